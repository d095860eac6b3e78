import PyProof.Rows.All
import HandS.ForMost
import HandS.ForExc
import HandS.Wide
import HandS.TupAny
import HandS.IsInst
import HandS.Style
import HandS.More
import HandS.WordsExc
import PySem.Challenge.RW_heaptrees_k02_sizes_and_depths
import Wide.All
import OpenK.AllK
import Wide.FinOn
set_option Elab.async false
set_option linter.all false
/-! VI.Core: a small interpreter over plain data (no heap). -/
namespace VI

/-- data. lst true: a list that one place alone holds (it may be changed); lst false: frozen. scr: the script -/
inductive D where
  | non | bl (b : Bool) | int (i : Int) | str (s : List Nat) | scr (ns : List Int)
  | tup (xs : List D) | lst (o : Bool) (xs : List D)
  deriving Inhabited

abbrev Env := List (Option D)

mutual
def D.fro : D → Bool
  | .tup xs => froL xs
  | .lst o xs => !o && froL xs
  | .non | .bl _ | .int _ | .str _ | .scr _ => true
def froL : List D → Bool
  | [] => true
  | x :: xs => x.fro && froL xs
end
mutual
def D.frz : D → D
  | .tup xs => .tup (frzL xs)
  | .lst _ xs => .lst false (frzL xs)
  | .non => .non | .bl b => .bl b | .int i => .int i | .str s => .str s | .scr ns => .scr ns
def frzL : List D → List D
  | [] => []
  | x :: xs => x.frz :: frzL xs
end

/-- what comes of a step: it is stuck (nothing is claimed), an error of a class flies, or a value -/
inductive R (α : Type) where
  | bad | exc (c : String) (e : Env) | ok (a : α)
def R.bind {α β : Type} : R α → (α → R β) → R β
  | .bad, _ => .bad
  | .exc c e, _ => .exc c e
  | .ok a, f => f a
instance : Monad R where
  pure := .ok
  bind := R.bind
@[simp] theorem bind_ok {α β : Type} (a : α) (f : α → R β) : (R.ok a >>= f) = f a := rfl
@[simp] theorem bind_exc {α β : Type} (c : String) (e : Env) (f : α → R β) : ((R.exc c e : R α) >>= f) = .exc c e := rfl
@[simp] theorem bind_bad {α β : Type} (f : α → R β) : ((R.bad : R α) >>= f) = .bad := rfl
@[simp] theorem pure_ok {α : Type} (a : α) : (pure a : R α) = .ok a := rfl
def R.of {α : Type} : Option α → R α
  | none => .bad
  | some a => .ok a
@[simp] theorem of_some {α : Type} (a : α) : R.of (some a) = .ok a := rfl
@[simp] theorem of_none {α : Type} : (R.of none : R α) = .bad := rfl

/-- what a call comes to: the value and what the in-out arguments hold behind it -/
inductive CR where
  | bad | exc (c : String) (outs : List (Option D)) | ok (d : D) (outs : List (Option D))
abbrev CF := String → List Nat → List D → CR

/-! ### syntax -/
inductive Md | pk | fz | mv
  deriving DecidableEq
inductive C | non | bl (b : Bool) | int (i : Int) | str (s : String)
  deriving DecidableEq
inductive O1 | neg | not_
  deriving DecidableEq
inductive O2 | add | sub | mul | fdiv | mod | pow
  deriving DecidableEq
inductive OC | eq | ne | lt | le | gt | ge | is_ | isn | in_ | nin
  deriving DecidableEq
inductive B1 | len | int | bool | list | tuple | sum | max | min | abs
  deriving DecidableEq
inductive B2 | max | min
  deriving DecidableEq
inductive Ty | int | bool | str | list | tuple | dict
  deriving DecidableEq
/-- changing methods of lists -/
inductive Mu | append | extend | pop | popAt | insert | reverse | clear
  deriving DecidableEq
inductive Tg | one (i : Nat) | many (is : List Nat)
  deriving DecidableEq
mutual
inductive E where
  | nm (m : Md) (i : Nat)
  | cst (c : C)
  | glc (g : String) (c : C)
  | op1 (o : O1) (a : E)
  | op2 (o : O2) (a b : E)
  | cmp (o : OC) (a b : E)
  | chn (o1 o2 : OC) (a b c : E)
  | boo (k : Bool) (es : Es)
  | idx (a b : E)
  | slc (a : E) (lo hi : Eo)
  | rev (a : E)
  | tup (es : Es)
  | lst (es : Es)
  | frz (a : E)
  | bc1 (f : B1) (a : E)
  | bc2 (f : B2) (a b : E)
  | isi (t : Ty) (a : E)
  | call (f : String) (as : Ags)
  | comp (e : E) (tg : Tg) (it : It) (c : Eo)
  | mut (m : Mu) (i : Nat) (p : Pth) (as : Es)
  | dead
inductive Es where
  | nil | cons (e : E) (r : Es)
inductive Eo where
  | none | some (e : E)
inductive Ags where
  | nil | v (e : E) (r : Ags) | io (i : Nat) (r : Ags)
inductive It where
  | seq (e : E) | rg1 (a : E) | rg2 (a b : E) | rg3 (a b c : E) | enu (a : E) | zip (a b : E)
inductive Pth where
  | nil | ix (r : Pth) (e : E)
end
inductive Mm | seti
mutual
inductive S where
  | asg (i : Nat) (e : E)
  | unp (is : List Nat) (e : E)
  | sti (i : Nat) (p : Pth) (k : E) (e : E)
  | aug (i : Nat) (o : O2) (e : E)
  | aui (i : Nat) (p : Pth) (k : E) (o : O2) (e : E)
  | exp (e : E)
  | ife (c : E) (a b : Ss)
  | for_ (tg : Tg) (it : It) (b : Ss)
  | whl (c : E) (b : Ss)
  | ret (e : E)
  | retn
  | pas
  | rai (c : String) (m : String)
  | dead
inductive Ss where
  | nil | cons (s : S) (r : Ss) | dead
end

/-! ### operations on data -/
def codes (s : String) : List Nat := s.toList.map Char.toNat
def C.d : C → D
  | .non => .non
  | .bl b => .bl b
  | .int i => .int i
  | .str s => .str (codes s)
/-- the place that an index means among n -/
def ixN (n : Nat) (i : Int) : Option Nat :=
  if 0 ≤ i then (if i < n then some i.toNat else none)
  else if -(n : Int) ≤ i then some (i + n).toNat else none
def atI {α : Type} (xs : List α) (i : Int) : Option α :=
  (ixN xs.length i).bind fun j => xs[j]?
/-- where a slice begins or ends -/
def sIx (n d : Nat) : Option Int → Nat
  | none => d
  | some v => if v < 0 then (v + n).toNat else min v.toNat n
def cut {α : Type} (xs : List α) (lo hi : Option Int) : List α := (xs.drop (sIx xs.length 0 lo)).take (sIx xs.length xs.length hi - sIx xs.length 0 lo)
/-- the greatest length of a list or a text -/
def line : Nat := 16777216
def mulOk (i j : Int) : Bool := (decide (i.natAbs < 2 ^ 64) || decide (j.natAbs < 2 ^ 64)) || (decide (i.natAbs < 2 ^ 1000) && decide (j.natAbs < 2 ^ 1000))
def op1D : O1 → D → Option D
  | .neg, .int i => some (.int (-i))
  | .not_, .bl b => some (.bl (!b))
  | _, _ => none
def rep {α : Type} (xs : List α) (k : Int) : List α := (List.replicate k.toNat xs).flatten
def op2D : O2 → D → D → Option D
  | .add, .int i, .int j => some (.int (i + j))
  | .sub, .int i, .int j => some (.int (i - j))
  | .mul, .int i, .int j => if mulOk i j then some (.int (i * j)) else none
  | .fdiv, .int i, .int j => if decide (0 < j) && decide (j.natAbs < 2 ^ 9000) then some (.int (i / j)) else none
  | .mod, .int i, .int j => if 0 < j then some (.int (i % j)) else none
  | .pow, .int i, .int j => if decide (0 ≤ j) && decide (j ≤ 1000) && decide (i.natAbs < 2 ^ 64) then some (.int (i ^ j.toNat)) else none
  | .add, .str s, .str t => if s.length + t.length ≤ line then some (.str (s ++ t)) else none
  | .add, .lst o xs, .lst o' ys => if froL xs && froL ys && decide (xs.length + ys.length ≤ line) then some (.lst true (xs ++ ys)) else none
  | .add, .tup xs, .tup ys => if froL xs && froL ys && decide (xs.length + ys.length ≤ line) then some (.tup (xs ++ ys)) else none
  | .mul, .lst o xs, .int k => if froL xs && (decide (0 ≤ k) && decide (k < 2 ^ 62) && decide (xs.length * k.toNat ≤ line)) then some (.lst true (rep xs k)) else none
  | _, _, _ => none
mutual
/-- == of data -/
def deq : D → D → Bool
  | .non, .non => true
  | .bl a, .bl b => a == b
  | .bl a, .int j => (if a then 1 else 0) == j
  | .int i, .bl b => i == (if b then 1 else 0)
  | .int i, .int j => i == j
  | .str x, .str y => x == y
  | .lst _ xs, .lst _ ys => deqL xs ys
  | .tup xs, .tup ys => deqL xs ys
  | _, _ => false
def deqL : List D → List D → Bool
  | [], [] => true
  | x :: xs, y :: ys => deq x y && deqL xs ys
  | _, _ => false
end
mutual
/-- how deep lists and tuples stand in one another -/
def D.deep : D → Nat
  | .tup xs => 1 + deepL xs
  | .lst _ xs => 1 + deepL xs
  | .non | .bl _ | .int _ | .str _ | .scr _ => 1
def deepL : List D → Nat
  | [] => 0
  | x :: xs => max x.deep (deepL xs)
end
/-- a code that a text may hold -/
def codeOk (c : Nat) : Bool := decide (c < 128)
mutual
/-- what == may be asked of -/
def D.plain : D → Bool
  | .tup xs => plainL xs
  | .lst _ xs => plainL xs
  | .str s => s.all codeOk
  | .non | .bl _ | .int _ => true
  | .scr _ => false
def plainL : List D → Bool
  | [] => true
  | x :: xs => x.plain && plainL xs
end
def D.isNon : D → Bool
  | .non => true
  | _ => false
def D.flat : D → Bool
  | .non | .bl _ | .int _ | .str _ => true
  | _ => false
def eqOk (x y : D) : Bool := x.plain && y.plain && decide (min x.deep y.deep ≤ 190)
def cmpD : OC → D → D → Option D
  | .eq, x, y => if eqOk x y then some (.bl (deq x y)) else none
  | .ne, x, y => if eqOk x y then some (.bl (!deq x y)) else none
  | .lt, .int i, .int j => some (.bl (decide (i < j)))
  | .le, .int i, .int j => some (.bl (decide (i ≤ j)))
  | .gt, .int i, .int j => some (.bl (decide (j < i)))
  | .ge, .int i, .int j => some (.bl (decide (j ≤ i)))
  | .is_, x, .non => some (.bl x.isNon)
  | .isn, x, .non => some (.bl (!x.isNon))
  | .is_, .bl a, .bl b => some (.bl (a == b))
  | .isn, .bl a, .bl b => some (.bl (!(a == b)))
  | .in_, .str [c], .str s => some (.bl (s.contains c))
  | .nin, .str [c], .str s => some (.bl (!s.contains c))
  | .in_, x, .lst _ ys => if x.flat && ys.all D.flat then some (.bl (ys.any fun y => deq y x)) else none
  | .nin, x, .lst _ ys => if x.flat && ys.all D.flat then some (.bl (!ys.any fun y => deq y x)) else none
  | .in_, x, .tup ys => if x.flat && ys.all D.flat then some (.bl (ys.any fun y => deq y x)) else none
  | .nin, x, .tup ys => if x.flat && ys.all D.flat then some (.bl (!ys.any fun y => deq y x)) else none
  | _, _, _ => none
def idxD : D → D → Option D
  | .lst _ xs, .int i => atI xs i
  | .tup xs, .int i => atI xs i
  | .str s, .int i => if s.length ≤ line then (atI s i).map fun c => .str [c] else none
  | .scr ns, .int i => (atI ns i).map .int
  | _, _ => none
def slcD : D → Option Int → Option Int → Option D
  | .lst _ xs, a, b => if froL xs then some (.lst true (cut xs a b)) else none
  | .tup xs, a, b => if froL xs then some (.tup (cut xs a b)) else none
  | .str s, a, b => if s.length ≤ line then some (.str (cut s a b)) else none
  | .scr ns, a, b => some (.lst true ((cut ns a b).map .int))
  | _, _, _ => none
def revD : D → Option D
  | .lst _ xs => if froL xs then some (.lst true xs.reverse) else none
  | _ => none
def intsOf : List D → Option (List Int)
  | [] => some []
  | .int i :: r => (intsOf r).map (i :: ·)
  | _ :: _ => none
def maxL : List Int → Option Int
  | [] => none
  | x :: r => some (r.foldl (fun a b => if b > a then b else a) x)
def minL : List Int → Option Int
  | [] => none
  | x :: r => some (r.foldl (fun a b => if b < a then b else a) x)
def b1D : B1 → D → Option D
  | .len, .lst _ xs => some (.int xs.length)
  | .len, .tup xs => some (.int xs.length)
  | .len, .str s => if s.length ≤ line then some (.int s.length) else none
  | .len, .scr ns => some (.int ns.length)
  | .int, .int i => some (.int i)
  | .int, .bl b => some (.int (if b then 1 else 0))
  | .bool, .bl b => some (.bl b)
  | .list, .lst _ xs => if froL xs then some (.lst true xs) else none
  | .list, .tup xs => if froL xs then some (.lst true xs) else none
  | .tuple, .lst _ xs => if froL xs then some (.tup xs) else none
  | .sum, .lst _ xs => (intsOf xs).map fun ns => .int ns.sum
  | .max, .lst _ xs => (intsOf xs).bind fun ns => (maxL ns).map .int
  | .min, .lst _ xs => (intsOf xs).bind fun ns => (minL ns).map .int
  | .abs, .int i => some (.int (if i < 0 then -i else i))
  | _, _ => none
def b2D : B2 → D → D → Option D
  | .max, .int i, .int j => some (.int (if j > i then j else i))
  | .min, .int i, .int j => some (.int (if j < i then j else i))
  | _, _, _ => none
def isiD : Ty → D → Option Bool
  | .int, .int _ => some true
  | .int, .bl _ => some true
  | .bool, .bl _ => some true
  | .str, .str _ => some true
  | .list, .lst _ _ => some true
  | .tuple, .tup _ => some true
  | _, .scr _ => none
  | _, _ => some false
/-- the things that a loop walks over a thing -/
def walkD : D → Option (List D)
  | .lst _ xs => if froL xs then some xs else none
  | .tup xs => if froL xs then some xs else none
  | .str s => some (s.map fun c => .str [c])
  | .scr ns => some (ns.map .int)
  | _ => none
def rangeD (lo hi st : Int) : Option (List D) :=
  if decide (-(2 ^ 60) ≤ lo) && decide (lo < 2 ^ 60) && decide (-(2 ^ 60) ≤ hi) && decide (hi < 2 ^ 60) then
    if st = 1 then some ((List.range (hi - lo).toNat).map fun (k : Nat) => D.int (lo + (k : Int)))
    else if st = -1 then some ((List.range (lo - hi).toNat).map fun (k : Nat) => D.int (lo - (k : Int)))
    else none
  else none
/-- a change of a list: what it gives, and the list -/
def mutD : Mu → D → List D → Option (D × D)
  | .append, .lst true xs, [y] => if xs.length < line then some (.non, .lst true (xs ++ [y])) else none
  | .extend, .lst true xs, [.lst _ ys] => if froL ys && decide (xs.length + ys.length ≤ line) then some (.non, .lst true (xs ++ ys)) else none
  | .pop, .lst true xs, [] => (xs.getLast?).map fun y => (y, .lst true xs.dropLast)
  | .popAt, .lst true xs, [.int i] => if decide (-(2 ^ 62) ≤ i) && decide (i < 2 ^ 62) then (ixN xs.length i).bind fun j => (xs[j]?).map fun y => (y, .lst true (xs.eraseIdx j)) else none
  | .insert, .lst true xs, [.int i, y] => if froL xs && decide (xs.length < line) && decide (0 ≤ i) && decide (i < 2 ^ 62) then some (.non, .lst true (xs.take i.toNat ++ [y] ++ xs.drop i.toNat)) else none
  | .reverse, .lst true xs, [] => some (.non, .lst true xs.reverse)
  | .clear, .lst true xs, [] => some (.non, .lst true [])
  | _, _, _ => none
def setD : D → D → D → Option D
  | .lst true xs, .int i, y => (ixN xs.length i).map fun j => .lst true (xs.set j y)
  | _, _, _ => none
/-- a change at a place within -/
def modAt : List D → D → (D → Option (D × D)) → Option (D × D)
  | [], d, f => f d
  | .int i :: r, .lst true xs, f => (ixN xs.length i).bind fun j => (xs[j]?).bind fun x => (modAt r x f).map fun (y, x') => (y, .lst true (xs.set j x'))
  | .int i :: r, .tup xs, f => (ixN xs.length i).bind fun j => (xs[j]?).bind fun x => (modAt r x f).map fun (y, x') => (y, .tup (xs.set j x'))
  | _, _, _ => none

/-! ### evaluation -/
abbrev Rt := Option Nat
def hid : Rt → Env → Env
  | none, e => e
  | some i, e => e.set i none
def unh : Rt → Env → Env → Env
  | none, _, e => e
  | some i, e0, e => e.set i (e0.getD i none)
@[simp] theorem hid_none (e : Env) : hid none e = e := rfl
@[simp] theorem unh_none (e0 e : Env) : unh none e0 e = e := rfl
/-- a value that stands alone -/
def own : R (D × Rt × Env) → R (D × Env)
  | .ok (d, none, e) => .ok (d, e)
  | .ok (_, some _, _) => .bad
  | .exc c e => .exc c e
  | .bad => .bad
@[simp] theorem own_ok (d : D) (e : Env) : own (.ok (d, none, e)) = .ok (d, e) := rfl
@[simp] theorem own_exc (c : String) (e : Env) : own (.exc c e) = .exc c e := rfl
@[simp] theorem own_bad : own .bad = .bad := rfl
def setMany : List Nat → List D → Env → Option Env
  | [], [], e => some e
  | i :: is, d :: ds, e => setMany is ds (e.set i (some d))
  | _, _, _ => none
def setTg : Tg → D → Env → Option Env
  | .one i, d, e => some (e.set i (some d))
  | .many is, .tup xs, e => setMany is xs e
  | .many _, _, _ => none
def Tg.slots : Tg → List Nat
  | .one i => [i]
  | .many is => is
/-- slots cleared; slots as they were -/
def clr : List Nat → Env → Env
  | [], e => e
  | i :: is, e => (clr is e).set i none
def bck : List Nat → Env → Env → Env
  | [], _, e => e
  | i :: is, e0, e => (bck is e0 e).set i (e0.getD i none)
def Ags.ios : Ags → List Nat
  | .nil => []
  | .v _ r => r.ios
  | .io i r => i :: r.ios
/-- the places of the in-out arguments -/
def Ags.iop : Ags → Nat → List Nat
  | .nil, _ => []
  | .v _ r, k => r.iop (k + 1)
  | .io _ r, k => k :: r.iop (k + 1)
/-- a step down -/
def stepD : D → D → Option D
  | .lst true xs, .int i => atI xs i
  | .tup xs, .int i => atI xs i
  | _, _ => none
def stepsD : D → List D → Option D
  | d, [] => some d
  | d, x :: r => (stepD d x).bind fun d' => stepsD d' r
def D.isOwn : D → Bool
  | .lst true _ => true
  | _ => false
def putOuts : List Nat → List (Option D) → Env → Env
  | i :: is, o :: os, e => putOuts is os (e.set i o)
  | _, _, e => e
/-- a comprehension's turns -/
def cloop (tst : Env → R (Bool × Env)) (elt : Env → R (D × Env)) (tg : Tg) : List D → Env → List D → R (List D × Env)
  | [], e, acc => .ok (acc, e)
  | x :: xs, e, acc => match setTg tg x e with
    | none => .bad
    | some e1 => match tst e1 with
      | .ok (true, e2) => match elt e2 with
        | .ok (d, e3) => if acc.length < line then cloop tst elt tg xs (clr tg.slots e3) (acc ++ [d]) else .bad
        | _ => .bad
      | .ok (false, e2) => cloop tst elt tg xs (clr tg.slots e2) acc
      | _ => .bad
def asBl : R (D × Rt × Env) → R (Bool × Env)
  | .ok (.bl b, _, e) => .ok (b, e)
  | .exc c e => .exc c e
  | _ => .bad
@[simp] theorem asBl_ok (b : Bool) (r : Rt) (e : Env) : asBl (.ok (.bl b, r, e)) = .ok (b, e) := rfl
@[simp] theorem asBl_exc (c : String) (e : Env) : asBl (.exc c e) = .exc c e := rfl
def rootOf (d : D) (i : Nat) : Rt := if d.fro then none else some i
def subRoot (d : D) (r : Rt) : Rt := if d.fro then none else r
def fin (z : Option D) (e : Env) : R (D × Rt × Env) := match z with
  | some d => .ok (d, none, e)
  | none => .bad
@[simp] theorem fin_some (d : D) (e : Env) : fin (some d) e = .ok (d, none, e) := rfl

def rng (lo hi st : D) (e : Env) : R (List D × Env) := match lo, hi, st with
  | .int a, .int b, .int c => match rangeD a b c with
    | some xs => .ok (xs, e)
    | none => .bad
  | _, _, _ => .bad
def numd : Nat → List D → List D
  | _, [] => []
  | k, x :: xs => .tup [.int (k : Int), x] :: numd (k + 1) xs
def zipd : List D → List D → List D
  | x :: xs, y :: ys => .tup [x, y] :: zipd xs ys
  | _, _ => []
def rng3 : D → D → D → Env → R (List D × Env)
  | .int a, .int b, .int (-1), e => if decide (-(2 ^ 60) ≤ a) && decide (a < 2 ^ 60) && decide (-(2 ^ 60) ≤ b) && decide (b < 2 ^ 60) then .ok ((List.range (a - b).toNat).map fun (k : Nat) => D.int (a - (k : Int)), e) else .bad
  | _, _, _, _ => .bad
def enuD : D → Option (List D)
  | .lst _ xs => if froL xs then some (numd 0 xs) else none
  | _ => none
def zipD2 : D → D → Option (List D)
  | .lst _ xs, .lst _ ys => if froL xs && froL ys then some (zipd xs ys) else none
  | _, _ => none
mutual
def pk (cf : CF) : E → Env → R (D × Rt × Env)
  | .nm .pk i, env => match env.getD i none with
    | some d => .ok (d, rootOf d i, env)
    | none => .bad
  | .nm .fz i, env => match env.getD i none with
    | some d => .ok (d.frz, none, env.set i (some d.frz))
    | none => .bad
  | .nm .mv i, env => match env.getD i none with
    | some d => .ok (d, none, env.set i none)
    | none => .bad
  | .cst c, env => .ok (c.d, none, env)
  | .glc _ c, env => .ok (c.d, none, env)
  | .op1 o a, env => pk cf a env >>= fun (x, _, e1) => fin (op1D o x) e1
  | .op2 o a b, env => pk cf a env >>= fun (x, r, e1) => pk cf b (hid r e1) >>= fun (y, _, e2) => fin (op2D o x y) (unh r e1 e2)
  | .cmp o a b, env => pk cf a env >>= fun (x, r, e1) => pk cf b (hid r e1) >>= fun (y, _, e2) => fin (cmpD o x y) (unh r e1 e2)
  | .chn o o' a b c, env => own (pk cf a env) >>= fun (x, e1) => own (pk cf b e1) >>= fun (y, e2) => match cmpD o x y with
    | some (.bl true) => pk cf c e2 >>= fun (z, _, e3) => fin (cmpD o' y z) e3
    | some (.bl false) => .ok (.bl false, none, e2)
    | _ => .bad
  | .boo k es, env => pkb cf k es env >>= fun (b, e1) => .ok (.bl b, none, e1)
  | .idx a b, env => pk cf a env >>= fun (x, r, e1) => pk cf b (hid r e1) >>= fun (y, _, e2) => match idxD x y with
    | some z => .ok (z, subRoot z r, unh r e1 e2)
    | none => .bad
  | .slc a lo hi, env => pk cf a env >>= fun (x, r, e1) => pko cf lo (hid r e1) >>= fun (l, e2) => pko cf hi e2 >>= fun (h, e3) => fin (slcD x l h) (unh r e1 e3)
  | .rev a, env => pk cf a env >>= fun (x, _, e1) => fin (revD x) e1
  | .tup es, env => pks cf es env >>= fun (ds, e1) => if ds.length ≤ line then .ok (.tup ds, none, e1) else .bad
  | .lst es, env => pks cf es env >>= fun (ds, e1) => if ds.length ≤ line then .ok (.lst true ds, none, e1) else .bad
  | .frz a, env => own (pk cf a env) >>= fun (x, e1) => .ok (x.frz, none, e1)
  | .bc1 f a, env => pk cf a env >>= fun (x, _, e1) => fin (b1D f x) e1
  | .bc2 f a b, env => pk cf a env >>= fun (x, r, e1) => pk cf b (hid r e1) >>= fun (y, _, e2) => fin (b2D f x y) (unh r e1 e2)
  | .isi t a, env => pk cf a env >>= fun (x, _, e1) => fin ((isiD t x).map .bl) e1
  | .call f as, env => pka cf as env >>= fun (ds, e1) => match cf f (as.iop 0) ds with
    | .ok d outs => .ok (d, none, putOuts as.ios outs e1)
    | .exc c outs => .exc c (putOuts as.ios outs e1)
    | .bad => .bad
  | .comp e tg it c, env => its cf it env >>= fun (xs, e1) =>
      cloop (fun e2 => match c with | .none => .ok (true, e2) | .some c => asBl (pk cf c e2)) (fun e2 => own (pk cf e e2)) tg xs (clr tg.slots e1) [] >>= fun (ds, e2) =>
        .ok (.lst true ds, none, bck tg.slots e1 e2)
  | .mut m i .nil as, env => match env.getD i none with
    | none => .bad
    | some d0 => if d0.isOwn then pks cf as env >>= fun (ds, e2) => match (e2.getD i none).bind fun d => mutD m d ds with
      | some (y, d') => .ok (y, none, e2.set i (some d'))
      | none => .bad
      else .bad
  | .mut m i p as, env => match env.getD i none with
    | none => .bad
    | some d0 => pkp cf p d0 (env.set i none) >>= fun (st, d1, e1) => if d1.isOwn then pks cf as e1 >>= fun (ds, e2) => match modAt st d0 fun d => mutD m d ds with
      | some (y, d') => .ok (y, none, e2.set i (some d'))
      | none => .bad
      else .bad
  | .dead, _ => .bad
def pkb (cf : CF) (k : Bool) : Es → Env → R (Bool × Env)
  | .nil, env => .ok (k, env)
  | .cons e r, env => asBl (pk cf e env) >>= fun (b, e1) => if b = k then pkb cf k r e1 else .ok (b, e1)
def pks (cf : CF) : Es → Env → R (List D × Env)
  | .nil, env => .ok ([], env)
  | .cons e r, env => own (pk cf e env) >>= fun (d, e1) => pks cf r e1 >>= fun (ds, e2) => .ok (d :: ds, e2)
def pko (cf : CF) : Eo → Env → R (Option Int × Env)
  | .none, env => .ok (none, env)
  | .some e, env => own (pk cf e env) >>= fun (d, e1) => match d with
    | .int i => .ok (some i, e1)
    | _ => .bad
def pka (cf : CF) : Ags → Env → R (List D × Env)
  | .nil, env => .ok ([], env)
  | .v e r, env => own (pk cf e env) >>= fun (d, e1) => pka cf r e1 >>= fun (ds, e2) => .ok (d.frz :: ds, e2)
  | .io i r, env => match env.getD i none with
    | some _ => pka cf r env >>= fun (ds, e2) => match e2.getD i none with
      | some d => .ok (d :: ds, e2.set i none)
      | none => .bad
    | none => .bad
def pkp (cf : CF) : Pth → D → Env → R (List D × D × Env)
  | .nil, d, env => .ok ([], d, env)
  | .ix r e, d, env => pkp cf r d env >>= fun (st, d1, e1) => own (pk cf e e1) >>= fun (x, e2) => match stepD d1 x with
    | some d2 => .ok (st ++ [x], d2, e2)
    | none => .bad
def its (cf : CF) : It → Env → R (List D × Env)
  | .seq a, env => own (pk cf a env) >>= fun (x, e1) => match walkD x.frz with
    | some xs => .ok (xs, e1)
    | none => .bad
  | .rg1 a, env => own (pk cf a env) >>= fun (x, e1) => rng (.int 0) x (.int 1) e1
  | .rg2 a b, env => own (pk cf a env) >>= fun (x, e1) => own (pk cf b e1) >>= fun (y, e2) => rng x y (.int 1) e2
  | .rg3 a b c, env => own (pk cf a env) >>= fun (x, e1) => own (pk cf b e1) >>= fun (y, e2) => own (pk cf c e2) >>= fun (z, e3) => rng3 x y z e3
  | .enu a, env => own (pk cf a env) >>= fun (x, e1) => match enuD x.frz with
    | some xs => .ok (xs, e1)
    | none => .bad
  | .zip a b, env => own (pk cf a env) >>= fun (x, e1) => own (pk cf b e1) >>= fun (y, e2) => match zipD2 x.frz y.frz with
    | some xs => .ok (xs, e2)
    | none => .bad
end

/-! ### statements -/
inductive Fl where
  | bad | exc (c : String) (e : Env) | nxt (e : Env) | ret (d : D) (e : Env)
def R.fl {α : Type} : R α → (α → Fl) → Fl
  | .bad, _ => .bad
  | .exc c e, _ => .exc c e
  | .ok a, f => f a
@[simp] theorem fl_ok {α : Type} (a : α) (f : α → Fl) : (R.ok a).fl f = f a := rfl
@[simp] theorem fl_exc {α : Type} (c : String) (e : Env) (f : α → Fl) : (R.exc c e : R α).fl f = .exc c e := rfl
@[simp] theorem fl_bad {α : Type} (f : α → Fl) : (R.bad : R α).fl f = .bad := rfl
def Fl.seq : Fl → (Env → Fl) → Fl
  | .nxt e, f => f e
  | .bad, _ => .bad
  | .exc c e, _ => .exc c e
  | .ret d e, _ => .ret d e
@[simp] theorem seq_nxt (e : Env) (f : Env → Fl) : (Fl.nxt e).seq f = f e := rfl
@[simp] theorem seq_bad (f : Env → Fl) : Fl.bad.seq f = .bad := rfl
@[simp] theorem seq_exc (c : String) (e : Env) (f : Env → Fl) : (Fl.exc c e).seq f = .exc c e := rfl
@[simp] theorem seq_ret (d : D) (e : Env) (f : Env → Fl) : (Fl.ret d e).seq f = .ret d e := rfl
/-- a for's turns -/
def floop (body : Env → Fl) (tg : Tg) : List D → Env → Fl
  | [], e => .nxt e
  | x :: xs, e => match setTg tg x e with
    | none => .bad
    | some e1 => (body e1).seq (floop body tg xs)
/-- a while's turns, at most n -/
def wloopN (c : Env → R (Bool × Env)) (body : Env → Fl) : Nat → Env → Option Fl
  | 0, _ => none
  | n + 1, e => match c e with
    | .ok (true, e1) => match body e1 with
      | .nxt e2 => wloopN c body n e2
      | f => some f
    | .ok (false, e1) => some (.nxt e1)
    | .exc c' e1 => some (.exc c' e1)
    | .bad => some .bad
open Classical in
noncomputable def wloop (c : Env → R (Bool × Env)) (body : Env → Fl) (e : Env) : Fl :=
  if h : ∃ n f, wloopN c body n e = some f then Classical.choose (Classical.choose_spec h) else .bad
def ofEnv : Option Env → Fl
  | some e => .nxt e
  | none => .bad
@[simp] theorem ofEnv_some (e : Env) : ofEnv (some e) = .nxt e := rfl
@[simp] theorem ofEnv_none : ofEnv none = .bad := rfl
def unpD (is : List Nat) : D → Env → Option Env
  | .tup xs, e => if froL xs then setMany is xs e else none
  | .lst _ xs, e => if froL xs then setMany is xs e else none
  | _, _ => none
def augD : O2 → D → D → Option D
  | .add, .int i, .int j => some (.int (i + j))
  | .sub, .int i, .int j => some (.int (i - j))
  | _, _, _ => none
mutual
noncomputable def ex (cf : CF) : S → Env → Fl
  | .asg i e, env => (own (pk cf e env)).fl fun (d, e1) => .nxt (e1.set i (some d))
  | .unp is e, env => (own (pk cf e env)).fl fun (d, e1) => ofEnv (unpD is d e1)
  | .sti i p k e, env => (own (pk cf e env)).fl fun (y, e1) => match e1.getD i none with
    | none => .bad
    | some d0 => (pkp cf p d0 (e1.set i none)).fl fun (st, _, e2) => (own (pk cf k e2)).fl fun (x, e3) =>
      ofEnv ((modAt st d0 fun d => (setD d x y).map fun d' => (.non, d')).map fun (_, d') => e3.set i (some d'))
  | .aug i o e, env => match env.getD i none with
    | some x => (own (pk cf e env)).fl fun (y, e1) => ofEnv ((augD o x y).map fun z => e1.set i (some z))
    | none => .bad
  | .aui i p k o e, env => match env.getD i none with
    | none => .bad
    | some d0 => (pkp cf p d0 (env.set i none)).fl fun (st, d1, e2) => (own (pk cf k e2)).fl fun (x, e3) => match idxD d1 x with
      | none => .bad
      | some w => if d1.isOwn then (own (pk cf e e3)).fl fun (y, e4) =>
        ofEnv ((augD o w y).bind fun z => (modAt st d0 fun d => (setD d x z).map fun d' => (.non, d')).map fun (_, d') => e4.set i (some d'))
        else .bad
  | .exp e, env => (pk cf e env).fl fun (_, _, e1) => .nxt e1
  | .ife c a b, env => (asBl (pk cf c env)).fl fun (t, e1) => if t then exs cf a e1 else exs cf b e1
  | .for_ tg it b, env => (its cf it env).fl fun (xs, e1) => floop (exs cf b) tg xs e1
  | .whl c b, env => wloop (fun e => asBl (pk cf c e)) (exs cf b) env
  | .ret e, env => (own (pk cf e env)).fl fun (d, e1) => .ret d e1
  | .retn, env => .ret .non env
  | .pas, env => .nxt env
  | .rai c _, env => .exc c env
  | .dead, _ => .bad
noncomputable def exs (cf : CF) : Ss → Env → Fl
  | .nil, env => .nxt env
  | .cons s r, env => (ex cf s env).seq (exs cf r)
  | .dead, _ => .bad
end

/-! ### functions -/
structure Fn where
  np : Nat
  ns : Nat
  io : List Nat
  body : Ss
abbrev Prg := String → Option Fn
noncomputable def callF (P : Prg) : Nat → CF
  | 0, _, _, _ => .bad
  | k + 1, f, io, as => match P f with
    | none => .bad
    | some fn => if as.length = fn.np ∧ io = fn.io then
        match exs (callF P k) fn.body (as.map some ++ List.replicate (fn.ns - fn.np) none) with
        | .ret d e => .ok d (fn.io.map fun i => e.getD i none)
        | .nxt e => .ok .non (fn.io.map fun i => e.getD i none)
        | .exc c e => .exc c (fn.io.map fun i => e.getD i none)
        | .bad => .bad
      else .bad
end VI

set_option maxRecDepth 100000
set_option maxHeartbeats 2000000
/-! VI.Sound1: what data stands where; slots; the memory. -/
namespace VI
open PySem PySem.Spec PyProof.Rows
open L2 (V Hp HO SqL SqT Same upd upd_same upd_ne RelV Vals VK WX)

mutual
/-- v stands for d: what is frozen in F; what is owned in H, at the places L -/
inductive Rep (K : PySem.W.Frag) (F H : Hp) : V → D → List Addr → Prop
  | non : Rep K F H .non .non []
  | bl (b : Bool) : Rep K F H (.bl b) (.bl b) []
  | int (i : Int) : Rep K F H (.int i) (.int i) []
  | str {x : Str} {s : List Nat} : x.cps.toList = s → Rep K F H (.str x) (.str s) []
  | scr {a : Addr} {ns : List Int} : SqL K F a (ns.map V.int) → Rep K F H (.ref a) (.scr ns) []
  | tup {a : Addr} {vs : List V} {xs : List D} {L : List Addr} : F a = some (.tup vs) → Reps K F H vs xs L → Rep K F H (.ref a) (.tup xs) L
  | lstF {a : Addr} {vs : List V} {xs : List D} : F a = some (.lst vs) → Reps K F H vs xs [] → Rep K F H (.ref a) (.lst false xs) []
  | lstO {a : Addr} {vs : List V} {xs : List D} {L : List Addr} : H a = some (.lst vs) → Reps K F H vs xs L → Rep K F H (.ref a) (.lst true xs) (a :: L)
inductive Reps (K : PySem.W.Frag) (F H : Hp) : List V → List D → List Addr → Prop
  | nil : Reps K F H [] [] []
  | cons {v : V} {d : D} {L1 : List Addr} {vs : List V} {ds : List D} {L2 : List Addr} : Rep K F H v d L1 → Reps K F H vs ds L2 → Reps K F H (v :: vs) (d :: ds) (L1 ++ L2)
end

section
variable {K : PySem.W.Frag} {F F' H H' : Hp}
theorem sqL_same {a : Addr} {xs : List V} (e : Same F F') (h : SqL K F a xs) : SqL K F' a xs := e.seq h
mutual
theorem Rep.mono (e : Same F F') : ∀ {v : V} {d : D} {L : List Addr}, (∀ a ∈ L, H' a = H a) → Rep K F H v d L → Rep K F' H' v d L
  | _, _, _, _, .non => .non
  | _, _, _, _, .bl b => .bl b
  | _, _, _, _, .int i => .int i
  | _, _, _, _, .str h => .str h
  | _, _, _, _, .scr h => .scr (e.seq h)
  | _, _, _, k, .tup h r => .tup (e _ _ h) (Reps.mono e k r)
  | _, _, _, _, .lstF h r => .lstF (e _ _ h) (Reps.mono e (fun _ z => nomatch z) r)
  | _, _, _, k, .lstO h r => .lstO ((k _ List.mem_cons_self).trans h) (Reps.mono e (fun a ha => k a (List.mem_cons_of_mem _ ha)) r)
theorem Reps.mono (e : Same F F') : ∀ {vs : List V} {ds : List D} {L : List Addr}, (∀ a ∈ L, H' a = H a) → Reps K F H vs ds L → Reps K F' H' vs ds L
  | _, _, _, _, .nil => .nil
  | _, _, _, k, .cons r rs => .cons (Rep.mono e (fun a ha => k a (List.mem_append_left _ ha)) r) (Reps.mono e (fun a ha => k a (List.mem_append_right _ ha)) rs)
end
/-! what is frozen owns nothing -/
mutual
theorem Rep.fro0 : ∀ {v : V} {d : D} {L : List Addr}, d.fro = true → Rep K F H v d L → L = []
  | _, _, _, _, .non => rfl
  | _, _, _, _, .bl b => rfl
  | _, _, _, _, .int i => rfl
  | _, _, _, _, .str h => rfl
  | _, _, _, _, .scr h => rfl
  | _, _, _, q, .tup h r => Reps.fro0 (by simpa [D.fro] using q) r
  | _, _, _, _, .lstF h r => rfl
  | _, _, _, q, .lstO h r => by simp [D.fro] at q
theorem Reps.fro0 : ∀ {vs : List V} {ds : List D} {L : List Addr}, froL ds = true → Reps K F H vs ds L → L = []
  | _, _, _, _, .nil => rfl
  | _, _, _, q, .cons r rs => by
    simp only [froL, Bool.and_eq_true] at q
    rw [Rep.fro0 q.1 r, Reps.fro0 q.2 rs]
    rfl
end
/-! frozen: all its places go over to F -/
mutual
theorem Rep.frz (e : Same F F') : ∀ {v : V} {d : D} {L : List Addr}, (∀ a ∈ L, F' a = H a) → Rep K F H v d L → Rep K F' H' v d.frz []
  | _, _, _, _, .non => .non
  | _, _, _, _, .bl b => .bl b
  | _, _, _, _, .int i => .int i
  | _, _, _, _, .str h => .str h
  | _, _, _, _, .scr h => .scr (e.seq h)
  | _, _, _, k, .tup h r => by
    simp only [D.frz]
    exact .tup (e _ _ h) (Reps.frz e k r)
  | _, _, _, _, .lstF h r => by
    simp only [D.frz]
    exact .lstF (e _ _ h) (Reps.frz e (fun a z => absurd z List.not_mem_nil) r)
  | _, _, _, k, .lstO h r => by
    simp only [D.frz]
    exact .lstF ((k _ List.mem_cons_self).trans h) (Reps.frz e (fun a ha => k a (List.mem_cons_of_mem _ ha)) r)
theorem Reps.frz (e : Same F F') : ∀ {vs : List V} {ds : List D} {L : List Addr}, (∀ a ∈ L, F' a = H a) → Reps K F H vs ds L → Reps K F' H' vs (frzL ds) []
  | _, _, _, _, .nil => .nil
  | _, _, _, k, .cons r rs => by
    simp only [frzL]
    exact .cons (L1 := []) (L2 := []) (Rep.frz e (fun a ha => k a (List.mem_append_left _ ha)) r) (Reps.frz e (fun a ha => k a (List.mem_append_right _ ha)) rs)
end
theorem Reps.length : ∀ {vs : List V} {ds : List D} {L : List Addr}, Reps K F H vs ds L → vs.length = ds.length
  | _, _, _, .nil => rfl
  | _, _, _, .cons _ rs => by rw [List.length_cons, List.length_cons, Reps.length rs]
theorem Reps.append : ∀ {vs ws : List V} {ds es : List D} {L M : List Addr}, Reps K F H vs ds L → Reps K F H ws es M → Reps K F H (vs ++ ws) (ds ++ es) (L ++ M)
  | _, _, _, _, _, _, .nil, s => s
  | _, _, _, _, _, _, .cons r rs, s => by
    rw [List.append_assoc]
    exact .cons r (Reps.append rs s)
theorem Reps.one {v : V} {d : D} {L : List Addr} (r : Rep K F H v d L) : Reps K F H [v] [d] L := by
  have := Reps.cons r .nil
  rwa [List.append_nil] at this
/-- an item within -/
theorem Reps.at : ∀ {vs : List V} {ds : List D} {L : List Addr} {j : Nat} {d : D}, Reps K F H vs ds L → ds[j]? = some d →
    ∃ v L1 L2 L3, vs[j]? = some v ∧ L = L1 ++ L2 ++ L3 ∧ Rep K F H v d L2 ∧
      (∀ F2 H2 v' d' L2', Same F F2 → (∀ a ∈ L1 ++ L3, H2 a = H a) → Rep K F2 H2 v' d' L2' → Reps K F2 H2 (vs.set j v') (ds.set j d') (L1 ++ L2' ++ L3)) ∧
      Reps K F H (vs.eraseIdx j) (ds.eraseIdx j) (L1 ++ L3)
  | _, _, _, _, _, .nil, h => by simp at h
  | _, _, _, 0, d, .cons (L1 := La) (L2 := Lb) r rs, h => by
    have e : _ = d := Option.some.inj h
    subst e
    refine ⟨_, [], La, Lb, rfl, rfl, r, fun F2 H2 v' d' L2' e1 e2 r' => ?_, rs⟩
    exact .cons r' (rs.mono e1 fun a ha => e2 a (by simpa using ha))
  | _, _, _, j + 1, d, .cons (L1 := La) (L2 := Lb) r rs, h => by
    obtain ⟨v, L1, L2, L3, h1, h2, h3, h4, h5⟩ := Reps.at (j := j) rs (by simpa using h)
    refine ⟨v, La ++ L1, L2, L3, by simpa using h1, by rw [h2]; simp [List.append_assoc], h3, fun F2 H2 v' d' L2' e1 e2 r' => ?_, ?_⟩
    · have q := h4 F2 H2 v' d' L2' e1 (fun a ha => e2 a (by
        rcases List.mem_append.mp ha with z | z
        · exact List.mem_append_left _ (List.mem_append_right _ z)
        · exact List.mem_append_right _ z)) r'
      have q2 := Reps.cons (r.mono e1 fun a ha => e2 a (List.mem_append_left _ (List.mem_append_left _ ha))) q
      have e3 : La ++ (L1 ++ L2' ++ L3) = La ++ L1 ++ L2' ++ L3 := by simp [List.append_assoc]
      rw [e3] at q2
      exact q2
    · have q2 := Reps.cons r h5
      have e3 : La ++ (L1 ++ L3) = La ++ L1 ++ L3 := by simp [List.append_assoc]
      rw [e3] at q2
      exact q2
theorem app_nil {α : Type} {a b : List α} (h : a ++ b = []) : a = [] ∧ b = [] := List.append_eq_nil_iff.mp h
theorem Reps.unL {v : V} {d : D} {vs : List V} {ds : List D} {L : List Addr} (h : Reps K F H (v :: vs) (d :: ds) L) : L = [] → Rep K F H v d [] ∧ Reps K F H vs ds [] := by
  intro e
  cases h with
  | cons r rs =>
    obtain ⟨e1, e2⟩ := app_nil e
    rw [e1] at r
    rw [e2] at rs
    exact ⟨r, rs⟩
theorem Reps.un {v : V} {d : D} {vs : List V} {ds : List D} (h : Reps K F H (v :: vs) (d :: ds) []) : Rep K F H v d [] ∧ Reps K F H vs ds [] := h.unL rfl
theorem Reps.co {v : V} {d : D} {vs : List V} {ds : List D} (r : Rep K F H v d []) (rs : Reps K F H vs ds []) : Reps K F H (v :: vs) (d :: ds) [] := .cons (L1 := []) (L2 := []) r rs
/-- of frozen things any part -/
theorem Reps.take : ∀ {vs : List V} {ds : List D} (n : Nat), Reps K F H vs ds [] → Reps K F H (vs.take n) (ds.take n) []
  | [], [], n, h => by rw [List.take_nil, List.take_nil]; exact .nil
  | v :: vs, [], n, h => by have := h.length; simp at this
  | [], d :: ds, n, h => by have := h.length; simp at this
  | v :: vs, d :: ds, 0, h => .nil
  | v :: vs, d :: ds, n + 1, h => .co h.un.1 (Reps.take n h.un.2)
theorem Reps.drop : ∀ {vs : List V} {ds : List D} (n : Nat), Reps K F H vs ds [] → Reps K F H (vs.drop n) (ds.drop n) []
  | [], [], n, h => by rw [List.drop_nil, List.drop_nil]; exact .nil
  | v :: vs, [], n, h => by have := h.length; simp at this
  | [], d :: ds, n, h => by have := h.length; simp at this
  | v :: vs, d :: ds, 0, h => h
  | v :: vs, d :: ds, n + 1, h => Reps.drop n h.un.2
theorem Reps.app0 {vs ws : List V} {ds es : List D} (h : Reps K F H vs ds []) (h' : Reps K F H ws es []) : Reps K F H (vs ++ ws) (ds ++ es) [] := Reps.append (L := []) (M := []) h h'
theorem Reps.rev0 : ∀ {vs : List V} {ds : List D}, Reps K F H vs ds [] → Reps K F H vs.reverse ds.reverse []
  | [], [], h => .nil
  | v :: vs, [], h => by have := h.length; simp at this
  | [], d :: ds, h => by have := h.length; simp at this
  | v :: vs, d :: ds, h => by
    rw [List.reverse_cons, List.reverse_cons]
    exact (Reps.rev0 h.un.2).app0 (.one h.un.1)
theorem Reps.rep0 {vs : List V} {ds : List D} (h : Reps K F H vs ds []) : ∀ n : Nat, Reps K F H (List.replicate n vs).flatten (List.replicate n ds).flatten []
  | 0 => .nil
  | n + 1 => by
    rw [List.replicate_succ, List.replicate_succ, List.flatten_cons, List.flatten_cons]
    exact h.app0 (Reps.rep0 h n)
theorem Reps.get0 : ∀ {vs : List V} {ds : List D} {j : Nat} {d : D}, Reps K F H vs ds [] → ds[j]? = some d → ∃ v, vs[j]? = some v ∧ Rep K F H v d []
  | [], [], j, d, h, e => by simp at e
  | v :: vs, [], n, _, h, _ => by have := h.length; simp at this
  | [], d :: ds, n, _, h, _ => by have := h.length; simp at this
  | v :: vs, d :: ds, 0, d', h, e => ⟨v, rfl, by
      have e' : d = d' := Option.some.inj e
      rw [← e']
      exact h.un.1⟩
  | v :: vs, d :: ds, j + 1, d', h, e => by
    obtain ⟨w, h1, h2⟩ := Reps.get0 (j := j) h.un.2 (by simpa using e)
    exact ⟨w, by simpa using h1, h2⟩
/-- reversed: the same places -/
theorem Reps.rev : ∀ {vs : List V} {ds : List D} {L : List Addr}, Reps K F H vs ds L → ∃ L', Reps K F H vs.reverse ds.reverse L' ∧ (L.Nodup → L'.Nodup) ∧ ∀ a, a ∈ L' ↔ a ∈ L
  | _, _, _, .nil => ⟨[], .nil, fun h => h, fun a => Iff.rfl⟩
  | _, _, _, .cons (L1 := A) (L2 := B) r rs => by
    obtain ⟨L', h1, h2, h3⟩ := Reps.rev rs
    refine ⟨L' ++ A, ?_, fun h => ?_, fun a => ?_⟩
    · rw [List.reverse_cons, List.reverse_cons]
      exact h1.append (.one r)
    · rw [List.nodup_append] at h ⊢
      refine ⟨h2 h.2.1, h.1, fun a ha b hb e => ?_⟩
      exact h.2.2 b hb a ((h3 a).mp ha) e.symm
    · rw [List.mem_append, List.mem_append, h3]
      exact Or.comm
/-- all items flat: the codes of texts, ints -/
theorem reps_ints : ∀ (ns : List Int), Reps K F H (ns.map V.int) (ns.map D.int) []
  | [] => .nil
  | n :: ns => .co (.int n) (reps_ints ns)
theorem Reps.intsOf : ∀ {vs : List V} {ds : List D} {L : List Addr} {ns : List Int}, Reps K F H vs ds L → intsOf ds = some ns → vs = ns.map V.int
  | _, _, _, _, .nil, h => by
    simp only [VI.intsOf, Option.some.injEq] at h
    rw [← h]
    rfl
  | _, _, _, ns, .cons r rs, h => by
    cases r with
    | int i =>
      simp only [VI.intsOf] at h
      cases e : VI.intsOf _ with
      | none => rw [e] at h; simp at h
      | some m =>
        rw [e] at h
        simp only [Option.map_some, Option.some.injEq] at h
        rw [← h, Reps.intsOf rs e]
        rfl
    | _ => simp [VI.intsOf] at h
end
end VI

set_option maxRecDepth 100000
set_option maxHeartbeats 2000000
/-! VI.Sound2: slots and memory. -/
namespace VI
open PySem PySem.Spec PyProof.Rows
open L2 (V Hp HO SqL SqT Same upd upd_same upd_ne RelV Vals VK WX)

theorem getD_set (e : Env) (i j : Nat) (x : Option D) : (e.set i x).getD j none = if i = j ∧ i < e.length then x else e.getD j none := by
  rw [List.getD_eq_getElem?_getD, List.getD_eq_getElem?_getD, List.getElem?_set]
  by_cases h : i = j
  · subst h
    by_cases h2 : i < e.length
    · simp [h2]
    · simp [h2]
  · simp [h]
theorem getD_lt {e : Env} {i : Nat} {d : D} (h : e.getD i none = some d) : i < e.length := by
  rw [List.getD_eq_getElem?_getD] at h
  cases q : e[i]? with
  | none => rw [q] at h; simp at h
  | some x => exact (List.getElem?_eq_some_iff.mp q).1
theorem getD_clr (e : Env) (i : Nat) : (e.set i none).getD i none = none := by
  rw [getD_set]
  by_cases h : i < e.length
  · simp [h]
  · simp only [h, and_false, if_false]
    rw [List.getD_eq_getElem?_getD, List.getElem?_eq_none (Nat.le_of_not_lt h)]
    rfl
theorem getD_clr_ne {e : Env} {i j : Nat} (h : i ≠ j) (x : Option D) : (e.set i x).getD j none = e.getD j none := by
  rw [getD_set]
  simp [h]

structure Slot (K : PySem.W.Frag) (F H : Hp) (T : Addr → Prop) (σ : L2.St) (env : Env) (Lf : Nat → List Addr) : Prop where
  has : ∀ i d, env.getD i none = some d → ∃ v, σ[i]? = some (some v) ∧ Rep K F H v d (Lf i)
  non : ∀ i, env.getD i none = none → Lf i = []
  nd : ∀ i, (Lf i).Nodup
  dj : ∀ i j a, a ∈ Lf i → a ∈ Lf j → i = j
  ok : ∀ i a, a ∈ Lf i → F a = none ∧ ¬ T a ∧ H a ≠ none
/-- the memory: F within H; T: what others hold; the slots' things -/
structure Mem (K : PySem.W.Frag) (F H : Hp) (T : Addr → Prop) (σ : L2.St) (env : Env) : Prop where
  sub : Same F H
  fr : ∀ a, T a → F a = none ∧ H a ≠ none
  len : env.length = σ.length
  sl : ∃ Lf, Slot K F H T σ env Lf
def Tp (T : Addr → Prop) (L : List Addr) : Addr → Prop := fun a => T a ∨ a ∈ L
theorem Tp_l {T : Addr → Prop} {L : List Addr} {a : Addr} (h : T a) : Tp T L a := .inl h
theorem Tp_r {T : Addr → Prop} {L : List Addr} {a : Addr} (h : a ∈ L) : Tp T L a := .inr h
theorem Tp_nil {T : Addr → Prop} : Tp T [] = T := by
  funext a
  apply propext
  exact ⟨fun h => h.elim id fun z => absurd z List.not_mem_nil, .inl⟩
theorem Tp_Tp {T : Addr → Prop} {L M : List Addr} : Tp (Tp T L) M = Tp T (L ++ M) := by
  funext a
  apply propext
  unfold Tp
  rw [List.mem_append]
  constructor
  · rintro ((h | h) | h)
    · exact .inl h
    · exact .inr (.inl h)
    · exact .inr (.inr h)
  · rintro (h | h | h)
    · exact .inl (.inl h)
    · exact .inl (.inr h)
    · exact .inr h

section
variable {K : PySem.W.Frag} {F F' H H' : Hp} {T T' : Addr → Prop} {σ : L2.St} {env : Env}
theorem Mem.step (m : Mem K F H T σ env) (e1 : Same F F') (e2 : Same F' H') (fr : ∀ a, T' a → F' a = none ∧ H' a ≠ none)
    (k : ∀ a, H a ≠ none → F a = none → ¬ T a → H' a = H a ∧ F' a = none ∧ ¬ T' a) : Mem K F' H' T' σ env := by
  obtain ⟨Lf, s⟩ := m.sl
  refine ⟨e2, fr, m.len, Lf, ⟨fun i d h => ?_, s.non, s.nd, s.dj, fun i a h => ?_⟩⟩
  · obtain ⟨v, h1, h2⟩ := s.has i d h
    exact ⟨v, h1, h2.mono e1 fun a ha => (k a (s.ok i a ha).2.2 (s.ok i a ha).1 (s.ok i a ha).2.1).1⟩
  · obtain ⟨a1, a2, a3⟩ := s.ok i a h
    obtain ⟨b1, b2, b3⟩ := k a a3 a1 a2
    exact ⟨b2, b3, by rw [b1]; exact a3⟩
theorem Mem.weak (m : Mem K F H T σ env) (h : ∀ a, T' a → T a) : Mem K F H T' σ env :=
  m.step (Same.refl F) m.sub (fun a ha => m.fr a (h a ha)) fun a _ h2 h3 => ⟨rfl, h2, fun z => h3 (h a z)⟩
theorem Mem.drop {L : List Addr} (m : Mem K F H (Tp T L) σ env) : Mem K F H T σ env := m.weak fun _ h => .inl h
theorem Mem.fresh {p : Addr} (m : Mem K F H T σ env) (h : H p = none) : F p = none ∧ ¬ T p :=
  ⟨m.sub.free h, fun z => (m.fr p z).2 h⟩
/-- a slot's thing is held by others -/
theorem Mem.hide (m : Mem K F H T σ env) {i : Nat} {d : D} (h : env.getD i none = some d) :
    ∃ v L, σ[i]? = some (some v) ∧ Rep K F H v d L ∧ L.Nodup ∧ (∀ a ∈ L, ¬ T a) ∧ Mem K F H (Tp T L) σ (env.set i none) := by
  obtain ⟨Lf, s⟩ := m.sl
  obtain ⟨v, h1, h2⟩ := s.has i d h
  refine ⟨v, Lf i, h1, h2, s.nd i, fun a ha => (s.ok i a ha).2.1, m.sub, fun a ha => ?_, by rw [List.length_set]; exact m.len, fun j => if j = i then [] else Lf j, ⟨fun j d' h' => ?_, fun j h' => ?_, fun j => ?_, fun j k a ha hb => ?_, fun j a ha => ?_⟩⟩
  · rcases ha with ha | ha
    · exact m.fr a ha
    · exact ⟨(s.ok i a ha).1, (s.ok i a ha).2.2⟩
  · by_cases e : i = j
    · subst e
      rw [getD_clr] at h'
      cases h'
    · rw [getD_clr_ne e] at h'
      obtain ⟨w, q1, q2⟩ := s.has j d' h'
      refine ⟨w, q1, ?_⟩
      rw [if_neg (Ne.symm e)]
      exact q2
  · split
    · rfl
    · rename_i e
      rw [getD_clr_ne (Ne.symm e)] at h'
      exact s.non j h'
  · split
    · exact List.nodup_nil
    · exact s.nd j
  · split at ha
    · exact absurd ha List.not_mem_nil
    · split at hb
      · exact absurd hb List.not_mem_nil
      · exact s.dj j k a ha hb
  · split at ha
    · exact absurd ha List.not_mem_nil
    · rename_i e
      obtain ⟨a1, a2, a3⟩ := s.ok j a ha
      refine ⟨a1, fun z => ?_, a3⟩
      rcases z with z | z
      · exact a2 z
      · exact e (s.dj j i a ha z)
theorem Mem.clear (m : Mem K F H T σ env) (i : Nat) : Mem K F H T σ (env.set i none) := by
  cases h : env.getD i none with
  | some d =>
    obtain ⟨v, L, _, _, _, _, m'⟩ := m.hide h
    exact m'.drop
  | none =>
    have e : env.set i none = env := by
      apply List.ext_getElem?
      intro j
      rw [List.getElem?_set]
      by_cases q : i = j
      · subst q
        rw [List.getD_eq_getElem?_getD] at h
        by_cases l : i < env.length
        · rw [List.getElem?_eq_getElem l] at h ⊢
          simp only [Option.getD_some] at h
          simp [h, l]
        · simp [l]
      · simp [q]
    rw [e]
    exact m
/-- a thing comes to a slot -/
theorem Mem.put {i : Nat} {v : V} {d : D} {L : List Addr} (m : Mem K F H (Tp T L) σ env) (r : Rep K F H v d L) (nd : L.Nodup) (nt : ∀ a ∈ L, ¬ T a) (hi : i < σ.length) :
    Mem K F H T (σ.set i (some v)) (env.set i (some d)) := by
  have m0 := m.clear i
  obtain ⟨Lf, s⟩ := m0.sl
  have hl : i < env.length := by rw [m.len]; exact hi
  have hT : ∀ a ∈ L, ∀ j, a ∉ Lf j := fun a ha j z => (s.ok j a z).2.1 (.inr ha)
  refine ⟨m.sub, fun a ha => m.fr a (.inl ha), by rw [List.length_set, List.length_set]; exact m.len, fun j => if j = i then L else Lf j, ⟨fun j d' h' => ?_, fun j h' => ?_, fun j => ?_, fun j k a ha hb => ?_, fun j a ha => ?_⟩⟩
  · by_cases e : i = j
    · subst e
      rw [getD_set, if_pos ⟨rfl, hl⟩] at h'
      cases h'
      refine ⟨v, by rw [List.getElem?_set_self hi], ?_⟩
      rw [if_pos rfl]
      exact r
    · rw [getD_clr_ne e] at h'
      obtain ⟨w, q1, q2⟩ := s.has j d' (by rw [getD_clr_ne e]; exact h')
      refine ⟨w, by rw [List.getElem?_set_ne e]; exact q1, ?_⟩
      rw [if_neg (Ne.symm e)]
      exact q2
  · split
    · rename_i e
      subst e
      rw [getD_set, if_pos ⟨rfl, hl⟩] at h'
      cases h'
    · rename_i e
      rw [getD_clr_ne (Ne.symm e)] at h'
      exact s.non j (by rw [getD_clr_ne (Ne.symm e)]; exact h')
  · split
    · exact nd
    · exact s.nd j
  · split at ha
    · split at hb
      · rename_i e1 e2
        rw [e1, e2]
      · exact absurd hb (hT a ha k)
    · split at hb
      · exact absurd ha (hT a hb j)
      · exact s.dj j k a ha hb
  · split at ha
    · exact ⟨(m.fr a (.inr ha)).1, nt a ha, (m.fr a (.inr ha)).2⟩
    · obtain ⟨a1, a2, a3⟩ := s.ok j a ha
      exact ⟨a1, fun z => a2 (.inl z), a3⟩
theorem set_self {σ : L2.St} {i : Nat} {v : V} (h : σ[i]? = some (some v)) : σ.set i (some v) = σ := by
  apply List.ext_getElem?
  intro j
  rw [List.getElem?_set]
  by_cases q : i = j
  · subst q
    obtain ⟨l, e⟩ := List.getElem?_eq_some_iff.mp h
    simp [l, e]
  · simp [q]
theorem Mem.put' {i : Nat} {v : V} {d : D} {L : List Addr} (m : Mem K F H (Tp T L) σ env) (r : Rep K F H v d L) (nd : L.Nodup) (nt : ∀ a ∈ L, ¬ T a) (h : σ[i]? = some (some v)) :
    Mem K F H T σ (env.set i (some d)) := by
  have := m.put r nd nt (List.getElem?_eq_some_iff.mp h).1
  rwa [set_self h] at this
/-- new things alone: L owned, the rest frozen -/
structure New (F H F' H' : Hp) (L : List Addr) : Prop where
  fs : Same F F'
  hs : Same H H'
  sub : Same F' H'
  own : ∀ a ∈ L, H a = none ∧ F' a = none ∧ H' a ≠ none
  fz : ∀ a, F' a ≠ none → F a ≠ none ∨ H a = none
theorem New.refl (h : Same F H) : New F H F H [] := ⟨Same.refl F, Same.refl H, h, fun a z => absurd z List.not_mem_nil, fun a z => .inl z⟩
theorem Mem.new {L : List Addr} (m : Mem K F H T σ env) (n : New F H F' H' L) : Mem K F' H' (Tp T L) σ env := by
  refine m.step n.fs n.sub (fun a ha => ?_) fun a h1 h2 h3 => ?_
  · rcases ha with ha | ha
    · obtain ⟨a1, a2⟩ := m.fr a ha
      refine ⟨?_, ?_⟩
      · cases q : F' a with
        | none => rfl
        | some o =>
          rcases n.fz a (by rw [q]; simp) with z | z
          · exact absurd a1 z
          · exact absurd z a2
      · cases q : H a with
        | none => exact absurd q a2
        | some o => rw [n.hs a o q]; simp
    · exact ⟨(n.own a ha).2.1, (n.own a ha).2.2⟩
  · cases q : H a with
    | none => exact absurd q h1
    | some o =>
      refine ⟨n.hs a o q, ?_, fun z => ?_⟩
      · cases q2 : F' a with
        | none => rfl
        | some o' =>
          rcases n.fz a (by rw [q2]; simp) with z | z
          · exact absurd h2 z
          · rw [q] at z; cases z
      · rcases z with z | z
        · exact h3 z
        · rw [(n.own a z).1] at q; cases q
theorem New.trans {F1 H1 F2 H2 : Hp} {L M : List Addr} (a : New F H F1 H1 L) (b : New F1 H1 F2 H2 M) (hL : ∀ x ∈ L, F2 x = none) : New F H F2 H2 (L ++ M) := by
  refine ⟨a.fs.trans b.fs, a.hs.trans b.hs, b.sub, fun x hx => ?_, fun x hx => ?_⟩
  · rcases List.mem_append.mp hx with z | z
    · obtain ⟨a1, a2, a3⟩ := a.own x z
      refine ⟨a1, hL x z, ?_⟩
      cases q : H1 x with
      | none => exact absurd q a3
      | some o => rw [b.hs x o q]; simp
    · obtain ⟨b1, b2, b3⟩ := b.own x z
      exact ⟨a.hs.free b1, b2, b3⟩
  · rcases b.fz x hx with z | z
    · exact a.fz x z
    · exact .inr (a.hs.free z)
/-- a new frozen object; a new owned one -/
theorem New.frz {p : Addr} {o : HO} (s : Same F H) (h : H p = none) : New F H (upd F p o) (upd H p o) [] := by
  have hF := s.free h
  refine ⟨fun b x e => by rw [upd_ne (L2.ne_of_none e hF)]; exact e, fun b x e => by rw [upd_ne (L2.ne_of_none e h)]; exact e, fun b x e => ?_, fun a z => absurd z List.not_mem_nil, fun a z => ?_⟩
  · by_cases q : b = p
    · subst q
      rw [upd_same] at e ⊢
      exact e
    · rw [upd_ne q] at e ⊢
      exact s b x e
  · by_cases q : a = p
    · subst q
      exact .inr h
    · rw [upd_ne q] at z
      exact .inl z
theorem New.own1 {p : Addr} {o : HO} (s : Same F H) (h : H p = none) : New F H F (upd H p o) [p] := by
  refine ⟨Same.refl F, fun b x e => by rw [upd_ne (L2.ne_of_none e h)]; exact e, fun b x e => by rw [upd_ne (L2.ne_of_none (s b x e) h)]; exact s b x e, fun a z => ?_, fun a z => .inl z⟩
  have e : a = p := by simpa using z
  subst e
  exact ⟨h, s.free h, by rw [upd_same]; simp⟩
/-- an object that others hold is changed -/
theorem Mem.mut {a : Addr} {o : HO} (m : Mem K F H T σ env) (h : T a) : Mem K F (upd H a o) T σ env := by
  obtain ⟨hF, hH⟩ := m.fr a h
  refine m.step (Same.refl F) (fun b x e => ?_) (fun b hb => ⟨(m.fr b hb).1, ?_⟩) fun b h1 h2 h3 => ⟨?_, h2, h3⟩
  · rw [upd_ne (L2.ne_of_none e hF)]
    exact m.sub b x e
  · by_cases q : b = a
    · subst q
      rw [upd_same]
      simp
    · rw [upd_ne q]
      exact (m.fr b hb).2
  · rw [upd_ne fun (q : b = a) => h3 (by rw [q]; exact h)]
open Classical in
/-- what is owned at L goes over to the frozen -/
noncomputable def frzH (F H : Hp) (L : List Addr) : Hp := fun a => if a ∈ L then H a else F a
theorem frzH_in {L : List Addr} {a : Addr} (h : a ∈ L) : frzH F H L a = H a := by unfold frzH; rw [if_pos h]
theorem frzH_out {L : List Addr} {a : Addr} (h : a ∉ L) : frzH F H L a = F a := by unfold frzH; rw [if_neg h]
theorem frzH_same {L : List Addr} (k : ∀ a ∈ L, F a = none) : Same F (frzH F H L) := fun a o e => by
  rw [frzH_out fun z => by rw [k a z] at e; cases e]
  exact e
theorem frzH_sub {L : List Addr} (s : Same F H) : Same (frzH F H L) H := fun a o e => by
  by_cases q : a ∈ L
  · rwa [frzH_in q] at e
  · rw [frzH_out q] at e
    exact s a o e
theorem Mem.frzd {L : List Addr} (m : Mem K F H (Tp T L) σ env) (nt : ∀ a ∈ L, ¬ T a) : Mem K (frzH F H L) H T σ env := by
  have k : ∀ a ∈ L, F a = none := fun a ha => (m.fr a (.inr ha)).1
  refine m.step (frzH_same k) (frzH_sub m.sub) (fun a ha => ?_) fun a h1 h2 h3 => ⟨rfl, ?_, fun z => h3 (.inl z)⟩
  · rw [frzH_out fun z => nt a z ha]
    exact m.fr a (.inl ha)
  · rw [frzH_out fun z => h3 (.inr z)]
    exact h2
end

/-! ### judgements -/
/-- the place that a value stands in, told -/
def Bk (K : PySem.W.Frag) (σ : L2.St) (F H : Hp) (Lf : List Addr) (e : Env) : Rt → Prop
  | none => True
  | some i => ∃ v0 d0, σ[i]? = some (some v0) ∧ e.getD i none = some d0 ∧ Rep K F H v0 d0 Lf
/-- behind an expression -/
structure Out (K : PySem.W.Frag) (σ : L2.St) (T : Addr → Prop) (F H : Hp) (d : D) (r : Rt) (e : Env) (v : V) (F' H' : Hp) (L Lf : List Addr) : Prop where
  fs : Same F F'
  ks : ∀ a, T a → H' a = H a
  rep : Rep K F' H' v d L
  nd : Lf.Nodup
  sub : ∀ a ∈ L, a ∈ Lf
  nt : ∀ a ∈ Lf, ¬ T a
  mem : Mem K F' H' (Tp T Lf) σ (hid r e)
  all : r = none → L = Lf
  bk : Bk K σ F' H' Lf e r
abbrev Cl := String → Option Addr
def XC (K : PySem.W.Frag) (σ : L2.St) (T : Addr → Prop) (F H : Hp) (W : WX) (cl : Cl) (c : String) (e : Env) : Prop :=
  ∀ C F' H', cl c = some C → Same F F' → (∀ a, T a → H' a = H a) → Mem K F' H' T σ e → W (.ref C) none σ H'
/-- a step's result fulfils P, or what is wanted of its error -/
def Gd {α : Type} (K : PySem.W.Frag) (σ : L2.St) (T : Addr → Prop) (F H : Hp) (W : WX) (cl : Cl) (P : α → Prop) : R α → Prop
  | .ok a => P a
  | .exc c e => XC K σ T F H W cl c e
  | .bad => False
section
variable {K : PySem.W.Frag} {F F' H H' F1 H1 : Hp} {T T' T1 : Addr → Prop} {σ : L2.St} {env : Env} {W : WX} {cl : Cl}
@[simp] theorem Gd_ok {α : Type} {P : α → Prop} {a : α} : Gd K σ T F H W cl P (.ok a) = P a := rfl
theorem XC.on {c : String} {e : Env} (h : XC K σ T F H W cl c e) (e1 : Same F F1) (e2 : ∀ a, T a → H1 a = H a) (e3 : ∀ a, T a → T1 a) : XC K σ T1 F1 H1 W cl c e :=
  fun C F' H' h1 h2 h3 h4 => h C F' H' h1 (e1.trans h2) (fun a ha => (h3 a (e3 a ha)).trans (e2 a ha)) (h4.weak e3)
theorem Gd.bind {α β : Type} {m : R α} {f : α → R β} {P : β → Prop} (h : Gd K σ T F H W cl P (m >>= f)) : Gd K σ T F H W cl (fun a => Gd K σ T F H W cl P (f a)) m := by
  cases m with
  | ok a => exact h
  | exc c e => exact h
  | bad => exact h
theorem Gd.imp {α : Type} {m : R α} {P Q : α → Prop} (h : Gd K σ T F H W cl P m) (k : ∀ a, P a → Q a) : Gd K σ T F H W cl Q m := by
  cases m with
  | ok a => exact k a h
  | exc c e => exact h
  | bad => exact h
theorem Gd.on {α : Type} {m : R α} {P : α → Prop} (h : Gd K σ T F H W cl P m) (e1 : Same F F1) (e2 : ∀ a, T a → H1 a = H a) (e3 : ∀ a, T a → T1 a) : Gd K σ T1 F1 H1 W cl P m := by
  cases m with
  | ok a => exact h
  | exc c e => exact XC.on h e1 e2 e3
  | bad => exact h
/-- the place that the value stands in is given back -/
theorem Bk.back {r : Rt} {e : Env} {Lf : List Addr} {F2 H2 : Hp} {e2 : Env} (hb : Bk K σ F' H' Lf e r) (nd : Lf.Nodup) (nt : ∀ a ∈ Lf, ¬ T a) (k1 : Same F' F2) (k2 : ∀ a ∈ Lf, H2 a = H' a)
    (m : Mem K F2 H2 (Tp T Lf) σ e2) : Mem K F2 H2 T σ (unh r e e2) := by
  cases r with
  | none => exact m.drop
  | some i =>
    obtain ⟨v0, d0, h1, h2, h3⟩ := hb
    show Mem K F2 H2 T σ (e2.set i (e.getD i none))
    rw [h2]
    exact m.put' (h3.mono k1 k2) nd nt h1
theorem unh_hid {r : Rt} {e : Env} {Lf : List Addr} (hb : Bk K σ F' H' Lf e r) : unh r e (hid r e) = e := by
  cases r with
  | none => rfl
  | some i =>
    obtain ⟨v0, d0, h1, h2, h3⟩ := hb
    show (e.set i none).set i (e.getD i none) = e
    rw [List.set_set]
    have hl := getD_lt h2
    apply List.ext_getElem?
    intro j
    rw [List.getElem?_set]
    by_cases q : i = j
    · subst q
      rw [List.getD_eq_getElem?_getD] at h2 ⊢
      simp only [hl, if_true]
      rw [List.getElem?_eq_getElem hl] at h2 ⊢
      rfl
    · simp [q]
variable {d : D} {r : Rt} {e : Env} {v : V} {L Lf : List Addr}
theorem Out.mem0 (o : Out K σ T F H d r e v F' H' L Lf) : Mem K F' H' T σ e := by
  have := o.bk.back o.nd o.nt (Same.refl _) (fun _ _ => rfl) o.mem
  rwa [unh_hid o.bk] at this
/-- a new value behind a state: nothing but new things -/
theorem Out.ofNew {z : D} {e2 : Env} {F2 H2 : Hp} (s1 : Same F F2) (k1 : ∀ a, T a → H2 a = H a) (m : Mem K F2 H2 T σ e2) (rep : Rep K F' H' v z L) (nd : L.Nodup) (n : New F2 H2 F' H' L) : Out K σ T F H z none e2 v F' H' L L := by
  have keep : ∀ a, T a → H' a = H2 a := fun a ha => by
    cases q : H2 a with
    | none => exact absurd q (m.fr a ha).2
    | some o => exact n.hs a o q
  refine ⟨s1.trans n.fs, fun a ha => (keep a ha).trans (k1 a ha), rep, nd, fun a ha => ha, fun a ha z => ?_, m.new n, fun _ => rfl, trivial⟩
  exact (m.fr a z).2 (n.own a ha).1
end
end VI

set_option maxRecDepth 100000
set_option maxHeartbeats 2000000
/-! VI.Sound3: operations on values. -/
namespace VI
open PySem PySem.Spec PyProof.Rows
open L2 (V Hp HO SqL SqT Same upd upd_same upd_ne RelV Vals VK WX OpR R2 CallR)

theorem line_eq : line = sizeLine := by rw [sizeLine_eq]; rfl
def opOf : O2 → Operator
  | .add => .Add | .sub => .Sub | .mul => .Mult | .fdiv => .FloorDiv | .mod => .Mod | .pow => .Pow
def rStr : R2 := fun x y H Q => ∃ i j, x = .str i ∧ y = .str j ∧ i.length + j.length ≤ sizeLine ∧ Q (.str (i ++ j)) H
def r2 (K : PySem.W.Frag) : O2 → R2
  | .add => fun x y H Q => (L2.rI0 (fun i j => .int (i + j)) x y H Q ∨ rStr x y H Q) ∨ (L2.rCat x y H Q ∨ L2.rCatA K x y H Q)
  | .sub => L2.rI0 fun i j => .int (i - j)
  | .mul => fun x y H Q => (L2.rI L2.CMul (fun i j => .int (i * j)) x y H Q ∨ L2.rI L2.CMulW (fun i j => .int (i * j)) x y H Q) ∨ L2.rRep x y H Q
  | .fdiv => L2.rI L2.CDivW fun i j => .int (i / j)
  | .mod => L2.rI (fun _ j => 0 < j) fun i j => .int (i % j)
  | .pow => L2.rI L2.CPow fun i j => .int (i ^ j.toNat)
section
variable {X : L2.Cx}
theorem op2_ok : ∀ o : O2, OpR X (binaryOp (opOf o)) (r2 X.K o)
  | .add => (L2.op_add.or L2.op_add_str).or (L2.op_cat.or L2.op_catA)
  | .sub => L2.op_sub
  | .mul => (L2.op_mul.or L2.op_mulW).or L2.op_rep
  | .fdiv => L2.op_fdivW
  | .mod => L2.op_mod
  | .pow => L2.op_pow
end
theorem mul_cases {i j : Int} (h : mulOk i j = true) : L2.CMul i j ∨ L2.CMulW i j := by
  unfold mulOk at h
  simp only [Bool.or_eq_true, Bool.and_eq_true, decide_eq_true_eq] at h
  rcases h with (h | h) | ⟨h1, h2⟩
  · exact .inl (.inl (by omega))
  · exact .inl (.inr (by omega))
  · exact .inr (L2.wide_mul h1 h2 (by decide) (by decide) (by decide))
theorem str_app_len (i j : Str) : (i ++ j).cps.toList = i.cps.toList ++ j.cps.toList := by
  show (i.cps ++ j.cps).toList = _
  rw [Array.toList_append]
theorem str_len (i : Str) : i.length = i.cps.toList.length := by
  show i.cps.size = _
  rw [Array.length_toList]
section
variable {K : PySem.W.Frag} {F H : Hp} {vx vy : V} {x y z : D} {Lx Ly : List Addr} {Q : VK}
/-- what an operation leaves -/
def Leaves (K : PySem.W.Frag) (F H : Hp) (z : D) (Q : VK) : Prop := ∀ v F' H' L, Rep K F' H' v z L → L.Nodup → New F H F' H' L → Q v H'
theorem Leaves.same {v : V} {L : List Addr} (h : Leaves K F H z Q) (s : Same F H) (r : Rep K F H v z []) : Q v H := h v F H [] r List.nodup_nil (New.refl s)
theorem Leaves.lst {vs : List V} {xs : List D} (h : Leaves K F H (.lst true xs) Q) (s : Same F H) (r : Reps K F H vs xs []) : ∀ p, H p = none → Q (.ref p) (upd H p (.lst vs)) := fun p hp =>
  h (.ref p) F _ [p] (.lstO upd_same (r.mono (Same.refl F) fun a z => absurd z List.not_mem_nil)) (List.nodup_cons.mpr ⟨List.not_mem_nil, List.nodup_nil⟩) (New.own1 s hp)
theorem Leaves.tup {vs : List V} {xs : List D} (h : Leaves K F H (.tup xs) Q) (s : Same F H) (r : Reps K F H vs xs []) : ∀ p, H p = none → Q (.ref p) (upd H p (.tup vs)) := fun p hp => by
  have n := New.frz (o := .tup vs) s hp
  exact h (.ref p) _ _ [] (.tup upd_same (r.mono n.fs fun a z => absurd z List.not_mem_nil)) List.nodup_nil n
theorem tup_inv {vs : List D} {L : List Addr} {v : V} (r : Rep K F H v (.tup vs) L) : ∃ a ws, v = .ref a ∧ F a = some (.tup ws) ∧ Reps K F H ws vs L := by
  cases r with
  | tup h r => exact ⟨_, _, rfl, h, r⟩
theorem lst_inv {o : Bool} {vs : List D} {L : List Addr} {v : V} (s : Same F H) (r : Rep K F H v (.lst o vs) L) : ∃ a ws M, v = .ref a ∧ H a = some (.lst ws) ∧ Reps K F H ws vs M ∧ (∀ b ∈ M, b ∈ L) := by
  cases r with
  | lstF h r => exact ⟨_, _, [], rfl, s _ _ h, r, fun b z => z⟩
  | lstO h r => exact ⟨_, _, _, rfl, h, r, fun b z => List.mem_cons_of_mem _ z⟩
theorem op2_sem (o : O2) (h : op2D o x y = some z) (rx : Rep K F H vx x Lx) (ry : Rep K F H vy y Ly) (s : Same F H) (q : Leaves K F H z Q) : r2 K o vx vy H Q := by
  have hints : ∀ {i j : Int} {g : Int → Int → Int}, vx = .int i → vy = .int j → z = .int (g i j) → L2.rI0 (fun i j => .int (g i j)) vx vy H Q := fun {i j g} e1 e2 e3 => ⟨i, j, e1, e2, by
    rw [e3] at q
    exact q.same (L := []) s (.int _)⟩
  cases o with
  | add =>
    cases rx with
    | int i =>
      cases ry with
      | int j =>
        simp only [op2D, Option.some.injEq] at h
        exact .inl (.inl (hints (g := fun i j => i + j) rfl rfl h.symm))
      | _ => simp [op2D] at h
    | @str x s1 e1 =>
      cases ry with
      | @str y s2 e2 =>
        simp only [op2D] at h
        split at h
        · rename_i hl
          simp only [Option.some.injEq] at h
          refine .inl (.inr ⟨x, y, rfl, rfl, ?_, ?_⟩)
          · rw [str_len, str_len, e1, e2, ← line_eq]
            exact hl
          · rw [← h] at q
            exact q.same (L := []) s (.str (by rw [str_app_len, e1, e2]))
        · cases h
      | _ => simp [op2D] at h
    | @tup a vs xs L h1 r1 =>
      cases ry with
      | @tup b ws ys M h2 r2 =>
        simp only [op2D] at h
        split at h
        · rename_i hl
          simp only [Bool.and_eq_true, decide_eq_true_eq] at hl
          obtain ⟨⟨f1, f2⟩, hl⟩ := hl
          simp only [Option.some.injEq] at h
          rw [← h] at q
          have e1 := r1.fro0 f1
          subst e1
          have e2 := r2.fro0 f2
          subst e2
          refine .inr (.inr ⟨a, b, vs, ws, rfl, rfl, .inl (.inl (s _ _ h1)), .inl (.inl (s _ _ h2)), ?_, fun e => ?_, fun e e' => ?_, fun _ _ => ?_⟩)
          · rw [r1.length, r2.length, ← line_eq]
            exact hl
          · have e3 : xs = [] := by
              have := r1.length
              rw [e] at this
              exact List.length_eq_zero_iff.mp this.symm
            rw [e3] at q
            exact q.same (L := []) s (.tup h2 r2)
          · have e3 : ys = [] := by
              have := r2.length
              rw [e'] at this
              exact List.length_eq_zero_iff.mp this.symm
            rw [e3, List.append_nil] at q
            exact q.same (L := []) s (.tup h1 r1)
          · exact q.tup s (r1.app0 r2)
        · cases h
      | _ => simp [op2D] at h
    | lstF h1 r1 =>
      cases ry with
      | lstF h2 r2 =>
        simp only [op2D] at h
        split at h
        · rename_i hl
          simp only [Bool.and_eq_true, decide_eq_true_eq] at hl
          obtain ⟨⟨f1, f2⟩, hl⟩ := hl
          simp only [Option.some.injEq] at h
          rw [← h] at q
          exact .inr (.inl ⟨_, _, _, _, rfl, rfl, s _ _ h1, s _ _ h2, by rw [r1.length, r2.length, ← line_eq]; exact hl, q.lst s (r1.app0 r2)⟩)
        · cases h
      | lstO h2 r2 =>
        simp only [op2D] at h
        split at h
        · rename_i hl
          simp only [Bool.and_eq_true, decide_eq_true_eq] at hl
          obtain ⟨⟨f1, f2⟩, hl⟩ := hl
          simp only [Option.some.injEq] at h
          rw [← h] at q
          have e2 := r2.fro0 f2
          subst e2
          exact .inr (.inl ⟨_, _, _, _, rfl, rfl, s _ _ h1, h2, by rw [r1.length, r2.length, ← line_eq]; exact hl, q.lst s (r1.app0 r2)⟩)
        · cases h
      | _ => simp [op2D] at h
    | lstO h1 r1 =>
      cases ry with
      | lstF h2 r2 =>
        simp only [op2D] at h
        split at h
        · rename_i hl
          simp only [Bool.and_eq_true, decide_eq_true_eq] at hl
          obtain ⟨⟨f1, f2⟩, hl⟩ := hl
          simp only [Option.some.injEq] at h
          rw [← h] at q
          have e1 := r1.fro0 f1
          subst e1
          exact .inr (.inl ⟨_, _, _, _, rfl, rfl, h1, s _ _ h2, by rw [r1.length, r2.length, ← line_eq]; exact hl, q.lst s (r1.app0 r2)⟩)
        · cases h
      | lstO h2 r2 =>
        simp only [op2D] at h
        split at h
        · rename_i hl
          simp only [Bool.and_eq_true, decide_eq_true_eq] at hl
          obtain ⟨⟨f1, f2⟩, hl⟩ := hl
          simp only [Option.some.injEq] at h
          rw [← h] at q
          have e1 := r1.fro0 f1
          subst e1
          have e2 := r2.fro0 f2
          subst e2
          exact .inr (.inl ⟨_, _, _, _, rfl, rfl, h1, h2, by rw [r1.length, r2.length, ← line_eq]; exact hl, q.lst s (r1.app0 r2)⟩)
        · cases h
      | _ => simp [op2D] at h
    | _ => simp [op2D] at h
  | sub =>
    cases rx with
    | int i =>
      cases ry with
      | int j =>
        simp only [op2D, Option.some.injEq] at h
        exact hints (g := fun i j => i - j) rfl rfl h.symm
      | _ => simp [op2D] at h
    | _ => simp [op2D] at h
  | mul =>
    have lst : ∀ {a : Addr} {o : Bool} {vs : List V} {xs : List D} {k : Int}, H a = some (.lst vs) → Reps K F H vs xs [] → (decide (0 ≤ k) && decide (k < 2 ^ 62) && decide (xs.length * k.toNat ≤ line)) = true → z = .lst true (rep xs k) →
        vx = .ref a → vy = .int k → L2.rRep vx vy H Q := fun {a o vs xs k} h1 r1 hl e ex ey => by
      simp only [Bool.and_eq_true, decide_eq_true_eq] at hl
      obtain ⟨⟨h0, hk⟩, hl⟩ := hl
      rw [e] at q
      exact ⟨a, k, vs, ex, ey, h1, by omega, by omega, by rw [r1.length, ← line_eq]; exact hl, q.lst s (r1.rep0 _)⟩
    cases rx with
    | int i =>
      cases ry with
      | int j =>
        simp only [op2D] at h
        split at h
        · rename_i hm
          simp only [Option.some.injEq] at h
          rw [← h] at q
          rcases mul_cases hm with c | c
          · exact .inl (.inl ⟨i, j, rfl, rfl, c, q.same (L := []) s (.int _)⟩)
          · exact .inl (.inr ⟨i, j, rfl, rfl, c, q.same (L := []) s (.int _)⟩)
        · cases h
      | _ => simp [op2D] at h
    | lstF h1 r1 =>
      cases ry with
      | int k =>
        simp only [op2D] at h
        split at h
        · rename_i hl
          rw [Bool.and_eq_true] at hl
          exact .inr (lst (o := false) (s _ _ h1) r1 hl.2 (Option.some.inj h).symm rfl rfl)
        · cases h
      | _ => simp [op2D] at h
    | lstO h1 r1 =>
      cases ry with
      | int k =>
        simp only [op2D] at h
        split at h
        · rename_i hl
          rw [Bool.and_eq_true] at hl
          have e1 := r1.fro0 hl.1
          subst e1
          exact .inr (lst (o := true) h1 r1 hl.2 (Option.some.inj h).symm rfl rfl)
        · cases h
      | _ => simp [op2D] at h
    | _ => simp [op2D] at h
  | fdiv =>
    cases rx with
    | int i =>
      cases ry with
      | int j =>
        simp only [op2D] at h
        split at h
        · rename_i hm
          simp only [Bool.and_eq_true, decide_eq_true_eq] at hm
          rw [← Option.some.inj h] at q
          exact ⟨i, j, rfl, rfl, L2.wide_div hm.1 hm.2 (by decide) (Nat.le_refl _), q.same (L := []) s (.int _)⟩
        · cases h
      | _ => simp [op2D] at h
    | _ => simp [op2D] at h
  | mod =>
    cases rx with
    | int i =>
      cases ry with
      | int j =>
        simp only [op2D] at h
        split at h
        · rename_i hm
          rw [← Option.some.inj h] at q
          exact ⟨i, j, rfl, rfl, hm, q.same (L := []) s (.int _)⟩
        · cases h
      | _ => simp [op2D] at h
    | _ => simp [op2D] at h
  | pow =>
    cases rx with
    | int i =>
      cases ry with
      | int j =>
        simp only [op2D] at h
        split at h
        · rename_i hm
          simp only [Bool.and_eq_true, decide_eq_true_eq] at hm
          rw [← Option.some.inj h] at q
          exact ⟨i, j, rfl, rfl, ⟨hm.1.1, by omega, hm.2⟩, q.same (L := []) s (.int _)⟩
        · cases h
      | _ => simp [op2D] at h
    | _ => simp [op2D] at h
end
end VI

set_option maxRecDepth 100000
set_option maxHeartbeats 2000000
/-! VI.Sound4: comparisons, items, slices, built-ins, by values. -/
namespace VI
open PySem PySem.Spec PyProof.Rows
open L2 (V Hp HO SqL SqT Same upd upd_same upd_ne RelV Vals VK WX OpR R2 CallR Dp DpAll)

mutual
def D.py : D → PyData
  | .non => .none
  | .bl b => .bool b
  | .int i => .int i
  | .str s => .str ⟨s.toArray⟩
  | .scr _ => .none
  | .tup xs => .tuple (pyL xs)
  | .lst _ xs => .list (pyL xs)
def pyL : List D → List PyData
  | [] => []
  | x :: xs => x.py :: pyL xs
end
theorem str_of {x : Str} {s : List Nat} (h : x.cps.toList = s) : x = ⟨s.toArray⟩ := by
  obtain ⟨a⟩ := x
  rw [← h]
section
variable {K : PySem.W.Frag} {F H : Hp}
mutual
theorem Rep.dp (s : Same F H) : ∀ {v : V} {d : D} {L : List Addr}, d.plain = true → Rep K F H v d L → Dp K H v d.py
  | _, _, _, _, .non => by simp only [D.py]; exact .non
  | _, _, _, _, .bl b => by simp only [D.py]; exact .bl b
  | _, _, _, _, .int i => by simp only [D.py]; exact .int i
  | _, _, _, _, .str h => by
    simp only [D.py]
    rw [str_of h]
    exact .str _
  | _, _, _, p, .scr h => by simp [D.plain] at p
  | _, _, _, p, .tup h r => by
    simp only [D.py]
    exact .tup (.inl (.inl (s _ _ h))) (Reps.dp s (by simpa [D.plain] using p) r)
  | _, _, _, p, .lstF h r => by
    simp only [D.py]
    exact .lst (.inl (.inl (s _ _ h))) (Reps.dp s (by simpa [D.plain] using p) r)
  | _, _, _, p, .lstO h r => by
    simp only [D.py]
    exact .lst (.inl (.inl h)) (Reps.dp s (by simpa [D.plain] using p) r)
theorem Reps.dp (s : Same F H) : ∀ {vs : List V} {ds : List D} {L : List Addr}, plainL ds = true → Reps K F H vs ds L → DpAll K H vs (pyL ds)
  | _, _, _, _, .nil => by simp only [pyL]; exact .nil
  | _, _, _, p, .cons r rs => by
    simp only [plainL, Bool.and_eq_true] at p
    simp only [pyL]
    exact .cons (Rep.dp s p.1 r) (Reps.dp s p.2 rs)
end
end
mutual
theorem lay_py : ∀ d : D, d.plain = true → d.py.canLay0 = true
  | .non, _ => by simp only [D.py, PyData.canLay0]
  | .bl b, _ => by simp only [D.py, PyData.canLay0]
  | .int i, _ => by simp only [D.py, PyData.canLay0]
  | .str s, h => by
    simp only [D.py, PyData.canLay0, PyData.strOk]
    simp only [D.plain, codeOk, List.all_eq_true, decide_eq_true_eq] at h
    rw [← Array.all_toList, List.all_eq_true]
    intro c hc
    have := h c (by simpa using hc)
    exact decide_eq_true (by omega)
  | .scr ns, h => by simp [D.plain] at h
  | .tup xs, h => by
    simp only [D.py, PyData.canLay0]
    exact lay_pyL xs (by simpa [D.plain] using h)
  | .lst o xs, h => by
    simp only [D.py, PyData.canLay0]
    exact lay_pyL xs (by simpa [D.plain] using h)
theorem lay_pyL : ∀ ds : List D, plainL ds = true → PyData.canLayAll0 (pyL ds) = true
  | [], _ => by simp only [pyL, PyData.canLayAll0]
  | d :: ds, h => by
    simp only [plainL, Bool.and_eq_true] at h
    simp only [pyL, PyData.canLayAll0, lay_py d h.1, lay_pyL ds h.2, Bool.and_self]
end
mutual
theorem deep_py : ∀ d : D, d.py.depth ≤ d.deep
  | .non => by simp [D.py, PyData.depth]
  | .bl b => by simp [D.py, PyData.depth]
  | .int i => by simp [D.py, PyData.depth]
  | .str s => by simp [D.py, PyData.depth]
  | .scr ns => by simp [D.py, PyData.depth]
  | .tup xs => by
    simp only [D.py, PyData.depth, D.deep]
    have := deep_pyL xs
    omega
  | .lst o xs => by
    simp only [D.py, PyData.depth, D.deep]
    have := deep_pyL xs
    omega
theorem deep_pyL : ∀ ds : List D, PyData.depthAll (pyL ds) ≤ deepL ds
  | [] => by simp [pyL, PyData.depthAll]
  | d :: ds => by
    simp only [pyL, PyData.depthAll, deepL]
    have := deep_py d
    have := deep_pyL ds
    omega
end
theorem str_beq (s t : List Nat) : ((⟨s.toArray⟩ : Str) == ⟨t.toArray⟩) = (s == t) := by
  rw [Bool.eq_iff_iff]
  simp
mutual
theorem eqv_py : ∀ x y : D, x.plain = true → y.plain = true → PyData.eqv x.py y.py = deq x y
  | .non, y, _, hy => by cases y <;> simp [D.py, PyData.eqv, deq, D.plain] at *
  | .bl b, y, _, hy => by cases y <;> simp [D.py, PyData.eqv, deq, D.plain] at *
  | .int i, y, _, hy => by cases y <;> simp [D.py, PyData.eqv, deq, D.plain] at *
  | .str s, y, _, hy => by
    cases y with
    | str t =>
      simp only [D.py, PyData.eqv, deq]
      exact str_beq s t
    | _ => simp [D.py, PyData.eqv, deq, D.plain] at *
  | .scr ns, y, h, _ => by simp [D.plain] at h
  | .tup xs, y, h, hy => by
    cases y with
    | tup ys =>
      simp only [D.py, PyData.eqv, deq]
      exact eqv_pyL xs ys (by simpa [D.plain] using h) (by simpa [D.plain] using hy)
    | _ => simp [D.py, PyData.eqv, deq, D.plain] at *
  | .lst o xs, y, h, hy => by
    cases y with
    | lst o' ys =>
      simp only [D.py, PyData.eqv, deq]
      exact eqv_pyL xs ys (by simpa [D.plain] using h) (by simpa [D.plain] using hy)
    | _ => simp [D.py, PyData.eqv, deq, D.plain] at *
theorem eqv_pyL : ∀ xs ys : List D, plainL xs = true → plainL ys = true → PyData.eqvAll (pyL xs) (pyL ys) = deqL xs ys
  | [], [], _, _ => by simp [pyL, PyData.eqvAll, deqL]
  | [], y :: ys, _, _ => by simp [pyL, PyData.eqvAll, deqL]
  | x :: xs, [], _, _ => by simp [pyL, PyData.eqvAll, deqL]
  | x :: xs, y :: ys, h, hy => by
    simp only [plainL, Bool.and_eq_true] at h hy
    simp only [pyL, PyData.eqvAll, deqL]
    rw [eqv_py x y h.1 hy.1, eqv_pyL xs ys h.2 hy.2]
end
def rEqX (K : PySem.W.Frag) : R2 := fun x y H Q => ∃ d e, Dp K H x d ∧ Dp K H y e ∧ d.canLay0 = true ∧ e.canLay0 = true ∧ min d.depth e.depth ≤ 190 ∧ Q (.bl (PyData.eqv d e)) H
def rNeX (K : PySem.W.Frag) : R2 := fun x y H Q => ∃ d e, Dp K H x d ∧ Dp K H y e ∧ d.canLay0 = true ∧ e.canLay0 = true ∧ min d.depth e.depth ≤ 190 ∧ Q (.bl (!PyData.eqv d e)) H
section
variable {X : L2.Cx}
theorem op_eqX (hu : X.A.units + 190 < cLine) : OpR X (compareOp .Eq) (rEqX X.K) := by
  intro pins s σ H x y v u Q I rx ry h
  obtain ⟨d, e, hd, he, sd, se, hz, q⟩ := h
  obtain ⟨as, q1⟩ := Dp.reads I d x v hd rx
  obtain ⟨bs, q2⟩ := Dp.reads I e y u he ry
  exact SeqAt.compareEq_reads q1 q2 sd se (by omega) ⟨.bl _, H, I, rfl, q⟩
theorem op_neX (hu : X.A.units + 190 < cLine) : OpR X (compareOp .NotEq) (rNeX X.K) := by
  intro pins s σ H x y v u Q I rx ry h
  obtain ⟨d, e, hd, he, sd, se, hz, q⟩ := h
  obtain ⟨as, q1⟩ := Dp.reads I d x v hd rx
  obtain ⟨bs, q2⟩ := Dp.reads I e y u he ry
  exact SeqAt.compareNe_reads q1 q2 sd se (by omega) ⟨.bl _, H, I, rfl, q⟩
end
def cmpOf : OC → CmpOp
  | .eq => .Eq | .ne => .NotEq | .lt => .Lt | .le => .LtE | .gt => .Gt | .ge => .GtE | .is_ => .Is | .isn => .IsNot | .in_ => .In | .nin => .NotIn
def rNonIs : R2 := fun x y H Q => y = .non ∧ Q (.bl (decide (x = .non))) H
def rNonNot : R2 := fun x y H Q => y = .non ∧ Q (.bl (!decide (x = .non))) H
def rSgn : R2 := fun x y H Q => ∃ (c : Nat) (z : Str), x = .str ⟨#[c]⟩ ∧ y = .str z ∧ Q (.bl (decide (c ∈ z.cps.toList))) H
def rSgnN : R2 := fun x y H Q => ∃ (c : Nat) (z : Str), x = .str ⟨#[c]⟩ ∧ y = .str z ∧ Q (.bl (!decide (c ∈ z.cps.toList))) H
def rc (K : PySem.W.Frag) : OC → R2
  | .eq => rEqX K
  | .ne => rNeX K
  | .lt => L2.rI0 fun i j => .bl (decide (i < j))
  | .le => L2.rI0 fun i j => .bl (decide (i ≤ j))
  | .gt => L2.rI0 fun i j => .bl (decide (j < i))
  | .ge => L2.rI0 fun i j => .bl (decide (j ≤ i))
  | .is_ => fun x y H Q => rNonIs x y H Q ∨ L2.rIsB x y H Q
  | .isn => fun x y H Q => rNonNot x y H Q ∨ L2.rNotB x y H Q
  | .in_ => fun x y H Q => rSgn x y H Q ∨ L2.rIn K false x y H Q
  | .nin => fun x y H Q => rSgnN x y H Q ∨ L2.rIn K true x y H Q
theorem cmp_ok {X : L2.Cx} (hu : X.A.units + 190 < cLine) : ∀ o : OC, OpR X (compareOp (cmpOf o)) (rc X.K o)
  | .eq => op_eqX hu
  | .ne => op_neX hu
  | .lt => L2.op_lt
  | .le => L2.op_le
  | .gt => L2.op_gt
  | .ge => L2.op_ge
  | .is_ => OpR.or (r := rNonIs) L2.op_isN L2.op_isBl
  | .isn => OpR.or (r := rNonNot) L2.op_notN L2.op_notBl
  | .in_ => OpR.or (r := rSgn) L2.op_in_sign L2.op_in_seq
  | .nin => OpR.or (r := rSgnN) L2.op_notIn_sign L2.op_notIn_seq
section
variable {K : PySem.W.Frag} {F H : Hp} {vx vy : V} {x y z : D} {Lx Ly : List Addr} {Q : VK}
theorem Rep.nonIff {L : List Addr} {v : V} {d : D} (r : Rep K F H v d L) : decide (v = .non) = d.isNon := by
  cases r <;> first | rfl | exact decide_eq_false (fun z => nomatch z)
theorem flat_V {L : List Addr} {v : V} {d : D} (r : Rep K F H v d L) (h : d.flat = true) : L2.flatV v = true := by
  cases r <;> first | rfl | simp [D.flat] at h
theorem flat_eq {L M : List Addr} {v w : V} {d e : D} (r : Rep K F H v d L) (q : Rep K F H w e M) (h : d.flat = true) (h' : e.flat = true) : L2.eqV v w = deq d e := by
  cases r with
  | non => cases q <;> first | (simp [L2.eqV, deq]; done) | simp [D.flat] at h'
  | bl b => cases q <;> first | (simp [L2.eqV, deq]; done) | simp [D.flat] at h'
  | int b => cases q <;> first | (simp [L2.eqV, deq]; done) | simp [D.flat] at h'
  | str e1 =>
    cases q with
    | str e2 =>
      rw [str_of e1, str_of e2]
      simp only [L2.eqV, deq]
      exact str_beq _ _
    | _ => first | (simp [L2.eqV, deq]; done) | simp [D.flat] at h'
  | _ => simp [D.flat] at h
theorem flats_V : ∀ {vs : List V} {ds : List D} {L : List Addr}, Reps K F H vs ds L → ds.all D.flat = true → vs.all L2.flatV = true
  | _, _, _, .nil, _ => rfl
  | _, _, _, .cons r rs, h => by
    rw [List.all_cons, Bool.and_eq_true] at h ⊢
    exact ⟨flat_V r h.1, flats_V rs h.2⟩
theorem in_eq {w : V} {e : D} {M : List Addr} (q : Rep K F H w e M) (h' : e.flat = true) : ∀ {vs : List V} {ds : List D} {L : List Addr}, Reps K F H vs ds L → ds.all D.flat = true → L2.inV w vs = ds.any fun y => deq y e
  | _, _, _, .nil, _ => rfl
  | _, _, _, .cons r rs, h => by
    rw [List.all_cons, Bool.and_eq_true] at h
    have ih := in_eq q h' rs h.2
    unfold L2.inV at ih ⊢
    rw [List.any_cons, List.any_cons, ih, flat_eq r q h.1 h']
theorem Leaves.bl {b : Bool} (h : Leaves K F H (.bl b) Q) (s : Same F H) : Q (.bl b) H := h.same (L := []) s (.bl b)
theorem cmp_sem (o : OC) (h : cmpD o x y = some z) (rx : Rep K F H vx x Lx) (ry : Rep K F H vy y Ly) (s : Same F H) (q : Leaves K F H z Q) : rc K o vx vy H Q := by
  have oi : ∀ {g : Int → Int → Bool} {i j : Int}, x = .int i → y = .int j → z = .bl (g i j) → L2.rI0 (fun i j => .bl (g i j)) vx vy H Q := fun {g i j} e1 e2 e3 => by
    subst e1 e2 e3
    cases rx
    cases ry
    exact ⟨i, j, rfl, rfl, q.bl s⟩
  have oin : ∀ (neg : Bool) (ys : List D) (p : Addr) (ws : List V) (M : List Addr), vy = .ref p → (SqL K H p ws ∨ SqT K H p ws) → Reps K F H ws ys M → (x.flat && ys.all D.flat) = true →
      z = .bl (if neg then !(ys.any fun y => deq y x) else ys.any fun y => deq y x) → L2.rIn K neg vx vy H Q := fun neg ys p ws M e1 e2 e3 e4 e5 => by
    rw [Bool.and_eq_true] at e4
    refine ⟨p, ws, e1, e2, flat_V rx e4.1, flats_V e3 e4.2, ?_⟩
    rw [in_eq rx e4.1 e3 e4.2]
    rw [e5] at q
    exact q.bl s
  cases o with
  | eq =>
    simp only [cmpD] at h
    split at h
    · rename_i hq
      simp only [eqOk, Bool.and_eq_true, decide_eq_true_eq] at hq
      rw [← Option.some.inj h] at q
      refine ⟨x.py, y.py, rx.dp s hq.1.1, ry.dp s hq.1.2, lay_py x hq.1.1, lay_py y hq.1.2, ?_, ?_⟩
      · have := deep_py x
        have := deep_py y
        omega
      · rw [eqv_py x y hq.1.1 hq.1.2]
        exact q.bl s
    · cases h
  | ne =>
    simp only [cmpD] at h
    split at h
    · rename_i hq
      simp only [eqOk, Bool.and_eq_true, decide_eq_true_eq] at hq
      rw [← Option.some.inj h] at q
      refine ⟨x.py, y.py, rx.dp s hq.1.1, ry.dp s hq.1.2, lay_py x hq.1.1, lay_py y hq.1.2, ?_, ?_⟩
      · have := deep_py x
        have := deep_py y
        omega
      · rw [eqv_py x y hq.1.1 hq.1.2]
        exact q.bl s
    · cases h
  | lt =>
    cases x <;> cases y <;> simp only [cmpD, Option.some.injEq] at h <;> first | exact oi (g := fun i j => decide (i < j)) rfl rfl h.symm | cases h
  | le =>
    cases x <;> cases y <;> simp only [cmpD, Option.some.injEq] at h <;> first | exact oi (g := fun i j => decide (i ≤ j)) rfl rfl h.symm | cases h
  | gt =>
    cases x <;> cases y <;> simp only [cmpD, Option.some.injEq] at h <;> first | exact oi (g := fun i j => decide (j < i)) rfl rfl h.symm | cases h
  | ge =>
    cases x <;> cases y <;> simp only [cmpD, Option.some.injEq] at h <;> first | exact oi (g := fun i j => decide (j ≤ i)) rfl rfl h.symm | cases h
  | is_ =>
    cases y with
    | non =>
      simp only [cmpD, Option.some.injEq] at h
      cases ry
      refine .inl ⟨rfl, ?_⟩
      rw [rx.nonIff]
      rw [← h] at q
      exact q.bl s
    | bl b =>
      cases x with
      | bl a =>
        simp only [cmpD, Option.some.injEq] at h
        cases rx
        cases ry
        refine .inr ⟨a, b, rfl, rfl, ?_⟩
        rw [← h] at q
        rw [← Bool.beq_eq_decide_eq]
        exact q.bl s
      | _ => simp [cmpD] at h
    | _ => cases x <;> simp [cmpD] at h
  | isn =>
    cases y with
    | non =>
      simp only [cmpD, Option.some.injEq] at h
      cases ry
      refine .inl ⟨rfl, ?_⟩
      rw [rx.nonIff]
      rw [← h] at q
      exact q.bl s
    | bl b =>
      cases x with
      | bl a =>
        simp only [cmpD, Option.some.injEq] at h
        cases rx
        cases ry
        refine .inr ⟨a, b, rfl, rfl, ?_⟩
        rw [← h] at q
        rw [← Bool.beq_eq_decide_eq]
        exact q.bl s
      | _ => simp [cmpD] at h
    | _ => cases x <;> simp [cmpD] at h
  | in_ =>
    cases y with
    | str t =>
      cases ry with
      | str e2 =>
        match x, rx, h with
        | .str [c], .str e1, h =>
          simp only [cmpD, Option.some.injEq] at h
          refine .inl ⟨c, _, by rw [str_of e1], rfl, ?_⟩
          rw [e2]
          rw [← h] at q
          rw [show decide (c ∈ t) = t.contains c by simp]
          exact q.bl s
        | .str [], _, h => simp [cmpD] at h
        | .str (_ :: _ :: _), _, h => simp [cmpD] at h
        | .non, _, h => simp [cmpD] at h
        | .bl _, _, h => simp [cmpD] at h
        | .int _, _, h => simp [cmpD] at h
        | .scr _, _, h => simp [cmpD] at h
        | .tup _, _, h => simp [cmpD] at h
        | .lst _ _, _, h => simp [cmpD] at h
    | lst o ys =>
      obtain ⟨a, ws, M, e1, e2, e3, _⟩ := lst_inv s ry
      have h' : (if x.flat && ys.all D.flat then some (D.bl (ys.any fun y => deq y x)) else none) = some z := by
        cases x <;> simpa only [cmpD] using h
      split at h'
      · rename_i hq
        exact .inr (oin false ys a ws M e1 (.inl (.inl (.inl e2))) e3 hq (Option.some.inj h').symm)
      · cases h'
    | tup ys =>
      obtain ⟨a, ws, e1, e2, e3⟩ := tup_inv ry
      have h' : (if x.flat && ys.all D.flat then some (D.bl (ys.any fun y => deq y x)) else none) = some z := by
        cases x <;> simpa only [cmpD] using h
      split at h'
      · rename_i hq
        exact .inr (oin false ys a ws _ e1 (.inr (.inl (.inl (s _ _ e2)))) e3 hq (Option.some.inj h').symm)
      · cases h'
    | _ => cases x <;> simp [cmpD] at h
  | nin =>
    cases y with
    | str t =>
      cases ry with
      | str e2 =>
        match x, rx, h with
        | .str [c], .str e1, h =>
          simp only [cmpD, Option.some.injEq] at h
          refine .inl ⟨c, _, by rw [str_of e1], rfl, ?_⟩
          rw [e2]
          rw [← h] at q
          rw [show decide (c ∈ t) = t.contains c by simp]
          exact q.bl s
        | .str [], _, h => simp [cmpD] at h
        | .str (_ :: _ :: _), _, h => simp [cmpD] at h
        | .non, _, h => simp [cmpD] at h
        | .bl _, _, h => simp [cmpD] at h
        | .int _, _, h => simp [cmpD] at h
        | .scr _, _, h => simp [cmpD] at h
        | .tup _, _, h => simp [cmpD] at h
        | .lst _ _, _, h => simp [cmpD] at h
    | lst o ys =>
      obtain ⟨a, ws, M, e1, e2, e3, _⟩ := lst_inv s ry
      have h' : (if x.flat && ys.all D.flat then some (D.bl (!(ys.any fun y => deq y x))) else none) = some z := by
        cases x <;> simpa only [cmpD] using h
      split at h'
      · rename_i hq
        exact .inr (oin true ys a ws M e1 (.inl (.inl (.inl e2))) e3 hq (Option.some.inj h').symm)
      · cases h'
    | tup ys =>
      obtain ⟨a, ws, e1, e2, e3⟩ := tup_inv ry
      have h' : (if x.flat && ys.all D.flat then some (D.bl (!(ys.any fun y => deq y x))) else none) = some z := by
        cases x <;> simpa only [cmpD] using h
      split at h'
      · rename_i hq
        exact .inr (oin true ys a ws _ e1 (.inr (.inl (.inl (s _ _ e2)))) e3 hq (Option.some.inj h').symm)
      · cases h'
    | _ => cases x <;> simp [cmpD] at h
end
end VI

set_option maxRecDepth 100000
set_option maxHeartbeats 2000000
/-! VI.Sound5: items, slices, built-ins, changes of lists, by values. -/
namespace VI
open PySem PySem.Spec PyProof.Rows
open L2 (V Hp HO SqL SqT Same upd upd_same upd_ne RelV Vals VK WX OpR R2 CallR Dp DpAll)

section
variable {K : PySem.W.Frag} {F H : Hp} {vx vy : V} {x y z : D} {Lx Ly : List Addr} {Q : VK}
theorem atI_eq {α : Type} (xs : List α) (i : Int) : L2.atI xs i = atI xs i := rfl
theorem sIx_eq (n d : Nat) : ∀ o : Option Int, HT.sIx n d o = sIx n d o
  | none => rfl
  | some v => rfl
theorem cutV_eq (vs : List V) (l h : Option Int) : L2.cutV vs l h = cut vs l h := by
  unfold L2.cutV cut
  rw [sIx_eq, sIx_eq]
/-- an item: it stands within -/
theorem idx_sem (h : idxD x y = some z) (rx : Rep K F H vx x Lx) (ry : Rep K F H vy y Ly) (s : Same F H)
    (q : ∀ v L, Rep K F H v z L → (∀ a ∈ L, a ∈ Lx) → (Lx.Nodup → L.Nodup) → Q v H) : L2.rIx K vx vy H Q := by
  have seq : ∀ {xs : List D} {vs : List V} {M : List Addr} {i : Int}, Reps K F H vs xs M → atI xs i = some z → (∀ a ∈ M, a ∈ Lx) → (Lx.Nodup → M.Nodup) → ∃ v, L2.atI vs i = some v ∧ Q v H := fun {xs vs M i} r e hM hN => by
    unfold atI at e
    cases hj : ixN xs.length i with
    | none => rw [hj] at e; cases e
    | some j =>
      rw [hj] at e
      obtain ⟨v, L1, L2', L3, h1, h2, h3, _, _⟩ := r.at (j := j) e
      refine ⟨v, ?_, q v L2' h3 (fun a ha => hM a (by rw [h2]; simp [ha])) fun nd => ?_⟩
      · rw [atI_eq]
        unfold atI
        rw [r.length, hj]
        exact h1
      · have nd := hN nd
        rw [h2, List.nodup_append, List.nodup_append] at nd
        exact nd.1.2.1
  cases rx with
  | lstF h1 r1 =>
    cases ry with
    | int i =>
      obtain ⟨v, h2, h3⟩ := seq r1 (by simpa [idxD] using h) (fun a z => absurd z List.not_mem_nil) (fun z => z)
      exact .inl ⟨_, _, i, v, rfl, rfl, .inl (.inl (s _ _ h1)), h2, h3⟩
    | _ => simp [idxD] at h
  | lstO h1 r1 =>
    cases ry with
    | int i =>
      obtain ⟨v, h2, h3⟩ := seq r1 (by simpa [idxD] using h) (fun a z => List.mem_cons_of_mem _ z) (fun z => (List.nodup_cons.mp z).2)
      exact .inl ⟨_, _, i, v, rfl, rfl, .inl (.inl h1), h2, h3⟩
    | _ => simp [idxD] at h
  | tup h1 r1 =>
    cases ry with
    | int i =>
      obtain ⟨v, h2, h3⟩ := seq r1 (by simpa [idxD] using h) (fun a z => z) (fun z => z)
      exact .inr (.inl ⟨_, _, i, v, rfl, rfl, .inl (.inl (s _ _ h1)), h2, h3⟩)
    | _ => simp [idxD] at h
  | @scr a ns h1 =>
    cases ry with
    | int i =>
      simp only [idxD] at h
      cases e : atI ns i with
      | none => rw [e] at h; cases h
      | some n =>
        rw [e] at h
        simp only [Option.map_some, Option.some.injEq] at h
        subst h
        refine .inl ⟨_, _, i, .int n, rfl, rfl, s.seq h1, ?_, q _ [] (.int n) (fun a z => absurd z List.not_mem_nil) (fun _ => List.nodup_nil)⟩
        rw [atI_eq]
        unfold atI at e ⊢
        rw [List.length_map]
        cases e2 : ixN ns.length i with
        | none => rw [e2] at e; cases e
        | some j =>
          rw [e2] at e
          show (ns.map V.int)[j]? = _
          rw [List.getElem?_map, show ns[j]? = some n from e]
          rfl
    | _ => simp [idxD] at h
  | @str t cs e1 =>
    cases ry with
    | int i =>
      simp only [idxD] at h
      split at h
      · rename_i hl
        cases e : atI cs i with
        | none => rw [e] at h; cases h
        | some c =>
          rw [e] at h
          simp only [Option.map_some, Option.some.injEq] at h
          subst h
          refine .inr (.inr ⟨t, i, c, rfl, rfl, ?_, ?_, q _ [] (.str rfl) (fun a z => absurd z List.not_mem_nil) (fun _ => List.nodup_nil)⟩)
          · rw [str_len, e1, ← line_eq]
            exact hl
          · rw [atI_eq, e1]
            exact e
      · cases h
    | _ => simp [idxD] at h
  | _ => simp [idxD] at h
def rSl (K : PySem.W.Frag) : V → Option Int → Option Int → Hp → VK → Prop := fun x lo hi H Q => (L2.rSlL K x lo hi H Q ∨ L2.rSlA K x lo hi H Q) ∨ L2.rSlS x lo hi H Q
theorem sl_ok {X : L2.Cx} : L2.SlR X (rSl X.K) := (L2.sl_list.or L2.sl_tupA).or L2.sl_str
theorem Reps.cut0 {vs : List V} {ds : List D} (h : Reps K F H vs ds []) (a b : Option Int) : Reps K F H (cut vs a b) (cut ds a b) [] := by
  unfold cut
  rw [h.length]
  exact (h.drop _).take _
theorem sc_ints (ns : List Int) (a b : Option Int) : cut (ns.map V.int) a b = (cut ns a b).map V.int := by
  unfold cut
  rw [List.length_map, List.map_take, List.map_drop]
theorem slc_sem {a b : Option Int} (e : slcD x a b = some z) (rx : Rep K F H vx x Lx) (s : Same F H) (q : Leaves K F H z Q) : rSl K vx a b H Q := by
  cases rx with
  | lstF h1 r1 =>
    simp only [slcD] at e
    split at e
    · rename_i hf
      rw [← Option.some.inj e] at q
      exact .inl (.inl ⟨_, _, rfl, .inl (.inl (s _ _ h1)), by rw [cutV_eq]; exact q.lst s (r1.cut0 a b)⟩)
    · cases e
  | lstO h1 r1 =>
    simp only [slcD] at e
    split at e
    · rename_i hf
      rw [← Option.some.inj e] at q
      have e1 := r1.fro0 hf
      subst e1
      exact .inl (.inl ⟨_, _, rfl, .inl (.inl h1), by rw [cutV_eq]; exact q.lst s (r1.cut0 a b)⟩)
    · cases e
  | @scr p ns h1 =>
    simp only [slcD, Option.some.injEq] at e
    rw [← e] at q
    exact .inl (.inl ⟨_, _, rfl, s.seq h1, by rw [cutV_eq, sc_ints]; exact q.lst s (reps_ints _)⟩)
  | @tup p vs xs L h1 r1 =>
    simp only [slcD] at e
    split at e
    · rename_i hf
      rw [← Option.some.inj e] at q
      have e1 := r1.fro0 hf
      subst e1
      refine .inl (.inr ⟨p, vs, rfl, .inl (.inl (s _ _ h1)), fun hw => ?_, fun _ => by rw [cutV_eq]; exact q.tup s (r1.cut0 a b)⟩)
      have e2 : cut xs a b = xs := by
        unfold cut
        rw [sIx_eq, sIx_eq, r1.length] at hw
        rw [hw.1, hw.2, List.drop_zero, Nat.sub_zero, List.take_length]
      rw [e2] at q
      exact q.same (L := []) s (.tup h1 r1)
    · cases e
  | @str t cs e1 =>
    simp only [slcD] at e
    split at e
    · rename_i hl
      rw [← Option.some.inj e] at q
      refine .inr ⟨t, rfl, ?_, ?_⟩
      · rw [str_len, e1, ← line_eq]
        exact hl
      · refine q.same (L := []) s (.str ?_)
        unfold L2.cutS cut
        rw [sIx_eq, sIx_eq, str_len, e1]
    · cases e
  | _ => simp [slcD] at e
theorem rev_sem (e : revD x = some z) (rx : Rep K F H vx x Lx) (s : Same F H) (q : Leaves K F H z Q) : ∃ a xs, vx = .ref a ∧ SqL K H a xs ∧ ∀ p, H p = none → Q (.ref p) (upd H p (.lst xs.reverse)) := by
  cases rx with
  | lstF h1 r1 =>
    simp only [revD] at e
    split at e
    · rename_i hf
      rw [← Option.some.inj e] at q
      exact ⟨_, _, rfl, .inl (.inl (s _ _ h1)), q.lst s r1.rev0⟩
    · cases e
  | lstO h1 r1 =>
    simp only [revD] at e
    split at e
    · rename_i hf
      rw [← Option.some.inj e] at q
      have e1 := r1.fro0 hf
      subst e1
      exact ⟨_, _, rfl, .inl (.inl h1), q.lst s r1.rev0⟩
    · cases e
  | _ => simp [revD] at e
/-! ### built-ins of one argument -/
def b1Name : B1 → Str
  | .len => "len" | .int => "int" | .bool => "bool" | .list => "list" | .tuple => "tuple" | .sum => "sum" | .max => "max" | .min => "min" | .abs => "abs"
def b1Val : B1 → Value
  | .len => .builtin "len" | .int => .type "int" | .bool => .type "bool" | .list => .type "list" | .tuple => .type "tuple" | .sum => .builtin "sum" | .max => .builtin "max" | .min => .builtin "min" | .abs => .builtin "abs"
def rb1 (K : PySem.W.Frag) : B1 → List V → Hp → VK → Prop
  | .len => fun xs H Q => ∃ x n, xs = [x] ∧ L2.LenV K x H n ∧ Q (.int n) H
  | .int => fun xs H Q => (∃ i, xs = [.int i] ∧ Q (.int i) H) ∨ ∃ k, xs = [.bl k] ∧ Q (.int (if k then 1 else 0)) H
  | .bool => fun xs H Q => (∃ i, xs = [.int i] ∧ Q (.bl (i != 0)) H) ∨ ∃ k, xs = [.bl k] ∧ Q (.bl k) H
  | .list => fun xs H Q => ∃ p ys, xs = [.ref p] ∧ (SqL K H p ys ∨ SqT K H p ys) ∧ ∀ l, H l = none → Q (.ref l) (upd H l (.lst ys))
  | .tuple => fun xs H Q => ∃ p ys, xs = [.ref p] ∧ ((SqL K H p ys ∧ ∀ l, H l = none → Q (.ref l) (upd H l (.tup ys))) ∨ (SqT K H p ys ∧ Q (.ref p) H))
  | .sum => L2.rSum K
  | .max => L2.rMax K
  | .min => L2.rMin K
  | .abs => fun xs H Q => ∃ i, xs = [.int i] ∧ Q (.int (if i < 0 then -i else i)) H
theorem b1_ok {X : L2.Cx} (hc : X.calm = true) : ∀ f : B1, CallR X (b1Val f) (rb1 X.K f)
  | .len => L2.call_len
  | .int => L2.call_int1
  | .bool => L2.call_bool1
  | .list => L2.call_list_of
  | .tuple => L2.call_tuple_of
  | .sum => L2.cr_sum hc
  | .max => L2.cr_max hc
  | .min => L2.cr_min hc
  | .abs => L2.call_abs
theorem Leaves.int {i : Int} (h : Leaves K F H (.int i) Q) (s : Same F H) : Q (.int i) H := h.same (L := []) s (.int i)
theorem foldMax (r : List Int) : ∀ x : Int, (r.foldl (fun a b => if b > a then b else a) x = x ∨ r.foldl (fun a b => if b > a then b else a) x ∈ r) ∧ x ≤ r.foldl (fun a b => if b > a then b else a) x ∧ ∀ y ∈ r, y ≤ r.foldl (fun a b => if b > a then b else a) x := by
  induction r with
  | nil => exact fun x => ⟨.inl rfl, Int.le_refl x, fun y z => absurd z List.not_mem_nil⟩
  | cons b r ih =>
    intro x
    obtain ⟨h1, h2, h3⟩ := ih (if b > x then b else x)
    rw [List.foldl_cons]
    refine ⟨?_, ?_, fun y hy => ?_⟩
    · rcases h1 with h1 | h1
      · rw [h1]
        by_cases hb : b > x
        · rw [if_pos hb]; exact .inr List.mem_cons_self
        · rw [if_neg hb]; exact .inl rfl
      · exact .inr (List.mem_cons_of_mem _ h1)
    · refine Int.le_trans ?_ h2
      split <;> omega
    · rcases List.mem_cons.mp hy with e | e
      · subst e
        refine Int.le_trans ?_ h2
        split <;> omega
      · exact h3 y e
theorem foldMin (r : List Int) : ∀ x : Int, (r.foldl (fun a b => if b < a then b else a) x = x ∨ r.foldl (fun a b => if b < a then b else a) x ∈ r) ∧ r.foldl (fun a b => if b < a then b else a) x ≤ x ∧ ∀ y ∈ r, r.foldl (fun a b => if b < a then b else a) x ≤ y := by
  induction r with
  | nil => exact fun x => ⟨.inl rfl, Int.le_refl x, fun y z => absurd z List.not_mem_nil⟩
  | cons b r ih =>
    intro x
    obtain ⟨h1, h2, h3⟩ := ih (if b < x then b else x)
    rw [List.foldl_cons]
    refine ⟨?_, ?_, fun y hy => ?_⟩
    · rcases h1 with h1 | h1
      · rw [h1]
        by_cases hb : b < x
        · rw [if_pos hb]; exact .inr List.mem_cons_self
        · rw [if_neg hb]; exact .inl rfl
      · exact .inr (List.mem_cons_of_mem _ h1)
    · refine Int.le_trans h2 ?_
      split <;> omega
    · rcases List.mem_cons.mp hy with e | e
      · subst e
        refine Int.le_trans h2 ?_
        split <;> omega
      · exact h3 y e
theorem lstL {o : Bool} {xs : List D} {L : List Addr} {v : V} {ns : List Int} (s : Same F H) (r : Rep K F H v (.lst o xs) L) (h : intsOf xs = some ns) : ∃ a, v = .ref a ∧ SqL K H a (ns.map V.int) := by
  obtain ⟨a, ws, M, e1, e2, e3, _⟩ := lst_inv s r
  rw [e3.intsOf h] at e2
  exact ⟨a, e1, .inl (.inl e2)⟩
theorem b1_sem (f : B1) (h : b1D f x = some z) (rx : Rep K F H vx x Lx) (s : Same F H) (q : Leaves K F H z Q) : rb1 K f [vx] H Q := by
  cases f with
  | len =>
    cases rx with
    | lstF h1 r1 =>
      simp only [b1D, Option.some.injEq] at h
      rw [← h] at q
      exact ⟨_, _, rfl, .inl ⟨_, .inl (.inl (s _ _ h1)), rfl⟩, by rw [r1.length]; exact q.int s⟩
    | lstO h1 r1 =>
      simp only [b1D, Option.some.injEq] at h
      rw [← h] at q
      exact ⟨_, _, rfl, .inl ⟨_, .inl (.inl h1), rfl⟩, by rw [r1.length]; exact q.int s⟩
    | tup h1 r1 =>
      simp only [b1D, Option.some.injEq] at h
      rw [← h] at q
      exact ⟨_, _, rfl, .inr ⟨_, .inl (.inl (s _ _ h1)), rfl⟩, by rw [r1.length]; exact q.int s⟩
    | str e1 =>
      simp only [b1D] at h
      split at h
      · rename_i hl
        rw [← Option.some.inj h] at q
        exact ⟨_, _, rfl, ⟨by rw [str_len, e1, ← line_eq]; exact hl, rfl⟩, by rw [str_len, e1]; exact q.int s⟩
      · cases h
    | scr h1 =>
      simp only [b1D, Option.some.injEq] at h
      rw [← h] at q
      exact ⟨_, _, rfl, .inl ⟨_, s.seq h1, rfl⟩, by rw [List.length_map]; exact q.int s⟩
    | _ => simp [b1D] at h
  | int =>
    cases rx with
    | int i =>
      simp only [b1D, Option.some.injEq] at h
      rw [← h] at q
      exact .inl ⟨i, rfl, q.int s⟩
    | bl b =>
      simp only [b1D, Option.some.injEq] at h
      rw [← h] at q
      exact .inr ⟨b, rfl, q.int s⟩
    | _ => simp [b1D] at h
  | bool =>
    cases rx with
    | bl b =>
      simp only [b1D, Option.some.injEq] at h
      rw [← h] at q
      exact .inr ⟨b, rfl, q.bl s⟩
    | _ => simp [b1D] at h
  | list =>
    cases rx with
    | lstF h1 r1 =>
      simp only [b1D] at h
      split at h
      · rw [← Option.some.inj h] at q
        exact ⟨_, _, rfl, .inl (.inl (.inl (s _ _ h1))), q.lst s r1⟩
      · cases h
    | lstO h1 r1 =>
      simp only [b1D] at h
      split at h
      · rename_i hf
        rw [← Option.some.inj h] at q
        have e1 := r1.fro0 hf
        subst e1
        exact ⟨_, _, rfl, .inl (.inl (.inl h1)), q.lst s r1⟩
      · cases h
    | tup h1 r1 =>
      simp only [b1D] at h
      split at h
      · rename_i hf
        rw [← Option.some.inj h] at q
        have e1 := r1.fro0 hf
        subst e1
        exact ⟨_, _, rfl, .inr (.inl (.inl (s _ _ h1))), q.lst s r1⟩
      · cases h
    | _ => simp [b1D] at h
  | tuple =>
    cases rx with
    | lstF h1 r1 =>
      simp only [b1D] at h
      split at h
      · rw [← Option.some.inj h] at q
        exact ⟨_, _, rfl, .inl ⟨.inl (.inl (s _ _ h1)), q.tup s r1⟩⟩
      · cases h
    | lstO h1 r1 =>
      simp only [b1D] at h
      split at h
      · rename_i hf
        rw [← Option.some.inj h] at q
        have e1 := r1.fro0 hf
        subst e1
        exact ⟨_, _, rfl, .inl ⟨.inl (.inl h1), q.tup s r1⟩⟩
      · cases h
    | _ => simp [b1D] at h
  | sum =>
    cases x with
    | lst o xs =>
      simp only [b1D, Option.map_eq_some_iff] at h
      obtain ⟨ns, h1, h2⟩ := h
      obtain ⟨a, e1, e2⟩ := lstL s rx h1
      rw [← h2] at q
      exact ⟨a, ns, by rw [e1], e2, q.int s⟩
    | _ => simp [b1D] at h
  | max =>
    cases x with
    | lst o xs =>
      simp only [b1D, Option.bind_eq_some_iff, Option.map_eq_some_iff] at h
      obtain ⟨ns, h1, m, h2, h3⟩ := h
      obtain ⟨a, e1, e2⟩ := lstL s rx h1
      rw [← h3] at q
      cases ns with
      | nil => simp [maxL] at h2
      | cons n r =>
        simp only [maxL, Option.some.injEq] at h2
        obtain ⟨g1, g2, g3⟩ := foldMax r n
        rw [h2] at g1 g2 g3
        refine ⟨a, n :: r, by rw [e1], e2, by simp, fun k hk hle => ?_⟩
        have e3 : k = m := by
          have l1 : m ≤ k := by
            rcases g1 with g | g
            · rw [g]; exact hle n List.mem_cons_self
            · exact hle m (List.mem_cons_of_mem _ g)
          have l2 : k ≤ m := by
            rcases List.mem_cons.mp hk with g | g
            · rw [g]; exact g2
            · exact g3 k g
          omega
        rw [e3]
        exact q.int s
    | _ => simp [b1D] at h
  | min =>
    cases x with
    | lst o xs =>
      simp only [b1D, Option.bind_eq_some_iff, Option.map_eq_some_iff] at h
      obtain ⟨ns, h1, m, h2, h3⟩ := h
      obtain ⟨a, e1, e2⟩ := lstL s rx h1
      rw [← h3] at q
      cases ns with
      | nil => simp [minL] at h2
      | cons n r =>
        simp only [minL, Option.some.injEq] at h2
        obtain ⟨g1, g2, g3⟩ := foldMin r n
        rw [h2] at g1 g2 g3
        refine ⟨a, n :: r, by rw [e1], e2, by simp, fun k hk hle => ?_⟩
        have e3 : k = m := by
          have l1 : k ≤ m := by
            rcases g1 with g | g
            · rw [g]; exact hle n List.mem_cons_self
            · exact hle m (List.mem_cons_of_mem _ g)
          have l2 : m ≤ k := by
            rcases List.mem_cons.mp hk with g | g
            · rw [g]; exact g2
            · exact g3 k g
          omega
        rw [e3]
        exact q.int s
    | _ => simp [b1D] at h
  | abs =>
    cases rx with
    | int i =>
      simp only [b1D, Option.some.injEq] at h
      rw [← h] at q
      exact ⟨i, rfl, q.int s⟩
    | _ => simp [b1D] at h
/-! ### two arguments; kinds -/
def b2Name : B2 → Str
  | .max => "max" | .min => "min"
def b2Val : B2 → Value
  | .max => .builtin "max" | .min => .builtin "min"
def rb2 : B2 → List V → Hp → VK → Prop
  | .max => fun xs H Q => ∃ i j, xs = [.int i, .int j] ∧ Q (.int (if j > i then j else i)) H
  | .min => fun xs H Q => ∃ i j, xs = [.int i, .int j] ∧ Q (.int (if j < i then j else i)) H
theorem b2_ok {X : L2.Cx} (hc : X.calm = true) : ∀ f : B2, CallR X (b2Val f) (rb2 f)
  | .max => L2.call_max2 hc
  | .min => L2.call_min2 hc
theorem b2_sem (f : B2) (h : b2D f x y = some z) (rx : Rep K F H vx x Lx) (ry : Rep K F H vy y Ly) (s : Same F H) (q : Leaves K F H z Q) : rb2 f [vx, vy] H Q := by
  cases f <;> cases rx <;> first | (simp [b2D] at h; done) | skip
  all_goals
    cases ry <;> first | (simp [b2D] at h; done) | skip
  all_goals
    simp only [b2D, Option.some.injEq] at h
    rw [← h] at q
    exact ⟨_, _, rfl, q.int s⟩
def tyNm : Ty → String
  | .int => "int" | .bool => "bool" | .str => "str" | .list => "list" | .tuple => "tuple" | .dict => "dict"
theorem isi_sem (t : Ty) {b : Bool} (h : isiD t x = some b) (rx : Rep K F H vx x Lx) (s : Same F H) (q : Q (.bl b) H) : L2.rIsi K [vx, .ty (tyNm t)] H Q := by
  have go : ∀ (n : String), L2.TyX K H vx (.type n) → L2.kitB n (tyNm t) = some b → L2.rIsi K [vx, .ty (tyNm t)] H Q := fun n h1 h2 => ⟨vx, .ty (tyNm t), .type n, .type (tyNm t), b, rfl, .ty _, h1, L2.kit_ty h2, q⟩
  cases rx with
  | non => exact go "NoneType" (.base .non) (by cases t <;> simp only [isiD, Option.some.injEq] at h <;> rw [← h] <;> decide +kernel)
  | bl c => exact go "bool" (.base (.bl c)) (by cases t <;> simp only [isiD, Option.some.injEq] at h <;> rw [← h] <;> decide +kernel)
  | int i => exact go "int" (.base (.int i)) (by cases t <;> simp only [isiD, Option.some.injEq] at h <;> rw [← h] <;> decide +kernel)
  | str e => exact go "str" (.base (.str _)) (by cases t <;> simp only [isiD, Option.some.injEq] at h <;> rw [← h] <;> decide +kernel)
  | scr e => cases t <;> simp [isiD] at h
  | tup e r => exact go "tuple" (.base (.tup (s _ _ e))) (by cases t <;> simp only [isiD, Option.some.injEq] at h <;> rw [← h] <;> decide +kernel)
  | lstF e r => exact go "list" (.base (.lst (s _ _ e))) (by cases t <;> simp only [isiD, Option.some.injEq] at h <;> rw [← h] <;> decide +kernel)
  | lstO e r => exact go "list" (.base (.lst e)) (by cases t <;> simp only [isiD, Option.some.injEq] at h <;> rw [← h] <;> decide +kernel)
/-! ### changes of lists -/
def muName : Mu → Str
  | .append => "append" | .extend => "extend" | .pop => "pop" | .popAt => "pop" | .insert => "insert" | .reverse => "reverse" | .clear => "clear"
def muId : Mu → String
  | .append => "list.append" | .extend => "list.extend" | .pop => "list.pop" | .popAt => "list.pop" | .insert => "list.insert" | .reverse => "list.reverse" | .clear => "list.clear"
def rIns : V → List V → Hp → VK → Prop := fun x vs H Q => ∃ (l : Addr) (xs : List V) (i : Int) (y : V), x = .ref l ∧ vs = [.int i, y] ∧ H l = some (.lst xs) ∧ xs.length < sizeLine ∧ 0 ≤ i ∧ i < 2 ^ 63 ∧
    Q .non (upd H l (.lst (xs.take i.toNat ++ [y] ++ xs.drop i.toNat)))
def rmu : Mu → V → List V → Hp → VK → Prop
  | .append => L2.rAppend | .extend => L2.rExtend | .pop => L2.rPop | .popAt => L2.rPopAt | .insert => rIns | .reverse => L2.rReverse | .clear => L2.rClear
theorem mu_ok {X : L2.Cx} : ∀ m : Mu, L2.MtR X (muId m) (rmu m)
  | .append => L2.mt_append
  | .extend => L2.mt_extend
  | .pop => L2.mt_pop
  | .popAt => L2.mt_popAt
  | .insert => L2.mt_insert
  | .reverse => L2.mt_reverse
  | .clear => L2.mt_clear
theorem ixN_eq (n : Nat) (i : Int) {j : Nat} (h : ixN n i = some j) : seqIndex? i n = some j := (L2.ixN_seq (show L2.ixN n i = some j from h)).1
/-- a list that stands at l is changed -/
theorem mut_sem (m : Mu) {l : Addr} {vs ws : List V} {xs es : List D} {M N : List Addr} {d' : D} (h : mutD m (.lst true xs) es = some (y, d')) (hl : H l = some (.lst vs)) (r1 : Reps K F H vs xs M) (r2 : Reps K F H ws es N)
    (s : Same F H) (nF : F l = none) (nM : l ∉ M) (nN : l ∉ N) (nd : (M ++ N).Nodup)
    (q : ∀ vy vs' xs' Ly M', d' = .lst true xs' → Rep K F (upd H l (.lst vs')) vy y Ly → Reps K F (upd H l (.lst vs')) vs' xs' M' → (M' ++ Ly).Nodup → (∀ a ∈ M' ++ Ly, a ∈ M ++ N) → Q vy (upd H l (.lst vs'))) :
    rmu m (.ref l) ws H Q := by
  have kM : ∀ {o : HO}, ∀ a ∈ M, upd H l o a = H a := fun {o} a ha => upd_ne fun e => nM (e ▸ ha)
  have kN : ∀ {o : HO}, ∀ a ∈ N, upd H l o a = H a := fun {o} a ha => upd_ne fun e => nN (e ▸ ha)
  have non : ∀ {o : HO}, Rep K F (upd H l o) .non .non [] := .non
  cases m with
  | append =>
    match es, r2, h with
    | [e], .cons (L1 := A) r .nil, h =>
      simp only [mutD] at h
      split at h
      · rename_i hz
        simp only [Option.some.injEq, Prod.mk.injEq] at h
        obtain ⟨rfl, rfl⟩ := h
        rw [List.append_nil] at nd kN
        refine ⟨l, vs, _, rfl, rfl, hl, by rw [r1.length, ← line_eq]; exact hz, q _ _ _ [] (M ++ A) rfl non ((r1.mono (Same.refl F) kM).append (.one (r.mono (Same.refl F) kN))) (by simpa using nd) fun a ha => by simpa using ha⟩
      · cases h
    | [], _, h => simp [mutD] at h
    | _ :: _ :: _, _, h => simp [mutD] at h
  | extend =>
    match es, r2, h with
    | [.lst o ys], .cons (L1 := A) r .nil, h =>
      obtain ⟨b, zs, B, e1, e2, e3, e4⟩ := lst_inv s r
      simp only [mutD] at h
      split at h
      · rename_i hz
        simp only [Bool.and_eq_true, decide_eq_true_eq] at hz
        simp only [Option.some.injEq, Prod.mk.injEq] at h
        obtain ⟨rfl, rfl⟩ := h
        have e5 := e3.fro0 hz.1
        subst e5
        refine ⟨l, b, vs, zs, rfl, by rw [e1], hl, e2, by rw [r1.length, e3.length, ← line_eq]; exact hz.2, q _ _ _ [] M rfl non ?_ ?_ ?_⟩
        · have := (r1.mono (H' := upd H l (.lst (vs ++ zs))) (Same.refl F) kM).append (e3.mono (H' := upd H l (.lst (vs ++ zs))) (Same.refl F) fun a z => absurd z List.not_mem_nil)
          rwa [List.append_nil] at this
        · rw [List.append_nil]
          exact (List.nodup_append.mp nd).1
        · intro a ha
          rw [List.append_nil] at ha
          exact List.mem_append_left _ ha
      · cases h
    | [], _, h => simp [mutD] at h
    | [.non], _, h => simp [mutD] at h
    | [.bl _], _, h => simp [mutD] at h
    | [.int _], _, h => simp [mutD] at h
    | [.str _], _, h => simp [mutD] at h
    | [.scr _], _, h => simp [mutD] at h
    | [.tup _], _, h => simp [mutD] at h
    | _ :: _ :: _, _, h => simp [mutD] at h
  | pop =>
    match es, r2, h with
    | [], .nil, h =>
      simp only [mutD, Option.map_eq_some_iff, Prod.mk.injEq] at h
      obtain ⟨d, h1, rfl, rfl⟩ := h
      rw [List.getLast?_eq_getElem?] at h1
      obtain ⟨v, L1, L2', L3, g1, g2, g3, g4, g5⟩ := r1.at h1
      refine ⟨l, vs, v, rfl, rfl, hl, by rw [r1.length]; exact g1, q v _ _ L2' (L1 ++ L3) rfl (g3.mono (Same.refl F) fun a ha => kM a (by rw [g2]; simp [ha])) ?_ ?_ ?_⟩
      · rw [← List.eraseIdx_length_sub_one, ← List.eraseIdx_length_sub_one, r1.length]
        exact g5.mono (Same.refl F) fun a ha => kM a (by
          rw [g2]
          rcases List.mem_append.mp ha with z | z <;> simp [z])
      · rw [List.append_nil, g2] at nd
        rw [List.nodup_append] at nd ⊢
        obtain ⟨n1, n2, n3⟩ := nd
        rw [List.nodup_append] at n1 ⊢
        refine ⟨⟨n1.1, n2, fun a ha b hb => n3 a (List.mem_append_left _ ha) b hb⟩, n1.2.1, fun a ha b hb e => ?_⟩
        rcases List.mem_append.mp ha with z | z
        · exact n1.2.2 a z b hb e
        · exact n3 b (List.mem_append_right _ hb) a z e.symm
      · intro a ha
        rw [List.append_nil, g2]
        rcases List.mem_append.mp ha with z | z
        · rcases List.mem_append.mp z with z | z <;> simp [z]
        · simp [z]
    | _ :: _, _, h => simp [mutD] at h
  | popAt =>
    match es, r2, h with
    | [.int i], .cons (.int _) .nil, h =>
      simp only [mutD] at h
      split at h
      · rename_i hb
        simp only [Bool.and_eq_true, decide_eq_true_eq] at hb
        simp only [Option.bind_eq_some_iff, Option.map_eq_some_iff, Prod.mk.injEq] at h
        obtain ⟨j, h0, d, h1, rfl, rfl⟩ := h
        obtain ⟨v, L1, L2', L3, g1, g2, g3, g4, g5⟩ := r1.at h1
        refine ⟨l, vs, i, j, v, rfl, rfl, hl, by omega, by omega, ixN_eq _ _ (by rw [r1.length]; exact h0), g1, q v _ _ L2' (L1 ++ L3) rfl (g3.mono (Same.refl F) fun a ha => kM a (by rw [g2]; simp [ha])) ?_ ?_ ?_⟩
        · exact g5.mono (Same.refl F) fun a ha => kM a (by
            rw [g2]
            rcases List.mem_append.mp ha with z | z <;> simp [z])
        · simp only [List.append_nil] at nd
          rw [g2] at nd
          rw [List.nodup_append] at nd ⊢
          obtain ⟨n1, n2, n3⟩ := nd
          rw [List.nodup_append] at n1 ⊢
          refine ⟨⟨n1.1, n2, fun a ha b hb => n3 a (List.mem_append_left _ ha) b hb⟩, n1.2.1, fun a ha b hb e => ?_⟩
          rcases List.mem_append.mp ha with z | z
          · exact n1.2.2 a z b hb e
          · exact n3 b (List.mem_append_right _ hb) a z e.symm
        · intro a ha
          simp only [List.append_nil]
          rw [g2]
          rcases List.mem_append.mp ha with z | z
          · rcases List.mem_append.mp z with z | z <;> simp [z]
          · simp [z]
      · cases h
    | [], _, h => simp [mutD] at h
    | [.non], _, h => simp [mutD] at h
    | [.bl _], _, h => simp [mutD] at h
    | [.str _], _, h => simp [mutD] at h
    | [.scr _], _, h => simp [mutD] at h
    | [.tup _], _, h => simp [mutD] at h
    | [.lst _ _], _, h => simp [mutD] at h
    | _ :: _ :: _, _, h => simp [mutD] at h
  | insert =>
    match es, r2, h with
    | [.int i, e], .cons (.int _) (.cons (v := w) (L1 := A) r .nil), h =>
      simp only [mutD] at h
      split at h
      · rename_i hz
        simp only [Bool.and_eq_true, decide_eq_true_eq] at hz
        obtain ⟨⟨⟨f1, f2⟩, f3⟩, f4⟩ := hz
        simp only [Option.some.injEq, Prod.mk.injEq] at h
        obtain ⟨rfl, rfl⟩ := h
        have e5 := r1.fro0 f1
        subst e5
        simp only [List.append_nil, List.nil_append] at nd kN
        have r1' := r1.mono (H' := upd H l (.lst (vs.take i.toNat ++ [w] ++ vs.drop i.toNat))) (Same.refl F) kM
        refine ⟨l, vs, i, w, rfl, rfl, hl, by rw [r1.length, ← line_eq]; exact f2, f3, by omega, q _ _ _ [] A rfl non ?_ (by simpa using nd) fun a ha => by simpa using ha⟩
        have := ((r1'.take i.toNat).append (.one (r.mono (H' := upd H l (.lst (vs.take i.toNat ++ [w] ++ vs.drop i.toNat))) (Same.refl F) kN))).append (r1'.drop i.toNat)
        simpa using this
      · cases h
    | [], _, h => simp [mutD] at h
    | [_], _, h => simp [mutD] at h
    | [.non, _], _, h => simp [mutD] at h
    | [.bl _, _], _, h => simp [mutD] at h
    | [.str _, _], _, h => simp [mutD] at h
    | [.scr _, _], _, h => simp [mutD] at h
    | [.tup _, _], _, h => simp [mutD] at h
    | [.lst _ _, _], _, h => simp [mutD] at h
    | _ :: _ :: _ :: _, _, h => simp [mutD] at h
  | reverse =>
    match es, r2, h with
    | [], .nil, h =>
      simp only [mutD, Option.some.injEq, Prod.mk.injEq] at h
      obtain ⟨rfl, rfl⟩ := h
      obtain ⟨L', g1, g2, g3⟩ := r1.rev
      refine ⟨l, vs, rfl, rfl, hl, q _ _ _ [] L' rfl non (g1.mono (Same.refl F) fun a ha => kM a ((g3 a).mp ha)) ?_ fun a ha => ?_⟩
      · rw [List.append_nil] at nd ⊢
        exact g2 nd
      · rw [List.append_nil] at ha ⊢
        exact (g3 a).mp ha
    | _ :: _, _, h => simp [mutD] at h
  | clear =>
    match es, r2, h with
    | [], .nil, h =>
      simp only [mutD, Option.some.injEq, Prod.mk.injEq] at h
      obtain ⟨rfl, rfl⟩ := h
      exact ⟨l, vs, rfl, rfl, hl, q _ _ _ [] [] rfl non .nil List.nodup_nil fun a z => absurd z List.not_mem_nil⟩
    | _ :: _, _, h => simp [mutD] at h
end
end VI

set_option maxRecDepth 100000
set_option maxHeartbeats 2000000
/-! VI.Sound6: expressions, one by one. -/
namespace VI
open PySem PySem.Spec PyProof.Rows
open L2 (V Hp HO SqL SqT Same upd upd_same upd_ne RelV Vals VK WX OpR R2 CallR TE TT TA PE PT PA tOp tUn)

section
variable (K : PySem.W.Frag) (W : WX) (cl : Cl)
/-- the reading t does what m says -/
def SndE (n : Nat) (m : Env → R (D × Rt × Env)) (t : TE) : Prop := ∀ (σ : L2.St) (env : Env) (F H : Hp) (T : Addr → Prop) (Q : VK), σ.length = n → Mem K F H T σ env →
  Gd K σ T F H W cl (fun (d, r, e) => ∀ v F' H' L Lf, Out K σ T F H d r e v F' H' L Lf → Q v H') (m env) → t σ H Q
/-- a test -/
def SndT (n : Nat) (m : Env → R (Bool × Env)) (t : TT) : Prop := ∀ (σ : L2.St) (env : Env) (F H : Hp) (T : Addr → Prop) (Q : Bool → Hp → Prop), σ.length = n → Mem K F H T σ env →
  Gd K σ T F H W cl (fun (b, e) => ∀ F' H', Same F F' → (∀ a, T a → H' a = H a) → Mem K F' H' T σ e → Q b H') (m env) → t σ H Q
/-- values that stand alone, one behind the other -/
def SndA (n : Nat) (m : Env → R (List D × Env)) (t : TA) : Prop := ∀ (σ : L2.St) (env : Env) (F H : Hp) (T : Addr → Prop) (Q : List V → Hp → Prop), σ.length = n → Mem K F H T σ env →
  Gd K σ T F H W cl (fun (ds, e) => ∀ vs F' H' L, Same F F' → (∀ a, T a → H' a = H a) → Reps K F' H' vs ds L → L.Nodup → (∀ a ∈ L, ¬ T a) → Mem K F' H' (Tp T L) σ e → Q vs H') (m env) → t σ H Q
end
section
variable {K : PySem.W.Frag} {W : WX} {cl : Cl} {n : Nat} {F F' H H' : Hp} {T : Addr → Prop} {σ : L2.St} {env : Env}

/-- an operation of one value -/
theorem snd1 {m : Env → R (D × Rt × Env)} {ta : TE} (ha : SndE K W cl n m ta) {opD : D → Option D} {rr : V → Hp → VK → Prop}
    (hop : ∀ {x z : D} {vx : V} {F H : Hp} {Lx : List Addr} {Q : VK}, opD x = some z → Rep K F H vx x Lx → Same F H → Leaves K F H z Q → rr vx H Q) :
    SndE K W cl n (fun env => m env >>= fun (x, _, e1) => fin (opD x) e1) (fun σ H Q => ta σ H fun x H1 => rr x H1 Q) := by
  intro σ env F H T Q hn mm g
  refine ha σ env F H T _ hn mm (Gd.imp (Gd.bind g) ?_)
  rintro ⟨x, r, e1⟩ g1 v F1 H1 L1 Lf1 o
  have g1 : Gd K σ T F H W cl _ (fin (opD x) e1) := g1
  cases hz : opD x with
  | none => rw [hz] at g1; exact g1.elim
  | some z =>
    rw [hz] at g1
    exact hop hz o.rep o.mem.sub fun v F' H' L rep nd n => g1 v F' H' L L (Out.ofNew o.fs o.ks o.mem0 rep nd n)
/-- of two -/
theorem snd2 {m m' : Env → R (D × Rt × Env)} {ta tb : TE} (ha : SndE K W cl n m ta) (hb : SndE K W cl n m' tb) {opD : D → D → Option D} {rr : R2}
    (hop : ∀ {x y z : D} {vx vy : V} {F H : Hp} {Lx Ly : List Addr} {Q : VK}, opD x y = some z → Rep K F H vx x Lx → Rep K F H vy y Ly → Same F H → Leaves K F H z Q → rr vx vy H Q) :
    SndE K W cl n (fun env => m env >>= fun (x, r, e1) => m' (hid r e1) >>= fun (y, _, e2) => fin (opD x y) (unh r e1 e2)) (tOp rr ta tb) := by
  intro σ env F H T Q hn mm g
  refine ha σ env F H T _ hn mm (Gd.imp (Gd.bind g) ?_)
  rintro ⟨x, r, e1⟩ g1 v F1 H1 L1 Lf1 o1
  have g1 : Gd K σ T F H W cl _ (m' (hid r e1) >>= fun (y, _, e2) => fin (opD x y) (unh r e1 e2)) := g1
  refine hb σ (hid r e1) F1 H1 (Tp T Lf1) _ hn o1.mem (Gd.imp (Gd.on (Gd.bind g1) o1.fs o1.ks fun a => .inl) ?_)
  rintro ⟨y, r', e2⟩ g2 w F2 H2 L2 Lf2 o2
  have g2 : Gd K σ T F H W cl _ (fin (opD x y) (unh r e1 e2)) := g2
  cases hz : opD x y with
  | none => rw [hz] at g2; exact g2.elim
  | some z =>
    rw [hz] at g2
    have rx := o1.rep.mono o2.fs fun a ha => o2.ks a (.inr (o1.sub a ha))
    refine hop hz rx o2.rep o2.mem.sub fun v F' H' L rep nd n => g2 v F' H' L L ?_
    have m2 := o1.bk.back o1.nd o1.nt o2.fs (fun a ha => o2.ks a (.inr ha)) o2.mem0
    exact Out.ofNew (o1.fs.trans o2.fs) (fun a ha => (o2.ks a (.inl ha)).trans (o1.ks a ha)) m2 rep nd n
/-- a value that stands alone -/
theorem Gd.own {P : D × Env → Prop} {m : R (D × Rt × Env)} (g : Gd K σ T F H W cl P (own m)) : Gd K σ T F H W cl (fun (d, r, e) => r = none ∧ P (d, e)) m := by
  match m, g with
  | .ok (d, none, e), g => exact ⟨rfl, g⟩
  | .ok (d, some i, e), g => exact False.elim g
  | .exc c e, g => exact g
  | .bad, g => exact g
/-! names and constants -/
theorem snd_pk {i : Nat} : SndE K W cl n (fun env => match env.getD i none with | some d => .ok (d, rootOf d i, env) | none => .bad) (L2.tVar i) := by
  intro σ env F H T Q hn mm g
  dsimp only at g
  cases hd : env.getD i none with
  | none => rw [hd] at g; exact g.elim
  | some d =>
    rw [hd] at g
    obtain ⟨v, L, h1, h2, h3, h4, h5⟩ := mm.hide hd
    refine ⟨v, h1, g v F H L (if d.fro then [] else L) ?_⟩
    by_cases hf : d.fro = true
    · have e := h2.fro0 hf
      subst e
      simp only [rootOf, hf, if_true]
      exact ⟨Same.refl F, fun _ _ => rfl, h2, List.nodup_nil, fun a z => z, fun a z => absurd z List.not_mem_nil, by rw [Tp_nil]; exact mm, fun _ => rfl, trivial⟩
    · simp only [rootOf, hf, if_false]
      exact ⟨Same.refl F, fun _ _ => rfl, h2, h3, fun a z => z, h4, h5, fun e => (nomatch e), ⟨v, d, h1, hd, h2⟩⟩
theorem snd_fz {i : Nat} : SndE K W cl n (fun env => match env.getD i none with | some d => .ok (d.frz, none, env.set i (some d.frz)) | none => .bad) (L2.tVar i) := by
  intro σ env F H T Q hn mm g
  dsimp only at g
  cases hd : env.getD i none with
  | none => rw [hd] at g; exact g.elim
  | some d =>
    rw [hd] at g
    obtain ⟨v, L, h1, h2, h3, h4, h5⟩ := mm.hide hd
    have hF : ∀ a ∈ L, F a = none := fun a ha => (h5.fr a (.inr ha)).1
    have r : Rep K (frzH F H L) H v d.frz [] := h2.frz (frzH_same hF) fun a ha => frzH_in ha
    have m2 := h5.frzd h4
    have m3 : Mem K (frzH F H L) H (Tp T []) σ (env.set i none) := by rw [Tp_nil]; exact m2
    have m4 := m3.put' r List.nodup_nil (fun a z => absurd z List.not_mem_nil) h1
    rw [List.set_set] at m4
    refine ⟨v, h1, g v (frzH F H L) H [] [] ⟨frzH_same hF, fun _ _ => rfl, r, List.nodup_nil, fun a z => z, fun a z => absurd z List.not_mem_nil, by rw [Tp_nil]; exact m4, fun _ => rfl, trivial⟩⟩
theorem snd_mv {i : Nat} : SndE K W cl n (fun env => match env.getD i none with | some d => .ok (d, none, env.set i none) | none => .bad) (L2.tVar i) := by
  intro σ env F H T Q hn mm g
  dsimp only at g
  cases hd : env.getD i none with
  | none => rw [hd] at g; exact g.elim
  | some d =>
    rw [hd] at g
    obtain ⟨v, L, h1, h2, h3, h4, h5⟩ := mm.hide hd
    exact ⟨v, h1, g v F H L L ⟨Same.refl F, fun _ _ => rfl, h2, h3, fun a z => z, h4, h5, fun _ => rfl, trivial⟩⟩
def cV : C → V
  | .non => .non
  | .bl b => .bl b
  | .int i => .int i
  | .str s => .str (Str.ofString s)
theorem cV_rep (c : C) : Rep K F H (cV c) c.d [] := by
  cases c with
  | non => exact .non
  | bl b => exact .bl b
  | int i => exact .int i
  | str s =>
    refine .str ?_
    show (cpsOfBytes 0 0 s.toByteArray.data.toList).toArray.toList = _
    rw [cpsOfBytes_string]
    rfl
theorem snd_c {c : C} : SndE K W cl n (fun env => .ok (c.d, none, env)) (L2.tC (cV c)) := by
  intro σ env F H T Q hn mm g
  exact g (cV c) F H [] [] ⟨Same.refl F, fun _ _ => rfl, cV_rep c, List.nodup_nil, fun a z => z, fun a z => absurd z List.not_mem_nil, by rw [Tp_nil]; exact mm, fun _ => rfl, trivial⟩
/-- frozen -/
theorem snd_frz {m : Env → R (D × Rt × Env)} {ta : TE} (ha : SndE K W cl n m ta) : SndE K W cl n (fun env => own (m env) >>= fun (x, e1) => .ok (x.frz, none, e1)) ta := by
  intro σ env F H T Q hn mm g
  refine ha σ env F H T _ hn mm (Gd.imp (Gd.own (Gd.bind g)) ?_)
  rintro ⟨x, r, e1⟩ ⟨hr, g1⟩ v F1 H1 L1 Lf1 o
  have hr : r = none := hr
  subst hr
  have g1 : ∀ v F' H' L Lf, Out K σ T F H x.frz none e1 v F' H' L Lf → Q v H' := g1
  have e := o.all rfl
  subst e
  have hF : ∀ a ∈ L1, F1 a = none := fun a ha => (o.mem.fr a (.inr ha)).1
  refine g1 v (frzH F1 H1 L1) H1 [] [] ⟨o.fs.trans (frzH_same hF), o.ks, o.rep.frz (frzH_same hF) fun a ha => frzH_in ha, List.nodup_nil, fun a z => z, fun a z => absurd z List.not_mem_nil, ?_, fun _ => rfl, trivial⟩
  rw [Tp_nil]
  exact Mem.frzd o.mem o.nt
/-- an item -/
theorem snd_idx {m m' : Env → R (D × Rt × Env)} {ta tb : TE} (ha : SndE K W cl n m ta) (hb : SndE K W cl n m' tb) :
    SndE K W cl n (fun env => m env >>= fun (x, r, e1) => m' (hid r e1) >>= fun (y, _, e2) => match idxD x y with | some z => .ok (z, subRoot z r, unh r e1 e2) | none => .bad) (tOp (L2.rIx K) ta tb) := by
  intro σ env F H T Q hn mm g
  refine ha σ env F H T _ hn mm (Gd.imp (Gd.bind g) ?_)
  rintro ⟨x, r, e1⟩ g1 v F1 H1 L1 Lf1 o1
  have g1 : Gd K σ T F H W cl _ (m' (hid r e1) >>= fun (y, _, e2) => match idxD x y with | some z => .ok (z, subRoot z r, unh r e1 e2) | none => .bad) := g1
  refine hb σ (hid r e1) F1 H1 (Tp T Lf1) _ hn o1.mem (Gd.imp (Gd.on (Gd.bind g1) o1.fs o1.ks fun a => .inl) ?_)
  rintro ⟨y, r', e2⟩ g2 w F2 H2 L2 Lf2 o2
  have g2 : Gd K σ T F H W cl _ (match idxD x y with | some z => .ok (z, subRoot z r, unh r e1 e2) | none => .bad) := g2
  cases hz : idxD x y with
  | none => rw [hz] at g2; exact g2.elim
  | some z =>
    rw [hz] at g2
    have rx := o1.rep.mono o2.fs fun a ha => o2.ks a (.inr (o1.sub a ha))
    have k2 : ∀ a, T a → H2 a = H a := fun a ha => (o2.ks a (.inl ha)).trans (o1.ks a ha)
    have f2 := o1.fs.trans o2.fs
    have mB := o2.mem0
    have mR := o1.bk.back o1.nd o1.nt o2.fs (fun a ha => o2.ks a (.inr ha)) mB
    refine idx_sem hz rx o2.rep o2.mem.sub fun u L rep hsub hnd => ?_
    by_cases hf : z.fro = true
    · have e := rep.fro0 hf
      subst e
      refine g2 u F2 H2 [] [] ?_
      simp only [subRoot, hf, if_true]
      exact ⟨f2, k2, rep, List.nodup_nil, fun a z => z, fun a z => absurd z List.not_mem_nil, by rw [Tp_nil]; exact mR, fun _ => rfl, trivial⟩
    · cases r with
      | none =>
        have e := o1.all rfl
        subst e
        refine g2 u F2 H2 L L ?_
        simp only [subRoot, hf, if_false]
        exact ⟨f2, k2, rep, hnd o1.nd, fun a z => z, fun a z => o1.nt a (hsub a z), mB.weak fun a ha => ha.elim .inl fun z => .inr (hsub a z), fun _ => rfl, trivial⟩
      | some i =>
        refine g2 u F2 H2 L Lf1 ?_
        simp only [subRoot, hf, if_false]
        obtain ⟨v0, d0, b1, b2, b3⟩ := o1.bk
        have b3' := b3.mono o2.fs fun a ha => o2.ks a (.inr ha)
        have hl : i < e2.length := by
          rw [mB.len]
          exact (List.getElem?_eq_some_iff.mp b1).1
        have hu : unh (some i) e1 e2 = e2.set i (some d0) := by
          show e2.set i (e1.getD i none) = _
          rw [b2]
        refine ⟨f2, k2, rep, o1.nd, fun a ha => o1.sub a (hsub a ha), o1.nt, ?_, fun e => (nomatch e), ⟨v0, d0, b1, ?_, b3'⟩⟩
        · rw [hu]
          show Mem K F2 H2 (Tp T Lf1) σ ((e2.set i (some d0)).set i none)
          rw [List.set_set]
          exact mB.clear i
        · rw [hu, getD_set, if_pos ⟨rfl, hl⟩]
/-! tests -/
theorem snd_bl {m : Env → R (D × Rt × Env)} {ta : TE} (ha : SndE K W cl n m ta) : SndT K W cl n (fun env => asBl (m env)) (L2.tB ta) := by
  intro σ env F H T Q hn mm g
  refine ha σ env F H T _ hn mm ?_
  dsimp only at g
  cases hm : m env with
  | bad => rw [hm] at g; exact g.elim
  | exc c e => rw [hm] at g; exact g
  | ok p =>
    obtain ⟨d, r, e⟩ := p
    rw [hm] at g
    intro v F' H' L Lf o
    cases d with
    | bl b =>
      have g : ∀ F' H', Same F F' → (∀ a, T a → H' a = H a) → Mem K F' H' T σ e → Q b H' := g
      have hr := o.rep
      cases hr
      exact ⟨b, rfl, g F' H' o.fs o.ks o.mem0⟩
    | _ => exact g.elim
/-- argument lists -/
theorem snd_nil : SndA K W cl n (fun env => .ok ([], env)) L2.tNil := by
  intro σ env F H T Q hn mm g
  exact g [] F H [] (Same.refl F) (fun _ _ => rfl) .nil List.nodup_nil (fun a z => absurd z List.not_mem_nil) (by rw [Tp_nil]; exact mm)
theorem snd_cons {m : Env → R (D × Rt × Env)} {m' : Env → R (List D × Env)} {ta : TE} {tr : TA} (ha : SndE K W cl n m ta) (hr : SndA K W cl n m' tr) :
    SndA K W cl n (fun env => own (m env) >>= fun (d, e1) => m' e1 >>= fun (ds, e2) => .ok (d :: ds, e2)) (L2.tCons ta tr) := by
  intro σ env F H T Q hn mm g
  refine ha σ env F H T _ hn mm (Gd.imp (Gd.own (Gd.bind g)) ?_)
  rintro ⟨x, r, e1⟩ ⟨hr', g1⟩ v F1 H1 L1 Lf1 o
  have hr' : r = none := hr'
  subst hr'
  have e := o.all rfl
  subst e
  have g1 : Gd K σ T F H W cl _ (m' e1 >>= fun (ds, e2) => .ok (x :: ds, e2)) := g1
  refine hr σ e1 F1 H1 (Tp T L1) _ hn o.mem (Gd.imp (Gd.on (Gd.bind g1) o.fs o.ks fun a => .inl) ?_)
  rintro ⟨ds, e2⟩ g2 vs F2 H2 L2 f2 k2 r2 nd2 nt2 m2
  refine g2 (v :: vs) F2 H2 (L1 ++ L2) (o.fs.trans f2) (fun a ha => (k2 a (.inl ha)).trans (o.ks a ha)) (.cons (o.rep.mono f2 fun a ha => k2 a (.inr ha)) r2) ?_ ?_ (by rw [← Tp_Tp]; exact m2)
  · rw [List.nodup_append]
    exact ⟨o.nd, nd2, fun a ha b hb e => nt2 b hb (.inr (e ▸ ha))⟩
  · intro a ha
    rcases List.mem_append.mp ha with z | z
    · exact o.nt a z
    · exact fun w => nt2 a z (.inl w)
/-- a tuple, a list as they are written -/
theorem snd_tup {m : Env → R (List D × Env)} {t : TA} (ha : SndA K W cl n m t) : SndE K W cl n (fun env => m env >>= fun (ds, e1) => if ds.length ≤ line then .ok (.tup ds, none, e1) else .bad) (L2.tTup t) := by
  intro σ env F H T Q hn mm g
  refine ha σ env F H T _ hn mm (Gd.imp (Gd.bind g) ?_)
  rintro ⟨ds, e1⟩ g1 vs F1 H1 L f1 k1 r1 nd nt m1
  have g1 : Gd K σ T F H W cl _ (if ds.length ≤ line then (.ok (.tup ds, none, e1) : R (D × Rt × Env)) else .bad) := g1
  split at g1
  · rename_i hz
    refine ⟨by rw [r1.length, ← line_eq]; exact hz, fun p hp => ?_⟩
    have n := New.frz (o := .tup vs) m1.sub hp
    have g1 : ∀ v F' H' L Lf, Out K σ T F H (.tup ds) none e1 v F' H' L Lf → Q v H' := g1
    have kp : ∀ a, Tp T L a → upd H1 p (.tup vs) a = H1 a := fun a ha => upd_ne fun e => by
      rw [e] at ha
      exact (m1.fr p ha).2 hp
    refine g1 (.ref p) _ _ L L ⟨f1.trans n.fs, fun a ha => (kp a (.inl ha)).trans (k1 a ha), .tup upd_same (r1.mono n.fs fun a ha => kp a (.inr ha)), nd, fun a z => z, nt, ?_, fun _ => rfl, trivial⟩
    have := m1.new n
    rwa [Tp_nil] at this
  · exact g1.elim
theorem snd_lst {m : Env → R (List D × Env)} {t : TA} (ha : SndA K W cl n m t) : SndE K W cl n (fun env => m env >>= fun (ds, e1) => if ds.length ≤ line then .ok (.lst true ds, none, e1) else .bad) (L2.tLst t) := by
  intro σ env F H T Q hn mm g
  refine ha σ env F H T _ hn mm (Gd.imp (Gd.bind g) ?_)
  rintro ⟨ds, e1⟩ g1 vs F1 H1 L f1 k1 r1 nd nt m1
  have g1 : Gd K σ T F H W cl _ (if ds.length ≤ line then (.ok (.lst true ds, none, e1) : R (D × Rt × Env)) else .bad) := g1
  split at g1
  · rename_i hz
    refine ⟨by rw [r1.length, ← line_eq]; exact hz, fun p hp => ?_⟩
    have n := New.own1 (o := .lst vs) m1.sub hp
    have g1 : ∀ v F' H' L Lf, Out K σ T F H (.lst true ds) none e1 v F' H' L Lf → Q v H' := g1
    have kp : ∀ a, Tp T L a → upd H1 p (.lst vs) a = H1 a := fun a ha => upd_ne fun e => by
      rw [e] at ha
      exact (m1.fr p ha).2 hp
    refine g1 (.ref p) _ _ (p :: L) (p :: L) ⟨f1, fun a ha => (kp a (.inl ha)).trans (k1 a ha), .lstO upd_same (r1.mono (Same.refl _) fun a ha => kp a (.inr ha)), ?_, fun a z => z, ?_, ?_, fun _ => rfl, trivial⟩
    · rw [List.nodup_cons]
      exact ⟨fun z => (m1.fr p (.inr z)).2 hp, nd⟩
    · intro a ha
      rcases List.mem_cons.mp ha with z | z
      · subst z
        exact fun w => (m1.fr a (.inl w)).2 hp
      · exact nt a z
    · have := m1.new n
      rw [Tp_Tp] at this
      exact this.weak fun a ha => ha.elim .inl fun z => .inr (by
        rcases List.mem_cons.mp z with w | w
        · exact List.mem_append_right _ (by simp [w])
        · exact List.mem_append_left _ w)
  · exact g1.elim
end
end VI

set_option maxRecDepth 100000
set_option maxHeartbeats 2000000
/-! VI.Sound7: and, or, chains, calls. -/
namespace VI
open PySem PySem.Spec PyProof.Rows
open L2 (V Hp HO SqL SqT Same upd upd_same upd_ne RelV Vals VK WX OpR R2 CallR TE TT TA PE PT PA tOp tUn)

section
variable {K : PySem.W.Frag} {W : WX} {cl : Cl} {n : Nat} {F F' H H' : Hp} {T : Addr → Prop} {σ : L2.St} {env : Env}
/-- a test as a value -/
def val (m : Env → R (Bool × Env)) (env : Env) : R (D × Rt × Env) := m env >>= fun (b, e1) => .ok (.bl b, none, e1)
theorem Out.bl {b : Bool} {e : Env} (f : Same F F') (k : ∀ a, T a → H' a = H a) (m : Mem K F' H' T σ e) : Out K σ T F H (.bl b) none e (.bl b) F' H' [] [] :=
  ⟨f, k, .bl b, List.nodup_nil, fun a z => z, fun a z => absurd z List.not_mem_nil, by rw [Tp_nil]; exact m, fun _ => rfl, trivial⟩
/-- one more in a chain of and (k = true), or (k = false) -/
def chainB (k : Bool) (m : Env → R (D × Rt × Env)) (mr : Env → R (Bool × Env)) (env : Env) : R (Bool × Env) := asBl (m env) >>= fun (b, e1) => if b = k then mr e1 else .ok (b, e1)
theorem sndT_one {k : Bool} {m : Env → R (D × Rt × Env)} {t : TT} (ha : SndT K W cl n (fun env => asBl (m env)) t) : SndT K W cl n (chainB k m fun e => .ok (k, e)) t := by
  intro σ env F H T Q hn mm g
  refine ha σ env F H T Q hn mm ?_
  unfold chainB at g
  refine Gd.imp (Gd.bind g) ?_
  rintro ⟨b, e1⟩ g1
  by_cases h : b = k
  · subst h
    simpa using g1
  · simpa [h] using g1
theorem sndT_and {m : Env → R (D × Rt × Env)} {mr : Env → R (Bool × Env)} {t u : TT} (ha : SndT K W cl n (fun env => asBl (m env)) t) (hr : SndT K W cl n mr u) : SndT K W cl n (chainB true m mr) (L2.tAnd t u) := by
  intro σ env F H T Q hn mm g
  refine ha σ env F H T _ hn mm ?_
  unfold chainB at g
  refine Gd.imp (Gd.bind g) ?_
  rintro ⟨b, e1⟩ g1 F1 H1 f1 k1 m1
  cases b with
  | true =>
    have g1 : Gd K σ T F H W cl (fun (b, e) => ∀ F' H', Same F F' → (∀ a, T a → H' a = H a) → Mem K F' H' T σ e → Q b H') (mr e1) := by simpa using g1
    show u σ H1 Q
    refine hr σ e1 F1 H1 T Q hn m1 (Gd.imp (Gd.on g1 f1 k1 fun a z => z) ?_)
    rintro ⟨c, e2⟩ g2 F2 H2 f2 k2 m2
    exact g2 F2 H2 (f1.trans f2) (fun a ha => (k2 a ha).trans (k1 a ha)) m2
  | false =>
    have g1 : ∀ F' H', Same F F' → (∀ a, T a → H' a = H a) → Mem K F' H' T σ e1 → Q false H' := by simpa using g1
    show Q false H1
    exact g1 F1 H1 f1 k1 m1
theorem sndT_or {m : Env → R (D × Rt × Env)} {mr : Env → R (Bool × Env)} {t u : TT} (ha : SndT K W cl n (fun env => asBl (m env)) t) (hr : SndT K W cl n mr u) : SndT K W cl n (chainB false m mr) (L2.tOr t u) := by
  intro σ env F H T Q hn mm g
  refine ha σ env F H T _ hn mm ?_
  unfold chainB at g
  refine Gd.imp (Gd.bind g) ?_
  rintro ⟨b, e1⟩ g1 F1 H1 f1 k1 m1
  cases b with
  | false =>
    have g1 : Gd K σ T F H W cl (fun (b, e) => ∀ F' H', Same F F' → (∀ a, T a → H' a = H a) → Mem K F' H' T σ e → Q b H') (mr e1) := by simpa using g1
    show u σ H1 Q
    refine hr σ e1 F1 H1 T Q hn m1 (Gd.imp (Gd.on g1 f1 k1 fun a z => z) ?_)
    rintro ⟨c, e2⟩ g2 F2 H2 f2 k2 m2
    exact g2 F2 H2 (f1.trans f2) (fun a ha => (k2 a ha).trans (k1 a ha)) m2
  | true =>
    have g1 : ∀ F' H', Same F F' → (∀ a, T a → H' a = H a) → Mem K F' H' T σ e1 → Q true H' := by simpa using g1
    show Q true H1
    exact g1 F1 H1 f1 k1 m1
/-- a value that is a truth, of a test's make -/
theorem sndV_one {k : Bool} {m : Env → R (D × Rt × Env)} {t : TE} (ha : SndE K W cl n m t) : SndE K W cl n (val (chainB k m fun e => .ok (k, e))) t := by
  intro σ env F H T Q hn mm g
  refine ha σ env F H T Q hn mm ?_
  unfold val chainB at g
  cases hm : m env with
  | bad => rw [hm] at g; exact g.elim
  | exc c e => rw [hm] at g; exact g
  | ok p =>
    obtain ⟨d, r, e⟩ := p
    rw [hm] at g
    intro v F' H' L Lf o
    cases d with
    | bl b =>
      have hr := o.rep
      cases hr
      have g' : ∀ v F' H' L Lf, Out K σ T F H (.bl b) none e v F' H' L Lf → Q v H' := by
        by_cases h : b = k
        · subst h
          simpa [asBl] using g
        · simpa [asBl, h] using g
      exact g' _ F' H' [] [] (Out.bl o.fs o.ks o.mem0)
    | _ => exact g.elim
theorem sndV_and {m : Env → R (D × Rt × Env)} {mr : Env → R (Bool × Env)} {ta tr : TE} (ha : SndE K W cl n m ta) (hr : SndE K W cl n (val mr) tr) : SndE K W cl n (val (chainB true m mr)) (L2.tAndV ta tr) := by
  intro σ env F H T Q hn mm g
  refine ha σ env F H T _ hn mm ?_
  unfold val chainB at g
  cases hm : m env with
  | bad => rw [hm] at g; exact g.elim
  | exc c e => rw [hm] at g; exact g
  | ok p =>
    obtain ⟨d, r, e⟩ := p
    rw [hm] at g
    intro v F1 H1 L Lf o
    cases d with
    | bl b =>
      have hr' := o.rep
      cases hr'
      refine ⟨b, rfl, ?_⟩
      cases b with
      | true =>
        have g1 : Gd K σ T F H W cl (fun (d, r, e) => ∀ v F' H' L Lf, Out K σ T F H d r e v F' H' L Lf → Q v H') (val mr e) := by simpa [asBl, val] using g
        show tr σ H1 Q
        refine hr σ e F1 H1 T Q hn o.mem0 (Gd.imp (Gd.on g1 o.fs o.ks fun a z => z) ?_)
        rintro ⟨d, r', e2⟩ g2 w F2 H2 L2 Lf2 o2
        exact g2 w F2 H2 L2 Lf2 ⟨o.fs.trans o2.fs, fun a ha => (o2.ks a ha).trans (o.ks a ha), o2.rep, o2.nd, o2.sub, o2.nt, o2.mem, o2.all, o2.bk⟩
      | false =>
        have g1 : ∀ v F' H' L Lf, Out K σ T F H (.bl false) none e v F' H' L Lf → Q v H' := by simpa [asBl] using g
        show Q (.bl false) H1
        exact g1 _ F1 H1 [] [] (Out.bl o.fs o.ks o.mem0)
    | _ => exact g.elim
theorem sndV_or {m : Env → R (D × Rt × Env)} {mr : Env → R (Bool × Env)} {ta tr : TE} (ha : SndE K W cl n m ta) (hr : SndE K W cl n (val mr) tr) : SndE K W cl n (val (chainB false m mr)) (L2.tOrV ta tr) := by
  intro σ env F H T Q hn mm g
  refine ha σ env F H T _ hn mm ?_
  unfold val chainB at g
  cases hm : m env with
  | bad => rw [hm] at g; exact g.elim
  | exc c e => rw [hm] at g; exact g
  | ok p =>
    obtain ⟨d, r, e⟩ := p
    rw [hm] at g
    intro v F1 H1 L Lf o
    cases d with
    | bl b =>
      have hr' := o.rep
      cases hr'
      refine ⟨b, rfl, ?_⟩
      cases b with
      | false =>
        have g1 : Gd K σ T F H W cl (fun (d, r, e) => ∀ v F' H' L Lf, Out K σ T F H d r e v F' H' L Lf → Q v H') (val mr e) := by simpa [asBl, val] using g
        show tr σ H1 Q
        refine hr σ e F1 H1 T Q hn o.mem0 (Gd.imp (Gd.on g1 o.fs o.ks fun a z => z) ?_)
        rintro ⟨d, r', e2⟩ g2 w F2 H2 L2 Lf2 o2
        exact g2 w F2 H2 L2 Lf2 ⟨o.fs.trans o2.fs, fun a ha => (o2.ks a ha).trans (o.ks a ha), o2.rep, o2.nd, o2.sub, o2.nt, o2.mem, o2.all, o2.bk⟩
      | true =>
        have g1 : ∀ v F' H' L Lf, Out K σ T F H (.bl true) none e v F' H' L Lf → Q v H' := by simpa [asBl] using g
        show Q (.bl true) H1
        exact g1 _ F1 H1 [] [] (Out.bl o.fs o.ks o.mem0)
    | _ => exact g.elim
/-- not, as a test -/
theorem sndT_not {m : Env → R (D × Rt × Env)} {t : TT} (ha : SndT K W cl n (fun env => asBl (m env)) t) :
    SndT K W cl n (fun env => asBl (m env >>= fun (x, _, e1) => fin (op1D .not_ x) e1)) (L2.tNot t) := by
  intro σ env F H T Q hn mm g
  refine ha σ env F H T _ hn mm ?_
  dsimp only at g ⊢
  cases hm : m env with
  | bad => rw [hm] at g; exact g.elim
  | exc c e => rw [hm] at g; exact g
  | ok p =>
    obtain ⟨d, r, e⟩ := p
    rw [hm] at g
    cases d with
    | bl b =>
      intro F' H' f k m'
      have g : ∀ F' H', Same F F' → (∀ a, T a → H' a = H a) → Mem K F' H' T σ e → Q (!b) H' := g
      exact g F' H' f k m'
    | _ => exact g.elim
/-- a <= b < c -/
theorem snd_chn {m m' m'' : Env → R (D × Rt × Env)} {ta tb tc : TE} (ha : SndE K W cl n m ta) (hb : SndE K W cl n m' tb) (hc : SndE K W cl n m'' tc) {o o' : OC} :
    SndE K W cl n (fun env => own (m env) >>= fun (x, e1) => own (m' e1) >>= fun (y, e2) => match cmpD o x y with
      | some (.bl true) => m'' e2 >>= fun (z, _, e3) => fin (cmpD o' y z) e3
      | some (.bl false) => .ok (.bl false, none, e2)
      | _ => .bad) (L2.tChain (rc K o) (rc K o') ta tb tc) := by
  intro σ env F H T Q hn mm g
  refine ha σ env F H T _ hn mm (Gd.imp (Gd.own (Gd.bind g)) ?_)
  rintro ⟨x, r, e1⟩ ⟨hr, g1⟩ v F1 H1 L1 Lf1 o1
  have hr : r = none := hr
  subst hr
  have e := o1.all rfl
  subst e
  refine hb σ e1 F1 H1 (Tp T L1) _ hn o1.mem (Gd.imp (Gd.own (Gd.on (Gd.bind g1) o1.fs o1.ks fun a => .inl)) ?_)
  rintro ⟨y, r, e2⟩ ⟨hr, g2⟩ w F2 H2 L2' Lf2 o2
  have hr : r = none := hr
  subst hr
  have e := o2.all rfl
  subst e
  have g2 : Gd K σ T F H W cl _ (match cmpD o x y with
      | some (.bl true) => m'' e2 >>= fun (z, _, e3) => fin (cmpD o' y z) e3
      | some (.bl false) => .ok (.bl false, none, e2)
      | _ => .bad) := g2
  have rx := o1.rep.mono o2.fs fun a ha => o2.ks a (.inr ha)
  have k2 : ∀ a, T a → H2 a = H a := fun a ha => (o2.ks a (.inl ha)).trans (o1.ks a ha)
  have f2 := o1.fs.trans o2.fs
  cases hz : cmpD o x y with
  | none => rw [hz] at g2; exact g2.elim
  | some zz =>
    rw [hz] at g2
    refine cmp_sem o hz rx o2.rep o2.mem.sub fun v' F3 H3 L3 r3 nd3 n3 => ?_
    cases zz with
    | bl b =>
      cases r3
      refine ⟨b, rfl, ?_⟩
      have m3 : Mem K F3 H3 (Tp (Tp T L1) L2') σ e2 := by
        have := o2.mem.new n3
        rwa [Tp_nil] at this
      have k3 : ∀ a, Tp (Tp T L1) L2' a → H3 a = H2 a := fun a ha => by
        cases q : H2 a with
        | none => exact absurd q (o2.mem.fr a ha).2
        | some ob => exact n3.hs a ob q
      cases b with
      | true =>
        have g2 : Gd K σ T F H W cl _ (m'' e2 >>= fun (z, _, e3) => fin (cmpD o' y z) e3) := g2
        refine hc σ e2 F3 H3 _ _ hn m3 (Gd.imp (Gd.on (Gd.bind g2) (f2.trans n3.fs) (fun a ha => (k3 a (.inl (.inl ha))).trans (k2 a ha)) fun a ha => .inl (.inl ha)) ?_)
        rintro ⟨z, r, e3⟩ g3 u F4 H4 L4 Lf4 o4
        have g3 : Gd K σ T F H W cl _ (fin (cmpD o' y z) e3) := g3
        cases hz' : cmpD o' y z with
        | none => rw [hz'] at g3; exact g3.elim
        | some zz =>
          rw [hz'] at g3
          have ry := (o2.rep.mono n3.fs fun a ha => k3 a (.inr ha)).mono o4.fs fun a ha => o4.ks a (.inr ha)
          refine cmp_sem o' hz' ry o4.rep o4.mem.sub fun v F' H' L rep nd n => g3 v F' H' L L ?_
          exact Out.ofNew ((f2.trans n3.fs).trans o4.fs) (fun a ha => (o4.ks a (.inl (.inl ha))).trans ((k3 a (.inl (.inl ha))).trans (k2 a ha))) o4.mem0.drop.drop rep nd n
      | false =>
        have g2 : ∀ v F' H' L Lf, Out K σ T F H (.bl false) none e2 v F' H' L Lf → Q v H' := g2
        show Q (.bl false) H3
        exact g2 _ F3 H3 [] [] (Out.bl (f2.trans n3.fs) (fun a ha => (k3 a (.inl (.inl ha))).trans (k2 a ha)) m3.drop.drop)
    | _ => exact g2.elim

/-! ### calls -/
/-- what the in-out places hold behind a call -/
inductive OutR (K : PySem.W.Frag) (F H : Hp) : List V → List (Option D) → List Addr → Prop
  | nil : OutR K F H [] [] []
  | yes {v : V} {d : D} {L1 : List Addr} {vs : List V} {os : List (Option D)} {L2 : List Addr} : Rep K F H v d L1 → OutR K F H vs os L2 → OutR K F H (v :: vs) (some d :: os) (L1 ++ L2)
  | no {v : V} {vs : List V} {os : List (Option D)} {L2 : List Addr} : OutR K F H vs os L2 → OutR K F H (v :: vs) (none :: os) L2
/-- behind a call of a def that was handed the places L -/
structure Aft (K : PySem.W.Frag) (F H : Hp) (L : List Addr) (F' H' : Hp) (Lr Lo : List Addr) : Prop where
  fs : Same F F'
  sub : Same F' H'
  ks : ∀ a, H a ≠ none → F a = none → a ∉ L → H' a = H a ∧ F' a = none
  nd : (Lr ++ Lo).Nodup
  own : ∀ a ∈ Lr ++ Lo, F' a = none ∧ H' a ≠ none ∧ (H a = none ∨ a ∈ L)
/-- THE PROMISE of the def f: what callF says -/
def spF (K : PySem.W.Frag) (cl : Cl) (P : Prg) (k : Nat) (f : String) : L2.Sp := fun vs H Q E => ∃ (F : Hp) (ds : List D) (L : List Addr) (fn : Fn), P f = some fn ∧ vs.length = fn.np ∧ Same F H ∧ Reps K F H vs ds L ∧ L.Nodup ∧ (∀ a ∈ L, F a = none ∧ H a ≠ none) ∧
  (match callF P k f fn.io ds with
  | .ok d outs => ∀ v F' H' Lr Lo, Rep K F' H' v d Lr → OutR K F' H' (fn.io.map fun j => vs.getD j .non) outs Lo → Aft K F H L F' H' Lr Lo → Q v H'
  | .exc c outs => ∀ C F' H' Lo, cl c = some C → OutR K F' H' (fn.io.map fun j => vs.getD j .non) outs Lo → Aft K F H L F' H' [] Lo → E (.ref C) none H'
  | .bad => False)
/-- the in-out values among the arguments; they are the slots' own -/
def iovs : Ags → List V → List V
  | .v _ r, _ :: vs => iovs r vs
  | .io _ r, v :: vs => v :: iovs r vs
  | _, _ => []
def ioV (σ : L2.St) : Ags → List V → Prop
  | .nil, [] => True
  | .v _ r, _ :: vs => ioV σ r vs
  | .io i r, v :: vs => σ[i]? = some (some v) ∧ ioV σ r vs
  | _, _ => False
theorem iop_vs : ∀ (as : Ags) (pre vs : List V), ioV σ as vs → (as.iop pre.length).map (fun j => (pre ++ vs).getD j .non) = iovs as vs
  | .nil, pre, [], _ => rfl
  | .nil, pre, _ :: _, h => h.elim
  | .v _ r, pre, v :: vs, h => by
    have := iop_vs r (pre ++ [v]) vs h
    rw [List.length_append, List.length_singleton, List.append_assoc] at this
    exact this
  | .v _ r, pre, [], h => h.elim
  | .io i r, pre, v :: vs, h => by
    have := iop_vs r (pre ++ [v]) vs h.2
    rw [List.length_append, List.length_singleton, List.append_assoc] at this
    show (pre ++ v :: vs).getD pre.length .non :: _ = v :: _
    rw [show (r.iop (pre.length + 1)).map (fun j => (pre ++ v :: vs).getD j .non) = iovs r vs from this]
    congr 1
    rw [List.getD_eq_getElem?_getD]
    simp
  | .io i r, pre, [], h => h.elim
theorem put_outs : ∀ (as : Ags) {vs : List V} {os : List (Option D)} {L : List Addr} {e : Env} {T : Addr → Prop}, ioV σ as vs → OutR K F H (iovs as vs) os L → L.Nodup → (∀ a ∈ L, ¬ T a) → Mem K F H (Tp T L) σ e → Mem K F H T σ (putOuts as.ios os e)
  | .nil, [], _, _, e, T, _, .nil, _, _, m => by rw [Tp_nil] at m; exact m
  | .nil, _ :: _, _, _, e, T, h, _, _, _, _ => h.elim
  | .v _ r, v :: vs, os, L, e, T, h, o, nd, nt, m => put_outs r (vs := vs) h o nd nt m
  | .v _ r, [], _, _, _, _, h, _, _, _, _ => h.elim
  | .io i r, [], _, _, _, _, h, _, _, _, _ => h.elim
  | .io i r, v :: vs, _, _, e, T, h, .yes (L1 := A) (L2 := B) rep o, nd, nt, m => by
    rw [List.nodup_append] at nd
    refine put_outs r (vs := vs) h.2 o nd.2.1 (fun a ha => nt a (List.mem_append_right _ ha)) ?_
    refine Mem.put' (L := A) (v := v) ?_ rep nd.1 (fun a ha z => ?_) h.1
    · rw [Tp_Tp]
      refine m.weak fun a ha => ha.elim .inl fun z => .inr ?_
      rcases List.mem_append.mp z with w | w
      · exact List.mem_append_right _ w
      · exact List.mem_append_left _ w
    · rcases z with z | z
      · exact nt a (List.mem_append_left _ ha) z
      · exact nd.2.2 a ha a z rfl
  | .io i r, v :: vs, _, _, e, T, h, .no o, nd, nt, m => put_outs r (vs := vs) h.2 o nd nt (m.clear i)
/-- the arguments of a call of an own def -/
def SndG (K : PySem.W.Frag) (W : WX) (cl : Cl) (n : Nat) (as : Ags) (m : Env → R (List D × Env)) (t : TA) : Prop := ∀ (σ : L2.St) (env : Env) (F H : Hp) (T : Addr → Prop) (Q : List V → Hp → Prop), σ.length = n → Mem K F H T σ env →
  Gd K σ T F H W cl (fun (ds, e) => ∀ vs F' H' L, Same F F' → (∀ a, T a → H' a = H a) → Reps K F' H' vs ds L → L.Nodup → (∀ a ∈ L, ¬ T a) → Mem K F' H' (Tp T L) σ e → ioV σ as vs → Q vs H') (m env) → t σ H Q
theorem sndG_nil : SndG K W cl n .nil (fun env => .ok ([], env)) L2.tNil := by
  intro σ env F H T Q hn mm g
  exact g [] F H [] (Same.refl F) (fun _ _ => rfl) .nil List.nodup_nil (fun a z => absurd z List.not_mem_nil) (by rw [Tp_nil]; exact mm) trivial
theorem sndG_v {e : E} {r : Ags} {m : Env → R (D × Rt × Env)} {m' : Env → R (List D × Env)} {ta : TE} {tr : TA} (ha : SndE K W cl n m ta) (hr : SndG K W cl n r m' tr) :
    SndG K W cl n (.v e r) (fun env => own (m env) >>= fun (d, e1) => m' e1 >>= fun (ds, e2) => .ok (d.frz :: ds, e2)) (L2.tCons ta tr) := by
  intro σ env F H T Q hn mm g
  refine ha σ env F H T _ hn mm (Gd.imp (Gd.own (Gd.bind g)) ?_)
  rintro ⟨x, r', e1⟩ ⟨hr', g1⟩ v F1 H1 L1 Lf1 o
  have hr' : r' = none := hr'
  subst hr'
  have e := o.all rfl
  subst e
  have hF : ∀ a ∈ L1, F1 a = none := fun a ha => (o.mem.fr a (.inr ha)).1
  have fz := frzH_same (H := H1) hF
  have rz : Rep K (frzH F1 H1 L1) H1 v x.frz [] := o.rep.frz fz fun a ha => frzH_in ha
  have mz := Mem.frzd o.mem o.nt
  have g1 : Gd K σ T F H W cl _ (m' e1 >>= fun (ds, e2) => .ok (x.frz :: ds, e2)) := g1
  refine hr σ e1 (frzH F1 H1 L1) H1 T _ hn mz (Gd.imp (Gd.on (Gd.bind g1) (o.fs.trans fz) o.ks fun a z => z) ?_)
  rintro ⟨ds, e2⟩ g2 vs F2 H2 L2 f2 k2 r2 nd2 nt2 m2 io
  exact g2 (v :: vs) F2 H2 ([] ++ L2) ((o.fs.trans fz).trans f2) (fun a ha => (k2 a ha).trans (o.ks a ha)) (.cons (rz.mono f2 fun a z => absurd z List.not_mem_nil) r2) nd2 nt2 m2 io
theorem sndG_io {i : Nat} {r : Ags} {m' : Env → R (List D × Env)} {tr : TA} (hr : SndG K W cl n r m' tr) :
    SndG K W cl n (.io i r) (fun env => match env.getD i none with
      | some _ => m' env >>= fun (ds, e2) => match e2.getD i none with
        | some d => .ok (d :: ds, e2.set i none)
        | none => .bad
      | none => .bad) (L2.tCons (L2.tVar i) tr) := by
  intro σ env F H T Q hn mm g
  dsimp only at g
  cases hd : env.getD i none with
  | none => rw [hd] at g; exact g.elim
  | some d0 =>
    rw [hd] at g
    obtain ⟨v, L0, h1, -, -, -, -⟩ := mm.hide hd
    refine ⟨v, h1, ?_⟩
    have g1 : Gd K σ T F H W cl _ (m' env >>= fun (ds, e2) => match e2.getD i none with
        | some d => .ok (d :: ds, e2.set i none)
        | none => .bad) := g
    refine hr σ env F H T _ hn mm (Gd.imp (Gd.bind g1) ?_)
    rintro ⟨ds, e2⟩ g2 vs F2 H2 L2 f2 k2 r2 nd2 nt2 m2 io
    have g2 : Gd K σ T F H W cl _ (match e2.getD i none with
        | some d => .ok (d :: ds, e2.set i none)
        | none => .bad) := g2
    cases hd2 : e2.getD i none with
    | none => rw [hd2] at g2; exact g2.elim
    | some d =>
      rw [hd2] at g2
      obtain ⟨v', L, p1, p2, p3, p4, p5⟩ := m2.hide hd2
      have e : v' = v := by
        rw [h1] at p1
        exact (Option.some.inj (Option.some.inj p1)).symm
      subst e
      refine g2 (v' :: vs) F2 H2 (L ++ L2) f2 k2 (.cons p2 r2) ?_ ?_ (p5.weak fun a ha => ?_) ⟨h1, io⟩
      · rw [List.nodup_append]
        exact ⟨p3, nd2, fun a ha b hb e => p4 a ha (.inr (e ▸ hb))⟩
      · intro a ha
        rcases List.mem_append.mp ha with z | z
        · exact fun w => p4 a z (.inl w)
        · exact nt2 a z
      · rcases ha with z | z
        · exact .inl (.inl z)
        · rcases List.mem_append.mp z with w | w
          · exact .inr w
          · exact .inl (.inr w)
/-- a call of an own def -/
theorem snd_call {P : Prg} {k : Nat} {f : String} {fn : Fn} {as : Ags} {m : Env → R (List D × Env)} {t : TA} (hP : P f = some fn) (hio : as.iop 0 = fn.io) (hnp : ∀ env ds e, m env = .ok (ds, e) → ds.length = fn.np) (ha : SndG K W cl n as m t) :
    SndE K W cl n (fun env => m env >>= fun (ds, e1) => match callF P k f (as.iop 0) ds with
      | .ok d outs => .ok (d, none, putOuts as.ios outs e1)
      | .exc c outs => .exc c (putOuts as.ios outs e1)
      | .bad => .bad) (L2.tCallS (spF K cl P k f) (L2.WE W) t) := by
  intro σ env F H T Q hn mm g
  refine ha σ env F H T _ hn mm (Gd.imp (Gd.bind (?_ : Gd K σ T F H W cl (fun (d, r, e) => ∀ v F' H' L Lf, Out K σ T F H d r e v F' H' L Lf → Q v H') (m env >>= fun (ds, e1) => if ds.length = fn.np then (match callF P k f (as.iop 0) ds with
      | .ok d outs => .ok (d, none, putOuts as.ios outs e1)
      | .exc c outs => .exc c (putOuts as.ios outs e1)
      | .bad => .bad) else .bad))) ?_)
  · dsimp only at g
    cases hm : m env with
    | bad => rw [hm] at g; exact g
    | exc c e => rw [hm] at g; exact g
    | ok p =>
      obtain ⟨ds, e⟩ := p
      rw [hm] at g
      show Gd K σ T F H W cl _ (if ds.length = fn.np then _ else _)
      rw [if_pos (hnp env ds e hm)]
      exact g
  rintro ⟨ds, e1⟩ g1 vs F1 H1 L f1 k1 r1 nd1 nt1 m1 io
  have g1 : Gd K σ T F H W cl (fun (d, r, e) => ∀ v F' H' L Lf, Out K σ T F H d r e v F' H' L Lf → Q v H') (if ds.length = fn.np then (match callF P k f (as.iop 0) ds with
      | .ok d outs => .ok (d, none, putOuts as.ios outs e1)
      | .exc c outs => .exc c (putOuts as.ios outs e1)
      | .bad => .bad) else .bad) := g1
  split at g1
  · rename_i hlen
    have hv : fn.io.map (fun j => vs.getD j .non) = iovs as vs := by
      rw [← hio]
      exact iop_vs as [] vs io
    have aft : ∀ {F' H' : Hp} {Lr Lo : List Addr}, Aft K F1 H1 L F' H' Lr Lo → Mem K F' H' (Tp T (Lr ++ Lo)) σ e1 ∧ (∀ a ∈ Lr ++ Lo, ¬ T a) ∧ ∀ a, T a → H' a = H1 a := fun {F' H' Lr Lo} A => by
      have kT : ∀ a, T a → H' a = H1 a ∧ F' a = none := fun a ha => A.ks a (m1.fr a (.inl ha)).2 (m1.fr a (.inl ha)).1 fun z => nt1 a z ha
      refine ⟨m1.step A.fs A.sub (fun a ha => ?_) fun a h1 h2 h3 => ?_, fun a ha z => ?_, fun a ha => (kT a ha).1⟩
      · rcases ha with ha | ha
        · exact ⟨(kT a ha).2, by rw [(kT a ha).1]; exact (m1.fr a (.inl ha)).2⟩
        · exact ⟨(A.own a ha).1, (A.own a ha).2.1⟩
      · obtain ⟨b1, b2⟩ := A.ks a h1 h2 fun z => h3 (.inr z)
        refine ⟨b1, b2, fun z => ?_⟩
        rcases z with z | z
        · exact h3 (.inl z)
        · rcases (A.own a z).2.2 with w | w
          · exact h1 w
          · exact h3 (.inr w)
      · rcases (A.own a ha).2.2 with w | w
        · exact (m1.fr a (.inl z)).2 w
        · exact nt1 a w z
    refine ⟨F1, ds, L, fn, hP, by rw [r1.length]; exact hlen, m1.sub, r1, nd1, fun a ha => m1.fr a (.inr ha), ?_⟩
    rw [← hio]
    cases hc : callF P k f (as.iop 0) ds with
    | bad => rw [hc] at g1; exact g1.elim
    | ok d outs =>
      rw [hc] at g1
      have g1 : ∀ v F' H' L Lf, Out K σ T F H d none (putOuts as.ios outs e1) v F' H' L Lf → Q v H' := g1
      rw [hio]
      intro v F' H' Lr Lo rep ro A
      rw [hv] at ro
      obtain ⟨mA, ntA, kA⟩ := aft A
      have nd := A.nd
      rw [List.nodup_append] at nd
      have mP : Mem K F' H' (Tp T Lr) σ (putOuts as.ios outs e1) := by
        refine put_outs as io ro nd.2.1 (fun a ha z => ?_) ?_
        · rcases z with z | z
          · exact ntA a (List.mem_append_right _ ha) z
          · exact nd.2.2 a z a ha rfl
        · rw [Tp_Tp]
          exact mA
      exact g1 v F' H' Lr Lr ⟨f1.trans A.fs, fun a ha => (kA a ha).trans (k1 a ha), rep, nd.1, fun a z => z, fun a ha => ntA a (List.mem_append_left _ ha), mP, fun _ => rfl, trivial⟩
    | exc c outs =>
      rw [hc] at g1
      have g1 : XC K σ T F H W cl c (putOuts as.ios outs e1) := g1
      rw [hio]
      intro C F' H' Lo hC ro A
      rw [hv] at ro
      obtain ⟨mA, ntA, kA⟩ := aft A
      have mP : Mem K F' H' T σ (putOuts as.ios outs e1) := put_outs as io ro A.nd ntA mA
      exact g1 C F' H' hC (f1.trans A.fs) (fun a ha => (kA a ha).trans (k1 a ha)) mP
  · exact g1.elim
end
end VI

set_option maxRecDepth 100000
set_option maxHeartbeats 2000000
/-! VI.Sound8: what is walked; loops; comprehensions. -/
namespace VI
open PySem PySem.Spec PyProof.Rows
open L2 (V Hp HO SqL SqT Same upd upd_same upd_ne RelV Vals VK WX OpR R2 CallR TE TT TA TS TG TI It PE PT PA PI tOp tUn Ends)

/-- J walks over the things ds, that are frozen -/
structure Wk (K : PySem.W.Frag) (J : L2.It) (ds : List D) (F0 : Hp) : Prop where
  go : ∀ i F H, Same F0 F → Same F H → i < ds.length → J.go i H ∧ ∀ x H', J.yld i H x H' → ∃ F' d, New F H F' H' [] ∧ ds[i]? = some d ∧ Rep K F' H' x d []
  stop : ∀ i F H, Same F0 F → Same F H → ds.length ≤ i → J.stop i H
section
variable {K : PySem.W.Frag} {W : WX} {cl : Cl} {n : Nat} {F F' H H' : Hp} {T : Addr → Prop} {σ : L2.St} {env : Env}
theorem wk_list {a : Addr} {vs : List V} {ds : List D} {F0 : Hp} (h : SqL K F0 a vs) (r : Reps K F0 F0 vs ds []) : Wk K (L2.Itl K a) ds F0 where
  go := fun i F H e s hi => by
    obtain ⟨v, h1, h2⟩ := r.get0 (List.getElem?_eq_getElem hi)
    have q : SqL K H a vs := s.seq (e.seq h)
    refine ⟨⟨vs, v, q, h1⟩, fun x H' hy => ?_⟩
    obtain ⟨rfl, hx⟩ := hy
    have e2 := (hx vs q).symm.trans h1
    cases e2
    exact ⟨F, _, New.refl s, List.getElem?_eq_getElem hi, h2.mono e fun a z => absurd z List.not_mem_nil⟩
  stop := fun i F H e s hi => ⟨vs, s.seq (e.seq h), by rw [r.length]; exact hi⟩
theorem sqT_same {a : Addr} {xs : List V} (e : Same F F') (h : SqT K F a xs) : SqT K F' a xs := by
  rcases h with (h | ⟨o, h⟩) | h
  · exact .inl (.inl (e _ _ h))
  · exact .inl (.inr ⟨o, e _ _ h⟩)
  · exact .inr h
theorem wk_tup {a : Addr} {vs : List V} {ds : List D} {F0 : Hp} (h : SqT K F0 a vs) (r : Reps K F0 F0 vs ds []) : Wk K (L2.Itt K a) ds F0 where
  go := fun i F H e s hi => by
    obtain ⟨v, h1, h2⟩ := r.get0 (List.getElem?_eq_getElem hi)
    have q : SqT K H a vs := sqT_same s (sqT_same e h)
    refine ⟨⟨vs, v, q, h1⟩, fun x H' hy => ?_⟩
    obtain ⟨rfl, hx⟩ := hy
    have e2 := (hx vs q).symm.trans h1
    cases e2
    exact ⟨F, _, New.refl s, List.getElem?_eq_getElem hi, h2.mono e fun a z => absurd z List.not_mem_nil⟩
  stop := fun i F H e s hi => ⟨vs, sqT_same s (sqT_same e h), by rw [r.length]; exact hi⟩
theorem wk_str {x : Str} {cs : List Nat} {F0 : Hp} (h : x.cps.toList = cs) : Wk K (L2.Its x) (cs.map fun c => .str [c]) F0 where
  go := fun i F H e s hi => by
    rw [List.length_map] at hi
    refine ⟨by show i < x.cps.size; rw [← Array.length_toList, h]; exact hi, fun v H' hy => ?_⟩
    obtain ⟨rfl, c, h1, rfl⟩ := hy
    refine ⟨F, .str [c], New.refl s, ?_, .str rfl⟩
    have h2 : cs[i]? = some c := by
      rw [← h, Array.getElem?_toList]
      exact h1
    rw [List.getElem?_map, h2]
    rfl
  stop := fun i F H e s hi => by
    rw [List.length_map] at hi
    show x.cps.size ≤ i
    rw [← Array.length_toList, h]
    exact hi
theorem wk_rng {lo : Int} {n : Nat} {F0 : Hp} : Wk K (L2.Itr lo n) ((List.range n).map fun (k : Nat) => D.int (lo + (k : Int))) F0 where
  go := fun i F H e s hi => by
    rw [List.length_map, List.length_range] at hi
    refine ⟨hi, fun v H' hy => ?_⟩
    obtain ⟨rfl, rfl⟩ := hy
    refine ⟨F, _, New.refl s, ?_, .int _⟩
    rw [List.getElem?_map, List.getElem?_range hi]
    rfl
  stop := fun i F H e s hi => by
    rw [List.length_map, List.length_range] at hi
    exact hi
theorem wk_down {lo : Int} {n : Nat} {F0 : Hp} : Wk K (L2.Itc lo (-1) n) ((List.range n).map fun (k : Nat) => D.int (lo - (k : Int))) F0 where
  go := fun i F H e s hi => by
    rw [List.length_map, List.length_range] at hi
    refine ⟨hi, fun v H' hy => ?_⟩
    obtain ⟨rfl, rfl⟩ := hy
    refine ⟨F, _, New.refl s, ?_, .int _⟩
    rw [List.getElem?_map, List.getElem?_range hi]
    show some (D.int _) = some (D.int _)
    congr 2
    omega
  stop := fun i F H e s hi => by
    rw [List.length_map, List.length_range] at hi
    exact hi
theorem numd_at : ∀ (xs : List D) (k i : Nat) {d : D}, xs[i]? = some d → (numd k xs)[i]? = some (.tup [.int ((k + i : Nat) : Int), d])
  | [], k, i, d, h => by simp at h
  | x :: xs, k, 0, d, h => by
    have e : x = d := Option.some.inj h
    subst e
    rfl
  | x :: xs, k, i + 1, d, h => by
    have := numd_at xs (k + 1) i (d := d) (by simpa using h)
    show (numd (k + 1) xs)[i]? = _
    rw [this, show k + 1 + i = k + (i + 1) by omega]
theorem numd_len : ∀ (xs : List D) (k : Nat), (numd k xs).length = xs.length
  | [], k => rfl
  | x :: xs, k => by
    show (numd (k + 1) xs).length + 1 = xs.length + 1
    rw [numd_len xs (k + 1)]
theorem wk_enum {a : Addr} {vs : List V} {ds : List D} {F0 : Hp} (h : SqL K F0 a vs) (r : Reps K F0 F0 vs ds []) : Wk K (L2.Ite K a) (numd 0 ds) F0 where
  go := fun i F H e s hi => by
    rw [numd_len] at hi
    obtain ⟨v, h1, h2⟩ := r.get0 (List.getElem?_eq_getElem hi)
    have q : SqL K H a vs := s.seq (e.seq h)
    refine ⟨⟨vs, v, q, h1⟩, fun x H' hy => ?_⟩
    obtain ⟨p, y, rfl, hp, rfl, hx⟩ := hy
    have e2 := Option.some.inj ((hx vs q).symm.trans h1)
    subst e2
    have n := New.frz (o := .tup [.int (i : Nat), y]) s hp
    refine ⟨_, _, n, numd_at ds 0 i (List.getElem?_eq_getElem hi), .tup upd_same (.co ?_ (.co (h2.mono (e.trans n.fs) fun a z => absurd z List.not_mem_nil) .nil))⟩
    rw [Nat.zero_add]
    exact .int _
  stop := fun i F H e s hi => by
    rw [numd_len] at hi
    exact ⟨vs, s.seq (e.seq h), by rw [r.length]; exact hi⟩
theorem zipd_at : ∀ (xs ys : List D) (i : Nat) {d e : D}, xs[i]? = some d → ys[i]? = some e → (zipd xs ys)[i]? = some (.tup [d, e])
  | [], ys, i, d, e, h, _ => by simp at h
  | x :: xs, [], i, d, e, _, h => by simp at h
  | x :: xs, y :: ys, 0, d, e, h, h' => by
    have e1 : x = d := Option.some.inj h
    have e2 : y = e := Option.some.inj h'
    subst e1 e2
    rfl
  | x :: xs, y :: ys, i + 1, d, e, h, h' => zipd_at xs ys i (by simpa using h) (by simpa using h')
theorem zipd_len : ∀ (xs ys : List D), (zipd xs ys).length = min xs.length ys.length
  | [], ys => by simp [zipd]
  | x :: xs, [] => by simp [zipd]
  | x :: xs, y :: ys => by simp [zipd, zipd_len xs ys]
theorem wk_zip {a b : Addr} {vs ws : List V} {ds es : List D} {F0 : Hp} (h : SqL K F0 a vs) (r : Reps K F0 F0 vs ds []) (h' : SqL K F0 b ws) (r' : Reps K F0 F0 ws es []) : Wk K (L2.Itz K a b) (zipd ds es) F0 where
  go := fun i F H e s hi => by
    rw [zipd_len] at hi
    have hi1 : i < ds.length := by omega
    have hi2 : i < es.length := by omega
    obtain ⟨v, h1, h2⟩ := r.get0 (List.getElem?_eq_getElem hi1)
    obtain ⟨w, g1, g2⟩ := r'.get0 (List.getElem?_eq_getElem hi2)
    have q : SqL K H a vs := s.seq (e.seq h)
    have q' : SqL K H b ws := s.seq (e.seq h')
    refine ⟨⟨vs, ws, v, w, q, q', h1, g1⟩, fun x H' hy => ?_⟩
    obtain ⟨p, y, z, rfl, hp, rfl, hx, hz⟩ := hy
    have e2 := Option.some.inj ((hx vs q).symm.trans h1)
    subst e2
    have e3 := Option.some.inj ((hz ws q').symm.trans g1)
    subst e3
    have n := New.frz (o := .tup [y, z]) s hp
    exact ⟨_, _, n, zipd_at ds es i (List.getElem?_eq_getElem hi1) (List.getElem?_eq_getElem hi2), .tup upd_same (.co (h2.mono (e.trans n.fs) fun a z => absurd z List.not_mem_nil) (.co (g2.mono (e.trans n.fs) fun a z => absurd z List.not_mem_nil) .nil))⟩
  stop := fun i F H e s hi => by
    rw [zipd_len] at hi
    exact ⟨vs, ws, s.seq (e.seq h), s.seq (e.seq h'), by rw [r.length, r'.length]; omega⟩
/-- the things of an iterable -/
def SndI (K : PySem.W.Frag) (W : WX) (cl : Cl) (n : Nat) (m : Env → R (List D × Env)) (wi : TI) : Prop := ∀ (σ : L2.St) (env : Env) (F H : Hp) (T : Addr → Prop) (R' : L2.It → Hp → Prop), σ.length = n → Mem K F H T σ env →
  Gd K σ T F H W cl (fun (ds, e) => ∀ J F' H', Same F F' → (∀ a, T a → H' a = H a) → Mem K F' H' T σ e → Wk K J ds F' → R' J H') (m env) → wi σ H R'
/-- a list, a tuple, a text -/
def iSeq (K : PySem.W.Frag) (te : TE) : TI := fun σ H R => te σ H fun x H1 => (∃ a xs, x = .ref a ∧ SqL K H1 a xs ∧ R (L2.Itl K a) H1) ∨ (∃ a xs, x = .ref a ∧ SqT K H1 a xs ∧ R (L2.Itt K a) H1) ∨ ∃ z, x = .str z ∧ R (L2.Its z) H1
theorem pi_seq {X : L2.Cx} {tg e : Expr} {te : TE} (he : PE X e te) : PI X tg e (iSeq X.K te) := by
  refine ⟨fun pins s σ H R I h => ?_⟩
  refine L2.thn (he.run pins s σ H _ I h) fun v s1 hv => ?_
  obtain ⟨x, H1, I1, r1, q⟩ := hv
  rcases q with ⟨a, xs, e1, hq, q⟩ | ⟨a, xs, e1, hq, q⟩ | ⟨z, e1, q⟩
  · subst e1
    cases r1
    obtain ⟨its, rv, p, hz⟩ := I1.list hq
    exact wpAny_pyIter_list p.isList (L2.pi_one (tk := s1.toks) I1 _ (L2.turn_list a _) ⟨_, Heap.get?_push_size _ rfl, rfl, rfl⟩ q)
  · subst e1
    cases r1
    obtain ⟨its, rv, p, hz⟩ := I1.tuple hq
    exact wpAny_pyIter_tuple (show s1.heap.IsTuple a its.toArray from p) (L2.pi_one (tk := s1.toks) I1 _ (L2.turn_tuple a _) ⟨_, Heap.get?_push_size _ rfl, rfl, rfl⟩ q)
  · subst e1
    obtain ⟨t, rfl⟩ := r1
    by_cases hw : z.cps.all (fun c => c < 128) = true
    · exact wpAny_pyIter_ascii hw (L2.pi_one (tk := s1.toks) I1 _ (L2.turn_str _ z t "str_ascii_iterator" (.inl rfl)) ⟨_, Heap.get?_push_size _ rfl, rfl, rfl⟩ q)
    · exact wpAny_pyIter_wide (Bool.eq_false_iff.mpr hw) (L2.pi_one (tk := s1.toks) I1 _ (L2.turn_str _ z t "str_iterator" (.inr rfl)) ⟨_, Heap.get?_push_size _ rfl, rfl, rfl⟩ q)
theorem lstF_inv {xs : List D} {L : List Addr} {v : V} (r : Rep K F H v (.lst false xs) L) : ∃ a vs, v = .ref a ∧ F a = some (.lst vs) ∧ Reps K F H vs xs [] := by
  cases r with
  | lstF h r => exact ⟨_, _, rfl, h, r⟩
theorem sndI_seq {m : Env → R (D × Rt × Env)} {ta : TE} (ha : SndE K W cl n m ta) :
    SndI K W cl n (fun env => own (m env) >>= fun (x, e1) => match walkD x.frz with | some xs => .ok (xs, e1) | none => .bad) (iSeq K ta) := by
  intro σ env F H T R' hn mm g
  refine ha σ env F H T _ hn mm (Gd.imp (Gd.own (Gd.bind g)) ?_)
  rintro ⟨x, r, e1⟩ ⟨hr, g1⟩ v F1 H1 L1 Lf1 o
  have hr : r = none := hr
  subst hr
  have e := o.all rfl
  subst e
  have hF : ∀ a ∈ L1, F1 a = none := fun a ha => (o.mem.fr a (.inr ha)).1
  have fz := frzH_same (H := H1) hF
  have sb := frzH_sub (L := L1) o.mem.sub
  have rz : Rep K (frzH F1 H1 L1) H1 v x.frz [] := o.rep.frz fz fun a ha => frzH_in ha
  have mz := Mem.frzd o.mem o.nt
  have g1 : Gd K σ T F H W cl _ (match walkD x.frz with | some xs => .ok (xs, e1) | none => .bad) := g1
  cases hw : walkD x.frz with
  | none => rw [hw] at g1; exact g1.elim
  | some xs =>
    rw [hw] at g1
    have g1 : ∀ J F' H', Same F F' → (∀ a, T a → H' a = H a) → Mem K F' H' T σ e1 → Wk K J xs F' → R' J H' := g1
    have fin : ∀ {J : L2.It}, Wk K J xs (frzH F1 H1 L1) → R' J H1 := fun {J} w => g1 J _ H1 (o.fs.trans fz) o.ks mz w
    have m0 : ∀ {vs : List V} {ds : List D}, Reps K (frzH F1 H1 L1) H1 vs ds [] → Reps K (frzH F1 H1 L1) (frzH F1 H1 L1) vs ds [] := fun {vs ds} r => r.mono (Same.refl _) fun a z => absurd z List.not_mem_nil
    cases x with
    | lst b ys =>
      simp only [D.frz, walkD] at hw rz
      split at hw
      · cases hw
        obtain ⟨a, vs, rfl, h, r⟩ := lstF_inv rz
        exact .inl ⟨a, vs, rfl, .inl (.inl (sb _ _ h)), fin (wk_list (.inl (.inl h)) (m0 r))⟩
      · cases hw
    | tup ys =>
      simp only [D.frz, walkD] at hw rz
      split at hw
      · cases hw
        obtain ⟨a, vs, rfl, h, r⟩ := tup_inv rz
        exact .inr (.inl ⟨a, vs, rfl, .inl (.inl (sb _ _ h)), fin (wk_tup (.inl (.inl h)) (m0 r))⟩)
      · cases hw
    | str cs =>
      simp only [D.frz, walkD, Option.some.injEq] at hw rz
      subst hw
      cases rz with
      | str h => exact .inr (.inr ⟨_, rfl, fin (wk_str h)⟩)
    | scr ns =>
      simp only [D.frz, walkD, Option.some.injEq] at hw rz
      subst hw
      cases rz with
      | scr h => exact .inl ⟨_, _, rfl, sb.seq h, fin (wk_list h (reps_ints ns))⟩
    | _ => simp [D.frz, walkD] at hw
theorem rngD_one {a b : Int} {xs : List D} (h : rangeD a b 1 = some xs) : (-(2 ^ 62) ≤ a ∧ a < 2 ^ 62 ∧ -(2 ^ 62) ≤ b ∧ b < 2 ^ 62) ∧ xs = (List.range (b - a).toNat).map fun (k : Nat) => D.int (a + (k : Int)) := by
  unfold rangeD at h
  split at h
  · rename_i hb
    simp only [Bool.and_eq_true, decide_eq_true_eq] at hb
    rw [if_pos rfl] at h
    exact ⟨by omega, (Option.some.inj h).symm⟩
  · cases h
theorem sndI_rg1 {m : Env → R (D × Rt × Env)} {ta : TE} (ha : SndE K W cl n m ta) : SndI K W cl n (fun env => own (m env) >>= fun (x, e1) => rng (.int 0) x (.int 1) e1) (L2.iRng1 (L2.tCons ta L2.tNil)) := by
  intro σ env F H T R' hn mm g
  refine ha σ env F H T _ hn mm (Gd.imp (Gd.own (Gd.bind g)) ?_)
  rintro ⟨x, r, e1⟩ ⟨hr, g1⟩ v F1 H1 L1 Lf1 o
  have g1 : Gd K σ T F H W cl _ (rng (.int 0) x (.int 1) e1) := g1
  cases x with
  | int j =>
    have rj := o.rep
    cases rj
    simp only [rng] at g1
    cases hz : rangeD 0 j 1 with
    | none => rw [hz] at g1; exact g1.elim
    | some xs =>
      rw [hz] at g1
      have g1 : ∀ J F' H', Same F F' → (∀ a, T a → H' a = H a) → Mem K F' H' T σ e1 → Wk K J xs F' → R' J H' := g1
      obtain ⟨hb, rfl⟩ := rngD_one hz
      refine ⟨j, rfl, hb.2.2.1, hb.2.2.2, g1 _ F1 H1 o.fs o.ks o.mem0 ?_⟩
      rw [show (j - 0).toNat = j.toNat by rw [Int.sub_zero]]
      exact wk_rng
  | _ => exact g1.elim
theorem sndI_rg2 {m m' : Env → R (D × Rt × Env)} {ta tb : TE} (ha : SndE K W cl n m ta) (hb : SndE K W cl n m' tb) :
    SndI K W cl n (fun env => own (m env) >>= fun (x, e1) => own (m' e1) >>= fun (y, e2) => rng x y (.int 1) e2) (L2.iRng2 (L2.tCons ta (L2.tCons tb L2.tNil))) := by
  intro σ env F H T R' hn mm g
  refine ha σ env F H T _ hn mm (Gd.imp (Gd.own (Gd.bind g)) ?_)
  rintro ⟨x, r, e1⟩ ⟨hr, g1⟩ v F1 H1 L1 Lf1 o
  have g1 : Gd K σ T F H W cl _ (own (m' e1) >>= fun (y, e2) => rng x y (.int 1) e2) := g1
  refine hb σ e1 F1 H1 T _ hn o.mem0 (Gd.imp (Gd.own (Gd.on (Gd.bind g1) o.fs o.ks fun a z => z)) ?_)
  rintro ⟨y, r', e2⟩ ⟨hr', g2⟩ w F2 H2 L2' Lf2 o2
  have g2 : Gd K σ T F H W cl _ (rng x y (.int 1) e2) := g2
  cases x with
  | int i =>
    cases y with
    | int j =>
      have rj := o.rep
      cases rj
      have rj := o2.rep
      cases rj
      simp only [rng] at g2
      cases hz : rangeD i j 1 with
      | none => rw [hz] at g2; exact g2.elim
      | some xs =>
        rw [hz] at g2
        have g2 : ∀ J F' H', Same F F' → (∀ a, T a → H' a = H a) → Mem K F' H' T σ e2 → Wk K J xs F' → R' J H' := g2
        obtain ⟨hb, rfl⟩ := rngD_one hz
        exact ⟨i, j, rfl, hb, g2 _ F2 H2 (o.fs.trans o2.fs) (fun a ha => (o2.ks a ha).trans (o.ks a ha)) o2.mem0 wk_rng⟩
    | _ => exact g2.elim
  | _ => cases y <;> exact g2.elim
theorem sndI_rg3 {m m' m'' : Env → R (D × Rt × Env)} {ta tb tc : TE} (ha : SndE K W cl n m ta) (hb : SndE K W cl n m' tb) (hc : SndE K W cl n m'' tc) :
    SndI K W cl n (fun env => own (m env) >>= fun (x, e1) => own (m' e1) >>= fun (y, e2) => own (m'' e2) >>= fun (z, e3) => rng3 x y z e3) (L2.iRng3 (L2.tCons ta (L2.tCons tb (L2.tCons tc L2.tNil)))) := by
  intro σ env F H T R' hn mm g
  refine ha σ env F H T _ hn mm (Gd.imp (Gd.own (Gd.bind g)) ?_)
  rintro ⟨x, r, e1⟩ ⟨hr, g1⟩ v F1 H1 L1 Lf1 o
  have g1 : Gd K σ T F H W cl _ (own (m' e1) >>= fun (y, e2) => own (m'' e2) >>= fun (z, e3) => rng3 x y z e3) := g1
  refine hb σ e1 F1 H1 T _ hn o.mem0 (Gd.imp (Gd.own (Gd.on (Gd.bind g1) o.fs o.ks fun a z => z)) ?_)
  rintro ⟨y, r', e2⟩ ⟨hr', g2⟩ w F2 H2 L2' Lf2 o2
  have g2 : Gd K σ T F H W cl _ (own (m'' e2) >>= fun (z, e3) => rng3 x y z e3) := g2
  have k2 : ∀ a, T a → H2 a = H a := fun a ha => (o2.ks a ha).trans (o.ks a ha)
  refine hc σ e2 F2 H2 T _ hn o2.mem0 (Gd.imp (Gd.own (Gd.on (Gd.bind g2) (o.fs.trans o2.fs) k2 fun a z => z)) ?_)
  rintro ⟨z, r', e3⟩ ⟨hr', g3⟩ u F3 H3 L3' Lf3 o3
  have g3 : Gd K σ T F H W cl _ (rng3 x y z e3) := g3
  match x, y, z, g3, o.rep, o2.rep, o3.rep with
  | .int i, .int j, .int (-1), g3, .int _, .int _, .int _ =>
    simp only [rng3] at g3
    split at g3
    · rename_i hb
      simp only [Bool.and_eq_true, decide_eq_true_eq] at hb
      have g3 : ∀ J F' H', Same F F' → (∀ a, T a → H' a = H a) → Mem K F' H' T σ e3 → Wk K J _ F' → R' J H' := g3
      exact ⟨i, j, -1, _, rfl, L2.RgC.neg (by omega) (by omega) (by omega) (by omega), g3 _ F3 H3 ((o.fs.trans o2.fs).trans o3.fs) (fun a ha => (o3.ks a ha).trans (k2 a ha)) o3.mem0 wk_down⟩
    · exact g3.elim
/-- behind a freeze -/
theorem frz_out {x : D} {e1 : Env} {v : V} {F1 H1 : Hp} {L1 : List Addr} (o : Out K σ T F H x none e1 v F1 H1 L1 L1) :
    ∃ F2, Same F1 F2 ∧ Same F2 H1 ∧ Rep K F2 H1 v x.frz [] ∧ Mem K F2 H1 T σ e1 := by
  have hF : ∀ a ∈ L1, F1 a = none := fun a ha => (o.mem.fr a (.inr ha)).1
  exact ⟨frzH F1 H1 L1, frzH_same hF, frzH_sub o.mem.sub, o.rep.frz (frzH_same hF) fun a ha => frzH_in ha, Mem.frzd o.mem o.nt⟩
theorem sndI_enu {m : Env → R (D × Rt × Env)} {ta : TE} (ha : SndE K W cl n m ta) :
    SndI K W cl n (fun env => own (m env) >>= fun (x, e1) => match enuD x.frz with | some xs => .ok (xs, e1) | none => .bad) (L2.iEnum K (L2.tCons ta L2.tNil)) := by
  intro σ env F H T R' hn mm g
  refine ha σ env F H T _ hn mm (Gd.imp (Gd.own (Gd.bind g)) ?_)
  rintro ⟨x, r, e1⟩ ⟨hr, g1⟩ v F1 H1 L1 Lf1 o
  have hr : r = none := hr
  subst hr
  have e := o.all rfl
  subst e
  obtain ⟨F2, f2, sb, rz, mz⟩ := frz_out o
  have g1 : Gd K σ T F H W cl _ (match enuD x.frz with | some xs => .ok (xs, e1) | none => .bad) := g1
  cases hw : enuD x.frz with
  | none => rw [hw] at g1; exact g1.elim
  | some xs =>
    rw [hw] at g1
    have g1 : ∀ J F' H', Same F F' → (∀ a, T a → H' a = H a) → Mem K F' H' T σ e1 → Wk K J xs F' → R' J H' := g1
    have fin : ∀ {J : L2.It}, Wk K J xs F2 → R' J H1 := fun {J} w => g1 J _ H1 (o.fs.trans f2) o.ks mz w
    cases x with
    | lst b ys =>
      simp only [D.frz, enuD] at hw rz
      split at hw
      · cases hw
        obtain ⟨a, vs, rfl, h, r⟩ := lstF_inv rz
        exact ⟨a, vs, rfl, .inl (.inl (sb _ _ h)), fin (wk_enum (.inl (.inl h)) (r.mono (Same.refl _) fun a z => absurd z List.not_mem_nil))⟩
      · cases hw
    | _ => simp [D.frz, enuD] at hw
theorem sndI_zip {m m' : Env → R (D × Rt × Env)} {ta tb : TE} (ha : SndE K W cl n m ta) (hb : SndE K W cl n m' tb) :
    SndI K W cl n (fun env => own (m env) >>= fun (x, e1) => own (m' e1) >>= fun (y, e2) => match zipD2 x.frz y.frz with | some xs => .ok (xs, e2) | none => .bad) (L2.iZip K (L2.tCons ta (L2.tCons tb L2.tNil))) := by
  intro σ env F H T R' hn mm g
  refine ha σ env F H T _ hn mm (Gd.imp (Gd.own (Gd.bind g)) ?_)
  rintro ⟨x, r, e1⟩ ⟨hr, g1⟩ v F1 H1 L1 Lf1 o
  have hr : r = none := hr
  subst hr
  have e := o.all rfl
  subst e
  obtain ⟨F2, f2, sb, rz, mz⟩ := frz_out o
  have g1 : Gd K σ T F H W cl _ (own (m' e1) >>= fun (y, e2) => match zipD2 x.frz y.frz with | some xs => .ok (xs, e2) | none => .bad) := g1
  refine hb σ e1 F2 H1 T _ hn mz (Gd.imp (Gd.own (Gd.on (Gd.bind g1) (o.fs.trans f2) o.ks fun a z => z)) ?_)
  rintro ⟨y, r', e2⟩ ⟨hr', g2⟩ w F3 H3 L3 Lf3 o3
  have hr' : r' = none := hr'
  subst hr'
  have e := o3.all rfl
  subst e
  obtain ⟨F4, f4, sb4, rz4, mz4⟩ := frz_out o3
  have g2 : Gd K σ T F H W cl _ (match zipD2 x.frz y.frz with | some xs => .ok (xs, e2) | none => .bad) := g2
  cases hw : zipD2 x.frz y.frz with
  | none => rw [hw] at g2; exact g2.elim
  | some xs =>
    rw [hw] at g2
    have g2 : ∀ J F' H', Same F F' → (∀ a, T a → H' a = H a) → Mem K F' H' T σ e2 → Wk K J xs F' → R' J H' := g2
    have fin : ∀ {J : L2.It}, Wk K J xs F4 → R' J H3 := fun {J} w => g2 J _ H3 (((o.fs.trans f2).trans o3.fs).trans f4) (fun a ha => (o3.ks a ha).trans (o.ks a ha)) mz4 w
    cases x with
    | lst b ys =>
      cases y with
      | lst b' zs =>
        simp only [D.frz, zipD2] at hw rz rz4
        split at hw
        · cases hw
          obtain ⟨a, vs, rfl, h, r⟩ := lstF_inv rz
          obtain ⟨a', vs', rfl, h', r'⟩ := lstF_inv rz4
          have h2 := f4 _ _ (o3.fs _ _ h)
          exact ⟨a, a', vs, vs', rfl, .inl (.inl (sb4 _ _ h2)), .inl (.inl (sb4 _ _ h')), fin (wk_zip (.inl (.inl h2)) (r.mono (o3.fs.trans f4) fun a z => absurd z List.not_mem_nil) (.inl (.inl h')) (r'.mono (Same.refl _) fun a z => absurd z List.not_mem_nil))⟩
        · cases hw
      | _ => simp [D.frz, zipD2] at hw
    | _ => cases y <;> simp [D.frz, zipD2] at hw
end
end VI

set_option maxRecDepth 100000
set_option maxHeartbeats 2000000
/-! VI.Sound9: targets, comprehensions. -/
namespace VI
open PySem PySem.Spec PyProof.Rows
open L2 (V Hp HO SqL SqT Same upd upd_same upd_ne RelV Vals VK WX OpR R2 CallR TE TT TA TS TG TGs TI It PE PT PA PI tOp tUn Ends)

def tgsR : List Nat → TGs
  | [] => L2.gNil
  | i :: is => L2.gCons (L2.gName i) (tgsR is)
def tgR (K : PySem.W.Frag) : Tg → TG
  | .one i => L2.gName i
  | .many is => L2.gTup K is.length (tgsR is)
theorem wipe_get : ∀ (vs : List Nat) (σ : L2.St) (i : Nat), (L2.wipe σ vs)[i]? = if i ∈ vs then (σ[i]?).map fun _ => none else σ[i]?
  | [], σ, i => by simp [L2.wipe]
  | v :: vs, σ, i => by
    unfold L2.wipe
    rw [List.getElem?_set, wipe_get vs σ i, L2.wipe_length]
    by_cases h : v = i
    · subst h
      by_cases hl : v < σ.length
      · simp [hl, List.getElem?_eq_getElem hl]
      · simp [hl, List.getElem?_eq_none (Nat.le_of_not_lt hl)]
    · have h' : ¬ i = v := fun e => h e.symm
      simp [h, h']
theorem wipe_ext {σ σ' : L2.St} {vs : List Nat} (hl : σ'.length = σ.length) (h : ∀ j, j ∉ vs → σ'[j]? = σ[j]?) : L2.wipe σ' vs = L2.wipe σ vs := by
  apply List.ext_getElem?
  intro i
  rw [wipe_get, wipe_get]
  by_cases hi : i ∈ vs
  · simp only [hi, if_true]
    by_cases l : i < σ.length
    · rw [List.getElem?_eq_getElem l, List.getElem?_eq_getElem (by omega)]
      rfl
    · rw [List.getElem?_eq_none (by omega), List.getElem?_eq_none (by omega)]
  · simp only [hi, if_false]
    exact h i hi
section
variable {K : PySem.W.Frag} {W : WX} {cl : Cl} {n : Nat} {F F' H H' : Hp} {T : Addr → Prop} {σ : L2.St} {env : Env}
theorem Mem.slots {σ' : L2.St} (m : Mem K F H T σ env) (hl : σ'.length = σ.length) (h : ∀ i, env.getD i none ≠ none → σ'[i]? = σ[i]?) : Mem K F H T σ' env := by
  obtain ⟨Lf, s⟩ := m.sl
  refine ⟨m.sub, m.fr, by rw [m.len, hl], Lf, ⟨fun i d hd => ?_, s.non, s.nd, s.dj, s.ok⟩⟩
  obtain ⟨v, h1, h2⟩ := s.has i d hd
  exact ⟨v, by rw [h i (by rw [hd]; simp)]; exact h1, h2⟩
theorem many_sem : ∀ (is : List Nat) {vs : List V} {ds : List D} {e e1 : Env} {σ : L2.St} {Q : L2.St → Hp → Prop}, setMany is ds e = some e1 → Reps K F H vs ds [] → Mem K F H T σ e → (∀ i ∈ is, i < σ.length) →
    (∀ σ', Mem K F H T σ' e1 → σ'.length = σ.length → (∀ j, j ∉ is → σ'[j]? = σ[j]?) → Q σ' H) → tgsR is vs σ H Q
  | [], [], [], e, e1, σ, Q, h, r, m, hs, q => by
    simp only [setMany, Option.some.injEq] at h
    subst h
    exact ⟨rfl, q σ m rfl fun j _ => rfl⟩
  | [], _ :: _, [], e, e1, σ, Q, h, r, m, hs, q => by have := r.length; simp at this
  | [], vs, _ :: _, e, e1, σ, Q, h, r, m, hs, q => by simp [setMany] at h
  | i :: is, vs, [], e, e1, σ, Q, h, r, m, hs, q => by simp [setMany] at h
  | i :: is, [], _ :: _, e, e1, σ, Q, h, r, m, hs, q => by have := r.length; simp at this
  | i :: is, v :: vs, d :: ds, e, e1, σ, Q, h, r, m, hs, q => by
    simp only [setMany] at h
    obtain ⟨r1, r2⟩ := r.un
    have m1 : Mem K F H T (σ.set i (some v)) (e.set i (some d)) := Mem.put (L := []) (by rw [Tp_nil]; exact m) r1 List.nodup_nil (fun a z => absurd z List.not_mem_nil) (hs i List.mem_cons_self)
    refine ⟨v, vs, rfl, many_sem is h r2 m1 (fun j hj => by rw [List.length_set]; exact hs j (List.mem_cons_of_mem _ hj)) fun σ' m' hl hk => q σ' m' (by rw [hl, List.length_set]) fun j hj => ?_⟩
    rw [hk j fun z => hj (List.mem_cons_of_mem _ z), List.getElem?_set_ne]
    exact fun e => hj (e ▸ List.mem_cons_self)
theorem tg_sem (tg : Tg) {v : V} {d : D} {e e1 : Env} {Q : L2.St → Hp → Prop} (h : setTg tg d e = some e1) (r : Rep K F H v d []) (m : Mem K F H T σ e) (hs : ∀ i ∈ tg.slots, i < σ.length)
    (q : ∀ σ', Mem K F H T σ' e1 → σ'.length = σ.length → (∀ j, j ∉ tg.slots → σ'[j]? = σ[j]?) → Q σ' H) : tgR K tg v σ H Q := by
  cases tg with
  | one i =>
    simp only [setTg, Option.some.injEq] at h
    subst h
    have hi := hs i List.mem_cons_self
    refine q _ (Mem.put (L := []) (by rw [Tp_nil]; exact m) r List.nodup_nil (fun a z => absurd z List.not_mem_nil) hi) (by rw [List.length_set]) fun j hj => ?_
    rw [List.getElem?_set_ne]
    exact fun e => hj (e ▸ List.mem_cons_self)
  | many is =>
    cases d with
    | tup xs =>
      simp only [setTg] at h
      obtain ⟨a, vs, rfl, h1, h2⟩ := tup_inv r
      refine ⟨a, vs, rfl, .inl (.inl (m.sub _ _ h1)), ?_, many_sem is h h2 m hs q⟩
      have l1 := h2.length
      have : ∀ (is : List Nat) (ds : List D) (e e1 : Env), setMany is ds e = some e1 → is.length = ds.length := by
        intro is
        induction is with
        | nil => intro ds e e1 h; cases ds <;> simp [setMany] at h ⊢
        | cons i is ih =>
          intro ds e e1 h
          cases ds with
          | nil => simp [setMany] at h
          | cons d ds =>
            simp only [setMany] at h
            rw [List.length_cons, List.length_cons, ih _ _ _ h]
      rw [l1, this _ _ _ _ h]
    | _ => simp [setTg] at h

/-! slots cleared and given back -/
theorem set_comm' (e : Env) (i j : Nat) : (e.set i none).set j none = (e.set j none).set i none := by
  by_cases h : i = j
  · subst h; rfl
  · exact List.set_comm _ _ h
theorem clr_set : ∀ (is : List Nat) (e : Env) (i : Nat), clr is (e.set i none) = (clr is e).set i none
  | [], e, i => rfl
  | j :: is, e, i => by
    show (clr is (e.set i none)).set j none = ((clr is e).set j none).set i none
    rw [clr_set is e i, set_comm']
theorem bck_set : ∀ (is : List Nat) (e0 e : Env) (i : Nat) (x : Option D), (bck is (e0.set i none) e).set i x = (bck is e0 e).set i x
  | [], e0, e, i, x => rfl
  | j :: is, e0, e, i, x => by
    show ((bck is (e0.set i none) e).set j ((e0.set i none).getD j none)).set i x = ((bck is e0 e).set j (e0.getD j none)).set i x
    by_cases h : i = j
    · subst h
      rw [List.set_set, List.set_set]
      exact bck_set is e0 e i x
    · rw [getD_clr_ne h, List.set_comm _ _ (Ne.symm h), bck_set is e0 e i x, List.set_comm _ _ h]
theorem clr_none : ∀ (is : List Nat) (e : Env) (i : Nat), i ∈ is → (clr is e).getD i none = none
  | j :: is, e, i, h => by
    show ((clr is e).set j none).getD i none = none
    by_cases q : j = i
    · subst q; exact getD_clr _ _
    · rw [getD_clr_ne q]
      rcases List.mem_cons.mp h with z | z
      · exact absurd z.symm q
      · exact clr_none is e i z
theorem clr_back : ∀ (is : List Nat) {T : Addr → Prop} {e : Env}, Mem K F H T σ e → ∃ Lh, Mem K F H (Tp T Lh) σ (clr is e) ∧ (∀ a ∈ Lh, ¬ T a) ∧
    ∀ {F2 H2 : Hp} {e2 : Env} {T2 : Addr → Prop}, Same F F2 → (∀ a ∈ Lh, H2 a = H a) → (∀ a ∈ Lh, ¬ T2 a) → Mem K F2 H2 (Tp T2 Lh) σ e2 → Mem K F2 H2 T2 σ (bck is e e2)
  | [], T, e, m => ⟨[], by rw [Tp_nil]; exact m, fun a z => absurd z List.not_mem_nil, fun _ _ _ m2 => by rw [Tp_nil] at m2; exact m2⟩
  | i :: is, T, e, m => by
    cases hd : e.getD i none with
    | none =>
      obtain ⟨Lh, m1, nt, back⟩ := clr_back is (m.clear i)
      rw [clr_set] at m1
      refine ⟨Lh, m1, nt, fun {F2 H2 e2 T2} h1 h2 h3 m2 => ?_⟩
      have m3 := back h1 h2 h3 m2
      show Mem K F2 H2 T2 σ ((bck is e e2).set i (e.getD i none))
      rw [← bck_set, hd]
      exact m3.clear i
    | some d =>
      obtain ⟨v, L, g1, g2, g3, g4, g5⟩ := m.hide hd
      obtain ⟨Lh, m1, nt, back⟩ := clr_back is g5
      rw [clr_set] at m1
      refine ⟨L ++ Lh, by rw [← Tp_Tp]; exact m1, fun a ha => ?_, fun {F2 H2 e2 T2} h1 h2 h3 m2 => ?_⟩
      · rcases List.mem_append.mp ha with z | z
        · exact g4 a z
        · exact fun w => nt a z (.inl w)
      · have m3 : Mem K F2 H2 (Tp T2 L) σ (bck is (e.set i none) e2) := back h1 (fun a ha => h2 a (List.mem_append_right _ ha)) (fun a ha z => by
            rcases z with z | z
            · exact h3 a (List.mem_append_right _ ha) z
            · exact nt a ha (.inr z)) (by rw [Tp_Tp]; exact m2)
        show Mem K F2 H2 T2 σ ((bck is e e2).set i (e.getD i none))
        rw [← bck_set, hd]
        exact m3.put' (g2.mono h1 fun a ha => h2 a (List.mem_append_left _ ha)) g3 (fun a ha => h3 a (List.mem_append_left _ ha)) g1
theorem setMany_none : ∀ (is : List Nat) (ds : List D) {e e1 : Env} {j : Nat}, setMany is ds e = some e1 → j ∉ is → e1.getD j none = e.getD j none
  | [], [], e, e1, j, h, _ => by simp only [setMany, Option.some.injEq] at h; rw [h]
  | [], _ :: _, e, e1, j, h, _ => by simp [setMany] at h
  | _ :: _, [], e, e1, j, h, _ => by simp [setMany] at h
  | i :: is, d :: ds, e, e1, j, h, hj => by
    simp only [setMany] at h
    rw [setMany_none is ds h fun z => hj (List.mem_cons_of_mem _ z), getD_clr_ne]
    exact fun e => hj (e ▸ List.mem_cons_self)
/-- a comprehension -/
theorem snd_comp {W0 : WX} {mi : Env → R (List D × Env)} {wi : TI} {tst : Env → R (Bool × Env)} {tt : TT} {me : Env → R (D × Rt × Env)} {te : TE} {tg : Tg} (hI : SndI K W cl n mi wi) (ht : SndT K W0 cl n tst tt) (he : SndE K W0 cl n me te)
    (hs : ∀ i ∈ tg.slots, i < n) :
    SndE K W cl n (fun env => mi env >>= fun (xs, e1) => cloop tst (fun e2 => own (me e2)) tg xs (clr tg.slots e1) [] >>= fun (ds, e2) => .ok (.lst true ds, none, bck tg.slots e1 e2)) (L2.tLc wi (tgR K tg) tt te tg.slots) := by
  intro σ env F H T Q hn mm g
  refine hI σ env F H T _ hn mm (Gd.imp (Gd.bind g) ?_)
  rintro ⟨xs, e1⟩ g1 J F1 H1 f1 k1 m1 wk D0 hD
  have g1 : Gd K σ T F H W cl _ (cloop tst (fun e2 => own (me e2)) tg xs (clr tg.slots e1) [] >>= fun (ds, e2) => .ok (D.lst true ds, none, bck tg.slots e1 e2)) := g1
  -- how it ends
  have fin : ∃ ds e2, cloop tst (fun e2 => own (me e2)) tg xs (clr tg.slots e1) [] = .ok (ds, e2) ∧ ∀ v F' H' L Lf, Out K σ T F H (.lst true ds) none (bck tg.slots e1 e2) v F' H' L Lf → Q v H' := by
    cases hc : cloop tst (fun e2 => own (me e2)) tg xs (clr tg.slots e1) [] with
    | bad => rw [hc] at g1; exact g1.elim
    | exc c e =>
      exfalso
      have noexc : ∀ (xs : List D) (e0 : Env) (acc : List D) (c : String) (e : Env), cloop tst (fun e2 => own (me e2)) tg xs e0 acc ≠ .exc c e := by
        intro xs
        induction xs with
        | nil => intro e0 acc c e h; simp [cloop] at h
        | cons x xs ih =>
          intro e0 acc c e h
          simp only [cloop] at h
          split at h
          · cases h
          · split at h
            · split at h
              · split at h
                · exact ih _ _ _ _ h
                · cases h
              · cases h
            · exact ih _ _ _ _ h
            · cases h
      exact noexc _ _ _ _ _ hc
    | ok p => exact ⟨p.1, p.2, rfl, by rw [hc] at g1; exact g1⟩
  obtain ⟨ds, eE, hc, q⟩ := fin
  obtain ⟨Lh, mh, nth, back⟩ := clr_back tg.slots m1
  have fD := mh.fresh hD
  let I := fun (i m : Nat) (H' : Hp) => ∃ F' e acc accD La, m = xs.length - i ∧ i ≤ xs.length ∧ Same F1 F' ∧ (∀ a, Tp T Lh a → H' a = H1 a) ∧ H' D0 = some (.lst acc) ∧ Reps K F' H' acc accD La ∧ (D0 :: La).Nodup ∧ (∀ a ∈ D0 :: La, ¬ Tp T Lh a) ∧
    Mem K F' H' (Tp (Tp T Lh) (D0 :: La)) (L2.wipe σ tg.slots) e ∧ (∀ j ∈ tg.slots, e.getD j none = none) ∧ cloop tst (fun e2 => own (me e2)) tg (xs.drop i) e accD = .ok (ds, eE)
  refine ⟨I, ⟨xs.length, ?_⟩, fun i m H2 hI => ?_⟩
  · have nw := New.own1 (o := .lst []) mh.sub hD
    refine ⟨F1, clr tg.slots e1, [], [], [], by simp, Nat.zero_le _, Same.refl _, fun a ha => upd_ne fun e => ?_, upd_same, .nil, by simp, fun a ha => ?_, ?_, fun j hj => clr_none _ _ _ hj, by simpa using hc⟩
    · rw [e] at ha
      exact fD.2 ha
    · have e : a = D0 := by simpa using ha
      rw [e]
      exact fD.2
    · refine (mh.new nw).slots (L2.wipe_length _ _) fun j hj => ?_
      rw [wipe_get, if_neg]
      exact fun z => hj (clr_none _ _ _ z)
  · obtain ⟨F2, e, acc, accD, La, rfl, hi, s2, k2, hD2, r2, nd2, nt2, m2, en, hc2⟩ := hI
    by_cases hlt : i < xs.length
    · obtain ⟨hgo, hy⟩ := wk.go i F2 H2 s2 m2.sub hlt
      refine .inr ⟨hgo, I (i + 1) (xs.length - (i + 1)), fun H' h => ⟨_, by omega, h⟩, fun x H3 hx => ?_⟩
      obtain ⟨F3, d, n3, hd, rd⟩ := hy x H3 hx
      have m3 : Mem K F3 H3 (Tp (Tp T Lh) (D0 :: La)) (L2.wipe σ tg.slots) e := by
        have := m2.new n3
        rwa [Tp_nil] at this
      have kk : ∀ a, Tp (Tp T Lh) (D0 :: La) a → H3 a = H2 a := fun a ha => by
        cases z : H2 a with
        | none => exact absurd z (m2.fr a ha).2
        | some o => exact n3.hs a o z
      have hxs : xs.drop i = d :: xs.drop (i + 1) := by
        rw [List.drop_eq_getElem_cons hlt]
        congr 1
        exact Option.some.inj ((List.getElem?_eq_getElem hlt).symm.trans hd)
      rw [hxs] at hc2
      simp only [cloop] at hc2
      cases hset : setTg tg d e with
      | none => rw [hset] at hc2; cases hc2
      | some e3 =>
        rw [hset] at hc2
        dsimp only at hc2
        refine tg_sem tg hset rd m3 (fun j hj => by rw [L2.wipe_length, hn]; exact hs j hj) fun σ3 m4 hl3 hk3 => ?_
        have hw3 : L2.wipe σ3 tg.slots = L2.wipe σ tg.slots := by
          have a1 := wipe_ext (vs := tg.slots) hl3 hk3
          rw [a1]
          refine wipe_ext (L2.wipe_length _ _) fun j hj => ?_
          rw [wipe_get, if_neg hj]
        refine ⟨hw3, ?_⟩
        have hn3 : σ3.length = n := by rw [hl3, L2.wipe_length, hn]
        refine ht σ3 e3 F3 H3 (Tp (Tp T Lh) (D0 :: La)) _ hn3 m4 ?_
        cases htst : tst e3 with
        | bad => rw [htst] at hc2; cases hc2
        | exc c e => rw [htst] at hc2; cases hc2
        | ok p =>
          obtain ⟨b, e4⟩ := p
          rw [htst] at hc2
          intro F4 H4 f4 k4 m5
          have kD : H4 D0 = some (.lst acc) := by
            rw [k4 D0 (.inr List.mem_cons_self), kk D0 (.inr List.mem_cons_self)]
            exact hD2
          have kT : ∀ a, Tp T Lh a → H4 a = H1 a := fun a ha => by rw [k4 a (.inl ha), kk a (.inl ha), k2 a ha]
          have kL : ∀ a ∈ La, H4 a = H2 a := fun a ha => by rw [k4 a (.inr (List.mem_cons_of_mem _ ha)), kk a (.inr (List.mem_cons_of_mem _ ha))]
          -- the turn's end
          have turn : ∀ {F5 H5 : Hp} {e5 : Env} {acc5 : List V} {accD5 : List D} {La5 : List Addr}, Same F4 F5 → (∀ a, Tp T Lh a → H5 a = H4 a) → H5 D0 = some (.lst acc5) → Reps K F5 H5 acc5 accD5 La5 → (D0 :: La5).Nodup → (∀ a ∈ D0 :: La5, ¬ Tp T Lh a) →
              Mem K F5 H5 (Tp (Tp T Lh) (D0 :: La5)) σ3 e5 → cloop tst (fun e2 => own (me e2)) tg (xs.drop (i + 1)) (clr tg.slots e5) accD5 = .ok (ds, eE) → I (i + 1) (xs.length - (i + 1)) H5 := fun {F5 H5 e5 acc5 accD5 La5} f5 k5 h5 r5 nd5 nt5 m6 hc5 => by
            refine ⟨F5, clr tg.slots e5, acc5, accD5, La5, rfl, hlt, s2.trans (n3.fs.trans (f4.trans f5)), fun a ha => (k5 a ha).trans (kT a ha), h5, r5, nd5, nt5, ?_, fun j hj => clr_none _ _ _ hj, hc5⟩
            have c : ∀ (is : List Nat), Mem K F5 H5 (Tp (Tp T Lh) (D0 :: La5)) σ3 (clr is e5) := by
              intro is
              induction is with
              | nil => exact m6
              | cons j is ih => exact ih.clear j
            refine (c tg.slots).slots ?_ fun j hj => ?_
            · rw [L2.wipe_length, hn3, hn]
            · have hj' : j ∉ tg.slots := fun z => hj (clr_none _ _ _ z)
              rw [wipe_get, if_neg hj', hk3 j hj', wipe_get, if_neg hj']
          cases b with
          | true =>
            dsimp only at hc2
            show te σ3 H4 _
            refine he σ3 e4 F4 H4 (Tp (Tp T Lh) (D0 :: La)) _ hn3 m5 ?_
            cases hme : me e4 with
            | bad => rw [hme] at hc2; cases hc2
            | exc c e => rw [hme] at hc2; cases hc2
            | ok p =>
              obtain ⟨y, r, e5⟩ := p
              rw [hme] at hc2
              cases r with
              | some z => cases hc2
              | none =>
                simp only [own_ok] at hc2
                intro vy F5 H5 L5 Lf5 o5
                have e := o5.all rfl
                subst e
                split at hc2
                · rename_i hz
                  have r2' : Reps K F5 H5 acc accD La := (r2.mono (n3.fs.trans f4) kL).mono o5.fs fun a ha => o5.ks a (.inr (List.mem_cons_of_mem _ ha))
                  refine ⟨acc, by rw [o5.ks D0 (.inr List.mem_cons_self)]; exact kD, by rw [r2.length, ← line_eq]; exact hz, ?_⟩
                  have nD5 : D0 ∉ L5 := fun z => o5.nt D0 z (.inr List.mem_cons_self)
                  have nD2 : D0 ∉ La := (List.nodup_cons.mp nd2).1
                  have m6 : Mem K F5 (upd H5 D0 (.lst (acc ++ [vy]))) (Tp (Tp (Tp T Lh) (D0 :: La)) L5) σ3 e5 := Mem.mut o5.mem (.inl (.inr List.mem_cons_self))
                  refine turn (accD5 := accD ++ [y]) (La5 := La ++ L5) o5.fs (fun a ha => ?_) upd_same ?_ ?_ ?_ ?_ hc2
                  · rw [upd_ne fun (e : a = D0) => nt2 D0 List.mem_cons_self (by rw [← e]; exact ha)]
                    exact o5.ks a (.inl ha)
                  · exact (r2'.mono (Same.refl _) fun a ha => upd_ne fun (e : a = D0) => nD2 (by rw [← e]; exact ha)).append (.one (o5.rep.mono (Same.refl _) fun a ha => upd_ne fun (e : a = D0) => nD5 (by rw [← e]; exact ha)))
                  · rw [List.nodup_cons]
                    refine ⟨fun z => (List.mem_append.mp z).elim nD2 nD5, ?_⟩
                    rw [List.nodup_append]
                    exact ⟨(List.nodup_cons.mp nd2).2, o5.nd, fun a ha b hb e => o5.nt b hb (.inr (List.mem_cons_of_mem _ (e ▸ ha)))⟩
                  · intro a ha
                    rcases List.mem_cons.mp ha with z | z
                    · exact nt2 a (z ▸ List.mem_cons_self)
                    · rcases List.mem_append.mp z with z | z
                      · exact nt2 a (List.mem_cons_of_mem _ z)
                      · exact fun w => o5.nt a z (.inl w)
                  · rw [Tp_Tp] at m6
                    exact m6
                · cases hc2
          | false =>
            dsimp only at hc2
            show I (i + 1) (xs.length - (i + 1)) H4
            exact turn (Same.refl _) (fun a ha => rfl) kD ((r2.mono (n3.fs.trans f4) kL)) nd2 nt2 m5 hc2
    · have ei : i = xs.length := by omega
      subst ei
      refine .inl ⟨wk.stop xs.length F2 H2 s2 m2.sub (Nat.le_refl _), ?_⟩
      rw [List.drop_length] at hc2
      simp only [cloop, R.ok.injEq, Prod.mk.injEq] at hc2
      obtain ⟨rfl, rfl⟩ := hc2
      refine q (.ref D0) F2 H2 (D0 :: La) (D0 :: La) ⟨f1.trans s2, fun a ha => (k2 a (.inl ha)).trans (k1 a ha), .lstO hD2 r2, nd2, fun a z => z, fun a ha z => nt2 a ha (.inl z), ?_, fun _ => rfl, trivial⟩
      have m3 : Mem K F2 H2 (Tp (Tp T (D0 :: La)) Lh) σ e := by
        refine Mem.slots (σ := L2.wipe σ tg.slots) (m2.weak fun a ha => ?_) (by rw [L2.wipe_length]) fun j hj => ?_
        · rcases ha with (ha | ha) | ha
          · exact .inl (.inl ha)
          · exact .inr ha
          · exact .inl (.inr ha)
        · rw [wipe_get, if_neg fun z => hj (en j z)]
      exact back s2 (fun a ha => k2 a (.inr ha)) (fun a ha z => by
        rcases z with z | z
        · exact nth a ha z
        · exact nt2 a z (.inr ha)) m3
end
end VI

set_option maxRecDepth 100000
set_option maxHeartbeats 2000000
/-! VI.Sound10: places within a slot's thing; changes there. -/
namespace VI
open PySem PySem.Spec PyProof.Rows
open L2 (V Hp HO SqL SqT Same upd upd_same upd_ne RelV Vals VK WX OpR R2 CallR TE TT TA TS TG TGs TI It PE PT PA PI tOp tUn Ends)

/-- a step down among values -/
def vstep (H : Hp) : V → D → Option V
  | .ref a, .int i => match H a with
    | some (.lst vs) => L2.atI vs i
    | some (.tup vs) => L2.atI vs i
    | _ => none
  | _, _ => none
def vsteps (H : Hp) : V → List D → Option V
  | v, [] => some v
  | v, x :: r => (vstep H v x).bind fun v' => vsteps H v' r
theorem vsteps_snoc (H : Hp) : ∀ (st : List D) (v : V) (x : D), vsteps H v (st ++ [x]) = (vsteps H v st).bind fun v' => vstep H v' x
  | [], v, x => by
    show (vstep H v x).bind (fun v' => vsteps H v' []) = vstep H v x
    cases vstep H v x <;> rfl
  | y :: st, v, x => by
    show (vstep H v y).bind (fun v' => vsteps H v' (st ++ [x])) = ((vstep H v y).bind fun v' => vsteps H v' st).bind _
    cases vstep H v y with
    | none => rfl
    | some w => exact vsteps_snoc H st w x
theorem stepsD_snoc : ∀ (st : List D) (d : D) (x : D), stepsD d (st ++ [x]) = (stepsD d st).bind fun d' => stepD d' x
  | [], d, x => by
    show (stepD d x).bind (fun v' => stepsD v' []) = stepD d x
    cases stepD d x <;> rfl
  | y :: st, d, x => by
    show (stepD d y).bind (fun v' => stepsD v' (st ++ [x])) = ((stepD d y).bind fun v' => stepsD v' st).bind _
    cases stepD d y with
    | none => rfl
    | some w => exact stepsD_snoc st w x
section
variable {K : PySem.W.Frag} {W : WX} {cl : Cl} {n : Nat} {F F' H H' : Hp} {T : Addr → Prop} {σ : L2.St} {env : Env}
/-- one step, in both readings -/
theorem step_sem {v : V} {d d1 x : D} {L : List Addr} (s : Same F H) (r : Rep K F H v d L) (h : stepD d x = some d1) :
    ∃ v1 L1, vstep H v x = some v1 ∧ Rep K F H v1 d1 L1 ∧ (∀ a ∈ L1, a ∈ L) ∧ (L.Nodup → L1.Nodup) ∧
      (∀ F2 H2, Same F F2 → Same F2 H2 → (∀ a ∈ L, H2 a = H a) → vstep H2 v x = some v1) ∧
      ∀ F2 H2 d1' L1', Same F F2 → (∀ a ∈ L, a ∉ L1 → H2 a = H a) → Rep K F2 H2 v1 d1' L1' → L.Nodup → L1'.Nodup → (∀ a ∈ L1', a ∈ L → a ∈ L1) →
        ∃ L', (∀ f y, f d1 = some (y, d1') → ∃ d', modAt [x] d f = some (y, d') ∧ Rep K F2 H2 v d' L') ∧ L'.Nodup ∧ ∀ a ∈ L', (a ∈ L ∧ a ∉ L1) ∨ a ∈ L1' := by
  have item : ∀ {vs : List V} {xs : List D} {M : List Addr} {i : Int}, Reps K F H vs xs M → atI xs i = some d1 → ∃ j v1 A B C, ixN xs.length i = some j ∧ xs[j]? = some d1 ∧ vs[j]? = some v1 ∧ M = A ++ B ++ C ∧ Rep K F H v1 d1 B ∧ L2.atI vs i = some v1 ∧
      ∀ F2 H2 v' d' L2', Same F F2 → (∀ a ∈ A ++ C, H2 a = H a) → Rep K F2 H2 v' d' L2' → Reps K F2 H2 (vs.set j v') (xs.set j d') (A ++ L2' ++ C) := fun {vs xs M i} r e => by
    unfold atI at e
    cases hj : ixN xs.length i with
    | none => rw [hj] at e; cases e
    | some j =>
      rw [hj] at e
      obtain ⟨v1, A, B, C, h1, h2, h3, h4, _⟩ := r.at (j := j) e
      refine ⟨j, v1, A, B, C, rfl, e, h1, h2, h3, ?_, h4⟩
      rw [atI_eq]
      unfold atI
      rw [r.length, hj]
      exact h1
  have vset : ∀ {vs : List V} {j : Nat} {v1 : V}, vs[j]? = some v1 → vs.set j v1 = vs := fun {vs j v1} h => by
    apply List.ext_getElem?
    intro k
    rw [List.getElem?_set]
    by_cases q : j = k
    · subst q
      obtain ⟨l, e⟩ := List.getElem?_eq_some_iff.mp h
      simp [l, e]
    · simp [q]
  cases r with
  | @lstO a vs xs M h1 r1 =>
    cases x with
    | int i =>
      obtain ⟨j, v1, A, B, C, q1, q2, q3, q4, q5, q6, q7⟩ := item r1 (by simpa [stepD] using h)
      refine ⟨v1, B, by simp only [vstep, h1]; exact q6, q5, fun b hb => List.mem_cons_of_mem _ (by rw [q4]; simp [hb]), fun nd => ?_, fun F2 H2 s2 s3 k => by simp only [vstep, k a List.mem_cons_self, h1]; exact q6, fun F2 H2 d1' L1' s2 k r' nd nd' dj => ?_⟩
      · have := (List.nodup_cons.mp nd).2
        rw [q4, List.nodup_append, List.nodup_append] at this
        exact this.1.2.1
      · obtain ⟨na, nd2⟩ := List.nodup_cons.mp nd
        rw [q4] at na nd2
        have nd3 := nd2
        rw [List.nodup_append, List.nodup_append] at nd3
        obtain ⟨⟨nA, nB, dAB⟩, nC, dABC⟩ := nd3
        have inM : ∀ b ∈ A ++ C, b ∈ (a :: M) ∧ b ∉ B := fun b hb => by
          refine ⟨List.mem_cons_of_mem _ (by rw [q4]; rcases List.mem_append.mp hb with z | z <;> simp [z]), fun z => ?_⟩
          rcases List.mem_append.mp hb with w | w
          · exact dAB b w b z rfl
          · exact dABC b (List.mem_append_right _ z) b w rfl
        have ka : H2 a = H a := k a List.mem_cons_self fun z => na (by simp [z])
        have rr := q7 F2 H2 v1 d1' L1' s2 (fun b hb => k b (inM b hb).1 (inM b hb).2) r'
        rw [vset q3] at rr
        have notL1' : ∀ b ∈ a :: (A ++ C), b ∉ L1' := fun b hb z => by
          rcases List.mem_cons.mp hb with w | w
          · subst w
            exact na (by have := dj b z List.mem_cons_self; simp [this])
          · exact (inM b w).2 (dj b z (inM b w).1)
        refine ⟨a :: (A ++ L1' ++ C), fun f y hf => ⟨.lst true (xs.set j d1'), ?_, .lstO (ka.trans h1) rr⟩, ?_, fun b hb => ?_⟩
        · simp only [modAt, q1, Option.bind_some, q2, hf, Option.map_some]
        · rw [List.nodup_cons]
          refine ⟨fun z => ?_, ?_⟩
          · rcases List.mem_append.mp z with z | z
            · rcases List.mem_append.mp z with z | z
              · exact na (by simp [z])
              · exact notL1' a List.mem_cons_self z
            · exact na (by simp [z])
          · rw [List.nodup_append, List.nodup_append]
            refine ⟨⟨nA, nd', fun b hb c hc e => notL1' b (by simp [hb]) (e ▸ hc)⟩, nC, fun b hb c hc e => ?_⟩
            rcases List.mem_append.mp hb with z | z
            · exact dABC b (List.mem_append_left _ z) c hc e
            · exact notL1' c (by simp [hc]) (e ▸ z)
        · rcases List.mem_cons.mp hb with z | z
          · subst z
            exact .inl ⟨List.mem_cons_self, fun w => na (by simp [w])⟩
          · rcases List.mem_append.mp z with z | z
            · rcases List.mem_append.mp z with z | z
              · exact .inl (inM b (List.mem_append_left _ z))
              · exact .inr z
            · exact .inl (inM b (List.mem_append_right _ z))
    | _ => simp [stepD] at h
  | @tup a vs xs M h1 r1 =>
    cases x with
    | int i =>
      obtain ⟨j, v1, A, B, C, q1, q2, q3, q4, q5, q6, q7⟩ := item r1 (by simpa [stepD] using h)
      refine ⟨v1, B, by simp only [vstep, s _ _ h1]; exact q6, q5, fun b hb => by rw [q4]; simp [hb], fun nd => ?_, fun F2 H2 s2 s3 k => by simp only [vstep, s3 _ _ (s2 _ _ h1)]; exact q6, fun F2 H2 d1' L1' s2 k r' nd nd' dj => ?_⟩
      · rw [q4, List.nodup_append, List.nodup_append] at nd
        exact nd.1.2.1
      · have nd3 := nd
        rw [q4, List.nodup_append, List.nodup_append] at nd3
        obtain ⟨⟨nA, nB, dAB⟩, nC, dABC⟩ := nd3
        have inM : ∀ b ∈ A ++ C, b ∈ L ∧ b ∉ B := fun b hb => by
          refine ⟨by rw [q4]; rcases List.mem_append.mp hb with z | z <;> simp [z], fun z => ?_⟩
          rcases List.mem_append.mp hb with w | w
          · exact dAB b w b z rfl
          · exact dABC b (List.mem_append_right _ z) b w rfl
        have rr := q7 F2 H2 v1 d1' L1' s2 (fun b hb => k b (inM b hb).1 (inM b hb).2) r'
        rw [vset q3] at rr
        have notL1' : ∀ b ∈ A ++ C, b ∉ L1' := fun b hb z => (inM b hb).2 (dj b z (inM b hb).1)
        refine ⟨A ++ L1' ++ C, fun f y hf => ⟨.tup (xs.set j d1'), ?_, .tup (s2 _ _ h1) rr⟩, ?_, fun b hb => ?_⟩
        · simp only [modAt, q1, Option.bind_some, q2, hf, Option.map_some]
        · rw [List.nodup_append, List.nodup_append]
          refine ⟨⟨nA, nd', fun b hb c hc e => notL1' b (by simp [hb]) (e ▸ hc)⟩, nC, fun b hb c hc e => ?_⟩
          rcases List.mem_append.mp hb with z | z
          · exact dABC b (List.mem_append_left _ z) c hc e
          · exact notL1' c (by simp [hc]) (e ▸ z)
        · rcases List.mem_append.mp hb with z | z
          · rcases List.mem_append.mp z with z | z
            · exact .inl (inM b (List.mem_append_left _ z))
            · exact .inr z
          · exact .inl (inM b (List.mem_append_right _ z))
    | _ => simp [stepD] at h
  | _ => simp [stepD] at h
theorem mod_cons {x : D} {st : List D} {d : D} {f : D → Option (D × D)} : modAt (x :: st) d f = modAt [x] d fun e => modAt st e f := by
  cases d with
  | lst o xs =>
    cases o with
    | true => cases x <;> simp [modAt]
    | false => cases x <;> simp [modAt]
  | tup xs => cases x <;> simp [modAt]
  | _ => cases x <;> simp [modAt]
/-- many steps -/
theorem steps_sem : ∀ (st : List D) {v : V} {d d1 : D} {L : List Addr}, Same F H → Rep K F H v d L → stepsD d st = some d1 →
    ∃ v1 L1, vsteps H v st = some v1 ∧ Rep K F H v1 d1 L1 ∧ (∀ a ∈ L1, a ∈ L) ∧ (L.Nodup → L1.Nodup) ∧
      (∀ F2 H2, Same F F2 → Same F2 H2 → (∀ a ∈ L, H2 a = H a) → vsteps H2 v st = some v1) ∧
      ∀ F2 H2 d1' L1', Same F F2 → (∀ a ∈ L, a ∉ L1 → H2 a = H a) → Rep K F2 H2 v1 d1' L1' → L.Nodup → L1'.Nodup → (∀ a ∈ L1', a ∈ L → a ∈ L1) →
        ∃ L', (∀ f y, f d1 = some (y, d1') → ∃ d', modAt st d f = some (y, d') ∧ Rep K F2 H2 v d' L') ∧ L'.Nodup ∧ ∀ a ∈ L', (a ∈ L ∧ a ∉ L1) ∨ a ∈ L1'
  | [], v, d, d1, L, s, r, h => by
    simp only [stepsD, Option.some.injEq] at h
    subst h
    exact ⟨v, L, rfl, r, fun a z => z, fun z => z, fun _ _ _ _ _ => rfl, fun F2 H2 d1' L1' s2 k r' nd nd' dj => ⟨L1', fun f y hf => ⟨d1', hf, r'⟩, nd', fun a z => .inr z⟩⟩
  | x :: st, v, d, d2, L, s, r, h => by
    simp only [stepsD] at h
    cases hx : stepD d x with
    | none => rw [hx] at h; cases h
    | some d1 =>
      rw [hx] at h
      obtain ⟨v1, L1, a1, a2, a3, a4, a5, a6⟩ := step_sem s r hx
      obtain ⟨v2, L2', b1, b2, b3, b4, b5, b6⟩ := steps_sem st s a2 h
      refine ⟨v2, L2', by simp only [vsteps, a1]; exact b1, b2, fun a z => a3 a (b3 a z), fun z => b4 (a4 z), fun F2 H2 s2 s3 k => ?_, fun F2 H2 d1' L1' s2 k r' nd nd' dj => ?_⟩
      · simp only [vsteps, a5 F2 H2 s2 s3 k]
        exact b5 F2 H2 s2 s3 fun a ha => k a (a3 a ha)
      · obtain ⟨M, c1, c2, c3⟩ := b6 F2 H2 d1' L1' s2 (fun a ha hn => k a (a3 a ha) hn) r' (a4 nd) nd' fun a ha hl => dj a ha (a3 a hl)
        -- the middle thing, changed
        by_cases hex : ∃ (f : D → Option (D × D)) (y : D), f d2 = some (y, d1')
        · obtain ⟨f0, y0, hf0⟩ := hex
          obtain ⟨dm, e1, e2⟩ := c1 f0 y0 hf0
          have same : ∀ f y, f d2 = some (y, d1') → modAt st d1 f = some (y, dm) := fun f y hf => by
            have uniq : ∀ (st : List D) (d1 d2 : D) (f g : D → Option (D × D)) (y z : D) (e dm : D), stepsD d1 st = some d2 → f d2 = some (y, e) → g d2 = some (z, e) → modAt st d1 f = some (y, dm) → modAt st d1 g = some (z, dm) := by
              intro st
              induction st with
              | nil =>
                intro d1 d2 f g y z e dm h1 h2 h3 h4
                simp only [stepsD, Option.some.injEq] at h1
                subst h1
                simp only [modAt] at h4 ⊢
                rw [h2] at h4
                cases h4
                exact h3
              | cons x st ih =>
                intro d1 d2 f g y z e dm h1 h2 h3 h4
                simp only [stepsD] at h1
                cases hs : stepD d1 x with
                | none => rw [hs] at h1; cases h1
                | some d1' =>
                  rw [hs] at h1
                  rw [mod_cons] at h4 ⊢
                  cases d1 with
                  | lst o xs =>
                    cases o with
                    | true =>
                      cases x with
                      | int i =>
                        simp only [stepD, atI] at hs
                        simp only [modAt] at h4 ⊢
                        cases hj : ixN xs.length i with
                        | none => rw [hj] at hs; cases hs
                        | some j =>
                          rw [hj] at hs h4
                          have hs : xs[j]? = some d1' := hs
                          simp only [Option.bind_some, hs, Option.map_eq_some_iff, Prod.exists, Prod.mk.injEq] at h4 ⊢
                          obtain ⟨y', w, h5, rfl, rfl⟩ := h4
                          exact ⟨z, w, ih d1' d2 f g _ z e w h1 h2 h3 h5, rfl, rfl⟩
                      | _ => simp [stepD] at hs
                    | false => cases x <;> simp [stepD] at hs
                  | tup xs =>
                    cases x with
                    | int i =>
                      simp only [stepD, atI] at hs
                      simp only [modAt] at h4 ⊢
                      cases hj : ixN xs.length i with
                      | none => rw [hj] at hs; cases hs
                      | some j =>
                        rw [hj] at hs h4
                        have hs : xs[j]? = some d1' := hs
                        simp only [Option.bind_some, hs, Option.map_eq_some_iff, Prod.exists, Prod.mk.injEq] at h4 ⊢
                        obtain ⟨y', w, h5, rfl, rfl⟩ := h4
                        exact ⟨z, w, ih d1' d2 f g _ z e w h1 h2 h3 h5, rfl, rfl⟩
                    | _ => simp [stepD] at hs
                  | _ => cases x <;> simp [stepD] at hs
            exact uniq st d1 d2 f0 f y0 y d1' dm h hf0 hf e1
          obtain ⟨L', g1, g2, g3⟩ := a6 F2 H2 dm M s2 (fun a ha hn => k a ha fun z => hn (b3 a z)) e2 nd c2 (fun a ha hl => by
            rcases c3 a ha with z | z
            · exact z.1
            · exact b3 a (dj a z hl))
          refine ⟨L', fun f y hf => ?_, g2, fun a ha => ?_⟩
          · rw [mod_cons]
            exact g1 (fun e => modAt st e f) y (same f y hf)
          · rcases g3 a ha with z | z
            · exact .inl ⟨z.1, fun w => z.2 (b3 a w)⟩
            · rcases c3 a z with w | w
              · exact .inl ⟨a3 a w.1, w.2⟩
              · exact .inr w
        · exact ⟨[], fun f y hf => absurd ⟨f, y, hf⟩ hex, List.nodup_nil, fun a z => absurd z List.not_mem_nil⟩
/-- where a place's change leads, the place is there -/
theorem mod_steps : ∀ (st : List D) {d : D} {f : D → Option (D × D)} {r : D × D}, modAt st d f = some r → ∃ d1, stepsD d st = some d1 ∧ (f d1).isSome
  | [], d, f, r, h => ⟨d, rfl, by simp only [modAt] at h; rw [h]; rfl⟩
  | x :: st, d, f, r, h => by
    rw [mod_cons] at h
    have go : ∀ (xs : List D) (i : Int), (ixN xs.length i).bind (fun j => (xs[j]?).bind fun e => (modAt st e f).map fun (p : D × D) => p.1) ≠ none → ∃ d1, atI xs i = some d1 ∧ ∃ q, modAt st d1 f = some q := fun xs i hh => by
      cases hj : ixN xs.length i with
      | none => rw [hj] at hh; exact absurd rfl hh
      | some j =>
        rw [hj] at hh
        cases hx : xs[j]? with
        | none => simp [hx] at hh
        | some d1 =>
          refine ⟨d1, by unfold atI; rw [hj]; exact hx, ?_⟩
          cases hm : modAt st d1 f with
          | none => simp [hx, hm] at hh
          | some q => exact ⟨q, rfl⟩
    cases d with
    | lst o xs =>
      cases o with
      | true =>
        cases x with
        | int i =>
          obtain ⟨d1, h1, q, h2⟩ := go xs i (by
            simp only [modAt] at h
            intro z
            cases hj : ixN xs.length i with
            | none => rw [hj] at h; cases h
            | some j =>
              rw [hj] at h z
              simp only [Option.bind_some] at h z
              cases hx : xs[j]? with
              | none => rw [hx] at h; cases h
              | some e =>
                rw [hx] at h z
                simp only [Option.bind_some] at h z
                cases hm : modAt st e f with
                | none => rw [hm] at h; cases h
                | some q => rw [hm] at z; cases z)
          obtain ⟨d2, h3, h4⟩ := mod_steps st h2
          exact ⟨d2, by simp only [stepsD, stepD, h1]; exact h3, h4⟩
        | _ => simp [modAt] at h
      | false => cases x <;> simp [modAt] at h
    | tup xs =>
      cases x with
      | int i =>
        obtain ⟨d1, h1, q, h2⟩ := go xs i (by
            simp only [modAt] at h
            intro z
            cases hj : ixN xs.length i with
            | none => rw [hj] at h; cases h
            | some j =>
              rw [hj] at h z
              simp only [Option.bind_some] at h z
              cases hx : xs[j]? with
              | none => rw [hx] at h; cases h
              | some e =>
                rw [hx] at h z
                simp only [Option.bind_some] at h z
                cases hm : modAt st e f with
                | none => rw [hm] at h; cases h
                | some q => rw [hm] at z; cases z)
        obtain ⟨d2, h3, h4⟩ := mod_steps st h2
        exact ⟨d2, by simp only [stepsD, stepD, h1]; exact h3, h4⟩
      | _ => simp [modAt] at h
    | _ => cases x <;> simp [modAt] at h
end
end VI

set_option maxRecDepth 100000
set_option maxHeartbeats 2000000
/-! VI.Sound11: paths, changing methods. -/
namespace VI
open PySem PySem.Spec PyProof.Rows
open L2 (V Hp HO SqL SqT Same upd upd_same upd_ne RelV Vals VK WX OpR R2 CallR TE TT TA TS TG TGs TI It PE PT PA PI tOp tUn Ends)
section
variable {K : PySem.W.Frag} {W : WX} {cl : Cl} {n : Nat} {F F' H H' : Hp} {T : Addr → Prop} {σ : L2.St} {env : Env}
def SndP (K : PySem.W.Frag) (W : WX) (cl : Cl) (n : Nat) (i : Nat) (m : D → Env → R (List D × D × Env)) (t : TE) : Prop := ∀ (σ : L2.St) (env : Env) (F H : Hp) (T : Addr → Prop) (Q : VK) (v0 : V) (d0 : D) (L0 : List Addr), σ.length = n → Mem K F H T σ env →
  σ[i]? = some (some v0) → Rep K F H v0 d0 L0 → (∀ a ∈ L0, T a) →
  Gd K σ T F H W cl (fun (st, d1, e) => ∀ v1 F' H', Same F F' → (∀ a, T a → H' a = H a) → Mem K F' H' T σ e → stepsD d0 st = some d1 → vsteps H' v0 st = some v1 → Q v1 H') (m d0 env) → t σ H Q
theorem sndP_nil {i : Nat} : SndP K W cl n i (fun d env => .ok ([], d, env)) (L2.tVar i) := by
  intro σ env F H T Q v0 d0 L0 hn mm h0 r0 hT g
  exact ⟨v0, h0, g v0 F H (Same.refl F) (fun _ _ => rfl) mm rfl rfl⟩
theorem vstep_ix {v w v2 : V} {x : D} {L : List Addr} {Q : VK} (h : vstep H v x = some v2) (r : Rep K F H w x L) (q : Q v2 H) : L2.rIx K v w H Q := by
  cases v with
  | ref a =>
    cases r with
    | int i =>
      simp only [vstep] at h
      split at h
      · rename_i vs e
        exact .inl ⟨a, vs, i, v2, rfl, rfl, .inl (.inl e), h, q⟩
      · rename_i vs e
        exact .inr (.inl ⟨a, vs, i, v2, rfl, rfl, .inl (.inl e), h, q⟩)
      · cases h
    | _ => simp [vstep] at h
  | _ => simp [vstep] at h
theorem sndP_ix {i : Nat} {mr : D → Env → R (List D × D × Env)} {tr : TE} {me : Env → R (D × Rt × Env)} {te : TE} (hr : SndP K W cl n i mr tr) (he : SndE K W cl n me te) :
    SndP K W cl n i (fun d env => mr d env >>= fun (st, d1, e1) => own (me e1) >>= fun (x, e2) => match stepD d1 x with
      | some d2 => .ok (st ++ [x], d2, e2)
      | none => .bad) (tOp (L2.rIx K) tr te) := by
  intro σ env F H T Q v0 d0 L0 hn mm h0 r0 hT g
  refine hr σ env F H T _ v0 d0 L0 hn mm h0 r0 hT (Gd.imp (Gd.bind g) ?_)
  rintro ⟨st, d1, e1⟩ g1 v1 F1 H1 f1 k1 m1 hs hv
  have g1 : Gd K σ T F H W cl _ (own (me e1) >>= fun (x, e2) => match stepD d1 x with
      | some d2 => .ok (st ++ [x], d2, e2)
      | none => .bad) := g1
  refine he σ e1 F1 H1 T _ hn m1 (Gd.imp (Gd.own (Gd.on (Gd.bind g1) f1 k1 fun a z => z)) ?_)
  rintro ⟨x, r, e2⟩ ⟨hr', g2⟩ w F2 H2 L2' Lf2 o
  have g2 : Gd K σ T F H W cl _ (match stepD d1 x with
      | some d2 => .ok (st ++ [x], d2, e2)
      | none => .bad) := g2
  cases hx : stepD d1 x with
  | none => rw [hx] at g2; exact g2.elim
  | some d2 =>
    rw [hx] at g2
    have r1 : Rep K F1 H1 v0 d0 L0 := r0.mono f1 fun a ha => k1 a (hT a ha)
    obtain ⟨va, La, a1, _, _, _, a5, _⟩ := steps_sem st m1.sub r1 hs
    have e : va = v1 := Option.some.inj (a1.symm.trans hv)
    subst e
    have hv2 := a5 F2 H2 o.fs o.mem.sub fun a ha => o.ks a (hT a ha)
    have r2 : Rep K F2 H2 v0 d0 L0 := r1.mono o.fs fun a ha => o.ks a (hT a ha)
    obtain ⟨vb, Lb, b1, b2, _, _, _, _⟩ := steps_sem st o.mem.sub r2 hs
    have e : vb = va := Option.some.inj (b1.symm.trans hv2)
    subst e
    obtain ⟨vc, Lc, c1, _, _, _, _, _⟩ := step_sem o.mem.sub b2 hx
    refine vstep_ix c1 o.rep (g2 vc F2 H2 (f1.trans o.fs) (fun a ha => (o.ks a ha).trans (k1 a ha)) o.mem0 ?_ ?_)
    · rw [stepsD_snoc, hs]
      exact hx
    · rw [vsteps_snoc, b1]
      exact c1
/-- the heart of every change -/
theorem chg_core {i : Nat} {st : List D} {v0 : V} {d0 y d' : D} {L0 La : List Addr} {e2 : Env} {f : D → Option (D × D)} (m2 : Mem K F H (Tp (Tp T L0) La) σ e2) (h0 : σ[i]? = some (some v0)) (r0 : Rep K F H v0 d0 L0) (nd0 : L0.Nodup) (nt0 : ∀ a ∈ L0, ¬ T a)
    (nta : ∀ a ∈ La, ¬ Tp T L0 a) (hm : modAt st d0 f = some (y, d')) :
    ∃ v1 d1 L1, vsteps H v0 st = some v1 ∧ Rep K F H v1 d1 L1 ∧ L1.Nodup ∧ (∀ a ∈ L1, a ∈ L0) ∧ ∃ d1', f d1 = some (y, d1') ∧
      ∀ (l : Addr) (M : List Addr) (vs' : List V) (xs' : List D) (M' Ly : List Addr), v1 = .ref l → L1 = l :: M → d1' = .lst true xs' → Reps K F (upd H l (.lst vs')) vs' xs' M' → (M' ++ Ly).Nodup → (∀ a ∈ M' ++ Ly, a ∈ M ++ La) →
        Mem K F (upd H l (.lst vs')) (Tp T Ly) σ (e2.set i (some d')) ∧ (∀ a, T a → upd H l (.lst vs') a = H a) ∧ ∀ a ∈ Ly, ¬ T a := by
  obtain ⟨d1, hs, hf⟩ := mod_steps st hm
  obtain ⟨v1, L1, a1, a2, a3, a4, a5, a6⟩ := steps_sem st m2.sub r0 hs
  cases hfd : f d1 with
  | none => rw [hfd] at hf; cases hf
  | some p =>
    obtain ⟨y', d1'⟩ := p
    have ey : ∀ (st : List D) (d0 d1 : D) (y y' d' d1' : D), stepsD d0 st = some d1 → f d1 = some (y', d1') → modAt st d0 f = some (y, d') → y' = y := by
      intro st
      induction st with
      | nil =>
        intro d0 d1 y y' d' d1' h1 h2 h3
        simp only [stepsD, Option.some.injEq] at h1
        subst h1
        simp only [modAt] at h3
        rw [h2] at h3
        cases h3
        rfl
      | cons x st ih =>
        intro d0 d1 y y' d' d1' h1 h2 h3
        simp only [stepsD] at h1
        cases hx : stepD d0 x with
        | none => rw [hx] at h1; cases h1
        | some dm =>
          rw [hx] at h1
          rw [mod_cons] at h3
          have inner : ∃ w, modAt st dm f = some (y, w) := by
            cases d0 with
            | lst o xs =>
              cases o with
              | true =>
                cases x with
                | int i =>
                  simp only [stepD, atI] at hx
                  simp only [modAt] at h3
                  cases hj : ixN xs.length i with
                  | none => rw [hj] at hx; cases hx
                  | some j =>
                    rw [hj] at hx h3
                    have hx : xs[j]? = some dm := hx
                    simp only [Option.bind_some, hx, Option.map_eq_some_iff, Prod.exists, Prod.mk.injEq] at h3
                    obtain ⟨_, w, h5, rfl, _⟩ := h3
                    exact ⟨w, h5⟩
                | _ => simp [stepD] at hx
              | false => cases x <;> simp [stepD] at hx
            | tup xs =>
              cases x with
              | int i =>
                simp only [stepD, atI] at hx
                simp only [modAt] at h3
                cases hj : ixN xs.length i with
                | none => rw [hj] at hx; cases hx
                | some j =>
                  rw [hj] at hx h3
                  have hx : xs[j]? = some dm := hx
                  simp only [Option.bind_some, hx, Option.map_eq_some_iff, Prod.exists, Prod.mk.injEq] at h3
                  obtain ⟨_, w, h5, rfl, _⟩ := h3
                  exact ⟨w, h5⟩
              | _ => simp [stepD] at hx
            | _ => cases x <;> simp [stepD] at hx
          obtain ⟨w, hw⟩ := inner
          exact ih dm d1 y y' w d1' h1 h2 hw
    have e := ey st d0 d1 y y' d' d1' hs hfd hm
    subst e
    refine ⟨v1, d1, L1, a1, a2, a4 nd0, a3, d1', hfd, fun l M vs' xs' M' Ly e1 e2' e3 rr nd sub => ?_⟩
    subst e1 e2' e3
    have hl0 : l ∈ L0 := a3 l List.mem_cons_self
    have hFl : F l = none := (m2.fr l (.inl (.inr hl0))).1
    obtain ⟨nlM, ndM⟩ := List.nodup_cons.mp (a4 nd0)
    have nlA : l ∉ La := fun z => nta l z (.inr hl0)
    have nlS : ∀ a ∈ M' ++ Ly, a ≠ l := fun a ha e => by
      subst e
      rcases List.mem_append.mp (sub a ha) with z | z
      · exact nlM z
      · exact nlA z
    have r1' : Rep K F (upd H l (.lst vs')) (.ref l) (.lst true xs') (l :: M') := .lstO upd_same rr
    have ndN := nd
    rw [List.nodup_append] at ndN
    obtain ⟨L', g1, g2, g3⟩ := a6 F (upd H l (.lst vs')) (.lst true xs') (l :: M') (Same.refl F) (fun a ha hn => upd_ne fun (e : a = l) => hn (by rw [e]; exact List.mem_cons_self)) r1' nd0
      (List.nodup_cons.mpr ⟨fun z => nlS l (List.mem_append_left _ z) rfl, ndN.1⟩) (fun a ha hla => by
        rcases List.mem_cons.mp ha with z | z
        · rw [z]; exact List.mem_cons_self
        · rcases List.mem_append.mp (sub a (List.mem_append_left _ z)) with w | w
          · exact List.mem_cons_of_mem _ w
          · exact absurd (.inr hla) (nta a w))
    obtain ⟨d'', h1, h2⟩ := g1 f y' hfd
    rw [hm] at h1
    cases h1
    have inLa : ∀ a ∈ M' ++ Ly, a ∈ L0 ∨ a ∈ La := fun a ha => by
      rcases List.mem_append.mp (sub a ha) with z | z
      · exact .inl (a3 a (List.mem_cons_of_mem _ z))
      · exact .inr z
    have m3 := Mem.mut (o := .lst vs') m2 (.inl (.inr hl0))
    have inL' : ∀ a ∈ L', a ∈ L0 ∨ a ∈ La := fun a ha => by
      rcases g3 a ha with z | z
      · exact .inl z.1
      · rcases List.mem_cons.mp z with w | w
        · rw [w]; exact .inl hl0
        · exact inLa a (List.mem_append_left _ w)
    have noT : ∀ a, (a ∈ L0 ∨ a ∈ La) → ¬ T a := fun a ha z => ha.elim (fun w => nt0 a w z) fun w => nta a w (.inl z)
    refine ⟨?_, fun a ha => upd_ne fun (e : a = l) => nt0 l hl0 (by rw [← e]; exact ha), fun a ha => noT a (inLa a (List.mem_append_right _ ha))⟩
    refine Mem.put' (L := L') (v := v0) (m3.weak fun a ha => ?_) h2 g2 (fun a ha z => ?_) h0
    · rcases ha with (ha | ha) | ha
      · exact .inl (.inl ha)
      · exact (inLa a (List.mem_append_right _ ha)).elim (fun z => .inl (.inr z)) .inr
      · exact (inL' a ha).elim (fun z => .inl (.inr z)) .inr
    · rcases z with z | z
      · exact noT a (inL' a ha) z
      · rcases g3 a ha with w | w
        · rcases List.mem_append.mp (sub a (List.mem_append_right _ z)) with u | u
          · exact w.2 (List.mem_cons_of_mem _ u)
          · exact nta a u (.inr w.1)
        · rcases List.mem_cons.mp w with u | u
          · exact nlS a (List.mem_append_right _ z) u
          · exact ndN.2.2 a u a z rfl
theorem mutD_own {m : Mu} {d : D} {ds : List D} {p : D × D} (h : mutD m d ds = some p) : ∃ xs, d = .lst true xs := by
  cases d with
  | lst o xs =>
    cases o with
    | true => exact ⟨xs, rfl⟩
    | false => cases m <;> simp [mutD] at h
  | _ => cases m <;> simp [mutD] at h
theorem own_inv {xs : List D} {L : List Addr} {v : V} (r : Rep K F H v (.lst true xs) L) : ∃ l vs M, v = .ref l ∧ L = l :: M ∧ H l = some (.lst vs) ∧ Reps K F H vs xs M := by
  cases r with
  | lstO h r => exact ⟨_, _, _, rfl, rfl, h, r⟩
/-- a changing method, at a place that others hold now -/
theorem mut_core {i : Nat} {m : Mu} {st : List D} {v0 v1 : V} {d0 y d' : D} {L0 La : List Addr} {e2 : Env} {ds : List D} {ws : List V} {F0 H0 : Hp} {Q : VK} (m2 : Mem K F H (Tp (Tp T L0) La) σ e2) (h0 : σ[i]? = some (some v0)) (r0 : Rep K F H v0 d0 L0)
    (nd0 : L0.Nodup) (nt0 : ∀ a ∈ L0, ¬ T a) (nta : ∀ a ∈ La, ¬ Tp T L0 a) (nda : La.Nodup) (ra : Reps K F H ws ds La) (hm : modAt st d0 (fun d => mutD m d ds) = some (y, d')) (hv : vsteps H v0 st = some v1) (f0 : Same F0 F) (k0 : ∀ a, T a → H a = H0 a)
    (q : ∀ v F' H' L Lf, Out K σ T F0 H0 y none (e2.set i (some d')) v F' H' L Lf → Q v H') : rmu m v1 ws H Q := by
  obtain ⟨v1', d1, L1, a1, a2, a3, a4, d1', a5, a6⟩ := chg_core m2 h0 r0 nd0 nt0 nta hm
  have e : v1' = v1 := Option.some.inj (a1.symm.trans hv)
  subst e
  obtain ⟨xs, rfl⟩ := mutD_own a5
  obtain ⟨l, vs, M, rfl, rfl, hl, rs⟩ := own_inv a2
  have hl0 : l ∈ L0 := a4 l List.mem_cons_self
  obtain ⟨nlM, ndM⟩ := List.nodup_cons.mp a3
  refine mut_sem m a5 hl rs ra m2.sub (m2.fr l (.inl (.inr hl0))).1 nlM (fun z => nta l z (.inr hl0)) ?_ fun vy vs' xs' Ly M' e ry rs' nd sub => ?_
  · rw [List.nodup_append]
    exact ⟨ndM, nda, fun a ha b hb e => nta b hb (.inr (a4 b (List.mem_cons_of_mem _ (e ▸ ha))))⟩
  · obtain ⟨b1, b2, b3⟩ := a6 l M vs' xs' M' Ly rfl rfl e rs' nd sub
    rw [List.nodup_append] at nd
    exact q vy F _ Ly Ly ⟨f0, fun a ha => (b2 a ha).trans (k0 a ha), ry, nd.2.1, fun a z => z, b3, b1, fun _ => rfl, trivial⟩
theorem snd_mut0 {i : Nat} {m : Mu} {ma : Env → R (List D × Env)} {ta : TA} (ha : SndA K W cl n ma ta) :
    SndE K W cl n (fun env => match env.getD i none with
      | none => .bad
      | some d0 => if d0.isOwn then ma env >>= fun (ds, e2) => match (e2.getD i none).bind fun d => mutD m d ds with
        | some (y, d') => .ok (y, none, e2.set i (some d'))
        | none => .bad
        else .bad) (L2.tBM K "list" (rmu m) (L2.tVar i) ta) := by
  intro σ env F H T Q hn mm g
  dsimp only at g
  cases hd : env.getD i none with
  | none => rw [hd] at g; exact g.elim
  | some d0 =>
    rw [hd] at g
    dsimp only at g
    split at g
    · rename_i ho
      obtain ⟨v0, L0, h1, h2, h3, h4, h5⟩ := mm.hide hd
      cases d0 with
      | lst o xs =>
        cases o with
        | true =>
          obtain ⟨l, vs, M, rfl, rfl, hl, rs⟩ := own_inv h2
          refine ⟨.ref l, h1, .inl ⟨rfl, vs, .inl (.inl hl)⟩, ?_⟩
          refine ha σ env F H T _ hn mm (Gd.imp (Gd.bind g) ?_)
          rintro ⟨ds, e2⟩ g1 ws F1 H1 La f1 k1 ra nda nta m1
          have g1 : Gd K σ T F H W cl _ (match (e2.getD i none).bind fun d => mutD m d ds with
            | some (y, d') => .ok (y, none, e2.set i (some d'))
            | none => .bad) := g1
          cases hd2 : e2.getD i none with
          | none => rw [hd2] at g1; exact g1.elim
          | some d =>
            rw [hd2] at g1
            obtain ⟨v0', L1, p1, p2, p3, p4, p5⟩ := m1.hide hd2
            have e : v0' = .ref l := by
              rw [h1] at p1
              exact (Option.some.inj (Option.some.inj p1)).symm
            cases hmd : mutD m d ds with
            | none =>
              simp only [Option.bind_some, hmd] at g1
              exact g1.elim
            | some p =>
              obtain ⟨y, d'⟩ := p
              simp only [Option.bind_some, hmd] at g1
              have g1 : ∀ v F' H' L Lf, Out K σ T F H y none (e2.set i (some d')) v F' H' L Lf → Q v H' := g1
              have es : (e2.set i none).set i (some d') = e2.set i (some d') := List.set_set _
              rw [← es] at g1
              rw [← e]
              refine mut_core (st := []) (L0 := L1) (La := La) (e2 := e2.set i none) (p5.weak fun a ha => ?_) p1 p2 p3 (fun a ha z => p4 a ha (.inl z)) (fun a ha z => ?_) nda ra hmd rfl f1 k1 g1
              · rcases ha with (ha | ha) | ha
                · exact .inl (.inl ha)
                · exact .inr ha
                · exact .inl (.inr ha)
              · rcases z with z | z
                · exact nta a ha z
                · exact p4 a z (.inr ha)
        | false => cases ho
      | _ => cases ho
    · exact g.elim
theorem snd_mutP {i : Nat} {m : Mu} {mp : D → Env → R (List D × D × Env)} {tp : TE} {ma : Env → R (List D × Env)} {ta : TA} (hp : SndP K W cl n i mp tp) (ha : SndA K W cl n ma ta) :
    SndE K W cl n (fun env => match env.getD i none with
      | none => .bad
      | some d0 => mp d0 (env.set i none) >>= fun (st, d1, e1) => if d1.isOwn then ma e1 >>= fun (ds, e2) => match modAt st d0 fun d => mutD m d ds with
        | some (y, d') => .ok (y, none, e2.set i (some d'))
        | none => .bad
        else .bad) (L2.tBM K "list" (rmu m) tp ta) := by
  intro σ env F H T Q hn mm g
  dsimp only at g
  cases hd : env.getD i none with
  | none => rw [hd] at g; exact g.elim
  | some d0 =>
    rw [hd] at g
    obtain ⟨v0, L0, h1, h2, h3, h4, h5⟩ := mm.hide hd
    have g0 : Gd K σ T F H W cl _ (mp d0 (env.set i none) >>= fun (st, d1, e1) => if d1.isOwn then ma e1 >>= fun (ds, e2) => match modAt st d0 fun d => mutD m d ds with
        | some (y, d') => .ok (y, none, e2.set i (some d'))
        | none => .bad
        else .bad) := g
    refine hp σ (env.set i none) F H (Tp T L0) _ v0 d0 L0 hn h5 h1 h2 (fun a ha => .inr ha) (Gd.imp (Gd.on (Gd.bind g0) (Same.refl F) (fun _ _ => rfl) fun a => .inl) ?_)
    rintro ⟨st, d1, e1⟩ g1 v1 F1 H1 f1 k1 m1 hs hv
    have g1 : Gd K σ T F H W cl _ (if d1.isOwn then ma e1 >>= fun (ds, e2) => match modAt st d0 fun d => mutD m d ds with
        | some (y, d') => .ok (y, none, e2.set i (some d'))
        | none => .bad
        else .bad) := g1
    split at g1
    · rename_i ho
      have r1 : Rep K F1 H1 v0 d0 L0 := h2.mono f1 fun a ha => k1 a (.inr ha)
      obtain ⟨va, Lv, a1, a2, _, _, a5, _⟩ := steps_sem st m1.sub r1 hs
      have e : va = v1 := Option.some.inj (a1.symm.trans hv)
      subst e
      cases d1 with
      | lst o xs =>
        cases o with
        | true =>
          obtain ⟨l, vs, M, rfl, rfl, hl, rs⟩ := own_inv a2
          refine ⟨.inl ⟨rfl, vs, .inl (.inl hl)⟩, ?_⟩
          refine ha σ e1 F1 H1 (Tp T L0) _ hn m1 (Gd.imp (Gd.on (Gd.bind g1) f1 (fun a ha => k1 a (.inl ha)) fun a => .inl) ?_)
          rintro ⟨ds, e2⟩ g2 ws F2 H2 La f2 k2 ra nda nta m2
          have g2 : Gd K σ T F H W cl _ (match modAt st d0 fun d => mutD m d ds with
            | some (y, d') => .ok (y, none, e2.set i (some d'))
            | none => .bad) := g2
          cases hmd : modAt st d0 fun d => mutD m d ds with
          | none =>
            rw [hmd] at g2
            exact g2.elim
          | some p =>
            obtain ⟨y, d'⟩ := p
            rw [hmd] at g2
            have g2 : ∀ v F' H' L Lf, Out K σ T F H y none (e2.set i (some d')) v F' H' L Lf → Q v H' := g2
            exact mut_core m2 h1 (r1.mono f2 fun a ha => k2 a (.inr ha)) h3 h4 nta nda ra hmd (a5 F2 H2 f2 m2.sub fun a ha => k2 a (.inr ha)) (f1.trans f2) (fun a ha => (k2 a (.inl ha)).trans (k1 a (.inl ha))) g2
        | false => cases ho
      | _ => cases ho
    · exact g1.elim
/-- o[k] = y at a place that others hold now -/
theorem set_core {i : Nat} {st : List D} {v0 v1 vx vy : V} {d0 x y d' : D} {L0 Ly Lx : List Addr} {e2 : Env} {Q : L2.St → Hp → Prop} (m2 : Mem K F H (Tp (Tp T L0) Ly) σ e2) (h0 : σ[i]? = some (some v0)) (r0 : Rep K F H v0 d0 L0)
    (nd0 : L0.Nodup) (nt0 : ∀ a ∈ L0, ¬ T a) (nty : ∀ a ∈ Ly, ¬ Tp T L0 a) (ndy : Ly.Nodup) (ry : Rep K F H vy y Ly) (rx : Rep K F H vx x Lx) (hm : modAt st d0 (fun d => (setD d x y).map fun d' => (.non, d')) = some (.non, d')) (hv : vsteps H v0 st = some v1)
    (q : ∀ H', (∀ a, T a → H' a = H a) → Mem K F H' T σ (e2.set i (some d')) → Q σ H') : L2.rSetL v1 vx vy H fun H3 => Q σ H3 := by
  obtain ⟨v1', d1, L1, a1, a2, a3, a4, d1', a5, a6⟩ := chg_core m2 h0 r0 nd0 nt0 nty hm
  have e : v1' = v1 := Option.some.inj (a1.symm.trans hv)
  subst e
  simp only [Option.map_eq_some_iff, Prod.mk.injEq, true_and] at a5
  obtain ⟨d1'', h1, rfl⟩ := a5
  cases d1 with
  | lst o xs =>
    cases o with
    | true =>
      cases rx with
      | int k =>
        simp only [setD, Option.map_eq_some_iff] at h1
        obtain ⟨j, hj, rfl⟩ := h1
        obtain ⟨l, vs, M, rfl, rfl, hl, rs⟩ := own_inv a2
        have hl0 : l ∈ L0 := a4 l List.mem_cons_self
        obtain ⟨nlM, ndM⟩ := List.nodup_cons.mp a3
        have hjl : j < xs.length := (L2.ixN_seq (show L2.ixN xs.length k = some j from hj)).2.1
        obtain ⟨vo, A, B, C, g1, g2, g3, g4, _⟩ := rs.at (List.getElem?_eq_getElem hjl)
        have kM : ∀ a ∈ A ++ C, upd H l (.lst (vs.set j vy)) a = H a := fun a ha => upd_ne fun (e : a = l) => nlM (by
          rw [← e, g2]
          rcases List.mem_append.mp ha with z | z <;> simp [z])
        have kY : ∀ a ∈ Ly, upd H l (.lst (vs.set j vy)) a = H a := fun a ha => upd_ne fun (e : a = l) => nty a ha (.inr (by rw [e]; exact hl0))
        refine ⟨l, vs, k, j, rfl, rfl, hl, by rw [rs.length]; exact hj, ?_⟩
        have rs' := g4 F (upd H l (.lst (vs.set j vy))) vy y Ly (Same.refl F) kM (ry.mono (Same.refl F) kY)
        have dY : ∀ a ∈ Ly, a ∉ M := fun a ha z => nty a ha (.inr (a4 a (List.mem_cons_of_mem _ z)))
        have ndM' := ndM
        rw [g2, List.nodup_append, List.nodup_append] at ndM'
        obtain ⟨⟨nA, nB, dAB⟩, nC, dABC⟩ := ndM'
        obtain ⟨b1, b2, b3⟩ := a6 l M (vs.set j vy) (xs.set j y) (A ++ Ly ++ C) [] rfl rfl rfl rs' (by
          rw [List.append_nil, List.nodup_append, List.nodup_append]
          refine ⟨⟨nA, ndy, fun a ha b hb e => dY b hb (by rw [g2, ← e]; simp [ha])⟩, nC, fun a ha b hb e => ?_⟩
          rcases List.mem_append.mp ha with z | z
          · exact dABC a (List.mem_append_left _ z) b hb e
          · exact dY a z (by rw [g2, e]; simp [hb])) (fun a ha => by
            rw [List.append_nil] at ha
            rcases List.mem_append.mp ha with z | z
            · rcases List.mem_append.mp z with z | z
              · exact List.mem_append_left _ (by rw [g2]; simp [z])
              · exact List.mem_append_right _ z
            · exact List.mem_append_left _ (by rw [g2]; simp [z]))
        rw [Tp_nil] at b1
        exact q _ b2 b1
      | _ => simp [setD] at h1
    | false => simp [setD] at h1
  | _ => simp [setD] at h1
end
end VI

set_option maxRecDepth 100000
set_option maxHeartbeats 2000000
/-! VI.Sound12: statements. -/
namespace VI
open PySem PySem.Spec PyProof.Rows
open L2 (V Hp HO SqL SqT Same upd upd_same upd_ne RelV Vals VK WX OpR R2 CallR TE TT TA TS TG TGs TI It PE PT PA PI tOp tUn Ends)

section
variable (K : PySem.W.Frag) (W : WX) (cl : Cl) (pr : List Nat)
/-- the protected slots are as they were -/
def Kept (pr : List Nat) (σ σ' : L2.St) : Prop := σ'.length = σ.length ∧ ∀ j ∈ pr, σ'[j]? = σ[j]?
def GdF (σ : L2.St) (T : Addr → Prop) (F H : Hp) (DD : Ends) : Fl → Prop
  | .nxt e => ∀ σ' F' H', Same F F' → (∀ a, T a → H' a = H a) → Mem K F' H' T σ' e → Kept pr σ σ' → DD.nx σ' H'
  | .ret d e => ∀ v σ' F' H' L, Same F F' → (∀ a, T a → H' a = H a) → Rep K F' H' v d L → L.Nodup → (∀ a ∈ L, ¬ T a) → Mem K F' H' (Tp T L) σ' e → Kept pr σ σ' → DD.rt v H'
  | .exc c e => ∀ C σ' F' H', cl c = some C → Same F F' → (∀ a, T a → H' a = H a) → Mem K F' H' T σ' e → Kept pr σ σ' → W (.ref C) none σ' H'
  | .bad => False
/-- the reading t does what m says -/
def SndS (n : Nat) (m : Env → Fl) (t : TS) : Prop := ∀ (σ : L2.St) (env : Env) (F H : Hp) (T : Addr → Prop) (DD : Ends), σ.length = n → Mem K F H T σ env → GdF K W cl pr σ T F H DD (m env) → t DD σ H
end
section
variable {K : PySem.W.Frag} {W : WX} {cl : Cl} {pr : List Nat} {n : Nat} {F F' H H' F1 H1 : Hp} {T : Addr → Prop} {σ σ1 : L2.St} {env : Env} {DD : Ends}
theorem Kept.refl : Kept pr σ σ := ⟨rfl, fun _ _ => rfl⟩
theorem Kept.trans {σ2 : L2.St} (a : Kept pr σ σ1) (b : Kept pr σ1 σ2) : Kept pr σ σ2 := ⟨b.1.trans a.1, fun j hj => (b.2 j hj).trans (a.2 j hj)⟩
theorem Kept.set {i : Nat} {x : Option V} (h : i ∉ pr) : Kept pr σ (σ.set i x) := ⟨List.length_set, fun j hj => List.getElem?_set_ne fun (e : i = j) => h (by rw [e]; exact hj)⟩
theorem GdF.fl {α : Type} {m : R α} {f : α → Fl} (g : GdF K W cl pr σ T F H DD (m.fl f)) : Gd K σ T F H W cl (fun a => GdF K W cl pr σ T F H DD (f a)) m := by
  cases m with
  | ok a => exact g
  | exc c e => exact fun C F' H' h1 h2 h3 h4 => g C σ F' H' h1 h2 h3 h4 Kept.refl
  | bad => exact g
theorem GdF.on {f : Fl} (g : GdF K W cl pr σ T F H DD f) (e1 : Same F F1) (e2 : ∀ a, T a → H1 a = H a) (e3 : Kept pr σ σ1) : GdF K W cl pr σ1 T F1 H1 DD f := by
  cases f with
  | nxt e => exact fun σ' F' H' a b c d => g σ' F' H' (e1.trans a) (fun x hx => (b x hx).trans (e2 x hx)) c (e3.trans d)
  | ret d e => exact fun v σ' F' H' L a b c d k m z => g v σ' F' H' L (e1.trans a) (fun x hx => (b x hx).trans (e2 x hx)) c d k m (e3.trans z)
  | exc c e => exact fun C σ' F' H' h a b c d => g C σ' F' H' h (e1.trans a) (fun x hx => (b x hx).trans (e2 x hx)) c (e3.trans d)
  | bad => exact g
/-- the same flow, other wishes of what follows -/
theorem GdF.nx {f : Fl} {P : L2.St → Hp → Prop} {fn : Env → Fl} (g : GdF K W cl pr σ T F H DD (f.seq fn)) (k : ∀ e σ' F' H', f = .nxt e → Same F F' → (∀ a, T a → H' a = H a) → Mem K F' H' T σ' e → Kept pr σ σ' → GdF K W cl pr σ' T F' H' DD (fn e) → P σ' H') :
    GdF K W cl pr σ T F H { DD with nx := P } f := by
  cases f with
  | nxt e => exact fun σ' F' H' a b c d => k e σ' F' H' rfl a b c d (GdF.on (f := fn e) g a b d)
  | ret d e => exact g
  | exc c e => exact g
  | bad => exact g
/-! ### blocks -/
theorem sndS_nil : SndS K W cl pr n .nxt L2.tNext := fun σ env F H T DD hn mm g => g σ F H (Same.refl F) (fun _ _ => rfl) mm Kept.refl
theorem sndS_cons {m m' : Env → Fl} {t u : TS} (h1 : SndS K W cl pr n m t) (h2 : SndS K W cl pr n m' u) : SndS K W cl pr n (fun env => (m env).seq m') (L2.tSeq t u) := by
  intro σ env F H T DD hn mm g
  refine h1 σ env F H T { DD with nx := u DD } hn mm (GdF.nx g fun e σ' F' H' _ a b c d g' => ?_)
  exact h2 σ' e F' H' T DD (d.1.trans hn) c g'
theorem sndS_one {m : Env → Fl} {t : TS} (h : SndS K W cl pr n m t) : SndS K W cl pr n (fun env => (m env).seq .nxt) t := by
  intro σ env F H T DD hn mm g
  refine h σ env F H T DD hn mm ?_
  have e : (m env).seq Fl.nxt = m env := by cases m env <;> rfl
  dsimp only at g
  rw [e] at g
  exact g
/-! ### simple ones -/
theorem sndS_asg {i : Nat} {m : Env → R (D × Rt × Env)} {te : TE} (he : SndE K W cl n m te) (hi : i < n) (hp : i ∉ pr) :
    SndS K W cl pr n (fun env => (own (m env)).fl fun (d, e1) => .nxt (e1.set i (some d))) (L2.tAsg te (L2.gName i)) := by
  intro σ env F H T DD hn mm g
  refine he σ env F H T _ hn mm (Gd.imp (Gd.own (GdF.fl g)) ?_)
  rintro ⟨d, r, e1⟩ ⟨hr, g1⟩ v F1 H1 L Lf o
  have hr : r = none := hr
  subst hr
  have e := o.all rfl
  subst e
  exact g1 _ F1 H1 o.fs o.ks (Mem.put o.mem o.rep o.nd o.nt (by rw [hn]; exact hi)) (Kept.set hp)
theorem Reps.frF {vs : List V} {ds : List D} {L : List Addr} (r : Reps K F H vs ds L) (h : froL ds = true) : Reps K F H vs ds [] := by
  have e := r.fro0 h
  rwa [e] at r
def gSeq (K : PySem.W.Frag) (n : Nat) (t : TGs) : TG := fun v σ H Q => L2.gTup K n t v σ H Q ∨ L2.gLst K n t v σ H Q
theorem pg_seq {X : L2.Cx} {es : List Expr} {k : Nat} {t : TGs} {n : Nat} {pos : Pos} (hc : X.calm = true) (h : L2.PGs X es t)
    (hn : (assignEach es X.env).length = n) (hst : (assignEach es X.env).findIdx? (·.1) = none) : L2.PG X (.Tuple es k pos) (gSeq X.K n t) := by
  refine ⟨fun pins s σ H v u Q I r hw => ?_⟩
  rcases hw with hw | hw
  · exact (L2.pg_tup hc h hn hst).run pins s σ H v u Q I r hw
  · exact (L2.pg_lst hc h hn hst).run pins s σ H v u Q I r hw
theorem setMany_len : ∀ (is : List Nat) (ds : List D) {e e1 : Env}, setMany is ds e = some e1 → is.length = ds.length
  | [], [], e, e1, h => rfl
  | [], _ :: _, e, e1, h => by simp [setMany] at h
  | _ :: _, [], e, e1, h => by simp [setMany] at h
  | i :: is, d :: ds, e, e1, h => by
    simp only [setMany] at h
    rw [List.length_cons, List.length_cons, setMany_len is ds h]
theorem sndS_unp {is : List Nat} {m : Env → R (D × Rt × Env)} {te : TE} (he : SndE K W cl n m te) (hi : ∀ i ∈ is, i < n) (hp : ∀ i ∈ is, i ∉ pr) :
    SndS K W cl pr n (fun env => (own (m env)).fl fun (d, e1) => ofEnv (unpD is d e1)) (L2.tAsg te (gSeq K is.length (tgsR is))) := by
  intro σ env F H T DD hn mm g
  refine he σ env F H T _ hn mm (Gd.imp (Gd.own (GdF.fl g)) ?_)
  rintro ⟨d, r, e1⟩ ⟨hr, g1⟩ v F1 H1 L Lf o
  have hr : r = none := hr
  subst hr
  have e := o.all rfl
  subst e
  have g1 : GdF K W cl pr σ T F H DD (ofEnv (unpD is d e1)) := g1
  have go : ∀ {vs : List V} {xs : List D} {e2 : Env}, froL xs = true → Reps K F1 H1 vs xs L → setMany is xs e1 = some e2 → GdF K W cl pr σ T F H DD (.nxt e2) → tgsR is vs σ H1 DD.nx := fun {vs xs e2} hf rs hs g2 => by
    refine many_sem is hs (rs.frF hf) o.mem.drop (fun i h => by rw [hn]; exact hi i h) fun σ' m' hl hk => g2 σ' F1 H1 o.fs o.ks m' ⟨hl, fun j hj => hk j fun z => hp j z hj⟩
  cases d with
  | tup xs =>
    simp only [unpD] at g1
    split at g1
    · rename_i hf
      cases hs : setMany is xs e1 with
      | none => rw [hs] at g1; exact g1.elim
      | some e2 =>
        rw [hs] at g1
        obtain ⟨a, vs, rfl, h1, rs⟩ := tup_inv o.rep
        exact .inl ⟨a, vs, rfl, .inl (.inl (o.mem.sub _ _ h1)), by rw [rs.length, setMany_len _ _ hs], go hf rs hs g1⟩
    · exact g1.elim
  | lst b xs =>
    simp only [unpD] at g1
    split at g1
    · rename_i hf
      cases hs : setMany is xs e1 with
      | none => rw [hs] at g1; exact g1.elim
      | some e2 =>
        rw [hs] at g1
        obtain ⟨a, vs, M, rfl, h1, rs, sub⟩ := lst_inv o.mem.sub o.rep
        refine .inr ⟨a, vs, rfl, .inl (.inl h1), by rw [rs.length, setMany_len _ _ hs], ?_⟩
        refine many_sem is hs (rs.frF hf) o.mem.drop (fun i h => by rw [hn]; exact hi i h) fun σ' m' hl hk => ?_
        exact (show GdF K W cl pr σ T F H DD (.nxt e2) from g1) σ' F1 H1 o.fs o.ks m' ⟨hl, fun j hj => hk j fun z => hp j z hj⟩
    · exact g1.elim
  | _ => exact g1.elim
theorem sndS_exp {m : Env → R (D × Rt × Env)} {te : TE} (he : SndE K W cl n m te) : SndS K W cl pr n (fun env => (m env).fl fun (_, _, e1) => .nxt e1) (L2.tDrop te) := by
  intro σ env F H T DD hn mm g
  refine he σ env F H T _ hn mm (Gd.imp (GdF.fl g) ?_)
  rintro ⟨d, r, e1⟩ g1 v F1 H1 L Lf o
  exact g1 σ F1 H1 o.fs o.ks o.mem0 Kept.refl
theorem sndS_ret {m : Env → R (D × Rt × Env)} {te : TE} (he : SndE K W cl n m te) : SndS K W cl pr n (fun env => (own (m env)).fl fun (d, e1) => .ret d e1) (L2.tRet te) := by
  intro σ env F H T DD hn mm g
  refine he σ env F H T _ hn mm (Gd.imp (Gd.own (GdF.fl g)) ?_)
  rintro ⟨d, r, e1⟩ ⟨hr, g1⟩ v F1 H1 L Lf o
  have hr : r = none := hr
  subst hr
  have e := o.all rfl
  subst e
  exact g1 v σ F1 H1 L o.fs o.ks o.rep o.nd o.nt o.mem Kept.refl
theorem sndS_retn : SndS K W cl pr n (fun env => .ret .non env) L2.tRetN := by
  intro σ env F H T DD hn mm g
  exact g .non σ F H [] (Same.refl F) (fun _ _ => rfl) .non List.nodup_nil (fun a z => absurd z List.not_mem_nil) (by rw [Tp_nil]; exact mm) Kept.refl
theorem sndS_rai {c : String} {C : Addr} (h : cl c = some C) : SndS K W cl pr n (fun env => .exc c env) (fun _ σ H => W (.ref C) none σ H) := by
  intro σ env F H T DD hn mm g
  exact g C σ F H h (Same.refl F) (fun _ _ => rfl) mm Kept.refl
theorem sndS_if {c : Env → R (Bool × Env)} {a b : Env → Fl} {tc : TT} {ta tb : TS} (hc : SndT K W cl n c tc) (ha : SndS K W cl pr n a ta) (hb : SndS K W cl pr n b tb) :
    SndS K W cl pr n (fun env => (c env).fl fun (t, e1) => if t then a e1 else b e1) (L2.tIfS tc ta tb) := by
  intro σ env F H T DD hn mm g
  refine hc σ env F H T _ hn mm (Gd.imp (GdF.fl g) ?_)
  rintro ⟨t, e1⟩ g1 F1 H1 f1 k1 m1
  have g1 : GdF K W cl pr σ T F H DD (if t then a e1 else b e1) := g1
  cases t with
  | true => exact ha σ e1 F1 H1 T DD hn m1 (GdF.on (f := a e1) (by simpa using g1) f1 k1 Kept.refl)
  | false => exact hb σ e1 F1 H1 T DD hn m1 (GdF.on (f := b e1) (by simpa using g1) f1 k1 Kept.refl)
/-! ### loops -/
theorem sndS_for {mi : Env → R (List D × Env)} {wi : TI} {body : Env → Fl} {tb : TS} {tg : Tg} (hI : SndI K W cl n mi wi) (hb : SndS K W cl pr n body tb) (hs : ∀ i ∈ tg.slots, i < n) (hp : ∀ i ∈ tg.slots, i ∉ pr) :
    SndS K W cl pr n (fun env => (mi env).fl fun (xs, e1) => floop body tg xs e1) (L2.tFor wi (tgR K tg) tb) := by
  intro σ env F H T DD hn mm g
  refine hI σ env F H T _ hn mm (Gd.imp (GdF.fl g) ?_)
  rintro ⟨xs, e1⟩ g1 J F1 H1 f1 k1 m1 wk
  have g1 : GdF K W cl pr σ T F H DD (floop body tg xs e1) := g1
  let I := fun (i m : Nat) (σ' : L2.St) (H' : Hp) => ∃ F' e, m = xs.length - i ∧ i ≤ xs.length ∧ Same F1 F' ∧ (∀ a, T a → H' a = H1 a) ∧ Mem K F' H' T σ' e ∧ Kept pr σ σ' ∧ floop body tg (xs.drop i) e = floop body tg xs e1
  refine ⟨I, ⟨xs.length, F1, e1, by simp, Nat.zero_le _, Same.refl _, fun _ _ => rfl, m1, Kept.refl, by simp⟩, fun i m σ2 H2 hI => ?_⟩
  obtain ⟨F2, e, rfl, hi, s2, k2, m2, kp, hf⟩ := hI
  have hn2 : σ2.length = n := kp.1.trans hn
  have gd : GdF K W cl pr σ2 T F2 H2 DD (floop body tg (xs.drop i) e) := by
    rw [hf]
    exact GdF.on g1 (f1.trans s2) (fun a ha => (k2 a ha).trans (k1 a ha)) kp
  by_cases hlt : i < xs.length
  · obtain ⟨hgo, hy⟩ := wk.go i F2 H2 s2 m2.sub hlt
    refine .inr ⟨hgo, I (i + 1) (xs.length - (i + 1)), fun σ' H' h => ⟨_, by omega, h⟩, fun x H3 hx => ?_⟩
    obtain ⟨F3, d, n3, hd, rd⟩ := hy x H3 hx
    have m3 : Mem K F3 H3 T σ2 e := by
      have := m2.new n3
      rwa [Tp_nil] at this
    have kk : ∀ a, T a → H3 a = H2 a := fun a ha => by
      cases z : H2 a with
      | none => exact absurd z (m2.fr a ha).2
      | some o => exact n3.hs a o z
    have hxs : xs.drop i = d :: xs.drop (i + 1) := by
      rw [List.drop_eq_getElem_cons hlt]
      congr 1
      exact Option.some.inj ((List.getElem?_eq_getElem hlt).symm.trans hd)
    rw [hxs] at gd hf
    simp only [floop] at gd hf
    cases hset : setTg tg d e with
    | none => rw [hset] at gd; exact gd.elim
    | some e3 =>
      rw [hset] at gd hf
      dsimp only at gd hf
      refine tg_sem tg hset rd m3 (fun j hj => by rw [hn2]; exact hs j hj) fun σ3 m4 hl3 hk3 => ?_
      have kp3 : Kept pr σ2 σ3 := ⟨hl3, fun j hj => hk3 j fun z => hp j z hj⟩
      refine hb σ3 e3 F3 H3 T _ (hl3.trans hn2) m4 ?_
      have gd3 := GdF.on gd n3.fs kk kp3
      cases hbd : body e3 with
      | bad => rw [hbd] at gd3; exact gd3.elim
      | ret d' e' => rw [hbd] at gd3; exact gd3
      | exc c e' => rw [hbd] at gd3; exact gd3
      | nxt e4 =>
        rw [hbd] at hf
        intro σ4 F4 H4 f4 k4 m5 kp4
        exact ⟨F4, e4, rfl, hlt, s2.trans (n3.fs.trans f4), fun a ha => by rw [k4 a ha, kk a ha, k2 a ha], m5, kp.trans (kp3.trans kp4), hf⟩
  · have ei : i = xs.length := by omega
    subst ei
    refine .inl ⟨wk.stop xs.length F2 H2 s2 m2.sub (Nat.le_refl _), ?_⟩
    rw [List.drop_length] at gd
    exact gd σ2 F2 H2 (Same.refl _) (fun _ _ => rfl) m2 Kept.refl
theorem wloop_spec {c : Env → R (Bool × Env)} {body : Env → Fl} {e : Env} (h : wloop c body e ≠ .bad) : ∃ k, wloopN c body k e = some (wloop c body e) := by
  unfold wloop at h ⊢
  by_cases hx : ∃ n f, wloopN c body n e = some f
  · rw [dif_pos hx]
    exact ⟨_, Classical.choose_spec (Classical.choose_spec hx)⟩
  · rw [dif_neg hx] at h
    exact absurd rfl h
theorem sndS_whl {c : Env → R (Bool × Env)} {body : Env → Fl} {tc : TT} {tb : TS} (hc : SndT K W cl n c tc) (hb : SndS K W cl pr n body tb) : SndS K W cl pr n (wloop c body) (L2.tWhile tc tb) := by
  intro σ env F H T DD hn mm g
  have nb : wloop c body env ≠ .bad := fun z => by rw [z] at g; exact g
  obtain ⟨k, hk⟩ := wloop_spec nb
  refine ⟨fun m σ' H' => ∃ F' e, Same F F' ∧ (∀ a, T a → H' a = H a) ∧ Mem K F' H' T σ' e ∧ Kept pr σ σ' ∧ wloopN c body m e = some (wloop c body env), ⟨k, F, env, Same.refl _, fun _ _ => rfl, mm, Kept.refl, hk⟩, fun m σ2 H2 hI => ?_⟩
  obtain ⟨F2, e, s2, k2, m2, kp, hw⟩ := hI
  have hn2 : σ2.length = n := kp.1.trans hn
  cases m with
  | zero => cases hw
  | succ m =>
    have gd := GdF.on g s2 k2 kp
    refine hc σ2 e F2 H2 T _ hn2 m2 ?_
    simp only [wloopN] at hw
    cases hce : c e with
    | bad =>
      rw [hce] at hw
      exact nb (Option.some.inj hw).symm
    | exc c' e1 =>
      rw [hce] at hw
      rw [← Option.some.inj hw] at gd
      exact fun C F' H' h1 h2 h3 h4 => gd C σ2 F' H' h1 h2 h3 h4 Kept.refl
    | ok p =>
      obtain ⟨b, e1⟩ := p
      rw [hce] at hw
      intro F3 H3 f3 k3 m3
      cases b with
      | false =>
        dsimp only at hw
        rw [← Option.some.inj hw] at gd
        exact gd σ2 F3 H3 f3 k3 m3 Kept.refl
      | true =>
        dsimp only at hw
        refine ⟨fun σ' H' => ∃ F' e, Same F F' ∧ (∀ a, T a → H' a = H a) ∧ Mem K F' H' T σ' e ∧ Kept pr σ σ' ∧ wloopN c body m e = some (wloop c body env), fun σ' H' h => ⟨m, by omega, h⟩, ?_⟩
        refine hb σ2 e1 F3 H3 T _ hn2 m3 ?_
        have gd3 := GdF.on gd f3 k3 Kept.refl
        cases hbd : body e1 with
        | bad =>
          rw [hbd] at hw
          exact (nb (Option.some.inj hw).symm).elim
        | ret d' e' =>
          rw [hbd] at hw
          rw [← Option.some.inj hw] at gd3
          exact gd3
        | exc c' e' =>
          rw [hbd] at hw
          rw [← Option.some.inj hw] at gd3
          exact gd3
        | nxt e4 =>
          rw [hbd] at hw
          dsimp only at hw
          intro σ4 F4 H4 f4 k4 m5 kp4
          exact ⟨F4, e4, s2.trans (f3.trans f4), fun a ha => by rw [k4 a ha, k3 a ha, k2 a ha], m5, kp.trans kp4, hw⟩
/-! ### stores -/
theorem setD_int {d x y d' : D} (h : setD d x y = some d') : ∃ xs k, d = .lst true xs ∧ x = .int k := by
  cases d with
  | lst o xs =>
    cases o with
    | true => cases x <;> first | exact ⟨_, _, rfl, rfl⟩ | simp [setD] at h
    | false => simp [setD] at h
  | _ => simp [setD] at h
theorem set_non {st : List D} {d0 x y z d' : D} (h : modAt st d0 (fun d => (setD d x y).map fun d' => (.non, d')) = some (z, d')) : z = .non := by
  induction st generalizing d0 d' with
  | nil =>
    simp only [modAt, Option.map_eq_some_iff, Prod.mk.injEq] at h
    obtain ⟨_, _, h, _⟩ := h
    exact h.symm
  | cons a st ih =>
    rw [mod_cons] at h
    cases d0 with
    | lst o xs =>
      cases o with
      | true =>
        cases a with
        | int i =>
          simp only [modAt, Option.bind_eq_some_iff, Option.map_eq_some_iff, Prod.exists, Prod.mk.injEq] at h
          obtain ⟨j, _, e, _, y', w, h, rfl, _⟩ := h
          exact ih h
        | _ => simp [modAt] at h
      | false => cases a <;> simp [modAt] at h
    | tup xs =>
      cases a with
      | int i =>
        simp only [modAt, Option.bind_eq_some_iff, Option.map_eq_some_iff, Prod.exists, Prod.mk.injEq] at h
        obtain ⟨j, _, e, _, y', w, h, rfl, _⟩ := h
        exact ih h
      | _ => simp [modAt] at h
    | _ => cases a <;> simp [modAt] at h
theorem sndS_sti {i : Nat} {me mk : Env → R (D × Rt × Env)} {te tk : TE} {mp : D → Env → R (List D × D × Env)} {tp : TE} (he : SndE K W cl n me te) (hp : SndP K W cl n i mp tp) (hk : SndE K W cl n mk tk) :
    SndS K W cl pr n (fun env => (own (me env)).fl fun (y, e1) => match e1.getD i none with
      | none => .bad
      | some d0 => (mp d0 (e1.set i none)).fl fun (st, _, e2) => (own (mk e2)).fl fun (x, e3) =>
        ofEnv ((modAt st d0 fun d => (setD d x y).map fun d' => (.non, d')).map fun (_, d') => e3.set i (some d'))) (L2.tAsg te (L2.gSub tp tk L2.rSetL)) := by
  intro σ env F H T DD hn mm g
  refine he σ env F H T _ hn mm (Gd.imp (Gd.own (GdF.fl g)) ?_)
  rintro ⟨y, r, e1⟩ ⟨hr, g1⟩ vy F1 H1 Ly Lf1 o1
  have hr : r = none := hr
  subst hr
  have e := o1.all rfl
  subst e
  have g1 : GdF K W cl pr σ T F H DD (match e1.getD i none with
      | none => .bad
      | some d0 => (mp d0 (e1.set i none)).fl fun (st, _, e2) => (own (mk e2)).fl fun (x, e3) =>
        ofEnv ((modAt st d0 fun d => (setD d x y).map fun d' => (.non, d')).map fun (_, d') => e3.set i (some d'))) := g1
  cases hd : e1.getD i none with
  | none => rw [hd] at g1; exact g1.elim
  | some d0 =>
    rw [hd] at g1
    obtain ⟨v0, L0, h1, h2, h3, h4, h5⟩ := o1.mem.hide hd
    have g2 := GdF.fl g1
    refine hp σ (e1.set i none) F1 H1 (Tp (Tp T Ly) L0) _ v0 d0 L0 hn h5 h1 h2 (fun a ha => .inr ha) (Gd.imp (Gd.on g2 o1.fs o1.ks fun a ha => .inl (.inl ha)) ?_)
    rintro ⟨st, d1, e2⟩ g3 v1 F2 H2 f2 k2 m2 hs hv
    have g3 : GdF K W cl pr σ T F H DD ((own (mk e2)).fl fun (x, e3) =>
        ofEnv ((modAt st d0 fun d => (setD d x y).map fun d' => (.non, d')).map fun (_, d') => e3.set i (some d'))) := g3
    refine hk σ e2 F2 H2 (Tp (Tp T Ly) L0) _ hn m2 (Gd.imp (Gd.own (Gd.on (GdF.fl g3) (o1.fs.trans f2) (fun a ha => (k2 a (.inl (.inl ha))).trans (o1.ks a ha)) fun a ha => .inl (.inl ha))) ?_)
    rintro ⟨x, r, e3⟩ ⟨hr, g4⟩ vx F3 H3 Lx Lfx o3
    have g4 : GdF K W cl pr σ T F H DD (ofEnv ((modAt st d0 fun d => (setD d x y).map fun d' => (.non, d')).map fun (_, d') => e3.set i (some d'))) := g4
    cases hm : modAt st d0 fun d => (setD d x y).map fun d' => (.non, d') with
    | none => rw [hm] at g4; exact g4.elim
    | some p =>
      obtain ⟨z, d'⟩ := p
      rw [hm] at g4
      have ez := set_non hm
      subst ez
      have g4 : GdF K W cl pr σ T F H DD (.nxt (e3.set i (some d'))) := g4
      have r2 : Rep K F2 H2 v0 d0 L0 := h2.mono f2 fun a ha => k2 a (.inr ha)
      have r3 : Rep K F3 H3 v0 d0 L0 := r2.mono o3.fs fun a ha => o3.ks a (.inr ha)
      have ry : Rep K F3 H3 vy y Ly := (o1.rep.mono f2 fun a ha => k2 a (.inl (.inr ha))).mono o3.fs fun a ha => o3.ks a (.inl (.inr ha))
      obtain ⟨va, La, a1, _, _, _, a5, _⟩ := steps_sem st m2.sub r2 hs
      have e : va = v1 := Option.some.inj (a1.symm.trans hv)
      subst e
      refine set_core (T := T) (L0 := L0) (Ly := Ly) (e2 := e3) (Mem.weak o3.mem0 fun a ha => ?_) h1 r3 h3 (fun a ha z => h4 a ha (.inl z)) (fun a ha z => ?_) o1.nd ry o3.rep hm (a5 F3 H3 o3.fs o3.mem.sub fun a ha => o3.ks a (.inr ha)) fun H' kH mH => ?_
      · rcases ha with (ha | ha) | ha
        · exact .inl (.inl ha)
        · exact .inr ha
        · exact .inl (.inr ha)
      · rcases z with z | z
        · exact o1.nt a ha z
        · exact h4 a z (.inr ha)
      · exact g4 σ F3 H' ((o1.fs.trans f2).trans o3.fs) (fun a ha => by rw [kH a ha, o3.ks a (.inl (.inl ha)), k2 a (.inl (.inl ha)), o1.ks a ha]) mH Kept.refl
theorem augD_int {o : O2} {x y z : D} (h : augD o x y = some z) : (∃ i j, x = .int i ∧ y = .int j) := by
  cases o <;> cases x <;> cases y <;> first | exact ⟨_, _, rfl, rfl⟩ | simp [augD] at h
/-- += and -= of whole numbers -/
def ipOf : O2 → L2.TIp
  | .sub => L2.ipI fun i j => i - j
  | _ => L2.ipI fun i j => i + j
theorem ip_sem {o : O2} {x y z : D} {vx vy : V} {L M : List Addr} {Q : VK} (h : augD o x y = some z) (rx : Rep K F H vx x L) (ry : Rep K F H vy y M) (q : ∀ k, z = .int k → Q (.int k) H) : ipOf o vx vy H Q := by
  obtain ⟨i, j, rfl, rfl⟩ := augD_int h
  cases rx
  cases ry
  cases o with
  | sub =>
    simp only [augD, Option.some.injEq] at h
    exact ⟨i, j, rfl, rfl, q _ h.symm⟩
  | add =>
    simp only [augD, Option.some.injEq] at h
    exact ⟨i, j, rfl, rfl, q _ h.symm⟩
  | _ => simp [augD] at h
theorem sndS_aug {i : Nat} {o : O2} {me : Env → R (D × Rt × Env)} {te : TE} (he : SndE K W cl n me te) (hi : i < n) (hp : i ∉ pr) :
    SndS K W cl pr n (fun env => match env.getD i none with
      | some x => (own (me env)).fl fun (y, e1) => ofEnv ((augD o x y).map fun z => e1.set i (some z))
      | none => .bad) (L2.tAug i te (ipOf o)) := by
  intro σ env F H T DD hn mm g
  dsimp only at g
  cases hd : env.getD i none with
  | none => rw [hd] at g; exact g.elim
  | some x =>
    rw [hd] at g
    obtain ⟨v0, L0, h1, h2, h3, h4, h5⟩ := mm.hide hd
    refine ⟨v0, h1, ?_⟩
    have g := GdF.fl g
    refine he σ env F H T _ hn mm (Gd.imp (Gd.own g) ?_)
    rintro ⟨y, r, e1⟩ ⟨hr, g1⟩ vy F1 H1 Ly Lf1 o1
    have g1 : GdF K W cl pr σ T F H DD (ofEnv ((augD o x y).map fun z => e1.set i (some z))) := g1
    cases hz : augD o x y with
    | none => rw [hz] at g1; exact g1.elim
    | some z =>
      rw [hz] at g1
      obtain ⟨a, b, rfl, rfl⟩ := augD_int hz
      cases h2
      refine ip_sem hz (F := F1) (L := []) (.int a) o1.rep fun k ez => ?_
      subst ez
      have g1 : GdF K W cl pr σ T F H DD (.nxt (e1.set i (some (.int k)))) := g1
      exact g1 _ F1 H1 o1.fs o1.ks (Mem.put (L := []) (by rw [Tp_nil]; exact o1.mem0) (.int k) List.nodup_nil (fun a z => absurd z List.not_mem_nil) (by rw [hn]; exact hi)) (Kept.set hp)
end
/-- xs[i] of a list, by values -/
def gGet : V → V → Hp → VK → Prop := fun o i H Q => ∃ p xs k v, o = .ref p ∧ i = .int k ∧ H p = some (.lst xs) ∧ L2.atI xs k = some v ∧ Q v H
theorem get_list {X : L2.Cx} : L2.PGet X gGet := by
  intro pins s σ H o i ov iv Q I ro ri h
  obtain ⟨p, xs, k, z, rfl, rfl, hq, he, q⟩ := h
  cases ro
  obtain ⟨t, rfl⟩ := ri
  obtain ⟨its, r, pl, hz⟩ := I.list (.inl (.inl hq))
  obtain ⟨j, h1, h2, h3, h4, h5⟩ := L2.atI_get he
  obtain ⟨w, ew, rw'⟩ := r.get h2
  have hl := r.length
  have hn := L2.line63
  by_cases h0 : 0 ≤ k
  · have hj : k.toNat = j := by
      rw [seqIndex_of h0 h5] at h1
      exact Option.some.inj h1
    exact wpAny_getItem_list pl.isList h0 (by omega) (by rw [hj]; simpa using ew) ⟨z, H, I, rw', q⟩
  · have hj : (k + (its.toArray.size : Int)).toNat = j := by
      rw [seqIndex_neg (by omega) h4] at h1
      rw [List.size_toArray, ← hl]
      exact Option.some.inj h1
    exact wpAny_getItem_list_neg pl.isList (by omega) (by rw [List.size_toArray] <;> omega) (by omega) (by rw [hj]; simpa using ew) ⟨z, H, I, rw', q⟩
section
variable {K : PySem.W.Frag} {W : WX} {cl : Cl} {pr : List Nat} {n : Nat} {F F' H H' F1 H1 : Hp} {T : Addr → Prop} {σ σ1 : L2.St} {env : Env} {DD : Ends}
theorem sndS_aui {i : Nat} {o : O2} {me mk : Env → R (D × Rt × Env)} {te tk : TE} {mp : D → Env → R (List D × D × Env)} {tp : TE} (he : SndE K W cl n me te) (hp : SndP K W cl n i mp tp) (hk : SndE K W cl n mk tk) :
    SndS K W cl pr n (fun env => match env.getD i none with
      | none => .bad
      | some d0 => (mp d0 (env.set i none)).fl fun (st, d1, e2) => (own (mk e2)).fl fun (x, e3) => match idxD d1 x with
        | none => .bad
        | some w => if d1.isOwn then (own (me e3)).fl fun (y, e4) =>
          ofEnv ((augD o w y).bind fun z => (modAt st d0 fun d => (setD d x z).map fun d' => (.non, d')).map fun (_, d') => e4.set i (some d'))
          else .bad) (L2.tAugS tp tk te gGet (ipOf o) L2.rSetL) := by
  intro σ env F H T DD hn mm g
  dsimp only at g
  cases hd : env.getD i none with
  | none => rw [hd] at g; exact g.elim
  | some d0 =>
    rw [hd] at g
    obtain ⟨v0, L0, h1, h2, h3, h4, h5⟩ := mm.hide hd
    have g2 := GdF.fl g
    refine hp σ (env.set i none) F H (Tp T L0) _ v0 d0 L0 hn h5 h1 h2 (fun a ha => .inr ha) (Gd.imp (Gd.on g2 (Same.refl F) (fun _ _ => rfl) fun a ha => .inl ha) ?_)
    rintro ⟨st, d1, e2⟩ g3 v1 F2 H2 f2 k2 m2 hs hv
    have g3 : GdF K W cl pr σ T F H DD ((own (mk e2)).fl fun (x, e3) => match idxD d1 x with
        | none => .bad
        | some w => if d1.isOwn then (own (me e3)).fl fun (y, e4) =>
          ofEnv ((augD o w y).bind fun z => (modAt st d0 fun d => (setD d x z).map fun d' => (.non, d')).map fun (_, d') => e4.set i (some d'))
          else .bad) := g3
    refine hk σ e2 F2 H2 (Tp T L0) _ hn m2 (Gd.imp (Gd.own (Gd.on (GdF.fl g3) f2 (fun a ha => k2 a (.inl ha)) fun a ha => .inl ha)) ?_)
    rintro ⟨x, r, e3⟩ ⟨hr, g4⟩ vx F3 H3 Lx Lfx o3
    have g4 : GdF K W cl pr σ T F H DD (match idxD d1 x with
        | none => .bad
        | some w => if d1.isOwn then (own (me e3)).fl fun (y, e4) =>
          ofEnv ((augD o w y).bind fun z => (modAt st d0 fun d => (setD d x z).map fun d' => (.non, d')).map fun (_, d') => e4.set i (some d'))
          else .bad) := g4
    have r2 : Rep K F2 H2 v0 d0 L0 := h2.mono f2 fun a ha => k2 a (.inr ha)
    have r3 : Rep K F3 H3 v0 d0 L0 := r2.mono o3.fs fun a ha => o3.ks a (.inr ha)
    obtain ⟨va, La, a1, _, _, _, a5, _⟩ := steps_sem st m2.sub r2 hs
    have e : va = v1 := Option.some.inj (a1.symm.trans hv)
    subst e
    have hv3 := a5 F3 H3 o3.fs o3.mem.sub fun a ha => o3.ks a (.inr ha)
    obtain ⟨vb, Lb, b1, b2, b3, b4, b5, _⟩ := steps_sem st o3.mem.sub r3 hs
    have e : vb = va := Option.some.inj (b1.symm.trans hv3)
    subst e
    cases hw : idxD d1 x with
    | none => rw [hw] at g4; exact g4.elim
    | some w =>
      rw [hw] at g4
      have g4 : GdF K W cl pr σ T F H DD (if d1.isOwn then (own (me e3)).fl fun (y, e4) =>
          ofEnv ((augD o w y).bind fun z => (modAt st d0 fun d => (setD d x z).map fun d' => (.non, d')).map fun (_, d') => e4.set i (some d'))
          else .bad) := g4
      have hx : ∃ xs k, d1 = .lst true xs ∧ x = .int k := by
        split at g4
        · rename_i ho
          cases d1 with
          | lst o xs =>
            cases o with
            | true =>
              cases x with
              | int k => exact ⟨xs, k, rfl, rfl⟩
              | _ => simp [idxD] at hw
            | false => cases ho
          | _ => cases ho
        · exact g4.elim
      have g4 : GdF K W cl pr σ T F H DD ((own (me e3)).fl fun (y, e4) =>
          ofEnv ((augD o w y).bind fun z => (modAt st d0 fun d => (setD d x z).map fun d' => (.non, d')).map fun (_, d') => e4.set i (some d'))) := by
        obtain ⟨xs, k, rfl, rfl⟩ := hx
        exact g4
      -- the old item
      have old : ∀ (Q : VK), (∀ u L, Rep K F3 H3 u w L → Q u H3) → (∃ xs k, d1 = .lst true xs ∧ x = .int k) → gGet vb vx H3 Q := fun Q q hx => by
        obtain ⟨xs, k, rfl, rfl⟩ := hx
        obtain ⟨l, vs, M, rfl, rfl, hl, rs⟩ := own_inv b2
        have rk := o3.rep
        cases rk
        simp only [idxD, atI] at hw
        cases hj : ixN xs.length k with
        | none => rw [hj] at hw; cases hw
        | some j =>
          rw [hj] at hw
          obtain ⟨u, A, B, C, p1, p2, p3, _, _⟩ := rs.at (j := j) hw
          refine ⟨l, vs, k, u, rfl, rfl, hl, ?_, q u B p3⟩
          rw [atI_eq]
          unfold atI
          rw [rs.length, hj]
          exact p1
      have gE := Gd.own (GdF.fl g4)
      -- is it a list that is changed?
      have main : ∀ (hx : ∃ xs k, d1 = .lst true xs ∧ x = .int k), gGet vb vx H3 fun xv H4 => te σ H4 fun yv H5 => ipOf o xv yv H5 fun zv H6 => L2.rSetL vb vx zv H6 fun H7 => DD.nx σ H7 := fun hx => by
        refine old _ (fun u Lu ru => ?_) hx
        refine he σ e3 F3 H3 (Tp T L0) _ hn o3.mem0 (Gd.imp (Gd.on gE (f2.trans o3.fs) (fun a ha => (o3.ks a (.inl ha)).trans (k2 a (.inl ha))) fun a ha => .inl ha) ?_)
        rintro ⟨y, r, e4⟩ ⟨hr, g5⟩ vy F4 H4 Ly Lfy o4
        have g5 : GdF K W cl pr σ T F H DD (ofEnv ((augD o w y).bind fun z => (modAt st d0 fun d => (setD d x z).map fun d' => (.non, d')).map fun (_, d') => e4.set i (some d'))) := g5
        cases hz : augD o w y with
        | none => rw [hz] at g5; exact g5.elim
        | some z =>
          rw [hz] at g5
          obtain ⟨a, b, ea, eb⟩ := augD_int hz
          subst ea eb
          cases ru
          refine ip_sem hz (F := F4) (L := []) (.int a) o4.rep fun k ez => ?_
          subst ez
          simp only [Option.bind_some] at g5
          cases hm : modAt st d0 fun d => (setD d x (.int k)).map fun d' => (.non, d') with
          | none => rw [hm] at g5; exact g5.elim
          | some p =>
            obtain ⟨z, d'⟩ := p
            rw [hm] at g5
            have ez := set_non hm
            subst ez
            have g5 : GdF K W cl pr σ T F H DD (.nxt (e4.set i (some d'))) := g5
            have r4 : Rep K F4 H4 v0 d0 L0 := r3.mono o4.fs fun a ha => o4.ks a (.inr ha)
            have rx4 : Rep K F4 H4 vx x [] := by
              obtain ⟨_, kk, _, rfl⟩ := hx
              have rk := o3.rep
              cases rk
              exact .int kk
            refine set_core (T := T) (L0 := L0) (Ly := []) (e2 := e4) (by rw [Tp_nil]; exact o4.mem0) h1 r4 h3 h4 (fun a z => absurd z List.not_mem_nil) List.nodup_nil (.int k) rx4 hm (b5 F4 H4 o4.fs o4.mem.sub fun a ha => o4.ks a (.inr ha)) fun H' kH mH => ?_
            exact g5 σ F4 H' ((f2.trans o3.fs).trans o4.fs) (fun a ha => by rw [kH a ha, o4.ks a (.inl ha), o3.ks a (.inl ha), k2 a (.inl ha)]) mH Kept.refl
      exact main hx
end
end VI

set_option maxRecDepth 100000
set_option maxHeartbeats 4000000
/-! VI.Sound13: does an IR text stand for a piece of syntax? -/
namespace VI
open PySem PySem.Spec PyProof.Rows

/-- what a text may lean on: its constants' names, its defs, the names by slot -/
structure MX where
  G : String → C → Bool
  P : Prg
  N : List Str
  X : String → Bool
def notDbg (x : Str) : Bool := !(x == ("__debug__" : Str))
def visB (sc : Scope) (x : Str) : Bool := match sc.names.lookup x with
  | some .local => true
  | some .cell => true
  | some .free => true
  | _ => false
def glB (sc : Scope) (x : Str) : Bool := sc.names.lookup x == some .globalImplicit
def nmB (M : MX) (sc : Scope) (i : Nat) (x : Str) : Bool := (M.N[i]? == some x) && visB sc x && notDbg x && !(x == ("__classdict__" : Str))
def cB : C → Const → Bool
  | .non, .none => true
  | .bl b, .bool c => b == c
  | .int i, .int j => i == j
  | .str s, .str x => Str.ofString s == x
  | _, _ => false
/-- a name that may be stored: a local one, or a cell of its own -/
def stB (own sc : Scope) (x : Str) : Bool := (sc.names.lookup x == some .local) || (sc.names.lookup x == some .cell && own.names.lookup x == some .cell)
def snB (M : MX) (own sc : Scope) (i : Nat) : Expr → Bool
  | .Name x _ => (M.N[i]? == some x) && stB own sc x
  | _ => false
def snsB (M : MX) (own sc : Scope) : List Nat → List Expr → Bool
  | [], [] => true
  | i :: is, e :: es => snB M own sc i e && snsB M own sc is es
  | _, _ => false
def tgB (M : MX) (own sc : Scope) : Tg → Expr → Bool
  | .one i, e => snB M own sc i e
  | .many is, .Tuple es _ _ => snsB M own sc is es
  | _, _ => false
def gl2 (sc : Scope) (nm x : Str) : Bool := (x == nm) && glB sc x && notDbg x
def boOf : Bool → PySem.BoolOp
  | true => .And
  | false => .Or
def Es.isNil : Es → Bool
  | .nil => true
  | _ => false
def Ags.len : Ags → Nat
  | .nil => 0
  | .v _ r => r.len + 1
  | .io _ r => r.len + 1
def ownOf (M : MX) (tg : Tg) : List (Str × Nat) := tg.slots.map fun i => (M.N.getD i ⟨#[]⟩, i)
/-- the kinds of syntax that are met -/
def synK : Expr → Bool
  | .Name _ _ => true | .Constant _ _ _ => true | .UnaryOp _ _ _ => true | .BinOp _ _ _ _ => true | .Compare _ _ _ _ => true | .BoolOp _ _ _ => true
  | .Subscript _ _ _ => true | .Tuple _ _ _ => true | .List _ _ => true | .Call _ _ _ _ => true | .ListComp _ _ _ _ => true
  | _ => false
mutual
def mE (M : MX) : Scope → E → Expr → Bool
  | sc, .nm _ i, .Name x _ => nmB M sc i x
  | sc, .cst c, .Constant k _ _ => cB c k
  | sc, .glc g c, .Name x _ => gl2 sc (Str.ofString g) x && M.G g c
  | sc, .op1 .neg a, .UnaryOp .USub pa _ => mE M sc a pa
  | sc, .op1 .not_ a, .UnaryOp .Not pa _ => mE M sc a pa
  | sc, .op2 o a b, .BinOp pa op pb _ => (op == opOf o) && mE M sc a pa && mE M sc b pb
  | sc, .cmp o a b, .Compare pa [op] [pb] _ => (op == cmpOf o) && mE M sc a pa && mE M sc b pb
  | sc, .chn o o' a b c, .Compare pa [op, op'] [pb, pc] _ => (op == cmpOf o) && (op' == cmpOf o') && mE M sc a pa && mE M sc b pb && mE M sc c pc
  | sc, .boo k es, .BoolOp op vs _ => (op == boOf k) && !es.isNil && mEs M sc es vs
  | sc, .idx a b, .Subscript pa pb _ => mE M sc a pa && mE M sc b pb
  | sc, .slc a lo hi, .Subscript pa (.Slice pl ph none _) _ => mE M sc a pa && mEo M sc lo pl && mEo M sc hi ph
  | sc, .rev a, .Subscript pa sl _ => mE M sc a pa && (match sl with
    | .Slice none none (some (.UnaryOp .USub (.Constant (.int 1) _ _) _)) _ => true
    | _ => false)
  | sc, .tup es, .Tuple ps _ _ => mEs M sc es ps
  | sc, .lst es, .List ps _ => mEs M sc es ps
  | sc, .frz a, p => mE M sc a p
  | sc, .bc1 f a, .Call (.Name x _) [pa] [] _ => gl2 sc (b1Name f) x && mE M sc a pa
  | sc, .bc2 f a b, .Call (.Name x _) [pa, pb] [] _ => gl2 sc (b2Name f) x && mE M sc a pa && mE M sc b pb
  | sc, .isi t a, .Call (.Name x _) [pa, pb] [] _ => gl2 sc "isinstance" x && mE M sc a pa && (match pb with
    | .Name y _ => gl2 sc (Str.ofString (tyNm t)) y
    | _ => false)
  | sc, .call f as, .Call (.Name x _) ps [] _ => gl2 sc (Str.ofString f) x && (match as with | .nil => false | _ => true) && mAs M sc as ps && (match M.P f with | some fn => (as.iop 0 == fn.io) && (as.len == fn.np) | none => false)
  | sc, .comp e tg it c, .ListComp pe [g] scope _ => (g.is_async == 0) && mE M (L2.relS scope sc) e pe && tgB M scope (L2.relS scope sc) tg g.target && mI M sc g.target it g.iter && L2.blkC M.N sc scope (ownOf M tg) && (match c, g.ifs with
      | .none, [] => true
      | .some d, [pd] => mE M (L2.relS scope sc) d pd
      | _, _ => false)
  | sc, .mut m i p as, .Call (.Attribute po nm apos) ps [] cpos => mP M sc i p po && (nm == muName m) && mEs M sc as ps && (apos.endLine == cpos.line) && decide (ps.length < 20) && (match p with | .nil => true | .ix _ _ => true)
  | _, .dead, p => synK p
  | _, _, _ => false
def mEs (M : MX) : Scope → Es → List Expr → Bool
  | _, .nil, [] => true
  | sc, .cons e r, p :: ps => mE M sc e p && mEs M sc r ps
  | _, _, _ => false
def mEo (M : MX) : Scope → Eo → Option Expr → Bool
  | _, .none, none => true
  | sc, .some e, some p => mE M sc e p
  | _, _, _ => false
def mAs (M : MX) : Scope → Ags → List Expr → Bool
  | _, .nil, [] => true
  | sc, .v e r, p :: ps => mE M sc e p && mAs M sc r ps
  | sc, .io i r, .Name x _ :: ps => nmB M sc i x && mAs M sc r ps
  | _, _, _ => false
def mP (M : MX) : Scope → Nat → Pth → Expr → Bool
  | sc, i, .nil, .Name x _ => nmB M sc i x
  | sc, i, .ix r e, .Subscript pa pb _ => mP M sc i r pa && mE M sc e pb
  | _, _, _, _ => false
def mI (M : MX) : Scope → Expr → It → Expr → Bool
  | sc, _, .seq e, p => mE M sc e p
  | sc, _, .rg1 a, .Call (.Name x _) [pa] [] _ => gl2 sc "range" x && mE M sc a pa
  | sc, _, .rg2 a b, .Call (.Name x _) [pa, pb] [] _ => gl2 sc "range" x && mE M sc a pa && mE M sc b pb
  | sc, _, .rg3 a b c, .Call (.Name x _) [pa, pb, pc] [] _ => gl2 sc "range" x && mE M sc a pa && mE M sc b pb && mE M sc c pc
  | sc, .Tuple _ _ _, .enu a, .Call (.Name x _) [pa] [] _ => gl2 sc "enumerate" x && mE M sc a pa
  | sc, .Tuple _ _ _, .zip a b, .Call (.Name x _) [pa, pb] [] _ => gl2 sc "zip" x && mE M sc a pa && mE M sc b pb
  | _, _, _, _ => false
end
def isLC : Expr → Bool
  | .ListComp _ _ _ _ => true
  | _ => false
def isTup : Expr → Bool
  | .Tuple _ _ _ => true
  | _ => false
def raB (M : MX) (sc : Scope) (c m : String) : Expr → Bool
  | .Call (.Name x _) [.Constant (.str y) _ _] [] _ => gl2 sc (Str.ofString c) x && (y == Str.ofString m) && M.X c
  | _ => false
def unB (M : MX) (sc : Scope) (is : List Nat) : Expr → Bool
  | .Tuple ts _ _ => snsB M sc sc is ts
  | _ => false
def subB (M : MX) (sc : Scope) (i : Nat) (q : Pth) (k : E) : Expr → Bool
  | .Subscript po pk _ => mP M sc i q po && mE M sc k pk
  | _ => false
def augB : O2 → Bool
  | .add => true
  | .sub => true
  | _ => false
mutual
def mS (M : MX) (pr : List Nat) : Scope → S → Stmt → Bool
  | sc, .asg i e, .Assign [t] p _ => snB M sc sc i t && decide (i ∉ pr) && decide (i < M.N.length) && mE M sc e p
  | sc, .unp is e, .Assign [t] p _ => unB M sc is t && decide (∀ i ∈ is, i ∉ pr) && decide (∀ i ∈ is, i < M.N.length) && mE M sc e p && !isTup p
  | sc, .sti i q k e, .Assign [t] p _ => subB M sc i q k t && mE M sc e p
  | sc, .aug i o e, .AugAssign t op p _ => snB M sc sc i t && decide (i ∉ pr) && decide (i < M.N.length) && (op == opOf o) && augB o && mE M sc e p
  | sc, .aui i q k o e, .AugAssign t op p _ => subB M sc i q k t && (op == opOf o) && augB o && mE M sc e p
  | sc, .exp e, .Expr p _ => mE M sc e p && !isLC p
  | sc, .ife c a b, .If pc pa pb _ => mE M sc c pc && mSs M pr sc a pa && mSs M pr sc b pb
  | sc, .for_ tg it b, .For ptg pit pb [] _ => tgB M sc sc tg ptg && decide (∀ i ∈ tg.slots, i ∉ pr) && decide (∀ i ∈ tg.slots, i < M.N.length) && mI M sc ptg it pit && mSs M pr sc b pb
  | sc, .whl c b, .While pc pb [] _ => mE M sc c pc && mSs M pr sc b pb
  | sc, .ret e, .Return (some p) _ => mE M sc e p
  | _, .retn, .Return none _ => true
  | _, .pas, .Pass _ => true
  | sc, .rai c m, .Raise (some e) none _ => raB M sc c m e
  | _, .dead, _ => true
  | _, _, _ => false
def mSs (M : MX) (pr : List Nat) : Scope → Ss → List Stmt → Bool
  | _, .nil, [] => true
  | sc, .cons s r, p :: ps => mS M pr sc s p && mSs M pr sc r ps
  | _, .dead, _ => true
  | _, _, _ => false
end
/-- facts of a piece of syntax that do not hang on where it stands -/
structure Syn (p : Expr) : Prop where
  st : ∀ es env, starEach (p :: es) env = (false, eval p env) :: starEach es env
  ix : L2.PlainIx p
  nb : ∀ op, behindInMarks op p = false
  fs : ∀ env x, foldedSetIterable p env x = pure x
  swS : ∀ o i q l env, swapsWith p (some (.Subscript o i q)) l env = pure false
  swT : ∀ es k q l env, swapsWith p (some (.Tuple es k q)) l env = pure false
  stS : ∀ o i q env, swappedStores [.Subscript o i q] p env = pure none
  stT : isTup p = false → ∀ es k q env, swappedStores [.Tuple es k q] p env = pure none
  sw : isLC p = false → ∀ t l env, swapsWith p t l env = pure false
  ab : ∀ nm env, (match p with | .Call _ [] [] _ => false | _ => true) = true → attributeBase p nm env (eval p env) = eval p env
  en : ∀ env, (assignEach [p] env).map (·.2) = [assign p env] ∧ (assignEach [p] env).map (·.1) = [false]
theorem syn_of : ∀ p : Expr, synK p = true → Syn p
  | .Name _ _, _ => ⟨fun _ _ => rfl, fun _ _ => rfl, fun _ => rfl, fun _ _ => rfl, fun _ _ _ _ _ => rfl, fun _ _ _ _ _ => rfl, fun _ _ _ _ => rfl, fun _ _ _ _ _ => rfl, fun _ _ _ _ => rfl, fun _ _ _ => rfl, fun _ => ⟨rfl, rfl⟩⟩
  | .Constant _ _ _, _ => ⟨fun _ _ => rfl, fun _ _ => rfl, fun _ => rfl, fun _ _ => rfl, fun _ _ _ _ _ => rfl, fun _ _ _ _ _ => rfl, fun _ _ _ _ => rfl, fun _ _ _ _ _ => rfl, fun _ _ _ _ => rfl, fun _ _ _ => rfl, fun _ => ⟨rfl, rfl⟩⟩
  | .UnaryOp _ _ _, _ => ⟨fun _ _ => rfl, fun _ _ => rfl, fun _ => rfl, fun _ _ => rfl, fun _ _ _ _ _ => rfl, fun _ _ _ _ _ => rfl, fun _ _ _ _ => rfl, fun _ _ _ _ _ => rfl, fun _ _ _ _ => rfl, fun _ _ _ => rfl, fun _ => ⟨rfl, rfl⟩⟩
  | .BinOp _ _ _ _, _ => ⟨fun _ _ => rfl, fun _ _ => rfl, fun _ => rfl, fun _ _ => rfl, fun _ _ _ _ _ => rfl, fun _ _ _ _ _ => rfl, fun _ _ _ _ => rfl, fun _ _ _ _ _ => rfl, fun _ _ _ _ => rfl, fun _ _ _ => rfl, fun _ => ⟨rfl, rfl⟩⟩
  | .Compare _ _ _ _, _ => ⟨fun _ _ => rfl, fun _ _ => rfl, fun _ => rfl, fun _ _ => rfl, fun _ _ _ _ _ => rfl, fun _ _ _ _ _ => rfl, fun _ _ _ _ => rfl, fun _ _ _ _ _ => rfl, fun _ _ _ _ => rfl, fun _ _ _ => rfl, fun _ => ⟨rfl, rfl⟩⟩
  | .BoolOp _ _ _, _ => ⟨fun _ _ => rfl, fun _ _ => rfl, fun _ => rfl, fun _ _ => rfl, fun _ _ _ _ _ => rfl, fun _ _ _ _ _ => rfl, fun _ _ _ _ => rfl, fun _ _ _ _ _ => rfl, fun _ _ _ _ => rfl, fun _ _ _ => rfl, fun _ => ⟨rfl, rfl⟩⟩
  | .Subscript _ _ _, _ => ⟨fun _ _ => rfl, fun _ _ => rfl, fun _ => rfl, fun _ _ => rfl, fun _ _ _ _ _ => rfl, fun _ _ _ _ _ => rfl, fun _ _ _ _ => rfl, fun _ _ _ _ _ => rfl, fun _ _ _ _ => rfl, fun _ _ _ => rfl, fun _ => ⟨rfl, rfl⟩⟩
  | .Tuple _ _ _, _ => ⟨fun _ _ => rfl, fun _ _ => rfl, fun _ => rfl, fun _ _ => rfl, fun _ _ _ _ _ => rfl, fun _ _ _ _ _ => rfl, fun _ _ _ _ => rfl, (fun h => by cases h), fun _ _ _ _ => rfl, fun _ _ _ => rfl, fun _ => ⟨rfl, rfl⟩⟩
  | .List _ _, _ => ⟨fun _ _ => rfl, fun _ _ => rfl, fun _ => rfl, fun _ _ => rfl, fun _ _ _ _ _ => rfl, fun _ _ _ _ _ => rfl, fun _ _ _ _ => rfl, fun _ _ _ _ _ => rfl, fun _ _ _ _ => rfl, fun _ _ _ => rfl, fun _ => ⟨rfl, rfl⟩⟩
  | .Call f as ks p, _ => ⟨fun _ _ => rfl, fun _ _ => rfl, fun _ => rfl, fun _ _ => rfl, fun _ _ _ _ _ => rfl, fun _ _ _ _ _ => rfl, fun _ _ _ _ => rfl, fun _ _ _ _ _ => rfl, fun _ _ _ _ => rfl, (fun nm env h => by
      cases as with
      | nil =>
        cases ks with
        | nil => cases h
        | cons k ks => cases f <;> rfl
      | cons a as => cases f <;> rfl), fun _ => ⟨rfl, rfl⟩⟩
  | .ListComp _ _ _ _, _ => ⟨fun _ _ => rfl, fun _ _ => rfl, fun _ => rfl, fun _ _ => rfl, fun _ _ _ _ _ => rfl, fun _ _ _ _ _ => rfl, fun _ _ _ _ => rfl, fun _ _ _ _ _ => rfl, (fun h => by cases h), fun _ _ _ => rfl, fun _ => ⟨rfl, rfl⟩⟩
theorem mE_syn (M : MX) : ∀ (m : E) (sc : Scope) (p : Expr), mE M sc m p = true → synK p = true
  | .frz a, sc, p, h => mE_syn M a sc p (by simpa [mE] using h)
  | .nm _ _, sc, p, h => by cases p <;> first | rfl | simp [mE] at h
  | .cst _, sc, p, h => by cases p <;> first | rfl | simp [mE] at h
  | .glc _ _, sc, p, h => by cases p <;> first | rfl | simp [mE] at h
  | .op1 o _, sc, p, h => by cases p <;> first | rfl | (cases o <;> simp [mE] at h)
  | .op2 _ _ _, sc, p, h => by cases p <;> first | rfl | simp [mE] at h
  | .cmp _ _ _, sc, p, h => by cases p <;> first | rfl | simp [mE] at h
  | .chn _ _ _ _ _, sc, p, h => by cases p <;> first | rfl | simp [mE] at h
  | .boo _ _, sc, p, h => by cases p <;> first | rfl | simp [mE] at h
  | .idx _ _, sc, p, h => by cases p <;> first | rfl | simp [mE] at h
  | .slc _ _ _, sc, p, h => by cases p <;> first | rfl | simp [mE] at h
  | .rev _, sc, p, h => by cases p <;> first | rfl | simp [mE] at h
  | .tup _, sc, p, h => by cases p <;> first | rfl | simp [mE] at h
  | .lst _, sc, p, h => by cases p <;> first | rfl | simp [mE] at h
  | .bc1 _ _, sc, p, h => by cases p <;> first | rfl | simp [mE] at h
  | .bc2 _ _ _, sc, p, h => by cases p <;> first | rfl | simp [mE] at h
  | .isi _ _, sc, p, h => by cases p <;> first | rfl | simp [mE] at h
  | .call _ _, sc, p, h => by cases p <;> first | rfl | simp [mE] at h
  | .comp _ _ _ _, sc, p, h => by cases p <;> first | rfl | simp [mE] at h
  | .mut _ _ _ _, sc, p, h => by cases p <;> first | rfl | simp [mE] at h
  | .dead, sc, p, h => by simpa [mE] using h
end VI

set_option maxRecDepth 100000
set_option maxHeartbeats 4000000
/-! VI.Sound14: every expression's IR is sound. -/
namespace VI
open PySem PySem.Spec PyProof.Rows
open L2 (V Hp HO SqL SqT Same upd upd_same upd_ne RelV Vals VK WX OpR R2 CallR TE TT TA TS TG TGs TI TO It PE PT PA PI PO tOp tUn Ends)

def bltNames : List Str := ["len", "int", "bool", "list", "tuple", "sum", "max", "min", "abs", "isinstance", "str", "range", "enumerate", "zip", "dict", "set", "sorted", "repr"]
/-- an exception's class of the program's own -/
structure XF (K : PySem.W.Frag) (mg : Str → Option Value) (c : String) (C : Addr) : Prop where
  at_ : mg (Str.ofString c) = some (.ref C)
  ex : ∃ B newId initId bmB, ExcBaseFacts B newId initId bmB ∧ PySem.W.excIn K C bmB newId = true
  kp : PySem.W.keepIn K (.ref C) = true
  sb : PySem.W.subIn K (.ref C) (.type "BaseException") = some true
  ty : PySem.W.typeIn K (.ref C) = some (.type "type")
/-- what the module's part gives -/
structure MG (M : MX) (cl : Cl) (k : Nat) (prog : Program) (w : World) (K : PySem.W.Frag) (mg : Str → Option Value) (base : Heap) : Prop where
  nd : M.N.Nodup
  blt : ∀ x ∈ bltNames, mg x = none
  glc : ∀ g c, M.G g c = true → ∃ u, mg (Str.ofString g) = some u ∧ RelV (cV c) u
  xc : ∀ c, M.X c = true → ∃ C, cl c = some C ∧ XF K mg c C
  fn : ∀ f fn, M.P f = some fn → ∃ fa fd ps, mg (Str.ofString f) = some (.ref fa) ∧ PySem.W.keepIn K (.ref fa) = true ∧ L2.Binds K fd ps [] ∧ L2.FnOk prog w K mg base (L2.CX prog w) k fa fd ps (spF K cl M.P k f)
structure XG (M : MX) (k : Nat) (prog : Program) (w : World) (K : PySem.W.Frag) (mg : Str → Option Value) (base : Heap) (X : L2.Cx) (sc : Scope) (W : WX) : Prop where
  eP : X.prog = prog
  ew : X.w = w
  eK : X.K = K
  em : X.mg = mg
  eb : X.base = base
  eN : X.N = M.N
  sc : X.env.scope = sc
  calm : X.calm = true
  room : L2.Room k X.A
  tk : L2.Takes X W
/-- the IR m stands for p -/
structure OkE (M : MX) (cl : Cl) (k : Nat) (prog : Program) (w : World) (K : PySem.W.Frag) (mg : Str → Option Value) (base : Heap) (W : WX) (sc : Scope) (m : Env → R (D × Rt × Env)) (p : Expr) : Prop where
  ev : ∃ t, (∀ X, XG M k prog w K mg base X sc W → PE X p t) ∧ SndE K W cl M.N.length m t
  et : ∃ t, (∀ X, XG M k prog w K mg base X sc W → PT X p t) ∧ SndT K W cl M.N.length (fun env => asBl (m env)) t
section
variable {M : MX} {cl : Cl} {k : Nat} {prog : Program} {w : World} {K : PySem.W.Frag} {mg : Str → Option Value} {base : Heap} {W : WX} {sc : Scope} {X : L2.Cx} {m : Env → R (D × Rt × Env)} {p : Expr}
/-- where its truth is its value's -/
theorem OkE.of (h : ∃ t, (∀ X, XG M k prog w K mg base X sc W → PE X p t) ∧ SndE K W cl M.N.length m t) (ht : ∀ env whole, isTrue p env whole = (do let v ← whole; standAt p.pos; holding [v] (truthy v))) : OkE M cl k prog w K mg base W sc m p := by
  obtain ⟨t, h1, h2⟩ := h
  exact ⟨⟨t, h1, h2⟩, ⟨_, fun X hx => L2.pt_val (h1 X hx) (ht _), snd_bl h2⟩⟩
theorem XG.gl (hx : XG M k prog w K mg base X sc W) {nm x : Str} (h : gl2 sc nm x = true) : x = nm ∧ L2.Gl X x ∧ (x == ("__debug__" : Str)) = false := by
  simp only [gl2, glB, notDbg, Bool.and_eq_true, beq_iff_eq, Bool.not_eq_true'] at h
  refine ⟨h.1.1, ?_, h.2⟩
  show X.env.scope.names.lookup x = _
  rw [hx.sc]
  exact h.1.2
theorem XG.nm (hx : XG M k prog w K mg base X sc W) {i : Nat} {x : Str} {pos : Pos} (h : nmB M sc i x = true) : PE X (.Name x pos) (L2.tVar i) := by
  simp only [nmB, notDbg, Bool.and_eq_true, beq_iff_eq, Bool.not_eq_true'] at h
  obtain ⟨⟨⟨h1, h2⟩, h3⟩, h4⟩ := h
  refine L2.pe_var (by rw [hx.eN]; exact h1) ?_ h3 h4
  rw [hx.sc]
  unfold visB at h2
  split at h2
  · exact .inl (by assumption)
  · exact .inr (.inl (by assumption))
  · exact .inr (.inr (by assumption))
  · cases h2
theorem b1_name (f : B1) : b1Name f ∈ bltNames ∧ bootBuiltins (b1Name f) = some (b1Val f) ∧ b1Name f ≠ "__name__" := by
  cases f <;> decide +kernel
theorem b2_name (f : B2) : b2Name f ∈ bltNames ∧ bootBuiltins (b2Name f) = some (b2Val f) ∧ b2Name f ≠ "__name__" := by
  cases f <;> decide +kernel
theorem XG.b1 (hG : MG M cl k prog w K mg base) (hx : XG M k prog w K mg base X sc W) {f : B1} {x : Str} {pa : Expr} {ta : TE} {q pos : Pos} (h : gl2 sc (b1Name f) x = true) (ha : PE X pa ta) (hs : Syn pa) :
    PE X (.Call (.Name x q) [pa] [] pos) (L2.tCB (rb1 K f) (L2.tCons ta L2.tNil)) := by
  obtain ⟨rfl, hg, hd⟩ := hx.gl h
  obtain ⟨n1, n2, n3⟩ := b1_name f
  have hm : X.mg (b1Name f) = none := by
    rw [hx.em]
    exact hG.blt _ n1
  have hK := hx.eK
  have hok := b1_ok hx.calm f
  rw [hK] at hok
  have hpa : PA X [pa] (L2.tCons ta L2.tNil) := L2.pa_cons ha L2.pa_nil (hs.st _ _)
  cases f with
  | len => exact L2.pe_callB hok hg hm n2 hpa n3 hd (hs.st _ _) rfl
  | int => exact L2.pe_callTy hok hg hm n2 hpa n3 hd (hs.st _ _) rfl
  | bool => exact L2.pe_callTy hok hg hm n2 hpa n3 hd (hs.st _ _) rfl
  | list => exact L2.pe_callTy hok hg hm n2 hpa n3 hd (hs.st _ _) rfl
  | tuple => exact L2.pe_callTy hok hg hm n2 hpa n3 hd (hs.st _ _) rfl
  | sum => exact L2.pe_callB hok hg hm n2 hpa n3 hd (hs.st _ _) rfl
  | max => exact L2.pe_callB hok hg hm n2 hpa n3 hd (hs.st _ _) rfl
  | min => exact L2.pe_callB hok hg hm n2 hpa n3 hd (hs.st _ _) rfl
  | abs => exact L2.pe_callB hok hg hm n2 hpa n3 hd (hs.st _ _) rfl
theorem XG.b2 (hG : MG M cl k prog w K mg base) (hx : XG M k prog w K mg base X sc W) {f : B2} {x : Str} {pa pb : Expr} {ta tb : TE} {q pos : Pos} (h : gl2 sc (b2Name f) x = true) (ha : PE X pa ta) (hb : PE X pb tb) (hs : Syn pa) (hs' : Syn pb) :
    PE X (.Call (.Name x q) [pa, pb] [] pos) (L2.tCB (rb2 f) (L2.tCons ta (L2.tCons tb L2.tNil))) := by
  obtain ⟨rfl, hg, hd⟩ := hx.gl h
  obtain ⟨n1, n2, n3⟩ := b2_name f
  have hm : X.mg (b2Name f) = none := by
    rw [hx.em]
    exact hG.blt _ n1
  have hok := b2_ok hx.calm f
  have hpa : PA X [pa, pb] (L2.tCons ta (L2.tCons tb L2.tNil)) := L2.pa_cons ha (L2.pa_cons hb L2.pa_nil (hs'.st _ _)) (hs.st _ _)
  have hpl : (backTo pos (starEach [pb] X.env)).any (·.1) = false := by
    rw [hs'.st]
    rfl
  cases f with
  | max => exact L2.pe_callB hok hg hm n2 hpa n3 hd (hs.st _ _) hpl
  | min => exact L2.pe_callB hok hg hm n2 hpa n3 hd (hs.st _ _) hpl
theorem XG.isi (hG : MG M cl k prog w K mg base) (hx : XG M k prog w K mg base X sc W) {t : Ty} {x y : Str} {pa : Expr} {ta : TE} {q q' pos : Pos} (h : gl2 sc "isinstance" x = true) (h' : gl2 sc (Str.ofString (tyNm t)) y = true) (ha : PE X pa ta) (hs : Syn pa) :
    PE X (.Call (.Name x q) [pa, .Name y q'] [] pos) (L2.tCB (L2.rIsi K) (L2.tCons ta (L2.tCons (L2.tC (.ty (tyNm t))) L2.tNil))) := by
  obtain ⟨rfl, hg, hd⟩ := hx.gl h
  obtain ⟨rfl, hg', hd'⟩ := hx.gl h'
  have hm : X.mg "isinstance" = none := by
    rw [hx.em]
    exact hG.blt _ (by decide +kernel)
  have facts : Str.ofString (tyNm t) ∈ bltNames ∧ bootBuiltins (Str.ofString (tyNm t)) = some (.type (tyNm t)) ∧ Str.ofString (tyNm t) ≠ "__name__" := by
    cases t <;> decide +kernel
  have hm' : X.mg (Str.ofString (tyNm t)) = none := by
    rw [hx.em]
    exact hG.blt _ facts.1
  have hok := L2.call_isi (X := X)
  rw [hx.eK] at hok
  have ht : PE X (.Name (Str.ofString (tyNm t)) q') (L2.tC (.ty (tyNm t))) := L2.pe_bltn hg' hm' facts.2.1 rfl facts.2.2 hd'
  exact L2.pe_callB hok hg hm (by decide +kernel) (L2.pa_cons ha (L2.pa_cons ht L2.pa_nil rfl) (hs.st _ _)) (by decide) hd (hs.st _ _) rfl
/-- plain arguments -/
theorem star_plain : ∀ (ps : List Expr) (env : PySem.Env) (pos : Pos), (∀ p ∈ ps, Syn p) → (backTo pos (starEach ps env)).any (·.1) = false ∧ (backTo pos (starEach ps env)).all (fun x => !x.1) = true
  | [], env, pos, _ => ⟨rfl, rfl⟩
  | p :: ps, env, pos, h => by
    obtain ⟨h1, h2⟩ := star_plain ps env pos fun q hq => h q (List.mem_cons_of_mem _ hq)
    rw [(h p List.mem_cons_self).st]
    exact ⟨by show (false || _) = false; rw [Bool.false_or]; exact h1, by show (true && _) = true; rw [Bool.true_and]; exact h2⟩
/-! methods of lists -/
theorem XG.mu (hx : XG M k prog w K mg base X sc W) {mm : Mu} {po : Expr} {ps : List Expr} {to : TE} {t : TA} {apos cpos : Pos} {nm : Str} (hn : nm = muName mm) (ho : PE X po to) (ha : PA X ps t) (hs : ∀ p ∈ ps, Syn p) (hab : ∀ nm env, attributeBase po nm env (eval po env) = eval po env)
    (hl : (apos.endLine == cpos.line) = true) (hlen : ps.length < 20) : (ps = [] → t = L2.tNil) → PE X (.Call (.Attribute po nm apos) ps [] cpos) (L2.tBM K "list" (rmu mm) to t) := by
  intro he
  subst hn
  have hm := mu_ok (X := X) mm
  have hK := hx.eK
  cases ps with
  | nil =>
    rw [he rfl]
    rw [← hK]
    cases mm with
    | append => exact L2.pe_bm0 PySem.F.plainAttrs_list PySem.F.slot_list_append PySem.F.type_list_append hm ho (hab _ _) hl
    | extend => exact L2.pe_bm0 PySem.F.plainAttrs_list PySem.F.slot_list_extend PySem.F.type_list_extend hm ho (hab _ _) hl
    | pop => exact L2.pe_bm0 PySem.F.plainAttrs_list PySem.F.slot_list_pop PySem.F.type_list_pop hm ho (hab _ _) hl
    | popAt => exact L2.pe_bm0 PySem.F.plainAttrs_list PySem.F.slot_list_pop PySem.F.type_list_pop hm ho (hab _ _) hl
    | insert => exact L2.pe_bm0 PySem.F.plainAttrs_list PySem.F.slot_list_insert PySem.F.type_list_insert hm ho (hab _ _) hl
    | reverse => exact L2.pe_bm0 PySem.F.plainAttrs_list PySem.F.slot_list_reverse PySem.F.type_list_reverse hm ho (hab _ _) hl
    | clear => exact L2.pe_bm0 PySem.F.plainAttrs_list PySem.F.slot_list_clear PySem.F.type_list_clear hm ho (hab _ _) hl
  | cons e es =>
    have h1 := (hs e List.mem_cons_self).st es X.env
    obtain ⟨h2, h3⟩ := star_plain es X.env cpos fun q hq => hs q (List.mem_cons_of_mem _ hq)
    obtain ⟨_, h4⟩ := star_plain (e :: es) X.env cpos hs
    have few : ((backTo cpos (starEach (e :: es) X.env)).all (fun x => !x.1) && (backToKw cpos (keywordEach [] X.env)).all (fun x => x.1.isSome)
      && decide ((e :: es).length + ([] : List Keyword).length + (if ([] : List Keyword).isEmpty then 0 else 1) < 30)) = true := by
      rw [h4, Bool.true_and]
      show (true && _) = true
      rw [Bool.true_and]
      refine decide_eq_true ?_
      show (e :: es).length + 0 + 0 < 30
      omega
    rw [← hK]
    cases mm with
    | append => exact L2.pe_bm PySem.F.plainAttrs_list PySem.F.slot_list_append PySem.F.type_list_append hm ho ha (hab _ _) few hl h1 h2
    | extend => exact L2.pe_bm PySem.F.plainAttrs_list PySem.F.slot_list_extend PySem.F.type_list_extend hm ho ha (hab _ _) few hl h1 h2
    | pop => exact L2.pe_bm PySem.F.plainAttrs_list PySem.F.slot_list_pop PySem.F.type_list_pop hm ho ha (hab _ _) few hl h1 h2
    | popAt => exact L2.pe_bm PySem.F.plainAttrs_list PySem.F.slot_list_pop PySem.F.type_list_pop hm ho ha (hab _ _) few hl h1 h2
    | insert => exact L2.pe_bm PySem.F.plainAttrs_list PySem.F.slot_list_insert PySem.F.type_list_insert hm ho ha (hab _ _) few hl h1 h2
    | reverse => exact L2.pe_bm PySem.F.plainAttrs_list PySem.F.slot_list_reverse PySem.F.type_list_reverse hm ho ha (hab _ _) few hl h1 h2
    | clear => exact L2.pe_bm PySem.F.plainAttrs_list PySem.F.slot_list_clear PySem.F.type_list_clear hm ho ha (hab _ _) few hl h1 h2
/-! targets -/
theorem pg_one (hN : X.N.Nodup) (eN : X.N = M.N) {own : Scope} (hs : X.env.scope = sc) (hf : ∀ x, own.names.lookup x = some .cell → X.fn x = true) {i : Nat} {e : Expr} (h : snB M own sc i e = true) : L2.PG X e (L2.gName i) ∧ Syn e ∧ i < M.N.length := by
  cases e with
  | Name x pos =>
    simp only [snB, stB, Bool.and_eq_true, beq_iff_eq, Bool.or_eq_true] at h
    obtain ⟨h1, h2⟩ := h
    refine ⟨L2.pg_name hN (by rw [eN]; exact h1) ?_ ?_, syn_of _ rfl, (List.getElem?_eq_some_iff.mp h1).1⟩
    · rw [hs]
      exact h2.imp id fun z => z.1
    · rw [hs]
      exact h2.elim .inr fun z => .inl (hf x z.2)
  | _ => simp [snB] at h
theorem pg_many (hN : X.N.Nodup) (eN : X.N = M.N) {own : Scope} (hs : X.env.scope = sc) (hf : ∀ x, own.names.lookup x = some .cell → X.fn x = true) : ∀ {is : List Nat} {es : List Expr}, snsB M own sc is es = true →
    L2.PGs X es (tgsR is) ∧ (assignEach es X.env).length = is.length ∧ (assignEach es X.env).findIdx? (·.1) = none ∧ ∀ i ∈ is, i < M.N.length
  | [], [], _ => ⟨L2.pgs_nil, rfl, rfl, fun i z => absurd z List.not_mem_nil⟩
  | [], _ :: _, h => by simp [snsB] at h
  | _ :: _, [], h => by simp [snsB] at h
  | i :: is, e :: es, h => by
    simp only [snsB, Bool.and_eq_true] at h
    obtain ⟨g1, g2, g3⟩ := pg_one (M := M) hN eN hs hf h.1
    obtain ⟨r1, r2, r3, r4⟩ := pg_many hN eN hs hf h.2
    cases e with
    | Name x pos =>
      refine ⟨L2.pgs_cons g1 r1 rfl, ?_, ?_, fun j hj => ?_⟩
      · show (assignEach es X.env).length + 1 = is.length + 1
        rw [r2]
      · show List.findIdx? (·.1) ((false, assign (.Name x pos) X.env) :: assignEach es X.env) = none
        rw [List.findIdx?_cons, r3]
        rfl
      · rcases List.mem_cons.mp hj with z | z
        · rw [z]; exact g3
        · exact r4 j z
    | _ => simp [snB] at h
theorem pg_tg (hN : X.N.Nodup) (eN : X.N = M.N) {own : Scope} (hs : X.env.scope = sc) (hf : ∀ x, own.names.lookup x = some .cell → X.fn x = true) (hc : X.calm = true) (eK : X.K = K) {tg : Tg} {e : Expr} (h : tgB M own sc tg e = true) :
    L2.PG X e (tgR K tg) ∧ ∀ i ∈ tg.slots, i < M.N.length := by
  cases tg with
  | one i =>
    simp only [tgB] at h
    obtain ⟨g1, _, g3⟩ := pg_one (M := M) hN eN hs hf h
    exact ⟨g1, fun j hj => by
      have e : j = i := by simpa [Tg.slots] using hj
      rw [e]; exact g3⟩
  | many is =>
    cases e with
    | Tuple es kk pos =>
      simp only [tgB] at h
      obtain ⟨r1, r2, r3, r4⟩ := pg_many (M := M) hN eN hs hf h
      refine ⟨?_, r4⟩
      have := L2.pg_tup (k := kk) (pos := pos) hc r1 r2 r3
      rwa [eK] at this
    | _ => simp [tgB] at h
end
end VI

set_option maxRecDepth 100000
set_option maxHeartbeats 4000000
/-! VI.Sound15: every expression's IR is sound, all together. -/
namespace VI
open PySem PySem.Spec PyProof.Rows
open L2 (V Hp HO SqL SqT Same upd upd_same upd_ne RelV Vals VK WX OpR R2 CallR TE TT TA TS TG TGs TI TO It PE PT PA PI PO tOp tUn Ends)
section
variable {K : PySem.W.Frag} {W : WX} {cl : Cl} {n : Nat} {F F' H H' : Hp} {T : Addr → Prop} {σ : L2.St} {env : Env}
theorem SndE.cong {m m' : Env → R (D × Rt × Env)} {t : TE} (e : ∀ env, m env = m' env) (h : SndE K W cl n m' t) : SndE K W cl n m t := by
  have q : m = m' := funext e
  rw [q]; exact h
theorem SndT.cong {m m' : Env → R (Bool × Env)} {t : TT} (e : ∀ env, m env = m' env) (h : SndT K W cl n m' t) : SndT K W cl n m t := by
  have q : m = m' := funext e
  rw [q]; exact h
/-- a slice's part -/
def SndO (K : PySem.W.Frag) (W : WX) (cl : Cl) (n : Nat) (m : Env → R (Option Int × Env)) (t : TO) : Prop := ∀ (σ : L2.St) (env : Env) (F H : Hp) (T : Addr → Prop) (Q : Option Int → Hp → Prop), σ.length = n → Mem K F H T σ env →
  Gd K σ T F H W cl (fun (o, e) => ∀ F' H', Same F F' → (∀ a, T a → H' a = H a) → Mem K F' H' T σ e → Q o H') (m env) → t σ H Q
theorem sndO_none : SndO K W cl n (fun env => .ok (none, env)) L2.tNoPart := by
  intro σ env F H T Q hn mm g
  exact g F H (Same.refl F) (fun _ _ => rfl) mm
theorem sndO_some {m : Env → R (D × Rt × Env)} {t : TE} (ha : SndE K W cl n m t) : SndO K W cl n (fun env => own (m env) >>= fun (d, e1) => match d with
    | .int i => .ok (some i, e1)
    | _ => .bad) (L2.tPart t) := by
  intro σ env F H T Q hn mm g
  refine ha σ env F H T _ hn mm (Gd.imp (Gd.own (Gd.bind g)) ?_)
  rintro ⟨x, r, e1⟩ ⟨hr, g1⟩ v F1 H1 L1 Lf1 o
  cases x with
  | int i =>
    have rr := o.rep
    cases rr
    have g1 : ∀ F' H', Same F F' → (∀ a, T a → H' a = H a) → Mem K F' H' T σ e1 → Q (some i) H' := g1
    exact ⟨i, rfl, g1 F1 H1 o.fs o.ks o.mem0⟩
  | _ => exact g1.elim
theorem snd_slc {m : Env → R (D × Rt × Env)} {ml mh : Env → R (Option Int × Env)} {ta : TE} {tl th : TO} (ha : SndE K W cl n m ta) (hl : SndO K W cl n ml tl) (hh : SndO K W cl n mh th) :
    SndE K W cl n (fun env => m env >>= fun (x, r, e1) => ml (hid r e1) >>= fun (l, e2) => mh e2 >>= fun (h, e3) => fin (slcD x l h) (unh r e1 e3)) (L2.tSl (rSl K) ta tl th) := by
  intro σ env F H T Q hn mm g
  refine ha σ env F H T _ hn mm (Gd.imp (Gd.bind g) ?_)
  rintro ⟨x, r, e1⟩ g1 v F1 H1 L1 Lf1 o1
  have g1 : Gd K σ T F H W cl _ (ml (hid r e1) >>= fun (l, e2) => mh e2 >>= fun (h, e3) => fin (slcD x l h) (unh r e1 e3)) := g1
  refine hl σ (hid r e1) F1 H1 (Tp T Lf1) _ hn o1.mem (Gd.imp (Gd.on (Gd.bind g1) o1.fs o1.ks fun a => .inl) ?_)
  rintro ⟨l, e2⟩ g2 F2 H2 f2 k2 m2
  have g2 : Gd K σ T F H W cl _ (mh e2 >>= fun (h, e3) => fin (slcD x l h) (unh r e1 e3)) := g2
  refine hh σ e2 F2 H2 (Tp T Lf1) _ hn m2 (Gd.imp (Gd.on (Gd.bind g2) (o1.fs.trans f2) (fun a ha => (k2 a (.inl ha)).trans (o1.ks a ha)) fun a => .inl) ?_)
  rintro ⟨h, e3⟩ g3 F3 H3 f3 k3 m3
  have g3 : Gd K σ T F H W cl _ (fin (slcD x l h) (unh r e1 e3)) := g3
  cases hz : slcD x l h with
  | none => rw [hz] at g3; exact g3.elim
  | some z =>
    rw [hz] at g3
    have f23 := f2.trans f3
    have k23 : ∀ a, Tp T Lf1 a → H3 a = H1 a := fun a ha => (k3 a ha).trans (k2 a ha)
    have rx := o1.rep.mono f23 fun a ha => k23 a (.inr (o1.sub a ha))
    refine slc_sem hz rx m3.sub fun v F' H' L rep nd n => g3 v F' H' L L ?_
    have mB := o1.bk.back o1.nd o1.nt f23 (fun a ha => k23 a (.inr ha)) m3
    exact Out.ofNew (o1.fs.trans f23) (fun a ha => (k23 a (.inl ha)).trans (o1.ks a ha)) mB rep nd n
theorem sndT_yes : SndT K W cl n (fun env => .ok (true, env)) L2.tYes := by
  intro σ env F H T Q hn mm g
  exact g F H (Same.refl F) (fun _ _ => rfl) mm
theorem pka_len {cf : CF} : ∀ (as : Ags) {env : Env} {ds : List D} {e : Env}, pka cf as env = .ok (ds, e) → ds.length = as.len
  | .nil, env, ds, e, h => by
    have h : (R.ok ([], env) : R (List D × Env)) = .ok (ds, e) := h
    cases h; rfl
  | .v x r, env, ds, e, h => by
    have h : (own (pk cf x env) >>= fun (d, e1) => pka cf r e1 >>= fun (ds, e2) => .ok (d.frz :: ds, e2)) = .ok (ds, e) := h
    cases h1 : own (pk cf x env) with
    | bad => rw [h1] at h; cases h
    | exc c e => rw [h1] at h; cases h
    | ok p =>
      obtain ⟨d, e1⟩ := p
      rw [h1] at h
      have h : (pka cf r e1 >>= fun (ds, e2) => .ok (d.frz :: ds, e2)) = .ok (ds, e) := h
      cases h2 : pka cf r e1 with
      | bad => rw [h2] at h; cases h
      | exc c e => rw [h2] at h; cases h
      | ok p =>
        obtain ⟨ds', e2⟩ := p
        rw [h2] at h
        have h : (R.ok (d.frz :: ds', e2) : R (List D × Env)) = .ok (ds, e) := h
        cases h
        show ds'.length + 1 = r.len + 1
        rw [pka_len r h2]
  | .io i r, env, ds, e, h => by
    have h : (match env.getD i none with
      | some _ => pka cf r env >>= fun (ds, e2) => match e2.getD i none with
        | some d => .ok (d :: ds, e2.set i none)
        | none => .bad
      | none => .bad) = .ok (ds, e) := h
    split at h
    · rename_i d0 hd
      cases h2 : pka cf r env with
      | bad => rw [h2] at h; cases h
      | exc c e => rw [h2] at h; cases h
      | ok p =>
        obtain ⟨ds', e2⟩ := p
        rw [h2] at h
        have h : (match e2.getD i none with
          | some d => (R.ok (d :: ds', e2.set i none) : R (List D × Env))
          | none => .bad) = .ok (ds, e) := h
        split at h
        · cases h
          show ds'.length + 1 = r.len + 1
          rw [pka_len r h2]
        · cases h
    · cases h
end
def WX0 : WX := fun _ _ _ _ => False
section
variable (M : MX) (cl : Cl) (k : Nat) (prog : Program) (w : World) (K : PySem.W.Frag) (mg : Str → Option Value) (base : Heap) (W : WX) (sc : Scope)
def OkEs (m : Env → R (List D × Env)) (ps : List Expr) : Prop := ∃ t, (∀ X, XG M k prog w K mg base X sc W → PA X ps t) ∧ SndA K W cl M.N.length m t ∧ (ps = [] → t = L2.tNil) ∧ ∀ p ∈ ps, Syn p
def OkEo (m : Env → R (Option Int × Env)) (p : Option Expr) : Prop := ∃ t, (∀ X, XG M k prog w K mg base X sc W → PO X p t) ∧ SndO K W cl M.N.length m t
def OkAs (as : Ags) (m : Env → R (List D × Env)) (ps : List Expr) : Prop := ∃ t, (∀ X, XG M k prog w K mg base X sc W → PA X ps t) ∧ SndG K W cl M.N.length as m t ∧ ∀ p ∈ ps, Syn p
def OkP (i : Nat) (m : D → Env → R (List D × D × Env)) (p : Expr) : Prop := ∃ t, (∀ X, XG M k prog w K mg base X sc W → PE X p t) ∧ SndP K W cl M.N.length i m t ∧ Syn p ∧ (match p with | .Call _ [] [] _ => false | _ => true) = true
def OkI (ptg : Expr) (m : Env → R (List D × Env)) (p : Expr) : Prop := ∃ wi, (∀ X, XG M k prog w K mg base X sc W → PI X ptg p wi) ∧ SndI K W cl M.N.length m wi ∧ Syn p
def OkB (b : Bool) (m : Env → R (Bool × Env)) (ps : List Expr) : Prop := ∀ pos, (∃ t, (∀ X, XG M k prog w K mg base X sc W → PE X (.BoolOp (boOf b) ps pos) t) ∧ SndE K W cl M.N.length (val m) t) ∧ ∃ t, (∀ X, XG M k prog w K mg base X sc W → L2.PW X (.BoolOp (boOf b) ps pos) t) ∧ SndT K W cl M.N.length m t
end
section
variable {M : MX} {cl : Cl} {k : Nat} {prog : Program} {w : World} {K : PySem.W.Frag} {mg : Str → Option Value} {base : Heap}
theorem XG.cmpU {X : L2.Cx} {sc : Scope} {W : WX} (hx : XG M k prog w K mg base X sc W) : X.A.units + 190 < cLine := by
  have := hx.room.un
  omega
theorem XG.blk {X : L2.Cx} {sc : Scope} {W : WX} (hx : XG M k prog w K mg base X sc W) (scope : Scope) (s : Shared) (H : Hp) (C : Addr) (cs : List (Str × Addr)) (fp : List Addr) :
    XG M k prog w K mg base (X.blk s H scope (compEnvC scope cs C X.env) fp) (L2.relS scope sc) WX0 :=
  ⟨hx.eP, hx.ew, hx.eK, hx.em, hx.eb, hx.eN, by show L2.relS scope X.env.scope = _; rw [hx.sc], hx.calm, hx.room, fun _ _ x => by
    obtain ⟨_, _, _, _, _, _, _, _, _, _, _, _, _, _, _, _, z⟩ := x
    exact z.elim⟩
theorem ownOf_slots (M : MX) (tg : Tg) : (ownOf M tg).map (·.2) = tg.slots := by
  unfold ownOf
  rw [List.map_map]
  exact List.map_id _
theorem XG.calls (hG : MG M cl k prog w K mg base) {X : L2.Cx} {sc : Scope} {W : WX} (hx : XG M k prog w K mg base X sc W) {f : String} {fn : Fn} (hf : M.P f = some fn) {x : Str} {q pos : Pos} {e : Expr} {es : List Expr} {t : TA} (hg : gl2 sc (Str.ofString f) x = true) (ha : PA X (e :: es) t) (hs : ∀ p ∈ e :: es, Syn p) :
    PE X (.Call (.Name x q) (e :: es) [] pos) (L2.tCallS (spF K cl M.P k f) (L2.WE W) t) := by
  obtain ⟨rfl, hg', hd⟩ := hx.gl hg
  obtain ⟨fa, fd, ps, h1, h2, h3, h4⟩ := hG.fn f fn hf
  have F' : L2.FnOk X.prog X.w X.K X.mg X.base (L2.CX X.prog X.w) k fa fd ps (spF K cl M.P k f) := by
    rw [hx.eP, hx.ew, hx.eK, hx.em, hx.eb]; exact h4
  have hm : X.mg (Str.ofString f) = some (.ref fa) := by rw [hx.em]; exact h1
  have hk : PySem.W.keepIn X.K (.ref fa) = true := by rw [hx.eK]; exact h2
  have hb : L2.Binds X.K fd ps [] := by rw [hx.eK]; exact h3
  obtain ⟨s2, _⟩ := star_plain es X.env pos fun q hq => hs q (List.mem_cons_of_mem _ hq)
  exact L2.pe_callS F' hx.room hg' hm hk hb (fun σ => L2.passAt hx.tk σ) ha hd ((hs e List.mem_cons_self).st es X.env) s2
theorem snsB_lt {own sc : Scope} : ∀ {is : List Nat} {es : List Expr}, snsB M own sc is es = true → ∀ i ∈ is, i < M.N.length
  | [], [], _ => fun i z => absurd z List.not_mem_nil
  | [], _ :: _, h => by simp [snsB] at h
  | _ :: _, [], h => by simp [snsB] at h
  | i :: is, e :: es, h => by
    simp only [snsB, Bool.and_eq_true] at h
    intro j hj
    rcases List.mem_cons.mp hj with z | z
    · rw [z]
      cases e with
      | Name x pos =>
        have h1 := h.1
        simp only [snB, Bool.and_eq_true, beq_iff_eq] at h1
        exact (List.getElem?_eq_some_iff.mp h1.1).1
      | _ =>
        have h1 := h.1
        simp [snB] at h1
    · exact snsB_lt h.2 j z
mutual
theorem okE (hG : MG M cl k prog w K mg base) : ∀ (m : E) (W : WX) (sc : Scope) (p : Expr), mE M sc m p = true → OkE M cl k prog w K mg base W sc (pk (callF M.P k) m) p
  | .nm md i, W, sc, p, h => by
    cases p with
    | Name x pos =>
      have h : nmB M sc i x = true := h
      cases md with
      | pk => exact OkE.of ⟨_, fun X hx => hx.nm h, snd_pk⟩ fun _ _ => rfl
      | fz => exact OkE.of ⟨_, fun X hx => hx.nm h, snd_fz⟩ fun _ _ => rfl
      | mv => exact OkE.of ⟨_, fun X hx => hx.nm h, snd_mv⟩ fun _ _ => rfl
    | _ => simp [mE] at h
  | .cst c, W, sc, p, h => by
    cases p with
    | Constant kk u pos =>
      have h : cB c kk = true := h
      refine OkE.of ⟨L2.tC (cV c), fun X hx => ?_, snd_c⟩ fun _ _ => rfl
      cases c with
      | non =>
        cases kk with
        | none => exact L2.pe_non
        | _ => simp [cB] at h
      | bl b =>
        cases kk with
        | bool b' =>
          have e : b = b' := by simpa [cB] using h
          subst e
          exact L2.pe_bl
        | _ => simp [cB] at h
      | int b =>
        cases kk with
        | int b' =>
          have e : b = b' := by simpa [cB] using h
          subst e
          exact L2.pe_int
        | _ => simp [cB] at h
      | str b =>
        cases kk with
        | str b' =>
          have e : Str.ofString b = b' := by simpa [cB] using h
          subst e
          exact L2.pe_str
        | _ => simp [cB] at h
    | _ => simp [mE] at h
  | .glc g c, W, sc, p, h => by
    cases p with
    | Name x pos =>
      have h : (gl2 sc (Str.ofString g) x && M.G g c) = true := h
      rw [Bool.and_eq_true] at h
      obtain ⟨u, h1, h2⟩ := hG.glc g c h.2
      refine OkE.of ⟨L2.tC (cV c), fun X hx => ?_, snd_c⟩ fun _ _ => rfl
      obtain ⟨rfl, hg, hd⟩ := hx.gl h.1
      exact L2.pe_glob hg (by rw [hx.em]; exact h1) h2 hd
    | _ => simp [mE] at h
  | .op1 .neg a, W, sc, p, h => by
    cases p with
    | UnaryOp op pa pos =>
      cases op <;> simp only [mE, Bool.false_eq_true] at h
      obtain ⟨⟨ta, h1, h2⟩, _⟩ := okE hG a W sc pa h
      refine OkE.of ⟨_, fun X hx => L2.pe_un L2.un_neg (h1 X hx), snd1 (opD := op1D .neg) (rr := L2.rU fun i => .int (-i)) h2 fun {x z vx F H Lx Q} hz rx s q => ?_⟩ fun _ _ => rfl
      cases rx <;> simp [op1D] at hz
      subst hz
      exact ⟨_, rfl, q.int s⟩
    | _ => simp [mE] at h
  | .op1 .not_ a, W, sc, p, h => by
    cases p with
    | UnaryOp op pa pos =>
      cases op <;> simp only [mE, Bool.false_eq_true] at h
      obtain ⟨⟨ta, h1, h2⟩, ⟨tt, h3, h4⟩⟩ := okE hG a W sc pa h
      refine ⟨⟨_, fun X hx => L2.pe_not (h1 X hx), snd1 (opD := op1D .not_) (rr := fun x H1 Q => ∃ c, x = .bl c ∧ Q (.bl (!c)) H1) h2 fun {x z vx F H Lx Q} hz rx s q => ?_⟩, ⟨_, fun X hx => L2.pt_not (h3 X hx), sndT_not h4⟩⟩
      cases rx <;> simp [op1D] at hz
      subst hz
      exact ⟨_, rfl, q.bl s⟩
    | _ => simp [mE] at h
  | .op2 o a b, W, sc, p, h => by
    cases p with
    | BinOp pa op pb pos =>
      simp only [mE, Bool.and_eq_true, beq_iff_eq] at h
      obtain ⟨⟨rfl, h1⟩, h2⟩ := h
      obtain ⟨⟨ta, a1, a2⟩, _⟩ := okE hG a W sc pa h1
      obtain ⟨⟨tb, b1, b2⟩, _⟩ := okE hG b W sc pb h2
      exact OkE.of ⟨_, fun X hx => L2.pe_op (by have := op2_ok (X := X) o; rw [hx.eK] at this; exact this) (a1 X hx) (b1 X hx), snd2 a2 b2 (fun hz rx ry s q => op2_sem o hz rx ry s q)⟩ fun _ _ => rfl
    | _ => simp [mE] at h
  | .cmp o a b, W, sc, p, h => by
    cases p with
    | Compare pa ops pbs pos =>
      match ops, pbs, h with
      | [op], [pb], h =>
        simp only [mE, Bool.and_eq_true, beq_iff_eq] at h
        obtain ⟨⟨rfl, h1⟩, h2⟩ := h
        obtain ⟨⟨ta, a1, a2⟩, _⟩ := okE hG a W sc pa h1
        obtain ⟨⟨tb, b1, b2⟩, _⟩ := okE hG b W sc pb h2
        have hs := syn_of pb (mE_syn M b sc pb h2)
        have s := snd2 (W := W) (cl := cl) a2 b2 (opD := cmpD o) (rr := rc K o) (fun hz rx ry s q => cmp_sem o hz rx ry s q)
        have ok : ∀ X, XG M k prog w K mg base X sc W → OpR X (compareOp (cmpOf o)) (rc K o) := fun X hx => by
          have := cmp_ok (X := X) hx.cmpU o; rw [hx.eK] at this; exact this
        exact ⟨⟨_, fun X hx => L2.pe_cmpR (ok X hx) (a1 X hx) (b1 X hx) (hs.nb _), s⟩, ⟨_, fun X hx => L2.pt_cmpR (ok X hx) (a1 X hx) (b1 X hx) (hs.nb _), snd_bl s⟩⟩
      | [], _, h => simp [mE] at h
      | _ :: _ :: _, [], h => simp [mE] at h
      | _ :: _ :: _, _ :: _, h => simp [mE] at h
      | [_], [], h => simp [mE] at h
      | [_], _ :: _ :: _, h => simp [mE] at h
    | _ => simp [mE] at h
  | .chn o o' a b c, W, sc, p, h => by
    cases p with
    | Compare pa ops pbs pos =>
      match ops, pbs, h with
      | [op, op'], [pb, pc], h =>
        simp only [mE, Bool.and_eq_true, beq_iff_eq] at h
        obtain ⟨⟨⟨⟨rfl, rfl⟩, h1⟩, h2⟩, h3⟩ := h
        obtain ⟨⟨ta, a1, a2⟩, _⟩ := okE hG a W sc pa h1
        obtain ⟨⟨tb, b1, b2⟩, _⟩ := okE hG b W sc pb h2
        obtain ⟨⟨tc, c1, c2⟩, _⟩ := okE hG c W sc pc h3
        have hs := syn_of pc (mE_syn M c sc pc h3)
        have s := snd_chn (W := W) (cl := cl) a2 b2 c2 (o := o) (o' := o')
        have ok : ∀ o X, XG M k prog w K mg base X sc W → OpR X (compareOp (cmpOf o)) (rc K o) := fun o X hx => by
          have := cmp_ok (X := X) hx.cmpU o; rw [hx.eK] at this; exact this
        exact ⟨⟨_, fun X hx => L2.pe_chain (ok o X hx) (ok o' X hx) (a1 X hx) (b1 X hx) (c1 X hx) (hs.nb _), s⟩, ⟨_, fun X hx => L2.pt_chain (ok o X hx) (ok o' X hx) (a1 X hx) (b1 X hx) (c1 X hx) (hs.nb _), snd_bl s⟩⟩
      | [], _, h => simp [mE] at h
      | [_], _, h => simp [mE] at h
      | _ :: _ :: _ :: _, _, h => simp [mE] at h
      | [_, _], [], h => simp [mE] at h
      | [_, _], [_], h => simp [mE] at h
      | [_, _], _ :: _ :: _ :: _, h => simp [mE] at h
    | _ => simp [mE] at h
  | .boo b es, W, sc, p, h => by
    cases p with
    | BoolOp op vs pos =>
      simp only [mE, Bool.and_eq_true, beq_iff_eq] at h
      obtain ⟨⟨rfl, h1⟩, h2⟩ := h
      obtain ⟨⟨t, e1, e2⟩, ⟨u, u1, u2⟩⟩ := okB hG es W sc vs h2 b (by simpa using h1) pos
      refine ⟨⟨t, e1, e2⟩, ⟨u, fun X hx => (u1 X hx).pt, SndT.cong (fun env => ?_) u2⟩⟩
      show asBl (pkb (callF M.P k) b es env >>= fun (b, e1) => .ok (.bl b, none, e1)) = _
      cases pkb (callF M.P k) b es env <;> rfl
    | _ => simp [mE] at h
  | .idx a b, W, sc, p, h => by
    cases p with
    | Subscript pa pb pos =>
      simp only [mE, Bool.and_eq_true] at h
      obtain ⟨⟨ta, a1, a2⟩, _⟩ := okE hG a W sc pa h.1
      obtain ⟨⟨tb, b1, b2⟩, _⟩ := okE hG b W sc pb h.2
      have hs := syn_of pb (mE_syn M b sc pb h.2)
      exact OkE.of ⟨_, fun X hx => by have := L2.pe_ix (pos := pos) L2.ix_seq (a1 X hx) (b1 X hx) hs.ix; rw [hx.eK] at this; exact this, snd_idx a2 b2⟩ fun _ _ => rfl
    | _ => simp [mE] at h
  | .slc a lo hi, W, sc, p, h => by
    cases p with
    | Subscript pa pb pos =>
      cases pb with
      | Slice pl ph st p2 =>
        cases st with
        | none =>
          simp only [mE, Bool.and_eq_true] at h
          obtain ⟨⟨ta, a1, a2⟩, _⟩ := okE hG a W sc pa h.1.1
          obtain ⟨tl, l1, l2⟩ := okEo hG lo W sc pl h.1.2
          obtain ⟨th, h1, h2⟩ := okEo hG hi W sc ph h.2
          exact OkE.of ⟨_, fun X hx => L2.pe_slice (by have := sl_ok (X := X); rw [hx.eK] at this; exact this) (a1 X hx) (l1 X hx) (h1 X hx), snd_slc a2 l2 h2⟩ fun _ _ => rfl
        | some _ => simp [mE] at h
      | _ => simp [mE] at h
    | _ => simp [mE] at h
  | .rev a, W, sc, p, h => by
    cases p with
    | Subscript pa sl pos =>
      simp only [mE, Bool.and_eq_true] at h
      obtain ⟨h1, h2⟩ := h
      split at h2
      · rename_i j1 p1 p2 p3
        obtain ⟨⟨ta, a1, a2⟩, _⟩ := okE hG a W sc pa h1
        exact OkE.of ⟨_, fun X hx => by have := L2.pe_revL (k := j1) (p1 := p1) (p2 := p2) (p3 := p3) (pos := pos) (a1 X hx); rw [hx.eK] at this; exact this, snd1 (opD := revD) (rr := fun x H1 Q => ∃ a xs, x = .ref a ∧ SqL K H1 a xs ∧ ∀ p, H1 p = none → Q (.ref p) (upd H1 p (.lst xs.reverse))) a2 (fun hz rx s q => rev_sem hz rx s q)⟩ fun _ _ => rfl
      · cases h2
    | _ => simp [mE] at h
  | .tup es, W, sc, p, h => by
    cases p with
    | Tuple ps kk pos =>
      obtain ⟨t, t1, t2, _⟩ := okEs hG es W sc ps (by simpa [mE] using h)
      exact OkE.of ⟨_, fun X hx => L2.pe_tup (t1 X hx), snd_tup t2⟩ fun _ _ => rfl
    | _ => simp [mE] at h
  | .lst es, W, sc, p, h => by
    cases p with
    | List ps pos =>
      obtain ⟨t, t1, t2, _⟩ := okEs hG es W sc ps (by simpa [mE] using h)
      exact OkE.of ⟨_, fun X hx => L2.pe_lst (t1 X hx), snd_lst t2⟩ fun _ _ => rfl
    | _ => simp [mE] at h
  | .frz a, W, sc, p, h => by
    have h : mE M sc a p = true := by
      unfold mE at h
      exact h
    obtain ⟨⟨ta, a1, a2⟩, ⟨tt, t1, t2⟩⟩ := okE hG a W sc p h
    refine ⟨⟨ta, a1, snd_frz a2⟩, ⟨tt, t1, ?_⟩⟩
    intro σ env F H T Q hn mm g
    refine t2 σ env F H T Q hn mm ?_
    have g : Gd K σ T F H W cl _ (asBl (own (pk (callF M.P k) a env) >>= fun (x, e1) => .ok (x.frz, none, e1))) := g
    show Gd K σ T F H W cl _ (asBl (pk (callF M.P k) a env))
    cases hm : pk (callF M.P k) a env with
    | bad => rw [hm] at g; exact g
    | exc c e => rw [hm] at g; exact g
    | ok z =>
      obtain ⟨d, r, e⟩ := z
      rw [hm] at g
      cases r with
      | some i => exact g.elim
      | none => cases d <;> exact g
  | .bc1 f a, W, sc, p, h => by
    cases p with
    | Call pf ps ks pos =>
      cases pf with
      | Name x q =>
        match ps, ks, h with
        | [pa], [], h =>
          simp only [mE, Bool.and_eq_true] at h
          obtain ⟨⟨ta, a1, a2⟩, _⟩ := okE hG a W sc pa h.2
          have hs := syn_of pa (mE_syn M a sc pa h.2)
          exact OkE.of ⟨_, fun X hx => XG.b1 hG hx h.1 (a1 X hx) hs, snd1 (opD := b1D f) (rr := fun x H1 Q => rb1 K f [x] H1 Q) a2 (fun hz rx s q => b1_sem f hz rx s q)⟩ fun _ _ => rfl
        | [], _, h => simp [mE] at h
        | _ :: _ :: _, _, h => simp [mE] at h
        | [_], _ :: _, h => simp [mE] at h
      | _ => simp [mE] at h
    | _ => simp [mE] at h
  | .bc2 f a b, W, sc, p, h => by
    cases p with
    | Call pf ps ks pos =>
      cases pf with
      | Name x q =>
        match ps, ks, h with
        | [pa, pb], [], h =>
          simp only [mE, Bool.and_eq_true] at h
          obtain ⟨⟨ta, a1, a2⟩, _⟩ := okE hG a W sc pa h.1.2
          obtain ⟨⟨tb, b1, b2⟩, _⟩ := okE hG b W sc pb h.2
          have hs := syn_of pa (mE_syn M a sc pa h.1.2)
          have hs' := syn_of pb (mE_syn M b sc pb h.2)
          exact OkE.of ⟨_, fun X hx => XG.b2 hG hx h.1.1 (a1 X hx) (b1 X hx) hs hs', snd2 (opD := b2D f) (rr := fun x y H1 Q => rb2 f [x, y] H1 Q) a2 b2 (fun hz rx ry s q => b2_sem f hz rx ry s q)⟩ fun _ _ => rfl
        | [], _, h => simp [mE] at h
        | [_], _, h => simp [mE] at h
        | _ :: _ :: _ :: _, _, h => simp [mE] at h
        | [_, _], _ :: _, h => simp [mE] at h
      | _ => simp [mE] at h
    | _ => simp [mE] at h
  | .isi t a, W, sc, p, h => by
    cases p with
    | Call pf ps ks pos =>
      cases pf with
      | Name x q =>
        match ps, ks, h with
        | [pa, pb], [], h =>
          simp only [mE, Bool.and_eq_true] at h
          obtain ⟨⟨h0, h1⟩, h2⟩ := h
          cases pb with
          | Name y q' =>
           obtain ⟨⟨ta, a1, a2⟩, _⟩ := okE hG a W sc pa h1
           have hs := syn_of pa (mE_syn M a sc pa h1)
           refine OkE.of ⟨_, fun X hx => XG.isi hG hx h0 h2 (a1 X hx) hs, snd1 (opD := fun x => (isiD t x).map .bl) (rr := fun x H1 Q => L2.rIsi K [x, .ty (tyNm t)] H1 Q) a2 (fun {x z vx F H Lx Q} hz rx s q => ?_)⟩ fun _ _ => rfl
           cases hb : isiD t x with
           | none => rw [hb] at hz; cases hz
           | some b =>
            rw [hb] at hz
            have e : D.bl b = z := Option.some.inj hz
            subst e
            exact isi_sem t hb rx s (q.bl s)
          | _ => cases h2
        | [], _, h => simp [mE] at h
        | [_], _, h => simp [mE] at h
        | _ :: _ :: _ :: _, _, h => simp [mE] at h
        | [_, _], _ :: _, h => simp [mE] at h
      | _ => simp [mE] at h
    | _ => simp [mE] at h
  | .call f as, W, sc, p, h => by
    cases p with
    | Call pf ps ks pos =>
      cases pf with
      | Name x q =>
        cases ks with
        | nil =>
          simp only [mE, Bool.and_eq_true] at h
          obtain ⟨⟨⟨h1, h2⟩, h3⟩, h4⟩ := h
          obtain ⟨t, t1, t2, t3⟩ := okAs hG as W sc ps h3
          cases hf : M.P f with
          | none => rw [hf] at h4; cases h4
          | some fn =>
            rw [hf] at h4
            simp only [Bool.and_eq_true, beq_iff_eq] at h4
            cases ps with
            | nil =>
              cases as with
              | nil => cases h2
              | v _ _ => simp [mAs] at h3
              | io _ _ => simp [mAs] at h3
            | cons e es =>
              exact OkE.of ⟨_, fun X hx => hx.calls hG hf h1 (t1 X hx) t3, snd_call hf h4.1 (fun env ds e he => (pka_len as he).trans h4.2) t2⟩ fun _ _ => rfl
        | cons _ _ => simp [mE] at h
      | _ => simp [mE] at h
    | _ => simp [mE] at h
  | .comp e tg it c, W, sc, p, h => by
    cases p with
    | ListComp pe gens scope pos =>
      match gens, h with
      | [⟨ptg, pit, ifs, asy⟩], h =>
        have h : ((asy == 0) && mE M (L2.relS scope sc) e pe && tgB M scope (L2.relS scope sc) tg ptg && mI M sc ptg it pit && L2.blkC M.N sc scope (ownOf M tg) && (match (generalizing := false) c, ifs with
          | .none, [] => true
          | .some d, [pd] => mE M (L2.relS scope sc) d pd
          | _, _ => false)) = true := by
          cases c with
          | none => cases ifs <;> exact h
          | some d =>
            match ifs, h with
            | [], h => exact h
            | [_], h => exact h
            | _ :: _ :: _, h => exact h
        simp only [Bool.and_eq_true, beq_iff_eq] at h
        obtain ⟨⟨⟨⟨⟨rfl, h1⟩, h2⟩, h3⟩, h4⟩, h5⟩ := h
        obtain ⟨⟨te, e1, e2⟩, _⟩ := okE hG e WX0 (L2.relS scope sc) pe h1
        obtain ⟨wi, i1, i2, i3⟩ := okI hG it W sc ptg pit h3
        have hsl : ∀ i ∈ tg.slots, i < M.N.length := by
          cases tg with
          | one i =>
            cases ptg with
            | Name x _ =>
              simp only [tgB, snB, Bool.and_eq_true, beq_iff_eq] at h2
              intro j hj
              have e : j = i := by simpa [Tg.slots] using hj
              rw [e]
              exact (List.getElem?_eq_some_iff.mp h2.1).1
            | _ => simp [tgB, snB] at h2
          | many is =>
            cases ptg with
            | Tuple es _ _ =>
              have h2 : snsB M scope (L2.relS scope sc) is es = true := h2
              exact snsB_lt h2
            | _ => simp [tgB] at h2
        have tests : ∃ tt, (∀ X, XG M k prog w K mg base X sc W → ∀ s H C cs fp, L2.PTs (X.blk s H scope (compEnvC scope cs C X.env) fp) ifs tt) ∧ SndT K WX0 cl M.N.length (fun e2 => match (generalizing := false) c with | .none => .ok (true, e2) | .some c => asBl (pk (callF M.P k) c e2)) tt := by
          cases c with
          | none =>
            cases ifs with
            | nil => exact ⟨L2.tYes, fun X hx s H C cs fp => L2.pts_nil, sndT_yes⟩
            | cons _ _ => simp at h5
          | some d =>
            match ifs, h5 with
            | [pd], h5 =>
              obtain ⟨_, ⟨td, d1, d2⟩⟩ := okE hG d WX0 (L2.relS scope sc) pd h5
              exact ⟨td, fun X hx s H C cs fp => L2.pts_one (d1 _ (hx.blk scope s H C cs fp)), d2⟩
            | [], h5 => cases h5
            | _ :: _ :: _, h5 => cases h5
        obtain ⟨tt, t1, t2⟩ := tests
        refine OkE.of ⟨L2.tLc wi (tgR K tg) tt te tg.slots, fun X hx => ?_, SndE.cong (fun env => by cases c <;> rfl) (snd_comp i2 t2 e2 hsl)⟩ fun _ _ => rfl
        have ok : L2.BlkOk X.N X.env.scope scope (ownOf M tg) := by
          rw [hx.eN, hx.sc]
          exact L2.blkOk_by h4
        have hN : X.N.Nodup := by rw [hx.eN]; exact hG.nd
        have := L2.pe_lc (pos := pos) hx.calm hN (i1 X hx) ok (fun s H C cs fp => (pg_tg (M := M) (K := K) (tg := tg) (own := scope) (sc := L2.relS scope sc) (X := X.blk s H scope (compEnvC scope cs C X.env) fp) hN hx.eN (hx.blk scope s H C cs fp).sc (fun x hxx => by
            show (scope.names.lookup x == some .cell) = true
            rw [hxx]; rfl) hx.calm hx.eK h2).1) (t1 X hx) (fun s H C cs fp => e1 _ (hx.blk scope s H C cs fp)) (fun x => i3.fs _ _)
        rw [ownOf_slots] at this
        exact this
      | [], h => simp [mE] at h
      | _ :: _ :: _, h => simp [mE] at h
    | _ => simp [mE] at h
  | .mut mm i q as, W, sc, p, h => by
    cases p with
    | Call pf ps ks cpos =>
      cases pf with
      | Attribute po nm apos =>
        cases ks with
        | nil =>
          simp only [mE, Bool.and_eq_true, beq_iff_eq, decide_eq_true_eq] at h
          obtain ⟨⟨⟨⟨⟨h1, h2⟩, h3⟩, h4⟩, h5⟩, _⟩ := h
          obtain ⟨t, t1, t2, t3, t4⟩ := okEs hG as W sc ps h3
          cases q with
          | nil =>
            cases po with
            | Name x p0 =>
              have h1 : nmB M sc i x = true := h1
              have o3 : Syn (.Name x p0) := syn_of _ rfl
              exact OkE.of ⟨_, fun X hx => hx.mu h2 (hx.nm h1) (t1 X hx) t4 (fun nm env => o3.ab nm env rfl) (by rw [h4]; exact beq_self_eq_true _) h5 t3, snd_mut0 t2⟩ fun _ _ => rfl
            | _ => simp [mP] at h1
          | ix r e =>
            obtain ⟨to, o1, o2, o3, o4⟩ := okP hG (.ix r e) W sc i po h1
            exact OkE.of ⟨_, fun X hx => hx.mu h2 (o1 X hx) (t1 X hx) t4 (fun nm env => o3.ab nm env o4) (by rw [h4]; exact beq_self_eq_true _) h5 t3, snd_mutP o2 t2⟩ fun _ _ => rfl
        | cons _ _ => simp [mE] at h
      | _ => simp [mE] at h
    | _ => simp [mE] at h
  | .dead, W, sc, p, h => ⟨⟨fun _ _ _ => False, fun X hx => ⟨fun _ _ _ _ _ _ z => z.elim⟩, fun σ env F H T Q hn mm g => g⟩, ⟨fun _ _ _ => False, fun X hx => ⟨fun _ _ _ _ _ _ z => z.elim⟩, fun σ env F H T Q hn mm g => g⟩⟩
theorem okEs (hG : MG M cl k prog w K mg base) : ∀ (es : Es) (W : WX) (sc : Scope) (ps : List Expr), mEs M sc es ps = true → OkEs M cl k prog w K mg base W sc (pks (callF M.P k) es) ps
  | .nil, W, sc, [], h => ⟨L2.tNil, fun X hx => L2.pa_nil, snd_nil, fun _ => rfl, fun p hp => absurd hp List.not_mem_nil⟩
  | .nil, W, sc, _ :: _, h => by simp [mEs] at h
  | .cons e r, W, sc, [], h => by simp [mEs] at h
  | .cons e r, W, sc, p :: ps, h => by
    simp only [mEs, Bool.and_eq_true] at h
    obtain ⟨⟨ta, a1, a2⟩, _⟩ := okE hG e W sc p h.1
    obtain ⟨tr, r1, r2, _, r4⟩ := okEs hG r W sc ps h.2
    have hs := syn_of p (mE_syn M e sc p h.1)
    refine ⟨_, fun X hx => L2.pa_cons (a1 X hx) (r1 X hx) (hs.st _ _), snd_cons a2 r2, fun z => (nomatch z), fun q hq => ?_⟩
    rcases List.mem_cons.mp hq with z | z
    · rw [z]; exact hs
    · exact r4 q z
theorem okEo (hG : MG M cl k prog w K mg base) : ∀ (eo : Eo) (W : WX) (sc : Scope) (p : Option Expr), mEo M sc eo p = true → OkEo M cl k prog w K mg base W sc (pko (callF M.P k) eo) p
  | .none, W, sc, none, h => ⟨L2.tNoPart, fun X hx => L2.po_none, sndO_none⟩
  | .none, W, sc, some _, h => by simp [mEo] at h
  | .some e, W, sc, none, h => by simp [mEo] at h
  | .some e, W, sc, some p, h => by
    obtain ⟨⟨ta, a1, a2⟩, _⟩ := okE hG e W sc p (by simpa [mEo] using h)
    exact ⟨_, fun X hx => L2.po_some (a1 X hx), sndO_some a2⟩
theorem okAs (hG : MG M cl k prog w K mg base) : ∀ (as : Ags) (W : WX) (sc : Scope) (ps : List Expr), mAs M sc as ps = true → OkAs M cl k prog w K mg base W sc as (pka (callF M.P k) as) ps
  | .nil, W, sc, [], h => ⟨L2.tNil, fun X hx => L2.pa_nil, sndG_nil, fun p hp => absurd hp List.not_mem_nil⟩
  | .nil, W, sc, _ :: _, h => by simp [mAs] at h
  | .v e r, W, sc, [], h => by simp [mAs] at h
  | .v e r, W, sc, p :: ps, h => by
    simp only [mAs, Bool.and_eq_true] at h
    obtain ⟨⟨ta, a1, a2⟩, _⟩ := okE hG e W sc p h.1
    obtain ⟨tr, r1, r2, r4⟩ := okAs hG r W sc ps h.2
    have hs := syn_of p (mE_syn M e sc p h.1)
    refine ⟨_, fun X hx => L2.pa_cons (a1 X hx) (r1 X hx) (hs.st _ _), sndG_v a2 r2, fun q hq => ?_⟩
    rcases List.mem_cons.mp hq with z | z
    · rw [z]; exact hs
    · exact r4 q z
  | .io i r, W, sc, [], h => by simp [mAs] at h
  | .io i r, W, sc, p :: ps, h => by
    cases p with
    | Name x pos =>
      simp only [mAs, Bool.and_eq_true] at h
      obtain ⟨tr, r1, r2, r4⟩ := okAs hG r W sc ps h.2
      have hs : Syn (.Name x pos) := syn_of _ rfl
      refine ⟨_, fun X hx => L2.pa_cons (hx.nm h.1) (r1 X hx) (hs.st _ _), sndG_io r2, fun q hq => ?_⟩
      rcases List.mem_cons.mp hq with z | z
      · rw [z]; exact hs
      · exact r4 q z
    | _ => simp [mAs] at h
theorem okP (hG : MG M cl k prog w K mg base) : ∀ (q : Pth) (W : WX) (sc : Scope) (i : Nat) (p : Expr), mP M sc i q p = true → OkP M cl k prog w K mg base W sc i (pkp (callF M.P k) q) p
  | .nil, W, sc, i, p, h => by
    cases p with
    | Name x pos =>
      have h : nmB M sc i x = true := h
      exact ⟨_, fun X hx => hx.nm h, sndP_nil, syn_of _ rfl, rfl⟩
    | _ => simp [mP] at h
  | .ix r e, W, sc, i, p, h => by
    cases p with
    | Subscript pa pb pos =>
      simp only [mP, Bool.and_eq_true] at h
      obtain ⟨tr, r1, r2, r3, _⟩ := okP hG r W sc i pa h.1
      obtain ⟨⟨tb, b1, b2⟩, _⟩ := okE hG e W sc pb h.2
      have hs := syn_of pb (mE_syn M e sc pb h.2)
      exact ⟨_, fun X hx => by have := L2.pe_ix (pos := pos) L2.ix_seq (r1 X hx) (b1 X hx) hs.ix; rw [hx.eK] at this; exact this, sndP_ix r2 b2, syn_of _ rfl, rfl⟩
    | _ => simp [mP] at h
theorem okI (hG : MG M cl k prog w K mg base) : ∀ (it : VI.It) (W : WX) (sc : Scope) (ptg p : Expr), mI M sc ptg it p = true → OkI M cl k prog w K mg base W sc ptg (its (callF M.P k) it) p
  | .seq e, W, sc, ptg, p, h => by
    have h : mE M sc e p = true := by
      unfold mI at h
      exact h
    obtain ⟨⟨ta, a1, a2⟩, _⟩ := okE hG e W sc p h
    exact ⟨_, fun X hx => by have := pi_seq (tg := ptg) (a1 X hx); rw [hx.eK] at this; exact this, sndI_seq a2, syn_of p (mE_syn M e sc p h)⟩
  | .rg1 a, W, sc, ptg, .Call (.Name x q) [pa] [] pos, h => by
    simp only [mI, Bool.and_eq_true] at h
    obtain ⟨⟨ta, a1, a2⟩, _⟩ := okE hG a W sc pa h.2
    have hs := syn_of pa (mE_syn M a sc pa h.2)
    refine ⟨_, fun X hx => ?_, sndI_rg1 a2, syn_of _ rfl⟩
    obtain ⟨rfl, hg, hd⟩ := hx.gl h.1
    exact L2.pi_range1 hg (by rw [hx.em]; exact hG.blt _ (by decide +kernel)) (L2.pa_cons (a1 X hx) L2.pa_nil (hs.st _ _)) (hs.st _ _)
  | .rg2 a b, W, sc, ptg, .Call (.Name x q) [pa, pb] [] pos, h => by
    simp only [mI, Bool.and_eq_true] at h
    obtain ⟨⟨ta, a1, a2⟩, _⟩ := okE hG a W sc pa h.1.2
    obtain ⟨⟨tb, b1, b2⟩, _⟩ := okE hG b W sc pb h.2
    have hs := syn_of pa (mE_syn M a sc pa h.1.2)
    have hs' := syn_of pb (mE_syn M b sc pb h.2)
    refine ⟨_, fun X hx => ?_, sndI_rg2 a2 b2, syn_of _ rfl⟩
    obtain ⟨rfl, hg, hd⟩ := hx.gl h.1.1
    exact L2.pi_range2 hg (by rw [hx.em]; exact hG.blt _ (by decide +kernel)) (L2.pa_cons (a1 X hx) (L2.pa_cons (b1 X hx) L2.pa_nil (hs'.st _ _)) (hs.st _ _)) (by rw [hs.st, hs'.st]; rfl) (by rw [hs'.st]; rfl)
  | .rg3 a b c, W, sc, ptg, .Call (.Name x q) [pa, pb, pc] [] pos, h => by
    simp only [mI, Bool.and_eq_true] at h
    obtain ⟨⟨ta, a1, a2⟩, _⟩ := okE hG a W sc pa h.1.1.2
    obtain ⟨⟨tb, b1, b2⟩, _⟩ := okE hG b W sc pb h.1.2
    obtain ⟨⟨tc, c1, c2⟩, _⟩ := okE hG c W sc pc h.2
    have hs := syn_of pa (mE_syn M a sc pa h.1.1.2)
    have hs' := syn_of pb (mE_syn M b sc pb h.1.2)
    have hs'' := syn_of pc (mE_syn M c sc pc h.2)
    refine ⟨_, fun X hx => ?_, sndI_rg3 a2 b2 c2, syn_of _ rfl⟩
    obtain ⟨rfl, hg, hd⟩ := hx.gl h.1.1.1
    exact L2.pi_range3 hg (by rw [hx.em]; exact hG.blt _ (by decide +kernel)) (L2.pa_cons (a1 X hx) (L2.pa_cons (b1 X hx) (L2.pa_cons (c1 X hx) L2.pa_nil (hs''.st _ _)) (hs'.st _ _)) (hs.st _ _)) (hs.st _ _) (by rw [hs'.st, hs''.st]; rfl)
  | .enu a, W, sc, .Tuple ts tk tp, .Call (.Name x q) [pa] [] pos, h => by
    simp only [mI, Bool.and_eq_true] at h
    obtain ⟨⟨ta, a1, a2⟩, _⟩ := okE hG a W sc pa h.2
    have hs := syn_of pa (mE_syn M a sc pa h.2)
    refine ⟨_, fun X hx => ?_, sndI_enu a2, syn_of _ rfl⟩
    obtain ⟨rfl, hg, hd⟩ := hx.gl h.1
    have := L2.pi_enum (elts := ts) (kk := tk) (tpos := tp) (p := q) (pos := pos) hg (by rw [hx.em]; exact hG.blt _ (by decide +kernel)) (L2.pa_cons (a1 X hx) L2.pa_nil (hs.st _ _)) (hs.st _ _)
    rw [hx.eK] at this
    exact this
  | .zip a b, W, sc, .Tuple ts tk tp, .Call (.Name x q) [pa, pb] [] pos, h => by
    simp only [mI, Bool.and_eq_true] at h
    obtain ⟨⟨ta, a1, a2⟩, _⟩ := okE hG a W sc pa h.1.2
    obtain ⟨⟨tb, b1, b2⟩, _⟩ := okE hG b W sc pb h.2
    have hs := syn_of pa (mE_syn M a sc pa h.1.2)
    have hs' := syn_of pb (mE_syn M b sc pb h.2)
    refine ⟨_, fun X hx => ?_, sndI_zip a2 b2, syn_of _ rfl⟩
    obtain ⟨rfl, hg, hd⟩ := hx.gl h.1.1
    have := L2.pi_zip (elts := ts) (kk := tk) (tpos := tp) (p := q) (pos := pos) hg (by rw [hx.em]; exact hG.blt _ (by decide +kernel)) (L2.pa_cons (a1 X hx) (L2.pa_cons (b1 X hx) L2.pa_nil (hs'.st _ _)) (hs.st _ _)) (hs.st _ _) (by rw [hs'.st]; rfl)
    rw [hx.eK] at this
    exact this
theorem okB (hG : MG M cl k prog w K mg base) : ∀ (es : Es) (W : WX) (sc : Scope) (ps : List Expr), mEs M sc es ps = true → ∀ b, es.isNil = false → OkB M cl k prog w K mg base W sc b (pkb (callF M.P k) b es) ps
  | .nil, W, sc, ps, h, b, hn, pos => by cases hn
  | .cons e r, W, sc, [], h, b, hn, pos => by simp [mEs] at h
  | .cons e r, W, sc, p :: ps, h, b, hn, pos => by
    simp only [mEs, Bool.and_eq_true] at h
    obtain ⟨⟨ta, a1, a2⟩, ⟨tt, t1, t2⟩⟩ := okE hG e W sc p h.1
    cases r with
    | nil =>
      cases ps with
      | nil =>
        refine ⟨⟨ta, fun X hx => L2.pe_one (a1 X hx), sndV_one a2⟩, ⟨tt, fun X hx => ?_, sndT_one t2⟩⟩
        cases b
        · exact L2.pw_or1 (t1 X hx)
        · exact L2.pw_and1 (t1 X hx)
      | cons _ _ => simp [mEs] at h
    | cons e' r' =>
      cases ps with
      | nil => simp [mEs] at h
      | cons p' ps' =>
        obtain ⟨⟨tr, r1, r2⟩, ⟨tu, u1, u2⟩⟩ := okB hG (.cons e' r') W sc (p' :: ps') h.2 b rfl pos
        cases b with
        | true => exact ⟨⟨_, fun X hx => L2.pe_and (a1 X hx) (r1 X hx), sndV_and a2 r2⟩, ⟨_, fun X hx => L2.pw_and (t1 X hx) (u1 X hx), sndT_and t2 u2⟩⟩
        | false => exact ⟨⟨_, fun X hx => L2.pe_or (a1 X hx) (r1 X hx), sndV_or a2 r2⟩, ⟨_, fun X hx => L2.pw_or (t1 X hx) (u1 X hx), sndT_or t2 u2⟩⟩
end
end
end VI

set_option maxRecDepth 100000
set_option maxHeartbeats 4000000
/-! VI.Sound16: every statement's IR is sound. -/
namespace VI
open PySem PySem.Spec PyProof.Rows
open L2 (V Hp HO SqL SqT Same upd upd_same upd_ne RelV Vals VK WX OpR R2 CallR TE TT TA TS TG TGs TI TO It PE PT PA PI PO tOp tUn Ends PS PSs)
/-- a def's own place -/
structure XS (M : MX) (k : Nat) (prog : Program) (w : World) (K : PySem.W.Frag) (mg : Str → Option Value) (base : Heap) (X : L2.Cx) (sc : Scope) (W : WX) : Prop extends XG M k prog w K mg base X sc W where
  fnT : X.fn = fun _ => true
  po : PassesOwn (model X.prog X.w) X.A X.env X.xe
  kd : X.env.scope.kind = .function
theorem syn_as : ∀ p : Expr, synK p = true → ∀ o pos env v, assign (.Subscript o p pos) env v = (do
      let ov ← holding [v] (eval o env)
      let iv ← holding [v, ov] (eval p env)
      standAt pos
      holding [v, ov, iv] (setItem ov iv v)
      release [v, ov, iv] [])
  | .Name _ _, _ => fun _ _ _ _ => rfl
  | .Constant _ _ _, _ => fun _ _ _ _ => rfl
  | .UnaryOp _ _ _, _ => fun _ _ _ _ => rfl
  | .BinOp _ _ _ _, _ => fun _ _ _ _ => rfl
  | .Compare _ _ _ _, _ => fun _ _ _ _ => rfl
  | .BoolOp _ _ _, _ => fun _ _ _ _ => rfl
  | .Subscript _ _ _, _ => fun _ _ _ _ => rfl
  | .Tuple _ _ _, _ => fun _ _ _ _ => rfl
  | .List _ _, _ => fun _ _ _ _ => rfl
  | .Call _ _ _ _, _ => fun _ _ _ _ => rfl
  | .ListComp _ _ _ _, _ => fun _ _ _ _ => rfl
theorem syn_au : ∀ p : Expr, synK p = true → ∀ ov iv new, augStore p ov iv new = (do holding [new, ov, iv] (setItem ov iv new); release [new, ov, iv] []; pure .next)
  | .Name _ _, _ => fun _ _ _ => rfl
  | .Constant _ _ _, _ => fun _ _ _ => rfl
  | .UnaryOp _ _ _, _ => fun _ _ _ => rfl
  | .BinOp _ _ _ _, _ => fun _ _ _ => rfl
  | .Compare _ _ _ _, _ => fun _ _ _ => rfl
  | .BoolOp _ _ _, _ => fun _ _ _ => rfl
  | .Subscript _ _ _, _ => fun _ _ _ => rfl
  | .Tuple _ _ _, _ => fun _ _ _ => rfl
  | .List _ _, _ => fun _ _ _ => rfl
  | .Call _ _ _ _, _ => fun _ _ _ => rfl
  | .ListComp _ _ _ _, _ => fun _ _ _ => rfl
theorem syn_sw : ∀ p : Expr, synK p = true → isLC p = false → ∀ t l env, swapsWith p t l env = pure false := fun p h hl => (syn_of p h).sw hl
section
variable {M : MX} {cl : Cl} {k : Nat} {prog : Program} {w : World} {K : PySem.W.Frag} {mg : Str → Option Value} {base : Heap} {W : WX} {sc : Scope}
/-- a comprehension as a value, and as what a name is set to -/
theorem okL (hG : MG M cl k prog w K mg base) {pe : Expr} {gens : List Comprehension} {scope : Scope} {pos : Pos} : ∀ (m : E), mE M sc m (.ListComp pe gens scope pos) = true → ∃ t, SndE K W cl M.N.length (pk (callF M.P k) m) t ∧
    ∀ X, XG M k prog w K mg base X sc W → PE X (.ListComp pe gens scope pos) t ∧ ∀ (i : Nat) (y : Str) (py spos : Pos), X.N[i]? = some y → X.env.scope.names.lookup y = some .local → swapsWith (.ListComp pe gens scope pos) (some (.Name y py)) spos.line X.env = pure true →
      PS X (.Assign [.Name y py] (.ListComp pe gens scope pos) spos) (L2.tAsg t (L2.gName i))
  | .frz a, h => by
    have h : mE M sc a (.ListComp pe gens scope pos) = true := by
      unfold mE at h
      exact h
    obtain ⟨t, t1, t2⟩ := okL hG a h
    exact ⟨t, snd_frz t1, t2⟩
  | .comp e tg it c, h => by
    match gens, h with
    | [⟨ptg, pit, ifs, asy⟩], h =>
      have h : ((asy == 0) && mE M (L2.relS scope sc) e pe && tgB M scope (L2.relS scope sc) tg ptg && mI M sc ptg it pit && L2.blkC M.N sc scope (ownOf M tg) && (match (generalizing := false) c, ifs with
          | .none, [] => true
          | .some d, [pd] => mE M (L2.relS scope sc) d pd
          | _, _ => false)) = true := by
        cases c with
        | none => cases ifs <;> exact h
        | some d =>
          match ifs, h with
          | [], h => exact h
          | [_], h => exact h
          | _ :: _ :: _, h => exact h
      simp only [Bool.and_eq_true, beq_iff_eq] at h
      obtain ⟨⟨⟨⟨⟨rfl, h1⟩, h2⟩, h3⟩, h4⟩, h5⟩ := h
      obtain ⟨⟨te, e1, e2⟩, _⟩ := okE hG e WX0 (L2.relS scope sc) pe h1
      obtain ⟨wi, i1, i2, i3⟩ := okI hG it W sc ptg pit h3
      have hsl : ∀ i ∈ tg.slots, i < M.N.length := by
        cases tg with
        | one i =>
          cases ptg with
          | Name x _ =>
            simp only [tgB, snB, Bool.and_eq_true, beq_iff_eq] at h2
            intro j hj
            have e : j = i := by simpa [Tg.slots] using hj
            rw [e]
            exact (List.getElem?_eq_some_iff.mp h2.1).1
          | _ => simp [tgB, snB] at h2
        | many is =>
          cases ptg with
          | Tuple es _ _ =>
            have h2 : snsB M scope (L2.relS scope sc) is es = true := h2
            exact snsB_lt h2
          | _ => simp [tgB] at h2
      have tests : ∃ tt, (∀ X, XG M k prog w K mg base X sc W → ∀ s H C cs fp, L2.PTs (X.blk s H scope (compEnvC scope cs C X.env) fp) ifs tt) ∧ SndT K WX0 cl M.N.length (fun e2 => match (generalizing := false) c with | .none => .ok (true, e2) | .some c => asBl (pk (callF M.P k) c e2)) tt := by
        cases c with
        | none =>
          cases ifs with
          | nil => exact ⟨L2.tYes, fun X hx s H C cs fp => L2.pts_nil, sndT_yes⟩
          | cons _ _ => simp at h5
        | some d =>
          match ifs, h5 with
          | [pd], h5 =>
            obtain ⟨_, ⟨td, d1, d2⟩⟩ := okE hG d WX0 (L2.relS scope sc) pd h5
            exact ⟨td, fun X hx s H C cs fp => L2.pts_one (d1 _ (hx.blk scope s H C cs fp)), d2⟩
          | [], h5 => cases h5
          | _ :: _ :: _, h5 => cases h5
      obtain ⟨tt, t1, t2⟩ := tests
      refine ⟨L2.tLc wi (tgR K tg) tt te tg.slots, SndE.cong (fun env => by cases c <;> rfl) (snd_comp i2 t2 e2 hsl), fun X hx => ?_⟩
      have ok : L2.BlkOk X.N X.env.scope scope (ownOf M tg) := by
        rw [hx.eN, hx.sc]
        exact L2.blkOk_by h4
      have hN : X.N.Nodup := by rw [hx.eN]; exact hG.nd
      have hg : ∀ (s : Shared) (H : Hp) (C : Addr) (cs : List (Str × Addr)) (fp : List Addr), L2.PG (X.blk s H scope (compEnvC scope cs C X.env) fp) ptg (tgR K tg) := fun s H C cs fp => (pg_tg (M := M) (K := K) (tg := tg) (own := scope) (sc := L2.relS scope sc) (X := X.blk s H scope (compEnvC scope cs C X.env) fp) hN hx.eN (hx.blk scope s H C cs fp).sc (fun x hxx => by
          show (scope.names.lookup x == some .cell) = true
          rw [hxx]; rfl) hx.calm hx.eK h2).1
      constructor
      · have := L2.pe_lc (pos := pos) hx.calm hN (i1 X hx) ok hg (t1 X hx) (fun s H C cs fp => e1 _ (hx.blk scope s H C cs fp)) (fun x => i3.fs _ _)
        rw [ownOf_slots] at this
        exact this
      · intro i y py spos hi hy hsw
        have := L2.ps_setLc (i := i) (y := y) (py := py) (pos := pos) (spos := spos) hx.calm hN hi hy hsw (i1 X hx) ok hg (t1 X hx) (fun s H C cs fp => e1 _ (hx.blk scope s H C cs fp)) (fun x => i3.fs _ _)
        rw [ownOf_slots] at this
        exact this
    | [], h => simp [mE] at h
    | _ :: _ :: _, h => simp [mE] at h
  | .nm _ _, h => by simp [mE] at h
  | .cst _, h => by simp [mE] at h
  | .glc _ _, h => by simp [mE] at h
  | .op1 o _, h => by cases o <;> simp [mE] at h
  | .op2 _ _ _, h => by simp [mE] at h
  | .cmp _ _ _, h => by simp [mE] at h
  | .chn _ _ _ _ _, h => by simp [mE] at h
  | .boo _ _, h => by simp [mE] at h
  | .idx _ _, h => by simp [mE] at h
  | .slc _ _ _, h => by simp [mE] at h
  | .rev _, h => by simp [mE] at h
  | .tup _, h => by simp [mE] at h
  | .lst _, h => by simp [mE] at h
  | .bc1 _ _, h => by simp [mE] at h
  | .bc2 _ _ _, h => by simp [mE] at h
  | .isi _ _, h => by simp [mE] at h
  | .call _ _, h => by simp [mE] at h
  | .mut _ _ _ _, h => by simp [mE] at h
  | .dead, h => ⟨fun _ _ _ => False, fun σ env F H T Q hn mm g => g, fun X hx => ⟨⟨fun _ _ _ _ _ _ z => z.elim⟩, fun i y py spos _ _ _ => ⟨fun _ _ _ _ _ _ z => z.elim⟩⟩⟩
theorem sw_lc {pe : Expr} {gens : List Comprehension} {scope : Scope} {pos py : Pos} {y : Str} {l : Nat} {env : PySem.Env} :
    swapsWith (.ListComp pe gens scope pos) (some (.Name y py)) l env = pure (env.blockKind == .function && env.kindOf y == some .local && py.line == pos.line && !(scope.names.any fun (n, k) => n == y && (k == .local || k == .cell))) := rfl
variable (M cl k prog w K mg base W sc)
def OkS (pr : List Nat) (m : Env → Fl) (p : Stmt) : Prop := ∃ t, (∀ X, XS M k prog w K mg base X sc W → PS X p t) ∧ SndS K W cl pr M.N.length m t
def OkSs (pr : List Nat) (m : Env → Fl) (ps : List Stmt) : Prop := ∃ t, (∀ X, XS M k prog w K mg base X sc W → PSs X ps t) ∧ SndS K W cl pr M.N.length m t
variable {M cl k prog w K mg base W sc}
theorem ok_asg (hG : MG M cl k prog w K mg base) {pr : List Nat} {i : Nat} {e : E} {t p : Expr} {pos : Pos} (h1 : snB M sc sc i t = true) (h2 : i ∉ pr) (h3 : i < M.N.length) (h : mE M sc e p = true) :
    OkS M cl k prog w K mg base W sc pr (ex (callF M.P k) (.asg i e)) (.Assign [t] p pos) := by
  cases t with
  | Name y py =>
    have hy : ∀ X, XS M k prog w K mg base X sc W → X.N.Nodup ∧ X.N[i]? = some y ∧ L2.Loc X.env.scope y ∧ X.fn y = true := fun X hx => by
      simp only [snB, stB, Bool.and_eq_true, beq_iff_eq, Bool.or_eq_true] at h1
      refine ⟨by rw [hx.eN]; exact hG.nd, by rw [hx.eN]; exact h1.1, ?_, by rw [hx.fnT]⟩
      rw [hx.sc]
      exact h1.2.imp id fun z => z.1
    by_cases hl : isLC p = true
    · cases p with
      | ListComp pe gens scope lpos =>
        obtain ⟨t, t1, t2⟩ := okL (W := W) hG e h
        refine ⟨L2.tAsg t (L2.gName i), fun X hx => ?_, sndS_asg t1 h3 h2⟩
        obtain ⟨p1, p2⟩ := t2 X hx.toXG
        obtain ⟨n1, n2, n3, n4⟩ := hy X hx
        cases hb : (X.env.blockKind == .function && X.env.kindOf y == some .local && py.line == lpos.line && !(scope.names.any fun (n, k) => n == y && (k == .local || k == .cell))) with
        | true =>
          refine p2 i y py pos n2 ?_ (by rw [sw_lc, hb])
          simp only [Bool.and_eq_true, beq_iff_eq] at hb
          exact hb.1.1.2
        | false => exact L2.ps_set n1 n2 n3 p1 (by rw [sw_lc, hb]) (.inl n4)
      | _ => cases hl
    · obtain ⟨⟨ta, a1, a2⟩, _⟩ := okE hG e W sc p h
      have hs := mE_syn M e sc p h
      refine ⟨L2.tAsg ta (L2.gName i), fun X hx => ?_, sndS_asg a2 h3 h2⟩
      obtain ⟨n1, n2, n3, n4⟩ := hy X hx
      exact L2.ps_set n1 n2 n3 (a1 X hx.toXG) (syn_sw p hs (by simpa using hl) _ _ _) (.inl n4)
  | _ => simp [snB] at h1
theorem augOp {o : O2} (h : augB o = true) {X : L2.Cx} : L2.PIp X (opOf o) (ipOf o) := by
  cases o with
  | add => exact L2.ip_add
  | sub => exact L2.ip_sub
  | _ => cases h
def S.flat : S → Bool
  | .ife _ _ _ => false | .for_ _ _ _ => false | .whl _ _ => false
  | _ => true
theorem okS0 (hG : MG M cl k prog w K mg base) (pr : List Nat) : ∀ (m : S) (p : Stmt), m.flat = true → mS M pr sc m p = true → OkS M cl k prog w K mg base W sc pr (ex (callF M.P k) m) p
  | .asg i e, p, _, h => by
    cases p with
    | Assign ts pv pos =>
      match ts, h with
      | [t], h =>
        simp only [mS, Bool.and_eq_true, decide_eq_true_eq] at h
        exact ok_asg hG h.1.1.1 h.1.1.2 h.1.2 h.2
      | [], h => simp [mS, unB, subB] at h
      | _ :: _ :: _, h => simp [mS, unB, subB] at h
    | _ => simp [mS, unB, subB] at h
  | .unp is e, p, _, h => by
    cases p with
    | Assign ts pv pos =>
      match ts, h with
      | [t], h =>
        cases t with
        | Tuple es kk tp =>
          simp only [mS, unB, Bool.and_eq_true, decide_eq_true_eq, Bool.not_eq_true'] at h
          obtain ⟨⟨⟨⟨h1, h2⟩, h3⟩, h4⟩, h5⟩ := h
          obtain ⟨⟨ta, a1, a2⟩, _⟩ := okE hG e W sc pv h4
          have hs := syn_of pv (mE_syn M e sc pv h4)
          refine ⟨_, fun X hx => ?_, sndS_unp a2 h3 h2⟩
          have hN : X.N.Nodup := by rw [hx.eN]; exact hG.nd
          obtain ⟨r1, r2, r3, r4⟩ := pg_many (M := M) (own := sc) hN hx.eN hx.sc (fun x _ => by rw [hx.fnT]) h1
          have g := pg_seq (k := kk) (pos := tp) hx.calm r1 r2 r3
          rw [hx.eK] at g
          exact L2.ps_asg (a1 X hx.toXG) g (hs.swT es kk tp pos.line X.env) (hs.stT h5 es kk tp X.env)
        | _ => simp [mS, unB, subB] at h
      | [], h => simp [mS, unB, subB] at h
      | _ :: _ :: _, h => simp [mS, unB, subB] at h
    | _ => simp [mS, unB, subB] at h
  | .sti i q kx e, p, _, h => by
    cases p with
    | Assign ts pv pos =>
      match ts, h with
      | [t], h =>
        cases t with
        | Subscript po pk tp =>
          simp only [mS, subB, Bool.and_eq_true] at h
          obtain ⟨⟨h1, h2⟩, h3⟩ := h
          obtain ⟨⟨ta, a1, a2⟩, _⟩ := okE hG e W sc pv h3
          obtain ⟨⟨tk, k1, k2⟩, _⟩ := okE hG kx W sc pk h2
          obtain ⟨to, o1, o2, _, _⟩ := okP hG q W sc i po h1
          have hs := syn_of pv (mE_syn M e sc pv h3)
          have hk := mE_syn M kx sc pk h2
          refine ⟨_, fun X hx => ?_, sndS_sti a2 o2 k2⟩
          exact L2.ps_asg (a1 X hx.toXG) (L2.pg_sub (o1 X hx.toXG) (k1 X hx.toXG) L2.set_list (syn_as pk hk _ _ _)) (hs.swS po pk tp pos.line X.env) (hs.stS po pk tp X.env)
        | _ => simp [mS, unB, subB] at h
      | [], h => simp [mS, unB, subB] at h
      | _ :: _ :: _, h => simp [mS, unB, subB] at h
    | _ => simp [mS, unB, subB] at h
  | .aug i o e, p, _, h => by
    cases p with
    | AugAssign t op pv pos =>
      simp only [mS, Bool.and_eq_true, decide_eq_true_eq, beq_iff_eq] at h
      obtain ⟨⟨⟨⟨⟨h1, h2⟩, h3⟩, rfl⟩, h5⟩, h6⟩ := h
      obtain ⟨⟨ta, a1, a2⟩, _⟩ := okE hG e W sc pv h6
      cases t with
      | Name y py =>
        refine ⟨_, fun X hx => ?_, sndS_aug a2 h3 h2⟩
        simp only [snB, stB, Bool.and_eq_true, beq_iff_eq, Bool.or_eq_true] at h1
        exact L2.ps_aug (by rw [hx.eN]; exact hG.nd) (by rw [hx.eN]; exact h1.1) (by rw [hx.sc]; exact h1.2.imp id fun z => z.1) (a1 X hx.toXG) (augOp h5) (.inl (by rw [hx.fnT]))
      | _ => simp [snB] at h1
    | _ => simp [mS, unB, subB] at h
  | .aui i q kx o e, p, _, h => by
    cases p with
    | AugAssign t op pv pos =>
      cases t with
      | Subscript po pk tp =>
        simp only [mS, subB, Bool.and_eq_true, beq_iff_eq] at h
        obtain ⟨⟨⟨⟨h1, h2⟩, rfl⟩, h4⟩, h5⟩ := h
        obtain ⟨⟨ta, a1, a2⟩, _⟩ := okE hG e W sc pv h5
        obtain ⟨⟨tk, k1, k2⟩, _⟩ := okE hG kx W sc pk h2
        obtain ⟨to, o1, o2, _, _⟩ := okP hG q W sc i po h1
        have hk := mE_syn M kx sc pk h2
        refine ⟨_, fun X hx => ?_, sndS_aui a2 o2 k2⟩
        exact L2.ps_augS (o1 X hx.toXG) (k1 X hx.toXG) get_list (a1 X hx.toXG) (augOp h4) L2.set_list (syn_au pk hk)
      | _ => simp [mS, unB, subB] at h
    | _ => simp [mS, unB, subB] at h
  | .exp e, p, _, h => by
    cases p with
    | Expr pv pos =>
      simp only [mS, Bool.and_eq_true, Bool.not_eq_true'] at h
      obtain ⟨⟨ta, a1, a2⟩, _⟩ := okE hG e W sc pv h.1
      have hs := syn_of pv (mE_syn M e sc pv h.1)
      exact ⟨_, fun X hx => L2.ps_expr (a1 X hx.toXG) (hs.sw h.2 _ _ _), sndS_exp a2⟩
    | _ => simp [mS, unB, subB] at h
  | .dead, p, _, h => ⟨fun _ _ _ => False, fun X hx => ⟨fun _ _ _ _ _ _ z => z.elim⟩, fun σ env F H T DD hn mm g => g⟩
  | .ife _ _ _, p, hf, h => by cases hf
  | .for_ _ _ _, p, hf, h => by cases hf
  | .whl _ _, p, hf, h => by cases hf
  | .ret e, p, _, h => by
    cases p with
    | Return pv pos =>
      cases pv with
      | some pv =>
        obtain ⟨⟨ta, a1, a2⟩, _⟩ := okE hG e W sc pv (by simpa [mS] using h)
        exact ⟨_, fun X hx => L2.ps_ret (a1 X hx.toXG), sndS_ret a2⟩
      | none => simp [mS, unB, subB] at h
    | _ => simp [mS, unB, subB] at h
  | .retn, p, _, h => by
    cases p with
    | Return pv pos =>
      cases pv with
      | some pv => simp [mS, unB, subB] at h
      | none => exact ⟨_, fun X hx => L2.ps_retN, sndS_retn⟩
    | _ => simp [mS, unB, subB] at h
  | .pas, p, _, h => by
    cases p with
    | Pass pos => exact ⟨_, fun X hx => L2.ps_pass, sndS_nil⟩
    | _ => simp [mS, unB, subB] at h
  | .rai c mm, p, _, h => by
    cases p with
    | Raise pe pc pos =>
      match pe, pc, h with
      | some e, none, h =>
        have h : raB M sc c mm e = true := h
        unfold raB at h
        split at h
        · simp only [Bool.and_eq_true, beq_iff_eq] at h
          obtain ⟨⟨h1, rfl⟩, h3⟩ := h
          obtain ⟨C, hc, f⟩ := hG.xc c h3
          refine ⟨_, fun X hx => ?_, sndS_rai (pr := pr) hc⟩
          obtain ⟨rfl, hg, hd⟩ := hx.gl h1
          obtain ⟨B, newId, initId, bmB, F, q⟩ := f.ex
          exact L2.ps_raise hx.calm hx.tk (L2.pmk_own F (by rw [hx.eK]; exact q) (by rw [hx.em]; exact f.at_) (by rw [hx.eK]; exact f.kp) (L2.raises_own (by rw [hx.eK]; exact f.sb) (by rw [hx.eK]; exact f.ty)) hg hd)
        · cases h
      | none, none, h => simp [mS, unB, subB] at h
      | none, some _, h => simp [mS, unB, subB] at h
      | some _, some _, h => simp [mS, unB, subB] at h
    | _ => simp [mS, unB, subB] at h
mutual
theorem okS (hG : MG M cl k prog w K mg base) (pr : List Nat) : ∀ (m : S) (p : Stmt), mS M pr sc m p = true → OkS M cl k prog w K mg base W sc pr (ex (callF M.P k) m) p
  | .ife c a b, p, h => by
    cases p with
    | If pc pa pb pos =>
      simp only [mS, Bool.and_eq_true] at h
      obtain ⟨_, ⟨tc, c1, c2⟩⟩ := okE hG c W sc pc h.1.1
      obtain ⟨ta, a1, a2⟩ := okSs hG pr a pa h.1.2
      obtain ⟨tb, b1, b2⟩ := okSs hG pr b pb h.2
      exact ⟨_, fun X hx => L2.ps_if (c1 X hx.toXG) (a1 X hx) (b1 X hx), sndS_if c2 a2 b2⟩
    | _ => simp [mS, unB, subB] at h
  | .for_ tg it b, p, h => by
    cases p with
    | For ptg pit pb po pos =>
      cases po with
      | nil =>
        simp only [mS, Bool.and_eq_true, decide_eq_true_eq] at h
        obtain ⟨⟨⟨⟨h1, h2⟩, h3⟩, h4⟩, h5⟩ := h
        obtain ⟨wi, i1, i2, i3⟩ := okI hG it W sc ptg pit h4
        obtain ⟨tb, b1, b2⟩ := okSs hG pr b pb h5
        refine ⟨_, fun X hx => ?_, sndS_for i2 b2 h3 h2⟩
        have hN : X.N.Nodup := by rw [hx.eN]; exact hG.nd
        exact L2.ps_for hx.po hx.calm (i1 X hx.toXG) (pg_tg (M := M) (own := sc) hN hx.eN hx.sc (fun x _ => by rw [hx.fnT]) hx.calm hx.eK h1).1 (b1 X hx) (fun x => i3.fs _ _)
      | cons _ _ => simp [mS, unB, subB] at h
    | _ => simp [mS, unB, subB] at h
  | .whl c b, p, h => by
    cases p with
    | While pc pb po pos =>
      cases po with
      | nil =>
        simp only [mS, Bool.and_eq_true] at h
        obtain ⟨_, ⟨tc, c1, c2⟩⟩ := okE hG c W sc pc h.1
        obtain ⟨tb, b1, b2⟩ := okSs hG pr b pb h.2
        exact ⟨_, fun X hx => L2.ps_while hx.po (c1 X hx.toXG) (b1 X hx), sndS_whl c2 b2⟩
      | cons _ _ => simp [mS, unB, subB] at h
    | _ => simp [mS, unB, subB] at h
  | .asg i e, p, h => okS0 hG pr _ p rfl h
  | .unp is e, p, h => okS0 hG pr _ p rfl h
  | .sti i q kx e, p, h => okS0 hG pr _ p rfl h
  | .aug i o e, p, h => okS0 hG pr _ p rfl h
  | .aui i q kx o e, p, h => okS0 hG pr _ p rfl h
  | .exp e, p, h => okS0 hG pr _ p rfl h
  | .ret e, p, h => okS0 hG pr _ p rfl h
  | .retn, p, h => okS0 hG pr _ p rfl h
  | .pas, p, h => okS0 hG pr _ p rfl h
  | .rai c mm, p, h => okS0 hG pr _ p rfl h
  | .dead, p, h => okS0 hG pr _ p rfl h
theorem okSs (hG : MG M cl k prog w K mg base) (pr : List Nat) : ∀ (m : Ss) (ps : List Stmt), mSs M pr sc m ps = true → OkSs M cl k prog w K mg base W sc pr (exs (callF M.P k) m) ps
  | .nil, [], h => ⟨_, fun X hx => L2.pss_nil, sndS_nil⟩
  | .nil, _ :: _, h => by simp [mSs] at h
  | .cons s r, [], h => by simp [mSs] at h
  | .cons s r, p :: ps, h => by
    simp only [mSs, Bool.and_eq_true] at h
    obtain ⟨ta, a1, a2⟩ := okS hG pr s p h.1
    obtain ⟨tb, b1, b2⟩ := okSs hG pr r ps h.2
    exact ⟨_, fun X hx => L2.pss_cons (a1 X hx) (b1 X hx), sndS_cons a2 b2⟩
  | .dead, ps, h => ⟨L2.tNever, fun X hx => L2.pss_never, fun σ env F H T DD hn mm g => g.elim⟩
end
end
end VI

set_option maxRecDepth 100000
set_option maxHeartbeats 4000000
/-! VI.Sound17: defs hold what callF says. -/
namespace VI
open PySem PySem.Spec PyProof.Rows
open L2 (V Hp HO SqL SqT Same upd upd_same upd_ne RelV Vals VK WX OpR R2 CallR TE TT TA TS TG TGs TI TO It PE PT PA PI PO tOp tUn Ends PS PSs)
section
variable {K : PySem.W.Frag} {F F' H H' : Hp} {T : Addr → Prop}
theorem Reps.split : ∀ {vs : List V} {ds : List D} {L : List Addr}, Reps K F H vs ds L → L.Nodup → ∃ Lf : Nat → List Addr, (∀ i d, ds[i]? = some d → ∃ v, vs[i]? = some v ∧ Rep K F H v d (Lf i)) ∧
    (∀ i, ds[i]? = none → Lf i = []) ∧ (∀ i a, a ∈ Lf i → a ∈ L) ∧ (∀ i, (Lf i).Nodup) ∧ ∀ i j a, a ∈ Lf i → a ∈ Lf j → i = j
  | _, _, _, .nil, _ => ⟨fun _ => [], fun i d h => by simp at h, fun _ _ => rfl, fun i a h => absurd h List.not_mem_nil, fun _ => List.nodup_nil, fun i j a h => absurd h List.not_mem_nil⟩
  | _, _, _, .cons (L1 := A) (L2 := B) r rs, nd => by
    rw [List.nodup_append] at nd
    obtain ⟨Lf, h1, h2, h3, h4, h5⟩ := Reps.split rs nd.2.1
    refine ⟨fun i => match i with | 0 => A | i + 1 => Lf i, fun i d h => ?_, fun i h => ?_, fun i a h => ?_, fun i => ?_, fun i j a h h' => ?_⟩
    · cases i with
      | zero =>
        have e := Option.some.inj (show some _ = some d from h)
        rw [← e]
        exact ⟨_, rfl, r⟩
      | succ i =>
        obtain ⟨v, a1, a2⟩ := h1 i d (by simpa using h)
        exact ⟨v, by simpa using a1, a2⟩
    · cases i with
      | zero => simp at h
      | succ i => exact h2 i (by simpa using h)
    · cases i with
      | zero => exact List.mem_append_left _ h
      | succ i => exact List.mem_append_right _ (h3 i a h)
    · cases i with
      | zero => exact nd.1
      | succ i => exact h4 i
    · cases i with
      | zero =>
        cases j with
        | zero => rfl
        | succ j => exact absurd rfl (nd.2.2 a h a (h3 j a h'))
      | succ i =>
        cases j with
        | zero => exact absurd rfl (nd.2.2 a h' a (h3 i a h))
        | succ j => rw [h5 i j a h h']
theorem getD_app {ds : List D} {m i : Nat} : (ds.map some ++ List.replicate m none).getD i none = ds[i]? := by
  rw [List.getD_eq_getElem?_getD]
  by_cases h : i < ds.length
  · rw [List.getElem?_append_left (by rw [List.length_map]; exact h), List.getElem?_map, List.getElem?_eq_getElem h]
    rfl
  · rw [List.getElem?_append_right (by rw [List.length_map]; omega), List.getElem?_eq_none (Nat.le_of_not_lt h)]
    by_cases q : i - (ds.map some).length < m
    · rw [List.getElem?_replicate_of_lt q]
      rfl
    · rw [List.getElem?_eq_none (by rw [List.length_replicate]; omega)]
      rfl
theorem start_at {N : List Str} {vs : List V} {i : Nat} {v : V} (h : vs[i]? = some v) : (L2.start N vs)[i]? = some (some v) := by
  unfold L2.start
  obtain ⟨l, e⟩ := List.getElem?_eq_some_iff.mp h
  rw [List.getElem?_append_left (by rw [List.length_map]; exact l), List.getElem?_map, h]
  rfl
/-- the memory at a def's entry -/
theorem mem_start {vs : List V} {ds : List D} {L : List Addr} {N : List Str} {np ns : Nat} (s : Same F H) (r : Reps K F H vs ds L) (nd : L.Nodup) (hL : ∀ a ∈ L, F a = none ∧ H a ≠ none) (h1 : vs.length = np) (h2 : N.length = ns) (hle : np ≤ ns) :
    Mem K F H (fun a => H a ≠ none ∧ F a = none ∧ a ∉ L) (L2.start N vs) (ds.map some ++ List.replicate (ns - np) none) := by
  obtain ⟨Lf, a1, a2, a3, a4, a5⟩ := r.split nd
  have hl := r.length
  refine ⟨s, fun a ha => ⟨ha.2.1, ha.1⟩, ?_, Lf, ⟨fun i d h => ?_, fun i h => ?_, a4, a5, fun i a h => ?_⟩⟩
  · unfold L2.start
    rw [List.length_append, List.length_append, List.length_map, List.length_map, List.length_replicate, List.length_replicate]
    omega
  · rw [getD_app] at h
    obtain ⟨v, b1, b2⟩ := a1 i d h
    exact ⟨v, start_at b1, b2⟩
  · rw [getD_app] at h
    exact a2 i h
  · have hh := hL a (a3 i a h)
    exact ⟨hh.1, fun z => z.2.2 (a3 i a h), hh.2⟩
/-- what the in-out places hold at the end -/
theorem outs_of {σ' : L2.St} {e : Env} {Lf : Nat → List Addr} (s : Slot K F' H' T σ' e Lf) {vs : List V} : ∀ (io : List Nat), io.Nodup → (∀ j ∈ io, ∃ v, vs[j]? = some v ∧ σ'[j]? = some (some v)) →
    ∃ Lo, OutR K F' H' (io.map fun j => vs.getD j .non) (io.map fun i => e.getD i none) Lo ∧ Lo.Nodup ∧ ∀ a ∈ Lo, ∃ j ∈ io, a ∈ Lf j
  | [], _, _ => ⟨[], .nil, List.nodup_nil, fun a h => absurd h List.not_mem_nil⟩
  | j :: io, nd, h => by
    rw [List.nodup_cons] at nd
    obtain ⟨Lo, o1, o2, o3⟩ := outs_of s io nd.2 fun i hi => h i (List.mem_cons_of_mem _ hi)
    obtain ⟨v, h1, h2⟩ := h j List.mem_cons_self
    have ev : vs.getD j .non = v := by
      rw [List.getD_eq_getElem?_getD, h1]
      rfl
    rw [List.map_cons, List.map_cons, ev]
    cases hd : e.getD j none with
    | none => exact ⟨Lo, .no o1, o2, fun a ha => by
        obtain ⟨i, hi, hj⟩ := o3 a ha
        exact ⟨i, List.mem_cons_of_mem _ hi, hj⟩⟩
    | some d =>
      obtain ⟨w, w1, w2⟩ := s.has j d hd
      rw [h2] at w1
      have e' : v = w := Option.some.inj (Option.some.inj w1)
      subst e'
      refine ⟨Lf j ++ Lo, .yes w2 o1, ?_, fun a ha => ?_⟩
      · rw [List.nodup_append]
        refine ⟨s.nd j, o2, fun a ha b hb e => ?_⟩
        subst e
        obtain ⟨i, hi, hj⟩ := o3 a hb
        have := s.dj j i a ha hj
        subst this
        exact nd.1 hi
      · rcases List.mem_append.mp ha with z | z
        · exact ⟨j, List.mem_cons_self, z⟩
        · obtain ⟨i, hi, hj⟩ := o3 a z
          exact ⟨i, List.mem_cons_of_mem _ hi, hj⟩
/-- the end of a def's run -/
theorem aft_of {L Lr : List Addr} {σ' : L2.St} {e : Env} {vs : List V} {io : List Nat} {N : List Str} (hTT : T = fun a => H a ≠ none ∧ F a = none ∧ a ∉ L) (hf : Same F F') (hk : ∀ a, T a → H' a = H a) (nd : Lr.Nodup) (nt : ∀ a ∈ Lr, ¬ T a)
    (m : Mem K F' H' (Tp T Lr) σ' e) (kp : Kept io (L2.start N vs) σ') (hio : io.Nodup) (hlt : ∀ j ∈ io, j < vs.length) :
    ∃ Lo, OutR K F' H' (io.map fun j => vs.getD j .non) (io.map fun i => e.getD i none) Lo ∧ Aft K F H L F' H' Lr Lo := by
  obtain ⟨Lf, s⟩ := m.sl
  obtain ⟨Lo, o1, o2, o3⟩ := outs_of s (vs := vs) io hio fun j hj => by
    have hl := hlt j hj
    have e1 : vs[j]? = some vs[j] := List.getElem?_eq_getElem hl
    exact ⟨vs[j], e1, (kp.2 j hj).trans (start_at e1)⟩
  refine ⟨Lo, o1, hf, m.sub, fun a h1 h2 h3 => ?_, ?_, fun a ha => ?_⟩
  · have t : T a := by rw [hTT]; exact ⟨h1, h2, h3⟩
    exact ⟨hk a t, (m.fr a (.inl t)).1⟩
  · rw [List.nodup_append]
    refine ⟨nd, o2, fun a ha b hb e => ?_⟩
    subst e
    obtain ⟨j, _, hj⟩ := o3 a hb
    exact (s.ok j a hj).2.1 (.inr ha)
  · have key : F' a = none ∧ H' a ≠ none ∧ ¬ T a := by
      rcases List.mem_append.mp ha with z | z
      · exact ⟨(m.fr a (.inr z)).1, (m.fr a (.inr z)).2, nt a z⟩
      · obtain ⟨j, _, hj⟩ := o3 a z
        obtain ⟨b1, b2, b3⟩ := s.ok j a hj
        exact ⟨b1, b3, fun t => b2 (.inl t)⟩
    refine ⟨key.1, key.2.1, ?_⟩
    by_cases q : H a = none
    · exact .inl q
    · refine .inr (Classical.byContradiction fun hn => key.2.2 ?_)
      rw [hTT]
      refine ⟨q, ?_, hn⟩
      cases qq : F a with
      | none => rfl
      | some o =>
        have := hf a o qq
        rw [key.1] at this
        cases this
end
/-! ### the table of defs -/
/-- what is known of the def f -/
structure TF (K : PySem.W.Frag) (mg : Str → Option Value) (P : Prg) (G : String → C → Bool) (XX : String → Bool) (f : String) (fn : Fn) : Prop where
  ex : ∃ (st : Stmt) (N ps : List Str) (fa : Addr) (fd : FuncData), mg (Str.ofString f) = some (.ref fa) ∧ L2.Fun K (Str.ofString f) (Str.ofString f) st fa fd ∧ L2.FnScope N ps (L2.defScope st) ∧ (∀ us : List Value, us.length = ps.length → bindArgs fd ⟨us, []⟩ = pure (ps.zip us)) ∧
    ps.length = fn.np ∧ N.length = fn.ns ∧ fn.np ≤ fn.ns ∧ fn.io.Nodup ∧ (∀ j ∈ fn.io, j < fn.np) ∧ mSs ⟨G, P, N, XX⟩ fn.io (L2.defScope st) fn.body (L2.defBody st) = true
structure Tab (K : PySem.W.Frag) (cl : Cl) (mg : Str → Option Value) (P : Prg) (G : String → C → Bool) (XX : String → Bool) : Prop where
  blt : ∀ x ∈ bltNames, mg x = none
  glc : ∀ g c, G g c = true → ∃ u, mg (Str.ofString g) = some u ∧ RelV (cV c) u
  xc : ∀ c, XX c = true → ∃ C, cl c = some C ∧ XF K mg c C
  fn : ∀ f fn, P f = some fn → TF K mg P G XX f fn
theorem fn_step {K : PySem.W.Frag} {cl : Cl} {mg : Str → Option Value} {P : Prg} {G : String → C → Bool} {XX : String → Bool} {prog : Program} {w : World} {base : Heap} (t : Tab K cl mg P G XX) {k : Nat} {f : String} {fn : Fn} (hf : P f = some fn)
    (ih : ∀ (f : String) (fn : Fn), P f = some fn → ∃ fa fd ps, mg (Str.ofString f) = some (.ref fa) ∧ PySem.W.keepIn K (.ref fa) = true ∧ L2.Binds K fd ps [] ∧ L2.FnOk prog w K mg base (L2.CX prog w) k fa fd ps (spF K cl P k f))
    {st : Stmt} {N ps : List Str} {fa : Addr} {fd : FuncData} (h1 : mg (Str.ofString f) = some (.ref fa)) (h2 : L2.Fun K (Str.ofString f) (Str.ofString f) st fa fd) (h3 : L2.FnScope N ps (L2.defScope st)) (h4 : ∀ us : List Value, us.length = ps.length → bindArgs fd ⟨us, []⟩ = pure (ps.zip us)) (h5 : ps.length = fn.np) (h6 : N.length = fn.ns) (h7 : fn.np ≤ fn.ns) (h8 : fn.io.Nodup) (h9 : ∀ j ∈ fn.io, j < fn.np) (h10 : mSs ⟨G, P, N, XX⟩ fn.io (L2.defScope st) fn.body (L2.defBody st) = true) : L2.FnOk prog w K mg base (L2.CX prog w) (k + 1) fa fd ps (spF K cl P (k + 1) f) := by
  have hG : MG ⟨G, P, N, XX⟩ cl k prog w K mg base := ⟨h3.nd, t.blt, t.glc, t.xc, ih⟩
  refine h2.okX h3 (fun vs H Q E h => ?_) fun cdv A outer s H vs Q E hr h => ?_
  · obtain ⟨_, _, _, fn', hf', hl, _⟩ := h
    rw [hf] at hf'
    have e : fn = fn' := Option.some.inj hf'
    subst e
    rw [hl, h5]
  · obtain ⟨F, ds, L, fn', hf', hl, sm, rp, nd, hL, hc⟩ := h
    rw [hf] at hf'
    have e : fn = fn' := Option.some.inj hf'
    subst e
    obtain ⟨tt, t1, t2⟩ := okSs (W := fun cls d _ H => E cls d H) (sc := L2.defScope st) hG fn.io fn.body (L2.defBody st) h10
    refine ⟨tt, t1 _ ⟨⟨rfl, rfl, rfl, rfl, rfl, rfl, rfl, rfl, hr, L2.takes_of rfl rfl rfl rfl⟩, rfl, L2.passes_of rfl, h3.kind⟩, ?_⟩
    have m0 := mem_start (N := N) sm rp nd hL hl h6 h7
    have hn : (L2.start N vs).length = N.length := by
      unfold L2.start
      rw [List.length_append, List.length_map, List.length_replicate]
      omega
    refine t2 (L2.start N vs) _ F H _ _ hn m0 ?_
    have hlt : ∀ j ∈ fn.io, j < vs.length := fun j hj => by rw [hl]; exact h9 j hj
    have hds : ds.length = fn.np := by rw [← rp.length]; exact hl
    unfold callF at hc
    rw [hf] at hc
    simp only [hds, and_self, if_true] at hc
    cases he : exs (callF P k) fn.body (ds.map some ++ List.replicate (fn.ns - fn.np) none) with
    | bad => rw [he] at hc; exact hc.elim
    | nxt e =>
      rw [he] at hc
      intro σ' F' H' f' k' m' kp
      obtain ⟨Lo, o1, o2⟩ := aft_of (Lr := []) rfl f' k' List.nodup_nil (fun a z => absurd z List.not_mem_nil) (by rw [Tp_nil]; exact m') kp h8 hlt
      exact hc .non F' H' [] Lo .non o1 o2
    | ret d e =>
      rw [he] at hc
      intro v σ' F' H' Lr f' k' r' nd' nt' m' kp
      obtain ⟨Lo, o1, o2⟩ := aft_of rfl f' k' nd' nt' m' kp h8 hlt
      exact hc v F' H' Lr Lo r' o1 o2
    | exc c e =>
      rw [he] at hc
      intro C σ' F' H' hC f' k' m' kp
      obtain ⟨Lo, o1, o2⟩ := aft_of (Lr := []) rfl f' k' List.nodup_nil (fun a z => absurd z List.not_mem_nil) (by rw [Tp_nil]; exact m') kp h8 hlt
      exact hc C F' H' Lo hC o1 o2
theorem tab_ok {K : PySem.W.Frag} {cl : Cl} {mg : Str → Option Value} {P : Prg} {G : String → C → Bool} {XX : String → Bool} {prog : Program} {w : World} {base : Heap} (t : Tab K cl mg P G XX) :
    ∀ (k : Nat) (f : String) (fn : Fn), P f = some fn → ∃ fa fd ps, mg (Str.ofString f) = some (.ref fa) ∧ PySem.W.keepIn K (.ref fa) = true ∧ L2.Binds K fd ps [] ∧ L2.FnOk prog w K mg base (L2.CX prog w) k fa fd ps (spF K cl P k f)
  | 0, f, fn, hf => by
    obtain ⟨st, N, ps, fa, fd, h1, h2, h3, h4, h5, h6, h7, h8, h9, h10⟩ := (t.fn f fn hf).ex
    refine ⟨fa, fd, ps, h1, h2.kp, .all h4, fun vs H Q E h => ?_, fun A outer s H args us vs Q E hr I b r h => ?_⟩
    · obtain ⟨_, _, _, _, _, _, _, _, _, _, z⟩ := h
      exact z.elim
    · obtain ⟨_, _, _, _, _, _, _, _, _, _, z⟩ := h
      exact z.elim
  | k + 1, f, fn, hf => by
    obtain ⟨st, N, ps, fa, fd, h1, h2, h3, h4, h5, h6, h7, h8, h9, h10⟩ := (t.fn f fn hf).ex
    exact ⟨fa, fd, ps, h1, h2.kp, .all h4, fn_step t hf (tab_ok t k) h1 h2 h3 h4 h5 h6 h7 h8 h9 h10⟩
theorem law_sp {K : PySem.W.Frag} {cl : Cl} {P : Prg} {k : Nat} {fn : Fn} (hP : P "law" = some fn) (hnp : fn.np = 1) (hio : fn.io = []) {H : Hp} {a : Addr} {ns : List Int} (hS : SqL K H a (ns.map V.int)) (h : callF P k "law" [] [.scr ns] = .ok (.bl true) []) :
    spF K cl P k "law" [.ref a] H (fun v _ => v = .bl true) fun _ _ _ => False := by
  refine ⟨H, [.scr ns], [], fn, hP, by rw [hnp]; rfl, Same.refl H, .one (.scr hS), List.nodup_nil, fun a z => absurd z List.not_mem_nil, ?_⟩
  rw [hio, h]
  intro v F' H' Lr Lo r _ _
  cases r
  rfl
theorem cx_no {w : World} {P : Program} {H : Hp} {s : Shared} {e : Value} {s' : Shared} (h : L2.CX P w [] H s (fun _ _ _ => False) e s') : False := by
  obtain ⟨_, _, _, _, _, _, _, _, _, _, _, _, z⟩ := h
  exact z
end VI

set_option maxRecDepth 100000
set_option maxHeartbeats 4000000
/-! VI.Pure: the interpreter, from the front to the back: rules to run a text by. -/
namespace VI
/-! the value of a slot; a test; a value of an operation -/
def getv (env : Env) (i : Nat) (k : D → Fl) : Fl := match env.getD i none with
  | some d => k d
  | none => .bad
def optv (o : Option D) (k : D → Fl) : Fl := match o with
  | some d => k d
  | none => .bad
def optl (o : Option (List D)) (k : List D → Fl) : Fl := match o with
  | some d => k d
  | none => .bad
/-- a value that stands alone -/
def alone (r : Rt) (k : Fl) : Fl := match r with
  | none => k
  | some _ => .bad
def isB (d : D) (k : Bool → Fl) : Fl := match d with
  | .bl b => k b
  | _ => .bad
def isI (d : D) (k : Int → Fl) : Fl := match d with
  | .int b => k b
  | _ => .bad
def putE (o : Option Env) (k : Env → Fl) : Fl := match o with
  | some e => k e
  | none => .bad
def callK (c : CR) (ios : List Nat) (e : Env) (k : D → Rt → Env → Fl) : Fl := match c with
  | .ok d outs => k d none (putOuts ios outs e)
  | .exc c outs => .exc c (putOuts ios outs e)
  | .bad => .bad
def compK (x : R (List D × Env)) (k : List D → Env → Fl) : Fl := x.fl fun (ds, e) => k ds e
variable (cf : CF)
def evF (e : E) (env : Env) (k : D → Rt → Env → Fl) : Fl := (pk cf e env).fl fun (d, r, e1) => k d r e1
/-- .. that stands alone -/
def evO (e : E) (env : Env) (k : D → Env → Fl) : Fl := evF cf e env fun d r e1 => alone r (k d e1)
def evT (e : E) (env : Env) (k : Bool → Env → Fl) : Fl := evF cf e env fun d _ e1 => isB d fun b => k b e1
def evB (b : Bool) (es : Es) (env : Env) (k : Bool → Env → Fl) : Fl := (pkb cf b es env).fl fun (d, e1) => k d e1
def evS (es : Es) (env : Env) (k : List D → Env → Fl) : Fl := (pks cf es env).fl fun (d, e1) => k d e1
def evA (as : Ags) (env : Env) (k : List D → Env → Fl) : Fl := (pka cf as env).fl fun (d, e1) => k d e1
def evOp (e : Eo) (env : Env) (k : Option Int → Env → Fl) : Fl := (pko cf e env).fl fun (d, e1) => k d e1
def evP (p : Pth) (d : D) (env : Env) (k : List D → D → Env → Fl) : Fl := (pkp cf p d env).fl fun (st, d1, e1) => k st d1 e1
def evI (it : It) (env : Env) (k : List D → Env → Fl) : Fl := (its cf it env).fl fun (xs, e1) => k xs e1
noncomputable def runS (ss : Ss) (env : Env) (k : Env → Fl) : Fl := (exs cf ss env).seq k
noncomputable def run1 (s : S) (env : Env) (k : Env → Fl) : Fl := (ex cf s env).seq k
variable {cf : CF} {env : Env}
theorem bind_fl {α β : Type} (m : R α) (f : α → R β) (k : β → Fl) : (m >>= f).fl k = m.fl fun a => (f a).fl k := by cases m <;> rfl
theorem own_fl (m : R (D × Rt × Env)) (k : D × Env → Fl) : (own m).fl k = m.fl fun (d, r, e) => alone r (k (d, e)) := by
  cases m with
  | ok p => obtain ⟨d, r, e⟩ := p; cases r <;> rfl
  | exc c e => rfl
  | bad => rfl
theorem asBl_fl (m : R (D × Rt × Env)) (k : Bool × Env → Fl) : (asBl m).fl k = m.fl fun (d, r, e) => isB d fun b => k (b, e) := by
  cases m with
  | ok p => obtain ⟨d, r, e⟩ := p; cases d <;> rfl
  | exc c e => rfl
  | bad => rfl
theorem fin_fl (z : Option D) (e : Env) (k : D × Rt × Env → Fl) : (fin z e).fl k = optv z fun d => k (d, none, e) := by cases z <;> rfl
theorem evF_pk {i : Nat} {k : D → Rt → Env → Fl} : evF cf (.nm .pk i) env k = getv env i fun d => k d (rootOf d i) env := by
  show (match env.getD i none with | some d => (R.ok (d, rootOf d i, env) : R (D × Rt × Env)) | none => .bad).fl _ = _
  unfold getv
  cases env.getD i none <;> rfl
theorem evF_fz {i : Nat} {k : D → Rt → Env → Fl} : evF cf (.nm .fz i) env k = getv env i fun d => k d.frz none (env.set i (some d.frz)) := by
  show (match env.getD i none with | some d => (R.ok (d.frz, none, env.set i (some d.frz)) : R (D × Rt × Env)) | none => .bad).fl _ = _
  unfold getv
  cases env.getD i none <;> rfl
theorem evF_mv {i : Nat} {k : D → Rt → Env → Fl} : evF cf (.nm .mv i) env k = getv env i fun d => k d none (env.set i none) := by
  show (match env.getD i none with | some d => (R.ok (d, none, env.set i none) : R (D × Rt × Env)) | none => .bad).fl _ = _
  unfold getv
  cases env.getD i none <;> rfl
theorem evF_cst {c : C} {k : D → Rt → Env → Fl} : evF cf (.cst c) env k = k c.d none env := id rfl
theorem evF_glc {g : String} {c : C} {k : D → Rt → Env → Fl} : evF cf (.glc g c) env k = k c.d none env := id rfl
theorem evF_op1 {o : O1} {a : E} {k : D → Rt → Env → Fl} : evF cf (.op1 o a) env k = evF cf a env fun x _ e1 => optv (op1D o x) fun z => k z none e1 := by
  show (pk cf a env >>= _).fl _ = _
  rw [bind_fl]
  unfold evF
  congr 1
  funext ⟨x, r, e1⟩
  exact fin_fl _ _ _
theorem evF_op2 {o : O2} {a b : E} {k : D → Rt → Env → Fl} : evF cf (.op2 o a b) env k = evF cf a env fun x r e1 => evF cf b (hid r e1) fun y _ e2 => optv (op2D o x y) fun z => k z none (unh r e1 e2) := by
  show (pk cf a env >>= _).fl _ = _
  rw [bind_fl]
  unfold evF
  congr 1
  funext ⟨x, r, e1⟩
  show (pk cf b (hid r e1) >>= _).fl _ = _
  rw [bind_fl]
  congr 1
  funext ⟨y, r', e2⟩
  exact fin_fl _ _ _
theorem evF_cmp {o : OC} {a b : E} {k : D → Rt → Env → Fl} : evF cf (.cmp o a b) env k = evF cf a env fun x r e1 => evF cf b (hid r e1) fun y _ e2 => optv (cmpD o x y) fun z => k z none (unh r e1 e2) := by
  show (pk cf a env >>= _).fl _ = _
  rw [bind_fl]
  unfold evF
  congr 1
  funext ⟨x, r, e1⟩
  show (pk cf b (hid r e1) >>= _).fl _ = _
  rw [bind_fl]
  congr 1
  funext ⟨y, r', e2⟩
  exact fin_fl _ _ _
theorem evF_bc2 {f : B2} {a b : E} {k : D → Rt → Env → Fl} : evF cf (.bc2 f a b) env k = evF cf a env fun x r e1 => evF cf b (hid r e1) fun y _ e2 => optv (b2D f x y) fun z => k z none (unh r e1 e2) := by
  show (pk cf a env >>= _).fl _ = _
  rw [bind_fl]
  unfold evF
  congr 1
  funext ⟨x, r, e1⟩
  show (pk cf b (hid r e1) >>= _).fl _ = _
  rw [bind_fl]
  congr 1
  funext ⟨y, r', e2⟩
  exact fin_fl _ _ _
theorem evF_bc1 {f : B1} {a : E} {k : D → Rt → Env → Fl} : evF cf (.bc1 f a) env k = evF cf a env fun x _ e1 => optv (b1D f x) fun z => k z none e1 := by
  show (pk cf a env >>= _).fl _ = _
  rw [bind_fl]
  unfold evF
  congr 1
  funext ⟨x, r, e1⟩
  exact fin_fl _ _ _
theorem evF_rev {a : E} {k : D → Rt → Env → Fl} : evF cf (.rev a) env k = evF cf a env fun x _ e1 => optv (revD x) fun z => k z none e1 := by
  show (pk cf a env >>= _).fl _ = _
  rw [bind_fl]
  unfold evF
  congr 1
  funext ⟨x, r, e1⟩
  exact fin_fl _ _ _
theorem evF_isi {t : Ty} {a : E} {k : D → Rt → Env → Fl} : evF cf (.isi t a) env k = evF cf a env fun x _ e1 => optv ((isiD t x).map .bl) fun z => k z none e1 := by
  show (pk cf a env >>= _).fl _ = _
  rw [bind_fl]
  unfold evF
  congr 1
  funext ⟨x, r, e1⟩
  exact fin_fl _ _ _
theorem evF_idx {a b : E} {k : D → Rt → Env → Fl} : evF cf (.idx a b) env k = evF cf a env fun x r e1 => evF cf b (hid r e1) fun y _ e2 => optv (idxD x y) fun z => k z (subRoot z r) (unh r e1 e2) := by
  show (pk cf a env >>= _).fl _ = _
  rw [bind_fl]
  unfold evF
  congr 1
  funext ⟨x, r, e1⟩
  show (pk cf b (hid r e1) >>= _).fl _ = _
  rw [bind_fl]
  congr 1
  funext ⟨y, r', e2⟩
  show (match idxD x y with | some z => (R.ok (z, subRoot z r, unh r e1 e2) : R (D × Rt × Env)) | none => .bad).fl _ = _
  dsimp only
  cases idxD x y <;> rfl
theorem evF_chn {o o' : OC} {a b c : E} {k : D → Rt → Env → Fl} : evF cf (.chn o o' a b c) env k = evO cf a env fun x e1 => evO cf b e1 fun y e2 => optv (cmpD o x y) fun z => isB z fun t => if t = true then evF cf c e2 fun w _ e3 => optv (cmpD o' y w) fun z => k z none e3 else k (.bl false) none e2 := by
  show (own (pk cf a env) >>= _).fl _ = _
  rw [bind_fl, own_fl]
  unfold evO evF
  congr 1
  funext ⟨x, r, e1⟩
  cases r with
  | some i => rfl
  | none =>
    show (own (pk cf b e1) >>= _).fl _ = _
    rw [bind_fl, own_fl]
    show _ = (pk cf b e1).fl _
    congr 1
    funext ⟨y, r, e2⟩
    cases r with
    | some i => rfl
    | none =>
      show (match cmpD o x y with
        | some (.bl true) => pk cf c e2 >>= fun (z, _, e3) => fin (cmpD o' y z) e3
        | some (.bl false) => .ok (.bl false, none, e2)
        | _ => .bad).fl _ = optv (cmpD o x y) _
      cases cmpD o x y with
      | none => rfl
      | some z =>
        cases z with
        | bl t =>
          cases t with
          | false => rfl
          | true =>
            show (pk cf c e2 >>= _).fl _ = _
            rw [bind_fl]
            show _ = (pk cf c e2).fl _
            congr 1
            funext ⟨w, r', e3⟩
            exact fin_fl _ _ _
        | _ => rfl
theorem evF_boo {b : Bool} {es : Es} {k : D → Rt → Env → Fl} : evF cf (.boo b es) env k = evB cf b es env fun t e1 => k (.bl t) none e1 := by
  show (pkb cf b es env >>= _).fl _ = _
  rw [bind_fl]
  rfl
theorem evF_slc {a : E} {lo hi : Eo} {k : D → Rt → Env → Fl} : evF cf (.slc a lo hi) env k = evF cf a env fun x r e1 => evOp cf lo (hid r e1) fun l e2 => evOp cf hi e2 fun h e3 => optv (slcD x l h) fun z => k z none (unh r e1 e3) := by
  show (pk cf a env >>= _).fl _ = _
  rw [bind_fl]
  unfold evF
  congr 1
  funext ⟨x, r, e1⟩
  show (pko cf lo (hid r e1) >>= _).fl _ = _
  rw [bind_fl]
  unfold evOp
  congr 1
  funext ⟨l, e2⟩
  show (pko cf hi e2 >>= _).fl _ = _
  rw [bind_fl]
  congr 1
  funext ⟨h, e3⟩
  exact fin_fl _ _ _
theorem evF_tup {es : Es} {k : D → Rt → Env → Fl} : evF cf (.tup es) env k = evS cf es env fun ds e1 => if ds.length ≤ line then k (.tup ds) none e1 else .bad := by
  show (pks cf es env >>= _).fl _ = _
  rw [bind_fl]
  unfold evS
  congr 1
  funext ⟨ds, e1⟩
  show (if ds.length ≤ line then (R.ok (.tup ds, none, e1) : R (D × Rt × Env)) else .bad).fl _ = _
  dsimp only
  split <;> rfl
theorem evF_lst {es : Es} {k : D → Rt → Env → Fl} : evF cf (.lst es) env k = evS cf es env fun ds e1 => if ds.length ≤ line then k (.lst true ds) none e1 else .bad := by
  show (pks cf es env >>= _).fl _ = _
  rw [bind_fl]
  unfold evS
  congr 1
  funext ⟨ds, e1⟩
  show (if ds.length ≤ line then (R.ok (.lst true ds, none, e1) : R (D × Rt × Env)) else .bad).fl _ = _
  dsimp only
  split <;> rfl
theorem evF_frz {a : E} {k : D → Rt → Env → Fl} : evF cf (.frz a) env k = evO cf a env fun x e1 => k x.frz none e1 := by
  show (own (pk cf a env) >>= _).fl _ = _
  rw [bind_fl, own_fl]
  rfl
theorem evF_call {f : String} {as : Ags} {k : D → Rt → Env → Fl} : evF cf (.call f as) env k = evA cf as env fun ds e1 => callK (cf f (as.iop 0) ds) as.ios e1 k := by
  show (pka cf as env >>= _).fl _ = _
  rw [bind_fl]
  unfold evA
  congr 1
  funext ⟨ds, e1⟩
  show (match cf f (as.iop 0) ds with
    | .ok d outs => (R.ok (d, none, putOuts as.ios outs e1) : R (D × Rt × Env))
    | .exc c outs => .exc c (putOuts as.ios outs e1)
    | .bad => .bad).fl _ = _
  dsimp only
  cases cf f (as.iop 0) ds <;> rfl
/-- a comprehension's test -/
def tstF (cf : CF) : Eo → Env → R (Bool × Env)
  | .none, e => .ok (true, e)
  | .some c, e => asBl (pk cf c e)
theorem evF_comp {e : E} {tg : Tg} {it : It} {c : Eo} {k : D → Rt → Env → Fl} : evF cf (.comp e tg it c) env k = evI cf it env fun xs e1 => compK (cloop (tstF cf c) (fun e2 => own (pk cf e e2)) tg xs (clr tg.slots e1) []) fun ds e2 => k (.lst true ds) none (bck tg.slots e1 e2) := by
  have h : pk cf (.comp e tg it c) env = (its cf it env >>= fun (xs, e1) => cloop (tstF cf c) (fun e2 => own (pk cf e e2)) tg xs (clr tg.slots e1) [] >>= fun (ds, e2) => .ok (.lst true ds, none, bck tg.slots e1 e2)) := by cases c <;> rfl
  unfold evF
  rw [h, bind_fl]
  unfold evI
  congr 1
  funext ⟨xs, e1⟩
  show (cloop (tstF cf c) (fun e2 => own (pk cf e e2)) tg xs (clr tg.slots e1) [] >>= _).fl _ = _
  rw [bind_fl]
  rfl
theorem evF_mut0 {m : Mu} {i : Nat} {as : Es} {k : D → Rt → Env → Fl} : evF cf (.mut m i .nil as) env k = getv env i fun d0 => if d0.isOwn = true then evS cf as env fun ds e2 => getv e2 i fun d => match mutD m d ds with
    | some (y, d') => k y none (e2.set i (some d'))
    | none => .bad
    else .bad := by
  show (match env.getD i none with
    | none => R.bad
    | some d0 => if d0.isOwn then pks cf as env >>= fun (ds, e2) => match (e2.getD i none).bind fun d => mutD m d ds with
      | some (y, d') => (R.ok (y, none, e2.set i (some d')) : R (D × Rt × Env))
      | none => .bad
      else .bad).fl _ = _
  unfold getv
  cases env.getD i none with
  | none => rfl
  | some d0 =>
    by_cases h : d0.isOwn = true
    · simp only [h, if_true]
      rw [bind_fl]
      unfold evS
      congr 1
      funext ⟨ds, e2⟩
      show (match (e2.getD i none).bind fun d => mutD m d ds with
        | some (y, d') => (R.ok (y, none, e2.set i (some d')) : R (D × Rt × Env))
        | none => .bad).fl _ = _
      dsimp only
      cases e2.getD i none with
      | none => rfl
      | some d =>
        show (match mutD m d ds with
          | some (y, d') => (R.ok (y, none, e2.set i (some d')) : R (D × Rt × Env))
          | none => .bad).fl _ = match mutD m d ds with
          | some (y, d') => k y none (e2.set i (some d'))
          | none => .bad
        cases mutD m d ds <;> rfl
    · simp only [h, if_false]
      rfl
theorem evF_mutP {m : Mu} {i : Nat} {r : Pth} {x : E} {as : Es} {k : D → Rt → Env → Fl} : evF cf (.mut m i (.ix r x) as) env k = getv env i fun d0 => evP cf (.ix r x) d0 (env.set i none) fun st d1 e1 => if d1.isOwn = true then evS cf as e1 fun ds e2 => match modAt st d0 fun d => mutD m d ds with
    | some (y, d') => k y none (e2.set i (some d'))
    | none => .bad
    else .bad := by
  show (match env.getD i none with
    | none => R.bad
    | some d0 => pkp cf (.ix r x) d0 (env.set i none) >>= fun (st, d1, e1) => if d1.isOwn then pks cf as e1 >>= fun (ds, e2) => match modAt st d0 fun d => mutD m d ds with
      | some (y, d') => (R.ok (y, none, e2.set i (some d')) : R (D × Rt × Env))
      | none => .bad
      else .bad).fl _ = _
  unfold getv
  cases env.getD i none with
  | none => rfl
  | some d0 =>
    show (pkp cf (.ix r x) d0 (env.set i none) >>= _).fl _ = _
    rw [bind_fl]
    show _ = (pkp cf (.ix r x) d0 (env.set i none)).fl _
    congr 1
    funext ⟨st, d1, e1⟩
    show (if d1.isOwn then _ else R.bad).fl _ = _
    by_cases h : d1.isOwn = true
    · simp only [h, if_true]
      rw [bind_fl]
      unfold evS
      congr 1
      funext ⟨ds, e2⟩
      show (match modAt st d0 fun d => mutD m d ds with
        | some (y, d') => (R.ok (y, none, e2.set i (some d')) : R (D × Rt × Env))
        | none => .bad).fl _ = match modAt st d0 fun d => mutD m d ds with
        | some (y, d') => k y none (e2.set i (some d'))
        | none => .bad
      cases modAt st d0 fun d => mutD m d ds <;> rfl
    · simp only [h, if_false]
      rfl
/-! lists of expressions -/
theorem evB_nil {b : Bool} {k : Bool → Env → Fl} : evB cf b .nil env k = k b env := id rfl
theorem evB_cons {b : Bool} {e : E} {r : Es} {k : Bool → Env → Fl} : evB cf b (.cons e r) env k = evT cf e env fun t e1 => if t = b then evB cf b r e1 k else k t e1 := by
  show (asBl (pk cf e env) >>= _).fl _ = _
  rw [bind_fl, asBl_fl]
  unfold evT evF
  congr 1
  funext ⟨d, x, e1⟩
  cases d with
  | bl t =>
    show (if t = b then pkb cf b r e1 else R.ok (t, e1)).fl _ = if t = b then evB cf b r e1 k else k t e1
    split <;> rfl
  | _ => rfl
theorem evS_nil {k : List D → Env → Fl} : evS cf .nil env k = k [] env := id rfl
theorem evS_cons {e : E} {r : Es} {k : List D → Env → Fl} : evS cf (.cons e r) env k = evO cf e env fun d e1 => evS cf r e1 fun ds e2 => k (d :: ds) e2 := by
  show (own (pk cf e env) >>= _).fl _ = _
  rw [bind_fl, own_fl]
  unfold evO evF
  congr 1
  funext ⟨d, x, e1⟩
  cases x with
  | some _ => rfl
  | none =>
    show (pks cf r e1 >>= _).fl _ = _
    rw [bind_fl]
    rfl
theorem evA_nil {k : List D → Env → Fl} : evA cf .nil env k = k [] env := id rfl
theorem evA_v {e : E} {r : Ags} {k : List D → Env → Fl} : evA cf (.v e r) env k = evO cf e env fun d e1 => evA cf r e1 fun ds e2 => k (d.frz :: ds) e2 := by
  show (own (pk cf e env) >>= _).fl _ = _
  rw [bind_fl, own_fl]
  unfold evO evF
  congr 1
  funext ⟨d, x, e1⟩
  cases x with
  | some _ => rfl
  | none =>
    show (pka cf r e1 >>= _).fl _ = _
    rw [bind_fl]
    rfl
theorem evA_io {i : Nat} {r : Ags} {k : List D → Env → Fl} : evA cf (.io i r) env k = getv env i fun _ => evA cf r env fun ds e2 => getv e2 i fun d => k (d :: ds) (e2.set i none) := by
  show (match env.getD i none with
    | some _ => pka cf r env >>= fun (ds, e2) => match e2.getD i none with
      | some d => .ok (d :: ds, e2.set i none)
      | none => .bad
    | none => .bad).fl _ = _
  unfold getv
  cases env.getD i none with
  | none => rfl
  | some d =>
    show (pka cf r env >>= _).fl _ = _
    rw [bind_fl]
    show (pka cf r env).fl _ = (pka cf r env).fl _
    congr 1
    funext ⟨ds, e2⟩
    dsimp only
    cases e2.getD i none <;> rfl
theorem evOp_none {k : Option Int → Env → Fl} : evOp cf .none env k = k none env := id rfl
theorem evOp_some {e : E} {k : Option Int → Env → Fl} : evOp cf (.some e) env k = evO cf e env fun d e1 => isI d fun i => k (some i) e1 := by
  show (own (pk cf e env) >>= _).fl _ = _
  rw [bind_fl, own_fl]
  unfold evO evF
  congr 1
  funext ⟨d, x, e1⟩
  cases x with
  | some _ => rfl
  | none => cases d <;> rfl
theorem evP_nil {d : D} {k : List D → D → Env → Fl} : evP cf .nil d env k = k [] d env := id rfl
theorem evP_ix {r : Pth} {e : E} {d : D} {k : List D → D → Env → Fl} : evP cf (.ix r e) d env k = evP cf r d env fun st d1 e1 => evO cf e e1 fun x e2 => optv (stepD d1 x) fun d2 => k (st ++ [x]) d2 e2 := by
  show (pkp cf r d env >>= _).fl _ = _
  rw [bind_fl]
  unfold evP
  congr 1
  funext ⟨st, d1, e1⟩
  show (own (pk cf e e1) >>= _).fl _ = _
  rw [bind_fl, own_fl]
  unfold evO evF
  congr 1
  funext ⟨x, q, e2⟩
  cases q with
  | some _ => rfl
  | none =>
    show (match stepD d1 x with | some d2 => (R.ok (st ++ [x], d2, e2) : R (List D × D × Env)) | none => .bad).fl _ = optv (stepD d1 x) _
    cases stepD d1 x <;> rfl
theorem evI_seq {a : E} {k : List D → Env → Fl} : evI cf (.seq a) env k = evO cf a env fun x e1 => optl (walkD x.frz) fun xs => k xs e1 := by
  show (own (pk cf a env) >>= _).fl _ = _
  rw [bind_fl, own_fl]
  unfold evO evF
  congr 1
  funext ⟨x, q, e2⟩
  cases q with
  | some _ => rfl
  | none =>
    show (match walkD x.frz with | some xs => (R.ok (xs, e2) : R (List D × Env)) | none => .bad).fl _ = optl (walkD x.frz) _
    cases walkD x.frz <;> rfl
def rngK (lo hi st : D) (k : List D → Fl) : Fl := isI lo fun a => isI hi fun b => isI st fun c => optl (rangeD a b c) k
theorem rng_fl (lo hi st : D) (e : Env) (k : List D × Env → Fl) : (rng lo hi st e).fl k = rngK lo hi st fun xs => k (xs, e) := by
  cases lo <;> try rfl
  cases hi <;> try rfl
  cases st <;> try rfl
  rename_i a b c
  show (match rangeD a b c with | some xs => (R.ok (xs, e) : R (List D × Env)) | none => .bad).fl _ = optl (rangeD a b c) _
  cases rangeD a b c <;> rfl
theorem evI_rg1 {a : E} {k : List D → Env → Fl} : evI cf (.rg1 a) env k = evO cf a env fun x e1 => rngK (.int 0) x (.int 1) fun xs => k xs e1 := by
  show (own (pk cf a env) >>= _).fl _ = _
  rw [bind_fl, own_fl]
  unfold evO evF
  congr 1
  funext ⟨x, q, e2⟩
  cases q with
  | some _ => rfl
  | none => exact rng_fl _ _ _ _ _
theorem evI_rg2 {a b : E} {k : List D → Env → Fl} : evI cf (.rg2 a b) env k = evO cf a env fun x e1 => evO cf b e1 fun y e2 => rngK x y (.int 1) fun xs => k xs e2 := by
  show (own (pk cf a env) >>= _).fl _ = _
  rw [bind_fl, own_fl]
  unfold evO evF
  congr 1
  funext ⟨x, q, e2⟩
  cases q with
  | some _ => rfl
  | none =>
    show (own (pk cf b e2) >>= _).fl _ = _
    rw [bind_fl, own_fl]
    show _ = (pk cf b e2).fl _
    congr 1
    funext ⟨y, q, e3⟩
    cases q with
    | some _ => rfl
    | none => exact rng_fl _ _ _ _ _
theorem evI_enu {a : E} {k : List D → Env → Fl} : evI cf (.enu a) env k = evO cf a env fun x e1 => optl (enuD x.frz) fun xs => k xs e1 := by
  show (own (pk cf a env) >>= _).fl _ = _
  rw [bind_fl, own_fl]
  unfold evO evF
  congr 1
  funext ⟨x, q, e2⟩
  cases q with
  | some _ => rfl
  | none =>
    show (match enuD x.frz with | some xs => (R.ok (xs, e2) : R (List D × Env)) | none => .bad).fl _ = optl (enuD x.frz) _
    cases enuD x.frz <;> rfl
theorem evI_zip {a b : E} {k : List D → Env → Fl} : evI cf (.zip a b) env k = evO cf a env fun x e1 => evO cf b e1 fun y e2 => optl (zipD2 x.frz y.frz) fun xs => k xs e2 := by
  show (own (pk cf a env) >>= _).fl _ = _
  rw [bind_fl, own_fl]
  unfold evO evF
  congr 1
  funext ⟨x, q, e2⟩
  cases q with
  | some _ => rfl
  | none =>
    show (own (pk cf b e2) >>= _).fl _ = _
    rw [bind_fl, own_fl]
    show _ = (pk cf b e2).fl _
    congr 1
    funext ⟨y, q, e3⟩
    cases q with
    | some _ => rfl
    | none =>
      show (match zipD2 x.frz y.frz with | some xs => (R.ok (xs, e3) : R (List D × Env)) | none => .bad).fl _ = optl (zipD2 x.frz y.frz) _
      cases zipD2 x.frz y.frz <;> rfl
/-! statements -/
theorem fl_seq {α : Type} (m : R α) (f : α → Fl) (k : Env → Fl) : (m.fl f).seq k = m.fl fun a => (f a).seq k := by cases m <;> rfl
theorem seq_seq (m : Fl) (f k : Env → Fl) : (m.seq f).seq k = m.seq fun e => (f e).seq k := by cases m <;> rfl
theorem ofEnv_seq (o : Option Env) (k : Env → Fl) : (ofEnv o).seq k = putE o k := by cases o <;> rfl
theorem alone_seq (r : Rt) (f : Fl) (k : Env → Fl) : (alone r f).seq k = alone r (f.seq k) := by cases r <;> rfl
theorem own_seq (m : R (D × Rt × Env)) (f : D × Env → Fl) (k : Env → Fl) : ((own m).fl f).seq k = m.fl fun (d, r, e) => alone r ((f (d, e)).seq k) := by
  rw [fl_seq, own_fl]
theorem runS_nil {k : Env → Fl} : runS cf .nil env k = k env := id rfl
theorem runS_cons {s : S} {r : Ss} {k : Env → Fl} : runS cf (.cons s r) env k = run1 cf s env fun e => runS cf r e k := seq_seq _ _ _
theorem run1_asg {i : Nat} {e : E} {k : Env → Fl} : run1 cf (.asg i e) env k = evO cf e env fun d e1 => k (e1.set i (some d)) := own_seq _ _ _
theorem run1_unp {is : List Nat} {e : E} {k : Env → Fl} : run1 cf (.unp is e) env k = evO cf e env fun d e1 => putE (unpD is d e1) k := by
  show ((own (pk cf e env)).fl _).seq _ = _
  rw [own_seq]
  unfold evO evF
  congr 1
  funext ⟨d, r, e1⟩
  exact congrArg (alone r) (ofEnv_seq _ _)
theorem run1_sti {i : Nat} {p : Pth} {x e : E} {k : Env → Fl} : run1 cf (.sti i p x e) env k = evO cf e env fun y e1 => getv e1 i fun d0 => evP cf p d0 (e1.set i none) fun st _ e2 => evO cf x e2 fun z e3 =>
      putE ((modAt st d0 fun d => (setD d z y).map fun d' => (D.non, d')).map fun (q : D × D) => e3.set i (some q.2)) k := by
  show ((own (pk cf e env)).fl _).seq _ = _
  rw [own_seq]
  unfold evO evF
  congr 1
  funext ⟨y, r, e1⟩
  refine congrArg (alone r) ?_
  unfold getv
  show (match e1.getD i none with
    | none => Fl.bad
    | some d0 => (pkp cf p d0 (e1.set i none)).fl fun (st, _, e2) => (own (pk cf x e2)).fl fun (z, e3) =>
      ofEnv ((modAt st d0 fun d => (setD d z y).map fun d' => (D.non, d')).map fun (q : D × D) => e3.set i (some q.2))).seq k = _
  dsimp only
  cases e1.getD i none with
  | none => rfl
  | some d0 =>
    show ((pkp cf p d0 (e1.set i none)).fl _).seq k = (pkp cf p d0 (e1.set i none)).fl _
    rw [fl_seq]
    congr 1
    funext ⟨st, d1, e2⟩
    show ((own (pk cf x e2)).fl _).seq k = (pk cf x e2).fl _
    rw [own_seq]
    congr 1
    funext ⟨z, r, e3⟩
    exact congrArg (alone r) (ofEnv_seq _ _)
theorem run1_aug {i : Nat} {o : O2} {e : E} {k : Env → Fl} : run1 cf (.aug i o e) env k = getv env i fun x => evO cf e env fun y e1 => optv (augD o x y) fun z => k (e1.set i (some z)) := by
  unfold getv
  show (match env.getD i none with
    | some x => (own (pk cf e env)).fl fun (y, e1) => ofEnv ((augD o x y).map fun z => e1.set i (some z))
    | none => .bad).seq k = _
  cases env.getD i none with
  | none => rfl
  | some x =>
    show ((own (pk cf e env)).fl _).seq k = (pk cf e env).fl _
    rw [own_seq]
    congr 1
    funext ⟨y, r, e1⟩
    refine congrArg (alone r) ?_
    show (ofEnv ((augD o x y).map fun z => e1.set i (some z))).seq k = optv (augD o x y) _
    cases augD o x y <;> rfl
theorem run1_aui {i : Nat} {p : Pth} {x : E} {o : O2} {e : E} {k : Env → Fl} : run1 cf (.aui i p x o e) env k = getv env i fun d0 => evP cf p d0 (env.set i none) fun st d1 e2 => evO cf x e2 fun z e3 => optv (idxD d1 z) fun w => if d1.isOwn = true then evO cf e e3 fun y e4 =>
        putE ((augD o w y).bind fun u => (modAt st d0 fun d => (setD d z u).map fun d' => (D.non, d')).map fun (q : D × D) => e4.set i (some q.2)) k
        else .bad := by
  unfold getv
  show (match env.getD i none with
    | none => Fl.bad
    | some d0 => (pkp cf p d0 (env.set i none)).fl fun (st, d1, e2) => (own (pk cf x e2)).fl fun (z, e3) => match idxD d1 z with
      | none => .bad
      | some w => if d1.isOwn then (own (pk cf e e3)).fl fun (y, e4) =>
        ofEnv ((augD o w y).bind fun u => (modAt st d0 fun d => (setD d z u).map fun d' => (D.non, d')).map fun (q : D × D) => e4.set i (some q.2))
        else .bad).seq k = _
  cases env.getD i none with
  | none => rfl
  | some d0 =>
    show ((pkp cf p d0 (env.set i none)).fl _).seq k = (pkp cf p d0 (env.set i none)).fl _
    rw [fl_seq]
    congr 1
    funext ⟨st, d1, e2⟩
    show ((own (pk cf x e2)).fl _).seq k = (pk cf x e2).fl _
    rw [own_seq]
    congr 1
    funext ⟨z, r, e3⟩
    refine congrArg (alone r) ?_
    show (match idxD d1 z with
      | none => Fl.bad
      | some w => if d1.isOwn then (own (pk cf e e3)).fl fun (y, e4) =>
        ofEnv ((augD o w y).bind fun u => (modAt st d0 fun d => (setD d z u).map fun d' => (D.non, d')).map fun (q : D × D) => e4.set i (some q.2))
        else .bad).seq k = optv (idxD d1 z) _
    dsimp only
    cases idxD d1 z with
    | none => rfl
    | some w =>
      show (if d1.isOwn then _ else Fl.bad).seq k = if d1.isOwn = true then _ else Fl.bad
      by_cases h : d1.isOwn = true
      · simp only [h, if_true]
        rw [own_seq]
        show _ = (pk cf e e3).fl _
        congr 1
        funext ⟨y, r, e4⟩
        exact congrArg (alone r) (ofEnv_seq _ _)
      · simp only [h, if_false]
        rfl
theorem run1_exp {e : E} {k : Env → Fl} : run1 cf (.exp e) env k = evF cf e env fun _ _ e1 => k e1 := fl_seq _ _ _
theorem run1_ife {c : E} {a b : Ss} {k : Env → Fl} : run1 cf (.ife c a b) env k = evT cf c env fun t e1 => if t = true then runS cf a e1 k else runS cf b e1 k := by
  show ((asBl (pk cf c env)).fl _).seq k = _
  rw [fl_seq, asBl_fl]
  unfold evT evF
  congr 1
  funext ⟨d, r, e1⟩
  cases d with
  | bl t => cases t <;> rfl
  | _ => rfl
theorem run1_for {tg : Tg} {it : It} {b : Ss} {k : Env → Fl} : run1 cf (.for_ tg it b) env k = evI cf it env fun xs e1 => (floop (exs cf b) tg xs e1).seq k := fl_seq _ _ _
theorem run1_whl {c : E} {b : Ss} {k : Env → Fl} : run1 cf (.whl c b) env k = (wloop (fun e => asBl (pk cf c e)) (exs cf b) env).seq k := id rfl
theorem run1_ret {e : E} {k : Env → Fl} : run1 cf (.ret e) env k = evO cf e env fun d e1 => .ret d e1 := own_seq _ _ _
theorem run1_retn {k : Env → Fl} : run1 cf .retn env k = .ret .non env := id rfl
theorem run1_pas {k : Env → Fl} : run1 cf .pas env k = k env := id rfl
theorem run1_rai {c m : String} {k : Env → Fl} : run1 cf (.rai c m) env k = .exc c env := id rfl
theorem exs_run {ss : Ss} : exs cf ss env = runS cf ss env .nxt := by
  unfold runS
  cases exs cf ss env <;> rfl
/-- a def's end -/
def fnEnd (io : List Nat) : Fl → CR
  | .ret d e => .ok d (io.map fun i => e.getD i none)
  | .nxt e => .ok .non (io.map fun i => e.getD i none)
  | .exc c e => .exc c (io.map fun i => e.getD i none)
  | .bad => .bad
theorem callF_fn {P : Prg} {k : Nat} {f : String} {fn : Fn} {io : List Nat} {as : List D} (h : P f = some fn) (hl : as.length = fn.np) (hi : io = fn.io) :
    callF P (k + 1) f io as = fnEnd io (runS (callF P k) fn.body (as.map some ++ List.replicate (fn.ns - fn.np) none) .nxt) := by
  subst hi
  unfold callF
  rw [h]
  simp only [hl, and_self, if_true]
  rw [← exs_run]
  cases exs (callF P k) fn.body (as.map some ++ List.replicate (fn.ns - fn.np) none) <;> rfl
/-! the small steps -/
theorem evO_def {e : E} {k : D → Env → Fl} : evO cf e env k = evF cf e env fun d r e1 => alone r (k d e1) := id rfl
theorem evT_def {e : E} {k : Bool → Env → Fl} : evT cf e env k = evF cf e env fun d _ e1 => isB d fun b => k b e1 := id rfl
end VI

set_option maxRecDepth 100000
set_option maxHeartbeats 4000000
/-! VI.Pure2: small facts for running. -/
namespace VI
variable {i j : Int}
theorem op_add : op2D .add (.int i) (.int j) = some (.int (i + j)) := id rfl
theorem op_sub : op2D .sub (.int i) (.int j) = some (.int (i - j)) := id rfl
theorem op_mod (h : 0 < j) : op2D .mod (.int i) (.int j) = some (.int (i % j)) := by
  show (if 0 < j then some (D.int (i % j)) else none) = _
  rw [if_pos h]
theorem small_line {n : Int} (h1 : -18446744073709551616 < n) (h2 : n < 18446744073709551616) : n.natAbs < 2 ^ 64 := by
  have e : (2 : Nat) ^ 64 = 18446744073709551616 := by decide
  omega
theorem op_div (h : 0 < j) (h2 : j < 18446744073709551616) : op2D .fdiv (.int i) (.int j) = some (.int (i / j)) := by
  have h3 : j.natAbs < 2 ^ 9000 := Nat.lt_of_lt_of_le (small_line (by omega) h2) (Nat.pow_le_pow_right (by omega) (by omega))
  show (if (decide (0 < j) && decide (j.natAbs < 2 ^ 9000)) = true then some (D.int (i / j)) else none) = _
  rw [if_pos (by rw [decide_eq_true h, decide_eq_true h3]; rfl)]
theorem op_mulL (h1 : -18446744073709551616 < i) (h2 : i < 18446744073709551616) : op2D .mul (.int i) (.int j) = some (.int (i * j)) := by
  show (if mulOk i j = true then some (D.int (i * j)) else none) = _
  rw [if_pos]
  unfold mulOk
  rw [decide_eq_true (small_line h1 h2)]
  simp
theorem op_mulR (h1 : -18446744073709551616 < j) (h2 : j < 18446744073709551616) : op2D .mul (.int i) (.int j) = some (.int (i * j)) := by
  show (if mulOk i j = true then some (D.int (i * j)) else none) = _
  rw [if_pos]
  unfold mulOk
  rw [decide_eq_true (small_line h1 h2)]
  simp
theorem op_mulOk (h : mulOk i j = true) : op2D .mul (.int i) (.int j) = some (.int (i * j)) := by
  show (if mulOk i j = true then some (D.int (i * j)) else none) = _
  rw [if_pos h]
theorem op_pow (h1 : 0 ≤ j) (h2 : j ≤ 1000) (h3 : -18446744073709551616 < i) (h4 : i < 18446744073709551616) : op2D .pow (.int i) (.int j) = some (.int (i ^ j.toNat)) := by
  show (if (decide (0 ≤ j) && decide (j ≤ 1000) && decide (i.natAbs < 2 ^ 64)) = true then some (D.int (i ^ j.toNat)) else none) = _
  rw [if_pos (by rw [decide_eq_true h1, decide_eq_true h2, decide_eq_true (small_line h3 h4)]; rfl)]
theorem op_neg : op1D .neg (.int i) = some (.int (-i)) := id rfl
theorem op_not {b : Bool} : op1D .not_ (.bl b) = some (.bl (!b)) := id rfl
theorem cmp_lt : cmpD .lt (.int i) (.int j) = some (.bl (decide (i < j))) := id rfl
theorem cmp_le : cmpD .le (.int i) (.int j) = some (.bl (decide (i ≤ j))) := id rfl
theorem cmp_gt : cmpD .gt (.int i) (.int j) = some (.bl (decide (j < i))) := id rfl
theorem cmp_ge : cmpD .ge (.int i) (.int j) = some (.bl (decide (j ≤ i))) := id rfl
theorem cmp_eq : cmpD .eq (.int i) (.int j) = some (.bl (decide (i = j))) := by
  show (if eqOk (.int i) (.int j) = true then some (D.bl (deq (.int i) (.int j))) else none) = _
  rw [if_pos (by rfl)]
  rfl
theorem cmp_ne : cmpD .ne (.int i) (.int j) = some (.bl (!decide (i = j))) := by
  show (if eqOk (.int i) (.int j) = true then some (D.bl (!deq (.int i) (.int j))) else none) = _
  rw [if_pos (by rfl)]
  rfl
theorem len_scr {ns : List Int} : b1D .len (.scr ns) = some (.int ns.length) := id rfl
theorem len_lst {o : Bool} {ns : List D} : b1D .len (.lst o ns) = some (.int ns.length) := id rfl
theorem len_tup {ns : List D} : b1D .len (.tup ns) = some (.int ns.length) := id rfl
theorem b1_int : b1D .int (.int i) = some (.int i) := id rfl
theorem b2_max : b2D .max (.int i) (.int j) = some (.int (if j > i then j else i)) := id rfl
theorem b2_min : b2D .min (.int i) (.int j) = some (.int (if j < i then j else i)) := id rfl
theorem isi_ii : isiD .int (.int i) = some true := id rfl
theorem isi_bi : isiD .bool (.int i) = some false := id rfl
theorem atI_nat {α : Type} {xs : List α} {n : Nat} (h : n < xs.length) : atI xs (n : Int) = some xs[n] := by
  unfold atI ixN
  rw [if_pos (Int.natCast_nonneg n), if_pos (by omega)]
  simp [h]
theorem idx_scr {ns : List Int} {n : Nat} (h : n < ns.length) : idxD (.scr ns) (.int n) = some (.int ns[n]) := by
  show (atI ns (n : Int)).map D.int = _
  rw [atI_nat h]
  rfl
theorem ix0 {x : D} {xs : List D} {o : Bool} : idxD (.lst o (x :: xs)) (.int 0) = some x := by
  show atI (x :: xs) ((0 : Nat) : Int) = _
  rw [atI_nat (by simp)]
  rfl
theorem ix1 {x y : D} {xs : List D} {o : Bool} : idxD (.lst o (x :: y :: xs)) (.int 1) = some y := by
  show atI (x :: y :: xs) ((1 : Nat) : Int) = _
  rw [atI_nat (by simp)]
  rfl
theorem ix2 {x y z : D} {xs : List D} {o : Bool} : idxD (.lst o (x :: y :: z :: xs)) (.int 2) = some z := by
  show atI (x :: y :: z :: xs) ((2 : Nat) : Int) = _
  rw [atI_nat (by simp)]
  rfl
theorem set0 {x y : D} {xs : List D} : setD (.lst true (x :: xs)) (.int 0) y = some (.lst true (y :: xs)) := by
  show (ixN (xs.length + 1) 0).map _ = _
  unfold ixN
  rw [if_pos (by omega), if_pos (by omega)]
  rfl
theorem set2 {x y z u : D} {xs : List D} : setD (.lst true (x :: y :: z :: xs)) (.int 2) u = some (.lst true (x :: y :: u :: xs)) := by
  show (ixN (xs.length + 1 + 1 + 1) 2).map _ = _
  unfold ixN
  rw [if_pos (by omega), if_pos (by omega)]
  rfl
theorem getv_def {env : Env} {n : Nat} {d : D} {k : D → Fl} (h : env.getD n none = some d) : getv env n k = k d := by
  unfold getv
  rw [h]
theorem getv0 {d : D} {env : Env} {k : D → Fl} : getv (some d :: env) 0 k = k d := id rfl
theorem getvS {o : Option D} {env : Env} {n : Nat} {k : D → Fl} : getv (o :: env) (n + 1) k = getv env n k := id rfl
theorem optv_some {d : D} {k : D → Fl} : optv (some d) k = k d := id rfl
theorem optl_some {d : List D} {k : List D → Fl} : optl (some d) k = k d := id rfl
theorem alone_none {f : Fl} : alone none f = f := id rfl
theorem isB_bl {b : Bool} {k : Bool → Fl} : isB (.bl b) k = k b := id rfl
theorem isI_int {k : Int → Fl} : isI (.int i) k = k i := id rfl
theorem putE_some {e : Env} {k : Env → Fl} : putE (some e) k = k e := id rfl
theorem callK_ok {d : D} {outs : List (Option D)} {ios : List Nat} {e : Env} {k : D → Rt → Env → Fl} : callK (.ok d outs) ios e k = k d none (putOuts ios outs e) := id rfl
theorem callK_exc {c : String} {outs : List (Option D)} {ios : List Nat} {e : Env} {k : D → Rt → Env → Fl} : callK (.exc c outs) ios e k = .exc c (putOuts ios outs e) := id rfl
theorem rootI {n : Nat} : rootOf (.int i) n = none := id rfl
theorem rootB {n : Nat} {b : Bool} : rootOf (.bl b) n = none := id rfl
theorem rootS {n : Nat} {s : List Nat} : rootOf (.str s) n = none := id rfl
theorem rootN {n : Nat} : rootOf .non n = none := id rfl
theorem rootC {n : Nat} {ns : List Int} : rootOf (.scr ns) n = none := id rfl
theorem rootL {n : Nat} {xs : List D} : rootOf (.lst true xs) n = some n := id rfl
theorem sub_none {d : D} : subRoot d none = none := by
  unfold subRoot
  split <;> rfl
theorem subI {r : Rt} : subRoot (.int i) r = none := id rfl
theorem fI : (D.int i).frz = .int i := id rfl
theorem fB {b : Bool} : (D.bl b).frz = .bl b := id rfl
theorem fS {s : List Nat} : (D.str s).frz = .str s := id rfl
theorem fN : D.non.frz = .non := id rfl
theorem fC {ns : List Int} : (D.scr ns).frz = .scr ns := id rfl
theorem cI : (C.int i).d = .int i := id rfl
theorem cB' {b : Bool} : (C.bl b).d = .bl b := id rfl
theorem cN : C.non.d = .non := id rfl
theorem cS {s : String} : (C.str s).d = .str (codes s) := id rfl
theorem set0' {o x : Option D} {env : Env} : (o :: env).set 0 x = x :: env := id rfl
theorem setS' {o x : Option D} {env : Env} {n : Nat} : (o :: env).set (n + 1) x = o :: env.set n x := id rfl
theorem isOwn_t {xs : List D} : (D.lst true xs).isOwn = true := id rfl
theorem modAt_nil {d : D} {f : D → Option (D × D)} : modAt [] d f = f d := id rfl
theorem if_line {ds : List D} {a b : Fl} (h : ds.length ≤ 16777216) : (if ds.length ≤ line then a else b) = a := if_pos h
theorem rng_one {k : List D → Fl} (h : -1152921504606846976 ≤ i) (h1 : i < 1152921504606846976) (h2 : -1152921504606846976 ≤ j) (h3 : j < 1152921504606846976) : rngK (.int i) (.int j) (.int 1) k = k ((List.range (j - i).toNat).map fun (n : Nat) => D.int (i + (n : Int))) := by
  show optl (rangeD i j 1) k = _
  unfold rangeD
  rw [if_pos, if_pos rfl]
  · rfl
  · have e : (2 : Int) ^ 60 = 1152921504606846976 := by decide
    rw [e]
    simp [h, h1, h2, h3]
theorem fnEnd_ret {io : List Nat} {d : D} {e : Env} : fnEnd io (.ret d e) = .ok d (io.map fun i => e.getD i none) := id rfl
theorem fnEnd_nxt {io : List Nat} {e : Env} : fnEnd io (.nxt e) = .ok .non (io.map fun i => e.getD i none) := id rfl
theorem fnEnd_exc {io : List Nat} {c : String} {e : Env} : fnEnd io (.exc c e) = .exc c (io.map fun i => e.getD i none) := id rfl
/-! all from the front -/
def setK (e : Env) (i : Nat) (x : Option D) (k : Env → Fl) : Fl := k (e.set i x)
theorem setK0 {o x : Option D} {e : Env} {k : Env → Fl} : setK (o :: e) 0 x k = k (x :: e) := id rfl
theorem setKS {o x : Option D} {e : Env} {n : Nat} {k : Env → Fl} : setK (o :: e) (n + 1) x k = setK e n x fun e' => k (o :: e') := id rfl
def getO (e : Env) (i : Nat) (k : Option D → Fl) : Fl := k (e.getD i none)
theorem getO0 {o : Option D} {e : Env} {k : Option D → Fl} : getO (o :: e) 0 k = k o := id rfl
theorem getOS {o : Option D} {e : Env} {n : Nat} {k : Option D → Fl} : getO (o :: e) (n + 1) k = getO e n k := id rfl
def rootK (d : D) (i : Nat) (k : Rt → Fl) : Fl := k (rootOf d i)
theorem rootK_i {i : Int} {n : Nat} {k : Rt → Fl} : rootK (.int i) n k = k none := id rfl
theorem rootK_b {b : Bool} {n : Nat} {k : Rt → Fl} : rootK (.bl b) n k = k none := id rfl
theorem rootK_s {b : List Nat} {n : Nat} {k : Rt → Fl} : rootK (.str b) n k = k none := id rfl
theorem rootK_n {n : Nat} {k : Rt → Fl} : rootK .non n k = k none := id rfl
theorem rootK_c {b : List Int} {n : Nat} {k : Rt → Fl} : rootK (.scr b) n k = k none := id rfl
theorem rootK_o {b : List D} {n : Nat} {k : Rt → Fl} : rootK (.lst true b) n k = k (some n) := id rfl
theorem rootK_f {d : D} {n : Nat} {k : Rt → Fl} (h : d.fro = true) : rootK d n k = k none := by
  unfold rootK rootOf
  rw [if_pos h]
def frzK (d : D) (k : D → Fl) : Fl := k d.frz
theorem frzK_i {i : Int} {k : D → Fl} : frzK (.int i) k = k (.int i) := id rfl
theorem frzK_b {b : Bool} {k : D → Fl} : frzK (.bl b) k = k (.bl b) := id rfl
theorem frzK_s {b : List Nat} {k : D → Fl} : frzK (.str b) k = k (.str b) := id rfl
theorem frzK_n {k : D → Fl} : frzK .non k = k .non := id rfl
theorem frzK_c {b : List Int} {k : D → Fl} : frzK (.scr b) k = k (.scr b) := id rfl
theorem frzK_l {o : Bool} {b : List D} {k : D → Fl} : frzK (.lst o b) k = k (.lst false (frzL b)) := by
  unfold frzK
  rw [D.frz]
theorem frzK_t {b : List D} {k : D → Fl} : frzK (.tup b) k = k (.tup (frzL b)) := by
  unfold frzK
  rw [D.frz]
def hidK (r : Rt) (e : Env) (k : Env → Fl) : Fl := k (hid r e)
theorem hidK_n {e : Env} {k : Env → Fl} : hidK none e k = k e := id rfl
theorem hidK_s {i : Nat} {e : Env} {k : Env → Fl} : hidK (some i) e k = setK e i none k := id rfl
def unhK (r : Rt) (e1 e2 : Env) (k : Env → Fl) : Fl := k (unh r e1 e2)
theorem unhK_n {e1 e2 : Env} {k : Env → Fl} : unhK none e1 e2 k = k e2 := id rfl
theorem unhK_s {i : Nat} {e1 e2 : Env} {k : Env → Fl} : unhK (some i) e1 e2 k = getO e1 i fun o => setK e2 i o k := id rfl
def subK (d : D) (r : Rt) (k : Rt → Fl) : Fl := k (subRoot d r)
theorem subK_n {d : D} {k : Rt → Fl} : subK d none k = k none := by
  unfold subK
  rw [sub_none]
theorem subK_i {i : Int} {r : Rt} {k : Rt → Fl} : subK (.int i) r k = k none := id rfl
theorem subK_b {b : Bool} {r : Rt} {k : Rt → Fl} : subK (.bl b) r k = k none := id rfl
theorem subK_s {b : List Nat} {r : Rt} {k : Rt → Fl} : subK (.str b) r k = k none := id rfl
theorem subK_x {r : Rt} {k : Rt → Fl} : subK .non r k = k none := id rfl
theorem subK_f {d : D} {r : Rt} {k : Rt → Fl} (h : d.fro = true) : subK d r k = k none := by
  unfold subK subRoot
  rw [if_pos h]
def putK : List Nat → List (Option D) → Env → (Env → Fl) → Fl
  | i :: is, o :: os, e, k => setK e i o fun e' => putK is os e' k
  | _, _, e, k => k e
theorem putK_c {i : Nat} {is : List Nat} {o : Option D} {os : List (Option D)} {e : Env} {k : Env → Fl} : putK (i :: is) (o :: os) e k = setK e i o fun e' => putK is os e' k := id rfl
theorem putK_n {os : List (Option D)} {e : Env} {k : Env → Fl} : putK [] os e k = k e := id rfl
theorem putK_eq : ∀ (is : List Nat) (os : List (Option D)) (e : Env) (k : Env → Fl), putK is os e k = k (putOuts is os e)
  | [], os, e, k => by cases os <;> rfl
  | i :: is, [], e, k => rfl
  | i :: is, o :: os, e, k => putK_eq is os (e.set i o) k
/-- a call's arguments, their in-out places, its in-out slots -/
def evX (cf : CF) (as : Ags) (n : Nat) (env : Env) (k : List Nat → List Nat → List D → Env → Fl) : Fl := evA cf as env fun ds e => k (as.iop n) as.ios ds e
def callX (c : CR) (is : List Nat) (e : Env) (k : D → Rt → Env → Fl) : Fl := callK c is e k
theorem callX_ok {c : CR} {d : D} {outs : List (Option D)} {is : List Nat} {e : Env} {k : D → Rt → Env → Fl} (h : c = .ok d outs) : callX c is e k = putK is outs e fun e' => k d none e' := by
  rw [h, putK_eq]
  rfl
theorem callX_exc {c : CR} {x : String} {outs : List (Option D)} {is : List Nat} {e : Env} {k : D → Rt → Env → Fl} (h : c = .exc x outs) : callX c is e k = putK is outs e fun e' => .exc x e' := by
  rw [h, putK_eq]
  rfl
section
variable {cf : CF} {env : Env}
theorem q_pk {i : Nat} {k : D → Rt → Env → Fl} : evF cf (.nm .pk i) env k = getv env i fun d => rootK d i fun r => k d r env := evF_pk
theorem q_fz {i : Nat} {k : D → Rt → Env → Fl} : evF cf (.nm .fz i) env k = getv env i fun d => frzK d fun d' => setK env i (some d') fun e => k d' none e := evF_fz
theorem q_mv {i : Nat} {k : D → Rt → Env → Fl} : evF cf (.nm .mv i) env k = getv env i fun d => setK env i none fun e => k d none e := evF_mv
theorem q_ci {i : Int} {k : D → Rt → Env → Fl} : evF cf (.cst (.int i)) env k = k (.int i) none env := id rfl
theorem q_cb {b : Bool} {k : D → Rt → Env → Fl} : evF cf (.cst (.bl b)) env k = k (.bl b) none env := id rfl
theorem q_cn {k : D → Rt → Env → Fl} : evF cf (.cst .non) env k = k .non none env := id rfl
theorem q_cs {s : String} {k : D → Rt → Env → Fl} : evF cf (.cst (.str s)) env k = k (.str (codes s)) none env := id rfl
theorem q_gi {g : String} {i : Int} {k : D → Rt → Env → Fl} : evF cf (.glc g (.int i)) env k = k (.int i) none env := id rfl
theorem q_op2 {o : O2} {a b : E} {k : D → Rt → Env → Fl} : evF cf (.op2 o a b) env k = evF cf a env fun x r e1 => hidK r e1 fun e => evF cf b e fun y _ e2 => optv (op2D o x y) fun z => unhK r e1 e2 fun e => k z none e := evF_op2
theorem q_cmp {o : OC} {a b : E} {k : D → Rt → Env → Fl} : evF cf (.cmp o a b) env k = evF cf a env fun x r e1 => hidK r e1 fun e => evF cf b e fun y _ e2 => optv (cmpD o x y) fun z => unhK r e1 e2 fun e => k z none e := evF_cmp
theorem q_bc2 {f : B2} {a b : E} {k : D → Rt → Env → Fl} : evF cf (.bc2 f a b) env k = evF cf a env fun x r e1 => hidK r e1 fun e => evF cf b e fun y _ e2 => optv (b2D f x y) fun z => unhK r e1 e2 fun e => k z none e := evF_bc2
theorem q_idx {a b : E} {k : D → Rt → Env → Fl} : evF cf (.idx a b) env k = evF cf a env fun x r e1 => hidK r e1 fun e => evF cf b e fun y _ e2 => optv (idxD x y) fun z => subK z r fun r' => unhK r e1 e2 fun e => k z r' e := evF_idx
theorem q_isi {t : Ty} {a : E} {k : D → Rt → Env → Fl} : evF cf (.isi t a) env k = evF cf a env fun x _ e1 => optv ((isiD t x).map .bl) fun z => k z none e1 := evF_isi
theorem q_slc {a : E} {lo hi : Eo} {k : D → Rt → Env → Fl} : evF cf (.slc a lo hi) env k = evF cf a env fun x r e1 => hidK r e1 fun e => evOp cf lo e fun l e2 => evOp cf hi e2 fun h e3 => optv (slcD x l h) fun z => unhK r e1 e3 fun e => k z none e := evF_slc
theorem q_frz {a : E} {k : D → Rt → Env → Fl} : evF cf (.frz a) env k = evO cf a env fun x e1 => frzK x fun d => k d none e1 := evF_frz
theorem q_call {f : String} {as : Ags} {k : D → Rt → Env → Fl} : evF cf (.call f as) env k = evX cf as 0 env fun ps is ds e1 => callX (cf f ps ds) is e1 k := evF_call
theorem q_xn {n : Nat} {k : List Nat → List Nat → List D → Env → Fl} : evX cf .nil n env k = k [] [] [] env := id rfl
theorem q_xv {e : E} {r : Ags} {n : Nat} {k : List Nat → List Nat → List D → Env → Fl} : evX cf (.v e r) n env k = evO cf e env fun d e1 => frzK d fun d' => evX cf r (n + 1) e1 fun ps is ds e2 => k ps is (d' :: ds) e2 := evA_v
theorem q_xi {i : Nat} {r : Ags} {n : Nat} {k : List Nat → List Nat → List D → Env → Fl} : evX cf (.io i r) n env k = getv env i fun _ => evX cf r (n + 1) env fun ps is ds e2 => getv e2 i fun d => setK e2 i none fun e => k (n :: ps) (i :: is) (d :: ds) e := evA_io
theorem q_comp {e : E} {tg : Tg} {it : It} {c : Eo} {k : D → Rt → Env → Fl} : evF cf (.comp e tg it c) env k = evI cf it env fun xs e1 => compK (cloop (tstF cf c) (fun e2 => own (pk cf e e2)) tg xs (clr tg.slots e1) []) fun ds e2 => k (.lst true ds) none (bck tg.slots e1 e2) := evF_comp
theorem q_asg {i : Nat} {e : E} {k : Env → Fl} : run1 cf (.asg i e) env k = evO cf e env fun d e1 => setK e1 i (some d) k := run1_asg
theorem q_sti0 {i : Nat} {x e : E} {k : Env → Fl} : run1 cf (.sti i .nil x e) env k = evO cf e env fun y e1 => getv e1 i fun d0 => setK e1 i none fun e' => evO cf x e' fun z e3 => optv (setD d0 z y) fun d' => setK e3 i (some d') k := by
  rw [run1_sti]
  congr 1
  funext y e1
  congr 1
  funext d0
  rw [evP_nil]
  show _ = evO cf x (e1.set i none) _
  congr 1
  funext z e3
  show putE (((setD d0 z y).map fun d' => (D.non, d')).map fun (q : D × D) => e3.set i (some q.2)) k = optv (setD d0 z y) _
  cases setD d0 z y <;> rfl
theorem q_aug {i : Nat} {o : O2} {e : E} {k : Env → Fl} : run1 cf (.aug i o e) env k = getv env i fun x => evO cf e env fun y e1 => optv (augD o x y) fun z => setK e1 i (some z) k := run1_aug
theorem q_mut0 {m : Mu} {i : Nat} {as : Es} {k : D → Rt → Env → Fl} : evF cf (.mut m i .nil as) env k = getv env i fun d0 => if d0.isOwn = true then evS cf as env fun ds e2 => getv e2 i fun d => match mutD m d ds with
    | some (y, d') => k y none (e2.set i (some d'))
    | none => .bad
    else .bad := evF_mut0
end
/-! operations, from the front -/
section
variable {i j : Int} {k : D → Fl}
theorem k_add : optv (op2D .add (.int i) (.int j)) k = k (.int (i + j)) := id rfl
theorem k_sub : optv (op2D .sub (.int i) (.int j)) k = k (.int (i - j)) := id rfl
theorem k_mod (h : 0 < j) : optv (op2D .mod (.int i) (.int j)) k = k (.int (i % j)) := by rw [op_mod h]; rfl
theorem k_div (h : 0 < j) (h2 : j < 18446744073709551616) : optv (op2D .fdiv (.int i) (.int j)) k = k (.int (i / j)) := by rw [op_div h h2]; rfl
theorem k_mulL (h1 : -18446744073709551616 < i) (h2 : i < 18446744073709551616) : optv (op2D .mul (.int i) (.int j)) k = k (.int (i * j)) := by rw [op_mulL h1 h2]; rfl
theorem k_mulR (h1 : -18446744073709551616 < j) (h2 : j < 18446744073709551616) : optv (op2D .mul (.int i) (.int j)) k = k (.int (i * j)) := by rw [op_mulR h1 h2]; rfl
theorem k_pow (h1 : 0 ≤ j) (h2 : j ≤ 1000) (h3 : -18446744073709551616 < i) (h4 : i < 18446744073709551616) : optv (op2D .pow (.int i) (.int j)) k = k (.int (i ^ j.toNat)) := by rw [op_pow h1 h2 h3 h4]; rfl
theorem k_p18 : optv (op2D .pow (.int 10) (.int 18)) k = k (.int 1000000000000000000) := by rw [op_pow (by decide) (by decide) (by decide) (by decide)]; rfl
theorem k_p15 : optv (op2D .pow (.int 10) (.int 15)) k = k (.int 1000000000000000) := by rw [op_pow (by decide) (by decide) (by decide) (by decide)]; rfl
theorem k_p14 : optv (op2D .pow (.int 10) (.int 14)) k = k (.int 100000000000000) := by rw [op_pow (by decide) (by decide) (by decide) (by decide)]; rfl
theorem k_neg : optv (op1D .neg (.int i)) k = k (.int (-i)) := id rfl
theorem k_not {b : Bool} : optv (op1D .not_ (.bl b)) k = k (.bl (!b)) := id rfl
theorem k_lt : optv (cmpD .lt (.int i) (.int j)) k = k (.bl (decide (i < j))) := id rfl
theorem k_le : optv (cmpD .le (.int i) (.int j)) k = k (.bl (decide (i ≤ j))) := id rfl
theorem k_gt : optv (cmpD .gt (.int i) (.int j)) k = k (.bl (decide (j < i))) := id rfl
theorem k_ge : optv (cmpD .ge (.int i) (.int j)) k = k (.bl (decide (j ≤ i))) := id rfl
theorem k_eq : optv (cmpD .eq (.int i) (.int j)) k = k (.bl (decide (i = j))) := by rw [cmp_eq]; rfl
theorem k_ne : optv (cmpD .ne (.int i) (.int j)) k = k (.bl (!decide (i = j))) := by rw [cmp_ne]; rfl
theorem k_lenC {ns : List Int} : optv (b1D .len (.scr ns)) k = k (.int ns.length) := id rfl
theorem k_lenL {o : Bool} {ns : List D} : optv (b1D .len (.lst o ns)) k = k (.int ns.length) := id rfl
theorem k_lenT {ns : List D} : optv (b1D .len (.tup ns)) k = k (.int ns.length) := id rfl
theorem k_int : optv (b1D .int (.int i)) k = k (.int i) := id rfl
theorem k_max : optv (b2D .max (.int i) (.int j)) k = k (.int (max i j)) := by
  show k (.int (if j > i then j else i)) = _
  congr 2
  split <;> omega
theorem k_min : optv (b2D .min (.int i) (.int j)) k = k (.int (min i j)) := by
  show k (.int (if j < i then j else i)) = _
  congr 2
  split <;> omega
theorem k_isII : optv ((isiD .int (.int i)).map .bl) k = k (.bl true) := id rfl
theorem k_isBI : optv ((isiD .bool (.int i)).map .bl) k = k (.bl false) := id rfl
theorem k_ixC {ns : List Int} {n : Nat} (h : n < ns.length) : optv (idxD (.scr ns) (.int n)) k = k (.int ns[n]) := by rw [idx_scr h]; rfl
theorem k_ix0 {x : D} {xs : List D} {o : Bool} : optv (idxD (.lst o (x :: xs)) (.int 0)) k = k x := by rw [ix0]; rfl
theorem k_ix1 {x y : D} {xs : List D} {o : Bool} : optv (idxD (.lst o (x :: y :: xs)) (.int 1)) k = k y := by rw [ix1]; rfl
theorem k_ix2 {x y z : D} {xs : List D} {o : Bool} : optv (idxD (.lst o (x :: y :: z :: xs)) (.int 2)) k = k z := by rw [ix2]; rfl
theorem k_set0 {x y : D} {xs : List D} : optv (setD (.lst true (x :: xs)) (.int 0) y) k = k (.lst true (y :: xs)) := by rw [set0]; rfl
theorem k_set2 {x y z u : D} {xs : List D} : optv (setD (.lst true (x :: y :: z :: xs)) (.int 2) u) k = k (.lst true (x :: y :: u :: xs)) := by rw [set2]; rfl
theorem k_auga : optv (augD .add (.int i) (.int j)) k = k (.int (i + j)) := id rfl
theorem k_augs : optv (augD .sub (.int i) (.int j)) k = k (.int (i - j)) := id rfl
end
/-! loops -/
theorem floop_nil {b : Env → Fl} {tg : Tg} {e : Env} : floop b tg [] e = .nxt e := id rfl
theorem floop_cons {cf : CF} {b : Ss} {tg : Tg} {x : D} {xs : List D} {e e1 : Env} (h : setTg tg x e = some e1) : floop (exs cf b) tg (x :: xs) e = runS cf b e1 (floop (exs cf b) tg xs) := by
  show (match setTg tg x e with | none => Fl.bad | some e1 => (exs cf b e1).seq (floop (exs cf b) tg xs)) = _
  rw [h]
  rfl
theorem seq_nx {e : Env} {k : Env → Fl} : (Fl.nxt e).seq k = k e := id rfl
theorem runS_seq {cf : CF} {s : Ss} {e : Env} {k1 k : Env → Fl} : (runS cf s e k1).seq k = runS cf s e fun e' => (k1 e').seq k := seq_seq _ _ _
/-- a loop whose turns keep I -/
theorem loop_inv {cf : CF} {b : Ss} {tg : Tg} (I : Env → Prop) : ∀ {xs : List D} {e : Env} (K : Env → Fl), (∀ x ∈ xs, ∀ e, I e → ∃ e1, setTg tg x e = some e1 ∧ ∀ K : Env → Fl, ∃ e2, I e2 ∧ runS cf b e1 K = K e2) → I e → ∃ e2, I e2 ∧ (floop (exs cf b) tg xs e).seq K = K e2
  | [], e, K, _, h => ⟨e, h, rfl⟩
  | x :: xs, e, K, st, h => by
    obtain ⟨e1, h1, h2⟩ := st x List.mem_cons_self e h
    rw [floop_cons h1, runS_seq]
    obtain ⟨e2, h3, h4⟩ := h2 fun e' => (floop (exs cf b) tg xs e').seq K
    rw [h4]
    exact loop_inv I K (fun y hy => st y (List.mem_cons_of_mem _ hy)) h3
theorem loop_to {cf : CF} {b : Ss} {tg : Tg} {io : List Nat} {R0 : CR} (I : Env → Prop) {xs : List D} {e : Env} {K : Env → Fl} (st : ∀ x ∈ xs, ∀ e, I e → ∃ e1, setTg tg x e = some e1 ∧ ∀ K : Env → Fl, ∃ e2, I e2 ∧ runS cf b e1 K = K e2) (h : I e) (fin : ∀ e2, I e2 → fnEnd io (K e2) = R0) : fnEnd io ((floop (exs cf b) tg xs e).seq K) = R0 := by
  obtain ⟨e2, h1, h2⟩ := loop_inv I K st h
  rw [h2]
  exact fin e2 h1
theorem loop_ex {cf : CF} {b : Ss} {tg : Tg} {I : Env → Prop} (J : Env → Prop) {xs : List D} {e : Env} {K K' : Env → Fl} (st : ∀ x ∈ xs, ∀ e, J e → ∃ e1, setTg tg x e = some e1 ∧ ∀ K : Env → Fl, ∃ e2, J e2 ∧ runS cf b e1 K = K e2) (h : J e) (fin : ∀ e', J e' → ∃ e2, I e2 ∧ K' e' = K e2) : ∃ e2, I e2 ∧ (floop (exs cf b) tg xs e).seq K' = K e2 := by
  obtain ⟨e2, h1, h2⟩ := loop_inv J K' st h
  rw [h2]
  exact fin e2 h1
/-! comprehensions -/
theorem q_comp1 {cf : CF} {env : Env} {e : E} {i : Nat} {it : It} {c : Eo} {k : D → Rt → Env → Fl} : evF cf (.comp e (.one i) it c) env k = evI cf it env fun xs e1 => setK e1 i none fun e0 => compK (cloop (tstF cf c) (fun e2 => own (pk cf e e2)) (.one i) xs e0 []) fun ds e2 => getO e1 i fun o => setK e2 i o fun e' => k (.lst true ds) none e' := evF_comp
theorem own_of {cf : CF} {e : E} {env env' : Env} {d : D} (h : ∀ K : D → Env → Fl, evO cf e env K = K d env') : own (pk cf e env) = .ok (d, env') := by
  have h1 : (own (pk cf e env)).fl (fun p => Fl.ret p.1 p.2) = Fl.ret d env' := by
    rw [own_fl]
    exact h fun d e => Fl.ret d e
  cases hm : own (pk cf e env) with
  | ok p =>
    rw [hm] at h1
    obtain ⟨a, b⟩ := p
    have h2 : Fl.ret a b = Fl.ret d env' := h1
    cases h2
    rfl
  | exc c x =>
    rw [hm] at h1
    cases h1
  | bad =>
    rw [hm] at h1
    cases h1
theorem cloop_map {cf : CF} {e : E} {tg : Tg} {env : Env} (f : D → D) : ∀ (xs acc : List D), (∀ x ∈ xs, ∃ e1 e2, setTg tg x env = some e1 ∧ (∀ K : D → Env → Fl, evO cf e e1 K = K (f x) e2) ∧ clr tg.slots e2 = env) → acc.length + xs.length ≤ line →
    cloop (tstF cf .none) (fun e2 => own (pk cf e e2)) tg xs env acc = .ok (acc ++ xs.map f, env)
  | [], acc, _, _ => by
    rw [List.map_nil, List.append_nil]
    rfl
  | x :: xs, acc, h, hl => by
    obtain ⟨e1, e2, h1, h2, h3⟩ := h x List.mem_cons_self
    rw [List.length_cons] at hl
    show (match setTg tg x env with
      | none => R.bad
      | some e1 => match own (pk cf e e1) with
        | .ok (d, e3) => if acc.length < line then cloop (tstF cf .none) (fun e2 => own (pk cf e e2)) tg xs (clr tg.slots e3) (acc ++ [d]) else .bad
        | _ => .bad) = _
    rw [h1]
    show (match own (pk cf e e1) with
        | .ok (d, e3) => if acc.length < line then cloop (tstF cf .none) (fun e2 => own (pk cf e e2)) tg xs (clr tg.slots e3) (acc ++ [d]) else .bad
        | _ => .bad) = _
    rw [own_of h2]
    show (if acc.length < line then cloop (tstF cf .none) (fun e2 => own (pk cf e e2)) tg xs (clr tg.slots e2) (acc ++ [f x]) else .bad) = _
    rw [if_pos (by omega), h3, cloop_map f xs (acc ++ [f x]) (fun y hy => h y (List.mem_cons_of_mem _ hy)) (by rw [List.length_append, List.length_singleton]; omega), List.append_assoc]
    rfl
theorem compK_map {cf : CF} {e : E} {tg : Tg} {env : Env} (f : D → D) {xs : List D} {k : List D → Env → Fl} (h : ∀ x ∈ xs, ∃ e1 e2, setTg tg x env = some e1 ∧ (∀ K : D → Env → Fl, evO cf e e1 K = K (f x) e2) ∧ clr tg.slots e2 = env) (hl : xs.length ≤ line) :
    compK (cloop (tstF cf .none) (fun e2 => own (pk cf e e2)) tg xs env []) k = k (xs.map f) env := by
  rw [cloop_map f xs [] h (by simpa using hl)]
  rfl
/-! lists of ints -/
theorem deqL_ints : ∀ ns ms : List Int, deqL (ns.map .int) (ms.map .int) = decide (ns = ms)
  | [], [] => rfl
  | [], _ :: _ => rfl
  | _ :: _, [] => rfl
  | n :: ns, m :: ms => by
    show ((n == m) && deqL (ns.map .int) (ms.map .int)) = _
    rw [deqL_ints ns ms]
    by_cases h : n = m
    · subst h
      simp
    · simp [h]
theorem plainL_ints : ∀ ns : List Int, plainL (ns.map .int) = true
  | [] => rfl
  | n :: ns => by
    show (D.plain (.int n) && plainL (ns.map .int)) = true
    rw [plainL_ints ns]
    rfl
theorem deepL_ints : ∀ ns : List Int, deepL (ns.map .int) ≤ 1
  | [] => by decide
  | n :: ns => by
    show max (D.deep (.int n)) (deepL (ns.map .int)) ≤ 1
    have := deepL_ints ns
    show max 1 (deepL (ns.map .int)) ≤ 1
    omega
theorem eqOk_ints {o o' : Bool} {ns ms : List Int} : eqOk (.lst o (ns.map .int)) (.lst o' (ms.map .int)) = true := by
  have h1 : (D.lst o (ns.map .int)).plain = true := plainL_ints ns
  have h2 : (D.lst o' (ms.map .int)).plain = true := plainL_ints ms
  have h3 : (D.lst o (ns.map .int)).deep = 1 + deepL (ns.map .int) := id rfl
  have h4 : (D.lst o' (ms.map .int)).deep = 1 + deepL (ms.map .int) := id rfl
  have h5 := deepL_ints ns
  have h6 := deepL_ints ms
  unfold eqOk
  rw [h1, h2, decide_eq_true (by omega)]
  rfl
theorem k_eqLI {o o' : Bool} {ns ms : List Int} {k : D → Fl} : optv (cmpD .eq (.lst o (ns.map .int)) (.lst o' (ms.map .int))) k = k (.bl (decide (ns = ms))) := by
  show optv (if eqOk (.lst o (ns.map .int)) (.lst o' (ms.map .int)) = true then some (D.bl (deqL (ns.map .int) (ms.map .int))) else none) k = _
  rw [if_pos eqOk_ints, deqL_ints]
  rfl
theorem k_neLI {o o' : Bool} {ns ms : List Int} {k : D → Fl} : optv (cmpD .ne (.lst o (ns.map .int)) (.lst o' (ms.map .int))) k = k (.bl (!decide (ns = ms))) := by
  show optv (if eqOk (.lst o (ns.map .int)) (.lst o' (ms.map .int)) = true then some (D.bl (!deqL (ns.map .int) (ms.map .int))) else none) k = _
  rw [if_pos eqOk_ints, deqL_ints]
  rfl
end VI

set_option maxRecDepth 100000
set_option maxHeartbeats 4000000
/-! VI.Pure3: what a run is to reach. -/
namespace VI
def Wp (G : Fl → Prop) (F : Fl) : Prop := G F
/-- a def's promise: it gives some value and some in-out things with Post -/
def Gives (c : CR) (Post : D → List (Option D) → Prop) : Prop := ∃ r outs, c = .ok r outs ∧ Post r outs
def Fails (c : CR) (x : String) (Post : List (Option D) → Prop) : Prop := ∃ outs, c = .exc x outs ∧ Post outs
theorem Gives.imp {c : CR} {P Q : D → List (Option D) → Prop} (h : Gives c P) (k : ∀ r o, P r o → Q r o) : Gives c Q := by
  obtain ⟨r, o, e, p⟩ := h
  exact ⟨r, o, e, k r o p⟩
theorem gives_fn {P : Prg} {k : Nat} {f : String} {fn : Fn} {io : List Nat} {as : List D} {Post : D → List (Option D) → Prop} (h : P f = some fn) (hl : as.length = fn.np) (hi : io = fn.io)
    (hw : Wp (fun F => Gives (fnEnd io F) Post) (runS (callF P k) fn.body (as.map some ++ List.replicate (fn.ns - fn.np) none) .nxt)) : Gives (callF P (k + 1) f io as) Post := by
  rw [callF_fn h hl hi]
  exact hw
theorem wp_call {G : Fl → Prop} {c : CR} {Post : D → List (Option D) → Prop} {is : List Nat} {e : Env} {k : D → Rt → Env → Fl} (h : Gives c Post) (n : ∀ r outs, Post r outs → Wp G (putK is outs e fun e' => k r none e')) : Wp G (callX c is e k) := by
  obtain ⟨r, outs, e1, p⟩ := h
  rw [callX_ok e1]
  exact n r outs p
theorem wp_ret {io : List Nat} {Post : D → List (Option D) → Prop} {d : D} {e : Env} (h : Post d (io.map fun i => e.getD i none)) : Wp (fun F => Gives (fnEnd io F) Post) (.ret d e) := ⟨d, _, rfl, h⟩
theorem wp_nxt {io : List Nat} {Post : D → List (Option D) → Prop} {e : Env} (h : Post .non (io.map fun i => e.getD i none)) : Wp (fun F => Gives (fnEnd io F) Post) (.nxt e) := ⟨.non, _, rfl, h⟩
theorem wp_if {G : Fl → Prop} {c : Prop} [Decidable c] {a b : Fl} (h1 : c → Wp G a) (h2 : ¬ c → Wp G b) : Wp G (if c then a else b) := by
  by_cases h : c
  · rw [if_pos h]; exact h1 h
  · rw [if_neg h]; exact h2 h
/-- a for: I by the things that are left -/
theorem wp_for {G : Fl → Prop} {cf : CF} {b : Ss} {tg : Tg} (I : List D → Env → Prop) : ∀ {xs : List D} {e : Env} {K : Env → Fl}, I xs e →
    (∀ x r e, I (x :: r) e → ∃ e1, setTg tg x e = some e1 ∧ ∀ K' : Env → Fl, (∀ e', I r e' → Wp G (K' e')) → Wp G (runS cf b e1 K')) → (∀ e, I [] e → Wp G (K e)) → Wp G ((floop (exs cf b) tg xs e).seq K)
  | [], e, K, h, _, fin => fin e h
  | x :: xs, e, K, h, st, fin => by
    obtain ⟨e1, h1, h2⟩ := st x xs e h
    rw [floop_cons h1, runS_seq]
    exact h2 _ fun e' h' => wp_for I h' st fin
/-- .. by the number of turns that were gone -/
theorem wp_forN {G : Fl → Prop} {cf : CF} {b : Ss} {tg : Tg} {xs : List D} (I : Nat → Env → Prop) {e : Env} {K : Env → Fl} (h : I 0 e)
    (st : ∀ i x e, xs[i]? = some x → I i e → ∃ e1, setTg tg x e = some e1 ∧ ∀ K' : Env → Fl, (∀ e', I (i + 1) e' → Wp G (K' e')) → Wp G (runS cf b e1 K')) (fin : ∀ e, I xs.length e → Wp G (K e)) : Wp G ((floop (exs cf b) tg xs e).seq K) := by
  refine wp_for (fun r e => ∃ i, xs.drop i = r ∧ i ≤ xs.length ∧ I i e) ⟨0, rfl, Nat.zero_le _, h⟩ (fun x r e ⟨i, hd, hl, hi⟩ => ?_) fun e ⟨i, hd, hl, hi⟩ => ?_
  · have hx : xs[i]? = some x := by
      rw [← List.head?_drop, hd]
      rfl
    obtain ⟨e1, h1, h2⟩ := st i x e hx hi
    refine ⟨e1, h1, fun K' hk => h2 K' fun e' h' => hk e' ⟨i + 1, ?_, ?_, h'⟩⟩
    · rw [← List.tail_drop, hd]
      rfl
    · have := (List.getElem?_eq_some_iff.mp hx).1
      omega
  · have e2 : i = xs.length := by
      have := List.drop_eq_nil_iff.mp hd
      omega
    subst e2
    exact fin e hi
/-- a comprehension: I by the things that are left and those that were made -/
theorem wp_comp {G : Fl → Prop} {cf : CF} {el : E} {tg : Tg} {c : Eo} (I : List D → List D → Env → Prop) : ∀ {xs acc : List D} {e : Env} {K : List D → Env → Fl}, I xs acc e →
    (∀ x r acc e, I (x :: r) acc e → ∃ e1, setTg tg x e = some e1 ∧ ∃ t e2, tstF cf c e1 = .ok (t, e2) ∧ (t = false → I r acc (clr tg.slots e2)) ∧ (t = true → acc.length < line ∧ ∃ d e3, own (pk cf el e2) = .ok (d, e3) ∧ I r (acc ++ [d]) (clr tg.slots e3))) →
    (∀ acc e, I [] acc e → Wp G (K acc e)) → Wp G (compK (cloop (tstF cf c) (fun e2 => own (pk cf el e2)) tg xs e acc) K)
  | [], acc, e, K, h, _, fin => fin acc e h
  | x :: xs, acc, e, K, h, st, fin => by
    obtain ⟨e1, h1, t, e2, h2, h3, h4⟩ := st x xs acc e h
    have hc : cloop (tstF cf c) (fun e2 => own (pk cf el e2)) tg (x :: xs) e acc = (match tstF cf c e1 with
        | .ok (true, e2) => match own (pk cf el e2) with
          | .ok (d, e3) => if acc.length < line then cloop (tstF cf c) (fun e2 => own (pk cf el e2)) tg xs (clr tg.slots e3) (acc ++ [d]) else .bad
          | _ => .bad
        | .ok (false, e2) => cloop (tstF cf c) (fun e2 => own (pk cf el e2)) tg xs (clr tg.slots e2) acc
        | _ => .bad) := by
      show (match setTg tg x e with | none => R.bad | some e1 => _) = _
      rw [h1]
      all_goals rfl
    rw [hc, h2]
    cases t with
    | false => exact wp_comp I (h3 rfl) st fin
    | true =>
      obtain ⟨hl, d, e3, h5, h6⟩ := h4 rfl
      show Wp G (compK (match own (pk cf el e2) with
          | .ok (d, e3) => if acc.length < line then cloop (tstF cf c) (fun e2 => own (pk cf el e2)) tg xs (clr tg.slots e3) (acc ++ [d]) else .bad
          | _ => .bad) K)
      rw [h5]
      show Wp G (compK (if acc.length < line then cloop (tstF cf c) (fun e2 => own (pk cf el e2)) tg xs (clr tg.slots e3) (acc ++ [d]) else .bad) K)
      rw [if_pos hl]
      exact wp_comp I h6 st fin
/-- what a value's run comes to: by the run itself -/
def RetP (Q : D → Env → Prop) (F : Fl) : Prop := ∃ d e, F = .ret d e ∧ Q d e
theorem own_ex {cf : CF} {el : E} {e : Env} {Q : D → Env → Prop} (h : Wp (RetP Q) (evO cf el e fun d e' => .ret d e')) : ∃ d e3, own (pk cf el e) = .ok (d, e3) ∧ Q d e3 := by
  obtain ⟨d, e', h1, q⟩ := h
  have h2 : evO cf el e (fun d e' => .ret d e') = (own (pk cf el e)).fl fun p => Fl.ret p.1 p.2 := by
    rw [own_fl]
    rfl
  rw [h2] at h1
  cases hm : own (pk cf el e) with
  | ok p =>
    obtain ⟨a, b⟩ := p
    rw [hm] at h1
    have h3 : Fl.ret a b = Fl.ret d e' := h1
    cases h3
    exact ⟨_, _, rfl, q⟩
  | exc c x => rw [hm] at h1; cases h1
  | bad => rw [hm] at h1; cases h1
theorem wp_retP {Q : D → Env → Prop} {d : D} {e : Env} (h : Q d e) : Wp (RetP Q) (.ret d e) := ⟨d, e, rfl, h⟩
/-- a comprehension without a test -/
theorem wp_comp0 {G : Fl → Prop} {cf : CF} {el : E} {tg : Tg} (I : List D → List D → Env → Prop) {xs : List D} {e : Env} {K : List D → Env → Fl} (hl : xs.length ≤ line) (h : I xs [] e)
    (st : ∀ x r acc e, I (x :: r) acc e → ∃ e1, setTg tg x e = some e1 ∧ Wp (RetP fun d e3 => I r (acc ++ [d]) (clr tg.slots e3)) (evO cf el e1 fun d e' => .ret d e')) (fin : ∀ acc e, I [] acc e → Wp G (K acc e)) :
    Wp G (compK (cloop (tstF cf .none) (fun e2 => own (pk cf el e2)) tg xs e []) K) := by
  refine wp_comp (fun r acc e => I r acc e ∧ acc.length + r.length ≤ line) ⟨h, by simpa using hl⟩ (fun x r acc e ⟨hi, hn⟩ => ?_) fun acc e ⟨hi, _⟩ => fin acc e hi
  obtain ⟨e1, h1, h2⟩ := st x r acc e hi
  rw [List.length_cons] at hn
  obtain ⟨d, e3, h3, h4⟩ := own_ex h2
  exact ⟨e1, h1, true, e1, rfl, fun z => (nomatch z), fun _ => ⟨by omega, d, e3, h3, h4, by rw [List.length_append, List.length_singleton]; omega⟩⟩
theorem wloopN_up {c : Env → R (Bool × Env)} {b : Env → Fl} : ∀ {n : Nat} {e : Env} {f : Fl}, wloopN c b n e = some f → wloopN c b (n + 1) e = some f
  | 0, e, f, h => by cases h
  | n + 1, e, f, h => by
    have h' : (match c e with
      | .ok (true, e1) => match b e1 with
        | .nxt e2 => wloopN c b n e2
        | f => some f
      | .ok (false, e1) => some (Fl.nxt e1)
      | .exc c' e1 => some (.exc c' e1)
      | .bad => some .bad) = some f := h
    show (match c e with
      | .ok (true, e1) => match b e1 with
        | .nxt e2 => wloopN c b (n + 1) e2
        | f => some f
      | .ok (false, e1) => some (Fl.nxt e1)
      | .exc c' e1 => some (.exc c' e1)
      | .bad => some .bad) = some f
    revert h'
    cases c e with
    | ok p =>
      obtain ⟨t, e1⟩ := p
      cases t with
      | true =>
        show (match b e1 with
          | .nxt e2 => wloopN c b n e2
          | f => some f) = some f → (match b e1 with
          | .nxt e2 => wloopN c b (n + 1) e2
          | f => some f) = some f
        cases b e1 with
        | nxt e2 => exact fun h => wloopN_up h
        | _ => exact fun h => h
      | false => exact fun h => h
    | _ => exact fun h => h
theorem wloopN_add {c : Env → R (Bool × Env)} {b : Env → Fl} {n : Nat} {e : Env} {f : Fl} (h : wloopN c b n e = some f) : ∀ m, wloopN c b (n + m) e = some f
  | 0 => h
  | m + 1 => wloopN_up (wloopN_add h m)
theorem wloop_is {c : Env → R (Bool × Env)} {b : Env → Fl} {n : Nat} {e : Env} {f : Fl} (h : wloopN c b n e = some f) : wloop c b e = f := by
  have hx : ∃ n f, wloopN c b n e = some f := ⟨n, f, h⟩
  unfold wloop
  rw [dif_pos hx]
  have h2 := Classical.choose_spec (Classical.choose_spec hx)
  have h3 := wloopN_add h (Classical.choose hx)
  have h4 := wloopN_add h2 n
  rw [Nat.add_comm, h3] at h4
  exact (Option.some.inj h4).symm
/-- a while: I, and a measure -/
theorem wp_whl {G : Fl → Prop} {cf : CF} {c : E} {b : Ss} (I : Nat → Env → Prop) : ∀ (n : Nat) {e : Env} {K : Env → Fl}, I n e →
    (∀ n e, I n e → ∃ t e1, asBl (pk cf c e) = .ok (t, e1) ∧ (t = false → Wp G (K e1)) ∧ (t = true → ∃ e2 m, exs cf b e1 = .nxt e2 ∧ m < n ∧ I m e2)) → Wp G ((wloop (fun e => asBl (pk cf c e)) (exs cf b) e).seq K) := by
  intro n e K hI st
  have key : ∀ (n : Nat) (e : Env), I n e → ∃ k e', wloopN (fun e => asBl (pk cf c e)) (exs cf b) k e = some (.nxt e') ∧ Wp G (K e') := by
    intro n
    induction n using Nat.strongRecOn with
    | ind n ih =>
      intro e h
      obtain ⟨t, e1, h1, h2, h3⟩ := st n e h
      cases t with
      | false =>
        refine ⟨1, e1, ?_, h2 rfl⟩
        show (match asBl (pk cf c e) with | .ok (true, e1) => _ | .ok (false, e1) => some (Fl.nxt e1) | .exc c' e1 => _ | .bad => _) = _
        rw [h1]
      | true =>
        obtain ⟨e2, m, h4, h5, h6⟩ := h3 rfl
        obtain ⟨k, e', h7, h8⟩ := ih m h5 e2 h6
        refine ⟨k + 1, e', ?_, h8⟩
        show (match asBl (pk cf c e) with
          | .ok (true, e1) => match exs cf b e1 with
            | .nxt e2 => wloopN (fun e => asBl (pk cf c e)) (exs cf b) k e2
            | f => some f
          | .ok (false, e1) => some (Fl.nxt e1)
          | .exc c' e1 => some (.exc c' e1)
          | .bad => some .bad) = _
        rw [h1]
        show (match exs cf b e1 with
            | .nxt e2 => wloopN (fun e => asBl (pk cf c e)) (exs cf b) k e2
            | f => some f) = _
        rw [h4]
        exact h7
  obtain ⟨k, e', h1, h2⟩ := key n e hI
  have hw : wloop (fun e => asBl (pk cf c e)) (exs cf b) e = .nxt e' := by
    exact wloop_is h1
  rw [hw]
  exact h2
end VI

set_option maxRecDepth 100000
set_option maxHeartbeats 4000000
/-! VI.Pure4: more small rules: changes of lists, lists of ints, equality. -/
namespace VI
theorem le_line {n : Nat} (h : n ≤ 100) : n ≤ line := Nat.le_trans h (by decide)
theorem if_l0 {a b : Fl} : (if ([] : List D).length ≤ line then a else b) = a := if_pos (le_line (n := 0) (by omega))
theorem if_l1 {x1 : D} {a b : Fl} : (if ([x1] : List D).length ≤ line then a else b) = a := if_pos (le_line (n := 1) (by omega))
theorem if_l2 {x1 x2 : D} {a b : Fl} : (if ([x1, x2] : List D).length ≤ line then a else b) = a := if_pos (le_line (n := 2) (by omega))
theorem if_l3 {x1 x2 x3 : D} {a b : Fl} : (if ([x1, x2, x3] : List D).length ≤ line then a else b) = a := if_pos (le_line (n := 3) (by omega))
theorem if_l4 {x1 x2 x3 x4 : D} {a b : Fl} : (if ([x1, x2, x3, x4] : List D).length ≤ line then a else b) = a := if_pos (le_line (n := 4) (by omega))
theorem if_l5 {x1 x2 x3 x4 x5 : D} {a b : Fl} : (if ([x1, x2, x3, x4, x5] : List D).length ≤ line then a else b) = a := if_pos (le_line (n := 5) (by omega))
theorem if_l6 {x1 x2 x3 x4 x5 x6 : D} {a b : Fl} : (if ([x1, x2, x3, x4, x5, x6] : List D).length ≤ line then a else b) = a := if_pos (le_line (n := 6) (by omega))
theorem if_l7 {x1 x2 x3 x4 x5 x6 x7 : D} {a b : Fl} : (if ([x1, x2, x3, x4, x5, x6, x7] : List D).length ≤ line then a else b) = a := if_pos (le_line (n := 7) (by omega))
theorem if_l8 {x1 x2 x3 x4 x5 x6 x7 x8 : D} {a b : Fl} : (if ([x1, x2, x3, x4, x5, x6, x7, x8] : List D).length ≤ line then a else b) = a := if_pos (le_line (n := 8) (by omega))
def mutK (o : Option (D × D)) (k : D → D → Fl) : Fl := match o with
  | some (y, d') => k y d'
  | none => .bad
theorem mutK_some {y d : D} {k : D → D → Fl} : mutK (some (y, d)) k = k y d := id rfl
section
variable {cf : CF} {env : Env}
theorem r_mut0 {m : Mu} {i : Nat} {as : Es} {k : D → Rt → Env → Fl} : evF cf (.mut m i .nil as) env k = getv env i fun d0 => if d0.isOwn = true then evS cf as env fun ds e2 => getv e2 i fun d => mutK (mutD m d ds) fun y d' => setK e2 i (some d') fun e => k y none e else .bad := by
  rw [evF_mut0]
  rfl
theorem if_own {xs : List D} {a b : Fl} : (if (D.lst true xs).isOwn = true then a else b) = a := id rfl
end
section
variable {i j : Int} {k : D → Fl} {kk : D → D → Fl} {o o' : Bool} {ns ms : List Int}
theorem k_eqL0 : optv (cmpD .eq (.lst o (ns.map .int)) (.lst o' [])) k = k (.bl (decide (ns = []))) := k_eqLI (ms := [])
theorem k_neL0 : optv (cmpD .ne (.lst o (ns.map .int)) (.lst o' [])) k = k (.bl (!decide (ns = []))) := k_neLI (ms := [])
theorem m_app {xs : List D} {y : D} (h : xs.length < 16777216) : mutK (mutD .append (.lst true xs) [y]) kk = kk .non (.lst true (xs ++ [y])) := by
  show mutK (if xs.length < line then some (D.non, D.lst true (xs ++ [y])) else none) kk = _
  rw [if_pos (show xs.length < line from h)]
  rfl
theorem m_appI (h : ns.length < 16777216) : mutK (mutD .append (.lst true (ns.map .int)) [.int i]) kk = kk .non (.lst true ((ns ++ [i]).map .int)) := by
  rw [m_app (by rw [List.length_map]; exact h), List.map_append]
  rfl
theorem m_popI (h : ns ≠ []) : mutK (mutD .pop (.lst true (ns.map .int)) []) kk = kk (.int (ns.getLast h)) (.lst true (ns.dropLast.map .int)) := by
  show mutK (((ns.map D.int).getLast?).map fun y => (y, D.lst true (ns.map D.int).dropLast)) kk = _
  rw [List.getLast?_map, List.getLast?_eq_getLast h, ← List.map_dropLast]
  rfl
theorem froL_ints : ∀ ns : List Int, froL (ns.map .int) = true
  | [] => rfl
  | n :: ns => by
    show (D.fro (.int n) && froL (ns.map .int)) = true
    rw [froL_ints ns]
    rfl
theorem frzL_ints : ∀ ns : List Int, frzL (ns.map .int) = ns.map .int
  | [] => by rw [List.map_nil, frzL]
  | n :: ns => by rw [List.map_cons, frzL, frzL_ints ns, D.frz]
theorem k_rev : optv (revD (.lst o (ns.map .int))) k = k (.lst true (ns.reverse.map .int)) := by
  show optv (if froL (ns.map .int) = true then some (D.lst true (ns.map D.int).reverse) else none) k = _
  rw [if_pos (froL_ints ns), List.map_reverse]
  rfl
theorem frzK_I {kf : D → Fl} : frzK (.lst o (ns.map .int)) kf = kf (.lst false (ns.map .int)) := by rw [frzK_l, frzL_ints]
theorem rootK_I {n : Nat} {kr : Rt → Fl} : rootK (.lst false (ns.map .int)) n kr = kr none := rootK_f (by
  show (!false && froL (ns.map .int)) = true
  rw [froL_ints]
  rfl)
theorem intsOf_ints : ∀ ns : List Int, intsOf (ns.map .int) = some ns
  | [] => rfl
  | n :: ns => by
    show (intsOf (ns.map .int)).map (n :: ·) = _
    rw [intsOf_ints ns]
    rfl
theorem k_sum : optv (b1D .sum (.lst o (ns.map .int))) k = k (.int ns.sum) := by
  show optv ((intsOf (ns.map .int)).map fun ns => D.int ns.sum) k = _
  rw [intsOf_ints]
  rfl
theorem k_lenI : optv (b1D .len (.lst o (ns.map .int))) k = k (.int ns.length) := by
  show k (.int (ns.map D.int).length) = _
  rw [List.length_map]
theorem k_ixI {n : Nat} (h : n < ns.length) : optv (idxD (.lst o (ns.map .int)) (.int n)) k = k (.int ns[n]) := by
  show optv (atI (ns.map D.int) (n : Int)) k = _
  rw [atI_nat (by rw [List.length_map]; exact h), List.getElem_map]
  rfl
theorem k_ixZ (h0 : 0 ≤ i) (h : i < ns.length) : optv (idxD (.lst o (ns.map .int)) (.int i)) k = k (.int (ns.getD i.toNat 0)) := by
  obtain ⟨n, rfl⟩ := Int.eq_ofNat_of_zero_le h0
  rw [show ((n : Int)) = Int.ofNat n from rfl] at *
  have hn : n < ns.length := by
    have : (n : Int) < ns.length := h
    omega
  have e : ns.getD (Int.ofNat n).toNat 0 = ns[n] := by
    show ns.getD n 0 = _
    rw [List.getD_eq_getElem?_getD, List.getElem?_eq_getElem hn]
    rfl
  rw [e]
  exact k_ixI hn
theorem k_listI : optv (b1D .list (.lst o (ns.map .int))) k = k (.lst true (ns.map .int)) := by
  show optv (if froL (ns.map .int) = true then some (D.lst true (ns.map D.int)) else none) k = _
  rw [if_pos (froL_ints ns)]
  rfl
theorem walkI {kl : List D → Fl} : optl (walkD (.lst o (ns.map .int))) kl = kl (ns.map .int) := by
  show optl (if froL (ns.map .int) = true then some (ns.map D.int) else none) kl = _
  rw [if_pos (froL_ints ns)]
  rfl
theorem k_eqB {a b : Bool} : optv (cmpD .eq (.bl a) (.bl b)) k = k (.bl (a == b)) := by
  show optv (if eqOk (.bl a) (.bl b) = true then some (D.bl (deq (.bl a) (.bl b))) else none) k = _
  rw [if_pos (by rfl)]
  rfl
theorem k_neB {a b : Bool} : optv (cmpD .ne (.bl a) (.bl b)) k = k (.bl (!(a == b))) := by
  show optv (if eqOk (.bl a) (.bl b) = true then some (D.bl (!deq (.bl a) (.bl b))) else none) k = _
  rw [if_pos (by rfl)]
  rfl
theorem k_intB {a : Bool} : optv (b1D .int (.bl a)) k = k (.int (if a then 1 else 0)) := id rfl
theorem k_isBB {a : Bool} : optv ((isiD .bool (.bl a)).map .bl) k = k (.bl true) := id rfl
theorem k_isIB {a : Bool} : optv ((isiD .int (.bl a)).map .bl) k = k (.bl true) := id rfl
theorem k_isS {s : List Nat} : optv ((isiD .str (.str s)).map .bl) k = k (.bl true) := id rfl
theorem k_eqS {s t : List Nat} (h : s.all codeOk = true) (h' : t.all codeOk = true) : optv (cmpD .eq (.str s) (.str t)) k = k (.bl (s == t)) := by
  show optv (if eqOk (.str s) (.str t) = true then some (D.bl (deq (.str s) (.str t))) else none) k = _
  rw [if_pos]
  · rfl
  · show (s.all codeOk && t.all codeOk && decide (min 1 1 ≤ 190)) = true
    rw [h, h']
    rfl
end
mutual
theorem deq_refl : ∀ x : D, x.plain = true → deq x x = true
  | .non, _ => rfl
  | .bl b, _ => by cases b <;> rfl
  | .int i, _ => by
    show (i == i) = true
    exact beq_self_eq_true i
  | .str s, _ => by
    show (s == s) = true
    exact beq_self_eq_true s
  | .scr ns, h => by cases h
  | .tup xs, h => deqL_refl xs h
  | .lst o xs, h => deqL_refl xs h
theorem deqL_refl : ∀ xs : List D, plainL xs = true → deqL xs xs = true
  | [], _ => rfl
  | x :: xs, h => by
    have h' : (x.plain && plainL xs) = true := h
    rw [Bool.and_eq_true] at h'
    show (deq x x && deqL xs xs) = true
    rw [deq_refl x h'.1, deqL_refl xs h'.2]
    rfl
end
/-- things that are the same but for who holds them -/
theorem k_neSame {x y : D} {k : D → Fl} (h : x.frz = y.frz) (hp : y.plain = true) (hd : y.deep ≤ 190) (hf : deq x y = true) (hp' : x.plain = true) : optv (cmpD .ne x y) k = k (.bl false) := by
  show optv (if eqOk x y = true then some (D.bl (!deq x y)) else none) k = _
  rw [if_pos, hf]
  · rfl
  · unfold eqOk
    rw [hp, hp', decide_eq_true (by omega)]
    rfl
end VI

set_option maxRecDepth 100000
set_option maxHeartbeats 4000000
/-! VI.Pure5: where a run stops. -/
namespace VI
/-- a mark whose type hangs on k: simp leaves k alone -/
inductive Mark {α : Type} (k : α) : Type | mk | other
def callT (c : CR) (is : List Nat) (e : Env) (k : D → Rt → Env → Fl) (m : Mark k) : Fl := callX c is e k
def seqT (f : Fl) (k : Env → Fl) (m : Mark k) : Fl := f.seq k
def compT (x : R (List D × Env)) (k : List D → Env → Fl) (m : Mark k) : Fl := compK x k
theorem p_call {cf : CF} {env : Env} {f : String} {as : Ags} {k : D → Rt → Env → Fl} : evF cf (.call f as) env k = evX cf as 0 env fun ps is ds e1 => callT (cf f ps ds) is e1 k .mk := q_call
theorem p_for {cf : CF} {env : Env} {tg : Tg} {it : It} {b : Ss} {k : Env → Fl} : run1 cf (.for_ tg it b) env k = evI cf it env fun xs e1 => seqT (floop (exs cf b) tg xs e1) k .mk := run1_for
theorem p_whl {cf : CF} {env : Env} {c : E} {b : Ss} {k : Env → Fl} : run1 cf (.whl c b) env k = seqT (wloop (fun e => asBl (pk cf c e)) (exs cf b) env) k .mk := run1_whl
theorem p_comp1 {cf : CF} {env : Env} {e : E} {i : Nat} {it : It} {c : Eo} {k : D → Rt → Env → Fl} : evF cf (.comp e (.one i) it c) env k = evI cf it env fun xs e1 => setK e1 i none fun e0 => compT (cloop (tstF cf c) (fun e2 => own (pk cf e e2)) (.one i) xs e0 []) (fun ds e2 => getO e1 i fun o => setK e2 i o fun e' => k (.lst true ds) none e') .mk := q_comp1
theorem wp_callT {G : Fl → Prop} {c : CR} {Post : D → List (Option D) → Prop} {is : List Nat} {e : Env} {k : D → Rt → Env → Fl} (h : Gives c Post) (n : ∀ r outs, Post r outs → Wp G (putK is outs e fun e' => k r none e')) : Wp G (callT c is e k .mk) := wp_call h n
theorem wp_seqT {G : Fl → Prop} {f : Fl} {k : Env → Fl} (h : Wp G (f.seq k)) : Wp G (seqT f k .mk) := h
theorem wp_compT {G : Fl → Prop} {x : R (List D × Env)} {k : List D → Env → Fl} (h : Wp G (compK x k)) : Wp G (compT x k .mk) := h
end VI

set_option maxRecDepth 100000
set_option maxHeartbeats 4000000
/-! VI.Pure6: more rules. -/
namespace VI
/-- a comprehension that draws: states s with envs en s, values a with data av a -/
theorem wp_compS {G : Fl → Prop} {cf : CF} {el : E} {tg : Tg} {σ α : Type} (en : σ → Env) (av : α → D) (I : Nat → σ → Prop) (Q : Nat → D → α → Prop) {xs : List D} {s0 : σ} {K : List D → Env → Fl} (hl : xs.length ≤ line) (h0 : I 0 s0)
    (st : ∀ j x s, xs[j]? = some x → I j s → ∃ e1, setTg tg x (en s) = some e1 ∧ Wp (RetP fun d e3 => ∃ a s', d = av a ∧ Q j x a ∧ clr tg.slots e3 = en s' ∧ I (j + 1) s') (evO cf el e1 fun d e' => .ret d e'))
    (fin : ∀ (as : List α) (s' : σ), as.length = xs.length → (∀ j x a, xs[j]? = some x → as[j]? = some a → Q j x a) → I xs.length s' → Wp G (K (as.map av) (en s'))) :
    Wp G (compT (cloop (tstF cf .none) (fun e2 => own (pk cf el e2)) tg xs (en s0) []) K .mk) := by
  refine wp_compT (wp_comp0 (fun r acc e => ∃ as s, acc = as.map av ∧ e = en s ∧ xs.drop as.length = r ∧ as.length ≤ xs.length ∧ I as.length s ∧ ∀ j x a, xs[j]? = some x → as[j]? = some a → Q j x a) hl ⟨[], s0, rfl, rfl, rfl, Nat.zero_le _, h0, fun j x a _ z => by simp at z⟩ ?_ ?_)
  · rintro x r acc e ⟨as, s, rfl, rfl, hd, hle, hi, hq⟩
    have hx : xs[as.length]? = some x := by
      rw [← List.head?_drop, hd]
      rfl
    obtain ⟨e1, h1, d, e3, h2, a, s', rfl, h3, h4, h5⟩ := st _ x s hx hi
    refine ⟨e1, h1, _, e3, h2, as ++ [a], s', by simp, h4, ?_, ?_, ?_, ?_⟩
    · rw [List.length_append, List.length_singleton, ← List.tail_drop, hd]
      rfl
    · have := (List.getElem?_eq_some_iff.mp hx).1
      simp
      omega
    · simpa using h5
    · intro j y b hy hb
      rw [List.getElem?_append] at hb
      split at hb
      · exact hq j y b hy hb
      · have hj : j = as.length := by
          have hb' := (List.getElem?_eq_some_iff.mp hb).1
          simp at hb'
          omega
        subst hj
        have e2 : a = b := by simpa using hb
        have e3 : y = x := Option.some.inj (hy.symm.trans hx)
        subst e2 e3
        exact h3
  · rintro acc e ⟨as, s, rfl, rfl, hd, hle, hi, hq⟩
    have e2 : as.length = xs.length := by
      have := List.drop_eq_nil_iff.mp hd
      omega
    exact fin as s e2 hq (e2 ▸ hi)
theorem p_comp2 {cf : CF} {env : Env} {e : E} {i j : Nat} {it : It} {c : Eo} {k : D → Rt → Env → Fl} : evF cf (.comp e (.many [i, j]) it c) env k = evI cf it env fun xs e1 => setK e1 j none fun e0 => setK e0 i none fun e0 => compT (cloop (tstF cf c) (fun e2 => own (pk cf e e2)) (.many [i, j]) xs e0 []) (fun ds e2 => getO e1 j fun o => setK e2 j o fun e' => getO e1 i fun o => setK e' i o fun e' => k (.lst true ds) none e') .mk := evF_comp
theorem walkFI {o : Bool} {ns : List Int} {kl : List D → Fl} : optl (walkD (D.frz (.lst o (ns.map .int)))) kl = kl (ns.map .int) := by
  rw [D.frz, frzL_ints]
  exact walkI
mutual
theorem frz_fro : ∀ d : D, d.fro = true → d.frz = d
  | .non, _ | .bl _, _ | .int _, _ | .str _, _ | .scr _, _ => by simp only [D.frz]
  | .tup xs, h => by
    rw [D.frz, frzL_fro xs h]
  | .lst o xs, h => by
    have h' : (!o && froL xs) = true := h
    cases o with
    | true => cases h'
    | false => rw [D.frz, frzL_fro xs h']
theorem frzL_fro : ∀ xs : List D, froL xs = true → frzL xs = xs
  | [], _ => by rw [frzL]
  | x :: xs, h => by
    have h' : (x.fro && froL xs) = true := h
    rw [Bool.and_eq_true] at h'
    rw [frzL, frz_fro x h'.1, frzL_fro xs h'.2]
end
mutual
theorem fro_frz : ∀ d : D, d.frz.fro = true
  | .non | .bl _ | .int _ | .str _ | .scr _ => by simp only [D.frz]; rfl
  | .tup xs => by
    rw [D.frz]
    exact froL_frz xs
  | .lst o xs => by
    rw [D.frz]
    show (!false && froL (frzL xs)) = true
    rw [froL_frz xs]
    rfl
theorem froL_frz : ∀ xs : List D, froL (frzL xs) = true
  | [] => by rw [frzL]; rfl
  | x :: xs => by
    rw [frzL]
    show (x.frz.fro && froL (frzL xs)) = true
    rw [fro_frz x, froL_frz xs]
    rfl
end
theorem frzK_fro {d : D} {k : D → Fl} (h : d.fro = true) : frzK d k = k d := by
  show k d.frz = k d
  rw [frz_fro d h]
theorem walk_fro {o : Bool} {xs : List D} {kl : List D → Fl} (h : froL xs = true) : optl (walkD (D.frz (.lst o xs))) kl = kl xs := by
  rw [D.frz, frzL_fro xs h]
  show optl (if froL xs = true then some xs else none) kl = _
  rw [if_pos h]
  rfl
theorem walkT_fro {xs : List D} {kl : List D → Fl} (h : froL xs = true) : optl (walkD (D.frz (.tup xs))) kl = kl xs := by
  rw [D.frz, frzL_fro xs h]
  show optl (if froL xs = true then some xs else none) kl = _
  rw [if_pos h]
  rfl
theorem zip_fro {o o' : Bool} {xs ys : List D} {kl : List D → Fl} (h : froL xs = true) (h' : froL ys = true) : optl (zipD2 (D.frz (.lst o xs)) (D.frz (.lst o' ys))) kl = kl (zipd xs ys) := by
  rw [D.frz, D.frz, frzL_fro xs h, frzL_fro ys h']
  show optl (if (froL xs && froL ys) = true then some (zipd xs ys) else none) kl = _
  rw [h, h']
  rfl
theorem zipI {o o' : Bool} {ns ms : List Int} {kl : List D → Fl} : optl (zipD2 (D.frz (.lst o (ns.map .int))) (D.frz (.lst o' (ms.map .int)))) kl = kl (zipd (ns.map .int) (ms.map .int)) := zip_fro (froL_ints _) (froL_ints _)
theorem enu_fro {o : Bool} {xs : List D} {kl : List D → Fl} (h : froL xs = true) : optl (enuD (D.frz (.lst o xs))) kl = kl (numd 0 xs) := by
  rw [D.frz, frzL_fro xs h]
  show optl (if froL xs = true then some (numd 0 xs) else none) kl = _
  rw [if_pos h]
  rfl
theorem k_addLL {o o' : Bool} {xs ys : List D} {k : D → Fl} (h : froL xs = true) (h' : froL ys = true) (hl : xs.length + ys.length ≤ 16777216) : optv (op2D .add (.lst o xs) (.lst o' ys)) k = k (.lst true (xs ++ ys)) := by
  show optv (if (froL xs && froL ys && decide (xs.length + ys.length ≤ line)) = true then some (D.lst true (xs ++ ys)) else none) k = _
  rw [h, h', decide_eq_true (show xs.length + ys.length ≤ line from hl)]
  rfl
theorem k_repI {o : Bool} {i j : Int} {k : D → Fl} (h : 0 ≤ j) (h' : j ≤ 16777216) : optv (op2D .mul (.lst o [.int i]) (.int j)) k = k (.lst true ((List.replicate j.toNat i).map .int)) := by
  show optv (if (froL [D.int i] && (decide (0 ≤ j) && decide (j < 2 ^ 62) && decide ([D.int i].length * j.toNat ≤ line))) = true then some (D.lst true (rep [D.int i] j)) else none) k = _
  have e1 : [D.int i].length * j.toNat ≤ line := by
    show 1 * j.toNat ≤ 16777216
    omega
  have e2 : j < 2 ^ 62 := by
    have : (2 : Int) ^ 62 = 4611686018427387904 := by decide
    omega
  rw [decide_eq_true h, decide_eq_true e2, decide_eq_true e1]
  have e3 : ∀ n : Nat, (List.replicate n [D.int i]).flatten = (List.replicate n i).map .int := by
    intro n
    induction n with
    | zero => rfl
    | succ n ih =>
      rw [List.replicate_succ, List.flatten_cons, ih]
      rfl
  show k (.lst true (rep [D.int i] j)) = _
  unfold rep
  rw [e3]
theorem k_ixT0 {x : D} {xs : List D} {k : D → Fl} : optv (idxD (.tup (x :: xs)) (.int 0)) k = k x := by
  show optv (atI (x :: xs) 0) k = _
  rw [show (0 : Int) = ((0 : Nat) : Int) from rfl, atI_nat (by simp)]
  rfl
theorem k_ixT1 {x y : D} {xs : List D} {k : D → Fl} : optv (idxD (.tup (x :: y :: xs)) (.int 1)) k = k y := by
  show optv (atI (x :: y :: xs) 1) k = _
  rw [show (1 : Int) = ((1 : Nat) : Int) from rfl, atI_nat (by simp)]
  rfl
theorem k_ixT2 {x y z : D} {xs : List D} {k : D → Fl} : optv (idxD (.tup (x :: y :: z :: xs)) (.int 2)) k = k z := by
  show optv (atI (x :: y :: z :: xs) 2) k = _
  rw [show (2 : Int) = ((2 : Nat) : Int) from rfl, atI_nat (by simp)]
  rfl
theorem k_ixT3 {x y z u : D} {xs : List D} {k : D → Fl} : optv (idxD (.tup (x :: y :: z :: u :: xs)) (.int 3)) k = k u := by
  show optv (atI (x :: y :: z :: u :: xs) 3) k = _
  rw [show (3 : Int) = ((3 : Nat) : Int) from rfl, atI_nat (by simp)]
  rfl
theorem subK_fr {xs : List D} {r : Rt} {k : Rt → Fl} (h : froL xs = true) : subK (.lst false xs) r k = k none := subK_f (by
  show (!false && froL xs) = true
  rw [h]
  rfl)
theorem subK_I {ns : List Int} {r : Rt} {k : Rt → Fl} : subK (.lst false (ns.map .int)) r k = k none := subK_fr (froL_ints _)
theorem rootK_fr {xs : List D} {n : Nat} {k : Rt → Fl} (h : froL xs = true) : rootK (.lst false xs) n k = k none := rootK_f (by
  show (!false && froL xs) = true
  rw [h]
  rfl)
theorem k_eqQ {k : D → Fl} {s t : String} (b : Bool) (h : ((codes s).all codeOk && (codes t).all codeOk && ((codes s == codes t) == b)) = true) : optv (cmpD .eq (.str (codes s)) (.str (codes t))) k = k (.bl b) := by
  rw [Bool.and_eq_true, Bool.and_eq_true] at h
  rw [k_eqS h.1.1 h.1.2, eq_of_beq h.2]
theorem k_eqQt {k : D → Fl} {s t : String} (h : ((codes s).all codeOk && (codes t).all codeOk && ((codes s == codes t) == true)) = true) : optv (cmpD .eq (.str (codes s)) (.str (codes t))) k = k (.bl true) := k_eqQ true h
theorem k_eqQf {k : D → Fl} {s t : String} (h : ((codes s).all codeOk && (codes t).all codeOk && ((codes s == codes t) == false)) = true) : optv (cmpD .eq (.str (codes s)) (.str (codes t))) k = k (.bl false) := k_eqQ false h
theorem k_neS {k : D → Fl} {s t : List Nat} (h : s.all codeOk = true) (h' : t.all codeOk = true) : optv (cmpD .ne (.str s) (.str t)) k = k (.bl (!(s == t))) := by
  show optv (if eqOk (.str s) (.str t) = true then some (D.bl (!deq (.str s) (.str t))) else none) k = _
  rw [if_pos]
  · rfl
  · show (s.all codeOk && t.all codeOk && decide (min 1 1 ≤ 190)) = true
    rw [h, h']
    rfl
theorem k_neQt {k : D → Fl} {s t : String} (h : ((codes s).all codeOk && (codes t).all codeOk && ((codes s == codes t) == false)) = true) : optv (cmpD .ne (.str (codes s)) (.str (codes t))) k = k (.bl true) := by
  rw [Bool.and_eq_true, Bool.and_eq_true] at h
  rw [k_neS h.1.1 h.1.2, eq_of_beq h.2]
  rfl
theorem k_neQf {k : D → Fl} {s t : String} (h : ((codes s).all codeOk && (codes t).all codeOk && ((codes s == codes t) == true)) = true) : optv (cmpD .ne (.str (codes s)) (.str (codes t))) k = k (.bl false) := by
  rw [Bool.and_eq_true, Bool.and_eq_true] at h
  rw [k_neS h.1.1 h.1.2, eq_of_beq h.2]
  rfl
theorem tst_ex {cf : CF} {c : E} {e : Env} {Q : Bool → Env → Prop} (h : Wp (RetP fun d e' => ∃ b, d = .bl b ∧ Q b e') (evT cf c e fun b e' => .ret (.bl b) e')) : ∃ b e3, asBl (pk cf c e) = .ok (b, e3) ∧ Q b e3 := by
  obtain ⟨d, e', h1, b, rfl, q⟩ := h
  have h2 : evT cf c e (fun b e' => .ret (.bl b) e') = (asBl (pk cf c e)).fl fun p => Fl.ret (.bl p.1) p.2 := by
    rw [asBl_fl]
    rfl
  rw [h2] at h1
  cases hm : asBl (pk cf c e) with
  | ok p =>
    obtain ⟨a, b⟩ := p
    rw [hm] at h1
    have h3 : Fl.ret (.bl a) b = Fl.ret (.bl _) e' := h1
    cases h3
    exact ⟨_, _, rfl, q⟩
  | exc c x => rw [hm] at h1; cases h1
  | bad => rw [hm] at h1; cases h1
/-- a comprehension that leaves everything as it was: a map, or a filter and a map -/
theorem wp_compM {G : Fl → Prop} {cf : CF} {el : E} {tg : Tg} {β : Type} (ys : List β) (g f : β → D) {env : Env} {K : List D → Env → Fl} (hl : ys.length ≤ 16777216)
    (st : ∀ y ∈ ys, ∃ e1, setTg tg (g y) env = some e1 ∧ Wp (RetP fun d e3 => d = f y ∧ clr tg.slots e3 = env) (evO cf el e1 fun d e' => .ret d e'))
    (fin : Wp G (K (ys.map f) env)) : Wp G (compT (cloop (tstF cf .none) (fun e2 => own (pk cf el e2)) tg (ys.map g) env []) K .mk) := by
  refine wp_compT (wp_comp0 (fun r acc e => ∃ as bs, ys = as ++ bs ∧ r = bs.map g ∧ acc = as.map f ∧ e = env) (by rw [List.length_map]; exact hl) ⟨[], ys, rfl, rfl, rfl, rfl⟩ ?_ ?_)
  · rintro x r acc e ⟨as, bs, h, hr, rfl, rfl⟩
    cases bs with
    | nil => cases hr
    | cons b bs =>
      rw [List.map_cons, List.cons.injEq] at hr
      obtain ⟨rfl, rfl⟩ := hr
      obtain ⟨e1, h1, d, e3, h2, rfl, h3⟩ := st b (by rw [h]; simp)
      exact ⟨e1, h1, _, e3, h2, as ++ [b], bs, by simp [h], rfl, by simp, h3⟩
  · rintro acc e ⟨as, bs, h, hr, rfl, rfl⟩
    cases bs with
    | nil =>
      rw [List.append_nil] at h
      subst h
      exact fin
    | cons b bs => cases hr
theorem wp_compP {G : Fl → Prop} {cf : CF} {el c : E} {tg : Tg} {β : Type} (ys : List β) (g f : β → D) (p : β → Bool) {env : Env} {K : List D → Env → Fl} (hl : ys.length ≤ 16777216)
    (st : ∀ y ∈ ys, ∃ e1, setTg tg (g y) env = some e1 ∧ Wp (RetP fun d e2 => ∃ b, d = .bl b ∧ b = p y ∧ (b = false → clr tg.slots e2 = env) ∧ (b = true → Wp (RetP fun d e3 => d = f y ∧ clr tg.slots e3 = env) (evO cf el e2 fun d e' => .ret d e'))) (evT cf c e1 fun b e' => .ret (.bl b) e'))
    (fin : Wp G (K ((ys.filter p).map f) env)) : Wp G (compT (cloop (tstF cf (.some c)) (fun e2 => own (pk cf el e2)) tg (ys.map g) env []) K .mk) := by
  refine wp_compT (wp_comp (fun r acc e => ∃ as bs, ys = as ++ bs ∧ r = bs.map g ∧ acc = (as.filter p).map f ∧ e = env) ⟨[], ys, rfl, rfl, rfl, rfl⟩ ?_ ?_)
  · rintro x r acc e ⟨as, bs, h, hr, rfl, rfl⟩
    cases bs with
    | nil => cases hr
    | cons b bs =>
      rw [List.map_cons, List.cons.injEq] at hr
      obtain ⟨rfl, rfl⟩ := hr
      obtain ⟨e1, h1, h2⟩ := st b (by rw [h]; simp)
      obtain ⟨t, e2, h3, h4, h5, h6⟩ := tst_ex h2
      refine ⟨e1, h1, t, e2, h3, fun ht => ?_, fun ht => ?_⟩
      · refine ⟨as ++ [b], bs, by simp [h], rfl, ?_, h5 ht⟩
        rw [List.filter_append, show [b].filter p = [] by simp [← h4, ht], List.append_nil]
      · obtain ⟨d, e3, h7, rfl, h8⟩ := own_ex (h6 ht)
        refine ⟨?_, _, e3, h7, as ++ [b], bs, by simp [h], rfl, ?_, h8⟩
        · rw [List.length_map]
          have := List.length_filter_le p as
          rw [h, List.length_append, List.length_cons] at hl
          show _ < 16777216
          omega
        · rw [List.filter_append, show [b].filter p = [b] by simp [← h4, ht], List.map_append]
          rfl
  · rintro acc e ⟨as, bs, h, hr, rfl, rfl⟩
    cases bs with
    | nil =>
      rw [List.append_nil] at h
      subst h
      exact fin
    | cons b bs => cases hr
theorem zipd_map {α β : Type} (g : α → D) (f : β → D) : ∀ (xs : List α) (ys : List β), zipd (xs.map g) (ys.map f) = (xs.zip ys).map fun p => .tup [g p.1, f p.2]
  | [], _ => rfl
  | _ :: _, [] => rfl
  | x :: xs, y :: ys => by
    rw [List.zip_cons_cons, List.map_cons, List.map_cons, List.map_cons, ← zipd_map g f xs ys]
    rfl
section
variable {k : D → Fl} {xb xo : Bool} {xi : Int} {xs : List Nat} {xt : List D}
theorem ki0 : optv ((isiD .int .non).map .bl) k = k (.bl false) := id rfl
theorem ki1 : optv ((isiD .int (.bl xb)).map .bl) k = k (.bl true) := id rfl
theorem ki2 : optv ((isiD .int (.int xi)).map .bl) k = k (.bl true) := id rfl
theorem ki3 : optv ((isiD .int (.str xs)).map .bl) k = k (.bl false) := id rfl
theorem ki4 : optv ((isiD .int (.tup xt)).map .bl) k = k (.bl false) := id rfl
theorem ki5 : optv ((isiD .int (.lst xo xt)).map .bl) k = k (.bl false) := id rfl
theorem ki6 : optv ((isiD .bool .non).map .bl) k = k (.bl false) := id rfl
theorem ki7 : optv ((isiD .bool (.bl xb)).map .bl) k = k (.bl true) := id rfl
theorem ki8 : optv ((isiD .bool (.int xi)).map .bl) k = k (.bl false) := id rfl
theorem ki9 : optv ((isiD .bool (.str xs)).map .bl) k = k (.bl false) := id rfl
theorem ki10 : optv ((isiD .bool (.tup xt)).map .bl) k = k (.bl false) := id rfl
theorem ki11 : optv ((isiD .bool (.lst xo xt)).map .bl) k = k (.bl false) := id rfl
theorem ki12 : optv ((isiD .str .non).map .bl) k = k (.bl false) := id rfl
theorem ki13 : optv ((isiD .str (.bl xb)).map .bl) k = k (.bl false) := id rfl
theorem ki14 : optv ((isiD .str (.int xi)).map .bl) k = k (.bl false) := id rfl
theorem ki15 : optv ((isiD .str (.str xs)).map .bl) k = k (.bl true) := id rfl
theorem ki16 : optv ((isiD .str (.tup xt)).map .bl) k = k (.bl false) := id rfl
theorem ki17 : optv ((isiD .str (.lst xo xt)).map .bl) k = k (.bl false) := id rfl
theorem ki18 : optv ((isiD .list .non).map .bl) k = k (.bl false) := id rfl
theorem ki19 : optv ((isiD .list (.bl xb)).map .bl) k = k (.bl false) := id rfl
theorem ki20 : optv ((isiD .list (.int xi)).map .bl) k = k (.bl false) := id rfl
theorem ki21 : optv ((isiD .list (.str xs)).map .bl) k = k (.bl false) := id rfl
theorem ki22 : optv ((isiD .list (.tup xt)).map .bl) k = k (.bl false) := id rfl
theorem ki23 : optv ((isiD .list (.lst xo xt)).map .bl) k = k (.bl true) := id rfl
theorem ki24 : optv ((isiD .tuple .non).map .bl) k = k (.bl false) := id rfl
theorem ki25 : optv ((isiD .tuple (.bl xb)).map .bl) k = k (.bl false) := id rfl
theorem ki26 : optv ((isiD .tuple (.int xi)).map .bl) k = k (.bl false) := id rfl
theorem ki27 : optv ((isiD .tuple (.str xs)).map .bl) k = k (.bl false) := id rfl
theorem ki28 : optv ((isiD .tuple (.tup xt)).map .bl) k = k (.bl true) := id rfl
theorem ki29 : optv ((isiD .tuple (.lst xo xt)).map .bl) k = k (.bl false) := id rfl
theorem ki30 : optv ((isiD .dict .non).map .bl) k = k (.bl false) := id rfl
theorem ki31 : optv ((isiD .dict (.bl xb)).map .bl) k = k (.bl false) := id rfl
theorem ki32 : optv ((isiD .dict (.int xi)).map .bl) k = k (.bl false) := id rfl
theorem ki33 : optv ((isiD .dict (.str xs)).map .bl) k = k (.bl false) := id rfl
theorem ki34 : optv ((isiD .dict (.tup xt)).map .bl) k = k (.bl false) := id rfl
theorem ki35 : optv ((isiD .dict (.lst xo xt)).map .bl) k = k (.bl false) := id rfl
end
def D.thaw : D → D
  | .lst _ xs => .lst true xs
  | .non => .non | .bl b => .bl b | .int i => .int i | .str s => .str s | .scr ns => .scr ns | .tup xs => .tup xs
theorem thaw_frz {d : D} (h : d.fro = true) : d.thaw.frz = d := by
  cases d with
  | lst o xs =>
    have h' : (!o && froL xs) = true := h
    cases o with
    | true => cases h'
    | false => rw [D.thaw, D.frz, frzL_fro xs h']
  | _ => exact frz_fro _ h
theorem frzK_thaw {d : D} {k : D → Fl} (h : d.fro = true) : frzK d.thaw k = k d := by
  show k d.thaw.frz = k d
  rw [thaw_frz h]
theorem frzK_lf {o : Bool} {xs : List D} {k : D → Fl} (h : froL xs = true) : frzK (.lst o xs) k = k (.lst false xs) := by rw [frzK_l, frzL_fro xs h]
theorem wp_compD {G : Fl → Prop} {cf : CF} {el : E} {tg : Tg} (f : D → D) {ys : List D} {env : Env} {K : List D → Env → Fl} (hl : ys.length ≤ 16777216)
    (st : ∀ y ∈ ys, ∃ e1, setTg tg y env = some e1 ∧ Wp (RetP fun d e3 => d = f y ∧ clr tg.slots e3 = env) (evO cf el e1 fun d e' => .ret d e'))
    (fin : Wp G (K (ys.map f) env)) : Wp G (compT (cloop (tstF cf .none) (fun e2 => own (pk cf el e2)) tg ys env []) K .mk) := by
  have h := wp_compM (G := G) (cf := cf) (el := el) (tg := tg) ys id f (env := env) (K := K) hl st fin
  rwa [List.map_id] at h
theorem froL_mem : ∀ {xs : List D}, froL xs = true → ∀ x ∈ xs, x.fro = true
  | x :: xs, h, y, hy => by
    have h' : (x.fro && froL xs) = true := h
    rw [Bool.and_eq_true] at h'
    rcases List.mem_cons.mp hy with rfl | hy
    · exact h'.1
    · exact froL_mem h'.2 y hy
theorem plainL_mem : ∀ {xs : List D}, plainL xs = true → ∀ x ∈ xs, x.plain = true
  | x :: xs, h, y, hy => by
    have h' : (x.plain && plainL xs) = true := h
    rw [Bool.and_eq_true] at h'
    rcases List.mem_cons.mp hy with rfl | hy
    · exact h'.1
    · exact plainL_mem h'.2 y hy
theorem deepL_mem : ∀ {xs : List D}, ∀ x ∈ xs, x.deep ≤ deepL xs
  | x :: xs, y, hy => by
    rw [deepL]
    rcases List.mem_cons.mp hy with rfl | hy
    · omega
    · have := deepL_mem y hy
      omega
theorem froL_all : ∀ {xs : List D}, (∀ x ∈ xs, x.fro = true) → froL xs = true
  | [], _ => rfl
  | x :: xs, h => by
    show (x.fro && froL xs) = true
    rw [h x (by simp), froL_all fun y hy => h y (by simp [hy])]
    rfl
theorem froL_map {α : Type} {f : α → D} {xs : List α} (h : ∀ x ∈ xs, (f x).fro = true) : froL (xs.map f) = true := froL_all fun y hy => by
  obtain ⟨x, hx, rfl⟩ := List.mem_map.mp hy
  exact h x hx
mutual
/-- lists and tuples within are not too long -/
def D.wide : D → Bool
  | .tup xs => decide (xs.length ≤ 16777216) && wideL xs
  | .lst _ xs => decide (xs.length ≤ 16777216) && wideL xs
  | .non | .bl _ | .int _ | .str _ | .scr _ => true
def wideL : List D → Bool
  | [] => true
  | x :: xs => x.wide && wideL xs
end
theorem wideL_mem : ∀ {xs : List D}, wideL xs = true → ∀ x ∈ xs, x.wide = true
  | x :: xs, h, y, hy => by
    rw [wideL, Bool.and_eq_true] at h
    rcases List.mem_cons.mp hy with rfl | hy
    · exact h.1
    · exact wideL_mem h.2 y hy
theorem wideL_ints : ∀ ns : List Int, wideL (ns.map .int) = true
  | [] => rfl
  | n :: ns => by
    rw [List.map_cons, wideL, wideL_ints ns]
    rfl
theorem wide_ints {o : Bool} {ns : List Int} (h : ns.length ≤ 16777216) : (D.lst o (ns.map .int)).wide = true := by
  rw [D.wide, wideL_ints, List.length_map, decide_eq_true h]
  rfl
theorem k_tupL {o : Bool} {xs : List D} {k : D → Fl} (h : froL xs = true) : optv (b1D .tuple (.lst o xs)) k = k (.tup xs) := by
  show optv (if froL xs = true then some (D.tup xs) else none) k = _
  rw [if_pos h]
  rfl
theorem k_listL {o : Bool} {xs : List D} {k : D → Fl} (h : froL xs = true) : optv (b1D .list (.lst o xs)) k = k (.lst true xs) := by
  show optv (if froL xs = true then some (D.lst true xs) else none) k = _
  rw [if_pos h]
  rfl
theorem k_listT {xs : List D} {k : D → Fl} (h : froL xs = true) : optv (b1D .list (.tup xs)) k = k (.lst true xs) := by
  show optv (if froL xs = true then some (D.lst true xs) else none) k = _
  rw [if_pos h]
  rfl
theorem deep_ints {o : Bool} {ns : List Int} : (D.lst o (ns.map .int)).deep ≤ 2 := by
  rw [D.deep]
  have := deepL_ints ns
  omega
end VI

set_option maxRecDepth 100000
set_option maxHeartbeats 4000000
/-! VI.Pure7: whiles that may leave; small rules; trees. -/
namespace VI
theorem wloop_of {c : Env → R (Bool × Env)} {b : Env → Fl} {e : Env} (h : ¬ ∃ n f, wloopN c b n e = some f) : wloop c b e = .bad := by
  unfold wloop
  rw [dif_neg h]
/-- a turn of a while -/
theorem wloop_step {c : Env → R (Bool × Env)} {b : Env → Fl} {e e1 : Env} (h : c e = .ok (true, e1)) : wloop c b e = (b e1).seq (wloop c b) := by
  have hs : ∀ n, wloopN c b (n + 1) e = (match b e1 with
      | .nxt e2 => wloopN c b n e2
      | f => some f) := fun n => by
    show (match c e with
      | .ok (true, e1) => match b e1 with
        | .nxt e2 => wloopN c b n e2
        | f => some f
      | .ok (false, e1) => some (Fl.nxt e1)
      | .exc c' e1 => some (.exc c' e1)
      | .bad => some .bad) = _
    rw [h]
  cases hb : b e1 with
  | nxt e2 =>
    show _ = wloop c b e2
    by_cases hx : ∃ n f, wloopN c b n e2 = some f
    · obtain ⟨n, f, hn⟩ := hx
      rw [wloop_is hn]
      refine wloop_is (n := n + 1) ?_
      rw [hs, hb]
      exact hn
    · rw [wloop_of hx]
      refine wloop_of ?_
      rintro ⟨n, f, hn⟩
      obtain _ | n := n
      · cases hn
      · rw [hs, hb] at hn
        exact hx ⟨n, f, hn⟩
  | ret d e2 =>
    refine wloop_is (n := 1) ?_
    rw [hs, hb]
    all_goals rfl
  | exc x e2 =>
    refine wloop_is (n := 1) ?_
    rw [hs, hb]
    all_goals rfl
  | bad =>
    refine wloop_is (n := 1) ?_
    rw [hs, hb]
    all_goals rfl
theorem wloop_end {c : Env → R (Bool × Env)} {b : Env → Fl} {e e1 : Env} (h : c e = .ok (false, e1)) : wloop c b e = .nxt e1 := by
  refine wloop_is (n := 1) ?_
  show (match c e with
      | .ok (true, e1) => match b e1 with
        | .nxt e2 => wloopN c b 0 e2
        | f => some f
      | .ok (false, e1) => some (Fl.nxt e1)
      | .exc c' e1 => some (.exc c' e1)
      | .bad => some .bad) = _
  rw [h]
  all_goals rfl
/-- a while: I by a number that falls -/
theorem wp_whlT {G : Fl → Prop} {cf : CF} {c : E} {b : Ss} (I : Nat → Env → Prop) (n : Nat) {e : Env} {K : Env → Fl} (h : I n e)
    (st : ∀ n e, I n e → Wp (RetP fun d e1 => ∃ t, d = .bl t ∧ (t = false → Wp G (K e1)) ∧ (t = true → ∀ K' : Env → Fl, (∀ m e', m < n → I m e' → Wp G (K' e')) → Wp G (runS cf b e1 K'))) (evT cf c e fun b e' => .ret (.bl b) e')) :
    Wp G (seqT (wloop (fun e => asBl (pk cf c e)) (exs cf b) e) K .mk) := by
  refine wp_seqT ?_
  induction n using Nat.strongRecOn generalizing e with
  | ind n ih =>
    obtain ⟨t, e1, h1, h2, h3⟩ := tst_ex (st n e h)
    cases t with
    | false =>
      rw [wloop_end (c := fun e => asBl (pk cf c e)) h1]
      exact h2 rfl
    | true =>
      rw [wloop_step (c := fun e => asBl (pk cf c e)) h1, seq_seq]
      exact h3 rfl (fun e' => (wloop (fun e => asBl (pk cf c e)) (exs cf b) e').seq K) fun m e' hm hi => ih m hm hi
section
variable {k : D → Fl} {kk : D → D → Fl} {o o' : Bool} {xs ys : List D} {x : D}
theorem q_gs {cf : CF} {env : Env} {g s : String} {k : D → Rt → Env → Fl} : evF cf (.glc g (.str s)) env k = k (.str (codes s)) none env := id rfl
theorem k_len1 {c : Nat} : optv (b1D .len (.str [c])) k = k (.int 1) := by
  show optv (if 1 ≤ line then some (D.int 1) else none) k = _
  rw [if_pos (by decide)]
  rfl
theorem k_in1 {c : Nat} {s : List Nat} : optv (cmpD .in_ (.str [c]) (.str s)) k = k (.bl (s.contains c)) := id rfl
theorem deqL_nil : ∀ xs : List D, deqL xs [] = xs.isEmpty
  | [] => rfl
  | _ :: _ => rfl
theorem eqOk_nil (h : plainL xs = true) : eqOk (.lst o xs) (.lst o' []) = true := by
  unfold eqOk
  show (plainL xs && plainL [] && decide (min (1 + deepL xs) (1 + deepL []) ≤ 190)) = true
  rw [h, decide_eq_true (show min (1 + deepL xs) (1 + deepL []) ≤ 190 from Nat.le_trans (Nat.min_le_right _ _) (by decide))]
  rfl
theorem k_neNil (h : plainL xs = true) : optv (cmpD .ne (.lst o xs) (.lst o' [])) k = k (.bl (!xs.isEmpty)) := by
  show optv (if eqOk (.lst o xs) (.lst o' []) = true then some (D.bl (!deqL xs [])) else none) k = _
  rw [if_pos (eqOk_nil h), deqL_nil]
  rfl
theorem k_eqNil (h : plainL xs = true) : optv (cmpD .eq (.lst o xs) (.lst o' [])) k = k (.bl xs.isEmpty) := by
  show optv (if eqOk (.lst o xs) (.lst o' []) = true then some (D.bl (deqL xs [])) else none) k = _
  rw [if_pos (eqOk_nil h), deqL_nil]
  rfl
theorem m_popS : mutK (mutD .pop (.lst true (xs ++ [x])) []) kk = kk x (.lst true xs) := by
  show mutK (((xs ++ [x]).getLast?).map fun y => (y, D.lst true (xs ++ [x]).dropLast)) kk = _
  rw [List.getLast?_concat, List.dropLast_concat]
  rfl
theorem m_ext (h : froL ys = true) (hl : xs.length + ys.length ≤ 16777216) : mutK (mutD .extend (.lst true xs) [.lst o ys]) kk = kk .non (.lst true (xs ++ ys)) := by
  show mutK (if (froL ys && decide (xs.length + ys.length ≤ line)) = true then some (D.non, D.lst true (xs ++ ys)) else none) kk = _
  rw [h, decide_eq_true (show xs.length + ys.length ≤ line from hl)]
  rfl
theorem m_popAt {i : Nat} (h : i < xs.length) (h' : i < 4611686018427387904) : mutK (mutD .popAt (.lst true xs) [.int i]) kk = kk xs[i] (.lst true (xs.eraseIdx i)) := by
  have h2 : (-(2 ^ 62) : Int) ≤ i := by
    have : (2 : Int) ^ 62 = 4611686018427387904 := by decide
    omega
  have h3 : (i : Int) < 2 ^ 62 := by
    have : (2 : Int) ^ 62 = 4611686018427387904 := by decide
    omega
  have h4 : ixN xs.length (i : Int) = some i := by
    unfold ixN
    rw [if_pos (by omega), if_pos (by omega)]
    all_goals rfl
  have e : mutD .popAt (.lst true xs) [.int i] = some (xs[i], .lst true (xs.eraseIdx i)) := by
    simp only [mutD, h2, h3, decide_true, Bool.and_true, if_true, h4, Option.bind_some, List.getElem?_eq_getElem h, Option.map_some]
  rw [e]
  all_goals rfl
theorem k_ixm1 : optv (idxD (.lst o (xs ++ [x])) (.int (-1))) k = k x := by
  show optv (atI (xs ++ [x]) (-1)) k = _
  unfold atI ixN
  rw [if_neg (by omega), if_pos (by rw [List.length_append, List.length_singleton]; omega)]
  show optv ((xs ++ [x])[(-1 + ((xs ++ [x]).length : Int)).toNat]?) k = _
  have e : (-1 + ((xs ++ [x]).length : Int)).toNat = xs.length := by
    rw [List.length_append, List.length_singleton]
    omega
  rw [e]
  simp [optv]
theorem k_revL (h : froL xs = true) : optv (revD (.lst o xs)) k = k (.lst true xs.reverse) := by
  show optv (if froL xs = true then some (D.lst true xs.reverse) else none) k = _
  rw [if_pos h]
  rfl
theorem k_lenL' : optv (b1D .len (.lst o xs)) k = k (.int xs.length) := id rfl
theorem k_ixL {i : Nat} (h : i < xs.length) : optv (idxD (.lst o xs) (.int i)) k = k xs[i] := by
  show optv (atI xs (i : Int)) k = _
  rw [atI_nat h]
  rfl
theorem k_slcHi {i : Nat} (h : froL xs = true) : optv (slcD (.lst o xs) none (some (i : Int))) k = k (.lst true (xs.take i)) := by
  show optv (if froL xs = true then some (D.lst true (cut xs none (some (i : Int)))) else none) k = _
  rw [if_pos h]
  have e : cut xs none (some (i : Int)) = xs.take i := by
    unfold cut sIx
    dsimp only
    rw [if_neg (by omega), List.drop_zero, Nat.sub_zero]
    simp [List.take_eq_take_iff]
  rw [e]
  rfl
theorem k_slcLo {i : Nat} (h : froL xs = true) : optv (slcD (.lst o xs) (some (i : Int)) none) k = k (.lst true (xs.drop i)) := by
  show optv (if froL xs = true then some (D.lst true (cut xs (some (i : Int)) none)) else none) k = _
  rw [if_pos h]
  have e : cut xs (some (i : Int)) none = xs.drop i := by
    unfold cut sIx
    dsimp only
    rw [if_neg (by omega)]
    by_cases hi : i ≤ xs.length
    · rw [show min (i : Int).toNat xs.length = i by omega]
      rw [List.take_of_length_le (by rw [List.length_drop]; omega)]
    · rw [show min (i : Int).toNat xs.length = xs.length by omega, List.drop_length, List.drop_eq_nil_of_le (by omega)]
      simp
  rw [e]
  rfl
end
/-! trees -/
inductive Tr where
  | nd (l : Nat) (cs : List Tr)
mutual
def Tr.d : Tr → D
  | .nd l cs => .tup [.str [l], .lst false (dL cs)]
def dL : List Tr → List D
  | [] => []
  | t :: ts => t.d :: dL ts
end
mutual
def Tr.size : Tr → Nat
  | .nd _ cs => 1 + sizeL cs
def sizeL : List Tr → Nat
  | [] => 0
  | t :: ts => t.size + sizeL ts
end
mutual
def Tr.depth : Tr → Nat
  | .nd _ cs => 1 + depthL cs
def depthL : List Tr → Nat
  | [] => 0
  | t :: ts => max t.depth (depthL ts)
end
mutual
def Tr.ok : Tr → Prop
  | .nd l cs => 97 ≤ l ∧ l ≤ 122 ∧ okTs cs
def okTs : List Tr → Prop
  | [] => True
  | t :: ts => t.ok ∧ okTs ts
end
mutual
def Tr.post : Tr → List Tr
  | .nd l cs => postL cs ++ [.nd l cs]
def postL : List Tr → List Tr
  | [] => []
  | t :: ts => t.post ++ postL ts
end
/-- a new tree: its list of children is held by it -/
def Tr.dT : Tr → D
  | .nd l cs => .tup [.str [l], .lst true (dL cs)]
def Tr.l : Tr → Nat
  | .nd l _ => l
def Tr.cs : Tr → List Tr
  | .nd _ cs => cs
theorem Tr.eta : ∀ t : Tr, t = .nd t.l t.cs
  | .nd _ _ => rfl
mutual
theorem Tr.ind {p : Tr → Prop} (h : ∀ l cs, (∀ c ∈ cs, p c) → p (.nd l cs)) : ∀ t, p t
  | .nd l cs => h l cs (Tr.indL h cs)
theorem Tr.indL {p : Tr → Prop} (h : ∀ l cs, (∀ c ∈ cs, p c) → p (.nd l cs)) : ∀ ts : List Tr, ∀ c ∈ ts, p c
  | [], _, z => nomatch z
  | t :: ts, c, z => by
    rcases List.mem_cons.mp z with e | e
    · rw [e]
      exact Tr.ind h t
    · exact Tr.indL h ts c e
end
theorem dL_map : ∀ ts : List Tr, dL ts = ts.map Tr.d
  | [] => rfl
  | t :: ts => by rw [dL, dL_map ts, List.map_cons]
theorem dL_app (ts us : List Tr) : dL (ts ++ us) = dL ts ++ dL us := by rw [dL_map, dL_map, dL_map, List.map_append]
theorem dL_len (ts : List Tr) : (dL ts).length = ts.length := by rw [dL_map, List.length_map]
theorem sizeL_app : ∀ ts us : List Tr, sizeL (ts ++ us) = sizeL ts + sizeL us
  | [], us => by rw [List.nil_append, sizeL, Nat.zero_add]
  | t :: ts, us => by rw [List.cons_append, sizeL, sizeL, sizeL_app ts us, Nat.add_assoc]
theorem depthL_app : ∀ ts us : List Tr, depthL (ts ++ us) = max (depthL ts) (depthL us)
  | [], us => by rw [List.nil_append, depthL, Nat.zero_max]
  | t :: ts, us => by rw [List.cons_append, depthL, depthL, depthL_app ts us, Nat.max_assoc]
theorem okTs_app : ∀ {ts us : List Tr}, okTs (ts ++ us) ↔ okTs ts ∧ okTs us
  | [], us => by simp [okTs]
  | t :: ts, us => by rw [List.cons_append, okTs, okTs, okTs_app, and_assoc]
theorem postL_app : ∀ ts us : List Tr, postL (ts ++ us) = postL ts ++ postL us
  | [], us => by rw [List.nil_append, postL, List.nil_append]
  | t :: ts, us => by rw [List.cons_append, postL, postL, postL_app ts us, List.append_assoc]
theorem okTs_mem : ∀ {ts : List Tr}, okTs ts → ∀ t ∈ ts, t.ok
  | t :: ts, h, u, hu => by
    rcases List.mem_cons.mp hu with e | e
    · rw [e]
      exact h.1
    · exact okTs_mem h.2 u e
theorem okTs_of : ∀ {ts : List Tr}, (∀ t ∈ ts, t.ok) → okTs ts
  | [], _ => trivial
  | t :: ts, h => ⟨h t (by simp), okTs_of fun u hu => h u (by simp [hu])⟩
theorem len_sizeL : ∀ ts : List Tr, ts.length ≤ sizeL ts
  | [] => Nat.zero_le _
  | .nd l cs :: ts => by
    rw [List.length_cons, sizeL, Tr.size]
    have := len_sizeL ts
    omega
theorem depth_size : ∀ t : Tr, t.depth ≤ t.size := Tr.ind fun l cs ih => by
  rw [Tr.depth, Tr.size]
  have : ∀ ts : List Tr, (∀ c ∈ ts, c.depth ≤ c.size) → depthL ts ≤ sizeL ts := by
    intro ts
    induction ts with
    | nil => intro _; exact Nat.zero_le _
    | cons t ts ih =>
      intro h
      rw [depthL, sizeL]
      have h1 := h t (by simp)
      have h2 := ih fun c hc => h c (by simp [hc])
      omega
  have := this cs ih
  omega
mutual
theorem Tr.d_fro : ∀ t : Tr, t.d.fro = true
  | .nd l cs => by
    rw [Tr.d]
    show (true && ((!false && froL (dL cs)) && true)) = true
    rw [dL_fro cs]
    rfl
theorem dL_fro : ∀ ts : List Tr, froL (dL ts) = true
  | [] => rfl
  | t :: ts => by
    rw [dL]
    show (t.d.fro && froL (dL ts)) = true
    rw [Tr.d_fro t, dL_fro ts]
    rfl
end
mutual
theorem Tr.d_plain : ∀ t : Tr, t.ok → t.d.plain = true
  | .nd l cs, h => by
    rw [Tr.d]
    show (([l].all codeOk) && (plainL (dL cs) && true)) = true
    rw [dL_plain cs h.2.2]
    have h1 : codeOk l = true := decide_eq_true (by have := h.2.1; omega)
    simp [h1]
theorem dL_plain : ∀ ts : List Tr, okTs ts → plainL (dL ts) = true
  | [], _ => rfl
  | t :: ts, h => by
    rw [dL]
    show (t.d.plain && plainL (dL ts)) = true
    rw [Tr.d_plain t h.1, dL_plain ts h.2]
    rfl
end
mutual
theorem Tr.d_deep : ∀ t : Tr, t.d.deep = 2 * t.depth
  | .nd l cs => by
    rw [Tr.d, Tr.depth, D.deep, deepL, deepL, deepL, D.deep, D.deep, dL_deep cs]
    omega
theorem dL_deep : ∀ ts : List Tr, deepL (dL ts) = 2 * depthL ts
  | [] => rfl
  | t :: ts => by
    rw [dL, deepL, depthL, Tr.d_deep t, dL_deep ts]
    omega
end
theorem Tr.dT_frz : ∀ t : Tr, t.dT.frz = t.d
  | .nd l cs => by
    rw [Tr.dT, Tr.d, D.frz, frzL, frzL, frzL, D.frz, D.frz, frzL_fro _ (dL_fro cs)]
theorem frzK_dT {t : Tr} {k : D → Fl} : frzK t.dT k = k t.d := by
  show k t.dT.frz = _
  rw [Tr.dT_frz]
theorem frzK_d {t : Tr} {k : D → Fl} : frzK t.d k = k t.d := frzK_fro (Tr.d_fro t)
theorem frzK_dL {o : Bool} {ts : List Tr} {k : D → Fl} : frzK (.lst o (dL ts)) k = k (.lst false (dL ts)) := frzK_lf (dL_fro ts)
theorem rootK_d {t : Tr} {n : Nat} {k : Rt → Fl} : rootK t.d n k = k none := rootK_f (Tr.d_fro t)
theorem rootK_dL {ts : List Tr} {n : Nat} {k : Rt → Fl} : rootK (.lst false (dL ts)) n k = k none := rootK_fr (dL_fro ts)
theorem subK_d {t : Tr} {r : Rt} {k : Rt → Fl} : subK t.d r k = k none := subK_f (Tr.d_fro t)
theorem subK_dL {ts : List Tr} {r : Rt} {k : Rt → Fl} : subK (.lst false (dL ts)) r k = k none := subK_fr (dL_fro ts)
theorem k_ixTr0 {t : Tr} {k : D → Fl} : optv (idxD t.d (.int 0)) k = k (.str [t.l]) := by
  obtain ⟨l, cs⟩ := t
  exact k_ixT0
theorem k_ixTr1 {t : Tr} {k : D → Fl} : optv (idxD t.d (.int 1)) k = k (.lst false (dL t.cs)) := by
  obtain ⟨l, cs⟩ := t
  exact k_ixT1
theorem k_lenTr {t : Tr} {k : D → Fl} : optv (b1D .len t.d) k = k (.int 2) := by
  obtain ⟨l, cs⟩ := t
  rfl
theorem k_tupTr {t : Tr} {k : D → Fl} : optv ((isiD .tuple t.d).map .bl) k = k (.bl true) := by
  obtain ⟨l, cs⟩ := t
  rfl
theorem walk_dL {o : Bool} {ts : List Tr} {kl : List D → Fl} : optl (walkD (D.frz (.lst o (dL ts)))) kl = kl (dL ts) := walk_fro (dL_fro ts)
theorem post_len : ∀ t : Tr, t.post.length = t.size := Tr.ind fun l cs ih => by
  rw [Tr.post, Tr.size, List.length_append, List.length_singleton]
  have : ∀ ts : List Tr, (∀ c ∈ ts, c.post.length = c.size) → (postL ts).length = sizeL ts := by
    intro ts
    induction ts with
    | nil => intro _; rfl
    | cons t ts ih =>
      intro h
      rw [postL, sizeL, List.length_append, h t (by simp), ih fun c hc => h c (by simp [hc])]
  rw [this cs ih]
  omega
theorem dL_perm_deep {ts : List Tr} : deepL (dL ts) = 2 * depthL ts := dL_deep ts
theorem sizeL_map : ∀ ts : List Tr, (postL ts).length = sizeL ts
  | [] => rfl
  | t :: ts => by rw [postL, sizeL, List.length_append, post_len, sizeL_map ts]
/-- a for over a tree's parts, each behind its children: I by the number of turns gone and the values of the whole ones that stand open -/
theorem wp_post {G : Fl → Prop} {cf : CF} {b : Ss} {tg : Tg} {α : Type} (N : Nat) (val : Tr → α) (q : Tr → Prop) (hq : ∀ t, q t → ∀ c ∈ t.cs, q c) (I : Nat → List α → Env → Prop)
    (st : ∀ t n stk e, q t → n < N → I n (stk ++ t.cs.map val) e → ∃ e1, setTg tg t.d e = some e1 ∧ ∀ K' : Env → Fl, (∀ e', I (n + 1) (stk ++ [val t]) e' → Wp G (K' e')) → Wp G (runS cf b e1 K')) :
    ∀ (t : Tr) (rest : List D) (n : Nat) (stk : List α) {e : Env} {K : Env → Fl}, q t → n + t.size ≤ N → I n stk e → (∀ e', I (n + t.size) (stk ++ [val t]) e' → Wp G ((floop (exs cf b) tg rest e').seq K)) → Wp G ((floop (exs cf b) tg (dL t.post ++ rest) e).seq K) := by
  refine Tr.ind fun l cs ih => ?_
  have go : ∀ (ts : List Tr) (rest : List D) (n : Nat) (stk : List α) {e : Env} {K : Env → Fl}, (∀ c ∈ ts, c ∈ cs) → q (.nd l cs) → n + sizeL ts ≤ N → I n stk e → (∀ e', I (n + sizeL ts) (stk ++ ts.map val) e' → Wp G ((floop (exs cf b) tg rest e').seq K)) → Wp G ((floop (exs cf b) tg (dL (postL ts) ++ rest) e).seq K) := by
    intro ts
    induction ts with
    | nil =>
      intro rest n stk e K _ _ _ h hk
      rw [List.map_nil, List.append_nil] at hk
      exact hk e h
    | cons t ts iht =>
      intro rest n stk e K hm hqn hN h hk
      rw [sizeL] at hN hk
      rw [postL, dL_app, List.append_assoc]
      refine ih t (hm t (by simp)) _ n stk (hq _ hqn t (hm t (by simp))) (by omega) h fun e' h' => ?_
      refine iht rest _ _ (fun c hc => hm c (by simp [hc])) hqn (by omega) h' fun e2 h2 => hk e2 ?_
      rw [List.append_assoc] at h2
      rw [← Nat.add_assoc]
      exact h2
  intro rest n stk e K hqn hN h hk
  rw [Tr.size] at hN hk
  rw [Tr.post, dL_app, List.append_assoc]
  refine go cs _ n stk (fun c hc => hc) hqn (by omega) h fun e' h' => ?_
  obtain ⟨e1, h1, h2⟩ := st (.nd l cs) _ stk e' hqn (by omega) h'
  show Wp G ((floop (exs cf b) tg (Tr.d (.nd l cs) :: rest) e').seq K)
  rw [floop_cons h1, runS_seq]
  refine h2 _ fun e2 h3 => hk e2 ?_
  rw [show n + (1 + sizeL cs) = n + sizeL cs + 1 by omega]
  exact h3
theorem wp_postT {G : Fl → Prop} {cf : CF} {b : Ss} {tg : Tg} {α : Type} (val : Tr → α) (q : Tr → Prop) (I : Nat → List α → Env → Prop) {t : Tr} {e : Env} {K : Env → Fl} (hq : ∀ t, q t → ∀ c ∈ t.cs, q c) (h0 : q t) (h : I 0 [] e)
    (st : ∀ u n stk e, q u → n < t.size → I n (stk ++ u.cs.map val) e → ∃ e1, setTg tg u.d e = some e1 ∧ ∀ K' : Env → Fl, (∀ e', I (n + 1) (stk ++ [val u]) e' → Wp G (K' e')) → Wp G (runS cf b e1 K'))
    (fin : ∀ e', I t.size [val t] e' → Wp G (K e')) : Wp G (seqT (floop (exs cf b) tg (dL t.post) e) K .mk) := by
  have hp := wp_post t.size val q hq I st t [] 0 [] (K := K) h0 (by omega) h fun e' h' => fin e' (by rwa [Nat.zero_add] at h')
  rw [List.append_nil] at hp
  exact wp_seqT hp
/-! a pool to draw from -/
structure Pl where
  a : Int
  b : Int
  c : Int
def Pl.d (p : Pl) : D := .lst true [.int p.a, .int p.b, .int p.c]
def Pl.ok (p : Pl) (m : Int) : Prop := 0 ≤ p.c ∧ p.c ≤ m
theorem Pl.ok.up {p : Pl} {m n : Int} (h : p.ok m) (h' : m ≤ n) : p.ok n := ⟨h.1, Int.le_trans h.2 h'⟩
theorem mark_ok (a : Int) {c : Int} (h : 0 ≤ c) (h' : c ≤ 1000000) : -18446744073709551616 < (a % 9999999557 + 1013) * (41 * (c + 1) + 71) + 3571 * (c + 1) * (c + 1) ∧ (a % 9999999557 + 1013) * (41 * (c + 1) + 71) + 3571 * (c + 1) * (c + 1) < 18446744073709551616 := by
  have a0 : 0 ≤ a % 9999999557 + 1013 := by omega
  have a1 : a % 9999999557 + 1013 ≤ 10000000570 := by omega
  have b0 : 0 ≤ 41 * (c + 1) + 71 := by omega
  have b1 : 41 * (c + 1) + 71 ≤ 41000112 := by omega
  have p0 := Int.mul_nonneg a0 b0
  have p1 := Int.mul_le_mul a1 b1 b0 (by omega : (0 : Int) ≤ 10000000570)
  have q0 := Int.mul_nonneg (by omega : (0 : Int) ≤ 3571 * (c + 1)) (by omega : (0 : Int) ≤ c + 1)
  have q1 := Int.mul_le_mul (by omega : 3571 * (c + 1) ≤ 3571003571) (by omega : c + 1 ≤ 1000001) (by omega) (by omega : (0 : Int) ≤ 3571003571)
  omega
theorem letters_in {l : Nat} (h : 97 ≤ l) (h' : l ≤ 122) : (codes "abcdefghijklmnopqrstuvwxyz").contains l = true := by
  have : ∀ l, l < 123 → 97 ≤ l → (codes "abcdefghijklmnopqrstuvwxyz").contains l = true := by decide
  exact this l (by omega) h
theorem maxL_cons (x : Int) (ns : List Int) {o : Bool} {k : D → Fl} : optv (b1D .max (.lst o ((x :: ns).map .int))) k = k (.int (ns.foldl (fun a b => if b > a then b else a) x)) := by
  show optv ((intsOf ((x :: ns).map .int)).bind fun ns => (maxL ns).map .int) k = _
  rw [intsOf_ints]
  rfl
theorem foldl_max : ∀ (ts : List Tr) (x : Nat), (ts.map fun t => (t.depth : Int)).foldl (fun a b => if b > a then b else a) (x : Int) = ((max x (depthL ts) : Nat) : Int)
  | [], x => by
    rw [depthL, Nat.max_zero]
    rfl
  | t :: ts, x => by
    rw [List.map_cons, List.foldl_cons, depthL]
    have : (if (t.depth : Int) > (x : Int) then (t.depth : Int) else (x : Int)) = ((max x t.depth : Nat) : Int) := by
      split <;> omega
    rw [this, foldl_max ts]
    congr 1
    omega
theorem addI {o o' : Bool} {ns ms : List Int} {k : D → Fl} (h : ns.length + ms.length ≤ 16777216) : optv (op2D .add (.lst o (ns.map .int)) (.lst o' (ms.map .int))) k = k (.lst true ((ns ++ ms).map .int)) := by
  rw [k_addLL (froL_ints _) (froL_ints _) (by rw [List.length_map, List.length_map]; exact h), List.map_append]
theorem k_lendL {o : Bool} {ts : List Tr} {k : D → Fl} : optv (b1D .len (.lst o (dL ts))) k = k (.int ts.length) := by
  show k (.int (dL ts).length) = _
  rw [dL_len]
/-! changes within -/
theorem q_mut1 {cf : CF} {env : Env} {m : Mu} {i : Nat} {x : E} {as : Es} {k : D → Rt → Env → Fl} : evF cf (.mut m i (.ix .nil x) as) env k = getv env i fun d0 => setK env i none fun e0 => evO cf x e0 fun y e1 => optv (stepD d0 y) fun d1 => if d1.isOwn = true then evS cf as e1 fun ds e2 => mutK (modAt [y] d0 fun d => mutD m d ds) fun z d' => setK e2 i (some d') fun e => k z none e else .bad := by
  rw [evF_mutP]
  unfold getv
  cases env.getD i none with
  | none => rfl
  | some d0 =>
    show evP cf (.ix .nil x) d0 (env.set i none) _ = evO cf x (env.set i none) _
    rw [evP_ix, evP_nil]
    all_goals rfl
theorem evI_rg3 {cf : CF} {env : Env} {a b c : E} {k : List D → Env → Fl} : evI cf (.rg3 a b c) env k = evO cf a env fun x e1 => evO cf b e1 fun y e2 => evO cf c e2 fun z e3 => (rng3 x y z e3).fl fun (xs, e) => k xs e := by
  show (own (pk cf a env) >>= fun (x, e1) => own (pk cf b e1) >>= fun (y, e2) => own (pk cf c e2) >>= fun (z, e3) => rng3 x y z e3).fl _ = _
  rw [bind_fl, own_fl]
  unfold evO evF
  congr 1
  funext ⟨x, r, e1⟩
  dsimp only
  congr 1
  rw [bind_fl, own_fl]
  congr 1
  funext ⟨y, r, e2⟩
  dsimp only
  congr 1
  rw [bind_fl, own_fl]
theorem rng3_is {i j : Int} {e : Env} {k : List D × Env → Fl} (h : -1152921504606846976 ≤ i) (h1 : i < 1152921504606846976) (h2 : -1152921504606846976 ≤ j) (h3 : j < 1152921504606846976) : (rng3 (.int i) (.int j) (.int (-1)) e).fl k = k ((List.range (i - j).toNat).map fun (n : Nat) => D.int (i - (n : Int)), e) := by
  have p : (2 : Int) ^ 60 = 1152921504606846976 := by decide
  have e1 : rng3 (.int i) (.int j) (.int (-1)) e = .ok ((List.range (i - j).toNat).map fun (n : Nat) => D.int (i - (n : Int)), e) := by
    simp only [rng3, p, h, h1, h2, h3, decide_true, Bool.and_true, if_true]
  rw [e1]
  rfl
def rowD (b : Bool) (r : List Nat) : D := .lst b (r.map fun c : Nat => .int (c : Int))
theorem rowD_frz (b : Bool) (r : List Nat) : (rowD b r).frz = rowD false r := by
  unfold rowD
  have := frzL_ints (r.map fun c : Nat => (c : Int))
  rw [List.map_map] at this
  rw [D.frz]
  exact congrArg _ this
theorem rows_frz (b : Bool) : ∀ rs : List (List Nat), frzL (rs.map (rowD b)) = rs.map (rowD false)
  | [] => by rw [List.map_nil, frzL, List.map_nil]
  | r :: rs => by rw [List.map_cons, frzL, rowD_frz, rows_frz b rs, List.map_cons]
theorem frzK_rows {b b' : Bool} {rs : List (List Nat)} {k : D → Fl} : frzK (.lst b (rs.map (rowD b'))) k = k (.lst false (rs.map (rowD false))) := by rw [frzK_l, rows_frz]
theorem row_fro (r : List Nat) : (rowD false r).fro = true := by
  have := froL_ints (r.map fun c : Nat => (c : Int))
  rw [List.map_map] at this
  show (!false && froL (r.map fun c : Nat => .int (c : Int))) = true
  exact this
theorem k_set {xs : List D} {i : Nat} {y : D} {k : D → Fl} (h : i < xs.length) : optv (setD (.lst true xs) (.int i) y) k = k (.lst true (xs.set i y)) := by
  have h4 : ixN xs.length (i : Int) = some i := by
    unfold ixN
    rw [if_pos (by omega), if_pos (by omega)]
    all_goals rfl
  show optv ((ixN xs.length (i : Int)).map fun j => D.lst true (xs.set j y)) k = _
  rw [h4]
  rfl
theorem ixN_nat {n i : Nat} (h : i < n) : ixN n (i : Int) = some i := by
  unfold ixN
  rw [if_pos (by omega), if_pos (by omega)]
  all_goals rfl
/-- appending to a list within a list -/
theorem m_row {rs : List (List Nat)} {h c : Nat} (hh : h < rs.length) (hl : (rs[h]).length < 16777216) {kk : D → D → Fl} : mutK (modAt [.int (h : Int)] (.lst true (rs.map (rowD true))) fun d => mutD .append d [.int (c : Int)]) kk = kk .non (.lst true ((rs.set h (rs[h] ++ [c])).map (rowD true))) := by
  have e : modAt [.int (h : Int)] (.lst true (rs.map (rowD true))) (fun d => mutD .append d [.int (c : Int)]) = some (.non, .lst true ((rs.set h (rs[h] ++ [c])).map (rowD true))) := by
    have e2 : (rowD true rs[h]) = .lst true (rs[h].map fun c : Nat => .int (c : Int)) := rfl
    have e3 : (rs[h].map fun c : Nat => D.int (c : Int)).length < line := by
      rw [List.length_map]
      exact hl
    have e4 : mutD .append (rowD true rs[h]) [.int (c : Int)] = some (.non, rowD true (rs[h] ++ [c])) := by
      rw [e2]
      show (if (rs[h].map fun c : Nat => D.int (c : Int)).length < line then some (D.non, D.lst true ((rs[h].map fun c : Nat => D.int (c : Int)) ++ [.int (c : Int)])) else none) = _
      rw [if_pos e3]
      unfold rowD
      rw [List.map_append]
      rfl
    simp only [modAt, List.length_map, ixN_nat hh, Option.bind_some, List.getElem?_map, List.getElem?_eq_getElem hh, Option.map_some, e4, List.map_set]
  rw [e]
  rfl
theorem k_stepRow {rs : List (List Nat)} {h : Nat} (hh : h < rs.length) {k : D → Fl} : optv (stepD (.lst true (rs.map (rowD true))) (.int (h : Int))) k = k (rowD true rs[h]) := by
  show optv (atI (rs.map (rowD true)) (h : Int)) k = _
  rw [atI_nat (by rw [List.length_map]; exact hh), List.getElem_map]
  rfl
def sumR (S : Nat → Nat) : List (List Nat) → Nat
  | [] => 0
  | r :: rs => (r.map S).sum + sumR S rs
def sumFrom (S : Nat → Nat) : Nat → Nat → Nat
  | _, 0 => 0
  | a, n + 1 => S a + sumFrom S (a + 1) n
theorem sumFrom_succ (S : Nat → Nat) : ∀ n a, sumFrom S a (n + 1) = sumFrom S a n + S (a + n)
  | 0, a => by simp [sumFrom]
  | n + 1, a => by
    rw [sumFrom, sumFrom_succ S n (a + 1), sumFrom]
    rw [show a + 1 + n = a + (n + 1) by omega]
    omega
theorem sumR_app (S : Nat → Nat) : ∀ rs, sumR S (rs ++ [[]]) = sumR S rs
  | [] => rfl
  | r :: rs => by rw [List.cons_append, sumR, sumR, sumR_app S rs]
theorem sumR_set (S : Nat → Nat) (c : Nat) : ∀ (rs : List (List Nat)) (h : Nat) (hh : h < rs.length), sumR S (rs.set h (rs[h] ++ [c])) = sumR S rs + S c
  | [], _, hh => by simp at hh
  | r :: rs, 0, _ => by
    rw [List.set_cons_zero, sumR, sumR]
    simp
    omega
  | r :: rs, h + 1, hh => by
    rw [List.set_cons_succ, sumR, sumR]
    have := sumR_set S c rs h (by simpa using hh)
    simp only [List.getElem_cons_succ]
    omega
theorem sumR_all (S : Nat → Nat) : ∀ (rs : List (List Nat)) (a : Nat), (∀ j r, rs[j]? = some r → S (a + j) = 1 + (r.map S).sum) → sumFrom S a rs.length = rs.length + sumR S rs
  | [], a, _ => rfl
  | r :: rs, a, h => by
    have h0 := h 0 r rfl
    rw [List.length_cons, sumFrom, sumR, sumR_all S rs (a + 1) fun j r' hj => ?_]
    · rw [Nat.add_zero] at h0
      omega
    · have := h (j + 1) r' (by simpa using hj)
      rwa [show a + (j + 1) = a + 1 + j by omega] at this
mutual
/-- all letters are among ls -/
def Tr.inn (ls : List Nat) : Tr → Prop
  | .nd l cs => l ∈ ls ∧ innL ls cs
def innL (ls : List Nat) : List Tr → Prop
  | [] => True
  | t :: ts => t.inn ls ∧ innL ls ts
end
theorem innL_of {ls : List Nat} : ∀ {ts : List Tr}, (∀ t ∈ ts, t.inn ls) → innL ls ts
  | [], _ => trivial
  | t :: ts, h => ⟨h t (by simp), innL_of fun u hu => h u (by simp [hu])⟩
theorem innL_mem {ls : List Nat} : ∀ {ts : List Tr}, innL ls ts → ∀ t ∈ ts, t.inn ls
  | t :: ts, h, u, hu => by
    rcases List.mem_cons.mp hu with e | e
    · rw [e]
      exact h.1
    · exact innL_mem h.2 u e
mutual
theorem Tr.inn_ok {ls : List Nat} (h : ∀ l ∈ ls, 97 ≤ l ∧ l ≤ 122) : ∀ t : Tr, t.inn ls → t.ok
  | .nd l cs, hi => ⟨(h l hi.1).1, (h l hi.1).2, innL_ok h cs hi.2⟩
theorem innL_ok {ls : List Nat} (h : ∀ l ∈ ls, 97 ≤ l ∧ l ≤ 122) : ∀ ts : List Tr, innL ls ts → okTs ts
  | [], _ => trivial
  | t :: ts, hi => ⟨Tr.inn_ok h t hi.1, innL_ok h ts hi.2⟩
end
theorem sizeL_sum : ∀ ts : List Tr, sizeL ts = (ts.map Tr.size).sum
  | [] => rfl
  | t :: ts => by rw [sizeL, List.map_cons, List.sum_cons, sizeL_sum ts]
theorem depthL_le {n : Nat} : ∀ {ts : List Tr}, (∀ t ∈ ts, t.depth ≤ n) → depthL ts ≤ n
  | [], _ => Nat.zero_le _
  | t :: ts, h => by
    rw [depthL]
    have h1 := h t (by simp)
    have h2 : depthL ts ≤ n := depthL_le fun u hu => h u (List.mem_cons_of_mem _ hu)
    omega
theorem depthL_mem {t : Tr} : ∀ {ts : List Tr}, t ∈ ts → t.depth ≤ depthL ts
  | u :: ts, h => by
    rw [depthL]
    rcases List.mem_cons.mp h with e | e
    · rw [e]
      omega
    · have := depthL_mem e
      omega
theorem frzK_nd {b : Bool} {l : Nat} {cs : List Tr} {k : D → Fl} : frzK (.tup [.str [l], .lst b (dL cs)]) k = k (Tr.nd l cs).d := by
  show k _ = k _
  rw [D.frz, frzL, frzL, frzL, D.frz, D.frz, frzL_fro _ (dL_fro cs), Tr.d]
/-- a letter drawn from a text -/
theorem k_ixS {s : List Nat} {i : Int} (h0 : 0 ≤ i) (h1 : i < s.length) (h2 : s.length ≤ 1000) : ∃ c, c ∈ s ∧ ∀ k : D → Fl, optv (idxD (.str s) (.int i)) k = k (.str [c]) := by
  obtain ⟨n, rfl⟩ := Int.eq_ofNat_of_zero_le h0
  have hn : n < s.length := by omega
  refine ⟨s[n], List.getElem_mem hn, fun k => ?_⟩
  show optv (if s.length ≤ line then (atI s (n : Int)).map fun c => .str [c] else none) k = _
  rw [if_pos (Nat.le_trans h2 (by decide)), atI_nat hn]
  rfl
theorem k_lenS {s : List Nat} {k : D → Fl} (h : s.length ≤ 16777216) : optv (b1D .len (.str s)) k = k (.int s.length) := by
  show optv (if s.length ≤ line then some (D.int s.length) else none) k = _
  rw [if_pos (show s.length ≤ line from h)]
  rfl
theorem k_repN {o : Bool} {n : Nat} {k : D → Fl} (h : n ≤ 16777216) : optv (op2D .mul (.lst o [.non]) (.int (n : Int))) k = k (.lst true (List.replicate n .non)) := by
  have e1 : [D.non].length * (n : Int).toNat ≤ line := by
    show 1 * (n : Int).toNat ≤ 16777216
    omega
  have e2 : (n : Int) < 2 ^ 62 := by
    have : (2 : Int) ^ 62 = 4611686018427387904 := by decide
    omega
  have ef : froL [D.non] = true := rfl
  have e0 : (0 : Int) ≤ n := by omega
  have e : op2D .mul (.lst o [.non]) (.int (n : Int)) = some (.lst true (rep [D.non] n)) := by
    simp only [op2D, ef, e0, e2, e1, decide_true, Bool.and_true, if_true]
  rw [e]
  have e3 : ∀ n : Nat, (List.replicate n [D.non]).flatten = List.replicate n .non := by
    intro n
    induction n with
    | zero => rfl
    | succ n ih =>
      rw [List.replicate_succ, List.flatten_cons, ih]
      rfl
  show k (.lst true (rep [D.non] n)) = _
  unfold rep
  rw [e3]
  rfl
theorem perm_sizeL {ts us : List Tr} (h : ts.Perm us) : sizeL ts = sizeL us := by
  rw [sizeL_sum, sizeL_sum]
  exact (h.map _).sum_nat
theorem perm_depthL {ts us : List Tr} (h : ts.Perm us) : depthL ts = depthL us := by
  have := depthL_le (n := depthL us) (ts := ts) fun t ht => depthL_mem (h.mem_iff.mp ht)
  have := depthL_le (n := depthL ts) (ts := us) fun t ht => depthL_mem (h.mem_iff.mpr ht)
  omega
mutual
/-- the same but for the order of children -/
def Tr.like : Tr → Tr → Prop
  | .nd l es, u => u.l = l ∧ ∃ ds : List Tr, ds.Perm u.cs ∧ likeL es ds
def likeL : List Tr → List Tr → Prop
  | [], ds => ds = []
  | e :: es, ds => ∃ d ds', ds = d :: ds' ∧ e.like d ∧ likeL es ds'
end
theorem likeL_app : ∀ {es ds : List Tr} {e d : Tr}, likeL es ds → e.like d → likeL (es ++ [e]) (ds ++ [d])
  | [], ds, e, d, h, h' => by
    rw [likeL] at h
    subst h
    exact ⟨d, [], rfl, h', rfl⟩
  | x :: es, ds, e, d, ⟨y, ds', hd, h1, h2⟩, h' => by
    subst hd
    exact ⟨y, ds' ++ [d], rfl, h1, likeL_app h2 h'⟩
theorem likeL_len : ∀ {es ds : List Tr}, likeL es ds → es.length = ds.length
  | [], ds, h => by
    rw [likeL] at h
    subst h
    rfl
  | x :: es, ds, ⟨y, ds', hd, h1, h2⟩ => by
    subst hd
    rw [List.length_cons, List.length_cons, likeL_len h2]
theorem like_size : ∀ (u t : Tr), u.like t → u.size = t.size ∧ u.depth = t.depth ∧ ∀ ls, t.inn ls → u.inn ls := by
  refine Tr.ind fun l es ih t h => ?_
  obtain ⟨l', cs⟩ := t
  obtain ⟨hl, ds, hp, hL⟩ := h
  have go : ∀ (es ds : List Tr), (∀ e ∈ es, ∀ t, e.like t → e.size = t.size ∧ e.depth = t.depth ∧ ∀ ls, t.inn ls → e.inn ls) → likeL es ds → sizeL es = sizeL ds ∧ depthL es = depthL ds ∧ ∀ ls, innL ls ds → innL ls es := by
    intro es
    induction es with
    | nil =>
      intro ds _ h
      rw [likeL] at h
      subst h
      exact ⟨rfl, rfl, fun _ h => h⟩
    | cons e es ihe =>
      rintro ds hs ⟨d, ds', rfl, h1, h2⟩
      obtain ⟨a1, a2, a3⟩ := hs e (by simp) d h1
      obtain ⟨b1, b2, b3⟩ := ihe ds' (fun x hx => hs x (by simp [hx])) h2
      exact ⟨by rw [sizeL, sizeL, a1, b1], by rw [depthL, depthL, a2, b2], fun ls h => ⟨a3 ls h.1, b3 ls h.2⟩⟩
  obtain ⟨g1, g2, g3⟩ := go es ds ih hL
  have hl : l' = l := hl
  subst hl
  have hp : ds.Perm cs := hp
  refine ⟨by rw [Tr.size, Tr.size, g1, perm_sizeL hp], by rw [Tr.depth, Tr.depth, g2, perm_depthL hp], fun ls h => ⟨h.1, g3 ls (innL_of fun t ht => innL_mem h.2 t (hp.mem_iff.mp ht))⟩⟩
theorem evO_of_frz {G : Fl → Prop} {f : Fl} (h : Wp G f) : Wp G f := h
theorem frzK_of {x y : D} {k : D → Fl} (h : x.frz = y) : frzK x k = k y := by
  show k x.frz = _
  rw [h]
theorem innL_app {ls : List Nat} : ∀ {ts us : List Tr}, innL ls ts → innL ls us → innL ls (ts ++ us)
  | [], _, _, h => h
  | t :: ts, _, h, h' => ⟨h.1, innL_app h.2 h'⟩
theorem sizeL_mem {t : Tr} : ∀ {ts : List Tr}, t ∈ ts → t.size ≤ sizeL ts
  | u :: ts, h => by
    rw [sizeL]
    rcases List.mem_cons.mp h with e | e
    · rw [e]
      omega
    · have := sizeL_mem e
      omega
def kids (ts : List Tr) : List Tr := ts.flatMap Tr.cs
theorem kids_cons (t : Tr) (ts : List Tr) : kids (t :: ts) = t.cs ++ kids ts := rfl
theorem kids_app (ts us : List Tr) : kids (ts ++ us) = kids ts ++ kids us := List.flatMap_append
theorem kids_size : ∀ ts, sizeL ts = ts.length + sizeL (kids ts)
  | [] => rfl
  | .nd l cs :: ts => by
    rw [sizeL, Tr.size, kids_size ts, List.length_cons, kids_cons, sizeL_app]
    show _ = _ + (sizeL cs + _)
    omega
theorem kids_depth : ∀ ts, ts ≠ [] → depthL ts = 1 + depthL (kids ts)
  | [.nd l cs], _ => by
    rw [kids_cons, depthL_app]
    show max (Tr.depth (.nd l cs)) 0 = 1 + max (depthL cs) 0
    rw [Tr.depth]
    omega
  | .nd l cs :: t :: ts, _ => by
    rw [depthL, kids_depth (t :: ts) (by simp), Tr.depth, kids_cons (.nd l cs), depthL_app]
    show _ = 1 + max (depthL cs) _
    omega
theorem kids_ok : ∀ {ts}, okTs ts → okTs (kids ts)
  | [], _ => trivial
  | .nd l cs :: ts, h => okTs_app.mpr ⟨h.1.2.2, kids_ok h.2⟩
end VI

set_option maxRecDepth 100000
set_option maxHeartbeats 4000000
namespace VI
namespace K02
def fn_is_letter : Fn := ⟨1, 1, [], .cons (.ret (.boo true (.cons (.isi .str (.nm .pk 0)) (.cons (.cmp .eq (.bc1 .len (.nm .pk 0)) (.cst (.int 1))) (.cons (.cmp .in_ (.nm .pk 0) (.glc "LETTERS" (.str "abcdefghijklmnopqrstuvwxyz"))) .nil))))) .nil⟩
def fn_is_part : Fn := ⟨1, 1, [], .cons (.ret (.boo true (.cons (.isi .tuple (.nm .pk 0)) (.cons (.cmp .eq (.bc1 .len (.nm .pk 0)) (.cst (.int 2))) (.cons (.call "is_letter" (.v (.idx (.nm .pk 0) (.cst (.int 0))) .nil)) (.cons (.isi .list (.idx (.nm .pk 0) (.cst (.int 1)))) .nil)))))) .nil⟩
def fn_is_tree : Fn := ⟨1, 3, [], .cons (.asg 1 (.lst (.cons (.nm .pk 0) .nil))) (.cons (.whl (.cmp .ne (.nm .pk 1) (.lst (.nil))) (.cons (.asg 2 (.mut .pop 1 (.nil) (.nil))) (.cons (.ife (.op1 .not_ (.call "is_part" (.v (.nm .fz 2) .nil))) (.cons (.ret (.cst (.bl false))) .nil) (.nil)) (.cons (.exp (.mut .extend 1 (.nil) (.cons (.idx (.nm .pk 2) (.cst (.int 1))) .nil))) .nil)))) (.cons (.ret (.cst (.bl true))) .nil))⟩
def fn_need_tree : Fn := ⟨1, 1, [], .cons (.ife (.op1 .not_ (.call "is_tree" (.v (.nm .pk 0) .nil))) (.cons (.dead) .nil) (.nil)) .nil⟩
def fn_parts_in_order : Fn := ⟨1, 3, [], .cons (.asg 1 (.lst (.nil))) (.cons (.asg 2 (.lst (.cons (.nm .pk 0) .nil))) (.cons (.whl (.cmp .ne (.nm .pk 2) (.lst (.nil))) (.cons (.exp (.mut .append 1 (.nil) (.cons (.frz (.mut .pop 2 (.nil) (.nil))) .nil))) (.cons (.exp (.mut .extend 2 (.nil) (.cons (.idx (.idx (.nm .pk 1) (.op1 .neg (.cst (.int 1)))) (.cst (.int 1))) .nil))) .nil))) (.cons (.ret (.rev (.nm .pk 1))) .nil)))⟩
def fn_counted_parts : Fn := ⟨1, 1, [], .cons (.ret (.bc1 .len (.call "parts_in_order" (.v (.nm .pk 0) .nil)))) .nil⟩
def fn_size_of : Fn := ⟨1, 1, [], .cons (.exp (.call "need_tree" (.v (.nm .pk 0) .nil))) (.cons (.ret (.call "counted_parts" (.v (.nm .pk 0) .nil))) .nil)⟩
def fn_counted_depth : Fn := ⟨1, 4, [], .cons (.asg 1 (.lst (.nil))) (.cons (.for_ (.one 2) (.seq (.call "parts_in_order" (.v (.nm .pk 0) .nil))) (.cons (.asg 3 (.op2 .sub (.bc1 .len (.nm .pk 1)) (.bc1 .len (.idx (.nm .pk 2) (.cst (.int 1)))))) (.cons (.asg 1 (.op2 .add (.slc (.nm .pk 1) .none (.some (.nm .pk 3))) (.lst (.cons (.frz (.op2 .add (.cst (.int 1)) (.bc1 .max (.op2 .add (.lst (.cons (.cst (.int 0)) .nil)) (.slc (.nm .pk 1) (.some (.nm .pk 3)) .none))))) .nil)))) .nil))) (.cons (.ret (.idx (.nm .pk 1) (.cst (.int 0)))) .nil))⟩
def fn_depth_of : Fn := ⟨1, 1, [], .cons (.exp (.call "need_tree" (.v (.nm .pk 0) .nil))) (.cons (.ret (.call "counted_depth" (.v (.nm .pk 0) .nil))) .nil)⟩
def fn__law_pool : Fn := ⟨2, 3, [], .cons (.asg 2 (.cst (.int 0))) (.cons (.ife (.cmp .lt (.nm .pk 1) (.bc1 .len (.nm .pk 0))) (.cons (.asg 2 (.idx (.nm .pk 0) (.nm .pk 1))) .nil) (.nil)) (.cons (.ife (.cmp .ge (.nm .pk 2) (.op2 .pow (.cst (.int 10)) (.cst (.int 18)))) (.cons (.ret (.lst (.cons (.op2 .sub (.nm .pk 2) (.op2 .pow (.cst (.int 10)) (.cst (.int 18)))) (.cons (.cst (.int 1)) (.cons (.cst (.int 0)) .nil))))) .nil) (.nil)) (.cons (.ret (.lst (.cons (.nm .pk 2) (.cons (.cst (.int 0)) (.cons (.op2 .mul (.cst (.int 47)) (.nm .pk 1)) .nil))))) .nil)))⟩
def fn__law_take : Fn := ⟨2, 5, [0], .cons (.ife (.cmp .eq (.idx (.nm .pk 0) (.cst (.int 1))) (.cst (.int 1))) (.cons (.asg 2 (.op2 .mod (.idx (.nm .pk 0) (.cst (.int 0))) (.nm .pk 1))) (.cons (.sti 0 (.nil) (.cst (.int 0)) (.op2 .fdiv (.idx (.nm .pk 0) (.cst (.int 0))) (.nm .pk 1))) (.cons (.ret (.nm .pk 2)) .nil))) (.nil)) (.cons (.sti 0 (.nil) (.cst (.int 2)) (.op2 .add (.idx (.nm .pk 0) (.cst (.int 2))) (.cst (.int 1)))) (.cons (.asg 3 (.idx (.nm .pk 0) (.cst (.int 2)))) (.cons (.asg 4 (.op2 .mul (.op2 .add (.op2 .mod (.idx (.nm .pk 0) (.cst (.int 0))) (.cst (.int 9999999557))) (.cst (.int 1013))) (.op2 .add (.op2 .mul (.cst (.int 41)) (.nm .pk 3)) (.cst (.int 71))))) (.cons (.asg 4 (.op2 .add (.nm .pk 4) (.op2 .mul (.op2 .mul (.cst (.int 3571)) (.nm .pk 3)) (.nm .pk 3)))) (.cons (.asg 4 (.op2 .mod (.op2 .mul (.nm .pk 4) (.nm .pk 4)) (.cst (.int 99999999587)))) (.cons (.ret (.op2 .mod (.op2 .fdiv (.op2 .mod (.op2 .mul (.nm .pk 4) (.op2 .add (.nm .pk 4) (.cst (.int 53)))) (.cst (.int 99999999881))) (.cst (.int 103))) (.nm .pk 1))) .nil))))))⟩
def fn__law_mixed_up : Fn := ⟨2, 4, [0], .cons (.asg 2 (.bc1 .list (.nm .pk 1))) (.cons (.asg 3 (.lst (.nil))) (.cons (.whl (.cmp .ne (.nm .pk 2) (.lst (.nil))) (.cons (.exp (.mut .append 3 (.nil) (.cons (.frz (.mut .popAt 2 (.nil) (.cons (.call "_law_take" (.io 0 (.v (.bc1 .len (.nm .pk 2)) .nil))) .nil))) .nil))) .nil)) (.cons (.ret (.nm .mv 3)) .nil)))⟩
def fn__law_grown : Fn := ⟨3, 12, [0], .cons (.asg 3 (.op2 .add (.cst (.int 1)) (.idx (.lst (.cons (.call "_law_take" (.io 0 (.v (.bc2 .min (.nm .pk 1) (.cst (.int 7))) .nil))) (.cons (.call "_law_take" (.io 0 (.v (.nm .pk 1) .nil))) .nil))) (.call "_law_take" (.io 0 (.v (.cst (.int 2)) .nil)))))) (.cons (.asg 4 (.call "_law_take" (.io 0 (.v (.cst (.int 3)) .nil)))) (.cons (.asg 5 (.lst (.cons (.cst (.int 1)) .nil))) (.cons (.asg 6 (.lst (.cons (.lst (.nil)) .nil))) (.cons (.for_ (.one 7) (.rg2 (.cst (.int 1)) (.nm .fz 3)) (.cons (.asg 8 (.idx (.lst (.cons (.call "_law_take" (.io 0 (.v (.nm .pk 7) .nil))) (.cons (.op2 .sub (.nm .pk 7) (.cst (.int 1))) (.cons (.call "_law_take" (.io 0 (.v (.bc2 .min (.nm .pk 7) (.cst (.int 3))) .nil))) .nil)))) (.nm .pk 4))) (.cons (.ife (.cmp .gt (.idx (.nm .pk 5) (.nm .pk 8)) (.cst (.int 29))) (.cons (.asg 8 (.cst (.int 0))) .nil) (.nil)) (.cons (.exp (.mut .append 6 (.ix (.nil) (.nm .fz 8)) (.cons (.nm .pk 7) .nil))) (.cons (.exp (.mut .append 6 (.nil) (.cons (.lst (.nil)) .nil))) (.cons (.exp (.mut .append 5 (.nil) (.cons (.op2 .add (.idx (.nm .pk 5) (.nm .pk 8)) (.cst (.int 1))) .nil))) .nil)))))) (.cons (.asg 9 (.op2 .mul (.lst (.cons (.cst .non) .nil)) (.nm .pk 3))) (.cons (.for_ (.one 7) (.rg3 (.op2 .sub (.nm .pk 3) (.cst (.int 1))) (.op1 .neg (.cst (.int 1))) (.op1 .neg (.cst (.int 1)))) (.cons (.asg 10 (.comp (.idx (.nm .pk 9) (.nm .pk 11)) (.one 11) (.seq (.call "_law_mixed_up" (.io 0 (.v (.idx (.nm .fz 6) (.nm .pk 7)) .nil)))) .none)) (.cons (.sti 9 (.nil) (.nm .pk 7) (.frz (.tup (.cons (.idx (.nm .pk 2) (.call "_law_take" (.io 0 (.v (.bc1 .len (.nm .pk 2)) .nil)))) (.cons (.nm .fz 10) .nil))))) .nil))) (.cons (.ret (.idx (.nm .pk 9) (.cst (.int 0)))) .nil)))))))⟩
def fn__law_shuffled : Fn := ⟨2, 3, [0], .cons (.ret (.tup (.cons (.idx (.nm .pk 1) (.cst (.int 0))) (.cons (.comp (.frz (.call "_law_shuffled" (.io 0 (.v (.nm .pk 2) .nil)))) (.one 2) (.seq (.call "_law_mixed_up" (.io 0 (.v (.idx (.nm .pk 1) (.cst (.int 1))) .nil)))) .none) .nil)))) .nil⟩
def fn__law_tree : Fn := ⟨3, 6, [0], .cons (.ife (.cmp .eq (.call "_law_take" (.io 0 (.v (.cst (.int 2)) .nil))) (.cst (.int 0))) (.cons (.ret (.call "_law_grown" (.io 0 (.v (.nm .pk 1) (.v (.nm .pk 2) .nil))))) .nil) (.nil)) (.cons (.asg 3 (.call "_law_grown" (.io 0 (.v (.op2 .fdiv (.nm .pk 1) (.cst (.int 3))) (.v (.nm .pk 2) .nil))))) (.cons (.asg 4 (.call "_law_grown" (.io 0 (.v (.op2 .sub (.op2 .fdiv (.nm .pk 1) (.cst (.int 3))) (.cst (.int 1))) (.v (.nm .pk 2) .nil))))) (.cons (.asg 5 (.lst (.cons (.frz (.lst (.cons (.nm .pk 3) (.cons (.frz (.call "_law_shuffled" (.io 0 (.v (.nm .pk 3) .nil)))) .nil)))) (.cons (.frz (.lst (.cons (.nm .pk 3) (.cons (.nm .pk 4) (.cons (.frz (.call "_law_shuffled" (.io 0 (.v (.nm .pk 3) .nil)))) .nil))))) (.cons (.frz (.lst (.cons (.nm .pk 4) (.cons (.nm .pk 3) (.cons (.nm .pk 3) .nil))))) .nil))))) (.cons (.ret (.tup (.cons (.idx (.nm .pk 2) (.call "_law_take" (.io 0 (.v (.bc1 .len (.nm .pk 2)) .nil)))) (.cons (.call "_law_mixed_up" (.io 0 (.v (.idx (.nm .pk 5) (.call "_law_take" (.io 0 (.v (.cst (.int 3)) .nil)))) .nil))) .nil)))) .nil))))⟩
def fn__law_letters : Fn := ⟨1, 1, [0], .cons (.ret (.idx (.lst (.cons (.cst (.str "a")) (.cons (.cst (.str "ab")) (.cons (.cst (.str "abc")) (.cons (.cst (.str "xyz")) (.cons (.cst (.str "abcdefghijklmnopqrstuvwxyz")) .nil)))))) (.call "_law_take" (.io 0 (.v (.cst (.int 5)) .nil))))) .nil⟩
def fn__law_copy : Fn := ⟨1, 2, [], .cons (.ret (.tup (.cons (.idx (.nm .pk 0) (.cst (.int 0))) (.cons (.comp (.frz (.call "_law_copy" (.v (.nm .pk 1) .nil))) (.one 1) (.seq (.idx (.nm .pk 0) (.cst (.int 1)))) .none) .nil)))) .nil⟩
def fn__law_counted : Fn := ⟨1, 6, [], .cons (.asg 1 (.lst (.cons (.nm .pk 0) .nil))) (.cons (.asg 2 (.cst (.int 0))) (.cons (.asg 3 (.cst (.int 0))) (.cons (.whl (.cmp .ne (.nm .pk 1) (.lst (.nil))) (.cons (.asg 2 (.op2 .add (.nm .pk 2) (.bc1 .len (.nm .pk 1)))) (.cons (.asg 3 (.op2 .add (.nm .pk 3) (.cst (.int 1)))) (.cons (.asg 4 (.lst (.nil))) (.cons (.for_ (.one 5) (.seq (.nm .fz 1)) (.cons (.asg 4 (.op2 .add (.nm .pk 4) (.idx (.nm .pk 5) (.cst (.int 1))))) .nil)) (.cons (.asg 1 (.nm .fz 4)) .nil)))))) (.cons (.ret (.lst (.cons (.nm .pk 2) (.cons (.nm .pk 3) .nil)))) .nil))))⟩
def fn_law : Fn := ⟨1, 9, [], .cons (.for_ (.one 1) (.rg1 (.bc2 .max (.cst (.int 1)) (.bc2 .min (.cst (.int 12)) (.bc1 .len (.nm .pk 0))))) (.cons (.asg 2 (.call "_law_pool" (.v (.nm .pk 0) (.v (.nm .pk 1) .nil)))) (.cons (.asg 3 (.call "_law_tree" (.io 2 (.v (.cst (.int 60)) (.v (.call "_law_letters" (.io 2 .nil)) .nil))))) (.cons (.asg 4 (.call "_law_counted" (.v (.nm .fz 3) .nil))) (.cons (.asg 5 (.call "_law_copy" (.v (.nm .fz 3) .nil))) (.cons (.for_ (.one 6) (.rg1 (.cst (.int 2))) (.cons (.asg 7 (.lst (.cons (.call "size_of" (.v (.nm .fz 5) .nil)) (.cons (.call "depth_of" (.v (.nm .fz 5) .nil)) .nil)))) (.cons (.ife (.boo false (.cons (.cmp .ne (.nm .pk 7) (.nm .pk 4)) (.cons (.cmp .ne (.comp (.cst (.int 1)) (.one 8) (.seq (.nm .fz 7)) (.some (.isi .bool (.nm .pk 8)))) (.lst (.nil))) (.cons (.cmp .ne (.nm .pk 5) (.nm .pk 3)) .nil)))) (.cons (.ret (.cst (.bl false))) .nil) (.nil)) .nil))) .nil)))))) (.cons (.ret (.cst (.bl true))) .nil)⟩
def P : Prg := fun f => match f with
  | "is_letter" => some fn_is_letter
  | "is_part" => some fn_is_part
  | "is_tree" => some fn_is_tree
  | "need_tree" => some fn_need_tree
  | "parts_in_order" => some fn_parts_in_order
  | "counted_parts" => some fn_counted_parts
  | "size_of" => some fn_size_of
  | "counted_depth" => some fn_counted_depth
  | "depth_of" => some fn_depth_of
  | "_law_pool" => some fn__law_pool
  | "_law_take" => some fn__law_take
  | "_law_mixed_up" => some fn__law_mixed_up
  | "_law_grown" => some fn__law_grown
  | "_law_shuffled" => some fn__law_shuffled
  | "_law_tree" => some fn__law_tree
  | "_law_letters" => some fn__law_letters
  | "_law_copy" => some fn__law_copy
  | "_law_counted" => some fn__law_counted
  | "law" => some fn_law
  | _ => none
theorem P_is_letter : P "is_letter" = some fn_is_letter := rfl
theorem P_is_part : P "is_part" = some fn_is_part := rfl
theorem P_is_tree : P "is_tree" = some fn_is_tree := rfl
theorem P_need_tree : P "need_tree" = some fn_need_tree := rfl
theorem P_parts_in_order : P "parts_in_order" = some fn_parts_in_order := rfl
theorem P_counted_parts : P "counted_parts" = some fn_counted_parts := rfl
theorem P_size_of : P "size_of" = some fn_size_of := rfl
theorem P_counted_depth : P "counted_depth" = some fn_counted_depth := rfl
theorem P_depth_of : P "depth_of" = some fn_depth_of := rfl
theorem P__law_pool : P "_law_pool" = some fn__law_pool := rfl
theorem P__law_take : P "_law_take" = some fn__law_take := rfl
theorem P__law_mixed_up : P "_law_mixed_up" = some fn__law_mixed_up := rfl
theorem P__law_grown : P "_law_grown" = some fn__law_grown := rfl
theorem P__law_shuffled : P "_law_shuffled" = some fn__law_shuffled := rfl
theorem P__law_tree : P "_law_tree" = some fn__law_tree := rfl
theorem P__law_letters : P "_law_letters" = some fn__law_letters := rfl
theorem P__law_copy : P "_law_copy" = some fn__law_copy := rfl
theorem P__law_counted : P "_law_counted" = some fn__law_counted := rfl
theorem P_law : P "law" = some fn_law := rfl
end K02
end VI

set_option maxRecDepth 100000
set_option maxHeartbeats 4000000
namespace VI
namespace K02
theorem c_pool (k : Nat) (ns : List Int) (j : Nat) (hj : j ≤ 63) : Gives (callF P (k + 1) "_law_pool" [] [.scr ns, .int j]) fun r o => ∃ p : Pl, r = p.d ∧ p.ok 3000 ∧ o = [] := by
  refine gives_fn P__law_pool rfl rfl ?_
  simp only [fn__law_pool, List.map_cons, List.map_nil, List.cons_append, List.nil_append, List.append_nil, List.replicate_succ, List.replicate_zero, Nat.reduceSub, Nat.sub_self]
  simp (disch := first | omega | assumption | decide) only [↓q_pk, ↓q_fz, ↓q_mv, ↓q_ci, ↓q_cb, ↓q_cn, ↓q_cs, ↓q_gi, ↓evF_op1, ↓q_op2, ↓q_cmp, ↓q_bc2, ↓evF_bc1, ↓evF_rev, ↓q_isi, ↓q_idx, ↓evF_chn, ↓evF_boo, ↓q_slc, ↓evF_tup, ↓evF_lst, ↓q_frz, ↓p_call, ↓q_xn, ↓q_xv, ↓q_xi, ↓p_comp1, ↓r_mut0, ↓if_own, ↓evB_nil, ↓evB_cons, ↓evS_nil, ↓evS_cons, ↓evOp_none, ↓evOp_some, ↓evP_nil, ↓evP_ix, ↓evI_seq, ↓evI_rg1, ↓evI_rg2, ↓evI_enu, ↓evI_zip, ↓runS_nil, ↓runS_cons, ↓q_asg, ↓run1_unp, ↓q_sti0, ↓q_aug, ↓run1_aui, ↓run1_exp, ↓run1_ife, ↓p_for, ↓p_whl, ↓run1_ret, ↓run1_retn, ↓run1_pas, ↓run1_rai, ↓evO_def, ↓evT_def, ↓getv0, ↓getvS, ↓setK0, ↓setKS, ↓getO0, ↓getOS, ↓rootK_i, ↓rootK_b, ↓rootK_s, ↓rootK_n, ↓rootK_c, ↓rootK_o, ↓rootK_I, ↓frzK_i, ↓frzK_b, ↓frzK_s, ↓frzK_n, ↓frzK_c, ↓frzK_I, ↓hidK_n, ↓hidK_s, ↓unhK_n, ↓unhK_s, ↓subK_n, ↓subK_i, ↓subK_b, ↓subK_s, ↓subK_x, ↓putK_c, ↓putK_n, ↓optv_some, ↓optl_some, ↓alone_none, ↓isB_bl, ↓isI_int, ↓putE_some, ↓k_add, ↓k_sub, ↓k_mod, ↓k_div, ↓k_mulL, ↓k_mulR, ↓k_p18, ↓k_p15, ↓k_p14, ↓k_neg, ↓k_not, ↓k_lt, ↓k_le, ↓k_gt, ↓k_ge, ↓k_eq, ↓k_ne, ↓k_lenC, ↓k_lenI, ↓k_lenT, ↓k_int, ↓k_max, ↓k_min, ↓k_isII, ↓k_isBI, ↓k_ix0, ↓k_ix1, ↓k_ix2, ↓k_set0, ↓k_set2, ↓k_auga, ↓k_augs, ↓k_eqL0, ↓k_neL0, ↓m_popI, ↓m_appI, ↓mutK_some, ↓k_rev, ↓k_sum, ↓k_ixZ, ↓k_listI, ↓walkI, ↓k_eqB, ↓k_neB, ↓k_intB, ↓k_isBB, ↓k_isIB, ↓k_isS, ↓k_eqLI, ↓k_neLI, ↓rng_one, ↓if_l0, ↓if_l1, ↓if_l2, ↓if_l3, ↓if_l4, ↓if_l5, ↓if_l6, ↓if_l7, ↓if_l8, ↓k_ixT0, ↓k_ixT1, ↓k_ixT2, ↓k_ixT3, ↓walkFI, ↓zipI, ↓p_comp2, ↓k_repI, ↓subK_I, ↓k_eqQt, ↓k_eqQf, ↓k_neQt, ↓k_neQf, ↓ki0, ↓ki1, ↓ki2, ↓ki3, ↓ki4, ↓ki5, ↓ki6, ↓ki7, ↓ki8, ↓ki9, ↓ki10, ↓ki11, ↓ki12, ↓ki13, ↓ki14, ↓ki15, ↓ki16, ↓ki17, ↓ki18, ↓ki19, ↓ki20, ↓ki21, ↓ki22, ↓ki23, ↓ki24, ↓ki25, ↓ki26, ↓ki27, ↓ki28, ↓ki29, ↓ki30, ↓ki31, ↓ki32, ↓ki33, ↓ki34, ↓ki35, ↓q_gs, ↓k_len1, ↓k_in1, ↓frzK_d, ↓frzK_dT, ↓frzK_dL, ↓rootK_d, ↓rootK_dL, ↓subK_d, ↓subK_dL, ↓k_ixTr0, ↓k_ixTr1, ↓k_lenTr, ↓k_tupTr, ↓walk_dL, ↓k_lendL, ↓q_mut1, ↓evI_rg3, ↓frzK_nd, ↓reduceIte, fnEnd_ret, fnEnd_nxt, fnEnd_exc, isOwn_t, List.map_cons, List.map_nil, List.cons_append, List.nil_append, List.append_nil, List.replicate_succ, List.replicate_zero, List.getD_cons_zero, List.getD_cons_succ, Bool.not_true, Bool.not_false, decide_true, decide_false, decide_eq_true_eq, decide_eq_false_iff_not, Bool.false_eq_true, Nat.zero_add, Nat.reduceAdd, Int.reduceEq, Int.reduceLT, Int.reduceLE, Nat.reduceEqDiff, reduceCtorEq, eq_self, not_true_eq_false, not_false_eq_true]
  refine wp_if (fun hc => ?_) fun hc => ?_
  · have h : j < ns.length := by omega
    simp (disch := first | omega | assumption | decide) only [↓q_pk, ↓q_fz, ↓q_mv, ↓q_ci, ↓q_cb, ↓q_cn, ↓q_cs, ↓q_gi, ↓evF_op1, ↓q_op2, ↓q_cmp, ↓q_bc2, ↓evF_bc1, ↓evF_rev, ↓q_isi, ↓q_idx, ↓evF_chn, ↓evF_boo, ↓q_slc, ↓evF_tup, ↓evF_lst, ↓q_frz, ↓p_call, ↓q_xn, ↓q_xv, ↓q_xi, ↓p_comp1, ↓r_mut0, ↓if_own, ↓evB_nil, ↓evB_cons, ↓evS_nil, ↓evS_cons, ↓evOp_none, ↓evOp_some, ↓evP_nil, ↓evP_ix, ↓evI_seq, ↓evI_rg1, ↓evI_rg2, ↓evI_enu, ↓evI_zip, ↓runS_nil, ↓runS_cons, ↓q_asg, ↓run1_unp, ↓q_sti0, ↓q_aug, ↓run1_aui, ↓run1_exp, ↓run1_ife, ↓p_for, ↓p_whl, ↓run1_ret, ↓run1_retn, ↓run1_pas, ↓run1_rai, ↓evO_def, ↓evT_def, ↓getv0, ↓getvS, ↓setK0, ↓setKS, ↓getO0, ↓getOS, ↓rootK_i, ↓rootK_b, ↓rootK_s, ↓rootK_n, ↓rootK_c, ↓rootK_o, ↓rootK_I, ↓frzK_i, ↓frzK_b, ↓frzK_s, ↓frzK_n, ↓frzK_c, ↓frzK_I, ↓hidK_n, ↓hidK_s, ↓unhK_n, ↓unhK_s, ↓subK_n, ↓subK_i, ↓subK_b, ↓subK_s, ↓subK_x, ↓putK_c, ↓putK_n, ↓optv_some, ↓optl_some, ↓alone_none, ↓isB_bl, ↓isI_int, ↓putE_some, ↓k_add, ↓k_sub, ↓k_mod, ↓k_div, ↓k_mulL, ↓k_mulR, ↓k_p18, ↓k_p15, ↓k_p14, ↓k_neg, ↓k_not, ↓k_lt, ↓k_le, ↓k_gt, ↓k_ge, ↓k_eq, ↓k_ne, ↓k_lenC, ↓k_lenI, ↓k_lenT, ↓k_int, ↓k_max, ↓k_min, ↓k_isII, ↓k_isBI, ↓k_ix0, ↓k_ix1, ↓k_ix2, ↓k_set0, ↓k_set2, ↓k_auga, ↓k_augs, ↓k_eqL0, ↓k_neL0, ↓m_popI, ↓m_appI, ↓mutK_some, ↓k_rev, ↓k_sum, ↓k_ixZ, ↓k_listI, ↓walkI, ↓k_eqB, ↓k_neB, ↓k_intB, ↓k_isBB, ↓k_isIB, ↓k_isS, ↓k_eqLI, ↓k_neLI, ↓rng_one, ↓if_l0, ↓if_l1, ↓if_l2, ↓if_l3, ↓if_l4, ↓if_l5, ↓if_l6, ↓if_l7, ↓if_l8, ↓k_ixT0, ↓k_ixT1, ↓k_ixT2, ↓k_ixT3, ↓walkFI, ↓zipI, ↓p_comp2, ↓k_repI, ↓subK_I, ↓k_eqQt, ↓k_eqQf, ↓k_neQt, ↓k_neQf, ↓ki0, ↓ki1, ↓ki2, ↓ki3, ↓ki4, ↓ki5, ↓ki6, ↓ki7, ↓ki8, ↓ki9, ↓ki10, ↓ki11, ↓ki12, ↓ki13, ↓ki14, ↓ki15, ↓ki16, ↓ki17, ↓ki18, ↓ki19, ↓ki20, ↓ki21, ↓ki22, ↓ki23, ↓ki24, ↓ki25, ↓ki26, ↓ki27, ↓ki28, ↓ki29, ↓ki30, ↓ki31, ↓ki32, ↓ki33, ↓ki34, ↓ki35, ↓q_gs, ↓k_len1, ↓k_in1, ↓frzK_d, ↓frzK_dT, ↓frzK_dL, ↓rootK_d, ↓rootK_dL, ↓subK_d, ↓subK_dL, ↓k_ixTr0, ↓k_ixTr1, ↓k_lenTr, ↓k_tupTr, ↓walk_dL, ↓k_lendL, ↓q_mut1, ↓evI_rg3, ↓frzK_nd, ↓reduceIte, fnEnd_ret, fnEnd_nxt, fnEnd_exc, isOwn_t, List.map_cons, List.map_nil, List.cons_append, List.nil_append, List.append_nil, List.replicate_succ, List.replicate_zero, List.getD_cons_zero, List.getD_cons_succ, Bool.not_true, Bool.not_false, decide_true, decide_false, decide_eq_true_eq, decide_eq_false_iff_not, Bool.false_eq_true, Nat.zero_add, Nat.reduceAdd, Int.reduceEq, Int.reduceLT, Int.reduceLE, Nat.reduceEqDiff, reduceCtorEq, eq_self, not_true_eq_false, not_false_eq_true, k_ixC h]
    refine wp_if (fun hc => ?_) fun hc => ?_
    · exact wp_ret ⟨⟨_, 1, 0⟩, rfl, ⟨Int.le_refl 0, by show (0 : Int) ≤ 3000; omega⟩, rfl⟩
    · exact wp_ret ⟨⟨_, 0, 47 * (j : Int)⟩, rfl, ⟨by show (0 : Int) ≤ 47 * (j : Int); omega, by show 47 * (j : Int) ≤ 3000; omega⟩, rfl⟩
  · exact wp_ret ⟨⟨0, 0, 47 * (j : Int)⟩, rfl, ⟨by show (0 : Int) ≤ 47 * (j : Int); omega, by show 47 * (j : Int) ≤ 3000; omega⟩, rfl⟩
theorem c_take (k : Nat) (p : Pl) (m : Int) (hp : p.ok m) (many : Int) (hm : m ≤ 1000000) (h0 : 0 < many) (h1 : many < 18446744073709551616) : Gives (callF P (k + 1) "_law_take" [0] [p.d, .int many]) fun r o => ∃ (v : Int) (p' : Pl), r = .int v ∧ 0 ≤ v ∧ v < many ∧ p'.ok (m + 1) ∧ o = [some p'.d] := by
  obtain ⟨a, b, c⟩ := p
  obtain ⟨hc, hc'⟩ := hp
  simp only at hc hc'
  refine gives_fn P__law_take rfl rfl ?_
  simp only [fn__law_take, List.map_cons, List.map_nil, List.cons_append, List.nil_append, List.append_nil, List.replicate_succ, List.replicate_zero, Nat.reduceSub, Nat.sub_self, Pl.d]
  simp (disch := first | omega | assumption | decide) only [↓q_pk, ↓q_fz, ↓q_mv, ↓q_ci, ↓q_cb, ↓q_cn, ↓q_cs, ↓q_gi, ↓evF_op1, ↓q_op2, ↓q_cmp, ↓q_bc2, ↓evF_bc1, ↓evF_rev, ↓q_isi, ↓q_idx, ↓evF_chn, ↓evF_boo, ↓q_slc, ↓evF_tup, ↓evF_lst, ↓q_frz, ↓p_call, ↓q_xn, ↓q_xv, ↓q_xi, ↓p_comp1, ↓r_mut0, ↓if_own, ↓evB_nil, ↓evB_cons, ↓evS_nil, ↓evS_cons, ↓evOp_none, ↓evOp_some, ↓evP_nil, ↓evP_ix, ↓evI_seq, ↓evI_rg1, ↓evI_rg2, ↓evI_enu, ↓evI_zip, ↓runS_nil, ↓runS_cons, ↓q_asg, ↓run1_unp, ↓q_sti0, ↓q_aug, ↓run1_aui, ↓run1_exp, ↓run1_ife, ↓p_for, ↓p_whl, ↓run1_ret, ↓run1_retn, ↓run1_pas, ↓run1_rai, ↓evO_def, ↓evT_def, ↓getv0, ↓getvS, ↓setK0, ↓setKS, ↓getO0, ↓getOS, ↓rootK_i, ↓rootK_b, ↓rootK_s, ↓rootK_n, ↓rootK_c, ↓rootK_o, ↓rootK_I, ↓frzK_i, ↓frzK_b, ↓frzK_s, ↓frzK_n, ↓frzK_c, ↓frzK_I, ↓hidK_n, ↓hidK_s, ↓unhK_n, ↓unhK_s, ↓subK_n, ↓subK_i, ↓subK_b, ↓subK_s, ↓subK_x, ↓putK_c, ↓putK_n, ↓optv_some, ↓optl_some, ↓alone_none, ↓isB_bl, ↓isI_int, ↓putE_some, ↓k_add, ↓k_sub, ↓k_mod, ↓k_div, ↓k_mulL, ↓k_mulR, ↓k_p18, ↓k_p15, ↓k_p14, ↓k_neg, ↓k_not, ↓k_lt, ↓k_le, ↓k_gt, ↓k_ge, ↓k_eq, ↓k_ne, ↓k_lenC, ↓k_lenI, ↓k_lenT, ↓k_int, ↓k_max, ↓k_min, ↓k_isII, ↓k_isBI, ↓k_ix0, ↓k_ix1, ↓k_ix2, ↓k_set0, ↓k_set2, ↓k_auga, ↓k_augs, ↓k_eqL0, ↓k_neL0, ↓m_popI, ↓m_appI, ↓mutK_some, ↓k_rev, ↓k_sum, ↓k_ixZ, ↓k_listI, ↓walkI, ↓k_eqB, ↓k_neB, ↓k_intB, ↓k_isBB, ↓k_isIB, ↓k_isS, ↓k_eqLI, ↓k_neLI, ↓rng_one, ↓if_l0, ↓if_l1, ↓if_l2, ↓if_l3, ↓if_l4, ↓if_l5, ↓if_l6, ↓if_l7, ↓if_l8, ↓k_ixT0, ↓k_ixT1, ↓k_ixT2, ↓k_ixT3, ↓walkFI, ↓zipI, ↓p_comp2, ↓k_repI, ↓subK_I, ↓k_eqQt, ↓k_eqQf, ↓k_neQt, ↓k_neQf, ↓ki0, ↓ki1, ↓ki2, ↓ki3, ↓ki4, ↓ki5, ↓ki6, ↓ki7, ↓ki8, ↓ki9, ↓ki10, ↓ki11, ↓ki12, ↓ki13, ↓ki14, ↓ki15, ↓ki16, ↓ki17, ↓ki18, ↓ki19, ↓ki20, ↓ki21, ↓ki22, ↓ki23, ↓ki24, ↓ki25, ↓ki26, ↓ki27, ↓ki28, ↓ki29, ↓ki30, ↓ki31, ↓ki32, ↓ki33, ↓ki34, ↓ki35, ↓q_gs, ↓k_len1, ↓k_in1, ↓frzK_d, ↓frzK_dT, ↓frzK_dL, ↓rootK_d, ↓rootK_dL, ↓subK_d, ↓subK_dL, ↓k_ixTr0, ↓k_ixTr1, ↓k_lenTr, ↓k_tupTr, ↓walk_dL, ↓k_lendL, ↓q_mut1, ↓evI_rg3, ↓frzK_nd, ↓reduceIte, fnEnd_ret, fnEnd_nxt, fnEnd_exc, isOwn_t, List.map_cons, List.map_nil, List.cons_append, List.nil_append, List.append_nil, List.replicate_succ, List.replicate_zero, List.getD_cons_zero, List.getD_cons_succ, Bool.not_true, Bool.not_false, decide_true, decide_false, decide_eq_true_eq, decide_eq_false_iff_not, Bool.false_eq_true, Nat.zero_add, Nat.reduceAdd, Int.reduceEq, Int.reduceLT, Int.reduceLE, Nat.reduceEqDiff, reduceCtorEq, eq_self, not_true_eq_false, not_false_eq_true]
  refine wp_if (fun hb => ?_) fun hb => ?_
  · exact wp_ret ⟨_, ⟨a / many, b, c⟩, rfl, Int.emod_nonneg _ (by omega), Int.emod_lt_of_pos _ h0, ⟨hc, by show c ≤ m + 1; omega⟩, rfl⟩
  · obtain ⟨h4, h5⟩ := mark_ok a hc (by omega)
    simp (disch := first | omega | assumption | decide) only [↓q_pk, ↓q_fz, ↓q_mv, ↓q_ci, ↓q_cb, ↓q_cn, ↓q_cs, ↓q_gi, ↓evF_op1, ↓q_op2, ↓q_cmp, ↓q_bc2, ↓evF_bc1, ↓evF_rev, ↓q_isi, ↓q_idx, ↓evF_chn, ↓evF_boo, ↓q_slc, ↓evF_tup, ↓evF_lst, ↓q_frz, ↓p_call, ↓q_xn, ↓q_xv, ↓q_xi, ↓p_comp1, ↓r_mut0, ↓if_own, ↓evB_nil, ↓evB_cons, ↓evS_nil, ↓evS_cons, ↓evOp_none, ↓evOp_some, ↓evP_nil, ↓evP_ix, ↓evI_seq, ↓evI_rg1, ↓evI_rg2, ↓evI_enu, ↓evI_zip, ↓runS_nil, ↓runS_cons, ↓q_asg, ↓run1_unp, ↓q_sti0, ↓q_aug, ↓run1_aui, ↓run1_exp, ↓run1_ife, ↓p_for, ↓p_whl, ↓run1_ret, ↓run1_retn, ↓run1_pas, ↓run1_rai, ↓evO_def, ↓evT_def, ↓getv0, ↓getvS, ↓setK0, ↓setKS, ↓getO0, ↓getOS, ↓rootK_i, ↓rootK_b, ↓rootK_s, ↓rootK_n, ↓rootK_c, ↓rootK_o, ↓rootK_I, ↓frzK_i, ↓frzK_b, ↓frzK_s, ↓frzK_n, ↓frzK_c, ↓frzK_I, ↓hidK_n, ↓hidK_s, ↓unhK_n, ↓unhK_s, ↓subK_n, ↓subK_i, ↓subK_b, ↓subK_s, ↓subK_x, ↓putK_c, ↓putK_n, ↓optv_some, ↓optl_some, ↓alone_none, ↓isB_bl, ↓isI_int, ↓putE_some, ↓k_add, ↓k_sub, ↓k_mod, ↓k_div, ↓k_mulL, ↓k_mulR, ↓k_p18, ↓k_p15, ↓k_p14, ↓k_neg, ↓k_not, ↓k_lt, ↓k_le, ↓k_gt, ↓k_ge, ↓k_eq, ↓k_ne, ↓k_lenC, ↓k_lenI, ↓k_lenT, ↓k_int, ↓k_max, ↓k_min, ↓k_isII, ↓k_isBI, ↓k_ix0, ↓k_ix1, ↓k_ix2, ↓k_set0, ↓k_set2, ↓k_auga, ↓k_augs, ↓k_eqL0, ↓k_neL0, ↓m_popI, ↓m_appI, ↓mutK_some, ↓k_rev, ↓k_sum, ↓k_ixZ, ↓k_listI, ↓walkI, ↓k_eqB, ↓k_neB, ↓k_intB, ↓k_isBB, ↓k_isIB, ↓k_isS, ↓k_eqLI, ↓k_neLI, ↓rng_one, ↓if_l0, ↓if_l1, ↓if_l2, ↓if_l3, ↓if_l4, ↓if_l5, ↓if_l6, ↓if_l7, ↓if_l8, ↓k_ixT0, ↓k_ixT1, ↓k_ixT2, ↓k_ixT3, ↓walkFI, ↓zipI, ↓p_comp2, ↓k_repI, ↓subK_I, ↓k_eqQt, ↓k_eqQf, ↓k_neQt, ↓k_neQf, ↓ki0, ↓ki1, ↓ki2, ↓ki3, ↓ki4, ↓ki5, ↓ki6, ↓ki7, ↓ki8, ↓ki9, ↓ki10, ↓ki11, ↓ki12, ↓ki13, ↓ki14, ↓ki15, ↓ki16, ↓ki17, ↓ki18, ↓ki19, ↓ki20, ↓ki21, ↓ki22, ↓ki23, ↓ki24, ↓ki25, ↓ki26, ↓ki27, ↓ki28, ↓ki29, ↓ki30, ↓ki31, ↓ki32, ↓ki33, ↓ki34, ↓ki35, ↓q_gs, ↓k_len1, ↓k_in1, ↓frzK_d, ↓frzK_dT, ↓frzK_dL, ↓rootK_d, ↓rootK_dL, ↓subK_d, ↓subK_dL, ↓k_ixTr0, ↓k_ixTr1, ↓k_lenTr, ↓k_tupTr, ↓walk_dL, ↓k_lendL, ↓q_mut1, ↓evI_rg3, ↓frzK_nd, ↓reduceIte, fnEnd_ret, fnEnd_nxt, fnEnd_exc, isOwn_t, List.map_cons, List.map_nil, List.cons_append, List.nil_append, List.append_nil, List.replicate_succ, List.replicate_zero, List.getD_cons_zero, List.getD_cons_succ, Bool.not_true, Bool.not_false, decide_true, decide_false, decide_eq_true_eq, decide_eq_false_iff_not, Bool.false_eq_true, Nat.zero_add, Nat.reduceAdd, Int.reduceEq, Int.reduceLT, Int.reduceLE, Nat.reduceEqDiff, reduceCtorEq, eq_self, not_true_eq_false, not_false_eq_true]
    exact wp_ret ⟨_, ⟨a, b, c + 1⟩, rfl, Int.emod_nonneg _ (by omega), Int.emod_lt_of_pos _ h0, ⟨by show 0 ≤ c + 1; omega, by show c + 1 ≤ m + 1; omega⟩, rfl⟩

theorem c_letter (k : Nat) (l : Nat) (h : 97 ≤ l) (h' : l ≤ 122) : Gives (callF P (k + 1) "is_letter" [] [.str [l]]) fun r o => r = .bl true ∧ o = [] := by
  refine gives_fn P_is_letter rfl rfl ?_
  simp only [fn_is_letter, List.map_cons, List.map_nil, List.cons_append, List.nil_append, List.append_nil, List.replicate_succ, List.replicate_zero, Nat.reduceSub, Nat.sub_self]
  simp (disch := first | omega | assumption | decide) only [↓q_pk, ↓q_fz, ↓q_mv, ↓q_ci, ↓q_cb, ↓q_cn, ↓q_cs, ↓q_gi, ↓evF_op1, ↓q_op2, ↓q_cmp, ↓q_bc2, ↓evF_bc1, ↓evF_rev, ↓q_isi, ↓q_idx, ↓evF_chn, ↓evF_boo, ↓q_slc, ↓evF_tup, ↓evF_lst, ↓q_frz, ↓p_call, ↓q_xn, ↓q_xv, ↓q_xi, ↓p_comp1, ↓r_mut0, ↓if_own, ↓evB_nil, ↓evB_cons, ↓evS_nil, ↓evS_cons, ↓evOp_none, ↓evOp_some, ↓evP_nil, ↓evP_ix, ↓evI_seq, ↓evI_rg1, ↓evI_rg2, ↓evI_enu, ↓evI_zip, ↓runS_nil, ↓runS_cons, ↓q_asg, ↓run1_unp, ↓q_sti0, ↓q_aug, ↓run1_aui, ↓run1_exp, ↓run1_ife, ↓p_for, ↓p_whl, ↓run1_ret, ↓run1_retn, ↓run1_pas, ↓run1_rai, ↓evO_def, ↓evT_def, ↓getv0, ↓getvS, ↓setK0, ↓setKS, ↓getO0, ↓getOS, ↓rootK_i, ↓rootK_b, ↓rootK_s, ↓rootK_n, ↓rootK_c, ↓rootK_o, ↓rootK_I, ↓frzK_i, ↓frzK_b, ↓frzK_s, ↓frzK_n, ↓frzK_c, ↓frzK_I, ↓hidK_n, ↓hidK_s, ↓unhK_n, ↓unhK_s, ↓subK_n, ↓subK_i, ↓subK_b, ↓subK_s, ↓subK_x, ↓putK_c, ↓putK_n, ↓optv_some, ↓optl_some, ↓alone_none, ↓isB_bl, ↓isI_int, ↓putE_some, ↓k_add, ↓k_sub, ↓k_mod, ↓k_div, ↓k_mulL, ↓k_mulR, ↓k_p18, ↓k_p15, ↓k_p14, ↓k_neg, ↓k_not, ↓k_lt, ↓k_le, ↓k_gt, ↓k_ge, ↓k_eq, ↓k_ne, ↓k_lenC, ↓k_lenI, ↓k_lenT, ↓k_int, ↓k_max, ↓k_min, ↓k_isII, ↓k_isBI, ↓k_ix0, ↓k_ix1, ↓k_ix2, ↓k_set0, ↓k_set2, ↓k_auga, ↓k_augs, ↓k_eqL0, ↓k_neL0, ↓m_popI, ↓m_appI, ↓mutK_some, ↓k_rev, ↓k_sum, ↓k_ixZ, ↓k_listI, ↓walkI, ↓k_eqB, ↓k_neB, ↓k_intB, ↓k_isBB, ↓k_isIB, ↓k_isS, ↓k_eqLI, ↓k_neLI, ↓rng_one, ↓if_l0, ↓if_l1, ↓if_l2, ↓if_l3, ↓if_l4, ↓if_l5, ↓if_l6, ↓if_l7, ↓if_l8, ↓k_ixT0, ↓k_ixT1, ↓k_ixT2, ↓k_ixT3, ↓walkFI, ↓zipI, ↓p_comp2, ↓k_repI, ↓subK_I, ↓k_eqQt, ↓k_eqQf, ↓k_neQt, ↓k_neQf, ↓ki0, ↓ki1, ↓ki2, ↓ki3, ↓ki4, ↓ki5, ↓ki6, ↓ki7, ↓ki8, ↓ki9, ↓ki10, ↓ki11, ↓ki12, ↓ki13, ↓ki14, ↓ki15, ↓ki16, ↓ki17, ↓ki18, ↓ki19, ↓ki20, ↓ki21, ↓ki22, ↓ki23, ↓ki24, ↓ki25, ↓ki26, ↓ki27, ↓ki28, ↓ki29, ↓ki30, ↓ki31, ↓ki32, ↓ki33, ↓ki34, ↓ki35, ↓q_gs, ↓k_len1, ↓k_in1, ↓frzK_d, ↓frzK_dT, ↓frzK_dL, ↓rootK_d, ↓rootK_dL, ↓subK_d, ↓subK_dL, ↓k_ixTr0, ↓k_ixTr1, ↓k_lenTr, ↓k_tupTr, ↓walk_dL, ↓k_lendL, ↓q_mut1, ↓evI_rg3, ↓frzK_nd, ↓reduceIte, fnEnd_ret, fnEnd_nxt, fnEnd_exc, isOwn_t, List.map_cons, List.map_nil, List.cons_append, List.nil_append, List.append_nil, List.replicate_succ, List.replicate_zero, List.getD_cons_zero, List.getD_cons_succ, Bool.not_true, Bool.not_false, decide_true, decide_false, decide_eq_true_eq, decide_eq_false_iff_not, Bool.false_eq_true, Nat.zero_add, Nat.reduceAdd, Int.reduceEq, Int.reduceLT, Int.reduceLE, Nat.reduceEqDiff, reduceCtorEq, eq_self, not_true_eq_false, not_false_eq_true, letters_in h h']
  exact wp_ret ⟨rfl, rfl⟩
theorem c_part (k : Nat) (t : Tr) (h : t.ok) : Gives (callF P (k + 2) "is_part" [] [t.d]) fun r o => r = .bl true ∧ o = [] := by
  refine gives_fn P_is_part rfl rfl ?_
  have hl : 97 ≤ t.l ∧ t.l ≤ 122 := by
    obtain ⟨l, cs⟩ := t
    exact ⟨h.1, h.2.1⟩
  simp only [fn_is_part, List.map_cons, List.map_nil, List.cons_append, List.nil_append, List.append_nil, List.replicate_succ, List.replicate_zero, Nat.reduceSub, Nat.sub_self]
  simp (disch := first | omega | assumption | decide) only [↓q_pk, ↓q_fz, ↓q_mv, ↓q_ci, ↓q_cb, ↓q_cn, ↓q_cs, ↓q_gi, ↓evF_op1, ↓q_op2, ↓q_cmp, ↓q_bc2, ↓evF_bc1, ↓evF_rev, ↓q_isi, ↓q_idx, ↓evF_chn, ↓evF_boo, ↓q_slc, ↓evF_tup, ↓evF_lst, ↓q_frz, ↓p_call, ↓q_xn, ↓q_xv, ↓q_xi, ↓p_comp1, ↓r_mut0, ↓if_own, ↓evB_nil, ↓evB_cons, ↓evS_nil, ↓evS_cons, ↓evOp_none, ↓evOp_some, ↓evP_nil, ↓evP_ix, ↓evI_seq, ↓evI_rg1, ↓evI_rg2, ↓evI_enu, ↓evI_zip, ↓runS_nil, ↓runS_cons, ↓q_asg, ↓run1_unp, ↓q_sti0, ↓q_aug, ↓run1_aui, ↓run1_exp, ↓run1_ife, ↓p_for, ↓p_whl, ↓run1_ret, ↓run1_retn, ↓run1_pas, ↓run1_rai, ↓evO_def, ↓evT_def, ↓getv0, ↓getvS, ↓setK0, ↓setKS, ↓getO0, ↓getOS, ↓rootK_i, ↓rootK_b, ↓rootK_s, ↓rootK_n, ↓rootK_c, ↓rootK_o, ↓rootK_I, ↓frzK_i, ↓frzK_b, ↓frzK_s, ↓frzK_n, ↓frzK_c, ↓frzK_I, ↓hidK_n, ↓hidK_s, ↓unhK_n, ↓unhK_s, ↓subK_n, ↓subK_i, ↓subK_b, ↓subK_s, ↓subK_x, ↓putK_c, ↓putK_n, ↓optv_some, ↓optl_some, ↓alone_none, ↓isB_bl, ↓isI_int, ↓putE_some, ↓k_add, ↓k_sub, ↓k_mod, ↓k_div, ↓k_mulL, ↓k_mulR, ↓k_p18, ↓k_p15, ↓k_p14, ↓k_neg, ↓k_not, ↓k_lt, ↓k_le, ↓k_gt, ↓k_ge, ↓k_eq, ↓k_ne, ↓k_lenC, ↓k_lenI, ↓k_lenT, ↓k_int, ↓k_max, ↓k_min, ↓k_isII, ↓k_isBI, ↓k_ix0, ↓k_ix1, ↓k_ix2, ↓k_set0, ↓k_set2, ↓k_auga, ↓k_augs, ↓k_eqL0, ↓k_neL0, ↓m_popI, ↓m_appI, ↓mutK_some, ↓k_rev, ↓k_sum, ↓k_ixZ, ↓k_listI, ↓walkI, ↓k_eqB, ↓k_neB, ↓k_intB, ↓k_isBB, ↓k_isIB, ↓k_isS, ↓k_eqLI, ↓k_neLI, ↓rng_one, ↓if_l0, ↓if_l1, ↓if_l2, ↓if_l3, ↓if_l4, ↓if_l5, ↓if_l6, ↓if_l7, ↓if_l8, ↓k_ixT0, ↓k_ixT1, ↓k_ixT2, ↓k_ixT3, ↓walkFI, ↓zipI, ↓p_comp2, ↓k_repI, ↓subK_I, ↓k_eqQt, ↓k_eqQf, ↓k_neQt, ↓k_neQf, ↓ki0, ↓ki1, ↓ki2, ↓ki3, ↓ki4, ↓ki5, ↓ki6, ↓ki7, ↓ki8, ↓ki9, ↓ki10, ↓ki11, ↓ki12, ↓ki13, ↓ki14, ↓ki15, ↓ki16, ↓ki17, ↓ki18, ↓ki19, ↓ki20, ↓ki21, ↓ki22, ↓ki23, ↓ki24, ↓ki25, ↓ki26, ↓ki27, ↓ki28, ↓ki29, ↓ki30, ↓ki31, ↓ki32, ↓ki33, ↓ki34, ↓ki35, ↓q_gs, ↓k_len1, ↓k_in1, ↓frzK_d, ↓frzK_dT, ↓frzK_dL, ↓rootK_d, ↓rootK_dL, ↓subK_d, ↓subK_dL, ↓k_ixTr0, ↓k_ixTr1, ↓k_lenTr, ↓k_tupTr, ↓walk_dL, ↓k_lendL, ↓q_mut1, ↓evI_rg3, ↓frzK_nd, ↓reduceIte, fnEnd_ret, fnEnd_nxt, fnEnd_exc, isOwn_t, List.map_cons, List.map_nil, List.cons_append, List.nil_append, List.append_nil, List.replicate_succ, List.replicate_zero, List.getD_cons_zero, List.getD_cons_succ, Bool.not_true, Bool.not_false, decide_true, decide_false, decide_eq_true_eq, decide_eq_false_iff_not, Bool.false_eq_true, Nat.zero_add, Nat.reduceAdd, Int.reduceEq, Int.reduceLT, Int.reduceLE, Nat.reduceEqDiff, reduceCtorEq, eq_self, not_true_eq_false, not_false_eq_true]
  refine wp_callT (c_letter k t.l hl.1 hl.2) ?_
  rintro r o ⟨rfl, rfl⟩
  simp (disch := first | omega | assumption | decide) only [↓q_pk, ↓q_fz, ↓q_mv, ↓q_ci, ↓q_cb, ↓q_cn, ↓q_cs, ↓q_gi, ↓evF_op1, ↓q_op2, ↓q_cmp, ↓q_bc2, ↓evF_bc1, ↓evF_rev, ↓q_isi, ↓q_idx, ↓evF_chn, ↓evF_boo, ↓q_slc, ↓evF_tup, ↓evF_lst, ↓q_frz, ↓p_call, ↓q_xn, ↓q_xv, ↓q_xi, ↓p_comp1, ↓r_mut0, ↓if_own, ↓evB_nil, ↓evB_cons, ↓evS_nil, ↓evS_cons, ↓evOp_none, ↓evOp_some, ↓evP_nil, ↓evP_ix, ↓evI_seq, ↓evI_rg1, ↓evI_rg2, ↓evI_enu, ↓evI_zip, ↓runS_nil, ↓runS_cons, ↓q_asg, ↓run1_unp, ↓q_sti0, ↓q_aug, ↓run1_aui, ↓run1_exp, ↓run1_ife, ↓p_for, ↓p_whl, ↓run1_ret, ↓run1_retn, ↓run1_pas, ↓run1_rai, ↓evO_def, ↓evT_def, ↓getv0, ↓getvS, ↓setK0, ↓setKS, ↓getO0, ↓getOS, ↓rootK_i, ↓rootK_b, ↓rootK_s, ↓rootK_n, ↓rootK_c, ↓rootK_o, ↓rootK_I, ↓frzK_i, ↓frzK_b, ↓frzK_s, ↓frzK_n, ↓frzK_c, ↓frzK_I, ↓hidK_n, ↓hidK_s, ↓unhK_n, ↓unhK_s, ↓subK_n, ↓subK_i, ↓subK_b, ↓subK_s, ↓subK_x, ↓putK_c, ↓putK_n, ↓optv_some, ↓optl_some, ↓alone_none, ↓isB_bl, ↓isI_int, ↓putE_some, ↓k_add, ↓k_sub, ↓k_mod, ↓k_div, ↓k_mulL, ↓k_mulR, ↓k_p18, ↓k_p15, ↓k_p14, ↓k_neg, ↓k_not, ↓k_lt, ↓k_le, ↓k_gt, ↓k_ge, ↓k_eq, ↓k_ne, ↓k_lenC, ↓k_lenI, ↓k_lenT, ↓k_int, ↓k_max, ↓k_min, ↓k_isII, ↓k_isBI, ↓k_ix0, ↓k_ix1, ↓k_ix2, ↓k_set0, ↓k_set2, ↓k_auga, ↓k_augs, ↓k_eqL0, ↓k_neL0, ↓m_popI, ↓m_appI, ↓mutK_some, ↓k_rev, ↓k_sum, ↓k_ixZ, ↓k_listI, ↓walkI, ↓k_eqB, ↓k_neB, ↓k_intB, ↓k_isBB, ↓k_isIB, ↓k_isS, ↓k_eqLI, ↓k_neLI, ↓rng_one, ↓if_l0, ↓if_l1, ↓if_l2, ↓if_l3, ↓if_l4, ↓if_l5, ↓if_l6, ↓if_l7, ↓if_l8, ↓k_ixT0, ↓k_ixT1, ↓k_ixT2, ↓k_ixT3, ↓walkFI, ↓zipI, ↓p_comp2, ↓k_repI, ↓subK_I, ↓k_eqQt, ↓k_eqQf, ↓k_neQt, ↓k_neQf, ↓ki0, ↓ki1, ↓ki2, ↓ki3, ↓ki4, ↓ki5, ↓ki6, ↓ki7, ↓ki8, ↓ki9, ↓ki10, ↓ki11, ↓ki12, ↓ki13, ↓ki14, ↓ki15, ↓ki16, ↓ki17, ↓ki18, ↓ki19, ↓ki20, ↓ki21, ↓ki22, ↓ki23, ↓ki24, ↓ki25, ↓ki26, ↓ki27, ↓ki28, ↓ki29, ↓ki30, ↓ki31, ↓ki32, ↓ki33, ↓ki34, ↓ki35, ↓q_gs, ↓k_len1, ↓k_in1, ↓frzK_d, ↓frzK_dT, ↓frzK_dL, ↓rootK_d, ↓rootK_dL, ↓subK_d, ↓subK_dL, ↓k_ixTr0, ↓k_ixTr1, ↓k_lenTr, ↓k_tupTr, ↓walk_dL, ↓k_lendL, ↓q_mut1, ↓evI_rg3, ↓frzK_nd, ↓reduceIte, fnEnd_ret, fnEnd_nxt, fnEnd_exc, isOwn_t, List.map_cons, List.map_nil, List.cons_append, List.nil_append, List.append_nil, List.replicate_succ, List.replicate_zero, List.getD_cons_zero, List.getD_cons_succ, Bool.not_true, Bool.not_false, decide_true, decide_false, decide_eq_true_eq, decide_eq_false_iff_not, Bool.false_eq_true, Nat.zero_add, Nat.reduceAdd, Int.reduceEq, Int.reduceLT, Int.reduceLE, Nat.reduceEqDiff, reduceCtorEq, eq_self, not_true_eq_false, not_false_eq_true]
  exact wp_ret ⟨rfl, rfl⟩
theorem c_tree (k : Nat) (t : Tr) (h : t.ok) (hs : t.size ≤ 16000000) : Gives (callF P (k + 3) "is_tree" [] [t.d]) fun r o => r = .bl true ∧ o = [] := by
  refine gives_fn P_is_tree rfl rfl ?_
  simp only [fn_is_tree, List.map_cons, List.map_nil, List.cons_append, List.nil_append, List.append_nil, List.replicate_succ, List.replicate_zero, Nat.reduceSub, Nat.sub_self]
  simp (disch := first | omega | assumption | decide) only [↓q_pk, ↓q_fz, ↓q_mv, ↓q_ci, ↓q_cb, ↓q_cn, ↓q_cs, ↓q_gi, ↓evF_op1, ↓q_op2, ↓q_cmp, ↓q_bc2, ↓evF_bc1, ↓evF_rev, ↓q_isi, ↓q_idx, ↓evF_chn, ↓evF_boo, ↓q_slc, ↓evF_tup, ↓evF_lst, ↓q_frz, ↓p_call, ↓q_xn, ↓q_xv, ↓q_xi, ↓p_comp1, ↓r_mut0, ↓if_own, ↓evB_nil, ↓evB_cons, ↓evS_nil, ↓evS_cons, ↓evOp_none, ↓evOp_some, ↓evP_nil, ↓evP_ix, ↓evI_seq, ↓evI_rg1, ↓evI_rg2, ↓evI_enu, ↓evI_zip, ↓runS_nil, ↓runS_cons, ↓q_asg, ↓run1_unp, ↓q_sti0, ↓q_aug, ↓run1_aui, ↓run1_exp, ↓run1_ife, ↓p_for, ↓p_whl, ↓run1_ret, ↓run1_retn, ↓run1_pas, ↓run1_rai, ↓evO_def, ↓evT_def, ↓getv0, ↓getvS, ↓setK0, ↓setKS, ↓getO0, ↓getOS, ↓rootK_i, ↓rootK_b, ↓rootK_s, ↓rootK_n, ↓rootK_c, ↓rootK_o, ↓rootK_I, ↓frzK_i, ↓frzK_b, ↓frzK_s, ↓frzK_n, ↓frzK_c, ↓frzK_I, ↓hidK_n, ↓hidK_s, ↓unhK_n, ↓unhK_s, ↓subK_n, ↓subK_i, ↓subK_b, ↓subK_s, ↓subK_x, ↓putK_c, ↓putK_n, ↓optv_some, ↓optl_some, ↓alone_none, ↓isB_bl, ↓isI_int, ↓putE_some, ↓k_add, ↓k_sub, ↓k_mod, ↓k_div, ↓k_mulL, ↓k_mulR, ↓k_p18, ↓k_p15, ↓k_p14, ↓k_neg, ↓k_not, ↓k_lt, ↓k_le, ↓k_gt, ↓k_ge, ↓k_eq, ↓k_ne, ↓k_lenC, ↓k_lenI, ↓k_lenT, ↓k_int, ↓k_max, ↓k_min, ↓k_isII, ↓k_isBI, ↓k_ix0, ↓k_ix1, ↓k_ix2, ↓k_set0, ↓k_set2, ↓k_auga, ↓k_augs, ↓k_eqL0, ↓k_neL0, ↓m_popI, ↓m_appI, ↓mutK_some, ↓k_rev, ↓k_sum, ↓k_ixZ, ↓k_listI, ↓walkI, ↓k_eqB, ↓k_neB, ↓k_intB, ↓k_isBB, ↓k_isIB, ↓k_isS, ↓k_eqLI, ↓k_neLI, ↓rng_one, ↓if_l0, ↓if_l1, ↓if_l2, ↓if_l3, ↓if_l4, ↓if_l5, ↓if_l6, ↓if_l7, ↓if_l8, ↓k_ixT0, ↓k_ixT1, ↓k_ixT2, ↓k_ixT3, ↓walkFI, ↓zipI, ↓p_comp2, ↓k_repI, ↓subK_I, ↓k_eqQt, ↓k_eqQf, ↓k_neQt, ↓k_neQf, ↓ki0, ↓ki1, ↓ki2, ↓ki3, ↓ki4, ↓ki5, ↓ki6, ↓ki7, ↓ki8, ↓ki9, ↓ki10, ↓ki11, ↓ki12, ↓ki13, ↓ki14, ↓ki15, ↓ki16, ↓ki17, ↓ki18, ↓ki19, ↓ki20, ↓ki21, ↓ki22, ↓ki23, ↓ki24, ↓ki25, ↓ki26, ↓ki27, ↓ki28, ↓ki29, ↓ki30, ↓ki31, ↓ki32, ↓ki33, ↓ki34, ↓ki35, ↓q_gs, ↓k_len1, ↓k_in1, ↓frzK_d, ↓frzK_dT, ↓frzK_dL, ↓rootK_d, ↓rootK_dL, ↓subK_d, ↓subK_dL, ↓k_ixTr0, ↓k_ixTr1, ↓k_lenTr, ↓k_tupTr, ↓walk_dL, ↓k_lendL, ↓q_mut1, ↓evI_rg3, ↓frzK_nd, ↓reduceIte, fnEnd_ret, fnEnd_nxt, fnEnd_exc, isOwn_t, List.map_cons, List.map_nil, List.cons_append, List.nil_append, List.append_nil, List.replicate_succ, List.replicate_zero, List.getD_cons_zero, List.getD_cons_succ, Bool.not_true, Bool.not_false, decide_true, decide_false, decide_eq_true_eq, decide_eq_false_iff_not, Bool.false_eq_true, Nat.zero_add, Nat.reduceAdd, Int.reduceEq, Int.reduceLT, Int.reduceLE, Nat.reduceEqDiff, reduceCtorEq, eq_self, not_true_eq_false, not_false_eq_true]
  refine wp_whlT (fun n e => ∃ ts o2, e = [some t.d, some (.lst true (dL ts)), o2] ∧ okTs ts ∧ sizeL ts = n ∧ n ≤ 16000000) t.size ⟨[t], none, rfl, ⟨h, trivial⟩, by rw [sizeL, sizeL]; rfl, hs⟩ ?_
  rintro n e ⟨ts, o2, rfl, hk, hn, hb⟩
  simp (disch := first | omega | assumption | decide) only [↓q_pk, ↓q_fz, ↓q_mv, ↓q_ci, ↓q_cb, ↓q_cn, ↓q_cs, ↓q_gi, ↓evF_op1, ↓q_op2, ↓q_cmp, ↓q_bc2, ↓evF_bc1, ↓evF_rev, ↓q_isi, ↓q_idx, ↓evF_chn, ↓evF_boo, ↓q_slc, ↓evF_tup, ↓evF_lst, ↓q_frz, ↓p_call, ↓q_xn, ↓q_xv, ↓q_xi, ↓p_comp1, ↓r_mut0, ↓if_own, ↓evB_nil, ↓evB_cons, ↓evS_nil, ↓evS_cons, ↓evOp_none, ↓evOp_some, ↓evP_nil, ↓evP_ix, ↓evI_seq, ↓evI_rg1, ↓evI_rg2, ↓evI_enu, ↓evI_zip, ↓runS_nil, ↓runS_cons, ↓q_asg, ↓run1_unp, ↓q_sti0, ↓q_aug, ↓run1_aui, ↓run1_exp, ↓run1_ife, ↓p_for, ↓p_whl, ↓run1_ret, ↓run1_retn, ↓run1_pas, ↓run1_rai, ↓evO_def, ↓evT_def, ↓getv0, ↓getvS, ↓setK0, ↓setKS, ↓getO0, ↓getOS, ↓rootK_i, ↓rootK_b, ↓rootK_s, ↓rootK_n, ↓rootK_c, ↓rootK_o, ↓rootK_I, ↓frzK_i, ↓frzK_b, ↓frzK_s, ↓frzK_n, ↓frzK_c, ↓frzK_I, ↓hidK_n, ↓hidK_s, ↓unhK_n, ↓unhK_s, ↓subK_n, ↓subK_i, ↓subK_b, ↓subK_s, ↓subK_x, ↓putK_c, ↓putK_n, ↓optv_some, ↓optl_some, ↓alone_none, ↓isB_bl, ↓isI_int, ↓putE_some, ↓k_add, ↓k_sub, ↓k_mod, ↓k_div, ↓k_mulL, ↓k_mulR, ↓k_p18, ↓k_p15, ↓k_p14, ↓k_neg, ↓k_not, ↓k_lt, ↓k_le, ↓k_gt, ↓k_ge, ↓k_eq, ↓k_ne, ↓k_lenC, ↓k_lenI, ↓k_lenT, ↓k_int, ↓k_max, ↓k_min, ↓k_isII, ↓k_isBI, ↓k_ix0, ↓k_ix1, ↓k_ix2, ↓k_set0, ↓k_set2, ↓k_auga, ↓k_augs, ↓k_eqL0, ↓k_neL0, ↓m_popI, ↓m_appI, ↓mutK_some, ↓k_rev, ↓k_sum, ↓k_ixZ, ↓k_listI, ↓walkI, ↓k_eqB, ↓k_neB, ↓k_intB, ↓k_isBB, ↓k_isIB, ↓k_isS, ↓k_eqLI, ↓k_neLI, ↓rng_one, ↓if_l0, ↓if_l1, ↓if_l2, ↓if_l3, ↓if_l4, ↓if_l5, ↓if_l6, ↓if_l7, ↓if_l8, ↓k_ixT0, ↓k_ixT1, ↓k_ixT2, ↓k_ixT3, ↓walkFI, ↓zipI, ↓p_comp2, ↓k_repI, ↓subK_I, ↓k_eqQt, ↓k_eqQf, ↓k_neQt, ↓k_neQf, ↓ki0, ↓ki1, ↓ki2, ↓ki3, ↓ki4, ↓ki5, ↓ki6, ↓ki7, ↓ki8, ↓ki9, ↓ki10, ↓ki11, ↓ki12, ↓ki13, ↓ki14, ↓ki15, ↓ki16, ↓ki17, ↓ki18, ↓ki19, ↓ki20, ↓ki21, ↓ki22, ↓ki23, ↓ki24, ↓ki25, ↓ki26, ↓ki27, ↓ki28, ↓ki29, ↓ki30, ↓ki31, ↓ki32, ↓ki33, ↓ki34, ↓ki35, ↓q_gs, ↓k_len1, ↓k_in1, ↓frzK_d, ↓frzK_dT, ↓frzK_dL, ↓rootK_d, ↓rootK_dL, ↓subK_d, ↓subK_dL, ↓k_ixTr0, ↓k_ixTr1, ↓k_lenTr, ↓k_tupTr, ↓walk_dL, ↓k_lendL, ↓q_mut1, ↓evI_rg3, ↓frzK_nd, ↓reduceIte, fnEnd_ret, fnEnd_nxt, fnEnd_exc, isOwn_t, List.map_cons, List.map_nil, List.cons_append, List.nil_append, List.append_nil, List.replicate_succ, List.replicate_zero, List.getD_cons_zero, List.getD_cons_succ, Bool.not_true, Bool.not_false, decide_true, decide_false, decide_eq_true_eq, decide_eq_false_iff_not, Bool.false_eq_true, Nat.zero_add, Nat.reduceAdd, Int.reduceEq, Int.reduceLT, Int.reduceLE, Nat.reduceEqDiff, reduceCtorEq, eq_self, not_true_eq_false, not_false_eq_true, ↓k_neNil (dL_plain ts hk)]
  refine wp_retP ⟨_, rfl, fun ht => ?_, fun ht => ?_⟩
  · exact wp_ret ⟨rfl, rfl⟩
  · intro K' hK
    rcases List.eq_nil_or_concat ts with rfl | ⟨ts, u, rfl⟩
    · cases ht
    · rw [List.concat_eq_append] at *
      obtain ⟨hk1, hk2⟩ := okTs_app.mp hk
      rw [sizeL_app, sizeL, sizeL] at hn
      have hu : u.size = 1 + sizeL u.cs := by
        obtain ⟨l, cs⟩ := u
        rfl
      have hx : ∀ kk : D → D → Fl, mutK (mutD .pop (.lst true (dL (ts ++ [u]))) []) kk = kk u.d (.lst true (dL ts)) := fun kk => by
        rw [dL_app]
        exact m_popS
      simp (disch := first | omega | assumption | decide) only [↓q_pk, ↓q_fz, ↓q_mv, ↓q_ci, ↓q_cb, ↓q_cn, ↓q_cs, ↓q_gi, ↓evF_op1, ↓q_op2, ↓q_cmp, ↓q_bc2, ↓evF_bc1, ↓evF_rev, ↓q_isi, ↓q_idx, ↓evF_chn, ↓evF_boo, ↓q_slc, ↓evF_tup, ↓evF_lst, ↓q_frz, ↓p_call, ↓q_xn, ↓q_xv, ↓q_xi, ↓p_comp1, ↓r_mut0, ↓if_own, ↓evB_nil, ↓evB_cons, ↓evS_nil, ↓evS_cons, ↓evOp_none, ↓evOp_some, ↓evP_nil, ↓evP_ix, ↓evI_seq, ↓evI_rg1, ↓evI_rg2, ↓evI_enu, ↓evI_zip, ↓runS_nil, ↓runS_cons, ↓q_asg, ↓run1_unp, ↓q_sti0, ↓q_aug, ↓run1_aui, ↓run1_exp, ↓run1_ife, ↓p_for, ↓p_whl, ↓run1_ret, ↓run1_retn, ↓run1_pas, ↓run1_rai, ↓evO_def, ↓evT_def, ↓getv0, ↓getvS, ↓setK0, ↓setKS, ↓getO0, ↓getOS, ↓rootK_i, ↓rootK_b, ↓rootK_s, ↓rootK_n, ↓rootK_c, ↓rootK_o, ↓rootK_I, ↓frzK_i, ↓frzK_b, ↓frzK_s, ↓frzK_n, ↓frzK_c, ↓frzK_I, ↓hidK_n, ↓hidK_s, ↓unhK_n, ↓unhK_s, ↓subK_n, ↓subK_i, ↓subK_b, ↓subK_s, ↓subK_x, ↓putK_c, ↓putK_n, ↓optv_some, ↓optl_some, ↓alone_none, ↓isB_bl, ↓isI_int, ↓putE_some, ↓k_add, ↓k_sub, ↓k_mod, ↓k_div, ↓k_mulL, ↓k_mulR, ↓k_p18, ↓k_p15, ↓k_p14, ↓k_neg, ↓k_not, ↓k_lt, ↓k_le, ↓k_gt, ↓k_ge, ↓k_eq, ↓k_ne, ↓k_lenC, ↓k_lenI, ↓k_lenT, ↓k_int, ↓k_max, ↓k_min, ↓k_isII, ↓k_isBI, ↓k_ix0, ↓k_ix1, ↓k_ix2, ↓k_set0, ↓k_set2, ↓k_auga, ↓k_augs, ↓k_eqL0, ↓k_neL0, ↓m_popI, ↓m_appI, ↓mutK_some, ↓k_rev, ↓k_sum, ↓k_ixZ, ↓k_listI, ↓walkI, ↓k_eqB, ↓k_neB, ↓k_intB, ↓k_isBB, ↓k_isIB, ↓k_isS, ↓k_eqLI, ↓k_neLI, ↓rng_one, ↓if_l0, ↓if_l1, ↓if_l2, ↓if_l3, ↓if_l4, ↓if_l5, ↓if_l6, ↓if_l7, ↓if_l8, ↓k_ixT0, ↓k_ixT1, ↓k_ixT2, ↓k_ixT3, ↓walkFI, ↓zipI, ↓p_comp2, ↓k_repI, ↓subK_I, ↓k_eqQt, ↓k_eqQf, ↓k_neQt, ↓k_neQf, ↓ki0, ↓ki1, ↓ki2, ↓ki3, ↓ki4, ↓ki5, ↓ki6, ↓ki7, ↓ki8, ↓ki9, ↓ki10, ↓ki11, ↓ki12, ↓ki13, ↓ki14, ↓ki15, ↓ki16, ↓ki17, ↓ki18, ↓ki19, ↓ki20, ↓ki21, ↓ki22, ↓ki23, ↓ki24, ↓ki25, ↓ki26, ↓ki27, ↓ki28, ↓ki29, ↓ki30, ↓ki31, ↓ki32, ↓ki33, ↓ki34, ↓ki35, ↓q_gs, ↓k_len1, ↓k_in1, ↓frzK_d, ↓frzK_dT, ↓frzK_dL, ↓rootK_d, ↓rootK_dL, ↓subK_d, ↓subK_dL, ↓k_ixTr0, ↓k_ixTr1, ↓k_lenTr, ↓k_tupTr, ↓walk_dL, ↓k_lendL, ↓q_mut1, ↓evI_rg3, ↓frzK_nd, ↓reduceIte, fnEnd_ret, fnEnd_nxt, fnEnd_exc, isOwn_t, List.map_cons, List.map_nil, List.cons_append, List.nil_append, List.append_nil, List.replicate_succ, List.replicate_zero, List.getD_cons_zero, List.getD_cons_succ, Bool.not_true, Bool.not_false, decide_true, decide_false, decide_eq_true_eq, decide_eq_false_iff_not, Bool.false_eq_true, Nat.zero_add, Nat.reduceAdd, Int.reduceEq, Int.reduceLT, Int.reduceLE, Nat.reduceEqDiff, reduceCtorEq, eq_self, not_true_eq_false, not_false_eq_true, ↓hx]
      refine wp_callT (c_part k u hk2.1) ?_
      rintro r o ⟨rfl, rfl⟩
      have hy : ∀ kk : D → D → Fl, mutK (mutD .extend (.lst true (dL ts)) [.lst false (dL u.cs)]) kk = kk .non (.lst true (dL (ts ++ u.cs))) := fun kk => by
        have l1 := len_sizeL ts
        have l2 := len_sizeL u.cs
        rw [m_ext (dL_fro _) (by rw [dL_len, dL_len]; omega), dL_app]
      simp (disch := first | omega | assumption | decide) only [↓q_pk, ↓q_fz, ↓q_mv, ↓q_ci, ↓q_cb, ↓q_cn, ↓q_cs, ↓q_gi, ↓evF_op1, ↓q_op2, ↓q_cmp, ↓q_bc2, ↓evF_bc1, ↓evF_rev, ↓q_isi, ↓q_idx, ↓evF_chn, ↓evF_boo, ↓q_slc, ↓evF_tup, ↓evF_lst, ↓q_frz, ↓p_call, ↓q_xn, ↓q_xv, ↓q_xi, ↓p_comp1, ↓r_mut0, ↓if_own, ↓evB_nil, ↓evB_cons, ↓evS_nil, ↓evS_cons, ↓evOp_none, ↓evOp_some, ↓evP_nil, ↓evP_ix, ↓evI_seq, ↓evI_rg1, ↓evI_rg2, ↓evI_enu, ↓evI_zip, ↓runS_nil, ↓runS_cons, ↓q_asg, ↓run1_unp, ↓q_sti0, ↓q_aug, ↓run1_aui, ↓run1_exp, ↓run1_ife, ↓p_for, ↓p_whl, ↓run1_ret, ↓run1_retn, ↓run1_pas, ↓run1_rai, ↓evO_def, ↓evT_def, ↓getv0, ↓getvS, ↓setK0, ↓setKS, ↓getO0, ↓getOS, ↓rootK_i, ↓rootK_b, ↓rootK_s, ↓rootK_n, ↓rootK_c, ↓rootK_o, ↓rootK_I, ↓frzK_i, ↓frzK_b, ↓frzK_s, ↓frzK_n, ↓frzK_c, ↓frzK_I, ↓hidK_n, ↓hidK_s, ↓unhK_n, ↓unhK_s, ↓subK_n, ↓subK_i, ↓subK_b, ↓subK_s, ↓subK_x, ↓putK_c, ↓putK_n, ↓optv_some, ↓optl_some, ↓alone_none, ↓isB_bl, ↓isI_int, ↓putE_some, ↓k_add, ↓k_sub, ↓k_mod, ↓k_div, ↓k_mulL, ↓k_mulR, ↓k_p18, ↓k_p15, ↓k_p14, ↓k_neg, ↓k_not, ↓k_lt, ↓k_le, ↓k_gt, ↓k_ge, ↓k_eq, ↓k_ne, ↓k_lenC, ↓k_lenI, ↓k_lenT, ↓k_int, ↓k_max, ↓k_min, ↓k_isII, ↓k_isBI, ↓k_ix0, ↓k_ix1, ↓k_ix2, ↓k_set0, ↓k_set2, ↓k_auga, ↓k_augs, ↓k_eqL0, ↓k_neL0, ↓m_popI, ↓m_appI, ↓mutK_some, ↓k_rev, ↓k_sum, ↓k_ixZ, ↓k_listI, ↓walkI, ↓k_eqB, ↓k_neB, ↓k_intB, ↓k_isBB, ↓k_isIB, ↓k_isS, ↓k_eqLI, ↓k_neLI, ↓rng_one, ↓if_l0, ↓if_l1, ↓if_l2, ↓if_l3, ↓if_l4, ↓if_l5, ↓if_l6, ↓if_l7, ↓if_l8, ↓k_ixT0, ↓k_ixT1, ↓k_ixT2, ↓k_ixT3, ↓walkFI, ↓zipI, ↓p_comp2, ↓k_repI, ↓subK_I, ↓k_eqQt, ↓k_eqQf, ↓k_neQt, ↓k_neQf, ↓ki0, ↓ki1, ↓ki2, ↓ki3, ↓ki4, ↓ki5, ↓ki6, ↓ki7, ↓ki8, ↓ki9, ↓ki10, ↓ki11, ↓ki12, ↓ki13, ↓ki14, ↓ki15, ↓ki16, ↓ki17, ↓ki18, ↓ki19, ↓ki20, ↓ki21, ↓ki22, ↓ki23, ↓ki24, ↓ki25, ↓ki26, ↓ki27, ↓ki28, ↓ki29, ↓ki30, ↓ki31, ↓ki32, ↓ki33, ↓ki34, ↓ki35, ↓q_gs, ↓k_len1, ↓k_in1, ↓frzK_d, ↓frzK_dT, ↓frzK_dL, ↓rootK_d, ↓rootK_dL, ↓subK_d, ↓subK_dL, ↓k_ixTr0, ↓k_ixTr1, ↓k_lenTr, ↓k_tupTr, ↓walk_dL, ↓k_lendL, ↓q_mut1, ↓evI_rg3, ↓frzK_nd, ↓reduceIte, fnEnd_ret, fnEnd_nxt, fnEnd_exc, isOwn_t, List.map_cons, List.map_nil, List.cons_append, List.nil_append, List.append_nil, List.replicate_succ, List.replicate_zero, List.getD_cons_zero, List.getD_cons_succ, Bool.not_true, Bool.not_false, decide_true, decide_false, decide_eq_true_eq, decide_eq_false_iff_not, Bool.false_eq_true, Nat.zero_add, Nat.reduceAdd, Int.reduceEq, Int.reduceLT, Int.reduceLE, Nat.reduceEqDiff, reduceCtorEq, eq_self, not_true_eq_false, not_false_eq_true, ↓hy]
      have hcs : okTs u.cs := by
        obtain ⟨l, cs⟩ := u
        exact hk2.1.2.2
      refine hK (sizeL (ts ++ u.cs)) _ ?_ ⟨_, _, rfl, okTs_app.mpr ⟨hk1, hcs⟩, rfl, ?_⟩
      · rw [sizeL_app]
        omega
      · rw [sizeL_app]
        omega

theorem c_need (k : Nat) (t : Tr) (h : t.ok) (hs : t.size ≤ 16000000) : Gives (callF P (k + 4) "need_tree" [] [t.d]) fun r o => r = .non ∧ o = [] := by
  refine gives_fn P_need_tree rfl rfl ?_
  simp only [fn_need_tree, List.map_cons, List.map_nil, List.cons_append, List.nil_append, List.append_nil, List.replicate_succ, List.replicate_zero, Nat.reduceSub, Nat.sub_self]
  simp (disch := first | omega | assumption | decide) only [↓q_pk, ↓q_fz, ↓q_mv, ↓q_ci, ↓q_cb, ↓q_cn, ↓q_cs, ↓q_gi, ↓evF_op1, ↓q_op2, ↓q_cmp, ↓q_bc2, ↓evF_bc1, ↓evF_rev, ↓q_isi, ↓q_idx, ↓evF_chn, ↓evF_boo, ↓q_slc, ↓evF_tup, ↓evF_lst, ↓q_frz, ↓p_call, ↓q_xn, ↓q_xv, ↓q_xi, ↓p_comp1, ↓r_mut0, ↓if_own, ↓evB_nil, ↓evB_cons, ↓evS_nil, ↓evS_cons, ↓evOp_none, ↓evOp_some, ↓evP_nil, ↓evP_ix, ↓evI_seq, ↓evI_rg1, ↓evI_rg2, ↓evI_enu, ↓evI_zip, ↓runS_nil, ↓runS_cons, ↓q_asg, ↓run1_unp, ↓q_sti0, ↓q_aug, ↓run1_aui, ↓run1_exp, ↓run1_ife, ↓p_for, ↓p_whl, ↓run1_ret, ↓run1_retn, ↓run1_pas, ↓run1_rai, ↓evO_def, ↓evT_def, ↓getv0, ↓getvS, ↓setK0, ↓setKS, ↓getO0, ↓getOS, ↓rootK_i, ↓rootK_b, ↓rootK_s, ↓rootK_n, ↓rootK_c, ↓rootK_o, ↓rootK_I, ↓frzK_i, ↓frzK_b, ↓frzK_s, ↓frzK_n, ↓frzK_c, ↓frzK_I, ↓hidK_n, ↓hidK_s, ↓unhK_n, ↓unhK_s, ↓subK_n, ↓subK_i, ↓subK_b, ↓subK_s, ↓subK_x, ↓putK_c, ↓putK_n, ↓optv_some, ↓optl_some, ↓alone_none, ↓isB_bl, ↓isI_int, ↓putE_some, ↓k_add, ↓k_sub, ↓k_mod, ↓k_div, ↓k_mulL, ↓k_mulR, ↓k_p18, ↓k_p15, ↓k_p14, ↓k_neg, ↓k_not, ↓k_lt, ↓k_le, ↓k_gt, ↓k_ge, ↓k_eq, ↓k_ne, ↓k_lenC, ↓k_lenI, ↓k_lenT, ↓k_int, ↓k_max, ↓k_min, ↓k_isII, ↓k_isBI, ↓k_ix0, ↓k_ix1, ↓k_ix2, ↓k_set0, ↓k_set2, ↓k_auga, ↓k_augs, ↓k_eqL0, ↓k_neL0, ↓m_popI, ↓m_appI, ↓mutK_some, ↓k_rev, ↓k_sum, ↓k_ixZ, ↓k_listI, ↓walkI, ↓k_eqB, ↓k_neB, ↓k_intB, ↓k_isBB, ↓k_isIB, ↓k_isS, ↓k_eqLI, ↓k_neLI, ↓rng_one, ↓if_l0, ↓if_l1, ↓if_l2, ↓if_l3, ↓if_l4, ↓if_l5, ↓if_l6, ↓if_l7, ↓if_l8, ↓k_ixT0, ↓k_ixT1, ↓k_ixT2, ↓k_ixT3, ↓walkFI, ↓zipI, ↓p_comp2, ↓k_repI, ↓subK_I, ↓k_eqQt, ↓k_eqQf, ↓k_neQt, ↓k_neQf, ↓ki0, ↓ki1, ↓ki2, ↓ki3, ↓ki4, ↓ki5, ↓ki6, ↓ki7, ↓ki8, ↓ki9, ↓ki10, ↓ki11, ↓ki12, ↓ki13, ↓ki14, ↓ki15, ↓ki16, ↓ki17, ↓ki18, ↓ki19, ↓ki20, ↓ki21, ↓ki22, ↓ki23, ↓ki24, ↓ki25, ↓ki26, ↓ki27, ↓ki28, ↓ki29, ↓ki30, ↓ki31, ↓ki32, ↓ki33, ↓ki34, ↓ki35, ↓q_gs, ↓k_len1, ↓k_in1, ↓frzK_d, ↓frzK_dT, ↓frzK_dL, ↓rootK_d, ↓rootK_dL, ↓subK_d, ↓subK_dL, ↓k_ixTr0, ↓k_ixTr1, ↓k_lenTr, ↓k_tupTr, ↓walk_dL, ↓k_lendL, ↓q_mut1, ↓evI_rg3, ↓frzK_nd, ↓reduceIte, fnEnd_ret, fnEnd_nxt, fnEnd_exc, isOwn_t, List.map_cons, List.map_nil, List.cons_append, List.nil_append, List.append_nil, List.replicate_succ, List.replicate_zero, List.getD_cons_zero, List.getD_cons_succ, Bool.not_true, Bool.not_false, decide_true, decide_false, decide_eq_true_eq, decide_eq_false_iff_not, Bool.false_eq_true, Nat.zero_add, Nat.reduceAdd, Int.reduceEq, Int.reduceLT, Int.reduceLE, Nat.reduceEqDiff, reduceCtorEq, eq_self, not_true_eq_false, not_false_eq_true]
  refine wp_callT (c_tree k t h hs) ?_
  rintro r o ⟨rfl, rfl⟩
  simp (disch := first | omega | assumption | decide) only [↓q_pk, ↓q_fz, ↓q_mv, ↓q_ci, ↓q_cb, ↓q_cn, ↓q_cs, ↓q_gi, ↓evF_op1, ↓q_op2, ↓q_cmp, ↓q_bc2, ↓evF_bc1, ↓evF_rev, ↓q_isi, ↓q_idx, ↓evF_chn, ↓evF_boo, ↓q_slc, ↓evF_tup, ↓evF_lst, ↓q_frz, ↓p_call, ↓q_xn, ↓q_xv, ↓q_xi, ↓p_comp1, ↓r_mut0, ↓if_own, ↓evB_nil, ↓evB_cons, ↓evS_nil, ↓evS_cons, ↓evOp_none, ↓evOp_some, ↓evP_nil, ↓evP_ix, ↓evI_seq, ↓evI_rg1, ↓evI_rg2, ↓evI_enu, ↓evI_zip, ↓runS_nil, ↓runS_cons, ↓q_asg, ↓run1_unp, ↓q_sti0, ↓q_aug, ↓run1_aui, ↓run1_exp, ↓run1_ife, ↓p_for, ↓p_whl, ↓run1_ret, ↓run1_retn, ↓run1_pas, ↓run1_rai, ↓evO_def, ↓evT_def, ↓getv0, ↓getvS, ↓setK0, ↓setKS, ↓getO0, ↓getOS, ↓rootK_i, ↓rootK_b, ↓rootK_s, ↓rootK_n, ↓rootK_c, ↓rootK_o, ↓rootK_I, ↓frzK_i, ↓frzK_b, ↓frzK_s, ↓frzK_n, ↓frzK_c, ↓frzK_I, ↓hidK_n, ↓hidK_s, ↓unhK_n, ↓unhK_s, ↓subK_n, ↓subK_i, ↓subK_b, ↓subK_s, ↓subK_x, ↓putK_c, ↓putK_n, ↓optv_some, ↓optl_some, ↓alone_none, ↓isB_bl, ↓isI_int, ↓putE_some, ↓k_add, ↓k_sub, ↓k_mod, ↓k_div, ↓k_mulL, ↓k_mulR, ↓k_p18, ↓k_p15, ↓k_p14, ↓k_neg, ↓k_not, ↓k_lt, ↓k_le, ↓k_gt, ↓k_ge, ↓k_eq, ↓k_ne, ↓k_lenC, ↓k_lenI, ↓k_lenT, ↓k_int, ↓k_max, ↓k_min, ↓k_isII, ↓k_isBI, ↓k_ix0, ↓k_ix1, ↓k_ix2, ↓k_set0, ↓k_set2, ↓k_auga, ↓k_augs, ↓k_eqL0, ↓k_neL0, ↓m_popI, ↓m_appI, ↓mutK_some, ↓k_rev, ↓k_sum, ↓k_ixZ, ↓k_listI, ↓walkI, ↓k_eqB, ↓k_neB, ↓k_intB, ↓k_isBB, ↓k_isIB, ↓k_isS, ↓k_eqLI, ↓k_neLI, ↓rng_one, ↓if_l0, ↓if_l1, ↓if_l2, ↓if_l3, ↓if_l4, ↓if_l5, ↓if_l6, ↓if_l7, ↓if_l8, ↓k_ixT0, ↓k_ixT1, ↓k_ixT2, ↓k_ixT3, ↓walkFI, ↓zipI, ↓p_comp2, ↓k_repI, ↓subK_I, ↓k_eqQt, ↓k_eqQf, ↓k_neQt, ↓k_neQf, ↓ki0, ↓ki1, ↓ki2, ↓ki3, ↓ki4, ↓ki5, ↓ki6, ↓ki7, ↓ki8, ↓ki9, ↓ki10, ↓ki11, ↓ki12, ↓ki13, ↓ki14, ↓ki15, ↓ki16, ↓ki17, ↓ki18, ↓ki19, ↓ki20, ↓ki21, ↓ki22, ↓ki23, ↓ki24, ↓ki25, ↓ki26, ↓ki27, ↓ki28, ↓ki29, ↓ki30, ↓ki31, ↓ki32, ↓ki33, ↓ki34, ↓ki35, ↓q_gs, ↓k_len1, ↓k_in1, ↓frzK_d, ↓frzK_dT, ↓frzK_dL, ↓rootK_d, ↓rootK_dL, ↓subK_d, ↓subK_dL, ↓k_ixTr0, ↓k_ixTr1, ↓k_lenTr, ↓k_tupTr, ↓walk_dL, ↓k_lendL, ↓q_mut1, ↓evI_rg3, ↓frzK_nd, ↓reduceIte, fnEnd_ret, fnEnd_nxt, fnEnd_exc, isOwn_t, List.map_cons, List.map_nil, List.cons_append, List.nil_append, List.append_nil, List.replicate_succ, List.replicate_zero, List.getD_cons_zero, List.getD_cons_succ, Bool.not_true, Bool.not_false, decide_true, decide_false, decide_eq_true_eq, decide_eq_false_iff_not, Bool.false_eq_true, Nat.zero_add, Nat.reduceAdd, Int.reduceEq, Int.reduceLT, Int.reduceLE, Nat.reduceEqDiff, reduceCtorEq, eq_self, not_true_eq_false, not_false_eq_true]
  exact wp_nxt ⟨rfl, rfl⟩
theorem c_parts (k : Nat) (t : Tr) (h : t.ok) (hs : t.size ≤ 16000000) : Gives (callF P (k + 1) "parts_in_order" [] [t.d]) fun r o => r = .lst true (dL t.post) ∧ o = [] := by
  refine gives_fn P_parts_in_order rfl rfl ?_
  simp only [fn_parts_in_order, List.map_cons, List.map_nil, List.cons_append, List.nil_append, List.append_nil, List.replicate_succ, List.replicate_zero, Nat.reduceSub, Nat.sub_self]
  simp (disch := first | omega | assumption | decide) only [↓q_pk, ↓q_fz, ↓q_mv, ↓q_ci, ↓q_cb, ↓q_cn, ↓q_cs, ↓q_gi, ↓evF_op1, ↓q_op2, ↓q_cmp, ↓q_bc2, ↓evF_bc1, ↓evF_rev, ↓q_isi, ↓q_idx, ↓evF_chn, ↓evF_boo, ↓q_slc, ↓evF_tup, ↓evF_lst, ↓q_frz, ↓p_call, ↓q_xn, ↓q_xv, ↓q_xi, ↓p_comp1, ↓r_mut0, ↓if_own, ↓evB_nil, ↓evB_cons, ↓evS_nil, ↓evS_cons, ↓evOp_none, ↓evOp_some, ↓evP_nil, ↓evP_ix, ↓evI_seq, ↓evI_rg1, ↓evI_rg2, ↓evI_enu, ↓evI_zip, ↓runS_nil, ↓runS_cons, ↓q_asg, ↓run1_unp, ↓q_sti0, ↓q_aug, ↓run1_aui, ↓run1_exp, ↓run1_ife, ↓p_for, ↓p_whl, ↓run1_ret, ↓run1_retn, ↓run1_pas, ↓run1_rai, ↓evO_def, ↓evT_def, ↓getv0, ↓getvS, ↓setK0, ↓setKS, ↓getO0, ↓getOS, ↓rootK_i, ↓rootK_b, ↓rootK_s, ↓rootK_n, ↓rootK_c, ↓rootK_o, ↓rootK_I, ↓frzK_i, ↓frzK_b, ↓frzK_s, ↓frzK_n, ↓frzK_c, ↓frzK_I, ↓hidK_n, ↓hidK_s, ↓unhK_n, ↓unhK_s, ↓subK_n, ↓subK_i, ↓subK_b, ↓subK_s, ↓subK_x, ↓putK_c, ↓putK_n, ↓optv_some, ↓optl_some, ↓alone_none, ↓isB_bl, ↓isI_int, ↓putE_some, ↓k_add, ↓k_sub, ↓k_mod, ↓k_div, ↓k_mulL, ↓k_mulR, ↓k_p18, ↓k_p15, ↓k_p14, ↓k_neg, ↓k_not, ↓k_lt, ↓k_le, ↓k_gt, ↓k_ge, ↓k_eq, ↓k_ne, ↓k_lenC, ↓k_lenI, ↓k_lenT, ↓k_int, ↓k_max, ↓k_min, ↓k_isII, ↓k_isBI, ↓k_ix0, ↓k_ix1, ↓k_ix2, ↓k_set0, ↓k_set2, ↓k_auga, ↓k_augs, ↓k_eqL0, ↓k_neL0, ↓m_popI, ↓m_appI, ↓mutK_some, ↓k_rev, ↓k_sum, ↓k_ixZ, ↓k_listI, ↓walkI, ↓k_eqB, ↓k_neB, ↓k_intB, ↓k_isBB, ↓k_isIB, ↓k_isS, ↓k_eqLI, ↓k_neLI, ↓rng_one, ↓if_l0, ↓if_l1, ↓if_l2, ↓if_l3, ↓if_l4, ↓if_l5, ↓if_l6, ↓if_l7, ↓if_l8, ↓k_ixT0, ↓k_ixT1, ↓k_ixT2, ↓k_ixT3, ↓walkFI, ↓zipI, ↓p_comp2, ↓k_repI, ↓subK_I, ↓k_eqQt, ↓k_eqQf, ↓k_neQt, ↓k_neQf, ↓ki0, ↓ki1, ↓ki2, ↓ki3, ↓ki4, ↓ki5, ↓ki6, ↓ki7, ↓ki8, ↓ki9, ↓ki10, ↓ki11, ↓ki12, ↓ki13, ↓ki14, ↓ki15, ↓ki16, ↓ki17, ↓ki18, ↓ki19, ↓ki20, ↓ki21, ↓ki22, ↓ki23, ↓ki24, ↓ki25, ↓ki26, ↓ki27, ↓ki28, ↓ki29, ↓ki30, ↓ki31, ↓ki32, ↓ki33, ↓ki34, ↓ki35, ↓q_gs, ↓k_len1, ↓k_in1, ↓frzK_d, ↓frzK_dT, ↓frzK_dL, ↓rootK_d, ↓rootK_dL, ↓subK_d, ↓subK_dL, ↓k_ixTr0, ↓k_ixTr1, ↓k_lenTr, ↓k_tupTr, ↓walk_dL, ↓k_lendL, ↓q_mut1, ↓evI_rg3, ↓frzK_nd, ↓reduceIte, fnEnd_ret, fnEnd_nxt, fnEnd_exc, isOwn_t, List.map_cons, List.map_nil, List.cons_append, List.nil_append, List.append_nil, List.replicate_succ, List.replicate_zero, List.getD_cons_zero, List.getD_cons_succ, Bool.not_true, Bool.not_false, decide_true, decide_false, decide_eq_true_eq, decide_eq_false_iff_not, Bool.false_eq_true, Nat.zero_add, Nat.reduceAdd, Int.reduceEq, Int.reduceLT, Int.reduceLE, Nat.reduceEqDiff, reduceCtorEq, eq_self, not_true_eq_false, not_false_eq_true]
  refine wp_whlT (fun n e => ∃ fs ts, e = [some t.d, some (.lst true (dL fs)), some (.lst true (dL ts))] ∧ okTs ts ∧ sizeL ts = n ∧ fs.length + n ≤ 16000000 ∧ fs ++ (postL ts).reverse = t.post.reverse) t.size ⟨[], [t], rfl, ⟨h, trivial⟩, by rw [sizeL, sizeL]; rfl, by rw [List.length_nil]; omega, by rw [postL, postL, List.append_nil, List.nil_append]⟩ ?_
  rintro n e ⟨fs, ts, rfl, hk, hn, hb, hp⟩
  simp (disch := first | omega | assumption | decide) only [↓q_pk, ↓q_fz, ↓q_mv, ↓q_ci, ↓q_cb, ↓q_cn, ↓q_cs, ↓q_gi, ↓evF_op1, ↓q_op2, ↓q_cmp, ↓q_bc2, ↓evF_bc1, ↓evF_rev, ↓q_isi, ↓q_idx, ↓evF_chn, ↓evF_boo, ↓q_slc, ↓evF_tup, ↓evF_lst, ↓q_frz, ↓p_call, ↓q_xn, ↓q_xv, ↓q_xi, ↓p_comp1, ↓r_mut0, ↓if_own, ↓evB_nil, ↓evB_cons, ↓evS_nil, ↓evS_cons, ↓evOp_none, ↓evOp_some, ↓evP_nil, ↓evP_ix, ↓evI_seq, ↓evI_rg1, ↓evI_rg2, ↓evI_enu, ↓evI_zip, ↓runS_nil, ↓runS_cons, ↓q_asg, ↓run1_unp, ↓q_sti0, ↓q_aug, ↓run1_aui, ↓run1_exp, ↓run1_ife, ↓p_for, ↓p_whl, ↓run1_ret, ↓run1_retn, ↓run1_pas, ↓run1_rai, ↓evO_def, ↓evT_def, ↓getv0, ↓getvS, ↓setK0, ↓setKS, ↓getO0, ↓getOS, ↓rootK_i, ↓rootK_b, ↓rootK_s, ↓rootK_n, ↓rootK_c, ↓rootK_o, ↓rootK_I, ↓frzK_i, ↓frzK_b, ↓frzK_s, ↓frzK_n, ↓frzK_c, ↓frzK_I, ↓hidK_n, ↓hidK_s, ↓unhK_n, ↓unhK_s, ↓subK_n, ↓subK_i, ↓subK_b, ↓subK_s, ↓subK_x, ↓putK_c, ↓putK_n, ↓optv_some, ↓optl_some, ↓alone_none, ↓isB_bl, ↓isI_int, ↓putE_some, ↓k_add, ↓k_sub, ↓k_mod, ↓k_div, ↓k_mulL, ↓k_mulR, ↓k_p18, ↓k_p15, ↓k_p14, ↓k_neg, ↓k_not, ↓k_lt, ↓k_le, ↓k_gt, ↓k_ge, ↓k_eq, ↓k_ne, ↓k_lenC, ↓k_lenI, ↓k_lenT, ↓k_int, ↓k_max, ↓k_min, ↓k_isII, ↓k_isBI, ↓k_ix0, ↓k_ix1, ↓k_ix2, ↓k_set0, ↓k_set2, ↓k_auga, ↓k_augs, ↓k_eqL0, ↓k_neL0, ↓m_popI, ↓m_appI, ↓mutK_some, ↓k_rev, ↓k_sum, ↓k_ixZ, ↓k_listI, ↓walkI, ↓k_eqB, ↓k_neB, ↓k_intB, ↓k_isBB, ↓k_isIB, ↓k_isS, ↓k_eqLI, ↓k_neLI, ↓rng_one, ↓if_l0, ↓if_l1, ↓if_l2, ↓if_l3, ↓if_l4, ↓if_l5, ↓if_l6, ↓if_l7, ↓if_l8, ↓k_ixT0, ↓k_ixT1, ↓k_ixT2, ↓k_ixT3, ↓walkFI, ↓zipI, ↓p_comp2, ↓k_repI, ↓subK_I, ↓k_eqQt, ↓k_eqQf, ↓k_neQt, ↓k_neQf, ↓ki0, ↓ki1, ↓ki2, ↓ki3, ↓ki4, ↓ki5, ↓ki6, ↓ki7, ↓ki8, ↓ki9, ↓ki10, ↓ki11, ↓ki12, ↓ki13, ↓ki14, ↓ki15, ↓ki16, ↓ki17, ↓ki18, ↓ki19, ↓ki20, ↓ki21, ↓ki22, ↓ki23, ↓ki24, ↓ki25, ↓ki26, ↓ki27, ↓ki28, ↓ki29, ↓ki30, ↓ki31, ↓ki32, ↓ki33, ↓ki34, ↓ki35, ↓q_gs, ↓k_len1, ↓k_in1, ↓frzK_d, ↓frzK_dT, ↓frzK_dL, ↓rootK_d, ↓rootK_dL, ↓subK_d, ↓subK_dL, ↓k_ixTr0, ↓k_ixTr1, ↓k_lenTr, ↓k_tupTr, ↓walk_dL, ↓k_lendL, ↓q_mut1, ↓evI_rg3, ↓frzK_nd, ↓reduceIte, fnEnd_ret, fnEnd_nxt, fnEnd_exc, isOwn_t, List.map_cons, List.map_nil, List.cons_append, List.nil_append, List.append_nil, List.replicate_succ, List.replicate_zero, List.getD_cons_zero, List.getD_cons_succ, Bool.not_true, Bool.not_false, decide_true, decide_false, decide_eq_true_eq, decide_eq_false_iff_not, Bool.false_eq_true, Nat.zero_add, Nat.reduceAdd, Int.reduceEq, Int.reduceLT, Int.reduceLE, Nat.reduceEqDiff, reduceCtorEq, eq_self, not_true_eq_false, not_false_eq_true, ↓k_neNil (dL_plain ts hk)]
  refine wp_retP ⟨_, rfl, fun ht => ?_, fun ht => ?_⟩
  · simp (disch := first | omega | assumption | decide) only [↓q_pk, ↓q_fz, ↓q_mv, ↓q_ci, ↓q_cb, ↓q_cn, ↓q_cs, ↓q_gi, ↓evF_op1, ↓q_op2, ↓q_cmp, ↓q_bc2, ↓evF_bc1, ↓evF_rev, ↓q_isi, ↓q_idx, ↓evF_chn, ↓evF_boo, ↓q_slc, ↓evF_tup, ↓evF_lst, ↓q_frz, ↓p_call, ↓q_xn, ↓q_xv, ↓q_xi, ↓p_comp1, ↓r_mut0, ↓if_own, ↓evB_nil, ↓evB_cons, ↓evS_nil, ↓evS_cons, ↓evOp_none, ↓evOp_some, ↓evP_nil, ↓evP_ix, ↓evI_seq, ↓evI_rg1, ↓evI_rg2, ↓evI_enu, ↓evI_zip, ↓runS_nil, ↓runS_cons, ↓q_asg, ↓run1_unp, ↓q_sti0, ↓q_aug, ↓run1_aui, ↓run1_exp, ↓run1_ife, ↓p_for, ↓p_whl, ↓run1_ret, ↓run1_retn, ↓run1_pas, ↓run1_rai, ↓evO_def, ↓evT_def, ↓getv0, ↓getvS, ↓setK0, ↓setKS, ↓getO0, ↓getOS, ↓rootK_i, ↓rootK_b, ↓rootK_s, ↓rootK_n, ↓rootK_c, ↓rootK_o, ↓rootK_I, ↓frzK_i, ↓frzK_b, ↓frzK_s, ↓frzK_n, ↓frzK_c, ↓frzK_I, ↓hidK_n, ↓hidK_s, ↓unhK_n, ↓unhK_s, ↓subK_n, ↓subK_i, ↓subK_b, ↓subK_s, ↓subK_x, ↓putK_c, ↓putK_n, ↓optv_some, ↓optl_some, ↓alone_none, ↓isB_bl, ↓isI_int, ↓putE_some, ↓k_add, ↓k_sub, ↓k_mod, ↓k_div, ↓k_mulL, ↓k_mulR, ↓k_p18, ↓k_p15, ↓k_p14, ↓k_neg, ↓k_not, ↓k_lt, ↓k_le, ↓k_gt, ↓k_ge, ↓k_eq, ↓k_ne, ↓k_lenC, ↓k_lenI, ↓k_lenT, ↓k_int, ↓k_max, ↓k_min, ↓k_isII, ↓k_isBI, ↓k_ix0, ↓k_ix1, ↓k_ix2, ↓k_set0, ↓k_set2, ↓k_auga, ↓k_augs, ↓k_eqL0, ↓k_neL0, ↓m_popI, ↓m_appI, ↓mutK_some, ↓k_rev, ↓k_sum, ↓k_ixZ, ↓k_listI, ↓walkI, ↓k_eqB, ↓k_neB, ↓k_intB, ↓k_isBB, ↓k_isIB, ↓k_isS, ↓k_eqLI, ↓k_neLI, ↓rng_one, ↓if_l0, ↓if_l1, ↓if_l2, ↓if_l3, ↓if_l4, ↓if_l5, ↓if_l6, ↓if_l7, ↓if_l8, ↓k_ixT0, ↓k_ixT1, ↓k_ixT2, ↓k_ixT3, ↓walkFI, ↓zipI, ↓p_comp2, ↓k_repI, ↓subK_I, ↓k_eqQt, ↓k_eqQf, ↓k_neQt, ↓k_neQf, ↓ki0, ↓ki1, ↓ki2, ↓ki3, ↓ki4, ↓ki5, ↓ki6, ↓ki7, ↓ki8, ↓ki9, ↓ki10, ↓ki11, ↓ki12, ↓ki13, ↓ki14, ↓ki15, ↓ki16, ↓ki17, ↓ki18, ↓ki19, ↓ki20, ↓ki21, ↓ki22, ↓ki23, ↓ki24, ↓ki25, ↓ki26, ↓ki27, ↓ki28, ↓ki29, ↓ki30, ↓ki31, ↓ki32, ↓ki33, ↓ki34, ↓ki35, ↓q_gs, ↓k_len1, ↓k_in1, ↓frzK_d, ↓frzK_dT, ↓frzK_dL, ↓rootK_d, ↓rootK_dL, ↓subK_d, ↓subK_dL, ↓k_ixTr0, ↓k_ixTr1, ↓k_lenTr, ↓k_tupTr, ↓walk_dL, ↓k_lendL, ↓q_mut1, ↓evI_rg3, ↓frzK_nd, ↓reduceIte, fnEnd_ret, fnEnd_nxt, fnEnd_exc, isOwn_t, List.map_cons, List.map_nil, List.cons_append, List.nil_append, List.append_nil, List.replicate_succ, List.replicate_zero, List.getD_cons_zero, List.getD_cons_succ, Bool.not_true, Bool.not_false, decide_true, decide_false, decide_eq_true_eq, decide_eq_false_iff_not, Bool.false_eq_true, Nat.zero_add, Nat.reduceAdd, Int.reduceEq, Int.reduceLT, Int.reduceLE, Nat.reduceEqDiff, reduceCtorEq, eq_self, not_true_eq_false, not_false_eq_true, ↓k_revL (dL_fro fs)]
    have hts : ts = [] := by
      cases ts with
      | nil => rfl
      | cons _ _ => cases ht
    subst hts
    refine wp_ret ⟨?_, rfl⟩
    rw [postL, List.reverse_nil, List.append_nil] at hp
    rw [hp, dL_map, dL_map, List.map_reverse, List.reverse_reverse]
  · intro K' hK
    rcases List.eq_nil_or_concat ts with rfl | ⟨ts, u, rfl⟩
    · cases ht
    · rw [List.concat_eq_append] at *
      obtain ⟨hk1, hk2⟩ := okTs_app.mp hk
      rw [sizeL_app, sizeL, sizeL] at hn
      have hu : u.size = 1 + sizeL u.cs := by
        obtain ⟨l, cs⟩ := u
        rfl
      have hx : ∀ kk : D → D → Fl, mutK (mutD .pop (.lst true (dL (ts ++ [u]))) []) kk = kk u.d (.lst true (dL ts)) := fun kk => by
        rw [dL_app]
        exact m_popS
      have hz : ∀ kk : D → D → Fl, mutK (mutD .append (.lst true (dL fs)) [u.d]) kk = kk .non (.lst true (dL (fs ++ [u]))) := fun kk => by
        rw [m_app (by rw [dL_len]; omega), dL_app]
        rfl
      have hi : ∀ kk : D → Fl, optv (idxD (.lst true (dL (fs ++ [u]))) (.int (-1))) kk = kk u.d := fun kk => by
        rw [dL_app]
        exact k_ixm1
      have hy : ∀ kk : D → D → Fl, mutK (mutD .extend (.lst true (dL ts)) [.lst false (dL u.cs)]) kk = kk .non (.lst true (dL (ts ++ u.cs))) := fun kk => by
        have l1 := len_sizeL ts
        have l2 := len_sizeL u.cs
        rw [m_ext (dL_fro _) (by rw [dL_len, dL_len]; omega), dL_app]
      simp (disch := first | omega | assumption | decide) only [↓q_pk, ↓q_fz, ↓q_mv, ↓q_ci, ↓q_cb, ↓q_cn, ↓q_cs, ↓q_gi, ↓evF_op1, ↓q_op2, ↓q_cmp, ↓q_bc2, ↓evF_bc1, ↓evF_rev, ↓q_isi, ↓q_idx, ↓evF_chn, ↓evF_boo, ↓q_slc, ↓evF_tup, ↓evF_lst, ↓q_frz, ↓p_call, ↓q_xn, ↓q_xv, ↓q_xi, ↓p_comp1, ↓r_mut0, ↓if_own, ↓evB_nil, ↓evB_cons, ↓evS_nil, ↓evS_cons, ↓evOp_none, ↓evOp_some, ↓evP_nil, ↓evP_ix, ↓evI_seq, ↓evI_rg1, ↓evI_rg2, ↓evI_enu, ↓evI_zip, ↓runS_nil, ↓runS_cons, ↓q_asg, ↓run1_unp, ↓q_sti0, ↓q_aug, ↓run1_aui, ↓run1_exp, ↓run1_ife, ↓p_for, ↓p_whl, ↓run1_ret, ↓run1_retn, ↓run1_pas, ↓run1_rai, ↓evO_def, ↓evT_def, ↓getv0, ↓getvS, ↓setK0, ↓setKS, ↓getO0, ↓getOS, ↓rootK_i, ↓rootK_b, ↓rootK_s, ↓rootK_n, ↓rootK_c, ↓rootK_o, ↓rootK_I, ↓frzK_i, ↓frzK_b, ↓frzK_s, ↓frzK_n, ↓frzK_c, ↓frzK_I, ↓hidK_n, ↓hidK_s, ↓unhK_n, ↓unhK_s, ↓subK_n, ↓subK_i, ↓subK_b, ↓subK_s, ↓subK_x, ↓putK_c, ↓putK_n, ↓optv_some, ↓optl_some, ↓alone_none, ↓isB_bl, ↓isI_int, ↓putE_some, ↓k_add, ↓k_sub, ↓k_mod, ↓k_div, ↓k_mulL, ↓k_mulR, ↓k_p18, ↓k_p15, ↓k_p14, ↓k_neg, ↓k_not, ↓k_lt, ↓k_le, ↓k_gt, ↓k_ge, ↓k_eq, ↓k_ne, ↓k_lenC, ↓k_lenI, ↓k_lenT, ↓k_int, ↓k_max, ↓k_min, ↓k_isII, ↓k_isBI, ↓k_ix0, ↓k_ix1, ↓k_ix2, ↓k_set0, ↓k_set2, ↓k_auga, ↓k_augs, ↓k_eqL0, ↓k_neL0, ↓m_popI, ↓m_appI, ↓mutK_some, ↓k_rev, ↓k_sum, ↓k_ixZ, ↓k_listI, ↓walkI, ↓k_eqB, ↓k_neB, ↓k_intB, ↓k_isBB, ↓k_isIB, ↓k_isS, ↓k_eqLI, ↓k_neLI, ↓rng_one, ↓if_l0, ↓if_l1, ↓if_l2, ↓if_l3, ↓if_l4, ↓if_l5, ↓if_l6, ↓if_l7, ↓if_l8, ↓k_ixT0, ↓k_ixT1, ↓k_ixT2, ↓k_ixT3, ↓walkFI, ↓zipI, ↓p_comp2, ↓k_repI, ↓subK_I, ↓k_eqQt, ↓k_eqQf, ↓k_neQt, ↓k_neQf, ↓ki0, ↓ki1, ↓ki2, ↓ki3, ↓ki4, ↓ki5, ↓ki6, ↓ki7, ↓ki8, ↓ki9, ↓ki10, ↓ki11, ↓ki12, ↓ki13, ↓ki14, ↓ki15, ↓ki16, ↓ki17, ↓ki18, ↓ki19, ↓ki20, ↓ki21, ↓ki22, ↓ki23, ↓ki24, ↓ki25, ↓ki26, ↓ki27, ↓ki28, ↓ki29, ↓ki30, ↓ki31, ↓ki32, ↓ki33, ↓ki34, ↓ki35, ↓q_gs, ↓k_len1, ↓k_in1, ↓frzK_d, ↓frzK_dT, ↓frzK_dL, ↓rootK_d, ↓rootK_dL, ↓subK_d, ↓subK_dL, ↓k_ixTr0, ↓k_ixTr1, ↓k_lenTr, ↓k_tupTr, ↓walk_dL, ↓k_lendL, ↓q_mut1, ↓evI_rg3, ↓frzK_nd, ↓reduceIte, fnEnd_ret, fnEnd_nxt, fnEnd_exc, isOwn_t, List.map_cons, List.map_nil, List.cons_append, List.nil_append, List.append_nil, List.replicate_succ, List.replicate_zero, List.getD_cons_zero, List.getD_cons_succ, Bool.not_true, Bool.not_false, decide_true, decide_false, decide_eq_true_eq, decide_eq_false_iff_not, Bool.false_eq_true, Nat.zero_add, Nat.reduceAdd, Int.reduceEq, Int.reduceLT, Int.reduceLE, Nat.reduceEqDiff, reduceCtorEq, eq_self, not_true_eq_false, not_false_eq_true, ↓hx, ↓hz, ↓hi, ↓hy]
      have hcs : okTs u.cs := by
        obtain ⟨l, cs⟩ := u
        exact hk2.1.2.2
      refine hK (sizeL (ts ++ u.cs)) _ ?_ ⟨_, _, rfl, okTs_app.mpr ⟨hk1, hcs⟩, rfl, ?_, ?_⟩
      · rw [sizeL_app]
        omega
      · rw [sizeL_app, List.length_append, List.length_singleton]
        omega
      · rw [← hp, postL_app, postL_app, postL, postL, List.append_nil, List.append_assoc]
        congr 1
        obtain ⟨l, cs⟩ := u
        show [Tr.nd l cs] ++ (postL ts ++ postL cs).reverse = (postL ts ++ Tr.post (.nd l cs)).reverse
        rw [Tr.post, ← List.append_assoc, List.reverse_append (as := postL ts ++ postL cs)]
        rfl

theorem c_countp (k : Nat) (t : Tr) (h : t.ok) (hs : t.size ≤ 16000000) : Gives (callF P (k + 2) "counted_parts" [] [t.d]) fun r o => r = .int t.size ∧ o = [] := by
  refine gives_fn P_counted_parts rfl rfl ?_
  simp only [fn_counted_parts, List.map_cons, List.map_nil, List.cons_append, List.nil_append, List.append_nil, List.replicate_succ, List.replicate_zero, Nat.reduceSub, Nat.sub_self]
  simp (disch := first | omega | assumption | decide) only [↓q_pk, ↓q_fz, ↓q_mv, ↓q_ci, ↓q_cb, ↓q_cn, ↓q_cs, ↓q_gi, ↓evF_op1, ↓q_op2, ↓q_cmp, ↓q_bc2, ↓evF_bc1, ↓evF_rev, ↓q_isi, ↓q_idx, ↓evF_chn, ↓evF_boo, ↓q_slc, ↓evF_tup, ↓evF_lst, ↓q_frz, ↓p_call, ↓q_xn, ↓q_xv, ↓q_xi, ↓p_comp1, ↓r_mut0, ↓if_own, ↓evB_nil, ↓evB_cons, ↓evS_nil, ↓evS_cons, ↓evOp_none, ↓evOp_some, ↓evP_nil, ↓evP_ix, ↓evI_seq, ↓evI_rg1, ↓evI_rg2, ↓evI_enu, ↓evI_zip, ↓runS_nil, ↓runS_cons, ↓q_asg, ↓run1_unp, ↓q_sti0, ↓q_aug, ↓run1_aui, ↓run1_exp, ↓run1_ife, ↓p_for, ↓p_whl, ↓run1_ret, ↓run1_retn, ↓run1_pas, ↓run1_rai, ↓evO_def, ↓evT_def, ↓getv0, ↓getvS, ↓setK0, ↓setKS, ↓getO0, ↓getOS, ↓rootK_i, ↓rootK_b, ↓rootK_s, ↓rootK_n, ↓rootK_c, ↓rootK_o, ↓rootK_I, ↓frzK_i, ↓frzK_b, ↓frzK_s, ↓frzK_n, ↓frzK_c, ↓frzK_I, ↓hidK_n, ↓hidK_s, ↓unhK_n, ↓unhK_s, ↓subK_n, ↓subK_i, ↓subK_b, ↓subK_s, ↓subK_x, ↓putK_c, ↓putK_n, ↓optv_some, ↓optl_some, ↓alone_none, ↓isB_bl, ↓isI_int, ↓putE_some, ↓k_add, ↓k_sub, ↓k_mod, ↓k_div, ↓k_mulL, ↓k_mulR, ↓k_p18, ↓k_p15, ↓k_p14, ↓k_neg, ↓k_not, ↓k_lt, ↓k_le, ↓k_gt, ↓k_ge, ↓k_eq, ↓k_ne, ↓k_lenC, ↓k_lenI, ↓k_lenT, ↓k_int, ↓k_max, ↓k_min, ↓k_isII, ↓k_isBI, ↓k_ix0, ↓k_ix1, ↓k_ix2, ↓k_set0, ↓k_set2, ↓k_auga, ↓k_augs, ↓k_eqL0, ↓k_neL0, ↓m_popI, ↓m_appI, ↓mutK_some, ↓k_rev, ↓k_sum, ↓k_ixZ, ↓k_listI, ↓walkI, ↓k_eqB, ↓k_neB, ↓k_intB, ↓k_isBB, ↓k_isIB, ↓k_isS, ↓k_eqLI, ↓k_neLI, ↓rng_one, ↓if_l0, ↓if_l1, ↓if_l2, ↓if_l3, ↓if_l4, ↓if_l5, ↓if_l6, ↓if_l7, ↓if_l8, ↓k_ixT0, ↓k_ixT1, ↓k_ixT2, ↓k_ixT3, ↓walkFI, ↓zipI, ↓p_comp2, ↓k_repI, ↓subK_I, ↓k_eqQt, ↓k_eqQf, ↓k_neQt, ↓k_neQf, ↓ki0, ↓ki1, ↓ki2, ↓ki3, ↓ki4, ↓ki5, ↓ki6, ↓ki7, ↓ki8, ↓ki9, ↓ki10, ↓ki11, ↓ki12, ↓ki13, ↓ki14, ↓ki15, ↓ki16, ↓ki17, ↓ki18, ↓ki19, ↓ki20, ↓ki21, ↓ki22, ↓ki23, ↓ki24, ↓ki25, ↓ki26, ↓ki27, ↓ki28, ↓ki29, ↓ki30, ↓ki31, ↓ki32, ↓ki33, ↓ki34, ↓ki35, ↓q_gs, ↓k_len1, ↓k_in1, ↓frzK_d, ↓frzK_dT, ↓frzK_dL, ↓rootK_d, ↓rootK_dL, ↓subK_d, ↓subK_dL, ↓k_ixTr0, ↓k_ixTr1, ↓k_lenTr, ↓k_tupTr, ↓walk_dL, ↓k_lendL, ↓q_mut1, ↓evI_rg3, ↓frzK_nd, ↓reduceIte, fnEnd_ret, fnEnd_nxt, fnEnd_exc, isOwn_t, List.map_cons, List.map_nil, List.cons_append, List.nil_append, List.append_nil, List.replicate_succ, List.replicate_zero, List.getD_cons_zero, List.getD_cons_succ, Bool.not_true, Bool.not_false, decide_true, decide_false, decide_eq_true_eq, decide_eq_false_iff_not, Bool.false_eq_true, Nat.zero_add, Nat.reduceAdd, Int.reduceEq, Int.reduceLT, Int.reduceLE, Nat.reduceEqDiff, reduceCtorEq, eq_self, not_true_eq_false, not_false_eq_true]
  refine wp_callT (c_parts k t h hs) ?_
  rintro r o ⟨rfl, rfl⟩
  simp (disch := first | omega | assumption | decide) only [↓q_pk, ↓q_fz, ↓q_mv, ↓q_ci, ↓q_cb, ↓q_cn, ↓q_cs, ↓q_gi, ↓evF_op1, ↓q_op2, ↓q_cmp, ↓q_bc2, ↓evF_bc1, ↓evF_rev, ↓q_isi, ↓q_idx, ↓evF_chn, ↓evF_boo, ↓q_slc, ↓evF_tup, ↓evF_lst, ↓q_frz, ↓p_call, ↓q_xn, ↓q_xv, ↓q_xi, ↓p_comp1, ↓r_mut0, ↓if_own, ↓evB_nil, ↓evB_cons, ↓evS_nil, ↓evS_cons, ↓evOp_none, ↓evOp_some, ↓evP_nil, ↓evP_ix, ↓evI_seq, ↓evI_rg1, ↓evI_rg2, ↓evI_enu, ↓evI_zip, ↓runS_nil, ↓runS_cons, ↓q_asg, ↓run1_unp, ↓q_sti0, ↓q_aug, ↓run1_aui, ↓run1_exp, ↓run1_ife, ↓p_for, ↓p_whl, ↓run1_ret, ↓run1_retn, ↓run1_pas, ↓run1_rai, ↓evO_def, ↓evT_def, ↓getv0, ↓getvS, ↓setK0, ↓setKS, ↓getO0, ↓getOS, ↓rootK_i, ↓rootK_b, ↓rootK_s, ↓rootK_n, ↓rootK_c, ↓rootK_o, ↓rootK_I, ↓frzK_i, ↓frzK_b, ↓frzK_s, ↓frzK_n, ↓frzK_c, ↓frzK_I, ↓hidK_n, ↓hidK_s, ↓unhK_n, ↓unhK_s, ↓subK_n, ↓subK_i, ↓subK_b, ↓subK_s, ↓subK_x, ↓putK_c, ↓putK_n, ↓optv_some, ↓optl_some, ↓alone_none, ↓isB_bl, ↓isI_int, ↓putE_some, ↓k_add, ↓k_sub, ↓k_mod, ↓k_div, ↓k_mulL, ↓k_mulR, ↓k_p18, ↓k_p15, ↓k_p14, ↓k_neg, ↓k_not, ↓k_lt, ↓k_le, ↓k_gt, ↓k_ge, ↓k_eq, ↓k_ne, ↓k_lenC, ↓k_lenI, ↓k_lenT, ↓k_int, ↓k_max, ↓k_min, ↓k_isII, ↓k_isBI, ↓k_ix0, ↓k_ix1, ↓k_ix2, ↓k_set0, ↓k_set2, ↓k_auga, ↓k_augs, ↓k_eqL0, ↓k_neL0, ↓m_popI, ↓m_appI, ↓mutK_some, ↓k_rev, ↓k_sum, ↓k_ixZ, ↓k_listI, ↓walkI, ↓k_eqB, ↓k_neB, ↓k_intB, ↓k_isBB, ↓k_isIB, ↓k_isS, ↓k_eqLI, ↓k_neLI, ↓rng_one, ↓if_l0, ↓if_l1, ↓if_l2, ↓if_l3, ↓if_l4, ↓if_l5, ↓if_l6, ↓if_l7, ↓if_l8, ↓k_ixT0, ↓k_ixT1, ↓k_ixT2, ↓k_ixT3, ↓walkFI, ↓zipI, ↓p_comp2, ↓k_repI, ↓subK_I, ↓k_eqQt, ↓k_eqQf, ↓k_neQt, ↓k_neQf, ↓ki0, ↓ki1, ↓ki2, ↓ki3, ↓ki4, ↓ki5, ↓ki6, ↓ki7, ↓ki8, ↓ki9, ↓ki10, ↓ki11, ↓ki12, ↓ki13, ↓ki14, ↓ki15, ↓ki16, ↓ki17, ↓ki18, ↓ki19, ↓ki20, ↓ki21, ↓ki22, ↓ki23, ↓ki24, ↓ki25, ↓ki26, ↓ki27, ↓ki28, ↓ki29, ↓ki30, ↓ki31, ↓ki32, ↓ki33, ↓ki34, ↓ki35, ↓q_gs, ↓k_len1, ↓k_in1, ↓frzK_d, ↓frzK_dT, ↓frzK_dL, ↓rootK_d, ↓rootK_dL, ↓subK_d, ↓subK_dL, ↓k_ixTr0, ↓k_ixTr1, ↓k_lenTr, ↓k_tupTr, ↓walk_dL, ↓k_lendL, ↓q_mut1, ↓evI_rg3, ↓frzK_nd, ↓reduceIte, fnEnd_ret, fnEnd_nxt, fnEnd_exc, isOwn_t, List.map_cons, List.map_nil, List.cons_append, List.nil_append, List.append_nil, List.replicate_succ, List.replicate_zero, List.getD_cons_zero, List.getD_cons_succ, Bool.not_true, Bool.not_false, decide_true, decide_false, decide_eq_true_eq, decide_eq_false_iff_not, Bool.false_eq_true, Nat.zero_add, Nat.reduceAdd, Int.reduceEq, Int.reduceLT, Int.reduceLE, Nat.reduceEqDiff, reduceCtorEq, eq_self, not_true_eq_false, not_false_eq_true]
  exact wp_ret ⟨by rw [post_len], rfl⟩
theorem c_size (k : Nat) (t : Tr) (h : t.ok) (hs : t.size ≤ 16000000) : Gives (callF P (k + 5) "size_of" [] [t.d]) fun r o => r = .int t.size ∧ o = [] := by
  refine gives_fn P_size_of rfl rfl ?_
  simp only [fn_size_of, List.map_cons, List.map_nil, List.cons_append, List.nil_append, List.append_nil, List.replicate_succ, List.replicate_zero, Nat.reduceSub, Nat.sub_self]
  simp (disch := first | omega | assumption | decide) only [↓q_pk, ↓q_fz, ↓q_mv, ↓q_ci, ↓q_cb, ↓q_cn, ↓q_cs, ↓q_gi, ↓evF_op1, ↓q_op2, ↓q_cmp, ↓q_bc2, ↓evF_bc1, ↓evF_rev, ↓q_isi, ↓q_idx, ↓evF_chn, ↓evF_boo, ↓q_slc, ↓evF_tup, ↓evF_lst, ↓q_frz, ↓p_call, ↓q_xn, ↓q_xv, ↓q_xi, ↓p_comp1, ↓r_mut0, ↓if_own, ↓evB_nil, ↓evB_cons, ↓evS_nil, ↓evS_cons, ↓evOp_none, ↓evOp_some, ↓evP_nil, ↓evP_ix, ↓evI_seq, ↓evI_rg1, ↓evI_rg2, ↓evI_enu, ↓evI_zip, ↓runS_nil, ↓runS_cons, ↓q_asg, ↓run1_unp, ↓q_sti0, ↓q_aug, ↓run1_aui, ↓run1_exp, ↓run1_ife, ↓p_for, ↓p_whl, ↓run1_ret, ↓run1_retn, ↓run1_pas, ↓run1_rai, ↓evO_def, ↓evT_def, ↓getv0, ↓getvS, ↓setK0, ↓setKS, ↓getO0, ↓getOS, ↓rootK_i, ↓rootK_b, ↓rootK_s, ↓rootK_n, ↓rootK_c, ↓rootK_o, ↓rootK_I, ↓frzK_i, ↓frzK_b, ↓frzK_s, ↓frzK_n, ↓frzK_c, ↓frzK_I, ↓hidK_n, ↓hidK_s, ↓unhK_n, ↓unhK_s, ↓subK_n, ↓subK_i, ↓subK_b, ↓subK_s, ↓subK_x, ↓putK_c, ↓putK_n, ↓optv_some, ↓optl_some, ↓alone_none, ↓isB_bl, ↓isI_int, ↓putE_some, ↓k_add, ↓k_sub, ↓k_mod, ↓k_div, ↓k_mulL, ↓k_mulR, ↓k_p18, ↓k_p15, ↓k_p14, ↓k_neg, ↓k_not, ↓k_lt, ↓k_le, ↓k_gt, ↓k_ge, ↓k_eq, ↓k_ne, ↓k_lenC, ↓k_lenI, ↓k_lenT, ↓k_int, ↓k_max, ↓k_min, ↓k_isII, ↓k_isBI, ↓k_ix0, ↓k_ix1, ↓k_ix2, ↓k_set0, ↓k_set2, ↓k_auga, ↓k_augs, ↓k_eqL0, ↓k_neL0, ↓m_popI, ↓m_appI, ↓mutK_some, ↓k_rev, ↓k_sum, ↓k_ixZ, ↓k_listI, ↓walkI, ↓k_eqB, ↓k_neB, ↓k_intB, ↓k_isBB, ↓k_isIB, ↓k_isS, ↓k_eqLI, ↓k_neLI, ↓rng_one, ↓if_l0, ↓if_l1, ↓if_l2, ↓if_l3, ↓if_l4, ↓if_l5, ↓if_l6, ↓if_l7, ↓if_l8, ↓k_ixT0, ↓k_ixT1, ↓k_ixT2, ↓k_ixT3, ↓walkFI, ↓zipI, ↓p_comp2, ↓k_repI, ↓subK_I, ↓k_eqQt, ↓k_eqQf, ↓k_neQt, ↓k_neQf, ↓ki0, ↓ki1, ↓ki2, ↓ki3, ↓ki4, ↓ki5, ↓ki6, ↓ki7, ↓ki8, ↓ki9, ↓ki10, ↓ki11, ↓ki12, ↓ki13, ↓ki14, ↓ki15, ↓ki16, ↓ki17, ↓ki18, ↓ki19, ↓ki20, ↓ki21, ↓ki22, ↓ki23, ↓ki24, ↓ki25, ↓ki26, ↓ki27, ↓ki28, ↓ki29, ↓ki30, ↓ki31, ↓ki32, ↓ki33, ↓ki34, ↓ki35, ↓q_gs, ↓k_len1, ↓k_in1, ↓frzK_d, ↓frzK_dT, ↓frzK_dL, ↓rootK_d, ↓rootK_dL, ↓subK_d, ↓subK_dL, ↓k_ixTr0, ↓k_ixTr1, ↓k_lenTr, ↓k_tupTr, ↓walk_dL, ↓k_lendL, ↓q_mut1, ↓evI_rg3, ↓frzK_nd, ↓reduceIte, fnEnd_ret, fnEnd_nxt, fnEnd_exc, isOwn_t, List.map_cons, List.map_nil, List.cons_append, List.nil_append, List.append_nil, List.replicate_succ, List.replicate_zero, List.getD_cons_zero, List.getD_cons_succ, Bool.not_true, Bool.not_false, decide_true, decide_false, decide_eq_true_eq, decide_eq_false_iff_not, Bool.false_eq_true, Nat.zero_add, Nat.reduceAdd, Int.reduceEq, Int.reduceLT, Int.reduceLE, Nat.reduceEqDiff, reduceCtorEq, eq_self, not_true_eq_false, not_false_eq_true]
  refine wp_callT (c_need k t h hs) ?_
  rintro r o ⟨rfl, rfl⟩
  simp (disch := first | omega | assumption | decide) only [↓q_pk, ↓q_fz, ↓q_mv, ↓q_ci, ↓q_cb, ↓q_cn, ↓q_cs, ↓q_gi, ↓evF_op1, ↓q_op2, ↓q_cmp, ↓q_bc2, ↓evF_bc1, ↓evF_rev, ↓q_isi, ↓q_idx, ↓evF_chn, ↓evF_boo, ↓q_slc, ↓evF_tup, ↓evF_lst, ↓q_frz, ↓p_call, ↓q_xn, ↓q_xv, ↓q_xi, ↓p_comp1, ↓r_mut0, ↓if_own, ↓evB_nil, ↓evB_cons, ↓evS_nil, ↓evS_cons, ↓evOp_none, ↓evOp_some, ↓evP_nil, ↓evP_ix, ↓evI_seq, ↓evI_rg1, ↓evI_rg2, ↓evI_enu, ↓evI_zip, ↓runS_nil, ↓runS_cons, ↓q_asg, ↓run1_unp, ↓q_sti0, ↓q_aug, ↓run1_aui, ↓run1_exp, ↓run1_ife, ↓p_for, ↓p_whl, ↓run1_ret, ↓run1_retn, ↓run1_pas, ↓run1_rai, ↓evO_def, ↓evT_def, ↓getv0, ↓getvS, ↓setK0, ↓setKS, ↓getO0, ↓getOS, ↓rootK_i, ↓rootK_b, ↓rootK_s, ↓rootK_n, ↓rootK_c, ↓rootK_o, ↓rootK_I, ↓frzK_i, ↓frzK_b, ↓frzK_s, ↓frzK_n, ↓frzK_c, ↓frzK_I, ↓hidK_n, ↓hidK_s, ↓unhK_n, ↓unhK_s, ↓subK_n, ↓subK_i, ↓subK_b, ↓subK_s, ↓subK_x, ↓putK_c, ↓putK_n, ↓optv_some, ↓optl_some, ↓alone_none, ↓isB_bl, ↓isI_int, ↓putE_some, ↓k_add, ↓k_sub, ↓k_mod, ↓k_div, ↓k_mulL, ↓k_mulR, ↓k_p18, ↓k_p15, ↓k_p14, ↓k_neg, ↓k_not, ↓k_lt, ↓k_le, ↓k_gt, ↓k_ge, ↓k_eq, ↓k_ne, ↓k_lenC, ↓k_lenI, ↓k_lenT, ↓k_int, ↓k_max, ↓k_min, ↓k_isII, ↓k_isBI, ↓k_ix0, ↓k_ix1, ↓k_ix2, ↓k_set0, ↓k_set2, ↓k_auga, ↓k_augs, ↓k_eqL0, ↓k_neL0, ↓m_popI, ↓m_appI, ↓mutK_some, ↓k_rev, ↓k_sum, ↓k_ixZ, ↓k_listI, ↓walkI, ↓k_eqB, ↓k_neB, ↓k_intB, ↓k_isBB, ↓k_isIB, ↓k_isS, ↓k_eqLI, ↓k_neLI, ↓rng_one, ↓if_l0, ↓if_l1, ↓if_l2, ↓if_l3, ↓if_l4, ↓if_l5, ↓if_l6, ↓if_l7, ↓if_l8, ↓k_ixT0, ↓k_ixT1, ↓k_ixT2, ↓k_ixT3, ↓walkFI, ↓zipI, ↓p_comp2, ↓k_repI, ↓subK_I, ↓k_eqQt, ↓k_eqQf, ↓k_neQt, ↓k_neQf, ↓ki0, ↓ki1, ↓ki2, ↓ki3, ↓ki4, ↓ki5, ↓ki6, ↓ki7, ↓ki8, ↓ki9, ↓ki10, ↓ki11, ↓ki12, ↓ki13, ↓ki14, ↓ki15, ↓ki16, ↓ki17, ↓ki18, ↓ki19, ↓ki20, ↓ki21, ↓ki22, ↓ki23, ↓ki24, ↓ki25, ↓ki26, ↓ki27, ↓ki28, ↓ki29, ↓ki30, ↓ki31, ↓ki32, ↓ki33, ↓ki34, ↓ki35, ↓q_gs, ↓k_len1, ↓k_in1, ↓frzK_d, ↓frzK_dT, ↓frzK_dL, ↓rootK_d, ↓rootK_dL, ↓subK_d, ↓subK_dL, ↓k_ixTr0, ↓k_ixTr1, ↓k_lenTr, ↓k_tupTr, ↓walk_dL, ↓k_lendL, ↓q_mut1, ↓evI_rg3, ↓frzK_nd, ↓reduceIte, fnEnd_ret, fnEnd_nxt, fnEnd_exc, isOwn_t, List.map_cons, List.map_nil, List.cons_append, List.nil_append, List.append_nil, List.replicate_succ, List.replicate_zero, List.getD_cons_zero, List.getD_cons_succ, Bool.not_true, Bool.not_false, decide_true, decide_false, decide_eq_true_eq, decide_eq_false_iff_not, Bool.false_eq_true, Nat.zero_add, Nat.reduceAdd, Int.reduceEq, Int.reduceLT, Int.reduceLE, Nat.reduceEqDiff, reduceCtorEq, eq_self, not_true_eq_false, not_false_eq_true]
  refine wp_callT (c_countp (k + 2) t h hs) ?_
  rintro r o ⟨rfl, rfl⟩
  simp (disch := first | omega | assumption | decide) only [↓q_pk, ↓q_fz, ↓q_mv, ↓q_ci, ↓q_cb, ↓q_cn, ↓q_cs, ↓q_gi, ↓evF_op1, ↓q_op2, ↓q_cmp, ↓q_bc2, ↓evF_bc1, ↓evF_rev, ↓q_isi, ↓q_idx, ↓evF_chn, ↓evF_boo, ↓q_slc, ↓evF_tup, ↓evF_lst, ↓q_frz, ↓p_call, ↓q_xn, ↓q_xv, ↓q_xi, ↓p_comp1, ↓r_mut0, ↓if_own, ↓evB_nil, ↓evB_cons, ↓evS_nil, ↓evS_cons, ↓evOp_none, ↓evOp_some, ↓evP_nil, ↓evP_ix, ↓evI_seq, ↓evI_rg1, ↓evI_rg2, ↓evI_enu, ↓evI_zip, ↓runS_nil, ↓runS_cons, ↓q_asg, ↓run1_unp, ↓q_sti0, ↓q_aug, ↓run1_aui, ↓run1_exp, ↓run1_ife, ↓p_for, ↓p_whl, ↓run1_ret, ↓run1_retn, ↓run1_pas, ↓run1_rai, ↓evO_def, ↓evT_def, ↓getv0, ↓getvS, ↓setK0, ↓setKS, ↓getO0, ↓getOS, ↓rootK_i, ↓rootK_b, ↓rootK_s, ↓rootK_n, ↓rootK_c, ↓rootK_o, ↓rootK_I, ↓frzK_i, ↓frzK_b, ↓frzK_s, ↓frzK_n, ↓frzK_c, ↓frzK_I, ↓hidK_n, ↓hidK_s, ↓unhK_n, ↓unhK_s, ↓subK_n, ↓subK_i, ↓subK_b, ↓subK_s, ↓subK_x, ↓putK_c, ↓putK_n, ↓optv_some, ↓optl_some, ↓alone_none, ↓isB_bl, ↓isI_int, ↓putE_some, ↓k_add, ↓k_sub, ↓k_mod, ↓k_div, ↓k_mulL, ↓k_mulR, ↓k_p18, ↓k_p15, ↓k_p14, ↓k_neg, ↓k_not, ↓k_lt, ↓k_le, ↓k_gt, ↓k_ge, ↓k_eq, ↓k_ne, ↓k_lenC, ↓k_lenI, ↓k_lenT, ↓k_int, ↓k_max, ↓k_min, ↓k_isII, ↓k_isBI, ↓k_ix0, ↓k_ix1, ↓k_ix2, ↓k_set0, ↓k_set2, ↓k_auga, ↓k_augs, ↓k_eqL0, ↓k_neL0, ↓m_popI, ↓m_appI, ↓mutK_some, ↓k_rev, ↓k_sum, ↓k_ixZ, ↓k_listI, ↓walkI, ↓k_eqB, ↓k_neB, ↓k_intB, ↓k_isBB, ↓k_isIB, ↓k_isS, ↓k_eqLI, ↓k_neLI, ↓rng_one, ↓if_l0, ↓if_l1, ↓if_l2, ↓if_l3, ↓if_l4, ↓if_l5, ↓if_l6, ↓if_l7, ↓if_l8, ↓k_ixT0, ↓k_ixT1, ↓k_ixT2, ↓k_ixT3, ↓walkFI, ↓zipI, ↓p_comp2, ↓k_repI, ↓subK_I, ↓k_eqQt, ↓k_eqQf, ↓k_neQt, ↓k_neQf, ↓ki0, ↓ki1, ↓ki2, ↓ki3, ↓ki4, ↓ki5, ↓ki6, ↓ki7, ↓ki8, ↓ki9, ↓ki10, ↓ki11, ↓ki12, ↓ki13, ↓ki14, ↓ki15, ↓ki16, ↓ki17, ↓ki18, ↓ki19, ↓ki20, ↓ki21, ↓ki22, ↓ki23, ↓ki24, ↓ki25, ↓ki26, ↓ki27, ↓ki28, ↓ki29, ↓ki30, ↓ki31, ↓ki32, ↓ki33, ↓ki34, ↓ki35, ↓q_gs, ↓k_len1, ↓k_in1, ↓frzK_d, ↓frzK_dT, ↓frzK_dL, ↓rootK_d, ↓rootK_dL, ↓subK_d, ↓subK_dL, ↓k_ixTr0, ↓k_ixTr1, ↓k_lenTr, ↓k_tupTr, ↓walk_dL, ↓k_lendL, ↓q_mut1, ↓evI_rg3, ↓frzK_nd, ↓reduceIte, fnEnd_ret, fnEnd_nxt, fnEnd_exc, isOwn_t, List.map_cons, List.map_nil, List.cons_append, List.nil_append, List.append_nil, List.replicate_succ, List.replicate_zero, List.getD_cons_zero, List.getD_cons_succ, Bool.not_true, Bool.not_false, decide_true, decide_false, decide_eq_true_eq, decide_eq_false_iff_not, Bool.false_eq_true, Nat.zero_add, Nat.reduceAdd, Int.reduceEq, Int.reduceLT, Int.reduceLE, Nat.reduceEqDiff, reduceCtorEq, eq_self, not_true_eq_false, not_false_eq_true]
  exact wp_ret ⟨rfl, rfl⟩
theorem c_cdepth (k : Nat) (t : Tr) (h : t.ok) (hs : t.size ≤ 16000000) : Gives (callF P (k + 2) "counted_depth" [] [t.d]) fun r o => r = .int t.depth ∧ o = [] := by
  refine gives_fn P_counted_depth rfl rfl ?_
  simp only [fn_counted_depth, List.map_cons, List.map_nil, List.cons_append, List.nil_append, List.append_nil, List.replicate_succ, List.replicate_zero, Nat.reduceSub, Nat.sub_self]
  simp (disch := first | omega | assumption | decide) only [↓q_pk, ↓q_fz, ↓q_mv, ↓q_ci, ↓q_cb, ↓q_cn, ↓q_cs, ↓q_gi, ↓evF_op1, ↓q_op2, ↓q_cmp, ↓q_bc2, ↓evF_bc1, ↓evF_rev, ↓q_isi, ↓q_idx, ↓evF_chn, ↓evF_boo, ↓q_slc, ↓evF_tup, ↓evF_lst, ↓q_frz, ↓p_call, ↓q_xn, ↓q_xv, ↓q_xi, ↓p_comp1, ↓r_mut0, ↓if_own, ↓evB_nil, ↓evB_cons, ↓evS_nil, ↓evS_cons, ↓evOp_none, ↓evOp_some, ↓evP_nil, ↓evP_ix, ↓evI_seq, ↓evI_rg1, ↓evI_rg2, ↓evI_enu, ↓evI_zip, ↓runS_nil, ↓runS_cons, ↓q_asg, ↓run1_unp, ↓q_sti0, ↓q_aug, ↓run1_aui, ↓run1_exp, ↓run1_ife, ↓p_for, ↓p_whl, ↓run1_ret, ↓run1_retn, ↓run1_pas, ↓run1_rai, ↓evO_def, ↓evT_def, ↓getv0, ↓getvS, ↓setK0, ↓setKS, ↓getO0, ↓getOS, ↓rootK_i, ↓rootK_b, ↓rootK_s, ↓rootK_n, ↓rootK_c, ↓rootK_o, ↓rootK_I, ↓frzK_i, ↓frzK_b, ↓frzK_s, ↓frzK_n, ↓frzK_c, ↓frzK_I, ↓hidK_n, ↓hidK_s, ↓unhK_n, ↓unhK_s, ↓subK_n, ↓subK_i, ↓subK_b, ↓subK_s, ↓subK_x, ↓putK_c, ↓putK_n, ↓optv_some, ↓optl_some, ↓alone_none, ↓isB_bl, ↓isI_int, ↓putE_some, ↓k_add, ↓k_sub, ↓k_mod, ↓k_div, ↓k_mulL, ↓k_mulR, ↓k_p18, ↓k_p15, ↓k_p14, ↓k_neg, ↓k_not, ↓k_lt, ↓k_le, ↓k_gt, ↓k_ge, ↓k_eq, ↓k_ne, ↓k_lenC, ↓k_lenI, ↓k_lenT, ↓k_int, ↓k_max, ↓k_min, ↓k_isII, ↓k_isBI, ↓k_ix0, ↓k_ix1, ↓k_ix2, ↓k_set0, ↓k_set2, ↓k_auga, ↓k_augs, ↓k_eqL0, ↓k_neL0, ↓m_popI, ↓m_appI, ↓mutK_some, ↓k_rev, ↓k_sum, ↓k_ixZ, ↓k_listI, ↓walkI, ↓k_eqB, ↓k_neB, ↓k_intB, ↓k_isBB, ↓k_isIB, ↓k_isS, ↓k_eqLI, ↓k_neLI, ↓rng_one, ↓if_l0, ↓if_l1, ↓if_l2, ↓if_l3, ↓if_l4, ↓if_l5, ↓if_l6, ↓if_l7, ↓if_l8, ↓k_ixT0, ↓k_ixT1, ↓k_ixT2, ↓k_ixT3, ↓walkFI, ↓zipI, ↓p_comp2, ↓k_repI, ↓subK_I, ↓k_eqQt, ↓k_eqQf, ↓k_neQt, ↓k_neQf, ↓ki0, ↓ki1, ↓ki2, ↓ki3, ↓ki4, ↓ki5, ↓ki6, ↓ki7, ↓ki8, ↓ki9, ↓ki10, ↓ki11, ↓ki12, ↓ki13, ↓ki14, ↓ki15, ↓ki16, ↓ki17, ↓ki18, ↓ki19, ↓ki20, ↓ki21, ↓ki22, ↓ki23, ↓ki24, ↓ki25, ↓ki26, ↓ki27, ↓ki28, ↓ki29, ↓ki30, ↓ki31, ↓ki32, ↓ki33, ↓ki34, ↓ki35, ↓q_gs, ↓k_len1, ↓k_in1, ↓frzK_d, ↓frzK_dT, ↓frzK_dL, ↓rootK_d, ↓rootK_dL, ↓subK_d, ↓subK_dL, ↓k_ixTr0, ↓k_ixTr1, ↓k_lenTr, ↓k_tupTr, ↓walk_dL, ↓k_lendL, ↓q_mut1, ↓evI_rg3, ↓frzK_nd, ↓reduceIte, fnEnd_ret, fnEnd_nxt, fnEnd_exc, isOwn_t, List.map_cons, List.map_nil, List.cons_append, List.nil_append, List.append_nil, List.replicate_succ, List.replicate_zero, List.getD_cons_zero, List.getD_cons_succ, Bool.not_true, Bool.not_false, decide_true, decide_false, decide_eq_true_eq, decide_eq_false_iff_not, Bool.false_eq_true, Nat.zero_add, Nat.reduceAdd, Int.reduceEq, Int.reduceLT, Int.reduceLE, Nat.reduceEqDiff, reduceCtorEq, eq_self, not_true_eq_false, not_false_eq_true]
  refine wp_callT (c_parts k t h hs) ?_
  rintro r o ⟨rfl, rfl⟩
  simp (disch := first | omega | assumption | decide) only [↓q_pk, ↓q_fz, ↓q_mv, ↓q_ci, ↓q_cb, ↓q_cn, ↓q_cs, ↓q_gi, ↓evF_op1, ↓q_op2, ↓q_cmp, ↓q_bc2, ↓evF_bc1, ↓evF_rev, ↓q_isi, ↓q_idx, ↓evF_chn, ↓evF_boo, ↓q_slc, ↓evF_tup, ↓evF_lst, ↓q_frz, ↓p_call, ↓q_xn, ↓q_xv, ↓q_xi, ↓p_comp1, ↓r_mut0, ↓if_own, ↓evB_nil, ↓evB_cons, ↓evS_nil, ↓evS_cons, ↓evOp_none, ↓evOp_some, ↓evP_nil, ↓evP_ix, ↓evI_seq, ↓evI_rg1, ↓evI_rg2, ↓evI_enu, ↓evI_zip, ↓runS_nil, ↓runS_cons, ↓q_asg, ↓run1_unp, ↓q_sti0, ↓q_aug, ↓run1_aui, ↓run1_exp, ↓run1_ife, ↓p_for, ↓p_whl, ↓run1_ret, ↓run1_retn, ↓run1_pas, ↓run1_rai, ↓evO_def, ↓evT_def, ↓getv0, ↓getvS, ↓setK0, ↓setKS, ↓getO0, ↓getOS, ↓rootK_i, ↓rootK_b, ↓rootK_s, ↓rootK_n, ↓rootK_c, ↓rootK_o, ↓rootK_I, ↓frzK_i, ↓frzK_b, ↓frzK_s, ↓frzK_n, ↓frzK_c, ↓frzK_I, ↓hidK_n, ↓hidK_s, ↓unhK_n, ↓unhK_s, ↓subK_n, ↓subK_i, ↓subK_b, ↓subK_s, ↓subK_x, ↓putK_c, ↓putK_n, ↓optv_some, ↓optl_some, ↓alone_none, ↓isB_bl, ↓isI_int, ↓putE_some, ↓k_add, ↓k_sub, ↓k_mod, ↓k_div, ↓k_mulL, ↓k_mulR, ↓k_p18, ↓k_p15, ↓k_p14, ↓k_neg, ↓k_not, ↓k_lt, ↓k_le, ↓k_gt, ↓k_ge, ↓k_eq, ↓k_ne, ↓k_lenC, ↓k_lenI, ↓k_lenT, ↓k_int, ↓k_max, ↓k_min, ↓k_isII, ↓k_isBI, ↓k_ix0, ↓k_ix1, ↓k_ix2, ↓k_set0, ↓k_set2, ↓k_auga, ↓k_augs, ↓k_eqL0, ↓k_neL0, ↓m_popI, ↓m_appI, ↓mutK_some, ↓k_rev, ↓k_sum, ↓k_ixZ, ↓k_listI, ↓walkI, ↓k_eqB, ↓k_neB, ↓k_intB, ↓k_isBB, ↓k_isIB, ↓k_isS, ↓k_eqLI, ↓k_neLI, ↓rng_one, ↓if_l0, ↓if_l1, ↓if_l2, ↓if_l3, ↓if_l4, ↓if_l5, ↓if_l6, ↓if_l7, ↓if_l8, ↓k_ixT0, ↓k_ixT1, ↓k_ixT2, ↓k_ixT3, ↓walkFI, ↓zipI, ↓p_comp2, ↓k_repI, ↓subK_I, ↓k_eqQt, ↓k_eqQf, ↓k_neQt, ↓k_neQf, ↓ki0, ↓ki1, ↓ki2, ↓ki3, ↓ki4, ↓ki5, ↓ki6, ↓ki7, ↓ki8, ↓ki9, ↓ki10, ↓ki11, ↓ki12, ↓ki13, ↓ki14, ↓ki15, ↓ki16, ↓ki17, ↓ki18, ↓ki19, ↓ki20, ↓ki21, ↓ki22, ↓ki23, ↓ki24, ↓ki25, ↓ki26, ↓ki27, ↓ki28, ↓ki29, ↓ki30, ↓ki31, ↓ki32, ↓ki33, ↓ki34, ↓ki35, ↓q_gs, ↓k_len1, ↓k_in1, ↓frzK_d, ↓frzK_dT, ↓frzK_dL, ↓rootK_d, ↓rootK_dL, ↓subK_d, ↓subK_dL, ↓k_ixTr0, ↓k_ixTr1, ↓k_lenTr, ↓k_tupTr, ↓walk_dL, ↓k_lendL, ↓q_mut1, ↓evI_rg3, ↓frzK_nd, ↓reduceIte, fnEnd_ret, fnEnd_nxt, fnEnd_exc, isOwn_t, List.map_cons, List.map_nil, List.cons_append, List.nil_append, List.append_nil, List.replicate_succ, List.replicate_zero, List.getD_cons_zero, List.getD_cons_succ, Bool.not_true, Bool.not_false, decide_true, decide_false, decide_eq_true_eq, decide_eq_false_iff_not, Bool.false_eq_true, Nat.zero_add, Nat.reduceAdd, Int.reduceEq, Int.reduceLT, Int.reduceLE, Nat.reduceEqDiff, reduceCtorEq, eq_self, not_true_eq_false, not_false_eq_true]
  refine wp_postT (fun t : Tr => (t.depth : Int)) (fun _ => True) (fun n stk e => stk.length ≤ n ∧ ∃ o2 o3, e = [some t.d, some (.lst true (stk.map .int)), o2, o3]) (fun _ _ _ _ => trivial) trivial ⟨Nat.le_refl 0, none, none, rfl⟩ ?_ ?_
  · rintro u n stk e - hn ⟨hl, o2, o3, rfl⟩
    refine ⟨_, rfl, fun K' hK => ?_⟩
    simp only [List.set_cons_succ, List.set_cons_zero]
    rw [List.length_append, List.length_map] at hl
    have hat : ((stk ++ u.cs.map fun t : Tr => (t.depth : Int)).length : Int) - (u.cs.length : Int) = ((stk.length : Nat) : Int) := by
      rw [List.length_append, List.length_map]
      omega
    have h1 : ∀ kk : D → Fl, optv (slcD (.lst true ((stk ++ u.cs.map fun t : Tr => (t.depth : Int)).map .int)) none (some ((stk.length : Nat) : Int))) kk = kk (.lst true (stk.map .int)) := fun kk => by
      rw [k_slcHi (froL_ints _), ← List.map_take, List.take_left]
    have h2 : ∀ kk : D → Fl, optv (slcD (.lst true ((stk ++ u.cs.map fun t : Tr => (t.depth : Int)).map .int)) (some ((stk.length : Nat) : Int)) none) kk = kk (.lst true ((u.cs.map fun t : Tr => (t.depth : Int)).map .int)) := fun kk => by
      rw [k_slcLo (froL_ints _), ← List.map_drop, List.drop_left]
    have h3 : ∀ kk : D → Fl, optv (op2D .add (.lst true [.int 0]) (.lst true ((u.cs.map fun t : Tr => (t.depth : Int)).map .int))) kk = kk (.lst true (((0 : Int) :: (u.cs.map fun t : Tr => (t.depth : Int))).map .int)) := fun kk => by
      have := addI (o := true) (o' := true) (k := kk) (ns := [0]) (ms := u.cs.map fun t : Tr => (t.depth : Int)) (by rw [List.length_map, List.length_singleton]; omega)
      exact this
    have h4 : ∀ kk : D → Fl, optv (b1D .max (.lst true (((0 : Int) :: (u.cs.map fun t : Tr => (t.depth : Int))).map .int))) kk = kk (.int (depthL u.cs)) := fun kk => by
      have h := foldl_max u.cs 0
      rw [Nat.zero_max] at h
      rw [maxL_cons]
      exact congrArg (fun x => kk (.int x)) h
    have h5 : ∀ kk : D → Fl, optv (op2D .add (.lst true (stk.map .int)) (.lst true [.int (1 + (depthL u.cs : Int))])) kk = kk (.lst true ((stk ++ [(u.depth : Int)]).map .int)) := fun kk => by
      have e1 : (1 + (depthL u.cs : Int)) = (u.depth : Int) := by
        obtain ⟨l, cs⟩ := u
        rw [Tr.depth]
        show 1 + (depthL cs : Int) = _
        omega
      rw [e1]
      exact addI (ns := stk) (ms := [(u.depth : Int)]) (by rw [List.length_singleton]; omega)
    simp (disch := first | omega | assumption | decide) only [↓q_pk, ↓q_fz, ↓q_mv, ↓q_ci, ↓q_cb, ↓q_cn, ↓q_cs, ↓q_gi, ↓evF_op1, ↓q_op2, ↓q_cmp, ↓q_bc2, ↓evF_bc1, ↓evF_rev, ↓q_isi, ↓q_idx, ↓evF_chn, ↓evF_boo, ↓q_slc, ↓evF_tup, ↓evF_lst, ↓q_frz, ↓p_call, ↓q_xn, ↓q_xv, ↓q_xi, ↓p_comp1, ↓r_mut0, ↓if_own, ↓evB_nil, ↓evB_cons, ↓evS_nil, ↓evS_cons, ↓evOp_none, ↓evOp_some, ↓evP_nil, ↓evP_ix, ↓evI_seq, ↓evI_rg1, ↓evI_rg2, ↓evI_enu, ↓evI_zip, ↓runS_nil, ↓runS_cons, ↓q_asg, ↓run1_unp, ↓q_sti0, ↓q_aug, ↓run1_aui, ↓run1_exp, ↓run1_ife, ↓p_for, ↓p_whl, ↓run1_ret, ↓run1_retn, ↓run1_pas, ↓run1_rai, ↓evO_def, ↓evT_def, ↓getv0, ↓getvS, ↓setK0, ↓setKS, ↓getO0, ↓getOS, ↓rootK_i, ↓rootK_b, ↓rootK_s, ↓rootK_n, ↓rootK_c, ↓rootK_o, ↓rootK_I, ↓frzK_i, ↓frzK_b, ↓frzK_s, ↓frzK_n, ↓frzK_c, ↓frzK_I, ↓hidK_n, ↓hidK_s, ↓unhK_n, ↓unhK_s, ↓subK_n, ↓subK_i, ↓subK_b, ↓subK_s, ↓subK_x, ↓putK_c, ↓putK_n, ↓optv_some, ↓optl_some, ↓alone_none, ↓isB_bl, ↓isI_int, ↓putE_some, ↓k_add, ↓k_sub, ↓k_mod, ↓k_div, ↓k_mulL, ↓k_mulR, ↓k_p18, ↓k_p15, ↓k_p14, ↓k_neg, ↓k_not, ↓k_lt, ↓k_le, ↓k_gt, ↓k_ge, ↓k_eq, ↓k_ne, ↓k_lenC, ↓k_lenI, ↓k_lenT, ↓k_int, ↓k_max, ↓k_min, ↓k_isII, ↓k_isBI, ↓k_ix0, ↓k_ix1, ↓k_ix2, ↓k_set0, ↓k_set2, ↓k_auga, ↓k_augs, ↓k_eqL0, ↓k_neL0, ↓m_popI, ↓m_appI, ↓mutK_some, ↓k_rev, ↓k_sum, ↓k_ixZ, ↓k_listI, ↓walkI, ↓k_eqB, ↓k_neB, ↓k_intB, ↓k_isBB, ↓k_isIB, ↓k_isS, ↓k_eqLI, ↓k_neLI, ↓rng_one, ↓if_l0, ↓if_l1, ↓if_l2, ↓if_l3, ↓if_l4, ↓if_l5, ↓if_l6, ↓if_l7, ↓if_l8, ↓k_ixT0, ↓k_ixT1, ↓k_ixT2, ↓k_ixT3, ↓walkFI, ↓zipI, ↓p_comp2, ↓k_repI, ↓subK_I, ↓k_eqQt, ↓k_eqQf, ↓k_neQt, ↓k_neQf, ↓ki0, ↓ki1, ↓ki2, ↓ki3, ↓ki4, ↓ki5, ↓ki6, ↓ki7, ↓ki8, ↓ki9, ↓ki10, ↓ki11, ↓ki12, ↓ki13, ↓ki14, ↓ki15, ↓ki16, ↓ki17, ↓ki18, ↓ki19, ↓ki20, ↓ki21, ↓ki22, ↓ki23, ↓ki24, ↓ki25, ↓ki26, ↓ki27, ↓ki28, ↓ki29, ↓ki30, ↓ki31, ↓ki32, ↓ki33, ↓ki34, ↓ki35, ↓q_gs, ↓k_len1, ↓k_in1, ↓frzK_d, ↓frzK_dT, ↓frzK_dL, ↓rootK_d, ↓rootK_dL, ↓subK_d, ↓subK_dL, ↓k_ixTr0, ↓k_ixTr1, ↓k_lenTr, ↓k_tupTr, ↓walk_dL, ↓k_lendL, ↓q_mut1, ↓evI_rg3, ↓frzK_nd, ↓reduceIte, fnEnd_ret, fnEnd_nxt, fnEnd_exc, isOwn_t, List.map_cons, List.map_nil, List.cons_append, List.nil_append, List.append_nil, List.replicate_succ, List.replicate_zero, List.getD_cons_zero, List.getD_cons_succ, Bool.not_true, Bool.not_false, decide_true, decide_false, decide_eq_true_eq, decide_eq_false_iff_not, Bool.false_eq_true, Nat.zero_add, Nat.reduceAdd, Int.reduceEq, Int.reduceLT, Int.reduceLE, Nat.reduceEqDiff, reduceCtorEq, eq_self, not_true_eq_false, not_false_eq_true, hat, ↓h1, ↓h2, ↓h3, ↓h4, ↓h5]
    exact hK _ ⟨by rw [List.length_append, List.length_singleton]; omega, _, _, rfl⟩
  · rintro e ⟨-, o2, o3, rfl⟩
    simp (disch := first | omega | assumption | decide) only [↓q_pk, ↓q_fz, ↓q_mv, ↓q_ci, ↓q_cb, ↓q_cn, ↓q_cs, ↓q_gi, ↓evF_op1, ↓q_op2, ↓q_cmp, ↓q_bc2, ↓evF_bc1, ↓evF_rev, ↓q_isi, ↓q_idx, ↓evF_chn, ↓evF_boo, ↓q_slc, ↓evF_tup, ↓evF_lst, ↓q_frz, ↓p_call, ↓q_xn, ↓q_xv, ↓q_xi, ↓p_comp1, ↓r_mut0, ↓if_own, ↓evB_nil, ↓evB_cons, ↓evS_nil, ↓evS_cons, ↓evOp_none, ↓evOp_some, ↓evP_nil, ↓evP_ix, ↓evI_seq, ↓evI_rg1, ↓evI_rg2, ↓evI_enu, ↓evI_zip, ↓runS_nil, ↓runS_cons, ↓q_asg, ↓run1_unp, ↓q_sti0, ↓q_aug, ↓run1_aui, ↓run1_exp, ↓run1_ife, ↓p_for, ↓p_whl, ↓run1_ret, ↓run1_retn, ↓run1_pas, ↓run1_rai, ↓evO_def, ↓evT_def, ↓getv0, ↓getvS, ↓setK0, ↓setKS, ↓getO0, ↓getOS, ↓rootK_i, ↓rootK_b, ↓rootK_s, ↓rootK_n, ↓rootK_c, ↓rootK_o, ↓rootK_I, ↓frzK_i, ↓frzK_b, ↓frzK_s, ↓frzK_n, ↓frzK_c, ↓frzK_I, ↓hidK_n, ↓hidK_s, ↓unhK_n, ↓unhK_s, ↓subK_n, ↓subK_i, ↓subK_b, ↓subK_s, ↓subK_x, ↓putK_c, ↓putK_n, ↓optv_some, ↓optl_some, ↓alone_none, ↓isB_bl, ↓isI_int, ↓putE_some, ↓k_add, ↓k_sub, ↓k_mod, ↓k_div, ↓k_mulL, ↓k_mulR, ↓k_p18, ↓k_p15, ↓k_p14, ↓k_neg, ↓k_not, ↓k_lt, ↓k_le, ↓k_gt, ↓k_ge, ↓k_eq, ↓k_ne, ↓k_lenC, ↓k_lenI, ↓k_lenT, ↓k_int, ↓k_max, ↓k_min, ↓k_isII, ↓k_isBI, ↓k_ix0, ↓k_ix1, ↓k_ix2, ↓k_set0, ↓k_set2, ↓k_auga, ↓k_augs, ↓k_eqL0, ↓k_neL0, ↓m_popI, ↓m_appI, ↓mutK_some, ↓k_rev, ↓k_sum, ↓k_ixZ, ↓k_listI, ↓walkI, ↓k_eqB, ↓k_neB, ↓k_intB, ↓k_isBB, ↓k_isIB, ↓k_isS, ↓k_eqLI, ↓k_neLI, ↓rng_one, ↓if_l0, ↓if_l1, ↓if_l2, ↓if_l3, ↓if_l4, ↓if_l5, ↓if_l6, ↓if_l7, ↓if_l8, ↓k_ixT0, ↓k_ixT1, ↓k_ixT2, ↓k_ixT3, ↓walkFI, ↓zipI, ↓p_comp2, ↓k_repI, ↓subK_I, ↓k_eqQt, ↓k_eqQf, ↓k_neQt, ↓k_neQf, ↓ki0, ↓ki1, ↓ki2, ↓ki3, ↓ki4, ↓ki5, ↓ki6, ↓ki7, ↓ki8, ↓ki9, ↓ki10, ↓ki11, ↓ki12, ↓ki13, ↓ki14, ↓ki15, ↓ki16, ↓ki17, ↓ki18, ↓ki19, ↓ki20, ↓ki21, ↓ki22, ↓ki23, ↓ki24, ↓ki25, ↓ki26, ↓ki27, ↓ki28, ↓ki29, ↓ki30, ↓ki31, ↓ki32, ↓ki33, ↓ki34, ↓ki35, ↓q_gs, ↓k_len1, ↓k_in1, ↓frzK_d, ↓frzK_dT, ↓frzK_dL, ↓rootK_d, ↓rootK_dL, ↓subK_d, ↓subK_dL, ↓k_ixTr0, ↓k_ixTr1, ↓k_lenTr, ↓k_tupTr, ↓walk_dL, ↓k_lendL, ↓q_mut1, ↓evI_rg3, ↓frzK_nd, ↓reduceIte, fnEnd_ret, fnEnd_nxt, fnEnd_exc, isOwn_t, List.map_cons, List.map_nil, List.cons_append, List.nil_append, List.append_nil, List.replicate_succ, List.replicate_zero, List.getD_cons_zero, List.getD_cons_succ, Bool.not_true, Bool.not_false, decide_true, decide_false, decide_eq_true_eq, decide_eq_false_iff_not, Bool.false_eq_true, Nat.zero_add, Nat.reduceAdd, Int.reduceEq, Int.reduceLT, Int.reduceLE, Nat.reduceEqDiff, reduceCtorEq, eq_self, not_true_eq_false, not_false_eq_true]
    exact wp_ret ⟨rfl, rfl⟩
theorem c_depth (k : Nat) (t : Tr) (h : t.ok) (hs : t.size ≤ 16000000) : Gives (callF P (k + 5) "depth_of" [] [t.d]) fun r o => r = .int t.depth ∧ o = [] := by
  refine gives_fn P_depth_of rfl rfl ?_
  simp only [fn_depth_of, List.map_cons, List.map_nil, List.cons_append, List.nil_append, List.append_nil, List.replicate_succ, List.replicate_zero, Nat.reduceSub, Nat.sub_self]
  simp (disch := first | omega | assumption | decide) only [↓q_pk, ↓q_fz, ↓q_mv, ↓q_ci, ↓q_cb, ↓q_cn, ↓q_cs, ↓q_gi, ↓evF_op1, ↓q_op2, ↓q_cmp, ↓q_bc2, ↓evF_bc1, ↓evF_rev, ↓q_isi, ↓q_idx, ↓evF_chn, ↓evF_boo, ↓q_slc, ↓evF_tup, ↓evF_lst, ↓q_frz, ↓p_call, ↓q_xn, ↓q_xv, ↓q_xi, ↓p_comp1, ↓r_mut0, ↓if_own, ↓evB_nil, ↓evB_cons, ↓evS_nil, ↓evS_cons, ↓evOp_none, ↓evOp_some, ↓evP_nil, ↓evP_ix, ↓evI_seq, ↓evI_rg1, ↓evI_rg2, ↓evI_enu, ↓evI_zip, ↓runS_nil, ↓runS_cons, ↓q_asg, ↓run1_unp, ↓q_sti0, ↓q_aug, ↓run1_aui, ↓run1_exp, ↓run1_ife, ↓p_for, ↓p_whl, ↓run1_ret, ↓run1_retn, ↓run1_pas, ↓run1_rai, ↓evO_def, ↓evT_def, ↓getv0, ↓getvS, ↓setK0, ↓setKS, ↓getO0, ↓getOS, ↓rootK_i, ↓rootK_b, ↓rootK_s, ↓rootK_n, ↓rootK_c, ↓rootK_o, ↓rootK_I, ↓frzK_i, ↓frzK_b, ↓frzK_s, ↓frzK_n, ↓frzK_c, ↓frzK_I, ↓hidK_n, ↓hidK_s, ↓unhK_n, ↓unhK_s, ↓subK_n, ↓subK_i, ↓subK_b, ↓subK_s, ↓subK_x, ↓putK_c, ↓putK_n, ↓optv_some, ↓optl_some, ↓alone_none, ↓isB_bl, ↓isI_int, ↓putE_some, ↓k_add, ↓k_sub, ↓k_mod, ↓k_div, ↓k_mulL, ↓k_mulR, ↓k_p18, ↓k_p15, ↓k_p14, ↓k_neg, ↓k_not, ↓k_lt, ↓k_le, ↓k_gt, ↓k_ge, ↓k_eq, ↓k_ne, ↓k_lenC, ↓k_lenI, ↓k_lenT, ↓k_int, ↓k_max, ↓k_min, ↓k_isII, ↓k_isBI, ↓k_ix0, ↓k_ix1, ↓k_ix2, ↓k_set0, ↓k_set2, ↓k_auga, ↓k_augs, ↓k_eqL0, ↓k_neL0, ↓m_popI, ↓m_appI, ↓mutK_some, ↓k_rev, ↓k_sum, ↓k_ixZ, ↓k_listI, ↓walkI, ↓k_eqB, ↓k_neB, ↓k_intB, ↓k_isBB, ↓k_isIB, ↓k_isS, ↓k_eqLI, ↓k_neLI, ↓rng_one, ↓if_l0, ↓if_l1, ↓if_l2, ↓if_l3, ↓if_l4, ↓if_l5, ↓if_l6, ↓if_l7, ↓if_l8, ↓k_ixT0, ↓k_ixT1, ↓k_ixT2, ↓k_ixT3, ↓walkFI, ↓zipI, ↓p_comp2, ↓k_repI, ↓subK_I, ↓k_eqQt, ↓k_eqQf, ↓k_neQt, ↓k_neQf, ↓ki0, ↓ki1, ↓ki2, ↓ki3, ↓ki4, ↓ki5, ↓ki6, ↓ki7, ↓ki8, ↓ki9, ↓ki10, ↓ki11, ↓ki12, ↓ki13, ↓ki14, ↓ki15, ↓ki16, ↓ki17, ↓ki18, ↓ki19, ↓ki20, ↓ki21, ↓ki22, ↓ki23, ↓ki24, ↓ki25, ↓ki26, ↓ki27, ↓ki28, ↓ki29, ↓ki30, ↓ki31, ↓ki32, ↓ki33, ↓ki34, ↓ki35, ↓q_gs, ↓k_len1, ↓k_in1, ↓frzK_d, ↓frzK_dT, ↓frzK_dL, ↓rootK_d, ↓rootK_dL, ↓subK_d, ↓subK_dL, ↓k_ixTr0, ↓k_ixTr1, ↓k_lenTr, ↓k_tupTr, ↓walk_dL, ↓k_lendL, ↓q_mut1, ↓evI_rg3, ↓frzK_nd, ↓reduceIte, fnEnd_ret, fnEnd_nxt, fnEnd_exc, isOwn_t, List.map_cons, List.map_nil, List.cons_append, List.nil_append, List.append_nil, List.replicate_succ, List.replicate_zero, List.getD_cons_zero, List.getD_cons_succ, Bool.not_true, Bool.not_false, decide_true, decide_false, decide_eq_true_eq, decide_eq_false_iff_not, Bool.false_eq_true, Nat.zero_add, Nat.reduceAdd, Int.reduceEq, Int.reduceLT, Int.reduceLE, Nat.reduceEqDiff, reduceCtorEq, eq_self, not_true_eq_false, not_false_eq_true]
  refine wp_callT (c_need k t h hs) ?_
  rintro r o ⟨rfl, rfl⟩
  simp (disch := first | omega | assumption | decide) only [↓q_pk, ↓q_fz, ↓q_mv, ↓q_ci, ↓q_cb, ↓q_cn, ↓q_cs, ↓q_gi, ↓evF_op1, ↓q_op2, ↓q_cmp, ↓q_bc2, ↓evF_bc1, ↓evF_rev, ↓q_isi, ↓q_idx, ↓evF_chn, ↓evF_boo, ↓q_slc, ↓evF_tup, ↓evF_lst, ↓q_frz, ↓p_call, ↓q_xn, ↓q_xv, ↓q_xi, ↓p_comp1, ↓r_mut0, ↓if_own, ↓evB_nil, ↓evB_cons, ↓evS_nil, ↓evS_cons, ↓evOp_none, ↓evOp_some, ↓evP_nil, ↓evP_ix, ↓evI_seq, ↓evI_rg1, ↓evI_rg2, ↓evI_enu, ↓evI_zip, ↓runS_nil, ↓runS_cons, ↓q_asg, ↓run1_unp, ↓q_sti0, ↓q_aug, ↓run1_aui, ↓run1_exp, ↓run1_ife, ↓p_for, ↓p_whl, ↓run1_ret, ↓run1_retn, ↓run1_pas, ↓run1_rai, ↓evO_def, ↓evT_def, ↓getv0, ↓getvS, ↓setK0, ↓setKS, ↓getO0, ↓getOS, ↓rootK_i, ↓rootK_b, ↓rootK_s, ↓rootK_n, ↓rootK_c, ↓rootK_o, ↓rootK_I, ↓frzK_i, ↓frzK_b, ↓frzK_s, ↓frzK_n, ↓frzK_c, ↓frzK_I, ↓hidK_n, ↓hidK_s, ↓unhK_n, ↓unhK_s, ↓subK_n, ↓subK_i, ↓subK_b, ↓subK_s, ↓subK_x, ↓putK_c, ↓putK_n, ↓optv_some, ↓optl_some, ↓alone_none, ↓isB_bl, ↓isI_int, ↓putE_some, ↓k_add, ↓k_sub, ↓k_mod, ↓k_div, ↓k_mulL, ↓k_mulR, ↓k_p18, ↓k_p15, ↓k_p14, ↓k_neg, ↓k_not, ↓k_lt, ↓k_le, ↓k_gt, ↓k_ge, ↓k_eq, ↓k_ne, ↓k_lenC, ↓k_lenI, ↓k_lenT, ↓k_int, ↓k_max, ↓k_min, ↓k_isII, ↓k_isBI, ↓k_ix0, ↓k_ix1, ↓k_ix2, ↓k_set0, ↓k_set2, ↓k_auga, ↓k_augs, ↓k_eqL0, ↓k_neL0, ↓m_popI, ↓m_appI, ↓mutK_some, ↓k_rev, ↓k_sum, ↓k_ixZ, ↓k_listI, ↓walkI, ↓k_eqB, ↓k_neB, ↓k_intB, ↓k_isBB, ↓k_isIB, ↓k_isS, ↓k_eqLI, ↓k_neLI, ↓rng_one, ↓if_l0, ↓if_l1, ↓if_l2, ↓if_l3, ↓if_l4, ↓if_l5, ↓if_l6, ↓if_l7, ↓if_l8, ↓k_ixT0, ↓k_ixT1, ↓k_ixT2, ↓k_ixT3, ↓walkFI, ↓zipI, ↓p_comp2, ↓k_repI, ↓subK_I, ↓k_eqQt, ↓k_eqQf, ↓k_neQt, ↓k_neQf, ↓ki0, ↓ki1, ↓ki2, ↓ki3, ↓ki4, ↓ki5, ↓ki6, ↓ki7, ↓ki8, ↓ki9, ↓ki10, ↓ki11, ↓ki12, ↓ki13, ↓ki14, ↓ki15, ↓ki16, ↓ki17, ↓ki18, ↓ki19, ↓ki20, ↓ki21, ↓ki22, ↓ki23, ↓ki24, ↓ki25, ↓ki26, ↓ki27, ↓ki28, ↓ki29, ↓ki30, ↓ki31, ↓ki32, ↓ki33, ↓ki34, ↓ki35, ↓q_gs, ↓k_len1, ↓k_in1, ↓frzK_d, ↓frzK_dT, ↓frzK_dL, ↓rootK_d, ↓rootK_dL, ↓subK_d, ↓subK_dL, ↓k_ixTr0, ↓k_ixTr1, ↓k_lenTr, ↓k_tupTr, ↓walk_dL, ↓k_lendL, ↓q_mut1, ↓evI_rg3, ↓frzK_nd, ↓reduceIte, fnEnd_ret, fnEnd_nxt, fnEnd_exc, isOwn_t, List.map_cons, List.map_nil, List.cons_append, List.nil_append, List.append_nil, List.replicate_succ, List.replicate_zero, List.getD_cons_zero, List.getD_cons_succ, Bool.not_true, Bool.not_false, decide_true, decide_false, decide_eq_true_eq, decide_eq_false_iff_not, Bool.false_eq_true, Nat.zero_add, Nat.reduceAdd, Int.reduceEq, Int.reduceLT, Int.reduceLE, Nat.reduceEqDiff, reduceCtorEq, eq_self, not_true_eq_false, not_false_eq_true]
  refine wp_callT (c_cdepth (k + 2) t h hs) ?_
  rintro r o ⟨rfl, rfl⟩
  simp (disch := first | omega | assumption | decide) only [↓q_pk, ↓q_fz, ↓q_mv, ↓q_ci, ↓q_cb, ↓q_cn, ↓q_cs, ↓q_gi, ↓evF_op1, ↓q_op2, ↓q_cmp, ↓q_bc2, ↓evF_bc1, ↓evF_rev, ↓q_isi, ↓q_idx, ↓evF_chn, ↓evF_boo, ↓q_slc, ↓evF_tup, ↓evF_lst, ↓q_frz, ↓p_call, ↓q_xn, ↓q_xv, ↓q_xi, ↓p_comp1, ↓r_mut0, ↓if_own, ↓evB_nil, ↓evB_cons, ↓evS_nil, ↓evS_cons, ↓evOp_none, ↓evOp_some, ↓evP_nil, ↓evP_ix, ↓evI_seq, ↓evI_rg1, ↓evI_rg2, ↓evI_enu, ↓evI_zip, ↓runS_nil, ↓runS_cons, ↓q_asg, ↓run1_unp, ↓q_sti0, ↓q_aug, ↓run1_aui, ↓run1_exp, ↓run1_ife, ↓p_for, ↓p_whl, ↓run1_ret, ↓run1_retn, ↓run1_pas, ↓run1_rai, ↓evO_def, ↓evT_def, ↓getv0, ↓getvS, ↓setK0, ↓setKS, ↓getO0, ↓getOS, ↓rootK_i, ↓rootK_b, ↓rootK_s, ↓rootK_n, ↓rootK_c, ↓rootK_o, ↓rootK_I, ↓frzK_i, ↓frzK_b, ↓frzK_s, ↓frzK_n, ↓frzK_c, ↓frzK_I, ↓hidK_n, ↓hidK_s, ↓unhK_n, ↓unhK_s, ↓subK_n, ↓subK_i, ↓subK_b, ↓subK_s, ↓subK_x, ↓putK_c, ↓putK_n, ↓optv_some, ↓optl_some, ↓alone_none, ↓isB_bl, ↓isI_int, ↓putE_some, ↓k_add, ↓k_sub, ↓k_mod, ↓k_div, ↓k_mulL, ↓k_mulR, ↓k_p18, ↓k_p15, ↓k_p14, ↓k_neg, ↓k_not, ↓k_lt, ↓k_le, ↓k_gt, ↓k_ge, ↓k_eq, ↓k_ne, ↓k_lenC, ↓k_lenI, ↓k_lenT, ↓k_int, ↓k_max, ↓k_min, ↓k_isII, ↓k_isBI, ↓k_ix0, ↓k_ix1, ↓k_ix2, ↓k_set0, ↓k_set2, ↓k_auga, ↓k_augs, ↓k_eqL0, ↓k_neL0, ↓m_popI, ↓m_appI, ↓mutK_some, ↓k_rev, ↓k_sum, ↓k_ixZ, ↓k_listI, ↓walkI, ↓k_eqB, ↓k_neB, ↓k_intB, ↓k_isBB, ↓k_isIB, ↓k_isS, ↓k_eqLI, ↓k_neLI, ↓rng_one, ↓if_l0, ↓if_l1, ↓if_l2, ↓if_l3, ↓if_l4, ↓if_l5, ↓if_l6, ↓if_l7, ↓if_l8, ↓k_ixT0, ↓k_ixT1, ↓k_ixT2, ↓k_ixT3, ↓walkFI, ↓zipI, ↓p_comp2, ↓k_repI, ↓subK_I, ↓k_eqQt, ↓k_eqQf, ↓k_neQt, ↓k_neQf, ↓ki0, ↓ki1, ↓ki2, ↓ki3, ↓ki4, ↓ki5, ↓ki6, ↓ki7, ↓ki8, ↓ki9, ↓ki10, ↓ki11, ↓ki12, ↓ki13, ↓ki14, ↓ki15, ↓ki16, ↓ki17, ↓ki18, ↓ki19, ↓ki20, ↓ki21, ↓ki22, ↓ki23, ↓ki24, ↓ki25, ↓ki26, ↓ki27, ↓ki28, ↓ki29, ↓ki30, ↓ki31, ↓ki32, ↓ki33, ↓ki34, ↓ki35, ↓q_gs, ↓k_len1, ↓k_in1, ↓frzK_d, ↓frzK_dT, ↓frzK_dL, ↓rootK_d, ↓rootK_dL, ↓subK_d, ↓subK_dL, ↓k_ixTr0, ↓k_ixTr1, ↓k_lenTr, ↓k_tupTr, ↓walk_dL, ↓k_lendL, ↓q_mut1, ↓evI_rg3, ↓frzK_nd, ↓reduceIte, fnEnd_ret, fnEnd_nxt, fnEnd_exc, isOwn_t, List.map_cons, List.map_nil, List.cons_append, List.nil_append, List.append_nil, List.replicate_succ, List.replicate_zero, List.getD_cons_zero, List.getD_cons_succ, Bool.not_true, Bool.not_false, decide_true, decide_false, decide_eq_true_eq, decide_eq_false_iff_not, Bool.false_eq_true, Nat.zero_add, Nat.reduceAdd, Int.reduceEq, Int.reduceLT, Int.reduceLE, Nat.reduceEqDiff, reduceCtorEq, eq_self, not_true_eq_false, not_false_eq_true]
  exact wp_ret ⟨rfl, rfl⟩

end K02
end VI

set_option maxRecDepth 100000
set_option maxHeartbeats 4000000
namespace VI
namespace K02
theorem map_erase {α β : Type} (g : α → β) : ∀ (as : List α) (i : Nat), (as.map g).eraseIdx i = (as.eraseIdx i).map g
  | [], _ => rfl
  | _ :: _, 0 => rfl
  | a :: as, i + 1 => by
    rw [List.map_cons, List.eraseIdx_cons_succ, List.eraseIdx_cons_succ, List.map_cons, map_erase g as i]
theorem perm_erase {α : Type} : ∀ (as : List α) (i : Nat) (h : i < as.length), (as[i] :: as.eraseIdx i).Perm as
  | [], _, h => by simp at h
  | a :: as, 0, _ => List.Perm.refl _
  | a :: as, i + 1, h => (List.Perm.swap a (as[i]'(by simpa using h)) (as.eraseIdx i)).trans ((perm_erase as i (by simpa using h)).cons a)
theorem c_mixed {α : Type} (g : α → D) (hg : ∀ a, (g a).fro = true) (hp : ∀ a, (g a).plain = true) (k : Nat) (p : Pl) (m : Int) (as : List α) (hm : p.ok m) (hl : m + as.length ≤ 1000000) :
    Gives (callF P (k + 2) "_law_mixed_up" [0] [p.d, .lst false (as.map g)]) fun r o => ∃ (bs : List α) (p' : Pl), r = .lst true (bs.map g) ∧ bs.Perm as ∧ p'.ok (m + as.length) ∧ o = [some p'.d] := by
  have hgf : ∀ as : List α, froL (as.map g) = true := fun as => froL_map fun a _ => hg a
  have hgp : ∀ as : List α, plainL (as.map g) = true := fun as => by
    induction as with
    | nil => rfl
    | cons a as ih =>
      show ((g a).plain && plainL (as.map g)) = true
      rw [hp, ih]
      rfl
  refine gives_fn P__law_mixed_up rfl rfl ?_
  simp only [fn__law_mixed_up, List.map_cons, List.map_nil, List.cons_append, List.nil_append, List.append_nil, List.replicate_succ, List.replicate_zero, Nat.reduceSub, Nat.sub_self]
  simp (disch := first | omega | assumption | decide) only [↓q_pk, ↓q_fz, ↓q_mv, ↓q_ci, ↓q_cb, ↓q_cn, ↓q_cs, ↓q_gi, ↓evF_op1, ↓q_op2, ↓q_cmp, ↓q_bc2, ↓evF_bc1, ↓evF_rev, ↓q_isi, ↓q_idx, ↓evF_chn, ↓evF_boo, ↓q_slc, ↓evF_tup, ↓evF_lst, ↓q_frz, ↓p_call, ↓q_xn, ↓q_xv, ↓q_xi, ↓p_comp1, ↓r_mut0, ↓if_own, ↓evB_nil, ↓evB_cons, ↓evS_nil, ↓evS_cons, ↓evOp_none, ↓evOp_some, ↓evP_nil, ↓evP_ix, ↓evI_seq, ↓evI_rg1, ↓evI_rg2, ↓evI_enu, ↓evI_zip, ↓runS_nil, ↓runS_cons, ↓q_asg, ↓run1_unp, ↓q_sti0, ↓q_aug, ↓run1_aui, ↓run1_exp, ↓run1_ife, ↓p_for, ↓p_whl, ↓run1_ret, ↓run1_retn, ↓run1_pas, ↓run1_rai, ↓evO_def, ↓evT_def, ↓getv0, ↓getvS, ↓setK0, ↓setKS, ↓getO0, ↓getOS, ↓rootK_i, ↓rootK_b, ↓rootK_s, ↓rootK_n, ↓rootK_c, ↓rootK_o, ↓rootK_I, ↓frzK_i, ↓frzK_b, ↓frzK_s, ↓frzK_n, ↓frzK_c, ↓frzK_I, ↓hidK_n, ↓hidK_s, ↓unhK_n, ↓unhK_s, ↓subK_n, ↓subK_i, ↓subK_b, ↓subK_s, ↓subK_x, ↓putK_c, ↓putK_n, ↓optv_some, ↓optl_some, ↓alone_none, ↓isB_bl, ↓isI_int, ↓putE_some, ↓k_add, ↓k_sub, ↓k_mod, ↓k_div, ↓k_mulL, ↓k_mulR, ↓k_p18, ↓k_p15, ↓k_p14, ↓k_neg, ↓k_not, ↓k_lt, ↓k_le, ↓k_gt, ↓k_ge, ↓k_eq, ↓k_ne, ↓k_lenC, ↓k_lenI, ↓k_lenT, ↓k_int, ↓k_max, ↓k_min, ↓k_isII, ↓k_isBI, ↓k_ix0, ↓k_ix1, ↓k_ix2, ↓k_set0, ↓k_set2, ↓k_auga, ↓k_augs, ↓k_eqL0, ↓k_neL0, ↓m_popI, ↓m_appI, ↓mutK_some, ↓k_rev, ↓k_sum, ↓k_ixZ, ↓k_listI, ↓walkI, ↓k_eqB, ↓k_neB, ↓k_intB, ↓k_isBB, ↓k_isIB, ↓k_isS, ↓k_eqLI, ↓k_neLI, ↓rng_one, ↓if_l0, ↓if_l1, ↓if_l2, ↓if_l3, ↓if_l4, ↓if_l5, ↓if_l6, ↓if_l7, ↓if_l8, ↓k_ixT0, ↓k_ixT1, ↓k_ixT2, ↓k_ixT3, ↓walkFI, ↓zipI, ↓p_comp2, ↓k_repI, ↓subK_I, ↓k_eqQt, ↓k_eqQf, ↓k_neQt, ↓k_neQf, ↓ki0, ↓ki1, ↓ki2, ↓ki3, ↓ki4, ↓ki5, ↓ki6, ↓ki7, ↓ki8, ↓ki9, ↓ki10, ↓ki11, ↓ki12, ↓ki13, ↓ki14, ↓ki15, ↓ki16, ↓ki17, ↓ki18, ↓ki19, ↓ki20, ↓ki21, ↓ki22, ↓ki23, ↓ki24, ↓ki25, ↓ki26, ↓ki27, ↓ki28, ↓ki29, ↓ki30, ↓ki31, ↓ki32, ↓ki33, ↓ki34, ↓ki35, ↓q_gs, ↓k_len1, ↓k_in1, ↓frzK_d, ↓frzK_dT, ↓frzK_dL, ↓rootK_d, ↓rootK_dL, ↓subK_d, ↓subK_dL, ↓k_ixTr0, ↓k_ixTr1, ↓k_lenTr, ↓k_tupTr, ↓walk_dL, ↓k_lendL, ↓q_mut1, ↓evI_rg3, ↓frzK_nd, ↓reduceIte, fnEnd_ret, fnEnd_nxt, fnEnd_exc, isOwn_t, List.map_cons, List.map_nil, List.cons_append, List.nil_append, List.append_nil, List.replicate_succ, List.replicate_zero, List.getD_cons_zero, List.getD_cons_succ, Bool.not_true, Bool.not_false, decide_true, decide_false, decide_eq_true_eq, decide_eq_false_iff_not, Bool.false_eq_true, Nat.zero_add, Nat.reduceAdd, Int.reduceEq, Int.reduceLT, Int.reduceLE, Nat.reduceEqDiff, reduceCtorEq, eq_self, not_true_eq_false, not_false_eq_true, ↓k_listL (hgf as), ↓rootK_fr (hgf as)]
  refine wp_whlT (fun n e => ∃ (ls fs : List α) (q : Pl) (j : Int), e = [some q.d, some (.lst false (as.map g)), some (.lst true (ls.map g)), some (.lst true (fs.map g))] ∧ ls.length = n ∧ (fs ++ ls).Perm as ∧ q.ok j ∧ j + n ≤ m + as.length) as.length ⟨as, [], p, m, rfl, rfl, List.Perm.refl _, hm, Int.le_refl _⟩ ?_
  rintro n e ⟨ls, fs, q, j, rfl, hn, hpm, hq, hj⟩
  have hfl := hpm.length_eq
  rw [List.length_append] at hfl
  have hj0 : 0 ≤ j := Int.le_trans hq.1 hq.2
  have hm0 : 0 ≤ m := Int.le_trans hm.1 hm.2
  simp (disch := first | omega | assumption | decide) only [↓q_pk, ↓q_fz, ↓q_mv, ↓q_ci, ↓q_cb, ↓q_cn, ↓q_cs, ↓q_gi, ↓evF_op1, ↓q_op2, ↓q_cmp, ↓q_bc2, ↓evF_bc1, ↓evF_rev, ↓q_isi, ↓q_idx, ↓evF_chn, ↓evF_boo, ↓q_slc, ↓evF_tup, ↓evF_lst, ↓q_frz, ↓p_call, ↓q_xn, ↓q_xv, ↓q_xi, ↓p_comp1, ↓r_mut0, ↓if_own, ↓evB_nil, ↓evB_cons, ↓evS_nil, ↓evS_cons, ↓evOp_none, ↓evOp_some, ↓evP_nil, ↓evP_ix, ↓evI_seq, ↓evI_rg1, ↓evI_rg2, ↓evI_enu, ↓evI_zip, ↓runS_nil, ↓runS_cons, ↓q_asg, ↓run1_unp, ↓q_sti0, ↓q_aug, ↓run1_aui, ↓run1_exp, ↓run1_ife, ↓p_for, ↓p_whl, ↓run1_ret, ↓run1_retn, ↓run1_pas, ↓run1_rai, ↓evO_def, ↓evT_def, ↓getv0, ↓getvS, ↓setK0, ↓setKS, ↓getO0, ↓getOS, ↓rootK_i, ↓rootK_b, ↓rootK_s, ↓rootK_n, ↓rootK_c, ↓rootK_o, ↓rootK_I, ↓frzK_i, ↓frzK_b, ↓frzK_s, ↓frzK_n, ↓frzK_c, ↓frzK_I, ↓hidK_n, ↓hidK_s, ↓unhK_n, ↓unhK_s, ↓subK_n, ↓subK_i, ↓subK_b, ↓subK_s, ↓subK_x, ↓putK_c, ↓putK_n, ↓optv_some, ↓optl_some, ↓alone_none, ↓isB_bl, ↓isI_int, ↓putE_some, ↓k_add, ↓k_sub, ↓k_mod, ↓k_div, ↓k_mulL, ↓k_mulR, ↓k_p18, ↓k_p15, ↓k_p14, ↓k_neg, ↓k_not, ↓k_lt, ↓k_le, ↓k_gt, ↓k_ge, ↓k_eq, ↓k_ne, ↓k_lenC, ↓k_lenI, ↓k_lenT, ↓k_int, ↓k_max, ↓k_min, ↓k_isII, ↓k_isBI, ↓k_ix0, ↓k_ix1, ↓k_ix2, ↓k_set0, ↓k_set2, ↓k_auga, ↓k_augs, ↓k_eqL0, ↓k_neL0, ↓m_popI, ↓m_appI, ↓mutK_some, ↓k_rev, ↓k_sum, ↓k_ixZ, ↓k_listI, ↓walkI, ↓k_eqB, ↓k_neB, ↓k_intB, ↓k_isBB, ↓k_isIB, ↓k_isS, ↓k_eqLI, ↓k_neLI, ↓rng_one, ↓if_l0, ↓if_l1, ↓if_l2, ↓if_l3, ↓if_l4, ↓if_l5, ↓if_l6, ↓if_l7, ↓if_l8, ↓k_ixT0, ↓k_ixT1, ↓k_ixT2, ↓k_ixT3, ↓walkFI, ↓zipI, ↓p_comp2, ↓k_repI, ↓subK_I, ↓k_eqQt, ↓k_eqQf, ↓k_neQt, ↓k_neQf, ↓ki0, ↓ki1, ↓ki2, ↓ki3, ↓ki4, ↓ki5, ↓ki6, ↓ki7, ↓ki8, ↓ki9, ↓ki10, ↓ki11, ↓ki12, ↓ki13, ↓ki14, ↓ki15, ↓ki16, ↓ki17, ↓ki18, ↓ki19, ↓ki20, ↓ki21, ↓ki22, ↓ki23, ↓ki24, ↓ki25, ↓ki26, ↓ki27, ↓ki28, ↓ki29, ↓ki30, ↓ki31, ↓ki32, ↓ki33, ↓ki34, ↓ki35, ↓q_gs, ↓k_len1, ↓k_in1, ↓frzK_d, ↓frzK_dT, ↓frzK_dL, ↓rootK_d, ↓rootK_dL, ↓subK_d, ↓subK_dL, ↓k_ixTr0, ↓k_ixTr1, ↓k_lenTr, ↓k_tupTr, ↓walk_dL, ↓k_lendL, ↓q_mut1, ↓evI_rg3, ↓frzK_nd, ↓reduceIte, fnEnd_ret, fnEnd_nxt, fnEnd_exc, isOwn_t, List.map_cons, List.map_nil, List.cons_append, List.nil_append, List.append_nil, List.replicate_succ, List.replicate_zero, List.getD_cons_zero, List.getD_cons_succ, Bool.not_true, Bool.not_false, decide_true, decide_false, decide_eq_true_eq, decide_eq_false_iff_not, Bool.false_eq_true, Nat.zero_add, Nat.reduceAdd, Int.reduceEq, Int.reduceLT, Int.reduceLE, Nat.reduceEqDiff, reduceCtorEq, eq_self, not_true_eq_false, not_false_eq_true, ↓k_neNil (hgp ls)]
  refine wp_retP ⟨_, rfl, fun ht => ?_, fun ht => ?_⟩
  · have hls : ls = [] := by
      cases ls with
      | nil => rfl
      | cons _ _ => cases ht
    subst hls
    simp (disch := first | omega | assumption | decide) only [↓q_pk, ↓q_fz, ↓q_mv, ↓q_ci, ↓q_cb, ↓q_cn, ↓q_cs, ↓q_gi, ↓evF_op1, ↓q_op2, ↓q_cmp, ↓q_bc2, ↓evF_bc1, ↓evF_rev, ↓q_isi, ↓q_idx, ↓evF_chn, ↓evF_boo, ↓q_slc, ↓evF_tup, ↓evF_lst, ↓q_frz, ↓p_call, ↓q_xn, ↓q_xv, ↓q_xi, ↓p_comp1, ↓r_mut0, ↓if_own, ↓evB_nil, ↓evB_cons, ↓evS_nil, ↓evS_cons, ↓evOp_none, ↓evOp_some, ↓evP_nil, ↓evP_ix, ↓evI_seq, ↓evI_rg1, ↓evI_rg2, ↓evI_enu, ↓evI_zip, ↓runS_nil, ↓runS_cons, ↓q_asg, ↓run1_unp, ↓q_sti0, ↓q_aug, ↓run1_aui, ↓run1_exp, ↓run1_ife, ↓p_for, ↓p_whl, ↓run1_ret, ↓run1_retn, ↓run1_pas, ↓run1_rai, ↓evO_def, ↓evT_def, ↓getv0, ↓getvS, ↓setK0, ↓setKS, ↓getO0, ↓getOS, ↓rootK_i, ↓rootK_b, ↓rootK_s, ↓rootK_n, ↓rootK_c, ↓rootK_o, ↓rootK_I, ↓frzK_i, ↓frzK_b, ↓frzK_s, ↓frzK_n, ↓frzK_c, ↓frzK_I, ↓hidK_n, ↓hidK_s, ↓unhK_n, ↓unhK_s, ↓subK_n, ↓subK_i, ↓subK_b, ↓subK_s, ↓subK_x, ↓putK_c, ↓putK_n, ↓optv_some, ↓optl_some, ↓alone_none, ↓isB_bl, ↓isI_int, ↓putE_some, ↓k_add, ↓k_sub, ↓k_mod, ↓k_div, ↓k_mulL, ↓k_mulR, ↓k_p18, ↓k_p15, ↓k_p14, ↓k_neg, ↓k_not, ↓k_lt, ↓k_le, ↓k_gt, ↓k_ge, ↓k_eq, ↓k_ne, ↓k_lenC, ↓k_lenI, ↓k_lenT, ↓k_int, ↓k_max, ↓k_min, ↓k_isII, ↓k_isBI, ↓k_ix0, ↓k_ix1, ↓k_ix2, ↓k_set0, ↓k_set2, ↓k_auga, ↓k_augs, ↓k_eqL0, ↓k_neL0, ↓m_popI, ↓m_appI, ↓mutK_some, ↓k_rev, ↓k_sum, ↓k_ixZ, ↓k_listI, ↓walkI, ↓k_eqB, ↓k_neB, ↓k_intB, ↓k_isBB, ↓k_isIB, ↓k_isS, ↓k_eqLI, ↓k_neLI, ↓rng_one, ↓if_l0, ↓if_l1, ↓if_l2, ↓if_l3, ↓if_l4, ↓if_l5, ↓if_l6, ↓if_l7, ↓if_l8, ↓k_ixT0, ↓k_ixT1, ↓k_ixT2, ↓k_ixT3, ↓walkFI, ↓zipI, ↓p_comp2, ↓k_repI, ↓subK_I, ↓k_eqQt, ↓k_eqQf, ↓k_neQt, ↓k_neQf, ↓ki0, ↓ki1, ↓ki2, ↓ki3, ↓ki4, ↓ki5, ↓ki6, ↓ki7, ↓ki8, ↓ki9, ↓ki10, ↓ki11, ↓ki12, ↓ki13, ↓ki14, ↓ki15, ↓ki16, ↓ki17, ↓ki18, ↓ki19, ↓ki20, ↓ki21, ↓ki22, ↓ki23, ↓ki24, ↓ki25, ↓ki26, ↓ki27, ↓ki28, ↓ki29, ↓ki30, ↓ki31, ↓ki32, ↓ki33, ↓ki34, ↓ki35, ↓q_gs, ↓k_len1, ↓k_in1, ↓frzK_d, ↓frzK_dT, ↓frzK_dL, ↓rootK_d, ↓rootK_dL, ↓subK_d, ↓subK_dL, ↓k_ixTr0, ↓k_ixTr1, ↓k_lenTr, ↓k_tupTr, ↓walk_dL, ↓k_lendL, ↓q_mut1, ↓evI_rg3, ↓frzK_nd, ↓reduceIte, fnEnd_ret, fnEnd_nxt, fnEnd_exc, isOwn_t, List.map_cons, List.map_nil, List.cons_append, List.nil_append, List.append_nil, List.replicate_succ, List.replicate_zero, List.getD_cons_zero, List.getD_cons_succ, Bool.not_true, Bool.not_false, decide_true, decide_false, decide_eq_true_eq, decide_eq_false_iff_not, Bool.false_eq_true, Nat.zero_add, Nat.reduceAdd, Int.reduceEq, Int.reduceLT, Int.reduceLE, Nat.reduceEqDiff, reduceCtorEq, eq_self, not_true_eq_false, not_false_eq_true]
    rw [List.append_nil] at hpm
    exact wp_ret ⟨fs, q, rfl, hpm, hq.up (by rw [List.length_nil] at hn; omega), rfl⟩
  · intro K' hK
    have hls : 0 < ls.length := by
      cases ls with
      | nil => cases ht
      | cons _ _ => exact Nat.zero_lt_succ _
    have hll : ∀ kk : D → Fl, optv (b1D .len (.lst true (ls.map g))) kk = kk (.int ls.length) := fun kk => by
      rw [k_lenL, List.length_map]
    simp (disch := first | omega | assumption | decide) only [↓q_pk, ↓q_fz, ↓q_mv, ↓q_ci, ↓q_cb, ↓q_cn, ↓q_cs, ↓q_gi, ↓evF_op1, ↓q_op2, ↓q_cmp, ↓q_bc2, ↓evF_bc1, ↓evF_rev, ↓q_isi, ↓q_idx, ↓evF_chn, ↓evF_boo, ↓q_slc, ↓evF_tup, ↓evF_lst, ↓q_frz, ↓p_call, ↓q_xn, ↓q_xv, ↓q_xi, ↓p_comp1, ↓r_mut0, ↓if_own, ↓evB_nil, ↓evB_cons, ↓evS_nil, ↓evS_cons, ↓evOp_none, ↓evOp_some, ↓evP_nil, ↓evP_ix, ↓evI_seq, ↓evI_rg1, ↓evI_rg2, ↓evI_enu, ↓evI_zip, ↓runS_nil, ↓runS_cons, ↓q_asg, ↓run1_unp, ↓q_sti0, ↓q_aug, ↓run1_aui, ↓run1_exp, ↓run1_ife, ↓p_for, ↓p_whl, ↓run1_ret, ↓run1_retn, ↓run1_pas, ↓run1_rai, ↓evO_def, ↓evT_def, ↓getv0, ↓getvS, ↓setK0, ↓setKS, ↓getO0, ↓getOS, ↓rootK_i, ↓rootK_b, ↓rootK_s, ↓rootK_n, ↓rootK_c, ↓rootK_o, ↓rootK_I, ↓frzK_i, ↓frzK_b, ↓frzK_s, ↓frzK_n, ↓frzK_c, ↓frzK_I, ↓hidK_n, ↓hidK_s, ↓unhK_n, ↓unhK_s, ↓subK_n, ↓subK_i, ↓subK_b, ↓subK_s, ↓subK_x, ↓putK_c, ↓putK_n, ↓optv_some, ↓optl_some, ↓alone_none, ↓isB_bl, ↓isI_int, ↓putE_some, ↓k_add, ↓k_sub, ↓k_mod, ↓k_div, ↓k_mulL, ↓k_mulR, ↓k_p18, ↓k_p15, ↓k_p14, ↓k_neg, ↓k_not, ↓k_lt, ↓k_le, ↓k_gt, ↓k_ge, ↓k_eq, ↓k_ne, ↓k_lenC, ↓k_lenI, ↓k_lenT, ↓k_int, ↓k_max, ↓k_min, ↓k_isII, ↓k_isBI, ↓k_ix0, ↓k_ix1, ↓k_ix2, ↓k_set0, ↓k_set2, ↓k_auga, ↓k_augs, ↓k_eqL0, ↓k_neL0, ↓m_popI, ↓m_appI, ↓mutK_some, ↓k_rev, ↓k_sum, ↓k_ixZ, ↓k_listI, ↓walkI, ↓k_eqB, ↓k_neB, ↓k_intB, ↓k_isBB, ↓k_isIB, ↓k_isS, ↓k_eqLI, ↓k_neLI, ↓rng_one, ↓if_l0, ↓if_l1, ↓if_l2, ↓if_l3, ↓if_l4, ↓if_l5, ↓if_l6, ↓if_l7, ↓if_l8, ↓k_ixT0, ↓k_ixT1, ↓k_ixT2, ↓k_ixT3, ↓walkFI, ↓zipI, ↓p_comp2, ↓k_repI, ↓subK_I, ↓k_eqQt, ↓k_eqQf, ↓k_neQt, ↓k_neQf, ↓ki0, ↓ki1, ↓ki2, ↓ki3, ↓ki4, ↓ki5, ↓ki6, ↓ki7, ↓ki8, ↓ki9, ↓ki10, ↓ki11, ↓ki12, ↓ki13, ↓ki14, ↓ki15, ↓ki16, ↓ki17, ↓ki18, ↓ki19, ↓ki20, ↓ki21, ↓ki22, ↓ki23, ↓ki24, ↓ki25, ↓ki26, ↓ki27, ↓ki28, ↓ki29, ↓ki30, ↓ki31, ↓ki32, ↓ki33, ↓ki34, ↓ki35, ↓q_gs, ↓k_len1, ↓k_in1, ↓frzK_d, ↓frzK_dT, ↓frzK_dL, ↓rootK_d, ↓rootK_dL, ↓subK_d, ↓subK_dL, ↓k_ixTr0, ↓k_ixTr1, ↓k_lenTr, ↓k_tupTr, ↓walk_dL, ↓k_lendL, ↓q_mut1, ↓evI_rg3, ↓frzK_nd, ↓reduceIte, fnEnd_ret, fnEnd_nxt, fnEnd_exc, isOwn_t, List.map_cons, List.map_nil, List.cons_append, List.nil_append, List.append_nil, List.replicate_succ, List.replicate_zero, List.getD_cons_zero, List.getD_cons_succ, Bool.not_true, Bool.not_false, decide_true, decide_false, decide_eq_true_eq, decide_eq_false_iff_not, Bool.false_eq_true, Nat.zero_add, Nat.reduceAdd, Int.reduceEq, Int.reduceLT, Int.reduceLE, Nat.reduceEqDiff, reduceCtorEq, eq_self, not_true_eq_false, not_false_eq_true, ↓hll]
    refine wp_callT (c_take k q j hq ls.length (by omega) (by omega) (by omega)) ?_
    rintro r o ⟨v, q', rfl, v0, v1, hq', rfl⟩
    obtain ⟨i, rfl⟩ := Int.eq_ofNat_of_zero_le v0
    have hi : i < ls.length := by omega
    have hx : ∀ kk : D → D → Fl, mutK (mutD .popAt (.lst true (ls.map g)) [.int (i : Int)]) kk = kk (g ls[i]) (.lst true ((ls.eraseIdx i).map g)) := fun kk => by
      have := m_popAt (xs := ls.map g) (i := i) (kk := kk) (by rw [List.length_map]; exact hi) (by omega)
      rw [List.getElem_map, map_erase] at this
      exact this
    have hy : ∀ kk : D → D → Fl, mutK (mutD .append (.lst true (fs.map g)) [g ls[i]]) kk = kk .non (.lst true ((fs ++ [ls[i]]).map g)) := fun kk => by
      rw [m_app (by rw [List.length_map]; omega), List.map_append]
      rfl
    simp (disch := first | omega | assumption | decide) only [↓q_pk, ↓q_fz, ↓q_mv, ↓q_ci, ↓q_cb, ↓q_cn, ↓q_cs, ↓q_gi, ↓evF_op1, ↓q_op2, ↓q_cmp, ↓q_bc2, ↓evF_bc1, ↓evF_rev, ↓q_isi, ↓q_idx, ↓evF_chn, ↓evF_boo, ↓q_slc, ↓evF_tup, ↓evF_lst, ↓q_frz, ↓p_call, ↓q_xn, ↓q_xv, ↓q_xi, ↓p_comp1, ↓r_mut0, ↓if_own, ↓evB_nil, ↓evB_cons, ↓evS_nil, ↓evS_cons, ↓evOp_none, ↓evOp_some, ↓evP_nil, ↓evP_ix, ↓evI_seq, ↓evI_rg1, ↓evI_rg2, ↓evI_enu, ↓evI_zip, ↓runS_nil, ↓runS_cons, ↓q_asg, ↓run1_unp, ↓q_sti0, ↓q_aug, ↓run1_aui, ↓run1_exp, ↓run1_ife, ↓p_for, ↓p_whl, ↓run1_ret, ↓run1_retn, ↓run1_pas, ↓run1_rai, ↓evO_def, ↓evT_def, ↓getv0, ↓getvS, ↓setK0, ↓setKS, ↓getO0, ↓getOS, ↓rootK_i, ↓rootK_b, ↓rootK_s, ↓rootK_n, ↓rootK_c, ↓rootK_o, ↓rootK_I, ↓frzK_i, ↓frzK_b, ↓frzK_s, ↓frzK_n, ↓frzK_c, ↓frzK_I, ↓hidK_n, ↓hidK_s, ↓unhK_n, ↓unhK_s, ↓subK_n, ↓subK_i, ↓subK_b, ↓subK_s, ↓subK_x, ↓putK_c, ↓putK_n, ↓optv_some, ↓optl_some, ↓alone_none, ↓isB_bl, ↓isI_int, ↓putE_some, ↓k_add, ↓k_sub, ↓k_mod, ↓k_div, ↓k_mulL, ↓k_mulR, ↓k_p18, ↓k_p15, ↓k_p14, ↓k_neg, ↓k_not, ↓k_lt, ↓k_le, ↓k_gt, ↓k_ge, ↓k_eq, ↓k_ne, ↓k_lenC, ↓k_lenI, ↓k_lenT, ↓k_int, ↓k_max, ↓k_min, ↓k_isII, ↓k_isBI, ↓k_ix0, ↓k_ix1, ↓k_ix2, ↓k_set0, ↓k_set2, ↓k_auga, ↓k_augs, ↓k_eqL0, ↓k_neL0, ↓m_popI, ↓m_appI, ↓mutK_some, ↓k_rev, ↓k_sum, ↓k_ixZ, ↓k_listI, ↓walkI, ↓k_eqB, ↓k_neB, ↓k_intB, ↓k_isBB, ↓k_isIB, ↓k_isS, ↓k_eqLI, ↓k_neLI, ↓rng_one, ↓if_l0, ↓if_l1, ↓if_l2, ↓if_l3, ↓if_l4, ↓if_l5, ↓if_l6, ↓if_l7, ↓if_l8, ↓k_ixT0, ↓k_ixT1, ↓k_ixT2, ↓k_ixT3, ↓walkFI, ↓zipI, ↓p_comp2, ↓k_repI, ↓subK_I, ↓k_eqQt, ↓k_eqQf, ↓k_neQt, ↓k_neQf, ↓ki0, ↓ki1, ↓ki2, ↓ki3, ↓ki4, ↓ki5, ↓ki6, ↓ki7, ↓ki8, ↓ki9, ↓ki10, ↓ki11, ↓ki12, ↓ki13, ↓ki14, ↓ki15, ↓ki16, ↓ki17, ↓ki18, ↓ki19, ↓ki20, ↓ki21, ↓ki22, ↓ki23, ↓ki24, ↓ki25, ↓ki26, ↓ki27, ↓ki28, ↓ki29, ↓ki30, ↓ki31, ↓ki32, ↓ki33, ↓ki34, ↓ki35, ↓q_gs, ↓k_len1, ↓k_in1, ↓frzK_d, ↓frzK_dT, ↓frzK_dL, ↓rootK_d, ↓rootK_dL, ↓subK_d, ↓subK_dL, ↓k_ixTr0, ↓k_ixTr1, ↓k_lenTr, ↓k_tupTr, ↓walk_dL, ↓k_lendL, ↓q_mut1, ↓evI_rg3, ↓frzK_nd, ↓reduceIte, fnEnd_ret, fnEnd_nxt, fnEnd_exc, isOwn_t, List.map_cons, List.map_nil, List.cons_append, List.nil_append, List.append_nil, List.replicate_succ, List.replicate_zero, List.getD_cons_zero, List.getD_cons_succ, Bool.not_true, Bool.not_false, decide_true, decide_false, decide_eq_true_eq, decide_eq_false_iff_not, Bool.false_eq_true, Nat.zero_add, Nat.reduceAdd, Int.reduceEq, Int.reduceLT, Int.reduceLE, Nat.reduceEqDiff, reduceCtorEq, eq_self, not_true_eq_false, not_false_eq_true, ↓hx, ↓hy, ↓frzK_fro (hg ls[i])]
    refine hK (ls.eraseIdx i).length _ (by rw [List.length_eraseIdx_of_lt hi]; omega) ⟨_, _, q', j + 1, rfl, rfl, ?_, hq', ?_⟩
    · refine List.Perm.trans ?_ hpm
      rw [List.append_assoc]
      refine List.Perm.append_left _ ?_
      rw [List.singleton_append]
      exact perm_erase ls i hi
    · rw [List.length_eraseIdx_of_lt hi]
      omega

end K02
end VI

set_option maxRecDepth 100000
set_option maxHeartbeats 4000000
namespace VI
namespace K02
/-- what a row of children is like -/
structure Rows (i : Nat) (rows : List (List Nat)) (ds : List Int) : Prop where
  lr : rows.length = i + 1
  ld : ds.length = i + 1
  ch : ∀ j r, rows[j]? = some r → r.length ≤ i ∧ ∀ c ∈ r, j < c ∧ c ≤ i ∧ ds.getD c 0 = ds.getD j 0 + 1
  dp : ∀ j, j ≤ i → 1 ≤ ds.getD j 0 ∧ ds.getD j 0 ≤ 30
  sm : ∀ S, sumR S rows = sumFrom S 1 i
  d0 : ds.getD 0 0 = 1
theorem rows_next {i : Nat} {rows : List (List Nat)} {ds : List Int} (R : Rows i rows ds) {h : Nat} (hh : h ≤ i) (hd : ds.getD h 0 ≤ 29) (hr : h < rows.length) :
    Rows (i + 1) (rows.set h (rows[h] ++ [i + 1]) ++ [[]]) (ds ++ [ds.getD h 0 + 1]) := by
  have dsl : ∀ j, j ≤ i → (ds ++ [ds.getD h 0 + 1]).getD j 0 = ds.getD j 0 := fun j hj => by
    simp only [List.getD_eq_getElem?_getD]
    rw [List.getElem?_append_left (by rw [R.ld]; omega)]
  have dsn : (ds ++ [ds.getD h 0 + 1]).getD (i + 1) 0 = ds.getD h 0 + 1 := by
    rw [List.getD_eq_getElem?_getD, List.getElem?_append_right (by rw [R.ld]; omega), R.ld, Nat.sub_self]
    rfl
  refine ⟨by rw [List.length_append, List.length_set, R.lr]; rfl, by rw [List.length_append, R.ld]; rfl, fun j r hj => ?_, fun j hj => ?_, fun S => ?_, by rw [dsl 0 (Nat.zero_le _), R.d0]⟩
  · rw [List.getElem?_append] at hj
    split at hj
    · rename_i hlt
      rw [List.length_set] at hlt
      rw [List.getElem?_set] at hj
      split at hj
      · rename_i e
        subst e
        have hj' := Option.some.inj (by simpa [hr] using hj : some (rows[h] ++ [i + 1]) = some r)
        subst hj'
        obtain ⟨c1, c2⟩ := R.ch h rows[h] (List.getElem?_eq_getElem hr)
        refine ⟨by rw [List.length_append, List.length_singleton]; omega, fun c hc => ?_⟩
        rcases List.mem_append.mp hc with z | z
        · obtain ⟨a1, a2, a3⟩ := c2 c z
          exact ⟨a1, by omega, by rw [dsl c a2, dsl h hh, a3]⟩
        · have e : c = i + 1 := by simpa using z
          subst e
          exact ⟨by omega, Nat.le_refl _, by rw [dsn, dsl h hh]⟩
      · obtain ⟨c1, c2⟩ := R.ch j r hj
        refine ⟨by omega, fun c hc => ?_⟩
        obtain ⟨a1, a2, a3⟩ := c2 c hc
        exact ⟨a1, by omega, by rw [dsl c a2, dsl j (by rw [R.lr] at hlt; omega), a3]⟩
    · have hlt : j - (rows.set h (rows[h] ++ [i + 1])).length < 1 := by
        have := (List.getElem?_eq_some_iff.mp hj).1
        simpa using this
      have e : j - (rows.set h (rows[h] ++ [i + 1])).length = 0 := by omega
      rw [e] at hj
      have hj' := Option.some.inj hj
      subst hj'
      exact ⟨Nat.zero_le _, fun c hc => absurd hc List.not_mem_nil⟩
  · by_cases e : j = i + 1
    · subst e
      rw [dsn]
      have := R.dp h hh
      omega
    · rw [dsl j (by omega)]
      exact R.dp j (by omega)
  · rw [sumR_app, sumR_set S (i + 1) rows h hr, R.sm S, sumFrom_succ, Nat.add_comm 1 i]
theorem getD_of {α : Type} {xs : List α} {i : Nat} {d : α} (h : i < xs.length) : xs.getD i d = xs[i] := by
  rw [List.getD_eq_getElem?_getD, List.getElem?_eq_getElem h]
  rfl
theorem ix_lit2 {a b v : Int} {hi : Int} (v0 : 0 ≤ v) (v1 : v < 2) (ha : 0 ≤ a ∧ a < hi) (hb : 0 ≤ b ∧ b < hi) : ∃ w, (∀ kk : D → Fl, optv (idxD (.lst true [.int a, .int b]) (.int v)) kk = kk (.int w)) ∧ 0 ≤ w ∧ w < hi := by
  have h : v = 0 ∨ v = 1 := by omega
  rcases h with rfl | rfl
  · exact ⟨a, fun k => k_ix0, ha⟩
  · exact ⟨b, fun k => k_ix1, hb⟩
theorem ix_lit3 {a b c v : Int} {hi : Int} (v0 : 0 ≤ v) (v1 : v < 3) (ha : 0 ≤ a ∧ a < hi) (hb : 0 ≤ b ∧ b < hi) (hc : 0 ≤ c ∧ c < hi) : ∃ w, (∀ kk : D → Fl, optv (idxD (.lst true [.int a, .int b, .int c]) (.int v)) kk = kk (.int w)) ∧ 0 ≤ w ∧ w < hi := by
  have h : v = 0 ∨ v = 1 ∨ v = 2 := by omega
  rcases h with rfl | rfl | rfl
  · exact ⟨a, fun k => k_ix0, ha⟩
  · exact ⟨b, fun k => k_ix1, hb⟩
  · exact ⟨c, fun k => k_ix2, hc⟩
theorem c_grown (k : Nat) (p : Pl) (m : Int) (hp : p.ok m) (hm : m ≤ 900000) (most : Nat) (h1 : 1 ≤ most) (h2 : most ≤ 100) (ls : List Nat) (hl0 : ls ≠ []) (hl : ls.length ≤ 1000) :
    Gives (callF P (k + 3) "_law_grown" [0] [p.d, .int most, .str ls]) fun r o => ∃ (t : Tr) (p' : Pl), r = t.d ∧ t.inn ls ∧ t.size ≤ most ∧ t.depth ≤ 30 ∧ p'.ok (m + 20000) ∧ o = [some p'.d] := by
  refine gives_fn P__law_grown rfl rfl ?_
  simp only [fn__law_grown, List.map_cons, List.map_nil, List.cons_append, List.nil_append, List.append_nil, List.replicate_succ, List.replicate_zero, Nat.reduceSub, Nat.sub_self]
  simp (disch := first | omega | assumption | decide) only [↓q_pk, ↓q_fz, ↓q_mv, ↓q_ci, ↓q_cb, ↓q_cn, ↓q_cs, ↓q_gi, ↓evF_op1, ↓q_op2, ↓q_cmp, ↓q_bc2, ↓evF_bc1, ↓evF_rev, ↓q_isi, ↓q_idx, ↓evF_chn, ↓evF_boo, ↓q_slc, ↓evF_tup, ↓evF_lst, ↓q_frz, ↓p_call, ↓q_xn, ↓q_xv, ↓q_xi, ↓p_comp1, ↓r_mut0, ↓if_own, ↓evB_nil, ↓evB_cons, ↓evS_nil, ↓evS_cons, ↓evOp_none, ↓evOp_some, ↓evP_nil, ↓evP_ix, ↓evI_seq, ↓evI_rg1, ↓evI_rg2, ↓evI_enu, ↓evI_zip, ↓runS_nil, ↓runS_cons, ↓q_asg, ↓run1_unp, ↓q_sti0, ↓q_aug, ↓run1_aui, ↓run1_exp, ↓run1_ife, ↓p_for, ↓p_whl, ↓run1_ret, ↓run1_retn, ↓run1_pas, ↓run1_rai, ↓evO_def, ↓evT_def, ↓getv0, ↓getvS, ↓setK0, ↓setKS, ↓getO0, ↓getOS, ↓rootK_i, ↓rootK_b, ↓rootK_s, ↓rootK_n, ↓rootK_c, ↓rootK_o, ↓rootK_I, ↓frzK_i, ↓frzK_b, ↓frzK_s, ↓frzK_n, ↓frzK_c, ↓frzK_I, ↓hidK_n, ↓hidK_s, ↓unhK_n, ↓unhK_s, ↓subK_n, ↓subK_i, ↓subK_b, ↓subK_s, ↓subK_x, ↓putK_c, ↓putK_n, ↓optv_some, ↓optl_some, ↓alone_none, ↓isB_bl, ↓isI_int, ↓putE_some, ↓k_add, ↓k_sub, ↓k_mod, ↓k_div, ↓k_mulL, ↓k_mulR, ↓k_p18, ↓k_p15, ↓k_p14, ↓k_neg, ↓k_not, ↓k_lt, ↓k_le, ↓k_gt, ↓k_ge, ↓k_eq, ↓k_ne, ↓k_lenC, ↓k_lenI, ↓k_lenT, ↓k_int, ↓k_max, ↓k_min, ↓k_isII, ↓k_isBI, ↓k_ix0, ↓k_ix1, ↓k_ix2, ↓k_set0, ↓k_set2, ↓k_auga, ↓k_augs, ↓k_eqL0, ↓k_neL0, ↓m_popI, ↓m_appI, ↓mutK_some, ↓k_rev, ↓k_sum, ↓k_ixZ, ↓k_listI, ↓walkI, ↓k_eqB, ↓k_neB, ↓k_intB, ↓k_isBB, ↓k_isIB, ↓k_isS, ↓k_eqLI, ↓k_neLI, ↓rng_one, ↓if_l0, ↓if_l1, ↓if_l2, ↓if_l3, ↓if_l4, ↓if_l5, ↓if_l6, ↓if_l7, ↓if_l8, ↓k_ixT0, ↓k_ixT1, ↓k_ixT2, ↓k_ixT3, ↓walkFI, ↓zipI, ↓p_comp2, ↓k_repI, ↓subK_I, ↓k_eqQt, ↓k_eqQf, ↓k_neQt, ↓k_neQf, ↓ki0, ↓ki1, ↓ki2, ↓ki3, ↓ki4, ↓ki5, ↓ki6, ↓ki7, ↓ki8, ↓ki9, ↓ki10, ↓ki11, ↓ki12, ↓ki13, ↓ki14, ↓ki15, ↓ki16, ↓ki17, ↓ki18, ↓ki19, ↓ki20, ↓ki21, ↓ki22, ↓ki23, ↓ki24, ↓ki25, ↓ki26, ↓ki27, ↓ki28, ↓ki29, ↓ki30, ↓ki31, ↓ki32, ↓ki33, ↓ki34, ↓ki35, ↓q_gs, ↓k_len1, ↓k_in1, ↓frzK_d, ↓frzK_dT, ↓frzK_dL, ↓rootK_d, ↓rootK_dL, ↓subK_d, ↓subK_dL, ↓k_ixTr0, ↓k_ixTr1, ↓k_lenTr, ↓k_tupTr, ↓walk_dL, ↓k_lendL, ↓q_mut1, ↓evI_rg3, ↓frzK_nd, ↓reduceIte, fnEnd_ret, fnEnd_nxt, fnEnd_exc, isOwn_t, List.map_cons, List.map_nil, List.cons_append, List.nil_append, List.append_nil, List.replicate_succ, List.replicate_zero, List.getD_cons_zero, List.getD_cons_succ, Bool.not_true, Bool.not_false, decide_true, decide_false, decide_eq_true_eq, decide_eq_false_iff_not, Bool.false_eq_true, Nat.zero_add, Nat.reduceAdd, Int.reduceEq, Int.reduceLT, Int.reduceLE, Nat.reduceEqDiff, reduceCtorEq, eq_self, not_true_eq_false, not_false_eq_true]
  refine wp_callT (c_take (k + 1) p m hp (min most 7) (by omega) (by omega) (by omega)) ?_
  rintro r o ⟨v1, p1, rfl, a0, a1, hp1, rfl⟩
  simp (disch := first | omega | assumption | decide) only [↓q_pk, ↓q_fz, ↓q_mv, ↓q_ci, ↓q_cb, ↓q_cn, ↓q_cs, ↓q_gi, ↓evF_op1, ↓q_op2, ↓q_cmp, ↓q_bc2, ↓evF_bc1, ↓evF_rev, ↓q_isi, ↓q_idx, ↓evF_chn, ↓evF_boo, ↓q_slc, ↓evF_tup, ↓evF_lst, ↓q_frz, ↓p_call, ↓q_xn, ↓q_xv, ↓q_xi, ↓p_comp1, ↓r_mut0, ↓if_own, ↓evB_nil, ↓evB_cons, ↓evS_nil, ↓evS_cons, ↓evOp_none, ↓evOp_some, ↓evP_nil, ↓evP_ix, ↓evI_seq, ↓evI_rg1, ↓evI_rg2, ↓evI_enu, ↓evI_zip, ↓runS_nil, ↓runS_cons, ↓q_asg, ↓run1_unp, ↓q_sti0, ↓q_aug, ↓run1_aui, ↓run1_exp, ↓run1_ife, ↓p_for, ↓p_whl, ↓run1_ret, ↓run1_retn, ↓run1_pas, ↓run1_rai, ↓evO_def, ↓evT_def, ↓getv0, ↓getvS, ↓setK0, ↓setKS, ↓getO0, ↓getOS, ↓rootK_i, ↓rootK_b, ↓rootK_s, ↓rootK_n, ↓rootK_c, ↓rootK_o, ↓rootK_I, ↓frzK_i, ↓frzK_b, ↓frzK_s, ↓frzK_n, ↓frzK_c, ↓frzK_I, ↓hidK_n, ↓hidK_s, ↓unhK_n, ↓unhK_s, ↓subK_n, ↓subK_i, ↓subK_b, ↓subK_s, ↓subK_x, ↓putK_c, ↓putK_n, ↓optv_some, ↓optl_some, ↓alone_none, ↓isB_bl, ↓isI_int, ↓putE_some, ↓k_add, ↓k_sub, ↓k_mod, ↓k_div, ↓k_mulL, ↓k_mulR, ↓k_p18, ↓k_p15, ↓k_p14, ↓k_neg, ↓k_not, ↓k_lt, ↓k_le, ↓k_gt, ↓k_ge, ↓k_eq, ↓k_ne, ↓k_lenC, ↓k_lenI, ↓k_lenT, ↓k_int, ↓k_max, ↓k_min, ↓k_isII, ↓k_isBI, ↓k_ix0, ↓k_ix1, ↓k_ix2, ↓k_set0, ↓k_set2, ↓k_auga, ↓k_augs, ↓k_eqL0, ↓k_neL0, ↓m_popI, ↓m_appI, ↓mutK_some, ↓k_rev, ↓k_sum, ↓k_ixZ, ↓k_listI, ↓walkI, ↓k_eqB, ↓k_neB, ↓k_intB, ↓k_isBB, ↓k_isIB, ↓k_isS, ↓k_eqLI, ↓k_neLI, ↓rng_one, ↓if_l0, ↓if_l1, ↓if_l2, ↓if_l3, ↓if_l4, ↓if_l5, ↓if_l6, ↓if_l7, ↓if_l8, ↓k_ixT0, ↓k_ixT1, ↓k_ixT2, ↓k_ixT3, ↓walkFI, ↓zipI, ↓p_comp2, ↓k_repI, ↓subK_I, ↓k_eqQt, ↓k_eqQf, ↓k_neQt, ↓k_neQf, ↓ki0, ↓ki1, ↓ki2, ↓ki3, ↓ki4, ↓ki5, ↓ki6, ↓ki7, ↓ki8, ↓ki9, ↓ki10, ↓ki11, ↓ki12, ↓ki13, ↓ki14, ↓ki15, ↓ki16, ↓ki17, ↓ki18, ↓ki19, ↓ki20, ↓ki21, ↓ki22, ↓ki23, ↓ki24, ↓ki25, ↓ki26, ↓ki27, ↓ki28, ↓ki29, ↓ki30, ↓ki31, ↓ki32, ↓ki33, ↓ki34, ↓ki35, ↓q_gs, ↓k_len1, ↓k_in1, ↓frzK_d, ↓frzK_dT, ↓frzK_dL, ↓rootK_d, ↓rootK_dL, ↓subK_d, ↓subK_dL, ↓k_ixTr0, ↓k_ixTr1, ↓k_lenTr, ↓k_tupTr, ↓walk_dL, ↓k_lendL, ↓q_mut1, ↓evI_rg3, ↓frzK_nd, ↓reduceIte, fnEnd_ret, fnEnd_nxt, fnEnd_exc, isOwn_t, List.map_cons, List.map_nil, List.cons_append, List.nil_append, List.append_nil, List.replicate_succ, List.replicate_zero, List.getD_cons_zero, List.getD_cons_succ, Bool.not_true, Bool.not_false, decide_true, decide_false, decide_eq_true_eq, decide_eq_false_iff_not, Bool.false_eq_true, Nat.zero_add, Nat.reduceAdd, Int.reduceEq, Int.reduceLT, Int.reduceLE, Nat.reduceEqDiff, reduceCtorEq, eq_self, not_true_eq_false, not_false_eq_true]
  refine wp_callT (c_take (k + 1) p1 _ hp1 most (by omega) (by omega) (by omega)) ?_
  rintro r o ⟨v2, p2, rfl, b0, b1, hp2, rfl⟩
  simp (disch := first | omega | assumption | decide) only [↓q_pk, ↓q_fz, ↓q_mv, ↓q_ci, ↓q_cb, ↓q_cn, ↓q_cs, ↓q_gi, ↓evF_op1, ↓q_op2, ↓q_cmp, ↓q_bc2, ↓evF_bc1, ↓evF_rev, ↓q_isi, ↓q_idx, ↓evF_chn, ↓evF_boo, ↓q_slc, ↓evF_tup, ↓evF_lst, ↓q_frz, ↓p_call, ↓q_xn, ↓q_xv, ↓q_xi, ↓p_comp1, ↓r_mut0, ↓if_own, ↓evB_nil, ↓evB_cons, ↓evS_nil, ↓evS_cons, ↓evOp_none, ↓evOp_some, ↓evP_nil, ↓evP_ix, ↓evI_seq, ↓evI_rg1, ↓evI_rg2, ↓evI_enu, ↓evI_zip, ↓runS_nil, ↓runS_cons, ↓q_asg, ↓run1_unp, ↓q_sti0, ↓q_aug, ↓run1_aui, ↓run1_exp, ↓run1_ife, ↓p_for, ↓p_whl, ↓run1_ret, ↓run1_retn, ↓run1_pas, ↓run1_rai, ↓evO_def, ↓evT_def, ↓getv0, ↓getvS, ↓setK0, ↓setKS, ↓getO0, ↓getOS, ↓rootK_i, ↓rootK_b, ↓rootK_s, ↓rootK_n, ↓rootK_c, ↓rootK_o, ↓rootK_I, ↓frzK_i, ↓frzK_b, ↓frzK_s, ↓frzK_n, ↓frzK_c, ↓frzK_I, ↓hidK_n, ↓hidK_s, ↓unhK_n, ↓unhK_s, ↓subK_n, ↓subK_i, ↓subK_b, ↓subK_s, ↓subK_x, ↓putK_c, ↓putK_n, ↓optv_some, ↓optl_some, ↓alone_none, ↓isB_bl, ↓isI_int, ↓putE_some, ↓k_add, ↓k_sub, ↓k_mod, ↓k_div, ↓k_mulL, ↓k_mulR, ↓k_p18, ↓k_p15, ↓k_p14, ↓k_neg, ↓k_not, ↓k_lt, ↓k_le, ↓k_gt, ↓k_ge, ↓k_eq, ↓k_ne, ↓k_lenC, ↓k_lenI, ↓k_lenT, ↓k_int, ↓k_max, ↓k_min, ↓k_isII, ↓k_isBI, ↓k_ix0, ↓k_ix1, ↓k_ix2, ↓k_set0, ↓k_set2, ↓k_auga, ↓k_augs, ↓k_eqL0, ↓k_neL0, ↓m_popI, ↓m_appI, ↓mutK_some, ↓k_rev, ↓k_sum, ↓k_ixZ, ↓k_listI, ↓walkI, ↓k_eqB, ↓k_neB, ↓k_intB, ↓k_isBB, ↓k_isIB, ↓k_isS, ↓k_eqLI, ↓k_neLI, ↓rng_one, ↓if_l0, ↓if_l1, ↓if_l2, ↓if_l3, ↓if_l4, ↓if_l5, ↓if_l6, ↓if_l7, ↓if_l8, ↓k_ixT0, ↓k_ixT1, ↓k_ixT2, ↓k_ixT3, ↓walkFI, ↓zipI, ↓p_comp2, ↓k_repI, ↓subK_I, ↓k_eqQt, ↓k_eqQf, ↓k_neQt, ↓k_neQf, ↓ki0, ↓ki1, ↓ki2, ↓ki3, ↓ki4, ↓ki5, ↓ki6, ↓ki7, ↓ki8, ↓ki9, ↓ki10, ↓ki11, ↓ki12, ↓ki13, ↓ki14, ↓ki15, ↓ki16, ↓ki17, ↓ki18, ↓ki19, ↓ki20, ↓ki21, ↓ki22, ↓ki23, ↓ki24, ↓ki25, ↓ki26, ↓ki27, ↓ki28, ↓ki29, ↓ki30, ↓ki31, ↓ki32, ↓ki33, ↓ki34, ↓ki35, ↓q_gs, ↓k_len1, ↓k_in1, ↓frzK_d, ↓frzK_dT, ↓frzK_dL, ↓rootK_d, ↓rootK_dL, ↓subK_d, ↓subK_dL, ↓k_ixTr0, ↓k_ixTr1, ↓k_lenTr, ↓k_tupTr, ↓walk_dL, ↓k_lendL, ↓q_mut1, ↓evI_rg3, ↓frzK_nd, ↓reduceIte, fnEnd_ret, fnEnd_nxt, fnEnd_exc, isOwn_t, List.map_cons, List.map_nil, List.cons_append, List.nil_append, List.append_nil, List.replicate_succ, List.replicate_zero, List.getD_cons_zero, List.getD_cons_succ, Bool.not_true, Bool.not_false, decide_true, decide_false, decide_eq_true_eq, decide_eq_false_iff_not, Bool.false_eq_true, Nat.zero_add, Nat.reduceAdd, Int.reduceEq, Int.reduceLT, Int.reduceLE, Nat.reduceEqDiff, reduceCtorEq, eq_self, not_true_eq_false, not_false_eq_true]
  refine wp_callT (c_take (k + 1) p2 _ hp2 2 (by omega) (by omega) (by omega)) ?_
  rintro r o ⟨v3, p3, rfl, c0, c1, hp3, rfl⟩
  obtain ⟨w, hw, w0, w1⟩ := ix_lit2 (a := v1) (b := v2) (hi := most) c0 c1 ⟨a0, by omega⟩ ⟨b0, b1⟩
  obtain ⟨mny, hmny, hm1, hm2⟩ : ∃ n : Nat, 1 + w = (n : Int) ∧ 1 ≤ n ∧ n ≤ most := ⟨(1 + w).toNat, by omega, by omega, by omega⟩
  simp (disch := first | omega | assumption | decide) only [↓q_pk, ↓q_fz, ↓q_mv, ↓q_ci, ↓q_cb, ↓q_cn, ↓q_cs, ↓q_gi, ↓evF_op1, ↓q_op2, ↓q_cmp, ↓q_bc2, ↓evF_bc1, ↓evF_rev, ↓q_isi, ↓q_idx, ↓evF_chn, ↓evF_boo, ↓q_slc, ↓evF_tup, ↓evF_lst, ↓q_frz, ↓p_call, ↓q_xn, ↓q_xv, ↓q_xi, ↓p_comp1, ↓r_mut0, ↓if_own, ↓evB_nil, ↓evB_cons, ↓evS_nil, ↓evS_cons, ↓evOp_none, ↓evOp_some, ↓evP_nil, ↓evP_ix, ↓evI_seq, ↓evI_rg1, ↓evI_rg2, ↓evI_enu, ↓evI_zip, ↓runS_nil, ↓runS_cons, ↓q_asg, ↓run1_unp, ↓q_sti0, ↓q_aug, ↓run1_aui, ↓run1_exp, ↓run1_ife, ↓p_for, ↓p_whl, ↓run1_ret, ↓run1_retn, ↓run1_pas, ↓run1_rai, ↓evO_def, ↓evT_def, ↓getv0, ↓getvS, ↓setK0, ↓setKS, ↓getO0, ↓getOS, ↓rootK_i, ↓rootK_b, ↓rootK_s, ↓rootK_n, ↓rootK_c, ↓rootK_o, ↓rootK_I, ↓frzK_i, ↓frzK_b, ↓frzK_s, ↓frzK_n, ↓frzK_c, ↓frzK_I, ↓hidK_n, ↓hidK_s, ↓unhK_n, ↓unhK_s, ↓subK_n, ↓subK_i, ↓subK_b, ↓subK_s, ↓subK_x, ↓putK_c, ↓putK_n, ↓optv_some, ↓optl_some, ↓alone_none, ↓isB_bl, ↓isI_int, ↓putE_some, ↓k_add, ↓k_sub, ↓k_mod, ↓k_div, ↓k_mulL, ↓k_mulR, ↓k_p18, ↓k_p15, ↓k_p14, ↓k_neg, ↓k_not, ↓k_lt, ↓k_le, ↓k_gt, ↓k_ge, ↓k_eq, ↓k_ne, ↓k_lenC, ↓k_lenI, ↓k_lenT, ↓k_int, ↓k_max, ↓k_min, ↓k_isII, ↓k_isBI, ↓k_ix0, ↓k_ix1, ↓k_ix2, ↓k_set0, ↓k_set2, ↓k_auga, ↓k_augs, ↓k_eqL0, ↓k_neL0, ↓m_popI, ↓m_appI, ↓mutK_some, ↓k_rev, ↓k_sum, ↓k_ixZ, ↓k_listI, ↓walkI, ↓k_eqB, ↓k_neB, ↓k_intB, ↓k_isBB, ↓k_isIB, ↓k_isS, ↓k_eqLI, ↓k_neLI, ↓rng_one, ↓if_l0, ↓if_l1, ↓if_l2, ↓if_l3, ↓if_l4, ↓if_l5, ↓if_l6, ↓if_l7, ↓if_l8, ↓k_ixT0, ↓k_ixT1, ↓k_ixT2, ↓k_ixT3, ↓walkFI, ↓zipI, ↓p_comp2, ↓k_repI, ↓subK_I, ↓k_eqQt, ↓k_eqQf, ↓k_neQt, ↓k_neQf, ↓ki0, ↓ki1, ↓ki2, ↓ki3, ↓ki4, ↓ki5, ↓ki6, ↓ki7, ↓ki8, ↓ki9, ↓ki10, ↓ki11, ↓ki12, ↓ki13, ↓ki14, ↓ki15, ↓ki16, ↓ki17, ↓ki18, ↓ki19, ↓ki20, ↓ki21, ↓ki22, ↓ki23, ↓ki24, ↓ki25, ↓ki26, ↓ki27, ↓ki28, ↓ki29, ↓ki30, ↓ki31, ↓ki32, ↓ki33, ↓ki34, ↓ki35, ↓q_gs, ↓k_len1, ↓k_in1, ↓frzK_d, ↓frzK_dT, ↓frzK_dL, ↓rootK_d, ↓rootK_dL, ↓subK_d, ↓subK_dL, ↓k_ixTr0, ↓k_ixTr1, ↓k_lenTr, ↓k_tupTr, ↓walk_dL, ↓k_lendL, ↓q_mut1, ↓evI_rg3, ↓frzK_nd, ↓reduceIte, fnEnd_ret, fnEnd_nxt, fnEnd_exc, isOwn_t, List.map_cons, List.map_nil, List.cons_append, List.nil_append, List.append_nil, List.replicate_succ, List.replicate_zero, List.getD_cons_zero, List.getD_cons_succ, Bool.not_true, Bool.not_false, decide_true, decide_false, decide_eq_true_eq, decide_eq_false_iff_not, Bool.false_eq_true, Nat.zero_add, Nat.reduceAdd, Int.reduceEq, Int.reduceLT, Int.reduceLE, Nat.reduceEqDiff, reduceCtorEq, eq_self, not_true_eq_false, not_false_eq_true, ↓hw, hmny]
  refine wp_callT (c_take (k + 1) p3 _ hp3 3 (by omega) (by omega) (by omega)) ?_
  rintro r o ⟨way, p4, rfl, d0, d1, hp4, rfl⟩
  simp (disch := first | omega | assumption | decide) only [↓q_pk, ↓q_fz, ↓q_mv, ↓q_ci, ↓q_cb, ↓q_cn, ↓q_cs, ↓q_gi, ↓evF_op1, ↓q_op2, ↓q_cmp, ↓q_bc2, ↓evF_bc1, ↓evF_rev, ↓q_isi, ↓q_idx, ↓evF_chn, ↓evF_boo, ↓q_slc, ↓evF_tup, ↓evF_lst, ↓q_frz, ↓p_call, ↓q_xn, ↓q_xv, ↓q_xi, ↓p_comp1, ↓r_mut0, ↓if_own, ↓evB_nil, ↓evB_cons, ↓evS_nil, ↓evS_cons, ↓evOp_none, ↓evOp_some, ↓evP_nil, ↓evP_ix, ↓evI_seq, ↓evI_rg1, ↓evI_rg2, ↓evI_enu, ↓evI_zip, ↓runS_nil, ↓runS_cons, ↓q_asg, ↓run1_unp, ↓q_sti0, ↓q_aug, ↓run1_aui, ↓run1_exp, ↓run1_ife, ↓p_for, ↓p_whl, ↓run1_ret, ↓run1_retn, ↓run1_pas, ↓run1_rai, ↓evO_def, ↓evT_def, ↓getv0, ↓getvS, ↓setK0, ↓setKS, ↓getO0, ↓getOS, ↓rootK_i, ↓rootK_b, ↓rootK_s, ↓rootK_n, ↓rootK_c, ↓rootK_o, ↓rootK_I, ↓frzK_i, ↓frzK_b, ↓frzK_s, ↓frzK_n, ↓frzK_c, ↓frzK_I, ↓hidK_n, ↓hidK_s, ↓unhK_n, ↓unhK_s, ↓subK_n, ↓subK_i, ↓subK_b, ↓subK_s, ↓subK_x, ↓putK_c, ↓putK_n, ↓optv_some, ↓optl_some, ↓alone_none, ↓isB_bl, ↓isI_int, ↓putE_some, ↓k_add, ↓k_sub, ↓k_mod, ↓k_div, ↓k_mulL, ↓k_mulR, ↓k_p18, ↓k_p15, ↓k_p14, ↓k_neg, ↓k_not, ↓k_lt, ↓k_le, ↓k_gt, ↓k_ge, ↓k_eq, ↓k_ne, ↓k_lenC, ↓k_lenI, ↓k_lenT, ↓k_int, ↓k_max, ↓k_min, ↓k_isII, ↓k_isBI, ↓k_ix0, ↓k_ix1, ↓k_ix2, ↓k_set0, ↓k_set2, ↓k_auga, ↓k_augs, ↓k_eqL0, ↓k_neL0, ↓m_popI, ↓m_appI, ↓mutK_some, ↓k_rev, ↓k_sum, ↓k_ixZ, ↓k_listI, ↓walkI, ↓k_eqB, ↓k_neB, ↓k_intB, ↓k_isBB, ↓k_isIB, ↓k_isS, ↓k_eqLI, ↓k_neLI, ↓rng_one, ↓if_l0, ↓if_l1, ↓if_l2, ↓if_l3, ↓if_l4, ↓if_l5, ↓if_l6, ↓if_l7, ↓if_l8, ↓k_ixT0, ↓k_ixT1, ↓k_ixT2, ↓k_ixT3, ↓walkFI, ↓zipI, ↓p_comp2, ↓k_repI, ↓subK_I, ↓k_eqQt, ↓k_eqQf, ↓k_neQt, ↓k_neQf, ↓ki0, ↓ki1, ↓ki2, ↓ki3, ↓ki4, ↓ki5, ↓ki6, ↓ki7, ↓ki8, ↓ki9, ↓ki10, ↓ki11, ↓ki12, ↓ki13, ↓ki14, ↓ki15, ↓ki16, ↓ki17, ↓ki18, ↓ki19, ↓ki20, ↓ki21, ↓ki22, ↓ki23, ↓ki24, ↓ki25, ↓ki26, ↓ki27, ↓ki28, ↓ki29, ↓ki30, ↓ki31, ↓ki32, ↓ki33, ↓ki34, ↓ki35, ↓q_gs, ↓k_len1, ↓k_in1, ↓frzK_d, ↓frzK_dT, ↓frzK_dL, ↓rootK_d, ↓rootK_dL, ↓subK_d, ↓subK_dL, ↓k_ixTr0, ↓k_ixTr1, ↓k_lenTr, ↓k_tupTr, ↓walk_dL, ↓k_lendL, ↓q_mut1, ↓evI_rg3, ↓frzK_nd, ↓reduceIte, fnEnd_ret, fnEnd_nxt, fnEnd_exc, isOwn_t, List.map_cons, List.map_nil, List.cons_append, List.nil_append, List.append_nil, List.replicate_succ, List.replicate_zero, List.getD_cons_zero, List.getD_cons_succ, Bool.not_true, Bool.not_false, decide_true, decide_false, decide_eq_true_eq, decide_eq_false_iff_not, Bool.false_eq_true, Nat.zero_add, Nat.reduceAdd, Int.reduceEq, Int.reduceLT, Int.reduceLE, Nat.reduceEqDiff, reduceCtorEq, eq_self, not_true_eq_false, not_false_eq_true, hmny]
  refine wp_seqT (wp_forN (fun i e => ∃ (q : Pl) (rows : List (List Nat)) (ds : List Int) (o7 o8 : Option D), e = [some q.d, some (.int most), some (.str ls), some (.int mny), some (.int way), some (.lst true (ds.map .int)), some (.lst true (rows.map (rowD true))), o7, o8, none, none, none] ∧ Rows i rows ds ∧ q.ok (m + 4 + 2 * i))
    ⟨p4, [[]], [1], none, none, rfl, ⟨rfl, rfl, fun j r hj => ?_, fun j hj => ?_, fun S => rfl, rfl⟩, hp4.up (by omega)⟩ ?_ ?_)
  · have : j < 1 := by
      have := (List.getElem?_eq_some_iff.mp hj).1
      simpa using this
    have e : j = 0 := by omega
    subst e
    obtain rfl := Option.some.inj hj
    exact ⟨Nat.le_refl _, fun c hc => absurd hc List.not_mem_nil⟩
  · have e : j = 0 := by omega
    subst e
    decide
  · rintro i x e hx ⟨q, rows, ds, o7, o8, rfl, R, hq⟩
    have hi := (List.getElem?_eq_some_iff.mp hx).1
    rw [List.length_map, List.length_range] at hi
    rw [List.getElem?_map, List.getElem?_range hi] at hx
    obtain rfl := Option.some.inj hx
    refine ⟨_, rfl, fun K' hK => ?_⟩
    simp only [List.set_cons_succ, List.set_cons_zero]
    simp (disch := first | omega | assumption | decide) only [↓q_pk, ↓q_fz, ↓q_mv, ↓q_ci, ↓q_cb, ↓q_cn, ↓q_cs, ↓q_gi, ↓evF_op1, ↓q_op2, ↓q_cmp, ↓q_bc2, ↓evF_bc1, ↓evF_rev, ↓q_isi, ↓q_idx, ↓evF_chn, ↓evF_boo, ↓q_slc, ↓evF_tup, ↓evF_lst, ↓q_frz, ↓p_call, ↓q_xn, ↓q_xv, ↓q_xi, ↓p_comp1, ↓r_mut0, ↓if_own, ↓evB_nil, ↓evB_cons, ↓evS_nil, ↓evS_cons, ↓evOp_none, ↓evOp_some, ↓evP_nil, ↓evP_ix, ↓evI_seq, ↓evI_rg1, ↓evI_rg2, ↓evI_enu, ↓evI_zip, ↓runS_nil, ↓runS_cons, ↓q_asg, ↓run1_unp, ↓q_sti0, ↓q_aug, ↓run1_aui, ↓run1_exp, ↓run1_ife, ↓p_for, ↓p_whl, ↓run1_ret, ↓run1_retn, ↓run1_pas, ↓run1_rai, ↓evO_def, ↓evT_def, ↓getv0, ↓getvS, ↓setK0, ↓setKS, ↓getO0, ↓getOS, ↓rootK_i, ↓rootK_b, ↓rootK_s, ↓rootK_n, ↓rootK_c, ↓rootK_o, ↓rootK_I, ↓frzK_i, ↓frzK_b, ↓frzK_s, ↓frzK_n, ↓frzK_c, ↓frzK_I, ↓hidK_n, ↓hidK_s, ↓unhK_n, ↓unhK_s, ↓subK_n, ↓subK_i, ↓subK_b, ↓subK_s, ↓subK_x, ↓putK_c, ↓putK_n, ↓optv_some, ↓optl_some, ↓alone_none, ↓isB_bl, ↓isI_int, ↓putE_some, ↓k_add, ↓k_sub, ↓k_mod, ↓k_div, ↓k_mulL, ↓k_mulR, ↓k_p18, ↓k_p15, ↓k_p14, ↓k_neg, ↓k_not, ↓k_lt, ↓k_le, ↓k_gt, ↓k_ge, ↓k_eq, ↓k_ne, ↓k_lenC, ↓k_lenI, ↓k_lenT, ↓k_int, ↓k_max, ↓k_min, ↓k_isII, ↓k_isBI, ↓k_ix0, ↓k_ix1, ↓k_ix2, ↓k_set0, ↓k_set2, ↓k_auga, ↓k_augs, ↓k_eqL0, ↓k_neL0, ↓m_popI, ↓m_appI, ↓mutK_some, ↓k_rev, ↓k_sum, ↓k_ixZ, ↓k_listI, ↓walkI, ↓k_eqB, ↓k_neB, ↓k_intB, ↓k_isBB, ↓k_isIB, ↓k_isS, ↓k_eqLI, ↓k_neLI, ↓rng_one, ↓if_l0, ↓if_l1, ↓if_l2, ↓if_l3, ↓if_l4, ↓if_l5, ↓if_l6, ↓if_l7, ↓if_l8, ↓k_ixT0, ↓k_ixT1, ↓k_ixT2, ↓k_ixT3, ↓walkFI, ↓zipI, ↓p_comp2, ↓k_repI, ↓subK_I, ↓k_eqQt, ↓k_eqQf, ↓k_neQt, ↓k_neQf, ↓ki0, ↓ki1, ↓ki2, ↓ki3, ↓ki4, ↓ki5, ↓ki6, ↓ki7, ↓ki8, ↓ki9, ↓ki10, ↓ki11, ↓ki12, ↓ki13, ↓ki14, ↓ki15, ↓ki16, ↓ki17, ↓ki18, ↓ki19, ↓ki20, ↓ki21, ↓ki22, ↓ki23, ↓ki24, ↓ki25, ↓ki26, ↓ki27, ↓ki28, ↓ki29, ↓ki30, ↓ki31, ↓ki32, ↓ki33, ↓ki34, ↓ki35, ↓q_gs, ↓k_len1, ↓k_in1, ↓frzK_d, ↓frzK_dT, ↓frzK_dL, ↓rootK_d, ↓rootK_dL, ↓subK_d, ↓subK_dL, ↓k_ixTr0, ↓k_ixTr1, ↓k_lenTr, ↓k_tupTr, ↓walk_dL, ↓k_lendL, ↓q_mut1, ↓evI_rg3, ↓frzK_nd, ↓reduceIte, fnEnd_ret, fnEnd_nxt, fnEnd_exc, isOwn_t, List.map_cons, List.map_nil, List.cons_append, List.nil_append, List.append_nil, List.replicate_succ, List.replicate_zero, List.getD_cons_zero, List.getD_cons_succ, Bool.not_true, Bool.not_false, decide_true, decide_false, decide_eq_true_eq, decide_eq_false_iff_not, Bool.false_eq_true, Nat.zero_add, Nat.reduceAdd, Int.reduceEq, Int.reduceLT, Int.reduceLE, Nat.reduceEqDiff, reduceCtorEq, eq_self, not_true_eq_false, not_false_eq_true]
    refine wp_callT (c_take (k + 1) q _ hq (1 + (i : Int)) (by omega) (by omega) (by omega)) ?_
    rintro r o ⟨u1, q1, rfl, e0, e1, hq1, rfl⟩
    simp (disch := first | omega | assumption | decide) only [↓q_pk, ↓q_fz, ↓q_mv, ↓q_ci, ↓q_cb, ↓q_cn, ↓q_cs, ↓q_gi, ↓evF_op1, ↓q_op2, ↓q_cmp, ↓q_bc2, ↓evF_bc1, ↓evF_rev, ↓q_isi, ↓q_idx, ↓evF_chn, ↓evF_boo, ↓q_slc, ↓evF_tup, ↓evF_lst, ↓q_frz, ↓p_call, ↓q_xn, ↓q_xv, ↓q_xi, ↓p_comp1, ↓r_mut0, ↓if_own, ↓evB_nil, ↓evB_cons, ↓evS_nil, ↓evS_cons, ↓evOp_none, ↓evOp_some, ↓evP_nil, ↓evP_ix, ↓evI_seq, ↓evI_rg1, ↓evI_rg2, ↓evI_enu, ↓evI_zip, ↓runS_nil, ↓runS_cons, ↓q_asg, ↓run1_unp, ↓q_sti0, ↓q_aug, ↓run1_aui, ↓run1_exp, ↓run1_ife, ↓p_for, ↓p_whl, ↓run1_ret, ↓run1_retn, ↓run1_pas, ↓run1_rai, ↓evO_def, ↓evT_def, ↓getv0, ↓getvS, ↓setK0, ↓setKS, ↓getO0, ↓getOS, ↓rootK_i, ↓rootK_b, ↓rootK_s, ↓rootK_n, ↓rootK_c, ↓rootK_o, ↓rootK_I, ↓frzK_i, ↓frzK_b, ↓frzK_s, ↓frzK_n, ↓frzK_c, ↓frzK_I, ↓hidK_n, ↓hidK_s, ↓unhK_n, ↓unhK_s, ↓subK_n, ↓subK_i, ↓subK_b, ↓subK_s, ↓subK_x, ↓putK_c, ↓putK_n, ↓optv_some, ↓optl_some, ↓alone_none, ↓isB_bl, ↓isI_int, ↓putE_some, ↓k_add, ↓k_sub, ↓k_mod, ↓k_div, ↓k_mulL, ↓k_mulR, ↓k_p18, ↓k_p15, ↓k_p14, ↓k_neg, ↓k_not, ↓k_lt, ↓k_le, ↓k_gt, ↓k_ge, ↓k_eq, ↓k_ne, ↓k_lenC, ↓k_lenI, ↓k_lenT, ↓k_int, ↓k_max, ↓k_min, ↓k_isII, ↓k_isBI, ↓k_ix0, ↓k_ix1, ↓k_ix2, ↓k_set0, ↓k_set2, ↓k_auga, ↓k_augs, ↓k_eqL0, ↓k_neL0, ↓m_popI, ↓m_appI, ↓mutK_some, ↓k_rev, ↓k_sum, ↓k_ixZ, ↓k_listI, ↓walkI, ↓k_eqB, ↓k_neB, ↓k_intB, ↓k_isBB, ↓k_isIB, ↓k_isS, ↓k_eqLI, ↓k_neLI, ↓rng_one, ↓if_l0, ↓if_l1, ↓if_l2, ↓if_l3, ↓if_l4, ↓if_l5, ↓if_l6, ↓if_l7, ↓if_l8, ↓k_ixT0, ↓k_ixT1, ↓k_ixT2, ↓k_ixT3, ↓walkFI, ↓zipI, ↓p_comp2, ↓k_repI, ↓subK_I, ↓k_eqQt, ↓k_eqQf, ↓k_neQt, ↓k_neQf, ↓ki0, ↓ki1, ↓ki2, ↓ki3, ↓ki4, ↓ki5, ↓ki6, ↓ki7, ↓ki8, ↓ki9, ↓ki10, ↓ki11, ↓ki12, ↓ki13, ↓ki14, ↓ki15, ↓ki16, ↓ki17, ↓ki18, ↓ki19, ↓ki20, ↓ki21, ↓ki22, ↓ki23, ↓ki24, ↓ki25, ↓ki26, ↓ki27, ↓ki28, ↓ki29, ↓ki30, ↓ki31, ↓ki32, ↓ki33, ↓ki34, ↓ki35, ↓q_gs, ↓k_len1, ↓k_in1, ↓frzK_d, ↓frzK_dT, ↓frzK_dL, ↓rootK_d, ↓rootK_dL, ↓subK_d, ↓subK_dL, ↓k_ixTr0, ↓k_ixTr1, ↓k_lenTr, ↓k_tupTr, ↓walk_dL, ↓k_lendL, ↓q_mut1, ↓evI_rg3, ↓frzK_nd, ↓reduceIte, fnEnd_ret, fnEnd_nxt, fnEnd_exc, isOwn_t, List.map_cons, List.map_nil, List.cons_append, List.nil_append, List.append_nil, List.replicate_succ, List.replicate_zero, List.getD_cons_zero, List.getD_cons_succ, Bool.not_true, Bool.not_false, decide_true, decide_false, decide_eq_true_eq, decide_eq_false_iff_not, Bool.false_eq_true, Nat.zero_add, Nat.reduceAdd, Int.reduceEq, Int.reduceLT, Int.reduceLE, Nat.reduceEqDiff, reduceCtorEq, eq_self, not_true_eq_false, not_false_eq_true]
    refine wp_callT (c_take (k + 1) q1 _ hq1 (min (1 + (i : Int)) 3) (by omega) (by omega) (by omega)) ?_
    rintro r o ⟨u2, q2, rfl, f0, f1, hq2, rfl⟩
    obtain ⟨h, hh, hh0, hh1⟩ := ix_lit3 (a := u1) (b := 1 + (i : Int) - 1) (c := u2) (hi := 1 + (i : Int)) d0 d1 ⟨e0, e1⟩ ⟨by omega, by omega⟩ ⟨f0, by omega⟩
    obtain ⟨hd, rfl⟩ := Int.eq_ofNat_of_zero_le hh0
    have hdl : hd < ds.length := by rw [R.ld]; omega
    have hix : ∀ kk : D → Fl, optv (idxD (.lst true (ds.map .int)) (.int (hd : Int))) kk = kk (.int (ds.getD hd 0)) := fun kk => by rw [k_ixI hdl, getD_of hdl]
    have F : ∀ (z : Int) (h : Nat), z = (h : Int) → h ≤ i → ds.getD h 0 ≤ 29 → ∃ hhr : h < rows.length, (∀ kk : D → Fl, optv (stepD (.lst true (rows.map (rowD true))) (.int z)) kk = kk (rowD true rows[h])) ∧ (rowD true rows[h]).isOwn = true ∧
        (∀ kk : D → D → Fl, mutK (modAt [.int z] (.lst true (rows.map (rowD true))) fun d => mutD .append d [.int (1 + (i : Int))]) kk = kk .non (.lst true ((rows.set h (rows[h] ++ [i + 1])).map (rowD true)))) ∧
        (∀ kk : D → D → Fl, mutK (mutD .append (.lst true ((rows.set h (rows[h] ++ [i + 1])).map (rowD true))) [.lst true []]) kk = kk .non (.lst true ((rows.set h (rows[h] ++ [i + 1]) ++ [[]]).map (rowD true)))) ∧
        (∀ kk : D → D → Fl, mutK (mutD .append (.lst true (ds.map .int)) [.int (ds.getD h 0 + 1)]) kk = kk .non (.lst true ((ds ++ [ds.getD h 0 + 1]).map .int))) := by
      rintro z h rfl hh hd29
      have hhr : h < rows.length := by rw [R.lr]; omega
      have hrl : (rows[h]).length < 16777216 := by
        have := (R.ch h rows[h] (List.getElem?_eq_getElem hhr)).1
        omega
      refine ⟨hhr, fun kk => k_stepRow hhr, rfl, fun kk => ?_, fun kk => ?_, fun kk => m_appI (by rw [R.ld]; omega)⟩
      · have := m_row (kk := kk) (c := i + 1) hhr hrl
        rw [show ((i + 1 : Nat) : Int) = 1 + (i : Int) by omega] at this
        exact this
      · rw [m_app (by rw [List.length_map, List.length_set, R.lr]; omega), List.map_append]
        rfl
    simp (disch := first | omega | assumption | decide) only [↓q_pk, ↓q_fz, ↓q_mv, ↓q_ci, ↓q_cb, ↓q_cn, ↓q_cs, ↓q_gi, ↓evF_op1, ↓q_op2, ↓q_cmp, ↓q_bc2, ↓evF_bc1, ↓evF_rev, ↓q_isi, ↓q_idx, ↓evF_chn, ↓evF_boo, ↓q_slc, ↓evF_tup, ↓evF_lst, ↓q_frz, ↓p_call, ↓q_xn, ↓q_xv, ↓q_xi, ↓p_comp1, ↓r_mut0, ↓if_own, ↓evB_nil, ↓evB_cons, ↓evS_nil, ↓evS_cons, ↓evOp_none, ↓evOp_some, ↓evP_nil, ↓evP_ix, ↓evI_seq, ↓evI_rg1, ↓evI_rg2, ↓evI_enu, ↓evI_zip, ↓runS_nil, ↓runS_cons, ↓q_asg, ↓run1_unp, ↓q_sti0, ↓q_aug, ↓run1_aui, ↓run1_exp, ↓run1_ife, ↓p_for, ↓p_whl, ↓run1_ret, ↓run1_retn, ↓run1_pas, ↓run1_rai, ↓evO_def, ↓evT_def, ↓getv0, ↓getvS, ↓setK0, ↓setKS, ↓getO0, ↓getOS, ↓rootK_i, ↓rootK_b, ↓rootK_s, ↓rootK_n, ↓rootK_c, ↓rootK_o, ↓rootK_I, ↓frzK_i, ↓frzK_b, ↓frzK_s, ↓frzK_n, ↓frzK_c, ↓frzK_I, ↓hidK_n, ↓hidK_s, ↓unhK_n, ↓unhK_s, ↓subK_n, ↓subK_i, ↓subK_b, ↓subK_s, ↓subK_x, ↓putK_c, ↓putK_n, ↓optv_some, ↓optl_some, ↓alone_none, ↓isB_bl, ↓isI_int, ↓putE_some, ↓k_add, ↓k_sub, ↓k_mod, ↓k_div, ↓k_mulL, ↓k_mulR, ↓k_p18, ↓k_p15, ↓k_p14, ↓k_neg, ↓k_not, ↓k_lt, ↓k_le, ↓k_gt, ↓k_ge, ↓k_eq, ↓k_ne, ↓k_lenC, ↓k_lenI, ↓k_lenT, ↓k_int, ↓k_max, ↓k_min, ↓k_isII, ↓k_isBI, ↓k_ix0, ↓k_ix1, ↓k_ix2, ↓k_set0, ↓k_set2, ↓k_auga, ↓k_augs, ↓k_eqL0, ↓k_neL0, ↓m_popI, ↓m_appI, ↓mutK_some, ↓k_rev, ↓k_sum, ↓k_ixZ, ↓k_listI, ↓walkI, ↓k_eqB, ↓k_neB, ↓k_intB, ↓k_isBB, ↓k_isIB, ↓k_isS, ↓k_eqLI, ↓k_neLI, ↓rng_one, ↓if_l0, ↓if_l1, ↓if_l2, ↓if_l3, ↓if_l4, ↓if_l5, ↓if_l6, ↓if_l7, ↓if_l8, ↓k_ixT0, ↓k_ixT1, ↓k_ixT2, ↓k_ixT3, ↓walkFI, ↓zipI, ↓p_comp2, ↓k_repI, ↓subK_I, ↓k_eqQt, ↓k_eqQf, ↓k_neQt, ↓k_neQf, ↓ki0, ↓ki1, ↓ki2, ↓ki3, ↓ki4, ↓ki5, ↓ki6, ↓ki7, ↓ki8, ↓ki9, ↓ki10, ↓ki11, ↓ki12, ↓ki13, ↓ki14, ↓ki15, ↓ki16, ↓ki17, ↓ki18, ↓ki19, ↓ki20, ↓ki21, ↓ki22, ↓ki23, ↓ki24, ↓ki25, ↓ki26, ↓ki27, ↓ki28, ↓ki29, ↓ki30, ↓ki31, ↓ki32, ↓ki33, ↓ki34, ↓ki35, ↓q_gs, ↓k_len1, ↓k_in1, ↓frzK_d, ↓frzK_dT, ↓frzK_dL, ↓rootK_d, ↓rootK_dL, ↓subK_d, ↓subK_dL, ↓k_ixTr0, ↓k_ixTr1, ↓k_lenTr, ↓k_tupTr, ↓walk_dL, ↓k_lendL, ↓q_mut1, ↓evI_rg3, ↓frzK_nd, ↓reduceIte, fnEnd_ret, fnEnd_nxt, fnEnd_exc, isOwn_t, List.map_cons, List.map_nil, List.cons_append, List.nil_append, List.append_nil, List.replicate_succ, List.replicate_zero, List.getD_cons_zero, List.getD_cons_succ, Bool.not_true, Bool.not_false, decide_true, decide_false, decide_eq_true_eq, decide_eq_false_iff_not, Bool.false_eq_true, Nat.zero_add, Nat.reduceAdd, Int.reduceEq, Int.reduceLT, Int.reduceLE, Nat.reduceEqDiff, reduceCtorEq, eq_self, not_true_eq_false, not_false_eq_true, ↓hh, ↓hix]
    refine wp_if (fun hc => ?_) fun hc => ?_
    · have h0 := R.d0
      obtain ⟨hhr, f1, f2, f3, f4, f5⟩ := F 0 0 rfl (by omega) (by omega)
      simp (disch := first | omega | assumption | decide) only [↓q_pk, ↓q_fz, ↓q_mv, ↓q_ci, ↓q_cb, ↓q_cn, ↓q_cs, ↓q_gi, ↓evF_op1, ↓q_op2, ↓q_cmp, ↓q_bc2, ↓evF_bc1, ↓evF_rev, ↓q_isi, ↓q_idx, ↓evF_chn, ↓evF_boo, ↓q_slc, ↓evF_tup, ↓evF_lst, ↓q_frz, ↓p_call, ↓q_xn, ↓q_xv, ↓q_xi, ↓p_comp1, ↓r_mut0, ↓if_own, ↓evB_nil, ↓evB_cons, ↓evS_nil, ↓evS_cons, ↓evOp_none, ↓evOp_some, ↓evP_nil, ↓evP_ix, ↓evI_seq, ↓evI_rg1, ↓evI_rg2, ↓evI_enu, ↓evI_zip, ↓runS_nil, ↓runS_cons, ↓q_asg, ↓run1_unp, ↓q_sti0, ↓q_aug, ↓run1_aui, ↓run1_exp, ↓run1_ife, ↓p_for, ↓p_whl, ↓run1_ret, ↓run1_retn, ↓run1_pas, ↓run1_rai, ↓evO_def, ↓evT_def, ↓getv0, ↓getvS, ↓setK0, ↓setKS, ↓getO0, ↓getOS, ↓rootK_i, ↓rootK_b, ↓rootK_s, ↓rootK_n, ↓rootK_c, ↓rootK_o, ↓rootK_I, ↓frzK_i, ↓frzK_b, ↓frzK_s, ↓frzK_n, ↓frzK_c, ↓frzK_I, ↓hidK_n, ↓hidK_s, ↓unhK_n, ↓unhK_s, ↓subK_n, ↓subK_i, ↓subK_b, ↓subK_s, ↓subK_x, ↓putK_c, ↓putK_n, ↓optv_some, ↓optl_some, ↓alone_none, ↓isB_bl, ↓isI_int, ↓putE_some, ↓k_add, ↓k_sub, ↓k_mod, ↓k_div, ↓k_mulL, ↓k_mulR, ↓k_p18, ↓k_p15, ↓k_p14, ↓k_neg, ↓k_not, ↓k_lt, ↓k_le, ↓k_gt, ↓k_ge, ↓k_eq, ↓k_ne, ↓k_lenC, ↓k_lenI, ↓k_lenT, ↓k_int, ↓k_max, ↓k_min, ↓k_isII, ↓k_isBI, ↓k_ix0, ↓k_ix1, ↓k_ix2, ↓k_set0, ↓k_set2, ↓k_auga, ↓k_augs, ↓k_eqL0, ↓k_neL0, ↓m_popI, ↓m_appI, ↓mutK_some, ↓k_rev, ↓k_sum, ↓k_ixZ, ↓k_listI, ↓walkI, ↓k_eqB, ↓k_neB, ↓k_intB, ↓k_isBB, ↓k_isIB, ↓k_isS, ↓k_eqLI, ↓k_neLI, ↓rng_one, ↓if_l0, ↓if_l1, ↓if_l2, ↓if_l3, ↓if_l4, ↓if_l5, ↓if_l6, ↓if_l7, ↓if_l8, ↓k_ixT0, ↓k_ixT1, ↓k_ixT2, ↓k_ixT3, ↓walkFI, ↓zipI, ↓p_comp2, ↓k_repI, ↓subK_I, ↓k_eqQt, ↓k_eqQf, ↓k_neQt, ↓k_neQf, ↓ki0, ↓ki1, ↓ki2, ↓ki3, ↓ki4, ↓ki5, ↓ki6, ↓ki7, ↓ki8, ↓ki9, ↓ki10, ↓ki11, ↓ki12, ↓ki13, ↓ki14, ↓ki15, ↓ki16, ↓ki17, ↓ki18, ↓ki19, ↓ki20, ↓ki21, ↓ki22, ↓ki23, ↓ki24, ↓ki25, ↓ki26, ↓ki27, ↓ki28, ↓ki29, ↓ki30, ↓ki31, ↓ki32, ↓ki33, ↓ki34, ↓ki35, ↓q_gs, ↓k_len1, ↓k_in1, ↓frzK_d, ↓frzK_dT, ↓frzK_dL, ↓rootK_d, ↓rootK_dL, ↓subK_d, ↓subK_dL, ↓k_ixTr0, ↓k_ixTr1, ↓k_lenTr, ↓k_tupTr, ↓walk_dL, ↓k_lendL, ↓q_mut1, ↓evI_rg3, ↓frzK_nd, ↓reduceIte, fnEnd_ret, fnEnd_nxt, fnEnd_exc, isOwn_t, List.map_cons, List.map_nil, List.cons_append, List.nil_append, List.append_nil, List.replicate_succ, List.replicate_zero, List.getD_cons_zero, List.getD_cons_succ, Bool.not_true, Bool.not_false, decide_true, decide_false, decide_eq_true_eq, decide_eq_false_iff_not, Bool.false_eq_true, Nat.zero_add, Nat.reduceAdd, Int.reduceEq, Int.reduceLT, Int.reduceLE, Nat.reduceEqDiff, reduceCtorEq, eq_self, not_true_eq_false, not_false_eq_true, Int.toNat_zero, ↓f1, f2, ↓f3, ↓f4, ↓f5]
      exact hK _ ⟨q2, _, _, _, _, rfl, rows_next R (by omega) (by omega) hhr, hq2.up (by omega)⟩
    · obtain ⟨hhr, f1, f2, f3, f4, f5⟩ := F hd hd rfl (by omega) (by omega)
      simp (disch := first | omega | assumption | decide) only [↓q_pk, ↓q_fz, ↓q_mv, ↓q_ci, ↓q_cb, ↓q_cn, ↓q_cs, ↓q_gi, ↓evF_op1, ↓q_op2, ↓q_cmp, ↓q_bc2, ↓evF_bc1, ↓evF_rev, ↓q_isi, ↓q_idx, ↓evF_chn, ↓evF_boo, ↓q_slc, ↓evF_tup, ↓evF_lst, ↓q_frz, ↓p_call, ↓q_xn, ↓q_xv, ↓q_xi, ↓p_comp1, ↓r_mut0, ↓if_own, ↓evB_nil, ↓evB_cons, ↓evS_nil, ↓evS_cons, ↓evOp_none, ↓evOp_some, ↓evP_nil, ↓evP_ix, ↓evI_seq, ↓evI_rg1, ↓evI_rg2, ↓evI_enu, ↓evI_zip, ↓runS_nil, ↓runS_cons, ↓q_asg, ↓run1_unp, ↓q_sti0, ↓q_aug, ↓run1_aui, ↓run1_exp, ↓run1_ife, ↓p_for, ↓p_whl, ↓run1_ret, ↓run1_retn, ↓run1_pas, ↓run1_rai, ↓evO_def, ↓evT_def, ↓getv0, ↓getvS, ↓setK0, ↓setKS, ↓getO0, ↓getOS, ↓rootK_i, ↓rootK_b, ↓rootK_s, ↓rootK_n, ↓rootK_c, ↓rootK_o, ↓rootK_I, ↓frzK_i, ↓frzK_b, ↓frzK_s, ↓frzK_n, ↓frzK_c, ↓frzK_I, ↓hidK_n, ↓hidK_s, ↓unhK_n, ↓unhK_s, ↓subK_n, ↓subK_i, ↓subK_b, ↓subK_s, ↓subK_x, ↓putK_c, ↓putK_n, ↓optv_some, ↓optl_some, ↓alone_none, ↓isB_bl, ↓isI_int, ↓putE_some, ↓k_add, ↓k_sub, ↓k_mod, ↓k_div, ↓k_mulL, ↓k_mulR, ↓k_p18, ↓k_p15, ↓k_p14, ↓k_neg, ↓k_not, ↓k_lt, ↓k_le, ↓k_gt, ↓k_ge, ↓k_eq, ↓k_ne, ↓k_lenC, ↓k_lenI, ↓k_lenT, ↓k_int, ↓k_max, ↓k_min, ↓k_isII, ↓k_isBI, ↓k_ix0, ↓k_ix1, ↓k_ix2, ↓k_set0, ↓k_set2, ↓k_auga, ↓k_augs, ↓k_eqL0, ↓k_neL0, ↓m_popI, ↓m_appI, ↓mutK_some, ↓k_rev, ↓k_sum, ↓k_ixZ, ↓k_listI, ↓walkI, ↓k_eqB, ↓k_neB, ↓k_intB, ↓k_isBB, ↓k_isIB, ↓k_isS, ↓k_eqLI, ↓k_neLI, ↓rng_one, ↓if_l0, ↓if_l1, ↓if_l2, ↓if_l3, ↓if_l4, ↓if_l5, ↓if_l6, ↓if_l7, ↓if_l8, ↓k_ixT0, ↓k_ixT1, ↓k_ixT2, ↓k_ixT3, ↓walkFI, ↓zipI, ↓p_comp2, ↓k_repI, ↓subK_I, ↓k_eqQt, ↓k_eqQf, ↓k_neQt, ↓k_neQf, ↓ki0, ↓ki1, ↓ki2, ↓ki3, ↓ki4, ↓ki5, ↓ki6, ↓ki7, ↓ki8, ↓ki9, ↓ki10, ↓ki11, ↓ki12, ↓ki13, ↓ki14, ↓ki15, ↓ki16, ↓ki17, ↓ki18, ↓ki19, ↓ki20, ↓ki21, ↓ki22, ↓ki23, ↓ki24, ↓ki25, ↓ki26, ↓ki27, ↓ki28, ↓ki29, ↓ki30, ↓ki31, ↓ki32, ↓ki33, ↓ki34, ↓ki35, ↓q_gs, ↓k_len1, ↓k_in1, ↓frzK_d, ↓frzK_dT, ↓frzK_dL, ↓rootK_d, ↓rootK_dL, ↓subK_d, ↓subK_dL, ↓k_ixTr0, ↓k_ixTr1, ↓k_lenTr, ↓k_tupTr, ↓walk_dL, ↓k_lendL, ↓q_mut1, ↓evI_rg3, ↓frzK_nd, ↓reduceIte, fnEnd_ret, fnEnd_nxt, fnEnd_exc, isOwn_t, List.map_cons, List.map_nil, List.cons_append, List.nil_append, List.append_nil, List.replicate_succ, List.replicate_zero, List.getD_cons_zero, List.getD_cons_succ, Bool.not_true, Bool.not_false, decide_true, decide_false, decide_eq_true_eq, decide_eq_false_iff_not, Bool.false_eq_true, Nat.zero_add, Nat.reduceAdd, Int.reduceEq, Int.reduceLT, Int.reduceLE, Nat.reduceEqDiff, reduceCtorEq, eq_self, not_true_eq_false, not_false_eq_true, Int.toNat_natCast, ↓f1, f2, ↓f3, ↓f4, ↓f5]
      exact hK _ ⟨q2, _, _, _, _, rfl, rows_next R (by omega) (by omega) hhr, hq2.up (by omega)⟩
  · rintro e ⟨q, rows, ds, o7, o8, rfl, R, hq⟩
    have hlen : (List.map (fun (n : Nat) => D.int (1 + (n : Int))) (List.range ((mny : Int) - 1).toNat)).length = mny - 1 := by
      rw [List.length_map, List.length_range]
      omega
    rw [hlen] at R hq
    have hlr := R.lr
    have hrep : ∀ kk : D → Fl, optv (op2D .mul (.lst true [.non]) (.int (mny : Int))) kk = kk (.lst true (List.replicate mny .non)) := fun kk => k_repN (by omega)
    have hrng : ∀ (e : Env) (kk : List D × Env → Fl), (rng3 (.int ((mny : Int) - 1)) (.int (-1)) (.int (-1)) e).fl kk = kk ((List.range mny).map fun (n : Nat) => D.int ((mny : Int) - 1 - (n : Int)), e) := fun e kk => by
      rw [rng3_is (by omega) (by omega) (by omega) (by omega)]
      congr 4
      omega
    simp (disch := first | omega | assumption | decide) only [↓q_pk, ↓q_fz, ↓q_mv, ↓q_ci, ↓q_cb, ↓q_cn, ↓q_cs, ↓q_gi, ↓evF_op1, ↓q_op2, ↓q_cmp, ↓q_bc2, ↓evF_bc1, ↓evF_rev, ↓q_isi, ↓q_idx, ↓evF_chn, ↓evF_boo, ↓q_slc, ↓evF_tup, ↓evF_lst, ↓q_frz, ↓p_call, ↓q_xn, ↓q_xv, ↓q_xi, ↓p_comp1, ↓r_mut0, ↓if_own, ↓evB_nil, ↓evB_cons, ↓evS_nil, ↓evS_cons, ↓evOp_none, ↓evOp_some, ↓evP_nil, ↓evP_ix, ↓evI_seq, ↓evI_rg1, ↓evI_rg2, ↓evI_enu, ↓evI_zip, ↓runS_nil, ↓runS_cons, ↓q_asg, ↓run1_unp, ↓q_sti0, ↓q_aug, ↓run1_aui, ↓run1_exp, ↓run1_ife, ↓p_for, ↓p_whl, ↓run1_ret, ↓run1_retn, ↓run1_pas, ↓run1_rai, ↓evO_def, ↓evT_def, ↓getv0, ↓getvS, ↓setK0, ↓setKS, ↓getO0, ↓getOS, ↓rootK_i, ↓rootK_b, ↓rootK_s, ↓rootK_n, ↓rootK_c, ↓rootK_o, ↓rootK_I, ↓frzK_i, ↓frzK_b, ↓frzK_s, ↓frzK_n, ↓frzK_c, ↓frzK_I, ↓hidK_n, ↓hidK_s, ↓unhK_n, ↓unhK_s, ↓subK_n, ↓subK_i, ↓subK_b, ↓subK_s, ↓subK_x, ↓putK_c, ↓putK_n, ↓optv_some, ↓optl_some, ↓alone_none, ↓isB_bl, ↓isI_int, ↓putE_some, ↓k_add, ↓k_sub, ↓k_mod, ↓k_div, ↓k_mulL, ↓k_mulR, ↓k_p18, ↓k_p15, ↓k_p14, ↓k_neg, ↓k_not, ↓k_lt, ↓k_le, ↓k_gt, ↓k_ge, ↓k_eq, ↓k_ne, ↓k_lenC, ↓k_lenI, ↓k_lenT, ↓k_int, ↓k_max, ↓k_min, ↓k_isII, ↓k_isBI, ↓k_ix0, ↓k_ix1, ↓k_ix2, ↓k_set0, ↓k_set2, ↓k_auga, ↓k_augs, ↓k_eqL0, ↓k_neL0, ↓m_popI, ↓m_appI, ↓mutK_some, ↓k_rev, ↓k_sum, ↓k_ixZ, ↓k_listI, ↓walkI, ↓k_eqB, ↓k_neB, ↓k_intB, ↓k_isBB, ↓k_isIB, ↓k_isS, ↓k_eqLI, ↓k_neLI, ↓rng_one, ↓if_l0, ↓if_l1, ↓if_l2, ↓if_l3, ↓if_l4, ↓if_l5, ↓if_l6, ↓if_l7, ↓if_l8, ↓k_ixT0, ↓k_ixT1, ↓k_ixT2, ↓k_ixT3, ↓walkFI, ↓zipI, ↓p_comp2, ↓k_repI, ↓subK_I, ↓k_eqQt, ↓k_eqQf, ↓k_neQt, ↓k_neQf, ↓ki0, ↓ki1, ↓ki2, ↓ki3, ↓ki4, ↓ki5, ↓ki6, ↓ki7, ↓ki8, ↓ki9, ↓ki10, ↓ki11, ↓ki12, ↓ki13, ↓ki14, ↓ki15, ↓ki16, ↓ki17, ↓ki18, ↓ki19, ↓ki20, ↓ki21, ↓ki22, ↓ki23, ↓ki24, ↓ki25, ↓ki26, ↓ki27, ↓ki28, ↓ki29, ↓ki30, ↓ki31, ↓ki32, ↓ki33, ↓ki34, ↓ki35, ↓q_gs, ↓k_len1, ↓k_in1, ↓frzK_d, ↓frzK_dT, ↓frzK_dL, ↓rootK_d, ↓rootK_dL, ↓subK_d, ↓subK_dL, ↓k_ixTr0, ↓k_ixTr1, ↓k_lenTr, ↓k_tupTr, ↓walk_dL, ↓k_lendL, ↓q_mut1, ↓evI_rg3, ↓frzK_nd, ↓reduceIte, fnEnd_ret, fnEnd_nxt, fnEnd_exc, isOwn_t, List.map_cons, List.map_nil, List.cons_append, List.nil_append, List.append_nil, List.replicate_succ, List.replicate_zero, List.getD_cons_zero, List.getD_cons_succ, Bool.not_true, Bool.not_false, decide_true, decide_false, decide_eq_true_eq, decide_eq_false_iff_not, Bool.false_eq_true, Nat.zero_add, Nat.reduceAdd, Int.reduceEq, Int.reduceLT, Int.reduceLE, Nat.reduceEqDiff, reduceCtorEq, eq_self, not_true_eq_false, not_false_eq_true, ↓hrep, ↓hrng]
    refine wp_seqT (wp_forN (fun i e => ∃ (q : Pl) (b : Bool) (td : List D) (T : Nat → Tr) (o7 o10 : Option D), e = [some q.d, some (.int most), some (.str ls), some (.int mny), some (.int way), some (.lst true (ds.map .int)), some (.lst b (rows.map (rowD b))), o7, o8, some (.lst true td), o10, none] ∧ td.length = mny ∧ q.ok (m + 4 + 2 * mny + 101 * i) ∧
        ∀ j, mny - i ≤ j → j < mny → td[j]? = some (T j).d ∧ (T j).inn ls ∧ ((T j).depth : Int) + ds.getD j 0 ≤ 31 ∧ (T j).size = 1 + ((rows.getD j []).map fun c => (T c).size).sum)
      ⟨q, true, _, fun _ => .nd 0 [], o7, none, rfl, List.length_replicate, hq.up (by omega), fun j h1 h2 => absurd h1 (by omega)⟩ ?_ ?_)
    · rintro i x e hx ⟨q, b, td, T, o7, o10, rfl, htl, hq, hT⟩
      have hi := (List.getElem?_eq_some_iff.mp hx).1
      rw [List.length_map, List.length_range] at hi
      rw [List.getElem?_map, List.getElem?_range hi] at hx
      obtain rfl := Option.some.inj hx
      refine ⟨_, rfl, fun K' hK => ?_⟩
      simp only [List.set_cons_succ, List.set_cons_zero]
      obtain ⟨kn, hkn, hk1⟩ : ∃ kn : Nat, (mny : Int) - 1 - (i : Int) = (kn : Int) ∧ kn + i + 1 = mny := ⟨mny - 1 - i, by omega, by omega⟩
      simp only [hkn]
      have hkr : kn < rows.length := by omega
      obtain ⟨rl, rc⟩ := R.ch kn rows[kn] (List.getElem?_eq_getElem hkr)
      have hidx : ∀ kk : D → Fl, optv (idxD (.lst false (rows.map (rowD false))) (.int (kn : Int))) kk = kk (.lst false (rows[kn].map fun c : Nat => .int (c : Int))) := fun kk => by
        rw [k_ixL (by rw [List.length_map]; exact hkr), List.getElem_map]
        rfl
      have hsub : froL (rows[kn].map fun c : Nat => D.int (c : Int)) = true := by
        have := row_fro rows[kn]
        simpa [rowD, D.fro] using this
      simp (disch := first | omega | assumption | decide) only [↓q_pk, ↓q_fz, ↓q_mv, ↓q_ci, ↓q_cb, ↓q_cn, ↓q_cs, ↓q_gi, ↓evF_op1, ↓q_op2, ↓q_cmp, ↓q_bc2, ↓evF_bc1, ↓evF_rev, ↓q_isi, ↓q_idx, ↓evF_chn, ↓evF_boo, ↓q_slc, ↓evF_tup, ↓evF_lst, ↓q_frz, ↓p_call, ↓q_xn, ↓q_xv, ↓q_xi, ↓p_comp1, ↓r_mut0, ↓if_own, ↓evB_nil, ↓evB_cons, ↓evS_nil, ↓evS_cons, ↓evOp_none, ↓evOp_some, ↓evP_nil, ↓evP_ix, ↓evI_seq, ↓evI_rg1, ↓evI_rg2, ↓evI_enu, ↓evI_zip, ↓runS_nil, ↓runS_cons, ↓q_asg, ↓run1_unp, ↓q_sti0, ↓q_aug, ↓run1_aui, ↓run1_exp, ↓run1_ife, ↓p_for, ↓p_whl, ↓run1_ret, ↓run1_retn, ↓run1_pas, ↓run1_rai, ↓evO_def, ↓evT_def, ↓getv0, ↓getvS, ↓setK0, ↓setKS, ↓getO0, ↓getOS, ↓rootK_i, ↓rootK_b, ↓rootK_s, ↓rootK_n, ↓rootK_c, ↓rootK_o, ↓rootK_I, ↓frzK_i, ↓frzK_b, ↓frzK_s, ↓frzK_n, ↓frzK_c, ↓frzK_I, ↓hidK_n, ↓hidK_s, ↓unhK_n, ↓unhK_s, ↓subK_n, ↓subK_i, ↓subK_b, ↓subK_s, ↓subK_x, ↓putK_c, ↓putK_n, ↓optv_some, ↓optl_some, ↓alone_none, ↓isB_bl, ↓isI_int, ↓putE_some, ↓k_add, ↓k_sub, ↓k_mod, ↓k_div, ↓k_mulL, ↓k_mulR, ↓k_p18, ↓k_p15, ↓k_p14, ↓k_neg, ↓k_not, ↓k_lt, ↓k_le, ↓k_gt, ↓k_ge, ↓k_eq, ↓k_ne, ↓k_lenC, ↓k_lenI, ↓k_lenT, ↓k_int, ↓k_max, ↓k_min, ↓k_isII, ↓k_isBI, ↓k_ix0, ↓k_ix1, ↓k_ix2, ↓k_set0, ↓k_set2, ↓k_auga, ↓k_augs, ↓k_eqL0, ↓k_neL0, ↓m_popI, ↓m_appI, ↓mutK_some, ↓k_rev, ↓k_sum, ↓k_ixZ, ↓k_listI, ↓walkI, ↓k_eqB, ↓k_neB, ↓k_intB, ↓k_isBB, ↓k_isIB, ↓k_isS, ↓k_eqLI, ↓k_neLI, ↓rng_one, ↓if_l0, ↓if_l1, ↓if_l2, ↓if_l3, ↓if_l4, ↓if_l5, ↓if_l6, ↓if_l7, ↓if_l8, ↓k_ixT0, ↓k_ixT1, ↓k_ixT2, ↓k_ixT3, ↓walkFI, ↓zipI, ↓p_comp2, ↓k_repI, ↓subK_I, ↓k_eqQt, ↓k_eqQf, ↓k_neQt, ↓k_neQf, ↓ki0, ↓ki1, ↓ki2, ↓ki3, ↓ki4, ↓ki5, ↓ki6, ↓ki7, ↓ki8, ↓ki9, ↓ki10, ↓ki11, ↓ki12, ↓ki13, ↓ki14, ↓ki15, ↓ki16, ↓ki17, ↓ki18, ↓ki19, ↓ki20, ↓ki21, ↓ki22, ↓ki23, ↓ki24, ↓ki25, ↓ki26, ↓ki27, ↓ki28, ↓ki29, ↓ki30, ↓ki31, ↓ki32, ↓ki33, ↓ki34, ↓ki35, ↓q_gs, ↓k_len1, ↓k_in1, ↓frzK_d, ↓frzK_dT, ↓frzK_dL, ↓rootK_d, ↓rootK_dL, ↓subK_d, ↓subK_dL, ↓k_ixTr0, ↓k_ixTr1, ↓k_lenTr, ↓k_tupTr, ↓walk_dL, ↓k_lendL, ↓q_mut1, ↓evI_rg3, ↓frzK_nd, ↓reduceIte, fnEnd_ret, fnEnd_nxt, fnEnd_exc, isOwn_t, List.map_cons, List.map_nil, List.cons_append, List.nil_append, List.append_nil, List.replicate_succ, List.replicate_zero, List.getD_cons_zero, List.getD_cons_succ, Bool.not_true, Bool.not_false, decide_true, decide_false, decide_eq_true_eq, decide_eq_false_iff_not, Bool.false_eq_true, Nat.zero_add, Nat.reduceAdd, Int.reduceEq, Int.reduceLT, Int.reduceLE, Nat.reduceEqDiff, reduceCtorEq, eq_self, not_true_eq_false, not_false_eq_true, ↓frzK_rows, ↓hidx, ↓subK_fr hsub, ↓frzK_lf hsub]
      refine wp_callT (c_mixed (fun c : Nat => D.int (c : Int)) (fun _ => rfl) (fun _ => rfl) k q _ rows[kn] hq (by omega)) ?_
      rintro r o ⟨bs, q1, rfl, hpm, hq1, rfl⟩
      have hbl := hpm.length_eq
      have hbf : froL (bs.map fun c : Nat => D.int (c : Int)) = true := froL_map fun _ _ => rfl
      simp (disch := first | omega | assumption | decide) only [↓q_pk, ↓q_fz, ↓q_mv, ↓q_ci, ↓q_cb, ↓q_cn, ↓q_cs, ↓q_gi, ↓evF_op1, ↓q_op2, ↓q_cmp, ↓q_bc2, ↓evF_bc1, ↓evF_rev, ↓q_isi, ↓q_idx, ↓evF_chn, ↓evF_boo, ↓q_slc, ↓evF_tup, ↓evF_lst, ↓q_frz, ↓p_call, ↓q_xn, ↓q_xv, ↓q_xi, ↓p_comp1, ↓r_mut0, ↓if_own, ↓evB_nil, ↓evB_cons, ↓evS_nil, ↓evS_cons, ↓evOp_none, ↓evOp_some, ↓evP_nil, ↓evP_ix, ↓evI_seq, ↓evI_rg1, ↓evI_rg2, ↓evI_enu, ↓evI_zip, ↓runS_nil, ↓runS_cons, ↓q_asg, ↓run1_unp, ↓q_sti0, ↓q_aug, ↓run1_aui, ↓run1_exp, ↓run1_ife, ↓p_for, ↓p_whl, ↓run1_ret, ↓run1_retn, ↓run1_pas, ↓run1_rai, ↓evO_def, ↓evT_def, ↓getv0, ↓getvS, ↓setK0, ↓setKS, ↓getO0, ↓getOS, ↓rootK_i, ↓rootK_b, ↓rootK_s, ↓rootK_n, ↓rootK_c, ↓rootK_o, ↓rootK_I, ↓frzK_i, ↓frzK_b, ↓frzK_s, ↓frzK_n, ↓frzK_c, ↓frzK_I, ↓hidK_n, ↓hidK_s, ↓unhK_n, ↓unhK_s, ↓subK_n, ↓subK_i, ↓subK_b, ↓subK_s, ↓subK_x, ↓putK_c, ↓putK_n, ↓optv_some, ↓optl_some, ↓alone_none, ↓isB_bl, ↓isI_int, ↓putE_some, ↓k_add, ↓k_sub, ↓k_mod, ↓k_div, ↓k_mulL, ↓k_mulR, ↓k_p18, ↓k_p15, ↓k_p14, ↓k_neg, ↓k_not, ↓k_lt, ↓k_le, ↓k_gt, ↓k_ge, ↓k_eq, ↓k_ne, ↓k_lenC, ↓k_lenI, ↓k_lenT, ↓k_int, ↓k_max, ↓k_min, ↓k_isII, ↓k_isBI, ↓k_ix0, ↓k_ix1, ↓k_ix2, ↓k_set0, ↓k_set2, ↓k_auga, ↓k_augs, ↓k_eqL0, ↓k_neL0, ↓m_popI, ↓m_appI, ↓mutK_some, ↓k_rev, ↓k_sum, ↓k_ixZ, ↓k_listI, ↓walkI, ↓k_eqB, ↓k_neB, ↓k_intB, ↓k_isBB, ↓k_isIB, ↓k_isS, ↓k_eqLI, ↓k_neLI, ↓rng_one, ↓if_l0, ↓if_l1, ↓if_l2, ↓if_l3, ↓if_l4, ↓if_l5, ↓if_l6, ↓if_l7, ↓if_l8, ↓k_ixT0, ↓k_ixT1, ↓k_ixT2, ↓k_ixT3, ↓walkFI, ↓zipI, ↓p_comp2, ↓k_repI, ↓subK_I, ↓k_eqQt, ↓k_eqQf, ↓k_neQt, ↓k_neQf, ↓ki0, ↓ki1, ↓ki2, ↓ki3, ↓ki4, ↓ki5, ↓ki6, ↓ki7, ↓ki8, ↓ki9, ↓ki10, ↓ki11, ↓ki12, ↓ki13, ↓ki14, ↓ki15, ↓ki16, ↓ki17, ↓ki18, ↓ki19, ↓ki20, ↓ki21, ↓ki22, ↓ki23, ↓ki24, ↓ki25, ↓ki26, ↓ki27, ↓ki28, ↓ki29, ↓ki30, ↓ki31, ↓ki32, ↓ki33, ↓ki34, ↓ki35, ↓q_gs, ↓k_len1, ↓k_in1, ↓frzK_d, ↓frzK_dT, ↓frzK_dL, ↓rootK_d, ↓rootK_dL, ↓subK_d, ↓subK_dL, ↓k_ixTr0, ↓k_ixTr1, ↓k_lenTr, ↓k_tupTr, ↓walk_dL, ↓k_lendL, ↓q_mut1, ↓evI_rg3, ↓frzK_nd, ↓reduceIte, fnEnd_ret, fnEnd_nxt, fnEnd_exc, isOwn_t, List.map_cons, List.map_nil, List.cons_append, List.nil_append, List.append_nil, List.replicate_succ, List.replicate_zero, List.getD_cons_zero, List.getD_cons_succ, Bool.not_true, Bool.not_false, decide_true, decide_false, decide_eq_true_eq, decide_eq_false_iff_not, Bool.false_eq_true, Nat.zero_add, Nat.reduceAdd, Int.reduceEq, Int.reduceLT, Int.reduceLE, Nat.reduceEqDiff, reduceCtorEq, eq_self, not_true_eq_false, not_false_eq_true, ↓walk_fro hbf]
      refine wp_compM bs (fun c : Nat => D.int (c : Int)) (fun c => (T c).d) (by omega) (fun c hc => ⟨_, rfl, ?_⟩) ?_
      · simp only [List.set_cons_succ, List.set_cons_zero]
        have hcr := rc c (hpm.mem_iff.mp hc)
        have hcT := (hT c (by omega) (by omega)).1
        have hix : ∀ kk : D → Fl, optv (idxD (.lst true td) (.int (c : Int))) kk = kk (T c).d := fun kk => by
          obtain ⟨h1, h2⟩ := List.getElem?_eq_some_iff.mp hcT
          rw [k_ixL h1, h2]
        simp (disch := first | omega | assumption | decide) only [↓q_pk, ↓q_fz, ↓q_mv, ↓q_ci, ↓q_cb, ↓q_cn, ↓q_cs, ↓q_gi, ↓evF_op1, ↓q_op2, ↓q_cmp, ↓q_bc2, ↓evF_bc1, ↓evF_rev, ↓q_isi, ↓q_idx, ↓evF_chn, ↓evF_boo, ↓q_slc, ↓evF_tup, ↓evF_lst, ↓q_frz, ↓p_call, ↓q_xn, ↓q_xv, ↓q_xi, ↓p_comp1, ↓r_mut0, ↓if_own, ↓evB_nil, ↓evB_cons, ↓evS_nil, ↓evS_cons, ↓evOp_none, ↓evOp_some, ↓evP_nil, ↓evP_ix, ↓evI_seq, ↓evI_rg1, ↓evI_rg2, ↓evI_enu, ↓evI_zip, ↓runS_nil, ↓runS_cons, ↓q_asg, ↓run1_unp, ↓q_sti0, ↓q_aug, ↓run1_aui, ↓run1_exp, ↓run1_ife, ↓p_for, ↓p_whl, ↓run1_ret, ↓run1_retn, ↓run1_pas, ↓run1_rai, ↓evO_def, ↓evT_def, ↓getv0, ↓getvS, ↓setK0, ↓setKS, ↓getO0, ↓getOS, ↓rootK_i, ↓rootK_b, ↓rootK_s, ↓rootK_n, ↓rootK_c, ↓rootK_o, ↓rootK_I, ↓frzK_i, ↓frzK_b, ↓frzK_s, ↓frzK_n, ↓frzK_c, ↓frzK_I, ↓hidK_n, ↓hidK_s, ↓unhK_n, ↓unhK_s, ↓subK_n, ↓subK_i, ↓subK_b, ↓subK_s, ↓subK_x, ↓putK_c, ↓putK_n, ↓optv_some, ↓optl_some, ↓alone_none, ↓isB_bl, ↓isI_int, ↓putE_some, ↓k_add, ↓k_sub, ↓k_mod, ↓k_div, ↓k_mulL, ↓k_mulR, ↓k_p18, ↓k_p15, ↓k_p14, ↓k_neg, ↓k_not, ↓k_lt, ↓k_le, ↓k_gt, ↓k_ge, ↓k_eq, ↓k_ne, ↓k_lenC, ↓k_lenI, ↓k_lenT, ↓k_int, ↓k_max, ↓k_min, ↓k_isII, ↓k_isBI, ↓k_ix0, ↓k_ix1, ↓k_ix2, ↓k_set0, ↓k_set2, ↓k_auga, ↓k_augs, ↓k_eqL0, ↓k_neL0, ↓m_popI, ↓m_appI, ↓mutK_some, ↓k_rev, ↓k_sum, ↓k_ixZ, ↓k_listI, ↓walkI, ↓k_eqB, ↓k_neB, ↓k_intB, ↓k_isBB, ↓k_isIB, ↓k_isS, ↓k_eqLI, ↓k_neLI, ↓rng_one, ↓if_l0, ↓if_l1, ↓if_l2, ↓if_l3, ↓if_l4, ↓if_l5, ↓if_l6, ↓if_l7, ↓if_l8, ↓k_ixT0, ↓k_ixT1, ↓k_ixT2, ↓k_ixT3, ↓walkFI, ↓zipI, ↓p_comp2, ↓k_repI, ↓subK_I, ↓k_eqQt, ↓k_eqQf, ↓k_neQt, ↓k_neQf, ↓ki0, ↓ki1, ↓ki2, ↓ki3, ↓ki4, ↓ki5, ↓ki6, ↓ki7, ↓ki8, ↓ki9, ↓ki10, ↓ki11, ↓ki12, ↓ki13, ↓ki14, ↓ki15, ↓ki16, ↓ki17, ↓ki18, ↓ki19, ↓ki20, ↓ki21, ↓ki22, ↓ki23, ↓ki24, ↓ki25, ↓ki26, ↓ki27, ↓ki28, ↓ki29, ↓ki30, ↓ki31, ↓ki32, ↓ki33, ↓ki34, ↓ki35, ↓q_gs, ↓k_len1, ↓k_in1, ↓frzK_d, ↓frzK_dT, ↓frzK_dL, ↓rootK_d, ↓rootK_dL, ↓subK_d, ↓subK_dL, ↓k_ixTr0, ↓k_ixTr1, ↓k_lenTr, ↓k_tupTr, ↓walk_dL, ↓k_lendL, ↓q_mut1, ↓evI_rg3, ↓frzK_nd, ↓reduceIte, fnEnd_ret, fnEnd_nxt, fnEnd_exc, isOwn_t, List.map_cons, List.map_nil, List.cons_append, List.nil_append, List.append_nil, List.replicate_succ, List.replicate_zero, List.getD_cons_zero, List.getD_cons_succ, Bool.not_true, Bool.not_false, decide_true, decide_false, decide_eq_true_eq, decide_eq_false_iff_not, Bool.false_eq_true, Nat.zero_add, Nat.reduceAdd, Int.reduceEq, Int.reduceLT, Int.reduceLE, Nat.reduceEqDiff, reduceCtorEq, eq_self, not_true_eq_false, not_false_eq_true, ↓hix]
        exact wp_retP ⟨rfl, rfl⟩
      · have hdl : (bs.map fun c => (T c).d) = dL (bs.map T) := by rw [dL_map, List.map_map]; rfl
        rw [hdl]
        simp (disch := first | omega | assumption | decide) only [↓q_pk, ↓q_fz, ↓q_mv, ↓q_ci, ↓q_cb, ↓q_cn, ↓q_cs, ↓q_gi, ↓evF_op1, ↓q_op2, ↓q_cmp, ↓q_bc2, ↓evF_bc1, ↓evF_rev, ↓q_isi, ↓q_idx, ↓evF_chn, ↓evF_boo, ↓q_slc, ↓evF_tup, ↓evF_lst, ↓q_frz, ↓p_call, ↓q_xn, ↓q_xv, ↓q_xi, ↓p_comp1, ↓r_mut0, ↓if_own, ↓evB_nil, ↓evB_cons, ↓evS_nil, ↓evS_cons, ↓evOp_none, ↓evOp_some, ↓evP_nil, ↓evP_ix, ↓evI_seq, ↓evI_rg1, ↓evI_rg2, ↓evI_enu, ↓evI_zip, ↓runS_nil, ↓runS_cons, ↓q_asg, ↓run1_unp, ↓q_sti0, ↓q_aug, ↓run1_aui, ↓run1_exp, ↓run1_ife, ↓p_for, ↓p_whl, ↓run1_ret, ↓run1_retn, ↓run1_pas, ↓run1_rai, ↓evO_def, ↓evT_def, ↓getv0, ↓getvS, ↓setK0, ↓setKS, ↓getO0, ↓getOS, ↓rootK_i, ↓rootK_b, ↓rootK_s, ↓rootK_n, ↓rootK_c, ↓rootK_o, ↓rootK_I, ↓frzK_i, ↓frzK_b, ↓frzK_s, ↓frzK_n, ↓frzK_c, ↓frzK_I, ↓hidK_n, ↓hidK_s, ↓unhK_n, ↓unhK_s, ↓subK_n, ↓subK_i, ↓subK_b, ↓subK_s, ↓subK_x, ↓putK_c, ↓putK_n, ↓optv_some, ↓optl_some, ↓alone_none, ↓isB_bl, ↓isI_int, ↓putE_some, ↓k_add, ↓k_sub, ↓k_mod, ↓k_div, ↓k_mulL, ↓k_mulR, ↓k_p18, ↓k_p15, ↓k_p14, ↓k_neg, ↓k_not, ↓k_lt, ↓k_le, ↓k_gt, ↓k_ge, ↓k_eq, ↓k_ne, ↓k_lenC, ↓k_lenI, ↓k_lenT, ↓k_int, ↓k_max, ↓k_min, ↓k_isII, ↓k_isBI, ↓k_ix0, ↓k_ix1, ↓k_ix2, ↓k_set0, ↓k_set2, ↓k_auga, ↓k_augs, ↓k_eqL0, ↓k_neL0, ↓m_popI, ↓m_appI, ↓mutK_some, ↓k_rev, ↓k_sum, ↓k_ixZ, ↓k_listI, ↓walkI, ↓k_eqB, ↓k_neB, ↓k_intB, ↓k_isBB, ↓k_isIB, ↓k_isS, ↓k_eqLI, ↓k_neLI, ↓rng_one, ↓if_l0, ↓if_l1, ↓if_l2, ↓if_l3, ↓if_l4, ↓if_l5, ↓if_l6, ↓if_l7, ↓if_l8, ↓k_ixT0, ↓k_ixT1, ↓k_ixT2, ↓k_ixT3, ↓walkFI, ↓zipI, ↓p_comp2, ↓k_repI, ↓subK_I, ↓k_eqQt, ↓k_eqQf, ↓k_neQt, ↓k_neQf, ↓ki0, ↓ki1, ↓ki2, ↓ki3, ↓ki4, ↓ki5, ↓ki6, ↓ki7, ↓ki8, ↓ki9, ↓ki10, ↓ki11, ↓ki12, ↓ki13, ↓ki14, ↓ki15, ↓ki16, ↓ki17, ↓ki18, ↓ki19, ↓ki20, ↓ki21, ↓ki22, ↓ki23, ↓ki24, ↓ki25, ↓ki26, ↓ki27, ↓ki28, ↓ki29, ↓ki30, ↓ki31, ↓ki32, ↓ki33, ↓ki34, ↓ki35, ↓q_gs, ↓k_len1, ↓k_in1, ↓frzK_d, ↓frzK_dT, ↓frzK_dL, ↓rootK_d, ↓rootK_dL, ↓subK_d, ↓subK_dL, ↓k_ixTr0, ↓k_ixTr1, ↓k_lenTr, ↓k_tupTr, ↓walk_dL, ↓k_lendL, ↓q_mut1, ↓evI_rg3, ↓frzK_nd, ↓reduceIte, fnEnd_ret, fnEnd_nxt, fnEnd_exc, isOwn_t, List.map_cons, List.map_nil, List.cons_append, List.nil_append, List.append_nil, List.replicate_succ, List.replicate_zero, List.getD_cons_zero, List.getD_cons_succ, Bool.not_true, Bool.not_false, decide_true, decide_false, decide_eq_true_eq, decide_eq_false_iff_not, Bool.false_eq_true, Nat.zero_add, Nat.reduceAdd, Int.reduceEq, Int.reduceLT, Int.reduceLE, Nat.reduceEqDiff, reduceCtorEq, eq_self, not_true_eq_false, not_false_eq_true, ↓k_lenS (show ls.length ≤ 16777216 by omega)]
        have hls : 0 < ls.length := List.length_pos_iff.mpr hl0
        refine wp_callT (c_take (k + 1) q1 _ hq1 ls.length (by omega) (by omega) (by omega)) ?_
        rintro r o ⟨v, q2, rfl, g0, g1, hq2, rfl⟩
        obtain ⟨l, hl1, hl2⟩ := k_ixS g0 g1 hl
        have hset : ∀ kk : D → Fl, optv (setD (.lst true td) (.int (kn : Int)) (Tr.nd l (bs.map T)).d) kk = kk (.lst true (td.set kn (Tr.nd l (bs.map T)).d)) := fun kk => k_set (by omega)
        simp (disch := first | omega | assumption | decide) only [↓q_pk, ↓q_fz, ↓q_mv, ↓q_ci, ↓q_cb, ↓q_cn, ↓q_cs, ↓q_gi, ↓evF_op1, ↓q_op2, ↓q_cmp, ↓q_bc2, ↓evF_bc1, ↓evF_rev, ↓q_isi, ↓q_idx, ↓evF_chn, ↓evF_boo, ↓q_slc, ↓evF_tup, ↓evF_lst, ↓q_frz, ↓p_call, ↓q_xn, ↓q_xv, ↓q_xi, ↓p_comp1, ↓r_mut0, ↓if_own, ↓evB_nil, ↓evB_cons, ↓evS_nil, ↓evS_cons, ↓evOp_none, ↓evOp_some, ↓evP_nil, ↓evP_ix, ↓evI_seq, ↓evI_rg1, ↓evI_rg2, ↓evI_enu, ↓evI_zip, ↓runS_nil, ↓runS_cons, ↓q_asg, ↓run1_unp, ↓q_sti0, ↓q_aug, ↓run1_aui, ↓run1_exp, ↓run1_ife, ↓p_for, ↓p_whl, ↓run1_ret, ↓run1_retn, ↓run1_pas, ↓run1_rai, ↓evO_def, ↓evT_def, ↓getv0, ↓getvS, ↓setK0, ↓setKS, ↓getO0, ↓getOS, ↓rootK_i, ↓rootK_b, ↓rootK_s, ↓rootK_n, ↓rootK_c, ↓rootK_o, ↓rootK_I, ↓frzK_i, ↓frzK_b, ↓frzK_s, ↓frzK_n, ↓frzK_c, ↓frzK_I, ↓hidK_n, ↓hidK_s, ↓unhK_n, ↓unhK_s, ↓subK_n, ↓subK_i, ↓subK_b, ↓subK_s, ↓subK_x, ↓putK_c, ↓putK_n, ↓optv_some, ↓optl_some, ↓alone_none, ↓isB_bl, ↓isI_int, ↓putE_some, ↓k_add, ↓k_sub, ↓k_mod, ↓k_div, ↓k_mulL, ↓k_mulR, ↓k_p18, ↓k_p15, ↓k_p14, ↓k_neg, ↓k_not, ↓k_lt, ↓k_le, ↓k_gt, ↓k_ge, ↓k_eq, ↓k_ne, ↓k_lenC, ↓k_lenI, ↓k_lenT, ↓k_int, ↓k_max, ↓k_min, ↓k_isII, ↓k_isBI, ↓k_ix0, ↓k_ix1, ↓k_ix2, ↓k_set0, ↓k_set2, ↓k_auga, ↓k_augs, ↓k_eqL0, ↓k_neL0, ↓m_popI, ↓m_appI, ↓mutK_some, ↓k_rev, ↓k_sum, ↓k_ixZ, ↓k_listI, ↓walkI, ↓k_eqB, ↓k_neB, ↓k_intB, ↓k_isBB, ↓k_isIB, ↓k_isS, ↓k_eqLI, ↓k_neLI, ↓rng_one, ↓if_l0, ↓if_l1, ↓if_l2, ↓if_l3, ↓if_l4, ↓if_l5, ↓if_l6, ↓if_l7, ↓if_l8, ↓k_ixT0, ↓k_ixT1, ↓k_ixT2, ↓k_ixT3, ↓walkFI, ↓zipI, ↓p_comp2, ↓k_repI, ↓subK_I, ↓k_eqQt, ↓k_eqQf, ↓k_neQt, ↓k_neQf, ↓ki0, ↓ki1, ↓ki2, ↓ki3, ↓ki4, ↓ki5, ↓ki6, ↓ki7, ↓ki8, ↓ki9, ↓ki10, ↓ki11, ↓ki12, ↓ki13, ↓ki14, ↓ki15, ↓ki16, ↓ki17, ↓ki18, ↓ki19, ↓ki20, ↓ki21, ↓ki22, ↓ki23, ↓ki24, ↓ki25, ↓ki26, ↓ki27, ↓ki28, ↓ki29, ↓ki30, ↓ki31, ↓ki32, ↓ki33, ↓ki34, ↓ki35, ↓q_gs, ↓k_len1, ↓k_in1, ↓frzK_d, ↓frzK_dT, ↓frzK_dL, ↓rootK_d, ↓rootK_dL, ↓subK_d, ↓subK_dL, ↓k_ixTr0, ↓k_ixTr1, ↓k_lenTr, ↓k_tupTr, ↓walk_dL, ↓k_lendL, ↓q_mut1, ↓evI_rg3, ↓frzK_nd, ↓reduceIte, fnEnd_ret, fnEnd_nxt, fnEnd_exc, isOwn_t, List.map_cons, List.map_nil, List.cons_append, List.nil_append, List.append_nil, List.replicate_succ, List.replicate_zero, List.getD_cons_zero, List.getD_cons_succ, Bool.not_true, Bool.not_false, decide_true, decide_false, decide_eq_true_eq, decide_eq_false_iff_not, Bool.false_eq_true, Nat.zero_add, Nat.reduceAdd, Int.reduceEq, Int.reduceLT, Int.reduceLE, Nat.reduceEqDiff, reduceCtorEq, eq_self, not_true_eq_false, not_false_eq_true, ↓hl2, ↓hset]
        refine hK _ ⟨q2, _, _, fun j => if j = kn then .nd l (bs.map T) else T j, _, _, rfl, by rw [List.length_set]; exact htl, hq2.up (by omega), fun j j1 j2 => ?_⟩
        have hne : ∀ c ∈ rows.getD j [], kn < c := fun c hc => by
          have hj : j < rows.length := by omega
          rw [getD_of hj] at hc
          have := (R.ch j rows[j] (List.getElem?_eq_getElem hj)).2 c hc
          omega
        have hsum : (((rows.getD j []).map fun c => (if c = kn then Tr.nd l (bs.map T) else T c).size).sum) = ((rows.getD j []).map fun c => (T c).size).sum := by
          congr 1
          refine List.map_congr_left fun c hc => ?_
          rw [if_neg (by have := hne c hc; omega)]
        by_cases hj : j = kn
        · subst hj
          dsimp only
          rw [if_pos rfl, hsum]
          refine ⟨by rw [List.getElem?_set_self (by omega)], ⟨hl1, innL_of fun t ht => ?_⟩, ?_, ?_⟩
          · obtain ⟨c, hc, rfl⟩ := List.mem_map.mp ht
            have hcr := rc c (hpm.mem_iff.mp hc)
            exact (hT c (by omega) (by omega)).2.1
          · have hdj := R.dp j (by omega)
            have : depthL (bs.map T) ≤ (30 - ds.getD j 0).toNat := depthL_le fun t ht => by
              obtain ⟨c, hc, rfl⟩ := List.mem_map.mp ht
              have hcr := rc c (hpm.mem_iff.mp hc)
              have := (hT c (by omega) (by omega)).2.2.1
              omega
            rw [Tr.depth]
            omega
          · rw [Tr.size, sizeL_sum, List.map_map, getD_of hkr]
            congr 1
            exact (hpm.map _).sum_nat
        · dsimp only
          rw [if_neg hj, hsum]
          obtain ⟨a1, a2⟩ := hT j (by omega) j2
          exact ⟨by rw [List.getElem?_set_ne (by omega)]; exact a1, a2⟩
    · rintro e ⟨q, b, td, T, o7, o10, rfl, htl, hq, hT⟩
      have hlen2 : ((List.range mny).map fun (n : Nat) => D.int ((mny : Int) - 1 - (n : Int))).length = mny := by rw [List.length_map, List.length_range]
      rw [hlen2] at hT hq
      have h0 := hT 0 (by omega) (by omega)
      have hix : ∀ kk : D → Fl, optv (idxD (.lst true td) (.int 0)) kk = kk (T 0).d := fun kk => by
        obtain ⟨h1, h2⟩ := List.getElem?_eq_some_iff.mp h0.1
        have := k_ixL (o := true) (k := kk) h1
        rw [h2] at this
        exact this
      simp (disch := first | omega | assumption | decide) only [↓q_pk, ↓q_fz, ↓q_mv, ↓q_ci, ↓q_cb, ↓q_cn, ↓q_cs, ↓q_gi, ↓evF_op1, ↓q_op2, ↓q_cmp, ↓q_bc2, ↓evF_bc1, ↓evF_rev, ↓q_isi, ↓q_idx, ↓evF_chn, ↓evF_boo, ↓q_slc, ↓evF_tup, ↓evF_lst, ↓q_frz, ↓p_call, ↓q_xn, ↓q_xv, ↓q_xi, ↓p_comp1, ↓r_mut0, ↓if_own, ↓evB_nil, ↓evB_cons, ↓evS_nil, ↓evS_cons, ↓evOp_none, ↓evOp_some, ↓evP_nil, ↓evP_ix, ↓evI_seq, ↓evI_rg1, ↓evI_rg2, ↓evI_enu, ↓evI_zip, ↓runS_nil, ↓runS_cons, ↓q_asg, ↓run1_unp, ↓q_sti0, ↓q_aug, ↓run1_aui, ↓run1_exp, ↓run1_ife, ↓p_for, ↓p_whl, ↓run1_ret, ↓run1_retn, ↓run1_pas, ↓run1_rai, ↓evO_def, ↓evT_def, ↓getv0, ↓getvS, ↓setK0, ↓setKS, ↓getO0, ↓getOS, ↓rootK_i, ↓rootK_b, ↓rootK_s, ↓rootK_n, ↓rootK_c, ↓rootK_o, ↓rootK_I, ↓frzK_i, ↓frzK_b, ↓frzK_s, ↓frzK_n, ↓frzK_c, ↓frzK_I, ↓hidK_n, ↓hidK_s, ↓unhK_n, ↓unhK_s, ↓subK_n, ↓subK_i, ↓subK_b, ↓subK_s, ↓subK_x, ↓putK_c, ↓putK_n, ↓optv_some, ↓optl_some, ↓alone_none, ↓isB_bl, ↓isI_int, ↓putE_some, ↓k_add, ↓k_sub, ↓k_mod, ↓k_div, ↓k_mulL, ↓k_mulR, ↓k_p18, ↓k_p15, ↓k_p14, ↓k_neg, ↓k_not, ↓k_lt, ↓k_le, ↓k_gt, ↓k_ge, ↓k_eq, ↓k_ne, ↓k_lenC, ↓k_lenI, ↓k_lenT, ↓k_int, ↓k_max, ↓k_min, ↓k_isII, ↓k_isBI, ↓k_ix0, ↓k_ix1, ↓k_ix2, ↓k_set0, ↓k_set2, ↓k_auga, ↓k_augs, ↓k_eqL0, ↓k_neL0, ↓m_popI, ↓m_appI, ↓mutK_some, ↓k_rev, ↓k_sum, ↓k_ixZ, ↓k_listI, ↓walkI, ↓k_eqB, ↓k_neB, ↓k_intB, ↓k_isBB, ↓k_isIB, ↓k_isS, ↓k_eqLI, ↓k_neLI, ↓rng_one, ↓if_l0, ↓if_l1, ↓if_l2, ↓if_l3, ↓if_l4, ↓if_l5, ↓if_l6, ↓if_l7, ↓if_l8, ↓k_ixT0, ↓k_ixT1, ↓k_ixT2, ↓k_ixT3, ↓walkFI, ↓zipI, ↓p_comp2, ↓k_repI, ↓subK_I, ↓k_eqQt, ↓k_eqQf, ↓k_neQt, ↓k_neQf, ↓ki0, ↓ki1, ↓ki2, ↓ki3, ↓ki4, ↓ki5, ↓ki6, ↓ki7, ↓ki8, ↓ki9, ↓ki10, ↓ki11, ↓ki12, ↓ki13, ↓ki14, ↓ki15, ↓ki16, ↓ki17, ↓ki18, ↓ki19, ↓ki20, ↓ki21, ↓ki22, ↓ki23, ↓ki24, ↓ki25, ↓ki26, ↓ki27, ↓ki28, ↓ki29, ↓ki30, ↓ki31, ↓ki32, ↓ki33, ↓ki34, ↓ki35, ↓q_gs, ↓k_len1, ↓k_in1, ↓frzK_d, ↓frzK_dT, ↓frzK_dL, ↓rootK_d, ↓rootK_dL, ↓subK_d, ↓subK_dL, ↓k_ixTr0, ↓k_ixTr1, ↓k_lenTr, ↓k_tupTr, ↓walk_dL, ↓k_lendL, ↓q_mut1, ↓evI_rg3, ↓frzK_nd, ↓reduceIte, fnEnd_ret, fnEnd_nxt, fnEnd_exc, isOwn_t, List.map_cons, List.map_nil, List.cons_append, List.nil_append, List.append_nil, List.replicate_succ, List.replicate_zero, List.getD_cons_zero, List.getD_cons_succ, Bool.not_true, Bool.not_false, decide_true, decide_false, decide_eq_true_eq, decide_eq_false_iff_not, Bool.false_eq_true, Nat.zero_add, Nat.reduceAdd, Int.reduceEq, Int.reduceLT, Int.reduceLE, Nat.reduceEqDiff, reduceCtorEq, eq_self, not_true_eq_false, not_false_eq_true, ↓hix]
      refine wp_ret ⟨T 0, q, rfl, h0.2.1, ?_, ?_, hq.up (by omega), rfl⟩
      · have h1 := sumR_all (fun j => (T j).size) rows 0 fun j r hj => by
          have hj' := (List.getElem?_eq_some_iff.mp hj)
          rw [Nat.zero_add, (hT j (by omega) (by have := hj'.1; omega)).2.2.2, getD_of hj'.1, hj'.2]
        rw [hlr, R.sm] at h1
        have h2 : sumFrom (fun j => (T j).size) 0 (mny - 1 + 1) = (T 0).size + sumFrom (fun j => (T j).size) 1 (mny - 1) := rfl
        rw [h2] at h1
        omega
      · have := h0.2.2.1
        have := R.d0
        omega

end K02
end VI

set_option maxRecDepth 100000
set_option maxHeartbeats 4000000
namespace VI
namespace K02
theorem c_mixT (k : Nat) (p : Pl) (m : Int) (ls : List Nat) (ts : List Tr) (hi : innL ls ts) (hls : ∀ l ∈ ls, 97 ≤ l ∧ l ≤ 122) (hm : p.ok m) (hl : m + ts.length ≤ 1000000) :
    Gives (callF P (k + 2) "_law_mixed_up" [0] [p.d, .lst false (dL ts)]) fun r o => ∃ (us : List Tr) (p' : Pl), r = .lst true (dL us) ∧ us.Perm ts ∧ p'.ok (m + ts.length) ∧ o = [some p'.d] := by
  have ht : ts.attach.map Subtype.val = ts := List.attach_map_subtype_val ts
  have h := c_mixed (fun t : {t // t ∈ ts} => t.1.d) (fun t => Tr.d_fro t.1) (fun t => Tr.d_plain t.1 (Tr.inn_ok hls _ (innL_mem hi _ t.2))) k p m ts.attach hm (by rw [List.length_attach]; exact hl)
  have e : ts.attach.map (fun t : {t // t ∈ ts} => t.1.d) = dL ts := by
    have := congrArg (List.map Tr.d) ht
    rw [List.map_map] at this
    rw [dL_map]
    exact this
  rw [e] at h
  refine h.imp fun r o ⟨bs, p', h1, h2, h3, h4⟩ => ⟨bs.map Subtype.val, p', ?_, ?_, ?_, h4⟩
  · rw [h1, dL_map, List.map_map]
    rfl
  · have := h2.map Subtype.val
    rwa [ht] at this
  · rwa [List.length_attach] at h3
theorem c_shuf (ls : List Nat) (hls : ∀ l ∈ ls, 97 ≤ l ∧ l ≤ 122) : ∀ (t : Tr) (n k : Nat) (p : Pl) (m : Int), t.inn ls → t.size ≤ 1000 → t.depth ≤ n → p.ok m → m + t.size - 1 ≤ 1000000 →
    Gives (callF P (k + 2 + n) "_law_shuffled" [0] [p.d, t.d]) fun r o => ∃ (u : Tr) (p' : Pl), r = u.dT ∧ u.like t ∧ p'.ok (m + t.size - 1) ∧ o = [some p'.d] := by
  refine Tr.ind fun l cs ih => ?_
  intro n k p m hi hs hd hp hm
  obtain _ | n := n
  · rw [Tr.depth] at hd
    omega
  rw [Tr.size] at hs hm
  rw [Tr.depth] at hd
  have hcl := len_sizeL cs
  refine gives_fn (k := k + 2 + n) P__law_shuffled rfl rfl ?_
  simp only [fn__law_shuffled, List.map_cons, List.map_nil, List.cons_append, List.nil_append, List.append_nil, List.replicate_succ, List.replicate_zero, Nat.reduceSub, Nat.sub_self]
  have e1 : k + 2 + n = (k + n) + 2 := by omega
  simp (disch := first | omega | assumption | decide) only [↓q_pk, ↓q_fz, ↓q_mv, ↓q_ci, ↓q_cb, ↓q_cn, ↓q_cs, ↓q_gi, ↓evF_op1, ↓q_op2, ↓q_cmp, ↓q_bc2, ↓evF_bc1, ↓evF_rev, ↓q_isi, ↓q_idx, ↓evF_chn, ↓evF_boo, ↓q_slc, ↓evF_tup, ↓evF_lst, ↓q_frz, ↓p_call, ↓q_xn, ↓q_xv, ↓q_xi, ↓p_comp1, ↓r_mut0, ↓if_own, ↓evB_nil, ↓evB_cons, ↓evS_nil, ↓evS_cons, ↓evOp_none, ↓evOp_some, ↓evP_nil, ↓evP_ix, ↓evI_seq, ↓evI_rg1, ↓evI_rg2, ↓evI_enu, ↓evI_zip, ↓runS_nil, ↓runS_cons, ↓q_asg, ↓run1_unp, ↓q_sti0, ↓q_aug, ↓run1_aui, ↓run1_exp, ↓run1_ife, ↓p_for, ↓p_whl, ↓run1_ret, ↓run1_retn, ↓run1_pas, ↓run1_rai, ↓evO_def, ↓evT_def, ↓getv0, ↓getvS, ↓setK0, ↓setKS, ↓getO0, ↓getOS, ↓rootK_i, ↓rootK_b, ↓rootK_s, ↓rootK_n, ↓rootK_c, ↓rootK_o, ↓rootK_I, ↓frzK_i, ↓frzK_b, ↓frzK_s, ↓frzK_n, ↓frzK_c, ↓frzK_I, ↓hidK_n, ↓hidK_s, ↓unhK_n, ↓unhK_s, ↓subK_n, ↓subK_i, ↓subK_b, ↓subK_s, ↓subK_x, ↓putK_c, ↓putK_n, ↓optv_some, ↓optl_some, ↓alone_none, ↓isB_bl, ↓isI_int, ↓putE_some, ↓k_add, ↓k_sub, ↓k_mod, ↓k_div, ↓k_mulL, ↓k_mulR, ↓k_p18, ↓k_p15, ↓k_p14, ↓k_neg, ↓k_not, ↓k_lt, ↓k_le, ↓k_gt, ↓k_ge, ↓k_eq, ↓k_ne, ↓k_lenC, ↓k_lenI, ↓k_lenT, ↓k_int, ↓k_max, ↓k_min, ↓k_isII, ↓k_isBI, ↓k_ix0, ↓k_ix1, ↓k_ix2, ↓k_set0, ↓k_set2, ↓k_auga, ↓k_augs, ↓k_eqL0, ↓k_neL0, ↓m_popI, ↓m_appI, ↓mutK_some, ↓k_rev, ↓k_sum, ↓k_ixZ, ↓k_listI, ↓walkI, ↓k_eqB, ↓k_neB, ↓k_intB, ↓k_isBB, ↓k_isIB, ↓k_isS, ↓k_eqLI, ↓k_neLI, ↓rng_one, ↓if_l0, ↓if_l1, ↓if_l2, ↓if_l3, ↓if_l4, ↓if_l5, ↓if_l6, ↓if_l7, ↓if_l8, ↓k_ixT0, ↓k_ixT1, ↓k_ixT2, ↓k_ixT3, ↓walkFI, ↓zipI, ↓p_comp2, ↓k_repI, ↓subK_I, ↓k_eqQt, ↓k_eqQf, ↓k_neQt, ↓k_neQf, ↓ki0, ↓ki1, ↓ki2, ↓ki3, ↓ki4, ↓ki5, ↓ki6, ↓ki7, ↓ki8, ↓ki9, ↓ki10, ↓ki11, ↓ki12, ↓ki13, ↓ki14, ↓ki15, ↓ki16, ↓ki17, ↓ki18, ↓ki19, ↓ki20, ↓ki21, ↓ki22, ↓ki23, ↓ki24, ↓ki25, ↓ki26, ↓ki27, ↓ki28, ↓ki29, ↓ki30, ↓ki31, ↓ki32, ↓ki33, ↓ki34, ↓ki35, ↓q_gs, ↓k_len1, ↓k_in1, ↓frzK_d, ↓frzK_dT, ↓frzK_dL, ↓rootK_d, ↓rootK_dL, ↓subK_d, ↓subK_dL, ↓k_ixTr0, ↓k_ixTr1, ↓k_lenTr, ↓k_tupTr, ↓walk_dL, ↓k_lendL, ↓q_mut1, ↓evI_rg3, ↓frzK_nd, ↓reduceIte, fnEnd_ret, fnEnd_nxt, fnEnd_exc, isOwn_t, List.map_cons, List.map_nil, List.cons_append, List.nil_append, List.append_nil, List.replicate_succ, List.replicate_zero, List.getD_cons_zero, List.getD_cons_succ, Bool.not_true, Bool.not_false, decide_true, decide_false, decide_eq_true_eq, decide_eq_false_iff_not, Bool.false_eq_true, Nat.zero_add, Nat.reduceAdd, Int.reduceEq, Int.reduceLT, Int.reduceLE, Nat.reduceEqDiff, reduceCtorEq, eq_self, not_true_eq_false, not_false_eq_true]
  refine wp_callT (by rw [e1]; exact c_mixT (k + n) p m ls cs hi.2 hls hp (by omega)) ?_
  rintro r o ⟨us, p1, rfl, hpm, hp1, rfl⟩
  have hul := hpm.length_eq
  have hus := perm_sizeL hpm
  have hui : innL ls us := innL_of fun t ht => innL_mem hi.2 t (hpm.mem_iff.mp ht)
  have hud : depthL us ≤ n := by rw [perm_depthL hpm]; omega
  simp (disch := first | omega | assumption | decide) only [↓q_pk, ↓q_fz, ↓q_mv, ↓q_ci, ↓q_cb, ↓q_cn, ↓q_cs, ↓q_gi, ↓evF_op1, ↓q_op2, ↓q_cmp, ↓q_bc2, ↓evF_bc1, ↓evF_rev, ↓q_isi, ↓q_idx, ↓evF_chn, ↓evF_boo, ↓q_slc, ↓evF_tup, ↓evF_lst, ↓q_frz, ↓p_call, ↓q_xn, ↓q_xv, ↓q_xi, ↓p_comp1, ↓r_mut0, ↓if_own, ↓evB_nil, ↓evB_cons, ↓evS_nil, ↓evS_cons, ↓evOp_none, ↓evOp_some, ↓evP_nil, ↓evP_ix, ↓evI_seq, ↓evI_rg1, ↓evI_rg2, ↓evI_enu, ↓evI_zip, ↓runS_nil, ↓runS_cons, ↓q_asg, ↓run1_unp, ↓q_sti0, ↓q_aug, ↓run1_aui, ↓run1_exp, ↓run1_ife, ↓p_for, ↓p_whl, ↓run1_ret, ↓run1_retn, ↓run1_pas, ↓run1_rai, ↓evO_def, ↓evT_def, ↓getv0, ↓getvS, ↓setK0, ↓setKS, ↓getO0, ↓getOS, ↓rootK_i, ↓rootK_b, ↓rootK_s, ↓rootK_n, ↓rootK_c, ↓rootK_o, ↓rootK_I, ↓frzK_i, ↓frzK_b, ↓frzK_s, ↓frzK_n, ↓frzK_c, ↓frzK_I, ↓hidK_n, ↓hidK_s, ↓unhK_n, ↓unhK_s, ↓subK_n, ↓subK_i, ↓subK_b, ↓subK_s, ↓subK_x, ↓putK_c, ↓putK_n, ↓optv_some, ↓optl_some, ↓alone_none, ↓isB_bl, ↓isI_int, ↓putE_some, ↓k_add, ↓k_sub, ↓k_mod, ↓k_div, ↓k_mulL, ↓k_mulR, ↓k_p18, ↓k_p15, ↓k_p14, ↓k_neg, ↓k_not, ↓k_lt, ↓k_le, ↓k_gt, ↓k_ge, ↓k_eq, ↓k_ne, ↓k_lenC, ↓k_lenI, ↓k_lenT, ↓k_int, ↓k_max, ↓k_min, ↓k_isII, ↓k_isBI, ↓k_ix0, ↓k_ix1, ↓k_ix2, ↓k_set0, ↓k_set2, ↓k_auga, ↓k_augs, ↓k_eqL0, ↓k_neL0, ↓m_popI, ↓m_appI, ↓mutK_some, ↓k_rev, ↓k_sum, ↓k_ixZ, ↓k_listI, ↓walkI, ↓k_eqB, ↓k_neB, ↓k_intB, ↓k_isBB, ↓k_isIB, ↓k_isS, ↓k_eqLI, ↓k_neLI, ↓rng_one, ↓if_l0, ↓if_l1, ↓if_l2, ↓if_l3, ↓if_l4, ↓if_l5, ↓if_l6, ↓if_l7, ↓if_l8, ↓k_ixT0, ↓k_ixT1, ↓k_ixT2, ↓k_ixT3, ↓walkFI, ↓zipI, ↓p_comp2, ↓k_repI, ↓subK_I, ↓k_eqQt, ↓k_eqQf, ↓k_neQt, ↓k_neQf, ↓ki0, ↓ki1, ↓ki2, ↓ki3, ↓ki4, ↓ki5, ↓ki6, ↓ki7, ↓ki8, ↓ki9, ↓ki10, ↓ki11, ↓ki12, ↓ki13, ↓ki14, ↓ki15, ↓ki16, ↓ki17, ↓ki18, ↓ki19, ↓ki20, ↓ki21, ↓ki22, ↓ki23, ↓ki24, ↓ki25, ↓ki26, ↓ki27, ↓ki28, ↓ki29, ↓ki30, ↓ki31, ↓ki32, ↓ki33, ↓ki34, ↓ki35, ↓q_gs, ↓k_len1, ↓k_in1, ↓frzK_d, ↓frzK_dT, ↓frzK_dL, ↓rootK_d, ↓rootK_dL, ↓subK_d, ↓subK_dL, ↓k_ixTr0, ↓k_ixTr1, ↓k_lenTr, ↓k_tupTr, ↓walk_dL, ↓k_lendL, ↓q_mut1, ↓evI_rg3, ↓frzK_nd, ↓reduceIte, fnEnd_ret, fnEnd_nxt, fnEnd_exc, isOwn_t, List.map_cons, List.map_nil, List.cons_append, List.nil_append, List.append_nil, List.replicate_succ, List.replicate_zero, List.getD_cons_zero, List.getD_cons_succ, Bool.not_true, Bool.not_false, decide_true, decide_false, decide_eq_true_eq, decide_eq_false_iff_not, Bool.false_eq_true, Nat.zero_add, Nat.reduceAdd, Int.reduceEq, Int.reduceLT, Int.reduceLE, Nat.reduceEqDiff, reduceCtorEq, eq_self, not_true_eq_false, not_false_eq_true]
  refine wp_compT (wp_comp0 (fun r acc e => ∃ (ds rs os : List Tr) (q : Pl), us = ds ++ rs ∧ r = dL rs ∧ acc = dL os ∧ likeL os ds ∧ e = [some q.d, some (Tr.nd l cs).d, none] ∧ q.ok (m + cs.length + sizeL ds - ds.length)) (by rw [dL_len, hul]; exact Nat.le_trans (show cs.length ≤ 1000 by omega) (by decide)) ⟨[], us, [], p1, rfl, rfl, rfl, rfl, rfl, hp1.up (by rw [sizeL, List.length_nil]; omega)⟩ ?_ ?_)
  · rintro x r acc e ⟨ds, rs, os, q, hu, hr, rfl, hlk, rfl, hq⟩
    cases rs with
    | nil => cases hr
    | cons c rs =>
      rw [dL, List.cons.injEq] at hr
      obtain ⟨rfl, rfl⟩ := hr
      have hcu : c ∈ us := by rw [hu]; simp
      have hcc := hpm.mem_iff.mp hcu
      have hcd : c.depth ≤ n := Nat.le_trans (depthL_mem hcu) hud
      have hss : sizeL ds + (c.size + sizeL rs) = sizeL us := by rw [hu, sizeL_app, sizeL]
      have hdl := len_sizeL ds
      have hrl := len_sizeL rs
      have hlu : us.length = ds.length + (rs.length + 1) := by rw [hu, List.length_append]; rfl
      refine ⟨_, rfl, ?_⟩
      simp only [List.set_cons_succ, List.set_cons_zero]
      simp (disch := first | omega | assumption | decide) only [↓q_pk, ↓q_fz, ↓q_mv, ↓q_ci, ↓q_cb, ↓q_cn, ↓q_cs, ↓q_gi, ↓evF_op1, ↓q_op2, ↓q_cmp, ↓q_bc2, ↓evF_bc1, ↓evF_rev, ↓q_isi, ↓q_idx, ↓evF_chn, ↓evF_boo, ↓q_slc, ↓evF_tup, ↓evF_lst, ↓q_frz, ↓p_call, ↓q_xn, ↓q_xv, ↓q_xi, ↓p_comp1, ↓r_mut0, ↓if_own, ↓evB_nil, ↓evB_cons, ↓evS_nil, ↓evS_cons, ↓evOp_none, ↓evOp_some, ↓evP_nil, ↓evP_ix, ↓evI_seq, ↓evI_rg1, ↓evI_rg2, ↓evI_enu, ↓evI_zip, ↓runS_nil, ↓runS_cons, ↓q_asg, ↓run1_unp, ↓q_sti0, ↓q_aug, ↓run1_aui, ↓run1_exp, ↓run1_ife, ↓p_for, ↓p_whl, ↓run1_ret, ↓run1_retn, ↓run1_pas, ↓run1_rai, ↓evO_def, ↓evT_def, ↓getv0, ↓getvS, ↓setK0, ↓setKS, ↓getO0, ↓getOS, ↓rootK_i, ↓rootK_b, ↓rootK_s, ↓rootK_n, ↓rootK_c, ↓rootK_o, ↓rootK_I, ↓frzK_i, ↓frzK_b, ↓frzK_s, ↓frzK_n, ↓frzK_c, ↓frzK_I, ↓hidK_n, ↓hidK_s, ↓unhK_n, ↓unhK_s, ↓subK_n, ↓subK_i, ↓subK_b, ↓subK_s, ↓subK_x, ↓putK_c, ↓putK_n, ↓optv_some, ↓optl_some, ↓alone_none, ↓isB_bl, ↓isI_int, ↓putE_some, ↓k_add, ↓k_sub, ↓k_mod, ↓k_div, ↓k_mulL, ↓k_mulR, ↓k_p18, ↓k_p15, ↓k_p14, ↓k_neg, ↓k_not, ↓k_lt, ↓k_le, ↓k_gt, ↓k_ge, ↓k_eq, ↓k_ne, ↓k_lenC, ↓k_lenI, ↓k_lenT, ↓k_int, ↓k_max, ↓k_min, ↓k_isII, ↓k_isBI, ↓k_ix0, ↓k_ix1, ↓k_ix2, ↓k_set0, ↓k_set2, ↓k_auga, ↓k_augs, ↓k_eqL0, ↓k_neL0, ↓m_popI, ↓m_appI, ↓mutK_some, ↓k_rev, ↓k_sum, ↓k_ixZ, ↓k_listI, ↓walkI, ↓k_eqB, ↓k_neB, ↓k_intB, ↓k_isBB, ↓k_isIB, ↓k_isS, ↓k_eqLI, ↓k_neLI, ↓rng_one, ↓if_l0, ↓if_l1, ↓if_l2, ↓if_l3, ↓if_l4, ↓if_l5, ↓if_l6, ↓if_l7, ↓if_l8, ↓k_ixT0, ↓k_ixT1, ↓k_ixT2, ↓k_ixT3, ↓walkFI, ↓zipI, ↓p_comp2, ↓k_repI, ↓subK_I, ↓k_eqQt, ↓k_eqQf, ↓k_neQt, ↓k_neQf, ↓ki0, ↓ki1, ↓ki2, ↓ki3, ↓ki4, ↓ki5, ↓ki6, ↓ki7, ↓ki8, ↓ki9, ↓ki10, ↓ki11, ↓ki12, ↓ki13, ↓ki14, ↓ki15, ↓ki16, ↓ki17, ↓ki18, ↓ki19, ↓ki20, ↓ki21, ↓ki22, ↓ki23, ↓ki24, ↓ki25, ↓ki26, ↓ki27, ↓ki28, ↓ki29, ↓ki30, ↓ki31, ↓ki32, ↓ki33, ↓ki34, ↓ki35, ↓q_gs, ↓k_len1, ↓k_in1, ↓frzK_d, ↓frzK_dT, ↓frzK_dL, ↓rootK_d, ↓rootK_dL, ↓subK_d, ↓subK_dL, ↓k_ixTr0, ↓k_ixTr1, ↓k_lenTr, ↓k_tupTr, ↓walk_dL, ↓k_lendL, ↓q_mut1, ↓evI_rg3, ↓frzK_nd, ↓reduceIte, fnEnd_ret, fnEnd_nxt, fnEnd_exc, isOwn_t, List.map_cons, List.map_nil, List.cons_append, List.nil_append, List.append_nil, List.replicate_succ, List.replicate_zero, List.getD_cons_zero, List.getD_cons_succ, Bool.not_true, Bool.not_false, decide_true, decide_false, decide_eq_true_eq, decide_eq_false_iff_not, Bool.false_eq_true, Nat.zero_add, Nat.reduceAdd, Int.reduceEq, Int.reduceLT, Int.reduceLE, Nat.reduceEqDiff, reduceCtorEq, eq_self, not_true_eq_false, not_false_eq_true]
      refine wp_callT (ih c hcc n k q _ (innL_mem hui c hcu) (by omega) hcd hq (by omega)) ?_
      rintro r o ⟨u, q', rfl, hlk', hq', rfl⟩
      simp (disch := first | omega | assumption | decide) only [↓q_pk, ↓q_fz, ↓q_mv, ↓q_ci, ↓q_cb, ↓q_cn, ↓q_cs, ↓q_gi, ↓evF_op1, ↓q_op2, ↓q_cmp, ↓q_bc2, ↓evF_bc1, ↓evF_rev, ↓q_isi, ↓q_idx, ↓evF_chn, ↓evF_boo, ↓q_slc, ↓evF_tup, ↓evF_lst, ↓q_frz, ↓p_call, ↓q_xn, ↓q_xv, ↓q_xi, ↓p_comp1, ↓r_mut0, ↓if_own, ↓evB_nil, ↓evB_cons, ↓evS_nil, ↓evS_cons, ↓evOp_none, ↓evOp_some, ↓evP_nil, ↓evP_ix, ↓evI_seq, ↓evI_rg1, ↓evI_rg2, ↓evI_enu, ↓evI_zip, ↓runS_nil, ↓runS_cons, ↓q_asg, ↓run1_unp, ↓q_sti0, ↓q_aug, ↓run1_aui, ↓run1_exp, ↓run1_ife, ↓p_for, ↓p_whl, ↓run1_ret, ↓run1_retn, ↓run1_pas, ↓run1_rai, ↓evO_def, ↓evT_def, ↓getv0, ↓getvS, ↓setK0, ↓setKS, ↓getO0, ↓getOS, ↓rootK_i, ↓rootK_b, ↓rootK_s, ↓rootK_n, ↓rootK_c, ↓rootK_o, ↓rootK_I, ↓frzK_i, ↓frzK_b, ↓frzK_s, ↓frzK_n, ↓frzK_c, ↓frzK_I, ↓hidK_n, ↓hidK_s, ↓unhK_n, ↓unhK_s, ↓subK_n, ↓subK_i, ↓subK_b, ↓subK_s, ↓subK_x, ↓putK_c, ↓putK_n, ↓optv_some, ↓optl_some, ↓alone_none, ↓isB_bl, ↓isI_int, ↓putE_some, ↓k_add, ↓k_sub, ↓k_mod, ↓k_div, ↓k_mulL, ↓k_mulR, ↓k_p18, ↓k_p15, ↓k_p14, ↓k_neg, ↓k_not, ↓k_lt, ↓k_le, ↓k_gt, ↓k_ge, ↓k_eq, ↓k_ne, ↓k_lenC, ↓k_lenI, ↓k_lenT, ↓k_int, ↓k_max, ↓k_min, ↓k_isII, ↓k_isBI, ↓k_ix0, ↓k_ix1, ↓k_ix2, ↓k_set0, ↓k_set2, ↓k_auga, ↓k_augs, ↓k_eqL0, ↓k_neL0, ↓m_popI, ↓m_appI, ↓mutK_some, ↓k_rev, ↓k_sum, ↓k_ixZ, ↓k_listI, ↓walkI, ↓k_eqB, ↓k_neB, ↓k_intB, ↓k_isBB, ↓k_isIB, ↓k_isS, ↓k_eqLI, ↓k_neLI, ↓rng_one, ↓if_l0, ↓if_l1, ↓if_l2, ↓if_l3, ↓if_l4, ↓if_l5, ↓if_l6, ↓if_l7, ↓if_l8, ↓k_ixT0, ↓k_ixT1, ↓k_ixT2, ↓k_ixT3, ↓walkFI, ↓zipI, ↓p_comp2, ↓k_repI, ↓subK_I, ↓k_eqQt, ↓k_eqQf, ↓k_neQt, ↓k_neQf, ↓ki0, ↓ki1, ↓ki2, ↓ki3, ↓ki4, ↓ki5, ↓ki6, ↓ki7, ↓ki8, ↓ki9, ↓ki10, ↓ki11, ↓ki12, ↓ki13, ↓ki14, ↓ki15, ↓ki16, ↓ki17, ↓ki18, ↓ki19, ↓ki20, ↓ki21, ↓ki22, ↓ki23, ↓ki24, ↓ki25, ↓ki26, ↓ki27, ↓ki28, ↓ki29, ↓ki30, ↓ki31, ↓ki32, ↓ki33, ↓ki34, ↓ki35, ↓q_gs, ↓k_len1, ↓k_in1, ↓frzK_d, ↓frzK_dT, ↓frzK_dL, ↓rootK_d, ↓rootK_dL, ↓subK_d, ↓subK_dL, ↓k_ixTr0, ↓k_ixTr1, ↓k_lenTr, ↓k_tupTr, ↓walk_dL, ↓k_lendL, ↓q_mut1, ↓evI_rg3, ↓frzK_nd, ↓reduceIte, fnEnd_ret, fnEnd_nxt, fnEnd_exc, isOwn_t, List.map_cons, List.map_nil, List.cons_append, List.nil_append, List.append_nil, List.replicate_succ, List.replicate_zero, List.getD_cons_zero, List.getD_cons_succ, Bool.not_true, Bool.not_false, decide_true, decide_false, decide_eq_true_eq, decide_eq_false_iff_not, Bool.false_eq_true, Nat.zero_add, Nat.reduceAdd, Int.reduceEq, Int.reduceLT, Int.reduceLE, Nat.reduceEqDiff, reduceCtorEq, eq_self, not_true_eq_false, not_false_eq_true]
      refine wp_retP ⟨ds ++ [c], rs, os ++ [u], q', by rw [hu, List.append_assoc]; rfl, rfl, by rw [dL_app]; rfl, likeL_app hlk hlk', rfl, hq'.up ?_⟩
      rw [sizeL_app, sizeL, sizeL, List.length_append, List.length_singleton]
      omega
  · rintro acc e ⟨ds, rs, os, q, hu, hr, rfl, hlk, rfl, hq⟩
    cases rs with
    | cons c rs => cases hr
    | nil =>
      rw [List.append_nil] at hu
      subst hu
      simp (disch := first | omega | assumption | decide) only [↓q_pk, ↓q_fz, ↓q_mv, ↓q_ci, ↓q_cb, ↓q_cn, ↓q_cs, ↓q_gi, ↓evF_op1, ↓q_op2, ↓q_cmp, ↓q_bc2, ↓evF_bc1, ↓evF_rev, ↓q_isi, ↓q_idx, ↓evF_chn, ↓evF_boo, ↓q_slc, ↓evF_tup, ↓evF_lst, ↓q_frz, ↓p_call, ↓q_xn, ↓q_xv, ↓q_xi, ↓p_comp1, ↓r_mut0, ↓if_own, ↓evB_nil, ↓evB_cons, ↓evS_nil, ↓evS_cons, ↓evOp_none, ↓evOp_some, ↓evP_nil, ↓evP_ix, ↓evI_seq, ↓evI_rg1, ↓evI_rg2, ↓evI_enu, ↓evI_zip, ↓runS_nil, ↓runS_cons, ↓q_asg, ↓run1_unp, ↓q_sti0, ↓q_aug, ↓run1_aui, ↓run1_exp, ↓run1_ife, ↓p_for, ↓p_whl, ↓run1_ret, ↓run1_retn, ↓run1_pas, ↓run1_rai, ↓evO_def, ↓evT_def, ↓getv0, ↓getvS, ↓setK0, ↓setKS, ↓getO0, ↓getOS, ↓rootK_i, ↓rootK_b, ↓rootK_s, ↓rootK_n, ↓rootK_c, ↓rootK_o, ↓rootK_I, ↓frzK_i, ↓frzK_b, ↓frzK_s, ↓frzK_n, ↓frzK_c, ↓frzK_I, ↓hidK_n, ↓hidK_s, ↓unhK_n, ↓unhK_s, ↓subK_n, ↓subK_i, ↓subK_b, ↓subK_s, ↓subK_x, ↓putK_c, ↓putK_n, ↓optv_some, ↓optl_some, ↓alone_none, ↓isB_bl, ↓isI_int, ↓putE_some, ↓k_add, ↓k_sub, ↓k_mod, ↓k_div, ↓k_mulL, ↓k_mulR, ↓k_p18, ↓k_p15, ↓k_p14, ↓k_neg, ↓k_not, ↓k_lt, ↓k_le, ↓k_gt, ↓k_ge, ↓k_eq, ↓k_ne, ↓k_lenC, ↓k_lenI, ↓k_lenT, ↓k_int, ↓k_max, ↓k_min, ↓k_isII, ↓k_isBI, ↓k_ix0, ↓k_ix1, ↓k_ix2, ↓k_set0, ↓k_set2, ↓k_auga, ↓k_augs, ↓k_eqL0, ↓k_neL0, ↓m_popI, ↓m_appI, ↓mutK_some, ↓k_rev, ↓k_sum, ↓k_ixZ, ↓k_listI, ↓walkI, ↓k_eqB, ↓k_neB, ↓k_intB, ↓k_isBB, ↓k_isIB, ↓k_isS, ↓k_eqLI, ↓k_neLI, ↓rng_one, ↓if_l0, ↓if_l1, ↓if_l2, ↓if_l3, ↓if_l4, ↓if_l5, ↓if_l6, ↓if_l7, ↓if_l8, ↓k_ixT0, ↓k_ixT1, ↓k_ixT2, ↓k_ixT3, ↓walkFI, ↓zipI, ↓p_comp2, ↓k_repI, ↓subK_I, ↓k_eqQt, ↓k_eqQf, ↓k_neQt, ↓k_neQf, ↓ki0, ↓ki1, ↓ki2, ↓ki3, ↓ki4, ↓ki5, ↓ki6, ↓ki7, ↓ki8, ↓ki9, ↓ki10, ↓ki11, ↓ki12, ↓ki13, ↓ki14, ↓ki15, ↓ki16, ↓ki17, ↓ki18, ↓ki19, ↓ki20, ↓ki21, ↓ki22, ↓ki23, ↓ki24, ↓ki25, ↓ki26, ↓ki27, ↓ki28, ↓ki29, ↓ki30, ↓ki31, ↓ki32, ↓ki33, ↓ki34, ↓ki35, ↓q_gs, ↓k_len1, ↓k_in1, ↓frzK_d, ↓frzK_dT, ↓frzK_dL, ↓rootK_d, ↓rootK_dL, ↓subK_d, ↓subK_dL, ↓k_ixTr0, ↓k_ixTr1, ↓k_lenTr, ↓k_tupTr, ↓walk_dL, ↓k_lendL, ↓q_mut1, ↓evI_rg3, ↓frzK_nd, ↓reduceIte, fnEnd_ret, fnEnd_nxt, fnEnd_exc, isOwn_t, List.map_cons, List.map_nil, List.cons_append, List.nil_append, List.append_nil, List.replicate_succ, List.replicate_zero, List.getD_cons_zero, List.getD_cons_succ, Bool.not_true, Bool.not_false, decide_true, decide_false, decide_eq_true_eq, decide_eq_false_iff_not, Bool.false_eq_true, Nat.zero_add, Nat.reduceAdd, Int.reduceEq, Int.reduceLT, Int.reduceLE, Nat.reduceEqDiff, reduceCtorEq, eq_self, not_true_eq_false, not_false_eq_true]
      refine wp_ret ⟨.nd l os, q, rfl, ⟨rfl, _, hpm, hlk⟩, hq.up ?_, rfl⟩
      rw [Tr.size, hus, hul]
      omega

end K02
end VI

set_option maxRecDepth 100000
set_option maxHeartbeats 4000000
namespace VI
namespace K02
theorem frz2 {o : Bool} {a b : Tr} : (D.lst o [a.d, b.d]).frz = .lst false (dL [a, b]) := by
  rw [D.frz]
  exact congrArg _ (frzL_fro _ (dL_fro [a, b]))
theorem frz3 {o : Bool} {a b c : Tr} : (D.lst o [a.d, b.d, c.d]).frz = .lst false (dL [a, b, c]) := by
  rw [D.frz]
  exact congrArg _ (frzL_fro _ (dL_fro [a, b, c]))
theorem frzK2 {o : Bool} {a b : Tr} {k : D → Fl} : frzK (.lst o [a.d, b.d]) k = k (.lst false (dL [a, b])) := frzK_of frz2
theorem frzK3 {o : Bool} {a b c : Tr} {k : D → Fl} : frzK (.lst o [a.d, b.d, c.d]) k = k (.lst false (dL [a, b, c])) := frzK_of frz3
theorem c_ltree (k : Nat) (p : Pl) (m : Int) (hp : p.ok m) (hm : m ≤ 800000) (most : Nat) (h1 : 6 ≤ most) (h2 : most ≤ 100) (ls : List Nat) (hl0 : ls ≠ []) (hl : ls.length ≤ 1000) (hls : ∀ l ∈ ls, 97 ≤ l ∧ l ≤ 122) :
    Gives (callF P (k + 33) "_law_tree" [0] [p.d, .int most, .str ls]) fun r o => ∃ (t : Tr) (p' : Pl), r.frz = t.d ∧ t.inn ls ∧ t.size ≤ most + 1 ∧ t.depth ≤ 31 ∧ p'.ok (m + 50000) ∧ o = [some p'.d] := by
  refine gives_fn P__law_tree rfl rfl ?_
  simp only [fn__law_tree, List.map_cons, List.map_nil, List.cons_append, List.nil_append, List.append_nil, List.replicate_succ, List.replicate_zero, Nat.reduceSub, Nat.sub_self]
  simp (disch := first | omega | assumption | decide) only [↓q_pk, ↓q_fz, ↓q_mv, ↓q_ci, ↓q_cb, ↓q_cn, ↓q_cs, ↓q_gi, ↓evF_op1, ↓q_op2, ↓q_cmp, ↓q_bc2, ↓evF_bc1, ↓evF_rev, ↓q_isi, ↓q_idx, ↓evF_chn, ↓evF_boo, ↓q_slc, ↓evF_tup, ↓evF_lst, ↓q_frz, ↓p_call, ↓q_xn, ↓q_xv, ↓q_xi, ↓p_comp1, ↓r_mut0, ↓if_own, ↓evB_nil, ↓evB_cons, ↓evS_nil, ↓evS_cons, ↓evOp_none, ↓evOp_some, ↓evP_nil, ↓evP_ix, ↓evI_seq, ↓evI_rg1, ↓evI_rg2, ↓evI_enu, ↓evI_zip, ↓runS_nil, ↓runS_cons, ↓q_asg, ↓run1_unp, ↓q_sti0, ↓q_aug, ↓run1_aui, ↓run1_exp, ↓run1_ife, ↓p_for, ↓p_whl, ↓run1_ret, ↓run1_retn, ↓run1_pas, ↓run1_rai, ↓evO_def, ↓evT_def, ↓getv0, ↓getvS, ↓setK0, ↓setKS, ↓getO0, ↓getOS, ↓rootK_i, ↓rootK_b, ↓rootK_s, ↓rootK_n, ↓rootK_c, ↓rootK_o, ↓rootK_I, ↓frzK_i, ↓frzK_b, ↓frzK_s, ↓frzK_n, ↓frzK_c, ↓frzK_I, ↓hidK_n, ↓hidK_s, ↓unhK_n, ↓unhK_s, ↓subK_n, ↓subK_i, ↓subK_b, ↓subK_s, ↓subK_x, ↓putK_c, ↓putK_n, ↓optv_some, ↓optl_some, ↓alone_none, ↓isB_bl, ↓isI_int, ↓putE_some, ↓k_add, ↓k_sub, ↓k_mod, ↓k_div, ↓k_mulL, ↓k_mulR, ↓k_p18, ↓k_p15, ↓k_p14, ↓k_neg, ↓k_not, ↓k_lt, ↓k_le, ↓k_gt, ↓k_ge, ↓k_eq, ↓k_ne, ↓k_lenC, ↓k_lenI, ↓k_lenT, ↓k_int, ↓k_max, ↓k_min, ↓k_isII, ↓k_isBI, ↓k_ix0, ↓k_ix1, ↓k_ix2, ↓k_set0, ↓k_set2, ↓k_auga, ↓k_augs, ↓k_eqL0, ↓k_neL0, ↓m_popI, ↓m_appI, ↓mutK_some, ↓k_rev, ↓k_sum, ↓k_ixZ, ↓k_listI, ↓walkI, ↓k_eqB, ↓k_neB, ↓k_intB, ↓k_isBB, ↓k_isIB, ↓k_isS, ↓k_eqLI, ↓k_neLI, ↓rng_one, ↓if_l0, ↓if_l1, ↓if_l2, ↓if_l3, ↓if_l4, ↓if_l5, ↓if_l6, ↓if_l7, ↓if_l8, ↓k_ixT0, ↓k_ixT1, ↓k_ixT2, ↓k_ixT3, ↓walkFI, ↓zipI, ↓p_comp2, ↓k_repI, ↓subK_I, ↓k_eqQt, ↓k_eqQf, ↓k_neQt, ↓k_neQf, ↓ki0, ↓ki1, ↓ki2, ↓ki3, ↓ki4, ↓ki5, ↓ki6, ↓ki7, ↓ki8, ↓ki9, ↓ki10, ↓ki11, ↓ki12, ↓ki13, ↓ki14, ↓ki15, ↓ki16, ↓ki17, ↓ki18, ↓ki19, ↓ki20, ↓ki21, ↓ki22, ↓ki23, ↓ki24, ↓ki25, ↓ki26, ↓ki27, ↓ki28, ↓ki29, ↓ki30, ↓ki31, ↓ki32, ↓ki33, ↓ki34, ↓ki35, ↓q_gs, ↓k_len1, ↓k_in1, ↓frzK_d, ↓frzK_dT, ↓frzK_dL, ↓rootK_d, ↓rootK_dL, ↓subK_d, ↓subK_dL, ↓k_ixTr0, ↓k_ixTr1, ↓k_lenTr, ↓k_tupTr, ↓walk_dL, ↓k_lendL, ↓q_mut1, ↓evI_rg3, ↓frzK_nd, ↓reduceIte, fnEnd_ret, fnEnd_nxt, fnEnd_exc, isOwn_t, List.map_cons, List.map_nil, List.cons_append, List.nil_append, List.append_nil, List.replicate_succ, List.replicate_zero, List.getD_cons_zero, List.getD_cons_succ, Bool.not_true, Bool.not_false, decide_true, decide_false, decide_eq_true_eq, decide_eq_false_iff_not, Bool.false_eq_true, Nat.zero_add, Nat.reduceAdd, Int.reduceEq, Int.reduceLT, Int.reduceLE, Nat.reduceEqDiff, reduceCtorEq, eq_self, not_true_eq_false, not_false_eq_true]
  refine wp_callT (c_take (k + 31) p m hp 2 (by omega) (by omega) (by omega)) ?_
  rintro r o ⟨v, p1, rfl, -, -, hp1, rfl⟩
  simp (disch := first | omega | assumption | decide) only [↓q_pk, ↓q_fz, ↓q_mv, ↓q_ci, ↓q_cb, ↓q_cn, ↓q_cs, ↓q_gi, ↓evF_op1, ↓q_op2, ↓q_cmp, ↓q_bc2, ↓evF_bc1, ↓evF_rev, ↓q_isi, ↓q_idx, ↓evF_chn, ↓evF_boo, ↓q_slc, ↓evF_tup, ↓evF_lst, ↓q_frz, ↓p_call, ↓q_xn, ↓q_xv, ↓q_xi, ↓p_comp1, ↓r_mut0, ↓if_own, ↓evB_nil, ↓evB_cons, ↓evS_nil, ↓evS_cons, ↓evOp_none, ↓evOp_some, ↓evP_nil, ↓evP_ix, ↓evI_seq, ↓evI_rg1, ↓evI_rg2, ↓evI_enu, ↓evI_zip, ↓runS_nil, ↓runS_cons, ↓q_asg, ↓run1_unp, ↓q_sti0, ↓q_aug, ↓run1_aui, ↓run1_exp, ↓run1_ife, ↓p_for, ↓p_whl, ↓run1_ret, ↓run1_retn, ↓run1_pas, ↓run1_rai, ↓evO_def, ↓evT_def, ↓getv0, ↓getvS, ↓setK0, ↓setKS, ↓getO0, ↓getOS, ↓rootK_i, ↓rootK_b, ↓rootK_s, ↓rootK_n, ↓rootK_c, ↓rootK_o, ↓rootK_I, ↓frzK_i, ↓frzK_b, ↓frzK_s, ↓frzK_n, ↓frzK_c, ↓frzK_I, ↓hidK_n, ↓hidK_s, ↓unhK_n, ↓unhK_s, ↓subK_n, ↓subK_i, ↓subK_b, ↓subK_s, ↓subK_x, ↓putK_c, ↓putK_n, ↓optv_some, ↓optl_some, ↓alone_none, ↓isB_bl, ↓isI_int, ↓putE_some, ↓k_add, ↓k_sub, ↓k_mod, ↓k_div, ↓k_mulL, ↓k_mulR, ↓k_p18, ↓k_p15, ↓k_p14, ↓k_neg, ↓k_not, ↓k_lt, ↓k_le, ↓k_gt, ↓k_ge, ↓k_eq, ↓k_ne, ↓k_lenC, ↓k_lenI, ↓k_lenT, ↓k_int, ↓k_max, ↓k_min, ↓k_isII, ↓k_isBI, ↓k_ix0, ↓k_ix1, ↓k_ix2, ↓k_set0, ↓k_set2, ↓k_auga, ↓k_augs, ↓k_eqL0, ↓k_neL0, ↓m_popI, ↓m_appI, ↓mutK_some, ↓k_rev, ↓k_sum, ↓k_ixZ, ↓k_listI, ↓walkI, ↓k_eqB, ↓k_neB, ↓k_intB, ↓k_isBB, ↓k_isIB, ↓k_isS, ↓k_eqLI, ↓k_neLI, ↓rng_one, ↓if_l0, ↓if_l1, ↓if_l2, ↓if_l3, ↓if_l4, ↓if_l5, ↓if_l6, ↓if_l7, ↓if_l8, ↓k_ixT0, ↓k_ixT1, ↓k_ixT2, ↓k_ixT3, ↓walkFI, ↓zipI, ↓p_comp2, ↓k_repI, ↓subK_I, ↓k_eqQt, ↓k_eqQf, ↓k_neQt, ↓k_neQf, ↓ki0, ↓ki1, ↓ki2, ↓ki3, ↓ki4, ↓ki5, ↓ki6, ↓ki7, ↓ki8, ↓ki9, ↓ki10, ↓ki11, ↓ki12, ↓ki13, ↓ki14, ↓ki15, ↓ki16, ↓ki17, ↓ki18, ↓ki19, ↓ki20, ↓ki21, ↓ki22, ↓ki23, ↓ki24, ↓ki25, ↓ki26, ↓ki27, ↓ki28, ↓ki29, ↓ki30, ↓ki31, ↓ki32, ↓ki33, ↓ki34, ↓ki35, ↓q_gs, ↓k_len1, ↓k_in1, ↓frzK_d, ↓frzK_dT, ↓frzK_dL, ↓rootK_d, ↓rootK_dL, ↓subK_d, ↓subK_dL, ↓k_ixTr0, ↓k_ixTr1, ↓k_lenTr, ↓k_tupTr, ↓walk_dL, ↓k_lendL, ↓q_mut1, ↓evI_rg3, ↓frzK_nd, ↓reduceIte, fnEnd_ret, fnEnd_nxt, fnEnd_exc, isOwn_t, List.map_cons, List.map_nil, List.cons_append, List.nil_append, List.append_nil, List.replicate_succ, List.replicate_zero, List.getD_cons_zero, List.getD_cons_succ, Bool.not_true, Bool.not_false, decide_true, decide_false, decide_eq_true_eq, decide_eq_false_iff_not, Bool.false_eq_true, Nat.zero_add, Nat.reduceAdd, Int.reduceEq, Int.reduceLT, Int.reduceLE, Nat.reduceEqDiff, reduceCtorEq, eq_self, not_true_eq_false, not_false_eq_true]
  refine wp_if (fun hc => ?_) fun hc => ?_
  · refine wp_callT (c_grown (k + 29) p1 _ hp1 (by omega) most (by omega) h2 ls hl0 hl) ?_
    rintro r o ⟨t, p2, rfl, hi, hs, hd, hp2, rfl⟩
    simp (disch := first | omega | assumption | decide) only [↓q_pk, ↓q_fz, ↓q_mv, ↓q_ci, ↓q_cb, ↓q_cn, ↓q_cs, ↓q_gi, ↓evF_op1, ↓q_op2, ↓q_cmp, ↓q_bc2, ↓evF_bc1, ↓evF_rev, ↓q_isi, ↓q_idx, ↓evF_chn, ↓evF_boo, ↓q_slc, ↓evF_tup, ↓evF_lst, ↓q_frz, ↓p_call, ↓q_xn, ↓q_xv, ↓q_xi, ↓p_comp1, ↓r_mut0, ↓if_own, ↓evB_nil, ↓evB_cons, ↓evS_nil, ↓evS_cons, ↓evOp_none, ↓evOp_some, ↓evP_nil, ↓evP_ix, ↓evI_seq, ↓evI_rg1, ↓evI_rg2, ↓evI_enu, ↓evI_zip, ↓runS_nil, ↓runS_cons, ↓q_asg, ↓run1_unp, ↓q_sti0, ↓q_aug, ↓run1_aui, ↓run1_exp, ↓run1_ife, ↓p_for, ↓p_whl, ↓run1_ret, ↓run1_retn, ↓run1_pas, ↓run1_rai, ↓evO_def, ↓evT_def, ↓getv0, ↓getvS, ↓setK0, ↓setKS, ↓getO0, ↓getOS, ↓rootK_i, ↓rootK_b, ↓rootK_s, ↓rootK_n, ↓rootK_c, ↓rootK_o, ↓rootK_I, ↓frzK_i, ↓frzK_b, ↓frzK_s, ↓frzK_n, ↓frzK_c, ↓frzK_I, ↓hidK_n, ↓hidK_s, ↓unhK_n, ↓unhK_s, ↓subK_n, ↓subK_i, ↓subK_b, ↓subK_s, ↓subK_x, ↓putK_c, ↓putK_n, ↓optv_some, ↓optl_some, ↓alone_none, ↓isB_bl, ↓isI_int, ↓putE_some, ↓k_add, ↓k_sub, ↓k_mod, ↓k_div, ↓k_mulL, ↓k_mulR, ↓k_p18, ↓k_p15, ↓k_p14, ↓k_neg, ↓k_not, ↓k_lt, ↓k_le, ↓k_gt, ↓k_ge, ↓k_eq, ↓k_ne, ↓k_lenC, ↓k_lenI, ↓k_lenT, ↓k_int, ↓k_max, ↓k_min, ↓k_isII, ↓k_isBI, ↓k_ix0, ↓k_ix1, ↓k_ix2, ↓k_set0, ↓k_set2, ↓k_auga, ↓k_augs, ↓k_eqL0, ↓k_neL0, ↓m_popI, ↓m_appI, ↓mutK_some, ↓k_rev, ↓k_sum, ↓k_ixZ, ↓k_listI, ↓walkI, ↓k_eqB, ↓k_neB, ↓k_intB, ↓k_isBB, ↓k_isIB, ↓k_isS, ↓k_eqLI, ↓k_neLI, ↓rng_one, ↓if_l0, ↓if_l1, ↓if_l2, ↓if_l3, ↓if_l4, ↓if_l5, ↓if_l6, ↓if_l7, ↓if_l8, ↓k_ixT0, ↓k_ixT1, ↓k_ixT2, ↓k_ixT3, ↓walkFI, ↓zipI, ↓p_comp2, ↓k_repI, ↓subK_I, ↓k_eqQt, ↓k_eqQf, ↓k_neQt, ↓k_neQf, ↓ki0, ↓ki1, ↓ki2, ↓ki3, ↓ki4, ↓ki5, ↓ki6, ↓ki7, ↓ki8, ↓ki9, ↓ki10, ↓ki11, ↓ki12, ↓ki13, ↓ki14, ↓ki15, ↓ki16, ↓ki17, ↓ki18, ↓ki19, ↓ki20, ↓ki21, ↓ki22, ↓ki23, ↓ki24, ↓ki25, ↓ki26, ↓ki27, ↓ki28, ↓ki29, ↓ki30, ↓ki31, ↓ki32, ↓ki33, ↓ki34, ↓ki35, ↓q_gs, ↓k_len1, ↓k_in1, ↓frzK_d, ↓frzK_dT, ↓frzK_dL, ↓rootK_d, ↓rootK_dL, ↓subK_d, ↓subK_dL, ↓k_ixTr0, ↓k_ixTr1, ↓k_lenTr, ↓k_tupTr, ↓walk_dL, ↓k_lendL, ↓q_mut1, ↓evI_rg3, ↓frzK_nd, ↓reduceIte, fnEnd_ret, fnEnd_nxt, fnEnd_exc, isOwn_t, List.map_cons, List.map_nil, List.cons_append, List.nil_append, List.append_nil, List.replicate_succ, List.replicate_zero, List.getD_cons_zero, List.getD_cons_succ, Bool.not_true, Bool.not_false, decide_true, decide_false, decide_eq_true_eq, decide_eq_false_iff_not, Bool.false_eq_true, Nat.zero_add, Nat.reduceAdd, Int.reduceEq, Int.reduceLT, Int.reduceLE, Nat.reduceEqDiff, reduceCtorEq, eq_self, not_true_eq_false, not_false_eq_true]
    exact wp_ret ⟨t, p2, frz_fro _ (Tr.d_fro t), hi, by omega, by omega, hp2.up (by omega), rfl⟩
  · have e3 : (most : Int) / 3 = ((most / 3 : Nat) : Int) := by omega
    have e4 : (most : Int) / 3 - 1 = ((most / 3 - 1 : Nat) : Int) := by omega
    simp only [e3, e4]
    refine wp_callT (c_grown (k + 29) p1 _ hp1 (by omega) (most / 3) (by omega) (by omega) ls hl0 hl) ?_
    rintro r o ⟨one, p2, rfl, hi, hs, hd, hp2, rfl⟩
    simp (disch := first | omega | assumption | decide) only [↓q_pk, ↓q_fz, ↓q_mv, ↓q_ci, ↓q_cb, ↓q_cn, ↓q_cs, ↓q_gi, ↓evF_op1, ↓q_op2, ↓q_cmp, ↓q_bc2, ↓evF_bc1, ↓evF_rev, ↓q_isi, ↓q_idx, ↓evF_chn, ↓evF_boo, ↓q_slc, ↓evF_tup, ↓evF_lst, ↓q_frz, ↓p_call, ↓q_xn, ↓q_xv, ↓q_xi, ↓p_comp1, ↓r_mut0, ↓if_own, ↓evB_nil, ↓evB_cons, ↓evS_nil, ↓evS_cons, ↓evOp_none, ↓evOp_some, ↓evP_nil, ↓evP_ix, ↓evI_seq, ↓evI_rg1, ↓evI_rg2, ↓evI_enu, ↓evI_zip, ↓runS_nil, ↓runS_cons, ↓q_asg, ↓run1_unp, ↓q_sti0, ↓q_aug, ↓run1_aui, ↓run1_exp, ↓run1_ife, ↓p_for, ↓p_whl, ↓run1_ret, ↓run1_retn, ↓run1_pas, ↓run1_rai, ↓evO_def, ↓evT_def, ↓getv0, ↓getvS, ↓setK0, ↓setKS, ↓getO0, ↓getOS, ↓rootK_i, ↓rootK_b, ↓rootK_s, ↓rootK_n, ↓rootK_c, ↓rootK_o, ↓rootK_I, ↓frzK_i, ↓frzK_b, ↓frzK_s, ↓frzK_n, ↓frzK_c, ↓frzK_I, ↓hidK_n, ↓hidK_s, ↓unhK_n, ↓unhK_s, ↓subK_n, ↓subK_i, ↓subK_b, ↓subK_s, ↓subK_x, ↓putK_c, ↓putK_n, ↓optv_some, ↓optl_some, ↓alone_none, ↓isB_bl, ↓isI_int, ↓putE_some, ↓k_add, ↓k_sub, ↓k_mod, ↓k_div, ↓k_mulL, ↓k_mulR, ↓k_p18, ↓k_p15, ↓k_p14, ↓k_neg, ↓k_not, ↓k_lt, ↓k_le, ↓k_gt, ↓k_ge, ↓k_eq, ↓k_ne, ↓k_lenC, ↓k_lenI, ↓k_lenT, ↓k_int, ↓k_max, ↓k_min, ↓k_isII, ↓k_isBI, ↓k_ix0, ↓k_ix1, ↓k_ix2, ↓k_set0, ↓k_set2, ↓k_auga, ↓k_augs, ↓k_eqL0, ↓k_neL0, ↓m_popI, ↓m_appI, ↓mutK_some, ↓k_rev, ↓k_sum, ↓k_ixZ, ↓k_listI, ↓walkI, ↓k_eqB, ↓k_neB, ↓k_intB, ↓k_isBB, ↓k_isIB, ↓k_isS, ↓k_eqLI, ↓k_neLI, ↓rng_one, ↓if_l0, ↓if_l1, ↓if_l2, ↓if_l3, ↓if_l4, ↓if_l5, ↓if_l6, ↓if_l7, ↓if_l8, ↓k_ixT0, ↓k_ixT1, ↓k_ixT2, ↓k_ixT3, ↓walkFI, ↓zipI, ↓p_comp2, ↓k_repI, ↓subK_I, ↓k_eqQt, ↓k_eqQf, ↓k_neQt, ↓k_neQf, ↓ki0, ↓ki1, ↓ki2, ↓ki3, ↓ki4, ↓ki5, ↓ki6, ↓ki7, ↓ki8, ↓ki9, ↓ki10, ↓ki11, ↓ki12, ↓ki13, ↓ki14, ↓ki15, ↓ki16, ↓ki17, ↓ki18, ↓ki19, ↓ki20, ↓ki21, ↓ki22, ↓ki23, ↓ki24, ↓ki25, ↓ki26, ↓ki27, ↓ki28, ↓ki29, ↓ki30, ↓ki31, ↓ki32, ↓ki33, ↓ki34, ↓ki35, ↓q_gs, ↓k_len1, ↓k_in1, ↓frzK_d, ↓frzK_dT, ↓frzK_dL, ↓rootK_d, ↓rootK_dL, ↓subK_d, ↓subK_dL, ↓k_ixTr0, ↓k_ixTr1, ↓k_lenTr, ↓k_tupTr, ↓walk_dL, ↓k_lendL, ↓q_mut1, ↓evI_rg3, ↓frzK_nd, ↓reduceIte, fnEnd_ret, fnEnd_nxt, fnEnd_exc, isOwn_t, List.map_cons, List.map_nil, List.cons_append, List.nil_append, List.append_nil, List.replicate_succ, List.replicate_zero, List.getD_cons_zero, List.getD_cons_succ, Bool.not_true, Bool.not_false, decide_true, decide_false, decide_eq_true_eq, decide_eq_false_iff_not, Bool.false_eq_true, Nat.zero_add, Nat.reduceAdd, Int.reduceEq, Int.reduceLT, Int.reduceLE, Nat.reduceEqDiff, reduceCtorEq, eq_self, not_true_eq_false, not_false_eq_true]
    have e4 : (most : Int) / 3 - 1 = ((most / 3 - 1 : Nat) : Int) := by omega
    simp only [e4]
    refine wp_callT (c_grown (k + 29) p2 _ hp2 (by omega) (most / 3 - 1) (by omega) (by omega) ls hl0 hl) ?_
    rintro r o ⟨other, p3, rfl, hi', hs', hd', hp3, rfl⟩
    simp (disch := first | omega | assumption | decide) only [↓q_pk, ↓q_fz, ↓q_mv, ↓q_ci, ↓q_cb, ↓q_cn, ↓q_cs, ↓q_gi, ↓evF_op1, ↓q_op2, ↓q_cmp, ↓q_bc2, ↓evF_bc1, ↓evF_rev, ↓q_isi, ↓q_idx, ↓evF_chn, ↓evF_boo, ↓q_slc, ↓evF_tup, ↓evF_lst, ↓q_frz, ↓p_call, ↓q_xn, ↓q_xv, ↓q_xi, ↓p_comp1, ↓r_mut0, ↓if_own, ↓evB_nil, ↓evB_cons, ↓evS_nil, ↓evS_cons, ↓evOp_none, ↓evOp_some, ↓evP_nil, ↓evP_ix, ↓evI_seq, ↓evI_rg1, ↓evI_rg2, ↓evI_enu, ↓evI_zip, ↓runS_nil, ↓runS_cons, ↓q_asg, ↓run1_unp, ↓q_sti0, ↓q_aug, ↓run1_aui, ↓run1_exp, ↓run1_ife, ↓p_for, ↓p_whl, ↓run1_ret, ↓run1_retn, ↓run1_pas, ↓run1_rai, ↓evO_def, ↓evT_def, ↓getv0, ↓getvS, ↓setK0, ↓setKS, ↓getO0, ↓getOS, ↓rootK_i, ↓rootK_b, ↓rootK_s, ↓rootK_n, ↓rootK_c, ↓rootK_o, ↓rootK_I, ↓frzK_i, ↓frzK_b, ↓frzK_s, ↓frzK_n, ↓frzK_c, ↓frzK_I, ↓hidK_n, ↓hidK_s, ↓unhK_n, ↓unhK_s, ↓subK_n, ↓subK_i, ↓subK_b, ↓subK_s, ↓subK_x, ↓putK_c, ↓putK_n, ↓optv_some, ↓optl_some, ↓alone_none, ↓isB_bl, ↓isI_int, ↓putE_some, ↓k_add, ↓k_sub, ↓k_mod, ↓k_div, ↓k_mulL, ↓k_mulR, ↓k_p18, ↓k_p15, ↓k_p14, ↓k_neg, ↓k_not, ↓k_lt, ↓k_le, ↓k_gt, ↓k_ge, ↓k_eq, ↓k_ne, ↓k_lenC, ↓k_lenI, ↓k_lenT, ↓k_int, ↓k_max, ↓k_min, ↓k_isII, ↓k_isBI, ↓k_ix0, ↓k_ix1, ↓k_ix2, ↓k_set0, ↓k_set2, ↓k_auga, ↓k_augs, ↓k_eqL0, ↓k_neL0, ↓m_popI, ↓m_appI, ↓mutK_some, ↓k_rev, ↓k_sum, ↓k_ixZ, ↓k_listI, ↓walkI, ↓k_eqB, ↓k_neB, ↓k_intB, ↓k_isBB, ↓k_isIB, ↓k_isS, ↓k_eqLI, ↓k_neLI, ↓rng_one, ↓if_l0, ↓if_l1, ↓if_l2, ↓if_l3, ↓if_l4, ↓if_l5, ↓if_l6, ↓if_l7, ↓if_l8, ↓k_ixT0, ↓k_ixT1, ↓k_ixT2, ↓k_ixT3, ↓walkFI, ↓zipI, ↓p_comp2, ↓k_repI, ↓subK_I, ↓k_eqQt, ↓k_eqQf, ↓k_neQt, ↓k_neQf, ↓ki0, ↓ki1, ↓ki2, ↓ki3, ↓ki4, ↓ki5, ↓ki6, ↓ki7, ↓ki8, ↓ki9, ↓ki10, ↓ki11, ↓ki12, ↓ki13, ↓ki14, ↓ki15, ↓ki16, ↓ki17, ↓ki18, ↓ki19, ↓ki20, ↓ki21, ↓ki22, ↓ki23, ↓ki24, ↓ki25, ↓ki26, ↓ki27, ↓ki28, ↓ki29, ↓ki30, ↓ki31, ↓ki32, ↓ki33, ↓ki34, ↓ki35, ↓q_gs, ↓k_len1, ↓k_in1, ↓frzK_d, ↓frzK_dT, ↓frzK_dL, ↓rootK_d, ↓rootK_dL, ↓subK_d, ↓subK_dL, ↓k_ixTr0, ↓k_ixTr1, ↓k_lenTr, ↓k_tupTr, ↓walk_dL, ↓k_lendL, ↓q_mut1, ↓evI_rg3, ↓frzK_nd, ↓reduceIte, fnEnd_ret, fnEnd_nxt, fnEnd_exc, isOwn_t, List.map_cons, List.map_nil, List.cons_append, List.nil_append, List.append_nil, List.replicate_succ, List.replicate_zero, List.getD_cons_zero, List.getD_cons_succ, Bool.not_true, Bool.not_false, decide_true, decide_false, decide_eq_true_eq, decide_eq_false_iff_not, Bool.false_eq_true, Nat.zero_add, Nat.reduceAdd, Int.reduceEq, Int.reduceLT, Int.reduceLE, Nat.reduceEqDiff, reduceCtorEq, eq_self, not_true_eq_false, not_false_eq_true]
    refine wp_callT (c_shuf ls hls one 30 k p3 _ hi (by omega) hd hp3 (by omega)) ?_
    rintro r o ⟨s1, p4, rfl, k1, hp4, rfl⟩
    obtain ⟨k1s, k1d, k1i⟩ := like_size _ _ k1
    simp (disch := first | omega | assumption | decide) only [↓q_pk, ↓q_fz, ↓q_mv, ↓q_ci, ↓q_cb, ↓q_cn, ↓q_cs, ↓q_gi, ↓evF_op1, ↓q_op2, ↓q_cmp, ↓q_bc2, ↓evF_bc1, ↓evF_rev, ↓q_isi, ↓q_idx, ↓evF_chn, ↓evF_boo, ↓q_slc, ↓evF_tup, ↓evF_lst, ↓q_frz, ↓p_call, ↓q_xn, ↓q_xv, ↓q_xi, ↓p_comp1, ↓r_mut0, ↓if_own, ↓evB_nil, ↓evB_cons, ↓evS_nil, ↓evS_cons, ↓evOp_none, ↓evOp_some, ↓evP_nil, ↓evP_ix, ↓evI_seq, ↓evI_rg1, ↓evI_rg2, ↓evI_enu, ↓evI_zip, ↓runS_nil, ↓runS_cons, ↓q_asg, ↓run1_unp, ↓q_sti0, ↓q_aug, ↓run1_aui, ↓run1_exp, ↓run1_ife, ↓p_for, ↓p_whl, ↓run1_ret, ↓run1_retn, ↓run1_pas, ↓run1_rai, ↓evO_def, ↓evT_def, ↓getv0, ↓getvS, ↓setK0, ↓setKS, ↓getO0, ↓getOS, ↓rootK_i, ↓rootK_b, ↓rootK_s, ↓rootK_n, ↓rootK_c, ↓rootK_o, ↓rootK_I, ↓frzK_i, ↓frzK_b, ↓frzK_s, ↓frzK_n, ↓frzK_c, ↓frzK_I, ↓hidK_n, ↓hidK_s, ↓unhK_n, ↓unhK_s, ↓subK_n, ↓subK_i, ↓subK_b, ↓subK_s, ↓subK_x, ↓putK_c, ↓putK_n, ↓optv_some, ↓optl_some, ↓alone_none, ↓isB_bl, ↓isI_int, ↓putE_some, ↓k_add, ↓k_sub, ↓k_mod, ↓k_div, ↓k_mulL, ↓k_mulR, ↓k_p18, ↓k_p15, ↓k_p14, ↓k_neg, ↓k_not, ↓k_lt, ↓k_le, ↓k_gt, ↓k_ge, ↓k_eq, ↓k_ne, ↓k_lenC, ↓k_lenI, ↓k_lenT, ↓k_int, ↓k_max, ↓k_min, ↓k_isII, ↓k_isBI, ↓k_ix0, ↓k_ix1, ↓k_ix2, ↓k_set0, ↓k_set2, ↓k_auga, ↓k_augs, ↓k_eqL0, ↓k_neL0, ↓m_popI, ↓m_appI, ↓mutK_some, ↓k_rev, ↓k_sum, ↓k_ixZ, ↓k_listI, ↓walkI, ↓k_eqB, ↓k_neB, ↓k_intB, ↓k_isBB, ↓k_isIB, ↓k_isS, ↓k_eqLI, ↓k_neLI, ↓rng_one, ↓if_l0, ↓if_l1, ↓if_l2, ↓if_l3, ↓if_l4, ↓if_l5, ↓if_l6, ↓if_l7, ↓if_l8, ↓k_ixT0, ↓k_ixT1, ↓k_ixT2, ↓k_ixT3, ↓walkFI, ↓zipI, ↓p_comp2, ↓k_repI, ↓subK_I, ↓k_eqQt, ↓k_eqQf, ↓k_neQt, ↓k_neQf, ↓ki0, ↓ki1, ↓ki2, ↓ki3, ↓ki4, ↓ki5, ↓ki6, ↓ki7, ↓ki8, ↓ki9, ↓ki10, ↓ki11, ↓ki12, ↓ki13, ↓ki14, ↓ki15, ↓ki16, ↓ki17, ↓ki18, ↓ki19, ↓ki20, ↓ki21, ↓ki22, ↓ki23, ↓ki24, ↓ki25, ↓ki26, ↓ki27, ↓ki28, ↓ki29, ↓ki30, ↓ki31, ↓ki32, ↓ki33, ↓ki34, ↓ki35, ↓q_gs, ↓k_len1, ↓k_in1, ↓frzK_d, ↓frzK_dT, ↓frzK_dL, ↓rootK_d, ↓rootK_dL, ↓subK_d, ↓subK_dL, ↓k_ixTr0, ↓k_ixTr1, ↓k_lenTr, ↓k_tupTr, ↓walk_dL, ↓k_lendL, ↓q_mut1, ↓evI_rg3, ↓frzK_nd, ↓reduceIte, fnEnd_ret, fnEnd_nxt, fnEnd_exc, isOwn_t, List.map_cons, List.map_nil, List.cons_append, List.nil_append, List.append_nil, List.replicate_succ, List.replicate_zero, List.getD_cons_zero, List.getD_cons_succ, Bool.not_true, Bool.not_false, decide_true, decide_false, decide_eq_true_eq, decide_eq_false_iff_not, Bool.false_eq_true, Nat.zero_add, Nat.reduceAdd, Int.reduceEq, Int.reduceLT, Int.reduceLE, Nat.reduceEqDiff, reduceCtorEq, eq_self, not_true_eq_false, not_false_eq_true, ↓frzK2, ↓frzK3]
    refine wp_callT (c_shuf ls hls one 30 k p4 _ hi (by omega) hd hp4 (by omega)) ?_
    rintro r o ⟨s2, p5, rfl, k2, hp5, rfl⟩
    obtain ⟨k2s, k2d, k2i⟩ := like_size _ _ k2
    have hls0 : 0 < ls.length := List.length_pos_iff.mpr hl0
    simp (disch := first | omega | assumption | decide) only [↓q_pk, ↓q_fz, ↓q_mv, ↓q_ci, ↓q_cb, ↓q_cn, ↓q_cs, ↓q_gi, ↓evF_op1, ↓q_op2, ↓q_cmp, ↓q_bc2, ↓evF_bc1, ↓evF_rev, ↓q_isi, ↓q_idx, ↓evF_chn, ↓evF_boo, ↓q_slc, ↓evF_tup, ↓evF_lst, ↓q_frz, ↓p_call, ↓q_xn, ↓q_xv, ↓q_xi, ↓p_comp1, ↓r_mut0, ↓if_own, ↓evB_nil, ↓evB_cons, ↓evS_nil, ↓evS_cons, ↓evOp_none, ↓evOp_some, ↓evP_nil, ↓evP_ix, ↓evI_seq, ↓evI_rg1, ↓evI_rg2, ↓evI_enu, ↓evI_zip, ↓runS_nil, ↓runS_cons, ↓q_asg, ↓run1_unp, ↓q_sti0, ↓q_aug, ↓run1_aui, ↓run1_exp, ↓run1_ife, ↓p_for, ↓p_whl, ↓run1_ret, ↓run1_retn, ↓run1_pas, ↓run1_rai, ↓evO_def, ↓evT_def, ↓getv0, ↓getvS, ↓setK0, ↓setKS, ↓getO0, ↓getOS, ↓rootK_i, ↓rootK_b, ↓rootK_s, ↓rootK_n, ↓rootK_c, ↓rootK_o, ↓rootK_I, ↓frzK_i, ↓frzK_b, ↓frzK_s, ↓frzK_n, ↓frzK_c, ↓frzK_I, ↓hidK_n, ↓hidK_s, ↓unhK_n, ↓unhK_s, ↓subK_n, ↓subK_i, ↓subK_b, ↓subK_s, ↓subK_x, ↓putK_c, ↓putK_n, ↓optv_some, ↓optl_some, ↓alone_none, ↓isB_bl, ↓isI_int, ↓putE_some, ↓k_add, ↓k_sub, ↓k_mod, ↓k_div, ↓k_mulL, ↓k_mulR, ↓k_p18, ↓k_p15, ↓k_p14, ↓k_neg, ↓k_not, ↓k_lt, ↓k_le, ↓k_gt, ↓k_ge, ↓k_eq, ↓k_ne, ↓k_lenC, ↓k_lenI, ↓k_lenT, ↓k_int, ↓k_max, ↓k_min, ↓k_isII, ↓k_isBI, ↓k_ix0, ↓k_ix1, ↓k_ix2, ↓k_set0, ↓k_set2, ↓k_auga, ↓k_augs, ↓k_eqL0, ↓k_neL0, ↓m_popI, ↓m_appI, ↓mutK_some, ↓k_rev, ↓k_sum, ↓k_ixZ, ↓k_listI, ↓walkI, ↓k_eqB, ↓k_neB, ↓k_intB, ↓k_isBB, ↓k_isIB, ↓k_isS, ↓k_eqLI, ↓k_neLI, ↓rng_one, ↓if_l0, ↓if_l1, ↓if_l2, ↓if_l3, ↓if_l4, ↓if_l5, ↓if_l6, ↓if_l7, ↓if_l8, ↓k_ixT0, ↓k_ixT1, ↓k_ixT2, ↓k_ixT3, ↓walkFI, ↓zipI, ↓p_comp2, ↓k_repI, ↓subK_I, ↓k_eqQt, ↓k_eqQf, ↓k_neQt, ↓k_neQf, ↓ki0, ↓ki1, ↓ki2, ↓ki3, ↓ki4, ↓ki5, ↓ki6, ↓ki7, ↓ki8, ↓ki9, ↓ki10, ↓ki11, ↓ki12, ↓ki13, ↓ki14, ↓ki15, ↓ki16, ↓ki17, ↓ki18, ↓ki19, ↓ki20, ↓ki21, ↓ki22, ↓ki23, ↓ki24, ↓ki25, ↓ki26, ↓ki27, ↓ki28, ↓ki29, ↓ki30, ↓ki31, ↓ki32, ↓ki33, ↓ki34, ↓ki35, ↓q_gs, ↓k_len1, ↓k_in1, ↓frzK_d, ↓frzK_dT, ↓frzK_dL, ↓rootK_d, ↓rootK_dL, ↓subK_d, ↓subK_dL, ↓k_ixTr0, ↓k_ixTr1, ↓k_lenTr, ↓k_tupTr, ↓walk_dL, ↓k_lendL, ↓q_mut1, ↓evI_rg3, ↓frzK_nd, ↓reduceIte, fnEnd_ret, fnEnd_nxt, fnEnd_exc, isOwn_t, List.map_cons, List.map_nil, List.cons_append, List.nil_append, List.append_nil, List.replicate_succ, List.replicate_zero, List.getD_cons_zero, List.getD_cons_succ, Bool.not_true, Bool.not_false, decide_true, decide_false, decide_eq_true_eq, decide_eq_false_iff_not, Bool.false_eq_true, Nat.zero_add, Nat.reduceAdd, Int.reduceEq, Int.reduceLT, Int.reduceLE, Nat.reduceEqDiff, reduceCtorEq, eq_self, not_true_eq_false, not_false_eq_true, ↓k_lenS (show ls.length ≤ 16777216 by omega), ↓frzK2, ↓frzK3]
    refine wp_callT (c_take (k + 31) p5 _ hp5 ls.length (by omega) (by omega) (by omega)) ?_
    rintro r o ⟨v, p6, rfl, g0, g1, hp6, rfl⟩
    obtain ⟨l, hl1, hl2⟩ := k_ixS g0 g1 hl
    simp (disch := first | omega | assumption | decide) only [↓q_pk, ↓q_fz, ↓q_mv, ↓q_ci, ↓q_cb, ↓q_cn, ↓q_cs, ↓q_gi, ↓evF_op1, ↓q_op2, ↓q_cmp, ↓q_bc2, ↓evF_bc1, ↓evF_rev, ↓q_isi, ↓q_idx, ↓evF_chn, ↓evF_boo, ↓q_slc, ↓evF_tup, ↓evF_lst, ↓q_frz, ↓p_call, ↓q_xn, ↓q_xv, ↓q_xi, ↓p_comp1, ↓r_mut0, ↓if_own, ↓evB_nil, ↓evB_cons, ↓evS_nil, ↓evS_cons, ↓evOp_none, ↓evOp_some, ↓evP_nil, ↓evP_ix, ↓evI_seq, ↓evI_rg1, ↓evI_rg2, ↓evI_enu, ↓evI_zip, ↓runS_nil, ↓runS_cons, ↓q_asg, ↓run1_unp, ↓q_sti0, ↓q_aug, ↓run1_aui, ↓run1_exp, ↓run1_ife, ↓p_for, ↓p_whl, ↓run1_ret, ↓run1_retn, ↓run1_pas, ↓run1_rai, ↓evO_def, ↓evT_def, ↓getv0, ↓getvS, ↓setK0, ↓setKS, ↓getO0, ↓getOS, ↓rootK_i, ↓rootK_b, ↓rootK_s, ↓rootK_n, ↓rootK_c, ↓rootK_o, ↓rootK_I, ↓frzK_i, ↓frzK_b, ↓frzK_s, ↓frzK_n, ↓frzK_c, ↓frzK_I, ↓hidK_n, ↓hidK_s, ↓unhK_n, ↓unhK_s, ↓subK_n, ↓subK_i, ↓subK_b, ↓subK_s, ↓subK_x, ↓putK_c, ↓putK_n, ↓optv_some, ↓optl_some, ↓alone_none, ↓isB_bl, ↓isI_int, ↓putE_some, ↓k_add, ↓k_sub, ↓k_mod, ↓k_div, ↓k_mulL, ↓k_mulR, ↓k_p18, ↓k_p15, ↓k_p14, ↓k_neg, ↓k_not, ↓k_lt, ↓k_le, ↓k_gt, ↓k_ge, ↓k_eq, ↓k_ne, ↓k_lenC, ↓k_lenI, ↓k_lenT, ↓k_int, ↓k_max, ↓k_min, ↓k_isII, ↓k_isBI, ↓k_ix0, ↓k_ix1, ↓k_ix2, ↓k_set0, ↓k_set2, ↓k_auga, ↓k_augs, ↓k_eqL0, ↓k_neL0, ↓m_popI, ↓m_appI, ↓mutK_some, ↓k_rev, ↓k_sum, ↓k_ixZ, ↓k_listI, ↓walkI, ↓k_eqB, ↓k_neB, ↓k_intB, ↓k_isBB, ↓k_isIB, ↓k_isS, ↓k_eqLI, ↓k_neLI, ↓rng_one, ↓if_l0, ↓if_l1, ↓if_l2, ↓if_l3, ↓if_l4, ↓if_l5, ↓if_l6, ↓if_l7, ↓if_l8, ↓k_ixT0, ↓k_ixT1, ↓k_ixT2, ↓k_ixT3, ↓walkFI, ↓zipI, ↓p_comp2, ↓k_repI, ↓subK_I, ↓k_eqQt, ↓k_eqQf, ↓k_neQt, ↓k_neQf, ↓ki0, ↓ki1, ↓ki2, ↓ki3, ↓ki4, ↓ki5, ↓ki6, ↓ki7, ↓ki8, ↓ki9, ↓ki10, ↓ki11, ↓ki12, ↓ki13, ↓ki14, ↓ki15, ↓ki16, ↓ki17, ↓ki18, ↓ki19, ↓ki20, ↓ki21, ↓ki22, ↓ki23, ↓ki24, ↓ki25, ↓ki26, ↓ki27, ↓ki28, ↓ki29, ↓ki30, ↓ki31, ↓ki32, ↓ki33, ↓ki34, ↓ki35, ↓q_gs, ↓k_len1, ↓k_in1, ↓frzK_d, ↓frzK_dT, ↓frzK_dL, ↓rootK_d, ↓rootK_dL, ↓subK_d, ↓subK_dL, ↓k_ixTr0, ↓k_ixTr1, ↓k_lenTr, ↓k_tupTr, ↓walk_dL, ↓k_lendL, ↓q_mut1, ↓evI_rg3, ↓frzK_nd, ↓reduceIte, fnEnd_ret, fnEnd_nxt, fnEnd_exc, isOwn_t, List.map_cons, List.map_nil, List.cons_append, List.nil_append, List.append_nil, List.replicate_succ, List.replicate_zero, List.getD_cons_zero, List.getD_cons_succ, Bool.not_true, Bool.not_false, decide_true, decide_false, decide_eq_true_eq, decide_eq_false_iff_not, Bool.false_eq_true, Nat.zero_add, Nat.reduceAdd, Int.reduceEq, Int.reduceLT, Int.reduceLE, Nat.reduceEqDiff, reduceCtorEq, eq_self, not_true_eq_false, not_false_eq_true, ↓hl2]
    refine wp_callT (c_take (k + 31) p6 _ hp6 3 (by omega) (by omega) (by omega)) ?_
    rintro r o ⟨w, p7, rfl, w0, w1, hp7, rfl⟩
    obtain ⟨ts, ht, hti, hts, htd, htl⟩ : ∃ ts : List Tr, (∀ kk : D → Fl, optv (idxD (.lst true [.lst false (dL [one, s1]), .lst false (dL [one, other, s2]), .lst false (dL [other, one, one])]) (.int w)) kk = kk (.lst false (dL ts))) ∧ innL ls ts ∧ sizeL ts ≤ most ∧ depthL ts ≤ 30 ∧ ts.length ≤ 3 := by
      have hw : w = 0 ∨ w = 1 ∨ w = 2 := by omega
      rcases hw with rfl | rfl | rfl
      · exact ⟨_, fun k => k_ix0, ⟨hi, k1i ls hi, trivial⟩, by simp only [sizeL]; omega, by simp only [depthL]; omega, by simp⟩
      · exact ⟨_, fun k => k_ix1, ⟨hi, hi', k2i ls hi, trivial⟩, by simp only [sizeL]; omega, by simp only [depthL]; omega, by simp⟩
      · exact ⟨_, fun k => k_ix2, ⟨hi', hi, hi, trivial⟩, by simp only [sizeL]; omega, by simp only [depthL]; omega, by simp⟩
    simp (disch := first | omega | assumption | decide) only [↓q_pk, ↓q_fz, ↓q_mv, ↓q_ci, ↓q_cb, ↓q_cn, ↓q_cs, ↓q_gi, ↓evF_op1, ↓q_op2, ↓q_cmp, ↓q_bc2, ↓evF_bc1, ↓evF_rev, ↓q_isi, ↓q_idx, ↓evF_chn, ↓evF_boo, ↓q_slc, ↓evF_tup, ↓evF_lst, ↓q_frz, ↓p_call, ↓q_xn, ↓q_xv, ↓q_xi, ↓p_comp1, ↓r_mut0, ↓if_own, ↓evB_nil, ↓evB_cons, ↓evS_nil, ↓evS_cons, ↓evOp_none, ↓evOp_some, ↓evP_nil, ↓evP_ix, ↓evI_seq, ↓evI_rg1, ↓evI_rg2, ↓evI_enu, ↓evI_zip, ↓runS_nil, ↓runS_cons, ↓q_asg, ↓run1_unp, ↓q_sti0, ↓q_aug, ↓run1_aui, ↓run1_exp, ↓run1_ife, ↓p_for, ↓p_whl, ↓run1_ret, ↓run1_retn, ↓run1_pas, ↓run1_rai, ↓evO_def, ↓evT_def, ↓getv0, ↓getvS, ↓setK0, ↓setKS, ↓getO0, ↓getOS, ↓rootK_i, ↓rootK_b, ↓rootK_s, ↓rootK_n, ↓rootK_c, ↓rootK_o, ↓rootK_I, ↓frzK_i, ↓frzK_b, ↓frzK_s, ↓frzK_n, ↓frzK_c, ↓frzK_I, ↓hidK_n, ↓hidK_s, ↓unhK_n, ↓unhK_s, ↓subK_n, ↓subK_i, ↓subK_b, ↓subK_s, ↓subK_x, ↓putK_c, ↓putK_n, ↓optv_some, ↓optl_some, ↓alone_none, ↓isB_bl, ↓isI_int, ↓putE_some, ↓k_add, ↓k_sub, ↓k_mod, ↓k_div, ↓k_mulL, ↓k_mulR, ↓k_p18, ↓k_p15, ↓k_p14, ↓k_neg, ↓k_not, ↓k_lt, ↓k_le, ↓k_gt, ↓k_ge, ↓k_eq, ↓k_ne, ↓k_lenC, ↓k_lenI, ↓k_lenT, ↓k_int, ↓k_max, ↓k_min, ↓k_isII, ↓k_isBI, ↓k_ix0, ↓k_ix1, ↓k_ix2, ↓k_set0, ↓k_set2, ↓k_auga, ↓k_augs, ↓k_eqL0, ↓k_neL0, ↓m_popI, ↓m_appI, ↓mutK_some, ↓k_rev, ↓k_sum, ↓k_ixZ, ↓k_listI, ↓walkI, ↓k_eqB, ↓k_neB, ↓k_intB, ↓k_isBB, ↓k_isIB, ↓k_isS, ↓k_eqLI, ↓k_neLI, ↓rng_one, ↓if_l0, ↓if_l1, ↓if_l2, ↓if_l3, ↓if_l4, ↓if_l5, ↓if_l6, ↓if_l7, ↓if_l8, ↓k_ixT0, ↓k_ixT1, ↓k_ixT2, ↓k_ixT3, ↓walkFI, ↓zipI, ↓p_comp2, ↓k_repI, ↓subK_I, ↓k_eqQt, ↓k_eqQf, ↓k_neQt, ↓k_neQf, ↓ki0, ↓ki1, ↓ki2, ↓ki3, ↓ki4, ↓ki5, ↓ki6, ↓ki7, ↓ki8, ↓ki9, ↓ki10, ↓ki11, ↓ki12, ↓ki13, ↓ki14, ↓ki15, ↓ki16, ↓ki17, ↓ki18, ↓ki19, ↓ki20, ↓ki21, ↓ki22, ↓ki23, ↓ki24, ↓ki25, ↓ki26, ↓ki27, ↓ki28, ↓ki29, ↓ki30, ↓ki31, ↓ki32, ↓ki33, ↓ki34, ↓ki35, ↓q_gs, ↓k_len1, ↓k_in1, ↓frzK_d, ↓frzK_dT, ↓frzK_dL, ↓rootK_d, ↓rootK_dL, ↓subK_d, ↓subK_dL, ↓k_ixTr0, ↓k_ixTr1, ↓k_lenTr, ↓k_tupTr, ↓walk_dL, ↓k_lendL, ↓q_mut1, ↓evI_rg3, ↓frzK_nd, ↓reduceIte, fnEnd_ret, fnEnd_nxt, fnEnd_exc, isOwn_t, List.map_cons, List.map_nil, List.cons_append, List.nil_append, List.append_nil, List.replicate_succ, List.replicate_zero, List.getD_cons_zero, List.getD_cons_succ, Bool.not_true, Bool.not_false, decide_true, decide_false, decide_eq_true_eq, decide_eq_false_iff_not, Bool.false_eq_true, Nat.zero_add, Nat.reduceAdd, Int.reduceEq, Int.reduceLT, Int.reduceLE, Nat.reduceEqDiff, reduceCtorEq, eq_self, not_true_eq_false, not_false_eq_true, ↓ht]
    refine wp_callT (c_mixT (k + 30) p7 _ ls ts hti hls hp7 (by omega)) ?_
    rintro r o ⟨us, p8, rfl, hpm, hp8, rfl⟩
    simp (disch := first | omega | assumption | decide) only [↓q_pk, ↓q_fz, ↓q_mv, ↓q_ci, ↓q_cb, ↓q_cn, ↓q_cs, ↓q_gi, ↓evF_op1, ↓q_op2, ↓q_cmp, ↓q_bc2, ↓evF_bc1, ↓evF_rev, ↓q_isi, ↓q_idx, ↓evF_chn, ↓evF_boo, ↓q_slc, ↓evF_tup, ↓evF_lst, ↓q_frz, ↓p_call, ↓q_xn, ↓q_xv, ↓q_xi, ↓p_comp1, ↓r_mut0, ↓if_own, ↓evB_nil, ↓evB_cons, ↓evS_nil, ↓evS_cons, ↓evOp_none, ↓evOp_some, ↓evP_nil, ↓evP_ix, ↓evI_seq, ↓evI_rg1, ↓evI_rg2, ↓evI_enu, ↓evI_zip, ↓runS_nil, ↓runS_cons, ↓q_asg, ↓run1_unp, ↓q_sti0, ↓q_aug, ↓run1_aui, ↓run1_exp, ↓run1_ife, ↓p_for, ↓p_whl, ↓run1_ret, ↓run1_retn, ↓run1_pas, ↓run1_rai, ↓evO_def, ↓evT_def, ↓getv0, ↓getvS, ↓setK0, ↓setKS, ↓getO0, ↓getOS, ↓rootK_i, ↓rootK_b, ↓rootK_s, ↓rootK_n, ↓rootK_c, ↓rootK_o, ↓rootK_I, ↓frzK_i, ↓frzK_b, ↓frzK_s, ↓frzK_n, ↓frzK_c, ↓frzK_I, ↓hidK_n, ↓hidK_s, ↓unhK_n, ↓unhK_s, ↓subK_n, ↓subK_i, ↓subK_b, ↓subK_s, ↓subK_x, ↓putK_c, ↓putK_n, ↓optv_some, ↓optl_some, ↓alone_none, ↓isB_bl, ↓isI_int, ↓putE_some, ↓k_add, ↓k_sub, ↓k_mod, ↓k_div, ↓k_mulL, ↓k_mulR, ↓k_p18, ↓k_p15, ↓k_p14, ↓k_neg, ↓k_not, ↓k_lt, ↓k_le, ↓k_gt, ↓k_ge, ↓k_eq, ↓k_ne, ↓k_lenC, ↓k_lenI, ↓k_lenT, ↓k_int, ↓k_max, ↓k_min, ↓k_isII, ↓k_isBI, ↓k_ix0, ↓k_ix1, ↓k_ix2, ↓k_set0, ↓k_set2, ↓k_auga, ↓k_augs, ↓k_eqL0, ↓k_neL0, ↓m_popI, ↓m_appI, ↓mutK_some, ↓k_rev, ↓k_sum, ↓k_ixZ, ↓k_listI, ↓walkI, ↓k_eqB, ↓k_neB, ↓k_intB, ↓k_isBB, ↓k_isIB, ↓k_isS, ↓k_eqLI, ↓k_neLI, ↓rng_one, ↓if_l0, ↓if_l1, ↓if_l2, ↓if_l3, ↓if_l4, ↓if_l5, ↓if_l6, ↓if_l7, ↓if_l8, ↓k_ixT0, ↓k_ixT1, ↓k_ixT2, ↓k_ixT3, ↓walkFI, ↓zipI, ↓p_comp2, ↓k_repI, ↓subK_I, ↓k_eqQt, ↓k_eqQf, ↓k_neQt, ↓k_neQf, ↓ki0, ↓ki1, ↓ki2, ↓ki3, ↓ki4, ↓ki5, ↓ki6, ↓ki7, ↓ki8, ↓ki9, ↓ki10, ↓ki11, ↓ki12, ↓ki13, ↓ki14, ↓ki15, ↓ki16, ↓ki17, ↓ki18, ↓ki19, ↓ki20, ↓ki21, ↓ki22, ↓ki23, ↓ki24, ↓ki25, ↓ki26, ↓ki27, ↓ki28, ↓ki29, ↓ki30, ↓ki31, ↓ki32, ↓ki33, ↓ki34, ↓ki35, ↓q_gs, ↓k_len1, ↓k_in1, ↓frzK_d, ↓frzK_dT, ↓frzK_dL, ↓rootK_d, ↓rootK_dL, ↓subK_d, ↓subK_dL, ↓k_ixTr0, ↓k_ixTr1, ↓k_lenTr, ↓k_tupTr, ↓walk_dL, ↓k_lendL, ↓q_mut1, ↓evI_rg3, ↓frzK_nd, ↓reduceIte, fnEnd_ret, fnEnd_nxt, fnEnd_exc, isOwn_t, List.map_cons, List.map_nil, List.cons_append, List.nil_append, List.append_nil, List.replicate_succ, List.replicate_zero, List.getD_cons_zero, List.getD_cons_succ, Bool.not_true, Bool.not_false, decide_true, decide_false, decide_eq_true_eq, decide_eq_false_iff_not, Bool.false_eq_true, Nat.zero_add, Nat.reduceAdd, Int.reduceEq, Int.reduceLT, Int.reduceLE, Nat.reduceEqDiff, reduceCtorEq, eq_self, not_true_eq_false, not_false_eq_true]
    refine wp_ret ⟨.nd l us, p8, ?_, ⟨hl1, innL_of fun t ht => innL_mem hti t (hpm.mem_iff.mp ht)⟩, ?_, ?_, hp8.up (by omega), rfl⟩
    · exact Tr.dT_frz (.nd l us)
    · rw [Tr.size, perm_sizeL hpm]
      omega
    · rw [Tr.depth, perm_depthL hpm]
      omega
theorem c_letters (k : Nat) (p : Pl) (m : Int) (hp : p.ok m) (hm : m ≤ 900000) :
    Gives (callF P (k + 2) "_law_letters" [0] [p.d]) fun r o => ∃ (ls : List Nat) (p' : Pl), r = .str ls ∧ ls ≠ [] ∧ ls.length ≤ 26 ∧ (∀ l ∈ ls, 97 ≤ l ∧ l ≤ 122) ∧ p'.ok (m + 1) ∧ o = [some p'.d] := by
  refine gives_fn P__law_letters rfl rfl ?_
  simp only [fn__law_letters, List.map_cons, List.map_nil, List.cons_append, List.nil_append, List.append_nil, List.replicate_succ, List.replicate_zero, Nat.reduceSub, Nat.sub_self]
  simp (disch := first | omega | assumption | decide) only [↓q_pk, ↓q_fz, ↓q_mv, ↓q_ci, ↓q_cb, ↓q_cn, ↓q_cs, ↓q_gi, ↓evF_op1, ↓q_op2, ↓q_cmp, ↓q_bc2, ↓evF_bc1, ↓evF_rev, ↓q_isi, ↓q_idx, ↓evF_chn, ↓evF_boo, ↓q_slc, ↓evF_tup, ↓evF_lst, ↓q_frz, ↓p_call, ↓q_xn, ↓q_xv, ↓q_xi, ↓p_comp1, ↓r_mut0, ↓if_own, ↓evB_nil, ↓evB_cons, ↓evS_nil, ↓evS_cons, ↓evOp_none, ↓evOp_some, ↓evP_nil, ↓evP_ix, ↓evI_seq, ↓evI_rg1, ↓evI_rg2, ↓evI_enu, ↓evI_zip, ↓runS_nil, ↓runS_cons, ↓q_asg, ↓run1_unp, ↓q_sti0, ↓q_aug, ↓run1_aui, ↓run1_exp, ↓run1_ife, ↓p_for, ↓p_whl, ↓run1_ret, ↓run1_retn, ↓run1_pas, ↓run1_rai, ↓evO_def, ↓evT_def, ↓getv0, ↓getvS, ↓setK0, ↓setKS, ↓getO0, ↓getOS, ↓rootK_i, ↓rootK_b, ↓rootK_s, ↓rootK_n, ↓rootK_c, ↓rootK_o, ↓rootK_I, ↓frzK_i, ↓frzK_b, ↓frzK_s, ↓frzK_n, ↓frzK_c, ↓frzK_I, ↓hidK_n, ↓hidK_s, ↓unhK_n, ↓unhK_s, ↓subK_n, ↓subK_i, ↓subK_b, ↓subK_s, ↓subK_x, ↓putK_c, ↓putK_n, ↓optv_some, ↓optl_some, ↓alone_none, ↓isB_bl, ↓isI_int, ↓putE_some, ↓k_add, ↓k_sub, ↓k_mod, ↓k_div, ↓k_mulL, ↓k_mulR, ↓k_p18, ↓k_p15, ↓k_p14, ↓k_neg, ↓k_not, ↓k_lt, ↓k_le, ↓k_gt, ↓k_ge, ↓k_eq, ↓k_ne, ↓k_lenC, ↓k_lenI, ↓k_lenT, ↓k_int, ↓k_max, ↓k_min, ↓k_isII, ↓k_isBI, ↓k_ix0, ↓k_ix1, ↓k_ix2, ↓k_set0, ↓k_set2, ↓k_auga, ↓k_augs, ↓k_eqL0, ↓k_neL0, ↓m_popI, ↓m_appI, ↓mutK_some, ↓k_rev, ↓k_sum, ↓k_ixZ, ↓k_listI, ↓walkI, ↓k_eqB, ↓k_neB, ↓k_intB, ↓k_isBB, ↓k_isIB, ↓k_isS, ↓k_eqLI, ↓k_neLI, ↓rng_one, ↓if_l0, ↓if_l1, ↓if_l2, ↓if_l3, ↓if_l4, ↓if_l5, ↓if_l6, ↓if_l7, ↓if_l8, ↓k_ixT0, ↓k_ixT1, ↓k_ixT2, ↓k_ixT3, ↓walkFI, ↓zipI, ↓p_comp2, ↓k_repI, ↓subK_I, ↓k_eqQt, ↓k_eqQf, ↓k_neQt, ↓k_neQf, ↓ki0, ↓ki1, ↓ki2, ↓ki3, ↓ki4, ↓ki5, ↓ki6, ↓ki7, ↓ki8, ↓ki9, ↓ki10, ↓ki11, ↓ki12, ↓ki13, ↓ki14, ↓ki15, ↓ki16, ↓ki17, ↓ki18, ↓ki19, ↓ki20, ↓ki21, ↓ki22, ↓ki23, ↓ki24, ↓ki25, ↓ki26, ↓ki27, ↓ki28, ↓ki29, ↓ki30, ↓ki31, ↓ki32, ↓ki33, ↓ki34, ↓ki35, ↓q_gs, ↓k_len1, ↓k_in1, ↓frzK_d, ↓frzK_dT, ↓frzK_dL, ↓rootK_d, ↓rootK_dL, ↓subK_d, ↓subK_dL, ↓k_ixTr0, ↓k_ixTr1, ↓k_lenTr, ↓k_tupTr, ↓walk_dL, ↓k_lendL, ↓q_mut1, ↓evI_rg3, ↓frzK_nd, ↓reduceIte, fnEnd_ret, fnEnd_nxt, fnEnd_exc, isOwn_t, List.map_cons, List.map_nil, List.cons_append, List.nil_append, List.append_nil, List.replicate_succ, List.replicate_zero, List.getD_cons_zero, List.getD_cons_succ, Bool.not_true, Bool.not_false, decide_true, decide_false, decide_eq_true_eq, decide_eq_false_iff_not, Bool.false_eq_true, Nat.zero_add, Nat.reduceAdd, Int.reduceEq, Int.reduceLT, Int.reduceLE, Nat.reduceEqDiff, reduceCtorEq, eq_self, not_true_eq_false, not_false_eq_true]
  refine wp_callT (c_take k p m hp 5 (by omega) (by omega) (by omega)) ?_
  rintro r o ⟨v, p', rfl, v0, v1, hp', rfl⟩
  have hv : v = 0 ∨ v = 1 ∨ v = 2 ∨ v = 3 ∨ v = 4 := by omega
  have key : ∃ s : String, (∀ kk : D → Fl, optv (idxD (.lst true [.str (codes "a"), .str (codes "ab"), .str (codes "abc"), .str (codes "xyz"), .str (codes "abcdefghijklmnopqrstuvwxyz")]) (.int v)) kk = kk (.str (codes s))) ∧ codes s ≠ [] ∧ (codes s).length ≤ 26 ∧ (∀ l ∈ codes s, 97 ≤ l ∧ l ≤ 122) := by
    rcases hv with rfl | rfl | rfl | rfl | rfl
    · exact ⟨"a", fun k => rfl, by decide, by decide, by decide⟩
    · exact ⟨"ab", fun k => rfl, by decide, by decide, by decide⟩
    · exact ⟨"abc", fun k => rfl, by decide, by decide, by decide⟩
    · exact ⟨"xyz", fun k => rfl, by decide, by decide, by decide⟩
    · exact ⟨"abcdefghijklmnopqrstuvwxyz", fun k => rfl, by decide, by decide, by decide⟩
  obtain ⟨s, h1, h2, h3, h4⟩ := key
  simp (disch := first | omega | assumption | decide) only [↓q_pk, ↓q_fz, ↓q_mv, ↓q_ci, ↓q_cb, ↓q_cn, ↓q_cs, ↓q_gi, ↓evF_op1, ↓q_op2, ↓q_cmp, ↓q_bc2, ↓evF_bc1, ↓evF_rev, ↓q_isi, ↓q_idx, ↓evF_chn, ↓evF_boo, ↓q_slc, ↓evF_tup, ↓evF_lst, ↓q_frz, ↓p_call, ↓q_xn, ↓q_xv, ↓q_xi, ↓p_comp1, ↓r_mut0, ↓if_own, ↓evB_nil, ↓evB_cons, ↓evS_nil, ↓evS_cons, ↓evOp_none, ↓evOp_some, ↓evP_nil, ↓evP_ix, ↓evI_seq, ↓evI_rg1, ↓evI_rg2, ↓evI_enu, ↓evI_zip, ↓runS_nil, ↓runS_cons, ↓q_asg, ↓run1_unp, ↓q_sti0, ↓q_aug, ↓run1_aui, ↓run1_exp, ↓run1_ife, ↓p_for, ↓p_whl, ↓run1_ret, ↓run1_retn, ↓run1_pas, ↓run1_rai, ↓evO_def, ↓evT_def, ↓getv0, ↓getvS, ↓setK0, ↓setKS, ↓getO0, ↓getOS, ↓rootK_i, ↓rootK_b, ↓rootK_s, ↓rootK_n, ↓rootK_c, ↓rootK_o, ↓rootK_I, ↓frzK_i, ↓frzK_b, ↓frzK_s, ↓frzK_n, ↓frzK_c, ↓frzK_I, ↓hidK_n, ↓hidK_s, ↓unhK_n, ↓unhK_s, ↓subK_n, ↓subK_i, ↓subK_b, ↓subK_s, ↓subK_x, ↓putK_c, ↓putK_n, ↓optv_some, ↓optl_some, ↓alone_none, ↓isB_bl, ↓isI_int, ↓putE_some, ↓k_add, ↓k_sub, ↓k_mod, ↓k_div, ↓k_mulL, ↓k_mulR, ↓k_p18, ↓k_p15, ↓k_p14, ↓k_neg, ↓k_not, ↓k_lt, ↓k_le, ↓k_gt, ↓k_ge, ↓k_eq, ↓k_ne, ↓k_lenC, ↓k_lenI, ↓k_lenT, ↓k_int, ↓k_max, ↓k_min, ↓k_isII, ↓k_isBI, ↓k_ix0, ↓k_ix1, ↓k_ix2, ↓k_set0, ↓k_set2, ↓k_auga, ↓k_augs, ↓k_eqL0, ↓k_neL0, ↓m_popI, ↓m_appI, ↓mutK_some, ↓k_rev, ↓k_sum, ↓k_ixZ, ↓k_listI, ↓walkI, ↓k_eqB, ↓k_neB, ↓k_intB, ↓k_isBB, ↓k_isIB, ↓k_isS, ↓k_eqLI, ↓k_neLI, ↓rng_one, ↓if_l0, ↓if_l1, ↓if_l2, ↓if_l3, ↓if_l4, ↓if_l5, ↓if_l6, ↓if_l7, ↓if_l8, ↓k_ixT0, ↓k_ixT1, ↓k_ixT2, ↓k_ixT3, ↓walkFI, ↓zipI, ↓p_comp2, ↓k_repI, ↓subK_I, ↓k_eqQt, ↓k_eqQf, ↓k_neQt, ↓k_neQf, ↓ki0, ↓ki1, ↓ki2, ↓ki3, ↓ki4, ↓ki5, ↓ki6, ↓ki7, ↓ki8, ↓ki9, ↓ki10, ↓ki11, ↓ki12, ↓ki13, ↓ki14, ↓ki15, ↓ki16, ↓ki17, ↓ki18, ↓ki19, ↓ki20, ↓ki21, ↓ki22, ↓ki23, ↓ki24, ↓ki25, ↓ki26, ↓ki27, ↓ki28, ↓ki29, ↓ki30, ↓ki31, ↓ki32, ↓ki33, ↓ki34, ↓ki35, ↓q_gs, ↓k_len1, ↓k_in1, ↓frzK_d, ↓frzK_dT, ↓frzK_dL, ↓rootK_d, ↓rootK_dL, ↓subK_d, ↓subK_dL, ↓k_ixTr0, ↓k_ixTr1, ↓k_lenTr, ↓k_tupTr, ↓walk_dL, ↓k_lendL, ↓q_mut1, ↓evI_rg3, ↓frzK_nd, ↓reduceIte, fnEnd_ret, fnEnd_nxt, fnEnd_exc, isOwn_t, List.map_cons, List.map_nil, List.cons_append, List.nil_append, List.append_nil, List.replicate_succ, List.replicate_zero, List.getD_cons_zero, List.getD_cons_succ, Bool.not_true, Bool.not_false, decide_true, decide_false, decide_eq_true_eq, decide_eq_false_iff_not, Bool.false_eq_true, Nat.zero_add, Nat.reduceAdd, Int.reduceEq, Int.reduceLT, Int.reduceLE, Nat.reduceEqDiff, reduceCtorEq, eq_self, not_true_eq_false, not_false_eq_true, ↓h1]
  exact wp_ret ⟨codes s, p', rfl, h2, h3, h4, hp', rfl⟩

end K02
end VI

set_option maxRecDepth 100000
set_option maxHeartbeats 4000000
namespace VI
namespace K02
theorem c_copy : ∀ (t : Tr) (n k : Nat), t.size ≤ 16000000 → t.depth ≤ n → Gives (callF P (k + n) "_law_copy" [] [t.d]) fun r o => r = t.dT ∧ o = [] := by
  refine Tr.ind fun l cs ih => ?_
  intro n k hs hd
  obtain _ | n := n
  · rw [Tr.depth] at hd
    omega
  rw [Tr.size] at hs
  rw [Tr.depth] at hd
  have hcl := len_sizeL cs
  refine gives_fn (k := k + n) P__law_copy rfl rfl ?_
  simp only [fn__law_copy, List.map_cons, List.map_nil, List.cons_append, List.nil_append, List.append_nil, List.replicate_succ, List.replicate_zero, Nat.reduceSub, Nat.sub_self]
  simp (disch := first | omega | assumption | decide) only [↓q_pk, ↓q_fz, ↓q_mv, ↓q_ci, ↓q_cb, ↓q_cn, ↓q_cs, ↓q_gi, ↓evF_op1, ↓q_op2, ↓q_cmp, ↓q_bc2, ↓evF_bc1, ↓evF_rev, ↓q_isi, ↓q_idx, ↓evF_chn, ↓evF_boo, ↓q_slc, ↓evF_tup, ↓evF_lst, ↓q_frz, ↓p_call, ↓q_xn, ↓q_xv, ↓q_xi, ↓p_comp1, ↓r_mut0, ↓if_own, ↓evB_nil, ↓evB_cons, ↓evS_nil, ↓evS_cons, ↓evOp_none, ↓evOp_some, ↓evP_nil, ↓evP_ix, ↓evI_seq, ↓evI_rg1, ↓evI_rg2, ↓evI_enu, ↓evI_zip, ↓runS_nil, ↓runS_cons, ↓q_asg, ↓run1_unp, ↓q_sti0, ↓q_aug, ↓run1_aui, ↓run1_exp, ↓run1_ife, ↓p_for, ↓p_whl, ↓run1_ret, ↓run1_retn, ↓run1_pas, ↓run1_rai, ↓evO_def, ↓evT_def, ↓getv0, ↓getvS, ↓setK0, ↓setKS, ↓getO0, ↓getOS, ↓rootK_i, ↓rootK_b, ↓rootK_s, ↓rootK_n, ↓rootK_c, ↓rootK_o, ↓rootK_I, ↓frzK_i, ↓frzK_b, ↓frzK_s, ↓frzK_n, ↓frzK_c, ↓frzK_I, ↓hidK_n, ↓hidK_s, ↓unhK_n, ↓unhK_s, ↓subK_n, ↓subK_i, ↓subK_b, ↓subK_s, ↓subK_x, ↓putK_c, ↓putK_n, ↓optv_some, ↓optl_some, ↓alone_none, ↓isB_bl, ↓isI_int, ↓putE_some, ↓k_add, ↓k_sub, ↓k_mod, ↓k_div, ↓k_mulL, ↓k_mulR, ↓k_p18, ↓k_p15, ↓k_p14, ↓k_neg, ↓k_not, ↓k_lt, ↓k_le, ↓k_gt, ↓k_ge, ↓k_eq, ↓k_ne, ↓k_lenC, ↓k_lenI, ↓k_lenT, ↓k_int, ↓k_max, ↓k_min, ↓k_isII, ↓k_isBI, ↓k_ix0, ↓k_ix1, ↓k_ix2, ↓k_set0, ↓k_set2, ↓k_auga, ↓k_augs, ↓k_eqL0, ↓k_neL0, ↓m_popI, ↓m_appI, ↓mutK_some, ↓k_rev, ↓k_sum, ↓k_ixZ, ↓k_listI, ↓walkI, ↓k_eqB, ↓k_neB, ↓k_intB, ↓k_isBB, ↓k_isIB, ↓k_isS, ↓k_eqLI, ↓k_neLI, ↓rng_one, ↓if_l0, ↓if_l1, ↓if_l2, ↓if_l3, ↓if_l4, ↓if_l5, ↓if_l6, ↓if_l7, ↓if_l8, ↓k_ixT0, ↓k_ixT1, ↓k_ixT2, ↓k_ixT3, ↓walkFI, ↓zipI, ↓p_comp2, ↓k_repI, ↓subK_I, ↓k_eqQt, ↓k_eqQf, ↓k_neQt, ↓k_neQf, ↓ki0, ↓ki1, ↓ki2, ↓ki3, ↓ki4, ↓ki5, ↓ki6, ↓ki7, ↓ki8, ↓ki9, ↓ki10, ↓ki11, ↓ki12, ↓ki13, ↓ki14, ↓ki15, ↓ki16, ↓ki17, ↓ki18, ↓ki19, ↓ki20, ↓ki21, ↓ki22, ↓ki23, ↓ki24, ↓ki25, ↓ki26, ↓ki27, ↓ki28, ↓ki29, ↓ki30, ↓ki31, ↓ki32, ↓ki33, ↓ki34, ↓ki35, ↓q_gs, ↓k_len1, ↓k_in1, ↓frzK_d, ↓frzK_dT, ↓frzK_dL, ↓rootK_d, ↓rootK_dL, ↓subK_d, ↓subK_dL, ↓k_ixTr0, ↓k_ixTr1, ↓k_lenTr, ↓k_tupTr, ↓walk_dL, ↓k_lendL, ↓q_mut1, ↓evI_rg3, ↓frzK_nd, ↓reduceIte, fnEnd_ret, fnEnd_nxt, fnEnd_exc, isOwn_t, List.map_cons, List.map_nil, List.cons_append, List.nil_append, List.append_nil, List.replicate_succ, List.replicate_zero, List.getD_cons_zero, List.getD_cons_succ, Bool.not_true, Bool.not_false, decide_true, decide_false, decide_eq_true_eq, decide_eq_false_iff_not, Bool.false_eq_true, Nat.zero_add, Nat.reduceAdd, Int.reduceEq, Int.reduceLT, Int.reduceLE, Nat.reduceEqDiff, reduceCtorEq, eq_self, not_true_eq_false, not_false_eq_true]
  have hm : dL cs = cs.map Tr.d := dL_map cs
  show Wp _ (compT (cloop _ _ _ (dL cs) _ _) _ _)
  rw [hm]
  refine wp_compM cs Tr.d Tr.d (by omega) (fun c hc => ⟨_, rfl, ?_⟩) ?_
  · simp only [List.set_cons_succ, List.set_cons_zero]
    have h1 := sizeL_mem hc
    have h2 := depthL_mem hc
    simp (disch := first | omega | assumption | decide) only [↓q_pk, ↓q_fz, ↓q_mv, ↓q_ci, ↓q_cb, ↓q_cn, ↓q_cs, ↓q_gi, ↓evF_op1, ↓q_op2, ↓q_cmp, ↓q_bc2, ↓evF_bc1, ↓evF_rev, ↓q_isi, ↓q_idx, ↓evF_chn, ↓evF_boo, ↓q_slc, ↓evF_tup, ↓evF_lst, ↓q_frz, ↓p_call, ↓q_xn, ↓q_xv, ↓q_xi, ↓p_comp1, ↓r_mut0, ↓if_own, ↓evB_nil, ↓evB_cons, ↓evS_nil, ↓evS_cons, ↓evOp_none, ↓evOp_some, ↓evP_nil, ↓evP_ix, ↓evI_seq, ↓evI_rg1, ↓evI_rg2, ↓evI_enu, ↓evI_zip, ↓runS_nil, ↓runS_cons, ↓q_asg, ↓run1_unp, ↓q_sti0, ↓q_aug, ↓run1_aui, ↓run1_exp, ↓run1_ife, ↓p_for, ↓p_whl, ↓run1_ret, ↓run1_retn, ↓run1_pas, ↓run1_rai, ↓evO_def, ↓evT_def, ↓getv0, ↓getvS, ↓setK0, ↓setKS, ↓getO0, ↓getOS, ↓rootK_i, ↓rootK_b, ↓rootK_s, ↓rootK_n, ↓rootK_c, ↓rootK_o, ↓rootK_I, ↓frzK_i, ↓frzK_b, ↓frzK_s, ↓frzK_n, ↓frzK_c, ↓frzK_I, ↓hidK_n, ↓hidK_s, ↓unhK_n, ↓unhK_s, ↓subK_n, ↓subK_i, ↓subK_b, ↓subK_s, ↓subK_x, ↓putK_c, ↓putK_n, ↓optv_some, ↓optl_some, ↓alone_none, ↓isB_bl, ↓isI_int, ↓putE_some, ↓k_add, ↓k_sub, ↓k_mod, ↓k_div, ↓k_mulL, ↓k_mulR, ↓k_p18, ↓k_p15, ↓k_p14, ↓k_neg, ↓k_not, ↓k_lt, ↓k_le, ↓k_gt, ↓k_ge, ↓k_eq, ↓k_ne, ↓k_lenC, ↓k_lenI, ↓k_lenT, ↓k_int, ↓k_max, ↓k_min, ↓k_isII, ↓k_isBI, ↓k_ix0, ↓k_ix1, ↓k_ix2, ↓k_set0, ↓k_set2, ↓k_auga, ↓k_augs, ↓k_eqL0, ↓k_neL0, ↓m_popI, ↓m_appI, ↓mutK_some, ↓k_rev, ↓k_sum, ↓k_ixZ, ↓k_listI, ↓walkI, ↓k_eqB, ↓k_neB, ↓k_intB, ↓k_isBB, ↓k_isIB, ↓k_isS, ↓k_eqLI, ↓k_neLI, ↓rng_one, ↓if_l0, ↓if_l1, ↓if_l2, ↓if_l3, ↓if_l4, ↓if_l5, ↓if_l6, ↓if_l7, ↓if_l8, ↓k_ixT0, ↓k_ixT1, ↓k_ixT2, ↓k_ixT3, ↓walkFI, ↓zipI, ↓p_comp2, ↓k_repI, ↓subK_I, ↓k_eqQt, ↓k_eqQf, ↓k_neQt, ↓k_neQf, ↓ki0, ↓ki1, ↓ki2, ↓ki3, ↓ki4, ↓ki5, ↓ki6, ↓ki7, ↓ki8, ↓ki9, ↓ki10, ↓ki11, ↓ki12, ↓ki13, ↓ki14, ↓ki15, ↓ki16, ↓ki17, ↓ki18, ↓ki19, ↓ki20, ↓ki21, ↓ki22, ↓ki23, ↓ki24, ↓ki25, ↓ki26, ↓ki27, ↓ki28, ↓ki29, ↓ki30, ↓ki31, ↓ki32, ↓ki33, ↓ki34, ↓ki35, ↓q_gs, ↓k_len1, ↓k_in1, ↓frzK_d, ↓frzK_dT, ↓frzK_dL, ↓rootK_d, ↓rootK_dL, ↓subK_d, ↓subK_dL, ↓k_ixTr0, ↓k_ixTr1, ↓k_lenTr, ↓k_tupTr, ↓walk_dL, ↓k_lendL, ↓q_mut1, ↓evI_rg3, ↓frzK_nd, ↓reduceIte, fnEnd_ret, fnEnd_nxt, fnEnd_exc, isOwn_t, List.map_cons, List.map_nil, List.cons_append, List.nil_append, List.append_nil, List.replicate_succ, List.replicate_zero, List.getD_cons_zero, List.getD_cons_succ, Bool.not_true, Bool.not_false, decide_true, decide_false, decide_eq_true_eq, decide_eq_false_iff_not, Bool.false_eq_true, Nat.zero_add, Nat.reduceAdd, Int.reduceEq, Int.reduceLT, Int.reduceLE, Nat.reduceEqDiff, reduceCtorEq, eq_self, not_true_eq_false, not_false_eq_true]
    refine wp_callT (ih c hc n k (by omega) (by omega)) ?_
    rintro r o ⟨rfl, rfl⟩
    simp (disch := first | omega | assumption | decide) only [↓q_pk, ↓q_fz, ↓q_mv, ↓q_ci, ↓q_cb, ↓q_cn, ↓q_cs, ↓q_gi, ↓evF_op1, ↓q_op2, ↓q_cmp, ↓q_bc2, ↓evF_bc1, ↓evF_rev, ↓q_isi, ↓q_idx, ↓evF_chn, ↓evF_boo, ↓q_slc, ↓evF_tup, ↓evF_lst, ↓q_frz, ↓p_call, ↓q_xn, ↓q_xv, ↓q_xi, ↓p_comp1, ↓r_mut0, ↓if_own, ↓evB_nil, ↓evB_cons, ↓evS_nil, ↓evS_cons, ↓evOp_none, ↓evOp_some, ↓evP_nil, ↓evP_ix, ↓evI_seq, ↓evI_rg1, ↓evI_rg2, ↓evI_enu, ↓evI_zip, ↓runS_nil, ↓runS_cons, ↓q_asg, ↓run1_unp, ↓q_sti0, ↓q_aug, ↓run1_aui, ↓run1_exp, ↓run1_ife, ↓p_for, ↓p_whl, ↓run1_ret, ↓run1_retn, ↓run1_pas, ↓run1_rai, ↓evO_def, ↓evT_def, ↓getv0, ↓getvS, ↓setK0, ↓setKS, ↓getO0, ↓getOS, ↓rootK_i, ↓rootK_b, ↓rootK_s, ↓rootK_n, ↓rootK_c, ↓rootK_o, ↓rootK_I, ↓frzK_i, ↓frzK_b, ↓frzK_s, ↓frzK_n, ↓frzK_c, ↓frzK_I, ↓hidK_n, ↓hidK_s, ↓unhK_n, ↓unhK_s, ↓subK_n, ↓subK_i, ↓subK_b, ↓subK_s, ↓subK_x, ↓putK_c, ↓putK_n, ↓optv_some, ↓optl_some, ↓alone_none, ↓isB_bl, ↓isI_int, ↓putE_some, ↓k_add, ↓k_sub, ↓k_mod, ↓k_div, ↓k_mulL, ↓k_mulR, ↓k_p18, ↓k_p15, ↓k_p14, ↓k_neg, ↓k_not, ↓k_lt, ↓k_le, ↓k_gt, ↓k_ge, ↓k_eq, ↓k_ne, ↓k_lenC, ↓k_lenI, ↓k_lenT, ↓k_int, ↓k_max, ↓k_min, ↓k_isII, ↓k_isBI, ↓k_ix0, ↓k_ix1, ↓k_ix2, ↓k_set0, ↓k_set2, ↓k_auga, ↓k_augs, ↓k_eqL0, ↓k_neL0, ↓m_popI, ↓m_appI, ↓mutK_some, ↓k_rev, ↓k_sum, ↓k_ixZ, ↓k_listI, ↓walkI, ↓k_eqB, ↓k_neB, ↓k_intB, ↓k_isBB, ↓k_isIB, ↓k_isS, ↓k_eqLI, ↓k_neLI, ↓rng_one, ↓if_l0, ↓if_l1, ↓if_l2, ↓if_l3, ↓if_l4, ↓if_l5, ↓if_l6, ↓if_l7, ↓if_l8, ↓k_ixT0, ↓k_ixT1, ↓k_ixT2, ↓k_ixT3, ↓walkFI, ↓zipI, ↓p_comp2, ↓k_repI, ↓subK_I, ↓k_eqQt, ↓k_eqQf, ↓k_neQt, ↓k_neQf, ↓ki0, ↓ki1, ↓ki2, ↓ki3, ↓ki4, ↓ki5, ↓ki6, ↓ki7, ↓ki8, ↓ki9, ↓ki10, ↓ki11, ↓ki12, ↓ki13, ↓ki14, ↓ki15, ↓ki16, ↓ki17, ↓ki18, ↓ki19, ↓ki20, ↓ki21, ↓ki22, ↓ki23, ↓ki24, ↓ki25, ↓ki26, ↓ki27, ↓ki28, ↓ki29, ↓ki30, ↓ki31, ↓ki32, ↓ki33, ↓ki34, ↓ki35, ↓q_gs, ↓k_len1, ↓k_in1, ↓frzK_d, ↓frzK_dT, ↓frzK_dL, ↓rootK_d, ↓rootK_dL, ↓subK_d, ↓subK_dL, ↓k_ixTr0, ↓k_ixTr1, ↓k_lenTr, ↓k_tupTr, ↓walk_dL, ↓k_lendL, ↓q_mut1, ↓evI_rg3, ↓frzK_nd, ↓reduceIte, fnEnd_ret, fnEnd_nxt, fnEnd_exc, isOwn_t, List.map_cons, List.map_nil, List.cons_append, List.nil_append, List.append_nil, List.replicate_succ, List.replicate_zero, List.getD_cons_zero, List.getD_cons_succ, Bool.not_true, Bool.not_false, decide_true, decide_false, decide_eq_true_eq, decide_eq_false_iff_not, Bool.false_eq_true, Nat.zero_add, Nat.reduceAdd, Int.reduceEq, Int.reduceLT, Int.reduceLE, Nat.reduceEqDiff, reduceCtorEq, eq_self, not_true_eq_false, not_false_eq_true]
    exact wp_retP ⟨rfl, rfl⟩
  · rw [← dL_map]
    simp (disch := first | omega | assumption | decide) only [↓q_pk, ↓q_fz, ↓q_mv, ↓q_ci, ↓q_cb, ↓q_cn, ↓q_cs, ↓q_gi, ↓evF_op1, ↓q_op2, ↓q_cmp, ↓q_bc2, ↓evF_bc1, ↓evF_rev, ↓q_isi, ↓q_idx, ↓evF_chn, ↓evF_boo, ↓q_slc, ↓evF_tup, ↓evF_lst, ↓q_frz, ↓p_call, ↓q_xn, ↓q_xv, ↓q_xi, ↓p_comp1, ↓r_mut0, ↓if_own, ↓evB_nil, ↓evB_cons, ↓evS_nil, ↓evS_cons, ↓evOp_none, ↓evOp_some, ↓evP_nil, ↓evP_ix, ↓evI_seq, ↓evI_rg1, ↓evI_rg2, ↓evI_enu, ↓evI_zip, ↓runS_nil, ↓runS_cons, ↓q_asg, ↓run1_unp, ↓q_sti0, ↓q_aug, ↓run1_aui, ↓run1_exp, ↓run1_ife, ↓p_for, ↓p_whl, ↓run1_ret, ↓run1_retn, ↓run1_pas, ↓run1_rai, ↓evO_def, ↓evT_def, ↓getv0, ↓getvS, ↓setK0, ↓setKS, ↓getO0, ↓getOS, ↓rootK_i, ↓rootK_b, ↓rootK_s, ↓rootK_n, ↓rootK_c, ↓rootK_o, ↓rootK_I, ↓frzK_i, ↓frzK_b, ↓frzK_s, ↓frzK_n, ↓frzK_c, ↓frzK_I, ↓hidK_n, ↓hidK_s, ↓unhK_n, ↓unhK_s, ↓subK_n, ↓subK_i, ↓subK_b, ↓subK_s, ↓subK_x, ↓putK_c, ↓putK_n, ↓optv_some, ↓optl_some, ↓alone_none, ↓isB_bl, ↓isI_int, ↓putE_some, ↓k_add, ↓k_sub, ↓k_mod, ↓k_div, ↓k_mulL, ↓k_mulR, ↓k_p18, ↓k_p15, ↓k_p14, ↓k_neg, ↓k_not, ↓k_lt, ↓k_le, ↓k_gt, ↓k_ge, ↓k_eq, ↓k_ne, ↓k_lenC, ↓k_lenI, ↓k_lenT, ↓k_int, ↓k_max, ↓k_min, ↓k_isII, ↓k_isBI, ↓k_ix0, ↓k_ix1, ↓k_ix2, ↓k_set0, ↓k_set2, ↓k_auga, ↓k_augs, ↓k_eqL0, ↓k_neL0, ↓m_popI, ↓m_appI, ↓mutK_some, ↓k_rev, ↓k_sum, ↓k_ixZ, ↓k_listI, ↓walkI, ↓k_eqB, ↓k_neB, ↓k_intB, ↓k_isBB, ↓k_isIB, ↓k_isS, ↓k_eqLI, ↓k_neLI, ↓rng_one, ↓if_l0, ↓if_l1, ↓if_l2, ↓if_l3, ↓if_l4, ↓if_l5, ↓if_l6, ↓if_l7, ↓if_l8, ↓k_ixT0, ↓k_ixT1, ↓k_ixT2, ↓k_ixT3, ↓walkFI, ↓zipI, ↓p_comp2, ↓k_repI, ↓subK_I, ↓k_eqQt, ↓k_eqQf, ↓k_neQt, ↓k_neQf, ↓ki0, ↓ki1, ↓ki2, ↓ki3, ↓ki4, ↓ki5, ↓ki6, ↓ki7, ↓ki8, ↓ki9, ↓ki10, ↓ki11, ↓ki12, ↓ki13, ↓ki14, ↓ki15, ↓ki16, ↓ki17, ↓ki18, ↓ki19, ↓ki20, ↓ki21, ↓ki22, ↓ki23, ↓ki24, ↓ki25, ↓ki26, ↓ki27, ↓ki28, ↓ki29, ↓ki30, ↓ki31, ↓ki32, ↓ki33, ↓ki34, ↓ki35, ↓q_gs, ↓k_len1, ↓k_in1, ↓frzK_d, ↓frzK_dT, ↓frzK_dL, ↓rootK_d, ↓rootK_dL, ↓subK_d, ↓subK_dL, ↓k_ixTr0, ↓k_ixTr1, ↓k_lenTr, ↓k_tupTr, ↓walk_dL, ↓k_lendL, ↓q_mut1, ↓evI_rg3, ↓frzK_nd, ↓reduceIte, fnEnd_ret, fnEnd_nxt, fnEnd_exc, isOwn_t, List.map_cons, List.map_nil, List.cons_append, List.nil_append, List.append_nil, List.replicate_succ, List.replicate_zero, List.getD_cons_zero, List.getD_cons_succ, Bool.not_true, Bool.not_false, decide_true, decide_false, decide_eq_true_eq, decide_eq_false_iff_not, Bool.false_eq_true, Nat.zero_add, Nat.reduceAdd, Int.reduceEq, Int.reduceLT, Int.reduceLE, Nat.reduceEqDiff, reduceCtorEq, eq_self, not_true_eq_false, not_false_eq_true]
    exact wp_ret ⟨rfl, rfl⟩

theorem c_lcount (k : Nat) (t : Tr) (h : t.ok) (hs : t.size ≤ 16000000) : Gives (callF P (k + 1) "_law_counted" [] [t.d]) fun r o => r = .lst true [.int t.size, .int t.depth] ∧ o = [] := by
  refine gives_fn P__law_counted rfl rfl ?_
  simp only [fn__law_counted, List.map_cons, List.map_nil, List.cons_append, List.nil_append, List.append_nil, List.replicate_succ, List.replicate_zero, Nat.reduceSub, Nat.sub_self]
  simp (disch := first | omega | assumption | decide) only [↓q_pk, ↓q_fz, ↓q_mv, ↓q_ci, ↓q_cb, ↓q_cn, ↓q_cs, ↓q_gi, ↓evF_op1, ↓q_op2, ↓q_cmp, ↓q_bc2, ↓evF_bc1, ↓evF_rev, ↓q_isi, ↓q_idx, ↓evF_chn, ↓evF_boo, ↓q_slc, ↓evF_tup, ↓evF_lst, ↓q_frz, ↓p_call, ↓q_xn, ↓q_xv, ↓q_xi, ↓p_comp1, ↓r_mut0, ↓if_own, ↓evB_nil, ↓evB_cons, ↓evS_nil, ↓evS_cons, ↓evOp_none, ↓evOp_some, ↓evP_nil, ↓evP_ix, ↓evI_seq, ↓evI_rg1, ↓evI_rg2, ↓evI_enu, ↓evI_zip, ↓runS_nil, ↓runS_cons, ↓q_asg, ↓run1_unp, ↓q_sti0, ↓q_aug, ↓run1_aui, ↓run1_exp, ↓run1_ife, ↓p_for, ↓p_whl, ↓run1_ret, ↓run1_retn, ↓run1_pas, ↓run1_rai, ↓evO_def, ↓evT_def, ↓getv0, ↓getvS, ↓setK0, ↓setKS, ↓getO0, ↓getOS, ↓rootK_i, ↓rootK_b, ↓rootK_s, ↓rootK_n, ↓rootK_c, ↓rootK_o, ↓rootK_I, ↓frzK_i, ↓frzK_b, ↓frzK_s, ↓frzK_n, ↓frzK_c, ↓frzK_I, ↓hidK_n, ↓hidK_s, ↓unhK_n, ↓unhK_s, ↓subK_n, ↓subK_i, ↓subK_b, ↓subK_s, ↓subK_x, ↓putK_c, ↓putK_n, ↓optv_some, ↓optl_some, ↓alone_none, ↓isB_bl, ↓isI_int, ↓putE_some, ↓k_add, ↓k_sub, ↓k_mod, ↓k_div, ↓k_mulL, ↓k_mulR, ↓k_p18, ↓k_p15, ↓k_p14, ↓k_neg, ↓k_not, ↓k_lt, ↓k_le, ↓k_gt, ↓k_ge, ↓k_eq, ↓k_ne, ↓k_lenC, ↓k_lenI, ↓k_lenT, ↓k_int, ↓k_max, ↓k_min, ↓k_isII, ↓k_isBI, ↓k_ix0, ↓k_ix1, ↓k_ix2, ↓k_set0, ↓k_set2, ↓k_auga, ↓k_augs, ↓k_eqL0, ↓k_neL0, ↓m_popI, ↓m_appI, ↓mutK_some, ↓k_rev, ↓k_sum, ↓k_ixZ, ↓k_listI, ↓walkI, ↓k_eqB, ↓k_neB, ↓k_intB, ↓k_isBB, ↓k_isIB, ↓k_isS, ↓k_eqLI, ↓k_neLI, ↓rng_one, ↓if_l0, ↓if_l1, ↓if_l2, ↓if_l3, ↓if_l4, ↓if_l5, ↓if_l6, ↓if_l7, ↓if_l8, ↓k_ixT0, ↓k_ixT1, ↓k_ixT2, ↓k_ixT3, ↓walkFI, ↓zipI, ↓p_comp2, ↓k_repI, ↓subK_I, ↓k_eqQt, ↓k_eqQf, ↓k_neQt, ↓k_neQf, ↓ki0, ↓ki1, ↓ki2, ↓ki3, ↓ki4, ↓ki5, ↓ki6, ↓ki7, ↓ki8, ↓ki9, ↓ki10, ↓ki11, ↓ki12, ↓ki13, ↓ki14, ↓ki15, ↓ki16, ↓ki17, ↓ki18, ↓ki19, ↓ki20, ↓ki21, ↓ki22, ↓ki23, ↓ki24, ↓ki25, ↓ki26, ↓ki27, ↓ki28, ↓ki29, ↓ki30, ↓ki31, ↓ki32, ↓ki33, ↓ki34, ↓ki35, ↓q_gs, ↓k_len1, ↓k_in1, ↓frzK_d, ↓frzK_dT, ↓frzK_dL, ↓rootK_d, ↓rootK_dL, ↓subK_d, ↓subK_dL, ↓k_ixTr0, ↓k_ixTr1, ↓k_lenTr, ↓k_tupTr, ↓walk_dL, ↓k_lendL, ↓q_mut1, ↓evI_rg3, ↓frzK_nd, ↓reduceIte, fnEnd_ret, fnEnd_nxt, fnEnd_exc, isOwn_t, List.map_cons, List.map_nil, List.cons_append, List.nil_append, List.append_nil, List.replicate_succ, List.replicate_zero, List.getD_cons_zero, List.getD_cons_succ, Bool.not_true, Bool.not_false, decide_true, decide_false, decide_eq_true_eq, decide_eq_false_iff_not, Bool.false_eq_true, Nat.zero_add, Nat.reduceAdd, Int.reduceEq, Int.reduceLT, Int.reduceLE, Nat.reduceEqDiff, reduceCtorEq, eq_self, not_true_eq_false, not_false_eq_true]
  refine wp_whlT (fun n e => ∃ (ts : List Tr) (s d : Nat) (b : Bool) (o4 o5 : Option D), e = [some t.d, some (.lst b (dL ts)), some (.int s), some (.int d), o4, o5] ∧ okTs ts ∧ s + sizeL ts = t.size ∧ d + depthL ts = t.depth ∧ sizeL ts = n) t.size ⟨[t], 0, 0, true, none, none, rfl, ⟨h, trivial⟩, by rw [sizeL, sizeL]; omega, by rw [depthL, depthL]; omega, by rw [sizeL, sizeL]; omega⟩ ?_
  rintro n e ⟨ts, s, d, b, o4, o5, rfl, hk, hsz, hdp, hn⟩
  cases b
  all_goals
    simp (disch := first | omega | assumption | decide) only [↓q_pk, ↓q_fz, ↓q_mv, ↓q_ci, ↓q_cb, ↓q_cn, ↓q_cs, ↓q_gi, ↓evF_op1, ↓q_op2, ↓q_cmp, ↓q_bc2, ↓evF_bc1, ↓evF_rev, ↓q_isi, ↓q_idx, ↓evF_chn, ↓evF_boo, ↓q_slc, ↓evF_tup, ↓evF_lst, ↓q_frz, ↓p_call, ↓q_xn, ↓q_xv, ↓q_xi, ↓p_comp1, ↓r_mut0, ↓if_own, ↓evB_nil, ↓evB_cons, ↓evS_nil, ↓evS_cons, ↓evOp_none, ↓evOp_some, ↓evP_nil, ↓evP_ix, ↓evI_seq, ↓evI_rg1, ↓evI_rg2, ↓evI_enu, ↓evI_zip, ↓runS_nil, ↓runS_cons, ↓q_asg, ↓run1_unp, ↓q_sti0, ↓q_aug, ↓run1_aui, ↓run1_exp, ↓run1_ife, ↓p_for, ↓p_whl, ↓run1_ret, ↓run1_retn, ↓run1_pas, ↓run1_rai, ↓evO_def, ↓evT_def, ↓getv0, ↓getvS, ↓setK0, ↓setKS, ↓getO0, ↓getOS, ↓rootK_i, ↓rootK_b, ↓rootK_s, ↓rootK_n, ↓rootK_c, ↓rootK_o, ↓rootK_I, ↓frzK_i, ↓frzK_b, ↓frzK_s, ↓frzK_n, ↓frzK_c, ↓frzK_I, ↓hidK_n, ↓hidK_s, ↓unhK_n, ↓unhK_s, ↓subK_n, ↓subK_i, ↓subK_b, ↓subK_s, ↓subK_x, ↓putK_c, ↓putK_n, ↓optv_some, ↓optl_some, ↓alone_none, ↓isB_bl, ↓isI_int, ↓putE_some, ↓k_add, ↓k_sub, ↓k_mod, ↓k_div, ↓k_mulL, ↓k_mulR, ↓k_p18, ↓k_p15, ↓k_p14, ↓k_neg, ↓k_not, ↓k_lt, ↓k_le, ↓k_gt, ↓k_ge, ↓k_eq, ↓k_ne, ↓k_lenC, ↓k_lenI, ↓k_lenT, ↓k_int, ↓k_max, ↓k_min, ↓k_isII, ↓k_isBI, ↓k_ix0, ↓k_ix1, ↓k_ix2, ↓k_set0, ↓k_set2, ↓k_auga, ↓k_augs, ↓k_eqL0, ↓k_neL0, ↓m_popI, ↓m_appI, ↓mutK_some, ↓k_rev, ↓k_sum, ↓k_ixZ, ↓k_listI, ↓walkI, ↓k_eqB, ↓k_neB, ↓k_intB, ↓k_isBB, ↓k_isIB, ↓k_isS, ↓k_eqLI, ↓k_neLI, ↓rng_one, ↓if_l0, ↓if_l1, ↓if_l2, ↓if_l3, ↓if_l4, ↓if_l5, ↓if_l6, ↓if_l7, ↓if_l8, ↓k_ixT0, ↓k_ixT1, ↓k_ixT2, ↓k_ixT3, ↓walkFI, ↓zipI, ↓p_comp2, ↓k_repI, ↓subK_I, ↓k_eqQt, ↓k_eqQf, ↓k_neQt, ↓k_neQf, ↓ki0, ↓ki1, ↓ki2, ↓ki3, ↓ki4, ↓ki5, ↓ki6, ↓ki7, ↓ki8, ↓ki9, ↓ki10, ↓ki11, ↓ki12, ↓ki13, ↓ki14, ↓ki15, ↓ki16, ↓ki17, ↓ki18, ↓ki19, ↓ki20, ↓ki21, ↓ki22, ↓ki23, ↓ki24, ↓ki25, ↓ki26, ↓ki27, ↓ki28, ↓ki29, ↓ki30, ↓ki31, ↓ki32, ↓ki33, ↓ki34, ↓ki35, ↓q_gs, ↓k_len1, ↓k_in1, ↓frzK_d, ↓frzK_dT, ↓frzK_dL, ↓rootK_d, ↓rootK_dL, ↓subK_d, ↓subK_dL, ↓k_ixTr0, ↓k_ixTr1, ↓k_lenTr, ↓k_tupTr, ↓walk_dL, ↓k_lendL, ↓q_mut1, ↓evI_rg3, ↓frzK_nd, ↓reduceIte, fnEnd_ret, fnEnd_nxt, fnEnd_exc, isOwn_t, List.map_cons, List.map_nil, List.cons_append, List.nil_append, List.append_nil, List.replicate_succ, List.replicate_zero, List.getD_cons_zero, List.getD_cons_succ, Bool.not_true, Bool.not_false, decide_true, decide_false, decide_eq_true_eq, decide_eq_false_iff_not, Bool.false_eq_true, Nat.zero_add, Nat.reduceAdd, Int.reduceEq, Int.reduceLT, Int.reduceLE, Nat.reduceEqDiff, reduceCtorEq, eq_self, not_true_eq_false, not_false_eq_true, ↓k_neNil (dL_plain ts hk)]
    refine wp_retP ⟨_, rfl, fun ht => ?_, fun ht => ?_⟩
    · have hts : ts = [] := by
        cases ts with
        | nil => rfl
        | cons _ _ => cases ht
      subst hts
      simp (disch := first | omega | assumption | decide) only [↓q_pk, ↓q_fz, ↓q_mv, ↓q_ci, ↓q_cb, ↓q_cn, ↓q_cs, ↓q_gi, ↓evF_op1, ↓q_op2, ↓q_cmp, ↓q_bc2, ↓evF_bc1, ↓evF_rev, ↓q_isi, ↓q_idx, ↓evF_chn, ↓evF_boo, ↓q_slc, ↓evF_tup, ↓evF_lst, ↓q_frz, ↓p_call, ↓q_xn, ↓q_xv, ↓q_xi, ↓p_comp1, ↓r_mut0, ↓if_own, ↓evB_nil, ↓evB_cons, ↓evS_nil, ↓evS_cons, ↓evOp_none, ↓evOp_some, ↓evP_nil, ↓evP_ix, ↓evI_seq, ↓evI_rg1, ↓evI_rg2, ↓evI_enu, ↓evI_zip, ↓runS_nil, ↓runS_cons, ↓q_asg, ↓run1_unp, ↓q_sti0, ↓q_aug, ↓run1_aui, ↓run1_exp, ↓run1_ife, ↓p_for, ↓p_whl, ↓run1_ret, ↓run1_retn, ↓run1_pas, ↓run1_rai, ↓evO_def, ↓evT_def, ↓getv0, ↓getvS, ↓setK0, ↓setKS, ↓getO0, ↓getOS, ↓rootK_i, ↓rootK_b, ↓rootK_s, ↓rootK_n, ↓rootK_c, ↓rootK_o, ↓rootK_I, ↓frzK_i, ↓frzK_b, ↓frzK_s, ↓frzK_n, ↓frzK_c, ↓frzK_I, ↓hidK_n, ↓hidK_s, ↓unhK_n, ↓unhK_s, ↓subK_n, ↓subK_i, ↓subK_b, ↓subK_s, ↓subK_x, ↓putK_c, ↓putK_n, ↓optv_some, ↓optl_some, ↓alone_none, ↓isB_bl, ↓isI_int, ↓putE_some, ↓k_add, ↓k_sub, ↓k_mod, ↓k_div, ↓k_mulL, ↓k_mulR, ↓k_p18, ↓k_p15, ↓k_p14, ↓k_neg, ↓k_not, ↓k_lt, ↓k_le, ↓k_gt, ↓k_ge, ↓k_eq, ↓k_ne, ↓k_lenC, ↓k_lenI, ↓k_lenT, ↓k_int, ↓k_max, ↓k_min, ↓k_isII, ↓k_isBI, ↓k_ix0, ↓k_ix1, ↓k_ix2, ↓k_set0, ↓k_set2, ↓k_auga, ↓k_augs, ↓k_eqL0, ↓k_neL0, ↓m_popI, ↓m_appI, ↓mutK_some, ↓k_rev, ↓k_sum, ↓k_ixZ, ↓k_listI, ↓walkI, ↓k_eqB, ↓k_neB, ↓k_intB, ↓k_isBB, ↓k_isIB, ↓k_isS, ↓k_eqLI, ↓k_neLI, ↓rng_one, ↓if_l0, ↓if_l1, ↓if_l2, ↓if_l3, ↓if_l4, ↓if_l5, ↓if_l6, ↓if_l7, ↓if_l8, ↓k_ixT0, ↓k_ixT1, ↓k_ixT2, ↓k_ixT3, ↓walkFI, ↓zipI, ↓p_comp2, ↓k_repI, ↓subK_I, ↓k_eqQt, ↓k_eqQf, ↓k_neQt, ↓k_neQf, ↓ki0, ↓ki1, ↓ki2, ↓ki3, ↓ki4, ↓ki5, ↓ki6, ↓ki7, ↓ki8, ↓ki9, ↓ki10, ↓ki11, ↓ki12, ↓ki13, ↓ki14, ↓ki15, ↓ki16, ↓ki17, ↓ki18, ↓ki19, ↓ki20, ↓ki21, ↓ki22, ↓ki23, ↓ki24, ↓ki25, ↓ki26, ↓ki27, ↓ki28, ↓ki29, ↓ki30, ↓ki31, ↓ki32, ↓ki33, ↓ki34, ↓ki35, ↓q_gs, ↓k_len1, ↓k_in1, ↓frzK_d, ↓frzK_dT, ↓frzK_dL, ↓rootK_d, ↓rootK_dL, ↓subK_d, ↓subK_dL, ↓k_ixTr0, ↓k_ixTr1, ↓k_lenTr, ↓k_tupTr, ↓walk_dL, ↓k_lendL, ↓q_mut1, ↓evI_rg3, ↓frzK_nd, ↓reduceIte, fnEnd_ret, fnEnd_nxt, fnEnd_exc, isOwn_t, List.map_cons, List.map_nil, List.cons_append, List.nil_append, List.append_nil, List.replicate_succ, List.replicate_zero, List.getD_cons_zero, List.getD_cons_succ, Bool.not_true, Bool.not_false, decide_true, decide_false, decide_eq_true_eq, decide_eq_false_iff_not, Bool.false_eq_true, Nat.zero_add, Nat.reduceAdd, Int.reduceEq, Int.reduceLT, Int.reduceLE, Nat.reduceEqDiff, reduceCtorEq, eq_self, not_true_eq_false, not_false_eq_true]
      rw [sizeL] at hsz
      rw [depthL] at hdp
      exact wp_ret ⟨by rw [← hsz, ← hdp]; rfl, rfl⟩
    · intro K' hK
      have hne : ts ≠ [] := by
        rintro rfl
        cases ht
      have hks := kids_size ts
      have hl0 : 0 < ts.length := List.length_pos_iff.mpr hne
      simp (disch := first | omega | assumption | decide) only [↓q_pk, ↓q_fz, ↓q_mv, ↓q_ci, ↓q_cb, ↓q_cn, ↓q_cs, ↓q_gi, ↓evF_op1, ↓q_op2, ↓q_cmp, ↓q_bc2, ↓evF_bc1, ↓evF_rev, ↓q_isi, ↓q_idx, ↓evF_chn, ↓evF_boo, ↓q_slc, ↓evF_tup, ↓evF_lst, ↓q_frz, ↓p_call, ↓q_xn, ↓q_xv, ↓q_xi, ↓p_comp1, ↓r_mut0, ↓if_own, ↓evB_nil, ↓evB_cons, ↓evS_nil, ↓evS_cons, ↓evOp_none, ↓evOp_some, ↓evP_nil, ↓evP_ix, ↓evI_seq, ↓evI_rg1, ↓evI_rg2, ↓evI_enu, ↓evI_zip, ↓runS_nil, ↓runS_cons, ↓q_asg, ↓run1_unp, ↓q_sti0, ↓q_aug, ↓run1_aui, ↓run1_exp, ↓run1_ife, ↓p_for, ↓p_whl, ↓run1_ret, ↓run1_retn, ↓run1_pas, ↓run1_rai, ↓evO_def, ↓evT_def, ↓getv0, ↓getvS, ↓setK0, ↓setKS, ↓getO0, ↓getOS, ↓rootK_i, ↓rootK_b, ↓rootK_s, ↓rootK_n, ↓rootK_c, ↓rootK_o, ↓rootK_I, ↓frzK_i, ↓frzK_b, ↓frzK_s, ↓frzK_n, ↓frzK_c, ↓frzK_I, ↓hidK_n, ↓hidK_s, ↓unhK_n, ↓unhK_s, ↓subK_n, ↓subK_i, ↓subK_b, ↓subK_s, ↓subK_x, ↓putK_c, ↓putK_n, ↓optv_some, ↓optl_some, ↓alone_none, ↓isB_bl, ↓isI_int, ↓putE_some, ↓k_add, ↓k_sub, ↓k_mod, ↓k_div, ↓k_mulL, ↓k_mulR, ↓k_p18, ↓k_p15, ↓k_p14, ↓k_neg, ↓k_not, ↓k_lt, ↓k_le, ↓k_gt, ↓k_ge, ↓k_eq, ↓k_ne, ↓k_lenC, ↓k_lenI, ↓k_lenT, ↓k_int, ↓k_max, ↓k_min, ↓k_isII, ↓k_isBI, ↓k_ix0, ↓k_ix1, ↓k_ix2, ↓k_set0, ↓k_set2, ↓k_auga, ↓k_augs, ↓k_eqL0, ↓k_neL0, ↓m_popI, ↓m_appI, ↓mutK_some, ↓k_rev, ↓k_sum, ↓k_ixZ, ↓k_listI, ↓walkI, ↓k_eqB, ↓k_neB, ↓k_intB, ↓k_isBB, ↓k_isIB, ↓k_isS, ↓k_eqLI, ↓k_neLI, ↓rng_one, ↓if_l0, ↓if_l1, ↓if_l2, ↓if_l3, ↓if_l4, ↓if_l5, ↓if_l6, ↓if_l7, ↓if_l8, ↓k_ixT0, ↓k_ixT1, ↓k_ixT2, ↓k_ixT3, ↓walkFI, ↓zipI, ↓p_comp2, ↓k_repI, ↓subK_I, ↓k_eqQt, ↓k_eqQf, ↓k_neQt, ↓k_neQf, ↓ki0, ↓ki1, ↓ki2, ↓ki3, ↓ki4, ↓ki5, ↓ki6, ↓ki7, ↓ki8, ↓ki9, ↓ki10, ↓ki11, ↓ki12, ↓ki13, ↓ki14, ↓ki15, ↓ki16, ↓ki17, ↓ki18, ↓ki19, ↓ki20, ↓ki21, ↓ki22, ↓ki23, ↓ki24, ↓ki25, ↓ki26, ↓ki27, ↓ki28, ↓ki29, ↓ki30, ↓ki31, ↓ki32, ↓ki33, ↓ki34, ↓ki35, ↓q_gs, ↓k_len1, ↓k_in1, ↓frzK_d, ↓frzK_dT, ↓frzK_dL, ↓rootK_d, ↓rootK_dL, ↓subK_d, ↓subK_dL, ↓k_ixTr0, ↓k_ixTr1, ↓k_lenTr, ↓k_tupTr, ↓walk_dL, ↓k_lendL, ↓q_mut1, ↓evI_rg3, ↓frzK_nd, ↓reduceIte, fnEnd_ret, fnEnd_nxt, fnEnd_exc, isOwn_t, List.map_cons, List.map_nil, List.cons_append, List.nil_append, List.append_nil, List.replicate_succ, List.replicate_zero, List.getD_cons_zero, List.getD_cons_succ, Bool.not_true, Bool.not_false, decide_true, decide_false, decide_eq_true_eq, decide_eq_false_iff_not, Bool.false_eq_true, Nat.zero_add, Nat.reduceAdd, Int.reduceEq, Int.reduceLT, Int.reduceLE, Nat.reduceEqDiff, reduceCtorEq, eq_self, not_true_eq_false, not_false_eq_true]
      refine wp_seqT (wp_for (fun r e => ∃ (ds rs : List Tr) (o5 : Option D), e = [some t.d, some (.lst false (dL ts)), some (.int ((s : Int) + ts.length)), some (.int ((d : Int) + 1)), some (.lst true (dL (kids ds))), o5] ∧ ts = ds ++ rs ∧ r = dL rs) ⟨[], ts, o5, rfl, rfl, rfl⟩ ?_ ?_)
      · rintro x r e ⟨ds, rs, o5, rfl, hu, hr⟩
        cases rs with
        | nil => cases hr
        | cons c rs =>
          rw [dL, List.cons.injEq] at hr
          obtain ⟨rfl, rfl⟩ := hr
          have hku : kids ts = kids ds ++ (c.cs ++ kids rs) := by rw [hu, kids_app, kids_cons]
          have hkz : sizeL (kids ts) = sizeL (kids ds) + (sizeL c.cs + sizeL (kids rs)) := by rw [hku, sizeL_app, sizeL_app]
          have l1 := len_sizeL (kids ds)
          have l2 := len_sizeL c.cs
          have hadd : ∀ kk : D → Fl, optv (op2D .add (.lst true (dL (kids ds))) (.lst false (dL c.cs))) kk = kk (.lst true (dL (kids (ds ++ [c])))) := fun kk => by
            rw [k_addLL (dL_fro _) (dL_fro _) (by rw [dL_len, dL_len]; omega), kids_app, kids_cons, dL_app, dL_app]
            show _ = kk (.lst true (_ ++ (_ ++ dL [])))
            rw [dL, List.append_nil]
          refine ⟨_, rfl, fun K2 hK2 => ?_⟩
          simp only [List.set_cons_succ, List.set_cons_zero]
          simp (disch := first | omega | assumption | decide) only [↓q_pk, ↓q_fz, ↓q_mv, ↓q_ci, ↓q_cb, ↓q_cn, ↓q_cs, ↓q_gi, ↓evF_op1, ↓q_op2, ↓q_cmp, ↓q_bc2, ↓evF_bc1, ↓evF_rev, ↓q_isi, ↓q_idx, ↓evF_chn, ↓evF_boo, ↓q_slc, ↓evF_tup, ↓evF_lst, ↓q_frz, ↓p_call, ↓q_xn, ↓q_xv, ↓q_xi, ↓p_comp1, ↓r_mut0, ↓if_own, ↓evB_nil, ↓evB_cons, ↓evS_nil, ↓evS_cons, ↓evOp_none, ↓evOp_some, ↓evP_nil, ↓evP_ix, ↓evI_seq, ↓evI_rg1, ↓evI_rg2, ↓evI_enu, ↓evI_zip, ↓runS_nil, ↓runS_cons, ↓q_asg, ↓run1_unp, ↓q_sti0, ↓q_aug, ↓run1_aui, ↓run1_exp, ↓run1_ife, ↓p_for, ↓p_whl, ↓run1_ret, ↓run1_retn, ↓run1_pas, ↓run1_rai, ↓evO_def, ↓evT_def, ↓getv0, ↓getvS, ↓setK0, ↓setKS, ↓getO0, ↓getOS, ↓rootK_i, ↓rootK_b, ↓rootK_s, ↓rootK_n, ↓rootK_c, ↓rootK_o, ↓rootK_I, ↓frzK_i, ↓frzK_b, ↓frzK_s, ↓frzK_n, ↓frzK_c, ↓frzK_I, ↓hidK_n, ↓hidK_s, ↓unhK_n, ↓unhK_s, ↓subK_n, ↓subK_i, ↓subK_b, ↓subK_s, ↓subK_x, ↓putK_c, ↓putK_n, ↓optv_some, ↓optl_some, ↓alone_none, ↓isB_bl, ↓isI_int, ↓putE_some, ↓k_add, ↓k_sub, ↓k_mod, ↓k_div, ↓k_mulL, ↓k_mulR, ↓k_p18, ↓k_p15, ↓k_p14, ↓k_neg, ↓k_not, ↓k_lt, ↓k_le, ↓k_gt, ↓k_ge, ↓k_eq, ↓k_ne, ↓k_lenC, ↓k_lenI, ↓k_lenT, ↓k_int, ↓k_max, ↓k_min, ↓k_isII, ↓k_isBI, ↓k_ix0, ↓k_ix1, ↓k_ix2, ↓k_set0, ↓k_set2, ↓k_auga, ↓k_augs, ↓k_eqL0, ↓k_neL0, ↓m_popI, ↓m_appI, ↓mutK_some, ↓k_rev, ↓k_sum, ↓k_ixZ, ↓k_listI, ↓walkI, ↓k_eqB, ↓k_neB, ↓k_intB, ↓k_isBB, ↓k_isIB, ↓k_isS, ↓k_eqLI, ↓k_neLI, ↓rng_one, ↓if_l0, ↓if_l1, ↓if_l2, ↓if_l3, ↓if_l4, ↓if_l5, ↓if_l6, ↓if_l7, ↓if_l8, ↓k_ixT0, ↓k_ixT1, ↓k_ixT2, ↓k_ixT3, ↓walkFI, ↓zipI, ↓p_comp2, ↓k_repI, ↓subK_I, ↓k_eqQt, ↓k_eqQf, ↓k_neQt, ↓k_neQf, ↓ki0, ↓ki1, ↓ki2, ↓ki3, ↓ki4, ↓ki5, ↓ki6, ↓ki7, ↓ki8, ↓ki9, ↓ki10, ↓ki11, ↓ki12, ↓ki13, ↓ki14, ↓ki15, ↓ki16, ↓ki17, ↓ki18, ↓ki19, ↓ki20, ↓ki21, ↓ki22, ↓ki23, ↓ki24, ↓ki25, ↓ki26, ↓ki27, ↓ki28, ↓ki29, ↓ki30, ↓ki31, ↓ki32, ↓ki33, ↓ki34, ↓ki35, ↓q_gs, ↓k_len1, ↓k_in1, ↓frzK_d, ↓frzK_dT, ↓frzK_dL, ↓rootK_d, ↓rootK_dL, ↓subK_d, ↓subK_dL, ↓k_ixTr0, ↓k_ixTr1, ↓k_lenTr, ↓k_tupTr, ↓walk_dL, ↓k_lendL, ↓q_mut1, ↓evI_rg3, ↓frzK_nd, ↓reduceIte, fnEnd_ret, fnEnd_nxt, fnEnd_exc, isOwn_t, List.map_cons, List.map_nil, List.cons_append, List.nil_append, List.append_nil, List.replicate_succ, List.replicate_zero, List.getD_cons_zero, List.getD_cons_succ, Bool.not_true, Bool.not_false, decide_true, decide_false, decide_eq_true_eq, decide_eq_false_iff_not, Bool.false_eq_true, Nat.zero_add, Nat.reduceAdd, Int.reduceEq, Int.reduceLT, Int.reduceLE, Nat.reduceEqDiff, reduceCtorEq, eq_self, not_true_eq_false, not_false_eq_true, ↓hadd]
          exact hK2 _ ⟨ds ++ [c], rs, _, rfl, by rw [hu, List.append_assoc]; rfl, rfl⟩
      · rintro e ⟨ds, rs, o5, rfl, hu, hr⟩
        cases rs with
        | cons _ _ => cases hr
        | nil =>
          rw [List.append_nil] at hu
          subst hu
          simp (disch := first | omega | assumption | decide) only [↓q_pk, ↓q_fz, ↓q_mv, ↓q_ci, ↓q_cb, ↓q_cn, ↓q_cs, ↓q_gi, ↓evF_op1, ↓q_op2, ↓q_cmp, ↓q_bc2, ↓evF_bc1, ↓evF_rev, ↓q_isi, ↓q_idx, ↓evF_chn, ↓evF_boo, ↓q_slc, ↓evF_tup, ↓evF_lst, ↓q_frz, ↓p_call, ↓q_xn, ↓q_xv, ↓q_xi, ↓p_comp1, ↓r_mut0, ↓if_own, ↓evB_nil, ↓evB_cons, ↓evS_nil, ↓evS_cons, ↓evOp_none, ↓evOp_some, ↓evP_nil, ↓evP_ix, ↓evI_seq, ↓evI_rg1, ↓evI_rg2, ↓evI_enu, ↓evI_zip, ↓runS_nil, ↓runS_cons, ↓q_asg, ↓run1_unp, ↓q_sti0, ↓q_aug, ↓run1_aui, ↓run1_exp, ↓run1_ife, ↓p_for, ↓p_whl, ↓run1_ret, ↓run1_retn, ↓run1_pas, ↓run1_rai, ↓evO_def, ↓evT_def, ↓getv0, ↓getvS, ↓setK0, ↓setKS, ↓getO0, ↓getOS, ↓rootK_i, ↓rootK_b, ↓rootK_s, ↓rootK_n, ↓rootK_c, ↓rootK_o, ↓rootK_I, ↓frzK_i, ↓frzK_b, ↓frzK_s, ↓frzK_n, ↓frzK_c, ↓frzK_I, ↓hidK_n, ↓hidK_s, ↓unhK_n, ↓unhK_s, ↓subK_n, ↓subK_i, ↓subK_b, ↓subK_s, ↓subK_x, ↓putK_c, ↓putK_n, ↓optv_some, ↓optl_some, ↓alone_none, ↓isB_bl, ↓isI_int, ↓putE_some, ↓k_add, ↓k_sub, ↓k_mod, ↓k_div, ↓k_mulL, ↓k_mulR, ↓k_p18, ↓k_p15, ↓k_p14, ↓k_neg, ↓k_not, ↓k_lt, ↓k_le, ↓k_gt, ↓k_ge, ↓k_eq, ↓k_ne, ↓k_lenC, ↓k_lenI, ↓k_lenT, ↓k_int, ↓k_max, ↓k_min, ↓k_isII, ↓k_isBI, ↓k_ix0, ↓k_ix1, ↓k_ix2, ↓k_set0, ↓k_set2, ↓k_auga, ↓k_augs, ↓k_eqL0, ↓k_neL0, ↓m_popI, ↓m_appI, ↓mutK_some, ↓k_rev, ↓k_sum, ↓k_ixZ, ↓k_listI, ↓walkI, ↓k_eqB, ↓k_neB, ↓k_intB, ↓k_isBB, ↓k_isIB, ↓k_isS, ↓k_eqLI, ↓k_neLI, ↓rng_one, ↓if_l0, ↓if_l1, ↓if_l2, ↓if_l3, ↓if_l4, ↓if_l5, ↓if_l6, ↓if_l7, ↓if_l8, ↓k_ixT0, ↓k_ixT1, ↓k_ixT2, ↓k_ixT3, ↓walkFI, ↓zipI, ↓p_comp2, ↓k_repI, ↓subK_I, ↓k_eqQt, ↓k_eqQf, ↓k_neQt, ↓k_neQf, ↓ki0, ↓ki1, ↓ki2, ↓ki3, ↓ki4, ↓ki5, ↓ki6, ↓ki7, ↓ki8, ↓ki9, ↓ki10, ↓ki11, ↓ki12, ↓ki13, ↓ki14, ↓ki15, ↓ki16, ↓ki17, ↓ki18, ↓ki19, ↓ki20, ↓ki21, ↓ki22, ↓ki23, ↓ki24, ↓ki25, ↓ki26, ↓ki27, ↓ki28, ↓ki29, ↓ki30, ↓ki31, ↓ki32, ↓ki33, ↓ki34, ↓ki35, ↓q_gs, ↓k_len1, ↓k_in1, ↓frzK_d, ↓frzK_dT, ↓frzK_dL, ↓rootK_d, ↓rootK_dL, ↓subK_d, ↓subK_dL, ↓k_ixTr0, ↓k_ixTr1, ↓k_lenTr, ↓k_tupTr, ↓walk_dL, ↓k_lendL, ↓q_mut1, ↓evI_rg3, ↓frzK_nd, ↓reduceIte, fnEnd_ret, fnEnd_nxt, fnEnd_exc, isOwn_t, List.map_cons, List.map_nil, List.cons_append, List.nil_append, List.append_nil, List.replicate_succ, List.replicate_zero, List.getD_cons_zero, List.getD_cons_succ, Bool.not_true, Bool.not_false, decide_true, decide_false, decide_eq_true_eq, decide_eq_false_iff_not, Bool.false_eq_true, Nat.zero_add, Nat.reduceAdd, Int.reduceEq, Int.reduceLT, Int.reduceLE, Nat.reduceEqDiff, reduceCtorEq, eq_self, not_true_eq_false, not_false_eq_true]
          refine hK (sizeL (kids ts)) _ (by omega) ⟨kids ts, s + ts.length, d + 1, false, some (.lst false (dL (kids ts))), o5, rfl, kids_ok hk, by omega, ?_, rfl⟩
          · have := kids_depth ts hne
            omega
theorem l_law (ns : List Int) (hl : ns.length ≤ 63) : Gives (callF P 40 "law" [] [.scr ns]) fun r o => r = .bl true ∧ o = [] := by
  refine gives_fn P_law rfl rfl ?_
  simp only [fn_law, List.map_cons, List.map_nil, List.cons_append, List.nil_append, List.append_nil, List.replicate_succ, List.replicate_zero, Nat.reduceSub, Nat.sub_self]
  simp (disch := first | omega | assumption | decide) only [↓q_pk, ↓q_fz, ↓q_mv, ↓q_ci, ↓q_cb, ↓q_cn, ↓q_cs, ↓q_gi, ↓evF_op1, ↓q_op2, ↓q_cmp, ↓q_bc2, ↓evF_bc1, ↓evF_rev, ↓q_isi, ↓q_idx, ↓evF_chn, ↓evF_boo, ↓q_slc, ↓evF_tup, ↓evF_lst, ↓q_frz, ↓p_call, ↓q_xn, ↓q_xv, ↓q_xi, ↓p_comp1, ↓r_mut0, ↓if_own, ↓evB_nil, ↓evB_cons, ↓evS_nil, ↓evS_cons, ↓evOp_none, ↓evOp_some, ↓evP_nil, ↓evP_ix, ↓evI_seq, ↓evI_rg1, ↓evI_rg2, ↓evI_enu, ↓evI_zip, ↓runS_nil, ↓runS_cons, ↓q_asg, ↓run1_unp, ↓q_sti0, ↓q_aug, ↓run1_aui, ↓run1_exp, ↓run1_ife, ↓p_for, ↓p_whl, ↓run1_ret, ↓run1_retn, ↓run1_pas, ↓run1_rai, ↓evO_def, ↓evT_def, ↓getv0, ↓getvS, ↓setK0, ↓setKS, ↓getO0, ↓getOS, ↓rootK_i, ↓rootK_b, ↓rootK_s, ↓rootK_n, ↓rootK_c, ↓rootK_o, ↓rootK_I, ↓frzK_i, ↓frzK_b, ↓frzK_s, ↓frzK_n, ↓frzK_c, ↓frzK_I, ↓hidK_n, ↓hidK_s, ↓unhK_n, ↓unhK_s, ↓subK_n, ↓subK_i, ↓subK_b, ↓subK_s, ↓subK_x, ↓putK_c, ↓putK_n, ↓optv_some, ↓optl_some, ↓alone_none, ↓isB_bl, ↓isI_int, ↓putE_some, ↓k_add, ↓k_sub, ↓k_mod, ↓k_div, ↓k_mulL, ↓k_mulR, ↓k_p18, ↓k_p15, ↓k_p14, ↓k_neg, ↓k_not, ↓k_lt, ↓k_le, ↓k_gt, ↓k_ge, ↓k_eq, ↓k_ne, ↓k_lenC, ↓k_lenI, ↓k_lenT, ↓k_int, ↓k_max, ↓k_min, ↓k_isII, ↓k_isBI, ↓k_ix0, ↓k_ix1, ↓k_ix2, ↓k_set0, ↓k_set2, ↓k_auga, ↓k_augs, ↓k_eqL0, ↓k_neL0, ↓m_popI, ↓m_appI, ↓mutK_some, ↓k_rev, ↓k_sum, ↓k_ixZ, ↓k_listI, ↓walkI, ↓k_eqB, ↓k_neB, ↓k_intB, ↓k_isBB, ↓k_isIB, ↓k_isS, ↓k_eqLI, ↓k_neLI, ↓rng_one, ↓if_l0, ↓if_l1, ↓if_l2, ↓if_l3, ↓if_l4, ↓if_l5, ↓if_l6, ↓if_l7, ↓if_l8, ↓k_ixT0, ↓k_ixT1, ↓k_ixT2, ↓k_ixT3, ↓walkFI, ↓zipI, ↓p_comp2, ↓k_repI, ↓subK_I, ↓k_eqQt, ↓k_eqQf, ↓k_neQt, ↓k_neQf, ↓ki0, ↓ki1, ↓ki2, ↓ki3, ↓ki4, ↓ki5, ↓ki6, ↓ki7, ↓ki8, ↓ki9, ↓ki10, ↓ki11, ↓ki12, ↓ki13, ↓ki14, ↓ki15, ↓ki16, ↓ki17, ↓ki18, ↓ki19, ↓ki20, ↓ki21, ↓ki22, ↓ki23, ↓ki24, ↓ki25, ↓ki26, ↓ki27, ↓ki28, ↓ki29, ↓ki30, ↓ki31, ↓ki32, ↓ki33, ↓ki34, ↓ki35, ↓q_gs, ↓k_len1, ↓k_in1, ↓frzK_d, ↓frzK_dT, ↓frzK_dL, ↓rootK_d, ↓rootK_dL, ↓subK_d, ↓subK_dL, ↓k_ixTr0, ↓k_ixTr1, ↓k_lenTr, ↓k_tupTr, ↓walk_dL, ↓k_lendL, ↓q_mut1, ↓evI_rg3, ↓frzK_nd, ↓reduceIte, fnEnd_ret, fnEnd_nxt, fnEnd_exc, isOwn_t, List.map_cons, List.map_nil, List.cons_append, List.nil_append, List.append_nil, List.replicate_succ, List.replicate_zero, List.getD_cons_zero, List.getD_cons_succ, Bool.not_true, Bool.not_false, decide_true, decide_false, decide_eq_true_eq, decide_eq_false_iff_not, Bool.false_eq_true, Nat.zero_add, Nat.reduceAdd, Int.reduceEq, Int.reduceLT, Int.reduceLE, Nat.reduceEqDiff, reduceCtorEq, eq_self, not_true_eq_false, not_false_eq_true]
  refine wp_seqT (wp_forN (fun i e => ∃ o1 o2 o3 o4 o5 o6 o7 o8, e = [some (.scr ns), o1, o2, o3, o4, o5, o6, o7, o8]) ⟨none, none, none, none, none, none, none, none, rfl⟩ ?_ ?_)
  · rintro i x e hx ⟨o1, o2, o3, o4, o5, o6, o7, o8, rfl⟩
    have hi := (List.getElem?_eq_some_iff.mp hx).1
    rw [List.length_map, List.length_range] at hi
    rw [List.getElem?_map, List.getElem?_range hi] at hx
    obtain rfl := Option.some.inj hx
    refine ⟨_, rfl, fun K hK => ?_⟩
    simp only [List.set_cons_succ, List.set_cons_zero]
    have h1 : (0 : Int) + i = i := by omega
    simp only [h1]
    simp (disch := first | omega | assumption | decide) only [↓q_pk, ↓q_fz, ↓q_mv, ↓q_ci, ↓q_cb, ↓q_cn, ↓q_cs, ↓q_gi, ↓evF_op1, ↓q_op2, ↓q_cmp, ↓q_bc2, ↓evF_bc1, ↓evF_rev, ↓q_isi, ↓q_idx, ↓evF_chn, ↓evF_boo, ↓q_slc, ↓evF_tup, ↓evF_lst, ↓q_frz, ↓p_call, ↓q_xn, ↓q_xv, ↓q_xi, ↓p_comp1, ↓r_mut0, ↓if_own, ↓evB_nil, ↓evB_cons, ↓evS_nil, ↓evS_cons, ↓evOp_none, ↓evOp_some, ↓evP_nil, ↓evP_ix, ↓evI_seq, ↓evI_rg1, ↓evI_rg2, ↓evI_enu, ↓evI_zip, ↓runS_nil, ↓runS_cons, ↓q_asg, ↓run1_unp, ↓q_sti0, ↓q_aug, ↓run1_aui, ↓run1_exp, ↓run1_ife, ↓p_for, ↓p_whl, ↓run1_ret, ↓run1_retn, ↓run1_pas, ↓run1_rai, ↓evO_def, ↓evT_def, ↓getv0, ↓getvS, ↓setK0, ↓setKS, ↓getO0, ↓getOS, ↓rootK_i, ↓rootK_b, ↓rootK_s, ↓rootK_n, ↓rootK_c, ↓rootK_o, ↓rootK_I, ↓frzK_i, ↓frzK_b, ↓frzK_s, ↓frzK_n, ↓frzK_c, ↓frzK_I, ↓hidK_n, ↓hidK_s, ↓unhK_n, ↓unhK_s, ↓subK_n, ↓subK_i, ↓subK_b, ↓subK_s, ↓subK_x, ↓putK_c, ↓putK_n, ↓optv_some, ↓optl_some, ↓alone_none, ↓isB_bl, ↓isI_int, ↓putE_some, ↓k_add, ↓k_sub, ↓k_mod, ↓k_div, ↓k_mulL, ↓k_mulR, ↓k_p18, ↓k_p15, ↓k_p14, ↓k_neg, ↓k_not, ↓k_lt, ↓k_le, ↓k_gt, ↓k_ge, ↓k_eq, ↓k_ne, ↓k_lenC, ↓k_lenI, ↓k_lenT, ↓k_int, ↓k_max, ↓k_min, ↓k_isII, ↓k_isBI, ↓k_ix0, ↓k_ix1, ↓k_ix2, ↓k_set0, ↓k_set2, ↓k_auga, ↓k_augs, ↓k_eqL0, ↓k_neL0, ↓m_popI, ↓m_appI, ↓mutK_some, ↓k_rev, ↓k_sum, ↓k_ixZ, ↓k_listI, ↓walkI, ↓k_eqB, ↓k_neB, ↓k_intB, ↓k_isBB, ↓k_isIB, ↓k_isS, ↓k_eqLI, ↓k_neLI, ↓rng_one, ↓if_l0, ↓if_l1, ↓if_l2, ↓if_l3, ↓if_l4, ↓if_l5, ↓if_l6, ↓if_l7, ↓if_l8, ↓k_ixT0, ↓k_ixT1, ↓k_ixT2, ↓k_ixT3, ↓walkFI, ↓zipI, ↓p_comp2, ↓k_repI, ↓subK_I, ↓k_eqQt, ↓k_eqQf, ↓k_neQt, ↓k_neQf, ↓ki0, ↓ki1, ↓ki2, ↓ki3, ↓ki4, ↓ki5, ↓ki6, ↓ki7, ↓ki8, ↓ki9, ↓ki10, ↓ki11, ↓ki12, ↓ki13, ↓ki14, ↓ki15, ↓ki16, ↓ki17, ↓ki18, ↓ki19, ↓ki20, ↓ki21, ↓ki22, ↓ki23, ↓ki24, ↓ki25, ↓ki26, ↓ki27, ↓ki28, ↓ki29, ↓ki30, ↓ki31, ↓ki32, ↓ki33, ↓ki34, ↓ki35, ↓q_gs, ↓k_len1, ↓k_in1, ↓frzK_d, ↓frzK_dT, ↓frzK_dL, ↓rootK_d, ↓rootK_dL, ↓subK_d, ↓subK_dL, ↓k_ixTr0, ↓k_ixTr1, ↓k_lenTr, ↓k_tupTr, ↓walk_dL, ↓k_lendL, ↓q_mut1, ↓evI_rg3, ↓frzK_nd, ↓reduceIte, fnEnd_ret, fnEnd_nxt, fnEnd_exc, isOwn_t, List.map_cons, List.map_nil, List.cons_append, List.nil_append, List.append_nil, List.replicate_succ, List.replicate_zero, List.getD_cons_zero, List.getD_cons_succ, Bool.not_true, Bool.not_false, decide_true, decide_false, decide_eq_true_eq, decide_eq_false_iff_not, Bool.false_eq_true, Nat.zero_add, Nat.reduceAdd, Int.reduceEq, Int.reduceLT, Int.reduceLE, Nat.reduceEqDiff, reduceCtorEq, eq_self, not_true_eq_false, not_false_eq_true]
    refine wp_callT (c_pool 38 ns i (by omega)) ?_
    rintro r o ⟨p, rfl, hp, rfl⟩
    simp (disch := first | omega | assumption | decide) only [↓q_pk, ↓q_fz, ↓q_mv, ↓q_ci, ↓q_cb, ↓q_cn, ↓q_cs, ↓q_gi, ↓evF_op1, ↓q_op2, ↓q_cmp, ↓q_bc2, ↓evF_bc1, ↓evF_rev, ↓q_isi, ↓q_idx, ↓evF_chn, ↓evF_boo, ↓q_slc, ↓evF_tup, ↓evF_lst, ↓q_frz, ↓p_call, ↓q_xn, ↓q_xv, ↓q_xi, ↓p_comp1, ↓r_mut0, ↓if_own, ↓evB_nil, ↓evB_cons, ↓evS_nil, ↓evS_cons, ↓evOp_none, ↓evOp_some, ↓evP_nil, ↓evP_ix, ↓evI_seq, ↓evI_rg1, ↓evI_rg2, ↓evI_enu, ↓evI_zip, ↓runS_nil, ↓runS_cons, ↓q_asg, ↓run1_unp, ↓q_sti0, ↓q_aug, ↓run1_aui, ↓run1_exp, ↓run1_ife, ↓p_for, ↓p_whl, ↓run1_ret, ↓run1_retn, ↓run1_pas, ↓run1_rai, ↓evO_def, ↓evT_def, ↓getv0, ↓getvS, ↓setK0, ↓setKS, ↓getO0, ↓getOS, ↓rootK_i, ↓rootK_b, ↓rootK_s, ↓rootK_n, ↓rootK_c, ↓rootK_o, ↓rootK_I, ↓frzK_i, ↓frzK_b, ↓frzK_s, ↓frzK_n, ↓frzK_c, ↓frzK_I, ↓hidK_n, ↓hidK_s, ↓unhK_n, ↓unhK_s, ↓subK_n, ↓subK_i, ↓subK_b, ↓subK_s, ↓subK_x, ↓putK_c, ↓putK_n, ↓optv_some, ↓optl_some, ↓alone_none, ↓isB_bl, ↓isI_int, ↓putE_some, ↓k_add, ↓k_sub, ↓k_mod, ↓k_div, ↓k_mulL, ↓k_mulR, ↓k_p18, ↓k_p15, ↓k_p14, ↓k_neg, ↓k_not, ↓k_lt, ↓k_le, ↓k_gt, ↓k_ge, ↓k_eq, ↓k_ne, ↓k_lenC, ↓k_lenI, ↓k_lenT, ↓k_int, ↓k_max, ↓k_min, ↓k_isII, ↓k_isBI, ↓k_ix0, ↓k_ix1, ↓k_ix2, ↓k_set0, ↓k_set2, ↓k_auga, ↓k_augs, ↓k_eqL0, ↓k_neL0, ↓m_popI, ↓m_appI, ↓mutK_some, ↓k_rev, ↓k_sum, ↓k_ixZ, ↓k_listI, ↓walkI, ↓k_eqB, ↓k_neB, ↓k_intB, ↓k_isBB, ↓k_isIB, ↓k_isS, ↓k_eqLI, ↓k_neLI, ↓rng_one, ↓if_l0, ↓if_l1, ↓if_l2, ↓if_l3, ↓if_l4, ↓if_l5, ↓if_l6, ↓if_l7, ↓if_l8, ↓k_ixT0, ↓k_ixT1, ↓k_ixT2, ↓k_ixT3, ↓walkFI, ↓zipI, ↓p_comp2, ↓k_repI, ↓subK_I, ↓k_eqQt, ↓k_eqQf, ↓k_neQt, ↓k_neQf, ↓ki0, ↓ki1, ↓ki2, ↓ki3, ↓ki4, ↓ki5, ↓ki6, ↓ki7, ↓ki8, ↓ki9, ↓ki10, ↓ki11, ↓ki12, ↓ki13, ↓ki14, ↓ki15, ↓ki16, ↓ki17, ↓ki18, ↓ki19, ↓ki20, ↓ki21, ↓ki22, ↓ki23, ↓ki24, ↓ki25, ↓ki26, ↓ki27, ↓ki28, ↓ki29, ↓ki30, ↓ki31, ↓ki32, ↓ki33, ↓ki34, ↓ki35, ↓q_gs, ↓k_len1, ↓k_in1, ↓frzK_d, ↓frzK_dT, ↓frzK_dL, ↓rootK_d, ↓rootK_dL, ↓subK_d, ↓subK_dL, ↓k_ixTr0, ↓k_ixTr1, ↓k_lenTr, ↓k_tupTr, ↓walk_dL, ↓k_lendL, ↓q_mut1, ↓evI_rg3, ↓frzK_nd, ↓reduceIte, fnEnd_ret, fnEnd_nxt, fnEnd_exc, isOwn_t, List.map_cons, List.map_nil, List.cons_append, List.nil_append, List.append_nil, List.replicate_succ, List.replicate_zero, List.getD_cons_zero, List.getD_cons_succ, Bool.not_true, Bool.not_false, decide_true, decide_false, decide_eq_true_eq, decide_eq_false_iff_not, Bool.false_eq_true, Nat.zero_add, Nat.reduceAdd, Int.reduceEq, Int.reduceLT, Int.reduceLE, Nat.reduceEqDiff, reduceCtorEq, eq_self, not_true_eq_false, not_false_eq_true]
    refine wp_callT (c_letters 37 p _ hp (by omega)) ?_
    rintro r o ⟨ls, p1, rfl, hl0, hl1, hls, hp1, rfl⟩
    simp (disch := first | omega | assumption | decide) only [↓q_pk, ↓q_fz, ↓q_mv, ↓q_ci, ↓q_cb, ↓q_cn, ↓q_cs, ↓q_gi, ↓evF_op1, ↓q_op2, ↓q_cmp, ↓q_bc2, ↓evF_bc1, ↓evF_rev, ↓q_isi, ↓q_idx, ↓evF_chn, ↓evF_boo, ↓q_slc, ↓evF_tup, ↓evF_lst, ↓q_frz, ↓p_call, ↓q_xn, ↓q_xv, ↓q_xi, ↓p_comp1, ↓r_mut0, ↓if_own, ↓evB_nil, ↓evB_cons, ↓evS_nil, ↓evS_cons, ↓evOp_none, ↓evOp_some, ↓evP_nil, ↓evP_ix, ↓evI_seq, ↓evI_rg1, ↓evI_rg2, ↓evI_enu, ↓evI_zip, ↓runS_nil, ↓runS_cons, ↓q_asg, ↓run1_unp, ↓q_sti0, ↓q_aug, ↓run1_aui, ↓run1_exp, ↓run1_ife, ↓p_for, ↓p_whl, ↓run1_ret, ↓run1_retn, ↓run1_pas, ↓run1_rai, ↓evO_def, ↓evT_def, ↓getv0, ↓getvS, ↓setK0, ↓setKS, ↓getO0, ↓getOS, ↓rootK_i, ↓rootK_b, ↓rootK_s, ↓rootK_n, ↓rootK_c, ↓rootK_o, ↓rootK_I, ↓frzK_i, ↓frzK_b, ↓frzK_s, ↓frzK_n, ↓frzK_c, ↓frzK_I, ↓hidK_n, ↓hidK_s, ↓unhK_n, ↓unhK_s, ↓subK_n, ↓subK_i, ↓subK_b, ↓subK_s, ↓subK_x, ↓putK_c, ↓putK_n, ↓optv_some, ↓optl_some, ↓alone_none, ↓isB_bl, ↓isI_int, ↓putE_some, ↓k_add, ↓k_sub, ↓k_mod, ↓k_div, ↓k_mulL, ↓k_mulR, ↓k_p18, ↓k_p15, ↓k_p14, ↓k_neg, ↓k_not, ↓k_lt, ↓k_le, ↓k_gt, ↓k_ge, ↓k_eq, ↓k_ne, ↓k_lenC, ↓k_lenI, ↓k_lenT, ↓k_int, ↓k_max, ↓k_min, ↓k_isII, ↓k_isBI, ↓k_ix0, ↓k_ix1, ↓k_ix2, ↓k_set0, ↓k_set2, ↓k_auga, ↓k_augs, ↓k_eqL0, ↓k_neL0, ↓m_popI, ↓m_appI, ↓mutK_some, ↓k_rev, ↓k_sum, ↓k_ixZ, ↓k_listI, ↓walkI, ↓k_eqB, ↓k_neB, ↓k_intB, ↓k_isBB, ↓k_isIB, ↓k_isS, ↓k_eqLI, ↓k_neLI, ↓rng_one, ↓if_l0, ↓if_l1, ↓if_l2, ↓if_l3, ↓if_l4, ↓if_l5, ↓if_l6, ↓if_l7, ↓if_l8, ↓k_ixT0, ↓k_ixT1, ↓k_ixT2, ↓k_ixT3, ↓walkFI, ↓zipI, ↓p_comp2, ↓k_repI, ↓subK_I, ↓k_eqQt, ↓k_eqQf, ↓k_neQt, ↓k_neQf, ↓ki0, ↓ki1, ↓ki2, ↓ki3, ↓ki4, ↓ki5, ↓ki6, ↓ki7, ↓ki8, ↓ki9, ↓ki10, ↓ki11, ↓ki12, ↓ki13, ↓ki14, ↓ki15, ↓ki16, ↓ki17, ↓ki18, ↓ki19, ↓ki20, ↓ki21, ↓ki22, ↓ki23, ↓ki24, ↓ki25, ↓ki26, ↓ki27, ↓ki28, ↓ki29, ↓ki30, ↓ki31, ↓ki32, ↓ki33, ↓ki34, ↓ki35, ↓q_gs, ↓k_len1, ↓k_in1, ↓frzK_d, ↓frzK_dT, ↓frzK_dL, ↓rootK_d, ↓rootK_dL, ↓subK_d, ↓subK_dL, ↓k_ixTr0, ↓k_ixTr1, ↓k_lenTr, ↓k_tupTr, ↓walk_dL, ↓k_lendL, ↓q_mut1, ↓evI_rg3, ↓frzK_nd, ↓reduceIte, fnEnd_ret, fnEnd_nxt, fnEnd_exc, isOwn_t, List.map_cons, List.map_nil, List.cons_append, List.nil_append, List.append_nil, List.replicate_succ, List.replicate_zero, List.getD_cons_zero, List.getD_cons_succ, Bool.not_true, Bool.not_false, decide_true, decide_false, decide_eq_true_eq, decide_eq_false_iff_not, Bool.false_eq_true, Nat.zero_add, Nat.reduceAdd, Int.reduceEq, Int.reduceLT, Int.reduceLE, Nat.reduceEqDiff, reduceCtorEq, eq_self, not_true_eq_false, not_false_eq_true]
    refine wp_callT (c_ltree 6 p1 _ hp1 (by omega) 60 (by omega) (by omega) ls hl0 (by omega) hls) ?_
    rintro r o ⟨t, p2, hf, hin, hsz, hdp, hp2, rfl⟩
    have hok := Tr.inn_ok hls t hin
    simp (disch := first | omega | assumption | decide) only [↓q_pk, ↓q_fz, ↓q_mv, ↓q_ci, ↓q_cb, ↓q_cn, ↓q_cs, ↓q_gi, ↓evF_op1, ↓q_op2, ↓q_cmp, ↓q_bc2, ↓evF_bc1, ↓evF_rev, ↓q_isi, ↓q_idx, ↓evF_chn, ↓evF_boo, ↓q_slc, ↓evF_tup, ↓evF_lst, ↓q_frz, ↓p_call, ↓q_xn, ↓q_xv, ↓q_xi, ↓p_comp1, ↓r_mut0, ↓if_own, ↓evB_nil, ↓evB_cons, ↓evS_nil, ↓evS_cons, ↓evOp_none, ↓evOp_some, ↓evP_nil, ↓evP_ix, ↓evI_seq, ↓evI_rg1, ↓evI_rg2, ↓evI_enu, ↓evI_zip, ↓runS_nil, ↓runS_cons, ↓q_asg, ↓run1_unp, ↓q_sti0, ↓q_aug, ↓run1_aui, ↓run1_exp, ↓run1_ife, ↓p_for, ↓p_whl, ↓run1_ret, ↓run1_retn, ↓run1_pas, ↓run1_rai, ↓evO_def, ↓evT_def, ↓getv0, ↓getvS, ↓setK0, ↓setKS, ↓getO0, ↓getOS, ↓rootK_i, ↓rootK_b, ↓rootK_s, ↓rootK_n, ↓rootK_c, ↓rootK_o, ↓rootK_I, ↓frzK_i, ↓frzK_b, ↓frzK_s, ↓frzK_n, ↓frzK_c, ↓frzK_I, ↓hidK_n, ↓hidK_s, ↓unhK_n, ↓unhK_s, ↓subK_n, ↓subK_i, ↓subK_b, ↓subK_s, ↓subK_x, ↓putK_c, ↓putK_n, ↓optv_some, ↓optl_some, ↓alone_none, ↓isB_bl, ↓isI_int, ↓putE_some, ↓k_add, ↓k_sub, ↓k_mod, ↓k_div, ↓k_mulL, ↓k_mulR, ↓k_p18, ↓k_p15, ↓k_p14, ↓k_neg, ↓k_not, ↓k_lt, ↓k_le, ↓k_gt, ↓k_ge, ↓k_eq, ↓k_ne, ↓k_lenC, ↓k_lenI, ↓k_lenT, ↓k_int, ↓k_max, ↓k_min, ↓k_isII, ↓k_isBI, ↓k_ix0, ↓k_ix1, ↓k_ix2, ↓k_set0, ↓k_set2, ↓k_auga, ↓k_augs, ↓k_eqL0, ↓k_neL0, ↓m_popI, ↓m_appI, ↓mutK_some, ↓k_rev, ↓k_sum, ↓k_ixZ, ↓k_listI, ↓walkI, ↓k_eqB, ↓k_neB, ↓k_intB, ↓k_isBB, ↓k_isIB, ↓k_isS, ↓k_eqLI, ↓k_neLI, ↓rng_one, ↓if_l0, ↓if_l1, ↓if_l2, ↓if_l3, ↓if_l4, ↓if_l5, ↓if_l6, ↓if_l7, ↓if_l8, ↓k_ixT0, ↓k_ixT1, ↓k_ixT2, ↓k_ixT3, ↓walkFI, ↓zipI, ↓p_comp2, ↓k_repI, ↓subK_I, ↓k_eqQt, ↓k_eqQf, ↓k_neQt, ↓k_neQf, ↓ki0, ↓ki1, ↓ki2, ↓ki3, ↓ki4, ↓ki5, ↓ki6, ↓ki7, ↓ki8, ↓ki9, ↓ki10, ↓ki11, ↓ki12, ↓ki13, ↓ki14, ↓ki15, ↓ki16, ↓ki17, ↓ki18, ↓ki19, ↓ki20, ↓ki21, ↓ki22, ↓ki23, ↓ki24, ↓ki25, ↓ki26, ↓ki27, ↓ki28, ↓ki29, ↓ki30, ↓ki31, ↓ki32, ↓ki33, ↓ki34, ↓ki35, ↓q_gs, ↓k_len1, ↓k_in1, ↓frzK_d, ↓frzK_dT, ↓frzK_dL, ↓rootK_d, ↓rootK_dL, ↓subK_d, ↓subK_dL, ↓k_ixTr0, ↓k_ixTr1, ↓k_lenTr, ↓k_tupTr, ↓walk_dL, ↓k_lendL, ↓q_mut1, ↓evI_rg3, ↓frzK_nd, ↓reduceIte, fnEnd_ret, fnEnd_nxt, fnEnd_exc, isOwn_t, List.map_cons, List.map_nil, List.cons_append, List.nil_append, List.append_nil, List.replicate_succ, List.replicate_zero, List.getD_cons_zero, List.getD_cons_succ, Bool.not_true, Bool.not_false, decide_true, decide_false, decide_eq_true_eq, decide_eq_false_iff_not, Bool.false_eq_true, Nat.zero_add, Nat.reduceAdd, Int.reduceEq, Int.reduceLT, Int.reduceLE, Nat.reduceEqDiff, reduceCtorEq, eq_self, not_true_eq_false, not_false_eq_true, ↓frzK_of hf]
    refine wp_callT (c_lcount 38 t hok (by omega)) ?_
    rintro r o ⟨rfl, rfl⟩
    simp (disch := first | omega | assumption | decide) only [↓q_pk, ↓q_fz, ↓q_mv, ↓q_ci, ↓q_cb, ↓q_cn, ↓q_cs, ↓q_gi, ↓evF_op1, ↓q_op2, ↓q_cmp, ↓q_bc2, ↓evF_bc1, ↓evF_rev, ↓q_isi, ↓q_idx, ↓evF_chn, ↓evF_boo, ↓q_slc, ↓evF_tup, ↓evF_lst, ↓q_frz, ↓p_call, ↓q_xn, ↓q_xv, ↓q_xi, ↓p_comp1, ↓r_mut0, ↓if_own, ↓evB_nil, ↓evB_cons, ↓evS_nil, ↓evS_cons, ↓evOp_none, ↓evOp_some, ↓evP_nil, ↓evP_ix, ↓evI_seq, ↓evI_rg1, ↓evI_rg2, ↓evI_enu, ↓evI_zip, ↓runS_nil, ↓runS_cons, ↓q_asg, ↓run1_unp, ↓q_sti0, ↓q_aug, ↓run1_aui, ↓run1_exp, ↓run1_ife, ↓p_for, ↓p_whl, ↓run1_ret, ↓run1_retn, ↓run1_pas, ↓run1_rai, ↓evO_def, ↓evT_def, ↓getv0, ↓getvS, ↓setK0, ↓setKS, ↓getO0, ↓getOS, ↓rootK_i, ↓rootK_b, ↓rootK_s, ↓rootK_n, ↓rootK_c, ↓rootK_o, ↓rootK_I, ↓frzK_i, ↓frzK_b, ↓frzK_s, ↓frzK_n, ↓frzK_c, ↓frzK_I, ↓hidK_n, ↓hidK_s, ↓unhK_n, ↓unhK_s, ↓subK_n, ↓subK_i, ↓subK_b, ↓subK_s, ↓subK_x, ↓putK_c, ↓putK_n, ↓optv_some, ↓optl_some, ↓alone_none, ↓isB_bl, ↓isI_int, ↓putE_some, ↓k_add, ↓k_sub, ↓k_mod, ↓k_div, ↓k_mulL, ↓k_mulR, ↓k_p18, ↓k_p15, ↓k_p14, ↓k_neg, ↓k_not, ↓k_lt, ↓k_le, ↓k_gt, ↓k_ge, ↓k_eq, ↓k_ne, ↓k_lenC, ↓k_lenI, ↓k_lenT, ↓k_int, ↓k_max, ↓k_min, ↓k_isII, ↓k_isBI, ↓k_ix0, ↓k_ix1, ↓k_ix2, ↓k_set0, ↓k_set2, ↓k_auga, ↓k_augs, ↓k_eqL0, ↓k_neL0, ↓m_popI, ↓m_appI, ↓mutK_some, ↓k_rev, ↓k_sum, ↓k_ixZ, ↓k_listI, ↓walkI, ↓k_eqB, ↓k_neB, ↓k_intB, ↓k_isBB, ↓k_isIB, ↓k_isS, ↓k_eqLI, ↓k_neLI, ↓rng_one, ↓if_l0, ↓if_l1, ↓if_l2, ↓if_l3, ↓if_l4, ↓if_l5, ↓if_l6, ↓if_l7, ↓if_l8, ↓k_ixT0, ↓k_ixT1, ↓k_ixT2, ↓k_ixT3, ↓walkFI, ↓zipI, ↓p_comp2, ↓k_repI, ↓subK_I, ↓k_eqQt, ↓k_eqQf, ↓k_neQt, ↓k_neQf, ↓ki0, ↓ki1, ↓ki2, ↓ki3, ↓ki4, ↓ki5, ↓ki6, ↓ki7, ↓ki8, ↓ki9, ↓ki10, ↓ki11, ↓ki12, ↓ki13, ↓ki14, ↓ki15, ↓ki16, ↓ki17, ↓ki18, ↓ki19, ↓ki20, ↓ki21, ↓ki22, ↓ki23, ↓ki24, ↓ki25, ↓ki26, ↓ki27, ↓ki28, ↓ki29, ↓ki30, ↓ki31, ↓ki32, ↓ki33, ↓ki34, ↓ki35, ↓q_gs, ↓k_len1, ↓k_in1, ↓frzK_d, ↓frzK_dT, ↓frzK_dL, ↓rootK_d, ↓rootK_dL, ↓subK_d, ↓subK_dL, ↓k_ixTr0, ↓k_ixTr1, ↓k_lenTr, ↓k_tupTr, ↓walk_dL, ↓k_lendL, ↓q_mut1, ↓evI_rg3, ↓frzK_nd, ↓reduceIte, fnEnd_ret, fnEnd_nxt, fnEnd_exc, isOwn_t, List.map_cons, List.map_nil, List.cons_append, List.nil_append, List.append_nil, List.replicate_succ, List.replicate_zero, List.getD_cons_zero, List.getD_cons_succ, Bool.not_true, Bool.not_false, decide_true, decide_false, decide_eq_true_eq, decide_eq_false_iff_not, Bool.false_eq_true, Nat.zero_add, Nat.reduceAdd, Int.reduceEq, Int.reduceLT, Int.reduceLE, Nat.reduceEqDiff, reduceCtorEq, eq_self, not_true_eq_false, not_false_eq_true]
    refine wp_callT (c_copy t 31 8 (by omega) hdp) ?_
    rintro r o ⟨rfl, rfl⟩
    simp (disch := first | omega | assumption | decide) only [↓q_pk, ↓q_fz, ↓q_mv, ↓q_ci, ↓q_cb, ↓q_cn, ↓q_cs, ↓q_gi, ↓evF_op1, ↓q_op2, ↓q_cmp, ↓q_bc2, ↓evF_bc1, ↓evF_rev, ↓q_isi, ↓q_idx, ↓evF_chn, ↓evF_boo, ↓q_slc, ↓evF_tup, ↓evF_lst, ↓q_frz, ↓p_call, ↓q_xn, ↓q_xv, ↓q_xi, ↓p_comp1, ↓r_mut0, ↓if_own, ↓evB_nil, ↓evB_cons, ↓evS_nil, ↓evS_cons, ↓evOp_none, ↓evOp_some, ↓evP_nil, ↓evP_ix, ↓evI_seq, ↓evI_rg1, ↓evI_rg2, ↓evI_enu, ↓evI_zip, ↓runS_nil, ↓runS_cons, ↓q_asg, ↓run1_unp, ↓q_sti0, ↓q_aug, ↓run1_aui, ↓run1_exp, ↓run1_ife, ↓p_for, ↓p_whl, ↓run1_ret, ↓run1_retn, ↓run1_pas, ↓run1_rai, ↓evO_def, ↓evT_def, ↓getv0, ↓getvS, ↓setK0, ↓setKS, ↓getO0, ↓getOS, ↓rootK_i, ↓rootK_b, ↓rootK_s, ↓rootK_n, ↓rootK_c, ↓rootK_o, ↓rootK_I, ↓frzK_i, ↓frzK_b, ↓frzK_s, ↓frzK_n, ↓frzK_c, ↓frzK_I, ↓hidK_n, ↓hidK_s, ↓unhK_n, ↓unhK_s, ↓subK_n, ↓subK_i, ↓subK_b, ↓subK_s, ↓subK_x, ↓putK_c, ↓putK_n, ↓optv_some, ↓optl_some, ↓alone_none, ↓isB_bl, ↓isI_int, ↓putE_some, ↓k_add, ↓k_sub, ↓k_mod, ↓k_div, ↓k_mulL, ↓k_mulR, ↓k_p18, ↓k_p15, ↓k_p14, ↓k_neg, ↓k_not, ↓k_lt, ↓k_le, ↓k_gt, ↓k_ge, ↓k_eq, ↓k_ne, ↓k_lenC, ↓k_lenI, ↓k_lenT, ↓k_int, ↓k_max, ↓k_min, ↓k_isII, ↓k_isBI, ↓k_ix0, ↓k_ix1, ↓k_ix2, ↓k_set0, ↓k_set2, ↓k_auga, ↓k_augs, ↓k_eqL0, ↓k_neL0, ↓m_popI, ↓m_appI, ↓mutK_some, ↓k_rev, ↓k_sum, ↓k_ixZ, ↓k_listI, ↓walkI, ↓k_eqB, ↓k_neB, ↓k_intB, ↓k_isBB, ↓k_isIB, ↓k_isS, ↓k_eqLI, ↓k_neLI, ↓rng_one, ↓if_l0, ↓if_l1, ↓if_l2, ↓if_l3, ↓if_l4, ↓if_l5, ↓if_l6, ↓if_l7, ↓if_l8, ↓k_ixT0, ↓k_ixT1, ↓k_ixT2, ↓k_ixT3, ↓walkFI, ↓zipI, ↓p_comp2, ↓k_repI, ↓subK_I, ↓k_eqQt, ↓k_eqQf, ↓k_neQt, ↓k_neQf, ↓ki0, ↓ki1, ↓ki2, ↓ki3, ↓ki4, ↓ki5, ↓ki6, ↓ki7, ↓ki8, ↓ki9, ↓ki10, ↓ki11, ↓ki12, ↓ki13, ↓ki14, ↓ki15, ↓ki16, ↓ki17, ↓ki18, ↓ki19, ↓ki20, ↓ki21, ↓ki22, ↓ki23, ↓ki24, ↓ki25, ↓ki26, ↓ki27, ↓ki28, ↓ki29, ↓ki30, ↓ki31, ↓ki32, ↓ki33, ↓ki34, ↓ki35, ↓q_gs, ↓k_len1, ↓k_in1, ↓frzK_d, ↓frzK_dT, ↓frzK_dL, ↓rootK_d, ↓rootK_dL, ↓subK_d, ↓subK_dL, ↓k_ixTr0, ↓k_ixTr1, ↓k_lenTr, ↓k_tupTr, ↓walk_dL, ↓k_lendL, ↓q_mut1, ↓evI_rg3, ↓frzK_nd, ↓reduceIte, fnEnd_ret, fnEnd_nxt, fnEnd_exc, isOwn_t, List.map_cons, List.map_nil, List.cons_append, List.nil_append, List.append_nil, List.replicate_succ, List.replicate_zero, List.getD_cons_zero, List.getD_cons_succ, Bool.not_true, Bool.not_false, decide_true, decide_false, decide_eq_true_eq, decide_eq_false_iff_not, Bool.false_eq_true, Nat.zero_add, Nat.reduceAdd, Int.reduceEq, Int.reduceLT, Int.reduceLE, Nat.reduceEqDiff, reduceCtorEq, eq_self, not_true_eq_false, not_false_eq_true]
    refine wp_seqT (wp_forN (fun i' e => ∃ o6 o7 z, (z = t.dT ∨ z = t.d) ∧ e = [some (.scr ns), some (.int i), some p2.d, some t.d, some (.lst true [.int t.size, .int t.depth]), some z, o6, o7, o8]) ⟨o6, o7, t.dT, .inl rfl, rfl⟩ ?_ ?_)
    · rintro i' x e hx' ⟨o6, o7, z, hz, rfl⟩
      have hzf : z.frz = t.d := by
        rcases hz with rfl | rfl
        · exact t.dT_frz
        · exact frz_fro _ t.d_fro
      refine ⟨_, rfl, fun K' hK' => ?_⟩
      simp only [List.set_cons_succ, List.set_cons_zero]
      simp (disch := first | omega | assumption | decide) only [↓q_pk, ↓q_fz, ↓q_mv, ↓q_ci, ↓q_cb, ↓q_cn, ↓q_cs, ↓q_gi, ↓evF_op1, ↓q_op2, ↓q_cmp, ↓q_bc2, ↓evF_bc1, ↓evF_rev, ↓q_isi, ↓q_idx, ↓evF_chn, ↓evF_boo, ↓q_slc, ↓evF_tup, ↓evF_lst, ↓q_frz, ↓p_call, ↓q_xn, ↓q_xv, ↓q_xi, ↓p_comp1, ↓r_mut0, ↓if_own, ↓evB_nil, ↓evB_cons, ↓evS_nil, ↓evS_cons, ↓evOp_none, ↓evOp_some, ↓evP_nil, ↓evP_ix, ↓evI_seq, ↓evI_rg1, ↓evI_rg2, ↓evI_enu, ↓evI_zip, ↓runS_nil, ↓runS_cons, ↓q_asg, ↓run1_unp, ↓q_sti0, ↓q_aug, ↓run1_aui, ↓run1_exp, ↓run1_ife, ↓p_for, ↓p_whl, ↓run1_ret, ↓run1_retn, ↓run1_pas, ↓run1_rai, ↓evO_def, ↓evT_def, ↓getv0, ↓getvS, ↓setK0, ↓setKS, ↓getO0, ↓getOS, ↓rootK_i, ↓rootK_b, ↓rootK_s, ↓rootK_n, ↓rootK_c, ↓rootK_o, ↓rootK_I, ↓frzK_i, ↓frzK_b, ↓frzK_s, ↓frzK_n, ↓frzK_c, ↓frzK_I, ↓hidK_n, ↓hidK_s, ↓unhK_n, ↓unhK_s, ↓subK_n, ↓subK_i, ↓subK_b, ↓subK_s, ↓subK_x, ↓putK_c, ↓putK_n, ↓optv_some, ↓optl_some, ↓alone_none, ↓isB_bl, ↓isI_int, ↓putE_some, ↓k_add, ↓k_sub, ↓k_mod, ↓k_div, ↓k_mulL, ↓k_mulR, ↓k_p18, ↓k_p15, ↓k_p14, ↓k_neg, ↓k_not, ↓k_lt, ↓k_le, ↓k_gt, ↓k_ge, ↓k_eq, ↓k_ne, ↓k_lenC, ↓k_lenI, ↓k_lenT, ↓k_int, ↓k_max, ↓k_min, ↓k_isII, ↓k_isBI, ↓k_ix0, ↓k_ix1, ↓k_ix2, ↓k_set0, ↓k_set2, ↓k_auga, ↓k_augs, ↓k_eqL0, ↓k_neL0, ↓m_popI, ↓m_appI, ↓mutK_some, ↓k_rev, ↓k_sum, ↓k_ixZ, ↓k_listI, ↓walkI, ↓k_eqB, ↓k_neB, ↓k_intB, ↓k_isBB, ↓k_isIB, ↓k_isS, ↓k_eqLI, ↓k_neLI, ↓rng_one, ↓if_l0, ↓if_l1, ↓if_l2, ↓if_l3, ↓if_l4, ↓if_l5, ↓if_l6, ↓if_l7, ↓if_l8, ↓k_ixT0, ↓k_ixT1, ↓k_ixT2, ↓k_ixT3, ↓walkFI, ↓zipI, ↓p_comp2, ↓k_repI, ↓subK_I, ↓k_eqQt, ↓k_eqQf, ↓k_neQt, ↓k_neQf, ↓ki0, ↓ki1, ↓ki2, ↓ki3, ↓ki4, ↓ki5, ↓ki6, ↓ki7, ↓ki8, ↓ki9, ↓ki10, ↓ki11, ↓ki12, ↓ki13, ↓ki14, ↓ki15, ↓ki16, ↓ki17, ↓ki18, ↓ki19, ↓ki20, ↓ki21, ↓ki22, ↓ki23, ↓ki24, ↓ki25, ↓ki26, ↓ki27, ↓ki28, ↓ki29, ↓ki30, ↓ki31, ↓ki32, ↓ki33, ↓ki34, ↓ki35, ↓q_gs, ↓k_len1, ↓k_in1, ↓frzK_d, ↓frzK_dT, ↓frzK_dL, ↓rootK_d, ↓rootK_dL, ↓subK_d, ↓subK_dL, ↓k_ixTr0, ↓k_ixTr1, ↓k_lenTr, ↓k_tupTr, ↓walk_dL, ↓k_lendL, ↓q_mut1, ↓evI_rg3, ↓frzK_nd, ↓reduceIte, fnEnd_ret, fnEnd_nxt, fnEnd_exc, isOwn_t, List.map_cons, List.map_nil, List.cons_append, List.nil_append, List.append_nil, List.replicate_succ, List.replicate_zero, List.getD_cons_zero, List.getD_cons_succ, Bool.not_true, Bool.not_false, decide_true, decide_false, decide_eq_true_eq, decide_eq_false_iff_not, Bool.false_eq_true, Nat.zero_add, Nat.reduceAdd, Int.reduceEq, Int.reduceLT, Int.reduceLE, Nat.reduceEqDiff, reduceCtorEq, eq_self, not_true_eq_false, not_false_eq_true, ↓frzK_of hzf]
      refine wp_callT (c_size 34 t hok (by omega)) ?_
      rintro r o ⟨rfl, rfl⟩
      simp (disch := first | omega | assumption | decide) only [↓q_pk, ↓q_fz, ↓q_mv, ↓q_ci, ↓q_cb, ↓q_cn, ↓q_cs, ↓q_gi, ↓evF_op1, ↓q_op2, ↓q_cmp, ↓q_bc2, ↓evF_bc1, ↓evF_rev, ↓q_isi, ↓q_idx, ↓evF_chn, ↓evF_boo, ↓q_slc, ↓evF_tup, ↓evF_lst, ↓q_frz, ↓p_call, ↓q_xn, ↓q_xv, ↓q_xi, ↓p_comp1, ↓r_mut0, ↓if_own, ↓evB_nil, ↓evB_cons, ↓evS_nil, ↓evS_cons, ↓evOp_none, ↓evOp_some, ↓evP_nil, ↓evP_ix, ↓evI_seq, ↓evI_rg1, ↓evI_rg2, ↓evI_enu, ↓evI_zip, ↓runS_nil, ↓runS_cons, ↓q_asg, ↓run1_unp, ↓q_sti0, ↓q_aug, ↓run1_aui, ↓run1_exp, ↓run1_ife, ↓p_for, ↓p_whl, ↓run1_ret, ↓run1_retn, ↓run1_pas, ↓run1_rai, ↓evO_def, ↓evT_def, ↓getv0, ↓getvS, ↓setK0, ↓setKS, ↓getO0, ↓getOS, ↓rootK_i, ↓rootK_b, ↓rootK_s, ↓rootK_n, ↓rootK_c, ↓rootK_o, ↓rootK_I, ↓frzK_i, ↓frzK_b, ↓frzK_s, ↓frzK_n, ↓frzK_c, ↓frzK_I, ↓hidK_n, ↓hidK_s, ↓unhK_n, ↓unhK_s, ↓subK_n, ↓subK_i, ↓subK_b, ↓subK_s, ↓subK_x, ↓putK_c, ↓putK_n, ↓optv_some, ↓optl_some, ↓alone_none, ↓isB_bl, ↓isI_int, ↓putE_some, ↓k_add, ↓k_sub, ↓k_mod, ↓k_div, ↓k_mulL, ↓k_mulR, ↓k_p18, ↓k_p15, ↓k_p14, ↓k_neg, ↓k_not, ↓k_lt, ↓k_le, ↓k_gt, ↓k_ge, ↓k_eq, ↓k_ne, ↓k_lenC, ↓k_lenI, ↓k_lenT, ↓k_int, ↓k_max, ↓k_min, ↓k_isII, ↓k_isBI, ↓k_ix0, ↓k_ix1, ↓k_ix2, ↓k_set0, ↓k_set2, ↓k_auga, ↓k_augs, ↓k_eqL0, ↓k_neL0, ↓m_popI, ↓m_appI, ↓mutK_some, ↓k_rev, ↓k_sum, ↓k_ixZ, ↓k_listI, ↓walkI, ↓k_eqB, ↓k_neB, ↓k_intB, ↓k_isBB, ↓k_isIB, ↓k_isS, ↓k_eqLI, ↓k_neLI, ↓rng_one, ↓if_l0, ↓if_l1, ↓if_l2, ↓if_l3, ↓if_l4, ↓if_l5, ↓if_l6, ↓if_l7, ↓if_l8, ↓k_ixT0, ↓k_ixT1, ↓k_ixT2, ↓k_ixT3, ↓walkFI, ↓zipI, ↓p_comp2, ↓k_repI, ↓subK_I, ↓k_eqQt, ↓k_eqQf, ↓k_neQt, ↓k_neQf, ↓ki0, ↓ki1, ↓ki2, ↓ki3, ↓ki4, ↓ki5, ↓ki6, ↓ki7, ↓ki8, ↓ki9, ↓ki10, ↓ki11, ↓ki12, ↓ki13, ↓ki14, ↓ki15, ↓ki16, ↓ki17, ↓ki18, ↓ki19, ↓ki20, ↓ki21, ↓ki22, ↓ki23, ↓ki24, ↓ki25, ↓ki26, ↓ki27, ↓ki28, ↓ki29, ↓ki30, ↓ki31, ↓ki32, ↓ki33, ↓ki34, ↓ki35, ↓q_gs, ↓k_len1, ↓k_in1, ↓frzK_d, ↓frzK_dT, ↓frzK_dL, ↓rootK_d, ↓rootK_dL, ↓subK_d, ↓subK_dL, ↓k_ixTr0, ↓k_ixTr1, ↓k_lenTr, ↓k_tupTr, ↓walk_dL, ↓k_lendL, ↓q_mut1, ↓evI_rg3, ↓frzK_nd, ↓reduceIte, fnEnd_ret, fnEnd_nxt, fnEnd_exc, isOwn_t, List.map_cons, List.map_nil, List.cons_append, List.nil_append, List.append_nil, List.replicate_succ, List.replicate_zero, List.getD_cons_zero, List.getD_cons_succ, Bool.not_true, Bool.not_false, decide_true, decide_false, decide_eq_true_eq, decide_eq_false_iff_not, Bool.false_eq_true, Nat.zero_add, Nat.reduceAdd, Int.reduceEq, Int.reduceLT, Int.reduceLE, Nat.reduceEqDiff, reduceCtorEq, eq_self, not_true_eq_false, not_false_eq_true]
      refine wp_callT (c_depth 34 t hok (by omega)) ?_
      rintro r o ⟨rfl, rfl⟩
      have hp2 : ([.int (t.size : Int), .int (t.depth : Int)] : List D) = [(t.size : Int), (t.depth : Int)].map .int := rfl
      have hne : ∀ kk : D → Fl, optv (cmpD .ne (.lst true [.int (t.size : Int), .int (t.depth : Int)]) (.lst true [.int (t.size : Int), .int (t.depth : Int)])) kk = kk (.bl false) := fun kk => by
        rw [hp2, k_neLI]
        simp
      have hfr : froL [.int (t.size : Int), .int (t.depth : Int)] = true := rfl
      have hnt : ∀ kk : D → Fl, optv (cmpD .ne t.d t.d) kk = kk (.bl false) := fun kk => k_neSame rfl (t.d_plain hok) (by rw [Tr.d_deep]; omega) (deq_refl _ (t.d_plain hok)) (t.d_plain hok)
      have hn0 : ∀ kk : D → Fl, optv (cmpD .ne (.lst true []) (.lst true [])) kk = kk (.bl false) := fun kk => k_neLI (ns := []) (ms := [])
      simp (disch := first | omega | assumption | decide) only [↓q_pk, ↓q_fz, ↓q_mv, ↓q_ci, ↓q_cb, ↓q_cn, ↓q_cs, ↓q_gi, ↓evF_op1, ↓q_op2, ↓q_cmp, ↓q_bc2, ↓evF_bc1, ↓evF_rev, ↓q_isi, ↓q_idx, ↓evF_chn, ↓evF_boo, ↓q_slc, ↓evF_tup, ↓evF_lst, ↓q_frz, ↓p_call, ↓q_xn, ↓q_xv, ↓q_xi, ↓p_comp1, ↓r_mut0, ↓if_own, ↓evB_nil, ↓evB_cons, ↓evS_nil, ↓evS_cons, ↓evOp_none, ↓evOp_some, ↓evP_nil, ↓evP_ix, ↓evI_seq, ↓evI_rg1, ↓evI_rg2, ↓evI_enu, ↓evI_zip, ↓runS_nil, ↓runS_cons, ↓q_asg, ↓run1_unp, ↓q_sti0, ↓q_aug, ↓run1_aui, ↓run1_exp, ↓run1_ife, ↓p_for, ↓p_whl, ↓run1_ret, ↓run1_retn, ↓run1_pas, ↓run1_rai, ↓evO_def, ↓evT_def, ↓getv0, ↓getvS, ↓setK0, ↓setKS, ↓getO0, ↓getOS, ↓rootK_i, ↓rootK_b, ↓rootK_s, ↓rootK_n, ↓rootK_c, ↓rootK_o, ↓rootK_I, ↓frzK_i, ↓frzK_b, ↓frzK_s, ↓frzK_n, ↓frzK_c, ↓frzK_I, ↓hidK_n, ↓hidK_s, ↓unhK_n, ↓unhK_s, ↓subK_n, ↓subK_i, ↓subK_b, ↓subK_s, ↓subK_x, ↓putK_c, ↓putK_n, ↓optv_some, ↓optl_some, ↓alone_none, ↓isB_bl, ↓isI_int, ↓putE_some, ↓k_add, ↓k_sub, ↓k_mod, ↓k_div, ↓k_mulL, ↓k_mulR, ↓k_p18, ↓k_p15, ↓k_p14, ↓k_neg, ↓k_not, ↓k_lt, ↓k_le, ↓k_gt, ↓k_ge, ↓k_eq, ↓k_ne, ↓k_lenC, ↓k_lenI, ↓k_lenT, ↓k_int, ↓k_max, ↓k_min, ↓k_isII, ↓k_isBI, ↓k_ix0, ↓k_ix1, ↓k_ix2, ↓k_set0, ↓k_set2, ↓k_auga, ↓k_augs, ↓k_eqL0, ↓k_neL0, ↓m_popI, ↓m_appI, ↓mutK_some, ↓k_rev, ↓k_sum, ↓k_ixZ, ↓k_listI, ↓walkI, ↓k_eqB, ↓k_neB, ↓k_intB, ↓k_isBB, ↓k_isIB, ↓k_isS, ↓k_eqLI, ↓k_neLI, ↓rng_one, ↓if_l0, ↓if_l1, ↓if_l2, ↓if_l3, ↓if_l4, ↓if_l5, ↓if_l6, ↓if_l7, ↓if_l8, ↓k_ixT0, ↓k_ixT1, ↓k_ixT2, ↓k_ixT3, ↓walkFI, ↓zipI, ↓p_comp2, ↓k_repI, ↓subK_I, ↓k_eqQt, ↓k_eqQf, ↓k_neQt, ↓k_neQf, ↓ki0, ↓ki1, ↓ki2, ↓ki3, ↓ki4, ↓ki5, ↓ki6, ↓ki7, ↓ki8, ↓ki9, ↓ki10, ↓ki11, ↓ki12, ↓ki13, ↓ki14, ↓ki15, ↓ki16, ↓ki17, ↓ki18, ↓ki19, ↓ki20, ↓ki21, ↓ki22, ↓ki23, ↓ki24, ↓ki25, ↓ki26, ↓ki27, ↓ki28, ↓ki29, ↓ki30, ↓ki31, ↓ki32, ↓ki33, ↓ki34, ↓ki35, ↓q_gs, ↓k_len1, ↓k_in1, ↓frzK_d, ↓frzK_dT, ↓frzK_dL, ↓rootK_d, ↓rootK_dL, ↓subK_d, ↓subK_dL, ↓k_ixTr0, ↓k_ixTr1, ↓k_lenTr, ↓k_tupTr, ↓walk_dL, ↓k_lendL, ↓q_mut1, ↓evI_rg3, ↓frzK_nd, ↓reduceIte, fnEnd_ret, fnEnd_nxt, fnEnd_exc, isOwn_t, List.map_cons, List.map_nil, List.cons_append, List.nil_append, List.append_nil, List.replicate_succ, List.replicate_zero, List.getD_cons_zero, List.getD_cons_succ, Bool.not_true, Bool.not_false, decide_true, decide_false, decide_eq_true_eq, decide_eq_false_iff_not, Bool.false_eq_true, Nat.zero_add, Nat.reduceAdd, Int.reduceEq, Int.reduceLT, Int.reduceLE, Nat.reduceEqDiff, reduceCtorEq, eq_self, not_true_eq_false, not_false_eq_true, ↓hne, ↓frzK_lf hfr, ↓walk_fro hfr]
      refine wp_compP [(t.size : Int), (t.depth : Int)] .int .int (fun _ => false) (by simp) (fun y _ => ⟨_, rfl, ?_⟩) ?_
      · simp only [List.set_cons_succ, List.set_cons_zero]
        simp (disch := first | omega | assumption | decide) only [↓q_pk, ↓q_fz, ↓q_mv, ↓q_ci, ↓q_cb, ↓q_cn, ↓q_cs, ↓q_gi, ↓evF_op1, ↓q_op2, ↓q_cmp, ↓q_bc2, ↓evF_bc1, ↓evF_rev, ↓q_isi, ↓q_idx, ↓evF_chn, ↓evF_boo, ↓q_slc, ↓evF_tup, ↓evF_lst, ↓q_frz, ↓p_call, ↓q_xn, ↓q_xv, ↓q_xi, ↓p_comp1, ↓r_mut0, ↓if_own, ↓evB_nil, ↓evB_cons, ↓evS_nil, ↓evS_cons, ↓evOp_none, ↓evOp_some, ↓evP_nil, ↓evP_ix, ↓evI_seq, ↓evI_rg1, ↓evI_rg2, ↓evI_enu, ↓evI_zip, ↓runS_nil, ↓runS_cons, ↓q_asg, ↓run1_unp, ↓q_sti0, ↓q_aug, ↓run1_aui, ↓run1_exp, ↓run1_ife, ↓p_for, ↓p_whl, ↓run1_ret, ↓run1_retn, ↓run1_pas, ↓run1_rai, ↓evO_def, ↓evT_def, ↓getv0, ↓getvS, ↓setK0, ↓setKS, ↓getO0, ↓getOS, ↓rootK_i, ↓rootK_b, ↓rootK_s, ↓rootK_n, ↓rootK_c, ↓rootK_o, ↓rootK_I, ↓frzK_i, ↓frzK_b, ↓frzK_s, ↓frzK_n, ↓frzK_c, ↓frzK_I, ↓hidK_n, ↓hidK_s, ↓unhK_n, ↓unhK_s, ↓subK_n, ↓subK_i, ↓subK_b, ↓subK_s, ↓subK_x, ↓putK_c, ↓putK_n, ↓optv_some, ↓optl_some, ↓alone_none, ↓isB_bl, ↓isI_int, ↓putE_some, ↓k_add, ↓k_sub, ↓k_mod, ↓k_div, ↓k_mulL, ↓k_mulR, ↓k_p18, ↓k_p15, ↓k_p14, ↓k_neg, ↓k_not, ↓k_lt, ↓k_le, ↓k_gt, ↓k_ge, ↓k_eq, ↓k_ne, ↓k_lenC, ↓k_lenI, ↓k_lenT, ↓k_int, ↓k_max, ↓k_min, ↓k_isII, ↓k_isBI, ↓k_ix0, ↓k_ix1, ↓k_ix2, ↓k_set0, ↓k_set2, ↓k_auga, ↓k_augs, ↓k_eqL0, ↓k_neL0, ↓m_popI, ↓m_appI, ↓mutK_some, ↓k_rev, ↓k_sum, ↓k_ixZ, ↓k_listI, ↓walkI, ↓k_eqB, ↓k_neB, ↓k_intB, ↓k_isBB, ↓k_isIB, ↓k_isS, ↓k_eqLI, ↓k_neLI, ↓rng_one, ↓if_l0, ↓if_l1, ↓if_l2, ↓if_l3, ↓if_l4, ↓if_l5, ↓if_l6, ↓if_l7, ↓if_l8, ↓k_ixT0, ↓k_ixT1, ↓k_ixT2, ↓k_ixT3, ↓walkFI, ↓zipI, ↓p_comp2, ↓k_repI, ↓subK_I, ↓k_eqQt, ↓k_eqQf, ↓k_neQt, ↓k_neQf, ↓ki0, ↓ki1, ↓ki2, ↓ki3, ↓ki4, ↓ki5, ↓ki6, ↓ki7, ↓ki8, ↓ki9, ↓ki10, ↓ki11, ↓ki12, ↓ki13, ↓ki14, ↓ki15, ↓ki16, ↓ki17, ↓ki18, ↓ki19, ↓ki20, ↓ki21, ↓ki22, ↓ki23, ↓ki24, ↓ki25, ↓ki26, ↓ki27, ↓ki28, ↓ki29, ↓ki30, ↓ki31, ↓ki32, ↓ki33, ↓ki34, ↓ki35, ↓q_gs, ↓k_len1, ↓k_in1, ↓frzK_d, ↓frzK_dT, ↓frzK_dL, ↓rootK_d, ↓rootK_dL, ↓subK_d, ↓subK_dL, ↓k_ixTr0, ↓k_ixTr1, ↓k_lenTr, ↓k_tupTr, ↓walk_dL, ↓k_lendL, ↓q_mut1, ↓evI_rg3, ↓frzK_nd, ↓reduceIte, fnEnd_ret, fnEnd_nxt, fnEnd_exc, isOwn_t, List.map_cons, List.map_nil, List.cons_append, List.nil_append, List.append_nil, List.replicate_succ, List.replicate_zero, List.getD_cons_zero, List.getD_cons_succ, Bool.not_true, Bool.not_false, decide_true, decide_false, decide_eq_true_eq, decide_eq_false_iff_not, Bool.false_eq_true, Nat.zero_add, Nat.reduceAdd, Int.reduceEq, Int.reduceLT, Int.reduceLE, Nat.reduceEqDiff, reduceCtorEq, eq_self, not_true_eq_false, not_false_eq_true]
        exact wp_retP ⟨_, rfl, rfl, fun _ => rfl, fun h => nomatch h⟩
      · have hfil : List.filter (fun _ : Int => false) [(t.size : Int), (t.depth : Int)] = [] := rfl
        rw [hfil]
        simp (disch := first | omega | assumption | decide) only [↓q_pk, ↓q_fz, ↓q_mv, ↓q_ci, ↓q_cb, ↓q_cn, ↓q_cs, ↓q_gi, ↓evF_op1, ↓q_op2, ↓q_cmp, ↓q_bc2, ↓evF_bc1, ↓evF_rev, ↓q_isi, ↓q_idx, ↓evF_chn, ↓evF_boo, ↓q_slc, ↓evF_tup, ↓evF_lst, ↓q_frz, ↓p_call, ↓q_xn, ↓q_xv, ↓q_xi, ↓p_comp1, ↓r_mut0, ↓if_own, ↓evB_nil, ↓evB_cons, ↓evS_nil, ↓evS_cons, ↓evOp_none, ↓evOp_some, ↓evP_nil, ↓evP_ix, ↓evI_seq, ↓evI_rg1, ↓evI_rg2, ↓evI_enu, ↓evI_zip, ↓runS_nil, ↓runS_cons, ↓q_asg, ↓run1_unp, ↓q_sti0, ↓q_aug, ↓run1_aui, ↓run1_exp, ↓run1_ife, ↓p_for, ↓p_whl, ↓run1_ret, ↓run1_retn, ↓run1_pas, ↓run1_rai, ↓evO_def, ↓evT_def, ↓getv0, ↓getvS, ↓setK0, ↓setKS, ↓getO0, ↓getOS, ↓rootK_i, ↓rootK_b, ↓rootK_s, ↓rootK_n, ↓rootK_c, ↓rootK_o, ↓rootK_I, ↓frzK_i, ↓frzK_b, ↓frzK_s, ↓frzK_n, ↓frzK_c, ↓frzK_I, ↓hidK_n, ↓hidK_s, ↓unhK_n, ↓unhK_s, ↓subK_n, ↓subK_i, ↓subK_b, ↓subK_s, ↓subK_x, ↓putK_c, ↓putK_n, ↓optv_some, ↓optl_some, ↓alone_none, ↓isB_bl, ↓isI_int, ↓putE_some, ↓k_add, ↓k_sub, ↓k_mod, ↓k_div, ↓k_mulL, ↓k_mulR, ↓k_p18, ↓k_p15, ↓k_p14, ↓k_neg, ↓k_not, ↓k_lt, ↓k_le, ↓k_gt, ↓k_ge, ↓k_eq, ↓k_ne, ↓k_lenC, ↓k_lenI, ↓k_lenT, ↓k_int, ↓k_max, ↓k_min, ↓k_isII, ↓k_isBI, ↓k_ix0, ↓k_ix1, ↓k_ix2, ↓k_set0, ↓k_set2, ↓k_auga, ↓k_augs, ↓k_eqL0, ↓k_neL0, ↓m_popI, ↓m_appI, ↓mutK_some, ↓k_rev, ↓k_sum, ↓k_ixZ, ↓k_listI, ↓walkI, ↓k_eqB, ↓k_neB, ↓k_intB, ↓k_isBB, ↓k_isIB, ↓k_isS, ↓k_eqLI, ↓k_neLI, ↓rng_one, ↓if_l0, ↓if_l1, ↓if_l2, ↓if_l3, ↓if_l4, ↓if_l5, ↓if_l6, ↓if_l7, ↓if_l8, ↓k_ixT0, ↓k_ixT1, ↓k_ixT2, ↓k_ixT3, ↓walkFI, ↓zipI, ↓p_comp2, ↓k_repI, ↓subK_I, ↓k_eqQt, ↓k_eqQf, ↓k_neQt, ↓k_neQf, ↓ki0, ↓ki1, ↓ki2, ↓ki3, ↓ki4, ↓ki5, ↓ki6, ↓ki7, ↓ki8, ↓ki9, ↓ki10, ↓ki11, ↓ki12, ↓ki13, ↓ki14, ↓ki15, ↓ki16, ↓ki17, ↓ki18, ↓ki19, ↓ki20, ↓ki21, ↓ki22, ↓ki23, ↓ki24, ↓ki25, ↓ki26, ↓ki27, ↓ki28, ↓ki29, ↓ki30, ↓ki31, ↓ki32, ↓ki33, ↓ki34, ↓ki35, ↓q_gs, ↓k_len1, ↓k_in1, ↓frzK_d, ↓frzK_dT, ↓frzK_dL, ↓rootK_d, ↓rootK_dL, ↓subK_d, ↓subK_dL, ↓k_ixTr0, ↓k_ixTr1, ↓k_lenTr, ↓k_tupTr, ↓walk_dL, ↓k_lendL, ↓q_mut1, ↓evI_rg3, ↓frzK_nd, ↓reduceIte, fnEnd_ret, fnEnd_nxt, fnEnd_exc, isOwn_t, List.map_cons, List.map_nil, List.cons_append, List.nil_append, List.append_nil, List.replicate_succ, List.replicate_zero, List.getD_cons_zero, List.getD_cons_succ, Bool.not_true, Bool.not_false, decide_true, decide_false, decide_eq_true_eq, decide_eq_false_iff_not, Bool.false_eq_true, Nat.zero_add, Nat.reduceAdd, Int.reduceEq, Int.reduceLT, Int.reduceLE, Nat.reduceEqDiff, reduceCtorEq, eq_self, not_true_eq_false, not_false_eq_true, ↓hn0, ↓hnt]
        exact hK' _ ⟨_, _, _, .inr rfl, rfl⟩
    · rintro e ⟨o6, o7, z, hz, rfl⟩
      simp (disch := first | omega | assumption | decide) only [↓q_pk, ↓q_fz, ↓q_mv, ↓q_ci, ↓q_cb, ↓q_cn, ↓q_cs, ↓q_gi, ↓evF_op1, ↓q_op2, ↓q_cmp, ↓q_bc2, ↓evF_bc1, ↓evF_rev, ↓q_isi, ↓q_idx, ↓evF_chn, ↓evF_boo, ↓q_slc, ↓evF_tup, ↓evF_lst, ↓q_frz, ↓p_call, ↓q_xn, ↓q_xv, ↓q_xi, ↓p_comp1, ↓r_mut0, ↓if_own, ↓evB_nil, ↓evB_cons, ↓evS_nil, ↓evS_cons, ↓evOp_none, ↓evOp_some, ↓evP_nil, ↓evP_ix, ↓evI_seq, ↓evI_rg1, ↓evI_rg2, ↓evI_enu, ↓evI_zip, ↓runS_nil, ↓runS_cons, ↓q_asg, ↓run1_unp, ↓q_sti0, ↓q_aug, ↓run1_aui, ↓run1_exp, ↓run1_ife, ↓p_for, ↓p_whl, ↓run1_ret, ↓run1_retn, ↓run1_pas, ↓run1_rai, ↓evO_def, ↓evT_def, ↓getv0, ↓getvS, ↓setK0, ↓setKS, ↓getO0, ↓getOS, ↓rootK_i, ↓rootK_b, ↓rootK_s, ↓rootK_n, ↓rootK_c, ↓rootK_o, ↓rootK_I, ↓frzK_i, ↓frzK_b, ↓frzK_s, ↓frzK_n, ↓frzK_c, ↓frzK_I, ↓hidK_n, ↓hidK_s, ↓unhK_n, ↓unhK_s, ↓subK_n, ↓subK_i, ↓subK_b, ↓subK_s, ↓subK_x, ↓putK_c, ↓putK_n, ↓optv_some, ↓optl_some, ↓alone_none, ↓isB_bl, ↓isI_int, ↓putE_some, ↓k_add, ↓k_sub, ↓k_mod, ↓k_div, ↓k_mulL, ↓k_mulR, ↓k_p18, ↓k_p15, ↓k_p14, ↓k_neg, ↓k_not, ↓k_lt, ↓k_le, ↓k_gt, ↓k_ge, ↓k_eq, ↓k_ne, ↓k_lenC, ↓k_lenI, ↓k_lenT, ↓k_int, ↓k_max, ↓k_min, ↓k_isII, ↓k_isBI, ↓k_ix0, ↓k_ix1, ↓k_ix2, ↓k_set0, ↓k_set2, ↓k_auga, ↓k_augs, ↓k_eqL0, ↓k_neL0, ↓m_popI, ↓m_appI, ↓mutK_some, ↓k_rev, ↓k_sum, ↓k_ixZ, ↓k_listI, ↓walkI, ↓k_eqB, ↓k_neB, ↓k_intB, ↓k_isBB, ↓k_isIB, ↓k_isS, ↓k_eqLI, ↓k_neLI, ↓rng_one, ↓if_l0, ↓if_l1, ↓if_l2, ↓if_l3, ↓if_l4, ↓if_l5, ↓if_l6, ↓if_l7, ↓if_l8, ↓k_ixT0, ↓k_ixT1, ↓k_ixT2, ↓k_ixT3, ↓walkFI, ↓zipI, ↓p_comp2, ↓k_repI, ↓subK_I, ↓k_eqQt, ↓k_eqQf, ↓k_neQt, ↓k_neQf, ↓ki0, ↓ki1, ↓ki2, ↓ki3, ↓ki4, ↓ki5, ↓ki6, ↓ki7, ↓ki8, ↓ki9, ↓ki10, ↓ki11, ↓ki12, ↓ki13, ↓ki14, ↓ki15, ↓ki16, ↓ki17, ↓ki18, ↓ki19, ↓ki20, ↓ki21, ↓ki22, ↓ki23, ↓ki24, ↓ki25, ↓ki26, ↓ki27, ↓ki28, ↓ki29, ↓ki30, ↓ki31, ↓ki32, ↓ki33, ↓ki34, ↓ki35, ↓q_gs, ↓k_len1, ↓k_in1, ↓frzK_d, ↓frzK_dT, ↓frzK_dL, ↓rootK_d, ↓rootK_dL, ↓subK_d, ↓subK_dL, ↓k_ixTr0, ↓k_ixTr1, ↓k_lenTr, ↓k_tupTr, ↓walk_dL, ↓k_lendL, ↓q_mut1, ↓evI_rg3, ↓frzK_nd, ↓reduceIte, fnEnd_ret, fnEnd_nxt, fnEnd_exc, isOwn_t, List.map_cons, List.map_nil, List.cons_append, List.nil_append, List.append_nil, List.replicate_succ, List.replicate_zero, List.getD_cons_zero, List.getD_cons_succ, Bool.not_true, Bool.not_false, decide_true, decide_false, decide_eq_true_eq, decide_eq_false_iff_not, Bool.false_eq_true, Nat.zero_add, Nat.reduceAdd, Int.reduceEq, Int.reduceLT, Int.reduceLE, Nat.reduceEqDiff, reduceCtorEq, eq_self, not_true_eq_false, not_false_eq_true]
      exact hK _ ⟨_, _, _, _, _, _, _, _, rfl⟩
  · rintro e ⟨o1, o2, o3, o4, o5, o6, o7, o8, rfl⟩
    simp (disch := first | omega | assumption | decide) only [↓q_pk, ↓q_fz, ↓q_mv, ↓q_ci, ↓q_cb, ↓q_cn, ↓q_cs, ↓q_gi, ↓evF_op1, ↓q_op2, ↓q_cmp, ↓q_bc2, ↓evF_bc1, ↓evF_rev, ↓q_isi, ↓q_idx, ↓evF_chn, ↓evF_boo, ↓q_slc, ↓evF_tup, ↓evF_lst, ↓q_frz, ↓p_call, ↓q_xn, ↓q_xv, ↓q_xi, ↓p_comp1, ↓r_mut0, ↓if_own, ↓evB_nil, ↓evB_cons, ↓evS_nil, ↓evS_cons, ↓evOp_none, ↓evOp_some, ↓evP_nil, ↓evP_ix, ↓evI_seq, ↓evI_rg1, ↓evI_rg2, ↓evI_enu, ↓evI_zip, ↓runS_nil, ↓runS_cons, ↓q_asg, ↓run1_unp, ↓q_sti0, ↓q_aug, ↓run1_aui, ↓run1_exp, ↓run1_ife, ↓p_for, ↓p_whl, ↓run1_ret, ↓run1_retn, ↓run1_pas, ↓run1_rai, ↓evO_def, ↓evT_def, ↓getv0, ↓getvS, ↓setK0, ↓setKS, ↓getO0, ↓getOS, ↓rootK_i, ↓rootK_b, ↓rootK_s, ↓rootK_n, ↓rootK_c, ↓rootK_o, ↓rootK_I, ↓frzK_i, ↓frzK_b, ↓frzK_s, ↓frzK_n, ↓frzK_c, ↓frzK_I, ↓hidK_n, ↓hidK_s, ↓unhK_n, ↓unhK_s, ↓subK_n, ↓subK_i, ↓subK_b, ↓subK_s, ↓subK_x, ↓putK_c, ↓putK_n, ↓optv_some, ↓optl_some, ↓alone_none, ↓isB_bl, ↓isI_int, ↓putE_some, ↓k_add, ↓k_sub, ↓k_mod, ↓k_div, ↓k_mulL, ↓k_mulR, ↓k_p18, ↓k_p15, ↓k_p14, ↓k_neg, ↓k_not, ↓k_lt, ↓k_le, ↓k_gt, ↓k_ge, ↓k_eq, ↓k_ne, ↓k_lenC, ↓k_lenI, ↓k_lenT, ↓k_int, ↓k_max, ↓k_min, ↓k_isII, ↓k_isBI, ↓k_ix0, ↓k_ix1, ↓k_ix2, ↓k_set0, ↓k_set2, ↓k_auga, ↓k_augs, ↓k_eqL0, ↓k_neL0, ↓m_popI, ↓m_appI, ↓mutK_some, ↓k_rev, ↓k_sum, ↓k_ixZ, ↓k_listI, ↓walkI, ↓k_eqB, ↓k_neB, ↓k_intB, ↓k_isBB, ↓k_isIB, ↓k_isS, ↓k_eqLI, ↓k_neLI, ↓rng_one, ↓if_l0, ↓if_l1, ↓if_l2, ↓if_l3, ↓if_l4, ↓if_l5, ↓if_l6, ↓if_l7, ↓if_l8, ↓k_ixT0, ↓k_ixT1, ↓k_ixT2, ↓k_ixT3, ↓walkFI, ↓zipI, ↓p_comp2, ↓k_repI, ↓subK_I, ↓k_eqQt, ↓k_eqQf, ↓k_neQt, ↓k_neQf, ↓ki0, ↓ki1, ↓ki2, ↓ki3, ↓ki4, ↓ki5, ↓ki6, ↓ki7, ↓ki8, ↓ki9, ↓ki10, ↓ki11, ↓ki12, ↓ki13, ↓ki14, ↓ki15, ↓ki16, ↓ki17, ↓ki18, ↓ki19, ↓ki20, ↓ki21, ↓ki22, ↓ki23, ↓ki24, ↓ki25, ↓ki26, ↓ki27, ↓ki28, ↓ki29, ↓ki30, ↓ki31, ↓ki32, ↓ki33, ↓ki34, ↓ki35, ↓q_gs, ↓k_len1, ↓k_in1, ↓frzK_d, ↓frzK_dT, ↓frzK_dL, ↓rootK_d, ↓rootK_dL, ↓subK_d, ↓subK_dL, ↓k_ixTr0, ↓k_ixTr1, ↓k_lenTr, ↓k_tupTr, ↓walk_dL, ↓k_lendL, ↓q_mut1, ↓evI_rg3, ↓frzK_nd, ↓reduceIte, fnEnd_ret, fnEnd_nxt, fnEnd_exc, isOwn_t, List.map_cons, List.map_nil, List.cons_append, List.nil_append, List.append_nil, List.replicate_succ, List.replicate_zero, List.getD_cons_zero, List.getD_cons_succ, Bool.not_true, Bool.not_false, decide_true, decide_false, decide_eq_true_eq, decide_eq_false_iff_not, Bool.false_eq_true, Nat.zero_add, Nat.reduceAdd, Int.reduceEq, Int.reduceLT, Int.reduceLE, Nat.reduceEqDiff, reduceCtorEq, eq_self, not_true_eq_false, not_false_eq_true]
    exact wp_ret ⟨rfl, rfl⟩
theorem c_law (ns : List Int) (hl : ns.length ≤ 63) : callF P 40 "law" [] [.scr ns] = .ok (.bl true) [] := by
  obtain ⟨r, o, h, rfl, rfl⟩ := l_law ns hl
  exact h
end K02
end VI

set_option maxRecDepth 100000
set_option maxHeartbeats 4000000
namespace VI
namespace K02
open PySem PySem.Spec PyProof.Rows
def top (i : Nat) : Stmt := PySem.Challenge.pw_heaptrees_k02_sizes_and_depths.main.body.getD i (.Pass ⟨0, 0, 0, 0⟩)
abbrev st_is_letter : Stmt := top 5
def nm_is_letter : List Str := ["thing"]
abbrev st_is_part : Stmt := top 6
def nm_is_part : List Str := ["thing"]
abbrev st_is_tree : Stmt := top 7
def nm_is_tree : List Str := ["thing", "waiting", "part"]
abbrev st_need_tree : Stmt := top 8
def nm_need_tree : List Str := ["thing"]
abbrev st_parts_in_order : Stmt := top 9
def nm_parts_in_order : List Str := ["tree", "found", "waiting"]
abbrev st_counted_parts : Stmt := top 10
def nm_counted_parts : List Str := ["tree"]
abbrev st_size_of : Stmt := top 11
def nm_size_of : List Str := ["tree"]
abbrev st_counted_depth : Stmt := top 12
def nm_counted_depth : List Str := ["tree", "depths", "part", "at"]
abbrev st_depth_of : Stmt := top 13
def nm_depth_of : List Str := ["tree"]
abbrev st__law_pool : Stmt := top 15
def nm__law_pool : List Str := ["script", "k", "cell"]
abbrev st__law_take : Stmt := top 16
def nm__law_take : List Str := ["pool", "many", "found", "step", "mark"]
abbrev st__law_mixed_up : Stmt := top 17
def nm__law_mixed_up : List Str := ["pool", "things", "left", "found"]
abbrev st__law_grown : Stmt := top 18
def nm__law_grown : List Str := ["pool", "most", "letters", "many", "way", "depths", "rows", "k", "head", "trees", "children", "child"]
abbrev st__law_shuffled : Stmt := top 19
def nm__law_shuffled : List Str := ["pool", "tree", "child"]
abbrev st__law_tree : Stmt := top 20
def nm__law_tree : List Str := ["pool", "most", "letters", "one", "other", "rows"]
abbrev st__law_letters : Stmt := top 21
def nm__law_letters : List Str := ["pool"]
abbrev st__law_copy : Stmt := top 22
def nm__law_copy : List Str := ["tree", "child"]
abbrev st__law_counted : Stmt := top 23
def nm__law_counted : List Str := ["tree", "row", "size", "depth", "behind", "part"]
abbrev st_law : Stmt := top 24
def nm_law : List Str := ["script", "k", "pool", "tree", "due", "handed", "again", "found", "one"]
def G : String → C → Bool := fun g c => match g with
  | "LETTERS" => decide (c = (.str "abcdefghijklmnopqrstuvwxyz"))
  | _ => false
def XX : String → Bool := fun c => match c with
  | _ => false
theorem sc_is_letter : L2.FnScope nm_is_letter ["thing"] (L2.defScope st_is_letter) := ⟨rfl, rfl, rfl, by decide +kernel, rfl, by decide +kernel, by decide +kernel⟩
theorem ms_is_letter : mSs ⟨G, P, nm_is_letter, XX⟩ fn_is_letter.io (L2.defScope st_is_letter) fn_is_letter.body (L2.defBody st_is_letter) = true := by decide +kernel
theorem sc_is_part : L2.FnScope nm_is_part ["thing"] (L2.defScope st_is_part) := ⟨rfl, rfl, rfl, by decide +kernel, rfl, by decide +kernel, by decide +kernel⟩
theorem ms_is_part : mSs ⟨G, P, nm_is_part, XX⟩ fn_is_part.io (L2.defScope st_is_part) fn_is_part.body (L2.defBody st_is_part) = true := by decide +kernel
theorem sc_is_tree : L2.FnScope nm_is_tree ["thing"] (L2.defScope st_is_tree) := ⟨rfl, rfl, rfl, by decide +kernel, rfl, by decide +kernel, by decide +kernel⟩
theorem ms_is_tree : mSs ⟨G, P, nm_is_tree, XX⟩ fn_is_tree.io (L2.defScope st_is_tree) fn_is_tree.body (L2.defBody st_is_tree) = true := by decide +kernel
theorem sc_need_tree : L2.FnScope nm_need_tree ["thing"] (L2.defScope st_need_tree) := ⟨rfl, rfl, rfl, by decide +kernel, rfl, by decide +kernel, by decide +kernel⟩
theorem ms_need_tree : mSs ⟨G, P, nm_need_tree, XX⟩ fn_need_tree.io (L2.defScope st_need_tree) fn_need_tree.body (L2.defBody st_need_tree) = true := by decide +kernel
theorem sc_parts_in_order : L2.FnScope nm_parts_in_order ["tree"] (L2.defScope st_parts_in_order) := ⟨rfl, rfl, rfl, by decide +kernel, rfl, by decide +kernel, by decide +kernel⟩
theorem ms_parts_in_order : mSs ⟨G, P, nm_parts_in_order, XX⟩ fn_parts_in_order.io (L2.defScope st_parts_in_order) fn_parts_in_order.body (L2.defBody st_parts_in_order) = true := by decide +kernel
theorem sc_counted_parts : L2.FnScope nm_counted_parts ["tree"] (L2.defScope st_counted_parts) := ⟨rfl, rfl, rfl, by decide +kernel, rfl, by decide +kernel, by decide +kernel⟩
theorem ms_counted_parts : mSs ⟨G, P, nm_counted_parts, XX⟩ fn_counted_parts.io (L2.defScope st_counted_parts) fn_counted_parts.body (L2.defBody st_counted_parts) = true := by decide +kernel
theorem sc_size_of : L2.FnScope nm_size_of ["tree"] (L2.defScope st_size_of) := ⟨rfl, rfl, rfl, by decide +kernel, rfl, by decide +kernel, by decide +kernel⟩
theorem ms_size_of : mSs ⟨G, P, nm_size_of, XX⟩ fn_size_of.io (L2.defScope st_size_of) fn_size_of.body (L2.defBody st_size_of) = true := by decide +kernel
theorem sc_counted_depth : L2.FnScope nm_counted_depth ["tree"] (L2.defScope st_counted_depth) := ⟨rfl, rfl, rfl, by decide +kernel, rfl, by decide +kernel, by decide +kernel⟩
theorem ms_counted_depth : mSs ⟨G, P, nm_counted_depth, XX⟩ fn_counted_depth.io (L2.defScope st_counted_depth) fn_counted_depth.body (L2.defBody st_counted_depth) = true := by decide +kernel
theorem sc_depth_of : L2.FnScope nm_depth_of ["tree"] (L2.defScope st_depth_of) := ⟨rfl, rfl, rfl, by decide +kernel, rfl, by decide +kernel, by decide +kernel⟩
theorem ms_depth_of : mSs ⟨G, P, nm_depth_of, XX⟩ fn_depth_of.io (L2.defScope st_depth_of) fn_depth_of.body (L2.defBody st_depth_of) = true := by decide +kernel
theorem sc__law_pool : L2.FnScope nm__law_pool ["script", "k"] (L2.defScope st__law_pool) := ⟨rfl, rfl, rfl, by decide +kernel, rfl, by decide +kernel, by decide +kernel⟩
theorem ms__law_pool : mSs ⟨G, P, nm__law_pool, XX⟩ fn__law_pool.io (L2.defScope st__law_pool) fn__law_pool.body (L2.defBody st__law_pool) = true := by decide +kernel
theorem sc__law_take : L2.FnScope nm__law_take ["pool", "many"] (L2.defScope st__law_take) := ⟨rfl, rfl, rfl, by decide +kernel, rfl, by decide +kernel, by decide +kernel⟩
theorem ms__law_take : mSs ⟨G, P, nm__law_take, XX⟩ fn__law_take.io (L2.defScope st__law_take) fn__law_take.body (L2.defBody st__law_take) = true := by decide +kernel
theorem sc__law_mixed_up : L2.FnScope nm__law_mixed_up ["pool", "things"] (L2.defScope st__law_mixed_up) := ⟨rfl, rfl, rfl, by decide +kernel, rfl, by decide +kernel, by decide +kernel⟩
theorem ms__law_mixed_up : mSs ⟨G, P, nm__law_mixed_up, XX⟩ fn__law_mixed_up.io (L2.defScope st__law_mixed_up) fn__law_mixed_up.body (L2.defBody st__law_mixed_up) = true := by decide +kernel
theorem sc__law_grown : L2.FnScope nm__law_grown ["pool", "most", "letters"] (L2.defScope st__law_grown) := ⟨rfl, rfl, rfl, by decide +kernel, rfl, by decide +kernel, by decide +kernel⟩
theorem ms__law_grown : mSs ⟨G, P, nm__law_grown, XX⟩ fn__law_grown.io (L2.defScope st__law_grown) fn__law_grown.body (L2.defBody st__law_grown) = true := by decide +kernel
theorem sc__law_shuffled : L2.FnScope nm__law_shuffled ["pool", "tree"] (L2.defScope st__law_shuffled) := ⟨rfl, rfl, rfl, by decide +kernel, rfl, by decide +kernel, by decide +kernel⟩
theorem ms__law_shuffled : mSs ⟨G, P, nm__law_shuffled, XX⟩ fn__law_shuffled.io (L2.defScope st__law_shuffled) fn__law_shuffled.body (L2.defBody st__law_shuffled) = true := by decide +kernel
theorem sc__law_tree : L2.FnScope nm__law_tree ["pool", "most", "letters"] (L2.defScope st__law_tree) := ⟨rfl, rfl, rfl, by decide +kernel, rfl, by decide +kernel, by decide +kernel⟩
theorem ms__law_tree : mSs ⟨G, P, nm__law_tree, XX⟩ fn__law_tree.io (L2.defScope st__law_tree) fn__law_tree.body (L2.defBody st__law_tree) = true := by decide +kernel
theorem sc__law_letters : L2.FnScope nm__law_letters ["pool"] (L2.defScope st__law_letters) := ⟨rfl, rfl, rfl, by decide +kernel, rfl, by decide +kernel, by decide +kernel⟩
theorem ms__law_letters : mSs ⟨G, P, nm__law_letters, XX⟩ fn__law_letters.io (L2.defScope st__law_letters) fn__law_letters.body (L2.defBody st__law_letters) = true := by decide +kernel
theorem sc__law_copy : L2.FnScope nm__law_copy ["tree"] (L2.defScope st__law_copy) := ⟨rfl, rfl, rfl, by decide +kernel, rfl, by decide +kernel, by decide +kernel⟩
theorem ms__law_copy : mSs ⟨G, P, nm__law_copy, XX⟩ fn__law_copy.io (L2.defScope st__law_copy) fn__law_copy.body (L2.defBody st__law_copy) = true := by decide +kernel
theorem sc__law_counted : L2.FnScope nm__law_counted ["tree"] (L2.defScope st__law_counted) := ⟨rfl, rfl, rfl, by decide +kernel, rfl, by decide +kernel, by decide +kernel⟩
theorem ms__law_counted : mSs ⟨G, P, nm__law_counted, XX⟩ fn__law_counted.io (L2.defScope st__law_counted) fn__law_counted.body (L2.defBody st__law_counted) = true := by decide +kernel
theorem sc_law : L2.FnScope nm_law ["script"] (L2.defScope st_law) := ⟨rfl, rfl, rfl, by decide +kernel, rfl, by decide +kernel, by decide +kernel⟩
theorem ms_law : mSs ⟨G, P, nm_law, XX⟩ fn_law.io (L2.defScope st_law) fn_law.body (L2.defBody st_law) = true := by decide +kernel
end K02
end VI

set_option maxRecDepth 100000
set_option maxHeartbeats 4000000
namespace VI
namespace K02
open PySem PySem.Spec PyProof.Rows
theorem all_mk {prog : Program} {w : World} {K : PySem.W.Frag} {h : Heap} {mg : Str → Option Value} {fa : Addr} (X : K.In h) (G0 : h.Ns mainGlobals mg) (hfa : mg "law" = some (.ref fa)) {f0 f1 f2 f3 f4 f5 f6 f7 f8 f9 f10 f11 f12 f13 f14 f15 f16 f17 f18 : Addr} {od0 od1 od2 od3 od4 od5 od6 od7 od8 od9 od10 od11 od12 od13 od14 od15 od16 od17 od18 an0 an1 an2 an3 an4 an5 an6 an7 an8 an9 an10 an11 an12 an13 an14 an15 an16 an17 an18 : Option Addr} {sl0 sl1 sl2 sl3 sl4 sl5 sl6 sl7 sl8 sl9 sl10 sl11 sl12 sl13 sl14 sl15 sl16 sl17 sl18 : Array (Option Value)} {oc0 oc1 oc2 oc3 oc4 oc5 oc6 oc7 oc8 oc9 oc10 oc11 oc12 oc13 oc14 oc15 oc16 oc17 oc18 kV0 kV1 kV2 kV3 kV4 kV5 kV6 kV7 kV8 kV9 kV10 kV11 kV12 kV13 kV14 kV15 kV16 kV17 kV18 dc0 dc1 dc2 dc3 dc4 dc5 dc6 dc7 dc8 dc9 dc10 dc11 dc12 dc13 dc14 dc15 dc16 dc17 dc18 pm0 pm1 pm2 pm3 pm4 pm5 pm6 pm7 pm8 pm9 pm10 pm11 pm12 pm13 pm14 pm15 pm16 pm17 pm18 cd0 cd1 cd2 cd3 cd4 cd5 cd6 cd7 cd8 cd9 cd10 cd11 cd12 cd13 cd14 cd15 cd16 cd17 cd18 ct0 ct1 ct2 ct3 ct4 ct5 ct6 ct7 ct8 ct9 ct10 ct11 ct12 ct13 ct14 ct15 ct16 ct17 ct18 : Value}
    (a0 : PySem.W.nsIn K mainGlobals "is_letter" = some (some (.ref f0))) (l0 : K.lookup f0 = some ⟨oc0, od0, .func (PySem.W.fnOf "is_letter" "is_letter" (L2.defArgs st_is_letter) (L2.defBody st_is_letter) (L2.defScope st_is_letter) .none kV0 dc0 pm0 an0 cd0 ct0), sl0⟩) (c0 : PySem.W.codeIn K cd0 "is_letter" = true) (k0 : PySem.W.keepIn K (.ref f0) = true)
    (a1 : PySem.W.nsIn K mainGlobals "is_part" = some (some (.ref f1))) (l1 : K.lookup f1 = some ⟨oc1, od1, .func (PySem.W.fnOf "is_part" "is_part" (L2.defArgs st_is_part) (L2.defBody st_is_part) (L2.defScope st_is_part) .none kV1 dc1 pm1 an1 cd1 ct1), sl1⟩) (c1 : PySem.W.codeIn K cd1 "is_part" = true) (k1 : PySem.W.keepIn K (.ref f1) = true)
    (a2 : PySem.W.nsIn K mainGlobals "is_tree" = some (some (.ref f2))) (l2 : K.lookup f2 = some ⟨oc2, od2, .func (PySem.W.fnOf "is_tree" "is_tree" (L2.defArgs st_is_tree) (L2.defBody st_is_tree) (L2.defScope st_is_tree) .none kV2 dc2 pm2 an2 cd2 ct2), sl2⟩) (c2 : PySem.W.codeIn K cd2 "is_tree" = true) (k2 : PySem.W.keepIn K (.ref f2) = true)
    (a3 : PySem.W.nsIn K mainGlobals "need_tree" = some (some (.ref f3))) (l3 : K.lookup f3 = some ⟨oc3, od3, .func (PySem.W.fnOf "need_tree" "need_tree" (L2.defArgs st_need_tree) (L2.defBody st_need_tree) (L2.defScope st_need_tree) .none kV3 dc3 pm3 an3 cd3 ct3), sl3⟩) (c3 : PySem.W.codeIn K cd3 "need_tree" = true) (k3 : PySem.W.keepIn K (.ref f3) = true)
    (a4 : PySem.W.nsIn K mainGlobals "parts_in_order" = some (some (.ref f4))) (l4 : K.lookup f4 = some ⟨oc4, od4, .func (PySem.W.fnOf "parts_in_order" "parts_in_order" (L2.defArgs st_parts_in_order) (L2.defBody st_parts_in_order) (L2.defScope st_parts_in_order) .none kV4 dc4 pm4 an4 cd4 ct4), sl4⟩) (c4 : PySem.W.codeIn K cd4 "parts_in_order" = true) (k4 : PySem.W.keepIn K (.ref f4) = true)
    (a5 : PySem.W.nsIn K mainGlobals "counted_parts" = some (some (.ref f5))) (l5 : K.lookup f5 = some ⟨oc5, od5, .func (PySem.W.fnOf "counted_parts" "counted_parts" (L2.defArgs st_counted_parts) (L2.defBody st_counted_parts) (L2.defScope st_counted_parts) .none kV5 dc5 pm5 an5 cd5 ct5), sl5⟩) (c5 : PySem.W.codeIn K cd5 "counted_parts" = true) (k5 : PySem.W.keepIn K (.ref f5) = true)
    (a6 : PySem.W.nsIn K mainGlobals "size_of" = some (some (.ref f6))) (l6 : K.lookup f6 = some ⟨oc6, od6, .func (PySem.W.fnOf "size_of" "size_of" (L2.defArgs st_size_of) (L2.defBody st_size_of) (L2.defScope st_size_of) .none kV6 dc6 pm6 an6 cd6 ct6), sl6⟩) (c6 : PySem.W.codeIn K cd6 "size_of" = true) (k6 : PySem.W.keepIn K (.ref f6) = true)
    (a7 : PySem.W.nsIn K mainGlobals "counted_depth" = some (some (.ref f7))) (l7 : K.lookup f7 = some ⟨oc7, od7, .func (PySem.W.fnOf "counted_depth" "counted_depth" (L2.defArgs st_counted_depth) (L2.defBody st_counted_depth) (L2.defScope st_counted_depth) .none kV7 dc7 pm7 an7 cd7 ct7), sl7⟩) (c7 : PySem.W.codeIn K cd7 "counted_depth" = true) (k7 : PySem.W.keepIn K (.ref f7) = true)
    (a8 : PySem.W.nsIn K mainGlobals "depth_of" = some (some (.ref f8))) (l8 : K.lookup f8 = some ⟨oc8, od8, .func (PySem.W.fnOf "depth_of" "depth_of" (L2.defArgs st_depth_of) (L2.defBody st_depth_of) (L2.defScope st_depth_of) .none kV8 dc8 pm8 an8 cd8 ct8), sl8⟩) (c8 : PySem.W.codeIn K cd8 "depth_of" = true) (k8 : PySem.W.keepIn K (.ref f8) = true)
    (a9 : PySem.W.nsIn K mainGlobals "_law_pool" = some (some (.ref f9))) (l9 : K.lookup f9 = some ⟨oc9, od9, .func (PySem.W.fnOf "_law_pool" "_law_pool" (L2.defArgs st__law_pool) (L2.defBody st__law_pool) (L2.defScope st__law_pool) .none kV9 dc9 pm9 an9 cd9 ct9), sl9⟩) (c9 : PySem.W.codeIn K cd9 "_law_pool" = true) (k9 : PySem.W.keepIn K (.ref f9) = true)
    (a10 : PySem.W.nsIn K mainGlobals "_law_take" = some (some (.ref f10))) (l10 : K.lookup f10 = some ⟨oc10, od10, .func (PySem.W.fnOf "_law_take" "_law_take" (L2.defArgs st__law_take) (L2.defBody st__law_take) (L2.defScope st__law_take) .none kV10 dc10 pm10 an10 cd10 ct10), sl10⟩) (c10 : PySem.W.codeIn K cd10 "_law_take" = true) (k10 : PySem.W.keepIn K (.ref f10) = true)
    (a11 : PySem.W.nsIn K mainGlobals "_law_mixed_up" = some (some (.ref f11))) (l11 : K.lookup f11 = some ⟨oc11, od11, .func (PySem.W.fnOf "_law_mixed_up" "_law_mixed_up" (L2.defArgs st__law_mixed_up) (L2.defBody st__law_mixed_up) (L2.defScope st__law_mixed_up) .none kV11 dc11 pm11 an11 cd11 ct11), sl11⟩) (c11 : PySem.W.codeIn K cd11 "_law_mixed_up" = true) (k11 : PySem.W.keepIn K (.ref f11) = true)
    (a12 : PySem.W.nsIn K mainGlobals "_law_grown" = some (some (.ref f12))) (l12 : K.lookup f12 = some ⟨oc12, od12, .func (PySem.W.fnOf "_law_grown" "_law_grown" (L2.defArgs st__law_grown) (L2.defBody st__law_grown) (L2.defScope st__law_grown) .none kV12 dc12 pm12 an12 cd12 ct12), sl12⟩) (c12 : PySem.W.codeIn K cd12 "_law_grown" = true) (k12 : PySem.W.keepIn K (.ref f12) = true)
    (a13 : PySem.W.nsIn K mainGlobals "_law_shuffled" = some (some (.ref f13))) (l13 : K.lookup f13 = some ⟨oc13, od13, .func (PySem.W.fnOf "_law_shuffled" "_law_shuffled" (L2.defArgs st__law_shuffled) (L2.defBody st__law_shuffled) (L2.defScope st__law_shuffled) .none kV13 dc13 pm13 an13 cd13 ct13), sl13⟩) (c13 : PySem.W.codeIn K cd13 "_law_shuffled" = true) (k13 : PySem.W.keepIn K (.ref f13) = true)
    (a14 : PySem.W.nsIn K mainGlobals "_law_tree" = some (some (.ref f14))) (l14 : K.lookup f14 = some ⟨oc14, od14, .func (PySem.W.fnOf "_law_tree" "_law_tree" (L2.defArgs st__law_tree) (L2.defBody st__law_tree) (L2.defScope st__law_tree) .none kV14 dc14 pm14 an14 cd14 ct14), sl14⟩) (c14 : PySem.W.codeIn K cd14 "_law_tree" = true) (k14 : PySem.W.keepIn K (.ref f14) = true)
    (a15 : PySem.W.nsIn K mainGlobals "_law_letters" = some (some (.ref f15))) (l15 : K.lookup f15 = some ⟨oc15, od15, .func (PySem.W.fnOf "_law_letters" "_law_letters" (L2.defArgs st__law_letters) (L2.defBody st__law_letters) (L2.defScope st__law_letters) .none kV15 dc15 pm15 an15 cd15 ct15), sl15⟩) (c15 : PySem.W.codeIn K cd15 "_law_letters" = true) (k15 : PySem.W.keepIn K (.ref f15) = true)
    (a16 : PySem.W.nsIn K mainGlobals "_law_copy" = some (some (.ref f16))) (l16 : K.lookup f16 = some ⟨oc16, od16, .func (PySem.W.fnOf "_law_copy" "_law_copy" (L2.defArgs st__law_copy) (L2.defBody st__law_copy) (L2.defScope st__law_copy) .none kV16 dc16 pm16 an16 cd16 ct16), sl16⟩) (c16 : PySem.W.codeIn K cd16 "_law_copy" = true) (k16 : PySem.W.keepIn K (.ref f16) = true)
    (a17 : PySem.W.nsIn K mainGlobals "_law_counted" = some (some (.ref f17))) (l17 : K.lookup f17 = some ⟨oc17, od17, .func (PySem.W.fnOf "_law_counted" "_law_counted" (L2.defArgs st__law_counted) (L2.defBody st__law_counted) (L2.defScope st__law_counted) .none kV17 dc17 pm17 an17 cd17 ct17), sl17⟩) (c17 : PySem.W.codeIn K cd17 "_law_counted" = true) (k17 : PySem.W.keepIn K (.ref f17) = true)
    (a18 : PySem.W.nsIn K mainGlobals "law" = some (some (.ref f18))) (l18 : K.lookup f18 = some ⟨oc18, od18, .func (PySem.W.fnOf "law" "law" (L2.defArgs st_law) (L2.defBody st_law) (L2.defScope st_law) .none kV18 dc18 pm18 an18 cd18 ct18), sl18⟩) (c18 : PySem.W.codeIn K cd18 "law" = true) (k18 : PySem.W.keepIn K (.ref f18) = true)
    (z_len : PySem.W.nsIn K mainGlobals "len" = some none)
    (z_int : PySem.W.nsIn K mainGlobals "int" = some none)
    (z_bool : PySem.W.nsIn K mainGlobals "bool" = some none)
    (z_list : PySem.W.nsIn K mainGlobals "list" = some none)
    (z_tuple : PySem.W.nsIn K mainGlobals "tuple" = some none)
    (z_sum : PySem.W.nsIn K mainGlobals "sum" = some none)
    (z_max : PySem.W.nsIn K mainGlobals "max" = some none)
    (z_min : PySem.W.nsIn K mainGlobals "min" = some none)
    (z_abs : PySem.W.nsIn K mainGlobals "abs" = some none)
    (z_isinstance : PySem.W.nsIn K mainGlobals "isinstance" = some none)
    (z_str : PySem.W.nsIn K mainGlobals "str" = some none)
    (z_range : PySem.W.nsIn K mainGlobals "range" = some none)
    (z_enumerate : PySem.W.nsIn K mainGlobals "enumerate" = some none)
    (z_zip : PySem.W.nsIn K mainGlobals "zip" = some none)
    (z_dict : PySem.W.nsIn K mainGlobals "dict" = some none)
    (z_set : PySem.W.nsIn K mainGlobals "set" = some none)
    (z_sorted : PySem.W.nsIn K mainGlobals "sorted" = some none)
    (z_repr : PySem.W.nsIn K mainGlobals "repr" = some none)
    {u0 : Value} (gcn0 : PySem.W.nsIn K mainGlobals "LETTERS" = some (some u0)) (rcn0 : L2.RelV (cV (.str "abcdefghijklmnopqrstuvwxyz")) u0)
    : ∃ fd : FuncData, (∀ (s : Shared) (u : Value), BindsTo s fd ⟨[u], []⟩ [("script", u)]) ∧ ∀ base : Heap, K.In base → base.Ns mainGlobals mg → L2.FnOk prog w K mg base (L2.CX prog w) 40 fa fd ["script"] (spF K (fun _ => none) P 40 "law") := by
  have e := hfa.symm.trans (PySem.W.mg_of X G0 a18)
  cases e
  have t : Tab K (fun _ => none) mg P G XX := by
    refine ⟨fun x hx => ?_, fun g c h => ?_, fun c h => ?_, fun f fn h => ?_⟩
    · unfold bltNames at hx
      simp only [List.mem_cons, List.not_mem_nil, or_false] at hx
      rcases hx with rfl | rfl | rfl | rfl | rfl | rfl | rfl | rfl | rfl | rfl | rfl | rfl | rfl | rfl | rfl | rfl | rfl | rfl
      · exact PySem.W.mg_none_of X G0 z_len
      · exact PySem.W.mg_none_of X G0 z_int
      · exact PySem.W.mg_none_of X G0 z_bool
      · exact PySem.W.mg_none_of X G0 z_list
      · exact PySem.W.mg_none_of X G0 z_tuple
      · exact PySem.W.mg_none_of X G0 z_sum
      · exact PySem.W.mg_none_of X G0 z_max
      · exact PySem.W.mg_none_of X G0 z_min
      · exact PySem.W.mg_none_of X G0 z_abs
      · exact PySem.W.mg_none_of X G0 z_isinstance
      · exact PySem.W.mg_none_of X G0 z_str
      · exact PySem.W.mg_none_of X G0 z_range
      · exact PySem.W.mg_none_of X G0 z_enumerate
      · exact PySem.W.mg_none_of X G0 z_zip
      · exact PySem.W.mg_none_of X G0 z_dict
      · exact PySem.W.mg_none_of X G0 z_set
      · exact PySem.W.mg_none_of X G0 z_sorted
      · exact PySem.W.mg_none_of X G0 z_repr
    · unfold G at h
      split at h
      · have e := of_decide_eq_true h
        subst e
        exact ⟨_, PySem.W.mg_of X G0 gcn0, rcn0⟩
      · cases h
    · simp [XX] at h
    · unfold P at h
      split at h
      · cases h
        exact ⟨st_is_letter, nm_is_letter, ["thing"], _, _, PySem.W.mg_of X G0 a0, L2.fun_mk (st := st_is_letter) l0 c0 k0, sc_is_letter, (fun us hl => match us, hl with | [_], _ => rfl), rfl, rfl, by decide, by decide, by decide, ms_is_letter⟩
      · cases h
        exact ⟨st_is_part, nm_is_part, ["thing"], _, _, PySem.W.mg_of X G0 a1, L2.fun_mk (st := st_is_part) l1 c1 k1, sc_is_part, (fun us hl => match us, hl with | [_], _ => rfl), rfl, rfl, by decide, by decide, by decide, ms_is_part⟩
      · cases h
        exact ⟨st_is_tree, nm_is_tree, ["thing"], _, _, PySem.W.mg_of X G0 a2, L2.fun_mk (st := st_is_tree) l2 c2 k2, sc_is_tree, (fun us hl => match us, hl with | [_], _ => rfl), rfl, rfl, by decide, by decide, by decide, ms_is_tree⟩
      · cases h
        exact ⟨st_need_tree, nm_need_tree, ["thing"], _, _, PySem.W.mg_of X G0 a3, L2.fun_mk (st := st_need_tree) l3 c3 k3, sc_need_tree, (fun us hl => match us, hl with | [_], _ => rfl), rfl, rfl, by decide, by decide, by decide, ms_need_tree⟩
      · cases h
        exact ⟨st_parts_in_order, nm_parts_in_order, ["tree"], _, _, PySem.W.mg_of X G0 a4, L2.fun_mk (st := st_parts_in_order) l4 c4 k4, sc_parts_in_order, (fun us hl => match us, hl with | [_], _ => rfl), rfl, rfl, by decide, by decide, by decide, ms_parts_in_order⟩
      · cases h
        exact ⟨st_counted_parts, nm_counted_parts, ["tree"], _, _, PySem.W.mg_of X G0 a5, L2.fun_mk (st := st_counted_parts) l5 c5 k5, sc_counted_parts, (fun us hl => match us, hl with | [_], _ => rfl), rfl, rfl, by decide, by decide, by decide, ms_counted_parts⟩
      · cases h
        exact ⟨st_size_of, nm_size_of, ["tree"], _, _, PySem.W.mg_of X G0 a6, L2.fun_mk (st := st_size_of) l6 c6 k6, sc_size_of, (fun us hl => match us, hl with | [_], _ => rfl), rfl, rfl, by decide, by decide, by decide, ms_size_of⟩
      · cases h
        exact ⟨st_counted_depth, nm_counted_depth, ["tree"], _, _, PySem.W.mg_of X G0 a7, L2.fun_mk (st := st_counted_depth) l7 c7 k7, sc_counted_depth, (fun us hl => match us, hl with | [_], _ => rfl), rfl, rfl, by decide, by decide, by decide, ms_counted_depth⟩
      · cases h
        exact ⟨st_depth_of, nm_depth_of, ["tree"], _, _, PySem.W.mg_of X G0 a8, L2.fun_mk (st := st_depth_of) l8 c8 k8, sc_depth_of, (fun us hl => match us, hl with | [_], _ => rfl), rfl, rfl, by decide, by decide, by decide, ms_depth_of⟩
      · cases h
        exact ⟨st__law_pool, nm__law_pool, ["script", "k"], _, _, PySem.W.mg_of X G0 a9, L2.fun_mk (st := st__law_pool) l9 c9 k9, sc__law_pool, (fun us hl => match us, hl with | [_, _], _ => rfl), rfl, rfl, by decide, by decide, by decide, ms__law_pool⟩
      · cases h
        exact ⟨st__law_take, nm__law_take, ["pool", "many"], _, _, PySem.W.mg_of X G0 a10, L2.fun_mk (st := st__law_take) l10 c10 k10, sc__law_take, (fun us hl => match us, hl with | [_, _], _ => rfl), rfl, rfl, by decide, by decide, by decide, ms__law_take⟩
      · cases h
        exact ⟨st__law_mixed_up, nm__law_mixed_up, ["pool", "things"], _, _, PySem.W.mg_of X G0 a11, L2.fun_mk (st := st__law_mixed_up) l11 c11 k11, sc__law_mixed_up, (fun us hl => match us, hl with | [_, _], _ => rfl), rfl, rfl, by decide, by decide, by decide, ms__law_mixed_up⟩
      · cases h
        exact ⟨st__law_grown, nm__law_grown, ["pool", "most", "letters"], _, _, PySem.W.mg_of X G0 a12, L2.fun_mk (st := st__law_grown) l12 c12 k12, sc__law_grown, (fun us hl => match us, hl with | [_, _, _], _ => rfl), rfl, rfl, by decide, by decide, by decide, ms__law_grown⟩
      · cases h
        exact ⟨st__law_shuffled, nm__law_shuffled, ["pool", "tree"], _, _, PySem.W.mg_of X G0 a13, L2.fun_mk (st := st__law_shuffled) l13 c13 k13, sc__law_shuffled, (fun us hl => match us, hl with | [_, _], _ => rfl), rfl, rfl, by decide, by decide, by decide, ms__law_shuffled⟩
      · cases h
        exact ⟨st__law_tree, nm__law_tree, ["pool", "most", "letters"], _, _, PySem.W.mg_of X G0 a14, L2.fun_mk (st := st__law_tree) l14 c14 k14, sc__law_tree, (fun us hl => match us, hl with | [_, _, _], _ => rfl), rfl, rfl, by decide, by decide, by decide, ms__law_tree⟩
      · cases h
        exact ⟨st__law_letters, nm__law_letters, ["pool"], _, _, PySem.W.mg_of X G0 a15, L2.fun_mk (st := st__law_letters) l15 c15 k15, sc__law_letters, (fun us hl => match us, hl with | [_], _ => rfl), rfl, rfl, by decide, by decide, by decide, ms__law_letters⟩
      · cases h
        exact ⟨st__law_copy, nm__law_copy, ["tree"], _, _, PySem.W.mg_of X G0 a16, L2.fun_mk (st := st__law_copy) l16 c16 k16, sc__law_copy, (fun us hl => match us, hl with | [_], _ => rfl), rfl, rfl, by decide, by decide, by decide, ms__law_copy⟩
      · cases h
        exact ⟨st__law_counted, nm__law_counted, ["tree"], _, _, PySem.W.mg_of X G0 a17, L2.fun_mk (st := st__law_counted) l17 c17 k17, sc__law_counted, (fun us hl => match us, hl with | [_], _ => rfl), rfl, rfl, by decide, by decide, by decide, ms__law_counted⟩
      · cases h
        exact ⟨st_law, nm_law, ["script"], _, _, PySem.W.mg_of X G0 a18, L2.fun_mk (st := st_law) l18 c18 k18, sc_law, (fun us hl => match us, hl with | [_], _ => rfl), rfl, rfl, by decide, by decide, by decide, ms_law⟩
      · cases h
  exact ⟨_, fun s v => .of_eq rfl, fun base _ _ => fn_step t P_law (tab_ok t 39) (PySem.W.mg_of X G0 a18) (L2.fun_mk (st := st_law) l18 c18 k18) sc_law (fun us hl => match us, hl with | [_], _ => rfl) rfl rfl (by decide) (by decide) (by decide) ms_law⟩
end K02
end VI
open PySem PySem.W PyProof.Rows
set_option maxHeartbeats 0 in
theorem PySem.Challenge.cw_heaptrees_k02_sizes_and_depths_holds : PySem.Challenge.rw_heaptrees_k02_sizes_and_depths.Holds := by
  w_on; o_law; k_head; (case hw => w_witness2)
  k_fill
  refine L2.walk_of (l := PySem.Challenge.rw_heaptrees_k02_sizes_and_depths) (n := 63) (k := 40) (x := "script") (CX := fun w => L2.CX PySem.Challenge.rw_heaptrees_k02_sizes_and_depths.prog w) (sp := fun w => VI.spF _ (fun _ => none) VI.K02.P 40 "law") rfl (by decide) rfl ⟨rfl, by decide, by decide⟩ (fun w h Y => PySem.W.kIn_of Y) ?F (fun w H a ns hl _ hS => VI.law_sp VI.K02.P_law rfl rfl hS (VI.K02.c_law ns hl)) (fun w H s e s' h => VI.cx_no h)
  case F =>
    intro w mg fa h KX G hmg
    refine' VI.K02.all_mk KX G hmg ?a0 ?l0 ?c0 ?k0 ?a1 ?l1 ?c1 ?k1 ?a2 ?l2 ?c2 ?k2 ?a3 ?l3 ?c3 ?k3 ?a4 ?l4 ?c4 ?k4 ?a5 ?l5 ?c5 ?k5 ?a6 ?l6 ?c6 ?k6 ?a7 ?l7 ?c7 ?k7 ?a8 ?l8 ?c8 ?k8 ?a9 ?l9 ?c9 ?k9 ?a10 ?l10 ?c10 ?k10 ?a11 ?l11 ?c11 ?k11 ?a12 ?l12 ?c12 ?k12 ?a13 ?l13 ?c13 ?k13 ?a14 ?l14 ?c14 ?k14 ?a15 ?l15 ?c15 ?k15 ?a16 ?l16 ?c16 ?k16 ?a17 ?l17 ?c17 ?k17 ?a18 ?l18 ?c18 ?k18 ?z_len ?z_int ?z_bool ?z_list ?z_tuple ?z_sum ?z_max ?z_min ?z_abs ?z_isinstance ?z_str ?z_range ?z_enumerate ?z_zip ?z_dict ?z_set ?z_sorted ?z_repr ?gcn0 ?rcn0
    (case a0 => k_is)
    (case l0 => k_is)
    (case c0 => k_is)
    (case k0 => k_is)
    (case a1 => k_is)
    (case l1 => k_is)
    (case c1 => k_is)
    (case k1 => k_is)
    (case a2 => k_is)
    (case l2 => k_is)
    (case c2 => k_is)
    (case k2 => k_is)
    (case a3 => k_is)
    (case l3 => k_is)
    (case c3 => k_is)
    (case k3 => k_is)
    (case a4 => k_is)
    (case l4 => k_is)
    (case c4 => k_is)
    (case k4 => k_is)
    (case a5 => k_is)
    (case l5 => k_is)
    (case c5 => k_is)
    (case k5 => k_is)
    (case a6 => k_is)
    (case l6 => k_is)
    (case c6 => k_is)
    (case k6 => k_is)
    (case a7 => k_is)
    (case l7 => k_is)
    (case c7 => k_is)
    (case k7 => k_is)
    (case a8 => k_is)
    (case l8 => k_is)
    (case c8 => k_is)
    (case k8 => k_is)
    (case a9 => k_is)
    (case l9 => k_is)
    (case c9 => k_is)
    (case k9 => k_is)
    (case a10 => k_is)
    (case l10 => k_is)
    (case c10 => k_is)
    (case k10 => k_is)
    (case a11 => k_is)
    (case l11 => k_is)
    (case c11 => k_is)
    (case k11 => k_is)
    (case a12 => k_is)
    (case l12 => k_is)
    (case c12 => k_is)
    (case k12 => k_is)
    (case a13 => k_is)
    (case l13 => k_is)
    (case c13 => k_is)
    (case k13 => k_is)
    (case a14 => k_is)
    (case l14 => k_is)
    (case c14 => k_is)
    (case k14 => k_is)
    (case a15 => k_is)
    (case l15 => k_is)
    (case c15 => k_is)
    (case k15 => k_is)
    (case a16 => k_is)
    (case l16 => k_is)
    (case c16 => k_is)
    (case k16 => k_is)
    (case a17 => k_is)
    (case l17 => k_is)
    (case c17 => k_is)
    (case k17 => k_is)
    (case a18 => k_is)
    (case l18 => k_is)
    (case c18 => k_is)
    (case k18 => k_is)
    (case z_len => k_is)
    (case z_int => k_is)
    (case z_bool => k_is)
    (case z_list => k_is)
    (case z_tuple => k_is)
    (case z_sum => k_is)
    (case z_max => k_is)
    (case z_min => k_is)
    (case z_abs => k_is)
    (case z_isinstance => k_is)
    (case z_str => k_is)
    (case z_range => k_is)
    (case z_enumerate => k_is)
    (case z_zip => k_is)
    (case z_dict => k_is)
    (case z_set => k_is)
    (case z_sorted => k_is)
    (case z_repr => k_is)
    (case gcn0 => k_is)
    (case rcn0 => first | exact ⟨_, rfl⟩ | rfl)

