import PyProof.Rows.All
import Wide.All
import OpenK.AllK
import Wide.FinOn
import HandS.ForMost
import HandS.ForExc
import HandS.Zip
import HandS.Style
import HandS.Wide
import HandS.Conv
import HandS.IsInst
import HandS.Deep
import HandS.SortInts
import HandS.TupMul
import HandS.Flow
import HandS.ExcIs
import HandS.WordsExc
import KE.KStateDown
import HandS.Defaults
import HandS.Head0
import HandS.Head1
import HandS.Head2
import HandS.HeadEnd
import HandS.HeadHook1
import HandS.HeadHook2
import HandS.HeadHook4
import HandS.HeadNt
import PySem.Challenge.RW_termsdivide_k15_across_which_companions
set_option Elab.async false
set_option linter.all false
set_option maxRecDepth 100000
set_option maxHeartbeats 4000000
/-! The small language: values, expressions, statements, the evaluator. -/
namespace ML
open PySem

inductive D where
  | non | bl (b : Bool) | int (i : Int) | str (s : Str) | tup (xs : List D) | lst (xs : List D)
  | cell (i : Nat) | fn (f : Nat) | exc (c : Nat)

mutual
def D.dec : (a b : D) → Decidable (a = b)
  | .non, .non => Decidable.isTrue rfl
  | .bl a, .bl b => if h : a = b then Decidable.isTrue (by rw [h]) else isFalse (fun e => h (D.bl.inj e))
  | .int a, .int b => if h : a = b then Decidable.isTrue (by rw [h]) else isFalse (fun e => h (D.int.inj e))
  | .str a, .str b => if h : a = b then Decidable.isTrue (by rw [h]) else isFalse (fun e => h (D.str.inj e))
  | .cell a, .cell b => if h : a = b then Decidable.isTrue (by rw [h]) else isFalse (fun e => h (D.cell.inj e))
  | .fn a, .fn b => if h : a = b then Decidable.isTrue (by rw [h]) else isFalse (fun e => h (D.fn.inj e))
  | .exc a, .exc b => if h : a = b then Decidable.isTrue (by rw [h]) else isFalse (fun e => h (D.exc.inj e))
  | .tup a, .tup b => match D.decL a b with
    | .isTrue h => Decidable.isTrue (by rw [h])
    | isFalse h => isFalse (fun e => h (D.tup.inj e))
  | .lst a, .lst b => match D.decL a b with
    | .isTrue h => Decidable.isTrue (by rw [h])
    | isFalse h => isFalse (fun e => h (D.lst.inj e))
  | .non, .bl _ | .non, .int _ | .non, .str _ | .non, .tup _ | .non, .lst _ | .non, .cell _ | .non, .fn _ | .non, .exc _ => isFalse (fun e => nomatch e)
  | .bl _, .non | .bl _, .int _ | .bl _, .str _ | .bl _, .tup _ | .bl _, .lst _ | .bl _, .cell _ | .bl _, .fn _ | .bl _, .exc _ => isFalse (fun e => nomatch e)
  | .int _, .non | .int _, .bl _ | .int _, .str _ | .int _, .tup _ | .int _, .lst _ | .int _, .cell _ | .int _, .fn _ | .int _, .exc _ => isFalse (fun e => nomatch e)
  | .str _, .non | .str _, .bl _ | .str _, .int _ | .str _, .tup _ | .str _, .lst _ | .str _, .cell _ | .str _, .fn _ | .str _, .exc _ => isFalse (fun e => nomatch e)
  | .tup _, .non | .tup _, .bl _ | .tup _, .int _ | .tup _, .str _ | .tup _, .lst _ | .tup _, .cell _ | .tup _, .fn _ | .tup _, .exc _ => isFalse (fun e => nomatch e)
  | .lst _, .non | .lst _, .bl _ | .lst _, .int _ | .lst _, .str _ | .lst _, .tup _ | .lst _, .cell _ | .lst _, .fn _ | .lst _, .exc _ => isFalse (fun e => nomatch e)
  | .cell _, .non | .cell _, .bl _ | .cell _, .int _ | .cell _, .str _ | .cell _, .tup _ | .cell _, .lst _ | .cell _, .fn _ | .cell _, .exc _ => isFalse (fun e => nomatch e)
  | .fn _, .non | .fn _, .bl _ | .fn _, .int _ | .fn _, .str _ | .fn _, .tup _ | .fn _, .lst _ | .fn _, .cell _ | .fn _, .exc _ => isFalse (fun e => nomatch e)
  | .exc _, .non | .exc _, .bl _ | .exc _, .int _ | .exc _, .str _ | .exc _, .tup _ | .exc _, .lst _ | .exc _, .cell _ | .exc _, .fn _ => isFalse (fun e => nomatch e)
def D.decL : (a b : List D) → Decidable (a = b)
  | [], [] => Decidable.isTrue rfl
  | x :: xs, y :: ys => match D.dec x y with
    | .isTrue h => match D.decL xs ys with
      | .isTrue h' => Decidable.isTrue (by rw [h, h'])
      | isFalse h' => isFalse (fun e => h' (List.cons.inj e).2)
    | isFalse h => isFalse (fun e => h (List.cons.inj e).1)
  | [], _ :: _ => isFalse (fun e => nomatch e)
  | _ :: _, [] => isFalse (fun e => nomatch e)
end
instance : DecidableEq D := D.dec

abbrev Cells := List (List D)
abbrev Env := List (Option D)

/-- how an evaluation ends -/
inductive R (α : Type) where
  | ok (a : α) (C : Cells)
  | exc (c : Nat) (x : D) (C : Cells)
  | stuck
def R.bind {α β : Type} (r : R α) (k : α → Cells → R β) : R β :=
  match r with
  | .ok a C => k a C
  | .exc c x C => .exc c x C
  | .stuck => .stuck
@[simp] theorem R.bind_ok {α β : Type} (a : α) (C : Cells) (k : α → Cells → R β) : (R.ok a C).bind k = k a C := rfl
@[simp] theorem R.bind_exc {α β : Type} (c : Nat) (x : D) (C : Cells) (k : α → Cells → R β) : (R.exc (α := α) c x C).bind k = .exc c x C := rfl
@[simp] theorem R.bind_stuck {α β : Type} (k : α → Cells → R β) : (R.stuck (α := α)).bind k = .stuck := rfl
def R.of {α : Type} (o : Option α) (C : Cells) : R α := match o with | some a => .ok a C | none => .stuck
@[simp] theorem R.of_some {α : Type} (a : α) (C : Cells) : R.of (some a) C = .ok a C := rfl
@[simp] theorem R.of_none {α : Type} (C : Cells) : R.of (none : Option α) C = .stuck := rfl

/-! ### values -/
/-- a cell's name read as its list -/
def D.val (C : Cells) : D → D
  | .cell i => match C[i]? with | some xs => .lst xs | none => .cell i
  | d => d
def D.items (C : Cells) : D → Option (List D)
  | .tup xs => some xs
  | .lst xs => some xs
  | .cell i => C[i]?
  | _ => none
mutual
/-- no cell, no def, no error within; texts as they may be; depth at most n -/
def D.plain : Nat → D → Bool
  | _, .non => true
  | _, .bl _ => true
  | _, .int _ => true
  | _, .str s => s.cps.all (· < 0x110000)
  | n + 1, .tup xs => D.plainL n xs
  | n + 1, .lst xs => D.plainL n xs
  | _, _ => false
def D.plainL : Nat → List D → Bool
  | _, [] => true
  | n, x :: xs => D.plain n x && D.plainL n xs
end
mutual
def D.py : D → PyData
  | .non => .none
  | .bl b => .bool b
  | .int i => .int i
  | .str s => .str s
  | .tup xs => .tuple (D.pyL xs)
  | .lst xs => .list (D.pyL xs)
  | .cell _ => .none
  | .fn _ => .none
  | .exc _ => .none
def D.pyL : List D → List PyData
  | [] => []
  | x :: xs => D.py x :: D.pyL xs
end
mutual
/-- no cell within -/
def D.noc : D → Bool
  | .tup xs => D.nocL xs
  | .lst xs => D.nocL xs
  | .cell _ => false
  | _ => true
def D.nocL : List D → Bool
  | [] => true
  | x :: xs => D.noc x && D.nocL xs
end
/-- Python's == of data -/
def deq (C : Cells) (a b : D) : Option Bool :=
  if (a.val C).plain 60 && (b.val C).plain 60 then some (PyData.eqv (a.val C).py (b.val C).py) else none
def din (C : Cells) (a : D) (xs : List D) : Option Bool :=
  if a.plain 60 && D.plainL 60 xs then some (xs.any fun z => PyData.eqv z.py a.py) else none
def truth (C : Cells) : D → Option Bool
  | .non => some false
  | .bl b => some b
  | .int i => some (i != 0)
  | .tup xs => some (!xs.isEmpty)
  | .lst xs => some (!xs.isEmpty)
  | .cell i => (C[i]?).map fun xs => !xs.isEmpty
  | _ => none

/-! ### operators -/
inductive Bop where | add | sub | mul | fdiv | mod | pow
  deriving DecidableEq
inductive Cop where | lt | le | gt | ge | eq | ne | inn | nin
  deriving DecidableEq
def bits (i : Int) : Nat := i.natAbs.log2
def repeatL (k : Nat) (xs : List D) : List D := (List.replicate k xs).flatten
def binop (o : Bop) (x y : D) (C : Cells) : Option D :=
  match o, x.val C, y.val C with
  | .add, .int i, .int j => some (.int (i + j))
  | .sub, .int i, .int j => some (.int (i - j))
  | .mul, .int i, .int j => if bits i + bits j < 1000000 ∨ bits i < 63 ∨ bits j < 63 then some (.int (i * j)) else none
  | .fdiv, .int i, .int j => if j ≠ 0 ∧ bits j < 9000 then some (.int (i.fdiv j)) else none
  | .mod, .int i, .int j => if j ≠ 0 then some (.int (i.fmod j)) else none
  | .pow, .int i, .int j => if 0 ≤ j ∧ j ≤ 1000000 ∧ bits i < 63 then some (.int (i ^ j.toNat)) else none
  | .add, .lst xs, .lst ys => if xs.length + ys.length ≤ 16777216 then some (.lst (xs ++ ys)) else none
  | .add, .tup xs, .tup ys => if xs ≠ [] ∧ xs.length + ys.length ≤ 16777216 then some (.tup (xs ++ ys)) else none
  | .mul, .lst xs, .int k => if -(2 ^ 63) ≤ k ∧ k < 2 ^ 63 ∧ xs.length * k.toNat ≤ 16777216 then some (.lst (repeatL k.toNat xs)) else none
  | _, _, _ => none
def cmpop (o : Cop) (x y : D) (C : Cells) : Option Bool :=
  match o with
  | .eq => deq C x y
  | .ne => (deq C x y).map (! ·)
  | .inn => match y.items C with | some xs => din C x xs | none => none
  | .nin => match y.items C with | some xs => (din C x xs).map (! ·) | none => none
  | .lt => match x, y with | .int i, .int j => some (decide (i < j)) | _, _ => none
  | .le => match x, y with | .int i, .int j => some (decide (i ≤ j)) | _, _ => none
  | .gt => match x, y with | .int i, .int j => some (decide (j < i)) | _, _ => none
  | .ge => match x, y with | .int i, .int j => some (decide (j ≤ i)) | _, _ => none
/-- x is d, for None, True, False -/
def isop (d x : D) : Option Bool :=
  match d, x with
  | .non, .exc _ => none
  | .non, .non => some true
  | .non, _ => some false
  | .bl b, .bl c => some (c == b)
  | .bl _, .non => some false
  | _, _ => none
def ixn (n : Nat) (i : Int) : Option Nat := if 0 ≤ i then (if i < n then some i.toNat else none) else if -(n : Int) ≤ i then some (i + n).toNat else none
/-- one sign of a text -/
def sidx (x : D) (i : Int) : Option D := match x with
  | .str z => if z.length ≤ 16777216 then (ixn z.cps.toList.length i).bind fun j => (z.cps.toList[j]?).map fun c => .str ⟨#[c]⟩ else none
  | _ => none
def idxop (x y : D) (C : Cells) : Option D :=
  match y with
  | .int i => match x.items C with
    | some xs => (ixn xs.length i).bind fun j => xs[j]?
    | none => sidx x i
  | _ => none
def six (n d : Nat) : Option Int → Nat
  | none => d
  | some v => if v < 0 then (v + (n : Int)).toNat else min v.toNat n
def cut (xs : List D) (lo hi : Option Int) : List D := (xs.drop (six xs.length 0 lo)).take (six xs.length xs.length hi - six xs.length 0 lo)
def slop (x : D) (lo hi : Option Int) (C : Cells) : Option D :=
  match x.val C with
  | .lst xs => some (.lst (cut xs lo hi))
  | .tup xs => if six xs.length 0 lo = 0 ∧ six xs.length xs.length hi = xs.length then none else some (.tup (cut xs lo hi))
  | _ => none
inductive Bf where | abs | len | max | min | int | all | any | sum | sorted | list | tuple
  deriving DecidableEq
def intsD : List D → Option (List Int)
  | [] => some []
  | .int i :: r => (intsD r).map (i :: ·)
  | _ :: _ => none
def boolsD : List D → Option (List Bool)
  | [] => some []
  | .bl i :: r => (boolsD r).map (i :: ·)
  | _ :: _ => none
def insI (x : Int) : List Int → List Int
  | [] => [x]
  | y :: ys => if x ≤ y then x :: y :: ys else y :: insI x ys
def sortI : List Int → List Int
  | [] => []
  | x :: xs => insI x (sortI xs)
def maxI : Int → List Int → Int
  | m, [] => m
  | m, x :: xs => maxI (if x > m then x else m) xs
def minI : Int → List Int → Int
  | m, [] => m
  | m, x :: xs => minI (if x < m then x else m) xs
def isList : D → Bool
  | .lst _ => true
  | .cell _ => true
  | _ => false
def blt (b : Bf) (xs : List D) (C : Cells) : Option D :=
  match b, xs with
  | .abs, [.int i] => some (.int (if i < 0 then -i else i))
  | .int, [.int i] => some (.int i)
  | .int, [.bl k] => some (.int (if k then 1 else 0))
  | .len, [x] => (x.items C).map fun xs => .int xs.length
  | .max, [.int i, .int j] => some (.int (if j > i then j else i))
  | .min, [.int i, .int j] => some (.int (if j < i then j else i))
  | .max, [x] => if isList x then ((x.items C).bind intsD).bind fun | [] => none | n :: r => some (.int (maxI n r)) else none
  | .min, [x] => if isList x then ((x.items C).bind intsD).bind fun | [] => none | n :: r => some (.int (minI n r)) else none
  | .sum, [x] => if isList x then ((x.items C).bind intsD).map fun ns => .int ns.sum else none
  | .all, [x] => if isList x then ((x.items C).bind boolsD).map fun bs => .bl (bs.all id) else none
  | .any, [x] => if isList x then ((x.items C).bind boolsD).map fun bs => .bl (bs.any id) else none
  | .sorted, [x] => if isList x then ((x.items C).bind intsD).map fun ns => .lst ((sortI ns).map D.int) else none
  | .list, [x] => (x.items C).map D.lst
  | .tuple, [x] => (x.items C).map D.tup
  | _, _ => none
/-- the built-in classes that isinstance asks of -/
inductive Ty where | int | bool | str | list | tuple
  deriving DecidableEq
def isTy (C : Cells) (d : D) (t : Ty) : Option Bool :=
  match d with
  | .non => some false
  | .bl _ => some (t == .bool || t == .int)
  | .int _ => some (t == .int)
  | .str _ => some (t == .str)
  | .tup _ => some (t == .tuple)
  | .lst _ => some (t == .list)
  | .cell i => if i < C.length then some (t == .list) else none
  | _ => none
def isTys (C : Cells) (d : D) : List Ty → Option Bool
  | [] => some false
  | t :: r => (isTy C d t).bind fun b => if b then some true else isTys C d r
def rangeD (a b : Int) : List D := (List.range (b - a).toNat).map fun i => D.int (a + (i : Nat))
/-- range(a, b, c), c > 0 -/
def rangeN (a b c : Int) : Nat := (if a < b then (b - a - 1) / c + 1 else 0).toNat
def rangeC (a b c : Int) : List D := (List.range (rangeN a b c)).map fun i => D.int (a + (i : Nat) * c)
def rngOk (i : Int) : Bool := decide (-(2 ^ 62) ≤ i ∧ i < 2 ^ 62)
def rngop : List D → Option (List D)
  | [.int b] => if rngOk b then some (rangeD 0 b) else none
  | [.int a, .int b] => if rngOk a && rngOk b then some (rangeD a b) else none
  | [.int a, .int b, .int c] => if rngOk a && rngOk b && decide (0 < c ∧ c < 1000000) then some (rangeC a b c) else none
  | _ => none
def zipD : List D → List D → List D
  | x :: xs, y :: ys => .tup [x, y] :: zipD xs ys
  | _, _ => []
def enumD : Nat → List D → List D
  | _, [] => []
  | n, x :: xs => .tup [.int n, x] :: enumD (n + 1) xs

/-! ### syntax -/
inductive Tg where | one (i : Nat) | many (is : List Nat)
  deriving DecidableEq
mutual
inductive E where
  | var (i : Nat) | lit (d : D) | glob (g : Nat)
  | bin (o : Bop) (a b : E) | neg (a : E) | not (a : E) | and (a b : E) | or (a b : E)
  | cmp (o : Cop) (a b : E) | chain (o p : Cop) (a b c : E) | isC (n : Bool) (a : E) (d : D)
  | ite (c a b : E) | tup (es : Es) | lst (es : Es)
  | idx (a b : E) | sl (a : E) (lo hi : OE) | rev (a : E)
  | call (f : Nat) (es : Es) | callk (f : Nat) (es ks : Es) (pm : List Nat) | callv (i : Nat) (es : Es)
  | bf (b : Bf) (es : Es) | isin (a : E) (ts : List Ty) | lof (s : Src) | tof (s : Src)
  | comp (own : List Nat) (s : Src) (t : Tg) (c : OE) (e : E)
  | app (a e : E) | ext (a e : E) | pop (a e : E) | index (a e : E)
inductive Es where | nil | cons (e : E) (r : Es)
inductive OE where | none | some (e : E)
inductive Src where | of (e : E) | rng (es : Es) | zip (a b : E) | enum (a : E)
end
/-- what an except suite may write: isinstance(slip, ValueError), a constant, a list of such, the error's own field -/
inductive Hx where | isin (b : Nat) | lit (d : D) | lst (xs : List Hx) | arg
structure Ha where
  cls : Nat
  slot : Nat
  to : Nat
  val : Hx
mutual
inductive S where
  | set (i : Nat) (e : E) | setC (i : Nat) (e : E) | tset (is : List Nat) (e : E) | par (is : List Nat) (fl : List Bool) (es : Es) | aug (i : Nat) (o : Bop) (e : E)
  | seti (a i e : E) | expr (e : E) | ret (e : E) | retC (e : E) | ife (c : E) (a b : Ss) | whl (c : E) (b : Ss) | fr (s : Src) (t : Tg) (b : Ss)
  | pass | brk | cont | raise (c : Nat) (x : OE) | try (b : Ss) (hs : List Ha)
inductive Ss where | nil | cons (s : S) (r : Ss)
end

/-! ### evaluation of expressions -/
section
variable (gl : Nat → Option D) (cf : Nat → List D → Cells → R D)
def setAll : List Nat → List D → Env → Env
  | i :: is, d :: ds, ρ => setAll is ds (ρ.set i (some d))
  | _, _, ρ => ρ
def setTg (t : Tg) (d : D) (ρ : Env) : Option Env :=
  match t with
  | .one i => some (ρ.set i (some d))
  | .many is => match d with
    | .tup ds => if ds.length = is.length then some (setAll is ds ρ) else none
    | _ => none
def wipeE : List Nat → Env → Env
  | [], ρ => ρ
  | i :: own, ρ => (wipeE own ρ).set i none
/-- the loop of a comprehension: f gives the new item, or none where the test says no; gd: the cell that is walked -/
def held (gd : Option (Nat × List D)) (xs : List D) (C : Cells) : Bool :=
  match gd with
  | some (i, ys) => decide (C[i]? = some ys)
  | none => true
def R.calm {α : Type} : R α → R α
  | .ok a C => .ok a C
  | _ => .stuck
@[simp] theorem R.calm_ok {α : Type} (a : α) (C : Cells) : (R.ok a C).calm = .ok a C := rfl
@[simp] theorem R.calm_stuck {α : Type} : (R.stuck (α := α)).calm = .stuck := rfl
def cloop (gd : Option (Nat × List D)) (all : List D) (f : D → Cells → R (Option D)) : List D → List D → Cells → R (List D)
  | [], acc, C => .ok acc.reverse C
  | x :: xs, acc, C => (f x C).calm.bind fun o C' => if held gd all C' then cloop gd all f xs (match o with | some y => y :: acc | none => acc) C' else .stuck
def permute (pm : List Nat) (xs : List D) : Option (List D) := pm.mapM fun i => xs[i]?
mutual
def evE : E → Env → Cells → R D
  | .var i, ρ, C => match ρ[i]? with | some (some d) => .ok d C | _ => .stuck
  | .lit d, _, C => .ok d C
  | .glob g, _, C => R.of (gl g) C
  | .bin o a b, ρ, C => (evE a ρ C).bind fun x C => (evE b ρ C).bind fun y C => R.of (binop o x y C) C
  | .neg a, ρ, C => (evE a ρ C).bind fun x C => match x with | .int i => .ok (.int (-i)) C | _ => .stuck
  | .not a, ρ, C => (evE a ρ C).bind fun x C => (R.of (truth C x) C).bind fun b C => .ok (.bl (!b)) C
  | .and a b, ρ, C => (evE a ρ C).bind fun x C => (R.of (truth C x) C).bind fun k C => if k then evE b ρ C else .ok x C
  | .or a b, ρ, C => (evE a ρ C).bind fun x C => (R.of (truth C x) C).bind fun k C => if k then .ok x C else evE b ρ C
  | .cmp o a b, ρ, C => (evE a ρ C).bind fun x C => (evE b ρ C).bind fun y C => (R.of (cmpop o x y C) C).bind fun b C => .ok (.bl b) C
  | .chain o p a b c, ρ, C => (evE a ρ C).bind fun x C => (evE b ρ C).bind fun y C => (R.of (cmpop o x y C) C).bind fun k C =>
      if k then (evE c ρ C).bind fun z C => (R.of (cmpop p y z C) C).bind fun b C => .ok (.bl b) C else .ok (.bl false) C
  | .isC n a d, ρ, C => (evE a ρ C).bind fun x C => (R.of (isop d x) C).bind fun b C => .ok (.bl (if n then !b else b)) C
  | .ite c a b, ρ, C => (evE c ρ C).bind fun x C => (R.of (truth C x) C).bind fun k C => if k then evE a ρ C else evE b ρ C
  | .tup es, ρ, C => (evEs es ρ C).bind fun xs C => .ok (.tup xs) C
  | .lst es, ρ, C => (evEs es ρ C).bind fun xs C => .ok (.lst xs) C
  | .idx a b, ρ, C => (evE a ρ C).bind fun x C => (evE b ρ C).bind fun y C => R.of (idxop x y C) C
  | .sl a lo hi, ρ, C => (evE a ρ C).bind fun x C => (evOE lo ρ C).bind fun l C => (evOE hi ρ C).bind fun h C => R.of (slop x l h C) C
  | .rev a, ρ, C => (evE a ρ C).bind fun x C => match x.val C with | .lst xs => .ok (.lst xs.reverse) C | _ => .stuck
  | .call f es, ρ, C => (evEs es ρ C).bind fun xs C => cf f xs C
  | .callk f es ks pm, ρ, C => (evEs es ρ C).bind fun xs C => (evEs ks ρ C).bind fun ys C => (R.of (permute pm (xs ++ ys)) C).bind fun zs C => cf f zs C
  | .callv i es, ρ, C => match ρ[i]? with
    | some (some (.fn f)) => (evEs es ρ C).bind fun xs C => cf f xs C
    | _ => .stuck
  | .bf b es, ρ, C => (evEs es ρ C).bind fun xs C => R.of (blt b xs C) C
  | .isin a ts, ρ, C => (evE a ρ C).bind fun x C => (R.of (isTys C x ts) C).bind fun b C => .ok (.bl b) C
  | .lof s, ρ, C => (evSrc s ρ C).bind fun p C => if p.1.length ≤ 16777216 then .ok (.lst p.1) C else .stuck
  | .tof s, ρ, C => (evSrc s ρ C).bind fun p C => if p.1.length ≤ 16777216 then .ok (.tup p.1) C else .stuck
  | .comp own s t c e, ρ, C => (evSrc s ρ C).bind fun p C => if p.1.length ≤ 16777216 then
      (cloop p.2 p.1 (fun x C => (R.of (setTg t x (wipeE own ρ)) C).bind fun ρ' C => (evOT c ρ' C).bind fun k C => if k then (evE e ρ' C).bind fun y C => .ok (some y) C else .ok none C) p.1 [] C).bind fun ys C => .ok (.lst ys) C
      else .stuck
  | .app a e, ρ, C => (evE a ρ C).bind fun x C => match x with
    | .cell i => (evE e ρ C).bind fun y C => match C[i]? with
      | some xs => if xs.length < 16777216 ∧ y.noc = true then .ok .non (C.set i (xs ++ [y])) else .stuck
      | none => .stuck
    | _ => .stuck
  | .ext a e, ρ, C => (evE a ρ C).bind fun x C => match x with
    | .cell i => (evE e ρ C).bind fun y C => match y.val C, C[i]? with
      | .lst ys, some xs => if xs.length + ys.length ≤ 16777216 ∧ D.nocL ys = true then .ok .non (C.set i (xs ++ ys)) else .stuck
      | _, _ => .stuck
    | _ => .stuck
  | .pop a e, ρ, C => (evE a ρ C).bind fun x C => match x with
    | .cell i => (evE e ρ C).bind fun y C => match y, C[i]? with
      | .int k, some xs => match (if rngOk k then ixn xs.length k else none) with
        | some j => match xs[j]? with
          | some d => .ok d (C.set i (xs.eraseIdx j))
          | none => .stuck
        | none => .stuck
      | _, _ => .stuck
    | _ => .stuck
  | .index a e, ρ, C => (evE a ρ C).bind fun x C => (evE e ρ C).bind fun y C => .stuck
def evEs : Es → Env → Cells → R (List D)
  | .nil, _, C => .ok [] C
  | .cons e r, ρ, C => (evE e ρ C).bind fun x C => (evEs r ρ C).bind fun xs C => .ok (x :: xs) C
def evOE : OE → Env → Cells → R (Option Int)
  | .none, _, C => .ok none C
  | .some e, ρ, C => (evE e ρ C).bind fun x C => match x with | .int i => .ok (some i) C | _ => .stuck
def evOT : OE → Env → Cells → R Bool
  | .none, _, C => .ok true C
  | .some e, ρ, C => (evE e ρ C).bind fun x C => R.of (truth C x) C
def evSrc : Src → Env → Cells → R (List D × Option (Nat × List D))
  | .of e, ρ, C => (evE e ρ C).bind fun x C => match x with
    | .cell i => match C[i]? with | some xs => .ok (xs, some (i, xs)) C | none => .stuck
    | x => match x.items C with | some xs => .ok (xs, none) C | none => .stuck
  | .rng es, ρ, C => (evEs es ρ C).bind fun xs C => (R.of (rngop xs) C).bind fun ys C => .ok (ys, none) C
  | .zip a b, ρ, C => (evE a ρ C).bind fun x C => (evE b ρ C).bind fun y C => match x, y with
    | .lst xs, .lst ys => .ok (zipD xs ys, none) C
    | .tup xs, .tup ys => .ok (zipD xs ys, none) C
    | .lst xs, .cell i => match C[i]? with | some ys => .ok (zipD xs ys, some (i, ys)) C | none => .stuck
    | _, _ => .stuck
  | .enum a, ρ, C => (evE a ρ C).bind fun x C => match x with
    | .lst xs => .ok (enumD 0 xs, none) C
    | _ => .stuck
end
end

/-- arguments, some of them new lists that are to be cells -/
def evEsC (gl : Nat → Option D) (cf : Nat → List D → Cells → R D) : List Bool → Es → Env → Cells → R (List D)
  | _, .nil, _, C => .ok [] C
  | f :: fl, .cons e r, ρ, C => (evE gl cf e ρ C).bind fun x C =>
      if f then match x with
        | .lst xs => if D.nocL xs then (evEsC gl cf fl r ρ (C ++ [xs])).bind fun ys C' => .ok (.cell C.length :: ys) C' else .stuck
        | _ => .stuck
      else (evEsC gl cf fl r ρ C).bind fun ys C' => .ok (x :: ys) C'
  | [], .cons _ _, _, _ => .stuck

/-! ### evaluation of statements -/
inductive Fl where | next | brk | cont | ret (d : D)
inductive RS where
  | ok (f : Fl) (ρ : Env) (C : Cells)
  | exc (c : Nat) (x : D) (ρ : Env) (C : Cells)
  | stuck
def R.toS {α : Type} (r : R α) (ρ : Env) (k : α → Cells → RS) : RS :=
  match r with
  | .ok a C => k a C
  | .exc c x C => .exc c x ρ C
  | .stuck => .stuck
@[simp] theorem R.toS_ok {α : Type} (a : α) (C : Cells) (ρ : Env) (k : α → Cells → RS) : (R.ok a C).toS ρ k = k a C := rfl
@[simp] theorem R.toS_exc {α : Type} (c : Nat) (x : D) (C : Cells) (ρ : Env) (k : α → Cells → RS) : (R.exc (α := α) c x C).toS ρ k = .exc c x ρ C := rfl
@[simp] theorem R.toS_stuck {α : Type} (ρ : Env) (k : α → Cells → RS) : (R.stuck (α := α)).toS ρ k = .stuck := rfl
/-- one statement, then the next -/
def RS.seq (r : RS) (k : Env → Cells → RS) : RS :=
  match r with
  | .ok .next ρ C => k ρ C
  | r => r
@[simp] theorem RS.seq_next (ρ : Env) (C : Cells) (k : Env → Cells → RS) : (RS.ok .next ρ C).seq k = k ρ C := rfl
@[simp] theorem RS.seq_ret (d : D) (ρ : Env) (C : Cells) (k : Env → Cells → RS) : (RS.ok (.ret d) ρ C).seq k = .ok (.ret d) ρ C := rfl
@[simp] theorem RS.seq_brk (ρ : Env) (C : Cells) (k : Env → Cells → RS) : (RS.ok .brk ρ C).seq k = .ok .brk ρ C := rfl
@[simp] theorem RS.seq_cont (ρ : Env) (C : Cells) (k : Env → Cells → RS) : (RS.ok .cont ρ C).seq k = .ok .cont ρ C := rfl
@[simp] theorem RS.seq_exc (c : Nat) (x : D) (ρ : Env) (C : Cells) (k : Env → Cells → RS) : (RS.exc c x ρ C).seq k = .exc c x ρ C := rfl
@[simp] theorem RS.seq_stuck (k : Env → Cells → RS) : RS.stuck.seq k = .stuck := rfl
/-- behind a turn of a loop: how it goes on (again), or leaves -/
def RS.turn (r : RS) (again : Env → Cells → RS) : RS :=
  match r with
  | .ok .next ρ C => again ρ C
  | .ok .cont ρ C => again ρ C
  | .ok .brk ρ C => .ok .next ρ C
  | r => r
@[simp] theorem RS.turn_next (ρ : Env) (C : Cells) (k : Env → Cells → RS) : (RS.ok .next ρ C).turn k = k ρ C := rfl
@[simp] theorem RS.turn_cont (ρ : Env) (C : Cells) (k : Env → Cells → RS) : (RS.ok .cont ρ C).turn k = k ρ C := rfl
@[simp] theorem RS.turn_brk (ρ : Env) (C : Cells) (k : Env → Cells → RS) : (RS.ok .brk ρ C).turn k = .ok .next ρ C := rfl
@[simp] theorem RS.turn_ret (d : D) (ρ : Env) (C : Cells) (k : Env → Cells → RS) : (RS.ok (.ret d) ρ C).turn k = .ok (.ret d) ρ C := rfl
@[simp] theorem RS.turn_exc (c : Nat) (x : D) (ρ : Env) (C : Cells) (k : Env → Cells → RS) : (RS.exc c x ρ C).turn k = .exc c x ρ C := rfl
@[simp] theorem RS.turn_stuck (k : Env → Cells → RS) : RS.stuck.turn k = .stuck := rfl
def wloop (c : Env → Cells → R Bool) (b : Env → Cells → RS) (n : Nat) : Env → Cells → RS :=
  Nat.rec (fun _ _ => .stuck) (fun _ ih ρ C => (c ρ C).toS ρ fun k C => if k then (b ρ C).turn ih else .ok .next ρ C) n
theorem wloop_succ (c : Env → Cells → R Bool) (b : Env → Cells → RS) (n : Nat) (ρ : Env) (C : Cells) :
    wloop c b (n + 1) ρ C = (c ρ C).toS ρ fun k C => if k then (b ρ C).turn (wloop c b n) else .ok .next ρ C := rfl
def floop (gd : Option (Nat × List D)) (all : List D) (t : Tg) (b : Env → Cells → RS) : List D → Env → Cells → RS
  | [], ρ, C => .ok .next ρ C
  | x :: xs, ρ, C => match setTg t x ρ with
    | some ρ' => (b ρ' C).turn fun ρ C => if held gd all C then floop gd all t b xs ρ C else .stuck
    | none => .stuck
/-- how many turns a while may make: more than any of ours makes -/
def WMAX : Nat := 10000000000
def hxIs : Nat → Nat → Bool := fun _ _ => true
def hxv (x : D) : Hx → D
  | .isin _ => .bl true
  | .lit d => d
  | .lst xs => .lst (xs.attach.map fun ⟨y, _⟩ => hxv x y)
  | .arg => x
def handle (hs : List Ha) (c : Nat) (x : D) (ρ : Env) (C : Cells) : RS :=
  match hs with
  | [] => .exc c x ρ C
  | h :: r => if h.cls = c then .ok .next ((ρ.set h.to (some (hxv x h.val))).set h.slot none) C else handle r c x ρ C
section
variable (gl : Nat → Option D) (cf : Nat → List D → Cells → R D)
mutual
def evS : S → Env → Cells → RS
  | .set i e, ρ, C => (evE gl cf e ρ C).toS ρ fun x C => .ok .next (ρ.set i (some x)) C
  | .setC i e, ρ, C => (evE gl cf e ρ C).toS ρ fun x C => match x with
    | .lst xs => if D.nocL xs then .ok .next (ρ.set i (some (.cell C.length))) (C ++ [xs]) else .stuck
    | _ => .stuck
  | .tset is e, ρ, C => (evE gl cf e ρ C).toS ρ fun x C => match setTg (.many is) x ρ with | some ρ' => .ok .next ρ' C | none => .stuck
  | .par is fl es, ρ, C => (evEsC gl cf fl es ρ C).toS ρ fun ds C => if ds.length = is.length then .ok .next (setAll is ds ρ) C else .stuck
  | .aug i o e, ρ, C => match ρ[i]? with
    | some (some x) => (evE gl cf e ρ C).toS ρ fun y C => match binop o x y C with | some z => .ok .next (ρ.set i (some z)) C | none => .stuck
    | _ => .stuck
  | .seti a i e, ρ, C => (evE gl cf e ρ C).toS ρ fun y C => (evE gl cf a ρ C).toS ρ fun x C => (evE gl cf i ρ C).toS ρ fun k C => match x, k with
    | .cell i, .int k => match C[i]? with
      | some xs => match ixn xs.length k with
        | some j => if y.noc then .ok .next ρ (C.set i (xs.set j y)) else .stuck
        | none => .stuck
      | none => .stuck
    | _, _ => .stuck
  | .expr e, ρ, C => (evE gl cf e ρ C).toS ρ fun _ C => .ok .next ρ C
  | .ret e, ρ, C => (evE gl cf e ρ C).toS ρ fun x C => .ok (.ret x) ρ C
  | .retC e, ρ, C => (evE gl cf e ρ C).toS ρ fun x C => match x with
    | .lst xs => if D.nocL xs then .ok (.ret (.cell C.length)) ρ (C ++ [xs]) else .stuck
    | _ => .stuck
  | .ife c a b, ρ, C => (evE gl cf c ρ C).toS ρ fun x C => (R.of (truth C x) C).toS ρ fun k C => if k then evSs a ρ C else evSs b ρ C
  | .whl c b, ρ, C => wloop (fun ρ C => (evE gl cf c ρ C).bind fun x C => R.of (truth C x) C) (fun ρ C => evSs b ρ C) WMAX ρ C
  | .fr s t b, ρ, C => (evSrc gl cf s ρ C).toS ρ fun p C => floop p.2 p.1 t (fun ρ C => evSs b ρ C) p.1 ρ C
  | .pass, ρ, C => .ok .next ρ C
  | .brk, ρ, C => .ok .brk ρ C
  | .cont, ρ, C => .ok .cont ρ C
  | .raise c .none, ρ, C => .exc c .non ρ C
  | .raise c (.some e), ρ, C => (evE gl cf e ρ C).toS ρ fun x C => .exc c x ρ C
  | .try b hs, ρ, C => match evSs b ρ C with
    | .exc c x ρ C => handle hs c x ρ C
    | r => r
def evSs : Ss → Env → Cells → RS
  | .nil, ρ, C => .ok .next ρ C
  | .cons s r, ρ, C => (evS s ρ C).seq fun ρ C => evSs r ρ C
end
end

/-! ### defs -/
structure Fn where
  np : Nat
  nv : Nat
  rc : Bool
  body : Ss
structure Tab where
  glob : Nat → Option D
  fn : Nat → Option Fn
/-- what a def hands back: its own cells are let go; a list that it kept is handed back as a list, or (rc) as a cell of the caller's -/
def fin (rc : Bool) (n : Nat) (v : D) (C : Cells) : R D :=
  match v with
  | .cell i => if i < n then .ok (.cell i) (C.take n) else match C[i]? with
    | some xs => if rc then .ok (.cell n) (C.take n ++ [xs]) else .ok (.lst xs) (C.take n)
    | none => .stuck
  | v => if v.noc then .ok v (C.take n) else .stuck
def callF (T : Tab) : Nat → Nat → List D → Cells → R D
  | 0, _, _, _ => .stuck
  | d + 1, f, xs, C => match T.fn f with
    | none => .stuck
    | some F => if xs.length = F.np then
        match evSs T.glob (callF T d) F.body (xs.map some ++ List.replicate (F.nv - F.np) none) C with
        | .ok (.ret v) _ C' => fin F.rc C.length v C'
        | .ok .next _ C' => fin F.rc C.length .non C'
        | .exc c x _ C' => if x.noc then .exc c x (C'.take C.length) else .stuck
        | _ => .stuck
      else .stuck
end ML

set_option maxHeartbeats 1000000
/-! What a heap means to the small language; readings. -/
namespace ML
open PySem PySem.Spec PyProof.Rows L2

/-- what the program's text gives: addresses of defs and error classes -/
structure Ad where
  fa : Nat → Option Addr
  ec : Nat → Option Addr
  ps : Nat → List Str

section
variable (K : PySem.W.Frag) (A : Ad)
mutual
inductive Rep (κ : List Addr) (G : Hp) : V → D → Prop
  | non : Rep κ G .non .non
  | bl (b : Bool) : Rep κ G (.bl b) (.bl b)
  | int (i : Int) : Rep κ G (.int i) (.int i)
  | str (s : Str) : Rep κ G (.str s) (.str s)
  | tup {a : Addr} {vs : List V} {ds : List D} : SqT K G a vs → RepL κ G vs ds → Rep κ G (.ref a) (.tup ds)
  | lst {a : Addr} {vs : List V} {ds : List D} : Rd G a (.lst vs) → RepL κ G vs ds → Rep κ G (.ref a) (.lst ds)
  | cell {i : Nat} {a : Addr} : κ[i]? = some a → Rep κ G (.ref a) (.cell i)
  | fn {f : Nat} {a : Addr} : A.fa f = some a → Rep κ G (.ref a) (.fn f)
inductive RepL (κ : List Addr) (G : Hp) : List V → List D → Prop
  | nil : RepL κ G [] []
  | cons {v : V} {vs : List V} {d : D} {ds : List D} : Rep κ G v d → RepL κ G vs ds → RepL κ G (v :: vs) (d :: ds)
end
end

/-- κ' goes on κ -/
def Pre (κ κ' : List Addr) : Prop := ∀ (i : Nat) (a : Addr), κ[i]? = some a → κ'[i]? = some a
theorem Pre.refl (κ : List Addr) : Pre κ κ := fun _ _ h => h
theorem Pre.trans {a b c : List Addr} (h : Pre a b) (k : Pre b c) : Pre a c := fun i x e => k i x (h i x e)
theorem Pre.app (κ l : List Addr) : Pre κ (κ ++ l) := fun i a h => by
  obtain ⟨hi, e⟩ := List.getElem?_eq_some_iff.mp h
  rw [List.getElem?_append_left hi]; exact h
theorem Pre.take {κ κ' : List Addr} {n : Nat} (h : Pre κ κ') (hn : κ.length = n) : κ'.take n = κ := by
  apply List.ext_getElem?
  intro i
  rw [List.getElem?_take]
  by_cases hi : i < n
  · rw [if_pos hi]
    have : i < κ.length := by omega
    rw [List.getElem?_eq_getElem this]
    exact h i _ (List.getElem?_eq_getElem this)
  · rw [if_neg hi, List.getElem?_eq_none (by omega)]
theorem same_sqT {K : PySem.W.Frag} {G G' : Hp} {a : Addr} {xs : List V} (e : Same G G') (h : SqT K G a xs) : SqT K G' a xs := by
  rcases h with (h | ⟨o, h⟩) | h
  · exact .inl (.inl (e _ _ h))
  · exact .inl (.inr ⟨o, e _ _ h⟩)
  · exact .inr h
theorem same_rd {G G' : Hp} {a : Addr} {u : HO} (e : Same G G') (h : Rd G a u) : Rd G' a u := by
  rcases h with h | ⟨o, h⟩
  · exact .inl (e _ _ h)
  · exact .inr ⟨o, e _ _ h⟩
theorem same_upd {G : Hp} {p : Addr} {o : HO} (h : G p = none) : Same G (upd G p o) := fun b u e => by
  rw [upd_ne (ne_of_none e h)]; exact e

section
variable {K : PySem.W.Frag} {A : Ad} {κ κ' : List Addr} {G G' : Hp}
mutual
theorem Rep.mono (hk : Pre κ κ') (hg : Same G G') : ∀ {d : D} {v : V}, Rep K A κ G v d → Rep K A κ' G' v d
  | .non, _, h => by cases h; exact .non
  | .bl b, _, h => by cases h; exact .bl b
  | .int b, _, h => by cases h; exact .int b
  | .str b, _, h => by cases h; exact .str b
  | .tup ds, _, h => by
    cases h with
    | tup s r => exact .tup (same_sqT hg s) (RepL.mono hk hg r)
  | .lst ds, _, h => by
    cases h with
    | lst s r => exact .lst (same_rd hg s) (RepL.mono hk hg r)
  | .cell i, _, h => by
    cases h with
    | cell e => exact .cell (hk _ _ e)
  | .fn f, _, h => by
    cases h with
    | fn e => exact .fn e
  | .exc c, _, h => by cases h
theorem RepL.mono (hk : Pre κ κ') (hg : Same G G') : ∀ {ds : List D} {vs : List V}, RepL K A κ G vs ds → RepL K A κ' G' vs ds
  | [], _, h => by cases h; exact .nil
  | d :: ds, _, h => by
    cases h with
    | cons r rs => exact .cons (Rep.mono hk hg r) (RepL.mono hk hg rs)
end
mutual
/-- without cells: the cells do not matter -/
theorem Rep.noc : ∀ {d : D} {v : V}, Rep K A κ G v d → d.noc = true → Rep K A κ' G v d
  | .non, _, h, _ => by cases h; exact .non
  | .bl b, _, h, _ => by cases h; exact .bl b
  | .int b, _, h, _ => by cases h; exact .int b
  | .str b, _, h, _ => by cases h; exact .str b
  | .tup ds, _, h, e => by
    cases h with
    | tup s r => exact .tup s (RepL.noc r (by simpa [D.noc] using e))
  | .lst ds, _, h, e => by
    cases h with
    | lst s r => exact .lst s (RepL.noc r (by simpa [D.noc] using e))
  | .cell i, _, h, e => by simp [D.noc] at e
  | .fn f, _, h, _ => by
    cases h with
    | fn e => exact .fn e
  | .exc c, _, h, _ => by cases h
theorem RepL.noc : ∀ {ds : List D} {vs : List V}, RepL K A κ G vs ds → D.nocL ds = true → RepL K A κ' G vs ds
  | [], _, h, _ => by cases h; exact .nil
  | d :: ds, _, h, e => by
    simp only [D.nocL, Bool.and_eq_true] at e
    cases h with
    | cons r rs => exact .cons (Rep.noc r e.1) (RepL.noc rs e.2)
end
theorem RepL.length : ∀ {vs : List V} {ds : List D}, RepL K A κ G vs ds → vs.length = ds.length
  | _, _, .nil => rfl
  | _, _, .cons _ t => by simp [RepL.length t]
theorem RepL.app : ∀ {vs us : List V} {ds es : List D}, RepL K A κ G vs ds → RepL K A κ G us es → RepL K A κ G (vs ++ us) (ds ++ es)
  | _, _, _, _, .nil, h => h
  | _, _, _, _, .cons r t, h => .cons r (RepL.app t h)
theorem RepL.get : ∀ {vs : List V} {ds : List D} {i : Nat} {d : D}, RepL K A κ G vs ds → ds[i]? = some d → ∃ v, vs[i]? = some v ∧ Rep K A κ G v d
  | _, _, _, _, .nil, e => by simp at e
  | _, _, 0, _, .cons r _, e => by simp at e; subst e; exact ⟨_, rfl, r⟩
  | _, _, i + 1, d, .cons _ t, e => by
    obtain ⟨u, h1, h2⟩ := RepL.get (i := i) (d := d) t (by simpa using e)
    exact ⟨u, by simpa using h1, h2⟩
theorem RepL.getV : ∀ {vs : List V} {ds : List D} {i : Nat} {v : V}, RepL K A κ G vs ds → vs[i]? = some v → ∃ d, ds[i]? = some d ∧ Rep K A κ G v d
  | _, _, _, _, .nil, e => by simp at e
  | _, _, 0, _, .cons r _, e => by simp at e; subst e; exact ⟨_, rfl, r⟩
  | _, _, i + 1, d, .cons _ t, e => by
    obtain ⟨u, h1, h2⟩ := RepL.getV (i := i) (v := d) t (by simpa using e)
    exact ⟨u, by simpa using h1, h2⟩
theorem RepL.drop : ∀ {vs : List V} {ds : List D} (n : Nat), RepL K A κ G vs ds → RepL K A κ G (vs.drop n) (ds.drop n)
  | _, _, 0, r => r
  | _, _, _ + 1, .nil => .nil
  | _, _, n + 1, .cons _ t => RepL.drop n t
theorem RepL.take : ∀ {vs : List V} {ds : List D} (n : Nat), RepL K A κ G vs ds → RepL K A κ G (vs.take n) (ds.take n)
  | _, _, 0, _ => .nil
  | _, _, _ + 1, .nil => .nil
  | _, _, n + 1, .cons r t => .cons r (RepL.take n t)
theorem RepL.set {v : V} {d : D} (r : Rep K A κ G v d) : ∀ {vs : List V} {ds : List D} (i : Nat), RepL K A κ G vs ds → RepL K A κ G (vs.set i v) (ds.set i d)
  | _, _, _, .nil => .nil
  | _, _, 0, .cons _ t => .cons r t
  | _, _, i + 1, .cons q t => .cons q (RepL.set r i t)
theorem RepL.erase : ∀ {vs : List V} {ds : List D} (i : Nat), RepL K A κ G vs ds → RepL K A κ G (vs.eraseIdx i) (ds.eraseIdx i)
  | _, _, _, .nil => .nil
  | _, _, 0, .cons _ t => t
  | _, _, i + 1, .cons q t => .cons q (RepL.erase i t)
theorem RepL.rev : ∀ {vs : List V} {ds : List D}, RepL K A κ G vs ds → RepL K A κ G vs.reverse ds.reverse
  | _, _, .nil => .nil
  | _, _, .cons r t => by rw [List.reverse_cons, List.reverse_cons]; exact RepL.app (RepL.rev t) (.cons r .nil)
theorem RepL.isEmpty {vs : List V} {ds : List D} (h : RepL K A κ G vs ds) : vs.isEmpty = ds.isEmpty := by cases h <;> rfl
theorem RepL.ints : ∀ {vs : List V} {ds : List D} {ns : List Int}, RepL K A κ G vs ds → intsD ds = some ns → vs = ns.map V.int
  | _, _, ns, .nil, e => by simp [intsD] at e; subst e; rfl
  | _, _, ns, .cons (d := d) (ds := ds) r t, e => by
    cases d with
    | int i =>
      simp only [intsD, Option.map_eq_some_iff] at e
      obtain ⟨ms, e1, rfl⟩ := e
      cases r
      rw [RepL.ints t e1]; rfl
    | _ => simp [intsD] at e
theorem RepL.bools : ∀ {vs : List V} {ds : List D} {ns : List Bool}, RepL K A κ G vs ds → boolsD ds = some ns → vs = ns.map V.bl
  | _, _, ns, .nil, e => by simp [boolsD] at e; subst e; rfl
  | _, _, ns, .cons (d := d) (ds := ds) r t, e => by
    cases d with
    | bl i =>
      simp only [boolsD, Option.map_eq_some_iff] at e
      obtain ⟨ms, e1, rfl⟩ := e
      cases r
      rw [RepL.bools t e1]; rfl
    | _ => simp [boolsD] at e
theorem RepL.ofInts : ∀ (ns : List Int), RepL K A κ G (ns.map V.int) (ns.map D.int)
  | [] => .nil
  | n :: ns => .cons (.int n) (RepL.ofInts ns)
end

/-- the heap H bears the data of G and the cells C at κ -/
structure SR (K : PySem.W.Frag) (A : Ad) (κ : List Addr) (G H : Hp) (C : Cells) : Prop where
  sub : Same G H
  len : κ.length = C.length
  cell : ∀ (i : Nat) (a : Addr) (xs : List D), κ[i]? = some a → C[i]? = some xs → G a = none ∧ D.nocL xs = true ∧ ∃ vs, H a = some (.lst vs) ∧ RepL K A κ G vs xs
  nd : κ.Nodup
structure ER (K : PySem.W.Frag) (A : Ad) (κ : List Addr) (G : Hp) (σ : L2.St) (ρ : Env) : Prop where
  len : σ.length = ρ.length
  at_ : ∀ (i : Nat) (d : D), ρ[i]? = some (some d) → ∃ v, σ[i]? = some (some v) ∧ Rep K A κ G v d
/-- how a heap goes on: cells and data stay, what is no cell stays as it is -/
structure Ext (κ : List Addr) (G H : Hp) (κ' : List Addr) (G' H' : Hp) : Prop where
  pre : Pre κ κ'
  same : Same G G'
  fr : ∀ (a : Addr) (o : HO), H a = some o → a ∉ κ → H' a = some o ∧ a ∉ κ' ∧ (G a = none → G' a = none)
theorem Ext.refl (κ : List Addr) (G H : Hp) : Ext κ G H κ G H := ⟨Pre.refl _, Same.refl _, fun a o h k => ⟨h, k, fun z => z⟩⟩
theorem Ext.trans {κ κ1 κ2 : List Addr} {G H G1 H1 G2 H2 : Hp} (a : Ext κ G H κ1 G1 H1) (b : Ext κ1 G1 H1 κ2 G2 H2) : Ext κ G H κ2 G2 H2 :=
  ⟨a.pre.trans b.pre, a.same.trans b.same, fun p o h k => let ⟨h1, k1, g1⟩ := a.fr p o h k; let ⟨h2, k2, g2⟩ := b.fr p o h1 k1; ⟨h2, k2, fun z => g2 (g1 z)⟩⟩
section
variable {K : PySem.W.Frag} {A : Ad} {κ κ' : List Addr} {G G' H : Hp} {C : Cells} {σ : L2.St} {ρ : Env}
theorem ER.mono (h : ER K A κ G σ ρ) (hk : Pre κ κ') (hg : Same G G') : ER K A κ' G' σ ρ := ⟨h.len, fun i d e => let ⟨v, e1, r⟩ := h.at_ i d e; ⟨v, e1, r.mono hk hg⟩⟩
theorem ER.set (h : ER K A κ G σ ρ) {v : V} {d : D} (r : Rep K A κ G v d) (i : Nat) : ER K A κ G (σ.set i (some v)) (ρ.set i (some d)) := by
  refine ⟨by simp [h.len], fun j e hj => ?_⟩
  rw [List.getElem?_set] at hj
  by_cases hij : i = j
  · subst hij
    rw [if_pos rfl] at hj
    split at hj
    · rename_i hl
      cases hj
      refine ⟨v, ?_, r⟩
      rw [List.getElem?_set_self (by rw [h.len]; exact hl)]
    · cases hj
  · rw [if_neg hij] at hj
    obtain ⟨u, e1, r1⟩ := h.at_ j e hj
    refine ⟨u, ?_, r1⟩
    rw [List.getElem?_set_ne hij]; exact e1
theorem ER.setN (h : ER K A κ G σ ρ) (o : Option V) (i : Nat) : ER K A κ G (σ.set i o) (ρ.set i none) := by
  refine ⟨by simp [h.len], fun j e hj => ?_⟩
  rw [List.getElem?_set] at hj
  by_cases hij : i = j
  · subst hij
    rw [if_pos rfl] at hj
    split at hj <;> cases hj
  · rw [if_neg hij] at hj
    obtain ⟨u, e1, r1⟩ := h.at_ j e hj
    refine ⟨u, ?_, r1⟩
    rw [List.getElem?_set_ne hij]; exact e1
theorem SR.free {p : Addr} (s : SR K A κ G H C) (h : H p = none) : G p = none := by
  cases e : G p with
  | none => rfl
  | some o => rw [s.sub p o e] at h; cases h
theorem SR.notin {p : Addr} (s : SR K A κ G H C) (h : H p = none) : p ∉ κ := fun hm => by
  obtain ⟨i, hi, e⟩ := List.getElem_of_mem hm
  have hc : i < C.length := by rw [← s.len]; exact hi
  obtain ⟨_, _, vs, hv, _⟩ := s.cell i p C[i] (by rw [List.getElem?_eq_getElem hi, e]) (List.getElem?_eq_getElem hc)
  rw [h] at hv; cases hv
/-- a new object, seen as data -/
theorem SR.new {p : Addr} {o : HO} (s : SR K A κ G H C) (h : H p = none) : SR K A κ (upd G p o) (upd H p o) C := by
  have hg := s.free h
  refine ⟨fun b u e => ?_, s.len, fun i a xs h1 h2 => ?_, s.nd⟩
  · by_cases hb : b = p
    · subst hb; rw [upd_same] at e ⊢; exact e
    · rw [upd_ne hb] at e ⊢; exact s.sub b u e
  · obtain ⟨g, nc, vs, hv, r⟩ := s.cell i a xs h1 h2
    have hne : a ≠ p := ne_of_none hv h
    exact ⟨by rw [upd_ne hne]; exact g, nc, vs, by rw [upd_ne hne]; exact hv, r.mono (Pre.refl _) (same_upd hg)⟩
theorem SR.ext {p : Addr} {o : HO} (s : SR K A κ G H C) (h : H p = none) : Ext κ G H κ (upd G p o) (upd H p o) :=
  ⟨Pre.refl _, same_upd (s.free h), fun a u e k => ⟨by rw [upd_ne (ne_of_none e h)]; exact e, k, fun z => by rw [upd_ne (ne_of_none e h)]; exact z⟩⟩
theorem SR.extH {p : Addr} {o : HO} (s : SR K A κ G H C) (h : H p = none) : Ext κ G H κ G (upd H p o) :=
  ⟨Pre.refl _, Same.refl _, fun a u e k => ⟨by rw [upd_ne (ne_of_none e h)]; exact e, k, fun z => z⟩⟩
/-- a new object that is not seen -/
theorem SR.newH {p : Addr} {o : HO} (s : SR K A κ G H C) (h : H p = none) : SR K A κ G (upd H p o) C := by
  have hg := s.free h
  refine ⟨fun b u e => ?_, s.len, fun i a xs h1 h2 => ?_, s.nd⟩
  · rw [upd_ne (ne_of_none e hg)]; exact s.sub b u e
  · obtain ⟨g, nc, vs, hv, r⟩ := s.cell i a xs h1 h2
    exact ⟨g, nc, vs, by rw [upd_ne (ne_of_none hv h)]; exact hv, r⟩
/-- an object of H that G does not see is seen from now on -/
theorem SR.see {p : Addr} {o : HO} (s : SR K A κ G H C) (h : H p = some o) (hg : G p = none) (hk : p ∉ κ) : SR K A κ (upd G p o) H C := by
  refine ⟨fun b u e => ?_, s.len, fun i a xs h1 h2 => ?_, s.nd⟩
  · by_cases hb : b = p
    · subst hb; rw [upd_same] at e; cases e; exact h
    · rw [upd_ne hb] at e; exact s.sub b u e
  · obtain ⟨g, nc, vs, hv, r⟩ := s.cell i a xs h1 h2
    have hne : a ≠ p := fun z => hk (z ▸ List.mem_of_getElem? h1)
    exact ⟨by rw [upd_ne hne]; exact g, nc, vs, hv, r.mono (Pre.refl _) (same_upd hg)⟩
/-- .. as a cell -/
theorem SR.seeC {p : Addr} {vs : List V} {xs : List D} (s : SR K A κ G H C) (h : H p = some (.lst vs)) (hg : G p = none) (hk : p ∉ κ) (hn : D.nocL xs = true) (r : RepL K A κ G vs xs) :
    SR K A (κ ++ [p]) G H (C ++ [xs]) := by
  refine ⟨s.sub, by simp [s.len], fun i a ys h1 h2 => ?_, ?_⟩
  · by_cases hi : i < κ.length
    · rw [List.getElem?_append_left hi] at h1
      rw [List.getElem?_append_left (by rw [← s.len]; exact hi)] at h2
      obtain ⟨g, nc, us, hv, r⟩ := s.cell i a ys h1 h2
      exact ⟨g, nc, us, hv, r.mono (Pre.app _ _) (Same.refl _)⟩
    · rw [List.getElem?_append_right (by omega)] at h1
      rw [List.getElem?_append_right (by rw [← s.len]; omega)] at h2
      rw [s.len] at h1
      have : i - C.length = 0 := by
        have := (List.getElem?_eq_some_iff.mp h1).1
        simp at this; omega
      rw [this] at h1 h2
      simp at h1 h2
      subst h1; subst h2
      exact ⟨hg, hn, vs, h, r.mono (Pre.app _ _) (Same.refl _)⟩
  · rw [List.nodup_append]
    refine ⟨s.nd, by simp, fun a ha b hb => ?_⟩
    simp at hb; subst hb
    exact fun z => hk (z ▸ ha)
/-- a cell written -/
theorem SR.write {i : Nat} {a : Addr} {vs : List V} {xs : List D} (s : SR K A κ G H C) (h1 : κ[i]? = some a) (hi : i < C.length) (hn : D.nocL xs = true) (r : RepL K A κ G vs xs) : SR K A κ G (upd H a (.lst vs)) (C.set i xs) := by
  obtain ⟨ga, _⟩ := s.cell i a C[i] h1 (List.getElem?_eq_getElem hi)
  refine ⟨fun b u e => ?_, by simp [s.len], fun j b ys h2 h3 => ?_, s.nd⟩
  · rw [upd_ne (ne_of_none e ga)]; exact s.sub b u e
  · by_cases hij : i = j
    · subst hij
      rw [h1] at h2; cases h2
      rw [List.getElem?_set_self hi] at h3; cases h3
      exact ⟨ga, hn, vs, upd_same, r⟩
    · rw [List.getElem?_set_ne hij] at h3
      obtain ⟨g, nc, us, hv, r'⟩ := s.cell j b ys h2 h3
      have hne : b ≠ a := fun z => by
        subst z
        exact hij ((List.getElem?_inj (List.getElem?_eq_some_iff.mp h1).1 s.nd).mp (h1.trans h2.symm))
      exact ⟨g, nc, us, by rw [upd_ne hne]; exact hv, r'⟩
/-- later cells let go -/
theorem SR.take (s : SR K A κ' G H C) (hk : Pre κ κ') (n : Nat) (hn : κ.length = n) : SR K A κ G H (C.take n) := by
  have e := hk.take hn
  have hnl : n ≤ κ'.length := by
    have : (κ'.take n).length = n := by rw [e, hn]
    rw [List.length_take] at this; omega
  refine ⟨s.sub, by rw [List.length_take, ← s.len, hn]; omega, fun i a xs h1 h2 => ?_, ?_⟩
  · have hi : i < n := by rw [← hn]; exact (List.getElem?_eq_some_iff.mp h1).1
    rw [List.getElem?_take_of_lt hi] at h2
    obtain ⟨g, nc, vs, hv, r⟩ := s.cell i a xs (hk i a h1) h2
    exact ⟨g, nc, vs, hv, r.noc nc⟩
  · rw [← e]; exact s.nd.sublist (List.take_sublist _ _)
end
end ML

set_option maxHeartbeats 1000000
/-! Readings of expressions: operators by values. -/
namespace ML
open PySem PySem.Spec PyProof.Rows L2

/-! ### what follows an evaluation -/
section
variable (K : PySem.W.Frag) (A : Ad) (W : WX) (κ : List Addr) (G H : Hp) (σ : L2.St)
def Fin {α : Type} (r : R α) (P : List Addr → Hp → Cells → α → Hp → Prop) : Prop :=
  match r with
  | .ok a C' => ∀ (κ' : List Addr) (G' H' : Hp), Ext κ G H κ' G' H' → SR K A κ' G' H' C' → P κ' G' C' a H'
  | .exc c x C' => ∀ (κ' : List Addr) (G' H' : Hp) (a : Addr), Ext κ G H κ' G' H' → SR K A κ' G' H' C' → A.ec c = some a → x = .non → W (.ref a) none σ H'
  | .stuck => False
end
section
variable {K : PySem.W.Frag} {A : Ad} {W : WX} {κ κ1 : List Addr} {G G1 H H1 : Hp} {σ : L2.St} {α β : Type} {C : Cells}
theorem Fin.later {r : R α} {P : List Addr → Hp → Cells → α → Hp → Prop} (h : Fin K A W κ G H σ r P) (x : Ext κ G H κ1 G1 H1) : Fin K A W κ1 G1 H1 σ r P := by
  cases r with
  | ok a C => exact fun κ2 G2 H2 x2 s2 => h κ2 G2 H2 (x.trans x2) s2
  | exc c y C => exact fun κ2 G2 H2 a x2 s2 => h κ2 G2 H2 a (x.trans x2) s2
  | stuck => exact h
theorem Fin.bind {r : R α} {f : α → Cells → R β} {P : List Addr → Hp → Cells → β → Hp → Prop} (h : Fin K A W κ G H σ (r.bind f) P) :
    Fin K A W κ G H σ r (fun κ1 G1 C1 a H1 => Fin K A W κ1 G1 H1 σ (f a C1) P) := by
  cases r with
  | ok a C =>
    intro κ1 G1 H1 x1 s1
    have h' : Fin K A W κ G H σ (f a C) P := h
    exact h'.later x1
  | exc c x C => exact h
  | stuck => exact h
theorem Fin.mono {r : R α} {P Q : List Addr → Hp → Cells → α → Hp → Prop} (h : Fin K A W κ G H σ r P)
    (hpq : ∀ (κ' : List Addr) (G' : Hp) (C' : Cells) (a : α) (H' : Hp), Ext κ G H κ' G' H' → SR K A κ' G' H' C' → P κ' G' C' a H' → Q κ' G' C' a H') : Fin K A W κ G H σ r Q := by
  cases r with
  | ok a C => exact fun κ1 G1 H1 x1 s1 => hpq _ _ _ _ _ x1 s1 (h κ1 G1 H1 x1 s1)
  | exc c x C => exact h
  | stuck => exact h
theorem Fin.ok {a : α} {P : List Addr → Hp → Cells → α → Hp → Prop} (h : Fin K A W κ G H σ (.ok a C) P) (s : SR K A κ G H C) : P κ G C a H := h κ G H (Ext.refl _ _ _) s
theorem Fin.of {o : Option α} {P : List Addr → Hp → Cells → α → Hp → Prop} (h : Fin K A W κ G H σ (R.of o C) P) : ∃ a, o = some a ∧ Fin K A W κ G H σ (.ok a C) P := by
  cases o with
  | some a => exact ⟨a, rfl, h⟩
  | none => exact h.elim
theorem Fin.ofB {o : Option α} {f : α → Cells → R β} {P : List Addr → Hp → Cells → β → Hp → Prop} (h : Fin K A W κ G H σ ((R.of o C).bind f) P) : ∃ a, o = some a ∧ Fin K A W κ G H σ (f a C) P := by
  cases o with
  | some a => exact ⟨a, rfl, h⟩
  | none => exact h.elim
end

/-! ### data from values -/
section
variable {K : PySem.W.Frag} {A : Ad} {κ : List Addr} {G H : Hp} {C : Cells} {v : V} {d : D} {xs : List D}
theorem Rep.seqL (r : Rep K A κ G v d) (s : SR K A κ G H C) (e : d.val C = .lst xs) : ∃ a vs, v = .ref a ∧ Rd H a (.lst vs) ∧ RepL K A κ G vs xs := by
  cases r with
  | lst q rl => simp only [D.val] at e; cases e; exact ⟨_, _, rfl, same_rd s.sub q, rl⟩
  | @cell i a ea =>
    simp only [D.val] at e
    split at e
    · rename_i ys hy
      cases e
      obtain ⟨g, nc, vs, hv, rl⟩ := s.cell i a _ ea hy
      exact ⟨a, vs, rfl, .inl hv, rl⟩
    · cases e
  | tup q rl => simp only [D.val] at e; cases e
  | _ => simp only [D.val] at e; cases e
theorem Rep.seqT (r : Rep K A κ G v (.tup xs)) (s : SR K A κ G H C) : ∃ a vs, v = .ref a ∧ SqT K H a vs ∧ RepL K A κ G vs xs := by
  cases r with
  | tup q rl => exact ⟨_, _, rfl, same_sqT s.sub q, rl⟩
theorem val_tup (e : d.val C = .tup xs) : d = .tup xs := by
  cases d with
  | cell i => simp only [D.val] at e; split at e <;> cases e
  | _ => simp only [D.val] at e; first | exact e | cases e
theorem val_int {i : Int} (e : d.val C = .int i) : d = .int i := by
  cases d with
  | cell i => simp only [D.val] at e; split at e <;> cases e
  | _ => simp only [D.val] at e; first | exact e | cases e
theorem Rep.itemsE (r : Rep K A κ G v d) (s : SR K A κ G H C) (e : d.items C = some xs) : ∃ a vs, v = .ref a ∧ (Rd H a (.lst vs) ∨ SqT K H a vs) ∧ RepL K A κ G vs xs := by
  cases d with
  | tup ys =>
    simp only [D.items, Option.some.injEq] at e; subst e
    obtain ⟨a, vs, e1, q, rl⟩ := r.seqT s
    exact ⟨a, vs, e1, .inr q, rl⟩
  | lst ys =>
    simp only [D.items, Option.some.injEq] at e; subst e
    obtain ⟨a, vs, e1, q, rl⟩ := r.seqL s (by rfl)
    exact ⟨a, vs, e1, .inl q, rl⟩
  | cell i =>
    have e' : C[i]? = some xs := e
    obtain ⟨a, vs, e1, q, rl⟩ := r.seqL s (xs := xs) (by simp only [D.val, e'])
    exact ⟨a, vs, e1, .inl q, rl⟩
  | _ => simp [D.items] at e
theorem Rep.listE (r : Rep K A κ G v d) (s : SR K A κ G H C) (hl : isList d = true) (e : d.items C = some xs) : ∃ a vs, v = .ref a ∧ Rd H a (.lst vs) ∧ RepL K A κ G vs xs := by
  cases d with
  | lst ys =>
    simp only [D.items, Option.some.injEq] at e; subst e
    exact r.seqL s (by rfl)
  | cell i =>
    have e' : C[i]? = some xs := e
    exact r.seqL s (xs := xs) (by simp only [D.val, e'])
  | _ => simp [isList] at hl
theorem sqL_of {a : Addr} {vs : List V} (h : Rd H a (.lst vs)) : SqL K H a vs := .inl h

/-! data at any depth -/
mutual
theorem Rep.dp (g : Same G H) : ∀ (n : Nat) {d : D} {v : V}, Rep K A κ G v d → d.plain n = true → Dp K H v d.py
  | _, .non, _, h, _ => by cases h; exact .non
  | _, .bl b, _, h, _ => by cases h; exact .bl b
  | _, .int b, _, h, _ => by cases h; exact .int b
  | _, .str b, _, h, _ => by cases h; exact .str b
  | 0, .tup ds, _, h, e => by simp [D.plain] at e
  | n + 1, .tup ds, _, h, e => by
    cases h with
    | tup s r => exact .tup (same_sqT g s) (RepL.dp g n r (by simpa [D.plain] using e))
  | 0, .lst ds, _, h, e => by simp [D.plain] at e
  | n + 1, .lst ds, _, h, e => by
    cases h with
    | lst s r => exact .lst (sqL_of (same_rd g s)) (RepL.dp g n r (by simpa [D.plain] using e))
  | _, .cell i, _, h, e => by simp [D.plain] at e
  | _, .fn f, _, h, e => by simp [D.plain] at e
  | _, .exc c, _, h, e => by simp [D.plain] at e
theorem RepL.dp (g : Same G H) : ∀ (n : Nat) {ds : List D} {vs : List V}, RepL K A κ G vs ds → D.plainL n ds = true → DpAll K H vs (D.pyL ds)
  | _, [], _, h, _ => by cases h; exact .nil
  | n, d :: ds, _, h, e => by
    have e' : (d.plain n && D.plainL n ds) = true := by
      cases n <;> simpa [D.plainL] using e
    rw [Bool.and_eq_true] at e'
    cases h with
    | cons r rs => exact .cons (Rep.dp g n r e'.1) (RepL.dp g n rs e'.2)
end
end
mutual
theorem plain_shape : ∀ (n : Nat) (d : D), d.plain n = true → d.py.canLay0 = true ∧ d.py.depth ≤ n
  | _, .non, _ => by simp [D.py, PyData.canLay0, PyData.depth]
  | _, .bl b, _ => by simp [D.py, PyData.canLay0, PyData.depth]
  | _, .int b, _ => by simp [D.py, PyData.canLay0, PyData.depth]
  | _, .str b, e => by
    refine ⟨?_, by simp [D.py, PyData.depth]⟩
    simpa [D.py, PyData.canLay0, PyData.strOk, D.plain] using e
  | 0, .tup ds, e => by simp [D.plain] at e
  | n + 1, .tup ds, e => by
    obtain ⟨h1, h2⟩ := plain_shapeL n ds (by simpa [D.plain] using e)
    exact ⟨by simpa [D.py, PyData.canLay0] using h1, by simp only [D.py, PyData.depth]; omega⟩
  | 0, .lst ds, e => by simp [D.plain] at e
  | n + 1, .lst ds, e => by
    obtain ⟨h1, h2⟩ := plain_shapeL n ds (by simpa [D.plain] using e)
    exact ⟨by simpa [D.py, PyData.canLay0] using h1, by simp only [D.py, PyData.depth]; omega⟩
  | _, .cell i, e => by simp [D.plain] at e
  | _, .fn f, e => by simp [D.plain] at e
  | _, .exc c, e => by simp [D.plain] at e
theorem plain_shapeL : ∀ (n : Nat) (ds : List D), D.plainL n ds = true → PyData.canLayAll0 (D.pyL ds) = true ∧ PyData.depthAll (D.pyL ds) ≤ n
  | _, [], _ => by simp [D.pyL, PyData.canLayAll0, PyData.depthAll]
  | n, d :: ds, e => by
    have e' : (d.plain n && D.plainL n ds) = true := by
      cases n <;> simpa [D.plainL] using e
    rw [Bool.and_eq_true] at e'
    obtain ⟨h1, h2⟩ := plain_shape n d e'.1
    obtain ⟨h3, h4⟩ := plain_shapeL n ds e'.2
    refine ⟨?_, ?_⟩
    · simp only [D.pyL, PyData.canLayAll0, h1, h3, Bool.and_self]
    · simp only [D.pyL, PyData.depthAll]; omega
end
theorem plain_shaped {d : D} (h : d.plain 60 = true) : SeqAt.shaped d.py = true := by
  obtain ⟨h1, h2⟩ := plain_shape 60 d h
  unfold SeqAt.shaped
  rw [h1, Bool.true_and]
  exact decide_eq_true (by omega)
theorem pyL_map (xs : List D) : D.pyL xs = xs.map D.py := by
  induction xs with
  | nil => rfl
  | cons x xs ih => rw [D.pyL, ih]; rfl

/-! ### operators by values -/
section
variable {X : Cx} {A : Ad}
/-- in: z; out: w' -/
def rGive (K : PySem.W.Frag) (A : Ad) (κ : List Addr) (G H : Hp) (C : Cells) (z : D) (Q : VK) : Prop :=
  ∀ (G' : Hp) (H' : Hp) (w : V), Ext κ G H κ G' H' → SR K A κ G' H' C → Rep K A κ G' w z → Q w H'
def rBin (K : PySem.W.Frag) (A : Ad) (o : Bop) : R2 := fun v u H Q => ∃ κ G C x y z, SR K A κ G H C ∧ Rep K A κ G v x ∧ Rep K A κ G u y ∧ binop o x y C = some z ∧ rGive K A κ G H C z Q
def bopOf : Operator → Option Bop
  | .Add => some .add
  | .Sub => some .sub
  | .Mult => some .mul
  | .FloorDiv => some .fdiv
  | .Mod => some .mod
  | .Pow => some .pow
  | _ => none
theorem gInt {K : PySem.W.Frag} {A : Ad} {κ : List Addr} {G H : Hp} {C : Cells} {i : Int} {Q : VK} (g : rGive K A κ G H C (.int i) Q) (s : SR K A κ G H C) : Q (.int i) H := g G H _ (Ext.refl _ _ _) s (.int i)
theorem gLst {K : PySem.W.Frag} {A : Ad} {κ : List Addr} {G H : Hp} {C : Cells} {vs : List V} {xs : List D} {Q : VK} (g : rGive K A κ G H C (.lst xs) Q) (s : SR K A κ G H C) (r : RepL K A κ G vs xs) {p : Addr} (hp : H p = none) : Q (.ref p) (upd H p (.lst vs)) :=
  g _ _ _ (s.ext hp) (s.new hp) (.lst (.inl upd_same) (r.mono (Pre.refl _) (same_upd (s.free hp))))
theorem gTup {K : PySem.W.Frag} {A : Ad} {κ : List Addr} {G H : Hp} {C : Cells} {vs : List V} {xs : List D} {Q : VK} (g : rGive K A κ G H C (.tup xs) Q) (s : SR K A κ G H C) (r : RepL K A κ G vs xs) {p : Addr} (hp : H p = none) : Q (.ref p) (upd H p (.tup vs)) :=
  g _ _ _ (s.ext hp) (s.new hp) (.tup (.inl (.inl upd_same)) (r.mono (Pre.refl _) (same_upd (s.free hp))))

theorem mulOk {i j : Int} (h : bits i + bits j < 1000000 ∨ bits i < 63 ∨ bits j < 63) : IntMulOk i j := by
  have small : ∀ k : Int, bits k < 63 → -(2 ^ 64) < k ∧ k < 2 ^ 64 := fun k hk => by
    have : k.natAbs < 2 ^ 63 := by
      by_cases e : k.natAbs = 0
      · omega
      · exact (Nat.log2_lt e).mp hk
    omega
  rcases h with h | h | h
  · exact CMulW.ok h
  · exact CMul.ok (.inl (small i h))
  · exact CMul.ok (.inr (small j h))
theorem op_mulM : OpR X (binaryOp .Mult) (rI (fun i j => IntMulOk i j) fun i j => .int (i * j)) := opI fun _ _ _ _ _ _ _ hc q => mul_int q hc
theorem op_fdivM : OpR X (binaryOp .FloorDiv) (rI (fun _ j => j ≠ 0 ∧ bits j < 9000) fun i j => .int (i.fdiv j)) := opI fun _ _ _ _ _ _ _ hc q => floordiv_int hc.1 q (.inl (PyProof.noPylong_of_log2 hc.2))
/-- lists, tracked or known -/
theorem Inv.lstR {pins : List (Addr × Obj)} {σ : L2.St} {H : Hp} {s : Shared} {p : Addr} {xs : List V} (I : L2.Inv X pins σ H s) (h : Rd H p (.lst xs)) :
    xs.length ≤ sizeLine ∧ ∃ (its : List Value) (n : Nat), Vals xs its ∧ xs.length = its.length ∧ s.heap.get? p = some { cls := .type "list", data := .seq its.toArray n } := by
  obtain ⟨z, its, n, r, e⟩ := h.ok I.hok
  exact ⟨z, its, n, r, r.length, e⟩
theorem op_catR : OpR X (binaryOp .Add) (fun x y H Q => ∃ l b xs zs, x = .ref l ∧ y = .ref b ∧ Rd H l (.lst xs) ∧ Rd H b (.lst zs) ∧ xs.length + zs.length ≤ sizeLine ∧ ∀ p, H p = none → Q (.ref p) (upd H p (.lst (xs ++ zs)))) := by
  intro pins s σ H x y v u Q I rx ry h
  obtain ⟨l, b, xs, zs, rfl, rfl, hH, hB, hz, q⟩ := h
  cases rx
  cases ry
  obtain ⟨z, its, n, r, hl, e⟩ := Inv.lstR I hH
  obtain ⟨z2, its2, n2, r2, hl2, e2⟩ := Inv.lstR I hB
  refine PySem.P.add_list e e2 ?_ (by rw [List.size_toArray, List.size_toArray]; omega)
  have ea : its.toArray ++ its2.toArray = (its ++ its2).toArray := by simp
  rw [ea]
  exact ⟨.ref _, _, I.lnew (t' := s.toks) (r.append r2) (by rw [List.length_append]; omega), rfl, q _ I.fresh⟩
theorem op_repR : OpR X (binaryOp .Mult) (fun x y H Q => ∃ l k xs, x = .ref l ∧ y = .int k ∧ Rd H l (.lst xs) ∧ -(2 ^ 63) ≤ k ∧ k < 2 ^ 63 ∧ xs.length * k.toNat ≤ sizeLine ∧
  ∀ p, H p = none → Q (.ref p) (upd H p (.lst (List.replicate k.toNat xs).flatten))) := by
  intro pins s σ H x y v u Q I rx ry h
  obtain ⟨l, k, xs, rfl, rfl, hH, h1, h2, hz, q⟩ := h
  cases rx
  obtain ⟨t, rfl⟩ := ry
  obtain ⟨z, its, n, r, hl, e⟩ := Inv.lstR I hH
  have hlen : its.toArray.size * k.toNat ≤ sizeLine := by rw [List.size_toArray, ← hl]; exact hz
  have hcap : ¬ its.toArray.size * k.toNat > (2 ^ 63 - 1) / 8 := by
    have : (sizeLine : Nat) ≤ (2 ^ 63 - 1) / 8 := by decide
    omega
  have hfit : ¬ (!Builtin.List.listFitsIndex k) = true := by
    rw [fitsIndex_both h1 h2]
    exact Bool.false_ne_true
  have hlong : ¬ Builtin.List.listTooLong (its.toArray.size * k.toNat) = true := by
    rw [notLongL hlen]
    exact Bool.false_ne_true
  have hnew : List.foldl (fun x1 x2 => x1 ++ x2) #[] (List.replicate (if its.toArray.isEmpty = true then 0 else k.toNat) its.toArray) = (List.replicate k.toNat its).flatten.toArray := by
    have f0 : ∀ m : Nat, List.foldl (fun x1 x2 => x1 ++ x2) #[] (List.replicate m its.toArray) = (List.replicate m its).flatten.toArray := fun m => by
      have := foldl_rep its m []
      rw [List.nil_append] at this
      exact this
    rw [f0]
    cases its with
    | nil => simp
    | cons a r' => rw [if_neg (by simp)]
  refine wpAny_binaryOp_repeat_ref (T := "list") (U := "int") (by decide) ⟨_, e, rfl⟩ (fun s' => typeIs_int s' k t) noFill_list_mul F.fills_int_mul F.slot_int_rmul repeat_list F.slot_int_index.lookup
    (call_meets F.slot_int_rmul (typeIs_int s k t) F.entry_int_rmul (F.args_int_rmul_2 _ _) (int___rmul___int_list k t l its.toArray n)
      ⟨e, rfl, ⟨_, e, rfl⟩, call_meets F.slot_list_mul ⟨_, e, rfl⟩ F.entry_list_mul (F.args_list_mul_2 _ _) (AutoListH.list___mul___list_int_3 l its.toArray n k t hfit hcap hlong) ⟨e, ?_⟩⟩)
  rw [hnew]
  exact ⟨.ref _, _, I.lnew (t' := s.toks) (r.rep k.toNat) (by rw [PyProof.Rows.lm_len_rep_flat, Nat.mul_comm]; exact hz), rfl, q _ I.fresh⟩
theorem RepL.repeat {K : PySem.W.Frag} {κ : List Addr} {G : Hp} {vs : List V} {xs : List D} (r : RepL K A κ G vs xs) : ∀ k : Nat, RepL K A κ G (List.replicate k vs).flatten (repeatL k xs)
  | 0 => .nil
  | k + 1 => by
    have := RepL.repeat r k
    unfold repeatL at this ⊢
    rw [List.replicate_succ, List.replicate_succ, List.flatten_cons, List.flatten_cons]
    exact r.app this
theorem op_bin {op : Operator} {o : Bop} (ho : bopOf op = some o) : OpR X (binaryOp op) (rBin X.K A o) := by
  intro pins st σ H v u va ua Q I rv ru h
  obtain ⟨κ, G, C, x, y, z, s, rx, ry, e, g⟩ := h
  have hints : ∀ {i j : Int}, x.val C = .int i → y.val C = .int j → v = .int i ∧ u = .int j := fun {i j} e1 e2 => by
    have := val_int e1; subst this
    have := val_int e2; subst this
    cases rx; cases ry
    exact ⟨rfl, rfl⟩
  unfold binop at e
  split at e <;> try cases e
  · rename_i i j e1 e2
    obtain ⟨rfl, rfl⟩ := hints e1 e2
    cases op <;> simp [bopOf] at ho
    exact op_add pins st σ H _ _ _ _ Q I rv ru ⟨i, j, rfl, rfl, gInt g s⟩
  · rename_i i j e1 e2
    obtain ⟨rfl, rfl⟩ := hints e1 e2
    cases op <;> simp [bopOf] at ho
    exact op_sub pins st σ H _ _ _ _ Q I rv ru ⟨i, j, rfl, rfl, gInt g s⟩
  · rename_i i j e1 e2
    obtain ⟨rfl, rfl⟩ := hints e1 e2
    cases op <;> simp [bopOf] at ho
    split at e
    · rename_i hc
      cases e
      exact op_mulM pins st σ H _ _ _ _ Q I rv ru ⟨i, j, rfl, rfl, mulOk hc, gInt g s⟩
    · cases e
  · rename_i i j e1 e2
    obtain ⟨rfl, rfl⟩ := hints e1 e2
    cases op <;> simp [bopOf] at ho
    split at e
    · rename_i hc
      cases e
      exact op_fdivM pins st σ H _ _ _ _ Q I rv ru ⟨i, j, rfl, rfl, hc, gInt g s⟩
    · cases e
  · rename_i i j e1 e2
    obtain ⟨rfl, rfl⟩ := hints e1 e2
    cases op <;> simp [bopOf] at ho
    split at e
    · rename_i hc
      cases e
      exact op_modN pins st σ H _ _ _ _ Q I rv ru ⟨i, j, rfl, rfl, hc, gInt g s⟩
    · cases e
  · rename_i i j e1 e2
    obtain ⟨rfl, rfl⟩ := hints e1 e2
    cases op <;> simp [bopOf] at ho
    split at e
    · rename_i hc
      cases e
      refine op_pow pins st σ H _ _ _ _ Q I rv ru ⟨i, j, rfl, rfl, ⟨hc.1, hc.2.1, ?_⟩, gInt g s⟩
      have h3 := hc.2.2
      by_cases e0 : i.natAbs = 0
      · rw [e0]; decide
      · exact Nat.lt_trans ((Nat.log2_lt e0).mp h3) (by decide)
    · cases e
  · rename_i xs ys e1 e2
    cases op <;> simp [bopOf] at ho
    split at e
    · rename_i hc
      cases e
      obtain ⟨a, vs, rfl, q1, r1⟩ := rx.seqL s e1
      obtain ⟨b, us, rfl, q2, r2⟩ := ry.seqL s e2
      have hsl := sizeLine_eq
      exact op_catR pins st σ H _ _ _ _ Q I rv ru ⟨a, b, vs, us, rfl, rfl, q1, q2, by rw [r1.length, r2.length, hsl]; exact hc, fun p hp => gLst g s (r1.app r2) hp⟩
    · cases e
  · rename_i xs ys e1 e2
    cases op <;> simp [bopOf] at ho
    split at e
    · rename_i hc
      cases e
      have := val_tup e1; subst this
      have := val_tup e2; subst this
      obtain ⟨a, vs, rfl, q1, r1⟩ := rx.seqT s
      obtain ⟨b, us, rfl, q2, r2⟩ := ry.seqT s
      have hsl := sizeLine_eq
      refine op_catT pins st σ H _ _ _ _ Q I rv ru ⟨a, b, vs, us, rfl, rfl, q1, q2, fun z => ?_, by rw [r1.length, r2.length, hsl]; exact hc.2, fun z => ?_, fun _ p hp => gTup g s (r1.app r2) hp⟩
      · subst z
        cases r1; exact hc.1 rfl
      · subst z
        cases r2
        exact g G H _ (Ext.refl _ _ _) s (by rw [List.append_nil]; exact rx)
    · cases e
  · rename_i xs k e1 e2
    cases op <;> simp [bopOf] at ho
    split at e
    · rename_i hc
      cases e
      have := val_int e2; subst this
      cases ry
      obtain ⟨a, vs, rfl, q1, r1⟩ := rx.seqL s e1
      have hsl := sizeLine_eq
      exact op_repR pins st σ H _ _ _ _ Q I rv ru ⟨a, k, vs, rfl, rfl, q1, hc.1, hc.2.1, by rw [r1.length, hsl]; exact hc.2.2, fun p hp => gLst g s (r1.repeat _) hp⟩
    · cases e
end
end ML

set_option maxHeartbeats 1000000
/-! Comparisons, subscripts, built-ins by values. -/
namespace ML
open PySem PySem.Spec PyProof.Rows L2
section
variable {X : Cx} {A : Ad}
theorem Rep.dpV {K : PySem.W.Frag} {κ : List Addr} {G H : Hp} {C : Cells} {v : V} {x : D} (r : Rep K A κ G v x) (s : SR K A κ G H C) (n : Nat) (hp : (x.val C).plain n = true) : Dp K H v (x.val C).py := by
  cases x with
  | cell i =>
    cases e : C[i]? with
    | none => simp [D.val, e, D.plain] at hp
    | some xs =>
      have ev : (D.cell i).val C = .lst xs := by simp only [D.val, e]
      obtain ⟨a, vs, rfl, q, rl⟩ := r.seqL s ev
      rw [ev] at hp ⊢
      cases n with
      | zero => simp [D.plain] at hp
      | succ n => exact .lst (sqL_of q) (RepL.dp s.sub n rl (by simpa [D.plain] using hp))
  | _ => exact Rep.dp s.sub n r hp
def copOf : CmpOp → Option Cop
  | .Lt => some .lt
  | .LtE => some .le
  | .Gt => some .gt
  | .GtE => some .ge
  | .Eq => some .eq
  | .NotEq => some .ne
  | .In => some .inn
  | .NotIn => some .nin
  | _ => none
def rCmp (K : PySem.W.Frag) (A : Ad) (o : Cop) : R2 := fun v u H Q => ∃ κ G C x y b, SR K A κ G H C ∧ Rep K A κ G v x ∧ Rep K A κ G u y ∧ cmpop o x y C = some b ∧ Q (.bl b) H
theorem deq_some {C : Cells} {x y : D} {b : Bool} (h : deq C x y = some b) : (x.val C).plain 60 = true ∧ (y.val C).plain 60 = true ∧ b = PyData.eqv (x.val C).py (y.val C).py := by
  unfold deq at h
  split at h
  · rename_i hc
    rw [Bool.and_eq_true] at hc
    cases h
    exact ⟨hc.1, hc.2, rfl⟩
  · cases h
theorem din_some {C : Cells} {x : D} {xs : List D} {b : Bool} (h : din C x xs = some b) : x.plain 60 = true ∧ D.plainL 60 xs = true ∧ b = xs.any fun z => PyData.eqv z.py x.py := by
  unfold din at h
  split at h
  · rename_i hc
    rw [Bool.and_eq_true] at hc
    cases h
    exact ⟨hc.1, hc.2, rfl⟩
  · cases h
theorem any_py (x : PyData) : ∀ xs : List D, ((D.pyL xs).any fun z => PyData.eqv z x) = xs.any fun z => PyData.eqv z.py x
  | [] => rfl
  | y :: ys => by rw [D.pyL, List.any_cons, List.any_cons, any_py x ys]
theorem in_d {o : Bool} (hu : X.A.units + 66 < cLine) {pins : List (Addr × Obj)} {st : Shared} {σ : L2.St} {H : Hp} {v u : V} {va ua : Value} {Q : VK} (I : L2.Inv X pins σ H st) (rv : L2.RelV v va) (ru : L2.RelV u ua) {d : PyData} {xs : List PyData} {a : Addr} {vs : List V}
    (hd : Dp X.K H v d) (sd : SeqAt.shaped d = true) (e : u = .ref a) (hq : Rd H a (.lst vs) ∨ SqT X.K H a vs) (hx : DpAll X.K H vs xs) (sx : SeqAt.shaped (.list xs) = true)
    (q : Q (.bl (if o then xs.any (fun z => PyData.eqv z d) else !xs.any (fun z => PyData.eqv z d))) H) :
    wpAny (model X.prog X.w) X.A (compareOp (if o then .In else .NotIn) va ua) (EP X pins σ Q) X.xe st := by
  subst e
  rcases hq with hq | hq
  · have he : Dp X.K H (.ref a) (.list xs) := .lst (sqL_of hq) hx
    cases o with
    | true => exact op_inD (by omega) pins st σ H _ _ _ _ Q I rv ru ⟨d, xs, hd, he, sd, sx, q⟩
    | false => exact op_notInD (by omega) pins st σ H _ _ _ _ Q I rv ru ⟨d, xs, hd, he, sd, sx, q⟩
  · have he : Dp X.K H (.ref a) (.tuple xs) := .tup hq hx
    obtain ⟨as, r1⟩ := Dp.reads I d v va hd rv
    obtain ⟨bs, r2⟩ := Dp.reads I (.tuple xs) (.ref a) ua he ru
    have hc : PyData.canLayAll0 xs = true := SeqAt.canLay_of_shaped sx
    have hroom : X.A.units + 1 + min (PyData.depthAll xs) d.depth < cLine := room_in_shaped sd (by omega)
    cases o with
    | true => exact SeqAt.in_tuple_reads r2 r1 hc (SeqAt.canLay_of_shaped sd) hroom ⟨.bl _, H, I, rfl, q⟩
    | false => exact SeqAt.notIn_tuple_reads r2 r1 hc (SeqAt.canLay_of_shaped sd) hroom ⟨.bl _, H, I, rfl, q⟩
theorem op_cmpD {op : CmpOp} {o : Cop} (ho : copOf op = some o) (hu : X.A.units + 66 < cLine) : OpR X (compareOp op) (rCmp X.K A o) := by
  intro pins st σ H v u va ua Q I rv ru h
  obtain ⟨κ, G, C, x, y, b, s, rx, ry, e, q⟩ := h
  have inn : ∀ {c : Bool} {xs : List D} {k : Bool}, y.items C = some xs → din C x xs = some k → Q (.bl (if c then k else !k)) H →
      wpAny (model X.prog X.w) X.A (compareOp (if c then .In else .NotIn) va ua) (EP X pins σ Q) X.xe st := fun {c xs k} e1 e2 q => by
    obtain ⟨p1, p2, rfl⟩ := din_some e2
    obtain ⟨a, vs, e3, hq, rl⟩ := ry.itemsE s e1
    have sx : SeqAt.shaped (.list (D.pyL xs)) = true := by
      obtain ⟨h1, h2⟩ := plain_shapeL 60 xs p2
      unfold SeqAt.shaped
      rw [show (PyData.list (D.pyL xs)).canLay0 = true from by simpa [PyData.canLay0] using h1, Bool.true_and]
      exact decide_eq_true (by simp only [PyData.depth]; omega)
    refine in_d (o := c) hu I rv ru (rx.dp s.sub 60 p1) (plain_shaped p1) e3 hq (RepL.dp s.sub 60 rl p2) sx ?_
    rw [any_py]; exact q
  cases op <;> simp [copOf] at ho <;> subst ho <;> simp only [cmpop] at e
  · obtain ⟨p1, p2, rfl⟩ := deq_some e
    exact op_eqD (by omega) pins st σ H _ _ _ _ Q I rv ru ⟨_, _, rx.dpV s 60 p1, ry.dpV s 60 p2, plain_shaped p1, plain_shaped p2, q⟩
  · cases hd : deq C x y with
    | none => rw [hd] at e; cases e
    | some k =>
      rw [hd] at e; cases e
      obtain ⟨p1, p2, rfl⟩ := deq_some hd
      exact op_neD (by omega) pins st σ H _ _ _ _ Q I rv ru ⟨_, _, rx.dpV s 60 p1, ry.dpV s 60 p2, plain_shaped p1, plain_shaped p2, q⟩
  · cases rx <;> cases ry <;> simp only [reduceCtorEq, Option.some.injEq] at e
    subst e
    exact op_lt pins st σ H _ _ _ _ Q I rv ru ⟨_, _, rfl, rfl, q⟩
  · cases rx <;> cases ry <;> simp only [reduceCtorEq, Option.some.injEq] at e
    subst e
    exact op_le pins st σ H _ _ _ _ Q I rv ru ⟨_, _, rfl, rfl, q⟩
  · cases rx <;> cases ry <;> simp only [reduceCtorEq, Option.some.injEq] at e
    subst e
    exact op_gt pins st σ H _ _ _ _ Q I rv ru ⟨_, _, rfl, rfl, q⟩
  · cases rx <;> cases ry <;> simp only [reduceCtorEq, Option.some.injEq] at e
    subst e
    exact op_ge pins st σ H _ _ _ _ Q I rv ru ⟨_, _, rfl, rfl, q⟩
  · cases hi : y.items C with
    | none => rw [hi] at e; cases e
    | some xs =>
      rw [hi] at e
      exact inn (c := true) hi e q
  · cases hi : y.items C with
    | none => rw [hi] at e; cases e
    | some xs =>
      rw [hi] at e
      simp only [Option.map_eq_some_iff] at e
      obtain ⟨k, e1, rfl⟩ := e
      exact inn (c := false) hi e1 q

/-- is None, True, False -/
def rIs (K : PySem.W.Frag) (A : Ad) (n : Bool) (d : D) : R2 := fun v u H Q => ∃ κ G x b, Rep K A κ G v x ∧ Rep K A κ G u d ∧ isop d x = some b ∧ Q (.bl (if n then !b else b)) H
theorem op_isD (n : Bool) (d : D) : OpR X (compareOp (if n then .IsNot else .Is)) (rIs X.K A n d) := by
  intro pins st σ H v u va ua Q I rv ru h
  obtain ⟨κ, G, x, b, rx, rd, e, q⟩ := h
  cases d with
  | non =>
    cases rd
    have hb : b = decide (v = .non) := by
      cases rx <;> simp [isop] at e <;> subst e <;> simp
    subst hb
    cases n with
    | true => exact op_notN pins st σ H _ _ _ _ Q I rv ru ⟨rfl, q⟩
    | false => exact op_isN pins st σ H _ _ _ _ Q I rv ru ⟨rfl, q⟩
  | bl k =>
    cases rd
    cases rx with
    | bl c =>
      simp only [isop, Option.some.injEq] at e
      have hb : b = decide (c = k) := by rw [← e]; cases c <;> cases k <;> rfl
      subst hb
      cases n with
      | true => exact op_notBl pins st σ H _ _ _ _ Q I rv ru ⟨c, k, rfl, rfl, q⟩
      | false => exact op_isBl pins st σ H _ _ _ _ Q I rv ru ⟨c, k, rfl, rfl, q⟩
    | non =>
      simp only [isop, Option.some.injEq] at e
      subst e
      cases (show va = Value.none from rv)
      cases (show ua = Value.bool k from ru)
      cases n with
      | true => exact wpAny_isNot_other rfl (fun z => by cases z) ⟨.bl true, H, I, rfl, q⟩
      | false => exact wpAny_is_other rfl (fun z => by cases z) ⟨.bl false, H, I, rfl, q⟩
    | _ => simp [isop] at e
  | _ => simp [isop] at e

/-- subscripts -/
def rIdx (K : PySem.W.Frag) (A : Ad) : R2 := fun v u H Q => ∃ κ G C x y z, SR K A κ G H C ∧ Rep K A κ G v x ∧ Rep K A κ G u y ∧ idxop x y C = some z ∧ ∀ w, Rep K A κ G w z → Q w H
theorem ix_d : IxR X (rIdx X.K A) := by
  intro value slice pins st σ H v u va ua Q I rv ru h hs
  obtain ⟨κ, G, C, x, y, z, s, rx, ry, e, q⟩ := h
  cases ry with
  | int i =>
    simp only [idxop] at e
    cases hi : x.items C with
    | none =>
      rw [hi] at e
      cases rx with
      | str t =>
        simp only [sidx] at e
        split at e
        · rename_i hz
          simp only [Option.bind_eq_some_iff, Option.map_eq_some_iff] at e
          obtain ⟨j, e1, c, e2, rfl⟩ := e
          have at_ : atI t.cps.toList i = some c := by
            unfold atI
            rw [show ixN t.cps.toList.length i = some j from e1]
            exact e2
          exact ix_str value slice pins st σ H _ _ _ _ Q I rv ru ⟨t, i, c, rfl, rfl, by rw [sizeLine_eq]; exact hz, at_, q _ (.str _)⟩ hs
        · cases e
      | _ => simp [sidx] at e
    | some xs =>
      rw [hi] at e
      obtain ⟨a, vs, rfl, hq, rl⟩ := rx.itemsE s hi
      simp only [Option.bind_eq_some_iff] at e
      obtain ⟨j, e1, e2⟩ := e
      obtain ⟨w, hw, rw'⟩ := rl.get e2
      have at_ : atI vs i = some w := by
        unfold atI
        rw [rl.length, show ixN xs.length i = some j from e1]
        exact hw
      rcases hq with hq | hq
      · exact ix_list value slice pins st σ H _ _ _ _ Q I rv ru ⟨a, vs, i, w, rfl, rfl, sqL_of hq, at_, q w rw'⟩ hs
      · exact ix_tup value slice pins st σ H _ _ _ _ Q I rv ru ⟨a, vs, i, w, rfl, rfl, hq, at_, q w rw'⟩ hs
  | _ => simp [idxop] at e
def rSl (K : PySem.W.Frag) (A : Ad) : V → Option Int → Option Int → Hp → VK → Prop := fun v lo hi H Q => ∃ κ G C x z, SR K A κ G H C ∧ Rep K A κ G v x ∧ slop x lo hi C = some z ∧ rGive K A κ G H C z Q
theorem sl_d : SlR X (rSl X.K A) := by
  intro pins st σ H v va vl vu lo hi sl Q I rv hs pl pu h
  obtain ⟨κ, G, C, x, z, s, rx, e, g⟩ := h
  unfold slop at e
  split at e
  · rename_i xs ev
    cases e
    obtain ⟨a, vs, rfl, q, rl⟩ := rx.seqL s ev
    refine sl_list pins st σ H _ va vl vu lo hi sl Q I rv hs pl pu ⟨a, vs, rfl, sqL_of q, fun p hp => ?_⟩
    refine gLst g s ?_ hp
    unfold cutV cut
    rw [rl.length]
    exact (rl.drop _).take _
  · rename_i xs ev
    split at e
    · cases e
    · rename_i hw
      cases e
      have := val_tup ev; subst this
      obtain ⟨a, vs, rfl, q, rl⟩ := rx.seqT s
      refine sl_tup pins st σ H _ va vl vu lo hi sl Q I rv hs pl pu ⟨a, vs, rfl, q, ?_, fun p hp => ?_⟩
      · rw [rl.length]; exact hw
      · refine gTup g s ?_ hp
        unfold cutV cut
        rw [rl.length]
        exact (rl.drop _).take _
  · cases e

/-! built-in functions -/
theorem perm_insI (x : Int) : ∀ l : List Int, (insI x l).Perm (x :: l)
  | [] => .refl _
  | y :: ys => by
    unfold insI
    split
    · exact .refl _
    · exact (List.Perm.cons y (perm_insI x ys)).trans (.swap x y ys)
theorem perm_sortI : ∀ l : List Int, (sortI l).Perm l
  | [] => .refl _
  | x :: xs => (perm_insI x _).trans (.cons x (perm_sortI xs))
theorem sorted_insI (x : Int) : ∀ l : List Int, l.Pairwise (· ≤ ·) → (insI x l).Pairwise (· ≤ ·)
  | [], _ => by simp [insI]
  | y :: ys, h => by
    unfold insI
    split
    · rename_i hxy
      refine List.pairwise_cons.mpr ⟨fun z hz => ?_, h⟩
      rcases List.mem_cons.mp hz with rfl | hz
      · exact hxy
      · exact Int.le_trans hxy ((List.pairwise_cons.mp h).1 z hz)
    · rename_i hxy
      obtain ⟨h1, h2⟩ := List.pairwise_cons.mp h
      refine List.pairwise_cons.mpr ⟨fun z hz => ?_, sorted_insI x ys h2⟩
      rcases List.mem_cons.mp ((perm_insI x ys).mem_iff.mp hz) with rfl | hz
      · omega
      · exact h1 z hz
theorem sorted_sortI : ∀ l : List Int, (sortI l).Pairwise (· ≤ ·)
  | [] => .nil
  | x :: xs => sorted_insI x _ (sorted_sortI xs)
theorem maxI_spec : ∀ (m : Int) (l : List Int), maxI m l ∈ m :: l ∧ m ≤ maxI m l ∧ ∀ y ∈ l, y ≤ maxI m l
  | m, [] => by simp [maxI]
  | m, x :: xs => by
    unfold maxI
    by_cases hx : x > m
    · rw [if_pos hx]
      obtain ⟨h1, h2, h3⟩ := maxI_spec x xs
      refine ⟨List.mem_cons_of_mem _ h1, by omega, fun y hy => ?_⟩
      rcases List.mem_cons.mp hy with rfl | hy
      · exact h2
      · exact h3 y hy
    · rw [if_neg hx]
      obtain ⟨h1, h2, h3⟩ := maxI_spec m xs
      refine ⟨?_, h2, fun y hy => ?_⟩
      · rcases List.mem_cons.mp h1 with h | h
        · rw [h]; simp
        · simp [h]
      · rcases List.mem_cons.mp hy with rfl | hy
        · omega
        · exact h3 y hy
theorem minI_spec : ∀ (m : Int) (l : List Int), minI m l ∈ m :: l ∧ minI m l ≤ m ∧ ∀ y ∈ l, minI m l ≤ y
  | m, [] => by simp [minI]
  | m, x :: xs => by
    unfold minI
    by_cases hx : x < m
    · rw [if_pos hx]
      obtain ⟨h1, h2, h3⟩ := minI_spec x xs
      refine ⟨List.mem_cons_of_mem _ h1, by omega, fun y hy => ?_⟩
      rcases List.mem_cons.mp hy with rfl | hy
      · exact h2
      · exact h3 y hy
    · rw [if_neg hx]
      obtain ⟨h1, h2, h3⟩ := minI_spec m xs
      refine ⟨?_, h2, fun y hy => ?_⟩
      · rcases List.mem_cons.mp h1 with h | h
        · rw [h]; simp
        · simp [h]
      · rcases List.mem_cons.mp hy with rfl | hy
        · omega
        · exact h3 y hy
def rBlt (K : PySem.W.Frag) (A : Ad) (b : Bf) : List V → Hp → VK → Prop := fun vs H Q => ∃ κ G C xs z, SR K A κ G H C ∧ RepL K A κ G vs xs ∧ blt b xs C = some z ∧ rGive K A κ G H C z Q
def bfVal : Bf → Value
  | .abs => .builtin "abs"
  | .len => .builtin "len"
  | .max => .builtin "max"
  | .min => .builtin "min"
  | .int => .type "int"
  | .all => .builtin "all"
  | .any => .builtin "any"
  | .sum => .builtin "sum"
  | .sorted => .builtin "sorted"
  | .list => .type "list"
  | .tuple => .type "tuple"
theorem RepL.one {K : PySem.W.Frag} {κ : List Addr} {G : Hp} {vs : List V} {x : D} (h : RepL K A κ G vs [x]) : ∃ v, vs = [v] ∧ Rep K A κ G v x := by
  cases h with
  | cons r t => cases t; exact ⟨_, rfl, r⟩
theorem RepL.two {K : PySem.W.Frag} {κ : List Addr} {G : Hp} {vs : List V} {x y : D} (h : RepL K A κ G vs [x, y]) : ∃ v u, vs = [v, u] ∧ Rep K A κ G v x ∧ Rep K A κ G u y := by
  cases h with
  | cons r t => obtain ⟨u, rfl, r2⟩ := RepL.one t; exact ⟨_, u, rfl, r, r2⟩
theorem call_blt (hc : X.calm = true) (b : Bf) : CallR X (bfVal b) (rBlt X.K A b) := by
  intro pins st σ H vs us Q I r h
  obtain ⟨κ, G, C, xs, z, s, rl, e, g⟩ := h
  have lists : ∀ {x : D} {v : V} {ns : List Int}, Rep X.K A κ G v x → isList x = true → (x.items C).bind intsD = some ns → ∃ a, v = .ref a ∧ SqL X.K H a (ns.map V.int) := fun {x v ns} rx hl e => by
    simp only [Option.bind_eq_some_iff] at e
    obtain ⟨ys, e1, e2⟩ := e
    obtain ⟨a, vs, rfl, q, rl⟩ := rx.listE s hl e1
    exact ⟨a, rfl, by rw [← rl.ints e2]; exact sqL_of q⟩
  have blists : ∀ {x : D} {v : V} {ns : List Bool}, Rep X.K A κ G v x → isList x = true → (x.items C).bind boolsD = some ns → ∃ a, v = .ref a ∧ SqL X.K H a (ns.map V.bl) := fun {x v ns} rx hl e => by
    simp only [Option.bind_eq_some_iff] at e
    obtain ⟨ys, e1, e2⟩ := e
    obtain ⟨a, vs, rfl, q, rl⟩ := rx.listE s hl e1
    exact ⟨a, rfl, by rw [← rl.bools e2]; exact sqL_of q⟩
  have seqs : ∀ {x : D} {v : V} {ys : List D}, Rep X.K A κ G v x → x.items C = some ys → ∃ a ws, v = .ref a ∧ (SqL X.K H a ws ∨ SqT X.K H a ws) ∧ RepL X.K A κ G ws ys := fun {x v ys} rx e => by
    obtain ⟨a, ws, e1, q, r⟩ := rx.itemsE s e
    exact ⟨a, ws, e1, q.imp sqL_of id, r⟩
  unfold blt at e
  split at e <;> try cases e
  · obtain ⟨v, rfl, rx⟩ := rl.one
    cases rx
    exact call_abs pins st σ H _ _ Q I r ⟨_, rfl, gInt g s⟩
  · obtain ⟨v, rfl, rx⟩ := rl.one
    cases rx
    exact call_int1 pins st σ H _ _ Q I r (.inl ⟨_, rfl, gInt g s⟩)
  · obtain ⟨v, rfl, rx⟩ := rl.one
    cases rx
    exact call_int1 pins st σ H _ _ Q I r (.inr ⟨_, rfl, gInt g s⟩)
  · obtain ⟨v, rfl, rx⟩ := rl.one
    simp only [Option.map_eq_some_iff] at e
    obtain ⟨ys, e1, rfl⟩ := e
    obtain ⟨a, ws, rfl, q, rw'⟩ := seqs rx e1
    refine call_len_seq pins st σ H _ _ Q I r ⟨a, ws, rfl, q, ?_⟩
    rw [rw'.length]; exact gInt g s
  · obtain ⟨v, u, rfl, rx, ry⟩ := rl.two
    cases rx; cases ry
    exact call_max2 hc pins st σ H _ _ Q I r ⟨_, _, rfl, gInt g s⟩
  · obtain ⟨v, u, rfl, rx, ry⟩ := rl.two
    cases rx; cases ry
    exact call_min2 hc pins st σ H _ _ Q I r ⟨_, _, rfl, gInt g s⟩
  · obtain ⟨v, rfl, rx⟩ := rl.one
    split at e
    · rename_i hl
      rw [Option.bind_eq_some_iff] at e
      obtain ⟨ns, e1, e2⟩ := e
      obtain ⟨a, rfl, q⟩ := lists rx hl e1
      cases ns with
      | nil => cases e2
      | cons n ns =>
        cases e2
        refine cr_max hc pins st σ H _ _ Q I r ⟨a, n :: ns, rfl, q, by simp, fun m hm hle => ?_⟩
        obtain ⟨h1, h2, h3⟩ := maxI_spec n ns
        have : m = maxI n ns := by
          have a1 := hle _ h1
          rcases List.mem_cons.mp hm with rfl | hm
          · omega
          · have := h3 m hm; omega
        rw [this]; exact gInt g s
    · cases e
  · obtain ⟨v, rfl, rx⟩ := rl.one
    split at e
    · rename_i hl
      rw [Option.bind_eq_some_iff] at e
      obtain ⟨ns, e1, e2⟩ := e
      obtain ⟨a, rfl, q⟩ := lists rx hl e1
      cases ns with
      | nil => cases e2
      | cons n ns =>
        cases e2
        refine cr_min hc pins st σ H _ _ Q I r ⟨a, n :: ns, rfl, q, by simp, fun m hm hle => ?_⟩
        obtain ⟨h1, h2, h3⟩ := minI_spec n ns
        have : m = minI n ns := by
          have a1 := hle _ h1
          rcases List.mem_cons.mp hm with rfl | hm
          · omega
          · have := h3 m hm; omega
        rw [this]; exact gInt g s
    · cases e
  · obtain ⟨v, rfl, rx⟩ := rl.one
    split at e
    · rename_i hl
      simp only [Option.map_eq_some_iff] at e
      obtain ⟨ns, e1, rfl⟩ := e
      obtain ⟨a, rfl, q⟩ := lists rx hl e1
      exact cr_sum hc pins st σ H _ _ Q I r ⟨a, ns, rfl, q, gInt g s⟩
    · cases e
  · obtain ⟨v, rfl, rx⟩ := rl.one
    split at e
    · rename_i hl
      simp only [Option.map_eq_some_iff] at e
      obtain ⟨ns, e1, rfl⟩ := e
      obtain ⟨a, rfl, q⟩ := blists rx hl e1
      exact cr_all hc pins st σ H _ _ Q I r ⟨a, ns, rfl, q, g G H _ (Ext.refl _ _ _) s (.bl _)⟩
    · cases e
  · obtain ⟨v, rfl, rx⟩ := rl.one
    split at e
    · rename_i hl
      simp only [Option.map_eq_some_iff] at e
      obtain ⟨ns, e1, rfl⟩ := e
      obtain ⟨a, rfl, q⟩ := blists rx hl e1
      exact cr_any hc pins st σ H _ _ Q I r ⟨a, ns, rfl, q, g G H _ (Ext.refl _ _ _) s (.bl _)⟩
    · cases e
  · obtain ⟨v, rfl, rx⟩ := rl.one
    split at e
    · rename_i hl
      simp only [Option.map_eq_some_iff] at e
      obtain ⟨ns, e1, rfl⟩ := e
      obtain ⟨a, rfl, q⟩ := lists rx hl e1
      refine cr_sortedI pins st σ H _ _ Q I r ⟨a, ns, rfl, q, fun ns' p hp ho hn => ?_⟩
      have : ns' = sortI ns := List.Perm.eq_of_pairwise (le := (· ≤ ·)) (fun a b _ _ h1 h2 => Int.le_antisymm h1 h2) ho (sorted_sortI ns) (hp.trans (perm_sortI ns).symm)
      rw [this]
      exact gLst g s (RepL.ofInts _) hn
    · cases e
  · obtain ⟨v, rfl, rx⟩ := rl.one
    simp only [Option.map_eq_some_iff] at e
    obtain ⟨ys, e1, rfl⟩ := e
    obtain ⟨a, ws, rfl, q, rw'⟩ := seqs rx e1
    exact call_list_of pins st σ H _ _ Q I r ⟨a, ws, rfl, q, fun p hp => gLst g s rw' hp⟩
  · obtain ⟨v, rfl, rx⟩ := rl.one
    simp only [Option.map_eq_some_iff] at e
    obtain ⟨ys, e1, rfl⟩ := e
    obtain ⟨a, ws, e2, q, rw'⟩ := rx.itemsE s e1
    subst e2
    refine call_tuple_of pins st σ H _ _ Q I r ⟨a, ws, rfl, ?_⟩
    rcases q with q | q
    · exact .inl ⟨sqL_of q, fun p hp => gTup g s rw' hp⟩
    · refine .inr ⟨q, ?_⟩
      cases rx with
      | tup q' r' =>
        simp only [D.items, Option.some.injEq] at e1; subst e1
        exact g G H _ (Ext.refl _ _ _) s (.tup q' r')
      | lst q' r' => 
        exfalso
        obtain ⟨its, _, ⟨o, n, e3, e4, _⟩, _⟩ := I.list (sqL_of (K := X.K) (same_rd s.sub q'))
        obtain ⟨its2, _, ⟨o2, e5, e6, _⟩, _⟩ := I.tuple q
        rw [e3] at e5; cases e5
        rw [e4] at e6
        exact absurd e6 (by decide +kernel)
      | fn _ => simp [D.items] at e1
      | @cell i _ ec =>
        exfalso
        have e1' : C[i]? = some ys := e1
        obtain ⟨_, _, vs', hv, _⟩ := s.cell i a ys ec e1'
        obtain ⟨its, _, ⟨o, n, e3, e4, _⟩, _⟩ := I.list (sqL_of (K := X.K) (.inl hv))
        obtain ⟨its2, _, ⟨o2, e5, e6, _⟩, _⟩ := I.tuple q
        rw [e3] at e5; cases e5
        rw [e4] at e6
        exact absurd e6 (by decide +kernel)
end
end ML

set_option maxHeartbeats 1000000
/-! Readings of expressions by the evaluator: one lemma a construct. -/
namespace ML
open PySem PySem.Spec PyProof.Rows L2

section
variable (K : PySem.W.Frag) (A : Ad) (W : WX)
def TEv (ev : Env → Cells → R D) : TE := fun σ H Q => ∃ κ G C ρ, SR K A κ G H C ∧ ER K A κ G σ ρ ∧ Fin K A W κ G H σ (ev ρ C) (fun κ' G' C' d H' => ∀ v, Rep K A κ' G' v d → Q v H')
def TTv (ev : Env → Cells → R D) : TT := fun σ H Q => ∃ κ G C ρ, SR K A κ G H C ∧ ER K A κ G σ ρ ∧ Fin K A W κ G H σ ((ev ρ C).bind fun x C => R.of (truth C x) C) (fun κ' G' C' b H' => Q b H')
def TAv (ev : Env → Cells → R (List D)) : TA := fun σ H Q => ∃ κ G C ρ, SR K A κ G H C ∧ ER K A κ G σ ρ ∧ Fin K A W κ G H σ (ev ρ C) (fun κ' G' C' ds H' => ∀ vs, RepL K A κ' G' vs ds → Q vs H')
def TOv (ev : Env → Cells → R (Option Int)) : TO := fun σ H Q => ∃ κ G C ρ, SR K A κ G H C ∧ ER K A κ G σ ρ ∧ Fin K A W κ G H σ (ev ρ C) (fun κ' G' C' o H' => Q o H')
end

theorem PEimp {X : Cx} {e : Expr} {t t' : TE} (h : PE X e t) (k : ∀ σ H Q, t' σ H Q → t σ H Q) : PE X e t' := ⟨fun pins s σ H Q I q => h.run pins s σ H Q I (k σ H Q q)⟩
theorem PTimp {X : Cx} {e : Expr} {t t' : TT} (h : PT X e t) (k : ∀ σ H Q, t' σ H Q → t σ H Q) : PT X e t' := ⟨fun pins s σ H Q I q => h.run pins s σ H Q I (k σ H Q q)⟩
theorem PWimp {X : Cx} {e : Expr} {t t' : TT} (h : PW X e t) (k : ∀ σ H Q, t' σ H Q → t σ H Q) : PW X e t' := ⟨fun wh pins s σ H Q I q => h.run wh pins s σ H Q I (k σ H Q q)⟩
theorem PAimp {X : Cx} {es : List Expr} {t t' : TA} (h : PA X es t) (k : ∀ σ H Q, t' σ H Q → t σ H Q) : PA X es t' := ⟨fun p pins s σ H Q I q => h.run p pins s σ H Q I (k σ H Q q)⟩
theorem PKimp {X : Cx} {es : List Keyword} {t t' : TA} (h : PK X es t) (k : ∀ σ H Q, t' σ H Q → t σ H Q) : PK X es t' := ⟨fun p pins s σ H Q I q => h.run p pins s σ H Q I (k σ H Q q)⟩
theorem POimp {X : Cx} {e : Option Expr} {t t' : TO} (h : PO X e t) (k : ∀ σ H Q, t' σ H Q → t σ H Q) : PO X e t' := ⟨fun pins s σ H Q I q => h.run pins s σ H Q I (k σ H Q q)⟩
theorem PIimp {X : Cx} {tg e : Expr} {t t' : TI} (h : PI X tg e t) (k : ∀ σ H R, t' σ H R → t σ H R) : PI X tg e t' := ⟨fun pins s σ H R I q => h.run pins s σ H R I (k σ H R q)⟩
theorem PGimp {X : Cx} {e : Expr} {t t' : TG} (h : PG X e t) (k : ∀ v σ H Q, t' v σ H Q → t v σ H Q) : PG X e t' := ⟨fun pins s σ H v u Q I r q => h.run pins s σ H v u Q I r (k v σ H Q q)⟩
theorem PSimp {X : Cx} {e : Stmt} {t t' : TS} (h : PS X e t) (k : ∀ D σ H, t' D σ H → t D σ H) : PS X e t' := ⟨fun pins s σ H D I q => h.run pins s σ H D I (k D σ H q)⟩
theorem PSsimp {X : Cx} {e : List Stmt} {t t' : TS} (h : PSs X e t) (k : ∀ D σ H, t' D σ H → t D σ H) : PSs X e t' := ⟨fun pins s σ H D I q => h.run pins s σ H D I (k D σ H q)⟩

section
variable {X : Cx} {A : Ad} {W : WX} {T : Tab} {d : Nat} {pos : Pos}
abbrev ev (T : Tab) (d : Nat) (m : E) : Env → Cells → R D := evE T.glob (callF T d) m
abbrev SE (T : Tab) (A : Ad) (d : Nat) (W : WX) (X : Cx) (e : Expr) (m : E) : Prop := PE X e (TEv X.K A W (ev T d m))
abbrev ST (T : Tab) (A : Ad) (d : Nat) (W : WX) (X : Cx) (e : Expr) (m : E) : Prop := PT X e (TTv X.K A W (ev T d m))
abbrev SA (T : Tab) (A : Ad) (d : Nat) (W : WX) (X : Cx) (es : List Expr) (ms : Es) : Prop := PA X es (TAv X.K A W (evEs T.glob (callF T d) ms))
abbrev SO (T : Tab) (A : Ad) (d : Nat) (W : WX) (X : Cx) (es : Option Expr) (ms : OE) : Prop := PO X es (TOv X.K A W (evOE T.glob (callF T d) ms))

/-- one more step of a reading -/
theorem TEv.step {f : Env → Cells → R D} {σ : L2.St} {H : Hp} {β : Type} {Q : VK} {κ : List Addr} {G : Hp} {C : Cells} {ρ : Env} {k : D → Cells → R β} {P : List Addr → Hp → Cells → β → Hp → Prop} (s : SR X.K A κ G H C) (e : ER X.K A κ G σ ρ)
    (h : Fin X.K A W κ G H σ ((f ρ C).bind k) P)
    (hk : ∀ (κ' : List Addr) (G' : Hp) (C' : Cells) (x : D) (H' : Hp) (v : V), Ext κ G H κ' G' H' → SR X.K A κ' G' H' C' → ER X.K A κ' G' σ ρ → Rep X.K A κ' G' v x → Fin X.K A W κ' G' H' σ (k x C') P → Q v H') : TEv X.K A W f σ H Q :=
  ⟨κ, G, C, ρ, s, e, h.bind.mono fun κ' G' C' x H' hk' s' f' v r => hk κ' G' C' x H' v hk' s' (e.mono hk'.pre hk'.same) r f'⟩
theorem TAv.step {f : Env → Cells → R (List D)} {σ : L2.St} {H : Hp} {β : Type} {Q : List V → Hp → Prop} {κ : List Addr} {G : Hp} {C : Cells} {ρ : Env} {k : List D → Cells → R β} {P : List Addr → Hp → Cells → β → Hp → Prop} (s : SR X.K A κ G H C) (e : ER X.K A κ G σ ρ)
    (h : Fin X.K A W κ G H σ ((f ρ C).bind k) P)
    (hk : ∀ (κ' : List Addr) (G' : Hp) (C' : Cells) (x : List D) (H' : Hp) (v : List V), Ext κ G H κ' G' H' → SR X.K A κ' G' H' C' → ER X.K A κ' G' σ ρ → RepL X.K A κ' G' v x → Fin X.K A W κ' G' H' σ (k x C') P → Q v H') : TAv X.K A W f σ H Q :=
  ⟨κ, G, C, ρ, s, e, h.bind.mono fun κ' G' C' x H' hk' s' f' v r => hk κ' G' C' x H' v hk' s' (e.mono hk'.pre hk'.same) r f'⟩
theorem TOv.step {f : Env → Cells → R (Option Int)} {σ : L2.St} {H : Hp} {β : Type} {Q : Option Int → Hp → Prop} {κ : List Addr} {G : Hp} {C : Cells} {ρ : Env} {k : Option Int → Cells → R β} {P : List Addr → Hp → Cells → β → Hp → Prop} (s : SR X.K A κ G H C) (e : ER X.K A κ G σ ρ)
    (h : Fin X.K A W κ G H σ ((f ρ C).bind k) P)
    (hk : ∀ (κ' : List Addr) (G' : Hp) (C' : Cells) (x : Option Int) (H' : Hp), Ext κ G H κ' G' H' → SR X.K A κ' G' H' C' → ER X.K A κ' G' σ ρ → Fin X.K A W κ' G' H' σ (k x C') P → Q x H') : TOv X.K A W f σ H Q :=
  ⟨κ, G, C, ρ, s, e, h.bind.mono fun κ' G' C' x H' hk' s' f' => hk κ' G' C' x H' hk' s' (e.mono hk'.pre hk'.same) f'⟩
theorem TTv.step {f : Env → Cells → R D} {σ : L2.St} {H : Hp} {β : Type} {Q : Bool → Hp → Prop} {κ : List Addr} {G : Hp} {C : Cells} {ρ : Env} {k : Bool → Cells → R β} {P : List Addr → Hp → Cells → β → Hp → Prop} (s : SR X.K A κ G H C) (e : ER X.K A κ G σ ρ)
    (h : Fin X.K A W κ G H σ (((f ρ C).bind fun x C => R.of (truth C x) C).bind k) P)
    (hk : ∀ (κ' : List Addr) (G' : Hp) (C' : Cells) (b : Bool) (H' : Hp), Ext κ G H κ' G' H' → SR X.K A κ' G' H' C' → ER X.K A κ' G' σ ρ → Fin X.K A W κ' G' H' σ (k b C') P → Q b H') : TTv X.K A W f σ H Q :=
  ⟨κ, G, C, ρ, s, e, h.bind.mono fun κ' G' C' x H' hk' s' f' => hk κ' G' C' x H' hk' s' (e.mono hk'.pre hk'.same) f'⟩
theorem bind_assoc {α β γ : Type} (r : R α) (f : α → Cells → R β) (g : β → Cells → R γ) : (r.bind f).bind g = r.bind fun a C => (f a C).bind g := by cases r <;> rfl
theorem give_of {κ : List Addr} {G H : Hp} {C : Cells} {σ : L2.St} {z : D} {Q : VK} (f : Fin X.K A W κ G H σ (.ok z C) (fun κ' G' C' d H' => ∀ v, Rep X.K A κ' G' v d → Q v H')) : rGive X.K A κ G H C z Q :=
  fun G' H' w g s r => f κ G' H' g s w r
/-- the truth of a value -/
theorem truth_ok {κ : List Addr} {G H : Hp} {C : Cells} {v : V} {x : D} {b : Bool} (s : SR X.K A κ G H C) (r : Rep X.K A κ G v x) (e : truth C x = some b) : TruV X.K v H b := by
  cases r with
  | non => simp only [truth, Option.some.injEq] at e; exact e.symm
  | bl k => simp only [truth, Option.some.injEq] at e; exact e.symm
  | int i => simp only [truth, Option.some.injEq] at e; exact e.symm
  | str x => simp [truth] at e
  | tup q rl =>
    simp only [truth, Option.some.injEq] at e
    exact .inr (.inl ⟨_, same_sqT s.sub q, by rw [rl.isEmpty]; exact e.symm⟩)
  | lst q rl =>
    simp only [truth, Option.some.injEq] at e
    exact .inl ⟨_, sqL_of (same_rd s.sub q), by rw [rl.isEmpty]; exact e.symm⟩
  | @cell i a ec =>
    simp only [truth, Option.map_eq_some_iff] at e
    obtain ⟨xs, e1, rfl⟩ := e
    obtain ⟨_, _, vs, hv, rl⟩ := s.cell i a xs ec e1
    exact .inl ⟨vs, sqL_of (.inl hv), by rw [rl.isEmpty]⟩
  | fn _ => simp [truth] at e

theorem se_var {i : Nat} {x : Str} (hN : X.N[i]? = some x) (hv : Vis X.env.scope x) (hd : (x == ("__debug__" : Str)) = false) (hcd : (x == ("__classdict__" : Str)) = false) : SE T A d W X (.Name x pos) (.var i) := by
  refine PEimp (pe_var hN hv hd hcd) fun σ H Q ⟨κ, G, C, ρ, s, e, f⟩ => ?_
  simp only [ev, evE] at f
  split at f
  · rename_i d' hd'
    obtain ⟨v, e1, r⟩ := e.at_ i d' hd'
    exact ⟨v, e1, f.ok s v r⟩
  · exact f.elim
theorem se_lit_int {i : Int} {j : Nat} : SE T A d W X (.Constant (.int i) j pos) (.lit (.int i)) :=
  PEimp pe_int fun σ H Q ⟨κ, G, C, ρ, s, e, f⟩ => by simp only [ev, evE] at f; exact f.ok s _ (.int i)
theorem se_lit_bl {i : Bool} {j : Nat} : SE T A d W X (.Constant (.bool i) j pos) (.lit (.bl i)) :=
  PEimp pe_bl fun σ H Q ⟨κ, G, C, ρ, s, e, f⟩ => by simp only [ev, evE] at f; exact f.ok s _ (.bl i)
theorem se_lit_non {j : Nat} : SE T A d W X (.Constant .none j pos) (.lit .non) :=
  PEimp pe_non fun σ H Q ⟨κ, G, C, ρ, s, e, f⟩ => by simp only [ev, evE] at f; exact f.ok s _ .non
theorem se_lit_str {i : Str} {j : Nat} : SE T A d W X (.Constant (.str i) j pos) (.lit (.str i)) :=
  PEimp pe_str fun σ H Q ⟨κ, G, C, ρ, s, e, f⟩ => by simp only [ev, evE] at f; exact f.ok s _ (.str i)
/-- a name of the module -/
theorem pe_glb {x : Str} {v : V} (hg : Gl X x) (h : ∃ u, X.mg x = some u ∧ L2.RelV v u) (hd : (x == ("__debug__" : Str)) = false) : PE X (.Name x pos) (tC v) := by
  obtain ⟨u, hm, r⟩ := h
  exact ⟨fun pins s σ H Q I q => ld_glob I hg hm ⟨v, H, I, r, q⟩ hd⟩
theorem se_glob {x : Str} {g : Nat} {v : V} {z : D} (hg : Gl X x) (h : ∃ u, X.mg x = some u ∧ L2.RelV v u) (hd : (x == ("__debug__" : Str)) = false) (hz : T.glob g = some z) (r : ∀ κ G, Rep X.K A κ G v z) : SE T A d W X (.Name x pos) (.glob g) :=
  PEimp (pe_glb hg h hd) fun σ H Q ⟨κ, G, C, ρ, s, e, f⟩ => by
    simp only [ev, evE, hz, R.of_some] at f
    exact f.ok s _ (r κ G)
theorem se_bin {a b : Expr} {ma mb : E} {op : Operator} {o : Bop} (ho : bopOf op = some o) (ha : SE T A d W X a ma) (hb : SE T A d W X b mb) : SE T A d W X (.BinOp a op b pos) (.bin o ma mb) := by
  refine PEimp (pe_op (op_bin (A := A) ho) ha hb) fun σ H Q ⟨κ, G, C, ρ, s, e, f⟩ => ?_
  simp only [ev, evE] at f
  refine TEv.step s e f fun κ1 G1 C1 x H1 v x1 s1 e1 r1 f1 => ?_
  refine TEv.step s1 e1 f1 fun κ2 G2 C2 y H2 u x2 s2 e2 r2 f2 => ?_
  obtain ⟨z, hz, f3⟩ := f2.of
  exact ⟨κ2, G2, C2, x, y, z, s2, r1.mono x2.pre x2.same, r2, hz, give_of (H := H2) f3⟩
theorem se_neg {a : Expr} {ma : E} (ha : SE T A d W X a ma) : SE T A d W X (.UnaryOp .USub a pos) (.neg ma) := by
  refine PEimp (pe_un un_neg ha) fun σ H Q ⟨κ, G, C, ρ, s, e, f⟩ => ?_
  simp only [ev, evE] at f
  refine TEv.step s e f fun κ1 G1 C1 x H1 v x1 s1 e1 r1 f1 => ?_
  cases r1 with
  | int i => exact ⟨i, rfl, f1.ok s1 _ (.int _)⟩
  | _ => exact f1.elim
theorem se_not {a : Expr} {ma : E} (ha : SE T A d W X a ma) : SE T A d W X (.UnaryOp .Not a pos) (.not ma) := by
  refine PEimp (pe_notT ha) fun σ H Q ⟨κ, G, C, ρ, s, e, f⟩ => ?_
  simp only [ev, evE] at f
  refine TEv.step s e f fun κ1 G1 C1 x H1 v x1 s1 e1 r1 f1 => ?_
  obtain ⟨b, hb, f2⟩ := f1.ofB
  exact ⟨b, truth_ok s1 r1 hb, f2.ok s1 _ (.bl _)⟩
theorem se_and {a b : Expr} {rest : List Expr} {ma mb : E} (ha : SE T A d W X a ma) (hb : SE T A d W X (.BoolOp .And (b :: rest) pos) mb) : SE T A d W X (.BoolOp .And (a :: b :: rest) pos) (.and ma mb) := by
  refine PEimp (pe_andT ha hb) fun σ H Q ⟨κ, G, C, ρ, s, e, f⟩ => ?_
  simp only [ev, evE] at f
  refine TEv.step s e f fun κ1 G1 C1 x H1 v x1 s1 e1 r1 f1 => ?_
  obtain ⟨k, hk, f2⟩ := f1.ofB
  refine ⟨k, truth_ok s1 r1 hk, ?_⟩
  cases k with
  | true => rw [if_pos rfl] at f2 ⊢; exact ⟨κ1, G1, C1, ρ, s1, e1, f2⟩
  | false => rw [if_neg Bool.false_ne_true] at f2 ⊢; exact f2.ok s1 v r1
theorem se_or {a b : Expr} {rest : List Expr} {ma mb : E} (ha : SE T A d W X a ma) (hb : SE T A d W X (.BoolOp .Or (b :: rest) pos) mb) : SE T A d W X (.BoolOp .Or (a :: b :: rest) pos) (.or ma mb) := by
  refine PEimp (pe_orT ha hb) fun σ H Q ⟨κ, G, C, ρ, s, e, f⟩ => ?_
  simp only [ev, evE] at f
  refine TEv.step s e f fun κ1 G1 C1 x H1 v x1 s1 e1 r1 f1 => ?_
  obtain ⟨k, hk, f2⟩ := f1.ofB
  refine ⟨k, truth_ok s1 r1 hk, ?_⟩
  cases k with
  | false => rw [if_neg Bool.false_ne_true] at f2 ⊢; exact ⟨κ1, G1, C1, ρ, s1, e1, f2⟩
  | true => rw [if_pos rfl] at f2 ⊢; exact f2.ok s1 v r1
theorem se_one {a : Expr} {ma : E} {op : BoolOp} (ha : SE T A d W X a ma) : SE T A d W X (.BoolOp op [a] pos) ma := pe_one ha
theorem se_cmp {a b : Expr} {ma mb : E} {op : CmpOp} {o : Cop} (ho : copOf op = some o) (hu : X.A.units + 66 < cLine) (hm : behindInMarks op b = false) (ha : SE T A d W X a ma) (hb : SE T A d W X b mb) : SE T A d W X (.Compare a [op] [b] pos) (.cmp o ma mb) := by
  refine PEimp (pe_cmpR (op_cmpD (A := A) ho hu) ha hb hm) fun σ H Q ⟨κ, G, C, ρ, s, e, f⟩ => ?_
  simp only [ev, evE] at f
  refine TEv.step s e f fun κ1 G1 C1 x H1 v x1 s1 e1 r1 f1 => ?_
  refine TEv.step s1 e1 f1 fun κ2 G2 C2 y H2 u x2 s2 e2 r2 f2 => ?_
  obtain ⟨b', hb', f3⟩ := f2.ofB
  exact ⟨κ2, G2, C2, x, y, b', s2, r1.mono x2.pre x2.same, r2, hb', f3.ok s2 _ (.bl _)⟩
theorem st_cmp {a b : Expr} {ma mb : E} {op : CmpOp} {o : Cop} (ho : copOf op = some o) (hu : X.A.units + 66 < cLine) (hm : behindInMarks op b = false) (ha : SE T A d W X a ma) (hb : SE T A d W X b mb) : ST T A d W X (.Compare a [op] [b] pos) (.cmp o ma mb) := by
  refine PTimp (pt_cmpR (op_cmpD (A := A) ho hu) ha hb hm) fun σ H Q ⟨κ, G, C, ρ, s, e, f⟩ => ?_
  simp only [ev, evE, bind_assoc] at f
  refine TEv.step s e f fun κ1 G1 C1 x H1 v x1 s1 e1 r1 f1 => ?_
  refine TEv.step s1 e1 f1 fun κ2 G2 C2 y H2 u x2 s2 e2 r2 f2 => ?_
  obtain ⟨b', hb', f3⟩ := f2.ofB
  exact ⟨κ2, G2, C2, x, y, b', s2, r1.mono x2.pre x2.same, r2, hb', b', rfl, f3.ok s2⟩
theorem se_chain {a b c : Expr} {ma mb mc : E} {op op' : CmpOp} {o o' : Cop} (ho : copOf op = some o) (ho' : copOf op' = some o') (hu : X.A.units + 66 < cLine) (hm : lastMarks [op, op'] [b, c] = false) (ha : SE T A d W X a ma) (hb : SE T A d W X b mb) (hc : SE T A d W X c mc) :
    SE T A d W X (.Compare a [op, op'] [b, c] pos) (.chain o o' ma mb mc) := by
  refine PEimp (pe_chain (op_cmpD (A := A) ho hu) (op_cmpD (A := A) ho' hu) ha hb hc hm) fun σ H Q ⟨κ, G, C, ρ, s, e, f⟩ => ?_
  simp only [ev, evE] at f
  refine TEv.step s e f fun κ1 G1 C1 x H1 v x1 s1 e1 r1 f1 => ?_
  refine TEv.step s1 e1 f1 fun κ2 G2 C2 y H2 u x2 s2 e2 r2 f2 => ?_
  obtain ⟨k, hk, f3⟩ := f2.ofB
  refine ⟨κ2, G2, C2, x, y, k, s2, r1.mono x2.pre x2.same, r2, hk, k, rfl, ?_⟩
  cases k with
  | true =>
    rw [if_pos rfl] at f3 ⊢
    refine TEv.step s2 e2 f3 fun κ3 G3 C3 z H3 w x3 s3 e3 r3 f4 => ?_
    obtain ⟨b', hb', f5⟩ := f4.ofB
    exact ⟨κ3, G3, C3, y, z, b', s3, r2.mono x3.pre x3.same, r3, hb', f5.ok s3 _ (.bl _)⟩
  | false => rw [if_neg Bool.false_ne_true] at f3 ⊢; exact f3.ok s2 _ (.bl _)
theorem st_chain {a b c : Expr} {ma mb mc : E} {op op' : CmpOp} {o o' : Cop} (ho : copOf op = some o) (ho' : copOf op' = some o') (hu : X.A.units + 66 < cLine) (hm : lastMarks [op, op'] [b, c] = false) (ha : SE T A d W X a ma) (hb : SE T A d W X b mb) (hc : SE T A d W X c mc) :
    ST T A d W X (.Compare a [op, op'] [b, c] pos) (.chain o o' ma mb mc) := by
  refine PTimp (pt_chain (op_cmpD (A := A) ho hu) (op_cmpD (A := A) ho' hu) ha hb hc hm) fun σ H Q ⟨κ, G, C, ρ, s, e, f⟩ => ?_
  simp only [ev, evE, bind_assoc] at f
  refine TEv.step s e f fun κ1 G1 C1 x H1 v x1 s1 e1 r1 f1 => ?_
  refine TEv.step s1 e1 f1 fun κ2 G2 C2 y H2 u x2 s2 e2 r2 f2 => ?_
  obtain ⟨k, hk, f3⟩ := f2.ofB
  refine ⟨κ2, G2, C2, x, y, k, s2, r1.mono x2.pre x2.same, r2, hk, k, rfl, ?_⟩
  cases k with
  | true =>
    simp only [if_true, bind_assoc] at f3
    rw [if_pos rfl]
    refine TEv.step s2 e2 f3 fun κ3 G3 C3 z H3 w x3 s3 e3 r3 f4 => ?_
    obtain ⟨b', hb', f5⟩ := f4.ofB
    exact ⟨κ3, G3, C3, y, z, b', s3, r2.mono x3.pre x3.same, r3, hb', b', rfl, f5.ok s3⟩
  | false => rw [if_neg Bool.false_ne_true] at f3 ⊢; exact ⟨false, rfl, f3.ok s2⟩
theorem se_isC {a b : Expr} {ma : E} {n : Bool} {z : D} {v : V} (hm : behindInMarks (if n then .IsNot else .Is) b = false) (ha : SE T A d W X a ma) (hb : PE X b (tC v)) (hz : ∀ κ G, Rep X.K A κ G v z) : SE T A d W X (.Compare a [if n then .IsNot else .Is] [b] pos) (.isC n ma z) := by
  refine PEimp (pe_cmpR (op_isD (A := A) n z) ha hb hm) fun σ H Q ⟨κ, G, C, ρ, s, e, f⟩ => ?_
  simp only [ev, evE] at f
  refine TEv.step s e f fun κ1 G1 C1 x H1 u x1 s1 e1 r1 f1 => ?_
  obtain ⟨b', hb', f2⟩ := f1.ofB
  exact ⟨κ1, G1, x, b', r1, hz _ _, hb', f2.ok s1 _ (.bl _)⟩
theorem st_isC {a b : Expr} {ma : E} {n : Bool} {z : D} {v : V} (hm : behindInMarks (if n then .IsNot else .Is) b = false) (ha : SE T A d W X a ma) (hb : PE X b (tC v)) (hz : ∀ κ G, Rep X.K A κ G v z) : ST T A d W X (.Compare a [if n then .IsNot else .Is] [b] pos) (.isC n ma z) := by
  refine PTimp (pt_cmpR (op_isD (A := A) n z) ha hb hm) fun σ H Q ⟨κ, G, C, ρ, s, e, f⟩ => ?_
  simp only [ev, evE, bind_assoc] at f
  refine TEv.step s e f fun κ1 G1 C1 x H1 u x1 s1 e1 r1 f1 => ?_
  obtain ⟨b', hb', f2⟩ := f1.ofB
  exact ⟨κ1, G1, x, b', r1, hz _ _, hb', _, rfl, f2.ok s1⟩
theorem se_ite {c a b : Expr} {mc ma mb : E} (hc : ST T A d W X c mc) (ha : SE T A d W X a ma) (hb : SE T A d W X b mb) : SE T A d W X (.IfExp c a b pos) (.ite mc ma mb) := by
  refine PEimp (pe_ifExp hc ha hb) fun σ H Q ⟨κ, G, C, ρ, s, e, f⟩ => ?_
  simp only [ev, evE] at f
  rw [← bind_assoc] at f
  refine TTv.step s e f fun κ1 G1 C1 k H1 x1 s1 e1 f1 => ?_
  cases k with
  | true => rw [if_pos rfl] at f1 ⊢; exact ⟨κ1, G1, C1, ρ, s1, e1, f1⟩
  | false => rw [if_neg Bool.false_ne_true] at f1 ⊢; exact ⟨κ1, G1, C1, ρ, s1, e1, f1⟩
/-- tests -/
theorem st_val {a : Expr} {ma : E} (ha : SE T A d W X a ma) (he : ∀ whole, PySem.isTrue a X.env whole = (do let v ← whole; standAt a.pos; holding [v] (truthy v))) : ST T A d W X a ma := by
  refine PTimp (pt_truth ha he) fun σ H Q ⟨κ, G, C, ρ, s, e, f⟩ => ?_
  refine TEv.step s e f fun κ1 G1 C1 x H1 v x1 s1 e1 r1 f1 => ?_
  obtain ⟨b', hb', f2⟩ := f1.of
  exact ⟨b', truth_ok s1 r1 hb', f2.ok s1⟩
theorem st_not {a : Expr} {ma : E} (ha : ST T A d W X a ma) : ST T A d W X (.UnaryOp .Not a pos) (.not ma) := by
  refine PTimp (pt_not ha) fun σ H Q ⟨κ, G, C, ρ, s, e, f⟩ => ?_
  simp only [ev, evE] at f
  rw [← bind_assoc, bind_assoc] at f
  refine TTv.step s e f fun κ1 G1 C1 k H1 x1 s1 e1 f1 => ?_
  exact f1.ok s1
abbrev SW (T : Tab) (A : Ad) (d : Nat) (W : WX) (X : Cx) (e : Expr) (m : E) : Prop := PW X e (TTv X.K A W (ev T d m))
theorem sw_and1 {a : Expr} {ma : E} (ha : ST T A d W X a ma) : SW T A d W X (.BoolOp .And [a] pos) ma := pw_and1 ha
theorem sw_or1 {a : Expr} {ma : E} (ha : ST T A d W X a ma) : SW T A d W X (.BoolOp .Or [a] pos) ma := pw_or1 ha
theorem sw_and {a b : Expr} {rest : List Expr} {ma mb : E} (ha : ST T A d W X a ma) (hb : SW T A d W X (.BoolOp .And (b :: rest) pos) mb) : SW T A d W X (.BoolOp .And (a :: b :: rest) pos) (.and ma mb) := by
  refine PWimp (pw_and ha hb) fun σ H Q ⟨κ, G, C, ρ, s, e, f⟩ => ?_
  refine ⟨κ, G, C, ρ, s, e, ?_⟩
  simp only [ev, evE] at f ⊢
  cases hx : evE T.glob (callF T d) ma ρ C with
  | ok x C1 =>
    rw [hx] at f
    simp only [R.bind_ok] at f ⊢
    cases ht : truth C1 x with
    | none => rw [ht] at f; exact f
    | some k =>
      rw [ht] at f
      simp only [R.of_some, R.bind_ok] at f ⊢
      intro κ1 G1 H1 x1 s1
      cases k with
      | true =>
        rw [if_pos rfl] at f ⊢
        exact ⟨κ1, G1, C1, ρ, s1, e.mono x1.pre x1.same, f.later x1⟩
      | false =>
        rw [if_neg Bool.false_ne_true] at f ⊢
        simp only [R.bind_ok, ht, R.of_some] at f
        exact f κ1 G1 H1 x1 s1
  | exc c x C1 => rw [hx] at f; exact f
  | stuck => rw [hx] at f; exact f
theorem sw_or {a b : Expr} {rest : List Expr} {ma mb : E} (ha : ST T A d W X a ma) (hb : SW T A d W X (.BoolOp .Or (b :: rest) pos) mb) : SW T A d W X (.BoolOp .Or (a :: b :: rest) pos) (.or ma mb) := by
  refine PWimp (pw_or ha hb) fun σ H Q ⟨κ, G, C, ρ, s, e, f⟩ => ?_
  refine ⟨κ, G, C, ρ, s, e, ?_⟩
  simp only [ev, evE] at f ⊢
  cases hx : evE T.glob (callF T d) ma ρ C with
  | ok x C1 =>
    rw [hx] at f
    simp only [R.bind_ok] at f ⊢
    cases ht : truth C1 x with
    | none => rw [ht] at f; exact f
    | some k =>
      rw [ht] at f
      simp only [R.of_some, R.bind_ok] at f ⊢
      intro κ1 G1 H1 x1 s1
      cases k with
      | false =>
        rw [if_neg Bool.false_ne_true] at f ⊢
        exact ⟨κ1, G1, C1, ρ, s1, e.mono x1.pre x1.same, f.later x1⟩
      | true =>
        rw [if_pos rfl] at f ⊢
        simp only [R.bind_ok, ht, R.of_some] at f
        exact f κ1 G1 H1 x1 s1
  | exc c x C1 => rw [hx] at f; exact f
  | stuck => rw [hx] at f; exact f
/-- arguments -/
theorem sa_nil : SA T A d W X [] .nil := by
  refine PAimp pa_nil fun σ H Q ⟨κ, G, C, ρ, s, e, f⟩ => ?_
  simp only [evEs] at f
  exact f.ok s _ .nil
theorem sa_cons {a : Expr} {es : List Expr} {ma : E} {ms : Es} (hs : starEach (a :: es) X.env = (false, eval a X.env) :: starEach es X.env) (ha : SE T A d W X a ma) (hb : SA T A d W X es ms) : SA T A d W X (a :: es) (.cons ma ms) := by
  refine PAimp (pa_cons ha hb hs) fun σ H Q ⟨κ, G, C, ρ, s, e, f⟩ => ?_
  simp only [evEs] at f
  refine TEv.step s e f fun κ1 G1 C1 x H1 v x1 s1 e1 r1 f1 => ?_
  refine TAv.step s1 e1 f1 fun κ2 G2 C2 xs H2 vs x2 s2 e2 r2 f2 => ?_
  exact f2.ok s2 _ (.cons (r1.mono x2.pre x2.same) r2)
def Es.len : Es → Nat
  | .nil => 0
  | .cons _ r => r.len + 1
theorem bind_okE {α β : Type} {r : R α} {f : α → Cells → R β} {b : β} {C' : Cells} (h : r.bind f = .ok b C') : ∃ a C, r = .ok a C ∧ f a C = .ok b C' := by
  cases r with
  | ok a C => exact ⟨a, C, rfl, h⟩
  | exc c x C => cases h
  | stuck => cases h
theorem evEs_len {gl : Nat → Option D} {cf : Nat → List D → Cells → R D} : ∀ {ms : Es} {ρ : Env} {C : Cells} {xs : List D} {C' : Cells}, evEs gl cf ms ρ C = .ok xs C' → xs.length = ms.len
  | .nil, _, _, xs, _, h => by simp only [evEs] at h; cases h; rfl
  | .cons e r, _, _, xs, _, h => by
    simp only [evEs] at h
    obtain ⟨x, C1, h1, h2⟩ := bind_okE h
    obtain ⟨ys, C2, h3, h4⟩ := bind_okE h2
    cases h4
    rw [List.length_cons, evEs_len h3]; rfl
/-- arguments, their number known -/
theorem TAv.stepL {ms : Es} {σ : L2.St} {H : Hp} {β : Type} {Q : List V → Hp → Prop} {κ : List Addr} {G : Hp} {C : Cells} {ρ : Env} {k : List D → Cells → R β} {P : List Addr → Hp → Cells → β → Hp → Prop} (s : SR X.K A κ G H C) (e : ER X.K A κ G σ ρ)
    (h : Fin X.K A W κ G H σ ((evEs T.glob (callF T d) ms ρ C).bind k) P)
    (hk : ∀ (κ' : List Addr) (G' : Hp) (C' : Cells) (x : List D) (H' : Hp) (v : List V), x.length = ms.len → Ext κ G H κ' G' H' → SR X.K A κ' G' H' C' → ER X.K A κ' G' σ ρ → RepL X.K A κ' G' v x → Fin X.K A W κ' G' H' σ (k x C') P → Q v H') : TAv X.K A W (evEs T.glob (callF T d) ms) σ H Q := by
  refine ⟨κ, G, C, ρ, s, e, ?_⟩
  cases hx : evEs T.glob (callF T d) ms ρ C with
  | ok xs C1 =>
    rw [hx] at h
    intro κ' G' H' k' s' v r
    exact hk κ' G' C1 xs H' v (evEs_len hx) k' s' (e.mono k'.pre k'.same) r (h.later k')
  | exc c x C1 => rw [hx] at h; exact h
  | stuck => rw [hx] at h; exact h
theorem se_tup {es : List Expr} {ms : Es} {k : Nat} (hl : ms.len ≤ 1000) (h : SA T A d W X es ms) : SE T A d W X (.Tuple es k pos) (.tup ms) := by
  refine PEimp (pe_tup h) fun σ H Q ⟨κ, G, C, ρ, s, e, f⟩ => ?_
  simp only [ev, evE] at f
  refine TAv.stepL s e f fun κ1 G1 C1 xs H1 vs hn x1 s1 e1 r1 f1 => ⟨?_, fun p hp => gTup (give_of (H := H1) f1) s1 r1 hp⟩
  rw [r1.length, hn, sizeLine_eq]; omega
theorem se_lst {es : List Expr} {ms : Es} (hl : ms.len ≤ 1000) (h : SA T A d W X es ms) : SE T A d W X (.List es pos) (.lst ms) := by
  refine PEimp (pe_lst h) fun σ H Q ⟨κ, G, C, ρ, s, e, f⟩ => ?_
  simp only [ev, evE] at f
  refine TAv.stepL s e f fun κ1 G1 C1 xs H1 vs hn x1 s1 e1 r1 f1 => ⟨?_, fun p hp => gLst (give_of (H := H1) f1) s1 r1 hp⟩
  rw [r1.length, hn, sizeLine_eq]; omega
theorem se_idx {a b : Expr} {ma mb : E} (hs : PlainIx b) (ha : SE T A d W X a ma) (hb : SE T A d W X b mb) : SE T A d W X (.Subscript a b pos) (.idx ma mb) := by
  refine PEimp (pe_ix (ix_d (A := A)) ha hb hs) fun σ H Q ⟨κ, G, C, ρ, s, e, f⟩ => ?_
  simp only [ev, evE] at f
  refine TEv.step s e f fun κ1 G1 C1 x H1 v x1 s1 e1 r1 f1 => ?_
  refine TEv.step s1 e1 f1 fun κ2 G2 C2 y H2 u x2 s2 e2 r2 f2 => ?_
  obtain ⟨z, hz, f3⟩ := f2.of
  exact ⟨κ2, G2, C2, x, y, z, s2, r1.mono x2.pre x2.same, r2, hz, f3.ok s2⟩
theorem so_none : SO T A d W X none .none := by
  refine POimp po_none fun σ H Q ⟨κ, G, C, ρ, s, e, f⟩ => ?_
  simp only [evOE] at f
  exact f.ok s
theorem so_some {a : Expr} {ma : E} (ha : SE T A d W X a ma) : SO T A d W X (some a) (.some ma) := by
  refine POimp (po_some ha) fun σ H Q ⟨κ, G, C, ρ, s, e, f⟩ => ?_
  simp only [evOE] at f
  refine TEv.step s e f fun κ1 G1 C1 x H1 v x1 s1 e1 r1 f1 => ?_
  cases r1 with
  | int i => exact ⟨i, rfl, f1.ok s1⟩
  | _ => exact f1.elim
theorem se_sl {a : Expr} {lo hi : Option Expr} {ma : E} {ml mh : OE} {p2 : Pos} (ha : SE T A d W X a ma) (hl : SO T A d W X lo ml) (hh : SO T A d W X hi mh) : SE T A d W X (.Subscript a (.Slice lo hi none p2) pos) (.sl ma ml mh) := by
  refine PEimp (pe_slice (sl_d (A := A)) ha hl hh) fun σ H Q ⟨κ, G, C, ρ, s, e, f⟩ => ?_
  simp only [ev, evE] at f
  refine TEv.step s e f fun κ1 G1 C1 x H1 v x1 s1 e1 r1 f1 => ?_
  refine TOv.step s1 e1 f1 fun κ2 G2 C2 l H2 x2 s2 e2 f2 => ?_
  refine TOv.step s2 e2 f2 fun κ3 G3 C3 h H3 x3 s3 e3 f3 => ?_
  obtain ⟨z, hz, f4⟩ := f3.of
  exact ⟨κ3, G3, C3, x, z, s3, (r1.mono x2.pre x2.same).mono x3.pre x3.same, hz, give_of (H := H3) f4⟩
theorem se_rev {a : Expr} {ma : E} {k : Nat} {p1 p2 p3 : Pos} (ha : SE T A d W X a ma) : SE T A d W X (.Subscript a (.Slice none none (some (.UnaryOp .USub (.Constant (.int 1) k p1) p2)) p3) pos) (.rev ma) := by
  refine PEimp (pe_revL ha) fun σ H Q ⟨κ, G, C, ρ, s, e, f⟩ => ?_
  simp only [ev, evE] at f
  refine TEv.step s e f fun κ1 G1 C1 x H1 v x1 s1 e1 r1 f1 => ?_
  split at f1
  · rename_i xs hx
    obtain ⟨a, vs, rfl, q, rl⟩ := r1.seqL s1 hx
    exact ⟨a, vs, rfl, sqL_of q, fun p hp => gLst (give_of (H := H1) f1) s1 rl.rev hp⟩
  · exact f1.elim
/-- built-in functions -/
theorem se_bf {x : Str} {p : Pos} {a : Expr} {es : List Expr} {ms : Es} {b : Bf} (hc : X.calm = true) (hg : Gl X x) (hm : X.mg x = none) (hv : bootBuiltins x = some (bfVal b)) (hn : x ≠ "__name__") (hdb : (x == ("__debug__" : Str)) = false)
    (he : starEach (a :: es) X.env = (false, eval a X.env) :: starEach es X.env) (hpl : (backTo pos (starEach es X.env)).any (·.1) = false) (h : SA T A d W X (a :: es) ms) : SE T A d W X (.Call (.Name x p) (a :: es) [] pos) (.bf b ms) := by
  have key : ∀ {r : List V → Hp → VK → Prop}, PE X (.Call (.Name x p) (a :: es) [] pos) (tCB (rBlt X.K A b) (TAv X.K A W (evEs T.glob (callF T d) ms))) → SE T A d W X (.Call (.Name x p) (a :: es) [] pos) (.bf b ms) := fun {r} h => by
    refine PEimp h fun σ H Q ⟨κ, G, C, ρ, s, e, f⟩ => ?_
    simp only [ev, evE] at f
    refine TAv.step s e f fun κ1 G1 C1 xs H1 vs x1 s1 e1 r1 f1 => ?_
    obtain ⟨z, hz, f2⟩ := f1.of
    exact ⟨κ1, G1, C1, xs, z, s1, r1, hz, give_of (H := H1) f2⟩
  have hcall := call_blt (A := A) hc b
  cases b <;> first
    | exact key (r := fun _ _ _ => True) (pe_callB hcall hg hm hv h hn hdb he hpl)
    | exact key (r := fun _ _ _ => True) (pe_callTy hcall hg hm hv h hn hdb he hpl)
end
end ML

set_option maxHeartbeats 1000000
/-! isinstance, calls of defs. -/
namespace ML
open PySem PySem.Spec PyProof.Rows L2
section
variable {X : Cx} {A : Ad} {W : WX} {T : Tab} {d : Nat} {pos : Pos}
/-! ### isinstance -/
def Ty.name : Ty → String
  | .int => "int"
  | .bool => "bool"
  | .str => "str"
  | .list => "list"
  | .tuple => "tuple"
def D.ty : D → Option String
  | .non => some "NoneType"
  | .bl _ => some "bool"
  | .int _ => some "int"
  | .str _ => some "str"
  | .tup _ => some "tuple"
  | .lst _ => some "list"
  | .cell _ => some "list"
  | _ => none
theorem kit_facts : ∀ t : Ty, L2.kitB "NoneType" t.name = some false ∧ L2.kitB "bool" t.name = some (t == .bool || t == .int) ∧ L2.kitB "int" t.name = some (t == .int) ∧
    L2.kitB "str" t.name = some (t == .str) ∧ L2.kitB "tuple" t.name = some (t == .tuple) ∧ L2.kitB "list" t.name = some (t == .list) := by
  intro t
  cases t <;> decide +kernel
theorem isTy_kit {C : Cells} {x : D} {t : Ty} {b : Bool} (h : isTy C x t = some b) : ∃ n, x.ty = some n ∧ L2.kitB n t.name = some b := by
  obtain ⟨k0, k1, k2, k3, k4, k5⟩ := kit_facts t
  cases x <;> simp only [isTy, Option.some.injEq, reduceCtorEq] at h
  · subst h; exact ⟨_, rfl, k0⟩
  · subst h; exact ⟨_, rfl, k1⟩
  · subst h; exact ⟨_, rfl, k2⟩
  · subst h; exact ⟨_, rfl, k3⟩
  · subst h; exact ⟨_, rfl, k4⟩
  · subst h; exact ⟨_, rfl, k5⟩
  · split at h
    · cases h; exact ⟨_, rfl, k5⟩
    · cases h
theorem rep_ty {κ : List Addr} {G H : Hp} {C : Cells} {v : V} {x : D} {n : String} (s : SR X.K A κ G H C) (r : Rep X.K A κ G v x) (h : x.ty = some n) : L2.TyX X.K H v (.type n) := by
  cases r with
  | non => cases h; exact .base .non
  | bl b => cases h; exact .base (.bl b)
  | int b => cases h; exact .base (.int b)
  | str b => cases h; exact .base (.str b)
  | tup q rl =>
    cases h
    rcases same_sqT s.sub q with (h | ⟨o, h⟩) | ⟨o, its, n, h1, h2, _⟩
    · exact .base (.tup h)
    · exact .fTuple h
    · exact .kTuple h1 h2
  | lst q rl =>
    cases h
    rcases same_rd s.sub q with h | ⟨o, h⟩
    · exact .base (.lst h)
    · exact .base (.frz h)
  | @cell i a ec =>
    cases h
    have hi := (List.getElem?_eq_some_iff.mp ec).1
    obtain ⟨_, _, vs, hv, _⟩ := s.cell i a C[i]! ec (by
      have hc : i < C.length := by rw [← s.len]; exact hi
      rw [List.getElem?_eq_getElem hc, getElem!_pos C i hc])
    exact .base (.lst hv)
  | fn _ => cases h
theorem se_isin1 {x t : Str} {p pt : Pos} {a : Expr} {ma : E} {ty : Ty} (hg : Gl X x) (hx : x = "isinstance") (hm : X.mg x = none) (hgt : Gl X t) (ht : t = Str.ofString ty.name) (hmt : X.mg t = none)
    (he : starEach [a, .Name t pt] X.env = (false, eval a X.env) :: starEach [.Name t pt] X.env) (ha : SE T A d W X a ma) : SE T A d W X (.Call (.Name x p) [a, .Name t pt] [] pos) (.isin ma [ty]) := by
  subst hx ht
  have hb : bootBuiltins (Str.ofString ty.name) = some (.type ty.name) := by cases ty <;> decide +kernel
  have hn : Str.ofString ty.name ≠ "__name__" := by cases ty <;> decide +kernel
  have hd : (Str.ofString ty.name == ("__debug__" : Str)) = false := by cases ty <;> decide +kernel
  have hpt : PE X (.Name (Str.ofString ty.name) pt) (tC (.ty ty.name)) := pe_bltn hgt hmt hb rfl hn hd
  have hA : PA X [a, .Name (Str.ofString ty.name) pt] (tCons (TEv X.K A W (ev T d ma)) (tCons (tC (.ty ty.name)) tNil)) := pa_cons ha (pa_cons hpt pa_nil (by rfl)) he
  refine PEimp (pe_callB call_isi hg hm (by decide +kernel) hA (by decide +kernel) (by decide +kernel) he (by rfl)) fun σ H Q ⟨κ, G, C, ρ, s, e, f⟩ => ?_
  simp only [ev, evE] at f
  refine TEv.step s e f fun κ1 G1 C1 y H1 v x1 s1 e1 r1 f1 => ?_
  obtain ⟨b, hb', f2⟩ := f1.ofB
  simp only [isTys] at hb'
  cases h1 : isTy C1 y ty with
  | none => rw [h1] at hb'; cases hb'
  | some k =>
    rw [h1] at hb'
    have hk : k = b := by cases k <;> simpa using hb'
    subst hk
    obtain ⟨n, hn', hkit⟩ := isTy_kit h1
    exact ⟨v, .ty ty.name, .type n, .type ty.name, k, rfl, .ty _, rep_ty s1 r1 hn', kit_ty hkit, f2.ok s1 _ (.bl _)⟩
theorem se_isin2 {x t u : Str} {p pt pu ptt : Pos} {k : Nat} {a : Expr} {ma : E} {ty tu : Ty} (hg : Gl X x) (hx : x = "isinstance") (hm : X.mg x = none) (hgt : Gl X t) (ht : t = Str.ofString ty.name) (hmt : X.mg t = none) (hgu : Gl X u) (hu : u = Str.ofString tu.name) (hmu : X.mg u = none)
    (he : starEach [a, .Tuple [.Name t pt, .Name u pu] k ptt] X.env = (false, eval a X.env) :: starEach [.Tuple [.Name t pt, .Name u pu] k ptt] X.env) (ha : SE T A d W X a ma) :
    SE T A d W X (.Call (.Name x p) [a, .Tuple [.Name t pt, .Name u pu] k ptt] [] pos) (.isin ma [ty, tu]) := by
  subst hx ht hu
  have hb : ∀ ty : Ty, bootBuiltins (Str.ofString ty.name) = some (.type ty.name) := by intro ty; cases ty <;> decide +kernel
  have hn : ∀ ty : Ty, Str.ofString ty.name ≠ "__name__" := by intro ty; cases ty <;> decide +kernel
  have hd : ∀ ty : Ty, (Str.ofString ty.name == ("__debug__" : Str)) = false := by intro ty; cases ty <;> decide +kernel
  have hpt : PE X (.Name (Str.ofString ty.name) pt) (tC (.ty ty.name)) := pe_bltn hgt hmt (hb ty) rfl (hn ty) (hd ty)
  have hpu : PE X (.Name (Str.ofString tu.name) pu) (tC (.ty tu.name)) := pe_bltn hgu hmu (hb tu) rfl (hn tu) (hd tu)
  have hT : PE X (.Tuple [.Name (Str.ofString ty.name) pt, .Name (Str.ofString tu.name) pu] k ptt) (tTup (tCons (tC (.ty ty.name)) (tCons (tC (.ty tu.name)) tNil))) := pe_tup (pa_cons hpt (pa_cons hpu pa_nil (by rfl)) (by rfl))
  have hA : PA X [a, .Tuple [.Name (Str.ofString ty.name) pt, .Name (Str.ofString tu.name) pu] k ptt] (tCons (TEv X.K A W (ev T d ma)) (tCons (tTup (tCons (tC (.ty ty.name)) (tCons (tC (.ty tu.name)) tNil))) tNil)) := pa_cons ha (pa_cons hT pa_nil (by rfl)) he
  refine PEimp (pe_callB call_isiT hg hm (by decide +kernel) hA (by decide +kernel) (by decide +kernel) he (by rfl)) fun σ H Q ⟨κ, G, C, ρ, s, e, f⟩ => ?_
  simp only [ev, evE] at f
  refine TEv.step s e f fun κ1 G1 C1 y H1 v x1 s1 e1 r1 f1 => ?_
  obtain ⟨b, hb', f2⟩ := f1.ofB
  refine ⟨by show 2 ≤ sizeLine; decide, fun tp htp => ?_⟩
  have s2 : SR X.K A κ1 G1 (upd H1 tp (.tup [.ty ty.name, .ty tu.name])) C1 := s1.newH htp
  simp only [isTys] at hb'
  cases h1 : isTy C1 y ty with
  | none => rw [h1] at hb'; cases hb'
  | some k1 =>
    rw [h1] at hb'
    simp only [Option.bind_some] at hb'
    obtain ⟨n, hn', hkit⟩ := isTy_kit h1
    refine ⟨v, tp, [.ty ty.name, .ty tu.name], .type n, [.type ty.name, .type tu.name], b, rfl, upd_same, .cons (.ty _) (.cons (.ty _) .nil), rep_ty s2 r1 hn', ?_, (f2.later (s1.extH htp)).ok s2 _ (.bl _)⟩
    refine kitAny_cons (kit_ty hkit) (fun hk => ?_) (fun hk => ?_)
    · subst hk
      rw [if_neg Bool.false_ne_true] at hb'
      cases h2 : isTy C1 y tu with
      | none => rw [h2] at hb'; cases hb'
      | some k2 =>
        rw [h2] at hb'
        obtain ⟨n2, hn2, hkit2⟩ := isTy_kit h2
        rw [hn'] at hn2; cases hn2
        have hk2 : k2 = b := by cases k2 <;> simpa using hb'
        subst hk2
        exact kitAny_cons (kit_ty hkit2) (fun h => by rw [h]; exact kitAny_nil) (fun h => h)
    · subst hk
      rw [if_pos rfl] at hb'
      cases hb'; rfl

/-! ### defs -/
/-- what a def promises: as the evaluator says -/
def spF (K : PySem.W.Frag) (A : Ad) (T : Tab) (d f : Nat) : Sp := fun vs H Q E => ∃ κ G C ds, SR K A κ G H C ∧ RepL K A κ G vs ds ∧
  Fin K A (fun cls dd _ H' => E cls dd H') κ G H [] (callF T d f ds C) (fun κ' G' C' z H' => ∀ v, Rep K A κ' G' v z → Q v H')
def kwg {α : Type} (z : α) (n m : Nat) (pm : List Nat) (us ws : List α) : List α := if us.length = n ∧ ws.length = m then pm.map fun i => (us ++ ws).getD i z else List.replicate (pm.length + 1) z
def kwOk (n : Nat) (ks : List Str) (pm : List Nat) (ps : List Str) : Bool :=
  decide (n + ks.length = ps.length) && decide (pm.length = ps.length) && decide ks.Nodup && decide ps.Nodup && ks.all (fun k => decide (k ∈ ps) && !decide (k ∈ ps.take n)) &&
    (List.range ps.length).all fun j => match ps[j]?, pm[j]? with
      | some x, some i => (decide (i < n) && i == j) || (decide (n ≤ i) && ks[i - n]? == some x)
      | _, _ => false
/-- what is known of the defs -/
structure Fns (P : Program) (w : World) (K : PySem.W.Frag) (mg : Str → Option Value) (base : Heap) (A : Ad) (T : Tab) (d : Nat) : Prop where
  fn : ∀ f F, T.fn f = some F → ∃ a fd, A.fa f = some a ∧ PySem.W.keepIn K (.ref a) = true ∧ Binds K fd (A.ps f) [] ∧ (A.ps f).length = F.np ∧ FnOk P w K mg base (L2.CX P w) d a fd (A.ps f) (spF K A T d f) ∧
    (∀ (n : Nat) (ks : List Str) (pm : List Nat), kwOk n ks pm (A.ps f) = true → KBinds K fd (A.ps f) ks (kwg .none n ks.length pm) (kwg .non n ks.length pm)) ∧
    ∀ us : List Value, us.length = (A.ps f).length → bindArgs fd ⟨us, []⟩ = pure ((A.ps f).zip us)
  fa : ∀ f a, A.fa f = some a → ∃ F, T.fn f = some F
theorem spF_call {κ : List Addr} {G H : Hp} {C : Cells} {σ : L2.St} {f : Nat} {vs : List V} {ds : List D} {Q : VK} (s : SR X.K A κ G H C) (r : RepL X.K A κ G vs ds)
    (h : Fin X.K A W κ G H σ (callF T d f ds C) (fun κ' G' C' z H' => ∀ v, Rep X.K A κ' G' v z → Q v H')) : spF X.K A T d f vs H Q (WE W σ) := by
  refine ⟨κ, G, C, ds, s, r, ?_⟩
  cases hx : callF T d f ds C with
  | ok z C1 => rw [hx] at h; exact h
  | exc c x C1 => rw [hx] at h; exact h
  | stuck => rw [hx] at h; exact h
theorem se_call {x : Str} {p : Pos} {a : Expr} {es : List Expr} {ms : Es} {f : Nat} {F : Fn} {b : Addr} (fs : Fns X.prog X.w X.K X.mg X.base A T d) (hr : Room d X.A) (tk : Takes X W) (hF : T.fn f = some F) (hA : A.fa f = some b) (hg : Gl X x) (hm : X.mg x = some (.ref b))
    (hdb : (x == ("__debug__" : Str)) = false) (he : starEach (a :: es) X.env = (false, eval a X.env) :: starEach es X.env) (hpl : (backTo pos (starEach es X.env)).any (·.1) = false) (h : SA T A d W X (a :: es) ms) : SE T A d W X (.Call (.Name x p) (a :: es) [] pos) (.call f ms) := by
  obtain ⟨b', fd, e1, kp, bd, hl, ok, _⟩ := fs.fn f F hF
  rw [hA] at e1; cases e1
  refine PEimp (pe_callS ok hr hg hm kp bd (fun σ => passAt tk σ) h hdb he hpl) fun σ H Q ⟨κ, G, C, ρ, s, e, f'⟩ => ?_
  simp only [ev, evE] at f'
  exact TAv.step s e f' fun κ1 G1 C1 xs H1 vs x1 s1 e1 r1 f1 => spF_call s1 r1 f1
/-- a call of a def that a name of the frame holds -/
theorem se_callv {i : Nat} {x : Str} {p : Pos} {a : Expr} {es : List Expr} {ms : Es} (fs : Fns X.prog X.w X.K X.mg X.base A T d) (hr : Room d X.A) (tk : Takes X W) (hN : X.N[i]? = some x) (hv : Vis X.env.scope x) (hd : (x == ("__debug__" : Str)) = false) (hcd : (x == ("__classdict__" : Str)) = false)
    (he : starEach (a :: es) X.env = (false, eval a X.env) :: starEach es X.env) (hpl : (backTo pos (starEach es X.env)).any (·.1) = false) (h : SA T A d W X (a :: es) ms) : SE T A d W X (.Call (.Name x p) (a :: es) [] pos) (.callv i ms) := by
  refine ⟨fun pins st σ H Q I ⟨κ, G, C, ρ, s, e, f'⟩ => ?_⟩
  simp only [ev, evE] at f'
  split at f'
  · rename_i f hf
    obtain ⟨v, e1, r⟩ := e.at_ i _ hf
    cases r with
    | @fn _ b hb =>
      obtain ⟨F, hF⟩ := fs.fa f b hb
      obtain ⟨b', fd, e2, kp, bd, hl, ok, _⟩ := fs.fn f F hF
      rw [hb] at e2; cases e2
      refine wpAny_Call_Name_kw ((pe_var hN hv hd hcd).run pins st σ H (fun v H1 => v = .ref b ∧ H1 = H) I ⟨_, e1, rfl, rfl⟩ |> fun hh => thn hh fun u s1 ⟨v1, H1, I1, r1, e3, e4⟩ => ?_)
      subst e3 e4
      obtain rfl : u = Value.ref b := r1
      refine PySem.W.callWith_K (h₀ := X.base) I1.ok.mod.kin kp (thn (h.run pos pins s1 σ H1 _ I1 (TAv.step s e f' fun κ1 G1 C1 xs H1 vs x1 s1 e1 r1 f1 => spF_call s1 r1 f1)) fun us s2 ⟨vs, H2, I2, r2, q2⟩ => ⟨I2.kIn, ?_⟩) he hpl
      exact run_fnS ok hr bd (passAt tk σ) I2 r2 q2
  · exact f'.elim
end
end ML

set_option maxHeartbeats 1000000
/-! Keywords, what is walked, targets, comprehensions, methods of lists. -/
namespace ML
open PySem PySem.Spec PyProof.Rows L2 RZ
section
variable {X : Cx} {A : Ad} {W : WX} {T : Tab} {d : Nat} {pos : Pos}
/-! ### keywords -/
abbrev SK (T : Tab) (A : Ad) (d : Nat) (W : WX) (X : Cx) (es : List Keyword) (ms : Es) : Prop := PK X es (TAv X.K A W (evEs T.glob (callF T d) ms))
theorem sk_nil : SK T A d W X [] .nil := by
  refine PKimp pk_nil fun σ H Q ⟨κ, G, C, ρ, s, e, f⟩ => ?_
  simp only [evEs] at f
  exact f.ok s _ .nil
theorem sk_cons {nm : Option Str} {a : Expr} {es : List Keyword} {ma : E} {ms : Es} {kpos : Pos} (ha : SE T A d W X a ma) (hb : SK T A d W X es ms) : SK T A d W X (⟨nm, a, kpos⟩ :: es) (.cons ma ms) := by
  refine PKimp (pk_cons ha hb) fun σ H Q ⟨κ, G, C, ρ, s, e, f⟩ => ?_
  simp only [evEs] at f
  refine TEv.step s e f fun κ1 G1 C1 x H1 v x1 s1 e1 r1 f1 => ?_
  refine TAv.step s1 e1 f1 fun κ2 G2 C2 xs H2 vs x2 s2 e2 r2 f2 => ?_
  exact f2.ok s2 _ (.cons (r1.mono x2.pre x2.same) r2)
theorem run_fnkS {CX : CXT} {k : Nat} {f : Addr} {fd : FuncData} {ps ks : List Str} {sp : Sp} {E : L2.St → XK} {g : List Value → List Value → List Value} {gV : List V → List V → List V} {pins : List (Addr × Obj)} {σ : L2.St} {H : Hp} {s : Shared} {Q : VK} {us ws : List Value} {vs zs : List V}
    (F : FnOk X.prog X.w X.K X.mg X.base CX k f fd ps sp) (hr : Room k X.A) (hb : KBinds X.K fd ps ks g gV) (hx : PassesAt CX X σ (E σ))
    (I : L2.Inv X pins σ H s) (r : Vals vs us) (rz : Vals zs ws) (h : sp (gV vs zs) H Q (E σ)) : wpAny (model X.prog X.w) X.A (call (.ref f) us (ks.zip ws)) (EP X pins σ Q) X.xe s := by
  have r2 := hb.rel r rz
  have hl : (g us ws).length = ps.length := by rw [← r2.length]; exact F.len _ _ _ _ h
  refine wpAny_call (codeAny_mono (F.run X.A X.stack s H ⟨us, ks.zip ws⟩ (g us ws) (gV vs zs) Q (E σ) hr I.env0 (hb.to s us ws I.kIn hl) r2 h) fun r s' hq => ?_)
  cases r with
  | error e => exact hx pins H s e s' I hq
  | ok fl =>
    cases fl with
    | ret u => exact I.after hq
    | next => exact False.elim hq
    | brk => exact False.elim hq
    | cont => exact False.elim hq
def kwNames : List Keyword → Option (List Str)
  | [] => some []
  | ⟨some n, _, _⟩ :: r => (kwNames r).map (n :: ·)
  | _ => none
theorem kw_facts {env : PySem.Env} {pos : Pos} : ∀ {kws : List Keyword} {ks : List Str}, kwNames kws = some ks → (backToKw pos (keywordEach kws env)).all (·.1.isSome) = true ∧ (backToKw pos (keywordEach kws env)).filterMap (·.1) = ks ∧
    (backToKw pos (keywordEach kws env)).any (·.1.isNone) = false
  | [], ks, h => by simp only [kwNames, Option.some.injEq] at h; subst h; exact ⟨rfl, rfl, rfl⟩
  | ⟨some n, v, p⟩ :: r, ks, h => by
    simp only [kwNames, Option.map_eq_some_iff] at h
    obtain ⟨ks', h1, rfl⟩ := h
    obtain ⟨a, b, c⟩ := kw_facts (env := env) (pos := pos) h1
    refine ⟨?_, ?_, ?_⟩
    · show (true && _) = true; rw [Bool.true_and]; exact a
    · show n :: _ = n :: ks'; rw [← b]; rfl
    · show (false || _) = false; rw [Bool.false_or]; exact c
  | ⟨none, v, p⟩ :: r, ks, h => by simp [kwNames] at h
theorem RepL.perm {K : PySem.W.Frag} {κ : List Addr} {G : Hp} {vs : List V} {ds : List D} (r : RepL K A κ G vs ds) : ∀ (pm : List Nat) (zs : List D), permute pm ds = some zs → RepL K A κ G (pm.map fun i => vs.getD i .non) zs
  | [], zs, h => by simp [permute] at h; subst h; exact .nil
  | i :: pm, zs, h => by
    unfold permute at h
    rw [List.mapM_cons] at h
    simp only [Option.bind_eq_bind, Option.bind_eq_some_iff, Option.pure_def, Option.some.injEq] at h
    obtain ⟨x, hx, ys, hy, rfl⟩ := h
    obtain ⟨v, hv, rv⟩ := r.get hx
    refine .cons ?_ (RepL.perm r pm ys hy)
    show Rep K A κ G (vs.getD i V.non) x
    rw [List.getD_eq_getElem?_getD, hv]; exact rv
theorem kwg_len {α : Type} {z : α} {n m : Nat} {pm : List Nat} {us ws : List α} (h1 : us.length = n) (h2 : ws.length = m) : kwg z n m pm us ws = pm.map fun i => (us ++ ws).getD i z := by
  unfold kwg; rw [if_pos ⟨h1, h2⟩]
theorem se_callk {x : Str} {p : Pos} {a : Expr} {es : List Expr} {kws : List Keyword} {ks : List Str} {pm : List Nat} {ms mk : Es} {f : Nat} {F : Fn} {b : Addr} (fs : Fns X.prog X.w X.K X.mg X.base A T d) (hr : Room d X.A) (tk : Takes X W) (hF : T.fn f = some F) (hA : A.fa f = some b) (hg : Gl X x) (hm : X.mg x = some (.ref b))
    (hdb : (x == ("__debug__" : Str)) = false) (he : starEach (a :: es) X.env = (false, eval a X.env) :: starEach es X.env) (hpl : (backTo pos (starEach (a :: es) X.env)).any (·.1) = false) (hk : kwNames kws = some ks)
    (hkb : kwOk ms.len ks pm (A.ps f) = true)
    (hml : mk.len = ks.length) (h : SA T A d W X (a :: es) ms) (hw : SK T A d W X kws mk) : SE T A d W X (.Call (.Name x p) (a :: es) kws pos) (.callk f ms mk pm) := by
  obtain ⟨b', fd, e1, kp, bd, hl, ok, kb, _⟩ := fs.fn f F hF
  rw [hA] at e1; cases e1
  have KB := kb ms.len ks pm hkb
  obtain ⟨h1, h2, h3⟩ := kw_facts (env := X.env) (pos := pos) hk
  refine ⟨fun pins st σ H Q I ⟨κ, G, C, ρ, s, e, f'⟩ => ?_⟩
  simp only [ev, evE] at f'
  refine wpAny_Call_Name_kw (ld_glob I hg hm ?_ hdb)
  refine PySem.W.callWith_KW (h₀ := X.base) I.ok.mod.kin kp h1 (thn (h.run pos pins st σ H _ I (TAv.stepL s e f' (Q := fun vs H1 => ∃ κ1 G1 C1 xs, SR X.K A κ1 G1 H1 C1 ∧ ER X.K A κ1 G1 σ ρ ∧ RepL X.K A κ1 G1 vs xs ∧ xs.length = ms.len ∧ Fin X.K A W κ1 G1 H1 σ _ _)
    fun κ1 G1 C1 xs H1 vs hn x1 s1 e1 r1 f1 => ⟨κ1, G1, C1, xs, s1, e1, r1, hn, f1⟩)) fun us s1' ⟨vs, H1, I1, r, κ1, G1, C1, xs, s1, e1, r1, hn, f1⟩ => ?_) (by rw [hpl, h3]; rfl) he
  refine thn (hw.run pos pins s1' σ H1 _ I1 (TAv.stepL s1 e1 f1 (Q := fun zs H2 => spF X.K A T d f (kwg .non ms.len ks.length pm vs zs) H2 Q (WE W σ)) fun κ2 G2 C2 ys H2 zs hn2 x2 s2 e2 r2 f2 => ?_)) fun ws s2' ⟨zs, H2, I2, rz, q2⟩ => ⟨I2.kIn, ?_⟩
  · obtain ⟨zl, hz, f3⟩ := f2.ofB
    rw [kwg_len (by rw [r1.length, hn]) (by rw [r2.length, hn2, hml])]
    exact spF_call s2 (((r1.mono x2.pre x2.same).app r2).perm pm zl hz) f3
  · rw [h2]
    exact run_fnkS ok hr KB (passAt tk σ) I2 r rz q2
theorem se_callk0 {x : Str} {p : Pos} {kws : List Keyword} {ks : List Str} {pm : List Nat} {mk : Es} {f : Nat} {F : Fn} {b : Addr} (fs : Fns X.prog X.w X.K X.mg X.base A T d) (hr : Room d X.A) (tk : Takes X W) (hF : T.fn f = some F) (hA : A.fa f = some b) (hg : Gl X x) (hm : X.mg x = some (.ref b))
    (hdb : (x == ("__debug__" : Str)) = false) (hk : kwNames kws = some ks)
    (hkb : kwOk 0 ks pm (A.ps f) = true)
    (hml : mk.len = ks.length) (hw : SK T A d W X kws mk) : SE T A d W X (.Call (.Name x p) [] kws pos) (.callk f .nil mk pm) := by
  obtain ⟨b', fd, e1, kp, bd, hl, ok, kb, _⟩ := fs.fn f F hF
  rw [hA] at e1; cases e1
  have KB := kb 0 ks pm hkb
  obtain ⟨h1, h2, h3⟩ := kw_facts (env := X.env) (pos := pos) hk
  refine ⟨fun pins st σ H Q I ⟨κ, G, C, ρ, s, e, f'⟩ => ?_⟩
  simp only [ev, evE, evEs, R.bind_ok] at f'
  refine wpAny_Call_Name_kw (ld_glob I hg hm ?_ hdb)
  refine PySem.W.callWith_KW0 (h₀ := X.base) I.ok.mod.kin kp h1 ?_ (by rw [h3]; rfl)
  refine thn (hw.run pos pins st σ H _ I (TAv.stepL s e f' (Q := fun zs H2 => spF X.K A T d f (kwg .non 0 ks.length pm [] zs) H2 Q (WE W σ)) fun κ2 G2 C2 ys H2 zs hn2 x2 s2 e2 r2 f2 => ?_)) fun ws s2' ⟨zs, H2, I2, rz, q2⟩ => ⟨I2.kIn, ?_⟩
  · obtain ⟨zl, hz, f3⟩ := f2.ofB
    rw [kwg_len (us := ([] : List V)) (n := 0) rfl (by rw [r2.length, hn2, hml])]
    exact spF_call s2 (RepL.perm (RepL.app .nil r2) pm zl hz) f3
  · rw [h2]
    exact run_fnkS (us := []) (vs := []) ok hr KB (passAt tk σ) I2 .nil rz q2

/-! ### what is walked -/
def JOk (K : PySem.W.Frag) (A : Ad) (κ : List Addr) (G H : Hp) (xs : List D) (gd : Option (Nat × List D)) (J : It) : Prop :=
  ∀ (κ' : List Addr) (G' H' : Hp) (C' : Cells), Ext κ G H κ' G' H' → SR K A κ' G' H' C' → held gd xs C' = true →
    (∀ (i : Nat) (x : D), xs[i]? = some x → J.go i H' ∧ ∀ (v : V) (H3 : Hp), J.yld i H' v H3 → ∃ G3, Ext κ' G' H' κ' G3 H3 ∧ SR K A κ' G3 H3 C' ∧ Rep K A κ' G3 v x) ∧ J.stop xs.length H'
theorem JOk.later {K : PySem.W.Frag} {κ κ1 : List Addr} {G G1 H H1 : Hp} {xs : List D} {gd : Option (Nat × List D)} {J : It} (h : JOk K A κ G H xs gd J) (x : Ext κ G H κ1 G1 H1) : JOk K A κ1 G1 H1 xs gd J :=
  fun κ' G' H' C' x' => h κ' G' H' C' (x.trans x')
def TIv (K : PySem.W.Frag) (A : Ad) (W : WX) (es : Env → Cells → R (List D × Option (Nat × List D))) : TI := fun σ H R => ∃ κ G C ρ, SR K A κ G H C ∧ ER K A κ G σ ρ ∧
  Fin K A W κ G H σ (es ρ C) (fun κ' G' C' p H' => held p.2 p.1 C' = true → ∀ J, JOk K A κ' G' H' p.1 p.2 J → R J H')
abbrev SI (T : Tab) (A : Ad) (d : Nat) (W : WX) (X : Cx) (tg e : Expr) (s : Src) : Prop := PI X tg e (TIv X.K A W (evSrc T.glob (callF T d) s))
theorem pi_seq {tg l : Expr} {tl : TE} (hl : PE X l tl) : PI X tg l (fun σ H R => tl σ H fun x H1 => ∃ a, x = .ref a ∧ (((∃ xs, SqL X.K H1 a xs) ∧ R (Itl X.K a) H1) ∨ ((∃ xs, SqT X.K H1 a xs) ∧ R (Itt X.K a) H1))) := by
  refine ⟨fun pins s σ H R I h => ?_⟩
  refine thn (hl.run pins s σ H _ I h) fun v s1 ⟨x, H1, I1, r1, q1⟩ => ?_
  obtain ⟨a, e, q1⟩ := q1
  subst e
  cases r1
  rcases q1 with ⟨⟨xs, hq⟩, q⟩ | ⟨⟨xs, hq⟩, q⟩
  · obtain ⟨its, rv, p, hz⟩ := I1.list hq
    refine wpAny_pyIter_list p.isList ?_
    refine ⟨s1.heap.objs.size, [s1.heap.objs.size], _, _, H1, rfl, I1.kept (t' := s1.toks) fun b o e => Heap.get?_push_of_some _ e, turn_list a _, ⟨_, Heap.get?_push_size _ rfl, rfl, rfl⟩, fun b hb => ?_, q⟩
    have e : b = s1.heap.objs.size := by simpa using hb
    subst e
    exact I1.fpOk (Nat.le_refl _) (I1.hok.fresh (Nat.le_refl _))
  · obtain ⟨its, rv, p, hz⟩ := I1.tuple hq
    refine wpAny_pyIter_tuple (show s1.heap.IsTuple a its.toArray from p) ?_
    refine ⟨s1.heap.objs.size, [s1.heap.objs.size], _, _, H1, rfl, I1.kept (t' := s1.toks) fun b o e => Heap.get?_push_of_some _ e, turn_tuple a _, ⟨_, Heap.get?_push_size _ rfl, rfl, rfl⟩, fun b hb => ?_, q⟩
    have e : b = s1.heap.objs.size := by simpa using hb
    subst e
    exact I1.fpOk (Nat.le_refl _) (I1.hok.fresh (Nat.le_refl _))
theorem jok_list {κ : List Addr} {G H : Hp} {a : Addr} {vs : List V} {xs : List D} (q : Rd G a (.lst vs)) (r : RepL X.K A κ G vs xs) : JOk X.K A κ G H xs none (Itl X.K a) := by
  intro κ' G' H' C' x s hh
  have hq : SqL X.K H' a vs := sqL_of (same_rd s.sub (same_rd x.same q))
  have r' := r.mono x.pre x.same
  refine ⟨fun i y hy => ?_, ⟨vs, hq, by rw [r.length]; exact Nat.le_refl _⟩⟩
  obtain ⟨v, hv, rv⟩ := r'.get hy
  refine ⟨⟨vs, v, hq, hv⟩, fun u H3 ⟨e1, e2⟩ => ?_⟩
  subst e1
  have := e2 vs hq
  rw [hv] at this; cases this
  exact ⟨G', Ext.refl _ _ _, s, rv⟩
theorem jok_tup {κ : List Addr} {G H : Hp} {a : Addr} {vs : List V} {xs : List D} (q : SqT X.K G a vs) (r : RepL X.K A κ G vs xs) : JOk X.K A κ G H xs none (Itt X.K a) := by
  intro κ' G' H' C' x s hh
  have hq : SqT X.K H' a vs := same_sqT s.sub (same_sqT x.same q)
  have r' := r.mono x.pre x.same
  refine ⟨fun i y hy => ?_, ⟨vs, hq, by rw [r.length]; exact Nat.le_refl _⟩⟩
  obtain ⟨v, hv, rv⟩ := r'.get hy
  refine ⟨⟨vs, v, hq, hv⟩, fun u H3 ⟨e1, e2⟩ => ?_⟩
  subst e1
  have := e2 vs hq
  rw [hv] at this; cases this
  exact ⟨G', Ext.refl _ _ _, s, rv⟩
theorem jok_cell {κ : List Addr} {G H : Hp} {a : Addr} {j : Nat} {xs : List D} (q : κ[j]? = some a) : JOk X.K A κ G H xs (some (j, xs)) (Itl X.K a) := by
  intro κ' G' H' C' x s hh
  have hc : C'[j]? = some xs := of_decide_eq_true hh
  obtain ⟨_, _, vs, hv, r'⟩ := s.cell j a xs (x.pre j a q) hc
  have hq : SqL X.K H' a vs := sqL_of (.inl hv)
  refine ⟨fun i y hy => ?_, ⟨vs, hq, by rw [r'.length]; exact Nat.le_refl _⟩⟩
  obtain ⟨v, hv', rv⟩ := r'.get hy
  refine ⟨⟨vs, v, hq, hv'⟩, fun u H3 ⟨e1, e2⟩ => ?_⟩
  subst e1
  have := e2 vs hq
  rw [hv'] at this; cases this
  exact ⟨G', Ext.refl _ _ _, s, rv⟩
theorem si_of {tg a : Expr} {ma : E} (ha : SE T A d W X a ma) : SI T A d W X tg a (.of ma) := by
  refine PIimp (pi_seq ha) fun σ H R ⟨κ, G, C, ρ, s, e, f⟩ => ?_
  simp only [evSrc] at f
  refine TEv.step s e f fun κ1 G1 C1 x H1 v x1 s1 e1 r1 f1 => ?_
  cases r1 with
  | tup q rl =>
    simp only [D.items] at f1
    exact ⟨_, rfl, .inr ⟨⟨_, same_sqT s1.sub q⟩, f1.ok s1 rfl _ (jok_tup q rl)⟩⟩
  | lst q rl =>
    simp only [D.items] at f1
    exact ⟨_, rfl, .inl ⟨⟨_, sqL_of (same_rd s1.sub q)⟩, f1.ok s1 rfl _ (jok_list q rl)⟩⟩
  | @cell j a ec =>
    cases hc : C1[j]? with
    | none => simp only [hc] at f1; exact f1.elim
    | some xs =>
      simp only [hc] at f1
      obtain ⟨_, _, vs, hv, _⟩ := s1.cell j a xs ec hc
      exact ⟨_, rfl, .inl ⟨⟨_, sqL_of (.inl hv)⟩, f1.ok s1 (decide_eq_true hc) _ (jok_cell ec)⟩⟩
  | _ => simp only [D.items] at f1; exact f1.elim
theorem range_get {lo : Int} {n i : Nat} {x : D} (h : ((List.range n).map fun i => D.int (lo + (i : Nat)))[i]? = some x) : i < n ∧ x = .int (lo + i) := by
  rw [List.getElem?_map] at h
  cases hr : (List.range n)[i]? with
  | none => rw [hr] at h; cases h
  | some j =>
    rw [hr] at h; cases h
    have := List.getElem?_eq_some_iff.mp hr
    obtain ⟨h1, h2⟩ := this
    simp at h1 h2
    subst h2
    exact ⟨h1, rfl⟩
theorem jok_range {κ : List Addr} {G H : Hp} (lo : Int) (n : Nat) : JOk X.K A κ G H ((List.range n).map fun i => D.int (lo + (i : Nat))) none (Itr lo n) := by
  intro κ' G' H' C' x s hh
  refine ⟨fun i y hy => ?_, by show n ≤ _; simp⟩
  obtain ⟨h1, rfl⟩ := range_get hy
  exact ⟨h1, fun v H3 ⟨e1, e2⟩ => by subst e1 e2; exact ⟨G', Ext.refl _ _ _, s, .int _⟩⟩
theorem rngOk_iff {i : Int} (h : rngOk i = true) : -(2 ^ 62) ≤ i ∧ i < 2 ^ 62 := of_decide_eq_true h
theorem si_rng1 {tg a : Expr} {p : Pos} {ms : Es} (hg : Gl X "range") (hm : X.mg "range" = none) (hs : starEach [a] X.env = [(false, eval a X.env)]) (hl : ms.len = 1) (h : SA T A d W X [a] ms) : SI T A d W X tg (.Call (.Name "range" p) [a] [] pos) (.rng ms) := by
  refine PIimp (pi_range1 hg hm h hs) fun σ H R ⟨κ, G, C, ρ, s, e, f⟩ => ?_
  simp only [evSrc] at f
  refine TAv.stepL s e f fun κ1 G1 C1 xs H1 vs hn x1 s1 e1 r1 f1 => ?_
  obtain ⟨ys, hy, f2⟩ := f1.ofB
  rw [hl] at hn
  match xs, hn with
  | [x], _ =>
    obtain ⟨v, rfl, rv⟩ := r1.one
    cases rv with
    | int j =>
      simp only [rngop] at hy
      split at hy
      · rename_i hj
        cases hy
        refine ⟨j, rfl, (rngOk_iff hj).1, (rngOk_iff hj).2, f2.ok s1 rfl _ ?_⟩
        have := jok_range (X := X) (A := A) (κ := κ1) (G := G1) (H := H1) 0 j.toNat
        unfold rangeD
        rw [Int.sub_zero]; exact this
      · cases hy
    | _ => simp [rngop] at hy
theorem si_rng2 {tg a b : Expr} {p : Pos} {ms : Es} (hg : Gl X "range") (hm : X.mg "range" = none) (hs : starEach [a, b] X.env = [(false, eval a X.env), (false, eval b X.env)]) (hs2 : starEach [b] X.env = [(false, eval b X.env)]) (hl : ms.len = 2) (h : SA T A d W X [a, b] ms) : SI T A d W X tg (.Call (.Name "range" p) [a, b] [] pos) (.rng ms) := by
  refine PIimp (pi_range2 hg hm h hs hs2) fun σ H R ⟨κ, G, C, ρ, s, e, f⟩ => ?_
  simp only [evSrc] at f
  refine TAv.stepL s e f fun κ1 G1 C1 xs H1 vs hn x1 s1 e1 r1 f1 => ?_
  obtain ⟨ys, hy, f2⟩ := f1.ofB
  rw [hl] at hn
  match xs, hn with
  | [x, y], _ =>
    obtain ⟨v, u, rfl, rv, ru⟩ := r1.two
    cases rv with
    | int i =>
      cases ru with
      | int j =>
        simp only [rngop] at hy
        split at hy
        · rename_i hj
          cases hy
          rw [Bool.and_eq_true] at hj
          exact ⟨i, j, rfl, ⟨(rngOk_iff hj.1).1, (rngOk_iff hj.1).2, (rngOk_iff hj.2).1, (rngOk_iff hj.2).2⟩, f2.ok s1 rfl _ (jok_range _ _)⟩
        · cases hy
      | _ => simp [rngop] at hy
    | _ => simp [rngop] at hy
theorem RepL.three {K : PySem.W.Frag} {κ : List Addr} {G : Hp} {vs : List V} {x y z : D} (h : RepL K A κ G vs [x, y, z]) : ∃ v u w, vs = [v, u, w] ∧ Rep K A κ G v x ∧ Rep K A κ G u y ∧ Rep K A κ G w z := by
  cases h with
  | cons r t => obtain ⟨u, w, rfl, r2, r3⟩ := RepL.two t; exact ⟨_, u, w, rfl, r, r2, r3⟩
theorem jok_rangeC {κ : List Addr} {G H : Hp} (lo c : Int) (n : Nat) : JOk X.K A κ G H ((List.range n).map fun i => D.int (lo + (i : Nat) * c)) none (Itc lo c n) := by
  intro κ' G' H' C' x s hh
  refine ⟨fun i y hy => ?_, by show n ≤ _; simp⟩
  rw [List.getElem?_map] at hy
  cases hr : (List.range n)[i]? with
  | none => rw [hr] at hy; cases hy
  | some j =>
    rw [hr] at hy; cases hy
    obtain ⟨h1, h2⟩ := List.getElem?_eq_some_iff.mp hr
    simp at h1 h2
    subst h2
    exact ⟨h1, fun v H3 ⟨e1, e2⟩ => by subst e1 e2; exact ⟨G', Ext.refl _ _ _, s, .int _⟩⟩
/-- zip -/
theorem zipD_get : ∀ {xs ys : List D} {i : Nat} {z : D}, (zipD xs ys)[i]? = some z → ∃ x y, xs[i]? = some x ∧ ys[i]? = some y ∧ z = .tup [x, y]
  | [], _, _, _, h => by simp [zipD] at h
  | _ :: _, [], _, _, h => by simp [zipD] at h
  | x :: xs, y :: ys, 0, z, h => by simp [zipD] at h; exact ⟨x, y, rfl, rfl, h.symm⟩
  | x :: xs, y :: ys, i + 1, z, h => by
    simp only [zipD, List.getElem?_cons_succ] at h ⊢
    exact zipD_get h
theorem zipD_len : ∀ {xs ys : List D}, xs.length ≤ (zipD xs ys).length ∨ ys.length ≤ (zipD xs ys).length
  | [], _ => .inl (Nat.zero_le _)
  | _ :: _, [] => .inr (Nat.zero_le _)
  | x :: xs, y :: ys => by
    simp only [zipD, List.length_cons]
    rcases zipD_len (xs := xs) (ys := ys) with h | h
    · exact .inl (by omega)
    · exact .inr (by omega)
theorem pair_new {κ : List Addr} {G H : Hp} {C : Cells} {p : Addr} {v u : V} {x y : D} (s : SR X.K A κ G H C) (hp : H p = none) (rv : Rep X.K A κ G v x) (ru : Rep X.K A κ G u y) :
    Ext κ G H κ (upd G p (.tup [v, u])) (upd H p (.tup [v, u])) ∧ SR X.K A κ (upd G p (.tup [v, u])) (upd H p (.tup [v, u])) C ∧ Rep X.K A κ (upd G p (.tup [v, u])) (.ref p) (.tup [x, y]) := by
  refine ⟨s.ext hp, s.new hp, .tup (.inl (.inl upd_same)) ?_⟩
  have g := same_upd (o := .tup [v, u]) (s.free hp)
  exact .cons (rv.mono (Pre.refl _) g) (.cons (ru.mono (Pre.refl _) g) .nil)
theorem jok_zipL {κ : List Addr} {G H : Hp} {a b : Addr} {vs us : List V} {xs ys : List D} (q : Rd G a (.lst vs)) (r : RepL X.K A κ G vs xs) (q2 : Rd G b (.lst us)) (r2 : RepL X.K A κ G us ys) : JOk X.K A κ G H (zipD xs ys) none (Itz X.K a b) := by
  intro κ' G' H' C' x s hh
  have h1 : SqL X.K H' a vs := sqL_of (same_rd s.sub (same_rd x.same q))
  have h2 : SqL X.K H' b us := sqL_of (same_rd s.sub (same_rd x.same q2))
  have r' := r.mono x.pre x.same
  have r2' := r2.mono x.pre x.same
  refine ⟨fun i z hz => ?_, ⟨vs, us, h1, h2, by rw [r.length, r2.length]; exact zipD_len⟩⟩
  obtain ⟨y1, y2, e1, e2, rfl⟩ := zipD_get hz
  obtain ⟨v, hv, rv⟩ := r'.get e1
  obtain ⟨u, hu, ru⟩ := r2'.get e2
  refine ⟨⟨vs, us, v, u, h1, h2, hv, hu⟩, fun w H3 ⟨p, v', u', ew, hp, eH, k1, k2⟩ => ?_⟩
  have := k1 vs h1; rw [hv] at this; cases this
  have := k2 us h2; rw [hu] at this; cases this
  subst ew eH
  obtain ⟨a1, a2, a3⟩ := pair_new s hp rv ru
  exact ⟨_, a1, a2, a3⟩
theorem jok_zipC {κ : List Addr} {G H : Hp} {a b : Addr} {j : Nat} {vs : List V} {xs ys : List D} (q : Rd G a (.lst vs)) (r : RepL X.K A κ G vs xs) (q2 : κ[j]? = some b) : JOk X.K A κ G H (zipD xs ys) (some (j, ys)) (Itz X.K a b) := by
  intro κ' G' H' C' x s hh
  have hc : C'[j]? = some ys := of_decide_eq_true hh
  obtain ⟨_, _, us, hv, r2'⟩ := s.cell j b ys (x.pre j b q2) hc
  have h1 : SqL X.K H' a vs := sqL_of (same_rd s.sub (same_rd x.same q))
  have h2 : SqL X.K H' b us := sqL_of (.inl hv)
  have r' := r.mono x.pre x.same
  refine ⟨fun i z hz => ?_, ⟨vs, us, h1, h2, by rw [r.length, r2'.length]; exact zipD_len⟩⟩
  obtain ⟨y1, y2, e1, e2, rfl⟩ := zipD_get hz
  obtain ⟨v, hv, rv⟩ := r'.get e1
  obtain ⟨u, hu, ru⟩ := r2'.get e2
  refine ⟨⟨vs, us, v, u, h1, h2, hv, hu⟩, fun w H3 ⟨p, v', u', ew, hp, eH, k1, k2⟩ => ?_⟩
  have := k1 vs h1; rw [hv] at this; cases this
  have := k2 us h2; rw [hu] at this; cases this
  subst ew eH
  obtain ⟨a1, a2, a3⟩ := pair_new s hp rv ru
  exact ⟨_, a1, a2, a3⟩
theorem jok_zipT {κ : List Addr} {G H : Hp} {a b : Addr} {vs us : List V} {xs ys : List D} (q : SqT X.K G a vs) (r : RepL X.K A κ G vs xs) (q2 : SqT X.K G b us) (r2 : RepL X.K A κ G us ys) : JOk X.K A κ G H (zipD xs ys) none (ItzT X.K a b) := by
  intro κ' G' H' C' x s hh
  have h1 : SqT X.K H' a vs := same_sqT s.sub (same_sqT x.same q)
  have h2 : SqT X.K H' b us := same_sqT s.sub (same_sqT x.same q2)
  have r' := r.mono x.pre x.same
  have r2' := r2.mono x.pre x.same
  refine ⟨fun i z hz => ?_, ⟨vs, us, h1, h2, by rw [r.length, r2.length]; exact zipD_len⟩⟩
  obtain ⟨y1, y2, e1, e2, rfl⟩ := zipD_get hz
  obtain ⟨v, hv, rv⟩ := r'.get e1
  obtain ⟨u, hu, ru⟩ := r2'.get e2
  refine ⟨⟨vs, us, v, u, h1, h2, hv, hu⟩, fun w H3 ⟨p, v', u', ew, hp, eH, k1, k2⟩ => ?_⟩
  have := k1 vs h1; rw [hv] at this; cases this
  have := k2 us h2; rw [hu] at this; cases this
  subst ew eH
  obtain ⟨a1, a2, a3⟩ := pair_new s hp rv ru
  exact ⟨_, a1, a2, a3⟩
theorem si_zip {a b : Expr} {p tpos : Pos} {ma mb : E} {elts : List Expr} {kk : Nat} (hg : Gl X "zip") (hm : X.mg "zip" = none) (hs : starEach [a, b] X.env = (false, eval a X.env) :: starEach [b] X.env) (hs2 : starEach [b] X.env = (false, eval b X.env) :: starEach [] X.env)
    (hpl : (backTo pos (starEach [b] X.env)).any (·.1) = false) (ha : SE T A d W X a ma) (hb : SE T A d W X b mb) : SI T A d W X (.Tuple elts kk tpos) (.Call (.Name "zip" p) [a, b] [] pos) (.zip ma mb) := by
  refine PIimp (pi_zipA hg hm (pa_cons ha (pa_cons hb pa_nil hs2) hs) hs hpl) fun σ H R ⟨κ, G, C, ρ, s, e, f⟩ => ?_
  simp only [evSrc] at f
  refine TEv.step s e f fun κ1 G1 C1 x H1 v x1 s1 e1 r1 f1 => ?_
  refine TEv.step s1 e1 f1 fun κ2 G2 C2 y H2 u x2 s2 e2 r2 f2 => ?_
  have r1' := r1.mono x2.pre x2.same
  cases r1' with
  | lst q rl =>
    cases r2 with
    | lst q2 rl2 => exact ⟨_, _, _, _, rfl, .inl ⟨sqL_of (same_rd s2.sub q), sqL_of (same_rd s2.sub q2), f2.ok s2 rfl _ (jok_zipL q rl q2 rl2)⟩⟩
    | @cell j a ec =>
      cases hc : C2[j]? with
      | none => simp only [hc] at f2; exact f2.elim
      | some ys =>
        simp only [hc] at f2
        obtain ⟨_, _, vs, hv, _⟩ := s2.cell j a ys ec hc
        exact ⟨_, _, _, _, rfl, .inl ⟨sqL_of (same_rd s2.sub q), sqL_of (.inl hv), f2.ok s2 (decide_eq_true hc) _ (jok_zipC q rl ec)⟩⟩
    | _ => exact f2.elim
  | tup q rl =>
    cases r2 with
    | tup q2 rl2 => exact ⟨_, _, _, _, rfl, .inr ⟨same_sqT s2.sub q, same_sqT s2.sub q2, f2.ok s2 rfl _ (jok_zipT q rl q2 rl2)⟩⟩
    | _ => exact f2.elim
  | _ => exact f2.elim
theorem enumD_get : ∀ {n : Nat} {xs : List D} {i : Nat} {z : D}, (enumD n xs)[i]? = some z → ∃ x, xs[i]? = some x ∧ z = .tup [.int ((n + i : Nat) : Int), x]
  | _, [], _, _, h => by simp [enumD] at h
  | n, x :: xs, 0, z, h => by simp [enumD] at h; exact ⟨x, rfl, h.symm⟩
  | n, x :: xs, i + 1, z, h => by
    simp only [enumD, List.getElem?_cons_succ] at h ⊢
    obtain ⟨y, h1, h2⟩ := enumD_get h
    exact ⟨y, h1, by rw [h2, Nat.add_right_comm n 1 i]; rfl⟩
theorem enumD_len : ∀ {n : Nat} {xs : List D}, (enumD n xs).length = xs.length
  | _, [] => rfl
  | n, x :: xs => by simp [enumD, enumD_len]
theorem jok_enum {κ : List Addr} {G H : Hp} {a : Addr} {vs : List V} {xs : List D} (q : Rd G a (.lst vs)) (r : RepL X.K A κ G vs xs) : JOk X.K A κ G H (enumD 0 xs) none (Ite X.K a) := by
  intro κ' G' H' C' x s hh
  have h1 : SqL X.K H' a vs := sqL_of (same_rd s.sub (same_rd x.same q))
  have r' := r.mono x.pre x.same
  refine ⟨fun i z hz => ?_, ⟨vs, h1, by rw [r.length, enumD_len]; exact Nat.le_refl _⟩⟩
  obtain ⟨y, e1, rfl⟩ := enumD_get hz
  obtain ⟨v, hv, rv⟩ := r'.get e1
  refine ⟨⟨vs, v, h1, hv⟩, fun w H3 ⟨p, v', ew, hp, eH, k1⟩ => ?_⟩
  have := k1 vs h1; rw [hv] at this; cases this
  subst ew eH
  obtain ⟨a1, a2, a3⟩ := pair_new s hp (.int (i : Nat)) rv
  exact ⟨_, a1, a2, by rw [Nat.zero_add]; exact a3⟩
theorem si_enum {a : Expr} {p tpos : Pos} {ma : E} {elts : List Expr} {kk : Nat} (hg : Gl X "enumerate") (hm : X.mg "enumerate" = none) (hs : starEach [a] X.env = [(false, eval a X.env)]) (ha : SE T A d W X a ma) :
    SI T A d W X (.Tuple elts kk tpos) (.Call (.Name "enumerate" p) [a] [] pos) (.enum ma) := by
  refine PIimp (pi_enum hg hm (pa_cons ha pa_nil (by rw [hs]; rfl)) hs) fun σ H R ⟨κ, G, C, ρ, s, e, f⟩ => ?_
  simp only [evSrc] at f
  refine TEv.step s e f fun κ1 G1 C1 x H1 v x1 s1 e1 r1 f1 => ?_
  cases r1 with
  | lst q rl => exact ⟨_, _, rfl, sqL_of (same_rd s1.sub q), f1.ok s1 rfl _ (jok_enum q rl)⟩
  | _ => exact f1.elim
end
end ML

set_option maxHeartbeats 1000000
/-! Targets, comprehensions, methods of lists. -/
namespace ML
open PySem PySem.Spec PyProof.Rows L2 RZ
section
variable {X : Cx} {A : Ad} {W : WX} {T : Tab} {d : Nat} {pos : Pos}
/-! ### targets -/
def setV : List Nat → List V → L2.St → L2.St
  | i :: is, v :: vs, σ => setV is vs (σ.set i (some v))
  | _, _, σ => σ
def Tg.slots : Tg → List Nat
  | .one i => [i]
  | .many is => is
def TGv (K : PySem.W.Frag) (A : Ad) (t : Tg) : TG := fun v σ H Q => ∃ κ G C ρ x ρ', SR K A κ G H C ∧ ER K A κ G σ ρ ∧ Rep K A κ G v x ∧ setTg t x ρ = some ρ' ∧ ∀ vs : List V, ER K A κ G (setV t.slots vs σ) ρ' → Q (setV t.slots vs σ) H
abbrev SG (A : Ad) (X : Cx) (tg : Expr) (t : Tg) : Prop := PG X tg (TGv X.K A t)
theorem ER.setAll {K : PySem.W.Frag} {κ : List Addr} {G : Hp} : ∀ {is : List Nat} {vs : List V} {ds : List D} {σ : L2.St} {ρ : Env}, ER K A κ G σ ρ → RepL K A κ G vs ds → ER K A κ G (setV is vs σ) (setAll is ds ρ)
  | [], _, _, _, _, h, .nil => h
  | [], _, _, _, _, h, .cons _ _ => h
  | _ :: _, _, _, _, _, h, .nil => h
  | i :: is, _, _, _, _, h, .cons r rs => by
    simp only [setV, ML.setAll]
    exact ER.setAll (h.set r i) rs
/-- the names es stand in the slots is -/
inductive NmAt (X : Cx) : List Expr → List Nat → Prop
  | nil : NmAt X [] []
  | cons {x : Str} {p : Pos} {i : Nat} {es : List Expr} {is : List Nat} : X.N[i]? = some x → Loc X.env.scope x → (X.fn x = true ∨ X.env.scope.names.lookup x = some .local) → NmAt X es is → NmAt X (.Name x p :: es) (i :: is)
theorem NmAt.len : ∀ {es : List Expr} {is : List Nat}, NmAt X es is → (assignEach es X.env).length = is.length
  | _, _, .nil => rfl
  | _, _, .cons _ _ _ h => congrArg (· + 1) h.len
theorem NmAt.star : ∀ {es : List Expr} {is : List Nat}, NmAt X es is → ∀ p ∈ assignEach es X.env, p.1 = false
  | _, _, .nil => fun p hp => by simp [assignEach] at hp
  | _, _, .cons _ _ _ h => fun p hp => by
    rcases List.mem_cons.mp (show p ∈ (false, _) :: assignEach _ X.env from hp) with rfl | hp
    · rfl
    · exact h.star p hp
theorem pgs_names (hN : X.N.Nodup) : ∀ {es : List Expr} {is : List Nat}, NmAt X es is → PGs X es (fun vs σ H Q => vs.length = is.length ∧ Q (setV is vs σ) H)
  | _, _, .nil => ⟨fun pins s σ H vs us Q I r h => pgs_nil.run pins s σ H vs us Q I r ⟨List.length_eq_zero_iff.mp h.1, by
      have := List.length_eq_zero_iff.mp h.1; subst this; exact h.2⟩⟩
  | _, _, .cons (i := i) h1 h2 h3 h => by
    refine ⟨fun pins s σ H vs us Q I r hh => ?_⟩
    obtain ⟨hl, q⟩ := hh
    match vs, hl with
    | v :: vs, hl =>
      refine (pgs_cons (pg_name hN h1 h2 h3) (pgs_names hN h) (by rfl)).run pins s σ H _ us Q I r ⟨v, vs, rfl, ?_⟩
      exact ⟨by simpa using hl, q⟩
theorem sg_one {x : Str} {i : Nat} (hN : X.N.Nodup) (h1 : X.N[i]? = some x) (h2 : Loc X.env.scope x) (h3 : X.fn x = true ∨ X.env.scope.names.lookup x = some .local) : SG A X (.Name x pos) (.one i) := by
  refine PGimp (pg_name hN h1 h2 h3) fun v σ H Q ⟨κ, G, C, ρ, x, ρ', s, e, r, hs, q⟩ => ?_
  simp only [setTg, Option.some.injEq] at hs
  subst hs
  exact q [v] (e.set r i)
theorem sg_many {es : List Expr} {is : List Nat} {k : Nat} (hc : X.calm = true) (hN : X.N.Nodup) (h : NmAt X es is) : SG A X (.Tuple es k pos) (.many is) := by
  refine PGimp (pg_tup hc (pgs_names hN h) h.len (by
    rw [List.findIdx?_eq_none_iff]
    exact fun p hp => h.star p hp)) fun v σ H Q ⟨κ, G, C, ρ, x, ρ', s, e, r, hs, q⟩ => ?_
  cases r with
  | tup q' rl =>
    simp only [setTg] at hs
    split at hs
    · rename_i hl
      cases hs
      exact ⟨_, _, rfl, same_sqT s.sub q', by rw [rl.length, hl], by rw [rl.length, hl], q _ (e.setAll rl)⟩
    · cases hs
  | _ => simp [setTg] at hs

/-! ### comprehensions -/
def TCv (K : PySem.W.Frag) (A : Ad) (W : WX) (ev : Env → Cells → R Bool) : TT := fun σ H Q => ∃ κ G C ρ, SR K A κ G H C ∧ ER K A κ G σ ρ ∧ Fin K A W κ G H σ (ev ρ C) (fun κ' G' C' b H' => Q b H')
abbrev W0 : WX := fun _ _ _ _ => False
theorem ER.wipe {K : PySem.W.Frag} {κ : List Addr} {G : Hp} : ∀ {own : List Nat} {σ : L2.St} {ρ : Env}, ER K A κ G σ ρ → ER K A κ G (L2.wipe σ own) (wipeE own ρ)
  | [], _, _, h => h
  | i :: own, σ, ρ, h => (ER.wipe (own := own) h).setN none i
theorem Fin.calm {K : PySem.W.Frag} {κ : List Addr} {G H : Hp} {σ σ2 : L2.St} {α β : Type} {r : R α} {k : α → Cells → R β} {P : List Addr → Hp → Cells → β → Hp → Prop} (h : Fin K A W κ G H σ (r.calm.bind k) P) :
    Fin K A W0 κ G H σ2 r (fun κ' G' C' a H' => Fin K A W κ' G' H' σ (k a C') P) := by
  cases r with
  | ok a C => exact h.bind
  | exc c x C => exact h.elim
  | stuck => exact h.elim
theorem sc_none : PTs X [] (TCv X.K A W (evOT T.glob (callF T d) .none)) := by
  refine ⟨fun pins st σ H Q I ⟨κ, G, C, ρ, s, e, f⟩ => pts_nil.run pins st σ H Q I ?_⟩
  simp only [evOT] at f
  exact f.ok s
theorem sc_some {a : Expr} {ma : E} (ha : ST T A d W X a ma) : PTs X [a] (TCv X.K A W (evOT T.glob (callF T d) (.some ma))) := by
  refine ⟨fun pins st σ H Q I ⟨κ, G, C, ρ, s, e, f⟩ => (pts_one ha).run pins st σ H Q I ?_⟩
  simp only [evOT] at f
  exact ⟨κ, G, C, ρ, s, e, f⟩
/-- one turn of a comprehension, as the evaluator has it -/
abbrev cturn (T : Tab) (d : Nat) (t : Tg) (own : List Nat) (oc : OE) (m : E) (ρ : Env) : D → Cells → R (Option D) := fun x C =>
  (R.of (setTg t x (wipeE own ρ)) C).bind fun ρ' C => (evOT T.glob (callF T d) oc ρ' C).bind fun k C => if k then (evE T.glob (callF T d) m ρ' C).bind fun y C => .ok (some y) C else .ok none C
theorem wipe_set (σ : L2.St) (v : Option V) : ∀ {own : List Nat} {i : Nat}, i ∈ own → L2.wipe (σ.set i v) own = L2.wipe σ own
  | j :: own, i, h => by
    show (L2.wipe (σ.set i v) own).set j none = (L2.wipe σ own).set j none
    by_cases hi : i ∈ own
    · rw [wipe_set σ v hi]
    · have hij : i = j := by
        rcases List.mem_cons.mp h with h | h
        · exact h
        · exact absurd h hi
      subst hij
      apply List.ext_getElem?
      intro m
      by_cases hm : i = m
      · subst hm
        rw [List.getElem?_set, List.getElem?_set]
        simp [wipe_length]
      · rw [List.getElem?_set_ne hm, List.getElem?_set_ne hm]
        have out : ∀ (σ : L2.St) (l : List Nat), m ∉ l → (L2.wipe σ l)[m]? = σ[m]? := fun σ l hl => wipe_out hl
        by_cases hmo : m ∈ own
        · have : ∀ (σ τ : L2.St) (l : List Nat), σ.length = τ.length → m ∈ l → (L2.wipe σ l)[m]? = (L2.wipe τ l)[m]? := by
            intro σ τ l hlen hml
            induction l with
            | nil => cases hml
            | cons a l ih =>
              show ((L2.wipe σ l).set a none)[m]? = ((L2.wipe τ l).set a none)[m]?
              by_cases ha : a = m
              · subst ha
                rw [List.getElem?_set, List.getElem?_set]
                simp [wipe_length, hlen]
              · rw [List.getElem?_set_ne ha, List.getElem?_set_ne ha]
                rcases List.mem_cons.mp hml with h | h
                · exact absurd h.symm ha
                · exact ih h
          exact this _ _ own (by simp) hmo
        · rw [out _ _ hmo, out _ _ hmo, List.getElem?_set_ne hm]
theorem wipe_setV {own : List Nat} : ∀ {is : List Nat} {vs : List V} {σ : L2.St}, (∀ i ∈ is, i ∈ own) → L2.wipe (setV is vs σ) own = L2.wipe σ own
  | [], [], _, _ => rfl
  | [], _ :: _, _, _ => rfl
  | _ :: _, [], _, _ => rfl
  | i :: is, v :: vs, σ, h => by
    simp only [setV]
    rw [wipe_setV fun j hj => h j (List.mem_cons_of_mem _ hj), wipe_set _ _ (h i List.mem_cons_self)]
theorem wipe_wipe {own : List Nat} (σ : L2.St) : ∀ {os : List Nat}, (∀ i ∈ os, i ∈ own) → L2.wipe (L2.wipe σ os) own = L2.wipe σ own
  | [], _ => rfl
  | o :: os, h => by
    show L2.wipe ((L2.wipe σ os).set o none) own = _
    rw [wipe_set _ _ (h o List.mem_cons_self), wipe_wipe σ fun j hj => h j (List.mem_cons_of_mem _ hj)]
theorem rev_cons {K : PySem.W.Frag} {κ : List Addr} {G : Hp} {vs : List V} {acc : List D} {v : V} {y : D} (r : RepL K A κ G vs acc.reverse) (ry : Rep K A κ G v y) : RepL K A κ G (vs ++ [v]) (y :: acc).reverse := by
  rw [List.reverse_cons]; exact r.app (.cons ry .nil)
theorem Ext.wr {κ κ' : List Addr} {G H G' H' : Hp} {p : Addr} {o : HO} (x : Ext κ G H κ' G' H') (hp : H p = none) : Ext κ G H κ' G' (upd H' p o) :=
  ⟨x.pre, x.same, fun a u e k => by
    obtain ⟨h1, h2, h3⟩ := x.fr a u e k
    exact ⟨by rw [upd_ne (ne_of_none e hp)]; exact h1, h2, h3⟩⟩
theorem SR.wrH {K : PySem.W.Frag} {κ : List Addr} {G H : Hp} {C : Cells} {p : Addr} {o : HO} (s : SR K A κ G H C) (hg : G p = none) (hk : p ∉ κ) : SR K A κ G (upd H p o) C := by
  refine ⟨fun b u e => ?_, s.len, fun i a xs h1 h2 => ?_, s.nd⟩
  · rw [upd_ne (ne_of_none e hg)]; exact s.sub b u e
  · obtain ⟨g, nc, vs, hv, r⟩ := s.cell i a xs h1 h2
    have hne : a ≠ p := fun z => hk (z ▸ List.mem_of_getElem? h1)
    exact ⟨g, nc, vs, by rw [upd_ne hne]; exact hv, r⟩
end
end ML

set_option maxHeartbeats 1000000
/-! Methods of lists, list(range), new lists. -/
namespace ML
open PySem PySem.Spec PyProof.Rows L2 RZ
section
variable {X : Cx} {A : Ad} {W : WX} {T : Tab} {d : Nat} {pos : Pos}
theorem nocL_app : ∀ {xs ys : List D}, D.nocL xs = true → D.nocL ys = true → D.nocL (xs ++ ys) = true
  | [], _, _, h => h
  | x :: xs, ys, h, h' => by
    simp only [D.nocL, Bool.and_eq_true, List.cons_append] at h ⊢
    exact ⟨h.1, nocL_app h.2 h'⟩
theorem nocL_set : ∀ {xs : List D} {i : Nat} {y : D}, D.nocL xs = true → y.noc = true → D.nocL (xs.set i y) = true
  | [], _, _, h, _ => h
  | x :: xs, 0, y, h, hy => by
    simp only [D.nocL, Bool.and_eq_true, List.set_cons_zero] at h ⊢
    exact ⟨hy, h.2⟩
  | x :: xs, i + 1, y, h, hy => by
    simp only [D.nocL, Bool.and_eq_true, List.set_cons_succ] at h ⊢
    exact ⟨h.1, nocL_set h.2 hy⟩
theorem nocL_erase : ∀ {xs : List D} {i : Nat}, D.nocL xs = true → D.nocL (xs.eraseIdx i) = true
  | [], _, h => h
  | x :: xs, 0, h => by simp only [D.nocL, Bool.and_eq_true] at h; exact h.2
  | x :: xs, i + 1, h => by
    simp only [D.nocL, Bool.and_eq_true, List.eraseIdx_cons_succ] at h ⊢
    exact ⟨h.1, nocL_erase h.2⟩
theorem Ext.wrC {κ : List Addr} {G H : Hp} {i : Nat} {p : Addr} {o : HO} (h : κ[i]? = some p) : Ext κ G H κ G (upd H p o) :=
  ⟨Pre.refl _, Same.refl _, fun a u e k =>
    have hne : a ≠ p := fun z => k (by rw [z]; exact List.mem_of_getElem? h)
    ⟨by rw [upd_ne hne]; exact e, k, fun z => z⟩⟩
/-- a receiver that is a cell, then one argument -/
theorem cell_meth {x : E} {a : Expr} {σ : L2.St} {H : Hp} {Q : VK} {κ : List Addr} {G : Hp} {C : Cells} {ρ : Env} {ma : E} {r : V → List V → Hp → VK → Prop} {k : Nat → D → Cells → R D} {P : List Addr → Hp → Cells → D → Hp → Prop}
    (s : SR X.K A κ G H C) (e : ER X.K A κ G σ ρ)
    (f : Fin X.K A W κ G H σ ((evE T.glob (callF T d) x ρ C).bind fun x C => match x with | .cell i => (evE T.glob (callF T d) ma ρ C).bind fun y C => k i y C | _ => .stuck) P)
    (hk : ∀ (i : Nat) (p : Addr) (κ' : List Addr) (G' : Hp) (C' : Cells) (y : D) (H' : Hp) (u : V), κ'[i]? = some p → SR X.K A κ' G' H' C' → ER X.K A κ' G' σ ρ → Rep X.K A κ' G' u y → Fin X.K A W κ' G' H' σ (k i y C') P → r (.ref p) [u] H' Q) :
    tBM X.K "list" r (TEv X.K A W (ev T d x)) (tCons (TEv X.K A W (ev T d ma)) tNil) σ H Q := by
  refine TEv.step s e f fun κ1 G1 C1 y H1 v x1 s1 e1 r1 f1 => ?_
  cases r1 with
  | @cell i p hp =>
    have hi := (List.getElem?_eq_some_iff.mp hp).1
    have hc1 : i < C1.length := by rw [← s1.len]; exact hi
    obtain ⟨_, _, vs1, hv1, _⟩ := s1.cell i p C1[i] hp (List.getElem?_eq_getElem hc1)
    refine ⟨.inl ⟨rfl, vs1, sqL_of (.inl hv1)⟩, ?_⟩
    exact TEv.step s1 e1 f1 fun κ2 G2 C2 z H2 u x2 s2 e2 r2 f2 => hk i p κ2 G2 C2 z H2 u (x2.pre i p hp) s2 e2 r2 f2
  | _ => exact f1.elim
theorem se_app {x : Str} {px apos : Pos} {a : Expr} {mo ma : E} (hbase : attributeBase (.Name x px) "append" X.env (eval (.Name x px) X.env) = eval (.Name x px) X.env)
    (hfew : ((backTo pos (starEach [a] X.env)).all (fun x => !x.1) && (backToKw pos (keywordEach [] X.env)).all (fun x => x.1.isSome) && decide ([a].length + ([] : List Keyword).length + (if ([] : List Keyword).isEmpty then 0 else 1) < 30)) = true)
    (hline : (apos.endLine == pos.line) = true) (hs : starEach [a] X.env = (false, eval a X.env) :: starEach [] X.env)
    (ho : SE T A d W X (.Name x px) mo) (ha : SE T A d W X a ma) : SE T A d W X (.Call (.Attribute (.Name x px) "append" apos) [a] [] pos) (.app mo ma) := by
  refine PEimp (pe_bm PySem.F.plainAttrs_list PySem.F.slot_list_append PySem.F.type_list_append mt_append ho (pa_cons ha pa_nil hs) hbase hfew hline hs (by rfl)) fun σ H Q ⟨κ, G, C, ρ, s, e, f⟩ => ?_
  simp only [ev, evE] at f
  refine cell_meth (a := a) s e f fun i p κ2 G2 C2 z H2 u hp s2 e2 r2 f2 => ?_
  cases hc : C2[i]? with
  | none => simp only [hc] at f2; exact f2.elim
  | some xs =>
    simp only [hc] at f2
    split at f2
    · rename_i hlen
      obtain ⟨_, nc, vs, hv, rl⟩ := s2.cell i p xs hp hc
      have hsz := sizeLine_eq
      refine ⟨p, vs, u, rfl, rfl, hv, by rw [rl.length]; omega, ?_⟩
      exact f2 κ2 G2 _ (Ext.wrC hp) (s2.write hp (List.getElem?_eq_some_iff.mp hc).1 (nocL_app nc (by simp [D.nocL, hlen.2])) (rl.app (.cons r2 .nil))) _ .non
    · exact f2.elim
/-- extend by a list, tracked or known -/
def rExtR : V → List V → Hp → VK → Prop := fun x vs H Q => ∃ l b xs zs, x = .ref l ∧ vs = [.ref b] ∧ H l = some (.lst xs) ∧ Rd H b (.lst zs) ∧ xs.length + zs.length ≤ sizeLine ∧ Q .non (upd H l (.lst (xs ++ zs)))
theorem mt_extendR : MtM X "list.extend" rExtR := by
  intro pins s σ H x vs v us Q I rx rv h
  obtain ⟨l, b, xs, zs, rfl, rfl, hH, hB, hz, q⟩ := h
  cases rx
  obtain ⟨u, rfl, ru⟩ := rv.one
  cases ru
  obtain ⟨z, its, n, r, hl, e⟩ := I.lstM hH
  obtain ⟨z2, its2, n2, r2, hl2, e2⟩ := Inv.lstR I hB
  have hsz : its.toArray.size + its2.toArray.size ≤ sizeLine := by rw [List.size_toArray, List.size_toArray]; omega
  have hlong : ¬ (!its.toArray.isEmpty && Builtin.List.listTooLong (its.toArray.size + its2.toArray.size)) = true := by
    rw [notLongL hsz, Bool.and_false]
    exact Bool.false_ne_true
  refine call_meets F.slot_list_extend ⟨_, e, rfl⟩ F.entry_list_extend (F.args_list_extend_2 _ _)
    (AutoSeq1.list_extend_list_list_0 l its.toArray n b its2.toArray n2 hlong (by rw [List.size_toArray]; omega) (by omega)) ⟨e, e2, ?_⟩
  refine ⟨.non, _, I.lset (its' := its ++ its2) hH e (by simp) (r.append r2) ?_, rfl, q⟩
  rw [List.length_append]
  omega
theorem se_ext {x : Str} {px apos : Pos} {a : Expr} {mo ma : E} (hbase : attributeBase (.Name x px) "extend" X.env (eval (.Name x px) X.env) = eval (.Name x px) X.env)
    (hfew : ((backTo pos (starEach [a] X.env)).all (fun x => !x.1) && (backToKw pos (keywordEach [] X.env)).all (fun x => x.1.isSome) && decide ([a].length + ([] : List Keyword).length + (if ([] : List Keyword).isEmpty then 0 else 1) < 30)) = true)
    (hline : (apos.endLine == pos.line) = true) (hs : starEach [a] X.env = (false, eval a X.env) :: starEach [] X.env)
    (ho : SE T A d W X (.Name x px) mo) (ha : SE T A d W X a ma) : SE T A d W X (.Call (.Attribute (.Name x px) "extend" apos) [a] [] pos) (.ext mo ma) := by
  refine PEimp (pe_bm PySem.F.plainAttrs_list PySem.F.slot_list_extend PySem.F.type_list_extend mt_extendR ho (pa_cons ha pa_nil hs) hbase hfew hline hs (by rfl)) fun σ H Q ⟨κ, G, C, ρ, s, e, f⟩ => ?_
  simp only [ev, evE] at f
  refine cell_meth (a := a) s e f fun i p κ2 G2 C2 z H2 u hp s2 e2 r2 f2 => ?_
  cases hy : z.val C2 with
  | lst ys =>
    cases hc : C2[i]? with
    | none => simp only [hy, hc] at f2; exact f2.elim
    | some xs =>
      simp only [hy, hc] at f2
      split at f2
      · rename_i hlen
        obtain ⟨_, nc, vs, hv, rl⟩ := s2.cell i p xs hp hc
        obtain ⟨b, us, rfl, hb, rl2⟩ := r2.seqL s2 hy
        have hsz := sizeLine_eq
        refine ⟨p, b, vs, us, rfl, rfl, hv, hb, by rw [rl.length, rl2.length]; omega, ?_⟩
        exact f2 κ2 G2 _ (Ext.wrC hp) (s2.write hp (List.getElem?_eq_some_iff.mp hc).1 (nocL_app nc hlen.2) (rl.app rl2)) _ .non
      · exact f2.elim
  | _ => simp only [hy] at f2; exact f2.elim
theorem se_pop {x : Str} {px apos : Pos} {a : Expr} {mo ma : E} (hbase : attributeBase (.Name x px) "pop" X.env (eval (.Name x px) X.env) = eval (.Name x px) X.env)
    (hfew : ((backTo pos (starEach [a] X.env)).all (fun x => !x.1) && (backToKw pos (keywordEach [] X.env)).all (fun x => x.1.isSome) && decide ([a].length + ([] : List Keyword).length + (if ([] : List Keyword).isEmpty then 0 else 1) < 30)) = true)
    (hline : (apos.endLine == pos.line) = true) (hs : starEach [a] X.env = (false, eval a X.env) :: starEach [] X.env)
    (ho : SE T A d W X (.Name x px) mo) (ha : SE T A d W X a ma) : SE T A d W X (.Call (.Attribute (.Name x px) "pop" apos) [a] [] pos) (.pop mo ma) := by
  refine PEimp (pe_bm PySem.F.plainAttrs_list PySem.F.slot_list_pop PySem.F.type_list_pop mt_popAt ho (pa_cons ha pa_nil hs) hbase hfew hline hs (by rfl)) fun σ H Q ⟨κ, G, C, ρ, s, e, f⟩ => ?_
  simp only [ev, evE] at f
  refine cell_meth (a := a) s e f fun i p κ2 G2 C2 z H2 u hp s2 e2 r2 f2 => ?_
  cases hc : C2[i]? with
  | none => simp only [hc] at f2; exact f2.elim
  | some xs =>
    cases r2 with
    | int k =>
      simp only [hc] at f2
      split at f2
      · rename_i j hj
        split at hj
        · rename_i hr
          split at f2
          · rename_i y hy
            obtain ⟨_, nc, vs, hv, rl⟩ := s2.cell i p xs hp hc
            obtain ⟨w, hw, rw'⟩ := rl.get hy
            have hb := rngOk_iff hr
            obtain ⟨h1, h2, h3, h4⟩ := ixN_seq (n := xs.length) (i := k) (j := j) hj
            refine ⟨p, vs, k, j, w, rfl, rfl, hv, by omega, by omega, by rw [rl.length]; exact h1, hw, ?_⟩
            exact f2 κ2 G2 _ (Ext.wrC hp) (s2.write hp (List.getElem?_eq_some_iff.mp hc).1 (nocL_erase nc) (rl.erase j)) w rw'
          · exact f2.elim
        · cases hj
      · exact f2.elim
    | _ => simp only [hc] at f2; exact f2.elim

/-! ### new lists -/
/-- what an expression that makes a new list gives: a list at an address that was free, not seen as data -/
def TLv (K : PySem.W.Frag) (A : Ad) (W : WX) (ev : Env → Cells → R D) : TE := fun σ H Q => ∃ κ G C ρ, SR K A κ G H C ∧ ER K A κ G σ ρ ∧
  Fin K A W κ G H σ (ev ρ C) (fun κ' G' C' z H' => ∀ (xs : List D) (vs : List V) (p : Addr), z = D.lst xs → H' p = some (HO.lst vs) → G' p = none → p ∉ κ' → H p = none → RepL K A κ' G' vs xs → Q (.ref p) H')
abbrev SL (T : Tab) (A : Ad) (d : Nat) (W : WX) (X : Cx) (e : Expr) (m : E) : Prop := PE X e (TLv X.K A W (ev T d m))
theorem Ext.see {κ κ' : List Addr} {G H G' H' : Hp} {p : Addr} {o : HO} (x : Ext κ G H κ' G' H') (hg : G' p = none) (hp : H p = none) : Ext κ G H κ' (upd G' p o) H' :=
  ⟨x.pre, x.same.trans (same_upd hg), fun a u e k => by
    obtain ⟨a1, a2, a3⟩ := x.fr a u e k
    exact ⟨a1, a2, fun z => by rw [upd_ne (ne_of_none e hp)]; exact a3 z⟩⟩
theorem TLv.of {f : Env → Cells → R D} {σ : L2.St} {H : Hp} {Q : VK} (h : TEv X.K A W f σ H Q) : TLv X.K A W f σ H Q := by
  obtain ⟨κ, G, C, ρ, s, e, f'⟩ := h
  refine ⟨κ, G, C, ρ, s, e, ?_⟩
  cases hz : f ρ C with
  | ok z C1 =>
    rw [hz] at f'
    intro κ1 G1 H1 x1 s1 xs vs p ez hp hg hk h0 r
    subst ez
    exact f' κ1 _ H1 (x1.see hg h0) (s1.see hp hg hk) _ (.lst (.inl upd_same) (r.mono (Pre.refl _) (same_upd hg)))
  | exc c x C1 => rw [hz] at f'; exact f'
  | stuck => rw [hz] at f'; exact f'
theorem SL.se {e : Expr} {m : E} (h : SL T A d W X e m) : SE T A d W X e m := PEimp h fun _ _ _ q => TLv.of q
theorem free_back {κ κ' : List Addr} {G H G' H' : Hp} {C C' : Cells} {p : Addr} (x : Ext κ G H κ' G' H') (s : SR X.K A κ G H C) (s' : SR X.K A κ' G' H' C') (hp : H' p = none) : H p = none := by
  cases e : H p with
  | none => rfl
  | some o =>
    by_cases hk : p ∈ κ
    · obtain ⟨i, hi, e1⟩ := List.getElem_of_mem hk
      have := x.pre i p (by rw [List.getElem?_eq_getElem hi, e1])
      exact absurd (List.mem_of_getElem? this) (s'.notin hp)
    · rw [(x.fr p o e hk).1] at hp; cases hp
theorem newL {κ κ' : List Addr} {G H G' H' : Hp} {C C' : Cells} {σ : L2.St} {p : Addr} {vs : List V} {xs : List D} {Q : VK} (x : Ext κ G H κ' G' H') (s : SR X.K A κ G H C) (s' : SR X.K A κ' G' H' C') (hp : H' p = none) (r : RepL X.K A κ' G' vs xs)
    (f : Fin X.K A W κ' G' H' σ (R.ok (D.lst xs) C') (fun κ' G' C' z H' => ∀ (xs : List D) (vs : List V) (p : Addr), z = D.lst xs → H' p = some (HO.lst vs) → G' p = none → p ∉ κ' → H p = none → RepL X.K A κ' G' vs xs → Q (.ref p) H')) : Q (.ref p) (upd H' p (.lst vs)) :=
  f κ' G' _ (s'.extH hp) (s'.newH hp) xs vs p rfl upd_same (s'.free hp) (s'.notin hp) (free_back x s s' hp) r
theorem sl_lst {es : List Expr} {ms : Es} (hl : ms.len ≤ 1000) (h : SA T A d W X es ms) : SL T A d W X (.List es pos) (.lst ms) := by
  refine PEimp (pe_lst h) fun σ H Q ⟨κ, G, C, ρ, s, e, f⟩ => ?_
  simp only [ev, evE] at f
  refine TAv.stepL s e f fun κ1 G1 C1 xs H1 vs hn x1 s1 e1 r1 f1 => ⟨?_, fun p hp => newL x1 s s1 hp r1 f1⟩
  rw [r1.length, hn, sizeLine_eq]; omega
theorem sl_list {x : Str} {p : Pos} {a : Expr} {ma : E} (hg : Gl X x) (hm : X.mg x = none) (hx : x = "list") (he : starEach [a] X.env = (false, eval a X.env) :: starEach [] X.env) (h : SE T A d W X a ma) : SL T A d W X (.Call (.Name x p) [a] [] pos) (.bf .list (.cons ma .nil)) := by
  subst hx
  refine PEimp (pe_callTy call_list_of hg hm (by decide +kernel) (pa_cons h pa_nil he) (by decide +kernel) (by decide +kernel) he (by rfl)) fun σ H Q ⟨κ, G, C, ρ, s, e, f⟩ => ?_
  simp only [ev, evE, evEs, bind_assoc, R.bind_ok] at f
  refine TEv.step s e f fun κ1 G1 C1 y H1 v x1 s1 e1 r1 f1 => ?_
  obtain ⟨z, hz, f2⟩ := f1.of
  simp only [blt, Option.map_eq_some_iff] at hz
  obtain ⟨ys, hy, rfl⟩ := hz
  obtain ⟨a', ws, rfl, q, rw'⟩ := r1.itemsE s1 hy
  exact ⟨a', ws, rfl, q.imp sqL_of id, fun p hp => newL x1 s s1 hp rw' f2⟩
theorem sl_rep {es : List Expr} {b : Expr} {ms : Es} {mb : E} {p1 : Pos} (hl : ms.len ≤ 1000) (ha : SA T A d W X es ms) (hb : SE T A d W X b mb) : SL T A d W X (.BinOp (.List es p1) .Mult b pos) (.bin .mul (.lst ms) mb) := by
  refine PEimp (pe_op op_repR (pe_lst ha) hb) fun σ H Q ⟨κ, G, C, ρ, s, e, f⟩ => ?_
  simp only [ev, evE, bind_assoc, R.bind_ok] at f
  refine TAv.stepL s e f fun κ1 G1 C1 xs H1 vs hn x1 s1 e1 r1 f1 => ⟨by rw [r1.length, hn, sizeLine_eq]; omega, fun p hp => ?_⟩
  have s1' := s1.new (o := .lst vs) hp
  have x1' := s1.ext (o := .lst vs) hp
  have g1 := same_upd (o := HO.lst vs) (s1.free hp)
  refine TEv.step s1' (e1.mono (Pre.refl _) g1) (f1.later x1') fun κ2 G2 C2 y H2 u x2 s2 e2 r2 f2 => ?_
  obtain ⟨z, hz, f3⟩ := f2.of
  obtain ⟨k, rfl, hc, rfl⟩ : ∃ k : Int, y = .int k ∧ (-(2 ^ 63) ≤ k ∧ k < 2 ^ 63 ∧ xs.length * k.toNat ≤ 16777216) ∧ z = .lst (repeatL k.toNat xs) := by
    cases hy : y.val C2 with
    | int k =>
      have := val_int hy; subst this
      simp only [binop, D.val] at hz
      split at hz
      · rename_i hc
        cases hz
        exact ⟨k, rfl, hc, rfl⟩
      · cases hz
    | _ => simp only [binop, hy, show (D.lst xs).val C2 = .lst xs from rfl, reduceCtorEq] at hz
  cases r2
  have hG2 : G2 p = some (.lst vs) := x2.same p _ upd_same
  have r1' := (r1.mono (Pre.refl _) g1).mono x2.pre x2.same
  have hsz := sizeLine_eq
  exact ⟨p, k, vs, rfl, rfl, .inl (s2.sub p _ hG2), hc.1, hc.2.1, by rw [r1.length, hsz]; exact hc.2.2, fun q hq => newL ((x1.trans x1').trans x2) s s2 hq (r1'.repeat _) f3⟩
theorem sl_ite {c a b : Expr} {mc ma mb : E} (hc : ST T A d W X c mc) (ha : SL T A d W X a ma) (hb : SL T A d W X b mb) : SL T A d W X (.IfExp c a b pos) (.ite mc ma mb) := by
  refine PEimp (pe_ifExp hc ha hb) fun σ H Q ⟨κ, G, C, ρ, s, e, f⟩ => ?_
  simp only [ev, evE] at f
  rw [← bind_assoc] at f
  refine TTv.step s e f fun κ1 G1 C1 k H1 x1 s1 e1 f1 => ?_
  have fin : ∀ {m : E}, Fin X.K A W κ1 G1 H1 σ (evE T.glob (callF T d) m ρ C1) (fun κ' G' C' z H' => ∀ (xs : List D) (vs : List V) (p : Addr), z = D.lst xs → H' p = some (HO.lst vs) → G' p = none → p ∉ κ' → H p = none → RepL X.K A κ' G' vs xs → Q (.ref p) H') →
      TLv X.K A W (ev T d m) σ H1 Q := fun f => ⟨κ1, G1, C1, ρ, s1, e1, f.mono fun κ2 G2 C2 z H2 x2 s2 q xs vs p ez hp hg hk h0 r => q xs vs p ez hp hg hk (free_back x1 s s1 h0) r⟩
  cases k with
  | true => rw [if_pos rfl] at f1 ⊢; exact fin f1
  | false => rw [if_neg Bool.false_ne_true] at f1 ⊢; exact fin f1
theorem sl_or {a b : Expr} {ma mb : E} (ha : SL T A d W X a ma) (hb : SL T A d W X b mb) : SL T A d W X (.BoolOp .Or [a, b] pos) (.or ma mb) := by
  refine PEimp (pe_orT ha (pe_one hb)) fun σ H Q ⟨κ, G, C, ρ, s, e, f⟩ => ?_
  simp only [ev, evE] at f
  refine ⟨κ, G, C, ρ, s, e, f.bind.mono fun κ1 G1 C1 x H1 x1 s1 f1 xs vs p ez hp hg hk h0 r => ?_⟩
  subst ez
  simp only [truth, R.of_some, R.bind_ok] at f1
  refine ⟨!vs.isEmpty, .inl ⟨vs, sqL_of (.inl hp), rfl⟩, ?_⟩
  rw [r.isEmpty]
  cases hxs : xs.isEmpty with
  | false =>
    rw [hxs] at f1
    simp only [Bool.not_false, if_true] at f1 ⊢
    exact f1.ok s1 xs vs p rfl hp hg hk h0 r
  | true =>
    rw [hxs] at f1
    simp only [Bool.not_true, Bool.false_eq_true, if_false] at f1 ⊢
    exact ⟨κ1, G1, C1, ρ, s1, e.mono x1.pre x1.same, f1.mono fun κ2 G2 C2 z H2 x2 s2 q xs vs p ez hp hg hk h0 r => q xs vs p ez hp hg hk (free_back x1 s s1 h0) r⟩
/-! list(range(..)) -/
def PRc (X : Cx) (e : Expr) (t : L2.St → Hp → (Int → Int → Int → Nat → Hp → Prop) → Prop) : Prop :=
  ∀ (pins : List (Addr × Obj)) (s : Shared) (σ : L2.St) (H : Hp) (Q : Int → Int → Int → Nat → Hp → Prop), L2.Inv X pins σ H s → t σ H Q →
    wpAny (model X.prog X.w) X.A (eval e X.env) (fun x s' => ∃ (r : Addr) (a b c : Int) (n : Nat) (t u v : Tok) (H' : Hp), x = .ref r ∧ IsRange s'.heap r a b c t u v ∧ Builtin.Range.small a b c = true ∧ Builtin.Range.rangeSize a b c = n ∧ L2.Inv X pins σ H' s' ∧ Q a b c n H') X.xe s
def rgc (a c : Int) (n : Nat) : List V := (List.range n).map fun i => V.int (a + (i : Nat) * c)
theorem vals_rgc {a c : Int} {n : Nat} {acc : Array Value} (h : ItemsOf (fun i v => ∃ t, v = .int (a + i * c) t) acc n) : Vals (rgc a c n) acc.toList := by
  have e : acc.size = n := h.1
  have := vals_of_get acc.toList (fun i => V.int (a + (i : Nat) * c)) (fun j u hj => by
    have hj' : acc[j]? = some u := by simpa using hj
    obtain ⟨t, ht⟩ := h.2 j u hj'
    exact ⟨t, ht⟩)
  unfold rgc
  rw [Array.length_toList, e] at this
  exact this
theorem pe_listRc {p : Pos} {e : Expr} {te : L2.St → Hp → (Int → Int → Int → Nat → Hp → Prop) → Prop} (hc : X.calm = true) (hg : Gl X "list") (hm : X.mg "list" = none) (he : PRc X e te) (na : starEach [e] X.env = (false, eval e X.env) :: starEach [] X.env) :
    PE X (.Call (.Name "list" p) [e] [] pos) (fun σ H Q => te σ H fun a b c n H1 => n ≤ 2 ^ 24 ∧ ∀ q, H1 q = none → Q (.ref q) (upd H1 q (.lst (rgc a c n)))) := by
  refine ⟨fun pins s σ H Q I h => ?_⟩
  refine Call_ (ld_blt I hg hm boot_list (PyProof.Rows.callWith_type1 (args_cons (thn (he pins s σ H _ I h) fun x s1 ⟨r, a, b, c, n, t, u, v, H1, ex, hr, hsm, hsz, I1, ok, q⟩ => args_nil ?_) na) na))
  subst ex
  refine call_list_range (n := n) (I1.ok.hd hc) hr hsm hsz ok fun h' tk acc c' hk e' hi => ?_
  refine ⟨.ref s1.heap.objs.size, upd H1 s1.heap.objs.size (.lst (rgc a c n)), I1.laid hk (Nat.le_refl _) (show ObjOk X.prog X.w _ _ _ (.lst (rgc a c n)) from ⟨?_, acc.toList, c', vals_rgc hi, ?_⟩), rfl, q _ (I1.hok.fresh (Nat.le_refl _))⟩
  · unfold rgc; rw [List.length_map, List.length_range, sizeLine_eq]; omega
  · rw [Array.toArray_toList]; exact e'
theorem rangeC_ok {a b c : Int} (ha : rngOk a = true) (hb : rngOk b = true) (hc : 0 < c ∧ c < 1000000) : Builtin.Range.small a b c = true ∧ Builtin.Range.rangeSize a b c = (rangeN a b c : Int) := by
  obtain ⟨a1, a2⟩ := rngOk_iff ha
  obtain ⟨b1, b2⟩ := rngOk_iff hb
  have e : Builtin.Range.rangeSize a b c = (rangeN a b c : Int) := by
    unfold Builtin.Range.rangeSize rangeN
    rw [if_pos hc.1]
    split
    · rename_i hab
      have : 0 ≤ (b - a - 1) / c := Int.ediv_nonneg (by omega) (by omega)
      omega
    · rfl
  refine ⟨?_, e⟩
  unfold Builtin.Range.small
  rw [e]
  unfold rangeN
  simp only [Builtin.Range.rangeFitsLong, Bool.and_eq_true, Bool.or_eq_true, decide_eq_true_eq, beq_iff_eq, if_pos hc.1]
  by_cases hab : a < b
  · rw [if_pos hab]
    have h0 : 0 ≤ (b - a - 1) / c := Int.ediv_nonneg (by omega) (by omega)
    have h1 : c * ((b - a - 1) / c) ≤ b - a - 1 := Int.mul_ediv_self_le (by omega)
    have h2 : (b - a - 1) / c ≤ b - a - 1 := Int.ediv_le_self _ (by omega)
    rw [Int.toNat_of_nonneg (by omega)]
    have h3 : ((b - a - 1) / c + 1) * c = c * ((b - a - 1) / c) + c := by rw [Int.add_mul, Int.one_mul, Int.mul_comm]
    first | omega | (rw [h3]; omega) | skip
  · rw [if_neg hab]
    first | omega | simp | skip
    all_goals omega
end
end ML

set_option maxHeartbeats 1000000
/-! list(range), comprehensions as new lists, statements. -/
namespace ML
open PySem PySem.Spec PyProof.Rows L2 RZ
section
variable {X : Cx} {A : Ad} {W : WX} {T : Tab} {d : Nat} {pos : Pos}
theorem rep_rgc {K : PySem.W.Frag} {κ : List Addr} {G : Hp} (a c : Int) (n : Nat) : RepL K A κ G (rgc a c n) ((List.range n).map fun i => D.int (a + (i : Nat) * c)) := by
  unfold rgc
  generalize List.range n = l
  induction l with
  | nil => exact .nil
  | cons i l ih => exact .cons (.int _) ih
theorem rangeD_c (a b : Int) : rangeD a b = (List.range (b - a).toNat).map fun i => D.int (a + (i : Nat) * 1) := by
  unfold rangeD
  refine List.map_congr_left fun i _ => ?_
  rw [Int.mul_one]
/-- range(..), as the evaluator has it -/
def tRc (K : PySem.W.Frag) (A : Ad) (W : WX) (T : Tab) (d : Nat) (ms : Es) : L2.St → Hp → (Int → Int → Int → Nat → Hp → Prop) → Prop := fun σ H Q =>
  TAv K A W (evEs T.glob (callF T d) ms) σ H fun vs H1 => (∃ j : Int, vs = [.int j] ∧ rngOk j = true ∧ Q 0 j 1 (j - 0).toNat H1) ∨ (∃ i j : Int, vs = [.int i, .int j] ∧ rngOk i = true ∧ rngOk j = true ∧ Q i j 1 (j - i).toNat H1) ∨
    ∃ i j c : Int, vs = [.int i, .int j, .int c] ∧ rngOk i = true ∧ rngOk j = true ∧ (0 < c ∧ c < 1000000) ∧ Q i j c (rangeN i j c) H1
theorem prc {a : Expr} {es : List Expr} {ms : Es} {p : Pos} (hg : Gl X "range") (hm : X.mg "range" = none) (he : starEach (a :: es) X.env = (false, eval a X.env) :: starEach es X.env) (hpl : (backTo pos (starEach es X.env)).any (·.1) = false) (h : SA T A d W X (a :: es) ms) :
    PRc X (.Call (.Name "range" p) (a :: es) [] pos) (tRc X.K A W T d ms) := by
  intro pins s σ H Q I q
  refine Call_ (ld_blt I hg hm boot_range (PyProof.Rows.callWith_type1 (thn (h.run pos pins s σ H _ I q) fun us s1 ⟨vs, H1, I1, r1, q1⟩ => ?_) he hpl))
  rcases q1 with ⟨j, rfl, hj, q⟩ | ⟨i, j, rfl, hi, hj, q⟩ | ⟨i, j, c, rfl, hi, hj, hc, q⟩
  · obtain ⟨u, rfl, t, rfl⟩ := vals1 r1
    obtain ⟨h1, h2⟩ := rngOk_iff hj
    exact call_range_1 ⟨_, 0, j, 1, _, _, _, _, H1, rfl, IsRange.new _ _ _ _ _ _ _, small_one (by omega) (by omega) h1 h2, rangeSize_nat 0 j, I1.kept fun b u e => Heap.get?_push_of_some _ e, q⟩
  · obtain ⟨u, w', rfl, ⟨t, rfl⟩, ⟨t', rfl⟩⟩ := vals2 r1
    obtain ⟨h1, h2⟩ := rngOk_iff hj
    obtain ⟨h3, h4⟩ := rngOk_iff hi
    exact call_range_2 ⟨_, i, j, 1, _, _, _, _, H1, rfl, IsRange.new _ _ _ _ _ _ _, small_one h3 h4 h1 h2, rangeSize_nat i j, I1.kept fun b u e => Heap.get?_push_of_some _ e, q⟩
  · cases r1 with
    | cons r r1 =>
      obtain ⟨u, w', rfl, ⟨t, rfl⟩, ⟨t', rfl⟩⟩ := vals2 r1
      obtain ⟨t0, rfl⟩ := r
      obtain ⟨h1, h2⟩ := rangeC_ok hi hj hc
      exact call_range_3 (by omega) ⟨_, i, j, c, _, _, _, _, H1, rfl, IsRange.new _ _ _ _ _ _ _, h1, h2, I1.kept fun b u e => Heap.get?_push_of_some _ e, q⟩ (.inl (PyProof.noPylong_small (by omega)))
theorem rngop_cases {xs ys : List D} (h : rngop xs = some ys) : (∃ j, xs = [.int j] ∧ rngOk j = true ∧ ys = rangeD 0 j) ∨ (∃ i j, xs = [.int i, .int j] ∧ rngOk i = true ∧ rngOk j = true ∧ ys = rangeD i j) ∨
    ∃ i j c, xs = [.int i, .int j, .int c] ∧ rngOk i = true ∧ rngOk j = true ∧ (0 < c ∧ c < 1000000) ∧ ys = rangeC i j c := by
  unfold rngop at h
  split at h
  · split at h
    · rename_i hj; cases h; exact .inl ⟨_, rfl, hj, rfl⟩
    · cases h
  · split at h
    · rename_i hj; cases h
      rw [Bool.and_eq_true] at hj
      exact .inr (.inl ⟨_, _, rfl, hj.1, hj.2, rfl⟩)
    · cases h
  · split at h
    · rename_i hj; cases h
      rw [Bool.and_eq_true, Bool.and_eq_true] at hj
      exact .inr (.inr ⟨_, _, _, rfl, hj.1.1, hj.1.2, of_decide_eq_true hj.2, rfl⟩)
    · cases h
  · cases h
theorem sl_lof {p : Pos} {e : Expr} {ms : Es} (hc : X.calm = true) (hg : Gl X "list") (hm : X.mg "list" = none) (na : starEach [e] X.env = (false, eval e X.env) :: starEach [] X.env) (he : PRc X e (tRc X.K A W T d ms)) : SL T A d W X (.Call (.Name "list" p) [e] [] pos) (.lof (.rng ms)) := by
  refine PEimp (pe_listRc hc hg hm he na) fun σ H Q ⟨κ, G, C, ρ, s, e, f⟩ => ?_
  simp only [ev, evE, evSrc, bind_assoc] at f
  refine TAv.step s e f fun κ1 G1 C1 xs H1 vs x1 s1 e1 r1 f1 => ?_
  obtain ⟨ys, hy, f2⟩ := f1.ofB
  simp only [R.bind_ok] at f2
  split at f2
  rotate_left
  · exact f2.elim
  rename_i hlen
  rcases rngop_cases hy with ⟨j, rfl, hj, rfl⟩ | ⟨i, j, rfl, hi, hj, rfl⟩ | ⟨i, j, c, rfl, hi, hj, hc', rfl⟩
  · obtain ⟨v, rfl, rv⟩ := r1.one
    cases rv
    rw [rangeD_c] at f2 hlen
    exact .inl ⟨j, rfl, hj, by simpa using hlen, fun q hq => newL x1 s s1 hq (rep_rgc _ _ _) f2⟩
  · obtain ⟨v, u, rfl, rv, ru⟩ := r1.two
    cases rv; cases ru
    rw [rangeD_c] at f2 hlen
    exact .inr (.inl ⟨i, j, rfl, hi, hj, by simpa using hlen, fun q hq => newL x1 s s1 hq (rep_rgc _ _ _) f2⟩)
  · obtain ⟨v, u, w, rfl, rv, ru, rw'⟩ := r1.three
    cases rv; cases ru; cases rw'
    exact .inr (.inr ⟨i, j, c, rfl, hi, hj, hc', by simpa [rangeC] using hlen, fun q hq => newL x1 s s1 hq (rep_rgc _ _ _) f2⟩)
theorem si_rng3 {tg a b c : Expr} {p : Pos} {ms : Es} (hg : Gl X "range") (hm : X.mg "range" = none) (hs : starEach [a, b, c] X.env = (false, eval a X.env) :: starEach [b, c] X.env) (hpl : (backTo pos (starEach [b, c] X.env)).any (·.1) = false) (hl : ms.len = 3) (h : SA T A d W X [a, b, c] ms) :
    SI T A d W X tg (.Call (.Name "range" p) [a, b, c] [] pos) (.rng ms) := by
  refine PIimp (pi_range3 hg hm h hs hpl) fun σ H R ⟨κ, G, C, ρ, s, e, f⟩ => ?_
  simp only [evSrc] at f
  refine TAv.stepL s e f fun κ1 G1 C1 xs H1 vs hn x1 s1 e1 r1 f1 => ?_
  obtain ⟨ys, hy, f2⟩ := f1.ofB
  rw [hl] at hn
  rcases rngop_cases hy with ⟨j, rfl, hj, rfl⟩ | ⟨i, j, rfl, hi, hj, rfl⟩ | ⟨i, j, c, rfl, hi, hj, hc', rfl⟩
  · simp at hn
  · simp at hn
  · obtain ⟨v, u, w, rfl, rv, ru, rw'⟩ := r1.three
    cases rv; cases ru; cases rw'
    obtain ⟨h1, h2⟩ := rangeC_ok hi hj hc'
    exact ⟨i, j, c, rangeN i j c, rfl, ⟨by omega, by omega, h1, h2⟩, f2.ok s1 rfl _ (jok_rangeC _ _ _)⟩
theorem sl_comp {elt tg iter : Expr} {ifs : List Expr} {scope : Scope} {ownP : List (Str × Nat)} {s : Src} {t : Tg} {oc : OE} {m : E} (hc : X.calm = true) (hN : X.N.Nodup) (hi : SI T A d W X tg iter s) (ok : BlkOk X.N X.env.scope scope ownP)
    (hsl : ∀ i ∈ t.slots, i ∈ ownP.map (·.2)) (hs : ∀ x, foldedSetIterable iter X.env x = pure x)
    (hg : ∀ (s : Shared) (H : Hp) (C : Addr) (cl : List (Str × Addr)) (fp : List Addr), SG A (X.blk s H scope (compEnvC scope cl C X.env) fp) tg t)
    (ht : ∀ (s : Shared) (H : Hp) (C : Addr) (cl : List (Str × Addr)) (fp : List Addr), PTs (X.blk s H scope (compEnvC scope cl C X.env) fp) ifs (TCv X.K A W0 (evOT T.glob (callF T d) oc)))
    (he : ∀ (s : Shared) (H : Hp) (C : Addr) (cl : List (Str × Addr)) (fp : List Addr), SE T A d W0 (X.blk s H scope (compEnvC scope cl C X.env) fp) elt m) :
    (SL T A d W X (.ListComp elt [⟨tg, iter, ifs, 0⟩] scope pos) (.comp (ownP.map (·.2)) s t oc m)) ∧
    ∀ σ H Q, TLv X.K A W (ev T d (.comp (ownP.map (·.2)) s t oc m)) σ H Q → tLc (TIv X.K A W (evSrc T.glob (callF T d) s)) (TGv X.K A t) (TCv X.K A W0 (evOT T.glob (callF T d) oc)) (TEv X.K A W0 (ev T d m)) (ownP.map (·.2)) σ H Q := by
  have main : ∀ σ H Q, TLv X.K A W (ev T d (.comp (ownP.map (·.2)) s t oc m)) σ H Q → tLc (TIv X.K A W (evSrc T.glob (callF T d) s)) (TGv X.K A t) (TCv X.K A W0 (evOT T.glob (callF T d) oc)) (TEv X.K A W0 (ev T d m)) (ownP.map (·.2)) σ H Q := ?_
  · exact ⟨PEimp (pe_lc (g := TGv X.K A t) (te := TEv X.K A W0 (ev T d m)) hc hN hi ok hg ht he hs) main, main⟩
  intro σ H Q ⟨κ, G, C, ρ, sr, e, f⟩
  simp only [ev, evE] at f
  generalize hown : ownP.map (·.2) = own at *
  refine ⟨κ, G, C, ρ, sr, e, f.bind.mono fun κ1 G1 C1 p H1 x1 s1 f1 hh J hJ => ?_⟩
  obtain ⟨xs, gd⟩ := p
  simp only at f1 hh hJ
  split at f1
  rotate_left
  · exact f1.elim
  rename_i hlen
  intro dst hdst
  have hsz := sizeLine_eq
  have e1 : ER X.K A κ1 G1 σ ρ := e.mono x1.pre x1.same
  refine ⟨fun i mm H2 => mm = xs.length - i ∧ i ≤ xs.length ∧ ∃ κ2 G2 C2 acc vs, Ext κ1 G1 H1 κ2 G2 H2 ∧ SR X.K A κ2 G2 H2 C2 ∧ held gd xs C2 = true ∧ H2 dst = some (.lst vs) ∧ G2 dst = none ∧ dst ∉ κ2 ∧ RepL X.K A κ2 G2 vs acc.reverse ∧ acc.length ≤ i ∧
    Fin X.K A W κ1 G1 H1 σ ((cloop gd xs (cturn T d t own oc m ρ) (xs.drop i) acc C2).bind fun ys C => .ok (.lst ys) C) (fun κ' G' C' z H' => ∀ (xs : List D) (vs : List V) (p : Addr), z = D.lst xs → H' p = some (HO.lst vs) → G' p = none → p ∉ κ' → H p = none → RepL X.K A κ' G' vs xs → Q (.ref p) H'), ?_, ?_⟩
  · refine ⟨xs.length, by simp, Nat.zero_le _, κ1, G1, C1, [], [], s1.extH hdst, s1.newH hdst, hh, upd_same, s1.free hdst, s1.notin hdst, .nil, Nat.zero_le _, ?_⟩
    rw [List.drop_zero]
    exact f1
  · rintro i mm H2 ⟨rfl, hile, κ2, G2, C2, acc, vs, x2, s2, h2, hD, gD, kD, racc, hal, f2⟩
    have J2 := hJ κ2 G2 H2 C2 x2 s2 h2
    by_cases hi' : i < xs.length
    · right
      have hxi : xs[i]? = some xs[i] := List.getElem?_eq_getElem hi'
      obtain ⟨go, yld⟩ := J2.1 i xs[i] hxi
      refine ⟨go, fun H' => (fun (mm : Nat) => mm = xs.length - (i + 1) ∧ i + 1 ≤ xs.length ∧ ∃ κ2 G2 C2 acc vs, Ext κ1 G1 H1 κ2 G2 H' ∧ SR X.K A κ2 G2 H' C2 ∧ held gd xs C2 = true ∧ H' dst = some (.lst vs) ∧ G2 dst = none ∧ dst ∉ κ2 ∧ RepL X.K A κ2 G2 vs acc.reverse ∧ acc.length ≤ i + 1 ∧
        Fin X.K A W κ1 G1 H1 σ ((cloop gd xs (cturn T d t own oc m ρ) (xs.drop (i + 1)) acc C2).bind fun ys C => .ok (.lst ys) C) (fun κ' G' C' z H' => ∀ (xs : List D) (vs : List V) (p : Addr), z = D.lst xs → H' p = some (HO.lst vs) → G' p = none → p ∉ κ' → H p = none → RepL X.K A κ' G' vs xs → Q (.ref p) H')) (xs.length - (i + 1)), fun H' hN' => ⟨xs.length - (i + 1), by omega, hN'⟩, fun v H3 hy => ?_⟩
      obtain ⟨G3, x3, s3, r3⟩ := yld v H3 hy
      rw [List.drop_eq_getElem_cons hi', cloop] at f2
      simp only [cturn] at f2
      obtain ⟨hD3, kD3, gD3⟩ := x3.fr dst _ hD kD
      have gD3 := gD3 gD
      have e3 : ER X.K A κ2 G3 σ ρ := e1.mono (x2.trans x3).pre (x2.trans x3).same
      cases hρ' : setTg t xs[i] (wipeE own ρ) with
      | none => rw [hρ'] at f2; exact f2.elim
      | some ρ' =>
      rw [hρ'] at f2
      simp only [R.of_some, R.bind_ok] at f2
      refine ⟨κ2, G3, C2, wipeE own ρ, xs[i], ρ', s3, e3.wipe, r3, hρ', fun us hER => ⟨?_, ?_⟩⟩
      · rw [wipe_setV hsl, wipe_wipe σ fun _ h => h]
      · refine ⟨κ2, G3, C2, ρ', s3, hER, ?_⟩
        cases hk : evOT T.glob (callF T d) oc ρ' C2 with
        | exc c x C => rw [hk] at f2; exact f2.elim
        | stuck => rw [hk] at f2; exact f2.elim
        | ok k C4 =>
        rw [hk] at f2
        simp only [R.bind_ok] at f2
        intro κ4 G4 H4 x4 s4
        obtain ⟨hD4, kD4, gD4⟩ := x4.fr dst _ hD3 kD3
        have gD4 := gD4 gD3
        cases k with
        | false =>
          rw [if_neg Bool.false_ne_true] at f2 ⊢
          simp only [R.calm_ok, R.bind_ok] at f2
          split at f2
          rotate_left
          · exact f2.elim
          rename_i hheld
          exact ⟨rfl, hi', κ4, G4, C4, acc, vs, (x2.trans x3).trans x4, s4, hheld, hD4, gD4, kD4, (racc.mono x3.pre x3.same).mono x4.pre x4.same, by omega, f2⟩
        | true =>
          rw [if_pos rfl] at f2 ⊢
          refine ⟨κ4, G4, C4, ρ', s4, hER.mono x4.pre x4.same, ?_⟩
          simp only [ev]
          cases hy5 : evE T.glob (callF T d) m ρ' C4 with
          | exc c x C => rw [hy5] at f2; exact f2.elim
          | stuck => rw [hy5] at f2; exact f2.elim
          | ok y C5 =>
          rw [hy5] at f2
          simp only [R.bind_ok, R.calm_ok] at f2
          intro κ5 G5 H5 x5 s5 w r5
          obtain ⟨hD5, kD5, gD5⟩ := x5.fr dst _ hD4 kD4
          have gD5 := gD5 gD4
          split at f2
          rotate_left
          · exact f2.elim
          rename_i hheld
          have racc5 := ((racc.mono x3.pre x3.same).mono x4.pre x4.same).mono x5.pre x5.same
          have hlv : vs.length ≤ i := by rw [racc5.length, List.length_reverse]; exact hal
          exact ⟨vs, hD5, by rw [hsz]; omega, by simp, hi', κ5, G5, C5, y :: acc, vs ++ [w], (((x2.trans x3).trans x4).trans x5).wr hdst, s5.wrH gD5 kD5, hheld, upd_same, gD5, kD5, rev_cons racc5 r5, by simp only [List.length_cons]; omega, f2⟩
    · left
      have hie : i = xs.length := by omega
      subst hie
      refine ⟨J2.2, ?_⟩
      rw [List.drop_length, cloop, R.bind_ok] at f2
      exact f2 κ2 G2 H2 x2 s2 _ vs dst rfl hD gD kD (free_back x1 sr s1 hdst) racc
end
end ML

set_option maxHeartbeats 1000000
/-! Statements. -/
namespace ML
open PySem PySem.Spec PyProof.Rows L2 RZ
section
variable (K : PySem.W.Frag) (A : Ad) (W : WX) (κ : List Addr) (G H : Hp) (D0 : Ends)
def FinS (r : RS) : Prop :=
  match r with
  | .ok f ρ' C' => ∀ (κ' : List Addr) (G' H' : Hp) (σ' : L2.St), Ext κ G H κ' G' H' → SR K A κ' G' H' C' → ER K A κ' G' σ' ρ' →
      (match f with
      | .next => D0.nx σ' H'
      | .brk => D0.bk σ' H'
      | .cont => D0.ct σ' H'
      | .ret z => ∀ v, Rep K A κ' G' v z → D0.rt v H')
  | .exc c x ρ' C' => ∀ (κ' : List Addr) (G' H' : Hp) (σ' : L2.St) (a : Addr), Ext κ G H κ' G' H' → SR K A κ' G' H' C' → ER K A κ' G' σ' ρ' → A.ec c = some a → x = .non → W (.ref a) none σ' H'
  | .stuck => False
end
def TSv (K : PySem.W.Frag) (A : Ad) (W : WX) (es : Env → Cells → RS) : TS := fun D0 σ H => ∃ κ G C ρ, SR K A κ G H C ∧ ER K A κ G σ ρ ∧ FinS K A W κ G H D0 (es ρ C)
section
variable {X : Cx} {A : Ad} {W : WX} {T : Tab} {d : Nat} {pos : Pos} {K : PySem.W.Frag} {κ κ1 : List Addr} {G G1 H H1 : Hp} {D0 : Ends} {σ : L2.St} {C : Cells} {ρ : Env}
abbrev SS (T : Tab) (A : Ad) (d : Nat) (W : WX) (X : Cx) (st : Stmt) (m : S) : Prop := PS X st (TSv X.K A W (evS T.glob (callF T d) m))
abbrev SB (T : Tab) (A : Ad) (d : Nat) (W : WX) (X : Cx) (st : List Stmt) (m : Ss) : Prop := PSs X st (TSv X.K A W (evSs T.glob (callF T d) m))
theorem FinS.later {r : RS} (h : FinS K A W κ G H D0 r) (x : Ext κ G H κ1 G1 H1) : FinS K A W κ1 G1 H1 D0 r := by
  cases r with
  | ok f ρ C => exact fun κ2 G2 H2 σ2 x2 s2 e2 => h κ2 G2 H2 σ2 (x.trans x2) s2 e2
  | exc c y ρ C => exact fun κ2 G2 H2 σ2 a x2 s2 e2 => h κ2 G2 H2 σ2 a (x.trans x2) s2 e2
  | stuck => exact h
/-- an expression ahead of the rest of a statement -/
theorem FinS.toS {α : Type} {r : R α} {k : α → Cells → RS} (e : ER K A κ G σ ρ) (h : FinS K A W κ G H D0 (r.toS ρ k)) : Fin K A W κ G H σ r (fun κ1 G1 C1 a H1 => FinS K A W κ1 G1 H1 D0 (k a C1)) := by
  cases r with
  | ok a C =>
    intro κ1 G1 H1 x1 s1
    have h' : FinS K A W κ G H D0 (k a C) := h
    exact h'.later x1
  | exc c x C => exact fun κ1 G1 H1 a x1 s1 => h κ1 G1 H1 σ a x1 s1 (e.mono x1.pre x1.same)
  | stuck => exact h
theorem FinS.next (h : FinS K A W κ G H D0 (.ok .next ρ C)) (s : SR K A κ G H C) (e : ER K A κ G σ ρ) : D0.nx σ H := h κ G H σ (Ext.refl _ _ _) s e
theorem TEv.stepS {f : Env → Cells → R D} {Q : VK} {k : D → Cells → RS} (s : SR X.K A κ G H C) (e : ER X.K A κ G σ ρ) (h : FinS X.K A W κ G H D0 ((f ρ C).toS ρ k))
    (hk : ∀ (κ' : List Addr) (G' : Hp) (C' : Cells) (x : D) (H' : Hp) (v : V), Ext κ G H κ' G' H' → SR X.K A κ' G' H' C' → ER X.K A κ' G' σ ρ → Rep X.K A κ' G' v x → FinS X.K A W κ' G' H' D0 (k x C') → Q v H') : TEv X.K A W f σ H Q :=
  ⟨κ, G, C, ρ, s, e, (h.toS e).mono fun κ' G' C' x H' hk' s' f' v r => hk κ' G' C' x H' v hk' s' (e.mono hk'.pre hk'.same) r f'⟩
theorem sb_nil : SB T A d W X [] .nil := by
  refine PSsimp pss_nil fun D0 σ H ⟨κ, G, C, ρ, s, e, f⟩ => ?_
  simp only [evSs] at f
  exact f.next s e
theorem sb_cons {st : Stmt} {rest : List Stmt} {m : S} {ms : Ss} (h1 : SS T A d W X st m) (h2 : SB T A d W X rest ms) : SB T A d W X (st :: rest) (.cons m ms) := by
  refine PSsimp (pss_cons h1 h2) fun D0 σ H ⟨κ, G, C, ρ, s, e, f⟩ => ?_
  simp only [evSs] at f
  refine ⟨κ, G, C, ρ, s, e, ?_⟩
  cases hr : evS T.glob (callF T d) m ρ C with
  | ok fl ρ1 C1 =>
    rw [hr] at f
    cases fl with
    | next =>
      intro κ1 G1 H1 σ1 x1 s1 e1
      exact ⟨κ1, G1, C1, ρ1, s1, e1, FinS.later f x1⟩
    | brk => exact f
    | cont => exact f
    | ret z => exact f
  | exc c x ρ1 C1 => rw [hr] at f; exact f
  | stuck => rw [hr] at f; exact f
theorem ss_pass : SS T A d W X (.Pass pos) .pass := by
  refine PSimp ps_pass fun D0 σ H ⟨κ, G, C, ρ, s, e, f⟩ => ?_
  simp only [evS] at f
  exact f.next s e
theorem ss_break : SS T A d W X (.Break pos) .brk := by
  refine PSimp ps_break fun D0 σ H ⟨κ, G, C, ρ, s, e, f⟩ => ?_
  simp only [evS] at f
  exact f κ G H σ (Ext.refl _ _ _) s e
theorem ss_continue : SS T A d W X (.Continue pos) .cont := by
  refine PSimp ps_continue fun D0 σ H ⟨κ, G, C, ρ, s, e, f⟩ => ?_
  simp only [evS] at f
  exact f κ G H σ (Ext.refl _ _ _) s e
theorem ss_expr {a : Expr} {ma : E} (hs : swapsWith a none pos.line X.env = pure false) (ha : SE T A d W X a ma) : SS T A d W X (.Expr a pos) (.expr ma) := by
  refine PSimp (ps_expr ha hs) fun D0 σ H ⟨κ, G, C, ρ, s, e, f⟩ => ?_
  simp only [evS] at f
  exact TEv.stepS s e f fun κ1 G1 C1 x H1 v x1 s1 e1 r1 f1 => f1.next s1 e1
theorem ss_doc {x : Str} {j : Nat} {p : Pos} : SS T A d W X (.Expr (.Constant (.str x) j p) pos) .pass := by
  refine PSimp ps_doc fun D0 σ H ⟨κ, G, C, ρ, s, e, f⟩ => ?_
  simp only [evS] at f
  exact f.next s e
theorem ss_ret {a : Expr} {ma : E} (ha : SE T A d W X a ma) : SS T A d W X (.Return (some a) pos) (.ret ma) := by
  refine PSimp (ps_ret ha) fun D0 σ H ⟨κ, G, C, ρ, s, e, f⟩ => ?_
  simp only [evS] at f
  exact TEv.stepS s e f fun κ1 G1 C1 x H1 v x1 s1 e1 r1 f1 => f1 κ1 G1 H1 σ (Ext.refl _ _ _) s1 e1 v r1
theorem ss_if {c : Expr} {a b : List Stmt} {mc : E} {ma mb : Ss} (hc : ST T A d W X c mc) (ha : SB T A d W X a ma) (hb : SB T A d W X b mb) : SS T A d W X (.If c a b pos) (.ife mc ma mb) := by
  refine PSimp (ps_if hc ha hb) fun D0 σ H ⟨κ, G, C, ρ, s, e, f⟩ => ?_
  simp only [evS] at f
  have f' : FinS X.K A W κ G H D0 (((evE T.glob (callF T d) mc ρ C).bind fun x C => R.of (truth C x) C).toS ρ fun k C => if k = true then evSs T.glob (callF T d) ma ρ C else evSs T.glob (callF T d) mb ρ C) := by
    cases hx : evE T.glob (callF T d) mc ρ C with
    | ok x C1 => rw [hx] at f; exact f
    | exc c x C1 => rw [hx] at f; exact f
    | stuck => rw [hx] at f; exact f
  refine ⟨κ, G, C, ρ, s, e, (f'.toS e).mono fun κ1 G1 C1 k H1 x1 s1 f1 => ?_⟩
  cases k with
  | true => rw [if_pos rfl] at f1 ⊢; exact ⟨κ1, G1, C1, ρ, s1, e.mono x1.pre x1.same, f1⟩
  | false => rw [if_neg Bool.false_ne_true] at f1 ⊢; exact ⟨κ1, G1, C1, ρ, s1, e.mono x1.pre x1.same, f1⟩
/-- name = e -/
theorem ss_set {st : Stmt} {te : TE} {i : Nat} {m : E} (h : PS X st (tAsg te (gName i))) (ht : ∀ σ H Q, TEv X.K A W (ev T d m) σ H Q → te σ H Q) : SS T A d W X st (.set i m) := by
  refine PSimp h fun D0 σ H ⟨κ, G, C, ρ, s, e, f⟩ => ?_
  simp only [evS] at f
  exact ht σ H _ (TEv.stepS s e f fun κ1 G1 C1 x H1 v x1 s1 e1 r1 f1 => f1.next s1 (e1.set r1 i))
theorem Ext.cell {κ κ' : List Addr} {G H G' H' : Hp} {p : Addr} (x : Ext κ G H κ' G' H') (hp : H p = none) : Ext κ G H (κ' ++ [p]) G' H' :=
  ⟨x.pre.trans (Pre.app _ _), x.same, fun a u e k => by
    obtain ⟨a1, a2, a3⟩ := x.fr a u e k
    refine ⟨a1, fun hm => ?_, a3⟩
    rcases List.mem_append.mp hm with h | h
    · exact a2 h
    · exact ne_of_none e hp (by simpa using h)⟩
theorem ss_setC {st : Stmt} {te : TE} {i : Nat} {m : E} (h : PS X st (tAsg te (gName i))) (ht : ∀ σ H Q, TLv X.K A W (ev T d m) σ H Q → te σ H Q) : SS T A d W X st (.setC i m) := by
  refine PSimp h fun D0 σ H ⟨κ, G, C, ρ, s, e, f⟩ => ?_
  simp only [evS] at f
  refine ht σ H _ ⟨κ, G, C, ρ, s, e, ?_⟩
  simp only [ev]
  cases hz : evE T.glob (callF T d) m ρ C with
  | ok z C1 =>
    rw [hz] at f
    intro κ1 G1 H1 x1 s1 xs vs p ez hp hg hk h0 r
    subst ez
    simp only [R.toS_ok] at f
    split at f
    · rename_i hnc
      have e1 := e.mono x1.pre x1.same
      exact f (κ1 ++ [p]) G1 H1 _ (x1.cell h0) (s1.seeC hp hg hk hnc r) ((e1.mono (Pre.app κ1 [p]) (Same.refl _)).set (v := .ref p) (d := .cell C1.length) (.cell (by rw [← s1.len]; simp)) i)
    · exact f.elim
  | exc c x C1 => rw [hz] at f; exact fun κ1 G1 H1 a x1 s1 => f κ1 G1 H1 σ a x1 s1 (e.mono x1.pre x1.same)
  | stuck => rw [hz] at f; exact f
theorem ss_retC {a : Expr} {ma : E} (ha : PE X a (TLv X.K A W (ev T d ma))) : SS T A d W X (.Return (some a) pos) (.retC ma) := by
  refine PSimp (ps_ret ha) fun D0 σ H ⟨κ, G, C, ρ, s, e, f⟩ => ?_
  simp only [evS] at f
  refine ⟨κ, G, C, ρ, s, e, ?_⟩
  simp only [ev]
  cases hz : evE T.glob (callF T d) ma ρ C with
  | ok z C1 =>
    rw [hz] at f
    intro κ1 G1 H1 x1 s1 xs vs p ez hp hg hk h0 r
    subst ez
    simp only [R.toS_ok] at f
    split at f
    · rename_i hnc
      have e1 := e.mono x1.pre x1.same
      exact f (κ1 ++ [p]) G1 H1 σ (x1.cell h0) (s1.seeC hp hg hk hnc r) (e1.mono (Pre.app κ1 [p]) (Same.refl _)) (.ref p) (.cell (by rw [← s1.len]; simp))
    · exact f.elim
  | exc c x C1 => rw [hz] at f; exact fun κ1 G1 H1 a x1 s1 => f κ1 G1 H1 σ a x1 s1 (e.mono x1.pre x1.same)
  | stuck => rw [hz] at f; exact f
theorem ss_tset {st : Stmt} {is : List Nat} {m : E} (h : PS X st (tAsg (TEv X.K A W (ev T d m)) (TGv X.K A (.many is)))) : SS T A d W X st (.tset is m) := by
  refine PSimp h fun D0 σ H ⟨κ, G, C, ρ, s, e, f⟩ => ?_
  simp only [evS] at f
  refine TEv.stepS s e f fun κ1 G1 C1 x H1 v x1 s1 e1 r1 f1 => ?_
  cases hs : setTg (.many is) x ρ with
  | none => rw [hs] at f1; exact f1.elim
  | some ρ' =>
    rw [hs] at f1
    exact ⟨κ1, G1, C1, ρ, x, ρ', s1, e1, r1, hs, fun vs hE => f1.next s1 hE⟩
/-! several names at once -/
theorem pa_flag {a : Expr} {es : List Expr} {t : TE} {ta : TA} (hs : starEach (a :: es) X.env = (false, eval a X.env) :: starEach es X.env) (ha : PE X a t) (hb : PA X es ta) : PA X (a :: es) (tCons t ta) := pa_cons ha hb hs
def TACv (K : PySem.W.Frag) (A : Ad) (W : WX) (ev : Env → Cells → R (List D)) : TA := TAv K A W ev
abbrev SAC (T : Tab) (A : Ad) (d : Nat) (W : WX) (X : Cx) (fl : List Bool) (es : List Expr) (ms : Es) : Prop := PA X es (TAv X.K A W (evEsC T.glob (callF T d) fl ms))
theorem sac_nil {fl : List Bool} : SAC T A d W X fl [] .nil := by
  refine PAimp pa_nil fun σ H Q ⟨κ, G, C, ρ, s, e, f⟩ => ?_
  simp only [evEsC] at f
  exact f.ok s _ .nil
theorem sac_cons {a : Expr} {es : List Expr} {ma : E} {ms : Es} {fl : List Bool} (hs : starEach (a :: es) X.env = (false, eval a X.env) :: starEach es X.env) (ha : SE T A d W X a ma) (hb : SAC T A d W X fl es ms) : SAC T A d W X (false :: fl) (a :: es) (.cons ma ms) := by
  refine PAimp (pa_cons ha hb hs) fun σ H Q ⟨κ, G, C, ρ, s, e, f⟩ => ?_
  simp only [evEsC, Bool.false_eq_true, if_false] at f
  refine TEv.step s e f fun κ1 G1 C1 x H1 v x1 s1 e1 r1 f1 => ?_
  refine TAv.step s1 e1 f1 fun κ2 G2 C2 xs H2 vs x2 s2 e2 r2 f2 => ?_
  exact f2.ok s2 _ (.cons (r1.mono x2.pre x2.same) r2)
theorem sac_consC {a : Expr} {es : List Expr} {ma : E} {ms : Es} {fl : List Bool} (hs : starEach (a :: es) X.env = (false, eval a X.env) :: starEach es X.env) (ha : SL T A d W X a ma) (hb : SAC T A d W X fl es ms) : SAC T A d W X (true :: fl) (a :: es) (.cons ma ms) := by
  refine PAimp (pa_cons ha hb hs) fun σ H Q ⟨κ, G, C, ρ, s, e, f⟩ => ?_
  simp only [evEsC, if_true] at f
  refine ⟨κ, G, C, ρ, s, e, ?_⟩
  simp only [ev]
  cases hz : evE T.glob (callF T d) ma ρ C with
  | ok z C1 =>
    rw [hz] at f
    intro κ1 G1 H1 x1 s1 xs vs p ez hp hg hk h0 r
    subst ez
    simp only [R.bind_ok] at f
    split at f
    · rename_i hnc
      have e1 := (e.mono x1.pre x1.same).mono (Pre.app κ1 [p]) (Same.refl G1)
      have s2 := s1.seeC hp hg hk hnc r
      refine TAv.step s2 e1 (f.later (x1.cell h0)) fun κ2 G2 C2 ys H2 us x2 s2' e2 r2 f2 => ?_
      exact f2.ok s2' _ (.cons (.cell (x2.pre _ _ (by rw [← s1.len]; simp))) r2)
    · exact f.elim
  | exc c x C1 => rw [hz] at f; exact f
  | stuck => rw [hz] at f; exact f
theorem evEsC_len {gl : Nat → Option D} {cf : Nat → List D → Cells → R D} : ∀ {fl : List Bool} {ms : Es} {ρ : Env} {C : Cells} {xs : List D} {C' : Cells}, evEsC gl cf fl ms ρ C = .ok xs C' → xs.length = ms.len := by
  intro fl ms
  induction fl generalizing ms with
  | nil =>
    intro ρ C xs C' h
    cases ms with
    | nil => simp only [evEsC] at h; cases h; rfl
    | cons e r => simp only [evEsC] at h; cases h
  | cons f fl ih =>
    intro ρ C xs C' h
    cases ms with
    | nil => simp only [evEsC] at h; cases h; rfl
    | cons e r =>
      simp only [evEsC] at h
      obtain ⟨x, C1, h1, h2⟩ := bind_okE h
      split at h2
      · split at h2
        · split at h2
          · obtain ⟨ys, C2, h3, h4⟩ := bind_okE h2
            cases h4
            rw [List.length_cons, ih h3]; rfl
          · cases h2
        · cases h2
      · obtain ⟨ys, C2, h3, h4⟩ := bind_okE h2
        cases h4
        rw [List.length_cons, ih h3]; rfl
/-- a, b = x, y -/
theorem ss_par2 {st : Stmt} {i j : Nat} {fl : List Bool} {ms : Es} {ta : TA} (h : PS X st (tPar i j ta)) (ht : ∀ σ H Q, TAv X.K A W (evEsC T.glob (callF T d) fl ms) σ H Q → ta σ H Q) : SS T A d W X st (.par [i, j] fl ms) := by
  refine PSimp h fun D0 σ H ⟨κ, G, C, ρ, s, e, f⟩ => ?_
  simp only [evS] at f
  refine ht σ H _ ⟨κ, G, C, ρ, s, e, (f.toS e).mono fun κ1 G1 C1 ds H1 x1 s1 f1 vs r => ?_⟩
  split at f1
  · rename_i hl
    match ds, hl with
    | [x, y], _ =>
      obtain ⟨v, u, rfl, rv, ru⟩ := r.two
      exact ⟨v, u, rfl, f1.next s1 (((e.mono x1.pre x1.same).set rv i).set ru j)⟩
  · exact f1.elim
theorem ss_par3 {st : Stmt} {i j l : Nat} {fl : List Bool} {ms : Es} {ta : TA} (h : PS X st (tPar3 i j l ta)) (ht : ∀ σ H Q, TAv X.K A W (evEsC T.glob (callF T d) fl ms) σ H Q → ta σ H Q) : SS T A d W X st (.par [i, j, l] fl ms) := by
  refine PSimp h fun D0 σ H ⟨κ, G, C, ρ, s, e, f⟩ => ?_
  simp only [evS] at f
  refine ht σ H _ ⟨κ, G, C, ρ, s, e, (f.toS e).mono fun κ1 G1 C1 ds H1 x1 s1 f1 vs r => ?_⟩
  split at f1
  · rename_i hl
    match ds, hl with
    | [x, y, z], _ =>
      obtain ⟨v, u, w, rfl, rv, ru, rw'⟩ := r.three
      exact ⟨v, u, w, rfl, f1.next s1 ((((e.mono x1.pre x1.same).set rv i).set ru j).set rw' l)⟩
  · exact f1.elim
/-- a[i] = e -/
theorem ss_seti {st : Stmt} {ma mi me : E} (h : PS X st (tAsg (TEv X.K A W (ev T d me)) (gSub (TEv X.K A W (ev T d ma)) (TEv X.K A W (ev T d mi)) rSetL))) : SS T A d W X st (.seti ma mi me) := by
  refine PSimp h fun D0 σ H ⟨κ, G, C, ρ, s, e, f⟩ => ?_
  simp only [evS] at f
  refine TEv.stepS s e f fun κ1 G1 C1 y H1 v x1 s1 e1 r1 f1 => ?_
  refine TEv.stepS s1 e1 f1 fun κ2 G2 C2 x H2 u x2 s2 e2 r2 f2 => ?_
  refine TEv.stepS s2 e2 f2 fun κ3 G3 C3 k H3 w x3 s3 e3 r3 f3 => ?_
  cases r2 with
  | @cell j p hp =>
    cases r3 with
    | int k =>
      simp only at f3
      cases hc : C3[j]? with
      | none => rw [hc] at f3; exact f3.elim
      | some xs =>
        rw [hc] at f3
        simp only at f3
        cases hk : ixn xs.length k with
        | none => rw [hk] at f3; exact f3.elim
        | some m =>
          rw [hk] at f3
          simp only at f3
          split at f3
          · rename_i hn
            have hp3 := x3.pre j p hp
            obtain ⟨_, nc, vs, hv, rl⟩ := s3.cell j p xs hp3 hc
            refine ⟨p, vs, k, m, rfl, rfl, hv, by rw [rl.length]; exact hk, ?_⟩
            exact f3 κ3 G3 _ σ (Ext.wrC hp3) (s3.write hp3 (List.getElem?_eq_some_iff.mp hc).1 (nocL_set nc hn) (rl.set ((r1.mono x2.pre x2.same).mono x3.pre x3.same) m)) e3
          · exact f3.elim
    | _ => exact f3.elim
  | _ => exact f3.elim
end
end ML

set_option maxHeartbeats 1000000
/-! Loops, errors. -/
namespace ML
open PySem PySem.Spec PyProof.Rows L2 RZ
section
variable {X : Cx} {A : Ad} {W : WX} {T : Tab} {d : Nat} {pos : Pos}
theorem ss_while {c : Expr} {body : List Stmt} {mc : E} {mb : Ss} (hp : PassesOwn (model X.prog X.w) X.A X.env X.xe) (hc : ST T A d W X c mc) (hb : SB T A d W X body mb) : SS T A d W X (.While c body [] pos) (.whl mc mb) := by
  refine PSimp (ps_while hp hc hb) fun D0 σ H ⟨κ, G, C, ρ, s, e, f⟩ => ?_
  simp only [evS] at f
  refine ⟨fun n σ H => ∃ κ G C ρ, SR X.K A κ G H C ∧ ER X.K A κ G σ ρ ∧ FinS X.K A W κ G H D0 (wloop (fun ρ C => (evE T.glob (callF T d) mc ρ C).bind fun x C => R.of (truth C x) C) (fun ρ C => evSs T.glob (callF T d) mb ρ C) n ρ C), ⟨WMAX, κ, G, C, ρ, s, e, f⟩, ?_⟩
  rintro n σ H ⟨κ, G, C, ρ, s, e, f⟩
  cases n with
  | zero => exact f.elim
  | succ n =>
    rw [wloop_succ] at f
    refine ⟨κ, G, C, ρ, s, e, (f.toS e).mono fun κ1 G1 C1 k H1 x1 s1 f1 => ?_⟩
    have e1 := e.mono x1.pre x1.same
    cases k with
    | false =>
      rw [if_neg Bool.false_ne_true] at f1
      show D0.nx σ H1; exact f1.next s1 e1
    | true =>
      rw [if_pos rfl] at f1
      show (if true = true then _ else _); rw [if_pos rfl]
      refine ⟨fun σ' H' => ∃ κ G C ρ, SR X.K A κ G H' C ∧ ER X.K A κ G σ' ρ ∧ FinS X.K A W κ G H' D0 (wloop (fun ρ C => (evE T.glob (callF T d) mc ρ C).bind fun x C => R.of (truth C x) C) (fun ρ C => evSs T.glob (callF T d) mb ρ C) n ρ C), fun σ' H' h => ⟨n, Nat.lt_succ_self n, h⟩, ?_⟩
      refine ⟨κ1, G1, C1, ρ, s1, e1, ?_⟩
      cases hr : evSs T.glob (callF T d) mb ρ C1 with
      | ok fl ρ1 C2 =>
        rw [hr] at f1
        cases fl with
        | next => exact fun κ2 G2 H2 σ2 x2 s2 e2 => ⟨κ2, G2, C2, ρ1, s2, e2, FinS.later f1 x2⟩
        | cont => exact fun κ2 G2 H2 σ2 x2 s2 e2 => ⟨κ2, G2, C2, ρ1, s2, e2, FinS.later f1 x2⟩
        | brk => exact f1
        | ret z => exact f1
      | exc c x ρ1 C2 => rw [hr] at f1; exact f1
      | stuck => rw [hr] at f1; exact f1
theorem ss_for {tg iter : Expr} {body : List Stmt} {ms : Src} {t : Tg} {mb : Ss} (hp : PassesOwn (model X.prog X.w) X.A X.env X.xe) (hc : X.calm = true) (hi : SI T A d W X tg iter ms) (hg : SG A X tg t) (hb : SB T A d W X body mb)
    (hs : ∀ x, foldedSetIterable iter X.env x = pure x) : SS T A d W X (.For tg iter body [] pos) (.fr ms t mb) := by
  refine PSimp (ps_for hp hc hi hg hb hs) fun D0 σ H ⟨κ, G, C, ρ, s, e, f⟩ => ?_
  simp only [evS] at f
  refine ⟨κ, G, C, ρ, s, e, (f.toS e).mono fun κ1 G1 C1 p H1 x1 s1 f1 hh J hJ => ?_⟩
  obtain ⟨xs, gd⟩ := p
  simp only at f1 hh hJ
  have e1 := e.mono x1.pre x1.same
  refine ⟨fun i m σ H => m = xs.length - i ∧ i ≤ xs.length ∧ ∃ κ2 G2 C2 ρ2, Ext κ1 G1 H1 κ2 G2 H ∧ SR X.K A κ2 G2 H C2 ∧ ER X.K A κ2 G2 σ ρ2 ∧ held gd xs C2 = true ∧ FinS X.K A W κ2 G2 H D0 (floop gd xs t (fun ρ C => evSs T.glob (callF T d) mb ρ C) (xs.drop i) ρ2 C2), ⟨xs.length, by simp, Nat.zero_le _, κ1, G1, C1, ρ, Ext.refl _ _ _, s1, e1, hh, by rw [List.drop_zero]; exact f1⟩, ?_⟩
  rintro i m σ2 H2 ⟨rfl, hile, κ2, G2, C2, ρ2, x2, s2, e2, h2, f2⟩
  have J2 := hJ κ2 G2 H2 C2 x2 s2 h2
  by_cases hi' : i < xs.length
  · right
    have hxi : xs[i]? = some xs[i] := List.getElem?_eq_getElem hi'
    obtain ⟨go, yld⟩ := J2.1 i xs[i] hxi
    refine ⟨go, fun σ' H' => i + 1 ≤ xs.length ∧ ∃ κ2 G2 C2 ρ2, Ext κ1 G1 H1 κ2 G2 H' ∧ SR X.K A κ2 G2 H' C2 ∧ ER X.K A κ2 G2 σ' ρ2 ∧ held gd xs C2 = true ∧ FinS X.K A W κ2 G2 H' D0 (floop gd xs t (fun ρ C => evSs T.glob (callF T d) mb ρ C) (xs.drop (i + 1)) ρ2 C2),
      fun σ' H' h => ⟨xs.length - (i + 1), by omega, rfl, h⟩, fun v H3 hy => ?_⟩
    obtain ⟨G3, x3, s3, r3⟩ := yld v H3 hy
    have f3 := FinS.later f2 x3
    rw [List.drop_eq_getElem_cons hi', floop] at f3
    cases hρ : setTg t xs[i] ρ2 with
    | none => rw [hρ] at f3; exact f3.elim
    | some ρ3 =>
      rw [hρ] at f3
      simp only at f3
      refine ⟨κ2, G3, C2, ρ2, xs[i], ρ3, s3, e2.mono x3.pre x3.same, r3, hρ, fun vs hE => ⟨κ2, G3, C2, ρ3, s3, hE, ?_⟩⟩
      have again : ∀ {ρ4 : Env} {C4 : Cells}, FinS X.K A W κ2 G3 H3 D0 (if held gd xs C4 = true then floop gd xs t (fun ρ C => evSs T.glob (callF T d) mb ρ C) (xs.drop (i + 1)) ρ4 C4 else .stuck) →
          ∀ (κ' : List Addr) (G' H' : Hp) (σ' : L2.St), Ext κ2 G3 H3 κ' G' H' → SR X.K A κ' G' H' C4 → ER X.K A κ' G' σ' ρ4 → i + 1 ≤ xs.length ∧ ∃ κ2 G2 C2 ρ2, Ext κ1 G1 H1 κ2 G2 H' ∧ SR X.K A κ2 G2 H' C2 ∧ ER X.K A κ2 G2 σ' ρ2 ∧ held gd xs C2 = true ∧ FinS X.K A W κ2 G2 H' D0 (floop gd xs t (fun ρ C => evSs T.glob (callF T d) mb ρ C) (xs.drop (i + 1)) ρ2 C2) :=
        fun {ρ4 C4} h κ' G' H' σ' x' s' e' => by
          split at h
          · rename_i hh'
            exact ⟨hi', κ', G', C4, ρ4, (x2.trans x3).trans x', s', e', hh', FinS.later h x'⟩
          · exact h.elim
      cases hr : evSs T.glob (callF T d) mb ρ3 C2 with
      | ok fl ρ4 C4 =>
        rw [hr] at f3
        cases fl with
        | next => exact again f3
        | cont => exact again f3
        | brk => exact f3
        | ret z => exact f3
      | exc c x ρ4 C4 => rw [hr] at f3; exact f3
      | stuck => rw [hr] at f3; exact f3
  · left
    have hie : i = xs.length := by omega
    subst hie
    rw [List.drop_length, floop] at f2
    exact ⟨J2.2, f2.next s2 e2⟩
/-! ### raise -/
theorem pmk_own0 {C : Addr} {bmB : List Value} {B newId initId : String} {x : Str} {p : Pos} (F : ExcBaseFacts B newId initId bmB) (q : PySem.W.excIn X.K C bmB newId = true) (gC : X.mg x = some (.ref C)) (kC : PySem.W.keepIn X.K (.ref C) = true) (r : Raises X (.ref C)) (hg : Gl X x)
    (hdb : (x == ("__debug__" : Str)) = false) : PMk X (.Call (.Name x p) [] [] pos) (fun _ H Q => Q (.ref C) none H) := by
  intro pins s σ H Q I h
  refine wpAny_Call_Name_kw (ld_glob I hg gC ?_ hdb)
  refine PySem.W.callWith_K0 I.kIn kC ?_
  show wpAny _ _ (call (.ref C) []) _ _ _
  obtain ⟨bm, N, nm, qn, bs, hdct, sn, sub, ab, col, dd, k0, k1, k2, k3, k5, mN, hC, hN, hni, T⟩ := exc_obj I.kIn q
  refine wpAny_call_exc_subT F T hC hN hni (fun h' e hm => ?_) (by show 0 ≤ sizeLine; exact Nat.zero_le _)
  exact mk_of I hm r h (I.hok.gone hm.new)
/-- what is known of an error class: no own __init__, made and raised without arguments -/
structure ErrOk (X : Cx) (A : Ad) (x : Str) (c : Nat) : Prop where
  ec : ∃ a, A.ec c = some a ∧ ∀ p pos, PMk X (.Call (.Name x p) [] [] pos) (fun _ H Q => Q (.ref a) none H)
theorem ss_raise {x : Str} {p p2 : Pos} {c : Nat} (hc : X.calm = true) (tk : Takes X W) (h : ErrOk X A x c) : SS T A d W X (.Raise (some (.Call (.Name x p) [] [] p2)) none pos) (.raise c .none) := by
  obtain ⟨a, ha, mk⟩ := h.ec
  refine PSimp (ps_raise hc tk (mk p p2)) fun D0 σ H ⟨κ, G, C, ρ, s, e, f⟩ => ?_
  simp only [evS] at f
  exact f κ G H σ a (Ext.refl _ _ _) s e ha rfl
end
end ML

set_option maxHeartbeats 1000000
/-! The check that a text is what the small language says. -/
namespace ML
open PySem PySem.Spec PyProof.Rows L2
inductive Nk where | fn (f : Nat) | gl (g : Nat) | ec (c : Nat) | bi
  deriving DecidableEq
structure Ck where
  N : List Str
  nm : List (Str × Nk)
  ps : List (List Str)
def Ck.is (K : Ck) (x : Str) (k : Nk) : Bool := decide (K.nm.lookup x = some k)
def nodbg (x : Str) : Bool := !(x == ("__debug__" : Str))
def nocd (x : Str) : Bool := !(x == ("__classdict__" : Str))
def visB (sc : Scope) (x : Str) : Bool := match sc.names.lookup x with
  | some .local => true
  | some .cell => true
  | some .free => true
  | _ => false
def locB (sc : Scope) (x : Str) : Bool := match sc.names.lookup x with
  | some .local => true
  | some .cell => true
  | _ => false
def loc1 (sc : Scope) (x : Str) : Bool := match sc.names.lookup x with
  | some .local => true
  | _ => false
def glB (sc : Scope) (x : Str) : Bool := match sc.names.lookup x with
  | some .globalImplicit => true
  | _ => false
def nstar : Expr → Bool
  | .Starred _ _ => false
  | _ => true
def nslice : Expr → Bool
  | .Slice _ _ _ _ => false
  | _ => true
def nset : Expr → Bool
  | .Set _ _ _ => false
  | _ => true
def ncomp : Expr → Bool
  | .ListComp _ _ _ _ => false
  | .SetComp _ _ _ _ => false
  | .DictComp _ _ _ _ _ => false
  | _ => true
def ndisp : Expr → Bool
  | .Tuple _ _ _ => false
  | _ => true
def one? : Expr → Option Expr
  | .BoolOp _ [a] _ => some a
  | _ => none
def litB (e : Expr) (d : D) : Bool := match d with
  | .int j => (match e with | .Constant (.int i) _ _ => decide (i = j) | _ => false)
  | .bl j => (match e with | .Constant (.bool i) _ _ => i == j | _ => false)
  | .str j => (match e with | .Constant (.str i) _ _ => decide (i = j) | _ => false)
  | .non => (match e with | .Constant .none _ _ => true | _ => false)
  | _ => false
def kwN : List Keyword → Option (List Str)
  | [] => some []
  | ⟨some x, _, _⟩ :: r => (kwN r).map (x :: ·)
  | _ => none
def Bf.name : Bf → String
  | .abs => "abs" | .len => "len" | .max => "max" | .min => "min" | .int => "int" | .all => "all" | .any => "any" | .sum => "sum" | .sorted => "sorted" | .list => "list" | .tuple => "tuple"
def Ck.slot (K : Ck) (i : Nat) (x : Str) : Bool := decide (K.N[i]? = some x)
/-- that a name may be stored here: in a def each, in a comprehension's block its own -/
def stB (fo : Option Scope) (sc : Scope) (x : Str) : Bool := match fo with
  | none => true
  | some o => loc1 sc x || decide (o.names.lookup x = some .cell)
def nmB (K : Ck) (fo : Option Scope) (sc : Scope) (e : Expr) (i : Nat) : Bool := match e with
  | .Name x _ => K.slot i x && locB sc x && stB fo sc x
  | _ => false
def nmsB (K : Ck) (fo : Option Scope) (sc : Scope) : List Expr → List Nat → Bool
  | [], is => is.isEmpty
  | e :: es, is => match is with
    | [] => false
    | i :: is => nmB K fo sc e i && nmsB K fo sc es is
def okG (K : Ck) (fo : Option Scope) (sc : Scope) (e : Expr) (t : Tg) : Bool := match t with
  | .one i => nmB K fo sc e i
  | .many is => (match e with | .Tuple es _ _ => nmsB K fo sc es is | _ => false)
/-- the block's own scope, as the def around makes it -/
def relab (sc scope : Scope) : Scope := { scope with names := scope.names.map fun (n, k) => if (k == NameKind.free && sc.kind == .function && sc.names.lookup n == some .cell) then (n, NameKind.cell) else (n, k) }
def tupB : Expr → Bool
  | .Tuple _ _ _ => true
  | _ => false
def isopB (n : Bool) (o : CmpOp) : Bool := if n then decide (o = .IsNot) else decide (o = .Is)
/-- a def's name as a value -/
def fnB (K : Ck) (sc : Scope) (e : Expr) (d : D) : Bool := match d with
  | .fn f => (match e with | .Name x _ => glB sc x && K.is x (.fn f) && nodbg x | _ => false)
  | _ => false
def ownP (K : Ck) (own : List Nat) : List (Str × Nat) := own.map fun i => (K.N.getD i Str.empty, i)
mutual
def okE (K : Ck) : Nat → Scope → Expr → E → Bool
  | 0, _, _, _ => false
  | n + 1, sc, e, m => match one? e with
    | some a => okE K n sc a m
    | none => match m with
      | .var i => (match e with | .Name x _ => K.slot i x && visB sc x && nodbg x && nocd x | _ => false)
      | .lit d => litB e d || fnB K sc e d
      | .glob g => (match e with | .Name x _ => glB sc x && K.is x (.gl g) && nodbg x | _ => false)
      | .bin o a b => (match e with | .BinOp x op y _ => decide (bopOf op = some o) && okE K n sc x a && okE K n sc y b | _ => false)
      | .neg a => (match e with | .UnaryOp .USub x _ => okE K n sc x a | _ => false)
      | .not a => (match e with | .UnaryOp .Not x _ => okE K n sc x a | _ => false)
      | .and a b => (match e with | .BoolOp .And (x :: y :: r) p => okE K n sc x a && okE K n sc (.BoolOp .And (y :: r) p) b | _ => false)
      | .or a b => (match e with | .BoolOp .Or (x :: y :: r) p => okE K n sc x a && okE K n sc (.BoolOp .Or (y :: r) p) b | _ => false)
      | .cmp o a b => (match e with | .Compare x [op] [y] _ => decide (copOf op = some o) && !behindInMarks op y && okE K n sc x a && okE K n sc y b | _ => false)
      | .chain o o' a b c => (match e with | .Compare x [op, op'] [y, z] _ => decide (copOf op = some o) && decide (copOf op' = some o') && !lastMarks [op, op'] [y, z] && okE K n sc x a && okE K n sc y b && okE K n sc z c | _ => false)
      | .isC k a d => (match e with | .Compare x [op] [y] _ => isopB k op && litB y d && okE K n sc x a | _ => false)
      | .ite c a b => (match e with | .IfExp x y z _ => okT K n sc x c && okE K n sc y a && okE K n sc z b | _ => false)
      | .tup es => (match e with | .Tuple xs _ _ => decide (es.len ≤ 1000) && okEs K n sc xs es | _ => false)
      | .lst es => (match e with | .List xs _ => decide (es.len ≤ 1000) && okEs K n sc xs es | _ => false)
      | .idx a b => (match e with | .Subscript x y _ => nslice y && okE K n sc x a && okE K n sc y b | _ => false)
      | .sl a lo hi => (match e with | .Subscript x (.Slice l h none _) _ => okE K n sc x a && okOE K n sc l lo && okOE K n sc h hi | _ => false)
      | .rev a => (match e with | .Subscript x (.Slice none none (some (.UnaryOp .USub (.Constant (.int 1) _ _) _)) _) _ => okE K n sc x a | _ => false)
      | .call f es => (match e with | .Call (.Name x _) (a :: as) [] _ => glB sc x && K.is x (.fn f) && nodbg x && (a :: as).all nstar && okEs K n sc (a :: as) es | _ => false)
      | .callk f es ks pm => (match e with | .Call (.Name x _) as kws _ => glB sc x && K.is x (.fn f) && nodbg x && as.all nstar && okEs K n sc as es && okKs K n sc kws ks && (match kwN kws with | some ns => kwOk es.len ns pm (K.ps.getD f []) && decide (ks.len = ns.length) | none => false) | _ => false)
      | .callv i es => (match e with | .Call (.Name x _) (a :: as) [] _ => K.slot i x && visB sc x && nodbg x && nocd x && (a :: as).all nstar && okEs K n sc (a :: as) es | _ => false)
      | .bf b es => (match e with | .Call (.Name x _) (a :: as) [] _ => glB sc x && K.is x .bi && decide (x = Str.ofString b.name) && (a :: as).all nstar && okEs K n sc (a :: as) es | _ => false)
      | .isin a [t] => (match e with | .Call (.Name x _) [y, .Name z _] [] _ => glB sc x && K.is x .bi && decide (x = ("isinstance" : Str)) && glB sc z && K.is z .bi && decide (z = Str.ofString t.name) && nstar y && okE K n sc y a | _ => false)
      | .isin a [t, u] => (match e with | .Call (.Name x _) [y, .Tuple [.Name z _, .Name w _] _ _] [] _ => glB sc x && K.is x .bi && decide (x = ("isinstance" : Str)) && glB sc z && K.is z .bi && decide (z = Str.ofString t.name) && glB sc w && K.is w .bi && decide (w = Str.ofString u.name) && nstar y && okE K n sc y a | _ => false)
      | .app a b => (match e with | .Call (.Attribute (.Name x px) at_ ap) [y] [] p => decide (at_ = ("append" : Str)) && (ap.endLine == p.line) && nstar y && okE K n sc (.Name x px) a && okE K n sc y b | _ => false)
      | .ext a b => (match e with | .Call (.Attribute (.Name x px) at_ ap) [y] [] p => decide (at_ = ("extend" : Str)) && (ap.endLine == p.line) && nstar y && okE K n sc (.Name x px) a && okE K n sc y b | _ => false)
      | .pop a b => (match e with | .Call (.Attribute (.Name x px) at_ ap) [y] [] p => decide (at_ = ("pop" : Str)) && (ap.endLine == p.line) && nstar y && okE K n sc (.Name x px) a && okE K n sc y b | _ => false)
      | .lof s => okL K n sc e (.lof s)
      | .comp own s t oc b => okL K n sc e (.comp own s t oc b)
      | _ => false
def okT (K : Ck) : Nat → Scope → Expr → E → Bool
  | 0, _, _, _ => false
  | n + 1, sc, e, m => match e with
    | .UnaryOp .Not x _ => (match m with | .not a => okT K n sc x a | _ => false)
    | .BoolOp op xs p => okW K n sc op xs m
    | .Compare x [op] [y] _ => (match m with
      | .cmp o a b => decide (copOf op = some o) && !behindInMarks op y && okE K n sc x a && okE K n sc y b
      | .isC k a d => isopB k op && litB y d && okE K n sc x a
      | _ => false)
    | .Compare x [op, op'] [y, z] _ => (match m with
      | .chain o o' a b c => decide (copOf op = some o) && decide (copOf op' = some o') && !lastMarks [op, op'] [y, z] && okE K n sc x a && okE K n sc y b && okE K n sc z c
      | _ => false)
    | .IfExp _ _ _ _ => false
    | .Compare _ _ _ _ => false
    | e => okE K n sc e m
def okW (K : Ck) : Nat → Scope → BoolOp → List Expr → E → Bool
  | 0, _, _, _, _ => false
  | n + 1, sc, op, xs, m => match xs with
    | [] => false
    | [x] => okT K n sc x m
    | x :: y :: r => match op with
      | .And => (match m with | .and a b => okT K n sc x a && okW K n sc .And (y :: r) b | _ => false)
      | .Or => (match m with | .or a b => okT K n sc x a && okW K n sc .Or (y :: r) b | _ => false)
def okL (K : Ck) : Nat → Scope → Expr → E → Bool
  | 0, _, _, _ => false
  | n + 1, sc, e, m => match m with
    | .lst es => (match e with | .List xs _ => decide (es.len ≤ 1000) && okEs K n sc xs es | _ => false)
    | .bf .list (.cons a .nil) => (match e with | .Call (.Name x _) [y] [] _ => glB sc x && K.is x .bi && decide (x = ("list" : Str)) && nstar y && okE K n sc y a | _ => false)
    | .bin .mul (.lst es) b => (match e with | .BinOp (.List xs _) .Mult y _ => decide (es.len ≤ 1000) && okEs K n sc xs es && okE K n sc y b | _ => false)
    | .ite c a b => (match e with | .IfExp x y z _ => okT K n sc x c && okL K n sc y a && okL K n sc z b | _ => false)
    | .or a b => (match e with | .BoolOp .Or [x, y] _ => okL K n sc x a && okL K n sc y b | _ => false)
    | .lof (.rng es) => (match e with | .Call (.Name x _) [.Call (.Name y _) (a :: as) [] _] [] _ => glB sc x && K.is x .bi && decide (x = ("list" : Str)) && glB sc y && K.is y .bi && decide (y = ("range" : Str)) && (a :: as).all nstar && okEs K n sc (a :: as) es | _ => false)
    | .comp own s t oc b => (match e with | .ListComp elt [⟨tg, iter, ifs, 0⟩] scope _ => nset iter && blkC K.N sc scope (ownP K own) && t.slots.all (fun i => decide (i ∈ own)) && okG K (some scope) (relab sc scope) tg t && okI K n sc tg iter s && okC K n (relab sc scope) ifs oc && okE K n (relab sc scope) elt b | _ => false)
    | _ => false
def okC (K : Ck) : Nat → Scope → List Expr → OE → Bool
  | 0, _, _, _ => false
  | n + 1, sc, ifs, oc => match oc with
    | .none => (match ifs with | [] => true | _ => false)
    | .some a => (match ifs with | [x] => okT K n sc x a | _ => false)
def okI (K : Ck) : Nat → Scope → Expr → Expr → Src → Bool
  | 0, _, _, _, _ => false
  | n + 1, sc, tg, e, s => match s with
    | .of a => okE K n sc e a
    | .rng es => (match e with | .Call (.Name x _) (a :: as) [] _ => glB sc x && K.is x .bi && decide (x = ("range" : Str)) && (a :: as).all nstar && decide ((a :: as).length = es.len) && decide (es.len ≤ 3) && okEs K n sc (a :: as) es | _ => false)
    | .zip a b => (match e with | .Call (.Name x _) [y, z] [] _ => glB sc x && K.is x .bi && decide (x = ("zip" : Str)) && nstar y && nstar z && tupB tg && okE K n sc y a && okE K n sc z b | _ => false)
    | .enum a => (match e with | .Call (.Name x _) [y] [] _ => glB sc x && K.is x .bi && decide (x = ("enumerate" : Str)) && nstar y && tupB tg && okE K n sc y a | _ => false)
def okEs (K : Ck) : Nat → Scope → List Expr → Es → Bool
  | 0, _, _, _ => false
  | n + 1, sc, xs, es => match xs, es with
    | [], .nil => true
    | x :: xs, .cons e es => nstar x && okE K n sc x e && okEs K n sc xs es
    | _, _ => false
def okKs (K : Ck) : Nat → Scope → List Keyword → Es → Bool
  | 0, _, _, _ => false
  | n + 1, sc, xs, es => match xs, es with
    | [], .nil => true
    | ⟨_, x, _⟩ :: xs, .cons e es => okE K n sc x e && okKs K n sc xs es
    | _, _ => false
def okOE (K : Ck) : Nat → Scope → Option Expr → OE → Bool
  | 0, _, _, _ => false
  | n + 1, sc, xs, es => match xs, es with
    | none, .none => true
    | some x, .some e => okE K n sc x e
    | _, _ => false
end
end ML

set_option maxHeartbeats 1000000
/-! The check is sound: expressions. -/
namespace ML
open PySem PySem.Spec PyProof.Rows L2
def NameOk (K : PySem.W.Frag) (mg : Str → Option Value) (A : Ad) (T : Tab) (x : Str) : Nk → Prop
  | .fn f => ∃ F b, T.fn f = some F ∧ A.fa f = some b ∧ mg x = some (.ref b)
  | .gl g => ∃ v z, (∃ u, mg x = some u ∧ L2.RelV v u) ∧ T.glob g = some z ∧ ∀ κ G, Rep K A κ G v z
  | .ec c => ∃ C newId initId bmB B, A.ec c = some C ∧ ExcBaseFacts B newId initId bmB ∧ PySem.W.excIn K C bmB newId = true ∧ mg x = some (.ref C) ∧ PySem.W.keepIn K (.ref C) = true ∧
      PySem.W.subIn K (.ref C) (.type "BaseException") = some true ∧ PySem.W.typeIn K (.ref C) = some (.type "type")
  | .bi => mg x = none
/-- what an expression's check rests on -/
structure CE (J : Ck) (A : Ad) (T : Tab) (d : Nat) (W : WX) (X : Cx) (sc : Scope) : Prop where
  calm : X.calm = true
  nd : X.N.Nodup
  hN : X.N = J.N
  sc : X.env.scope = sc
  room : Room d X.A
  tk : Takes X W
  fns : Fns X.prog X.w X.K X.mg X.base A T d
  nm : ∀ x k, J.nm.lookup x = some k → NameOk X.K X.mg A T x k
  ps : ∀ f F, T.fn f = some F → A.ps f = J.ps.getD f []
section
variable {J : Ck} {A : Ad} {T : Tab} {d : Nat} {W : WX} {X : Cx} {sc : Scope}
theorem CE.blk (c : CE J A T d W X sc) (s : Shared) (H : Hp) (scope : Scope) (C : Addr) (cl : List (Str × Addr)) (fp : List Addr) : CE J A T d W0 (X.blk s H scope (compEnvC scope cl C X.env) fp) (relab sc scope) :=
  ⟨c.calm, c.nd, c.hN, by rw [← c.sc]; rfl, c.room, takes0, c.fns, c.nm, c.ps⟩
theorem star_cons {a : Expr} {es : List Expr} {env : PySem.Env} (h : nstar a = true) : starEach (a :: es) env = (false, eval a env) :: starEach es env := by
  cases a <;> first | rfl | (simp [nstar] at h)
theorem back_any {es : List Expr} {env : PySem.Env} {p : Pos} (h : es.all nstar = true) : (backTo p (starEach es env)).any (·.1) = false := by
  induction es with
  | nil => rfl
  | cons a es ih =>
    simp only [List.all_cons, Bool.and_eq_true] at h
    rw [star_cons h.1]
    simpa [backTo] using ih h.2
theorem vis_of {x : Str} (e : X.env.scope = sc) (h : visB sc x = true) : Vis X.env.scope x := by
  subst e
  unfold visB at h
  split at h <;> first | (rename_i h'; exact .inl h') | (rename_i h'; exact .inr (.inl h')) | (rename_i h'; exact .inr (.inr h')) | cases h
theorem loc_of {x : Str} (e : X.env.scope = sc) (h : locB sc x = true) : Loc X.env.scope x := by
  subst e
  unfold locB at h
  split at h <;> first | (rename_i h'; exact .inl h') | (rename_i h'; exact .inr h') | cases h
theorem gl_of {x : Str} (e : X.env.scope = sc) (h : glB sc x = true) : Gl X x := by
  subst e
  unfold glB at h
  split at h
  · rename_i h'; exact h'
  · cases h
theorem dbg_of {x : Str} (h : nodbg x = true) : (x == ("__debug__" : Str)) = false := by simpa [nodbg] using h
theorem cd_of {x : Str} (h : nocd x = true) : (x == ("__classdict__" : Str)) = false := by simpa [nocd] using h
theorem Ck.slot_of {x : Str} {i : Nat} (c : CE J A T d W X sc) (h : J.slot i x = true) : X.N[i]? = some x := by
  rw [c.hN]; simpa [Ck.slot] using h
theorem Ck.is_of {x : Str} {k : Nk} (c : CE J A T d W X sc) (h : J.is x k = true) : NameOk X.K X.mg A T x k := c.nm x k (by simpa [Ck.is] using h)
theorem boot_bf : ∀ b : Bf, bootBuiltins (Str.ofString b.name) = some (bfVal b) ∧ Str.ofString b.name ≠ "__name__" ∧ (Str.ofString b.name == ("__debug__" : Str)) = false := by
  intro b; cases b <;> decide +kernel
theorem plain_ix {b : Expr} (h : nslice b = true) : PlainIx b := by
  cases b <;> first | (intro o i; rfl) | (simp [nslice] at h)
theorem one_some {e a : Expr} (h : one? e = some a) : ∃ op p, e = .BoolOp op [a] p := by
  unfold one? at h
  split at h
  · cases h; exact ⟨_, _, rfl⟩
  · cases h
theorem kwN_of : ∀ {l : List Keyword} {ks : List Str}, kwN l = some ks → kwNames l = some ks
  | [], _, h => h
  | ⟨some x, e, p⟩ :: r, _, h => by
    simp only [kwN, Option.map_eq_some_iff] at h
    obtain ⟨k, h1, rfl⟩ := h
    have := kwN_of h1
    simp only [kwNames, this]
    rfl
  | ⟨none, e, p⟩ :: r, _, h => by simp [kwN] at h
theorem nset_of {e : Expr} {env : PySem.Env} (h : nset e = true) : ∀ x, foldedSetIterable e env x = pure x := by
  intro x
  cases e <;> first | rfl | (simp [nset] at h)
theorem litB_of {e : Expr} {z : D} (h : litB e z = true) : (∃ v, PE X e (tC v) ∧ ∀ κ G, Rep X.K A κ G v z) ∧ SE T A d W X e (.lit z) ∧ ∀ op, behindInMarks op e = false := by
  unfold litB at h
  split at h
  · split at h
    · have := of_decide_eq_true h; subst this; exact ⟨⟨_, pe_int, fun κ G => .int _⟩, se_lit_int, fun _ => rfl⟩
    · cases h
  · split at h
    · have := eq_of_beq h; subst this; exact ⟨⟨_, pe_bl, fun κ G => .bl _⟩, se_lit_bl, fun _ => rfl⟩
    · cases h
  · split at h
    · have := of_decide_eq_true h; subst this; exact ⟨⟨_, pe_str, fun κ G => .str _⟩, se_lit_str, fun _ => rfl⟩
    · cases h
  · split at h
    · exact ⟨⟨_, pe_non, fun κ G => .non⟩, se_lit_non, fun _ => rfl⟩
    · cases h
  · cases h
theorem nmB_of (c : CE J A T d W X sc) {fo : Option Scope} (hf : ∀ x, stB fo sc x = true → X.fn x = true ∨ X.env.scope.names.lookup x = some .local) {e : Expr} {i : Nat} (h : nmB J fo sc e i = true) :
    ∃ x p, e = .Name x p ∧ X.N[i]? = some x ∧ Loc X.env.scope x ∧ (X.fn x = true ∨ X.env.scope.names.lookup x = some .local) := by
  unfold nmB at h
  split at h
  · simp only [Bool.and_eq_true] at h
    exact ⟨_, _, rfl, Ck.slot_of c h.1.1, loc_of c.sc h.1.2, hf _ h.2⟩
  · cases h
theorem nmsB_of (c : CE J A T d W X sc) {fo : Option Scope} (hf : ∀ x, stB fo sc x = true → X.fn x = true ∨ X.env.scope.names.lookup x = some .local) : ∀ {es : List Expr} {is : List Nat}, nmsB J fo sc es is = true → NmAt X es is
  | [], [], _ => .nil
  | e :: es, [], h => by simp [nmsB] at h
  | [], i :: is, h => by simp [nmsB] at h
  | e :: es, i :: is, h => by
    simp only [nmsB, Bool.and_eq_true] at h
    obtain ⟨x, p, rfl, h1, h2, h3⟩ := nmB_of c hf h.1
    exact .cons h1 h2 h3 (nmsB_of c hf h.2)
theorem okG_of (c : CE J A T d W X sc) {fo : Option Scope} (hf : ∀ x, stB fo sc x = true → X.fn x = true ∨ X.env.scope.names.lookup x = some .local) {e : Expr} {t : Tg} (h : okG J fo sc e t = true) : SG A X e t := by
  unfold okG at h
  split at h
  · obtain ⟨x, p, rfl, h1, h2, h3⟩ := nmB_of c hf h
    exact sg_one c.nd h1 h2 h3
  · split at h
    · exact sg_many c.calm c.nd (nmsB_of c hf h)
    · cases h
theorem stB_blk (c : CE J A T d W X sc) (s : Shared) (H : Hp) (scope : Scope) (C : Addr) (cl : List (Str × Addr)) (fp : List Addr) (x : Str) (h : stB (some scope) (relab sc scope) x = true) :
    (X.blk s H scope (compEnvC scope cl C X.env) fp).fn x = true ∨ (X.blk s H scope (compEnvC scope cl C X.env) fp).env.scope.names.lookup x = some .local := by
  have e := (c.blk s H scope C cl fp).sc
  rw [e]
  simp only [stB, Bool.or_eq_true, decide_eq_true_eq] at h
  rcases h with h | h
  · right
    unfold loc1 at h
    split at h
    · assumption
    · cases h
  · left
    show (scope.names.lookup x == some .cell) = true
    rw [h]; rfl
theorem ownP_snd (own : List Nat) : (ownP J own).map (·.2) = own := by
  unfold ownP
  rw [List.map_map]
  exact List.map_id' own
end
end ML

set_option maxHeartbeats 4000000
/-! The check is sound: expressions, one induction. -/
namespace ML
open PySem PySem.Spec PyProof.Rows L2
structure Snd (J : Ck) (A : Ad) (T : Tab) (d n : Nat) : Prop where
  e : ∀ {W X sc} (c : CE J A T d W X sc) {e m}, okE J n sc e m = true → SE T A d W X e m
  t : ∀ {W X sc} (c : CE J A T d W X sc) {e m}, okT J n sc e m = true → ST T A d W X e m
  w : ∀ {W X sc} (c : CE J A T d W X sc) {op es m p}, okW J n sc op es m = true → SW T A d W X (.BoolOp op es p) m
  l : ∀ {W X sc} (c : CE J A T d W X sc) {e m}, okL J n sc e m = true → SL T A d W X e m
  c : ∀ {W X sc} (c : CE J A T d W X sc) {es m}, okC J n sc es m = true → PTs X es (TCv X.K A W (evOT T.glob (callF T d) m))
  i : ∀ {W X sc} (c : CE J A T d W X sc) {tg e m}, okI J n sc tg e m = true → SI T A d W X tg e m
  es : ∀ {W X sc} (c : CE J A T d W X sc) {es m}, okEs J n sc es m = true → SA T A d W X es m
  ks : ∀ {W X sc} (c : CE J A T d W X sc) {es m}, okKs J n sc es m = true → SK T A d W X es m
  oe : ∀ {W X sc} (c : CE J A T d W X sc) {es m}, okOE J n sc es m = true → SO T A d W X es m
section
variable {J : Ck} {A : Ad} {T : Tab} {d : Nat} {W : WX} {X : Cx} {sc : Scope} {n : Nat}
theorem CE.hu (c : CE J A T d W X sc) : X.A.units + 66 < cLine := by
  have := c.room.un
  have h : 16 * d + 200 ≥ 66 := by omega
  omega
theorem isopB_of {k : Bool} {op : CmpOp} (h : isopB k op = true) : op = if k then .IsNot else .Is := by
  unfold isopB at h
  cases k <;> simpa using h
theorem snd_es (h : Snd J A T d n) (c : CE J A T d W X sc) {es m} (hk : okEs J (n + 1) sc es m = true) : SA T A d W X es m := by
  simp only [okEs] at hk
  split at hk
  · exact sa_nil
  · simp only [Bool.and_eq_true] at hk
    exact sa_cons (star_cons hk.1.1) (h.e c hk.1.2) (h.es c hk.2)
  · cases hk
theorem snd_ks (h : Snd J A T d n) (c : CE J A T d W X sc) {es m} (hk : okKs J (n + 1) sc es m = true) : SK T A d W X es m := by
  simp only [okKs] at hk
  split at hk
  · exact sk_nil
  · simp only [Bool.and_eq_true] at hk
    exact sk_cons (h.e c hk.1) (h.ks c hk.2)
  · cases hk
theorem snd_oe (h : Snd J A T d n) (c : CE J A T d W X sc) {es m} (hk : okOE J (n + 1) sc es m = true) : SO T A d W X es m := by
  simp only [okOE] at hk
  split at hk
  · exact so_none
  · exact so_some (h.e c hk)
  · cases hk
theorem snd_c (h : Snd J A T d n) (c : CE J A T d W X sc) {es m} (hk : okC J (n + 1) sc es m = true) : PTs X es (TCv X.K A W (evOT T.glob (callF T d) m)) := by
  simp only [okC] at hk
  split at hk
  · split at hk
    · exact sc_none
    · cases hk
  · split at hk
    · exact sc_some (h.t c hk)
    · cases hk
theorem snd_w (h : Snd J A T d n) (c : CE J A T d W X sc) {op es m p} (hk : okW J (n + 1) sc op es m = true) : SW T A d W X (.BoolOp op es p) m := by
  simp only [okW] at hk
  split at hk
  · cases hk
  · cases op
    · exact sw_and1 (h.t c hk)
    · exact sw_or1 (h.t c hk)
  · split at hk
    · split at hk
      · simp only [Bool.and_eq_true] at hk
        exact sw_and (h.t c hk.1) (h.w c hk.2)
      · cases hk
    · split at hk
      · simp only [Bool.and_eq_true] at hk
        exact sw_or (h.t c hk.1) (h.w c hk.2)
      · cases hk
theorem snd_i (h : Snd J A T d n) (c : CE J A T d W X sc) {tg e m} (hk : okI J (n + 1) sc tg e m = true) : SI T A d W X tg e m := by
  simp only [okI] at hk
  split at hk
  · exact si_of (h.e c hk)
  · split at hk
    · rename_i es x px a as p
      simp only [Bool.and_eq_true, decide_eq_true_eq] at hk
      obtain ⟨⟨⟨⟨⟨⟨h1, h2⟩, h3⟩, h4⟩, h5⟩, h6⟩, h7⟩ := hk
      subst h3
      have hg := gl_of c.sc h1
      have hm : X.mg "range" = none := Ck.is_of c h2
      simp only [List.all_cons, Bool.and_eq_true] at h4
      have hs := h.es c h7
      match as, h4, h5, hs with
      | [], h4, h5, hs => exact si_rng1 hg hm (star_cons h4.1) h5.symm hs
      | [b], h4, h5, hs =>
        simp only [List.all_cons, Bool.and_eq_true] at h4
        exact si_rng2 hg hm (by rw [star_cons h4.1, star_cons h4.2.1]; rfl) (star_cons h4.2.1) h5.symm hs
      | [b, b2], h4, h5, hs => exact si_rng3 hg hm (star_cons h4.1) (back_any h4.2) h5.symm hs
      | _ :: _ :: _ :: _, h4, h5, hs => exact absurd h6 (by rw [← h5]; simp only [List.length_cons]; omega)
    · cases hk
  · split at hk
    · simp only [Bool.and_eq_true, decide_eq_true_eq] at hk
      obtain ⟨⟨⟨⟨⟨⟨⟨h1, h2⟩, h3⟩, h4⟩, h5⟩, h6⟩, h7⟩, h8⟩ := hk
      subst h3
      have hm : X.mg "zip" = none := Ck.is_of c h2
      unfold tupB at h6
      split at h6
      · exact si_zip (gl_of c.sc h1) hm (star_cons h4) (star_cons h5) (back_any (by simp [h5])) (h.e c h7) (h.e c h8)
      · cases h6
    · cases hk
  · split at hk
    · simp only [Bool.and_eq_true, decide_eq_true_eq] at hk
      obtain ⟨⟨⟨⟨⟨h1, h2⟩, h3⟩, h4⟩, h6⟩, h7⟩ := hk
      subst h3
      have hm : X.mg "enumerate" = none := Ck.is_of c h2
      unfold tupB at h6
      split at h6
      · exact si_enum (gl_of c.sc h1) hm (star_cons h4) (h.e c h7)
      · cases h6
    · cases hk
theorem snd_comp (h : Snd J A T d n) (c : CE J A T d W X sc) {own : List Nat} {s : Src} {t : Tg} {oc : OE} {b : E} {elt tg iter : Expr} {ifs : List Expr} {scope : Scope} {p : Pos}
    (hk : (nset iter && blkC J.N sc scope (ownP J own) && t.slots.all (fun i => decide (i ∈ own)) && okG J (some scope) (relab sc scope) tg t && okI J n sc tg iter s && okC J n (relab sc scope) ifs oc && okE J n (relab sc scope) elt b) = true) :
    (SL T A d W X (.ListComp elt [⟨tg, iter, ifs, 0⟩] scope p) (.comp own s t oc b)) ∧
    (∃ te, (∀ σ H Q, TLv X.K A W (ev T d (.comp own s t oc b)) σ H Q → te σ H Q) ∧ ∀ {i : Nat} {y : Str} {py spos : Pos}, X.N[i]? = some y → X.env.scope.names.lookup y = some .local → swapsWith (.ListComp elt [⟨tg, iter, ifs, 0⟩] scope p) (some (.Name y py)) spos.line X.env = pure true →
      PS X (.Assign [.Name y py] (.ListComp elt [⟨tg, iter, ifs, 0⟩] scope p) spos) (tAsg te (gName i))) := by
  simp only [Bool.and_eq_true] at hk
  obtain ⟨⟨⟨⟨⟨⟨h1, h2⟩, h3⟩, h4⟩, h5⟩, h6⟩, h7⟩ := hk
  have ok : BlkOk X.N X.env.scope scope (ownP J own) := by rw [c.hN, c.sc]; exact blkOk_by h2
  have hi := h.i c h5
  have hg := fun (s : Shared) (H : Hp) (C : Addr) (cl : List (Str × Addr)) (fp : List Addr) => okG_of (c.blk s H scope C cl fp) (stB_blk c s H scope C cl fp) h4
  have ht := fun (s : Shared) (H : Hp) (C : Addr) (cl : List (Str × Addr)) (fp : List Addr) => h.c (c.blk s H scope C cl fp) h6
  have he := fun (s : Shared) (H : Hp) (C : Addr) (cl : List (Str × Addr)) (fp : List Addr) => h.e (c.blk s H scope C cl fp) h7
  have hsl : ∀ i ∈ t.slots, i ∈ (ownP J own).map (·.2) := by
    rw [ownP_snd]
    simpa using h3
  have key := sl_comp (pos := p) c.calm c.nd hi ok hsl (nset_of h1) hg ht he
  rw [ownP_snd] at key
  refine ⟨key.1, _, key.2, fun {i y py spos} hy hyl hsw => ?_⟩
  have := ps_setLc (pos := p) (spos := spos) (py := py) (g := TGv X.K A t) (tt := TCv X.K A W0 (evOT T.glob (callF T d) oc)) (te := TEv X.K A W0 (ev T d b)) c.calm c.nd hy hyl hsw hi ok hg ht he (nset_of h1)
  rw [ownP_snd] at this
  exact this
theorem snd_l (h : Snd J A T d n) (c : CE J A T d W X sc) {e m} (hk : okL J (n + 1) sc e m = true) : SL T A d W X e m := by
  simp only [okL] at hk
  split at hk
  · split at hk
    · simp only [Bool.and_eq_true, decide_eq_true_eq] at hk
      exact sl_lst hk.1 (h.es c hk.2)
    · cases hk
  · split at hk
    · simp only [Bool.and_eq_true, decide_eq_true_eq] at hk
      obtain ⟨⟨⟨⟨h1, h2⟩, h3⟩, h4⟩, h5⟩ := hk
      exact sl_list (gl_of c.sc h1) (Ck.is_of c h2) h3 (star_cons h4) (h.e c h5)
    · cases hk
  · split at hk
    · simp only [Bool.and_eq_true, decide_eq_true_eq] at hk
      exact sl_rep hk.1.1 (h.es c hk.1.2) (h.e c hk.2)
    · cases hk
  · split at hk
    · simp only [Bool.and_eq_true] at hk
      exact sl_ite (h.t c hk.1.1) (h.l c hk.1.2) (h.l c hk.2)
    · cases hk
  · split at hk
    · simp only [Bool.and_eq_true] at hk
      exact sl_or (h.l c hk.1) (h.l c hk.2)
    · cases hk
  · split at hk
    · simp only [Bool.and_eq_true, decide_eq_true_eq] at hk
      obtain ⟨⟨⟨⟨⟨⟨⟨h1, h2⟩, h3⟩, h4⟩, h5⟩, h6⟩, h7⟩, h8⟩ := hk
      subst h3 h6
      simp only [List.all_cons, Bool.and_eq_true] at h7
      exact sl_lof c.calm (gl_of c.sc h1) (Ck.is_of c h2) (star_cons rfl) (prc (gl_of c.sc h4) (Ck.is_of c h5) (star_cons h7.1) (back_any h7.2) (h.es c h8))
    · cases hk
  · split at hk
    · exact (snd_comp h c hk).1
    · cases hk
  · cases hk
theorem st_plain {e : Expr} {m : E} (h : SE T A d W X e m) (h1 : ∀ x p, e ≠ .UnaryOp .Not x p) (h2 : ∀ op xs p, e ≠ .BoolOp op xs p) (h3 : ∀ a b c p, e ≠ .IfExp a b c p) (h4 : ∀ a b c p, e ≠ .Compare a b c p) : ST T A d W X e m := by
  refine st_val h fun whole => ?_
  cases e with
  | UnaryOp op x p => cases op <;> first | rfl | exact absurd rfl (h1 _ _)
  | BoolOp op xs p => exact absurd rfl (h2 _ _ _)
  | IfExp a b c p => exact absurd rfl (h3 _ _ _ _)
  | Compare a b c p => exact absurd rfl (h4 _ _ _ _)
  | _ => rfl
theorem snd_t (h : Snd J A T d n) (c : CE J A T d W X sc) {e m} (hk : okT J (n + 1) sc e m = true) : ST T A d W X e m := by
  simp only [okT] at hk
  split at hk
  · split at hk
    · exact st_not (h.t c hk)
    · cases hk
  · exact (h.w c hk).pt
  · split at hk
    · simp only [Bool.and_eq_true, decide_eq_true_eq, Bool.not_eq_true'] at hk
      exact st_cmp hk.1.1.1 c.hu hk.1.1.2 (h.e c hk.1.2) (h.e c hk.2)
    · simp only [Bool.and_eq_true] at hk
      obtain ⟨⟨v, hv, hr⟩, _, hm⟩ := litB_of (X := X) (A := A) (T := T) (d := d) (W := W) hk.1.2
      have e1 := isopB_of hk.1.1
      subst e1
      exact st_isC (hm _) (h.e c hk.2) hv hr
    · cases hk
  · split at hk
    · simp only [Bool.and_eq_true, decide_eq_true_eq, Bool.not_eq_true'] at hk
      obtain ⟨⟨⟨⟨⟨h1, h2⟩, h3⟩, h4⟩, h5⟩, h6⟩ := hk
      exact st_chain h1 h2 c.hu h3 (h.e c h4) (h.e c h5) (h.e c h6)
    · cases hk
  · cases hk
  · cases hk
  · rename_i hn1 hn2 _ _ hn3 hn4
    exact st_plain (h.e c hk) (fun x p e => hn1 x p e) (fun op xs p e => hn2 op xs p e) (fun a b c p e => hn3 a b c p e) (fun a b c p e => hn4 a b c p e)
end
end ML

set_option maxHeartbeats 4000000
/-! The check is sound: all expressions. -/
namespace ML
open PySem PySem.Spec PyProof.Rows L2
section
variable {J : Ck} {A : Ad} {T : Tab} {d : Nat} {W : WX} {X : Cx} {sc : Scope} {n : Nat}
theorem few_ok {a : Expr} {p : Pos} {env : PySem.Env} (h : nstar a = true) : ((backTo p (starEach [a] env)).all (fun x => !x.1) && (backToKw p (keywordEach [] env)).all (fun x => x.1.isSome) && decide ([a].length + ([] : List Keyword).length + (if ([] : List Keyword).isEmpty then 0 else 1) < 30)) = true := by
  rw [star_cons h]; rfl
theorem snd_e (h : Snd J A T d n) (c : CE J A T d W X sc) {e m} (hk : okE J (n + 1) sc e m = true) : SE T A d W X e m := by
  simp only [okE] at hk
  split at hk
  · rename_i a he
    obtain ⟨op, p, rfl⟩ := one_some he
    exact se_one (h.e c hk)
  rename_i he
  cases m with
  | var i =>
    simp only at hk
    split at hk
    · simp only [Bool.and_eq_true] at hk
      exact se_var (Ck.slot_of c hk.1.1.1) (vis_of c.sc hk.1.1.2) (dbg_of hk.1.2) (cd_of hk.2)
    · cases hk
  | lit z =>
    simp only [Bool.or_eq_true] at hk
    rcases hk with hk | hk
    · exact (litB_of (X := X) (A := A) hk).2.1
    · unfold fnB at hk
      split at hk
      · split at hk
        · simp only [Bool.and_eq_true] at hk
          obtain ⟨F, b, h1, h2, h3⟩ := Ck.is_of c hk.1.2
          refine PEimp (pe_glb (v := .ref b) (gl_of c.sc hk.1.1) ⟨_, h3, rfl⟩ (dbg_of hk.2)) fun σ H Q ⟨κ, G, C, ρ, s, e, f⟩ => ?_
          simp only [ev, evE] at f
          exact f.ok s _ (.fn h2)
        · cases hk
      · cases hk
  | glob g =>
    simp only at hk
    split at hk
    · simp only [Bool.and_eq_true] at hk
      obtain ⟨v, z, h1, h2, h3⟩ := Ck.is_of c hk.1.2
      exact se_glob (gl_of c.sc hk.1.1) h1 (dbg_of hk.2) h2 h3
    · cases hk
  | bin o a b =>
    simp only at hk
    split at hk
    · simp only [Bool.and_eq_true, decide_eq_true_eq] at hk
      exact se_bin hk.1.1 (h.e c hk.1.2) (h.e c hk.2)
    · cases hk
  | neg a =>
    simp only at hk
    split at hk
    · exact se_neg (h.e c hk)
    · cases hk
  | not a =>
    simp only at hk
    split at hk
    · exact se_not (h.e c hk)
    · cases hk
  | and a b =>
    simp only at hk
    split at hk
    · simp only [Bool.and_eq_true] at hk
      exact se_and (h.e c hk.1) (h.e c hk.2)
    · cases hk
  | or a b =>
    simp only at hk
    split at hk
    · simp only [Bool.and_eq_true] at hk
      exact se_or (h.e c hk.1) (h.e c hk.2)
    · cases hk
  | cmp o a b =>
    simp only at hk
    split at hk
    · simp only [Bool.and_eq_true, decide_eq_true_eq, Bool.not_eq_true'] at hk
      exact se_cmp hk.1.1.1 c.hu hk.1.1.2 (h.e c hk.1.2) (h.e c hk.2)
    · cases hk
  | chain o o' a b c' =>
    simp only at hk
    split at hk
    · simp only [Bool.and_eq_true, decide_eq_true_eq, Bool.not_eq_true'] at hk
      obtain ⟨⟨⟨⟨⟨h1, h2⟩, h3⟩, h4⟩, h5⟩, h6⟩ := hk
      exact se_chain h1 h2 c.hu h3 (h.e c h4) (h.e c h5) (h.e c h6)
    · cases hk
  | isC k a z =>
    simp only at hk
    split at hk
    · simp only [Bool.and_eq_true] at hk
      obtain ⟨⟨v, hv, hr⟩, _, hm⟩ := litB_of (X := X) (A := A) (T := T) (d := d) (W := W) hk.1.2
      have e1 := isopB_of hk.1.1
      subst e1
      exact se_isC (hm _) (h.e c hk.2) hv hr
    · cases hk
  | ite c' a b =>
    simp only at hk
    split at hk
    · simp only [Bool.and_eq_true] at hk
      exact se_ite (h.t c hk.1.1) (h.e c hk.1.2) (h.e c hk.2)
    · cases hk
  | tup es =>
    simp only at hk
    split at hk
    · simp only [Bool.and_eq_true, decide_eq_true_eq] at hk
      exact se_tup hk.1 (h.es c hk.2)
    · cases hk
  | lst es =>
    simp only at hk
    split at hk
    · simp only [Bool.and_eq_true, decide_eq_true_eq] at hk
      exact se_lst hk.1 (h.es c hk.2)
    · cases hk
  | idx a b =>
    simp only at hk
    split at hk
    · simp only [Bool.and_eq_true] at hk
      exact se_idx (plain_ix hk.1.1) (h.e c hk.1.2) (h.e c hk.2)
    · cases hk
  | sl a lo hi =>
    simp only at hk
    split at hk
    · simp only [Bool.and_eq_true] at hk
      exact se_sl (h.e c hk.1.1) (h.oe c hk.1.2) (h.oe c hk.2)
    · cases hk
  | rev a =>
    simp only at hk
    split at hk
    · exact se_rev (h.e c hk)
    · cases hk
  | call f es =>
    simp only at hk
    split at hk
    · simp only [Bool.and_eq_true] at hk
      obtain ⟨⟨⟨⟨h1, h2⟩, h3⟩, h4⟩, h5⟩ := hk
      obtain ⟨F, b, hF, hA, hm⟩ := Ck.is_of c h2
      simp only [List.all_cons, Bool.and_eq_true] at h4
      exact se_call c.fns c.room c.tk hF hA (gl_of c.sc h1) hm (dbg_of h3) (star_cons h4.1) (back_any h4.2) (h.es c h5)
    · cases hk
  | callk f es ks pm =>
    simp only at hk
    split at hk
    · rename_i x px as kws p
      simp only [Bool.and_eq_true] at hk
      obtain ⟨⟨⟨⟨⟨⟨h1, h2⟩, h3⟩, h4⟩, h5⟩, h6⟩, h7⟩ := hk
      obtain ⟨F, b, hF, hA, hm⟩ := Ck.is_of c h2
      split at h7
      · rename_i ns hns
        simp only [Bool.and_eq_true, decide_eq_true_eq] at h7
        rw [← c.ps f F hF] at h7
        cases as with
        | nil =>
          have : es = .nil := by
            cases n with
            | zero => simp [okEs] at h5
            | succ n => cases es with
              | nil => rfl
              | cons _ _ => simp [okEs] at h5
          subst this
          exact se_callk0 c.fns c.room c.tk hF hA (gl_of c.sc h1) hm (dbg_of h3) (kwN_of hns) h7.1 h7.2 (h.ks c h6)
        | cons a as =>
          have h4' := h4
          simp only [List.all_cons, Bool.and_eq_true] at h4
          exact se_callk c.fns c.room c.tk hF hA (gl_of c.sc h1) hm (dbg_of h3) (star_cons h4.1) (back_any h4') (kwN_of hns) h7.1 h7.2 (h.es c h5) (h.ks c h6)
      · cases h7
    · cases hk
  | callv i es =>
    simp only at hk
    split at hk
    · simp only [Bool.and_eq_true] at hk
      obtain ⟨⟨⟨⟨⟨h1, h2⟩, h3⟩, h3'⟩, h4⟩, h5⟩ := hk
      simp only [List.all_cons, Bool.and_eq_true] at h4
      exact se_callv c.fns c.room c.tk (Ck.slot_of c h1) (vis_of c.sc h2) (dbg_of h3) (cd_of h3') (star_cons h4.1) (back_any h4.2) (h.es c h5)
    · cases hk
  | bf b es =>
    simp only at hk
    split at hk
    · simp only [Bool.and_eq_true, decide_eq_true_eq] at hk
      obtain ⟨⟨⟨⟨h1, h2⟩, h3⟩, h4⟩, h5⟩ := hk
      subst h3
      obtain ⟨b1, b2, b3⟩ := boot_bf b
      simp only [List.all_cons, Bool.and_eq_true] at h4
      exact se_bf c.calm (gl_of c.sc h1) (Ck.is_of c h2) b1 b2 b3 (star_cons h4.1) (back_any h4.2) (h.es c h5)
    · cases hk
  | isin a ts =>
    match ts, hk with
    | [t], hk =>
      simp only at hk
      split at hk
      · simp only [Bool.and_eq_true, decide_eq_true_eq] at hk
        obtain ⟨⟨⟨⟨⟨⟨⟨h1, h2⟩, h3⟩, h4⟩, h5⟩, h6⟩, h7⟩, h8⟩ := hk
        exact se_isin1 (gl_of c.sc h1) h3 (Ck.is_of c h2) (gl_of c.sc h4) h6 (Ck.is_of c h5) (star_cons h7) (h.e c h8)
      · cases hk
    | [t, u], hk =>
      simp only at hk
      split at hk
      · simp only [Bool.and_eq_true, decide_eq_true_eq] at hk
        obtain ⟨⟨⟨⟨⟨⟨⟨⟨⟨⟨h1, h2⟩, h3⟩, h4⟩, h5⟩, h6⟩, g4⟩, g5⟩, g6⟩, h7⟩, h8⟩ := hk
        exact se_isin2 (gl_of c.sc h1) h3 (Ck.is_of c h2) (gl_of c.sc h4) h6 (Ck.is_of c h5) (gl_of c.sc g4) g6 (Ck.is_of c g5) (star_cons h7) (h.e c h8)
      · cases hk
    | [], hk => simp at hk
    | _ :: _ :: _ :: _, hk => simp at hk
  | app a b =>
    simp only at hk
    split at hk
    · simp only [Bool.and_eq_true, decide_eq_true_eq] at hk
      obtain ⟨⟨⟨⟨h1, h2⟩, h3⟩, h4⟩, h5⟩ := hk
      subst h1
      exact se_app rfl (few_ok h3) h2 (star_cons h3) (h.e c h4) (h.e c h5)
    · cases hk
  | pop a b =>
    simp only at hk
    split at hk
    · simp only [Bool.and_eq_true, decide_eq_true_eq] at hk
      obtain ⟨⟨⟨⟨h1, h2⟩, h3⟩, h4⟩, h5⟩ := hk
      subst h1
      exact se_pop rfl (few_ok h3) h2 (star_cons h3) (h.e c h4) (h.e c h5)
    · cases hk
  | lof s => exact (h.l c hk).se
  | comp own s t oc b => exact (h.l c hk).se
  | tof s => simp at hk
  | ext a b =>
    simp only at hk
    split at hk
    · simp only [Bool.and_eq_true, decide_eq_true_eq] at hk
      obtain ⟨⟨⟨⟨h1, h2⟩, h3⟩, h4⟩, h5⟩ := hk
      subst h1
      exact se_ext rfl (few_ok h3) h2 (star_cons h3) (h.e c h4) (h.e c h5)
    · cases hk
  | index a b => simp at hk
theorem snd : ∀ n, Snd J A T d n
  | 0 => by
    constructor <;> intros <;> rename_i hk <;> first | (simp [okE] at hk; done) | (simp [okT] at hk; done) | (simp [okW] at hk; done) | (simp [okL] at hk; done) | (simp [okC] at hk; done) | (simp [okI] at hk; done) | (simp [okEs] at hk; done) | (simp [okKs] at hk; done) | (simp [okOE] at hk; done)
  | n + 1 => ⟨fun c _ _ => snd_e (snd n) c, fun c _ _ => snd_t (snd n) c, fun c _ _ _ _ => snd_w (snd n) c, fun c _ _ => snd_l (snd n) c, fun c _ _ => snd_c (snd n) c, fun c _ _ _ => snd_i (snd n) c, fun c _ _ => snd_es (snd n) c, fun c _ _ => snd_ks (snd n) c, fun c _ _ => snd_oe (snd n) c⟩
end
end ML

set_option maxHeartbeats 4000000
/-! The check of statements. -/
namespace ML
open PySem PySem.Spec PyProof.Rows L2
def okEsC (K : Ck) (n : Nat) (sc : Scope) : List Bool → List Expr → Es → Bool
  | _, [], es => (match es with | .nil => true | _ => false)
  | fl, x :: xs, es => match fl, es with
    | f :: fl, .cons e es => nstar x && (if f then okL K n sc x e else okE K n sc x e) && okEsC K n sc fl xs es
    | _, _ => false
/-- plain local names of one line, each another -/
def parN (sc : Scope) (K : Ck) (line : Nat) : List Expr → List Nat → Bool
  | [], is => is.isEmpty
  | t :: ts, is => match is with
    | [] => false
    | i :: is => (match t with | .Name x p => K.slot i x && loc1 sc x && (p.line == line) && !(i ∈ is) | _ => false) && parN sc K line ts is
def nloc (sc : Scope) : Expr → Bool
  | .Name x _ => !loc1 sc x
  | _ => true
/-- x = [.. for ..]: whether the comprehension's end writes it -/
def swB (sc : Scope) (x : Str) (px : Pos) (s : Scope) (q : Pos) : Bool := loc1 sc x && (px.line == q.line) && !(s.names.any fun (n, k) => n == x && (k == .local || k == .cell))
def nsw (sc : Scope) (x : Str) (px : Pos) (v : Expr) : Bool := ncomp v || (match v with | .ListComp _ _ s q => !swB sc x px s q | _ => false)
def ysw (sc : Scope) (x : Str) (px : Pos) (v : Expr) (e : E) : Bool := match e with
  | .comp _ _ _ _ _ => (match v with | .ListComp _ [⟨_, _, _, 0⟩] s q => swB sc x px s q | _ => false)
  | _ => false
def docB : Expr → Bool
  | .Constant (.str _) _ _ => true
  | _ => false
mutual
def okS (K : Ck) : Nat → Scope → Stmt → S → Bool
  | 0, _, _, _ => false
  | n + 1, sc, st, m => match m with
    | .set i e => (match st with | .Assign [.Name x px] v p => K.slot i x && locB sc x && okE K n sc v e && (nsw sc x px v || ysw sc x px v e) | _ => false)
    | .setC i e => (match st with | .Assign [.Name x px] v p => K.slot i x && locB sc x && okL K n sc v e && (nsw sc x px v || ysw sc x px v e) | _ => false)
    | .tset is e => (match st with | .Assign [.Tuple es k q] v p => nmsB K none sc es is && ncomp v && (ndisp v || (match v with | .Tuple vs _ _ => vs.all (foldedForSure 8) || decide (es.length ≠ vs.length) || decide (es.length > 3) || es.any (nloc sc) | _ => false)) && okE K n sc v e | _ => false)
    | .par is fl es => (match st with | .Assign [.Tuple ts k q] (.Tuple vs k2 q2) p => (decide (is.length = 2) || decide (is.length = 3)) && decide (vs.length = is.length) && (match ts with | .Name x px :: _ => parN sc K px.line ts is | _ => false) &&
        !(vs.all (foldedForSure 8)) && !(vs.all (constantsAlone 8)) && vs.all nstar && okEsC K n sc fl vs es | _ => false)
    | .seti a i e => (match st with | .Assign [.Subscript x y _] v p => ncomp v && nslice y && okE K n sc v e && okE K n sc x a && okE K n sc y i | _ => false)
    | .expr e => (match st with | .Expr v p => ncomp v && okE K n sc v e | _ => false)
    | .retC e => (match st with | .Return (some v) p => okL K n sc v e | _ => false)
    | .ret e => (match st with | .Return (some v) p => okE K n sc v e | _ => false)
    | .ife c a b => (match st with | .If x ys zs p => okT K n sc x c && okSs K n sc ys a && okSs K n sc zs b | _ => false)
    | .whl c b => (match st with | .While x ys [] p => okT K n sc x c && okSs K n sc ys b | _ => false)
    | .fr s t b => (match st with | .For tg iter ys [] p => nset iter && okI K n sc tg iter s && okG K none sc tg t && okSs K n sc ys b | _ => false)
    | .pass => (match st with | .Pass _ => true | .Expr v _ => docB v | _ => false)
    | .brk => (match st with | .Break _ => true | _ => false)
    | .cont => (match st with | .Continue _ => true | _ => false)
    | .raise c .none => (match st with | .Raise (some (.Call (.Name x _) [] [] _)) none _ => glB sc x && nodbg x && K.is x (.ec c) | _ => false)
    | _ => false
def okSs (K : Ck) : Nat → Scope → List Stmt → Ss → Bool
  | 0, _, _, _ => false
  | n + 1, sc, sts, ms => match sts, ms with
    | [], .nil => true
    | x :: xs, .cons m ms => okS K n sc x m && okSs K n sc xs ms
    | _, _ => false
end
end ML

set_option maxHeartbeats 4000000
/-! The check of statements is sound. -/
namespace ML
open PySem PySem.Spec PyProof.Rows L2
structure CS (J : Ck) (A : Ad) (T : Tab) (d : Nat) (W : WX) (X : Cx) (sc : Scope) : Prop extends CE J A T d W X sc where
  pass : PassesOwn (model X.prog X.w) X.A X.env X.xe
  fnt : ∀ x, X.fn x = true
  kind : X.env.scope.kind = .function
section
variable {J : Ck} {A : Ad} {T : Tab} {d : Nat} {W : WX} {X : Cx} {sc : Scope} {n : Nat}
theorem ncomp_sw {v : Expr} {t : Option Expr} {l : Nat} {env : PySem.Env} (h : ncomp v = true) : swapsWith v t l env = pure false := by
  cases v <;> first | rfl | (simp [ncomp] at h)
theorem loc1_of {x : Str} (e : X.env.scope = sc) (h : loc1 sc x = true) : X.env.scope.names.lookup x = some .local := by
  subst e
  unfold loc1 at h
  split at h
  · assumption
  · cases h
theorem CS.blockKind (c : CS J A T d W X sc) : X.env.blockKind = .function := by unfold Env.blockKind; rw [c.kind]; rfl
theorem stB_def (c : CS J A T d W X sc) (x : Str) (h : stB none sc x = true) : X.fn x = true ∨ X.env.scope.names.lookup x = some .local := .inl (c.fnt x)
theorem sac_of (c : CE J A T d W X sc) : ∀ {fl : List Bool} {xs : List Expr} {es : Es}, okEsC J n sc fl xs es = true → SAC T A d W X fl xs es
  | fl, [], es, h => by
    cases es with
    | nil => exact sac_nil
    | cons _ _ => simp [okEsC] at h
  | [], x :: xs, es, h => by simp [okEsC] at h
  | f :: fl, x :: xs, .nil, h => by simp [okEsC] at h
  | f :: fl, x :: xs, .cons e es, h => by
    simp only [okEsC, Bool.and_eq_true] at h
    cases f with
    | true =>
      rw [if_pos rfl] at h
      exact sac_consC (star_cons h.1.1) ((snd n).l c h.1.2) (sac_of c h.2)
    | false =>
      rw [if_neg (by decide)] at h
      exact sac_cons (star_cons h.1.1) ((snd n).e c h.1.2) (sac_of c h.2)
theorem nstar_any {vs : List Expr} (h : vs.all nstar = true) : (vs.any fun | .Starred .. => true | _ => false) = false := by
  induction vs with
  | nil => rfl
  | cons a vs ih =>
    simp only [List.all_cons, Bool.and_eq_true] at h
    rw [List.any_cons, ih h.2]
    have := h.1
    cases a <;> first | rfl | (simp [nstar] at this)
theorem sw_stores2 (c : CS J A T d W X sc) {x y : Str} {px py q q2 : Pos} {k k2 : Nat} {a b : Expr} (hx : X.env.scope.names.lookup x = some .local) (hy : X.env.scope.names.lookup y = some .local) (hl : py.line = px.line) (hne : x ≠ y)
    (h1 : [a, b].all (foldedForSure 8) = false) (h2 : [a, b].all (constantsAlone 8) = false) (h3 : [a, b].all nstar = true) :
    swappedStores [.Tuple [.Name x px, .Name y py] k q] (.Tuple [a, b] k2 q2) X.env = pure (some [x, y]) := by
  have kx : X.env.kindOf x = some .local := hx
  have ky : X.env.kindOf y = some .local := hy
  have h3' := nstar_any h3
  unfold swappedStores
  simp only [c.blockKind, h3', h1, h2, List.filterMap_cons, kx, ky, List.head?_cons, Option.map_some, Expr.pos, Option.getD_some, hl, List.length_cons, List.length_nil, List.filterMap_nil]
  have : (y == x) = false := by simpa using fun h => hne h.symm
  simp only [List.all_cons, List.all_nil, Bool.and_true, Bool.and_eq_true] at h3
  simp [List.eraseDups, List.eraseDupsBy, List.eraseDupsBy.loop, this]
  rintro (h | h)
  · exact absurd h (by have := h3.1; revert this; cases a <;> simp [nstar])
  · exact absurd h (by have := h3.2; revert this; cases b <;> simp [nstar])
theorem sw_stores3 (c : CS J A T d W X sc) {x y z : Str} {px py pz q q2 : Pos} {k k2 : Nat} {a b e : Expr} (hx : X.env.scope.names.lookup x = some .local) (hy : X.env.scope.names.lookup y = some .local) (hz : X.env.scope.names.lookup z = some .local) (hl : py.line = px.line) (hl2 : pz.line = px.line) (hne : x ≠ y) (hne2 : x ≠ z) (hne3 : y ≠ z)
    (h1 : [a, b, e].all (foldedForSure 8) = false) (h2 : [a, b, e].all (constantsAlone 8) = false) (h3 : [a, b, e].all nstar = true) :
    swappedStores [.Tuple [.Name x px, .Name y py, .Name z pz] k q] (.Tuple [a, b, e] k2 q2) X.env = pure (some [x, y, z]) := by
  have kx : X.env.kindOf x = some .local := hx
  have ky : X.env.kindOf y = some .local := hy
  have kz : X.env.kindOf z = some .local := hz
  have h3' := nstar_any h3
  unfold swappedStores
  simp only [c.blockKind, h3', h1, h2, List.filterMap_cons, kx, ky, kz, List.head?_cons, Option.map_some, Expr.pos, Option.getD_some, hl, hl2, List.length_cons, List.length_nil, List.filterMap_nil]
  have e1 : (y == x) = false := by simpa using fun h => hne h.symm
  have e2 : (z == x) = false := by simpa using fun h => hne2 h.symm
  have e3 : (z == y) = false := by simpa using fun h => hne3 h.symm
  simp only [List.all_cons, List.all_nil, Bool.and_true, Bool.and_eq_true] at h3
  simp [List.eraseDups, List.eraseDupsBy, List.eraseDupsBy.loop, e1, e2, e3]
  rintro (h | h | h)
  · exact absurd h (by have := h3.1; revert this; cases a <;> simp [nstar])
  · exact absurd h (by have := h3.2.1; revert this; cases b <;> simp [nstar])
  · exact absurd h (by have := h3.2.2; revert this; cases e <;> simp [nstar])
theorem sw_none {es : List Expr} {k : Nat} {q : Pos} {v : Expr} (h : ndisp v = true) : swappedStores [.Tuple es k q] v X.env = pure none := by
  cases v <;> first | rfl | (simp [ndisp] at h)
theorem fm_lt {α β : Type} {f : α → Option β} : ∀ {l : List α}, (∃ a ∈ l, f a = none) → (l.filterMap f).length < l.length
  | [], h => by obtain ⟨_, h, _⟩ := h; simp at h
  | a :: l, h => by
    rw [List.filterMap_cons]
    cases e : f a with
    | none =>
      simp only [List.length_cons]
      exact Nat.lt_succ_of_le (List.length_filterMap_le f l)
    | some b =>
      simp only [List.length_cons]
      obtain ⟨x, hx, hn⟩ := h
      rcases List.mem_cons.mp hx with rfl | hx
      · rw [e] at hn; cases hn
      · exact Nat.succ_lt_succ (fm_lt ⟨x, hx, hn⟩)
theorem sw_noneF (c : CS J A T d W X sc) {es vs : List Expr} {k k2 : Nat} {q q2 : Pos} (h : (vs.all (foldedForSure 8) || decide (es.length ≠ vs.length) || decide (es.length > 3) || es.any (nloc sc)) = true) : swappedStores [.Tuple es k q] (.Tuple vs k2 q2) X.env = pure none := by
  unfold swappedStores
  simp only
  split
  · rfl
  · rename_i hc
    simp only [Bool.or_eq_true, not_or, Bool.not_eq_true, Bool.not_eq_true', Bool.not_eq_false', bne_iff_ne, ne_eq, beq_iff_eq, Classical.not_not] at hc
    split
    · rfl
    · split
      · rfl
      · rename_i hn
        simp only [Bool.or_eq_true, decide_eq_true_eq] at h
        have hf : vs.all (foldedForSure 8) = true := by
          rcases h with ((h | h) | h) | h
          · exact h
          · simp_all
          · simp_all; omega
          · exfalso
            refine hn ?_
            rw [Bool.or_eq_true]
            left
            rw [bne_iff_ne]
            refine Nat.ne_of_lt (fm_lt ?_)
            obtain ⟨e, he, hl⟩ := List.any_eq_true.mp h
            refine ⟨e, he, ?_⟩
            unfold nloc at hl
            split at hl
            · rename_i x p
              have hk : X.env.kindOf x ≠ some .local := fun hk => by
                have : loc1 sc x = true := by
                  unfold loc1
                  rw [← c.sc]
                  have hk' : X.env.scope.names.lookup x = some .local := hk
                  rw [hk']
                simp [this] at hl
              have : (X.env.kindOf x == some .local) = false := by simpa using hk
              simp [this]
            · rename_i hx
              cases e <;> first | rfl | exact absurd rfl (hx _ _)
        simp only [hf]
        rfl
/-- x = [.. for ..] -/
theorem sw_lc (c : CS J A T d W X sc) {elt : Expr} {gs : List Comprehension} {s : Scope} {q px : Pos} {x : Str} {l : Nat} : swapsWith (.ListComp elt gs s q) (some (.Name x px)) l X.env = pure (swB sc x px s q) := by
  unfold swapsWith
  simp only [c.blockKind, Expr.pos]
  have : (X.env.kindOf x == some NameKind.local) = loc1 sc x := by
    unfold loc1
    rw [← c.sc]
    show (X.env.scope.names.lookup x == some NameKind.local) = _
    cases h : X.env.scope.names.lookup x with
    | none => rfl
    | some k => cases k <;> rfl
  rw [this]
  rfl
theorem nsw_of (c : CS J A T d W X sc) {x : Str} {px : Pos} {v : Expr} {l : Nat} (h : nsw sc x px v = true) : swapsWith v (some (.Name x px)) l X.env = pure false := by
  unfold nsw at h
  rw [Bool.or_eq_true] at h
  rcases h with h | h
  · exact ncomp_sw h
  · split at h
    · rw [sw_lc c]
      rw [Bool.not_eq_true'] at h
      rw [h]
    · cases h
end
end ML

set_option maxHeartbeats 4000000
/-! The check of statements is sound: one induction. -/
namespace ML
open PySem PySem.Spec PyProof.Rows L2
section
variable {J : Ck} {A : Ad} {T : Tab} {d : Nat} {W : WX} {X : Cx} {sc : Scope} {n : Nat}
theorem err_of (c : CS J A T d W X sc) {x : Str} {k : Nat} (hg : glB sc x = true) (hd : nodbg x = true) (h : J.is x (.ec k) = true) : ErrOk X A x k := by
  obtain ⟨C, newId, initId, bmB, B, h1, h2, h3, h4, h5, h6, h7⟩ := Ck.is_of c.toCE h
  exact ⟨C, h1, fun p pos => pmk_own0 h2 h3 h4 h5 (raises_own h6 h7) (gl_of c.sc hg) (dbg_of hd)⟩
theorem par_of (c : CS J A T d W X sc) {l : Nat} : ∀ {ts : List Expr} {is : List Nat}, parN sc J l ts is = true →
    match ts, is with
    | [], is => is = []
    | t :: ts, is => ∃ x p i r, t = .Name x p ∧ is = i :: r ∧ X.N[i]? = some x ∧ X.env.scope.names.lookup x = some .local ∧ p.line = l ∧ i ∉ r ∧ parN sc J l ts r = true
  | [], is, h => by simpa [parN] using h
  | t :: ts, [], h => by simp [parN] at h
  | t :: ts, i :: is, h => by
    simp only [parN, Bool.and_eq_true] at h
    obtain ⟨h1, h2⟩ := h
    split at h1
    · simp only [Bool.and_eq_true, Bool.not_eq_true', decide_eq_false_iff_not] at h1
      exact ⟨_, _, i, is, rfl, rfl, Ck.slot_of c.toCE h1.1.1.1, loc1_of c.sc h1.1.1.2, eq_of_beq h1.1.2, h1.2, h2⟩
    · cases h1
theorem ne_slots (c : CS J A T d W X sc) {i j : Nat} {x y : Str} (hi : X.N[i]? = some x) (hj : X.N[j]? = some y) (h : i ≠ j) : x ≠ y := by
  rintro rfl
  obtain ⟨hi', e1⟩ := List.getElem?_eq_some_iff.mp hi
  obtain ⟨hj', e2⟩ := List.getElem?_eq_some_iff.mp hj
  rcases Nat.lt_or_gt_of_ne h with hl | hl
  · exact List.pairwise_iff_getElem.mp c.nd i j hi' hj' hl (e1.trans e2.symm)
  · exact List.pairwise_iff_getElem.mp c.nd j i hj' hi' hl (e2.trans e1.symm)
structure Sns (J : Ck) (A : Ad) (T : Tab) (d n : Nat) : Prop where
  s : ∀ {W X sc} (c : CS J A T d W X sc) {st m}, okS J n sc st m = true → SS T A d W X st m
  b : ∀ {W X sc} (c : CS J A T d W X sc) {st m}, okSs J n sc st m = true → SB T A d W X st m
theorem sns_b (h : Sns J A T d n) (c : CS J A T d W X sc) {st m} (hk : okSs J (n + 1) sc st m = true) : SB T A d W X st m := by
  simp only [okSs] at hk
  split at hk
  · exact sb_nil
  · simp only [Bool.and_eq_true] at hk
    exact sb_cons (h.s c hk.1) (h.b c hk.2)
  · cases hk
theorem sns_s (h : Sns J A T d n) (c : CS J A T d W X sc) {st m} (hk : okS J (n + 1) sc st m = true) : SS T A d W X st m := by
  have E := snd (J := J) (A := A) (T := T) (d := d) n
  simp only [okS] at hk
  cases m with
  | set i e =>
    simp only at hk
    split at hk
    · simp only [Bool.and_eq_true, Bool.or_eq_true] at hk
      obtain ⟨⟨⟨h1, h2⟩, h3⟩, h4⟩ := hk
      rcases h4 with h4 | h4
      · exact ss_set (ps_set c.nd (Ck.slot_of c.toCE h1) (loc_of c.sc h2) (E.e c.toCE h3) (nsw_of c h4) (.inl (c.fnt _))) fun _ _ _ q => q
      · unfold ysw at h4
        split at h4
        · split at h4
          · match n, h3 with
            | 0, h3 => simp [okE] at h3
            | 1, h3 => simp [okE, okL, one?] at h3
            | n + 2, h3 =>
              simp only [okE, okL, one?] at h3
              obtain ⟨te, k1, k2⟩ := (snd_comp (snd n) c.toCE h3).2
              have hl := h4
              unfold swB at hl
              simp only [Bool.and_eq_true] at hl
              exact ss_set (k2 (Ck.slot_of c.toCE h1) (loc1_of c.sc hl.1.1) (by rw [sw_lc c, h4])) fun σ H Q q => k1 σ H Q (TLv.of q)
          · cases h4
        · cases h4
    · cases hk
  | setC i e =>
    simp only at hk
    split at hk
    · simp only [Bool.and_eq_true, Bool.or_eq_true] at hk
      obtain ⟨⟨⟨h1, h2⟩, h3⟩, h4⟩ := hk
      rcases h4 with h4 | h4
      · exact ss_setC (ps_set c.nd (Ck.slot_of c.toCE h1) (loc_of c.sc h2) (E.l c.toCE h3) (nsw_of c h4) (.inl (c.fnt _))) fun _ _ _ q => q
      · unfold ysw at h4
        split at h4
        · split at h4
          · match n, h3 with
            | 0, h3 => simp [okL] at h3
            | n + 1, h3 =>
              simp only [okL] at h3
              obtain ⟨te, k1, k2⟩ := (snd_comp (snd n) c.toCE h3).2
              have hl := h4
              unfold swB at hl
              simp only [Bool.and_eq_true] at hl
              exact ss_setC (k2 (Ck.slot_of c.toCE h1) (loc1_of c.sc hl.1.1) (by rw [sw_lc c, h4])) k1
          · cases h4
        · cases h4
    · cases hk
  | tset is e =>
    simp only at hk
    split at hk
    · simp only [Bool.and_eq_true, Bool.or_eq_true] at hk
      obtain ⟨⟨⟨h1, h2⟩, h3⟩, h4⟩ := hk
      refine ss_tset (ps_asg (E.e c.toCE h4) (sg_many c.calm c.nd (nmsB_of c.toCE (stB_def c) h1)) (by rw [swapsWithSole]; exact ncomp_sw h2) ?_ rfl)
      rcases h3 with h3 | h3
      · exact sw_none h3
      · split at h3
        · exact sw_noneF c (by simpa using h3)
        · cases h3
    · cases hk
  | par is fl es =>
    simp only at hk
    split at hk
    · rename_i ts k q vs k2 q2 p
      simp only [Bool.and_eq_true, Bool.or_eq_true, decide_eq_true_eq, Bool.not_eq_true'] at hk
      obtain ⟨⟨⟨⟨⟨⟨h1, h2⟩, h3⟩, h4⟩, h5⟩, h6⟩, h7⟩ := hk
      split at h3
      rotate_left
      · cases h3
      rename_i x px ts
      obtain ⟨x', p', i, r, e1, e2, hi, lx, ll, hni, g1⟩ := par_of c h3
      clear h3
      cases e1; subst e2
      have hS := sac_of c.toCE h7
      match ts, r, h1, h2, g1, hni, hS with
      | [], r, h1, h2, g1, hni, hS =>
        have := par_of c g1; simp only at this; subst this
        simp at h1
      | t2 :: ts, r, h1, h2, g1, hni, hS =>
        obtain ⟨y, py, j, r2, e1, e2, hj, ly, ll2, hnj, g2⟩ := par_of c g1
        clear g1
        subst e1 e2
        have hij : i ≠ j := fun e => hni (by simp [e])
        match ts, r2, h1, h2, g2, hni, hnj, hS with
        | [], r2, h1, h2, g2, hni, hnj, hS =>
          have := par_of c g2; simp only at this; subst this
          match vs, h2, h4, h5, h6, hS with
          | [a, b], h2, h4, h5, h6, hS =>
            exact ss_par2 (ps_par c.calm c.nd hi hj hij lx ly hS (sw_stores2 c lx ly ll2 (ne_slots c hi hj hij) h4 h5 h6) rfl) fun _ _ _ q => q
          | [], h2, _, _, _, _ => simp at h2
          | [_], h2, _, _, _, _ => simp at h2
          | _ :: _ :: _ :: _, h2, _, _, _, _ => simp at h2
        | t3 :: ts, r2, h1, h2, g2, hni, hnj, hS =>
          obtain ⟨z, pz, l, r3, e1, e2, hl, lz, ll3, hnl, g3⟩ := par_of c g2
          clear g2
          subst e1 e2
          have hil : i ≠ l := fun e => hni (by simp [e])
          have hjl : j ≠ l := fun e => hnj (by simp [e])
          match ts, r3, h1, h2, g3, hS with
          | [], r3, h1, h2, g3, hS =>
            have := par_of c g3; simp only at this; subst this
            match vs, h2, h4, h5, h6, hS with
            | [a, b, e], h2, h4, h5, h6, hS =>
              exact ss_par3 (ps_par3 c.calm c.nd hi hj hl hij hil hjl lx ly lz hS (sw_stores3 c lx ly lz ll2 ll3 (ne_slots c hi hj hij) (ne_slots c hi hl hil) (ne_slots c hj hl hjl) h4 h5 h6) rfl) fun _ _ _ q => q
            | [], h2, _, _, _, _ => simp at h2
            | [_], h2, _, _, _, _ => simp at h2
            | [_, _], h2, _, _, _, _ => simp at h2
            | _ :: _ :: _ :: _ :: _, h2, _, _, _, _ => simp at h2
          | t4 :: ts, r3, h1, h2, g3, hS =>
            obtain ⟨_, _, _, _, _, e2, _⟩ := par_of c g3
            subst e2
            simp at h1
    · cases hk
  | aug i o e => simp at hk
  | seti a i e =>
    simp only at hk
    split at hk
    · simp only [Bool.and_eq_true] at hk
      obtain ⟨⟨⟨⟨h1, h2⟩, h3⟩, h4⟩, h5⟩ := hk
      refine ss_seti (ps_asg (E.e c.toCE h3) (pg_sub (E.e c.toCE h4) (E.e c.toCE h5) set_list ?_) (by rw [swapsWithSole]; exact ncomp_sw h1) ?_ rfl)
      · intro v
        rw [assign]
        rename_i x y _ _ _
        clear h5
        cases y <;> first | rfl | (simp [nslice] at h2)
      · rename_i v _
        cases v <;> rfl
    · cases hk
  | expr e =>
    simp only at hk
    split at hk
    · simp only [Bool.and_eq_true] at hk
      exact ss_expr (ncomp_sw hk.1) (E.e c.toCE hk.2)
    · cases hk
  | retC e =>
    simp only at hk
    split at hk
    · exact ss_retC (E.l c.toCE hk)
    · cases hk
  | ret e =>
    simp only at hk
    split at hk
    · exact ss_ret (E.e c.toCE hk)
    · cases hk
  | ife x a b =>
    simp only at hk
    split at hk
    · simp only [Bool.and_eq_true] at hk
      exact ss_if (E.t c.toCE hk.1.1) (h.b c hk.1.2) (h.b c hk.2)
    · cases hk
  | whl x b =>
    simp only at hk
    split at hk
    · simp only [Bool.and_eq_true] at hk
      exact ss_while c.pass (E.t c.toCE hk.1) (h.b c hk.2)
    · cases hk
  | fr s t b =>
    simp only at hk
    split at hk
    · simp only [Bool.and_eq_true] at hk
      obtain ⟨⟨⟨h1, h2⟩, h3⟩, h4⟩ := hk
      exact ss_for c.pass c.calm (E.i c.toCE h2) (okG_of c.toCE (stB_def c) h3) (h.b c h4) (nset_of h1)
    · cases hk
  | pass =>
    simp only at hk
    split at hk
    · exact ss_pass
    · unfold docB at hk
      split at hk
      · exact ss_doc
      · cases hk
    · cases hk
  | brk =>
    simp only at hk
    split at hk
    · exact ss_break
    · cases hk
  | cont =>
    simp only at hk
    split at hk
    · exact ss_continue
    · cases hk
  | raise k x =>
    cases x with
    | none =>
      simp only at hk
      split at hk
      · simp only [Bool.and_eq_true] at hk
        exact ss_raise c.calm c.tk (err_of c hk.1.1 hk.1.2 hk.2)
      · cases hk
    | some e => simp at hk
  | «try» b hs => simp at hk
theorem sns : ∀ n, Sns J A T d n
  | 0 => by constructor <;> intros <;> rename_i hk <;> first | (simp [okS] at hk; done) | (simp [okSs] at hk; done)
  | n + 1 => ⟨fun c _ _ => sns_s (sns n) c, fun c _ _ => sns_b (sns n) c⟩
end
end ML

set_option maxHeartbeats 4000000
/-! How arguments by keyword bind. -/
namespace ML
open PySem PySem.Spec PyProof.Rows L2
theorem forIn_kw {f : Str × Value → List (Str × Value) × List (Str × Value) → Sem (ForInStep (List (Str × Value) × List (Str × Value)))} {nms : List Str}
    (hf : ∀ x S, x.1 ∈ nms → S.lookup x.1 = none → f x (S, []) = pure (.yield (S ++ [x], []))) :
    ∀ (l : List (Str × Value)) (S : List (Str × Value)), (∀ x ∈ l, x.1 ∈ nms) → (∀ x ∈ l, S.lookup x.1 = none) → (l.map (·.1)).Nodup → forIn l (S, ([] : List (Str × Value))) f = (pure (S ++ l, []) : Sem _)
  | [], S, _, _, _ => by rw [List.forIn_nil, List.append_nil]
  | x :: l, S, h1, h2, h3 => by
    simp only [List.map_cons, List.nodup_cons] at h3
    rw [List.forIn_cons, hf x S (h1 x (by simp)) (h2 x (by simp)), pure_bind]
    simp only
    rw [forIn_kw hf l (S ++ [x]) (fun y hy => h1 y (by simp [hy])) (fun y hy => ?_) h3.2]
    · rw [List.append_assoc]; rfl
    · have hne : y.1 ≠ x.1 := fun e => h3.1 (by rw [← e]; exact List.mem_map_of_mem hy)
      rw [List.lookup_append, h2 y (by simp [hy])]
      simp [List.lookup_cons, hne]
theorem fm_zip {ps : List Str} {zs : List Value} {g : Str → Option Value} (hl : ps.length = zs.length) (h : ∀ (i : Nat) (x : Str), ps[i]? = some x → g x = zs[i]?) : (ps.filterMap fun n => (g n).map (n, ·)) = ps.zip zs := by
  induction ps generalizing zs with
  | nil => rfl
  | cons p ps ih =>
    cases zs with
    | nil => simp at hl
    | cons z zs =>
      have h0 := h 0 p rfl
      simp only [List.getElem?_cons_zero] at h0
      rw [List.filterMap_cons, h0]
      simp only [Option.map_some, List.zip_cons_cons]
      rw [ih (by simpa using hl) fun i x hx => by simpa using h (i + 1) x (by simpa using hx)]
theorem bind_kw {fd : FuncData} {us : List Value} {kw : List (Str × Value)} {ps : List Str} {zs : List Value} (hp : fd.params.posonlyargs = []) (hk : fd.params.kwonlyargs = []) (hv : fd.params.vararg = none) (hkw : fd.params.kwarg = none) (hd : fd.defaults = .none)
    (hn : fd.params.args.map (·.arg) = ps) (hu : us.length ≤ ps.length) (h1 : ∀ x ∈ kw, x.1 ∈ ps) (h2 : ∀ x ∈ kw, (ps.zip us).lookup x.1 = none) (h3 : (kw.map (·.1)).Nodup) (hl : ps.length = zs.length)
    (h : ∀ (i : Nat) (x : Str), ps[i]? = some x → (ps.zip us ++ kw).lookup x = zs[i]?) : bindArgs fd ⟨us, kw⟩ = pure (ps.zip zs) := by
  unfold bindArgs
  simp only [hp, hk, hv, hkw, hd, hn, List.map_nil, List.nil_append, List.append_nil]
  rw [forIn_kw (nms := ps) (fun x S hx hS => ?_) kw (ps.zip us) h1 h2 h3]
  · rw [pure_bind]
    have hs : seqItems? Value.none = pure none := rfl
    rw [hs, pure_bind]
    have hgt : (decide (us.length > ps.length) && Option.isNone (none : Option Arg)) = false := by
      have : ¬ us.length > ps.length := by omega
      simp [this]
    simp only [hgt]
    have hm : ∀ n, (List.filter (fun n => (List.lookup n (ps.zip us ++ kw)).isNone) (ps.take n)) = [] := by
      intro n
      rw [List.filter_eq_nil_iff]
      intro x hx
      obtain ⟨i, hi, rfl⟩ := List.getElem_of_mem (List.mem_of_mem_take hx)
      rw [h i _ (List.getElem?_eq_getElem hi), List.getElem?_eq_getElem (by omega)]
      simp
    simp only [hm, Option.getD_none, List.length_nil]
    simp only [Bool.false_eq_true, if_false, List.isEmpty_nil, Bool.not_true]
    have hz : ∀ l : List Str, l.zip ([] : List Value) = [] := fun l => List.zip_nil_right
    simp only [List.drop_nil, hz, List.forIn_nil, pure_bind, Bool.false_eq_true, if_false, List.isEmpty_nil, Bool.not_true]
    rw [fm_zip hl h]
  · have hc : (ps.contains x.1 || ([] : List Str).contains x.1) = true := by simp [hx]
    simp only [hc, if_true]
    rw [hS]
    simp
end ML

set_option maxHeartbeats 4000000
/-! How arguments by keyword bind: as kwOk says. -/
namespace ML
open PySem PySem.Spec PyProof.Rows L2
theorem lookup_zip_at {α : Type} : ∀ {ps : List Str} {us : List α} {j : Nat} {x : Str}, ps.Nodup → ps[j]? = some x → (ps.zip us).lookup x = us[j]?
  | [], _, _, _, _, h => by simp at h
  | p :: ps, [], j, x, _, _ => by simp
  | p :: ps, u :: us, 0, x, nd, h => by
    simp only [List.getElem?_cons_zero, Option.some.injEq] at h
    subst h
    simp [List.lookup_cons]
  | p :: ps, u :: us, j + 1, x, nd, h => by
    simp only [List.getElem?_cons_succ] at h
    rw [List.nodup_cons] at nd
    have hne : (x == p) = false := by
      rw [beq_eq_false_iff_ne]
      rintro rfl
      exact nd.1 (List.mem_of_getElem? h)
    rw [List.zip_cons_cons, List.lookup_cons, hne]
    simpa using lookup_zip_at nd.2 h
theorem lookup_zip_no {α : Type} : ∀ {ps : List Str} {us : List α} {x : Str}, x ∉ ps.take us.length → (ps.zip us).lookup x = none
  | [], _, _, _ => by simp
  | p :: ps, [], x, _ => by simp
  | p :: ps, u :: us, x, h => by
    simp only [List.length_cons, List.take_succ_cons, List.mem_cons, not_or] at h
    have hne : (x == p) = false := by rw [beq_eq_false_iff_ne]; exact h.1
    rw [List.zip_cons_cons, List.lookup_cons, hne]
    simpa using lookup_zip_no h.2
theorem kb_of {K : PySem.W.Frag} {fd : FuncData} {ps : List Str} (hp : fd.params.posonlyargs = []) (hk : fd.params.kwonlyargs = []) (hv : fd.params.vararg = none) (hkw : fd.params.kwarg = none) (hd : fd.defaults = .none)
    (hn : fd.params.args.map (·.arg) = ps) {n : Nat} {ks : List Str} {pm : List Nat} (ok : kwOk n ks pm ps = true) : KBinds K fd ps ks (kwg .none n ks.length pm) (kwg .non n ks.length pm) := by
  unfold kwOk at ok
  simp only [Bool.and_eq_true, decide_eq_true_eq, List.all_eq_true, Bool.not_eq_true', decide_eq_false_iff_not, List.mem_range] at ok
  obtain ⟨⟨⟨⟨⟨o1, o2⟩, o3⟩, o4⟩, o6⟩, o7⟩ := ok
  refine ⟨fun s us ws hK hlen => ?_, fun {vs us zs ws} r1 r2 => ?_⟩
  · unfold kwg at hlen ⊢
    split at hlen
    · rename_i hc
      obtain ⟨c1, c2⟩ := hc
      rw [if_pos ⟨c1, c2⟩]
      refine .of_eq (bind_kw hp hk hv hkw hd hn (by omega) (fun x hx => ?_) (fun x hx => ?_) ?_ hlen.symm fun j x hj => ?_)
      · exact (o6 x.1 (List.of_mem_zip hx).1).1
      · refine lookup_zip_no ?_
        rw [c1]
        exact (o6 x.1 (List.of_mem_zip hx).1).2
      · have : (ks.zip ws).map (·.1) = ks := by
          rw [List.map_fst_zip]
          omega
        rw [this]; exact o3
      · have hjl : j < ps.length := (List.getElem?_eq_some_iff.mp hj).1
        have h7 := o7 j hjl
        have hpj : pm[j]? = some pm[j] := List.getElem?_eq_getElem (by omega)
        rw [hj, hpj] at h7
        simp only [Bool.or_eq_true, Bool.and_eq_true, decide_eq_true_eq, beq_iff_eq] at h7
        rw [List.getElem?_map, hpj, Option.map_some, List.lookup_append]
        rcases h7 with ⟨q1, q2⟩ | ⟨q1, q2⟩
        · rw [q2] at q1
          rw [lookup_zip_at o4 hj, q2]
          have : us[j]? = some us[j] := List.getElem?_eq_getElem (by omega)
          rw [this]
          simp only [Option.some_or]
          rw [List.getD_eq_getElem?_getD, List.getElem?_append_left (by omega), this]
          rfl
        · have hki : pm[j] - n < ks.length := (List.getElem?_eq_some_iff.mp q2).1
          have hno : (ps.zip us).lookup x = none := lookup_zip_no (by rw [c1]; exact (o6 x (List.mem_of_getElem? q2)).2)
          rw [hno, lookup_zip_at o3 q2]
          have : ws[pm[j] - n]? = some ws[pm[j] - n] := List.getElem?_eq_getElem (by omega)
          rw [this]
          simp only [Option.none_or]
          rw [List.getD_eq_getElem?_getD, List.getElem?_append_right (by omega), c1, this]
          rfl
    · exact absurd hlen (by simp; omega)
  · unfold kwg
    have l1 := r1.length
    have l2 := r2.length
    by_cases hc : vs.length = n ∧ zs.length = ks.length
    · rw [if_pos hc, if_pos ⟨by omega, by omega⟩]
      have r3 : Vals (vs ++ zs) (us ++ ws) := r1.append r2
      clear o1 o2 o3 o4 o6 o7
      induction pm with
      | nil => exact .nil
      | cons i pm ih =>
        refine .cons ?_ ih
        cases hv' : (vs ++ zs)[i]? with
        | none =>
          have hu' : (us ++ ws)[i]? = none := by
            rw [List.getElem?_eq_none_iff] at hv' ⊢
            rw [← r3.length]; exact hv'
          dsimp only; rw [List.getD_eq_getElem?_getD, List.getD_eq_getElem?_getD, hv', hu']
          rfl
        | some v =>
          obtain ⟨u, hu', r⟩ := r3.get hv'
          dsimp only; rw [List.getD_eq_getElem?_getD, List.getD_eq_getElem?_getD, hv', hu']
          exact r
    · rw [if_neg hc, if_neg (by omega)]
      generalize pm.length + 1 = k
      induction k with
      | zero => exact .nil
      | succ k ih => rw [List.replicate_succ, List.replicate_succ]; exact .cons (by rfl) ih
end ML

set_option maxHeartbeats 4000000
/-! A def's frame; all defs keep what the evaluator says. -/
namespace ML
open PySem PySem.Spec PyProof.Rows L2
section
variable {K : PySem.W.Frag} {A : Ad} {T : Tab} {d : Nat} {κ κ' : List Addr} {G G' H H' : Hp} {C C' : Cells} {Q : VK} {W : WX} {σ : L2.St}
theorem Ext.back (x : Ext κ G H κ' G' H') : Ext κ G H κ G' H' := ⟨Pre.refl _, x.same, fun a u e k => ⟨(x.fr a u e k).1, k, (x.fr a u e k).2.2⟩⟩
theorem own_not {i : Nat} {a : Addr} (hp : Pre κ κ') (nd : κ'.Nodup) (h : κ'[i]? = some a) (hi : κ.length ≤ i) : a ∉ κ := fun hm => by
  obtain ⟨j, hj, e⟩ := List.getElem_of_mem hm
  have h1 := hp j a (by rw [List.getElem?_eq_getElem hj, e])
  obtain ⟨hi1, e1⟩ := List.getElem?_eq_some_iff.mp h
  obtain ⟨hj1, e2⟩ := List.getElem?_eq_some_iff.mp h1
  have : j < i := by omega
  exact List.pairwise_iff_getElem.mp nd j i hj1 hi1 this (e2.trans e1.symm)
theorem fin_ret {rc : Bool} {n : Nat} {z : D} {v : V} (hn : κ.length = n) (x : Ext κ G H κ' G' H') (s' : SR K A κ' G' H' C') (r : Rep K A κ' G' v z)
    (f : Fin K A W κ G H σ (fin rc n z C') (fun κ' G' _ z H' => ∀ v, Rep K A κ' G' v z → Q v H')) : Q v H' := by
  have st : SR K A κ G' H' (C'.take n) := s'.take x.pre n hn
  have plain : ∀ {z : D}, z.noc = true → Rep K A κ' G' v z → (Fin K A W κ G H σ (if z.noc then R.ok z (C'.take n) else R.stuck) (fun κ' G' _ z H' => ∀ v, Rep K A κ' G' v z → Q v H')) → Q v H' := fun {z} hz r f => by
    rw [if_pos hz] at f
    exact f κ G' H' x.back st v (r.noc hz)
  have plain' : ∀ {z : D}, Rep K A κ' G' v z → (Fin K A W κ G H σ (if z.noc then R.ok z (C'.take n) else R.stuck) (fun κ' G' _ z H' => ∀ v, Rep K A κ' G' v z → Q v H')) → Q v H' := fun {z} r f => by
    by_cases hz : z.noc = true
    · exact plain hz r f
    · rw [if_neg hz] at f; exact f.elim
  cases z with
  | cell i =>
    cases r with
    | @cell _ a hi =>
      unfold fin at f
      simp only at f
      split at f
      · rename_i hlt
        refine f κ G' H' x.back st (.ref a) (.cell ?_)
        have := x.pre.take hn
        rw [← this, List.getElem?_take_of_lt hlt]; exact hi
      · rename_i hge
        have hge' : κ.length ≤ i := by omega
        split at f
        · rename_i xs hxs
          obtain ⟨ga, nc, vs, hv, rl⟩ := s'.cell i a xs hi hxs
          have hnot := own_not x.pre s'.nd hi hge'
          have hmem : a ∈ κ' := List.mem_of_getElem? hi
          have rl' : RepL K A κ G' vs xs := rl.noc nc
          have hne : ∀ (b : Addr) (o : HO), H b = some o → b ∉ κ → b ≠ a := fun b o e k h => (x.fr b o e k).2.1 (h ▸ hmem)
          split at f
          · refine f (κ ++ [a]) G' H' ⟨Pre.app _ _, x.same, fun b u e k => ⟨(x.fr b u e k).1, fun hm => ?_, (x.fr b u e k).2.2⟩⟩ (st.seeC hv ga hnot nc rl') (.ref a) (.cell ?_)
            · rcases List.mem_append.mp hm with h | h
              · exact k h
              · exact hne b u e k (by simpa using h)
            · rw [List.getElem?_append_right (by omega)]
              simp [hn]
          · exact f κ (upd G' a (.lst vs)) H' ⟨Pre.refl _, x.same.trans (same_upd ga), fun b u e k => ⟨(x.fr b u e k).1, k, fun z => by rw [upd_ne (hne b u e k)]; exact (x.fr b u e k).2.2 z⟩⟩ (st.see hv ga hnot) (.ref a) (.lst (.inl upd_same) (rl'.mono (Pre.refl _) (same_upd ga)))
        · exact f.elim
  | non => exact plain' r f
  | bl b => exact plain' r f
  | int b => exact plain' r f
  | str b => exact plain' r f
  | tup b => exact plain' r f
  | lst b => exact plain' r f
  | fn b => exact plain' r f
  | exc b => exact plain' r f
end
end ML

set_option maxHeartbeats 4000000
/-! All defs keep what the evaluator says. -/
namespace ML
open PySem PySem.Spec PyProof.Rows L2
/-- a def of the text: its name, where it stands, its slots' names, its parameters, what it is in the small language -/
structure DefI where
  x : Str
  st : Stmt
  N : List Str
  ps : List Str
  F : Fn
def argsOk (st : Stmt) (ps : List Str) : Bool :=
  (defArgs st).posonlyargs.isEmpty && (defArgs st).kwonlyargs.isEmpty && (defArgs st).vararg.isNone && (defArgs st).kwarg.isNone && decide ((defArgs st).args.map (·.arg) = ps)
def nfree : NameKind → Bool
  | .free => false
  | _ => true
def okDef (nm : List (Str × Nk)) (pss : List (List Str)) (fuel : Nat) (D : DefI) : Bool :=
  decide ((defScope D.st).kind = .function) && !(defScope D.st).isCoroutine && !(defScope D.st).isGenerator && decide D.N.Nodup && decide (D.N.take D.ps.length = D.ps) && D.ps.all (locB (defScope D.st)) && (defScope D.st).names.all (fun y => nfree y.2) &&
  decide (D.F.np = D.ps.length) && decide (D.F.nv = D.N.length) && argsOk D.st D.ps && okSs ⟨D.N, nm, pss⟩ fuel (defScope D.st) (defBody D.st) D.F.body
section
variable {P : Program} {w : World} {K : PySem.W.Frag} {mg : Str → Option Value} {base : Heap} {A : Ad} {T : Tab}
/-- what is known of the defs before any runs -/
structure Stat (K : PySem.W.Frag) (mg : Str → Option Value) (A : Ad) (T : Tab) (nm : List (Str × Nk)) (pss : List (List Str)) (fuel : Nat) (ds : List DefI) : Prop where
  fn : ∀ f F, T.fn f = some F → ∃ D, ds[f]? = some D ∧ D.F = F
  fa : ∀ f a, A.fa f = some a → ∃ F, T.fn f = some F
  tx : ∀ f D, ds[f]? = some D → ∃ a fd, A.fa f = some a ∧ L2.Fun K D.x D.x D.st a fd
  pso : ∀ f D, ds[f]? = some D → A.ps f = D.ps ∧ pss.getD f [] = D.ps
  nmo : ∀ x k, nm.lookup x = some k → NameOk K mg A T x k
  ok : ∀ D ∈ ds, okDef nm pss fuel D = true
variable {nm : List (Str × Nk)} {pss : List (List Str)} {fuel : Nat} {ds : List DefI}
theorem binds_of {x qual : Str} {st : Stmt} {f : Addr} {fd : FuncData} {ps : List Str} (F : L2.Fun K x qual st f fd) (nd : ps.Nodup) (h : argsOk st ps = true) :
    Binds K fd ps [] ∧ (∀ (n : Nat) (ks : List Str) (pm : List Nat), kwOk n ks pm ps = true → KBinds K fd ps ks (kwg .none n ks.length pm) (kwg .non n ks.length pm)) ∧ ∀ us : List Value, us.length = ps.length → bindArgs fd ⟨us, []⟩ = pure (ps.zip us) := by
  unfold argsOk at h
  simp only [Bool.and_eq_true, decide_eq_true_eq, List.isEmpty_iff, Option.isNone_iff_eq_none] at h
  obtain ⟨⟨⟨⟨h1, h2⟩, h3⟩, h4⟩, h5⟩ := h
  obtain ⟨oc, od, kV, doc, pm, an, cdv, ct, osl, rfl, lk, hcd⟩ := F.ex
  have key : ∀ us : List Value, us.length = ps.length → bindArgs (PySem.W.fnOf x qual (defArgs st) (defBody st) (defScope st) .none kV doc pm an cdv ct) ⟨us, []⟩ = pure (ps.zip us) := ?_
  · exact ⟨.all key, fun n ks pm ok => kb_of h1 h2 h3 h4 rfl h5 ok, key⟩
  intro us hl
  refine bind_kw (kw := []) h1 h2 h3 h4 rfl h5 (by omega) (by simp) (by simp) (by simp) hl.symm fun i x hi => ?_
  rw [List.append_nil]
  exact lookup_zip_at nd hi
theorem start_er {N ps : List Str} {vs : List V} {xs : List D} {κ : List Addr} {G : Hp} (r : RepL K A κ G vs xs) {np nv : Nat} (hx : xs.length = np) (hv : nv = N.length) : ER K A κ G (L2.start N vs) (xs.map some ++ List.replicate (nv - np) none) := by
  have hl := r.length
  refine ⟨by simp [L2.start, hl, hx, hv], fun i z hz => ?_⟩
  by_cases hi : i < xs.length
  · rw [List.getElem?_append_left (by simpa using hi)] at hz
    rw [List.getElem?_map] at hz
    have e1 : xs[i]? = some z := by
      cases e : xs[i]? with
      | none => rw [e] at hz; cases hz
      | some y => rw [e] at hz; simp only [Option.map_some, Option.some.injEq] at hz; rw [hz]
    obtain ⟨v, hv1, rv⟩ := r.get e1
    refine ⟨v, ?_, rv⟩
    unfold L2.start
    rw [List.getElem?_append_left (by simp; omega), List.getElem?_map, hv1]
    rfl
  · rw [List.getElem?_append_right (by simp; omega)] at hz
    rw [List.getElem?_replicate] at hz
    split at hz <;> cases hz
def FnQ (P : Program) (w : World) (K : PySem.W.Frag) (mg : Str → Option Value) (base : Heap) (A : Ad) (T : Tab) (d f : Nat) (D : DefI) (a : Addr) (fd : FuncData) : Prop :=
  PySem.W.keepIn K (.ref a) = true ∧ Binds K fd D.ps [] ∧ D.ps.length = D.F.np ∧ FnOk P w K mg base (L2.CX P w) d a fd D.ps (spF K A T d f) ∧
    (∀ (n : Nat) (ks : List Str) (pm : List Nat), kwOk n ks pm D.ps = true → KBinds K fd D.ps ks (kwg .none n ks.length pm) (kwg .non n ks.length pm)) ∧
    ∀ us : List Value, us.length = D.ps.length → bindArgs fd ⟨us, []⟩ = pure (D.ps.zip us)
theorem fns_of (S : Stat K mg A T nm pss fuel ds) {d : Nat} (h : ∀ f D a fd, ds[f]? = some D → T.fn f = some D.F → A.fa f = some a → L2.Fun K D.x D.x D.st a fd → FnQ P w K mg base A T d f D a fd) : Fns P w K mg base A T d := by
  refine ⟨fun f F hF => ?_, S.fa⟩
  obtain ⟨D, hD, rfl⟩ := S.fn f F hF
  obtain ⟨a, fd, ha, FF⟩ := S.tx f D hD
  rw [(S.pso f D hD).1]
  exact ⟨a, fd, ha, h f D a fd hD hF ha FF⟩
theorem fn_at (S : Stat K mg A T nm pss fuel ds) (d : Nat) : ∀ f D a fd, ds[f]? = some D → T.fn f = some D.F → A.fa f = some a → L2.Fun K D.x D.x D.st a fd → FnQ P w K mg base A T d f D a fd := by
  induction d with
  | zero =>
    intro f D a fd hD hF ha FF
    have hok := S.ok D (List.mem_of_getElem? hD)
    unfold okDef at hok
    simp only [Bool.and_eq_true, decide_eq_true_eq] at hok
    obtain ⟨⟨⟨⟨⟨⟨⟨⟨⟨⟨o1, o2⟩, o3⟩, o4⟩, o5⟩, o6⟩, o7⟩, o8⟩, o9⟩, o10⟩, o11⟩ := hok
    have ndp : D.ps.Nodup := by
      rw [← o5]; exact o4.sublist (List.take_sublist _ _)
    obtain ⟨b1, b2⟩ := binds_of FF ndp o10
    refine ⟨FF.kp, b1, o8.symm, ⟨fun vs H Q E h => ?_, fun _ _ _ _ _ _ _ _ _ _ _ _ _ h => ?_⟩, b2.1, b2.2⟩
    · obtain ⟨κ, G, C, ds, s, r, f⟩ := h
      simp only [callF] at f; exact f.elim
    · obtain ⟨κ, G, C, ds, s, r, f⟩ := h
      simp only [callF] at f; exact f.elim
  | succ d ih =>
    intro f D a fd hD hF ha FF
    have hok := S.ok D (List.mem_of_getElem? hD)
    unfold okDef at hok
    simp only [Bool.and_eq_true, decide_eq_true_eq, Bool.not_eq_true', List.all_eq_true] at hok
    obtain ⟨⟨⟨⟨⟨⟨⟨⟨⟨⟨o1, o2⟩, o3⟩, o4⟩, o5⟩, o6⟩, o7⟩, o8⟩, o9⟩, o10⟩, o11⟩ := hok
    have ndp : D.ps.Nodup := by
      rw [← o5]; exact o4.sublist (List.take_sublist _ _)
    obtain ⟨b1, b2⟩ := binds_of FF ndp o10
    have hpar : ∀ x ∈ D.ps, (defScope D.st).names.lookup x = some .local ∨ (defScope D.st).names.lookup x = some .cell := fun x hx => by
      have := o6 x hx
      unfold locB at this
      split at this
      · rename_i h; exact .inl h
      · rename_i h; exact .inr h
      · cases this
    have hfr : ∀ y ∈ (defScope D.st).names, y.2 ≠ .free := fun y hy e => by
      have := o7 y hy
      rw [e] at this; simp [nfree] at this
    have sc : FnScope D.N D.ps (defScope D.st) := ⟨o1, o2, o3, o4, o5, hpar, hfr⟩
    refine ⟨FF.kp, b1, o8.symm, FF.okX sc (fun vs H Q E h => ?_) (fun cdv Ar outer s H vs Q E hr h => ?_), b2.1, b2.2⟩
    · obtain ⟨κ, G, C, ds, s, r, f⟩ := h
      simp only [callF, hF] at f
      split at f
      · rename_i hl; rw [r.length, hl, o8]
      · exact f.elim
    · obtain ⟨κ, G, C, xs, sr, r, f⟩ := h
      simp only [callF, hF] at f
      split at f
      rotate_left
      · exact f.elim
      rename_i hl
      refine ⟨TSv K A (fun cls dd _ H => E cls dd H) (evSs T.glob (callF T d) D.F.body), (sns fuel).b (J := ⟨D.N, nm, pss⟩) (sc := defScope D.st) (X := cxOf (L2.CX P w) P w K mg base D.N D.x (defScope D.st) a cdv Ar outer s H E) (W := fun cls dd _ H => E cls dd H) ?_ o11, ?_⟩
      · exact { calm := rfl, nd := o4, hN := rfl, sc := rfl, room := hr, tk := takes_of rfl rfl rfl rfl, fns := fns_of S ih, nm := S.nmo, ps := fun f F hF => by
                  obtain ⟨D', hD', _⟩ := S.fn f F hF
                  rw [(S.pso f D' hD').1, (S.pso f D' hD').2],
                pass := passes_of rfl, fnt := fun _ => rfl, kind := o1 }
      · refine ⟨κ, G, C, _, sr, start_er (N := D.N) (ps := D.ps) r hl o9, ?_⟩
        have hκ : κ.length = C.length := sr.len
        cases hx : evSs T.glob (callF T d) D.F.body (xs.map some ++ List.replicate (D.F.nv - D.F.np) none) C with
        | stuck => rw [hx] at f; exact f.elim
        | exc c x ρ' C' =>
          rw [hx] at f
          simp only at f
          split at f
          · exact fun κ' G' H' σ' e x' s' e' hc hx' => f κ G' H' e x'.back (s'.take x'.pre _ hκ) hc hx'
          · exact f.elim
        | ok fl ρ' C' =>
          rw [hx] at f
          cases fl with
          | next => exact fun κ' G' H' σ' x' s' e' => fin_ret hκ x' s' .non f
          | ret z => exact fun κ' G' H' σ' x' s' e' v rv => fin_ret hκ x' s' rv f
          | brk => exact f.elim
          | cont => exact f.elim
theorem fns (S : Stat K mg A T nm pss fuel ds) (d : Nat) : Fns P w K mg base A T d := fns_of S (fn_at S d)
end
end ML

set_option maxHeartbeats 4000000
/-! The head: from what the top has written to what is known of the defs. -/
namespace ML
open PySem PySem.Spec PyProof.Rows L2
/-- a constant of the module -/
inductive Gv where | int (i : Int) | str (s : Str) | tup (ds : List He.Dv)
def dvD : He.Dv → D
  | .bl b => .bl b
  | .int i => .int i
  | .str s => .str s
  | _ => .non
def dvOk : He.Dv → Bool
  | .non => true
  | .bl _ => true
  | .int _ => true
  | .str _ => true
  | _ => false
def Gv.d : Gv → D
  | .int i => .int i
  | .str s => .str s
  | .tup ds => .tup (ds.map dvD)
def Gv.plain : Gv → Bool
  | .tup ds => ds.all dvOk
  | _ => true
structure Txt where
  ds : List DefI
  ecs : List Str
  gls : List (Str × Gv)
  fre : List Str
namespace Txt
variable (t : Txt)
def nm : List (Str × Nk) := (t.ds.zipIdx.map fun p => (p.1.x, Nk.fn p.2)) ++ (t.ecs.zipIdx.map fun p => (p.1, Nk.ec p.2)) ++ (t.gls.zipIdx.map fun p => (p.1.1, Nk.gl p.2)) ++ (t.fre.map fun x => (x, Nk.bi))
def pss : List (List Str) := t.ds.map (·.ps)
def tab : Tab := ⟨fun g => t.gls[g]?.map (·.2.d), fun f => t.ds[f]?.map (·.F)⟩
def ad (K : PySem.W.Frag) : Ad := ⟨fun f => t.ds[f]?.map (fun D => He.ga K D.x), fun c => t.ecs[c]?.map (fun x => He.ga K x), fun f => t.pss.getD f []⟩
def gfa : Str × Gv → He.Fa
  | (x, .int i) => .int x i
  | (x, .str s) => .str x s
  | (x, .tup _) => .glo x
def fa : List He.Fa := (t.ds.map fun D => .glo D.x) ++ (t.ecs.map fun x => .glo x) ++ (t.ecs.map fun x => .exc x) ++ (t.gls.map gfa) ++ (t.fre.map fun x => .free x)
def fn : List He.DefD := t.ds.map fun D => ⟨(D.x, none), D.x, D.x, defArgs D.st, defBody D.st, defScope D.st, [], []⟩
def ex (K : PySem.W.Frag) : Bool := t.gls.all fun p => match p.2 with
  | .tup ds => He.tupB K p.1 ds
  | _ => true
end Txt
theorem lookup_mem {α β : Type} [BEq α] [LawfulBEq α] : ∀ {l : List (α × β)} {x : α} {y : β}, l.lookup x = some y → (x, y) ∈ l
  | [], _, _, h => by simp at h
  | (a, b) :: l, x, y, h => by
    rw [List.lookup_cons] at h
    split at h
    · rename_i e
      have := eq_of_beq e
      subst this
      cases h; simp
    · exact List.mem_cons_of_mem _ (lookup_mem h)
theorem repL_dv {K : PySem.W.Frag} {A : Ad} {κ : List Addr} {G : Hp} : ∀ {ds : List He.Dv}, ds.all dvOk = true → RepL K A κ G (ds.map (He.Dv.v K)) (ds.map dvD)
  | [], _ => .nil
  | z :: ds, h => by
    simp only [List.all_cons, Bool.and_eq_true] at h
    refine .cons ?_ (repL_dv h.2)
    have := h.1
    cases z <;> simp only [dvOk, Bool.false_eq_true] at this
    · exact .non
    · exact .bl _
    · exact .int _
    · exact .str _
theorem stat_of {t : Txt} {K : PySem.W.Frag} {mg : Str → Option Value} {h : Heap} {fuel : Nat} (X : K.In h) (G : h.Ns mainGlobals mg) (c : He.SaysD t.fa t.fn K) (he : t.ex K = true) (hp : t.gls.all (fun p => p.2.plain) = true)
    (ok : (t.ds.all fun D => okDef t.nm t.pss fuel D) = true) : Stat K mg (t.ad K) t.tab t.nm t.pss fuel t.ds := by
  have fact : ∀ f ∈ t.fa, f.ok K = true := fun f hf => c.facts hf
  refine ⟨fun f F hF => ?_, fun f a hf => ?_, fun f D hD => ?_, fun f D hD => ?_, fun x k hk => ?_, fun D hD => List.all_eq_true.mp ok D hD⟩
  · simp only [Txt.tab, Option.map_eq_some_iff] at hF
    exact hF
  · simp only [Txt.ad, Option.map_eq_some_iff] at hf
    obtain ⟨D, hD, _⟩ := hf
    exact ⟨D.F, by simp [Txt.tab, hD]⟩
  · have hm : (⟨(D.x, none), D.x, D.x, defArgs D.st, defBody D.st, defScope D.st, [], []⟩ : He.DefD) ∈ t.fn := List.mem_map.mpr ⟨D, List.mem_of_getElem? hD, rfl⟩
    obtain ⟨fd, F⟩ := c.defs hm
    exact ⟨_, fd, by simp [Txt.ad, hD]; rfl, He5.fun_of F⟩
  · refine ⟨?_, ?_⟩ <;> simp [Txt.ad, Txt.pss, List.getD_eq_getElem?_getD, hD]
  · have hm := lookup_mem hk
    unfold Txt.nm at hm
    simp only [List.mem_append, List.mem_map] at hm
    rcases hm with ((⟨p, hp', e⟩ | ⟨p, hp', e⟩) | ⟨p, hp', e⟩) | ⟨zz, hz, e⟩
    · obtain ⟨D, i⟩ := p
      cases e
      have hi := List.mk_mem_zipIdx_iff_getElem?.mp hp'
      have hf := fact (.glo D.x) (by unfold Txt.fa; simp only [List.mem_append, List.mem_map]; exact .inl (.inl (.inl (.inl ⟨D, List.mem_of_getElem? hi, rfl⟩))))
      exact ⟨D.F, _, by simp [Txt.tab, hi], by simp [Txt.ad, hi], He.glo_ok X G hf⟩
    · obtain ⟨z, i⟩ := p
      cases e
      have hi := List.mk_mem_zipIdx_iff_getElem?.mp hp'
      have hf := fact (.glo z) (by unfold Txt.fa; simp only [List.mem_append, List.mem_map]; exact .inl (.inl (.inl (.inr ⟨z, List.mem_of_getElem? hi, rfl⟩))))
      have hx := fact (.exc z) (by unfold Txt.fa; simp only [List.mem_append, List.mem_map]; exact .inl (.inl (.inr ⟨z, List.mem_of_getElem? hi, rfl⟩)))
      obtain ⟨e1, e2, e3, e4⟩ := He.exc_ok hx
      exact ⟨He.ga K z, "ValueError.__new__", _, He.veBase, _, by simp [Txt.ad, hi], PySem.F.excBase_ValueError, e1, He.glo_ok X G hf, e2, e3, e4⟩
    · obtain ⟨⟨z, g⟩, i⟩ := p
      cases e
      have hi := List.mk_mem_zipIdx_iff_getElem?.mp hp'
      have hmem := List.mem_of_getElem? hi
      have hf := fact (Txt.gfa (z, g)) (by unfold Txt.fa; simp only [List.mem_append, List.mem_map]; exact .inl (.inr ⟨(z, g), hmem, rfl⟩))
      have hT : t.tab.glob i = some g.d := by simp [Txt.tab, hi]
      cases g with
      | int j =>
        obtain ⟨u, hu⟩ := He.int_ok X G hf
        exact ⟨.int j, _, ⟨_, hu, ⟨u, rfl⟩⟩, hT, fun _ _ => .int j⟩
      | str s =>
        obtain ⟨u, hu⟩ := He.str_ok X G hf
        exact ⟨.str s, _, ⟨_, hu, ⟨u, rfl⟩⟩, hT, fun _ _ => .str s⟩
      | tup dvs =>
        have h1 : He.tupB K z dvs = true := List.all_eq_true.mp he (z, .tup dvs) hmem
        have h2 : dvs.all dvOk = true := List.all_eq_true.mp hp (z, .tup dvs) hmem
        exact ⟨.ref (He.ga K z), _, ⟨_, He.glo_ok X G hf, rfl⟩, hT, fun κ G' => .tup (He.tupB_ok h1 G') (repL_dv h2)⟩
    · cases e
      exact He.free_ok X G (fact (.free x) (by unfold Txt.fa; simp only [List.mem_append, List.mem_map]; exact .inr ⟨x, hz, rfl⟩))
end ML

set_option maxHeartbeats 4000000
/-! The law's end. -/
namespace ML
open PySem PySem.Spec PyProof.Rows L2
theorem repL_ints {K : PySem.W.Frag} {A : Ad} {κ : List Addr} {G : Hp} : ∀ (ns : List Int), RepL K A κ G (ns.map V.int) (ns.map fun n => .int n)
  | [] => .nil
  | n :: ns => .cons (.int n) (repL_ints ns)
def noLst (K : PySem.W.Frag) : Bool := K.all fun p => match p.2.cls with
  | .type n => !(n == "list")
  | _ => true
theorem noLst_ok {K : PySem.W.Frag} (h : noLst K = true) {a : Addr} {o : Obj} (e : K.lookup a = some o) : o.cls ≠ .type "list" := fun hc => by
  have := List.all_eq_true.mp h _ (lookup_mem e)
  simp only [hc] at this
  exact absurd this (by decide)
def Txt.ex2 (t : Txt) (K : PySem.W.Frag) : Bool := t.ex K && noLst K
abbrev scr (ns : List Int) : D := .lst (ns.map fun n => .int n)
theorem law_end {t : Txt} {P : Program} {w : World} {K : PySem.W.Frag} {mg : Str → Option Value} {h : Heap} {fuel d f : Nat} {I : DefI} {fa : Addr} {x : Str} (X : K.In h) (G : h.Ns mainGlobals mg) (c : He.SaysD t.fa t.fn K) (he : t.ex2 K = true) (hp : t.gls.all (fun p => p.2.plain) = true)
    (ok : (t.ds.all fun D => okDef t.nm t.pss fuel D) = true) (hD : t.ds[f]? = some I) (hps : I.ps = [x]) (hmg : mg I.x = some (.ref fa))
    (law : ∀ ns : List Int, ns.length ≤ 63 → callF t.tab d f [scr ns] [] = .ok (.bl true) []) :
    ∃ (K : PySem.W.Frag) (fd : FuncData) (sp : Sp), K.In h ∧ (∀ (s : Shared) (u : Value), BindsTo s fd ⟨[u], []⟩ [(x, u)]) ∧
      (∀ (H : Hp) (a : Addr) (ns : List Int), ns.length ≤ 63 → Only H → SqL K H a (ns.map V.int) → sp [.ref a] H (fun v _ => v = .bl true) fun _ _ _ => False) ∧
      ∀ base : Heap, K.In base → base.Ns mainGlobals mg → FnOk P w K mg base (L2.CX P w) d fa fd [x] sp := by
  obtain ⟨he1, he2⟩ := Bool.and_eq_true_iff.mp he
  have S := stat_of (fuel := fuel) X G c he1 hp ok
  have hF : t.tab.fn f = some I.F := by simp [Txt.tab, hD]
  have hfa : (t.ad K).fa f = some (He.ga K I.x) := by simp [Txt.ad, hD]
  have hf : He.ga K I.x = fa := by
    have hm : (I.x, Nk.fn f) ∈ t.nm := by
      unfold Txt.nm
      simp only [List.mem_append, List.mem_map]
      exact .inl (.inl (.inl ⟨(I, f), List.mk_mem_zipIdx_iff_getElem?.mpr hD, rfl⟩))
    have hg := c.facts (f := .glo I.x) (by unfold Txt.fa; simp only [List.mem_append, List.mem_map]; exact .inl (.inl (.inl (.inl ⟨I, List.mem_of_getElem? hD, rfl⟩))))
    have := He.glo_ok X G hg
    rw [hmg] at this
    cases this; rfl
  obtain ⟨a1, fd1, e1, FF⟩ := S.tx f I hD
  have e1' := e1
  rw [hfa] at e1'; cases e1'
  rw [hf] at e1 FF
  have key := fun base => fn_at (P := P) (w := w) (base := base) S d f I fa fd1 hD hF e1 FF
  have hok : ∀ base, FnOk P w K mg base (L2.CX P w) d fa fd1 [x] (spF K (t.ad K) t.tab d f) := fun base => hps ▸ (key base).2.2.2.1
  have hbi : ∀ us : List Value, us.length = 1 → bindArgs fd1 ⟨us, []⟩ = pure ([x].zip us) := fun us hu => by
    have := (key h).2.2.2.2.2 us (by rw [hps]; exact hu)
    rw [hps] at this; exact this
  refine ⟨K, fd1, spF K (t.ad K) t.tab d f, X, fun s u => .of_eq (hbi [u] rfl), fun H a ns hl hO hS => ?_, fun base _ _ => hok base⟩
  have hR : Rd H a (.lst (ns.map V.int)) := by
    rcases hS with h | ⟨o, its, n, hk, hc, _⟩
    · exact h
    · exact absurd hc (noLst_ok he2 hk)
  refine ⟨[], H, [], [scr ns], ⟨Same.refl _, rfl, fun i a xs h1 h2 => by simp at h1, List.nodup_nil⟩, .cons (.lst hR (repL_ints ns)) .nil, ?_⟩
  rw [law ns hl]
  intro κ' G' H' x' s' v r
  cases r; rfl
end ML

set_option maxHeartbeats 4000000
/-! The law's end: no exception leaves it. -/
namespace ML
open PySem PySem.Spec PyProof.Rows L2
theorem fnok0 {P : Program} {w : World} {K : PySem.W.Frag} {mg : Str → Option Value} {base : Heap} {k : Nat} {f : Addr} {fd : FuncData} {ps : List Str} {sp : Sp} (F : FnOk P w K mg base (L2.CX P w) k f fd ps sp) :
    FnOk P w K mg base CX0 k f fd ps (fun vs H Q _ => sp vs H Q fun _ _ _ => False) :=
  ⟨fun vs H Q E h => F.len _ _ _ _ h, fun A outer s H args us vs Q E hr he hb hv hs => codeAny_mono (F.run A outer s H args us vs Q _ hr he hb hv hs) fun r s' h => by
    cases r with
    | ok fl => cases fl <;> exact h
    | error e =>
      obtain ⟨_, _, _, _, _, _, _, _, _, _, _, _, z⟩ := h
      exact z.elim⟩
theorem law_walk {l : PySem.W.OpenLaw} {q : Program} {loose : List Str} {XP : (Str → Option Value) → Heap → Prop} {dr : DefRec} {t : Txt} {n fuel d f : Nat} {I : DefI} {x : Str}
    (hn : l.most = some 63) (hdf : dr.params.defaults = []) (hr : Room d callerA) (hp : t.gls.all (fun p => p.2.plain) = true) (ok : (t.ds.all fun D => okDef t.nm t.pss fuel D) = true) (hD : t.ds[f]? = some I) (hps : I.ps = [x]) (hnm : dr.name = I.x)
    (law : ∀ ns : List Int, ns.length ≤ 63 → callF t.tab d f [scr ns] [] = .ok (.bl true) []) :
    PySem.W.WalkO q loose XP (He.hookX n t.fa t.fn [] [] t.ex2).says l.row.toRowW dr [] (fun f vs => PySem.call f vs) := by
  refine L2.walk_ofE (n := 63) (k := d) (x := x) (CX := CX0) hn (by decide) hdf hr (fun w mg fa h Y G hmg => ?_) (fun _ _ _ _ z => z)
  obtain ⟨K, KX, c⟩ := Y
  obtain ⟨K', fd, sp, KX', hb, hsp, hF⟩ := law_end (P := l.prog) (w := w) (fuel := fuel) (d := d) KX G c.t.d c.more hp ok hD hps (hnm ▸ hmg) law
  exact ⟨K', fd, fun vs H Q _ => sp vs H Q fun _ _ _ => False, KX', hb, hsp, fun base h1 h2 => fnok0 (hF base h1 h2)⟩
end ML

/-! the defs that several laws share; made by libgen.py -/
namespace ML
def F_is_number : Fn := ⟨1, 1, false,
 (.cons (.ret (.and (.isin (.var 0) [.int]) (.not (.isin (.var 0) [.bool]))))
 .nil)⟩
def F_is_within (f_is_number : Nat) : Fn := ⟨3, 3, false,
 (.cons (.ret (.and (.call f_is_number (.cons (.var 0) .nil)) (.chain .le .le (.var 1) (.var 0) (.var 2))))
 .nil)⟩
def F_is_long : Fn := ⟨2, 2, false,
 (.cons (.ret (.and (.isin (.var 0) [.tuple]) (.cmp .eq (.bf .len (.cons (.var 0) .nil)) (.var 1))))
 .nil)⟩
def F_are_numbers (f_is_number : Nat) : Fn := ⟨1, 2, false,
 (.cons (.ret (.and (.isin (.var 0) [.tuple]) (.bf .all (.cons (.comp [1] (.of (.var 0)) (.one 1) .none (.call f_is_number (.cons (.var 1) .nil))) .nil))))
 .nil)⟩
def F_tupled (f_tupled : Nat) : Fn := ⟨1, 2, false,
 (.cons (.ret (.ite (.isin (.var 0) [.list, .tuple]) (.bf .tuple (.cons (.comp [1] (.of (.var 0)) (.one 1) .none (.call f_tupled (.cons (.var 1) .nil))) .nil)) (.var 0)))
 .nil)⟩
def F_sure_within (f_is_within e_Unfit : Nat) : Fn := ⟨3, 3, false,
 (.cons (.ife (.not (.call f_is_within (.cons (.var 0) (.cons (.var 1) (.cons (.var 2) .nil))))) (.cons (.raise e_Unfit .none)
  .nil) .nil)
 (.cons (.ret (.var 0))
 .nil))⟩
def F_common : Fn := ⟨2, 2, false,
 (.cons (.par [0, 1] [false, false] (.cons (.bf .abs (.cons (.var 0) .nil)) (.cons (.bf .abs (.cons (.var 1) .nil)) .nil)))
 (.cons (.whl (.cmp .ne (.var 1) (.lit (.int 0))) (.cons (.par [0, 1] [false, false] (.cons (.var 1) (.cons (.bin .mod (.var 0) (.var 1)) .nil)))
  .nil))
 (.cons (.ret (.var 0))
 .nil)))⟩
def F_is_rule_in (g_MOST_RULE f_are_numbers f_is_long : Nat) : Fn := ⟨1, 2, false,
 (.cons (.ret (.and (.call f_is_long (.cons (.var 0) (.cons (.lit (.int 2)) .nil))) (.and (.call f_are_numbers (.cons (.var 0) .nil)) (.and (.bf .all (.cons (.comp [1] (.of (.var 0)) (.one 1) .none (.cmp .le (.bf .abs (.cons (.var 1) .nil)) (.glob g_MOST_RULE))) .nil)) (.cmp .ne (.idx (.var 0) (.lit (.int 1))) (.lit (.int 0)))))))
 .nil)⟩
def F_sure_rule (f_is_rule_in e_Unfit f_tupled : Nat) : Fn := ⟨1, 2, false,
 (.cons (.set 1 (.call f_tupled (.cons (.var 0) .nil)))
 (.cons (.ife (.not (.call f_is_rule_in (.cons (.var 1) .nil))) (.cons (.raise e_Unfit .none)
  .nil) .nil)
 (.cons (.ret (.var 1))
 .nil)))⟩
def F_is_plain_in (f_common : Nat) : Fn := ⟨1, 1, false,
 (.cons (.ret (.and (.cmp .ne (.idx (.var 0) (.lit (.int 0))) (.lit (.int 0))) (.cmp .eq (.call f_common (.cons (.idx (.var 0) (.lit (.int 0))) (.cons (.idx (.var 0) (.lit (.int 1))) .nil))) (.lit (.int 1)))))
 .nil)⟩
def F_terms_in : Fn := ⟨3, 4, false,
 (.cons (.setC 3 (.ite (.cmp .eq (.var 1) (.lit (.str "u"))) (.lst (.cons (.lit (.int 0)) (.cons (.lit (.int 1)) .nil))) (.lst (.cons (.lit (.int 2)) (.cons (.idx (.var 0) (.lit (.int 0))) .nil)))))
 (.cons (.whl (.cmp .lt (.bf .len (.cons (.var 3) .nil)) (.var 2)) (.cons (.expr (.app (.var 3) (.bin .sub (.bin .mul (.idx (.var 0) (.lit (.int 0))) (.idx (.var 3) (.neg (.lit (.int 1))))) (.bin .mul (.idx (.var 0) (.lit (.int 1))) (.idx (.var 3) (.neg (.lit (.int 2))))))))
  .nil))
 (.cons (.ret (.sl (.var 3) .none (.some (.var 2))))
 .nil)))⟩
def F_is_plain (f_is_plain_in f_sure_rule : Nat) : Fn := ⟨1, 1, false,
 (.cons (.ret (.call f_is_plain_in (.cons (.call f_sure_rule (.cons (.var 0) .nil)) .nil)))
 .nil)⟩
def F_term (f_terms_in f_sure_within g_MOST_TERM f_sure_rule : Nat) : Fn := ⟨2, 3, false,
 (.cons (.set 2 (.call f_sure_rule (.cons (.var 0) .nil)))
 (.cons (.ret (.idx (.call f_terms_in (.cons (.var 2) (.cons (.lit (.str "u")) (.cons (.bin .add (.call f_sure_within (.cons (.var 1) (.cons (.lit (.int 0)) (.cons (.glob g_MOST_TERM) .nil)))) (.lit (.int 1))) .nil)))) (.neg (.lit (.int 1)))))
 .nil))⟩
def F_companion (f_terms_in f_sure_within g_MOST_TERM f_sure_rule : Nat) : Fn := ⟨2, 3, false,
 (.cons (.set 2 (.call f_sure_rule (.cons (.var 0) .nil)))
 (.cons (.ret (.idx (.call f_terms_in (.cons (.var 2) (.cons (.lit (.str "v")) (.cons (.bin .add (.call f_sure_within (.cons (.var 1) (.cons (.lit (.int 0)) (.cons (.glob g_MOST_TERM) .nil)))) (.lit (.int 1))) .nil)))) (.neg (.lit (.int 1)))))
 .nil))⟩
def F_two_terms (f_terms_in f_sure_within g_MOST_TERM f_sure_rule : Nat) : Fn := ⟨4, 7, false,
 (.cons (.set 4 (.call f_sure_rule (.cons (.var 0) .nil)))
 (.cons (.set 5 (.call f_sure_within (.cons (.var 2) (.cons (.lit (.int 0)) (.cons (.glob g_MOST_TERM) .nil)))))
 (.cons (.set 6 (.call f_sure_within (.cons (.var 3) (.cons (.lit (.int 0)) (.cons (.glob g_MOST_TERM) .nil)))))
 (.cons (.ret (.tup (.cons (.idx (.call f_terms_in (.cons (.var 4) (.cons (.idx (.var 1) (.lit (.int 0))) (.cons (.bin .add (.var 5) (.lit (.int 1))) .nil)))) (.neg (.lit (.int 1)))) (.cons (.idx (.call f_terms_in (.cons (.var 4) (.cons (.idx (.var 1) (.lit (.int 1))) (.cons (.bin .add (.var 6) (.lit (.int 1))) .nil)))) (.neg (.lit (.int 1)))) .nil))))
 .nil))))⟩
def F_common_terms (f_common f_two_terms : Nat) : Fn := ⟨3, 5, false,
 (.cons (.tset [3, 4] (.call f_two_terms (.cons (.var 0) (.cons (.lit (.str "uu")) (.cons (.var 1) (.cons (.var 2) .nil))))))
 (.cons (.ret (.call f_common (.cons (.var 3) (.cons (.var 4) .nil))))
 .nil))⟩
def F_common_companions (f_common f_two_terms : Nat) : Fn := ⟨3, 5, false,
 (.cons (.tset [3, 4] (.call f_two_terms (.cons (.var 0) (.cons (.lit (.str "vv")) (.cons (.var 1) (.cons (.var 2) .nil))))))
 (.cons (.ret (.call f_common (.cons (.var 3) (.cons (.var 4) .nil))))
 .nil))⟩
def F_common_mixed (f_common f_two_terms : Nat) : Fn := ⟨3, 5, false,
 (.cons (.tset [3, 4] (.call f_two_terms (.cons (.var 0) (.cons (.lit (.str "uv")) (.cons (.var 1) (.cons (.var 2) .nil))))))
 (.cons (.ret (.call f_common (.cons (.var 3) (.cons (.var 4) .nil))))
 .nil))⟩
def F__law_box : Fn := ⟨2, 3, true,
 (.cons (.set 2 (.ite (.cmp .lt (.var 1) (.bf .len (.cons (.var 0) .nil))) (.idx (.var 0) (.var 1)) (.lit (.int 0))))
 (.cons (.retC (.lst (.cons (.bin .mul (.bf .abs (.cons (.var 2) .nil)) (.bf .int (.cons (.cmp .ge (.bf .abs (.cons (.var 2) .nil)) (.bin .pow (.lit (.int 10)) (.lit (.int 18)))) .nil))) (.cons (.bin .add (.bin .add (.bin .mod (.bf .int (.cons (.var 2) .nil)) (.lit (.int 2305843009213693951))) (.bin .mul (.lit (.int 39373)) (.var 1))) (.lit (.int 262920))) (.cons (.lit (.int 0)) .nil)))))
 .nil))⟩
def F__law_take : Fn := ⟨2, 6, false,
 (.cons (.ife (.cmp .gt (.idx (.var 0) (.lit (.int 0))) (.lit (.int 0))) (.cons (.set 5 (.bin .mod (.bf .int (.cons (.idx (.var 0) (.lit (.int 0))) .nil)) (.var 1)))
  (.cons (.seti (.var 0) (.lit (.int 0)) (.bin .fdiv (.idx (.var 0) (.lit (.int 0))) (.var 1)))
  (.cons (.ret (.var 5))
  .nil))) .nil)
 (.cons (.seti (.var 0) (.lit (.int 2)) (.bin .add (.idx (.var 0) (.lit (.int 2))) (.lit (.int 1))))
 (.cons (.set 2 (.bin .mod (.bf .int (.cons (.bin .mul (.bin .add (.idx (.var 0) (.lit (.int 1))) (.bin .mul (.lit (.int 48271)) (.idx (.var 0) (.lit (.int 2))))) (.bin .add (.lit (.int 39373)) (.idx (.var 0) (.lit (.int 2))))) .nil)) (.lit (.int 2147483647))))
 (.cons (.set 3 (.bin .add (.bin .mod (.bf .int (.cons (.var 2) .nil)) (.lit (.int 40009))) (.lit (.int 7))))
 (.cons (.set 4 (.bin .mod (.bf .int (.cons (.bin .mul (.bin .add (.bin .add (.var 2) (.idx (.var 0) (.lit (.int 2)))) (.bin .fdiv (.idx (.var 0) (.lit (.int 1))) (.lit (.int 1000003)))) (.var 3)) .nil)) (.lit (.int 2147483629))))
 (.cons (.ret (.bin .mod (.bf .int (.cons (.bin .fdiv (.bin .mod (.bf .int (.cons (.bin .add (.bin .mul (.var 4) (.lit (.int 48271))) (.var 2)) .nil)) (.lit (.int 2147483587))) (.lit (.int 64))) .nil)) (.var 1)))
 .nil))))))⟩
def F__law_cells : Fn := ⟨2, 6, false,
 (.cons (.setC 2 (.or (.bf .list (.cons (.sl (.var 0) .none (.some (.var 1))) .nil)) (.lst (.cons (.lit (.int 0)) .nil))))
 (.cons (.fr (.enum (.sl (.var 0) (.some (.var 1)) (.some (.lit (.int 63))))) (.many [3, 4]) (.cons (.set 5 (.bin .mod (.bf .int (.cons (.var 3) .nil)) (.var 1)))
  (.cons (.seti (.var 2) (.var 5) (.bin .add (.idx (.var 2) (.var 5)) (.bin .mul (.var 4) (.bin .add (.var 3) (.lit (.int 2))))))
  .nil)))
 (.cons (.ret (.var 2))
 .nil)))⟩
def F__law_of (f__law_take : Nat) : Fn := ⟨2, 2, false,
 (.cons (.ret (.idx (.var 1) (.call f__law_take (.cons (.var 0) (.cons (.bf .len (.cons (.var 1) .nil)) .nil)))))
 .nil)⟩
def F__law_same (f__law_same : Nat) : Fn := ⟨2, 4, false,
 (.cons (.ife (.isin (.var 1) [.list, .tuple]) (.cons (.ife (.or (.cmp .ne (.isin (.var 0) [.list]) (.isin (.var 1) [.list])) (.cmp .ne (.isin (.var 0) [.tuple]) (.isin (.var 1) [.tuple]))) (.cons (.ret (.lit (.bl false)))
   .nil) .nil)
  (.cons (.ret (.and (.cmp .eq (.bf .len (.cons (.var 0) .nil)) (.bf .len (.cons (.var 1) .nil))) (.bf .all (.cons (.comp [2, 3] (.zip (.var 0) (.var 1)) (.many [2, 3]) .none (.call f__law_same (.cons (.var 2) (.cons (.var 3) .nil)))) .nil))))
  .nil)) .nil)
 (.cons (.ife (.isC false (.var 1) (.non)) (.cons (.ret (.isC false (.var 0) (.non)))
  .nil) .nil)
 (.cons (.ife (.isin (.var 1) [.bool, .str]) (.cons (.ret (.and (.cmp .eq (.isin (.var 0) [.bool]) (.isin (.var 1) [.bool])) (.and (.cmp .eq (.isin (.var 0) [.str]) (.isin (.var 1) [.str])) (.cmp .eq (.var 0) (.var 1)))))
  .nil) .nil)
 (.cons (.ret (.and (.isin (.var 0) [.int]) (.and (.not (.isin (.var 0) [.bool])) (.cmp .eq (.var 0) (.var 1)))))
 .nil))))⟩
def F__law_common : Fn := ⟨2, 4, false,
 (.cons (.par [2, 3] [false, false] (.cons (.bf .abs (.cons (.var 0) .nil)) (.cons (.bf .abs (.cons (.var 1) .nil)) .nil)))
 (.cons (.whl (.cmp .ne (.var 3) (.lit (.int 0))) (.cons (.par [2, 3] [false, false] (.cons (.var 3) (.cons (.bin .mod (.var 2) (.var 3)) .nil)))
  .nil))
 (.cons (.ret (.var 2))
 .nil)))⟩
def F__law_rule (f__law_take : Nat) : Fn := ⟨2, 3, false,
 (.cons (.set 2 (.bin .add (.lit (.int 1)) (.call f__law_take (.cons (.var 0) (.cons (.var 1) .nil)))))
 (.cons (.ret (.tup (.cons (.bin .sub (.call f__law_take (.cons (.var 0) (.cons (.bin .add (.bin .mul (.lit (.int 2)) (.var 1)) (.lit (.int 1))) .nil))) (.var 1)) (.cons (.ite (.cmp .eq (.call f__law_take (.cons (.var 0) (.cons (.lit (.int 2)) .nil))) (.lit (.int 0))) (.var 2) (.bin .sub (.lit (.int 0)) (.var 2))) .nil))))
 .nil))⟩
def F__law_plain (f__law_of f__law_common f__law_rule : Nat) : Fn := ⟨2, 4, false,
 (.cons (.fr (.rng (.cons (.lit (.int 12)) .nil)) (.one 2) (.cons (.set 3 (.call f__law_rule (.cons (.var 0) (.cons (.var 1) .nil))))
  (.cons (.ife (.and (.cmp .ne (.idx (.var 3) (.lit (.int 0))) (.lit (.int 0))) (.cmp .eq (.call f__law_common (.cons (.idx (.var 3) (.lit (.int 0))) (.cons (.idx (.var 3) (.lit (.int 1))) .nil))) (.lit (.int 1)))) (.cons (.ret (.var 3))
   .nil) .nil)
  .nil)))
 (.cons (.ret (.call f__law_of (.cons (.var 0) (.cons (.lst (.cons (.tup (.cons (.lit (.int 1)) (.cons (.bin .sub (.lit (.int 0)) (.lit (.int 1))) .nil))) (.cons (.tup (.cons (.lit (.int 3)) (.cons (.lit (.int 2)) .nil))) (.cons (.tup (.cons (.lit (.int 2)) (.cons (.bin .sub (.lit (.int 0)) (.lit (.int 1))) .nil))) (.cons (.tup (.cons (.bin .sub (.lit (.int 0)) (.lit (.int 3))) (.cons (.lit (.int 1)) .nil))) (.cons (.tup (.cons (.lit (.int 4)) (.cons (.lit (.int 1)) .nil))) (.cons (.tup (.cons (.lit (.int 1)) (.cons (.lit (.int 2)) .nil))) .nil))))))) .nil))))
 .nil))⟩
def F__law_us : Fn := ⟨2, 4, false,
 (.cons (.setC 2 (.lst (.cons (.lit (.int 0)) (.cons (.lit (.int 1)) .nil))))
 (.cons (.fr (.rng (.cons (.var 1) .nil)) (.one 3) (.cons (.expr (.app (.var 2) (.bin .sub (.bin .mul (.idx (.var 0) (.lit (.int 0))) (.idx (.var 2) (.neg (.lit (.int 1))))) (.bin .mul (.idx (.var 0) (.lit (.int 1))) (.idx (.var 2) (.neg (.lit (.int 2))))))))
  .nil))
 (.cons (.ret (.sl (.var 2) .none (.some (.var 1))))
 .nil)))⟩
def F__law_vs : Fn := ⟨2, 4, false,
 (.cons (.setC 2 (.lst (.cons (.lit (.int 2)) (.cons (.idx (.var 0) (.lit (.int 0))) .nil))))
 (.cons (.fr (.rng (.cons (.var 1) .nil)) (.one 3) (.cons (.expr (.app (.var 2) (.bin .sub (.bin .mul (.idx (.var 0) (.lit (.int 0))) (.idx (.var 2) (.neg (.lit (.int 1))))) (.bin .mul (.idx (.var 0) (.lit (.int 1))) (.idx (.var 2) (.neg (.lit (.int 2))))))))
  .nil))
 (.cons (.ret (.sl (.var 2) .none (.some (.var 1))))
 .nil)))⟩
def F_lcm (f_common : Nat) : Fn := ⟨2, 2, false,
 (.cons (.ret (.bin .mul (.bin .fdiv (.var 0) (.call f_common (.cons (.var 0) (.cons (.var 1) .nil)))) (.var 1)))
 .nil)⟩
def F_primes_of : Fn := ⟨1, 5, false,
 (.cons (.par [1, 2, 3] [true, false, false] (.cons (.lst .nil) (.cons (.var 0) (.cons (.lit (.int 2)) .nil))))
 (.cons (.whl (.cmp .le (.bin .mul (.var 3) (.var 3)) (.var 2)) (.cons (.set 4 (.lit (.int 0)))
  (.cons (.whl (.cmp .eq (.bin .mod (.var 2) (.var 3)) (.lit (.int 0))) (.cons (.par [2, 4] [false, false] (.cons (.bin .fdiv (.var 2) (.var 3)) (.cons (.bin .add (.var 4) (.lit (.int 1))) .nil)))
   .nil))
  (.cons (.ife (.cmp .gt (.var 4) (.lit (.int 0))) (.cons (.expr (.app (.var 1) (.tup (.cons (.var 3) (.cons (.var 4) .nil)))))
   .nil) .nil)
  (.cons (.set 3 (.bin .add (.var 3) (.ite (.cmp .eq (.var 3) (.lit (.int 2))) (.lit (.int 1)) (.lit (.int 2)))))
  .nil)))))
 (.cons (.ret (.bf .tuple (.cons (.bin .add (.var 1) (.ite (.cmp .gt (.var 2) (.lit (.int 1))) (.lst (.cons (.tup (.cons (.var 2) (.cons (.lit (.int 1)) .nil))) .nil)) (.lst .nil))) .nil)))
 .nil)))⟩
def F_jacobi_in : Fn := ⟨2, 5, false,
 (.cons (.par [2, 3, 4] [false, false, false] (.cons (.bin .mod (.var 0) (.var 1)) (.cons (.var 1) (.cons (.lit (.int 1)) .nil))))
 (.cons (.whl (.cmp .ne (.var 2) (.lit (.int 0))) (.cons (.whl (.cmp .eq (.bin .mod (.var 2) (.lit (.int 2))) (.lit (.int 0))) (.cons (.set 2 (.bin .fdiv (.var 2) (.lit (.int 2))))
   (.cons (.set 4 (.ite (.cmp .inn (.bin .mod (.var 3) (.lit (.int 8))) (.tup (.cons (.lit (.int 3)) (.cons (.lit (.int 5)) .nil)))) (.neg (.var 4)) (.var 4)))
   .nil)))
  (.cons (.par [2, 3] [false, false] (.cons (.var 3) (.cons (.var 2) .nil)))
  (.cons (.set 4 (.ite (.and (.cmp .eq (.bin .mod (.var 2) (.lit (.int 4))) (.lit (.int 3))) (.cmp .eq (.bin .mod (.var 3) (.lit (.int 4))) (.lit (.int 3)))) (.neg (.var 4)) (.var 4)))
  (.cons (.set 2 (.bin .mod (.var 2) (.var 3)))
  .nil)))))
 (.cons (.ret (.ite (.cmp .eq (.var 3) (.lit (.int 1))) (.var 4) (.lit (.int 0))))
 .nil)))⟩
def F_big_d : Fn := ⟨1, 1, false,
 (.cons (.ret (.bin .sub (.bin .mul (.idx (.var 0) (.lit (.int 0))) (.idx (.var 0) (.lit (.int 0)))) (.bin .mul (.lit (.int 4)) (.idx (.var 0) (.lit (.int 1))))))
 .nil)⟩
def F_zero_in (f_terms_in : Nat) : Fn := ⟨1, 4, false,
 (.cons (.set 1 (.comp [2, 3] (.enum (.call f_terms_in (.cons (.var 0) (.cons (.lit (.str "u")) (.cons (.lit (.int 7)) .nil))))) (.many [2, 3]) (.some (.and (.cmp .gt (.var 2) (.lit (.int 0))) (.cmp .eq (.var 3) (.lit (.int 0))))) (.var 2)))
 (.cons (.ret (.ite (.cmp .ne (.var 1) (.lst .nil)) (.idx (.var 1) (.lit (.int 0))) (.lit (.non))))
 .nil))⟩
def F_digits_of : Fn := ⟨1, 3, false,
 (.cons (.par [1, 2] [true, false] (.cons (.lst .nil) (.cons (.var 0) .nil)))
 (.cons (.whl (.cmp .gt (.var 2) (.lit (.int 0))) (.cons (.expr (.app (.var 1) (.bin .mod (.var 2) (.lit (.int 2)))))
  (.cons (.set 2 (.bin .fdiv (.var 2) (.lit (.int 2))))
  .nil)))
 (.cons (.ret (.rev (.var 1)))
 .nil)))⟩
def F_pair_mod (f_digits_of : Nat) : Fn := ⟨3, 8, false,
 (.cons (.par [4, 5] [false, false] (.cons (.lit (.int 0)) (.cons (.bin .mod (.lit (.int 1)) (.var 2)) .nil)))
 (.cons (.fr (.of (.call f_digits_of (.cons (.var 1) .nil))) (.one 3) (.cons (.set 6 (.bin .mod (.bin .mul (.var 4) (.bin .sub (.bin .mul (.lit (.int 2)) (.var 5)) (.bin .mul (.idx (.var 0) (.lit (.int 0))) (.var 4)))) (.var 2)))
  (.cons (.set 7 (.bin .mod (.bin .sub (.bin .mul (.var 5) (.var 5)) (.bin .mul (.bin .mul (.idx (.var 0) (.lit (.int 1))) (.var 4)) (.var 4))) (.var 2)))
  (.cons (.tset [4, 5] (.ite (.cmp .eq (.var 3) (.lit (.int 0))) (.tup (.cons (.var 6) (.cons (.var 7) .nil))) (.tup (.cons (.var 7) (.cons (.bin .mod (.bin .sub (.bin .mul (.idx (.var 0) (.lit (.int 0))) (.var 7)) (.bin .mul (.idx (.var 0) (.lit (.int 1))) (.var 6))) (.var 2)) .nil)))))
  .nil))))
 (.cons (.ret (.tup (.cons (.var 4) (.cons (.var 5) .nil))))
 .nil)))⟩
def F_sure_far (f_sure_within g_MOST_MODULUS g_MOST_FAR : Nat) : Fn := ⟨2, 3, false,
 (.cons (.set 2 (.call f_sure_within (.cons (.var 0) (.cons (.lit (.int 0)) (.cons (.glob g_MOST_FAR) .nil)))))
 (.cons (.ret (.tup (.cons (.var 2) (.cons (.call f_sure_within (.cons (.var 1) (.cons (.lit (.int 1)) (.cons (.glob g_MOST_MODULUS) .nil)))) .nil))))
 .nil))⟩
def F_term_rest (f_pair_mod f_sure_far f_sure_rule : Nat) : Fn := ⟨3, 6, false,
 (.cons (.set 3 (.call f_sure_rule (.cons (.var 0) .nil)))
 (.cons (.tset [4, 5] (.call f_sure_far (.cons (.var 1) (.cons (.var 2) .nil))))
 (.cons (.ret (.idx (.call f_pair_mod (.cons (.var 3) (.cons (.var 4) (.cons (.var 5) .nil)))) (.lit (.int 0))))
 .nil)))⟩
def F_bound_in (f_jacobi_in f_big_d : Nat) : Fn := ⟨2, 3, false,
 (.cons (.ife (.cmp .eq (.var 1) (.lit (.int 2))) (.cons (.ret (.ite (.cmp .eq (.bin .mod (.idx (.var 0) (.lit (.int 0))) (.lit (.int 2))) (.lit (.int 0))) (.lit (.int 2)) (.lit (.int 3))))
  .nil) .nil)
 (.cons (.set 2 (.call f_jacobi_in (.cons (.call f_big_d (.cons (.var 0) .nil)) (.cons (.var 1) .nil))))
 (.cons (.ret (.ite (.cmp .eq (.var 2) (.lit (.int 0))) (.var 1) (.bin .sub (.var 1) (.var 2))))
 .nil)))⟩
def F_least_part (f_primes_of f_pair_mod : Nat) : Fn := ⟨3, 6, false,
 (.cons (.set 3 (.var 2))
 (.cons (.fr (.of (.call f_primes_of (.cons (.var 2) .nil))) (.many [4, 5]) (.cons (.whl (.and (.cmp .eq (.bin .mod (.var 3) (.var 4)) (.lit (.int 0))) (.cmp .eq (.idx (.call f_pair_mod (.cons (.var 0) (.cons (.bin .fdiv (.var 3) (.var 4)) (.cons (.var 1) .nil)))) (.lit (.int 0))) (.lit (.int 0)))) (.cons (.set 3 (.bin .fdiv (.var 3) (.var 4)))
   .nil))
  .nil))
 (.cons (.ret (.var 3))
 .nil)))⟩
def F_prime_place_in (f_least_part f_bound_in : Nat) : Fn := ⟨2, 2, false,
 (.cons (.ret (.call f_least_part (.cons (.var 0) (.cons (.var 1) (.cons (.call f_bound_in (.cons (.var 0) (.cons (.var 1) .nil))) .nil)))))
 .nil)⟩
def F_ground_in (f_prime_place_in f_least_part : Nat) : Fn := ⟨2, 2, false,
 (.cons (.ret (.ite (.cmp .gt (.var 1) (.lit (.int 2))) (.call f_prime_place_in (.cons (.var 0) (.cons (.var 1) .nil))) (.call f_least_part (.cons (.var 0) (.cons (.lit (.int 4)) (.cons (.bin .mul (.lit (.int 2)) (.call f_prime_place_in (.cons (.var 0) (.cons (.lit (.int 2)) .nil)))) .nil))))))
 .nil)⟩
def F_excess_in (f_pair_mod f_zero_in f_ground_in : Nat) : Fn := ⟨2, 6, false,
 (.cons (.par [2, 3] [false, false] (.cons (.call f_ground_in (.cons (.var 0) (.cons (.var 1) .nil))) (.cons (.call f_zero_in (.cons (.var 0) .nil)) .nil)))
 (.cons (.ife (.and (.isC true (.var 3) (.non)) (.cmp .eq (.bin .mod (.var 2) (.var 3)) (.lit (.int 0)))) (.cons (.ret (.lit (.non)))
  .nil) .nil)
 (.cons (.par [4, 5] [false, false] (.cons (.lit (.int 0)) (.cons (.var 1) .nil)))
 (.cons (.whl (.cmp .eq (.idx (.call f_pair_mod (.cons (.var 0) (.cons (.var 2) (.cons (.var 5) .nil)))) (.lit (.int 0))) (.lit (.int 0))) (.cons (.par [4, 5] [false, false] (.cons (.bin .add (.var 4) (.lit (.int 1))) (.cons (.bin .mul (.var 5) (.var 1)) .nil)))
  .nil))
 (.cons (.ret (.var 4))
 .nil)))))⟩
def F_power_place_in (f_excess_in f_ground_in f_prime_place_in : Nat) : Fn := ⟨3, 6, false,
 (.cons (.ife (.cmp .eq (.var 2) (.lit (.int 1))) (.cons (.ret (.call f_prime_place_in (.cons (.var 0) (.cons (.var 1) .nil))))
  .nil) .nil)
 (.cons (.par [3, 4] [false, false] (.cons (.call f_ground_in (.cons (.var 0) (.cons (.var 1) .nil))) (.cons (.call f_excess_in (.cons (.var 0) (.cons (.var 1) .nil))) .nil)))
 (.cons (.ife (.isC true (.var 4) (.non)) (.cons (.fr (.rng (.cons (.bin .sub (.var 2) (.var 4)) .nil)) (.one 5) (.cons (.set 3 (.bin .mul (.var 3) (.var 1)))
   .nil))
  .nil) .nil)
 (.cons (.ret (.var 3))
 .nil))))⟩
def F_first_place_in (f_primes_of f_lcm f_power_place_in : Nat) : Fn := ⟨2, 5, false,
 (.cons (.set 2 (.lit (.int 1)))
 (.cons (.fr (.of (.call f_primes_of (.cons (.var 1) .nil))) (.many [3, 4]) (.cons (.set 2 (.call f_lcm (.cons (.var 2) (.cons (.call f_power_place_in (.cons (.var 0) (.cons (.var 3) (.cons (.var 4) .nil)))) .nil))))
  .nil))
 (.cons (.ret (.var 2))
 .nil)))⟩
def F_sure_prime_to (f_common e_CanNot f_sure_within f_sure_rule : Nat) : Fn := ⟨3, 5, false,
 (.cons (.set 3 (.call f_sure_rule (.cons (.var 0) .nil)))
 (.cons (.set 4 (.call f_sure_within (.cons (.var 1) (.cons (.lit (.int 1)) (.cons (.var 2) .nil)))))
 (.cons (.ife (.cmp .ne (.call f_common (.cons (.var 4) (.cons (.idx (.var 3) (.lit (.int 1))) .nil))) (.lit (.int 1))) (.cons (.raise e_CanNot .none)
  .nil) .nil)
 (.cons (.ret (.tup (.cons (.var 3) (.cons (.var 4) .nil))))
 .nil))))⟩
def F_first_place (f_first_place_in f_sure_prime_to g_MOST_FOUND : Nat) : Fn := ⟨2, 4, false,
 (.cons (.tset [2, 3] (.call f_sure_prime_to (.cons (.var 0) (.cons (.var 1) (.cons (.glob g_MOST_FOUND) .nil)))))
 (.cons (.ret (.call f_first_place_in (.cons (.var 2) (.cons (.var 3) .nil))))
 .nil))⟩
def F_how_many_places (f_first_place_in f_common e_CanNot f_sure_within g_MOST_FAR g_MOST_FOUND f_sure_rule : Nat) : Fn := ⟨3, 6, false,
 (.cons (.set 3 (.call f_sure_rule (.cons (.var 0) .nil)))
 (.cons (.set 4 (.call f_sure_within (.cons (.var 1) (.cons (.lit (.int 1)) (.cons (.glob g_MOST_FOUND) .nil)))))
 (.cons (.set 5 (.call f_sure_within (.cons (.var 2) (.cons (.lit (.int 0)) (.cons (.glob g_MOST_FAR) .nil)))))
 (.cons (.ife (.cmp .ne (.call f_common (.cons (.var 4) (.cons (.idx (.var 3) (.lit (.int 1))) .nil))) (.lit (.int 1))) (.cons (.raise e_CanNot .none)
  .nil) .nil)
 (.cons (.ret (.bin .fdiv (.var 5) (.call f_first_place_in (.cons (.var 3) (.cons (.var 4) .nil)))))
 .nil)))))⟩
def F_places_to (f_first_place g_MOST_LISTED e_TooMany f_how_many_places : Nat) : Fn := ⟨3, 6, false,
 (.cons (.set 3 (.call f_how_many_places (.cons (.var 0) (.cons (.var 1) (.cons (.var 2) .nil)))))
 (.cons (.ife (.cmp .gt (.var 3) (.glob g_MOST_LISTED)) (.cons (.raise e_TooMany .none)
  .nil) .nil)
 (.cons (.set 4 (.call f_first_place (.cons (.var 0) (.cons (.var 1) .nil))))
 (.cons (.ret (.comp [5] (.rng (.cons (.lit (.int 1)) (.cons (.bin .add (.var 3) (.lit (.int 1))) .nil))) (.one 5) .none (.bin .mul (.var 4) (.var 5))))
 .nil))))⟩
def F_place_walked (g_MOST_WALKED e_TooMany f_sure_prime_to g_MOST_FOUND : Nat) : Fn := ⟨2, 7, false,
 (.cons (.tset [2, 3] (.call f_sure_prime_to (.cons (.var 0) (.cons (.var 1) (.cons (.glob g_MOST_FOUND) .nil)))))
 (.cons (.par [4, 5, 6] [false, false, false] (.cons (.bin .mod (.lit (.int 1)) (.var 3)) (.cons (.bin .mod (.idx (.var 2) (.lit (.int 0))) (.var 3)) (.cons (.lit (.int 1)) .nil))))
 (.cons (.whl (.cmp .ne (.var 4) (.lit (.int 0))) (.cons (.ife (.cmp .eq (.var 6) (.glob g_MOST_WALKED)) (.cons (.raise e_TooMany .none)
   .nil) .nil)
  (.cons (.par [4, 5, 6] [false, false, false] (.cons (.var 5) (.cons (.bin .mod (.bin .sub (.bin .mul (.idx (.var 2) (.lit (.int 0))) (.var 5)) (.bin .mul (.idx (.var 2) (.lit (.int 1))) (.var 4))) (.var 3)) (.cons (.bin .add (.var 6) (.lit (.int 1))) .nil))))
  .nil)))
 (.cons (.ret (.var 6))
 .nil))))⟩
def F_is_divided (f_pair_mod f_sure_within g_MOST_FAR g_MOST_MODULUS f_sure_rule : Nat) : Fn := ⟨3, 5, false,
 (.cons (.set 3 (.call f_sure_rule (.cons (.var 0) .nil)))
 (.cons (.set 4 (.call f_sure_within (.cons (.var 1) (.cons (.lit (.int 1)) (.cons (.glob g_MOST_MODULUS) .nil)))))
 (.cons (.ret (.cmp .eq (.idx (.call f_pair_mod (.cons (.var 3) (.cons (.call f_sure_within (.cons (.var 2) (.cons (.lit (.int 0)) (.cons (.glob g_MOST_FAR) .nil)))) (.cons (.var 4) .nil)))) (.lit (.int 0))) (.lit (.int 0))))
 .nil)))⟩
def F_divided_terms (f_sure_within g_MOST_TERM g_MOST_MODULUS f_sure_rule : Nat) : Fn := ⟨3, 10, false,
 (.cons (.set 3 (.call f_sure_rule (.cons (.var 0) .nil)))
 (.cons (.set 4 (.call f_sure_within (.cons (.var 1) (.cons (.lit (.int 1)) (.cons (.glob g_MOST_MODULUS) .nil)))))
 (.cons (.set 5 (.call f_sure_within (.cons (.var 2) (.cons (.lit (.int 0)) (.cons (.glob g_MOST_TERM) .nil)))))
 (.cons (.par [7, 8, 9] [false, false, true] (.cons (.lit (.int 0)) (.cons (.bin .mod (.lit (.int 1)) (.var 4)) (.cons (.lst .nil) .nil))))
 (.cons (.fr (.rng (.cons (.lit (.int 1)) (.cons (.bin .add (.var 5) (.lit (.int 1))) .nil))) (.one 6) (.cons (.par [7, 8] [false, false] (.cons (.var 8) (.cons (.bin .mod (.bin .sub (.bin .mul (.idx (.var 3) (.lit (.int 0))) (.var 8)) (.bin .mul (.idx (.var 3) (.lit (.int 1))) (.var 7))) (.var 4)) .nil)))
  (.cons (.ife (.cmp .eq (.var 7) (.lit (.int 0))) (.cons (.expr (.app (.var 9) (.var 6)))
   .nil) .nil)
  .nil)))
 (.cons (.ret (.var 9))
 .nil))))))⟩
def F__law_rests : Fn := ⟨3, 5, false,
 (.cons (.setC 3 (.lst (.cons (.lit (.int 0)) (.cons (.bin .mod (.lit (.int 1)) (.var 2)) .nil))))
 (.cons (.fr (.rng (.cons (.var 1) .nil)) (.one 4) (.cons (.expr (.app (.var 3) (.bin .mod (.bin .sub (.bin .mul (.idx (.var 0) (.lit (.int 0))) (.idx (.var 3) (.neg (.lit (.int 1))))) (.bin .mul (.idx (.var 0) (.lit (.int 1))) (.idx (.var 3) (.neg (.lit (.int 2)))))) (.var 2))))
  .nil))
 (.cons (.ret (.sl (.var 3) .none (.some (.var 1))))
 .nil)))⟩
def F__law_tables : Fn := ⟨3, 6, false,
 (.cons (.setC 3 (.lst .nil))
 (.cons (.fr (.of (.var 0)) (.one 4) (.cons (.expr (.app (.var 3) (.comp [5] (.rng (.cons (.lit (.int 2)) .nil)) (.one 5) .none (.bin .mod (.bin .add (.bin .mul (.idx (.var 4) (.lit (.int 0))) (.idx (.idx (.var 1) (.lit (.int 0))) (.var 5))) (.bin .mul (.idx (.var 4) (.lit (.int 1))) (.idx (.idx (.var 1) (.lit (.int 1))) (.var 5)))) (.var 2)))))
  .nil))
 (.cons (.ret (.var 3))
 .nil)))⟩
def F__law_far (f__law_tables : Nat) : Fn := ⟨3, 6, false,
 (.cons (.par [4, 5] [false, false] (.cons (.lst (.cons (.lst (.cons (.bin .mod (.lit (.int 1)) (.var 2)) (.cons (.lit (.int 0)) .nil))) (.cons (.lst (.cons (.lit (.int 0)) (.cons (.bin .mod (.lit (.int 1)) (.var 2)) .nil))) .nil))) (.cons (.lst (.cons (.lst (.cons (.bin .mod (.idx (.var 0) (.lit (.int 0))) (.var 2)) (.cons (.bin .sub (.lit (.int 0)) (.bin .mod (.idx (.var 0) (.lit (.int 1))) (.var 2))) .nil))) (.cons (.lst (.cons (.bin .mod (.lit (.int 1)) (.var 2)) (.cons (.lit (.int 0)) .nil))) .nil))) .nil)))
 (.cons (.fr (.rng (.cons (.lit (.int 64)) .nil)) (.one 3) (.cons (.ife (.cmp .eq (.var 1) (.lit (.int 0))) (.cons (.brk)
   .nil) .nil)
  (.cons (.ife (.cmp .eq (.bin .mod (.var 1) (.lit (.int 2))) (.lit (.int 1))) (.cons (.set 4 (.call f__law_tables (.cons (.var 4) (.cons (.var 5) (.cons (.var 2) .nil)))))
   .nil) .nil)
  (.cons (.par [5, 1] [false, false] (.cons (.call f__law_tables (.cons (.var 5) (.cons (.var 5) (.cons (.var 2) .nil)))) (.cons (.bin .fdiv (.var 1) (.lit (.int 2))) .nil)))
  .nil))))
 (.cons (.ret (.tup (.cons (.bin .mod (.idx (.idx (.var 4) (.lit (.int 1))) (.lit (.int 0))) (.var 2)) (.cons (.bin .mod (.idx (.idx (.var 4) (.lit (.int 0))) (.lit (.int 0))) (.var 2)) .nil))))
 .nil)))⟩
def F__law_first : Fn := ⟨3, 6, false,
 (.cons (.par [4, 5] [false, false] (.cons (.bin .mod (.lit (.int 1)) (.var 1)) (.cons (.bin .mod (.idx (.var 0) (.lit (.int 0))) (.var 1)) .nil)))
 (.cons (.fr (.rng (.cons (.lit (.int 1)) (.cons (.bin .add (.var 2) (.lit (.int 1))) .nil))) (.one 3) (.cons (.ife (.cmp .eq (.var 4) (.lit (.int 0))) (.cons (.ret (.var 3))
   .nil) .nil)
  (.cons (.par [4, 5] [false, false] (.cons (.var 5) (.cons (.bin .mod (.bin .sub (.bin .mul (.idx (.var 0) (.lit (.int 0))) (.var 5)) (.bin .mul (.idx (.var 0) (.lit (.int 1))) (.var 4))) (.var 1)) .nil)))
  .nil)))
 (.cons (.ret (.lit (.int 0)))
 .nil)))⟩
def F_is_prime_in (f_primes_of : Nat) : Fn := ⟨1, 1, false,
 (.cons (.ret (.and (.cmp .gt (.var 0) (.lit (.int 1))) (.cmp .eq (.call f_primes_of (.cons (.var 0) .nil)) (.tup (.cons (.tup (.cons (.var 0) (.cons (.lit (.int 1)) .nil))) .nil)))))
 .nil)⟩
def F_place_parts (f_primes_of f_power_place_in f_sure_prime_to g_MOST_FOUND : Nat) : Fn := ⟨2, 6, false,
 (.cons (.tset [2, 3] (.call f_sure_prime_to (.cons (.var 0) (.cons (.var 1) (.cons (.glob g_MOST_FOUND) .nil)))))
 (.cons (.ret (.bf .tuple (.cons (.comp [4, 5] (.of (.call f_primes_of (.cons (.var 3) .nil))) (.many [4, 5]) .none (.tup (.cons (.var 4) (.cons (.var 5) (.cons (.call f_power_place_in (.cons (.var 2) (.cons (.var 4) (.cons (.var 5) .nil)))) .nil))))) .nil)))
 .nil))⟩
def F_power_place (f_power_place_in e_CanNot f_sure_within g_MOST_OFTEN f_is_prime_in f_is_within g_MOST_FOUND e_Unfit f_sure_rule : Nat) : Fn := ⟨3, 5, false,
 (.cons (.set 3 (.call f_sure_rule (.cons (.var 0) .nil)))
 (.cons (.ife (.or (.not (.call f_is_within (.cons (.var 1) (.cons (.lit (.int 2)) (.cons (.glob g_MOST_FOUND) .nil))))) (.not (.call f_is_prime_in (.cons (.var 1) .nil)))) (.cons (.raise e_Unfit .none)
  .nil) .nil)
 (.cons (.set 4 (.call f_sure_within (.cons (.var 2) (.cons (.lit (.int 1)) (.cons (.glob g_MOST_OFTEN) .nil)))))
 (.cons (.ife (.cmp .eq (.bin .mod (.idx (.var 3) (.lit (.int 1))) (.var 1)) (.lit (.int 0))) (.cons (.raise e_CanNot .none)
  .nil) .nil)
 (.cons (.ret (.call f_power_place_in (.cons (.var 3) (.cons (.var 1) (.cons (.var 4) .nil)))))
 .nil)))))⟩
def F__law_pick (f__law_take : Nat) : Fn := ⟨3, 6, false,
 (.cons (.par [4, 5] [true, true] (.cons (.bf .list (.cons (.var 1) .nil)) (.cons (.lst .nil) .nil)))
 (.cons (.fr (.rng (.cons (.bf .min (.cons (.bf .int (.cons (.var 2) .nil)) (.cons (.bf .len (.cons (.var 4) .nil)) .nil))) .nil)) (.one 3) (.cons (.expr (.app (.var 5) (.pop (.var 4) (.call f__law_take (.cons (.var 0) (.cons (.bf .len (.cons (.var 4) .nil)) .nil))))))
  .nil))
 (.cons (.ret (.var 5))
 .nil)))⟩
def F__law_often : Fn := ⟨2, 4, false,
 (.cons (.set 2 (.lit (.int 0)))
 (.cons (.fr (.rng (.cons (.lit (.int 10000)) .nil)) (.one 3) (.cons (.ife (.cmp .ne (.bin .mod (.var 0) (.var 1)) (.lit (.int 0))) (.cons (.brk)
   .nil) .nil)
  (.cons (.par [0, 2] [false, false] (.cons (.bin .fdiv (.var 0) (.var 1)) (.cons (.bin .add (.var 2) (.lit (.int 1))) .nil)))
  .nil)))
 (.cons (.ret (.var 2))
 .nil)))⟩
def F_discriminant (f_big_d f_sure_rule : Nat) : Fn := ⟨1, 1, false,
 (.cons (.ret (.call f_big_d (.cons (.call f_sure_rule (.cons (.var 0) .nil)) .nil)))
 .nil)⟩
def F_sure_prime (e_CanNot f_is_prime_in f_is_within g_MOST_FOUND e_Unfit f_sure_rule : Nat) : Fn := ⟨2, 3, false,
 (.cons (.set 2 (.call f_sure_rule (.cons (.var 0) .nil)))
 (.cons (.ife (.or (.not (.call f_is_within (.cons (.var 1) (.cons (.lit (.int 2)) (.cons (.glob g_MOST_FOUND) .nil))))) (.not (.call f_is_prime_in (.cons (.var 1) .nil)))) (.cons (.raise e_Unfit .none)
  .nil) .nil)
 (.cons (.ife (.cmp .eq (.bin .mod (.idx (.var 2) (.lit (.int 1))) (.var 1)) (.lit (.int 0))) (.cons (.raise e_CanNot .none)
  .nil) .nil)
 (.cons (.ret (.tup (.cons (.var 2) (.cons (.var 1) .nil))))
 .nil))))⟩
def F_prime_place_bound (f_bound_in f_sure_prime : Nat) : Fn := ⟨2, 4, false,
 (.cons (.tset [2, 3] (.call f_sure_prime (.cons (.var 0) (.cons (.var 1) .nil))))
 (.cons (.ret (.call f_bound_in (.cons (.var 2) (.cons (.var 3) .nil))))
 .nil))⟩
def F__law_primes : Fn := ⟨1, 3, false,
 (.cons (.ret (.comp [1] (.rng (.cons (.lit (.int 2)) (.cons (.bin .add (.var 0) (.lit (.int 1))) .nil))) (.one 1) (.some (.cmp .eq (.comp [2] (.rng (.cons (.lit (.int 2)) (.cons (.var 1) .nil))) (.one 2) (.some (.and (.cmp .eq (.bin .mod (.var 1) (.var 2)) (.lit (.int 0))) (.cmp .le (.bin .mul (.var 2) (.var 2)) (.var 1)))) (.var 2)) (.lst .nil))) (.var 1)))
 .nil)⟩
def F__law_square_by : Fn := ⟨2, 3, false,
 (.cons (.ife (.cmp .eq (.bin .mod (.var 0) (.var 1)) (.lit (.int 0))) (.cons (.ret (.lit (.int 0)))
  .nil) .nil)
 (.cons (.ret (.ite (.cmp .ne (.comp [2] (.rng (.cons (.lit (.int 1)) (.cons (.var 1) .nil))) (.one 2) (.some (.cmp .eq (.bin .mod (.bin .sub (.bin .mul (.var 2) (.var 2)) (.var 0)) (.var 1)) (.lit (.int 0)))) (.var 2)) (.lst .nil)) (.lit (.int 1)) (.bin .sub (.lit (.int 0)) (.lit (.int 1)))))
 .nil))⟩
def F_zero_place (f_zero_in f_sure_rule : Nat) : Fn := ⟨1, 1, false,
 (.cons (.ret (.call f_zero_in (.cons (.call f_sure_rule (.cons (.var 0) .nil)) .nil)))
 .nil)⟩
def F_place_excess (f_excess_in f_sure_prime : Nat) : Fn := ⟨2, 4, false,
 (.cons (.tset [2, 3] (.call f_sure_prime (.cons (.var 0) (.cons (.var 1) .nil))))
 (.cons (.ret (.call f_excess_in (.cons (.var 2) (.cons (.var 3) .nil))))
 .nil))⟩
def F_is_rule (f_is_rule_in : Nat) : Fn := ⟨1, 1, false,
 (.cons (.ret (.call f_is_rule_in (.cons (.var 0) .nil)))
 .nil)⟩
def F_terms (f_terms_in f_sure_within g_MOST_TERM f_sure_rule : Nat) : Fn := ⟨2, 3, false,
 (.cons (.set 2 (.call f_sure_rule (.cons (.var 0) .nil)))
 (.cons (.ret (.call f_terms_in (.cons (.var 2) (.cons (.lit (.str "u")) (.cons (.call f_sure_within (.cons (.var 1) (.cons (.lit (.int 0)) (.cons (.bin .add (.glob g_MOST_TERM) (.lit (.int 1))) .nil)))) .nil)))))
 .nil))⟩
def F_companions (f_terms_in f_sure_within g_MOST_TERM f_sure_rule : Nat) : Fn := ⟨2, 3, false,
 (.cons (.set 2 (.call f_sure_rule (.cons (.var 0) .nil)))
 (.cons (.ret (.call f_terms_in (.cons (.var 2) (.cons (.lit (.str "v")) (.cons (.call f_sure_within (.cons (.var 1) (.cons (.lit (.int 0)) (.cons (.bin .add (.glob g_MOST_TERM) (.lit (.int 1))) .nil)))) .nil)))))
 .nil))⟩
def F_v_mod (f_pair_mod : Nat) : Fn := ⟨3, 5, false,
 (.cons (.tset [3, 4] (.call f_pair_mod (.cons (.var 0) (.cons (.var 1) (.cons (.var 2) .nil)))))
 (.cons (.ret (.bin .mod (.bin .sub (.bin .mul (.lit (.int 2)) (.var 4)) (.bin .mul (.idx (.var 0) (.lit (.int 0))) (.var 3))) (.var 2)))
 .nil))⟩
def F_companion_rest (f_v_mod f_sure_far f_sure_rule : Nat) : Fn := ⟨3, 6, false,
 (.cons (.set 3 (.call f_sure_rule (.cons (.var 0) .nil)))
 (.cons (.tset [4, 5] (.call f_sure_far (.cons (.var 1) (.cons (.var 2) .nil))))
 (.cons (.ret (.call f_v_mod (.cons (.var 3) (.cons (.var 4) (.cons (.var 5) .nil)))))
 .nil)))⟩
def F_pair_rest (f_pair_mod f_sure_far f_sure_rule : Nat) : Fn := ⟨3, 6, false,
 (.cons (.set 3 (.call f_sure_rule (.cons (.var 0) .nil)))
 (.cons (.tset [4, 5] (.call f_sure_far (.cons (.var 1) (.cons (.var 2) .nil))))
 (.cons (.ret (.call f_pair_mod (.cons (.var 3) (.cons (.var 4) (.cons (.var 5) .nil)))))
 .nil)))⟩
def F_power_of : Fn := ⟨2, 4, false,
 (.cons (.set 2 (.lit (.int 1)))
 (.cons (.fr (.rng (.cons (.var 1) .nil)) (.one 3) (.cons (.set 2 (.bin .mul (.var 2) (.var 0)))
  .nil))
 (.cons (.ret (.var 2))
 .nil)))⟩
def F_sides_of_two (f_big_d f_power_of f_terms_in : Nat) : Fn := ⟨4, 6, false,
 (.cons (.par [4, 5] [false, false] (.cons (.call f_terms_in (.cons (.var 1) (.cons (.lit (.str "u")) (.cons (.bin .add (.bin .add (.var 2) (.var 3)) (.lit (.int 3))) .nil)))) (.cons (.call f_terms_in (.cons (.var 1) (.cons (.lit (.str "v")) (.cons (.bin .add (.bin .add (.var 2) (.var 3)) (.lit (.int 3))) .nil)))) .nil)))
 (.cons (.ife (.cmp .eq (.var 0) (.lit (.str "sum"))) (.cons (.ret (.tup (.cons (.idx (.var 4) (.bin .add (.var 2) (.var 3))) (.cons (.bin .sub (.bin .mul (.idx (.var 4) (.var 2)) (.idx (.var 4) (.bin .add (.var 3) (.lit (.int 1))))) (.bin .mul (.bin .mul (.idx (.var 1) (.lit (.int 1))) (.idx (.var 4) (.bin .sub (.var 2) (.lit (.int 1))))) (.idx (.var 4) (.var 3)))) .nil))))
  .nil) .nil)
 (.cons (.ife (.cmp .eq (.var 0) (.lit (.str "apart"))) (.cons (.ret (.tup (.cons (.bin .sub (.bin .mul (.idx (.var 4) (.var 2)) (.idx (.var 4) (.bin .add (.var 3) (.lit (.int 1))))) (.bin .mul (.idx (.var 4) (.bin .add (.var 2) (.lit (.int 1)))) (.idx (.var 4) (.var 3)))) (.cons (.bin .mul (.call f_power_of (.cons (.idx (.var 1) (.lit (.int 1))) (.cons (.var 3) .nil))) (.idx (.var 4) (.bin .sub (.var 2) (.var 3)))) .nil))))
  .nil) .nil)
 (.cons (.ife (.cmp .eq (.var 0) (.lit (.str "cross"))) (.cons (.ret (.tup (.cons (.bin .mul (.lit (.int 2)) (.idx (.var 4) (.bin .add (.var 2) (.var 3)))) (.cons (.bin .add (.bin .mul (.idx (.var 4) (.var 2)) (.idx (.var 5) (.var 3))) (.bin .mul (.idx (.var 4) (.var 3)) (.idx (.var 5) (.var 2)))) .nil))))
  .nil) .nil)
 (.cons (.ret (.tup (.cons (.bin .mul (.lit (.int 2)) (.idx (.var 5) (.bin .add (.var 2) (.var 3)))) (.cons (.bin .add (.bin .mul (.idx (.var 5) (.var 2)) (.idx (.var 5) (.var 3))) (.bin .mul (.bin .mul (.call f_big_d (.cons (.var 1) .nil)) (.idx (.var 4) (.var 2))) (.idx (.var 4) (.var 3)))) .nil))))
 .nil)))))⟩
def F_sides_of_one (f_power_of f_big_d f_terms_in : Nat) : Fn := ⟨3, 5, false,
 (.cons (.par [3, 4] [false, false] (.cons (.call f_terms_in (.cons (.var 1) (.cons (.lit (.str "u")) (.cons (.bin .add (.bin .mul (.lit (.int 2)) (.var 2)) (.lit (.int 3))) .nil)))) (.cons (.call f_terms_in (.cons (.var 1) (.cons (.lit (.str "v")) (.cons (.bin .add (.bin .mul (.lit (.int 2)) (.var 2)) (.lit (.int 3))) .nil)))) .nil)))
 (.cons (.ife (.cmp .eq (.var 0) (.lit (.str "twice"))) (.cons (.ret (.tup (.cons (.idx (.var 3) (.bin .mul (.lit (.int 2)) (.var 2))) (.cons (.bin .mul (.idx (.var 3) (.var 2)) (.idx (.var 4) (.var 2))) .nil))))
  .nil) .nil)
 (.cons (.ife (.cmp .eq (.var 0) (.lit (.str "squares"))) (.cons (.ret (.tup (.cons (.bin .sub (.bin .mul (.idx (.var 4) (.var 2)) (.idx (.var 4) (.var 2))) (.bin .mul (.bin .mul (.call f_big_d (.cons (.var 1) .nil)) (.idx (.var 3) (.var 2))) (.idx (.var 3) (.var 2)))) (.cons (.bin .mul (.lit (.int 4)) (.call f_power_of (.cons (.idx (.var 1) (.lit (.int 1))) (.cons (.var 2) .nil)))) .nil))))
  .nil) .nil)
 (.cons (.ret (.tup (.cons (.bin .sub (.bin .mul (.idx (.var 3) (.var 2)) (.idx (.var 3) (.var 2))) (.bin .mul (.idx (.var 3) (.bin .sub (.var 2) (.lit (.int 1)))) (.idx (.var 3) (.bin .add (.var 2) (.lit (.int 1)))))) (.cons (.call f_power_of (.cons (.idx (.var 1) (.lit (.int 1))) (.cons (.bin .sub (.var 2) (.lit (.int 1))) .nil))) .nil))))
 .nil))))⟩
def F_same_sides (f_sides_of_two f_sides_of_one e_CanNot f_sure_within g_MOST_PLACE g_NAMES e_Unfit f_sure_rule : Nat) : Fn := ⟨4, 7, false,
 (.cons (.set 4 (.call f_sure_rule (.cons (.var 0) .nil)))
 (.cons (.ife (.or (.not (.isin (.var 1) [.str])) (.cmp .nin (.var 1) (.glob g_NAMES))) (.cons (.raise e_Unfit .none)
  .nil) .nil)
 (.cons (.set 5 (.call f_sure_within (.cons (.var 2) (.cons (.lit (.int 0)) (.cons (.glob g_MOST_PLACE) .nil)))))
 (.cons (.set 6 (.call f_sure_within (.cons (.var 3) (.cons (.lit (.int 0)) (.cons (.glob g_MOST_PLACE) .nil)))))
 (.cons (.ife (.or (.and (.cmp .inn (.var 1) (.tup (.cons (.lit (.str "sum")) (.cons (.lit (.str "beside")) .nil)))) (.cmp .eq (.var 5) (.lit (.int 0)))) (.and (.cmp .eq (.var 1) (.lit (.str "apart"))) (.cmp .lt (.var 5) (.var 6)))) (.cons (.raise e_CanNot .none)
  .nil) .nil)
 (.cons (.ife (.cmp .inn (.var 1) (.tup (.cons (.lit (.str "twice")) (.cons (.lit (.str "squares")) (.cons (.lit (.str "beside")) .nil))))) (.cons (.ret (.call f_sides_of_one (.cons (.var 1) (.cons (.var 4) (.cons (.var 5) .nil)))))
  .nil) .nil)
 (.cons (.ret (.call f_sides_of_two (.cons (.var 1) (.cons (.var 4) (.cons (.var 5) (.cons (.var 6) .nil))))))
 .nil)))))))⟩
def F__law_unmarked : Fn := ⟨1, 1, false,
 (.cons (.ife (.and (.isin (.var 0) [.list]) (.and (.cmp .gt (.bf .len (.cons (.var 0) .nil)) (.lit (.int 0))) (.isin (.idx (.var 0) (.lit (.int 0))) [.str]))) (.cons (.ret (.lst (.cons (.lit (.str "told")) (.cons (.lit (.str "a mark")) .nil))))
  .nil) .nil)
 (.cons (.ret (.var 0))
 .nil))⟩
def F__law_power_of : Fn := ⟨2, 4, false,
 (.cons (.set 2 (.lit (.int 1)))
 (.cons (.fr (.rng (.cons (.var 1) .nil)) (.one 3) (.cons (.set 2 (.bin .mul (.var 2) (.var 0)))
  .nil))
 (.cons (.ret (.var 2))
 .nil)))⟩
def F_quotient (e_CanNot f_terms_in f_sure_within g_MOST_TERM f_sure_rule : Nat) : Fn := ⟨3, 7, false,
 (.cons (.set 3 (.call f_sure_rule (.cons (.var 0) .nil)))
 (.cons (.set 4 (.call f_sure_within (.cons (.var 1) (.cons (.lit (.int 1)) (.cons (.glob g_MOST_TERM) .nil)))))
 (.cons (.set 5 (.call f_sure_within (.cons (.var 2) (.cons (.lit (.int 0)) (.cons (.bin .fdiv (.glob g_MOST_TERM) (.var 4)) .nil)))))
 (.cons (.set 6 (.call f_terms_in (.cons (.var 3) (.cons (.lit (.str "u")) (.cons (.bin .add (.bin .mul (.var 4) (.bf .max (.cons (.var 5) (.cons (.lit (.int 1)) .nil)))) (.lit (.int 1))) .nil)))))
 (.cons (.ife (.cmp .eq (.idx (.var 6) (.var 4)) (.lit (.int 0))) (.cons (.raise e_CanNot .none)
  .nil) .nil)
 (.cons (.ret (.bin .fdiv (.idx (.var 6) (.bin .mul (.var 4) (.var 5))) (.idx (.var 6) (.var 4))))
 .nil))))))⟩
def F__law_call : Fn := ⟨2, 2, false,
 (.cons (.ife (.cmp .eq (.bf .len (.cons (.var 1) .nil)) (.lit (.int 1))) (.cons (.ret (.callv 0 (.cons (.idx (.var 1) (.lit (.int 0))) .nil)))
  .nil) .nil)
 (.cons (.ife (.cmp .eq (.bf .len (.cons (.var 1) .nil)) (.lit (.int 2))) (.cons (.ret (.callv 0 (.cons (.idx (.var 1) (.lit (.int 0))) (.cons (.idx (.var 1) (.lit (.int 1))) .nil))))
  .nil) .nil)
 (.cons (.ife (.cmp .eq (.bf .len (.cons (.var 1) .nil)) (.lit (.int 3))) (.cons (.ret (.callv 0 (.cons (.idx (.var 1) (.lit (.int 0))) (.cons (.idx (.var 1) (.lit (.int 1))) (.cons (.idx (.var 1) (.lit (.int 2))) .nil)))))
  .nil) .nil)
 (.cons (.ife (.cmp .eq (.bf .len (.cons (.var 1) .nil)) (.lit (.int 4))) (.cons (.ret (.callv 0 (.cons (.idx (.var 1) (.lit (.int 0))) (.cons (.idx (.var 1) (.lit (.int 1))) (.cons (.idx (.var 1) (.lit (.int 2))) (.cons (.idx (.var 1) (.lit (.int 3))) .nil))))))
  .nil) .nil)
 (.cons (.ife (.cmp .eq (.bf .len (.cons (.var 1) .nil)) (.lit (.int 5))) (.cons (.ret (.callv 0 (.cons (.idx (.var 1) (.lit (.int 0))) (.cons (.idx (.var 1) (.lit (.int 1))) (.cons (.idx (.var 1) (.lit (.int 2))) (.cons (.idx (.var 1) (.lit (.int 3))) (.cons (.idx (.var 1) (.lit (.int 4))) .nil)))))))
  .nil) .nil)
 (.cons (.ret (.callv 0 (.cons (.idx (.var 1) (.lit (.int 0))) (.cons (.idx (.var 1) (.lit (.int 1))) (.cons (.idx (.var 1) (.lit (.int 2))) (.cons (.idx (.var 1) (.lit (.int 3))) (.cons (.idx (.var 1) (.lit (.int 4))) (.cons (.idx (.var 1) (.lit (.int 5))) .nil))))))))
 .nil))))))⟩
def F_sure_odd (e_Unfit f_sure_within : Nat) : Fn := ⟨2, 3, false,
 (.cons (.set 2 (.call f_sure_within (.cons (.var 0) (.cons (.lit (.int 3)) (.cons (.var 1) .nil)))))
 (.cons (.ife (.cmp .eq (.bin .mod (.var 2) (.lit (.int 2))) (.lit (.int 0))) (.cons (.raise e_Unfit .none)
  .nil) .nil)
 (.cons (.ret (.var 2))
 .nil)))⟩
def F_can_look (f_common f_big_d : Nat) : Fn := ⟨2, 2, false,
 (.cons (.ret (.cmp .eq (.call f_common (.cons (.bin .mul (.idx (.var 0) (.lit (.int 1))) (.call f_big_d (.cons (.var 0) .nil))) (.cons (.var 1) .nil))) (.lit (.int 1))))
 .nil)⟩
def F_sure_looked (f_can_look e_CanNot : Nat) : Fn := ⟨2, 2, false,
 (.cons (.ife (.not (.call f_can_look (.cons (.var 0) (.cons (.var 1) .nil)))) (.cons (.raise e_CanNot .none)
  .nil) .nil)
 (.cons (.ret (.var 1))
 .nil))⟩
def F_goal_in (f_jacobi_in f_big_d : Nat) : Fn := ⟨2, 2, false,
 (.cons (.ret (.bin .sub (.var 1) (.call f_jacobi_in (.cons (.call f_big_d (.cons (.var 0) .nil)) (.cons (.var 1) .nil)))))
 .nil)⟩
def F_divides_at (f_pair_mod : Nat) : Fn := ⟨3, 3, false,
 (.cons (.ret (.cmp .eq (.idx (.call f_pair_mod (.cons (.var 0) (.cons (.var 2) (.cons (.var 1) .nil)))) (.lit (.int 0))) (.lit (.int 0))))
 .nil)⟩
def F_looks_in (f_divides_at f_goal_in : Nat) : Fn := ⟨2, 2, false,
 (.cons (.ret (.call f_divides_at (.cons (.var 0) (.cons (.var 1) (.cons (.call f_goal_in (.cons (.var 0) (.cons (.var 1) .nil))) .nil)))))
 .nil)⟩
def F_sign_of (f_jacobi_in f_sure_odd g_MOST_LOOKED f_big_d f_sure_rule : Nat) : Fn := ⟨2, 3, false,
 (.cons (.set 2 (.call f_sure_rule (.cons (.var 0) .nil)))
 (.cons (.ret (.call f_jacobi_in (.cons (.call f_big_d (.cons (.var 2) .nil)) (.cons (.call f_sure_odd (.cons (.var 1) (.cons (.glob g_MOST_LOOKED) .nil))) .nil))))
 .nil))⟩
def F_looks_prime (f_looks_in f_sure_looked f_sure_odd g_MOST_LOOKED f_sure_rule : Nat) : Fn := ⟨2, 3, false,
 (.cons (.set 2 (.call f_sure_rule (.cons (.var 0) .nil)))
 (.cons (.ret (.call f_looks_in (.cons (.var 2) (.cons (.call f_sure_looked (.cons (.var 2) (.cons (.call f_sure_odd (.cons (.var 1) (.cons (.glob g_MOST_LOOKED) .nil))) .nil))) .nil))))
 .nil))⟩
def F_prime_share (f_jacobi_in f_big_d f_first_place_in f_common e_CanNot f_is_prime_in e_Unfit f_sure_within g_MOST_PRIME f_sure_rule : Nat) : Fn := ⟨2, 4, false,
 (.cons (.set 2 (.call f_sure_rule (.cons (.var 0) .nil)))
 (.cons (.set 3 (.call f_sure_within (.cons (.var 1) (.cons (.lit (.int 2)) (.cons (.glob g_MOST_PRIME) .nil)))))
 (.cons (.ife (.not (.call f_is_prime_in (.cons (.var 3) .nil))) (.cons (.raise e_Unfit .none)
  .nil) .nil)
 (.cons (.ife (.cmp .ne (.call f_common (.cons (.bin .mul (.bin .mul (.lit (.int 2)) (.idx (.var 2) (.lit (.int 1)))) (.call f_big_d (.cons (.var 2) .nil))) (.cons (.var 3) .nil))) (.lit (.int 1))) (.cons (.raise e_CanNot .none)
  .nil) .nil)
 (.cons (.ret (.bin .fdiv (.bin .sub (.var 3) (.call f_jacobi_in (.cons (.call f_big_d (.cons (.var 2) .nil)) (.cons (.var 3) .nil)))) (.call f_first_place_in (.cons (.var 2) (.cons (.var 3) .nil)))))
 .nil)))))⟩
def F_power_mod : Fn := ⟨3, 6, false,
 (.cons (.par [3, 4, 5] [false, false, false] (.cons (.bin .mod (.lit (.int 1)) (.var 2)) (.cons (.bin .mod (.var 0) (.var 2)) (.cons (.var 1) .nil))))
 (.cons (.whl (.cmp .gt (.var 5) (.lit (.int 0))) (.cons (.ife (.cmp .eq (.bin .mod (.var 5) (.lit (.int 2))) (.lit (.int 1))) (.cons (.set 3 (.bin .mod (.bin .mul (.var 3) (.var 4)) (.var 2)))
   .nil) .nil)
  (.cons (.par [4, 5] [false, false] (.cons (.bin .mod (.bin .mul (.var 4) (.var 4)) (.var 2)) (.cons (.bin .fdiv (.var 5) (.lit (.int 2))) .nil)))
  .nil)))
 (.cons (.ret (.var 3))
 .nil)))⟩
def F_order_in (f_primes_of f_power_mod f_lcm f_step_order : Nat) : Fn := ⟨2, 5, false,
 (.cons (.set 2 (.lit (.int 1)))
 (.cons (.fr (.of (.call f_primes_of (.cons (.var 1) .nil))) (.many [3, 4]) (.cons (.set 2 (.call f_lcm (.cons (.var 2) (.cons (.call f_step_order (.cons (.var 3) (.cons (.var 4) .nil))) .nil))))
  .nil))
 (.cons (.fr (.of (.call f_primes_of (.cons (.var 2) .nil))) (.many [3, 4]) (.cons (.whl (.and (.cmp .eq (.bin .mod (.var 2) (.var 3)) (.lit (.int 0))) (.cmp .eq (.call f_power_mod (.cons (.var 0) (.cons (.bin .fdiv (.var 2) (.var 3)) (.cons (.var 1) .nil)))) (.bin .mod (.lit (.int 1)) (.var 1)))) (.cons (.set 2 (.bin .fdiv (.var 2) (.var 3)))
   .nil))
  .nil))
 (.cons (.ret (.var 2))
 .nil))))⟩
def F_step_order : Fn := ⟨2, 4, false,
 (.cons (.set 2 (.bin .sub (.var 0) (.lit (.int 1))))
 (.cons (.fr (.rng (.cons (.bin .sub (.var 1) (.lit (.int 1))) .nil)) (.one 3) (.cons (.set 2 (.bin .mul (.var 2) (.var 0)))
  .nil))
 (.cons (.ret (.var 2))
 .nil)))⟩
def F_sure_far_2 (f_sure_within g_MOST_MODULUS_far g_MOST_FAR : Nat) : Fn := ⟨2, 3, false,
 (.cons (.set 2 (.call f_sure_within (.cons (.var 0) (.cons (.lit (.int 0)) (.cons (.glob g_MOST_FAR) .nil)))))
 (.cons (.ret (.tup (.cons (.var 2) (.cons (.call f_sure_within (.cons (.var 1) (.cons (.lit (.int 1)) (.cons (.glob g_MOST_MODULUS_far) .nil)))) .nil))))
 .nil))⟩
def F_sure_coprime (f_common e_CanNot : Nat) : Fn := ⟨2, 2, false,
 (.cons (.ife (.cmp .ne (.call f_common (.cons (.idx (.var 0) (.lit (.int 1))) (.cons (.var 1) .nil))) (.lit (.int 1))) (.cons (.raise e_CanNot .none)
  .nil) .nil)
 (.cons (.ret (.var 1))
 .nil))⟩
def F_multiplier_in (f_pair_mod f_first_place_in : Nat) : Fn := ⟨2, 2, false,
 (.cons (.ret (.idx (.call f_pair_mod (.cons (.var 0) (.cons (.call f_first_place_in (.cons (.var 0) (.cons (.var 1) .nil))) (.cons (.var 1) .nil)))) (.lit (.int 1))))
 .nil)⟩
def F_round_in (f_first_place_in f_order_in f_multiplier_in : Nat) : Fn := ⟨2, 2, false,
 (.cons (.ret (.bin .mul (.call f_first_place_in (.cons (.var 0) (.cons (.var 1) .nil))) (.call f_order_in (.cons (.call f_multiplier_in (.cons (.var 0) (.cons (.var 1) .nil))) (.cons (.var 1) .nil)))))
 .nil)⟩
def F_next_rests : Fn := ⟨3, 3, false,
 (.cons (.ret (.tup (.cons (.idx (.var 2) (.lit (.int 1))) (.cons (.bin .mod (.bin .sub (.bin .mul (.idx (.var 0) (.lit (.int 0))) (.idx (.var 2) (.lit (.int 1)))) (.bin .mul (.idx (.var 0) (.lit (.int 1))) (.idx (.var 2) (.lit (.int 0))))) (.var 1)) .nil))))
 .nil)⟩
def F_round_of (f_round_in f_sure_coprime f_sure_within g_MOST_MODULUS_rounds f_sure_rule : Nat) : Fn := ⟨2, 3, false,
 (.cons (.set 2 (.call f_sure_rule (.cons (.var 0) .nil)))
 (.cons (.ret (.call f_round_in (.cons (.var 2) (.cons (.call f_sure_coprime (.cons (.var 2) (.cons (.call f_sure_within (.cons (.var 1) (.cons (.lit (.int 1)) (.cons (.glob g_MOST_MODULUS_rounds) .nil)))) .nil))) .nil))))
 .nil))⟩
def F_multiplier (f_multiplier_in f_sure_coprime f_sure_within g_MOST_MODULUS_rounds f_sure_rule : Nat) : Fn := ⟨2, 3, false,
 (.cons (.set 2 (.call f_sure_rule (.cons (.var 0) .nil)))
 (.cons (.ret (.call f_multiplier_in (.cons (.var 2) (.cons (.call f_sure_coprime (.cons (.var 2) (.cons (.call f_sure_within (.cons (.var 1) (.cons (.lit (.int 1)) (.cons (.glob g_MOST_MODULUS_rounds) .nil)))) .nil))) .nil))))
 .nil))⟩
def F_round_quotient (f_order_in f_multiplier_in f_sure_coprime f_sure_within g_MOST_MODULUS_rounds f_sure_rule : Nat) : Fn := ⟨2, 4, false,
 (.cons (.set 2 (.call f_sure_rule (.cons (.var 0) .nil)))
 (.cons (.set 3 (.call f_sure_coprime (.cons (.var 2) (.cons (.call f_sure_within (.cons (.var 1) (.cons (.lit (.int 1)) (.cons (.glob g_MOST_MODULUS_rounds) .nil)))) .nil))))
 (.cons (.ret (.call f_order_in (.cons (.call f_multiplier_in (.cons (.var 2) (.cons (.var 3) .nil))) (.cons (.var 3) .nil))))
 .nil)))⟩
def F_round_parts (f_round_in f_primes_of f_power_of f_sure_coprime f_sure_within g_MOST_MODULUS_rounds f_sure_rule : Nat) : Fn := ⟨2, 8, false,
 (.cons (.set 2 (.call f_sure_rule (.cons (.var 0) .nil)))
 (.cons (.set 3 (.call f_sure_coprime (.cons (.var 2) (.cons (.call f_sure_within (.cons (.var 1) (.cons (.lit (.int 1)) (.cons (.glob g_MOST_MODULUS_rounds) .nil)))) .nil))))
 (.cons (.set 4 (.comp [5, 6] (.of (.call f_primes_of (.cons (.var 3) .nil))) (.many [5, 6]) .none (.call f_power_of (.cons (.var 5) (.cons (.var 6) .nil)))))
 (.cons (.ret (.bf .tuple (.cons (.comp [7] (.of (.var 4)) (.one 7) .none (.tup (.cons (.var 7) (.cons (.call f_round_in (.cons (.var 2) (.cons (.var 7) .nil))) .nil)))) .nil)))
 .nil))))⟩
def F_walk_round (f_walk_in f_sure_within g_MOST_WALKED f_sure_rule : Nat) : Fn := ⟨2, 3, false,
 (.cons (.set 2 (.call f_sure_rule (.cons (.var 0) .nil)))
 (.cons (.ret (.call f_walk_in (.cons (.var 2) (.cons (.call f_sure_within (.cons (.var 1) (.cons (.lit (.int 1)) (.cons (.glob g_MOST_WALKED) .nil)))) .nil))))
 .nil))⟩
def F_comes_again (f_pair_mod f_sure_within f_sure_rule : Nat) : Fn := ⟨3, 6, false,
 (.cons (.set 3 (.call f_sure_rule (.cons (.var 0) .nil)))
 (.cons (.set 4 (.call f_sure_within (.cons (.var 1) (.cons (.lit (.int 1)) (.cons (.bin .pow (.lit (.int 10)) (.lit (.int 30))) .nil)))))
 (.cons (.set 5 (.call f_sure_within (.cons (.var 2) (.cons (.lit (.int 1)) (.cons (.bin .pow (.lit (.int 10)) (.lit (.int 18))) .nil)))))
 (.cons (.ret (.cmp .eq (.call f_pair_mod (.cons (.var 3) (.cons (.var 5) (.cons (.var 4) .nil)))) (.tup (.cons (.lit (.int 0)) (.cons (.bin .mod (.lit (.int 1)) (.var 4)) .nil)))))
 .nil))))⟩
def F__law_rule_2 (f__law_take f__law_of : Nat) : Fn := ⟨2, 3, false,
 (.cons (.ife (.cmp .eq (.call f__law_take (.cons (.var 0) (.cons (.lit (.int 3)) .nil))) (.lit (.int 0))) (.cons (.ret (.call f__law_of (.cons (.var 0) (.cons (.lst (.cons (.tup (.cons (.lit (.int 1)) (.cons (.neg (.lit (.int 1))) .nil))) (.cons (.tup (.cons (.lit (.int 2)) (.cons (.neg (.lit (.int 1))) .nil))) (.cons (.tup (.cons (.lit (.int 3)) (.cons (.lit (.int 2)) .nil))) (.cons (.tup (.cons (.lit (.int 3)) (.cons (.lit (.int 1)) .nil))) (.cons (.tup (.cons (.lit (.int 1)) (.cons (.lit (.int 2)) .nil))) (.cons (.tup (.cons (.lit (.int 1)) (.cons (.lit (.int 1)) .nil))) (.cons (.tup (.cons (.lit (.int 2)) (.cons (.lit (.int 1)) .nil))) (.cons (.tup (.cons (.lit (.int 4)) (.cons (.lit (.int 4)) .nil))) (.cons (.tup (.cons (.lit (.int 0)) (.cons (.neg (.lit (.int 1))) .nil))) (.cons (.tup (.cons (.lit (.int 0)) (.cons (.lit (.int 3)) .nil))) (.cons (.tup (.cons (.lit (.int 6)) (.cons (.lit (.int 9)) .nil))) (.cons (.tup (.cons (.lit (.int 1)) (.cons (.neg (.lit (.int 2))) .nil))) (.cons (.tup (.cons (.lit (.int 5)) (.cons (.lit (.int 6)) .nil))) (.cons (.tup (.cons (.neg (.lit (.int 1))) (.cons (.neg (.lit (.int 1))) .nil))) (.cons (.tup (.cons (.lit (.int 3)) (.cons (.neg (.lit (.int 1))) .nil))) (.cons (.tup (.cons (.lit (.int 4)) (.cons (.lit (.int 1)) .nil))) .nil))))))))))))))))) .nil))))
  .nil) .nil)
 (.cons (.set 2 (.bin .add (.lit (.int 1)) (.call f__law_take (.cons (.var 0) (.cons (.var 1) .nil)))))
 (.cons (.ret (.tup (.cons (.bin .sub (.call f__law_take (.cons (.var 0) (.cons (.bin .add (.bin .mul (.lit (.int 2)) (.var 1)) (.lit (.int 1))) .nil))) (.var 1)) (.cons (.ite (.cmp .eq (.call f__law_take (.cons (.var 0) (.cons (.lit (.int 2)) .nil))) (.lit (.int 0))) (.var 2) (.neg (.var 2))) .nil))))
 .nil)))⟩
def F__law_gcd : Fn := ⟨2, 3, false,
 (.cons (.par [0, 1] [false, false] (.cons (.bf .abs (.cons (.var 0) .nil)) (.cons (.bf .abs (.cons (.var 1) .nil)) .nil)))
 (.cons (.fr (.rng (.cons (.lit (.int 100000)) .nil)) (.one 2) (.cons (.ife (.cmp .eq (.var 1) (.lit (.int 0))) (.cons (.brk)
   .nil) .nil)
  (.cons (.par [0, 1] [false, false] (.cons (.var 1) (.cons (.bin .mod (.var 0) (.var 1)) .nil)))
  .nil)))
 (.cons (.ret (.var 0))
 .nil)))⟩
def F__law_primes_2 : Fn := ⟨1, 5, false,
 (.cons (.par [2, 3, 4] [true, false, false] (.cons (.lst .nil) (.cons (.var 0) (.cons (.lit (.int 2)) .nil))))
 (.cons (.fr (.rng (.cons (.lit (.int 2000000)) .nil)) (.one 1) (.cons (.ife (.cmp .gt (.bin .mul (.var 4) (.var 4)) (.var 3)) (.cons (.brk)
   .nil) .nil)
  (.cons (.ife (.cmp .eq (.bin .mod (.var 3) (.var 4)) (.lit (.int 0))) (.cons (.expr (.app (.var 2) (.var 4)))
   (.cons (.set 3 (.bin .fdiv (.var 3) (.var 4)))
   .nil)) (.cons (.set 4 (.bin .add (.var 4) (.lit (.int 1))))
   .nil))
  .nil)))
 (.cons (.ret (.bin .add (.var 2) (.ite (.cmp .gt (.var 3) (.lit (.int 1))) (.lst (.cons (.var 3) .nil)) (.lst .nil))))
 .nil)))⟩
def F__law_pairs : Fn := ⟨3, 7, false,
 (.cons (.setC 3 (.lst (.cons (.tup (.cons (.lit (.int 0)) (.cons (.bin .mod (.lit (.int 1)) (.var 1)) .nil))) .nil)))
 (.cons (.fr (.rng (.cons (.bin .sub (.var 2) (.lit (.int 1))) .nil)) (.one 4) (.cons (.tset [5, 6] (.idx (.var 3) (.neg (.lit (.int 1)))))
  (.cons (.expr (.app (.var 3) (.tup (.cons (.var 6) (.cons (.bin .mod (.bin .sub (.bin .mul (.idx (.var 0) (.lit (.int 0))) (.var 6)) (.bin .mul (.idx (.var 0) (.lit (.int 1))) (.var 5))) (.var 1)) .nil)))))
  .nil)))
 (.cons (.ret (.var 3))
 .nil)))⟩
def F__law_first_2 : Fn := ⟨3, 6, false,
 (.cons (.par [4, 5] [false, false] (.cons (.bin .mod (.lit (.int 1)) (.var 1)) (.cons (.bin .mod (.idx (.var 0) (.lit (.int 0))) (.var 1)) .nil)))
 (.cons (.fr (.rng (.cons (.lit (.int 1)) (.cons (.bin .add (.var 2) (.lit (.int 1))) .nil))) (.one 3) (.cons (.ife (.cmp .eq (.var 4) (.lit (.int 0))) (.cons (.ret (.var 3))
   .nil) .nil)
  (.cons (.par [4, 5] [false, false] (.cons (.var 5) (.cons (.bin .mod (.bin .sub (.bin .mul (.idx (.var 0) (.lit (.int 0))) (.var 5)) (.bin .mul (.idx (.var 0) (.lit (.int 1))) (.var 4))) (.var 1)) .nil)))
  .nil)))
 (.cons (.ret (.lit (.non)))
 .nil)))⟩
def F__law_raised : Fn := ⟨3, 7, false,
 (.cons (.par [4, 5, 6] [false, false, false] (.cons (.bin .mod (.lit (.int 1)) (.var 2)) (.cons (.bin .mod (.var 0) (.var 2)) (.cons (.var 1) .nil))))
 (.cons (.fr (.rng (.cons (.lit (.int 200)) .nil)) (.one 3) (.cons (.ife (.cmp .eq (.var 6) (.lit (.int 0))) (.cons (.brk)
   .nil) .nil)
  (.cons (.ife (.cmp .eq (.bin .mod (.var 6) (.lit (.int 2))) (.lit (.int 1))) (.cons (.set 4 (.bin .mod (.bin .mul (.var 4) (.var 5)) (.var 2)))
   .nil) .nil)
  (.cons (.par [5, 6] [false, false] (.cons (.bin .mod (.bin .mul (.var 5) (.var 5)) (.var 2)) (.cons (.bin .fdiv (.var 6) (.lit (.int 2))) .nil)))
  .nil))))
 (.cons (.ret (.var 4))
 .nil)))⟩
def F__law_calls : Fn := ⟨2, 2, false,
 (.cons (.ife (.cmp .eq (.bf .len (.cons (.var 1) .nil)) (.lit (.int 1))) (.cons (.ret (.callv 0 (.cons (.idx (.var 1) (.lit (.int 0))) .nil)))
  .nil) .nil)
 (.cons (.ife (.cmp .eq (.bf .len (.cons (.var 1) .nil)) (.lit (.int 2))) (.cons (.ret (.callv 0 (.cons (.idx (.var 1) (.lit (.int 0))) (.cons (.idx (.var 1) (.lit (.int 1))) .nil))))
  .nil) .nil)
 (.cons (.ife (.cmp .eq (.bf .len (.cons (.var 1) .nil)) (.lit (.int 3))) (.cons (.ret (.callv 0 (.cons (.idx (.var 1) (.lit (.int 0))) (.cons (.idx (.var 1) (.lit (.int 1))) (.cons (.idx (.var 1) (.lit (.int 2))) .nil)))))
  .nil) .nil)
 (.cons (.ret (.callv 0 (.cons (.idx (.var 1) (.lit (.int 0))) (.cons (.idx (.var 1) (.lit (.int 1))) (.cons (.idx (.var 1) (.lit (.int 2))) (.cons (.idx (.var 1) (.lit (.int 3))) .nil))))))
 .nil))))⟩
def F_law (f__law_right f__law_box f__law_cells : Nat) : Fn := ⟨1, 5, false,
 (.cons (.set 1 (.call f__law_cells (.cons (.var 0) (.cons (.lit (.int 2)) .nil))))
 (.cons (.fr (.rng (.cons (.bf .len (.cons (.var 1) .nil)) .nil)) (.one 2) (.cons (.set 3 (.call f__law_box (.cons (.var 1) (.cons (.var 2) .nil))))
  (.cons (.ife (.not (.bf .all (.cons (.comp [4] (.rng (.cons (.lit (.int 4)) .nil)) (.one 4) .none (.call f__law_right (.cons (.var 3) .nil))) .nil))) (.cons (.ret (.lit (.bl false)))
   .nil) .nil)
  .nil)))
 (.cons (.ret (.lit (.bl true)))
 .nil)))⟩
def F_ascends : Fn := ⟨1, 3, false,
 (.cons (.ret (.bf .all (.cons (.comp [1, 2] (.zip (.var 0) (.sl (.var 0) (.some (.lit (.int 1))) .none)) (.many [1, 2]) .none (.cmp .lt (.var 1) (.var 2))) .nil)))
 .nil)⟩
def F_proves (f_divides_at f_goal_in : Nat) : Fn := ⟨3, 5, false,
 (.cons (.set 3 (.call f_goal_in (.cons (.var 0) (.cons (.var 1) .nil))))
 (.cons (.ife (.not (.call f_divides_at (.cons (.var 0) (.cons (.var 1) (.cons (.var 3) .nil))))) (.cons (.ret (.lit (.bl false)))
  .nil) .nil)
 (.cons (.ret (.not (.bf .any (.cons (.comp [4] (.of (.var 2)) (.one 4) .none (.call f_divides_at (.cons (.var 0) (.cons (.var 1) (.cons (.bin .fdiv (.var 3) (.var 4)) .nil))))) .nil))))
 .nil)))⟩
def F_goal_primes (f_primes_of f_goal_in : Nat) : Fn := ⟨2, 4, false,
 (.cons (.ret (.bf .tuple (.cons (.comp [2, 3] (.of (.call f_primes_of (.cons (.call f_goal_in (.cons (.var 0) (.cons (.var 1) .nil))) .nil))) (.many [2, 3]) .none (.var 2)) .nil)))
 .nil)⟩
def F_rests_in (f_next_rests f_walk_in : Nat) : Fn := ⟨2, 7, false,
 (.cons (.tset [3, 4] (.call f_walk_in (.cons (.var 0) (.cons (.var 1) .nil))))
 (.cons (.par [5, 6] [false, true] (.cons (.tup (.cons (.lit (.int 0)) (.cons (.bin .mod (.lit (.int 1)) (.var 1)) .nil))) (.cons (.lst .nil) .nil)))
 (.cons (.fr (.rng (.cons (.bin .add (.var 3) (.var 4)) .nil)) (.one 2) (.cons (.expr (.app (.var 6) (.idx (.var 5) (.lit (.int 0)))))
  (.cons (.set 5 (.call f_next_rests (.cons (.var 0) (.cons (.var 1) (.cons (.var 5) .nil)))))
  .nil)))
 (.cons (.ret (.tup (.cons (.var 3) (.cons (.var 6) .nil))))
 .nil))))⟩
def F_is_claim_in (f_common f_is_within g_MOST_PLACE g_MOST_MODULUS_judge g_MOST_WALKED f_can_look f_is_rule_in g_LENGTHS : Nat) : Fn := ⟨1, 1, false,
 (.cons (.ife (.or (.not (.isin (.var 0) [.tuple])) (.or (.cmp .eq (.var 0) (.tup .nil)) (.or (.not (.isin (.idx (.var 0) (.lit (.int 0))) [.str])) (.cmp .nin (.idx (.var 0) (.lit (.int 0))) (.glob g_LENGTHS))))) (.cons (.ret (.lit (.bl false)))
  .nil) .nil)
 (.cons (.ife (.or (.cmp .ne (.bf .len (.cons (.var 0) .nil)) (.idx (.glob g_LENGTHS) (.idx (.var 0) (.lit (.int 0))))) (.not (.call f_is_rule_in (.cons (.idx (.var 0) (.lit (.int 1))) .nil)))) (.cons (.ret (.lit (.bl false)))
  .nil) .nil)
 (.cons (.ife (.cmp .eq (.idx (.var 0) (.lit (.int 0))) (.lit (.str "prime"))) (.cons (.ret (.and (.call f_is_within (.cons (.idx (.var 0) (.lit (.int 2))) (.cons (.lit (.int 3)) (.cons (.glob g_MOST_PLACE) .nil)))) (.and (.cmp .eq (.bin .mod (.idx (.var 0) (.lit (.int 2))) (.lit (.int 2))) (.lit (.int 1))) (.call f_can_look (.cons (.idx (.var 0) (.lit (.int 1))) (.cons (.idx (.var 0) (.lit (.int 2))) .nil))))))
  .nil) .nil)
 (.cons (.ife (.cmp .eq (.idx (.var 0) (.lit (.int 0))) (.lit (.str "never"))) (.cons (.ret (.and (.call f_is_within (.cons (.idx (.var 0) (.lit (.int 2))) (.cons (.lit (.int 1)) (.cons (.glob g_MOST_WALKED) .nil)))) (.call f_is_within (.cons (.idx (.var 0) (.lit (.int 3))) (.cons (.lit (.int 0)) (.cons (.bin .sub (.idx (.var 0) (.lit (.int 2))) (.lit (.int 1))) .nil))))))
  .nil) .nil)
 (.cons (.ife (.or (.not (.call f_is_within (.cons (.idx (.var 0) (.lit (.int 2))) (.cons (.lit (.int 1)) (.cons (.glob g_MOST_MODULUS_judge) .nil))))) (.not (.call f_is_within (.cons (.idx (.var 0) (.lit (.int 3))) (.cons (.lit (.int 1)) (.cons (.glob g_MOST_PLACE) .nil)))))) (.cons (.ret (.lit (.bl false)))
  .nil) .nil)
 (.cons (.ret (.or (.cmp .eq (.idx (.var 0) (.lit (.int 0))) (.lit (.str "divides"))) (.cmp .eq (.call f_common (.cons (.idx (.idx (.var 0) (.lit (.int 1))) (.lit (.int 1))) (.cons (.idx (.var 0) (.lit (.int 2))) .nil))) (.lit (.int 1)))))
 .nil))))))⟩
def F_sure_claim (f_is_claim_in e_Unfit f_tupled : Nat) : Fn := ⟨1, 2, false,
 (.cons (.set 1 (.call f_tupled (.cons (.var 0) .nil)))
 (.cons (.ife (.not (.call f_is_claim_in (.cons (.var 1) .nil))) (.cons (.raise e_Unfit .none)
  .nil) .nil)
 (.cons (.ret (.var 1))
 .nil)))⟩
def F_stands_at (f_pair_mod : Nat) : Fn := ⟨4, 6, false,
 (.cons (.tset [4, 5] (.call f_pair_mod (.cons (.var 1) (.cons (.var 3) (.cons (.var 2) .nil)))))
 (.cons (.ret (.and (.cmp .eq (.var 4) (.lit (.int 0))) (.or (.cmp .ne (.var 0) (.lit (.str "round"))) (.cmp .eq (.var 5) (.bin .mod (.lit (.int 1)) (.var 2))))))
 .nil))⟩
def F_primes_in (f_primes_of : Nat) : Fn := ⟨1, 3, false,
 (.cons (.ret (.bf .tuple (.cons (.comp [1, 2] (.of (.call f_primes_of (.cons (.var 0) .nil))) (.many [1, 2]) .none (.var 1)) .nil)))
 .nil)⟩
def F_holds_in (f_first_place_in f_round_in f_stands_at f_never_in f_is_prime_in : Nat) : Fn := ⟨1, 4, false,
 (.cons (.tset [1, 2, 3] (.sl (.var 0) .none (.some (.lit (.int 3)))))
 (.cons (.ife (.cmp .eq (.var 1) (.lit (.str "prime"))) (.cons (.ret (.call f_is_prime_in (.cons (.var 3) .nil)))
  .nil) .nil)
 (.cons (.ife (.cmp .eq (.var 1) (.lit (.str "never"))) (.cons (.ret (.cmp .inn (.idx (.var 0) (.lit (.int 3))) (.call f_never_in (.cons (.var 2) (.cons (.var 3) .nil)))))
  .nil) .nil)
 (.cons (.ife (.cmp .eq (.var 1) (.lit (.str "divides"))) (.cons (.ret (.call f_stands_at (.cons (.var 1) (.cons (.var 2) (.cons (.var 3) (.cons (.idx (.var 0) (.lit (.int 3))) .nil))))))
  .nil) .nil)
 (.cons (.ret (.cmp .eq (.idx (.var 0) (.lit (.int 3))) (.ite (.cmp .eq (.var 1) (.lit (.str "first"))) (.call f_first_place_in (.cons (.var 2) (.cons (.var 3) .nil))) (.call f_round_in (.cons (.var 2) (.cons (.var 3) .nil))))))
 .nil)))))⟩
def F_is_least_by (f_stands_at f_primes_in f_ascends f_are_numbers : Nat) : Fn := ⟨2, 7, false,
 (.cons (.tset [2, 3, 4, 5] (.var 0))
 (.cons (.ife (.or (.not (.call f_are_numbers (.cons (.var 1) .nil))) (.or (.not (.call f_ascends (.cons (.var 1) .nil))) (.cmp .ne (.var 1) (.call f_primes_in (.cons (.var 5) .nil))))) (.cons (.ret (.lit (.bl false)))
  .nil) .nil)
 (.cons (.ife (.not (.call f_stands_at (.cons (.var 2) (.cons (.var 3) (.cons (.var 4) (.cons (.var 5) .nil)))))) (.cons (.ret (.lit (.bl false)))
  .nil) .nil)
 (.cons (.ret (.not (.bf .any (.cons (.comp [6] (.of (.var 1)) (.one 6) .none (.call f_stands_at (.cons (.var 2) (.cons (.var 3) (.cons (.var 4) (.cons (.bin .fdiv (.var 5) (.var 6)) .nil)))))) .nil))))
 .nil))))⟩
def F_is_reason_in (f_is_least_by f_stands_at f_is_within f_walk_in f_are_numbers f_holds_in f_proves f_goal_primes f_ascends : Nat) : Fn := ⟨2, 5, false,
 (.cons (.tset [2, 3, 4] (.sl (.var 0) .none (.some (.lit (.int 3)))))
 (.cons (.ife (.cmp .eq (.var 2) (.lit (.str "prime"))) (.cons (.ret (.and (.call f_are_numbers (.cons (.var 1) .nil)) (.and (.call f_ascends (.cons (.var 1) .nil)) (.and (.cmp .eq (.var 1) (.call f_goal_primes (.cons (.var 3) (.cons (.var 4) .nil)))) (.call f_proves (.cons (.var 3) (.cons (.var 4) (.cons (.var 1) .nil))))))))
  .nil) .nil)
 (.cons (.ife (.cmp .eq (.var 2) (.lit (.str "never"))) (.cons (.ret (.and (.call f_holds_in (.cons (.var 0) .nil)) (.and (.call f_are_numbers (.cons (.var 1) .nil)) (.cmp .eq (.var 1) (.call f_walk_in (.cons (.var 3) (.cons (.var 4) .nil)))))))
  .nil) .nil)
 (.cons (.ife (.cmp .eq (.var 2) (.lit (.str "divides"))) (.cons (.ret (.and (.call f_is_within (.cons (.var 1) (.cons (.lit (.int 1)) (.cons (.idx (.var 0) (.lit (.int 3))) .nil)))) (.and (.cmp .eq (.bin .mod (.idx (.var 0) (.lit (.int 3))) (.var 1)) (.lit (.int 0))) (.call f_stands_at (.cons (.var 2) (.cons (.var 3) (.cons (.var 4) (.cons (.var 1) .nil))))))))
  .nil) .nil)
 (.cons (.ret (.call f_is_least_by (.cons (.var 0) (.cons (.var 1) .nil))))
 .nil)))))⟩
def F_is_place_paper (f_stands_at f_is_within f_is_long f_pair_mod f_are_numbers : Nat) : Fn := ⟨2, 6, false,
 (.cons (.tset [2, 3, 4, 5] (.var 0))
 (.cons (.ife (.or (.not (.isin (.var 1) [.tuple])) (.or (.cmp .eq (.var 1) (.tup .nil)) (.not (.isin (.idx (.var 1) (.lit (.int 0))) [.str])))) (.cons (.ret (.lit (.bl false)))
  .nil) .nil)
 (.cons (.ife (.cmp .eq (.idx (.var 1) (.lit (.int 0))) (.lit (.str "rest"))) (.cons (.ife (.or (.not (.call f_is_long (.cons (.var 1) (.cons (.lit (.int 3)) .nil)))) (.or (.not (.call f_are_numbers (.cons (.sl (.var 1) (.some (.lit (.int 1))) .none) .nil))) (.call f_stands_at (.cons (.var 2) (.cons (.var 3) (.cons (.var 4) (.cons (.var 5) .nil))))))) (.cons (.ret (.lit (.bl false)))
   .nil) .nil)
  (.cons (.ret (.cmp .eq (.sl (.var 1) (.some (.lit (.int 1))) .none) (.call f_pair_mod (.cons (.var 3) (.cons (.var 5) (.cons (.var 4) .nil))))))
  .nil)) .nil)
 (.cons (.ife (.or (.cmp .ne (.idx (.var 1) (.lit (.int 0))) (.lit (.str "less"))) (.or (.not (.call f_is_long (.cons (.var 1) (.cons (.lit (.int 2)) .nil)))) (.not (.call f_is_within (.cons (.idx (.var 1) (.lit (.int 1))) (.cons (.lit (.int 1)) (.cons (.bin .sub (.var 5) (.lit (.int 1))) .nil))))))) (.cons (.ret (.lit (.bl false)))
  .nil) .nil)
 (.cons (.ret (.call f_stands_at (.cons (.var 2) (.cons (.var 3) (.cons (.var 4) (.cons (.idx (.var 1) (.lit (.int 1))) .nil))))))
 .nil)))))⟩
def F_is_paper_in (f_is_place_paper f_pair_mod f_is_number f_is_within f_looks_in : Nat) : Fn := ⟨2, 5, false,
 (.cons (.tset [2, 3, 4] (.sl (.var 0) .none (.some (.lit (.int 3)))))
 (.cons (.ife (.cmp .eq (.var 2) (.lit (.str "prime"))) (.cons (.ret (.or (.and (.call f_is_within (.cons (.var 1) (.cons (.lit (.int 2)) (.cons (.bin .sub (.var 4) (.lit (.int 1))) .nil)))) (.cmp .eq (.bin .mod (.var 4) (.var 1)) (.lit (.int 0)))) (.and (.cmp .eq (.var 1) (.lit (.str "rest"))) (.not (.call f_looks_in (.cons (.var 3) (.cons (.var 4) .nil)))))))
  .nil) .nil)
 (.cons (.ife (.cmp .eq (.var 2) (.lit (.str "never"))) (.cons (.ret (.and (.call f_is_within (.cons (.var 1) (.cons (.lit (.int 0)) (.cons (.bin .pow (.lit (.int 10)) (.lit (.int 18))) .nil)))) (.cmp .eq (.idx (.call f_pair_mod (.cons (.var 3) (.cons (.var 1) (.cons (.var 4) .nil)))) (.lit (.int 0))) (.idx (.var 0) (.lit (.int 3))))))
  .nil) .nil)
 (.cons (.ife (.cmp .eq (.var 2) (.lit (.str "divides"))) (.cons (.ret (.and (.call f_is_number (.cons (.var 1) .nil)) (.and (.cmp .ne (.var 1) (.lit (.int 0))) (.cmp .eq (.var 1) (.idx (.call f_pair_mod (.cons (.var 3) (.cons (.idx (.var 0) (.lit (.int 3))) (.cons (.var 4) .nil)))) (.lit (.int 0)))))))
  .nil) .nil)
 (.cons (.ret (.call f_is_place_paper (.cons (.var 0) (.cons (.var 1) .nil))))
 .nil)))))⟩
def F_claim_holds (f_holds_in f_sure_claim : Nat) : Fn := ⟨1, 1, false,
 (.cons (.ret (.call f_holds_in (.cons (.call f_sure_claim (.cons (.var 0) .nil)) .nil)))
 .nil)⟩
def F_is_claim_reason (f_is_reason_in f_sure_claim : Nat) : Fn := ⟨2, 2, false,
 (.cons (.ret (.call f_is_reason_in (.cons (.call f_sure_claim (.cons (.var 0) .nil)) (.cons (.var 1) .nil))))
 .nil)⟩
def F_is_claim_paper (f_is_paper_in f_sure_claim : Nat) : Fn := ⟨2, 2, false,
 (.cons (.ret (.call f_is_paper_in (.cons (.call f_sure_claim (.cons (.var 0) .nil)) (.cons (.var 1) .nil))))
 .nil)⟩
def F__law_far_2 (f__law_table_times : Nat) : Fn := ⟨3, 7, false,
 (.cons (.par [4, 5, 6] [false, false, false] (.cons (.tup (.cons (.bin .mod (.idx (.var 0) (.lit (.int 0))) (.var 2)) (.cons (.bin .mod (.neg (.idx (.var 0) (.lit (.int 1)))) (.var 2)) (.cons (.bin .mod (.lit (.int 1)) (.var 2)) (.cons (.lit (.int 0)) .nil))))) (.cons (.tup (.cons (.bin .mod (.lit (.int 1)) (.var 2)) (.cons (.lit (.int 0)) (.cons (.lit (.int 0)) (.cons (.bin .mod (.lit (.int 1)) (.var 2)) .nil))))) (.cons (.var 1) .nil))))
 (.cons (.fr (.rng (.cons (.lit (.int 130)) .nil)) (.one 3) (.cons (.ife (.cmp .eq (.var 6) (.lit (.int 0))) (.cons (.brk)
   .nil) .nil)
  (.cons (.ife (.cmp .eq (.bin .mod (.var 6) (.lit (.int 2))) (.lit (.int 1))) (.cons (.set 5 (.call f__law_table_times (.cons (.var 5) (.cons (.var 4) (.cons (.var 2) .nil)))))
   .nil) .nil)
  (.cons (.par [4, 6] [false, false] (.cons (.call f__law_table_times (.cons (.var 4) (.cons (.var 4) (.cons (.var 2) .nil)))) (.cons (.bin .fdiv (.var 6) (.lit (.int 2))) .nil)))
  .nil))))
 (.cons (.ret (.tup (.cons (.idx (.var 5) (.lit (.int 2))) (.cons (.idx (.var 5) (.lit (.int 0))) .nil))))
 .nil)))⟩
def F__law_table_times : Fn := ⟨3, 11, false,
 (.cons (.tset [3, 4, 5, 6] (.var 0))
 (.cons (.tset [7, 8, 9, 10] (.var 1))
 (.cons (.ret (.tup (.cons (.bin .mod (.bin .add (.bin .mul (.var 3) (.var 7)) (.bin .mul (.var 4) (.var 9))) (.var 2)) (.cons (.bin .mod (.bin .add (.bin .mul (.var 3) (.var 8)) (.bin .mul (.var 4) (.var 10))) (.var 2)) (.cons (.bin .mod (.bin .add (.bin .mul (.var 5) (.var 7)) (.bin .mul (.var 6) (.var 9))) (.var 2)) (.cons (.bin .mod (.bin .add (.bin .mul (.var 5) (.var 8)) (.bin .mul (.var 6) (.var 10))) (.var 2)) .nil))))))
 .nil)))⟩
def F_law_2 (f__law_right f__law_box f__law_cells : Nat) : Fn := ⟨1, 5, false,
 (.cons (.set 1 (.call f__law_cells (.cons (.var 0) (.cons (.lit (.int 2)) .nil))))
 (.cons (.fr (.rng (.cons (.bf .len (.cons (.var 1) .nil)) .nil)) (.one 2) (.cons (.set 3 (.call f__law_box (.cons (.var 1) (.cons (.var 2) .nil))))
  (.cons (.ife (.not (.bf .all (.cons (.comp [4] (.rng (.cons (.lit (.int 2)) .nil)) (.one 4) .none (.call f__law_right (.cons (.var 3) .nil))) .nil))) (.cons (.ret (.lit (.bl false)))
   .nil) .nil)
  .nil)))
 (.cons (.ret (.lit (.bl true)))
 .nil)))⟩
def F_divisors_in (f_primes_of : Nat) : Fn := ⟨1, 7, false,
 (.cons (.set 1 (.lst (.cons (.lit (.int 1)) .nil)))
 (.cons (.fr (.of (.call f_primes_of (.cons (.var 0) .nil))) (.many [2, 3]) (.cons (.setC 4 (.lst .nil))
  (.cons (.fr (.of (.var 1)) (.one 5) (.cons (.fr (.rng (.cons (.bin .add (.var 3) (.lit (.int 1))) .nil)) (.one 6) (.cons (.expr (.app (.var 4) (.var 5)))
    (.cons (.set 5 (.bin .mul (.var 5) (.var 2)))
    .nil)))
   .nil))
  (.cons (.set 1 (.var 4))
  .nil))))
 (.cons (.ret (.bf .sorted (.cons (.var 1) .nil)))
 .nil)))⟩
def F_sure_plain (f_is_plain_in e_Unfit f_sure_rule : Nat) : Fn := ⟨1, 2, false,
 (.cons (.set 1 (.call f_sure_rule (.cons (.var 0) .nil)))
 (.cons (.ife (.not (.call f_is_plain_in (.cons (.var 1) .nil))) (.cons (.raise e_Unfit .none)
  .nil) .nil)
 (.cons (.ret (.var 1))
 .nil)))⟩
def F_freed (f_common : Nat) : Fn := ⟨2, 4, false,
 (.cons (.par [2, 3] [false, false] (.cons (.var 0) (.cons (.call f_common (.cons (.var 0) (.cons (.var 1) .nil))) .nil)))
 (.cons (.whl (.cmp .gt (.var 3) (.lit (.int 1))) (.cons (.set 2 (.bin .fdiv (.var 2) (.var 3)))
  (.cons (.set 3 (.call f_common (.cons (.var 2) (.cons (.var 1) .nil))))
  .nil)))
 (.cons (.ret (.var 2))
 .nil)))⟩
def F_new_part_in (f_divisors_in f_freed e_CanNot f_terms_in : Nat) : Fn := ⟨2, 5, false,
 (.cons (.set 2 (.call f_terms_in (.cons (.var 0) (.cons (.lit (.str "u")) (.cons (.bin .add (.var 1) (.lit (.int 1))) .nil)))))
 (.cons (.set 3 (.bf .abs (.cons (.idx (.var 2) (.var 1)) .nil)))
 (.cons (.ife (.cmp .eq (.var 3) (.lit (.int 0))) (.cons (.raise e_CanNot .none)
  .nil) .nil)
 (.cons (.fr (.of (.call f_divisors_in (.cons (.var 1) .nil))) (.one 4) (.cons (.ife (.cmp .lt (.var 4) (.var 1)) (.cons (.set 3 (.call f_freed (.cons (.var 3) (.cons (.idx (.var 2) (.var 4)) .nil))))
   .nil) .nil)
  .nil))
 (.cons (.ret (.var 3))
 .nil)))))⟩
def F_sure_number (f_sure_within g_MOST_NUMBER : Nat) : Fn := ⟨1, 1, false,
 (.cons (.ret (.call f_sure_within (.cons (.var 0) (.cons (.lit (.int 1)) (.cons (.glob g_MOST_NUMBER) .nil)))))
 .nil)⟩
def F_new_part (f_new_part_in f_sure_number f_sure_plain : Nat) : Fn := ⟨2, 3, false,
 (.cons (.set 2 (.call f_sure_plain (.cons (.var 0) .nil)))
 (.cons (.ret (.call f_new_part_in (.cons (.var 2) (.cons (.call f_sure_number (.cons (.var 1) .nil)) .nil))))
 .nil))⟩
def F_old_part (f_terms_in f_new_part_in f_sure_number f_sure_plain : Nat) : Fn := ⟨2, 5, false,
 (.cons (.set 2 (.call f_sure_plain (.cons (.var 0) .nil)))
 (.cons (.set 3 (.call f_sure_number (.cons (.var 1) .nil)))
 (.cons (.set 4 (.call f_new_part_in (.cons (.var 2) (.cons (.var 3) .nil))))
 (.cons (.ret (.bin .fdiv (.bf .abs (.cons (.idx (.call f_terms_in (.cons (.var 2) (.cons (.lit (.str "u")) (.cons (.bin .add (.var 3) (.lit (.int 1))) .nil)))) (.var 3)) .nil)) (.var 4)))
 .nil))))⟩
def F_has_new_prime (f_new_part_in f_sure_number f_sure_plain : Nat) : Fn := ⟨2, 3, false,
 (.cons (.set 2 (.call f_sure_plain (.cons (.var 0) .nil)))
 (.cons (.ret (.cmp .gt (.call f_new_part_in (.cons (.var 2) (.cons (.call f_sure_number (.cons (.var 1) .nil)) .nil))) (.lit (.int 1))))
 .nil))⟩
def F_new_primes (f_primes_of g_MOST_PARTED e_TooMany f_new_part_in f_sure_number f_sure_plain : Nat) : Fn := ⟨2, 6, false,
 (.cons (.set 2 (.call f_sure_plain (.cons (.var 0) .nil)))
 (.cons (.set 3 (.call f_new_part_in (.cons (.var 2) (.cons (.call f_sure_number (.cons (.var 1) .nil)) .nil))))
 (.cons (.ife (.cmp .gt (.var 3) (.glob g_MOST_PARTED)) (.cons (.raise e_TooMany .none)
  .nil) .nil)
 (.cons (.ret (.bf .tuple (.cons (.comp [4, 5] (.of (.call f_primes_of (.cons (.var 3) .nil))) (.many [4, 5]) .none (.var 4)) .nil)))
 .nil))))⟩
def F__law_terms : Fn := ⟨3, 5, false,
 (.cons (.setC 3 (.ite (.cmp .eq (.var 1) (.lit (.str "u"))) (.lst (.cons (.lit (.int 0)) (.cons (.lit (.int 1)) .nil))) (.lst (.cons (.lit (.int 2)) (.cons (.idx (.var 0) (.lit (.int 0))) .nil)))))
 (.cons (.fr (.rng (.cons (.var 2) .nil)) (.one 4) (.cons (.expr (.app (.var 3) (.bin .sub (.bin .mul (.idx (.var 0) (.lit (.int 0))) (.idx (.var 3) (.neg (.lit (.int 1))))) (.bin .mul (.idx (.var 0) (.lit (.int 1))) (.idx (.var 3) (.neg (.lit (.int 2))))))))
  .nil))
 (.cons (.ret (.sl (.var 3) .none (.some (.var 2))))
 .nil)))⟩
def F__law_struck (f__law_gcd : Nat) : Fn := ⟨2, 4, false,
 (.cons (.fr (.rng (.cons (.lit (.int 2000)) .nil)) (.one 2) (.cons (.set 3 (.call f__law_gcd (.cons (.var 0) (.cons (.var 1) .nil))))
  (.cons (.ife (.cmp .eq (.var 3) (.lit (.int 1))) (.cons (.brk)
   .nil) .nil)
  (.cons (.set 0 (.bin .fdiv (.var 0) (.var 3)))
  .nil))))
 (.cons (.ret (.var 0))
 .nil))⟩
def F_law_3 (f__law_right f__law_box f__law_cells : Nat) : Fn := ⟨1, 5, false,
 (.cons (.set 1 (.call f__law_cells (.cons (.var 0) (.cons (.lit (.int 2)) .nil))))
 (.cons (.fr (.rng (.cons (.bf .len (.cons (.var 1) .nil)) .nil)) (.one 2) (.cons (.set 3 (.call f__law_box (.cons (.var 1) (.cons (.var 2) .nil))))
  (.cons (.ife (.not (.bf .all (.cons (.comp [4] (.rng (.cons (.lit (.int 5)) .nil)) (.one 4) .none (.call f__law_right (.cons (.var 3) .nil))) .nil))) (.cons (.ret (.lit (.bl false)))
   .nil) .nil)
  .nil)))
 (.cons (.ret (.lit (.bl true)))
 .nil)))⟩
def F_lacks_in (f_freed : Nat) : Fn := ⟨2, 4, false,
 (.cons (.tset [2, 3] (.var 0))
 (.cons (.ife (.cmp .eq (.var 1) (.lit (.int 6))) (.cons (.ret (.cmp .eq (.call f_freed (.cons (.bin .sub (.bin .mul (.var 2) (.var 2)) (.bin .mul (.lit (.int 3)) (.var 3))) (.cons (.lit (.int 6)) .nil))) (.lit (.int 1))))
  .nil) .nil)
 (.cons (.ife (.cmp .eq (.var 1) (.lit (.int 12))) (.cons (.ret (.and (.cmp .eq (.bf .abs (.cons (.var 2) .nil)) (.lit (.int 1))) (.cmp .eq (.var 3) (.neg (.lit (.int 1))))))
  .nil) .nil)
 (.cons (.ret (.or (.cmp .eq (.var 1) (.lit (.int 1))) (.and (.cmp .eq (.var 1) (.lit (.int 2))) (.cmp .eq (.bf .abs (.cons (.var 2) .nil)) (.lit (.int 1))))))
 .nil))))⟩
def F_lacks_new (f_lacks_in f_big_d e_CanNot f_sure_number f_sure_plain : Nat) : Fn := ⟨2, 4, false,
 (.cons (.set 2 (.call f_sure_plain (.cons (.var 0) .nil)))
 (.cons (.set 3 (.call f_sure_number (.cons (.var 1) .nil)))
 (.cons (.ife (.cmp .le (.call f_big_d (.cons (.var 2) .nil)) (.lit (.int 0))) (.cons (.raise e_CanNot .none)
  .nil) .nil)
 (.cons (.ret (.call f_lacks_in (.cons (.var 2) (.cons (.var 3) .nil))))
 .nil))))⟩
def F_lacking_to (f_new_part_in f_sure_within g_MOST_LISTED f_sure_plain : Nat) : Fn := ⟨2, 5, false,
 (.cons (.set 2 (.call f_sure_plain (.cons (.var 0) .nil)))
 (.cons (.set 3 (.call f_sure_within (.cons (.var 1) (.cons (.lit (.int 1)) (.cons (.glob g_MOST_LISTED) .nil)))))
 (.cons (.ret (.bf .tuple (.cons (.comp [4] (.rng (.cons (.lit (.int 1)) (.cons (.bin .add (.var 3) (.lit (.int 1))) .nil))) (.one 4) (.some (.cmp .eq (.call f_new_part_in (.cons (.var 2) (.cons (.var 4) .nil))) (.lit (.int 1)))) (.var 4)) .nil)))
 .nil)))⟩
def F_law_4 (f__law_right f__law_box f__law_cells : Nat) : Fn := ⟨1, 5, false,
 (.cons (.set 1 (.call f__law_cells (.cons (.var 0) (.cons (.lit (.int 2)) .nil))))
 (.cons (.fr (.rng (.cons (.bf .len (.cons (.var 1) .nil)) .nil)) (.one 2) (.cons (.set 3 (.call f__law_box (.cons (.var 1) (.cons (.var 2) .nil))))
  (.cons (.ife (.not (.bf .all (.cons (.comp [4] (.rng (.cons (.lit (.int 3)) .nil)) (.one 4) .none (.call f__law_right (.cons (.var 3) .nil))) .nil))) (.cons (.ret (.lit (.bl false)))
   .nil) .nil)
  .nil)))
 (.cons (.ret (.lit (.bl true)))
 .nil)))⟩
def F_counts_in (f_rests_in : Nat) : Fn := ⟨2, 6, false,
 (.cons (.tset [4, 5] (.call f_rests_in (.cons (.var 0) (.cons (.var 1) .nil))))
 (.cons (.setC 2 (.bin .mul (.lst (.cons (.lit (.int 0)) .nil)) (.var 1)))
 (.cons (.fr (.of (.sl (.var 5) (.some (.var 4)) .none)) (.one 3) (.cons (.seti (.var 2) (.var 3) (.bin .add (.idx (.var 2) (.var 3)) (.lit (.int 1))))
  .nil))
 (.cons (.ret (.bf .tuple (.cons (.var 2) .nil)))
 .nil))))⟩
def F_sure_walked (f_sure_within g_MOST_WALKED : Nat) : Fn := ⟨1, 1, false,
 (.cons (.ret (.call f_sure_within (.cons (.var 0) (.cons (.lit (.int 1)) (.cons (.glob g_MOST_WALKED) .nil)))))
 .nil)⟩
def F_never_left (f_never_in f_sure_walked f_sure_rule : Nat) : Fn := ⟨2, 3, false,
 (.cons (.set 2 (.call f_sure_rule (.cons (.var 0) .nil)))
 (.cons (.ret (.call f_never_in (.cons (.var 2) (.cons (.call f_sure_walked (.cons (.var 1) .nil)) .nil))))
 .nil))⟩
def F_rest_counts (f_counts_in f_sure_walked f_sure_rule : Nat) : Fn := ⟨2, 3, false,
 (.cons (.set 2 (.call f_sure_rule (.cons (.var 0) .nil)))
 (.cons (.ret (.call f_counts_in (.cons (.var 2) (.cons (.call f_sure_walked (.cons (.var 1) .nil)) .nil))))
 .nil))⟩
def F_rest_places (f_rests_in f_sure_within f_sure_walked f_sure_rule : Nat) : Fn := ⟨3, 8, false,
 (.cons (.set 3 (.call f_sure_rule (.cons (.var 0) .nil)))
 (.cons (.set 4 (.call f_sure_walked (.cons (.var 1) .nil)))
 (.cons (.set 5 (.call f_sure_within (.cons (.var 2) (.cons (.lit (.int 0)) (.cons (.bin .sub (.var 4) (.lit (.int 1))) .nil)))))
 (.cons (.ret (.bf .tuple (.cons (.comp [6, 7] (.enum (.idx (.call f_rests_in (.cons (.var 3) (.cons (.var 4) .nil))) (.lit (.int 1)))) (.many [6, 7]) (.some (.cmp .eq (.var 7) (.var 5))) (.var 6)) .nil)))
 .nil))))⟩
def F_next_place (e_CanNot f_rests_in f_sure_within g_MOST_PLACE f_sure_walked f_sure_rule : Nat) : Fn := ⟨4, 15, false,
 (.cons (.set 4 (.call f_sure_rule (.cons (.var 0) .nil)))
 (.cons (.set 5 (.call f_sure_walked (.cons (.var 1) .nil)))
 (.cons (.set 6 (.call f_sure_within (.cons (.var 2) (.cons (.lit (.int 0)) (.cons (.bin .sub (.var 5) (.lit (.int 1))) .nil)))))
 (.cons (.set 7 (.call f_sure_within (.cons (.var 3) (.cons (.lit (.int 0)) (.cons (.glob g_MOST_PLACE) .nil)))))
 (.cons (.tset [10, 11] (.call f_rests_in (.cons (.var 4) (.cons (.var 5) .nil))))
 (.cons (.set 8 (.comp [14] (.rng (.cons (.var 7) (.cons (.var 10) .nil))) (.one 14) (.some (.cmp .eq (.idx (.var 11) (.var 14)) (.var 6))) (.var 14)))
 (.cons (.ife (.cmp .ne (.var 8) (.lst .nil)) (.cons (.ret (.idx (.var 8) (.lit (.int 0))))
  .nil) .nil)
 (.cons (.tset [12, 13] (.tup (.cons (.bin .sub (.bf .len (.cons (.var 11) .nil)) (.var 10)) (.cons (.bf .max (.cons (.var 7) (.cons (.var 10) .nil))) .nil))))
 (.cons (.set 9 (.comp [14] (.rng (.cons (.var 10) (.cons (.bf .len (.cons (.var 11) .nil)) .nil))) (.one 14) (.some (.cmp .eq (.idx (.var 11) (.var 14)) (.var 6))) (.bin .mod (.bin .sub (.var 14) (.var 13)) (.var 12))))
 (.cons (.ife (.cmp .eq (.var 9) (.lst .nil)) (.cons (.raise e_CanNot .none)
  .nil) .nil)
 (.cons (.ret (.bin .add (.var 13) (.bf .min (.cons (.var 9) .nil))))
 .nil)))))))))))⟩
def F_round_of_2 (f_round_in f_sure_coprime f_sure_within g_MOST_MODULUS f_sure_rule : Nat) : Fn := ⟨2, 3, false,
 (.cons (.set 2 (.call f_sure_rule (.cons (.var 0) .nil)))
 (.cons (.ret (.call f_round_in (.cons (.var 2) (.cons (.call f_sure_coprime (.cons (.var 2) (.cons (.call f_sure_within (.cons (.var 1) (.cons (.lit (.int 1)) (.cons (.glob g_MOST_MODULUS) .nil)))) .nil))) .nil))))
 .nil))⟩
def F_root_in : Fn := ⟨1, 3, false,
 (.cons (.par [1, 2] [false, false] (.cons (.var 0) (.cons (.bin .fdiv (.bin .add (.var 0) (.lit (.int 1))) (.lit (.int 2))) .nil)))
 (.cons (.whl (.cmp .lt (.var 2) (.var 1)) (.cons (.par [1, 2] [false, false] (.cons (.var 2) (.cons (.bin .fdiv (.bin .add (.var 2) (.bin .fdiv (.var 0) (.var 2))) (.lit (.int 2))) .nil)))
  .nil))
 (.cons (.ret (.var 1))
 .nil)))⟩
def F_is_square_in (f_root_in g_FILTERS f_square_rests_in : Nat) : Fn := ⟨1, 2, false,
 (.cons (.ife (.or (.cmp .lt (.var 0) (.lit (.int 0))) (.bf .any (.cons (.comp [1] (.of (.glob g_FILTERS)) (.one 1) .none (.cmp .nin (.bin .mod (.var 0) (.var 1)) (.call f_square_rests_in (.cons (.var 1) .nil)))) .nil))) (.cons (.ret (.lit (.bl false)))
  .nil) .nil)
 (.cons (.ret (.cmp .eq (.bin .mul (.call f_root_in (.cons (.var 0) .nil)) (.call f_root_in (.cons (.var 0) .nil))) (.var 0)))
 .nil))⟩
def F_sure_kind (g_KINDS e_Unfit : Nat) : Fn := ⟨1, 1, false,
 (.cons (.ife (.or (.not (.isin (.var 0) [.str])) (.cmp .nin (.var 0) (.glob g_KINDS))) (.cons (.raise e_Unfit .none)
  .nil) .nil)
 (.cons (.ret (.var 0))
 .nil))⟩
def F_first_rests : Fn := ⟨3, 3, false,
 (.cons (.ret (.ite (.cmp .eq (.var 1) (.lit (.str "u"))) (.tup (.cons (.lit (.int 0)) (.cons (.bin .mod (.lit (.int 1)) (.var 2)) .nil))) (.tup (.cons (.bin .mod (.lit (.int 2)) (.var 2)) (.cons (.bin .mod (.idx (.var 0) (.lit (.int 0))) (.var 2)) .nil)))))
 .nil)⟩
def F_is_square_term (f_is_square_in f_terms_in f_sure_within g_MOST_NUMBER f_sure_kind f_sure_rule : Nat) : Fn := ⟨3, 6, false,
 (.cons (.set 3 (.call f_sure_rule (.cons (.var 0) .nil)))
 (.cons (.set 4 (.call f_sure_kind (.cons (.var 1) .nil)))
 (.cons (.set 5 (.call f_sure_within (.cons (.var 2) (.cons (.lit (.int 0)) (.cons (.glob g_MOST_NUMBER) .nil)))))
 (.cons (.ret (.call f_is_square_in (.cons (.idx (.call f_terms_in (.cons (.var 3) (.cons (.var 4) (.cons (.bin .add (.var 5) (.lit (.int 1))) .nil)))) (.var 5)) .nil)))
 .nil))))⟩
def F_square_places (f_is_square_in f_terms_in f_sure_within g_MOST_NUMBER f_sure_kind f_sure_rule : Nat) : Fn := ⟨3, 8, false,
 (.cons (.set 3 (.call f_sure_rule (.cons (.var 0) .nil)))
 (.cons (.set 4 (.call f_sure_kind (.cons (.var 1) .nil)))
 (.cons (.set 5 (.call f_terms_in (.cons (.var 3) (.cons (.var 4) (.cons (.bin .add (.call f_sure_within (.cons (.var 2) (.cons (.lit (.int 0)) (.cons (.glob g_MOST_NUMBER) .nil)))) (.lit (.int 1))) .nil)))))
 (.cons (.ret (.bf .tuple (.cons (.comp [6, 7] (.enum (.var 5)) (.many [6, 7]) (.some (.call f_is_square_in (.cons (.var 7) .nil))) (.var 6)) .nil)))
 .nil))))⟩
def F_square_rests (f_square_rests_in f_sure_within g_MOST_MODULUS_squares : Nat) : Fn := ⟨1, 1, false,
 (.cons (.ret (.call f_square_rests_in (.cons (.call f_sure_within (.cons (.var 0) (.cons (.lit (.int 1)) (.cons (.glob g_MOST_MODULUS_squares) .nil)))) .nil)))
 .nil)⟩
def F_bar_of (e_CanNot g_MOST_BAR f_square_rests_in f_is_square_in f_terms_in f_sure_within g_MOST_NUMBER f_sure_kind f_sure_rule : Nat) : Fn := ⟨3, 8, false,
 (.cons (.set 3 (.call f_sure_rule (.cons (.var 0) .nil)))
 (.cons (.set 4 (.call f_sure_kind (.cons (.var 1) .nil)))
 (.cons (.set 5 (.call f_sure_within (.cons (.var 2) (.cons (.lit (.int 0)) (.cons (.glob g_MOST_NUMBER) .nil)))))
 (.cons (.set 6 (.idx (.call f_terms_in (.cons (.var 3) (.cons (.var 4) (.cons (.bin .add (.var 5) (.lit (.int 1))) .nil)))) (.var 5)))
 (.cons (.ife (.call f_is_square_in (.cons (.var 6) .nil)) (.cons (.ret (.lit (.non)))
  .nil) .nil)
 (.cons (.fr (.rng (.cons (.lit (.int 2)) (.cons (.bin .add (.glob g_MOST_BAR) (.lit (.int 1))) .nil))) (.one 7) (.cons (.ife (.cmp .nin (.bin .mod (.var 6) (.var 7)) (.call f_square_rests_in (.cons (.var 7) .nil))) (.cons (.ret (.var 7))
   .nil) .nil)
  .nil))
 (.cons (.raise e_CanNot .none)
 .nil)))))))⟩
def F__law_is_square : Fn := ⟨1, 5, false,
 (.cons (.ife (.cmp .lt (.var 0) (.lit (.int 0))) (.cons (.ret (.lit (.bl false)))
  .nil) .nil)
 (.cons (.tset [2, 3] (.tup (.cons (.lit (.int 0)) (.cons (.lit (.int 1)) .nil))))
 (.cons (.fr (.rng (.cons (.lit (.int 20000)) .nil)) (.one 1) (.cons (.ife (.cmp .gt (.bin .mul (.var 3) (.var 3)) (.var 0)) (.cons (.brk)
   .nil) .nil)
  (.cons (.set 3 (.bin .mul (.var 3) (.lit (.int 2))))
  .nil)))
 (.cons (.fr (.rng (.cons (.lit (.int 20000)) .nil)) (.one 1) (.cons (.ife (.cmp .lt (.bin .sub (.var 3) (.var 2)) (.lit (.int 2))) (.cons (.brk)
   .nil) .nil)
  (.cons (.set 4 (.bin .fdiv (.bin .add (.var 2) (.var 3)) (.lit (.int 2))))
  (.cons (.ife (.cmp .le (.bin .mul (.var 4) (.var 4)) (.var 0)) (.cons (.set 2 (.var 4))
   .nil) (.cons (.set 3 (.var 4))
   .nil))
  .nil))))
 (.cons (.ret (.cmp .eq (.bin .mul (.var 2) (.var 2)) (.var 0)))
 .nil)))))⟩
def F_told_squares (g_TOLD e_CanNot f_sure_kind f_sure_rule : Nat) : Fn := ⟨2, 4, false,
 (.cons (.set 2 (.call f_sure_rule (.cons (.var 0) .nil)))
 (.cons (.set 3 (.call f_sure_kind (.cons (.var 1) .nil)))
 (.cons (.ife (.cmp .nin (.tup (.cons (.var 2) (.cons (.var 3) .nil))) (.glob g_TOLD)) (.cons (.raise e_CanNot .none)
  .nil) .nil)
 (.cons (.ret (.idx (.glob g_TOLD) (.tup (.cons (.var 2) (.cons (.var 3) .nil)))))
 .nil))))⟩
def F_lies_in (f_is_prime_in f_looks_in f_can_look : Nat) : Fn := ⟨2, 2, false,
 (.cons (.ret (.and (.call f_can_look (.cons (.var 0) (.cons (.var 1) .nil))) (.and (.call f_looks_in (.cons (.var 0) (.cons (.var 1) .nil))) (.not (.call f_is_prime_in (.cons (.var 1) .nil))))))
 .nil)⟩
def F_lies_to (f_lies_in f_sure_within g_MOST_LISTED f_sure_rule : Nat) : Fn := ⟨2, 5, false,
 (.cons (.set 2 (.call f_sure_rule (.cons (.var 0) .nil)))
 (.cons (.set 3 (.call f_sure_within (.cons (.var 1) (.cons (.lit (.int 1)) (.cons (.glob g_MOST_LISTED) .nil)))))
 (.cons (.ret (.bf .tuple (.cons (.comp [4] (.rng (.cons (.lit (.int 3)) (.cons (.bin .add (.var 3) (.lit (.int 1))) (.cons (.lit (.int 2)) .nil)))) (.one 4) (.some (.call f_lies_in (.cons (.var 2) (.cons (.var 4) .nil)))) (.var 4)) .nil)))
 .nil)))⟩
def F_least_lie (e_CanNot f_lies_in f_sure_within g_MOST_FIRST f_sure_rule : Nat) : Fn := ⟨2, 6, false,
 (.cons (.set 2 (.call f_sure_rule (.cons (.var 0) .nil)))
 (.cons (.set 3 (.call f_sure_within (.cons (.var 1) (.cons (.lit (.int 1)) (.cons (.glob g_MOST_FIRST) .nil)))))
 (.cons (.set 4 (.bf .max (.cons (.lit (.int 3)) (.cons (.bin .sub (.bin .add (.var 3) (.lit (.int 1))) (.bin .mod (.var 3) (.lit (.int 2)))) .nil))))
 (.cons (.fr (.rng (.cons (.var 4) (.cons (.bin .add (.var 4) (.lit (.int 20000))) (.cons (.lit (.int 2)) .nil)))) (.one 5) (.cons (.ife (.call f_lies_in (.cons (.var 2) (.cons (.var 5) .nil))) (.cons (.ret (.var 5))
   .nil) .nil)
  .nil))
 (.cons (.raise e_CanNot .none)
 .nil)))))⟩
def F__law_is_prime (f__law_primes : Nat) : Fn := ⟨1, 1, false,
 (.cons (.ret (.and (.cmp .gt (.var 0) (.lit (.int 1))) (.cmp .eq (.call f__law_primes (.cons (.var 0) .nil)) (.lst (.cons (.var 0) .nil)))))
 .nil)⟩
def F__law_sign (f__law_primes f__law_raised : Nat) : Fn := ⟨2, 6, false,
 (.cons (.set 2 (.lit (.int 1)))
 (.cons (.fr (.of (.call f__law_primes (.cons (.var 1) .nil))) (.one 3) (.cons (.set 4 (.ite (.cmp .lt (.var 3) (.lit (.int 2000))) (.comp [5] (.rng (.cons (.lit (.int 1)) (.cons (.var 3) .nil))) (.one 5) .none (.bin .mod (.bin .mul (.var 5) (.var 5)) (.var 3))) (.lit (.non))))
  (.cons (.ife (.cmp .eq (.bin .mod (.var 0) (.var 3)) (.lit (.int 0))) (.cons (.ret (.lit (.int 0)))
   .nil) .nil)
  (.cons (.ife (.isC false (.var 4) (.non)) (.cons (.set 2 (.bin .mul (.var 2) (.ite (.cmp .eq (.call f__law_raised (.cons (.var 0) (.cons (.bin .fdiv (.bin .sub (.var 3) (.lit (.int 1))) (.lit (.int 2))) (.cons (.var 3) .nil)))) (.lit (.int 1))) (.lit (.int 1)) (.neg (.lit (.int 1))))))
   .nil) (.cons (.set 2 (.bin .mul (.var 2) (.ite (.cmp .inn (.bin .mod (.var 0) (.var 3)) (.var 4)) (.lit (.int 1)) (.neg (.lit (.int 1))))))
   .nil))
  .nil))))
 (.cons (.ret (.var 2))
 .nil)))⟩
def F_proof_of (f_proves e_CanNot f_goal_primes f_sure_looked f_sure_odd g_MOST_PROVED f_sure_rule : Nat) : Fn := ⟨2, 5, false,
 (.cons (.set 2 (.call f_sure_rule (.cons (.var 0) .nil)))
 (.cons (.set 3 (.call f_sure_looked (.cons (.var 2) (.cons (.call f_sure_odd (.cons (.var 1) (.cons (.glob g_MOST_PROVED) .nil))) .nil))))
 (.cons (.set 4 (.call f_goal_primes (.cons (.var 2) (.cons (.var 3) .nil))))
 (.cons (.ife (.not (.call f_proves (.cons (.var 2) (.cons (.var 3) (.cons (.var 4) .nil))))) (.cons (.raise e_CanNot .none)
  .nil) .nil)
 (.cons (.ret (.var 4))
 .nil)))))⟩
def F_is_proof (f_proves f_goal_primes f_ascends f_are_numbers f_sure_looked f_sure_odd g_MOST_PROVED f_sure_rule : Nat) : Fn := ⟨3, 5, false,
 (.cons (.set 3 (.call f_sure_rule (.cons (.var 0) .nil)))
 (.cons (.set 4 (.call f_sure_looked (.cons (.var 3) (.cons (.call f_sure_odd (.cons (.var 1) (.cons (.glob g_MOST_PROVED) .nil))) .nil))))
 (.cons (.ife (.or (.not (.call f_are_numbers (.cons (.var 2) .nil))) (.or (.not (.call f_ascends (.cons (.var 2) .nil))) (.cmp .ne (.var 2) (.call f_goal_primes (.cons (.var 3) (.cons (.var 4) .nil)))))) (.cons (.ret (.lit (.bl false)))
  .nil) .nil)
 (.cons (.ret (.call f_proves (.cons (.var 3) (.cons (.var 4) (.cons (.var 2) .nil)))))
 .nil))))⟩
def F_is_claim_in_2 (f_common f_is_within g_MOST_PLACE g_MOST_MODULUS g_MOST_WALKED f_can_look f_is_rule_in g_LENGTHS : Nat) : Fn := ⟨1, 1, false,
 (.cons (.ife (.or (.not (.isin (.var 0) [.tuple])) (.or (.cmp .eq (.var 0) (.tup .nil)) (.or (.not (.isin (.idx (.var 0) (.lit (.int 0))) [.str])) (.cmp .nin (.idx (.var 0) (.lit (.int 0))) (.glob g_LENGTHS))))) (.cons (.ret (.lit (.bl false)))
  .nil) .nil)
 (.cons (.ife (.or (.cmp .ne (.bf .len (.cons (.var 0) .nil)) (.idx (.glob g_LENGTHS) (.idx (.var 0) (.lit (.int 0))))) (.not (.call f_is_rule_in (.cons (.idx (.var 0) (.lit (.int 1))) .nil)))) (.cons (.ret (.lit (.bl false)))
  .nil) .nil)
 (.cons (.ife (.cmp .eq (.idx (.var 0) (.lit (.int 0))) (.lit (.str "prime"))) (.cons (.ret (.and (.call f_is_within (.cons (.idx (.var 0) (.lit (.int 2))) (.cons (.lit (.int 3)) (.cons (.glob g_MOST_PLACE) .nil)))) (.and (.cmp .eq (.bin .mod (.idx (.var 0) (.lit (.int 2))) (.lit (.int 2))) (.lit (.int 1))) (.call f_can_look (.cons (.idx (.var 0) (.lit (.int 1))) (.cons (.idx (.var 0) (.lit (.int 2))) .nil))))))
  .nil) .nil)
 (.cons (.ife (.cmp .eq (.idx (.var 0) (.lit (.int 0))) (.lit (.str "never"))) (.cons (.ret (.and (.call f_is_within (.cons (.idx (.var 0) (.lit (.int 2))) (.cons (.lit (.int 1)) (.cons (.glob g_MOST_WALKED) .nil)))) (.call f_is_within (.cons (.idx (.var 0) (.lit (.int 3))) (.cons (.lit (.int 0)) (.cons (.bin .sub (.idx (.var 0) (.lit (.int 2))) (.lit (.int 1))) .nil))))))
  .nil) .nil)
 (.cons (.ife (.or (.not (.call f_is_within (.cons (.idx (.var 0) (.lit (.int 2))) (.cons (.lit (.int 1)) (.cons (.glob g_MOST_MODULUS) .nil))))) (.not (.call f_is_within (.cons (.idx (.var 0) (.lit (.int 3))) (.cons (.lit (.int 1)) (.cons (.glob g_MOST_PLACE) .nil)))))) (.cons (.ret (.lit (.bl false)))
  .nil) .nil)
 (.cons (.ret (.or (.cmp .eq (.idx (.var 0) (.lit (.int 0))) (.lit (.str "divides"))) (.cmp .eq (.call f_common (.cons (.idx (.idx (.var 0) (.lit (.int 1))) (.lit (.int 1))) (.cons (.idx (.var 0) (.lit (.int 2))) .nil))) (.lit (.int 1)))))
 .nil))))))⟩
def F_reason_in (f_primes_in f_walk_in f_proves f_goal_primes : Nat) : Fn := ⟨1, 5, false,
 (.cons (.tset [1, 2, 3] (.sl (.var 0) .none (.some (.lit (.int 3)))))
 (.cons (.ife (.cmp .eq (.var 1) (.lit (.str "prime"))) (.cons (.set 4 (.call f_goal_primes (.cons (.var 2) (.cons (.var 3) .nil))))
  (.cons (.ret (.ite (.call f_proves (.cons (.var 2) (.cons (.var 3) (.cons (.var 4) .nil)))) (.var 4) (.lit (.non))))
  .nil)) .nil)
 (.cons (.ife (.cmp .eq (.var 1) (.lit (.str "never"))) (.cons (.ret (.call f_walk_in (.cons (.var 2) (.cons (.var 3) .nil))))
  .nil) .nil)
 (.cons (.ret (.ite (.cmp .eq (.var 1) (.lit (.str "divides"))) (.idx (.var 0) (.lit (.int 3))) (.call f_primes_in (.cons (.idx (.var 0) (.lit (.int 3))) .nil))))
 .nil))))⟩
def F_claim_reason (f_holds_in f_reason_in f_sure_claim : Nat) : Fn := ⟨1, 2, false,
 (.cons (.set 1 (.call f_sure_claim (.cons (.var 0) .nil)))
 (.cons (.ret (.ite (.call f_holds_in (.cons (.var 1) .nil)) (.call f_reason_in (.cons (.var 1) .nil)) (.lit (.non))))
 .nil))⟩
def F_claim_paper (f_holds_in f_paper_in f_sure_claim : Nat) : Fn := ⟨1, 2, false,
 (.cons (.set 1 (.call f_sure_claim (.cons (.var 0) .nil)))
 (.cons (.ret (.ite (.call f_holds_in (.cons (.var 1) .nil)) (.lit (.non)) (.call f_paper_in (.cons (.var 1) .nil))))
 .nil))⟩
def F_is_claim (f_is_claim_in : Nat) : Fn := ⟨1, 1, false,
 (.cons (.ret (.call f_is_claim_in (.cons (.var 0) .nil)))
 .nil)⟩
def F__law_lists (f__law_lists : Nat) : Fn := ⟨1, 2, false,
 (.cons (.ret (.ite (.isin (.var 0) [.list, .tuple]) (.comp [1] (.of (.var 0)) (.one 1) .none (.call f__law_lists (.cons (.var 1) .nil))) (.var 0)))
 .nil)⟩
def F_sure_claims (f_is_claim_in e_Unfit f_tupled : Nat) : Fn := ⟨1, 3, false,
 (.cons (.set 1 (.call f_tupled (.cons (.var 0) .nil)))
 (.cons (.ife (.or (.not (.isin (.var 1) [.tuple])) (.not (.bf .all (.cons (.comp [2] (.of (.var 1)) (.one 2) .none (.call f_is_claim_in (.cons (.var 2) .nil))) .nil)))) (.cons (.raise e_Unfit .none)
  .nil) .nil)
 (.cons (.ret (.var 1))
 .nil)))⟩
def F_first_to_fall (f_sure_claims f_holds_in : Nat) : Fn := ⟨1, 4, false,
 (.cons (.set 1 (.comp [2, 3] (.enum (.call f_sure_claims (.cons (.var 0) .nil))) (.many [2, 3]) (.some (.not (.call f_holds_in (.cons (.var 3) .nil)))) (.var 2)))
 (.cons (.ret (.ite (.cmp .ne (.var 1) (.lst .nil)) (.idx (.var 1) (.lit (.int 0))) (.lit (.non))))
 .nil))⟩
def F_all_told (f_sure_claims f_holds_in f_reason_in f_paper_in : Nat) : Fn := ⟨1, 3, false,
 (.cons (.setC 1 (.lst .nil))
 (.cons (.fr (.of (.call f_sure_claims (.cons (.var 0) .nil))) (.one 2) (.cons (.expr (.app (.var 1) (.ite (.call f_holds_in (.cons (.var 2) .nil)) (.tup (.cons (.lit (.bl true)) (.cons (.call f_reason_in (.cons (.var 2) .nil)) .nil))) (.tup (.cons (.lit (.bl false)) (.cons (.call f_paper_in (.cons (.var 2) .nil)) .nil))))))
  .nil))
 (.cons (.ret (.var 1))
 .nil)))⟩
def F_all_told_2 (f_sure_claims f_holds_in f_reason_in f_paper_in : Nat) : Fn := ⟨1, 3, true,
 (.cons (.setC 1 (.lst .nil))
 (.cons (.fr (.of (.call f_sure_claims (.cons (.var 0) .nil))) (.one 2) (.cons (.expr (.app (.var 1) (.ite (.call f_holds_in (.cons (.var 2) .nil)) (.tup (.cons (.lit (.bl true)) (.cons (.call f_reason_in (.cons (.var 2) .nil)) .nil))) (.tup (.cons (.lit (.bl false)) (.cons (.call f_paper_in (.cons (.var 2) .nil)) .nil))))))
  .nil))
 (.cons (.ret (.var 1))
 .nil)))⟩
def F_law_5 (f__law_right f__law_box f__law_cells : Nat) : Fn := ⟨1, 5, false,
 (.cons (.set 1 (.call f__law_cells (.cons (.var 0) (.cons (.lit (.int 2)) .nil))))
 (.cons (.fr (.rng (.cons (.bf .len (.cons (.var 1) .nil)) .nil)) (.one 2) (.cons (.set 3 (.call f__law_box (.cons (.var 1) (.cons (.var 2) .nil))))
  (.cons (.ife (.not (.bf .all (.cons (.comp [4] (.rng (.cons (.lit (.int 6)) .nil)) (.one 4) .none (.call f__law_right (.cons (.var 3) .nil))) .nil))) (.cons (.ret (.lit (.bl false)))
   .nil) .nil)
  .nil)))
 (.cons (.ret (.lit (.bl true)))
 .nil)))⟩
def F_is_figures (g_FIGURES g_LONGEST : Nat) : Fn := ⟨1, 2, false,
 (.cons (.ife (.or (.cmp .eq (.var 0) (.lit (.str ""))) (.or (.cmp .gt (.bf .len (.cons (.var 0) .nil)) (.glob g_LONGEST)) (.not (.bf .all (.cons (.comp [1] (.of (.var 0)) (.one 1) .none (.cmp .inn (.var 1) (.glob g_FIGURES))) .nil))))) (.cons (.ret (.lit (.bl false)))
  .nil) .nil)
 (.cons (.ret (.or (.cmp .ne (.idx (.var 0) (.lit (.int 0))) (.lit (.str "0"))) (.cmp .eq (.var 0) (.lit (.str "0")))))
 .nil))⟩
def F_sure_text (g_MOST_TEXT e_Unfit : Nat) : Fn := ⟨1, 1, false,
 (.cons (.ife (.or (.not (.isin (.var 0) [.str])) (.cmp .gt (.bf .len (.cons (.var 0) .nil)) (.glob g_MOST_TEXT))) (.cons (.raise e_Unfit .none)
  .nil) .nil)
 (.cons (.ret (.var 0))
 .nil))⟩
def F_is_row_told (g_MOST_TOLD g_MOST_LONG f_are_numbers : Nat) : Fn := ⟨1, 2, false,
 (.cons (.ret (.and (.call f_are_numbers (.cons (.var 0) .nil)) (.and (.cmp .le (.bf .len (.cons (.var 0) .nil)) (.glob g_MOST_LONG)) (.bf .all (.cons (.comp [1] (.of (.var 0)) (.one 1) .none (.cmp .le (.bf .abs (.cons (.var 1) .nil)) (.glob g_MOST_TOLD))) .nil)))))
 .nil)⟩
def F_is_place_told (f_is_within g_MOST_TOLD f_is_rule_in f_is_long : Nat) : Fn := ⟨1, 1, false,
 (.cons (.ife (.or (.not (.call f_is_long (.cons (.var 0) (.cons (.lit (.int 3)) .nil)))) (.not (.call f_is_rule_in (.cons (.idx (.var 0) (.lit (.int 0))) .nil)))) (.cons (.ret (.lit (.bl false)))
  .nil) .nil)
 (.cons (.ret (.and (.call f_is_within (.cons (.idx (.var 0) (.lit (.int 1))) (.cons (.lit (.int 1)) (.cons (.glob g_MOST_TOLD) .nil)))) (.call f_is_within (.cons (.idx (.var 0) (.lit (.int 2))) (.cons (.lit (.int 0)) (.cons (.glob g_MOST_TOLD) .nil))))))
 .nil))⟩
def F_place_back (f_is_place_told : Nat) : Fn := ⟨1, 2, false,
 (.cons (.ife (.cmp .ne (.bf .len (.cons (.var 0) .nil)) (.lit (.int 4))) (.cons (.ret (.lit (.non)))
  .nil) .nil)
 (.cons (.set 1 (.tup (.cons (.sl (.var 0) .none (.some (.lit (.int 2)))) (.cons (.idx (.var 0) (.lit (.int 2))) (.cons (.idx (.var 0) (.lit (.int 3))) .nil)))))
 (.cons (.ret (.ite (.call f_is_place_told (.cons (.var 1) .nil)) (.var 1) (.lit (.non))))
 .nil)))⟩
def F_sure_rows (g_MOST_ROWS e_Unfit f_tupled : Nat) : Fn := ⟨1, 2, false,
 (.cons (.set 1 (.call f_tupled (.cons (.var 0) .nil)))
 (.cons (.ife (.or (.not (.isin (.var 1) [.tuple])) (.cmp .gt (.bf .len (.cons (.var 1) .nil)) (.glob g_MOST_ROWS))) (.cons (.raise e_Unfit .none)
  .nil) .nil)
 (.cons (.ret (.var 1))
 .nil)))⟩
def F_rules_text (f_text_told f_is_rule_in e_Unfit f_sure_rows : Nat) : Fn := ⟨1, 3, false,
 (.cons (.set 1 (.call f_sure_rows (.cons (.var 0) .nil)))
 (.cons (.ife (.not (.bf .all (.cons (.comp [2] (.of (.var 1)) (.one 2) .none (.call f_is_rule_in (.cons (.var 2) .nil))) .nil))) (.cons (.raise e_Unfit .none)
  .nil) .nil)
 (.cons (.ret (.call f_text_told (.cons (.lit (.str "rule")) (.cons (.var 1) .nil))))
 .nil)))⟩
def F_rows_text (f_text_told f_is_row_told e_Unfit f_sure_rows : Nat) : Fn := ⟨1, 3, false,
 (.cons (.set 1 (.call f_sure_rows (.cons (.var 0) .nil)))
 (.cons (.ife (.not (.bf .all (.cons (.comp [2] (.of (.var 1)) (.one 2) .none (.call f_is_row_told (.cons (.var 2) .nil))) .nil))) (.cons (.raise e_Unfit .none)
  .nil) .nil)
 (.cons (.ret (.call f_text_told (.cons (.lit (.str "row")) (.cons (.var 1) .nil))))
 .nil)))⟩
def F_places_text (f_text_told f_is_place_told e_Unfit f_sure_rows : Nat) : Fn := ⟨1, 3, false,
 (.cons (.set 1 (.call f_sure_rows (.cons (.var 0) .nil)))
 (.cons (.ife (.not (.bf .all (.cons (.comp [2] (.of (.var 1)) (.one 2) .none (.call f_is_place_told (.cons (.var 2) .nil))) .nil))) (.cons (.raise e_Unfit .none)
  .nil) .nil)
 (.cons (.ret (.call f_text_told (.cons (.lit (.str "place")) (.cons (.comp [2] (.of (.var 1)) (.one 2) .none (.bin .add (.idx (.var 2) (.lit (.int 0))) (.sl (.var 2) (.some (.lit (.int 1))) .none))) .nil))))
 .nil)))⟩
def F__wall : Fn := ⟨1, 1, false,
 (.cons (.whl (.lit (.bl true)) (.cons (.pass)
  .nil))
 .nil)⟩
def F_changed (g_MOST_FAR f_is_rule_in : Nat) : Fn := ⟨3, 7, false,
 (.cons (.tset [4, 5, 6] (.var 2))
 (.cons (.ife (.cmp .eq (.var 0) (.lit (.str "rule"))) (.cons (.ret (.ite (.call f_is_rule_in (.cons (.var 1) .nil)) (.tup (.cons (.var 1) (.cons (.var 5) (.cons (.var 6) .nil)))) (.lit (.non))))
  .nil) .nil)
 (.cons (.ife (.cmp .eq (.var 0) (.lit (.str "by"))) (.cons (.ret (.tup (.cons (.var 4) (.cons (.idx (.var 1) (.lit (.int 0))) (.cons (.var 6) .nil)))))
  .nil) .nil)
 (.cons (.set 3 (.ite (.cmp .eq (.var 0) (.lit (.str "at"))) (.idx (.var 1) (.lit (.int 0))) (.bin .add (.var 6) (.idx (.var 1) (.lit (.int 0))))))
 (.cons (.ret (.ite (.chain .le .le (.lit (.int 0)) (.var 3) (.glob g_MOST_FAR)) (.tup (.cons (.var 4) (.cons (.var 5) (.cons (.var 3) .nil)))) (.lit (.non))))
 .nil)))))⟩
def F_yes_or_no : Fn := ⟨1, 1, false,
 (.cons (.ret (.ite (.var 0) (.lit (.str "yes")) (.lit (.str "no"))))
 .nil)⟩
def F_look_told (f_yes_or_no f_looks_in f_can_look : Nat) : Fn := ⟨2, 2, false,
 (.cons (.ife (.or (.cmp .lt (.var 1) (.lit (.int 3))) (.or (.cmp .eq (.bin .mod (.var 1) (.lit (.int 2))) (.lit (.int 0))) (.not (.call f_can_look (.cons (.var 0) (.cons (.var 1) .nil)))))) (.cons (.ret (.lit (.str "none")))
  .nil) .nil)
 (.cons (.ret (.call f_yes_or_no (.cons (.call f_looks_in (.cons (.var 0) (.cons (.var 1) .nil))) .nil)))
 .nil))⟩
def F_rounds_to (f_round_in f_common f_sure_within g_MOST_LISTED_rounds f_sure_rule : Nat) : Fn := ⟨2, 6, false,
 (.cons (.set 2 (.call f_sure_rule (.cons (.var 0) .nil)))
 (.cons (.set 3 (.call f_sure_within (.cons (.var 1) (.cons (.lit (.int 1)) (.cons (.glob g_MOST_LISTED_rounds) .nil)))))
 (.cons (.set 4 (.comp [5] (.rng (.cons (.lit (.int 1)) (.cons (.bin .add (.var 3) (.lit (.int 1))) .nil))) (.one 5) (.some (.cmp .eq (.call f_common (.cons (.idx (.var 2) (.lit (.int 1))) (.cons (.var 5) .nil))) (.lit (.int 1)))) (.var 5)))
 (.cons (.ret (.bf .tuple (.cons (.comp [5] (.of (.var 4)) (.one 5) .none (.tup (.cons (.var 5) (.cons (.call f_round_in (.cons (.var 2) (.cons (.var 5) .nil))) .nil)))) .nil)))
 .nil))))⟩
def F_lies_to_2 (f_lies_in f_sure_within g_MOST_LISTED_looks f_sure_rule : Nat) : Fn := ⟨2, 5, false,
 (.cons (.set 2 (.call f_sure_rule (.cons (.var 0) .nil)))
 (.cons (.set 3 (.call f_sure_within (.cons (.var 1) (.cons (.lit (.int 1)) (.cons (.glob g_MOST_LISTED_looks) .nil)))))
 (.cons (.ret (.bf .tuple (.cons (.comp [4] (.rng (.cons (.lit (.int 3)) (.cons (.bin .add (.var 3) (.lit (.int 1))) (.cons (.lit (.int 2)) .nil)))) (.one 4) (.some (.call f_lies_in (.cons (.var 2) (.cons (.var 4) .nil)))) (.var 4)) .nil)))
 .nil)))⟩
def F_sure_number_2 (f_sure_within g_MOST_NUMBER_newprimes : Nat) : Fn := ⟨1, 1, false,
 (.cons (.ret (.call f_sure_within (.cons (.var 0) (.cons (.lit (.int 1)) (.cons (.glob g_MOST_NUMBER_newprimes) .nil)))))
 .nil)⟩
def F_lacking_to_2 (f_new_part_in f_sure_within g_MOST_LISTED_newprimes f_sure_plain : Nat) : Fn := ⟨2, 5, false,
 (.cons (.set 2 (.call f_sure_plain (.cons (.var 0) .nil)))
 (.cons (.set 3 (.call f_sure_within (.cons (.var 1) (.cons (.lit (.int 1)) (.cons (.glob g_MOST_LISTED_newprimes) .nil)))))
 (.cons (.ret (.bf .tuple (.cons (.comp [4] (.rng (.cons (.lit (.int 1)) (.cons (.bin .add (.var 3) (.lit (.int 1))) .nil))) (.one 4) (.some (.cmp .eq (.call f_new_part_in (.cons (.var 2) (.cons (.var 4) .nil))) (.lit (.int 1)))) (.var 4)) .nil)))
 .nil)))⟩
def F_is_square_term_2 (f_is_square_in f_terms_in f_sure_within g_MOST_NUMBER_squares f_sure_kind f_sure_rule : Nat) : Fn := ⟨3, 6, false,
 (.cons (.set 3 (.call f_sure_rule (.cons (.var 0) .nil)))
 (.cons (.set 4 (.call f_sure_kind (.cons (.var 1) .nil)))
 (.cons (.set 5 (.call f_sure_within (.cons (.var 2) (.cons (.lit (.int 0)) (.cons (.glob g_MOST_NUMBER_squares) .nil)))))
 (.cons (.ret (.call f_is_square_in (.cons (.idx (.call f_terms_in (.cons (.var 3) (.cons (.var 4) (.cons (.bin .add (.var 5) (.lit (.int 1))) .nil)))) (.var 5)) .nil)))
 .nil))))⟩
def F_square_places_2 (f_is_square_in f_terms_in f_sure_within g_MOST_NUMBER_squares f_sure_kind f_sure_rule : Nat) : Fn := ⟨3, 8, false,
 (.cons (.set 3 (.call f_sure_rule (.cons (.var 0) .nil)))
 (.cons (.set 4 (.call f_sure_kind (.cons (.var 1) .nil)))
 (.cons (.set 5 (.call f_terms_in (.cons (.var 3) (.cons (.var 4) (.cons (.bin .add (.call f_sure_within (.cons (.var 2) (.cons (.lit (.int 0)) (.cons (.glob g_MOST_NUMBER_squares) .nil)))) (.lit (.int 1))) .nil)))))
 (.cons (.ret (.bf .tuple (.cons (.comp [6, 7] (.enum (.var 5)) (.many [6, 7]) (.some (.call f_is_square_in (.cons (.var 7) .nil))) (.var 6)) .nil)))
 .nil))))⟩
def F_bar_of_2 (e_CanNot g_MOST_BAR f_square_rests_in f_is_square_in f_terms_in f_sure_within g_MOST_NUMBER_squares f_sure_kind f_sure_rule : Nat) : Fn := ⟨3, 8, false,
 (.cons (.set 3 (.call f_sure_rule (.cons (.var 0) .nil)))
 (.cons (.set 4 (.call f_sure_kind (.cons (.var 1) .nil)))
 (.cons (.set 5 (.call f_sure_within (.cons (.var 2) (.cons (.lit (.int 0)) (.cons (.glob g_MOST_NUMBER_squares) .nil)))))
 (.cons (.set 6 (.idx (.call f_terms_in (.cons (.var 3) (.cons (.var 4) (.cons (.bin .add (.var 5) (.lit (.int 1))) .nil)))) (.var 5)))
 (.cons (.ife (.call f_is_square_in (.cons (.var 6) .nil)) (.cons (.ret (.lit (.non)))
  .nil) .nil)
 (.cons (.fr (.rng (.cons (.lit (.int 2)) (.cons (.bin .add (.glob g_MOST_BAR) (.lit (.int 1))) .nil))) (.one 7) (.cons (.ife (.cmp .nin (.bin .mod (.var 6) (.var 7)) (.call f_square_rests_in (.cons (.var 7) .nil))) (.cons (.ret (.var 7))
   .nil) .nil)
  .nil))
 (.cons (.raise e_CanNot .none)
 .nil)))))))⟩
def F_is_bar (f_terms_in f_square_rests_in f_sure_within g_MOST_MODULUS_squares g_MOST_NUMBER_squares f_sure_kind f_sure_rule : Nat) : Fn := ⟨4, 8, false,
 (.cons (.set 4 (.call f_sure_rule (.cons (.var 0) .nil)))
 (.cons (.set 5 (.call f_sure_kind (.cons (.var 1) .nil)))
 (.cons (.set 6 (.call f_sure_within (.cons (.var 2) (.cons (.lit (.int 0)) (.cons (.glob g_MOST_NUMBER_squares) .nil)))))
 (.cons (.set 7 (.call f_sure_within (.cons (.var 3) (.cons (.lit (.int 1)) (.cons (.glob g_MOST_MODULUS_squares) .nil)))))
 (.cons (.ret (.cmp .nin (.bin .mod (.idx (.call f_terms_in (.cons (.var 4) (.cons (.var 5) (.cons (.bin .add (.var 6) (.lit (.int 1))) .nil)))) (.var 6)) (.var 7)) (.call f_square_rests_in (.cons (.var 7) .nil))))
 .nil)))))⟩
def F_walk_round_2 (f_walk_in f_sure_within g_MOST_WALKED_rounds f_sure_rule : Nat) : Fn := ⟨2, 3, false,
 (.cons (.set 2 (.call f_sure_rule (.cons (.var 0) .nil)))
 (.cons (.ret (.call f_walk_in (.cons (.var 2) (.cons (.call f_sure_within (.cons (.var 1) (.cons (.lit (.int 1)) (.cons (.glob g_MOST_WALKED_rounds) .nil)))) .nil))))
 .nil))⟩
def F_sure_walked_2 (f_sure_within g_MOST_WALKED_rounds : Nat) : Fn := ⟨1, 1, false,
 (.cons (.ret (.call f_sure_within (.cons (.var 0) (.cons (.lit (.int 1)) (.cons (.glob g_MOST_WALKED_rounds) .nil)))))
 .nil)⟩
def F_next_place_2 (e_CanNot f_rests_in f_sure_within g_MOST_PLACE_residues f_sure_walked f_sure_rule : Nat) : Fn := ⟨4, 15, false,
 (.cons (.set 4 (.call f_sure_rule (.cons (.var 0) .nil)))
 (.cons (.set 5 (.call f_sure_walked (.cons (.var 1) .nil)))
 (.cons (.set 6 (.call f_sure_within (.cons (.var 2) (.cons (.lit (.int 0)) (.cons (.bin .sub (.var 5) (.lit (.int 1))) .nil)))))
 (.cons (.set 7 (.call f_sure_within (.cons (.var 3) (.cons (.lit (.int 0)) (.cons (.glob g_MOST_PLACE_residues) .nil)))))
 (.cons (.tset [10, 11] (.call f_rests_in (.cons (.var 4) (.cons (.var 5) .nil))))
 (.cons (.set 8 (.comp [14] (.rng (.cons (.var 7) (.cons (.var 10) .nil))) (.one 14) (.some (.cmp .eq (.idx (.var 11) (.var 14)) (.var 6))) (.var 14)))
 (.cons (.ife (.cmp .ne (.var 8) (.lst .nil)) (.cons (.ret (.idx (.var 8) (.lit (.int 0))))
  .nil) .nil)
 (.cons (.tset [12, 13] (.tup (.cons (.bin .sub (.bf .len (.cons (.var 11) .nil)) (.var 10)) (.cons (.bf .max (.cons (.var 7) (.cons (.var 10) .nil))) .nil))))
 (.cons (.set 9 (.comp [14] (.rng (.cons (.var 10) (.cons (.bf .len (.cons (.var 11) .nil)) .nil))) (.one 14) (.some (.cmp .eq (.idx (.var 11) (.var 14)) (.var 6))) (.bin .mod (.bin .sub (.var 14) (.var 13)) (.var 12))))
 (.cons (.ife (.cmp .eq (.var 9) (.lst .nil)) (.cons (.raise e_CanNot .none)
  .nil) .nil)
 (.cons (.ret (.bin .add (.var 13) (.bf .min (.cons (.var 9) .nil))))
 .nil)))))))))))⟩
def F_is_claim_in_3 (f_common f_is_within g_MOST_PLACE_judge g_MOST_MODULUS_judge g_MOST_WALKED_judge f_can_look f_is_rule_in g_LENGTHS : Nat) : Fn := ⟨1, 1, false,
 (.cons (.ife (.or (.not (.isin (.var 0) [.tuple])) (.or (.cmp .eq (.var 0) (.tup .nil)) (.or (.not (.isin (.idx (.var 0) (.lit (.int 0))) [.str])) (.cmp .nin (.idx (.var 0) (.lit (.int 0))) (.glob g_LENGTHS))))) (.cons (.ret (.lit (.bl false)))
  .nil) .nil)
 (.cons (.ife (.or (.cmp .ne (.bf .len (.cons (.var 0) .nil)) (.idx (.glob g_LENGTHS) (.idx (.var 0) (.lit (.int 0))))) (.not (.call f_is_rule_in (.cons (.idx (.var 0) (.lit (.int 1))) .nil)))) (.cons (.ret (.lit (.bl false)))
  .nil) .nil)
 (.cons (.ife (.cmp .eq (.idx (.var 0) (.lit (.int 0))) (.lit (.str "prime"))) (.cons (.ret (.and (.call f_is_within (.cons (.idx (.var 0) (.lit (.int 2))) (.cons (.lit (.int 3)) (.cons (.glob g_MOST_PLACE_judge) .nil)))) (.and (.cmp .eq (.bin .mod (.idx (.var 0) (.lit (.int 2))) (.lit (.int 2))) (.lit (.int 1))) (.call f_can_look (.cons (.idx (.var 0) (.lit (.int 1))) (.cons (.idx (.var 0) (.lit (.int 2))) .nil))))))
  .nil) .nil)
 (.cons (.ife (.cmp .eq (.idx (.var 0) (.lit (.int 0))) (.lit (.str "never"))) (.cons (.ret (.and (.call f_is_within (.cons (.idx (.var 0) (.lit (.int 2))) (.cons (.lit (.int 1)) (.cons (.glob g_MOST_WALKED_judge) .nil)))) (.call f_is_within (.cons (.idx (.var 0) (.lit (.int 3))) (.cons (.lit (.int 0)) (.cons (.bin .sub (.idx (.var 0) (.lit (.int 2))) (.lit (.int 1))) .nil))))))
  .nil) .nil)
 (.cons (.ife (.or (.not (.call f_is_within (.cons (.idx (.var 0) (.lit (.int 2))) (.cons (.lit (.int 1)) (.cons (.glob g_MOST_MODULUS_judge) .nil))))) (.not (.call f_is_within (.cons (.idx (.var 0) (.lit (.int 3))) (.cons (.lit (.int 1)) (.cons (.glob g_MOST_PLACE_judge) .nil)))))) (.cons (.ret (.lit (.bl false)))
  .nil) .nil)
 (.cons (.ret (.or (.cmp .eq (.idx (.var 0) (.lit (.int 0))) (.lit (.str "divides"))) (.cmp .eq (.call f_common (.cons (.idx (.idx (.var 0) (.lit (.int 1))) (.lit (.int 1))) (.cons (.idx (.var 0) (.lit (.int 2))) .nil))) (.lit (.int 1)))))
 .nil))))))⟩
def F_square_rests_2 (f_square_rests_in f_sure_within g_MOST_MODULUS : Nat) : Fn := ⟨1, 1, false,
 (.cons (.ret (.call f_square_rests_in (.cons (.call f_sure_within (.cons (.var 0) (.cons (.lit (.int 1)) (.cons (.glob g_MOST_MODULUS) .nil)))) .nil)))
 .nil)⟩
def F_is_bar_2 (f_terms_in f_square_rests_in f_sure_within g_MOST_MODULUS g_MOST_NUMBER f_sure_kind f_sure_rule : Nat) : Fn := ⟨4, 8, false,
 (.cons (.set 4 (.call f_sure_rule (.cons (.var 0) .nil)))
 (.cons (.set 5 (.call f_sure_kind (.cons (.var 1) .nil)))
 (.cons (.set 6 (.call f_sure_within (.cons (.var 2) (.cons (.lit (.int 0)) (.cons (.glob g_MOST_NUMBER) .nil)))))
 (.cons (.set 7 (.call f_sure_within (.cons (.var 3) (.cons (.lit (.int 1)) (.cons (.glob g_MOST_MODULUS) .nil)))))
 (.cons (.ret (.cmp .nin (.bin .mod (.idx (.call f_terms_in (.cons (.var 4) (.cons (.var 5) (.cons (.bin .add (.var 6) (.lit (.int 1))) .nil)))) (.var 6)) (.var 7)) (.call f_square_rests_in (.cons (.var 7) .nil))))
 .nil)))))⟩
def F_is_divided_2 (f_pair_mod f_sure_within g_MOST_FAR g_MOST_MODULUS_far f_sure_rule : Nat) : Fn := ⟨3, 5, false,
 (.cons (.set 3 (.call f_sure_rule (.cons (.var 0) .nil)))
 (.cons (.set 4 (.call f_sure_within (.cons (.var 1) (.cons (.lit (.int 1)) (.cons (.glob g_MOST_MODULUS_far) .nil)))))
 (.cons (.ret (.cmp .eq (.idx (.call f_pair_mod (.cons (.var 3) (.cons (.call f_sure_within (.cons (.var 2) (.cons (.lit (.int 0)) (.cons (.glob g_MOST_FAR) .nil)))) (.cons (.var 4) .nil)))) (.lit (.int 0))) (.lit (.int 0))))
 .nil)))⟩
def F_divided_terms_2 (f_sure_within g_MOST_TERM g_MOST_MODULUS_far f_sure_rule : Nat) : Fn := ⟨3, 10, false,
 (.cons (.set 3 (.call f_sure_rule (.cons (.var 0) .nil)))
 (.cons (.set 4 (.call f_sure_within (.cons (.var 1) (.cons (.lit (.int 1)) (.cons (.glob g_MOST_MODULUS_far) .nil)))))
 (.cons (.set 5 (.call f_sure_within (.cons (.var 2) (.cons (.lit (.int 0)) (.cons (.glob g_MOST_TERM) .nil)))))
 (.cons (.par [7, 8, 9] [false, false, true] (.cons (.lit (.int 0)) (.cons (.bin .mod (.lit (.int 1)) (.var 4)) (.cons (.lst .nil) .nil))))
 (.cons (.fr (.rng (.cons (.lit (.int 1)) (.cons (.bin .add (.var 5) (.lit (.int 1))) .nil))) (.one 6) (.cons (.par [7, 8] [false, false] (.cons (.var 8) (.cons (.bin .mod (.bin .sub (.bin .mul (.idx (.var 3) (.lit (.int 0))) (.var 8)) (.bin .mul (.idx (.var 3) (.lit (.int 1))) (.var 7))) (.var 4)) .nil)))
  (.cons (.ife (.cmp .eq (.var 7) (.lit (.int 0))) (.cons (.expr (.app (.var 9) (.var 6)))
   .nil) .nil)
  .nil)))
 (.cons (.ret (.var 9))
 .nil))))))⟩
def F__law_power_by : Fn := ⟨3, 6, false,
 (.cons (.par [4, 5] [false, false] (.cons (.bin .mod (.lit (.int 1)) (.var 2)) (.cons (.bin .mod (.var 0) (.var 2)) .nil)))
 (.cons (.fr (.rng (.cons (.lit (.int 64)) .nil)) (.one 3) (.cons (.set 4 (.ite (.cmp .eq (.bin .mod (.var 1) (.lit (.int 2))) (.lit (.int 1))) (.bin .mod (.bin .mul (.var 4) (.var 5)) (.var 2)) (.var 4)))
  (.cons (.par [5, 1] [false, false] (.cons (.bin .mod (.bin .mul (.var 5) (.var 5)) (.var 2)) (.cons (.bin .fdiv (.var 1) (.lit (.int 2))) .nil)))
  .nil)))
 (.cons (.ret (.var 4))
 .nil)))⟩
end ML

set_option maxHeartbeats 1000000
/-! Evaluating the small language: equations. -/
namespace ML
open PySem
section
variable (gl : Nat → Option D) (cf : Nat → List D → Cells → R D) (ρ : Env) (C : Cells)
@[simp] theorem evEs_nil : evEs gl cf .nil ρ C = .ok [] C := by rw [evEs]
@[simp] theorem evEs_cons (e : E) (r : Es) : evEs gl cf (.cons e r) ρ C = (evE gl cf e ρ C).bind fun x C => (evEs gl cf r ρ C).bind fun xs C => .ok (x :: xs) C := by rw [evEs]
@[simp] theorem evOE_none : evOE gl cf .none ρ C = .ok none C := by rw [evOE]
@[simp] theorem evOE_some (e : E) : evOE gl cf (.some e) ρ C = (evE gl cf e ρ C).bind fun x C => match x with | .int i => .ok (some i) C | _ => .stuck := by rw [evOE] <;> rfl
@[simp] theorem evOT_none : evOT gl cf .none ρ C = .ok true C := by rw [evOT]
@[simp] theorem evOT_some (e : E) : evOT gl cf (.some e) ρ C = (evE gl cf e ρ C).bind fun x C => R.of (truth C x) C := by rw [evOT]
@[simp] theorem evSrc_of (e : E) : evSrc gl cf (.of e) ρ C = (evE gl cf e ρ C).bind fun x C => match x with
    | .cell i => match C[i]? with | some xs => .ok (xs, some (i, xs)) C | none => .stuck
    | x => match x.items C with | some xs => .ok (xs, none) C | none => .stuck := by rw [evSrc] <;> rfl
@[simp] theorem evSrc_rng (es : Es) : evSrc gl cf (.rng es) ρ C = (evEs gl cf es ρ C).bind fun xs C => (R.of (rngop xs) C).bind fun ys C => .ok (ys, none) C := by rw [evSrc]
@[simp] theorem evSs_nil : evSs gl cf .nil ρ C = .ok .next ρ C := by rw [evSs]
@[simp] theorem evSs_cons (s : S) (r : Ss) : evSs gl cf (.cons s r) ρ C = (evS gl cf s ρ C).seq fun ρ C => evSs gl cf r ρ C := by rw [evSs]
@[simp] theorem evEsC_nil (fl : List Bool) : evEsC gl cf fl .nil ρ C = .ok [] C := by cases fl <;> rw [evEsC]
@[simp] theorem evEsC_cons (f : Bool) (fl : List Bool) (e : E) (r : Es) : evEsC gl cf (f :: fl) (.cons e r) ρ C = (evE gl cf e ρ C).bind fun x C =>
      if f then match x with
        | .lst xs => if D.nocL xs then (evEsC gl cf fl r ρ (C ++ [xs])).bind fun ys C' => .ok (.cell C.length :: ys) C' else .stuck
        | _ => .stuck
      else (evEsC gl cf fl r ρ C).bind fun ys C' => .ok (x :: ys) C' := by rw [evEsC] <;> rfl
@[simp] theorem setAll_cons (i : Nat) (is : List Nat) (d : D) (ds : List D) : setAll (i :: is) (d :: ds) ρ = setAll is ds (ρ.set i (some d)) := rfl
@[simp] theorem setAll_nil (ds : List D) : setAll [] ds ρ = ρ := by cases ds <;> rfl
@[simp] theorem wipeE_nil : wipeE [] ρ = ρ := rfl
@[simp] theorem wipeE_cons (i : Nat) (own : List Nat) : wipeE (i :: own) ρ = (wipeE own ρ).set i none := rfl
@[simp] theorem noc_non : D.noc .non = true := by rw [D.noc] <;> simp
@[simp] theorem noc_bl (b : Bool) : D.noc (.bl b) = true := by rw [D.noc] <;> simp
@[simp] theorem noc_int (b : Int) : D.noc (.int b) = true := by rw [D.noc] <;> simp
@[simp] theorem noc_str (b : Str) : D.noc (.str b) = true := by rw [D.noc] <;> simp
@[simp] theorem noc_fn (b : Nat) : D.noc (.fn b) = true := by rw [D.noc] <;> simp
@[simp] theorem noc_exc (b : Nat) : D.noc (.exc b) = true := by rw [D.noc] <;> simp
@[simp] theorem noc_cell (b : Nat) : D.noc (.cell b) = false := by rw [D.noc]
@[simp] theorem noc_tup (xs : List D) : D.noc (.tup xs) = D.nocL xs := by rw [D.noc]
@[simp] theorem noc_lst (xs : List D) : D.noc (.lst xs) = D.nocL xs := by rw [D.noc]
@[simp] theorem nocL_nil : D.nocL [] = true := by rw [D.nocL]
@[simp] theorem nocL_cons (x : D) (xs : List D) : D.nocL (x :: xs) = (x.noc && D.nocL xs) := by rw [D.nocL]
@[simp] theorem len_nil : Es.len .nil = 0 := by rw [Es.len]
@[simp] theorem len_cons (e : E) (r : Es) : Es.len (.cons e r) = r.len + 1 := by rw [Es.len]
@[simp] theorem plainL_nil (n : Nat) : D.plainL n [] = true := by rw [D.plainL]
@[simp] theorem plainL_cons (n : Nat) (x : D) (xs : List D) : D.plainL n (x :: xs) = (D.plain n x && D.plainL n xs) := by rw [D.plainL]
end
section
variable (gl : Nat → Option D) (cf : Nat → List D → Cells → R D) (ρ : Env) (C : Cells)
/-- a loop's body; its own name, that simp leaves it alone -/
def blk (b : Ss) : Env → Cells → RS := fun ρ C => evSs gl cf b ρ C
def tst (c : E) : Env → Cells → R Bool := fun ρ C => (evE gl cf c ρ C).bind fun x C => R.of (truth C x) C
/-- a turn of a comprehension -/
def cbd (own : List Nat) (t : Tg) (c : OE) (e : E) (ρ : Env) : D → Cells → R (Option D) := fun x C =>
  (R.of (setTg t x (wipeE own ρ)) C).bind fun ρ' C => (evOT gl cf c ρ' C).bind fun k C => if k then (evE gl cf e ρ' C).bind fun y C => .ok (some y) C else .ok none C
@[simp] theorem evE_var (i : Nat) : evE gl cf (.var i) ρ C = match ρ[i]? with | some (some d) => .ok d C | _ => .stuck := by rw [evE] <;> rfl
@[simp] theorem evE_lit (d : D) : evE gl cf (.lit d) ρ C = .ok d C := by rw [evE]
@[simp] theorem evE_glob (g : Nat) : evE gl cf (.glob g) ρ C = R.of (gl g) C := by rw [evE]
@[simp] theorem evE_bin (o : Bop) (a b : E) : evE gl cf (.bin o a b) ρ C = (evE gl cf a ρ C).bind fun x C => (evE gl cf b ρ C).bind fun y C => R.of (binop o x y C) C := by rw [evE]
@[simp] theorem evE_neg (a : E) : evE gl cf (.neg a) ρ C = (evE gl cf a ρ C).bind fun x C => match x with | .int i => .ok (.int (-i)) C | _ => .stuck := by rw [evE] <;> rfl
@[simp] theorem evE_not (a : E) : evE gl cf (.not a) ρ C = (evE gl cf a ρ C).bind fun x C => (R.of (truth C x) C).bind fun b C => .ok (.bl (!b)) C := by rw [evE]
@[simp] theorem evE_and (a b : E) : evE gl cf (.and a b) ρ C = (evE gl cf a ρ C).bind fun x C => (R.of (truth C x) C).bind fun k C => if k then evE gl cf b ρ C else .ok x C := by rw [evE]
@[simp] theorem evE_or (a b : E) : evE gl cf (.or a b) ρ C = (evE gl cf a ρ C).bind fun x C => (R.of (truth C x) C).bind fun k C => if k then .ok x C else evE gl cf b ρ C := by rw [evE]
@[simp] theorem evE_cmp (o : Cop) (a b : E) : evE gl cf (.cmp o a b) ρ C = (evE gl cf a ρ C).bind fun x C => (evE gl cf b ρ C).bind fun y C => (R.of (cmpop o x y C) C).bind fun b C => .ok (.bl b) C := by rw [evE]
@[simp] theorem evE_chain (o p : Cop) (a b c : E) : evE gl cf (.chain o p a b c) ρ C = (evE gl cf a ρ C).bind fun x C => (evE gl cf b ρ C).bind fun y C => (R.of (cmpop o x y C) C).bind fun k C =>
      if k then (evE gl cf c ρ C).bind fun z C => (R.of (cmpop p y z C) C).bind fun b C => .ok (.bl b) C else .ok (.bl false) C := by rw [evE]
@[simp] theorem evE_isC (n : Bool) (a : E) (d : D) : evE gl cf (.isC n a d) ρ C = (evE gl cf a ρ C).bind fun x C => (R.of (isop d x) C).bind fun b C => .ok (.bl (if n then !b else b)) C := by rw [evE]
@[simp] theorem evE_ite (c a b : E) : evE gl cf (.ite c a b) ρ C = (evE gl cf c ρ C).bind fun x C => (R.of (truth C x) C).bind fun k C => if k then evE gl cf a ρ C else evE gl cf b ρ C := by rw [evE]
@[simp] theorem evE_tup (es : Es) : evE gl cf (.tup es) ρ C = (evEs gl cf es ρ C).bind fun xs C => .ok (.tup xs) C := by rw [evE]
@[simp] theorem evE_lst (es : Es) : evE gl cf (.lst es) ρ C = (evEs gl cf es ρ C).bind fun xs C => .ok (.lst xs) C := by rw [evE]
@[simp] theorem evE_idx (a b : E) : evE gl cf (.idx a b) ρ C = (evE gl cf a ρ C).bind fun x C => (evE gl cf b ρ C).bind fun y C => R.of (idxop x y C) C := by rw [evE]
@[simp] theorem evE_sl (a : E) (lo hi : OE) : evE gl cf (.sl a lo hi) ρ C = (evE gl cf a ρ C).bind fun x C => (evOE gl cf lo ρ C).bind fun l C => (evOE gl cf hi ρ C).bind fun h C => R.of (slop x l h C) C := by rw [evE]
@[simp] theorem evE_call (f : Nat) (es : Es) : evE gl cf (.call f es) ρ C = (evEs gl cf es ρ C).bind fun xs C => cf f xs C := by rw [evE]
@[simp] theorem evE_callk (f : Nat) (es ks : Es) (pm : List Nat) : evE gl cf (.callk f es ks pm) ρ C = (evEs gl cf es ρ C).bind fun xs C => (evEs gl cf ks ρ C).bind fun ys C => (R.of (permute pm (xs ++ ys)) C).bind fun zs C => cf f zs C := by rw [evE]
@[simp] theorem evE_bf (b : Bf) (es : Es) : evE gl cf (.bf b es) ρ C = (evEs gl cf es ρ C).bind fun xs C => R.of (blt b xs C) C := by rw [evE]
@[simp] theorem evE_isin (a : E) (ts : List Ty) : evE gl cf (.isin a ts) ρ C = (evE gl cf a ρ C).bind fun x C => (R.of (isTys C x ts) C).bind fun b C => .ok (.bl b) C := by rw [evE]
@[simp] theorem evE_lof (s : Src) : evE gl cf (.lof s) ρ C = (evSrc gl cf s ρ C).bind fun p C => if p.1.length ≤ 16777216 then .ok (.lst p.1) C else .stuck := by rw [evE]
@[simp] theorem evE_comp (own : List Nat) (s : Src) (t : Tg) (c : OE) (e : E) : evE gl cf (.comp own s t c e) ρ C = (evSrc gl cf s ρ C).bind fun p C => if p.1.length ≤ 16777216 then
      (cloop p.2 p.1 (cbd gl cf own t c e ρ) p.1 [] C).bind fun ys C => .ok (.lst ys) C else .stuck := by rw [evE] <;> rfl
@[simp] theorem evE_app (a e : E) : evE gl cf (.app a e) ρ C = (evE gl cf a ρ C).bind fun x C => match x with
    | .cell i => (evE gl cf e ρ C).bind fun y C => match C[i]? with
      | some xs => if xs.length < 16777216 ∧ y.noc = true then .ok .non (C.set i (xs ++ [y])) else .stuck
      | none => .stuck
    | _ => .stuck := by rw [evE] <;> rfl
@[simp] theorem evE_ext (a e : E) : evE gl cf (.ext a e) ρ C = (evE gl cf a ρ C).bind fun x C => match x with
    | .cell i => (evE gl cf e ρ C).bind fun y C => match y.val C, C[i]? with
      | .lst ys, some xs => if xs.length + ys.length ≤ 16777216 ∧ D.nocL ys = true then .ok .non (C.set i (xs ++ ys)) else .stuck
      | _, _ => .stuck
    | _ => .stuck := by rw [evE] <;> rfl
@[simp] theorem evS_set (i : Nat) (e : E) : evS gl cf (.set i e) ρ C = (evE gl cf e ρ C).toS ρ fun x C => .ok .next (ρ.set i (some x)) C := by rw [evS]
/-- a new cell -/
def newC (i : Nat) (ρ : Env) (x : D) (C : Cells) : RS := match x with
    | .lst xs => if D.nocL xs then .ok .next (ρ.set i (some (.cell C.length))) (C ++ [xs]) else .stuck
    | _ => .stuck
@[simp] theorem newC_lst (i : Nat) (xs : List D) : newC i ρ (.lst xs) C = if D.nocL xs then .ok .next (ρ.set i (some (.cell C.length))) (C ++ [xs]) else .stuck := rfl
@[simp] theorem evS_setC (i : Nat) (e : E) : evS gl cf (.setC i e) ρ C = (evE gl cf e ρ C).toS ρ fun x C => newC i ρ x C := by rw [evS] <;> rfl
@[simp] theorem evS_tset (is : List Nat) (e : E) : evS gl cf (.tset is e) ρ C = (evE gl cf e ρ C).toS ρ fun x C => match setTg (.many is) x ρ with | some ρ' => .ok .next ρ' C | none => .stuck := by rw [evS] <;> rfl
@[simp] theorem evS_par (is : List Nat) (fl : List Bool) (es : Es) : evS gl cf (.par is fl es) ρ C = (evEsC gl cf fl es ρ C).toS ρ fun ds C => if ds.length = is.length then .ok .next (setAll is ds ρ) C else .stuck := by rw [evS]
/-- a[i] = y -/
def seti1 (ρ : Env) (y x k : D) (C : Cells) : RS := match x, k with
    | .cell i, .int k => match C[i]? with
      | some xs => match ixn xs.length k with
        | some j => if y.noc then .ok .next ρ (C.set i (xs.set j y)) else .stuck
        | none => .stuck
      | none => .stuck
    | _, _ => .stuck
@[simp] theorem evS_seti (a i e : E) : evS gl cf (.seti a i e) ρ C = (evE gl cf e ρ C).toS ρ fun y C => (evE gl cf a ρ C).toS ρ fun x C => (evE gl cf i ρ C).toS ρ fun k C => seti1 ρ y x k C := by rw [evS] <;> rfl
@[simp] theorem evS_expr (e : E) : evS gl cf (.expr e) ρ C = (evE gl cf e ρ C).toS ρ fun _ C => .ok .next ρ C := by rw [evS]
@[simp] theorem evS_ret (e : E) : evS gl cf (.ret e) ρ C = (evE gl cf e ρ C).toS ρ fun x C => .ok (.ret x) ρ C := by rw [evS]
def retC1 (ρ : Env) (x : D) (C : Cells) : RS := match x with
    | .lst xs => if D.nocL xs then .ok (.ret (.cell C.length)) ρ (C ++ [xs]) else .stuck
    | _ => .stuck
@[simp] theorem retC1_lst (xs : List D) : retC1 ρ (.lst xs) C = if D.nocL xs then .ok (.ret (.cell C.length)) ρ (C ++ [xs]) else .stuck := rfl
@[simp] theorem evS_retC (e : E) : evS gl cf (.retC e) ρ C = (evE gl cf e ρ C).toS ρ fun x C => retC1 ρ x C := by rw [evS] <;> rfl
@[simp] theorem evS_ife (c : E) (a b : Ss) : evS gl cf (.ife c a b) ρ C = (evE gl cf c ρ C).toS ρ fun x C => (R.of (truth C x) C).toS ρ fun k C => if k then evSs gl cf a ρ C else evSs gl cf b ρ C := by rw [evS]
@[simp] theorem evS_whl (c : E) (b : Ss) : evS gl cf (.whl c b) ρ C = wloop (tst gl cf c) (blk gl cf b) WMAX ρ C := by rw [evS] <;> rfl
@[simp] theorem evS_fr (s : Src) (t : Tg) (b : Ss) : evS gl cf (.fr s t b) ρ C = (evSrc gl cf s ρ C).toS ρ fun p C => floop p.2 p.1 t (blk gl cf b) p.1 ρ C := by rw [evS] <;> rfl
@[simp] theorem evS_pass : evS gl cf .pass ρ C = .ok .next ρ C := by rw [evS]
@[simp] theorem evS_brk : evS gl cf .brk ρ C = .ok .brk ρ C := by rw [evS]
@[simp] theorem evS_cont : evS gl cf .cont ρ C = .ok .cont ρ C := by rw [evS]
@[simp] theorem evS_raise (c : Nat) : evS gl cf (.raise c .none) ρ C = .exc c .non ρ C := by rw [evS]
end
section
variable {C : Cells}
@[simp] theorem toS_bind {α β : Type} (r : R α) (k : α → Cells → R β) (ρ : Env) (h : β → Cells → RS) : (r.bind k).toS ρ h = r.toS ρ fun a C => (k a C).toS ρ h := by cases r <;> rfl
@[simp] theorem bind_bind {α β γ : Type} (r : R α) (k : α → Cells → R β) (h : β → Cells → R γ) : (r.bind k).bind h = r.bind fun a C => (k a C).bind h := by cases r <;> rfl
@[simp] theorem setTg_one (i : Nat) (x : D) (ρ : Env) : setTg (.one i) x ρ = some (ρ.set i (some x)) := rfl
@[simp] theorem setTg_many (is : List Nat) (ds : List D) (ρ : Env) : setTg (.many is) (.tup ds) ρ = if ds.length = is.length then some (setAll is ds ρ) else none := rfl
@[simp] theorem truth_bl (b : Bool) : truth C (.bl b) = some b := rfl
@[simp] theorem truth_non : truth C .non = some false := rfl
@[simp] theorem truth_int (i : Int) : truth C (.int i) = some (i != 0) := rfl
@[simp] theorem truth_tup (xs : List D) : truth C (.tup xs) = some (!xs.isEmpty) := rfl
@[simp] theorem truth_lst (xs : List D) : truth C (.lst xs) = some (!xs.isEmpty) := rfl
@[simp] theorem val_tup' (xs : List D) : (D.tup xs).val C = .tup xs := rfl
@[simp] theorem val_lst' (xs : List D) : (D.lst xs).val C = .lst xs := rfl
@[simp] theorem val_int' (i : Int) : (D.int i).val C = .int i := rfl
@[simp] theorem items_tup' (xs : List D) : (D.tup xs).items C = some xs := rfl
@[simp] theorem items_lst' (xs : List D) : (D.lst xs).items C = some xs := rfl
theorem items_cell {i : Nat} {xs : List D} (h : C[i]? = some xs) : (D.cell i).items C = some xs := h
theorem val_cell {i : Nat} {xs : List D} (h : C[i]? = some xs) : (D.cell i).val C = .lst xs := by simp [D.val, h]
@[simp] theorem isTys_nil (x : D) : isTys C x [] = some false := rfl
@[simp] theorem isTys_one (x : D) (t : Ty) : isTys C x [t] = isTy C x t := by
  simp only [isTys]
  cases isTy C x t with
  | none => rfl
  | some b => cases b <;> rfl
@[simp] theorem isTys_two (x : D) (t u : Ty) : isTys C x [t, u] = (isTy C x t).bind fun b => if b then some true else isTy C x u := by
  simp only [isTys]
  cases isTy C x t with
  | none => rfl
  | some b =>
    cases b
    · simp only [Option.bind_some]
      cases isTy C x u with
      | none => rfl
      | some b => cases b <;> rfl
    · rfl
@[simp] theorem isTy_non (t : Ty) : isTy C .non t = some false := rfl
@[simp] theorem isTy_bl (b : Bool) (t : Ty) : isTy C (.bl b) t = some (t == .bool || t == .int) := rfl
@[simp] theorem isTy_int (i : Int) (t : Ty) : isTy C (.int i) t = some (t == .int) := rfl
@[simp] theorem isTy_str (s : Str) (t : Ty) : isTy C (.str s) t = some (t == .str) := rfl
@[simp] theorem isTy_tup (s : List D) (t : Ty) : isTy C (.tup s) t = some (t == .tuple) := rfl
@[simp] theorem isTy_lst (s : List D) (t : Ty) : isTy C (.lst s) t = some (t == .list) := rfl
@[simp] theorem add_int (i j : Int) : binop .add (.int i) (.int j) C = some (.int (i + j)) := rfl
@[simp] theorem sub_int (i j : Int) : binop .sub (.int i) (.int j) C = some (.int (i - j)) := rfl
theorem mul_int (i j : Int) (h : bits i < 63 ∨ bits j < 63 ∨ bits i + bits j < 1000000) : binop .mul (.int i) (.int j) C = some (.int (i * j)) := by
  show (if bits i + bits j < 1000000 ∨ bits i < 63 ∨ bits j < 63 then some (D.int (i * j)) else none) = _
  rw [if_pos (by omega)]
theorem fdiv_intN (i j : Int) (h : j ≠ 0) (h2 : bits j < 9000) : binop .fdiv (.int i) (.int j) C = some (.int (i.fdiv j)) := by
  show (if j ≠ 0 ∧ bits j < 9000 then some (D.int (i.fdiv j)) else none) = _
  rw [if_pos ⟨h, h2⟩]
theorem fdiv_int (i j : Int) (h : 0 < j) (h2 : bits j < 9000) : binop .fdiv (.int i) (.int j) C = some (.int (i / j)) := by
  rw [fdiv_intN i j (by omega) h2, Int.fdiv_eq_ediv_of_nonneg i (by omega)]
theorem mod_intN (i j : Int) (h : j ≠ 0) : binop .mod (.int i) (.int j) C = some (.int (i.fmod j)) := by
  show (if j ≠ 0 then some (D.int (i.fmod j)) else none) = _
  rw [if_pos h]
theorem mod_int (i j : Int) (h : 0 < j) : binop .mod (.int i) (.int j) C = some (.int (i % j)) := by
  rw [mod_intN i j (by omega), Int.fmod_eq_emod_of_nonneg i (by omega)]
@[simp] theorem cmp_lt (i j : Int) : cmpop .lt (.int i) (.int j) C = some (decide (i < j)) := rfl
@[simp] theorem cmp_le (i j : Int) : cmpop .le (.int i) (.int j) C = some (decide (i ≤ j)) := rfl
@[simp] theorem cmp_gt (i j : Int) : cmpop .gt (.int i) (.int j) C = some (decide (j < i)) := rfl
@[simp] theorem cmp_ge (i j : Int) : cmpop .ge (.int i) (.int j) C = some (decide (j ≤ i)) := rfl
@[simp] theorem cmp_eq (x y : D) : cmpop .eq x y C = deq C x y := rfl
@[simp] theorem cmp_ne (x y : D) : cmpop .ne x y C = (deq C x y).map (! ·) := rfl
@[simp] theorem cmp_in (x : D) (ys : List D) : cmpop .inn x (.tup ys) C = din C x ys := rfl
@[simp] theorem cmp_nin (x : D) (ys : List D) : cmpop .nin x (.tup ys) C = (din C x ys).map (! ·) := rfl
@[simp] theorem deq_int (i j : Int) : deq C (.int i) (.int j) = some (decide (i = j)) := by
  simp only [deq, D.val, D.plain, D.py, PyData.eqv, Bool.and_self, if_true, Option.some.injEq]
  by_cases h : i = j <;> simp [h]
@[simp] theorem deq_bl (i j : Bool) : deq C (.bl i) (.bl j) = some (i == j) := rfl
@[simp] theorem deq_non : deq C .non .non = some true := rfl
theorem deq_str (s t : Str) (h : s.cps.all (· < 0x110000) = true) (h2 : t.cps.all (· < 0x110000) = true) : deq C (.str s) (.str t) = some (s == t) := by
  simp only [deq, D.val, D.plain, D.py, PyData.eqv, h, h2, Bool.and_self, if_true]
@[simp] theorem isop_non_non : isop .non .non = some true := rfl
@[simp] theorem isop_non_int (i : Int) : isop .non (.int i) = some false := rfl
@[simp] theorem isop_non_bl (i : Bool) : isop .non (.bl i) = some false := rfl
@[simp] theorem isop_non_str (i : Str) : isop .non (.str i) = some false := rfl
@[simp] theorem isop_non_tup (i : List D) : isop .non (.tup i) = some false := rfl
@[simp] theorem isop_non_lst (i : List D) : isop .non (.lst i) = some false := rfl
@[simp] theorem bf_abs (i : Int) : blt .abs [.int i] C = some (.int (if i < 0 then -i else i)) := rfl
@[simp] theorem bf_int (i : Int) : blt .int [.int i] C = some (.int i) := rfl
@[simp] theorem bf_intb (k : Bool) : blt .int [.bl k] C = some (.int (if k then 1 else 0)) := rfl
@[simp] theorem bf_len (x : D) : blt .len [x] C = (x.items C).map fun xs => .int xs.length := rfl
@[simp] theorem bf_max (i j : Int) : blt .max [.int i, .int j] C = some (.int (if j > i then j else i)) := rfl
@[simp] theorem bf_min (i j : Int) : blt .min [.int i, .int j] C = some (.int (if j < i then j else i)) := rfl
@[simp] theorem bf_tuple (x : D) : blt .tuple [x] C = (x.items C).map D.tup := rfl
@[simp] theorem bf_list (x : D) : blt .list [x] C = (x.items C).map D.lst := rfl
@[simp] theorem bf_all (xs : List D) : blt .all [.lst xs] C = (boolsD xs).map fun bs => .bl (bs.all id) := rfl
/-- the j-th of a list; its own name, that simp leaves it alone -/
def atD (xs : List D) (j : Nat) : Option D := xs[j]?
@[simp] theorem atD_zero (x : D) (xs : List D) : atD (x :: xs) 0 = some x := rfl
@[simp] theorem atD_succ (x : D) (xs : List D) (j : Nat) : atD (x :: xs) (j + 1) = atD xs j := rfl
@[simp] theorem idx_int (x : D) (i : Int) : idxop x (.int i) C = match x.items C with | some xs => (ixn xs.length i).bind (atD xs) | none => sidx x i := by
  simp only [idxop]
  rfl
@[simp] theorem items_str' (s : Str) : (D.str s).items C = none := rfl
@[simp] theorem ixn_20 : ixn 2 0 = some 0 := rfl
@[simp] theorem ixn_21 : ixn 2 1 = some 1 := rfl
@[simp] theorem ixn_30 : ixn 3 0 = some 0 := rfl
@[simp] theorem ixn_31 : ixn 3 1 = some 1 := rfl
@[simp] theorem ixn_32 : ixn 3 2 = some 2 := rfl
@[simp] theorem held_none (xs : List D) : held none xs C = true := rfl
/-- what a def gives for what its body gives -/
def retR (rc : Bool) (n : Nat) (r : RS) : R D :=
  match r with
  | .ok (.ret v) _ C' => fin rc n v C'
  | .ok .next _ C' => fin rc n .non C'
  | .exc c x _ C' => if x.noc then .exc c x (C'.take n) else .stuck
  | _ => .stuck
@[simp] theorem retR_ret (rc : Bool) (n : Nat) (v : D) (ρ : Env) (C : Cells) : retR rc n (.ok (.ret v) ρ C) = fin rc n v C := rfl
@[simp] theorem retR_next (rc : Bool) (n : Nat) (ρ : Env) (C : Cells) : retR rc n (.ok .next ρ C) = fin rc n .non C := rfl
@[simp] theorem retR_exc (rc : Bool) (n : Nat) (c : Nat) (ρ : Env) (C : Cells) : retR rc n (.exc c .non ρ C) = .exc c .non (C.take n) := rfl
theorem fin_noc {v : D} (h : v.noc = true) (rc : Bool) (n : Nat) (C : Cells) : fin rc n v C = .ok v (C.take n) := by
  cases v with
  | tup xs => show (if (D.tup xs).noc then R.ok _ _ else R.stuck) = _; rw [if_pos h]
  | lst xs => show (if (D.lst xs).noc then R.ok _ _ else R.stuck) = _; rw [if_pos h]
  | cell i => simp at h
  | _ => rfl
@[simp] theorem fin_non (rc : Bool) (n : Nat) (C : Cells) : fin rc n .non C = .ok .non (C.take n) := rfl
@[simp] theorem fin_bl (b : Bool) (rc : Bool) (n : Nat) (C : Cells) : fin rc n (.bl b) C = .ok (.bl b) (C.take n) := rfl
@[simp] theorem fin_int (b : Int) (rc : Bool) (n : Nat) (C : Cells) : fin rc n (.int b) C = .ok (.int b) (C.take n) := rfl
@[simp] theorem fin_str (b : Str) (rc : Bool) (n : Nat) (C : Cells) : fin rc n (.str b) C = .ok (.str b) (C.take n) := rfl
theorem callF_eq {T : Tab} {d f : Nat} {F : Fn} {xs : List D} {C : Cells} (h : T.fn f = some F) (hl : xs.length = F.np) :
    callF T (d + 1) f xs C = retR F.rc C.length (evSs T.glob (callF T d) F.body (xs.map some ++ List.replicate (F.nv - F.np) none) C) := by
  simp only [callF, h, hl, if_true]
  cases evSs T.glob (callF T d) F.body (xs.map some ++ List.replicate (F.nv - F.np) none) C with
  | ok fl ρ C => cases fl <;> rfl
  | exc c x ρ C => rfl
  | stuck => rfl
end
def isNum : D → Bool
  | .int _ => true
  | _ => false
/-- neither cell nor def nor error -/
def D.data : D → Bool
  | .cell _ => false
  | .fn _ => false
  | .exc _ => false
  | _ => true
section
variable {T : Tab} {d : Nat} {C : Cells}
theorem s_is_number {f : Nat} (h : T.fn f = some F_is_number) (x : D) (hx : x.data = true) : callF T (d + 1) f [x] C = .ok (.bl (isNum x)) C := by
  rw [callF_eq h rfl]
  cases x <;> simp [F_is_number, isNum] <;> simp [D.data] at hx
theorem s_is_within {f g : Nat} (h : T.fn f = some (F_is_within g)) (hg : T.fn g = some F_is_number) (i a b : Int) : callF T (d + 2) f [.int i, .int a, .int b] C = .ok (.bl (decide (a ≤ i ∧ i ≤ b))) C := by
  rw [callF_eq h rfl]
  have := @s_is_number T d C g hg (.int i) rfl
  simp [F_is_within, this, isNum]
  by_cases h1 : a ≤ i <;> simp [h1]
end
end ML

set_option maxHeartbeats 1000000
/-! Loops. -/
namespace ML
open PySem
/-- how it ends: with P; a structure, that nothing looks through it -/
structure wps (r : RS) (P : Fl → Env → Cells → Prop) : Prop where
  get : ∃ fl ρ C, r = .ok fl ρ C ∧ P fl ρ C
theorem wps_get {r : RS} {P : Fl → Env → Cells → Prop} (h : wps r P) : ∃ fl ρ C, r = .ok fl ρ C ∧ P fl ρ C := h.get
@[simp] theorem wps_ok (fl : Fl) (ρ : Env) (C : Cells) (P : Fl → Env → Cells → Prop) : wps (.ok fl ρ C) P = P fl ρ C := by
  apply propext
  constructor
  · rintro ⟨fl', ρ', C', e, p⟩; cases e; exact p
  · intro p; exact ⟨fl, ρ, C, rfl, p⟩
@[simp] theorem wps_stuck (P : Fl → Env → Cells → Prop) : wps .stuck P = False := by
  apply propext
  constructor
  · rintro ⟨fl', ρ', C', e, p⟩; cases e
  · exact False.elim
@[simp] theorem wps_exc (c : Nat) (x : D) (ρ : Env) (C : Cells) (P : Fl → Env → Cells → Prop) : wps (.exc c x ρ C) P = False := by
  apply propext
  constructor
  · rintro ⟨fl', ρ', C', e, p⟩; cases e
  · exact False.elim
theorem wps_imp {r : RS} {P Q : Fl → Env → Cells → Prop} (h : wps r P) (k : ∀ fl ρ C, P fl ρ C → Q fl ρ C) : wps r Q := by
  obtain ⟨fl, ρ, C, rfl, p⟩ := wps_get h
  rw [wps_ok]; exact k _ _ _ p
/-- behind a turn -/
def turnP (I : Env → Cells → Prop) (P : Fl → Env → Cells → Prop) : Fl → Env → Cells → Prop := fun fl ρ C => match fl with
  | .next => I ρ C
  | .cont => I ρ C
  | .brk => P .next ρ C
  | .ret v => P (.ret v) ρ C
@[simp] theorem turnP_next (I : Env → Cells → Prop) (P : Fl → Env → Cells → Prop) (ρ : Env) (C : Cells) : turnP I P .next ρ C = I ρ C := rfl
@[simp] theorem turnP_cont (I : Env → Cells → Prop) (P : Fl → Env → Cells → Prop) (ρ : Env) (C : Cells) : turnP I P .cont ρ C = I ρ C := rfl
@[simp] theorem turnP_brk (I : Env → Cells → Prop) (P : Fl → Env → Cells → Prop) (ρ : Env) (C : Cells) : turnP I P .brk ρ C = P .next ρ C := rfl
@[simp] theorem turnP_ret (I : Env → Cells → Prop) (P : Fl → Env → Cells → Prop) (v : D) (ρ : Env) (C : Cells) : turnP I P (.ret v) ρ C = P (.ret v) ρ C := rfl
theorem wps_turn {r : RS} {k : Env → Cells → RS} {P : Fl → Env → Cells → Prop} (h : wps r (turnP (fun ρ C => wps (k ρ C) P) P)) : wps (r.turn k) P := by
  obtain ⟨fl, ρ, C, rfl, p⟩ := wps_get h
  cases fl with
  | next => exact p
  | cont => exact p
  | brk => rw [RS.turn_brk, wps_ok]; exact p
  | ret v => rw [RS.turn_ret, wps_ok]; exact p
theorem wloop_inv {c : Env → Cells → R Bool} {b : Env → Cells → RS} {P : Fl → Env → Cells → Prop} (I : Nat → Env → Cells → Prop)
    (step : ∀ m ρ C, I m ρ C → ∃ k, c ρ C = .ok k C ∧ (k = false → P .next ρ C) ∧ (k = true → wps (b ρ C) (turnP (fun ρ' C' => ∃ m', m' < m ∧ I m' ρ' C') P))) :
    ∀ (n m : Nat) (ρ : Env) (C : Cells), m < n → I m ρ C → wps (wloop c b n ρ C) P
  | 0, _, _, _, h, _ => absurd h (Nat.not_lt_zero _)
  | n + 1, m, ρ, C, h, hI => by
    obtain ⟨k, e, h0, h1⟩ := step m ρ C hI
    rw [wloop_succ, e]
    cases k with
    | false => simp only [R.toS_ok, Bool.false_eq_true, if_false, wps_ok]; exact h0 rfl
    | true =>
      simp only [R.toS_ok, if_true]
      refine wps_turn (wps_imp (h1 rfl) fun fl ρ' C' p => ?_)
      cases fl with
      | next => obtain ⟨m', hm, q⟩ := p; exact wloop_inv I step n m' ρ' C' (by omega) q
      | cont => obtain ⟨m', hm, q⟩ := p; exact wloop_inv I step n m' ρ' C' (by omega) q
      | brk => exact p
      | ret v => exact p
theorem floop_inv {gd : Option (Nat × List D)} {all : List D} {t : Tg} {b : Env → Cells → RS} {P : Fl → Env → Cells → Prop} (I : List D → Env → Cells → Prop)
    (step : ∀ x xs ρ C, I (x :: xs) ρ C → ∃ ρ', setTg t x ρ = some ρ' ∧ wps (b ρ' C) (turnP (fun ρ' C' => held gd all C' = true ∧ I xs ρ' C') P)) (fin : ∀ ρ C, I [] ρ C → P .next ρ C) :
    ∀ (xs : List D) (ρ : Env) (C : Cells), I xs ρ C → wps (floop gd all t b xs ρ C) P
  | [], ρ, C, h => by rw [floop, wps_ok]; exact fin ρ C h
  | x :: xs, ρ, C, h => by
    obtain ⟨ρ', e, w⟩ := step x xs ρ C h
    rw [floop, e]
    refine wps_turn (wps_imp w fun fl ρ' C' p => ?_)
    cases fl with
    | next =>
      show wps (if held gd all C' = true then floop gd all t b xs ρ' C' else .stuck) P
      rw [if_pos p.1]; exact floop_inv I step fin xs ρ' C' p.2
    | cont =>
      show wps (if held gd all C' = true then floop gd all t b xs ρ' C' else .stuck) P
      rw [if_pos p.1]; exact floop_inv I step fin xs ρ' C' p.2
    | brk => exact p
    | ret v => exact p
/-- over range(a, b): the i-th turn -/
theorem floop_rng {t : Nat} {b : Env → Cells → RS} {P : Fl → Env → Cells → Prop} {a : Int} {n : Nat} (I : Nat → Env → Cells → Prop)
    (step : ∀ k ρ C, k < n → I k ρ C → wps (b (ρ.set t (some (.int (a + (k : Nat))))) C) (turnP (fun ρ' C' => I (k + 1) ρ' C') P)) (fin : ∀ ρ C, I n ρ C → P .next ρ C) {all : List D} {ρ : Env} {C : Cells} (h : I 0 ρ C) :
    wps (floop none all (.one t) b ((List.range n).map fun i => D.int (a + (i : Nat))) ρ C) P := by
  have key : ∀ (m k : Nat) (ρ : Env) (C : Cells), k + m = n → I k ρ C → wps (floop none all (.one t) b ((List.range' k m).map fun i => D.int (a + (i : Nat))) ρ C) P := by
    intro m
    induction m with
    | zero => intro k ρ C hk h; rw [List.range'_zero, List.map_nil, floop, wps_ok]; exact fin ρ C (by rw [← hk]; exact h)
    | succ m ih =>
      intro k ρ C hk h
      rw [List.range'_succ, List.map_cons, floop]
      simp only [setTg_one]
      refine wps_turn (wps_imp (step k ρ C (by omega) h) fun fl ρ' C' p => ?_)
      cases fl with
      | next => exact ih (k + 1) ρ' C' (by omega) p
      | cont => exact ih (k + 1) ρ' C' (by omega) p
      | brk => exact p
      | ret v => exact p
  have := key n 0 ρ C (by omega) h
  rwa [← List.range_eq_range'] at this
theorem floop_rng0 {t : Nat} {b : Env → Cells → RS} {P : Fl → Env → Cells → Prop} {n : Nat} (I : Nat → Env → Cells → Prop)
    (step : ∀ k ρ C, k < n → I k ρ C → wps (b (ρ.set t (some (.int (k : Nat)))) C) (turnP (fun ρ' C' => I (k + 1) ρ' C') P)) (fin : ∀ ρ C, I n ρ C → P .next ρ C) {all : List D} {ρ : Env} {C : Cells} (h : I 0 ρ C) :
    wps (floop none all (.one t) b ((List.range n).map fun i => D.int (i : Nat)) ρ C) P := by
  have := floop_rng (a := 0) (all := all) I (fun k ρ C h1 h2 => by rw [Int.zero_add]; exact step k ρ C h1 h2) fin h
  simpa only [Int.zero_add] using this
section
variable {C : Cells}
@[simp] theorem last_get (xs : List D) : (C ++ [xs])[C.length]? = some xs := by simp
@[simp] theorem last_set (xs ys : List D) : (C ++ [xs]).set C.length ys = C ++ [ys] := by simp
@[simp] theorem last_take (xs : List D) : (C ++ [xs]).take C.length = C := by simp
end
/-- u and v of the rule (p, q) -/
def U (p q : Int) : Nat → Int
  | 0 => 0
  | 1 => 1
  | n + 2 => p * U p q (n + 1) - q * U p q n
def V (p q : Int) : Nat → Int
  | 0 => 2
  | 1 => p
  | n + 2 => p * V p q (n + 1) - q * V p q n
def rowL (f : Nat → Int) (n : Nat) : List D := (List.range n).map fun i => .int (f i)
theorem rowL_len (f : Nat → Int) (n : Nat) : (rowL f n).length = n := by simp [rowL]
theorem rowL_succ (f : Nat → Int) (n : Nat) : rowL f (n + 1) = rowL f n ++ [.int (f n)] := by simp [rowL, List.range_succ]
theorem rowL_at {f : Nat → Int} {n i : Nat} (h : i < n) : atD (rowL f n) i = some (.int (f i)) := by simp [atD, rowL, h]
theorem rowL_noc (f : Nat → Int) (n : Nat) : D.nocL (rowL f n) = true := by
  induction n with
  | zero => rfl
  | succ n ih =>
    rw [rowL_succ]
    have : ∀ (xs : List D) (i : Int), D.nocL xs = true → D.nocL (xs ++ [.int i]) = true := by
      intro xs
      induction xs with
      | nil => intro i _; rfl
      | cons x xs ih => intro i h; simp at h ⊢; exact ⟨h.1, ih i h.2⟩
    exact this _ _ ih
theorem rowL_take (f : Nat → Int) {n k : Nat} (h : k ≤ n) : (rowL f n).take k = rowL f k := by
  simp only [rowL, ← List.map_take, List.take_range, Nat.min_eq_left h]
abbrev ruleD (p q : Int) : D := .tup [.int p, .int q]
section
variable {T : Tab} {d : Nat} {C : Cells}
theorem ixn_neg {n k : Nat} (h : 0 < k) (h2 : k ≤ n) : ixn n (-(k : Int)) = some (n - k) := by
  unfold ixn
  rw [if_neg (by omega), if_pos (by omega)]
  congr 1
  omega
theorem ixn_pos {n k : Nat} (h : k < n) : ixn n (k : Int) = some k := by
  unfold ixn
  rw [if_pos (by omega), if_pos (by omega)]
  rfl
theorem slop_cellTo {i : Nat} {xs : List D} {n : Nat} (h : C[i]? = some xs) : slop (.cell i) none (some (n : Int)) C = some (.lst (xs.take n)) := by
  simp only [slop, val_cell h, cut, six]
  rw [if_neg (by omega)]
  congr 2
  rw [List.drop_zero, Nat.sub_zero, Int.toNat_natCast]
  rw [Nat.min_def]
  split
  · rfl
  · rw [List.take_of_length_le (by omega), List.take_of_length_le (by omega)]
theorem fin_lst {xs : List D} (h : D.nocL xs = true) (rc : Bool) (n : Nat) : fin rc n (.lst xs) C = .ok (.lst xs) (C.take n) := fin_noc (by rw [D.noc]; exact h) rc n C
theorem fin_tup {xs : List D} (h : D.nocL xs = true) (rc : Bool) (n : Nat) : fin rc n (.tup xs) C = .ok (.tup xs) (C.take n) := fin_noc (by rw [D.noc]; exact h) rc n C
theorem rngop_nat {n : Nat} (h : n < 2 ^ 62) : rngop [D.int n] = some ((List.range n).map fun i => D.int (i : Nat)) := by
  have : rngOk (n : Int) = true := by unfold rngOk; exact decide_eq_true (by omega)
  simp [rngop, this, rangeD]
/-- a row that goes on by the rule -/
def Row (p q : Int) (f : Nat → Int) : Prop := ∀ k, f (k + 2) = p * f (k + 1) - q * f k
theorem rowU (p q : Int) : Row p q (U p q) := fun _ => rfl
theorem rowV (p q : Int) : Row p q (V p q) := fun _ => rfl
def bRow (i : Nat) : Ss := .cons (.expr (.app (.var i) (.bin .sub (.bin .mul (.idx (.var 0) (.lit (.int 0))) (.idx (.var i) (.neg (.lit (.int 1))))) (.bin .mul (.idx (.var 0) (.lit (.int 1))) (.idx (.var i) (.neg (.lit (.int 2)))))))) .nil
theorem bRow_step {p q : Int} {f : Nat → Int} (hf : Row p q f) (hp : bits p < 63) (hq : bits q < 63) {k i : Nat} {ρ : Env} (h0 : ρ[0]? = some (some (ruleD p q))) (hi : ρ[i]? = some (some (.cell C.length))) (hk : k < 200000) :
    blk T.glob (callF T d) (bRow i) ρ (C ++ [rowL f (k + 2)]) = .ok .next ρ (C ++ [rowL f (k + 3)]) := by
  have e1 : ixn (k + 2) (-1) = some (k + 1) := ixn_neg (k := 1) (by omega) (by omega)
  have e2 : ixn (k + 2) (-2) = some k := ixn_neg (k := 2) (by omega) (by omega)
  have g1 : atD (rowL f (k + 2)) (k + 1) = some (.int (f (k + 1))) := rowL_at (by omega)
  have g2 : atD (rowL f (k + 2)) k = some (.int (f k)) := rowL_at (by omega)
  have hk2 : k + 2 < 16777216 := by omega
  simp -implicitDefEqProofs [blk, bRow, h0, hi, items_cell (last_get (C := C) _), rowL_len, e1, e2, g1, g2, mul_int _ _ (.inl hp), mul_int _ _ (.inl hq), hk2]
  rw [rowL_succ _ (k + 2), hf k]
theorem row_for {p q : Int} {f : Nat → Int} (hf : Row p q f) (hp : bits p < 63) (hq : bits q < 63) {n : Nat} (hn : n ≤ 100000) {all : List D} {x y : D} :
    ∃ z, floop none all (.one 3) (blk T.glob (callF T d) (bRow 2)) ((List.range n).map fun i => D.int (i : Nat)) [some (ruleD p q), some x, some (.cell C.length), none] (C ++ [rowL f 2]) =
      .ok .next [some (ruleD p q), some x, some (.cell C.length), z] (C ++ [rowL f (n + 2)]) := by
  have key := floop_rng0 (n := n) (t := 3) (b := blk T.glob (callF T d) (bRow 2))
    (P := fun fl ρ C' => fl = .next ∧ ∃ z, ρ = [some (ruleD p q), some x, some (.cell C.length), z] ∧ C' = C ++ [rowL f (n + 2)])
    (fun k ρ C' => ∃ z, ρ = [some (ruleD p q), some x, some (.cell C.length), z] ∧ C' = C ++ [rowL f (k + 2)])
    (by
      rintro k ρ C' hk ⟨z, rfl, rfl⟩
      rw [bRow_step hf hp hq (k := k) rfl rfl (by omega), wps_ok]
      exact ⟨_, rfl, rfl⟩)
    (fun ρ C' h => ⟨rfl, h⟩) (all := all) (ρ := [some (ruleD p q), some x, some (.cell C.length), none]) (C := C ++ [rowL f 2]) ⟨none, rfl, rfl⟩
  obtain ⟨fl, ρ, C', e, rfl, z, rfl, rfl⟩ := wps_get key
  exact ⟨z, e⟩
theorem s_us {f : Nat} (h : T.fn f = some F__law_us) {p q : Int} (hp : bits p < 63) (hq : bits q < 63) (n : Nat) (hn : n ≤ 100000) : callF T (d + 1) f [ruleD p q, .int n] C = .ok (.lst (rowL (U p q) n)) C := by
  rw [callF_eq h rfl]
  obtain ⟨z, e⟩ := row_for (T := T) (d := d) (C := C) (rowU p q) hp hq hn (all := (List.range n).map fun i => D.int (i : Nat)) (x := .int n) (y := .non)
  have e0 : rowL (U p q) 2 = [.int 0, .int 1] := rfl
  rw [e0] at e
  unfold bRow at e
  have hv : slop (.cell C.length) none (some (n : Int)) (C ++ [rowL (U p q) (n + 2)]) = some (.lst (rowL (U p q) n)) := by
    rw [slop_cellTo (last_get _), rowL_take _ (by omega)]
  simp -implicitDefEqProofs [F__law_us, rngop_nat (n := n) (by omega), e, D.nocL, hv]
  rw [fin_lst (rowL_noc _ _)]
  simp
theorem s_vs {f : Nat} (h : T.fn f = some F__law_vs) {p q : Int} (hp : bits p < 63) (hq : bits q < 63) (n : Nat) (hn : n ≤ 100000) : callF T (d + 1) f [ruleD p q, .int n] C = .ok (.lst (rowL (V p q) n)) C := by
  rw [callF_eq h rfl]
  obtain ⟨z, e⟩ := row_for (T := T) (d := d) (C := C) (rowV p q) hp hq hn (all := (List.range n).map fun i => D.int (i : Nat)) (x := .int n) (y := .non)
  have e0 : rowL (V p q) 2 = [.int 2, .int p] := rfl
  rw [e0] at e
  unfold bRow at e
  have hv : slop (.cell C.length) none (some (n : Int)) (C ++ [rowL (V p q) (n + 2)]) = some (.lst (rowL (V p q) n)) := by
    rw [slop_cellTo (last_get _), rowL_take _ (by omega)]
  simp -implicitDefEqProofs [F__law_vs, rngop_nat (n := n) (by omega), e, D.nocL, hv]
  rw [fin_lst (rowL_noc _ _)]
  simp
/-- the while of terms_in -/
theorem row_whl {p q : Int} {f : Nat → Int} (hf : Row p q f) (hp : bits p < 63) (hq : bits q < 63) {n : Nat} (hn : n ≤ 100000) {x : D} :
    wloop (tst T.glob (callF T d) (.cmp .lt (.bf .len (.cons (.var 3) .nil)) (.var 2))) (blk T.glob (callF T d) (bRow 3)) WMAX [some (ruleD p q), some x, some (.int n), some (.cell C.length)] (C ++ [rowL f 2]) =
      .ok .next [some (ruleD p q), some x, some (.int n), some (.cell C.length)] (C ++ [rowL f (max n 2)]) := by
  have key := wloop_inv (c := tst T.glob (callF T d) (.cmp .lt (.bf .len (.cons (.var 3) .nil)) (.var 2))) (b := blk T.glob (callF T d) (bRow 3))
    (P := fun fl ρ C' => fl = .next ∧ ρ = [some (ruleD p q), some x, some (.int n), some (.cell C.length)] ∧ C' = C ++ [rowL f (max n 2)])
    (fun m ρ C' => ∃ k, (k + 2 ≤ max n 2) ∧ m = max n 2 - (k + 2) ∧ ρ = [some (ruleD p q), some x, some (.int n), some (.cell C.length)] ∧ C' = C ++ [rowL f (k + 2)])
    (by
      rintro m ρ C' ⟨k, hk, rfl, rfl, rfl⟩
      refine ⟨decide (((k + 2 : Nat) : Int) < n), ?_, fun h => ?_, fun h => ?_⟩
      · simp -implicitDefEqProofs [tst, items_cell (last_get (C := C) _), rowL_len]
      · have := of_decide_eq_false h
        have : max n 2 = k + 2 := by omega
        rw [this]
        exact ⟨rfl, rfl, rfl⟩
      · have := of_decide_eq_true h
        rw [bRow_step hf hp hq (k := k) rfl rfl (by omega), wps_ok]
        exact ⟨max n 2 - (k + 1 + 2), by omega, k + 1, by omega, rfl, rfl, rfl⟩)
    WMAX (max n 2 - 2) [some (ruleD p q), some x, some (.int n), some (.cell C.length)] (C ++ [rowL f 2]) (by unfold WMAX; omega) ⟨0, by omega, rfl, rfl, rfl⟩
  obtain ⟨fl, ρ, C', e, rfl, rfl, rfl⟩ := wps_get key
  exact e
theorem deq_uu : deq C (.str "u") (.str "u") = some true := by rw [deq_str _ _ (by decide +kernel) (by decide +kernel)]; rfl
theorem deq_vu : deq C (.str "v") (.str "u") = some false := by rw [deq_str _ _ (by decide +kernel) (by decide +kernel)]; decide +kernel
theorem s_terms_u {f : Nat} (h : T.fn f = some F_terms_in) {p q : Int} (hp : bits p < 63) (hq : bits q < 63) (n : Nat) (hn : n ≤ 100000) : callF T (d + 1) f [ruleD p q, .str "u", .int n] C = .ok (.lst (rowL (U p q) n)) C := by
  rw [callF_eq h rfl]
  have e := row_whl (T := T) (d := d) (C := C) (rowU p q) hp hq hn (x := .str "u")
  have e0 : rowL (U p q) 2 = [.int 0, .int 1] := rfl
  rw [e0] at e
  unfold bRow at e
  have hv : slop (.cell C.length) none (some (n : Int)) (C ++ [rowL (U p q) (max n 2)]) = some (.lst (rowL (U p q) n)) := by
    rw [slop_cellTo (last_get _), rowL_take _ (by omega)]
  simp -implicitDefEqProofs [F_terms_in, e, D.nocL, hv, deq_uu]
  rw [fin_lst (rowL_noc _ _)]
  simp
theorem s_terms_v {f : Nat} (h : T.fn f = some F_terms_in) {p q : Int} (hp : bits p < 63) (hq : bits q < 63) (n : Nat) (hn : n ≤ 100000) : callF T (d + 1) f [ruleD p q, .str "v", .int n] C = .ok (.lst (rowL (V p q) n)) C := by
  rw [callF_eq h rfl]
  have e := row_whl (T := T) (d := d) (C := C) (rowV p q) hp hq hn (x := .str "v")
  have e0 : rowL (V p q) 2 = [.int 2, .int p] := rfl
  rw [e0] at e
  unfold bRow at e
  have hv : slop (.cell C.length) none (some (n : Int)) (C ++ [rowL (V p q) (max n 2)]) = some (.lst (rowL (V p q) n)) := by
    rw [slop_cellTo (last_get _), rowL_take _ (by omega)]
  simp -implicitDefEqProofs [F_terms_in, e, D.nocL, hv, deq_vu]
  rw [fin_lst (rowL_noc _ _)]
  simp
end
end ML

set_option maxHeartbeats 1000000
/-! Shared defs of the laws: drawing, being the same. -/
namespace ML
open PySem
theorem bits_lt {i : Int} {n : Nat} (h : i.natAbs < 2 ^ n) (hn : 0 < n) : bits i < n := by
  unfold bits
  by_cases h0 : i.natAbs = 0
  · rw [h0]; simpa using hn
  · exact (Nat.log2_lt h0).mpr h
theorem cloop_map {gd : Option (Nat × List D)} {all : List D} {f : D → Cells → R (Option D)} {g : D → D} {C : Cells} (hh : held gd all C = true) : ∀ (xs acc : List D), (∀ x ∈ xs, f x C = .ok (some (g x)) C) → cloop gd all f xs acc C = .ok (acc.reverse ++ xs.map g) C
  | [], acc, _ => by simp [cloop]
  | x :: xs, acc, h => by
    rw [cloop, h x (by simp)]
    simp only [R.calm_ok, R.bind_ok, hh, if_true]
    rw [cloop_map hh xs (g x :: acc) fun y hy => h y (by simp [hy])]
    simp
theorem cloop_filter {gd : Option (Nat × List D)} {all : List D} {f : D → Cells → R (Option D)} {g : D → D} {k : D → Bool} {C : Cells} (hh : held gd all C = true) : ∀ (xs acc : List D), (∀ x ∈ xs, f x C = .ok (if k x then some (g x) else none) C) → cloop gd all f xs acc C = .ok (acc.reverse ++ (xs.filter k).map g) C
  | [], acc, _ => by simp [cloop]
  | x :: xs, acc, h => by
    rw [cloop, h x (by simp)]
    simp only [R.calm_ok, R.bind_ok, hh, if_true]
    cases hk : k x with
    | true =>
      simp only [if_true]
      rw [cloop_filter hh xs (g x :: acc) fun y hy => h y (by simp [hy])]
      simp [List.filter_cons, hk]
    | false =>
      simp only [Bool.false_eq_true, if_false]
      rw [cloop_filter hh xs acc fun y hy => h y (by simp [hy])]
      simp [List.filter_cons, hk]
section
variable {T : Tab} {d : Nat} {C : Cells}
@[simp] theorem take_set_len (i : Nat) (xs : List D) : (C.set i xs).take C.length = C.set i xs := List.take_of_length_le (by simp)
/-- the state of the drawing -/
abbrev tinL (a b c : Int) : List D := [.int a, .int b, .int c]
structure TinOk (a b c : Int) : Prop where
  a0 : 0 ≤ a
  b0 : 0 ≤ b
  b1 : b < 2 ^ 62
  c0 : 0 ≤ c
@[simp] theorem atD3_0 (x y z : D) : atD [x, y, z] 0 = some x := rfl
@[simp] theorem atD3_1 (x y z : D) : atD [x, y, z] 1 = some y := rfl
@[simp] theorem atD3_2 (x y z : D) : atD [x, y, z] 2 = some z := rfl
theorem seti1_cell {i k j : Nat} {ρ : Env} {y : D} {xs : List D} (h : C[i]? = some xs) (hk : ixn xs.length (k : Int) = some j) (hy : y.noc = true) : seti1 ρ y (.cell i) (.int k) C = .ok .next ρ (C.set i (xs.set j y)) := by
  simp only [seti1, h, hk, hy, if_true]
theorem s_take0 {f i : Nat} (h : T.fn f = some F__law_take) {a b c m : Int} (hC : C[i]? = some (tinL a b c)) (ok : TinOk a b c) (hc : c < 1000000000) (hm : 0 < m) (hbm : bits m < 9000) :
    ∃ r a' c', callF T (d + 1) f [.cell i, .int m] C = .ok (.int r) (C.set i (tinL a' b c')) ∧ 0 ≤ r ∧ r < m ∧ TinOk a' b c' ∧ c' ≤ c + 1 := by
  have hi : i < C.length := (List.getElem?_eq_some_iff.mp hC).1
  have h0 := ok.a0; have h1 := ok.b0; have h2 := ok.b1; have h3 := ok.c0
  rw [callF_eq h rfl]
  by_cases ha : 0 < a
  · refine ⟨a % m, a / m, c, ?_, Int.emod_nonneg _ (by omega), Int.emod_lt_of_pos _ hm, ⟨Int.ediv_nonneg h0 (by omega), h1, h2, h3⟩, by omega⟩
    have hs : ∀ (ρ : Env), seti1 ρ (.int (a / m)) (.cell i) (.int 0) C = .ok .next ρ (C.set i (tinL (a / m) b c)) := fun ρ => seti1_cell (k := 0) (j := 0) hC rfl rfl
    simp -implicitDefEqProofs [F__law_take, items_cell hC, ha, mod_int _ _ hm, fdiv_int _ _ hm hbm, hs]
  · have hs : ∀ (ρ : Env), seti1 ρ (.int (c + 1)) (.cell i) (.int 2) C = .ok .next ρ (C.set i (tinL a b (c + 1))) := fun ρ => seti1_cell (k := 2) (j := 2) hC rfl rfl
    have hC2 : (C.set i (tinL a b (c + 1)))[i]? = some (tinL a b (c + 1)) := by simp [hi]
    have m1 : bits (b + 48271 * (c + 1)) + bits (39373 + (c + 1)) < 1000000 := by
      have e1 : bits (b + 48271 * (c + 1)) < 80 := bits_lt (by omega) (by omega)
      have e2 : bits (39373 + (c + 1)) < 80 := bits_lt (by omega) (by omega)
      omega
    have k0 : bits 48271 < 63 := by decide
    have k1 : (0 : Int) < 2147483647 := by decide
    have k2 : (0 : Int) < 40009 := by decide
    have k3 : (0 : Int) < 2147483629 := by decide
    have k4 : (0 : Int) < 2147483587 := by decide
    have k5 : bits 64 < 9000 := by decide
    have k6 : bits 1000003 < 9000 := by decide
    have m3 : ∀ x : Int, bits (x % 40009 + 7) < 63 := fun x => bits_lt (by omega) (by omega)
    have e : ∃ z : Int, retR F__law_take.rc (List.length C) (evSs T.glob (callF T d) F__law_take.body (List.map some [D.cell i, D.int m] ++ List.replicate (F__law_take.nv - F__law_take.np) none) C) = .ok (.int (z % m)) (C.set i (tinL a b (c + 1))) := by
      refine ⟨((((b + 48271 * (c + 1)) * (39373 + (c + 1)) % 2147483647 + (c + 1) + b / 1000003) * ((b + 48271 * (c + 1)) * (39373 + (c + 1)) % 2147483647 % 40009 + 7) % 2147483629 * 48271 + (b + 48271 * (c + 1)) * (39373 + (c + 1)) % 2147483647) % 2147483587) / 64, ?_⟩
      simp -implicitDefEqProofs [F__law_take, items_cell hC, items_cell hC2, ha, hs, mul_int _ _ (.inl k0), mul_int _ _ (.inr (.inl k0)), mul_int _ _ (.inr (.inr m1)), mod_int _ _ k1, mod_int _ _ k2, mod_int _ _ k3, mod_int _ _ k4, mul_int _ _ (.inr (.inl (m3 _))), fdiv_int _ 64 (by decide) k5, fdiv_int _ 1000003 (by decide) k6, mod_int _ _ hm]
    obtain ⟨z, e⟩ := e
    exact ⟨z % m, a, c + 1, e, Int.emod_nonneg _ (by omega), Int.emod_lt_of_pos _ hm, ⟨h0, h1, h2, by omega⟩, by omega⟩
theorem s_take {f i : Nat} (h : T.fn f = some F__law_take) {a b c m : Int} (hC : C[i]? = some (tinL a b c)) (ok : TinOk a b c) (hc : c < 1000000000) (hm : 0 < m) (hm2 : m < 2 ^ 200) :
    ∃ r a' c', callF T (d + 1) f [.cell i, .int m] C = .ok (.int r) (C.set i (tinL a' b c')) ∧ 0 ≤ r ∧ r < m ∧ TinOk a' b c' ∧ c' ≤ c + 1 := s_take0 h hC ok hc hm (Nat.lt_of_lt_of_le (bits_lt (n := 200) (by omega) (by omega)) (by omega))
theorem fin_cellC (xs : List D) : fin true C.length (.cell C.length) (C ++ [xs]) = .ok (.cell C.length) (C ++ [xs]) := by
  simp [fin]
theorem s_box {f : Nat} (h : T.fn f = some F__law_box) {ns : List Int} {k : Nat} (hk : k < 100) : ∃ a b, callF T (d + 1) f [scr ns, .int k] C = .ok (.cell C.length) (C ++ [tinL a b 0]) ∧ TinOk a b 0 := by
  rw [callF_eq h rfl]
  have k1 : (0 : Int) < 2305843009213693951 := by decide
  have hb : ∀ z : Int, bits (if 1000000000000000000 ≤ (if z < 0 then -z else z) then 1 else 0) < 63 := by
    intro z
    split
    all_goals (split <;> exact bits_lt (by decide) (by decide))
  have kp : binop .pow (.int 10) (.int 18) C = some (.int 1000000000000000000) := by rfl
  have k0 : bits 39373 < 63 := by decide
  have ok : ∀ z : Int, TinOk ((if z < 0 then -z else z) * (if 1000000000000000000 ≤ (if z < 0 then -z else z) then 1 else 0)) (z % 2305843009213693951 + 39373 * k + 262920) 0 := by
    intro z
    have := Int.emod_nonneg z (b := 2305843009213693951) (by decide)
    have := Int.emod_lt_of_pos z k1
    refine ⟨Int.mul_nonneg ?_ ?_, by omega, by omega, by omega⟩
    · split <;> omega
    · split
      · split <;> omega
      · split <;> omega
  have mb : ∀ z : Int, ∀ x : Int, binop .mul (.int x) (.int (if 1000000000000000000 ≤ (if z < 0 then -z else z) then 1 else 0)) C = some (.int (x * (if 1000000000000000000 ≤ (if z < 0 then -z else z) then 1 else 0))) := fun z x => mul_int _ _ (.inr (.inl (hb z)))
  by_cases hlt : k < ns.length
  · refine ⟨_, _, ?_, ok ns[k]⟩
    have g : atD (ns.map fun n => D.int n) k = some (.int ns[k]) := by simp [atD, hlt]
    have hi : ixn ns.length (k : Int) = some k := ixn_pos hlt
    simp -implicitDefEqProofs only [F__law_box, List.map_cons, List.map_nil, List.length_cons, List.length_nil, List.cons_append, List.nil_append, List.replicate]
    simp -implicitDefEqProofs [hlt, g, hi, mod_int _ _ k1, mul_int _ _ (.inl k0), kp, mb, D.nocL]
    exact fin_cellC _
  · refine ⟨_, _, ?_, ok 0⟩
    simp -implicitDefEqProofs only [F__law_box, List.map_cons, List.map_nil, List.length_cons, List.length_nil, List.cons_append, List.nil_append, List.replicate]
    have m00 : binop .mul (.int 0) (.int 0) C = some (.int 0) := by rfl
    simp -implicitDefEqProofs [hlt, mod_int _ _ k1, mul_int _ _ (.inl k0), kp, mb, D.nocL, m00]
    have := fin_cellC (C := C) (tinL 0 (39373 * k + 262920) 0)
    simpa using this
end
end ML

set_option maxHeartbeats 1000000
/-! Shared defs of the laws: cells, the same. -/
namespace ML
open PySem
section
variable {T : Tab} {d : Nat} {C : Cells}
abbrev intL (ns : List Int) : List D := ns.map fun n => .int n
theorem intL_noc (ns : List Int) : D.nocL (intL ns) = true := by
  induction ns with
  | nil => rfl
  | cons n ns ih => simp only [intL, List.map_cons, D.nocL, D.noc, Bool.true_and]; exact ih
theorem slop_lst (xs : List D) (lo hi : Option Int) : slop (.lst xs) lo hi C = some (.lst (cut xs lo hi)) := rfl
theorem cut_to (xs : List D) (n : Nat) : cut xs none (some (n : Int)) = xs.take n := by
  simp only [cut, six]
  rw [if_neg (by omega), List.drop_zero, Nat.sub_zero, Int.toNat_natCast, Nat.min_def]
  split
  · rfl
  · rw [List.take_of_length_le (by omega), List.take_of_length_le (by omega)]
theorem cut_mid (xs : List D) (m n : Nat) : ∃ k, k ≤ n ∧ cut xs (some (m : Int)) (some (n : Int)) = (xs.drop m).take k := by
  simp only [cut, six]
  rw [if_neg (by omega), if_neg (by omega), Int.toNat_natCast, Int.toNat_natCast]
  by_cases h : m ≤ xs.length
  · rw [Nat.min_eq_left h]
    exact ⟨min n xs.length - m, by omega, rfl⟩
  · rw [Nat.min_eq_right (show xs.length ≤ m by omega)]
    refine ⟨0, by omega, ?_⟩
    rw [List.drop_length, List.take_nil, List.take_zero]
theorem s_cells {f : Nat} (h : T.fn f = some F__law_cells) (ns : List Int) {m : Nat} (h1 : 1 ≤ m) (h2 : m ≤ 60) : ∃ ms : List Int, callF T (d + 1) f [scr ns, .int m] C = .ok (scr ms) C := by
  obtain ⟨k, hk, hcut⟩ := cut_mid (intL ns) m 63
  have hm0 : (0 : Int) < m := by omega
  generalize hms : (if (ns.take m) = [] then [0] else ns.take m) = ms0
  have hrest : ((ns.drop m).take k) ≠ [] → ms0.length = m := by
    intro hne
    have : m < ns.length := by
      refine Nat.lt_of_not_le fun hle => hne ?_
      rw [List.drop_of_length_le hle, List.take_nil]
    rw [← hms, if_neg]
    · rw [List.length_take]; omega
    · intro h0
      have := congrArg List.length h0
      rw [List.length_take] at this
      simp only [List.length_nil] at this; omega
  have key := floop_inv (gd := none) (all := enumD 0 (intL ((ns.drop m).take k))) (t := .many [3, 4]) (b := blk T.glob (callF T d) (.cons (.set 5 (.bin .mod (.bf .int (.cons (.var 3) .nil)) (.var 1)))
      (.cons (.seti (.var 2) (.var 5) (.bin .add (.idx (.var 2) (.var 5)) (.bin .mul (.var 4) (.bin .add (.var 3) (.lit (.int 2)))))) .nil)))
    (P := fun fl ρ C' => fl = .next ∧ (∃ x y z, ρ = [some (scr ns), some (.int m), some (.cell C.length), x, y, z]) ∧ ∃ ms, C' = C ++ [intL ms])
    (fun xs ρ C' => (∃ x y z, ρ = [some (scr ns), some (.int m), some (.cell C.length), x, y, z]) ∧ ∃ (n : Nat) (rest ms : List Int), xs = enumD n (intL rest) ∧ C' = C ++ [intL ms] ∧ n + rest.length ≤ 63 ∧ (rest ≠ [] → ms.length = m))
    (by
      rintro x xs ρ C' ⟨⟨x1, y1, z1, rfl⟩, n, rest, ms, e, rfl, hn, hl⟩
      cases rest with
      | nil => simp [enumD] at e
      | cons z rest =>
        simp only [List.map_cons, enumD, List.cons.injEq] at e
        obtain ⟨rfl, rfl⟩ := e
        have hlen := hl (by simp)
        have hj : ((n : Int) % (m : Int)) = ((n % m : Nat) : Int) := by omega
        have hlt : n % m < ms.length := by rw [hlen]; exact Nat.mod_lt _ (by omega)
        have hix : ixn ms.length ((n % m : Nat) : Int) = some (n % m) := ixn_pos hlt
        have hat : atD (intL ms) (n % m) = some (.int ms[n % m]) := by simp [atD, hlt]
        have hb : bits ((n : Int) + 2) < 63 := bits_lt (by simp at hn; omega) (by omega)
        have hs : ∀ (ρ : Env) (v : Int), seti1 ρ (.int v) (.cell C.length) (.int ((n % m : Nat) : Int)) (C ++ [intL ms]) = .ok .next ρ (C ++ [(intL ms).set (n % m) (.int v)]) := fun ρ v => by
          rw [seti1_cell (last_get _) (by simpa using hix) rfl, last_set]
        refine ⟨[some (scr ns), some (.int m), some (.cell C.length), some (.int n), some (.int z), z1], by simp, ?_⟩
        simp -implicitDefEqProofs only [blk, evSs, evS_set, evS_seti, evE_bin, evE_bf, evEs, evE_var, evE_idx, evE_lit, List.getElem?_cons_zero, List.getElem?_cons_succ, R.bind_ok, bf_int, R.of_some, mod_int _ _ hm0, R.toS_ok, RS.seq_next, List.set_cons_succ, List.set_cons_zero, hj,
          idx_int, items_cell (last_get (C := C) _), Option.bind_some, List.length_map, hix, hat, add_int, mul_int _ _ (.inr (.inl hb)), hs, wps_ok]
        refine ⟨rfl, ⟨_, _, _, rfl⟩, n + 1, rest, ms.set (n % m) (ms[n % m] + z * (n + 2)), rfl, ?_, by simp at hn; omega, fun _ => by rw [List.length_set]; exact hlen⟩
        simp [List.map_set])
    (fun ρ C' ⟨h1, n, rest, ms, e, h2, _⟩ => ⟨rfl, h1, ms, h2⟩) (enumD 0 (intL ((ns.drop m).take k))) [some (scr ns), some (.int m), some (.cell C.length), none, none, none] (C ++ [intL ms0])
    ⟨⟨none, none, none, rfl⟩, 0, _, ms0, rfl, rfl, by simp only [List.length_take]; omega, hrest⟩
  obtain ⟨fl, ρ, C', e, rfl, ⟨x, y, z, rfl⟩, ms, rfl⟩ := wps_get key
  refine ⟨ms, ?_⟩
  rw [callF_eq h rfl]
  have hfirst : ∀ (ρ : Env), ρ[0]? = some (some (scr ns)) → ρ[1]? = some (some (.int m)) → evE T.glob (callF T d) (.or (.bf .list (.cons (.sl (.var 0) .none (.some (.var 1))) .nil)) (.lst (.cons (.lit (.int 0)) .nil))) ρ C = .ok (.lst (intL ms0)) C := by
    intro ρ r0 r1
    simp -implicitDefEqProofs only [evE_or, evE_bf, evEs, evE_sl, evE_var, r0, r1, R.bind_ok, evOE, slop_lst, cut_to, R.of_some, bf_list, items_lst', Option.map_some, truth_lst, evE_lst, evE_lit]
    rw [← hms]
    by_cases h0 : ns.take m = []
    · have : (intL ns).take m = [] := by rw [← List.map_take, h0]; rfl
      simp [h0, this]
    · have h3 : (intL ns).take m ≠ [] := by rw [← List.map_take]; simpa using h0
      have h4 : ((intL ns).take m).isEmpty = false := by simpa [List.isEmpty_iff] using h3
      simp only [h4, Bool.not_false, if_true, if_neg h0]
      show R.ok (D.lst ((ns.map fun n => D.int n).take m)) C = R.ok (D.lst ((ns.take m).map fun n => D.int n)) C
      rw [List.map_take]
  have hsl : slop (scr ns) (some (m : Int)) (some 63) (C ++ [intL ms0]) = some (.lst (intL ((ns.drop m).take k))) := by
    rw [slop_lst]
    have : (63 : Int) = ((63 : Nat) : Int) := rfl
    rw [this, hcut]
    simp [List.map_take, List.map_drop]
  simp -implicitDefEqProofs only [F__law_cells, List.map_cons, List.map_nil, List.cons_append, List.nil_append, List.replicate, evSs, evS_setC, hfirst [some (scr ns), some (.int m), none, none, none, none] rfl rfl, R.toS_ok, newC_lst, intL_noc, if_true, RS.seq_next, evS_fr, evSrc, evE_sl, evE_var, evOE, evE_lit, List.set_cons_succ, List.set_cons_zero, List.getElem?_cons_zero, List.getElem?_cons_succ, R.bind_ok, hsl, R.of_some, e, evS_ret, RS.seq_ret, retR_ret]
  simp [fin]
end
end ML

set_option maxHeartbeats 1000000
/-! Shared defs: the same; rules. -/
namespace ML
open PySem
section
variable {T : Tab} {d : Nat} {C : Cells}
/-- what _law_same may be asked of: of depth at most n, lists not too long -/
inductive SameOk : Nat → D → Prop
  | non (n : Nat) : SameOk n .non
  | bl (n : Nat) (b : Bool) : SameOk n (.bl b)
  | int (n : Nat) (b : Int) : SameOk n (.int b)
  | str (n : Nat) (b : Str) : b.cps.all (· < 0x110000) = true → SameOk n (.str b)
  | tup (n : Nat) (xs : List D) : xs.length ≤ 16777216 → (∀ x ∈ xs, SameOk n x) → SameOk (n + 1) (.tup xs)
  | lst (n : Nat) (xs : List D) : xs.length ≤ 16777216 → (∀ x ∈ xs, SameOk n x) → SameOk (n + 1) (.lst xs)
theorem sameOk_ints {n : Nat} {ns : List Int} (h : ns.length ≤ 16777216) : SameOk (n + 1) (scr ns) := .lst _ _ (by simpa using h) fun x hx => by
  obtain ⟨i, _, rfl⟩ := List.mem_map.mp hx
  exact .int _ _
theorem sameOk_row {n k : Nat} {f : Nat → Int} (h : k ≤ 16777216) : SameOk (n + 1) (.lst (rowL f k)) := .lst _ _ (by simpa [rowL] using h) fun x hx => by
  obtain ⟨i, _, rfl⟩ := List.mem_map.mp hx
  exact .int _ _
theorem zipD_self : ∀ xs : List D, zipD xs xs = xs.map fun z => .tup [z, z]
  | [] => rfl
  | x :: xs => by rw [zipD, zipD_self xs]; rfl
theorem boolsD_true : ∀ xs : List D, boolsD (xs.map fun _ => .bl true) = some (xs.map fun _ => true)
  | [] => rfl
  | x :: xs => by rw [List.map_cons, boolsD, boolsD_true xs]; rfl
@[simp] theorem evSrc_zip (gl : Nat → Option D) (cf : Nat → List D → Cells → R D) (a b : E) (ρ : Env) (C : Cells) : evSrc gl cf (.zip a b) ρ C = (evE gl cf a ρ C).bind fun x C => (evE gl cf b ρ C).bind fun y C => match x, y with
    | .lst xs, .lst ys => .ok (zipD xs ys, none) C
    | .tup xs, .tup ys => .ok (zipD xs ys, none) C
    | .lst xs, .cell i => match C[i]? with | some ys => .ok (zipD xs ys, some (i, ys)) C | none => .stuck
    | _, _ => .stuck := by rw [evSrc] <;> rfl
/-- a thing is the same as itself -/
theorem s_same {f : Nat} (h : T.fn f = some (F__law_same f)) : ∀ (n : Nat) (x : D), SameOk n x → ∀ {d : Nat} {C : Cells}, callF T (d + n + 1) f [x, x] C = .ok (.bl true) C := by
  intro n x hx
  induction hx with
  | non n => intro d C; rw [callF_eq h rfl]; simp -implicitDefEqProofs [F__law_same]
  | bl n b => intro d C; rw [callF_eq h rfl]; simp -implicitDefEqProofs [F__law_same]
  | int n b => intro d C; rw [callF_eq h rfl]; simp -implicitDefEqProofs [F__law_same]
  | str n b hb => intro d C; rw [callF_eq h rfl]; simp -implicitDefEqProofs [F__law_same, deq_str _ _ hb hb]
  | tup n xs hle hx ih =>
    intro d C
    rw [callF_eq h rfl]
    have l1 : cloop none (xs.map fun z => .tup [z, z]) (cbd T.glob (callF T (d + (n + 1))) [2, 3] (.many [2, 3]) .none (.call f (.cons (.var 2) (.cons (.var 3) .nil))) [some (.tup xs), some (.tup xs), none, none]) (xs.map fun z => .tup [z, z]) [] C = .ok (xs.map fun _ => .bl true) C := by
      rw [cloop_map (g := fun _ => .bl true) rfl _ _ fun y hy => ?_]
      · simp
      · obtain ⟨z, hz, rfl⟩ := List.mem_map.mp hy
        have := ih z hz (d := d) (C := C)
        have e : d + n + 1 = d + (n + 1) := by omega
        rw [e] at this
        simp -implicitDefEqProofs [cbd, this]
    simp -implicitDefEqProofs [F__law_same, zipD_self, l1, boolsD_true, hle]
  | lst n xs hle hx ih =>
    intro d C
    rw [callF_eq h rfl]
    have l1 : cloop none (xs.map fun z => .tup [z, z]) (cbd T.glob (callF T (d + (n + 1))) [2, 3] (.many [2, 3]) .none (.call f (.cons (.var 2) (.cons (.var 3) .nil))) [some (.lst xs), some (.lst xs), none, none]) (xs.map fun z => .tup [z, z]) [] C = .ok (xs.map fun _ => .bl true) C := by
      rw [cloop_map (g := fun _ => .bl true) rfl _ _ fun y hy => ?_]
      · simp
      · obtain ⟨z, hz, rfl⟩ := List.mem_map.mp hy
        have := ih z hz (d := d) (C := C)
        have e : d + n + 1 = d + (n + 1) := by omega
        rw [e] at this
        simp -implicitDefEqProofs [cbd, this]
    simp -implicitDefEqProofs [F__law_same, zipD_self, l1, boolsD_true, hle]
/-- a list of plain things is the same as a cell that holds them -/
theorem s_sameC {f : Nat} (h : T.fn f = some (F__law_same f)) (n : Nat) (xs : List D) (hx : SameOk (n + 1) (.lst xs)) {i d : Nat} {C : Cells} (hC : C[i]? = some xs) : callF T (d + (n + 1) + 1) f [.lst xs, .cell i] C = .ok (.bl true) C := by
  cases hx with
  | lst _ _ hle hx =>
    rw [callF_eq h rfl]
    have hi : i < C.length := (List.getElem?_eq_some_iff.mp hC).1
    have l1 : cloop (some (i, xs)) (xs.map fun z => .tup [z, z]) (cbd T.glob (callF T (d + (n + 1))) [2, 3] (.many [2, 3]) .none (.call f (.cons (.var 2) (.cons (.var 3) .nil))) [some (.lst xs), some (.cell i), none, none]) (xs.map fun z => .tup [z, z]) [] C = .ok (xs.map fun _ => .bl true) C := by
      rw [cloop_map (g := fun _ => .bl true) (by simp [held, hC]) _ _ fun y hy => ?_]
      · simp
      · obtain ⟨z, hz, rfl⟩ := List.mem_map.mp hy
        have := s_same h n z (hx z hz) (d := d) (C := C)
        have e : d + n + 1 = d + (n + 1) := by omega
        rw [e] at this
        simp -implicitDefEqProofs [cbd, this]
    have ht : ∀ t, isTy C (.cell i) t = some (t == .list) := fun t => by simp [isTy, hi]
    have hit : D.items C (.cell i) = some xs := items_cell hC
    simp -implicitDefEqProofs [F__law_same, zipD_self, l1, boolsD_true, hle, ht, hC, hit]
/-- drawing a rule -/
theorem s_rule {f g i : Nat} (h : T.fn f = some (F__law_rule g)) (hg : T.fn g = some F__law_take) {a b c w : Int} (hC : C[i]? = some (tinL a b c)) (ok : TinOk a b c) (hc : c < 900000000) (hw : 0 < w) (hw2 : w < 2 ^ 60) :
    ∃ p q a' c', callF T (d + 2) f [.cell i, .int w] C = .ok (ruleD p q) (C.set i (tinL a' b c')) ∧ -w ≤ p ∧ p ≤ w ∧ q ≠ 0 ∧ -w ≤ q ∧ q ≤ w ∧ TinOk a' b c' ∧ c' ≤ c + 3 := by
  have hi : i < C.length := (List.getElem?_eq_some_iff.mp hC).1
  obtain ⟨r1, a1, c1, e1, g1, l1, o1, m1⟩ := s_take (T := T) (d := d) hg hC ok (by omega) hw (by omega)
  obtain ⟨r2, a2, c2, e2, g2, l2, o2, m2⟩ := s_take (T := T) (d := d) (i := i) (C := C.set i (tinL a1 b c1)) (m := 2 * w + 1) hg (by simp [hi]) o1 (by omega) (by omega) (by omega)
  obtain ⟨r3, a3, c3, e3, g3, l3, o3, m3⟩ := s_take (T := T) (d := d) (i := i) (C := (C.set i (tinL a1 b c1)).set i (tinL a2 b c2)) (m := 2) hg (by simp [hi]) o2 (by omega) (by omega) (by omega)
  rw [List.set_set] at e3 e2
  rw [List.set_set] at e3
  have kw : bits 2 < 63 := by decide
  refine ⟨r2 - w, if r3 = 0 then 1 + r1 else 0 - (1 + r1), a3, c3, ?_, by omega, by omega, by split <;> omega, by split <;> omega, by split <;> omega, o3, by omega⟩
  rw [callF_eq h rfl]
  simp -implicitDefEqProofs [F__law_rule, e1, mul_int _ _ (.inl kw), e2, e3]
  by_cases h3 : r3 = 0
  · simp -implicitDefEqProofs [h3, fin_tup, D.nocL]
  · simp -implicitDefEqProofs [h3, fin_tup, D.nocL]
end
end ML

set_option maxHeartbeats 1000000
/-! Shared defs of the program: common divisors, rules. -/
namespace ML
open PySem
section
variable {T : Tab} {d : Nat} {C : Cells}
theorem abs_nat (i : Int) : (if i < 0 then -i else i) = (i.natAbs : Int) := by split <;> omega
theorem gcd_loop {c : Env → Cells → R Bool} {b : Env → Cells → RS} (mk : Nat → Nat → Env) (hc : ∀ x y, c (mk x y) C = .ok (decide (y ≠ 0)) C) (hb : ∀ x y, y ≠ 0 → b (mk x y) C = .ok .next (mk y (x % y)) C)
    {N : Nat} (hN : 2 * N + 2 < WMAX) {x y : Nat} (hx : x < 2 ^ N) (hy : y < 2 ^ N) : wloop c b WMAX (mk x y) C = .ok .next (mk (Nat.gcd x y) 0) C := by
  have key := wloop_inv (c := c) (b := b) (P := fun fl ρ C' => fl = .next ∧ ρ = mk (Nat.gcd x y) 0 ∧ C' = C)
    (fun m ρ C' => C' = C ∧ ∃ u v, ρ = mk u v ∧ Nat.gcd u v = Nat.gcd x y ∧ ((v ≤ u ∧ u * v < 2 ^ m) ∨ (∃ k, m = k + 1 ∧ u < v ∧ u * v < 2 ^ k)))
    (by
      rintro m ρ C' ⟨rfl, u, v, rfl, hg, h⟩
      refine ⟨decide (v ≠ 0), hc u v, fun h0 => ?_, fun h1 => ?_⟩
      · have hv : v = 0 := by simpa using h0
        subst hv
        rw [Nat.gcd_zero_right] at hg
        exact ⟨rfl, by rw [hg], rfl⟩
      · have hv : v ≠ 0 := by simpa using h1
        rw [hb u v hv, wps_ok]
        have hg2 : Nat.gcd v (u % v) = Nat.gcd x y := by rw [← hg, Nat.gcd_comm u v, Nat.gcd_rec v u, Nat.gcd_comm]
        rcases h with ⟨hle, hlt⟩ | ⟨k, rfl, hlt, hk⟩
        · cases m with
          | zero =>
            have : 1 ≤ u * v := Nat.mul_pos (by omega) (by omega)
            simp at hlt; omega
          | succ m =>
            refine ⟨m, by omega, rfl, v, u % v, rfl, hg2, .inl ⟨Nat.le_of_lt (Nat.mod_lt _ (by omega)), ?_⟩⟩
            have h2 : 2 * (u % v) ≤ u := by
              have e := Nat.div_add_mod u v
              have hq : 1 ≤ u / v := (Nat.le_div_iff_mul_le (by omega)).mpr (by omega)
              have hr := Nat.mod_lt u (show v > 0 by omega)
              have : v * 1 ≤ v * (u / v) := Nat.mul_le_mul_left v hq
              omega
            have h3 : v * (2 * (u % v)) ≤ v * u := Nat.mul_le_mul_left v h2
            rw [Nat.pow_succ] at hlt
            have h4 : v * (2 * (u % v)) = 2 * (v * (u % v)) := by rw [Nat.mul_left_comm]
            have h5 : v * u = u * v := Nat.mul_comm _ _
            omega
        · refine ⟨k, by omega, rfl, v, u % v, rfl, hg2, .inl ⟨Nat.le_of_lt (Nat.mod_lt _ (by omega)), ?_⟩⟩
          rw [Nat.mod_eq_of_lt hlt, Nat.mul_comm]; exact hk)
    WMAX (2 * N + 1) (mk x y) C (by omega) ⟨rfl, x, y, rfl, rfl, by
      have hp : x * y < 2 ^ (2 * N) := by
        rw [Nat.two_mul, Nat.pow_add]
        exact Nat.mul_lt_mul'' hx hy
      by_cases hle : y ≤ x
      · refine .inl ⟨hle, ?_⟩
        rw [Nat.pow_succ]; omega
      · exact .inr ⟨2 * N, rfl, by omega, hp⟩⟩
  obtain ⟨fl, ρ, C', e, rfl, rfl, rfl⟩ := wps_get key
  exact e
/-- below 2 to the N -/
def Lt2 (N : Nat) (i : Int) : Prop := i.natAbs < 2 ^ N
theorem mod_natD (x y : Nat) (hy : y ≠ 0) : binop .mod (.int x) (.int y) C = some (.int (x % y : Nat)) := by
  rw [mod_int _ _ (by omega)]; simp
theorem s_common {f : Nat} (h : T.fn f = some F_common) {a b : Int} {N : Nat} (hN : 2 * N + 2 < WMAX) (ha : Lt2 N a) (hb : Lt2 N b) : callF T (d + 1) f [.int a, .int b] C = .ok (.int (Int.gcd a b)) C := by
  rw [callF_eq h rfl]
  have key := gcd_loop (C := C) (c := tst T.glob (callF T d) (.cmp .ne (.var 1) (.lit (.int 0)))) (b := blk T.glob (callF T d) (.cons (.par [0, 1] [false, false] (.cons (.var 1) (.cons (.bin .mod (.var 0) (.var 1)) .nil))) .nil))
    (fun x y => [some (.int x), some (.int y)]) (fun x y => by simp -implicitDefEqProofs [tst]) (fun x y hy => by simp -implicitDefEqProofs [blk, mod_natD _ _ hy]) hN ha hb
  simp -implicitDefEqProofs [F_common, abs_nat, key]
  rfl
theorem s_lcommon {f : Nat} (h : T.fn f = some F__law_common) {a b : Int} {N : Nat} (hN : 2 * N + 2 < WMAX) (ha : Lt2 N a) (hb : Lt2 N b) : callF T (d + 1) f [.int a, .int b] C = .ok (.int (Int.gcd a b)) C := by
  rw [callF_eq h rfl]
  have key := gcd_loop (C := C) (c := tst T.glob (callF T d) (.cmp .ne (.var 3) (.lit (.int 0)))) (b := blk T.glob (callF T d) (.cons (.par [2, 3] [false, false] (.cons (.var 3) (.cons (.bin .mod (.var 2) (.var 3)) .nil))) .nil))
    (fun x y => [some (.int a), some (.int b), some (.int x), some (.int y)]) (fun x y => by simp -implicitDefEqProofs [tst]) (fun x y hy => by simp -implicitDefEqProofs [blk, mod_natD _ _ hy]) hN ha hb
  simp -implicitDefEqProofs [F__law_common, abs_nat, key]
  rfl
/-- a rule of the program -/
structure RuleOk (p q : Int) : Prop where
  p1 : -1000 ≤ p
  p2 : p ≤ 1000
  q1 : -1000 ≤ q
  q2 : q ≤ 1000
  q0 : q ≠ 0
theorem RuleOk.bp {p q : Int} (r : RuleOk p q) : bits p < 63 := bits_lt (by have := r.p1; have := r.p2; omega) (by omega)
theorem RuleOk.bq {p q : Int} (r : RuleOk p q) : bits q < 63 := bits_lt (by have := r.q1; have := r.q2; omega) (by omega)
theorem s_tupled_int {f : Nat} (h : T.fn f = some (F_tupled f)) (i : Int) : callF T (d + 1) f [.int i] C = .ok (.int i) C := by
  rw [callF_eq h rfl]
  simp -implicitDefEqProofs [F_tupled]
theorem s_tupled_rule {f : Nat} (h : T.fn f = some (F_tupled f)) (p q : Int) : callF T (d + 2) f [ruleD p q] C = .ok (ruleD p q) C := by
  rw [callF_eq h rfl]
  simp -implicitDefEqProofs [F_tupled, cloop, cbd, s_tupled_int h, fin_tup, D.nocL]
theorem s_is_long2 {f : Nat} (h : T.fn f = some F_is_long) (x y : D) : callF T (d + 1) f [.tup [x, y], .int 2] C = .ok (.bl true) C := by
  rw [callF_eq h rfl]
  simp -implicitDefEqProofs [F_is_long]
theorem s_are_numbers_rule {f g : Nat} (h : T.fn f = some (F_are_numbers g)) (hg : T.fn g = some F_is_number) (p q : Int) : callF T (d + 2) f [ruleD p q] C = .ok (.bl true) C := by
  rw [callF_eq h rfl]
  have e1 := fun i : Int => @s_is_number T d C g hg (.int i) rfl
  simp -implicitDefEqProofs [F_are_numbers, cloop, cbd, e1, isNum, boolsD]
theorem s_is_rule_in {f g2 g3 g4 : Nat} {gm : Nat} (h : T.fn f = some (F_is_rule_in gm g3 g2)) (hm : T.glob gm = some (.int 1000)) (h2 : T.fn g2 = some F_is_long) (h3 : T.fn g3 = some (F_are_numbers g4)) (h4 : T.fn g4 = some F_is_number) {p q : Int} (r : RuleOk p q) :
    callF T (d + 3) f [ruleD p q] C = .ok (.bl true) C := by
  rw [callF_eq h rfl]
  have a1 : (p.natAbs : Int) ≤ 1000 := by have := r.p1; have := r.p2; omega
  have a2 : (q.natAbs : Int) ≤ 1000 := by have := r.q1; have := r.q2; omega
  simp -implicitDefEqProofs [F_is_rule_in, s_is_long2 h2, s_are_numbers_rule h3 h4, cloop, cbd, hm, abs_nat, a1, a2, boolsD, r.q0]
theorem s_sure_rule {f fi ft e g2 g3 g4 : Nat} {gm : Nat} (h : T.fn f = some (F_sure_rule fi e ft)) (ht : T.fn ft = some (F_tupled ft)) (hi : T.fn fi = some (F_is_rule_in gm g3 g2)) (hm : T.glob gm = some (.int 1000)) (h2 : T.fn g2 = some F_is_long)
    (h3 : T.fn g3 = some (F_are_numbers g4)) (h4 : T.fn g4 = some F_is_number) {p q : Int} (r : RuleOk p q) : callF T (d + 4) f [ruleD p q] C = .ok (ruleD p q) C := by
  rw [callF_eq h rfl]
  have e1 := s_tupled_rule (T := T) (d := d + 1) (C := C) ht p q
  have e2 := s_is_rule_in (T := T) (d := d) (C := C) hi hm h2 h3 h4 r
  simp -implicitDefEqProofs [F_sure_rule, e1, e2, fin_tup, D.nocL]
theorem s_sure_within {f g g2 e : Nat} (h : T.fn f = some (F_sure_within g e)) (hg : T.fn g = some (F_is_within g2)) (h2 : T.fn g2 = some F_is_number) {i a b : Int} (h3 : a ≤ i) (h4 : i ≤ b) : callF T (d + 3) f [.int i, .int a, .int b] C = .ok (.int i) C := by
  rw [callF_eq h rfl]
  have e1 := s_is_within (T := T) (d := d) (C := C) hg h2 i a b
  simp -implicitDefEqProofs [F_sure_within, e1, h3, h4]
end
end ML

set_option maxHeartbeats 1000000
/-! Where terms are 0. -/
namespace ML
theorem U_zero (p q : Int) : U p q 0 = 0 := rfl
theorem U_one (p q : Int) : U p q 1 = 1 := rfl
theorem U_rec (p q : Int) (n : Nat) : U p q (n + 2) = p * U p q (n + 1) - q * U p q n := rfl
/-- W by two: the terms over p, by squares -/
def EO (a b : Int) : Nat → Int × Int
  | 0 => (0, 1)
  | j + 1 => ((EO a b j).2 - b * (EO a b j).1, a * ((EO a b j).2 - b * (EO a b j).1) - b * (EO a b j).2)
theorem U_EO (p q : Int) : ∀ j, U p q (2 * j) = p * (EO (p * p) q j).1 ∧ U p q (2 * j + 1) = (EO (p * p) q j).2
  | 0 => ⟨by simp [EO, U], by simp [EO, U]⟩
  | j + 1 => by
    obtain ⟨h1, h2⟩ := U_EO p q j
    have e1 : U p q (2 * (j + 1)) = p * ((EO (p * p) q j).2 - q * (EO (p * p) q j).1) := by
      show U p q (2 * j + 2) = _
      rw [U_rec, h1, h2]; grind
    refine ⟨e1, ?_⟩
    show U p q (2 * j + 1 + 2) = _
    rw [U_rec, h2]
    show p * U p q (2 * (j + 1)) - _ = _
    rw [e1, EO]; grind
theorem EO_scale (g a b : Int) : ∀ j, (EO (g * a) (g * b) (j + 1)).1 = g ^ j * (EO a b (j + 1)).1 ∧ (EO (g * a) (g * b) j).2 = g ^ j * (EO a b j).2
  | 0 => ⟨by simp [EO], by simp [EO]⟩
  | j + 1 => by
    obtain ⟨h1, h2⟩ := EO_scale g a b j
    have e2 : (EO (g * a) (g * b) (j + 1)).2 = g ^ (j + 1) * (EO a b (j + 1)).2 := by
      have x1 : (EO (g * a) (g * b) (j + 1)).2 = g * a * (EO (g * a) (g * b) (j + 1)).1 - g * b * (EO (g * a) (g * b) j).2 := rfl
      have x2 : (EO a b (j + 1)).2 = a * (EO a b (j + 1)).1 - b * (EO a b j).2 := rfl
      rw [x1, x2, h1, h2, Int.pow_succ]; grind
    refine ⟨?_, e2⟩
    have x1 : (EO (g * a) (g * b) (j + 2)).1 = (EO (g * a) (g * b) (j + 1)).2 - g * b * (EO (g * a) (g * b) (j + 1)).1 := rfl
    have x2 : (EO a b (j + 2)).1 = (EO a b (j + 1)).2 - b * (EO a b (j + 1)).1 := rfl
    rw [x1, x2, e2, h1, Int.pow_succ]; grind
theorem EO_mod (a b : Int) : ∀ j, b ∣ (EO a b (j + 1)).1 - a ^ j ∧ b ∣ (EO a b j).2 - a ^ j
  | 0 => ⟨by simp [EO], by simp [EO]⟩
  | j + 1 => by
    obtain ⟨⟨x, h1⟩, ⟨y, h2⟩⟩ := EO_mod a b j
    have e2 : b ∣ (EO a b (j + 1)).2 - a ^ (j + 1) := by
      have x2 : (EO a b (j + 1)).2 = a * (EO a b (j + 1)).1 - b * (EO a b j).2 := rfl
      refine ⟨a * x - (EO a b j).2, ?_⟩
      rw [x2, Int.pow_succ]; grind
    refine ⟨?_, e2⟩
    obtain ⟨z, h3⟩ := e2
    have x1 : (EO a b (j + 2)).1 = (EO a b (j + 1)).2 - b * (EO a b (j + 1)).1 := rfl
    exact ⟨z - (EO a b (j + 1)).1, by rw [x1]; grind⟩
theorem U_pos {p q : Int} (hp : 0 < p) (hD : 4 * q ≤ p * p) : ∀ n, 0 < U p q (n + 1) ∧ p * U p q (n + 1) ≤ 2 * U p q (n + 2)
  | 0 => by
    refine ⟨by simp [U], ?_⟩
    have : U p q 2 = p := by simp [U]
    have h1 : U p q 1 = 1 := rfl
    rw [this, h1]; omega
  | n + 1 => by
    obtain ⟨h1, h2⟩ := U_pos hp hD n
    have h3 : 0 < p * U p q (n + 1) := Int.mul_pos hp h1
    have h4 : 0 < U p q (n + 2) := by omega
    refine ⟨h4, ?_⟩
    have e : U p q (n + 1 + 2) = p * U p q (n + 2) - q * U p q (n + 1) := rfl
    rw [e]
    have h5 : 4 * q * U p q (n + 1) ≤ p * p * U p q (n + 1) := Int.mul_le_mul_of_nonneg_right hD (Int.le_of_lt h1)
    have h6 : p * (p * U p q (n + 1)) ≤ p * (2 * U p q (n + 2)) := Int.mul_le_mul_of_nonneg_left h2 (Int.le_of_lt hp)
    have e1 : p * (p * U p q (n + 1)) = p * p * U p q (n + 1) := by grind
    have e2 : p * (2 * U p q (n + 2)) = 2 * (p * U p q (n + 2)) := by grind
    have e3 : 4 * q * U p q (n + 1) = 4 * (q * U p q (n + 1)) := by grind
    show p * U p q (n + 2) ≤ _
    omega
theorem U_neg_zero {p q : Int} {n : Nat} (h : U p q n = 0) : U (-p) q n = 0 := by
  have e : (-p) * (-p) = p * p := by grind
  have h1 := U_EO p q (n / 2)
  have h2 := U_EO (-p) q (n / 2)
  rw [e] at h2
  rcases Nat.mod_two_eq_zero_or_one n with hn | hn
  · have hn' : 2 * (n / 2) = n := by omega
    rw [hn'] at h1 h2
    rw [h2.1]; rw [h1.1] at h; grind
  · have hn' : 2 * (n / 2) + 1 = n := by omega
    rw [hn'] at h1 h2
    rw [h2.2, ← h1.2]; exact h
theorem U_ne {p q : Int} (hp : p ≠ 0) (hD : 4 * q ≤ p * p) {n : Nat} (hn : 1 ≤ n) : U p q n ≠ 0 := fun h => by
  obtain ⟨k, rfl⟩ : ∃ k, n = k + 1 := ⟨n - 1, by omega⟩
  rcases Int.lt_or_gt_of_ne hp with h0 | h0
  · have := (U_pos (p := -p) (q := q) (by omega) (by have : (-p) * (-p) = p * p := by grind
                                                     omega) k).1
    have := U_neg_zero h
    omega
  · have := (U_pos h0 hD k).1
    omega
theorem cop_one {a b : Int} {i : Nat} (hc : Int.gcd a b = 1) (h : b ∣ a ^ i) : b.natAbs = 1 := by
  have h1 : b.natAbs ∣ a.natAbs ^ i := by
    have := Int.natAbs_dvd_natAbs.mpr h
    rwa [Int.natAbs_pow] at this
  have hc' : Nat.Coprime (a.natAbs ^ i) b.natAbs := Nat.Coprime.pow_left i hc
  exact Nat.Coprime.eq_one_of_dvd hc'.symm h1
theorem zero_cases {p q : Int} {n : Nat} (hq : q ≠ 0) (hn : 1 ≤ n) (h : U p q n = 0) : p = 0 ∨ p * p = q ∨ p * p = 2 * q ∨ p * p = 3 * q := by
  by_cases hp : p = 0
  · exact .inl hp
  right
  by_cases hD : 4 * q ≤ p * p
  · exact absurd h (U_ne hp hD hn)
  have hpp : 0 < p * p := by
    rcases Int.lt_or_gt_of_ne hp with h0 | h0
    · exact Int.mul_pos_of_neg_of_neg h0 h0
    · exact Int.mul_pos h0 h0
  have hq0 : 0 < q := by omega
  -- by the greatest common divisor
  obtain ⟨a, ha⟩ : (Int.gcd (p * p) q : Int) ∣ p * p := Int.gcd_dvd_left _ _
  obtain ⟨b, hb⟩ : (Int.gcd (p * p) q : Int) ∣ q := Int.gcd_dvd_right _ _
  generalize hg : (Int.gcd (p * p) q : Int) = g at ha hb
  have hg0 : 0 < g := by
    have : 0 ≤ g := by rw [← hg]; omega
    rcases Int.lt_or_eq_of_le this with h1 | h1
    · exact h1
    · rw [← h1] at hb; simp at hb; omega
  have hcop : Int.gcd a b = 1 := by
    have h1 : Int.gcd (g * a) (g * b) = g.natAbs * Int.gcd a b := Int.gcd_mul_left ..
    rw [← ha, ← hb] at h1
    have h2 : g.natAbs = Int.gcd (p * p) q := by rw [← hg]; rfl
    rw [h2] at h1
    have h3 : 0 < Int.gcd (p * p) q := by omega
    exact (Nat.eq_of_mul_eq_mul_left h3 (by omega)).symm
  have key : ∃ i, b ∣ a ^ i := by
    have hU := U_EO p q (n / 2)
    rcases Nat.mod_two_eq_zero_or_one n with hn2 | hn2
    · have hn' : 2 * (n / 2) = n := by omega
      rw [hn'] at hU
      rw [hU.1] at h
      obtain ⟨j, hj⟩ : ∃ j, n / 2 = j + 1 := ⟨n / 2 - 1, by omega⟩
      have h1 : (EO (p * p) q (n / 2)).1 = 0 := by
        rcases Int.mul_eq_zero.mp h with h1 | h1
        · exact absurd h1 hp
        · exact h1
      rw [hj, ha, hb, (EO_scale g a b j).1] at h1
      have h2 : (EO a b (j + 1)).1 = 0 := by
        rcases Int.mul_eq_zero.mp h1 with h2 | h2
        · exact absurd h2 (Int.pow_ne_zero (by omega))
        · exact h2
      have h3 := (EO_mod a b j).1
      rw [h2] at h3
      exact ⟨j, by simpa using h3⟩
    · have hn' : 2 * (n / 2) + 1 = n := by omega
      rw [hn'] at hU
      rw [hU.2, ha, hb, (EO_scale g a b _).2] at h
      have h2 : (EO a b (n / 2)).2 = 0 := by
        rcases Int.mul_eq_zero.mp h with h2 | h2
        · exact absurd h2 (Int.pow_ne_zero (by omega))
        · exact h2
      have h3 := (EO_mod a b (n / 2)).2
      rw [h2] at h3
      exact ⟨_, by simpa using h3⟩
  obtain ⟨i, hi⟩ := key
  have hb1 := cop_one hcop hi
  have hbp : 0 < b := by
    rcases Int.lt_or_le 0 b with h1 | h1
    · exact h1
    · have : g * b ≤ 0 := Int.mul_nonpos_of_nonneg_of_nonpos (by omega) h1
      omega
  have hb2 : b = 1 := by omega
  subst hb2
  rw [Int.mul_one] at hb
  subst hb
  have ha0 : 0 < a := by
    rcases Int.lt_or_le 0 a with h1 | h1
    · exact h1
    · have : q * a ≤ 0 := Int.mul_nonpos_of_nonneg_of_nonpos (by omega) h1
      omega
  have ha4 : a < 4 := by
    refine Int.lt_of_not_ge fun h1 => ?_
    have : q * 4 ≤ q * a := Int.mul_le_mul_of_nonneg_left h1 (by omega)
    omega
  have : a = 1 ∨ a = 2 ∨ a = 3 := by omega
  rcases this with rfl | rfl | rfl
  · left; omega
  · right; left; omega
  · right; right; omega
end ML

set_option maxHeartbeats 1000000
/-! Shared defs of the program: terms of a rule; by what they do. -/
namespace ML
open PySem
def SureRule (T : Tab) (f : Nat) : Prop := ∀ (d : Nat) (C : Cells) (p q : Int), RuleOk p q → callF T (d + 4) f [ruleD p q] C = .ok (ruleD p q) C
def SureWithin (T : Tab) (f : Nat) : Prop := ∀ (d : Nat) (C : Cells) (i a b : Int), a ≤ i → i ≤ b → callF T (d + 3) f [.int i, .int a, .int b] C = .ok (.int i) C
def TermsIn (T : Tab) (f : Nat) : Prop := ∀ (d : Nat) (C : Cells) (p q : Int) (n : Nat), RuleOk p q → n ≤ 100000 → callF T (d + 1) f [ruleD p q, .str "u", .int n] C = .ok (.lst (rowL (U p q) n)) C ∧ callF T (d + 1) f [ruleD p q, .str "v", .int n] C = .ok (.lst (rowL (V p q) n)) C
theorem termsIn_of {T : Tab} {f : Nat} (h : T.fn f = some F_terms_in) : TermsIn T f := fun d C p q n r hn => ⟨s_terms_u h r.bp r.bq n hn, s_terms_v h r.bp r.bq n hn⟩
section
variable {T : Tab} {d : Nat} {C : Cells}
theorem s_terms {f ft fw gm fr : Nat} (h : T.fn f = some (F_terms ft fw gm fr)) (ht : TermsIn T ft) (hw : SureWithin T fw) (hr : SureRule T fr) (hm : T.glob gm = some (.int 3000)) {p q : Int} (r : RuleOk p q) {n : Nat} (hn : n ≤ 3001) :
    callF T (d + 5) f [ruleD p q, .int n] C = .ok (.lst (rowL (U p q) n)) C := by
  rw [callF_eq h rfl]
  have e1 := hr d C p q r
  have e2 := hw (d + 1) C n 0 3001 (by omega) (by omega)
  have e3 := (ht (d + 3) C p q n r (by omega)).1
  simp -implicitDefEqProofs [F_terms, e1, hm, e2, e3, fin_lst (rowL_noc _ _)]
theorem s_companions {f ft fw gm fr : Nat} (h : T.fn f = some (F_companions ft fw gm fr)) (ht : TermsIn T ft) (hw : SureWithin T fw) (hr : SureRule T fr) (hm : T.glob gm = some (.int 3000)) {p q : Int} (r : RuleOk p q) {n : Nat} (hn : n ≤ 3001) :
    callF T (d + 5) f [ruleD p q, .int n] C = .ok (.lst (rowL (V p q) n)) C := by
  rw [callF_eq h rfl]
  have e1 := hr d C p q r
  have e2 := hw (d + 1) C n 0 3001 (by omega) (by omega)
  have e3 := (ht (d + 3) C p q n r (by omega)).2
  simp -implicitDefEqProofs [F_companions, e1, hm, e2, e3, fin_lst (rowL_noc _ _)]
theorem s_term {f ft fw gm fr : Nat} (h : T.fn f = some (F_term ft fw gm fr)) (ht : TermsIn T ft) (hw : SureWithin T fw) (hr : SureRule T fr) (hm : T.glob gm = some (.int 3000)) {p q : Int} (r : RuleOk p q) {n : Nat} (hn : n ≤ 3000) :
    callF T (d + 5) f [ruleD p q, .int n] C = .ok (.int (U p q n)) C := by
  rw [callF_eq h rfl]
  have e1 := hr d C p q r
  have e2 := hw (d + 1) C n 0 3000 (by omega) (by omega)
  have e3 := (ht (d + 3) C p q (n + 1) r (by omega)).1
  have e4 : ixn (n + 1) (-1) = some n := ixn_neg (k := 1) (by omega) (by omega)
  have e5 : atD (rowL (U p q) (n + 1)) n = some (.int (U p q n)) := rowL_at (by omega)
  have e6 : ((n : Int) + 1) = ((n + 1 : Nat) : Int) := by omega
  simp -implicitDefEqProofs only [F_term, List.map_cons, List.map_nil, List.cons_append, List.nil_append, List.replicate, evSs, evS_set, evE_call, evEs, evE_var, List.getElem?_cons_zero, List.getElem?_cons_succ, R.bind_ok, e1, R.toS_ok, RS.seq_next, List.set_cons_succ, List.set_cons_zero,
    evS_ret, evE_idx, evE_lit, evE_bin, evE_glob, hm, R.of_some, e2, add_int, e6, e3, evE_neg, idx_int, items_lst', Option.bind_some, rowL_len, e4, e5, RS.seq_ret, retR_ret, fin_int, List.take_length]
theorem s_companion {f ft fw gm fr : Nat} (h : T.fn f = some (F_companion ft fw gm fr)) (ht : TermsIn T ft) (hw : SureWithin T fw) (hr : SureRule T fr) (hm : T.glob gm = some (.int 3000)) {p q : Int} (r : RuleOk p q) {n : Nat} (hn : n ≤ 3000) :
    callF T (d + 5) f [ruleD p q, .int n] C = .ok (.int (V p q n)) C := by
  rw [callF_eq h rfl]
  have e1 := hr d C p q r
  have e2 := hw (d + 1) C n 0 3000 (by omega) (by omega)
  have e3 := (ht (d + 3) C p q (n + 1) r (by omega)).2
  have e4 : ixn (n + 1) (-1) = some n := ixn_neg (k := 1) (by omega) (by omega)
  have e5 : atD (rowL (V p q) (n + 1)) n = some (.int (V p q n)) := rowL_at (by omega)
  have e6 : ((n : Int) + 1) = ((n + 1 : Nat) : Int) := by omega
  simp -implicitDefEqProofs only [F_companion, List.map_cons, List.map_nil, List.cons_append, List.nil_append, List.replicate, evSs, evS_set, evE_call, evEs, evE_var, List.getElem?_cons_zero, List.getElem?_cons_succ, R.bind_ok, e1, R.toS_ok, RS.seq_next, List.set_cons_succ, List.set_cons_zero,
    evS_ret, evE_idx, evE_lit, evE_bin, evE_glob, hm, R.of_some, e2, add_int, e6, e3, evE_neg, idx_int, items_lst', Option.bind_some, rowL_len, e4, e5, RS.seq_ret, retR_ret, fin_int, List.take_length]
theorem s_big_d {f : Nat} (h : T.fn f = some F_big_d) {p q : Int} (r : RuleOk p q) : callF T (d + 1) f [ruleD p q] C = .ok (.int (p * p - 4 * q)) C := by
  rw [callF_eq h rfl]
  have k4 : bits 4 < 63 := by decide
  simp -implicitDefEqProofs [F_big_d, mul_int _ _ (.inl r.bp), mul_int _ _ (.inl k4)]
theorem s_discriminant {f fb fr : Nat} (h : T.fn f = some (F_discriminant fb fr)) (hb : T.fn fb = some F_big_d) (hr : SureRule T fr) {p q : Int} (r : RuleOk p q) : callF T (d + 5) f [ruleD p q] C = .ok (.int (p * p - 4 * q)) C := by
  rw [callF_eq h rfl]
  have e1 := hr d C p q r
  have e2 := s_big_d (T := T) (d := d + 3) (C := C) hb r
  simp -implicitDefEqProofs [F_discriminant, e1, e2]
def plainB (p q : Int) : Bool := decide (p ≠ 0) && decide (Int.gcd p q = 1)
theorem s_is_plain {f fi fc fr : Nat} (h : T.fn f = some (F_is_plain fi fr)) (hi : T.fn fi = some (F_is_plain_in fc)) (hc : T.fn fc = some F_common) (hr : SureRule T fr) {p q : Int} (r : RuleOk p q) : callF T (d + 5) f [ruleD p q] C = .ok (.bl (plainB p q)) C := by
  rw [callF_eq h rfl]
  have e1 := hr d C p q r
  have l1 : Lt2 11 p := by unfold Lt2; have := r.p1; have := r.p2; omega
  have l2 : Lt2 11 q := by unfold Lt2; have := r.q1; have := r.q2; omega
  have e2 := s_common (T := T) (d := d + 2) (C := C) hc (N := 11) (by unfold WMAX; omega) l1 l2
  have e3 : callF T (d + 4) fi [ruleD p q] C = .ok (.bl (plainB p q)) C := by
    rw [callF_eq hi rfl]
    by_cases hp : p = 0
    · simp -implicitDefEqProofs [F_is_plain_in, plainB, hp]
    · simp -implicitDefEqProofs [F_is_plain_in, plainB, hp, e2]
      congr 2
      by_cases h1 : Int.gcd p q = 1 <;> simp [h1]; omega
  simp -implicitDefEqProofs [F_is_plain, e1, e3]
end
end ML

set_option maxHeartbeats 1000000
/-! Where terms are 0: exactly. -/
namespace ML
open PySem
def zp (p q : Int) : Option Nat := if p = 0 then some 2 else if p * p = q then some 3 else if p * p = 2 * q then some 4 else if p * p = 3 * q then some 6 else none
theorem U_shift {p q : Int} {m : Nat} (h : U p q m = 0) : ∀ n, U p q (n + m) = U p q (m + 1) * U p q n
  | 0 => by rw [Nat.zero_add, h]; simp [U]
  | 1 => by rw [Nat.add_comm]; simp [U]
  | n + 2 => by
    have e : U p q (n + 2 + m) = p * U p q (n + 1 + m) - q * U p q (n + m) := by
      have : n + 2 + m = (n + m) + 2 := by omega
      rw [this, U_rec]
      have : n + 1 + m = n + m + 1 := by omega
      rw [this]
    rw [e, U_shift h (n + 1), U_shift h n, U_rec]; grind
theorem cassini (p q : Int) : ∀ n, U p q (n + 1) * U p q (n + 1) - U p q n * U p q (n + 2) = q ^ n
  | 0 => by simp [U]
  | n + 1 => by
    have ih := cassini p q n
    have e1 : U p q (n + 1 + 2) = p * U p q (n + 2) - q * U p q (n + 1) := rfl
    have e2 : U p q (n + 2) = p * U p q (n + 1) - q * U p q n := rfl
    rw [e1, Int.pow_succ, ← ih]
    show U p q (n + 2) * U p q (n + 2) - U p q (n + 1) * (p * U p q (n + 2) - q * U p q (n + 1)) = (U p q (n + 1) * U p q (n + 1) - U p q n * U p q (n + 2)) * q
    generalize U p q (n + 1) = x at *
    generalize U p q n = y at *
    rw [e2]; grind
theorem U_next {p q : Int} (hq : q ≠ 0) {m : Nat} (h : U p q m = 0) : U p q (m + 1) ≠ 0 := fun h1 => by
  have := cassini p q m
  rw [h, h1] at this
  have h2 : q ^ m ≠ 0 := Int.pow_ne_zero hq
  simp at this
  exact h2 this.symm
theorem zero_mod {p q : Int} (hq : q ≠ 0) {m : Nat} (hm : 0 < m) (h : U p q m = 0) (hlt : ∀ k, 0 < k → k < m → U p q k ≠ 0) : ∀ n, U p q n = 0 ↔ n % m = 0 := by
  intro n
  induction n using Nat.strongRecOn with
  | ind n ih =>
    by_cases hn : n < m
    · rw [Nat.mod_eq_of_lt hn]
      constructor
      · intro h0
        rcases Nat.eq_zero_or_pos n with h1 | h1
        · exact h1
        · exact absurd h0 (hlt n h1 hn)
      · rintro rfl; rfl
    · have e : n = (n - m) + m := by omega
      have h2 := ih (n - m) (by omega)
      rw [e, U_shift h, Nat.add_mod_right]
      rw [← h2]
      constructor
      · intro h3
        rcases Int.mul_eq_zero.mp h3 with h4 | h4
        · exact absurd h4 (U_next hq h)
        · exact h4
      · intro h3; rw [h3]; simp
theorem U2 (p q : Int) : U p q 2 = p := by simp [U]
theorem U3 (p q : Int) : U p q 3 = p * p - q := by simp [U]
theorem U4 (p q : Int) : U p q 4 = p * (p * p - 2 * q) := by simp [U]; grind
theorem U5 (p q : Int) : U p q 5 = p * p * (p * p) - 3 * (p * p) * q + q * q := by simp [U]; grind
theorem U6 (p q : Int) : U p q 6 = p * (p * p - q) * (p * p - 3 * q) := by simp [U]; grind
theorem sq_ne {q : Int} (hq : q ≠ 0) : q * q ≠ 0 := fun h => by
  rcases Int.mul_eq_zero.mp h with h | h <;> exact hq h
theorem zp_spec {p q : Int} (hq : q ≠ 0) : (∀ m, zp p q = some m → 0 < m ∧ ∀ n, U p q n = 0 ↔ n % m = 0) ∧ (zp p q = none → ∀ n, 1 ≤ n → U p q n ≠ 0) := by
  unfold zp
  by_cases h0 : p = 0
  · subst h0
    refine ⟨fun m hm => ?_, fun h => by simp at h⟩
    simp at hm; subst hm
    exact ⟨by omega, zero_mod hq (by omega) (by simp [U2]) fun k h1 h2 => by have : k = 1 := by omega
                                                                             subst this; simp [U]⟩
  rw [if_neg h0]
  by_cases h3 : p * p = q
  · rw [if_pos h3]
    refine ⟨fun m hm => ?_, fun h => by simp at h⟩
    simp at hm; subst hm
    refine ⟨by omega, zero_mod hq (by omega) (by rw [U3]; omega) fun k h1 h2 => ?_⟩
    have : k = 1 ∨ k = 2 := by omega
    rcases this with rfl | rfl
    · simp [U]
    · rw [U2]; exact h0
  rw [if_neg h3]
  by_cases h4 : p * p = 2 * q
  · rw [if_pos h4]
    refine ⟨fun m hm => ?_, fun h => by simp at h⟩
    simp at hm; subst hm
    refine ⟨by omega, zero_mod hq (by omega) (by rw [U4, h4]; simp) fun k h1 h2 => ?_⟩
    have : k = 1 ∨ k = 2 ∨ k = 3 := by omega
    rcases this with rfl | rfl | rfl
    · simp [U]
    · rw [U2]; exact h0
    · rw [U3]; omega
  rw [if_neg h4]
  by_cases h6 : p * p = 3 * q
  · rw [if_pos h6]
    refine ⟨fun m hm => ?_, fun h => by simp at h⟩
    simp at hm; subst hm
    refine ⟨by omega, zero_mod hq (by omega) (by rw [U6, h6]; simp) fun k h1 h2 => ?_⟩
    have : k = 1 ∨ k = 2 ∨ k = 3 ∨ k = 4 ∨ k = 5 := by omega
    rcases this with rfl | rfl | rfl | rfl | rfl
    · simp [U]
    · rw [U2]; exact h0
    · rw [U3]; omega
    · rw [U4]; intro h
      rcases Int.mul_eq_zero.mp h with h | h
      · exact h0 h
      · omega
    · rw [U5, h6]; intro h
      have : q * q = 0 := by grind
      exact sq_ne hq this
  rw [if_neg h6]
  refine ⟨fun m hm => by simp at hm, fun _ n hn h => ?_⟩
  rcases zero_cases hq hn h with h | h | h | h
  · exact h0 h
  · exact h3 h
  · exact h4 h
  · exact h6 h
theorem zp_vals {p q : Int} {m : Nat} (h : zp p q = some m) : m = 2 ∨ m = 3 ∨ m = 4 ∨ m = 6 := by
  unfold zp at h
  split at h
  · simp at h; omega
  split at h
  · simp at h; omega
  split at h
  · simp at h; omega
  split at h
  · simp at h; omega
  · simp at h
def ozD : Option Nat → D
  | none => .non
  | some m => .int m
/-- is term k 0? -/
def zat (z : Option Nat) (k : Nat) : Bool := match z with
  | none => false
  | some m => k % m == 0
theorem zat_ok {p q : Int} (hq : q ≠ 0) {k : Nat} (hk : 1 ≤ k) : decide (U p q k = 0) = zat (zp p q) k := by
  obtain ⟨h1, h2⟩ := zp_spec (p := p) hq
  cases hz : zp p q with
  | none => simpa [zat] using h2 hz k hk
  | some m =>
    have := (h1 m hz).2 k
    simp only [zat]
    by_cases h : U p q k = 0
    · simp [h, this.mp h]
    · have h' : k % m ≠ 0 := fun e => h (this.mpr e)
      simp [h, h']
end ML

set_option maxHeartbeats 2000000
/-! The least place of 0. -/
namespace ML
open PySem
@[simp] theorem evSrc_enum (gl : Nat → Option D) (cf : Nat → List D → Cells → R D) (a : E) (ρ : Env) (C : Cells) : evSrc gl cf (.enum a) ρ C = (evE gl cf a ρ C).bind fun x C => match x with
    | .lst xs => .ok (enumD 0 xs, none) C
    | _ => .stuck := by rw [evSrc] <;> rfl
theorem eqv_ints : ∀ xs ys : List Int, PyData.eqvAll (D.pyL (xs.map fun n => D.int n)) (D.pyL (ys.map fun n => D.int n)) = decide (xs = ys)
  | [], [] => by simp [D.pyL, PyData.eqvAll]
  | [], y :: ys => by simp [D.pyL, PyData.eqvAll]
  | x :: xs, [] => by simp [D.pyL, PyData.eqvAll]
  | x :: xs, y :: ys => by
    simp only [List.map_cons, D.pyL, D.py, PyData.eqvAll, PyData.eqv, eqv_ints xs ys]
    by_cases h : x = y <;> simp [h]
theorem plain_ints (n : Nat) : ∀ xs : List Int, D.plainL n (xs.map fun n => D.int n) = true
  | [] => rfl
  | x :: xs => by simp [D.plain, plain_ints n xs]
theorem deq_ints {C : Cells} (xs ys : List Int) : deq C (scr xs) (scr ys) = some (decide (xs = ys)) := by
  simp only [deq, D.val, D.plain, plain_ints, Bool.and_self, if_true, D.py, PyData.eqv, eqv_ints]
theorem deq_ints_nil {C : Cells} (xs : List Int) : deq C (scr xs) (.lst []) = some (decide (xs = [])) := deq_ints xs []
@[simp] theorem ixn_10 : ixn 1 0 = some 0 := rfl
@[simp] theorem deq_nil_nil {C : Cells} : deq C (.lst []) (.lst []) = some true := rfl
@[simp] theorem deq_int_non {C : Cells} (i : Int) : deq C (.int i) .non = some false := rfl
@[simp] theorem deq_non_int {C : Cells} (i : Int) : deq C .non (.int i) = some false := rfl
section
variable {T : Tab} {d : Nat} {C : Cells}
def firstZ (z : Option Nat) : List Int := match z with
  | none => []
  | some m => if m ≤ 6 then (if m = 2 then [2, 4, 6] else if m = 3 then [3, 6] else if m = 4 then [4] else [6]) else []
theorem s_zero_in {f ft : Nat} (h : T.fn f = some (F_zero_in ft)) (ht : TermsIn T ft) {p q : Int} (r : RuleOk p q) : callF T (d + 2) f [ruleD p q] C = .ok (ozD (zp p q)) C := by
  rw [callF_eq h rfl]
  have e1 := (ht d C p q 7 r (by omega)).1
  have e2 : rowL (U p q) 7 = [.int (U p q 0), .int (U p q 1), .int (U p q 2), .int (U p q 3), .int (U p q 4), .int (U p q 5), .int (U p q 6)] := rfl
  rw [e2] at e1
  have z : ∀ k, 1 ≤ k → (U p q k = 0 ↔ zat (zp p q) k = true) := fun k hk => by rw [← zat_ok r.q0 hk]; simp
  have e1' : callF T (d + 1) ft [ruleD p q, D.str "u", D.int 7] C = .ok (.lst [.int (U p q 0), .int (U p q 1), .int (U p q 2), .int (U p q 3), .int (U p q 4), .int (U p q 5), .int (U p q 6)]) C := e1
  have comp : evE T.glob (callF T (d + 1)) (.comp [2, 3] (.enum (.call ft (.cons (.var 0) (.cons (.lit (.str "u")) (.cons (.lit (.int 7)) .nil))))) (.many [2, 3]) (.some (.and (.cmp .gt (.var 2) (.lit (.int 0))) (.cmp .eq (.var 3) (.lit (.int 0))))) (.var 2)) [some (ruleD p q), none, none, none] C = .ok (scr (firstZ (zp p q))) C := by
    have hz := fun m => zp_vals (p := p) (q := q) (m := m)
    simp -implicitDefEqProofs [e1', enumD, cloop, cbd, z 1 (by omega), z 2 (by omega), z 3 (by omega), z 4 (by omega), z 5 (by omega), z 6 (by omega)]
    cases hzp : zp p q with
    | none => simp [zat, firstZ]
    | some m =>
      rcases hz m hzp with rfl | rfl | rfl | rfl <;> simp [zat, firstZ]
  simp -implicitDefEqProofs only [F_zero_in, List.map_cons, List.map_nil, List.cons_append, List.nil_append, List.replicate, evSs, evS_set, comp, R.toS_ok, RS.seq_next, List.set_cons_succ, List.set_cons_zero, evS_ret]
  have hz := fun m => zp_vals (p := p) (q := q) (m := m)
  cases hzp : zp p q with
  | none => simp -implicitDefEqProofs [firstZ, ozD, deq_ints_nil]
  | some m =>
    rcases hz m hzp with rfl | rfl | rfl | rfl
    · have := deq_ints_nil (C := C) [2, 4, 6]
      simp -implicitDefEqProofs [firstZ, ozD] at this ⊢
      simp -implicitDefEqProofs [this]
    · have := deq_ints_nil (C := C) [3, 6]
      simp -implicitDefEqProofs [firstZ, ozD] at this ⊢
      simp -implicitDefEqProofs [this]
    · have := deq_ints_nil (C := C) [4]
      simp -implicitDefEqProofs [firstZ, ozD] at this ⊢
      simp -implicitDefEqProofs [this]
    · have := deq_ints_nil (C := C) [6]
      simp -implicitDefEqProofs [firstZ, ozD] at this ⊢
      simp -implicitDefEqProofs [this]
theorem s_zero_place {f fz ft fr : Nat} (h : T.fn f = some (F_zero_place fz fr)) (hz : T.fn fz = some (F_zero_in ft)) (ht : TermsIn T ft) (hr : SureRule T fr) {p q : Int} (r : RuleOk p q) : callF T (d + 5) f [ruleD p q] C = .ok (ozD (zp p q)) C := by
  rw [callF_eq h rfl]
  have e1 := hr d C p q r
  have e2 := s_zero_in (T := T) (d := d + 2) (C := C) hz ht r
  simp -implicitDefEqProofs [F_zero_place, e1, e2]
  cases zp p q <;> simp [ozD]
end
end ML

set_option maxHeartbeats 1000000
/-! Common divisors of terms. -/
namespace ML
theorem U_add (p q : Int) (m : Nat) : ∀ n, U p q (m + 1 + n) = U p q (m + 1) * U p q (n + 1) - q * U p q m * U p q n
  | 0 => by simp [U]
  | 1 => by
    show U p q (m + 2) = _
    rw [U_rec, U2, U_one]; grind
  | n + 2 => by
    have e : U p q (m + 1 + (n + 2)) = p * U p q (m + 1 + (n + 1)) - q * U p q (m + 1 + n) := rfl
    rw [e, U_add p q m (n + 1), U_add p q m n]
    have e2 : U p q (n + 2 + 1) = p * U p q (n + 2) - q * U p q (n + 1) := rfl
    have e3 : U p q (n + 2) = p * U p q (n + 1) - q * U p q n := rfl
    have e4 : U p q (n + 1 + 1) = p * U p q (n + 1) - q * U p q n := rfl
    rw [e2, e3]; grind
theorem cop_dvd {a b c : Int} (h : Int.gcd a b = 1) (hd : a ∣ b * c) : a ∣ c := by
  have h1 : a.natAbs ∣ b.natAbs * c.natAbs := by rw [← Int.natAbs_mul]; exact Int.natAbs_dvd_natAbs.mpr hd
  exact Int.natAbs_dvd_natAbs.mp (Nat.Coprime.dvd_of_dvd_mul_left h h1)
theorem gcd_one_of {a b : Int} (h : ∀ d : Nat, (d : Int) ∣ a → (d : Int) ∣ b → d = 1) : Int.gcd a b = 1 := h _ (Int.gcd_dvd_left ..) (Int.gcd_dvd_right ..)
section
variable {p q : Int} (hc : Int.gcd p q = 1)
include hc
theorem U_q : ∀ n, Int.gcd (U p q (n + 1)) q = 1
  | 0 => by simp [U]
  | n + 1 => gcd_one_of fun d h1 h2 => by
    have e : U p q (n + 1 + 1) = p * U p q (n + 1) - q * U p q n := rfl
    rw [e] at h1
    have h3 : (d : Int) ∣ p * U p q (n + 1) := (Int.dvd_iff_dvd_of_dvd_sub h1).mpr (Int.dvd_mul_of_dvd_left h2)
    have hdp : Int.gcd d p = 1 := gcd_one_of fun k k1 k2 => by
      have k3 : (k : Int) ∣ q := Int.dvd_trans k1 h2
      have := Int.dvd_gcd k2 k3
      rw [hc] at this
      exact Nat.dvd_one.mp (by exact_mod_cast this)
    have h4 := cop_dvd hdp h3
    have ih := U_q n
    have := Int.dvd_gcd h4 h2
    rw [ih] at this
    exact Nat.dvd_one.mp (by exact_mod_cast this)
theorem U_cons : ∀ n, Int.gcd (U p q (n + 1)) (U p q n) = 1
  | 0 => by simp [U]
  | n + 1 => gcd_one_of fun d h1 h2 => by
    have e : U p q (n + 1 + 1) = p * U p q (n + 1) - q * U p q n := rfl
    rw [e] at h1
    have h3 : (d : Int) ∣ q * U p q n := (Int.dvd_iff_dvd_of_dvd_sub h1).mp (Int.dvd_mul_of_dvd_right h2)
    have hdq : Int.gcd d q = 1 := gcd_one_of fun k k1 k2 => by
      have k3 : (k : Int) ∣ U p q (n + 1) := Int.dvd_trans k1 h2
      have := Int.dvd_gcd k3 k2
      rw [U_q hc n] at this
      exact Nat.dvd_one.mp (by exact_mod_cast this)
    have h4 := cop_dvd hdq h3
    have ih := U_cons n
    have := Int.dvd_gcd h2 h4
    rw [ih] at this
    exact Nat.dvd_one.mp (by exact_mod_cast this)
theorem U_gcd_add (m n : Nat) : Int.gcd (U p q (m + n)) (U p q n) = Int.gcd (U p q m) (U p q n) := by
  cases m with
  | zero =>
    rw [Nat.zero_add, U_zero]
    simp
  | succ m =>
    rw [U_add]
    refine Nat.dvd_antisymm ?_ ?_
    · have h1 := Int.gcd_dvd_left (a := U p q (m + 1) * U p q (n + 1) - q * U p q m * U p q n) (b := U p q n)
      have h2 := Int.gcd_dvd_right (a := U p q (m + 1) * U p q (n + 1) - q * U p q m * U p q n) (b := U p q n)
      generalize Int.gcd (U p q (m + 1) * U p q (n + 1) - q * U p q m * U p q n) (U p q n) = d at *
      have h3 : (d : Int) ∣ U p q (m + 1) * U p q (n + 1) := (Int.dvd_iff_dvd_of_dvd_sub h1).mpr (Int.dvd_mul_of_dvd_right h2)
      have hd : Int.gcd d (U p q (n + 1)) = 1 := gcd_one_of fun k k1 k2 => by
        have := Int.dvd_gcd k2 (Int.dvd_trans k1 h2)
        rw [U_cons hc n] at this
        exact Nat.dvd_one.mp (by exact_mod_cast this)
      have h4 : (d : Int) ∣ U p q (m + 1) := cop_dvd hd (by rw [Int.mul_comm]; exact h3)
      exact Int.dvd_coe_gcd h4 h2 |> fun h => by exact_mod_cast h
    · have h1 := Int.gcd_dvd_left (a := U p q (m + 1)) (b := U p q n)
      have h2 := Int.gcd_dvd_right (a := U p q (m + 1)) (b := U p q n)
      generalize Int.gcd (U p q (m + 1)) (U p q n) = d at *
      have h3 : (d : Int) ∣ U p q (m + 1) * U p q (n + 1) - q * U p q m * U p q n := Int.dvd_sub (Int.dvd_mul_of_dvd_left h1) (Int.dvd_mul_of_dvd_right h2)
      exact Int.dvd_coe_gcd h3 h2 |> fun h => by exact_mod_cast h
theorem U_gcd (m n : Nat) : Int.gcd (U p q m) (U p q n) = (U p q (Nat.gcd m n)).natAbs := by
  induction m, n using Nat.gcd.induction with
  | H0 n => rw [Nat.gcd_zero_left, U_zero, Int.gcd_zero_left]
  | H1 m n hm ih =>
    rw [Nat.gcd_rec, ← ih]
    have key : ∀ k, Int.gcd (U p q (n % m + m * k)) (U p q m) = Int.gcd (U p q (n % m)) (U p q m) := by
      intro k
      induction k with
      | zero => rw [Nat.mul_zero, Nat.add_zero]
      | succ k ihk => rw [Nat.mul_succ, ← Nat.add_assoc, U_gcd_add hc, ihk]
    have e : n % m + m * (n / m) = n := Nat.mod_add_div n m
    have := key (n / m)
    rw [e] at this
    rw [Int.gcd_comm, this]
end
end ML

set_option maxHeartbeats 1000000
/-! Terms of v. -/
namespace ML
theorem V_rec (p q : Int) (n : Nat) : V p q (n + 2) = p * V p q (n + 1) - q * V p q n := rfl
theorem V_U (p q : Int) : ∀ n, V p q n = 2 * U p q (n + 1) - p * U p q n
  | 0 => by simp [V, U]
  | 1 => by simp [V, U2, U_one]; omega
  | n + 2 => by
    rw [V_rec, V_U p q (n + 1), V_U p q n]
    have e1 : U p q (n + 2 + 1) = p * U p q (n + 2) - q * U p q (n + 1) := rfl
    have e2 : U p q (n + 2) = p * U p q (n + 1) - q * U p q n := rfl
    have e3 : U p q (n + 1 + 1) = p * U p q (n + 1) - q * U p q n := rfl
    rw [e1, e2]; grind
theorem V_add (p q : Int) (m : Nat) : ∀ n, V p q (m + 1 + n) = V p q (m + 1) * U p q (n + 1) - q * V p q m * U p q n
  | 0 => by simp [U]
  | 1 => by
    show V p q (m + 2) = _
    rw [V_rec, U2, U_one]; grind
  | n + 2 => by
    have e : V p q (m + 1 + (n + 2)) = p * V p q (m + 1 + (n + 1)) - q * V p q (m + 1 + n) := rfl
    rw [e, V_add p q m (n + 1), V_add p q m n]
    have e2 : U p q (n + 2 + 1) = p * U p q (n + 2) - q * U p q (n + 1) := rfl
    have e3 : U p q (n + 2) = p * U p q (n + 1) - q * U p q n := rfl
    rw [e2, e3]; grind
/-- u twice as far -/
theorem U_double (p q : Int) (n : Nat) : U p q (n + n) = U p q n * V p q n := by
  cases n with
  | zero => simp [U]
  | succ n =>
    rw [U_add, V_U]
    have e2 : U p q (n + 1 + 1) = p * U p q (n + 1) - q * U p q n := rfl
    rw [e2]; grind
/-- by products with v: two places at a distance of n -/
theorem U_mulV (p q : Int) (n : Nat) : ∀ m, U p q (m + n + n) = U p q (m + n) * V p q n - q ^ n * U p q m
  | 0 => by
    rw [Nat.zero_add, U_double, U_zero]; omega
  | 1 => by
    have h1 : U p q (1 + n + n) = U p q (n + 1) * U p q (n + 1) - q * U p q n * U p q n := by
      have : 1 + n + n = n + 1 + n := by omega
      rw [this, U_add]
    have h2 := cassini p q n
    have e2 : U p q (n + 2) = p * U p q (n + 1) - q * U p q n := rfl
    rw [h1, V_U, ← h2, e2, Nat.add_comm 1 n, U_one]; grind
  | m + 2 => by
    have a1 : U p q (m + 2 + n + n) = p * U p q (m + 1 + n + n) - q * U p q (m + n + n) := by
      have : m + 2 + n + n = (m + n + n) + 2 := by omega
      rw [this, U_rec]
      have : m + 1 + n + n = (m + n + n) + 1 := by omega
      rw [this]
    have a2 : U p q (m + 2 + n) = p * U p q (m + 1 + n) - q * U p q (m + n) := by
      have : m + 2 + n = (m + n) + 2 := by omega
      rw [this, U_rec]
      have : m + 1 + n = (m + n) + 1 := by omega
      rw [this]
    rw [a1, U_mulV p q n (m + 1), U_mulV p q n m, a2, U_rec]; grind
theorem V_mulV (p q : Int) (n m : Nat) : V p q (m + n + n) = V p q (m + n) * V p q n - q ^ n * V p q m := by
  rw [V_U p q (m + n + n), V_U p q (m + n), V_U p q m]
  have h1 := U_mulV p q n (m + 1)
  have h0 := U_mulV p q n m
  have e1 : m + n + n + 1 = m + 1 + n + n := by omega
  have e2 : m + n + 1 = m + 1 + n := by omega
  rw [e1, e2, h1, h0]; grind
end ML

set_option maxHeartbeats 1000000
/-! Common divisors of terms of v, of u with v: steps. -/
namespace ML
theorem cop_pow_dvd {a b c : Int} (h : Int.gcd a b = 1) : ∀ n : Nat, a ∣ b ^ n * c → a ∣ c
  | 0, hd => by simpa using hd
  | n + 1, hd => cop_pow_dvd h n (cop_dvd h (by rw [Int.pow_succ, Int.mul_comm (b ^ n) b, Int.mul_assoc] at hd; exact hd))
theorem gcd_eq_of {a b c : Int} (h1 : ∀ d : Nat, (d : Int) ∣ a → (d : Int) ∣ b → (d : Int) ∣ c) (h2 : ∀ d : Nat, (d : Int) ∣ c → (d : Int) ∣ b → (d : Int) ∣ a) : Int.gcd a b = Int.gcd c b := by
  refine Nat.dvd_antisymm ?_ ?_
  · have := Int.dvd_coe_gcd (h1 _ (Int.gcd_dvd_left ..) (Int.gcd_dvd_right ..)) (Int.gcd_dvd_right (a := a) (b := b))
    exact_mod_cast this
  · have := Int.dvd_coe_gcd (h2 _ (Int.gcd_dvd_left ..) (Int.gcd_dvd_right ..)) (Int.gcd_dvd_right (a := c) (b := b))
    exact_mod_cast this
section
variable {p q : Int} (hc : Int.gcd p q = 1)
include hc
theorem V_q : ∀ n, Int.gcd (V p q (n + 1)) q = 1
  | 0 => by simpa [V] using hc
  | n + 1 => gcd_one_of fun d h1 h2 => by
    have e : V p q (n + 1 + 1) = p * V p q (n + 1) - q * V p q n := rfl
    rw [e] at h1
    have h3 : (d : Int) ∣ p * V p q (n + 1) := (Int.dvd_iff_dvd_of_dvd_sub h1).mpr (Int.dvd_mul_of_dvd_left h2)
    have hdp : Int.gcd d p = 1 := gcd_one_of fun k k1 k2 => by
      have k3 : (k : Int) ∣ q := Int.dvd_trans k1 h2
      have := Int.dvd_gcd k2 k3
      rw [hc] at this
      exact Nat.dvd_one.mp (by exact_mod_cast this)
    have h4 := cop_dvd hdp h3
    have ih := V_q n
    have := Int.dvd_gcd h4 h2
    rw [ih] at this
    exact Nat.dvd_one.mp (by exact_mod_cast this)
theorem dvd_V_q {n d : Nat} (hn : 1 ≤ n) (h : (d : Int) ∣ V p q n) : Int.gcd d q = 1 := gcd_one_of fun k k1 k2 => by
  obtain ⟨n, rfl⟩ : ∃ m, n = m + 1 := ⟨n - 1, by omega⟩
  have := Int.dvd_gcd (Int.dvd_trans k1 h) k2
  rw [V_q hc n] at this
  exact Nat.dvd_one.mp (by exact_mod_cast this)
theorem V_gcd_add {n : Nat} (hn : 1 ≤ n) (m : Nat) : Int.gcd (V p q (m + n + n)) (V p q n) = Int.gcd (V p q m) (V p q n) := by
  rw [V_mulV]
  refine gcd_eq_of (fun d h1 h2 => ?_) (fun d h1 h2 => ?_)
  · have h3 : (d : Int) ∣ q ^ n * V p q m := (Int.dvd_iff_dvd_of_dvd_sub h1).mp (Int.dvd_mul_of_dvd_right h2)
    exact cop_pow_dvd (dvd_V_q hc hn h2) n h3
  · exact Int.dvd_sub (Int.dvd_mul_of_dvd_right h2) (Int.dvd_mul_of_dvd_right h1)
theorem UV_gcd_add {n : Nat} (hn : 1 ≤ n) (m : Nat) : Int.gcd (U p q (m + n + n)) (V p q n) = Int.gcd (U p q m) (V p q n) := by
  rw [U_mulV]
  refine gcd_eq_of (fun d h1 h2 => ?_) (fun d h1 h2 => ?_)
  · have h3 : (d : Int) ∣ q ^ n * U p q m := (Int.dvd_iff_dvd_of_dvd_sub h1).mp (Int.dvd_mul_of_dvd_right h2)
    exact cop_pow_dvd (dvd_V_q hc hn h2) n h3
  · exact Int.dvd_sub (Int.dvd_mul_of_dvd_right h2) (Int.dvd_mul_of_dvd_right h1)
end
end ML

set_option maxHeartbeats 1000000
/-! Common divisors of terms of v, of u with v. -/
namespace ML
theorem U_mulU (p q : Int) (b : Nat) : ∀ a, U p q (a + b + b) = V p q (a + b) * U p q b + q ^ b * U p q a
  | 0 => by
    rw [Nat.zero_add, U_double, U_zero]; grind
  | 1 => by
    have h1 : U p q (1 + b + b) = U p q (b + 1) * U p q (b + 1) - q * U p q b * U p q b := by
      have : 1 + b + b = b + 1 + b := by omega
      rw [this, U_add]
    have h2 := cassini p q b
    have e2 : U p q (b + 2) = p * U p q (b + 1) - q * U p q b := rfl
    have e3 : U p q (b + 1 + 1) = p * U p q (b + 1) - q * U p q b := rfl
    rw [h1, Nat.add_comm 1 b, V_U, ← h2, e3, U_one]; grind
  | a + 2 => by
    have a1 : U p q (a + 2 + b + b) = p * U p q (a + 1 + b + b) - q * U p q (a + b + b) := by
      have : a + 2 + b + b = (a + b + b) + 2 := by omega
      rw [this, U_rec]
      have : a + 1 + b + b = (a + b + b) + 1 := by omega
      rw [this]
    have a2 : V p q (a + 2 + b) = p * V p q (a + 1 + b) - q * V p q (a + b) := by
      have : a + 2 + b = (a + b) + 2 := by omega
      rw [this, V_rec]
      have : a + 1 + b = (a + b) + 1 := by omega
      rw [this]
    rw [a1, U_mulU p q b (a + 1), U_mulU p q b a, a2, U_rec]; grind
section
variable {p q : Int} (hc : Int.gcd p q = 1)
include hc
theorem V_gcd_refl {a b : Nat} (hn : 1 ≤ a + b) : Int.gcd (V p q (a + b + b)) (V p q (a + b)) = Int.gcd (V p q a) (V p q (a + b)) := by
  rw [V_mulV]
  refine gcd_eq_of (fun d h1 h2 => ?_) (fun d h1 h2 => ?_)
  · have h3 : (d : Int) ∣ q ^ b * V p q a := (Int.dvd_iff_dvd_of_dvd_sub h1).mp (Int.dvd_mul_of_dvd_left h2)
    exact cop_pow_dvd (dvd_V_q hc hn h2) b h3
  · exact Int.dvd_sub (Int.dvd_mul_of_dvd_left h2) (Int.dvd_mul_of_dvd_right h1)
theorem UV_gcd_refl {a b : Nat} (hn : 1 ≤ a + b) : Int.gcd (U p q (a + b + b)) (V p q (a + b)) = Int.gcd (U p q a) (V p q (a + b)) := by
  have e := U_mulU p q b a
  rw [e]
  refine gcd_eq_of (fun d h1 h2 => ?_) (fun d h1 h2 => ?_)
  · have h3 : (d : Int) ∣ q ^ b * U p q a := (Int.dvd_add_right (Int.dvd_mul_of_dvd_left h2)).mp h1
    exact cop_pow_dvd (dvd_V_q hc hn h2) b h3
  · exact Int.dvd_add (Int.dvd_mul_of_dvd_left h2) (Int.dvd_mul_of_dvd_right h1)
end
end ML

set_option maxHeartbeats 1000000
/-! Common divisors of terms of v, of u with v: the induction. -/
namespace ML
/-- a common divisor that divides 2: by evenness -/
theorem gcd_two {a b : Int} (h : Int.gcd a b ∣ 2) : Int.gcd a b = if a % 2 = 0 ∧ b % 2 = 0 then 2 else 1 := by
  have h2 : Int.gcd a b = 1 ∨ Int.gcd a b = 2 := by
    have := Nat.le_of_dvd (by omega) h
    have h0 : Int.gcd a b ≠ 0 := fun e => by rw [e] at h; simp at h
    omega
  by_cases he : a % 2 = 0 ∧ b % 2 = 0
  · rw [if_pos he]
    have h3 : (2 : Int) ∣ (Int.gcd a b : Int) := Int.dvd_coe_gcd (Int.dvd_of_emod_eq_zero he.1) (Int.dvd_of_emod_eq_zero he.2)
    rcases h2 with h2 | h2
    · rw [h2] at h3; omega
    · exact h2
  · rw [if_neg he]
    rcases h2 with h2 | h2
    · exact h2
    · exfalso
      refine he ?_
      have h3 := Int.gcd_dvd_left (a := a) (b := b)
      have h4 := Int.gcd_dvd_right (a := a) (b := b)
      rw [h2] at h3 h4
      exact ⟨Int.emod_eq_zero_of_dvd h3, Int.emod_eq_zero_of_dvd h4⟩
theorem gcd_dvd_two {a b : Int} (h : ∀ d : Nat, (d : Int) ∣ a → (d : Int) ∣ b → (d : Int) ∣ 2) : Int.gcd a b ∣ 2 := by
  have := h _ (Int.gcd_dvd_left (a := a) (b := b)) (Int.gcd_dvd_right (a := a) (b := b))
  exact_mod_cast this
theorem cop_refl {a b : Nat} (h : Nat.gcd (a + b + b) (a + b) = 1) : Nat.gcd a (a + b) = 1 := by
  have e : a + b + b = b + (a + b) := by omega
  rw [e, Nat.gcd_comm, Nat.gcd_add_self_right, Nat.gcd_comm, Nat.gcd_add_self_right] at h
  have e2 : a + b = b + a := by omega
  rw [e2, Nat.gcd_add_self_right, Nat.gcd_comm]; exact h
section
variable {p q : Int} (hc : Int.gcd p q = 1)
include hc
theorem UV_self (n : Nat) : Int.gcd (U p q n) (V p q n) ∣ 2 := gcd_dvd_two fun d h1 h2 => by
  rw [V_U] at h2
  have h3 : (d : Int) ∣ 2 * U p q (n + 1) := (Int.dvd_iff_dvd_of_dvd_sub h2).mpr (Int.dvd_mul_of_dvd_right h1)
  have hd : Int.gcd d (U p q (n + 1)) = 1 := gcd_one_of fun k k1 k2 => by
    have := Int.dvd_gcd k2 (Int.dvd_trans k1 h1)
    rw [U_cons hc n] at this
    exact Nat.dvd_one.mp (by exact_mod_cast this)
  exact cop_dvd hd (by rw [Int.mul_comm]; exact h3)
/-- v farther by a place of u -/
theorem UV_shift {n : Nat} (hn : 1 ≤ n) (m : Nat) : Int.gcd (U p q m) (V p q (n + m)) = Int.gcd (U p q m) (V p q n) := by
  obtain ⟨n, rfl⟩ : ∃ k, n = k + 1 := ⟨n - 1, by omega⟩
  rw [V_add, Int.gcd_comm, Int.gcd_comm (U p q m)]
  refine gcd_eq_of (fun d h1 h2 => ?_) (fun d h1 h2 => ?_)
  · have h3 : (d : Int) ∣ V p q (n + 1) * U p q (m + 1) := (Int.dvd_iff_dvd_of_dvd_sub h1).mpr (Int.dvd_mul_of_dvd_right h2)
    have hd : Int.gcd d (U p q (m + 1)) = 1 := gcd_one_of fun k k1 k2 => by
      have := Int.dvd_gcd k2 (Int.dvd_trans k1 h2)
      rw [U_cons hc m] at this
      exact Nat.dvd_one.mp (by exact_mod_cast this)
    exact cop_dvd hd (by rw [Int.mul_comm]; exact h3)
  · exact Int.dvd_sub (Int.dvd_mul_of_dvd_left h1) (Int.dvd_mul_of_dvd_right h2)
def vvP (p q : Int) (g x y : Nat) : Prop := (x % 2 = 1 ∧ y % 2 = 1 → Int.gcd (V p q (g * x)) (V p q (g * y)) = (V p q g).natAbs) ∧ (¬(x % 2 = 1 ∧ y % 2 = 1) → Int.gcd (V p q (g * x)) (V p q (g * y)) ∣ 2)
theorem vv_all {g : Nat} (hg : 1 ≤ g) : ∀ s x y : Nat, x + y ≤ s → 1 ≤ y → Nat.gcd x y = 1 → vvP p q g x y := by
  intro s
  induction s with
  | zero => intro x y h1 h2; omega
  | succ s ih =>
    have step : ∀ x y : Nat, x + y ≤ s + 1 → 1 ≤ y → y ≤ x → Nat.gcd x y = 1 → vvP p q g x y := by
      intro x y h1 h2 h3 hx
      by_cases e : x = y
      · subst e
        rw [Nat.gcd_self] at hx; subst hx
        refine ⟨fun _ => ?_, fun h => absurd ⟨rfl, rfl⟩ h⟩
        rw [Nat.mul_one, Int.gcd_self]
      by_cases h4 : x < 2 * y
      · obtain ⟨a, b, rfl, rfl⟩ : ∃ a b, y = a + b ∧ x = a + b + b := ⟨2 * y - x, x - y, by omega, by omega⟩
        have hx' : Nat.gcd a (a + b) = 1 := cop_refl hx
        have h5 := ih a (a + b) (by omega) (by omega) hx'
        have h6 : Int.gcd (V p q (g * (a + b + b))) (V p q (g * (a + b))) = Int.gcd (V p q (g * a)) (V p q (g * (a + b))) := by
          have h7 : 1 ≤ g * a + g * b := by rw [← Nat.mul_add]; exact Nat.mul_pos hg h2
          have := V_gcd_refl hc h7
          rw [Nat.mul_add, Nat.mul_add]; exact this
        unfold vvP at *
        rw [h6]
        have h8 : (a + b + b) % 2 = 1 ↔ a % 2 = 1 := by omega
        rw [h8]; exact h5
      · obtain ⟨a, rfl⟩ : ∃ a, x = a + y + y := ⟨x - 2 * y, by omega⟩
        have hx' : Nat.gcd a y = 1 := by
          rw [Nat.gcd_comm, Nat.gcd_add_self_right, Nat.gcd_add_self_right, Nat.gcd_comm] at hx
          exact hx
        have h5 := ih a y (by omega) (by omega) hx'
        have h6 : Int.gcd (V p q (g * (a + y + y))) (V p q (g * y)) = Int.gcd (V p q (g * a)) (V p q (g * y)) := by
          have h7 : 1 ≤ g * y := Nat.mul_pos hg h2
          have := V_gcd_add hc h7 (g * a)
          rw [Nat.mul_add, Nat.mul_add]; exact this
        unfold vvP at *
        rw [h6]
        have h8 : (a + y + y) % 2 = 1 ↔ a % 2 = 1 := by omega
        rw [h8]; exact h5
    intro x y h1 h2 hx
    by_cases h3 : y ≤ x
    · exact step x y h1 h2 h3 hx
    by_cases h4 : x = 0
    · subst h4
      refine ⟨fun h => by omega, fun _ => ?_⟩
      rw [Nat.mul_zero]
      exact gcd_dvd_two fun d k1 _ => k1
    · have := step y x (by omega) (by omega) (by omega) (by rw [Nat.gcd_comm]; exact hx)
      unfold vvP at *
      rw [Int.gcd_comm, and_comm (a := x % 2 = 1)]; exact this
def uvP (p q : Int) (g x y : Nat) : Prop := (x % 2 = 0 → Int.gcd (U p q (g * x)) (V p q (g * y)) = (V p q g).natAbs) ∧ (x % 2 = 1 → Int.gcd (U p q (g * x)) (V p q (g * y)) ∣ 2)
theorem uv_all {g : Nat} (hg : 1 ≤ g) : ∀ s x y : Nat, x + y ≤ s → 1 ≤ y → Nat.gcd x y = 1 → uvP p q g x y := by
  intro s
  induction s with
  | zero => intro x y h1 h2; omega
  | succ s ih =>
    intro x y h1 h2 hx
    by_cases h0 : x = 0
    · subst h0
      rw [Nat.gcd_zero_left] at hx; subst hx
      refine ⟨fun _ => ?_, fun h => by omega⟩
      rw [Nat.mul_zero, U_zero, Int.gcd_zero_left, Nat.mul_one]
    by_cases e : x = y
    · subst e
      rw [Nat.gcd_self] at hx; subst hx
      refine ⟨fun h => by omega, fun _ => UV_self hc _⟩
    by_cases h3 : x < y
    · obtain ⟨b, rfl⟩ : ∃ b, y = b + x := ⟨y - x, by omega⟩
      have hx' : Nat.gcd x b = 1 := by
        rw [Nat.gcd_add_self_right] at hx; exact hx
      have h5 := ih x b (by omega) (by omega) hx'
      have h6 : Int.gcd (U p q (g * x)) (V p q (g * (b + x))) = Int.gcd (U p q (g * x)) (V p q (g * b)) := by
        rw [Nat.mul_add]
        exact UV_shift hc (Nat.mul_pos hg (by omega)) _
      unfold uvP at *
      rw [h6]; exact h5
    by_cases h4 : x < 2 * y
    · obtain ⟨a, b, rfl, rfl⟩ : ∃ a b, y = a + b ∧ x = a + b + b := ⟨2 * y - x, x - y, by omega, by omega⟩
      have hx' : Nat.gcd a (a + b) = 1 := cop_refl hx
      have h5 := ih a (a + b) (by omega) (by omega) hx'
      have h6 : Int.gcd (U p q (g * (a + b + b))) (V p q (g * (a + b))) = Int.gcd (U p q (g * a)) (V p q (g * (a + b))) := by
        have h7 : 1 ≤ g * a + g * b := by rw [← Nat.mul_add]; exact Nat.mul_pos hg h2
        have := UV_gcd_refl hc h7
        rw [Nat.mul_add, Nat.mul_add]; exact this
      unfold uvP at *
      rw [h6]
      have h8 : (a + b + b) % 2 = a % 2 := by omega
      rw [h8]; exact h5
    · obtain ⟨a, rfl⟩ : ∃ a, x = a + y + y := ⟨x - 2 * y, by omega⟩
      have hx' : Nat.gcd a y = 1 := by
        rw [Nat.gcd_comm, Nat.gcd_add_self_right, Nat.gcd_add_self_right, Nat.gcd_comm] at hx
        exact hx
      have h5 := ih a y (by omega) (by omega) hx'
      have h6 : Int.gcd (U p q (g * (a + y + y))) (V p q (g * y)) = Int.gcd (U p q (g * a)) (V p q (g * y)) := by
        have h7 : 1 ≤ g * y := Nat.mul_pos hg h2
        have := UV_gcd_add hc h7 (g * a)
        rw [Nat.mul_add, Nat.mul_add]; exact this
      unfold uvP at *
      rw [h6]
      have h8 : (a + y + y) % 2 = a % 2 := by omega
      rw [h8]; exact h5
/-- the main theorem, v with v -/
theorem V_gcd {m n : Nat} (hm : 1 ≤ m) (hn : 1 ≤ n) : Int.gcd (V p q m) (V p q n) = if m / Nat.gcd m n % 2 = 1 ∧ n / Nat.gcd m n % 2 = 1 then (V p q (Nat.gcd m n)).natAbs else if V p q m % 2 = 0 ∧ V p q n % 2 = 0 then 2 else 1 := by
  have hg : 1 ≤ Nat.gcd m n := Nat.gcd_pos_of_pos_left n hm
  have e1 : Nat.gcd m n * (m / Nat.gcd m n) = m := Nat.mul_div_cancel' (Nat.gcd_dvd_left m n)
  have e2 : Nat.gcd m n * (n / Nat.gcd m n) = n := Nat.mul_div_cancel' (Nat.gcd_dvd_right m n)
  have hy : 1 ≤ n / Nat.gcd m n := Nat.div_pos (Nat.gcd_le_right m hn) hg
  have h := vv_all hc hg _ (m / Nat.gcd m n) (n / Nat.gcd m n) (Nat.le_refl _) hy (by rw [Nat.gcd_div (Nat.gcd_dvd_left m n) (Nat.gcd_dvd_right m n), Nat.div_self hg])
  unfold vvP at h
  rw [e1, e2] at h
  split
  · rename_i hh; exact h.1 hh
  · rename_i hh; exact gcd_two (h.2 hh)
/-- the main theorem, u with v -/
theorem UV_gcd {m n : Nat} (hm : 1 ≤ m) (hn : 1 ≤ n) : Int.gcd (U p q m) (V p q n) = if m / Nat.gcd m n % 2 = 0 then (V p q (Nat.gcd m n)).natAbs else if U p q m % 2 = 0 ∧ V p q n % 2 = 0 then 2 else 1 := by
  have hg : 1 ≤ Nat.gcd m n := Nat.gcd_pos_of_pos_left n hm
  have e1 : Nat.gcd m n * (m / Nat.gcd m n) = m := Nat.mul_div_cancel' (Nat.gcd_dvd_left m n)
  have e2 : Nat.gcd m n * (n / Nat.gcd m n) = n := Nat.mul_div_cancel' (Nat.gcd_dvd_right m n)
  have hy : 1 ≤ n / Nat.gcd m n := Nat.div_pos (Nat.gcd_le_right m hn) hg
  have h := uv_all hc hg _ (m / Nat.gcd m n) (n / Nat.gcd m n) (Nat.le_refl _) hy (by rw [Nat.gcd_div (Nat.gcd_dvd_left m n) (Nat.gcd_dvd_right m n), Nat.div_self hg])
  unfold uvP at h
  rw [e1, e2] at h
  split
  · rename_i hh; exact h.1 hh
  · rename_i hh; exact gcd_two (h.2 (by omega))
end
end ML

set_option maxHeartbeats 4000000
/-! Shared: statements one by one; drawing of a plain rule; common divisors of terms. -/
namespace ML
open PySem
@[simp] theorem permute_0 (x : D) : permute [0] [x] = some [x] := rfl
@[simp] theorem permute_01 (x y : D) : permute [0, 1] [x, y] = some [x, y] := rfl
@[simp] theorem permute_012 (x y z : D) : permute [0, 1, 2] [x, y, z] = some [x, y, z] := rfl
@[simp] theorem permute_0123 (x y z w : D) : permute [0, 1, 2, 3] [x, y, z, w] = some [x, y, z, w] := rfl
theorem wps_cons {gl : Nat → Option D} {cf : Nat → List D → Cells → R D} {s : S} {r : Ss} {ρ ρ' : ML.Env} {C C' : Cells} {P : Fl → ML.Env → Cells → Prop} (h : evS gl cf s ρ C = .ok .next ρ' C') (k : wps (evSs gl cf r ρ' C') P) : wps (evSs gl cf (.cons s r) ρ C) P := by
  rw [evSs, h]; exact k
theorem wps_consW {gl : Nat → Option D} {cf : Nat → List D → Cells → R D} {s : S} {r : Ss} {ρ : ML.Env} {C : Cells} {P : Fl → ML.Env → Cells → Prop} (h : wps (evS gl cf s ρ C) fun fl ρ' C' => fl = .next ∧ wps (evSs gl cf r ρ' C') P) : wps (evSs gl cf (.cons s r) ρ C) P := by
  obtain ⟨fl, ρ', C', e, rfl, k⟩ := wps_get h
  rw [evSs, e]; exact k
theorem wps_ofEq {r : RS} {fl : Fl} {ρ : ML.Env} {C : Cells} {P : Fl → ML.Env → Cells → Prop} (h : r = .ok fl ρ C) (k : P fl ρ C) : wps r P := by rw [h, wps_ok]; exact k
theorem ifSame {gl : Nat → Option D} {cf : Nat → List D → Cells → R D} {a b : E} {x : D} {ρ : ML.Env} {C : Cells} {f : Nat} (h1 : evE gl cf a ρ C = .ok x C) (h2 : evE gl cf b ρ C = .ok x C) (hs : cf f [x, x] C = .ok (.bl true) C) :
    evS gl cf (.ife (.not (.call f (.cons a (.cons b .nil)))) (.cons (.ret (.lit (.bl false))) .nil) .nil) ρ C = .ok .next ρ C := by
  simp -implicitDefEqProofs [h1, h2, hs]
theorem nocL_mem : ∀ {xs : List D}, D.nocL xs = true → ∀ x ∈ xs, x.noc = true
  | [], _, _, h => by simp at h
  | y :: ys, h, x, hx => by
    simp only [nocL_cons, Bool.and_eq_true] at h
    rcases List.mem_cons.mp hx with rfl | hx
    · exact h.1
    · exact nocL_mem h.2 x hx
theorem set_same {α : Type} {C : List α} {i : Nat} {x : α} (h : C[i]? = some x) : C.set i x = C := by
  obtain ⟨hi, e⟩ := List.getElem?_eq_some_iff.mp h
  rw [← e, List.set_getElem_self]
/-- terms are not too great -/
theorem row_le {p q : Int} {f : Nat → Int} (hf : Row p q f) (r : RuleOk p q) {B : Nat} (h0 : (f 0).natAbs ≤ B) (h1 : (f 1).natAbs ≤ B * 2 ^ 11) : ∀ n, (f n).natAbs ≤ B * 2 ^ (11 * n) ∧ (f (n + 1)).natAbs ≤ B * 2 ^ (11 * (n + 1))
  | 0 => ⟨by simpa using h0, by simpa using h1⟩
  | n + 1 => by
    obtain ⟨a, b⟩ := row_le hf r h0 h1 n
    refine ⟨b, ?_⟩
    have e : f (n + 1 + 1) = p * f (n + 1) - q * f n := hf n
    have p1 := r.p1; have p2 := r.p2; have q1 := r.q1; have q2 := r.q2
    have hp : p.natAbs ≤ 1000 := by omega
    have hq : q.natAbs ≤ 1000 := by omega
    have m1 : (p * f (n + 1)).natAbs ≤ 1000 * (B * 2 ^ (11 * (n + 1))) := by rw [Int.natAbs_mul]; exact Nat.mul_le_mul hp b
    have m2 : (q * f n).natAbs ≤ 1000 * (B * 2 ^ (11 * n)) := by rw [Int.natAbs_mul]; exact Nat.mul_le_mul hq a
    have s1 : B * 2 ^ (11 * (n + 1 + 1)) = 2048 * (B * 2 ^ (11 * (n + 1))) := by
      have : 11 * (n + 1 + 1) = 11 * (n + 1) + 11 := by omega
      rw [this, Nat.pow_add]; have : 2 ^ 11 = 2048 := rfl
      rw [this, ← Nat.mul_assoc, Nat.mul_comm]
    have s2 : B * 2 ^ (11 * (n + 1)) = 2048 * (B * 2 ^ (11 * n)) := by
      have : 11 * (n + 1) = 11 * n + 11 := by omega
      rw [this, Nat.pow_add]; have : 2 ^ 11 = 2048 := rfl
      rw [this, ← Nat.mul_assoc, Nat.mul_comm]
    rw [e, s1]
    generalize p * f (n + 1) = x at *
    generalize q * f n = y at *
    omega
theorem U_lt2 {p q : Int} (r : RuleOk p q) (n : Nat) : Lt2 (11 * n + 2) (U p q n) := by
  have := (row_le (rowU p q) r (B := 1) (by simp [U]) (by simp [U]) n).1
  unfold Lt2
  have e : 2 ^ (11 * n + 2) = 4 * 2 ^ (11 * n) := by rw [Nat.pow_add]; omega
  have h0 : 0 < 2 ^ (11 * n) := Nat.pow_pos (by omega)
  omega
theorem V_lt2 {p q : Int} (r : RuleOk p q) (n : Nat) : Lt2 (11 * n + 2) (V p q n) := by
  have := (row_le (rowV p q) r (B := 2) (by simp [V]) (by have := r.p1; have := r.p2; simp only [V]; omega) n).1
  unfold Lt2
  have e : 2 ^ (11 * n + 2) = 4 * 2 ^ (11 * n) := by rw [Nat.pow_add]; omega
  have h0 : 0 < 2 ^ (11 * n) := Nat.pow_pos (by omega)
  omega
theorem Lt2.mono {a b : Nat} {i : Int} (h : Lt2 a i) (hab : a ≤ b) : Lt2 b i := Nat.lt_of_lt_of_le h (Nat.pow_le_pow_right (by omega) hab)
section
variable {T : Tab} {d : Nat} {C : Cells}
theorem s_of {f g i : Nat} (h : T.fn f = some (F__law_of g)) (hg : T.fn g = some F__law_take) {a b c : Int} (hC : C[i]? = some (tinL a b c)) (ok : TinOk a b c) (hc : c < 900000000) {xs : List D} (hn : 0 < xs.length) (hx : xs.length < 2 ^ 60) (hnc : D.nocL xs = true) :
    ∃ x a' c', x ∈ xs ∧ callF T (d + 2) f [.cell i, .lst xs] C = .ok x (C.set i (tinL a' b c')) ∧ TinOk a' b c' ∧ c' ≤ c + 1 := by
  obtain ⟨r, a', c', e, r0, r1, ok', hc'⟩ := s_take (T := T) (d := d) hg hC ok (by omega) (m := (xs.length : Int)) (by omega) (by omega)
  obtain ⟨k, rfl⟩ : ∃ k : Nat, r = k := ⟨r.toNat, by omega⟩
  have hk : k < xs.length := by omega
  refine ⟨xs[k], a', c', List.getElem_mem hk, ?_, ok', hc'⟩
  rw [callF_eq h rfl]
  have i1 : ixn xs.length (k : Int) = some k := ixn_pos hk
  have g1 : atD xs k = some xs[k] := by simp [atD, hk]
  have hx : (xs[k]).noc = true := nocL_mem hnc _ (List.getElem_mem hk)
  simp -implicitDefEqProofs [F__law_of, e, i1, g1, fin_noc hx]
def plainList : List D := [.tup [.int 1, .int (-1)], .tup [.int 3, .int 2], .tup [.int 2, .int (-1)], .tup [.int (-3), .int 1], .tup [.int 4, .int 1], .tup [.int 1, .int 2]]
theorem plainList_ok : ∀ x ∈ plainList, ∃ p q, x = ruleD p q ∧ RuleOk p q ∧ plainB p q = true := by
  intro x hx
  simp only [plainList, List.mem_cons, List.not_mem_nil, or_false] at hx
  rcases hx with rfl | rfl | rfl | rfl | rfl | rfl
  · exact ⟨_, _, rfl, ⟨by omega, by omega, by omega, by omega, by omega⟩, by decide +kernel⟩
  · exact ⟨_, _, rfl, ⟨by omega, by omega, by omega, by omega, by omega⟩, by decide +kernel⟩
  · exact ⟨_, _, rfl, ⟨by omega, by omega, by omega, by omega, by omega⟩, by decide +kernel⟩
  · exact ⟨_, _, rfl, ⟨by omega, by omega, by omega, by omega, by omega⟩, by decide +kernel⟩
  · exact ⟨_, _, rfl, ⟨by omega, by omega, by omega, by omega, by omega⟩, by decide +kernel⟩
  · exact ⟨_, _, rfl, ⟨by omega, by omega, by omega, by omega, by omega⟩, by decide +kernel⟩
theorem RuleOk.lp {p q : Int} (r : RuleOk p q) : Lt2 11 p := by unfold Lt2; have := r.p1; have := r.p2; omega
theorem RuleOk.lq {p q : Int} (r : RuleOk p q) : Lt2 11 q := by unfold Lt2; have := r.q1; have := r.q2; omega
theorem s_plain {f fo fl fr ft i : Nat} (h : T.fn f = some (F__law_plain fo fl fr)) (ho : T.fn fo = some (F__law_of ft)) (hl : T.fn fl = some F__law_common) (hr : T.fn fr = some (F__law_rule ft)) (ht : T.fn ft = some F__law_take)
    {a b c w : Int} (hC : C[i]? = some (tinL a b c)) (ok : TinOk a b c) (hc : c < 800000000) (hw : 0 < w) (hw2 : w ≤ 1000) :
    ∃ p q a' c', callF T (d + 3) f [.cell i, .int w] C = .ok (ruleD p q) (C.set i (tinL a' b c')) ∧ RuleOk p q ∧ plainB p q = true ∧ TinOk a' b c' ∧ c' ≤ c + 37 := by
  have hi : i < C.length := (List.getElem?_eq_some_iff.mp hC).1
  rw [callF_eq h rfl]
  have key := floop_rng0 (n := 12) (t := 2) (b := blk T.glob (callF T (d + 2)) (.cons (.set 3 (.call fr (.cons (.var 0) (.cons (.var 1) .nil))))
      (.cons (.ife (.and (.cmp .ne (.idx (.var 3) (.lit (.int 0))) (.lit (.int 0))) (.cmp .eq (.call fl (.cons (.idx (.var 3) (.lit (.int 0))) (.cons (.idx (.var 3) (.lit (.int 1))) .nil))) (.lit (.int 1)))) (.cons (.ret (.var 3)) .nil) .nil) .nil)))
    (P := fun fl ρ' C' => ∃ a' c', C' = C.set i (tinL a' b c') ∧ TinOk a' b c' ∧ c' ≤ c + 36 ∧ ((fl = .next ∧ ∃ x2 x3, ρ' = [some (.cell i), some (.int w), x2, x3]) ∨ (∃ p q, fl = .ret (ruleD p q) ∧ RuleOk p q ∧ plainB p q = true)))
    (fun k ρ' C' => ∃ a' c' x2 x3, ρ' = [some (.cell i), some (.int w), x2, x3] ∧ C' = C.set i (tinL a' b c') ∧ TinOk a' b c' ∧ c' ≤ c + 3 * k)
    (by
      rintro k ρ' C' hk ⟨a', c', x2, x3, rfl, rfl, ok', hc'⟩
      obtain ⟨p, q, a2, c2, e, p0, p1, q0, q1, q2, ok2, hc2⟩ := s_rule (T := T) (d := d) (i := i) (C := C.set i (tinL a' b c')) (w := w) hr ht (by simp [hi]) ok' (by omega) hw (by omega)
      rw [List.set_set] at e
      have r : RuleOk p q := ⟨by omega, by omega, by omega, by omega, q0⟩
      have e2 := s_lcommon (T := T) (d := d + 1) (C := C.set i (tinL a2 b c2)) hl (N := 11) (by unfold WMAX; omega) r.lp r.lq
      simp only [blk]
      refine wps_cons (ρ' := [some (.cell i), some (.int w), some (.int k), some (ruleD p q)]) (C' := C.set i (tinL a2 b c2)) ?_ ?_
      · simp -implicitDefEqProofs [e]
      · by_cases hp : p = 0
        · refine wps_cons (ρ' := [some (.cell i), some (.int w), some (.int k), some (ruleD p q)]) (C' := C.set i (tinL a2 b c2)) (by simp -implicitDefEqProofs [hp]) ?_
          rw [evSs_nil, wps_ok]
          exact ⟨a2, c2, _, _, rfl, rfl, ok2, by omega⟩
        · by_cases hg : Int.gcd p q = 1
          · refine wps_ofEq (fl := .ret (ruleD p q)) (ρ := [some (.cell i), some (.int w), some (.int k), some (ruleD p q)]) (C := C.set i (tinL a2 b c2)) (by simp -implicitDefEqProofs [hp, e2, hg]) ?_
            exact ⟨a2, c2, rfl, ok2, by omega, .inr ⟨p, q, rfl, r, by simp [plainB, hp, hg]⟩⟩
          · have hg' : ¬ ((Int.gcd p q : Int) = 1) := by omega
            refine wps_cons (ρ' := [some (.cell i), some (.int w), some (.int k), some (ruleD p q)]) (C' := C.set i (tinL a2 b c2)) (by simp -implicitDefEqProofs [hp, e2, hg']) ?_
            rw [evSs_nil, wps_ok]
            exact ⟨a2, c2, _, _, rfl, rfl, ok2, by omega⟩)
    (fun ρ' C' ⟨a', c', x2, x3, h1, h2, h3, h4⟩ => ⟨a', c', h2, h3, by omega, .inl ⟨rfl, x2, x3, h1⟩⟩) (all := (List.range 12).map fun i => D.int (i : Nat)) (ρ := [some (.cell i), some (.int w), none, none]) (C := C)
    ⟨a, c, none, none, rfl, (set_same hC).symm, ok, by simp⟩
  have h12 : rngop [D.int 12] = some ((List.range 12).map fun i => D.int (i : Nat)) := rngop_nat (n := 12) (by omega)
  obtain ⟨fl', ρ', C', e, a', c', rfl, ok', hc', hh⟩ := wps_get key
  rcases hh with ⟨rfl, x2, x3, rfl⟩ | ⟨p, q, rfl, r, hp⟩
  · obtain ⟨x, a2, c2, hx, e2, ok2, hc2⟩ := s_of (T := T) (d := d) (i := i) (C := C.set i (tinL a' b c')) ho ht (by simp [hi]) ok' (by omega) (xs := plainList) (by simp [plainList]) (by simp [plainList]) (by simp [plainList])
    obtain ⟨p, q, rfl, r, hp⟩ := plainList_ok x hx
    rw [List.set_set] at e2
    refine ⟨p, q, a2, c2, ?_, r, hp, ok2, by omega⟩
    unfold plainList at e2
    simp -implicitDefEqProofs [F__law_plain, h12, e, e2, fin_tup, D.nocL]
  · refine ⟨p, q, a', c', ?_, r, hp, ok', by omega⟩
    simp -implicitDefEqProofs [F__law_plain, h12, e, fin_tup, D.nocL]
theorem sidx_uu0 : sidx (.str "uu") 0 = some (.str "u") := by decide +kernel
theorem sidx_uu1 : sidx (.str "uu") 1 = some (.str "u") := by decide +kernel
theorem sidx_vv0 : sidx (.str "vv") 0 = some (.str "v") := by decide +kernel
theorem sidx_vv1 : sidx (.str "vv") 1 = some (.str "v") := by decide +kernel
theorem sidx_uv0 : sidx (.str "uv") 0 = some (.str "u") := by decide +kernel
theorem sidx_uv1 : sidx (.str "uv") 1 = some (.str "v") := by decide +kernel
theorem s_two {f ft fw gm fr : Nat} (h : T.fn f = some (F_two_terms ft fw gm fr)) (hw : SureWithin T fw) (hr : SureRule T fr) (hm : T.glob gm = some (.int 3000)) {p q : Int} (r : RuleOk p q) {m n : Nat} (hm3 : m ≤ 3000) (hn : n ≤ 3000)
    {s s1 s2 : Str} {f1 f2 : Nat → Int} (h1 : sidx (.str s) 0 = some (.str s1)) (h2 : sidx (.str s) 1 = some (.str s2)) (t1 : ∀ n ≤ 3001, callF T (d + 4) ft [ruleD p q, .str s1, .int (n : Nat)] C = .ok (.lst (rowL f1 n)) C) (t2 : ∀ n ≤ 3001, callF T (d + 4) ft [ruleD p q, .str s2, .int (n : Nat)] C = .ok (.lst (rowL f2 n)) C) :
    callF T (d + 5) f [ruleD p q, .str s, .int m, .int n] C = .ok (.tup [.int (f1 m), .int (f2 n)]) C := by
  rw [callF_eq h rfl]
  have e1 := hr d C p q r
  have e2 := hw (d + 1) C m 0 3000 (by omega) (by omega)
  have e3 := hw (d + 1) C n 0 3000 (by omega) (by omega)
  have t1' := t1 (m + 1) (by omega)
  have t2' := t2 (n + 1) (by omega)
  have i1 : ixn (m + 1) (-1) = some m := ixn_neg (k := 1) (by omega) (by omega)
  have i2 : ixn (n + 1) (-1) = some n := ixn_neg (k := 1) (by omega) (by omega)
  have g1 : atD (rowL f1 (m + 1)) m = some (.int (f1 m)) := rowL_at (by omega)
  have g2 : atD (rowL f2 (n + 1)) n = some (.int (f2 n)) := rowL_at (by omega)
  have e6 : ((m : Int) + 1) = ((m + 1 : Nat) : Int) := by omega
  have e7 : ((n : Int) + 1) = ((n + 1 : Nat) : Int) := by omega
  simp -implicitDefEqProofs only [F_two_terms, List.map_cons, List.map_nil, List.cons_append, List.nil_append, List.replicate, evSs, evS_set, evE_call, evEs, evE_var, List.getElem?_cons_zero, List.getElem?_cons_succ, R.bind_ok, e1, R.toS_ok, RS.seq_next, List.set_cons_succ, List.set_cons_zero,
    evS_ret, evE_idx, evE_lit, evE_bin, evE_glob, hm, R.of_some, e2, e3, add_int, e6, e7, t1', t2', evE_neg, idx_int, items_lst', items_str', h1, h2, Option.bind_some, rowL_len, i1, i2, g1, g2, evE_tup, RS.seq_ret, retR_ret, fin_tup (C := C) (show D.nocL [.int (f1 m), .int (f2 n)] = true by simp), List.take_length]
theorem s_two_uu {f ft fw gm fr : Nat} (h : T.fn f = some (F_two_terms ft fw gm fr)) (ht : TermsIn T ft) (hw : SureWithin T fw) (hr : SureRule T fr) (hm : T.glob gm = some (.int 3000)) {p q : Int} (r : RuleOk p q) {m n : Nat} (hm3 : m ≤ 3000) (hn : n ≤ 3000) :
    callF T (d + 5) f [ruleD p q, .str "uu", .int m, .int n] C = .ok (.tup [.int (U p q m), .int (U p q n)]) C :=
  s_two h hw hr hm r hm3 hn sidx_uu0 sidx_uu1 (fun n hn => (ht (d + 3) C p q n r (by omega)).1) (fun n hn => (ht (d + 3) C p q n r (by omega)).1)
theorem s_two_vv {f ft fw gm fr : Nat} (h : T.fn f = some (F_two_terms ft fw gm fr)) (ht : TermsIn T ft) (hw : SureWithin T fw) (hr : SureRule T fr) (hm : T.glob gm = some (.int 3000)) {p q : Int} (r : RuleOk p q) {m n : Nat} (hm3 : m ≤ 3000) (hn : n ≤ 3000) :
    callF T (d + 5) f [ruleD p q, .str "vv", .int m, .int n] C = .ok (.tup [.int (V p q m), .int (V p q n)]) C :=
  s_two h hw hr hm r hm3 hn sidx_vv0 sidx_vv1 (fun n hn => (ht (d + 3) C p q n r (by omega)).2) (fun n hn => (ht (d + 3) C p q n r (by omega)).2)
theorem s_two_uv {f ft fw gm fr : Nat} (h : T.fn f = some (F_two_terms ft fw gm fr)) (ht : TermsIn T ft) (hw : SureWithin T fw) (hr : SureRule T fr) (hm : T.glob gm = some (.int 3000)) {p q : Int} (r : RuleOk p q) {m n : Nat} (hm3 : m ≤ 3000) (hn : n ≤ 3000) :
    callF T (d + 5) f [ruleD p q, .str "uv", .int m, .int n] C = .ok (.tup [.int (U p q m), .int (V p q n)]) C :=
  s_two h hw hr hm r hm3 hn sidx_uv0 sidx_uv1 (fun n hn => (ht (d + 3) C p q n r (by omega)).1) (fun n hn => (ht (d + 3) C p q n r (by omega)).2)
theorem s_common_terms {f f2 fc ft fw gm fr : Nat} (h : T.fn f = some (F_common_terms fc f2)) (h2 : T.fn f2 = some (F_two_terms ft fw gm fr)) (hc : T.fn fc = some F_common) (ht : TermsIn T ft) (hw : SureWithin T fw) (hr : SureRule T fr) (hm : T.glob gm = some (.int 3000)) {p q : Int} (r : RuleOk p q) {m n : Nat} (hm3 : m ≤ 3000) (hn : n ≤ 3000) :
    callF T (d + 6) f [ruleD p q, .int m, .int n] C = .ok (.int (Int.gcd (U p q m) (U p q n))) C := by
  rw [callF_eq h rfl]
  have e1 := s_two_uu (T := T) (d := d) (C := C) h2 ht hw hr hm r hm3 hn
  have e2 := s_common (T := T) (d := d + 4) (C := C) hc (N := 33002) (by unfold WMAX; omega) ((U_lt2 r m).mono (by omega)) ((U_lt2 r n).mono (by omega))
  simp -implicitDefEqProofs [F_common_terms, e1, e2]
theorem s_common_companions {f f2 fc ft fw gm fr : Nat} (h : T.fn f = some (F_common_companions fc f2)) (h2 : T.fn f2 = some (F_two_terms ft fw gm fr)) (hc : T.fn fc = some F_common) (ht : TermsIn T ft) (hw : SureWithin T fw) (hr : SureRule T fr) (hm : T.glob gm = some (.int 3000)) {p q : Int} (r : RuleOk p q) {m n : Nat} (hm3 : m ≤ 3000) (hn : n ≤ 3000) :
    callF T (d + 6) f [ruleD p q, .int m, .int n] C = .ok (.int (Int.gcd (V p q m) (V p q n))) C := by
  rw [callF_eq h rfl]
  have e1 := s_two_vv (T := T) (d := d) (C := C) h2 ht hw hr hm r hm3 hn
  have e2 := s_common (T := T) (d := d + 4) (C := C) hc (N := 33002) (by unfold WMAX; omega) ((V_lt2 r m).mono (by omega)) ((V_lt2 r n).mono (by omega))
  simp -implicitDefEqProofs [F_common_companions, e1, e2]
theorem s_common_mixed {f f2 fc ft fw gm fr : Nat} (h : T.fn f = some (F_common_mixed fc f2)) (h2 : T.fn f2 = some (F_two_terms ft fw gm fr)) (hc : T.fn fc = some F_common) (ht : TermsIn T ft) (hw : SureWithin T fw) (hr : SureRule T fr) (hm : T.glob gm = some (.int 3000)) {p q : Int} (r : RuleOk p q) {m n : Nat} (hm3 : m ≤ 3000) (hn : n ≤ 3000) :
    callF T (d + 6) f [ruleD p q, .int m, .int n] C = .ok (.int (Int.gcd (U p q m) (V p q n))) C := by
  rw [callF_eq h rfl]
  have e1 := s_two_uv (T := T) (d := d) (C := C) h2 ht hw hr hm r hm3 hn
  have e2 := s_common (T := T) (d := d + 4) (C := C) hc (N := 33002) (by unfold WMAX; omega) ((U_lt2 r m).mono (by omega)) ((V_lt2 r n).mono (by omega))
  simp -implicitDefEqProofs [F_common_mixed, e1, e2]
end
end ML

set_option maxHeartbeats 4000000
/-! What a def does, told of any reading of calls: so that a law's walk sees nothing of the tables. -/
namespace ML
open PySem
abbrev CF := Nat → List D → Cells → R D
def PTake (cf : CF) (f : Nat) : Prop := ∀ (i : Nat) (C : Cells) (a b c m : Int), C[i]? = some (tinL a b c) → TinOk a b c → c < 1000000 → 0 < m → m < 2 ^ 200 → ∃ (z : Nat) (a' c' : Int), cf f [.cell i, .int m] C = .ok (.int z) (C.set i (tinL a' b c')) ∧ (z : Int) < m ∧ TinOk a' b c' ∧ c' ≤ c + 1
def POf (cf : CF) (f : Nat) : Prop := ∀ (i : Nat) (C : Cells) (a b c : Int) (xs : List D), C[i]? = some (tinL a b c) → TinOk a b c → c < 1000000 → 0 < xs.length → xs.length < 2 ^ 60 → D.nocL xs = true → ∃ (x : D) (a' c' : Int), x ∈ xs ∧ cf f [.cell i, .lst xs] C = .ok x (C.set i (tinL a' b c')) ∧ TinOk a' b c' ∧ c' ≤ c + 1
def PPlain (cf : CF) (f : Nat) : Prop := ∀ (i : Nat) (C : Cells) (a b c w : Int), C[i]? = some (tinL a b c) → TinOk a b c → c < 1000000 → 0 < w → w ≤ 1000 → ∃ (p q a' c' : Int), cf f [.cell i, .int w] C = .ok (ruleD p q) (C.set i (tinL a' b c')) ∧ RuleOk p q ∧ plainB p q = true ∧ TinOk a' b c' ∧ c' ≤ c + 37
def PRule (cf : CF) (f : Nat) : Prop := ∀ (i : Nat) (C : Cells) (a b c w : Int), C[i]? = some (tinL a b c) → TinOk a b c → c < 1000000 → 0 < w → w ≤ 1000 → ∃ (p q a' c' : Int), cf f [.cell i, .int w] C = .ok (ruleD p q) (C.set i (tinL a' b c')) ∧ RuleOk p q ∧ -w ≤ p ∧ p ≤ w ∧ -w ≤ q ∧ q ≤ w ∧ TinOk a' b c' ∧ c' ≤ c + 3
def PSame (cf : CF) (f : Nat) : Prop := ∀ (n : Nat) (x : D), SameOk n x → n ≤ 8 → ∀ C, cf f [x, x] C = .ok (.bl true) C
def PGcd (cf : CF) (f : Nat) : Prop := ∀ (a b : Int) (N : Nat), 2 * N + 2 < WMAX → Lt2 N a → Lt2 N b → ∀ C, cf f [.int a, .int b] C = .ok (.int (Int.gcd a b)) C
def PU (cf : CF) (f : Nat) : Prop := ∀ (p q : Int) (n : Nat), RuleOk p q → n ≤ 100000 → ∀ C, cf f [ruleD p q, .int n] C = .ok (.lst (rowL (U p q) n)) C
def PV (cf : CF) (f : Nat) : Prop := ∀ (p q : Int) (n : Nat), RuleOk p q → n ≤ 100000 → ∀ C, cf f [ruleD p q, .int n] C = .ok (.lst (rowL (V p q) n)) C
def PTerm (cf : CF) (f : Nat) : Prop := ∀ (p q : Int) (n : Nat), RuleOk p q → n ≤ 3000 → ∀ C, cf f [ruleD p q, .int n] C = .ok (.int (U p q n)) C
def PComp (cf : CF) (f : Nat) : Prop := ∀ (p q : Int) (n : Nat), RuleOk p q → n ≤ 3000 → ∀ C, cf f [ruleD p q, .int n] C = .ok (.int (V p q n)) C
def PIsPlain (cf : CF) (f : Nat) : Prop := ∀ (p q : Int), RuleOk p q → ∀ C, cf f [ruleD p q] C = .ok (.bl (plainB p q)) C
def PCT (cf : CF) (f : Nat) : Prop := ∀ (p q : Int) (m n : Nat), RuleOk p q → m ≤ 3000 → n ≤ 3000 → ∀ C, cf f [ruleD p q, .int m, .int n] C = .ok (.int (Int.gcd (U p q m) (U p q n))) C
def PCC (cf : CF) (f : Nat) : Prop := ∀ (p q : Int) (m n : Nat), RuleOk p q → m ≤ 3000 → n ≤ 3000 → ∀ C, cf f [ruleD p q, .int m, .int n] C = .ok (.int (Int.gcd (V p q m) (V p q n))) C
def PCM (cf : CF) (f : Nat) : Prop := ∀ (p q : Int) (m n : Nat), RuleOk p q → m ≤ 3000 → n ≤ 3000 → ∀ C, cf f [ruleD p q, .int m, .int n] C = .ok (.int (Int.gcd (U p q m) (V p q n))) C
section
variable {T : Tab}
theorem pTake {f : Nat} (h : T.fn f = some F__law_take) : PTake (callF T 99) f := fun i C a b c m hC ok hc hm hm2 => by
  obtain ⟨r, a', c', e, r0, r1, ok', hc'⟩ := s_take (T := T) (d := 98) h hC ok (by omega) hm hm2
  exact ⟨r.toNat, a', c', by rw [e, Int.toNat_of_nonneg r0], by rw [Int.toNat_of_nonneg r0]; exact r1, ok', hc'⟩
theorem pOf {f g : Nat} (h : T.fn f = some (F__law_of g)) (hg : T.fn g = some F__law_take) : POf (callF T 99) f := fun i C a b c xs hC ok hc h1 h2 h3 => s_of (T := T) (d := 97) h hg hC ok (by omega) h1 h2 h3
theorem pPlain {f fo fl fr ft : Nat} (h : T.fn f = some (F__law_plain fo fl fr)) (ho : T.fn fo = some (F__law_of ft)) (hl : T.fn fl = some F__law_common) (hr : T.fn fr = some (F__law_rule ft)) (ht : T.fn ft = some F__law_take) : PPlain (callF T 99) f :=
  fun i C a b c w hC ok hc hw hw2 => s_plain (T := T) (d := 96) h ho hl hr ht hC ok (by omega) hw hw2
theorem pRule {f ft : Nat} (hr : T.fn f = some (F__law_rule ft)) (ht : T.fn ft = some F__law_take) : PRule (callF T 99) f :=
  fun i C a b c w hC ok hc hw hw2 => by
    obtain ⟨p, q, a', c', e, p0, p1, q0, q1, q2, ok', hc'⟩ := s_rule (T := T) (d := 97) hr ht hC ok (by omega) hw (by omega)
    exact ⟨p, q, a', c', e, ⟨by omega, by omega, by omega, by omega, q0⟩, p0, p1, q1, q2, ok', hc'⟩
theorem pSame {f : Nat} (h : T.fn f = some (F__law_same f)) : PSame (callF T 99) f := fun n x hx hn C => by
  have := s_same (T := T) h n x hx (d := 98 - n) (C := C)
  have e : 98 - n + n + 1 = 99 := by omega
  rw [e] at this; exact this
theorem pLGcd {f : Nat} (h : T.fn f = some F__law_common) : PGcd (callF T 99) f := fun a b N hN ha hb C => s_lcommon (T := T) (d := 98) h hN ha hb
theorem pGcd {f : Nat} (h : T.fn f = some F_common) : PGcd (callF T 99) f := fun a b N hN ha hb C => s_common (T := T) (d := 98) h hN ha hb
theorem pU {f : Nat} (h : T.fn f = some F__law_us) : PU (callF T 99) f := fun p q n r hn C => s_us (T := T) (d := 98) h r.bp r.bq n hn
theorem pV {f : Nat} (h : T.fn f = some F__law_vs) : PV (callF T 99) f := fun p q n r hn C => s_vs (T := T) (d := 98) h r.bp r.bq n hn
theorem pTerm {f ft fw gm fr : Nat} (h : T.fn f = some (F_term ft fw gm fr)) (ht : TermsIn T ft) (hw : SureWithin T fw) (hr : SureRule T fr) (hm : T.glob gm = some (.int 3000)) : PTerm (callF T 99) f := fun p q n r hn C => s_term (T := T) (d := 94) h ht hw hr hm r hn
theorem pComp {f ft fw gm fr : Nat} (h : T.fn f = some (F_companion ft fw gm fr)) (ht : TermsIn T ft) (hw : SureWithin T fw) (hr : SureRule T fr) (hm : T.glob gm = some (.int 3000)) : PComp (callF T 99) f := fun p q n r hn C => s_companion (T := T) (d := 94) h ht hw hr hm r hn
theorem pIsPlain {f fi fc fr : Nat} (h : T.fn f = some (F_is_plain fi fr)) (hi : T.fn fi = some (F_is_plain_in fc)) (hc : T.fn fc = some F_common) (hr : SureRule T fr) : PIsPlain (callF T 99) f := fun p q r C => s_is_plain (T := T) (d := 94) h hi hc hr r
theorem pCT {f f2 fc ft fw gm fr : Nat} (h : T.fn f = some (F_common_terms fc f2)) (h2 : T.fn f2 = some (F_two_terms ft fw gm fr)) (hc : T.fn fc = some F_common) (ht : TermsIn T ft) (hw : SureWithin T fw) (hr : SureRule T fr) (hm : T.glob gm = some (.int 3000)) : PCT (callF T 99) f :=
  fun p q m n r hm3 hn C => s_common_terms (T := T) (d := 93) h h2 hc ht hw hr hm r hm3 hn
theorem pCC {f f2 fc ft fw gm fr : Nat} (h : T.fn f = some (F_common_companions fc f2)) (h2 : T.fn f2 = some (F_two_terms ft fw gm fr)) (hc : T.fn fc = some F_common) (ht : TermsIn T ft) (hw : SureWithin T fw) (hr : SureRule T fr) (hm : T.glob gm = some (.int 3000)) : PCC (callF T 99) f :=
  fun p q m n r hm3 hn C => s_common_companions (T := T) (d := 93) h h2 hc ht hw hr hm r hm3 hn
theorem pCM {f f2 fc ft fw gm fr : Nat} (h : T.fn f = some (F_common_mixed fc f2)) (h2 : T.fn f2 = some (F_two_terms ft fw gm fr)) (hc : T.fn fc = some F_common) (ht : TermsIn T ft) (hw : SureWithin T fw) (hr : SureRule T fr) (hm : T.glob gm = some (.int 3000)) : PCM (callF T 99) f :=
  fun p q m n r hm3 hn C => s_common_mixed (T := T) (d := 93) h h2 hc ht hw hr hm r hm3 hn
end
/-- shapes of drawing in a single cell -/
theorem PTake.at0 {cf : CF} {f : Nat} (h : PTake cf f) {a b c : Int} (ok : TinOk a b c) (hc : c < 1000000) {m : Int} (hm : 0 < m) (hm2 : m < 2 ^ 200) : ∃ (z : Nat) (a' c' : Int), cf f [.cell 0, .int m] [tinL a b c] = .ok (.int z) [tinL a' b c'] ∧ (z : Int) < m ∧ TinOk a' b c' ∧ c' ≤ c + 1 := h 0 [tinL a b c] a b c m rfl ok hc hm hm2
theorem POf.at0 {cf : CF} {f : Nat} (h : POf cf f) {a b c : Int} (ok : TinOk a b c) (hc : c < 1000000) {xs : List D} (h1 : 0 < xs.length) (h2 : xs.length < 2 ^ 60) (h3 : D.nocL xs = true) : ∃ (x : D) (a' c' : Int), x ∈ xs ∧ cf f [.cell 0, .lst xs] [tinL a b c] = .ok x [tinL a' b c'] ∧ TinOk a' b c' ∧ c' ≤ c + 1 := h 0 [tinL a b c] a b c xs rfl ok hc h1 h2 h3
theorem PPlain.at0 {cf : CF} {f : Nat} (h : PPlain cf f) {a b c : Int} (ok : TinOk a b c) (hc : c < 1000000) {w : Int} (hm : 0 < w) (hm2 : w ≤ 1000) : ∃ (p q a' c' : Int), cf f [.cell 0, .int w] [tinL a b c] = .ok (ruleD p q) [tinL a' b c'] ∧ RuleOk p q ∧ plainB p q = true ∧ TinOk a' b c' ∧ c' ≤ c + 37 := h 0 [tinL a b c] a b c w rfl ok hc hm hm2
theorem PRule.at0 {cf : CF} {f : Nat} (h : PRule cf f) {a b c : Int} (ok : TinOk a b c) (hc : c < 1000000) {w : Int} (hm : 0 < w) (hm2 : w ≤ 1000) : ∃ (p q a' c' : Int), cf f [.cell 0, .int w] [tinL a b c] = .ok (ruleD p q) [tinL a' b c'] ∧ RuleOk p q ∧ -w ≤ p ∧ p ≤ w ∧ -w ≤ q ∧ q ≤ w ∧ TinOk a' b c' ∧ c' ≤ c + 3 := h 0 [tinL a b c] a b c w rfl ok hc hm hm2
theorem same_int (n : Nat) (i : Int) : SameOk n (.int i) := .int n i
theorem same_lst {n : Nat} {xs : List D} (h : xs.length ≤ 1000) (h2 : ∀ x ∈ xs, SameOk n x) : SameOk (n + 1) (.lst xs) := .lst n xs (by omega) h2
theorem plainB_gcd {p q : Int} (h : plainB p q = true) : Int.gcd p q = 1 := by
  unfold plainB at h
  simp only [Bool.and_eq_true, decide_eq_true_eq] at h
  exact h.2
theorem plainB_p {p q : Int} (h : plainB p q = true) : p ≠ 0 := by
  unfold plainB at h
  simp only [Bool.and_eq_true, decide_eq_true_eq] at h
  exact h.1
end ML

set_option maxHeartbeats 4000000
/-! Terms far out: doubling. -/
namespace ML
open PySem
@[simp] theorem evE_rev (gl : Nat → Option D) (cf : CF) (a : E) (ρ : Env) (C : Cells) : evE gl cf (.rev a) ρ C = (evE gl cf a ρ C).bind fun x C => match x.val C with | .lst xs => .ok (.lst xs.reverse) C | _ => .stuck := by rw [evE] <;> rfl
/-! sizes -/
theorem Lt2.mul {a b : Nat} {i j : Int} (h : Lt2 a i) (k : Lt2 b j) : Lt2 (a + b) (i * j) := by
  unfold Lt2 at *
  rw [Int.natAbs_mul, Nat.pow_add]
  exact Nat.mul_lt_mul'' h k
theorem Lt2.add {a : Nat} {i j : Int} (h : Lt2 a i) (k : Lt2 a j) : Lt2 (a + 1) (i + j) := by
  unfold Lt2 at *
  rw [Nat.pow_succ]; omega
theorem Lt2.sub {a : Nat} {i j : Int} (h : Lt2 a i) (k : Lt2 a j) : Lt2 (a + 1) (i - j) := by
  unfold Lt2 at *
  rw [Nat.pow_succ]; omega
theorem Lt2.emod {a : Nat} {m : Int} (i : Int) (hm : 0 < m) (h : Lt2 a m) : Lt2 a (i % m) := by
  unfold Lt2 at *
  have h1 := Int.emod_nonneg i (b := m) (by omega)
  have h2 := Int.emod_lt_of_pos i hm
  omega
theorem Lt2.ediv {a : Nat} {m : Int} {i : Int} (h0 : 0 ≤ i) (hm : 0 < m) (h : Lt2 a i) : Lt2 a (i / m) := by
  unfold Lt2 at *
  have h1 := Int.ediv_nonneg h0 (show 0 ≤ m by omega)
  have h2 := Int.ediv_le_self m h0
  omega
theorem mul_lt2 {a b : Nat} {C : Cells} {i j : Int} (h : Lt2 a i) (k : Lt2 b j) (hab : a + b < 999999) : binop .mul (.int i) (.int j) C = some (.int (i * j)) := by
  refine mul_int _ _ (.inr (.inr ?_))
  have h1 : bits i < a + 1 := bits_lt (Nat.lt_of_lt_of_le h (Nat.pow_le_pow_right (by omega) (by omega))) (by omega)
  have h2 : bits j < b + 1 := bits_lt (Nat.lt_of_lt_of_le k (Nat.pow_le_pow_right (by omega) (by omega))) (by omega)
  omega
/-! rests -/
theorem em_mul {m x x' y y' : Int} (h : x % m = x' % m) (k : y % m = y' % m) : (x * y) % m = (x' * y') % m := by rw [Int.mul_emod, h, k, ← Int.mul_emod]
theorem em_add {m x x' y y' : Int} (h : x % m = x' % m) (k : y % m = y' % m) : (x + y) % m = (x' + y') % m := by rw [Int.add_emod, h, k, ← Int.add_emod]
theorem em_sub {m x x' y y' : Int} (h : x % m = x' % m) (k : y % m = y' % m) : (x - y) % m = (x' - y') % m := by rw [Int.sub_emod, h, k, ← Int.sub_emod]
theorem em_self (m x : Int) : (x % m) % m = x % m := Int.emod_emod_of_dvd _ (Int.dvd_refl _)
/-! twice as far -/
theorem U_twice (p q : Int) (k : Nat) : U p q (2 * k) = U p q k * (2 * U p q (k + 1) - p * U p q k) := by
  have : 2 * k = k + k := by omega
  rw [this, U_double, V_U]
theorem U_twice1 (p q : Int) (k : Nat) : U p q (2 * k + 1) = U p q (k + 1) * U p q (k + 1) - q * U p q k * U p q k := by
  have : 2 * k + 1 = k + 1 + k := by omega
  rw [this, U_add]
/-- a number by its digits, the greatest first -/
def ofBits (xs : List Int) (k : Nat) : Nat := xs.foldl (fun a b => 2 * a + b.toNat) k
def isBits (xs : List Int) : Prop := ∀ x ∈ xs, x = 0 ∨ x = 1
section
variable {T : Tab} {d : Nat} {C : Cells}
theorem s_digits {f : Nat} (h : T.fn f = some F_digits_of) (n : Nat) (hn : n < 2 ^ 5000) : ∃ xs : List Int, callF T (d + 1) f [.int n] C = .ok (scr xs) C ∧ isBits xs ∧ ofBits xs 0 = n := by
  rw [callF_eq h rfl]
  have key := wloop_inv (c := tst T.glob (callF T d) (.cmp .gt (.var 2) (.lit (.int 0)))) (b := blk T.glob (callF T d) (.cons (.expr (.app (.var 1) (.bin .mod (.var 2) (.lit (.int 2))))) (.cons (.set 2 (.bin .fdiv (.var 2) (.lit (.int 2)))) .nil)))
    (P := fun fl ρ C' => fl = .next ∧ ∃ xs : List Int, isBits xs ∧ ofBits xs 0 = n ∧ ρ = [some (.int n), some (.cell C.length), some (.int 0)] ∧ C' = C ++ [(intL xs).reverse])
    (fun m ρ C' => ∃ (xs : List Int) (k : Nat), isBits xs ∧ ofBits xs k = n ∧ ρ = [some (.int n), some (.cell C.length), some (.int k)] ∧ C' = C ++ [(intL xs).reverse] ∧ xs.length + m ≤ 5000 ∧ k < 2 ^ m)
    (by
      rintro m ρ C' ⟨xs, k, hb, he, rfl, rfl, hl, hk⟩
      refine ⟨decide (0 < (k : Int)), by simp -implicitDefEqProofs [tst], fun h0 => ?_, fun h1 => ?_⟩
      · have hk0 : k = 0 := by simp at h0; omega
        subst hk0
        exact ⟨rfl, xs, hb, he, rfl, rfl⟩
      · have hk1 : 0 < k := by simp at h1; omega
        obtain ⟨m, rfl⟩ : ∃ m', m = m' + 1 := ⟨m - 1, by cases m with | zero => simp at hk; omega | succ m => rfl⟩
        have h2 : (0 : Int) < 2 := by omega
        have b2 : bits 2 < 9000 := by decide
        obtain ⟨r, hr⟩ : ∃ r : Nat, r = k % 2 := ⟨_, rfl⟩
        obtain ⟨y, hy⟩ : ∃ y : Nat, y = k / 2 := ⟨_, rfl⟩
        have e1 : ((k : Int) % 2) = (r : Int) := by omega
        have e2 : ((k : Int) / 2) = (y : Int) := by omega
        have hlen' : xs.length < 16777216 := by omega
        have hrr : (C ++ [(intL ((r : Int) :: xs)).reverse]) = C ++ [(intL xs).reverse ++ [.int (r : Nat)]] := by simp [intL]
        simp only [blk]
        refine wps_cons (ρ' := [some (.int n), some (.cell C.length), some (.int k)]) (C' := C ++ [(intL ((r : Int) :: xs)).reverse]) (by rw [hrr]; simp -implicitDefEqProofs [mod_int _ _ h2, hlen', e1]) ?_
        refine wps_cons (ρ' := [some (.int n), some (.cell C.length), some (.int (y : Nat))]) (C' := C ++ [(intL ((r : Int) :: xs)).reverse]) (by simp -implicitDefEqProofs [fdiv_int _ _ h2 b2, e2]) ?_
        rw [evSs_nil, wps_ok]
        refine ⟨m, by omega, (r : Int) :: xs, y, ?_, ?_, rfl, rfl, by simp; omega, ?_⟩
        · intro x hx
          rcases List.mem_cons.mp hx with rfl | hx
          · omega
          · exact hb x hx
        · simp only [ofBits, List.foldl_cons] at he ⊢
          have : 2 * y + ((r : Nat) : Int).toNat = k := by omega
          rw [this]; exact he
        · rw [Nat.pow_succ] at hk; omega)
    WMAX 5000 [some (.int n), some (.cell C.length), some (.int n)] (C ++ [[]]) (by unfold WMAX; omega) ⟨[], n, fun x hx => by simp at hx, rfl, rfl, rfl, by simp, hn⟩
  obtain ⟨fl, ρ, C', e, rfl, xs, hb, he, rfl, rfl⟩ := wps_get key
  refine ⟨xs, ?_, hb, he⟩
  have hv : D.val (C ++ [(intL xs).reverse]) (.cell C.length) = .lst (intL xs).reverse := val_cell (last_get _)
  simp -implicitDefEqProofs [F_digits_of, e, D.nocL, hv]
  rw [fin_lst (intL_noc _)]
  simp [intL]
def pairD (p q : Int) (n : Nat) (m : Int) : D := .tup [.int (U p q n % m), .int (U p q (n + 1) % m)]
theorem s_pair_modN {f fd : Nat} (h : T.fn f = some (F_pair_mod fd)) (hd : T.fn fd = some F_digits_of) {p q : Int} (hp : Lt2 2000 p) (hq : Lt2 2000 q) (n : Nat) (hn : n < 2 ^ 5000) {m : Int} (hm : 0 < m) {N : Nat} (hN : N ≤ 400000) (hm2 : Lt2 N m) : callF T (d + 2) f [ruleD p q, .int n, .int m] C = .ok (pairD p q n m) C := by
  rw [callF_eq h rfl]
  obtain ⟨xs, e1, hb, he⟩ := s_digits (T := T) (d := d) (C := C) hd n hn
  have key := floop_inv (gd := none) (all := intL xs) (t := .one 3) (b := blk T.glob (callF T (d + 1)) (.cons (.set 6 (.bin .mod (.bin .mul (.var 4) (.bin .sub (.bin .mul (.lit (.int 2)) (.var 5)) (.bin .mul (.idx (.var 0) (.lit (.int 0))) (.var 4)))) (.var 2)))
     (.cons (.set 7 (.bin .mod (.bin .sub (.bin .mul (.var 5) (.var 5)) (.bin .mul (.bin .mul (.idx (.var 0) (.lit (.int 1))) (.var 4)) (.var 4))) (.var 2)))
     (.cons (.tset [4, 5] (.ite (.cmp .eq (.var 3) (.lit (.int 0))) (.tup (.cons (.var 6) (.cons (.var 7) .nil))) (.tup (.cons (.var 7) (.cons (.bin .mod (.bin .sub (.bin .mul (.idx (.var 0) (.lit (.int 0))) (.var 7)) (.bin .mul (.idx (.var 0) (.lit (.int 1))) (.var 6))) (.var 2)) .nil)))))
     .nil))))
    (P := fun fl ρ C' => fl = .next ∧ C' = C ∧ ∃ x3 x6 x7, ρ = [some (ruleD p q), some (.int n), some (.int m), x3, some (.int (U p q n % m)), some (.int (U p q (n + 1) % m)), x6, x7])
    (fun ys ρ C' => C' = C ∧ ∃ (zs : List Int) (k : Nat) (x3 x6 x7 : Option D), ys = intL zs ∧ isBits zs ∧ ofBits zs k = n ∧ ρ = [some (ruleD p q), some (.int n), some (.int m), x3, some (.int (U p q k % m)), some (.int (U p q (k + 1) % m)), x6, x7])
    (by
      rintro x ys ρ C' ⟨rfl, zs, k, x3, x6, x7, hz, hzb, hzk, rfl⟩
      cases zs with
      | nil => simp [intL] at hz
      | cons z zs =>
        simp only [intL, List.map_cons, List.cons.injEq] at hz
        obtain ⟨rfl, rfl⟩ := hz
        refine ⟨_, rfl, ?_⟩
        have la : Lt2 N (U p q k % m) := Lt2.emod _ hm hm2
        have lb : Lt2 N (U p q (k + 1) % m) := Lt2.emod _ hm hm2
        have k2 : bits 2 < 63 := by decide
        have l2 : Lt2 2000 2 := by unfold Lt2; exact Nat.lt_of_lt_of_le (show (2 : Int).natAbs < 2 ^ 2 by decide) (Nat.pow_le_pow_right (by omega) (by omega))
        have t1 : (U p q k % m * (2 * (U p q (k + 1) % m) - p * (U p q k % m))) % m = U p q (2 * k) % m := by
          rw [U_twice]
          exact em_mul (em_self _ _) (em_sub (em_mul rfl (em_self _ _)) (em_mul rfl (em_self _ _)))
        have t2 : (U p q (k + 1) % m * (U p q (k + 1) % m) - q * (U p q k % m) * (U p q k % m)) % m = U p q (2 * k + 1) % m := by
          rw [U_twice1]
          exact em_sub (em_mul (em_self _ _) (em_self _ _)) (em_mul (em_mul rfl (em_self _ _)) (em_self _ _))
        have t3 : (p * (U p q (2 * k + 1) % m) - q * (U p q (2 * k) % m)) % m = U p q (2 * k + 2) % m := by
          rw [U_rec]
          exact em_sub (em_mul rfl (em_self _ _)) (em_mul rfl (em_self _ _))
        have lc : Lt2 N (U p q (2 * k + 1) % m) := Lt2.emod _ hm hm2
        have ld : Lt2 N (U p q (2 * k) % m) := Lt2.emod _ hm hm2
        have m1 : ∀ C, binop .mul (.int 2) (.int (U p q (k + 1) % m)) C = some (.int (2 * (U p q (k + 1) % m))) := fun C => mul_int _ _ (.inl k2)
        have m2 : ∀ C, binop .mul (.int p) (.int (U p q k % m)) C = some (.int (p * (U p q k % m))) := fun C => mul_lt2 hp la (by omega)
        have l4000 : Lt2 (2000 + N) (2 * (U p q (k + 1) % m)) := (Lt2.mul l2 lb)
        have m3 : ∀ C, binop .mul (.int (U p q k % m)) (.int (2 * (U p q (k + 1) % m) - p * (U p q k % m))) C = some (.int (U p q k % m * (2 * (U p q (k + 1) % m) - p * (U p q k % m)))) := fun C => mul_lt2 la (l4000.sub (hp.mul la)) (by omega)
        have m4 : ∀ C, binop .mul (.int (U p q (k + 1) % m)) (.int (U p q (k + 1) % m)) C = some (.int (U p q (k + 1) % m * (U p q (k + 1) % m))) := fun C => mul_lt2 lb lb (by omega)
        have m5 : ∀ C, binop .mul (.int q) (.int (U p q k % m)) C = some (.int (q * (U p q k % m))) := fun C => mul_lt2 hq la (by omega)
        have m6 : ∀ C, binop .mul (.int (q * (U p q k % m))) (.int (U p q k % m)) C = some (.int (q * (U p q k % m) * (U p q k % m))) := fun C => mul_lt2 (hq.mul la) la (by omega)
        have m7 : ∀ C, binop .mul (.int p) (.int (U p q (2 * k + 1) % m)) C = some (.int (p * (U p q (2 * k + 1) % m))) := fun C => mul_lt2 hp lc (by omega)
        have m8 : ∀ C, binop .mul (.int q) (.int (U p q (2 * k) % m)) C = some (.int (q * (U p q (2 * k) % m))) := fun C => mul_lt2 hq ld (by omega)
        have hz01 := hzb z (by simp)
        simp only [ofBits, List.foldl_cons] at hzk
        simp only [blk]
        refine wps_cons (ρ' := [some (ruleD p q), some (.int n), some (.int m), some (.int z), some (.int (U p q k % m)), some (.int (U p q (k + 1) % m)), some (.int (U p q (2 * k) % m)), x7]) (C' := C') (by simp -implicitDefEqProofs [m1, m2, m3, mod_int _ _ hm, t1]) ?_
        refine wps_cons (ρ' := [some (ruleD p q), some (.int n), some (.int m), some (.int z), some (.int (U p q k % m)), some (.int (U p q (k + 1) % m)), some (.int (U p q (2 * k) % m)), some (.int (U p q (2 * k + 1) % m))]) (C' := C') (by simp -implicitDefEqProofs [m4, m5, m6, mod_int _ _ hm, t2]) ?_
        rcases hz01 with rfl | rfl
        · refine wps_cons (ρ' := [some (ruleD p q), some (.int n), some (.int m), some (.int 0), some (.int (U p q (2 * k) % m)), some (.int (U p q (2 * k + 1) % m)), some (.int (U p q (2 * k) % m)), some (.int (U p q (2 * k + 1) % m))]) (C' := C') (by simp -implicitDefEqProofs) ?_
          rw [evSs_nil, wps_ok]
          exact ⟨rfl, rfl, zs, 2 * k, _, _, _, rfl, fun x hx => hzb x (by simp [hx]), by simpa [ofBits] using hzk, rfl⟩
        · refine wps_cons (ρ' := [some (ruleD p q), some (.int n), some (.int m), some (.int 1), some (.int (U p q (2 * k + 1) % m)), some (.int (U p q (2 * k + 2) % m)), some (.int (U p q (2 * k) % m)), some (.int (U p q (2 * k + 1) % m))]) (C' := C') (by simp -implicitDefEqProofs [m7, m8, mod_int _ _ hm, t3]) ?_
          rw [evSs_nil, wps_ok]
          exact ⟨rfl, rfl, zs, 2 * k + 1, _, _, _, rfl, fun x hx => hzb x (by simp [hx]), by simpa [ofBits] using hzk, rfl⟩)
    (by
      rintro ρ C' ⟨rfl, zs, k, x3, x6, x7, hz, hzb, hzk, rfl⟩
      cases zs with
      | nil =>
        simp only [ofBits, List.foldl_nil] at hzk
        subst hzk
        exact ⟨rfl, rfl, x3, x6, x7, rfl⟩
      | cons z zs => simp [intL] at hz)
    (intL xs) [some (ruleD p q), some (.int n), some (.int m), none, some (.int (U p q 0 % m)), some (.int (U p q 1 % m)), none, none] C ⟨rfl, xs, 0, none, none, none, rfl, hb, he, rfl⟩
  obtain ⟨fl, ρ, C', e, rfl, rfl, x3, x6, x7, rfl⟩ := wps_get key
  have z0 : U p q 0 % m = 0 := by simp [U]
  have z1 : U p q 1 % m = 1 % m := by simp [U]
  rw [z0, z1] at e
  simp -implicitDefEqProofs [F_pair_mod, e1, mod_int _ _ hm, e, pairD, fin_tup, D.nocL]
theorem s_pair_mod {f fd : Nat} (h : T.fn f = some (F_pair_mod fd)) (hd : T.fn fd = some F_digits_of) {p q : Int} (hp : Lt2 2000 p) (hq : Lt2 2000 q) (n : Nat) (hn : n < 2 ^ 5000) {m : Int} (hm : 0 < m) (hm2 : Lt2 2000 m) : callF T (d + 2) f [ruleD p q, .int n, .int m] C = .ok (pairD p q n m) C := s_pair_modN h hd hp hq n hn hm (N := 2000) (by omega) hm2
end
end ML

set_option maxHeartbeats 4000000
/-! Rests far out; own tables. -/
namespace ML
open PySem
def FarOk (T : Tab) (f fw gm gf : Nat) : Prop := T.fn f = some (F_sure_far fw gm gf) ∧ SureWithin T fw ∧ T.glob gm = some (.int 1000000000000000000000000000000) ∧ T.glob gf = some (.int 1000000000000000000)
theorem RuleOk.lp2 {p q : Int} (r : RuleOk p q) : Lt2 2000 p := r.lp.mono (by omega)
theorem RuleOk.lq2 {p q : Int} (r : RuleOk p q) : Lt2 2000 q := r.lq.mono (by omega)
theorem lt2_of_lt {m : Int} {k a : Nat} (h0 : 0 ≤ m) (h : m < 2 ^ k) (ha : k ≤ a) : Lt2 a m := by
  refine Lt2.mono (a := k) ?_ ha
  unfold Lt2
  have : ((2 ^ k : Nat) : Int) = (2 : Int) ^ k := by simp
  omega
section
variable {T : Tab} {d : Nat} {C : Cells}
theorem s_sure_far {f fw gm gf : Nat} (h : FarOk T f fw gm gf) {n m : Int} (h0 : 0 ≤ n) (h1 : n ≤ 1000000000000000000) (m0 : 0 < m) (m1 : m ≤ 1000000000000000000000000000000) : callF T (d + 4) f [.int n, .int m] C = .ok (.tup [.int n, .int m]) C := by
  obtain ⟨h, hw, hm, hf⟩ := h
  rw [callF_eq h rfl]
  have e1 := hw d C n 0 1000000000000000000 h0 h1
  have e2 := hw d C m 1 1000000000000000000000000000000 (by omega) m1
  simp -implicitDefEqProofs [F_sure_far, hm, hf, e1, e2, fin_tup, D.nocL]
theorem n_lt_5000 {n : Nat} (h : (n : Int) ≤ 1000000000000000000) : n < 2 ^ 5000 := Nat.lt_of_lt_of_le (show n < 2 ^ 60 by omega) (Nat.pow_le_pow_right (by omega) (by omega))
theorem s_term_rest {f fp fs fr fd fw gm gf : Nat} (h : T.fn f = some (F_term_rest fp fs fr)) (hp : T.fn fp = some (F_pair_mod fd)) (hd : T.fn fd = some F_digits_of) (hs : FarOk T fs fw gm gf) (hr : SureRule T fr) {p q : Int} (r : RuleOk p q) {n : Nat} {m : Int} (h1 : (n : Int) ≤ 1000000000000000000) (m0 : 0 < m) (m1 : m ≤ 1000000000000000000000000000000) :
    callF T (d + 5) f [ruleD p q, .int n, .int m] C = .ok (.int (U p q n % m)) C := by
  rw [callF_eq h rfl]
  have e1 := hr d C p q r
  have e2 := s_sure_far (d := d) (C := C) hs (n := n) (m := m) (by omega) h1 m0 m1
  have e3 := s_pair_mod (d := d + 2) (C := C) hp hd r.lp2 r.lq2 n (n_lt_5000 h1) m0 (lt2_of_lt (k := 100) (by omega) (by omega) (by omega))
  simp -implicitDefEqProofs [F_term_rest, e1, e2, e3, pairD]
theorem s_pair_rest {f fp fs fr fd fw gm gf : Nat} (h : T.fn f = some (F_pair_rest fp fs fr)) (hp : T.fn fp = some (F_pair_mod fd)) (hd : T.fn fd = some F_digits_of) (hs : FarOk T fs fw gm gf) (hr : SureRule T fr) {p q : Int} (r : RuleOk p q) {n : Nat} {m : Int} (h1 : (n : Int) ≤ 1000000000000000000) (m0 : 0 < m) (m1 : m ≤ 1000000000000000000000000000000) :
    callF T (d + 5) f [ruleD p q, .int n, .int m] C = .ok (pairD p q n m) C := by
  rw [callF_eq h rfl]
  have e1 := hr d C p q r
  have e2 := s_sure_far (d := d) (C := C) hs (n := n) (m := m) (by omega) h1 m0 m1
  have e3 := s_pair_mod (d := d + 2) (C := C) hp hd r.lp2 r.lq2 n (n_lt_5000 h1) m0 (lt2_of_lt (k := 100) (by omega) (by omega) (by omega))
  simp -implicitDefEqProofs [F_pair_rest, e1, e2, e3, pairD, fin_tup, D.nocL]
theorem V_em {p q m : Int} {n : Nat} : (2 * (U p q (n + 1) % m) - p * (U p q n % m)) % m = V p q n % m := by
  rw [V_U]; exact em_sub (em_mul rfl (em_self _ _)) (em_mul rfl (em_self _ _))
theorem s_v_mod {f fp fd : Nat} (h : T.fn f = some (F_v_mod fp)) (hp : T.fn fp = some (F_pair_mod fd)) (hd : T.fn fd = some F_digits_of) {p q : Int} (lp : Lt2 2000 p) (lq : Lt2 2000 q) {n : Nat} {m : Int} (hn : n < 2 ^ 5000) (m0 : 0 < m) (m1 : Lt2 2000 m) :
    callF T (d + 3) f [ruleD p q, .int n, .int m] C = .ok (.int (V p q n % m)) C := by
  rw [callF_eq h rfl]
  have e3 := s_pair_mod (d := d) (C := C) hp hd lp lq n hn m0 m1
  have k2 : bits 2 < 63 := by decide
  have m2 : binop .mul (.int p) (.int (U p q n % m)) C = some (.int (p * (U p q n % m))) := mul_lt2 lp (Lt2.emod _ m0 m1) (by omega)
  simp -implicitDefEqProofs [F_v_mod, e3, pairD, mul_int _ _ (.inl k2), m2, mod_int _ _ m0, V_em]
theorem s_companion_rest {f fv fp fs fr fd fw gm gf : Nat} (h : T.fn f = some (F_companion_rest fv fs fr)) (hv : T.fn fv = some (F_v_mod fp)) (hp : T.fn fp = some (F_pair_mod fd)) (hd : T.fn fd = some F_digits_of) (hs : FarOk T fs fw gm gf) (hr : SureRule T fr) {p q : Int} (r : RuleOk p q) {n : Nat} {m : Int} (h1 : (n : Int) ≤ 1000000000000000000) (m0 : 0 < m) (m1 : m ≤ 1000000000000000000000000000000) :
    callF T (d + 5) f [ruleD p q, .int n, .int m] C = .ok (.int (V p q n % m)) C := by
  rw [callF_eq h rfl]
  have e1 := hr d C p q r
  have e2 := s_sure_far (d := d) (C := C) hs (n := n) (m := m) (by omega) h1 m0 m1
  have e3 := s_v_mod (d := d + 1) (C := C) hv hp hd r.lp2 r.lq2 (n_lt_5000 h1) m0 (lt2_of_lt (k := 100) (by omega) (by omega) (by omega))
  simp -implicitDefEqProofs [F_companion_rest, e1, e2, e3]
/-! own tables -/
def mxD (a b c e : Int) : D := .lst [.lst [.int a, .int b], .lst [.int c, .int e]]
theorem rngop2 : rngop [D.int 2] = some [D.int 0, D.int 1] := by rfl
@[simp] theorem toI (a : Int) : D.items C (.lst [.int a]) = some [.int a] := rfl
theorem s_tables {f : Nat} (h : T.fn f = some F__law_tables) {a b c e a' b' c' e' m : Int} (ha : Lt2 2001 a) (hb : Lt2 2001 b) (hc : Lt2 2001 c) (he : Lt2 2001 e) (ha' : Lt2 2001 a') (hb' : Lt2 2001 b') (hc' : Lt2 2001 c') (he' : Lt2 2001 e') (m0 : 0 < m) :
    callF T (d + 1) f [mxD a b c e, mxD a' b' c' e', .int m] C = .ok (mxD ((a * a' + b * c') % m) ((a * b' + b * e') % m) ((c * a' + e * c') % m) ((c * b' + e * e') % m)) C := by
  rw [callF_eq h rfl]
  have mm : ∀ {x y : Int} {C : Cells}, Lt2 2001 x → Lt2 2001 y → binop .mul (.int x) (.int y) C = some (.int (x * y)) := fun hx hy => mul_lt2 hx hy (by omega)
  simp -implicitDefEqProofs [F__law_tables, mxD, floop, cloop, cbd, blk, rngop2, mm ha ha', mm hb hc', mm ha hb', mm hb he', mm hc ha', mm he hc', mm hc hb', mm he he', mod_int _ _ m0, D.nocL, fin]
structure Mok (p q m : Int) (k : Nat) (a b c e : Int) : Prop where
  ea : a % m = U p q (k + 1) % m
  eb : b % m = (-q * U p q k) % m
  ec : c % m = U p q k % m
  ee : e % m = (U p q (k + 1) - p * U p q k) % m
  la : Lt2 2001 a
  lb : Lt2 2001 b
  lc : Lt2 2001 c
  le : Lt2 2001 e
theorem U_add' (p q : Int) (i : Nat) : ∀ j, U p q (i + j) = U p q (i + 1) * U p q j + U p q i * (U p q (j + 1) - p * U p q j)
  | 0 => by simp [U]
  | j + 1 => by
    have e : i + (j + 1) = i + 1 + j := by omega
    have e2 : U p q (j + 1 + 1) = p * U p q (j + 1) - q * U p q j := rfl
    rw [e, U_add, e2]; grind
theorem Mok.mul {p q m : Int} (m0 : 0 < m) (m1 : Lt2 2000 m) {i j : Nat} {a b c e a' b' c' e' : Int} (A : Mok p q m i a b c e) (B : Mok p q m j a' b' c' e') : Mok p q m (i + j) ((a * a' + b * c') % m) ((a * b' + b * e') % m) ((c * a' + e * c') % m) ((c * b' + e * e') % m) := by
  have l : ∀ x : Int, Lt2 2001 (x % m) := fun x => (Lt2.emod x m0 m1).mono (by omega)
  have u1 : U p q (i + j + 1) = U p q (i + 1) * U p q (j + 1) - q * U p q i * U p q j := by
    have : i + j + 1 = i + 1 + j := by omega
    rw [this, U_add]
  have u0 := U_add' p q i j
  refine ⟨?_, ?_, ?_, ?_, l _, l _, l _, l _⟩
  · rw [em_self, em_add (em_mul A.ea B.ea) (em_mul A.eb B.ec), u1]; congr 1; grind
  · rw [em_self, em_add (em_mul A.ea B.eb) (em_mul A.eb B.ee), u0]; congr 1; grind
  · rw [em_self, em_add (em_mul A.ec B.ea) (em_mul A.ee B.ec), u0]; congr 1; grind
  · rw [em_self, em_add (em_mul A.ec B.eb) (em_mul A.ee B.ee), u1, u0]; congr 1; grind
theorem s_far {f ft : Nat} (h : T.fn f = some (F__law_far ft)) (ht : T.fn ft = some F__law_tables) {p q m : Int} (lp : Lt2 2000 p) (lq : Lt2 2000 q) (m0 : 0 < m) (m1 : Lt2 2000 m) {n : Nat} (hn : n < 2 ^ 64) : callF T (d + 2) f [ruleD p q, .int n, .int m] C = .ok (pairD p q n m) C := by
  rw [callF_eq h rfl]
  have l : ∀ x : Int, Lt2 2001 (x % m) := fun x => (Lt2.emod x m0 m1).mono (by omega)
  have l0 : Lt2 2001 0 := by unfold Lt2; simpa using Nat.pow_pos (by omega)
  have h2 : (0 : Int) < 2 := by omega
  have b2 : bits 2 < 9000 := by decide
  have key := floop_rng0 (n := 64) (t := 3) (b := blk T.glob (callF T (d + 1)) (.cons (.ife (.cmp .eq (.var 1) (.lit (.int 0))) (.cons (.brk) .nil) .nil)
    (.cons (.ife (.cmp .eq (.bin .mod (.var 1) (.lit (.int 2))) (.lit (.int 1))) (.cons (.set 4 (.call ft (.cons (.var 4) (.cons (.var 5) (.cons (.var 2) .nil))))) .nil) .nil)
    (.cons (.par [5, 1] [false, false] (.cons (.call ft (.cons (.var 5) (.cons (.var 5) (.cons (.var 2) .nil)))) (.cons (.bin .fdiv (.var 1) (.lit (.int 2))) .nil))) .nil))))
    (P := fun fl ρ C' => fl = .next ∧ C' = C ∧ ∃ x1 x3 x5 a b c e, Mok p q m n a b c e ∧ ρ = [some (ruleD p q), x1, some (.int m), x3, some (mxD a b c e), x5])
    (fun k ρ C' => C' = C ∧ ∃ (y j : Nat) (x3 : Option D) (a b c e a' b' c' e' : Int), Mok p q m j a b c e ∧ Mok p q m (2 ^ k) a' b' c' e' ∧ j + 2 ^ k * y = n ∧ y < 2 ^ (64 - k) ∧ ρ = [some (ruleD p q), some (.int y), some (.int m), x3, some (mxD a b c e), some (mxD a' b' c' e')])
    (by
      rintro k ρ C' hk ⟨rfl, y, j, x3, a, b, c, e, a', b', c', e', A, B, hy, hlt, rfl⟩
      by_cases y0 : y = 0
      · subst y0
        simp only [Nat.mul_zero, Nat.add_zero] at hy
        subst hy
        simp -implicitDefEqProofs [blk]
        exact ⟨_, _, _, a, b, c, e, A, rfl, rfl, rfl, rfl⟩
      · have t1 := s_tables (T := T) (d := d) (C := C') ht B.la B.lb B.lc B.le B.la B.lb B.lc B.le m0
        have t2 := s_tables (T := T) (d := d) (C := C') ht A.la A.lb A.lc A.le B.la B.lb B.lc B.le m0
        have y0' : ¬ ((y : Int) = 0) := by omega
        have B2 := B.mul m0 m1 B
        have e2 : 2 ^ k + 2 ^ k = 2 ^ (k + 1) := by rw [Nat.pow_succ]; omega
        rw [e2] at B2
        obtain ⟨z, hz⟩ : ∃ z : Nat, z = y / 2 := ⟨_, rfl⟩
        have ey : ((y : Int) / 2) = (z : Int) := by omega
        have hlt2 : z < 2 ^ (64 - (k + 1)) := by
          have : 64 - k = (64 - (k + 1)) + 1 := by omega
          rw [this, Nat.pow_succ] at hlt; omega
        simp only [blk]
        refine wps_cons (ρ' := [some (ruleD p q), some (.int y), some (.int m), some (.int k), some (mxD a b c e), some (mxD a' b' c' e')]) (C' := C') (by simp -implicitDefEqProofs [y0', y0]) ?_
        rcases Nat.mod_two_eq_zero_or_one y with hm | hm
        · have hm' : ¬ ((y : Int) % 2 = 1) := by omega
          refine wps_cons (ρ' := [some (ruleD p q), some (.int y), some (.int m), some (.int k), some (mxD a b c e), some (mxD a' b' c' e')]) (C' := C') (by simp -implicitDefEqProofs [mod_int _ _ h2, hm']) ?_
          refine wps_cons (ρ' := [some (ruleD p q), some (.int (z : Nat)), some (.int m), some (.int k), some (mxD a b c e), some (mxD _ _ _ _)]) (C' := C') (by simp -implicitDefEqProofs [t1, fdiv_int _ _ h2 b2, ey]; rfl) ?_
          rw [evSs_nil, wps_ok]
          refine ⟨rfl, z, j, _, a, b, c, e, _, _, _, _, A, B2, ?_, hlt2, rfl⟩
          have : y = 2 * z := by omega
          rw [Nat.pow_succ, Nat.mul_assoc, ← this]; exact hy
        · have hm' : ((y : Int) % 2 = 1) := by omega
          refine wps_cons (ρ' := [some (ruleD p q), some (.int y), some (.int m), some (.int k), some (mxD _ _ _ _), some (mxD a' b' c' e')]) (C' := C') (by simp -implicitDefEqProofs [mod_int _ _ h2, hm', t2]; rfl) ?_
          refine wps_cons (ρ' := [some (ruleD p q), some (.int (z : Nat)), some (.int m), some (.int k), some (mxD _ _ _ _), some (mxD _ _ _ _)]) (C' := C') (by simp -implicitDefEqProofs [t1, fdiv_int _ _ h2 b2, ey]; exact ⟨rfl, rfl⟩) ?_
          rw [evSs_nil, wps_ok]
          refine ⟨rfl, z, j + 2 ^ k, _, _, _, _, _, _, _, _, _, A.mul m0 m1 B, B2, ?_, hlt2, rfl⟩
          have : y = 2 * z + 1 := by omega
          have e3 : 2 ^ k * y = 2 ^ (k + 1) * z + 2 ^ k := by
            conv => lhs; rw [this]
            rw [Nat.mul_add, Nat.pow_succ, Nat.mul_assoc, Nat.mul_one]
          omega)
    (by
      rintro ρ C' ⟨rfl, y, j, x3, a, b, c, e, a', b', c', e', A, B, hy, hlt, rfl⟩
      have : y = 0 := by simpa using hlt
      subst this
      simp only [Nat.mul_zero, Nat.add_zero] at hy
      subst hy
      exact ⟨rfl, rfl, _, _, _, a, b, c, e, A, rfl⟩)
    (all := (List.range 64).map fun i => D.int (i : Nat)) (ρ := [some (ruleD p q), some (.int n), some (.int m), none, some (mxD (1 % m) 0 0 (1 % m)), some (mxD (p % m) (0 - q % m) (1 % m) 0)]) (C := C)
    ⟨rfl, n, 0, none, _, _, _, _, _, _, _, _, ⟨by rw [em_self]; rfl, by simp [U], by simp [U], by rw [em_self]; simp [U], l _, l0, l0, l _⟩,
      ⟨by rw [em_self]; simp [U2], by
        have : (0 - q % m) % m = (0 - q) % m := em_sub rfl (em_self _ _)
        rw [this]; simp [U], by rw [em_self]; simp [U], by simp [U2, U], l _, by
          have := Lt2.sub (show Lt2 2000 0 by unfold Lt2; simpa using Nat.pow_pos (by omega)) (Lt2.emod q m0 m1)
          exact this, l _, l0⟩, by simp, by simpa using hn, rfl⟩
  have h64 : rngop [D.int 64] = some ((List.range 64).map fun i => D.int (i : Nat)) := rngop_nat (n := 64) (by omega)
  obtain ⟨fl, ρ, C', e, rfl, rfl, x1, x3, x5, a, b, c, e', A, rfl⟩ := wps_get key
  unfold mxD at e
  rw [Int.zero_sub] at e
  simp -implicitDefEqProofs [F__law_far, h64, mod_int _ _ m0, e, A.ea, A.ec, pairD, fin_tup, D.nocL]
end
end ML

set_option maxHeartbeats 4000000
/-! Rests far out: what the defs do, told of any reading of calls. -/
namespace ML
open PySem
def PTR (cf : CF) (f : Nat) : Prop := ∀ (p q : Int) (n : Nat) (m : Int), RuleOk p q → (n : Int) ≤ 1000000000000000000 → 0 < m → m ≤ 1000000000000000000000000000000 → ∀ C, cf f [ruleD p q, .int n, .int m] C = .ok (.int (U p q n % m)) C
def PCR (cf : CF) (f : Nat) : Prop := ∀ (p q : Int) (n : Nat) (m : Int), RuleOk p q → (n : Int) ≤ 1000000000000000000 → 0 < m → m ≤ 1000000000000000000000000000000 → ∀ C, cf f [ruleD p q, .int n, .int m] C = .ok (.int (V p q n % m)) C
def PPR (cf : CF) (f : Nat) : Prop := ∀ (p q : Int) (n : Nat) (m : Int), RuleOk p q → (n : Int) ≤ 1000000000000000000 → 0 < m → m ≤ 1000000000000000000000000000000 → ∀ C, cf f [ruleD p q, .int n, .int m] C = .ok (.tup [.int (U p q n % m), .int (U p q (n + 1) % m)]) C
theorem lt_1e18 {n : Nat} (h : (n : Int) ≤ 1000000000000000000) : n < 2 ^ 64 := by omega
section
variable {T : Tab}
theorem pTR {f fp fs fr fd fw gm gf : Nat} (h : T.fn f = some (F_term_rest fp fs fr)) (hp : T.fn fp = some (F_pair_mod fd)) (hd : T.fn fd = some F_digits_of) (hs : FarOk T fs fw gm gf) (hr : SureRule T fr) : PTR (callF T 99) f := fun p q n m r h1 h2 h3 C => s_term_rest (d := 94) h hp hd hs hr r h1 h2 h3
theorem pPR {f fp fs fr fd fw gm gf : Nat} (h : T.fn f = some (F_pair_rest fp fs fr)) (hp : T.fn fp = some (F_pair_mod fd)) (hd : T.fn fd = some F_digits_of) (hs : FarOk T fs fw gm gf) (hr : SureRule T fr) : PPR (callF T 99) f := fun p q n m r h1 h2 h3 C => s_pair_rest (d := 94) h hp hd hs hr r h1 h2 h3
theorem pCR {f fv fp fs fr fd fw gm gf : Nat} (h : T.fn f = some (F_companion_rest fv fs fr)) (hv : T.fn fv = some (F_v_mod fp)) (hp : T.fn fp = some (F_pair_mod fd)) (hd : T.fn fd = some F_digits_of) (hs : FarOk T fs fw gm gf) (hr : SureRule T fr) : PCR (callF T 99) f := fun p q n m r h1 h2 h3 C => s_companion_rest (d := 94) h hv hp hd hs hr r h1 h2 h3
theorem pFar {f ft : Nat} (h : T.fn f = some (F__law_far ft)) (ht : T.fn ft = some F__law_tables) : PPR (callF T 99) f := fun p q n m r h1 h2 h3 C => s_far (d := 97) h ht r.lp2 r.lq2 h2 (lt2_of_lt (k := 100) (by omega) (by omega) (by omega)) (lt_1e18 h1)
end
theorem pow10 (C : Cells) : binop .pow (.int 10) (.int 6) C = some (.int 1000000) ∧ binop .pow (.int 10) (.int 9) C = some (.int 1000000000) ∧ binop .pow (.int 10) (.int 12) C = some (.int 1000000000000) ∧ binop .pow (.int 10) (.int 18) C = some (.int 1000000000000000000) ∧ binop .pow (.int 10) (.int 30) C = some (.int 1000000000000000000000000000000) := ⟨rfl, rfl, rfl, rfl, rfl⟩
@[simp] theorem pow10_6 (C : Cells) : binop .pow (.int 10) (.int 6) C = some (.int 1000000) := rfl
@[simp] theorem pow10_9 (C : Cells) : binop .pow (.int 10) (.int 9) C = some (.int 1000000000) := rfl
@[simp] theorem pow10_12 (C : Cells) : binop .pow (.int 10) (.int 12) C = some (.int 1000000000000) := rfl
@[simp] theorem pow10_18 (C : Cells) : binop .pow (.int 10) (.int 18) C = some (.int 1000000000000000000) := rfl
@[simp] theorem pow10_30 (C : Cells) : binop .pow (.int 10) (.int 30) C = some (.int 1000000000000000000000000000000) := rfl
theorem em_dvd {x m d : Int} (h : d ∣ m) : (x % m) % d = x % d := Int.emod_emod_of_dvd x h
/-- u and v of (2, 1), (3, 2) -/
theorem U_21 : ∀ n, U 2 1 n = n ∧ U 2 1 (n + 1) = n + 1
  | 0 => by simp [U]
  | n + 1 => by
    obtain ⟨a, b⟩ := U_21 n
    refine ⟨by rw [b]; omega, ?_⟩
    rw [U_rec, b, a]; omega
theorem V_21 (n : Nat) : V 2 1 n = 2 := by
  obtain ⟨a, b⟩ := U_21 n
  rw [V_U, a, b]; omega
theorem U_32 : ∀ n, U 3 2 n = 2 ^ n - 1 ∧ U 3 2 (n + 1) = 2 ^ (n + 1) - 1
  | 0 => by simp [U]
  | n + 1 => by
    obtain ⟨a, b⟩ := U_32 n
    refine ⟨b, ?_⟩
    rw [U_rec, b, a, Int.pow_succ, Int.pow_succ]; omega
theorem V_32 (n : Nat) : V 3 2 n = 2 ^ n + 1 := by
  obtain ⟨a, b⟩ := U_32 n
  rw [V_U, a, b, Int.pow_succ]; omega
end ML

set_option maxHeartbeats 1000000
/-! The sign of a number by an odd one (by half systems): products over lists, turned round. -/
namespace NJ
/-- product over a list -/
def pr (f : Nat → Int) : List Nat → Int
  | [] => 1
  | x :: xs => f x * pr f xs
theorem pr_perm {f : Nat → Int} {l l' : List Nat} (h : l.Perm l') : pr f l = pr f l' := by
  induction h with
  | nil => rfl
  | cons x _ ih => simp only [pr, ih]
  | swap x y l => simp only [pr]; rw [← Int.mul_assoc, ← Int.mul_assoc, Int.mul_comm (f y)]
  | trans _ _ a b => rw [a, b]
theorem pr_mul (f g : Nat → Int) : ∀ l, pr (fun x => f x * g x) l = pr f l * pr g l
  | [] => rfl
  | x :: xs => by simp only [pr, pr_mul f g xs]; grind
theorem pr_map (f : Nat → Int) (g : Nat → Nat) : ∀ l, pr f (l.map g) = pr (fun x => f (g x)) l
  | [] => rfl
  | x :: xs => by simp only [List.map_cons, pr, pr_map f g xs]
theorem pr_congr {f g : Nat → Int} : ∀ {l : List Nat}, (∀ x ∈ l, f x = g x) → pr f l = pr g l
  | [], _ => rfl
  | x :: xs, h => by simp only [pr]; rw [h x (by simp), pr_congr fun y hy => h y (by simp [hy])]
theorem pr_const (c : Int) : ∀ l : List Nat, pr (fun _ => c) l = c ^ l.length
  | [] => by simp [pr]
  | x :: xs => by simp only [pr, pr_const c xs, List.length_cons, Int.pow_succ]; rw [Int.mul_comm]
theorem pr_em {m : Int} {f g : Nat → Int} : ∀ {l : List Nat}, (∀ x ∈ l, f x % m = g x % m) → pr f l % m = pr g l % m
  | [], _ => rfl
  | x :: xs, h => by
    simp only [pr]
    rw [Int.mul_emod, h x (by simp), pr_em fun y hy => h y (by simp [hy]), ← Int.mul_emod]
/-- an injective map of a list into itself is a turning round -/
theorem perm_of_sub : ∀ {l l' : List Nat}, l.Nodup → (∀ x ∈ l, x ∈ l') → l'.length ≤ l.length → l.Perm l'
  | [], l', _, _, h => by
    have : l' = [] := List.eq_nil_of_length_eq_zero (by simpa using h)
    rw [this]
  | x :: t, l', nd, hs, hl => by
    have hx : x ∈ l' := hs x (by simp)
    have p1 := List.perm_cons_erase hx
    have nd' := List.nodup_cons.mp nd
    have hl' : (l'.erase x).length ≤ t.length := by
      rw [List.length_erase_of_mem hx]; simp at hl; omega
    have ih := perm_of_sub nd'.2 (fun y hy => by
      have : y ≠ x := fun e => nd'.1 (e ▸ hy)
      exact (List.mem_erase_of_ne this).mpr (hs y (by simp [hy]))) hl'
    exact (List.Perm.cons x ih).trans p1.symm
theorem perm_map {l : List Nat} (nd : l.Nodup) {g : Nat → Nat} (hi : ∀ x ∈ l, ∀ y ∈ l, g x = g y → x = y) (hm : ∀ x ∈ l, g x ∈ l) : (l.map g).Perm l := by
  refine perm_of_sub ?_ ?_ (by simp)
  · exact List.pairwise_map.mpr (List.Pairwise.imp_of_mem (fun {a b} ha hb hne e => hne (hi a ha b hb e)) nd)
  · intro x hx
    obtain ⟨y, hy, rfl⟩ := List.mem_map.mp hx
    exact hm y hy
/-- 1 .. h -/
def half (h : Nat) : List Nat := (List.range h).map (· + 1)
theorem mem_half {h x : Nat} : x ∈ half h ↔ 1 ≤ x ∧ x ≤ h := by
  simp only [half, List.mem_map, List.mem_range]
  constructor
  · rintro ⟨a, b, rfl⟩; omega
  · rintro ⟨a, b⟩; exact ⟨x - 1, by omega, by omega⟩
theorem half_nodup (h : Nat) : (half h).Nodup := by
  unfold half
  refine List.pairwise_map.mpr (List.Pairwise.imp ?_ (List.nodup_range (n := h)))
  intro a b hne e; exact hne (by omega)
theorem half_len (h : Nat) : (half h).length = h := by simp [half]
/-- the sign of the rest of a x among the lesser half, and what it leaves there -/
def sg (n a x : Nat) : Int := if a * x % n ≤ n / 2 then 1 else -1
def fo (n a x : Nat) : Nat := if a * x % n ≤ n / 2 then a * x % n else n - a * x % n
def jj (n a : Nat) : Int := pr (sg n a) (half (n / 2))
theorem sg_pm (n a x : Nat) : sg n a x = 1 ∨ sg n a x = -1 := by unfold sg; split <;> simp
theorem pr_pm {f : Nat → Int} (h : ∀ x, f x = 1 ∨ f x = -1) : ∀ l, pr f l = 1 ∨ pr f l = -1
  | [] => .inl rfl
  | x :: xs => by
    simp only [pr]
    rcases h x with a | a <;> rcases pr_pm h xs with b | b <;> rw [a, b] <;> simp
theorem jj_pm (n a : Nat) : jj n a = 1 ∨ jj n a = -1 := pr_pm (sg_pm n a) _
theorem jj_sq (n a : Nat) : jj n a * jj n a = 1 := by rcases jj_pm n a with h | h <;> rw [h] <;> rfl
section
variable {n : Nat} (odd : n % 2 = 1)
include odd
theorem cop_mod {a : Nat} (hc : Nat.gcd a n = 1) {x : Nat} (h1 : 1 ≤ x) (h2 : x < n) : a * x % n ≠ 0 := fun h => by
  have h3 : n ∣ a * x := Nat.dvd_of_mod_eq_zero h
  have h4 : n ∣ x := Nat.Coprime.dvd_of_dvd_mul_left (by rw [Nat.Coprime, Nat.gcd_comm]; exact hc) h3
  have := Nat.le_of_dvd (by omega) h4
  omega
theorem fo_mem {a : Nat} (hc : Nat.gcd a n = 1) {x : Nat} (hx : x ∈ half (n / 2)) : fo n a x ∈ half (n / 2) := by
  have ⟨h1, h2⟩ := mem_half.mp hx
  have h3 := cop_mod odd hc h1 (by omega)
  have h4 := Nat.mod_lt (a * x) (show n > 0 by omega)
  refine mem_half.mpr ?_
  unfold fo
  split <;> omega
theorem fo_eq {a x : Nat} : ((a : Int) * x) % n = (sg n a x * fo n a x) % n := by
  have h4 := Nat.mod_lt (a * x) (show n > 0 by omega)
  have e : ((a : Int) * x) % n = ((a * x % n : Nat) : Int) := by rw [Int.natCast_emod, Int.natCast_mul]
  rw [e]
  unfold sg fo
  split
  · rw [Int.one_mul]; rw [← Int.natCast_emod, Nat.mod_mod]
  · generalize a * x % n = r at *
    have : (-1 * ((n - r : Nat) : Int)) = (r : Int) - n := by omega
    rw [this, Int.sub_emod_right, ← Int.natCast_emod, Nat.mod_eq_of_lt h4]
/-- sign and place are fixed by the rest -/
theorem sg_uniq {s s' : Int} {y y' : Nat} (hs : s = 1 ∨ s = -1) (hs' : s' = 1 ∨ s' = -1) (hy : y ∈ half (n / 2)) (hy' : y' ∈ half (n / 2)) (h : (s * y) % (n : Int) = (s' * y') % (n : Int)) : s = s' ∧ y = y' := by
  have ⟨a1, a2⟩ := mem_half.mp hy
  have ⟨b1, b2⟩ := mem_half.mp hy'
  have hd : (n : Int) ∣ s * y - s' * y' := Int.dvd_of_emod_eq_zero (Int.emod_eq_emod_iff_emod_sub_eq_zero.mp h)
  obtain ⟨k, hk⟩ := hd
  have hk0 : k = 0 := by
    have hn : (n : Int) ≥ 2 * (n / 2 : Nat) + 1 := by omega
    have hlt : s * y - s' * y' < n ∧ -(n : Int) < s * y - s' * y' := by
      rcases hs with rfl | rfl <;> rcases hs' with rfl | rfl <;> omega
    rw [hk] at hlt
    have npos : (0 : Int) < n := by omega
    by_cases hk1 : k ≥ 1
    · have : (n : Int) * 1 ≤ n * k := Int.mul_le_mul_of_nonneg_left hk1 (by omega)
      omega
    · by_cases hk2 : k ≤ -1
      · have : (n : Int) * k ≤ n * (-1) := Int.mul_le_mul_of_nonneg_left hk2 (by omega)
        omega
      · omega
  rw [hk0, Int.mul_zero] at hk
  rcases hs with rfl | rfl <;> rcases hs' with rfl | rfl
  · exact ⟨rfl, by omega⟩
  · omega
  · omega
  · exact ⟨rfl, by omega⟩
theorem cop_half {a : Nat} (hc : Nat.gcd a n = 1) {x y : Int} (h : ((a : Int) * x) % n = ((a : Int) * y) % n) : x % n = y % n := by
  have hd : (n : Int) ∣ a * x - a * y := Int.dvd_of_emod_eq_zero (Int.emod_eq_emod_iff_emod_sub_eq_zero.mp h)
  rw [← Int.mul_sub] at hd
  have : (n : Int) ∣ x - y := by
    have h1 : n ∣ a * (x - y).natAbs := by
      have := Int.natAbs_dvd_natAbs.mpr hd
      rwa [Int.natAbs_mul, Int.natAbs_natCast, Int.natAbs_natCast] at this
    have h2 : n ∣ (x - y).natAbs := Nat.Coprime.dvd_of_dvd_mul_left (by rw [Nat.Coprime, Nat.gcd_comm]; exact hc) h1
    exact Int.natAbs_dvd_natAbs.mp (by rwa [Int.natAbs_natCast])
  exact Int.emod_eq_emod_iff_emod_sub_eq_zero.mpr (Int.emod_eq_zero_of_dvd this)
theorem fo_inj {a : Nat} (hc : Nat.gcd a n = 1) {x y : Nat} (hx : x ∈ half (n / 2)) (hy : y ∈ half (n / 2)) (h : fo n a x = fo n a y) : x = y := by
  have e1 := fo_eq (n := n) odd (a := a) (x := x)
  have e2 := fo_eq (n := n) odd (a := a) (x := y)
  rw [h] at e1
  rcases sg_pm n a x with s1 | s1 <;> rcases sg_pm n a y with s2 | s2 <;> rw [s1] at e1 <;> rw [s2] at e2
  · have := cop_half odd hc (e1.trans e2.symm)
    exact (sg_uniq odd (s := 1) (s' := 1) (.inl rfl) (.inl rfl) hx hy (by rw [Int.one_mul, Int.one_mul]; exact this)).2
  · have e3 : ((a : Int) * x) % n = ((a : Int) * (-1 * y)) % n := by
      have : (a : Int) * (-1 * y) = -1 * (a * y) := by grind
      rw [e1, this, Int.mul_emod (-1 : Int) (a * y), e2, ← Int.mul_emod]; congr 1; grind
    have := cop_half odd hc e3
    exact (sg_uniq odd (s := 1) (s' := -1) (.inl rfl) (.inr rfl) hx hy (by rw [Int.one_mul]; exact this)).2
  · have e3 : ((a : Int) * y) % n = ((a : Int) * (-1 * x)) % n := by
      have : (a : Int) * (-1 * x) = -1 * (a * x) := by grind
      rw [e2, this, Int.mul_emod (-1 : Int) (a * x), e1, ← Int.mul_emod]; congr 1; grind
    have := cop_half odd hc e3
    exact ((sg_uniq odd (s := 1) (s' := -1) (.inl rfl) (.inr rfl) hy hx (by rw [Int.one_mul]; exact this)).2).symm
  · have := cop_half odd hc (e1.trans e2.symm)
    exact (sg_uniq odd (s := 1) (s' := 1) (.inl rfl) (.inl rfl) hx hy (by rw [Int.one_mul, Int.one_mul]; exact this)).2
theorem fo_perm {a : Nat} (hc : Nat.gcd a n = 1) : ((half (n / 2)).map (fo n a)).Perm (half (n / 2)) :=
  perm_map (half_nodup _) (fun x hx y hy h => fo_inj odd hc hx hy h) (fun x hx => fo_mem odd hc hx)
/-- signs multiply -/
theorem jj_mul {a b : Nat} (ha : Nat.gcd a n = 1) (hb : Nat.gcd b n = 1) : jj n (a * b) = jj n a * jj n b := by
  have hab : Nat.gcd (a * b) n = 1 := Nat.Coprime.mul_left ha hb
  have key : ∀ x ∈ half (n / 2), sg n (a * b) x = sg n b x * sg n a (fo n b x) := fun x hx => by
    have e1 := fo_eq (n := n) odd (a := a * b) (x := x)
    have e2 := fo_eq (n := n) odd (a := b) (x := x)
    have e3 := fo_eq (n := n) odd (a := a) (x := fo n b x)
    have e4 : (((a * b : Nat) : Int) * x) % n = (sg n b x * sg n a (fo n b x) * fo n a (fo n b x)) % n := by
      have : (((a * b : Nat) : Int) * x) = a * (b * x) := by rw [Int.natCast_mul, Int.mul_assoc]
      rw [this, Int.mul_emod, e2, ← Int.mul_emod]
      have : (a : Int) * (sg n b x * fo n b x) = sg n b x * (a * fo n b x) := by grind
      rw [this, Int.mul_emod, e3, ← Int.mul_emod, Int.mul_assoc]
    have hpm : sg n b x * sg n a (fo n b x) = 1 ∨ sg n b x * sg n a (fo n b x) = -1 := by
      rcases sg_pm n b x with s | s <;> rcases sg_pm n a (fo n b x) with t | t <;> rw [s, t] <;> simp
    exact (sg_uniq odd (sg_pm _ _ _) hpm (fo_mem odd hab hx) (fo_mem odd ha (fo_mem odd hb hx)) (e1.symm.trans e4)).1
  unfold jj
  rw [pr_congr key, pr_mul, ← pr_map (sg n a) (fo n b), pr_perm (fo_perm odd hb), Int.mul_comm]
/-- Gauss: the half product -/
theorem gauss {a : Nat} (hc : Nat.gcd a n = 1) : ((a : Int) ^ (n / 2) * pr (fun x => x) (half (n / 2))) % n = (jj n a * pr (fun x => x) (half (n / 2))) % n := by
  have h1 : pr (fun x => (a : Int) * x) (half (n / 2)) % n = pr (fun x => sg n a x * (fo n a x : Nat)) (half (n / 2)) % n := pr_em fun x _ => fo_eq odd
  rw [pr_mul, pr_mul, pr_const, half_len] at h1
  rw [h1]
  unfold jj
  have : pr (fun x => ((fo n a x : Nat) : Int)) (half (n / 2)) = pr (fun x => (x : Int)) (half (n / 2)) := by
    rw [← pr_map (fun x => (x : Int)) (fo n a), pr_perm (fo_perm odd hc)]
  rw [this]
end
theorem jj_mod (n a : Nat) : jj n (a % n) = jj n a := pr_congr fun x _ => by
  unfold sg
  rw [Nat.mul_mod (a % n), Nat.mod_mod, ← Nat.mul_mod]
end NJ

set_option maxHeartbeats 1000000
/-! The sign of 2; turning about. -/
namespace NJ
def ng (k : Nat) : Int := if k % 2 = 0 then 1 else -1
theorem ng_add (a b : Nat) : ng (a + b) = ng a * ng b := by
  unfold ng
  rcases Nat.mod_two_eq_zero_or_one a with h | h <;> rcases Nat.mod_two_eq_zero_or_one b with k | k
  · rw [if_pos (by omega), if_pos h, if_pos k]; rfl
  · rw [if_neg (by omega), if_pos h, if_neg (by omega)]; rfl
  · rw [if_neg (by omega), if_neg (by omega), if_pos k]; rfl
  · rw [if_pos (by omega), if_neg (by omega), if_neg (by omega)]; rfl
theorem ng_par {a b : Nat} (h : a % 2 = b % 2) : ng a = ng b := by unfold ng; rw [h]
/-- sum over a list -/
def su (f : Nat → Nat) : List Nat → Nat
  | [] => 0
  | x :: xs => f x + su f xs
theorem su_perm {f : Nat → Nat} {l l' : List Nat} (h : l.Perm l') : su f l = su f l' := by
  induction h with
  | nil => rfl
  | cons x _ ih => simp only [su, ih]
  | swap x y l => simp only [su]; omega
  | trans _ _ a b => rw [a, b]
theorem su_map (f g : Nat → Nat) : ∀ l, su f (l.map g) = su (fun x => f (g x)) l
  | [] => rfl
  | x :: xs => by simp only [List.map_cons, su, su_map f g xs]
theorem su_add (f g : Nat → Nat) : ∀ l, su (fun x => f x + g x) l = su f l + su g l
  | [] => rfl
  | x :: xs => by simp only [su, su_add f g xs]; omega
theorem su_congr {f g : Nat → Nat} : ∀ {l : List Nat}, (∀ x ∈ l, f x = g x) → su f l = su g l
  | [], _ => rfl
  | x :: xs, h => by simp only [su]; rw [h x (by simp), su_congr fun y hy => h y (by simp [hy])]
theorem su_par {f g : Nat → Nat} : ∀ {l : List Nat}, (∀ x ∈ l, f x % 2 = g x % 2) → su f l % 2 = su g l % 2
  | [], _ => rfl
  | x :: xs, h => by
    simp only [su]
    have := h x (by simp)
    have := su_par (l := xs) fun y hy => h y (by simp [hy])
    omega
theorem su_const (c : Nat) : ∀ l : List Nat, su (fun _ => c) l = l.length * c
  | [] => by simp [su]
  | x :: xs => by simp only [su, su_const c xs, List.length_cons, Nat.succ_mul]; omega
theorem su_swap (F : Nat → Nat → Nat) : ∀ l1 l2 : List Nat, su (fun x => su (fun y => F x y) l2) l1 = su (fun y => su (fun x => F x y) l1) l2
  | [], l2 => by
    simp only [su]
    rw [su_const]; omega
  | x :: xs, l2 => by
    simp only [su]
    rw [su_swap F xs l2, ← su_add]
theorem su_append (f : Nat → Nat) : ∀ l l' : List Nat, su f (l ++ l') = su f l + su f l'
  | [], l' => by simp [su]
  | x :: xs, l' => by simp only [List.cons_append, su, su_append f xs l']; omega
theorem pr_append (f : Nat → Int) : ∀ l l' : List Nat, pr f (l ++ l') = pr f l * pr f l'
  | [], l' => by simp [pr]
  | x :: xs, l' => by simp only [List.cons_append, pr, pr_append f xs l']; grind
theorem half_succ (h : Nat) : half (h + 1) = half h ++ [h + 1] := by simp [half, List.range_succ]
theorem su_le (k : Nat) : ∀ H, su (fun y => if y ≤ k then 1 else 0) (half H) = min k H
  | 0 => by simp [half, su]
  | H + 1 => by
    rw [half_succ, su_append, su_le k H]
    simp only [su]
    split <;> omega
theorem pr_le (k : Nat) : ∀ H, pr (fun y => if y ≤ k then 1 else -1) (half H) = ng (H - min k H)
  | 0 => by simp [half, pr, ng]
  | H + 1 => by
    rw [half_succ, pr_append, pr_le k H]
    simp only [pr]
    split
    · have e : H + 1 - min k (H + 1) = H - min k H := by omega
      rw [e]; simp
    · have e : H + 1 - min k (H + 1) = (H - min k H) + 1 := by omega
      rw [e, ng_add]; simp [ng]
/-- the sign of 2 -/
theorem jj_two {n : Nat} (odd : n % 2 = 1) : jj n 2 = if n % 8 = 3 ∨ n % 8 = 5 then -1 else 1 := by
  have h1 : jj n 2 = pr (fun y => if y ≤ n / 2 / 2 then 1 else -1) (half (n / 2)) := pr_congr fun x hx => by
    obtain ⟨a, b⟩ := mem_half.mp hx
    unfold sg
    rw [Nat.mod_eq_of_lt (by omega)]
    by_cases k : 2 * x ≤ n / 2
    · rw [if_pos k, if_pos (by omega)]
    · rw [if_neg k, if_neg (by omega)]
  rw [h1, pr_le]
  unfold ng
  have e : min (n / 2 / 2) (n / 2) = n / 2 / 2 := by omega
  rw [e]
  by_cases k : n % 8 = 3 ∨ n % 8 = 5
  · rw [if_pos k, if_neg (by omega)]
  · rw [if_neg k, if_pos (by omega)]
def nq (n a x : Nat) : Nat := if a * x % n ≤ n / 2 then 0 else 1
theorem jj_ng (n a : Nat) : ∀ l, pr (sg n a) l = ng (su (nq n a) l)
  | [] => by simp [pr, su, ng]
  | x :: xs => by
    simp only [pr, su, jj_ng n a xs, ng_add]
    congr 1
    unfold sg nq ng
    split <;> simp
/-- by the floors -/
theorem jj_floor {n a : Nat} (odd : n % 2 = 1) (oa : a % 2 = 1) (hc : Nat.gcd a n = 1) : jj n a = ng (su (fun x => a * x / n) (half (n / 2))) := by
  unfold jj
  rw [jj_ng]
  refine ng_par ?_
  have h1 : su (fun x => x) (half (n / 2)) % 2 = su (fun x => (a * x / n + fo n a x) + nq n a x) (half (n / 2)) % 2 := su_par fun x hx => by
    have e := Nat.div_add_mod (a * x) n
    have h4 := Nat.mod_lt (a * x) (show n > 0 by omega)
    have p1 : a * x % 2 = x % 2 := by rw [Nat.mul_mod, oa, Nat.one_mul, Nat.mod_mod]
    have p2 : n * (a * x / n) % 2 = (a * x / n) % 2 := by rw [Nat.mul_mod, odd, Nat.one_mul, Nat.mod_mod]
    unfold fo nq
    generalize n * (a * x / n) = u at *
    generalize a * x / n = v at *
    generalize a * x % n = r at *
    split <;> omega
  rw [su_add, su_add] at h1
  have h2 : su (fo n a) (half (n / 2)) = su (fun x => x) (half (n / 2)) := by
    have := su_map (fun x => x) (fo n a) (half (n / 2))
    rw [← this, su_perm (fo_perm odd hc)]
  have h2' : su (fun x => fo n a x) (half (n / 2)) = su (fun x => x) (half (n / 2)) := h2
  have h3 : su (fun x => nq n a x) (half (n / 2)) = su (nq n a) (half (n / 2)) := rfl
  rw [h2', h3] at h1
  omega
theorem lattice {m n : Nat} (om : m % 2 = 1) (on : n % 2 = 1) (hc : Nat.gcd m n = 1) : su (fun x => m * x / n) (half (n / 2)) + su (fun y => n * y / m) (half (m / 2)) = (n / 2) * (m / 2) := by
  have key : ∀ {m n : Nat}, m % 2 = 1 → n % 2 = 1 → su (fun x => m * x / n) (half (n / 2)) = su (fun x => su (fun y => if n * y ≤ m * x then 1 else 0) (half (m / 2))) (half (n / 2)) := by
    intro m n om on
    refine su_congr fun x hx => ?_
    obtain ⟨a, b⟩ := mem_half.mp hx
    have e : su (fun y => if n * y ≤ m * x then 1 else 0) (half (m / 2)) = su (fun y => if y ≤ m * x / n then 1 else 0) (half (m / 2)) := su_congr fun y _ => by
      have : n * y ≤ m * x ↔ y ≤ m * x / n := by rw [Nat.le_div_iff_mul_le (by omega), Nat.mul_comm]
      simp only [this]
    rw [e, su_le]
    have hle : m * x / n ≤ m / 2 := by
      have : m * x < n * (m / 2 + 1) := by
        have h1 : m * x ≤ m * (n / 2) := Nat.mul_le_mul_left _ b
        obtain ⟨u, hu⟩ : ∃ u, u = m / 2 := ⟨_, rfl⟩
        obtain ⟨v, hv⟩ : ∃ v, v = n / 2 := ⟨_, rfl⟩
        have em : m = 2 * u + 1 := by omega
        have en : n = 2 * v + 1 := by omega
        rw [← hv] at h1
        rw [← hu]
        have h2 : m * v = 2 * (u * v) + v := by rw [em, Nat.add_mul, Nat.mul_assoc, Nat.one_mul]
        have h3 : n * (u + 1) = 2 * (u * v) + 2 * v + u + 1 := by rw [en, Nat.add_mul, Nat.mul_add, Nat.mul_assoc, Nat.mul_comm v u, Nat.mul_add]; omega
        omega
      have := (Nat.div_lt_iff_lt_mul (show 0 < n by omega)).mpr (by rw [Nat.mul_comm]; exact this)
      omega
    omega
  rw [key om on, key on om, su_swap (fun y x => if m * x ≤ n * y then 1 else 0) (half (m / 2)), ← su_add]
  have : su (fun x => su (fun y => if n * y ≤ m * x then 1 else 0) (half (m / 2)) + su (fun y => if m * x ≤ n * y then 1 else 0) (half (m / 2))) (half (n / 2)) = su (fun _ => m / 2) (half (n / 2)) := by
    refine su_congr fun x hx => ?_
    obtain ⟨a, b⟩ := mem_half.mp hx
    rw [← su_add]
    have : su (fun y => (if n * y ≤ m * x then 1 else 0) + (if m * x ≤ n * y then 1 else 0)) (half (m / 2)) = su (fun _ => 1) (half (m / 2)) := su_congr fun y hy => by
      have hne : n * y ≠ m * x := fun e => by
        have h1 : n ∣ m * x := ⟨y, e.symm⟩
        have h2 : n ∣ x := Nat.Coprime.dvd_of_dvd_mul_left (by rw [Nat.Coprime, Nat.gcd_comm]; exact hc) h1
        have := Nat.le_of_dvd (by omega) h2
        omega
      by_cases k : n * y ≤ m * x
      · rw [if_pos k, if_neg (by omega)]
      · rw [if_neg k, if_pos (by omega)]
    rw [this, su_const, half_len, Nat.mul_one]
  rw [this, su_const, half_len]
theorem jj_flip {m n : Nat} (om : m % 2 = 1) (on : n % 2 = 1) (hc : Nat.gcd m n = 1) : jj n m = (if m % 4 = 3 ∧ n % 4 = 3 then -1 else 1) * jj m n := by
  have h1 := jj_floor on om hc
  have h2 := jj_floor om on (by rw [Nat.gcd_comm]; exact hc)
  have h3 : jj n m * jj m n = if m % 4 = 3 ∧ n % 4 = 3 then -1 else 1 := by
    rw [h1, h2, ← ng_add, lattice om on hc]
    unfold ng
    rw [Nat.mul_mod]
    rcases Nat.mod_two_eq_zero_or_one (n / 2) with a | a <;> rcases Nat.mod_two_eq_zero_or_one (m / 2) with b | b <;> rw [a, b]
    · rw [if_pos (by rfl), if_neg (by omega)]
    · rw [if_pos (by rfl), if_neg (by omega)]
    · rw [if_pos (by rfl), if_neg (by omega)]
    · rw [if_neg (by decide), if_pos (by omega)]
  rw [← h3, Int.mul_assoc, jj_sq, Int.mul_one]
/-- the sign, 0 with a common divisor -/
def jx (a n : Nat) : Int := if Nat.gcd a n = 1 then jj n a else 0
theorem jx_cop {a n : Nat} (h : Nat.gcd a n = 1) : jx a n = jj n a := if_pos h
theorem jx_not {a n : Nat} (h : ¬ Nat.gcd a n = 1) : jx a n = 0 := if_neg h
theorem jx_mod (a n : Nat) : jx (a % n) n = jx a n := by
  have e : Nat.gcd (a % n) n = Nat.gcd a n := by rw [Nat.gcd_comm a n, Nat.gcd_rec n a]
  by_cases k : Nat.gcd a n = 1
  · rw [jx_cop k, jx_cop (e.trans k), jj_mod]
  · rw [jx_not k, jx_not (by rw [e]; exact k)]
theorem gcd_two_odd {n : Nat} (odd : n % 2 = 1) : Nat.gcd 2 n = 1 := by
  rw [Nat.gcd_rec, odd]; rfl
theorem jx_even {a n : Nat} (odd : n % 2 = 1) (ev : a % 2 = 0) : jx a n = (if n % 8 = 3 ∨ n % 8 = 5 then -1 else 1) * jx (a / 2) n := by
  have e : a = 2 * (a / 2) := by omega
  generalize a / 2 = b at *
  subst e
  have hg : Nat.gcd (2 * b) n = Nat.gcd b n := Nat.Coprime.gcd_mul_left_cancel _ (gcd_two_odd odd)
  by_cases k : Nat.gcd b n = 1
  · rw [jx_cop (hg.trans k), jx_cop k, jj_mul odd (gcd_two_odd odd) k, jj_two odd]
  · rw [jx_not k, jx_not (by rw [hg]; exact k), Int.mul_zero]
theorem jx_flip {m n : Nat} (om : m % 2 = 1) (on : n % 2 = 1) : jx m n = (if m % 4 = 3 ∧ n % 4 = 3 then -1 else 1) * jx n m := by
  have e : Nat.gcd n m = Nat.gcd m n := Nat.gcd_comm _ _
  by_cases k : Nat.gcd m n = 1
  · rw [jx_cop k, jx_cop (e.trans k)]; exact jj_flip om on k
  · rw [jx_not k, jx_not (by rw [e]; exact k), Int.mul_zero]
theorem jx_zero (n : Nat) : jx 0 n = if n = 1 then 1 else 0 := by
  have e : Nat.gcd 0 n = n := Nat.gcd_zero_left n
  by_cases k : n = 1
  · rw [jx_cop (e.trans k), if_pos k, k]; rfl
  · rw [jx_not (by rw [e]; exact k), if_neg k]
end NJ

set_option maxHeartbeats 1000000
/-! A prime divides the term of itself less the sign of the discriminant. -/
namespace NJ
open ML
def Pm (p : Nat) : Prop := 2 ≤ p ∧ ∀ d, d ∣ p → d = 1 ∨ d = p
theorem Pm.cop {p a : Nat} (h : Pm p) (hd : ¬ p ∣ a) : Nat.gcd a p = 1 := by
  rcases h.2 _ (Nat.gcd_dvd_right a p) with e | e
  · exact e
  · exact absurd (e ▸ Nat.gcd_dvd_left a p) hd
theorem Pm.mul {p a b : Nat} (h : Pm p) (hd : p ∣ a * b) : p ∣ a ∨ p ∣ b := by
  by_cases k : p ∣ a
  · exact .inl k
  · exact .inr (Nat.Coprime.dvd_of_dvd_mul_left (by rw [Nat.Coprime, Nat.gcd_comm]; exact h.cop k) hd)
theorem Pm.mulI {p : Nat} {a b : Int} (h : Pm p) (hd : (p : Int) ∣ a * b) : (p : Int) ∣ a ∨ (p : Int) ∣ b := by
  have h1 : p ∣ a.natAbs * b.natAbs := by
    have := Int.natAbs_dvd_natAbs.mpr hd
    rwa [Int.natAbs_mul, Int.natAbs_natCast] at this
  rcases h.mul h1 with k | k
  · exact .inl (Int.natAbs_dvd_natAbs.mp (by rwa [Int.natAbs_natCast]))
  · exact .inr (Int.natAbs_dvd_natAbs.mp (by rwa [Int.natAbs_natCast]))
/-! ### binomial numbers -/
def ch : Nat → Nat → Nat
  | _, 0 => 1
  | 0, _ + 1 => 0
  | n + 1, k + 1 => ch n k + ch n (k + 1)
theorem ch_zero (n : Nat) : ch n 0 = 1 := by cases n <;> rfl
theorem ch_over : ∀ n k : Nat, n < k → ch n k = 0
  | _, 0, h => absurd h (Nat.not_lt_zero _)
  | 0, k + 1, _ => rfl
  | n + 1, k + 1, h => by
    have : ch (n + 1) (k + 1) = ch n k + ch n (k + 1) := rfl
    rw [this, ch_over n k (by omega), ch_over n (k + 1) (by omega)]
theorem ch_self : ∀ n, ch n n = 1
  | 0 => rfl
  | n + 1 => by
    have : ch (n + 1) (n + 1) = ch n n + ch n (n + 1) := rfl
    rw [this, ch_self n, ch_over n (n + 1) (by omega)]
theorem ch_mul : ∀ n k : Nat, (k + 1) * ch (n + 1) (k + 1) = (n + 1) * ch n k
  | 0, 0 => rfl
  | 0, k + 1 => by
    have e : ch 1 (k + 1 + 1) = ch 0 (k + 1) + ch 0 (k + 1 + 1) := rfl
    have e2 : ch 0 (k + 1) = 0 := rfl
    have e3 : ch 0 (k + 1 + 1) = 0 := rfl
    rw [e, e2, e3]; simp
  | n + 1, 0 => by
    have e : ch (n + 1 + 1) (0 + 1) = ch (n + 1) 0 + ch (n + 1) 1 := rfl
    have ih := ch_mul n 0
    have e2 : ch (n + 1) (0 + 1) = ch (n + 1) 1 := rfl
    simp only [ch_zero, e2] at ih e ⊢
    rw [e]; omega
  | n + 1, j + 1 => by
    have e : ch (n + 1 + 1) (j + 1 + 1) = ch (n + 1) (j + 1) + ch (n + 1) (j + 1 + 1) := rfl
    have e2 : ch (n + 1) (j + 1) = ch n j + ch n (j + 1) := rfl
    have i1 := ch_mul n (j + 1)
    have i2 := ch_mul n j
    rw [e]
    generalize ch (n + 1) (j + 1) = c at *
    generalize ch (n + 1) (j + 1 + 1) = c2 at *
    generalize ch n j = x at *
    generalize ch n (j + 1) = y at *
    grind
theorem Pm.ch {p : Nat} (h : Pm p) {k : Nat} (h1 : 1 ≤ k) (h2 : k < p) : p ∣ ch p k := by
  obtain ⟨k, rfl⟩ : ∃ j, k = j + 1 := ⟨k - 1, by omega⟩
  obtain ⟨n, rfl⟩ : ∃ n, p = n + 1 := ⟨p - 1, by omega⟩
  have e := ch_mul n k
  rcases h.mul ⟨NJ.ch n k, e⟩ with d | d
  · have := Nat.le_of_dvd (by omega) d; omega
  · exact d
/-! ### sums -/
def sr (f : Nat → Int) : Nat → Int
  | 0 => 0
  | n + 1 => sr f n + f n
theorem sr_front (f : Nat → Int) : ∀ n, sr f (n + 1) = f 0 + sr (fun k => f (k + 1)) n
  | 0 => by simp [sr]
  | n + 1 => by
    have e : sr f (n + 1 + 1) = sr f (n + 1) + f (n + 1) := rfl
    have e2 : sr (fun k => f (k + 1)) (n + 1) = sr (fun k => f (k + 1)) n + f (n + 1) := rfl
    rw [e, sr_front f n, e2]; omega
theorem sr_add (f g : Nat → Int) : ∀ n, sr (fun k => f k + g k) n = sr f n + sr g n
  | 0 => rfl
  | n + 1 => by simp only [sr, sr_add f g n]; omega
theorem sr_mul (c : Int) (f : Nat → Int) : ∀ n, sr (fun k => c * f k) n = c * sr f n
  | 0 => by simp [sr]
  | n + 1 => by simp only [sr, sr_mul c f n]; grind
theorem sr_congr {f g : Nat → Int} : ∀ {n : Nat}, (∀ k, k < n → f k = g k) → sr f n = sr g n
  | 0, _ => rfl
  | n + 1, h => by simp only [sr]; rw [h n (by omega), sr_congr fun k hk => h k (by omega)]
theorem sr_dvd {m : Int} {f : Nat → Int} : ∀ {n : Nat}, (∀ k, k < n → m ∣ f k) → m ∣ sr f n
  | 0, _ => ⟨0, by simp [sr]⟩
  | n + 1, h => Int.dvd_add (sr_dvd fun k hk => h k (by omega)) (h n (by omega))
/-- (P + shift) n times -/
def S (P : Int) : Nat → (Nat → Int) → Int
  | 0, t => t 0
  | n + 1, t => P * S P n t + S P n (fun k => t (k + 1))
theorem S_bin (P : Int) : ∀ (n : Nat) (t : Nat → Int), S P n t = sr (fun k => ch n k * P ^ (n - k) * t k) (n + 1)
  | 0, t => by simp [S, sr, ch]
  | n + 1, t => by
    have e1 : S P (n + 1) t = P * S P n t + S P n (fun k => t (k + 1)) := rfl
    rw [e1, S_bin P n t, S_bin P n (fun k => t (k + 1)), sr_front _ (n + 1), sr_front _ n]
    have e2 : sr (fun k => (ch (n + 1) (k + 1) : Int) * P ^ (n + 1 - (k + 1)) * t (k + 1)) (n + 1) = sr (fun k => (ch n k : Int) * P ^ (n - k) * t (k + 1)) (n + 1) + sr (fun k => (ch n (k + 1) : Int) * P ^ (n - k) * t (k + 1)) (n + 1) := by
      rw [← sr_add]
      refine sr_congr fun k hk => ?_
      have : (ch (n + 1) (k + 1) : Int) = ch n k + ch n (k + 1) := by
        have : ch (n + 1) (k + 1) = ch n k + ch n (k + 1) := rfl
        rw [this, Int.natCast_add]
      have e3 : n + 1 - (k + 1) = n - k := by omega
      rw [this, e3]; grind
    have e4 : sr (fun k => (ch n (k + 1) : Int) * P ^ (n - k) * t (k + 1)) (n + 1) = P * sr (fun k => (ch n (k + 1) : Int) * P ^ (n - (k + 1)) * t (k + 1)) n := by
      have : sr (fun k => (ch n (k + 1) : Int) * P ^ (n - k) * t (k + 1)) (n + 1) = sr (fun k => (ch n (k + 1) : Int) * P ^ (n - k) * t (k + 1)) n + (ch n (n + 1) : Int) * P ^ (n - n) * t (n + 1) := rfl
      rw [this, ch_over n (n + 1) (by omega), ← sr_mul]
      have : sr (fun k => (ch n (k + 1) : Int) * P ^ (n - k) * t (k + 1)) n = sr (fun k => P * ((ch n (k + 1) : Int) * P ^ (n - (k + 1)) * t (k + 1))) n := sr_congr fun k hk => by
        have : n - k = n - (k + 1) + 1 := by omega
        rw [this, Int.pow_succ]; grind
      rw [this]; simp
    rw [e2, e4, ch_zero, ch_zero]
    have e5 : n + 1 - 0 = n + 1 := by omega
    have e6 : n - 0 = n := by omega
    rw [e5, e6, Int.pow_succ]
    grind
theorem dvd_em {m a b : Int} (h : m ∣ a - b) : a % m = b % m := Int.emod_eq_emod_iff_emod_sub_eq_zero.mpr (Int.emod_eq_zero_of_dvd h)
theorem em_dvd_sub {m a b : Int} (h : a % m = b % m) : m ∣ a - b := Int.dvd_of_emod_eq_zero (Int.emod_eq_emod_iff_emod_sub_eq_zero.mp h)
theorem em_mul' {m x x' y y' : Int} (h : x % m = x' % m) (k : y % m = y' % m) : (x * y) % m = (x' * y') % m := by rw [Int.mul_emod, h, k, ← Int.mul_emod]
theorem em_add' {m x x' y y' : Int} (h : x % m = x' % m) (k : y % m = y' % m) : (x + y) % m = (x' + y') % m := by rw [Int.add_emod, h, k, ← Int.add_emod]
theorem em_sub' {m x x' y y' : Int} (h : x % m = x' % m) (k : y % m = y' % m) : (x - y) % m = (x' - y') % m := by rw [Int.sub_emod, h, k, ← Int.sub_emod]
theorem em_pow' {m x x' : Int} (h : x % m = x' % m) : ∀ k : Nat, x ^ k % m = x' ^ k % m
  | 0 => by simp
  | k + 1 => by rw [Int.pow_succ, Int.pow_succ]; exact em_mul' (em_pow' h k) h
/-- at a prime only the ends stay -/
theorem S_prime {l : Nat} (h : Pm l) (P : Int) (t : Nat → Int) : S P l t % l = (P ^ l * t 0 + t l) % l := by
  obtain ⟨n, rfl⟩ : ∃ n, l = n + 1 := ⟨l - 1, by have := h.1; omega⟩
  refine dvd_em ?_
  rw [S_bin, sr_front]
  have e : sr (fun k => (ch (n + 1) (k + 1) : Int) * P ^ (n + 1 - (k + 1)) * t (k + 1)) (n + 1) = sr (fun k => (ch (n + 1) (k + 1) : Int) * P ^ (n + 1 - (k + 1)) * t (k + 1)) n + (ch (n + 1) (n + 1) : Int) * P ^ (n + 1 - (n + 1)) * t (n + 1) := rfl
  rw [e, ch_self, ch_zero]
  have e5 : n + 1 - 0 = n + 1 := by omega
  have e6 : n + 1 - (n + 1) = 0 := by omega
  rw [e5, e6]
  have hd : ((n + 1 : Nat) : Int) ∣ sr (fun k => (ch (n + 1) (k + 1) : Int) * P ^ (n + 1 - (k + 1)) * t (k + 1)) n := sr_dvd fun k hk => by
    have := Int.natCast_dvd_natCast.mpr (h.ch (k := k + 1) (by omega) (by omega))
    exact Int.dvd_mul_of_dvd_left (Int.dvd_mul_of_dvd_left this)
  generalize sr (fun k => (ch (n + 1) (k + 1) : Int) * P ^ (n + 1 - (k + 1)) * t (k + 1)) n = z at *
  have : ((1 : Nat) : Int) * P ^ (n + 1) * t 0 + (z + ((1 : Nat) : Int) * P ^ 0 * t (n + 1)) - (P ^ (n + 1) * t 0 + t (n + 1)) = z := by
    simp; omega
  rw [this]; exact hd
theorem S_one (P : Int) : ∀ n, S P n (fun _ => 1) = (P + 1) ^ n
  | 0 => by simp [S]
  | n + 1 => by
    have e : S P (n + 1) (fun _ => 1) = P * S P n (fun _ => 1) + S P n (fun _ => 1) := rfl
    rw [e, S_one P n, Int.pow_succ]; grind
theorem fermat {l : Nat} (h : Pm l) (P : Int) : P ^ l % l = P % l := by
  have step : ∀ P : Int, (P + 1) ^ l % l = (P ^ l + 1) % l := fun P => by
    have := S_prime h P (fun _ => 1)
    rw [S_one, Int.mul_one] at this; exact this
  have hl : l ≠ 0 := by have := h.1; omega
  have pos : ∀ i : Nat, (i : Int) ^ l % l = (i : Int) % l := by
    intro i
    induction i with
    | zero =>
      have : ((0 : Nat) : Int) = 0 := rfl
      rw [this, Int.zero_pow hl]
    | succ i ih =>
      have : ((i + 1 : Nat) : Int) = (i : Int) + 1 := by omega
      rw [this, step, em_add' ih rfl]
  have neg : ∀ i : Nat, (-(i : Int)) ^ l % l = (-(i : Int)) % l := by
    intro i
    induction i with
    | zero =>
      have : (-((0 : Nat) : Int)) = 0 := rfl
      rw [this, Int.zero_pow hl]
    | succ i ih =>
      have s := step (-((i + 1 : Nat) : Int))
      have e : (-((i + 1 : Nat) : Int) + 1) = -(i : Int) := by omega
      rw [e, ih] at s
      have := em_sub' s (rfl : (1 : Int) % l = 1 % l)
      rw [show (-((i + 1 : Nat) : Int)) ^ l + 1 - 1 = (-((i + 1 : Nat) : Int)) ^ l by omega] at this
      rw [← this]; congr 1; omega
  rcases Int.natAbs_eq P with h | h
  · rw [h]; exact pos _
  · rw [h]; exact neg _
/-! ### u and v at a prime -/
def tA (D : Int) (k : Nat) : Int := if k % 2 = 0 then D ^ (k / 2) else 0
def tB (D : Int) (k : Nat) : Int := if k % 2 = 1 then D ^ (k / 2) else 0
theorem tA_shift (D : Int) : (fun k => tA D (k + 1)) = fun k => D * tB D k := funext fun k => by
  unfold tA tB
  by_cases h : k % 2 = 1
  · rw [if_pos h, if_pos (by omega)]
    have : (k + 1) / 2 = k / 2 + 1 := by omega
    rw [this, Int.pow_succ, Int.mul_comm]
  · rw [if_neg h, if_neg (by omega), Int.mul_zero]
theorem tB_shift (D : Int) : (fun k => tB D (k + 1)) = fun k => tA D k := funext fun k => by
  unfold tA tB
  by_cases h : k % 2 = 0
  · rw [if_pos h, if_pos (by omega)]
    have : (k + 1) / 2 = k / 2 := by omega
    rw [this]
  · rw [if_neg h, if_neg (by omega)]
theorem S_smul (P c : Int) : ∀ (n : Nat) (t : Nat → Int), S P n (fun k => c * t k) = c * S P n t
  | 0, t => rfl
  | n + 1, t => by
    have e1 : S P (n + 1) (fun k => c * t k) = P * S P n (fun k => c * t k) + S P n (fun k => c * t (k + 1)) := rfl
    have e2 : S P (n + 1) t = P * S P n t + S P n (fun k => t (k + 1)) := rfl
    rw [e1, e2, S_smul P c n t, S_smul P c n (fun k => t (k + 1))]; grind
theorem UV_S (P Q : Int) : ∀ n, 2 ^ n * U P Q n = 2 * S P n (tB (P * P - 4 * Q)) ∧ 2 ^ n * V P Q n = 2 * S P n (tA (P * P - 4 * Q))
  | 0 => by simp [U, V, S, tA, tB]
  | n + 1 => by
    obtain ⟨h1, h2⟩ := UV_S P Q n
    have e1 : S P (n + 1) (tB (P * P - 4 * Q)) = P * S P n (tB (P * P - 4 * Q)) + S P n (fun k => tB (P * P - 4 * Q) (k + 1)) := rfl
    have e2 : S P (n + 1) (tA (P * P - 4 * Q)) = P * S P n (tA (P * P - 4 * Q)) + S P n (fun k => tA (P * P - 4 * Q) (k + 1)) := rfl
    rw [tB_shift] at e1
    rw [tA_shift, S_smul] at e2
    have e3 : S P n (fun k => tA (P * P - 4 * Q) k) = S P n (tA (P * P - 4 * Q)) := rfl
    rw [e3] at e1
    have v1 : 2 * U P Q (n + 1) = P * U P Q n + V P Q n := by rw [V_U]; omega
    have v2 : 2 * V P Q (n + 1) = P * V P Q n + (P * P - 4 * Q) * U P Q n := by
      have e : U P Q (n + 1 + 1) = P * U P Q (n + 1) - Q * U P Q n := rfl
      rw [V_U P Q (n + 1), e, V_U P Q n]; grind
    rw [e1, e2, Int.pow_succ]
    constructor
    · have : 2 ^ n * 2 * U P Q (n + 1) = P * (2 ^ n * U P Q n) + 2 ^ n * V P Q n := by
        rw [Int.mul_assoc, v1]; grind
      rw [this, h1, h2]; grind
    · have : 2 ^ n * 2 * V P Q (n + 1) = P * (2 ^ n * V P Q n) + (P * P - 4 * Q) * (2 ^ n * U P Q n) := by
        rw [Int.mul_assoc, v2]; grind
      rw [this, h1, h2]; grind
theorem cancel2 {l : Nat} (h : Pm l) (ho : l % 2 = 1) {x y : Int} (e : (2 * x) % l = (2 * y) % l) : x % l = y % l := by
  have hd := em_dvd_sub e
  rw [← Int.mul_sub] at hd
  rcases h.mulI hd with k | k
  · have : l ∣ 2 := Int.natCast_dvd_natCast.mp (by exact_mod_cast k)
    have := Nat.le_of_dvd (by omega) this
    have := h.1
    omega
  · exact dvd_em k
theorem UV_prime {l : Nat} (h : Pm l) (ho : l % 2 = 1) (P Q : Int) : U P Q l % l = ((P * P - 4 * Q) ^ (l / 2)) % l ∧ V P Q l % l = P % l := by
  obtain ⟨h1, h2⟩ := UV_S P Q l
  have f2 := fermat h 2
  have fP := fermat h P
  have s1 := S_prime h P (tB (P * P - 4 * Q))
  have s2 := S_prime h P (tA (P * P - 4 * Q))
  have b0 : tB (P * P - 4 * Q) 0 = 0 := by simp [tB]
  have bl : tB (P * P - 4 * Q) l = (P * P - 4 * Q) ^ (l / 2) := by simp [tB, ho]
  have a0 : tA (P * P - 4 * Q) 0 = 1 := by simp [tA]
  have al : tA (P * P - 4 * Q) l = 0 := by simp [tA, ho]
  rw [b0, bl, Int.mul_zero, Int.zero_add] at s1
  rw [a0, al, Int.mul_one, Int.add_zero] at s2
  constructor
  · refine cancel2 h ho ?_
    rw [← em_mul' f2 rfl, h1]; exact em_mul' rfl s1
  · refine cancel2 h ho ?_
    rw [← em_mul' f2 rfl, h2]; exact em_mul' rfl (s2.trans fP)
/-- Euler: by the half system -/
theorem euler {l : Nat} (h : Pm l) (ho : l % 2 = 1) {a : Nat} (hc : Nat.gcd a l = 1) : (a : Int) ^ (l / 2) % l = jj l a % l := by
  have g := em_dvd_sub (gauss ho hc)
  rw [← Int.sub_mul] at g
  rcases h.mulI g with k | k
  · exact dvd_em k
  · exfalso
    have : ∀ xs : List Nat, (∀ x ∈ xs, 1 ≤ x ∧ x < l) → ¬ (l : Int) ∣ pr (fun x => (x : Int)) xs := by
      intro xs
      induction xs with
      | nil =>
        intro _ hd
        have : l ∣ 1 := Int.natCast_dvd_natCast.mp (by simpa [pr] using hd)
        have := Nat.le_of_dvd (by omega) this
        have := h.1
        omega
      | cons x xs ih =>
        intro hx hd
        rcases h.mulI hd with k | k
        · have := Nat.le_of_dvd (by have := (hx x (by simp)).1; omega) (Int.natCast_dvd_natCast.mp k)
          have := (hx x (by simp)).2
          omega
        · exact ih (fun y hy => hx y (by simp [hy])) k
    exact this _ (fun x hx => by have := mem_half.mp hx; omega) k
/-- the sign of any whole number -/
def jxi (D : Int) (n : Nat) : Int := jx (D % n).toNat n
theorem emod_nat {D : Int} {n : Nat} (hn : 0 < n) : ((D % n).toNat : Int) = D % n := Int.toNat_of_nonneg (Int.emod_nonneg _ (by omega))
theorem bound_odd {l : Nat} (h : Pm l) (ho : l % 2 = 1) {P Q : Int} (hq : ¬ (l : Int) ∣ Q) {B : Nat} (hB : (B : Int) = l - jxi (P * P - 4 * Q) l) : (l : Int) ∣ U P Q B := by
  obtain ⟨u1, v1⟩ := UV_prime h ho P Q
  have l2 := h.1
  obtain ⟨a, ha⟩ : ∃ a : Nat, a = ((P * P - 4 * Q) % l).toNat := ⟨_, rfl⟩
  have ea : ((a : Int)) % l = (P * P - 4 * Q) % l := by
    rw [ha, emod_nat (by omega), Int.emod_emod_of_dvd _ (Int.dvd_refl _)]
  unfold jxi at hB
  rw [← ha] at hB
  have e1 : U P Q l % l = (a : Int) ^ (l / 2) % l := by rw [u1]; exact (em_pow' ea _).symm
  by_cases hc : Nat.gcd a l = 1
  · rw [jx_cop hc] at hB
    rw [euler h ho hc] at e1
    obtain ⟨m, rfl⟩ : ∃ m, l = m + 1 := ⟨l - 1, by omega⟩
    rcases jj_pm (m + 1) a with j | j <;> rw [j] at hB e1
    · have hBm : B = m := by omega
      subst hBm
      have key : (2 * Q * U P Q B) % (B + 1 : Nat) = 0 % (B + 1 : Nat) := by
        have : 2 * Q * U P Q B = P * U P Q (B + 1) - V P Q (B + 1) := by
          have e : U P Q (B + 1 + 1) = P * U P Q (B + 1) - Q * U P Q B := rfl
          rw [V_U, e]; grind
        rw [this, em_sub' (em_mul' rfl e1) v1]; congr 1; omega
      have hd := em_dvd_sub key
      rw [Int.sub_zero] at hd
      rcases h.mulI hd with k | k
      · rcases h.mulI k with k | k
        · have := Nat.le_of_dvd (by omega) (Int.natCast_dvd_natCast.mp (show ((B + 1 : Nat) : Int) ∣ ((2 : Nat) : Int) by exact_mod_cast k))
          omega
        · exact absurd k hq
      · exact k
    · have hBm : B = m + 1 + 1 := by omega
      subst hBm
      have key : (2 * U P Q (m + 1 + 1)) % (m + 1 : Nat) = (2 * 0) % (m + 1 : Nat) := by
        have : 2 * U P Q (m + 1 + 1) = P * U P Q (m + 1) + V P Q (m + 1) := by rw [V_U]; omega
        rw [this, em_add' (em_mul' rfl e1) v1]; congr 1; omega
      exact Int.dvd_of_emod_eq_zero (by rw [cancel2 h ho key]; simp)
  · rw [jx_not hc] at hB
    have hBm : B = l := by omega
    subst hBm
    have hd : B ∣ a := by
      refine Classical.byContradiction fun k => hc (h.cop k)
    have hp : (a : Int) ^ (B / 2) % B = 0 := by
      have h1 : 1 ≤ B / 2 := by omega
      obtain ⟨k, hk⟩ : ∃ k, B / 2 = k + 1 := ⟨B / 2 - 1, by omega⟩
      rw [hk, Int.pow_succ]
      exact Int.emod_eq_zero_of_dvd (Int.dvd_mul_of_dvd_right (Int.natCast_dvd_natCast.mpr hd))
    exact Int.dvd_of_emod_eq_zero (by rw [e1, hp])
end NJ

set_option maxHeartbeats 1000000
/-! First places. -/
namespace NJ
open ML
def Rk (P Q : Int) (m r : Nat) : Prop := 1 ≤ r ∧ ∀ n, (m : Int) ∣ U P Q n ↔ r ∣ n
theorem Rk.uniq {P Q : Int} {m r r' : Nat} (h : Rk P Q m r) (h' : Rk P Q m r') : r = r' :=
  Nat.dvd_antisymm ((h.2 r').mp ((h'.2 r').mpr (Nat.dvd_refl _))) ((h'.2 r).mp ((h.2 r).mpr (Nat.dvd_refl _)))
theorem Rk.self {P Q : Int} {m r : Nat} (h : Rk P Q m r) : (m : Int) ∣ U P Q r := (h.2 r).mpr (Nat.dvd_refl _)
theorem dvd_one_of {d : Nat} (h : (d : Int) ∣ 1) : d = 1 := Nat.dvd_one.mp (by exact_mod_cast h)
section
variable {P Q : Int} {m : Nat} (hc : Int.gcd m Q = 1)
include hc
theorem unit_next {r : Nat} (h : (m : Int) ∣ U P Q r) : Int.gcd m (U P Q (r + 1)) = 1 := gcd_one_of fun d h1 h2 => by
  have hd : Int.gcd d Q = 1 := gcd_one_of fun k k1 k2 => by
    have := Int.dvd_gcd (Int.dvd_trans k1 h1) k2
    rw [hc] at this
    exact dvd_one_of (by exact_mod_cast this)
  have e := cassini P Q r
  have h3 : (d : Int) ∣ Q ^ r * 1 := by
    rw [Int.mul_one, ← e]
    exact Int.dvd_sub (Int.dvd_mul_of_dvd_right h2) (Int.dvd_mul_of_dvd_left (Int.dvd_trans h1 h))
  exact dvd_one_of (cop_pow_dvd hd r h3)
theorem dvd_shift {r : Nat} (h : (m : Int) ∣ U P Q r) (n : Nat) : (m : Int) ∣ U P Q (n + r) ↔ (m : Int) ∣ U P Q n := by
  cases n with
  | zero => rw [Nat.zero_add, U_zero]; exact ⟨fun _ => ⟨0, by simp⟩, fun _ => h⟩
  | succ n =>
    rw [U_add]
    have hx : (m : Int) ∣ Q * U P Q n * U P Q r := Int.dvd_mul_of_dvd_right h
    constructor
    · intro k
      have h3 : (m : Int) ∣ U P Q (n + 1) * U P Q (r + 1) := (Int.dvd_iff_dvd_of_dvd_sub k).mpr hx
      exact cop_dvd (unit_next hc h) (by rw [Int.mul_comm]; exact h3)
    · intro k
      exact Int.dvd_sub (Int.dvd_mul_of_dvd_left k) hx
theorem rk_of : ∀ k : Nat, 1 ≤ k → (m : Int) ∣ U P Q k → ∃ r, Rk P Q m r ∧ r ∣ k := by
  have least : ∀ k : Nat, 1 ≤ k → (m : Int) ∣ U P Q k → ∃ r, 1 ≤ r ∧ (m : Int) ∣ U P Q r ∧ ∀ j, 1 ≤ j → j < r → ¬ (m : Int) ∣ U P Q j := by
    intro k
    induction k using Nat.strongRecOn with
    | ind k ih =>
      intro h1 h2
      by_cases hx : ∃ j, 1 ≤ j ∧ j < k ∧ (m : Int) ∣ U P Q j
      · obtain ⟨j, a, b, c⟩ := hx
        exact ih j b a c
      · exact ⟨k, h1, h2, fun j a b c => hx ⟨j, a, b, c⟩⟩
  intro k h1 h2
  obtain ⟨r, r1, r2, r3⟩ := least k h1 h2
  have key : ∀ n, (m : Int) ∣ U P Q n ↔ r ∣ n := by
    intro n
    induction n using Nat.strongRecOn with
    | ind n ih =>
      by_cases hn : n < r
      · constructor
        · intro hd
          rcases Nat.eq_zero_or_pos n with e | e
          · rw [e]; exact Nat.dvd_zero r
          · exact absurd hd (r3 n e hn)
        · intro hd
          rcases Nat.eq_zero_or_pos n with e | e
          · rw [e, U_zero]; exact ⟨0, by simp⟩
          · have := Nat.le_of_dvd e hd; omega
      · have e : n = (n - r) + r := by omega
        have i := ih (n - r) (by omega)
        have s := dvd_shift hc r2 (n - r)
        rw [← e] at s
        rw [s, i]
        exact (Nat.dvd_sub_iff_left (by omega) (Nat.dvd_refl r)).trans Iff.rfl
  exact ⟨r, ⟨r1, key⟩, (key k).mp h2⟩
end
/-- a prime that divides a number from 2 -/
theorem has_prime : ∀ n : Nat, 2 ≤ n → ∃ l, Pm l ∧ l ∣ n := by
  intro n
  induction n using Nat.strongRecOn with
  | ind n ih =>
    intro h
    by_cases hp : ∃ d, d ∣ n ∧ d ≠ 1 ∧ d ≠ n
    · obtain ⟨d, h1, h2, h3⟩ := hp
      have hd0 : d ≠ 0 := fun e => by rw [e] at h1; have := Nat.eq_zero_of_zero_dvd h1; omega
      have hle := Nat.le_of_dvd (by omega) h1
      obtain ⟨l, a, b⟩ := ih d (by omega) (by omega)
      exact ⟨l, a, Nat.dvd_trans b h1⟩
    · exact ⟨n, ⟨h, fun d hd => by
        by_cases e : d = 1
        · exact .inl e
        · by_cases e2 : d = n
          · exact .inr e2
          · exact absurd ⟨d, hd, e, e2⟩ hp⟩, Nat.dvd_refl n⟩
/-- what cannot be made less is the first place -/
theorem rk_least {P Q : Int} {m r f : Nat} (h : Rk P Q m r) (f1 : 1 ≤ f) (hf : (m : Int) ∣ U P Q f) (hl : ∀ l, Pm l → l ∣ f → ¬ (m : Int) ∣ U P Q (f / l)) : f = r := by
  obtain ⟨c, hc⟩ := (h.2 f).mp hf
  by_cases c1 : c = 1
  · rw [hc, c1, Nat.mul_one]
  · exfalso
    have c0 : c ≠ 0 := fun e => by rw [e] at hc; omega
    obtain ⟨l, hl1, d, hd⟩ := has_prime c (by omega)
    have l0 : 0 < l := by have := hl1.1; omega
    refine hl l hl1 ⟨r * d, by rw [hc, hd]; rw [Nat.mul_left_comm]⟩ ?_
    have : f / l = r * d := by
      rw [hc, hd, Nat.mul_left_comm, Nat.mul_div_cancel_left _ l0]
    rw [this]
    exact (h.2 _).mpr (Nat.dvd_mul_right r d)
/-- a lesser modulus -/
theorem Rk.dvd {P Q : Int} {m m' r r' : Nat} (h : Rk P Q m r) (h' : Rk P Q m' r') (hd : m ∣ m') : r ∣ r' :=
  (h.2 r').mp (Int.dvd_trans (Int.natCast_dvd_natCast.mpr hd) h'.self)
/-- two moduli prime to one another -/
theorem Rk.mul {P Q : Int} {m m' r r' : Nat} (h : Rk P Q m r) (h' : Rk P Q m' r') (hc : Nat.gcd m m' = 1) : Rk P Q (m * m') (Nat.lcm r r') := by
  refine ⟨Nat.lcm_pos h.1 h'.1, fun n => ?_⟩
  have e : ((m * m' : Nat) : Int) ∣ U P Q n ↔ (m : Int) ∣ U P Q n ∧ (m' : Int) ∣ U P Q n := by
    have c : ∀ x : Nat, (x : Int) ∣ U P Q n ↔ x ∣ (U P Q n).natAbs := fun x => by
      constructor
      · intro k; have := Int.natAbs_dvd_natAbs.mpr k; rwa [Int.natAbs_natCast] at this
      · intro k; exact Int.natAbs_dvd_natAbs.mp (by rwa [Int.natAbs_natCast])
    rw [c, c, c]
    constructor
    · intro k; exact ⟨Nat.dvd_trans (Nat.dvd_mul_right m m') k, Nat.dvd_trans (Nat.dvd_mul_left m' m) k⟩
    · rintro ⟨a, b⟩; exact Nat.Coprime.mul_dvd_of_dvd_of_dvd hc a b
  rw [e, h.2, h'.2]
  constructor
  · rintro ⟨a, b⟩; exact Nat.lcm_dvd a b
  · intro k; exact ⟨Nat.dvd_trans (Nat.dvd_lcm_left r r') k, Nat.dvd_trans (Nat.dvd_lcm_right r r') k⟩
/-! ### how often a prime divides -/
/-- the quotient of term k g over term g -/
def qc (P Q : Int) (g : Nat) : Nat → Int
  | 0 => 0
  | k + 1 => U P Q (k * g + 1) + (U P Q (g + 1) - P * U P Q g) * qc P Q g k
theorem U_add2 (P Q : Int) (i : Nat) : ∀ j, U P Q (i + j) = U P Q (i + 1) * U P Q j + U P Q i * (U P Q (j + 1) - P * U P Q j)
  | 0 => by simp [U]
  | j + 1 => by
    have e : i + (j + 1) = i + 1 + j := by omega
    have e2 : U P Q (j + 1 + 1) = P * U P Q (j + 1) - Q * U P Q j := rfl
    rw [e, U_add, e2]; grind
theorem U_qc (P Q : Int) (g : Nat) : ∀ k, U P Q (k * g) = U P Q g * qc P Q g k
  | 0 => by simp [U, qc]
  | k + 1 => by
    rw [Nat.succ_mul, U_add2, U_qc P Q g k]
    simp only [qc]; grind
section
variable {P Q : Int} {l : Nat} (h : Pm l) (hq : ¬ (l : Int) ∣ Q) {g : Nat} (hg : (l : Int) ∣ U P Q g)
include h hq
theorem Pm.copQ (k : Nat) : Int.gcd ((l ^ k : Nat) : Int) Q = 1 := by
  have h1 : Nat.gcd l Q.natAbs = 1 := by
    rw [Nat.gcd_comm]
    refine h.cop fun d => hq ?_
    exact Int.natAbs_dvd_natAbs.mp (by rwa [Int.natAbs_natCast])
  show Nat.gcd (l ^ k) Q.natAbs = 1
  exact Nat.Coprime.pow_left k h1
theorem Pm.copQ1 : Int.gcd (l : Int) Q = 1 := by
  have := Pm.copQ h hq 1
  rwa [Nat.pow_one] at this
include hg
theorem w_unit : ¬ (l : Int) ∣ (U P Q (g + 1) - P * U P Q g) := fun hd => by
  have h1 : (l : Int) ∣ U P Q (g + 1) := (Int.dvd_iff_dvd_of_dvd_sub hd).mpr (Int.dvd_mul_of_dvd_right hg)
  have h2 := unit_next (Pm.copQ1 h hq) hg
  have h3 : (l : Int) ∣ (Int.gcd l (U P Q (g + 1)) : Int) := Int.dvd_coe_gcd (Int.dvd_refl _) h1
  rw [h2] at h3
  have := dvd_one_of h3
  have := h.1
  omega
/-- the quotient at the prime: once -/
theorem qc_odd (ho : l % 2 = 1) : (l : Int) ∣ qc P Q g l ∧ ¬ ((l ^ 2 : Nat) : Int) ∣ qc P Q g l := by
  obtain ⟨w, hw⟩ : ∃ w, w = U P Q (g + 1) - P * U P Q g := ⟨_, rfl⟩
  obtain ⟨M, hM⟩ : ∃ M : Int, M = (l : Int) * l := ⟨_, rfl⟩
  obtain ⟨z, hz⟩ := hg
  obtain ⟨y, hy⟩ : ∃ y, y = P * U P Q g := ⟨_, rfl⟩
  have hwl := w_unit h hq ⟨z, hz⟩
  rw [← hw] at hwl
  have ew : U P Q (g + 1) = w + y := by rw [hw, hy]; omega
  -- b k: U (k g + 1), mod l l
  have hb : ∀ k, (w * U P Q (k * g + 1)) % M = (w ^ k * (w + k * y)) % M := by
    intro k
    induction k with
    | zero => simp [U]
    | succ k ih =>
      have e : U P Q ((k + 1) * g + 1) = U P Q (k * g + 1) * (w + y) - Q * U P Q (k * g) * U P Q g := by
        have : (k + 1) * g + 1 = g + 1 + k * g := by rw [Nat.succ_mul]; omega
        rw [this, U_add, ew]; grind
      have e2 : (w * U P Q ((k + 1) * g + 1)) % M = ((w * U P Q (k * g + 1)) * (w + y)) % M := by
        refine dvd_em ?_
        rw [e, U_qc, hz, hM]
        exact ⟨-(w * Q * z * z * qc P Q g k), by grind⟩
      rw [e2, em_mul' ih rfl]
      refine dvd_em ?_
      have y2 : y = l * (P * z) := by rw [hy, hz]; grind
      rw [hM]
      refine ⟨w ^ k * k * (P * z) * (P * z), ?_⟩
      rw [Int.pow_succ, y2]
      have : ((k + 1 : Nat) : Int) = k + 1 := by omega
      rw [this]; grind
  have hcq : ∀ k : Nat, (2 * w * w * qc P Q g k) % M = (w ^ k * (2 * k * w + k * (k - 1) * y)) % M := by
    intro k
    induction k with
    | zero => simp [qc]
    | succ k ih =>
      have e : 2 * w * w * qc P Q g (k + 1) = 2 * w * (w * U P Q (k * g + 1)) + w * (2 * w * w * qc P Q g k) := by
        simp only [qc]; rw [← hw]; grind
      rw [e, em_add' (em_mul' rfl (hb k)) (em_mul' rfl ih)]
      congr 1
      have : ((k + 1 : Nat) : Int) = k + 1 := by omega
      rw [Int.pow_succ, this]; grind
  have key := hcq l
  have y2 : y = l * (P * z) := by rw [hy, hz]; grind
  have key2 : (2 * w * w * qc P Q g l) % M = (2 * l * w ^ (l + 1)) % M := by
    rw [key]
    refine dvd_em ⟨w ^ l * (l - 1) * (P * z), ?_⟩
    rw [Int.pow_succ, y2, hM]; grind
  have hd := em_dvd_sub key2
  have hlM : (l : Int) ∣ M := ⟨l, hM⟩
  have l2 : ¬ (l : Int) ∣ 2 := fun k => by
    have := Nat.le_of_dvd (by omega) (Int.natCast_dvd_natCast.mp (show (l : Int) ∣ ((2 : Nat) : Int) by exact_mod_cast k))
    have := h.1
    omega
  have npw : ∀ k : Nat, ¬ (l : Int) ∣ w ^ k := by
    intro k
    induction k with
    | zero => intro d; rw [Int.pow_zero] at d; have := dvd_one_of d; have := h.1; omega
    | succ k ih =>
      intro d
      rw [Int.pow_succ] at d
      rcases h.mulI d with a | a
      · exact ih a
      · exact hwl a
  have e2 : ((l ^ 2 : Nat) : Int) = M := by rw [hM, Int.natCast_pow, Int.pow_succ, Int.pow_succ, Int.pow_zero, Int.one_mul]
  constructor
  · have d1 : (l : Int) ∣ 2 * w * w * qc P Q g l := by
      have a := Int.dvd_trans hlM hd
      exact (Int.dvd_iff_dvd_of_dvd_sub a).mpr ⟨2 * w ^ (l + 1), by grind⟩
    rcases h.mulI d1 with a | a
    · rcases h.mulI a with a | a
      · rcases h.mulI a with a | a
        · exact absurd a l2
        · exact absurd a hwl
      · exact absurd a hwl
    · exact a
  · rw [e2]
    intro d
    have d1 : M ∣ 2 * l * w ^ (l + 1) := (Int.dvd_iff_dvd_of_dvd_sub hd).mp (Int.dvd_mul_of_dvd_right d)
    obtain ⟨c, hc⟩ := d1
    have l0 : (l : Int) ≠ 0 := by have := h.1; omega
    have : 2 * w ^ (l + 1) = l * c := by
      refine Int.eq_of_mul_eq_mul_left l0 ?_
      rw [hM] at hc
      grind
    rcases h.mulI (⟨c, this⟩ : (l : Int) ∣ 2 * w ^ (l + 1)) with a | a
    · exact l2 a
    · exact npw _ a
end
theorem qc_two {P Q : Int} (hq : ¬ (2 : Int) ∣ Q) {g : Nat} (hg : (4 : Int) ∣ U P Q g) : (2 : Int) ∣ qc P Q g 2 ∧ ¬ (4 : Int) ∣ qc P Q g 2 := by
  have hp : Pm 2 := ⟨by omega, fun d hd => by have := Nat.le_of_dvd (by omega) hd; have : d ≠ 0 := fun e => by (rw [e] at hd; have := Nat.eq_zero_of_zero_dvd hd; omega)
                                              omega⟩
  have hw := w_unit (P := P) (Q := Q) hp (by exact_mod_cast hq) (g := g) (by exact_mod_cast (Int.dvd_trans (by decide : (2 : Int) ∣ 4) hg))
  obtain ⟨z, hz⟩ := hg
  have e : qc P Q g 2 = 2 * (U P Q (g + 1) - P * U P Q g) + P * U P Q g := by
    have : qc P Q g 2 = U P Q (1 * g + 1) + (U P Q (g + 1) - P * U P Q g) * (U P Q (0 * g + 1) + (U P Q (g + 1) - P * U P Q g) * 0) := rfl
    rw [this]
    have e1 : 1 * g + 1 = g + 1 := by omega
    have e2 : 0 * g + 1 = 1 := by omega
    rw [e1, e2, U_one]; grind
  have hw' : ¬ (2 : Int) ∣ (U P Q (g + 1) - P * U P Q g) := by exact_mod_cast hw
  generalize U P Q (g + 1) - P * U P Q g = w at *
  have e3 : P * U P Q g = 4 * (P * z) := by rw [hz]; grind
  rw [e3] at e
  generalize P * z = y at *
  rw [e]
  constructor <;> omega
end NJ

set_option maxHeartbeats 1000000
/-! First places of powers of primes, of any number. -/
namespace NJ
open ML
theorem pm_two : Pm 2 := ⟨by omega, fun d hd => by
  have := Nat.le_of_dvd (by omega) hd
  have : d ≠ 0 := fun e => by
    rw [e] at hd; have := Nat.eq_zero_of_zero_dvd hd; omega
  omega⟩
theorem pm_odd {l : Nat} (h : Pm l) (h2 : l ≠ 2) : l % 2 = 1 := by
  rcases Nat.mod_two_eq_zero_or_one l with k | k
  · rcases h.2 2 (Nat.dvd_of_mod_eq_zero k) with a | a
    · omega
    · exact absurd a.symm h2
  · exact k
/-- just so often -/
def Ex (P Q : Int) (l e g : Nat) : Prop := ((l ^ e : Nat) : Int) ∣ U P Q g ∧ ¬ ((l ^ (e + 1) : Nat) : Int) ∣ U P Q g
/-- the least power that is asked of -/
def b0 (l : Nat) : Nat := if l = 2 then 2 else 1
theorem b0_pos (l : Nat) : 1 ≤ b0 l := by unfold b0; split <;> omega
section
variable {P Q : Int} {l : Nat} (h : Pm l) (hq : ¬ (l : Int) ∣ Q) {g : Nat}
include h
theorem exact_mul {e : Nat} {x c : Int} (hx : ((l ^ e : Nat) : Int) ∣ x) (hx' : ¬ ((l ^ (e + 1) : Nat) : Int) ∣ x) (hc : (l : Int) ∣ c) (hc' : ¬ ((l ^ 2 : Nat) : Int) ∣ c) : ((l ^ (e + 1) : Nat) : Int) ∣ x * c ∧ ¬ ((l ^ (e + 1 + 1) : Nat) : Int) ∣ x * c := by
  obtain ⟨u, rfl⟩ := hx
  obtain ⟨v, rfl⟩ := hc
  have l0 : (l : Int) ≠ 0 := by have := h.1; omega
  have p0 : ((l ^ e : Nat) : Int) ≠ 0 := by rw [Int.natCast_pow]; exact Int.pow_ne_zero l0
  have e1 : ((l ^ (e + 1) : Nat) : Int) = ((l ^ e : Nat) : Int) * l := by rw [Nat.pow_succ, Int.natCast_mul]
  have e2 : ((l ^ (e + 1 + 1) : Nat) : Int) = ((l ^ e : Nat) : Int) * l * l := by rw [Nat.pow_succ, Nat.pow_succ, Int.natCast_mul, Int.natCast_mul]
  have e3 : ((l ^ 2 : Nat) : Int) = (l : Int) * l := by rw [Nat.pow_succ, Nat.pow_one, Int.natCast_mul]
  rw [e1] at hx'
  rw [e3] at hc'
  have nu : ¬ (l : Int) ∣ u := fun ⟨k, hk⟩ => hx' ⟨k, by rw [hk, Int.mul_assoc]⟩
  have nv : ¬ (l : Int) ∣ v := fun ⟨k, hk⟩ => hc' ⟨k, by rw [hk, Int.mul_assoc]⟩
  constructor
  · rw [e1]; exact ⟨u * v, by grind⟩
  · rw [e2]
    rintro ⟨k, hk⟩
    have : u * v = l * k := by
      refine Int.eq_of_mul_eq_mul_left p0 (Int.eq_of_mul_eq_mul_left l0 ?_)
      grind
    rcases h.mulI ⟨k, this⟩ with a | a
    · exact nu a
    · exact nv a
include hq
theorem ex_up {e : Nat} (he : b0 l ≤ e) (hx : Ex P Q l e g) : Ex P Q l (e + 1) (l * g) := by
  unfold Ex at *
  rw [U_qc]
  have hl : (l : Int) ∣ U P Q g := by
    have : l ∣ l ^ e := by
      have := b0_pos l
      obtain ⟨k, rfl⟩ : ∃ k, e = k + 1 := ⟨e - 1, by omega⟩
      rw [Nat.pow_succ]; exact Nat.dvd_mul_left _ _
    exact Int.dvd_trans (Int.natCast_dvd_natCast.mpr this) hx.1
  by_cases h2 : l = 2
  · subst h2
    have h4 : (4 : Int) ∣ U P Q g := by
      have : 2 ^ 2 ∣ 2 ^ e := Nat.pow_dvd_pow 2 (by simpa [b0] using he)
      exact Int.dvd_trans (show (4 : Int) ∣ ((2 ^ e : Nat) : Int) from by exact_mod_cast Int.natCast_dvd_natCast.mpr this) hx.1
    obtain ⟨a, b⟩ := qc_two (P := P) (Q := Q) (by exact_mod_cast hq) h4
    exact exact_mul h hx.1 hx.2 (by exact_mod_cast a) (by exact_mod_cast b)
  · obtain ⟨a, b⟩ := qc_odd h hq hl (pm_odd h h2)
    exact exact_mul h hx.1 hx.2 a b
theorem rk_up {e : Nat} (he : b0 l ≤ e) (hx : Ex P Q l e g) (hr : Rk P Q (l ^ e) g) : Rk P Q (l ^ (e + 1)) (l * g) := by
  have hup := ex_up h hq he hx
  have l1 := h.1
  have lg : 1 ≤ l * g := Nat.mul_pos (by omega) hr.1
  obtain ⟨r, hr', hd⟩ := rk_of (P := P) (Pm.copQ h hq (e + 1)) (l * g) lg hup.1
  obtain ⟨c, hc⟩ := hr.dvd hr' (Nat.pow_dvd_pow l (by omega))
  have g0 : 0 < g := hr.1
  have hcl : c ∣ l := by
    rw [hc, Nat.mul_comm l g] at hd
    exact Nat.dvd_of_mul_dvd_mul_left g0 hd
  rcases h.2 c hcl with e1 | e1
  · rw [e1, Nat.mul_one] at hc
    subst hc
    exact absurd hr'.self hx.2
  · rw [e1, Nat.mul_comm] at hc
    rw [← hc]; exact hr'
theorem rk_same {b k : Nat} (hb : b ≤ k) (hr : Rk P Q (l ^ b) g) (hd : ((l ^ k : Nat) : Int) ∣ U P Q g) : Rk P Q (l ^ k) g := by
  refine ⟨hr.1, fun n => ⟨fun hn => ?_, ?_⟩⟩
  · exact (hr.2 n).mp (Int.dvd_trans (Int.natCast_dvd_natCast.mpr (Nat.pow_dvd_pow l hb)) hn)
  · rintro ⟨c, rfl⟩
    rw [Nat.mul_comm, U_qc]
    exact Int.dvd_mul_of_dvd_left hd
theorem rk_power_zero (hr : Rk P Q (l ^ b0 l) g) (hz : U P Q g = 0) {k : Nat} (hk : b0 l ≤ k) : Rk P Q (l ^ k) g := rk_same h hq hk hr (by rw [hz]; exact ⟨0, by simp⟩)
theorem rk_power {e : Nat} (hr : Rk P Q (l ^ b0 l) g) (he : b0 l ≤ e) (hx : Ex P Q l e g) {k : Nat} (hk : b0 l ≤ k) : Rk P Q (l ^ k) (g * l ^ (k - e)) := by
  by_cases hke : k ≤ e
  · have : k - e = 0 := by omega
    rw [this, Nat.pow_zero, Nat.mul_one]
    exact rk_same h hq hk hr (Int.dvd_trans (Int.natCast_dvd_natCast.mpr (Nat.pow_dvd_pow l hke)) hx.1)
  · have key : ∀ j, Rk P Q (l ^ (e + j)) (g * l ^ j) ∧ Ex P Q l (e + j) (g * l ^ j) := by
      intro j
      induction j with
      | zero =>
        rw [Nat.add_zero, Nat.pow_zero, Nat.mul_one]
        exact ⟨rk_same h hq he hr hx.1, hx⟩
      | succ j ih =>
        have e1 : g * l ^ (j + 1) = l * (g * l ^ j) := by rw [Nat.pow_succ, Nat.mul_comm (l ^ j) l, Nat.mul_left_comm]
        rw [e1]
        exact ⟨rk_up h hq (e := e + j) (by omega) ih.2 ih.1, ex_up h hq (e := e + j) (by omega) ih.2⟩
    have := (key (k - e)).1
    have e2 : e + (k - e) = k := by omega
    rwa [e2] at this
end
/-- the bound of a prime's first place -/
def bnd (P Q : Int) (l : Nat) : Nat := if l = 2 then (if P % 2 = 0 then 2 else 3) else ((l : Int) - jxi (P * P - 4 * Q) l).toNat
theorem jx_range (a n : Nat) : jx a n = 0 ∨ jx a n = 1 ∨ jx a n = -1 := by
  by_cases h : Nat.gcd a n = 1
  · rw [jx_cop h]; exact .inr (jj_pm n a)
  · exact .inl (jx_not h)
theorem bnd_ok {P Q : Int} {l : Nat} (h : Pm l) (hq : ¬ (l : Int) ∣ Q) : (l : Int) ∣ U P Q (bnd P Q l) ∧ 1 ≤ bnd P Q l ∧ bnd P Q l ≤ l + 1 := by
  unfold bnd
  by_cases h2 : l = 2
  · subst h2
    rw [if_pos rfl]
    split
    · refine ⟨?_, by omega, by omega⟩
      have : U P Q 2 = P := by simp [U]
      rw [this]; exact Int.dvd_of_emod_eq_zero (by exact_mod_cast (by assumption))
    · refine ⟨?_, by omega, by omega⟩
      have e : U P Q 3 = P * P - Q := by simp [U]
      have hq' : Q % 2 = 1 := by
        have : ¬ (2 : Int) ∣ Q := by exact_mod_cast hq
        omega
      have hp' : P % 2 = 1 := by omega
      rw [e]
      refine Int.dvd_of_emod_eq_zero ?_
      show (P * P - Q) % 2 = 0
      rw [Int.sub_emod, Int.mul_emod, hp', hq']; rfl
  · rw [if_neg h2]
    have hr := jx_range ((P * P - 4 * Q) % l).toNat l
    have l2 := h.1
    have hB : (((l : Int) - jxi (P * P - 4 * Q) l).toNat : Int) = l - jxi (P * P - 4 * Q) l := by
      refine Int.toNat_of_nonneg ?_
      unfold jxi
      rcases hr with r | r | r <;> rw [r] <;> omega
    refine ⟨bound_odd h (pm_odd h h2) hq hB, ?_, ?_⟩
    · unfold jxi at *
      rcases hr with r | r | r <;> rw [r] at hB ⊢ <;> omega
    · unfold jxi at *
      rcases hr with r | r | r <;> rw [r] at hB ⊢ <;> omega
/-- twice the first place of 2 is one of 4 -/
theorem four_of_two {P Q : Int} {r : Nat} (h : (2 : Int) ∣ U P Q r) : (4 : Int) ∣ U P Q (2 * r) := by
  have : 2 * r = r + r := by omega
  rw [this, U_double, V_U]
  obtain ⟨z, hz⟩ := h
  rw [hz]
  exact ⟨z * (U P Q (r + 1) - P * z), by grind⟩
theorem pm_cop_four {Q : Int} (hq : ¬ (2 : Int) ∣ Q) : Int.gcd (4 : Nat) Q = 1 := by
  have := Pm.copQ (l := 2) pm_two (by exact_mod_cast hq) 2
  exact this
/-! ### the primes of a number -/
def ppow (x : Nat × Nat) : Nat := x.1 ^ x.2
def prodL : List (Nat × Nat) → Nat
  | [] => 1
  | x :: xs => ppow x * prodL xs
/-- primes, ascending, each so often -/
structure PF (n : Nat) (xs : List (Nat × Nat)) : Prop where
  pm : ∀ x ∈ xs, Pm x.1 ∧ 1 ≤ x.2
  asc : xs.Pairwise fun x y => x.1 < y.1
  prod : prodL xs = n
theorem Pm.dvd_prod {l : Nat} (h : Pm l) : ∀ {xs : List (Nat × Nat)}, (∀ x ∈ xs, Pm x.1) → l ∣ prodL xs → ∃ x ∈ xs, x.1 = l
  | [], _, hd => by
    have := Nat.le_of_dvd (by simp [prodL]) hd
    have := h.1
    simp [prodL] at *
    omega
  | x :: xs, hp, hd => by
    rcases h.mul hd with k | k
    · have : ∀ e : Nat, l ∣ x.1 ^ e → l ∣ x.1 := by
        intro e
        induction e with
        | zero => intro d; have := Nat.le_of_dvd (by simp) d; have := h.1; simp at *; omega
        | succ e ih =>
          intro d
          rw [Nat.pow_succ] at d
          rcases h.mul d with a | a
          · exact ih a
          · exact a
      have hx := hp x (by simp)
      rcases hx.2 l (this _ k) with e | e
      · have := h.1; omega
      · exact ⟨x, by simp, e.symm⟩
    · obtain ⟨y, hy, e⟩ := Pm.dvd_prod h (fun y hy => hp y (by simp [hy])) k
      exact ⟨y, by simp [hy], e⟩
theorem cop_prod {x : Nat × Nat} {xs : List (Nat × Nat)} (hx : Pm x.1) (hp : ∀ y ∈ xs, Pm y.1) (hne : ∀ y ∈ xs, y.1 ≠ x.1) : Nat.gcd (ppow x) (prodL xs) = 1 := by
  refine Nat.Coprime.pow_left x.2 ?_
  show Nat.gcd x.1 (prodL xs) = 1
  rw [Nat.gcd_comm]
  refine hx.cop fun d => ?_
  obtain ⟨y, hy, e⟩ := Pm.dvd_prod hx hp d
  exact hne y hy e
/-- the first place is the least common multiple -/
theorem rk_fold {P Q : Int} {rk : Nat × Nat → Nat} : ∀ {xs ys : List (Nat × Nat)} {r0 : Nat}, (∀ x ∈ ys ++ xs, Pm x.1) → (ys ++ xs).Pairwise (fun x y => x.1 < y.1) → (∀ x ∈ xs, Rk P Q (ppow x) (rk x)) → Rk P Q (prodL ys) r0 →
    Rk P Q (prodL (ys ++ xs)) (xs.foldl (fun a x => Nat.lcm a (rk x)) r0)
  | [], ys, r0, _, _, _, h0 => by simpa using h0
  | x :: xs, ys, r0, hp, ha, hr, h0 => by
    have e : ys ++ x :: xs = (ys ++ [x]) ++ xs := by simp
    have pl : ∀ (as bs : List (Nat × Nat)), prodL (as ++ bs) = prodL as * prodL bs := by
      intro as bs
      induction as with
      | nil => simp [prodL]
      | cons a as ih => simp only [List.cons_append, prodL, ih, Nat.mul_assoc]
    rw [e]
    refine rk_fold (xs := xs) (ys := ys ++ [x]) (r0 := Nat.lcm r0 (rk x)) (by rw [← e]; exact hp) (by rw [← e]; exact ha) (fun y hy => hr y (by simp [hy])) ?_
    rw [pl]
    have e1 : prodL [x] = ppow x := by simp [prodL]
    rw [e1]
    refine h0.mul (hr x (by simp)) ?_
    rw [Nat.gcd_comm]
    refine cop_prod (hp x (by simp)) (fun y hy => hp y (by simp [hy])) fun y hy => ?_
    have := (List.pairwise_append.mp ha).2.2 y hy x (by simp)
    omega
theorem rk_one (P Q : Int) : Rk P Q 1 1 := ⟨by omega, fun n => ⟨fun _ => Nat.one_dvd n, fun _ => ⟨U P Q n, by simp⟩⟩⟩
end NJ

set_option maxHeartbeats 4000000
/-! The sign (Jacobi) and the primes of a number, by the program. -/
namespace ML
open PySem NJ
theorem din_ints {C : Cells} (i : Int) (xs : List Int) : din C (.int i) (intL xs) = some (decide (i ∈ xs)) := by
  have e : (intL xs).any (fun z => PyData.eqv z.py (D.int i).py) = decide (i ∈ xs) := by
    induction xs with
    | nil => simp [intL]
    | cons x xs ih =>
      simp only [intL, List.map_cons, List.any_cons] at ih ⊢
      rw [ih]
      simp only [D.py, PyData.eqv, List.mem_cons]
      by_cases h : i = x
      · simp [h]
      · have h' : ¬ x = i := fun e => h e.symm
        simp [h, h']
  have e2 : D.plainL 60 (intL xs) = true := plain_ints _ xs
  unfold din
  rw [e2, e]
  rfl
theorem din_35 {C : Cells} (i : Int) : din C (.int i) [.int 3, .int 5] = some (decide (i = 3 ∨ i = 5)) := by
  have := din_ints (C := C) i [3, 5]
  simp only [intL, List.map_cons, List.map_nil, List.mem_cons, List.not_mem_nil, or_false] at this
  exact this
section
variable {T : Tab} {d : Nat} {C : Cells}
def jBody : Ss := (.cons (.set 2 (.bin .fdiv (.var 2) (.lit (.int 2)))) (.cons (.set 4 (.ite (.cmp .inn (.bin .mod (.var 3) (.lit (.int 8))) (.tup (.cons (.lit (.int 3)) (.cons (.lit (.int 5)) .nil)))) (.neg (.var 4)) (.var 4))) .nil))
def jTest : E := .cmp .eq (.bin .mod (.var 2) (.lit (.int 2))) (.lit (.int 0))
@[simp] theorem evS_whl' (gl : Nat → Option D) (cf : CF) (c : E) (b : Ss) (ρ : Env) (C : Cells) : evS gl cf (.whl c b) ρ C = wloop (tst gl cf c) (blk gl cf b) WMAX ρ C := evS_whl ..
/-- by two, as often as it goes -/
theorem jac_in {gl : Nat → Option D} {cf : CF} {x y : D} {m : Nat} (om : m % 2 = 1) {t : Int} {a : Nat} (a1 : 1 ≤ a) (ha : a < WMAX) {s : Int} (hs : s * jx a m = t) :
    wps (wloop (tst gl cf jTest) (blk gl cf jBody) WMAX [some x, some y, some (.int a), some (.int m), some (.int s)] C) fun fl ρ C' => fl = .next ∧ C' = C ∧ ∃ (b : Nat) (u : Int), 1 ≤ b ∧ b ≤ a ∧ b % 2 = 1 ∧ u * jx b m = t ∧ ρ = [some x, some y, some (.int b), some (.int m), some (.int u)] := by
  have h2 : (0 : Int) < 2 := by omega
  have h8 : (0 : Int) < 8 := by omega
  have b2 : bits 2 < 9000 := by decide
  refine wloop_inv (fun k ρ C' => C' = C ∧ ∃ (b : Nat) (u : Int), 1 ≤ b ∧ b ≤ a ∧ b = k ∧ u * jx b m = t ∧ ρ = [some x, some y, some (.int b), some (.int m), some (.int u)]) ?_ WMAX a _ _ ha ⟨rfl, a, s, a1, Nat.le_refl _, rfl, hs, rfl⟩
  rintro k ρ C' ⟨rfl, b, u, b1, ba, rfl, hu, rfl⟩
  obtain ⟨r, hr⟩ : ∃ r : Int, r = (b : Int) % 2 := ⟨_, rfl⟩
  refine ⟨decide (r = 0), by simp -implicitDefEqProofs [tst, jTest, mod_int _ _ h2, ← hr], fun h0 => ?_, fun h1 => ?_⟩
  · have : b % 2 = 1 := by simp at h0; omega
    exact ⟨rfl, rfl, b, u, b1, ba, this, hu, rfl⟩
  · have hb : b % 2 = 0 := by simp at h1; omega
    obtain ⟨z, hz⟩ : ∃ z : Nat, z = b / 2 := ⟨_, rfl⟩
    have ez : (b : Int) / 2 = (z : Int) := by omega
    obtain ⟨v, hv⟩ : ∃ v : Int, v = (m : Int) % 8 := ⟨_, rfl⟩
    have hj := jx_even om hb
    rw [← hz] at hj
    simp only [blk, jBody]
    refine wps_cons (ρ' := [some x, some y, some (.int z), some (.int m), some (.int u)]) (C' := C') (by simp -implicitDefEqProofs [fdiv_int _ _ h2 b2, ez]) ?_
    by_cases hv35 : v = 3 ∨ v = 5
    · refine wps_cons (ρ' := [some x, some y, some (.int z), some (.int m), some (.int (-u))]) (C' := C') (by
        rcases hv35 with h | h <;> simp -implicitDefEqProofs [mod_int _ _ h8, ← hv, h, din_35]) ?_
      rw [evSs_nil, wps_ok]
      rw [if_pos (by omega)] at hj
      exact ⟨z, by omega, rfl, z, -u, by omega, by omega, rfl, by rw [← hu, hj]; grind, rfl⟩
    · refine wps_cons (ρ' := [some x, some y, some (.int z), some (.int m), some (.int u)]) (C' := C') (by
        have h3 : ¬ v = 3 := fun e => hv35 (.inl e)
        have h5 : ¬ v = 5 := fun e => hv35 (.inr e)
        simp -implicitDefEqProofs [mod_int _ _ h8, ← hv, h3, h5, din_35]) ?_
      rw [evSs_nil, wps_ok]
      rw [if_neg (by omega)] at hj
      exact ⟨z, by omega, rfl, z, u, by omega, by omega, rfl, by rw [← hu, hj]; grind, rfl⟩
theorem s_jacobi {f : Nat} (h : T.fn f = some F_jacobi_in) {Dd : Int} {n : Nat} (on : n % 2 = 1) (hn : n < WMAX) : callF T (d + 1) f [.int Dd, .int n] C = .ok (.int (jxi Dd n)) C := by
  rw [callF_eq h rfl]
  have hn0 : (0 : Int) < n := by omega
  have h4 : (0 : Int) < 4 := by omega
  have key := wloop_inv (c := tst T.glob (callF T d) (.cmp .ne (.var 2) (.lit (.int 0)))) (b := blk T.glob (callF T d) (.cons (.whl jTest jBody)
      (.cons (.par [2, 3] [false, false] (.cons (.var 3) (.cons (.var 2) .nil)))
      (.cons (.set 4 (.ite (.and (.cmp .eq (.bin .mod (.var 2) (.lit (.int 4))) (.lit (.int 3))) (.cmp .eq (.bin .mod (.var 3) (.lit (.int 4))) (.lit (.int 3)))) (.neg (.var 4)) (.var 4)))
      (.cons (.set 2 (.bin .mod (.var 2) (.var 3))) .nil)))))
    (P := fun fl ρ C' => fl = .next ∧ C' = C ∧ ∃ (m : Nat) (s : Int), m % 2 = 1 ∧ s * jx 0 m = jxi Dd n ∧ ρ = [some (.int Dd), some (.int n), some (.int 0), some (.int m), some (.int s)])
    (fun k ρ C' => C' = C ∧ ∃ (a m : Nat) (s : Int), a = k ∧ m % 2 = 1 ∧ a ≤ n ∧ s * jx a m = jxi Dd n ∧ ρ = [some (.int Dd), some (.int n), some (.int a), some (.int m), some (.int s)])
    (by
      rintro k ρ C' ⟨rfl, a, m, s, rfl, om, an, hs, rfl⟩
      refine ⟨decide (¬ a = 0), by simp -implicitDefEqProofs [tst], fun h0 => ?_, fun h1 => ?_⟩
      · have a0 : a = 0 := by simpa using h0
        subst a0
        exact ⟨rfl, rfl, m, s, om, hs, rfl⟩
      · have a1 : 1 ≤ a := by have : ¬ a = 0 := by simpa using h1
                              omega
        simp only [blk]
        refine wps_consW ?_
        rw [evS_whl]
        refine wps_imp (jac_in om a1 (by omega) hs) ?_
        rintro fl ρ C'' ⟨rfl, rfl, b, u, b1, ba, ob, hu, rfl⟩
        refine ⟨rfl, ?_⟩
        refine wps_cons (ρ' := [some (.int Dd), some (.int n), some (.int m), some (.int b), some (.int u)]) (C' := C'') (by simp -implicitDefEqProofs) ?_
        obtain ⟨v, hv⟩ : ∃ v : Int, v = (m : Int) % 4 := ⟨_, rfl⟩
        obtain ⟨w, hw⟩ : ∃ w : Int, w = (b : Int) % 4 := ⟨_, rfl⟩
        obtain ⟨z, hz⟩ : ∃ z : Nat, z = m % b := ⟨_, rfl⟩
        have ez : (m : Int) % (b : Int) = (z : Int) := by rw [hz, Int.natCast_emod]
        have b0 : (0 : Int) < b := by omega
        have zb : z < b := by rw [hz]; exact Nat.mod_lt _ (by omega)
        have hj := jx_flip ob om
        have hz2 : jx z b = jx m b := by rw [hz]; exact jx_mod m b
        by_cases hc : v = 3 ∧ w = 3
        · refine wps_cons (ρ' := [some (.int Dd), some (.int n), some (.int m), some (.int b), some (.int (-u))]) (C' := C'') (by simp -implicitDefEqProofs [mod_int _ _ h4, ← hv, ← hw, hc.1, hc.2]) ?_
          refine wps_cons (ρ' := [some (.int Dd), some (.int n), some (.int z), some (.int b), some (.int (-u))]) (C' := C'') (by simp -implicitDefEqProofs [mod_int _ _ b0, ez]) ?_
          rw [evSs_nil, wps_ok]
          rw [if_pos (by omega)] at hj
          exact ⟨z, by omega, rfl, z, b, -u, rfl, ob, by omega, by rw [hz2, ← hu, hj]; grind, rfl⟩
        · refine wps_cons (ρ' := [some (.int Dd), some (.int n), some (.int m), some (.int b), some (.int u)]) (C' := C'') (by
            by_cases h3 : v = 3
            · have h3' : ¬ w = 3 := fun e => hc ⟨h3, e⟩
              simp -implicitDefEqProofs [mod_int _ _ h4, ← hv, ← hw, h3, h3']
            · simp -implicitDefEqProofs [mod_int _ _ h4, ← hv, ← hw, h3]) ?_
          refine wps_cons (ρ' := [some (.int Dd), some (.int n), some (.int z), some (.int b), some (.int u)]) (C' := C'') (by simp -implicitDefEqProofs [mod_int _ _ b0, ez]) ?_
          rw [evSs_nil, wps_ok]
          rw [if_neg (by omega)] at hj
          exact ⟨z, by omega, rfl, z, b, u, rfl, ob, by omega, by rw [hz2, ← hu, hj]; grind, rfl⟩)
    WMAX ((Dd % n).toNat) [some (.int Dd), some (.int n), some (.int ((Dd % n).toNat : Nat)), some (.int n), some (.int 1)] C (by
      have := Int.emod_lt_of_pos Dd hn0
      have := Int.emod_nonneg Dd (show (n : Int) ≠ 0 by omega)
      omega) ⟨rfl, _, n, 1, rfl, on, by
      have := Int.emod_lt_of_pos Dd hn0
      have := Int.emod_nonneg Dd (show (n : Int) ≠ 0 by omega)
      omega, by rw [Int.one_mul]; rfl, rfl⟩
  obtain ⟨fl, ρ, C', e, rfl, rfl, m, s, om, hs, rfl⟩ := wps_get key
  rw [emod_nat (by omega)] at e
  unfold jTest jBody at e
  rw [jx_zero] at hs
  by_cases hm : m = 1
  · subst hm
    simp -implicitDefEqProofs at hs
    simp -implicitDefEqProofs [F_jacobi_in, mod_int _ _ hn0, e, hs]
  · have hm' : ¬ (m : Int) = 1 := by omega
    rw [if_neg hm, Int.mul_zero] at hs
    simp -implicitDefEqProofs [F_jacobi_in, mod_int _ _ hn0, e, hm, hm', ← hs]
end
end ML

set_option maxHeartbeats 4000000
/-! The primes of a number, by the program. -/
namespace ML
open PySem NJ
def pD (x : Nat × Nat) : D := .tup [.int x.1, .int x.2]
theorem pD_noc : ∀ xs : List (Nat × Nat), D.nocL (xs.map pD) = true
  | [] => rfl
  | x :: xs => by simp [pD, pD_noc xs]
def pBody : Ss := (.cons (.par [2, 4] [false, false] (.cons (.bin .fdiv (.var 2) (.var 3)) (.cons (.bin .add (.var 4) (.lit (.int 1))) .nil))) .nil)
def pTest : E := .cmp .eq (.bin .mod (.var 2) (.var 3)) (.lit (.int 0))
theorem prodL_app : ∀ (as bs : List (Nat × Nat)), prodL (as ++ bs) = prodL as * prodL bs
  | [], bs => by simp [prodL]
  | a :: as, bs => by simp only [List.cons_append, prodL, prodL_app as bs, Nat.mul_assoc]
theorem bits_nat {k : Nat} (h : k < 2 ^ 62) : bits (k : Int) < 63 := bits_lt (Nat.lt_of_lt_of_le (show (k : Int).natAbs < 2 ^ 62 by omega) (Nat.pow_le_pow_right (by omega) (by omega))) (by omega)
section
variable {T : Tab} {d : Nat} {C : Cells}
/-- a prime, as often as it goes -/
theorem pr_in {gl : Nat → Option D} {cf : CF} {x y : Option D} {p : Nat} (p2 : 2 ≤ p) (pb : p < 2 ^ 62) {a : Nat} (a1 : 1 ≤ a) {K : Nat} (hK : K < WMAX) (ha : a < 2 ^ K) :
    wps (wloop (tst gl cf pTest) (blk gl cf pBody) WMAX [x, y, some (.int a), some (.int p), some (.int 0)] C) fun fl ρ C' => fl = .next ∧ C' = C ∧ ∃ (b e : Nat), 1 ≤ b ∧ ¬ p ∣ b ∧ b * p ^ e = a ∧ ρ = [x, y, some (.int b), some (.int p), some (.int e)] := by
  have hp : (0 : Int) < p := by omega
  have bp : bits (p : Int) < 9000 := Nat.lt_trans (bits_nat pb) (by omega)
  refine wloop_inv (fun k ρ C' => C' = C ∧ ∃ (b e : Nat), 1 ≤ b ∧ b < 2 ^ k ∧ b * p ^ e = a ∧ ρ = [x, y, some (.int b), some (.int p), some (.int e)]) ?_ WMAX K _ _ hK ⟨rfl, a, 0, a1, ha, by simp, rfl⟩
  rintro k ρ C' ⟨rfl, b, e, b1, bk, he, rfl⟩
  obtain ⟨r, hr⟩ : ∃ r : Nat, r = b % p := ⟨_, rfl⟩
  have er : (b : Int) % (p : Int) = (r : Int) := by rw [hr, Int.natCast_emod]
  refine ⟨decide (r = 0), by simp -implicitDefEqProofs [tst, pTest, mod_int _ _ hp, er], fun h0 => ?_, fun h1 => ?_⟩
  · have hn : ¬ p ∣ b := fun hd => by
      have := Nat.mod_eq_zero_of_dvd hd
      rw [← hr] at this
      simp [this] at h0
    exact ⟨rfl, rfl, b, e, b1, hn, he, rfl⟩
  · have hr0 : r = 0 := by simpa using h1
    rw [hr0] at hr
    have hd : p ∣ b := Nat.dvd_of_mod_eq_zero hr.symm
    obtain ⟨z, hz⟩ := hd
    have z1 : 1 ≤ z := by
      rcases Nat.eq_zero_or_pos z with h | h
      · rw [h, Nat.mul_zero] at hz; omega
      · exact h
    have ez : (b : Int) / (p : Int) = (z : Int) := by rw [hz, Int.natCast_mul, Int.mul_ediv_cancel_left _ (by omega)]
    obtain ⟨e', he'⟩ : ∃ e', e' = e + 1 := ⟨_, rfl⟩
    have ee : (e : Int) + 1 = (e' : Int) := by omega
    have zb : 2 * z ≤ b := by rw [hz]; exact Nat.mul_le_mul_right z p2
    have k0 : k ≠ 0 := fun h => by rw [h] at bk; simp at bk; omega
    obtain ⟨k, rfl⟩ : ∃ k', k = k' + 1 := ⟨k - 1, by omega⟩
    simp only [blk, pBody]
    refine wps_cons (ρ' := [x, y, some (.int z), some (.int p), some (.int e')]) (C' := C') (by simp -implicitDefEqProofs [fdiv_int _ _ hp bp, ez, ee]) ?_
    rw [evSs_nil, wps_ok]
    refine ⟨k, by omega, rfl, z, e', z1, by rw [Nat.pow_succ] at bk; omega, ?_, rfl⟩
    rw [he', Nat.pow_succ, ← he, hz]; grind
def PrimesOf (T : Tab) (f : Nat) : Prop := ∀ (d : Nat) (C : Cells) (n : Nat), 1 ≤ n → n < 81000000000000000000 → ∃ xs : List (Nat × Nat), callF T (d + 1) f [.int n] C = .ok (.tup (xs.map pD)) C ∧ PF n xs ∧ xs.length ≤ 1000
theorem asc_len : ∀ {xs : List (Nat × Nat)} {k : Nat}, (∀ x ∈ xs, Pm x.1 ∧ 1 ≤ x.2) → prodL xs < 2 ^ k → xs.length ≤ k
  | [], k, _, _ => by simp
  | x :: xs, k, h, hp => by
    have hx := h x (by simp)
    have h2 : 2 ≤ ppow x := by
      unfold ppow
      obtain ⟨e, he⟩ : ∃ e, x.2 = e + 1 := ⟨x.2 - 1, by omega⟩
      rw [he, Nat.pow_succ]
      have := hx.1.1
      have : 1 ≤ x.1 ^ e := Nat.pow_pos (by omega)
      calc 2 ≤ x.1 := by omega
        _ = 1 * x.1 := by omega
        _ ≤ x.1 ^ e * x.1 := Nat.mul_le_mul_right _ this
    simp only [prodL] at hp
    have hl : 2 * prodL xs ≤ ppow x * prodL xs := Nat.mul_le_mul_right _ h2
    have k0 : k ≠ 0 := fun e => by
      rw [e] at hp
      have : prodL xs = 0 := by omega
      have hpos : ∀ ys : List (Nat × Nat), (∀ y ∈ ys, Pm y.1 ∧ 1 ≤ y.2) → 0 < prodL ys := by
        intro ys
        induction ys with
        | nil => intro _; simp [prodL]
        | cons y ys ih =>
          intro hh
          have := (hh y (by simp)).1.1
          exact Nat.mul_pos (Nat.pow_pos (by omega)) (ih fun z hz => hh z (by simp [hz]))
      have := hpos xs fun y hy => h y (by simp [hy])
      omega
    obtain ⟨k, rfl⟩ : ∃ k', k = k' + 1 := ⟨k - 1, by omega⟩
    have := asc_len (xs := xs) (k := k) (fun y hy => h y (by simp [hy])) (by rw [Nat.pow_succ] at hp; omega)
    simp; omega
theorem s_primes {f : Nat} (h : T.fn f = some F_primes_of) : PrimesOf T f := by
  intro d C n n1 hn
  rw [callF_eq h rfl]
  have key := wloop_inv (c := tst T.glob (callF T d) (.cmp .le (.bin .mul (.var 3) (.var 3)) (.var 2))) (b := blk T.glob (callF T d) (.cons (.set 4 (.lit (.int 0))) (.cons (.whl pTest pBody)
      (.cons (.ife (.cmp .gt (.var 4) (.lit (.int 0))) (.cons (.expr (.app (.var 1) (.tup (.cons (.var 3) (.cons (.var 4) .nil))))) .nil) .nil)
      (.cons (.set 3 (.bin .add (.var 3) (.ite (.cmp .eq (.var 3) (.lit (.int 2))) (.lit (.int 1)) (.lit (.int 2))))) .nil)))))
    (P := fun fl ρ C' => fl = .next ∧ ∃ (ys : List (Nat × Nat)) (b : Nat) (x3 x4 : Option D), PF n (ys ++ if 1 < b then [(b, 1)] else []) ∧ ys.length ≤ 100 ∧ C' = C ++ [ys.map pD] ∧ ρ = [some (.int n), some (.cell C.length), some (.int b), x3, x4])
    (fun k ρ C' => ∃ (ys : List (Nat × Nat)) (a p : Nat) (x4 : Option D), k + p = 9000000010 ∧ 2 ≤ p ∧ (p = 2 ∨ p % 2 = 1) ∧ 1 ≤ a ∧ prodL ys * a = n ∧ (∀ y ∈ ys, Pm y.1 ∧ 1 ≤ y.2) ∧ ys.Pairwise (fun x y => x.1 < y.1) ∧ (∀ y ∈ ys, y.1 < p) ∧ (∀ q, 2 ≤ q → q < p → ¬ q ∣ a) ∧ C' = C ++ [ys.map pD] ∧ ρ = [some (.int n), some (.cell C.length), some (.int a), some (.int p), x4])
    (by
      rintro k ρ C' ⟨ys, a, p, x4, hk, p2, hpo, a1, hpr, hpm, hasc, hlt, hnd, rfl, rfl⟩
      have prod0 : ∀ {c : Nat}, prodL ys * c = n → c ≤ n := fun {c} hc => by
        rw [← hc]
        have : 0 < prodL ys := by
          rcases Nat.eq_zero_or_pos (prodL ys) with h | h
          · rw [h, Nat.zero_mul] at hpr; omega
          · exact h
        exact Nat.le_mul_of_pos_left c this
      have an : a ≤ n := prod0 hpr
      have ylen : ys.length ≤ 100 := by
        refine asc_len hpm (Nat.lt_of_le_of_lt ?_ (Nat.lt_of_lt_of_le hn (by decide)))
        rw [← hpr]; exact Nat.le_mul_of_pos_right _ a1
      have pb : p < 2 ^ 62 := by omega
      have bp := bits_nat pb
      obtain ⟨s, hs⟩ : ∃ s : Nat, s = p * p := ⟨_, rfl⟩
      have es : (p : Int) * (p : Int) = (s : Int) := by rw [hs, Int.natCast_mul]
      refine ⟨decide (s ≤ a), by simp -implicitDefEqProofs [tst, mul_int _ _ (.inl bp), es], fun h0 => ?_, fun h1 => ?_⟩
      · have hsa : a < p * p := by rw [← hs]; simp at h0; omega
        refine ⟨rfl, ys, a, _, _, ?_, ylen, rfl, rfl⟩
        by_cases ha : 1 < a
        · rw [if_pos ha]
          have hpa : p ≤ a := by
            refine Nat.le_of_not_lt fun hlt' => hnd a (by omega) hlt' (Nat.dvd_refl a)
          have hpm' : Pm a := ⟨by omega, fun q hq => by
            refine Classical.byContradiction fun hne => ?_
            have hq1 : q ≠ 1 := fun e => hne (.inl e)
            have hq2 : q ≠ a := fun e => hne (.inr e)
            have hq0 : q ≠ 0 := fun e => by rw [e] at hq; have := Nat.eq_zero_of_zero_dvd hq; omega
            obtain ⟨c, hc⟩ := hq
            have hc0 : c ≠ 0 := fun e => by rw [e, Nat.mul_zero] at hc; omega
            have hc1 : c ≠ 1 := fun e => hq2 (by rw [hc, e, Nat.mul_one])
            have g1 : p ≤ q := Nat.le_of_not_lt fun hh => hnd q (by omega) hh ⟨c, hc⟩
            have g2 : p ≤ c := Nat.le_of_not_lt fun hh => hnd c (by omega) hh ⟨q, by rw [hc, Nat.mul_comm]⟩
            have := Nat.mul_le_mul g1 g2
            omega⟩
          refine ⟨?_, ?_, ?_⟩
          · intro x hx
            rcases List.mem_append.mp hx with hx | hx
            · exact hpm x hx
            · have : x = (a, 1) := by simpa using hx
              subst this; exact ⟨hpm', by simp⟩
          · refine List.pairwise_append.mpr ⟨hasc, by simp, fun x hx y hy => ?_⟩
            have : y = (a, 1) := by simpa using hy
            subst this
            have := hlt x hx
            show x.1 < a
            omega
          · rw [prodL_app, ← hpr]; simp [prodL, ppow]
        · rw [if_neg ha, List.append_nil]
          have : a = 1 := by omega
          subst this
          exact ⟨hpm, hasc, by rw [← hpr, Nat.mul_one]⟩
      · have hsa : p * p ≤ a := by rw [← hs]; simpa using h1
        have hp9 : p < 9000000001 := by
          refine Nat.lt_of_not_le fun hh => ?_
          have := Nat.mul_le_mul hh hh
          omega
        simp only [blk]
        refine wps_cons (ρ' := [some (.int n), some (.cell C.length), some (.int a), some (.int p), some (.int 0)]) (C' := C ++ [ys.map pD]) (by simp -implicitDefEqProofs) ?_
        refine wps_consW ?_
        rw [evS_whl]
        refine wps_imp (pr_in p2 pb a1 (K := 100) (by unfold WMAX; omega) (show a < 2 ^ 100 by omega)) ?_
        rintro fl ρ C'' ⟨rfl, rfl, b, e, b1, hnb, hbe, rfl⟩
        refine ⟨rfl, ?_⟩
        have hba : b ∣ a := ⟨p ^ e, hbe.symm⟩
        obtain ⟨p', hp'⟩ : ∃ p' : Nat, p' = if p = 2 then 3 else p + 2 := ⟨_, rfl⟩
        have hset : ∀ (x4 : Option D) (C' : Cells), evS T.glob (callF T d) (.set 3 (.bin .add (.var 3) (.ite (.cmp .eq (.var 3) (.lit (.int 2))) (.lit (.int 1)) (.lit (.int 2))))) [some (.int n), some (.cell C.length), some (.int b), some (.int p), x4] C' = .ok .next [some (.int n), some (.cell C.length), some (.int b), some (.int p'), x4] C' := fun x4 C' => by
          by_cases hp2 : p = 2
          · rw [if_pos hp2] at hp'
            subst hp2; subst hp'
            simp -implicitDefEqProofs
          · rw [if_neg hp2] at hp'
            have e1 : (p : Int) + 2 = (p' : Int) := by omega
            have e2 : ¬ (p : Int) = 2 := by omega
            simp -implicitDefEqProofs [e1, e2, hp2]
        have hnd' : ∀ q, 2 ≤ q → q < p' → ¬ q ∣ b := fun q q2 hq hd => by
          by_cases hqp : q < p
          · exact hnd q q2 hqp (Nat.dvd_trans hd hba)
          · by_cases hqe : q = p
            · subst hqe; exact hnb hd
            · by_cases hp2 : p = 2
              · rw [if_pos hp2] at hp'; omega
              · rw [if_neg hp2] at hp'
                have hq3 : q = p + 1 := by omega
                have : 2 ∣ q := by omega
                exact hnd 2 (by omega) (by omega) (Nat.dvd_trans this (Nat.dvd_trans hd hba))
        have hpp : p < p' := by rw [hp']; split <;> omega
        have hp2' : p' = 2 ∨ p' % 2 = 1 := by rw [hp']; split <;> omega
        have hk' : ∃ k', k' < k ∧ k' + p' = 9000000010 := ⟨9000000010 - p', by omega, by rw [hp'] at *; split <;> omega⟩
        obtain ⟨k', kk, hkp⟩ := hk'
        by_cases he : 0 < e
        · have he' : (0 : Int) < (e : Int) := by omega
          have hpa : p ∣ a := by
            obtain ⟨e', rfl⟩ : ∃ e', e = e' + 1 := ⟨e - 1, by omega⟩
            rw [← hbe, Nat.pow_succ]
            exact ⟨b * p ^ e', by grind⟩
          have hpp' : Pm p := ⟨p2, fun q hq => by
            refine Classical.byContradiction fun hne => ?_
            have hq1 : q ≠ 1 := fun e => hne (.inl e)
            have hq2 : q ≠ p := fun e => hne (.inr e)
            have hq0 : q ≠ 0 := fun e => by rw [e] at hq; have := Nat.eq_zero_of_zero_dvd hq; omega
            have := Nat.le_of_dvd (by omega) hq
            exact hnd q (by omega) (by omega) (Nat.dvd_trans hq hpa)⟩
          have hap : C ++ [(ys ++ [(p, e)]).map pD] = C ++ [ys.map pD ++ [.tup [.int p, .int e]]] := by simp [pD]
          have hl' : ys.length < 16777216 := by omega
          refine wps_cons (ρ' := [some (.int n), some (.cell C.length), some (.int b), some (.int p), some (.int e)]) (C' := C ++ [(ys ++ [(p, e)]).map pD]) (by rw [hap]; simp -implicitDefEqProofs [he', he, hl']) ?_
          refine wps_cons (hset _ _) ?_
          rw [evSs_nil, wps_ok]
          refine ⟨k', kk, ys ++ [(p, e)], b, p', _, hkp, by omega, hp2', b1, ?_, ?_, ?_, ?_, hnd', rfl, rfl⟩
          · rw [prodL_app, ← hpr, ← hbe]; simp [prodL, ppow]; grind
          · intro y hy
            rcases List.mem_append.mp hy with hy | hy
            · exact hpm y hy
            · have : y = (p, e) := by simpa using hy
              subst this; exact ⟨hpp', he⟩
          · refine List.pairwise_append.mpr ⟨hasc, by simp, fun x hx y hy => ?_⟩
            have : y = (p, e) := by simpa using hy
            subst this
            exact hlt x hx
          · intro y hy
            rcases List.mem_append.mp hy with hy | hy
            · have := hlt y hy; omega
            · have : y = (p, e) := by simpa using hy
              subst this; exact hpp
        · have e0 : e = 0 := by omega
          subst e0
          rw [Nat.pow_zero, Nat.mul_one] at hbe
          refine wps_cons (ρ' := [some (.int n), some (.cell C.length), some (.int b), some (.int p), some (.int (0 : Nat))]) (C' := C ++ [ys.map pD]) (by simp -implicitDefEqProofs) ?_
          refine wps_cons (hset _ _) ?_
          rw [evSs_nil, wps_ok]
          exact ⟨k', kk, ys, b, p', _, hkp, by omega, hp2', b1, by rw [hbe]; exact hpr, hpm, hasc, fun y hy => by have := hlt y hy; omega, hnd', rfl, rfl⟩)
    WMAX 9000000008 [some (.int n), some (.cell C.length), some (.int n), some (.int 2), none] (C ++ [[]]) (by unfold WMAX; omega)
    ⟨[], n, 2, none, by omega, by omega, .inl rfl, n1, by simp [prodL], by simp, by simp, by simp, fun q a b => by omega, rfl, rfl⟩
  obtain ⟨fl, ρ, C', e, rfl, ys, b, x3, x4, pf, yl, rfl, rfl⟩ := wps_get key
  unfold pTest pBody at e
  refine ⟨ys ++ if 1 < b then [(b, 1)] else [], ?_, pf, by split <;> simp <;> omega⟩
  have hv : D.val (C ++ [ys.map pD]) (.cell C.length) = .lst (ys.map pD) := val_cell (last_get _)
  have hadd : ∀ zs : List D, zs.length ≤ 1 → binop .add (.cell C.length) (.lst zs) (C ++ [ys.map pD]) = some (.lst (ys.map pD ++ zs)) := fun zs hz => by
    simp only [binop, hv, val_lst']
    rw [if_pos (by simp; omega)]
  by_cases hb : 1 < b
  · have hb' : (1 : Int) < (b : Int) := by omega
    rw [if_pos hb]
    simp -implicitDefEqProofs [F_primes_of, e, hb', hb, hadd]
    have : ys.map pD ++ [.tup [.int b, .int 1]] = (ys ++ [(b, 1)]).map pD := by simp [pD]
    rw [this, fin_tup (pD_noc _)]
    simp
  · have hb' : ¬ (1 : Int) < (b : Int) := by omega
    rw [if_neg hb]
    simp -implicitDefEqProofs [F_primes_of, e, hb', hb, hadd]
    rw [fin_tup (pD_noc _)]
    simp
end
end ML

set_option maxHeartbeats 4000000
/-! First places, by the program. -/
namespace ML
open PySem NJ
def PairMod (T : Tab) (f : Nat) : Prop := ∀ (d : Nat) (C : Cells) (P Q : Int) (n m : Nat), RuleOk P Q → n < 2 ^ 5000 → 0 < m → Lt2 400000 (m : Int) → callF T (d + 2) f [ruleD P Q, .int n, .int m] C = .ok (pairD P Q n m) C
theorem pairMod_of {T : Tab} {f fd : Nat} (h : T.fn f = some (F_pair_mod fd)) (hd : T.fn fd = some F_digits_of) : PairMod T f := fun d C P Q n m r hn hm hm2 => s_pair_modN h hd r.lp2 r.lq2 n hn (by omega) (N := 400000) (by omega) hm2
def ZeroIn (T : Tab) (f : Nat) : Prop := ∀ (d : Nat) (C : Cells) (P Q : Int), RuleOk P Q → callF T (d + 2) f [ruleD P Q] C = .ok (ozD (zp P Q)) C
theorem zeroIn_of {T : Tab} {f ft : Nat} (h : T.fn f = some (F_zero_in ft)) (ht : TermsIn T ft) : ZeroIn T f := fun d C P Q r => s_zero_in (d := d) (C := C) h ht r
theorem n5000 {n : Nat} (h : n < 2 ^ 100) : n < 2 ^ 5000 := Nat.lt_of_lt_of_le h (Nat.pow_le_pow_right (by omega) (by omega))
theorem bits9000 {n : Nat} (h : n < 2 ^ 100) : bits (n : Int) < 9000 := Nat.lt_of_lt_of_le (bits_lt (n := 100) (by show (n : Int).natAbs < 2 ^ 100; omega) (by omega)) (by omega)
theorem rank_term {P Q : Int} {m r : Nat} (hr : Rk P Q m r) (n : Nat) : (U P Q n % (m : Int) = 0) ↔ r ∣ n := by
  rw [← hr.2 n]; exact ⟨Int.dvd_of_emod_eq_zero, Int.emod_eq_zero_of_dvd⟩
def lBody : Ss := .cons (.set 3 (.bin .fdiv (.var 3) (.var 4))) .nil
def lTest (fp : Nat) : E := .and (.cmp .eq (.bin .mod (.var 3) (.var 4)) (.lit (.int 0))) (.cmp .eq (.idx (.call fp (.cons (.var 0) (.cons (.bin .fdiv (.var 3) (.var 4)) (.cons (.var 1) .nil)))) (.lit (.int 0))) (.lit (.int 0)))
section
variable {T : Tab} {d : Nat} {C : Cells}
theorem least_in {fp : Nat} (hp : PairMod T fp) {P Q : Int} (ro : RuleOk P Q) {m r : Nat} (hr : Rk P Q m r) (hm : 0 < m) (hm2 : Lt2 400000 (m : Int)) {x2 : D} {l e : Nat} (l2 : 2 ≤ l) (lb : l < 2 ^ 100) {f0 : Nat} (f1 : 1 ≤ f0) (fb : f0 < 2 ^ 100) (hf : r ∣ f0) :
    wps (wloop (tst T.glob (callF T (d + 2)) (lTest fp)) (blk T.glob (callF T (d + 2)) lBody) WMAX [some (ruleD P Q), some (.int m), some x2, some (.int f0), some (.int l), some (.int e)] C) fun fl ρ C' => fl = .next ∧ C' = C ∧ ∃ f : Nat, 1 ≤ f ∧ f ∣ f0 ∧ r ∣ f ∧ ¬ r * l ∣ f ∧ ρ = [some (ruleD P Q), some (.int m), some x2, some (.int f), some (.int l), some (.int e)] := by
  refine wloop_inv (fun k ρ C' => C' = C ∧ ∃ f : Nat, 1 ≤ f ∧ f ∣ f0 ∧ r ∣ f ∧ f < 2 ^ k ∧ k ≤ 100 ∧ ρ = [some (ruleD P Q), some (.int m), some x2, some (.int f), some (.int l), some (.int e)]) ?_ WMAX 100 _ _ (by unfold WMAX; omega) ⟨rfl, f0, f1, Nat.dvd_refl _, hf, fb, Nat.le_refl _, rfl⟩
  rintro k ρ C' ⟨rfl, f, f1, hff, hrf, hfk, hk, rfl⟩
  have hl : (0 : Int) < l := by omega
  have bl := bits9000 lb
  obtain ⟨w, hw⟩ : ∃ w : Nat, w = f % l := ⟨_, rfl⟩
  have ew : (f : Int) % (l : Int) = (w : Int) := by rw [hw, Int.natCast_emod]
  obtain ⟨z, hz⟩ : ∃ z : Nat, z = f / l := ⟨_, rfl⟩
  have ez : (f : Int) / (l : Int) = (z : Int) := by rw [hz, Int.natCast_ediv]
  have hf100 : f < 2 ^ 100 := Nat.lt_of_lt_of_le hfk (Nat.pow_le_pow_right (by omega) hk)
  have zf : z ≤ f := by rw [hz]; exact Nat.div_le_self _ _
  have ep := hp d C' P Q z m ro (n5000 (by omega)) hm hm2
  by_cases hd : l ∣ f
  · have w0 : w = 0 := by rw [hw]; exact Nat.mod_eq_zero_of_dvd hd
    subst w0
    have hfz : f = l * z := by rw [hz]; exact (Nat.mul_div_cancel' hd).symm
    have z1 : 1 ≤ z := by
      rcases Nat.eq_zero_or_pos z with h | h
      · rw [h, Nat.mul_zero] at hfz; omega
      · exact h
    have rt := rank_term hr z
    obtain ⟨u, hu⟩ : ∃ u : Int, u = U P Q z % (m : Int) := ⟨_, rfl⟩
    rw [← hu] at rt
    unfold pairD at ep
    rw [← hu] at ep
    refine ⟨decide (u = 0), by simp -implicitDefEqProofs [tst, lTest, mod_int _ _ hl, ew, fdiv_int _ _ hl bl, ez, ep], fun h0 => ?_, fun h1 => ?_⟩
    · have hn : ¬ r ∣ z := fun h => by simp [rt.mpr h] at h0
      refine ⟨rfl, rfl, f, f1, hff, hrf, fun h => hn ?_, rfl⟩
      rw [hfz, Nat.mul_comm r l] at h
      exact Nat.dvd_of_mul_dvd_mul_left (by omega) h
    · have hrz : r ∣ z := rt.mp (by simpa using h1)
      simp only [blk, lBody]
      refine wps_cons (ρ' := [some (ruleD P Q), some (.int m), some x2, some (.int z), some (.int l), some (.int e)]) (C' := C') (by simp -implicitDefEqProofs [fdiv_int _ _ hl bl, ez]) ?_
      rw [evSs_nil, wps_ok]
      have zz : 2 * z ≤ f := by rw [hfz]; exact Nat.mul_le_mul_right z l2
      have k0 : k ≠ 0 := fun h => by rw [h] at hfk; simp at hfk; omega
      obtain ⟨k, rfl⟩ : ∃ k', k = k' + 1 := ⟨k - 1, by omega⟩
      exact ⟨k, by omega, rfl, z, z1, Nat.dvd_trans ⟨l, by rw [hfz, Nat.mul_comm]⟩ hff, hrz, by rw [Nat.pow_succ] at hfk; omega, by omega, rfl⟩
  · have w0 : ¬ w = 0 := fun h => hd (Nat.dvd_of_mod_eq_zero (by rw [← hw, h]))
    refine ⟨false, by simp -implicitDefEqProofs [tst, lTest, mod_int _ _ hl, ew, w0], fun _ => ?_, fun h1 => by cases h1⟩
    exact ⟨rfl, rfl, f, f1, hff, hrf, fun h => hd (Nat.dvd_trans (Nat.dvd_mul_left l r) h), rfl⟩
def LeastPart (T : Tab) (f : Nat) : Prop := ∀ (d : Nat) (C : Cells) (P Q : Int) (m r B : Nat), RuleOk P Q → Rk P Q m r → 0 < m → Lt2 400000 (m : Int) → 1 ≤ B → B < 81000000000000000000 → r ∣ B → callF T (d + 3) f [ruleD P Q, .int m, .int B] C = .ok (.int r) C
theorem s_least {f fq fp : Nat} (h : T.fn f = some (F_least_part fq fp)) (hq : PrimesOf T fq) (hp : PairMod T fp) : LeastPart T f := by
  intro d C P Q m r B ro hr hm hm2 B1 B2 hrB
  rw [callF_eq h rfl]
  obtain ⟨xs, e1, pf, hlen⟩ := hq (d + 1) C B B1 B2
  have key := floop_inv (gd := none) (all := xs.map pD) (t := .many [4, 5]) (b := blk T.glob (callF T (d + 2)) (.cons (.whl (lTest fp) lBody) .nil))
    (P := fun fl ρ C' => fl = .next ∧ C' = C ∧ ∃ (f : Nat) (x4 x5 : Option D), 1 ≤ f ∧ f ∣ B ∧ r ∣ f ∧ (∀ x ∈ xs, ¬ r * x.1 ∣ f) ∧ ρ = [some (ruleD P Q), some (.int m), some (.int B), some (.int f), x4, x5])
    (fun ys ρ C' => C' = C ∧ ∃ (zs : List (Nat × Nat)) (f : Nat) (x4 x5 : Option D), ys = zs.map pD ∧ (∀ x ∈ zs, x ∈ xs) ∧ 1 ≤ f ∧ f ∣ B ∧ r ∣ f ∧ (∀ x ∈ xs, x ∈ zs ∨ ¬ r * x.1 ∣ f) ∧ ρ = [some (ruleD P Q), some (.int m), some (.int B), some (.int f), x4, x5])
    (by
      rintro x ys ρ C' ⟨rfl, zs, f, x4, x5, hz, hin, f1, hfB, hrf, hdone, rfl⟩
      cases zs with
      | nil => simp at hz
      | cons z zs =>
        simp only [List.map_cons, List.cons.injEq] at hz
        obtain ⟨rfl, rfl⟩ := hz
        have hzx := hin z (by simp)
        have hpm := (pf.pm z hzx).1
        have hzB : z.1 ∣ B := by
          rw [← pf.prod]
          have : ∀ ws : List (Nat × Nat), z ∈ ws → z.1 ∣ prodL ws := by
            intro ws
            induction ws with
            | nil => intro h; cases h
            | cons w ws ih =>
              intro h
              rcases List.mem_cons.mp h with rfl | h
              · have : z.1 ∣ ppow z := by
                  unfold ppow
                  obtain ⟨e, he⟩ : ∃ e, z.2 = e + 1 := ⟨z.2 - 1, by have := (pf.pm z hzx).2; omega⟩
                  rw [he, Nat.pow_succ]; exact Nat.dvd_mul_left _ _
                exact Nat.dvd_trans this (Nat.dvd_mul_right _ _)
              · exact Nat.dvd_trans (ih h) (Nat.dvd_mul_left _ _)
          exact this xs hzx
        have lB := Nat.le_of_dvd (by omega) hzB
        have fB := Nat.le_of_dvd (by omega) hfB
        refine ⟨[some (ruleD P Q), some (.int m), some (.int B), some (.int f), some (.int z.1), some (.int z.2)], rfl, ?_⟩
        simp only [blk]
        refine wps_consW ?_
        rw [evS_whl]
        refine wps_imp (least_in hp ro hr hm hm2 hpm.1 (by omega) f1 (by omega) hrf) ?_
        rintro fl ρ C'' ⟨rfl, rfl, f', f1', hff, hrf', hn, rfl⟩
        refine ⟨rfl, ?_⟩
        rw [evSs_nil, wps_ok]
        refine ⟨rfl, rfl, zs, f', _, _, rfl, fun x hx => hin x (by simp [hx]), f1', Nat.dvd_trans hff hfB, hrf', fun x hx => ?_, rfl⟩
        rcases hdone x hx with h | h
        · rcases List.mem_cons.mp h with rfl | h
          · exact .inr hn
          · exact .inl h
        · exact .inr fun hd => h (Nat.dvd_trans hd hff))
    (by
      rintro ρ C' ⟨rfl, zs, f, x4, x5, hz, hin, f1, hfB, hrf, hdone, rfl⟩
      have : zs = [] := by cases zs with | nil => rfl | cons z zs => simp at hz
      subst this
      exact ⟨rfl, rfl, f, x4, x5, f1, hfB, hrf, fun x hx => (hdone x hx).resolve_left (by simp), rfl⟩)
    (xs.map pD) [some (ruleD P Q), some (.int m), some (.int B), some (.int B), none, none] C
    ⟨rfl, xs, B, none, none, rfl, fun x hx => hx, B1, Nat.dvd_refl _, hrB, fun x hx => .inl hx, rfl⟩
  obtain ⟨fl, ρ, C', e, rfl, rfl, f, x4, x5, f1, hfB, hrf, hdone, rfl⟩ := wps_get key
  have hfr : f = r := by
    obtain ⟨c, hc⟩ := hrf
    by_cases c1 : c = 1
    · rw [hc, c1, Nat.mul_one]
    · exfalso
      have c0 : c ≠ 0 := fun e => by rw [e] at hc; omega
      obtain ⟨l, hl, hlc⟩ := has_prime c (by omega)
      have hlB : l ∣ prodL xs := by rw [pf.prod]; exact Nat.dvd_trans hlc (Nat.dvd_trans ⟨r, by rw [hc, Nat.mul_comm]⟩ hfB)
      obtain ⟨x, hx, rfl⟩ := Pm.dvd_prod hl (fun y hy => (pf.pm y hy).1) hlB
      exact hdone x hx (by rw [hc]; exact Nat.mul_dvd_mul_left r hlc)
  subst hfr
  unfold lTest lBody at e
  simp -implicitDefEqProofs [F_least_part, e1, e]
def BoundIn (T : Tab) (f : Nat) : Prop := ∀ (d : Nat) (C : Cells) (P Q : Int) (l : Nat), RuleOk P Q → Pm l → l < 4000000000 → callF T (d + 2) f [ruleD P Q, .int l] C = .ok (.int (bnd P Q l : Nat)) C
theorem s_bound {f fj fb : Nat} (h : T.fn f = some (F_bound_in fj fb)) (hj : T.fn fj = some F_jacobi_in) (hb : T.fn fb = some F_big_d) : BoundIn T f := by
  intro d C P Q l ro hl lb
  rw [callF_eq h rfl]
  have h2 : (0 : Int) < 2 := by omega
  by_cases e2 : l = 2
  · subst e2
    obtain ⟨u, hu⟩ : ∃ u : Int, u = P % 2 := ⟨_, rfl⟩
    by_cases hp : u = 0
    · have : bnd P Q 2 = 2 := by simp [bnd, ← hu, hp]
      rw [this]
      simp -implicitDefEqProofs [F_bound_in, mod_int _ _ h2, ← hu, hp]
    · have : bnd P Q 2 = 3 := by simp [bnd, ← hu, hp]
      rw [this]
      simp -implicitDefEqProofs [F_bound_in, mod_int _ _ h2, ← hu, hp]
  · have e2' : ¬ (l : Int) = 2 := by omega
    have c1 := s_big_d (T := T) (d := d) (C := C) hb ro
    have c2 := s_jacobi (T := T) (d := d) (C := C) hj (Dd := P * P - 4 * Q) (pm_odd hl e2) (by unfold WMAX; omega)
    have hr := jx_range ((P * P - 4 * Q) % l).toNat l
    obtain ⟨j, hjj⟩ : ∃ j : Int, j = jxi (P * P - 4 * Q) l := ⟨_, rfl⟩
    rw [← hjj] at c2
    have l2 := hl.1
    have hB : ((bnd P Q l : Nat) : Int) = l - j := by
      unfold bnd
      rw [if_neg e2, ← hjj]
      refine Int.toNat_of_nonneg ?_
      rw [hjj]; unfold jxi
      rcases hr with r | r | r <;> rw [r] <;> omega
    rw [hB]
    by_cases j0 : j = 0
    · subst j0
      simp -implicitDefEqProofs [F_bound_in, e2, e2', c1, c2]
    · simp -implicitDefEqProofs [F_bound_in, e2, e2', c1, c2, j0]
/-- what a prime is asked with: it does not divide q, and is not too great -/
structure PmOk (Q : Int) (l : Nat) : Prop where
  pm : Pm l
  nq : ¬ (l : Int) ∣ Q
  lt : l < 4000000000
def PrimePlace (T : Tab) (f : Nat) : Prop := ∀ (d : Nat) (C : Cells) (P Q : Int) (l : Nat), RuleOk P Q → PmOk Q l → ∃ r, callF T (d + 4) f [ruleD P Q, .int l] C = .ok (.int (r : Nat)) C ∧ Rk P Q l r ∧ r ∣ bnd P Q l
theorem pmRank {P Q : Int} {l : Nat} (h : PmOk Q l) : ∃ r, Rk P Q l r ∧ r ∣ bnd P Q l := by
  obtain ⟨a, b, c⟩ := bnd_ok (P := P) h.pm h.nq
  exact rk_of (Pm.copQ1 h.pm h.nq) _ b a
theorem s_prime_place {f fl fb : Nat} (h : T.fn f = some (F_prime_place_in fl fb)) (hl : LeastPart T fl) (hb : BoundIn T fb) : PrimePlace T f := by
  intro d C P Q l ro ok
  obtain ⟨r, hr, hd⟩ := pmRank (P := P) ok
  obtain ⟨_, b1, b2⟩ := bnd_ok (P := P) ok.pm ok.nq
  have lt := ok.lt
  have l2 := ok.pm.1
  refine ⟨r, ?_, hr, hd⟩
  rw [callF_eq h rfl]
  have c1 := hb (d + 1) C P Q l ro ok.pm ok.lt
  have c2 := hl d C P Q l r (bnd P Q l) ro hr (by omega) (lt2_of_lt (k := 100) (by omega) (by omega) (by omega)) b1 (by omega) hd
  simp -implicitDefEqProofs [F_prime_place_in, c1, c2]
def Ground (T : Tab) (f : Nat) : Prop := ∀ (d : Nat) (C : Cells) (P Q : Int) (l : Nat), RuleOk P Q → PmOk Q l → ∃ g, callF T (d + 5) f [ruleD P Q, .int l] C = .ok (.int (g : Nat)) C ∧ Rk P Q (l ^ b0 l) g ∧ g ≤ l + 4
theorem s_ground {f fp fl : Nat} (h : T.fn f = some (F_ground_in fp fl)) (hp : PrimePlace T fp) (hl : LeastPart T fl) : Ground T f := by
  intro d C P Q l ro ok
  rw [callF_eq h rfl]
  by_cases e2 : l = 2
  · subst e2
    obtain ⟨r, c1, hr, hd⟩ := hp d C P Q 2 ro ok
    obtain ⟨_, b1, b2⟩ := bnd_ok (P := P) ok.pm ok.nq
    have r3 : r ≤ 3 := Nat.le_trans (Nat.le_of_dvd (by omega) hd) b2
    have h4 := four_of_two (P := P) (Q := Q) (r := r) (by exact_mod_cast hr.self)
    have hr1 := hr.1
    obtain ⟨g, hg, hgd⟩ := rk_of (m := 4) (P := P) (pm_cop_four (by exact_mod_cast ok.nq)) (2 * r) (by omega) (by exact_mod_cast h4)
    obtain ⟨B, hB⟩ : ∃ B : Nat, B = 2 * r := ⟨_, rfl⟩
    have eB : (2 : Int) * (r : Int) = (B : Int) := by omega
    have c2 := hl (d + 1) C P Q 4 g B ro hg (by omega) (lt2_of_lt (k := 100) (by omega) (by omega) (by omega)) (by omega) (by omega) (by rw [hB]; exact hgd)
    have k2 : bits 2 < 63 := by decide
    have c1' : callF T (d + 4) fp [ruleD P Q, .int 2] C = .ok (.int (r : Nat)) C := c1
    have c2' : callF T (d + 4) fl [ruleD P Q, .int 4, .int (B : Nat)] C = .ok (.int (g : Nat)) C := c2
    refine ⟨g, by simp -implicitDefEqProofs [F_ground_in, c1', mul_int _ _ (.inl k2), eB, c2'], hg, ?_⟩
    have := Nat.le_of_dvd (by omega) hgd
    omega
  · have l2 := ok.pm.1
    have e2' : (2 : Int) < (l : Int) := by omega
    have e2'' : 2 < l := by omega
    obtain ⟨r, c1, hr, hd⟩ := hp d C P Q l ro ok
    obtain ⟨_, b1, b2⟩ := bnd_ok (P := P) ok.pm ok.nq
    refine ⟨r, by simp -implicitDefEqProofs [F_ground_in, e2', e2'', c1], ?_, ?_⟩
    · unfold b0; rw [if_neg e2, Nat.pow_one]; exact hr
    · have := Nat.le_of_dvd (by omega) hd
      omega
theorem zero_of {P Q : Int} (ro : RuleOk P Q) {g : Nat} (g1 : 1 ≤ g) : (zp P Q = none → U P Q g ≠ 0) ∧ (∀ z, zp P Q = some z → 0 < z ∧ (U P Q g = 0 ↔ g % z = 0)) := by
  obtain ⟨h1, h2⟩ := zp_spec (p := P) ro.q0
  exact ⟨fun h => h2 h g g1, fun z hz => ⟨(h1 z hz).1, (h1 z hz).2 g⟩⟩
def exD : Option Nat → D
  | none => .non
  | some e => .int e
/-- what the excess tells: the ground, by size not too great -/
def Excess (T : Tab) (f : Nat) : Prop := ∀ (d : Nat) (C : Cells) (P Q : Int) (l : Nat), RuleOk P Q → PmOk Q l → l ≤ 31700 → ∃ o : Option Nat, callF T (d + 6) f [ruleD P Q, .int l] C = .ok (exD o) C ∧ ∀ g, Rk P Q (l ^ b0 l) g → (o = none → U P Q g = 0) ∧ (∀ e, o = some e → b0 l ≤ e ∧ Ex P Q l e g)
theorem s_excess {f fp fz fg : Nat} (h : T.fn f = some (F_excess_in fp fz fg)) (hp : PairMod T fp) (hz : ZeroIn T fz) (hg : Ground T fg) : Excess T f := by
  intro d C P Q l ro ok lb
  obtain ⟨g, c1, hr, g2⟩ := hg d C P Q l ro ok
  have c2 := hz (d + 3) C P Q ro
  have g1 := hr.1
  have l2 := ok.pm.1
  have hl : (0 : Int) < l := by omega
  rw [callF_eq h rfl]
  obtain ⟨zn, zs⟩ := zero_of ro g1
  by_cases u0 : U P Q g = 0
  · cases hzp : zp P Q with
    | none => exact absurd u0 (zn hzp)
    | some z =>
      obtain ⟨z0, hzz⟩ := zs z hzp
      rw [hzp] at c2
      have hm : g % z = 0 := hzz.mp u0
      have hz0 : (0 : Int) < z := by omega
      have em : (g : Int) % (z : Int) = 0 := by exact_mod_cast hm
      refine ⟨none, ?_, fun g' hg' => ⟨fun _ => by rw [hg'.uniq hr]; exact u0, fun e he => by cases he⟩⟩
      simp only [ozD] at c2
      simp -implicitDefEqProofs [F_excess_in, c1, c2, mod_int _ _ hz0, em, exD]
  · -- the loop
    have key := wloop_inv (c := tst T.glob (callF T (d + 5)) (.cmp .eq (.idx (.call fp (.cons (.var 0) (.cons (.var 2) (.cons (.var 5) .nil)))) (.lit (.int 0))) (.lit (.int 0)))) (b := blk T.glob (callF T (d + 5)) (.cons (.par [4, 5] [false, false] (.cons (.bin .add (.var 4) (.lit (.int 1))) (.cons (.bin .mul (.var 5) (.var 1)) .nil))) .nil))
      (P := fun fl ρ C' => fl = .next ∧ C' = C ∧ ∃ (e : Nat) (x5 : Option D), Ex P Q l e g ∧ ρ = [some (ruleD P Q), some (.int l), some (.int g), some (ozD (zp P Q)), some (.int e), x5])
      (fun k ρ C' => C' = C ∧ ∃ (e w : Nat), e + k = 400000 ∧ w = l ^ (e + 1) ∧ ((l ^ e : Nat) : Int) ∣ U P Q g ∧ ρ = [some (ruleD P Q), some (.int l), some (.int g), some (ozD (zp P Q)), some (.int e), some (.int w)])
      (by
        rintro k ρ C' ⟨rfl, e, w, hek, hw, hd, rfl⟩
        have hle : l ^ e ≤ (U P Q g).natAbs := Nat.le_of_dvd (by omega) (by
          have := Int.natAbs_dvd_natAbs.mpr hd
          rwa [Int.natAbs_natCast] at this)
        have hU := U_lt2 ro g
        unfold Lt2 at hU
        have hlt : l ^ e < 2 ^ (11 * g + 2) := Nat.lt_of_le_of_lt hle hU
        have hlt2 : l ^ e < 2 ^ 348800 := Nat.lt_of_lt_of_le hlt (Nat.pow_le_pow_right (by omega) (by omega))
        have ll : Lt2 15 (l : Int) := by unfold Lt2; omega
        have hwL : Lt2 348815 (w : Int) := by
          have := Lt2.mul (a := 348800) (b := 15) (i := ((l ^ e : Nat) : Int)) (j := (l : Int)) (by unfold Lt2; rw [Int.natAbs_natCast]; exact hlt2) ll
          rw [hw, Nat.pow_succ, Int.natCast_mul]; exact this
        have w0 : 0 < w := by rw [hw]; exact Nat.pow_pos (by omega)
        have cp := hp (d + 3) C' P Q g w ro (n5000 (by omega)) w0 (hwL.mono (by omega))
        obtain ⟨u, hu⟩ : ∃ u : Int, u = U P Q g % (w : Int) := ⟨_, rfl⟩
        unfold pairD at cp
        rw [← hu] at cp
        refine ⟨decide (u = 0), by simp -implicitDefEqProofs [tst, cp], fun h0 => ?_, fun h1 => ?_⟩
        · have hn : ¬ u = 0 := by simpa using h0
          refine ⟨rfl, rfl, e, _, ⟨hd, fun hd2 => hn ?_⟩, rfl⟩
          rw [hu, hw]; exact Int.emod_eq_zero_of_dvd hd2
        · have hu0 : u = 0 := by simpa using h1
          have hd2 : ((l ^ (e + 1) : Nat) : Int) ∣ U P Q g := by rw [← hw]; exact Int.dvd_of_emod_eq_zero (by rw [← hu]; exact hu0)
          -- e stays below
          have he : e + 1 < 348801 := by
            have h1 : l ^ (e + 1) ≤ (U P Q g).natAbs := Nat.le_of_dvd (by omega) (by
              have := Int.natAbs_dvd_natAbs.mpr hd2
              rwa [Int.natAbs_natCast] at this)
            have h2 : 2 ^ (e + 1) ≤ l ^ (e + 1) := Nat.pow_le_pow_left l2 _
            have h3 : 2 ^ (e + 1) < 2 ^ (11 * g + 2) := by omega
            have := (Nat.pow_lt_pow_iff_right (by omega : 1 < 2)).mp h3
            omega
          obtain ⟨e', he'⟩ : ∃ e', e' = e + 1 := ⟨_, rfl⟩
          obtain ⟨w', hw'⟩ : ∃ w', w' = w * l := ⟨_, rfl⟩
          have ee : (e : Int) + 1 = (e' : Int) := by omega
          have ew : (w : Int) * (l : Int) = (w' : Int) := by rw [hw', Int.natCast_mul]
          simp only [blk]
          refine wps_cons (ρ' := [some (ruleD P Q), some (.int l), some (.int g), some (ozD (zp P Q)), some (.int e'), some (.int w')]) (C' := C') (by simp -implicitDefEqProofs [ee, mul_lt2 hwL ll (by omega), ew]) ?_
          rw [evSs_nil, wps_ok]
          exact ⟨k - 1, by omega, rfl, e', w', by omega, by rw [hw', hw, he', Nat.pow_succ l (e + 1)], by rw [he']; exact hd2, rfl⟩)
      WMAX 400000 [some (ruleD P Q), some (.int l), some (.int g), some (ozD (zp P Q)), some (.int 0), some (.int l)] C (by unfold WMAX; omega) ⟨rfl, 0, l, by omega, by simp, by simp, rfl⟩
    obtain ⟨fl, ρ, C', e, rfl, rfl, ex, x5, hex, rfl⟩ := wps_get key
    refine ⟨some ex, ?_, fun g' hg' => ⟨fun he => by (cases he), fun e' he' => ?_⟩⟩
    · cases hzp : zp P Q with
      | none =>
        rw [hzp] at c2 e
        simp only [ozD] at c2 e
        simp -implicitDefEqProofs [F_excess_in, c1, c2, e, exD]
      | some z =>
        obtain ⟨z0, hzz⟩ := zs z hzp
        rw [hzp] at c2 e
        simp only [ozD] at c2 e
        obtain ⟨v, hv⟩ : ∃ v : Nat, v = g % z := ⟨_, rfl⟩
        have hv0 : ¬ v = 0 := fun hh => u0 (hzz.mpr (by rw [← hv]; exact hh))
        have hz0 : (0 : Int) < z := by omega
        have em : (g : Int) % (z : Int) = (v : Int) := by rw [hv, Int.natCast_emod]
        simp -implicitDefEqProofs [F_excess_in, c1, c2, mod_int _ _ hz0, em, hv0, e, exD]
    · simp only [Option.some.injEq] at he'
      subst he'
      rw [hg'.uniq hr]
      refine ⟨?_, hex⟩
      refine Nat.le_of_not_lt fun hlt => hex.2 ?_
      exact Int.dvd_trans (Int.natCast_dvd_natCast.mpr (Nat.pow_dvd_pow l (by omega))) hr.self
end
end ML

set_option maxHeartbeats 4000000
/-! First places of powers and of any number, by the program. -/
namespace ML
open PySem NJ
theorem rngop_int (i : Int) (h1 : -(2 ^ 62) ≤ i) (h2 : i < 2 ^ 62) : rngop [D.int i] = some ((List.range i.toNat).map fun k => D.int (k : Nat)) := by
  have : rngOk i = true := by unfold rngOk; exact decide_eq_true ⟨h1, h2⟩
  simp only [rngop, this, if_true, rangeD, Int.sub_zero, Int.zero_add]
section
variable {T : Tab} {d : Nat} {C : Cells}
def PowerPlace (T : Tab) (f : Nat) : Prop := ∀ (d : Nat) (C : Cells) (P Q : Int) (l k : Nat), RuleOk P Q → PmOk Q l → 1 ≤ k → k ≤ 1000 → (k = 1 ∨ l ≤ 31700) → ∃ r, callF T (d + 7) f [ruleD P Q, .int l, .int k] C = .ok (.int (r : Nat)) C ∧ Rk P Q (l ^ k) r ∧ r ≤ (l + 4) * l ^ k
theorem s_power_place {f fe fg fp : Nat} (h : T.fn f = some (F_power_place_in fe fg fp)) (he : Excess T fe) (hg : Ground T fg) (hp : PrimePlace T fp) : PowerPlace T f := by
  intro d C P Q l k ro ok k1 kb hk
  have l2 := ok.pm.1
  have lt := ok.lt
  have bl : bits (l : Int) < 63 := bits_nat (by omega)
  rw [callF_eq h rfl]
  by_cases e1 : k = 1
  · subst e1
    obtain ⟨r, c1, hr, hd⟩ := hp (d + 2) C P Q l ro ok
    obtain ⟨_, b1, b2⟩ := bnd_ok (P := P) ok.pm ok.nq
    refine ⟨r, ?_, by rw [Nat.pow_one]; exact hr, ?_⟩
    · simp -implicitDefEqProofs [F_power_place_in, c1]
    · rw [Nat.pow_one]
      have := Nat.le_of_dvd (by omega) hd
      have : (l + 4) * 1 ≤ (l + 4) * l := Nat.mul_le_mul_left _ (by omega)
      omega
  · have e1' : ¬ (k : Int) = 1 := by omega
    have lb : l ≤ 31700 := by rcases hk with h | h <;> omega
    obtain ⟨g, c1, hr, g2⟩ := hg (d + 1) C P Q l ro ok
    obtain ⟨o, c2, ho⟩ := he d C P Q l ro ok lb
    have hkb : b0 l ≤ k := by unfold b0; split <;> omega
    have lk : 1 ≤ l ^ k := Nat.pow_pos (by omega)
    cases o with
    | none =>
      have hz := (ho g hr).1 rfl
      refine ⟨g, ?_, rk_power_zero ok.pm ok.nq hr hz hkb, ?_⟩
      · simp only [exD] at c2
        simp -implicitDefEqProofs [F_power_place_in, e1, e1', c1, c2]
      · have : (l + 4) * 1 ≤ (l + 4) * l ^ k := Nat.mul_le_mul_left _ lk
        omega
    | some e =>
      obtain ⟨hb, hex⟩ := (ho g hr).2 e rfl
      refine ⟨g * l ^ (k - e), ?_, rk_power ok.pm ok.nq hr hb hex hkb, ?_⟩
      · simp only [exD] at c2
        by_cases hbig : (e : Int) < 2 ^ 61
        · have hrg : rngop [D.int ((k : Int) - (e : Int))] = some ((List.range (k - e)).map fun i => D.int (i : Nat)) := by
            rw [rngop_int _ (by omega) (by omega)]
            have : ((k : Int) - (e : Int)).toNat = k - e := by omega
            rw [this]
          have key := floop_rng0 (n := k - e) (t := 5) (b := blk T.glob (callF T (d + 6)) (.cons (.set 3 (.bin .mul (.var 3) (.var 1))) .nil))
            (P := fun fl ρ C' => fl = .next ∧ C' = C ∧ ∃ (w : Nat) (x5 : Option D), w = g * l ^ (k - e) ∧ ρ = [some (ruleD P Q), some (.int l), some (.int k), some (.int w), some (.int e), x5])
            (fun i ρ C' => C' = C ∧ ∃ (w : Nat) (x5 : Option D), w = g * l ^ i ∧ ρ = [some (ruleD P Q), some (.int l), some (.int k), some (.int w), some (.int e), x5])
            (by
              rintro i ρ C' hi ⟨rfl, w, x5, hw, rfl⟩
              obtain ⟨w', hw'⟩ : ∃ w' : Nat, w' = w * l := ⟨_, rfl⟩
              have ew : (w : Int) * (l : Int) = (w' : Int) := by rw [hw', Int.natCast_mul]
              simp only [blk]
              refine wps_cons (ρ' := [some (ruleD P Q), some (.int l), some (.int k), some (.int w'), some (.int e), some (.int (i : Nat))]) (C' := C') (by simp -implicitDefEqProofs [mul_int _ _ (.inr (.inl bl)), ew]) ?_
              rw [evSs_nil, wps_ok]
              exact ⟨rfl, w', _, by rw [hw', hw, Nat.pow_succ, Nat.mul_assoc], rfl⟩)
            (fun ρ C' h => ⟨rfl, h⟩) (all := (List.range (k - e)).map fun i => D.int (i : Nat)) (ρ := [some (ruleD P Q), some (.int l), some (.int k), some (.int g), some (.int e), none]) (C := C) ⟨rfl, g, none, by simp, rfl⟩
          obtain ⟨fl, ρ, C', ee, rfl, rfl, w, x5, hw, rfl⟩ := wps_get key
          rw [← hw]
          simp -implicitDefEqProofs [F_power_place_in, e1, e1', c1, c2, hrg, ee]
        · exfalso
          -- the excess is not so great
          have hU := U_lt2 ro g
          unfold Lt2 at hU
          have u0 : U P Q g ≠ 0 := fun hz => hex.2 (by rw [hz]; exact ⟨0, by simp⟩)
          have hle : l ^ e ≤ (U P Q g).natAbs := Nat.le_of_dvd (by omega) (by
            have := Int.natAbs_dvd_natAbs.mpr hex.1
            rwa [Int.natAbs_natCast] at this)
          have h2 : 2 ^ e ≤ l ^ e := Nat.pow_le_pow_left l2 _
          have h3 : 2 ^ e < 2 ^ (11 * g + 2) := by omega
          have := (Nat.pow_lt_pow_iff_right (by omega : 1 < 2)).mp h3
          omega
      · have h1 : l ^ (k - e) ≤ l ^ k := Nat.pow_le_pow_right (by omega) (by omega)
        have h2 : g ≤ l + 4 := g2
        exact Nat.mul_le_mul h2 h1
theorem s_lcm {f fc : Nat} (h : T.fn f = some (F_lcm fc)) (hc : T.fn fc = some F_common) {a b : Nat} (a1 : 1 ≤ a) (b1 : 1 ≤ b) (ha : Lt2 8000 (a : Int)) (hb : Lt2 8000 (b : Int)) : callF T (d + 2) f [.int a, .int b] C = .ok (.int (Nat.lcm a b : Nat)) C := by
  rw [callF_eq h rfl]
  have c1 := s_common (T := T) (d := d) (C := C) hc (N := 8000) (by unfold WMAX; omega) ha hb
  obtain ⟨g, hg⟩ : ∃ g : Nat, g = Nat.gcd a b := ⟨_, rfl⟩
  have c1' : callF T (d + 1) fc [.int a, .int b] C = .ok (.int (g : Nat)) C := by rw [hg]; exact c1
  have g1 : 1 ≤ g := by rw [hg]; exact Nat.gcd_pos_of_pos_left b a1
  have gb : g ≤ b := by rw [hg]; exact Nat.gcd_le_right a b1
  have hg0 : (0 : Int) < g := by omega
  have bg : bits (g : Int) < 9000 := by
    have : Lt2 8000 (g : Int) := by unfold Lt2 at *; omega
    exact Nat.lt_of_lt_of_le (bits_lt this (by omega)) (by omega)
  obtain ⟨z, hz⟩ : ∃ z : Nat, z = a / g := ⟨_, rfl⟩
  have ez : (a : Int) / (g : Int) = (z : Int) := by rw [hz, Int.natCast_ediv]
  have za : z ≤ a := by rw [hz]; exact Nat.div_le_self _ _
  have lz : Lt2 8000 (z : Int) := by unfold Lt2 at *; omega
  have em : ∀ C, binop .mul (.int z) (.int b) C = some (.int (Nat.lcm a b : Nat)) := fun C => by
    rw [mul_lt2 lz hb (by omega)]
    congr 2
    rw [← Int.natCast_mul]
    congr 1
    rw [hz, hg]
    unfold Nat.lcm
    exact (Nat.mul_div_right_comm (Nat.gcd_dvd_left a b) b).symm
  simp -implicitDefEqProofs [F_lcm, c1', fdiv_int _ _ hg0 bg, ez, em]
/-- a number prime to q -/
structure NumOk (Q : Int) (m : Nat) : Prop where
  m1 : 1 ≤ m
  mb : m ≤ 1000000000
  cop : Int.gcd m Q = 1
theorem pf_dvd {n : Nat} {xs : List (Nat × Nat)} (pf : PF n xs) {x : Nat × Nat} (hx : x ∈ xs) : x.1 ^ x.2 ∣ n := by
  rw [← pf.prod]
  have : ∀ ws : List (Nat × Nat), x ∈ ws → x.1 ^ x.2 ∣ prodL ws := by
    intro ws
    induction ws with
    | nil => intro h; cases h
    | cons w ws ih =>
      intro h
      rcases List.mem_cons.mp h with rfl | h
      · exact Nat.dvd_mul_right _ _
      · exact Nat.dvd_trans (ih h) (Nat.dvd_mul_left _ _)
  exact this xs hx
theorem num_prime {Q : Int} {m : Nat} (ok : NumOk Q m) {xs : List (Nat × Nat)} (pf : PF m xs) {x : Nat × Nat} (hx : x ∈ xs) : PmOk Q x.1 ∧ 1 ≤ x.2 ∧ x.2 ≤ 1000 ∧ (x.2 = 1 ∨ x.1 ≤ 31700) ∧ x.1 ^ x.2 ≤ 1000000000 := by
  obtain ⟨hp, h1⟩ := pf.pm x hx
  have hd := pf_dvd pf hx
  have hle := Nat.le_of_dvd (by have := ok.m1; omega) hd
  have mb := ok.mb
  have p2 := hp.1
  have hd1 : x.1 ∣ x.1 ^ x.2 := by
    obtain ⟨e, he⟩ : ∃ e, x.2 = e + 1 := ⟨x.2 - 1, by omega⟩
    rw [he, Nat.pow_succ]; exact Nat.dvd_mul_left _ _
  have hle1 := Nat.le_of_dvd (by have := ok.m1; omega) (Nat.dvd_trans hd1 hd)
  refine ⟨⟨hp, fun hq => ?_, by omega⟩, h1, ?_, ?_, by omega⟩
  · have h3 : (x.1 : Int) ∣ (Int.gcd m Q : Int) := Int.dvd_coe_gcd (Int.natCast_dvd_natCast.mpr (Nat.dvd_trans hd1 hd)) hq
    rw [ok.cop] at h3
    have := dvd_one_of h3
    omega
  · have h2 : 2 ^ x.2 ≤ x.1 ^ x.2 := Nat.pow_le_pow_left p2 _
    have h3 : 2 ^ x.2 < 2 ^ 30 := by omega
    have := (Nat.pow_lt_pow_iff_right (by omega : 1 < 2)).mp h3
    omega
  · by_cases e : x.2 = 1
    · exact .inl e
    · refine .inr (Nat.le_of_not_lt fun hh => ?_)
      have h2 : x.1 ^ 2 ≤ x.1 ^ x.2 := Nat.pow_le_pow_right (by omega) (by omega)
      have h3 : 31701 * 31701 ≤ x.1 * x.1 := Nat.mul_le_mul hh hh
      rw [Nat.pow_succ, Nat.pow_one] at h2
      omega
theorem rank_ex {P Q : Int} {m : Nat} (h : ∃ k, 1 ≤ k ∧ (m : Int) ∣ U P Q k) (hc : Int.gcd m Q = 1) : ∃ r, Rk P Q m r := by
  obtain ⟨k, a, b⟩ := h
  obtain ⟨r, hr, _⟩ := rk_of hc k a b
  exact ⟨r, hr⟩
def FirstIn (T : Tab) (f : Nat) : Prop := ∀ (d : Nat) (C : Cells) (P Q : Int) (m : Nat), RuleOk P Q → NumOk Q m → ∃ r, callF T (d + 8) f [ruleD P Q, .int m] C = .ok (.int (r : Nat)) C ∧ Rk P Q m r ∧ r < 2 ^ 2000
theorem s_first_in {f fq fl fp fc : Nat} (h : T.fn f = some (F_first_place_in fq fl fp)) (hq : PrimesOf T fq) (hl : T.fn fl = some (F_lcm fc)) (hc : T.fn fc = some F_common) (hp : PowerPlace T fp) : FirstIn T f := by
  intro d C P Q m ro ok
  have m1 := ok.m1
  have mb := ok.mb
  rw [callF_eq h rfl]
  obtain ⟨xs, e1, pf, _⟩ := hq (d + 6) C m m1 (by omega)
  have hlen : xs.length ≤ 30 := asc_len pf.pm (by rw [pf.prod]; omega)
  -- the loop
  have key := floop_inv (gd := none) (all := xs.map pD) (t := .many [3, 4]) (b := blk T.glob (callF T (d + 7)) (.cons (.set 2 (.call fl (.cons (.var 2) (.cons (.call fp (.cons (.var 0) (.cons (.var 3) (.cons (.var 4) .nil)))) .nil)))) .nil))
    (P := fun fl ρ C' => fl = .next ∧ C' = C ∧ ∃ (r : Nat) (x3 x4 : Option D), Rk P Q m r ∧ r < 2 ^ 2000 ∧ ρ = [some (ruleD P Q), some (.int m), some (.int r), x3, x4])
    (fun ys ρ C' => C' = C ∧ ∃ (ws zs : List (Nat × Nat)) (r : Nat) (x3 x4 : Option D), ys = zs.map pD ∧ xs = ws ++ zs ∧ Rk P Q (prodL ws) r ∧ r < 2 ^ (64 * ws.length + 1) ∧ ρ = [some (ruleD P Q), some (.int m), some (.int r), x3, x4])
    (by
      rintro x ys ρ C' ⟨rfl, ws, zs, r, x3, x4, hz, hx, hr, rb, rfl⟩
      cases zs with
      | nil => simp at hz
      | cons z zs =>
        simp only [List.map_cons, List.cons.injEq] at hz
        obtain ⟨rfl, rfl⟩ := hz
        have hzx : z ∈ xs := by rw [hx]; simp
        obtain ⟨pok, z1, z2, z3, z4⟩ := num_prime ok pf hzx
        obtain ⟨r', c1, hr', rb'⟩ := hp d C' P Q z.1 z.2 ro pok z1 z2 z3
        have lt := pok.lt
        have hb' : r' < 2 ^ 64 := by
          have : (z.1 + 4) * z.1 ^ z.2 ≤ 4000000004 * 1000000000 := Nat.mul_le_mul (by omega) z4
          omega
        have r1 := hr.1
        have r1' := hr'.1
        have hwl : ws.length + 1 ≤ 30 := by rw [hx] at hlen; simp at hlen; omega
        have c2 := s_lcm (T := T) (d := d + 5) (C := C') hl hc r1 r1' (by
          refine Lt2.mono (a := 64 * ws.length + 1) ?_ (by omega)
          unfold Lt2; rw [Int.natAbs_natCast]; exact rb) (by
          refine Lt2.mono (a := 64) ?_ (by omega)
          unfold Lt2; rw [Int.natAbs_natCast]; exact hb')
        refine ⟨[some (ruleD P Q), some (.int m), some (.int r), some (.int z.1), some (.int z.2)], rfl, ?_⟩
        simp only [blk]
        refine wps_cons (ρ' := [some (ruleD P Q), some (.int m), some (.int (Nat.lcm r r' : Nat)), some (.int z.1), some (.int z.2)]) (C' := C') (by simp -implicitDefEqProofs [c1, c2]) ?_
        rw [evSs_nil, wps_ok]
        refine ⟨rfl, rfl, ws ++ [z], zs, Nat.lcm r r', _, _, rfl, by rw [hx]; simp, ?_, ?_, rfl⟩
        · rw [prodL_app]
          have e2 : prodL [z] = z.1 ^ z.2 := by simp [prodL, ppow]
          rw [e2]
          refine hr.mul hr' ?_
          rw [Nat.gcd_comm]
          refine cop_prod (x := z) pok.pm (fun y hy => (pf.pm y (by rw [hx]; simp [hy])).1) fun y hy => ?_
          have hasc := pf.asc
          rw [hx] at hasc
          have := (List.pairwise_append.mp hasc).2.2 y hy z (by simp)
          omega
        · have hle : Nat.lcm r r' ≤ r * r' := Nat.div_le_self _ _
          have hm : r * r' < 2 ^ (64 * ws.length + 1) * 2 ^ 64 := Nat.mul_lt_mul'' rb hb'
          rw [← Nat.pow_add] at hm
          have e3 : 64 * (ws ++ [z]).length + 1 = 64 * ws.length + 1 + 64 := by simp; omega
          rw [e3]; omega)
    (by
      rintro ρ C' ⟨rfl, ws, zs, r, x3, x4, hz, hx, hr, rb, rfl⟩
      have : zs = [] := by cases zs with | nil => rfl | cons z zs => simp at hz
      subst this
      rw [List.append_nil] at hx
      subst hx
      rw [pf.prod] at hr
      refine ⟨rfl, rfl, r, x3, x4, hr, ?_, rfl⟩
      exact Nat.lt_of_lt_of_le rb (Nat.pow_le_pow_right (by omega) (by omega)))
    (xs.map pD) [some (ruleD P Q), some (.int m), some (.int 1), none, none] C ⟨rfl, [], xs, 1, none, none, rfl, by simp, by simpa [prodL] using rk_one P Q, by simp, rfl⟩
  obtain ⟨fl', ρ, C', e, rfl, rfl, r, x3, x4, hr, rb, rfl⟩ := wps_get key
  exact ⟨r, by simp -implicitDefEqProofs [F_first_place_in, e1, e], hr, rb⟩
theorem s_sure_prime_to {f fc e fw fr : Nat} (h : T.fn f = some (F_sure_prime_to fc e fw fr)) (hc : T.fn fc = some F_common) (hw : SureWithin T fw) (hr : SureRule T fr) {P Q : Int} (ro : RuleOk P Q) {m : Nat} (ok : NumOk Q m) {t : Int} (ht : (m : Int) ≤ t) : callF T (d + 5) f [ruleD P Q, .int m, .int t] C = .ok (.tup [ruleD P Q, .int m]) C := by
  rw [callF_eq h rfl]
  have m1 := ok.m1
  have mb := ok.mb
  have c1 := hr d C P Q ro
  have c2 := hw (d + 1) C m 1 t (by omega) ht
  have c3 := s_common (T := T) (d := d + 3) (C := C) hc (N := 40) (by unfold WMAX; omega) (show Lt2 40 (m : Int) by unfold Lt2; omega) (ro.lq.mono (by omega))
  rw [ok.cop] at c3
  have c3' : callF T (d + 4) fc [.int m, .int Q] C = .ok (.int 1) C := c3
  simp -implicitDefEqProofs [F_sure_prime_to, c1, c2, c3', fin_tup, D.nocL]
theorem s_first_place {f fi fs fc e fw fr gm : Nat} (h : T.fn f = some (F_first_place fi fs gm)) (hi : FirstIn T fi) (hs : T.fn fs = some (F_sure_prime_to fc e fw fr)) (hc : T.fn fc = some F_common) (hw : SureWithin T fw) (hr : SureRule T fr) (hm : T.glob gm = some (.int 1000000000)) {P Q : Int} (ro : RuleOk P Q) {m : Nat} (ok : NumOk Q m) :
    ∃ r, callF T (d + 9) f [ruleD P Q, .int m] C = .ok (.int (r : Nat)) C ∧ Rk P Q m r ∧ r < 2 ^ 2000 := by
  rw [callF_eq h rfl]
  have mb := ok.mb
  have c1 := s_sure_prime_to (T := T) (d := d + 3) (C := C) hs hc hw hr ro ok (t := 1000000000) (by omega)
  obtain ⟨r, c2, hr', rb⟩ := hi d C P Q m ro ok
  exact ⟨r, by simp -implicitDefEqProofs [F_first_place, hm, c1, c2], hr', rb⟩
end
end ML

set_option maxHeartbeats 1000000
/-! First places are not too great. -/
namespace NJ
open ML
theorem ex_uniq {P Q : Int} {l e e' g : Nat} (h : Ex P Q l e g) (h' : Ex P Q l e' g) : e = e' := by
  refine Nat.le_antisymm (Nat.le_of_not_lt fun k => h'.2 ?_) (Nat.le_of_not_lt fun k => h.2 ?_)
  · exact Int.dvd_trans (Int.natCast_dvd_natCast.mpr (Nat.pow_dvd_pow l (by omega))) h.1
  · exact Int.dvd_trans (Int.natCast_dvd_natCast.mpr (Nat.pow_dvd_pow l (by omega))) h'.1
/-- how often a number goes -/
theorem often_ex {l : Nat} (l2 : 2 ≤ l) {x : Int} (hx : x ≠ 0) : ∃ e : Nat, ((l ^ e : Nat) : Int) ∣ x ∧ ¬ ((l ^ (e + 1) : Nat) : Int) ∣ x := by
  refine Classical.byContradiction fun hn => ?_
  have all : ∀ e : Nat, ((l ^ e : Nat) : Int) ∣ x := by
    intro e
    induction e with
    | zero => simp
    | succ e ih => exact Classical.byContradiction fun k => hn ⟨e, ih, k⟩
  have h1 := Nat.le_of_dvd (by omega) (by
    have := Int.natAbs_dvd_natAbs.mpr (all x.natAbs)
    rwa [Int.natAbs_natCast] at this : l ^ x.natAbs ∣ x.natAbs)
  have h2 : x.natAbs < l ^ x.natAbs := Nat.lt_pow_self (by omega)
  omega
section
variable {P Q : Int} {l : Nat} (h : Pm l) (hq : ¬ (l : Int) ∣ Q)
include h hq
theorem ground_ex : ∃ g, Rk P Q (l ^ b0 l) g ∧ g ≤ 2 * l ^ b0 l := by
  have l2 := h.1
  obtain ⟨a, b, c⟩ := bnd_ok (P := P) h hq
  obtain ⟨r, hr, hd⟩ := rk_of (P := P) (Pm.copQ1 h hq) _ b a
  have hle := Nat.le_of_dvd (by omega) hd
  by_cases e2 : l = 2
  · subst e2
    have h4 := four_of_two (P := P) (Q := Q) (r := r) (by exact_mod_cast hr.self)
    have hr1 := hr.1
    obtain ⟨g, hg, hgd⟩ := rk_of (m := 4) (P := P) (pm_cop_four (by exact_mod_cast hq)) (2 * r) (by omega) (by exact_mod_cast h4)
    have := Nat.le_of_dvd (by omega) hgd
    exact ⟨g, hg, by show g ≤ 2 * 2 ^ 2; omega⟩
  · unfold b0
    rw [if_neg e2, Nat.pow_one]
    exact ⟨r, hr, by omega⟩
theorem rk_pow_le {j r : Nat} (j1 : 1 ≤ j) (hr : Rk P Q (l ^ j) r) : r ≤ 2 * l ^ j := by
  have l2 := h.1
  by_cases hj : b0 l ≤ j
  · obtain ⟨g, hg, g2⟩ := ground_ex (P := P) h hq
    have hm : l ^ b0 l ≤ l ^ j := Nat.pow_le_pow_right (by omega) hj
    by_cases u0 : U P Q g = 0
    · rw [hr.uniq (rk_power_zero h hq hg u0 hj)]; omega
    · obtain ⟨e, h1, h2⟩ := often_ex l2 u0
      have he : b0 l ≤ e := Nat.le_of_not_lt fun k => h2 (Int.dvd_trans (Int.natCast_dvd_natCast.mpr (Nat.pow_dvd_pow l (by omega))) hg.self)
      rw [hr.uniq (rk_power h hq hg he ⟨h1, h2⟩ hj)]
      by_cases hje : j ≤ e
      · have : j - e = 0 := by omega
        rw [this, Nat.pow_zero, Nat.mul_one]; omega
      · have e1 : l ^ j = l ^ (j - b0 l) * l ^ b0 l := by rw [← Nat.pow_add]; congr 1; omega
        have e2 : l ^ (j - e) ≤ l ^ (j - b0 l) := Nat.pow_le_pow_right (by omega) (by omega)
        have := Nat.mul_le_mul g2 e2
        rw [e1]
        calc g * l ^ (j - e) ≤ 2 * l ^ b0 l * l ^ (j - b0 l) := this
          _ = 2 * (l ^ (j - b0 l) * l ^ b0 l) := by rw [Nat.mul_assoc, Nat.mul_comm (l ^ b0 l)]
  · have e2 : l = 2 := by unfold b0 at hj; split at hj <;> omega
    have ej : j = 1 := by subst e2; simp [b0] at hj; omega
    subst ej
    rw [Nat.pow_one] at hr ⊢
    obtain ⟨a, b, c⟩ := bnd_ok (P := P) h hq
    have := Nat.le_of_dvd (by omega) ((hr.2 _).mp a)
    omega
end
end NJ

set_option maxHeartbeats 4000000
/-! First places: what the defs do, told of any reading of calls; own going through. -/
namespace ML
open PySem NJ
theorem rngop_ab (a b : Int) (h1 : -(2 ^ 62) ≤ a) (h2 : a < 2 ^ 62) (h3 : -(2 ^ 62) ≤ b) (h4 : b < 2 ^ 62) : rngop [D.int a, D.int b] = some ((List.range (b - a).toNat).map fun k => D.int (a + (k : Nat))) := by
  have e1 : rngOk a = true := by unfold rngOk; exact decide_eq_true ⟨h1, h2⟩
  have e2 : rngOk b = true := by unfold rngOk; exact decide_eq_true ⟨h3, h4⟩
  simp only [rngop, e1, e2, Bool.and_self, if_true, rangeD]
def PLFirst (cf : CF) (f : Nat) : Prop := ∀ (P Q : Int) (m most r : Nat), RuleOk P Q → 1 ≤ m → m < 2 ^ 100 → most < 2 ^ 60 → Rk P Q m r → r ≤ most → ∀ C, cf f [ruleD P Q, .int m, .int most] C = .ok (.int r) C
def PLOften (cf : CF) (f : Nat) : Prop := ∀ (x : Int) (l e : Nat), 2 ≤ l → l < 2 ^ 62 → e < 10000 → ((l ^ e : Nat) : Int) ∣ x → ¬ ((l ^ (e + 1) : Nat) : Int) ∣ x → ∀ C, cf f [.int x, .int l] C = .ok (.int e) C
def PPExcess (cf : CF) (f : Nat) : Prop := ∀ (P Q : Int) (l g : Nat), RuleOk P Q → PmOk Q l → l ≤ 31700 → Rk P Q (l ^ b0 l) g → (U P Q g = 0 → ∀ C, cf f [ruleD P Q, .int l] C = .ok .non C) ∧ (∀ e, Ex P Q l e g → ∀ C, cf f [ruleD P Q, .int l] C = .ok (.int (e : Nat)) C)
def PPower (cf : CF) (f : Nat) : Prop := ∀ (P Q : Int) (l k r : Nat), RuleOk P Q → PmOk Q l → l ≤ 1000000000 → 1 ≤ k → k ≤ 60 → (k = 1 ∨ l ≤ 31700) → Rk P Q (l ^ k) r → ∀ C, cf f [ruleD P Q, .int l, .int k] C = .ok (.int r) C
def PFirst (cf : CF) (f : Nat) : Prop := ∀ (P Q : Int) (m r : Nat), RuleOk P Q → NumOk Q m → Rk P Q m r → ∀ C, cf f [ruleD P Q, .int m] C = .ok (.int r) C
def PDiv (cf : CF) (f : Nat) : Prop := ∀ (P Q : Int) (m n : Nat), RuleOk P Q → 1 ≤ m → (m : Int) ≤ 1000000000000000000000000000000 → (n : Int) ≤ 1000000000000000000 → ∀ C, cf f [ruleD P Q, .int m, .int n] C = .ok (.bl (decide (U P Q n % (m : Int) = 0))) C
def PZero (cf : CF) (f : Nat) : Prop := ∀ (P Q : Int), RuleOk P Q → ∀ C, cf f [ruleD P Q] C = .ok (ozD (zp P Q)) C
section
variable {T : Tab} {d : Nat} {C : Cells}
theorem s_lfirst {f : Nat} (h : T.fn f = some F__law_first) {P Q : Int} (ro : RuleOk P Q) {m most r : Nat} (m1 : 1 ≤ m) (m2 : m < 2 ^ 100) (hm : most < 2 ^ 60) (hr : Rk P Q m r) (hle : r ≤ most) : callF T (d + 1) f [ruleD P Q, .int m, .int most] C = .ok (.int r) C := by
  rw [callF_eq h rfl]
  have hm0 : (0 : Int) < m := by omega
  have lm : Lt2 100 (m : Int) := by unfold Lt2; rw [Int.natAbs_natCast]; exact m2
  obtain ⟨mo, hmo⟩ : ∃ x : Int, x = (most : Int) + 1 := ⟨_, rfl⟩
  have hrg : rngop [D.int 1, D.int mo] = some ((List.range most).map fun i => D.int (1 + (i : Nat))) := by
    rw [rngop_ab _ _ (by omega) (by omega) (by omega) (by omega)]
    have : (mo - 1).toNat = most := by omega
    rw [this]
  have key := floop_rng (a := 1) (n := most) (t := 3) (b := blk T.glob (callF T d) (.cons (.ife (.cmp .eq (.var 4) (.lit (.int 0))) (.cons (.ret (.var 3)) .nil) .nil)
      (.cons (.par [4, 5] [false, false] (.cons (.var 5) (.cons (.bin .mod (.bin .sub (.bin .mul (.idx (.var 0) (.lit (.int 0))) (.var 5)) (.bin .mul (.idx (.var 0) (.lit (.int 1))) (.var 4))) (.var 1)) .nil))) .nil)))
    (P := fun fl ρ C' => fl = .ret (.int r) ∧ C' = C)
    (fun k ρ C' => C' = C ∧ (∀ j, 1 ≤ j → j ≤ k → ¬ (m : Int) ∣ U P Q j) ∧ ∃ x3 : Option D, ρ = [some (ruleD P Q), some (.int m), some (.int most), x3, some (.int (U P Q (k + 1) % m)), some (.int (U P Q (k + 2) % m))])
    (by
      rintro k ρ C' hk ⟨rfl, hno, x3, rfl⟩
      obtain ⟨n, hn⟩ : ∃ n : Nat, n = k + 1 := ⟨_, rfl⟩
      have en : (1 + (k : Int)) = (n : Int) := by omega
      rw [en, ← hn]
      obtain ⟨u, hu⟩ : ∃ u : Int, u = U P Q n % (m : Int) := ⟨_, rfl⟩
      obtain ⟨v, hv⟩ : ∃ v : Int, v = U P Q (n + 1) % (m : Int) := ⟨_, rfl⟩
      have e2 : U P Q (k + 2) % (m : Int) = v := by rw [hv, hn]
      rw [e2, ← hu]
      simp only [blk]
      by_cases u0 : u = 0
      · refine wps_ofEq (fl := .ret (.int n)) (ρ := [some (ruleD P Q), some (.int m), some (.int most), some (.int n), some (.int u), some (.int v)]) (C := C') (by simp -implicitDefEqProofs [u0]) ?_
        have hd : r ∣ n := (hr.2 n).mp (Int.dvd_of_emod_eq_zero (by rw [← hu]; exact u0))
        have hle' := Nat.le_of_dvd (by omega) hd
        have : r = n := by
          refine Nat.le_antisymm hle' (Nat.le_of_not_lt fun hlt => hno r hr.1 (by omega) hr.self)
        rw [this]; exact ⟨rfl, rfl⟩
      · refine wps_cons (ρ' := [some (ruleD P Q), some (.int m), some (.int most), some (.int n), some (.int u), some (.int v)]) (C' := C') (by simp -implicitDefEqProofs [u0]) ?_
        have lu : Lt2 100 u := by rw [hu]; exact Lt2.emod _ hm0 lm
        have lv : Lt2 100 v := by rw [hv]; exact Lt2.emod _ hm0 lm
        have t1 : (P * v - Q * u) % (m : Int) = U P Q (n + 2) % (m : Int) := by
          rw [U_rec, hu, hv]; exact em_sub (em_mul rfl (em_self _ _)) (em_mul rfl (em_self _ _))
        refine wps_cons (ρ' := [some (ruleD P Q), some (.int m), some (.int most), some (.int n), some (.int v), some (.int (U P Q (n + 2) % m))]) (C' := C') (by simp -implicitDefEqProofs [mul_lt2 ro.lp lv (by omega), mul_lt2 ro.lq lu (by omega), mod_int _ _ hm0, t1]) ?_
        rw [evSs_nil, wps_ok]
        refine ⟨rfl, fun j j1 j2 hd => ?_, some (.int n), by rw [hv]⟩
        by_cases hjk : j ≤ k
        · exact hno j j1 hjk hd
        · have : j = n := by omega
          subst this
          exact u0 (by rw [hu]; exact Int.emod_eq_zero_of_dvd hd))
    (by
      rintro ρ C' ⟨rfl, hno, x3, rfl⟩
      exact absurd hr.self (hno r hr.1 hle)) (all := (List.range most).map fun i => D.int (1 + (i : Nat))) (ρ := [some (ruleD P Q), some (.int m), some (.int most), none, some (.int (1 % m)), some (.int (P % m))]) (C := C)
    ⟨rfl, fun j a b => by omega, none, by simp [U]⟩
  obtain ⟨fl, ρ, C', e, rfl, rfl⟩ := wps_get key
  simp -implicitDefEqProofs [F__law_first, mod_int _ _ hm0, ← hmo, hrg, e]
theorem s_loften {f : Nat} (h : T.fn f = some F__law_often) {x : Int} {l e : Nat} (l2 : 2 ≤ l) (lb : l < 2 ^ 62) (eb : e < 10000) (h1 : ((l ^ e : Nat) : Int) ∣ x) (h2 : ¬ ((l ^ (e + 1) : Nat) : Int) ∣ x) : callF T (d + 1) f [.int x, .int l] C = .ok (.int e) C := by
  rw [callF_eq h rfl]
  have hl : (0 : Int) < l := by omega
  have bl : bits (l : Int) < 9000 := Nat.lt_trans (bits_nat lb) (by omega)
  have hrg : rngop [D.int 10000] = some ((List.range 10000).map fun i => D.int (i : Nat)) := rngop_nat (n := 10000) (by omega)
  have key := floop_rng0 (n := 10000) (t := 3) (b := blk T.glob (callF T d) (.cons (.ife (.cmp .ne (.bin .mod (.var 0) (.var 1)) (.lit (.int 0))) (.cons (.brk) .nil) .nil)
      (.cons (.par [0, 2] [false, false] (.cons (.bin .fdiv (.var 0) (.var 1)) (.cons (.bin .add (.var 2) (.lit (.int 1))) .nil))) .nil)))
    (P := fun fl ρ C' => fl = .next ∧ C' = C ∧ ∃ (x0 x3 : Option D), ρ = [x0, some (.int l), some (.int e), x3])
    (fun k ρ C' => C' = C ∧ k ≤ e ∧ ∃ (y : Int) (x3 : Option D), y * ((l ^ k : Nat) : Int) = x ∧ ρ = [some (.int y), some (.int l), some (.int k), x3])
    (by
      rintro k ρ C' hk ⟨rfl, ke, y, x3, hy, rfl⟩
      obtain ⟨r, hr⟩ : ∃ r : Int, r = y % (l : Int) := ⟨_, rfl⟩
      have p0 : ((l ^ k : Nat) : Int) ≠ 0 := by
        have : 0 < l ^ k := Nat.pow_pos (by omega)
        omega
      have p1 : ((l ^ (k + 1) : Nat) : Int) = ((l ^ k : Nat) : Int) * l := by rw [Nat.pow_succ, Int.natCast_mul]
      simp only [blk]
      by_cases r0 : r = 0
      · obtain ⟨z, hz⟩ := Int.dvd_of_emod_eq_zero (show y % (l : Int) = 0 by rw [← hr]; exact r0)
        have ez : y / (l : Int) = z := by rw [hz, Int.mul_ediv_cancel_left _ (by omega)]
        have hke : k < e := by
          refine Nat.lt_of_le_of_ne ke fun hh => h2 ?_
          rw [← hh, ← hy, p1, hz]
          exact ⟨z, by grind⟩
        obtain ⟨k', hk'⟩ : ∃ k' : Nat, k' = k + 1 := ⟨_, rfl⟩
        have ek : (k : Int) + 1 = (k' : Int) := by omega
        refine wps_cons (ρ' := [some (.int y), some (.int l), some (.int k), some (.int (k : Nat))]) (C' := C') (by simp -implicitDefEqProofs [mod_int _ _ hl, ← hr, r0]) ?_
        refine wps_cons (ρ' := [some (.int z), some (.int l), some (.int k'), some (.int (k : Nat))]) (C' := C') (by simp -implicitDefEqProofs [fdiv_int _ _ hl bl, ez, ek]) ?_
        rw [evSs_nil, wps_ok]
        exact ⟨rfl, by omega, z, _, by rw [← hy, p1, hz]; grind, by rw [hk']⟩
      · refine wps_ofEq (fl := .brk) (ρ := [some (.int y), some (.int l), some (.int k), some (.int (k : Nat))]) (C := C') (by simp -implicitDefEqProofs [mod_int _ _ hl, ← hr, r0]) ?_
        have hke : k = e := by
          refine Nat.le_antisymm ke (Nat.le_of_not_lt fun hlt => r0 ?_)
          have hd : ((l ^ (k + 1) : Nat) : Int) ∣ x := Int.dvd_trans (Int.natCast_dvd_natCast.mpr (Nat.pow_dvd_pow l (by omega))) h1
          obtain ⟨z, hz⟩ := hd
          rw [← hy, p1] at hz
          have : y = l * z := by
            refine Int.eq_of_mul_eq_mul_left p0 ?_
            grind
          rw [hr, this]; simp
        rw [hke]
        exact ⟨rfl, rfl, _, _, rfl⟩)
    (by
      rintro ρ C' ⟨rfl, ke, _⟩
      omega) (all := (List.range 10000).map fun i => D.int (i : Nat)) (ρ := [some (.int x), some (.int l), some (.int 0), none]) (C := C) ⟨rfl, by omega, x, none, by simp, rfl⟩
  obtain ⟨fl, ρ, C', ee, rfl, rfl, x0, x3, rfl⟩ := wps_get key
  simp -implicitDefEqProofs [F__law_often, hrg, ee]
theorem pf_prime {n : Nat} (h : Pm n) {xs : List (Nat × Nat)} (pf : PF n xs) : xs = [(n, 1)] := by
  have n2 := h.1
  cases xs with
  | nil => have := pf.prod; simp [prodL] at this; omega
  | cons y ys =>
    have hy := pf.pm y (by simp)
    have hpos : ∀ zs : List (Nat × Nat), (∀ z ∈ zs, Pm z.1 ∧ 1 ≤ z.2) → 1 ≤ prodL zs ∧ (zs ≠ [] → 2 ≤ prodL zs) := by
      intro zs
      induction zs with
      | nil => intro _; exact ⟨by simp [prodL], fun h => absurd rfl h⟩
      | cons z zs ih =>
        intro hh
        have hz := hh z (by simp)
        have z2 := hz.1.1
        have := ih fun w hw => hh w (by simp [hw])
        have e2 : 2 ≤ ppow z := by
          unfold ppow
          obtain ⟨e, he⟩ : ∃ e, z.2 = e + 1 := ⟨z.2 - 1, by omega⟩
          rw [he, Nat.pow_succ]
          have : 1 ≤ z.1 ^ e := Nat.pow_pos (by omega)
          calc 2 ≤ 1 * z.1 := by omega
            _ ≤ z.1 ^ e * z.1 := Nat.mul_le_mul_right _ this
        have e3 : 2 * 1 ≤ ppow z * prodL zs := Nat.mul_le_mul e2 this.1
        simp only [prodL]
        exact ⟨by omega, fun _ => by omega⟩
    have hp := pf.prod
    simp only [prodL] at hp
    have h1 := hpos [y] fun z hz => by have : z = y := by simpa using hz
                                       rw [this]; exact hy
    have e1 : prodL [y] = ppow y := by simp [prodL]
    rw [e1] at h1
    have hy2 := h1.2 (by simp)
    have hys := hpos ys fun z hz => pf.pm z (by simp [hz])
    have hyn : ppow y = n := by
      rcases h.2 (ppow y) ⟨prodL ys, hp.symm⟩ with e | e
      · omega
      · exact e
    have hys0 : ys = [] := by
      refine Classical.byContradiction fun hne => ?_
      have := hys.2 hne
      have := Nat.mul_le_mul_left (ppow y) this
      omega
    subst hys0
    have hy1 : y.1 = n := by
      have hd : y.1 ∣ n := by
        rw [← hyn]; unfold ppow
        obtain ⟨e, he⟩ : ∃ e, y.2 = e + 1 := ⟨y.2 - 1, by omega⟩
        rw [he, Nat.pow_succ]; exact Nat.dvd_mul_left _ _
      rcases h.2 _ hd with e | e
      · have := hy.1.1; omega
      · exact e
    have hy3 : y.2 = 1 := by
      refine Nat.le_antisymm (Nat.le_of_not_lt fun hlt => ?_) hy.2
      have h3 : n ^ 2 ≤ n ^ y.2 := Nat.pow_le_pow_right (by omega) hlt
      unfold ppow at hyn
      rw [hy1] at hyn
      rw [hyn, Nat.pow_succ, Nat.pow_one] at h3
      have : n * 2 ≤ n * n := Nat.mul_le_mul_left n n2
      omega
    obtain ⟨a, b⟩ := y
    simp at hy1 hy3
    subst hy1; subst hy3
    rfl
theorem deq_pair {C : Cells} (n : Int) : deq C (.tup [.tup [.int n, .int 1]]) (.tup [.tup [.int n, .int 1]]) = some true := by
  simp [deq, D.val, D.plain, D.plainL, D.py, D.pyL, PyData.eqv, PyData.eqvAll]
theorem s_is_prime {f fq : Nat} (h : T.fn f = some (F_is_prime_in fq)) (hq : PrimesOf T fq) {l : Nat} (hl : Pm l) (lb : l < 81000000000000000000) : callF T (d + 2) f [.int l] C = .ok (.bl true) C := by
  rw [callF_eq h rfl]
  have l2 := hl.1
  obtain ⟨xs, e1, pf, _⟩ := hq d C l (by omega) lb
  rw [pf_prime hl pf] at e1
  have e1' : callF T (d + 1) fq [.int l] C = .ok (.tup [.tup [.int l, .int 1]]) C := e1
  have h1 : (1 : Int) < (l : Int) := by omega
  have h1' : 1 < l := by omega
  simp -implicitDefEqProofs [F_is_prime_in, h1, h1', e1', deq_pair]
def IsPrime (T : Tab) (f : Nat) : Prop := ∀ (d : Nat) (C : Cells) (l : Nat), Pm l → l < 81000000000000000000 → callF T (d + 2) f [.int l] C = .ok (.bl true) C
theorem isPrime_of {f fq : Nat} (h : T.fn f = some (F_is_prime_in fq)) (hq : PrimesOf T fq) : IsPrime T f := fun d C l hl lb => s_is_prime h hq hl lb
theorem pm_mod {Q : Int} {l : Nat} (ok : PmOk Q l) : ¬ Q % (l : Int) = 0 := fun h => ok.nq (Int.dvd_of_emod_eq_zero h)
theorem s_sure_prime {f e fp fw fn e2 gm fr : Nat} (h : T.fn f = some (F_sure_prime e fp fw gm e2 fr)) (hp : IsPrime T fp) (hw : T.fn fw = some (F_is_within fn)) (hn : T.fn fn = some F_is_number) (hm : T.glob gm = some (.int 1000000000)) (hr : SureRule T fr) {P Q : Int} (ro : RuleOk P Q) {l : Nat} (ok : PmOk Q l) (lb : l ≤ 1000000000) :
    callF T (d + 5) f [ruleD P Q, .int l] C = .ok (.tup [ruleD P Q, .int l]) C := by
  rw [callF_eq h rfl]
  have l2 := ok.pm.1
  have c1 := hr d C P Q ro
  have c2 := s_is_within (T := T) (d := d + 2) (C := C) hw hn (l : Int) 2 1000000000
  have c3 := hp (d + 2) C l ok.pm (by omega)
  have hl : (0 : Int) < l := by omega
  have hd : decide ((2 : Int) ≤ (l : Int) ∧ (l : Int) ≤ 1000000000) = true := decide_eq_true ⟨by omega, by omega⟩
  rw [hd] at c2
  have hnq := pm_mod ok
  obtain ⟨v, hv⟩ : ∃ v : Int, v = Q % (l : Int) := ⟨_, rfl⟩
  rw [← hv] at hnq
  simp -implicitDefEqProofs [F_sure_prime, c1, hm, c2, c3, mod_int _ _ hl, ← hv, hnq, fin_tup, D.nocL]
end
section
variable {T : Tab}
theorem pLFirst {f : Nat} (h : T.fn f = some F__law_first) : PLFirst (callF T 99) f := fun P Q m most r ro m1 m2 hm hr hle C => s_lfirst (d := 98) h ro m1 m2 hm hr hle
theorem pLOften {f : Nat} (h : T.fn f = some F__law_often) : PLOften (callF T 99) f := fun x l e l2 lb eb h1 h2 C => s_loften (d := 98) h l2 lb eb h1 h2
theorem pPExcess {f fs fx e fp fw fn e2 gm fr : Nat} (h : T.fn f = some (F_place_excess fx fs)) (hx : Excess T fx) (hs : T.fn fs = some (F_sure_prime e fp fw gm e2 fr)) (hp : IsPrime T fp) (hw : T.fn fw = some (F_is_within fn)) (hn : T.fn fn = some F_is_number) (hm : T.glob gm = some (.int 1000000000)) (hr : SureRule T fr) : PPExcess (callF T 99) f := by
  intro P Q l g ro ok lb hg
  have key : ∀ C, ∃ o : Option Nat, callF T 99 f [ruleD P Q, .int l] C = .ok (exD o) C ∧ (o = none → U P Q g = 0) ∧ (∀ e, o = some e → Ex P Q l e g) := fun C => by
    obtain ⟨o, c2, ho⟩ := hx 92 C P Q l ro ok lb
    have c1 := s_sure_prime (T := T) (d := 93) (C := C) hs hp hw hn hm hr ro ok (by omega)
    refine ⟨o, ?_, (ho g hg).1, fun e he => ((ho g hg).2 e he).2⟩
    rw [callF_eq (d := 98) h rfl]
    have hf : ∀ C : Cells, fin false C.length (exD o) C = .ok (exD o) C := fun C => by cases o <;> simp [exD]
    simp -implicitDefEqProofs [F_place_excess, c1, c2, hf]
  constructor
  · intro hz C
    obtain ⟨o, c, h1, h2⟩ := key C
    cases o with
    | none => exact c
    | some e => exact absurd (by rw [hz]; exact ⟨0, by simp⟩) (h2 e rfl).2
  · intro e he C
    obtain ⟨o, c, h1, h2⟩ := key C
    cases o with
    | none => exact absurd (by rw [h1 rfl]; exact ⟨0, by simp⟩) he.2
    | some e' => rw [ex_uniq he (h2 e' rfl)]; exact c
theorem pPower {f fpp e1 fsw go fp fw gf e2 fr fn : Nat} (h : T.fn f = some (F_power_place fpp e1 fsw go fp fw gf e2 fr)) (hpp : PowerPlace T fpp) (hsw : SureWithin T fsw) (hgo : T.glob go = some (.int 60)) (hp : IsPrime T fp) (hw : T.fn fw = some (F_is_within fn)) (hn : T.fn fn = some F_is_number) (hm : T.glob gf = some (.int 1000000000)) (hr : SureRule T fr) : PPower (callF T 99) f := by
  intro P Q l k r ro ok lb k1 k2 hk hrk C
  rw [callF_eq (d := 98) h rfl]
  have l2 := ok.pm.1
  have c1 := hr 94 C P Q ro
  have c2 := s_is_within (T := T) (d := 96) (C := C) hw hn (l : Int) 2 1000000000
  have c3 := hp 96 C l ok.pm (by omega)
  have c4 := hsw 95 C (k : Int) 1 60 (by omega) (by omega)
  obtain ⟨r', c5, hr', _⟩ := hpp 91 C P Q l k ro ok k1 (by omega) hk
  have hl : (0 : Int) < l := by omega
  have hd : decide ((2 : Int) ≤ (l : Int) ∧ (l : Int) ≤ 1000000000) = true := decide_eq_true ⟨by omega, by omega⟩
  rw [hd] at c2
  have hnq := pm_mod ok
  obtain ⟨v, hv⟩ : ∃ v : Int, v = Q % (l : Int) := ⟨_, rfl⟩
  rw [← hv] at hnq
  rw [hrk.uniq hr']
  simp -implicitDefEqProofs [F_power_place, c1, hm, c2, c3, hgo, c4, mod_int _ _ hl, ← hv, hnq, c5]
theorem pFirst {f fi fs fc e fw fr gm : Nat} (h : T.fn f = some (F_first_place fi fs gm)) (hi : FirstIn T fi) (hs : T.fn fs = some (F_sure_prime_to fc e fw fr)) (hc : T.fn fc = some F_common) (hw : SureWithin T fw) (hr : SureRule T fr) (hm : T.glob gm = some (.int 1000000000)) : PFirst (callF T 99) f := fun P Q m r ro ok hrk C => by
  obtain ⟨r', c, hr', _⟩ := s_first_place (T := T) (d := 90) (C := C) h hi hs hc hw hr hm ro ok
  rw [hrk.uniq hr']; exact c
theorem pDiv {f fp fd fw gf gm fr : Nat} (h : T.fn f = some (F_is_divided fp fw gf gm fr)) (hp : T.fn fp = some (F_pair_mod fd)) (hd : T.fn fd = some F_digits_of) (hw : SureWithin T fw) (hm : T.glob gm = some (.int 1000000000000000000000000000000)) (hf : T.glob gf = some (.int 1000000000000000000)) (hr : SureRule T fr) : PDiv (callF T 99) f := fun P Q m n ro m1 m2 h1 C => by
  rw [callF_eq (d := 98) h rfl]
  have c1 := hr 94 C P Q ro
  have c2 := hw 95 C (m : Int) 1 1000000000000000000000000000000 (by omega) m2
  have c3 := hw 95 C (n : Int) 0 1000000000000000000 (by omega) h1
  have c4 := s_pair_mod (d := 96) (C := C) hp hd ro.lp2 ro.lq2 n (n_lt_5000 h1) (show (0 : Int) < m by omega) (lt2_of_lt (k := 100) (by omega) (by omega) (by omega))
  obtain ⟨u, hu⟩ : ∃ u : Int, u = U P Q n % (m : Int) := ⟨_, rfl⟩
  unfold pairD at c4
  rw [← hu] at c4 ⊢
  simp -implicitDefEqProofs [F_is_divided, c1, hm, hf, c2, c3, c4]
theorem pZero {f fz ft fr : Nat} (h : T.fn f = some (F_zero_place fz fr)) (hz : T.fn fz = some (F_zero_in ft)) (ht : TermsIn T ft) (hr : SureRule T fr) : PZero (callF T 99) f := fun P Q ro C => s_zero_place (d := 94) h hz ht hr ro
end
end ML

set_option maxHeartbeats 1000000
/-! Each number prime to q has a first place, not beyond its square; multiples. -/
namespace NJ
open ML
theorem rk_pow_ex {P Q : Int} {l : Nat} (h : Pm l) (hq : ¬ (l : Int) ∣ Q) {j : Nat} (j1 : 1 ≤ j) : ∃ r, Rk P Q (l ^ j) r := by
  have l2 := h.1
  by_cases hj : b0 l ≤ j
  · obtain ⟨g, hg, _⟩ := ground_ex (P := P) h hq
    by_cases u0 : U P Q g = 0
    · exact ⟨_, rk_power_zero h hq hg u0 hj⟩
    · obtain ⟨e, h1, h2⟩ := often_ex l2 u0
      have he : b0 l ≤ e := Nat.le_of_not_lt fun k => h2 (Int.dvd_trans (Int.natCast_dvd_natCast.mpr (Nat.pow_dvd_pow l (by omega))) hg.self)
      exact ⟨_, rk_power h hq hg he ⟨h1, h2⟩ hj⟩
  · have e2 : l = 2 := by unfold b0 at hj; split at hj <;> omega
    have ej : j = 1 := by subst e2; simp [b0] at hj; omega
    subst ej
    obtain ⟨a, b, c⟩ := bnd_ok (P := P) h hq
    obtain ⟨r, hr, _⟩ := rk_of (P := P) (Pm.copQ1 h hq) _ b a
    exact ⟨r, by rw [Nat.pow_one]; exact hr⟩
theorem cop_dvd_left {m d : Nat} {Q : Int} (h : Int.gcd m Q = 1) (hd : d ∣ m) : Int.gcd d Q = 1 := gcd_one_of fun k k1 k2 => by
  have := Int.dvd_gcd (Int.dvd_trans k1 (Int.natCast_dvd_natCast.mpr hd)) k2
  rw [h] at this
  exact dvd_one_of (by exact_mod_cast this)
theorem pm_not_dvd {m l : Nat} {Q : Int} (h : Int.gcd m Q = 1) (hp : Pm l) (hd : l ∣ m) : ¬ (l : Int) ∣ Q := fun hq => by
  have h3 : (l : Int) ∣ (Int.gcd m Q : Int) := Int.dvd_coe_gcd (Int.natCast_dvd_natCast.mpr hd) hq
  rw [h] at h3
  have := dvd_one_of h3
  have := hp.1
  omega
theorem rk_num {P Q : Int} : ∀ m : Nat, 1 ≤ m → Int.gcd m Q = 1 → ∃ r, Rk P Q m r ∧ r ≤ m * m := by
  intro m
  induction m using Nat.strongRecOn with
  | ind m ih =>
    intro m1 hc
    by_cases e1 : m = 1
    · subst e1; exact ⟨1, rk_one P Q, by omega⟩
    · obtain ⟨l, hl, hd⟩ := has_prime m (by omega)
      have l2 := hl.1
      obtain ⟨k, h1, h2⟩ := often_ex l2 (x := (m : Int)) (by omega)
      have h1' : l ^ k ∣ m := Int.natCast_dvd_natCast.mp h1
      have h2' : ¬ l ^ (k + 1) ∣ m := fun h => h2 (Int.natCast_dvd_natCast.mpr h)
      have k1 : 1 ≤ k := by
        rcases Nat.eq_zero_or_pos k with h | h
        · subst h; exact absurd (by simpa using hd) h2'
        · exact h
      obtain ⟨m', hm'⟩ := h1'
      have hnd : ¬ l ∣ m' := fun ⟨z, hz⟩ => h2' ⟨z, by rw [hm', hz, Nat.pow_succ]; grind⟩
      have lk : 2 ≤ l ^ k := by
        obtain ⟨i, rfl⟩ : ∃ i, k = i + 1 := ⟨k - 1, by omega⟩
        rw [Nat.pow_succ]
        have : 1 ≤ l ^ i := Nat.pow_pos (by omega)
        exact Nat.le_trans l2 (Nat.le_mul_of_pos_left l this)
      have m'1 : 1 ≤ m' := by
        rcases Nat.eq_zero_or_pos m' with h | h
        · rw [h, Nat.mul_zero] at hm'; omega
        · exact h
      have m'm : m' < m := by
        have : 2 * m' ≤ l ^ k * m' := Nat.mul_le_mul_right m' lk
        omega
      obtain ⟨r2, hr2, b2⟩ := ih m' m'm m'1 (cop_dvd_left hc ⟨l ^ k, by rw [hm', Nat.mul_comm]⟩)
      have hq := pm_not_dvd hc hl hd
      obtain ⟨r1, hr1⟩ := rk_pow_ex (P := P) hl hq k1
      have b1 := rk_pow_le hl hq k1 hr1
      have hcop : Nat.gcd (l ^ k) m' = 1 := Nat.Coprime.pow_left k (by show Nat.gcd l m' = 1; rw [Nat.gcd_comm]; exact hl.cop hnd)
      refine ⟨Nat.lcm r1 r2, by rw [hm']; exact hr1.mul hr2 hcop, ?_⟩
      have hle : Nat.lcm r1 r2 ≤ r1 * r2 := Nat.div_le_self _ _
      have h3 : r1 ≤ l ^ k * l ^ k := Nat.le_trans b1 (Nat.mul_le_mul_right _ lk)
      have h4 := Nat.mul_le_mul h3 b2
      rw [hm']
      calc Nat.lcm r1 r2 ≤ r1 * r2 := hle
        _ ≤ l ^ k * l ^ k * (m' * m') := h4
        _ = l ^ k * m' * (l ^ k * m') := by grind
/-- the multiples up to -/
def mults (r k : Nat) : List Nat := (List.range k).map fun i => r * (i + 1)
theorem mults_succ (r k : Nat) : mults r (k + 1) = mults r k ++ [r * (k + 1)] := by simp [mults, List.range_succ]
theorem filter_dvd {r : Nat} (r1 : 1 ≤ r) : ∀ t, (half t).filter (fun n => decide (r ∣ n)) = mults r (t / r)
  | 0 => by simp [half, mults]
  | t + 1 => by
    rw [half_succ, List.filter_append, filter_dvd r1 t]
    by_cases h : r ∣ t + 1
    · obtain ⟨c, hc⟩ := h
      have c1 : 1 ≤ c := by
        rcases Nat.eq_zero_or_pos c with e | e
        · rw [e, Nat.mul_zero] at hc; omega
        · exact e
      obtain ⟨b, rfl⟩ : ∃ b, c = b + 1 := ⟨c - 1, by omega⟩
      have e1 : (t + 1) / r = b + 1 := by rw [hc, Nat.mul_div_cancel_left _ r1]
      have e2 : t / r = b := by
        have h1 : t = r * b + (r - 1) := by rw [Nat.mul_succ] at hc; omega
        rw [h1, Nat.mul_add_div (by omega), Nat.div_eq_of_lt (by omega), Nat.add_zero]
      have e3 : List.filter (fun n => decide (r ∣ n)) [t + 1] = [t + 1] := by simp [hc, Nat.dvd_mul_right]
      rw [e1, e2, e3, mults_succ, ← hc]
    · have e3 : List.filter (fun n => decide (r ∣ n)) [t + 1] = [] := by simp [h]
      have e1 : (t + 1) / r = t / r := by
        have h1 := Nat.div_add_mod t r
        have h2 := Nat.mod_lt t (show r > 0 by omega)
        have h3 : t % r + 1 ≠ r := fun e => h ⟨t / r + 1, by rw [Nat.mul_succ]; omega⟩
        have h4 : t + 1 = r * (t / r) + (t % r + 1) := by omega
        have h5 : (t % r + 1) / r = 0 := Nat.div_eq_of_lt (by omega)
        rw [h4, Nat.mul_add_div (by omega), h5, Nat.add_zero]
      rw [e3, e1, List.append_nil]
end NJ

set_option maxHeartbeats 4000000
/-! How many places, which ones, by walking. -/
namespace ML
open PySem NJ
/-- natural numbers as ints -/
abbrev natL (ns : List Nat) : List D := ns.map fun (n : Nat) => D.int (n : Int)
theorem natL_int (ns : List Nat) : natL ns = intL (ns.map fun (n : Nat) => (n : Int)) := by simp [natL, intL]
theorem natL_noc (ns : List Nat) : D.nocL (natL ns) = true := by rw [natL_int]; exact intL_noc _
def PMany (cf : CF) (f : Nat) : Prop := ∀ (P Q : Int) (m r top : Nat), RuleOk P Q → NumOk Q m → Rk P Q m r → r < 2 ^ 60 → (top : Int) ≤ 1000000000000000000 → ∀ C, cf f [ruleD P Q, .int m, .int top] C = .ok (.int (top / r : Nat)) C
def PPlaces (cf : CF) (f : Nat) : Prop := ∀ (P Q : Int) (m r top : Nat), RuleOk P Q → NumOk Q m → Rk P Q m r → r < 2 ^ 60 → (top : Int) ≤ 1000000000000000000 → top / r ≤ 3000 → ∀ C, cf f [ruleD P Q, .int m, .int top] C = .ok (.lst (natL (mults r (top / r)))) C
def PWalk (cf : CF) (f : Nat) : Prop := ∀ (P Q : Int) (m r : Nat), RuleOk P Q → NumOk Q m → Rk P Q m r → r ≤ 20000 → ∀ C, cf f [ruleD P Q, .int m] C = .ok (.int r) C
def PDT (cf : CF) (f : Nat) : Prop := ∀ (P Q : Int) (m r top : Nat), RuleOk P Q → 1 ≤ m → (m : Int) ≤ 1000000000000000000000000000000 → Rk P Q m r → top ≤ 3000 → ∀ C, cf f [ruleD P Q, .int m, .int top] C = .ok (.lst (natL (mults r (top / r)))) C
def PRests (cf : CF) (f : Nat) : Prop := ∀ (P Q : Int) (n : Nat) (m : Int), RuleOk P Q → n ≤ 100000 → 0 < m → m ≤ 1000000000000000000000000000000 → ∀ C, cf f [ruleD P Q, .int n, .int m] C = .ok (.lst (rowL (fun k => U P Q k % m) n)) C
section
variable {T : Tab} {d : Nat} {C : Cells}
theorem s_many {f fi fc e fw gf gm fr : Nat} (h : T.fn f = some (F_how_many_places fi fc e fw gf gm fr)) (hi : FirstIn T fi) (hc : T.fn fc = some F_common) (hw : SureWithin T fw) (hr : SureRule T fr) (hm : T.glob gm = some (.int 1000000000)) (hf : T.glob gf = some (.int 1000000000000000000)) {P Q : Int} (ro : RuleOk P Q) {m r top : Nat} (ok : NumOk Q m) (hrk : Rk P Q m r) (rb : r < 2 ^ 60) (ht : (top : Int) ≤ 1000000000000000000) :
    callF T (d + 9) f [ruleD P Q, .int m, .int top] C = .ok (.int (top / r : Nat)) C := by
  rw [callF_eq h rfl]
  have m1 := ok.m1
  have mb := ok.mb
  have c1 := hr (d + 4) C P Q ro
  have c2 := hw (d + 5) C m 1 1000000000 (by omega) (by omega)
  have c3 := hw (d + 5) C top 0 1000000000000000000 (by omega) ht
  have c4 := s_common (T := T) (d := d + 7) (C := C) hc (N := 40) (by unfold WMAX; omega) (show Lt2 40 (m : Int) by unfold Lt2; omega) (ro.lq.mono (by omega))
  rw [ok.cop] at c4
  have c4' : callF T (d + 8) fc [.int m, .int Q] C = .ok (.int 1) C := c4
  obtain ⟨r', c5, hr', _⟩ := hi d C P Q m ro ok
  rw [← hrk.uniq hr'] at c5
  have r1 := hrk.1
  have r0 : (0 : Int) < r := by omega
  have br : bits (r : Int) < 9000 := Nat.lt_trans (bits_nat (by omega)) (by omega)
  obtain ⟨z, hz⟩ : ∃ z : Nat, z = top / r := ⟨_, rfl⟩
  have ez : (top : Int) / (r : Int) = (z : Int) := by rw [hz, Int.natCast_ediv]
  rw [← hz]
  simp -implicitDefEqProofs [F_how_many_places, c1, hm, c2, hf, c3, c4', c5, fdiv_int _ _ r0 br, ez]
theorem natL_mults (r k : Nat) : natL (mults r k) = ((List.range k).map fun i => D.int (1 + (i : Nat))).map (fun x => match x with | .int i => D.int ((r : Int) * i) | x => x) := by
  simp only [mults, List.map_map]
  refine List.map_congr_left fun i _ => ?_
  show D.int (((r * (i + 1) : Nat)) : Int) = D.int ((r : Int) * (1 + (i : Int)))
  congr 1
  rw [Int.natCast_mul]
  congr 1
  omega
theorem s_places {f ff gl0 e fm : Nat} (h : T.fn f = some (F_places_to ff gl0 e fm)) (hgl : T.glob gl0 = some (.int 3000)) {P Q : Int} {m r top : Nat} (cm : callF T (d + 1) fm [ruleD P Q, .int m, .int top] C = .ok (.int (top / r : Nat)) C) (cf1 : callF T (d + 1) ff [ruleD P Q, .int m] C = .ok (.int r) C) (hk : top / r ≤ 3000) :
    callF T (d + 2) f [ruleD P Q, .int m, .int top] C = .ok (.lst (natL (mults r (top / r)))) C := by
  rw [callF_eq h rfl]
  obtain ⟨k, hkk⟩ : ∃ k : Nat, k = top / r := ⟨_, rfl⟩
  rw [← hkk] at cm hk ⊢
  have nk : ¬ (3000 : Int) < (k : Int) := by omega
  have nk' : ¬ 3000 < k := by omega
  obtain ⟨k', hk'⟩ : ∃ k' : Int, k' = (k : Int) + 1 := ⟨_, rfl⟩
  have hrg : rngop [D.int 1, D.int k'] = some ((List.range k).map fun i => D.int (1 + (i : Nat))) := by
    rw [rngop_ab _ _ (by omega) (by omega) (by omega) (by omega)]
    have : (k' - 1).toNat = k := by omega
    rw [this]
  have key := cloop_map (gd := none) (all := (List.range k).map fun i => D.int (1 + (i : Nat))) (f := cbd T.glob (callF T (d + 1)) [5] (.one 5) .none (.bin .mul (.var 4) (.var 5)) [some (ruleD P Q), some (.int m), some (.int top), some (.int k), some (.int r), none])
    (g := fun x => match x with | .int i => D.int ((r : Int) * i) | x => x) (C := C) rfl ((List.range k).map fun i => D.int (1 + (i : Nat))) [] (by
      intro x hx
      obtain ⟨i, hi, rfl⟩ := List.mem_map.mp hx
      rw [List.mem_range] at hi
      have bi : bits (1 + (i : Int)) < 63 := bits_lt (by omega) (by omega)
      simp -implicitDefEqProofs [cbd, mul_int _ _ (.inr (.inl bi))])
  rw [List.reverse_nil, List.nil_append, ← natL_mults] at key
  have hlen : k ≤ 16777216 := by omega
  simp -implicitDefEqProofs only [F_places_to, List.map_cons, List.map_nil, List.cons_append, List.nil_append, List.replicate, evSs_cons, evSs_nil, evS_set, evE_call, evEs_cons, evEs_nil, evE_var, List.getElem?_cons_zero, List.getElem?_cons_succ, R.bind_ok, cm, cf1, R.toS_ok, RS.seq_next, List.set_cons_succ, List.set_cons_zero,
    evS_ife, evE_cmp, evE_glob, hgl, R.of_some, cmp_gt, decide_eq_false nk, truth_bl, Bool.false_eq_true, if_false, evS_ret, evE_comp, evSrc_rng, evE_lit, evE_bin, add_int, ← hk', hrg, List.length_map, List.length_range, if_pos hlen, key, RS.seq_ret, retR_ret]
  rw [fin_lst (natL_noc _), List.take_length]
theorem s_walk {f gw e fs gm fc e2 fw fr : Nat} (h : T.fn f = some (F_place_walked gw e fs gm)) (hs : T.fn fs = some (F_sure_prime_to fc e2 fw fr)) (hc : T.fn fc = some F_common) (hw : SureWithin T fw) (hr : SureRule T fr) (hm : T.glob gm = some (.int 1000000000)) (hgw : T.glob gw = some (.int 20000)) {P Q : Int} (ro : RuleOk P Q) {m r : Nat} (ok : NumOk Q m) (hrk : Rk P Q m r) (rb : r ≤ 20000) : callF T (d + 6) f [ruleD P Q, .int m] C = .ok (.int r) C := by
  rw [callF_eq h rfl]
  have m1 := ok.m1
  have mb := ok.mb
  have hm0 : (0 : Int) < m := by omega
  have lm : Lt2 100 (m : Int) := by unfold Lt2; rw [Int.natAbs_natCast]; omega
  have c1 := s_sure_prime_to (T := T) (d := d) (C := C) hs hc hw hr ro ok (t := 1000000000) (by omega)
  have key := wloop_inv (c := tst T.glob (callF T (d + 5)) (.cmp .ne (.var 4) (.lit (.int 0)))) (b := blk T.glob (callF T (d + 5)) (.cons (.ife (.cmp .eq (.var 6) (.glob gw)) (.cons (.raise e .none) .nil) .nil)
      (.cons (.par [4, 5, 6] [false, false, false] (.cons (.var 5) (.cons (.bin .mod (.bin .sub (.bin .mul (.idx (.var 2) (.lit (.int 0))) (.var 5)) (.bin .mul (.idx (.var 2) (.lit (.int 1))) (.var 4))) (.var 3)) (.cons (.bin .add (.var 6) (.lit (.int 1))) .nil)))) .nil)))
    (P := fun fl ρ C' => fl = .next ∧ C' = C ∧ ∃ (x4 x5 : Option D), ρ = [some (ruleD P Q), some (.int m), some (ruleD P Q), some (.int m), x4, x5, some (.int r)])
    (fun k ρ C' => C' = C ∧ ∃ n : Nat, n + k = r ∧ 1 ≤ n ∧ (∀ j, 1 ≤ j → j < n → ¬ (m : Int) ∣ U P Q j) ∧ ρ = [some (ruleD P Q), some (.int m), some (ruleD P Q), some (.int m), some (.int (U P Q n % m)), some (.int (U P Q (n + 1) % m)), some (.int n)])
    (by
      rintro k ρ C' ⟨rfl, n, hk, n1, hno, rfl⟩
      obtain ⟨u, hu⟩ : ∃ u : Int, u = U P Q n % (m : Int) := ⟨_, rfl⟩
      obtain ⟨v, hv⟩ : ∃ v : Int, v = U P Q (n + 1) % (m : Int) := ⟨_, rfl⟩
      rw [← hu, ← hv]
      refine ⟨decide (¬ u = 0), by simp -implicitDefEqProofs [tst], fun h0 => ?_, fun h1 => ?_⟩
      · have u0 : u = 0 := by simpa using h0
        have hd : r ∣ n := (hrk.2 n).mp (Int.dvd_of_emod_eq_zero (by rw [← hu]; exact u0))
        have := Nat.le_of_dvd (by omega) hd
        have : n = r := by omega
        subst this
        exact ⟨rfl, rfl, _, _, rfl⟩
      · have u0 : ¬ u = 0 := by simpa using h1
        have hnr : n < r := by
          refine Nat.lt_of_le_of_ne (by omega) fun hh => u0 ?_
          rw [hu, hh]; exact Int.emod_eq_zero_of_dvd hrk.self
        have n2 : ¬ (n : Int) = 20000 := by omega
        have n2' : ¬ n = 20000 := by omega
        have lu : Lt2 100 u := by rw [hu]; exact Lt2.emod _ hm0 lm
        have lv : Lt2 100 v := by rw [hv]; exact Lt2.emod _ hm0 lm
        obtain ⟨n', hn'⟩ : ∃ n' : Nat, n' = n + 1 := ⟨_, rfl⟩
        have en : (n : Int) + 1 = (n' : Int) := by omega
        have t1 : (P * v - Q * u) % (m : Int) = U P Q (n' + 1) % (m : Int) := by
          rw [hn', U_rec, hu, hv]; exact em_sub (em_mul rfl (em_self _ _)) (em_mul rfl (em_self _ _))
        simp only [blk]
        refine wps_cons (ρ' := [some (ruleD P Q), some (.int m), some (ruleD P Q), some (.int m), some (.int u), some (.int v), some (.int n)]) (C' := C') (by simp -implicitDefEqProofs [hgw, n2, n2']) ?_
        refine wps_cons (ρ' := [some (ruleD P Q), some (.int m), some (ruleD P Q), some (.int m), some (.int v), some (.int (U P Q (n' + 1) % m)), some (.int n')]) (C' := C') (by simp -implicitDefEqProofs [mul_lt2 ro.lp lv (by omega), mul_lt2 ro.lq lu (by omega), mod_int _ _ hm0, t1, en]) ?_
        rw [evSs_nil, wps_ok]
        refine ⟨k - 1, by omega, rfl, n', by omega, by omega, fun j j1 j2 hd => ?_, by rw [hv, hn']⟩
        by_cases hjn : j < n
        · exact hno j j1 hjn hd
        · have : j = n := by omega
          subst this
          exact u0 (by rw [hu]; exact Int.emod_eq_zero_of_dvd hd))
    WMAX (r - 1) [some (ruleD P Q), some (.int m), some (ruleD P Q), some (.int m), some (.int (1 % m)), some (.int (P % m)), some (.int 1)] C (by unfold WMAX; omega)
    ⟨rfl, 1, by have := hrk.1; omega, by omega, fun j a b => by omega, by simp [U]⟩
  obtain ⟨fl, ρ, C', ee, rfl, rfl, x4, x5, rfl⟩ := wps_get key
  simp -implicitDefEqProofs [F_place_walked, hm, c1, mod_int _ _ hm0, ee]
theorem s_rests {f : Nat} (h : T.fn f = some F__law_rests) {P Q : Int} (ro : RuleOk P Q) {n : Nat} (hn : n ≤ 100000) {m : Int} (m0 : 0 < m) (m1 : m ≤ 1000000000000000000000000000000) : callF T (d + 1) f [ruleD P Q, .int n, .int m] C = .ok (.lst (rowL (fun k => U P Q k % m) n)) C := by
  rw [callF_eq h rfl]
  have lm : Lt2 100 m := lt2_of_lt (k := 100) (by omega) (by omega) (by omega)
  obtain ⟨g, hg⟩ : ∃ g : Nat → Int, g = fun k => U P Q k % m := ⟨_, rfl⟩
  have key := floop_rng0 (n := n) (t := 4) (b := blk T.glob (callF T d) (.cons (.expr (.app (.var 3) (.bin .mod (.bin .sub (.bin .mul (.idx (.var 0) (.lit (.int 0))) (.idx (.var 3) (.neg (.lit (.int 1))))) (.bin .mul (.idx (.var 0) (.lit (.int 1))) (.idx (.var 3) (.neg (.lit (.int 2)))))) (.var 2)))) .nil))
    (P := fun fl ρ C' => fl = .next ∧ ∃ x4 : Option D, ρ = [some (ruleD P Q), some (.int n), some (.int m), some (.cell C.length), x4] ∧ C' = C ++ [rowL g (n + 2)])
    (fun k ρ C' => ∃ x4 : Option D, ρ = [some (ruleD P Q), some (.int n), some (.int m), some (.cell C.length), x4] ∧ C' = C ++ [rowL g (k + 2)])
    (by
      rintro k ρ C' hk ⟨x4, rfl, rfl⟩
      obtain ⟨L, hL⟩ : ∃ L : Nat, L = k + 2 := ⟨_, rfl⟩
      have i1 : ixn L (-1) = some (k + 1) := by rw [hL]; exact ixn_neg (k := 1) (by omega) (by omega)
      have i2 : ixn L (-2) = some k := by rw [hL]; exact ixn_neg (k := 2) (by omega) (by omega)
      have g1 : atD (rowL g L) (k + 1) = some (.int (g (k + 1))) := rowL_at (by omega)
      have g2 : atD (rowL g L) k = some (.int (g k)) := rowL_at (by omega)
      have lg : ∀ k, Lt2 100 (g k) := fun k => by rw [hg]; exact Lt2.emod _ m0 lm
      have t1 : (P * g (k + 1) - Q * g k) % m = g L := by
        rw [hL, hg]
        show (P * (U P Q (k + 1) % m) - Q * (U P Q k % m)) % m = U P Q (k + 2) % m
        rw [U_rec]; exact em_sub (em_mul rfl (em_self _ _)) (em_mul rfl (em_self _ _))
      have hlast : (C ++ [rowL g L])[C.length]? = some (rowL g L) := by simp
      have hlen : L < 16777216 := by omega
      have e3 : rowL g (k + 1 + 2) = rowL g L ++ [.int (g L)] := by rw [hL, rowL_succ]
      rw [← hL]
      simp only [blk]
      refine wps_cons (ρ' := [some (ruleD P Q), some (.int n), some (.int m), some (.cell C.length), some (.int (k : Nat))]) (C' := C ++ [rowL g (k + 1 + 2)]) (by
        rw [e3]
        simp -implicitDefEqProofs [items_cell hlast, rowL_len, i1, i2, g1, g2, mul_lt2 ro.lp (lg _) (by omega : 11 + 100 < 999999), mul_lt2 ro.lq (lg _) (by omega : 11 + 100 < 999999), mod_int _ _ m0, t1, hlen]) ?_
      rw [evSs_nil, wps_ok]
      exact ⟨_, rfl, rfl⟩)
    (fun ρ C' hh => ⟨rfl, hh⟩) (all := (List.range n).map fun i => D.int (i : Nat)) (ρ := [some (ruleD P Q), some (.int n), some (.int m), some (.cell C.length), none]) (C := C ++ [rowL g 2]) ⟨none, rfl, rfl⟩
  obtain ⟨fl, ρ, C', e, rfl, x4, rfl, rfl⟩ := wps_get key
  have e2 : rowL g 2 = [.int 0, .int (1 % m)] := by rw [hg]; simp [rowL, List.range_succ, U]
  rw [e2] at e
  have hrg : rngop [D.int (n : Nat)] = some ((List.range n).map fun i => D.int (i : Nat)) := rngop_nat (n := n) (by omega)
  have hv : slop (.cell C.length) none (some (n : Int)) (C ++ [rowL g (n + 2)]) = some (.lst (rowL g n)) := by
    rw [slop_cellTo (last_get _), rowL_take _ (by omega)]
  rw [← hg]
  simp -implicitDefEqProofs [F__law_rests, mod_int _ _ m0, hrg, e, D.nocL, hv]
  rw [fin_lst (rowL_noc _ _)]
  simp
theorem s_divided {f fw gt gm fr : Nat} (h : T.fn f = some (F_divided_terms fw gt gm fr)) (hw : SureWithin T fw) (hr : SureRule T fr) (hm : T.glob gm = some (.int 1000000000000000000000000000000)) (ht : T.glob gt = some (.int 3000)) {P Q : Int} (ro : RuleOk P Q) {m r top : Nat} (m1 : 1 ≤ m) (m2 : (m : Int) ≤ 1000000000000000000000000000000) (hrk : Rk P Q m r) (htop : top ≤ 3000) :
    callF T (d + 5) f [ruleD P Q, .int m, .int top] C = .ok (.lst (natL (mults r (top / r)))) C := by
  rw [callF_eq h rfl]
  have hm0 : (0 : Int) < m := by omega
  have lm : Lt2 100 (m : Int) := lt2_of_lt (k := 100) (by omega) (by omega) (by omega)
  have c1 := hr d C P Q ro
  have c2 := hw (d + 1) C (m : Int) 1 1000000000000000000000000000000 (by omega) m2
  have c3 := hw (d + 1) C (top : Int) 0 3000 (by omega) (by omega)
  obtain ⟨t', ht'⟩ : ∃ t' : Int, t' = (top : Int) + 1 := ⟨_, rfl⟩
  have hrg : rngop [D.int 1, D.int t'] = some ((List.range top).map fun i => D.int (1 + (i : Nat))) := by
    rw [rngop_ab _ _ (by omega) (by omega) (by omega) (by omega)]
    have : (t' - 1).toNat = top := by omega
    rw [this]
  have key := floop_rng (a := 1) (n := top) (t := 6) (b := blk T.glob (callF T (d + 4)) (.cons (.par [7, 8] [false, false] (.cons (.var 8) (.cons (.bin .mod (.bin .sub (.bin .mul (.idx (.var 3) (.lit (.int 0))) (.var 8)) (.bin .mul (.idx (.var 3) (.lit (.int 1))) (.var 7))) (.var 4)) .nil)))
      (.cons (.ife (.cmp .eq (.var 7) (.lit (.int 0))) (.cons (.expr (.app (.var 9) (.var 6))) .nil) .nil) .nil)))
    (P := fun fl ρ C' => fl = .next ∧ C' = C ++ [natL (mults r (top / r))] ∧ ∃ (x6 x7 x8 : Option D), ρ = [some (ruleD P Q), some (.int m), some (.int top), some (ruleD P Q), some (.int m), some (.int top), x6, x7, x8, some (.cell C.length)])
    (fun k ρ C' => C' = C ++ [natL ((half k).filter fun n => decide (r ∣ n))] ∧ ∃ x6 : Option D, ρ = [some (ruleD P Q), some (.int m), some (.int top), some (ruleD P Q), some (.int m), some (.int top), x6, some (.int (U P Q k % m)), some (.int (U P Q (k + 1) % m)), some (.cell C.length)])
    (by
      rintro k ρ C' hk ⟨rfl, x6, rfl⟩
      obtain ⟨n, hn⟩ : ∃ n : Nat, n = k + 1 := ⟨_, rfl⟩
      have en : (1 + (k : Int)) = (n : Int) := by omega
      rw [en, ← hn]
      obtain ⟨u, hu⟩ : ∃ u : Int, u = U P Q k % (m : Int) := ⟨_, rfl⟩
      obtain ⟨v, hv⟩ : ∃ v : Int, v = U P Q n % (m : Int) := ⟨_, rfl⟩
      rw [← hu, ← hv]
      have lu : Lt2 100 u := by rw [hu]; exact Lt2.emod _ hm0 lm
      have lv : Lt2 100 v := by rw [hv]; exact Lt2.emod _ hm0 lm
      have t1 : (P * v - Q * u) % (m : Int) = U P Q (n + 1) % (m : Int) := by
        rw [hn, U_rec, hu, hv, hn]; exact em_sub (em_mul rfl (em_self _ _)) (em_mul rfl (em_self _ _))
      simp only [blk]
      refine wps_cons (ρ' := [some (ruleD P Q), some (.int m), some (.int top), some (ruleD P Q), some (.int m), some (.int top), some (.int n), some (.int v), some (.int (U P Q (n + 1) % m)), some (.cell C.length)]) (C' := C ++ [natL ((half k).filter fun n => decide (r ∣ n))]) (by simp -implicitDefEqProofs [mul_lt2 ro.lp lv (by omega), mul_lt2 ro.lq lu (by omega), mod_int _ _ hm0, t1]) ?_
      have hrt := rank_term hrk n
      rw [← hv] at hrt
      have hlen : ((half k).filter fun n => decide (r ∣ n)).length ≤ k := Nat.le_trans (List.length_filter_le _ _) (by rw [half_len]; exact Nat.le_refl _)
      have hh : half n = half k ++ [n] := by rw [hn, half_succ]
      rw [hh, List.filter_append]
      by_cases v0 : v = 0
      · have hd := hrt.mp v0
        have e3 : List.filter (fun n => decide (r ∣ n)) [n] = [n] := by simp [hd]
        have hlt : ((half k).filter fun n => decide (r ∣ n)).length < 16777216 := by omega
        rw [e3]
        obtain ⟨L, hL⟩ : ∃ L : List Nat, L = (half k).filter fun n => decide (r ∣ n) := ⟨_, rfl⟩
        rw [← hL] at hlt ⊢
        have e4 : C ++ [natL (L ++ [n])] = C ++ [natL L ++ [.int (n : Nat)]] := by simp [natL]
        refine wps_cons (ρ' := [some (ruleD P Q), some (.int m), some (.int top), some (ruleD P Q), some (.int m), some (.int top), some (.int n), some (.int v), some (.int (U P Q (n + 1) % m)), some (.cell C.length)]) (C' := C ++ [natL (L ++ [n])]) (by rw [e4]; simp -implicitDefEqProofs [v0, hlt]) ?_
        rw [evSs_nil, wps_ok]
        exact ⟨rfl, _, by rw [hv]⟩
      · have hd : ¬ r ∣ n := fun hh => v0 (hrt.mpr hh)
        have e3 : List.filter (fun n => decide (r ∣ n)) [n] = [] := by simp [hd]
        rw [e3, List.append_nil]
        refine wps_cons (ρ' := [some (ruleD P Q), some (.int m), some (.int top), some (ruleD P Q), some (.int m), some (.int top), some (.int n), some (.int v), some (.int (U P Q (n + 1) % m)), some (.cell C.length)]) (C' := C ++ [natL ((half k).filter fun n => decide (r ∣ n))]) (by simp -implicitDefEqProofs [v0]) ?_
        rw [evSs_nil, wps_ok]
        exact ⟨rfl, _, by rw [hv]⟩)
    (by
      rintro ρ C' ⟨rfl, x6, rfl⟩
      rw [filter_dvd hrk.1]
      exact ⟨rfl, rfl, _, _, _, rfl⟩) (all := (List.range top).map fun i => D.int (1 + (i : Nat))) (ρ := [some (ruleD P Q), some (.int m), some (.int top), some (ruleD P Q), some (.int m), some (.int top), none, some (.int 0), some (.int (1 % m)), some (.cell C.length)]) (C := C ++ [[]])
    ⟨by simp [half], none, by simp [U]⟩
  obtain ⟨fl, ρ, C', e, rfl, rfl, x6, x7, x8, rfl⟩ := wps_get key
  obtain ⟨L, hL⟩ : ∃ L, L = natL (mults r (top / r)) := ⟨_, rfl⟩
  have hLn : D.nocL L = true := by rw [hL]; exact natL_noc _
  rw [← hL] at e ⊢
  have hfin : fin false C.length (.cell C.length) (C ++ [L]) = .ok (.lst L) C := by
    simp [fin, hLn]
  simp -implicitDefEqProofs [F_divided_terms, c1, hm, c2, ht, c3, mod_int _ _ hm0, ← ht', hrg, e, hfin]
end
section
variable {T : Tab}
theorem pMany {f fi fc e fw gf gm fr : Nat} (h : T.fn f = some (F_how_many_places fi fc e fw gf gm fr)) (hi : FirstIn T fi) (hc : T.fn fc = some F_common) (hw : SureWithin T fw) (hr : SureRule T fr) (hm : T.glob gm = some (.int 1000000000)) (hf : T.glob gf = some (.int 1000000000000000000)) : PMany (callF T 99) f := fun P Q m r top ro ok hrk rb ht C => s_many (d := 90) h hi hc hw hr hm hf ro ok hrk rb ht
theorem pPlaces {f ff gl0 e fm fi fc e1 fw gf gm fr fs e2 : Nat} (h : T.fn f = some (F_places_to ff gl0 e fm)) (hgl : T.glob gl0 = some (.int 3000)) (hmny : T.fn fm = some (F_how_many_places fi fc e1 fw gf gm fr)) (hff : T.fn ff = some (F_first_place fi fs gm)) (hs : T.fn fs = some (F_sure_prime_to fc e2 fw fr)) (hi : FirstIn T fi) (hc : T.fn fc = some F_common) (hw : SureWithin T fw) (hr : SureRule T fr) (hm : T.glob gm = some (.int 1000000000)) (hf : T.glob gf = some (.int 1000000000000000000)) : PPlaces (callF T 99) f := fun P Q m r top ro ok hrk rb ht hk C => by
  have c1 := s_many (d := 89) (C := C) hmny hi hc hw hr hm hf ro ok hrk rb ht
  obtain ⟨r', c2, hr', _⟩ := s_first_place (T := T) (d := 89) (C := C) hff hi hs hc hw hr hm ro ok
  rw [← hrk.uniq hr'] at c2
  exact s_places (d := 97) h hgl c1 c2 hk
theorem pWalk {f gw e fs gm fc e2 fw fr : Nat} (h : T.fn f = some (F_place_walked gw e fs gm)) (hs : T.fn fs = some (F_sure_prime_to fc e2 fw fr)) (hc : T.fn fc = some F_common) (hw : SureWithin T fw) (hr : SureRule T fr) (hm : T.glob gm = some (.int 1000000000)) (hgw : T.glob gw = some (.int 20000)) : PWalk (callF T 99) f := fun P Q m r ro ok hrk rb C => s_walk (d := 93) h hs hc hw hr hm hgw ro ok hrk rb
theorem pDT {f fw gt gm fr : Nat} (h : T.fn f = some (F_divided_terms fw gt gm fr)) (hw : SureWithin T fw) (hr : SureRule T fr) (hm : T.glob gm = some (.int 1000000000000000000000000000000)) (ht : T.glob gt = some (.int 3000)) : PDT (callF T 99) f := fun P Q m r top ro m1 m2 hrk htop C => s_divided (d := 94) h hw hr hm ht ro m1 m2 hrk htop
theorem pRests {f : Nat} (h : T.fn f = some F__law_rests) : PRests (callF T 99) f := fun P Q n m ro hn m0 m1 C => s_rests (d := 98) h ro hn m0 m1
end
end ML

set_option maxHeartbeats 1000000
/-! How often a prime divides a term. -/
namespace NJ
open ML
/-- just so often -/
def Exa (l e : Nat) (x : Int) : Prop := ((l ^ e : Nat) : Int) ∣ x ∧ ¬ ((l ^ (e + 1) : Nat) : Int) ∣ x
theorem exa_uniq {l e e' : Nat} {x : Int} (h : Exa l e x) (h' : Exa l e' x) : e = e' := by
  refine Nat.le_antisymm (Nat.le_of_not_lt fun k => h'.2 ?_) (Nat.le_of_not_lt fun k => h.2 ?_)
  · exact Int.dvd_trans (Int.natCast_dvd_natCast.mpr (Nat.pow_dvd_pow l (by omega))) h.1
  · exact Int.dvd_trans (Int.natCast_dvd_natCast.mpr (Nat.pow_dvd_pow l (by omega))) h'.1
theorem exa_iff {l e : Nat} {x : Int} (h : Exa l e x) (j : Nat) : ((l ^ j : Nat) : Int) ∣ x ↔ j ≤ e := by
  constructor
  · intro hd
    refine Nat.le_of_not_lt fun k => h.2 (Int.dvd_trans (Int.natCast_dvd_natCast.mpr (Nat.pow_dvd_pow l (by omega))) hd)
  · intro hj
    exact Int.dvd_trans (Int.natCast_dvd_natCast.mpr (Nat.pow_dvd_pow l hj)) h.1
theorem exa_mul {l : Nat} (hl : Pm l) {a b : Nat} {x y : Int} (hx : Exa l a x) (hy : Exa l b y) : Exa l (a + b) (x * y) := by
  obtain ⟨⟨u, rfl⟩, hx2⟩ := hx
  obtain ⟨⟨v, rfl⟩, hy2⟩ := hy
  have l0 : (l : Int) ≠ 0 := by have := hl.1; omega
  have p0 : ∀ k : Nat, ((l ^ k : Nat) : Int) ≠ 0 := fun k => by rw [Int.natCast_pow]; exact Int.pow_ne_zero l0
  have ps : ∀ k : Nat, ((l ^ (k + 1) : Nat) : Int) = ((l ^ k : Nat) : Int) * l := fun k => by rw [Nat.pow_succ, Int.natCast_mul]
  have pa : ((l ^ (a + b) : Nat) : Int) = ((l ^ a : Nat) : Int) * ((l ^ b : Nat) : Int) := by rw [Nat.pow_add, Int.natCast_mul]
  have nu : ¬ (l : Int) ∣ u := fun ⟨k, hk⟩ => hx2 ⟨k, by rw [ps, hk, Int.mul_assoc]⟩
  have nv : ¬ (l : Int) ∣ v := fun ⟨k, hk⟩ => hy2 ⟨k, by rw [ps, hk, Int.mul_assoc]⟩
  constructor
  · exact ⟨u * v, by rw [pa]; grind⟩
  · rintro ⟨k, hk⟩
    have : u * v = l * k := by
      refine Int.eq_of_mul_eq_mul_left (p0 a) (Int.eq_of_mul_eq_mul_left (p0 b) ?_)
      rw [ps, pa] at hk
      grind
    rcases hl.mulI ⟨k, this⟩ with e | e
    · exact nu e
    · exact nv e
theorem exa_div {l : Nat} (hl : Pm l) {a b : Nat} {x c : Int} (hx : Exa l a x) (hxc : Exa l (a + b) (x * c)) : Exa l b c := by
  have c0 : c ≠ 0 := fun e => hxc.2 (by rw [e, Int.mul_zero]; exact ⟨0, by simp⟩)
  obtain ⟨b', h1, h2⟩ := often_ex hl.1 c0
  have := exa_uniq (exa_mul hl hx ⟨h1, h2⟩) hxc
  have : b' = b := by omega
  subst this
  exact ⟨h1, h2⟩
theorem exa_nat {l e t : Nat} (h : Exa l e (t : Int)) : l ^ e ∣ t ∧ ¬ l ^ (e + 1) ∣ t := ⟨Int.natCast_dvd_natCast.mp h.1, fun k => h.2 (Int.natCast_dvd_natCast.mpr k)⟩
theorem exa_size {l e : Nat} (l2 : 2 ≤ l) {x : Int} (h : Exa l e x) {k : Nat} (hx : x.natAbs < 2 ^ k) : e < k := by
  have x0 : x ≠ 0 := fun e => h.2 (by rw [e]; exact ⟨0, by simp⟩)
  have hle : l ^ e ≤ x.natAbs := Nat.le_of_dvd (by omega) (by
    have := Int.natAbs_dvd_natAbs.mpr h.1
    rwa [Int.natAbs_natCast] at this)
  have h2 : 2 ^ e ≤ l ^ e := Nat.pow_le_pow_left l2 _
  exact (Nat.pow_lt_pow_iff_right (by omega : 1 < 2)).mp (by omega)
section
variable {P Q : Int} {l : Nat} (h : Pm l) (hq : ¬ (l : Int) ∣ Q) {g e : Nat} (hr : Rk P Q (l ^ b0 l) g) (he : b0 l ≤ e) (hx : Ex P Q l e g)
include h hq hr he hx
/-- at multiples of the ground -/
theorem exa_mult {t v : Nat} (hv : Exa l v (t : Int)) : Exa l (e + v) (U P Q (g * t)) := by
  obtain ⟨v1, v2⟩ := exa_nat hv
  have r1 := rk_power h hq hr he hx (k := e + v) (by omega)
  have r2 := rk_power h hq hr he hx (k := e + v + 1) (by omega)
  have e1 : e + v - e = v := by omega
  have e2 : e + v + 1 - e = v + 1 := by omega
  rw [e1] at r1
  rw [e2] at r2
  have g0 : 0 < g := hr.1
  refine ⟨(r1.2 _).mpr (Nat.mul_dvd_mul_left g v1), fun hd => v2 ?_⟩
  exact Nat.dvd_of_mul_dvd_mul_left g0 ((r2.2 _).mp hd)
end
section
variable {P Q : Int} {l : Nat} (h : Pm l) {g s : Nat} (hr : Rk P Q (l ^ b0 l) g) (hs : Rk P Q l s)
include h hr hs
/-- elsewhere -/
theorem exa_else {n : Nat} (hn : ¬ g ∣ n) : Exa l (if s ∣ n then 1 else 0) (U P Q n) := by
  by_cases e2 : l = 2
  · subst e2
    have h4 : ¬ ((2 ^ 2 : Nat) : Int) ∣ U P Q n := fun hd => hn ((hr.2 n).mp hd)
    by_cases hsn : s ∣ n
    · rw [if_pos hsn]
      exact ⟨by rw [Nat.pow_one]; exact (hs.2 n).mpr hsn, h4⟩
    · rw [if_neg hsn]
      refine ⟨by simp, fun hd => hsn ((hs.2 n).mp ?_)⟩
      rwa [Nat.zero_add, Nat.pow_one] at hd
  · have e1 : b0 l = 1 := by unfold b0; rw [if_neg e2]
    rw [e1, Nat.pow_one] at hr
    have : s = g := hs.uniq hr
    subst this
    rw [if_neg hn]
    refine ⟨by simp, fun hd => hn ((hs.2 n).mp ?_)⟩
    rwa [Nat.zero_add, Nat.pow_one] at hd
end
end NJ

set_option maxHeartbeats 4000000
/-! Quotients of terms; what is known of a prime and its ground. -/
namespace ML
open PySem NJ
def PQuot (cf : CF) (f : Nat) : Prop := ∀ (P Q : Int) (n t : Nat), RuleOk P Q → 1 ≤ n → n ≤ 800 → n * t ≤ 3000 → U P Q n ≠ 0 → ∀ C, cf f [ruleD P Q, .int n, .int t] C = .ok (.int (qc P Q n t)) C
theorem pQuot {T : Tab} {f e ft fw gm fr : Nat} (h : T.fn f = some (F_quotient e ft fw gm fr)) (ht : TermsIn T ft) (hw : SureWithin T fw) (hr : SureRule T fr) (hm : T.glob gm = some (.int 3000)) : PQuot (callF T 99) f := fun P Q n t ro n1 n8 hnt u0 C => by
  rw [callF_eq (d := 98) h rfl]
  have c1 := hr 94 C P Q ro
  have c2 := hw 95 C (n : Int) 1 3000 (by omega) (by omega)
  have n0 : (0 : Int) < n := by omega
  have bn : bits (n : Int) < 63 := bits_nat (by omega)
  have bn9 : bits (n : Int) < 9000 := by omega
  obtain ⟨k, hk⟩ : ∃ k : Nat, k = 3000 / n := ⟨_, rfl⟩
  have ek : (3000 : Int) / (n : Int) = (k : Int) := by rw [hk, Int.natCast_ediv]; rfl
  have tk : t ≤ k := by rw [hk]; exact (Nat.le_div_iff_mul_le (by omega)).mpr (by rw [Nat.mul_comm]; exact hnt)
  have c3 := hw 95 C (t : Int) 0 (k : Int) (by omega) (by omega)
  obtain ⟨t', ht'⟩ : ∃ t' : Nat, t' = if 1 > t then 1 else t := ⟨_, rfl⟩
  have emax : ∀ C, blt .max [.int (t : Nat), .int 1] C = some (.int (t' : Nat)) := fun C => by
    show some (D.int (if (1 : Int) > (t : Int) then 1 else (t : Int))) = _
    rw [ht']
    by_cases h1 : 1 > t
    · rw [if_pos h1, if_pos (by omega)]; rfl
    · rw [if_neg h1, if_neg (by omega)]
  obtain ⟨M, hM⟩ : ∃ M : Nat, M = n * t' + 1 := ⟨_, rfl⟩
  have eM : (n : Int) * (t' : Int) + 1 = (M : Int) := by rw [hM, Int.natCast_add, Int.natCast_mul]; rfl
  have t1 : t ≤ t' ∧ 1 ≤ t' := by rw [ht']; split <;> omega
  have hnt' : n * t' ≤ 3000 := by
    rw [ht']; split
    · omega
    · exact hnt
  have c4 := (ht 97 C P Q M ro (by omega)).1
  obtain ⟨N, hN⟩ : ∃ N : Nat, N = n * t := ⟨_, rfl⟩
  have eN : (n : Int) * (t : Int) = (N : Int) := by rw [hN, Int.natCast_mul]
  have hNM : N < M := by
    have := Nat.mul_le_mul_left n t1.1
    omega
  have hnM : n < M := by
    have := Nat.mul_le_mul_left n t1.2
    omega
  have i1 : ixn M (n : Int) = some n := ixn_pos hnM
  have i2 : ixn M (N : Int) = some N := ixn_pos hNM
  have g1 : atD (rowL (U P Q) M) n = some (.int (U P Q n)) := rowL_at hnM
  have g2 : atD (rowL (U P Q) M) N = some (.int (U P Q N)) := rowL_at hNM
  have hU : U P Q N = U P Q n * qc P Q n t := by rw [hN, Nat.mul_comm, U_qc]
  have bU : bits (U P Q n) < 9000 := by
    have := U_lt2 ro n
    exact Nat.lt_of_lt_of_le (bits_lt (n := 8900) (by exact this.mono (by omega)) (by omega)) (by omega)
  have ediv : (U P Q N).fdiv (U P Q n) = qc P Q n t := by rw [hU]; exact Int.mul_fdiv_cancel_left _ u0
  simp -implicitDefEqProofs [F_quotient, c1, hm, c2, fdiv_int _ _ n0 bn9, ek, c3, emax, mul_int _ _ (.inl bn), eM, c4, rowL_len, i1, g1, u0, eN, i2, g2, fdiv_intN _ _ u0 bU, ediv]
/-- what is known of a prime and its ground -/
structure Gr (p q : Int) (l g : Nat) (o : Option Nat) : Prop where
  r : RuleOk p q
  ok : PmOk q l
  hg : Rk p q (l ^ b0 l) g
  gle : g ≤ l + 4
  on : o = none → U p q g = 0
  os : ∀ e, o = some e → b0 l ≤ e ∧ Ex p q l e g
theorem gr_ex {p q : Int} (r : RuleOk p q) {l : Nat} (ok : PmOk q l) : ∃ g o, Gr p q l g o := by
  have l2 := ok.pm.1
  obtain ⟨g, hg, gb⟩ := ground_ex (P := p) ok.pm ok.nq
  obtain ⟨a, b, cc⟩ := bnd_ok (P := p) ok.pm ok.nq
  have gle : g ≤ l + 4 := by
    by_cases e2 : l = 2
    · subst e2
      obtain ⟨r2, hr2, hd2⟩ := rk_of (P := p) (Pm.copQ1 ok.pm ok.nq) _ b a
      have := Nat.le_of_dvd (by omega) hd2
      have h4 := four_of_two (P := p) (Q := q) (r := r2) (by exact_mod_cast hr2.self)
      have r21 := hr2.1
      have hd : g ∣ 2 * r2 := (hg.2 _).mp (by show ((4 : Nat) : Int) ∣ _; exact_mod_cast h4)
      have := Nat.le_of_dvd (by omega) hd
      omega
    · have e1 : b0 l = 1 := by unfold b0; rw [if_neg e2]
      rw [e1, Nat.pow_one] at hg
      have hd : g ∣ bnd p q l := (hg.2 _).mp a
      have := Nat.le_of_dvd (by omega) hd
      omega
  by_cases u0 : U p q g = 0
  · exact ⟨g, none, r, ok, hg, gle, fun _ => u0, fun e he => by cases he⟩
  · obtain ⟨e, h1, h2⟩ := often_ex l2 u0
    have he : b0 l ≤ e := Nat.le_of_not_lt fun k => h2 (Int.dvd_trans (Int.natCast_dvd_natCast.mpr (Nat.pow_dvd_pow l (by omega))) hg.self)
    refine ⟨g, some e, r, ok, hg, gle, fun hh => by (cases hh), fun e' he' => ?_⟩
    simp only [Option.some.injEq] at he'
    subst he'
    exact ⟨he, h1, h2⟩
theorem small_pm : ∀ l : Nat, l = 2 ∨ l = 3 ∨ l = 5 ∨ l = 7 ∨ l = 11 ∨ l = 13 → Pm l := by
  intro l hl
  refine ⟨by omega, fun d hd => ?_⟩
  have hle := Nat.le_of_dvd (by omega) hd
  have key : ∀ l ∈ [2, 3, 5, 7, 11, 13], ∀ d ∈ List.range 14, d ∣ l → d = 1 ∨ d = l := by decide
  exact key l (by simp; omega) d (by simp; omega) hd
theorem same_two {n : Nat} {x y : D} (hx : SameOk n x) (hy : SameOk n y) : SameOk (n + 1) (.lst [x, y]) := by
  refine .lst _ _ (by simp) fun b hb => ?_
  simp only [List.mem_cons, List.not_mem_nil, or_false] at hb
  rcases hb with rfl | rfl
  · exact hx
  · exact hy
end ML

set_option maxHeartbeats 1000000
/-! The primes of a number are what they are; first places of least common multiples. -/
namespace NJ
open ML
theorem ppow_two {x : Nat × Nat} (h : Pm x.1 ∧ 1 ≤ x.2) : 2 ≤ ppow x := by
  unfold ppow
  have := h.1.1
  obtain ⟨e, he⟩ : ∃ e, x.2 = e + 1 := ⟨x.2 - 1, by have := h.2; omega⟩
  rw [he, Nat.pow_succ]
  have : 1 ≤ x.1 ^ e := Nat.pow_pos (by omega)
  calc 2 ≤ 1 * x.1 := by omega
    _ ≤ x.1 ^ e * x.1 := Nat.mul_le_mul_right _ this
theorem prodL_pos : ∀ {xs : List (Nat × Nat)}, (∀ x ∈ xs, Pm x.1 ∧ 1 ≤ x.2) → 1 ≤ prodL xs
  | [], _ => by simp [prodL]
  | x :: xs, h => by
    have h1 := ppow_two (h x (by simp))
    have h2 := prodL_pos (xs := xs) fun y hy => h y (by simp [hy])
    simp only [prodL]
    exact Nat.mul_pos (by omega) h2
theorem not_dvd_tail {x : Nat × Nat} {xs : List (Nat × Nat)} (hx : Pm x.1) (hp : ∀ y ∈ xs, Pm y.1) (hlt : ∀ y ∈ xs, x.1 < y.1) : ¬ x.1 ∣ prodL xs := fun hd => by
  obtain ⟨y, hy, e⟩ := Pm.dvd_prod hx hp hd
  have := hlt y hy
  omega
theorem dvd_ppow {x : Nat × Nat} (h : 1 ≤ x.2) : x.1 ∣ ppow x := by
  unfold ppow
  obtain ⟨e, he⟩ : ∃ e, x.2 = e + 1 := ⟨x.2 - 1, by omega⟩
  rw [he, Nat.pow_succ]; exact Nat.dvd_mul_left _ _
theorem pf_uniq : ∀ {xs ys : List (Nat × Nat)} {n : Nat}, PF n xs → PF n ys → xs = ys
  | [], [], _, _, _ => rfl
  | [], y :: ys, n, h, h' => by
    have h1 := h.prod
    have h2 := h'.prod
    have h3 := ppow_two (h'.pm y (by simp))
    have h4 := prodL_pos (xs := ys) fun z hz => h'.pm z (by simp [hz])
    simp only [prodL] at h1 h2
    have := Nat.mul_le_mul h3 h4
    omega
  | x :: xs, [], n, h, h' => by
    have h1 := h.prod
    have h2 := h'.prod
    have h3 := ppow_two (h.pm x (by simp))
    have h4 := prodL_pos (xs := xs) fun z hz => h.pm z (by simp [hz])
    simp only [prodL] at h1 h2
    have := Nat.mul_le_mul h3 h4
    omega
  | x :: xs, y :: ys, n, h, h' => by
    have ax := List.pairwise_cons.mp h.asc
    have ay := List.pairwise_cons.mp h'.asc
    have hx := h.pm x (by simp)
    have hy := h'.pm y (by simp)
    have dx : x.1 ∣ prodL (y :: ys) := by
      rw [h'.prod, ← h.prod]; exact Nat.dvd_trans (dvd_ppow hx.2) (Nat.dvd_mul_right _ _)
    have dy : y.1 ∣ prodL (x :: xs) := by
      rw [h.prod, ← h'.prod]; exact Nat.dvd_trans (dvd_ppow hy.2) (Nat.dvd_mul_right _ _)
    obtain ⟨z, hz, ez⟩ := Pm.dvd_prod hx.1 (fun w hw => (h'.pm w hw).1) dx
    obtain ⟨w, hw, ew⟩ := Pm.dvd_prod hy.1 (fun w hw => (h.pm w hw).1) dy
    have le1 : y.1 ≤ x.1 := by
      rcases List.mem_cons.mp hz with rfl | hz
      · omega
      · have := ay.1 z hz; omega
    have le2 : x.1 ≤ y.1 := by
      rcases List.mem_cons.mp hw with rfl | hw
      · omega
      · have := ax.1 w hw; omega
    have e1 : x.1 = y.1 := by omega
    have hp := h.prod
    have hp' := h'.prod
    simp only [prodL, ppow] at hp hp'
    have nx := not_dvd_tail hx.1 (fun z hz => (h.pm z (by simp [hz])).1) ax.1
    have ny := not_dvd_tail hy.1 (fun z hz => (h'.pm z (by simp [hz])).1) ay.1
    have p2 := hx.1.1
    have key : ∀ {a b : Nat} {u v : Nat}, a < b → x.1 ^ a * u = x.1 ^ b * v → x.1 ∣ u := by
      intro a b u v hab he
      have e3 : x.1 ^ b = x.1 ^ a * x.1 ^ (b - a) := by rw [← Nat.pow_add]; congr 1; omega
      rw [e3, Nat.mul_assoc] at he
      have h0 : 0 < x.1 ^ a := Nat.pow_pos (by omega)
      have he2 := Nat.eq_of_mul_eq_mul_left h0 he
      obtain ⟨c, hc⟩ : ∃ c, b - a = c + 1 := ⟨b - a - 1, by omega⟩
      rw [hc, Nat.pow_succ] at he2
      exact ⟨x.1 ^ c * v, by rw [he2]; grind⟩
    have e2 : x.2 = y.2 := by
      refine Nat.le_antisymm (Nat.le_of_not_lt fun hlt => ?_) (Nat.le_of_not_lt fun hlt => ?_)
      · exact ny (e1 ▸ key hlt (by rw [hp, ← hp', e1]))
      · exact nx (key hlt (by rw [hp, ← hp', e1]))
    have exy : x = y := Prod.ext e1 e2
    subst exy
    have h0 : 0 < x.1 ^ x.2 := Nat.pow_pos (by omega)
    have e4 : prodL xs = prodL ys := Nat.eq_of_mul_eq_mul_left h0 (by rw [hp, hp'])
    have := pf_uniq (xs := xs) (ys := ys) (n := prodL xs) ⟨fun z hz => h.pm z (by simp [hz]), ax.2, rfl⟩ ⟨fun z hz => h'.pm z (by simp [hz]), ay.2, e4.symm⟩
    rw [this]
theorem Rk.lcm {P Q : Int} {a b r s : Nat} (h : Rk P Q a r) (h' : Rk P Q b s) : Rk P Q (Nat.lcm a b) (Nat.lcm r s) := by
  refine ⟨Nat.lcm_pos h.1 h'.1, fun n => ?_⟩
  have c : ∀ x : Nat, (x : Int) ∣ U P Q n ↔ x ∣ (U P Q n).natAbs := fun x => by
    constructor
    · intro k; have := Int.natAbs_dvd_natAbs.mpr k; rwa [Int.natAbs_natCast] at this
    · intro k; exact Int.natAbs_dvd_natAbs.mp (by rwa [Int.natAbs_natCast])
  have e : ((Nat.lcm a b : Nat) : Int) ∣ U P Q n ↔ (a : Int) ∣ U P Q n ∧ (b : Int) ∣ U P Q n := by
    rw [c, c, c]
    exact ⟨fun k => ⟨Nat.dvd_trans (Nat.dvd_lcm_left a b) k, Nat.dvd_trans (Nat.dvd_lcm_right a b) k⟩, fun ⟨x, y⟩ => Nat.lcm_dvd x y⟩
  rw [e, h.2, h'.2]
  exact ⟨fun ⟨x, y⟩ => Nat.lcm_dvd x y, fun k => ⟨Nat.dvd_trans (Nat.dvd_lcm_left r s) k, Nat.dvd_trans (Nat.dvd_lcm_right r s) k⟩⟩
theorem erase_perm : ∀ {l : List Nat} {i : Nat} (h : i < l.length), (l[i] :: l.eraseIdx i).Perm l
  | x :: xs, 0, _ => .refl _
  | x :: xs, i + 1, h => by
    have hi : i < xs.length := by simpa using h
    have := erase_perm (l := xs) (i := i) hi
    simp only [List.getElem_cons_succ, List.eraseIdx_cons_succ]
    exact (List.Perm.swap x xs[i] (xs.eraseIdx i)).trans (List.Perm.cons x this)
end NJ

set_option maxHeartbeats 4000000
/-! The parts of a number; picking. -/
namespace ML
open PySem NJ
def tD (x : Nat × Nat × Nat) : D := .tup [.int x.1, .int x.2.1, .int x.2.2]
theorem tD_noc : ∀ xs : List (Nat × Nat × Nat), D.nocL (xs.map tD) = true
  | [] => rfl
  | x :: xs => by simp [tD, tD_noc xs]
def PParts (cf : CF) (f : Nat) : Prop := ∀ (P Q : Int) (m : Nat) (xs : List (Nat × Nat × Nat)), RuleOk P Q → NumOk Q m → PF m (xs.map fun x => (x.1, x.2.1)) → (∀ x ∈ xs, Rk P Q (x.1 ^ x.2.1) x.2.2) → ∀ C, cf f [ruleD P Q, .int m] C = .ok (.tup (xs.map tD)) C
theorem pParts {T : Tab} {f fq fp fs gm fc e fw fr : Nat} (h : T.fn f = some (F_place_parts fq fp fs gm)) (hq : PrimesOf T fq) (hp : PowerPlace T fp) (hs : T.fn fs = some (F_sure_prime_to fc e fw fr)) (hc : T.fn fc = some F_common) (hw : SureWithin T fw) (hr : SureRule T fr) (hm : T.glob gm = some (.int 1000000000)) : PParts (callF T 99) f := fun P Q m xs ro ok pf hrk C => by
  rw [callF_eq (d := 98) h rfl]
  have m1 := ok.m1
  have mb := ok.mb
  have c1 := s_sure_prime_to (T := T) (d := 93) (C := C) hs hc hw hr ro ok (t := 1000000000) (by omega)
  obtain ⟨ys, c2, pf2, _⟩ := hq 97 C m m1 (by omega)
  have eys := pf_uniq pf2 pf
  have hlen : xs.length ≤ 100 := by
    have := asc_len pf2.pm (k := 40) (by rw [pf2.prod]; omega)
    rw [eys] at this
    simp at this; omega
  have hmap : ys.map pD = xs.map fun x => pD (x.1, x.2.1) := by rw [eys]; simp
  rw [hmap] at c2
  have key : ∀ (zs : List (Nat × Nat × Nat)) (acc : List D), (∀ z ∈ zs, z ∈ xs) → cloop none (xs.map fun x => pD (x.1, x.2.1)) (cbd T.glob (callF T 98) [4, 5] (.many [4, 5]) .none (.tup (.cons (.var 4) (.cons (.var 5) (.cons (.call fp (.cons (.var 2) (.cons (.var 4) (.cons (.var 5) .nil)))) .nil)))) [some (ruleD P Q), some (.int m), some (ruleD P Q), some (.int m), none, none]) (zs.map fun x => pD (x.1, x.2.1)) acc C = .ok (acc.reverse ++ zs.map tD) C := by
    intro zs
    induction zs with
    | nil => intro acc _; simp [cloop]
    | cons z zs ih =>
      intro acc hin
      have hzx := hin z (by simp)
      have hzy : (z.1, z.2.1) ∈ ys := by rw [eys]; exact List.mem_map_of_mem hzx
      obtain ⟨pok, z1, z2, z3, z4⟩ := num_prime ok pf2 hzy
      obtain ⟨r, c5, hr', _⟩ := hp 91 C P Q z.1 z.2.1 ro pok z1 z2 z3
      have er := hr'.uniq (hrk z hzx)
      rw [er] at c5
      have step : cbd T.glob (callF T 98) [4, 5] (.many [4, 5]) .none (.tup (.cons (.var 4) (.cons (.var 5) (.cons (.call fp (.cons (.var 2) (.cons (.var 4) (.cons (.var 5) .nil)))) .nil)))) [some (ruleD P Q), some (.int m), some (ruleD P Q), some (.int m), none, none] (pD (z.1, z.2.1)) C = .ok (some (tD z)) C := by
        simp -implicitDefEqProofs [cbd, pD, c5, tD]
      rw [List.map_cons, cloop, step]
      simp only [R.calm_ok, R.bind_ok, held_none, if_true]
      rw [ih (tD z :: acc) fun y hy => hin y (by simp [hy])]
      simp
  have k0 := key xs [] fun z hz => hz
  rw [List.reverse_nil, List.nil_append] at k0
  obtain ⟨L, hL⟩ : ∃ L : List D, L = xs.map tD := ⟨_, rfl⟩
  obtain ⟨A, hA⟩ : ∃ A : List D, A = xs.map fun x => pD (x.1, x.2.1) := ⟨_, rfl⟩
  rw [← hL, ← hA] at k0
  rw [← hA] at c2
  have hAl : A.length ≤ 16777216 := by rw [hA]; simp; omega
  have hLn : D.nocL L = true := by rw [hL]; exact tD_noc xs
  rw [← hL]
  simp -implicitDefEqProofs [F_place_parts, hm, c1, c2, hAl, k0, fin_tup hLn]
@[simp] theorem evE_pop (gl : Nat → Option D) (cf : CF) (a e : E) (ρ : Env) (C : Cells) : evE gl cf (.pop a e) ρ C = (evE gl cf a ρ C).bind fun x C => match x with
    | .cell i => (evE gl cf e ρ C).bind fun y C => match y, C[i]? with
      | .int k, some xs => match (if rngOk k then ixn xs.length k else none) with
        | some j => match xs[j]? with
          | some d => .ok d (C.set i (xs.eraseIdx j))
          | none => .stuck
        | none => .stuck
      | _, _ => .stuck
    | _ => .stuck := by rw [evE] <;> rfl
theorem evE_popK {gl : Nat → Option D} {cf : CF} {a e : E} {ρ : Env} {C C1 : Cells} {i j : Nat} {k : Int} {xs : List D} {d : D} (ha : evE gl cf a ρ C = .ok (.cell i) C) (he : evE gl cf e ρ C = .ok (.int k) C1) (hG : C1[i]? = some xs) (h2 : (if rngOk k then ixn xs.length k else none) = some j) (hd : xs[j]? = some d) :
    evE gl cf (.pop a e) ρ C = .ok d (C1.set i (xs.eraseIdx j)) := by
  rw [evE_pop, ha, R.bind_ok]
  dsimp only
  rw [he, R.bind_ok, hG]
  dsimp only
  rw [h2]
  dsimp only
  rw [hd]
theorem evE_popN {gl : Nat → Option D} {cf : CF} {a e : E} {ρ : Env} {C C1 : Cells} {i j : Nat} {k : Int} (hk : k = (j : Nat)) {xs : List D} {d : D} (ha : evE gl cf a ρ C = .ok (.cell i) C) (he : evE gl cf e ρ C = .ok (.int k) C1) (hG : C1[i]? = some xs) (hj : j < xs.length) (hb : j < 1000000) (hd : xs[j]? = some d) :
    evE gl cf (.pop a e) ρ C = .ok d (C1.set i (xs.eraseIdx j)) := by
  refine evE_popK ha he hG ?_ hd
  have h1 : rngOk k = true := by unfold rngOk; exact decide_eq_true ⟨by omega, by omega⟩
  rw [if_pos h1, hk]
  exact ixn_pos hj
theorem natL_erase : ∀ (xs : List Nat) (j : Nat), (natL xs).eraseIdx j = natL (xs.eraseIdx j)
  | [], _ => by simp
  | x :: xs, 0 => by simp
  | x :: xs, j + 1 => by
    have := natL_erase xs j
    simp only [natL, List.map_cons, List.eraseIdx_cons_succ] at this ⊢
    rw [this]
def PPick (cf : CF) (f : Nat) : Prop := ∀ (Rs : Cells) (a b c : Int) (vs : List Nat) (n : Nat), TinOk a b c → c < 1000000 → vs.length ≤ 1000 → n ≤ 100 → ∃ (ns : List Nat) (a' c' : Int), cf f [.cell 0, .lst (natL vs), .int n] (tinL a b c :: Rs) = .ok (.lst (natL ns)) (tinL a' b c' :: Rs) ∧ (∃ rest, (ns ++ rest).Perm vs) ∧ TinOk a' b c' ∧ c' ≤ c + n
theorem pPick {T : Tab} {f ft : Nat} (h : T.fn f = some (F__law_pick ft)) (ht : T.fn ft = some F__law_take) : PPick (callF T 99) f := fun Rs a b c vs n ok hc hv hn => by
  obtain ⟨N, hN⟩ : ∃ N : Nat, N = Rs.length + 1 := ⟨_, rfl⟩
  obtain ⟨K, hK⟩ : ∃ K : Nat, K = if vs.length < n then vs.length else n := ⟨_, rfl⟩
  have hmin : ∀ C, blt .min [.int (n : Nat), .int (vs.length : Nat)] C = some (.int (K : Nat)) := fun C => by
    show some (D.int (if (vs.length : Int) < (n : Int) then (vs.length : Int) else (n : Int))) = _
    rw [hK]
    by_cases h1 : vs.length < n
    · rw [if_pos h1, if_pos (by omega)]
    · rw [if_neg h1, if_neg (by omega)]
  have hKn : K ≤ n ∧ K ≤ vs.length := by rw [hK]; split <;> omega
  have key := floop_rng0 (n := K) (t := 3) (b := blk T.glob (callF T 98) (.cons (.expr (.app (.var 5) (.pop (.var 4) (.call ft (.cons (.var 0) (.cons (.bf .len (.cons (.var 4) .nil)) .nil)))))) .nil))
    (P := fun fl ρ C' => fl = .next ∧ ∃ (left found : List Nat) (x3 : Option D) (a' c' : Int), (found ++ left).Perm vs ∧ ρ = [some (.cell 0), some (.lst (natL vs)), some (.int n), x3, some (.cell N), some (.cell (N + 1))] ∧ C' = tinL a' b c' :: Rs ++ [natL left, natL found] ∧ TinOk a' b c' ∧ c' ≤ c + n)
    (fun k ρ C' => ∃ (left found : List Nat) (x3 : Option D) (a' c' : Int), (found ++ left).Perm vs ∧ left.length + k = vs.length ∧ ρ = [some (.cell 0), some (.lst (natL vs)), some (.int n), x3, some (.cell N), some (.cell (N + 1))] ∧ C' = tinL a' b c' :: Rs ++ [natL left, natL found] ∧ TinOk a' b c' ∧ c' ≤ c + k)
    (by
      rintro k ρ C' hk ⟨left, found, x3, a', c', hp, hl, rfl, rfl, ok', hc'⟩
      have hll : 1 ≤ left.length := by omega
      have hfl : found.length ≤ 1000 := by
        have := hp.length_eq
        simp at this; omega
      obtain ⟨r, a2, c2, e2, r0, r1, ok2, h2⟩ := s_take (T := T) (d := 97) (f := ft) (i := 0) (C := tinL a' b c' :: Rs ++ [natL left, natL found]) (m := (left.length : Int)) ht rfl ok' (by omega) (by omega) (by omega)
      obtain ⟨j, rfl⟩ : ∃ j : Nat, r = j := ⟨r.toNat, by omega⟩
      have hj : j < left.length := by omega
      have e2' : callF T 98 ft [.cell 0, .int left.length] (tinL a' b c' :: Rs ++ [natL left, natL found]) = .ok (.int j) (tinL a2 b c2 :: Rs ++ [natL left, natL found]) := e2
      have g4 : ∀ a c L F, (tinL a b c :: Rs ++ [L, F])[N]? = some L := fun a c L F => by
        rw [hN]; simp
      have g5 : ∀ a c L F, (tinL a b c :: Rs ++ [L, F])[N + 1]? = some F := fun a c L F => by
        rw [hN]
        have : (tinL a b c :: Rs ++ [L, F])[Rs.length + 1 + 1]? = (Rs ++ [L, F])[Rs.length + 1]? := rfl
        rw [this, List.getElem?_append_right (by omega)]
        have e : Rs.length + 1 - Rs.length = 1 := by omega
        rw [e]; rfl
      have s4 : ∀ a c L F L', (tinL a b c :: Rs ++ [L, F]).set N L' = tinL a b c :: Rs ++ [L', F] := fun a c L F L' => by
        rw [hN]
        show tinL a b c :: (Rs ++ [L, F]).set Rs.length L' = _
        rw [List.set_append_right _ _ (by omega)]
        have e : Rs.length - Rs.length = 0 := by omega
        rw [e]; rfl
      have s5 : ∀ a c L F F', (tinL a b c :: Rs ++ [L, F]).set (N + 1) F' = tinL a b c :: Rs ++ [L, F'] := fun a c L F F' => by
        rw [hN]
        show tinL a b c :: (Rs ++ [L, F]).set (Rs.length + 1) F' = _
        rw [List.set_append_right _ _ (by omega)]
        have e : Rs.length + 1 - Rs.length = 1 := by omega
        rw [e]; rfl
      have hlen4 : ∀ a c L F, D.items (tinL a b c :: Rs ++ [L, F]) (.cell N) = some L := fun a c L F => items_cell (g4 a c L F)
      have hix : ixn (natL left).length (j : Int) = some j := by rw [show (natL left).length = left.length by simp]; exact ixn_pos hj
      have hat : (natL left)[j]? = some (.int (left[j] : Nat)) := by simp [hj]
      have hrok : rngOk (j : Int) = true := by unfold rngOk; exact decide_eq_true ⟨by omega, by omega⟩
      have her : (natL left).eraseIdx j = natL (left.eraseIdx j) := by
        exact natL_erase _ _
      have hfl2 : (natL found).length < 16777216 := by simp; omega
      have happ : natL found ++ [D.int (left[j] : Nat)] = natL (found ++ [left[j]]) := by simp
      have hst : evS T.glob (callF T 98) (.expr (.app (.var 5) (.pop (.var 4) (.call ft (.cons (.var 0) (.cons (.bf .len (.cons (.var 4) .nil)) .nil)))))) [some (.cell 0), some (.lst (natL vs)), some (.int n), some (.int (k : Nat)), some (.cell N), some (.cell (N + 1))] (tinL a' b c' :: Rs ++ [natL left, natL found]) = .ok .next [some (.cell 0), some (.lst (natL vs)), some (.int n), some (.int (k : Nat)), some (.cell N), some (.cell (N + 1))] (tinL a2 b c2 :: Rs ++ [natL (left.eraseIdx j), natL (found ++ [left[j]])]) := by
        obtain ⟨C1, hC1⟩ : ∃ C1 : Cells, C1 = tinL a' b c' :: Rs ++ [natL left, natL found] := ⟨_, rfl⟩
        obtain ⟨C2, hC2⟩ : ∃ C2 : Cells, C2 = tinL a2 b c2 :: Rs ++ [natL left, natL found] := ⟨_, rfl⟩
        have G4 : C2[N]? = some (natL left) := by rw [hC2]; exact g4 _ _ _ _
        have S4 : C2.set N (natL (left.eraseIdx j)) = tinL a2 b c2 :: Rs ++ [natL (left.eraseIdx j), natL found] := by rw [hC2]; exact s4 _ _ _ _ _
        have G5 := g5 a2 c2 (natL (left.eraseIdx j)) (natL found)
        have S5 := s5 a2 c2 (natL (left.eraseIdx j)) (natL found) (natL (found ++ [left[j]]))
        have H4 : D.items C1 (.cell N) = some (natL left) := by rw [hC1]; exact hlen4 _ _ _ _
        rw [← hC1, ← hC2] at e2'
        rw [← hC1]
        obtain ⟨C3, hC3⟩ : ∃ C3 : Cells, C3 = tinL a2 b c2 :: Rs ++ [natL (left.eraseIdx j), natL found] := ⟨_, rfl⟩
        rw [← hC3] at S4 G5 S5
        clear hC1 hC2 hC3 g4 g5 s4 s5 hlen4
        have hcall : evE T.glob (callF T 98) (.call ft (.cons (.var 0) (.cons (.bf .len (.cons (.var 4) .nil)) .nil))) [some (.cell 0), some (.lst (natL vs)), some (.int n), some (.int (k : Nat)), some (.cell N), some (.cell (N + 1))] C1 = .ok (.int (j : Nat)) C2 := by
          have hll : (natL left).length = left.length := by simp
          simp -implicitDefEqProofs only [evE_call, evEs_cons, evEs_nil, evE_var, List.getElem?_cons_zero, List.getElem?_cons_succ, R.bind_ok, evE_bf, bf_len, H4, Option.map_some, R.of_some, hll]
          exact e2'
        have hpop : evE T.glob (callF T 98) (.pop (.var 4) (.call ft (.cons (.var 0) (.cons (.bf .len (.cons (.var 4) .nil)) .nil)))) [some (.cell 0), some (.lst (natL vs)), some (.int n), some (.int (k : Nat)), some (.cell N), some (.cell (N + 1))] C1 = .ok (.int (left[j] : Nat)) C3 := by
          rw [evE_popN (k := (j : Nat)) rfl (i := N) (xs := natL left) (j := j) (d := .int (left[j] : Nat)) (C1 := C2) rfl hcall G4 (by simp; exact hj) (by omega) hat, her, S4]
        rw [evS_expr, evE_app]
        simp -implicitDefEqProofs only [evE_var, List.getElem?_cons_zero, List.getElem?_cons_succ, R.bind_ok]
        rw [hpop]
        simp -implicitDefEqProofs only [R.bind_ok, G5]
        rw [if_pos ⟨hfl2, noc_int _⟩, happ, S5, R.toS_ok]
      simp only [blk]
      refine wps_cons hst ?_
      rw [evSs_nil, wps_ok]
      refine ⟨left.eraseIdx j, found ++ [left[j]], _, a2, c2, ?_, ?_, rfl, rfl, ok2, by omega⟩
      · refine List.Perm.trans ?_ hp
        rw [List.append_assoc]
        exact List.Perm.append_left found (erase_perm hj)
      · rw [List.length_eraseIdx_of_lt hj]; omega)
    (by
      rintro ρ C' ⟨left, found, x3, a', c', hp, hl, rfl, rfl, ok', hc'⟩
      exact ⟨rfl, left, found, x3, a', c', hp, rfl, rfl, ok', by omega⟩)
    (all := (List.range K).map fun i => D.int (i : Nat)) (ρ := [some (.cell 0), some (.lst (natL vs)), some (.int n), none, some (.cell N), some (.cell (N + 1))]) (C := tinL a b c :: Rs ++ [natL vs, natL []])
    ⟨vs, [], none, a, c, by simp, by omega, rfl, rfl, ok, by simp⟩
  have hrg : rngop [D.int (K : Nat)] = some ((List.range K).map fun i => D.int (i : Nat)) := rngop_nat (n := K) (by omega)
  obtain ⟨fl, ρ, C', e, rfl, left, found, x3, a', c', hp, rfl, rfl, ok', hc'⟩ := wps_get key
  refine ⟨found, a', c', ?_, ⟨left, hp⟩, ok', hc'⟩
  rw [callF_eq (d := 98) h rfl]
  obtain ⟨V, hV⟩ : ∃ V : List D, V = natL vs := ⟨_, rfl⟩
  have hVn : D.nocL V = true := by rw [hV]; exact natL_noc vs
  have hVl : V.length = vs.length := by rw [hV]; simp
  rw [← hV] at e
  have hl1 : (tinL a b c :: Rs).length = N := by simp [hN]
  have hpar : evS T.glob (callF T 98) (.par [4, 5] [true, true] (.cons (.bf .list (.cons (.var 1) .nil)) (.cons (.lst .nil) .nil))) [some (.cell 0), some (.lst V), some (.int n), none, none, none] (tinL a b c :: Rs) = .ok .next [some (.cell 0), some (.lst V), some (.int n), none, some (.cell N), some (.cell (N + 1))] (tinL a b c :: Rs ++ [V, []]) := by
    simp -implicitDefEqProofs [hVn, hN]
  have hfin : fin false N (.cell (N + 1)) (tinL a' b c' :: Rs ++ [natL left, natL found]) = .ok (.lst (natL found)) (tinL a' b c' :: Rs) := by
    have g5 : (tinL a' b c' :: Rs ++ [natL left, natL found])[N + 1]? = some (natL found) := by
      rw [hN]
      have : (tinL a' b c' :: Rs ++ [natL left, natL found])[Rs.length + 1 + 1]? = (Rs ++ [natL left, natL found])[Rs.length + 1]? := rfl
      rw [this, List.getElem?_append_right (by omega)]
      have e : Rs.length + 1 - Rs.length = 1 := by omega
      rw [e]; rfl
    have tk : (tinL a' b c' :: Rs ++ [natL left, natL found]).take N = tinL a' b c' :: Rs := by
      rw [List.take_append_of_le_length (by simp [hN])]
      exact List.take_of_length_le (by simp [hN])
    simp only [fin]
    rw [if_neg (by omega), g5, tk]
    rfl
  have hitems : ∀ L F, D.items (tinL a b c :: Rs ++ [L, F]) (.cell N) = some L := fun L F => items_cell (by rw [hN]; simp)
  have hmin' : ∀ C, blt .min [.int (n : Nat), .int (V.length : Nat)] C = some (.int (K : Nat)) := fun C => by rw [hVl]; exact hmin C
  have h1 : evSs T.glob (callF T 98) (F__law_pick ft).body [some (.cell 0), some (.lst V), some (.int n), none, none, none] (tinL a b c :: Rs) = .ok (.ret (.cell (N + 1))) [some (.cell 0), some (.lst V), some (.int n), x3, some (.cell N), some (.cell (N + 1))] (tinL a' b c' :: Rs ++ [natL left, natL found]) := by
    unfold F__law_pick
    rw [evSs_cons, hpar]
    have e' : floop none ((List.range K).map fun i => D.int (i : Nat)) (.one 3) (blk T.glob (callF T 98) (.cons (.expr (.app (.var 5) (.pop (.var 4) (.call ft (.cons (.var 0) (.cons (.bf .len (.cons (.var 4) .nil)) .nil)))))) .nil)) ((List.range K).map fun i => D.int (i : Nat)) [some (.cell 0), some (.lst V), some (.int n), none, some (.cell N), some (.cell (N + 1))] (tinL a b c :: Rs ++ [V, []]) = .ok .next [some (.cell 0), some (.lst V), some (.int n), x3, some (.cell N), some (.cell (N + 1))] (tinL a' b c' :: Rs ++ [natL left, natL found]) := e
    simp -implicitDefEqProofs only [RS.seq_next, evSs_cons, evS_fr, evSrc_rng, evEs_cons, evEs_nil, evE_bf, evE_var, List.getElem?_cons_zero, List.getElem?_cons_succ, R.bind_ok, bf_int, R.of_some, bf_len, hitems, Option.map_some, hmin', hrg, R.toS_ok, e', evS_ret, RS.seq_ret]
  rw [← hV]
  have h2 : evSs T.glob (callF T 98) (F__law_pick ft).body (List.map some [D.cell 0, D.lst V, D.int n] ++ List.replicate ((F__law_pick ft).nv - (F__law_pick ft).np) none) (tinL a b c :: Rs) = .ok (.ret (.cell (N + 1))) [some (.cell 0), some (.lst V), some (.int n), x3, some (.cell N), some (.cell (N + 1))] (tinL a' b c' :: Rs ++ [natL left, natL found]) := h1
  rw [h2, retR_ret, hl1]
  exact hfin
end ML

set_option maxHeartbeats 1000000
/-! First places by going through, for small numbers. -/
namespace NJ
open PySem ML
def wkr (p q : Int) (m : Nat) : Nat → Nat → Int → Int → Nat
  | 0, _, _, _ => 0
  | f + 1, n, x, y => if x = 0 then n else wkr p q m f (n + 1) y ((p * y - q * x) % (m : Int))
def rkw (p q : Int) (m : Nat) : Nat := wkr p q m 200 1 (1 % (m : Int)) (p % (m : Int))
theorem wkr_ok {p q : Int} {m : Nat} : ∀ (f n : Nat) (x y : Int) (r : Nat), 1 ≤ n → x = U p q n % (m : Int) → y = U p q (n + 1) % (m : Int) → (∀ j, 1 ≤ j → j < n → ¬ (m : Int) ∣ U p q j) → wkr p q m f n x y = r → r ≠ 0 →
    1 ≤ r ∧ (m : Int) ∣ U p q r ∧ ∀ j, 1 ≤ j → j < r → ¬ (m : Int) ∣ U p q j
  | 0, n, x, y, r, _, _, _, _, h, h0 => absurd h.symm h0
  | f + 1, n, x, y, r, n1, hx, hy, hj, h, h0 => by
    rw [wkr] at h
    by_cases x0 : x = 0
    · rw [if_pos x0] at h
      subst h
      exact ⟨n1, Int.dvd_of_emod_eq_zero (by rw [← hx]; exact x0), hj⟩
    · rw [if_neg x0] at h
      refine wkr_ok f (n + 1) y _ r (by omega) hy ?_ ?_ h h0
      · rw [U, hy, hx, Int.sub_emod, Int.mul_emod, Int.emod_emod, ← Int.mul_emod, Int.mul_emod q, Int.emod_emod, ← Int.mul_emod, ← Int.sub_emod]
      · intro j j1 j2
        by_cases e : j = n
        · subst e
          intro hd
          exact x0 (by rw [hx]; exact Int.emod_eq_zero_of_dvd hd)
        · exact hj j j1 (by omega)
theorem rk_w {p q : Int} {m r : Nat} (hc : Int.gcd m q = 1) (h : rkw p q m = r) (h0 : r ≠ 0) : Rk p q m r := by
  obtain ⟨a, b, c⟩ := wkr_ok 200 1 _ _ r (Nat.le_refl 1) (by rw [U]) (by show p % (m : Int) = (p * U p q 1 - q * U p q 0) % (m : Int); rw [U, U, Int.mul_one, Int.mul_zero, Int.sub_zero]) (fun j j1 j2 => by omega) h h0
  obtain ⟨r', k1, k2⟩ := rk_of hc r a b
  have hle := Nat.le_of_dvd (by omega) k2
  by_cases e : r' = r
  · rw [← e]; exact k1
  · exact absurd k1.self (c r' k1.1 (by omega))
/-- the rule of sums of powers -/
theorem geo (a : Int) : ∀ n, U (a + 1) a (n + 1) = U (a + 1) a n * a + 1 := fun n => by
  induction n with
  | zero => rw [U, U]; omega
  | succ n ih =>
    rw [U]
    have : a * U (a + 1) a n = U (a + 1) a (n + 1) - 1 := by rw [ih, Int.mul_comm]; omega
    rw [this, Int.add_mul, Int.mul_comm a]; omega
theorem U_nat : ∀ n : Nat, U 2 1 n = n
  | 0 => rfl
  | 1 => rfl
  | n + 2 => by rw [U, U_nat (n + 1), U_nat n]; omega
theorem V_two : ∀ n : Nat, V 2 1 n = 2
  | 0 => rfl
  | 1 => rfl
  | n + 2 => by rw [V, V_two (n + 1), V_two n]; omega
end NJ

set_option maxHeartbeats 1000000
/-! Rows told of any cf; a list against a cell. -/
namespace ML
open PySem NJ
def PTerms (cf : CF) (f : Nat) : Prop := ∀ (p q : Int) (n : Nat), RuleOk p q → n ≤ 3001 → ∀ C, cf f [ruleD p q, .int n] C = .ok (.lst (rowL (U p q) n)) C
def PComps (cf : CF) (f : Nat) : Prop := ∀ (p q : Int) (n : Nat), RuleOk p q → n ≤ 3001 → ∀ C, cf f [ruleD p q, .int n] C = .ok (.lst (rowL (V p q) n)) C
def PSameC (cf : CF) (f : Nat) : Prop := ∀ (n : Nat) (xs : List D) (i : Nat), SameOk (n + 1) (.lst xs) → n ≤ 8 → ∀ C : Cells, C[i]? = some xs → cf f [.lst xs, .cell i] C = .ok (.bl true) C
section
variable {T : Tab}
theorem pTerms {f ft fw gm fr : Nat} (h : T.fn f = some (F_terms ft fw gm fr)) (ht : TermsIn T ft) (hw : SureWithin T fw) (hr : SureRule T fr) (hm : T.glob gm = some (.int 3000)) : PTerms (callF T 99) f := fun p q n r hn C => s_terms (d := 94) h ht hw hr hm r hn
theorem pComps {f ft fw gm fr : Nat} (h : T.fn f = some (F_companions ft fw gm fr)) (ht : TermsIn T ft) (hw : SureWithin T fw) (hr : SureRule T fr) (hm : T.glob gm = some (.int 3000)) : PComps (callF T 99) f := fun p q n r hn C => s_companions (d := 94) h ht hw hr hm r hn
theorem pSameC {f : Nat} (h : T.fn f = some (F__law_same f)) : PSameC (callF T 99) f := fun n xs i hx hn C hC => by
  have := s_sameC (d := 97 - n) h n xs hx hC
  have e : 97 - n + (n + 1) + 1 = 99 := by omega
  rw [e] at this
  exact this
theorem same_ints {cf : CF} {f : Nat} (h : PSame cf f) (ns : List Int) (hl : ns.length ≤ 10000) (C : Cells) : cf f [.lst (ns.map D.int), .lst (ns.map D.int)] C = .ok (.bl true) C := h 1 _ (.lst _ _ (by simp; omega) fun x hx => by
  obtain ⟨i, _, rfl⟩ := List.mem_map.mp hx
  exact .int _ _) (by omega) C
/-- a comprehension over numbers: those that pass -/
theorem cloopF {gd : Option (Nat × List D)} {all : List D} {f : D → Cells → R (Option D)} {C : Cells} {L : List Nat} {k : Nat → Bool} (hh : held gd all C = true) (h : ∀ l ∈ L, f (.int (l : Nat)) C = .ok (if k l then some (.int (l : Nat)) else none) C) :
    cloop gd all f (natL L) [] C = .ok (natL (L.filter k)) C := by
  rw [cloop_filter (g := fun x => x) (k := fun x => match x with | .int i => k i.toNat | _ => false) hh (natL L) [] fun x hx => ?_]
  · rw [List.reverse_nil, List.nil_append, List.map_id']
    unfold natL
    rw [List.filter_map]
    rfl
  · obtain ⟨l, hl, rfl⟩ := List.mem_map.mp hx
    exact h l hl
theorem cloopM {gd : Option (Nat × List D)} {all : List D} {f : D → Cells → R (Option D)} {C : Cells} {L : List Nat} {g : Nat → D} (hh : held gd all C = true) (h : ∀ l ∈ L, f (.int (l : Nat)) C = .ok (some (g l)) C) :
    cloop gd all f (natL L) [] C = .ok (L.map g) C := by
  rw [cloop_map (g := fun x => match x with | .int i => g i.toNat | _ => .non) hh (natL L) [] fun x hx => ?_]
  · rw [List.reverse_nil, List.nil_append]
    unfold natL
    rw [List.map_map]
    rfl
  · obtain ⟨l, hl, rfl⟩ := List.mem_map.mp hx
    exact h l hl
theorem rngN0 (n : Nat) (h : n < 2 ^ 60) : rngop [.int n] = some (natL (List.range n)) := rngop_nat (by omega)
theorem rngN {a b : Nat} (h : (b : Int) < 2 ^ 60) (hab : a ≤ b) : rngop [.int a, .int b] = some (natL ((List.range (b - a)).map fun i => a + i)) := by
  rw [rngop_ab _ _ (by omega) (by omega) (by omega) (by omega)]
  have e : ((b : Int) - (a : Int)).toNat = b - a := by omega
  rw [e]
  unfold natL
  rw [List.map_map]
  refine congrArg some (List.map_congr_left fun i _ => ?_)
  show D.int ((a : Int) + (i : Int)) = D.int ((a + i : Nat) : Int)
  rw [Int.natCast_add]
end
end ML

set_option maxHeartbeats 1000000
/-! Which terms of v an odd prime divides. -/
namespace NJ
open PySem ML
section
variable {P Q : Int} {l : Nat} (h : Pm l) (ho : l % 2 = 1) (hq : ¬ (l : Int) ∣ Q)
include h ho hq
theorem odd_no_two : ¬ (l : Int) ∣ 2 := fun hd => by
  have h2 : l ∣ 2 := Int.natCast_dvd_natCast.mp (by exact_mod_cast hd)
  have := Nat.le_of_dvd (by omega) h2
  have := h.1
  omega
theorem v_not_u {n : Nat} (hv : (l : Int) ∣ V P Q n) : ¬ (l : Int) ∣ U P Q n := fun hu => by
  have e := V_U P Q n
  have h1 : (l : Int) ∣ 2 * U P Q (n + 1) := by
    have : 2 * U P Q (n + 1) = V P Q n + P * U P Q n := by omega
    rw [this]
    exact Int.dvd_add hv (Int.dvd_mul_of_dvd_right hu)
  have hc : Int.gcd (l : Int) Q = 1 := Pm.copQ1 h hq
  have h2 := unit_next hc hu
  rw [Int.mul_comm] at h1
  exact odd_no_two h ho hq (cop_dvd h2 h1)
theorem v_iff {r : Nat} (hr : Rk P Q l r) (n : Nat) : (l : Int) ∣ V P Q n ↔ r % 2 = 0 ∧ n % (r / 2) = 0 ∧ n / (r / 2) % 2 = 1 := by
  have r1 := hr.1
  constructor
  · intro hv
    have hu := v_not_u h ho hq hv
    have h2 : (l : Int) ∣ U P Q (n + n) := by rw [U_double]; exact Int.dvd_mul_of_dvd_right hv
    obtain ⟨c, hc⟩ := (hr.2 _).mp h2
    have hn : ¬ r ∣ n := fun k => hu ((hr.2 n).mpr k)
    have c1 : c % 2 = 1 := by
      refine Decidable.byContradiction fun k => hn ?_
      obtain ⟨k', hk'⟩ : ∃ k', c = 2 * k' := ⟨c / 2, by omega⟩
      refine ⟨k', ?_⟩
      rw [hk'] at hc
      have : r * (2 * k') = 2 * (r * k') := by rw [Nat.mul_left_comm]
      omega
    have r2 : r % 2 = 0 := by
      have e : (r * c) % 2 = (r % 2) * (c % 2) % 2 := Nat.mul_mod r c 2
      rw [c1, Nat.mul_one, ← hc] at e
      omega
    obtain ⟨s, hs⟩ : ∃ s, r = 2 * s := ⟨r / 2, by omega⟩
    have s1 : 0 < s := by omega
    have hns : n = s * c := by
      rw [hs] at hc
      have : 2 * s * c = 2 * (s * c) := by rw [Nat.mul_assoc]
      omega
    have e2 : r / 2 = s := by omega
    rw [e2, hns, Nat.mul_mod_right, Nat.mul_div_cancel_left _ s1]
    exact ⟨r2, rfl, c1⟩
  · rintro ⟨r2, k1, k2⟩
    obtain ⟨s, hs⟩ : ∃ s, r = 2 * s := ⟨r / 2, by omega⟩
    have e2 : r / 2 = s := by omega
    have s1 : 0 < s := by omega
    rw [e2] at k1 k2
    obtain ⟨c, hc⟩ := Nat.dvd_of_mod_eq_zero k1
    rw [hc, Nat.mul_div_cancel_left _ s1] at k2
    have h2 : (l : Int) ∣ U P Q (n + n) := (hr.2 _).mpr ⟨c, by rw [hc, hs, Nat.mul_assoc]; omega⟩
    rw [U_double] at h2
    rcases h.mulI h2 with k | k
    · exfalso
      obtain ⟨d, hd⟩ := (hr.2 n).mp k
      rw [hc, hs] at hd
      have : s * c = s * (2 * d) := by rw [hd, Nat.mul_comm 2 s, Nat.mul_assoc]
      have := Nat.eq_of_mul_eq_mul_left s1 this
      omega
    · exact k
theorem v_pow {r n k : Nat} (hr : Rk P Q (l ^ k) r) (hn : r = 2 * n) (hv : (l : Int) ∣ V P Q n) : ((l ^ k : Nat) : Int) ∣ V P Q n := by
  have hu := v_not_u h ho hq hv
  have h2 : ((l ^ k : Nat) : Int) ∣ U P Q n * V P Q n := by
    rw [← U_double]
    exact (hr.2 _).mpr ⟨1, by omega⟩
  refine cop_dvd (b := U P Q n) ?_ h2
  refine gcd_one_of fun d d1 d2 => ?_
  refine Decidable.byContradiction fun dne => ?_
  have d0 : d ≠ 0 := fun e => by
    subst e
    obtain ⟨x, hx⟩ := d1
    have : (l ^ k : Nat) = 0 := by
      have : ((l ^ k : Nat) : Int) = 0 := by rw [hx]; simp
      exact_mod_cast this
    have := Nat.pow_pos (n := k) (show 0 < l by have := h.1; omega)
    omega
  obtain ⟨m, hm, hmd⟩ := has_prime d (by omega)
  have h3 : m ∣ l ^ k := Nat.dvd_trans hmd (Int.natCast_dvd_natCast.mp d1)
  have h4 : m ∣ l := by
    clear hr h2 d1
    induction k with
    | zero =>
      rw [Nat.pow_zero] at h3
      have h6 := Nat.le_of_dvd (by omega) h3
      have h7 := hm.1
      exact absurd h6 (by omega)
    | succ k ih =>
      rw [Nat.pow_succ] at h3
      rcases hm.mul h3 with k | k
      · exact ih k
      · exact k
  have h5 : m = l := (h.2 m h4).resolve_left (by have := hm.1; omega)
  rw [h5] at hmd
  exact hu (Int.dvd_trans (Int.natCast_dvd_natCast.mpr hmd) d2)
end
end NJ

set_option maxHeartbeats 1000000
/-! Own primes; slices of rows. -/
namespace ML
open PySem NJ
def divsL (k : Nat) : List Nat := ((List.range (k - 2)).map fun i => 2 + i).filter fun j => decide (k % j = 0 ∧ j * j ≤ k)
def primesL (m : Nat) : List Nat := ((List.range (m + 1 - 2)).map fun i => 2 + i).filter fun k => decide (divsL k = [])
def PPrimesL (cf : CF) (f : Nat) : Prop := ∀ m : Nat, 1 ≤ m → m ≤ 1000 → ∀ C, cf f [.int (m : Nat)] C = .ok (.lst (natL (primesL m))) C
theorem deq_natL (C : Cells) (xs ys : List Nat) : deq C (.lst (natL xs)) (.lst (natL ys)) = some (decide (xs = ys)) := by
  rw [natL_int, natL_int]
  refine (deq_ints _ _).trans (congrArg some (decide_eq_decide.mpr ?_))
  constructor
  · intro h
    have h2 := congrArg (List.map Int.toNat) h
    rw [List.map_map, List.map_map] at h2
    have e : ∀ zs : List Nat, List.map (Int.toNat ∘ fun (n : Nat) => (n : Int)) zs = zs := fun zs => by
      refine (List.map_congr_left (g := id) fun z _ => ?_).trans (List.map_id zs)
      exact Int.toNat_natCast z
    rw [e, e] at h2
    exact h2
  · intro h; rw [h]
section
variable {T : Tab}
theorem pPrimesL {f : Nat} (h : T.fn f = some F__law_primes) : PPrimesL (callF T 99) f := fun m m1 m2 C => by
  rw [callF_eq (d := 98) h rfl]
  obtain ⟨m', hm'⟩ : ∃ m' : Nat, m' = m + 1 := ⟨_, rfl⟩
  have em : (m : Int) + 1 = (m' : Int) := by omega
  have hrg : rngop [D.int 2, D.int (m' : Nat)] = some (natL ((List.range (m' - 2)).map fun i => 2 + i)) := rngN (a := 2) (by omega) (by omega)
  obtain ⟨Rg, hRg⟩ : ∃ Rg : List Nat, Rg = (List.range (m' - 2)).map fun i => 2 + i := ⟨_, rfl⟩
  rw [← hRg] at hrg
  have key := cloopF (gd := none) (all := natL Rg) (f := cbd T.glob (callF T 98) [1] (.one 1) (.some (.cmp .eq (.comp [2] (.rng (.cons (.lit (.int 2)) (.cons (.var 1) .nil))) (.one 2) (.some (.and (.cmp .eq (.bin .mod (.var 1) (.var 2)) (.lit (.int 0))) (.cmp .le (.bin .mul (.var 2) (.var 2)) (.var 1)))) (.var 2)) (.lst .nil))) (.var 1) [some (.int (m : Nat)), none, none]) (C := C) (L := Rg) (k := fun k => decide (divsL k = [])) rfl (by
    intro k hk
    rw [hRg] at hk
    have k2 : 2 ≤ k ∧ k ≤ 1000 := by
      obtain ⟨i, hi, rfl⟩ := List.mem_map.mp hk
      rw [List.mem_range] at hi
      omega
    have hr2 : rngop [D.int 2, D.int (k : Nat)] = some (natL ((List.range (k - 2)).map fun i => 2 + i)) := rngN (a := 2) (by omega) k2.1
    obtain ⟨Rk, hRk⟩ : ∃ Rk : List Nat, Rk = (List.range (k - 2)).map fun i => 2 + i := ⟨_, rfl⟩
    rw [← hRk] at hr2
    have hl : (natL Rk).length ≤ 16777216 := by rw [hRk]; simp; omega
    have key2 := cloopF (gd := none) (all := natL Rk) (f := cbd T.glob (callF T 98) [2] (.one 2) (.some (.and (.cmp .eq (.bin .mod (.var 1) (.var 2)) (.lit (.int 0))) (.cmp .le (.bin .mul (.var 2) (.var 2)) (.var 1)))) (.var 2) [some (.int (m : Nat)), some (.int (k : Nat)), none]) (C := C) (L := Rk) (k := fun j => decide (k % j = 0 ∧ j * j ≤ k)) rfl (by
      intro j hj
      rw [hRk] at hj
      have j2 : 2 ≤ j ∧ j ≤ 1000 := by
        obtain ⟨i, hi, rfl⟩ := List.mem_map.mp hj
        rw [List.mem_range] at hi
        omega
      have j0 : (0 : Int) < (j : Int) := by omega
      have bj : bits (j : Int) < 63 := bits_nat (by omega)
      obtain ⟨w, hw⟩ : ∃ w : Nat, w = k % j := ⟨_, rfl⟩
      have ew : (k : Int) % (j : Int) = (w : Int) := by rw [hw, Int.natCast_emod]
      obtain ⟨s, hs⟩ : ∃ s : Nat, s = j * j := ⟨_, rfl⟩
      have es : (j : Int) * (j : Int) = (s : Int) := by rw [hs, Int.natCast_mul]
      rw [← hw, ← hs]
      by_cases w0 : w = 0
      · have w0' : (w : Int) = 0 := by omega
        by_cases sk : s ≤ k
        · have sk' : (s : Int) ≤ k := by omega
          simp -implicitDefEqProofs [cbd, mod_int _ _ j0, mul_int _ _ (.inl bj), ew, es, w0, w0', sk, sk']
        · have sk' : ¬ (s : Int) ≤ k := by omega
          simp -implicitDefEqProofs [cbd, mod_int _ _ j0, mul_int _ _ (.inl bj), ew, es, w0, w0', sk, sk']
      · have w0' : ¬ (w : Int) = 0 := by omega
        simp -implicitDefEqProofs [cbd, mod_int _ _ j0, mul_int _ _ (.inl bj), ew, es, w0, w0'])
    have hd : Rk.filter (fun j => decide (k % j = 0 ∧ j * j ≤ k)) = divsL k := by rw [hRk]; rfl
    rw [hd] at key2
    have hc := deq_natL C (divsL k) []
    obtain ⟨A, hA⟩ : ∃ A : List D, A = natL (divsL k) := ⟨_, rfl⟩
    rw [← hA] at key2 hc
    simp -implicitDefEqProofs only [cbd, wipeE, setTg_one, List.set_cons_succ, List.set_cons_zero, R.of_some, R.bind_ok, evOT, evE_cmp, evE_comp, evSrc_rng, evEs_cons, evEs_nil, evE_lit, evE_var, List.getElem?_cons_succ, List.getElem?_cons_zero, hr2, if_pos hl]
    rw [key2]
    simp -implicitDefEqProofs only [R.bind_ok, evE_lst, evEs_nil, cmp_eq]
    have hc' : deq C (.lst A) (.lst []) = some (decide (divsL k = [])) := hc
    rw [hc']
    by_cases hdv : divsL k = [] <;> simp -implicitDefEqProofs [hdv])
  have hl : (natL Rg).length ≤ 16777216 := by rw [hRg]; simp; omega
  have hp : Rg.filter (fun k => decide (divsL k = [])) = primesL m := by rw [hRg, hm']; rfl
  rw [hp] at key
  unfold F__law_primes
  have key' : cloop none (natL Rg) (cbd T.glob (callF T 98) [1] (.one 1) (.some (.cmp .eq (.comp [2] (.rng (.cons (.lit (.int 2)) (.cons (.var 1) .nil))) (.one 2) (.some (.and (.cmp .eq (.bin .mod (.var 1) (.var 2)) (.lit (.int 0))) (.cmp .le (.bin .mul (.var 2) (.var 2)) (.var 1)))) (.var 2)) (.lst .nil))) (.var 1) (List.map some [.int (m : Nat)] ++ List.replicate (3 - 1) none)) (natL Rg) [] C = .ok (natL (primesL m)) C := key
  simp -implicitDefEqProofs only [evSs_cons, evS_ret, evE_comp, evSrc_rng, evEs_cons, evEs_nil, evE_lit, evE_bin, evE_var]
  have g0 : (List.map some [D.int (m : Nat)] ++ List.replicate (3 - 1) none)[0]? = some (some (D.int (m : Nat))) := rfl
  simp -implicitDefEqProofs only [g0, R.bind_ok, add_int, em, R.of_some, hrg, if_pos hl]
  rw [key']
  simp -implicitDefEqProofs only [R.bind_ok, R.toS_ok, RS.seq_ret, retR_ret]
  rw [fin_lst (natL_noc _), List.take_length]
end
/-- a divisor that is no unit gives one whose square is not too great -/
theorem primesL_pm {m l : Nat} (h : l ∈ primesL m) : Pm l ∧ l ≤ m := by
  unfold primesL at h
  rw [List.mem_filter] at h
  obtain ⟨h1, h2⟩ := h
  obtain ⟨i, hi, rfl⟩ := List.mem_map.mp h1
  rw [List.mem_range] at hi
  have hd := of_decide_eq_true h2
  refine ⟨⟨by omega, fun d hdv => ?_⟩, by omega⟩
  refine Decidable.byContradiction fun k => ?_
  obtain ⟨e, he⟩ := hdv
  have d0 : d ≠ 0 := fun k0 => by rw [k0, Nat.zero_mul] at he; omega
  have e0 : e ≠ 0 := fun k0 => by rw [k0, Nat.mul_zero] at he; omega
  have d1 : d ≠ 1 := fun k1 => k (.inl k1)
  have e1 : e ≠ 1 := fun k1 => k (.inr (by rw [he, k1, Nat.mul_one]))
  have no : ∀ j, 2 ≤ j → j < 2 + i → (2 + i) % j = 0 → j * j ≤ 2 + i → False := fun j j2 jl jm js => by
    have : j ∈ divsL (2 + i) := by
      unfold divsL
      rw [List.mem_filter]
      refine ⟨List.mem_map.mpr ⟨j - 2, List.mem_range.mpr (by omega), by omega⟩, decide_eq_true ⟨jm, js⟩⟩
    rw [hd] at this
    cases this
  rcases Nat.le_total d e with hle | hle
  · refine no d (by omega) ?_ (Nat.mod_eq_zero_of_dvd ⟨e, he⟩) (by rw [he]; exact Nat.mul_le_mul_left d hle)
    have := Nat.mul_le_mul_left d (show 2 ≤ e by omega)
    omega
  · refine no e (by omega) ?_ (Nat.mod_eq_zero_of_dvd ⟨d, by rw [Nat.mul_comm]; exact he⟩) (by rw [he]; exact Nat.mul_le_mul_right e hle)
    have := Nat.mul_le_mul_right e (show 2 ≤ d by omega)
    omega
end ML

set_option maxHeartbeats 0
/-! the text in the small language; made by gen.py -/
namespace K15
open PySem ML
def top (i : Nat) : Stmt := PySem.Challenge.pw_termsdivide_k15_across_which_companions.main.body.getD i (.Pass ⟨0, 0, 0, 0⟩)
def d_is_number : DefI := ⟨"is_number", top 4, ["thing"], ["thing"], ML.F_is_number⟩
def d_is_within : DefI := ⟨"is_within", top 5, ["thing", "least", "most"], ["thing", "least", "most"], ML.F_is_within 0⟩
def d_is_long : DefI := ⟨"is_long", top 6, ["thing", "length"], ["thing", "length"], ML.F_is_long⟩
def d_are_numbers : DefI := ⟨"are_numbers", top 7, ["thing", "own"], ["thing"], ML.F_are_numbers 0⟩
def d_tupled : DefI := ⟨"tupled", top 8, ["value", "own"], ["value"], ML.F_tupled 4⟩
def d_sure_within : DefI := ⟨"sure_within", top 9, ["thing", "least", "most"], ["thing", "least", "most"], ML.F_sure_within 1 1⟩
def d_common : DefI := ⟨"common", top 10, ["one", "other"], ["one", "other"], ML.F_common⟩
def d_lcm : DefI := ⟨"lcm", top 11, ["one", "other"], ["one", "other"], ML.F_lcm 6⟩
def d_primes_of : DefI := ⟨"primes_of", top 12, ["number", "found", "left", "prime", "often"], ["number"], ML.F_primes_of⟩
def d_is_prime_in : DefI := ⟨"is_prime_in", top 13, ["number"], ["number"], ML.F_is_prime_in 8⟩
def d_jacobi_in : DefI := ⟨"jacobi_in", top 14, ["one", "odd", "near", "far", "sign"], ["one", "odd"], ML.F_jacobi_in⟩
def d_is_rule_in : DefI := ⟨"is_rule_in", top 18, ["thing", "own"], ["thing"], ML.F_is_rule_in 0 3 2⟩
def d_sure_rule : DefI := ⟨"sure_rule", top 19, ["value", "own"], ["value"], ML.F_sure_rule 11 1 4⟩
def d_big_d : DefI := ⟨"big_d", top 20, ["rule"], ["rule"], ML.F_big_d⟩
def d_terms_in : DefI := ⟨"terms_in", top 21, ["rule", "kind", "many", "found"], ["rule", "kind", "many"], ML.F_terms_in⟩
def d_zero_in : DefI := ⟨"zero_in", top 22, ["rule", "found", "place", "own"], ["rule"], ML.F_zero_in 14⟩
def d_companion : DefI := ⟨"companion", top 23, ["rule", "number", "own"], ["rule", "number"], ML.F_companion 14 5 1 12⟩
def d_companions : DefI := ⟨"companions", top 24, ["rule", "many", "own"], ["rule", "many"], ML.F_companions 14 5 1 12⟩
def d_digits_of : DefI := ⟨"digits_of", top 28, ["number", "found", "left"], ["number"], ML.F_digits_of⟩
def d_pair_mod : DefI := ⟨"pair_mod", top 29, ["rule", "number", "modulus", "digit", "near", "far", "twice", "beyond"], ["rule", "number", "modulus"], ML.F_pair_mod 18⟩
def d_v_mod : DefI := ⟨"v_mod", top 30, ["rule", "number", "modulus", "near", "far"], ["rule", "number", "modulus"], ML.F_v_mod 19⟩
def d_sure_far : DefI := ⟨"sure_far", top 31, ["number", "modulus", "own"], ["number", "modulus"], ML.F_sure_far 5 3 2⟩
def d_companion_rest : DefI := ⟨"companion_rest", top 32, ["rule", "number", "modulus", "own", "far", "under"], ["rule", "number", "modulus"], ML.F_companion_rest 20 21 12⟩
def d_two_terms : DefI := ⟨"two_terms", top 34, ["rule", "kinds", "one", "other", "own", "near", "far"], ["rule", "kinds", "one", "other"], ML.F_two_terms 14 5 1 12⟩
def d_common_mixed : DefI := ⟨"common_mixed", top 35, ["rule", "one", "other", "near", "far"], ["rule", "one", "other"], ML.F_common_mixed 6 23⟩
def d_is_divided : DefI := ⟨"is_divided", top 36, ["rule", "modulus", "number", "own", "under"], ["rule", "modulus", "number"], ML.F_is_divided 19 5 2 3 12⟩
def d_bound_in : DefI := ⟨"bound_in", top 40, ["rule", "prime", "sign"], ["rule", "prime"], ML.F_bound_in 10 13⟩
def d_least_part : DefI := ⟨"least_part", top 41, ["rule", "modulus", "bound", "found", "prime", "often"], ["rule", "modulus", "bound"], ML.F_least_part 8 19⟩
def d_prime_place_in : DefI := ⟨"prime_place_in", top 42, ["rule", "prime"], ["rule", "prime"], ML.F_prime_place_in 27 26⟩
def d_ground_in : DefI := ⟨"ground_in", top 43, ["rule", "prime"], ["rule", "prime"], ML.F_ground_in 28 27⟩
def d_excess_in : DefI := ⟨"excess_in", top 44, ["rule", "prime", "ground", "zero", "found", "power"], ["rule", "prime"], ML.F_excess_in 19 15 29⟩
def d_power_place_in : DefI := ⟨"power_place_in", top 45, ["rule", "prime", "often", "found", "excess", "lap"], ["rule", "prime", "often"], ML.F_power_place_in 30 29 28⟩
def d_first_place_in : DefI := ⟨"first_place_in", top 46, ["rule", "modulus", "found", "prime", "often"], ["rule", "modulus"], ML.F_first_place_in 8 7 31⟩
def d_sure_prime_to : DefI := ⟨"sure_prime_to", top 47, ["rule", "modulus", "most", "own", "under"], ["rule", "modulus", "most"], ML.F_sure_prime_to 6 0 5 12⟩
def d_sure_prime : DefI := ⟨"sure_prime", top 48, ["rule", "prime", "own"], ["rule", "prime"], ML.F_sure_prime 0 9 1 4 1 12⟩
def d_first_place : DefI := ⟨"first_place", top 49, ["rule", "modulus", "own", "under"], ["rule", "modulus"], ML.F_first_place 32 33 4⟩
def d_place_excess : DefI := ⟨"place_excess", top 50, ["rule", "prime", "own", "told"], ["rule", "prime"], ML.F_place_excess 30 34⟩
def d_power_place : DefI := ⟨"power_place", top 51, ["rule", "prime", "often", "own", "times"], ["rule", "prime", "often"], ML.F_power_place 31 0 5 5 9 1 4 1 12⟩
def d__law_box : DefI := ⟨"_law_box", top 53, ["script", "k", "bit_so"], ["script", "k"], ML.F__law_box⟩
def d__law_take : DefI := ⟨"_law_take", top 54, ["tin", "below_so", "once_so", "wide_so", "twice_so", "drawn_so"], ["tin", "below_so"], ML.F__law_take⟩
def d__law_cells : DefI := ⟨"_law_cells", top 55, ["script", "most_so", "cells_so", "k", "bit_so", "at_so"], ["script", "most_so"], ML.F__law_cells⟩
def d__law_pick : DefI := ⟨"_law_pick", top 56, ["tin", "goods_so", "count_so", "lap", "pool_so", "found"], ["tin", "goods_so", "count_so"], ML.F__law_pick 39⟩
def d__law_same : DefI := ⟨"_law_same", top 57, ["got", "due", "mine", "its"], ["got", "due"], ML.F__law_same 42⟩
def d__law_rule : DefI := ⟨"_law_rule", top 58, ["tin", "wide_so", "q"], ["tin", "wide_so"], ML.F__law_rule 39⟩
def d__law_vs : DefI := ⟨"_law_vs", top 59, ["rule_so", "many_so", "found", "lap"], ["rule_so", "many_so"], ML.F__law_vs⟩
def d__law_first : DefI := ⟨"_law_first", top 60, ["rule_so", "under_so", "most_so", "place_so", "near", "far"], ["rule_so", "under_so", "most_so"], ML.F__law_first⟩
def d__law_often : DefI := ⟨"_law_often", top 61, ["number_so", "prime_so", "found", "lap"], ["number_so", "prime_so"], ML.F__law_often⟩
def d__law_primes : DefI := ⟨"_law_primes", top 62, ["most_so", "k", "j"], ["most_so"], ML.F__law_primes⟩
def B_law_2 (f__law_pick f__law_primes f_common_mixed f__law_often f__law_same f_companion f_companion_rest f_power_place f_place_excess f_is_divided f__law_take f_first_place f__law_first f_companions f__law_vs f__law_rule f__law_box f__law_cells : Nat) : Ss :=
 (.cons (.set 6 (.call f__law_first (.cons (.var 3) (.cons (.var 5) (.cons (.bin .add (.var 5) (.lit (.int 2))) .nil)))))
   (.cons (.ife (.not (.call f__law_same (.cons (.callk f_first_place .nil (.cons (.var 3) (.cons (.var 5) .nil)) [0, 1]) (.cons (.var 6) .nil)))) (.cons (.ret (.lit (.bl false)))
    .nil) .nil)
   (.cons (.set 7 (.comp [10] (.rng (.cons (.lit (.int 1)) (.cons (.lit (.int 401)) .nil))) (.one 10) (.some (.cmp .eq (.bin .mod (.idx (.var 4) (.var 10)) (.var 5)) (.lit (.int 0)))) (.var 10)))
   (.cons (.set 8 (.bin .fdiv (.var 6) (.lit (.int 2))))
   (.cons (.set 9 (.comp [10] (.rng (.cons (.lit (.int 1)) (.cons (.lit (.int 401)) .nil))) (.one 10) (.some (.and (.cmp .eq (.bin .mod (.var 6) (.lit (.int 2))) (.lit (.int 0))) (.and (.cmp .eq (.bin .mod (.var 10) (.var 8)) (.lit (.int 0))) (.cmp .eq (.bin .mod (.bin .fdiv (.var 10) (.var 8)) (.lit (.int 2))) (.lit (.int 1)))))) (.var 10)))
   (.cons (.ife (.cmp .ne (.var 7) (.var 9)) (.cons (.ret (.lit (.bl false)))
    .nil) .nil)
   (.cons (.set 10 (.call f__law_take (.cons (.var 1) (.cons (.bin .pow (.lit (.int 10)) (.lit (.int 17))) .nil))))
   (.cons (.set 11 (.and (.cmp .eq (.bin .mod (.var 6) (.lit (.int 2))) (.lit (.int 0))) (.and (.cmp .eq (.bin .mod (.var 10) (.var 8)) (.lit (.int 0))) (.cmp .eq (.bin .mod (.bin .fdiv (.var 10) (.var 8)) (.lit (.int 2))) (.lit (.int 1))))))
   (.cons (.ife (.not (.call f__law_same (.cons (.cmp .eq (.callk f_companion_rest .nil (.cons (.var 3) (.cons (.var 10) (.cons (.var 5) .nil))) [0, 1, 2]) (.lit (.int 0))) (.cons (.var 11) .nil)))) (.cons (.ret (.lit (.bl false)))
    .nil) .nil)
   (.cons (.ife (.cmp .eq (.bin .mod (.var 6) (.lit (.int 2))) (.lit (.int 0))) (.cons (.set 10 (.bin .mul (.var 8) (.bin .add (.bin .mul (.lit (.int 2)) (.call f__law_take (.cons (.var 1) (.cons (.bin .pow (.lit (.int 10)) (.lit (.int 12))) .nil)))) (.lit (.int 1)))))
    (.cons (.set 13 (.lst (.cons (.call f_companion_rest (.cons (.var 3) (.cons (.var 10) (.cons (.var 5) .nil)))) (.cons (.callk f_is_divided .nil (.cons (.var 3) (.cons (.var 5) (.cons (.bin .mul (.lit (.int 2)) (.var 10)) .nil))) [0, 1, 2]) (.cons (.callk f_is_divided .nil (.cons (.var 3) (.cons (.var 5) (.cons (.var 10) .nil))) [0, 1, 2]) .nil)))))
    (.cons (.ife (.not (.call f__law_same (.cons (.var 13) (.cons (.lst (.cons (.lit (.int 0)) (.cons (.lit (.bl true)) (.cons (.lit (.bl false)) .nil)))) .nil)))) (.cons (.ret (.lit (.bl false)))
     .nil) .nil)
    (.cons (.set 14 (.callk f_place_excess .nil (.cons (.var 3) (.cons (.var 5) .nil)) [0, 1]))
    (.cons (.ife (.isC true (.var 14) (.non)) (.cons (.set 15 (.bin .mul (.bin .mul (.var 5) (.var 5)) (.var 5)))
     (.cons (.set 16 (.callk f_power_place .nil (.cons (.var 3) (.cons (.var 5) (.cons (.lit (.int 3)) .nil))) [0, 1, 2]))
     (.cons (.ife (.or (.cmp .ne (.bin .mod (.var 16) (.lit (.int 2))) (.lit (.int 0))) (.cmp .ne (.call f_companion_rest (.cons (.var 3) (.cons (.bin .fdiv (.var 16) (.lit (.int 2))) (.cons (.var 15) .nil)))) (.lit (.int 0)))) (.cons (.ret (.lit (.bl false)))
      .nil) .nil)
     (.cons (.ife (.and (.cmp .lt (.var 8) (.lit (.int 400))) (.and (.cmp .ne (.idx (.var 4) (.var 8)) (.lit (.int 0))) (.not (.call f__law_same (.cons (.callk f_companion .nil (.cons (.var 3) (.cons (.var 8) .nil)) [0, 1]) (.cons (.idx (.var 4) (.var 8)) .nil)))))) (.cons (.ret (.lit (.bl false)))
      .nil) .nil)
     (.cons (.ife (.and (.cmp .lt (.var 8) (.lit (.int 400))) (.and (.cmp .ne (.idx (.var 4) (.var 8)) (.lit (.int 0))) (.cmp .ne (.call f__law_often (.cons (.idx (.var 4) (.var 8)) (.cons (.var 5) .nil))) (.var 14)))) (.cons (.ret (.lit (.bl false)))
      .nil) .nil)
     .nil))))) .nil)
    (.cons (.ife (.and (.cmp .le (.var 6) (.lit (.int 400))) (.cmp .ne (.bin .mod (.callk f_common_mixed .nil (.cons (.var 3) (.cons (.var 6) (.cons (.var 8) .nil))) [0, 1, 2]) (.var 5)) (.lit (.int 0)))) (.cons (.ret (.lit (.bl false)))
     .nil) .nil)
    .nil)))))) .nil)
   .nil))))))))))
def B_law_1 (f__law_pick f__law_primes f_common_mixed f__law_often f__law_same f_companion f_companion_rest f_power_place f_place_excess f_is_divided f__law_take f_first_place f__law_first f_companions f__law_vs f__law_rule f__law_box f__law_cells : Nat) : Ss :=
 (.cons (.set 3 (.call f__law_rule (.cons (.var 1) (.cons (.lit (.int 15)) .nil))))
  (.cons (.set 4 (.call f__law_vs (.cons (.var 3) (.cons (.lit (.int 402)) .nil))))
  (.cons (.ife (.not (.call f__law_same (.cons (.callk f_companions .nil (.cons (.var 3) (.cons (.lit (.int 60)) .nil)) [0, 1]) (.cons (.sl (.var 4) .none (.some (.lit (.int 60)))) .nil)))) (.cons (.ret (.lit (.bl false)))
   .nil) .nil)
  (.cons (.fr (.of (.comp [12] (.of (.call f__law_pick (.cons (.var 1) (.cons (.sl (.call f__law_primes (.cons (.lit (.int 100)) .nil)) (.some (.lit (.int 1))) .none) (.cons (.lit (.int 6)) .nil))))) (.one 12) (.some (.cmp .ne (.bin .mod (.idx (.var 3) (.lit (.int 1))) (.var 12)) (.lit (.int 0)))) (.var 12))) (.one 5) (B_law_2 f__law_pick f__law_primes f_common_mixed f__law_often f__law_same f_companion f_companion_rest f_power_place f_place_excess f_is_divided f__law_take f_first_place f__law_first f_companions f__law_vs f__law_rule f__law_box f__law_cells))
  .nil))))
def F_law (f__law_pick f__law_primes f_common_mixed f__law_often f__law_same f_companion f_companion_rest f_power_place f_place_excess f_is_divided f__law_take f_first_place f__law_first f_companions f__law_vs f__law_rule f__law_box f__law_cells : Nat) : Fn := ⟨1, 17, false,
 (.cons (.set 1 (.call f__law_box (.cons (.call f__law_cells (.cons (.var 0) (.cons (.lit (.int 1)) .nil))) (.cons (.lit (.int 0)) .nil))))
 (.cons (.fr (.rng (.cons (.lit (.int 3)) .nil)) (.one 2) (B_law_1 f__law_pick f__law_primes f_common_mixed f__law_often f__law_same f_companion f_companion_rest f_power_place f_place_excess f_is_divided f__law_take f_first_place f__law_first f_companions f__law_vs f__law_rule f__law_box f__law_cells))
 (.cons (.ret (.lit (.bl true)))
 .nil)))⟩
def d_law : DefI := ⟨"law", top 63, ["script", "tin", "lap", "rule_so", "vs_so", "l", "first_so", "due", "half_so", "told_so", "n", "fine_so", "k", "got", "often_so", "power_so", "wide_so"], ["script"], F_law 41 47 24 46 42 16 22 37 36 25 39 35 45 17 44 43 38 40⟩
def txt : Txt := ⟨[d_is_number, d_is_within, d_is_long, d_are_numbers, d_tupled, d_sure_within, d_common, d_lcm, d_primes_of, d_is_prime_in, d_jacobi_in, d_is_rule_in, d_sure_rule, d_big_d, d_terms_in, d_zero_in, d_companion, d_companions, d_digits_of, d_pair_mod, d_v_mod, d_sure_far, d_companion_rest, d_two_terms, d_common_mixed, d_is_divided, d_bound_in, d_least_part, d_prime_place_in, d_ground_in, d_excess_in, d_power_place_in, d_first_place_in, d_sure_prime_to, d_sure_prime, d_first_place, d_place_excess, d_power_place, d__law_box, d__law_take, d__law_cells, d__law_pick, d__law_same, d__law_rule, d__law_vs, d__law_first, d__law_often, d__law_primes, d_law],
  ["CanNot", "Unfit"],
  [("MOST_RULE", .int 1000), ("MOST_TERM", .int 3000), ("MOST_FAR", .int 1000000000000000000), ("MOST_MODULUS", .int 1000000000000000000000000000000), ("MOST_FOUND", .int 1000000000), ("MOST_OFTEN", .int 60)],
  ["abs", "all", "bool", "enumerate", "int", "isinstance", "len", "list", "min", "range", "str", "tuple", "zip"]⟩
end K15

namespace K15
open PySem ML NJ
abbrev T : Tab := txt.tab
theorem hSR : SureRule T 12 := fun d C p q r => s_sure_rule (T := T) (f := 12) (fi := 11) (ft := 4) (e := 1) (g2 := 2) (g3 := 3) (g4 := 0) (gm := 0) rfl rfl rfl rfl rfl rfl rfl r
theorem hSW : SureWithin T 5 := fun d C i a b h1 h2 => s_sure_within (T := T) (f := 5) (g := 1) (g2 := 0) (e := 1) rfl rfl rfl h1 h2
theorem hTI : TermsIn T 14 := termsIn_of rfl
theorem hPr : PrimesOf T 8 := s_primes rfl
theorem hPM : PairMod T 19 := pairMod_of (fd := 18) rfl rfl
theorem hZI : ZeroIn T 15 := zeroIn_of (ft := 14) rfl hTI
theorem hLP : LeastPart T 27 := s_least (fq := 8) (fp := 19) rfl hPr hPM
theorem hBI : BoundIn T 26 := s_bound (fj := 10) (fb := 13) rfl rfl rfl
theorem hPP : PrimePlace T 28 := s_prime_place (fl := 27) (fb := 26) rfl hLP hBI
theorem hG : Ground T 29 := s_ground (fp := 28) (fl := 27) rfl hPP hLP
theorem hX : Excess T 30 := s_excess (fp := 19) (fz := 15) (fg := 29) rfl hPM hZI hG
theorem hPw : PowerPlace T 31 := s_power_place (fe := 30) (fg := 29) (fp := 28) rfl hX hG hPP
theorem hFI : FirstIn T 32 := s_first_in (fq := 8) (fl := 7) (fp := 31) (fc := 6) rfl hPr rfl rfl hPw
theorem hFar : FarOk T 21 5 3 2 := ⟨rfl, hSW, rfl, rfl⟩
theorem hIP : IsPrime T 9 := isPrime_of (fq := 8) rfl hPr
structure Calls (cf : CF) : Prop where
  take : PTake cf 39
  rule : PRule cf 43
  same : PSame cf 42
  pick : PPick cf 41
  primes : PPrimesL cf 47
  samec : PSameC cf 42
  vs : PV cf 44
  lfirst : PLFirst cf 45
  loften : PLOften cf 46
  comps : PComps cf 17
  comp : PComp cf 16
  cm : PCM cf 24
  cr : PCR cf 22
  first : PFirst cf 35
  exc : PPExcess cf 36
  pow : PPower cf 37
  div : PDiv cf 25
theorem callsT : Calls (callF T 99) where
  take := pTake rfl
  rule := pRule (ft := 39) rfl rfl
  same := pSame rfl
  pick := pPick (ft := 39) rfl rfl
  primes := pPrimesL rfl
  samec := pSameC rfl
  vs := pV rfl
  lfirst := pLFirst rfl
  loften := pLOften rfl
  comps := pComps (ft := 14) (fw := 5) (gm := 1) (fr := 12) rfl hTI hSW hSR rfl
  comp := pComp (ft := 14) (fw := 5) (gm := 1) (fr := 12) rfl hTI hSW hSR rfl
  cm := pCM (f2 := 23) (fc := 6) (ft := 14) (fw := 5) (gm := 1) (fr := 12) rfl rfl rfl hTI hSW hSR rfl
  cr := pCR (fv := 20) (fp := 19) (fs := 21) (fr := 12) (fd := 18) rfl rfl rfl rfl hFar hSR
  first := pFirst (fi := 32) (fs := 33) (fc := 6) (e := 0) (fw := 5) (fr := 12) (gm := 4) rfl hFI rfl rfl hSW hSR rfl
  exc := pPExcess (fs := 34) (fx := 30) (e := 0) (fp := 9) (fw := 1) (fn := 0) (e2 := 1) (gm := 4) (fr := 12) rfl hX rfl hIP rfl rfl rfl hSR
  pow := pPower (fpp := 31) (e1 := 0) (fsw := 5) (go := 5) (fp := 9) (fw := 1) (gf := 4) (e2 := 1) (fr := 12) (fn := 0) rfl hPw hSW rfl hIP rfl rfl rfl hSR
  div := pDiv (fp := 19) (fd := 18) (fw := 5) (gf := 2) (gm := 3) (fr := 12) rfl rfl rfl hSW rfl rfl hSR
abbrev OP : List Nat := [3, 5, 7, 11, 13, 17, 19, 23, 29, 31, 37, 41, 43, 47, 53, 59, 61, 67, 71, 73, 79, 83, 89, 97]
theorem p100 : primesL 100 = [2, 3, 5, 7, 11, 13, 17, 19, 23, 29, 31, 37, 41, 43, 47, 53, 59, 61, 67, 71, 73, 79, 83, 89, 97] := by decide +kernel
theorem op_mem : ∀ l ∈ OP, l ∈ primesL 100 ∧ 3 ≤ l ∧ l ≤ 97 ∧ l % 2 = 1 := by rw [p100]; decide
abbrev fineE : E := (.and (.cmp .eq (.bin .mod (.var 6) (.lit (.int 2))) (.lit (.int 0))) (.and (.cmp .eq (.bin .mod (.var 10) (.var 8)) (.lit (.int 0))) (.cmp .eq (.bin .mod (.bin .fdiv (.var 10) (.var 8)) (.lit (.int 2))) (.lit (.int 1)))))
theorem bool_same {cf : CF} (K : PSame cf 42) (k : Bool) (C : Cells) : cf 42 [.bl k, .bl k] C = .ok (.bl true) C := K 1 _ (.bl 1 k) (by omega) C
theorem int_same {cf : CF} (K : PSame cf 42) (k : Int) (C : Cells) : cf 42 [.int k, .int k] C = .ok (.bl true) C := K 1 _ (.int 1 k) (by omega) C
theorem ev_fine {gl : Nat → Option D} {cf : CF} {ρ : ML.Env} {C : Cells} {r h n : Nat} (h6 : ρ[6]? = some (some (.int (r : Nat)))) (h8 : ρ[8]? = some (some (.int (h : Nat)))) (h10 : ρ[10]? = some (some (.int (n : Nat)))) (h1 : 1 ≤ h) (h2 : h < 1000) : evE gl cf fineE ρ C = .ok (.bl (decide (r % 2 = 0 ∧ n % h = 0 ∧ n / h % 2 = 1))) C := by
  have h0 : (0 : Int) < h := by omega
  have b9 : bits (h : Int) < 9000 := Nat.lt_trans (bits_nat (by omega)) (by omega)
  have t0 : (0 : Int) < 2 := by omega
  obtain ⟨a, ha⟩ : ∃ a : Nat, a = r % 2 := ⟨_, rfl⟩
  have ea : (r : Int) % 2 = (a : Int) := by omega
  obtain ⟨b, hb⟩ : ∃ b : Nat, b = n % h := ⟨_, rfl⟩
  have eb : (n : Int) % (h : Int) = (b : Int) := by rw [hb, Int.natCast_emod]
  obtain ⟨c, hc⟩ : ∃ c : Nat, c = n / h := ⟨_, rfl⟩
  have ec : (n : Int) / (h : Int) = (c : Int) := by rw [hc, Int.natCast_ediv]
  obtain ⟨d, hd⟩ : ∃ d : Nat, d = c % 2 := ⟨_, rfl⟩
  have ed : (c : Int) % 2 = (d : Int) := by omega
  rw [← ha, ← hb, ← hc, ← hd]
  have ia : decide ((a : Int) = 0) = decide (a = 0) := decide_eq_decide.mpr (by omega)
  have ib : decide ((b : Int) = 0) = decide (b = 0) := decide_eq_decide.mpr (by omega)
  have id : decide ((d : Int) = 1) = decide (d = 1) := decide_eq_decide.mpr (by omega)
  simp -implicitDefEqProofs only [evE_and, evE_cmp, evE_bin, evE_var, evE_lit, h6, h8, h10, R.bind_ok, mod_int _ _ t0, mod_int _ _ h0, fdiv_int _ _ h0 b9, R.of_some, cmp_eq, deq_int, truth_bl, ea, eb, ec, ed, ia, ib, id]
  by_cases a0 : a = 0 <;> by_cases b0 : b = 0 <;> simp -implicitDefEqProofs [a0, b0]
section
variable {gl : Nat → Option D} {cf : CF} (K : Calls cf)
include K
/-- behind the far one: an even first place -/
theorem evens {p q : Int} {l r h n : Nat} {o : Option Nat} (G : Gr p q l r o) (l3 : 3 ≤ l) (l97 : l ≤ 97) (lo : l % 2 = 1) (hr : Rk p q l r) (r2 : r = 2 * h) (h1 : 1 ≤ h) {a b c : Int} (ok : TinOk a b c) (hc : c < 5000) {L : List Nat} {x_scr x_k x_got x_often x_power x_wide : Option D} {la : Nat} :
    wps (evSs gl cf (match (B_law_2 41 47 24 46 42 16 22 37 36 25 39 35 45 17 44 43 38 40) with | .cons _ (.cons _ (.cons _ (.cons _ (.cons _ (.cons _ (.cons _ (.cons _ (.cons _ (.cons (.ife _ X _) _))))))))) => X | _ => .nil) [x_scr, some (.cell 0), some (.int (la : Nat)), some (ruleD p q), some (.lst (rowL (V p q) 402)), some (.int (l : Nat)), some (.int (r : Nat)), some (.lst (natL L)), some (.int (h : Nat)), some (.lst (natL L)), some (.int (n : Nat)), some (.bl (decide (r % 2 = 0 ∧ n % h = 0 ∧ n / h % 2 = 1))), x_k, x_got, x_often, x_power, x_wide] [tinL a b c]) fun fl ρ' C' => fl = .next ∧ ∃ (x_n x_got x_often x_power x_wide : Option D) (a' c' : Int), ρ' = [x_scr, some (.cell 0), some (.int (la : Nat)), some (ruleD p q), some (.lst (rowL (V p q) 402)), some (.int (l : Nat)), some (.int (r : Nat)), some (.lst (natL L)), some (.int (h : Nat)), some (.lst (natL L)), x_n, some (.bl (decide (r % 2 = 0 ∧ n % h = 0 ∧ n / h % 2 = 1))), x_k, x_got, x_often, x_power, x_wide] ∧ C' = [tinL a' b c'] ∧ TinOk a' b c' ∧ c' ≤ c + 1 := by
  unfold B_law_2
  have ro := G.r
  have pm := G.ok.pm
  have nq := G.ok.nq
  have gle := G.gle
  have vi := v_iff pm lo nq hr
  have hb1 : b0 l = 1 := by unfold b0; rw [if_neg (by omega)]
  obtain ⟨z, a1, c1, ce, z1, ok1, h1c⟩ := K.take.at0 ok (by omega) (m := 1000000000000) (by omega) (by omega)
  obtain ⟨y, hy⟩ : ∃ y : Nat, y = 2 * z + 1 := ⟨_, rfl⟩
  have ey : 2 * (z : Int) + 1 = (y : Int) := by omega
  obtain ⟨m, hm⟩ : ∃ m : Nat, m = h * y := ⟨_, rfl⟩
  have em : (h : Int) * (y : Int) = (m : Int) := by rw [hm, Int.natCast_mul]
  have mle : m ≤ 100 * 3000000000000 := by rw [hm]; exact Nat.mul_le_mul (by omega) (by omega)
  have bh : bits (h : Int) < 63 := bits_nat (by omega)
  have b2 : bits 2 < 63 := by decide
  refine wps_cons (ρ' := [x_scr, some (.cell 0), some (.int (la : Nat)), some (ruleD p q), some (.lst (rowL (V p q) 402)), some (.int (l : Nat)), some (.int (r : Nat)), some (.lst (natL L)), some (.int (h : Nat)), some (.lst (natL L)), some (.int (m : Nat)), some (.bl (decide (r % 2 = 0 ∧ n % h = 0 ∧ n / h % 2 = 1))), x_k, x_got, x_often, x_power, x_wide]) (C' := [tinL a1 b c1]) (by simp -implicitDefEqProofs [ce, mul_int _ _ (.inl b2), ey, mul_int _ _ (.inl bh), em]) ?_
  have eh : r / 2 = h := by omega
  have l0 : (0 : Int) < (l : Int) := by omega
  have vm : V p q m % (l : Int) = 0 := Int.emod_eq_zero_of_dvd ((vi m).mpr ⟨by omega, by rw [eh, hm, Nat.mul_mod_right], by rw [eh, hm, Nat.mul_div_cancel_left _ (by omega), hy]; omega⟩)
  have um : ¬ U p q m % (l : Int) = 0 := fun k => v_not_u pm lo nq (Int.dvd_of_emod_eq_zero vm) (Int.dvd_of_emod_eq_zero k)
  obtain ⟨m2, hm2⟩ : ∃ m2 : Nat, m2 = 2 * m := ⟨_, rfl⟩
  have em2 : 2 * (m : Int) = (m2 : Int) := by omega
  have um2 : U p q m2 % (l : Int) = 0 := Int.emod_eq_zero_of_dvd (by rw [hm2, show 2 * m = m + m by omega, U_double]; exact Int.dvd_mul_of_dvd_right (Int.dvd_of_emod_eq_zero vm))
  have k1 : ∀ C, cf 22 [ruleD p q, .int (m : Nat), .int (l : Nat)] C = .ok (.int 0) C := fun C => by have := K.cr p q m l ro (by omega) l0 (by omega) C; rw [vm] at this; exact this
  have k2 : ∀ C, cf 25 [ruleD p q, .int (l : Nat), .int (m2 : Nat)] C = .ok (.bl true) C := fun C => by have := K.div p q l m2 ro (by omega) (by omega) (by omega) C; rw [decide_eq_true um2] at this; exact this
  have k3 : ∀ C, cf 25 [ruleD p q, .int (l : Nat), .int (m : Nat)] C = .ok (.bl false) C := fun C => by have := K.div p q l m ro (by omega) (by omega) (by omega) C; rw [decide_eq_false um] at this; exact this
  refine wps_cons (ρ' := [x_scr, some (.cell 0), some (.int (la : Nat)), some (ruleD p q), some (.lst (rowL (V p q) 402)), some (.int (l : Nat)), some (.int (r : Nat)), some (.lst (natL L)), some (.int (h : Nat)), some (.lst (natL L)), some (.int (m : Nat)), some (.bl (decide (r % 2 = 0 ∧ n % h = 0 ∧ n / h % 2 = 1))), x_k, some (.lst [.int 0, .bl true, .bl false]), x_often, x_power, x_wide]) (C' := [tinL a1 b c1]) (by simp -implicitDefEqProofs [k1, mul_int _ _ (.inl b2), em2, k2, k3]) ?_
  have s1 : ∀ C, cf 42 [.lst [.int 0, .bl true, .bl false], .lst [.int 0, .bl true, .bl false]] C = .ok (.bl true) C := fun C => K.same 1 _ (.lst _ _ (by simp) fun x hx => by
    simp only [List.mem_cons, List.not_mem_nil, or_false] at hx
    rcases hx with rfl | rfl | rfl
    · exact .int _ _
    · exact .bl _ _
    · exact .bl _ _) (by omega) C
  refine wps_cons (ρ' := [x_scr, some (.cell 0), some (.int (la : Nat)), some (ruleD p q), some (.lst (rowL (V p q) 402)), some (.int (l : Nat)), some (.int (r : Nat)), some (.lst (natL L)), some (.int (h : Nat)), some (.lst (natL L)), some (.int (m : Nat)), some (.bl (decide (r % 2 = 0 ∧ n % h = 0 ∧ n / h % 2 = 1))), x_k, some (.lst [.int 0, .bl true, .bl false]), x_often, x_power, x_wide]) (C' := [tinL a1 b c1]) (by simp -implicitDefEqProofs [s1]) ?_
  have kx : ∀ C, cf 36 [ruleD p q, .int (l : Nat)] C = .ok (exD o) C := fun C => by
    have hh := K.exc p q l r ro G.ok (by omega) G.hg
    cases o with
    | none => exact hh.1 (G.on rfl) C
    | some e => exact hh.2 e (G.os e rfl).2 C
  refine wps_cons (ρ' := [x_scr, some (.cell 0), some (.int (la : Nat)), some (ruleD p q), some (.lst (rowL (V p q) 402)), some (.int (l : Nat)), some (.int (r : Nat)), some (.lst (natL L)), some (.int (h : Nat)), some (.lst (natL L)), some (.int (m : Nat)), some (.bl (decide (r % 2 = 0 ∧ n % h = 0 ∧ n / h % 2 = 1))), x_k, some (.lst [.int 0, .bl true, .bl false]), some (exD o), x_power, x_wide]) (C' := [tinL a1 b c1]) (by simp -implicitDefEqProofs [kx]) ?_
  have hlast : ∀ (x_often x_power x_wide : Option D), wps (evSs gl cf (.cons (.ife (.and (.cmp .le (.var 6) (.lit (.int 400))) (.cmp .ne (.bin .mod (.callk 24 .nil (.cons (.var 3) (.cons (.var 6) (.cons (.var 8) .nil))) [0, 1, 2]) (.var 5)) (.lit (.int 0)))) (.cons (.ret (.lit (.bl false))) .nil) .nil) .nil) [x_scr, some (.cell 0), some (.int (la : Nat)), some (ruleD p q), some (.lst (rowL (V p q) 402)), some (.int (l : Nat)), some (.int (r : Nat)), some (.lst (natL L)), some (.int (h : Nat)), some (.lst (natL L)), some (.int (m : Nat)), some (.bl (decide (r % 2 = 0 ∧ n % h = 0 ∧ n / h % 2 = 1))), x_k, some (.lst [.int 0, .bl true, .bl false]), x_often, x_power, x_wide] [tinL a1 b c1]) fun fl ρ' C' => fl = .next ∧ ∃ (x_n x_got x_often x_power x_wide : Option D) (a' c' : Int), ρ' = [x_scr, some (.cell 0), some (.int (la : Nat)), some (ruleD p q), some (.lst (rowL (V p q) 402)), some (.int (l : Nat)), some (.int (r : Nat)), some (.lst (natL L)), some (.int (h : Nat)), some (.lst (natL L)), x_n, some (.bl (decide (r % 2 = 0 ∧ n % h = 0 ∧ n / h % 2 = 1))), x_k, x_got, x_often, x_power, x_wide] ∧ C' = [tinL a' b c'] ∧ TinOk a' b c' ∧ c' ≤ c + 1 := fun x_often x_power x_wide => by
    have r4 : (r : Int) ≤ 400 := by omega
    have r4' : r ≤ 400 := by omega
    have k4 := fun C => K.cm p q r h ro (by omega) (by omega) C
    obtain ⟨g, hg⟩ : ∃ g : Nat, g = Int.gcd (U p q r) (V p q h) := ⟨_, rfl⟩
    have hv : (l : Int) ∣ V p q h := (vi h).mpr ⟨by omega, by rw [eh, Nat.mod_self], by rw [eh, Nat.div_self (by omega)]⟩
    have hgl : (g : Int) % (l : Int) = 0 := Int.emod_eq_zero_of_dvd (by rw [hg]; exact Int.dvd_coe_gcd hr.self hv)
    rw [← hg] at k4
    refine wps_cons (ρ' := [x_scr, some (.cell 0), some (.int (la : Nat)), some (ruleD p q), some (.lst (rowL (V p q) 402)), some (.int (l : Nat)), some (.int (r : Nat)), some (.lst (natL L)), some (.int (h : Nat)), some (.lst (natL L)), some (.int (m : Nat)), some (.bl (decide (r % 2 = 0 ∧ n % h = 0 ∧ n / h % 2 = 1))), x_k, some (.lst [.int 0, .bl true, .bl false]), x_often, x_power, x_wide]) (C' := [tinL a1 b c1]) (by simp -implicitDefEqProofs [r4, r4', k4, mod_int _ _ l0, hgl]) ?_
    rw [evSs_nil, wps_ok]
    exact ⟨rfl, _, _, _, _, _, a1, c1, rfl, rfl, ok1, h1c⟩
  cases o with
  | none =>
    refine wps_cons (ρ' := [x_scr, some (.cell 0), some (.int (la : Nat)), some (ruleD p q), some (.lst (rowL (V p q) 402)), some (.int (l : Nat)), some (.int (r : Nat)), some (.lst (natL L)), some (.int (h : Nat)), some (.lst (natL L)), some (.int (m : Nat)), some (.bl (decide (r % 2 = 0 ∧ n % h = 0 ∧ n / h % 2 = 1))), x_k, some (.lst [.int 0, .bl true, .bl false]), some .non, x_power, x_wide]) (C' := [tinL a1 b c1]) (by simp -implicitDefEqProofs [exD]) ?_
    exact hlast _ _ _
  | some e =>
    obtain ⟨he, hx⟩ := G.os e rfl
    rw [hb1] at he
    have hgr := G.hg
    refine wps_consW ?_
    have hcond : ∀ C, evE gl cf (.isC true (.var 14) .non) [x_scr, some (.cell 0), some (.int (la : Nat)), some (ruleD p q), some (.lst (rowL (V p q) 402)), some (.int (l : Nat)), some (.int (r : Nat)), some (.lst (natL L)), some (.int (h : Nat)), some (.lst (natL L)), some (.int (m : Nat)), some (.bl (decide (r % 2 = 0 ∧ n % h = 0 ∧ n / h % 2 = 1))), x_k, some (.lst [.int 0, .bl true, .bl false]), some (.int (e : Nat)), x_power, x_wide] C = .ok (.bl true) C := fun C => by simp -implicitDefEqProofs
    show wps (evS gl cf _ [x_scr, some (.cell 0), some (.int (la : Nat)), some (ruleD p q), some (.lst (rowL (V p q) 402)), some (.int (l : Nat)), some (.int (r : Nat)), some (.lst (natL L)), some (.int (h : Nat)), some (.lst (natL L)), some (.int (m : Nat)), some (.bl (decide (r % 2 = 0 ∧ n % h = 0 ∧ n / h % 2 = 1))), x_k, some (.lst [.int 0, .bl true, .bl false]), some (.int (e : Nat)), x_power, x_wide] _) _
    obtain ⟨P3, hP3⟩ : ∃ P3 : Nat, P3 = l ^ 3 := ⟨_, rfl⟩
    obtain ⟨P2, hP2⟩ : ∃ P2 : Nat, P2 = l * l := ⟨_, rfl⟩
    have e2 : (l : Int) * (l : Int) = (P2 : Int) := by rw [hP2, Int.natCast_mul]
    have e3 : (P2 : Int) * (l : Int) = (P3 : Int) := by
      rw [hP3, hP2, ← Int.natCast_mul, Nat.pow_succ, Nat.pow_two]
    have P2le : P2 ≤ 97 * 97 := by rw [hP2]; exact Nat.mul_le_mul l97 l97
    have P3le : P3 ≤ 97 * 97 * 97 := by
      rw [hP3, Nat.pow_succ, Nat.pow_two]; exact Nat.mul_le_mul (Nat.mul_le_mul l97 l97) l97
    have P3pos : 0 < P3 := by rw [hP3]; exact Nat.pow_pos (by omega)
    have bl : bits (l : Int) < 63 := bits_nat (by omega)
    have bP : bits (P2 : Int) < 63 := bits_nat (by omega)
    obtain ⟨w, hw⟩ : ∃ w : Nat, w = r * l ^ (3 - e) := ⟨_, rfl⟩
    have hrw : Rk p q (l ^ 3) w := by rw [hw]; exact rk_power pm nq hgr (by rw [hb1]; exact he) hx (by rw [hb1]; omega)
    obtain ⟨v, hv⟩ : ∃ v : Nat, v = h * l ^ (3 - e) := ⟨_, rfl⟩
    have hwv : w = 2 * v := by rw [hw, hv, r2, Nat.mul_assoc]
    have lpo : l ^ (3 - e) % 2 = 1 := by
      generalize 3 - e = i
      induction i with
      | zero => rfl
      | succ i ih => rw [Nat.pow_succ, Nat.mul_mod, ih, lo]
    have vl : (l : Int) ∣ V p q v := (vi v).mpr ⟨by omega, by rw [eh, hv, Nat.mul_mod_right], by rw [eh, hv, Nat.mul_div_cancel_left _ (by omega)]; exact lpo⟩
    have vp := v_pow pm lo nq hrw hwv vl
    have lple : l ^ (3 - e) ≤ 97 * 97 := by
      have h3 : 3 - e ≤ 2 := by omega
      have := Nat.pow_le_pow_right (show 0 < l by omega) h3
      have e22 : l ^ 2 = l * l := Nat.pow_two l
      omega
    have vle : v ≤ 100 * (97 * 97) := by rw [hv]; exact Nat.mul_le_mul (by omega) lple
    have k5 := fun C => K.pow p q l 3 w ro G.ok (by omega) (by omega) (by omega) (.inr (by omega)) hrw C
    have k5' : ∀ C, cf 37 [ruleD p q, .int (l : Nat), .int 3] C = .ok (.int (w : Nat)) C := k5
    have w2 : (w : Int) % 2 = 0 := by omega
    have wd : (w : Int) / 2 = (v : Int) := by omega
    have t0 : (0 : Int) < 2 := by omega
    have b29 : bits 2 < 9000 := by omega
    have k6 : ∀ C, cf 22 [ruleD p q, .int (v : Nat), .int (P3 : Nat)] C = .ok (.int 0) C := fun C => by
      have := K.cr p q v P3 ro (by omega) (by omega) (by omega) C
      rw [Int.emod_eq_zero_of_dvd (by rw [hP3]; exact vp)] at this
      exact this
    have hh4 : (h : Int) < 400 := by omega
    have hh4' : h < 400 := by omega
    have i1 : ixn 402 (h : Int) = some h := ixn_pos (by omega)
    have a1' : atD (rowL (V p q) 402) h = some (.int (V p q h)) := rowL_at (by omega)
    obtain ⟨vh, hvh⟩ : ∃ vh : Int, vh = V p q h := ⟨_, rfl⟩
    have k7 := fun C => K.comp p q h ro (by omega) C
    have exh : Exa l e (V p q h) := by
      have hu0 : Exa l 0 (U p q h) := by
        refine ⟨by rw [Nat.pow_zero]; exact Int.one_dvd _, ?_⟩
        rw [Nat.zero_add, Nat.pow_one]
        exact v_not_u pm lo nq ((vi h).mpr ⟨by omega, by rw [eh, Nat.mod_self], by rw [eh, Nat.div_self (by omega)]⟩)
      refine exa_div pm hu0 (a := 0) (b := e) ?_
      rw [Nat.zero_add, ← U_double, show h + h = r by omega]
      exact hx
    have esz : e < 10000 := by
      have := exa_size (by omega) exh (V_lt2 ro h)
      omega
    have k8 := fun C => K.loften (V p q h) l e (by omega) (by omega) esz exh.1 exh.2 C
    rw [← hvh] at a1' k7 k8
    have sv := int_same K.same vh
    have hin : wps (evSs gl cf (match (B_law_2 41 47 24 46 42 16 22 37 36 25 39 35 45 17 44 43 38 40) with | .cons _ (.cons _ (.cons _ (.cons _ (.cons _ (.cons _ (.cons _ (.cons _ (.cons _ (.cons (.ife _ (.cons _ (.cons _ (.cons _ (.cons _ (.cons (.ife _ X _) _))))) _) _))))))))) => X | _ => .nil) [x_scr, some (.cell 0), some (.int (la : Nat)), some (ruleD p q), some (.lst (rowL (V p q) 402)), some (.int (l : Nat)), some (.int (r : Nat)), some (.lst (natL L)), some (.int (h : Nat)), some (.lst (natL L)), some (.int (m : Nat)), some (.bl (decide (r % 2 = 0 ∧ n % h = 0 ∧ n / h % 2 = 1))), x_k, some (.lst [.int 0, .bl true, .bl false]), some (.int (e : Nat)), x_power, x_wide] [tinL a1 b c1]) fun fl ρ' C' => fl = .next ∧ ρ' = [x_scr, some (.cell 0), some (.int (la : Nat)), some (ruleD p q), some (.lst (rowL (V p q) 402)), some (.int (l : Nat)), some (.int (r : Nat)), some (.lst (natL L)), some (.int (h : Nat)), some (.lst (natL L)), some (.int (m : Nat)), some (.bl (decide (r % 2 = 0 ∧ n % h = 0 ∧ n / h % 2 = 1))), x_k, some (.lst [.int 0, .bl true, .bl false]), some (.int (e : Nat)), some (.int (P3 : Nat)), some (.int (w : Nat))] ∧ C' = [tinL a1 b c1] := by
      unfold B_law_2
      refine wps_cons (ρ' := [x_scr, some (.cell 0), some (.int (la : Nat)), some (ruleD p q), some (.lst (rowL (V p q) 402)), some (.int (l : Nat)), some (.int (r : Nat)), some (.lst (natL L)), some (.int (h : Nat)), some (.lst (natL L)), some (.int (m : Nat)), some (.bl (decide (r % 2 = 0 ∧ n % h = 0 ∧ n / h % 2 = 1))), x_k, some (.lst [.int 0, .bl true, .bl false]), some (.int (e : Nat)), some (.int (P3 : Nat)), x_wide]) (C' := [tinL a1 b c1]) (by simp -implicitDefEqProofs [mul_int _ _ (.inl bl), e2, mul_int _ _ (.inl bP), e3]) ?_
      refine wps_cons (ρ' := [x_scr, some (.cell 0), some (.int (la : Nat)), some (ruleD p q), some (.lst (rowL (V p q) 402)), some (.int (l : Nat)), some (.int (r : Nat)), some (.lst (natL L)), some (.int (h : Nat)), some (.lst (natL L)), some (.int (m : Nat)), some (.bl (decide (r % 2 = 0 ∧ n % h = 0 ∧ n / h % 2 = 1))), x_k, some (.lst [.int 0, .bl true, .bl false]), some (.int (e : Nat)), some (.int (P3 : Nat)), some (.int (w : Nat))]) (C' := [tinL a1 b c1]) (by simp -implicitDefEqProofs [k5']) ?_
      refine wps_cons (ρ' := [x_scr, some (.cell 0), some (.int (la : Nat)), some (ruleD p q), some (.lst (rowL (V p q) 402)), some (.int (l : Nat)), some (.int (r : Nat)), some (.lst (natL L)), some (.int (h : Nat)), some (.lst (natL L)), some (.int (m : Nat)), some (.bl (decide (r % 2 = 0 ∧ n % h = 0 ∧ n / h % 2 = 1))), x_k, some (.lst [.int 0, .bl true, .bl false]), some (.int (e : Nat)), some (.int (P3 : Nat)), some (.int (w : Nat))]) (C' := [tinL a1 b c1]) (by simp -implicitDefEqProofs [mod_int _ _ t0, w2, fdiv_int _ _ t0 b29, wd, k6]) ?_
      refine wps_cons (ρ' := [x_scr, some (.cell 0), some (.int (la : Nat)), some (ruleD p q), some (.lst (rowL (V p q) 402)), some (.int (l : Nat)), some (.int (r : Nat)), some (.lst (natL L)), some (.int (h : Nat)), some (.lst (natL L)), some (.int (m : Nat)), some (.bl (decide (r % 2 = 0 ∧ n % h = 0 ∧ n / h % 2 = 1))), x_k, some (.lst [.int 0, .bl true, .bl false]), some (.int (e : Nat)), some (.int (P3 : Nat)), some (.int (w : Nat))]) (C' := [tinL a1 b c1]) (by
        by_cases v0 : vh = 0
        · simp -implicitDefEqProofs [hh4, hh4', rowL_len, i1, a1', v0]
        · simp -implicitDefEqProofs [hh4, hh4', rowL_len, i1, a1', v0, k7, sv]) ?_
      refine wps_cons (ρ' := [x_scr, some (.cell 0), some (.int (la : Nat)), some (ruleD p q), some (.lst (rowL (V p q) 402)), some (.int (l : Nat)), some (.int (r : Nat)), some (.lst (natL L)), some (.int (h : Nat)), some (.lst (natL L)), some (.int (m : Nat)), some (.bl (decide (r % 2 = 0 ∧ n % h = 0 ∧ n / h % 2 = 1))), x_k, some (.lst [.int 0, .bl true, .bl false]), some (.int (e : Nat)), some (.int (P3 : Nat)), some (.int (w : Nat))]) (C' := [tinL a1 b c1]) (by
        by_cases v0 : vh = 0
        · simp -implicitDefEqProofs [hh4, hh4', rowL_len, i1, a1', v0]
        · simp -implicitDefEqProofs [hh4, hh4', rowL_len, i1, a1', v0, k8]) ?_
      rw [evSs_nil, wps_ok]
      exact ⟨rfl, rfl, rfl⟩
    rw [evS_ife, hcond]
    simp -implicitDefEqProofs only [R.toS_ok, truth_bl, R.of_some, if_true]
    refine wps_imp hin ?_
    rintro fl ρ' C' ⟨rfl, rfl, rfl⟩
    refine ⟨rfl, ?_⟩
    exact hlast _ _ _
theorem turn {p q : Int} {l : Nat} (ro : RuleOk p q) (hl : l ∈ OP) (nq : ¬ (l : Int) ∣ q) {a b c : Int} (ok : TinOk a b c) (hc : c < 4000) {x_scr x_first x_due x_half x_told x_n x_fine x_k x_got x_often x_power x_wide : Option D} {la : Nat} :
    wps (evSs gl cf (B_law_2 41 47 24 46 42 16 22 37 36 25 39 35 45 17 44 43 38 40) [x_scr, some (.cell 0), some (.int (la : Nat)), some (ruleD p q), some (.lst (rowL (V p q) 402)), some (.int (l : Nat)), x_first, x_due, x_half, x_told, x_n, x_fine, x_k, x_got, x_often, x_power, x_wide] [tinL a b c]) fun fl ρ' C' => fl = .next ∧ ∃ (x_first x_due x_half x_told x_n x_fine x_got x_often x_power x_wide : Option D) (a' c' : Int), ρ' = [x_scr, some (.cell 0), some (.int (la : Nat)), some (ruleD p q), some (.lst (rowL (V p q) 402)), some (.int (l : Nat)), x_first, x_due, x_half, x_told, x_n, x_fine, x_k, x_got, x_often, x_power, x_wide] ∧ C' = [tinL a' b c'] ∧ TinOk a' b c' ∧ c' ≤ c + 2 := by
  obtain ⟨lm, l3, l97, lo⟩ := op_mem l hl
  have pm := (primesL_pm lm).1
  have pok : PmOk q l := ⟨pm, nq, by omega⟩
  obtain ⟨r, hr, rb⟩ := pmRank (P := p) pok
  have bo := bnd_ok (P := p) pm nq
  have r1 := hr.1
  have rle : r ≤ l + 1 := by
    have := Nat.le_of_dvd (by omega) rb
    omega
  have r2 : 2 ≤ r := by
    refine Decidable.byContradiction fun k => ?_
    have e : r = 1 := by omega
    have hs := hr.self
    rw [e, U_one] at hs
    have := dvd_one_of hs
    omega
  have hb1 : b0 l = 1 := by unfold b0; rw [if_neg (by omega)]
  obtain ⟨g, o, G⟩ := gr_ex (p := p) ro pok
  have hg : g = r := by
    have := G.hg
    rw [hb1, Nat.pow_one] at this
    exact this.uniq hr
  subst hg
  have vi := v_iff pm lo nq hr
  have l0 : (0 : Int) < (l : Int) := by omega
  have hfull : B_law_2 41 47 24 46 42 16 22 37 36 25 39 35 45 17 44 43 38 40 = B_law_2 41 47 24 46 42 16 22 37 36 25 39 35 45 17 44 43 38 40 := rfl
  have hrest : ∀ {h n : Nat} {L : List Nat} {a1 c1 : Int} {x_k x_got x_often x_power x_wide : Option D}, h = g / 2 → TinOk a1 b c1 → c1 ≤ c + 1 → wps (evSs gl cf (match (B_law_2 41 47 24 46 42 16 22 37 36 25 39 35 45 17 44 43 38 40) with | .cons _ (.cons _ (.cons _ (.cons _ (.cons _ (.cons _ (.cons _ (.cons _ (.cons _ X)))))))) => X | _ => .nil) [x_scr, some (.cell 0), some (.int (la : Nat)), some (ruleD p q), some (.lst (rowL (V p q) 402)), some (.int (l : Nat)), some (.int (g : Nat)), some (.lst (natL L)), some (.int (h : Nat)), some (.lst (natL L)), some (.int (n : Nat)), some (.bl (decide (g % 2 = 0 ∧ n % h = 0 ∧ n / h % 2 = 1))), x_k, x_got, x_often, x_power, x_wide] [tinL a1 b c1]) fun fl ρ' C' => fl = .next ∧ ∃ (x_first x_due x_half x_told x_n x_fine x_got x_often x_power x_wide : Option D) (a' c' : Int), ρ' = [x_scr, some (.cell 0), some (.int (la : Nat)), some (ruleD p q), some (.lst (rowL (V p q) 402)), some (.int (l : Nat)), x_first, x_due, x_half, x_told, x_n, x_fine, x_k, x_got, x_often, x_power, x_wide] ∧ C' = [tinL a' b c'] ∧ TinOk a' b c' ∧ c' ≤ c + 2 := by
    intro h n L a1 c1 x_k x_got x_often x_power x_wide hh ok1 h1
    have t0 : (0 : Int) < 2 := by omega
    by_cases g2 : g % 2 = 0
    · have hcond : ∀ (C : Cells), evE gl cf (.cmp .eq (.bin .mod (.var 6) (.lit (.int 2))) (.lit (.int 0))) [x_scr, some (.cell 0), some (.int (la : Nat)), some (ruleD p q), some (.lst (rowL (V p q) 402)), some (.int (l : Nat)), some (.int (g : Nat)), some (.lst (natL L)), some (.int (h : Nat)), some (.lst (natL L)), some (.int (n : Nat)), some (.bl (decide (g % 2 = 0 ∧ n % h = 0 ∧ n / h % 2 = 1))), x_k, x_got, x_often, x_power, x_wide] C = .ok (.bl true) C := fun C => by
        have e0 : (g : Int) % 2 = 0 := by omega
        simp -implicitDefEqProofs [mod_int _ _ t0, e0]
      have hev := evens (gl := gl) K (h := h) (n := n) (L := L) G l3 l97 lo hr (by omega) (by omega) ok1 (by omega) (la := la) (x_scr := x_scr) (x_k := x_k) (x_got := x_got) (x_often := x_often) (x_power := x_power) (x_wide := x_wide)
      unfold B_law_2 at hev ⊢
      refine wps_consW ?_
      rw [evS_ife, hcond]
      simp -implicitDefEqProofs only [R.toS_ok, truth_bl, R.of_some, if_true]
      refine wps_imp hev ?_
      rintro fl ρ' C' ⟨rfl, x_n, x_got, x_often, x_power, x_wide, a', c', rfl, rfl, ok2, h2⟩
      refine ⟨rfl, ?_⟩
      rw [evSs_nil, wps_ok]
      exact ⟨rfl, _, _, _, _, _, _, _, _, _, _, a', c', rfl, rfl, ok2, by omega⟩
    · unfold B_law_2
      refine wps_cons (ρ' := [x_scr, some (.cell 0), some (.int (la : Nat)), some (ruleD p q), some (.lst (rowL (V p q) 402)), some (.int (l : Nat)), some (.int (g : Nat)), some (.lst (natL L)), some (.int (h : Nat)), some (.lst (natL L)), some (.int (n : Nat)), some (.bl (decide (g % 2 = 0 ∧ n % h = 0 ∧ n / h % 2 = 1))), x_k, x_got, x_often, x_power, x_wide]) (C' := [tinL a1 b c1]) (by
        have e0 : ¬ (g : Int) % 2 = 0 := by omega
        simp -implicitDefEqProofs [mod_int _ _ t0, e0]) ?_
      rw [evSs_nil, wps_ok]
      exact ⟨rfl, _, _, _, _, _, _, _, _, _, _, a1, c1, rfl, rfl, ok1, by omega⟩
  unfold B_law_2 at hrest ⊢
  obtain ⟨l2, hl2⟩ : ∃ l2 : Nat, l2 = l + 2 := ⟨_, rfl⟩
  have el2 : (l : Int) + 2 = (l2 : Int) := by omega
  have k1 := fun C => K.lfirst p q l l2 g ro (by omega) (by omega) (by omega) hr (by omega) C
  refine wps_cons (ρ' := [x_scr, some (.cell 0), some (.int (la : Nat)), some (ruleD p q), some (.lst (rowL (V p q) 402)), some (.int (l : Nat)), some (.int (g : Nat)), x_due, x_half, x_told, x_n, x_fine, x_k, x_got, x_often, x_power, x_wide]) (C' := [tinL a b c]) (by simp -implicitDefEqProofs [el2, k1]) ?_
  have k2 := fun C => K.first p q l g ro ⟨by omega, by omega, Pm.copQ1 pm nq⟩ hr C
  refine wps_cons (ρ' := [x_scr, some (.cell 0), some (.int (la : Nat)), some (ruleD p q), some (.lst (rowL (V p q) 402)), some (.int (l : Nat)), some (.int (g : Nat)), x_due, x_half, x_told, x_n, x_fine, x_k, x_got, x_often, x_power, x_wide]) (C' := [tinL a b c]) (by simp -implicitDefEqProofs [k2, int_same K.same]) ?_
  obtain ⟨h, hh⟩ : ∃ h : Nat, h = g / 2 := ⟨_, rfl⟩
  have h1 : 1 ≤ h := by omega
  rw [← hh] at vi
  have hrg : rngop [D.int 1, D.int 401] = some (natL ((List.range 400).map fun i => 1 + i)) := rngN (a := 1) (b := 401) (by omega) (by omega)
  obtain ⟨Rg, hRg⟩ : ∃ Rg : List Nat, Rg = (List.range 400).map fun i => 1 + i := ⟨_, rfl⟩
  rw [← hRg] at hrg
  have hlen : (natL Rg).length ≤ 16777216 := by rw [hRg]; simp
  have hmem : ∀ n ∈ Rg, n ≤ 400 := fun n hn => by
    rw [hRg] at hn
    obtain ⟨i, hi, rfl⟩ := List.mem_map.mp hn
    rw [List.mem_range] at hi
    omega
  obtain ⟨L, hL⟩ : ∃ L : List Nat, L = Rg.filter fun n => decide (g % 2 = 0 ∧ n % h = 0 ∧ n / h % 2 = 1) := ⟨_, rfl⟩
  have vdec : ∀ n, decide (V p q n % (l : Int) = 0) = decide (g % 2 = 0 ∧ n % h = 0 ∧ n / h % 2 = 1) := fun n => decide_eq_decide.mpr ⟨fun k => (vi n).mp (Int.dvd_of_emod_eq_zero k), fun k => Int.emod_eq_zero_of_dvd ((vi n).mpr k)⟩
  refine wps_cons (ρ' := [x_scr, some (.cell 0), some (.int (la : Nat)), some (ruleD p q), some (.lst (rowL (V p q) 402)), some (.int (l : Nat)), some (.int (g : Nat)), some (.lst (natL L)), x_half, x_told, x_n, x_fine, x_k, x_got, x_often, x_power, x_wide]) (C' := [tinL a b c]) (by
    have key := cloopF (gd := none) (all := natL Rg) (f := cbd gl cf [10] (.one 10) (.some (.cmp .eq (.bin .mod (.idx (.var 4) (.var 10)) (.var 5)) (.lit (.int 0)))) (.var 10) [x_scr, some (.cell 0), some (.int (la : Nat)), some (ruleD p q), some (.lst (rowL (V p q) 402)), some (.int (l : Nat)), some (.int (g : Nat)), x_due, x_half, x_told, x_n, x_fine, x_k, x_got, x_often, x_power, x_wide]) (C := [tinL a b c]) (L := Rg) (k := fun n => decide (g % 2 = 0 ∧ n % h = 0 ∧ n / h % 2 = 1)) rfl (by
      intro n hn
      have n4 := hmem n hn
      have i1 : ixn 402 (n : Int) = some n := ixn_pos (by omega)
      have a1' : atD (rowL (V p q) 402) n = some (.int (V p q n)) := rowL_at (by omega)
      obtain ⟨u, hu⟩ : ∃ u : Int, u = V p q n % (l : Int) := ⟨_, rfl⟩
      rw [← vdec, ← hu]
      by_cases u0 : u = 0
      · simp -implicitDefEqProofs [cbd, rowL_len, i1, a1', mod_int _ _ l0, ← hu, u0]
      · simp -implicitDefEqProofs [cbd, rowL_len, i1, a1', mod_int _ _ l0, ← hu, u0])
    rw [← hL] at key
    simp -implicitDefEqProofs only [evS_set, evE_comp, evSrc_rng, evEs_cons, evEs_nil, evE_lit, R.bind_ok, hrg, R.of_some, if_pos hlen]
    rw [key]
    rfl) ?_
  have t0 : (0 : Int) < 2 := by omega
  have b29 : bits 2 < 9000 := by decide
  have eh : (g : Int) / 2 = (h : Int) := by omega
  refine wps_cons (ρ' := [x_scr, some (.cell 0), some (.int (la : Nat)), some (ruleD p q), some (.lst (rowL (V p q) 402)), some (.int (l : Nat)), some (.int (g : Nat)), some (.lst (natL L)), some (.int (h : Nat)), x_told, x_n, x_fine, x_k, x_got, x_often, x_power, x_wide]) (C' := [tinL a b c]) (by simp -implicitDefEqProofs [fdiv_int _ _ t0 b29, eh]) ?_
  refine wps_cons (ρ' := [x_scr, some (.cell 0), some (.int (la : Nat)), some (ruleD p q), some (.lst (rowL (V p q) 402)), some (.int (l : Nat)), some (.int (g : Nat)), some (.lst (natL L)), some (.int (h : Nat)), some (.lst (natL L)), x_n, x_fine, x_k, x_got, x_often, x_power, x_wide]) (C' := [tinL a b c]) (by
    have key := cloopF (gd := none) (all := natL Rg) (f := cbd gl cf [10] (.one 10) (.some fineE) (.var 10) [x_scr, some (.cell 0), some (.int (la : Nat)), some (ruleD p q), some (.lst (rowL (V p q) 402)), some (.int (l : Nat)), some (.int (g : Nat)), some (.lst (natL L)), some (.int (h : Nat)), x_told, x_n, x_fine, x_k, x_got, x_often, x_power, x_wide]) (C := [tinL a b c]) (L := Rg) (k := fun n => decide (g % 2 = 0 ∧ n % h = 0 ∧ n / h % 2 = 1)) rfl (by
      intro n hn
      have hf := ev_fine (gl := gl) (cf := cf) (ρ := [x_scr, some (.cell 0), some (.int (la : Nat)), some (ruleD p q), some (.lst (rowL (V p q) 402)), some (.int (l : Nat)), some (.int (g : Nat)), some (.lst (natL L)), some (.int (h : Nat)), x_told, some (.int (n : Nat)), x_fine, x_k, x_got, x_often, x_power, x_wide]) (C := [tinL a b c]) (r := g) (h := h) (n := n) rfl rfl rfl h1 (by omega)
      obtain ⟨u, hu⟩ : ∃ u : Bool, u = decide (g % 2 = 0 ∧ n % h = 0 ∧ n / h % 2 = 1) := ⟨_, rfl⟩
      rw [← hu] at hf ⊢
      simp -implicitDefEqProofs only [cbd, wipeE, setTg_one, List.set_cons_succ, List.set_cons_zero, R.of_some, R.bind_ok, evOT, hf, truth_bl]
      cases u <;> simp -implicitDefEqProofs)
    rw [← hL] at key
    simp -implicitDefEqProofs only [evS_set, evE_comp, evSrc_rng, evEs_cons, evEs_nil, evE_lit, R.bind_ok, hrg, R.of_some, if_pos hlen]
    rw [key]
    rfl) ?_
  refine wps_cons (ρ' := [x_scr, some (.cell 0), some (.int (la : Nat)), some (ruleD p q), some (.lst (rowL (V p q) 402)), some (.int (l : Nat)), some (.int (g : Nat)), some (.lst (natL L)), some (.int (h : Nat)), some (.lst (natL L)), x_n, x_fine, x_k, x_got, x_often, x_power, x_wide]) (C' := [tinL a b c]) (by
    have hd := fun C => deq_natL C L L
    simp only [decide_true] at hd
    obtain ⟨A, hA⟩ : ∃ A : List D, A = natL L := ⟨_, rfl⟩
    rw [← hA] at hd ⊢
    simp -implicitDefEqProofs [hd]) ?_
  obtain ⟨n, a1, c1, ce, n1, ok1, hc1⟩ := K.take.at0 ok (by omega) (m := 100000000000000000) (by omega) (by omega)
  have p17 : ∀ C, binop .pow (.int 10) (.int 17) C = some (.int 100000000000000000) := fun C => by rfl
  refine wps_cons (ρ' := [x_scr, some (.cell 0), some (.int (la : Nat)), some (ruleD p q), some (.lst (rowL (V p q) 402)), some (.int (l : Nat)), some (.int (g : Nat)), some (.lst (natL L)), some (.int (h : Nat)), some (.lst (natL L)), some (.int (n : Nat)), x_fine, x_k, x_got, x_often, x_power, x_wide]) (C' := [tinL a1 b c1]) (by simp -implicitDefEqProofs [p17, ce]) ?_
  have hf := ev_fine (gl := gl) (cf := cf) (ρ := [x_scr, some (.cell 0), some (.int (la : Nat)), some (ruleD p q), some (.lst (rowL (V p q) 402)), some (.int (l : Nat)), some (.int (g : Nat)), some (.lst (natL L)), some (.int (h : Nat)), some (.lst (natL L)), some (.int (n : Nat)), x_fine, x_k, x_got, x_often, x_power, x_wide]) (C := [tinL a1 b c1]) (r := g) (h := h) (n := n) rfl rfl rfl h1 (by omega)
  refine wps_cons (ρ' := [x_scr, some (.cell 0), some (.int (la : Nat)), some (ruleD p q), some (.lst (rowL (V p q) 402)), some (.int (l : Nat)), some (.int (g : Nat)), some (.lst (natL L)), some (.int (h : Nat)), some (.lst (natL L)), some (.int (n : Nat)), some (.bl (decide (g % 2 = 0 ∧ n % h = 0 ∧ n / h % 2 = 1))), x_k, x_got, x_often, x_power, x_wide]) (C' := [tinL a1 b c1]) (by
    rw [evS_set, hf]
    rfl) ?_
  refine wps_cons (ρ' := [x_scr, some (.cell 0), some (.int (la : Nat)), some (ruleD p q), some (.lst (rowL (V p q) 402)), some (.int (l : Nat)), some (.int (g : Nat)), some (.lst (natL L)), some (.int (h : Nat)), some (.lst (natL L)), some (.int (n : Nat)), some (.bl (decide (g % 2 = 0 ∧ n % h = 0 ∧ n / h % 2 = 1))), x_k, x_got, x_often, x_power, x_wide]) (C' := [tinL a1 b c1]) (by
    have k3 := fun C => K.cr p q n l ro (by omega) l0 (by omega) C
    have vd := vdec n
    obtain ⟨u, hu⟩ : ∃ u : Int, u = V p q n % (l : Int) := ⟨_, rfl⟩
    obtain ⟨v, hv⟩ : ∃ v : Bool, v = decide (g % 2 = 0 ∧ n % h = 0 ∧ n / h % 2 = 1) := ⟨_, rfl⟩
    rw [← hu] at k3 vd
    rw [← hv] at vd ⊢
    have s2 := bool_same K.same v
    simp -implicitDefEqProofs [k3, vd, s2]) ?_
  exact hrest hh ok1 (by omega)
theorem lap {a b c : Int} (ok : TinOk a b c) (hc : c < 1000) {la : Nat} {x_scr x_rule x_vs x_l x_first x_due x_half x_told x_n x_fine x_k x_got x_often x_power x_wide : Option D} :
    wps (evSs gl cf (B_law_1 41 47 24 46 42 16 22 37 36 25 39 35 45 17 44 43 38 40) [x_scr, some (.cell 0), some (.int (la : Nat)), x_rule, x_vs, x_l, x_first, x_due, x_half, x_told, x_n, x_fine, x_k, x_got, x_often, x_power, x_wide] [tinL a b c]) fun fl ρ' C' => fl = .next ∧ ∃ (x_rule x_vs x_l x_first x_due x_half x_told x_n x_fine x_k x_got x_often x_power x_wide : Option D) (a' c' : Int), ρ' = [x_scr, some (.cell 0), some (.int (la : Nat)), x_rule, x_vs, x_l, x_first, x_due, x_half, x_told, x_n, x_fine, x_k, x_got, x_often, x_power, x_wide] ∧ C' = [tinL a' b c'] ∧ TinOk a' b c' ∧ c' ≤ c + 300 := by
  unfold B_law_1
  obtain ⟨p, q, a1, c1, ce1, ro, _, _, _, _, ok1, h1⟩ := K.rule.at0 ok (by omega) (w := 15) (by omega) (by omega)
  refine wps_cons (ρ' := [x_scr, some (.cell 0), some (.int (la : Nat)), some (ruleD p q), x_vs, x_l, x_first, x_due, x_half, x_told, x_n, x_fine, x_k, x_got, x_often, x_power, x_wide]) (C' := [tinL a1 b c1]) (by simp -implicitDefEqProofs [ce1]) ?_
  have k1 : ∀ C, cf 44 [ruleD p q, .int 402] C = .ok (.lst (rowL (V p q) 402)) C := fun C => K.vs p q 402 ro (by omega) C
  refine wps_cons (ρ' := [x_scr, some (.cell 0), some (.int (la : Nat)), some (ruleD p q), some (.lst (rowL (V p q) 402)), x_l, x_first, x_due, x_half, x_told, x_n, x_fine, x_k, x_got, x_often, x_power, x_wide]) (C' := [tinL a1 b c1]) (by simp -implicitDefEqProofs [k1]) ?_
  have k2 : ∀ C, cf 17 [ruleD p q, .int 60] C = .ok (.lst (rowL (V p q) 60)) C := fun C => K.comps p q 60 ro (by omega) C
  have sl : ∀ C, slop (.lst (rowL (V p q) 402)) none (some 60) C = some (.lst (rowL (V p q) 60)) := fun C => by
    rw [slop_lst, show (60 : Int) = ((60 : Nat) : Int) from rfl, cut_to, rowL_take _ (by omega)]
  have s1 : ∀ C, cf 42 [.lst (rowL (V p q) 60), .lst (rowL (V p q) 60)] C = .ok (.bl true) C := fun C => K.same 1 _ (sameOk_row (by omega)) (by omega) C
  refine wps_cons (ρ' := [x_scr, some (.cell 0), some (.int (la : Nat)), some (ruleD p q), some (.lst (rowL (V p q) 402)), x_l, x_first, x_due, x_half, x_told, x_n, x_fine, x_k, x_got, x_often, x_power, x_wide]) (C' := [tinL a1 b c1]) (by simp -implicitDefEqProofs [k2, sl, s1]) ?_
  have kp : ∀ C, cf 47 [.int 100] C = .ok (.lst (natL [2, 3, 5, 7, 11, 13, 17, 19, 23, 29, 31, 37, 41, 43, 47, 53, 59, 61, 67, 71, 73, 79, 83, 89, 97])) C := fun C => by
    have := K.primes 100 (by omega) (by omega) C
    rw [p100] at this
    exact this
  have slp : ∀ C, slop (.lst (natL [2, 3, 5, 7, 11, 13, 17, 19, 23, 29, 31, 37, 41, 43, 47, 53, 59, 61, 67, 71, 73, 79, 83, 89, 97])) (some 1) none C = some (.lst (natL OP)) := fun C => by rfl
  obtain ⟨ns, a2, c2, kpick, ⟨rest, hperm⟩, ok2, h2⟩ := K.pick [] a1 b c1 OP 6 ok1 (by omega) (by decide) (by omega)
  have hns : ∀ l ∈ ns, l ∈ OP := fun l hl => hperm.mem_iff.mp (by simp [hl])
  have hnl : (natL ns).length ≤ 16777216 := by
    have := hperm.length_eq
    have e : OP.length = 24 := rfl
    simp at this
    simp
    omega
  have q1 : ∀ l ∈ ns, ∀ C, evE gl cf (.cmp .ne (.bin .mod (.idx (.var 3) (.lit (.int 1))) (.var 12)) (.lit (.int 0))) [x_scr, some (.cell 0), some (.int (la : Nat)), some (ruleD p q), some (.lst (rowL (V p q) 402)), x_l, x_first, x_due, x_half, x_told, x_n, x_fine, some (.int (l : Nat)), x_got, x_often, x_power, x_wide] C = .ok (.bl (decide (¬ (l : Int) ∣ q))) C := fun l hl C => by
    obtain ⟨_, l3, _, _⟩ := op_mem l (hns l hl)
    have l0 : (0 : Int) < (l : Int) := by omega
    obtain ⟨u, hu⟩ : ∃ u : Int, u = q % (l : Int) := ⟨_, rfl⟩
    have hd : (l : Int) ∣ q ↔ u = 0 := by rw [hu]; exact ⟨Int.emod_eq_zero_of_dvd, Int.dvd_of_emod_eq_zero⟩
    by_cases u0 : u = 0
    · simp -implicitDefEqProofs [mod_int _ _ l0, ← hu, u0, hd]
    · simp -implicitDefEqProofs [mod_int _ _ l0, ← hu, u0, hd]
  have key := cloopF (gd := none) (all := natL ns) (f := cbd gl cf [12] (.one 12) (.some (.cmp .ne (.bin .mod (.idx (.var 3) (.lit (.int 1))) (.var 12)) (.lit (.int 0)))) (.var 12) [x_scr, some (.cell 0), some (.int (la : Nat)), some (ruleD p q), some (.lst (rowL (V p q) 402)), x_l, x_first, x_due, x_half, x_told, x_n, x_fine, x_k, x_got, x_often, x_power, x_wide]) (C := [tinL a2 b c2]) (L := ns) (k := fun l => decide (¬ (l : Int) ∣ q)) rfl (by
    intro l hl
    have hf := q1 l hl [tinL a2 b c2]
    obtain ⟨u, hu⟩ : ∃ u : Bool, u = decide (¬ (l : Int) ∣ q) := ⟨_, rfl⟩
    rw [← hu] at hf ⊢
    simp -implicitDefEqProofs only [cbd, wipeE, setTg_one, List.set_cons_succ, List.set_cons_zero, R.of_some, R.bind_ok, evOT, hf, truth_bl]
    cases u <;> simp -implicitDefEqProofs)
  obtain ⟨ms, hms⟩ : ∃ ms : List Nat, ms = ns.filter fun (l : Nat) => decide (¬ (l : Int) ∣ q) := ⟨_, rfl⟩
  rw [← hms] at key
  have hmm : ∀ l ∈ ms, l ∈ OP ∧ ¬ (l : Int) ∣ q := fun l hl => by
    rw [hms, List.mem_filter] at hl
    exact ⟨hns l hl.1, of_decide_eq_true hl.2⟩
  have hml : ms.length ≤ 24 := by
    have e1 := hperm.length_eq
    have e : OP.length = 24 := rfl
    have e3 := List.length_filter_le (fun l : Nat => decide (¬ (l : Int) ∣ q)) ns
    rw [← hms] at e3
    simp at e1
    omega
  refine wps_consW ?_
  simp -implicitDefEqProofs only [evS_fr, evSrc_of, evE_comp, evE_call, evEs_cons, evEs_nil, evE_sl, evOE_some, evOE_none, evE_lit, evE_var, List.getElem?_cons_succ, List.getElem?_cons_zero, R.bind_ok, kp, slp, R.of_some]
  have kpick' : cf 41 [.cell 0, .lst (natL OP), .int 6] [tinL a1 b c1] = .ok (.lst (natL ns)) [tinL a2 b c2] := kpick
  rw [kpick']
  simp -implicitDefEqProofs only [R.bind_ok, items_lst', if_pos hnl]
  rw [key]
  simp -implicitDefEqProofs only [R.bind_ok, R.toS_ok, items_lst']
  refine floop_inv (fun ys ρ C' => (∃ zs : List Nat, ys = natL zs ∧ (∀ l ∈ zs, l ∈ OP ∧ ¬ (l : Int) ∣ q) ∧ zs.length ≤ ms.length ∧ ∃ (a' c' : Int), C' = [tinL a' b c'] ∧ TinOk a' b c' ∧ c' ≤ c + 15 + 2 * ((ms.length : Int) - zs.length)) ∧ ∃ (x_l x_first x_due x_half x_told x_n x_fine x_k x_got x_often x_power x_wide : Option D), ρ = [x_scr, some (.cell 0), some (.int (la : Nat)), some (ruleD p q), some (.lst (rowL (V p q) 402)), x_l, x_first, x_due, x_half, x_told, x_n, x_fine, x_k, x_got, x_often, x_power, x_wide]) ?_ ?_ _ _ _ ⟨⟨ms, rfl, hmm, Nat.le_refl _, a2, c2, rfl, ok2, by omega⟩, _, _, _, _, _, _, _, _, _, _, _, _, rfl⟩
  · rintro x ys ρ C' ⟨⟨zs, hz, hz2, hz3, a3, c3, rfl, ok3, h3⟩, x_l, x_first, x_due, x_half, x_told, x_n, x_fine, x_k, x_got, x_often, x_power, x_wide, rfl⟩
    cases zs with
    | nil => cases hz
    | cons l zs =>
      simp only [natL, List.map_cons, List.cons.injEq] at hz
      obtain ⟨rfl, rfl⟩ := hz
      refine ⟨_, rfl, ?_⟩
      simp only [blk]
      obtain ⟨lo, nq⟩ := hz2 l (by simp)
      simp only [List.length_cons] at hz3 h3
      refine wps_imp (turn (gl := gl) K ro lo nq ok3 (by omega)) ?_
      rintro fl ρ' C' ⟨rfl, x_first, x_due, x_half, x_told, x_n, x_fine, x_got, x_often, x_power, x_wide, a4, c4, rfl, rfl, ok4, h4⟩
      exact ⟨rfl, ⟨zs, rfl, fun l hl => hz2 l (by simp [hl]), by omega, a4, c4, rfl, ok4, by omega⟩, _, _, _, _, _, _, _, _, _, _, _, _, rfl⟩
  rintro ρ' C' ⟨⟨zs, hz, hz2, hz3, a3, c3, rfl, ok3, h3⟩, x_l, x_first, x_due, x_half, x_told, x_n, x_fine, x_k, x_got, x_often, x_power, x_wide, rfl⟩
  refine ⟨rfl, ?_⟩
  rw [evSs_nil, wps_ok]
  exact ⟨rfl, _, _, _, _, _, _, _, _, _, _, _, _, _, _, a3, c3, rfl, rfl, ok3, by omega⟩
end
theorem law_true (ns : List Int) (hl : ns.length ≤ 63) : callF txt.tab 100 48 [scr ns] [] = .ok (.bl true) [] := by
  rw [callF_eq (d := 99) (f := 48) (F := F_law 41 47 24 46 42 16 22 37 36 25 39 35 45 17 44 43 38 40) rfl rfl]
  have key : wps (evSs T.glob (callF T 99) (F_law 41 47 24 46 42 16 22 37 36 25 39 35 45 17 44 43 38 40).body ([some (scr ns)] ++ List.replicate 16 none) []) fun fl ρ' C' => fl = .ret (.bl true) := by
    obtain ⟨ms, c1⟩ := s_cells (T := T) (d := 98) (f := 40) (C := []) rfl ns (m := 1) (by omega) (by omega)
    obtain ⟨a, b, c2, ok⟩ := s_box (T := T) (d := 98) (f := 38) (C := []) (ns := ms) (k := 0) rfl (by omega)
    have c1' : callF T 99 40 [scr ns, .int 1] [] = .ok (scr ms) [] := c1
    have c2' : callF T 99 38 [scr ms, .int 0] [] = .ok (.cell 0) [tinL a b 0] := c2
    have K := callsT
    generalize T.glob = gl at *
    generalize callF T 99 = cf at *
    unfold F_law
    refine wps_cons (ρ' := [some (scr ns), some (.cell 0), none, none, none, none, none, none, none, none, none, none, none, none, none, none, none]) (C' := [tinL a b 0]) (by simp -implicitDefEqProofs [c1', c2', List.replicate]) ?_
    have h3 : rngop [D.int 3] = some ((List.range 3).map fun i => D.int (i : Nat)) := rngop_nat (n := 3) (by omega)
    refine wps_consW ?_
    simp -implicitDefEqProofs only [evS_fr, evSrc_rng, evEs_cons, evEs_nil, evE_lit, R.bind_ok, h3, R.of_some, R.toS_ok]
    refine floop_rng0 (n := 3) (t := 2) (fun l ρ' C' => ∃ x_lap x_rule x_vs x_l x_first x_due x_half x_told x_n x_fine x_k x_got x_often x_power x_wide a' c', ρ' = [some (scr ns), some (.cell 0), x_lap, x_rule, x_vs, x_l, x_first, x_due, x_half, x_told, x_n, x_fine, x_k, x_got, x_often, x_power, x_wide] ∧ C' = [tinL a' b c'] ∧ TinOk a' b c' ∧ c' ≤ 300 * l) ?_ ?_ ⟨_, _, _, _, _, _, _, _, _, _, _, _, _, _, _, _, _, rfl, rfl, ok, by simp⟩
    · rintro l ρ' C' hl ⟨y0, y1, y2, y3, y4, y5, y6, y7, y8, y9, y10, y11, y12, y13, y14, a2, c2, rfl, rfl, ok2, h2⟩
      refine wps_imp (lap K ok2 (by omega)) ?_
      rintro fl ρ' C' ⟨rfl, z0, z1, z2, z3, z4, z5, z6, z7, z8, z9, z10, z11, z12, z13, a3, c3, rfl, rfl, ok3, h3⟩
      exact ⟨_, _, _, _, _, _, _, _, _, _, _, _, _, _, _, _, _, rfl, rfl, ok3, by omega⟩
    rintro ρ' C' ⟨y0, y1, y2, y3, y4, y5, y6, y7, y8, y9, y10, y11, y12, y13, y14, a2, c2, rfl, rfl, ok2, h2⟩
    refine ⟨rfl, ?_⟩
    simp -implicitDefEqProofs
  obtain ⟨fl, ρ', C', e, rfl⟩ := wps_get key
  have e' : evSs txt.tab.glob (callF txt.tab 99) (F_law 41 47 24 46 42 16 22 37 36 25 39 35 45 17 44 43 38 40).body (List.map some [scr ns] ++ List.replicate ((F_law 41 47 24 46 42 16 22 37 36 25 39 35 45 17 44 43 38 40).nv - (F_law 41 47 24 46 42 16 22 37 36 25 39 35 45 17 44 43 38 40).np) none) [] = .ok (.ret (.bl true)) ρ' C' := e
  rw [e']
  simp
end K15

namespace K15
open PySem ML PySem.Spec PyProof.Rows L2
theorem okAll : (txt.ds.all fun D => okDef txt.nm txt.pss 60 D) = true := by decide +kernel
abbrev R : PySem.W.OpenRow := PySem.W.OpenLaw.row PySem.Challenge.rw_termsdivide_k15_across_which_companions
abbrev hk : PySem.W.Hook := He.hookX 4 txt.fa txt.fn [] [] txt.ex2
def ob (s : PySem.W.SharedT) : He.AlX := He.obsX 4 txt.fa txt.fn [] [] txt.ex2 (HandSHeadRun.getT s)
theorem ob_eq (s : PySem.W.SharedT) : ob s = hk.obs s.abs := He.obsX_eq (HandSHeadRun.getT_eq s)
def loose0 : List PySem.Str := ["is_number", "is_within", "is_long", "are_numbers", "tupled", "sure_within", "common", "lcm", "primes_of", "is_prime_in", "jacobi_in", "is_rule_in", "sure_rule", "big_d", "terms_in", "zero_in", "companion", "companions", "digits_of", "pair_mod", "v_mod", "sure_far", "companion_rest", "two_terms", "common_mixed", "is_divided", "bound_in", "least_part", "prime_place_in", "ground_in"]
def loose1 : List PySem.Str := ["excess_in", "power_place_in", "first_place_in", "sure_prime_to", "sure_prime", "first_place", "place_excess", "power_place", "_law_box", "_law_take", "_law_cells", "_law_pick", "_law_same", "_law_rule", "_law_vs", "_law_first", "_law_often", "_law_primes", "CanNot", "Unfit", "MOST_RULE", "MOST_TERM", "MOST_FAR", "MOST_MODULUS", "MOST_FOUND", "MOST_OFTEN"]
def loose : List PySem.Str := loose0 ++ loose1
theorem run (w : World) : HandSHeadRun.RunEq R (PySem.W.view R.prog [63]) hk ob 3000 loose w := by
  intro os
  kernel_rfl
end K15
open PySem PySem.W PySem.Calls PyProof.Rows
theorem PySem.Challenge.cw_termsdivide_k15_across_which_companions_holds : PySem.Challenge.rw_termsdivide_k15_across_which_companions.Holds := by
  w_on; o_law
  refine HandSHeadRun.head_any (r := K15.R) (q := view (K15.R).prog [63]) (H := K15.hk) (ob := K15.ob) (M := 3000) (loose := K15.loose) (d := HandSHeadRun.topDef (K15.R).prog 63) (kwd := []) K15.ob_eq
    (by kernel_rfl) (fun s => by kernel_rfl) K15.run (by kernel_rfl) (by kernel_rfl) (by kernel_rfl) (by rfl) (by first | assumption | decide +kernel) (by decide +kernel) ⟨rfl, rfl, rfl, rfl, rfl, by decide +kernel⟩ ?hw ?hc
  case hw => w_witness2
  case hc =>
    exact ML.law_walk (t := K15.txt) (fuel := 60) (d := 100) (f := 48) (x := "script") rfl (by kernel_rfl) ⟨rfl, by decide, by decide⟩ (by decide +kernel) K15.okAll rfl rfl (by kernel_rfl) K15.law_true
