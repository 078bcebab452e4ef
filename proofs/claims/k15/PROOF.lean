import PyProof.Rows.All
import Wide.All
import OpenK.AllK
import Wide.FinOn
import PyProof.EqLayable
import PyProof.ReprRoads
import HandS.ForMost
import HandS.Walk
import HandS.Wide
import HandS.Star
import HandS.IsInst
import HandS.SortInts
import HandS.TupAny
import HandS.TupLe
import HandS.TupMul
import HandS.Zip
import HandS.Flow
import HandS.Style
import HandS.Conv
import KE.DataMinMax
import KE.GoesEnum
import HandS.Words
import HandS.Defaults
import HandS.Ends
import HandS.HeadEnd
import HandS.Head0
import HandS.Head1
import HandS.Head2
import HandS.HeadHook1
import HandS.HeadHook2
import KE.KStateDown
import PySem.Challenge.RW_plancorners_k15_queries_by_hand
set_option Elab.async false
set_option linter.all false
/-! # A small by-value language for the pure part of the program and of the laws, and its evaluator.
Values are data; a world of draws is carried along; «stuck» claims nothing. -/
namespace Pc
open PySem (Str PyData Operator CmpOp)

/-- data -/
inductive D where
  | none | bool (b : Bool) | int (i : Int) | str (s : Str) | tup (xs : List D) | lst (xs : List D)
  /-- the text repr(d) -/
  | rep (d : D)
  /-- the world of draws -/
  | world
  /-- the script -/
  | scr (is : List Int)
  deriving Inhabited

mutual
def D.toPy : D → Option PyData
  | .none => some .none
  | .bool b => some (.bool b)
  | .int i => some (.int i)
  | .str s => some (.str s)
  | .tup xs => (D.toPys xs).map PyData.tuple
  | .lst xs => (D.toPys xs).map PyData.list
  | .rep _ => Option.none
  | .world => Option.none
  | .scr _ => Option.none
def D.toPys : List D → Option (List PyData)
  | [] => some []
  | x :: xs => match D.toPy x, D.toPys xs with
    | some p, some ps => some (p :: ps)
    | _, _ => Option.none
end

mutual
def D.same : D → D → Bool
  | .none, .none => true
  | .bool a, .bool b => a == b
  | .int a, .int b => a == b
  | .str a, .str b => a == b
  | .tup xs, .tup ys => D.sames xs ys
  | .lst xs, .lst ys => D.sames xs ys
  | .rep a, .rep b => D.same a b
  | .world, .world => true
  | .scr a, .scr b => a == b
  | _, _ => false
def D.sames : List D → List D → Bool
  | [], [] => true
  | x :: xs, y :: ys => D.same x y && D.sames xs ys
  | _, _ => false
end
mutual
theorem D.same_eq : ∀ {a b : D}, D.same a b = true → a = b
  | .none, b, h => by cases b <;> simp [D.same] at h ⊢
  | .bool x, b, h => by cases b <;> simp [D.same] at h ⊢ <;> exact h
  | .int x, b, h => by cases b <;> simp [D.same] at h ⊢ <;> exact h
  | .str x, b, h => by cases b <;> simp [D.same] at h ⊢ <;> exact h
  | .tup xs, b, h => by
    cases b <;> simp [D.same] at h ⊢
    exact D.sames_eq h
  | .lst xs, b, h => by
    cases b <;> simp [D.same] at h ⊢
    exact D.sames_eq h
  | .rep x, b, h => by
    cases b <;> simp [D.same] at h ⊢
    exact D.same_eq h
  | .world, b, h => by cases b <;> simp [D.same] at h ⊢
  | .scr x, b, h => by cases b <;> simp [D.same] at h ⊢ <;> exact h
theorem D.sames_eq : ∀ {a b : List D}, D.sames a b = true → a = b
  | [], b, h => by cases b <;> simp [D.sames] at h ⊢
  | x :: xs, b, h => by
    cases b with
    | nil => simp [D.sames] at h
    | cons y ys =>
      simp [D.sames] at h
      rw [D.same_eq h.1, D.sames_eq h.2]
end
mutual
theorem D.same_refl : ∀ a : D, D.same a a = true
  | .none | .bool _ | .int _ | .str _ | .world | .scr _ => by simp [D.same]
  | .tup xs => by simp [D.same, D.sames_refl xs]
  | .lst xs => by simp [D.same, D.sames_refl xs]
  | .rep x => by simp [D.same, D.same_refl x]
theorem D.sames_refl : ∀ a : List D, D.sames a a = true
  | [] => by simp [D.sames]
  | x :: xs => by simp [D.sames, D.same_refl x, D.sames_refl xs]
end

/-- the world of draws -/
structure WS where
  cells : List Int
  great : List Int
  spot : Int

/-- what a run gives -/
inductive R (α : Type) where
  | ok (a : α) (w : WS)
  | stuck

/-- what a slot holds: nothing; data that never changes; a list of the frame's own that may be changed; a list that is lent (read only, not handed on) -/
inductive Sl where
  | un | imm (d : D) | own (d : D) | bor (d : D)
  deriving Inhabited
abbrev SEnv := List Sl
abbrev M (α : Type) := WS → R α
def R.bind {α β : Type} (r : R α) (f : α → M β) : R β := match r with
  | .ok a w => f a w
  | .stuck => .stuck
def M.bind {α β : Type} (m : M α) (f : α → M β) : M β := fun w => (m w).bind f
def M.ok {α : Type} (a : α) : M α := fun w => .ok a w
def M.stuck {α : Type} : M α := fun _ => .stuck
def M.of {α : Type} (o : Option α) : M α := match o with
  | some a => M.ok a
  | none => M.stuck

/-! ### operations on data -/
def line : Nat := 16777216
def b2i (b : Bool) : Int := if b then 1 else 0
def eqFn : D → D → Option Bool
  | .rep a, .rep b => if D.same a b then some true else none
  | a, b => match a.toPy, b.toPy with
    | some p, some q => if PySem.SeqAt.shaped p && PySem.SeqAt.shaped q then some (PyData.eqv p q) else none
    | _, _ => none
def binFn (op : Operator) (x y : D) : Option D := match op, x, y with
  | .Add, .int i, .int j => some (.int (i + j))
  | .Sub, .int i, .int j => some (.int (i - j))
  | .Mult, .int i, .int j => if i.natAbs.log2 + j.natAbs.log2 < 1000000 then some (.int (i * j)) else none
  | .FloorDiv, .int i, .int j => if 0 < j ∧ j.natAbs.log2 < 9000 then some (.int (i / j)) else none
  | .Mod, .int i, .int j => if 0 < j then some (.int (i % j)) else none
  | .Pow, .int i, .int j => if 0 ≤ j ∧ j ≤ 1000 ∧ i.natAbs < 2 ^ 64 then some (.int (i ^ j.toNat)) else none
  | .Add, .str x, .str y => if x.length + y.length ≤ line then some (.str (x ++ y)) else none
  | .Add, .tup xs, .tup ys => if xs.length + ys.length ≤ line then some (.tup (xs ++ ys)) else none
  | .Add, .lst xs, .lst ys => if xs.length + ys.length ≤ line then some (.lst (xs ++ ys)) else none
  | .Mult, .lst xs, .int k => if -(2 ^ 63) ≤ k ∧ k < 2 ^ 63 ∧ xs.length * k.toNat ≤ line then some (.lst (List.replicate k.toNat xs).flatten) else none
  | .Mult, .tup xs, .int k => if xs ≠ [] ∧ 2 ≤ k ∧ k ≤ 1000 ∧ xs.length ≤ 1000 then some (.tup (List.replicate k.toNat xs).flatten) else none
  | .Sub, .bool a, .bool b => some (.int (b2i a - b2i b))
  | _, _, _ => none
/-- x in ys, all of them flat -/
def flat : D → Bool
  | .none | .bool _ | .int _ | .str _ => true
  | _ => false
def intsOf : List D → Option (List Int)
  | [] => some []
  | .int i :: r => (intsOf r).map (i :: ·)
  | _ => none
def boolsOf : List D → Option (List Bool)
  | [] => some []
  | .bool i :: r => (boolsOf r).map (i :: ·)
  | _ => none
def lexLt : List Int → List Int → Bool
  | [], [] => false
  | [], _ :: _ => true
  | _ :: _, [] => false
  | x :: xs, y :: ys => if x = y then lexLt xs ys else decide (x < y)
def elemsOf : D → Option (List D)
  | .lst xs => some xs
  | .tup xs => some xs
  | _ => none
/-- what a loop may walk -/
def walkOf : D → Option (List D)
  | .lst xs => some xs
  | .tup xs => some xs
  | .scr is => some (is.map .int)
  | _ => none
def flatEq : D → D → Bool
  | .none, .none => true
  | .bool a, .bool b => a == b
  | .bool a, .int b => (if a then 1 else 0) == b
  | .int a, .bool b => a == (if b then 1 else 0)
  | .int a, .int b => a == b
  | .str a, .str b => a == b
  | _, _ => false
def inFn (x y : D) : Option Bool := match elemsOf y with
  | some ys => if flat x && ys.all flat then some (ys.any fun z => flatEq z x) else none
  | none => none
def cmpFn (op : CmpOp) (x y : D) : Option Bool := match op, x, y with
  | .Eq, a, b => eqFn a b
  | .NotEq, a, b => (eqFn a b).map (!·)
  | .Lt, .int i, .int j => some (decide (i < j))
  | .LtE, .int i, .int j => some (decide (i ≤ j))
  | .Gt, .int i, .int j => some (decide (j < i))
  | .GtE, .int i, .int j => some (decide (j ≤ i))
  | .Lt, .tup xs, .tup ys => match intsOf xs, intsOf ys with
    | some a, some b => some (lexLt a b)
    | _, _ => none
  | .LtE, .tup xs, .tup ys => match intsOf xs, intsOf ys with
    | some a, some b => some (!lexLt b a)
    | _, _ => none
  | .Is, a, .none => some (match a with | .none => true | _ => false)
  | .IsNot, a, .none => some (match a with | .none => false | _ => true)
  | .Is, .bool a, .bool b => some (decide (a = b))
  | .IsNot, .bool a, .bool b => some (!decide (a = b))
  | .In, a, b => inFn a b
  | .NotIn, a, b => (inFn a b).map (!·)
  | _, _, _ => none
def truth : D → Option Bool
  | .none => some false
  | .bool b => some b
  | .int i => some (i != 0)
  | .str x => if x.length ≤ line then some (x.length != 0) else none
  | .tup xs => some (!xs.isEmpty)
  | .lst xs => some (!xs.isEmpty)
  | _ => none
/-- a place, counted from either end -/
def place (n : Nat) (i : Int) : Option Nat :=
  if 0 ≤ i then (if i < n then some i.toNat else none) else if -(n : Int) ≤ i then some (i + n).toNat else none
def idxFn (x i : D) : Option D := match x, i with
  | .lst xs, .int i => (place xs.length i).bind fun j => xs[j]?
  | .tup xs, .int i => (place xs.length i).bind fun j => xs[j]?
  | _, _ => none
/-- a slice's bound -/
def bound (n : Nat) (dflt : Nat) : Option Int → Nat
  | none => dflt
  | some i => if 0 ≤ i then min i.toNat n else (i + n).toNat
def cut {α : Type} (xs : List α) (lo hi : Option Int) : List α :=
  (xs.drop (bound xs.length 0 lo)).take (bound xs.length xs.length hi - bound xs.length 0 lo)
def sliceFn (x : D) (lo hi : Option Int) : Option D := match x with
  | .lst xs => some (.lst (cut xs lo hi))
  | .tup xs => some (.tup (cut xs lo hi))
  | _ => none
/-- built-in functions -/
inductive Bi where
  | len | all | any | sum | min | max | sorted | tuple | list | int | abs | repr
  deriving DecidableEq
def insertI (i : Int) : List Int → List Int
  | [] => [i]
  | j :: r => if i ≤ j then i :: j :: r else j :: insertI i r
def sortI : List Int → List Int
  | [] => []
  | i :: r => insertI i (sortI r)
def minI : List Int → Option Int
  | [] => none
  | i :: r => match minI r with | none => some i | some m => some (if m < i then m else i)
def maxI : List Int → Option Int
  | [] => none
  | i :: r => match maxI r with | none => some i | some m => some (if m > i then m else i)
/-- what repr may be asked of -/
def reprOk (d : D) : Bool := match d.toPy with
  | some p => p.showable && decide (p.depth ≤ 64) && decide (p.shown.length ≤ line)
  | none => false
def biFn (b : Bi) (xs : List D) : Option D := match b, xs with
  | .len, [.lst xs] => some (.int xs.length)
  | .len, [.tup xs] => some (.int xs.length)
  | .len, [.scr xs] => some (.int xs.length)
  | .all, [.lst xs] => (boolsOf xs).map fun bs => .bool (bs.all id)
  | .any, [.lst xs] => (boolsOf xs).map fun bs => .bool (bs.any id)
  | .sum, [.lst xs] => (intsOf xs).map fun is => .int is.sum
  | .min, [.lst xs] => (intsOf xs).bind fun is => (minI is).map .int
  | .max, [.lst xs] => (intsOf xs).bind fun is => (maxI is).map .int
  | .min, [.tup xs] => (intsOf xs).bind fun is => (minI is).map .int
  | .max, [.tup xs] => (intsOf xs).bind fun is => (maxI is).map .int
  | .min, [.int i, .int j] => some (.int (if j < i then j else i))
  | .max, [.int i, .int j] => some (.int (if j > i then j else i))
  | .sorted, [.lst xs] => (intsOf xs).map fun is => .lst ((sortI is).map .int)
  | .sorted, [.tup xs] => (intsOf xs).map fun is => .lst ((sortI is).map .int)
  | .tuple, [.lst xs] => some (.tup xs)
  | .tuple, [.tup xs] => some (.tup xs)
  | .list, [.lst xs] => some (.lst xs)
  | .list, [.tup xs] => some (.lst xs)
  | .int, [.int i] => some (.int i)
  | .int, [.bool b] => some (.int (b2i b))
  | .abs, [.int i] => some (.int (if i < 0 then -i else i))
  | .repr, [d] => if reprOk d then some (.rep d) else none
  | _, _ => none
/-- isinstance(x, T) by the built-in classes' names -/
inductive Ty where | int | bool | str | tuple | list
  deriving DecidableEq
def isTy : Ty → D → Option Bool
  | .int, .int _ => some true
  | .int, .bool _ => some true
  | .bool, .bool _ => some true
  | .str, .str _ => some true
  | .str, .rep _ => some true
  | .tuple, .tup _ => some true
  | .list, .lst _ => some true
  | _, .world => none
  | _, .scr _ => none
  | _, _ => some false

/-! ### the syntax -/
/-- a target: a slot, or a row of targets -/
inductive Tg where
  | nm (i : Nat)
  | tp (ts : List Tg)
mutual
inductive Ex where
  | var (i : Nat)
  | glo (g : Nat)
  | cst (d : D)
  | bin (op : Operator) (a b : Ex)
  | neg (a : Ex)
  | not (a : Ex)
  | bop (and : Bool) (es : Exs)
  | cmp (op : CmpOp) (a b : Ex)
  | chain (o1 o2 : CmpOp) (a b c : Ex)
  | ife (c a b : Ex)
  | tup (es : Exs)
  | lst (es : Exs)
  | idx (a i : Ex)
  | slice (a : Ex) (lo hi : Exs)
  | comp (elt : Ex) (tg : Tg) (own : List Nat) (src : Src) (ifs : Exs)
  | comp2 (elt : Ex) (t1 : Tg) (t2 : Tg) (own own2 : List Nat) (s1 s2 : Src)
  | call (f : Nat) (args : Exs)
  | bi (b : Bi) (args : Exs)
  | isI (a : Ex) (ts : List Ty)
  | draw (m limit : Ex)
inductive Exs where
  | nil
  | cons (e : Ex) (r : Exs)
  | star (e : Ex) (r : Exs)
inductive Src where
  | ex (e : Ex)
  | rng1 (a : Ex)
  | rng2 (a b : Ex)
  | enu (e : Ex)
  | zip (a b : Ex)
end
inductive St where
  | pass
  | expr (e : Ex)
  | ret (e : Ex)
  | retOwn (i : Nat)
  | retN
  | asg (i : Nat) (e : Ex)
  /-- a fresh list, to be changed later -/
  | asgOwn (i : Nat) (e : Ex)
  /-- a, b = x, y: plain local names, each side written -/
  | par (is : List (Nat × Bool)) (es : Exs)
  | unp (tg : Tg) (e : Ex)
  | aug (i : Nat) (op : Operator) (e : Ex)
  | app (i : Nat) (e : Ex)
  | ext (i : Nat) (e : Ex)
  /-- t = x.pop() -/
  | pop (tg : Tg) (i : Nat)
  /-- x[k] = e -/
  | put (i : Nat) (k e : Ex)
  | ifs (c : Ex) (a b : List St)
  | fors (tg : Tg) (src : Src) (body : List St)
  | whl (c : Ex) (body : List St)
  | raise
  /-- no statement of the text: from here on the list in the slot is not changed any more -/
  | freeze (i : Nat)

/-! ### the evaluator -/
def setSl (env : SEnv) (i : Nat) (s : Sl) : SEnv := env.set i s
def wipe (env : SEnv) : List Nat → SEnv
  | [] => env
  | v :: vs => (wipe env vs).set v .un
/-- none of the slots holds a list of one's own -/
def noOwn (env : SEnv) (l : List Nat) : Bool := l.all fun i => match env[i]? with
  | some (.own _) => false
  | _ => true
mutual
def bindTg : Tg → D → SEnv → Option SEnv
  | .nm i, d, env => if i < env.length then some (env.set i (.imm d)) else none
  | .tp ts, .tup ds, env => bindTgs ts ds env
  | _, _, _ => none
def bindTgs : List Tg → List D → SEnv → Option SEnv
  | [], [], env => some env
  | t :: ts, d :: ds, env => (bindTg t d env).bind (bindTgs ts ds)
  | _, _, _ => none
end
def rangeL (lo : Int) : Nat → List D
  | 0 => []
  | n + 1 => .int lo :: rangeL (lo + 1) n
def enumL (k : Int) : List D → List D
  | [] => []
  | d :: ds => .tup [.int k, d] :: enumL (k + 1) ds
def zipL : List D → List D → List D
  | x :: xs, y :: ys => .tup [x, y] :: zipL xs ys
  | _, _ => []
def mixed (cell n : Int) : Int :=
  let blend := (cell * (1 + 2 * n) * 48271) % 2147483647 + 7919 * n * n + 104729 * n
  (blend * 69621) % 2147483629 / 7
/-- the next drawn number below a limit -/
def drawW (w : WS) (limit : Int) : Option (Int × WS) :=
  if 0 < limit ∧ limit ≤ 1000000000 ∧ w.spot.natAbs.log2 < 200000 then
    let n := w.spot
    let w1 : WS := { w with spot := n + 1 }
    let here := (n % (w.great.length : Int)).toNat
    let cell := w.great.getD here 0
    if w.great ≠ [] ∧ cell > 0 then some (cell % limit, { w1 with great := w.great.set here (cell / limit) })
    else some (mixed (mixed (w.cells.getD (n % 64).toNat 0 + 31 * (n / 64)) n) (n + 7) % limit, w1)
  else none
/-- the elements one by one -/
def mapR (f : D → M (Option D)) : List D → M (List D)
  | [] => M.ok []
  | x :: xs => M.bind (f x) fun o => M.bind (mapR f xs) fun ys => M.ok (match o with | some y => y :: ys | none => ys)
def flatR (f : D → M (List D)) : List D → M (List D)
  | [] => M.ok []
  | x :: xs => M.bind (f x) fun o => M.bind (flatR f xs) fun ys => M.ok (o ++ ys)
def lstR (m : M (List D)) : M D := M.bind m fun ds => if ds.length ≤ line then M.ok (.lst ds) else M.stuck

section
variable (cl : Nat → List Sl → M D) (gl : Nat → D)
mutual
/-- m: the expression stands where a list is only looked at -/
def ev : Ex → Bool → SEnv → M D
  | .var i, m, env => match env[i]? with
    | some (.imm d) => M.ok d
    | some (.own d) => if m then M.ok d else M.stuck
    | some (.bor d) => if m then M.ok d else M.stuck
    | _ => M.stuck
  | .glo g, _, _ => M.ok (gl g)
  | .cst d, _, _ => M.ok d
  | .bin op a b, _, env => M.bind (ev a true env) fun x => M.bind (ev b true env) fun y => M.of (binFn op x y)
  | .neg a, _, env => M.bind (ev a false env) fun x => match x with
    | .int i => M.ok (.int (-i))
    | _ => M.stuck
  | .not a, _, env => M.bind (ev a true env) fun x => M.bind (M.of (truth x)) fun c => M.ok (.bool (!c))
  | .bop and es, _, env => evB and es env
  | .cmp op a b, _, env => M.bind (ev a true env) fun x => M.bind (ev b true env) fun y => M.bind (M.of (cmpFn op x y)) fun c => M.ok (.bool c)
  | .chain o1 o2 a b c, _, env => M.bind (ev a true env) fun x => M.bind (ev b true env) fun y => M.bind (M.of (cmpFn o1 x y)) fun k =>
      if k then M.bind (ev c true env) fun z => M.bind (M.of (cmpFn o2 y z)) fun r => M.ok (.bool r) else M.ok (.bool false)
  | .ife c a b, _, env => M.bind (ev c true env) fun x => M.bind (M.of (truth x)) fun t => if t then ev a false env else ev b false env
  | .tup es, _, env => M.bind (evs es env) fun ds => if ds.length ≤ line then M.ok (.tup ds) else M.stuck
  | .lst es, _, env => lstR (evs es env)
  | .idx a i, _, env => M.bind (ev a true env) fun x => M.bind (ev i false env) fun y => M.of (idxFn x y)
  | .slice a lo hi, _, env => M.bind (ev a true env) fun x => M.bind (evOpt lo env) fun l => M.bind (evOpt hi env) fun h => M.of (sliceFn x l h)
  | .comp elt tg own src ifs, _, env => if noOwn env own then lstR (M.bind (evS src true env) fun ds => mapR (fun d => M.bind (M.of (bindTg tg d (wipe env own))) fun e2 =>
      M.bind (evIf ifs e2) fun c => if c then M.bind (ev elt false e2) fun y => M.ok (some y) else M.ok none) ds) else M.stuck
  | .comp2 elt t1 t2 own own2 s1 s2, _, env => if noOwn env own then lstR (M.bind (evS s1 true env) fun ds => flatR (fun d => M.bind (M.of (bindTg t1 d (wipe env own))) fun e1 =>
      M.bind (evS s2 false e1) fun es => mapR (fun e => M.bind (M.of (bindTg t2 e (wipe e1 own2))) fun e2 => M.bind (ev elt false e2) fun y => M.ok (some y)) es) ds) else M.stuck
  | .call f args, _, env => M.bind (evArgs args env) fun as => cl f as
  | .bi b args, _, env => M.bind (evAs args env) fun as => M.of (biFn b as)
  | .isI a ts, _, env => M.bind (ev a true env) fun x => M.bind (M.of (ts.foldr (fun t r => match isTy t x, r with | some p, some q => some (p || q) | _, _ => none) (some false))) fun c => M.ok (.bool c)
  | .draw m limit, _, env => M.bind (ev m false env) fun x => M.bind (ev limit false env) fun y => match x, y with
    | .world, .int l => fun w => match drawW w l with
      | some (i, w') => .ok (.int i) w'
      | none => .stuck
    | _, _ => M.stuck
/-- and, or: the value at which it is decided -/
def evB : Bool → Exs → SEnv → M D
  | and, .cons e .nil, env => ev e false env
  | and, .cons e r, env => M.bind (ev e false env) fun x => M.bind (M.of (truth x)) fun c => if c == and then evB and r env else M.ok x
  | _, _, _ => M.stuck
/-- the items of a display -/
def evs : Exs → SEnv → M (List D)
  | .nil, _ => M.ok []
  | .cons e r, env => M.bind (ev e false env) fun x => M.bind (evs r env) fun xs => M.ok (x :: xs)
  | .star e r, env => M.bind (ev e true env) fun x => match elemsOf x with
    | some ys => M.bind (evs r env) fun xs => M.ok (ys ++ xs)
    | none => M.stuck
/-- what is only looked at -/
def evAs : Exs → SEnv → M (List D)
  | .nil, _ => M.ok []
  | .cons e r, env => M.bind (ev e true env) fun x => M.bind (evAs r env) fun xs => M.ok (x :: xs)
  | .star _ _, _ => M.stuck
/-- arguments of a def: a list of one's own is lent -/
def evArgs : Exs → SEnv → M (List Sl)
  | .nil, _ => M.ok []
  | .cons e r, env => M.bind (ev e true env) fun x =>
      M.bind (evArgs r env) fun xs => M.ok ((match e with
        | .var i => match env[i]? with
          | some (.own _) => Sl.bor x
          | some (.bor _) => Sl.bor x
          | _ => Sl.imm x
        | _ => Sl.imm x) :: xs)
  | .star _ _, _ => M.stuck
/-- a slice's bound, or none -/
def evOpt : Exs → SEnv → M (Option Int)
  | .nil, _ => M.ok none
  | .cons e .nil, env => M.bind (ev e false env) fun x => match x with
    | .int i => M.ok (some i)
    | _ => M.stuck
  | _, _ => M.stuck
/-- a comprehension's tests: none, or one -/
def evIf : Exs → SEnv → M Bool
  | .nil, _ => M.ok true
  | .cons e .nil, env => M.bind (ev e true env) fun x => M.of (truth x)
  | _, _ => M.stuck
/-- what is walked -/
def evS : Src → Bool → SEnv → M (List D)
  | .ex e, m, env => M.bind (ev e m env) fun x => M.of (walkOf x)
  | .rng1 a, _, env => M.bind (ev a false env) fun x => match x with
    | .int n => if -(2 ^ 62) ≤ n ∧ n < 2 ^ 62 then M.ok (rangeL 0 n.toNat) else M.stuck
    | _ => M.stuck
  | .rng2 a b, _, env => M.bind (ev a false env) fun x => M.bind (ev b false env) fun y => match x, y with
    | .int i, .int j => if -(2 ^ 62) ≤ i ∧ i < 2 ^ 62 ∧ -(2 ^ 62) ≤ j ∧ j < 2 ^ 62 then M.ok (rangeL i (j - i).toNat) else M.stuck
    | _, _ => M.stuck
  | .enu e, m, env => M.bind (ev e m env) fun x => M.bind (M.of (walkOf x)) fun xs => M.ok (enumL 0 xs)
  | .zip a b, m, env => M.bind (ev a m env) fun x => M.bind (ev b m env) fun y => M.bind (M.of (walkOf x)) fun xs => M.bind (M.of (walkOf y)) fun ys => M.ok (zipL xs ys)
end
end

/-- how a block goes on -/
inductive Fl where
  | next (env : SEnv)
  | ret (d : D) (f : Bool)
def forR (f : D → SEnv → M Fl) : List D → SEnv → M Fl
  | [], env => M.ok (.next env)
  | x :: xs, env => M.bind (f x env) fun r => match r with
    | .next env' => forR f xs env'
    | .ret d b => M.ok (.ret d b)
def whileR (c : SEnv → M Bool) (f : SEnv → M Fl) : Nat → SEnv → M Fl
  | 0, _ => M.stuck
  | n + 1, env => M.bind (c env) fun b => if b then M.bind (f env) fun r => match r with
    | .next env' => whileR c f n env'
    | .ret d b => M.ok (.ret d b) else M.ok (.next env)
def whileFuel : Nat := 100000
def getOwn (env : SEnv) (i : Nat) : Option (List D) := match env[i]? with
  | some (.own (.lst ds)) => some ds
  | _ => none
/-- may the value, if it is a list, be kept as a list of one's own: it is a new one -/
def freshEx (fr : Nat → Bool) : Ex → Bool
  | .lst _ => true
  | .comp .. => true
  | .comp2 .. => true
  | .bi .list _ => true
  | .bi .sorted _ => true
  | .bin .. => true
  | .call f _ => fr f
  | _ => false
def zipSet (fr : Nat → Bool) : List (Nat × Bool) → Exs → List D → SEnv → Option SEnv
  | [], .nil, [], env => some env
  | (i, o) :: is, .cons e es, d :: ds, env => if i < env.length then
      (if o then (match d with
        | .lst _ => if freshEx fr e then zipSet fr is es ds (env.set i (.own d)) else none
        | _ => none)
      else zipSet fr is es ds (env.set i (.imm d))) else none
  | _, _, _, _ => none
section
variable (fr : Nat → Bool) (cl : Nat → List Sl → M D) (gl : Nat → D)
mutual
def evSt : St → SEnv → M Fl
  | .pass, env => M.ok (.next env)
  | .expr e, env => M.bind (ev cl gl e true env) fun _ => M.ok (.next env)
  | .ret e, env => M.bind (ev cl gl e false env) fun d => M.ok (.ret d (freshEx fr e))
  | .retOwn i, env => match env[i]? with
    | some (.own d) => M.ok (.ret d true)
    | some (.imm d) => M.ok (.ret d false)
    | _ => M.stuck
  | .retN, _ => M.ok (.ret .none true)
  | .asg i e, env => M.bind (ev cl gl e false env) fun d => if i < env.length then M.ok (.next (env.set i (.imm d))) else M.stuck
  | .asgOwn i e, env => M.bind (ev cl gl e false env) fun d => match d with
    | .lst ds => if i < env.length ∧ freshEx fr e = true then M.ok (.next (env.set i (.own (.lst ds)))) else M.stuck
    | _ => M.stuck
  | .par is es, env => M.bind (evs cl gl es env) fun ds => match zipSet fr is es ds env with
    | some env' => M.ok (.next env')
    | none => M.stuck
  | .unp tg e, env => M.bind (ev cl gl e false env) fun d => match bindTg tg d env with
    | some env' => M.ok (.next env')
    | none => M.stuck
  | .aug i op e, env => match env[i]? with
    | some (.imm x) => M.bind (ev cl gl e false env) fun y => match op, x, y with
      | .Add, .int a, .int b => M.ok (.next (env.set i (.imm (.int (a + b)))))
      | .Sub, .int a, .int b => M.ok (.next (env.set i (.imm (.int (a - b)))))
      | _, _, _ => M.stuck
    | _ => M.stuck
  | .app i e, env => M.bind (ev cl gl e false env) fun d => match getOwn env i with
    | some ds => if ds.length < line then M.ok (.next (env.set i (.own (.lst (ds ++ [d]))))) else M.stuck
    | none => M.stuck
  | .ext i e, env => M.bind (ev cl gl e false env) fun d => match getOwn env i, d with
    | some ds, .lst es => if ds.length + es.length ≤ line then M.ok (.next (env.set i (.own (.lst (ds ++ es))))) else M.stuck
    | _, _ => M.stuck
  | .pop tg i, env => match getOwn env i with
    | some ds => match ds.getLast? with
      | some d => match bindTg tg d (env.set i (.own (.lst ds.dropLast))) with
        | some env' => M.ok (.next env')
        | none => M.stuck
      | none => M.stuck
    | none => M.stuck
  | .put i k e, env => M.bind (ev cl gl e false env) fun d => M.bind (ev cl gl k false env) fun j => match getOwn env i, j with
    | some ds, .int j => match place ds.length j with
      | some p => M.ok (.next (env.set i (.own (.lst (ds.set p d)))))
      | none => M.stuck
    | _, _ => M.stuck
  | .ifs c a b, env => M.bind (ev cl gl c true env) fun x => M.bind (M.of (truth x)) fun t => if t then evSts a env else evSts b env
  | .fors tg src body, env => M.bind (evS cl gl src false env) fun ds => forR (fun d env => M.bind (M.of (bindTg tg d env)) fun env' => evSts body env') ds env
  | .whl c body, env => whileR (fun env => M.bind (ev cl gl c true env) fun x => M.of (truth x)) (fun env => evSts body env) whileFuel env
  | .raise, _ => M.stuck
  | .freeze i, env => match env[i]? with
    | some (.own d) => M.ok (.next (env.set i (.imm d)))
    | _ => M.stuck
def evSts : List St → SEnv → M Fl
  | [], env => M.ok (.next env)
  | s :: r, env => M.bind (evSt s env) fun f => match f with
    | .next env' => evSts r env'
    | .ret d b => M.ok (.ret d b)
end
end

/-- a def: how many slots, how many parameters, its body -/
structure Def where
  slots : Nat
  params : Nat
  /-- a list that it hands back is a new one -/
  fresh : Bool
  body : List St
def startEnv (d : Def) (as : List Sl) : SEnv := as ++ List.replicate (d.slots - as.length) Sl.un
def freshOf (tb : Nat → Option Def) (f : Nat) : Bool := match tb f with
  | some d => d.fresh
  | none => false
/-- the call of the f-th def, so many calls deep at most -/
def evCall (tb : Nat → Option Def) (gl : Nat → D) : Nat → Nat → List Sl → M D
  | 0, _, _ => M.stuck
  | k + 1, f, as => match tb f with
    | some d => if as.length = d.params then M.bind (evSts (freshOf tb) (evCall tb gl k) gl d.body (startEnv d as)) fun r => match r with
        | .next _ => M.ok .none
        | .ret x b => if d.fresh && !b then M.stuck else M.ok x
      else M.stuck
    | none => M.stuck
end Pc

set_option Elab.async false
set_option linter.all false
set_option maxRecDepth 100000
set_option maxHeartbeats 4000000
/-! # What data are in the heap -/
namespace Pc
open PySem L2

/-- the world's places: the dict, the list of great cells, the list of cells -/
structure Wa where
  m : Addr
  g : Addr
  c : Addr
/-- the written part, the lists that someone may change, the world -/
structure Cc where
  K : PySem.W.Frag
  O : Addr → Prop
  wa : Option Wa

def SqT1 (C : Cc) (H : Hp) (a : Addr) (xs : List V) : Prop := (H a = some (.tup xs) ∧ ¬ C.O a) ∨
  ∃ (o : Obj) (its : Array Value) (n : Nat), C.K.lookup a = some o ∧ o.cls = .type "tuple" ∧ o.data = .seq its n ∧ its.size ≤ sizeLine ∧ Vals xs its.toList
def SqL1 (C : Cc) (H : Hp) (a : Addr) (xs : List V) : Prop := (Rd H a (.lst xs) ∧ ¬ C.O a) ∨
  ∃ (o : Obj) (its : Array Value) (n : Nat), C.K.lookup a = some o ∧ o.cls = .type "list" ∧ o.dict = none ∧ o.data = .seq its n ∧ its.size ≤ sizeLine ∧ Vals xs its.toList
theorem SqL1.sq {C : Cc} {H : Hp} {a : Addr} {xs : List V} (h : SqL1 C H a xs) : SqL C.K H a xs := by
  rcases h with ⟨h, _⟩ | h
  · exact .inl h
  · exact .inr h
theorem SqT1.sq {C : Cc} {H : Hp} {a : Addr} {xs : List V} (h : SqT1 C H a xs) : SqT C.K H a xs := by
  rcases h with ⟨h, _⟩ | h
  · exact .of h
  · exact .inr h

mutual
/-- the value v is the data d -/
inductive Den (C : Cc) (H : Hp) : V → D → Prop where
  | non : Den C H .non .none
  | bl (b : Bool) : Den C H (.bl b) (.bool b)
  | int (i : Int) : Den C H (.int i) (.int i)
  | str (x : Str) : Den C H (.str x) (.str x)
  | rep {d : D} {p : PyData} (h : d.toPy = some p) : Den C H (.str p.shown) (.rep d)
  | tup {a : Addr} {xs : List V} {ds : List D} (h : SqT1 C H a xs) (l : DenL C H xs ds) : Den C H (.ref a) (.tup ds)
  | lst {a : Addr} {xs : List V} {ds : List D} (h : H a = some (.lst xs)) (o : ¬ C.O a) (l : DenL C H xs ds) : Den C H (.ref a) (.lst ds)
  | world {w : Wa} (h : C.wa = some w) : Den C H (.ref w.m) .world
  | scr {a : Addr} {is : List Int} (h : SqL1 C H a (is.map V.int)) : Den C H (.ref a) (.scr is)
inductive DenL (C : Cc) (H : Hp) : List V → List D → Prop where
  | nil : DenL C H [] []
  | cons {v : V} {vs : List V} {d : D} {ds : List D} (h : Den C H v d) (t : DenL C H vs ds) : DenL C H (v :: vs) (d :: ds)
end

section
variable {C C' : Cc} {H H' : Hp}
theorem SqT1.step {a : Addr} {xs : List V} (h : SqT1 C H a xs) (k : ∀ a o, H a = some o → ¬ C.O a → H' a = some o ∧ ¬ C'.O a) (ek : C'.K = C.K) : SqT1 C' H' a xs := by
  rcases h with ⟨h, n⟩ | h
  · exact .inl (k a _ h n)
  · rw [← ek] at h
    exact .inr h
theorem SqL1.step {a : Addr} {xs : List V} (h : SqL1 C H a xs) (k : ∀ a o, H a = some o → ¬ C.O a → H' a = some o ∧ ¬ C'.O a) (ek : C'.K = C.K) : SqL1 C' H' a xs := by
  rcases h with ⟨h, n⟩ | h
  · rcases h with h | ⟨o, h⟩
    · exact .inl ⟨.inl (k a _ h n).1, (k a _ h n).2⟩
    · exact .inl ⟨.inr ⟨o, (k a _ h n).1⟩, (k a _ h n).2⟩
  · rw [← ek] at h
    exact .inr h
mutual
/-- what stands outside O is kept, and stays outside -/
theorem Den.step (k : ∀ a o, H a = some o → ¬ C.O a → H' a = some o ∧ ¬ C'.O a) (ek : C'.K = C.K) (ew : C'.wa = C.wa) : ∀ {v : V} {d : D}, Den C H v d → Den C' H' v d
  | _, _, .non => .non
  | _, _, .bl b => .bl b
  | _, _, .int i => .int i
  | _, _, .str x => .str x
  | _, _, .rep h => .rep h
  | _, _, .tup h l => .tup (h.step k ek) (DenL.step k ek ew l)
  | _, _, .lst h o l => .lst (k _ _ h o).1 (k _ _ h o).2 (DenL.step k ek ew l)
  | _, _, .world h => .world (ew.trans h)
  | _, _, .scr h => .scr (h.step k ek)
theorem DenL.step (k : ∀ a o, H a = some o → ¬ C.O a → H' a = some o ∧ ¬ C'.O a) (ek : C'.K = C.K) (ew : C'.wa = C.wa) : ∀ {vs : List V} {ds : List D}, DenL C H vs ds → DenL C' H' vs ds
  | _, _, .nil => .nil
  | _, _, .cons h t => .cons (Den.step k ek ew h) (DenL.step k ek ew t)
end
theorem DenL.length : ∀ {vs : List V} {ds : List D}, DenL C H vs ds → vs.length = ds.length
  | _, _, .nil => rfl
  | _, _, .cons _ t => by simp [t.length]
theorem DenL.get : ∀ {vs : List V} {ds : List D} {i : Nat} {d : D}, DenL C H vs ds → ds[i]? = some d → ∃ v, vs[i]? = some v ∧ Den C H v d
  | _, _, _, _, .nil, e => by simp at e
  | _, _, 0, _, .cons h _, e => by simp at e; subst e; exact ⟨_, rfl, h⟩
  | _, _, i + 1, d, .cons _ t, e => by
    obtain ⟨v, h1, h2⟩ := DenL.get (i := i) t (by simpa using e)
    exact ⟨v, by simpa using h1, h2⟩
theorem DenL.getV : ∀ {vs : List V} {ds : List D} {i : Nat} {v : V}, DenL C H vs ds → vs[i]? = some v → ∃ d, ds[i]? = some d ∧ Den C H v d
  | _, _, _, _, .nil, e => by simp at e
  | _, _, 0, _, .cons h _, e => by simp at e; subst e; exact ⟨_, rfl, h⟩
  | _, _, i + 1, d, .cons _ t, e => by
    obtain ⟨v, h1, h2⟩ := DenL.getV (i := i) t (by simpa using e)
    exact ⟨v, by simpa using h1, h2⟩
theorem DenL.append : ∀ {vs us : List V} {ds es : List D}, DenL C H vs ds → DenL C H us es → DenL C H (vs ++ us) (ds ++ es)
  | _, _, _, _, .nil, t => t
  | _, _, _, _, .cons h t, u => .cons h (t.append u)
theorem DenL.take : ∀ {vs : List V} {ds : List D} (n : Nat), DenL C H vs ds → DenL C H (vs.take n) (ds.take n)
  | _, _, 0, _ => .nil
  | _, _, _ + 1, .nil => .nil
  | _, _, n + 1, .cons h t => .cons h (t.take n)
theorem DenL.drop : ∀ {vs : List V} {ds : List D} (n : Nat), DenL C H vs ds → DenL C H (vs.drop n) (ds.drop n)
  | _, _, 0, t => t
  | _, _, _ + 1, .nil => .nil
  | _, _, n + 1, .cons h t => DenL.drop n t
theorem DenL.set {v : V} {d : D} (r : Den C H v d) : ∀ {vs : List V} {ds : List D} (i : Nat), DenL C H vs ds → DenL C H (vs.set i v) (ds.set i d)
  | _, _, _, .nil => .nil
  | _, _, 0, .cons _ t => .cons r t
  | _, _, i + 1, .cons h t => .cons h (t.set r i)
theorem DenL.dropLast : ∀ {vs : List V} {ds : List D}, DenL C H vs ds → DenL C H vs.dropLast ds.dropLast := fun {vs ds} h => by
  rw [List.dropLast_eq_take, List.dropLast_eq_take, h.length]
  exact h.take _
theorem DenL.rep {vs : List V} {ds : List D} (h : DenL C H vs ds) : ∀ k : Nat, DenL C H (List.replicate k vs).flatten (List.replicate k ds).flatten
  | 0 => .nil
  | k + 1 => by
    rw [List.replicate_succ, List.replicate_succ, List.flatten_cons, List.flatten_cons]
    exact h.append (DenL.rep h k)
theorem DenL.intsV : ∀ {vs : List V} {ds : List D} {is : List Int}, DenL C H vs ds → intsOf ds = some is → vs = is.map V.int
  | _, _, _, .nil, e => by simp [intsOf] at e; subst e; rfl
  | _, _, is, .cons (d := d) h t, e => by
    cases d <;> simp only [intsOf, reduceCtorEq] at e
    rename_i i ds j
    cases e' : intsOf ds with
    | none => rw [e'] at e; cases e
    | some js =>
      rw [e'] at e
      cases e
      cases h
      rw [DenL.intsV t e']
      rfl
theorem DenL.boolsV : ∀ {vs : List V} {ds : List D} {is : List Bool}, DenL C H vs ds → boolsOf ds = some is → vs = is.map V.bl
  | _, _, _, .nil, e => by simp [boolsOf] at e; subst e; rfl
  | _, _, is, .cons (d := d) h t, e => by
    cases d <;> simp only [boolsOf, reduceCtorEq] at e
    rename_i i ds j
    cases e' : boolsOf ds with
    | none => rw [e'] at e; cases e
    | some js =>
      rw [e'] at e
      cases e
      cases h
      rw [DenL.boolsV t e']
      rfl
theorem DenL.ofInts : ∀ is : List Int, DenL C H (is.map V.int) (is.map D.int)
  | [] => .nil
  | i :: r => .cons (.int i) (DenL.ofInts r)
mutual
/-- data as the library's data -/
theorem Den.dp : ∀ {v : V} {d : D} {p : PyData}, Den C H v d → d.toPy = some p → Dp C.K H v p
  | _, _, _, .non, e => by simp [D.toPy] at e; subst e; exact .non
  | _, _, _, .bl b, e => by simp [D.toPy] at e; subst e; exact .bl b
  | _, _, _, .int i, e => by simp [D.toPy] at e; subst e; exact .int i
  | _, _, _, .str x, e => by simp [D.toPy] at e; subst e; exact .str x
  | _, _, _, .rep _, e => by simp [D.toPy] at e
  | _, _, _, .world _, e => by simp [D.toPy] at e
  | _, _, _, .scr _, e => by simp [D.toPy] at e
  | _, _, _, .tup h l, e => by
    simp only [D.toPy, Option.map_eq_some_iff] at e
    obtain ⟨ps, e, rfl⟩ := e
    exact .tup h.sq (DenL.dp l e)
  | _, _, _, .lst h _ l, e => by
    simp only [D.toPy, Option.map_eq_some_iff] at e
    obtain ⟨ps, e, rfl⟩ := e
    exact .lst (.of h) (DenL.dp l e)
theorem DenL.dp : ∀ {vs : List V} {ds : List D} {ps : List PyData}, DenL C H vs ds → D.toPys ds = some ps → DpAll C.K H vs ps
  | _, _, _, .nil, e => by simp [D.toPys] at e; subst e; exact .nil
  | _, _, _, .cons (d := d) (ds := ds) h t, e => by
    rw [D.toPys] at e
    cases e1 : d.toPy with
    | none => rw [e1] at e; simp at e
    | some p =>
      cases e2 : D.toPys ds with
      | none => rw [e1, e2] at e; simp at e
      | some ps =>
        rw [e1, e2] at e
        simp at e
        subst e
        exact .cons (Den.dp h e1) (DenL.dp t e2)
end
end

/-- a list that is only looked at may be one that someone changes -/
def DenM (C : Cc) (H : Hp) (m : Bool) (v : V) (d : D) : Prop :=
  Den C H v d ∨ (m = true ∧ ∃ a xs ds, v = .ref a ∧ d = .lst ds ∧ H a = some (.lst xs) ∧ DenL C H xs ds ∧ ∀ w, C.wa = some w → a ≠ w.m ∧ a ≠ w.g)
section
variable {C : Cc} {H H' : Hp} {m : Bool} {v : V}
theorem DenM.list {ds : List D} (h : DenM C H m v (.lst ds)) : ∃ a xs, v = .ref a ∧ H a = some (.lst xs) ∧ DenL C H xs ds := by
  rcases h with h | ⟨_, a, xs, es, rfl, e, h, l, _⟩
  · cases h with
    | lst h o l => exact ⟨_, _, rfl, h, l⟩
  · cases e
    exact ⟨a, xs, rfl, h, l⟩
theorem DenM.den {d : D} (h : DenM C H m v d) (hd : ∀ ds, d ≠ .lst ds) : Den C H v d := by
  rcases h with h | ⟨_, a, xs, es, rfl, e, h, l, _⟩
  · exact h
  · exact absurd e (hd es)
theorem DenM.strict {d : D} (h : DenM C H false v d) : Den C H v d := by
  rcases h with h | ⟨e, _⟩
  · exact h
  · cases e
theorem DenM.dp {d : D} {p : PyData} (h : DenM C H m v d) (e : d.toPy = some p) : Dp C.K H v p := by
  rcases h with h | ⟨_, a, xs, es, rfl, rfl, h, l, _⟩
  · exact h.dp e
  · simp only [D.toPy, Option.map_eq_some_iff] at e
    obtain ⟨ps, e, rfl⟩ := e
    exact .lst (.of h) (l.dp e)
end

/-! ### the world of draws -/
def kStr (s : Str) : Key := Sum.inr s
def worldDict (w : Wa) (ws : WS) : HO := .dK [(kStr (Str.ofString "cells"), .ref w.c), (kStr (Str.ofString "great"), .ref w.g), (kStr (Str.ofString "spot"), .int ws.spot)]
structure WOk (wa : Option Wa) (H : Hp) (ws : WS) : Prop where
  ok : ∀ w, wa = some w → H w.m = some (worldDict w ws) ∧ H w.g = some (.lst (ws.great.map V.int)) ∧ H w.c = some (.lst (ws.cells.map V.int)) ∧ w.g ≠ w.c ∧
    ws.cells.length = 64 ∧ (∀ c ∈ ws.cells, 0 ≤ c ∧ c < 2147483647) ∧ 0 ≤ ws.spot ∧ ws.great.length ≤ 63
def Keep (wa : Option Wa) (H H' : Hp) : Prop := ∀ a o, H a = some o → (∀ w, wa = some w → a ≠ w.m ∧ a ≠ w.g) → H' a = some o
/-- the heap is as the frame wants it -/
structure HpOk (C : Cc) (H : Hp) (ws : WS) : Prop where
  w : WOk C.wa H ws
  al : ∀ a, C.O a → ∃ o, H a = some o
  wo : ∀ w, C.wa = some w → C.O w.m ∧ C.O w.g
theorem Keep.refl (wa : Option Wa) (H : Hp) : Keep wa H H := fun _ _ e _ => e
theorem Keep.trans {wa : Option Wa} {H H1 H2 : Hp} (a : Keep wa H H1) (b : Keep wa H1 H2) : Keep wa H H2 := fun c o e n => b c o (a c o e n) n
theorem Keep.new {wa : Option Wa} {H : Hp} {p : Addr} {o : HO} (h : H p = none) : Keep wa H (upd H p o) := fun c u e _ => by rw [upd_ne (ne_of_none e h)]; exact e
theorem Keep.none {wa : Option Wa} {H H1 : Hp} {ws : WS} {p : Addr} (k : Keep wa H H1) (w : WOk wa H1 ws) (h : H1 p = none) : H p = none := by
  cases e : H p with
  | none => rfl
  | some o =>
    by_cases n : ∀ w, wa = some w → p ≠ w.m ∧ p ≠ w.g
    · rw [k p o e n] at h; cases h
    · exfalso
      apply n
      intro x ex
      obtain ⟨h1, h2, _⟩ := w.ok x ex
      exact ⟨fun q => (by rw [q, h1] at h; cases h), fun q => (by rw [q, h2] at h; cases h)⟩
section
variable {C : Cc} {H H' : Hp} {ws : WS} {p : Addr} {o : HO}
theorem HpOk.keep {ws' : WS} (h : HpOk C H ws) (k : Keep C.wa H H') (w : WOk C.wa H' ws') : HpOk C H' ws' := by
  refine ⟨w, fun a ha => ?_, h.wo⟩
  obtain ⟨u, e⟩ := h.al a ha
  cases q : H' a with
  | some u' => exact ⟨u', rfl⟩
  | none => rw [k.none w q] at e; cases e
theorem WOk.new {wa : Option Wa} (h : WOk wa H ws) (n : H p = none) : WOk wa (upd H p o) ws := ⟨fun w e => by
  obtain ⟨h1, h2, h3, r⟩ := h.ok w e
  exact ⟨by rw [upd_ne (ne_of_none h1 n)]; exact h1, by rw [upd_ne (ne_of_none h2 n)]; exact h2, by rw [upd_ne (ne_of_none h3 n)]; exact h3, r⟩⟩
theorem HpOk.new (h : HpOk C H ws) (n : H p = none) : HpOk C (upd H p o) ws := h.keep (.new n) (h.w.new n)
theorem HpOk.out (h : HpOk C H ws) (n : H p = none) : ¬ C.O p := fun q => by
  obtain ⟨u, e⟩ := h.al p q
  rw [n] at e; cases e
theorem Den.keep {v : V} {d : D} (h : Den C H v d) (x : HpOk C H ws) (k : Keep C.wa H H') : Den C H' v d :=
  h.step (fun a o e n => ⟨k a o e fun w ew => ⟨fun q => n (q ▸ (x.wo w ew).1), fun q => n (q ▸ (x.wo w ew).2)⟩, n⟩) rfl rfl
theorem DenL.keep {v : List V} {d : List D} (h : DenL C H v d) (x : HpOk C H ws) (k : Keep C.wa H H') : DenL C H' v d :=
  h.step (fun a o e n => ⟨k a o e fun w ew => ⟨fun q => n (q ▸ (x.wo w ew).1), fun q => n (q ▸ (x.wo w ew).2)⟩, n⟩) rfl rfl
theorem HpOk.tup {xs : List V} {ds : List D} (x : HpOk C H ws) (n : H p = none) (l : DenL C H xs ds) : Den C (upd H p (.tup xs)) (.ref p) (.tup ds) :=
  .tup (.inl ⟨upd_same, x.out n⟩) (l.keep x (.new n))
theorem HpOk.lst {xs : List V} {ds : List D} (x : HpOk C H ws) (n : H p = none) (l : DenL C H xs ds) : Den C (upd H p (.lst xs)) (.ref p) (.lst ds) :=
  .lst upd_same (x.out n) (l.keep x (.new n))
end
/-- one list more that someone may change -/
def Cc.plus (C : Cc) (a : Addr) : Cc := ⟨C.K, fun b => C.O b ∨ b = a, C.wa⟩
/-- a list, if it is one, is new since H, and nothing within it is the list itself -/
def Fresh (C : Cc) (H H' : Hp) (v : V) (d : D) : Prop := ∀ ds, d = .lst ds → ∃ a xs, v = .ref a ∧ H a = none ∧ H' a = some (.lst xs) ∧ DenL (C.plus a) H' xs ds
theorem DenL.plus {C : Cc} {H H' : Hp} {a : Addr} {xs : List V} {ds : List D} {ws : WS} (x : HpOk C H ws) (n : H a = none) (k : Keep C.wa H H') (l : DenL C H xs ds) : DenL (C.plus a) H' xs ds :=
  l.step (C' := C.plus a) (fun b o e nb => ⟨k b o e fun w ew => ⟨fun q => nb (q ▸ (x.wo w ew).1), fun q => nb (q ▸ (x.wo w ew).2)⟩, fun z => Or.elim z nb fun q => by rw [q, n] at e; cases e⟩) rfl rfl
theorem Den.plus {C : Cc} {H H' : Hp} {a : Addr} {v : V} {d : D} {ws : WS} (x : HpOk C H ws) (n : H a = none) (k : Keep C.wa H H') (l : Den C H v d) : Den (C.plus a) H' v d :=
  l.step (C' := C.plus a) (fun b o e nb => ⟨k b o e fun w ew => ⟨fun q => nb (q ▸ (x.wo w ew).1), fun q => nb (q ▸ (x.wo w ew).2)⟩, fun z => Or.elim z nb fun q => by rw [q, n] at e; cases e⟩) rfl rfl
theorem HpOk.fresh {C : Cc} {H : Hp} {ws : WS} {p : Addr} {xs : List V} {ds : List D} (x : HpOk C H ws) (n : H p = none) (l : DenL C H xs ds) : Fresh C H (upd H p (.lst xs)) (.ref p) (.lst ds) := fun es e => by
  cases e
  exact ⟨p, xs, rfl, n, upd_same, l.plus x n (.new n)⟩
theorem Fresh.up {C : Cc} {H H1 H' : Hp} {ws : WS} {v : V} {d : D} (k1 : Keep C.wa H H1) (w : WOk C.wa H1 ws) (h : Fresh C H1 H' v d) : Fresh C H H' v d := fun ds e => by
  obtain ⟨a, xs, e1, e2, e3⟩ := h ds e
  exact ⟨a, xs, e1, k1.none w e2, e3⟩

/-! ### the frame's slots -/
structure Sx where
  K : PySem.W.Frag
  Oc : Addr → Prop
  wa : Option Wa
  /-- what may be lent -/
  Bo : Addr → Prop
def ownAt (σ : L2.St) (env : SEnv) (a : Addr) : Prop := ∃ (i : Nat) (d : D), env[i]? = some (.own d) ∧ σ[i]? = some (some (V.ref a))
abbrev Sx.cc (S : Sx) (σ : L2.St) (env : SEnv) : Cc := ⟨S.K, fun a => S.Oc a ∨ ownAt σ env a, S.wa⟩
structure EnvOk (S : Sx) (σ : L2.St) (env : SEnv) (H : Hp) : Prop where
  len : env.length = σ.length
  imm : ∀ (i : Nat) (d : D), env[i]? = some (.imm d) → ∃ v, σ[i]? = some (some v) ∧ Den (S.cc σ env) H v d
  own : ∀ (i : Nat) (d : D), env[i]? = some (.own d) → ∃ (a : Addr) (xs : List V) (ds : List D), σ[i]? = some (some (.ref a)) ∧ d = .lst ds ∧ H a = some (.lst xs) ∧ DenL (S.cc σ env) H xs ds ∧ ¬ S.Oc a
  bor : ∀ (i : Nat) (d : D), env[i]? = some (.bor d) → ∃ (a : Addr) (xs : List V) (ds : List D), σ[i]? = some (some (.ref a)) ∧ d = .lst ds ∧ H a = some (.lst xs) ∧ DenL (S.cc σ env) H xs ds ∧ (S.Oc a ∧ S.Bo a) ∧ ∀ w, S.wa = some w → a ≠ w.m ∧ a ≠ w.g
  inj : ∀ (i j : Nat) (d d' : D) (a : Addr), env[i]? = some (.own d) → env[j]? = some (.own d') → σ[i]? = some (some (V.ref a)) → σ[j]? = some (some (V.ref a)) → i = j
  wo : ∀ w, S.wa = some w → S.Oc w.m ∧ S.Oc w.g
  bo : (∀ a, S.Bo a → S.Oc a) ∧ ∀ w, S.wa = some w → S.Oc w.c
theorem EnvOk.keep {S : Sx} {σ : L2.St} {env : SEnv} {H H' : Hp} {ws : WS} (e : EnvOk S σ env H) (x : HpOk (S.cc σ env) H ws) (k : Keep S.wa H H') : EnvOk S σ env H' := by
  refine ⟨e.len, fun i d h => ?_, fun i d h => ?_, fun i d h => ?_, e.inj, e.wo, e.bo⟩
  · obtain ⟨v, h1, h2⟩ := e.imm i d h
    exact ⟨v, h1, h2.keep x k⟩
  · obtain ⟨a, xs, ds, h1, h2, h3, h4, h5⟩ := e.own i d h
    exact ⟨a, xs, ds, h1, h2, k a _ h3 fun w ew => ⟨fun q => h5 (q ▸ (e.wo w ew).1), fun q => h5 (q ▸ (e.wo w ew).2)⟩, h4.keep x k, h5⟩
  · obtain ⟨a, xs, ds, h1, h2, h3, h4, h5, h6⟩ := e.bor i d h
    exact ⟨a, xs, ds, h1, h2, k a _ h3 h6, h4.keep x k, h5, h6⟩
theorem DenM.keep {C : Cc} {H H' : Hp} {ws : WS} {m : Bool} {v : V} {d : D} (h : DenM C H m v d) (x : HpOk C H ws) (k : Keep C.wa H H') : DenM C H' m v d := by
  rcases h with h | ⟨e, a, xs, ds, rfl, rfl, h, l, n⟩
  · exact .inl (h.keep x k)
  · exact .inr ⟨e, a, xs, ds, rfl, rfl, k a _ h n, l.keep x k, n⟩
end Pc

set_option Elab.async false
set_option linter.all false
set_option maxRecDepth 100000
set_option maxHeartbeats 4000000
/-! # The small language beside the row's own syntax -/
namespace Pc
open PySem L2

/-- names: of the slots, of the defs, of the constants -/
structure Nx where
  N : List Str
  fn : Nat → Option Str
  cn : Nat → Option Str
  /-- is _law_draw known -/
  dr : Bool
/-- a block's scope, and whose cells were made at its entry -/
structure Kx where
  sc : Scope
  fn : Str → Bool
def visB (sc : Scope) (x : Str) : Bool := match sc.names.lookup x with
  | some .local => true
  | some .cell => true
  | some .free => true
  | _ => false
theorem vis_of {sc : Scope} {x : Str} (h : visB sc x = true) : Vis sc x := by
  unfold visB at h
  split at h <;> first | exact .inl (by assumption) | exact .inr (.inl (by assumption)) | exact .inr (.inr (by assumption)) | cases h
def glB (sc : Scope) (x : Str) : Bool := match sc.names.lookup x with
  | some .globalImplicit => true
  | _ => false
theorem gl_of {sc : Scope} {x : Str} (h : glB sc x = true) : sc.names.lookup x = some .globalImplicit := by
  unfold glB at h
  split at h <;> first | assumption | cases h
def locB (k : Kx) (x : Str) : Bool := match k.sc.names.lookup x with
  | some .local => true
  | some .cell => k.fn x
  | _ => false
theorem loc_of {k : Kx} {x : Str} (h : locB k x = true) : Loc k.sc x ∧ (k.fn x = true ∨ k.sc.names.lookup x = some .local) := by
  unfold locB at h
  split at h
  · exact ⟨.inl (by assumption), .inr (by assumption)⟩
  · exact ⟨.inr (by assumption), .inl h⟩
  · cases h
def plainN (x : Str) : Bool := (x == Str.ofString "__debug__") == false && (x == Str.ofString "__classdict__") == false && (x == Str.ofString "__name__") == false
def cstB : D → Const → Bool
  | .none, .none => true
  | .bool a, .bool b => a == b
  | .int a, .int b => a == b
  | .str a, .str b => a == b
  | _, _ => false
def biNm : Bi → Str
  | .len => Str.ofString "len" | .all => Str.ofString "all" | .any => Str.ofString "any" | .sum => Str.ofString "sum" | .min => Str.ofString "min" | .max => Str.ofString "max"
  | .sorted => Str.ofString "sorted" | .tuple => Str.ofString "tuple" | .list => Str.ofString "list" | .int => Str.ofString "int" | .abs => Str.ofString "abs" | .repr => Str.ofString "repr"
def tyNm : Ty → Str
  | .int => Str.ofString "int" | .bool => Str.ofString "bool" | .str => Str.ofString "str" | .tuple => Str.ofString "tuple" | .list => Str.ofString "list"
def chkTy (sc : Scope) (t : Ty) (e : Expr) : Bool := match e with
  | .Name x _ => x == tyNm t && glB sc x
  | _ => false
def chkTys (sc : Scope) : List Ty → List Expr → Bool
  | [], [] => true
  | t :: ts, e :: es => chkTy sc t e && chkTys sc ts es
  | _, _ => false
def isSt : Expr → Bool
  | .Starred .. => true
  | _ => false
section
variable (n : Nx)
mutual
def chkTg (k : Kx) : Tg → Expr → Bool
  | .nm i, e => match e with
    | .Name x _ => decide (n.N[i]? = some x) && locB k x
    | _ => false
  | .tp ts, e => match e with
    | .Tuple es _ _ => chkTgs k ts es
    | _ => false
def chkTgs (k : Kx) : List Tg → List Expr → Bool
  | [], es => match es with
    | [] => true
    | _ => false
  | t :: ts, es => match es with
    | e :: r => chkTg k t e && chkTgs k ts r
    | _ => false
end
mutual
def tgSl : Tg → List Nat
  | .nm i => [i]
  | .tp ts => tgSls ts
def tgSls : List Tg → List Nat
  | [] => []
  | t :: ts => tgSl t ++ tgSls ts
end
def blkK (sc scope : Scope) : Kx := ⟨relS scope sc, fun x => scope.names.lookup x == some .cell⟩
def ownN (own : List Nat) : List (Str × Nat) := own.map fun i => (n.N.getD i Str.empty, i)
mutual
def chk (k : Kx) : Ex → Expr → Bool
  | .var i, e => match e with
    | .Name x _ => decide (n.N[i]? = some x) && visB k.sc x && plainN x
    | _ => false
  | .glo g, e => match e with
    | .Name x _ => decide (n.cn g = some x) && glB k.sc x && plainN x
    | _ => false
  | .cst d, e => match e with
    | .Constant c _ _ => cstB d c
    | _ => false
  | .bin op a b, e => match e with
    | .BinOp l o r _ => decide (op = o) && chk k a l && chk k b r
    | _ => false
  | .neg a, e => match e with
    | .UnaryOp .USub x _ => chk k a x
    | _ => false
  | .not a, e => match e with
    | .UnaryOp .Not x _ => chk k a x
    | _ => false
  | .bop and es, e => match e with
    | .BoolOp .And xs _ => and && chkP k es xs
    | .BoolOp .Or xs _ => !and && chkP k es xs
    | _ => false
  | .cmp op a b, e => match e with
    | .Compare l [o] [r] _ => decide (op = o) && chk k a l && chk k b r
    | _ => false
  | .chain o1 o2 a b c, e => match e with
    | .Compare l [p1, p2] [x, y] _ => decide (o1 = p1) && decide (o2 = p2) && chk k a l && chk k b x && chk k c y
    | _ => false
  | .ife c a b, e => match e with
    | .IfExp t x y _ => chk k c t && chk k a x && chk k b y
    | _ => false
  | .tup es, e => match e with
    | .Tuple xs _ _ => chks k es xs
    | _ => false
  | .lst es, e => match e with
    | .List xs _ => chks k es xs
    | _ => false
  | .idx a i, e => match e with
    | .Subscript v s _ => chk k a v && chk k i s
    | _ => false
  | .slice a lo hi, e => match e with
    | .Subscript v (.Slice l h none _) _ => chk k a v && chkO k lo l && chkO k hi h
    | _ => false
  | .comp elt tg own src ifs, e => match e with
    | .ListComp x [⟨t, it, is, 0⟩] scope _ => blkC n.N k.sc scope (ownN n own) && (tgSl tg).all own.contains && chkS k t src it && chkTg n (blkK k.sc scope) tg t && chkP (blkK k.sc scope) ifs is && chk (blkK k.sc scope) elt x
    | _ => false
  | .comp2 elt t1 t2 own own2 s1 s2, e => match e with
    | .ListComp x [⟨u1, i1, [], 0⟩, ⟨u2, i2, [], 0⟩] scope _ => blkC n.N k.sc scope (ownN n own) && own2.all own.contains && (tgSl t1).all own.contains && (tgSl t2).all own2.contains && chkS k u1 s1 i1 && chkTg n (blkK k.sc scope) t1 u1
        && chkS (blkK k.sc scope) u2 s2 i2 && chkTg n (blkK k.sc scope) t2 u2 && chk (blkK k.sc scope) elt x
    | _ => false
  | .call f args, e => match e with
    | .Call (.Name x _) as [] _ => decide (n.fn f = some x) && glB k.sc x && plainN x && chkP k args as
    | _ => false
  | .bi b args, e => match e with
    | .Call (.Name x _) as [] _ => x == biNm b && glB k.sc x && chkP k args as
    | _ => false
  | .isI a ts, e => match e with
    | .Call (.Name x _) [v, t] [] _ => x == Str.ofString "isinstance" && glB k.sc x && chk k a v && (match ts, t with
        | [ty], .Name y q => chkTy k.sc ty (.Name y q)
        | ts, .Tuple es _ _ => chkTys k.sc ts es && ts.length ≤ 5 && !ts.isEmpty
        | _, _ => false)
    | _ => false
  | .draw m l, e => match e with
    | .Call (.Name x _) [v, w] [] _ => n.dr && x == Str.ofString "_law_draw" && glB k.sc x && chk k m v && chk k l w
    | _ => false
/-- with stars -/
def chks (k : Kx) : Exs → List Expr → Bool
  | .nil, es => match es with
    | [] => true
    | _ => false
  | .cons e r, es => match es with
    | x :: xs => chk k e x && chks k r xs
    | _ => false
  | .star e r, es => match es with
    | .Starred x _ :: xs => chk k e x && chks k r xs
    | _ => false
/-- without stars -/
def chkP (k : Kx) : Exs → List Expr → Bool
  | .nil, es => match es with
    | [] => true
    | _ => false
  | .cons e r, es => match es with
    | x :: xs => chk k e x && chkP k r xs
    | _ => false
  | .star e r, _ => false
def chkO (k : Kx) : Exs → Option Expr → Bool
  | .nil, o => o.isNone
  | .cons e .nil, o => match o with
    | some x => chk k e x
    | none => false
  | _, _ => false
/-- what is walked; t: the target -/
def chkS (k : Kx) (t : Expr) : Src → Expr → Bool
  | .ex e, x => chk k e x
  | .rng1 a, x => match x with
    | .Call (.Name f _) [v] [] _ => f == Str.ofString "range" && glB k.sc f && chk k a v
    | _ => false
  | .rng2 a b, x => match x with
    | .Call (.Name f _) [v, w] [] _ => f == Str.ofString "range" && glB k.sc f && chk k a v && chk k b w
    | _ => false
  | .enu a, x => match x with
    | .Call (.Name f _) [v] [] _ => f == Str.ofString "enumerate" && glB k.sc f && chk k a v && (match t with | .Tuple .. => true | _ => false)
    | _ => false
  | .zip a b, x => match x with
    | .Call (.Name f _) [v, w] [] _ => f == Str.ofString "zip" && glB k.sc f && chk k a v && chk k b w && (match t with | .Tuple .. => true | _ => false)
    | _ => false
end
def nmB (k : Kx) (i : Nat) (x : Str) : Bool := decide (n.N[i]? = some x) && locB k x
def chkNames (k : Kx) : List (Nat × Bool) → List Expr → Bool
  | [], es => match es with
    | [] => true
    | _ => false
  | (i, _) :: r, es => match es with
    | .Name x _ :: xs => nmB n k i x && chkNames k r xs
    | _ => false
def notComp : Expr → Bool
  | .ListComp .. | .SetComp .. | .DictComp .. => false
  | _ => true
def notTup : Expr → Bool
  | .Tuple .. => false
  | _ => true
mutual
def chkSt (k : Kx) : St → Stmt → Bool
  | .pass, s => match s with
    | .Pass _ => true
    | _ => false
  | .expr e, s => match s with
    | .Expr v _ => chk n k e v && notComp v
    | _ => false
  | .ret e, s => match s with
    | .Return (some v) _ => chk n k e v
    | _ => false
  | .retOwn i, s => match s with
    | .Return (some (.Name x _)) _ => decide (n.N[i]? = some x) && visB k.sc x && plainN x
    | _ => false
  | .retN, s => match s with
    | .Return none _ => true
    | _ => false
  | .asg i e, s => match s with
    | .Assign [.Name x _] v _ => nmB n k i x && chk n k e v
    | _ => false
  | .asgOwn i e, s => match s with
    | .Assign [.Name x _] v _ => nmB n k i x && chk n k e v
    | _ => false
  | .par is es, s => match s with
    | .Assign [.Tuple ts _ _] (.Tuple vs _ _) _ => chkNames n k is ts && chkP n k es vs && (vs.all (foldedForSure 8) || !vs.all (constantsAlone 8)) && decide ((is.map (·.1)).Nodup) && decide (is.length ≤ 100)
    | _ => false
  | .unp tg e, s => match s with
    | .Assign [t] v _ => chkTg n k tg t && chk n k e v && notTup v && !notTup t
    | _ => false
  | .aug i op e, s => match s with
    | .AugAssign (.Name x _) o v _ => decide (op = o) && nmB n k i x && visB k.sc x && plainN x && chk n k e v
    | _ => false
  | .app i e, s => match s with
    | .Expr (.Call (.Attribute (.Name x _) m ap) [v] [] cp) _ => m == Str.ofString "append" && decide (n.N[i]? = some x) && visB k.sc x && plainN x && chk n k e v && ap.endLine == cp.line
    | _ => false
  | .ext i e, s => match s with
    | .Expr (.Call (.Attribute (.Name x _) m ap) [v] [] cp) _ => m == Str.ofString "extend" && decide (n.N[i]? = some x) && visB k.sc x && plainN x && chk n k e v && ap.endLine == cp.line
    | _ => false
  | .pop tg i, s => match s with
    | .Assign [t] (.Call (.Attribute (.Name x _) m ap) [] [] cp) _ => m == Str.ofString "pop" && decide (n.N[i]? = some x) && visB k.sc x && plainN x && chkTg n k tg t && ap.endLine == cp.line
    | _ => false
  | .put i j e, s => match s with
    | .Assign [.Subscript (.Name x _) y _] v _ => decide (n.N[i]? = some x) && visB k.sc x && plainN x && chk n k j y && chk n k e v && notTup v
    | _ => false
  | .ifs c a b, s => match s with
    | .If t x y _ => chk n k c t && chkSts k a x && chkSts k b y
    | _ => false
  | .fors tg src body, s => match s with
    | .For t it b [] _ => chkS n k t src it && chkTg n k tg t && chkSts k body b
    | _ => false
  | .whl c body, s => match s with
    | .While t b [] _ => chk n k c t && chkSts k body b
    | _ => false
  | .raise, s => match s with
    | .Raise .. => true
    | _ => false
  | .freeze i, _ => false
def chkSts (k : Kx) : List St → List Stmt → Bool
  | [], ss => match ss with
    | [] => true
    | _ => false
  | .freeze i :: r, ss => chkSts k r ss
  | s :: r, ss => match ss with
    | x :: xs => chkSt k s x && chkSts k r xs
    | _ => false
end
end

/-! ### no star -/
theorem chk_plain {n : Nx} {k : Kx} {e : Ex} {x : Expr} (h : chk n k e x = true) : isSt x = false := by
  cases x <;> first | rfl | (exfalso; cases e <;> simp [chk] at h)
theorem star_plain {x : Expr} (h : isSt x = false) (es : List Expr) (env : PySem.Env) : starEach (x :: es) env = (false, eval x env) :: starEach es env := by
  cases x <;> first | rfl | cases h
theorem chkP_plain {n : Nx} {k : Kx} : ∀ {es : Exs} {xs : List Expr}, chkP n k es xs = true → ∀ env : PySem.Env, ∀ pos : Pos, (backTo pos (starEach xs env)).any (·.1) = false
  | .nil, xs, h, env, pos => by
    cases xs with
    | nil => rfl
    | cons x xs => simp [chkP] at h
  | .cons e r, xs, h, env, pos => by
    cases xs with
    | nil => simp [chkP] at h
    | cons x xs =>
      simp only [chkP, Bool.and_eq_true] at h
      rw [star_plain (chk_plain h.1)]
      have ih := chkP_plain h.2 env pos
      show (false || (backTo pos (starEach xs env)).any (·.1)) = false
      rw [ih]
      rfl
  | .star e r, xs, h, _, _ => by simp [chkP] at h
end Pc

set_option Elab.async false
set_option linter.all false
set_option maxRecDepth 100000
set_option maxHeartbeats 4000000
/-! # Operations on data, as the layer's rules have them -/
namespace Pc
open PySem L2 PyProof.Rows

theorem line_eq : line = sizeLine := by rw [sizeLine_eq]; rfl
/-- a two-place operation on data: what is asked, what comes -/
def rD2 (K : PySem.W.Frag) (f : D → D → Option D) : R2 := fun x y H Q => ∃ (C : Cc) (ws : WS) (d1 d2 d : D), C.K = K ∧ HpOk C H ws ∧ DenM C H true x d1 ∧ DenM C H true y d2 ∧ f d1 d2 = some d ∧
  ∀ v H', Keep C.wa H H' → HpOk C H' ws → Den C H' v d → Fresh C H H' v d → Q v H'
def noL (d : D) : Prop := ∀ ds, d ≠ .lst ds
theorem DenM.intV {C : Cc} {H : Hp} {m : Bool} {v : V} {i : Int} (h : DenM C H m v (.int i)) : v = .int i := by
  have h := h.den (fun _ => by intro z; cases z)
  cases h; rfl
theorem DenM.blV {C : Cc} {H : Hp} {m : Bool} {v : V} {i : Bool} (h : DenM C H m v (.bool i)) : v = .bl i := by
  have h := h.den (fun _ => by intro z; cases z)
  cases h; rfl
theorem DenM.strV {C : Cc} {H : Hp} {m : Bool} {v : V} {i : Str} (h : DenM C H m v (.str i)) : v = .str i := by
  have h := h.den (fun _ => by intro z; cases z)
  cases h; rfl
theorem DenM.nonV {C : Cc} {H : Hp} {m : Bool} {v : V} (h : DenM C H m v .none) : v = .non := by
  have h := h.den (fun _ => by intro z; cases z)
  cases h; rfl
theorem DenM.tupV {C : Cc} {H : Hp} {m : Bool} {v : V} {ds : List D} (h : DenM C H m v (.tup ds)) : ∃ a xs, v = .ref a ∧ SqT1 C H a xs ∧ DenL C H xs ds := by
  have h := h.den (fun _ => by intro z; cases z)
  cases h with
  | tup h' l => exact ⟨_, _, rfl, h', l⟩
theorem DenL.empty {C : Cc} {H : Hp} {vs : List V} {ds : List D} (h : DenL C H vs ds) : vs.isEmpty = ds.isEmpty := by
  cases h <;> rfl
section
variable {X : Cx}
theorem op_sub_bb : OpR X (binaryOp .Sub) (fun x y H Q => ∃ a b, x = .bl a ∧ y = .bl b ∧ Q (.int (PyProof.Rows.b2i a - PyProof.Rows.b2i b)) H) := by
  intro pins s σ H x y v u Q I rx ry h
  obtain ⟨a, b, rfl, rfl, q⟩ := h
  cases rx
  cases ry
  exact sub_bool ⟨.int _, H, I.tok _, ⟨_, rfl⟩, q⟩
theorem b2i_eq (b : Bool) : PyProof.Rows.b2i b = Pc.b2i b := by cases b <;> rfl
theorem op_bin (op : Operator) : OpR X (binaryOp op) (rD2 X.K (binFn op)) := by
  intro pins s σ H x y v u Q I rx ry h
  obtain ⟨C, ws, d1, d2, d, eK, HO, h1, h2, e, q⟩ := h
  have kr := Keep.refl C.wa H
  unfold binFn at e
  split at e
  · -- int + int
    cases e
    cases h1.intV; cases h2.intV
    exact op_add pins s σ H _ _ v u Q I rx ry ⟨_, _, rfl, rfl, q _ _ kr HO (.int _) (by intro _ z; cases z)⟩
  · cases e
    cases h1.intV; cases h2.intV
    exact op_sub pins s σ H _ _ v u Q I rx ry ⟨_, _, rfl, rfl, q _ _ kr HO (.int _) (by intro _ z; cases z)⟩
  · split at e
    · cases e
      cases h1.intV; cases h2.intV
      exact op_mulW pins s σ H _ _ v u Q I rx ry ⟨_, _, rfl, rfl, by assumption, q _ _ kr HO (.int _) (by intro _ z; cases z)⟩
    · cases e
  · split at e
    · cases e
      cases h1.intV; cases h2.intV
      exact op_fdivW pins s σ H _ _ v u Q I rx ry ⟨_, _, rfl, rfl, by assumption, q _ _ kr HO (.int _) (by intro _ z; cases z)⟩
    · cases e
  · split at e
    · cases e
      cases h1.intV; cases h2.intV
      exact op_mod pins s σ H _ _ v u Q I rx ry ⟨_, _, rfl, rfl, by assumption, q _ _ kr HO (.int _) (by intro _ z; cases z)⟩
    · cases e
  · split at e
    · rename_i hc
      cases e
      cases h1.intV; cases h2.intV
      exact op_pow pins s σ H _ _ v u Q I rx ry ⟨_, _, rfl, rfl, ⟨hc.1, by omega, hc.2.2⟩, q _ _ kr HO (.int _) (by intro _ z; cases z)⟩
    · cases e
  · split at e
    · rename_i hc
      cases e
      cases h1.strV; cases h2.strV
      exact op_add_str pins s σ H _ _ v u Q I rx ry ⟨_, _, rfl, rfl, by rw [← line_eq]; exact hc, q _ _ kr HO (.str _) (by intro _ z; cases z)⟩
    · cases e
  · split at e
    · rename_i hc
      cases e
      obtain ⟨a, xs, rfl, s1, l1⟩ := h1.tupV
      obtain ⟨b, ys, rfl, s2, l2⟩ := h2.tupV
      have ex : xs.length + ys.length ≤ sizeLine := by rw [l1.length, l2.length, ← line_eq]; exact hc
      refine op_catA pins s σ H _ _ v u Q I rx ry ⟨a, b, xs, ys, rfl, rfl, eK ▸ s1.sq, eK ▸ s2.sq, ex, fun z => ?_, fun _ z => ?_, fun _ _ p np => ?_⟩
      · subst z
        cases l1
        exact q _ _ kr HO (.tup s2 l2) (by intro _ z; cases z)
      · subst z
        cases l2
        rw [List.append_nil] at q
        exact q _ _ kr HO (.tup s1 l1) (by intro _ z; cases z)
      · exact q _ _ (.new np) (HO.new np) (HO.tup np (l1.append l2)) (by intro _ z; cases z)
    · cases e
  · split at e
    · rename_i hc
      cases e
      obtain ⟨a, xs, rfl, s1, l1⟩ := h1.list
      obtain ⟨b, ys, rfl, s2, l2⟩ := h2.list
      have ex : xs.length + ys.length ≤ sizeLine := by rw [l1.length, l2.length, ← line_eq]; exact hc
      exact op_cat pins s σ H _ _ v u Q I rx ry ⟨a, b, xs, ys, rfl, rfl, s1, s2, ex, fun p np => q _ _ (.new np) (HO.new np) (HO.lst np (l1.append l2)) (HO.fresh np (l1.append l2))⟩
    · cases e
  · split at e
    · rename_i hc
      cases e
      cases h2.intV
      obtain ⟨a, xs, rfl, s1, l1⟩ := h1.list
      exact op_rep pins s σ H _ _ v u Q I rx ry ⟨a, _, xs, rfl, rfl, s1, hc.1, hc.2.1, by rw [l1.length, ← line_eq]; exact hc.2.2, fun p np => q _ _ (.new np) (HO.new np) (HO.lst np (l1.rep _)) (HO.fresh np (l1.rep _))⟩
    · cases e
  · split at e
    · rename_i hc
      cases e
      cases h2.intV
      obtain ⟨a, xs, rfl, s1, l1⟩ := h1.tupV
      have ne : xs ≠ [] := fun z => hc.1 (by subst z; cases l1; rfl)
      exact op_repT pins s σ H _ _ v u Q I rx ry ⟨a, _, xs, rfl, rfl, eK ▸ s1.sq, ne, hc.2.1, hc.2.2.1, by rw [l1.length]; exact hc.2.2.2, fun p np => q _ _ (.new np) (HO.new np) (HO.tup np (l1.rep _)) (by intro _ z; cases z)⟩
    · cases e
  · cases e
    cases h1.blV; cases h2.blV
    exact op_sub_bb pins s σ H _ _ v u Q I rx ry ⟨_, _, rfl, rfl, by rw [b2i_eq, b2i_eq]; exact q _ _ kr HO (.int _) (by intro _ z; cases z)⟩
  · cases e
/-! ### comparisons -/
def rC2 (K : PySem.W.Frag) (f : D → D → Option Bool) : R2 := fun x y H Q => ∃ (C : Cc) (ws : WS) (d1 d2 : D) (b : Bool), C.K = K ∧ HpOk C H ws ∧ DenM C H true x d1 ∧ DenM C H true y d2 ∧ f d1 d2 = some b ∧ Q (.bl b) H
theorem eqFn_sound {C : Cc} {H : Hp} {x y : V} {d1 d2 : D} {b : Bool} (h1 : DenM C H true x d1) (h2 : DenM C H true y d2) (e : eqFn d1 d2 = some b) :
    (∃ p q, Dp C.K H x p ∧ Dp C.K H y q ∧ SeqAt.shaped p = true ∧ SeqAt.shaped q = true ∧ b = PyData.eqv p q) ∨ (∃ z, x = .str z ∧ y = .str z ∧ b = true) := by
  unfold eqFn at e
  split at e
  · split at e
    · rename_i a c hs
      cases e
      have hs := D.same_eq hs
      subst hs
      have k1 := h1.den (fun _ => by intro z; cases z)
      have k2 := h2.den (fun _ => by intro z; cases z)
      cases k1 with
      | rep e1 => cases k2 with
        | rep e2 =>
          rw [e1] at e2
          cases e2
          exact .inr ⟨_, rfl, rfl, rfl⟩
    · cases e
  · split at e
    · rename_i p q e1 e2
      split at e
      · rename_i hs
        cases e
        rw [Bool.and_eq_true] at hs
        exact .inl ⟨p, q, h1.dp e1, h2.dp e2, hs.1, hs.2, rfl⟩
      · cases e
    · cases e
theorem flatV_of {C : Cc} {H : Hp} {v : V} {d : D} (h : Den C H v d) (f : flat d = true) : flatV v = true := by
  cases h <;> first | rfl | cases f
theorem flats_of {C : Cc} {H : Hp} : ∀ {vs : List V} {ds : List D}, DenL C H vs ds → ds.all flat = true → vs.all flatV = true
  | _, _, .nil, _ => rfl
  | _, _, .cons h t, f => by
    rw [List.all_cons, Bool.and_eq_true] at f ⊢
    exact ⟨flatV_of h f.1, flats_of t f.2⟩
theorem eqV_of {C : Cc} {H : Hp} {v u : V} {d e : D} (h : Den C H v d) (h' : Den C H u e) (f : flat d = true) (f' : flat e = true) : eqV v u = flatEq d e := by
  cases h <;> first | (cases f; done) | (cases h' <;> first | rfl | (cases f'; done))
theorem inV_of {C : Cc} {H : Hp} {u : V} {e : D} (h' : Den C H u e) (f' : flat e = true) : ∀ {vs : List V} {ds : List D}, DenL C H vs ds → ds.all flat = true → inV u vs = ds.any fun z => flatEq z e
  | _, _, .nil, _ => rfl
  | _, _, .cons h t, f => by
    rw [List.all_cons, Bool.and_eq_true] at f
    have ih := inV_of h' f' t f.2
    unfold inV at ih ⊢
    rw [List.any_cons, List.any_cons, ih, eqV_of h h' f.1 f']
theorem lexLt_eq : ∀ a b : List Int, HT.lexLt a b = lexLt a b
  | [], [] => rfl
  | [], _ :: _ => rfl
  | _ :: _, [] => rfl
  | x :: xs, y :: ys => by
    unfold HT.lexLt lexLt
    rw [lexLt_eq xs ys]
theorem lexAt_shift {e r : Nat → Bool} {z : Bool} : ∀ (k i : Nat), Ob.lexAt (fun j => e (j + 1)) (fun j => r (j + 1)) z i k = Ob.lexAt e r z (i + 1) k
  | 0, _ => rfl
  | k + 1, i => by
    rw [Ob.lexAt_succ, Ob.lexAt_succ, lexAt_shift k (i + 1)]
theorem lexLe_eq : ∀ ns ms : List Int, Ob.lexAt (fun j => decide (ns.getD j 0 = ms.getD j 0)) (fun j => decide (ns.getD j 0 ≤ ms.getD j 0)) (decide (ns.length ≤ ms.length)) 0 (min ns.length ms.length) = !lexLt ms ns
  | [], [] => rfl
  | [], _ :: _ => by simp [Ob.lexAt, lexLt]
  | _ :: _, [] => by simp [Ob.lexAt, lexLt]
  | x :: xs, y :: ys => by
    have ih := lexLe_eq xs ys
    have em : min (x :: xs).length (y :: ys).length = min xs.length ys.length + 1 := by simp only [List.length_cons]; omega
    rw [em, Ob.lexAt_succ]
    have sh := lexAt_shift (e := fun j => decide ((x :: xs).getD j 0 = (y :: ys).getD j 0)) (r := fun j => decide ((x :: xs).getD j 0 ≤ (y :: ys).getD j 0)) (z := decide ((x :: xs).length ≤ (y :: ys).length)) (min xs.length ys.length) 0
    have ez : decide ((x :: xs).length ≤ (y :: ys).length) = decide (xs.length ≤ ys.length) := by simp only [List.length_cons]; congr 1; simp
    rw [← sh, ez]
    have ih' : Ob.lexAt (fun j => decide ((x :: xs).getD (j + 1) 0 = (y :: ys).getD (j + 1) 0)) (fun j => decide ((x :: xs).getD (j + 1) 0 ≤ (y :: ys).getD (j + 1) 0)) (decide (xs.length ≤ ys.length)) 0 (min xs.length ys.length) = !lexLt ys xs := ih
    rw [ih']
    show (if decide (x = y) = true then !lexLt ys xs else decide (x ≤ y)) = !(if y = x then lexLt ys xs else decide (y < x))
    by_cases h : x = y
    · subst h
      rw [if_pos (by simp), if_pos rfl]
    · have h' : ¬ y = x := fun z => h z.symm
      rw [if_neg (by simpa using h), if_neg h']
      by_cases hlt : x ≤ y
      · have : ¬ y < x := by omega
        simp [hlt, this]
      · have : y < x := by omega
        simp [hlt, this]
theorem op_cmp (op : CmpOp) (hu : X.A.units + 64 < cLine) : OpR X (compareOp op) (rC2 X.K (cmpFn op)) := by
  intro pins s σ H x y v u Q I rx ry h
  obtain ⟨C, ws, d1, d2, b, eK, HO, h1, h2, e, q⟩ := h
  unfold cmpFn at e
  split at e
  · rcases eqFn_sound h1 h2 e with ⟨p, p', e1, e2, e3, e4, rfl⟩ | ⟨z, rfl, rfl, rfl⟩
    · exact op_eqD hu pins s σ H _ _ v u Q I rx ry ⟨p, p', eK ▸ e1, eK ▸ e2, e3, e4, q⟩
    · exact op_eq pins s σ H _ _ v u Q I rx ry ⟨rfl, by rw [decide_eq_true rfl]; exact q⟩
  · rw [Option.map_eq_some_iff] at e
    obtain ⟨c, e, rfl⟩ := e
    rcases eqFn_sound h1 h2 e with ⟨p, p', e1, e2, e3, e4, rfl⟩ | ⟨z, rfl, rfl, rfl⟩
    · exact op_neD hu pins s σ H _ _ v u Q I rx ry ⟨p, p', eK ▸ e1, eK ▸ e2, e3, e4, q⟩
    · exact op_ne pins s σ H _ _ v u Q I rx ry ⟨rfl, by rw [decide_eq_true rfl]; exact q⟩
  · cases e; cases h1.intV; cases h2.intV
    exact op_lt pins s σ H _ _ v u Q I rx ry ⟨_, _, rfl, rfl, q⟩
  · cases e; cases h1.intV; cases h2.intV
    exact op_le pins s σ H _ _ v u Q I rx ry ⟨_, _, rfl, rfl, q⟩
  · cases e; cases h1.intV; cases h2.intV
    exact op_gt pins s σ H _ _ v u Q I rx ry ⟨_, _, rfl, rfl, q⟩
  · cases e; cases h1.intV; cases h2.intV
    exact op_ge pins s σ H _ _ v u Q I rx ry ⟨_, _, rfl, rfl, q⟩
  · split at e
    · rename_i a c e1 e2
      cases e
      obtain ⟨p, xs, rfl, s1, l1⟩ := h1.tupV
      obtain ⟨p', ys, rfl, s2, l2⟩ := h2.tupV
      have ex := l1.intsV e1
      have ey := l2.intsV e2
      subst ex ey
      exact op_ltT (by omega) pins s σ H _ _ v u Q I rx ry ⟨p, p', a, c, rfl, rfl, eK ▸ s1.sq, eK ▸ s2.sq, by rw [lexLt_eq]; exact q⟩
    · cases e
  · split at e
    · rename_i a c e1 e2
      cases e
      obtain ⟨p, xs, rfl, s1, l1⟩ := h1.tupV
      obtain ⟨p', ys, rfl, s2, l2⟩ := h2.tupV
      have ex := l1.intsV e1
      have ey := l2.intsV e2
      subst ex ey
      exact op_leT (by omega) pins s σ H _ _ v u Q I rx ry ⟨p, p', a, c, rfl, rfl, eK ▸ s1.sq, eK ▸ s2.sq, by rw [lexLe_eq]; exact q⟩
    · cases e
  · cases e
    cases h2.nonV
    refine op_isN pins s σ H _ _ v u Q I rx ry ⟨rfl, ?_⟩
    rcases h1 with h1 | ⟨_, a, xs, es, rfl, rfl, h, l, _⟩
    · cases h1 <;> exact q
    · exact q
  · cases e
    cases h2.nonV
    refine op_notN pins s σ H _ _ v u Q I rx ry ⟨rfl, ?_⟩
    rcases h1 with h1 | ⟨_, a, xs, es, rfl, rfl, h, l, _⟩
    · cases h1 <;> exact q
    · exact q
  · cases e; cases h1.blV; cases h2.blV
    exact op_is_bl pins s σ H _ _ v u Q I rx ry ⟨_, _, rfl, rfl, q⟩
  · cases e; cases h1.blV; cases h2.blV
    exact op_isnot_bl pins s σ H _ _ v u Q I rx ry ⟨_, _, rfl, rfl, q⟩
  · unfold inFn at e
    split at e
    · rename_i ys ey
      split at e
      · rename_i hf
        cases e
        rw [Bool.and_eq_true] at hf
        have h1' := h1.den (fun ds z => by rw [z] at hf; cases hf.1)
        have f1 := flatV_of h1' hf.1
        cases d2 <;> simp only [elemsOf, Option.some.injEq, reduceCtorEq] at ey
        · subst ey
          obtain ⟨p', zs, rfl, s2, l2⟩ := h2.tupV
          exact op_in_seq pins s σ H _ _ v u Q I rx ry ⟨p', zs, rfl, .inr (eK ▸ s2.sq), f1, flats_of l2 hf.2, by rw [inV_of h1' hf.1 l2 hf.2]; exact q⟩
        · subst ey
          obtain ⟨p', zs, rfl, s2, l2⟩ := h2.list
          exact op_in_seq pins s σ H _ _ v u Q I rx ry ⟨p', zs, rfl, .inl (.of s2), f1, flats_of l2 hf.2, by rw [inV_of h1' hf.1 l2 hf.2]; exact q⟩
      · cases e
    · cases e
  · rw [Option.map_eq_some_iff] at e
    obtain ⟨c, e, rfl⟩ := e
    unfold inFn at e
    split at e
    · rename_i ys ey
      split at e
      · rename_i hf
        cases e
        rw [Bool.and_eq_true] at hf
        have h1' := h1.den (fun ds z => by rw [z] at hf; cases hf.1)
        have f1 := flatV_of h1' hf.1
        cases d2 <;> simp only [elemsOf, Option.some.injEq, reduceCtorEq] at ey
        · subst ey
          obtain ⟨p', zs, rfl, s2, l2⟩ := h2.tupV
          exact op_notIn_seq pins s σ H _ _ v u Q I rx ry ⟨p', zs, rfl, .inr (eK ▸ s2.sq), f1, flats_of l2 hf.2, by rw [inV_of h1' hf.1 l2 hf.2]; exact q⟩
        · subst ey
          obtain ⟨p', zs, rfl, s2, l2⟩ := h2.list
          exact op_notIn_seq pins s σ H _ _ v u Q I rx ry ⟨p', zs, rfl, .inl (.of s2), f1, flats_of l2 hf.2, by rw [inV_of h1' hf.1 l2 hf.2]; exact q⟩
      · cases e
    · cases e
  · cases e
end
end Pc

set_option Elab.async false
set_option linter.all false
set_option maxRecDepth 100000
set_option maxHeartbeats 4000000
/-! # Built-in functions on data -/
namespace Pc
open PySem L2 PyProof.Rows

inductive DenMs (C : Cc) (H : Hp) : List V → List D → Prop where
  | nil : DenMs C H [] []
  | cons {v : V} {vs : List V} {d : D} {ds : List D} (h : DenM C H true v d) (t : DenMs C H vs ds) : DenMs C H (v :: vs) (d :: ds)
theorem DenMs.one {C : Cc} {H : Hp} {vs : List V} {d : D} (h : DenMs C H vs [d]) : ∃ v, vs = [v] ∧ DenM C H true v d := by
  cases h with
  | cons h t => cases t; exact ⟨_, rfl, h⟩
theorem DenMs.two {C : Cc} {H : Hp} {vs : List V} {d e : D} (h : DenMs C H vs [d, e]) : ∃ v u, vs = [v, u] ∧ DenM C H true v d ∧ DenM C H true u e := by
  cases h with
  | cons h t => cases t with
    | cons h' t => cases t; exact ⟨_, _, rfl, h, h'⟩
theorem DenMs.keep {C : Cc} {H H' : Hp} {ws : WS} (x : HpOk C H ws) (k : Keep C.wa H H') : ∀ {vs : List V} {ds : List D}, DenMs C H vs ds → DenMs C H' vs ds
  | _, _, .nil => .nil
  | _, _, .cons h t => .cons (h.keep x k) (DenMs.keep x k t)
def rDs (K : PySem.W.Frag) (f : List D → Option D) : List V → Hp → VK → Prop := fun vs H Q => ∃ (C : Cc) (ws : WS) (ds : List D) (d : D), C.K = K ∧ HpOk C H ws ∧ DenMs C H vs ds ∧ f ds = some d ∧
  ∀ v H', Keep C.wa H H' → HpOk C H' ws → Den C H' v d → Fresh C H H' v d → Q v H'

/-! ### least, greatest, sorted -/
theorem minI_spec : ∀ {ns : List Int} {k : Int}, minI ns = some k → k ∈ ns ∧ ∀ y ∈ ns, k ≤ y
  | [], _, e => by cases e
  | i :: r, k, e => by
    unfold minI at e
    cases q : minI r with
    | none =>
      rw [q] at e
      cases e
      cases r with
      | nil => simp
      | cons j t =>
        unfold minI at q
        split at q <;> cases q
    | some m =>
      rw [q] at e
      obtain ⟨h1, h2⟩ := minI_spec q
      simp only [Option.some.injEq] at e
      subst e
      split
      · exact ⟨List.mem_cons_of_mem _ h1, fun y hy => by
          rcases List.mem_cons.mp hy with rfl | hy
          · omega
          · exact h2 y hy⟩
      · exact ⟨List.mem_cons_self, fun y hy => by
          rcases List.mem_cons.mp hy with rfl | hy
          · omega
          · have := h2 y hy
            omega⟩
theorem maxI_spec : ∀ {ns : List Int} {k : Int}, maxI ns = some k → k ∈ ns ∧ ∀ y ∈ ns, y ≤ k
  | [], _, e => by cases e
  | i :: r, k, e => by
    unfold maxI at e
    cases q : maxI r with
    | none =>
      rw [q] at e
      cases e
      cases r with
      | nil => simp
      | cons j t =>
        unfold maxI at q
        split at q <;> cases q
    | some m =>
      rw [q] at e
      obtain ⟨h1, h2⟩ := maxI_spec q
      simp only [Option.some.injEq] at e
      subst e
      split
      · exact ⟨List.mem_cons_of_mem _ h1, fun y hy => by
          rcases List.mem_cons.mp hy with rfl | hy
          · omega
          · exact h2 y hy⟩
      · exact ⟨List.mem_cons_self, fun y hy => by
          rcases List.mem_cons.mp hy with rfl | hy
          · omega
          · have := h2 y hy
            omega⟩
theorem insertI_perm (i : Int) : ∀ l : List Int, (insertI i l).Perm (i :: l)
  | [] => List.Perm.refl _
  | j :: r => by
    unfold insertI
    split
    · exact List.Perm.refl _
    · exact ((insertI_perm i r).cons j).trans (List.Perm.swap _ _ _)
theorem sortI_perm : ∀ l : List Int, (sortI l).Perm l
  | [] => List.Perm.refl _
  | i :: r => (insertI_perm i _).trans ((sortI_perm r).cons i)
theorem insertI_sorted (i : Int) : ∀ l : List Int, l.Pairwise (· ≤ ·) → (insertI i l).Pairwise (· ≤ ·)
  | [], _ => by simp [insertI]
  | j :: r, h => by
    unfold insertI
    rw [List.pairwise_cons] at h
    split
    · rename_i hc
      refine List.pairwise_cons.mpr ⟨fun y hy => ?_, List.pairwise_cons.mpr h⟩
      rcases List.mem_cons.mp hy with rfl | hy
      · exact hc
      · exact Int.le_trans hc (h.1 y hy)
    · rename_i hc
      refine List.pairwise_cons.mpr ⟨fun y hy => ?_, insertI_sorted i r h.2⟩
      rcases List.mem_cons.mp ((insertI_perm i r).mem_iff.mp hy) with rfl | hy
      · omega
      · exact h.1 y hy
theorem sortI_sorted : ∀ l : List Int, (sortI l).Pairwise (· ≤ ·)
  | [] => List.Pairwise.nil
  | i :: r => insertI_sorted i _ (sortI_sorted r)
theorem sorted_one : ∀ {a b : List Int}, a.Perm b → a.Pairwise (· ≤ ·) → b.Pairwise (· ≤ ·) → a = b
  | [], b, p, _, _ => (List.perm_nil.mp p.symm).symm
  | x :: xs, [], p, _, _ => by
    have := p.length_eq
    simp at this
  | x :: xs, y :: ys, p, h1, h2 => by
    rw [List.pairwise_cons] at h1 h2
    have e : x = y := by
      have m1 : x ∈ y :: ys := p.mem_iff.mp List.mem_cons_self
      have m2 : y ∈ x :: xs := p.mem_iff.mpr List.mem_cons_self
      rcases List.mem_cons.mp m1 with e | m1
      · exact e
      · rcases List.mem_cons.mp m2 with e | m2
        · exact e.symm
        · exact Int.le_antisymm (h1.1 y m2) (h2.1 x m1)
    subst e
    rw [sorted_one ((List.perm_cons x).mp p) h1.2 h2.2]
theorem sortI_one {a ns : List Int} (p : a.Perm ns) (h : a.Pairwise (· ≤ ·)) : a = sortI ns := sorted_one (p.trans (sortI_perm ns).symm) h (sortI_sorted ns)

section
variable {prog : Program} {w : World} {A : Around} {E : Value → Shared → Prop} {s : Shared}
/-- a tuple's items, collected -/
theorem collect_tup {l : Addr} {vs : List Value} {Q : List Value → Shared → Prop} (hl : IsTup s.heap l vs.toArray)
    (h : Q vs { s with heap := (s.heap.push (seqObj "list" #[] 0)).update s.heap.objs.size (Obj.mapSeq (· ++ vs.toArray)) }) (hsz : vs.length ≤ sizeLine) :
    wpAny (model prog w) A (collect (.ref l)) Q E s := by
  obtain ⟨ob, g0, cl, m, dt⟩ := id hl
  have kept : (s.heap.push (seqObj "list" #[] 0)).get? l = some ob := Heap.get?_push_of_some _ g0
  have there : (s.heap.push (seqObj "list" #[] 0)).get? s.heap.objs.size = some (seqObj "list" #[] 0) := Heap.get?_push_size _ rfl
  unfold collect
  refine wpAny_bind (wpAny_runValue (codeAny_builtin entry_proto_collect' ?_))
  show wpAny _ _ (newList [] >>= fun z => again (.builtin "list.__iadd__" ⟨[z, .ref l], []⟩)) _ _ s
  refine wpAny_bind (wpAny_newList (wpAny_pure ⟨Code.quiet_builtin _ (by decide +kernel), codeAny_builtin entry_list_iadd' ?_⟩))
  show wpAny _ _ (Builtin.List.listExtendWith (.ref s.heap.objs.size) (.ref l) (.ref s.heap.objs.size)) _ _ { s with heap := s.heap.push (seqObj "list" #[] 0) }
  unfold Builtin.List.listExtendWith
  refine wpAny_bind (wpAny_typeOf (T := "tuple") ⟨ob, kept, cl⟩ ?_)
  rw [if_pos (by rw [show (Value.type "tuple" == Value.type "tuple") = true from rfl]; simp)]
  refine wpAny_bind (listItems_at kept dt ?_)
  refine wpAny_bind (listItems_at (xs := #[]) (n := 0) there rfl ?_)
  rw [if_neg (by simp)]
  refine wpAny_bind (listUpdate_at (xs := #[]) (n := 0) there rfl ?_ (Nat.zero_le _) (by show (#[] ++ vs.toArray).size ≤ sizeLine + 1; simp only [Array.size_append, List.size_toArray, List.length_nil]; omega))
  refine wpAny_pure ?_
  show wpAny (model prog w) A (load s.heap.objs.size >>= fun o => match o.data with
      | .seq xs _ => pure xs.toList
      | _ => unsupported "internal:collect") Q E { s with heap := (s.heap.push (seqObj "list" #[] 0)).update s.heap.objs.size (Obj.mapSeq (· ++ vs.toArray)) }
  refine wpAny_bind (wpAny_load (get?_update_seq there _) ?_)
  show wpAny _ _ (pure ((#[] : Array Value) ++ vs.toArray).toList) Q E _
  rw [show ((#[] : Array Value) ++ vs.toArray).toList = vs by simp]
  exact wpAny_pure h
end
section
variable {X : Cx}
theorem vals1' {x : V} {us : List Value} (r : Vals [x] us) : ∃ u, us = [u] ∧ RelV x u := by
  cases r with
  | cons r t => cases t; exact ⟨_, rfl, r⟩
/-- sorted(t), t a tuple of ints -/
theorem cr_sortedT' : CallR X (.builtin "sorted") (fun vs H Q => ∃ (a : Addr) (ns : List Int), vs = [V.ref a] ∧ SqT X.K H a (ns.map V.int) ∧
    ∀ (ns' : List Int) (p : Addr), ns'.Perm ns → ns'.Pairwise (· ≤ ·) → H p = none → Q (.ref p) (upd H p (.lst (ns'.map V.int)))) := by
  intro pins s σ H vs us Q I r h
  obtain ⟨a, ns, rfl, sq, q⟩ := h
  obtain ⟨its, rv, ht, hz⟩ := I.tuple sq
  obtain ⟨u, rfl, ru⟩ := vals1' r
  obtain rfl : u = Value.ref a := ru
  have hi := rv.ints
  have hz' : its.length ≤ sizeLine := by rw [← rv.length]; exact hz
  have sz : ((s.heap.push (seqObj "list" #[] 0)).update s.heap.objs.size (Obj.mapSeq (· ++ its.toArray))).objs.size = s.heap.objs.size + 1 := by
    rw [Heap.size_update, size_push']
  have at1 : (((s.heap.push (seqObj "list" #[] 0)).update s.heap.objs.size (Obj.mapSeq (· ++ its.toArray))).push (seqObj "list" its.toArray 0)).get? (s.heap.objs.size + 1) = some (seqObj "list" its.toArray 0) := by
    rw [← sz]
    exact Heap.get?_push_size _ rfl
  refine Calls.call_function_entry kind_sorted plain_sorted entry_sorted (args_sorted1 _) ?_
  unfold Builtin.«sorted»
  refine wpAny_bind (m := checkCount "sorted" 1 1 _) (wpAny_pure (wpAny_bind (collect_tup ht ?_ hz')))
  refine wpAny_bind (wpAny_newList ?_ hz')
  show wpAny _ _ _ _ _ { s with heap := ((s.heap.push (seqObj "list" #[] 0)).update s.heap.objs.size (Obj.mapSeq (· ++ its.toArray))).push (seqObj "list" its.toArray 0) }
  rw [sz]
  refine wpAny_bind (wpAny_holding (wpAny_call_entry slot_list_sort ⟨_, at1, rfl⟩ entry_list_sort (SrtO.list_sort_ord SrtO.swo_int at1 hz' (fun h2 => SrtO.ints_sortable hi h2) fun out h1 h2 => ⟨_, rfl, ?_⟩) (args_list_sort _)))
  obtain ⟨k1, k2, k3⟩ := SrtO.ints_out hi h1 h2
  obtain ⟨ep, he'⟩ := PyProof.Rows.sortedAll_at s.heap its out.toArray
  have hlen : ((out.map SrtO.iv).map V.int).length ≤ sizeLine := by
    rw [List.length_map, k2.length_eq, ← List.length_map (f := V.int)]
    exact hz
  exact wpAny_pure ⟨_, rfl, .ref _, upd H (s.heap.objs.size + 1) (.lst ((out.map SrtO.iv).map V.int)), I.laid (t' := s.toks) (fun _ _ => PyProof.Rows.sortedAll_old) (Nat.le_succ _) ⟨hlen, out, ep, vals_of_ints k1, he'⟩, rfl, q _ _ k2 k3 (I.hok.fresh (Nat.le_succ _))⟩
theorem readsI {h : Heap} : ∀ {us : List Value} {ns : List Int}, Vals (ns.map V.int) us → ReadsAll h us (ns.map PyData.int) []
  | _, [], .nil => .nil
  | _, n :: ns, .cons r t => by
    obtain ⟨tk, rfl⟩ := r
    exact .cons (as := []) (bs := []) (.int n tk) (readsI t)
theorem depthI : ∀ ns : List Int, PyData.depthAll (ns.map PyData.int) = 0
  | [] => rfl
  | n :: r => by simp [PyData.depthAll, PyData.depth, depthI r]
theorem alikeI (ns : List Int) : PySem.W.AlikeAll (ns.map PyData.int) := by
  refine ⟨fun x hx y hy => ?_, fun x hx => ?_⟩
  · obtain ⟨i, _, rfl⟩ := List.mem_map.mp hx
    obtain ⟨j, _, rfl⟩ := List.mem_map.mp hy
    rfl
  · obtain ⟨i, _, rfl⟩ := List.mem_map.mp hx
    intro z
    cases z
theorem foldMin : ∀ (ns : List Int) (n : Int), minI (n :: ns) = some (ns.foldl min n)
  | [], n => rfl
  | m :: r, n => by
    have h1 := foldMin r m
    have h2 := foldMin r (min n m)
    have e : minI (n :: m :: r) = (match minI (m :: r) with | none => some n | some k => some (if k < n then k else n)) := rfl
    rw [e]
    rw [List.foldl_cons, ← h2]
    unfold minI
    cases q : minI r with
    | none =>
      simp only [Option.some.injEq]
      rw [Int.min_def]; split <;> split <;> omega
    | some k =>
      simp only [Option.some.injEq]
      rw [Int.min_def]; repeat' split
      all_goals omega
theorem foldMax : ∀ (ns : List Int) (n : Int), maxI (n :: ns) = some (ns.foldl max n)
  | [], n => rfl
  | m :: r, n => by
    have h1 := foldMax r m
    have h2 := foldMax r (max n m)
    have e : maxI (n :: m :: r) = (match maxI (m :: r) with | none => some n | some k => some (if k > n then k else n)) := rfl
    rw [e]
    rw [List.foldl_cons, ← h2]
    unfold maxI
    cases q : maxI r with
    | none =>
      simp only [Option.some.injEq]
      rw [Int.max_def]; split <;> split <;> omega
    | some k =>
      simp only [Option.some.injEq]
      rw [Int.max_def]; repeat' split
      all_goals omega
theorem cr_minT (hc : X.calm = true) (hu : X.A.units + 64 < cLine) : CallR X (.builtin "min") (fun vs H Q => ∃ (a : Addr) (ns : List Int) (k : Int), vs = [V.ref a] ∧ SqT X.K H a (ns.map V.int) ∧ minI ns = some k ∧ Q (.int k) H) := by
  intro pins s σ H vs us Q I r h
  obtain ⟨a, ns, k, rfl, sq, e, q⟩ := h
  obtain ⟨its, rv, ht, hz⟩ := I.tuple sq
  obtain ⟨u, rfl, ru⟩ := vals1' r
  obtain rfl : u = Value.ref a := ru
  cases ns with
  | nil => cases e
  | cons n ns =>
    have hr := readsI (h := s.heap) rv
    rw [List.map_cons] at hr
    have ha := alikeI (n :: ns)
    rw [List.map_cons] at ha
    have dz : PyData.depthAll (PyData.int n :: ns.map PyData.int) = 0 := by
      rw [← List.map_cons (f := PyData.int), depthI]
    refine PySem.W.min_tuple_data (I.ok.hd hc) ht (by simpa using hr) ha (by rw [dz]; omega) fun i v h' tk bs hi rd hk => ?_
    rw [PySem.W.minD_ints] at rd
    rw [foldMin] at e
    cases e
    cases rd
    exact ⟨.int _, H, I.kept hk, ⟨_, rfl⟩, q⟩
theorem cr_maxT (hc : X.calm = true) (hu : X.A.units + 64 < cLine) : CallR X (.builtin "max") (fun vs H Q => ∃ (a : Addr) (ns : List Int) (k : Int), vs = [V.ref a] ∧ SqT X.K H a (ns.map V.int) ∧ maxI ns = some k ∧ Q (.int k) H) := by
  intro pins s σ H vs us Q I r h
  obtain ⟨a, ns, k, rfl, sq, e, q⟩ := h
  obtain ⟨its, rv, ht, hz⟩ := I.tuple sq
  obtain ⟨u, rfl, ru⟩ := vals1' r
  obtain rfl : u = Value.ref a := ru
  cases ns with
  | nil => cases e
  | cons n ns =>
    have hr := readsI (h := s.heap) rv
    rw [List.map_cons] at hr
    have ha := alikeI (n :: ns)
    rw [List.map_cons] at ha
    have dz : PyData.depthAll (PyData.int n :: ns.map PyData.int) = 0 := by
      rw [← List.map_cons (f := PyData.int), depthI]
    refine PySem.W.max_tuple_data (I.ok.hd hc) ht (by simpa using hr) ha (by rw [dz]; omega) fun i v h' tk bs hi rd hk => ?_
    rw [PySem.W.maxD_ints] at rd
    rw [foldMax] at e
    cases e
    cases rd
    exact ⟨.int _, H, I.kept hk, ⟨_, rfl⟩, q⟩
theorem hasDict_no : ∀ {d : D} {p : PyData}, d.toPy = some p → p.hasDict = false
  | .none, p, e => by simp [D.toPy] at e; subst e; rfl
  | .bool _, p, e => by simp [D.toPy] at e; subst e; rfl
  | .int _, p, e => by simp [D.toPy] at e; subst e; rfl
  | .str _, p, e => by simp [D.toPy] at e; subst e; rfl
  | .rep _, p, e => by simp [D.toPy] at e
  | .world, p, e => by simp [D.toPy] at e
  | .scr _, p, e => by simp [D.toPy] at e
  | .tup xs, p, e => by
    simp only [D.toPy, Option.map_eq_some_iff] at e
    obtain ⟨ps, e, rfl⟩ := e
    exact hasDicts_no xs ps e
  | .lst xs, p, e => by
    simp only [D.toPy, Option.map_eq_some_iff] at e
    obtain ⟨ps, e, rfl⟩ := e
    exact hasDicts_no xs ps e
where hasDicts_no : ∀ (xs : List D) (ps : List PyData), D.toPys xs = some ps → PyData.hasDictAll ps = false
  | [], ps, e => by simp [D.toPys] at e; subst e; rfl
  | x :: xs, ps, e => by
    rw [D.toPys] at e
    cases e1 : x.toPy with
    | none => rw [e1] at e; simp at e
    | some q =>
      cases e2 : D.toPys xs with
      | none => rw [e1, e2] at e; simp at e
      | some qs =>
        rw [e1, e2] at e
        simp at e
        subst e
        simp only [PyData.hasDictAll, hasDict_no e1, hasDicts_no xs qs e2, Bool.or_self]
/-- repr(x) of data -/
theorem cr_repr (hg : X.A.guards = some []) (hu : X.A.units + 80 < cLine) : CallR X (.builtin "repr") (rDs X.K (biFn .repr)) := by
  intro pins s σ H vs us Q I r h
  obtain ⟨C, ws, ds, d, eK, HO, dn, e, q⟩ := h
  obtain ⟨x, rfl, e2⟩ : ∃ x, ds = [x] ∧ (if reprOk x then some (D.rep x) else none) = some d := by
    cases ds with
    | nil => cases e
    | cons x t =>
      cases t with
      | nil => exact ⟨x, rfl, e⟩
      | cons y t => cases e
  split at e2
  · rename_i ho
    cases e2
    obtain ⟨v, rfl, dv⟩ := dn.one
    obtain ⟨u, rfl, ru⟩ := vals1' r
    unfold reprOk at ho
    split at ho
    · rename_i p ep
      simp only [Bool.and_eq_true, decide_eq_true_eq] at ho
      obtain ⟨⟨h1, h2⟩, h3⟩ := ho
      rw [line_eq] at h3
      have dp : Dp X.K H v p := eK ▸ dv.dp ep
      have nd := hasDict_no ep
      have fin : ∀ {s' : Shared} {t : Tok}, Inv X pins σ H s' → EP X pins σ Q (.str p.shown t) s' := fun {s' t} J =>
        ⟨.str p.shown, H, J, ⟨t, rfl⟩, q _ H (Keep.refl _ _) HO (.rep ep) (by intro _ z; cases z)⟩
      cases dp with
      | non => cases ru; exact P.repr_of_none (fin (I.tok _))
      | bl b => cases ru; exact P.repr_of_bool (fin (I.tok _))
      | int i =>
        obtain ⟨t, rfl⟩ := ru
        exact P.repr_of_int (by simpa [PyData.showable] using h1) (fin (I.tok _))
      | str z =>
        obtain ⟨t, rfl⟩ := ru
        exact P.repr_of_str (fin (I.tok _)) h3
      | lst hs hd =>
        obtain ⟨as, rd⟩ := Dp.reads I _ _ _ (.lst hs hd) ru
        obtain rfl := ru
        exact repr_of_reads' rd h1 (fun z => by rw [nd] at z; cases z) hg (by omega) (fun _ _ z => z) (fun h' u tk hk => fin (I.kept hk)) h3
      | tup hs hd =>
        obtain ⟨as, rd⟩ := Dp.reads I _ _ _ (.tup hs hd) ru
        obtain rfl := ru
        exact repr_of_reads' rd h1 (fun z => by rw [nd] at z; cases z) hg (by omega) (fun _ _ z => z) (fun h' u tk hk => fin (I.kept hk)) h3
    · cases ho
  · cases e2
def biVal : Bi → Value
  | .len => .builtin "len" | .all => .builtin "all" | .any => .builtin "any" | .sum => .builtin "sum" | .min => .builtin "min" | .max => .builtin "max"
  | .sorted => .builtin "sorted" | .tuple => .type "tuple" | .list => .type "list" | .int => .type "int" | .abs => .builtin "abs" | .repr => .builtin "repr"
theorem boot_bi (b : Bi) : bootBuiltins (biNm b) = some (biVal b) := by cases b <;> decide +kernel
theorem cr_bi (b : Bi) (hc : X.calm = true) (hg : X.A.guards = some []) (hu : X.A.units + 80 < cLine) : CallR X (biVal b) (rDs X.K (biFn b)) := by
  by_cases hb : b = .repr
  · subst hb
    exact cr_repr hg hu
  intro pins s σ H vs us Q I r h
  obtain ⟨C, ws, ds, d, eK, HO, dn, e, q⟩ := h
  have kr := Keep.refl C.wa H
  unfold biFn at e
  split at e
  · -- len of a list
    cases e
    obtain ⟨v, rfl, dv⟩ := dn.one
    obtain ⟨a, xs, rfl, h, l⟩ := dv.list
    exact call_len_seq pins s σ H _ us Q I r ⟨a, xs, rfl, .inl (.of h), by rw [l.length]; exact q _ _ kr HO (.int _) (by intro _ z; cases z)⟩
  · cases e
    obtain ⟨v, rfl, dv⟩ := dn.one
    obtain ⟨a, xs, rfl, h, l⟩ := dv.tupV
    exact call_len_seq pins s σ H _ us Q I r ⟨a, xs, rfl, .inr (eK ▸ h.sq), by rw [l.length]; exact q _ _ kr HO (.int _) (by intro _ z; cases z)⟩
  · cases e
    obtain ⟨v, rfl, dv⟩ := dn.one
    have dv := dv.den (fun _ => by intro z; cases z)
    cases dv with
    | scr h =>
      exact call_len_seq pins s σ H _ us Q I r ⟨_, _, rfl, .inl (eK ▸ h.sq), by rw [List.length_map]; exact q _ _ kr HO (.int _) (by intro _ z; cases z)⟩
  · rw [Option.map_eq_some_iff] at e
    obtain ⟨bs, e, rfl⟩ := e
    obtain ⟨v, rfl, dv⟩ := dn.one
    obtain ⟨a, xs, rfl, h, l⟩ := dv.list
    have ex := l.boolsV e
    subst ex
    exact cr_all hc pins s σ H _ us Q I r ⟨a, bs, rfl, .of h, q _ _ kr HO (.bl _) (by intro _ z; cases z)⟩
  · rw [Option.map_eq_some_iff] at e
    obtain ⟨bs, e, rfl⟩ := e
    obtain ⟨v, rfl, dv⟩ := dn.one
    obtain ⟨a, xs, rfl, h, l⟩ := dv.list
    have ex := l.boolsV e
    subst ex
    exact cr_any hc pins s σ H _ us Q I r ⟨a, bs, rfl, .of h, q _ _ kr HO (.bl _) (by intro _ z; cases z)⟩
  · rw [Option.map_eq_some_iff] at e
    obtain ⟨bs, e, rfl⟩ := e
    obtain ⟨v, rfl, dv⟩ := dn.one
    obtain ⟨a, xs, rfl, h, l⟩ := dv.list
    have ex := l.intsV e
    subst ex
    exact cr_sum hc pins s σ H _ us Q I r ⟨a, bs, rfl, .of h, q _ _ kr HO (.int _) (by intro _ z; cases z)⟩
  · rw [Option.bind_eq_some_iff] at e
    obtain ⟨is, e, e'⟩ := e
    rw [Option.map_eq_some_iff] at e'
    obtain ⟨k, e', rfl⟩ := e'
    obtain ⟨v, rfl, dv⟩ := dn.one
    obtain ⟨a, xs, rfl, h, l⟩ := dv.list
    have ex := l.intsV e
    subst ex
    obtain ⟨m1, m2⟩ := minI_spec e'
    refine cr_min hc pins s σ H _ us Q I r ⟨a, is, rfl, .of h, List.length_pos_of_mem m1, fun m hm hl => ?_⟩
    have em : m = k := Int.le_antisymm (hl k m1) (m2 m hm)
    rw [em]
    exact q _ _ kr HO (.int _) (by intro _ z; cases z)
  · rw [Option.bind_eq_some_iff] at e
    obtain ⟨is, e, e'⟩ := e
    rw [Option.map_eq_some_iff] at e'
    obtain ⟨k, e', rfl⟩ := e'
    obtain ⟨v, rfl, dv⟩ := dn.one
    obtain ⟨a, xs, rfl, h, l⟩ := dv.list
    have ex := l.intsV e
    subst ex
    obtain ⟨m1, m2⟩ := maxI_spec e'
    refine cr_max hc pins s σ H _ us Q I r ⟨a, is, rfl, .of h, List.length_pos_of_mem m1, fun m hm hl => ?_⟩
    have em : m = k := Int.le_antisymm (m2 m hm) (hl k m1)
    rw [em]
    exact q _ _ kr HO (.int _) (by intro _ z; cases z)
  · rw [Option.bind_eq_some_iff] at e
    obtain ⟨is, e, e'⟩ := e
    rw [Option.map_eq_some_iff] at e'
    obtain ⟨k, e', rfl⟩ := e'
    obtain ⟨v, rfl, dv⟩ := dn.one
    obtain ⟨a, xs, rfl, h, l⟩ := dv.tupV
    have ex := l.intsV e
    subst ex
    exact cr_minT hc (by omega) pins s σ H _ us Q I r ⟨a, is, k, rfl, eK ▸ h.sq, e', q _ _ kr HO (.int _) (by intro _ z; cases z)⟩
  · rw [Option.bind_eq_some_iff] at e
    obtain ⟨is, e, e'⟩ := e
    rw [Option.map_eq_some_iff] at e'
    obtain ⟨k, e', rfl⟩ := e'
    obtain ⟨v, rfl, dv⟩ := dn.one
    obtain ⟨a, xs, rfl, h, l⟩ := dv.tupV
    have ex := l.intsV e
    subst ex
    exact cr_maxT hc (by omega) pins s σ H _ us Q I r ⟨a, is, k, rfl, eK ▸ h.sq, e', q _ _ kr HO (.int _) (by intro _ z; cases z)⟩
  · cases e
    obtain ⟨v, u, rfl, d1, d2⟩ := dn.two
    cases d1.intV; cases d2.intV
    exact call_min2 hc pins s σ H _ us Q I r ⟨_, _, rfl, q _ _ kr HO (.int _) (by intro _ z; cases z)⟩
  · cases e
    obtain ⟨v, u, rfl, d1, d2⟩ := dn.two
    cases d1.intV; cases d2.intV
    exact call_max2 hc pins s σ H _ us Q I r ⟨_, _, rfl, q _ _ kr HO (.int _) (by intro _ z; cases z)⟩
  · rw [Option.map_eq_some_iff] at e
    obtain ⟨is, e, rfl⟩ := e
    obtain ⟨v, rfl, dv⟩ := dn.one
    obtain ⟨a, xs, rfl, h, l⟩ := dv.list
    have ex := l.intsV e
    subst ex
    refine cr_sortedI pins s σ H _ us Q I r ⟨a, is, rfl, .of h, fun ns' p k1 k2 np => ?_⟩
    rw [sortI_one k1 k2]
    exact q _ _ (.new np) (HO.new np) (HO.lst np (DenL.ofInts _)) (HO.fresh np (DenL.ofInts _))
  · rw [Option.map_eq_some_iff] at e
    obtain ⟨is, e, rfl⟩ := e
    obtain ⟨v, rfl, dv⟩ := dn.one
    obtain ⟨a, xs, rfl, h, l⟩ := dv.tupV
    have ex := l.intsV e
    subst ex
    refine cr_sortedT' pins s σ H _ us Q I r ⟨a, is, rfl, eK ▸ h.sq, fun ns' p k1 k2 np => ?_⟩
    rw [sortI_one k1 k2]
    exact q _ _ (.new np) (HO.new np) (HO.lst np (DenL.ofInts _)) (HO.fresh np (DenL.ofInts _))
  · cases e
    obtain ⟨v, rfl, dv⟩ := dn.one
    obtain ⟨a, xs, rfl, h, l⟩ := dv.list
    exact call_tuple_of pins s σ H _ us Q I r ⟨a, xs, rfl, .inl ⟨.of h, fun p np => q _ _ (.new np) (HO.new np) (HO.tup np l) (by intro _ z; cases z)⟩⟩
  · cases e
    obtain ⟨v, rfl, dv⟩ := dn.one
    obtain ⟨a, xs, rfl, h, l⟩ := dv.tupV
    exact call_tuple_of pins s σ H _ us Q I r ⟨a, xs, rfl, .inr ⟨eK ▸ h.sq, q _ _ kr HO (.tup h l) (by intro _ z; cases z)⟩⟩
  · cases e
    obtain ⟨v, rfl, dv⟩ := dn.one
    obtain ⟨a, xs, rfl, h, l⟩ := dv.list
    exact call_list_of pins s σ H _ us Q I r ⟨a, xs, rfl, .inl (.of h), fun p np => q _ _ (.new np) (HO.new np) (HO.lst np l) (HO.fresh np l)⟩
  · cases e
    obtain ⟨v, rfl, dv⟩ := dn.one
    obtain ⟨a, xs, rfl, h, l⟩ := dv.tupV
    exact call_list_of pins s σ H _ us Q I r ⟨a, xs, rfl, .inr (eK ▸ h.sq), fun p np => q _ _ (.new np) (HO.new np) (HO.lst np l) (HO.fresh np l)⟩
  · cases e
    obtain ⟨v, rfl, dv⟩ := dn.one
    cases dv.intV
    exact call_int1 pins s σ H _ us Q I r (.inl ⟨_, rfl, q _ _ kr HO (.int _) (by intro _ z; cases z)⟩)
  · cases e
    obtain ⟨v, rfl, dv⟩ := dn.one
    cases dv.blV
    exact call_int1 pins s σ H _ us Q I r (.inr ⟨_, rfl, q _ _ kr HO (.int _) (by intro _ z; cases z)⟩)
  · cases e
    obtain ⟨v, rfl, dv⟩ := dn.one
    cases dv.intV
    exact call_abs pins s σ H _ us Q I r ⟨_, rfl, q _ _ kr HO (.int _) (by intro _ z; cases z)⟩
  · exact absurd rfl hb
  · cases e
end
end Pc

set_option Elab.async false
set_option linter.all false
set_option maxRecDepth 100000
set_option maxHeartbeats 4000000
/-! # What is walked: enumerate and zip over lists and tuples in any mix -/
namespace Pc
open PySem L2 PyProof.Rows

/-- q: a tuple; else a list -/
def sqQ (q : Bool) (K : PySem.W.Frag) (H : Hp) (a : Addr) (xs : List V) : Prop := match q with
  | true => SqT K H a xs
  | false => SqL K H a xs
def itQ (q : Bool) (h : Heap) (it a : Addr) (i : Nat) : Prop := match q with
  | true => h.IsTupleIter it a i
  | false => h.IsListIter it a i
def seqQ (q : Bool) (h : Heap) (a : Addr) (items : Array Value) : Prop := match q with
  | true => h.IsTuple a items
  | false => h.IsList a items
def itObj (q : Bool) (a : Addr) : Obj := match q with
  | true => { cls := .type "tuple_iterator", data := .fields #[.ref a, .int 0 0] }
  | false => { cls := .type "list_iterator", data := .fields #[.ref a, .int 0 0] }
theorem beginsQ (q : Bool) (a : Addr) (items : Array Value) : Begins (.ref a) (itObj q a) fun h => seqQ q h a items := by
  cases q
  · exact begins_list a items
  · exact begins_tuple a items
theorem itQ_new {q : Bool} {h : Heap} {it a : Addr} (e : h.get? it = some (itObj q a)) : itQ q h it a 0 := by
  cases q
  · exact ⟨_, e, rfl, rfl⟩
  · exact ⟨_, e, rfl, rfl⟩
theorem itQ_obj {q : Bool} {h : Heap} {it a : Addr} {i : Nat} (e : itQ q h it a i) : ∃ o, h.get? it = some o ∧ ∀ v, o.data ≠ .cell v := by
  cases q
  · obtain ⟨o, h1, _, h2⟩ := e
    exact ⟨o, h1, fun v z => by rw [h2] at z; cases z⟩
  · obtain ⟨o, h1, _, h2⟩ := e
    exact ⟨o, h1, fun v z => by rw [h2] at z; cases z⟩
theorem itQ_at {q : Bool} {h h' : Heap} {it a : Addr} {i : Nat} (e : itQ q h it a i) (k : ∀ o, h.get? it = some o → h'.get? it = some o) : itQ q h' it a i := by
  cases q
  · exact Heap.IsListIter.at e k
  · exact Heap.IsTupleIter.at e k
theorem drawsQ {prog : Program} {w : World} {A : Around} (q : Bool) (hh : A.handled = none) (it a : Addr) (hne : a ≠ it) (items : Array Value) :
    Draws prog w A it [it, a] items.size (fun i v => items[i]? = some v) (fun i h => itQ q h it a i ∧ seqQ q h a items) := by
  cases q
  · exact Draws.list hh it a hne items
  · exact Draws.tuple hh it a hne items
section
variable {X : Cx} {pins : List (Addr × Obj)} {σ : L2.St} {H : Hp} {s : Shared} {a : Addr} {xs ys : List V} {q : Bool}
theorem invQ (I : L2.Inv X pins σ H s) (h : sqQ q X.K H a xs) : ∃ its : List Value, Vals xs its ∧ seqQ q s.heap a its.toArray ∧ xs.length ≤ sizeLine := by
  cases q
  · obtain ⟨its, r, p, z⟩ := I.list h
    exact ⟨its, r, p.isList, z⟩
  · obtain ⟨its, r, p, z⟩ := I.tuple h
    exact ⟨its, r, p, z⟩
theorem injQ (I : L2.Inv X pins σ H s) (h : sqQ q X.K H a xs) (h' : sqQ q X.K H a ys) : xs = ys := by
  cases q
  · exact I.list_inj h h'
  · exact I.tuple_inj h h'
end
theorem seqQ_lt {q : Bool} {h : Heap} {a : Addr} {items : Array Value} (e : seqQ q h a items) : a < h.objs.size := by
  cases q
  · obtain ⟨o, h1, _⟩ := e
    exact Heap.lt_size h1
  · obtain ⟨o, h1, _⟩ := e
    exact Heap.lt_size h1
def IteQ (q : Bool) (K : PySem.W.Frag) (a : Addr) : It :=
  ⟨fun i H => ∃ (xs : List V) (x : V), sqQ q K H a xs ∧ xs[i]? = some x,
    fun i H v H' => ∃ T x, v = .ref T ∧ H T = none ∧ H' = upd H T (.tup [.int (i : Nat), x]) ∧ ∀ xs, sqQ q K H a xs → xs[i]? = some x,
    fun i H => ∃ xs : List V, sqQ q K H a xs ∧ xs.length = i⟩
theorem turn_enumQ {P : Program} {w : World} {K : PySem.W.Frag} {elts : List Expr} {kk : Nat} {tpos : Pos} (q : Bool) (a e it : Addr) (hei : e ≠ it) (hae : a ≠ e) (hai : a ≠ it) :
    Turn P w K (.Tuple elts kk tpos) (IteQ q K a) [e, it] e (fun i h => (∃ old, IsEnum h e it ((i : Nat) : Int) old) ∧ itQ q h it a i) where
  mem := by simp
  obj := fun i h st b hb => by
    obtain ⟨⟨old, he⟩, hi⟩ := st
    have hb' : b = e ∨ b = it := by simpa using hb
    rcases hb' with rfl | rfl
    · exact ⟨_, he, fun v z => nomatch z⟩
    · exact itQ_obj hi
  keep := fun i h h' st k => by
    obtain ⟨⟨old, he⟩, hi⟩ := st
    exact ⟨⟨old, k e (by simp) _ he⟩, itQ_at hi fun o z => k it (by simp) o z⟩
  item := by
    intro X hP hw hK hc i pins s σ H E I hf st hg
    subst hP hw hK
    obtain ⟨⟨old, he⟩, hi⟩ := st
    obtain ⟨xs, x, hq, hx⟩ := hg
    obtain ⟨its, rv, hs, hz⟩ := invQ I hq
    obtain ⟨u, hu, ru⟩ := rv.get hx
    have hlt : i < its.toArray.size := by
      have := (List.getElem?_eq_some_iff.mp hu).1
      simpa using this
    have W := WalksT.enumerateD (drawsQ (prog := X.prog) (w := X.w) (A := X.A.in1) q (I.ok.hd hc) it a hai its.toArray) e hei (by simp [hei, Ne.symm hae]) (by simp)
    refine W.item i s _ _ hlt ⟨⟨old, he⟩, hi, hs⟩ fun T vals h' tk hp hT htup hm hk => ⟨_, rfl, W.go elts kk tpos i T { s with heap := h', toks := tk } _ _ hm fun h'' st' hk' => ?_⟩
    obtain ⟨t, y, hy, rfl⟩ := hp
    have ey : y = u := by
      have h1 : its.toArray[i]? = some u := by simpa using hu
      rw [h1] at hy
      exact (Option.some.inj hy).symm
    subst ey
    have nT := W.apart i T _ hm
    obtain ⟨ot, gt, ct, nt, dt⟩ := htup
    have gt' := hk' T ot nT gt
    have new : ObjOk X.prog X.w (upd H T (.tup [.int (i : Nat), x])) h'' T (.tup [.int (i : Nat), x]) :=
      ⟨by show 2 ≤ sizeLine; decide, [.int i t, y], .cons ⟨t, rfl⟩ (.cons ru .nil), ⟨ot, gt', ct, nt, dt⟩⟩
    have I1 : L2.Inv X pins σ (upd H T (.tup [.int (i : Nat), x])) { s with heap := h'', toks := tk } :=
      I.turnedNew (ch := [e, it]) (fun b ob hb z => hk' b ob hb (hk b ob hb z)) hf hT new
    refine ⟨.ref T, _, I1, rfl, ⟨T, x, rfl, I.hok.fresh hT, rfl, fun zs hzs => by rw [injQ I hzs hq]; exact hx⟩, ⟨?_, st'.2.1⟩, fun b hb => ?_⟩
    · obtain ⟨old', he'⟩ := st'.1
      exact ⟨old', he'⟩
    · have hbl : b < s.heap.objs.size := by
        have hb' : b = e ∨ b = it := by simpa using hb
        rcases hb' with rfl | rfl
        · exact Heap.lt_size he
        · obtain ⟨o, g, _⟩ := itQ_obj hi
          exact Heap.lt_size g
      rw [upd_ne (Nat.ne_of_lt (Nat.lt_of_lt_of_le hbl hT))]
      exact (hf b hb).1
  done := by
    intro X hP hw hK hc i pins s σ H E I hf st hg
    subst hP hw hK
    obtain ⟨⟨old, he⟩, hi⟩ := st
    obtain ⟨xs, hq, hx⟩ := hg
    obtain ⟨its, rv, hs, hz⟩ := invQ I hq
    have hn : i = its.toArray.size := by
      have := rv.length
      simp only [List.size_toArray]
      omega
    have W := WalksT.enumerateD (drawsQ (prog := X.prog) (w := X.w) (A := X.A.in1) q (I.ok.hd hc) it a hai its.toArray) e hei (by simp [hei, Ne.symm hae]) (by simp)
    refine W.done s _ _ (by rw [← hn]; exact ⟨⟨old, he⟩, hi, hs⟩) fun h' tk hk => ⟨rfl, I.turnedL (ch := [e, it]) (fun b o hb z => hk b o hb z) hf⟩
  self := fun A i s Q E st h => by
    obtain ⟨⟨old, he⟩, _⟩ := st
    exact wpAny_pyIter_enum he h
/-! ### enumerate(v) begins -/
set_option maxHeartbeats 4000000 in
theorem meets_enum1 {v : Value} {o : Obj} {G : Heap → Prop} (B : Begins v o G) :
    Meets (Builtin.«enumerate.__new__» ⟨[.type "enumerate", v], []⟩) (fun _ R s => G s.heap ∧
      R (.ok (.ret (.ref (s.heap.push o).objs.size))) { s with heap := (s.heap.push o).push { cls := .type "enumerate", data := .fields #[.none, .bool false, .ref s.heap.objs.size, rawInt 0, .none, .none] } }) :=
  .of_wp fun prog w A R s hw => by
    obtain ⟨hp, gn, dr, tk, os⟩ := s
    obtain ⟨g0, hw⟩ := hw
    have hsub := sub_enumerate
    have bg : ∀ {A' : Around} {E : Value → Shared → Prop} {Q : Value → Shared → Prop}, Q (.ref hp.objs.size) ⟨hp.push o, gn, dr, tk, os⟩ → wpAny (model prog w) A' (pyIter v) Q E ⟨hp, gn, dr, tk, os⟩ :=
      fun z => B.iter prog w _ _ ⟨hp, gn, dr, tk, os⟩ _ g0 z
    wp_walk using bg
    refine wpAny_stack_any fun st => wpAny_pure ?_
    split
    · rename_i c _ _ _ _ _
      cases (c == Value.type "enumerate") <;> (wp_walk using bg; exact ⟨_, rfl, hw⟩)
    · wp_walk using bg
      exact ⟨_, rfl, hw⟩
theorem enum_begins1 {prog : Program} {w : World} {A : Around} {E : Value → Shared → Prop} {s : Shared} {v : Value} {o : Obj} {G : Heap → Prop} {Q : Value → Shared → Prop} (B : Begins v o G) (g0 : G s.heap)
    (h : ∀ h', IsEnum h' (s.heap.objs.size + 1) s.heap.objs.size 0 .none → h'.get? s.heap.objs.size = some o → (∀ b u, s.heap.get? b = some u → h'.get? b = some u) → Q (.ref (s.heap.objs.size + 1)) { s with heap := h' }) :
    wpAny (model prog w) A (call (.type "enumerate") [v]) Q E s := by
  refine callType_new F.called_enumerate (by decide) (F.typeCall_enumerate_1 _) (F.newCall_enumerate_1 _) (fun obj => F.args_object_init_2 obj _) F.entry_enumerate_new (meets_enum1 B) ⟨g0, ?_⟩
  have sz : (s.heap.push o).objs.size = s.heap.objs.size + 1 := Heap.size_push ..
  have he := Heap.get?_push_size (s.heap.push o) (o := { cls := .type "enumerate", data := .fields #[.none, .bool false, .ref s.heap.objs.size, rawInt 0, .none, .none] }) rfl
  show _ ∧ _
  rw [sz] at he ⊢
  exact ⟨⟨_, he, rfl⟩, h _ he (Heap.get?_push_of_some _ (Heap.get?_push_size _ B.free)) fun b u z => Heap.get?_push_of_some _ (Heap.get?_push_of_some _ z)⟩
def iEnumQ (K : PySem.W.Frag) (ta : TA) : TI := fun σ H R => ta σ H fun vs H1 => ∃ (q : Bool) (a : Addr) (xs : List V), vs = [.ref a] ∧ sqQ q K H1 a xs ∧ R (IteQ q K a) H1
theorem pi_enumQ {X : Cx} {e : Expr} {ta : TA} {p pos tpos : Pos} {elts : List Expr} {kk : Nat} (hg : Gl X "enumerate") (hm : X.mg "enumerate" = none) (ha : PA X [e] ta) (hs : starEach [e] X.env = [(false, eval e X.env)]) :
    PI X (.Tuple elts kk tpos) (.Call (.Name "enumerate" p) [e] [] pos) (iEnumQ X.K ta) := by
  refine ⟨fun pins s σ H R I h => Call_ (ld_blt I hg hm boot_enumerate (PyProof.Rows.callWith_type1 (thn (ha.run pos pins s σ H _ I h) fun us s1 ⟨vs, H1, I1, r1, q, a, xs, ex, hq, hr⟩ => ?_) hs rfl))⟩
  subst ex
  obtain ⟨u, rfl, ru⟩ := vals1' r1
  obtain rfl : u = Value.ref a := ru
  obtain ⟨its, rv, hsq, hz⟩ := invQ I1 hq
  have al : a < s1.heap.objs.size := seqQ_lt hsq
  refine enum_begins1 (beginsQ q a its.toArray) hsq fun h' he hi hk => wpAny_pyIter_enum he ?_
  refine ⟨s1.heap.objs.size + 1, [s1.heap.objs.size + 1, s1.heap.objs.size], _, _, H1, rfl, I1.kept (t' := s1.toks) hk, turn_enumQ q a (s1.heap.objs.size + 1) s1.heap.objs.size (Nat.succ_ne_self _) (Nat.ne_of_lt (Nat.lt_succ_of_lt al)) (Nat.ne_of_lt al), ⟨⟨.none, he⟩, itQ_new hi⟩, fun b hb => ?_, hr⟩
  have hle : s1.heap.objs.size ≤ b := by
    have hb' : b = s1.heap.objs.size + 1 ∨ b = s1.heap.objs.size := by simpa using hb
    rcases hb' with z | z
    · rw [z]; exact Nat.le_succ _
    · rw [z]; exact Nat.le_refl _
  exact I1.fpOk hle (I1.hok.fresh hle)
theorem walk_enumQ {q : Bool} {K : PySem.W.Frag} {a : Addr} {xs : List V} : Walk (IteQ q K a) xs.length (fun H => sqQ q K H a xs) (YPair (fun i => some (.int (i : Nat))) (fun i => xs[i]?)) := by
  refine ⟨fun i _ hi z => ⟨xs, xs[i], z, by simp [hi]⟩, fun _ z => ⟨xs, z, rfl⟩, fun i H v H' _ z y => ?_⟩
  obtain ⟨T, x, h1, h2, h3, h4⟩ := y
  exact ⟨T, .int (i : Nat), x, h1, h2, h3, rfl, h4 xs z⟩
/-! ### zip -/
def ItzQ (q r : Bool) (K : PySem.W.Frag) (a b : Addr) : It :=
  ⟨fun i H => ∃ (xs ys : List V) (x y : V), sqQ q K H a xs ∧ sqQ r K H b ys ∧ xs[i]? = some x ∧ ys[i]? = some y,
    fun i H v H' => ∃ T x y, v = .ref T ∧ H T = none ∧ H' = upd H T (.tup [x, y]) ∧ (∀ xs, sqQ q K H a xs → xs[i]? = some x) ∧ ∀ ys, sqQ r K H b ys → ys[i]? = some y,
    fun i H => ∃ xs ys : List V, sqQ q K H a xs ∧ sqQ r K H b ys ∧ min xs.length ys.length = i⟩
theorem turn_zipQ {P : Program} {w : World} {K : PySem.W.Frag} {elts : List Expr} {kk : Nat} {tpos : Pos} (q r : Bool) {a b z TI TO i1 i2 : Addr} (S : ZipSep2 z TI TO i1 i2 [i1, a] [i2, b]) (ha : a ≠ i1) (hb : b ≠ i2) :
    Turn P w K (.Tuple elts kk tpos) (ItzQ q r K a b) [z, TI, TO, i1, i2] z (fun i h => IsZip h z TI TO .none ∧ IsTupOf2 h TI (.ref i1) (.ref i2) ∧ (∃ x y, IsTupOf2 h TO x y) ∧ itQ q h i1 a i ∧ itQ r h i2 b i) where
  mem := by simp
  obj := fun i h st c hc => by
    obtain ⟨hz, hTI, ⟨x, y, hTO⟩, h1, h2⟩ := st
    have hc' : c = z ∨ c = TI ∨ c = TO ∨ c = i1 ∨ c = i2 := by simpa using hc
    rcases hc' with rfl | rfl | rfl | rfl | rfl
    · exact ⟨_, hz, fun v u => nomatch u⟩
    · exact ⟨_, hTI, fun v u => nomatch u⟩
    · exact ⟨_, hTO, fun v u => nomatch u⟩
    · exact itQ_obj h1
    · exact itQ_obj h2
  keep := fun i h h' st k => by
    obtain ⟨hz, hTI, ⟨x, y, hTO⟩, h1, h2⟩ := st
    exact ⟨k z (by simp) _ hz, k TI (by simp) _ hTI, ⟨x, y, k TO (by simp) _ hTO⟩, itQ_at h1 fun o u => k i1 (by simp) o u, itQ_at h2 fun o u => k i2 (by simp) o u⟩
  item := by
    intro X hP hw hK hc i pins s σ H E I hf st hg
    subst hP hw hK
    obtain ⟨hz, hTI, hTO, h1, h2⟩ := st
    obtain ⟨xs, ys, x, y, hq, hr, hx, hy⟩ := hg
    obtain ⟨its, rv, hs, _⟩ := invQ I hq
    obtain ⟨jts, rw', hs', _⟩ := invQ I hr
    obtain ⟨u, hu, ru⟩ := rv.get hx
    obtain ⟨u', hu', ru'⟩ := rw'.get hy
    have l1 : i < its.toArray.size := by simpa using (List.getElem?_eq_some_iff.mp hu).1
    have l2 : i < jts.toArray.size := by simpa using (List.getElem?_eq_some_iff.mp hu').1
    have W := WalksT.zipD2 S (drawsQ (prog := X.prog) (w := X.w) (A := X.A.in1) q (I.ok.hd hc) i1 a ha its.toArray) (drawsQ (prog := X.prog) (w := X.w) (A := X.A.in1) r (I.ok.hd hc) i2 b hb jts.toArray)
    refine W.item i s _ _ (by omega) ⟨hz, hTI, hTO, ⟨h1, hs⟩, ⟨h2, hs'⟩⟩ fun T vals h' tk hp hT htup hm hk => ⟨_, rfl, W.go elts kk tpos i T { s with heap := h', toks := tk } _ _ hm fun h'' st' hk' => ?_⟩
    obtain ⟨v1, v2, e1, e2, rfl⟩ := hp
    have ex : v1 = u := by
      have t1 : its.toArray[i]? = some u := by simpa using hu
      rw [t1] at e1
      exact (Option.some.inj e1).symm
    have ey : v2 = u' := by
      have t1 : jts.toArray[i]? = some u' := by simpa using hu'
      rw [t1] at e2
      exact (Option.some.inj e2).symm
    subst ex ey
    have nT := W.apart i T _ hm
    obtain ⟨ot, gt, ct, nt, dt⟩ := htup
    have gt' := hk' T ot nT gt
    have inW : ∀ c, c ∉ [z, TI, TO, i1, i2] → c ∉ [z, TO, i1, i2] := fun c hn hm => hn (by
      have : c = z ∨ c = TO ∨ c = i1 ∨ c = i2 := by simpa using hm
      rcases this with rfl | rfl | rfl | rfl <;> simp)
    have new : ObjOk X.prog X.w (upd H T (.tup [x, y])) h'' T (.tup [x, y]) :=
      ⟨by show 2 ≤ sizeLine; decide, [v1, v2], .cons ru (.cons ru' .nil), ⟨ot, gt', ct, nt, dt⟩⟩
    have I1 : L2.Inv X pins σ (upd H T (.tup [x, y])) { s with heap := h'', toks := tk } :=
      I.turnedNew (ch := [z, TI, TO, i1, i2]) (fun c ob hn e => hk' c ob (inW c hn) (hk c ob (inW c hn) e)) hf hT new
    refine ⟨.ref T, _, I1, rfl, ⟨T, x, y, rfl, I.hok.fresh hT, rfl, fun l hl => by rw [injQ I hl hq]; exact hx, fun l hl => by rw [injQ I hl hr]; exact hy⟩, ⟨st'.1, st'.2.1, st'.2.2.1, st'.2.2.2.1.1, st'.2.2.2.2.1⟩, fun c hcm => ?_⟩
    have hcl : c < s.heap.objs.size := by
      have hc' : c = z ∨ c = TI ∨ c = TO ∨ c = i1 ∨ c = i2 := by simpa using hcm
      obtain ⟨t1, t2, gTO⟩ := hTO
      rcases hc' with rfl | rfl | rfl | rfl | rfl
      · exact Heap.lt_size hz
      · exact Heap.lt_size hTI
      · exact Heap.lt_size gTO
      · obtain ⟨o, g, _⟩ := itQ_obj h1; exact Heap.lt_size g
      · obtain ⟨o, g, _⟩ := itQ_obj h2; exact Heap.lt_size g
    rw [upd_ne (Nat.ne_of_lt (Nat.lt_of_lt_of_le hcl hT))]
    exact (hf c hcm).1
  done := by
    intro X hP hw hK hc i pins s σ H E I hf st hg
    subst hP hw hK
    obtain ⟨hz, hTI, hTO, h1, h2⟩ := st
    obtain ⟨xs, ys, hq, hr, hx⟩ := hg
    obtain ⟨its, rv, hs, _⟩ := invQ I hq
    obtain ⟨jts, rw', hs', _⟩ := invQ I hr
    have hn : min its.toArray.size jts.toArray.size = i := by
      have t1 := rv.length
      have t2 := rw'.length
      simp only [List.size_toArray]
      omega
    have W := WalksT.zipD2 S (drawsQ (prog := X.prog) (w := X.w) (A := X.A.in1) q (I.ok.hd hc) i1 a ha its.toArray) (drawsQ (prog := X.prog) (w := X.w) (A := X.A.in1) r (I.ok.hd hc) i2 b hb jts.toArray)
    refine W.done s _ _ (by rw [hn]; exact ⟨hz, hTI, hTO, ⟨h1, hs⟩, ⟨h2, hs'⟩⟩) fun h' tk hk => ⟨rfl, I.turnedL (ch := [z, TI, TO, i1, i2]) (fun c o hn e => hk c o (fun hm => hn ?_) e) hf⟩
    have : c = z ∨ c = TO ∨ c = i1 ∨ c = i2 := by simpa using hm
    rcases this with rfl | rfl | rfl | rfl <;> simp
  self := fun A i s Q E st h => wpAny_pyIter_zip st.1 h
def iZipQ (K : PySem.W.Frag) (ta : TA) : TI := fun σ H R => ta σ H fun vs H1 => ∃ (q r : Bool) (a b : Addr) (xs ys : List V), vs = [.ref a, .ref b] ∧ sqQ q K H1 a xs ∧ sqQ r K H1 b ys ∧ R (ItzQ q r K a b) H1
theorem vals2' {x y : V} {us : List Value} (r : Vals [x, y] us) : ∃ u v, us = [u, v] ∧ RelV x u ∧ RelV y v := by
  cases r with
  | cons r t => cases t with
    | cons r' t => cases t; exact ⟨_, _, rfl, r, r'⟩
theorem pi_zipQ {X : Cx} {e e2 : Expr} {ta : TA} {p pos tpos : Pos} {elts : List Expr} {kk : Nat} (hg : Gl X "zip") (hm : X.mg "zip" = none) (ha : PA X [e, e2] ta)
    (hs : starEach [e, e2] X.env = (false, eval e X.env) :: starEach [e2] X.env) (hpl : (backTo pos (starEach [e2] X.env)).any (·.1) = false) :
    PI X (.Tuple elts kk tpos) (.Call (.Name "zip" p) [e, e2] [] pos) (iZipQ X.K ta) := by
  refine ⟨fun pins s σ H R I h => Call_ (ld_blt I hg hm PyProof.Rows.boot_zip (PyProof.Rows.callWith_type1 (thn (ha.run pos pins s σ H _ I h) fun us s1 ⟨vs, H1, I1, r1, q, r, a, b, xs, ys, ex, hq, hr, hR⟩ => ?_) hs hpl))⟩
  subst ex
  obtain ⟨u, v, rfl, ru, rv⟩ := vals2' r1
  obtain rfl : u = Value.ref a := ru
  obtain rfl : v = Value.ref b := rv
  obtain ⟨its, _, hsq, _⟩ := invQ I1 hq
  obtain ⟨jts, _, hsq', _⟩ := invQ I1 hr
  have al : a < s1.heap.objs.size := seqQ_lt hsq
  have bl : b < s1.heap.objs.size := seqQ_lt hsq'
  refine zip_begins2 (beginsQ q a its.toArray) (beginsQ r b jts.toArray) hsq hsq' fun h' hz hT hO g1 g2 sz hk => wpAny_pyIter_zip hz ?_
  refine ⟨s1.heap.objs.size + 4, [s1.heap.objs.size + 4, s1.heap.objs.size + 2, s1.heap.objs.size + 3, s1.heap.objs.size, s1.heap.objs.size + 1], _, _, H1, rfl, I1.kept (t' := s1.toks) hk,
    turn_zipQ q r (zip_sep2 (fp1 := [a]) (fp2 := [b]) (fun c hc => by rw [List.mem_singleton.mp hc]; exact al) (fun c hc => by rw [List.mem_singleton.mp hc]; exact bl)) (Nat.ne_of_lt al) (Nat.ne_of_lt (Nat.lt_succ_of_lt bl)),
    ⟨hz, hT, ⟨_, _, hO⟩, itQ_new g1, itQ_new g2⟩, fun c hc => ?_, hR⟩
  have hle : s1.heap.objs.size ≤ c := by
    have hc' : c = s1.heap.objs.size + 4 ∨ c = s1.heap.objs.size + 2 ∨ c = s1.heap.objs.size + 3 ∨ c = s1.heap.objs.size ∨ c = s1.heap.objs.size + 1 := by simpa using hc
    rcases hc' with z | z | z | z | z
    all_goals first | (rw [z]; exact Nat.le_add_right _ _) | (rw [z]; exact Nat.le_refl _)
  exact I1.fpOk hle (I1.hok.fresh hle)
theorem walk_zipQ {q r : Bool} {K : PySem.W.Frag} {a b : Addr} {xs ys : List V} {n : Nat} (hn : n = min xs.length ys.length) :
    Walk (ItzQ q r K a b) n (fun H => sqQ q K H a xs ∧ sqQ r K H b ys) (YPair (fun i => xs[i]?) (fun i => ys[i]?)) := by
  subst hn
  refine ⟨fun i _ hi z => ?_, fun _ z => ⟨xs, ys, z.1, z.2, rfl⟩, fun i H v H' _ z y => ?_⟩
  · have h1 : i < xs.length := by omega
    have h2 : i < ys.length := by omega
    exact ⟨xs, ys, xs[i], ys[i], z.1, z.2, by simp [h1], by simp [h2]⟩
  · obtain ⟨T, x, w, h1, h2, h3, h4, h5⟩ := y
    exact ⟨T, x, w, h1, h2, h3, h4 xs z.1, h5 ys z.2⟩
end Pc

set_option Elab.async false
set_option linter.all false
set_option maxRecDepth 100000
set_option maxHeartbeats 4000000
/-! # Defs: promises where no repr is running -/
namespace Pc
open PySem L2 PyProof.Rows

/-- as FnOk, where the stack holds no guard -/
structure FnG (P : Program) (w : World) (K : PySem.W.Frag) (mg : Str → Option Value) (base : Heap) (k : Nat) (f : Addr) (fd : FuncData) (ps : List Str) (sp : Sp) : Prop where
  len : ∀ vs H Q E, sp vs H Q E → vs.length = ps.length
  run : ∀ (A : Around) (outer : List PySem.Env) (s : Shared) (H : Hp) (args : Args) (us : List Value) (vs : List V) (Q : VK) (E : XK), Room k A → A.guards = some [] → Env0 P w K mg base A outer s H →
    BindsTo s fd args (ps.zip us) → Vals vs us → sp vs H Q E → codeAny (model P w) A (.call (.ref f) args) (CR CX0 outer P w H s Q E) s
theorem FnG.of {P : Program} {w : World} {K : PySem.W.Frag} {mg : Str → Option Value} {base : Heap} {k : Nat} {f : Addr} {fd : FuncData} {ps : List Str} {sp : Sp} (F : FnOk P w K mg base CX0 k f fd ps sp) : FnG P w K mg base k f fd ps sp :=
  ⟨F.len, fun A outer s H args us vs Q E hr _ e hb hv h => F.run A outer s H args us vs Q E hr e hb hv h⟩
theorem FnG.mono {P : Program} {w : World} {K : PySem.W.Frag} {mg : Str → Option Value} {base : Heap} {j k : Nat} {f : Addr} {fd : FuncData} {ps : List Str} {sp : Sp} (F : FnG P w K mg base j f fd ps sp) (h : j ≤ k) : FnG P w K mg base k f fd ps sp :=
  ⟨F.len, fun A outer s H args us vs Q E hr => F.run A outer s H args us vs Q E (hr.mono h)⟩
theorem FnG.imp {P : Program} {w : World} {K : PySem.W.Frag} {mg : Str → Option Value} {base : Heap} {k : Nat} {f : Addr} {fd : FuncData} {ps : List Str} {sp sp' : Sp} (F : FnG P w K mg base k f fd ps sp) (h : ∀ vs H Q E, sp' vs H Q E → sp vs H Q E) : FnG P w K mg base k f fd ps sp' :=
  ⟨fun vs H Q E z => F.len vs H Q E (h _ _ _ _ z), fun A outer s H args us vs Q E hr hg e hb hv z => F.run A outer s H args us vs Q E hr hg e hb hv (h _ _ _ _ z)⟩
section
variable {X : Cx} {k : Nat} {f : Addr} {fd : FuncData} {ps : List Str} {sp : Sp}
theorem run_fnG {pins : List (Addr × Obj)} {σ : L2.St} {H : Hp} {s : Shared} {Q : VK} {us : List Value} {vs : List V} (F : FnG X.prog X.w X.K X.mg X.base k f fd ps sp) (hr : Room k X.A) (hg : X.A.guards = some []) (hb : Binds X.K fd ps [])
    (I : L2.Inv X pins σ H s) (r : Vals vs us) (h : sp vs H Q E0) : wpAny (model X.prog X.w) X.A (call (.ref f) us) (EP X pins σ Q) X.xe s := by
  have hl : (us ++ []).length = ps.length := by rw [List.append_nil, ← r.length]; exact F.len _ _ _ _ h
  have b0 := hb s us I.kIn hl
  rw [List.append_nil] at b0
  refine wpAny_call (codeAny_mono (F.run X.A X.stack s H ⟨us, []⟩ us vs Q E0 hr hg I.env0 b0 r h) fun z s' hz => ?_)
  cases z with
  | error e => exact False.elim hz
  | ok fl => cases fl with
    | ret u => exact I.after hz
    | next => exact False.elim hz
    | brk => exact False.elim hz
    | cont => exact False.elim hz
/-- f() -/
theorem pe_callG0 {x : Str} {p pos : Pos} (F : FnG X.prog X.w X.K X.mg X.base k f fd ps sp) (hr : Room k X.A) (hg : X.A.guards = some []) (gl : Gl X x) (hm : X.mg x = some (.ref f)) (hk : PySem.W.keepIn X.K (.ref f) = true) (hb : Binds X.K fd ps [])
    (hdb : (x == ("__debug__" : Str)) = false) : PE X (.Call (.Name x p) [] [] pos) (fun σ H Q => sp [] H Q E0) :=
  ⟨fun pins s σ H Q I h => wpAny_Call_Name_kw (ld_glob I gl hm (PySem.W.callWith_K0 I.kIn hk (run_fnG (us := []) F hr hg hb I .nil h)) hdb)⟩
/-- f(a, ..) -/
theorem pe_callG {x : Str} {p pos : Pos} {e : Expr} {r : List Expr} {t : TA} (F : FnG X.prog X.w X.K X.mg X.base k f fd ps sp) (hr : Room k X.A) (hg : X.A.guards = some []) (gl : Gl X x) (hm : X.mg x = some (.ref f)) (hk : PySem.W.keepIn X.K (.ref f) = true) (hb : Binds X.K fd ps [])
    (ha : PA X (e :: r) t) (hdb : (x == ("__debug__" : Str)) = false) (h1 : isSt e = false) (h2 : (backTo pos (starEach r X.env)).any (·.1) = false) :
    PE X (.Call (.Name x p) (e :: r) [] pos) (fun σ H Q => t σ H fun vs H1 => sp vs H1 Q E0) := by
  refine ⟨fun pins s σ H Q I h => wpAny_Call_Name_kw (ld_glob I gl hm ?_ hdb)⟩
  exact PySem.W.callWith_K (h₀ := X.base) I.ok.mod.kin hk (thn (ha.run pos pins s σ H _ I h) fun us s1 ⟨vs, H1, I1, r1, q1⟩ => ⟨I1.kIn, run_fnG F hr hg hb I1 r1 q1⟩) (star_plain h1 r X.env) h2
end
abbrev FnP (K : PySem.W.Frag) (x qual : Str) (st : Stmt) (f : Addr) (fd : FuncData) : Prop := FunD K x qual (defArgs st) (defBody st) (defScope st) [] [] f fd
/-- a def of the text, by its body -/
theorem fnG_of {P : Program} {w : World} {K : PySem.W.Frag} {mg : Str → Option Value} {base : Heap} {k : Nat} {f : Addr} {x qual : Str} {st : Stmt} {fd : FuncData} {N ps : List Str} {sp : Sp} (F : FnP K x qual st f fd) (S : FnScope N ps (defScope st))
    (len : ∀ vs H Q E, sp vs H Q E → vs.length = ps.length)
    (hbody : ∀ (cdv : Value) (A : Around) (outer : List PySem.Env) (s : Shared) (H : Hp) (vs : List V) (Q : VK) (E : XK), Room k (A.deeper (envOfC qual (defScope st) s.heap.objs.size f cdv)) → A.guards = some [] → sp vs H Q E →
      ∃ t, PSs (cxOf CX0 P w K mg base N qual (defScope st) f cdv A outer s H E).nox (defBody st) t ∧ t { nx := fun _ H' => Q .non H', rt := Q } (start N vs) H) : FnG P w K mg base (k + 1) f fd ps sp := by
  obtain ⟨oc, od, dV, kV, doc, pm, an, cdv, ct, osl, rfl, lk, hcd, _, _⟩ := F.ex
  refine ⟨len, fun A outer s H args us vs Q E hr hg e0 hb r hsp => ?_⟩
  have hl := len _ _ _ _ hsp
  have kin : K.In s.heap := e0.mod.kin.keeps fun b o e => (e0.bs b o e).1
  have lim : s.heap.NoLimit := e0.mod.nolimit.keeps fun b o e => (e0.bs b o e).1
  have kinds : ∀ y ∈ ps.zip us, (defScope st).names.lookup y.1 = some .local ∨ ((defScope st).names.lookup y.1 = some .cell ∧ ((cellsFrom (s.heap.objs.size + 1) (defScope st).names []).lookup y.1).isSome = true) := fun ⟨m, v⟩ hy => by
    rcases S.par m (List.of_mem_zip hy).1 with z | z
    · exact .inl z
    · exact .inr ⟨z, PySem.W.cellsFrom_some _ _ _ (.inl z)⟩
  refine codeAny_call_function hr.depth (kin _ _ lk) rfl S.co S.gen rfl (PySem.W.codeRec_of kin hcd) (hb _ _ _ _ (wpAny_newFunctionEnv_cells S.kind kinds fun env he s1 x => ?_))
  subst he
  refine ⟨lim.keeps x.toInCall.keep, codeAny_func ?_⟩
  obtain ⟨t, ht, hq⟩ := hbody cdv A outer s H vs Q E (hr.deeper _) hg hsp
  have I : L2.Inv (cxOf CX0 P w K mg base N qual (defScope st) f cdv A outer s H E) [] (start N vs) H s1 := inv_start S hr.hd e0 hl r x
  refine wpAny_mono (ht.nox.run [] s1 (start N vs) H _ I hq) (fun fl s' z => ?_) fun e s' z => z
  cases fl with
  | ret u =>
    obtain ⟨v, σ', H', J, rv, q⟩ := z
    exact ⟨v, H', J.os, J.bare, J.base, J.hok, rv, q⟩
  | next =>
    obtain ⟨σ', H', J, q⟩ := z
    exact ⟨.non, H', J.os, J.bare, J.base, J.hok, rfl, q⟩
  | brk =>
    obtain ⟨_, _, _, q⟩ := z
    exact False.elim q
  | cont =>
    obtain ⟨_, _, _, q⟩ := z
    exact False.elim q
end Pc

set_option Elab.async false
set_option linter.all false
set_option maxRecDepth 100000
set_option maxHeartbeats 4000000
/-! # Soundness 1: slots, readings -/
namespace Pc
open PySem L2 PyProof.Rows

theorem bind_ok {α β : Type} {m : M α} {f : α → M β} {w w2 : WS} {b : β} (h : M.bind m f w = .ok b w2) : ∃ a w1, m w = .ok a w1 ∧ f a w1 = .ok b w2 := by
  unfold M.bind R.bind at h
  split at h
  · exact ⟨_, _, by assumption, h⟩
  · cases h
theorem of_ok {α : Type} {o : Option α} {w w1 : WS} {a : α} (h : M.of o w = .ok a w1) : o = some a ∧ w = w1 := by
  unfold M.of at h
  split at h
  · cases h; exact ⟨rfl, rfl⟩
  · cases h
theorem ok_ok {α : Type} {a b : α} {w w1 : WS} (h : M.ok a w = .ok b w1) : a = b ∧ w = w1 := by
  cases h; exact ⟨rfl, rfl⟩
theorem stuck_ok {α : Type} {b : α} {w w1 : WS} (h : (M.stuck : M α) w = .ok b w1) : False := by cases h

/-! ### slots -/
section
variable {S : Sx} {σ : L2.St} {env : SEnv} {H : Hp} {ws : WS}
theorem ownAt_set {i : Nat} {v : V} {d : D} {a : Addr} (h : ownAt (σ.set i (some v)) (env.set i (.imm d)) a) : ownAt σ env a := by
  obtain ⟨j, e, h1, h2⟩ := h
  by_cases hj : i = j
  · subst hj
    by_cases hl : i < env.length
    · rw [List.getElem?_set_self hl] at h1; cases h1
    · rw [List.getElem?_eq_none (by simpa using hl)] at h1; cases h1
  · rw [List.getElem?_set_ne hj] at h1 h2
    exact ⟨j, e, h1, h2⟩
theorem ownAt_keep {i : Nat} {v : V} {d : D} {a : Addr} (h : ownAt σ env a) (hn : ∀ e, env[i]? ≠ some (.own e)) : ownAt (σ.set i (some v)) (env.set i (.imm d)) a := by
  obtain ⟨j, e, h1, h2⟩ := h
  have hj : i ≠ j := fun z => by subst z; exact hn e h1
  exact ⟨j, e, by rw [List.getElem?_set_ne hj]; exact h1, by rw [List.getElem?_set_ne hj]; exact h2⟩
theorem Den.less {C C' : Cc} {v : V} {d : D} (h : Den C H v d) (ho : ∀ a, C'.O a → C.O a) (ek : C'.K = C.K) (ew : C'.wa = C.wa) : Den C' H v d :=
  h.step (fun a o e n => ⟨e, fun z => n (ho a z)⟩) ek ew
theorem DenL.less {C C' : Cc} {v : List V} {d : List D} (h : DenL C H v d) (ho : ∀ a, C'.O a → C.O a) (ek : C'.K = C.K) (ew : C'.wa = C.wa) : DenL C' H v d :=
  h.step (fun a o e n => ⟨e, fun z => n (ho a z)⟩) ek ew
theorem HpOk.less {C C' : Cc} (h : HpOk C H ws) (ho : ∀ a, C'.O a → C.O a) (ew : C'.wa = C.wa) (hw : ∀ w, C'.wa = some w → C'.O w.m ∧ C'.O w.g) : HpOk C' H ws :=
  ⟨by rw [ew]; exact h.w, fun a z => h.al a (ho a z), hw⟩
/-- a slot gets data -/
theorem EnvOk.setImm {i : Nat} {v : V} {d : D} (e : EnvOk S σ env H) (h : Den (S.cc σ env) H v d) (hi : i < env.length) : EnvOk S (σ.set i (some v)) (env.set i (.imm d)) H := by
  have ho : ∀ a, (S.cc (σ.set i (some v)) (env.set i (.imm d))).O a → (S.cc σ env).O a := fun a z => z.elim .inl fun z => .inr (ownAt_set z)
  have hs : i < σ.length := by rw [← e.len]; exact hi
  refine ⟨by rw [List.length_set, List.length_set]; exact e.len, fun j c hj => ?_, fun j c hj => ?_, fun j c hj => ?_, fun j k c c' a h1 h2 h3 h4 => ?_, e.wo, e.bo⟩
  · by_cases q : i = j
    · subst q
      rw [List.getElem?_set_self hi] at hj
      cases hj
      exact ⟨v, List.getElem?_set_self hs, h.less ho rfl rfl⟩
    · rw [List.getElem?_set_ne q] at hj ⊢
      obtain ⟨u, h1, h2⟩ := e.imm j c hj
      exact ⟨u, h1, h2.less ho rfl rfl⟩
  · by_cases q : i = j
    · subst q
      rw [List.getElem?_set_self hi] at hj
      cases hj
    · rw [List.getElem?_set_ne q] at hj ⊢
      obtain ⟨a, xs, ds, h1, h2, h3, h4, h5⟩ := e.own j c hj
      exact ⟨a, xs, ds, h1, h2, h3, h4.less ho rfl rfl, h5⟩
  · by_cases q : i = j
    · subst q
      rw [List.getElem?_set_self hi] at hj
      cases hj
    · rw [List.getElem?_set_ne q] at hj ⊢
      obtain ⟨a, xs, ds, h1, h2, h3, h4, h5⟩ := e.bor j c hj
      exact ⟨a, xs, ds, h1, h2, h3, h4.less ho rfl rfl, h5⟩
  · have nj : i ≠ j := fun z => by subst z; rw [List.getElem?_set_self hi] at h1; cases h1
    have nk : i ≠ k := fun z => by subst z; rw [List.getElem?_set_self hi] at h2; cases h2
    rw [List.getElem?_set_ne nj] at h1 h3
    rw [List.getElem?_set_ne nk] at h2 h4
    exact e.inj j k c c' a h1 h2 h3 h4
theorem HpOk.setImm {i : Nat} {v : V} {d : D} (e : EnvOk S σ env H) (x : HpOk (S.cc σ env) H ws) : HpOk (S.cc (σ.set i (some v)) (env.set i (.imm d))) H ws :=
  x.less (fun a z => z.elim .inl fun z => .inr (ownAt_set z)) rfl fun w ew => ⟨.inl (e.wo w ew).1, .inl (e.wo w ew).2⟩
/-- slots forgotten -/
theorem wipe_len (env : SEnv) : ∀ l : List Nat, (wipe env l).length = env.length
  | [] => rfl
  | v :: vs => by unfold wipe; rw [List.length_set, wipe_len env vs]
theorem wipe_at {env : SEnv} {i : Nat} {s : Sl} (hs : s ≠ .un) : ∀ {l : List Nat}, (wipe env l)[i]? = some s → env[i]? = some s ∧ i ∉ l
  | [], h => ⟨h, by simp⟩
  | v :: vs, h => by
    unfold wipe at h
    by_cases q : v = i
    · subst q
      by_cases hl : v < (wipe env vs).length
      · rw [List.getElem?_set_self hl] at h
        cases h
        exact absurd rfl hs
      · rw [List.getElem?_eq_none (by simpa using hl)] at h; cases h
    · rw [List.getElem?_set_ne q] at h
      obtain ⟨h1, h2⟩ := wipe_at hs h
      exact ⟨h1, by simp only [List.mem_cons, not_or]; exact ⟨fun z => q z.symm, h2⟩⟩
theorem wipe_of {env : SEnv} {i : Nat} : ∀ {l : List Nat}, i ∉ l → (wipe env l)[i]? = env[i]?
  | [], _ => rfl
  | v :: vs, h => by
    simp only [List.mem_cons, not_or] at h
    unfold wipe
    rw [List.getElem?_set_ne (Ne.symm h.1), wipe_of h.2]
theorem noOwn_at {env : SEnv} {l : List Nat} (h : noOwn env l = true) {i : Nat} (hi : i ∈ l) (e : D) : env[i]? ≠ some (.own e) := by
  intro z
  have q := List.all_eq_true.mp h i hi
  rw [z] at q
  cases q
theorem ownAt_wipe {l : List Nat} (hn : noOwn env l = true) (a : Addr) : ownAt (L2.wipe σ l) (wipe env l) a ↔ ownAt σ env a := by
  constructor
  · rintro ⟨i, d, h1, h2⟩
    obtain ⟨h1, hi⟩ := wipe_at (by intro z; cases z) h1
    exact ⟨i, d, h1, (L2.wipe_some h2).1⟩
  · rintro ⟨i, d, h1, h2⟩
    have hi : i ∉ l := fun z => noOwn_at hn z d h1
    exact ⟨i, d, by rw [wipe_of hi]; exact h1, by rw [L2.wipe_out hi]; exact h2⟩
theorem cc_wipe {l : List Nat} (hn : noOwn env l = true) : S.cc (L2.wipe σ l) (wipe env l) = S.cc σ env := by
  have q : ownAt (L2.wipe σ l) (wipe env l) = ownAt σ env := funext fun a => propext (ownAt_wipe hn a)
  unfold Sx.cc
  rw [q]
theorem EnvOk.wipe {l : List Nat} (e : EnvOk S σ env H) (hn : noOwn env l = true) : EnvOk S (L2.wipe σ l) (Pc.wipe env l) H := by
  refine ⟨by rw [wipe_len, L2.wipe_length]; exact e.len, fun i d h => ?_, fun i d h => ?_, fun i d h => ?_, fun i j d d' a h1 h2 h3 h4 => ?_, e.wo, e.bo⟩
  · obtain ⟨h, hi⟩ := wipe_at (by intro z; cases z) h
    rw [cc_wipe hn, L2.wipe_out hi]
    exact e.imm i d h
  · obtain ⟨h, hi⟩ := wipe_at (by intro z; cases z) h
    rw [cc_wipe hn, L2.wipe_out hi]
    exact e.own i d h
  · obtain ⟨h, hi⟩ := wipe_at (by intro z; cases z) h
    rw [cc_wipe hn, L2.wipe_out hi]
    exact e.bor i d h
  · obtain ⟨k1, i1⟩ := wipe_at (by intro z; cases z) h1
    obtain ⟨k2, i2⟩ := wipe_at (by intro z; cases z) h2
    exact e.inj i j d d' a k1 k2 (L2.wipe_some h3).1 (L2.wipe_some h4).1
theorem cc_set {i : Nat} {v : V} {d : D} (hn : ∀ e, env[i]? ≠ some (.own e)) : S.cc (σ.set i (some v)) (env.set i (.imm d)) = S.cc σ env := by
  have q : ownAt (σ.set i (some v)) (env.set i (.imm d)) = ownAt σ env := funext fun a => propext ⟨ownAt_set, fun z => ownAt_keep z hn⟩
  unfold Sx.cc
  rw [q]
end

/-! ### calls -/
inductive ArgOk (C : Cc) (H : Hp) : V → Sl → Prop where
  | imm {v : V} {d : D} (h : Den C H v d) : ArgOk C H v (.imm d)
  | bor {a : Addr} {xs : List V} {ds : List D} (h : H a = some (.lst xs)) (o : C.O a) (n : ∀ w, C.wa = some w → a ≠ w.m ∧ a ≠ w.g) (l : DenL C H xs ds) : ArgOk C H (.ref a) (.bor (.lst ds))
inductive ArgsOk (C : Cc) (H : Hp) : List V → List Sl → Prop where
  | nil : ArgsOk C H [] []
  | cons {v : V} {vs : List V} {s : Sl} {ss : List Sl} (h : ArgOk C H v s) (t : ArgsOk C H vs ss) : ArgsOk C H (v :: vs) (s :: ss)
theorem ArgOk.keep {C : Cc} {H H' : Hp} {ws : WS} (x : HpOk C H ws) (k : Keep C.wa H H') {v : V} {s : Sl} (h : ArgOk C H v s) : ArgOk C H' v s := by
  cases h with
  | imm h => exact .imm (h.keep x k)
  | bor h o n l => exact .bor (k _ _ h n) o n (l.keep x k)
theorem ArgsOk.keep {C : Cc} {H H' : Hp} {ws : WS} (x : HpOk C H ws) (k : Keep C.wa H H') : ∀ {vs : List V} {ss : List Sl}, ArgsOk C H vs ss → ArgsOk C H' vs ss
  | _, _, .nil => .nil
  | _, _, .cons h t => .cons (h.keep x k) (ArgsOk.keep x k t)
theorem ArgsOk.length {C : Cc} {H : Hp} : ∀ {vs : List V} {ss : List Sl}, ArgsOk C H vs ss → vs.length = ss.length
  | _, _, .nil => rfl
  | _, _, .cons _ t => by simp [t.length]
/-- what a def promises, by what it is worth -/
def spF (K : PySem.W.Frag) (fr : Bool) (np : Nat) (g : List Sl → M D) : Sp := fun vs H Q _ => ∃ (C : Cc) (as : List Sl) (ws ws' : WS) (d : D), C.K = K ∧ (∀ w, C.wa = some w → C.O w.c) ∧ vs.length = np ∧ ArgsOk C H vs as ∧ HpOk C H ws ∧ g as ws = .ok d ws' ∧
  ∀ v H', Keep C.wa H H' → HpOk C H' ws' → Den C H' v d → (fr = true → Fresh C H H' v d) → Q v H'
def spDraw (K : PySem.W.Frag) : Sp := fun vs H Q _ => ∃ (C : Cc) (w : Wa) (ws ws' : WS) (l i : Int), C.K = K ∧ C.wa = some w ∧ vs = [.ref w.m, .int l] ∧ HpOk C H ws ∧ drawW ws l = some (i, ws') ∧
  ∀ H', Keep C.wa H H' → HpOk C H' ws' → Q (.int i) H'
def bltNames : List Str := [Str.ofString "len", Str.ofString "all", Str.ofString "any", Str.ofString "sum", Str.ofString "min", Str.ofString "max", Str.ofString "sorted", Str.ofString "tuple", Str.ofString "list", Str.ofString "int",
  Str.ofString "abs", Str.ofString "repr", Str.ofString "bool", Str.ofString "str", Str.ofString "range", Str.ofString "enumerate", Str.ofString "zip", Str.ofString "isinstance"]
def dName : Str := Str.ofString "_law_draw"
/-- the context: names, scope, what stands behind the names -/
structure GX (n : Nx) (S : Sx) (fr : Nat → Bool) (cl : Nat → List Sl → M D) (gl : Nat → D) (k : Kx) (X : Cx) : Prop where
  N : X.N = n.N
  nd : n.N.Nodup
  sc : X.env.scope = k.sc
  fn : X.fn = k.fn
  K : X.K = S.K
  calm : X.calm = true
  guards : X.A.guards = some []
  room : X.A.units + 80 < cLine
  po : PassesOwn (model X.prog X.w) X.A X.env X.xe
  blt : ∀ x ∈ bltNames, X.mg x = none
  con : ∀ g x, n.cn g = some x → ∃ u v, X.mg x = some u ∧ RelV v u ∧ ∀ C H, C.K = S.K → Den C H v (gl g)
  call : ∀ f x, n.fn f = some x → ∃ (ad : Addr) (fd : FuncData) (ps : List Str) (j : Nat), X.mg x = some (.ref ad) ∧ PySem.W.keepIn X.K (.ref ad) = true ∧ Binds X.K fd ps [] ∧ Room j X.A ∧
    FnG X.prog X.w X.K X.mg X.base j ad fd ps (spF S.K (fr f) ps.length (cl f)) ∧ ∀ as ws d ws', cl f as ws = .ok d ws' → as.length = ps.length
  draw : n.dr = true → ∃ (ad : Addr) (fd : FuncData) (ps : List Str) (j : Nat), X.mg dName = some (.ref ad) ∧ PySem.W.keepIn X.K (.ref ad) = true ∧ Binds X.K fd ps [] ∧ Room j X.A ∧ FnG X.prog X.w X.K X.mg X.base j ad fd ps (spDraw S.K)

section
variable (S : Sx) (fr : Nat → Bool) (cl : Nat → List Sl → M D) (gl : Nat → D)
/-- what is wanted behind an expression -/
def Post (C : Cc) (H : Hp) (m f : Bool) (d : D) (ws' : WS) (Q : VK) : Prop :=
  ∀ v H', Keep C.wa H H' → HpOk C H' ws' → DenM C H' m v d → (f = true → Fresh C H H' v d) → Q v H'
def tE (e : Ex) (m : Bool) : TE := fun σ H Q => ∃ (env : SEnv) (ws : WS) (d : D) (ws' : WS), EnvOk S σ env H ∧ HpOk (S.cc σ env) H ws ∧ ev cl gl e m env ws = .ok d ws' ∧ Post (S.cc σ env) H m (freshEx fr e) d ws' Q
def tT (e : Ex) : TT := fun σ H Q => ∃ (env : SEnv) (ws : WS) (d : D) (ws' : WS) (c : Bool), EnvOk S σ env H ∧ HpOk (S.cc σ env) H ws ∧ ev cl gl e true env ws = .ok d ws' ∧ truth d = some c ∧ ∀ H', Keep S.wa H H' → HpOk (S.cc σ env) H' ws' → Q c H'
def tB (and : Bool) (es : Exs) : TE := fun σ H Q => ∃ (env : SEnv) (ws : WS) (d : D) (ws' : WS), EnvOk S σ env H ∧ HpOk (S.cc σ env) H ws ∧ evB cl gl and es env ws = .ok d ws' ∧ Post (S.cc σ env) H false false d ws' Q
def tBT (and : Bool) (es : Exs) : TT := fun σ H Q => ∃ (env : SEnv) (ws : WS) (d : D) (ws' : WS) (c : Bool), EnvOk S σ env H ∧ HpOk (S.cc σ env) H ws ∧ evB cl gl and es env ws = .ok d ws' ∧ truth d = some c ∧ ∀ H', Keep S.wa H H' → HpOk (S.cc σ env) H' ws' → Q c H'
def tEs (es : Exs) : TA := fun σ H Q => ∃ (env : SEnv) (ws : WS) (ds : List D) (ws' : WS), EnvOk S σ env H ∧ HpOk (S.cc σ env) H ws ∧ evs cl gl es env ws = .ok ds ws' ∧
  ∀ vs H', Keep S.wa H H' → HpOk (S.cc σ env) H' ws' → DenL (S.cc σ env) H' vs ds → Q vs H'
def tAs (es : Exs) : TA := fun σ H Q => ∃ (env : SEnv) (ws : WS) (ds : List D) (ws' : WS), EnvOk S σ env H ∧ HpOk (S.cc σ env) H ws ∧ evAs cl gl es env ws = .ok ds ws' ∧
  ∀ vs H', Keep S.wa H H' → HpOk (S.cc σ env) H' ws' → DenMs (S.cc σ env) H' vs ds → Q vs H'
def tArgs (es : Exs) : TA := fun σ H Q => ∃ (env : SEnv) (ws : WS) (as : List Sl) (ws' : WS), EnvOk S σ env H ∧ HpOk (S.cc σ env) H ws ∧ evArgs cl gl es env ws = .ok as ws' ∧
  ∀ vs H', Keep S.wa H H' → HpOk (S.cc σ env) H' ws' → ArgsOk (S.cc σ env) H' vs as → Q vs H'
end
theorem PE.imp {X : Cx} {e : Expr} {t t' : TE} (h : PE X e t) (i : ∀ σ H Q, t' σ H Q → t σ H Q) : PE X e t' := ⟨fun pins s σ H Q I z => h.run pins s σ H Q I (i σ H Q z)⟩
theorem PT.imp {X : Cx} {e : Expr} {t t' : TT} (h : PT X e t) (i : ∀ σ H Q, t' σ H Q → t σ H Q) : PT X e t' := ⟨fun pins s σ H Q I z => h.run pins s σ H Q I (i σ H Q z)⟩
theorem PW.imp {X : Cx} {e : Expr} {t t' : TT} (h : PW X e t) (i : ∀ σ H Q, t' σ H Q → t σ H Q) : PW X e t' := ⟨fun wh pins s σ H Q I z => h.run wh pins s σ H Q I (i σ H Q z)⟩
theorem PA.imp {X : Cx} {e : List Expr} {t t' : TA} (h : PA X e t) (i : ∀ σ H Q, t' σ H Q → t σ H Q) : PA X e t' := ⟨fun pos pins s σ H Q I z => h.run pos pins s σ H Q I (i σ H Q z)⟩
theorem PS.imp {X : Cx} {e : Stmt} {t t' : TS} (h : PS X e t) (i : ∀ Dd σ H, t' Dd σ H → t Dd σ H) : PS X e t' := ⟨fun pins s σ H Q I z => h.run pins s σ H Q I (i Q σ H z)⟩
theorem PSs.imp {X : Cx} {e : List Stmt} {t t' : TS} (h : PSs X e t) (i : ∀ Dd σ H, t' Dd σ H → t Dd σ H) : PSs X e t' := ⟨fun pins s σ H Q I z => h.run pins s σ H Q I (i Q σ H z)⟩
theorem tru_of {C : Cc} {H : Hp} {v : V} {d : D} {c : Bool} (h : DenM C H true v d) (e : truth d = some c) : TruV C.K v H c := by
  cases d with
  | none => cases h.nonV; cases e; rfl
  | bool b => cases h.blV; cases e; rfl
  | int i => cases h.intV; cases e; rfl
  | str x =>
    cases h.strV
    simp only [truth] at e
    split at e
    · rename_i hl
      cases e
      refine ⟨by rw [← line_eq]; exact hl, ?_⟩
      rw [Bool.eq_iff_iff]
      simp
    · cases e
  | tup xs =>
    obtain ⟨a, vs, rfl, s, l⟩ := h.tupV
    cases e
    exact .inr (.inl ⟨vs, s.sq, by rw [l.empty]⟩)
  | lst xs =>
    obtain ⟨a, vs, rfl, s, l⟩ := h.list
    cases e
    exact .inl ⟨vs, .of s, by rw [l.empty]⟩
  | rep d => cases e
  | world => cases e
  | scr is => cases e
end Pc

set_option Elab.async false
set_option linter.all false
set_option maxRecDepth 100000
set_option maxHeartbeats 4000000
/-! # Soundness 2: expressions, construct by construct -/
namespace Pc
open PySem L2 PyProof.Rows StX
section
variable {n : Nx} {S : Sx} {fr : Nat → Bool} {cl : Nat → List Sl → M D} {gl : Nat → D} {k : Kx} {X : Cx}

theorem plain_parts {x : Str} (h : plainN x = true) : (x == ("__debug__" : Str)) = false ∧ (x == ("__classdict__" : Str)) = false ∧ x ≠ "__name__" := by
  unfold plainN at h
  simp only [Bool.and_eq_true, beq_iff_eq] at h
  obtain ⟨⟨h1, h2⟩, h3⟩ := h
  exact ⟨h1, h2, fun z => by rw [z] at h3; exact absurd h3 (by decide)⟩
theorem GX.vis (g : GX n S fr cl gl k X) {x : Str} (h : visB k.sc x = true) : Vis X.env.scope x := by rw [g.sc]; exact vis_of h
theorem GX.glob (g : GX n S fr cl gl k X) {x : Str} (h : glB k.sc x = true) : Gl X x := by
  show X.env.scope.names.lookup x = _
  rw [g.sc]
  exact gl_of h
theorem GX.name (g : GX n S fr cl gl k X) {i : Nat} {x : Str} (h : n.N[i]? = some x) : X.N[i]? = some x := by rw [g.N]; exact h
theorem GX.ndx (g : GX n S fr cl gl k X) : X.N.Nodup := by rw [g.N]; exact g.nd

theorem s_var (g : GX n S fr cl gl k X) {i : Nat} {x : Expr} (h : chk n k (.var i) x = true) (m : Bool) : PE X x (tE S fr cl gl (.var i) m) := by
  unfold chk at h
  split at h
  · rename_i y pos
    simp only [Bool.and_eq_true, decide_eq_true_eq] at h
    obtain ⟨⟨h1, h2⟩, h3⟩ := h
    obtain ⟨p1, p2, _⟩ := plain_parts h3
    refine PE.imp (pe_var (g.name h1) (g.vis h2) p1 p2) fun σ H Q z => ?_
    obtain ⟨env, ws, d, ws', E, O, e, P⟩ := z
    rw [ev] at e
    cases hd : env[i]? with
    | none => rw [hd] at e; exact (stuck_ok e).elim
    | some sl =>
      rw [hd] at e
      cases sl with
      | un => exact (stuck_ok (w := ws) e).elim
      | imm d' =>
        obtain ⟨rfl, rfl⟩ := ok_ok e
        obtain ⟨v, hv, dv⟩ := E.imm _ _ hd
        exact ⟨v, hv, P v H (Keep.refl _ _) O (.inl dv) (by intro z; cases z)⟩
      | own d' =>
        cases m with
        | false => exact (stuck_ok (w := ws) e).elim
        | true =>
          obtain ⟨rfl, rfl⟩ := ok_ok e
          obtain ⟨a, xs, ds, hv, rfl, ha, l, no⟩ := E.own _ _ hd
          exact ⟨_, hv, P _ H (Keep.refl _ _) O (.inr ⟨rfl, a, xs, ds, rfl, rfl, ha, l, fun w ew => ⟨fun q => no (q ▸ (E.wo w ew).1), fun q => no (q ▸ (E.wo w ew).2)⟩⟩) (by intro z; cases z)⟩
      | bor d' =>
        cases m with
        | false => exact (stuck_ok (w := ws) e).elim
        | true =>
          obtain ⟨rfl, rfl⟩ := ok_ok e
          obtain ⟨a, xs, ds, hv, rfl, ha, l, _, nw⟩ := E.bor _ _ hd
          exact ⟨_, hv, P _ H (Keep.refl _ _) O (.inr ⟨rfl, a, xs, ds, rfl, rfl, ha, l, nw⟩) (by intro z; cases z)⟩
  · cases h
theorem s_glo (g : GX n S fr cl gl k X) {i : Nat} {x : Expr} (h : chk n k (.glo i) x = true) (m : Bool) : PE X x (tE S fr cl gl (.glo i) m) := by
  unfold chk at h
  split at h
  · rename_i y pos
    simp only [Bool.and_eq_true, decide_eq_true_eq] at h
    obtain ⟨⟨h1, h2⟩, h3⟩ := h
    obtain ⟨p1, p2, _⟩ := plain_parts h3
    obtain ⟨u, v, hm, rv, dn⟩ := g.con _ _ h1
    refine PE.imp (pe_glob (g.glob h2) hm rv p1) fun σ H Q z => ?_
    obtain ⟨env, ws, d, ws', E, O, e, P⟩ := z
    rw [ev] at e
    obtain ⟨rfl, rfl⟩ := ok_ok e
    exact P v H (Keep.refl _ _) O (.inl (dn _ _ rfl)) (by intro z; cases z)
  · cases h
theorem s_cst {d0 : D} {x : Expr} (h : chk n k (.cst d0) x = true) (m : Bool) : PE X x (tE S fr cl gl (.cst d0) m) := by
  unfold chk at h
  split at h
  · rename_i c j pos
    have core : ∀ {v : V}, (∀ C H, Den C H v d0) → ∀ σ H Q, tE S fr cl gl (.cst d0) m σ H Q → tC v σ H Q := fun {v} dv σ H Q z => by
      obtain ⟨env, ws, d, ws', E, O, e, P⟩ := z
      rw [ev] at e
      obtain ⟨rfl, rfl⟩ := ok_ok e
      exact P v H (Keep.refl _ _) O (.inl (dv _ _)) (by intro z; cases z)
    unfold cstB at h
    split at h
    · exact PE.imp pe_non (core fun _ _ => .non)
    · cases (beq_iff_eq.mp h)
      exact PE.imp pe_bl (core fun _ _ => .bl _)
    · cases (beq_iff_eq.mp h)
      exact PE.imp pe_int (core fun _ _ => .int _)
    · cases (beq_iff_eq.mp h)
      exact PE.imp pe_str (core fun _ _ => .str _)
    · cases h
  · cases h
theorem s_bin (g : GX n S fr cl gl k X) {a b : Ex} {x y : Expr} {op : Operator} {pos : Pos} {m : Bool} (ha : PE X x (tE S fr cl gl a true)) (hb : PE X y (tE S fr cl gl b true)) : PE X (.BinOp x op y pos) (tE S fr cl gl (.bin op a b) m) := by
  refine PE.imp (pe_op (op_bin op) ha hb) fun σ H Q z => ?_
  obtain ⟨env, ws, d, ws', E, O, e, P⟩ := z
  rw [ev] at e
  obtain ⟨d1, w1, e1, e⟩ := bind_ok e
  obtain ⟨d2, w2, e2, e⟩ := bind_ok e
  obtain ⟨e3, rfl⟩ := of_ok e
  refine ⟨env, ws, d1, w1, E, O, e1, fun v1 H1 k1 O1 D1 _ => ⟨env, w1, d2, _, E.keep O k1, O1, e2, fun v2 H2 k2 O2 D2 _ => ?_⟩⟩
  exact ⟨S.cc σ env, _, d1, d2, d, g.K.symm, O2, D1.keep O1 k2, D2, e3, fun v H3 k3 O3 D3 f3 => P v H3 ((k1.trans k2).trans k3) O3 (.inl D3) fun _ => f3.up (k1.trans k2) O2.w⟩
theorem s_neg (g : GX n S fr cl gl k X) {a : Ex} {x : Expr} {pos : Pos} {m : Bool} (ha : PE X x (tE S fr cl gl a false)) : PE X (.UnaryOp .USub x pos) (tE S fr cl gl (.neg a) m) := by
  refine PE.imp (pe_un un_neg ha) fun σ H Q z => ?_
  obtain ⟨env, ws, d, ws', E, O, e, P⟩ := z
  rw [ev] at e
  obtain ⟨d1, w1, e1, e⟩ := bind_ok e
  split at e
  · obtain ⟨rfl, rfl⟩ := ok_ok e
    refine ⟨env, ws, _, _, E, O, e1, fun v1 H1 k1 O1 D1 _ => ⟨_, D1.intV, P _ _ k1 O1 (.inl (.int _)) (by intro z; cases z)⟩⟩
  · exact (stuck_ok e).elim
theorem s_not (g : GX n S fr cl gl k X) {a : Ex} {x : Expr} {pos : Pos} {m : Bool} (ha : PE X x (tE S fr cl gl a true)) : PE X (.UnaryOp .Not x pos) (tE S fr cl gl (.not a) m) := by
  refine PE.imp (pe_notT ha) fun σ H Q z => ?_
  obtain ⟨env, ws, d, ws', E, O, e, P⟩ := z
  rw [ev] at e
  obtain ⟨d1, w1, e1, e⟩ := bind_ok e
  obtain ⟨c, w2, e2, e⟩ := bind_ok e
  obtain ⟨f2, rfl⟩ := of_ok e2
  obtain ⟨rfl, rfl⟩ := ok_ok e
  exact ⟨env, ws, d1, _, E, O, e1, fun v1 H1 k1 O1 D1 _ => ⟨c, g.K ▸ tru_of D1 f2, P _ _ k1 O1 (.inl (.bl _)) (by intro z; cases z)⟩⟩
theorem s_notT (g : GX n S fr cl gl k X) {a : Ex} {x : Expr} {pos : Pos} (ha : PT X x (tT S cl gl a)) : PT X (.UnaryOp .Not x pos) (tT S cl gl (.not a)) := by
  refine PT.imp (pt_not ha) fun σ H Q z => ?_
  obtain ⟨env, ws, d, ws', c0, E, O, e, e0, P⟩ := z
  rw [ev] at e
  obtain ⟨d1, w1, e1, e⟩ := bind_ok e
  obtain ⟨c, w2, e2, e⟩ := bind_ok e
  obtain ⟨f2, rfl⟩ := of_ok e2
  obtain ⟨rfl, rfl⟩ := ok_ok e
  cases e0
  exact ⟨env, ws, d1, _, c, E, O, e1, f2, P⟩
theorem lastM (o1 o2 : CmpOp) (x y : Expr) (h : behindInMarks o2 y = false) : lastMarks [o1, o2] [x, y] = false := h
theorem chk_mark {n : Nx} {k : Kx} {a : Ex} {x : Expr} (h : chk n k a x = true) (op : CmpOp) : behindInMarks op x = false := by
  cases x <;> first | rfl | (exfalso; cases a <;> simp [chk] at h)
theorem s_cmp (g : GX n S fr cl gl k X) {a b : Ex} {x y : Expr} {op : CmpOp} {pos : Pos} {m : Bool} (hm : behindInMarks op y = false) (ha : PE X x (tE S fr cl gl a true)) (hb : PE X y (tE S fr cl gl b true)) :
    PE X (.Compare x [op] [y] pos) (tE S fr cl gl (.cmp op a b) m) ∧ PT X (.Compare x [op] [y] pos) (tT S cl gl (.cmp op a b)) := by
  have hu : X.A.units + 64 < cLine := by have := g.room; omega
  refine ⟨PE.imp (pe_cmpR (op_cmp op hu) ha hb hm) fun σ H Q z => ?_, PT.imp (pt_cmpR (op_cmp op hu) ha hb hm) fun σ H Q z => ?_⟩
  · obtain ⟨env, ws, d, ws', E, O, e, P⟩ := z
    rw [ev] at e
    obtain ⟨d1, w1, e1, e⟩ := bind_ok e
    obtain ⟨d2, w2, e2, e⟩ := bind_ok e
    obtain ⟨c, w3, e3, e⟩ := bind_ok e
    obtain ⟨f3, rfl⟩ := of_ok e3
    obtain ⟨rfl, rfl⟩ := ok_ok e
    refine ⟨env, ws, d1, w1, E, O, e1, fun v1 H1 k1 O1 D1 _ => ⟨env, w1, d2, _, E.keep O k1, O1, e2, fun v2 H2 k2 O2 D2 _ => ?_⟩⟩
    exact ⟨S.cc σ env, _, d1, d2, c, g.K.symm, O2, D1.keep O1 k2, D2, f3, P _ _ (k1.trans k2) O2 (.inl (.bl _)) (by intro z; cases z)⟩
  · obtain ⟨env, ws, d, ws', c0, E, O, e, e0, P⟩ := z
    rw [ev] at e
    obtain ⟨d1, w1, e1, e⟩ := bind_ok e
    obtain ⟨d2, w2, e2, e⟩ := bind_ok e
    obtain ⟨c, w3, e3, e⟩ := bind_ok e
    obtain ⟨f3, rfl⟩ := of_ok e3
    obtain ⟨rfl, rfl⟩ := ok_ok e
    cases e0
    refine ⟨env, ws, d1, w1, E, O, e1, fun v1 H1 k1 O1 D1 _ => ⟨env, w1, d2, _, E.keep O k1, O1, e2, fun v2 H2 k2 O2 D2 _ => ?_⟩⟩
    exact ⟨S.cc σ env, _, d1, d2, _, g.K.symm, O2, D1.keep O1 k2, D2, f3, _, rfl, P _ (k1.trans k2) O2⟩
theorem s_chain (g : GX n S fr cl gl k X) {a b c : Ex} {x y z : Expr} {o1 o2 : CmpOp} {pos : Pos} {m : Bool} (hm : behindInMarks o2 z = false) (ha : PE X x (tE S fr cl gl a true)) (hb : PE X y (tE S fr cl gl b true)) (hc : PE X z (tE S fr cl gl c true)) :
    PE X (.Compare x [o1, o2] [y, z] pos) (tE S fr cl gl (.chain o1 o2 a b c) m) ∧ PT X (.Compare x [o1, o2] [y, z] pos) (tT S cl gl (.chain o1 o2 a b c)) := by
  have hu : X.A.units + 64 < cLine := by have := g.room; omega
  have key : ∀ {σ : L2.St} {H : Hp} {Q : VK} {env : SEnv} {ws : WS} {d : D} {ws' : WS}, EnvOk S σ env H → HpOk (S.cc σ env) H ws → ev cl gl (.chain o1 o2 a b c) true env ws = .ok d ws' →
      (∀ bb H', d = .bool bb → Keep S.wa H H' → HpOk (S.cc σ env) H' ws' → Q (.bl bb) H') → tChain (rC2 X.K (cmpFn o1)) (rC2 X.K (cmpFn o2)) (tE S fr cl gl a true) (tE S fr cl gl b true) (tE S fr cl gl c true) σ H Q := by
    intro σ H Q env ws d ws' E O e P
    rw [ev] at e
    obtain ⟨d1, w1, e1, e⟩ := bind_ok e
    obtain ⟨d2, w2, e2, e⟩ := bind_ok e
    obtain ⟨c1, w3, e3, e⟩ := bind_ok e
    obtain ⟨f3, rfl⟩ := of_ok e3
    refine ⟨env, ws, d1, w1, E, O, e1, fun v1 H1 k1 O1 D1 _ => ⟨env, w1, d2, _, E.keep O k1, O1, e2, fun v2 H2 k2 O2 D2 _ => ?_⟩⟩
    refine ⟨S.cc σ env, _, d1, d2, c1, g.K.symm, O2, D1.keep O1 k2, D2, f3, c1, rfl, ?_⟩
    cases c1 with
    | true =>
      rw [if_pos rfl] at e ⊢
      obtain ⟨d3, w4, e4, e⟩ := bind_ok e
      obtain ⟨c2, w5, e5, e⟩ := bind_ok e
      obtain ⟨f5, rfl⟩ := of_ok e5
      obtain ⟨rfl, rfl⟩ := ok_ok e
      refine ⟨env, _, d3, _, (E.keep O k1).keep O1 k2, O2, e4, fun v3 H3 k3 O3 D3 _ => ?_⟩
      exact ⟨S.cc σ env, _, d2, d3, c2, g.K.symm, O3, D2.keep O2 k3, D3, f5, P _ _ rfl ((k1.trans k2).trans k3) O3⟩
    | false =>
      rw [if_neg Bool.false_ne_true] at e ⊢
      obtain ⟨rfl, rfl⟩ := ok_ok e
      exact P _ _ rfl (k1.trans k2) O2
  refine ⟨PE.imp (pe_chain (op_cmp o1 hu) (op_cmp o2 hu) ha hb hc (lastM _ _ _ _ hm)) fun σ H Q z => ?_, PT.imp (pt_chain (op_cmp o1 hu) (op_cmp o2 hu) ha hb hc (lastM _ _ _ _ hm)) fun σ H Q z => ?_⟩
  · obtain ⟨env, ws, d, ws', E, O, e, P⟩ := z
    have e' : ev cl gl (.chain o1 o2 a b c) true env ws = .ok d ws' := by rw [ev] at e ⊢; exact e
    exact key E O e' fun bb H' ed k1 O1 => P _ _ k1 O1 (.inl (ed ▸ .bl bb)) (by intro z; cases z)
  · obtain ⟨env, ws, d, ws', c0, E, O, e, e0, P⟩ := z
    refine key E O e fun bb H' ed k1 O1 => ⟨bb, rfl, ?_⟩
    subst ed
    cases e0
    exact P _ k1 O1
theorem s_ife (g : GX n S fr cl gl k X) {c a b : Ex} {t x y : Expr} {pos : Pos} {m : Bool} (hc : PT X t (tT S cl gl c)) (ha : PE X x (tE S fr cl gl a false)) (hb : PE X y (tE S fr cl gl b false)) : PE X (.IfExp t x y pos) (tE S fr cl gl (.ife c a b) m) := by
  refine PE.imp (pe_ifExp hc ha hb) fun σ H Q z => ?_
  obtain ⟨env, ws, d, ws', E, O, e, P⟩ := z
  rw [ev] at e
  obtain ⟨d1, w1, e1, e⟩ := bind_ok e
  obtain ⟨c1, w2, e2, e⟩ := bind_ok e
  obtain ⟨f2, rfl⟩ := of_ok e2
  refine ⟨env, ws, d1, _, c1, E, O, e1, f2, fun H1 k1 O1 => ?_⟩
  cases c1 with
  | true =>
    rw [if_pos rfl] at e ⊢
    exact ⟨env, _, d, _, E.keep O k1, O1, e, fun v H2 k2 O2 D2 _ => P v H2 (k1.trans k2) O2 (.inl D2.strict) (by intro z; cases z)⟩
  | false =>
    rw [if_neg Bool.false_ne_true] at e ⊢
    exact ⟨env, _, d, _, E.keep O k1, O1, e, fun v H2 k2 O2 D2 _ => P v H2 (k1.trans k2) O2 (.inl D2.strict) (by intro z; cases z)⟩
theorem s_tup (g : GX n S fr cl gl k X) {es : Exs} {xs : List Expr} {j : Nat} {pos : Pos} {m : Bool} (h : PA X xs (tEs S cl gl es)) : PE X (.Tuple xs j pos) (tE S fr cl gl (.tup es) m) := by
  refine PE.imp (pe_tup h) fun σ H Q z => ?_
  obtain ⟨env, ws, d, ws', E, O, e, P⟩ := z
  rw [ev] at e
  obtain ⟨ds, w1, e1, e⟩ := bind_ok e
  split at e
  · rename_i hl
    obtain ⟨rfl, rfl⟩ := ok_ok e
    refine ⟨env, ws, ds, _, E, O, e1, fun vs H1 k1 O1 D1 => ⟨by rw [D1.length, ← line_eq]; exact hl, fun p np => ?_⟩⟩
    exact P _ _ (k1.trans (.new np)) (O1.new np) (.inl (O1.tup np D1)) (by intro z; cases z)
  · exact (stuck_ok e).elim
theorem s_lst (g : GX n S fr cl gl k X) {es : Exs} {xs : List Expr} {pos : Pos} {m : Bool} (h : PA X xs (tEs S cl gl es)) : PE X (.List xs pos) (tE S fr cl gl (.lst es) m) := by
  refine PE.imp (pe_lst h) fun σ H Q z => ?_
  obtain ⟨env, ws, d, ws', E, O, e, P⟩ := z
  rw [ev] at e
  obtain ⟨ds, w1, e1, e⟩ := bind_ok e
  split at e
  · rename_i hl
    obtain ⟨rfl, rfl⟩ := ok_ok e
    refine ⟨env, ws, ds, _, E, O, e1, fun vs H1 k1 O1 D1 => ⟨by rw [D1.length, ← line_eq]; exact hl, fun p np => ?_⟩⟩
    exact P _ _ (k1.trans (.new np)) (O1.new np) (.inl (O1.lst np D1)) (fun _ => (O1.fresh np D1).up k1 O1.w)
  · exact (stuck_ok e).elim
theorem atI_of {C : Cc} {H : Hp} {xs : List V} {ds : List D} {i : Int} {d : D} (l : DenL C H xs ds) (e : ((place ds.length i).bind fun j => ds[j]?) = some d) : ∃ v, atI xs i = some v ∧ Den C H v d := by
  unfold place at e
  unfold atI ixN
  rw [l.length]
  rw [Option.bind_eq_some_iff] at e
  obtain ⟨j, e1, e2⟩ := e
  obtain ⟨v, e3, dv⟩ := l.get e2
  exact ⟨v, by rw [Option.bind_eq_some_iff]; exact ⟨j, e1, e3⟩, dv⟩
theorem chk_ix {a : Ex} {x : Expr} (h : chk n k a x = true) : PlainIx x := by
  intro o i
  cases x <;> first | rfl | (exfalso; cases a <;> simp [chk] at h)
theorem s_idx (g : GX n S fr cl gl k X) {a i : Ex} {x y : Expr} {pos : Pos} {m : Bool} (hp : PlainIx y) (ha : PE X x (tE S fr cl gl a true)) (hb : PE X y (tE S fr cl gl i false)) : PE X (.Subscript x y pos) (tE S fr cl gl (.idx a i) m) := by
  refine PE.imp (pe_ix ix_seq ha hb hp) fun σ H Q z => ?_
  obtain ⟨env, ws, d, ws', E, O, e, P⟩ := z
  rw [ev] at e
  obtain ⟨d1, w1, e1, e⟩ := bind_ok e
  obtain ⟨d2, w2, e2, e⟩ := bind_ok e
  obtain ⟨e3, rfl⟩ := of_ok e
  refine ⟨env, ws, d1, w1, E, O, e1, fun v1 H1 k1 O1 D1 _ => ⟨env, w1, d2, _, E.keep O k1, O1, e2, fun v2 H2 k2 O2 D2 _ => ?_⟩⟩
  have D1' := D1.keep O1 k2
  unfold idxFn at e3
  split at e3
  · cases D2.intV
    obtain ⟨p, xs, rfl, hs, l⟩ := D1'.list
    obtain ⟨v, ea, dv⟩ := atI_of l e3
    exact .inl ⟨p, xs, _, v, rfl, rfl, .of hs, ea, P v H2 (k1.trans k2) O2 (.inl dv) (by intro z; cases z)⟩
  · cases D2.intV
    obtain ⟨p, xs, rfl, hs, l⟩ := D1'.tupV
    obtain ⟨v, ea, dv⟩ := atI_of l e3
    exact .inr (.inl ⟨p, xs, _, v, rfl, rfl, g.K ▸ hs.sq, ea, P v H2 (k1.trans k2) O2 (.inl dv) (by intro z; cases z)⟩)
  · cases e3
def tO (S : Sx) (cl : Nat → List Sl → M D) (gl : Nat → D) (es : Exs) : L2.St → Hp → (Option Int → Hp → Prop) → Prop := fun σ H Q => ∃ (env : SEnv) (ws : WS) (o : Option Int) (ws' : WS), EnvOk S σ env H ∧ HpOk (S.cc σ env) H ws ∧ evOpt cl gl es env ws = .ok o ws' ∧
  ∀ H', Keep S.wa H H' → HpOk (S.cc σ env) H' ws' → Q o H'
theorem PO.imp {e : Option Expr} {t t' : L2.St → Hp → (Option Int → Hp → Prop) → Prop} (h : PO X e t) (i : ∀ σ H Q, t' σ H Q → t σ H Q) : PO X e t' := ⟨fun pins s σ H Q I z => h.run pins s σ H Q I (i σ H Q z)⟩
theorem bound_eq (m d : Nat) (i : Option Int) : HT.sIx m d i = bound m d i := by
  cases i with
  | none => rfl
  | some v =>
    show (if v < 0 then (v + (m : Int)).toNat else min v.toNat m) = if 0 ≤ v then min v.toNat m else (v + m).toNat
    by_cases h : v < 0
    · rw [if_pos h, if_neg (by omega)]
    · rw [if_neg h, if_pos (by omega)]
theorem cut_of {C : Cc} {H : Hp} {xs : List V} {ds : List D} (l : DenL C H xs ds) (lo hi : Option Int) : DenL C H (cutV xs lo hi) (cut ds lo hi) := by
  unfold cutV cut
  rw [bound_eq, bound_eq, l.length]
  exact (l.drop _).take _
theorem s_slice (g : GX n S fr cl gl k X) {a : Ex} {lo hi : Exs} {x : Expr} {l h : Option Expr} {p2 pos : Pos} {m : Bool} (ha : PE X x (tE S fr cl gl a true)) (hl : PO X l (tO S cl gl lo)) (hh : PO X h (tO S cl gl hi)) :
    PE X (.Subscript x (.Slice l h none p2) pos) (tE S fr cl gl (.slice a lo hi) m) := by
  refine PE.imp (pe_slice (SlR.or sl_list sl_tupA) ha hl hh) fun σ H Q z => ?_
  obtain ⟨env, ws, d, ws', E, O, e, P⟩ := z
  rw [ev] at e
  obtain ⟨d1, w1, e1, e⟩ := bind_ok e
  obtain ⟨o1, w2, e2, e⟩ := bind_ok e
  obtain ⟨o2, w3, e3, e⟩ := bind_ok e
  obtain ⟨e4, rfl⟩ := of_ok e
  refine ⟨env, ws, d1, w1, E, O, e1, fun v1 H1 k1 O1 D1 _ => ⟨env, w1, o1, w2, E.keep O k1, O1, e2, fun H2 k2 O2 => ⟨env, w2, o2, _, (E.keep O k1).keep O1 k2, O2, e3, fun H3 k3 O3 => ?_⟩⟩⟩
  have D3 := (D1.keep O1 k2).keep O2 k3
  have kk := (k1.trans k2).trans k3
  unfold sliceFn at e4
  split at e4
  · cases e4
    obtain ⟨p, xs, rfl, hs, l⟩ := D3.list
    exact .inl ⟨p, xs, rfl, .of hs, fun q nq => P _ _ (kk.trans (.new nq)) (O3.new nq) (.inl (O3.lst nq (cut_of l _ _))) (by intro z; cases z)⟩
  · cases e4
    obtain ⟨p, xs, rfl, hs, l⟩ := D3.tupV
    refine .inr ⟨p, xs, rfl, g.K ▸ hs.sq, fun z => ?_, fun _ q nq => P _ _ (kk.trans (.new nq)) (O3.new nq) (.inl (O3.tup nq (cut_of l _ _))) (by intro z; cases z)⟩
    have ec : cutV xs o1 o2 = xs := by
      unfold cutV
      rw [z.1, z.2]
      simp
    have l' := cut_of l o1 o2
    rw [ec] at l'
    exact P _ _ kk O3 (.inl (.tup hs l')) (by intro z; cases z)
  · cases e4
theorem s_optN : PO X none (tO S cl gl .nil) := PO.imp po_none fun σ H Q z => by
  obtain ⟨env, ws, d, ws', E, O, e, P⟩ := z
  rw [evOpt] at e
  obtain ⟨rfl, rfl⟩ := ok_ok e
  exact P H (Keep.refl _ _) O
theorem s_optS {a : Ex} {x : Expr} (ha : PE X x (tE S fr cl gl a false)) : PO X (some x) (tO S cl gl (.cons a .nil)) := PO.imp (po_some ha) fun σ H Q z => by
  obtain ⟨env, ws, d, ws', E, O, e, P⟩ := z
  rw [evOpt] at e
  obtain ⟨d1, w1, e1, e⟩ := bind_ok e
  split at e
  · obtain ⟨rfl, rfl⟩ := ok_ok e
    exact ⟨env, ws, _, _, E, O, e1, fun v1 H1 k1 O1 D1 _ => ⟨_, D1.intV, P H1 k1 O1⟩⟩
  · exact (stuck_ok e).elim
/-! ### rows of expressions -/
theorem s_nil : PA X [] (tEs S cl gl .nil) := PA.imp pa_nil fun σ H Q z => by
  obtain ⟨env, ws, d, ws', E, O, e, P⟩ := z
  rw [evs] at e
  obtain ⟨rfl, rfl⟩ := ok_ok e
  exact P [] H (Keep.refl _ _) O .nil
theorem s_cons {a : Ex} {r : Exs} {x : Expr} {xs : List Expr} (hx : isSt x = false) (ha : PE X x (tE S fr cl gl a false)) (hr : PA X xs (tEs S cl gl r)) : PA X (x :: xs) (tEs S cl gl (.cons a r)) := PA.imp (pa_cons ha hr (star_plain hx xs X.env)) fun σ H Q z => by
  obtain ⟨env, ws, d, ws', E, O, e, P⟩ := z
  rw [evs] at e
  obtain ⟨d1, w1, e1, e⟩ := bind_ok e
  obtain ⟨ds, w2, e2, e⟩ := bind_ok e
  obtain ⟨rfl, rfl⟩ := ok_ok e
  exact ⟨env, ws, d1, w1, E, O, e1, fun v1 H1 k1 O1 D1 _ => ⟨env, w1, ds, _, E.keep O k1, O1, e2, fun vs H2 k2 O2 D2 => P _ _ (k1.trans k2) O2 (.cons (D1.strict.keep O1 k2) D2)⟩⟩
theorem s_star (g : GX n S fr cl gl k X) {a : Ex} {r : Exs} {x : Expr} {xs : List Expr} {p : Pos} (ha : PE X x (tE S fr cl gl a true)) (hr : PA X xs (tEs S cl gl r)) : PA X (.Starred x p :: xs) (tEs S cl gl (.star a r)) := PA.imp (pa_star ha hr) fun σ H Q z => by
  obtain ⟨env, ws, d, ws', E, O, e, P⟩ := z
  rw [evs] at e
  obtain ⟨d1, w1, e1, e⟩ := bind_ok e
  cases ey : elemsOf d1 with
  | some ys =>
    rw [ey] at e
    obtain ⟨ds, w2, e2, e⟩ := bind_ok e
    obtain ⟨rfl, rfl⟩ := ok_ok e
    refine ⟨env, ws, d1, w1, E, O, e1, fun v1 H1 k1 O1 D1 _ => ?_⟩
    obtain ⟨p, zs, rfl, hs, l⟩ : ∃ p zs, v1 = .ref p ∧ (SqT X.K H1 p zs ∨ SqL X.K H1 p zs) ∧ DenL (S.cc σ env) H1 zs ys := by
      unfold elemsOf at ey
      split at ey
      · cases ey
        obtain ⟨p, zs, rfl, hs, l⟩ := D1.list
        exact ⟨p, zs, rfl, .inr (.of hs), l⟩
      · cases ey
        obtain ⟨p, zs, rfl, hs, l⟩ := D1.tupV
        exact ⟨p, zs, rfl, .inl (g.K ▸ hs.sq), l⟩
      · cases ey
    exact ⟨p, zs, rfl, hs, env, w1, ds, _, E.keep O k1, O1, e2, fun vs H2 k2 O2 D2 => P _ _ (k1.trans k2) O2 ((l.keep O1 k2).append D2)⟩
  | none =>
    rw [ey] at e
    exact (stuck_ok e).elim
theorem a_nil : PA X [] (tAs S cl gl .nil) := PA.imp pa_nil fun σ H Q z => by
  obtain ⟨env, ws, d, ws', E, O, e, P⟩ := z
  rw [evAs] at e
  obtain ⟨rfl, rfl⟩ := ok_ok e
  exact P [] H (Keep.refl _ _) O .nil
theorem a_cons {a : Ex} {r : Exs} {x : Expr} {xs : List Expr} (hx : isSt x = false) (ha : PE X x (tE S fr cl gl a true)) (hr : PA X xs (tAs S cl gl r)) : PA X (x :: xs) (tAs S cl gl (.cons a r)) := PA.imp (pa_cons ha hr (star_plain hx xs X.env)) fun σ H Q z => by
  obtain ⟨env, ws, d, ws', E, O, e, P⟩ := z
  rw [evAs] at e
  obtain ⟨d1, w1, e1, e⟩ := bind_ok e
  obtain ⟨ds, w2, e2, e⟩ := bind_ok e
  obtain ⟨rfl, rfl⟩ := ok_ok e
  exact ⟨env, ws, d1, w1, E, O, e1, fun v1 H1 k1 O1 D1 _ => ⟨env, w1, ds, _, E.keep O k1, O1, e2, fun vs H2 k2 O2 D2 => P _ _ (k1.trans k2) O2 (.cons (D1.keep O1 k2) D2)⟩⟩
theorem g_nil : PA X [] (tArgs S cl gl .nil) := PA.imp pa_nil fun σ H Q z => by
  obtain ⟨env, ws, d, ws', E, O, e, P⟩ := z
  rw [evArgs] at e
  obtain ⟨rfl, rfl⟩ := ok_ok e
  exact P [] H (Keep.refl _ _) O .nil
/-- a list of one's own (or a lent one) is lent; all else is handed over -/
theorem g_cons {a : Ex} {r : Exs} {x : Expr} {xs : List Expr} (hx : isSt x = false) (hv : ∀ i, a = .var i → ∃ y pos, x = .Name y pos ∧ X.N[i]? = some y ∧ Vis X.env.scope y ∧ (y == ("__debug__" : Str)) = false ∧ (y == ("__classdict__" : Str)) = false)
    (ha : (∀ i, a ≠ .var i) → ∀ m, PE X x (tE S fr cl gl a m)) (hn : (∀ i, a ≠ .var i) → ∀ env, ev cl gl a true env = ev cl gl a false env) (hr : PA X xs (tArgs S cl gl r)) : PA X (x :: xs) (tArgs S cl gl (.cons a r)) := by
  by_cases hw : ∃ i, a = .var i
  · obtain ⟨i, rfl⟩ := hw
    obtain ⟨y, pos, rfl, h1, h2, h3, h4⟩ := hv i rfl
    refine PA.imp (pa_cons (pe_var h1 h2 h3 h4) hr (star_plain hx xs X.env)) fun σ H Q z => ?_
    obtain ⟨env, ws, d, ws', E, O, e, P⟩ := z
    rw [evArgs] at e
    obtain ⟨d1, w1, e1, e⟩ := bind_ok e
    obtain ⟨ds, w2, e2, e⟩ := bind_ok e
    obtain ⟨rfl, rfl⟩ := ok_ok e
    rw [ev] at e1
    cases hd : env[i]? with
    | none => rw [hd] at e1; exact (stuck_ok e1).elim
    | some sl =>
      rw [hd] at e1
      simp only [hd] at P
      cases sl with
      | un => exact (stuck_ok (w := ws) e1).elim
      | imm d' =>
        obtain ⟨rfl, rfl⟩ := ok_ok e1
        obtain ⟨v, hv', dv⟩ := E.imm _ _ hd
        exact ⟨v, hv', env, _, ds, _, E, O, e2, fun vs H2 k2 O2 D2 => P _ _ k2 O2 (.cons (.imm (dv.keep O k2)) D2)⟩
      | own d' =>
        obtain ⟨rfl, rfl⟩ := ok_ok e1
        obtain ⟨q, zs, es, hv', rfl, hq, l, no⟩ := E.own _ _ hd
        have nw : ∀ w, S.wa = some w → q ≠ w.m ∧ q ≠ w.g := fun w ew => ⟨fun z => no (z ▸ (E.wo w ew).1), fun z => no (z ▸ (E.wo w ew).2)⟩
        exact ⟨_, hv', env, _, ds, _, E, O, e2, fun vs H2 k2 O2 D2 => P _ _ k2 O2 (.cons (.bor (k2 _ _ hq nw) (.inr ⟨i, _, hd, hv'⟩) nw (l.keep O k2)) D2)⟩
      | bor d' =>
        obtain ⟨rfl, rfl⟩ := ok_ok e1
        obtain ⟨q, zs, es, hv', rfl, hq, l, oc, nw⟩ := E.bor _ _ hd
        exact ⟨_, hv', env, _, ds, _, E, O, e2, fun vs H2 k2 O2 D2 => P _ _ k2 O2 (.cons (.bor (k2 _ _ hq nw) (.inl oc.1) nw (l.keep O k2)) D2)⟩
  · have nv : ∀ i, a ≠ .var i := fun i z => hw ⟨i, z⟩
    refine PA.imp (pa_cons (ha nv false) hr (star_plain hx xs X.env)) fun σ H Q z => ?_
    obtain ⟨env, ws, d, ws', E, O, e, P⟩ := z
    rw [evArgs] at e
    obtain ⟨d1, w1, e1, e⟩ := bind_ok e
    obtain ⟨ds, w2, e2, e⟩ := bind_ok e
    obtain ⟨rfl, rfl⟩ := ok_ok e
    rw [hn nv] at e1
    refine ⟨env, ws, d1, w1, E, O, e1, fun v1 H1 k1 O1 D1 _ => ⟨env, w1, ds, _, E.keep O k1, O1, e2, fun vs H2 k2 O2 D2 => P _ _ (k1.trans k2) O2 (.cons ?_ D2)⟩⟩
    have im : ArgOk (S.cc σ env) H2 v1 (.imm d1) := .imm (D1.strict.keep O1 k2)
    cases a <;> first | exact im | exact absurd rfl (nv _)
end
end Pc

set_option Elab.async false
set_option linter.all false
set_option maxRecDepth 100000
set_option maxHeartbeats 4000000
/-! # Soundness 3: and, or, calls, what is walked -/
namespace Pc
open PySem L2 PyProof.Rows StX
section
variable {n : Nx} {S : Sx} {fr : Nat → Bool} {cl : Nat → List Sl → M D} {gl : Nat → D} {k : Kx} {X : Cx}

theorem ev_mode {a : Ex} (h : ∀ i, a ≠ .var i) (env : SEnv) : ev cl gl a true env = ev cl gl a false env := by
  cases a <;> first | exact absurd rfl (h _) | (rw [ev, ev])
theorem ev_up {a : Ex} {env : SEnv} {ws ws' : WS} {d : D} (e : ev cl gl a false env ws = .ok d ws') : ev cl gl a true env ws = .ok d ws' := by
  by_cases h : ∃ i, a = .var i
  · obtain ⟨i, rfl⟩ := h
    rw [ev] at e ⊢
    cases hd : env[i]? with
    | none => rw [hd] at e; exact (stuck_ok (w := ws) e).elim
    | some sl =>
      rw [hd] at e
      cases sl with
      | un => exact (stuck_ok (w := ws) e).elim
      | imm d' => exact e
      | own d' => exact (stuck_ok (w := ws) e).elim
      | bor d' => exact (stuck_ok (w := ws) e).elim
  · rw [ev_mode fun i z => h ⟨i, z⟩]; exact e
theorem evB_cons (and : Bool) (a b : Ex) (r : Exs) (env : SEnv) : evB cl gl and (.cons a (.cons b r)) env = M.bind (ev cl gl a false env) fun x => M.bind (M.of (truth x)) fun c => if c == and then evB cl gl and (.cons b r) env else M.ok x := by
  rw [evB]
  intro z; cases z
/-! ### and, or -/
theorem b_one {op : BoolOp} {and : Bool} {a : Ex} {x : Expr} {pos : Pos} (ha : PE X x (tE S fr cl gl a false)) : PE X (.BoolOp op [x] pos) (tB S cl gl and (.cons a .nil)) := PE.imp (pe_one ha) fun σ H Q z => by
  obtain ⟨env, ws, d, ws', E, O, e, P⟩ := z
  rw [evB] at e
  exact ⟨env, ws, d, ws', E, O, e, fun v H' k1 O1 D1 _ => P v H' k1 O1 D1 (by intro z; cases z)⟩
theorem b_and (g : GX n S fr cl gl k X) {a b : Ex} {r : Exs} {x y : Expr} {rest : List Expr} {pos : Pos} (ha : PE X x (tE S fr cl gl a false)) (hr : PE X (.BoolOp .And (y :: rest) pos) (tB S cl gl true (.cons b r))) :
    PE X (.BoolOp .And (x :: y :: rest) pos) (tB S cl gl true (.cons a (.cons b r))) := PE.imp (pe_andT ha hr) fun σ H Q z => by
  obtain ⟨env, ws, d, ws', E, O, e, P⟩ := z
  rw [evB_cons] at e
  obtain ⟨d1, w1, e1, e⟩ := bind_ok e
  obtain ⟨c, w2, e2, e⟩ := bind_ok e
  obtain ⟨f2, rfl⟩ := of_ok e2
  refine ⟨env, ws, d1, _, E, O, e1, fun v1 H1 k1 O1 D1 _ => ⟨c, g.K ▸ tru_of (.inl D1.strict) f2, ?_⟩⟩
  cases c with
  | true => exact ⟨env, _, d, _, E.keep O k1, O1, e, fun v H2 k2 O2 D2 _ => P v H2 (k1.trans k2) O2 D2 (by intro z; cases z)⟩
  | false =>
    obtain ⟨rfl, rfl⟩ := ok_ok e
    exact P _ _ k1 O1 D1 (by intro z; cases z)
theorem b_or (g : GX n S fr cl gl k X) {a b : Ex} {r : Exs} {x y : Expr} {rest : List Expr} {pos : Pos} (ha : PE X x (tE S fr cl gl a false)) (hr : PE X (.BoolOp .Or (y :: rest) pos) (tB S cl gl false (.cons b r))) :
    PE X (.BoolOp .Or (x :: y :: rest) pos) (tB S cl gl false (.cons a (.cons b r))) := PE.imp (pe_orT ha hr) fun σ H Q z => by
  obtain ⟨env, ws, d, ws', E, O, e, P⟩ := z
  rw [evB_cons] at e
  obtain ⟨d1, w1, e1, e⟩ := bind_ok e
  obtain ⟨c, w2, e2, e⟩ := bind_ok e
  obtain ⟨f2, rfl⟩ := of_ok e2
  refine ⟨env, ws, d1, _, E, O, e1, fun v1 H1 k1 O1 D1 _ => ⟨c, g.K ▸ tru_of (.inl D1.strict) f2, ?_⟩⟩
  cases c with
  | false => exact ⟨env, _, d, _, E.keep O k1, O1, e, fun v H2 k2 O2 D2 _ => P v H2 (k1.trans k2) O2 D2 (by intro z; cases z)⟩
  | true =>
    obtain ⟨rfl, rfl⟩ := ok_ok e
    exact P _ _ k1 O1 D1 (by intro z; cases z)
theorem s_bop {and : Bool} {es : Exs} {x : Expr} {m : Bool} (h : PE X x (tB S cl gl and es)) : PE X x (tE S fr cl gl (.bop and es) m) := PE.imp h fun σ H Q z => by
  obtain ⟨env, ws, d, ws', E, O, e, P⟩ := z
  rw [ev] at e
  exact ⟨env, ws, d, ws', E, O, e, fun v H' k1 O1 D1 _ => P v H' k1 O1 (.inl D1.strict) (by intro z; cases z)⟩
theorem w_one1 {and : Bool} {a : Ex} {x : Expr} {pos : Pos} (ha : PT X x (tT S cl gl a)) : PW X (.BoolOp .And [x] pos) (tBT S cl gl and (.cons a .nil)) := PW.imp (pw_and1 ha) fun σ H Q z => by
  obtain ⟨env, ws, d, ws', c, E, O, e, e0, P⟩ := z
  rw [evB] at e
  exact ⟨env, ws, d, ws', c, E, O, ev_up e, e0, P⟩
theorem w_one2 {and : Bool} {a : Ex} {x : Expr} {pos : Pos} (ha : PT X x (tT S cl gl a)) : PW X (.BoolOp .Or [x] pos) (tBT S cl gl and (.cons a .nil)) := PW.imp (pw_or1 ha) fun σ H Q z => by
  obtain ⟨env, ws, d, ws', c, E, O, e, e0, P⟩ := z
  rw [evB] at e
  exact ⟨env, ws, d, ws', c, E, O, ev_up e, e0, P⟩
theorem w_and {a b : Ex} {r : Exs} {x y : Expr} {rest : List Expr} {pos : Pos} (ha : PT X x (tT S cl gl a)) (hr : PW X (.BoolOp .And (y :: rest) pos) (tBT S cl gl true (.cons b r))) :
    PW X (.BoolOp .And (x :: y :: rest) pos) (tBT S cl gl true (.cons a (.cons b r))) := PW.imp (pw_and ha hr) fun σ H Q z => by
  obtain ⟨env, ws, d, ws', c0, E, O, e, e0, P⟩ := z
  rw [evB_cons] at e
  obtain ⟨d1, w1, e1, e⟩ := bind_ok e
  obtain ⟨c, w2, e2, e⟩ := bind_ok e
  obtain ⟨f2, rfl⟩ := of_ok e2
  refine ⟨env, ws, d1, _, c, E, O, ev_up e1, f2, fun H1 k1 O1 => ?_⟩
  cases c with
  | true => exact ⟨env, _, d, _, c0, E.keep O k1, O1, e, e0, fun H2 k2 O2 => P H2 (k1.trans k2) O2⟩
  | false =>
    obtain ⟨rfl, rfl⟩ := ok_ok e
    rw [e0] at f2
    cases f2
    exact P _ k1 O1
theorem w_or {a b : Ex} {r : Exs} {x y : Expr} {rest : List Expr} {pos : Pos} (ha : PT X x (tT S cl gl a)) (hr : PW X (.BoolOp .Or (y :: rest) pos) (tBT S cl gl false (.cons b r))) :
    PW X (.BoolOp .Or (x :: y :: rest) pos) (tBT S cl gl false (.cons a (.cons b r))) := PW.imp (pw_or ha hr) fun σ H Q z => by
  obtain ⟨env, ws, d, ws', c0, E, O, e, e0, P⟩ := z
  rw [evB_cons] at e
  obtain ⟨d1, w1, e1, e⟩ := bind_ok e
  obtain ⟨c, w2, e2, e⟩ := bind_ok e
  obtain ⟨f2, rfl⟩ := of_ok e2
  refine ⟨env, ws, d1, _, c, E, O, ev_up e1, f2, fun H1 k1 O1 => ?_⟩
  cases c with
  | false => exact ⟨env, _, d, _, c0, E.keep O k1, O1, e, e0, fun H2 k2 O2 => P H2 (k1.trans k2) O2⟩
  | true =>
    obtain ⟨rfl, rfl⟩ := ok_ok e
    rw [e0] at f2
    cases f2
    exact P _ k1 O1
theorem s_bopT {and : Bool} {es : Exs} {x : Expr} (h : PW X x (tBT S cl gl and es)) : PT X x (tT S cl gl (.bop and es)) := PT.imp h.pt fun σ H Q z => by
  obtain ⟨env, ws, d, ws', c, E, O, e, e0, P⟩ := z
  rw [ev] at e
  exact ⟨env, ws, d, ws', c, E, O, e, e0, P⟩
/-! ### isinstance -/
def tyD : D → Option String
  | .none => some "NoneType"
  | .bool _ => some "bool"
  | .int _ => some "int"
  | .str _ => some "str"
  | .rep _ => some "str"
  | .tup _ => some "tuple"
  | .lst _ => some "list"
  | _ => Option.none
def tyS : Ty → String
  | .int => "int" | .bool => "bool" | .str => "str" | .tuple => "tuple" | .list => "list"
theorem tyX_of {C : Cc} {H : Hp} {v : V} {d : D} {t : String} (h : DenM C H true v d) (e : tyD d = some t) : TyX C.K H v (.type t) := by
  cases d with
  | none => cases h.nonV; cases e; exact .base .non
  | bool b => cases h.blV; cases e; exact .base (.bl _)
  | int i => cases h.intV; cases e; exact .base (.int _)
  | str x => cases h.strV; cases e; exact .base (.str _)
  | rep x =>
    cases e
    have h := h.den (fun _ => by intro z; cases z)
    cases h
    exact .base (.str _)
  | tup xs =>
    cases e
    obtain ⟨a, vs, rfl, s, l⟩ := h.tupV
    rcases s with ⟨s, _⟩ | ⟨o, its, m, h1, h2, _⟩
    · exact .base (.tup s)
    · exact .kTuple h1 h2
  | lst xs =>
    cases e
    obtain ⟨a, vs, rfl, s, l⟩ := h.list
    exact .base (.lst s)
  | world => cases e
  | scr x => cases e
theorem isTy_ty {t : Ty} {d : D} {b : Bool} (e : isTy t d = some b) : ∃ s, tyD d = some s := by
  cases d <;> first | exact ⟨_, rfl⟩ | (cases t <;> cases e)
theorem kitOne_of {K : PySem.W.Frag} {t : Ty} {d : D} {s : String} {b : Bool} (e : isTy t d = some b) (es : tyD d = some s) : PySem.W.kitOne K (.type s) (.type (tyS t)) = some b := by
  cases d <;> cases t <;> cases e <;> cases es <;> rfl
end
end Pc

set_option Elab.async false
set_option linter.all false
set_option maxRecDepth 100000
set_option maxHeartbeats 4000000
/-! # Soundness 4: calls -/
namespace Pc
open PySem L2 PyProof.Rows StX
section
variable {n : Nx} {S : Sx} {fr : Nat → Bool} {cl : Nat → List Sl → M D} {gl : Nat → D} {k : Kx} {X : Cx}

theorem PE.never {e : Expr} {t : TE} (h : ∀ σ H Q, ¬ t σ H Q) : PE X e t := ⟨fun _ _ σ H Q _ z => absurd z (h σ H Q)⟩
theorem PA.never {e : List Expr} {t : TA} (h : ∀ σ H Q, ¬ t σ H Q) : PA X e t := ⟨fun _ _ _ σ H Q _ z => absurd z (h σ H Q)⟩
theorem PT.ofPE (g : GX n S fr cl gl k X) {a : Ex} {x : Expr} (he : ∀ whole, isTrue x X.env whole = (do let v ← whole; standAt x.pos; holding [v] (truthy v))) (h : PE X x (tE S fr cl gl a true)) : PT X x (tT S cl gl a) := PT.imp (pt_truth h he) fun σ H Q z => by
  obtain ⟨env, ws, d, ws', c, E, O, e, e0, P⟩ := z
  exact ⟨env, ws, d, ws', E, O, e, fun v H1 k1 O1 D1 _ => ⟨c, g.K ▸ tru_of D1 e0, P _ k1 O1⟩⟩
/-! ### isinstance -/
def tys (ts : List Ty) : List V := ts.map fun t => V.ty (tyS t)
theorem tys_cls : ∀ ts : List Ty, Paired ClsV (tys ts) (ts.map fun t => Value.type (tyS t))
  | [] => .nil
  | t :: ts => .cons (.ty _) (tys_cls ts)
theorem boot_ty (t : Ty) : bootBuiltins (tyNm t) = some (.type (tyS t)) := by cases t <;> decide +kernel
theorem ty_blt (t : Ty) : tyNm t ∈ bltNames ∧ tyNm t ≠ "__name__" ∧ (tyNm t == ("__debug__" : Str)) = false := by cases t <;> decide +kernel
theorem bi_blt (b : Bi) : biNm b ∈ bltNames ∧ biNm b ≠ "__name__" ∧ (biNm b == ("__debug__" : Str)) = false := by cases b <;> decide +kernel
theorem p_ty (g : GX n S fr cl gl k X) {t : Ty} {e : Expr} (h : chkTy k.sc t e = true) : PE X e (tC (.ty (tyS t))) ∧ isSt e = false := by
  unfold chkTy at h
  split at h
  · simp only [Bool.and_eq_true, beq_iff_eq] at h
    obtain ⟨rfl, h2⟩ := h
    obtain ⟨m1, m2, m3⟩ := ty_blt t
    exact ⟨pe_bltn (g.glob h2) (g.blt _ m1) (boot_ty t) rfl m2 m3, rfl⟩
  · cases h
theorem p_tys (g : GX n S fr cl gl k X) : ∀ {ts : List Ty} {es : List Expr}, chkTys k.sc ts es = true → PA X es (fun σ H Q => Q (tys ts) H)
  | [], [], _ => PA.imp pa_nil fun _ _ _ z => z
  | [], _ :: _, h => by cases h
  | _ :: _, [], h => by cases h
  | t :: ts, e :: es, h => by
    simp only [chkTys, Bool.and_eq_true] at h
    obtain ⟨h1, h2⟩ := h
    obtain ⟨p1, p2⟩ := p_ty g h1
    exact PA.imp (pa_cons p1 (p_tys g h2) (star_plain p2 es X.env)) fun _ _ _ z => z
theorem kitAny_of {K : PySem.W.Frag} {d : D} {s : String} (es : tyD d = some s) : ∀ {ts : List Ty} {b : Bool}, ts.foldr (fun t r => match isTy t d, r with | some p, some q => some (p || q) | _, _ => none) (some false) = some b →
    PySem.W.kitAny K (.type s) (ts.map fun t => Value.type (tyS t)) = some b
  | [], b, e => by cases e; rfl
  | t :: ts, b, e => by
    rw [List.foldr_cons] at e
    rw [List.map_cons, PySem.W.kitAny]
    split at e
    · rename_i p q h1 h2
      rw [kitOne_of h1 es]
      cases e
      cases p with
      | true => rfl
      | false => exact kitAny_of es h2
    · cases e
theorem fold_ty {d : D} {t : Ty} {ts : List Ty} {b : Bool} (e : (t :: ts).foldr (fun t r => match isTy t d, r with | some p, some q => some (p || q) | _, _ => none) (some false) = some b) : ∃ s, tyD d = some s := by
  rw [List.foldr_cons] at e
  split at e
  · rename_i h1 _
    exact isTy_ty h1
  · cases e
theorem isi_blt : (Str.ofString "isinstance") ∈ bltNames ∧ (Str.ofString "isinstance") ≠ "__name__" ∧ ((Str.ofString "isinstance") == ("__debug__" : Str)) = false ∧ bootBuiltins (Str.ofString "isinstance") = some (.builtin "isinstance") := by decide +kernel
theorem plain2 {x y : Expr} (h1 : isSt x = false) (h2 : isSt y = false) (env : PySem.Env) (pos : Pos) : (backTo pos (starEach [y] env)).any (·.1) = false := by
  rw [star_plain h2]; rfl
theorem s_isI (g : GX n S fr cl gl k X) {a : Ex} {ts : List Ty} {x : Str} {v t : Expr} {p pos : Pos} {m : Bool} (hx : x = Str.ofString "isinstance") (hg : glB k.sc x = true) (hv : isSt v = false) (ha : PE X v (tE S fr cl gl a true))
    (ht : (∃ ty y q, ts = [ty] ∧ t = .Name y q ∧ chkTy k.sc ty (.Name y q) = true) ∨ (∃ es j q, t = .Tuple es j q ∧ chkTys k.sc ts es = true ∧ ts.length ≤ 5 ∧ ts ≠ [])) : PE X (.Call (.Name x p) [v, t] [] pos) (tE S fr cl gl (.isI a ts) m) := by
  subst hx
  obtain ⟨i1, i2, i3, i4⟩ := isi_blt
  rcases ht with ⟨ty, y, q, rfl, rfl, hc⟩ | ⟨es, j, q, rfl, hc, hl, hne⟩
  · obtain ⟨p1, p2⟩ := p_ty g hc
    refine PE.imp (pe_callB call_isi (g.glob hg) (g.blt _ i1) i4 (pa_cons ha (pa_cons p1 pa_nil (star_plain p2 [] X.env)) (star_plain hv _ X.env)) i2 i3 (star_plain hv _ X.env) (plain2 hv p2 _ _)) fun σ H Q z => ?_
    obtain ⟨env, ws, d, ws', E, O, e, P⟩ := z
    rw [ev] at e
    obtain ⟨d1, w1, e1, e⟩ := bind_ok e
    obtain ⟨c, w2, e2, e⟩ := bind_ok e
    obtain ⟨f2, rfl⟩ := of_ok e2
    obtain ⟨rfl, rfl⟩ := ok_ok e
    obtain ⟨s, es⟩ := fold_ty f2
    refine ⟨env, ws, d1, _, E, O, e1, fun v1 H1 k1 O1 D1 _ => ⟨v1, _, _, _, c, rfl, .ty _, (by rw [g.K]; exact tyX_of D1 es), ?_, P _ _ k1 O1 (.inl (.bl _)) (by intro z; cases z)⟩⟩
    have q := kitAny_of (K := X.K) es f2
    simp only [List.map_cons, List.map_nil, PySem.W.kitAny] at q
    cases hq : PySem.W.kitOne X.K (.type s) (.type (tyS ty)) with
    | none => rw [hq] at q; cases q
    | some b => rw [hq] at q; cases b <;> (cases q; rfl)
  · refine PE.imp (pe_callB call_isiT (g.glob hg) (g.blt _ i1) i4 (pa_cons ha (pa_cons (pe_tup (p_tys g hc)) pa_nil rfl) (star_plain hv _ X.env)) i2 i3 (star_plain hv _ X.env) rfl) fun σ H Q z => ?_
    obtain ⟨env, ws, d, ws', E, O, e, P⟩ := z
    rw [ev] at e
    obtain ⟨d1, w1, e1, e⟩ := bind_ok e
    obtain ⟨c, w2, e2, e⟩ := bind_ok e
    obtain ⟨f2, rfl⟩ := of_ok e2
    obtain ⟨rfl, rfl⟩ := ok_ok e
    refine ⟨env, ws, d1, _, E, O, e1, fun v1 H1 k1 O1 D1 _ => ⟨by unfold tys; rw [List.length_map]; exact Nat.le_trans hl (by decide), fun tp np => ?_⟩⟩
    cases ts with
    | nil => exact absurd rfl hne
    | cons t0 tr =>
      obtain ⟨s, es⟩ := fold_ty f2
      exact ⟨v1, tp, _, _, _, c, rfl, upd_same, tys_cls _, (by rw [g.K]; exact tyX_of (D1.keep O1 (.new np)) es), kitAny_of es f2, P _ _ (k1.trans (.new np)) (O1.new np) (.inl (.bl _)) (by intro z; cases z)⟩
/-! ### built-in functions -/
theorem s_bi (g : GX n S fr cl gl k X) {b : Bi} {es : Exs} {x : Str} {xs : List Expr} {p pos : Pos} {m : Bool} (hx : x = biNm b) (hg : glB k.sc x = true) (hp : chkP n k es xs = true) (ha : PA X xs (tAs S cl gl es)) : PE X (.Call (.Name x p) xs [] pos) (tE S fr cl gl (.bi b es) m) := by
  subst hx
  obtain ⟨i1, i2, i3⟩ := bi_blt b
  cases xs with
  | nil =>
    cases es with
    | nil =>
      refine PE.never fun σ H Q z => ?_
      obtain ⟨env, ws, d, ws', E, O, e, P⟩ := z
      rw [ev] at e
      obtain ⟨ds, w1, e1, e⟩ := bind_ok e
      rw [evAs] at e1
      obtain ⟨rfl, rfl⟩ := ok_ok e1
      obtain ⟨e3, rfl⟩ := of_ok e
      cases b <;> cases e3
    | cons _ _ => simp [chkP] at hp
    | star _ _ => simp [chkP] at hp
  | cons y ys =>
    cases es with
    | nil => simp [chkP] at hp
    | star _ _ => simp [chkP] at hp
    | cons a r =>
      simp only [chkP, Bool.and_eq_true] at hp
      have hs := star_plain (chk_plain hp.1) ys X.env
      have hpl := chkP_plain hp.2 X.env pos
      have core : ∀ σ H Q, tE S fr cl gl (.bi b (.cons a r)) m σ H Q → tCB (rDs X.K (biFn b)) (tAs S cl gl (.cons a r)) σ H Q := fun σ H Q z => by
        obtain ⟨env, ws, d, ws', E, O, e, P⟩ := z
        rw [ev] at e
        obtain ⟨ds, w1, e1, e⟩ := bind_ok e
        obtain ⟨e3, rfl⟩ := of_ok e
        exact ⟨env, ws, ds, _, E, O, e1, fun vs H1 k1 O1 D1 => ⟨S.cc σ env, _, ds, d, g.K.symm, O1, D1, e3, fun v H2 k2 O2 D2 f2 => P v H2 (k1.trans k2) O2 (.inl D2) fun _ => f2.up k1 O1.w⟩⟩
      have cr := cr_bi (X := X) b g.calm g.guards g.room
      have bt := boot_bi b
      cases hb : biVal b with
      | builtin id =>
        rw [hb] at cr bt
        exact PE.imp (pe_callB cr (g.glob hg) (g.blt _ i1) bt ha i2 i3 hs hpl) core
      | type T =>
        rw [hb] at cr bt
        exact PE.imp (pe_callTy cr (g.glob hg) (g.blt _ i1) bt ha i2 i3 hs hpl) core
      | _ => cases b <;> cases hb
/-! ### own defs -/
theorem s_call (g : GX n S fr cl gl k X) {f : Nat} {es : Exs} {x : Str} {xs : List Expr} {p pos : Pos} {m : Bool} (hf : n.fn f = some x) (hg : glB k.sc x = true) (hn : plainN x = true) (hp : chkP n k es xs = true) (ha : PA X xs (tArgs S cl gl es)) :
    PE X (.Call (.Name x p) xs [] pos) (tE S fr cl gl (.call f es) m) := by
  obtain ⟨ad, fd, ps, j, hm, hk, hb, hr, F, hl⟩ := g.call f x hf
  obtain ⟨p1, _, _⟩ := plain_parts hn
  cases xs with
  | nil =>
    cases es with
    | nil =>
      refine PE.imp (pe_callG0 F hr g.guards (g.glob hg) hm hk hb p1) fun σ H Q z => ?_
      obtain ⟨env, ws, d, ws', E, O, e, P⟩ := z
      rw [ev] at e
      obtain ⟨as, w1, e1, e⟩ := bind_ok e
      rw [evArgs] at e1
      obtain ⟨rfl, rfl⟩ := ok_ok e1
      exact ⟨S.cc σ env, [], ws, ws', d, rfl, fun w ew => .inl (E.bo.2 w ew), hl _ _ _ _ e, .nil, O, e, fun v H2 k2 O2 D2 f2 => P v H2 k2 O2 (.inl D2) f2⟩
    | cons _ _ => simp [chkP] at hp
    | star _ _ => simp [chkP] at hp
  | cons y ys =>
    cases es with
    | nil => simp [chkP] at hp
    | star _ _ => simp [chkP] at hp
    | cons a r =>
      simp only [chkP, Bool.and_eq_true] at hp
      refine PE.imp (pe_callG F hr g.guards (g.glob hg) hm hk hb ha p1 (chk_plain hp.1) (chkP_plain hp.2 X.env pos)) fun σ H Q z => ?_
      obtain ⟨env, ws, d, ws', E, O, e, P⟩ := z
      rw [ev] at e
      obtain ⟨as, w1, e1, e⟩ := bind_ok e
      exact ⟨env, ws, as, w1, E, O, e1, fun vs H1 k1 O1 A1 => ⟨S.cc σ env, as, w1, ws', d, rfl, fun w ew => .inl (E.bo.2 w ew), A1.length.trans (hl _ _ _ _ e), A1, O1, e, fun v H2 k2 O2 D2 f2 => P v H2 (k1.trans k2) O2 (.inl D2) fun q => (f2 q).up k1 O1.w⟩⟩
theorem s_draw (g : GX n S fr cl gl k X) {a b : Ex} {x : Str} {v w : Expr} {p pos : Pos} {m : Bool} (hd : n.dr = true) (hx : x = dName) (hg : glB k.sc x = true) (hv : isSt v = false) (hw : isSt w = false) (ha : PE X v (tE S fr cl gl a false)) (hb : PE X w (tE S fr cl gl b false)) :
    PE X (.Call (.Name x p) [v, w] [] pos) (tE S fr cl gl (.draw a b) m) := by
  subst hx
  obtain ⟨ad, fd, ps, j, hm, hk, hbi, hr, F⟩ := g.draw hd
  refine PE.imp (pe_callG F hr g.guards (g.glob hg) hm hk hbi (pa_cons ha (pa_cons hb pa_nil (star_plain hw [] X.env)) (star_plain hv _ X.env)) (by decide) hv (plain2 hv hw _ _)) fun σ H Q z => ?_
  obtain ⟨env, ws, d, ws', E, O, e, P⟩ := z
  rw [ev] at e
  obtain ⟨d1, w1, e1, e⟩ := bind_ok e
  obtain ⟨d2, w2, e2, e⟩ := bind_ok e
  cases d1 with
  | world =>
    cases d2 with
    | int l =>
      have e : (match drawW w2 l with | some (i, w') => R.ok (D.int i) w' | none => .stuck) = .ok d ws' := e
      cases hd : drawW w2 l with
      | none => rw [hd] at e; cases e
      | some r =>
        obtain ⟨i, w3⟩ := r
        rw [hd] at e
        cases e
        refine ⟨env, ws, _, w1, E, O, e1, fun v1 H1 k1 O1 D1 _ => ⟨env, w1, _, w2, E.keep O k1, O1, e2, fun v2 H2 k2 O2 D2 _ => ?_⟩⟩
        cases D2.intV
        have D1 := D1.strict
        cases D1 with
        | world h => exact ⟨S.cc σ env, _, w2, _, l, i, rfl, h, rfl, O2, hd, fun H3 k3 O3 => P _ _ ((k1.trans k2).trans k3) O3 (.inl (.int _)) (by intro z; cases z)⟩
    | _ => exact (stuck_ok (w := w2) e).elim
  | _ => exact (stuck_ok (w := w2) e).elim
end
end Pc

set_option Elab.async false
set_option linter.all false
set_option maxRecDepth 100000
set_option maxHeartbeats 4000000
/-! # Soundness 5: what is walked, targets -/
namespace Pc
open PySem L2 PyProof.Rows StX
section
variable {n : Nx} {S : Sx} {fr : Nat → Bool} {cl : Nat → List Sl → M D} {gl : Nat → D} {k : Kx} {X : Cx}
theorem t_ife {c a b : Ex} {t x y : Expr} {pos : Pos} (hc : PT X t (tT S cl gl c)) (ha : PT X x (tT S cl gl a)) (hb : PT X y (tT S cl gl b)) : PT X (.IfExp t x y pos) (tT S cl gl (.ife c a b)) := by
  refine ⟨fun pins s σ H Q I z => ?_⟩
  obtain ⟨env, ws, d, ws', c0, E, O, e, e0, P⟩ := z
  rw [ev] at e
  obtain ⟨d1, w1, e1, e⟩ := bind_ok e
  obtain ⟨c1, w2, e2, e⟩ := bind_ok e
  obtain ⟨f2, rfl⟩ := of_ok e2
  refine isTrue_IfExp (thn (hc.run pins s σ H (fun cc H1 => cc = c1 ∧ Keep S.wa H H1 ∧ HpOk (S.cc σ env) H1 w1) I ⟨env, ws, d1, _, c1, E, O, e1, f2, fun H1 k1 O1 => ⟨rfl, k1, O1⟩⟩) fun cc s1 h1 => ?_)
  obtain ⟨H1, I1, rfl, k1, O1⟩ := h1
  cases cc with
  | true => exact ha.run pins s1 σ H1 Q I1 ⟨env, _, d, _, c0, E.keep O k1, O1, ev_up e, e0, fun H2 k2 O2 => P H2 (k1.trans k2) O2⟩
  | false => exact hb.run pins s1 σ H1 Q I1 ⟨env, _, d, _, c0, E.keep O k1, O1, ev_up e, e0, fun H2 k2 O2 => P H2 (k1.trans k2) O2⟩
/-! ### what is walked -/
def ItQ (q : Bool) (K : PySem.W.Frag) (a : Addr) : It := match q with
  | true => Itt K a
  | false => Itl K a
theorem turnQ {P : Program} {w : World} {K : PySem.W.Frag} {tg : Expr} (q : Bool) (a it : Addr) : Turn P w K tg (ItQ q K a) [it] it (fun i h => itQ q h it a i) := by
  cases q
  · exact turn_list a it
  · exact turn_tuple a it
theorem walkQ {q : Bool} {K : PySem.W.Frag} {a : Addr} {xs : List V} : Walk (ItQ q K a) xs.length (fun H => sqQ q K H a xs) (YAt xs) := by
  cases q
  · exact walk_list
  · exact walk_tup
def iSeq (K : PySem.W.Frag) (tl : TE) : TI := fun σ H R => tl σ H fun x H1 => ∃ (q : Bool) (a : Addr) (xs : List V), x = .ref a ∧ sqQ q K H1 a xs ∧ R (ItQ q K a) H1
theorem pi_seq {tg l : Expr} {tl : TE} (hl : PE X l tl) : PI X tg l (iSeq X.K tl) := by
  refine ⟨fun pins s σ H R I h => thn (hl.run pins s σ H _ I h) fun v s1 ⟨x, H1, I1, r1, q, a, xs, ex, hq, hr⟩ => ?_⟩
  subst ex
  obtain rfl : v = Value.ref a := r1
  obtain ⟨its, rv, hs, hz⟩ := invQ I1 hq
  refine (beginsQ q a its.toArray).iter X.prog X.w X.A _ s1 _ hs ?_
  refine ⟨s1.heap.objs.size, [s1.heap.objs.size], _, _, H1, rfl, I1.kept (t' := s1.toks) fun b o e => Heap.get?_push_of_some _ e, turnQ q a _, itQ_new (Heap.get?_push_size _ (beginsQ q a its.toArray).free), fun b hb => ?_, hr⟩
  rw [List.mem_singleton.mp hb]
  exact I1.fpOk (Nat.le_refl _) (I1.hok.fresh (Nat.le_refl _))
/-- m: nothing but expressions runs meanwhile -/
def Pres (m : Bool) (C : Cc) (H H' : Hp) : Prop := ∀ a o, H a = some o → (¬ C.O a ∨ (m = true ∧ ∀ w, C.wa = some w → a ≠ w.m ∧ a ≠ w.g)) → H' a = some o
/-- where values go on to stand for their data -/
def Onto (C C1 : Cc) (H H1 : Hp) : Prop := C1.K = C.K ∧ C1.wa = C.wa ∧ ∀ a o, H a = some o → ¬ C.O a → H1 a = some o ∧ ¬ C1.O a
theorem Den.onto {C C1 : Cc} {H H1 : Hp} {v : V} {d : D} (h : Den C H v d) (o : Onto C C1 H H1) : Den C1 H1 v d := h.step o.2.2 o.1 o.2.1
theorem DenL.onto {C C1 : Cc} {H H1 : Hp} {v : List V} {d : List D} (h : DenL C H v d) (o : Onto C C1 H H1) : DenL C1 H1 v d := h.step o.2.2 o.1 o.2.1
def SrcOk (m : Bool) (C : Cc) (H : Hp) (J : It) (ds : List D) : Prop :=
  ∃ (G : Hp → Prop) (Y : Nat → Hp → V → Hp → Prop), Walk J ds.length G Y ∧ (∀ H', Pres m C H H' → G H') ∧
    ∀ i x H1 H2 C1 ws, i < ds.length → Onto C C1 H H1 → HpOk C1 H1 ws → Y i H1 x H2 → ∃ d, ds[i]? = some d ∧ Den C1 H2 x d ∧ (H2 = H1 ∨ ∃ T o, H1 T = none ∧ H2 = upd H1 T o)
def tS (S : Sx) (cl : Nat → List Sl → M D) (gl : Nat → D) (m : Bool) (src : Src) : TI := fun σ H R => ∃ (env : SEnv) (ws : WS) (ds : List D) (ws' : WS), EnvOk S σ env H ∧ HpOk (S.cc σ env) H ws ∧ evS cl gl src m env ws = .ok ds ws' ∧
  ∀ J H', Keep S.wa H H' → HpOk (S.cc σ env) H' ws' → SrcOk m (S.cc σ env) H' J ds → R J H'
theorem PI.imp {tg e : Expr} {t t' : TI} (h : PI X tg e t) (i : ∀ σ H Q, t' σ H Q → t σ H Q) : PI X tg e t' := ⟨fun pins s σ H Q I z => h.run pins s σ H Q I (i σ H Q z)⟩
theorem DenL.at {C : Cc} {H : Hp} {xs : List V} {ds : List D} (l : DenL C H xs ds) {i : Nat} {x : V} (e : xs[i]? = some x) : ∃ d, ds[i]? = some d ∧ Den C H x d := l.getV e
/-- a sequence that is looked at -/
theorem seq_of {C : Cc} {H : Hp} {m : Bool} {v : V} {d : D} {ds : List D} (h : DenM C H m v d) (e : walkOf d = some ds) (hw : ∀ w, C.wa = some w → C.O w.m ∧ C.O w.g) : ∃ q a xs, v = .ref a ∧ sqQ q C.K H a xs ∧ DenL C H xs ds ∧ ∀ H', Pres m C H H' → sqQ q C.K H' a xs := by
  cases d with
  | tup es =>
    cases e
    obtain ⟨a, xs, rfl, s, l⟩ := h.tupV
    refine ⟨true, a, xs, rfl, s.sq, l, fun H' p => ?_⟩
    rcases s with ⟨s, o⟩ | s
    · exact .of (p a _ s (.inl o))
    · exact .inr s
  | lst es =>
    cases e
    rcases h with h | ⟨hm, a, xs, es', rfl, e, h, l, nw⟩
    · cases h with
      | lst h o l => exact ⟨false, _, _, rfl, .of h, l, fun H' p => .of (p _ _ h (.inl o))⟩
    · cases e
      exact ⟨false, a, xs, rfl, .of h, l, fun H' p => .of (p a _ h (.inr ⟨hm, nw⟩))⟩
  | none => cases e
  | bool _ => cases e
  | int _ => cases e
  | str _ => cases e
  | rep _ => cases e
  | world => cases e
  | scr is =>
    cases e
    have h := h.den (fun _ => by intro z; cases z)
    cases h with
    | scr h =>
      refine ⟨false, _, _, rfl, h.sq, DenL.ofInts is, fun H' p => ?_⟩
      rcases h with ⟨h, o⟩ | h
      · rcases h with h | ⟨u, h⟩
        · exact .inl (.inl (p _ _ h (.inl o)))
        · exact .inl (.inr ⟨u, p _ _ h (.inl o)⟩)
      · exact .inr h
theorem Pres.keep {C : Cc} {H H1 H2 : Hp} {m : Bool} {ws : WS} (x : HpOk C H ws) (k : Keep C.wa H H1) (p : Pres m C H1 H2) : Pres m C H H2 := fun a o e n => by
  refine p a o (k a o e ?_) n
  rcases n with n | ⟨_, n⟩
  · exact fun w ew => ⟨fun q => n (q ▸ (x.wo w ew).1), fun q => n (q ▸ (x.wo w ew).2)⟩
  · exact n
theorem i_ex (g : GX n S fr cl gl k X) {a : Ex} {tg x : Expr} {m : Bool} (ha : PE X x (tE S fr cl gl a m)) : PI X tg x (tS S cl gl m (.ex a)) := PI.imp (pi_seq ha) fun σ H R z => by
  obtain ⟨env, ws, ds, ws', E, O, e, P⟩ := z
  rw [evS] at e
  obtain ⟨d1, w1, e1, e⟩ := bind_ok e
  obtain ⟨f2, rfl⟩ := of_ok e
  refine ⟨env, ws, d1, _, E, O, e1, fun v1 H1 k1 O1 D1 _ => ?_⟩
  obtain ⟨q, p, xs, rfl, hs, l, hp⟩ := seq_of D1 f2 O1.wo
  refine ⟨q, p, xs, rfl, g.K ▸ hs, P _ _ k1 O1 ⟨fun H => sqQ q X.K H p xs, YAt xs, ?_, fun H' pr => by rw [g.K]; exact hp H' pr, fun i x H2 H3 C1 w hi on ok y => ?_⟩⟩
  · rw [← l.length]; exact walkQ
  · obtain ⟨rfl, hx⟩ := y
    obtain ⟨d, hd, dn⟩ := (l.onto on).at hx
    exact ⟨d, hd, dn, .inl rfl⟩
theorem rangeL_len : ∀ (n : Nat) (lo : Int), (rangeL lo n).length = n
  | 0, _ => rfl
  | n + 1, lo => by rw [rangeL, List.length_cons, rangeL_len n]
theorem rangeL_at : ∀ (n : Nat) (lo : Int) (i : Nat), i < n → (rangeL lo n)[i]? = some (.int (lo + i))
  | 0, _, _, h => absurd h (Nat.not_lt_zero _)
  | n + 1, lo, 0, _ => by rw [rangeL]; simp
  | n + 1, lo, i + 1, h => by
    rw [rangeL, List.getElem?_cons_succ, rangeL_at n (lo + 1) i (by omega)]
    congr 2
    omega
theorem src_range {C : Cc} {H : Hp} {m : Bool} {lo : Int} {c : Nat} : SrcOk m C H (Itr lo c) (rangeL lo c) := by
  refine ⟨_, _, by rw [rangeL_len]; exact walk_range, fun _ _ => trivial, fun i x H1 H2 C1 w hi on ok y => ?_⟩
  obtain ⟨rfl, rfl⟩ := y
  rw [rangeL_len] at hi
  exact ⟨_, rangeL_at c lo i hi, .int _, .inl rfl⟩
theorem rng_blt : (Str.ofString "range") ∈ bltNames ∧ (Str.ofString "enumerate") ∈ bltNames ∧ (Str.ofString "zip") ∈ bltNames := by decide +kernel
theorem i_rng1 (g : GX n S fr cl gl k X) {a : Ex} {tg v : Expr} {p pos : Pos} {m : Bool} (hg : glB k.sc (Str.ofString "range") = true) (hv : isSt v = false) (ha : PE X v (tE S fr cl gl a false)) : PI X tg (.Call (.Name (Str.ofString "range") p) [v] [] pos) (tS S cl gl m (.rng1 a)) :=
  PI.imp (pi_range1 (g.glob hg) (g.blt _ rng_blt.1) (pa_cons ha pa_nil (star_plain hv [] X.env)) (star_plain hv [] X.env)) fun σ H R z => by
    obtain ⟨env, ws, ds, ws', E, O, e, P⟩ := z
    rw [evS] at e
    obtain ⟨d1, w1, e1, e⟩ := bind_ok e
    cases d1 with
    | int c =>
      simp only at e
      split at e
      · rename_i hc
        obtain ⟨rfl, rfl⟩ := ok_ok e
        refine ⟨env, ws, _, _, E, O, e1, fun v1 H1 k1 O1 D1 _ => ?_⟩
        cases D1.intV
        exact ⟨c, rfl, hc.1, hc.2, P _ _ k1 O1 src_range⟩
      · exact (stuck_ok (w := w1) e).elim
    | _ => exact (stuck_ok (w := w1) e).elim
theorem i_rng2 (g : GX n S fr cl gl k X) {a b : Ex} {tg v w : Expr} {p pos : Pos} {m : Bool} (hg : glB k.sc (Str.ofString "range") = true) (hv : isSt v = false) (hw : isSt w = false) (ha : PE X v (tE S fr cl gl a false)) (hb : PE X w (tE S fr cl gl b false)) :
    PI X tg (.Call (.Name (Str.ofString "range") p) [v, w] [] pos) (tS S cl gl m (.rng2 a b)) :=
  PI.imp (pi_range2 (g.glob hg) (g.blt _ rng_blt.1) (pa_cons ha (pa_cons hb pa_nil (star_plain hw [] X.env)) (star_plain hv _ X.env)) (by rw [star_plain hv, star_plain hw]; rfl) (by rw [star_plain hw]; rfl)) fun σ H R z => by
    obtain ⟨env, ws, ds, ws', E, O, e, P⟩ := z
    rw [evS] at e
    obtain ⟨d1, w1, e1, e⟩ := bind_ok e
    obtain ⟨d2, w2, e2, e⟩ := bind_ok e
    cases d1 with
    | int i =>
      cases d2 with
      | int j =>
        simp only at e
        split at e
        · rename_i hc
          obtain ⟨rfl, rfl⟩ := ok_ok e
          refine ⟨env, ws, _, _, E, O, e1, fun v1 H1 k1 O1 D1 _ => ⟨env, w1, _, _, E.keep O k1, O1, e2, fun v2 H2 k2 O2 D2 _ => ?_⟩⟩
          cases D1.intV
          cases D2.intV
          exact ⟨i, j, rfl, hc, P _ _ (k1.trans k2) O2 src_range⟩
        · exact (stuck_ok (w := w2) e).elim
      | _ => exact (stuck_ok (w := w2) e).elim
    | _ => exact (stuck_ok (w := w2) e).elim
theorem enumL_len : ∀ (ds : List D) (c : Int), (enumL c ds).length = ds.length
  | [], _ => rfl
  | d :: ds, c => by rw [enumL, List.length_cons, enumL_len ds]; rfl
theorem enumL_at : ∀ (ds : List D) (c : Int) (i : Nat) (d : D), ds[i]? = some d → (enumL c ds)[i]? = some (.tup [.int (c + i), d])
  | [], _, _, _, h => by simp at h
  | x :: ds, c, 0, d, h => by rw [enumL]; simp at h ⊢; exact h
  | x :: ds, c, i + 1, d, h => by
    rw [enumL, List.getElem?_cons_succ, enumL_at ds (c + 1) i d (by simpa using h)]
    congr 3
    congr 1
    omega
theorem zipL_len : ∀ (xs ys : List D), (zipL xs ys).length = min xs.length ys.length
  | [], _ => by simp [zipL]
  | _ :: _, [] => by simp [zipL]
  | x :: xs, y :: ys => by rw [zipL, List.length_cons, zipL_len xs ys]; simp
theorem zipL_at : ∀ (xs ys : List D) (i : Nat) (x y : D), xs[i]? = some x → ys[i]? = some y → (zipL xs ys)[i]? = some (.tup [x, y])
  | [], _, _, _, _, h, _ => by simp at h
  | _ :: _, [], _, _, _, _, h => by simp at h
  | x :: xs, y :: ys, 0, a, b, h1, h2 => by simp at h1 h2; subst h1; subst h2; rw [zipL]; rfl
  | x :: xs, y :: ys, i + 1, a, b, h1, h2 => by rw [zipL, List.getElem?_cons_succ]; exact zipL_at xs ys i a b (by simpa using h1) (by simpa using h2)
theorem i_enu (g : GX n S fr cl gl k X) {a : Ex} {es : List Expr} {j : Nat} {tp : Pos} {v : Expr} {p pos : Pos} {m : Bool} (hg : glB k.sc (Str.ofString "enumerate") = true) (hv : isSt v = false) (ha : PE X v (tE S fr cl gl a m)) :
    PI X (.Tuple es j tp) (.Call (.Name (Str.ofString "enumerate") p) [v] [] pos) (tS S cl gl m (.enu a)) :=
  PI.imp (pi_enumQ (g.glob hg) (g.blt _ rng_blt.2.1) (pa_cons ha pa_nil (star_plain hv [] X.env)) (star_plain hv [] X.env)) fun σ H R z => by
    obtain ⟨env, ws, ds, ws', E, O, e, P⟩ := z
    rw [evS] at e
    obtain ⟨d1, w1, e1, e⟩ := bind_ok e
    obtain ⟨xs1, w2, e2, e⟩ := bind_ok e
    obtain ⟨f2, rfl⟩ := of_ok e2
    obtain ⟨rfl, rfl⟩ := ok_ok e
    refine ⟨env, ws, d1, _, E, O, e1, fun v1 H1 k1 O1 D1 _ => ?_⟩
    obtain ⟨q, p, xs, rfl, hs, l, hp⟩ := seq_of D1 f2 O1.wo
    refine ⟨q, p, xs, rfl, g.K ▸ hs, P _ _ k1 O1 ⟨fun H => sqQ q X.K H p xs, YPair (fun i => some (.int (i : Nat))) (fun i => xs[i]?), ?_, fun H' pr => by rw [g.K]; exact hp H' pr, fun i x H2 H3 C1 w hi on ok y => ?_⟩⟩
    · rw [enumL_len, ← l.length]; exact walk_enumQ
    · obtain ⟨T, u1, u2, rfl, nT, rfl, q1, q2⟩ := y
      cases q1
      obtain ⟨d, hd, dn⟩ := (l.onto on).at q2
      exact ⟨_, by rw [enumL_at _ 0 i d hd, Int.zero_add], ok.tup nT (.cons (.int _) (.cons dn .nil)), .inr ⟨T, _, nT, rfl⟩⟩
theorem i_zip (g : GX n S fr cl gl k X) {a b : Ex} {es : List Expr} {j : Nat} {tp : Pos} {v w : Expr} {p pos : Pos} {m : Bool} (hg : glB k.sc (Str.ofString "zip") = true) (hv : isSt v = false) (hw : isSt w = false) (ha : PE X v (tE S fr cl gl a m)) (hb : PE X w (tE S fr cl gl b m)) :
    PI X (.Tuple es j tp) (.Call (.Name (Str.ofString "zip") p) [v, w] [] pos) (tS S cl gl m (.zip a b)) :=
  PI.imp (pi_zipQ (g.glob hg) (g.blt _ rng_blt.2.2) (pa_cons ha (pa_cons hb pa_nil (star_plain hw [] X.env)) (star_plain hv _ X.env)) (star_plain hv _ X.env) (plain2 hv hw _ _)) fun σ H R z => by
    obtain ⟨env, ws, ds, ws', E, O, e, P⟩ := z
    rw [evS] at e
    obtain ⟨d1, w1, e1, e⟩ := bind_ok e
    obtain ⟨d2, w2, e2, e⟩ := bind_ok e
    obtain ⟨xs1, w3, e3, e⟩ := bind_ok e
    obtain ⟨f3, rfl⟩ := of_ok e3
    obtain ⟨ys1, w4, e4, e⟩ := bind_ok e
    obtain ⟨f4, rfl⟩ := of_ok e4
    obtain ⟨rfl, rfl⟩ := ok_ok e
    refine ⟨env, ws, d1, _, E, O, e1, fun v1 H1 k1 O1 D1 _ => ⟨env, w1, d2, _, E.keep O k1, O1, e2, fun v2 H2 k2 O2 D2 _ => ?_⟩⟩
    obtain ⟨q, p, xs, rfl, hs, l, hp⟩ := seq_of (D1.keep O1 k2) f3 O2.wo
    obtain ⟨r, p', ys, rfl, hs', l', hp'⟩ := seq_of D2 f4 O2.wo
    refine ⟨q, r, p, p', xs, ys, rfl, g.K ▸ hs, g.K ▸ hs', P _ _ (k1.trans k2) O2 ⟨fun H => sqQ q X.K H p xs ∧ sqQ r X.K H p' ys, YPair (fun i => xs[i]?) (fun i => ys[i]?), walk_zipQ (by rw [zipL_len, l.length, l'.length]), fun H' pr => by rw [g.K]; exact ⟨hp H' pr, hp' H' pr⟩, fun i x H3 H4 C1 w hi on ok y => ?_⟩⟩
    obtain ⟨T, u1, u2, rfl, nT, rfl, q1, q2⟩ := y
    obtain ⟨c1, hd1, dn1⟩ := (l.onto on).at q1
    obtain ⟨c2, hd2, dn2⟩ := (l'.onto on).at q2
    exact ⟨_, zipL_at _ _ i c1 c2 hd1 hd2, ok.tup nT (.cons dn1 (.cons dn2 .nil)), .inr ⟨T, _, nT, rfl⟩⟩
end
end Pc

set_option Elab.async false
set_option linter.all false
set_option maxRecDepth 100000
set_option maxHeartbeats 4000000
/-! # Soundness 6: targets, comprehensions -/
namespace Pc
open PySem L2 PyProof.Rows StX
section
variable {n : Nx} {S : Sx} {fr : Nat → Bool} {cl : Nat → List Sl → M D} {gl : Nat → D} {k : Kx} {X : Cx}
/-! ### targets -/
theorem PG.imp {e : Expr} {t t' : TG} (h : PG X e t) (i : ∀ v σ H Q, t' v σ H Q → t v σ H Q) : PG X e t' := ⟨fun pins s σ H v u Q I r z => h.run pins s σ H v u Q I r (i v σ H Q z)⟩
theorem PGs.imp {e : List Expr} {t t' : TGs} (h : PGs X e t) (i : ∀ v σ H Q, t' v σ H Q → t v σ H Q) : PGs X e t' := ⟨fun pins s σ H v u Q I r z => h.run pins s σ H v u Q I r (i v σ H Q z)⟩
/-- how the slots stand behind a target -/
def After (S : Sx) (σ σ' : L2.St) (env env' : SEnv) (sl : List Nat) : Prop :=
  (∀ a, (S.cc σ' env').O a → (S.cc σ env).O a) ∧ (noOwn env sl = true → S.cc σ' env' = S.cc σ env) ∧ (∀ l, noOwn env l = true → noOwn env' l = true) ∧ ∀ vs, (∀ i ∈ sl, i ∈ vs) → L2.wipe σ' vs = L2.wipe σ vs
def tG (S : Sx) (tg : Tg) : TG := fun v σ H Q => ∃ (env : SEnv) (d : D) (env' : SEnv), EnvOk S σ env H ∧ Den (S.cc σ env) H v d ∧ bindTg tg d env = some env' ∧ ∀ σ', EnvOk S σ' env' H → After S σ σ' env env' (tgSl tg) → Q σ' H
def tGs (S : Sx) (tgs : List Tg) : TGs := fun vs σ H Q => ∃ (env : SEnv) (ds : List D) (env' : SEnv), EnvOk S σ env H ∧ DenL (S.cc σ env) H vs ds ∧ bindTgs tgs ds env = some env' ∧ ∀ σ', EnvOk S σ' env' H → After S σ σ' env env' (tgSls tgs) → Q σ' H
theorem wipe_in {i : Nat} : ∀ {l : List Nat} {σ : L2.St}, i ∈ l → (L2.wipe σ l)[i]? = if i < σ.length then some none else none
  | [], _, h => by simp at h
  | v :: vs, σ, h => by
    unfold L2.wipe
    by_cases q : v = i
    · subst q
      by_cases hl : v < σ.length
      · rw [if_pos hl, List.getElem?_set_self (by rw [L2.wipe_length]; exact hl)]
      · rw [if_neg hl, List.getElem?_eq_none (by rw [List.length_set, L2.wipe_length]; omega)]
    · rw [List.getElem?_set_ne q]
      exact wipe_in ((List.mem_cons.mp h).resolve_left fun z => q z.symm)
theorem wipe_eq {σ σ' : L2.St} {l : List Nat} (hl : σ'.length = σ.length) (h : ∀ i, i ∉ l → σ'[i]? = σ[i]?) : L2.wipe σ' l = L2.wipe σ l := by
  apply List.ext_getElem?
  intro i
  by_cases hi : i ∈ l
  · rw [wipe_in hi, wipe_in hi, hl]
  · rw [L2.wipe_out hi, L2.wipe_out hi, h i hi]
theorem wipe2 (σ : L2.St) (l : List Nat) : L2.wipe (L2.wipe σ l) l = L2.wipe σ l := wipe_eq (L2.wipe_length _ _) fun i hi => L2.wipe_out hi
theorem After.refl {σ : L2.St} {env : SEnv} {l : List Nat} : After S σ σ env env l := ⟨fun _ z => z, fun _ => rfl, fun _ z => z, fun _ _ => rfl⟩
theorem noOwn_app {env : SEnv} {a b : List Nat} (h : noOwn env (a ++ b) = true) : noOwn env a = true ∧ noOwn env b = true := by
  unfold noOwn at h ⊢
  rw [List.all_append, Bool.and_eq_true] at h
  exact h
theorem After.trans {σ σ1 σ2 : L2.St} {e e1 e2 : SEnv} {a b : List Nat} (h : After S σ σ1 e e1 a) (h' : After S σ1 σ2 e1 e2 b) : After S σ σ2 e e2 (a ++ b) :=
  ⟨fun c z => h.1 c (h'.1 c z), fun z => by rw [h'.2.1 (h.2.2.1 _ (noOwn_app z).2), h.2.1 (noOwn_app z).1], fun l z => h'.2.2.1 l (h.2.2.1 l z), fun vs z => by rw [h'.2.2.2 vs fun i hi => z i (List.mem_append_right _ hi), h.2.2.2 vs fun i hi => z i (List.mem_append_left _ hi)]⟩
theorem noOwn_set {env : SEnv} {l : List Nat} {i : Nat} {d : D} (h : noOwn env l = true) : noOwn (env.set i (.imm d)) l = true := by
  unfold noOwn at h ⊢
  rw [List.all_eq_true] at h ⊢
  intro j hj
  have q := h j hj
  by_cases e : i = j
  · subst e
    by_cases hl : i < env.length
    · rw [List.getElem?_set_self hl]
    · rw [List.getElem?_eq_none (by rw [List.length_set]; omega)]
  · rw [List.getElem?_set_ne e]; exact q
theorem After.set {σ : L2.St} {env : SEnv} {i : Nat} {v : V} {d : D} : After S σ (σ.set i (some v)) env (env.set i (.imm d)) [i] :=
  ⟨fun a z => z.elim .inl fun z => .inr (ownAt_set z), fun hn => cc_set fun e => noOwn_at hn List.mem_cons_self e, fun l h => noOwn_set h, fun vs hv => wipe_eq (List.length_set ..) fun j hj => List.getElem?_set_ne (fun (z : i = j) => hj (z ▸ hv i List.mem_cons_self))⟩
theorem tg_plain {k : Kx} : ∀ {ts : List Tg} {es : List Expr}, chkTgs n k ts es = true → ∀ env : PySem.Env, (assignEach es env).length = ts.length ∧ (assignEach es env).findIdx? (·.1) = none
  | [], [], _, _ => ⟨rfl, rfl⟩
  | [], _ :: _, h, _ => by simp [chkTgs] at h
  | _ :: _, [], h, _ => by simp [chkTgs] at h
  | t :: ts, e :: es, h, env => by
    simp only [chkTgs, Bool.and_eq_true] at h
    obtain ⟨h1, h2⟩ := tg_plain h.2 env
    have q : assignEach (e :: es) env = (false, assign e env) :: assignEach es env := by
      cases e <;> first | rfl | (exfalso; cases t <;> simp [chkTg] at h)
    rw [q]
    refine ⟨by simp [h1], ?_⟩
    rw [List.findIdx?_cons]
    simp [h2]
theorem bindTgs_len : ∀ {ts : List Tg} {ds : List D} {env env' : SEnv}, bindTgs ts ds env = some env' → ts.length = ds.length
  | [], [], _, _, _ => rfl
  | [], _ :: _, _, _, h => by simp [bindTgs] at h
  | _ :: _, [], _, _, h => by simp [bindTgs] at h
  | t :: ts, d :: ds, env, env', h => by
    rw [bindTgs, Option.bind_eq_some_iff] at h
    obtain ⟨e1, _, h2⟩ := h
    simp [bindTgs_len h2]
mutual
theorem g_tg (g : GX n S fr cl gl k X) : ∀ (tg : Tg) (t : Expr), chkTg n k tg t = true → PG X t (tG S tg)
  | .nm i, t, h => by
    unfold chkTg at h
    split at h
    · simp only [Bool.and_eq_true, decide_eq_true_eq] at h
      obtain ⟨h1, h2⟩ := h
      obtain ⟨l1, l2⟩ := loc_of h2
      rw [← g.sc, ← g.fn] at l2
      rw [← g.sc] at l1
      refine PG.imp (pg_name (by rw [g.N]; exact g.nd) (by rw [g.N]; exact h1) l1 l2) fun v σ H Q z => ?_
      obtain ⟨env, d, env', E, D1, e, P⟩ := z
      rw [bindTg] at e
      split at e
      · rename_i hi
        cases e
        exact P _ (E.setImm D1 hi) .set
      · cases e
    · cases h
  | .tp ts, t, h => by
    unfold chkTg at h
    split at h
    · rename_i es j pos
      obtain ⟨h1, h2⟩ := tg_plain h X.env
      refine PG.imp (pg_tup g.calm (g_tgs g ts es h) h1 h2) fun v σ H Q z => ?_
      obtain ⟨env, d, env', E, D1, e, P⟩ := z
      cases d with
      | tup ds =>
        rw [bindTg] at e
        cases D1 with
        | tup s l => exact ⟨_, _, rfl, g.K ▸ s.sq, l.length.trans (bindTgs_len e).symm, env, ds, env', E, l, e, P⟩
      | _ => simp [bindTg] at e
    · cases h
theorem g_tgs (g : GX n S fr cl gl k X) : ∀ (tgs : List Tg) (ts : List Expr), chkTgs n k tgs ts = true → PGs X ts (tGs S tgs)
  | [], ts, h => by
    cases ts with
    | nil =>
      refine PGs.imp pgs_nil fun v σ H Q z => ?_
      obtain ⟨env, ds, env', E, D1, e, P⟩ := z
      cases ds with
      | nil =>
        cases D1
        cases e
        exact ⟨rfl, P σ E .refl⟩
      | cons d ds => simp [bindTgs] at e
    | cons t ts => simp [chkTgs] at h
  | tg :: tgs, ts, h => by
    cases ts with
    | nil => simp [chkTgs] at h
    | cons t ts =>
      simp only [chkTgs, Bool.and_eq_true] at h
      have q : (assignEach (t :: ts) X.env).map (·.2) = assign t X.env :: (assignEach ts X.env).map (·.2) := by
        have h1 := h.1
        cases t <;> first | rfl | (exfalso; cases tg <;> simp [chkTg] at h1)
      refine PGs.imp (pgs_cons (g_tg g tg t h.1) (g_tgs g tgs ts h.2) q) fun v σ H Q z => ?_
      obtain ⟨env, ds, env', E, D1, e, P⟩ := z
      cases D1 with
      | nil => simp [bindTgs] at e
      | cons d1 dr =>
        rw [bindTgs, Option.bind_eq_some_iff] at e
        obtain ⟨e1, q1, q2⟩ := e
        refine ⟨_, _, rfl, env, _, e1, E, d1, q1, fun σ1 E1 A1 => ⟨e1, _, env', E1, dr.less A1.1 rfl rfl, q2, fun σ2 E2 A2 => P σ2 E2 (A1.trans A2)⟩⟩
end
end
end Pc

set_option Elab.async false
set_option linter.all false
set_option maxRecDepth 100000
set_option maxHeartbeats 4000000
/-! # Soundness 7: comprehensions -/
namespace Pc
open PySem L2 PyProof.Rows StX
section
variable {n : Nx} {S : Sx} {fr : Nat → Bool} {cl : Nat → List Sl → M D} {gl : Nat → D} {k : Kx} {X : Cx}
def exE (K : PySem.W.Frag) (t : Sx → TE) : TE := fun σ H Q => ∃ S, S.K = K ∧ t S σ H Q
def exT (K : PySem.W.Frag) (t : Sx → TT) : TT := fun σ H Q => ∃ S, S.K = K ∧ t S σ H Q
def exI (K : PySem.W.Frag) (t : Sx → TI) : TI := fun σ H Q => ∃ S, S.K = K ∧ t S σ H Q
def exG (K : PySem.W.Frag) (t : Sx → TG) : TG := fun v σ H Q => ∃ S, S.K = K ∧ t S v σ H Q
theorem PE.ex {K : PySem.W.Frag} {e : Expr} {t : Sx → TE} (h : ∀ S : Sx, S.K = K → PE X e (t S)) : PE X e (exE K t) := ⟨fun pins s σ H Q I ⟨S, e, z⟩ => (h S e).run pins s σ H Q I z⟩
theorem PTs.ex {K : PySem.W.Frag} {e : List Expr} {t : Sx → TT} (h : ∀ S : Sx, S.K = K → PTs X e (t S)) : PTs X e (exT K t) := ⟨fun pins s σ H Q I ⟨S, e, z⟩ => (h S e).run pins s σ H Q I z⟩
theorem PI.ex {K : PySem.W.Frag} {tg e : Expr} {t : Sx → TI} (h : ∀ S : Sx, S.K = K → PI X tg e (t S)) : PI X tg e (exI K t) := ⟨fun pins s σ H Q I ⟨S, e, z⟩ => (h S e).run pins s σ H Q I z⟩
theorem PG.ex {K : PySem.W.Frag} {e : Expr} {t : Sx → TG} (h : ∀ S : Sx, S.K = K → PG X e (t S)) : PG X e (exG K t) := ⟨fun pins s σ H v u Q I r ⟨S, e, z⟩ => (h S e).run pins s σ H v u Q I r z⟩
theorem GX.toS (g : GX n S fr cl gl k X) {S' : Sx} (e : S'.K = S.K) : GX n S' fr cl gl k X :=
  ⟨g.N, g.nd, g.sc, g.fn, g.K.trans e.symm, g.calm, g.guards, g.room, g.po, g.blt, by rw [e]; exact g.con, by rw [e]; exact g.call, by rw [e]; exact g.draw⟩
theorem GX.blk (g : GX n S fr cl gl k X) (s : Shared) (H : Hp) (scope : Scope) (C : Addr) (c : List (Str × Addr)) (fp : List Addr) : GX n S fr cl gl (blkK k.sc scope) (X.blk s H scope (compEnvC scope c C X.env) fp) :=
  ⟨g.N, g.nd, by show relS scope X.env.scope = _; rw [g.sc]; rfl, rfl, g.K, g.calm, g.guards, g.room, .never, g.blt, g.con, g.call, g.draw⟩
/-! ### tests -/
def tIfs (S : Sx) (cl : Nat → List Sl → M D) (gl : Nat → D) (es : Exs) : TT := fun σ H Q => ∃ (env : SEnv) (ws : WS) (c : Bool) (ws' : WS), EnvOk S σ env H ∧ HpOk (S.cc σ env) H ws ∧ evIf cl gl es env ws = .ok c ws' ∧ ∀ H', Keep S.wa H H' → HpOk (S.cc σ env) H' ws' → Q c H'
theorem PTs.imp {e : List Expr} {t t' : TT} (h : PTs X e t) (i : ∀ σ H Q, t' σ H Q → t σ H Q) : PTs X e t' := ⟨fun pins s σ H Q I z => h.run pins s σ H Q I (i σ H Q z)⟩
theorem f_nil : PTs X [] (tIfs S cl gl .nil) := PTs.imp pts_nil fun σ H Q z => by
  obtain ⟨env, ws, c, ws', E, O, e, P⟩ := z
  rw [evIf] at e
  obtain ⟨rfl, rfl⟩ := ok_ok e
  exact P H (Keep.refl _ _) O
theorem f_one {a : Ex} {x : Expr} (h : PT X x (tT S cl gl a)) : PTs X [x] (tIfs S cl gl (.cons a .nil)) := PTs.imp (pts_one h) fun σ H Q z => by
  obtain ⟨env, ws, c, ws', E, O, e, P⟩ := z
  rw [evIf] at e
  obtain ⟨d, w1, e1, e⟩ := bind_ok e
  obtain ⟨f2, rfl⟩ := of_ok e
  exact ⟨env, ws, d, _, c, E, O, e1, f2, P⟩
/-! ### a new list is built -/
def Sx.plus (S : Sx) (a : Addr) : Sx := ⟨S.K, fun b => S.Oc b ∨ b = a, S.wa, S.Bo⟩
theorem plusO {σ : L2.St} {env : SEnv} {A : Addr} (a : Addr) : ((S.plus A).cc σ env).O a ↔ ((S.cc σ env).plus A).O a := by
  show (S.Oc a ∨ a = A) ∨ ownAt σ env a ↔ (S.Oc a ∨ ownAt σ env a) ∨ a = A
  constructor
  · rintro ((h | h) | h)
    · exact .inl (.inl h)
    · exact .inr h
    · exact .inl (.inr h)
  · rintro ((h | h) | h)
    · exact .inl (.inl h)
    · exact .inr h
    · exact .inl (.inr h)
theorem onto_plus {C : Cc} {H1 H : Hp} {A : Addr} {ws : WS} (x : HpOk C H1 ws) (nA : H1 A = none) (kk : Keep C.wa H1 H) : Onto C (C.plus A) H1 H :=
  ⟨rfl, rfl, fun b o e nb => ⟨kk b o e fun w ew => ⟨fun q => nb (q ▸ (x.wo w ew).1), fun q => nb (q ▸ (x.wo w ew).2)⟩, fun z => Or.elim z nb fun q => by rw [q, nA] at e; cases e⟩⟩
theorem Onto.of {C C1 C2 : Cc} {H H1 : Hp} (h : Onto C C1 H H1) (ho : ∀ a, C2.O a → C1.O a) (ek : C2.K = C1.K) (ew : C2.wa = C1.wa) : Onto C C2 H H1 :=
  ⟨ek.trans h.1, ew.trans h.2.1, fun b o e nb => ⟨(h.2.2 b o e nb).1, fun z => (h.2.2 b o e nb).2 (ho b z)⟩⟩
theorem EnvOk.grow {σ : L2.St} {env : SEnv} {H1 H : Hp} {A : Addr} {ws : WS} (E : EnvOk S σ env H1) (x : HpOk (S.cc σ env) H1 ws) (nA : H1 A = none) (kk : Keep S.wa H1 H) : EnvOk (S.plus A) σ env H := by
  have on : Onto (S.cc σ env) ((S.plus A).cc σ env) H1 H := (onto_plus x nA kk).of (fun a => (plusO a).mp) rfl rfl
  refine ⟨E.len, fun i d h => ?_, fun i d h => ?_, fun i d h => ?_, E.inj, fun w ew => ⟨.inl (E.wo w ew).1, .inl (E.wo w ew).2⟩, ⟨fun a z => .inl (E.bo.1 a z), fun w ew => .inl (E.bo.2 w ew)⟩⟩
  · obtain ⟨v, h1, h2⟩ := E.imm i d h
    exact ⟨v, h1, h2.onto on⟩
  · obtain ⟨a, xs, ds, h1, h2, h3, h4, h5⟩ := E.own i d h
    exact ⟨a, xs, ds, h1, h2, kk a _ h3 fun w ew => ⟨fun q => h5 (q ▸ (E.wo w ew).1), fun q => h5 (q ▸ (E.wo w ew).2)⟩, h4.onto on, fun z => z.elim h5 fun q => by rw [q, nA] at h3; cases h3⟩
  · obtain ⟨a, xs, ds, h1, h2, h3, h4, h5, h6⟩ := E.bor i d h
    exact ⟨a, xs, ds, h1, h2, kk a _ h3 h6, h4.onto on, ⟨.inl h5.1, h5.2⟩, h6⟩
theorem DenL.updO {C : Cc} {H : Hp} {A : Addr} {o : HO} {xs : List V} {ds : List D} (h : DenL C H xs ds) (hA : C.O A) : DenL C (upd H A o) xs ds :=
  h.step (fun a u e na => ⟨by rw [upd_ne (fun z => na (by rw [z]; exact hA))]; exact e, na⟩) rfl rfl
theorem Den.updO {C : Cc} {H : Hp} {A : Addr} {o : HO} {v : V} {d : D} (h : Den C H v d) (hA : C.O A) : Den C (upd H A o) v d :=
  h.step (fun a u e na => ⟨by rw [upd_ne (fun z => na (by rw [z]; exact hA))]; exact e, na⟩) rfl rfl
theorem EnvOk.updA {σ : L2.St} {env : SEnv} {H : Hp} {A : Addr} {o : HO} (E : EnvOk S σ env H) (hA : S.Oc A) (hB : ¬ S.Bo A) : EnvOk S σ env (upd H A o) := by
  refine ⟨E.len, fun i d h => ?_, fun i d h => ?_, fun i d h => ?_, E.inj, E.wo, E.bo⟩
  · obtain ⟨v, h1, h2⟩ := E.imm i d h
    exact ⟨v, h1, h2.updO (.inl hA)⟩
  · obtain ⟨a, xs, ds, h1, h2, h3, h4, h5⟩ := E.own i d h
    exact ⟨a, xs, ds, h1, h2, by rw [upd_ne (fun z => h5 (by rw [z]; exact hA))]; exact h3, h4.updO (.inl hA), h5⟩
  · obtain ⟨a, xs, ds, h1, h2, h3, h4, h5, h6⟩ := E.bor i d h
    exact ⟨a, xs, ds, h1, h2, by rw [upd_ne (fun z => hB (by rw [← z]; exact h5.2))]; exact h3, h4.updO (.inl hA), h5, h6⟩
theorem WOk.upd {wa : Option Wa} {H : Hp} {ws : WS} {A : Addr} {o : HO} (h : WOk wa H ws) (nw : ∀ w, wa = some w → A ≠ w.m ∧ A ≠ w.g ∧ A ≠ w.c) : WOk wa (upd H A o) ws := ⟨fun w e => by
  obtain ⟨h1, h2, h3, r⟩ := h.ok w e
  obtain ⟨n1, n2, n3⟩ := nw w e
  exact ⟨by rw [upd_ne (Ne.symm n1)]; exact h1, by rw [upd_ne (Ne.symm n2)]; exact h2, by rw [upd_ne (Ne.symm n3)]; exact h3, r⟩⟩
theorem HpOk.updO {C : Cc} {H : Hp} {ws : WS} {A : Addr} {o : HO} (h : HpOk C H ws) (nw : ∀ w, C.wa = some w → A ≠ w.m ∧ A ≠ w.g ∧ A ≠ w.c) : HpOk C (upd H A o) ws :=
  ⟨h.w.upd nw, fun a ha => by
    by_cases q : a = A
    · exact ⟨o, by rw [q]; exact upd_same⟩
    · obtain ⟨u, e⟩ := h.al a ha
      exact ⟨u, by rw [upd_ne q]; exact e⟩, h.wo⟩
theorem mapR_cons {f : D → M (Option D)} {x : D} {xs : List D} {w w2 : WS} {ys : List D} (e : mapR f (x :: xs) w = .ok ys w2) : ∃ o w1 yr, f x w = .ok o w1 ∧ mapR f xs w1 = .ok yr w2 ∧ ys = (match o with | some y => y :: yr | none => yr) := by
  unfold mapR at e
  obtain ⟨o, w1, e1, e⟩ := bind_ok e
  obtain ⟨yr, w3, e2, e⟩ := bind_ok e
  obtain ⟨rfl, rfl⟩ := ok_ok e
  exact ⟨o, w1, yr, e1, e2, rfl⟩
/-- the heap while the list at A grows -/
structure Gro (C : Cc) (A : Addr) (H1 H : Hp) (ws : WS) (acc : List V) (da : List D) : Prop where
  at_ : H A = some (.lst acc)
  den : DenL (C.plus A) H acc da
  keep : Keep C.wa H1 H
  ok : HpOk (C.plus A) H ws
section
variable {C : Cc} {A : Addr} {H1 H H' : Hp} {ws ws' : WS} {acc : List V} {da : List D}
theorem notW (x : HpOk C H1 ws) (nA : H1 A = none) : ∀ w, C.wa = some w → A ≠ w.m ∧ A ≠ w.g ∧ A ≠ w.c := fun w ew => by
  obtain ⟨h1, h2, h3, _⟩ := x.w.ok w ew
  exact ⟨fun q => (by rw [q, h1] at nA; cases nA), fun q => (by rw [q, h2] at nA; cases nA), fun q => (by rw [q, h3] at nA; cases nA)⟩
theorem HpOk.plus (x : HpOk C H ws) (h : ∃ o, H A = some o) : HpOk (C.plus A) H ws := ⟨x.w, fun a z => Or.elim z (x.al a) fun q => by rw [q]; exact h, fun w ew => ⟨.inl (x.wo w ew).1, .inl (x.wo w ew).2⟩⟩
theorem Gro.start (x : HpOk C H1 ws) (nA : H1 A = none) : Gro C A H1 (upd H1 A (.lst [])) ws [] [] := ⟨upd_same, .nil, .new nA, (x.new nA).plus ⟨_, upd_same⟩⟩
theorem Gro.step (g : Gro C A H1 H ws acc da) (nw : ∀ w, C.wa = some w → A ≠ w.m ∧ A ≠ w.g ∧ A ≠ w.c) (kk : Keep C.wa H H') (ok : HpOk (C.plus A) H' ws') : Gro C A H1 H' ws' acc da :=
  ⟨kk A _ g.at_ fun w ew => ⟨(nw w ew).1, (nw w ew).2.1⟩, g.den.keep g.ok kk, g.keep.trans kk, ok⟩
theorem Gro.add (g : Gro C A H1 H ws acc da) (nA : H1 A = none) (nw : ∀ w, C.wa = some w → A ≠ w.m ∧ A ≠ w.g ∧ A ≠ w.c) {v : V} {d : D} (h : Den (C.plus A) H v d) : Gro C A H1 (upd H A (.lst (acc ++ [v]))) ws (acc ++ [v]) (da ++ [d]) :=
  ⟨upd_same, (g.den.append (.cons h .nil)).updO (.inr rfl), fun a o e n => by rw [upd_ne (ne_of_none e nA)]; exact g.keep a o e n, g.ok.updO nw⟩
/-- the list is done -/
theorem Gro.post {m : Bool} {Q : VK} {H0 : Hp} {ws0 : WS} (g : Gro C A H1 H ws acc da) (x : HpOk C H1 ws0) (nA : H1 A = none) (k1 : Keep C.wa H0 H1) (P : Post C H0 m true (.lst da) ws Q) : Q (.ref A) H := by
  refine P _ _ (k1.trans g.keep) (g.ok.less (fun a z => .inl z) rfl x.wo) (.inl (.lst g.at_ (x.out nA) (g.den.less (fun a z => .inl z) rfl rfl))) fun _ ds e => ?_
  cases e
  exact ⟨A, acc, rfl, k1.none x.w nA, g.at_, g.den⟩
end
theorem noOwn_wiped {env : SEnv} {own l : List Nat} (h : ∀ i ∈ l, i ∈ own) : noOwn (wipe env own) l = true := by
  unfold noOwn
  rw [List.all_eq_true]
  intro i hi
  split
  · rename_i d e
    exact absurd (h i hi) (wipe_at (by intro z; cases z) e).2
  · rfl
theorem drop_at {α : Type} {l : List α} {i : Nat} {x : α} (h : l[i]? = some x) : l.drop i = x :: l.drop (i + 1) := by
  obtain ⟨hl, e⟩ := List.getElem?_eq_some_iff.mp h
  rw [List.drop_eq_getElem_cons hl, e]
theorem src_new {H H' : Hp} {C : Cc} {ws : WS} (x : HpOk C H ws) (h : H' = H ∨ ∃ T o, H T = none ∧ H' = upd H T o) : Keep C.wa H H' ∧ HpOk C H' ws := by
  rcases h with rfl | ⟨T, o, nT, rfl⟩
  · exact ⟨Keep.refl _ _, x⟩
  · exact ⟨.new nT, x.new nT⟩
theorem pres_keep {C : Cc} {H H' : Hp} {ws : WS} (x : HpOk C H ws) (kk : Keep C.wa H H') : Pres true C H H' := fun a o e n => kk a o e (by
  rcases n with n | ⟨_, n⟩
  · exact fun w ew => ⟨fun q => n (q ▸ (x.wo w ew).1), fun q => n (q ▸ (x.wo w ew).2)⟩
  · exact n)
theorem comp_core {σ : L2.St} {H : Hp} {Q : VK} {env : SEnv} {ws ws' : WS} {d : D} {elt : Ex} {tg : Tg} {own : List Nat} {src : Src} {ifs : Exs} {m : Bool} (hsub : ∀ i ∈ tgSl tg, i ∈ own) (E : EnvOk S σ env H) (O : HpOk (S.cc σ env) H ws)
    (e : ev cl gl (.comp elt tg own src ifs) m env ws = .ok d ws') (P : Post (S.cc σ env) H m true d ws' Q) :
    tLc (tS S cl gl true src) (exG S.K fun S => tG S tg) (exT S.K fun S => tIfs S cl gl ifs) (exE S.K fun S => tE S fr cl gl elt false) own σ H Q := by
  rw [ev] at e
  split at e
  · rename_i hn
    unfold lstR at e
    obtain ⟨ys, w2, e1, e⟩ := bind_ok e
    obtain ⟨ds, w1, e1, e2⟩ := bind_ok e1
    split at e
    · rename_i hlen
      obtain ⟨rfl, rfl⟩ := ok_ok e
      refine ⟨env, ws, ds, w1, E, O, e1, fun J H1 k1 O1 so A nA => ?_⟩
      obtain ⟨G, Y, wk, hG, hY⟩ := so
      have E1 := E.keep O k1
      have nw := notW O1 nA
      have cw : (S.plus A).cc (L2.wipe σ own) (wipe env own) = (S.plus A).cc σ env := cc_wipe hn
      have toP : ∀ {H : Hp} {w : WS}, HpOk ((S.plus A).cc σ env) H w → HpOk ((S.cc σ env).plus A) H w := fun h => h.less (fun a => (plusO a).mpr) rfl fun w ew => ⟨.inl (O1.wo w ew).1, .inl (O1.wo w ew).2⟩
      have ofP : ∀ {H : Hp} {w : WS}, HpOk ((S.cc σ env).plus A) H w → HpOk ((S.plus A).cc σ env) H w := fun h => h.less (fun a => (plusO a).mp) rfl fun w ew => ⟨.inl (.inl (E.wo w ew).1), .inl (.inl (E.wo w ew).2)⟩
      refine lc_it wk (fun i H => ∃ acc da wi yr, mapR _ (ds.drop i) wi = .ok yr w2 ∧ ys = da ++ yr ∧ Gro (S.cc σ env) A H1 H wi acc da) ⟨[], [], w1, ys, e2, rfl, .start O1 nA⟩ (fun i H _ h => ?_) (fun i x H H' hi h y => ?_) fun H h => ?_
      · obtain ⟨acc, da, wi, yr, _, _, gr⟩ := h
        exact hG _ (pres_keep O1 gr.keep)
      · obtain ⟨acc, da, wi, yr, em, ey, gr⟩ := h
        have Ew : EnvOk (S.plus A) (L2.wipe σ own) (wipe env own) H := (E1.grow O1 nA gr.keep).wipe hn
        have okw : HpOk ((S.plus A).cc (L2.wipe σ own) (wipe env own)) H wi := by rw [cw]; exact ofP gr.ok
        obtain ⟨dd, hd, dn, hf⟩ := hY i x H H' _ wi hi ((onto_plus O1 nA gr.keep).of (C2 := (S.plus A).cc (L2.wipe σ own) (wipe env own)) (fun a z => by rw [cw] at z; exact (plusO a).mp z) rfl rfl) okw y
        obtain ⟨kH, okH⟩ := src_new okw hf
        rw [drop_at hd] at em
        obtain ⟨o, w3, yr', ef, em, eyr⟩ := mapR_cons em
        obtain ⟨e2', w4, b1, ef⟩ := bind_ok ef
        obtain ⟨f1, rfl⟩ := of_ok b1
        obtain ⟨c, w5, b2, ef⟩ := bind_ok ef
        refine ⟨S.plus A, rfl, wipe env own, dd, e2', Ew.keep okw kH, dn, f1, fun σ2 E2 Af => ⟨by rw [Af.2.2.2 own hsub, wipe2], ?_⟩⟩
        have cc2 : (S.plus A).cc σ2 e2' = (S.plus A).cc σ env := (Af.2.1 (noOwn_wiped hsub)).trans cw
        have okH' : HpOk ((S.plus A).cc σ2 e2') H' wi := by rw [cc2, ← cw]; exact okH
        refine ⟨S.plus A, rfl, e2', wi, c, w5, E2, okH', b2, fun H3 k3 O3 => ?_⟩
        have gr3 : Gro (S.cc σ env) A H1 H3 w5 acc da := gr.step nw (kH.trans k3) (toP (by rw [← cc2]; exact O3))
        cases c with
        | false =>
          rw [if_neg Bool.false_ne_true] at ef
          show if false = true then _ else _
          rw [if_neg Bool.false_ne_true]
          obtain ⟨rfl, rfl⟩ := ok_ok ef
          exact ⟨acc, da, w5, yr', em, by rw [ey, eyr], gr3⟩
        | true =>
          rw [if_pos rfl] at ef
          show if true = true then _ else _
          rw [if_pos rfl]
          obtain ⟨y, w6, b3, ef⟩ := bind_ok ef
          obtain ⟨rfl, rfl⟩ := ok_ok ef
          refine ⟨S.plus A, rfl, e2', w5, y, w6, E2.keep okH' k3, O3, b3, fun v H4 k4 O4 D4 _ => ?_⟩
          have gr4 : Gro (S.cc σ env) A H1 H4 w6 acc da := gr3.step nw k4 (toP (by rw [← cc2]; exact O4))
          have D4' : Den ((S.cc σ env).plus A) H4 v y := by
            have q := D4.strict
            rw [cc2] at q
            exact q.less (fun a => (plusO a).mpr) rfl rfl
          refine ⟨acc, gr4.at_, ?_, acc ++ [v], da ++ [y], w6, yr', em, by rw [ey, eyr]; simp, gr4.add nA nw D4'⟩
          rw [gr4.den.length, ← line_eq]
          have := congrArg List.length ey
          rw [eyr] at this
          simp at this
          omega
      · obtain ⟨acc, da, wi, yr, em, ey, gr⟩ := h
        rw [List.drop_length] at em
        obtain ⟨rfl, rfl⟩ := ok_ok (show M.ok [] wi = .ok yr w2 from em)
        rw [List.append_nil] at ey
        subst ey
        exact gr.post O1 nA k1 P
    · exact (stuck_ok (w := w2) e).elim
  · exact (stuck_ok (w := ws) e).elim
theorem flatR_cons {f : D → M (List D)} {x : D} {xs : List D} {w w2 : WS} {ys : List D} (e : flatR f (x :: xs) w = .ok ys w2) : ∃ o w1 yr, f x w = .ok o w1 ∧ flatR f xs w1 = .ok yr w2 ∧ ys = o ++ yr := by
  unfold flatR at e
  obtain ⟨o, w1, e1, e⟩ := bind_ok e
  obtain ⟨yr, w3, e2, e⟩ := bind_ok e
  obtain ⟨rfl, rfl⟩ := ok_ok e
  exact ⟨o, w1, yr, e1, e2, rfl⟩
/-- for x in .. for y in ..: the inner part, from the heap H4 on -/
theorem comp2_in {σ2 : L2.St} {env1 : SEnv} {H4 H1 : Hp} {C : Cc} {A : Addr} {acc : List V} {da es yo yr ys : List D} {elt : Ex} {tg : Tg} {own2 : List Nat} {w3 w4 : WS} {J : It} {Nx : Hp → Prop} (hsub : ∀ i ∈ tgSl tg, i ∈ own2) (nA : H1 A = none) (nw : ∀ w, C.wa = some w → A ≠ w.m ∧ A ≠ w.g ∧ A ≠ w.c)
    (hA : S.Oc A) (hB : ¬ S.Bo A) (eO : ∀ a, (S.cc σ2 env1).O a ↔ (C.plus A).O a) (eK : S.K = C.K) (ew : S.wa = C.wa) (hn : noOwn env1 own2 = true)
    (E4 : EnvOk S σ2 env1 H4) (gr4 : Gro C A H1 H4 w3 acc da) (em : mapR (fun e => M.bind (M.of (bindTg tg e (wipe env1 own2))) fun e2 => M.bind (ev cl gl elt false e2) fun y => M.ok (some y)) es w3 = .ok yo w4) (ey : ys = da ++ (yo ++ yr)) (hlen : ys.length ≤ line)
    (so : SrcOk false (S.cc σ2 env1) H4 J es) (hd : ∀ H acc, Gro C A H1 H w4 acc (da ++ yo) → Nx H) :
    ∃ W1 : Nat → Nat → Hp → Prop, (∃ m, W1 0 m H4) ∧ ∀ j k H, W1 j k H → (J.stop j H ∧ Nx H) ∨ (J.go j H ∧ ∃ Nx1 : Hp → Prop, (∀ H', Nx1 H' → ∃ k', k' < k ∧ W1 (j + 1) k' H') ∧ ∀ x H', J.yld j H x H' → exG S.K (fun S => tG S tg) x (L2.wipe σ2 own2) H' fun σ3 H5 => L2.wipe σ3 own2 = L2.wipe σ2 own2 ∧
      exT S.K (fun S => tIfs S cl gl .nil) σ3 H5 fun b H6 => if b = true then exE S.K (fun S => tE S fr cl gl elt false) σ3 H6 fun y H7 => ∃ acc, H7 A = some (.lst acc) ∧ acc.length < sizeLine ∧ Nx1 (upd H7 A (.lst (acc ++ [y]))) else Nx1 H6) := by
  obtain ⟨G, Y, wk, hG, hY⟩ := so
  have cw : S.cc (L2.wipe σ2 own2) (wipe env1 own2) = S.cc σ2 env1 := cc_wipe hn
  have toP : ∀ {H : Hp} {w : WS}, HpOk (S.cc σ2 env1) H w → HpOk (C.plus A) H w := fun h => h.less (fun a => (eO a).mpr) ew.symm fun w e => ⟨(eO _).mp (h.wo w (ew.trans e)).1, (eO _).mp (h.wo w (ew.trans e)).2⟩
  have ofP : ∀ {H : Hp} {w : WS}, HpOk (C.plus A) H w → HpOk (S.cc σ2 env1) H w := fun h => h.less (fun a => (eO a).mp) ew fun w e => ⟨(eO _).mpr (h.wo w (ew.symm.trans e)).1, (eO _).mpr (h.wo w (ew.symm.trans e)).2⟩
  have AO : (S.cc σ2 env1).O A := (eO A).mpr (.inr rfl)
  -- what lies outside O is kept
  have main : ∀ H, (∀ a o, H4 a = some o → ¬ (S.cc σ2 env1).O a → H a = some o) → Onto (S.cc σ2 env1) (S.cc σ2 env1) H4 H := fun H h => ⟨rfl, rfl, fun a o e na => ⟨h a o e na, na⟩⟩
  refine ⟨fun j m H => m = es.length - j ∧ j ≤ es.length ∧ ∃ acc dj wj yj, mapR (fun e => M.bind (M.of (bindTg tg e (wipe env1 own2))) fun e2 => M.bind (ev cl gl elt false e2) fun y => M.ok (some y)) (es.drop j) wj = .ok yj w4 ∧ yo = dj ++ yj ∧ Gro C A H1 H wj acc (da ++ dj) ∧
    (∀ a o, H4 a = some o → ¬ (S.cc σ2 env1).O a → H a = some o) ∧ EnvOk S σ2 env1 H, ⟨es.length, by simp, Nat.zero_le _, acc, [], w3, yo, em, rfl, by rw [List.append_nil]; exact gr4, fun a o e _ => e, E4⟩, ?_⟩
  rintro j m H ⟨rfl, hj, acc, dj, wj, yj, em, eyo, gr, kp, EH⟩
  have q : G H := hG H fun a o e n => by
    rcases n with n | ⟨n, _⟩
    · exact kp a o e n
    · cases n
  by_cases hlt : j < es.length
  · refine .inr ⟨wk.goes j H hlt q, fun H => ∃ acc dj wj yj, mapR (fun e => M.bind (M.of (bindTg tg e (wipe env1 own2))) fun e2 => M.bind (ev cl gl elt false e2) fun y => M.ok (some y)) (es.drop (j + 1)) wj = .ok yj w4 ∧ yo = dj ++ yj ∧ Gro C A H1 H wj acc (da ++ dj) ∧
      (∀ a o, H4 a = some o → ¬ (S.cc σ2 env1).O a → H a = some o) ∧ EnvOk S σ2 env1 H, fun H' p => ⟨es.length - (j + 1), by omega, rfl, hlt, p⟩, fun x H' y => ?_⟩
    have y := wk.yields j H x H' hlt q y
    have Ew : EnvOk S (L2.wipe σ2 own2) (wipe env1 own2) H := EH.wipe hn
    have okw : HpOk (S.cc (L2.wipe σ2 own2) (wipe env1 own2)) H wj := by rw [cw]; exact ofP gr.ok
    obtain ⟨dd, hd', dn, hf⟩ := hY j x H H' _ wj hlt (by rw [cw]; exact main H kp) okw y
    obtain ⟨kH, okH⟩ := src_new okw hf
    rw [drop_at hd'] at em
    obtain ⟨o, w5, yj', ef, em, eyj⟩ := mapR_cons em
    obtain ⟨e2, w6, b1, ef⟩ := bind_ok ef
    obtain ⟨f1, rfl⟩ := of_ok b1
    obtain ⟨yv, w7, b3, ef⟩ := bind_ok ef
    obtain ⟨rfl, rfl⟩ := ok_ok ef
    refine ⟨S, rfl, wipe env1 own2, dd, e2, Ew.keep okw kH, dn, f1, fun σ3 E3 Af => ⟨by rw [Af.2.2.2 own2 hsub, wipe2], ?_⟩⟩
    have cc3 : S.cc σ3 e2 = S.cc σ2 env1 := (Af.2.1 (noOwn_wiped hsub)).trans cw
    have ok3 : HpOk (S.cc σ3 e2) H' wj := by rw [cc3, ← cw]; exact okH
    refine ⟨S, rfl, e2, wj, true, wj, E3, ok3, by rw [evIf]; rfl, fun H6 k6 O6 => ?_⟩
    show if true = true then _ else _
    rw [if_pos rfl]
    refine ⟨S, rfl, e2, wj, yv, w7, E3.keep ok3 k6, O6, b3, fun v H7 k7 O7 D7 _ => ?_⟩
    have kk : Keep C.wa H H7 := by rw [← ew]; exact (kH.trans k6).trans k7
    have gr7 : Gro C A H1 H7 w7 acc (da ++ dj) := gr.step nw kk (toP (by rw [← cc3]; exact O7))
    have D7' : Den (C.plus A) H7 v yv := by
      have q := D7.strict
      rw [cc3] at q
      exact q.less (fun a => (eO a).mpr) eK.symm ew.symm
    have kp7 : ∀ a o, H4 a = some o → ¬ (S.cc σ2 env1).O a → H7 a = some o := fun a o e na => kk a o (kp a o e na) fun w e => ⟨fun z => na (by rw [z]; exact (EH.wo w (ew.trans e)).1 |> .inl), fun z => na (by rw [z]; exact (EH.wo w (ew.trans e)).2 |> .inl)⟩
    refine ⟨acc, gr7.at_, ?_, acc ++ [v], dj ++ [yv], w7, yj', em, by rw [eyo, eyj]; simp, ?_, fun a o e na => ?_, ?_⟩
    · rw [gr7.den.length, ← line_eq]
      have h1 := congrArg List.length ey
      have h2 := congrArg List.length eyo
      rw [eyj] at h2
      simp at h1 h2
      simp
      omega
    · rw [← List.append_assoc]
      exact gr7.add nA nw D7'
    · rw [upd_ne (fun z => na (by rw [z]; exact AO))]
      exact kp7 a o e na
    · -- the slots, the list at A longer
      have EH7 : EnvOk S σ2 env1 H7 := EH.keep (ofP gr.ok) (by rw [ew]; exact kk)
      exact EH7.updA hA hB
  · have e : j = es.length := by omega
    subst e
    rw [List.drop_length] at em
    obtain ⟨rfl, rfl⟩ := ok_ok (show M.ok [] wj = .ok yj w4 from em)
    rw [List.append_nil] at eyo
    subst eyo
    exact .inl ⟨wk.stops H q, hd H acc gr⟩
theorem comp2_core {σ : L2.St} {H : Hp} {Q : VK} {env : SEnv} {ws ws' : WS} {d : D} {elt : Ex} {t1 t2 : Tg} {own own2 : List Nat} {s1 s2 : Src} {m : Bool} (hsub : ∀ i ∈ tgSl t1, i ∈ own) (hsub2 : ∀ i ∈ tgSl t2, i ∈ own2) (hsub3 : ∀ i ∈ own2, i ∈ own) (E : EnvOk S σ env H) (O : HpOk (S.cc σ env) H ws)
    (e : ev cl gl (.comp2 elt t1 t2 own own2 s1 s2) m env ws = .ok d ws') (P : Post (S.cc σ env) H m true d ws' Q) :
    tLc2 (tS S cl gl true s1) (exG S.K fun S => tG S t1) (exT S.K fun S => tIfs S cl gl .nil) (exI S.K fun S => tS S cl gl false s2) (exG S.K fun S => tG S t2) (exT S.K fun S => tIfs S cl gl .nil) (exE S.K fun S => tE S fr cl gl elt false) own own2 σ H Q := by
  rw [ev] at e
  split at e
  · rename_i hn
    unfold lstR at e
    obtain ⟨ys, w2, e1, e⟩ := bind_ok e
    obtain ⟨ds, w1, e1, e2⟩ := bind_ok e1
    split at e
    · rename_i hlen
      obtain ⟨rfl, rfl⟩ := ok_ok e
      refine ⟨env, ws, ds, w1, E, O, e1, fun J H1 k1 O1 so A nA => ?_⟩
      obtain ⟨G, Y, wk, hG, hY⟩ := so
      have E1 := E.keep O k1
      have nw := notW O1 nA
      have nB : ¬ S.Bo A := fun z => O1.out nA (.inl (E.bo.1 A z))
      have cw : (S.plus A).cc (L2.wipe σ own) (wipe env own) = (S.plus A).cc σ env := cc_wipe hn
      have toP : ∀ {H : Hp} {w : WS}, HpOk ((S.plus A).cc σ env) H w → HpOk ((S.cc σ env).plus A) H w := fun h => h.less (fun a => (plusO a).mpr) rfl fun w ew => ⟨.inl (O1.wo w ew).1, .inl (O1.wo w ew).2⟩
      have ofP : ∀ {H : Hp} {w : WS}, HpOk ((S.cc σ env).plus A) H w → HpOk ((S.plus A).cc σ env) H w := fun h => h.less (fun a => (plusO a).mp) rfl fun w ew => ⟨.inl (.inl (E.wo w ew).1), .inl (.inl (E.wo w ew).2)⟩
      refine ⟨fun i m H => m = ds.length - i ∧ i ≤ ds.length ∧ ∃ acc da wi yr, flatR (fun d => M.bind (M.of (bindTg t1 d (wipe env own))) fun e1 => M.bind (evS cl gl s2 false e1) fun es => mapR (fun e => M.bind (M.of (bindTg t2 e (wipe e1 own2))) fun e2 => M.bind (ev cl gl elt false e2) fun y => M.ok (some y)) es) (ds.drop i) wi = .ok yr w2 ∧ ys = da ++ yr ∧ Gro (S.cc σ env) A H1 H wi acc da,
        ⟨ds.length, by simp, Nat.zero_le _, [], [], w1, ys, e2, rfl, .start O1 nA⟩, ?_⟩
      rintro i m' H2 ⟨rfl, hi, acc, da, wi, yr, em, ey, gr⟩
      have q : G H2 := hG _ (pres_keep O1 gr.keep)
      by_cases hlt : i < ds.length
      · refine .inr ⟨wk.goes i H2 hlt q, fun H => ∃ acc da wi yr, flatR (fun d => M.bind (M.of (bindTg t1 d (wipe env own))) fun e1 => M.bind (evS cl gl s2 false e1) fun es => mapR (fun e => M.bind (M.of (bindTg t2 e (wipe e1 own2))) fun e2 => M.bind (ev cl gl elt false e2) fun y => M.ok (some y)) es) (ds.drop (i + 1)) wi = .ok yr w2 ∧ ys = da ++ yr ∧ Gro (S.cc σ env) A H1 H wi acc da,
          fun H' p => ⟨ds.length - (i + 1), by omega, rfl, hlt, p⟩, fun x H' y => ?_⟩
        have y := wk.yields i H2 x H' hlt q y
        have Ew : EnvOk (S.plus A) (L2.wipe σ own) (wipe env own) H2 := (E1.grow O1 nA gr.keep).wipe hn
        have okw : HpOk ((S.plus A).cc (L2.wipe σ own) (wipe env own)) H2 wi := by rw [cw]; exact ofP gr.ok
        obtain ⟨dd, hd, dn, hf⟩ := hY i x H2 H' _ wi hlt ((onto_plus O1 nA gr.keep).of (C2 := (S.plus A).cc (L2.wipe σ own) (wipe env own)) (fun a z => by rw [cw] at z; exact (plusO a).mp z) rfl rfl) okw y
        obtain ⟨kH, okH⟩ := src_new okw hf
        rw [drop_at hd] at em
        obtain ⟨o, w3, yr', ef, em, eyr⟩ := flatR_cons em
        obtain ⟨env1, w4, b1, ef⟩ := bind_ok ef
        obtain ⟨f1, rfl⟩ := of_ok b1
        obtain ⟨es, w5, b2, ef⟩ := bind_ok ef
        refine ⟨S.plus A, rfl, wipe env own, dd, env1, Ew.keep okw kH, dn, f1, fun σ2 E2 Af => ⟨by rw [Af.2.2.2 own hsub, wipe2], ?_⟩⟩
        have cc2 : (S.plus A).cc σ2 env1 = (S.plus A).cc σ env := (Af.2.1 (noOwn_wiped hsub)).trans cw
        have okH' : HpOk ((S.plus A).cc σ2 env1) H' wi := by rw [cc2, ← cw]; exact okH
        refine ⟨S.plus A, rfl, env1, wi, true, wi, E2, okH', by rw [evIf]; rfl, fun H3 k3 O3 => ?_⟩
        show if true = true then _ else _
        rw [if_pos rfl]
        refine ⟨S.plus A, rfl, env1, wi, es, w5, E2.keep okH' k3, O3, b2, fun J1 H4 k4 O4 so1 => ?_⟩
        have gr4 : Gro (S.cc σ env) A H1 H4 w5 acc da := gr.step nw ((kH.trans k3).trans k4) (toP (by rw [← cc2]; exact O4))
        have E4 := (E2.keep okH' k3).keep O3 k4
        exact comp2_in (S := S.plus A) (fr := fr) hsub2 nA nw (.inr rfl) nB (fun a => by rw [cc2]; exact plusO a) rfl rfl (Af.2.2.1 _ (noOwn_wiped hsub3)) E4 gr4 ef (by rw [ey, eyr]) hlen so1 fun H acc g5 => ⟨acc, da ++ o, w3, yr', em, by rw [ey, eyr]; simp, g5⟩
      · have e : i = ds.length := by omega
        subst e
        rw [List.drop_length] at em
        obtain ⟨rfl, rfl⟩ := ok_ok (show M.ok [] wi = .ok yr w2 from em)
        rw [List.append_nil] at ey
        subst ey
        exact .inl ⟨wk.stops H2 q, gr.post O1 nA k1 P⟩
    · exact (stuck_ok (w := w2) e).elim
  · exact (stuck_ok (w := ws) e).elim
end
end Pc

set_option Elab.async false
set_option linter.all false
set_option maxRecDepth 100000
set_option maxHeartbeats 4000000
/-! # Soundness 8: every expression -/
namespace Pc
open PySem L2 PyProof.Rows StX
theorem contains_mem {l : List Nat} {i : Nat} (h : l.contains i = true) : i ∈ l := by simpa using h
theorem all_mem {a b : List Nat} (h : a.all b.contains = true) : ∀ i ∈ a, i ∈ b := fun i hi => contains_mem (List.all_eq_true.mp h i hi)
theorem ownN_snd (n : Nx) (own : List Nat) : (ownN n own).map (·.2) = own := by
  unfold ownN
  rw [List.map_map]
  exact List.map_id own
theorem chk_fold {n : Nx} {k : Kx} {a : Ex} {x : Expr} (h : chk n k a x = true) (env : PySem.Env) : ∀ v, foldedSetIterable x env v = pure v := by
  intro v
  cases x <;> first | rfl | (exfalso; cases a <;> simp [chk] at h)
theorem chkS_fold {n : Nx} {k : Kx} {t : Expr} {a : Src} {x : Expr} (h : chkS n k t a x = true) (env : PySem.Env) : ∀ v, foldedSetIterable x env v = pure v := by
  intro v
  cases a with
  | ex e => exact chk_fold (by simpa [chkS] using h) env v
  | rng1 a => cases x <;> first | rfl | (exfalso; simp [chkS] at h)
  | rng2 a b => cases x <;> first | rfl | (exfalso; simp [chkS] at h)
  | enu a => cases x <;> first | rfl | (exfalso; simp [chkS] at h)
  | zip a b => cases x <;> first | rfl | (exfalso; simp [chkS] at h)
theorem isi_arg {sc : Scope} {ts : List Ty} {t : Expr} (h : (match ts, t with
        | [ty], .Name y q => chkTy sc ty (.Name y q)
        | ts, .Tuple es _ _ => chkTys sc ts es && ts.length ≤ 5 && !ts.isEmpty
        | _, _ => false) = true) : (∃ ty y q, ts = [ty] ∧ t = .Name y q ∧ chkTy sc ty (.Name y q) = true) ∨ (∃ es j q, t = .Tuple es j q ∧ chkTys sc ts es = true ∧ ts.length ≤ 5 ∧ ts ≠ []) := by
  split at h
  · exact .inl ⟨_, _, _, rfl, rfl, h⟩
  · simp only [Bool.and_eq_true, decide_eq_true_eq] at h
    exact .inr ⟨_, _, _, rfl, h.1.1, h.1.2, fun z => by rw [z] at h; simp at h⟩
  · cases h
theorem both {n : Nx} {S : Sx} {fr : Nat → Bool} {cl : Nat → List Sl → M D} {gl : Nat → D} {k : Kx} {X : Cx} (g : GX n S fr cl gl k X) {a : Ex} {x : Expr} (he : ∀ whole, isTrue x X.env whole = (do let v ← whole; standAt x.pos; holding [v] (truthy v))) (h : ∀ m, PE X x (tE S fr cl gl a m)) :
    (∀ m, PE X x (tE S fr cl gl a m)) ∧ PT X x (tT S cl gl a) := ⟨h, PT.ofPE g he (h true)⟩
section
variable {n : Nx} {fr : Nat → Bool} {cl : Nat → List Sl → M D} {gl : Nat → D}
theorem s_comp {S : Sx} {k : Kx} {X : Cx} (g : GX n S fr cl gl k X) {elt : Ex} {tg : Tg} {own : List Nat} {src : Src} {ifs : Exs} {x t it : Expr} {is : List Expr} {scope : Scope} {pos : Pos} {m : Bool} (hb : blkC n.N k.sc scope (ownN n own) = true) (hs : (tgSl tg).all own.contains = true)
    (hf : ∀ v, foldedSetIterable it X.env v = pure v) (hi : PI X t it (tS S cl gl true src)) (hg : chkTg n (blkK k.sc scope) tg t = true) (ht : ∀ {S : Sx} {X : Cx}, GX n S fr cl gl (blkK k.sc scope) X → PTs X is (tIfs S cl gl ifs)) (he : ∀ {S : Sx} {X : Cx}, GX n S fr cl gl (blkK k.sc scope) X → PE X x (tE S fr cl gl elt false)) :
    PE X (.ListComp x [⟨t, it, is, 0⟩] scope pos) (tE S fr cl gl (.comp elt tg own src ifs) m) := by
  have bo : BlkOk X.N X.env.scope scope (ownN n own) := by rw [g.N, g.sc]; exact blkOk_by hb
  have hN : X.N.Nodup := by rw [g.N]; exact g.nd
  refine PE.imp (pe_lc g.calm hN hi bo (fun s H C c fp => PG.ex fun S' e => g_tg ((g.blk s H scope C c fp).toS e) tg t hg) (fun s H C c fp => PTs.ex fun S' e => ht ((g.blk s H scope C c fp).toS e)) (fun s H C c fp => PE.ex fun S' e => he ((g.blk s H scope C c fp).toS e)) hf) fun σ H Q z => ?_
  obtain ⟨env, ws, d, ws', E, O, e, P⟩ := z
  rw [ownN_snd]
  exact comp_core (all_mem hs) E O e P
theorem s_comp2 {S : Sx} {k : Kx} {X : Cx} (g : GX n S fr cl gl k X) {elt : Ex} {t1 t2 : Tg} {own own2 : List Nat} {s1 s2 : Src} {x u1 i1 u2 i2 : Expr} {scope : Scope} {pos : Pos} {m : Bool} (hb : blkC n.N k.sc scope (ownN n own) = true) (h3 : own2.all own.contains = true) (hs : (tgSl t1).all own.contains = true) (hs2 : (tgSl t2).all own2.contains = true)
    (hf : ∀ v, foldedSetIterable i1 X.env v = pure v) (hf2 : ∀ env v, foldedSetIterable i2 env v = pure v) (hi : PI X u1 i1 (tS S cl gl true s1)) (hg : chkTg n (blkK k.sc scope) t1 u1 = true) (hi2 : ∀ {S : Sx} {X : Cx}, GX n S fr cl gl (blkK k.sc scope) X → PI X u2 i2 (tS S cl gl false s2)) (hg2 : chkTg n (blkK k.sc scope) t2 u2 = true)
    (he : ∀ {S : Sx} {X : Cx}, GX n S fr cl gl (blkK k.sc scope) X → PE X x (tE S fr cl gl elt false)) :
    PE X (.ListComp x [⟨u1, i1, [], 0⟩, ⟨u2, i2, [], 0⟩] scope pos) (tE S fr cl gl (.comp2 elt t1 t2 own own2 s1 s2) m) := by
  have bo : BlkOk X.N X.env.scope scope (ownN n own) := by rw [g.N, g.sc]; exact blkOk_by hb
  have hN : X.N.Nodup := by rw [g.N]; exact g.nd
  refine PE.imp (pe_lc2 (vs1 := own2) g.calm hN hi bo (by rw [ownN_snd]; exact all_mem h3) (fun s H C c fp => PG.ex fun S' e => g_tg ((g.blk s H scope C c fp).toS e) t1 u1 hg) (fun s H C c fp => PTs.ex (K := S.K) fun S' e => f_nil (S := S') (cl := cl) (gl := gl)) (fun s H C c fp => PI.ex fun S' e => hi2 ((g.blk s H scope C c fp).toS e))
    (fun s H C c fp => PG.ex fun S' e => g_tg ((g.blk s H scope C c fp).toS e) t2 u2 hg2) (fun s H C c fp => PTs.ex (K := S.K) fun S' e => f_nil (S := S') (cl := cl) (gl := gl)) (fun s H C c fp => PE.ex fun S' e => he ((g.blk s H scope C c fp).toS e)) hf hf2) fun σ H Q z => ?_
  obtain ⟨env, ws, d, ws', E, O, e, P⟩ := z
  rw [ownN_snd]
  exact comp2_core (all_mem hs) (all_mem hs2) (all_mem h3) E O e P
mutual
theorem sound : ∀ (a : Ex) {S : Sx} {k : Kx} {X : Cx}, GX n S fr cl gl k X → ∀ (x : Expr), chk n k a x = true → (∀ m, PE X x (tE S fr cl gl a m)) ∧ PT X x (tT S cl gl a)
  | .var i, S, k, X, g, x, h => by
    have q := s_var g h
    refine ⟨q, ?_⟩
    unfold chk at h
    split at h
    · exact PT.ofPE g (fun _ => rfl) (q true)
    · cases h
  | .glo i, S, k, X, g, x, h => by
    have q := s_glo g h
    refine ⟨q, ?_⟩
    unfold chk at h
    split at h
    · exact PT.ofPE g (fun _ => rfl) (q true)
    · cases h
  | .cst d, S, k, X, g, x, h => by
    have q := s_cst (S := S) (fr := fr) (cl := cl) (gl := gl) (X := X) h
    refine ⟨q, ?_⟩
    unfold chk at h
    split at h
    · exact PT.ofPE g (fun _ => rfl) (q true)
    · cases h
  | .bin op a b, S, k, X, g, x, h => by
    unfold chk at h
    split at h
    · simp only [Bool.and_eq_true, decide_eq_true_eq] at h
      obtain ⟨⟨rfl, h1⟩, h2⟩ := h
      exact both g (fun _ => rfl) fun m => s_bin g ((sound a g _ h1).1 true) ((sound b g _ h2).1 true)
    · cases h
  | .neg a, S, k, X, g, x, h => by
    unfold chk at h
    split at h
    · exact both g (fun _ => rfl) fun m => s_neg g ((sound a g _ h).1 false)
    · cases h
  | .not a, S, k, X, g, x, h => by
    unfold chk at h
    split at h
    · exact ⟨fun m => s_not g ((sound a g _ h).1 true), s_notT g (sound a g _ h).2⟩
    · cases h
  | .bop and es, S, k, X, g, x, h => by
    unfold chk at h
    split at h
    · simp only [Bool.and_eq_true] at h
      obtain ⟨rfl, h⟩ := h
      exact ⟨fun m => s_bop (sound_b es g _ h _).1.1, s_bopT (sound_b es g _ h _).1.2⟩
    · simp only [Bool.and_eq_true, Bool.not_eq_true'] at h
      obtain ⟨rfl, h⟩ := h
      exact ⟨fun m => s_bop (sound_b es g _ h _).2.1, s_bopT (sound_b es g _ h _).2.2⟩
    · cases h
  | .cmp op a b, S, k, X, g, x, h => by
    unfold chk at h
    split at h
    · simp only [Bool.and_eq_true, decide_eq_true_eq] at h
      obtain ⟨⟨rfl, h1⟩, h2⟩ := h
      exact ⟨fun m => (s_cmp (m := m) g (chk_mark h2 _) ((sound a g _ h1).1 true) ((sound b g _ h2).1 true)).1, (s_cmp (m := true) g (chk_mark h2 _) ((sound a g _ h1).1 true) ((sound b g _ h2).1 true)).2⟩
    · cases h
  | .chain o1 o2 a b c, S, k, X, g, x, h => by
    unfold chk at h
    split at h
    · simp only [Bool.and_eq_true, decide_eq_true_eq] at h
      obtain ⟨⟨⟨⟨rfl, rfl⟩, h1⟩, h2⟩, h3⟩ := h
      exact ⟨fun m => (s_chain (m := m) g (chk_mark h3 _) ((sound a g _ h1).1 true) ((sound b g _ h2).1 true) ((sound c g _ h3).1 true)).1, (s_chain (m := true) g (chk_mark h3 _) ((sound a g _ h1).1 true) ((sound b g _ h2).1 true) ((sound c g _ h3).1 true)).2⟩
    · cases h
  | .ife c a b, S, k, X, g, x, h => by
    unfold chk at h
    split at h
    · simp only [Bool.and_eq_true] at h
      obtain ⟨⟨h1, h2⟩, h3⟩ := h
      exact ⟨fun m => s_ife g (sound c g _ h1).2 ((sound a g _ h2).1 false) ((sound b g _ h3).1 false), t_ife (sound c g _ h1).2 (sound a g _ h2).2 (sound b g _ h3).2⟩
    · cases h
  | .tup es, S, k, X, g, x, h => by
    unfold chk at h
    split at h
    · exact both g (fun _ => rfl) fun m => s_tup g (sound_es es g _ h)
    · cases h
  | .lst es, S, k, X, g, x, h => by
    unfold chk at h
    split at h
    · exact both g (fun _ => rfl) fun m => s_lst g (sound_es es g _ h)
    · cases h
  | .idx a i, S, k, X, g, x, h => by
    unfold chk at h
    split at h
    · simp only [Bool.and_eq_true] at h
      obtain ⟨h1, h2⟩ := h
      exact both g (fun _ => rfl) fun m => s_idx g (chk_ix h2) ((sound a g _ h1).1 true) ((sound i g _ h2).1 false)
    · cases h
  | .slice a lo hi, S, k, X, g, x, h => by
    unfold chk at h
    split at h
    · simp only [Bool.and_eq_true] at h
      obtain ⟨⟨h1, h2⟩, h3⟩ := h
      exact both g (fun _ => rfl) fun m => s_slice g ((sound a g _ h1).1 true) (sound_o lo g _ h2) (sound_o hi g _ h3)
    · cases h
  | .comp elt tg own src ifs, S, k, X, g, x, h => by
    unfold chk at h
    split at h
    · simp only [Bool.and_eq_true] at h
      obtain ⟨⟨⟨⟨⟨h1, h2⟩, h3⟩, h4⟩, h5⟩, h6⟩ := h
      exact both g (fun _ => rfl) fun m => s_comp g h1 h2 (chkS_fold h3 _) (sound_s src g _ _ h3 true) h4 (fun g' => sound_f ifs g' _ h5) (fun g' => (sound elt g' _ h6).1 false)
    · cases h
  | .comp2 elt t1 t2 own own2 s1 s2, S, k, X, g, x, h => by
    unfold chk at h
    split at h
    · simp only [Bool.and_eq_true] at h
      obtain ⟨⟨⟨⟨⟨⟨⟨⟨h1, h2⟩, h3⟩, h4⟩, h5⟩, h6⟩, h7⟩, h8⟩, h9⟩ := h
      exact both g (fun _ => rfl) fun m => s_comp2 g h1 h2 h3 h4 (chkS_fold h5 _) (fun env => chkS_fold h7 env) (sound_s s1 g _ _ h5 true) h6 (fun g' => sound_s s2 g' _ _ h7 false) h8 (fun g' => (sound elt g' _ h9).1 false)
    · cases h
  | .call f es, S, k, X, g, x, h => by
    unfold chk at h
    split at h
    · simp only [Bool.and_eq_true, decide_eq_true_eq] at h
      obtain ⟨⟨⟨h1, h2⟩, h3⟩, h4⟩ := h
      exact both g (fun _ => rfl) fun m => s_call g h1 h2 h3 h4 (sound_g es g _ h4)
    · cases h
  | .bi b es, S, k, X, g, x, h => by
    unfold chk at h
    split at h
    · simp only [Bool.and_eq_true, beq_iff_eq] at h
      obtain ⟨⟨h1, h2⟩, h3⟩ := h
      exact both g (fun _ => rfl) fun m => s_bi g h1 h2 h3 (sound_a es g _ h3)
    · cases h
  | .isI a ts, S, k, X, g, x, h => by
    unfold chk at h
    split at h
    · simp only [Bool.and_eq_true, beq_iff_eq] at h
      obtain ⟨⟨⟨h1, h2⟩, h3⟩, h4⟩ := h
      exact both g (fun _ => rfl) fun m => s_isI g h1 h2 (chk_plain h3) ((sound a g _ h3).1 true) (isi_arg h4)
    · cases h
  | .draw a b, S, k, X, g, x, h => by
    unfold chk at h
    split at h
    · simp only [Bool.and_eq_true, beq_iff_eq] at h
      obtain ⟨⟨⟨⟨h0, h1⟩, h2⟩, h3⟩, h4⟩ := h
      exact both g (fun _ => rfl) fun m => s_draw g h0 h1 h2 (chk_plain h3) (chk_plain h4) ((sound a g _ h3).1 false) ((sound b g _ h4).1 false)
    · cases h
theorem sound_es : ∀ (es : Exs) {S : Sx} {k : Kx} {X : Cx}, GX n S fr cl gl k X → ∀ (xs : List Expr), chks n k es xs = true → PA X xs (tEs S cl gl es)
  | .nil, S, k, X, g, xs, h => by
    cases xs with
    | nil => exact s_nil
    | cons x xs => simp [chks] at h
  | .cons a r, S, k, X, g, xs, h => by
    cases xs with
    | nil => simp [chks] at h
    | cons x xs =>
      simp only [chks, Bool.and_eq_true] at h
      exact s_cons (chk_plain h.1) ((sound a g x h.1).1 false) (sound_es r g xs h.2)
  | .star a r, S, k, X, g, xs, h => by
    unfold chks at h
    split at h
    · simp only [Bool.and_eq_true] at h
      exact s_star g ((sound a g _ h.1).1 true) (sound_es r g _ h.2)
    · cases h
theorem sound_a : ∀ (es : Exs) {S : Sx} {k : Kx} {X : Cx}, GX n S fr cl gl k X → ∀ (xs : List Expr), chkP n k es xs = true → PA X xs (tAs S cl gl es)
  | .nil, S, k, X, g, xs, h => by
    cases xs with
    | nil => exact a_nil
    | cons x xs => simp [chkP] at h
  | .cons a r, S, k, X, g, xs, h => by
    cases xs with
    | nil => simp [chkP] at h
    | cons x xs =>
      simp only [chkP, Bool.and_eq_true] at h
      exact a_cons (chk_plain h.1) ((sound a g x h.1).1 true) (sound_a r g xs h.2)
  | .star a r, S, k, X, g, xs, h => by simp [chkP] at h
theorem sound_g : ∀ (es : Exs) {S : Sx} {k : Kx} {X : Cx}, GX n S fr cl gl k X → ∀ (xs : List Expr), chkP n k es xs = true → PA X xs (tArgs S cl gl es)
  | .nil, S, k, X, g, xs, h => by
    cases xs with
    | nil => exact g_nil
    | cons x xs => simp [chkP] at h
  | .cons a r, S, k, X, g, xs, h => by
    cases xs with
    | nil => simp [chkP] at h
    | cons x xs =>
      simp only [chkP, Bool.and_eq_true] at h
      refine g_cons (chk_plain h.1) (fun i e => ?_) (fun _ m => (sound a g x h.1).1 m) (fun q env => ev_mode q env) (sound_g r g xs h.2)
      subst e
      have h1 := h.1
      unfold chk at h1
      split at h1
      · simp only [Bool.and_eq_true, decide_eq_true_eq] at h1
        obtain ⟨⟨q1, q2⟩, q3⟩ := h1
        obtain ⟨p1, p2, _⟩ := plain_parts q3
        exact ⟨_, _, rfl, g.name q1, g.vis q2, p1, p2⟩
      · cases h1
  | .star a r, S, k, X, g, xs, h => by simp [chkP] at h
theorem sound_b : ∀ (es : Exs) {S : Sx} {k : Kx} {X : Cx}, GX n S fr cl gl k X → ∀ (xs : List Expr), chkP n k es xs = true → ∀ pos : Pos,
    (PE X (.BoolOp .And xs pos) (tB S cl gl true es) ∧ PW X (.BoolOp .And xs pos) (tBT S cl gl true es)) ∧ (PE X (.BoolOp .Or xs pos) (tB S cl gl false es) ∧ PW X (.BoolOp .Or xs pos) (tBT S cl gl false es))
  | .nil, S, k, X, g, xs, h, pos => by
    have n1 : ∀ and σ H Q, ¬ tB S cl gl and .nil σ H Q := fun and σ H Q z => by
      obtain ⟨env, ws, d, ws', E, O, e, P⟩ := z
      simp [evB, M.stuck] at e
    have n2 : ∀ and σ H Q, ¬ tBT S cl gl and .nil σ H Q := fun and σ H Q z => by
      obtain ⟨env, ws, d, ws', c, E, O, e, P⟩ := z
      simp [evB, M.stuck] at e
    exact ⟨⟨PE.never (n1 true), ⟨fun _ _ _ σ H Q _ z => absurd z (n2 true σ H Q)⟩⟩, ⟨PE.never (n1 false), ⟨fun _ _ _ σ H Q _ z => absurd z (n2 false σ H Q)⟩⟩⟩
  | .cons a .nil, S, k, X, g, xs, h, pos => by
    cases xs with
    | nil => simp [chkP] at h
    | cons x xs =>
      simp only [chkP, Bool.and_eq_true] at h
      cases xs with
      | cons y ys => simp at h
      | nil =>
        have q := sound a g x h.1
        exact ⟨⟨b_one (q.1 false), w_one1 q.2⟩, ⟨b_one (q.1 false), w_one2 q.2⟩⟩
  | .cons a (.cons b r), S, k, X, g, xs, h, pos => by
    cases xs with
    | nil => simp [chkP] at h
    | cons x xs =>
      cases xs with
      | nil => simp [chkP] at h
      | cons y ys =>
        have h1 : chk n k a x = true := by simp only [chkP, Bool.and_eq_true] at h; exact h.1
        have h2 : chkP n k (.cons b r) (y :: ys) = true := by rw [chkP] at h; simp only [Bool.and_eq_true] at h; exact h.2
        have q := sound a g x h1
        have t := sound_b (.cons b r) g (y :: ys) h2 pos
        exact ⟨⟨b_and g (q.1 false) t.1.1, w_and q.2 t.1.2⟩, ⟨b_or g (q.1 false) t.2.1, w_or q.2 t.2.2⟩⟩
  | .cons a (.star b r), S, k, X, g, xs, h, pos => by
    cases xs with
    | nil => simp [chkP] at h
    | cons x xs => simp [chkP] at h
  | .star a r, S, k, X, g, xs, h, pos => by simp [chkP] at h
theorem sound_o : ∀ (es : Exs) {S : Sx} {k : Kx} {X : Cx}, GX n S fr cl gl k X → ∀ (o : Option Expr), chkO n k es o = true → PO X o (tO S cl gl es)
  | .nil, S, k, X, g, o, h => by
    cases o with
    | none => exact s_optN
    | some x => simp [chkO] at h
  | .cons a .nil, S, k, X, g, o, h => by
    cases o with
    | none => simp [chkO] at h
    | some x => exact s_optS ((sound a g x (by simpa [chkO] using h)).1 false)
  | .cons a (.cons b r), S, k, X, g, o, h => by simp [chkO] at h
  | .cons a (.star b r), S, k, X, g, o, h => by simp [chkO] at h
  | .star a r, S, k, X, g, o, h => by simp [chkO] at h
theorem sound_f : ∀ (es : Exs) {S : Sx} {k : Kx} {X : Cx}, GX n S fr cl gl k X → ∀ (xs : List Expr), chkP n k es xs = true → PTs X xs (tIfs S cl gl es)
  | .nil, S, k, X, g, xs, h => by
    cases xs with
    | nil => exact f_nil
    | cons x xs => simp [chkP] at h
  | .cons a .nil, S, k, X, g, xs, h => by
    cases xs with
    | nil => simp [chkP] at h
    | cons x xs =>
      simp only [chkP, Bool.and_eq_true] at h
      cases xs with
      | cons y ys => simp at h
      | nil => exact f_one (sound a g x h.1).2
  | .cons a (.cons b r), S, k, X, g, xs, h => ⟨fun pins s σ H Q I z => by
      obtain ⟨env, ws, c, ws', E, O, e, P⟩ := z
      simp [evIf, M.stuck] at e⟩
  | .cons a (.star b r), S, k, X, g, xs, h => ⟨fun pins s σ H Q I z => by
      obtain ⟨env, ws, c, ws', E, O, e, P⟩ := z
      simp [evIf, M.stuck] at e⟩
  | .star a r, S, k, X, g, xs, h => by simp [chkP] at h
theorem sound_s : ∀ (src : Src) {S : Sx} {k : Kx} {X : Cx}, GX n S fr cl gl k X → ∀ (t x : Expr), chkS n k t src x = true → ∀ m, PI X t x (tS S cl gl m src)
  | .ex a, S, k, X, g, t, x, h, m => by
    unfold chkS at h
    exact i_ex g ((sound a g x h).1 m)
  | .rng1 a, S, k, X, g, t, x, h, m => by
    unfold chkS at h
    split at h
    · simp only [Bool.and_eq_true, beq_iff_eq] at h
      obtain ⟨⟨rfl, h2⟩, h3⟩ := h
      exact i_rng1 g h2 (chk_plain h3) ((sound a g _ h3).1 false)
    · cases h
  | .rng2 a b, S, k, X, g, t, x, h, m => by
    unfold chkS at h
    split at h
    · simp only [Bool.and_eq_true, beq_iff_eq] at h
      obtain ⟨⟨⟨rfl, h2⟩, h3⟩, h4⟩ := h
      exact i_rng2 g h2 (chk_plain h3) (chk_plain h4) ((sound a g _ h3).1 false) ((sound b g _ h4).1 false)
    · cases h
  | .enu a, S, k, X, g, t, x, h, m => by
    unfold chkS at h
    split at h
    · simp only [Bool.and_eq_true, beq_iff_eq] at h
      obtain ⟨⟨⟨rfl, h2⟩, h3⟩, h4⟩ := h
      split at h4
      · exact i_enu g h2 (chk_plain h3) ((sound a g _ h3).1 m)
      · cases h4
    · cases h
  | .zip a b, S, k, X, g, t, x, h, m => by
    unfold chkS at h
    split at h
    · simp only [Bool.and_eq_true, beq_iff_eq] at h
      obtain ⟨⟨⟨⟨rfl, h2⟩, h3⟩, h4⟩, h5⟩ := h
      split at h5
      · exact i_zip g h2 (chk_plain h3) (chk_plain h4) ((sound a g _ h3).1 m) ((sound b g _ h4).1 m)
      · cases h5
    · cases h
end
end
end Pc

set_option Elab.async false
set_option linter.all false
set_option maxRecDepth 100000
set_option maxHeartbeats 4000000
/-! # Soundness 9: simple statements -/
namespace Pc
open PySem L2 PyProof.Rows StX
section
variable {n : Nx} {S : Sx} {fr : Nat → Bool} {cl : Nat → List Sl → M D} {gl : Nat → D} {k : Kx} {X : Cx}
/-- how a frame stands; H0: the heap at its start -/
structure Sin (S : Sx) (H0 : Hp) (σ : L2.St) (env : SEnv) (H : Hp) (ws : WS) : Prop where
  E : EnvOk S σ env H
  O : HpOk (S.cc σ env) H ws
  kp : Keep S.wa H0 H
  nw : ∀ a, ownAt σ env a → H0 a = none
def Sx.c0 (S : Sx) : Cc := ⟨S.K, S.Oc, S.wa⟩
def PostS (S : Sx) (H0 : Hp) (C : Cc) (H : Hp) (r : Fl) (ws' : WS) (Dd : Ends) : Prop := match r with
  | .next env' => ∀ σ' H', Sin S H0 σ' env' H' ws' → Onto C (S.cc σ' env') H H' → Dd.nx σ' H'
  | .ret d f => ∀ v H', Keep S.wa H0 H' → HpOk S.c0 H' ws' → Den S.c0 H' v d → (f = true → Fresh S.c0 H0 H' v d) → Dd.rt v H'
def tSt (S : Sx) (fr : Nat → Bool) (cl : Nat → List Sl → M D) (gl : Nat → D) (H0 : Hp) (st : St) : TS := fun Dd σ H => ∃ (env : SEnv) (ws : WS) (r : Fl) (ws' : WS), Sin S H0 σ env H ws ∧ evSt fr cl gl st env ws = .ok r ws' ∧ PostS S H0 (S.cc σ env) H r ws' Dd
def tSts (S : Sx) (fr : Nat → Bool) (cl : Nat → List Sl → M D) (gl : Nat → D) (H0 : Hp) (st : List St) : TS := fun Dd σ H => ∃ (env : SEnv) (ws : WS) (r : Fl) (ws' : WS), Sin S H0 σ env H ws ∧ evSts fr cl gl st env ws = .ok r ws' ∧ PostS S H0 (S.cc σ env) H r ws' Dd
section
variable {H0 H H1 : Hp} {σ : L2.St} {env : SEnv} {ws w1 : WS} {C C1 C2 : Cc}
theorem Onto.refl : Onto C C H H := ⟨rfl, rfl, fun a o e n => ⟨e, n⟩⟩
theorem Onto.trans {Ha Hb Hc : Hp} (h : Onto C C1 Ha Hb) (h' : Onto C1 C2 Hb Hc) : Onto C C2 Ha Hc :=
  ⟨h'.1.trans h.1, h'.2.1.trans h.2.1, fun a o e n => let q := h.2.2 a o e n; h'.2.2 a o q.1 q.2⟩
theorem Onto.keep (x : HpOk C H ws) (k1 : Keep C.wa H H1) : Onto C C H H1 := ⟨rfl, rfl, fun a o e n => ⟨k1 a o e fun w ew => ⟨fun q => n (q ▸ (x.wo w ew).1), fun q => n (q ▸ (x.wo w ew).2)⟩, n⟩⟩
theorem Sin.keep (I : Sin S H0 σ env H ws) (k1 : Keep S.wa H H1) (O1 : HpOk (S.cc σ env) H1 w1) : Sin S H0 σ env H1 w1 := ⟨I.E.keep I.O k1, O1, I.kp.trans k1, I.nw⟩
theorem Sin.setImm (I : Sin S H0 σ env H ws) {i : Nat} {v : V} {d : D} (h : Den (S.cc σ env) H v d) (hi : i < env.length) : Sin S H0 (σ.set i (some v)) (env.set i (.imm d)) H ws :=
  ⟨I.E.setImm h hi, HpOk.setImm I.E I.O, I.kp, fun a z => I.nw a (ownAt_set z)⟩
theorem onto_less {σ' : L2.St} {env' : SEnv} (ho : ∀ a, (S.cc σ' env').O a → (S.cc σ env).O a) : Onto (S.cc σ env) (S.cc σ' env') H H := ⟨rfl, rfl, fun a o e n => ⟨e, fun z => n (ho a z)⟩⟩
theorem onto_set {i : Nat} {v : V} {d : D} : Onto (S.cc σ env) (S.cc (σ.set i (some v)) (env.set i (.imm d))) H H := onto_less fun a z => z.elim .inl fun z => .inr (ownAt_set z)
theorem Sin.c0 (I : Sin S H0 σ env H ws) : HpOk S.c0 H ws := I.O.less (fun a z => .inl z) rfl I.E.wo
theorem den_c0 {v : V} {d : D} (h : Den (S.cc σ env) H v d) : Den S.c0 H v d := h.less (fun a z => .inl z) rfl rfl
/-! ### a list of one's own -/
theorem ownAt_own {i : Nat} {p : Addr} {d : D} {a : Addr} (h : ownAt (σ.set i (some (.ref p))) (env.set i (.own d)) a) : ownAt σ env a ∨ a = p := by
  obtain ⟨j, e, h1, h2⟩ := h
  by_cases q : i = j
  · subst q
    by_cases hl : i < σ.length
    · rw [List.getElem?_set_self hl] at h2
      cases h2
      exact .inr rfl
    · rw [List.getElem?_eq_none (by rw [List.length_set]; omega)] at h2; cases h2
  · rw [List.getElem?_set_ne q] at h1 h2
    exact .inl ⟨j, e, h1, h2⟩
/-- the slot i gets the list at p, which is nobody's -/
theorem EnvOk.setOwn {i : Nat} {p : Addr} {xs : List V} {ds : List D} (E : EnvOk S σ env H) (hi : i < env.length) (hp : H p = some (.lst xs)) (nO : ¬ (S.cc σ env).O p) (hC : ∀ a, (S.cc σ env).O a ∨ a = p → C.O a) (eK : C.K = S.K) (ew : C.wa = S.wa) (l : DenL C H xs ds)
    (h : ∀ j d, j ≠ i → env[j]? = some (.imm d) → ∃ v, σ[j]? = some (some v) ∧ Den C H v d) (h2 : ∀ j ds, j ≠ i → (env[j]? = some (.own (.lst ds)) ∨ env[j]? = some (.bor (.lst ds))) → ∀ a xs, σ[j]? = some (some (.ref a)) → H a = some (.lst xs) → DenL (S.cc σ env) H xs ds → DenL C H xs ds) :
    EnvOk S (σ.set i (some (.ref p))) (env.set i (.own (.lst ds))) H := by
  have hs : i < σ.length := by rw [← E.len]; exact hi
  have ho : ∀ a, (S.cc (σ.set i (some (.ref p))) (env.set i (.own (.lst ds)))).O a → C.O a := fun a z => hC a (z.elim (fun z => .inl (.inl z)) fun z => (ownAt_own z).elim (fun z => .inl (.inr z)) .inr)
  refine ⟨by rw [List.length_set, List.length_set]; exact E.len, fun j c hj => ?_, fun j c hj => ?_, fun j c hj => ?_, fun j k c c' a g1 g2 g3 g4 => ?_, E.wo, E.bo⟩
  · by_cases q : i = j
    · subst q
      rw [List.getElem?_set_self hi] at hj
      cases hj
    · rw [List.getElem?_set_ne q] at hj ⊢
      obtain ⟨u, h1, h2⟩ := h j c (Ne.symm q) hj
      exact ⟨u, h1, h2.less ho eK.symm ew.symm⟩
  · by_cases q : i = j
    · subst q
      rw [List.getElem?_set_self hi] at hj
      cases hj
      exact ⟨p, xs, ds, List.getElem?_set_self hs, rfl, hp, l.less ho eK.symm ew.symm, fun z => nO (.inl z)⟩
    · rw [List.getElem?_set_ne q] at hj ⊢
      obtain ⟨a, ys, es, h1, rfl, h3, h4, h5⟩ := E.own j c hj
      exact ⟨a, ys, es, h1, rfl, h3, (h2 j es (Ne.symm q) (.inl hj) a ys h1 h3 h4).less ho eK.symm ew.symm, h5⟩
  · by_cases q : i = j
    · subst q
      rw [List.getElem?_set_self hi] at hj
      cases hj
    · rw [List.getElem?_set_ne q] at hj ⊢
      obtain ⟨a, ys, es, h1, rfl, h3, h4, h5⟩ := E.bor j c hj
      exact ⟨a, ys, es, h1, rfl, h3, (h2 j es (Ne.symm q) (.inr hj) a ys h1 h3 h4).less ho eK.symm ew.symm, h5⟩
  · by_cases qj : i = j
    · by_cases qk : i = k
      · exact qj.symm.trans qk
      · exfalso
        subst qj
        rw [List.getElem?_set_self hs] at g3
        cases g3
        rw [List.getElem?_set_ne qk] at g2 g4
        exact nO (.inr ⟨k, _, g2, g4⟩)
    · by_cases qk : i = k
      · exfalso
        subst qk
        rw [List.getElem?_set_self hs] at g4
        cases g4
        rw [List.getElem?_set_ne qj] at g1 g3
        exact nO (.inr ⟨j, _, g1, g3⟩)
      · rw [List.getElem?_set_ne qj] at g1 g3
        rw [List.getElem?_set_ne qk] at g2 g4
        exact E.inj j k c c' a g1 g2 g3 g4
/-- a new list becomes the slot's own -/
theorem Sin.setOwn (I : Sin S H0 σ env H ws) {i : Nat} {v : V} {ds : List D} (hi : i < env.length) (k1 : Keep S.wa H H1) (O1 : HpOk (S.cc σ env) H1 w1) (f : Fresh (S.cc σ env) H H1 v (.lst ds)) :
    Sin S H0 (σ.set i (some v)) (env.set i (.own (.lst ds))) H1 w1 ∧ Onto (S.cc σ env) (S.cc (σ.set i (some v)) (env.set i (.own (.lst ds)))) H H1 := by
  obtain ⟨p, xs, rfl, np, hp, l⟩ := f ds rfl
  have on : Onto (S.cc σ env) ((S.cc σ env).plus p) H H1 := onto_plus I.O np k1
  have ho : ∀ a, (S.cc (σ.set i (some (.ref p))) (env.set i (.own (.lst ds)))).O a → ((S.cc σ env).plus p).O a := fun a z => z.elim (fun z => .inl (.inl z)) fun z => (ownAt_own z).elim (fun z => .inl (.inr z)) .inr
  have nO : ¬ (S.cc σ env).O p := I.O.out np
  have E1 := I.E.keep I.O k1
  refine ⟨⟨E1.setOwn hi hp nO (fun a z => z) rfl rfl l (fun j d hj e => ?_) (fun j es hj e a ys h1 h2 h3 => ?_), ?_, I.kp.trans k1, fun a z => ?_⟩, on.of ho rfl rfl⟩
  · obtain ⟨u, h1, h2⟩ := I.E.imm j d e
    exact ⟨u, h1, h2.onto on⟩
  · rcases e with e | e
    · obtain ⟨a', ys', es', g1, g2, g3, g4, g5⟩ := I.E.own j _ e
      cases g2
      rw [h1] at g1
      cases g1
      have g6 := k1 a _ g3 fun w ew => ⟨fun q => g5 (q ▸ (I.E.wo w ew).1), fun q => g5 (q ▸ (I.E.wo w ew).2)⟩
      rw [h2] at g6
      cases g6
      exact g4.onto on
    · obtain ⟨a', ys', es', g1, g2, g3, g4, g5, g6⟩ := I.E.bor j _ e
      cases g2
      rw [h1] at g1
      cases g1
      have g7 := k1 a _ g3 g6
      rw [h2] at g7
      cases g7
      exact g4.onto on
  · refine ⟨O1.w, fun a z => ?_, fun w ew => ⟨.inl (I.E.wo w ew).1, .inl (I.E.wo w ew).2⟩⟩
    rcases ho a z with z | rfl
    · exact O1.al a z
    · exact ⟨_, hp⟩
  · rcases ownAt_own z with z | rfl
    · exact I.nw a z
    · exact I.kp.none I.O.w np
/-- the slot's own list is changed -/
theorem Sin.chg (I : Sin S H0 σ env H ws) {i : Nat} {p : Addr} {xs : List V} {ds ds' : List D} (e : env[i]? = some (.own (.lst ds))) (hs : σ[i]? = some (some (.ref p))) (l : DenL (S.cc σ env) H xs ds') :
    Sin S H0 σ (env.set i (.own (.lst ds'))) (upd H p (.lst xs)) ws ∧ Onto (S.cc σ env) (S.cc σ (env.set i (.own (.lst ds')))) H (upd H p (.lst xs)) := by
  have hi : i < env.length := (List.getElem?_eq_some_iff.mp e).1
  have hsi : i < σ.length := (List.getElem?_eq_some_iff.mp hs).1
  obtain ⟨p', ys, es, q1, q2, q3, q4, q5⟩ := I.E.own i _ e
  rw [hs] at q1
  cases q1
  have oo : ∀ a, ownAt σ (env.set i (.own (.lst ds'))) a ↔ ownAt σ env a := fun a => by
    constructor
    · rintro ⟨j, c, h1, h2⟩
      by_cases q : i = j
      · subst q; exact ⟨i, _, e, h2⟩
      · rw [List.getElem?_set_ne q] at h1; exact ⟨j, c, h1, h2⟩
    · rintro ⟨j, c, h1, h2⟩
      by_cases q : i = j
      · subst q; exact ⟨i, _, List.getElem?_set_self hi, h2⟩
      · exact ⟨j, c, by rw [List.getElem?_set_ne q]; exact h1, h2⟩
  have cc : S.cc σ (env.set i (.own (.lst ds'))) = S.cc σ env := by
    have q : ownAt σ (env.set i (.own (.lst ds'))) = ownAt σ env := funext fun a => propext (oo a)
    unfold Sx.cc
    rw [q]
  have pO : (S.cc σ env).O p := .inr ⟨i, _, e, hs⟩
  have nw : ∀ w, S.wa = some w → p ≠ w.m ∧ p ≠ w.g ∧ p ≠ w.c := fun w ew => by
    exact ⟨fun q => q5 (q ▸ (I.E.wo w ew).1), fun q => q5 (q ▸ (I.E.wo w ew).2), fun q => q5 (q ▸ I.E.bo.2 w ew)⟩
  refine ⟨⟨⟨by rw [List.length_set]; exact I.E.len, fun j c hj => ?_, fun j c hj => ?_, fun j c hj => ?_, fun j k c c' a h1 h2 h3 h4 => ?_, I.E.wo, I.E.bo⟩, ?_, fun a o e n => ?_, fun a z => I.nw a ((oo a).mp z)⟩, ?_⟩
  · by_cases q : i = j
    · subst q
      rw [List.getElem?_set_self hi] at hj; cases hj
    · rw [List.getElem?_set_ne q] at hj
      obtain ⟨v, h1, h2⟩ := I.E.imm j c hj
      exact ⟨v, h1, by rw [cc]; exact h2.updO pO⟩
  · by_cases q : i = j
    · subst q
      rw [List.getElem?_set_self hi] at hj
      cases hj
      exact ⟨p, xs, ds', hs, rfl, upd_same, by rw [cc]; exact l.updO pO, q5⟩
    · rw [List.getElem?_set_ne q] at hj
      obtain ⟨a, zs, es', h1, h2, h3, h4, h5⟩ := I.E.own j c hj
      have ne : a ≠ p := fun z => by subst z; exact q (I.E.inj i j _ _ a e hj hs h1)
      exact ⟨a, zs, es', h1, h2, by rw [upd_ne ne]; exact h3, by rw [cc]; exact h4.updO pO, h5⟩
  · by_cases q : i = j
    · subst q
      rw [List.getElem?_set_self hi] at hj; cases hj
    · rw [List.getElem?_set_ne q] at hj
      obtain ⟨a, zs, es', h1, h2, h3, h4, h5, h6⟩ := I.E.bor j c hj
      have ne : a ≠ p := fun z => by subst z; exact q5 h5.1
      exact ⟨a, zs, es', h1, h2, by rw [upd_ne ne]; exact h3, by rw [cc]; exact h4.updO pO, h5, h6⟩
  · have g : ∀ {j : Nat} {c : D}, (env.set i (.own (.lst ds')))[j]? = some (.own c) → ∃ c', env[j]? = some (.own c') := fun {j c} hj => by
      by_cases q : i = j
      · subst q; exact ⟨_, e⟩
      · rw [List.getElem?_set_ne q] at hj; exact ⟨c, hj⟩
    obtain ⟨_, h1⟩ := g h1
    obtain ⟨_, h2⟩ := g h2
    exact I.E.inj j k _ _ a h1 h2 h3 h4
  · rw [cc]; exact I.O.updO nw
  · by_cases q : a = p
    · subst q
      rw [I.nw a ⟨i, _, ‹_›, hs⟩] at e
      cases e
    · rw [upd_ne q]; exact I.kp a o e n
  · rw [cc]
    exact ⟨rfl, rfl, fun a o e n => ⟨by rw [upd_ne (fun z => n (by rw [z]; exact pO))]; exact e, n⟩⟩
end
end
end Pc

set_option Elab.async false
set_option linter.all false
set_option maxRecDepth 100000
set_option maxHeartbeats 4000000
/-! # Soundness 10: statements, one by one -/
namespace Pc
open PySem L2 PyProof.Rows StX
section
variable {n : Nx} {S : Sx} {fr : Nat → Bool} {cl : Nat → List Sl → M D} {gl : Nat → D} {k : Kx} {X : Cx} {H0 : Hp}
theorem PS.never {st : Stmt} {t : TS} (h : ∀ Dd σ H, ¬ t Dd σ H) : PS X st t := ⟨fun _ _ σ H D _ z => absurd z (h D σ H)⟩
theorem Sin.after {σ σ' : L2.St} {env env' : SEnv} {H : Hp} {ws : WS} {sl : List Nat} (I : Sin S H0 σ env H ws) (E : EnvOk S σ' env' H) (A : After S σ σ' env env' sl) : Sin S H0 σ' env' H ws :=
  ⟨E, I.O.less A.1 rfl fun w ew => ⟨.inl (E.wo w ew).1, .inl (E.wo w ew).2⟩, I.kp, fun a z => by
    obtain ⟨i, d, h1, h2⟩ := z
    obtain ⟨a', xs, ds, q1, _, _, _, q5⟩ := E.own i d h1
    rw [h2] at q1
    cases q1
    exact (A.1 a (.inr ⟨i, d, h1, h2⟩)).elim (fun z => absurd z q5) (I.nw a)⟩
theorem st_pass {pos : Pos} : PS X (.Pass pos) (tSt S fr cl gl H0 .pass) := PS.imp ps_pass fun Dd σ H z => by
  obtain ⟨env, ws, r, ws', I, e, P⟩ := z
  rw [evSt] at e
  obtain ⟨rfl, rfl⟩ := ok_ok e
  exact P σ H I .refl
theorem swaps_none {x : Expr} (h : notComp x = true) (line : Nat) (env : PySem.Env) (t : Option Expr) : swapsWith x t line env = pure false := by
  cases x <;> first | rfl | cases h
theorem st_expr {a : Ex} {x : Expr} {pos : Pos} (hc : notComp x = true) (ha : PE X x (tE S fr cl gl a true)) : PS X (.Expr x pos) (tSt S fr cl gl H0 (.expr a)) := PS.imp (ps_expr ha (swaps_none hc _ _ _)) fun Dd σ H z => by
  obtain ⟨env, ws, r, ws', I, e, P⟩ := z
  rw [evSt] at e
  obtain ⟨d, w1, e1, e⟩ := bind_ok e
  obtain ⟨rfl, rfl⟩ := ok_ok e
  exact ⟨env, ws, d, _, I.E, I.O, e1, fun v H1 k1 O1 D1 _ => P σ H1 (I.keep k1 O1) (.keep I.O k1)⟩
theorem st_ret {a : Ex} {x : Expr} {pos : Pos} (ha : PE X x (tE S fr cl gl a false)) : PS X (.Return (some x) pos) (tSt S fr cl gl H0 (.ret a)) := PS.imp (ps_ret ha) fun Dd σ H z => by
  obtain ⟨env, ws, r, ws', I, e, P⟩ := z
  rw [evSt] at e
  obtain ⟨d, w1, e1, e⟩ := bind_ok e
  obtain ⟨rfl, rfl⟩ := ok_ok e
  refine ⟨env, ws, d, _, I.E, I.O, e1, fun v H1 k1 O1 D1 f1 => P v H1 (I.kp.trans k1) (I.keep k1 O1).c0 (den_c0 D1.strict) fun q ds ed => ?_⟩
  obtain ⟨p, xs, h1, h2, h3, h4⟩ := f1 q ds ed
  exact ⟨p, xs, h1, I.kp.none I.O.w h2, h3, h4.less (fun a z => z.elim (fun z => .inl (.inl z)) .inr) rfl rfl⟩
theorem st_retN {pos : Pos} : PS X (.Return none pos) (tSt S fr cl gl H0 .retN) := PS.imp ps_retN fun Dd σ H z => by
  obtain ⟨env, ws, r, ws', I, e, P⟩ := z
  rw [evSt] at e
  obtain ⟨rfl, rfl⟩ := ok_ok e
  exact P .non H I.kp I.c0 .non (by intro _ _ z; cases z)
theorem st_retOwn (g : GX n S fr cl gl k X) {i : Nat} {x : Str} {p pos : Pos} (h1 : n.N[i]? = some x) (h2 : visB k.sc x = true) (h3 : plainN x = true) : PS X (.Return (some (.Name x p)) pos) (tSt S fr cl gl H0 (.retOwn i)) := by
  obtain ⟨p1, p2, _⟩ := plain_parts h3
  refine PS.imp (ps_ret (pe_var (g.name h1) (g.vis h2) p1 p2)) fun Dd σ H z => ?_
  obtain ⟨env, ws, r, ws', I, e, P⟩ := z
  rw [evSt] at e
  cases hd : env[i]? with
  | none => rw [hd] at e; exact (stuck_ok (w := ws) e).elim
  | some sl =>
    rw [hd] at e
    cases sl with
    | un => exact (stuck_ok (w := ws) e).elim
    | bor d => exact (stuck_ok (w := ws) e).elim
    | imm d =>
      obtain ⟨rfl, rfl⟩ := ok_ok e
      obtain ⟨v, hv, dv⟩ := I.E.imm _ _ hd
      exact ⟨v, hv, P v H I.kp I.c0 (den_c0 dv) (by intro z; cases z)⟩
    | own d =>
      obtain ⟨rfl, rfl⟩ := ok_ok e
      obtain ⟨a, xs, ds, hv, rfl, ha, l, no⟩ := I.E.own _ _ hd
      refine ⟨_, hv, P _ H I.kp I.c0 (.lst ha no (l.less (fun a z => .inl z) rfl rfl)) fun _ es ed => ?_⟩
      cases ed
      exact ⟨a, xs, rfl, I.nw a ⟨i, _, hd, hv⟩, ha, l.less (fun b z => z.elim .inl fun q => by rw [q]; exact .inr ⟨i, _, hd, hv⟩) rfl rfl⟩
/-! ### name = value -/
theorem GX.loc (g : GX n S fr cl gl k X) {x : Str} (h : locB k x = true) : Loc X.env.scope x ∧ (X.fn x = true ∨ X.env.scope.names.lookup x = some .local) := by
  rw [g.sc, g.fn]; exact loc_of h
theorem GX.ndN (g : GX n S fr cl gl k X) : X.N.Nodup := by rw [g.N]; exact g.nd
theorem a_set (g : GX n S fr cl gl k X) {a : Ex} {x : Expr} {y : Str} {py spos : Pos} {i : Nat} (hi : n.N[i]? = some y) (hl : locB k y = true) (h : chk n k a x = true) : PS X (.Assign [.Name y py] x spos) (tAsg (tE S fr cl gl a false) (gName i)) := by
  obtain ⟨l1, l2⟩ := g.loc hl
  have plain : ∀ {x : Expr}, chk n k a x = true → swapsWith x (some (.Name y py)) spos.line X.env = pure false → PS X (.Assign [.Name y py] x spos) (tAsg (tE S fr cl gl a false) (gName i)) := fun {x} h hs => ps_set g.ndN (g.name hi) l1 ((sound a g x h).1 false) hs l2
  by_cases hc : notComp x = true
  · exact plain h (swaps_none hc _ _ _)
  · cases x with
    | ListComp e gens scope p =>
      obtain ⟨b, hb, hloc⟩ : ∃ b : Bool, swapsWith (.ListComp e gens scope p) (some (.Name y py)) spos.line X.env = pure b ∧ (b = true → X.env.scope.names.lookup y = some .local) := by
        refine ⟨_, rfl, fun z => ?_⟩
        simp only [Bool.and_eq_true, beq_iff_eq] at z
        exact z.1.1.2
      cases b with
      | false => exact plain h hb
      | true =>
        have hyl := hloc rfl
        cases a with
        | comp elt tg own src ifs =>
          unfold chk at h
          split at h
          · rename_i heq
            cases heq
            simp only [Bool.and_eq_true] at h
            obtain ⟨⟨⟨⟨⟨h1, h2⟩, h3⟩, h4⟩, h5⟩, h6⟩ := h
            have bo : BlkOk X.N X.env.scope scope (ownN n own) := by rw [g.N, g.sc]; exact blkOk_by h1
            refine PS.imp (ps_setLc g.calm g.ndN (g.name hi) hyl hb (sound_s src g _ _ h3 true) bo (fun s H C c fp => PG.ex fun S' e => g_tg ((g.blk s H scope C c fp).toS e) tg _ h4) (fun s H C c fp => PTs.ex fun S' e => sound_f ifs ((g.blk s H scope C c fp).toS e) _ h5)
              (fun s H C c fp => PE.ex fun S' e => (sound elt ((g.blk s H scope C c fp).toS e) _ h6).1 false) (chkS_fold h3 _)) fun Dd σ H z => ?_
            obtain ⟨env, ws, d, ws', E, O, e, P⟩ := z
            rw [ownN_snd]
            exact comp_core (all_mem h2) E O e P
          · cases h
        | comp2 elt t1 t2 own own2 s1 s2 =>
          unfold chk at h
          split at h
          · rename_i heq
            cases heq
            simp only [Bool.and_eq_true] at h
            obtain ⟨⟨⟨⟨⟨⟨⟨⟨h1, h2⟩, h3⟩, h4⟩, h5⟩, h6⟩, h7⟩, h8⟩, h9⟩ := h
            have bo : BlkOk X.N X.env.scope scope (ownN n own) := by rw [g.N, g.sc]; exact blkOk_by h1
            refine PS.imp (ps_setLc2 (vs1 := own2) g.calm g.ndN (g.name hi) hyl hb (sound_s s1 g _ _ h5 true) bo (by rw [ownN_snd]; exact all_mem h2) (fun s H C c fp => PG.ex fun S' e => g_tg ((g.blk s H scope C c fp).toS e) t1 _ h6) (fun s H C c fp => PTs.ex (K := S.K) fun S' e => f_nil (S := S') (cl := cl) (gl := gl))
              (fun s H C c fp => PI.ex fun S' e => sound_s s2 ((g.blk s H scope C c fp).toS e) _ _ h7 false) (fun s H C c fp => PG.ex fun S' e => g_tg ((g.blk s H scope C c fp).toS e) t2 _ h8) (fun s H C c fp => PTs.ex (K := S.K) fun S' e => f_nil (S := S') (cl := cl) (gl := gl))
              (fun s H C c fp => PE.ex fun S' e => (sound elt ((g.blk s H scope C c fp).toS e) _ h9).1 false) (chkS_fold h5 _) (fun env => chkS_fold h7 env)) fun Dd σ H z => ?_
            obtain ⟨env, ws, d, ws', E, O, e, P⟩ := z
            rw [ownN_snd]
            exact comp2_core (all_mem h3) (all_mem h4) (all_mem h2) E O e P
          · cases h
        | _ => exact absurd h (by unfold chk; simp)
    | SetComp e gens scope p => exact absurd h (by cases a <;> simp [chk])
    | DictComp e v gens scope p => exact absurd h (by cases a <;> simp [chk])
    | _ => exact absurd rfl hc
theorem st_asg (g : GX n S fr cl gl k X) {a : Ex} {x : Expr} {y : Str} {py spos : Pos} {i : Nat} (hi : n.N[i]? = some y) (hl : locB k y = true) (h : chk n k a x = true) : PS X (.Assign [.Name y py] x spos) (tSt S fr cl gl H0 (.asg i a)) := PS.imp (a_set g hi hl h) fun Dd σ H z => by
  obtain ⟨env, ws, r, ws', I, e, P⟩ := z
  rw [evSt] at e
  obtain ⟨d, w1, e1, e⟩ := bind_ok e
  split at e
  · rename_i hlt
    obtain ⟨rfl, rfl⟩ := ok_ok e
    exact ⟨env, ws, d, _, I.E, I.O, e1, fun v H1 k1 O1 D1 _ => P _ _ ((I.keep k1 O1).setImm D1.strict hlt) ((Onto.keep I.O k1).trans onto_set)⟩
  · exact (stuck_ok (w := w1) e).elim
theorem st_asgOwn (g : GX n S fr cl gl k X) {a : Ex} {x : Expr} {y : Str} {py spos : Pos} {i : Nat} (hi : n.N[i]? = some y) (hl : locB k y = true) (h : chk n k a x = true) : PS X (.Assign [.Name y py] x spos) (tSt S fr cl gl H0 (.asgOwn i a)) := PS.imp (a_set g hi hl h) fun Dd σ H z => by
  obtain ⟨env, ws, r, ws', I, e, P⟩ := z
  rw [evSt] at e
  obtain ⟨d, w1, e1, e⟩ := bind_ok e
  cases d with
  | lst ds =>
    simp only at e
    split at e
    · rename_i hlt
      obtain ⟨rfl, rfl⟩ := ok_ok e
      refine ⟨env, ws, _, _, I.E, I.O, e1, fun v H1 k1 O1 D1 f1 => ?_⟩
      obtain ⟨q1, q2⟩ := I.setOwn hlt.1 k1 O1 (f1 hlt.2)
      exact P _ _ q1 q2
    · exact (stuck_ok (w := w1) e).elim
  | _ => exact (stuck_ok (w := w1) e).elim
/-! ### other assignments -/
theorem st_unp (g : GX n S fr cl gl k X) {tg : Tg} {a : Ex} {t x : Expr} {spos : Pos} (ht : chkTg n k tg t = true) (h : chk n k a x = true) (h1 : notTup x = true) (h2 : notTup t = false) : PS X (.Assign [t] x spos) (tSt S fr cl gl H0 (.unp tg a)) := by
  have q : ∃ es j p, t = .Tuple es j p := by cases t <;> first | exact ⟨_, _, _, rfl⟩ | cases h2
  obtain ⟨es, j, p, rfl⟩ := q
  refine PS.imp (ps_asg ((sound a g x h).1 false) (g_tg g tg _ ht) (by cases x <;> rfl) (by cases x <;> first | rfl | cases h1) rfl) fun Dd σ H z => ?_
  obtain ⟨env, ws, r, ws', I, e, P⟩ := z
  rw [evSt] at e
  obtain ⟨d, w1, e1, e⟩ := bind_ok e
  cases hb : bindTg tg d env with
  | none => rw [hb] at e; exact (stuck_ok (w := w1) e).elim
  | some env' =>
    rw [hb] at e
    obtain ⟨rfl, rfl⟩ := ok_ok e
    exact ⟨env, ws, d, _, I.E, I.O, e1, fun v H1 k1 O1 D1 _ => ⟨env, d, env', I.E.keep I.O k1, D1.strict, hb, fun σ' E' A' => P _ _ ((I.keep k1 O1).after E' A') ((Onto.keep I.O k1).trans (onto_less A'.1))⟩⟩
theorem st_aug (g : GX n S fr cl gl k X) {a : Ex} {x : Expr} {y : Str} {py spos : Pos} {i : Nat} {op : Operator} (hi : n.N[i]? = some y) (hl : locB k y = true) (h : chk n k a x = true) : PS X (.AugAssign (.Name y py) op x spos) (tSt S fr cl gl H0 (.aug i op a)) := by
  obtain ⟨l1, l2⟩ := g.loc hl
  have pe := (sound a g x h).1 false
  have none : (op ≠ .Add ∧ op ≠ .Sub) → PS X (.AugAssign (.Name y py) op x spos) (tSt S fr cl gl H0 (.aug i op a)) := fun hn => PS.never fun Dd σ H z => by
    obtain ⟨env, ws, r, ws', I, e, P⟩ := z
    rw [evSt] at e
    cases hd : env[i]? with
    | none => rw [hd] at e; exact (stuck_ok (w := ws) e).elim
    | some sl =>
      rw [hd] at e
      cases sl with
      | imm d0 =>
        obtain ⟨d, w1, e1, e⟩ := bind_ok e
        cases op <;> first | exact hn.1 rfl | exact hn.2 rfl | exact (stuck_ok (w := w1) e).elim
      | _ => exact (stuck_ok (w := ws) e).elim
  cases op with
  | Add =>
    refine PS.imp (ps_aug g.ndN (g.name hi) l1 pe ip_add l2) fun Dd σ H z => ?_
    obtain ⟨env, ws, r, ws', I, e, P⟩ := z
    rw [evSt] at e
    cases hd : env[i]? with
    | none => rw [hd] at e; exact (stuck_ok (w := ws) e).elim
    | some sl =>
      rw [hd] at e
      cases sl with
      | imm d0 =>
        obtain ⟨d, w1, e1, e⟩ := bind_ok e
        cases d0 with
        | int u =>
          cases d with
          | int w =>
            obtain ⟨rfl, rfl⟩ := ok_ok e
            obtain ⟨v, hv, dv⟩ := I.E.imm _ _ hd
            refine ⟨v, hv, env, ws, _, _, I.E, I.O, e1, fun v1 H1 k1 O1 D1 _ => ?_⟩
            cases dv
            cases D1.intV
            exact ⟨u, w, rfl, rfl, P _ _ ((I.keep k1 O1).setImm (.int _) (List.getElem?_eq_some_iff.mp hd).1) ((Onto.keep I.O k1).trans onto_set)⟩
          | _ => exact (stuck_ok (w := w1) e).elim
        | _ => exact (stuck_ok (w := w1) e).elim
      | _ => exact (stuck_ok (w := ws) e).elim
  | Sub =>
    refine PS.imp (ps_aug g.ndN (g.name hi) l1 pe ip_sub l2) fun Dd σ H z => ?_
    obtain ⟨env, ws, r, ws', I, e, P⟩ := z
    rw [evSt] at e
    cases hd : env[i]? with
    | none => rw [hd] at e; exact (stuck_ok (w := ws) e).elim
    | some sl =>
      rw [hd] at e
      cases sl with
      | imm d0 =>
        obtain ⟨d, w1, e1, e⟩ := bind_ok e
        cases d0 with
        | int u =>
          cases d with
          | int w =>
            obtain ⟨rfl, rfl⟩ := ok_ok e
            obtain ⟨v, hv, dv⟩ := I.E.imm _ _ hd
            refine ⟨v, hv, env, ws, _, _, I.E, I.O, e1, fun v1 H1 k1 O1 D1 _ => ?_⟩
            cases dv
            cases D1.intV
            exact ⟨u, w, rfl, rfl, P _ _ ((I.keep k1 O1).setImm (.int _) (List.getElem?_eq_some_iff.mp hd).1) ((Onto.keep I.O k1).trans onto_set)⟩
          | _ => exact (stuck_ok (w := w1) e).elim
        | _ => exact (stuck_ok (w := w1) e).elim
      | _ => exact (stuck_ok (w := ws) e).elim
  | _ => exact none ⟨(by intro z; cases z), (by intro z; cases z)⟩
/-! ### lists are changed -/
theorem getOwn_some {env : SEnv} {i : Nat} {ds : List D} (h : getOwn env i = some ds) : env[i]? = some (.own (.lst ds)) := by
  unfold getOwn at h
  split at h
  · cases h; assumption
  · cases h
theorem few1 {v : Expr} (hv : isSt v = false) (cp : Pos) (env : PySem.Env) : ((backTo cp (starEach [v] env)).all (fun x => !x.1) && (backToKw cp (keywordEach [] env)).all (fun x => x.1.isSome)
      && decide ((v :: []).length + ([] : List Keyword).length + (if ([] : List Keyword).isEmpty then 0 else 1) < 30)) = true := by
  rw [star_plain hv]; rfl
theorem own_keep {σ : L2.St} {env : SEnv} {H H1 : Hp} {a : Addr} {o : HO} (E : EnvOk S σ env H) (no : ¬ S.Oc a) (h : H a = some o) (k1 : Keep S.wa H H1) : H1 a = some o := k1 a o h fun w ew => ⟨fun q => no (q ▸ (E.wo w ew).1), fun q => no (q ▸ (E.wo w ew).2)⟩
theorem st_app (g : GX n S fr cl gl k X) {a : Ex} {v : Expr} {y : Str} {py ap cp spos : Pos} {i : Nat} (h1 : n.N[i]? = some y) (h2 : visB k.sc y = true) (h3 : plainN y = true) (h : chk n k a v = true) (hl : (ap.endLine == cp.line) = true) :
    PS X (.Expr (.Call (.Attribute (.Name y py) (Str.ofString "append") ap) [v] [] cp) spos) (tSt S fr cl gl H0 (.app i a)) := by
  obtain ⟨p1, p2, _⟩ := plain_parts h3
  have hv := chk_plain h
  refine PS.imp (ps_expr (pe_bm F.plainAttrs_list F.slot_list_append F.type_list_append mt_append (pe_var (g.name h1) (g.vis h2) p1 p2) (pa_cons ((sound a g v h).1 false) pa_nil (star_plain hv [] X.env)) rfl (few1 hv cp X.env) hl (star_plain hv [] X.env) rfl) rfl) fun Dd σ H z => ?_
  obtain ⟨env, ws, r, ws', I, e, P⟩ := z
  rw [evSt] at e
  obtain ⟨d, w1, e1, e⟩ := bind_ok e
  cases hd : getOwn env i with
  | none => rw [hd] at e; exact (stuck_ok (w := w1) e).elim
  | some ds =>
    rw [hd] at e
    simp only at e
    split at e
    · rename_i hlen
      obtain ⟨rfl, rfl⟩ := ok_ok e
      have hd := getOwn_some hd
      obtain ⟨p, xs, es, hv', e2, hp, l, no⟩ := I.E.own _ _ hd
      cases e2
      refine ⟨_, hv', .inl ⟨rfl, xs, .of hp⟩, env, ws, d, _, I.E, I.O, e1, fun v1 H1 k1 O1 D1 _ => ⟨p, xs, v1, rfl, rfl, own_keep I.E no hp k1, by rw [l.length, ← line_eq]; exact hlen, ?_⟩⟩
      have I1 := I.keep k1 O1
      obtain ⟨q1, q2⟩ := I1.chg hd hv' ((l.keep I.O k1).append (.cons D1.strict .nil))
      exact P _ _ q1 ((Onto.keep I.O k1).trans q2)
    · exact (stuck_ok (w := w1) e).elim
theorem st_ext (g : GX n S fr cl gl k X) {a : Ex} {v : Expr} {y : Str} {py ap cp spos : Pos} {i : Nat} (h1 : n.N[i]? = some y) (h2 : visB k.sc y = true) (h3 : plainN y = true) (h : chk n k a v = true) (hl : (ap.endLine == cp.line) = true) :
    PS X (.Expr (.Call (.Attribute (.Name y py) (Str.ofString "extend") ap) [v] [] cp) spos) (tSt S fr cl gl H0 (.ext i a)) := by
  obtain ⟨p1, p2, _⟩ := plain_parts h3
  have hv := chk_plain h
  refine PS.imp (ps_expr (pe_bm F.plainAttrs_list F.slot_list_extend F.type_list_extend mt_extend (pe_var (g.name h1) (g.vis h2) p1 p2) (pa_cons ((sound a g v h).1 false) pa_nil (star_plain hv [] X.env)) rfl (few1 hv cp X.env) hl (star_plain hv [] X.env) rfl) rfl) fun Dd σ H z => ?_
  obtain ⟨env, ws, r, ws', I, e, P⟩ := z
  rw [evSt] at e
  obtain ⟨d, w1, e1, e⟩ := bind_ok e
  cases hd : getOwn env i with
  | none => rw [hd] at e; exact (stuck_ok (w := w1) e).elim
  | some ds =>
    rw [hd] at e
    cases d with
    | lst es =>
      simp only at e
      split at e
      · rename_i hlen
        obtain ⟨rfl, rfl⟩ := ok_ok e
        have hd := getOwn_some hd
        obtain ⟨p, xs, es0, hv', e2, hp, l, no⟩ := I.E.own _ _ hd
        cases e2
        refine ⟨_, hv', .inl ⟨rfl, xs, .of hp⟩, env, ws, _, _, I.E, I.O, e1, fun v1 H1 k1 O1 D1 _ => ?_⟩
        obtain ⟨b, zs, rfl, hb, l2⟩ := D1.list
        refine ⟨p, b, xs, zs, rfl, rfl, own_keep I.E no hp k1, hb, by rw [l.length, l2.length, ← line_eq]; exact hlen, ?_⟩
        have I1 := I.keep k1 O1
        obtain ⟨q1, q2⟩ := I1.chg hd hv' ((l.keep I.O k1).append l2)
        exact P _ _ q1 ((Onto.keep I.O k1).trans q2)
      · exact (stuck_ok (w := w1) e).elim
    | _ => exact (stuck_ok (w := w1) e).elim
theorem last_at {C : Cc} {H : Hp} {xs : List V} {ds : List D} {d : D} (l : DenL C H xs ds) (e : ds.getLast? = some d) : ∃ v, xs[xs.length - 1]? = some v ∧ Den C H v d := by
  rw [List.getLast?_eq_getElem?] at e
  rw [l.length]
  exact l.get e
theorem st_pop (g : GX n S fr cl gl k X) {tg : Tg} {t : Expr} {y : Str} {py ap cp spos : Pos} {i : Nat} (h1 : n.N[i]? = some y) (h2 : visB k.sc y = true) (h3 : plainN y = true) (ht : chkTg n k tg t = true) (hl : (ap.endLine == cp.line) = true) :
    PS X (.Assign [t] (.Call (.Attribute (.Name y py) (Str.ofString "pop") ap) [] [] cp) spos) (tSt S fr cl gl H0 (.pop tg i)) := by
  obtain ⟨p1, p2, _⟩ := plain_parts h3
  refine PS.imp (ps_asg (pe_bm0 F.plainAttrs_list F.slot_list_pop F.type_list_pop mt_pop (pe_var (g.name h1) (g.vis h2) p1 p2) rfl hl) (g_tg g tg t ht) rfl (by cases t <;> first | rfl | (exfalso; cases tg <;> simp [chkTg] at ht)) (by cases t <;> first | rfl | (exfalso; cases tg <;> simp [chkTg] at ht))) fun Dd σ H z => ?_
  obtain ⟨env, ws, r, ws', I, e, P⟩ := z
  rw [evSt] at e
  cases hd : getOwn env i with
  | none => rw [hd] at e; exact (stuck_ok (w := ws) e).elim
  | some ds =>
    rw [hd] at e
    cases hla : ds.getLast? with
    | none => simp only [hla] at e; exact (stuck_ok (w := ws) e).elim
    | some d =>
      simp only [hla] at e
      cases hb : bindTg tg d (env.set i (.own (.lst ds.dropLast))) with
      | none => simp only [hb] at e; exact (stuck_ok (w := ws) e).elim
      | some env' =>
        simp only [hb] at e
        obtain ⟨rfl, rfl⟩ := ok_ok e
        have hd := getOwn_some hd
        obtain ⟨p, xs, es0, hv', e2, hp, l, no⟩ := I.E.own _ _ hd
        cases e2
        obtain ⟨yv, hy, dy⟩ := last_at l hla
        obtain ⟨q1, q2⟩ := I.chg hd hv' l.dropLast
        exact ⟨_, hv', .inl ⟨rfl, xs, .of hp⟩, p, xs, yv, rfl, rfl, hp, hy, _, d, env', q1.E, dy.onto q2, hb, fun σ' E' A' => P _ _ (q1.after E' A') (q2.trans (onto_less A'.1))⟩
theorem ixN_of {m : Nat} {j : Int} {p : Nat} (h : place m j = some p) : ixN m j = some p := by
  unfold place at h
  unfold ixN
  exact h
theorem st_put (g : GX n S fr cl gl k X) {a b : Ex} {x v : Expr} {y : Str} {py sp spos : Pos} {i : Nat} (h1 : n.N[i]? = some y) (h2 : visB k.sc y = true) (h3 : plainN y = true) (hx : chk n k b x = true) (h : chk n k a v = true) (ht : notTup v = true) :
    PS X (.Assign [.Subscript (.Name y py) x sp] v spos) (tSt S fr cl gl H0 (.put i b a)) := by
  obtain ⟨p1, p2, _⟩ := plain_parts h3
  have pix := chk_ix hx
  refine PS.imp (ps_asg ((sound a g v h).1 false) (pg_sub (pe_var (g.name h1) (g.vis h2) p1 p2) ((sound b g x hx).1 false) set_list (by
    intro u
    cases x <;> first | rfl | (exfalso; cases b <;> simp [chk] at hx))) (by cases v <;> rfl) (by cases v <;> rfl) rfl) fun Dd σ H z => ?_
  obtain ⟨env, ws, r, ws', I, e, P⟩ := z
  rw [evSt] at e
  obtain ⟨d, w1, e1, e⟩ := bind_ok e
  obtain ⟨jd, w2, e2, e⟩ := bind_ok e
  cases hd : getOwn env i with
  | none => rw [hd] at e; exact (stuck_ok (w := w2) e).elim
  | some ds =>
    rw [hd] at e
    cases jd with
    | int j =>
      simp only at e
      cases hp : place ds.length j with
      | none => rw [hp] at e; exact (stuck_ok (w := w2) e).elim
      | some p =>
        rw [hp] at e
        obtain ⟨rfl, rfl⟩ := ok_ok e
        have hd := getOwn_some hd
        obtain ⟨q, xs, es0, hv', eq2, hq, l, no⟩ := I.E.own _ _ hd
        cases eq2
        refine ⟨env, ws, d, w1, I.E, I.O, e1, fun v1 H1 k1 O1 D1 _ => ⟨_, hv', env, w1, _, _, I.E.keep I.O k1, O1, e2, fun v2 H2 k2 O2 D2 _ => ?_⟩⟩
        cases D2.intV
        have I2 := (I.keep k1 O1).keep k2 O2
        refine ⟨q, xs, j, p, rfl, rfl, own_keep I.E no hq (k1.trans k2), by rw [l.length]; exact ixN_of hp, ?_⟩
        obtain ⟨r1, r2⟩ := I2.chg hd hv' (DenL.set (D1.strict.keep O1 k2) p ((l.keep I.O k1).keep O1 k2))
        exact P _ _ r1 (((Onto.keep I.O k1).trans (Onto.keep O1 k2)).trans r2)
    | _ => exact (stuck_ok (w := w2) e).elim
end
end Pc

set_option Elab.async false
set_option linter.all false
set_option maxRecDepth 100000
set_option maxHeartbeats 4000000
/-! # Soundness 11: a, b = x, y -/
namespace Pc
open PySem L2 PyProof.Rows StX
section
variable {n : Nx} {S : Sx} {fr : Nat → Bool} {cl : Nat → List Sl → M D} {gl : Nat → D} {k : Kx} {X : Cx} {H0 : Hp}
def setAll (σ : L2.St) : List Nat → List V → L2.St
  | i :: is, v :: vs => setAll (σ.set i (some v)) is vs
  | _, _ => σ
theorem setAll_out : ∀ {is : List Nat} {vs : List V} {σ : L2.St} {i : Nat} {v : V}, i ∉ is → setAll (σ.set i (some v)) is vs = (setAll σ is vs).set i (some v)
  | [], _, _, _, _, _ => by simp [setAll]
  | _ :: _, [], _, _, _, _ => by simp [setAll]
  | j :: is, w :: vs, σ, i, v, h => by
    simp only [List.mem_cons, not_or] at h
    rw [setAll, setAll, List.set_comm _ _ h.1, setAll_out h.2]
theorem setAll_app : ∀ {is : List Nat} {vs : List V} {σ : L2.St} {i : Nat} {v : V}, is.length = vs.length → setAll σ (is ++ [i]) (vs ++ [v]) = (setAll σ is vs).set i (some v)
  | [], [], _, _, _, _ => by simp [setAll]
  | [], _ :: _, _, _, _, h => by simp at h
  | _ :: _, [], _, _, _, h => by simp at h
  | j :: is, w :: vs, σ, i, v, h => by
    rw [List.cons_append, List.cons_append, setAll, setAll, setAll_app (by simpa using h)]
theorem setAll_rev : ∀ {is : List Nat} {vs : List V} {σ : L2.St}, is.Nodup → is.length = vs.length → setAll σ is.reverse vs.reverse = setAll σ is vs
  | [], [], _, _, _ => rfl
  | [], _ :: _, _, _, h => by simp at h
  | _ :: _, [], _, _, h => by simp at h
  | i :: is, v :: vs, σ, hn, h => by
    rw [List.nodup_cons] at hn
    rw [List.reverse_cons, List.reverse_cons, setAll_app (by simpa using h), setAll_rev hn.2 (by simpa using h), setAll, setAll_out hn.1]
def nameOf : Expr → Str
  | .Name x _ => x
  | _ => Str.empty
theorem store_all (g : GX n S fr cl gl k X) : ∀ {is : List Nat} {xs : List Str} {vs : List V} {us : List Value} {pins : List (Addr × Obj)} {σ : L2.St} {H : Hp} {s : Shared} {E : Value → Shared → Prop} {Q : Unit → Shared → Prop}, L2.Inv X pins σ H s → (∀ (j : Nat) i, is[j]? = some i → ∃ x, xs[j]? = some x ∧ n.N[i]? = some x ∧ locB k x = true) → is.length = xs.length → Vals vs us → is.length = vs.length →
    (∀ s', L2.Inv X pins (setAll σ is vs) H s' → Q () s') → wpAny (model X.prog X.w) X.A (assignInOrder (xs.map fun x => fun v => bindName X.env x v) us) Q E s
  | [], [], [], us, _, _, _, _, _, _, I, _, _, r, _, h => by
    cases r
    exact assignInOrder_nil (h _ I)
  | [], _ :: _, _, _, _, _, _, _, _, _, _, _, e, _, _, _ => by simp at e
  | _ :: _, [], _, _, _, _, _, _, _, _, _, _, e, _, _, _ => by simp at e
  | [], _, _ :: _, _, _, _, _, _, _, _, _, _, _, _, e, _ => by simp at e
  | _ :: _, _, [], _, _, _, _, _, _, _, _, _, _, _, e, _ => by simp at e
  | i :: is, x :: xs, v :: vs, us, pins, σ, H, s, E, Q, I, hx, e1, r, e2, h => by
    cases r with
    | cons r rr =>
      obtain ⟨y, h1, h2, h3⟩ := hx 0 i rfl
      cases h1
      obtain ⟨l1, l2⟩ := g.loc h3
      refine assignInOrder_cons (wpAny_bindName (store_ok I g.ndN (g.name h2) l1 r (fun s' I' => ?_) l2))
      exact store_all g I' (fun j i' hj => hx (j + 1) i' (by simpa using hj)) (by simpa using e1) rr (by simpa using e2) h
theorem names_at : ∀ {is : List (Nat × Bool)} {ts : List Expr}, chkNames n k is ts = true → is.length = ts.length ∧ ∀ (j : Nat) i, (is.map (·.1))[j]? = some i → ∃ x, (ts.map nameOf)[j]? = some x ∧ n.N[i]? = some x ∧ locB k x = true
  | [], [], _ => ⟨rfl, fun j i h => by simp at h⟩
  | [], _ :: _, h => by simp [chkNames] at h
  | (i, o) :: is, ts, h => by
    unfold chkNames at h
    split at h
    · simp only [Bool.and_eq_true, nmB, decide_eq_true_eq] at h
      obtain ⟨⟨h1, h2⟩, h3⟩ := h
      obtain ⟨q1, q2⟩ := names_at h3
      refine ⟨by simp [q1], fun j i' hj => ?_⟩
      cases j with
      | zero =>
        simp at hj
        subst hj
        exact ⟨_, rfl, h1, h2⟩
      | succ j => simpa using q2 j i' (by simpa using hj)
    · cases h
theorem names_filter {f : Expr → Option Str} (hf : ∀ x p, f (.Name x p) = none ∨ f (.Name x p) = some x) : ∀ {is : List (Nat × Bool)} {ts : List Expr}, chkNames n k is ts = true → (ts.filterMap f).length = ts.length → ts.filterMap f = ts.map nameOf
  | [], [], _, _ => rfl
  | [], _ :: _, h, _ => by simp [chkNames] at h
  | (i, o) :: is, ts, h, e => by
    unfold chkNames at h
    split at h
    · rename_i x p xs
      simp only [Bool.and_eq_true] at h
      rcases hf x p with hc | hc
      · rw [List.filterMap_cons_none hc] at e
        have := List.length_filterMap_le f xs
        simp only [List.length_cons] at e
        omega
      · rw [List.filterMap_cons_some hc] at e ⊢
        rw [List.map_cons, names_filter hf h.2 (by simpa using e)]
        rfl
    · cases h
/-- a row of plain names, from the left -/
def gNames (is : List Nat) : TGs := fun vs σ H Q => vs.length = is.length ∧ Q (setAll σ is vs) H
theorem g_names (g : GX n S fr cl gl k X) : ∀ {is : List (Nat × Bool)} {ts : List Expr}, chkNames n k is ts = true → PGs X ts (gNames (is.map (·.1))) ∧ (assignEach ts X.env).length = is.length ∧ (assignEach ts X.env).findIdx? (·.1) = none
  | [], [], _ => ⟨PGs.imp pgs_nil fun v σ H Q z => by
      obtain ⟨z1, z2⟩ := z
      cases v with
      | nil => exact ⟨rfl, z2⟩
      | cons _ _ => simp at z1, rfl, rfl⟩
  | [], _ :: _, h => by simp [chkNames] at h
  | (i, o) :: is, ts, h => by
    unfold chkNames at h
    split at h
    · simp only [Bool.and_eq_true, nmB, decide_eq_true_eq] at h
      obtain ⟨⟨h1, h2⟩, h3⟩ := h
      obtain ⟨q1, q2, q3⟩ := g_names g h3
      obtain ⟨l1, l2⟩ := g.loc h2
      refine ⟨PGs.imp (pgs_cons (pg_name g.ndN (g.name h1) l1 l2) q1 rfl) fun v σ H Q z => ?_, by show _ + 1 = _; rw [q2]; rfl, ?_⟩
      · obtain ⟨z1, z2⟩ := z
        cases v with
        | nil => simp at z1
        | cons v vs => exact ⟨v, vs, rfl, by simpa using z1, z2⟩
      · show List.findIdx? _ ((false, _) :: _) = none
        rw [List.findIdx?_cons]
        simp [q3]
    · cases h
theorem ps_row (g : GX n S fr cl gl k X) {is : List (Nat × Bool)} {ts vs : List Expr} {ta : TA} {kt k2 : Nat} {pt p2 spos : Pos} (hn : chkNames n k is ts = true) (hv : vs.all (foldedForSure 8) = true ∨ vs.all (constantsAlone 8) = false) (nd : (is.map (·.1)).Nodup) (h100 : is.length ≤ 100) (ha : PA X vs ta) (mono : ∀ σ H (Q Q' : List V → Hp → Prop), ta σ H Q → (∀ xs H1, Q xs H1 → Q' xs H1) → ta σ H Q') :
    PS X (.Assign [.Tuple ts kt pt] (.Tuple vs k2 p2) spos) (fun D σ H => ta σ H fun xs H1 => xs.length = is.length ∧ ∀ p H2, H1 p = none → (H2 = H1 ∨ H2 = upd H1 p (.tup xs)) → D.nx (setAll σ (is.map (·.1)) xs) H2) := by
  obtain ⟨q1, q2, q3⟩ := g_names g hn
  obtain ⟨r1, r2⟩ := names_at hn
  have key : swappedStores [.Tuple ts kt pt] (.Tuple vs k2 p2) X.env = pure none ∨ swappedStores [.Tuple ts kt pt] (.Tuple vs k2 p2) X.env = pure (some (ts.map nameOf)) := by
    unfold swappedStores
    simp only []
    split
    · exact .inl rfl
    · split
      · exact .inl rfl
      · split
        · exact .inl rfl
        · rename_i hc
          split
          · exact .inl rfl
          · split
            · rename_i h1 h2
              rcases hv with z | z
              · exact absurd z h1
              · rw [z] at h2; cases h2
            · right
              simp only [Bool.or_eq_true, bne_iff_ne, ne_eq, not_or, Decidable.not_not] at hc
              rw [names_filter (fun x p => by
                simp only []
                split
                · exact .inr rfl
                · exact .inl rfl) hn hc.1]
  have hlen : ∀ {xs : List V}, xs.length = is.length → xs.length ≤ sizeLine := fun h => Nat.le_trans (by omega) (show 100 ≤ sizeLine by decide)
  rcases key with key | key
  · refine PS.imp (ps_asg (pe_tup ha) (pg_tup g.calm q1 q2 q3) rfl key rfl) fun D σ H z => ?_
    exact mono σ H _ _ z fun xs H1 h => ⟨hlen h.1, fun p np => ⟨p, xs, rfl, .of upd_same, h.1, by rw [List.length_map]; exact h.1, h.2 p _ np (.inr rfl)⟩⟩
  · refine ⟨fun pins s σ H D I h => ?_⟩
    rw [exec_Assign_arm]
    refine wpAny_bind (wpAny_standAt ?_)
    rw [show swapsWithSole [.Tuple ts kt pt] (.Tuple vs k2 p2) spos.line X.env = pure false from rfl]
    refine wpAny_bind (wpAny_pure ?_)
    rw [if_neg (by decide)]
    refine wpAny_bind (Tuple_ (thn (ha.run _ pins s σ H _ I h) fun us s1 ⟨xs, H1, I1, r', hl, q⟩ => ?_))
    have hu : xs.length = us.length := r'.length
    refine wpAny_newObj_type ?_ (by show us.toArray.size ≤ sizeLine; rw [List.size_toArray, ← hu]; exact hlen hl)
    have I2 : L2.Inv X pins σ H1 { s1 with heap := s1.heap.push { cls := .type "tuple", data := .seq us.toArray } } := I1.kept (t' := s1.toks) fun b o e => Heap.get?_push_of_some _ e
    rw [key]
    refine wpAny_bind (wpAny_pure ?_)
    show wpAny (model X.prog X.w) X.A (do rule "assign.swapped-stores"; let items ← unpackItems (.ref s1.heap.objs.size) (ts.map nameOf).length none; assignInOrder ((ts.map nameOf).reverse.map fun x => bindName X.env x) items.reverse; pure Flow.next) _ _ _
    have hsz : (ts.map nameOf).length = us.toArray.size := by rw [List.length_map, List.size_toArray, ← hu, hl, r1]
    rw [hsz]
    refine wpAny_bind (wpAny_rule (wpAny_bind (unpackItems_tuple (items := us.toArray) (I.ok.hd g.calm) (IsTup.new s1.heap _) fun h' hx' => ?_)))
    have I3 := I2.kept (h' := h') (t' := s1.toks) fun b o e => hx' b o (Nat.ne_of_lt (Heap.lt_size e)) e
    refine wpAny_bind (store_all g (is := (is.map (·.1)).reverse) (vs := xs.reverse) I3 (fun j i hj => ?_) (by simp [r1]) r'.reverse (by simp [hl]) fun s' I4 => wpAny_pure ?_)
    · rw [← List.map_reverse] at hj ⊢
      have hj' : j < is.length := by
        have := (List.getElem?_eq_some_iff.mp hj).1
        simpa using this
      rw [List.map_reverse, List.getElem?_reverse (by simpa using hj')] at hj
      obtain ⟨x, h1, h2, h3⟩ := r2 _ i hj
      refine ⟨x, ?_, h2, h3⟩
      rw [List.map_reverse, List.getElem?_reverse (by simpa [← r1] using hj'), ← h1]
      simp [r1]
    · rw [setAll_rev nd (by rw [List.length_map]; exact hl.symm)] at I4
      have np : H1 s1.heap.objs.size = none := I1.hok.fresh (Nat.le_refl _)
      exact ⟨_, H1, I4, q _ _ np (.inl rfl)⟩
end
end Pc

set_option Elab.async false
set_option linter.all false
set_option maxRecDepth 100000
set_option maxHeartbeats 4000000
/-! # Soundness 12: a, b = x, y; suites -/
namespace Pc
open PySem L2 PyProof.Rows StX
section
variable {n : Nx} {S : Sx} {fr : Nat → Bool} {cl : Nat → List Sl → M D} {gl : Nat → D} {k : Kx} {X : Cx} {H0 : Hp}
inductive RowOk (H H' : Hp) : Cc → List Bool → List V → List D → Cc → Prop where
  | nil {C : Cc} : RowOk H H' C [] [] [] C
  | imm {C C' : Cc} {os : List Bool} {v : V} {vs : List V} {d : D} {ds : List D} (h : Den C' H' v d) (t : RowOk H H' C os vs ds C') : RowOk H H' C (false :: os) (v :: vs) (d :: ds) C'
  | own {C C' : Cc} {os : List Bool} {p : Addr} {xs vs : List V} {es ds : List D} (no : ¬ C.O p) (n : H p = none) (h : H' p = some (.lst xs)) (l : DenL C' H' xs es) (t : RowOk H H' (C.plus p) os vs ds C') : RowOk H H' C (true :: os) (.ref p :: vs) (.lst es :: ds) C'
theorem RowOk.up {H H1 H' : Hp} {C C' : Cc} {os : List Bool} {vs : List V} {ds : List D} {wa : Option Wa} {ws : WS} (k1 : Keep wa H H1) (w : WOk wa H1 ws) (r : RowOk H1 H' C os vs ds C') : RowOk H H' C os vs ds C' := by
  induction r with
  | nil => exact .nil
  | imm h t ih => exact .imm h ih
  | own no n h l t ih => exact .own no (k1.none w n) h l ih
theorem RowOk.sub {H H' : Hp} {C C' : Cc} {os : List Bool} {vs : List V} {ds : List D} (r : RowOk H H' C os vs ds C') : C'.K = C.K ∧ C'.wa = C.wa ∧ (∀ a, C.O a → C'.O a) ∧ ∀ a, C'.O a → C.O a ∨ H a = none := by
  induction r with
  | nil => exact ⟨rfl, rfl, fun _ z => z, fun _ z => .inl z⟩
  | imm h t ih => exact ih
  | own no n h l t ih =>
    obtain ⟨h1, h2, h3, h4⟩ := ih
    exact ⟨h1, h2, fun a z => h3 a (.inl z), fun a z => (h4 a z).elim (fun z => Or.elim z .inl fun q => .inr (by rw [q]; exact n)) .inr⟩
theorem RowOk.onto {H H' : Hp} {C C' : Cc} {os : List Bool} {vs : List V} {ds : List D} {ws : WS} (r : RowOk H H' C os vs ds C') (x : HpOk C H ws) (kk : Keep C.wa H H') : Onto C C' H H' := by
  obtain ⟨h1, h2, h3, h4⟩ := r.sub
  exact ⟨h1, h2, fun a o e na => ⟨kk a o e fun w ew => ⟨fun q => na (q ▸ (x.wo w ew).1), fun q => na (q ▸ (x.wo w ew).2)⟩, fun z => (h4 a z).elim na fun q => by rw [q] at e; cases e⟩⟩
theorem RowOk.len {H H' : Hp} {C C' : Cc} {os : List Bool} {vs : List V} {ds : List D} (r : RowOk H H' C os vs ds C') : vs.length = os.length := by
  induction r with
  | nil => rfl
  | imm h t ih => simp [ih]
  | own no n h l t ih => simp [ih]
theorem cc_plus {σ : L2.St} {env : SEnv} {p : Addr} : (S.plus p).cc σ env = (S.cc σ env).plus p := by
  have q : (fun a => (S.plus p).Oc a ∨ ownAt σ env a) = fun a => (S.cc σ env).O a ∨ a = p := funext fun a => propext (plusO a)
  unfold Sx.cc Cc.plus
  rw [q]
  rfl
def flagsOk (fr : Nat → Bool) : List Bool → Exs → List D → Bool
  | [], .nil, [] => true
  | o :: os, .cons e r, d :: ds => (!o || (freshEx fr e && (match d with | .lst _ => true | _ => false))) && flagsOk fr os r ds
  | _, _, _ => false
theorem flags_zip : ∀ {is : List (Nat × Bool)} {es : Exs} {ds : List D} {env env' : SEnv}, zipSet fr is es ds env = some env' → flagsOk fr (is.map (·.2)) es ds = true
  | [], .nil, [], _, _, _ => rfl
  | (i, o) :: is, .cons e r, d :: ds, env, env', h => by
    unfold zipSet at h
    split at h
    · cases o with
      | false =>
        simp only [Bool.false_eq_true, if_false] at h
        have ih := flags_zip h
        simp only [List.map_cons, flagsOk, Bool.not_false, Bool.true_or, Bool.true_and]
        exact ih
      | true =>
        simp only [if_true] at h
        split at h
        · split at h
          · rename_i hf
            have ih := flags_zip h
            simp only [List.map_cons, flagsOk, Bool.not_true, Bool.false_or, hf, Bool.true_and]
            exact ih
          · cases h
        · cases h
    · cases h
  | [], .cons _ _, _, _, _, h => by simp [zipSet] at h
  | [], .star _ _, _, _, _, h => by simp [zipSet] at h
  | [], .nil, _ :: _, _, _, h => by simp [zipSet] at h
  | _ :: _, .nil, _, _, _, h => by simp [zipSet] at h
  | _ :: _, .star _ _, _, _, _, h => by simp [zipSet] at h
  | _ :: _, .cons _ _, [], _, _, h => by simp [zipSet] at h
def tRow (S : Sx) (fr : Nat → Bool) (cl : Nat → List Sl → M D) (gl : Nat → D) (os : List Bool) (es : Exs) : TA := fun σ H Q => ∃ (env : SEnv) (ws : WS) (ds : List D) (ws' : WS), EnvOk S σ env H ∧ HpOk (S.cc σ env) H ws ∧ evs cl gl es env ws = .ok ds ws' ∧ flagsOk fr os es ds = true ∧
  ∀ vs H' C', Keep S.wa H H' → HpOk C' H' ws' → RowOk H H' (S.cc σ env) os vs ds C' → Q vs H'
theorem sound_row : ∀ (es : Exs) (os : List Bool) {S : Sx} {k : Kx} {X : Cx}, GX n S fr cl gl k X → ∀ (xs : List Expr), chkP n k es xs = true → PA X xs (tRow S fr cl gl os es)
  | .nil, os, S, k, X, g, xs, h => by
    cases xs with
    | cons x xs => simp [chkP] at h
    | nil =>
      refine PA.imp pa_nil fun σ H Q z => ?_
      obtain ⟨env, ws, ds, ws', E, O, e, fo, P⟩ := z
      rw [evs] at e
      obtain ⟨rfl, rfl⟩ := ok_ok e
      cases os with
      | nil => exact P [] H _ (Keep.refl _ _) O .nil
      | cons o os => simp [flagsOk] at fo
  | .star _ _, os, S, k, X, g, xs, h => by simp [chkP] at h
  | .cons a r, os, S, k, X, g, xs, h => by
    cases xs with
    | nil => simp [chkP] at h
    | cons x xs =>
      simp only [chkP, Bool.and_eq_true] at h
      have tail : PA X xs (fun σ H Q => ∃ S', S'.K = S.K ∧ ∃ os', tRow S' fr cl gl os' r σ H Q) := ⟨fun pos pins s σ H Q I ⟨S', e, os', z⟩ => (sound_row r os' (g.toS e) xs h.2).run pos pins s σ H Q I z⟩
      refine PA.imp (pa_cons ((sound a g x h.1).1 false) tail (star_plain (chk_plain h.1) xs X.env)) fun σ H Q z => ?_
      obtain ⟨env, ws, ds, ws', E, O, e, fo, P⟩ := z
      rw [evs] at e
      obtain ⟨d1, w1, e1, e⟩ := bind_ok e
      obtain ⟨dr, w2, e2, e⟩ := bind_ok e
      obtain ⟨rfl, rfl⟩ := ok_ok e
      cases os with
      | nil => simp [flagsOk] at fo
      | cons o os =>
        simp only [flagsOk, Bool.and_eq_true, Bool.or_eq_true, Bool.not_eq_true'] at fo
        obtain ⟨fo1, fo2⟩ := fo
        refine ⟨env, ws, d1, w1, E, O, e1, fun v1 H1 k1 O1 D1 f1 => ?_⟩
        cases o with
        | false =>
          exact ⟨S, rfl, os, env, w1, dr, _, E.keep O k1, O1, e2, fo2, fun vs H2 C' k2 O2 row => P _ _ C' (k1.trans k2) O2 (.imm (D1.strict.onto (row.onto O1 k2)) (row.up k1 O1.w))⟩
        | true =>
          have fo1 := fo1.resolve_left (by intro z; cases z)
          cases d1 with
          | lst es =>
            obtain ⟨p, xs', rfl, np, hp, l⟩ := f1 fo1.1 es rfl
            refine ⟨S.plus p, rfl, os, env, w1, dr, _, E.grow O np k1, ?_, e2, fo2, fun vs H2 C' k2 O2 row => ?_⟩
            · rw [cc_plus]; exact O1.plus ⟨_, hp⟩
            · rw [cc_plus] at row
              have nw := notW O np
              have op : HpOk ((S.cc σ env).plus p) H1 w1 := O1.plus ⟨_, hp⟩
              exact P _ _ C' (k1.trans k2) O2 (.own (O.out np) np (k2 p _ hp fun w ew => ⟨(nw w ew).1, (nw w ew).2.1⟩) (l.onto (row.onto op k2)) (row.up k1 O1.w))
          | _ => cases fo1.2
/-! ### the slots take them -/
def Strong (C : Cc) (σ : L2.St) (env : SEnv) (H : Hp) : Prop := (∀ (i : Nat) d, env[i]? = some (.imm d) → ∃ v, σ[i]? = some (some v) ∧ Den C H v d) ∧
  ∀ (i : Nat) ds, (env[i]? = some (.own (.lst ds)) ∨ env[i]? = some (.bor (.lst ds))) → ∀ a xs, σ[i]? = some (some (V.ref a)) → H a = some (.lst xs) → DenL C H xs ds
theorem Sin.strong {σ : L2.St} {env : SEnv} {H H1 : Hp} {ws : WS} {C : Cc} (I : Sin S H0 σ env H ws) (k1 : Keep S.wa H H1) (on : Onto (S.cc σ env) C H H1) : Strong C σ env H1 := by
  refine ⟨fun i d e => ?_, fun j es e a ys h1 h2 => ?_⟩
  · obtain ⟨u, h1, h2⟩ := I.E.imm i d e
    exact ⟨u, h1, h2.onto on⟩
  · rcases e with e | e
    · obtain ⟨a', ys', es', g1, g2, g3, g4, g5⟩ := I.E.own j _ e
      cases g2
      rw [h1] at g1
      cases g1
      have g6 := own_keep I.E g5 g3 k1
      rw [h2] at g6
      cases g6
      exact g4.onto on
    · obtain ⟨a', ys', es', g1, g2, g3, g4, g5, g6⟩ := I.E.bor j _ e
      cases g2
      rw [h1] at g1
      cases g1
      have g7 := k1 a _ g3 g6
      rw [h2] at g7
      cases g7
      exact g4.onto on
theorem set_row {H H' : Hp} {C C' : Cc} {os : List Bool} {vs : List V} {ds : List D} (r : RowOk H H' C os vs ds C') : ∀ {is : List (Nat × Bool)} {es : Exs} {σ : L2.St} {env env' : SEnv}, is.map (·.2) = os → zipSet fr is es ds env = some env' → EnvOk S σ env H' → (∀ a, (S.cc σ env).O a → C.O a) → C.K = S.K → C.wa = S.wa → Strong C' σ env H' →
    EnvOk S (setAll σ (is.map (·.1)) vs) env' H' ∧ (∀ a, (S.cc (setAll σ (is.map (·.1)) vs) env').O a → C'.O a) ∧ ∀ a, ownAt (setAll σ (is.map (·.1)) vs) env' a → ownAt σ env a ∨ H a = none := by
  induction r with
  | nil =>
    intro is es σ env env' e z E hO _ _ st
    cases is with
    | cons i is => simp at e
    | nil =>
      cases es with
      | nil =>
        simp [zipSet] at z
        subst z
        exact ⟨E, hO, fun a z => .inl z⟩
      | cons _ _ => simp [zipSet] at z
      | star _ _ => simp [zipSet] at z
  | @imm C C' os v vs d ds h t ih =>
    intro is es σ env env' e z E hO eK ew st
    cases is with
    | nil => simp at e
    | cons i is =>
      obtain ⟨i, o⟩ := i
      simp only [List.map_cons, List.cons.injEq] at e
      obtain ⟨rfl, e⟩ := e
      cases es with
      | nil => simp [zipSet] at z
      | star _ _ => simp [zipSet] at z
      | cons a r =>
        unfold zipSet at z
        split at z
        · rename_i hi
          simp only [Bool.false_eq_true, if_false] at z
          obtain ⟨s1, s2, s3, s4⟩ := t.sub
          have dc : Den (S.cc σ env) H' v d := h.less (fun a z => s3 a (hO a z)) (eK.symm.trans s1.symm) (ew.symm.trans s2.symm)
          have oo : ∀ a, (S.cc (σ.set i (some v)) (env.set i (.imm d))).O a → (S.cc σ env).O a := fun a z => z.elim .inl fun z => .inr (ownAt_set z)
          have hs : i < σ.length := by rw [← E.len]; exact hi
          have st' : Strong C' (σ.set i (some v)) (env.set i (.imm d)) H' := by
            refine ⟨fun j c hj => ?_, fun j es hj a xs h1 h2 => ?_⟩
            · by_cases q : i = j
              · subst q
                rw [List.getElem?_set_self hi] at hj
                cases hj
                exact ⟨v, List.getElem?_set_self hs, h⟩
              · rw [List.getElem?_set_ne q] at hj ⊢
                exact st.1 j c hj
            · by_cases q : i = j
              · subst q
                rw [List.getElem?_set_self hi] at hj
                rcases hj with hj | hj <;> cases hj
              · rw [List.getElem?_set_ne q] at hj h1
                exact st.2 j es hj a xs h1 h2
          obtain ⟨q1, q2, q3⟩ := ih e z (E.setImm dc hi) (fun a z => hO a (oo a z)) eK ew st'
          exact ⟨q1, q2, fun a z => (q3 a z).elim (fun z => .inl (ownAt_set z)) .inr⟩
        · cases z
  | @own C C' os p xs vs es' ds no np h l t ih =>
    intro is es σ env env' e z E hO eK ew st
    cases is with
    | nil => simp at e
    | cons i is =>
      obtain ⟨i, o⟩ := i
      simp only [List.map_cons, List.cons.injEq] at e
      obtain ⟨rfl, e⟩ := e
      cases es with
      | nil => simp [zipSet] at z
      | star _ _ => simp [zipSet] at z
      | cons a r =>
        unfold zipSet at z
        split at z
        · rename_i hi
          simp only [if_true] at z
          split at z
          · obtain ⟨s1, s2, s3, s4⟩ := t.sub
            have hs : i < σ.length := by rw [← E.len]; exact hi
            have E' := E.setOwn (C := C') hi h (fun z => no (hO p z)) (fun a z => s3 a (z.elim (fun z => .inl (hO a z)) .inr)) (s1.trans eK) (s2.trans ew) l (fun j d hj e => st.1 j d e) (fun j ds hj e a xs h1 h2 _ => st.2 j ds e a xs h1 h2)
            have st' : Strong C' (σ.set i (some (.ref p))) (env.set i (.own (.lst es'))) H' := by
              refine ⟨fun j c hj => ?_, fun j es hj a xs h1 h2 => ?_⟩
              · by_cases q : i = j
                · subst q
                  rw [List.getElem?_set_self hi] at hj
                  cases hj
                · rw [List.getElem?_set_ne q] at hj ⊢
                  exact st.1 j c hj
              · by_cases q : i = j
                · subst q
                  rw [List.getElem?_set_self hi] at hj
                  rw [List.getElem?_set_self hs] at h1
                  cases h1
                  rw [h] at h2
                  cases h2
                  rcases hj with hj | hj
                  · cases hj; exact l
                  · cases hj
                · rw [List.getElem?_set_ne q] at hj h1
                  exact st.2 j es hj a xs h1 h2
            obtain ⟨q1, q2, q3⟩ := ih e z E' (fun a z => z.elim (fun z => .inl (hO a (.inl z))) fun z => (ownAt_own z).elim (fun z => .inl (hO a (.inr z))) .inr) eK ew st'
            exact ⟨q1, q2, fun a z => (q3 a z).elim (fun z => (ownAt_own z).elim .inl fun q => .inr (by rw [q]; exact np)) .inr⟩
          · cases z
        · cases z
theorem st_par (g : GX n S fr cl gl k X) {is : List (Nat × Bool)} {ts vs : List Expr} {es : Exs} {kt k2 : Nat} {pt p2 spos : Pos} (hn : chkNames n k is ts = true) (hc : chkP n k es vs = true) (hv : vs.all (foldedForSure 8) = true ∨ vs.all (constantsAlone 8) = false) (nd : (is.map (·.1)).Nodup) (h100 : is.length ≤ 100) :
    PS X (.Assign [.Tuple ts kt pt] (.Tuple vs k2 p2) spos) (tSt S fr cl gl H0 (.par is es)) := by
  refine PS.imp (ps_row g hn hv nd h100 (sound_row es (is.map (·.2)) g vs hc) (fun σ H Q Q' z h => ?_)) fun Dd σ H z => ?_
  · obtain ⟨env, ws, ds, ws', E, O, e, fo, P⟩ := z
    exact ⟨env, ws, ds, ws', E, O, e, fo, fun vs H' C' k1 O1 row => h _ _ (P vs H' C' k1 O1 row)⟩
  · obtain ⟨env, ws, r, ws', I, e, P⟩ := z
    rw [evSt] at e
    obtain ⟨ds, w1, e1, e⟩ := bind_ok e
    cases hz : zipSet fr is es ds env with
    | none => rw [hz] at e; exact (stuck_ok (w := w1) e).elim
    | some env' =>
      rw [hz] at e
      obtain ⟨rfl, rfl⟩ := ok_ok e
      refine ⟨env, ws, ds, _, I.E, I.O, e1, flags_zip hz, fun xs H1 C' k1 O1 row => ⟨by rw [row.len, List.length_map], fun p H2 np h2 => ?_⟩⟩
      have on := row.onto I.O k1
      obtain ⟨q1, q2, q3⟩ := set_row row rfl hz (I.E.keep I.O k1) (fun a z => z) rfl rfl (I.strong k1 on)
      have J : Sin S H0 (setAll σ (is.map (·.1)) xs) env' H1 w1 := ⟨q1, O1.less q2 (row.sub.2.1).symm fun w ew => ⟨.inl (I.E.wo w ew).1, .inl (I.E.wo w ew).2⟩, I.kp.trans k1, fun a z => (q3 a z).elim (I.nw a) (I.kp.none I.O.w)⟩
      have on1 : Onto (S.cc σ env) (S.cc (setAll σ (is.map (·.1)) xs) env') H H1 := on.of q2 row.sub.1.symm row.sub.2.1.symm
      rcases h2 with rfl | rfl
      · exact P _ _ J on1
      · exact P _ _ (J.keep (.new np) (J.O.new np)) (on1.trans (.keep J.O (.new np)))
end
end Pc

set_option Elab.async false
set_option linter.all false
set_option maxRecDepth 100000
set_option maxHeartbeats 4000000
/-! # Soundness 13: every suite -/
namespace Pc
open PySem L2 PyProof.Rows StX
section
variable {n : Nx} {S : Sx} {fr : Nat → Bool} {cl : Nat → List Sl → M D} {gl : Nat → D} {k : Kx} {X : Cx} {H0 : Hp}
theorem PostS.onto {C C1 : Cc} {H H1 : Hp} {r : Fl} {ws : WS} {D D' : Ends} (on : Onto C C1 H H1) (h : PostS S H0 C H r ws D) (hn : D'.nx = D.nx) (hr : D'.rt = D.rt) : PostS S H0 C1 H1 r ws D' := by
  cases r with
  | next env' => exact fun σ' H' I o => by rw [hn]; exact h σ' H' I (on.trans o)
  | ret d f => exact fun v H' k1 O1 D1 f1 => by rw [hr]; exact h v H' k1 O1 D1 f1
theorem st_if {c : Ex} {a b : List St} {t : Expr} {x y : List Stmt} {pos : Pos} (hc : PT X t (tT S cl gl c)) (ha : PSs X x (tSts S fr cl gl H0 a)) (hb : PSs X y (tSts S fr cl gl H0 b)) : PS X (.If t x y pos) (tSt S fr cl gl H0 (.ifs c a b)) := PS.imp (ps_if hc ha hb) fun Dd σ H z => by
  obtain ⟨env, ws, r, ws', I, e, P⟩ := z
  rw [evSt] at e
  obtain ⟨d, w1, e1, e⟩ := bind_ok e
  obtain ⟨b1, w2, e2, e⟩ := bind_ok e
  obtain ⟨f2, rfl⟩ := of_ok e2
  refine ⟨env, ws, d, _, b1, I.E, I.O, e1, f2, fun H1 k1 O1 => ?_⟩
  cases b1 with
  | true =>
    rw [if_pos rfl] at e
    show if true = true then _ else _
    rw [if_pos rfl]
    exact ⟨env, _, r, ws', I.keep k1 O1, e, P.onto (.keep I.O k1) rfl rfl⟩
  | false =>
    rw [if_neg Bool.false_ne_true] at e
    show if false = true then _ else _
    rw [if_neg Bool.false_ne_true]
    exact ⟨env, _, r, ws', I.keep k1 O1, e, P.onto (.keep I.O k1) rfl rfl⟩
theorem st_for (g : GX n S fr cl gl k X) {tg : Tg} {src : Src} {body : List St} {t it : Expr} {b : List Stmt} {pos : Pos} (hs : chkS n k t src it = true) (ht : chkTg n k tg t = true) (hb : PSs X b (tSts S fr cl gl H0 body)) : PS X (.For t it b [] pos) (tSt S fr cl gl H0 (.fors tg src body)) :=
  PS.imp (ps_for g.po g.calm (sound_s src g t it hs false) (g_tg g tg t ht) hb (chkS_fold hs X.env)) fun Dd σ H z => by
  obtain ⟨env, ws, r, ws', I, e, P⟩ := z
  rw [evSt] at e
  obtain ⟨ds, w1, e1, e⟩ := bind_ok e
  refine ⟨env, ws, ds, w1, I.E, I.O, e1, fun J H1 k1 O1 so => ?_⟩
  obtain ⟨G, Y, wk, hG, hY⟩ := so
  have on1 : Onto (S.cc σ env) (S.cc σ env) H H1 := .keep I.O k1
  refine for_it wk (fun i σi Hi => ∃ envi wi, Sin S H0 σi envi Hi wi ∧ Onto (S.cc σ env) (S.cc σi envi) H1 Hi ∧ forR (fun d env => M.bind (M.of (bindTg tg d env)) fun env' => evSts fr cl gl body env') (ds.drop i) envi wi = .ok r ws')
    ⟨env, w1, I.keep k1 O1, .refl, e⟩ (fun i σi Hi _ h => ?_) (fun i x σi Hi H' hi h y => ?_) fun σi Hi h => ?_
  · obtain ⟨envi, wi, _, on, _⟩ := h
    exact hG Hi fun a o e na => by
      rcases na with na | ⟨na, _⟩
      · exact (on.2.2 a o e na).1
      · cases na
  · obtain ⟨envi, wi, Ii, on, ef⟩ := h
    obtain ⟨d, hd, dn, hf⟩ := hY i x Hi H' _ wi hi on Ii.O y
    obtain ⟨kH, okH⟩ := src_new Ii.O hf
    rw [drop_at hd] at ef
    unfold forR at ef
    obtain ⟨r1, w2, e2, ef⟩ := bind_ok ef
    obtain ⟨env2, w3, b1, e2⟩ := bind_ok e2
    obtain ⟨f1, rfl⟩ := of_ok b1
    have IH := Ii.keep kH okH
    have onH : Onto (S.cc σi envi) (S.cc σi envi) Hi H' := .keep Ii.O kH
    refine ⟨envi, d, env2, IH.E, dn, f1, fun σ2 E2 Af => ⟨env2, wi, r1, w2, IH.after E2 Af, e2, ?_⟩⟩
    cases r1 with
    | next env3 => exact fun σ3 H3 I3 o3 => ⟨env3, w2, I3, ((on.trans onH).trans (onto_less Af.1)).trans o3, ef⟩
    | ret d b =>
      obtain ⟨rfl, rfl⟩ := ok_ok ef
      exact P
  · obtain ⟨envi, wi, Ii, on, ef⟩ := h
    rw [List.drop_length] at ef
    obtain ⟨rfl, rfl⟩ := ok_ok (show M.ok (Fl.next envi) wi = .ok r ws' from ef)
    exact P _ _ Ii (on1.trans on)
theorem st_while (g : GX n S fr cl gl k X) {c : Ex} {body : List St} {t : Expr} {b : List Stmt} {pos : Pos} (hc : PT X t (tT S cl gl c)) (hb : PSs X b (tSts S fr cl gl H0 body)) : PS X (.While t b [] pos) (tSt S fr cl gl H0 (.whl c body)) :=
  PS.imp (ps_while g.po hc hb) fun Dd σ H z => by
  obtain ⟨env, ws, r, ws', I, e, P⟩ := z
  rw [evSt] at e
  refine ⟨fun m σi Hi => ∃ envi wi, Sin S H0 σi envi Hi wi ∧ Onto (S.cc σ env) (S.cc σi envi) H Hi ∧ whileR (fun env => M.bind (ev cl gl c true env) fun x => M.of (truth x)) (fun env => evSts fr cl gl body env) m envi wi = .ok r ws', ⟨whileFuel, env, ws, I, .refl, e⟩, fun m σi Hi h => ?_⟩
  obtain ⟨envi, wi, Ii, on, ew⟩ := h
  cases m with
  | zero => exact (stuck_ok (w := wi) ew).elim
  | succ m =>
    unfold whileR at ew
    obtain ⟨b1, w2, e2, ew⟩ := bind_ok ew
    obtain ⟨d, w3, e3, e2⟩ := bind_ok e2
    obtain ⟨f2, rfl⟩ := of_ok e2
    refine ⟨envi, wi, d, _, b1, Ii.E, Ii.O, e3, f2, fun H1 k1 O1 => ?_⟩
    have on1 : Onto (S.cc σi envi) (S.cc σi envi) Hi H1 := .keep Ii.O k1
    cases b1 with
    | false =>
      rw [if_neg Bool.false_ne_true] at ew
      show if false = true then _ else _
      rw [if_neg Bool.false_ne_true]
      obtain ⟨rfl, rfl⟩ := ok_ok ew
      exact P _ _ (Ii.keep k1 O1) (on.trans on1)
    | true =>
      rw [if_pos rfl] at ew
      show if true = true then _ else _
      rw [if_pos rfl]
      obtain ⟨r1, w4, e4, ew⟩ := bind_ok ew
      refine ⟨fun σ' H' => ∃ envi wi, Sin S H0 σ' envi H' wi ∧ Onto (S.cc σ env) (S.cc σ' envi) H H' ∧ whileR (fun env => M.bind (ev cl gl c true env) fun x => M.of (truth x)) (fun env => evSts fr cl gl body env) m envi wi = .ok r ws', fun σ' H' h => ⟨m, Nat.lt_succ_self m, h⟩, envi, _, r1, w4, Ii.keep k1 O1, e4, ?_⟩
      cases r1 with
      | next env3 => exact fun σ3 H3 I3 o3 => ⟨env3, w4, I3, (on.trans on1).trans o3, ew⟩
      | ret d b =>
        obtain ⟨rfl, rfl⟩ := ok_ok ew
        exact P
theorem Sin.freeze {σ : L2.St} {env : SEnv} {H : Hp} {ws : WS} (I : Sin S H0 σ env H ws) {i : Nat} {d : D} (e : env[i]? = some (.own d)) : Sin S H0 σ (env.set i (.imm d)) H ws ∧ Onto (S.cc σ env) (S.cc σ (env.set i (.imm d))) H H := by
  obtain ⟨p, xs, ds, hv, rfl, hp, l, no⟩ := I.E.own i d e
  have es : σ.set i (some (.ref p)) = σ := by
    obtain ⟨hlt, hq⟩ := List.getElem?_eq_some_iff.mp hv
    rw [← hq, List.set_getElem_self]
  have oo : ∀ a, ownAt σ (env.set i (.imm (.lst ds))) a → ownAt σ env a ∧ a ≠ p := fun a z => by
    obtain ⟨j, c, h1, h2⟩ := z
    have nj : i ≠ j := fun q => by
      subst q
      rw [List.getElem?_set_self (List.getElem?_eq_some_iff.mp e).1] at h1
      cases h1
    rw [List.getElem?_set_ne nj] at h1
    exact ⟨⟨j, c, h1, h2⟩, fun q => by subst q; exact nj (I.E.inj i j _ _ a e h1 hv h2)⟩
  have ho : ∀ a, (S.cc σ (env.set i (.imm (.lst ds)))).O a → (S.cc σ env).O a := fun a z => z.elim .inl fun z => .inr (oo a z).1
  have np : ¬ (S.cc σ (env.set i (.imm (.lst ds)))).O p := fun z => z.elim no fun z => (oo p z).2 rfl
  have hi : i < env.length := (List.getElem?_eq_some_iff.mp e).1
  refine ⟨⟨⟨by rw [List.length_set]; exact I.E.len, fun j c hj => ?_, fun j c hj => ?_, fun j c hj => ?_, fun j k c c' a h1 h2 h3 h4 => ?_, I.E.wo, I.E.bo⟩, I.O.less ho rfl fun w ew => ⟨.inl (I.E.wo w ew).1, .inl (I.E.wo w ew).2⟩, I.kp, fun a z => I.nw a (oo a z).1⟩, onto_less ho⟩
  · by_cases q : i = j
    · subst q
      rw [List.getElem?_set_self hi] at hj
      cases hj
      exact ⟨_, hv, .lst hp np (l.less ho rfl rfl)⟩
    · rw [List.getElem?_set_ne q] at hj
      obtain ⟨v, h1, h2⟩ := I.E.imm j c hj
      exact ⟨v, h1, h2.less ho rfl rfl⟩
  · have q : i ≠ j := fun q => by
      subst q
      rw [List.getElem?_set_self hi] at hj
      cases hj
    rw [List.getElem?_set_ne q] at hj
    obtain ⟨a, zs, es', h1, h2, h3, h4, h5⟩ := I.E.own j c hj
    exact ⟨a, zs, es', h1, h2, h3, h4.less ho rfl rfl, h5⟩
  · have q : i ≠ j := fun q => by
      subst q
      rw [List.getElem?_set_self hi] at hj
      cases hj
    rw [List.getElem?_set_ne q] at hj
    obtain ⟨a, zs, es', h1, h2, h3, h4, h5, h6⟩ := I.E.bor j c hj
    exact ⟨a, zs, es', h1, h2, h3, h4.less ho rfl rfl, h5, h6⟩
  · have g : ∀ {j : Nat} {c : D}, (env.set i (.imm (.lst ds)))[j]? = some (.own c) → env[j]? = some (.own c) := fun {j c} hj => by
      have q : i ≠ j := fun q => by
        subst q
        rw [List.getElem?_set_self hi] at hj
        cases hj
      rw [List.getElem?_set_ne q] at hj
      exact hj
    exact I.E.inj j k _ _ a (g h1) (g h2) h3 h4
theorem ss_freeze {i : Nat} {r : List St} {ss : List Stmt} (h : PSs X ss (tSts S fr cl gl H0 r)) : PSs X ss (tSts S fr cl gl H0 (.freeze i :: r)) := PSs.imp h fun Dd σ H z => by
  obtain ⟨env, ws, r1, ws', I, e, P⟩ := z
  rw [evSts] at e
  obtain ⟨f, w1, e1, e⟩ := bind_ok e
  rw [evSt] at e1
  cases hd : env[i]? with
  | none => rw [hd] at e1; exact (stuck_ok (w := ws) e1).elim
  | some sl =>
    rw [hd] at e1
    cases sl with
    | own d =>
      obtain ⟨rfl, rfl⟩ := ok_ok e1
      obtain ⟨q1, q2⟩ := I.freeze hd
      exact ⟨_, _, r1, ws', q1, e, P.onto q2 rfl rfl⟩
    | _ => exact (stuck_ok (w := ws) e1).elim
theorem ss_nil : PSs X [] (tSts S fr cl gl H0 []) := PSs.imp pss_nil fun Dd σ H z => by
  obtain ⟨env, ws, r1, ws', I, e, P⟩ := z
  rw [evSts] at e
  obtain ⟨rfl, rfl⟩ := ok_ok e
  exact P σ H I .refl
theorem ss_cons {s : St} {r : List St} {x : Stmt} {xs : List Stmt} (h1 : PS X x (tSt S fr cl gl H0 s)) (h2 : PSs X xs (tSts S fr cl gl H0 r)) : PSs X (x :: xs) (tSts S fr cl gl H0 (s :: r)) := PSs.imp (pss_cons h1 h2) fun Dd σ H z => by
  obtain ⟨env, ws, r1, ws', I, e, P⟩ := z
  rw [evSts] at e
  obtain ⟨f, w1, e1, e⟩ := bind_ok e
  refine ⟨env, ws, f, w1, I, e1, ?_⟩
  cases f with
  | next env' => exact fun σ' H' I' on => ⟨env', w1, r1, ws', I', e, P.onto on rfl rfl⟩
  | ret d b =>
    obtain ⟨rfl, rfl⟩ := ok_ok e
    exact P
mutual
theorem sound_st (g : GX n S fr cl gl k X) : ∀ (s : St) (x : Stmt), chkSt n k s x = true → PS X x (tSt S fr cl gl H0 s)
  | .pass, x, h => by
    unfold chkSt at h
    split at h
    · exact st_pass
    · cases h
  | .expr e, x, h => by
    unfold chkSt at h
    split at h
    · simp only [Bool.and_eq_true] at h
      exact st_expr h.2 ((sound e g _ h.1).1 true)
    · cases h
  | .ret e, x, h => by
    unfold chkSt at h
    split at h
    · exact st_ret ((sound e g _ h).1 false)
    · cases h
  | .retOwn i, x, h => by
    unfold chkSt at h
    split at h
    · simp only [Bool.and_eq_true, decide_eq_true_eq] at h
      exact st_retOwn g h.1.1 h.1.2 h.2
    · cases h
  | .retN, x, h => by
    unfold chkSt at h
    split at h
    · exact st_retN
    · cases h
  | .asg i e, x, h => by
    unfold chkSt at h
    split at h
    · simp only [Bool.and_eq_true, nmB, decide_eq_true_eq] at h
      exact st_asg g h.1.1 h.1.2 h.2
    · cases h
  | .asgOwn i e, x, h => by
    unfold chkSt at h
    split at h
    · simp only [Bool.and_eq_true, nmB, decide_eq_true_eq] at h
      exact st_asgOwn g h.1.1 h.1.2 h.2
    · cases h
  | .par is es, x, h => by
    unfold chkSt at h
    split at h
    · simp only [Bool.and_eq_true, Bool.or_eq_true, Bool.not_eq_true', decide_eq_true_eq] at h
      exact st_par g h.1.1.1.1 h.1.1.1.2 h.1.1.2 h.1.2 h.2
    · cases h
  | .unp tg e, x, h => by
    unfold chkSt at h
    split at h
    · simp only [Bool.and_eq_true, Bool.not_eq_true'] at h
      exact st_unp g h.1.1.1 h.1.1.2 h.1.2 h.2
    · cases h
  | .aug i op e, x, h => by
    unfold chkSt at h
    split at h
    · simp only [Bool.and_eq_true, nmB, decide_eq_true_eq] at h
      obtain ⟨⟨⟨⟨rfl, h1⟩, h2⟩, h3⟩, h4⟩ := h
      exact st_aug g h1.1 h1.2 h4
    · cases h
  | .app i e, x, h => by
    unfold chkSt at h
    split at h
    · simp only [Bool.and_eq_true, beq_iff_eq, decide_eq_true_eq] at h
      obtain ⟨⟨⟨⟨⟨rfl, h1⟩, h2⟩, h3⟩, h4⟩, h5⟩ := h
      exact st_app g h1 h2 h3 h4 (by rw [h5]; exact beq_self_eq_true _)
    · cases h
  | .ext i e, x, h => by
    unfold chkSt at h
    split at h
    · simp only [Bool.and_eq_true, beq_iff_eq, decide_eq_true_eq] at h
      obtain ⟨⟨⟨⟨⟨rfl, h1⟩, h2⟩, h3⟩, h4⟩, h5⟩ := h
      exact st_ext g h1 h2 h3 h4 (by rw [h5]; exact beq_self_eq_true _)
    · cases h
  | .pop tg i, x, h => by
    unfold chkSt at h
    split at h
    · simp only [Bool.and_eq_true, beq_iff_eq, decide_eq_true_eq] at h
      obtain ⟨⟨⟨⟨⟨rfl, h1⟩, h2⟩, h3⟩, h4⟩, h5⟩ := h
      exact st_pop g h1 h2 h3 h4 (by rw [h5]; exact beq_self_eq_true _)
    · cases h
  | .put i j e, x, h => by
    unfold chkSt at h
    split at h
    · simp only [Bool.and_eq_true, decide_eq_true_eq] at h
      obtain ⟨⟨⟨⟨⟨h1, h2⟩, h3⟩, h4⟩, h5⟩, h6⟩ := h
      exact st_put g h1 h2 h3 h4 h5 h6
    · cases h
  | .ifs c a b, x, h => by
    unfold chkSt at h
    split at h
    · simp only [Bool.and_eq_true] at h
      exact st_if (sound c g _ h.1.1).2 (sound_sts g a _ h.1.2) (sound_sts g b _ h.2)
    · cases h
  | .fors tg src body, x, h => by
    unfold chkSt at h
    split at h
    · simp only [Bool.and_eq_true] at h
      exact st_for g h.1.1 h.1.2 (sound_sts g body _ h.2)
    · cases h
  | .whl c body, x, h => by
    unfold chkSt at h
    split at h
    · simp only [Bool.and_eq_true] at h
      exact st_while g (sound c g _ h.1).2 (sound_sts g body _ h.2)
    · cases h
  | .raise, x, h => PS.never fun Dd σ H z => by
      obtain ⟨env, ws, r, ws', I, e, P⟩ := z
      rw [evSt] at e
      exact (stuck_ok (w := ws) e).elim
  | .freeze i, x, h => by simp [chkSt] at h
theorem sound_sts (g : GX n S fr cl gl k X) : ∀ (s : List St) (x : List Stmt), chkSts n k s x = true → PSs X x (tSts S fr cl gl H0 s)
  | [], x, h => by
    cases x with
    | nil => exact ss_nil
    | cons y ys => simp [chkSts] at h
  | s :: r, x, h => by
    by_cases hf : ∃ i, s = .freeze i
    · obtain ⟨i, rfl⟩ := hf
      rw [chkSts] at h
      exact ss_freeze (sound_sts g r x h)
    · cases x with
      | nil => cases s <;> first | (simp [chkSts] at h; done) | exact absurd ⟨_, rfl⟩ hf
      | cons y ys =>
        have q : chkSt n k s y = true ∧ chkSts n k r ys = true := by
          rw [chkSts] at h
          · simpa only [Bool.and_eq_true] using h
          · exact fun i z => hf ⟨i, z⟩
        exact ss_cons (sound_st g s y q.1) (sound_sts g r ys q.2)
end
end
end Pc

set_option Elab.async false
set_option linter.all false
set_option maxRecDepth 100000
set_option maxHeartbeats 4000000
/-! # Soundness 14: defs -/
namespace Pc
open PySem L2 PyProof.Rows StX
/-- what stands behind the names of a linked text -/
structure Tab (P : Program) (w : World) (K : PySem.W.Frag) (mg : Str → Option Value) (base : Heap) (tb : Nat → Option Def) (gl : Nat → D) (fnN cnN : Nat → Option Str) (dr : Bool) (kd : Nat) : Prop where
  blt : ∀ x ∈ bltNames, mg x = none
  con : ∀ g x, cnN g = some x → ∃ u v, mg x = some u ∧ RelV v u ∧ ∀ C H, C.K = K → Den C H v (gl g)
  draw : dr = true → ∃ (ad : Addr) (fd : FuncData) (ps : List Str), mg dName = some (.ref ad) ∧ PySem.W.keepIn K (.ref ad) = true ∧ Binds K fd ps [] ∧ FnG P w K mg base kd ad fd ps (spDraw K)
  fn : ∀ f x, fnN f = some x → ∃ (d : Def) (ad : Addr) (fd : FuncData) (ps N : List Str) (qual : Str) (st : Stmt), tb f = some d ∧ mg x = some (.ref ad) ∧ FnP K x qual st ad fd ∧ Binds K fd ps [] ∧ FnScope N ps (defScope st) ∧
    N.length = d.slots ∧ ps.length = d.params ∧ chkSts ⟨N, fnN, cnN, dr⟩ ⟨defScope st, fun _ => true⟩ d.body (defBody st) = true
section
variable {C : Cc} {H : Hp}
theorem ArgsOk.get : ∀ {vs : List V} {as : List Sl} {i : Nat} {s : Sl}, ArgsOk C H vs as → as[i]? = some s → ∃ v, vs[i]? = some v ∧ ArgOk C H v s
  | _, _, _, _, .nil, e => by simp at e
  | _, _, 0, _, .cons h _, e => by simp at e; subst e; exact ⟨_, rfl, h⟩
  | _, _, i + 1, s, .cons _ t, e => by
    obtain ⟨v, h1, h2⟩ := ArgsOk.get (i := i) t (by simpa using e)
    exact ⟨v, by simpa using h1, h2⟩
theorem start_at {N : List Str} {vs : List V} {i : Nat} {v : V} (e : vs[i]? = some v) : (start N vs)[i]? = some (some v) := by
  unfold L2.start
  have hi := (List.getElem?_eq_some_iff.mp e).1
  rw [List.getElem?_append_left (by simpa using hi), List.getElem?_map, e]
  rfl
theorem env_at {d : Def} {as : List Sl} {i : Nat} {s : Sl} (e : (startEnv d as)[i]? = some s) (hs : s ≠ .un) : as[i]? = some s := by
  unfold startEnv at e
  by_cases hi : i < as.length
  · rw [List.getElem?_append_left hi] at e; exact e
  · rw [List.getElem?_append_right (by omega), List.getElem?_replicate] at e
    split at e
    · cases e; exact absurd rfl hs
    · cases e
/-- the frame at its start -/
theorem sin_start {d : Def} {N : List Str} {vs : List V} {as : List Sl} {ws : WS} (hN : N.length = d.slots) (ha : ArgsOk C H vs as) (ok : HpOk C H ws) (hc : ∀ w, C.wa = some w → C.O w.c) (hl : vs.length ≤ N.length) : Sin ⟨C.K, C.O, C.wa, C.O⟩ H (start N vs) (startEnv d as) H ws := by
  have no : ∀ a, ¬ ownAt (start N vs) (startEnv d as) a := fun a z => by
    obtain ⟨i, c, h1, h2⟩ := z
    obtain ⟨v, h3, h4⟩ := ha.get (env_at h1 (by intro z; cases z))
    cases h4
  have ho : ∀ a, (Sx.cc ⟨C.K, C.O, C.wa, C.O⟩ (start N vs) (startEnv d as)).O a → C.O a := fun a z => z.elim id fun z => absurd z (no a)
  have al := ha.length
  refine ⟨⟨?_, fun i c h => ?_, fun i c h => ?_, fun i c h => ?_, fun i j c c' a h1 h2 h3 h4 => ?_, ok.wo, fun _ z => z, hc⟩, ok.less ho rfl fun w ew => ⟨.inl (ok.wo w ew).1, .inl (ok.wo w ew).2⟩, Keep.refl _ _, fun a z => absurd z (no a)⟩
  · unfold startEnv L2.start
    rw [List.length_append, List.length_append, List.length_replicate, List.length_replicate, List.length_map, hN, ← al]
  · obtain ⟨v, h3, h4⟩ := ha.get (env_at h (by intro z; cases z))
    cases h4 with
    | imm h4 => exact ⟨v, start_at h3, h4.less ho rfl rfl⟩
  · obtain ⟨v, h3, h4⟩ := ha.get (env_at h (by intro z; cases z))
    cases h4
  · obtain ⟨v, h3, h4⟩ := ha.get (env_at h (by intro z; cases z))
    cases h4 with
    | bor h5 o nw l => exact ⟨_, _, _, start_at h3, rfl, h5, l.less ho rfl rfl, ⟨o, o⟩, nw⟩
  · exact absurd ⟨i, c, h1, h3⟩ (no a)
end
section
variable {P : Program} {w : World} {K : PySem.W.Frag} {mg : Str → Option Value} {base : Heap} {tb : Nat → Option Def} {gl : Nat → D} {fnN cnN : Nat → Option Str} {dr : Bool} {kd : Nat}
theorem Tab.calls (T : Tab P w K mg base tb gl fnN cnN dr kd) : ∀ (fuel : Nat) (f : Nat) (x : Str), fnN f = some x → ∃ (ad : Addr) (fd : FuncData) (ps : List Str), mg x = some (.ref ad) ∧ PySem.W.keepIn K (.ref ad) = true ∧ Binds K fd ps [] ∧
    FnG P w K mg base (kd + fuel) ad fd ps (spF K (freshOf tb f) ps.length (evCall tb gl fuel f)) ∧ ∀ as ws d ws', evCall tb gl fuel f as ws = .ok d ws' → as.length = ps.length := by
  intro fuel
  induction fuel with
  | zero =>
    intro f x h
    obtain ⟨d, ad, fd, ps, N, qual, st, hd, hm, F, hb, sc, h1, h2, h3⟩ := T.fn f x h
    exact ⟨ad, fd, ps, hm, F.kp, hb, ⟨fun vs H Q E ⟨C, as, ws, ws', d, _, _, e, _⟩ => e, fun A outer s H args us vs Q E _ _ _ _ _ ⟨C, as, ws, ws', d, _, _, _, _, _, e, _⟩ => (stuck_ok (w := ws) e).elim⟩, fun as ws d ws' e => (stuck_ok (w := ws) e).elim⟩
  | succ fuel ih =>
    intro f x h
    obtain ⟨d, ad, fd, ps, N, qual, st, hd, hm, F, hb, sc, h1, h2, h3⟩ := T.fn f x h
    have len : ∀ as ws dd ws', evCall tb gl (fuel + 1) f as ws = .ok dd ws' → as.length = ps.length := fun as ws dd ws' e => by
      rw [evCall, hd] at e
      simp only at e
      split at e
      · rename_i q; rw [h2]; exact q
      · exact (stuck_ok (w := ws) e).elim
    refine ⟨ad, fd, ps, hm, F.kp, hb, ?_, len⟩
    refine fnG_of (N := N) F sc (fun vs H Q E ⟨C, as, ws, ws', d, _, _, e, _⟩ => e) fun cdv A outer s H vs Q E hr hg hsp => ?_
    obtain ⟨C, as, ws, ws', dd, eK, hc, el, ha, ok, e, P'⟩ := hsp
    subst eK
    have g : GX ⟨N, fnN, cnN, dr⟩ ⟨C.K, C.O, C.wa, C.O⟩ (freshOf tb) (evCall tb gl fuel) gl ⟨defScope st, fun _ => true⟩ (cxOf CX0 P w C.K mg base N qual (defScope st) ad cdv A outer s H E).nox :=
      ⟨rfl, sc.nd, rfl, rfl, rfl, rfl, hg, (by have := hr.un; show (A.deeper (envOfC qual (defScope st) s.heap.objs.size ad cdv)).units + 80 < _; omega), .never, T.blt, T.con,
        fun f' x' hf => by
          obtain ⟨ad', fd', ps', q1, q2, q3, q4, q5⟩ := ih f' x' hf
          exact ⟨ad', fd', ps', kd + fuel, q1, q2, q3, hr, q4, q5⟩,
        fun hdr => by
          obtain ⟨ad', fd', ps', q1, q2, q3, q4⟩ := T.draw hdr
          exact ⟨ad', fd', ps', kd, q1, q2, q3, hr.mono (Nat.le_add_right _ _), q4⟩⟩
    refine ⟨_, sound_sts (H0 := H) g d.body (defBody st) h3, ?_⟩
    rw [evCall, hd] at e
    simp only at e
    split at e
    · rename_i q
      obtain ⟨r, w1, e1, e⟩ := bind_ok e
      have pl : ps.length ≤ N.length := by
        have := congrArg List.length sc.pre
        rw [List.length_take] at this
        omega
      refine ⟨startEnv d as, ws, r, w1, sin_start h1 ha ok hc (by rw [el]; exact pl), e1, ?_⟩
      have fo : freshOf tb f = d.fresh := by unfold freshOf; rw [hd]
      cases r with
      | next env' =>
        obtain ⟨rfl, rfl⟩ := ok_ok e
        exact fun σ' H' I' _ => P' .non H' I'.kp I'.c0 .non (by intro _ _ z; cases z)
      | ret x b =>
        simp only at e
        split at e
        · exact (stuck_ok (w := w1) e).elim
        · rename_i hf
          obtain ⟨rfl, rfl⟩ := ok_ok e
          refine fun v H' k1 O1 D1 f1 => P' v H' k1 O1 D1 fun q => f1 ?_
          rw [fo] at q
          rw [q] at hf
          cases b with
          | true => rfl
          | false => exact absurd rfl hf
    · exact (stuck_ok (w := ws) e).elim
end
end Pc

set_option Elab.async false
set_option linter.all false
set_option maxRecDepth 100000
set_option maxHeartbeats 4000000
/-! # The laws' own helpers, plain part -/
namespace Pc
/-! ### sizes -/
def Bnd (k : Nat) (i : Int) : Prop := i.natAbs < 2 ^ k
theorem Bnd.mono {a b : Nat} {i : Int} (h : Bnd a i) (l : a ≤ b) : Bnd b i := Nat.lt_of_lt_of_le h (Nat.pow_le_pow_right (by decide) l)
theorem Bnd.log {k : Nat} {i : Int} (h : Bnd k i) : i.natAbs.log2 ≤ k := by
  by_cases z : i.natAbs = 0
  · rw [z]; exact Nat.zero_le _
  · exact Nat.le_of_lt ((Nat.log2_lt z).mpr h)
theorem Bnd.add {a b : Nat} {i j : Int} (h : Bnd a i) (g : Bnd b j) : Bnd (a + b + 1) (i + j) := by
  unfold Bnd at *
  have h1 : 2 ^ a ≤ 2 ^ (a + b) := Nat.pow_le_pow_right (by decide) (Nat.le_add_right _ _)
  have h2 : 2 ^ b ≤ 2 ^ (a + b) := Nat.pow_le_pow_right (by decide) (Nat.le_add_left _ _)
  have h3 := Int.natAbs_add_le i j
  rw [Nat.pow_succ]
  omega
theorem Bnd.mul {a b : Nat} {i j : Int} (h : Bnd a i) (g : Bnd b j) : Bnd (a + b) (i * j) := by
  unfold Bnd at *
  rw [Int.natAbs_mul, Nat.pow_add]
  exact Nat.mul_lt_mul'' h g
theorem Bnd.of_log {i : Int} {k : Nat} (h : i.natAbs.log2 < k) : Bnd k i := by
  unfold Bnd
  by_cases z : i.natAbs = 0
  · rw [z]; exact Nat.two_pow_pos k
  · exact (Nat.log2_lt z).mp h
theorem Bnd.rng {i : Int} {k : Nat} (h0 : 0 ≤ i) (h : i < 2 ^ k) : Bnd k i := by
  unfold Bnd
  have : (i.natAbs : Int) = i := Int.natAbs_of_nonneg h0
  have h2 : ((2 ^ k : Nat) : Int) = (2 : Int) ^ k := by simp
  omega
/-! ### to run by simp -/
theorem ok_bind {α β : Type} (a : α) (f : α → M β) : M.bind (M.ok a) f = f a := rfl
theorem of_some {α : Type} (a : α) : M.of (some a) = M.ok a := rfl
theorem ok_at {α : Type} (a : α) (w : WS) : M.ok a w = .ok a w := rfl
theorem bin_add (i j : Int) : binFn .Add (.int i) (.int j) = some (.int (i + j)) := rfl
theorem bin_sub (i j : Int) : binFn .Sub (.int i) (.int j) = some (.int (i - j)) := rfl
theorem bin_mul {i j : Int} (h : i.natAbs.log2 + j.natAbs.log2 < 1000000) : binFn .Mult (.int i) (.int j) = some (.int (i * j)) := if_pos h
theorem bin_div {i j : Int} (h : 0 < j ∧ j.natAbs.log2 < 9000) : binFn .FloorDiv (.int i) (.int j) = some (.int (i / j)) := if_pos h
theorem bin_mod {i j : Int} (h : 0 < j) : binFn .Mod (.int i) (.int j) = some (.int (i % j)) := if_pos h
theorem bi_int (i : Int) : biFn .int [.int i] = some (.int i) := rfl
def c_mixed : Def := ⟨3, 2, false, [
  (.asg 2 (.bin .Add (.bin .Add (.bin .Mod (.bi .int (.cons (.bin .Mult (.bin .Mult (.var 0) (.bin .Add (.cst (.int 1)) (.bin .Mult (.cst (.int 2)) (.var 1)))) (.cst (.int 48271))) .nil)) (.cst (.int 2147483647))) (.bin .Mult (.bin .Mult (.cst (.int 7919)) (.var 1)) (.var 1))) (.bin .Mult (.cst (.int 104729)) (.var 1)))),
  (.ret (.bin .FloorDiv (.bin .Mod (.bi .int (.cons (.bin .Mult (.var 2) (.cst (.int 69621))) .nil)) (.cst (.int 2147483629))) (.cst (.int 7))))]⟩
theorem mixed_ev {tb : Nat → Option Def} {gl : Nat → D} {f fuel : Nat} (h : tb f = some c_mixed) {c m : Int} (hc : Bnd 200050 c) (hm : Bnd 200050 m) (ws : WS) : evCall tb gl (fuel + 1) f [.imm (.int c), .imm (.int m)] ws = .ok (.int (mixed c m)) ws := by
  have b1 : Bnd 1 (1 : Int) := by unfold Bnd; decide
  have b2 : Bnd 2 (2 : Int) := by unfold Bnd; decide
  have b3 : Bnd 16 (48271 : Int) := by unfold Bnd; decide
  have b4 : Bnd 13 (7919 : Int) := by unfold Bnd; decide
  have b5 : Bnd 17 (104729 : Int) := by unfold Bnd; decide
  have b6 : Bnd 17 (69621 : Int) := by unfold Bnd; decide
  have m1 := b2.mul hm
  have m2 := b1.add m1
  have m3 := hc.mul m2
  have m4 := b4.mul hm
  have m5 := m4.mul hm
  have m6 := b5.mul hm
  have m7 : Bnd 31 ((c * (1 + 2 * m) * 48271) % 2147483647) := .rng (Int.emod_nonneg _ (by decide)) (Int.lt_trans (Int.emod_lt_of_pos _ (by decide)) (by decide))
  have m8 := (m7.add m5).add m6
  have k1 : (2 : Int).natAbs.log2 + m.natAbs.log2 < 1000000 := by have := b2.log; have := hm.log; omega
  have k2 : c.natAbs.log2 + (1 + 2 * m).natAbs.log2 < 1000000 := by have := hc.log; have := m2.log; omega
  have k3 : (c * (1 + 2 * m)).natAbs.log2 + (48271 : Int).natAbs.log2 < 1000000 := by have := m3.log; have := b3.log; omega
  have k4 : (7919 : Int).natAbs.log2 + m.natAbs.log2 < 1000000 := by have := b4.log; have := hm.log; omega
  have k5 : (7919 * m).natAbs.log2 + m.natAbs.log2 < 1000000 := by have := m4.log; have := hm.log; omega
  have k6 : (104729 : Int).natAbs.log2 + m.natAbs.log2 < 1000000 := by have := b5.log; have := hm.log; omega
  have k7 : (c * (1 + 2 * m) * 48271 % 2147483647 + 7919 * m * m + 104729 * m).natAbs.log2 + (69621 : Int).natAbs.log2 < 1000000 := by have := m8.log; have := b6.log; omega
  rw [evCall, h]
  have d1 : (0 : Int) < 2147483647 := by decide
  have d2 : (0 : Int) < 2147483629 := by decide
  have d3 : (0 : Int) < 7 ∧ (7 : Int).natAbs.log2 < 9000 := by decide
  simp only [c_mixed, startEnv, evSts, evSt, ev, evAs, ok_bind, of_some, bin_add, bin_mul k1, bin_mul k2, bin_mul k3, bin_mul k4, bin_mul k5, bin_mul k6, bin_mul k7, bin_mod d1, bin_mod d2, bin_div d3, bi_int, List.getElem?_cons_zero, List.getElem?_cons_succ, List.length_cons, List.length_nil, List.replicate, List.cons_append, List.nil_append, List.set_cons_succ, List.set_cons_zero, freshEx, if_true, Nat.reduceAdd, Nat.reduceSub, Nat.reduceLT, Bool.false_and, Bool.false_eq_true, if_false, ok_at]
  simp only [↓reduceIte]
  rfl
/-! ### the cells -/
def CellsOk (cells : List Int) : Prop := cells.length = 64 ∧ ∀ c ∈ cells, 0 ≤ c ∧ c < 2147483647
theorem CellsOk.at {cells : List Int} (h : CellsOk cells) {j : Int} (h0 : 0 ≤ j) (h1 : j < 64) : ∃ c, cells[j.toNat]? = some c ∧ 0 ≤ c ∧ c < 2147483647 := by
  have hl : j.toNat < cells.length := by rw [h.1]; omega
  exact ⟨cells[j.toNat], by simp [hl], h.2 _ (List.getElem_mem hl)⟩
theorem CellsOk.set {cells : List Int} (h : CellsOk cells) (p : Nat) {v : Int} (h0 : 0 ≤ v) (h1 : v < 2147483647) : CellsOk (cells.set p v) := by
  refine ⟨by rw [List.length_set]; exact h.1, fun c hc => ?_⟩
  rcases List.mem_or_eq_of_mem_set hc with z | z
  · exact h.2 c z
  · rw [z]; exact ⟨h0, h1⟩
theorem place_in {m : Nat} {j : Int} (h0 : 0 ≤ j) (h1 : j < m) : place m j = some j.toNat := by
  unfold place
  rw [if_pos h0, if_pos h1]
theorem idx_ints {cells : List Int} {j c : Int} (h0 : 0 ≤ j) (h1 : j < cells.length) (e : cells[j.toNat]? = some c) : idxFn (.lst (cells.map .int)) (.int j) = some (.int c) := by
  show ((place (cells.map D.int).length j).bind fun p => (cells.map D.int)[p]?) = _
  rw [List.length_map, place_in h0 h1]
  show (cells.map D.int)[j.toNat]? = _
  rw [List.getElem?_map, e]
  rfl
def c_folded : Def := ⟨4, 1, true, [
  (.asgOwn 1 (.comp (.bin .Add (.cst (.int 17)) (.var 2)) (.nm 2) [2] (.rng1 (.cst (.int 64))) .nil)),
  (.fors (.tp [(.nm 2), (.nm 3)]) (.enu (.var 0)) [(.put 1 (.bin .Mod (.bi .int (.cons (.var 2) .nil)) (.cst (.int 64))) (.bin .Mod (.bi .int (.cons (.bin .Add (.bin .Mult (.idx (.var 1) (.bin .Mod (.bi .int (.cons (.var 2) .nil)) (.cst (.int 64)))) (.cst (.int 48271))) (.var 3)) .nil)) (.cst (.int 2147483647))))]),
  (.fors (.nm 2) (.rng2 (.cst (.int 1)) (.cst (.int 64))) [(.put 1 (.var 2) (.bin .Mod (.bi .int (.cons (.bin .Add (.idx (.var 1) (.var 2)) (.bin .Mult (.idx (.var 1) (.bin .Sub (.var 2) (.cst (.int 1)))) (.cst (.int 16807)))) .nil)) (.cst (.int 2147483647))))]),
  (.retOwn 1)]⟩
theorem small_log {c : Int} (h0 : 0 ≤ c) (h1 : c < 2147483647) {k : Int} (hk : Bnd 20 k) : c.natAbs.log2 + k.natAbs.log2 < 1000000 := by
  have a := (Bnd.rng (k := 31) h0 (Int.lt_trans h1 (by decide))).log
  have b := hk.log
  omega
section
variable (fr : Nat → Bool) (cl : Nat → List Sl → M D) (gl : Nat → D)
theorem fold1 (s : List Int) : ∀ (is : List Int) (k : Int) (cells : List Int) (a b : Sl) (ws : WS), 0 ≤ k → CellsOk cells → ∃ cells' a' b', CellsOk cells' ∧
    forR (fun d env => M.bind (M.of (bindTg (.tp [(.nm 2), (.nm 3)]) d env)) fun env' => evSts fr cl gl [(.put 1 (.bin .Mod (.bi .int (.cons (.var 2) .nil)) (.cst (.int 64))) (.bin .Mod (.bi .int (.cons (.bin .Add (.bin .Mult (.idx (.var 1) (.bin .Mod (.bi .int (.cons (.var 2) .nil)) (.cst (.int 64)))) (.cst (.int 48271))) (.var 3)) .nil)) (.cst (.int 2147483647))))] env')
      (enumL k (is.map .int)) [.imm (.scr s), .own (.lst (cells.map .int)), a, b] ws = .ok (.next [.imm (.scr s), .own (.lst (cells'.map .int)), a', b']) ws
  | [], k, cells, a, b, ws, hk, h => ⟨cells, a, b, h, rfl⟩
  | i :: is, k, cells, a, b, ws, hk, h => by
    have j0 : 0 ≤ k % 64 := Int.emod_nonneg _ (by decide)
    have j1 : k % 64 < 64 := Int.emod_lt_of_pos _ (by decide)
    obtain ⟨c, hc, c0, c1⟩ := h.at j0 j1
    have v0 : 0 ≤ (c * 48271 + i) % 2147483647 := Int.emod_nonneg _ (by decide)
    have v1 : (c * 48271 + i) % 2147483647 < 2147483647 := Int.emod_lt_of_pos _ (by decide)
    obtain ⟨cells', a', b', h', e'⟩ := fold1 s is (k + 1) (cells.set (k % 64).toNat ((c * 48271 + i) % 2147483647)) (.imm (.int k)) (.imm (.int i)) ws (by omega) (h.set _ v0 v1)
    refine ⟨cells', a', b', h', ?_⟩
    have d1 : (0 : Int) < 2147483647 := by decide
    have d2 : (0 : Int) < 64 := by decide
    have k1 := small_log c0 c1 (k := 48271) (by unfold Bnd; decide)
    have hl : (k % 64) < ((cells.map D.int).length : Nat) := by rw [List.length_map, h.1]; exact j1
    have bt : bindTg (.tp [(.nm 2), (.nm 3)]) (.tup [.int k, .int i]) [.imm (.scr s), .own (.lst (cells.map .int)), a, b] = some [.imm (.scr s), .own (.lst (cells.map .int)), .imm (.int k), .imm (.int i)] := rfl
    have go : ∀ ds : List D, getOwn [.imm (.scr s), .own (.lst ds), .imm (.int k), .imm (.int i)] 1 = some ds := fun _ => rfl
    rw [List.map_cons, enumL, forR]
    simp only [bt, evSts, evSt, ev, evAs, ok_bind, of_some, bin_add, bin_mul k1, bin_mod d1, bin_mod d2, bi_int, idx_ints j0 (by rw [h.1]; exact j1) hc, go, place_in j0 hl, List.getElem?_cons_zero, List.getElem?_cons_succ, List.set_cons_succ, List.set_cons_zero, if_true]
    rw [← List.map_set] at *
    exact e'
theorem fold2 (s : List Int) : ∀ (c : Nat) (k : Int) (cells : List Int) (a b : Sl) (ws : WS), 1 ≤ k → k + c ≤ 64 → CellsOk cells → ∃ cells' a', CellsOk cells' ∧
    forR (fun d env => M.bind (M.of (bindTg (.nm 2) d env)) fun env' => evSts fr cl gl [(.put 1 (.var 2) (.bin .Mod (.bi .int (.cons (.bin .Add (.idx (.var 1) (.var 2)) (.bin .Mult (.idx (.var 1) (.bin .Sub (.var 2) (.cst (.int 1)))) (.cst (.int 16807)))) .nil)) (.cst (.int 2147483647))))] env')
      (rangeL k c) [.imm (.scr s), .own (.lst (cells.map .int)), a, b] ws = .ok (.next [.imm (.scr s), .own (.lst (cells'.map .int)), a', b]) ws
  | 0, k, cells, a, b, ws, _, _, h => ⟨cells, a, h, rfl⟩
  | c + 1, k, cells, a, b, ws, hk, hk2, h => by
    obtain ⟨c1, hc1, c10, c11⟩ := h.at (j := k) (by omega) (by omega)
    obtain ⟨c2, hc2, c20, c21⟩ := h.at (j := k - 1) (by omega) (by omega)
    have v0 : 0 ≤ (c1 + c2 * 16807) % 2147483647 := Int.emod_nonneg _ (by decide)
    have v1 : (c1 + c2 * 16807) % 2147483647 < 2147483647 := Int.emod_lt_of_pos _ (by decide)
    obtain ⟨cells', a', h', e'⟩ := fold2 s c (k + 1) (cells.set k.toNat ((c1 + c2 * 16807) % 2147483647)) (.imm (.int k)) b ws (by omega) (by omega) (h.set _ v0 v1)
    refine ⟨cells', a', h', ?_⟩
    have d1 : (0 : Int) < 2147483647 := by decide
    have k1 := small_log c20 c21 (k := 16807) (by unfold Bnd; decide)
    have hl : k < ((cells.map D.int).length : Nat) := by rw [List.length_map, h.1]; omega
    have bt : bindTg (.nm 2) (.int k) [.imm (.scr s), .own (.lst (cells.map .int)), a, b] = some [.imm (.scr s), .own (.lst (cells.map .int)), .imm (.int k), b] := rfl
    have go : ∀ ds : List D, getOwn [.imm (.scr s), .own (.lst ds), .imm (.int k), b] 1 = some ds := fun _ => rfl
    rw [rangeL, forR]
    simp only [bt, evSts, evSt, ev, evAs, ok_bind, of_some, bin_add, bin_sub, bin_mul k1, bin_mod d1, bi_int, idx_ints (show 0 ≤ k by omega) (by rw [h.1]; omega) hc1, idx_ints (show 0 ≤ k - 1 by omega) (by rw [h.1]; omega) hc2, go, place_in (show 0 ≤ k by omega) hl, List.getElem?_cons_zero, List.getElem?_cons_succ, List.set_cons_succ, List.set_cons_zero, if_true]
    rw [← List.map_set] at *
    exact e'
end
def seed64 : List Int := (List.range 64).map fun (i : Nat) => 17 + (i : Int)
theorem seed_ok : CellsOk seed64 := by
  unfold CellsOk seed64
  decide
theorem folded_ev {tb : Nat → Option Def} {gl : Nat → D} {f fuel : Nat} (h : tb f = some c_folded) (is : List Int) (ws : WS) : ∃ cells, CellsOk cells ∧ evCall tb gl (fuel + 1) f [.imm (.scr is)] ws = .ok (.lst (cells.map .int)) ws := by
  obtain ⟨c1, a1, b1, h1, e1⟩ := fold1 (freshOf tb) (evCall tb gl fuel) gl is is 0 seed64 .un .un ws (by decide) seed_ok
  obtain ⟨c2, a2, h2, e2⟩ := fold2 (freshOf tb) (evCall tb gl fuel) gl is 63 1 c1 a1 b1 ws (by decide) (by decide) h1
  refine ⟨c2, h2, ?_⟩
  have e0 : evSt (freshOf tb) (evCall tb gl fuel) gl (.asgOwn 1 (.comp (.bin .Add (.cst (.int 17)) (.var 2)) (.nm 2) [2] (.rng1 (.cst (.int 64))) .nil)) [.imm (.scr is), .un, .un, .un] ws = .ok (.next [.imm (.scr is), .own (.lst (seed64.map .int)), .un, .un]) ws := by rfl
  have g1 : evSt (freshOf tb) (evCall tb gl fuel) gl (.fors (.tp [(.nm 2), (.nm 3)]) (.enu (.var 0)) [(.put 1 (.bin .Mod (.bi .int (.cons (.var 2) .nil)) (.cst (.int 64))) (.bin .Mod (.bi .int (.cons (.bin .Add (.bin .Mult (.idx (.var 1) (.bin .Mod (.bi .int (.cons (.var 2) .nil)) (.cst (.int 64)))) (.cst (.int 48271))) (.var 3)) .nil)) (.cst (.int 2147483647))))]) [.imm (.scr is), .own (.lst (seed64.map .int)), .un, .un] ws = .ok (.next [.imm (.scr is), .own (.lst (c1.map .int)), a1, b1]) ws := by
    rw [evSt]; exact e1
  have g2 : evSt (freshOf tb) (evCall tb gl fuel) gl (.fors (.nm 2) (.rng2 (.cst (.int 1)) (.cst (.int 64))) [(.put 1 (.var 2) (.bin .Mod (.bi .int (.cons (.bin .Add (.idx (.var 1) (.var 2)) (.bin .Mult (.idx (.var 1) (.bin .Sub (.var 2) (.cst (.int 1)))) (.cst (.int 16807)))) .nil)) (.cst (.int 2147483647))))]) [.imm (.scr is), .own (.lst (c1.map .int)), a1, b1] ws = .ok (.next [.imm (.scr is), .own (.lst (c2.map .int)), a2, b1]) ws := by
    rw [evSt]; exact e2
  have st : ∀ {s : St} {r : List St} {env env' : SEnv} {fr : Nat → Bool} {cl : Nat → List Sl → M D}, evSt fr cl gl s env ws = .ok (.next env') ws → evSts fr cl gl (s :: r) env ws = evSts fr cl gl r env' ws := fun {s r env env' fr cl} e => by
    rw [evSts]
    show (evSt fr cl gl s env ws).bind _ = _
    rw [e]
    rfl
  rw [evCall, h]
  show (if 1 = 1 then M.bind (evSts (freshOf tb) (evCall tb gl fuel) gl c_folded.body [.imm (.scr is), .un, .un, .un]) _ else _) ws = _
  simp only [↓reduceIte]
  show R.bind (evSts (freshOf tb) (evCall tb gl fuel) gl c_folded.body [.imm (.scr is), .un, .un, .un] ws) _ = _
  unfold c_folded
  rw [st e0, st g1, st g2]
  rfl
end Pc

set_option Elab.async false
set_option linter.all false
set_option maxRecDepth 100000
set_option maxHeartbeats 4000000
/-! # _law_draw -/
namespace Pc
open PySem L2 PyProof.Rows StX
/-! ### a frame that looks at one list of ints -/
def Sl1 (K : PySem.W.Frag) (p : Addr) : Sx := ⟨K, fun a => a = p, none, fun a => a = p⟩
def w0 : WS := ⟨[], [], 0⟩
inductive SlV (p : Addr) (ds : List D) : Option V → Sl → Prop where
  | un {x : Option V} : SlV p ds x .un
  | int {j : Int} : SlV p ds (some (.int j)) (.imm (.int j))
  | lst : SlV p ds (some (.ref p)) (.bor (.lst ds))
inductive SlVs (p : Addr) (ds : List D) : L2.St → SEnv → Prop where
  | nil : SlVs p ds [] []
  | cons {x : Option V} {xs : L2.St} {s : Sl} {ss : SEnv} (h : SlV p ds x s) (t : SlVs p ds xs ss) : SlVs p ds (x :: xs) (s :: ss)
theorem SlVs.len {p : Addr} {ds : List D} : ∀ {σ : L2.St} {env : SEnv}, SlVs p ds σ env → env.length = σ.length
  | _, _, .nil => rfl
  | _, _, .cons _ t => by simp [t.len]
theorem SlVs.get {p : Addr} {ds : List D} : ∀ {σ : L2.St} {env : SEnv} {i : Nat} {s : Sl}, SlVs p ds σ env → env[i]? = some s → ∃ x, σ[i]? = some x ∧ SlV p ds x s
  | _, _, _, _, .nil, e => by simp at e
  | _, _, 0, _, .cons h _, e => by simp at e; subst e; exact ⟨_, rfl, h⟩
  | _, _, i + 1, s, .cons _ t, e => by
    obtain ⟨x, h1, h2⟩ := SlVs.get (i := i) t (by simpa using e)
    exact ⟨x, by simpa using h1, h2⟩
section
variable {K : PySem.W.Frag} {p : Addr} {is : List Int} {σ : L2.St} {env : SEnv} {H : Hp}
theorem SlVs.no {ds : List D} (h : SlVs p ds σ env) (a : Addr) : ¬ ownAt σ env a := fun ⟨i, d, h1, _⟩ => by
  obtain ⟨x, _, q⟩ := h.get h1
  cases q
theorem env_ok (h : SlVs p (is.map .int) σ env) (hp : H p = some (.lst (is.map V.int))) : EnvOk (Sl1 K p) σ env H := by
  refine ⟨h.len, fun i d e => ?_, fun i d e => ?_, fun i d e => ?_, fun i j d d' a h1 _ h3 _ => absurd ⟨i, d, h1, h3⟩ (h.no a), (fun w ew => nomatch ew), (fun a z => z), (fun w ew => nomatch ew)⟩
  · obtain ⟨x, h1, q⟩ := h.get e
    cases q
    exact ⟨_, h1, .int _⟩
  · obtain ⟨x, h1, q⟩ := h.get e
    cases q
  · obtain ⟨x, h1, q⟩ := h.get e
    cases q
    exact ⟨p, _, _, h1, rfl, hp, DenL.ofInts is, ⟨rfl, rfl⟩, fun w ew => by cases ew⟩
theorem hp_ok {ds : List D} (h : SlVs p ds σ env) {o : HO} (hp : H p = some o) : HpOk ((Sl1 K p).cc σ env) H w0 :=
  ⟨⟨fun w ew => nomatch ew⟩, fun a z => z.elim (fun q => ⟨o, by rw [show a = p from q]; exact hp⟩) fun z => absurd z (h.no a), fun w ew => nomatch ew⟩
/-- an expression of ints runs -/
theorem tE_int {fr : Nat → Bool} {cl : Nat → List Sl → M D} {gl : Nat → D} {a : Ex} {i : Int} {Q : VK} (h : SlVs p (is.map .int) σ env) (hp : H p = some (.lst (is.map V.int))) (e : ev cl gl a false env w0 = .ok (.int i) w0) (q : ∀ H', (∀ b o, H b = some o → H' b = some o) → Q (.int i) H') :
    exE K (fun S => tE S fr cl gl a false) σ H Q :=
  ⟨Sl1 K p, rfl, env, w0, _, w0, env_ok h hp, hp_ok h hp, e, fun v H1 k1 O1 D1 _ => by
    cases D1.intV
    exact q H1 fun b o hb => k1 b o hb fun w ew => by cases ew⟩
theorem tT_bool {cl : Nat → List Sl → M D} {gl : Nat → D} {a : Ex} {c : Bool} {Q : Bool → Hp → Prop} (h : SlVs p (is.map .int) σ env) (hp : H p = some (.lst (is.map V.int))) (e : ev cl gl a true env w0 = .ok (.bool c) w0) (q : ∀ H', (∀ b o, H b = some o → H' b = some o) → Q c H') :
    exT K (fun S => tT S cl gl a) σ H Q :=
  ⟨Sl1 K p, rfl, env, w0, _, w0, c, env_ok h hp, hp_ok h hp, e, rfl, fun H1 k1 O1 => q H1 fun b o hb => k1 b o hb fun w ew => by cases ew⟩
end
/-! ### the text -/
def kCells : Str := Str.ofString "cells"
def kGreat : Str := Str.ofString "great"
def kSpot : Str := Str.ofString "spot"
def Nd : List Str := [Str.ofString "_law_m", Str.ofString "_law_limit", Str.ofString "_law_n", Str.ofString "_law_lot", Str.ofString "_law_here", Str.ofString "_law_cell"]
section
variable (n : Nx) (k : Kx)
def ixIs (i : Nat) (key : Str) : Expr → Bool
  | .Subscript (.Name y _) (.Constant (.str z) _ _) _ => decide (n.N[i]? = some y) && visB k.sc y && plainN y && z == key
  | _ => false
def okGet (j i : Nat) (key : Str) : Stmt → Bool
  | .Assign [.Name x _] e _ => nmB n k i x && ixIs n k j key e
  | _ => false
def okPut (j : Nat) (key : Str) (a : Ex) : Stmt → Bool
  | .Assign [e] v _ => ixIs n k j key e && chk n k a v
  | _ => false
def okNe (j : Nat) (key : Str) : Expr → Bool
  | .Compare e [.NotEq] [.List [] _] _ => ixIs n k j key e
  | _ => false
end
def e5 : Ex := .bin .Mod (.bi .int (.cons (.var 2) .nil)) (.bi .len (.cons (.var 3) .nil))
def e6 : Ex := .idx (.var 3) (.var 4)
def e7 : Ex := .cmp .Gt (.var 5) (.cst (.int 0))
def e8 : Ex := .bin .FloorDiv (.var 5) (.var 1)
def e9 : Ex := .bin .Mod (.bi .int (.cons (.var 5) .nil)) (.var 1)
def e11 (im : Nat) : Ex := .bin .Mod (.bi .int (.cons (.call im (.cons (.call im (.cons (.bin .Add (.idx (.var 3) (.bin .Mod (.bi .int (.cons (.var 2) .nil)) (.cst (.int 64)))) (.bin .Mult (.cst (.int 31)) (.bin .FloorDiv (.var 2) (.cst (.int 64))))) (.cons (.var 2) .nil))) (.cons (.bin .Add (.var 2) (.cst (.int 7))) .nil))) .nil)) (.var 1)
def okDraw (n : Nx) (im : Nat) (k : Kx) : List Stmt → Bool
  | [s1, s2, .If t3 [s4, s5, s6, .If t7 [s8, s9] [] _] [] _, s10, s11] =>
    okGet n k 0 2 kSpot s1 && okPut n k 0 kSpot (.bin .Add (.var 2) (.cst (.int 1))) s2 && okNe n k 0 kGreat t3 && okGet n k 0 3 kGreat s4 && chkSt n k (.asg 4 e5) s5 && chkSt n k (.asg 5 e6) s6 && chk n k e7 t7 && chkSt n k (.put 3 (.var 4) e8) s8 &&
      chkSt n k (.ret e9) s9 && okGet n k 0 3 kCells s10 && chkSt n k (.ret (e11 im)) s11
  | _ => false
section
variable {n : Nx} {K : PySem.W.Frag} {fr : Nat → Bool} {cl : Nat → List Sl → M D} {gl : Nat → D} {k : Kx} {X : Cx}
/-- the context, whatever lists are looked at -/
abbrev GA (n : Nx) (K : PySem.W.Frag) (fr : Nat → Bool) (cl : Nat → List Sl → M D) (gl : Nat → D) (k : Kx) (X : Cx) : Prop := ∀ S : Sx, S.K = K → GX n S fr cl gl k X
def S0 (K : PySem.W.Frag) : Sx := Sl1 K 0
theorem p_ix (g : GA n K fr cl gl k X) {i : Nat} {key : Str} {e : Expr} (h : ixIs n k i key e = true) : PE X e (tDGet (tVar i) (tC (.str key))) := by
  have g := g (S0 K) rfl
  unfold ixIs at h
  split at h
  · simp only [Bool.and_eq_true, decide_eq_true_eq, beq_iff_eq] at h
    obtain ⟨⟨⟨h1, h2⟩, h3⟩, rfl⟩ := h
    obtain ⟨p1, p2, _⟩ := plain_parts h3
    exact pe_dget (by have := g.room; omega) (pe_var (g.name h1) (g.vis h2) p1 p2) pe_str fun _ _ => rfl
  · cases h
def tGet (j i : Nat) (key : Str) : TS := tAsg (tDGet (tVar j) (tC (.str key))) (gName i)
theorem ix_plain {i : Nat} {key : Str} {e : Expr} (h : ixIs n k i key e = true) : ∃ y p z q c r, e = .Subscript (.Name y p) (.Constant (.str z) q c) r := by
  unfold ixIs at h
  split at h
  · exact ⟨_, _, _, _, _, _, rfl⟩
  · cases h
theorem p_get (g : GA n K fr cl gl k X) {j i : Nat} {key : Str} {s : Stmt} (h : okGet n k j i key s = true) : PS X s (tGet j i key) := by
  unfold okGet at h
  split at h
  · simp only [Bool.and_eq_true, nmB, decide_eq_true_eq] at h
    obtain ⟨⟨h1, h2⟩, h3⟩ := h
    have pe := p_ix g h3
    obtain ⟨y, p, z, q, c, r, rfl⟩ := ix_plain h3
    have g := g (S0 K) rfl
    obtain ⟨l1, l2⟩ := g.loc h2
    exact ps_set g.ndN (g.name h1) l1 pe rfl l2
  · cases h
theorem p_put (g : GA n K fr cl gl k X) {j : Nat} {key : Str} {a : Ex} {s : Stmt} (h : okPut n k j key a s = true) : PS X s (sDPut (tVar j) (tC (.str key)) (exE K fun S => tE S fr cl gl a false)) := by
  unfold okPut at h
  split at h
  · rename_i e v pos
    simp only [Bool.and_eq_true] at h
    obtain ⟨h1, h2⟩ := h
    have pv : PE X v (exE K fun S => tE S fr cl gl a false) := PE.ex fun S e => (sound a (g S e) v h2).1 false
    unfold ixIs at h1
    split at h1
    · simp only [Bool.and_eq_true, decide_eq_true_eq, beq_iff_eq] at h1
      obtain ⟨⟨⟨q1, q2⟩, q3⟩, rfl⟩ := h1
      obtain ⟨p1, p2, _⟩ := plain_parts q3
      have g0 := g (S0 K) rfl
      exact ps_dput (by have := g0.room; omega) (pe_var (g0.name q1) (g0.vis q2) p1 p2) pe_str pv (by cases v <;> rfl)
    · cases h1
  · cases h
def tNe (K : PySem.W.Frag) (j : Nat) (key : Str) : TT := tTest (tOp (rC2 K (cmpFn .NotEq)) (tDGet (tVar j) (tC (.str key))) (tLst tNil))
theorem p_ne (g : GA n K fr cl gl k X) {j : Nat} {key : Str} {e : Expr} (h : okNe n k j key e = true) : PT X e (tNe K j key) := by
  unfold okNe at h
  split at h
  · have g0 := g (S0 K) rfl
    have eK : X.K = K := g0.K
    unfold tNe
    rw [← eK]
    exact pt_cmpR (op_cmp (X := X) .NotEq (by have := g0.room; omega)) (p_ix g h) (pe_lst pa_nil) rfl
  · cases h
abbrev tA (K : PySem.W.Frag) (fr : Nat → Bool) (cl : Nat → List Sl → M D) (gl : Nat → D) (i : Nat) (a : Ex) : TS := tAsg (exE K fun S => tE S fr cl gl a false) (gName i)
abbrev tR (K : PySem.W.Frag) (fr : Nat → Bool) (cl : Nat → List Sl → M D) (gl : Nat → D) (a : Ex) : TS := tRet (exE K fun S => tE S fr cl gl a false)
abbrev tPut (K : PySem.W.Frag) (fr : Nat → Bool) (cl : Nat → List Sl → M D) (gl : Nat → D) (i : Nat) (b a : Ex) : TS := tAsg (exE K fun S => tE S fr cl gl a false) (gSub (tVar i) (exE K fun S => tE S fr cl gl b false) rSetL)
theorem PS.exA {s : Stmt} {gg : TG} {t : Sx → TE} (h : ∀ S : Sx, S.K = K → PS X s (tAsg (t S) gg)) : PS X s (tAsg (exE K t) gg) := ⟨fun pins s σ H D I z => by
  obtain ⟨S, e, z⟩ := z
  exact (h S e).run pins s σ H D I z⟩
theorem p_asg (g : GA n K fr cl gl k X) {i : Nat} {a : Ex} {s : Stmt} (h : chkSt n k (.asg i a) s = true) : PS X s (tA K fr cl gl i a) := by
  unfold chkSt at h
  split at h
  · simp only [Bool.and_eq_true, nmB, decide_eq_true_eq] at h
    exact PS.exA fun S e => a_set (g S e) h.1.1 h.1.2 h.2
  · cases h
theorem p_ret (g : GA n K fr cl gl k X) {a : Ex} {s : Stmt} (h : chkSt n k (.ret a) s = true) : PS X s (tR K fr cl gl a) := by
  unfold chkSt at h
  split at h
  · exact ps_ret (PE.ex fun S e => (sound a (g S e) _ h).1 false)
  · cases h
theorem p_putL (g : GA n K fr cl gl k X) {i : Nat} {b a : Ex} {s : Stmt} (h : chkSt n k (.put i b a) s = true) : PS X s (tPut K fr cl gl i b a) := by
  unfold chkSt at h
  split at h
  · rename_i y py x sp v spos
    simp only [Bool.and_eq_true, decide_eq_true_eq] at h
    obtain ⟨⟨⟨⟨⟨h1, h2⟩, h3⟩, hx⟩, h⟩, ht⟩ := h
    obtain ⟨p1, p2, _⟩ := plain_parts h3
    have g0 := g (S0 K) rfl
    exact ps_asg (PE.ex fun S e => (sound a (g S e) v h).1 false) (pg_sub (pe_var (g0.name h1) (g0.vis h2) p1 p2) (PE.ex fun S e => (sound b (g S e) x hx).1 false) set_list (by
      intro u
      cases x <;> first | rfl | (exfalso; cases b <;> simp [chk] at hx))) (by cases v <;> rfl) (by cases v <;> rfl) rfl
  · cases h
def tDraw (K : PySem.W.Frag) (fr : Nat → Bool) (cl : Nat → List Sl → M D) (gl : Nat → D) (im : Nat) : TS :=
  tSeq (tGet 0 2 kSpot) (tSeq (sDPut (tVar 0) (tC (.str kSpot)) (exE K fun S => tE S fr cl gl (.bin .Add (.var 2) (.cst (.int 1))) false))
    (tSeq (tIfS (tNe K 0 kGreat) (tSeq (tGet 0 3 kGreat) (tSeq (tA K fr cl gl 4 e5) (tSeq (tA K fr cl gl 5 e6) (tSeq (tIfS (exT K fun S => tT S cl gl e7) (tSeq (tPut K fr cl gl 3 (.var 4) e8) (tSeq (tR K fr cl gl e9) tNext)) tNext) tNext)))) tNext)
      (tSeq (tGet 0 3 kCells) (tSeq (tR K fr cl gl (e11 im)) tNext))))
theorem PT.ex {e : Expr} {t : Sx → TT} (h : ∀ S : Sx, S.K = K → PT X e (t S)) : PT X e (exT K t) := ⟨fun pins s σ H Q I ⟨S, e, z⟩ => (h S e).run pins s σ H Q I z⟩
theorem p_draw (g : GA n K fr cl gl k X) {im : Nat} {body : List Stmt} (h : okDraw n im k body = true) : PSs X body (tDraw K fr cl gl im) := by
  unfold okDraw at h
  split at h
  · simp only [Bool.and_eq_true] at h
    obtain ⟨⟨⟨⟨⟨⟨⟨⟨⟨⟨h1, h2⟩, h3⟩, h4⟩, h5⟩, h6⟩, h7⟩, h8⟩, h9⟩, h10⟩, h11⟩ := h
    exact pss_cons (p_get g h1) (pss_cons (p_put g h2) (pss_cons (ps_if (p_ne g h3) (pss_cons (p_get g h4) (pss_cons (p_asg g h5) (pss_cons (p_asg g h6) (pss_cons (ps_if (PT.ex fun S e => (sound e7 (g S e) _ h7).2) (pss_cons (p_putL g h8) (pss_cons (p_ret g h9) pss_nil)) pss_nil) pss_nil)))) pss_nil)
      (pss_cons (p_get g h10) (pss_cons (p_ret g h11) pss_nil))))
  · cases h
end
end Pc

set_option Elab.async false
set_option linter.all false
set_option maxRecDepth 100000
set_option maxHeartbeats 4000000
/-! # _law_draw runs -/
namespace Pc
open PySem L2 PyProof.Rows StX
theorem toPys_ints : ∀ is : List Int, D.toPys (is.map D.int) = some (is.map PyData.int)
  | [] => rfl
  | i :: is => by
    rw [List.map_cons, D.toPys, toPys_ints is]
    rfl
theorem canLay_ints : ∀ is : List Int, PyData.canLayAll0 (is.map PyData.int) = true
  | [] => rfl
  | i :: is => by
    rw [List.map_cons]
    show (PyData.canLay0 (.int i) && PyData.canLayAll0 (is.map PyData.int)) = true
    rw [canLay_ints is]
    rfl
theorem shaped_ints (is : List Int) : PySem.SeqAt.shaped (.list (is.map PyData.int)) = true := by
  unfold PySem.SeqAt.shaped
  rw [Bool.and_eq_true]
  refine ⟨canLay_ints is, decide_eq_true ?_⟩
  show PyData.depthAll (is.map PyData.int) + 1 ≤ 64
  rw [depthI]
  decide
theorem ne_empty (is : List Int) : cmpFn .NotEq (.lst (is.map .int)) (.lst []) = some (!is.isEmpty) := by
  have e1 : D.toPy (.lst (is.map .int)) = some (.list (is.map PyData.int)) := by
    rw [D.toPy, toPys_ints]; rfl
  have e2 : D.toPy (.lst []) = some (.list []) := rfl
  have e3 : PySem.SeqAt.shaped (.list []) = true := shaped_ints []
  show (eqFn (.lst (is.map .int)) (.lst [])).map (!·) = _
  unfold eqFn
  simp only [e1, e2, shaped_ints, e3, Bool.and_self, if_true, Option.map_some]
  cases is with
  | nil => rfl
  | cons i is => rfl
/-! ### the world's dict -/
theorem keysNe : kStr kCells ≠ kStr kGreat ∧ kStr kCells ≠ kStr kSpot ∧ kStr kGreat ≠ kStr kSpot := by
  refine ⟨fun z => ?_, fun z => ?_, fun z => ?_⟩
  · exact absurd (Sum.inr.inj z) (by decide +kernel)
  · exact absurd (Sum.inr.inj z) (by decide +kernel)
  · exact absurd (Sum.inr.inj z) (by decide +kernel)
def kvs (w : Wa) (n : Int) : List (Key × V) := [(kStr kCells, .ref w.c), (kStr kGreat, .ref w.g), (kStr kSpot, .int n)]
theorem val_cells (w : Wa) (n : Int) : valV (kvs w n) (kStr kCells) = some (.ref w.c) := by
  unfold valV kvs
  simp
theorem val_great (w : Wa) (n : Int) : valV (kvs w n) (kStr kGreat) = some (.ref w.g) := by
  obtain ⟨h1, h2, h3⟩ := keysNe
  unfold valV kvs
  simp [h1]
theorem val_spot (w : Wa) (n : Int) : valV (kvs w n) (kStr kSpot) = some (.int n) := by
  obtain ⟨h1, h2, h3⟩ := keysNe
  unfold valV kvs
  simp [h2, h3]
theorem put_spot (w : Wa) (n m : Int) : putK (kvs w n) (kStr kSpot) (.int m) = kvs w m := by
  obtain ⟨h1, h2, h3⟩ := keysNe
  unfold putK kvs
  simp [h2, h3]
/-- the world's objects -/
structure Wd (H : Hp) (w : Wa) (cells great : List Int) (n : Int) : Prop where
  m : H w.m = some (.dK (kvs w n))
  g : H w.g = some (.lst (great.map V.int))
  c : H w.c = some (.lst (cells.map V.int))
theorem Wd.up {H H' : Hp} {w : Wa} {cells great : List Int} {n : Int} (h : Wd H w cells great n) (k : ∀ b o, H b = some o → H' b = some o) : Wd H' w cells great n := ⟨k _ _ h.m, k _ _ h.g, k _ _ h.c⟩
theorem Wd.ne {H : Hp} {w : Wa} {cells great : List Int} {n : Int} (h : Wd H w cells great n) : w.m ≠ w.g ∧ w.m ≠ w.c := by
  refine ⟨fun z => ?_, fun z => ?_⟩
  · have := h.m; rw [z, h.g] at this; cases this
  · have := h.m; rw [z, h.c] at this; cases this
theorem Wd.spot {H : Hp} {w : Wa} {cells great : List Int} {n m : Int} (h : Wd H w cells great n) : Wd (upd H w.m (.dK (kvs w m))) w cells great m :=
  ⟨upd_same, by rw [upd_ne (Ne.symm h.ne.1)]; exact h.g, by rw [upd_ne (Ne.symm h.ne.2)]; exact h.c⟩
theorem Wd.lot {H : Hp} {w : Wa} {cells great gr : List Int} {n : Int} (h : Wd H w cells great n) (ne : w.g ≠ w.c) : Wd (upd H w.g (.lst (gr.map V.int))) w cells gr n :=
  ⟨by rw [upd_ne h.ne.1]; exact h.m, upd_same, by rw [upd_ne (Ne.symm ne)]; exact h.c⟩
theorem get_of {H : Hp} {w : Wa} {n : Int} {k : Str} {v : V} (h : H w.m = some (.dK (kvs w n))) (e : valV (kvs w n) (kStr k) = some v) : DGet H w.m (.str k) (some v) := by
  have := DGet.k (k := kStr k) h
  rw [e] at this
  exact this
/-- x = m[key] -/
theorem run_get {j i : Nat} {key : Str} {D : Ends} {σ : L2.St} {H : Hp} {w : Wa} {n : Int} {v : V} (hs : σ[j]? = some (some (.ref w.m))) (h : H w.m = some (.dK (kvs w n))) (e : valV (kvs w n) (kStr key) = some v) (q : D.nx (σ.set i (some v)) H) : tGet j i key D σ H :=
  ⟨_, hs, w.m, v, rfl, get_of h e, q⟩
/-- m[great] != [] -/
theorem run_ne {K : PySem.W.Frag} {j : Nat} {σ : L2.St} {H : Hp} {w : Wa} {cells great : List Int} {n : Int} {Q : Bool → Hp → Prop} (hs : σ[j]? = some (some (.ref w.m))) (h : Wd H w cells great n) (q : ∀ H', (∀ b o, H b = some o → H' b = some o) → Q (!great.isEmpty) H') : tNe K j kGreat σ H Q := by
  refine ⟨_, hs, w.m, .ref w.g, rfl, get_of h.m (val_great w n), by decide, fun p np => ?_⟩
  have k1 : ∀ b o, H b = some o → upd H p (.lst []) b = some o := fun b o e => by rw [upd_ne (ne_of_none e np)]; exact e
  have pg : p ≠ w.g := fun z => by rw [z, h.g] at np; cases np
  exact ⟨⟨K, fun a => a = w.g, none⟩, w0, _, _, _, rfl, ⟨⟨fun w ew => nomatch ew⟩, fun a z => ⟨.lst (great.map V.int), by rw [show a = w.g from z]; exact k1 _ _ h.g⟩, fun w ew => nomatch ew⟩,
    .inr ⟨rfl, w.g, _, _, rfl, rfl, k1 _ _ h.g, DenL.ofInts great, fun w ew => nomatch ew⟩, .inl (.lst upd_same pg .nil), ne_empty great, _, rfl, q _ k1⟩
section
variable {K : PySem.W.Frag} {fr : Nat → Bool} {cl : Nat → List Sl → M D} {gl : Nat → D} {im : Nat}
theorem mixed_rng (c m : Int) : 0 ≤ mixed c m ∧ mixed c m < 2147483647 := by
  unfold mixed
  have h1 : ∀ x : Int, 0 ≤ x * 69621 % 2147483629 := fun x => Int.emod_nonneg _ (by decide)
  have h2 : ∀ x : Int, x * 69621 % 2147483629 < 2147483629 := fun x => Int.emod_lt_of_pos _ (by decide)
  have a := h1 ((c * (1 + 2 * m) * 48271) % 2147483647 + 7919 * m * m + 104729 * m)
  have b := h2 ((c * (1 + 2 * m) * 48271) % 2147483647 + 7919 * m * m + 104729 * m)
  simp only
  omega
theorem ev11 (hmix : ∀ c m, Bnd 200050 c → Bnd 200050 m → cl im [.imm (.int c), .imm (.int m)] = M.ok (.int (mixed c m))) {cells : List Int} {n l : Int} (hc : CellsOk cells) (hn0 : 0 ≤ n) (hn : Bnd 200000 n) (hl : 0 < l) :
    ev cl gl (e11 im) false [.un, .imm (.int l), .imm (.int n), .bor (.lst (cells.map .int)), .un, .un] w0 = .ok (.int (mixed (mixed (cells.getD (n % 64).toNat 0 + 31 * (n / 64)) n) (n + 7) % l)) w0 := by
  have j0 : 0 ≤ n % 64 := Int.emod_nonneg _ (by decide)
  have j1 : n % 64 < 64 := Int.emod_lt_of_pos _ (by decide)
  obtain ⟨c, ec, c0, c1⟩ := hc.at j0 j1
  have eg : cells.getD (n % 64).toNat 0 = c := by rw [List.getD_eq_getElem?_getD, ec]; rfl
  have q0 : Bnd 200000 (n / 64) := by
    unfold Bnd at *
    omega
  have b31 : Bnd 5 (31 : Int) := by unfold Bnd; decide
  have k1 : (31 : Int).natAbs.log2 + (n / 64).natAbs.log2 < 1000000 := by have := b31.log; have := q0.log; omega
  have bc : Bnd 31 c := .rng c0 (Int.lt_trans c1 (by decide))
  have b1 : Bnd 200050 (c + 31 * (n / 64)) := (bc.add (b31.mul q0)).mono (by decide)
  have b2 : Bnd 200050 n := hn.mono (by decide)
  have b3 : Bnd 200050 (n + 7) := (hn.add (show Bnd 3 (7 : Int) by unfold Bnd; decide)).mono (by decide)
  obtain ⟨m0, m1⟩ := mixed_rng (c + 31 * (n / 64)) n
  have b4 : Bnd 200050 (mixed (c + 31 * (n / 64)) n) := (Bnd.rng (k := 31) m0 (Int.lt_trans m1 (by decide))).mono (by decide)
  have d1 : (0 : Int) < 64 := by decide
  have d2 : (0 : Int) < 64 ∧ (64 : Int).natAbs.log2 < 9000 := by decide
  rw [eg]
  unfold e11
  simp only [ev, evAs, evArgs, ok_bind, of_some, bin_add, bin_mul k1, bin_mod d1, bin_div d2, bin_mod hl, bi_int, idx_ints j0 (by rw [hc.1]; exact j1) ec, hmix _ _ b1 b2, hmix _ _ b4 b3, List.getElem?_cons_zero, List.getElem?_cons_succ, if_true, ok_at]
end
end Pc

set_option Elab.async false
set_option linter.all false
set_option maxRecDepth 100000
set_option maxHeartbeats 4000000
/-! # _law_draw keeps its promise -/
namespace Pc
open PySem L2 PyProof.Rows StX
section
variable {K : PySem.W.Frag} {fr : Nat → Bool} {cl : Nat → List Sl → M D} {gl : Nat → D} {im : Nat}
theorem draw_tail (hmix : ∀ c m, Bnd 200050 c → Bnd 200050 m → cl im [.imm (.int c), .imm (.int m)] = M.ok (.int (mixed c m))) {w : Wa} {cells great : List Int} {n l : Int} {H : Hp} {D : Ends} {x3 x4 x5 : Option V} (hc : CellsOk cells) (hn0 : 0 ≤ n) (hn : Bnd 200000 n) (hl : 0 < l) (W : Wd H w cells great (n + 1))
    (q : ∀ H', (∀ b o, H b = some o → H' b = some o) → D.rt (.int (mixed (mixed (cells.getD (n % 64).toNat 0 + 31 * (n / 64)) n) (n + 7) % l)) H') :
    tSeq (tGet 0 3 kCells) (tSeq (tR K fr cl gl (e11 im)) tNext) D [some (.ref w.m), some (.int l), some (.int n), x3, x4, x5] H := by
  refine run_get rfl W.m (val_cells w _) ?_
  exact tE_int (p := w.c) (is := cells) (env := [.un, .imm (.int l), .imm (.int n), .bor (.lst (cells.map .int)), .un, .un]) (.cons .un (.cons .int (.cons .int (.cons .lst (.cons .un (.cons .un .nil)))))) W.c (ev11 hmix hc hn0 hn hl) q
theorem ev5 {great : List Int} {n l : Int} (hg : great ≠ []) : ev cl gl e5 false [.un, .imm (.int l), .imm (.int n), .bor (.lst (great.map .int)), .un, .un] w0 = .ok (.int (n % (great.length : Int))) w0 := by
  have d1 : (0 : Int) < (great.length : Int) := by
    have : great.length ≠ 0 := fun z => hg (List.length_eq_zero_iff.mp z)
    omega
  have e : biFn .len [.lst (great.map .int)] = some (.int (great.length : Nat)) := by
    show some (D.int ((great.map D.int).length : Nat)) = _
    rw [List.length_map]
  unfold e5
  simp only [ev, evAs, ok_bind, of_some, bi_int, e, bin_mod d1, List.getElem?_cons_zero, List.getElem?_cons_succ, if_true, ok_at]
theorem ev6 {great : List Int} {n l h c : Int} (h0 : 0 ≤ h) (h1 : h < great.length) (e : great[h.toNat]? = some c) : ev cl gl e6 false [.un, .imm (.int l), .imm (.int n), .bor (.lst (great.map .int)), .imm (.int h), .un] w0 = .ok (.int c) w0 := by
  unfold e6
  simp only [ev, ok_bind, of_some, idx_ints h0 h1 e, List.getElem?_cons_zero, List.getElem?_cons_succ, if_true, ok_at]
theorem ev7 {l n h c : Int} : ev cl gl e7 true [.un, .imm (.int l), .imm (.int n), .un, .imm (.int h), .imm (.int c)] w0 = .ok (.bool (decide (0 < c))) w0 := by
  have e : cmpFn .Gt (.int c) (.int 0) = some (decide (0 < c)) := rfl
  unfold e7
  simp only [ev, ok_bind, of_some, e, List.getElem?_cons_zero, List.getElem?_cons_succ, if_true, ok_at]
theorem ev8 {l n h c : Int} (hl : 0 < l ∧ l.natAbs.log2 < 9000) : ev cl gl e8 false [.un, .imm (.int l), .imm (.int n), .un, .imm (.int h), .imm (.int c)] w0 = .ok (.int (c / l)) w0 := by
  unfold e8
  simp only [ev, ok_bind, of_some, bin_div hl, List.getElem?_cons_zero, List.getElem?_cons_succ, if_true, ok_at]
theorem ev9 {l n h c : Int} (hl : 0 < l) : ev cl gl e9 false [.un, .imm (.int l), .imm (.int n), .un, .imm (.int h), .imm (.int c)] w0 = .ok (.int (c % l)) w0 := by
  unfold e9
  simp only [ev, evAs, ok_bind, of_some, bi_int, bin_mod hl, List.getElem?_cons_zero, List.getElem?_cons_succ, if_true, ok_at]
theorem ev4 {l n h c : Int} : ev cl gl (.var 4) false [.un, .imm (.int l), .imm (.int n), .un, .imm (.int h), .imm (.int c)] w0 = .ok (.int h) w0 := by
  simp only [ev, List.getElem?_cons_zero, List.getElem?_cons_succ, ok_at]
theorem ev2 {l n : Int} : ev cl gl (.bin .Add (.var 2) (.cst (.int 1))) false [.un, .imm (.int l), .imm (.int n), .un, .un, .un] w0 = .ok (.int (n + 1)) w0 := by
  simp only [ev, ok_bind, of_some, bin_add, List.getElem?_cons_zero, List.getElem?_cons_succ, if_true, ok_at]
theorem lim_log {l : Int} (h0 : 0 < l) (h1 : l ≤ 1000000000) : 0 < l ∧ l.natAbs.log2 < 9000 := by
  have := (Bnd.rng (k := 30) (Int.le_of_lt h0) (Int.lt_of_le_of_lt h1 (by decide))).log
  exact ⟨h0, by omega⟩
theorem draw_run (hmix : ∀ c m, Bnd 200050 c → Bnd 200050 m → cl im [.imm (.int c), .imm (.int m)] = M.ok (.int (mixed c m))) {vs : List V} {H : Hp} {Q : VK} {E : XK} (h : spDraw K vs H Q E) : tDraw K fr cl gl im { nx := fun _ H' => Q .non H', rt := Q } (start Nd vs) H := by
  obtain ⟨C, w, ws, ws', l, i, eK, ew, rfl, ok, hd, P⟩ := h
  obtain ⟨hm, hg, hcc, gc, cl64, cb, s0, gl63⟩ := ok.w.ok w ew
  have hC : CellsOk ws.cells := ⟨cl64, cb⟩
  unfold drawW at hd
  split at hd
  · rename_i hg0
    obtain ⟨l0, l1, hs⟩ := hg0
    have hn : Bnd 200000 ws.spot := .of_log hs
    have W0 : Wd H w ws.cells ws.great ws.spot := ⟨hm, hg, hcc⟩
    -- the end
    have fin : ∀ {Hf : Hp} {gr : List Int} {i' : Int}, some (i', (⟨ws.cells, gr, ws.spot + 1⟩ : WS)) = some (i, ws') → gr.length ≤ 63 → Wd Hf w ws.cells gr (ws.spot + 1) → (∀ a o, H a = some o → a ≠ w.m → a ≠ w.g → Hf a = some o) → Q (.int i') Hf := fun {Hf gr i'} e hlen W kk => by
      cases e
      have k1 : Keep C.wa H Hf := fun a o ea na => kk a o ea (na w ew).1 (na w ew).2
      refine P Hf k1 (ok.keep k1 ⟨fun w' ew' => ?_⟩)
      rw [ew] at ew'
      cases ew'
      exact ⟨W.m, W.g, W.c, gc, cl64, cb, by show 0 ≤ ws.spot + 1; omega, hlen⟩
    show tDraw K fr cl gl im _ [some (.ref w.m), some (.int l), none, none, none, none] H
    refine run_get rfl W0.m (val_spot w _) ?_
    refine tE_int (p := w.c) (is := ws.cells) (env := [.un, .imm (.int l), .imm (.int ws.spot), .un, .un, .un]) (.cons .un (.cons .int (.cons .int (.cons .un (.cons .un (.cons .un .nil)))))) W0.c ev2 fun H1 k1 => ?_
    have W1 := W0.up k1
    refine ⟨_, rfl, w.m, _, rfl, DPut.k (k := kStr kSpot) W1.m (by show 3 < sizeLine; decide), ?_⟩
    rw [put_spot]
    have W2 : Wd (upd H1 w.m (.dK (kvs w (ws.spot + 1)))) w ws.cells ws.great (ws.spot + 1) := W1.spot
    have kk2 : ∀ a o, H a = some o → a ≠ w.m → a ≠ w.g → upd H1 w.m (.dK (kvs w (ws.spot + 1))) a = some o := fun a o e n1 _ => by rw [upd_ne n1]; exact k1 a o e
    generalize upd H1 w.m (.dK (kvs w (ws.spot + 1))) = H2 at W2 kk2
    -- the last two statements
    have tail : ∀ {Hx : Hp} {x3 x4 x5 : Option V}, Wd Hx w ws.cells ws.great (ws.spot + 1) → (∀ a o, H2 a = some o → Hx a = some o) → ¬ (ws.great ≠ [] ∧ ws.great.getD (ws.spot % (ws.great.length : Int)).toNat 0 > 0) →
        tSeq (tGet 0 3 kCells) (tSeq (tR K fr cl gl (e11 im)) tNext) { nx := fun _ H' => Q .non H', rt := Q } [some (.ref w.m), some (.int l), some (.int ws.spot), x3, x4, x5] Hx := fun {Hx x3 x4 x5} Wx kx hno => by
      refine draw_tail hmix hC s0 hn l0 Wx fun H' k' => fin ?_ gl63 (Wx.up k') fun a o e n1 n2 => k' a o (kx a o (kk2 a o e n1 n2))
      simp only at hd
      rw [if_neg hno] at hd
      exact hd
    refine run_ne rfl W2 fun H3 k3 => ?_
    have W3 := W2.up k3
    by_cases hgr : ws.great = []
    · have e : (!ws.great.isEmpty) = false := by rw [hgr]; rfl
      rw [e]
      show if false = true then _ else _
      rw [if_neg Bool.false_ne_true]
      exact tail W3 k3 fun z => z.1 hgr
    · have e : (!ws.great.isEmpty) = true := by
        cases hq : ws.great with
        | nil => exact absurd hq hgr
        | cons _ _ => rfl
      rw [e]
      show if true = true then _ else _
      rw [if_pos rfl]
      refine run_get rfl W3.m (val_great w _) ?_
      refine tE_int (p := w.g) (is := ws.great) (env := [.un, .imm (.int l), .imm (.int ws.spot), .bor (.lst (ws.great.map .int)), .un, .un]) (.cons .un (.cons .int (.cons .int (.cons .lst (.cons .un (.cons .un .nil)))))) W3.g (ev5 hgr) fun H4 k4 => ?_
      have W4 := W3.up k4
      have d1 : (0 : Int) < (ws.great.length : Int) := by
        have : ws.great.length ≠ 0 := fun z => hgr (List.length_eq_zero_iff.mp z)
        omega
      have j0 : 0 ≤ ws.spot % (ws.great.length : Int) := Int.emod_nonneg _ (by omega)
      have j1 : ws.spot % (ws.great.length : Int) < ws.great.length := Int.emod_lt_of_pos _ d1
      have jl : (ws.spot % (ws.great.length : Int)).toNat < ws.great.length := by omega
      have ec : ws.great[(ws.spot % (ws.great.length : Int)).toNat]? = some (ws.great.getD (ws.spot % (ws.great.length : Int)).toNat 0) := by
        rw [List.getD_eq_getElem?_getD]
        simp [jl]
      refine tE_int (p := w.g) (is := ws.great) (env := [.un, .imm (.int l), .imm (.int ws.spot), .bor (.lst (ws.great.map .int)), .imm (.int (ws.spot % (ws.great.length : Int))), .un]) (.cons .un (.cons .int (.cons .int (.cons .lst (.cons .int (.cons .un .nil)))))) W4.g (ev6 j0 j1 ec) fun H5 k5 => ?_
      have W5 := W4.up k5
      refine tT_bool (p := w.g) (is := ws.great) (env := [.un, .imm (.int l), .imm (.int ws.spot), .un, .imm (.int (ws.spot % (ws.great.length : Int))), .imm (.int (ws.great.getD (ws.spot % (ws.great.length : Int)).toNat 0))]) (.cons .un (.cons .int (.cons .int (.cons .un (.cons .int (.cons .int .nil)))))) W5.g ev7 fun H6 k6 => ?_
      have W6 := W5.up k6
      have up6 : ∀ a o, H2 a = some o → H6 a = some o := fun a o e => k6 a o (k5 a o (k4 a o (k3 a o e)))
      by_cases hpos : 0 < ws.great.getD (ws.spot % (ws.great.length : Int)).toNat 0
      · rw [decide_eq_true hpos]
        show if true = true then _ else _
        rw [if_pos rfl]
        refine tE_int (p := w.g) (is := ws.great) (env := [.un, .imm (.int l), .imm (.int ws.spot), .un, .imm (.int (ws.spot % (ws.great.length : Int))), .imm (.int (ws.great.getD (ws.spot % (ws.great.length : Int)).toNat 0))]) (.cons .un (.cons .int (.cons .int (.cons .un (.cons .int (.cons .int .nil)))))) W6.g (ev8 (lim_log l0 l1)) fun H7 k7 => ?_
        have W7 := W6.up k7
        refine ⟨_, rfl, ?_⟩
        refine tE_int (p := w.g) (is := ws.great) (env := [.un, .imm (.int l), .imm (.int ws.spot), .un, .imm (.int (ws.spot % (ws.great.length : Int))), .imm (.int (ws.great.getD (ws.spot % (ws.great.length : Int)).toNat 0))]) (.cons .un (.cons .int (.cons .int (.cons .un (.cons .int (.cons .int .nil)))))) W7.g ev4 fun H8 k8 => ?_
        have W8 := W7.up k8
        refine ⟨w.g, _, _, (ws.spot % (ws.great.length : Int)).toNat, rfl, rfl, W8.g, by rw [List.length_map]; exact ixN_of (place_in j0 j1), ?_⟩
        have eset : (ws.great.map V.int).set (ws.spot % (ws.great.length : Int)).toNat (.int (ws.great.getD (ws.spot % (ws.great.length : Int)).toNat 0 / l)) = (ws.great.set (ws.spot % (ws.great.length : Int)).toNat (ws.great.getD (ws.spot % (ws.great.length : Int)).toNat 0 / l)).map V.int := by rw [List.map_set]
        rw [eset]
        have W9 := W8.lot (gr := ws.great.set (ws.spot % (ws.great.length : Int)).toNat (ws.great.getD (ws.spot % (ws.great.length : Int)).toNat 0 / l)) gc
        refine tE_int (p := w.g) (is := ws.great.set (ws.spot % (ws.great.length : Int)).toNat (ws.great.getD (ws.spot % (ws.great.length : Int)).toNat 0 / l)) (env := [.un, .imm (.int l), .imm (.int ws.spot), .un, .imm (.int (ws.spot % (ws.great.length : Int))), .imm (.int (ws.great.getD (ws.spot % (ws.great.length : Int)).toNat 0))]) (.cons .un (.cons .int (.cons .int (.cons .un (.cons .int (.cons .int .nil)))))) W9.g (ev9 l0) fun H9 k9 => ?_
        refine fin (gr := ws.great.set (ws.spot % (ws.great.length : Int)).toNat (ws.great.getD (ws.spot % (ws.great.length : Int)).toNat 0 / l)) ?_ (by rw [List.length_set]; exact gl63) (W9.up k9) fun a o e n1 n2 => k9 a o ?_
        · simp only at hd
          rw [if_pos ⟨hgr, hpos⟩] at hd
          exact hd
        · rw [upd_ne n2]
          exact k8 a o (k7 a o (up6 a o (kk2 a o e n1 n2)))
      · rw [decide_eq_false hpos]
        show if false = true then _ else _
        rw [if_neg Bool.false_ne_true]
        exact tail W6 up6 fun z => hpos z.2
  · cases hd
end
end Pc

set_option Elab.async false
set_option linter.all false
set_option maxRecDepth 100000
set_option maxHeartbeats 4000000
/-! # _law_draw, _law_begun, law: their promises -/
namespace Pc
open PySem L2 PyProof.Rows StX
section
variable {P : Program} {w : World} {K : PySem.W.Frag} {mg : Str → Option Value} {base : Heap} {tb : Nat → Option Def} {gl : Nat → D} {fnN cnN : Nat → Option Str} {dr : Bool} {kd : Nat}
theorem Tab.gx (T : Tab P w K mg base tb gl fnN cnN dr kd) {N : List Str} {qual : Str} {st : Stmt} {ad : Addr} {cdv : Value} {A : Around} {outer : List PySem.Env} {s : Shared} {H : Hp} {E : XK} {fuel : Nat} (nd : N.Nodup)
    (hr : Room (kd + fuel) (A.deeper (envOfC qual (defScope st) s.heap.objs.size ad cdv))) (hg : A.guards = some []) : GA ⟨N, fnN, cnN, dr⟩ K (freshOf tb) (evCall tb gl fuel) gl ⟨defScope st, fun _ => true⟩ (cxOf CX0 P w K mg base N qual (defScope st) ad cdv A outer s H E).nox := by
  intro S eK
  subst eK
  exact ⟨rfl, nd, rfl, rfl, rfl, rfl, hg, (by have := hr.un; show (A.deeper (envOfC qual (defScope st) s.heap.objs.size ad cdv)).units + 80 < _; omega), .never, T.blt, T.con,
    fun f' x' hf => by
      obtain ⟨ad', fd', ps', q1, q2, q3, q4, q5⟩ := T.calls fuel f' x' hf
      exact ⟨ad', fd', ps', kd + fuel, q1, q2, q3, hr, q4, q5⟩,
    fun hdr => by
      obtain ⟨ad', fd', ps', q1, q2, q3, q4⟩ := T.draw hdr
      exact ⟨ad', fd', ps', kd, q1, q2, q3, hr.mono (Nat.le_add_right _ _), q4⟩⟩
theorem draw_fn (T : Tab P w K mg base tb gl fnN cnN dr kd) {im : Nat} (hm : tb im = some c_mixed) {ad : Addr} {fd : FuncData} {qual x : Str} {st : Stmt} {ps : List Str} (hps : ps.length = 2) (F : FnP K x qual st ad fd) (sc : FnScope Nd ps (defScope st)) (hk : okDraw ⟨Nd, fnN, cnN, dr⟩ im ⟨defScope st, fun _ => true⟩ (defBody st) = true) :
    FnG P w K mg base (kd + 1 + 1) ad fd ps (spDraw K) := by
  refine fnG_of (N := Nd) F sc (fun vs H Q E ⟨C, w', ws, ws', l, i, _, _, e, _⟩ => by rw [e, hps]; rfl) fun cdv A outer s H vs Q E hr hg hsp => ?_
  refine ⟨_, p_draw (T.gx (fuel := 1) sc.nd hr hg) hk, draw_run (fun c m hc hmm => ?_) hsp⟩
  exact funext fun ws => mixed_ev (fuel := 0) hm hc hmm ws
end
theorem intsOf_ints : ∀ is : List Int, intsOf (is.map D.int) = some is
  | [] => rfl
  | i :: is => by
    rw [List.map_cons]
    show (intsOf (is.map D.int)).map (i :: ·) = _
    rw [intsOf_ints is]
    rfl
/-! ### _law_begun -/
def Nb : List Str := [Str.ofString "_law_script", Str.ofString "_law_m", Str.ofString "_law_cell"]
def eGreat : Ex := .comp (.ife (.cmp .GtE (.var 2) (.bin .Pow (.cst (.int 10)) (.cst (.int 18)))) (.var 2) (.cst (.int 0))) (.nm 2) [2] (.ex (.var 0)) .nil
def okDict (n : Nx) (k : Kx) (a1 a2 a3 : Ex) : Stmt → Bool
  | .Assign [.Name x _] (.Dict [some (.Constant (.str k1) _ _), some (.Constant (.str k2) _ _), some (.Constant (.str k3) _ _)] [v1, v2, v3] _) _ => nmB n k 1 x && k1 == kCells && k2 == kGreat && k3 == kSpot && chk n k a1 v1 && chk n k a2 v2 && chk n k a3 v3
  | _ => false
def okBegun (n : Nx) (jf : Nat) (k : Kx) : List Stmt → Bool
  | [s1, s2, s3] => okDict n k (.call jf (.cons (.var 0) .nil)) (.lst .nil) (.cst (.int 0)) s1 && okPut n k 1 kGreat eGreat s2 && chkSt n k (.retOwn 1) s3
  | _ => false
section
variable {n : Nx} {K : PySem.W.Frag} {fr : Nat → Bool} {cl : Nat → List Sl → M D} {gl : Nat → D} {k : Kx} {X : Cx}
abbrev exA (K : PySem.W.Frag) (fr : Nat → Bool) (cl : Nat → List Sl → M D) (gl : Nat → D) (a : Ex) : TE := exE K fun S => tE S fr cl gl a false
def tDict (K : PySem.W.Frag) (fr : Nat → Bool) (cl : Nat → List Sl → M D) (gl : Nat → D) (a1 a2 a3 : Ex) : TS := tAsg (tDisp [(tC (.str kCells), exA K fr cl gl a1), (tC (.str kGreat), exA K fr cl gl a2), (tC (.str kSpot), exA K fr cl gl a3)]) (gName 1)
theorem p_dict (g : GA n K fr cl gl k X) {a1 a2 a3 : Ex} {s : Stmt} (h : okDict n k a1 a2 a3 s = true) : PS X s (tDict K fr cl gl a1 a2 a3) := by
  unfold okDict at h
  split at h
  · simp only [Bool.and_eq_true, nmB, decide_eq_true_eq, beq_iff_eq] at h
    obtain ⟨⟨⟨⟨⟨⟨⟨h1, h2⟩, rfl⟩, rfl⟩, rfl⟩, c1⟩, c2⟩, c3⟩ := h
    have g0 := g (S0 K) rfl
    obtain ⟨l1, l2⟩ := g0.loc h2
    exact ps_set g0.ndN (g0.name h1) l1 (pe_disp (pps_cons pe_str (PE.ex fun S e => (sound a1 (g S e) _ c1).1 false) (pps_cons pe_str (PE.ex fun S e => (sound a2 (g S e) _ c2).1 false) (pps_cons pe_str (PE.ex fun S e => (sound a3 (g S e) _ c3).1 false) pps_nil))) rfl rfl (by simp) (by simp)) rfl l2
  · cases h
def tBegun (K : PySem.W.Frag) (fr : Nat → Bool) (cl : Nat → List Sl → M D) (gl : Nat → D) (jf : Nat) : TS :=
  tSeq (tDict K fr cl gl (.call jf (.cons (.var 0) .nil)) (.lst .nil) (.cst (.int 0))) (tSeq (sDPut (tVar 1) (tC (.str kGreat)) (exA K fr cl gl eGreat)) (tSeq (tRet (tVar 1)) tNext))
theorem p_begun (g : GA n K fr cl gl k X) {jf : Nat} {body : List Stmt} (h : okBegun n jf k body = true) : PSs X body (tBegun K fr cl gl jf) := by
  unfold okBegun at h
  split at h
  · simp only [Bool.and_eq_true] at h
    obtain ⟨⟨h1, h2⟩, h3⟩ := h
    refine pss_cons (p_dict g h1) (pss_cons (p_put g h2) (pss_cons ?_ pss_nil))
    have g0 := g (S0 K) rfl
    unfold chkSt at h3
    split at h3
    · simp only [Bool.and_eq_true, decide_eq_true_eq] at h3
      obtain ⟨p1, p2, _⟩ := plain_parts h3.2
      exact ps_ret (pe_var (g0.name h3.1.1) (g0.vis h3.1.2) p1 p2)
    · cases h3
  · cases h
/-- what _law_begun promises -/
def spBegun (K : PySem.W.Frag) : Sp := fun vs H Q _ => ∃ (a : Addr) (is : List Int), vs = [.ref a] ∧ SqL K H a (is.map V.int) ∧ is.length ≤ 63 ∧
  ∀ (w : Wa) (cells great : List Int) (H' : Hp), H w.m = none → H w.g = none → H w.c = none → Wd H' w cells great 0 → CellsOk cells → great.length ≤ 63 → w.g ≠ w.c → (∀ b o, H b = some o → H' b = some o) → Q (.ref w.m) H'
def Se (K : PySem.W.Frag) : Sx := ⟨K, fun _ => False, none, fun _ => False⟩
theorem scr_den {C : Cc} {H : Hp} {a : Addr} {is : List Int} (h : SqL C.K H a (is.map V.int)) (no : ∀ o, H a = some o → ¬ C.O a) : Den C H (.ref a) (.scr is) := by
  refine .scr ?_
  rcases h with h | h
  · rcases h with h | ⟨o, h⟩
    · exact .inl ⟨.inl h, no _ h⟩
    · exact .inl ⟨.inr ⟨o, h⟩, no _ h⟩
  · exact .inr h
theorem sqL_up {H H' : Hp} {a : Addr} {xs : List V} (h : SqL K H a xs) (k : ∀ b o, H b = some o → H' b = some o) : SqL K H' a xs := by
  rcases h with h | h
  · rcases h with h | ⟨o, h⟩
    · exact .inl (.inl (k _ _ h))
    · exact .inl (.inr ⟨o, k _ _ h⟩)
  · exact .inr h
theorem env_scr {H : Hp} {a : Addr} {is : List Int} {x1 x2 : Option V} (h : SqL K H a (is.map V.int)) : EnvOk (Se K) [some (.ref a), x1, x2] [.imm (.scr is), .un, .un] H ∧ HpOk ((Se K).cc [some (.ref a), x1, x2] [.imm (.scr is), .un, .un]) H w0 := by
  have no : ∀ b, ¬ ownAt [some (.ref a), x1, x2] [.imm (.scr is), .un, .un] b := fun b z => by
    obtain ⟨i, d, h1, _⟩ := z
    match i, h1 with
    | 0, h1 => cases h1
    | 1, h1 => cases h1
    | 2, h1 => cases h1
    | i + 3, h1 => simp at h1
  have nO : ∀ b, ¬ ((Se K).cc [some (.ref a), x1, x2] [.imm (.scr is), .un, .un]).O b := fun b z => z.elim id (no b)
  refine ⟨⟨rfl, fun i d e => ?_, fun i d e => ?_, fun i d e => ?_, fun i j d d' b h1 _ h3 _ => absurd ⟨i, d, h1, h3⟩ (no b), (fun w ew => nomatch ew), (fun b z => z), (fun w ew => nomatch ew)⟩, ⟨⟨fun w ew => nomatch ew⟩, fun b z => absurd z (nO b), fun w ew => nomatch ew⟩⟩
  · match i, e with
    | 0, e => cases e; exact ⟨_, rfl, scr_den h fun o _ => nO a⟩
    | 1, e => cases e
    | 2, e => cases e
    | i + 3, e => simp at e
  · match i, e with
    | 0, e => cases e
    | 1, e => cases e
    | 2, e => cases e
    | i + 3, e => simp at e
  · match i, e with
    | 0, e => cases e
    | 1, e => cases e
    | 2, e => cases e
    | i + 3, e => simp at e
/-- an expression that reads the script -/
theorem run_scr {H : Hp} {a : Addr} {is : List Int} {x1 x2 : Option V} {e : Ex} {d : D} {Q : VK} (h : SqL K H a (is.map V.int)) (he : ev cl gl e false [.imm (.scr is), .un, .un] w0 = .ok d w0)
    (q : ∀ v H', (∀ b o, H b = some o → H' b = some o) → (∀ is' : List Int, d = .lst (is'.map .int) → ∃ p, v = .ref p ∧ H' p = some (.lst (is'.map V.int)) ∧ (freshEx fr e = true → H p = none)) → (∀ i, d = .int i → v = .int i) → Q v H') : exA K fr cl gl e [some (.ref a), x1, x2] H Q := by
  obtain ⟨E, O⟩ := env_scr (x1 := x1) (x2 := x2) h
  refine ⟨Se K, rfl, _, w0, d, w0, E, O, he, fun v H1 k1 O1 D1 f1 => q v H1 (fun b o hb => k1 b o hb fun w ew => nomatch ew) (fun is' ed => ?_) fun i ed => ?_⟩
  · subst ed
    obtain ⟨p, xs, rfl, hp, l⟩ := D1.list
    have ex : xs = is'.map V.int := l.intsV (intsOf_ints is')
    subst ex
    refine ⟨p, rfl, hp, fun hf => ?_⟩
    obtain ⟨p', xs', e1, e2, _⟩ := f1 hf _ rfl
    cases e1
    exact e2
  · subst ed
    exact D1.intV
end
end Pc

set_option Elab.async false
set_option linter.all false
set_option maxRecDepth 100000
set_option maxHeartbeats 4000000
/-! # _law_begun runs; the law's wrapper -/
namespace Pc
open PySem L2 PyProof.Rows StX
theorem mapR_ints {f : D → M (Option D)} {h : Int → Int} (hf : ∀ c, f (.int c) = M.ok (some (.int (h c)))) : ∀ is : List Int, mapR f (is.map .int) = M.ok ((is.map h).map .int)
  | [] => rfl
  | i :: is => by
    rw [List.map_cons, mapR, hf, ok_bind, mapR_ints hf is, ok_bind]
    rfl
def bigOr0 (c : Int) : Int := if 1000000000000000000 ≤ c then c else 0
theorem great_ev {cl : Nat → List Sl → M D} {gl : Nat → D} (is : List Int) (hl : is.length ≤ 63) : ev cl gl eGreat false [.imm (.scr is), .un, .un] w0 = .ok (.lst ((is.map bigOr0).map .int)) w0 := by
  have e0 : evS cl gl (.ex (.var 0)) true [.imm (.scr is), .un, .un] = M.ok (is.map .int) := by rw [evS]; rfl
  have e1 : noOwn [.imm (.scr is), .un, .un] [2] = true := rfl
  have pw : binFn .Pow (.int 10) (.int 18) = some (.int 1000000000000000000) := by
    show (if (0 : Int) ≤ 18 ∧ (18 : Int) ≤ 1000 ∧ (10 : Int).natAbs < 2 ^ 64 then some (D.int (10 ^ (18 : Int).toNat)) else none) = _
    rw [if_pos (by decide)]
    rfl
  unfold eGreat
  rw [ev, if_pos e1, e0, ok_bind]
  rw [mapR_ints (h := bigOr0) fun c => ?_]
  · unfold lstR
    rw [ok_bind, if_pos (by rw [List.length_map, List.length_map]; exact Nat.le_trans hl (by decide))]
    rfl
  · have bt : bindTg (.nm 2) (.int c) (wipe [.imm (.scr is), .un, .un] [2]) = some [.imm (.scr is), .un, .imm (.int c)] := rfl
    have cm : cmpFn .GtE (.int c) (.int 1000000000000000000) = some (decide ((1000000000000000000 : Int) ≤ c)) := rfl
    have tr : ∀ b : Bool, truth (.bool b) = some b := fun _ => rfl
    simp only [bt, evIf, ev, ok_bind, of_some, pw, cm, tr, List.getElem?_cons_zero, List.getElem?_cons_succ, if_true]
    unfold bigOr0
    by_cases h : (1000000000000000000 : Int) ≤ c
    · simp only [h, decide_true, if_true, ok_bind]
    · simp only [h, decide_false, Bool.false_eq_true, if_false, ok_bind]
section
variable {K : PySem.W.Frag} {fr : Nat → Bool} {cl : Nat → List Sl → M D} {gl : Nat → D} {jf : Nat}
theorem upd_old {H : Hp} {p : Addr} {o u : HO} (np : H p = none) {b : Addr} (e : H b = some u) : upd H p o b = some u := by rw [upd_ne (ne_of_none e np)]; exact e
theorem begun_run (hfold : ∀ is, ∃ cells, CellsOk cells ∧ cl jf [.imm (.scr is)] w0 = .ok (.lst (cells.map .int)) w0) (hfr : fr jf = true) {vs : List V} {H : Hp} {Q : VK} {E : XK} (h : spBegun K vs H Q E) :
    tBegun K fr cl gl jf { nx := fun _ H' => Q .non H', rt := Q } (start Nb vs) H := by
  obtain ⟨a, is, rfl, sq, hl, P⟩ := h
  obtain ⟨cells, hC, ef⟩ := hfold is
  show tBegun K fr cl gl jf _ [some (.ref a), none, none] H
  have ec : ev cl gl (.call jf (.cons (.var 0) .nil)) false [.imm (.scr is), .un, .un] w0 = .ok (.lst (cells.map .int)) w0 := by
    simp only [ev, evArgs, ok_bind, List.getElem?_cons_zero]
    exact ef
  intro p np
  have k0 : ∀ b o, H b = some o → upd H p (.dK []) b = some o := fun b o e => upd_old np e
  refine run_scr (sqL_up sq k0) ec fun v1 H1 k1 q1 _ => ?_
  obtain ⟨c, rfl, hc, fc⟩ := q1 cells rfl
  have fc := fc hfr
  refine run_scr (e := .lst .nil) (d := .lst []) (sqL_up (sqL_up sq k0) k1) rfl fun v2 H2 k2 _ _ => ?_
  refine run_scr (e := .cst (.int 0)) (d := .int 0) (sqL_up (sqL_up (sqL_up sq k0) k1) k2) rfl fun v3 H3 k3 _ q3 => ?_
  have e3 := q3 0 rfl
  subst e3
  have up3 : ∀ b o, upd H p (.dK []) b = some o → H3 b = some o := fun b o e => k3 _ _ (k2 _ _ (k1 _ _ e))
  have hp3 : H3 p = some (.dK []) := up3 _ _ upd_same
  have cp : c ≠ p := fun z => by rw [z, upd_same] at fc; cases fc
  have Hc : H c = none := by rw [upd_ne cp] at fc; exact fc
  obtain ⟨n1, n2, n3⟩ := keysNe
  refine ⟨hp3, [(kStr kCells, .ref c), (kStr kGreat, v2), (kStr kSpot, .int 0)], rfl, (by show 3 ≤ 15; decide), ?_⟩
  have em : mergeK [] [(kStr kCells, V.ref c), (kStr kGreat, v2), (kStr kSpot, V.int 0)] = [(kStr kCells, V.ref c), (kStr kGreat, v2), (kStr kSpot, V.int 0)] := by
    simp [mergeK, putK, n1, n2, n3]
  rw [em]
  show tSeq _ _ _ [some (.ref a), some (.ref p), none] _
  have k4 : ∀ b o, H b = some o → upd H3 p (.dK [(kStr kCells, V.ref c), (kStr kGreat, v2), (kStr kSpot, V.int 0)]) b = some o := fun b o e => by
    have ne : b ≠ p := ne_of_none e np
    rw [upd_ne ne]
    exact up3 _ _ (k0 _ _ e)
  have hc3 : upd H3 p (.dK [(kStr kCells, V.ref c), (kStr kGreat, v2), (kStr kSpot, V.int 0)]) c = some (.lst (cells.map V.int)) := by
    rw [upd_ne cp]
    exact k3 _ _ (k2 _ _ hc)
  have hp4 : upd H3 p (.dK [(kStr kCells, V.ref c), (kStr kGreat, v2), (kStr kSpot, V.int 0)]) p = some (.dK [(kStr kCells, V.ref c), (kStr kGreat, v2), (kStr kSpot, V.int 0)]) := upd_same
  generalize upd H3 p (.dK [(kStr kCells, V.ref c), (kStr kGreat, v2), (kStr kSpot, V.int 0)]) = H4 at k4 hc3 hp4
  refine run_scr (e := eGreat) (sqL_up sq k4) (great_ev is hl) fun v5 H5 k5 q5 _ => ?_
  obtain ⟨g, rfl, hg, fg⟩ := q5 (is.map bigOr0) rfl
  have fg := fg rfl
  have gp : g ≠ p := fun z => by rw [z, hp4] at fg; cases fg
  have gc : g ≠ c := fun z => by rw [z, hc3] at fg; cases fg
  have Hg : H g = none := by
    cases e : H g with
    | none => rfl
    | some o => rw [k4 _ _ e] at fg; cases fg
  refine ⟨_, rfl, p, _, rfl, DPut.k (k := kStr kGreat) (k5 _ _ hp4) (by show 3 < sizeLine; decide), ?_⟩
  have ep : putK [(kStr kCells, V.ref c), (kStr kGreat, v2), (kStr kSpot, V.int 0)] (kStr kGreat) (.ref g) = kvs ⟨p, g, c⟩ 0 := by
    unfold putK kvs
    simp [n1, Ne.symm n3]
  rw [ep]
  refine ⟨_, rfl, P ⟨p, g, c⟩ cells (is.map bigOr0) _ np Hg Hc ⟨upd_same, by rw [upd_ne gp]; exact hg, by rw [upd_ne cp]; exact k5 _ _ hc3⟩ hC (by rw [List.length_map]; exact hl) gc fun b o e => ?_⟩
  rw [upd_ne (ne_of_none e np)]
  exact k5 _ _ (k4 _ _ e)
end
section
variable {P : Program} {w : World} {K : PySem.W.Frag} {mg : Str → Option Value} {base : Heap} {tb : Nat → Option Def} {gl : Nat → D} {fnN cnN : Nat → Option Str} {dr : Bool} {kd : Nat}
theorem begun_fn (T : Tab P w K mg base tb gl fnN cnN dr kd) {jf : Nat} (hm : tb jf = some c_folded) {ad : Addr} {fd : FuncData} {qual x : Str} {st : Stmt} {ps : List Str} (hps : ps.length = 1) (F : FnP K x qual st ad fd) (sc : FnScope Nb ps (defScope st)) (hk : okBegun ⟨Nb, fnN, cnN, dr⟩ jf ⟨defScope st, fun _ => true⟩ (defBody st) = true) :
    FnG P w K mg base (kd + 1 + 1) ad fd ps (spBegun K) := by
  refine fnG_of (N := Nb) F sc (fun vs H Q E ⟨a, is, e, _⟩ => by rw [e, hps]; rfl) fun cdv A outer s H vs Q E hr hg hsp => ?_
  refine ⟨_, p_begun (T.gx (fuel := 1) sc.nd hr hg) hk, begun_run (fun is => folded_ev (fuel := 0) hm is w0) ?_ hsp⟩
  unfold freshOf
  rw [hm]
  rfl
/-! ### the law -/
def bName : Str := Str.ofString "_law_begun"
def okLaw (n : Nx) (k : Kx) (body : List St) : List Stmt → Bool
  | .Assign [.Name x _] (.Call (.Name f _) [.Name y _] [] _) _ :: rest => nmB n k 1 x && f == bName && glB k.sc f && (decide (n.N[0]? = some y) && visB k.sc y && plainN y) && chkSts n k body rest
  | _ => false
/-- what the law promises -/
def spLaw (K : PySem.W.Frag) : Sp := fun vs H Q _ => ∃ (a : Addr) (is : List Int), vs = [.ref a] ∧ is.length ≤ 63 ∧ SqL K H a (is.map V.int) ∧ ∀ H', Q (.bl true) H'
def lawEnv (slots : Nat) (is : List Int) : SEnv := .imm (.scr is) :: .imm .world :: List.replicate (slots - 2) .un
theorem law_fn (T : Tab P w K mg base tb gl fnN cnN dr kd) {adb : Addr} {fdb : FuncData} {psb : List Str} {kb fuel : Nat} (hmb : mg bName = some (.ref adb)) (hkb : PySem.W.keepIn K (.ref adb) = true) (hbb : Binds K fdb psb []) (Fb : FnG P w K mg base kb adb fdb psb (spBegun K)) (hle : kb ≤ kd + fuel)
    {ad : Addr} {fd : FuncData} {qual x : Str} {st : Stmt} {ps N : List Str} (hps : ps.length = 1) (hN : 2 ≤ N.length) (F : FnP K x qual st ad fd) (sc : FnScope N ps (defScope st)) {body : List St} (hk : okLaw ⟨N, fnN, cnN, dr⟩ ⟨defScope st, fun _ => true⟩ body (defBody st) = true)
    (law : ∀ (is cells great : List Int), is.length ≤ 63 → CellsOk cells → great.length ≤ 63 → ∃ f ws', evSts (freshOf tb) (evCall tb gl fuel) gl body (lawEnv N.length is) ⟨cells, great, 0⟩ = .ok (.ret (.bool true) f) ws') :
    FnG P w K mg base (kd + fuel + 1) ad fd ps (spLaw K) := by
  refine fnG_of (N := N) F sc (fun vs H Q E ⟨a, is, e, _⟩ => by rw [e, hps]; rfl) fun cdv A outer s H vs Q E hr hg hsp => ?_
  have g := T.gx (N := N) (outer := outer) (H := H) (E := E) (fuel := fuel) sc.nd hr hg
  have g0 := g (S0 K) rfl
  unfold okLaw at hk
  split at hk
  · rename_i hbody
    simp only [Bool.and_eq_true, nmB, decide_eq_true_eq, beq_iff_eq] at hk
    obtain ⟨⟨⟨⟨⟨h1, h2⟩, rfl⟩, h3⟩, ⟨h4, h5⟩, h6⟩, h7⟩ := hk
    obtain ⟨l1, l2⟩ := g0.loc h2
    obtain ⟨p1, p2, _⟩ := plain_parts h6
    have rest : PSs (cxOf CX0 P w K mg base N qual (defScope st) ad cdv A outer s H E).nox _ (fun D σ H' => ∃ S : Sx, S.K = K ∧ ∃ H0, tSts S (freshOf tb) (evCall tb gl fuel) gl H0 body D σ H') := ⟨fun pins s σ H D I ⟨S, e, H0, z⟩ => (sound_sts (H0 := H0) (g S e) body _ h7).run pins s σ H D I z⟩
    rw [hbody]
    refine ⟨_, pss_cons (ps_set g0.ndN (g0.name h1) l1 (pe_callG Fb (hr.mono hle) hg (g0.glob h3) hmb hkb hbb (pa_cons (pe_var (g0.name h4) (g0.vis h5) p1 p2) pa_nil rfl) (by decide) rfl rfl) rfl l2) rest, ?_⟩
    obtain ⟨a, is, rfl, hl, sq, q⟩ := hsp
    have e0 : start N [V.ref a] = some (.ref a) :: none :: List.replicate (N.length - 2) none := by
      unfold L2.start
      show some (V.ref a) :: List.replicate (N.length - 1) none = _
      rw [show N.length - 1 = (N.length - 2) + 1 by omega, List.replicate_succ]
    rw [e0]
    refine ⟨_, rfl, a, is, rfl, sq, hl, fun w' cells great H' n1 n2 n3 W hC hgl gc kk => ?_⟩
    obtain ⟨f, ws', el⟩ := law is cells great hl hC hgl
    let O : Addr → Prop := fun b => b = w'.m ∨ b = w'.g ∨ b = w'.c
    have ok : HpOk ⟨K, O, some w'⟩ H' ⟨cells, great, 0⟩ := by
      refine ⟨⟨fun u eu => ?_⟩, fun b z => ?_, fun u eu => ?_⟩
      · cases eu
        exact ⟨W.m, W.g, W.c, gc, hC.1, hC.2, Int.le_refl _, hgl⟩
      · rcases z with rfl | rfl | rfl
        · exact ⟨_, W.m⟩
        · exact ⟨_, W.g⟩
        · exact ⟨_, W.c⟩
      · cases eu
        exact ⟨.inl rfl, .inr (.inl rfl)⟩
    refine ⟨⟨K, O, some w', fun _ => False⟩, rfl, H', lawEnv N.length is, ⟨cells, great, 0⟩, _, ws', ?_, el, fun v H2 k2 O2 D2 _ => ?_⟩
    · show Sin _ H' (some (V.ref a) :: some (V.ref w'.m) :: List.replicate (N.length - 2) none) _ H' _
      have at2 : ∀ {i : Nat} {s : Sl}, (lawEnv N.length is)[i]? = some s → s ≠ .un → (i = 0 ∧ s = .imm (.scr is)) ∨ (i = 1 ∧ s = .imm .world) := fun {i s} e hs => by
        unfold lawEnv at e
        match i, e with
        | 0, e => exact .inl ⟨rfl, (Option.some.inj e).symm⟩
        | 1, e => exact .inr ⟨rfl, (Option.some.inj e).symm⟩
        | i + 2, e =>
          rw [List.getElem?_cons_succ, List.getElem?_cons_succ, List.getElem?_replicate] at e
          split at e
          · cases e; exact absurd rfl hs
          · cases e
      have no : ∀ b, ¬ ownAt (some (V.ref a) :: some (V.ref w'.m) :: List.replicate (N.length - 2) none) (lawEnv N.length is) b := fun b z => by
        obtain ⟨i, d, z1, _⟩ := z
        rcases at2 z1 (by intro z; cases z) with ⟨_, z⟩ | ⟨_, z⟩ <;> cases z
      have hO : ∀ b, (Sx.cc ⟨K, O, some w', fun _ => False⟩ (some (V.ref a) :: some (V.ref w'.m) :: List.replicate (N.length - 2) none) (lawEnv N.length is)).O b → O b := fun b z => z.elim id fun z => absurd z (no b)
      refine ⟨⟨by unfold lawEnv; simp, fun i d e => ?_, fun i d e => ?_, fun i d e => ?_, fun i j d d' b z1 _ z3 _ => absurd ⟨i, d, z1, z3⟩ (no b), (fun u eu => ok.wo u eu), (fun b z => z.elim), (fun u eu => by cases eu; exact .inr (.inr rfl))⟩, ok.less hO rfl fun u eu => ⟨.inl (ok.wo u eu).1, .inl (ok.wo u eu).2⟩, Keep.refl _ _, fun b z => absurd z (no b)⟩
      · rcases at2 e (by intro z; cases z) with ⟨rfl, z⟩ | ⟨rfl, z⟩
        · cases z
          have ne : ∀ o, H a = some o → ¬ O a := fun o eo z => by
            rcases z with z | z | z
            · rw [z, n1] at eo; cases eo
            · rw [z, n2] at eo; cases eo
            · rw [z, n3] at eo; cases eo
          refine ⟨_, rfl, .scr ?_⟩
          rcases sq with (h | ⟨o, h⟩) | h
          · exact .inl ⟨.inl (kk _ _ h), fun z => ne _ h (hO _ z)⟩
          · exact .inl ⟨.inr ⟨o, kk _ _ h⟩, fun z => ne _ h (hO _ z)⟩
          · exact .inr h
        · cases z
          exact ⟨_, rfl, .world rfl⟩
      · rcases at2 e (by intro z; cases z) with ⟨_, z⟩ | ⟨_, z⟩ <;> cases z
      · rcases at2 e (by intro z; cases z) with ⟨_, z⟩ | ⟨_, z⟩ <;> cases z
    · cases D2
      exact q H2
  · cases hk
end
end Pc

set_option Elab.async false
set_option linter.all false
set_option maxRecDepth 100000
set_option maxHeartbeats 4000000
/-! # The end: a law's promise, called from outside -/
namespace Pc
open PySem PySem.Spec L2 PyProof.Rows
/-- the heap that is tracked at the start: the script alone, or nothing if it is the module's -/
def hp0 (K : PySem.W.Frag) (a : Addr) (o : Obj) (ns : List Int) : Hp := fun b => if b = a ∧ K.lookup a = none then some (.frz o (.lst (ns.map V.int))) else none
theorem hp0_some {K : PySem.W.Frag} {a b : Addr} {o : Obj} {ns : List Int} {u : HO} (h : hp0 K a o ns b = some u) : b = a ∧ K.lookup a = none ∧ u = .frz o (.lst (ns.map V.int)) := by
  unfold hp0 at h
  split at h
  · rename_i q
    cases h
    exact ⟨q.1, q.2, rfl⟩
  · cases h
theorem law_callG {P : Program} {w : World} {K : PySem.W.Frag} {mg mb : Str → Option Value} {k : Nat} {fa a : Addr} {fd : FuncData} {x : Str} {s : Shared} {vs : List Value} {ns : List Int}
    (KX : K.In s.heap) (G : s.heap.Ns mainGlobals mg) (B : s.heap.Ns builtinsNs mb) (BB : ∀ y : Str, y ≠ "__name__" → mb y = bootBuiltins y) (L : s.heap.NoLimit) (gens : s.gens = #[])
    (at_ : s.heap.get? a = some { cls := .type "list", data := .seq vs.toArray }) (hints : IntsAre vs ns) (h63 : ns.length ≤ 63) (hr : Room k callerA)
    (F : ∀ base : Heap, K.In base → base.Ns mainGlobals mg → FnG P w K mg base k fa fd [x] (spLaw K)) (bind : ∀ (s : Shared) (u : Value), BindsTo s fd ⟨[u], []⟩ [(x, u)]) :
    codeAny (model P w) callerA (.call (.ref fa) ⟨[.ref a], []⟩) (fun r t => r = .ok (.ret (.bool true)) ∧ OldK s.heap t.heap ∧ t.os = s.os ∧ AllBare t.gens) s := by
  have rel : Vals (ns.map V.int) vs := vals_ints hints
  have hlen : ns.length ≤ sizeLine := Nat.le_trans h63 (by decide)
  have hvs : vs.length = ns.length := hints.length
  let o : Obj := { cls := .type "list", data := .seq vs.toArray }
  have dicts : ∀ {b : Addr} {ob : Obj} {es : Array DictEntry} {ep : Nat}, s.heap.get? b = some ob → ob.data = .dict es ep → hp0 K a o ns b = none := fun {b ob es ep} e d => by
    cases q : hp0 K a o ns b with
    | none => rfl
    | some u =>
      obtain ⟨rfl, _, _⟩ := hp0_some q
      rw [at_] at e
      cases e
      cases (show Data.seq vs.toArray _ = Data.dict es ep from d)
  have nsB : ∀ {b : Addr} {m : Str → Option Value}, s.heap.Ns b m → (hidT s.heap (hp0 K a o ns)).Ns b m := fun {b m} z => by
    obtain ⟨ob, es, ep, e, d, r⟩ := z
    exact ⟨ob, es, ep, hidT_get e (dicts e d), d, r⟩
  have kB : K.In (hidT s.heap (hp0 K a o ns)) := fun b ob e => by
    refine hidT_get (KX b ob e) ?_
    cases q : hp0 K a o ns b with
    | none => rfl
    | some u =>
      obtain ⟨rfl, z, _⟩ := hp0_some q
      rw [z] at e
      cases e
  have okH : HOk P w (hp0 K a o ns) s.heap := fun b u q => by
    obtain ⟨rfl, _, rfl⟩ := hp0_some q
    exact ⟨at_, by rw [List.length_map]; exact hlen, vs, _, rel, at_⟩
  have limB : (hidT s.heap (hp0 K a o ns)).NoLimit := by
    obtain ⟨mc, z1, z2⟩ := L
    exact ⟨mc, nsB z1, z2⟩
  have md : Mod K mg (hidT s.heap (hp0 K a o ns)) := ⟨kB, nsB G, ⟨mb, nsB B, BB⟩, limB⟩
  have e0 : Env0 P w K mg (hidT s.heap (hp0 K a o ns)) callerA [] s (hp0 K a o ns) :=
    ⟨rfl, md, (fun b ob e => of_hidT e), Nat.le_of_eq (hidT_size _ _), trivial, (fun b z => by cases (show b ∈ ([] : List Addr) from z)), okH, .of_eq gens⟩
  have sq : SqL K (hp0 K a o ns) a (ns.map V.int) := by
    cases q : K.lookup a with
    | none => exact .inl (.inr ⟨o, if_pos ⟨rfl, q⟩⟩)
    | some ob =>
      have e := KX a ob q
      rw [at_] at e
      cases e
      exact .inr ⟨_, vs.toArray, _, q, rfl, rfl, rfl, by rw [List.size_toArray, hvs]; exact hlen, by simpa using rel⟩
  have go := (F _ kB (nsB G)).run callerA [] s (hp0 K a o ns) ⟨[.ref a], []⟩ [.ref a] [.ref a] (fun v _ => v = .bl true) (fun _ _ _ => False) hr rfl e0 (bind s (.ref a)) (.cons rfl .nil) ⟨a, ns, rfl, h63, sq, fun _ => rfl⟩
  refine codeAny_mono go fun r t h => ?_
  match r, h with
  | .error e, h => exact False.elim h
  | .ok .next, h => exact False.elim h
  | .ok .brk, h => exact False.elim h
  | .ok .cont, h => exact False.elim h
  | .ok (.ret u), h =>
    obtain ⟨v, H', os, bare, un, hok', rv, q⟩ := h
    obtain rfl : v = .bl true := q
    obtain rfl : u = Value.bool true := rv
    refine ⟨rfl, OldK.of_keep fun b ob e => ?_, os, bare⟩
    cases q : hp0 K a o ns b with
    | none => exact un.keep b ob e q (fun z => by cases (show b ∈ ([] : List Addr) from z)) (by simp)
    | some u =>
      obtain ⟨rfl, _, rfl⟩ := hp0_some q
      obtain ⟨e2, _⟩ := hok' b _ (un.frzs b o _ q)
      rw [at_] at e
      cases e
      exact e2
/-- the law over a head by facts -/
theorem walk_ofG {l : PySem.W.OpenLaw} {k : Nat} {q : Program} {loose : List Str} {XP : (Str → Option Value) → Heap → Prop} {YP : World → Heap → Prop} {d : DefRec} {x : Str} (hn : l.most = some 63) (hdf : d.params.defaults = []) (hr : Room k callerA)
    (F : ∀ (w : World) (mg : Str → Option Value) (fa : Addr) (h : Heap), YP w h → h.Ns mainGlobals mg → mg d.name = some (.ref fa) →
      ∃ (K : PySem.W.Frag) (fd : FuncData), K.In h ∧ (∀ (s : Shared) (u : Value), BindsTo s fd ⟨[u], []⟩ [(x, u)]) ∧ ∀ base : Heap, K.In base → base.Ns mainGlobals mg → FnG l.prog w K mg base k fa fd [x] (spLaw K)) :
    PySem.W.WalkO q loose XP YP l.row.toRowW d [] (fun f vs => PySem.call f vs) := by
  refine Att.attach_call hn hdf fun w s₀ s₁ mg mb fa o pm cd doc a vs ns G Y ho hd hcd hmg hobj hints hlen hg => ?_
  obtain ⟨K, fd, KX, hb, hF⟩ := F w mg fa _ Y G.T.g hmg
  exact law_callG KX G.T.g G.T.b G.T.builtins G.T.nolimit hg hobj hints hlen hr hF hb
end Pc

set_option Elab.async false
set_option linter.all false
set_option maxRecDepth 100000
set_option maxHeartbeats 4000000
/-! # A law's promise, from the facts of its text -/
namespace Pc
open PySem L2 PyProof.Rows
def scB (N ps : List Str) (sc : Scope) : Bool := (match sc.kind with | .function => true | _ => false) && !sc.isCoroutine && !sc.isGenerator && decide N.Nodup && decide (N.take ps.length = ps) &&
  ps.all (fun x => match sc.names.lookup x with | some .local => true | some .cell => true | _ => false) && sc.names.all (fun y => match y.2 with | .free => false | _ => true)
theorem scB_ok {N ps : List Str} {sc : Scope} (h : scB N ps sc = true) : FnScope N ps sc := by
  unfold scB at h
  simp only [Bool.and_eq_true, Bool.not_eq_true', decide_eq_true_eq, List.all_eq_true] at h
  obtain ⟨⟨⟨⟨⟨⟨h1, h2⟩, h3⟩, h4⟩, h5⟩, h6⟩, h7⟩ := h
  refine ⟨?_, h2, h3, h4, h5, fun x hx => ?_, fun y hy z => ?_⟩
  · cases e : sc.kind <;> first | rfl | (rw [e] at h1; cases h1)
  · have q := h6 x hx
    split at q
    · exact .inl (by assumption)
    · exact .inr (by assumption)
    · cases q
  · have q := h7 y hy
    rw [z] at q
    cases q
/-- a def of the text stands behind its name -/
def FnIs (K : PySem.W.Frag) (mg : Str → Option Value) (x : Str) (st : Stmt) (N ps : List Str) : Prop := ∃ (ad : Addr) (fd : FuncData), mg x = some (.ref ad) ∧ FnP K x x st ad fd ∧ Binds K fd ps [] ∧ FnScope N ps (defScope st)
def Nm : List Str := [Str.ofString "_law_cell", Str.ofString "_law_n", Str.ofString "_law_blend"]
def Nf : List Str := [Str.ofString "_law_script", Str.ofString "_law_found", Str.ofString "_law_n", Str.ofString "_law_cell"]
def tb0 : Nat → Option Def
  | 0 => some c_mixed
  | 1 => some c_folded
  | _ => none
def fn0 : Nat → Option Str
  | 0 => some (Str.ofString "_law_mixed")
  | 1 => some (Str.ofString "_law_folded")
  | _ => none
def cn0 : Nat → Option Str := fun _ => none
def gl0 : Nat → D := fun _ => .none
abbrev kx (st : Stmt) : Kx := ⟨defScope st, fun _ => true⟩
/-- the checks of the helpers' texts -/
def helpOk (stM stF stD stB : Stmt) : Bool := chkSts ⟨Nm, fn0, cn0, false⟩ (kx stM) c_mixed.body (defBody stM) && chkSts ⟨Nf, fn0, cn0, false⟩ (kx stF) c_folded.body (defBody stF) && okDraw ⟨Nd, fn0, cn0, false⟩ 0 (kx stD) (defBody stD) && okBegun ⟨Nb, fn0, cn0, false⟩ 1 (kx stB) (defBody stB)
section
variable {P : Program} {w : World} {K : PySem.W.Frag} {mg : Str → Option Value} {base : Heap} {tb : Nat → Option Def} {gl : Nat → D} {fnN cnN : Nat → Option Str}
theorem law_promise {stM stF stD stB stL : Stmt} {psM psF psD psB psL NL : List Str} {body : List St} {fuel : Nat} {xL : Str} (blt : ∀ x ∈ bltNames, mg x = none)
    (M : FnIs K mg (Str.ofString "_law_mixed") stM Nm psM) (Fo : FnIs K mg (Str.ofString "_law_folded") stF Nf psF) (Dw : FnIs K mg dName stD Nd psD) (Bg : FnIs K mg bName stB Nb psB) (La : FnIs K mg xL stL NL psL)
    (lM : psM.length = 2) (lF : psF.length = 1) (lD : psD.length = 2) (lB : psB.length = 1) (lL : psL.length = 1) (hNL : 2 ≤ NL.length) (hh : helpOk stM stF stD stB = true) (cL : okLaw ⟨NL, fnN, cnN, true⟩ (kx stL) body (defBody stL) = true)
    (con : ∀ g x, cnN g = some x → ∃ u v, mg x = some u ∧ RelV v u ∧ ∀ C H, C.K = K → Den C H v (gl g))
    (fn : ∀ f x, fnN f = some x → ∃ (d : Def) (st : Stmt) (N ps : List Str), tb f = some d ∧ FnIs K mg x st N ps ∧ N.length = d.slots ∧ ps.length = d.params ∧ chkSts ⟨N, fnN, cnN, true⟩ (kx st) d.body (defBody st) = true)
    (law : ∀ (is cells great : List Int), is.length ≤ 63 → CellsOk cells → great.length ≤ 63 → ∃ f ws', evSts (freshOf tb) (evCall tb gl fuel) gl body (lawEnv NL.length is) ⟨cells, great, 0⟩ = .ok (.ret (.bool true) f) ws') :
    ∃ (ad : Addr) (fd : FuncData), mg xL = some (.ref ad) ∧ FnP K xL xL stL ad fd ∧ FnG P w K mg base (2 + fuel + 1) ad fd psL (spLaw K) := by
  unfold helpOk at hh
  simp only [Bool.and_eq_true] at hh
  obtain ⟨⟨⟨cM, cF⟩, cD⟩, cB⟩ := hh
  have T0 : Tab P w K mg base tb0 gl0 fn0 cn0 false 0 := by
    refine ⟨blt, (fun g x h => by cases h), (fun h => by cases h), fun f x h => ?_⟩
    match f, h with
    | 0, h =>
      cases h
      obtain ⟨ad, fd, h1, h2, h3, h4⟩ := M
      exact ⟨c_mixed, ad, fd, psM, Nm, _, stM, rfl, h1, h2, h3, h4, rfl, lM, cM⟩
    | 1, h =>
      cases h
      obtain ⟨ad, fd, h1, h2, h3, h4⟩ := Fo
      exact ⟨c_folded, ad, fd, psF, Nf, _, stF, rfl, h1, h2, h3, h4, rfl, lF, cF⟩
    | f + 2, h => cases h
  obtain ⟨adD, fdD, d1, d2, d3, d4⟩ := Dw
  obtain ⟨adB, fdB, b1, b2, b3, b4⟩ := Bg
  obtain ⟨adL, fdL, l1, l2, l3, l4⟩ := La
  have T1 : Tab P w K mg base tb gl fnN cnN true 2 := by
    refine ⟨blt, con, (fun _ => ⟨adD, fdD, psD, d1, d2.kp, d3, draw_fn T0 (im := 0) rfl lD d2 d4 cD⟩), fun f x h => ?_⟩
    obtain ⟨d, st, N, ps, e, ⟨ad, fd, h1, h2, h3, h4⟩, h5, h6, h7⟩ := fn f x h
    exact ⟨d, ad, fd, ps, N, x, st, e, h1, h2, h3, h4, h5, h6, h7⟩
  refine ⟨adL, fdL, l1, l2, ?_⟩
  exact law_fn T1 b1 b2.kp b3 (begun_fn T0 (jf := 1) rfl lB b2 b4 cB) (Nat.le_add_right _ _) lL hNL l2 l4 cL law
end
theorem con_int {K : PySem.W.Frag} {mg : Str → Option Value} {x : Str} {i : Int} (h : ∃ t, mg x = some (.int i t)) : ∃ u v, mg x = some u ∧ RelV v u ∧ ∀ (C : Cc) (H : Hp), C.K = K → Den C H v (.int i) := by
  obtain ⟨t, h⟩ := h
  exact ⟨_, .int i, h, ⟨t, rfl⟩, fun _ _ _ => .int i⟩
theorem con_str {K : PySem.W.Frag} {mg : Str → Option Value} {x z : Str} (h : ∃ t, mg x = some (.str z t)) : ∃ u v, mg x = some u ∧ RelV v u ∧ ∀ (C : Cc) (H : Hp), C.K = K → Den C H v (.str z) := by
  obtain ⟨t, h⟩ := h
  exact ⟨_, .str z, h, ⟨t, rfl⟩, fun _ _ _ => .str z⟩
end Pc

set_option Elab.async false
set_option linter.all false
set_option maxRecDepth 100000
set_option maxHeartbeats 4000000
/-! # Constants of the module; the head's facts -/
namespace Pc
open PySem L2 PyProof.Rows
mutual
/-- the value is the data d, all of it in the written part -/
def denK (K : PySem.W.Frag) : D → Value → Bool
  | .none, v => (match v with | .none => true | _ => false)
  | .bool b, v => (match v with | .bool c => decide (c = b) | _ => false)
  | .int i, v => (match v with | .int j _ => decide (j = i) | _ => false)
  | .str s, v => (match v with | .str t _ => decide (t = s) | _ => false)
  | .tup ds, v => (match v with
    | .ref a => (match K.lookup a with
      | some ⟨.type c, _, .seq its _, _⟩ => decide (c = "tuple") && decide (its.size ≤ sizeLine) && denKs K ds its.toList
      | _ => false)
    | _ => false)
  | _, _ => false
def denKs (K : PySem.W.Frag) : List D → List Value → Bool
  | [], vs => (match vs with | [] => true | _ => false)
  | d :: ds, vs => (match vs with
    | v :: r => denK K d v && denKs K ds r
    | _ => false)
end
mutual
theorem denK_ok {K : PySem.W.Frag} : ∀ (d : D) (u : Value), denK K d u = true → ∃ v, RelV v u ∧ ∀ (C : Cc) (H : Hp), C.K = K → Den C H v d
  | .none, u, h => by
    cases u <;> first | (simp [denK] at h; done) | exact ⟨.non, rfl, fun _ _ _ => .non⟩
  | .bool b, u, h => by
    cases u <;> first | (simp [denK] at h; done) | skip
    simp [denK] at h
    subst h
    exact ⟨.bl _, rfl, fun _ _ _ => .bl _⟩
  | .int i, u, h => by
    cases u <;> first | (simp [denK] at h; done) | skip
    simp [denK] at h
    subst h
    exact ⟨.int _, ⟨_, rfl⟩, fun _ _ _ => .int _⟩
  | .str s, u, h => by
    cases u <;> first | (simp [denK] at h; done) | skip
    simp [denK] at h
    subst h
    exact ⟨.str _, ⟨_, rfl⟩, fun _ _ _ => .str _⟩
  | .tup ds, u, h => by
    unfold denK at h
    split at h
    · rename_i a
      split at h
      · rename_i c dd its m sl e
        simp only [Bool.and_eq_true, decide_eq_true_eq] at h
        obtain ⟨⟨rfl, h2⟩, h3⟩ := h
        obtain ⟨vs, r, l⟩ := denKs_ok ds its.toList h3
        exact ⟨.ref a, rfl, fun C H eK => .tup (.inr ⟨_, its, m, by rw [eK]; exact e, rfl, rfl, h2, r⟩) (l C H eK)⟩
      · cases h
    · cases h
  | .lst _, u, h => by simp [denK] at h
  | .rep _, u, h => by simp [denK] at h
  | .world, u, h => by simp [denK] at h
  | .scr _, u, h => by simp [denK] at h
theorem denKs_ok {K : PySem.W.Frag} : ∀ (ds : List D) (us : List Value), denKs K ds us = true → ∃ vs, Vals vs us ∧ ∀ (C : Cc) (H : Hp), C.K = K → DenL C H vs ds
  | [], us, h => by
    cases us with
    | nil => exact ⟨[], .nil, fun _ _ _ => .nil⟩
    | cons _ _ => simp [denKs] at h
  | d :: ds, us, h => by
    cases us with
    | nil => simp [denKs] at h
    | cons u us =>
      simp only [denKs, Bool.and_eq_true] at h
      obtain ⟨v, r, l⟩ := denK_ok d u h.1
      obtain ⟨vs, rs, ls⟩ := denKs_ok ds us h.2
      exact ⟨v :: vs, .cons r rs, fun C H e => .cons (l C H e) (ls C H e)⟩
end
def conK (K : PySem.W.Frag) (p : Str × D) : Bool := match PySem.W.nsIn K mainGlobals p.1 with
  | some (some v) => denK K p.2 v
  | _ => false
theorem conK_ok {K : PySem.W.Frag} {h : Heap} {mg : Str → Option Value} (X : K.In h) (G : h.Ns mainGlobals mg) {x : Str} {d : D} (c : conK K (x, d) = true) : ∃ u v, mg x = some u ∧ RelV v u ∧ ∀ (C : Cc) (H : Hp), C.K = K → Den C H v d := by
  unfold conK at c
  split at c
  · rename_i v e
    obtain ⟨w, r, l⟩ := denK_ok d v c
    exact ⟨v, w, PySem.W.mg_of X G e, r, l⟩
  · cases c
/-- the head's Hook: facts, defs, constants -/
def hookC (n : Nat) (fa : List He.Fa) (fn : List He.DefD) (cs : List (Str × D)) : PySem.W.Hook where
  α := He.AlD × Bool
  obs := fun s => (He.obsDG n fa fn s.heap.get?, cs.all (conK (He.frG s.heap.get? (He.asD s.heap.get? n))))
  val := fun _ => (He.valD fn, true)
  says := fun _ h => ∃ K : PySem.W.Frag, K.In h ∧ He.SaysD fa fn K ∧ cs.all (conK K) = true
  of := fun _ _ e => ⟨_, He.frG_in, congrArg Prod.fst e, congrArg Prod.snd e⟩
  keeps := fun _ _ _ z kp => by
    obtain ⟨K, inn, rest⟩ := z
    exact ⟨K, PySem.W.Frag.In.keeps inn kp, rest⟩
def obC (n : Nat) (fa : List He.Fa) (fn : List He.DefD) (cs : List (Str × D)) (s : PySem.W.SharedT) : He.AlD × Bool := (He.obsDG n fa fn (HandSHeadRun.getT s), cs.all (conK (He.frG (HandSHeadRun.getT s) (He.asD (HandSHeadRun.getT s) n))))
theorem obC_eq {n : Nat} {fa : List He.Fa} {fn : List He.DefD} {cs : List (Str × D)} (s : PySem.W.SharedT) : obC n fa fn cs s = (hookC n fa fn cs).obs s.abs := by
  have e : HandSHeadRun.getT s = s.abs.heap.get? := funext (HandSHeadRun.getT_eq s)
  show (_, _) = (_, _)
  rw [e]
end Pc
namespace Pc
open PySem L2 PyProof.Rows
theorem fnP_one {K : PySem.W.Frag} {x q x' q' : Str} {st st' : Stmt} {f : Addr} {fd fd' : FuncData} (F : FnP K x q st f fd) (F' : FnP K x' q' st' f fd') : fd = fd' := by
  obtain ⟨oc, od, dV, kV, doc, pm, an, cdv, ct, osl, _, lk, _⟩ := F.ex
  obtain ⟨oc', od', dV', kV', doc', pm', an', cdv', ct', osl', _, lk', _⟩ := F'.ex
  rw [lk] at lk'
  cases lk'
  rfl
end Pc

set_option Elab.async false
set_option linter.all false
set_option maxRecDepth 100000
set_option maxHeartbeats 4000000
/-! # Without draws the world does not matter -/
namespace Pc
def Pu {α : Type} (m : M α) : Prop := (∃ a, m = M.ok a) ∨ m = M.stuck
theorem Pu.ok {α : Type} (a : α) : Pu (M.ok a) := .inl ⟨a, rfl⟩
theorem Pu.stuck {α : Type} : Pu (M.stuck : M α) := .inr rfl
theorem Pu.of {α : Type} (o : Option α) : Pu (M.of o) := by cases o <;> first | exact .stuck | exact .ok _
theorem Pu.bind {α β : Type} {m : M α} {f : α → M β} (h : Pu m) (g : ∀ a, Pu (f a)) : Pu (M.bind m f) := by
  rcases h with ⟨a, rfl⟩ | rfl
  · exact g a
  · exact .stuck
theorem Pu.run {α : Type} {m : M α} (h : Pu m) {w w' : WS} {a : α} (e : m w = .ok a w') : m = M.ok a := by
  rcases h with ⟨b, rfl⟩ | rfl
  · cases e; rfl
  · cases e
theorem Pu.ite {α : Type} {c : Prop} [Decidable c] {m m' : M α} (h : Pu m) (h' : Pu m') : Pu (if c then m else m') := by
  by_cases q : c
  · rw [if_pos q]; exact h
  · rw [if_neg q]; exact h'
theorem Pu.map {f : D → M (Option D)} (h : ∀ d, Pu (f d)) : ∀ ds, Pu (mapR f ds)
  | [] => .ok _
  | d :: ds => by
    rw [mapR]
    exact (h d).bind fun o => (Pu.map h ds).bind fun ys => .ok _
theorem Pu.flat {f : D → M (List D)} (h : ∀ d, Pu (f d)) : ∀ ds, Pu (flatR f ds)
  | [] => .ok _
  | d :: ds => by
    rw [flatR]
    exact (h d).bind fun o => (Pu.flat h ds).bind fun ys => .ok _
theorem Pu.lst {m : M (List D)} (h : Pu m) : Pu (lstR m) := h.bind fun ds => .ite (.ok _) .stuck
theorem Pu.for_ {f : D → SEnv → M Fl} (h : ∀ d env, Pu (f d env)) : ∀ ds env, Pu (forR f ds env)
  | [], env => .ok _
  | d :: ds, env => by
    rw [forR]
    exact (h d env).bind fun r => by cases r <;> first | exact Pu.for_ h ds _ | exact .ok _
theorem Pu.while_ {c : SEnv → M Bool} {f : SEnv → M Fl} (hc : ∀ env, Pu (c env)) (h : ∀ env, Pu (f env)) : ∀ n env, Pu (whileR c f n env)
  | 0, env => .stuck
  | n + 1, env => by
    rw [whileR]
    exact (hc env).bind fun b => .ite ((h env).bind fun r => by cases r <;> first | exact Pu.while_ hc h n _ | exact .ok _) (.ok _)
mutual
def ndE : Ex → Bool
  | .var _ | .glo _ | .cst _ => true
  | .bin _ a b | .cmp _ a b | .idx a b => ndE a && ndE b
  | .neg a | .not a | .isI a _ => ndE a
  | .bop _ es | .tup es | .lst es | .call _ es | .bi _ es => ndEs es
  | .chain _ _ a b c | .ife a b c => ndE a && ndE b && ndE c
  | .slice a l h => ndE a && ndEs l && ndEs h
  | .comp e _ _ s i => ndE e && ndS s && ndEs i
  | .comp2 e _ _ _ _ s t => ndE e && ndS s && ndS t
  | .draw _ _ => false
def ndEs : Exs → Bool
  | .nil => true
  | .cons e r | .star e r => ndE e && ndEs r
def ndS : Src → Bool
  | .ex a | .rng1 a | .enu a => ndE a
  | .rng2 a b | .zip a b => ndE a && ndE b
end
section
variable {cl : Nat → List Sl → M D} {gl : Nat → D} (hcl : ∀ f as, Pu (cl f as))
include hcl
mutual
theorem pu_ev : ∀ (a : Ex) (m : Bool) (env : SEnv), ndE a = true → Pu (ev cl gl a m env)
  | .var i, m, env, _ => by
    rw [ev]
    split <;> first | exact .ok _ | exact .stuck | (cases m <;> first | exact .ok _ | exact .stuck)
  | .glo g, m, env, _ => by rw [ev]; exact .ok _
  | .cst d, m, env, _ => by rw [ev]; exact .ok _
  | .bin op a b, m, env, h => by
    simp only [ndE, Bool.and_eq_true] at h
    rw [ev]
    exact (pu_ev a true env h.1).bind fun x => (pu_ev b true env h.2).bind fun y => .of _
  | .neg a, m, env, h => by
    simp only [ndE] at h
    rw [ev]
    exact (pu_ev a false env h).bind fun x => by cases x <;> first | exact .ok _ | exact .stuck
  | .not a, m, env, h => by
    simp only [ndE] at h
    rw [ev]
    exact (pu_ev a true env h).bind fun x => (Pu.of _).bind fun c => .ok _
  | .bop and es, m, env, h => by
    simp only [ndE] at h
    rw [ev]
    exact pu_b es and env h
  | .cmp op a b, m, env, h => by
    simp only [ndE, Bool.and_eq_true] at h
    rw [ev]
    exact (pu_ev a true env h.1).bind fun x => (pu_ev b true env h.2).bind fun y => (Pu.of _).bind fun c => .ok _
  | .chain o1 o2 a b c, m, env, h => by
    simp only [ndE, Bool.and_eq_true] at h
    rw [ev]
    exact (pu_ev a true env h.1.1).bind fun x => (pu_ev b true env h.1.2).bind fun y => (Pu.of _).bind fun k => .ite ((pu_ev c true env h.2).bind fun z => (Pu.of _).bind fun r => .ok _) (.ok _)
  | .ife c a b, m, env, h => by
    simp only [ndE, Bool.and_eq_true] at h
    rw [ev]
    exact (pu_ev c true env h.1.1).bind fun x => (Pu.of _).bind fun t => .ite (pu_ev a false env h.1.2) (pu_ev b false env h.2)
  | .tup es, m, env, h => by
    simp only [ndE] at h
    rw [ev]
    exact (pu_es es env h).bind fun ds => .ite (.ok _) .stuck
  | .lst es, m, env, h => by
    simp only [ndE] at h
    rw [ev]
    exact (pu_es es env h).lst
  | .idx a i, m, env, h => by
    simp only [ndE, Bool.and_eq_true] at h
    rw [ev]
    exact (pu_ev a true env h.1).bind fun x => (pu_ev i false env h.2).bind fun y => .of _
  | .slice a lo hi, m, env, h => by
    simp only [ndE, Bool.and_eq_true] at h
    rw [ev]
    exact (pu_ev a true env h.1.1).bind fun x => (pu_o lo env h.1.2).bind fun l => (pu_o hi env h.2).bind fun u => .of _
  | .comp e tg own src ifs, m, env, h => by
    simp only [ndE, Bool.and_eq_true] at h
    rw [ev]
    exact .ite (Pu.lst ((pu_s src true env h.1.2).bind fun ds => .map (fun d => (Pu.of _).bind fun e2 => (pu_f ifs e2 h.2).bind fun c => .ite ((pu_ev e false e2 h.1.1).bind fun y => .ok _) (.ok _)) ds)) .stuck
  | .comp2 e t1 t2 own own2 s1 s2, m, env, h => by
    simp only [ndE, Bool.and_eq_true] at h
    rw [ev]
    exact .ite (Pu.lst ((pu_s s1 true env h.1.2).bind fun ds => .flat (fun d => (Pu.of _).bind fun e1 => (pu_s s2 false e1 h.2).bind fun es => .map (fun d => (Pu.of _).bind fun e2 => (pu_ev e false e2 h.1.1).bind fun y => .ok _) es) ds)) .stuck
  | .call f es, m, env, h => by
    simp only [ndE] at h
    rw [ev]
    exact (pu_g es env h).bind fun as => hcl f as
  | .bi b es, m, env, h => by
    simp only [ndE] at h
    rw [ev]
    exact (pu_a es env h).bind fun as => .of _
  | .isI a ts, m, env, h => by
    simp only [ndE] at h
    rw [ev]
    exact (pu_ev a true env h).bind fun x => (Pu.of _).bind fun c => .ok _
  | .draw a b, m, env, h => by simp [ndE] at h
theorem pu_b : ∀ (es : Exs) (and : Bool) (env : SEnv), ndEs es = true → Pu (evB cl gl and es env)
  | .nil, and, env, _ => by
    have q : evB cl gl and .nil env = M.stuck := by simp [evB]
    rw [q]; exact .stuck
  | .cons a .nil, and, env, h => by
    simp only [ndEs, Bool.and_eq_true] at h
    rw [evB]
    exact pu_ev a false env h.1
  | .cons a (.cons b r), and, env, h => by
    have h1 : ndE a = true := by simp only [ndEs, Bool.and_eq_true] at h; exact h.1
    have h2 : ndEs (.cons b r) = true := by rw [ndEs, Bool.and_eq_true] at h; exact h.2
    rw [evB]
    · exact (pu_ev a false env h1).bind fun x => (Pu.of _).bind fun c => .ite (pu_b (.cons b r) and env h2) (.ok _)
    · intro z; cases z
  | .cons a (.star b r), and, env, h => by
    have h1 : ndE a = true := by simp only [ndEs, Bool.and_eq_true] at h; exact h.1
    have h2 : ndEs (.star b r) = true := by rw [ndEs, Bool.and_eq_true] at h; exact h.2
    rw [evB]
    · exact (pu_ev a false env h1).bind fun x => (Pu.of _).bind fun c => .ite (pu_b (.star b r) and env h2) (.ok _)
    · intro z; cases z
  | .star a r, and, env, _ => by
    have q : evB cl gl and (.star a r) env = M.stuck := by simp [evB]
    rw [q]; exact .stuck
theorem pu_es : ∀ (es : Exs) (env : SEnv), ndEs es = true → Pu (evs cl gl es env)
  | .nil, env, _ => by rw [evs]; exact .ok _
  | .cons a r, env, h => by
    simp only [ndEs, Bool.and_eq_true] at h
    rw [evs]
    exact (pu_ev a false env h.1).bind fun x => (pu_es r env h.2).bind fun xs => .ok _
  | .star a r, env, h => by
    simp only [ndEs, Bool.and_eq_true] at h
    rw [evs]
    exact (pu_ev a true env h.1).bind fun x => by
      cases elemsOf x with
      | none => exact .stuck
      | some ys => exact (pu_es r env h.2).bind fun xs => .ok _
theorem pu_a : ∀ (es : Exs) (env : SEnv), ndEs es = true → Pu (evAs cl gl es env)
  | .nil, env, _ => by rw [evAs]; exact .ok _
  | .cons a r, env, h => by
    simp only [ndEs, Bool.and_eq_true] at h
    rw [evAs]
    exact (pu_ev a true env h.1).bind fun x => (pu_a r env h.2).bind fun xs => .ok _
  | .star a r, env, h => by rw [evAs]; exact .stuck
theorem pu_g : ∀ (es : Exs) (env : SEnv), ndEs es = true → Pu (evArgs cl gl es env)
  | .nil, env, _ => by rw [evArgs]; exact .ok _
  | .cons a r, env, h => by
    simp only [ndEs, Bool.and_eq_true] at h
    rw [evArgs]
    exact (pu_ev a true env h.1).bind fun x => (pu_g r env h.2).bind fun xs => .ok _
  | .star a r, env, h => by rw [evArgs]; exact .stuck
theorem pu_o : ∀ (es : Exs) (env : SEnv), ndEs es = true → Pu (evOpt cl gl es env)
  | .nil, env, _ => by rw [evOpt]; exact .ok _
  | .cons a .nil, env, h => by
    simp only [ndEs, Bool.and_eq_true] at h
    rw [evOpt]
    exact (pu_ev a false env h.1).bind fun x => by cases x <;> first | exact .ok _ | exact .stuck
  | .cons a (.cons b r), env, h => by
    have q : evOpt cl gl (.cons a (.cons b r)) env = M.stuck := by simp [evOpt]
    rw [q]; exact .stuck
  | .cons a (.star b r), env, h => by
    have q : evOpt cl gl (.cons a (.star b r)) env = M.stuck := by simp [evOpt]
    rw [q]; exact .stuck
  | .star a r, env, h => by
    have q : evOpt cl gl (.star a r) env = M.stuck := by simp [evOpt]
    rw [q]; exact .stuck
theorem pu_f : ∀ (es : Exs) (env : SEnv), ndEs es = true → Pu (evIf cl gl es env)
  | .nil, env, _ => by rw [evIf]; exact .ok _
  | .cons a .nil, env, h => by
    simp only [ndEs, Bool.and_eq_true] at h
    rw [evIf]
    exact (pu_ev a true env h.1).bind fun x => .of _
  | .cons a (.cons b r), env, h => by
    have q : evIf cl gl (.cons a (.cons b r)) env = M.stuck := by simp [evIf]
    rw [q]; exact .stuck
  | .cons a (.star b r), env, h => by
    have q : evIf cl gl (.cons a (.star b r)) env = M.stuck := by simp [evIf]
    rw [q]; exact .stuck
  | .star a r, env, h => by
    have q : evIf cl gl (.star a r) env = M.stuck := by simp [evIf]
    rw [q]; exact .stuck
theorem pu_s : ∀ (s : Src) (m : Bool) (env : SEnv), ndS s = true → Pu (evS cl gl s m env)
  | .ex a, m, env, h => by
    simp only [ndS] at h
    rw [evS]
    exact (pu_ev a m env h).bind fun x => .of _
  | .rng1 a, m, env, h => by
    simp only [ndS] at h
    rw [evS]
    exact (pu_ev a false env h).bind fun x => by cases x <;> first | exact .ite (.ok _) .stuck | exact .stuck
  | .rng2 a b, m, env, h => by
    simp only [ndS, Bool.and_eq_true] at h
    rw [evS]
    exact (pu_ev a false env h.1).bind fun x => (pu_ev b false env h.2).bind fun y => by cases x <;> cases y <;> first | exact .ite (.ok _) .stuck | exact .stuck
  | .enu a, m, env, h => by
    simp only [ndS] at h
    rw [evS]
    exact (pu_ev a m env h).bind fun x => (Pu.of _).bind fun xs => .ok _
  | .zip a b, m, env, h => by
    simp only [ndS, Bool.and_eq_true] at h
    rw [evS]
    exact (pu_ev a m env h.1).bind fun x => (pu_ev b m env h.2).bind fun y => (Pu.of _).bind fun xs => (Pu.of _).bind fun ys => .ok _
end
end
mutual
def ndSt : St → Bool
  | .pass | .retOwn _ | .retN | .pop _ _ | .raise | .freeze _ => true
  | .expr e | .ret e | .asg _ e | .asgOwn _ e | .unp _ e | .aug _ _ e | .app _ e | .ext _ e => ndE e
  | .par _ es => ndEs es
  | .put _ k e => ndE k && ndE e
  | .ifs c a b => ndE c && ndSts a && ndSts b
  | .fors _ s b => ndS s && ndSts b
  | .whl c b => ndE c && ndSts b
def ndSts : List St → Bool
  | [] => true
  | s :: r => ndSt s && ndSts r
end
section
variable {fr : Nat → Bool} {cl : Nat → List Sl → M D} {gl : Nat → D} (hcl : ∀ f as, Pu (cl f as))
include hcl
mutual
theorem pu_st : ∀ (s : St) (env : SEnv), ndSt s = true → Pu (evSt fr cl gl s env)
  | .pass, env, _ => by rw [evSt]; exact .ok _
  | .expr e, env, h => by
    simp only [ndSt] at h
    rw [evSt]
    exact (pu_ev hcl e true env h).bind fun _ => .ok _
  | .ret e, env, h => by
    simp only [ndSt] at h
    rw [evSt]
    exact (pu_ev hcl e false env h).bind fun _ => .ok _
  | .retOwn i, env, _ => by
    rw [evSt]
    split <;> first | exact .ok _ | exact .stuck
  | .retN, env, _ => by rw [evSt]; exact .ok _
  | .asg i e, env, h => by
    simp only [ndSt] at h
    rw [evSt]
    exact (pu_ev hcl e false env h).bind fun _ => .ite (.ok _) .stuck
  | .asgOwn i e, env, h => by
    simp only [ndSt] at h
    rw [evSt]
    exact (pu_ev hcl e false env h).bind fun d => by cases d <;> first | exact .ite (.ok _) .stuck | exact .stuck
  | .par is es, env, h => by
    simp only [ndSt] at h
    rw [evSt]
    exact (pu_es hcl es env h).bind fun ds => by split <;> first | exact .ok _ | exact .stuck
  | .unp tg e, env, h => by
    simp only [ndSt] at h
    rw [evSt]
    exact (pu_ev hcl e false env h).bind fun d => by split <;> first | exact .ok _ | exact .stuck
  | .aug i op e, env, h => by
    simp only [ndSt] at h
    rw [evSt]
    split
    · exact (pu_ev hcl e false env h).bind fun d => by split <;> first | exact .ok _ | exact .stuck
    · exact .stuck
  | .app i e, env, h => by
    simp only [ndSt] at h
    rw [evSt]
    exact (pu_ev hcl e false env h).bind fun d => by split <;> first | exact .ite (.ok _) .stuck | exact .stuck
  | .ext i e, env, h => by
    simp only [ndSt] at h
    rw [evSt]
    exact (pu_ev hcl e false env h).bind fun d => by split <;> first | exact .ite (.ok _) .stuck | exact .stuck
  | .pop tg i, env, _ => by
    rw [evSt]
    split
    · split
      · split <;> first | exact .ok _ | exact .stuck
      · exact .stuck
    · exact .stuck
  | .put i k e, env, h => by
    simp only [ndSt, Bool.and_eq_true] at h
    rw [evSt]
    exact (pu_ev hcl e false env h.2).bind fun d => (pu_ev hcl k false env h.1).bind fun j => by
      split
      · split <;> first | exact .ok _ | exact .stuck
      · exact .stuck
  | .ifs c a b, env, h => by
    simp only [ndSt, Bool.and_eq_true] at h
    rw [evSt]
    exact (pu_ev hcl c true env h.1.1).bind fun x => (Pu.of _).bind fun t => .ite (pu_sts a env h.1.2) (pu_sts b env h.2)
  | .fors tg s b, env, h => by
    simp only [ndSt, Bool.and_eq_true] at h
    rw [evSt]
    exact (pu_s hcl s false env h.1).bind fun ds => .for_ (fun d env => (Pu.of _).bind fun env' => pu_sts b env' h.2) ds env
  | .whl c b, env, h => by
    simp only [ndSt, Bool.and_eq_true] at h
    rw [evSt]
    exact .while_ (fun env => (pu_ev hcl c true env h.1).bind fun x => .of _) (fun env => pu_sts b env h.2) _ env
  | .raise, env, _ => by rw [evSt]; exact .stuck
  | .freeze i, env, _ => by
    rw [evSt]
    split <;> first | exact .ok _ | exact .stuck
theorem pu_sts : ∀ (s : List St) (env : SEnv), ndSts s = true → Pu (evSts fr cl gl s env)
  | [], env, _ => by rw [evSts]; exact .ok _
  | s :: r, env, h => by
    simp only [ndSts, Bool.and_eq_true] at h
    rw [evSts]
    exact (pu_st s env h.1).bind fun f => by cases f <;> first | exact pu_sts r _ h.2 | exact .ok _
end
end
theorem pu_call {tb : Nat → Option Def} {gl : Nat → D} (h : ∀ f d, tb f = some d → ndSts d.body = true) : ∀ (k f : Nat) (as : List Sl), Pu (evCall tb gl k f as)
  | 0, f, as => .stuck
  | k + 1, f, as => by
    rw [evCall]
    cases e : tb f with
    | none => exact .stuck
    | some d => exact .ite ((pu_sts (pu_call h k) d.body _ (h f d e)).bind fun r => by cases r <;> first | exact .ok _ | exact .ite .stuck (.ok _)) .stuck
/-- the first n defs draw nothing -/
def ndTab (tb : Nat → Option Def) (n : Nat) : Bool := (List.range n).all fun f => match tb f with
  | some d => ndSts d.body
  | none => true
theorem ndTab_ok {tb : Nat → Option Def} {n : Nat} (h : ndTab tb n = true) (hn : ∀ f, tb (n + f) = none) : ∀ f d, tb f = some d → ndSts d.body = true := fun f d e => by
  by_cases hf : f < n
  · have q := List.all_eq_true.mp h f (List.mem_range.mpr hf)
    rw [e] at q
    exact q
  · have z := hn (f - n)
    rw [show n + (f - n) = f by omega, e] at z
    cases z
end Pc

set_option Elab.async false
set_option linter.all false
set_option maxRecDepth 100000
set_option maxHeartbeats 4000000
/-! # Running the evaluator by hand, step by step -/
namespace Pc
theorem bind_asc {α β γ : Type} (m : M α) (f : α → M β) (g : β → M γ) : M.bind (M.bind m f) g = M.bind m fun a => M.bind (f a) g := by
  funext w
  unfold M.bind
  cases m w <;> rfl
theorem stuck_bnd {α β : Type} (f : α → M β) : M.bind (M.stuck : M α) f = M.stuck := rfl
theorem of_some_ {α : Type} (a : α) : M.of (some a) = M.ok a := rfl
theorem ok_at_ {α : Type} (a : α) (w : WS) : M.ok a w = .ok a w := rfl
def drawM (l : Int) : M D := fun w => match drawW w l with
  | some (i, w') => .ok (.int i) w'
  | none => .stuck
theorem drawM_at {α : Type} {w w' : WS} {l i : Int} {f : D → M α} (e : drawW w l = some (i, w')) : M.bind (drawM l) f w = f (.int i) w' := by
  unfold M.bind drawM
  rw [e]
  rfl
theorem drawM_end {w w' : WS} {l i : Int} (e : drawW w l = some (i, w')) : drawM l w = .ok (.int i) w' := by
  unfold drawM
  rw [e]
theorem drawW_ok {w : WS} {l : Int} (h0 : 0 < l) (h1 : l ≤ 1000000000) (hs : w.spot.natAbs.log2 < 200000) : ∃ i w', drawW w l = some (i, w') ∧ 0 ≤ i ∧ i < l ∧ w'.spot = w.spot + 1 := by
  unfold drawW
  rw [if_pos ⟨h0, h1, hs⟩]
  simp only
  split
  · exact ⟨_, _, rfl, Int.emod_nonneg _ (by omega), Int.emod_lt_of_pos _ h0, rfl⟩
  · exact ⟨_, _, rfl, Int.emod_nonneg _ (by omega), Int.emod_lt_of_pos _ h0, rfl⟩
section
variable (cl : Nat → List Sl → M D) (gl : Nat → D) (fr : Nat → Bool) (env : SEnv) (m : Bool)
def varM (m : Bool) : Option Sl → M D
  | some (.imm d) => M.ok d
  | some (.own d) => if m then M.ok d else M.stuck
  | some (.bor d) => if m then M.ok d else M.stuck
  | _ => M.stuck
theorem ev_var (i : Nat) : ev cl gl (.var i) m env = varM m env[i]? := by rw [ev]; rfl
theorem varM_imm (d : D) : varM m (some (.imm d)) = M.ok d := rfl
theorem varM_own (d : D) : varM true (some (.own d)) = M.ok d := rfl
theorem varM_bor (d : D) : varM true (some (.bor d)) = M.ok d := rfl
theorem ev_glo (g : Nat) : ev cl gl (.glo g) m env = M.ok (gl g) := by rw [ev]
theorem ev_cst (d : D) : ev cl gl (.cst d) m env = M.ok d := by rw [ev]
theorem ev_bin (op : PySem.Operator) (a b : Ex) : ev cl gl (.bin op a b) m env = M.bind (ev cl gl a true env) fun x => M.bind (ev cl gl b true env) fun y => M.of (binFn op x y) := by rw [ev]
def negM : D → M D
  | .int i => M.ok (.int (-i))
  | _ => M.stuck
theorem negM_i (i : Int) : negM (.int i) = M.ok (.int (-i)) := rfl
theorem ev_neg (a : Ex) : ev cl gl (.neg a) m env = M.bind (ev cl gl a false env) negM := by rw [ev]; congr
theorem ev_not (a : Ex) : ev cl gl (.not a) m env = M.bind (ev cl gl a true env) fun x => M.bind (M.of (truth x)) fun c => M.ok (.bool (!c)) := by rw [ev]
theorem ev_bop (and : Bool) (es : Exs) : ev cl gl (.bop and es) m env = evB cl gl and es env := by rw [ev]
theorem ev_cmp (op : PySem.CmpOp) (a b : Ex) : ev cl gl (.cmp op a b) m env = M.bind (ev cl gl a true env) fun x => M.bind (ev cl gl b true env) fun y => M.bind (M.of (cmpFn op x y)) fun c => M.ok (.bool c) := by rw [ev]
theorem ev_chain (o1 o2 : PySem.CmpOp) (a b c : Ex) : ev cl gl (.chain o1 o2 a b c) m env = M.bind (ev cl gl a true env) fun x => M.bind (ev cl gl b true env) fun y => M.bind (M.of (cmpFn o1 x y)) fun k =>
      if k then M.bind (ev cl gl c true env) fun z => M.bind (M.of (cmpFn o2 y z)) fun r => M.ok (.bool r) else M.ok (.bool false) := by rw [ev]
theorem ev_ife (c a b : Ex) : ev cl gl (.ife c a b) m env = M.bind (ev cl gl c true env) fun x => M.bind (M.of (truth x)) fun t => if t then ev cl gl a false env else ev cl gl b false env := by rw [ev]
theorem ev_tup (es : Exs) : ev cl gl (.tup es) m env = M.bind (evs cl gl es env) fun ds => if ds.length ≤ line then M.ok (.tup ds) else M.stuck := by rw [ev]
theorem ev_lst (es : Exs) : ev cl gl (.lst es) m env = lstR (evs cl gl es env) := by rw [ev]
theorem lstR_ok (ds : List D) (h : ds.length ≤ line) : lstR (M.ok ds) = M.ok (.lst ds) := by rw [lstR, ok_bind, if_pos h]
theorem ev_idx (a i : Ex) : ev cl gl (.idx a i) m env = M.bind (ev cl gl a true env) fun x => M.bind (ev cl gl i false env) fun y => M.of (idxFn x y) := by rw [ev]
theorem ev_slice (a : Ex) (lo hi : Exs) : ev cl gl (.slice a lo hi) m env = M.bind (ev cl gl a true env) fun x => M.bind (evOpt cl gl lo env) fun l => M.bind (evOpt cl gl hi env) fun h => M.of (sliceFn x l h) := by rw [ev]
theorem ev_call (f : Nat) (args : Exs) : ev cl gl (.call f args) m env = M.bind (evArgs cl gl args env) fun as => cl f as := by rw [ev]
theorem ev_bi (b : Bi) (args : Exs) : ev cl gl (.bi b args) m env = M.bind (evAs cl gl args env) fun as => M.of (biFn b as) := by rw [ev]
def isTys (ts : List Ty) (x : D) : Option Bool := ts.foldr (fun t r => match isTy t x, r with | some p, some q => some (p || q) | _, _ => none) (some false)
theorem ev_isI (a : Ex) (ts : List Ty) : ev cl gl (.isI a ts) m env = M.bind (ev cl gl a true env) fun x => M.bind (M.of (isTys ts x)) fun c => M.ok (.bool c) := by rw [ev]; rfl
def drawK : D → D → M D
  | .world, .int l => drawM l
  | _, _ => M.stuck
theorem drawK_w (l : Int) : drawK .world (.int l) = drawM l := rfl
theorem ev_draw (a b : Ex) : ev cl gl (.draw a b) m env = M.bind (ev cl gl a false env) fun x => M.bind (ev cl gl b false env) fun y => drawK x y := by
  rw [ev]
  congr
theorem evB_one (and : Bool) (e : Ex) : evB cl gl and (.cons e .nil) env = ev cl gl e false env := by rw [evB]
theorem evB_cns (and : Bool) (e f : Ex) (r : Exs) : evB cl gl and (.cons e (.cons f r)) env = M.bind (ev cl gl e false env) fun x => M.bind (M.of (truth x)) fun c => if c == and then evB cl gl and (.cons f r) env else M.ok x := by
  rw [evB]
  intro h
  cases h
theorem evs_nil : evs cl gl .nil env = M.ok [] := by rw [evs]
theorem evs_cons (e : Ex) (r : Exs) : evs cl gl (.cons e r) env = M.bind (ev cl gl e false env) fun x => M.bind (evs cl gl r env) fun xs => M.ok (x :: xs) := by rw [evs]
theorem evAs_nil : evAs cl gl .nil env = M.ok [] := by rw [evAs]
theorem evAs_cons (e : Ex) (r : Exs) : evAs cl gl (.cons e r) env = M.bind (ev cl gl e true env) fun x => M.bind (evAs cl gl r env) fun xs => M.ok (x :: xs) := by rw [evAs]
def lendS (x : D) : Option Sl → Sl
  | some (.own _) => .bor x
  | some (.bor _) => .bor x
  | _ => .imm x
def lend (env : SEnv) (x : D) : Ex → Sl
  | .var i => lendS x env[i]?
  | _ => .imm x
theorem lendS_imm (x d : D) : lendS x (some (.imm d)) = .imm x := rfl
theorem lendS_own (x d : D) : lendS x (some (.own d)) = .bor x := rfl
theorem lendS_bor (x d : D) : lendS x (some (.bor d)) = .bor x := rfl
theorem evArgs_nil : evArgs cl gl .nil env = M.ok [] := by rw [evArgs]
theorem evArgs_cons (e : Ex) (r : Exs) : evArgs cl gl (.cons e r) env = M.bind (ev cl gl e true env) fun x => M.bind (evArgs cl gl r env) fun xs => M.ok (lend env x e :: xs) := by
  rw [evArgs]
  congr
theorem evOpt_nil : evOpt cl gl .nil env = M.ok none := by rw [evOpt]
def optM : D → M (Option Int)
  | .int i => M.ok (some i)
  | _ => M.stuck
theorem evOpt_one (e : Ex) : evOpt cl gl (.cons e .nil) env = M.bind (ev cl gl e false env) optM := by
  rw [evOpt]; congr
theorem evIf_nil : evIf cl gl .nil env = M.ok true := by rw [evIf]
theorem evIf_one (e : Ex) : evIf cl gl (.cons e .nil) env = M.bind (ev cl gl e true env) fun x => M.of (truth x) := by rw [evIf]
def seqF (k : SEnv → M Fl) : Fl → M Fl
  | .next env' => k env'
  | .ret d b => M.ok (.ret d b)
theorem seqF_next (k : SEnv → M Fl) (e : SEnv) : seqF k (.next e) = k e := rfl
theorem seqF_ret (k : SEnv → M Fl) (d : D) (b : Bool) : seqF k (.ret d b) = M.ok (.ret d b) := rfl
theorem evSts_nil : evSts fr cl gl [] env = M.ok (.next env) := by rw [evSts]
theorem evSts_cons (s : St) (r : List St) : evSts fr cl gl (s :: r) env = M.bind (evSt fr cl gl s env) (seqF (evSts fr cl gl r)) := by
  rw [evSts]; congr
theorem evSt_expr (e : Ex) : evSt fr cl gl (.expr e) env = M.bind (ev cl gl e true env) fun _ => M.ok (.next env) := by rw [evSt]
theorem evSt_ret (e : Ex) : evSt fr cl gl (.ret e) env = M.bind (ev cl gl e false env) fun d => M.ok (.ret d (freshEx fr e)) := by rw [evSt]
theorem evSt_asg (i : Nat) (e : Ex) : evSt fr cl gl (.asg i e) env = M.bind (ev cl gl e false env) fun d => if i < env.length then M.ok (.next (env.set i (.imm d))) else M.stuck := by rw [evSt]
theorem evSt_ifs (c : Ex) (a b : List St) : evSt fr cl gl (.ifs c a b) env = M.bind (ev cl gl c true env) fun x => M.bind (M.of (truth x)) fun t => if t then evSts fr cl gl a env else evSts fr cl gl b env := by rw [evSt]
def parM (o : Option SEnv) : M Fl := match o with
  | some env' => M.ok (.next env')
  | none => M.stuck
theorem parM_some (e : SEnv) : parM (some e) = M.ok (.next e) := rfl
theorem evSt_par (is : List (Nat × Bool)) (es : Exs) : evSt fr cl gl (.par is es) env = M.bind (evs cl gl es env) fun ds => parM (zipSet fr is es ds env) := by rw [evSt]; rfl
theorem evSt_unp (tg : Tg) (e : Ex) : evSt fr cl gl (.unp tg e) env = M.bind (ev cl gl e false env) fun d => parM (bindTg tg d env) := by rw [evSt]; rfl
end
theorem add_i (a b : Int) : binFn .Add (.int a) (.int b) = some (.int (a + b)) := rfl
theorem sub_i (a b : Int) : binFn .Sub (.int a) (.int b) = some (.int (a - b)) := rfl
theorem cmp_le (a b : Int) : cmpFn .LtE (.int a) (.int b) = some (decide (a ≤ b)) := rfl
theorem cmp_lt (a b : Int) : cmpFn .Lt (.int a) (.int b) = some (decide (a < b)) := rfl
theorem cmp_eq (a b : Int) : cmpFn .Eq (.int a) (.int b) = some (decide (a = b)) := rfl
theorem tr_b (b : Bool) : truth (.bool b) = some b := rfl
theorem idx30 (a b c : D) : idxFn (.tup [a, b, c]) (.int 0) = some a := rfl
theorem idx31 (a b c : D) : idxFn (.tup [a, b, c]) (.int 1) = some b := rfl
theorem idx32 (a b c : D) : idxFn (.tup [a, b, c]) (.int 2) = some c := rfl
end Pc

set_option Elab.async false
set_option linter.all false
set_option maxRecDepth 100000
set_option maxHeartbeats 4000000
/-! # The Core of the text -/
namespace K15
open Pc
/-- is_whole(value, least, most); slots: value least most -/
def c_is_whole : Def := ⟨3, 3, false, [
  (.ret (.bop true (.cons (.isI (.var 0) [.int]) (.cons (.not (.isI (.var 0) [.bool])) (.cons (.chain .LtE .LtE (.var 1) (.var 0) (.var 2)) .nil)))))]⟩
/-- are_rising(row); slots: row one other -/
def c_are_rising : Def := ⟨3, 1, false, [
  (.ret (.bi .all (.cons (.comp (.cmp .Lt (.var 1) (.var 2)) (.tp [(.nm 1), (.nm 2)]) [1, 2] (.zip (.var 0) (.slice (.var 0) (.cons (.cst (.int 1)) .nil) .nil)) .nil) .nil)))]⟩
/-- are_values(value, most); slots: value most one -/
def c_are_values : Def := ⟨3, 2, false, [
  (.ifs (.bop false (.cons (.not (.isI (.var 0) [.tuple])) (.cons (.not (.chain .LtE .LtE (.cst (.int 1)) (.bi .len (.cons (.var 0) .nil)) (.glo 2))) .nil))) [(.ret (.cst (.bool false)))] []),
  (.ret (.bop true (.cons (.bi .all (.cons (.comp (.call 0 (.cons (.var 2) (.cons (.cst (.int 1)) (.cons (.var 1) .nil)))) (.nm 2) [2] (.ex (.var 0)) .nil) .nil)) (.cons (.call 1 (.cons (.var 0) .nil)) .nil))))]⟩
/-- is_link(value, tables); slots: value tables -/
def c_is_link : Def := ⟨2, 2, false, [
  (.ifs (.bop false (.cons (.not (.isI (.var 0) [.tuple])) (.cons (.cmp .NotEq (.bi .len (.cons (.var 0) .nil)) (.cst (.int 3))) .nil))) [(.ret (.cst (.bool false)))] []),
  (.ifs (.bop false (.cons (.not (.call 0 (.cons (.idx (.var 0) (.cst (.int 0))) (.cons (.cst (.int 0)) (.cons (.bin .Sub (.var 1) (.cst (.int 1))) .nil))))) (.cons (.not (.call 0 (.cons (.idx (.var 0) (.cst (.int 1))) (.cons (.cst (.int 0)) (.cons (.bin .Sub (.var 1) (.cst (.int 1))) .nil))))) .nil))) [(.ret (.cst (.bool false)))] []),
  (.ret (.bop true (.cons (.cmp .Lt (.idx (.var 0) (.cst (.int 0))) (.idx (.var 0) (.cst (.int 1)))) (.cons (.call 2 (.cons (.idx (.var 0) (.cst (.int 2))) (.cons (.glo 4) .nil))) .nil))))]⟩
/-- need_links(links, tables); slots: links tables number link -/
def c_need_links : Def := ⟨4, 2, false, [
  (.ifs (.bop false (.cons (.not (.isI (.var 0) [.tuple])) (.cons (.cmp .Gt (.bi .len (.cons (.var 0) .nil)) (.glo 1)) .nil))) [.raise] []),
  (.fors (.tp [(.nm 2), (.nm 3)]) (.enu (.var 0)) [(.ifs (.bop false (.cons (.not (.call 3 (.cons (.var 3) (.cons (.var 1) .nil)))) (.cons (.bop true (.cons (.cmp .Gt (.var 2) (.cst (.int 0))) (.cons (.cmp .LtE (.slice (.var 3) .nil (.cons (.cst (.int 2)) .nil)) (.slice (.idx (.var 0) (.bin .Sub (.var 2) (.cst (.int 1)))) .nil (.cons (.cst (.int 2)) .nil))) .nil))) .nil))) [.raise] [])])]⟩
/-- need_prices(prices); slots: prices -/
def c_need_prices : Def := ⟨1, 1, false, [
  (.ifs (.bop false (.cons (.not (.isI (.var 0) [.tuple])) (.cons (.cmp .NotEq (.bi .len (.cons (.var 0) .nil)) (.cst (.int 3))) .nil))) [.raise] []),
  (.ifs (.bop false (.cons (.not (.call 0 (.cons (.idx (.var 0) (.cst (.int 0))) (.cons (.cst (.int 1)) (.cons (.glo 5) .nil))))) (.cons (.not (.call 0 (.cons (.idx (.var 0) (.cst (.int 1))) (.cons (.cst (.int 1)) (.cons (.glo 5) .nil))))) .nil))) [.raise] []),
  (.ifs (.not (.call 0 (.cons (.idx (.var 0) (.cst (.int 2))) (.cons (.cst (.int 0)) (.cons (.glo 5) .nil))))) [.raise] [])]⟩
/-- values_of(query); slots: query link -/
def c_values_of : Def := ⟨2, 1, true, [
  (.ret (.bin .Add (.bi .list (.cons (.idx (.var 0) (.cst (.int 0))) .nil)) (.comp (.idx (.var 1) (.cst (.int 2))) (.nm 1) [1] (.ex (.idx (.var 0) (.cst (.int 1)))) .nil)))]⟩
/-- unknown_in(query); slots: query place values -/
def c_unknown_in : Def := ⟨3, 1, true, [
  (.ret (.comp (.var 1) (.tp [(.nm 1), (.nm 2)]) [1, 2] (.enu (.call 6 (.cons (.var 0) .nil))) (.cons (.cmp .Gt (.bi .len (.cons (.var 2) .nil)) (.cst (.int 1))) .nil)))]⟩
/-- need_query(query); slots: query number values -/
def c_need_query : Def := ⟨3, 1, false, [
  (.ifs (.bop false (.cons (.not (.isI (.var 0) [.tuple])) (.cons (.cmp .NotEq (.bi .len (.cons (.var 0) .nil)) (.cst (.int 3))) .nil))) [.raise] []),
  (.ifs (.bop false (.cons (.not (.isI (.idx (.var 0) (.cst (.int 0))) [.tuple])) (.cons (.not (.chain .LtE .LtE (.cst (.int 1)) (.bi .len (.cons (.idx (.var 0) (.cst (.int 0))) .nil)) (.glo 0))) .nil))) [.raise] []),
  (.fors (.tp [(.nm 1), (.nm 2)]) (.enu (.idx (.var 0) (.cst (.int 0)))) [(.ifs (.not (.call 2 (.cons (.var 2) (.cons (.glo 3) .nil)))) [.raise] [])]),
  (.expr (.call 4 (.cons (.idx (.var 0) (.cst (.int 1))) (.cons (.bi .len (.cons (.idx (.var 0) (.cst (.int 0))) .nil)) .nil)))),
  (.expr (.call 5 (.cons (.idx (.var 0) (.cst (.int 2))) .nil))),
  (.ifs (.cmp .Gt (.bi .len (.cons (.call 7 (.cons (.var 0) .nil)) .nil)) (.glo 6)) [.raise] []),
  (.ret (.var 0))]⟩
/-- unknowns(query); slots: query -/
def c_unknowns : Def := ⟨1, 1, false, [
  (.ret (.bi .tuple (.cons (.call 7 (.cons (.call 8 (.cons (.var 0) .nil)) .nil)) .nil)))]⟩
/-- is_point(query, value); slots: query value rows one values -/
def c_is_point : Def := ⟨5, 2, false, [
  (.asg 2 (.call 6 (.cons (.var 0) .nil))),
  (.ifs (.bop false (.cons (.not (.isI (.var 1) [.tuple])) (.cons (.cmp .NotEq (.bi .len (.cons (.var 1) .nil)) (.bi .len (.cons (.var 2) .nil))) .nil))) [(.ret (.cst (.bool false)))] []),
  (.ret (.bi .all (.cons (.comp (.call 0 (.cons (.var 3) (.cons (.idx (.var 4) (.cst (.int 0))) (.cons (.idx (.var 4) (.neg (.cst (.int 1)))) .nil)))) (.tp [(.nm 3), (.nm 4)]) [3, 4] (.zip (.var 1) (.var 2)) .nil) .nil)))]⟩
/-- need_point(query, point); slots: query point -/
def c_need_point : Def := ⟨2, 2, false, [
  (.ifs (.not (.call 10 (.cons (.call 8 (.cons (.var 0) .nil)) (.cons (.var 1) .nil)))) [.raise] []),
  (.ret (.var 1))]⟩
/-- spread(rows); slots: rows found values row value -/
def c_spread : Def := ⟨5, 1, false, [
  (.asg 1 (.lst (.cons (.tup .nil) .nil))),
  (.fors (.nm 2) (.ex (.var 0)) [(.asg 1 (.comp2 (.tup (.star (.var 3) (.cons (.var 4) .nil))) (.nm 3) (.nm 4) [3, 4] [4] (.ex (.var 1)) (.ex (.var 2))))]),
  (.ret (.var 1))]⟩
/-- ends_of(values); slots: values -/
def c_ends_of : Def := ⟨1, 1, false, [
  (.ret (.ife (.cmp .Eq (.bi .len (.cons (.var 0) .nil)) (.cst (.int 1))) (.tup (.cons (.idx (.var 0) (.cst (.int 0))) .nil)) (.tup (.cons (.idx (.var 0) (.cst (.int 0))) (.cons (.idx (.var 0) (.neg (.cst (.int 1)))) .nil)))))]⟩
/-- corners_of(query); slots: query values -/
def c_corners_of : Def := ⟨2, 1, false, [
  (.ret (.call 12 (.cons (.comp (.call 13 (.cons (.var 1) .nil)) (.nm 1) [1] (.ex (.call 6 (.cons (.var 0) .nil))) .nil) .nil)))]⟩
/-- corners(query); slots: query -/
def c_corners : Def := ⟨1, 1, false, [
  (.ret (.bi .tuple (.cons (.call 14 (.cons (.call 8 (.cons (.var 0) .nil)) .nil)) .nil)))]⟩
/-- told_points(query); slots: query -/
def c_told_points : Def := ⟨1, 1, false, [
  (.ret (.bi .tuple (.cons (.call 12 (.cons (.call 6 (.cons (.call 8 (.cons (.var 0) .nil)) .nil)) .nil)) .nil)))]⟩
/-- need_place(query, place); slots: query place -/
def c_need_place : Def := ⟨2, 2, false, [
  (.ifs (.not (.call 0 (.cons (.var 1) (.cons (.cst (.int 0)) (.cons (.bin .Sub (.bi .len (.cons (.call 6 (.cons (.var 0) .nil)) .nil)) (.cst (.int 1))) .nil))))) [.raise] []),
  (.ret (.var 1))]⟩
/-- are_tables(query, value); slots: query value table -/
def c_are_tables : Def := ⟨3, 2, false, [
  (.ifs (.bop false (.cons (.not (.isI (.var 1) [.tuple])) (.cons (.cmp .Eq (.var 1) (.tup .nil)) .nil))) [(.ret (.cst (.bool false)))] []),
  (.ret (.bop true (.cons (.bi .all (.cons (.comp (.call 0 (.cons (.var 2) (.cons (.cst (.int 0)) (.cons (.bin .Sub (.bi .len (.cons (.idx (.var 0) (.cst (.int 0))) .nil)) (.cst (.int 1))) .nil)))) (.nm 2) [2] (.ex (.var 1)) .nil) .nil)) (.cons (.call 1 (.cons (.var 1) .nil)) .nil))))]⟩
/-- need_tables(query, tables); slots: query tables -/
def c_need_tables : Def := ⟨2, 2, false, [
  (.ifs (.not (.call 18 (.cons (.var 0) (.cons (.var 1) .nil)))) [.raise] []),
  (.ret (.var 1))]⟩
/-- links_within(query, tables); slots: query tables number link -/
def c_links_within : Def := ⟨4, 2, true, [
  (.ret (.comp (.var 2) (.tp [(.nm 2), (.nm 3)]) [2, 3] (.enu (.idx (.var 0) (.cst (.int 1)))) (.cons (.bop true (.cons (.cmp .In (.idx (.var 3) (.cst (.int 0))) (.var 1)) (.cons (.cmp .In (.idx (.var 3) (.cst (.int 1))) (.var 1)) .nil))) .nil)))]⟩
/-- product_of(query, point, tables, links); slots: query point tables links found table number -/
def c_product_of : Def := ⟨7, 4, false, [
  (.asg 4 (.cst (.int 1))),
  (.fors (.nm 5) (.ex (.var 2)) [(.asg 4 (.bin .Mult (.var 4) (.idx (.var 1) (.var 5))))]),
  (.fors (.nm 6) (.rng1 (.bi .len (.cons (.idx (.var 0) (.cst (.int 1))) .nil))) [(.asg 4 (.bin .Mult (.var 4) (.ife (.cmp .In (.var 6) (.var 3)) (.idx (.var 1) (.bin .Add (.bi .len (.cons (.idx (.var 0) (.cst (.int 0))) .nil)) (.var 6))) (.glo 4))))]),
  (.ret (.var 4))]⟩
/-- out_of(query, point, tables); slots: query point tables -/
def c_out_of : Def := ⟨3, 3, false, [
  (.ret (.call 21 (.cons (.var 0) (.cons (.var 1) (.cons (.var 2) (.cons (.call 20 (.cons (.var 0) (.cons (.var 2) .nil))) .nil))))))]⟩
/-- pairs_of(query, point, left, right); slots: query point left right links -/
def c_pairs_of : Def := ⟨5, 4, false, [
  (.asg 4 (.bin .Add (.call 20 (.cons (.var 0) (.cons (.var 2) .nil))) (.call 20 (.cons (.var 0) (.cons (.var 3) .nil))))),
  (.ret (.call 21 (.cons (.var 0) (.cons (.var 1) (.cons (.bin .Add (.var 2) (.var 3)) (.cons (.var 4) .nil))))))]⟩
/-- out_range(query, tables); slots: query tables some corner -/
def c_out_range : Def := ⟨4, 2, false, [
  (.expr (.call 8 (.cons (.var 0) .nil))),
  (.expr (.call 19 (.cons (.var 0) (.cons (.var 1) .nil)))),
  (.asg 2 (.comp (.call 22 (.cons (.var 0) (.cons (.var 3) (.cons (.var 1) .nil)))) (.nm 3) [3] (.ex (.call 14 (.cons (.var 0) .nil))) .nil)),
  (.ret (.tup (.cons (.bi .min (.cons (.var 2) .nil)) (.cons (.bi .max (.cons (.var 2) .nil)) .nil))))]⟩
/-- are_joined(query, left, right); slots: query left right one other fits -/
def c_are_joined : Def := ⟨6, 3, false, [
  (.fors (.tp [(.nm 3), (.nm 4), (.nm 5)]) (.ex (.idx (.var 0) (.cst (.int 1)))) [(.ifs (.bop false (.cons (.bop true (.cons (.cmp .In (.var 3) (.var 1)) (.cons (.cmp .In (.var 4) (.var 2)) .nil))) (.cons (.bop true (.cons (.cmp .In (.var 3) (.var 2)) (.cons (.cmp .In (.var 4) (.var 1)) .nil))) .nil))) [(.ret (.cst (.bool true)))] [])]),
  (.ret (.cst (.bool false)))]⟩
/-- do_hang(query, tables); slots: query tables found turn table -/
def c_do_hang : Def := ⟨5, 2, false, [
  (.expr (.call 8 (.cons (.var 0) .nil))),
  (.expr (.call 19 (.cons (.var 0) (.cons (.var 1) .nil)))),
  (.asg 2 (.lst (.cons (.idx (.var 1) (.cst (.int 0))) .nil))),
  (.fors (.nm 3) (.ex (.var 1)) [(.asg 2 (.bin .Add (.var 2) (.comp (.var 4) (.nm 4) [4] (.ex (.var 1)) (.cons (.bop true (.cons (.cmp .NotIn (.var 4) (.var 2)) (.cons (.call 25 (.cons (.var 0) (.cons (.var 2) (.cons (.lst (.cons (.var 4) .nil)) .nil)))) .nil))) .nil))))]),
  (.ret (.cmp .Eq (.bi .len (.cons (.var 2) .nil)) (.bi .len (.cons (.var 1) .nil))))]⟩
/-- is_table(value); slots: value -/
def c_is_table : Def := ⟨1, 1, false, [
  (.ret (.not (.isI (.var 0) [.tuple])))]⟩
/-- tables_of(plan); slots: plan -/
def c_tables_of : Def := ⟨1, 1, false, [
  (.ifs (.call 27 (.cons (.var 0) .nil)) [(.ret (.tup (.cons (.var 0) .nil)))] []),
  (.ret (.bi .tuple (.cons (.bi .sorted (.cons (.bin .Add (.call 28 (.cons (.idx (.var 0) (.cst (.int 1))) .nil)) (.call 28 (.cons (.idx (.var 0) (.cst (.int 2))) .nil))) .nil)) .nil)))]⟩
/-- is_part(query, value, used, deep); slots: query value used deep -/
def c_is_part : Def := ⟨4, 4, false, [
  (.ifs (.isI (.var 1) [.tuple]) [(.ifs (.bop false (.cons (.cmp .NotEq (.bi .len (.cons (.var 1) .nil)) (.cst (.int 3))) (.cons (.cmp .Gt (.bin .Add (.var 3) (.cst (.int 2))) (.bi .len (.cons (.idx (.var 0) (.cst (.int 0))) .nil))) (.cons (.not (.isI (.idx (.var 1) (.cst (.int 0))) [.str])) (.cons (.cmp .NotIn (.idx (.var 1) (.cst (.int 0))) (.glo 10)) .nil))))) [(.ret (.cst (.bool false)))] []), (.ret (.bop false (.cons (.cmp .NotEq (.idx (.var 1) (.cst (.int 0))) (.glo 9)) (.cons (.not (.isI (.idx (.var 1) (.cst (.int 2))) [.tuple])) .nil))))] []),
  (.ret (.bop true (.cons (.call 0 (.cons (.var 1) (.cons (.cst (.int 0)) (.cons (.bin .Sub (.bi .len (.cons (.idx (.var 0) (.cst (.int 0))) .nil)) (.cst (.int 1))) .nil)))) (.cons (.cmp .NotIn (.var 1) (.var 2)) .nil))))]⟩
/-- need_plan(query, plan); slots: query plan waiting used here path -/
def c_need_plan : Def := ⟨6, 2, false, [
  (.expr (.call 8 (.cons (.var 0) .nil))),
  (.par [(2, true), (3, true)] (.cons (.lst (.cons (.tup (.cons (.var 1) (.cons (.tup .nil) .nil))) .nil)) (.cons (.lst .nil) .nil))),
  (.whl (.cmp .NotEq (.var 2) (.lst .nil)) [(.pop (.tp [(.nm 4), (.nm 5)]) 2), (.ifs (.not (.call 29 (.cons (.var 0) (.cons (.var 4) (.cons (.var 3) (.cons (.bi .len (.cons (.var 5) .nil)) .nil)))))) [.raise] []), (.ifs (.isI (.var 4) [.tuple]) [(.ext 2 (.lst (.cons (.tup (.cons (.idx (.var 4) (.cst (.int 2))) (.cons (.tup (.star (.var 5) (.cons (.cst (.int 2)) .nil))) .nil))) (.cons (.tup (.cons (.idx (.var 4) (.cst (.int 1))) (.cons (.tup (.star (.var 5) (.cons (.cst (.int 1)) .nil))) .nil))) .nil))))] [(.app 3 (.var 4))])]),
  (.ifs (.cmp .Lt (.bi .len (.cons (.var 3) .nil)) (.bi .len (.cons (.idx (.var 0) (.cst (.int 0))) .nil))) [.raise] []),
  (.ret (.var 1))]⟩
/-- nodes_of(plan); slots: plan -/
def c_nodes_of : Def := ⟨1, 1, true, [
  (.ifs (.call 27 (.cons (.var 0) .nil)) [(.ret (.lst .nil))] []),
  (.ret (.bin .Add (.bin .Add (.lst (.cons (.var 0) .nil)) (.call 31 (.cons (.idx (.var 0) (.cst (.int 1))) .nil))) (.call 31 (.cons (.idx (.var 0) (.cst (.int 2))) .nil))))]⟩
/-- node_cost(query, point, node); slots: query point node how left right heavy light write whole -/
def c_node_cost : Def := ⟨10, 3, true, [
  (.par [(3, false), (4, false), (5, false)] (.cons (.idx (.var 2) (.cst (.int 0))) (.cons (.call 28 (.cons (.idx (.var 2) (.cst (.int 1))) .nil)) (.cons (.call 28 (.cons (.idx (.var 2) (.cst (.int 2))) .nil)) .nil)))),
  (.unp (.tp [(.nm 6), (.nm 7), (.nm 8)]) (.idx (.var 0) (.cst (.int 2)))),
  (.asg 9 (.call 22 (.cons (.var 0) (.cons (.var 1) (.cons (.bin .Add (.var 4) (.var 5)) .nil))))),
  (.ifs (.cmp .Eq (.var 3) (.glo 7)) [(.ret (.bin .Add (.call 23 (.cons (.var 0) (.cons (.var 1) (.cons (.var 4) (.cons (.var 5) .nil))))) (.bin .Mult (.var 8) (.var 9))))] []),
  (.ifs (.cmp .Eq (.var 3) (.glo 8)) [(.ret (.bin .Add (.bin .Add (.bin .Mult (.var 6) (.call 22 (.cons (.var 0) (.cons (.var 1) (.cons (.var 4) .nil))))) (.bin .Mult (.var 7) (.call 22 (.cons (.var 0) (.cons (.var 1) (.cons (.var 5) .nil)))))) (.bin .Mult (.var 8) (.var 9))))] []),
  (.ret (.bin .Add (.bin .Add (.bin .Mult (.var 6) (.call 22 (.cons (.var 0) (.cons (.var 1) (.cons (.var 4) .nil))))) (.var 9)) (.bin .Mult (.var 8) (.var 9))))]⟩
/-- cost_of(query, point, plan); slots: query point plan node -/
def c_cost_of : Def := ⟨4, 3, false, [
  (.ret (.bi .sum (.cons (.comp (.call 32 (.cons (.var 0) (.cons (.var 1) (.cons (.var 3) .nil)))) (.nm 3) [3] (.ex (.call 31 (.cons (.var 2) .nil))) .nil) .nil)))]⟩
/-- corner_costs(query, plan); slots: query plan corner -/
def c_corner_costs : Def := ⟨3, 2, false, [
  (.expr (.call 30 (.cons (.var 0) (.cons (.var 1) .nil)))),
  (.ret (.bi .tuple (.cons (.comp (.call 33 (.cons (.var 0) (.cons (.var 2) (.cons (.var 1) .nil)))) (.nm 2) [2] (.ex (.call 14 (.cons (.var 0) .nil))) .nil) .nil)))]⟩
/-- crossed_nodes(query, plan); slots: query plan node -/
def c_crossed_nodes : Def := ⟨3, 2, true, [
  (.ret (.comp (.var 2) (.nm 2) [2] (.ex (.call 31 (.cons (.var 1) .nil))) (.cons (.not (.call 25 (.cons (.var 0) (.cons (.call 28 (.cons (.idx (.var 2) (.cst (.int 1))) .nil)) (.cons (.call 28 (.cons (.idx (.var 2) (.cst (.int 2))) .nil)) .nil))))) .nil)))]⟩
/-- is_linked(query, plan); slots: query plan -/
def c_is_linked : Def := ⟨2, 2, false, [
  (.expr (.call 30 (.cons (.var 0) (.cons (.var 1) .nil)))),
  (.ret (.cmp .Eq (.call 35 (.cons (.var 0) (.cons (.var 1) .nil))) (.lst .nil)))]⟩
/-- cost_range(query, plan); slots: query plan some -/
def c_cost_range : Def := ⟨3, 2, false, [
  (.asg 2 (.call 34 (.cons (.var 0) (.cons (.var 1) .nil)))),
  (.ret (.tup (.cons (.bi .min (.cons (.var 2) .nil)) (.cons (.bi .max (.cons (.var 2) .nil)) .nil))))]⟩
/-- need_two(query, one, other); slots: query one other -/
def c_need_two : Def := ⟨3, 3, false, [
  (.expr (.call 30 (.cons (.var 0) (.cons (.var 1) .nil)))),
  (.expr (.call 30 (.cons (.var 0) (.cons (.var 2) .nil))))]⟩
/-- lead_of(query, point, one, other); slots: query point one other -/
def c_lead_of : Def := ⟨4, 4, true, [
  (.ret (.bin .Sub (.call 33 (.cons (.var 0) (.cons (.var 1) (.cons (.var 2) .nil)))) (.call 33 (.cons (.var 0) (.cons (.var 1) (.cons (.var 3) .nil))))))]⟩
/-- leads_of(query, one, other); slots: query one other corner -/
def c_leads_of : Def := ⟨4, 3, true, [
  (.ret (.comp (.tup (.cons (.call 39 (.cons (.var 0) (.cons (.var 3) (.cons (.var 1) (.cons (.var 2) .nil))))) (.cons (.var 3) .nil))) (.nm 3) [3] (.ex (.call 14 (.cons (.var 0) .nil))) .nil))]⟩
/-- lead_range(query, one, other); slots: query one other some amount corner -/
def c_lead_range : Def := ⟨6, 3, false, [
  (.expr (.call 38 (.cons (.var 0) (.cons (.var 1) (.cons (.var 2) .nil))))),
  (.asg 3 (.comp (.var 4) (.tp [(.nm 4), (.nm 5)]) [4, 5] (.ex (.call 40 (.cons (.var 0) (.cons (.var 1) (.cons (.var 2) .nil))))) .nil)),
  (.ret (.tup (.cons (.bi .min (.cons (.var 3) .nil)) (.cons (.bi .max (.cons (.var 3) .nil)) .nil))))]⟩
/-- lead_corners(query, one, other); slots: query one other some least most amount corner low -/
def c_lead_corners : Def := ⟨9, 3, false, [
  (.expr (.call 38 (.cons (.var 0) (.cons (.var 1) (.cons (.var 2) .nil))))),
  (.asg 3 (.call 40 (.cons (.var 0) (.cons (.var 1) (.cons (.var 2) .nil))))),
  (.par [(4, false), (5, false)] (.cons (.bi .min (.cons (.comp (.var 6) (.tp [(.nm 6), (.nm 7)]) [6, 7] (.ex (.var 3)) .nil) .nil)) (.cons (.bi .max (.cons (.comp (.var 6) (.tp [(.nm 6), (.nm 7)]) [6, 7] (.ex (.var 3)) .nil) .nil)) .nil))),
  (.asg 8 (.idx (.comp (.var 7) (.tp [(.nm 6), (.nm 7)]) [6, 7] (.ex (.var 3)) (.cons (.cmp .Eq (.var 6) (.var 4)) .nil)) (.cst (.int 0)))),
  (.ret (.tup (.cons (.var 8) (.cons (.idx (.comp (.var 7) (.tp [(.nm 6), (.nm 7)]) [6, 7] (.ex (.var 3)) (.cons (.cmp .Eq (.var 6) (.var 5)) .nil)) (.cst (.int 0))) .nil))))]⟩
/-- never_dearer(query, one, other); slots: query one other -/
def c_never_dearer : Def := ⟨3, 3, false, [
  (.ret (.cmp .LtE (.idx (.call 41 (.cons (.var 0) (.cons (.var 1) (.cons (.var 2) .nil)))) (.cst (.int 1))) (.cst (.int 0))))]⟩
/-- common(one, other); slots: one other -/
def c_common : Def := ⟨2, 2, false, [
  (.whl (.cmp .NotEq (.var 1) (.cst (.int 0))) [(.par [(0, false), (1, false)] (.cons (.var 1) (.cons (.bin .Mod (.bi .int (.cons (.var 0) .nil)) (.var 1)) .nil)))]),
  (.ret (.var 0))]⟩
/-- fraction(one, other); slots: one other divisor -/
def c_fraction : Def := ⟨3, 2, false, [
  (.asg 2 (.call 44 (.cons (.var 0) (.cons (.var 1) .nil)))),
  (.ret (.tup (.cons (.bin .FloorDiv (.var 0) (.var 2)) (.cons (.bin .FloorDiv (.var 1) (.var 2)) .nil))))]⟩
/-- is_less(one, other); slots: one other -/
def c_is_less : Def := ⟨2, 2, false, [
  (.ret (.cmp .Lt (.bin .Mult (.idx (.var 0) (.cst (.int 0))) (.idx (.var 1) (.cst (.int 1)))) (.bin .Mult (.idx (.var 1) (.cst (.int 0))) (.idx (.var 0) (.cst (.int 1))))))]⟩
/-- greatest_of(fractions); slots: fractions found one -/
def c_greatest_of : Def := ⟨3, 1, false, [
  (.asg 1 (.idx (.var 0) (.cst (.int 0)))),
  (.fors (.nm 2) (.ex (.var 0)) [(.ifs (.call 46 (.cons (.var 1) (.cons (.var 2) .nil))) [(.asg 1 (.var 2))] [])]),
  (.ret (.var 1))]⟩
/-- share_of(query, point, one, other); slots: query point one other mine yours -/
def c_share_of : Def := ⟨6, 4, false, [
  (.par [(4, false), (5, false)] (.cons (.call 33 (.cons (.var 0) (.cons (.var 1) (.cons (.var 2) .nil)))) (.cons (.call 33 (.cons (.var 0) (.cons (.var 1) (.cons (.var 3) .nil)))) .nil))),
  (.ret (.ife (.cmp .Gt (.var 5) (.cst (.int 0))) (.call 45 (.cons (.var 4) (.cons (.var 5) .nil))) (.tup (.cons (.cst (.int 1)) (.cons (.cst (.int 1)) .nil)))))]⟩
/-- greatest_share(query, one, other); slots: query one other corner -/
def c_greatest_share : Def := ⟨4, 3, false, [
  (.expr (.call 38 (.cons (.var 0) (.cons (.var 1) (.cons (.var 2) .nil))))),
  (.ret (.call 47 (.cons (.comp (.call 48 (.cons (.var 0) (.cons (.var 3) (.cons (.var 1) (.cons (.var 2) .nil))))) (.nm 3) [3] (.ex (.call 14 (.cons (.var 0) .nil))) .nil) .nil)))]⟩
/-- share_corner(query, one, other); slots: query one other some most corner -/
def c_share_corner : Def := ⟨6, 3, false, [
  (.expr (.call 38 (.cons (.var 0) (.cons (.var 1) (.cons (.var 2) .nil))))),
  (.asg 3 (.call 14 (.cons (.var 0) .nil))),
  (.asg 4 (.call 47 (.cons (.comp (.call 48 (.cons (.var 0) (.cons (.var 5) (.cons (.var 1) (.cons (.var 2) .nil))))) (.nm 5) [5] (.ex (.var 3)) .nil) .nil))),
  (.ret (.idx (.comp (.var 5) (.nm 5) [5] (.ex (.var 3)) (.cons (.cmp .Eq (.call 48 (.cons (.var 0) (.cons (.var 5) (.cons (.var 1) (.cons (.var 2) .nil))))) (.var 4)) .nil)) (.cst (.int 0))))]⟩
/-- cheaper_corners(query, one, other); slots: query one other amount corner -/
def c_cheaper_corners : Def := ⟨5, 3, false, [
  (.expr (.call 38 (.cons (.var 0) (.cons (.var 1) (.cons (.var 2) .nil))))),
  (.ret (.bi .tuple (.cons (.comp (.var 4) (.tp [(.nm 3), (.nm 4)]) [3, 4] (.ex (.call 40 (.cons (.var 0) (.cons (.var 1) (.cons (.var 2) .nil))))) (.cons (.cmp .Lt (.var 3) (.cst (.int 0))) .nil)) .nil)))]⟩
/-- with_value(point, place, value); slots: point place value -/
def c_with_value : Def := ⟨3, 3, true, [
  (.ret (.bin .Add (.bin .Add (.slice (.var 0) .nil (.cons (.var 1) .nil)) (.tup (.cons (.var 2) .nil))) (.slice (.var 0) (.cons (.bin .Add (.var 1) (.cst (.int 1))) .nil) .nil)))]⟩
/-- line_at(query, one, other, place, point); slots: query one other place point base -/
def c_line_at : Def := ⟨6, 5, false, [
  (.asg 5 (.call 39 (.cons (.var 0) (.cons (.call 52 (.cons (.var 4) (.cons (.var 3) (.cons (.cst (.int 0)) .nil)))) (.cons (.var 1) (.cons (.var 2) .nil)))))),
  (.ret (.tup (.cons (.bin .Sub (.call 39 (.cons (.var 0) (.cons (.call 52 (.cons (.var 4) (.cons (.var 3) (.cons (.cst (.int 1)) .nil)))) (.cons (.var 1) (.cons (.var 2) .nil))))) (.var 5)) (.cons (.var 5) .nil))))]⟩
/-- span_of(lines, low, high); slots: lines low high slope base -/
def c_span_of : Def := ⟨5, 3, false, [
  (.fors (.tp [(.nm 3), (.nm 4)]) (.ex (.var 0)) [(.ifs (.cmp .Gt (.var 3) (.cst (.int 0))) [(.asg 2 (.bi .min (.cons (.var 2) (.cons (.bin .FloorDiv (.bin .Sub (.cst (.int 0)) (.var 4)) (.var 3)) .nil))))] [(.ifs (.cmp .Lt (.var 3) (.cst (.int 0))) [(.asg 1 (.bi .max (.cons (.var 1) (.cons (.bin .Sub (.cst (.int 0)) (.bin .FloorDiv (.bin .Sub (.cst (.int 0)) (.var 4)) (.bin .Sub (.cst (.int 0)) (.var 3)))) .nil))))] [(.ifs (.cmp .Gt (.var 4) (.cst (.int 0))) [(.ret (.cst .none))] [])])])]),
  (.ret (.ife (.cmp .LtE (.var 1) (.var 2)) (.tup (.cons (.var 1) (.cons (.var 2) .nil))) (.cst .none)))]⟩
/-- need_asked(query, one, other, place); slots: query one other place -/
def c_need_asked : Def := ⟨4, 4, false, [
  (.expr (.call 38 (.cons (.var 0) (.cons (.var 1) (.cons (.var 2) .nil))))),
  (.expr (.call 17 (.cons (.var 0) (.cons (.var 3) .nil))))]⟩
/-- ends_at(query, place); slots: query place values -/
def c_ends_at : Def := ⟨3, 2, false, [
  (.asg 2 (.idx (.call 6 (.cons (.var 0) .nil)) (.var 1))),
  (.ret (.tup (.cons (.idx (.var 2) (.cst (.int 0))) (.cons (.idx (.var 2) (.neg (.cst (.int 1)))) .nil))))]⟩
/-- span(query, one, other, place, point); slots: query one other place point low high -/
def c_span : Def := ⟨7, 5, false, [
  (.expr (.call 55 (.cons (.var 0) (.cons (.var 1) (.cons (.var 2) (.cons (.var 3) .nil)))))),
  (.expr (.call 11 (.cons (.var 0) (.cons (.var 4) .nil)))),
  (.unp (.tp [(.nm 5), (.nm 6)]) (.call 56 (.cons (.var 0) (.cons (.var 3) .nil)))),
  (.ret (.call 54 (.cons (.lst (.cons (.call 53 (.cons (.var 0) (.cons (.var 1) (.cons (.var 2) (.cons (.var 3) (.cons (.var 4) .nil)))))) .nil)) (.cons (.var 5) (.cons (.var 6) .nil)))))]⟩
/-- other_corners(query, place); slots: query place low corner -/
def c_other_corners : Def := ⟨4, 2, true, [
  (.asg 2 (.idx (.call 56 (.cons (.var 0) (.cons (.var 1) .nil))) (.cst (.int 0)))),
  (.ret (.comp (.var 3) (.nm 3) [3] (.ex (.call 14 (.cons (.var 0) .nil))) (.cons (.cmp .Eq (.idx (.var 3) (.var 1)) (.var 2)) .nil)))]⟩
/-- sure_span(query, one, other, place); slots: query one other place low high corner -/
def c_sure_span : Def := ⟨7, 4, false, [
  (.expr (.call 55 (.cons (.var 0) (.cons (.var 1) (.cons (.var 2) (.cons (.var 3) .nil)))))),
  (.unp (.tp [(.nm 4), (.nm 5)]) (.call 56 (.cons (.var 0) (.cons (.var 3) .nil)))),
  (.ret (.call 54 (.cons (.comp (.call 53 (.cons (.var 0) (.cons (.var 1) (.cons (.var 2) (.cons (.var 3) (.cons (.var 6) .nil)))))) (.nm 6) [6] (.ex (.call 58 (.cons (.var 0) (.cons (.var 3) .nil)))) .nil) (.cons (.var 4) (.cons (.var 5) .nil)))))]⟩
/-- crossing(query, one, other, place, point); slots: query one other place point slope base value whole divisor rest -/
def c_crossing : Def := ⟨11, 5, false, [
  (.expr (.call 55 (.cons (.var 0) (.cons (.var 1) (.cons (.var 2) (.cons (.var 3) .nil)))))),
  (.expr (.call 11 (.cons (.var 0) (.cons (.var 4) .nil)))),
  (.unp (.tp [(.nm 5), (.nm 6)]) (.call 53 (.cons (.var 0) (.cons (.var 1) (.cons (.var 2) (.cons (.var 3) (.cons (.var 4) .nil))))))),
  (.ifs (.cmp .Eq (.var 5) (.cst (.int 0))) [(.ret (.cst .none))] []),
  (.unp (.tp [(.nm 7), (.nm 8)]) (.ife (.cmp .Gt (.var 5) (.cst (.int 0))) (.tup (.cons (.bin .Sub (.cst (.int 0)) (.var 6)) (.cons (.var 5) .nil))) (.tup (.cons (.var 6) (.cons (.bin .Sub (.cst (.int 0)) (.var 5)) .nil))))),
  (.par [(9, false), (10, false)] (.cons (.var 8) (.cons (.bi .abs (.cons (.var 7) .nil)) .nil))),
  (.whl (.cmp .NotEq (.var 10) (.cst (.int 0))) [(.par [(9, false), (10, false)] (.cons (.var 10) (.cons (.bin .Mod (.bi .int (.cons (.var 9) .nil)) (.var 10)) .nil)))]),
  (.ret (.tup (.cons (.bin .FloorDiv (.var 7) (.var 9)) (.cons (.bin .FloorDiv (.var 8) (.var 9)) .nil))))]⟩
/-- does_matter(query, one, other, place); slots: query one other place low high corner here there -/
def c_does_matter : Def := ⟨9, 4, false, [
  (.expr (.call 55 (.cons (.var 0) (.cons (.var 1) (.cons (.var 2) (.cons (.var 3) .nil)))))),
  (.unp (.tp [(.nm 4), (.nm 5)]) (.call 56 (.cons (.var 0) (.cons (.var 3) .nil)))),
  (.fors (.nm 6) (.ex (.call 62 (.cons (.var 0) (.cons (.var 3) .nil)))) [(.asg 7 (.call 39 (.cons (.var 0) (.cons (.call 52 (.cons (.var 6) (.cons (.var 3) (.cons (.var 4) .nil)))) (.cons (.var 1) (.cons (.var 2) .nil)))))), (.asg 8 (.call 39 (.cons (.var 0) (.cons (.call 52 (.cons (.var 6) (.cons (.var 3) (.cons (.var 5) .nil)))) (.cons (.var 1) (.cons (.var 2) .nil)))))), (.ifs (.cmp .NotEq (.call 63 (.cons (.var 7) .nil)) (.call 63 (.cons (.var 8) .nil))) [(.ret (.cst (.bool true)))] [])]),
  (.ret (.cst (.bool false)))]⟩
/-- told_others(query, place); slots: query place rows -/
def c_told_others : Def := ⟨3, 2, false, [
  (.asgOwn 2 (.call 6 (.cons (.var 0) .nil))),
  (.put 2 (.var 1) (.slice (.idx (.var 2) (.var 1)) .nil (.cons (.cst (.int 1)) .nil))),
  (.freeze 2),
  (.ret (.call 12 (.cons (.var 2) .nil)))]⟩
/-- sign_of(number); slots: number -/
def c_sign_of : Def := ⟨1, 1, true, [
  (.ret (.bin .Sub (.cmp .Gt (.var 0) (.cst (.int 0))) (.cmp .Lt (.var 0) (.cst (.int 0)))))]⟩
/-- _law_like(_law_heard, _law_due); slots: _law_heard _law_due -/
def c__law_like : Def := ⟨2, 2, false, [
  (.ret (.cmp .Eq (.bi .repr (.cons (.var 0) .nil)) (.bi .repr (.cons (.var 1) .nil))))]⟩
/-- _law_two_right(); slots: _law_asked _law_near _law_far _law_told -/
def c__law_two_right : Def := ⟨4, 0, false, [
  (.asg 0 (.tup (.cons (.tup (.cons (.tup (.cons (.cst (.int 1)) (.cons (.cst (.int 100)) .nil))) .nil)) (.cons (.tup .nil) (.cons (.tup (.cons (.cst (.int 1)) (.cons (.cst (.int 1)) (.cons (.cst (.int 0)) .nil)))) .nil))))),
  (.ifs (.bop false (.cons (.cmp .NotEq (.call 37 (.cons (.var 0) (.cons (.cst (.int 0)) .nil))) (.tup (.cons (.cst (.int 0)) (.cons (.cst (.int 0)) .nil)))) (.cons (.cmp .NotEq (.call 41 (.cons (.var 0) (.cons (.cst (.int 0)) (.cons (.cst (.int 0)) .nil)))) (.tup (.cons (.cst (.int 0)) (.cons (.cst (.int 0)) .nil)))) (.cons (.cmp .NotEq (.call 49 (.cons (.var 0) (.cons (.cst (.int 0)) (.cons (.cst (.int 0)) .nil)))) (.tup (.cons (.cst (.int 1)) (.cons (.cst (.int 1)) .nil)))) .nil)))) [(.ret (.cst (.bool false)))] []),
  (.asg 0 (.tup (.cons (.tup (.cons (.tup (.cons (.cst (.int 1)) (.cons (.cst (.int 100)) .nil))) (.cons (.tup (.cons (.cst (.int 20)) .nil)) .nil))) (.cons (.tup (.cons (.tup (.cons (.cst (.int 0)) (.cons (.cst (.int 1)) (.cons (.tup (.cons (.cst (.int 50)) .nil)) .nil)))) .nil)) (.cons (.tup (.cons (.cst (.int 1)) (.cons (.cst (.int 1)) (.cons (.cst (.int 0)) .nil)))) .nil))))),
  (.par [(1, false), (2, false)] (.cons (.tup (.cons (.cst (.str (PySem.Str.ofString "nested"))) (.cons (.cst (.int 0)) (.cons (.cst (.int 1)) .nil)))) (.cons (.tup (.cons (.cst (.str (PySem.Str.ofString "hashed"))) (.cons (.cst (.int 0)) (.cons (.cst (.int 1)) .nil)))) .nil))),
  (.ifs (.bop false (.cons (.cmp .NotEq (.call 34 (.cons (.var 0) (.cons (.var 1) .nil))) (.tup (.cons (.cst (.int 2000)) (.cons (.cst (.int 200000)) .nil)))) (.cons (.cmp .NotEq (.call 34 (.cons (.var 0) (.cons (.var 2) .nil))) (.tup (.cons (.cst (.int 2100)) (.cons (.cst (.int 12000)) .nil)))) .nil))) [(.ret (.cst (.bool false)))] []),
  (.ifs (.bop false (.cons (.cmp .NotEq (.call 41 (.cons (.var 0) (.cons (.var 1) (.cons (.var 2) .nil)))) (.tup (.cons (.neg (.cst (.int 100))) (.cons (.cst (.int 188000)) .nil)))) (.cons (.cmp .IsNot (.call 43 (.cons (.var 0) (.cons (.var 1) (.cons (.var 2) .nil)))) (.cst (.bool false))) .nil))) [(.ret (.cst (.bool false)))] []),
  (.ifs (.cmp .NotEq (.call 42 (.cons (.var 0) (.cons (.var 1) (.cons (.var 2) .nil)))) (.tup (.cons (.tup (.cons (.cst (.int 1)) (.cons (.cst (.int 20)) (.cons (.cst (.int 50)) .nil)))) (.cons (.tup (.cons (.cst (.int 100)) (.cons (.cst (.int 20)) (.cons (.cst (.int 50)) .nil)))) .nil)))) [(.ret (.cst (.bool false)))] []),
  (.ifs (.cmp .NotEq (.call 51 (.cons (.var 0) (.cons (.var 1) (.cons (.var 2) .nil)))) (.tup (.cons (.tup (.cons (.cst (.int 1)) (.cons (.cst (.int 20)) (.cons (.cst (.int 50)) .nil)))) .nil))) [(.ret (.cst (.bool false)))] []),
  (.ifs (.bop false (.cons (.cmp .NotEq (.call 49 (.cons (.var 0) (.cons (.var 1) (.cons (.var 2) .nil)))) (.tup (.cons (.cst (.int 50)) (.cons (.cst (.int 3)) .nil)))) (.cons (.cmp .NotEq (.call 50 (.cons (.var 0) (.cons (.var 1) (.cons (.var 2) .nil)))) (.tup (.cons (.cst (.int 100)) (.cons (.cst (.int 20)) (.cons (.cst (.int 50)) .nil))))) .nil))) [(.ret (.cst (.bool false)))] []),
  (.asgOwn 3 (.lst (.cons (.call 57 (.cons (.var 0) (.cons (.var 1) (.cons (.var 2) (.cons (.cst (.int 0)) (.cons (.tup (.cons (.cst (.int 7)) (.cons (.cst (.int 20)) (.cons (.cst (.int 50)) .nil)))) .nil)))))) (.cons (.call 59 (.cons (.var 0) (.cons (.var 2) (.cons (.var 1) (.cons (.cst (.int 0)) .nil))))) .nil)))),
  (.app 3 (.call 60 (.cons (.var 0) (.cons (.var 1) (.cons (.var 2) (.cons (.cst (.int 0)) (.cons (.tup (.cons (.cst (.int 1)) (.cons (.cst (.int 20)) (.cons (.cst (.int 50)) .nil)))) .nil))))))),
  (.ret (.bop true (.cons (.cmp .Eq (.var 3) (.lst (.cons (.tup (.cons (.cst (.int 1)) (.cons (.cst (.int 1)) .nil))) (.cons (.tup (.cons (.cst (.int 2)) (.cons (.cst (.int 100)) .nil))) (.cons (.tup (.cons (.cst (.int 20)) (.cons (.cst (.int 19)) .nil))) .nil))))) (.cons (.cmp .Is (.call 60 (.cons (.var 0) (.cons (.var 1) (.cons (.var 1) (.cons (.cst (.int 0)) (.cons (.tup (.cons (.cst (.int 1)) (.cons (.cst (.int 20)) (.cons (.cst (.int 50)) .nil)))) .nil)))))) (.cst .none)) .nil))))]⟩
/-- _law_three_right(); slots: _law_asked _law_near _law_far _law_mid -/
def c__law_three_right : Def := ⟨4, 0, false, [
  (.asg 0 (.tup (.cons (.tup (.cons (.tup (.cons (.cst (.int 10)) .nil)) (.cons (.tup (.cons (.cst (.int 10)) .nil)) (.cons (.tup (.cons (.cst (.int 10)) .nil)) .nil)))) (.cons (.tup (.cons (.tup (.cons (.cst (.int 0)) (.cons (.cst (.int 1)) (.cons (.tup (.cons (.cst (.int 1)) (.cons (.cst (.int 100)) .nil))) .nil)))) (.cons (.tup (.cons (.cst (.int 1)) (.cons (.cst (.int 2)) (.cons (.tup (.cons (.cst (.int 1)) (.cons (.cst (.int 100)) .nil))) .nil)))) .nil))) (.cons (.tup (.cons (.cst (.int 1)) (.cons (.cst (.int 1)) (.cons (.cst (.int 1)) .nil)))) .nil))))),
  (.par [(1, false), (2, false)] (.cons (.tup (.cons (.cst (.str (PySem.Str.ofString "hashed"))) (.cons (.tup (.cons (.cst (.str (PySem.Str.ofString "hashed"))) (.cons (.cst (.int 0)) (.cons (.cst (.int 1)) .nil)))) (.cons (.cst (.int 2)) .nil)))) (.cons (.tup (.cons (.cst (.str (PySem.Str.ofString "hashed"))) (.cons (.cst (.int 0)) (.cons (.tup (.cons (.cst (.str (PySem.Str.ofString "hashed"))) (.cons (.cst (.int 1)) (.cons (.cst (.int 2)) .nil)))) .nil)))) .nil))),
  (.ifs (.bop false (.cons (.cmp .NotEq (.call 41 (.cons (.var 0) (.cons (.var 1) (.cons (.var 2) .nil)))) (.tup (.cons (.neg (.cst (.int 1980000))) (.cons (.cst (.int 1980000)) .nil)))) (.cons (.cmp .IsNot (.call 61 (.cons (.var 0) (.cons (.var 1) (.cons (.var 2) (.cons (.cst (.int 3)) .nil))))) (.cst (.bool true))) .nil))) [(.ret (.cst (.bool false)))] []),
  (.ifs (.bop false (.cons (.cmp .NotEq (.call 51 (.cons (.var 0) (.cons (.var 1) (.cons (.var 2) .nil)))) (.tup (.cons (.tup (.cons (.cst (.int 10)) (.cons (.cst (.int 10)) (.cons (.cst (.int 10)) (.cons (.cst (.int 1)) (.cons (.cst (.int 100)) .nil)))))) .nil))) (.cons (.cmp .NotEq (.call 9 (.cons (.var 0) .nil)) (.tup (.cons (.cst (.int 3)) (.cons (.cst (.int 4)) .nil)))) .nil))) [(.ret (.cst (.bool false)))] []),
  (.ifs (.bop false (.cons (.cmp .NotEq (.call 59 (.cons (.var 0) (.cons (.var 1) (.cons (.var 2) (.cons (.cst (.int 3)) .nil))))) (.tup (.cons (.cst (.int 1)) (.cons (.cst (.int 1)) .nil)))) (.cons (.cmp .NotEq (.call 59 (.cons (.var 0) (.cons (.var 1) (.cons (.var 2) (.cons (.cst (.int 4)) .nil))))) (.tup (.cons (.cst (.int 100)) (.cons (.cst (.int 100)) .nil)))) .nil))) [(.ret (.cst (.bool false)))] []),
  (.ifs (.bop false (.cons (.call 36 (.cons (.var 0) (.cons (.tup (.cons (.cst (.str (PySem.Str.ofString "hashed"))) (.cons (.tup (.cons (.cst (.str (PySem.Str.ofString "nested"))) (.cons (.cst (.int 0)) (.cons (.cst (.int 2)) .nil)))) (.cons (.cst (.int 1)) .nil)))) .nil))) (.cons (.not (.call 36 (.cons (.var 0) (.cons (.var 1) .nil)))) .nil))) [(.ret (.cst (.bool false)))] []),
  (.asg 3 (.tup (.cons (.idx (.var 0) (.cst (.int 0))) (.cons (.tup (.cons (.tup (.cons (.cst (.int 0)) (.cons (.cst (.int 1)) (.cons (.tup (.cons (.cst (.int 50)) (.cons (.cst (.int 60)) .nil))) .nil)))) (.cons (.tup (.cons (.cst (.int 1)) (.cons (.cst (.int 2)) (.cons (.tup (.cons (.cst (.int 1)) (.cons (.cst (.int 55)) (.cons (.cst (.int 100)) .nil)))) .nil)))) .nil))) (.cons (.idx (.var 0) (.cst (.int 2))) .nil))))),
  (.ifs (.bop false (.cons (.cmp .IsNot (.call 61 (.cons (.var 3) (.cons (.var 1) (.cons (.var 2) (.cons (.cst (.int 3)) .nil))))) (.cst (.bool true))) (.cons (.cmp .IsNot (.call 61 (.cons (.var 3) (.cons (.var 1) (.cons (.var 1) (.cons (.cst (.int 3)) .nil))))) (.cst (.bool false))) .nil))) [(.ret (.cst (.bool false)))] []),
  (.ret (.bop true (.cons (.call 26 (.cons (.var 0) (.cons (.tup (.cons (.cst (.int 0)) (.cons (.cst (.int 1)) (.cons (.cst (.int 2)) .nil)))) .nil))) (.cons (.not (.call 26 (.cons (.var 0) (.cons (.tup (.cons (.cst (.int 0)) (.cons (.cst (.int 2)) .nil))) .nil)))) (.cons (.cmp .Eq (.call 24 (.cons (.var 0) (.cons (.tup (.cons (.cst (.int 0)) (.cons (.cst (.int 1)) .nil))) .nil))) (.tup (.cons (.cst (.int 10000)) (.cons (.cst (.int 1000000)) .nil)))) .nil)))))]⟩
/-- _law_great_right(); slots: _law_sizes _law_links _law_asked -/
def c__law_great_right : Def := ⟨3, 0, false, [
  (.asg 0 (.bin .Mult (.tup (.cons (.tup (.cons (.cst (.int 1)) (.cons (.bin .Pow (.cst (.int 10)) (.cst (.int 9))) .nil))) .nil)) (.cst (.int 5)))),
  (.asg 1 (.tup (.cons (.tup (.cons (.cst (.int 0)) (.cons (.cst (.int 1)) (.cons (.tup (.cons (.cst (.int 100)) .nil)) .nil)))) (.cons (.tup (.cons (.cst (.int 0)) (.cons (.cst (.int 2)) (.cons (.tup (.cons (.cst (.int 100)) .nil)) .nil)))) (.cons (.tup (.cons (.cst (.int 0)) (.cons (.cst (.int 3)) (.cons (.tup (.cons (.cst (.int 100)) .nil)) .nil)))) (.cons (.tup (.cons (.cst (.int 0)) (.cons (.cst (.int 4)) (.cons (.tup (.cons (.cst (.int 1)) (.cons (.cst (.int 100)) .nil))) .nil)))) (.cons (.tup (.cons (.cst (.int 1)) (.cons (.cst (.int 2)) (.cons (.tup (.cons (.cst (.int 100)) .nil)) .nil)))) (.cons (.tup (.cons (.cst (.int 1)) (.cons (.cst (.int 3)) (.cons (.tup (.cons (.cst (.int 100)) .nil)) .nil)))) .nil)))))))),
  (.asg 2 (.tup (.cons (.var 0) (.cons (.var 1) (.cons (.tup (.cons (.cst (.int 1)) (.cons (.cst (.int 1)) (.cons (.cst (.int 0)) .nil)))) .nil))))),
  (.ifs (.bop false (.cons (.cmp .NotEq (.bi .len (.cons (.call 15 (.cons (.var 2) .nil)) .nil)) (.cst (.int 64))) (.cons (.cmp .NotEq (.idx (.call 24 (.cons (.var 2) (.cons (.tup (.cons (.cst (.int 0)) (.cons (.cst (.int 1)) (.cons (.cst (.int 2)) (.cons (.cst (.int 3)) (.cons (.cst (.int 4)) .nil)))))) .nil))) (.cst (.int 1))) (.bin .Pow (.cst (.int 10)) (.cst (.int 57)))) .nil))) [(.ret (.cst (.bool false)))] []),
  (.ret (.bop true (.cons (.cmp .Eq (.idx (.call 24 (.cons (.var 2) (.cons (.tup (.cons (.cst (.int 0)) (.cons (.cst (.int 1)) (.cons (.cst (.int 2)) (.cons (.cst (.int 3)) (.cons (.cst (.int 4)) .nil)))))) .nil))) (.cst (.int 0))) (.bin .Pow (.cst (.int 10)) (.cst (.int 10)))) (.cons (.cmp .Eq (.bi .len (.cons (.call 16 (.cons (.var 2) .nil)) .nil)) (.cst (.int 64))) .nil))))]⟩
/-- law(_law_script); slots: _law_script _law_m _law_low _law_asked _law_near _law_far -/
def c_law : Def := ⟨6, 1, false, [
  (.asg 2 (.bin .Add (.cst (.int 1)) (.draw (.var 1) (.cst (.int 50))))),
  (.asg 3 (.tup (.cons (.tup (.cons (.tup (.cons (.var 2) (.cons (.bin .Add (.var 2) (.cst (.int 50))) .nil))) (.cons (.tup (.cons (.cst (.int 10)) .nil)) .nil))) (.cons (.tup .nil) (.cons (.tup (.cons (.bin .Add (.cst (.int 1)) (.draw (.var 1) (.cst (.int 9)))) (.cons (.cst (.int 1)) (.cons (.cst (.int 0)) .nil)))) .nil))))),
  (.par [(4, false), (5, false)] (.cons (.tup (.cons (.cst (.str (PySem.Str.ofString "hashed"))) (.cons (.cst (.int 0)) (.cons (.cst (.int 1)) .nil)))) (.cons (.tup (.cons (.cst (.str (PySem.Str.ofString "hashed"))) (.cons (.cst (.int 1)) (.cons (.cst (.int 0)) .nil)))) .nil))),
  (.ifs (.not (.call 64 (.cons (.call 43 (.cons (.var 3) (.cons (.var 4) (.cons (.var 5) .nil)))) (.cons (.bop false (.cons (.cmp .Eq (.idx (.idx (.var 3) (.cst (.int 2))) (.cst (.int 0))) (.cst (.int 1))) (.cons (.cmp .LtE (.bin .Add (.var 2) (.cst (.int 50))) (.cst (.int 10))) .nil))) .nil)))) [(.ret (.cst (.bool false)))] []),
  (.ret (.bop true (.cons (.call 65 .nil) (.cons (.call 66 .nil) (.cons (.call 67 .nil) .nil)))))]⟩
def tb : Nat → Option Def
  | 0 => some c_is_whole
  | 1 => some c_are_rising
  | 2 => some c_are_values
  | 3 => some c_is_link
  | 4 => some c_need_links
  | 5 => some c_need_prices
  | 6 => some c_values_of
  | 7 => some c_unknown_in
  | 8 => some c_need_query
  | 9 => some c_unknowns
  | 10 => some c_is_point
  | 11 => some c_need_point
  | 12 => some c_spread
  | 13 => some c_ends_of
  | 14 => some c_corners_of
  | 15 => some c_corners
  | 16 => some c_told_points
  | 17 => some c_need_place
  | 18 => some c_are_tables
  | 19 => some c_need_tables
  | 20 => some c_links_within
  | 21 => some c_product_of
  | 22 => some c_out_of
  | 23 => some c_pairs_of
  | 24 => some c_out_range
  | 25 => some c_are_joined
  | 26 => some c_do_hang
  | 27 => some c_is_table
  | 28 => some c_tables_of
  | 29 => some c_is_part
  | 30 => some c_need_plan
  | 31 => some c_nodes_of
  | 32 => some c_node_cost
  | 33 => some c_cost_of
  | 34 => some c_corner_costs
  | 35 => some c_crossed_nodes
  | 36 => some c_is_linked
  | 37 => some c_cost_range
  | 38 => some c_need_two
  | 39 => some c_lead_of
  | 40 => some c_leads_of
  | 41 => some c_lead_range
  | 42 => some c_lead_corners
  | 43 => some c_never_dearer
  | 44 => some c_common
  | 45 => some c_fraction
  | 46 => some c_is_less
  | 47 => some c_greatest_of
  | 48 => some c_share_of
  | 49 => some c_greatest_share
  | 50 => some c_share_corner
  | 51 => some c_cheaper_corners
  | 52 => some c_with_value
  | 53 => some c_line_at
  | 54 => some c_span_of
  | 55 => some c_need_asked
  | 56 => some c_ends_at
  | 57 => some c_span
  | 58 => some c_other_corners
  | 59 => some c_sure_span
  | 60 => some c_crossing
  | 61 => some c_does_matter
  | 62 => some c_told_others
  | 63 => some c_sign_of
  | 64 => some c__law_like
  | 65 => some c__law_two_right
  | 66 => some c__law_three_right
  | 67 => some c__law_great_right
  | _ => none
def gl : Nat → D
  | 0 => (.int 5)
  | 1 => (.int 6)
  | 2 => (.int 3)
  | 3 => (.int 1000000000)
  | 4 => (.int 100)
  | 5 => (.int 100)
  | 6 => (.int 6)
  | 7 => (.str (PySem.Str.ofString "nested"))
  | 8 => (.str (PySem.Str.ofString "hashed"))
  | 9 => (.str (PySem.Str.ofString "probed"))
  | 10 => (.tup [(.str (PySem.Str.ofString "hashed")), (.str (PySem.Str.ofString "nested")), (.str (PySem.Str.ofString "probed"))])
  | _ => .none
end K15

set_option Elab.async false
set_option linter.all false
set_option maxRecDepth 100000
set_option maxHeartbeats 4000000
namespace K15
open Pc
def fuel : Nat := 40
def wz : WS := ⟨[], [], 0⟩
def near : D := .tup [.str (PySem.Str.ofString "hashed"), .int 0, .int 1]
def far : D := .tup [.str (PySem.Str.ofString "hashed"), .int 1, .int 0]
def asked (low price : Int) : D := .tup [.tup [.tup [.int low, .int (low + 50)], .tup [.int 10]], .tup [], .tup [.int price, .int 1, .int 0]]
def isB (r : R D) (b : Bool) : Bool := match r with
  | .ok (.bool c) _ => c == b
  | _ => false
theorem isB_ok {m : M D} {b : Bool} (h : Pu m) (e : isB (m wz) b = true) : m = M.ok (.bool b) := by
  unfold isB at e
  split at e
  · rename_i c w' q
    have z : c = b := by simpa using e
    subst z
    exact h.run q
  · cases e
def nd (i j : Nat) : Bool := isB (evCall tb gl fuel 43 [.imm (asked (1 + (i : Int)) (1 + (j : Int))), .imm near, .imm far] wz) (decide (j = 0))
def ndRow (i : Nat) : Bool := (List.range 9).all fun j => nd i j
theorem nd0 : ([0, 1, 2, 3, 4] : List Nat).all (fun i => ndRow i) = true := by decide +kernel
theorem nd1 : ([5, 6, 7, 8, 9] : List Nat).all (fun i => ndRow i) = true := by decide +kernel
theorem nd2 : ([10, 11, 12, 13, 14] : List Nat).all (fun i => ndRow i) = true := by decide +kernel
theorem nd3 : ([15, 16, 17, 18, 19] : List Nat).all (fun i => ndRow i) = true := by decide +kernel
theorem nd4 : ([20, 21, 22, 23, 24] : List Nat).all (fun i => ndRow i) = true := by decide +kernel
theorem nd5 : ([25, 26, 27, 28, 29] : List Nat).all (fun i => ndRow i) = true := by decide +kernel
theorem nd6 : ([30, 31, 32, 33, 34] : List Nat).all (fun i => ndRow i) = true := by decide +kernel
theorem nd7 : ([35, 36, 37, 38, 39] : List Nat).all (fun i => ndRow i) = true := by decide +kernel
theorem nd8 : ([40, 41, 42, 43, 44] : List Nat).all (fun i => ndRow i) = true := by decide +kernel
theorem nd9 : ([45, 46, 47, 48, 49] : List Nat).all (fun i => ndRow i) = true := by decide +kernel
theorem nd_all (i j : Nat) (hi : i < 50) (hj : j < 9) : nd i j = true := by
  have row : ∀ {l : List Nat}, l.all (fun i => ndRow i) = true → i ∈ l → nd i j = true := fun {l} h hm => List.all_eq_true.mp (List.all_eq_true.mp h i hm) j (List.mem_range.mpr hj)
  have q : i ∈ ([0, 1, 2, 3, 4] : List Nat) ∨ i ∈ ([5, 6, 7, 8, 9] : List Nat) ∨ i ∈ ([10, 11, 12, 13, 14] : List Nat) ∨ i ∈ ([15, 16, 17, 18, 19] : List Nat) ∨ i ∈ ([20, 21, 22, 23, 24] : List Nat) ∨ i ∈ ([25, 26, 27, 28, 29] : List Nat) ∨ i ∈ ([30, 31, 32, 33, 34] : List Nat) ∨ i ∈ ([35, 36, 37, 38, 39] : List Nat) ∨ i ∈ ([40, 41, 42, 43, 44] : List Nat) ∨ i ∈ ([45, 46, 47, 48, 49] : List Nat) := by simp only [List.mem_cons, List.not_mem_nil, or_false]; omega
  rcases q with q | q | q | q | q | q | q | q | q | q
  · exact row nd0 q
  · exact row nd1 q
  · exact row nd2 q
  · exact row nd3 q
  · exact row nd4 q
  · exact row nd5 q
  · exact row nd6 q
  · exact row nd7 q
  · exact row nd8 q
  · exact row nd9 q
end K15

set_option Elab.async false
set_option linter.all false
set_option maxRecDepth 100000
set_option maxHeartbeats 4000000
namespace K15
open Pc
theorem noDraw : ndTab tb 68 = true := by decide +kernel
theorem tb_end (f : Nat) : tb (68 + f) = none := by
  rw [Nat.add_comm]
  rfl
theorem pu (k f : Nat) (as : List Sl) : Pu (evCall tb gl k f as) := pu_call (ndTab_ok noDraw tb_end) k f as
theorem two : evCall tb gl fuel 65 [] = M.ok (.bool true) := isB_ok (pu _ _ _) (by decide +kernel)
theorem three : evCall tb gl fuel 66 [] = M.ok (.bool true) := isB_ok (pu _ _ _) (by decide +kernel)
theorem great_ : evCall tb gl fuel 67 [] = M.ok (.bool true) := isB_ok (pu _ _ _) (by decide +kernel)
theorem like (b : Bool) : evCall tb gl fuel 64 [.imm (.bool b), .imm (.bool b)] = M.ok (.bool true) := isB_ok (pu _ _ _) (by cases b <;> decide +kernel)
theorem dear (i j : Nat) (hi : i < 50) (hj : j < 9) : evCall tb gl fuel 43 [.imm (asked (1 + (i : Int)) (1 + (j : Int))), .imm near, .imm far] = M.ok (.bool (decide (j = 0))) := isB_ok (pu _ _ _) (nd_all i j hi hj)
end K15

set_option Elab.async false
set_option linter.all false
set_option maxRecDepth 100000
set_option maxHeartbeats 4000000
namespace K15
open Pc
theorem law_steps {cl : Nat → List Sl → M D} {gl : Nat → D} {fr : Nat → Bool} {is : List Int} {w0 w1 w2 : WS} {i j : Int} {b : Bool}
    (e1 : drawW w0 50 = some (i, w1)) (e2 : drawW w1 9 = some (j, w2)) (hi : 0 ≤ i) (hb : decide (1 + j = 1) = b)
    (d : cl 43 [.imm (.tup [.tup [.tup [.int (1 + i), .int (1 + i + 50)], .tup [.int 10]], .tup [], .tup [.int (1 + j), .int 1, .int 0]]), .imm (.tup [.str (PySem.Str.ofString "hashed"), .int 0, .int 1]), .imm (.tup [.str (PySem.Str.ofString "hashed"), .int 1, .int 0])] = M.ok (.bool b))
    (lk : cl 64 [.imm (.bool b), .imm (.bool b)] = M.ok (.bool true)) (T2 : cl 65 [] = M.ok (.bool true)) (T3 : cl 66 [] = M.ok (.bool true)) (T4 : cl 67 [] = M.ok (.bool true)) :
    evSts fr cl gl c_law.body [.imm (.scr is), .imm .world, .un, .un, .un, .un] w0 = .ok (.ret (.bool true) false) w2 := by
  have le : decide (1 + i + 50 ≤ 10) = false := by simp; omega
  have ln : ∀ n : Nat, n ≤ 10 → (n ≤ line) = True := fun n h => by unfold line; simp; omega
  unfold c_law
  simp -implicitDefEqProofs only [evSts_cons, evSts_nil, evSt_asg, evSt_par, evSt_ifs, evSt_ret, ev_var, ev_cst, ev_bin, ev_not, ev_bop, ev_cmp, ev_tup, ev_idx, ev_call, ev_draw, evs_cons, evs_nil, evB_one, evB_cns, evArgs_nil, evArgs_cons, ok_bind, bind_asc, varM_imm, drawK_w, of_some_, drawM_at e1, drawM_at e2, seqF_next, seqF_ret, parM_some, List.getElem?_cons_zero, List.getElem?_cons_succ, List.set_cons_succ, List.set_cons_zero, add_i, cmp_le, cmp_eq, zipSet, idx30, idx32, tr_b, List.length_cons, List.length_nil, lend, lendS_imm, d, hb, T2, T3, T4, Nat.reduceAdd, Nat.reduceLT, Nat.reduceLeDiff, ↓reduceIte, ln, Bool.false_eq_true]
  cases b
  · simp -implicitDefEqProofs only [beq_self_eq_true, ↓reduceIte, ok_bind, of_some_, lk, add_i, cmp_le, le, tr_b, Bool.not_true, Bool.false_eq_true, T2, T3, T4, ok_at_, freshEx, seqF_next, seqF_ret, evSts_cons, evSt_ret, ev_bop, evB_one, evB_cns, ev_call, evArgs_nil, bind_asc]
  · simp -implicitDefEqProofs only [beq_self_eq_true, ↓reduceIte, ok_bind, of_some_, lk, add_i, cmp_le, le, tr_b, Bool.not_true, Bool.false_eq_true, T2, T3, T4, ok_at_, freshEx, seqF_next, seqF_ret, evSts_cons, evSt_ret, ev_bop, evB_one, evB_cns, ev_call, evArgs_nil, bind_asc, show (true == false) = false from rfl]
end K15

set_option Elab.async false
set_option linter.all false
set_option maxRecDepth 100000
set_option maxHeartbeats 4000000
namespace K15
open Pc
theorem pure_law : ∀ (is cells great : List Int), is.length ≤ 63 → CellsOk cells → great.length ≤ 63 → ∃ f ws', evSts (freshOf tb) (evCall tb gl fuel) gl c_law.body (lawEnv 6 is) ⟨cells, great, 0⟩ = .ok (.ret (.bool true) f) ws' := by
  intro is cells great _ _ _
  have s0 : (⟨cells, great, 0⟩ : WS).spot = 0 := rfl
  generalize (⟨cells, great, 0⟩ : WS) = w0 at s0 ⊢
  obtain ⟨i1, w1, e1, a0, a1, s1⟩ := drawW_ok (w := w0) (l := 50) (by decide) (by decide) (by rw [s0]; decide)
  obtain ⟨i2, w2, e2, b0, b1, s2⟩ := drawW_ok (w := w1) (l := 9) (by decide) (by decide) (by rw [s1, s0]; decide)
  obtain ⟨i, rfl⟩ := Int.eq_ofNat_of_zero_le a0
  obtain ⟨j, rfl⟩ := Int.eq_ofNat_of_zero_le b0
  have d := dear i j (by omega) (by omega)
  have p1 : decide (1 + (j : Int) = 1) = decide (j = 0) := by
    apply decide_eq_decide.mpr
    omega
  exact ⟨false, w2, law_steps e1 e2 a0 p1 d (like _) two three great_⟩
end K15

set_option Elab.async false
set_option linter.all false
set_option maxRecDepth 100000
set_option maxHeartbeats 0
/-! # The law, joined -/
namespace K15
open PySem PySem.Spec PyProof.Rows L2 Pc
def fnN : Nat → Option Str
  | 0 => some (PySem.Str.ofString "is_whole")
  | 1 => some (PySem.Str.ofString "are_rising")
  | 2 => some (PySem.Str.ofString "are_values")
  | 3 => some (PySem.Str.ofString "is_link")
  | 4 => some (PySem.Str.ofString "need_links")
  | 5 => some (PySem.Str.ofString "need_prices")
  | 6 => some (PySem.Str.ofString "values_of")
  | 7 => some (PySem.Str.ofString "unknown_in")
  | 8 => some (PySem.Str.ofString "need_query")
  | 9 => some (PySem.Str.ofString "unknowns")
  | 10 => some (PySem.Str.ofString "is_point")
  | 11 => some (PySem.Str.ofString "need_point")
  | 12 => some (PySem.Str.ofString "spread")
  | 13 => some (PySem.Str.ofString "ends_of")
  | 14 => some (PySem.Str.ofString "corners_of")
  | 15 => some (PySem.Str.ofString "corners")
  | 16 => some (PySem.Str.ofString "told_points")
  | 17 => some (PySem.Str.ofString "need_place")
  | 18 => some (PySem.Str.ofString "are_tables")
  | 19 => some (PySem.Str.ofString "need_tables")
  | 20 => some (PySem.Str.ofString "links_within")
  | 21 => some (PySem.Str.ofString "product_of")
  | 22 => some (PySem.Str.ofString "out_of")
  | 23 => some (PySem.Str.ofString "pairs_of")
  | 24 => some (PySem.Str.ofString "out_range")
  | 25 => some (PySem.Str.ofString "are_joined")
  | 26 => some (PySem.Str.ofString "do_hang")
  | 27 => some (PySem.Str.ofString "is_table")
  | 28 => some (PySem.Str.ofString "tables_of")
  | 29 => some (PySem.Str.ofString "is_part")
  | 30 => some (PySem.Str.ofString "need_plan")
  | 31 => some (PySem.Str.ofString "nodes_of")
  | 32 => some (PySem.Str.ofString "node_cost")
  | 33 => some (PySem.Str.ofString "cost_of")
  | 34 => some (PySem.Str.ofString "corner_costs")
  | 35 => some (PySem.Str.ofString "crossed_nodes")
  | 36 => some (PySem.Str.ofString "is_linked")
  | 37 => some (PySem.Str.ofString "cost_range")
  | 38 => some (PySem.Str.ofString "need_two")
  | 39 => some (PySem.Str.ofString "lead_of")
  | 40 => some (PySem.Str.ofString "leads_of")
  | 41 => some (PySem.Str.ofString "lead_range")
  | 42 => some (PySem.Str.ofString "lead_corners")
  | 43 => some (PySem.Str.ofString "never_dearer")
  | 44 => some (PySem.Str.ofString "common")
  | 45 => some (PySem.Str.ofString "fraction")
  | 46 => some (PySem.Str.ofString "is_less")
  | 47 => some (PySem.Str.ofString "greatest_of")
  | 48 => some (PySem.Str.ofString "share_of")
  | 49 => some (PySem.Str.ofString "greatest_share")
  | 50 => some (PySem.Str.ofString "share_corner")
  | 51 => some (PySem.Str.ofString "cheaper_corners")
  | 52 => some (PySem.Str.ofString "with_value")
  | 53 => some (PySem.Str.ofString "line_at")
  | 54 => some (PySem.Str.ofString "span_of")
  | 55 => some (PySem.Str.ofString "need_asked")
  | 56 => some (PySem.Str.ofString "ends_at")
  | 57 => some (PySem.Str.ofString "span")
  | 58 => some (PySem.Str.ofString "other_corners")
  | 59 => some (PySem.Str.ofString "sure_span")
  | 60 => some (PySem.Str.ofString "crossing")
  | 61 => some (PySem.Str.ofString "does_matter")
  | 62 => some (PySem.Str.ofString "told_others")
  | 63 => some (PySem.Str.ofString "sign_of")
  | 64 => some (PySem.Str.ofString "_law_like")
  | 65 => some (PySem.Str.ofString "_law_two_right")
  | 66 => some (PySem.Str.ofString "_law_three_right")
  | 67 => some (PySem.Str.ofString "_law_great_right")
  | _ => none
def cnN : Nat → Option Str
  | 0 => some (PySem.Str.ofString "MOST_TABLES")
  | 1 => some (PySem.Str.ofString "MOST_LINKS")
  | 2 => some (PySem.Str.ofString "MOST_VALUES")
  | 3 => some (PySem.Str.ofString "MOST_ROWS")
  | 4 => some (PySem.Str.ofString "MOST_FITS")
  | 5 => some (PySem.Str.ofString "MOST_PRICE")
  | 6 => some (PySem.Str.ofString "MOST_UNKNOWN")
  | 7 => some (PySem.Str.ofString "NESTED")
  | 8 => some (PySem.Str.ofString "HASHED")
  | 9 => some (PySem.Str.ofString "PROBED")
  | 10 => some (PySem.Str.ofString "WAYS")
  | _ => none
def top (i : Nat) : Stmt := PySem.Challenge.pw_plancorners_k15_queries_by_hand.main.body.getD i (.Pass ⟨0, 0, 0, 0⟩)
abbrev s_is_whole : Stmt := top 15
def n_is_whole : List Str := [PySem.Str.ofString "value", PySem.Str.ofString "least", PySem.Str.ofString "most"]
def p_is_whole : List Str := [PySem.Str.ofString "value", PySem.Str.ofString "least", PySem.Str.ofString "most"]
def d_is_whole : He.DefD := ⟨(PySem.Str.ofString "is_whole", none), PySem.Str.ofString "is_whole", PySem.Str.ofString "is_whole", defArgs s_is_whole, defBody s_is_whole, defScope s_is_whole, [], []⟩
abbrev s_are_rising : Stmt := top 16
def n_are_rising : List Str := [PySem.Str.ofString "row", PySem.Str.ofString "one", PySem.Str.ofString "other"]
def p_are_rising : List Str := [PySem.Str.ofString "row"]
def d_are_rising : He.DefD := ⟨(PySem.Str.ofString "are_rising", none), PySem.Str.ofString "are_rising", PySem.Str.ofString "are_rising", defArgs s_are_rising, defBody s_are_rising, defScope s_are_rising, [], []⟩
abbrev s_are_values : Stmt := top 17
def n_are_values : List Str := [PySem.Str.ofString "value", PySem.Str.ofString "most", PySem.Str.ofString "one"]
def p_are_values : List Str := [PySem.Str.ofString "value", PySem.Str.ofString "most"]
def d_are_values : He.DefD := ⟨(PySem.Str.ofString "are_values", none), PySem.Str.ofString "are_values", PySem.Str.ofString "are_values", defArgs s_are_values, defBody s_are_values, defScope s_are_values, [], []⟩
abbrev s_is_link : Stmt := top 18
def n_is_link : List Str := [PySem.Str.ofString "value", PySem.Str.ofString "tables"]
def p_is_link : List Str := [PySem.Str.ofString "value", PySem.Str.ofString "tables"]
def d_is_link : He.DefD := ⟨(PySem.Str.ofString "is_link", none), PySem.Str.ofString "is_link", PySem.Str.ofString "is_link", defArgs s_is_link, defBody s_is_link, defScope s_is_link, [], []⟩
abbrev s_need_links : Stmt := top 19
def n_need_links : List Str := [PySem.Str.ofString "links", PySem.Str.ofString "tables", PySem.Str.ofString "number", PySem.Str.ofString "link"]
def p_need_links : List Str := [PySem.Str.ofString "links", PySem.Str.ofString "tables"]
def d_need_links : He.DefD := ⟨(PySem.Str.ofString "need_links", none), PySem.Str.ofString "need_links", PySem.Str.ofString "need_links", defArgs s_need_links, defBody s_need_links, defScope s_need_links, [], []⟩
abbrev s_need_prices : Stmt := top 20
def n_need_prices : List Str := [PySem.Str.ofString "prices"]
def p_need_prices : List Str := [PySem.Str.ofString "prices"]
def d_need_prices : He.DefD := ⟨(PySem.Str.ofString "need_prices", none), PySem.Str.ofString "need_prices", PySem.Str.ofString "need_prices", defArgs s_need_prices, defBody s_need_prices, defScope s_need_prices, [], []⟩
abbrev s_values_of : Stmt := top 21
def n_values_of : List Str := [PySem.Str.ofString "query", PySem.Str.ofString "link"]
def p_values_of : List Str := [PySem.Str.ofString "query"]
def d_values_of : He.DefD := ⟨(PySem.Str.ofString "values_of", none), PySem.Str.ofString "values_of", PySem.Str.ofString "values_of", defArgs s_values_of, defBody s_values_of, defScope s_values_of, [], []⟩
abbrev s_unknown_in : Stmt := top 22
def n_unknown_in : List Str := [PySem.Str.ofString "query", PySem.Str.ofString "place", PySem.Str.ofString "values"]
def p_unknown_in : List Str := [PySem.Str.ofString "query"]
def d_unknown_in : He.DefD := ⟨(PySem.Str.ofString "unknown_in", none), PySem.Str.ofString "unknown_in", PySem.Str.ofString "unknown_in", defArgs s_unknown_in, defBody s_unknown_in, defScope s_unknown_in, [], []⟩
abbrev s_need_query : Stmt := top 23
def n_need_query : List Str := [PySem.Str.ofString "query", PySem.Str.ofString "number", PySem.Str.ofString "values"]
def p_need_query : List Str := [PySem.Str.ofString "query"]
def d_need_query : He.DefD := ⟨(PySem.Str.ofString "need_query", none), PySem.Str.ofString "need_query", PySem.Str.ofString "need_query", defArgs s_need_query, defBody s_need_query, defScope s_need_query, [], []⟩
abbrev s_unknowns : Stmt := top 24
def n_unknowns : List Str := [PySem.Str.ofString "query"]
def p_unknowns : List Str := [PySem.Str.ofString "query"]
def d_unknowns : He.DefD := ⟨(PySem.Str.ofString "unknowns", none), PySem.Str.ofString "unknowns", PySem.Str.ofString "unknowns", defArgs s_unknowns, defBody s_unknowns, defScope s_unknowns, [], []⟩
abbrev s_is_point : Stmt := top 25
def n_is_point : List Str := [PySem.Str.ofString "query", PySem.Str.ofString "value", PySem.Str.ofString "rows", PySem.Str.ofString "one", PySem.Str.ofString "values"]
def p_is_point : List Str := [PySem.Str.ofString "query", PySem.Str.ofString "value"]
def d_is_point : He.DefD := ⟨(PySem.Str.ofString "is_point", none), PySem.Str.ofString "is_point", PySem.Str.ofString "is_point", defArgs s_is_point, defBody s_is_point, defScope s_is_point, [], []⟩
abbrev s_need_point : Stmt := top 26
def n_need_point : List Str := [PySem.Str.ofString "query", PySem.Str.ofString "point"]
def p_need_point : List Str := [PySem.Str.ofString "query", PySem.Str.ofString "point"]
def d_need_point : He.DefD := ⟨(PySem.Str.ofString "need_point", none), PySem.Str.ofString "need_point", PySem.Str.ofString "need_point", defArgs s_need_point, defBody s_need_point, defScope s_need_point, [], []⟩
abbrev s_spread : Stmt := top 27
def n_spread : List Str := [PySem.Str.ofString "rows", PySem.Str.ofString "found", PySem.Str.ofString "values", PySem.Str.ofString "row", PySem.Str.ofString "value"]
def p_spread : List Str := [PySem.Str.ofString "rows"]
def d_spread : He.DefD := ⟨(PySem.Str.ofString "spread", none), PySem.Str.ofString "spread", PySem.Str.ofString "spread", defArgs s_spread, defBody s_spread, defScope s_spread, [], []⟩
abbrev s_ends_of : Stmt := top 28
def n_ends_of : List Str := [PySem.Str.ofString "values"]
def p_ends_of : List Str := [PySem.Str.ofString "values"]
def d_ends_of : He.DefD := ⟨(PySem.Str.ofString "ends_of", none), PySem.Str.ofString "ends_of", PySem.Str.ofString "ends_of", defArgs s_ends_of, defBody s_ends_of, defScope s_ends_of, [], []⟩
abbrev s_corners_of : Stmt := top 29
def n_corners_of : List Str := [PySem.Str.ofString "query", PySem.Str.ofString "values"]
def p_corners_of : List Str := [PySem.Str.ofString "query"]
def d_corners_of : He.DefD := ⟨(PySem.Str.ofString "corners_of", none), PySem.Str.ofString "corners_of", PySem.Str.ofString "corners_of", defArgs s_corners_of, defBody s_corners_of, defScope s_corners_of, [], []⟩
abbrev s_corners : Stmt := top 30
def n_corners : List Str := [PySem.Str.ofString "query"]
def p_corners : List Str := [PySem.Str.ofString "query"]
def d_corners : He.DefD := ⟨(PySem.Str.ofString "corners", none), PySem.Str.ofString "corners", PySem.Str.ofString "corners", defArgs s_corners, defBody s_corners, defScope s_corners, [], []⟩
abbrev s_told_points : Stmt := top 31
def n_told_points : List Str := [PySem.Str.ofString "query"]
def p_told_points : List Str := [PySem.Str.ofString "query"]
def d_told_points : He.DefD := ⟨(PySem.Str.ofString "told_points", none), PySem.Str.ofString "told_points", PySem.Str.ofString "told_points", defArgs s_told_points, defBody s_told_points, defScope s_told_points, [], []⟩
abbrev s_need_place : Stmt := top 32
def n_need_place : List Str := [PySem.Str.ofString "query", PySem.Str.ofString "place"]
def p_need_place : List Str := [PySem.Str.ofString "query", PySem.Str.ofString "place"]
def d_need_place : He.DefD := ⟨(PySem.Str.ofString "need_place", none), PySem.Str.ofString "need_place", PySem.Str.ofString "need_place", defArgs s_need_place, defBody s_need_place, defScope s_need_place, [], []⟩
abbrev s_are_tables : Stmt := top 33
def n_are_tables : List Str := [PySem.Str.ofString "query", PySem.Str.ofString "value", PySem.Str.ofString "table"]
def p_are_tables : List Str := [PySem.Str.ofString "query", PySem.Str.ofString "value"]
def d_are_tables : He.DefD := ⟨(PySem.Str.ofString "are_tables", none), PySem.Str.ofString "are_tables", PySem.Str.ofString "are_tables", defArgs s_are_tables, defBody s_are_tables, defScope s_are_tables, [], []⟩
abbrev s_need_tables : Stmt := top 34
def n_need_tables : List Str := [PySem.Str.ofString "query", PySem.Str.ofString "tables"]
def p_need_tables : List Str := [PySem.Str.ofString "query", PySem.Str.ofString "tables"]
def d_need_tables : He.DefD := ⟨(PySem.Str.ofString "need_tables", none), PySem.Str.ofString "need_tables", PySem.Str.ofString "need_tables", defArgs s_need_tables, defBody s_need_tables, defScope s_need_tables, [], []⟩
abbrev s_links_within : Stmt := top 36
def n_links_within : List Str := [PySem.Str.ofString "query", PySem.Str.ofString "tables", PySem.Str.ofString "number", PySem.Str.ofString "link"]
def p_links_within : List Str := [PySem.Str.ofString "query", PySem.Str.ofString "tables"]
def d_links_within : He.DefD := ⟨(PySem.Str.ofString "links_within", none), PySem.Str.ofString "links_within", PySem.Str.ofString "links_within", defArgs s_links_within, defBody s_links_within, defScope s_links_within, [], []⟩
abbrev s_product_of : Stmt := top 37
def n_product_of : List Str := [PySem.Str.ofString "query", PySem.Str.ofString "point", PySem.Str.ofString "tables", PySem.Str.ofString "links", PySem.Str.ofString "found", PySem.Str.ofString "table", PySem.Str.ofString "number"]
def p_product_of : List Str := [PySem.Str.ofString "query", PySem.Str.ofString "point", PySem.Str.ofString "tables", PySem.Str.ofString "links"]
def d_product_of : He.DefD := ⟨(PySem.Str.ofString "product_of", none), PySem.Str.ofString "product_of", PySem.Str.ofString "product_of", defArgs s_product_of, defBody s_product_of, defScope s_product_of, [], []⟩
abbrev s_out_of : Stmt := top 38
def n_out_of : List Str := [PySem.Str.ofString "query", PySem.Str.ofString "point", PySem.Str.ofString "tables"]
def p_out_of : List Str := [PySem.Str.ofString "query", PySem.Str.ofString "point", PySem.Str.ofString "tables"]
def d_out_of : He.DefD := ⟨(PySem.Str.ofString "out_of", none), PySem.Str.ofString "out_of", PySem.Str.ofString "out_of", defArgs s_out_of, defBody s_out_of, defScope s_out_of, [], []⟩
abbrev s_pairs_of : Stmt := top 39
def n_pairs_of : List Str := [PySem.Str.ofString "query", PySem.Str.ofString "point", PySem.Str.ofString "left", PySem.Str.ofString "right", PySem.Str.ofString "links"]
def p_pairs_of : List Str := [PySem.Str.ofString "query", PySem.Str.ofString "point", PySem.Str.ofString "left", PySem.Str.ofString "right"]
def d_pairs_of : He.DefD := ⟨(PySem.Str.ofString "pairs_of", none), PySem.Str.ofString "pairs_of", PySem.Str.ofString "pairs_of", defArgs s_pairs_of, defBody s_pairs_of, defScope s_pairs_of, [], []⟩
abbrev s_out_range : Stmt := top 40
def n_out_range : List Str := [PySem.Str.ofString "query", PySem.Str.ofString "tables", PySem.Str.ofString "some", PySem.Str.ofString "corner"]
def p_out_range : List Str := [PySem.Str.ofString "query", PySem.Str.ofString "tables"]
def d_out_range : He.DefD := ⟨(PySem.Str.ofString "out_range", none), PySem.Str.ofString "out_range", PySem.Str.ofString "out_range", defArgs s_out_range, defBody s_out_range, defScope s_out_range, [], []⟩
abbrev s_are_joined : Stmt := top 41
def n_are_joined : List Str := [PySem.Str.ofString "query", PySem.Str.ofString "left", PySem.Str.ofString "right", PySem.Str.ofString "one", PySem.Str.ofString "other", PySem.Str.ofString "fits"]
def p_are_joined : List Str := [PySem.Str.ofString "query", PySem.Str.ofString "left", PySem.Str.ofString "right"]
def d_are_joined : He.DefD := ⟨(PySem.Str.ofString "are_joined", none), PySem.Str.ofString "are_joined", PySem.Str.ofString "are_joined", defArgs s_are_joined, defBody s_are_joined, defScope s_are_joined, [], []⟩
abbrev s_do_hang : Stmt := top 42
def n_do_hang : List Str := [PySem.Str.ofString "query", PySem.Str.ofString "tables", PySem.Str.ofString "found", PySem.Str.ofString "turn", PySem.Str.ofString "table"]
def p_do_hang : List Str := [PySem.Str.ofString "query", PySem.Str.ofString "tables"]
def d_do_hang : He.DefD := ⟨(PySem.Str.ofString "do_hang", none), PySem.Str.ofString "do_hang", PySem.Str.ofString "do_hang", defArgs s_do_hang, defBody s_do_hang, defScope s_do_hang, [], []⟩
abbrev s_is_table : Stmt := top 48
def n_is_table : List Str := [PySem.Str.ofString "value"]
def p_is_table : List Str := [PySem.Str.ofString "value"]
def d_is_table : He.DefD := ⟨(PySem.Str.ofString "is_table", none), PySem.Str.ofString "is_table", PySem.Str.ofString "is_table", defArgs s_is_table, defBody s_is_table, defScope s_is_table, [], []⟩
abbrev s_tables_of : Stmt := top 49
def n_tables_of : List Str := [PySem.Str.ofString "plan"]
def p_tables_of : List Str := [PySem.Str.ofString "plan"]
def d_tables_of : He.DefD := ⟨(PySem.Str.ofString "tables_of", none), PySem.Str.ofString "tables_of", PySem.Str.ofString "tables_of", defArgs s_tables_of, defBody s_tables_of, defScope s_tables_of, [], []⟩
abbrev s_is_part : Stmt := top 50
def n_is_part : List Str := [PySem.Str.ofString "query", PySem.Str.ofString "value", PySem.Str.ofString "used", PySem.Str.ofString "deep"]
def p_is_part : List Str := [PySem.Str.ofString "query", PySem.Str.ofString "value", PySem.Str.ofString "used", PySem.Str.ofString "deep"]
def d_is_part : He.DefD := ⟨(PySem.Str.ofString "is_part", none), PySem.Str.ofString "is_part", PySem.Str.ofString "is_part", defArgs s_is_part, defBody s_is_part, defScope s_is_part, [], []⟩
abbrev s_need_plan : Stmt := top 51
def n_need_plan : List Str := [PySem.Str.ofString "query", PySem.Str.ofString "plan", PySem.Str.ofString "waiting", PySem.Str.ofString "used", PySem.Str.ofString "here", PySem.Str.ofString "path"]
def p_need_plan : List Str := [PySem.Str.ofString "query", PySem.Str.ofString "plan"]
def d_need_plan : He.DefD := ⟨(PySem.Str.ofString "need_plan", none), PySem.Str.ofString "need_plan", PySem.Str.ofString "need_plan", defArgs s_need_plan, defBody s_need_plan, defScope s_need_plan, [], []⟩
abbrev s_nodes_of : Stmt := top 52
def n_nodes_of : List Str := [PySem.Str.ofString "plan"]
def p_nodes_of : List Str := [PySem.Str.ofString "plan"]
def d_nodes_of : He.DefD := ⟨(PySem.Str.ofString "nodes_of", none), PySem.Str.ofString "nodes_of", PySem.Str.ofString "nodes_of", defArgs s_nodes_of, defBody s_nodes_of, defScope s_nodes_of, [], []⟩
abbrev s_node_cost : Stmt := top 53
def n_node_cost : List Str := [PySem.Str.ofString "query", PySem.Str.ofString "point", PySem.Str.ofString "node", PySem.Str.ofString "how", PySem.Str.ofString "left", PySem.Str.ofString "right", PySem.Str.ofString "heavy", PySem.Str.ofString "light", PySem.Str.ofString "write", PySem.Str.ofString "whole"]
def p_node_cost : List Str := [PySem.Str.ofString "query", PySem.Str.ofString "point", PySem.Str.ofString "node"]
def d_node_cost : He.DefD := ⟨(PySem.Str.ofString "node_cost", none), PySem.Str.ofString "node_cost", PySem.Str.ofString "node_cost", defArgs s_node_cost, defBody s_node_cost, defScope s_node_cost, [], []⟩
abbrev s_cost_of : Stmt := top 54
def n_cost_of : List Str := [PySem.Str.ofString "query", PySem.Str.ofString "point", PySem.Str.ofString "plan", PySem.Str.ofString "node"]
def p_cost_of : List Str := [PySem.Str.ofString "query", PySem.Str.ofString "point", PySem.Str.ofString "plan"]
def d_cost_of : He.DefD := ⟨(PySem.Str.ofString "cost_of", none), PySem.Str.ofString "cost_of", PySem.Str.ofString "cost_of", defArgs s_cost_of, defBody s_cost_of, defScope s_cost_of, [], []⟩
abbrev s_corner_costs : Stmt := top 55
def n_corner_costs : List Str := [PySem.Str.ofString "query", PySem.Str.ofString "plan", PySem.Str.ofString "corner"]
def p_corner_costs : List Str := [PySem.Str.ofString "query", PySem.Str.ofString "plan"]
def d_corner_costs : He.DefD := ⟨(PySem.Str.ofString "corner_costs", none), PySem.Str.ofString "corner_costs", PySem.Str.ofString "corner_costs", defArgs s_corner_costs, defBody s_corner_costs, defScope s_corner_costs, [], []⟩
abbrev s_crossed_nodes : Stmt := top 56
def n_crossed_nodes : List Str := [PySem.Str.ofString "query", PySem.Str.ofString "plan", PySem.Str.ofString "node"]
def p_crossed_nodes : List Str := [PySem.Str.ofString "query", PySem.Str.ofString "plan"]
def d_crossed_nodes : He.DefD := ⟨(PySem.Str.ofString "crossed_nodes", none), PySem.Str.ofString "crossed_nodes", PySem.Str.ofString "crossed_nodes", defArgs s_crossed_nodes, defBody s_crossed_nodes, defScope s_crossed_nodes, [], []⟩
abbrev s_is_linked : Stmt := top 57
def n_is_linked : List Str := [PySem.Str.ofString "query", PySem.Str.ofString "plan"]
def p_is_linked : List Str := [PySem.Str.ofString "query", PySem.Str.ofString "plan"]
def d_is_linked : He.DefD := ⟨(PySem.Str.ofString "is_linked", none), PySem.Str.ofString "is_linked", PySem.Str.ofString "is_linked", defArgs s_is_linked, defBody s_is_linked, defScope s_is_linked, [], []⟩
abbrev s_cost_range : Stmt := top 58
def n_cost_range : List Str := [PySem.Str.ofString "query", PySem.Str.ofString "plan", PySem.Str.ofString "some"]
def p_cost_range : List Str := [PySem.Str.ofString "query", PySem.Str.ofString "plan"]
def d_cost_range : He.DefD := ⟨(PySem.Str.ofString "cost_range", none), PySem.Str.ofString "cost_range", PySem.Str.ofString "cost_range", defArgs s_cost_range, defBody s_cost_range, defScope s_cost_range, [], []⟩
abbrev s_need_two : Stmt := top 60
def n_need_two : List Str := [PySem.Str.ofString "query", PySem.Str.ofString "one", PySem.Str.ofString "other"]
def p_need_two : List Str := [PySem.Str.ofString "query", PySem.Str.ofString "one", PySem.Str.ofString "other"]
def d_need_two : He.DefD := ⟨(PySem.Str.ofString "need_two", none), PySem.Str.ofString "need_two", PySem.Str.ofString "need_two", defArgs s_need_two, defBody s_need_two, defScope s_need_two, [], []⟩
abbrev s_lead_of : Stmt := top 61
def n_lead_of : List Str := [PySem.Str.ofString "query", PySem.Str.ofString "point", PySem.Str.ofString "one", PySem.Str.ofString "other"]
def p_lead_of : List Str := [PySem.Str.ofString "query", PySem.Str.ofString "point", PySem.Str.ofString "one", PySem.Str.ofString "other"]
def d_lead_of : He.DefD := ⟨(PySem.Str.ofString "lead_of", none), PySem.Str.ofString "lead_of", PySem.Str.ofString "lead_of", defArgs s_lead_of, defBody s_lead_of, defScope s_lead_of, [], []⟩
abbrev s_leads_of : Stmt := top 62
def n_leads_of : List Str := [PySem.Str.ofString "query", PySem.Str.ofString "one", PySem.Str.ofString "other", PySem.Str.ofString "corner"]
def p_leads_of : List Str := [PySem.Str.ofString "query", PySem.Str.ofString "one", PySem.Str.ofString "other"]
def d_leads_of : He.DefD := ⟨(PySem.Str.ofString "leads_of", none), PySem.Str.ofString "leads_of", PySem.Str.ofString "leads_of", defArgs s_leads_of, defBody s_leads_of, defScope s_leads_of, [], []⟩
abbrev s_lead_range : Stmt := top 63
def n_lead_range : List Str := [PySem.Str.ofString "query", PySem.Str.ofString "one", PySem.Str.ofString "other", PySem.Str.ofString "some", PySem.Str.ofString "amount", PySem.Str.ofString "corner"]
def p_lead_range : List Str := [PySem.Str.ofString "query", PySem.Str.ofString "one", PySem.Str.ofString "other"]
def d_lead_range : He.DefD := ⟨(PySem.Str.ofString "lead_range", none), PySem.Str.ofString "lead_range", PySem.Str.ofString "lead_range", defArgs s_lead_range, defBody s_lead_range, defScope s_lead_range, [], []⟩
abbrev s_lead_corners : Stmt := top 64
def n_lead_corners : List Str := [PySem.Str.ofString "query", PySem.Str.ofString "one", PySem.Str.ofString "other", PySem.Str.ofString "some", PySem.Str.ofString "least", PySem.Str.ofString "most", PySem.Str.ofString "amount", PySem.Str.ofString "corner", PySem.Str.ofString "low"]
def p_lead_corners : List Str := [PySem.Str.ofString "query", PySem.Str.ofString "one", PySem.Str.ofString "other"]
def d_lead_corners : He.DefD := ⟨(PySem.Str.ofString "lead_corners", none), PySem.Str.ofString "lead_corners", PySem.Str.ofString "lead_corners", defArgs s_lead_corners, defBody s_lead_corners, defScope s_lead_corners, [], []⟩
abbrev s_never_dearer : Stmt := top 65
def n_never_dearer : List Str := [PySem.Str.ofString "query", PySem.Str.ofString "one", PySem.Str.ofString "other"]
def p_never_dearer : List Str := [PySem.Str.ofString "query", PySem.Str.ofString "one", PySem.Str.ofString "other"]
def d_never_dearer : He.DefD := ⟨(PySem.Str.ofString "never_dearer", none), PySem.Str.ofString "never_dearer", PySem.Str.ofString "never_dearer", defArgs s_never_dearer, defBody s_never_dearer, defScope s_never_dearer, [], []⟩
abbrev s_common : Stmt := top 66
def n_common : List Str := [PySem.Str.ofString "one", PySem.Str.ofString "other"]
def p_common : List Str := [PySem.Str.ofString "one", PySem.Str.ofString "other"]
def d_common : He.DefD := ⟨(PySem.Str.ofString "common", none), PySem.Str.ofString "common", PySem.Str.ofString "common", defArgs s_common, defBody s_common, defScope s_common, [], []⟩
abbrev s_fraction : Stmt := top 67
def n_fraction : List Str := [PySem.Str.ofString "one", PySem.Str.ofString "other", PySem.Str.ofString "divisor"]
def p_fraction : List Str := [PySem.Str.ofString "one", PySem.Str.ofString "other"]
def d_fraction : He.DefD := ⟨(PySem.Str.ofString "fraction", none), PySem.Str.ofString "fraction", PySem.Str.ofString "fraction", defArgs s_fraction, defBody s_fraction, defScope s_fraction, [], []⟩
abbrev s_is_less : Stmt := top 68
def n_is_less : List Str := [PySem.Str.ofString "one", PySem.Str.ofString "other"]
def p_is_less : List Str := [PySem.Str.ofString "one", PySem.Str.ofString "other"]
def d_is_less : He.DefD := ⟨(PySem.Str.ofString "is_less", none), PySem.Str.ofString "is_less", PySem.Str.ofString "is_less", defArgs s_is_less, defBody s_is_less, defScope s_is_less, [], []⟩
abbrev s_greatest_of : Stmt := top 69
def n_greatest_of : List Str := [PySem.Str.ofString "fractions", PySem.Str.ofString "found", PySem.Str.ofString "one"]
def p_greatest_of : List Str := [PySem.Str.ofString "fractions"]
def d_greatest_of : He.DefD := ⟨(PySem.Str.ofString "greatest_of", none), PySem.Str.ofString "greatest_of", PySem.Str.ofString "greatest_of", defArgs s_greatest_of, defBody s_greatest_of, defScope s_greatest_of, [], []⟩
abbrev s_share_of : Stmt := top 70
def n_share_of : List Str := [PySem.Str.ofString "query", PySem.Str.ofString "point", PySem.Str.ofString "one", PySem.Str.ofString "other", PySem.Str.ofString "mine", PySem.Str.ofString "yours"]
def p_share_of : List Str := [PySem.Str.ofString "query", PySem.Str.ofString "point", PySem.Str.ofString "one", PySem.Str.ofString "other"]
def d_share_of : He.DefD := ⟨(PySem.Str.ofString "share_of", none), PySem.Str.ofString "share_of", PySem.Str.ofString "share_of", defArgs s_share_of, defBody s_share_of, defScope s_share_of, [], []⟩
abbrev s_greatest_share : Stmt := top 71
def n_greatest_share : List Str := [PySem.Str.ofString "query", PySem.Str.ofString "one", PySem.Str.ofString "other", PySem.Str.ofString "corner"]
def p_greatest_share : List Str := [PySem.Str.ofString "query", PySem.Str.ofString "one", PySem.Str.ofString "other"]
def d_greatest_share : He.DefD := ⟨(PySem.Str.ofString "greatest_share", none), PySem.Str.ofString "greatest_share", PySem.Str.ofString "greatest_share", defArgs s_greatest_share, defBody s_greatest_share, defScope s_greatest_share, [], []⟩
abbrev s_share_corner : Stmt := top 72
def n_share_corner : List Str := [PySem.Str.ofString "query", PySem.Str.ofString "one", PySem.Str.ofString "other", PySem.Str.ofString "some", PySem.Str.ofString "most", PySem.Str.ofString "corner"]
def p_share_corner : List Str := [PySem.Str.ofString "query", PySem.Str.ofString "one", PySem.Str.ofString "other"]
def d_share_corner : He.DefD := ⟨(PySem.Str.ofString "share_corner", none), PySem.Str.ofString "share_corner", PySem.Str.ofString "share_corner", defArgs s_share_corner, defBody s_share_corner, defScope s_share_corner, [], []⟩
abbrev s_cheaper_corners : Stmt := top 73
def n_cheaper_corners : List Str := [PySem.Str.ofString "query", PySem.Str.ofString "one", PySem.Str.ofString "other", PySem.Str.ofString "amount", PySem.Str.ofString "corner"]
def p_cheaper_corners : List Str := [PySem.Str.ofString "query", PySem.Str.ofString "one", PySem.Str.ofString "other"]
def d_cheaper_corners : He.DefD := ⟨(PySem.Str.ofString "cheaper_corners", none), PySem.Str.ofString "cheaper_corners", PySem.Str.ofString "cheaper_corners", defArgs s_cheaper_corners, defBody s_cheaper_corners, defScope s_cheaper_corners, [], []⟩
abbrev s_with_value : Stmt := top 75
def n_with_value : List Str := [PySem.Str.ofString "point", PySem.Str.ofString "place", PySem.Str.ofString "value"]
def p_with_value : List Str := [PySem.Str.ofString "point", PySem.Str.ofString "place", PySem.Str.ofString "value"]
def d_with_value : He.DefD := ⟨(PySem.Str.ofString "with_value", none), PySem.Str.ofString "with_value", PySem.Str.ofString "with_value", defArgs s_with_value, defBody s_with_value, defScope s_with_value, [], []⟩
abbrev s_line_at : Stmt := top 76
def n_line_at : List Str := [PySem.Str.ofString "query", PySem.Str.ofString "one", PySem.Str.ofString "other", PySem.Str.ofString "place", PySem.Str.ofString "point", PySem.Str.ofString "base"]
def p_line_at : List Str := [PySem.Str.ofString "query", PySem.Str.ofString "one", PySem.Str.ofString "other", PySem.Str.ofString "place", PySem.Str.ofString "point"]
def d_line_at : He.DefD := ⟨(PySem.Str.ofString "line_at", none), PySem.Str.ofString "line_at", PySem.Str.ofString "line_at", defArgs s_line_at, defBody s_line_at, defScope s_line_at, [], []⟩
abbrev s_span_of : Stmt := top 77
def n_span_of : List Str := [PySem.Str.ofString "lines", PySem.Str.ofString "low", PySem.Str.ofString "high", PySem.Str.ofString "slope", PySem.Str.ofString "base"]
def p_span_of : List Str := [PySem.Str.ofString "lines", PySem.Str.ofString "low", PySem.Str.ofString "high"]
def d_span_of : He.DefD := ⟨(PySem.Str.ofString "span_of", none), PySem.Str.ofString "span_of", PySem.Str.ofString "span_of", defArgs s_span_of, defBody s_span_of, defScope s_span_of, [], []⟩
abbrev s_need_asked : Stmt := top 78
def n_need_asked : List Str := [PySem.Str.ofString "query", PySem.Str.ofString "one", PySem.Str.ofString "other", PySem.Str.ofString "place"]
def p_need_asked : List Str := [PySem.Str.ofString "query", PySem.Str.ofString "one", PySem.Str.ofString "other", PySem.Str.ofString "place"]
def d_need_asked : He.DefD := ⟨(PySem.Str.ofString "need_asked", none), PySem.Str.ofString "need_asked", PySem.Str.ofString "need_asked", defArgs s_need_asked, defBody s_need_asked, defScope s_need_asked, [], []⟩
abbrev s_ends_at : Stmt := top 79
def n_ends_at : List Str := [PySem.Str.ofString "query", PySem.Str.ofString "place", PySem.Str.ofString "values"]
def p_ends_at : List Str := [PySem.Str.ofString "query", PySem.Str.ofString "place"]
def d_ends_at : He.DefD := ⟨(PySem.Str.ofString "ends_at", none), PySem.Str.ofString "ends_at", PySem.Str.ofString "ends_at", defArgs s_ends_at, defBody s_ends_at, defScope s_ends_at, [], []⟩
abbrev s_span : Stmt := top 80
def n_span : List Str := [PySem.Str.ofString "query", PySem.Str.ofString "one", PySem.Str.ofString "other", PySem.Str.ofString "place", PySem.Str.ofString "point", PySem.Str.ofString "low", PySem.Str.ofString "high"]
def p_span : List Str := [PySem.Str.ofString "query", PySem.Str.ofString "one", PySem.Str.ofString "other", PySem.Str.ofString "place", PySem.Str.ofString "point"]
def d_span : He.DefD := ⟨(PySem.Str.ofString "span", none), PySem.Str.ofString "span", PySem.Str.ofString "span", defArgs s_span, defBody s_span, defScope s_span, [], []⟩
abbrev s_other_corners : Stmt := top 81
def n_other_corners : List Str := [PySem.Str.ofString "query", PySem.Str.ofString "place", PySem.Str.ofString "low", PySem.Str.ofString "corner"]
def p_other_corners : List Str := [PySem.Str.ofString "query", PySem.Str.ofString "place"]
def d_other_corners : He.DefD := ⟨(PySem.Str.ofString "other_corners", none), PySem.Str.ofString "other_corners", PySem.Str.ofString "other_corners", defArgs s_other_corners, defBody s_other_corners, defScope s_other_corners, [], []⟩
abbrev s_sure_span : Stmt := top 82
def n_sure_span : List Str := [PySem.Str.ofString "query", PySem.Str.ofString "one", PySem.Str.ofString "other", PySem.Str.ofString "place", PySem.Str.ofString "low", PySem.Str.ofString "high", PySem.Str.ofString "corner"]
def p_sure_span : List Str := [PySem.Str.ofString "query", PySem.Str.ofString "one", PySem.Str.ofString "other", PySem.Str.ofString "place"]
def d_sure_span : He.DefD := ⟨(PySem.Str.ofString "sure_span", none), PySem.Str.ofString "sure_span", PySem.Str.ofString "sure_span", defArgs s_sure_span, defBody s_sure_span, defScope s_sure_span, [], []⟩
abbrev s_crossing : Stmt := top 83
def n_crossing : List Str := [PySem.Str.ofString "query", PySem.Str.ofString "one", PySem.Str.ofString "other", PySem.Str.ofString "place", PySem.Str.ofString "point", PySem.Str.ofString "slope", PySem.Str.ofString "base", PySem.Str.ofString "value", PySem.Str.ofString "whole", PySem.Str.ofString "divisor", PySem.Str.ofString "rest"]
def p_crossing : List Str := [PySem.Str.ofString "query", PySem.Str.ofString "one", PySem.Str.ofString "other", PySem.Str.ofString "place", PySem.Str.ofString "point"]
def d_crossing : He.DefD := ⟨(PySem.Str.ofString "crossing", none), PySem.Str.ofString "crossing", PySem.Str.ofString "crossing", defArgs s_crossing, defBody s_crossing, defScope s_crossing, [], []⟩
abbrev s_does_matter : Stmt := top 84
def n_does_matter : List Str := [PySem.Str.ofString "query", PySem.Str.ofString "one", PySem.Str.ofString "other", PySem.Str.ofString "place", PySem.Str.ofString "low", PySem.Str.ofString "high", PySem.Str.ofString "corner", PySem.Str.ofString "here", PySem.Str.ofString "there"]
def p_does_matter : List Str := [PySem.Str.ofString "query", PySem.Str.ofString "one", PySem.Str.ofString "other", PySem.Str.ofString "place"]
def d_does_matter : He.DefD := ⟨(PySem.Str.ofString "does_matter", none), PySem.Str.ofString "does_matter", PySem.Str.ofString "does_matter", defArgs s_does_matter, defBody s_does_matter, defScope s_does_matter, [], []⟩
abbrev s_told_others : Stmt := top 85
def n_told_others : List Str := [PySem.Str.ofString "query", PySem.Str.ofString "place", PySem.Str.ofString "rows"]
def p_told_others : List Str := [PySem.Str.ofString "query", PySem.Str.ofString "place"]
def d_told_others : He.DefD := ⟨(PySem.Str.ofString "told_others", none), PySem.Str.ofString "told_others", PySem.Str.ofString "told_others", defArgs s_told_others, defBody s_told_others, defScope s_told_others, [], []⟩
abbrev s_sign_of : Stmt := top 86
def n_sign_of : List Str := [PySem.Str.ofString "number"]
def p_sign_of : List Str := [PySem.Str.ofString "number"]
def d_sign_of : He.DefD := ⟨(PySem.Str.ofString "sign_of", none), PySem.Str.ofString "sign_of", PySem.Str.ofString "sign_of", defArgs s_sign_of, defBody s_sign_of, defScope s_sign_of, [], []⟩
abbrev s__law_mixed : Stmt := top 88
def p__law_mixed : List Str := [PySem.Str.ofString "_law_cell", PySem.Str.ofString "_law_n"]
def d__law_mixed : He.DefD := ⟨(PySem.Str.ofString "_law_mixed", none), PySem.Str.ofString "_law_mixed", PySem.Str.ofString "_law_mixed", defArgs s__law_mixed, defBody s__law_mixed, defScope s__law_mixed, [], []⟩
abbrev s__law_folded : Stmt := top 89
def p__law_folded : List Str := [PySem.Str.ofString "_law_script"]
def d__law_folded : He.DefD := ⟨(PySem.Str.ofString "_law_folded", none), PySem.Str.ofString "_law_folded", PySem.Str.ofString "_law_folded", defArgs s__law_folded, defBody s__law_folded, defScope s__law_folded, [], []⟩
abbrev s__law_draw : Stmt := top 90
def p__law_draw : List Str := [PySem.Str.ofString "_law_m", PySem.Str.ofString "_law_limit"]
def d__law_draw : He.DefD := ⟨(PySem.Str.ofString "_law_draw", none), PySem.Str.ofString "_law_draw", PySem.Str.ofString "_law_draw", defArgs s__law_draw, defBody s__law_draw, defScope s__law_draw, [], []⟩
abbrev s__law_begun : Stmt := top 91
def p__law_begun : List Str := [PySem.Str.ofString "_law_script"]
def d__law_begun : He.DefD := ⟨(PySem.Str.ofString "_law_begun", none), PySem.Str.ofString "_law_begun", PySem.Str.ofString "_law_begun", defArgs s__law_begun, defBody s__law_begun, defScope s__law_begun, [], []⟩
abbrev s__law_like : Stmt := top 92
def n__law_like : List Str := [PySem.Str.ofString "_law_heard", PySem.Str.ofString "_law_due"]
def p__law_like : List Str := [PySem.Str.ofString "_law_heard", PySem.Str.ofString "_law_due"]
def d__law_like : He.DefD := ⟨(PySem.Str.ofString "_law_like", none), PySem.Str.ofString "_law_like", PySem.Str.ofString "_law_like", defArgs s__law_like, defBody s__law_like, defScope s__law_like, [], []⟩
abbrev s__law_two_right : Stmt := top 93
def n__law_two_right : List Str := [PySem.Str.ofString "_law_asked", PySem.Str.ofString "_law_near", PySem.Str.ofString "_law_far", PySem.Str.ofString "_law_told"]
def p__law_two_right : List Str := []
def d__law_two_right : He.DefD := ⟨(PySem.Str.ofString "_law_two_right", none), PySem.Str.ofString "_law_two_right", PySem.Str.ofString "_law_two_right", defArgs s__law_two_right, defBody s__law_two_right, defScope s__law_two_right, [], []⟩
abbrev s__law_three_right : Stmt := top 94
def n__law_three_right : List Str := [PySem.Str.ofString "_law_asked", PySem.Str.ofString "_law_near", PySem.Str.ofString "_law_far", PySem.Str.ofString "_law_mid"]
def p__law_three_right : List Str := []
def d__law_three_right : He.DefD := ⟨(PySem.Str.ofString "_law_three_right", none), PySem.Str.ofString "_law_three_right", PySem.Str.ofString "_law_three_right", defArgs s__law_three_right, defBody s__law_three_right, defScope s__law_three_right, [], []⟩
abbrev s__law_great_right : Stmt := top 95
def n__law_great_right : List Str := [PySem.Str.ofString "_law_sizes", PySem.Str.ofString "_law_links", PySem.Str.ofString "_law_asked"]
def p__law_great_right : List Str := []
def d__law_great_right : He.DefD := ⟨(PySem.Str.ofString "_law_great_right", none), PySem.Str.ofString "_law_great_right", PySem.Str.ofString "_law_great_right", defArgs s__law_great_right, defBody s__law_great_right, defScope s__law_great_right, [], []⟩
abbrev s_law : Stmt := top 96
def n_law : List Str := [PySem.Str.ofString "_law_script", PySem.Str.ofString "_law_m", PySem.Str.ofString "_law_low", PySem.Str.ofString "_law_asked", PySem.Str.ofString "_law_near", PySem.Str.ofString "_law_far"]
def p_law : List Str := [PySem.Str.ofString "_law_script"]
def d_law : He.DefD := ⟨(PySem.Str.ofString "law", none), PySem.Str.ofString "law", PySem.Str.ofString "law", defArgs s_law, defBody s_law, defScope s_law, [], []⟩
def fn0 : List He.DefD := [d_is_whole, d_are_rising, d_are_values, d_is_link, d_need_links, d_need_prices, d_values_of, d_unknown_in, d_need_query, d_unknowns, d_is_point, d_need_point, d_spread, d_ends_of, d_corners_of, d_corners, d_told_points, d_need_place, d_are_tables, d_need_tables]
def fn1 : List He.DefD := [d_links_within, d_product_of, d_out_of, d_pairs_of, d_out_range, d_are_joined, d_do_hang, d_is_table, d_tables_of, d_is_part, d_need_plan, d_nodes_of, d_node_cost, d_cost_of, d_corner_costs, d_crossed_nodes, d_is_linked, d_cost_range, d_need_two, d_lead_of]
def fn2 : List He.DefD := [d_leads_of, d_lead_range, d_lead_corners, d_never_dearer, d_common, d_fraction, d_is_less, d_greatest_of, d_share_of, d_greatest_share, d_share_corner, d_cheaper_corners, d_with_value, d_line_at, d_span_of, d_need_asked, d_ends_at, d_span, d_other_corners, d_sure_span]
def fn3 : List He.DefD := [d_crossing, d_does_matter, d_told_others, d_sign_of, d__law_mixed, d__law_folded, d__law_draw, d__law_begun, d__law_like, d__law_two_right, d__law_three_right, d__law_great_right, d_law]
def fn : List He.DefD := fn0 ++ fn1 ++ fn2 ++ fn3
def fa0 : List He.Fa := [.glo (PySem.Str.ofString "is_whole"), .glo (PySem.Str.ofString "are_rising"), .glo (PySem.Str.ofString "are_values"), .glo (PySem.Str.ofString "is_link"), .glo (PySem.Str.ofString "need_links"), .glo (PySem.Str.ofString "need_prices"), .glo (PySem.Str.ofString "values_of"), .glo (PySem.Str.ofString "unknown_in"), .glo (PySem.Str.ofString "need_query"), .glo (PySem.Str.ofString "unknowns"), .glo (PySem.Str.ofString "is_point"), .glo (PySem.Str.ofString "need_point"), .glo (PySem.Str.ofString "spread"), .glo (PySem.Str.ofString "ends_of"), .glo (PySem.Str.ofString "corners_of"), .glo (PySem.Str.ofString "corners"), .glo (PySem.Str.ofString "told_points"), .glo (PySem.Str.ofString "need_place"), .glo (PySem.Str.ofString "are_tables"), .glo (PySem.Str.ofString "need_tables")]
def fa1 : List He.Fa := [.glo (PySem.Str.ofString "links_within"), .glo (PySem.Str.ofString "product_of"), .glo (PySem.Str.ofString "out_of"), .glo (PySem.Str.ofString "pairs_of"), .glo (PySem.Str.ofString "out_range"), .glo (PySem.Str.ofString "are_joined"), .glo (PySem.Str.ofString "do_hang"), .glo (PySem.Str.ofString "is_table"), .glo (PySem.Str.ofString "tables_of"), .glo (PySem.Str.ofString "is_part"), .glo (PySem.Str.ofString "need_plan"), .glo (PySem.Str.ofString "nodes_of"), .glo (PySem.Str.ofString "node_cost"), .glo (PySem.Str.ofString "cost_of"), .glo (PySem.Str.ofString "corner_costs"), .glo (PySem.Str.ofString "crossed_nodes"), .glo (PySem.Str.ofString "is_linked"), .glo (PySem.Str.ofString "cost_range"), .glo (PySem.Str.ofString "need_two"), .glo (PySem.Str.ofString "lead_of")]
def fa2 : List He.Fa := [.glo (PySem.Str.ofString "leads_of"), .glo (PySem.Str.ofString "lead_range"), .glo (PySem.Str.ofString "lead_corners"), .glo (PySem.Str.ofString "never_dearer"), .glo (PySem.Str.ofString "common"), .glo (PySem.Str.ofString "fraction"), .glo (PySem.Str.ofString "is_less"), .glo (PySem.Str.ofString "greatest_of"), .glo (PySem.Str.ofString "share_of"), .glo (PySem.Str.ofString "greatest_share"), .glo (PySem.Str.ofString "share_corner"), .glo (PySem.Str.ofString "cheaper_corners"), .glo (PySem.Str.ofString "with_value"), .glo (PySem.Str.ofString "line_at"), .glo (PySem.Str.ofString "span_of"), .glo (PySem.Str.ofString "need_asked"), .glo (PySem.Str.ofString "ends_at"), .glo (PySem.Str.ofString "span"), .glo (PySem.Str.ofString "other_corners"), .glo (PySem.Str.ofString "sure_span")]
def fa3 : List He.Fa := [.glo (PySem.Str.ofString "crossing"), .glo (PySem.Str.ofString "does_matter"), .glo (PySem.Str.ofString "told_others"), .glo (PySem.Str.ofString "sign_of"), .glo (PySem.Str.ofString "_law_mixed"), .glo (PySem.Str.ofString "_law_folded"), .glo (PySem.Str.ofString "_law_draw"), .glo (PySem.Str.ofString "_law_begun"), .glo (PySem.Str.ofString "_law_like"), .glo (PySem.Str.ofString "_law_two_right"), .glo (PySem.Str.ofString "_law_three_right"), .glo (PySem.Str.ofString "_law_great_right"), .glo (PySem.Str.ofString "law"), .free (PySem.Str.ofString "len"), .free (PySem.Str.ofString "all"), .free (PySem.Str.ofString "any"), .free (PySem.Str.ofString "sum"), .free (PySem.Str.ofString "min"), .free (PySem.Str.ofString "max"), .free (PySem.Str.ofString "sorted")]
def fa4 : List He.Fa := [.free (PySem.Str.ofString "tuple"), .free (PySem.Str.ofString "list"), .free (PySem.Str.ofString "int"), .free (PySem.Str.ofString "abs"), .free (PySem.Str.ofString "repr"), .free (PySem.Str.ofString "bool"), .free (PySem.Str.ofString "str"), .free (PySem.Str.ofString "range"), .free (PySem.Str.ofString "enumerate"), .free (PySem.Str.ofString "zip"), .free (PySem.Str.ofString "isinstance")]
def fa : List He.Fa := fa0 ++ fa1 ++ fa2 ++ fa3 ++ fa4
def cs0 : List (Str × D) := [(PySem.Str.ofString "MOST_TABLES", (.int 5)), (PySem.Str.ofString "MOST_LINKS", (.int 6)), (PySem.Str.ofString "MOST_VALUES", (.int 3)), (PySem.Str.ofString "MOST_ROWS", (.int 1000000000)), (PySem.Str.ofString "MOST_FITS", (.int 100)), (PySem.Str.ofString "MOST_PRICE", (.int 100)), (PySem.Str.ofString "MOST_UNKNOWN", (.int 6)), (PySem.Str.ofString "NESTED", (.str (PySem.Str.ofString "nested"))), (PySem.Str.ofString "HASHED", (.str (PySem.Str.ofString "hashed"))), (PySem.Str.ofString "PROBED", (.str (PySem.Str.ofString "probed"))), (PySem.Str.ofString "WAYS", (.tup [(.str (PySem.Str.ofString "hashed")), (.str (PySem.Str.ofString "nested")), (.str (PySem.Str.ofString "probed"))]))]
def cs : List (Str × D) := cs0
def loose0 : List Str := [PySem.Str.ofString "PlanError", PySem.Str.ofString "BadQuery", PySem.Str.ofString "BadPoint", PySem.Str.ofString "BadTables", PySem.Str.ofString "BadPlan", PySem.Str.ofString "BadNumber", PySem.Str.ofString "MOST_TABLES", PySem.Str.ofString "MOST_LINKS", PySem.Str.ofString "MOST_VALUES", PySem.Str.ofString "MOST_ROWS", PySem.Str.ofString "MOST_FITS", PySem.Str.ofString "MOST_PRICE", PySem.Str.ofString "MOST_UNKNOWN", PySem.Str.ofString "is_whole", PySem.Str.ofString "are_rising", PySem.Str.ofString "are_values", PySem.Str.ofString "is_link", PySem.Str.ofString "need_links", PySem.Str.ofString "need_prices", PySem.Str.ofString "values_of"]
def loose1 : List Str := [PySem.Str.ofString "unknown_in", PySem.Str.ofString "need_query", PySem.Str.ofString "unknowns", PySem.Str.ofString "is_point", PySem.Str.ofString "need_point", PySem.Str.ofString "spread", PySem.Str.ofString "ends_of", PySem.Str.ofString "corners_of", PySem.Str.ofString "corners", PySem.Str.ofString "told_points", PySem.Str.ofString "need_place", PySem.Str.ofString "are_tables", PySem.Str.ofString "need_tables", PySem.Str.ofString "links_within", PySem.Str.ofString "product_of", PySem.Str.ofString "out_of", PySem.Str.ofString "pairs_of", PySem.Str.ofString "out_range", PySem.Str.ofString "are_joined", PySem.Str.ofString "do_hang"]
def loose2 : List Str := [PySem.Str.ofString "NESTED", PySem.Str.ofString "HASHED", PySem.Str.ofString "PROBED", PySem.Str.ofString "WAYS", PySem.Str.ofString "is_table", PySem.Str.ofString "tables_of", PySem.Str.ofString "is_part", PySem.Str.ofString "need_plan", PySem.Str.ofString "nodes_of", PySem.Str.ofString "node_cost", PySem.Str.ofString "cost_of", PySem.Str.ofString "corner_costs", PySem.Str.ofString "crossed_nodes", PySem.Str.ofString "is_linked", PySem.Str.ofString "cost_range", PySem.Str.ofString "need_two", PySem.Str.ofString "lead_of", PySem.Str.ofString "leads_of", PySem.Str.ofString "lead_range", PySem.Str.ofString "lead_corners"]
def loose3 : List Str := [PySem.Str.ofString "never_dearer", PySem.Str.ofString "common", PySem.Str.ofString "fraction", PySem.Str.ofString "is_less", PySem.Str.ofString "greatest_of", PySem.Str.ofString "share_of", PySem.Str.ofString "greatest_share", PySem.Str.ofString "share_corner", PySem.Str.ofString "cheaper_corners", PySem.Str.ofString "with_value", PySem.Str.ofString "line_at", PySem.Str.ofString "span_of", PySem.Str.ofString "need_asked", PySem.Str.ofString "ends_at", PySem.Str.ofString "span", PySem.Str.ofString "other_corners", PySem.Str.ofString "sure_span", PySem.Str.ofString "crossing", PySem.Str.ofString "does_matter", PySem.Str.ofString "told_others"]
def loose4 : List Str := [PySem.Str.ofString "sign_of", PySem.Str.ofString "_law_mixed", PySem.Str.ofString "_law_folded", PySem.Str.ofString "_law_draw", PySem.Str.ofString "_law_begun", PySem.Str.ofString "_law_like", PySem.Str.ofString "_law_two_right", PySem.Str.ofString "_law_three_right", PySem.Str.ofString "_law_great_right"]
def loose : List Str := loose0 ++ loose1 ++ loose2 ++ loose3 ++ loose4
abbrev R : PySem.W.OpenRow := PySem.W.OpenLaw.row PySem.Challenge.rw_plancorners_k15_queries_by_hand
abbrev hk : PySem.W.Hook := hookC 4 fa fn cs
abbrev ob (s : PySem.W.SharedT) : He.AlD × Bool := obC 4 fa fn cs s
theorem run (w : World) : HandSHeadRun.RunEq R (PySem.W.view R.prog [96]) hk ob 4000 loose w := by
  intro os
  kernel_rfl
section
variable {K : PySem.W.Frag} {h : Heap} {mg : Str → Option Value}
theorem f_is_whole (X : K.In h) (G : h.Ns mainGlobals mg) (c : He.SaysD fa fn K) : FnIs K mg (PySem.Str.ofString "is_whole") s_is_whole n_is_whole p_is_whole := by
  obtain ⟨fd, F⟩ := c.def_ 0 (d := d_is_whole) rfl
  exact ⟨_, fd, He.glo_ok X G (c.fact 0 (f := .glo (PySem.Str.ofString "is_whole")) rfl), F, FunD.bindsN F fun _ _ _ _ _ _ us hl => match us, hl with | [_, _, _], _ => rfl, scB_ok (by decide +kernel)⟩
theorem f_are_rising (X : K.In h) (G : h.Ns mainGlobals mg) (c : He.SaysD fa fn K) : FnIs K mg (PySem.Str.ofString "are_rising") s_are_rising n_are_rising p_are_rising := by
  obtain ⟨fd, F⟩ := c.def_ 1 (d := d_are_rising) rfl
  exact ⟨_, fd, He.glo_ok X G (c.fact 1 (f := .glo (PySem.Str.ofString "are_rising")) rfl), F, FunD.bindsN F fun _ _ _ _ _ _ us hl => match us, hl with | [_], _ => rfl, scB_ok (by decide +kernel)⟩
theorem f_are_values (X : K.In h) (G : h.Ns mainGlobals mg) (c : He.SaysD fa fn K) : FnIs K mg (PySem.Str.ofString "are_values") s_are_values n_are_values p_are_values := by
  obtain ⟨fd, F⟩ := c.def_ 2 (d := d_are_values) rfl
  exact ⟨_, fd, He.glo_ok X G (c.fact 2 (f := .glo (PySem.Str.ofString "are_values")) rfl), F, FunD.bindsN F fun _ _ _ _ _ _ us hl => match us, hl with | [_, _], _ => rfl, scB_ok (by decide +kernel)⟩
theorem f_is_link (X : K.In h) (G : h.Ns mainGlobals mg) (c : He.SaysD fa fn K) : FnIs K mg (PySem.Str.ofString "is_link") s_is_link n_is_link p_is_link := by
  obtain ⟨fd, F⟩ := c.def_ 3 (d := d_is_link) rfl
  exact ⟨_, fd, He.glo_ok X G (c.fact 3 (f := .glo (PySem.Str.ofString "is_link")) rfl), F, FunD.bindsN F fun _ _ _ _ _ _ us hl => match us, hl with | [_, _], _ => rfl, scB_ok (by decide +kernel)⟩
theorem f_need_links (X : K.In h) (G : h.Ns mainGlobals mg) (c : He.SaysD fa fn K) : FnIs K mg (PySem.Str.ofString "need_links") s_need_links n_need_links p_need_links := by
  obtain ⟨fd, F⟩ := c.def_ 4 (d := d_need_links) rfl
  exact ⟨_, fd, He.glo_ok X G (c.fact 4 (f := .glo (PySem.Str.ofString "need_links")) rfl), F, FunD.bindsN F fun _ _ _ _ _ _ us hl => match us, hl with | [_, _], _ => rfl, scB_ok (by decide +kernel)⟩
theorem f_need_prices (X : K.In h) (G : h.Ns mainGlobals mg) (c : He.SaysD fa fn K) : FnIs K mg (PySem.Str.ofString "need_prices") s_need_prices n_need_prices p_need_prices := by
  obtain ⟨fd, F⟩ := c.def_ 5 (d := d_need_prices) rfl
  exact ⟨_, fd, He.glo_ok X G (c.fact 5 (f := .glo (PySem.Str.ofString "need_prices")) rfl), F, FunD.bindsN F fun _ _ _ _ _ _ us hl => match us, hl with | [_], _ => rfl, scB_ok (by decide +kernel)⟩
theorem f_values_of (X : K.In h) (G : h.Ns mainGlobals mg) (c : He.SaysD fa fn K) : FnIs K mg (PySem.Str.ofString "values_of") s_values_of n_values_of p_values_of := by
  obtain ⟨fd, F⟩ := c.def_ 6 (d := d_values_of) rfl
  exact ⟨_, fd, He.glo_ok X G (c.fact 6 (f := .glo (PySem.Str.ofString "values_of")) rfl), F, FunD.bindsN F fun _ _ _ _ _ _ us hl => match us, hl with | [_], _ => rfl, scB_ok (by decide +kernel)⟩
theorem f_unknown_in (X : K.In h) (G : h.Ns mainGlobals mg) (c : He.SaysD fa fn K) : FnIs K mg (PySem.Str.ofString "unknown_in") s_unknown_in n_unknown_in p_unknown_in := by
  obtain ⟨fd, F⟩ := c.def_ 7 (d := d_unknown_in) rfl
  exact ⟨_, fd, He.glo_ok X G (c.fact 7 (f := .glo (PySem.Str.ofString "unknown_in")) rfl), F, FunD.bindsN F fun _ _ _ _ _ _ us hl => match us, hl with | [_], _ => rfl, scB_ok (by decide +kernel)⟩
theorem f_need_query (X : K.In h) (G : h.Ns mainGlobals mg) (c : He.SaysD fa fn K) : FnIs K mg (PySem.Str.ofString "need_query") s_need_query n_need_query p_need_query := by
  obtain ⟨fd, F⟩ := c.def_ 8 (d := d_need_query) rfl
  exact ⟨_, fd, He.glo_ok X G (c.fact 8 (f := .glo (PySem.Str.ofString "need_query")) rfl), F, FunD.bindsN F fun _ _ _ _ _ _ us hl => match us, hl with | [_], _ => rfl, scB_ok (by decide +kernel)⟩
theorem f_unknowns (X : K.In h) (G : h.Ns mainGlobals mg) (c : He.SaysD fa fn K) : FnIs K mg (PySem.Str.ofString "unknowns") s_unknowns n_unknowns p_unknowns := by
  obtain ⟨fd, F⟩ := c.def_ 9 (d := d_unknowns) rfl
  exact ⟨_, fd, He.glo_ok X G (c.fact 9 (f := .glo (PySem.Str.ofString "unknowns")) rfl), F, FunD.bindsN F fun _ _ _ _ _ _ us hl => match us, hl with | [_], _ => rfl, scB_ok (by decide +kernel)⟩
theorem f_is_point (X : K.In h) (G : h.Ns mainGlobals mg) (c : He.SaysD fa fn K) : FnIs K mg (PySem.Str.ofString "is_point") s_is_point n_is_point p_is_point := by
  obtain ⟨fd, F⟩ := c.def_ 10 (d := d_is_point) rfl
  exact ⟨_, fd, He.glo_ok X G (c.fact 10 (f := .glo (PySem.Str.ofString "is_point")) rfl), F, FunD.bindsN F fun _ _ _ _ _ _ us hl => match us, hl with | [_, _], _ => rfl, scB_ok (by decide +kernel)⟩
theorem f_need_point (X : K.In h) (G : h.Ns mainGlobals mg) (c : He.SaysD fa fn K) : FnIs K mg (PySem.Str.ofString "need_point") s_need_point n_need_point p_need_point := by
  obtain ⟨fd, F⟩ := c.def_ 11 (d := d_need_point) rfl
  exact ⟨_, fd, He.glo_ok X G (c.fact 11 (f := .glo (PySem.Str.ofString "need_point")) rfl), F, FunD.bindsN F fun _ _ _ _ _ _ us hl => match us, hl with | [_, _], _ => rfl, scB_ok (by decide +kernel)⟩
theorem f_spread (X : K.In h) (G : h.Ns mainGlobals mg) (c : He.SaysD fa fn K) : FnIs K mg (PySem.Str.ofString "spread") s_spread n_spread p_spread := by
  obtain ⟨fd, F⟩ := c.def_ 12 (d := d_spread) rfl
  exact ⟨_, fd, He.glo_ok X G (c.fact 12 (f := .glo (PySem.Str.ofString "spread")) rfl), F, FunD.bindsN F fun _ _ _ _ _ _ us hl => match us, hl with | [_], _ => rfl, scB_ok (by decide +kernel)⟩
theorem f_ends_of (X : K.In h) (G : h.Ns mainGlobals mg) (c : He.SaysD fa fn K) : FnIs K mg (PySem.Str.ofString "ends_of") s_ends_of n_ends_of p_ends_of := by
  obtain ⟨fd, F⟩ := c.def_ 13 (d := d_ends_of) rfl
  exact ⟨_, fd, He.glo_ok X G (c.fact 13 (f := .glo (PySem.Str.ofString "ends_of")) rfl), F, FunD.bindsN F fun _ _ _ _ _ _ us hl => match us, hl with | [_], _ => rfl, scB_ok (by decide +kernel)⟩
theorem f_corners_of (X : K.In h) (G : h.Ns mainGlobals mg) (c : He.SaysD fa fn K) : FnIs K mg (PySem.Str.ofString "corners_of") s_corners_of n_corners_of p_corners_of := by
  obtain ⟨fd, F⟩ := c.def_ 14 (d := d_corners_of) rfl
  exact ⟨_, fd, He.glo_ok X G (c.fact 14 (f := .glo (PySem.Str.ofString "corners_of")) rfl), F, FunD.bindsN F fun _ _ _ _ _ _ us hl => match us, hl with | [_], _ => rfl, scB_ok (by decide +kernel)⟩
theorem f_corners (X : K.In h) (G : h.Ns mainGlobals mg) (c : He.SaysD fa fn K) : FnIs K mg (PySem.Str.ofString "corners") s_corners n_corners p_corners := by
  obtain ⟨fd, F⟩ := c.def_ 15 (d := d_corners) rfl
  exact ⟨_, fd, He.glo_ok X G (c.fact 15 (f := .glo (PySem.Str.ofString "corners")) rfl), F, FunD.bindsN F fun _ _ _ _ _ _ us hl => match us, hl with | [_], _ => rfl, scB_ok (by decide +kernel)⟩
theorem f_told_points (X : K.In h) (G : h.Ns mainGlobals mg) (c : He.SaysD fa fn K) : FnIs K mg (PySem.Str.ofString "told_points") s_told_points n_told_points p_told_points := by
  obtain ⟨fd, F⟩ := c.def_ 16 (d := d_told_points) rfl
  exact ⟨_, fd, He.glo_ok X G (c.fact 16 (f := .glo (PySem.Str.ofString "told_points")) rfl), F, FunD.bindsN F fun _ _ _ _ _ _ us hl => match us, hl with | [_], _ => rfl, scB_ok (by decide +kernel)⟩
theorem f_need_place (X : K.In h) (G : h.Ns mainGlobals mg) (c : He.SaysD fa fn K) : FnIs K mg (PySem.Str.ofString "need_place") s_need_place n_need_place p_need_place := by
  obtain ⟨fd, F⟩ := c.def_ 17 (d := d_need_place) rfl
  exact ⟨_, fd, He.glo_ok X G (c.fact 17 (f := .glo (PySem.Str.ofString "need_place")) rfl), F, FunD.bindsN F fun _ _ _ _ _ _ us hl => match us, hl with | [_, _], _ => rfl, scB_ok (by decide +kernel)⟩
theorem f_are_tables (X : K.In h) (G : h.Ns mainGlobals mg) (c : He.SaysD fa fn K) : FnIs K mg (PySem.Str.ofString "are_tables") s_are_tables n_are_tables p_are_tables := by
  obtain ⟨fd, F⟩ := c.def_ 18 (d := d_are_tables) rfl
  exact ⟨_, fd, He.glo_ok X G (c.fact 18 (f := .glo (PySem.Str.ofString "are_tables")) rfl), F, FunD.bindsN F fun _ _ _ _ _ _ us hl => match us, hl with | [_, _], _ => rfl, scB_ok (by decide +kernel)⟩
theorem f_need_tables (X : K.In h) (G : h.Ns mainGlobals mg) (c : He.SaysD fa fn K) : FnIs K mg (PySem.Str.ofString "need_tables") s_need_tables n_need_tables p_need_tables := by
  obtain ⟨fd, F⟩ := c.def_ 19 (d := d_need_tables) rfl
  exact ⟨_, fd, He.glo_ok X G (c.fact 19 (f := .glo (PySem.Str.ofString "need_tables")) rfl), F, FunD.bindsN F fun _ _ _ _ _ _ us hl => match us, hl with | [_, _], _ => rfl, scB_ok (by decide +kernel)⟩
theorem f_links_within (X : K.In h) (G : h.Ns mainGlobals mg) (c : He.SaysD fa fn K) : FnIs K mg (PySem.Str.ofString "links_within") s_links_within n_links_within p_links_within := by
  obtain ⟨fd, F⟩ := c.def_ 20 (d := d_links_within) rfl
  exact ⟨_, fd, He.glo_ok X G (c.fact 20 (f := .glo (PySem.Str.ofString "links_within")) rfl), F, FunD.bindsN F fun _ _ _ _ _ _ us hl => match us, hl with | [_, _], _ => rfl, scB_ok (by decide +kernel)⟩
theorem f_product_of (X : K.In h) (G : h.Ns mainGlobals mg) (c : He.SaysD fa fn K) : FnIs K mg (PySem.Str.ofString "product_of") s_product_of n_product_of p_product_of := by
  obtain ⟨fd, F⟩ := c.def_ 21 (d := d_product_of) rfl
  exact ⟨_, fd, He.glo_ok X G (c.fact 21 (f := .glo (PySem.Str.ofString "product_of")) rfl), F, FunD.bindsN F fun _ _ _ _ _ _ us hl => match us, hl with | [_, _, _, _], _ => rfl, scB_ok (by decide +kernel)⟩
theorem f_out_of (X : K.In h) (G : h.Ns mainGlobals mg) (c : He.SaysD fa fn K) : FnIs K mg (PySem.Str.ofString "out_of") s_out_of n_out_of p_out_of := by
  obtain ⟨fd, F⟩ := c.def_ 22 (d := d_out_of) rfl
  exact ⟨_, fd, He.glo_ok X G (c.fact 22 (f := .glo (PySem.Str.ofString "out_of")) rfl), F, FunD.bindsN F fun _ _ _ _ _ _ us hl => match us, hl with | [_, _, _], _ => rfl, scB_ok (by decide +kernel)⟩
theorem f_pairs_of (X : K.In h) (G : h.Ns mainGlobals mg) (c : He.SaysD fa fn K) : FnIs K mg (PySem.Str.ofString "pairs_of") s_pairs_of n_pairs_of p_pairs_of := by
  obtain ⟨fd, F⟩ := c.def_ 23 (d := d_pairs_of) rfl
  exact ⟨_, fd, He.glo_ok X G (c.fact 23 (f := .glo (PySem.Str.ofString "pairs_of")) rfl), F, FunD.bindsN F fun _ _ _ _ _ _ us hl => match us, hl with | [_, _, _, _], _ => rfl, scB_ok (by decide +kernel)⟩
theorem f_out_range (X : K.In h) (G : h.Ns mainGlobals mg) (c : He.SaysD fa fn K) : FnIs K mg (PySem.Str.ofString "out_range") s_out_range n_out_range p_out_range := by
  obtain ⟨fd, F⟩ := c.def_ 24 (d := d_out_range) rfl
  exact ⟨_, fd, He.glo_ok X G (c.fact 24 (f := .glo (PySem.Str.ofString "out_range")) rfl), F, FunD.bindsN F fun _ _ _ _ _ _ us hl => match us, hl with | [_, _], _ => rfl, scB_ok (by decide +kernel)⟩
theorem f_are_joined (X : K.In h) (G : h.Ns mainGlobals mg) (c : He.SaysD fa fn K) : FnIs K mg (PySem.Str.ofString "are_joined") s_are_joined n_are_joined p_are_joined := by
  obtain ⟨fd, F⟩ := c.def_ 25 (d := d_are_joined) rfl
  exact ⟨_, fd, He.glo_ok X G (c.fact 25 (f := .glo (PySem.Str.ofString "are_joined")) rfl), F, FunD.bindsN F fun _ _ _ _ _ _ us hl => match us, hl with | [_, _, _], _ => rfl, scB_ok (by decide +kernel)⟩
theorem f_do_hang (X : K.In h) (G : h.Ns mainGlobals mg) (c : He.SaysD fa fn K) : FnIs K mg (PySem.Str.ofString "do_hang") s_do_hang n_do_hang p_do_hang := by
  obtain ⟨fd, F⟩ := c.def_ 26 (d := d_do_hang) rfl
  exact ⟨_, fd, He.glo_ok X G (c.fact 26 (f := .glo (PySem.Str.ofString "do_hang")) rfl), F, FunD.bindsN F fun _ _ _ _ _ _ us hl => match us, hl with | [_, _], _ => rfl, scB_ok (by decide +kernel)⟩
theorem f_is_table (X : K.In h) (G : h.Ns mainGlobals mg) (c : He.SaysD fa fn K) : FnIs K mg (PySem.Str.ofString "is_table") s_is_table n_is_table p_is_table := by
  obtain ⟨fd, F⟩ := c.def_ 27 (d := d_is_table) rfl
  exact ⟨_, fd, He.glo_ok X G (c.fact 27 (f := .glo (PySem.Str.ofString "is_table")) rfl), F, FunD.bindsN F fun _ _ _ _ _ _ us hl => match us, hl with | [_], _ => rfl, scB_ok (by decide +kernel)⟩
theorem f_tables_of (X : K.In h) (G : h.Ns mainGlobals mg) (c : He.SaysD fa fn K) : FnIs K mg (PySem.Str.ofString "tables_of") s_tables_of n_tables_of p_tables_of := by
  obtain ⟨fd, F⟩ := c.def_ 28 (d := d_tables_of) rfl
  exact ⟨_, fd, He.glo_ok X G (c.fact 28 (f := .glo (PySem.Str.ofString "tables_of")) rfl), F, FunD.bindsN F fun _ _ _ _ _ _ us hl => match us, hl with | [_], _ => rfl, scB_ok (by decide +kernel)⟩
theorem f_is_part (X : K.In h) (G : h.Ns mainGlobals mg) (c : He.SaysD fa fn K) : FnIs K mg (PySem.Str.ofString "is_part") s_is_part n_is_part p_is_part := by
  obtain ⟨fd, F⟩ := c.def_ 29 (d := d_is_part) rfl
  exact ⟨_, fd, He.glo_ok X G (c.fact 29 (f := .glo (PySem.Str.ofString "is_part")) rfl), F, FunD.bindsN F fun _ _ _ _ _ _ us hl => match us, hl with | [_, _, _, _], _ => rfl, scB_ok (by decide +kernel)⟩
theorem f_need_plan (X : K.In h) (G : h.Ns mainGlobals mg) (c : He.SaysD fa fn K) : FnIs K mg (PySem.Str.ofString "need_plan") s_need_plan n_need_plan p_need_plan := by
  obtain ⟨fd, F⟩ := c.def_ 30 (d := d_need_plan) rfl
  exact ⟨_, fd, He.glo_ok X G (c.fact 30 (f := .glo (PySem.Str.ofString "need_plan")) rfl), F, FunD.bindsN F fun _ _ _ _ _ _ us hl => match us, hl with | [_, _], _ => rfl, scB_ok (by decide +kernel)⟩
theorem f_nodes_of (X : K.In h) (G : h.Ns mainGlobals mg) (c : He.SaysD fa fn K) : FnIs K mg (PySem.Str.ofString "nodes_of") s_nodes_of n_nodes_of p_nodes_of := by
  obtain ⟨fd, F⟩ := c.def_ 31 (d := d_nodes_of) rfl
  exact ⟨_, fd, He.glo_ok X G (c.fact 31 (f := .glo (PySem.Str.ofString "nodes_of")) rfl), F, FunD.bindsN F fun _ _ _ _ _ _ us hl => match us, hl with | [_], _ => rfl, scB_ok (by decide +kernel)⟩
theorem f_node_cost (X : K.In h) (G : h.Ns mainGlobals mg) (c : He.SaysD fa fn K) : FnIs K mg (PySem.Str.ofString "node_cost") s_node_cost n_node_cost p_node_cost := by
  obtain ⟨fd, F⟩ := c.def_ 32 (d := d_node_cost) rfl
  exact ⟨_, fd, He.glo_ok X G (c.fact 32 (f := .glo (PySem.Str.ofString "node_cost")) rfl), F, FunD.bindsN F fun _ _ _ _ _ _ us hl => match us, hl with | [_, _, _], _ => rfl, scB_ok (by decide +kernel)⟩
theorem f_cost_of (X : K.In h) (G : h.Ns mainGlobals mg) (c : He.SaysD fa fn K) : FnIs K mg (PySem.Str.ofString "cost_of") s_cost_of n_cost_of p_cost_of := by
  obtain ⟨fd, F⟩ := c.def_ 33 (d := d_cost_of) rfl
  exact ⟨_, fd, He.glo_ok X G (c.fact 33 (f := .glo (PySem.Str.ofString "cost_of")) rfl), F, FunD.bindsN F fun _ _ _ _ _ _ us hl => match us, hl with | [_, _, _], _ => rfl, scB_ok (by decide +kernel)⟩
theorem f_corner_costs (X : K.In h) (G : h.Ns mainGlobals mg) (c : He.SaysD fa fn K) : FnIs K mg (PySem.Str.ofString "corner_costs") s_corner_costs n_corner_costs p_corner_costs := by
  obtain ⟨fd, F⟩ := c.def_ 34 (d := d_corner_costs) rfl
  exact ⟨_, fd, He.glo_ok X G (c.fact 34 (f := .glo (PySem.Str.ofString "corner_costs")) rfl), F, FunD.bindsN F fun _ _ _ _ _ _ us hl => match us, hl with | [_, _], _ => rfl, scB_ok (by decide +kernel)⟩
theorem f_crossed_nodes (X : K.In h) (G : h.Ns mainGlobals mg) (c : He.SaysD fa fn K) : FnIs K mg (PySem.Str.ofString "crossed_nodes") s_crossed_nodes n_crossed_nodes p_crossed_nodes := by
  obtain ⟨fd, F⟩ := c.def_ 35 (d := d_crossed_nodes) rfl
  exact ⟨_, fd, He.glo_ok X G (c.fact 35 (f := .glo (PySem.Str.ofString "crossed_nodes")) rfl), F, FunD.bindsN F fun _ _ _ _ _ _ us hl => match us, hl with | [_, _], _ => rfl, scB_ok (by decide +kernel)⟩
theorem f_is_linked (X : K.In h) (G : h.Ns mainGlobals mg) (c : He.SaysD fa fn K) : FnIs K mg (PySem.Str.ofString "is_linked") s_is_linked n_is_linked p_is_linked := by
  obtain ⟨fd, F⟩ := c.def_ 36 (d := d_is_linked) rfl
  exact ⟨_, fd, He.glo_ok X G (c.fact 36 (f := .glo (PySem.Str.ofString "is_linked")) rfl), F, FunD.bindsN F fun _ _ _ _ _ _ us hl => match us, hl with | [_, _], _ => rfl, scB_ok (by decide +kernel)⟩
theorem f_cost_range (X : K.In h) (G : h.Ns mainGlobals mg) (c : He.SaysD fa fn K) : FnIs K mg (PySem.Str.ofString "cost_range") s_cost_range n_cost_range p_cost_range := by
  obtain ⟨fd, F⟩ := c.def_ 37 (d := d_cost_range) rfl
  exact ⟨_, fd, He.glo_ok X G (c.fact 37 (f := .glo (PySem.Str.ofString "cost_range")) rfl), F, FunD.bindsN F fun _ _ _ _ _ _ us hl => match us, hl with | [_, _], _ => rfl, scB_ok (by decide +kernel)⟩
theorem f_need_two (X : K.In h) (G : h.Ns mainGlobals mg) (c : He.SaysD fa fn K) : FnIs K mg (PySem.Str.ofString "need_two") s_need_two n_need_two p_need_two := by
  obtain ⟨fd, F⟩ := c.def_ 38 (d := d_need_two) rfl
  exact ⟨_, fd, He.glo_ok X G (c.fact 38 (f := .glo (PySem.Str.ofString "need_two")) rfl), F, FunD.bindsN F fun _ _ _ _ _ _ us hl => match us, hl with | [_, _, _], _ => rfl, scB_ok (by decide +kernel)⟩
theorem f_lead_of (X : K.In h) (G : h.Ns mainGlobals mg) (c : He.SaysD fa fn K) : FnIs K mg (PySem.Str.ofString "lead_of") s_lead_of n_lead_of p_lead_of := by
  obtain ⟨fd, F⟩ := c.def_ 39 (d := d_lead_of) rfl
  exact ⟨_, fd, He.glo_ok X G (c.fact 39 (f := .glo (PySem.Str.ofString "lead_of")) rfl), F, FunD.bindsN F fun _ _ _ _ _ _ us hl => match us, hl with | [_, _, _, _], _ => rfl, scB_ok (by decide +kernel)⟩
theorem f_leads_of (X : K.In h) (G : h.Ns mainGlobals mg) (c : He.SaysD fa fn K) : FnIs K mg (PySem.Str.ofString "leads_of") s_leads_of n_leads_of p_leads_of := by
  obtain ⟨fd, F⟩ := c.def_ 40 (d := d_leads_of) rfl
  exact ⟨_, fd, He.glo_ok X G (c.fact 40 (f := .glo (PySem.Str.ofString "leads_of")) rfl), F, FunD.bindsN F fun _ _ _ _ _ _ us hl => match us, hl with | [_, _, _], _ => rfl, scB_ok (by decide +kernel)⟩
theorem f_lead_range (X : K.In h) (G : h.Ns mainGlobals mg) (c : He.SaysD fa fn K) : FnIs K mg (PySem.Str.ofString "lead_range") s_lead_range n_lead_range p_lead_range := by
  obtain ⟨fd, F⟩ := c.def_ 41 (d := d_lead_range) rfl
  exact ⟨_, fd, He.glo_ok X G (c.fact 41 (f := .glo (PySem.Str.ofString "lead_range")) rfl), F, FunD.bindsN F fun _ _ _ _ _ _ us hl => match us, hl with | [_, _, _], _ => rfl, scB_ok (by decide +kernel)⟩
theorem f_lead_corners (X : K.In h) (G : h.Ns mainGlobals mg) (c : He.SaysD fa fn K) : FnIs K mg (PySem.Str.ofString "lead_corners") s_lead_corners n_lead_corners p_lead_corners := by
  obtain ⟨fd, F⟩ := c.def_ 42 (d := d_lead_corners) rfl
  exact ⟨_, fd, He.glo_ok X G (c.fact 42 (f := .glo (PySem.Str.ofString "lead_corners")) rfl), F, FunD.bindsN F fun _ _ _ _ _ _ us hl => match us, hl with | [_, _, _], _ => rfl, scB_ok (by decide +kernel)⟩
theorem f_never_dearer (X : K.In h) (G : h.Ns mainGlobals mg) (c : He.SaysD fa fn K) : FnIs K mg (PySem.Str.ofString "never_dearer") s_never_dearer n_never_dearer p_never_dearer := by
  obtain ⟨fd, F⟩ := c.def_ 43 (d := d_never_dearer) rfl
  exact ⟨_, fd, He.glo_ok X G (c.fact 43 (f := .glo (PySem.Str.ofString "never_dearer")) rfl), F, FunD.bindsN F fun _ _ _ _ _ _ us hl => match us, hl with | [_, _, _], _ => rfl, scB_ok (by decide +kernel)⟩
theorem f_common (X : K.In h) (G : h.Ns mainGlobals mg) (c : He.SaysD fa fn K) : FnIs K mg (PySem.Str.ofString "common") s_common n_common p_common := by
  obtain ⟨fd, F⟩ := c.def_ 44 (d := d_common) rfl
  exact ⟨_, fd, He.glo_ok X G (c.fact 44 (f := .glo (PySem.Str.ofString "common")) rfl), F, FunD.bindsN F fun _ _ _ _ _ _ us hl => match us, hl with | [_, _], _ => rfl, scB_ok (by decide +kernel)⟩
theorem f_fraction (X : K.In h) (G : h.Ns mainGlobals mg) (c : He.SaysD fa fn K) : FnIs K mg (PySem.Str.ofString "fraction") s_fraction n_fraction p_fraction := by
  obtain ⟨fd, F⟩ := c.def_ 45 (d := d_fraction) rfl
  exact ⟨_, fd, He.glo_ok X G (c.fact 45 (f := .glo (PySem.Str.ofString "fraction")) rfl), F, FunD.bindsN F fun _ _ _ _ _ _ us hl => match us, hl with | [_, _], _ => rfl, scB_ok (by decide +kernel)⟩
theorem f_is_less (X : K.In h) (G : h.Ns mainGlobals mg) (c : He.SaysD fa fn K) : FnIs K mg (PySem.Str.ofString "is_less") s_is_less n_is_less p_is_less := by
  obtain ⟨fd, F⟩ := c.def_ 46 (d := d_is_less) rfl
  exact ⟨_, fd, He.glo_ok X G (c.fact 46 (f := .glo (PySem.Str.ofString "is_less")) rfl), F, FunD.bindsN F fun _ _ _ _ _ _ us hl => match us, hl with | [_, _], _ => rfl, scB_ok (by decide +kernel)⟩
theorem f_greatest_of (X : K.In h) (G : h.Ns mainGlobals mg) (c : He.SaysD fa fn K) : FnIs K mg (PySem.Str.ofString "greatest_of") s_greatest_of n_greatest_of p_greatest_of := by
  obtain ⟨fd, F⟩ := c.def_ 47 (d := d_greatest_of) rfl
  exact ⟨_, fd, He.glo_ok X G (c.fact 47 (f := .glo (PySem.Str.ofString "greatest_of")) rfl), F, FunD.bindsN F fun _ _ _ _ _ _ us hl => match us, hl with | [_], _ => rfl, scB_ok (by decide +kernel)⟩
theorem f_share_of (X : K.In h) (G : h.Ns mainGlobals mg) (c : He.SaysD fa fn K) : FnIs K mg (PySem.Str.ofString "share_of") s_share_of n_share_of p_share_of := by
  obtain ⟨fd, F⟩ := c.def_ 48 (d := d_share_of) rfl
  exact ⟨_, fd, He.glo_ok X G (c.fact 48 (f := .glo (PySem.Str.ofString "share_of")) rfl), F, FunD.bindsN F fun _ _ _ _ _ _ us hl => match us, hl with | [_, _, _, _], _ => rfl, scB_ok (by decide +kernel)⟩
theorem f_greatest_share (X : K.In h) (G : h.Ns mainGlobals mg) (c : He.SaysD fa fn K) : FnIs K mg (PySem.Str.ofString "greatest_share") s_greatest_share n_greatest_share p_greatest_share := by
  obtain ⟨fd, F⟩ := c.def_ 49 (d := d_greatest_share) rfl
  exact ⟨_, fd, He.glo_ok X G (c.fact 49 (f := .glo (PySem.Str.ofString "greatest_share")) rfl), F, FunD.bindsN F fun _ _ _ _ _ _ us hl => match us, hl with | [_, _, _], _ => rfl, scB_ok (by decide +kernel)⟩
theorem f_share_corner (X : K.In h) (G : h.Ns mainGlobals mg) (c : He.SaysD fa fn K) : FnIs K mg (PySem.Str.ofString "share_corner") s_share_corner n_share_corner p_share_corner := by
  obtain ⟨fd, F⟩ := c.def_ 50 (d := d_share_corner) rfl
  exact ⟨_, fd, He.glo_ok X G (c.fact 50 (f := .glo (PySem.Str.ofString "share_corner")) rfl), F, FunD.bindsN F fun _ _ _ _ _ _ us hl => match us, hl with | [_, _, _], _ => rfl, scB_ok (by decide +kernel)⟩
theorem f_cheaper_corners (X : K.In h) (G : h.Ns mainGlobals mg) (c : He.SaysD fa fn K) : FnIs K mg (PySem.Str.ofString "cheaper_corners") s_cheaper_corners n_cheaper_corners p_cheaper_corners := by
  obtain ⟨fd, F⟩ := c.def_ 51 (d := d_cheaper_corners) rfl
  exact ⟨_, fd, He.glo_ok X G (c.fact 51 (f := .glo (PySem.Str.ofString "cheaper_corners")) rfl), F, FunD.bindsN F fun _ _ _ _ _ _ us hl => match us, hl with | [_, _, _], _ => rfl, scB_ok (by decide +kernel)⟩
theorem f_with_value (X : K.In h) (G : h.Ns mainGlobals mg) (c : He.SaysD fa fn K) : FnIs K mg (PySem.Str.ofString "with_value") s_with_value n_with_value p_with_value := by
  obtain ⟨fd, F⟩ := c.def_ 52 (d := d_with_value) rfl
  exact ⟨_, fd, He.glo_ok X G (c.fact 52 (f := .glo (PySem.Str.ofString "with_value")) rfl), F, FunD.bindsN F fun _ _ _ _ _ _ us hl => match us, hl with | [_, _, _], _ => rfl, scB_ok (by decide +kernel)⟩
theorem f_line_at (X : K.In h) (G : h.Ns mainGlobals mg) (c : He.SaysD fa fn K) : FnIs K mg (PySem.Str.ofString "line_at") s_line_at n_line_at p_line_at := by
  obtain ⟨fd, F⟩ := c.def_ 53 (d := d_line_at) rfl
  exact ⟨_, fd, He.glo_ok X G (c.fact 53 (f := .glo (PySem.Str.ofString "line_at")) rfl), F, FunD.bindsN F fun _ _ _ _ _ _ us hl => match us, hl with | [_, _, _, _, _], _ => rfl, scB_ok (by decide +kernel)⟩
theorem f_span_of (X : K.In h) (G : h.Ns mainGlobals mg) (c : He.SaysD fa fn K) : FnIs K mg (PySem.Str.ofString "span_of") s_span_of n_span_of p_span_of := by
  obtain ⟨fd, F⟩ := c.def_ 54 (d := d_span_of) rfl
  exact ⟨_, fd, He.glo_ok X G (c.fact 54 (f := .glo (PySem.Str.ofString "span_of")) rfl), F, FunD.bindsN F fun _ _ _ _ _ _ us hl => match us, hl with | [_, _, _], _ => rfl, scB_ok (by decide +kernel)⟩
theorem f_need_asked (X : K.In h) (G : h.Ns mainGlobals mg) (c : He.SaysD fa fn K) : FnIs K mg (PySem.Str.ofString "need_asked") s_need_asked n_need_asked p_need_asked := by
  obtain ⟨fd, F⟩ := c.def_ 55 (d := d_need_asked) rfl
  exact ⟨_, fd, He.glo_ok X G (c.fact 55 (f := .glo (PySem.Str.ofString "need_asked")) rfl), F, FunD.bindsN F fun _ _ _ _ _ _ us hl => match us, hl with | [_, _, _, _], _ => rfl, scB_ok (by decide +kernel)⟩
theorem f_ends_at (X : K.In h) (G : h.Ns mainGlobals mg) (c : He.SaysD fa fn K) : FnIs K mg (PySem.Str.ofString "ends_at") s_ends_at n_ends_at p_ends_at := by
  obtain ⟨fd, F⟩ := c.def_ 56 (d := d_ends_at) rfl
  exact ⟨_, fd, He.glo_ok X G (c.fact 56 (f := .glo (PySem.Str.ofString "ends_at")) rfl), F, FunD.bindsN F fun _ _ _ _ _ _ us hl => match us, hl with | [_, _], _ => rfl, scB_ok (by decide +kernel)⟩
theorem f_span (X : K.In h) (G : h.Ns mainGlobals mg) (c : He.SaysD fa fn K) : FnIs K mg (PySem.Str.ofString "span") s_span n_span p_span := by
  obtain ⟨fd, F⟩ := c.def_ 57 (d := d_span) rfl
  exact ⟨_, fd, He.glo_ok X G (c.fact 57 (f := .glo (PySem.Str.ofString "span")) rfl), F, FunD.bindsN F fun _ _ _ _ _ _ us hl => match us, hl with | [_, _, _, _, _], _ => rfl, scB_ok (by decide +kernel)⟩
theorem f_other_corners (X : K.In h) (G : h.Ns mainGlobals mg) (c : He.SaysD fa fn K) : FnIs K mg (PySem.Str.ofString "other_corners") s_other_corners n_other_corners p_other_corners := by
  obtain ⟨fd, F⟩ := c.def_ 58 (d := d_other_corners) rfl
  exact ⟨_, fd, He.glo_ok X G (c.fact 58 (f := .glo (PySem.Str.ofString "other_corners")) rfl), F, FunD.bindsN F fun _ _ _ _ _ _ us hl => match us, hl with | [_, _], _ => rfl, scB_ok (by decide +kernel)⟩
theorem f_sure_span (X : K.In h) (G : h.Ns mainGlobals mg) (c : He.SaysD fa fn K) : FnIs K mg (PySem.Str.ofString "sure_span") s_sure_span n_sure_span p_sure_span := by
  obtain ⟨fd, F⟩ := c.def_ 59 (d := d_sure_span) rfl
  exact ⟨_, fd, He.glo_ok X G (c.fact 59 (f := .glo (PySem.Str.ofString "sure_span")) rfl), F, FunD.bindsN F fun _ _ _ _ _ _ us hl => match us, hl with | [_, _, _, _], _ => rfl, scB_ok (by decide +kernel)⟩
theorem f_crossing (X : K.In h) (G : h.Ns mainGlobals mg) (c : He.SaysD fa fn K) : FnIs K mg (PySem.Str.ofString "crossing") s_crossing n_crossing p_crossing := by
  obtain ⟨fd, F⟩ := c.def_ 60 (d := d_crossing) rfl
  exact ⟨_, fd, He.glo_ok X G (c.fact 60 (f := .glo (PySem.Str.ofString "crossing")) rfl), F, FunD.bindsN F fun _ _ _ _ _ _ us hl => match us, hl with | [_, _, _, _, _], _ => rfl, scB_ok (by decide +kernel)⟩
theorem f_does_matter (X : K.In h) (G : h.Ns mainGlobals mg) (c : He.SaysD fa fn K) : FnIs K mg (PySem.Str.ofString "does_matter") s_does_matter n_does_matter p_does_matter := by
  obtain ⟨fd, F⟩ := c.def_ 61 (d := d_does_matter) rfl
  exact ⟨_, fd, He.glo_ok X G (c.fact 61 (f := .glo (PySem.Str.ofString "does_matter")) rfl), F, FunD.bindsN F fun _ _ _ _ _ _ us hl => match us, hl with | [_, _, _, _], _ => rfl, scB_ok (by decide +kernel)⟩
theorem f_told_others (X : K.In h) (G : h.Ns mainGlobals mg) (c : He.SaysD fa fn K) : FnIs K mg (PySem.Str.ofString "told_others") s_told_others n_told_others p_told_others := by
  obtain ⟨fd, F⟩ := c.def_ 62 (d := d_told_others) rfl
  exact ⟨_, fd, He.glo_ok X G (c.fact 62 (f := .glo (PySem.Str.ofString "told_others")) rfl), F, FunD.bindsN F fun _ _ _ _ _ _ us hl => match us, hl with | [_, _], _ => rfl, scB_ok (by decide +kernel)⟩
theorem f_sign_of (X : K.In h) (G : h.Ns mainGlobals mg) (c : He.SaysD fa fn K) : FnIs K mg (PySem.Str.ofString "sign_of") s_sign_of n_sign_of p_sign_of := by
  obtain ⟨fd, F⟩ := c.def_ 63 (d := d_sign_of) rfl
  exact ⟨_, fd, He.glo_ok X G (c.fact 63 (f := .glo (PySem.Str.ofString "sign_of")) rfl), F, FunD.bindsN F fun _ _ _ _ _ _ us hl => match us, hl with | [_], _ => rfl, scB_ok (by decide +kernel)⟩
theorem f__law_mixed (X : K.In h) (G : h.Ns mainGlobals mg) (c : He.SaysD fa fn K) : FnIs K mg (PySem.Str.ofString "_law_mixed") s__law_mixed Nm p__law_mixed := by
  obtain ⟨fd, F⟩ := c.def_ 64 (d := d__law_mixed) rfl
  exact ⟨_, fd, He.glo_ok X G (c.fact 64 (f := .glo (PySem.Str.ofString "_law_mixed")) rfl), F, FunD.bindsN F fun _ _ _ _ _ _ us hl => match us, hl with | [_, _], _ => rfl, scB_ok (by decide +kernel)⟩
theorem f__law_folded (X : K.In h) (G : h.Ns mainGlobals mg) (c : He.SaysD fa fn K) : FnIs K mg (PySem.Str.ofString "_law_folded") s__law_folded Nf p__law_folded := by
  obtain ⟨fd, F⟩ := c.def_ 65 (d := d__law_folded) rfl
  exact ⟨_, fd, He.glo_ok X G (c.fact 65 (f := .glo (PySem.Str.ofString "_law_folded")) rfl), F, FunD.bindsN F fun _ _ _ _ _ _ us hl => match us, hl with | [_], _ => rfl, scB_ok (by decide +kernel)⟩
theorem f__law_draw (X : K.In h) (G : h.Ns mainGlobals mg) (c : He.SaysD fa fn K) : FnIs K mg (PySem.Str.ofString "_law_draw") s__law_draw Nd p__law_draw := by
  obtain ⟨fd, F⟩ := c.def_ 66 (d := d__law_draw) rfl
  exact ⟨_, fd, He.glo_ok X G (c.fact 66 (f := .glo (PySem.Str.ofString "_law_draw")) rfl), F, FunD.bindsN F fun _ _ _ _ _ _ us hl => match us, hl with | [_, _], _ => rfl, scB_ok (by decide +kernel)⟩
theorem f__law_begun (X : K.In h) (G : h.Ns mainGlobals mg) (c : He.SaysD fa fn K) : FnIs K mg (PySem.Str.ofString "_law_begun") s__law_begun Nb p__law_begun := by
  obtain ⟨fd, F⟩ := c.def_ 67 (d := d__law_begun) rfl
  exact ⟨_, fd, He.glo_ok X G (c.fact 67 (f := .glo (PySem.Str.ofString "_law_begun")) rfl), F, FunD.bindsN F fun _ _ _ _ _ _ us hl => match us, hl with | [_], _ => rfl, scB_ok (by decide +kernel)⟩
theorem f__law_like (X : K.In h) (G : h.Ns mainGlobals mg) (c : He.SaysD fa fn K) : FnIs K mg (PySem.Str.ofString "_law_like") s__law_like n__law_like p__law_like := by
  obtain ⟨fd, F⟩ := c.def_ 68 (d := d__law_like) rfl
  exact ⟨_, fd, He.glo_ok X G (c.fact 68 (f := .glo (PySem.Str.ofString "_law_like")) rfl), F, FunD.bindsN F fun _ _ _ _ _ _ us hl => match us, hl with | [_, _], _ => rfl, scB_ok (by decide +kernel)⟩
theorem f__law_two_right (X : K.In h) (G : h.Ns mainGlobals mg) (c : He.SaysD fa fn K) : FnIs K mg (PySem.Str.ofString "_law_two_right") s__law_two_right n__law_two_right p__law_two_right := by
  obtain ⟨fd, F⟩ := c.def_ 69 (d := d__law_two_right) rfl
  exact ⟨_, fd, He.glo_ok X G (c.fact 69 (f := .glo (PySem.Str.ofString "_law_two_right")) rfl), F, FunD.bindsN F fun _ _ _ _ _ _ us hl => match us, hl with | [], _ => rfl, scB_ok (by decide +kernel)⟩
theorem f__law_three_right (X : K.In h) (G : h.Ns mainGlobals mg) (c : He.SaysD fa fn K) : FnIs K mg (PySem.Str.ofString "_law_three_right") s__law_three_right n__law_three_right p__law_three_right := by
  obtain ⟨fd, F⟩ := c.def_ 70 (d := d__law_three_right) rfl
  exact ⟨_, fd, He.glo_ok X G (c.fact 70 (f := .glo (PySem.Str.ofString "_law_three_right")) rfl), F, FunD.bindsN F fun _ _ _ _ _ _ us hl => match us, hl with | [], _ => rfl, scB_ok (by decide +kernel)⟩
theorem f__law_great_right (X : K.In h) (G : h.Ns mainGlobals mg) (c : He.SaysD fa fn K) : FnIs K mg (PySem.Str.ofString "_law_great_right") s__law_great_right n__law_great_right p__law_great_right := by
  obtain ⟨fd, F⟩ := c.def_ 71 (d := d__law_great_right) rfl
  exact ⟨_, fd, He.glo_ok X G (c.fact 71 (f := .glo (PySem.Str.ofString "_law_great_right")) rfl), F, FunD.bindsN F fun _ _ _ _ _ _ us hl => match us, hl with | [], _ => rfl, scB_ok (by decide +kernel)⟩
theorem f_law (X : K.In h) (G : h.Ns mainGlobals mg) (c : He.SaysD fa fn K) : FnIs K mg (PySem.Str.ofString "law") s_law n_law p_law := by
  obtain ⟨fd, F⟩ := c.def_ 72 (d := d_law) rfl
  exact ⟨_, fd, He.glo_ok X G (c.fact 72 (f := .glo (PySem.Str.ofString "law")) rfl), F, FunD.bindsN F fun _ _ _ _ _ _ us hl => match us, hl with | [_], _ => rfl, scB_ok (by decide +kernel)⟩
end
theorem helps : helpOk s__law_mixed s__law_folded s__law_draw s__law_begun = true := by decide +kernel
theorem lawText : okLaw ⟨n_law, fnN, cnN, true⟩ (kx s_law) c_law.body (defBody s_law) = true := by decide +kernel
theorem ck_is_whole : chkSts ⟨n_is_whole, fnN, cnN, true⟩ (kx s_is_whole) c_is_whole.body (defBody s_is_whole) = true := by decide +kernel
theorem ck_are_rising : chkSts ⟨n_are_rising, fnN, cnN, true⟩ (kx s_are_rising) c_are_rising.body (defBody s_are_rising) = true := by decide +kernel
theorem ck_are_values : chkSts ⟨n_are_values, fnN, cnN, true⟩ (kx s_are_values) c_are_values.body (defBody s_are_values) = true := by decide +kernel
theorem ck_is_link : chkSts ⟨n_is_link, fnN, cnN, true⟩ (kx s_is_link) c_is_link.body (defBody s_is_link) = true := by decide +kernel
theorem ck_need_links : chkSts ⟨n_need_links, fnN, cnN, true⟩ (kx s_need_links) c_need_links.body (defBody s_need_links) = true := by decide +kernel
theorem ck_need_prices : chkSts ⟨n_need_prices, fnN, cnN, true⟩ (kx s_need_prices) c_need_prices.body (defBody s_need_prices) = true := by decide +kernel
theorem ck_values_of : chkSts ⟨n_values_of, fnN, cnN, true⟩ (kx s_values_of) c_values_of.body (defBody s_values_of) = true := by decide +kernel
theorem ck_unknown_in : chkSts ⟨n_unknown_in, fnN, cnN, true⟩ (kx s_unknown_in) c_unknown_in.body (defBody s_unknown_in) = true := by decide +kernel
theorem ck_need_query : chkSts ⟨n_need_query, fnN, cnN, true⟩ (kx s_need_query) c_need_query.body (defBody s_need_query) = true := by decide +kernel
theorem ck_unknowns : chkSts ⟨n_unknowns, fnN, cnN, true⟩ (kx s_unknowns) c_unknowns.body (defBody s_unknowns) = true := by decide +kernel
theorem ck_is_point : chkSts ⟨n_is_point, fnN, cnN, true⟩ (kx s_is_point) c_is_point.body (defBody s_is_point) = true := by decide +kernel
theorem ck_need_point : chkSts ⟨n_need_point, fnN, cnN, true⟩ (kx s_need_point) c_need_point.body (defBody s_need_point) = true := by decide +kernel
theorem ck_spread : chkSts ⟨n_spread, fnN, cnN, true⟩ (kx s_spread) c_spread.body (defBody s_spread) = true := by decide +kernel
theorem ck_ends_of : chkSts ⟨n_ends_of, fnN, cnN, true⟩ (kx s_ends_of) c_ends_of.body (defBody s_ends_of) = true := by decide +kernel
theorem ck_corners_of : chkSts ⟨n_corners_of, fnN, cnN, true⟩ (kx s_corners_of) c_corners_of.body (defBody s_corners_of) = true := by decide +kernel
theorem ck_corners : chkSts ⟨n_corners, fnN, cnN, true⟩ (kx s_corners) c_corners.body (defBody s_corners) = true := by decide +kernel
theorem ck_told_points : chkSts ⟨n_told_points, fnN, cnN, true⟩ (kx s_told_points) c_told_points.body (defBody s_told_points) = true := by decide +kernel
theorem ck_need_place : chkSts ⟨n_need_place, fnN, cnN, true⟩ (kx s_need_place) c_need_place.body (defBody s_need_place) = true := by decide +kernel
theorem ck_are_tables : chkSts ⟨n_are_tables, fnN, cnN, true⟩ (kx s_are_tables) c_are_tables.body (defBody s_are_tables) = true := by decide +kernel
theorem ck_need_tables : chkSts ⟨n_need_tables, fnN, cnN, true⟩ (kx s_need_tables) c_need_tables.body (defBody s_need_tables) = true := by decide +kernel
theorem ck_links_within : chkSts ⟨n_links_within, fnN, cnN, true⟩ (kx s_links_within) c_links_within.body (defBody s_links_within) = true := by decide +kernel
theorem ck_product_of : chkSts ⟨n_product_of, fnN, cnN, true⟩ (kx s_product_of) c_product_of.body (defBody s_product_of) = true := by decide +kernel
theorem ck_out_of : chkSts ⟨n_out_of, fnN, cnN, true⟩ (kx s_out_of) c_out_of.body (defBody s_out_of) = true := by decide +kernel
theorem ck_pairs_of : chkSts ⟨n_pairs_of, fnN, cnN, true⟩ (kx s_pairs_of) c_pairs_of.body (defBody s_pairs_of) = true := by decide +kernel
theorem ck_out_range : chkSts ⟨n_out_range, fnN, cnN, true⟩ (kx s_out_range) c_out_range.body (defBody s_out_range) = true := by decide +kernel
theorem ck_are_joined : chkSts ⟨n_are_joined, fnN, cnN, true⟩ (kx s_are_joined) c_are_joined.body (defBody s_are_joined) = true := by decide +kernel
theorem ck_do_hang : chkSts ⟨n_do_hang, fnN, cnN, true⟩ (kx s_do_hang) c_do_hang.body (defBody s_do_hang) = true := by decide +kernel
theorem ck_is_table : chkSts ⟨n_is_table, fnN, cnN, true⟩ (kx s_is_table) c_is_table.body (defBody s_is_table) = true := by decide +kernel
theorem ck_tables_of : chkSts ⟨n_tables_of, fnN, cnN, true⟩ (kx s_tables_of) c_tables_of.body (defBody s_tables_of) = true := by decide +kernel
theorem ck_is_part : chkSts ⟨n_is_part, fnN, cnN, true⟩ (kx s_is_part) c_is_part.body (defBody s_is_part) = true := by decide +kernel
theorem ck_need_plan : chkSts ⟨n_need_plan, fnN, cnN, true⟩ (kx s_need_plan) c_need_plan.body (defBody s_need_plan) = true := by decide +kernel
theorem ck_nodes_of : chkSts ⟨n_nodes_of, fnN, cnN, true⟩ (kx s_nodes_of) c_nodes_of.body (defBody s_nodes_of) = true := by decide +kernel
theorem ck_node_cost : chkSts ⟨n_node_cost, fnN, cnN, true⟩ (kx s_node_cost) c_node_cost.body (defBody s_node_cost) = true := by decide +kernel
theorem ck_cost_of : chkSts ⟨n_cost_of, fnN, cnN, true⟩ (kx s_cost_of) c_cost_of.body (defBody s_cost_of) = true := by decide +kernel
theorem ck_corner_costs : chkSts ⟨n_corner_costs, fnN, cnN, true⟩ (kx s_corner_costs) c_corner_costs.body (defBody s_corner_costs) = true := by decide +kernel
theorem ck_crossed_nodes : chkSts ⟨n_crossed_nodes, fnN, cnN, true⟩ (kx s_crossed_nodes) c_crossed_nodes.body (defBody s_crossed_nodes) = true := by decide +kernel
theorem ck_is_linked : chkSts ⟨n_is_linked, fnN, cnN, true⟩ (kx s_is_linked) c_is_linked.body (defBody s_is_linked) = true := by decide +kernel
theorem ck_cost_range : chkSts ⟨n_cost_range, fnN, cnN, true⟩ (kx s_cost_range) c_cost_range.body (defBody s_cost_range) = true := by decide +kernel
theorem ck_need_two : chkSts ⟨n_need_two, fnN, cnN, true⟩ (kx s_need_two) c_need_two.body (defBody s_need_two) = true := by decide +kernel
theorem ck_lead_of : chkSts ⟨n_lead_of, fnN, cnN, true⟩ (kx s_lead_of) c_lead_of.body (defBody s_lead_of) = true := by decide +kernel
theorem ck_leads_of : chkSts ⟨n_leads_of, fnN, cnN, true⟩ (kx s_leads_of) c_leads_of.body (defBody s_leads_of) = true := by decide +kernel
theorem ck_lead_range : chkSts ⟨n_lead_range, fnN, cnN, true⟩ (kx s_lead_range) c_lead_range.body (defBody s_lead_range) = true := by decide +kernel
theorem ck_lead_corners : chkSts ⟨n_lead_corners, fnN, cnN, true⟩ (kx s_lead_corners) c_lead_corners.body (defBody s_lead_corners) = true := by decide +kernel
theorem ck_never_dearer : chkSts ⟨n_never_dearer, fnN, cnN, true⟩ (kx s_never_dearer) c_never_dearer.body (defBody s_never_dearer) = true := by decide +kernel
theorem ck_common : chkSts ⟨n_common, fnN, cnN, true⟩ (kx s_common) c_common.body (defBody s_common) = true := by decide +kernel
theorem ck_fraction : chkSts ⟨n_fraction, fnN, cnN, true⟩ (kx s_fraction) c_fraction.body (defBody s_fraction) = true := by decide +kernel
theorem ck_is_less : chkSts ⟨n_is_less, fnN, cnN, true⟩ (kx s_is_less) c_is_less.body (defBody s_is_less) = true := by decide +kernel
theorem ck_greatest_of : chkSts ⟨n_greatest_of, fnN, cnN, true⟩ (kx s_greatest_of) c_greatest_of.body (defBody s_greatest_of) = true := by decide +kernel
theorem ck_share_of : chkSts ⟨n_share_of, fnN, cnN, true⟩ (kx s_share_of) c_share_of.body (defBody s_share_of) = true := by decide +kernel
theorem ck_greatest_share : chkSts ⟨n_greatest_share, fnN, cnN, true⟩ (kx s_greatest_share) c_greatest_share.body (defBody s_greatest_share) = true := by decide +kernel
theorem ck_share_corner : chkSts ⟨n_share_corner, fnN, cnN, true⟩ (kx s_share_corner) c_share_corner.body (defBody s_share_corner) = true := by decide +kernel
theorem ck_cheaper_corners : chkSts ⟨n_cheaper_corners, fnN, cnN, true⟩ (kx s_cheaper_corners) c_cheaper_corners.body (defBody s_cheaper_corners) = true := by decide +kernel
theorem ck_with_value : chkSts ⟨n_with_value, fnN, cnN, true⟩ (kx s_with_value) c_with_value.body (defBody s_with_value) = true := by decide +kernel
theorem ck_line_at : chkSts ⟨n_line_at, fnN, cnN, true⟩ (kx s_line_at) c_line_at.body (defBody s_line_at) = true := by decide +kernel
theorem ck_span_of : chkSts ⟨n_span_of, fnN, cnN, true⟩ (kx s_span_of) c_span_of.body (defBody s_span_of) = true := by decide +kernel
theorem ck_need_asked : chkSts ⟨n_need_asked, fnN, cnN, true⟩ (kx s_need_asked) c_need_asked.body (defBody s_need_asked) = true := by decide +kernel
theorem ck_ends_at : chkSts ⟨n_ends_at, fnN, cnN, true⟩ (kx s_ends_at) c_ends_at.body (defBody s_ends_at) = true := by decide +kernel
theorem ck_span : chkSts ⟨n_span, fnN, cnN, true⟩ (kx s_span) c_span.body (defBody s_span) = true := by decide +kernel
theorem ck_other_corners : chkSts ⟨n_other_corners, fnN, cnN, true⟩ (kx s_other_corners) c_other_corners.body (defBody s_other_corners) = true := by decide +kernel
theorem ck_sure_span : chkSts ⟨n_sure_span, fnN, cnN, true⟩ (kx s_sure_span) c_sure_span.body (defBody s_sure_span) = true := by decide +kernel
theorem ck_crossing : chkSts ⟨n_crossing, fnN, cnN, true⟩ (kx s_crossing) c_crossing.body (defBody s_crossing) = true := by decide +kernel
theorem ck_does_matter : chkSts ⟨n_does_matter, fnN, cnN, true⟩ (kx s_does_matter) c_does_matter.body (defBody s_does_matter) = true := by decide +kernel
theorem ck_told_others : chkSts ⟨n_told_others, fnN, cnN, true⟩ (kx s_told_others) c_told_others.body (defBody s_told_others) = true := by decide +kernel
theorem ck_sign_of : chkSts ⟨n_sign_of, fnN, cnN, true⟩ (kx s_sign_of) c_sign_of.body (defBody s_sign_of) = true := by decide +kernel
theorem ck__law_like : chkSts ⟨n__law_like, fnN, cnN, true⟩ (kx s__law_like) c__law_like.body (defBody s__law_like) = true := by decide +kernel
theorem ck__law_two_right : chkSts ⟨n__law_two_right, fnN, cnN, true⟩ (kx s__law_two_right) c__law_two_right.body (defBody s__law_two_right) = true := by decide +kernel
theorem ck__law_three_right : chkSts ⟨n__law_three_right, fnN, cnN, true⟩ (kx s__law_three_right) c__law_three_right.body (defBody s__law_three_right) = true := by decide +kernel
theorem ck__law_great_right : chkSts ⟨n__law_great_right, fnN, cnN, true⟩ (kx s__law_great_right) c__law_great_right.body (defBody s__law_great_right) = true := by decide +kernel
theorem fns {K : PySem.W.Frag} {h : Heap} {mg : Str → Option Value} (X : K.In h) (G : h.Ns mainGlobals mg) (c : He.SaysD fa fn K) : ∀ f x, fnN f = some x → ∃ (d : Def) (st : Stmt) (N ps : List Str), tb f = some d ∧ FnIs K mg x st N ps ∧ N.length = d.slots ∧ ps.length = d.params ∧ chkSts ⟨N, fnN, cnN, true⟩ (kx st) d.body (defBody st) = true := by
  intro f x hx
  match f, hx with
  | 0, hx => cases hx; exact ⟨c_is_whole, s_is_whole, n_is_whole, p_is_whole, rfl, f_is_whole X G c, rfl, rfl, ck_is_whole⟩
  | 1, hx => cases hx; exact ⟨c_are_rising, s_are_rising, n_are_rising, p_are_rising, rfl, f_are_rising X G c, rfl, rfl, ck_are_rising⟩
  | 2, hx => cases hx; exact ⟨c_are_values, s_are_values, n_are_values, p_are_values, rfl, f_are_values X G c, rfl, rfl, ck_are_values⟩
  | 3, hx => cases hx; exact ⟨c_is_link, s_is_link, n_is_link, p_is_link, rfl, f_is_link X G c, rfl, rfl, ck_is_link⟩
  | 4, hx => cases hx; exact ⟨c_need_links, s_need_links, n_need_links, p_need_links, rfl, f_need_links X G c, rfl, rfl, ck_need_links⟩
  | 5, hx => cases hx; exact ⟨c_need_prices, s_need_prices, n_need_prices, p_need_prices, rfl, f_need_prices X G c, rfl, rfl, ck_need_prices⟩
  | 6, hx => cases hx; exact ⟨c_values_of, s_values_of, n_values_of, p_values_of, rfl, f_values_of X G c, rfl, rfl, ck_values_of⟩
  | 7, hx => cases hx; exact ⟨c_unknown_in, s_unknown_in, n_unknown_in, p_unknown_in, rfl, f_unknown_in X G c, rfl, rfl, ck_unknown_in⟩
  | 8, hx => cases hx; exact ⟨c_need_query, s_need_query, n_need_query, p_need_query, rfl, f_need_query X G c, rfl, rfl, ck_need_query⟩
  | 9, hx => cases hx; exact ⟨c_unknowns, s_unknowns, n_unknowns, p_unknowns, rfl, f_unknowns X G c, rfl, rfl, ck_unknowns⟩
  | 10, hx => cases hx; exact ⟨c_is_point, s_is_point, n_is_point, p_is_point, rfl, f_is_point X G c, rfl, rfl, ck_is_point⟩
  | 11, hx => cases hx; exact ⟨c_need_point, s_need_point, n_need_point, p_need_point, rfl, f_need_point X G c, rfl, rfl, ck_need_point⟩
  | 12, hx => cases hx; exact ⟨c_spread, s_spread, n_spread, p_spread, rfl, f_spread X G c, rfl, rfl, ck_spread⟩
  | 13, hx => cases hx; exact ⟨c_ends_of, s_ends_of, n_ends_of, p_ends_of, rfl, f_ends_of X G c, rfl, rfl, ck_ends_of⟩
  | 14, hx => cases hx; exact ⟨c_corners_of, s_corners_of, n_corners_of, p_corners_of, rfl, f_corners_of X G c, rfl, rfl, ck_corners_of⟩
  | 15, hx => cases hx; exact ⟨c_corners, s_corners, n_corners, p_corners, rfl, f_corners X G c, rfl, rfl, ck_corners⟩
  | 16, hx => cases hx; exact ⟨c_told_points, s_told_points, n_told_points, p_told_points, rfl, f_told_points X G c, rfl, rfl, ck_told_points⟩
  | 17, hx => cases hx; exact ⟨c_need_place, s_need_place, n_need_place, p_need_place, rfl, f_need_place X G c, rfl, rfl, ck_need_place⟩
  | 18, hx => cases hx; exact ⟨c_are_tables, s_are_tables, n_are_tables, p_are_tables, rfl, f_are_tables X G c, rfl, rfl, ck_are_tables⟩
  | 19, hx => cases hx; exact ⟨c_need_tables, s_need_tables, n_need_tables, p_need_tables, rfl, f_need_tables X G c, rfl, rfl, ck_need_tables⟩
  | 20, hx => cases hx; exact ⟨c_links_within, s_links_within, n_links_within, p_links_within, rfl, f_links_within X G c, rfl, rfl, ck_links_within⟩
  | 21, hx => cases hx; exact ⟨c_product_of, s_product_of, n_product_of, p_product_of, rfl, f_product_of X G c, rfl, rfl, ck_product_of⟩
  | 22, hx => cases hx; exact ⟨c_out_of, s_out_of, n_out_of, p_out_of, rfl, f_out_of X G c, rfl, rfl, ck_out_of⟩
  | 23, hx => cases hx; exact ⟨c_pairs_of, s_pairs_of, n_pairs_of, p_pairs_of, rfl, f_pairs_of X G c, rfl, rfl, ck_pairs_of⟩
  | 24, hx => cases hx; exact ⟨c_out_range, s_out_range, n_out_range, p_out_range, rfl, f_out_range X G c, rfl, rfl, ck_out_range⟩
  | 25, hx => cases hx; exact ⟨c_are_joined, s_are_joined, n_are_joined, p_are_joined, rfl, f_are_joined X G c, rfl, rfl, ck_are_joined⟩
  | 26, hx => cases hx; exact ⟨c_do_hang, s_do_hang, n_do_hang, p_do_hang, rfl, f_do_hang X G c, rfl, rfl, ck_do_hang⟩
  | 27, hx => cases hx; exact ⟨c_is_table, s_is_table, n_is_table, p_is_table, rfl, f_is_table X G c, rfl, rfl, ck_is_table⟩
  | 28, hx => cases hx; exact ⟨c_tables_of, s_tables_of, n_tables_of, p_tables_of, rfl, f_tables_of X G c, rfl, rfl, ck_tables_of⟩
  | 29, hx => cases hx; exact ⟨c_is_part, s_is_part, n_is_part, p_is_part, rfl, f_is_part X G c, rfl, rfl, ck_is_part⟩
  | 30, hx => cases hx; exact ⟨c_need_plan, s_need_plan, n_need_plan, p_need_plan, rfl, f_need_plan X G c, rfl, rfl, ck_need_plan⟩
  | 31, hx => cases hx; exact ⟨c_nodes_of, s_nodes_of, n_nodes_of, p_nodes_of, rfl, f_nodes_of X G c, rfl, rfl, ck_nodes_of⟩
  | 32, hx => cases hx; exact ⟨c_node_cost, s_node_cost, n_node_cost, p_node_cost, rfl, f_node_cost X G c, rfl, rfl, ck_node_cost⟩
  | 33, hx => cases hx; exact ⟨c_cost_of, s_cost_of, n_cost_of, p_cost_of, rfl, f_cost_of X G c, rfl, rfl, ck_cost_of⟩
  | 34, hx => cases hx; exact ⟨c_corner_costs, s_corner_costs, n_corner_costs, p_corner_costs, rfl, f_corner_costs X G c, rfl, rfl, ck_corner_costs⟩
  | 35, hx => cases hx; exact ⟨c_crossed_nodes, s_crossed_nodes, n_crossed_nodes, p_crossed_nodes, rfl, f_crossed_nodes X G c, rfl, rfl, ck_crossed_nodes⟩
  | 36, hx => cases hx; exact ⟨c_is_linked, s_is_linked, n_is_linked, p_is_linked, rfl, f_is_linked X G c, rfl, rfl, ck_is_linked⟩
  | 37, hx => cases hx; exact ⟨c_cost_range, s_cost_range, n_cost_range, p_cost_range, rfl, f_cost_range X G c, rfl, rfl, ck_cost_range⟩
  | 38, hx => cases hx; exact ⟨c_need_two, s_need_two, n_need_two, p_need_two, rfl, f_need_two X G c, rfl, rfl, ck_need_two⟩
  | 39, hx => cases hx; exact ⟨c_lead_of, s_lead_of, n_lead_of, p_lead_of, rfl, f_lead_of X G c, rfl, rfl, ck_lead_of⟩
  | 40, hx => cases hx; exact ⟨c_leads_of, s_leads_of, n_leads_of, p_leads_of, rfl, f_leads_of X G c, rfl, rfl, ck_leads_of⟩
  | 41, hx => cases hx; exact ⟨c_lead_range, s_lead_range, n_lead_range, p_lead_range, rfl, f_lead_range X G c, rfl, rfl, ck_lead_range⟩
  | 42, hx => cases hx; exact ⟨c_lead_corners, s_lead_corners, n_lead_corners, p_lead_corners, rfl, f_lead_corners X G c, rfl, rfl, ck_lead_corners⟩
  | 43, hx => cases hx; exact ⟨c_never_dearer, s_never_dearer, n_never_dearer, p_never_dearer, rfl, f_never_dearer X G c, rfl, rfl, ck_never_dearer⟩
  | 44, hx => cases hx; exact ⟨c_common, s_common, n_common, p_common, rfl, f_common X G c, rfl, rfl, ck_common⟩
  | 45, hx => cases hx; exact ⟨c_fraction, s_fraction, n_fraction, p_fraction, rfl, f_fraction X G c, rfl, rfl, ck_fraction⟩
  | 46, hx => cases hx; exact ⟨c_is_less, s_is_less, n_is_less, p_is_less, rfl, f_is_less X G c, rfl, rfl, ck_is_less⟩
  | 47, hx => cases hx; exact ⟨c_greatest_of, s_greatest_of, n_greatest_of, p_greatest_of, rfl, f_greatest_of X G c, rfl, rfl, ck_greatest_of⟩
  | 48, hx => cases hx; exact ⟨c_share_of, s_share_of, n_share_of, p_share_of, rfl, f_share_of X G c, rfl, rfl, ck_share_of⟩
  | 49, hx => cases hx; exact ⟨c_greatest_share, s_greatest_share, n_greatest_share, p_greatest_share, rfl, f_greatest_share X G c, rfl, rfl, ck_greatest_share⟩
  | 50, hx => cases hx; exact ⟨c_share_corner, s_share_corner, n_share_corner, p_share_corner, rfl, f_share_corner X G c, rfl, rfl, ck_share_corner⟩
  | 51, hx => cases hx; exact ⟨c_cheaper_corners, s_cheaper_corners, n_cheaper_corners, p_cheaper_corners, rfl, f_cheaper_corners X G c, rfl, rfl, ck_cheaper_corners⟩
  | 52, hx => cases hx; exact ⟨c_with_value, s_with_value, n_with_value, p_with_value, rfl, f_with_value X G c, rfl, rfl, ck_with_value⟩
  | 53, hx => cases hx; exact ⟨c_line_at, s_line_at, n_line_at, p_line_at, rfl, f_line_at X G c, rfl, rfl, ck_line_at⟩
  | 54, hx => cases hx; exact ⟨c_span_of, s_span_of, n_span_of, p_span_of, rfl, f_span_of X G c, rfl, rfl, ck_span_of⟩
  | 55, hx => cases hx; exact ⟨c_need_asked, s_need_asked, n_need_asked, p_need_asked, rfl, f_need_asked X G c, rfl, rfl, ck_need_asked⟩
  | 56, hx => cases hx; exact ⟨c_ends_at, s_ends_at, n_ends_at, p_ends_at, rfl, f_ends_at X G c, rfl, rfl, ck_ends_at⟩
  | 57, hx => cases hx; exact ⟨c_span, s_span, n_span, p_span, rfl, f_span X G c, rfl, rfl, ck_span⟩
  | 58, hx => cases hx; exact ⟨c_other_corners, s_other_corners, n_other_corners, p_other_corners, rfl, f_other_corners X G c, rfl, rfl, ck_other_corners⟩
  | 59, hx => cases hx; exact ⟨c_sure_span, s_sure_span, n_sure_span, p_sure_span, rfl, f_sure_span X G c, rfl, rfl, ck_sure_span⟩
  | 60, hx => cases hx; exact ⟨c_crossing, s_crossing, n_crossing, p_crossing, rfl, f_crossing X G c, rfl, rfl, ck_crossing⟩
  | 61, hx => cases hx; exact ⟨c_does_matter, s_does_matter, n_does_matter, p_does_matter, rfl, f_does_matter X G c, rfl, rfl, ck_does_matter⟩
  | 62, hx => cases hx; exact ⟨c_told_others, s_told_others, n_told_others, p_told_others, rfl, f_told_others X G c, rfl, rfl, ck_told_others⟩
  | 63, hx => cases hx; exact ⟨c_sign_of, s_sign_of, n_sign_of, p_sign_of, rfl, f_sign_of X G c, rfl, rfl, ck_sign_of⟩
  | 64, hx => cases hx; exact ⟨c__law_like, s__law_like, n__law_like, p__law_like, rfl, f__law_like X G c, rfl, rfl, ck__law_like⟩
  | 65, hx => cases hx; exact ⟨c__law_two_right, s__law_two_right, n__law_two_right, p__law_two_right, rfl, f__law_two_right X G c, rfl, rfl, ck__law_two_right⟩
  | 66, hx => cases hx; exact ⟨c__law_three_right, s__law_three_right, n__law_three_right, p__law_three_right, rfl, f__law_three_right X G c, rfl, rfl, ck__law_three_right⟩
  | 67, hx => cases hx; exact ⟨c__law_great_right, s__law_great_right, n__law_great_right, p__law_great_right, rfl, f__law_great_right X G c, rfl, rfl, ck__law_great_right⟩
  | f + 68, hx => cases hx
theorem cons_ {K : PySem.W.Frag} {h : Heap} {mg : Str → Option Value} (X : K.In h) (G : h.Ns mainGlobals mg) (c : cs.all (conK K) = true) : ∀ g x, cnN g = some x → ∃ u v, mg x = some u ∧ RelV v u ∧ ∀ (C : Cc) (H : Hp), C.K = K → Den C H v (gl g) := by
  intro g x hx
  have at_ : ∀ (i : Nat) (y : Str) (d : D), cs[i]? = some (y, d) → conK K (y, d) = true := fun i y d e => List.all_eq_true.mp c _ (List.mem_of_getElem? e)
  match g, hx with
  | 0, hx => cases hx; exact conK_ok X G (at_ 0 _ _ rfl)
  | 1, hx => cases hx; exact conK_ok X G (at_ 1 _ _ rfl)
  | 2, hx => cases hx; exact conK_ok X G (at_ 2 _ _ rfl)
  | 3, hx => cases hx; exact conK_ok X G (at_ 3 _ _ rfl)
  | 4, hx => cases hx; exact conK_ok X G (at_ 4 _ _ rfl)
  | 5, hx => cases hx; exact conK_ok X G (at_ 5 _ _ rfl)
  | 6, hx => cases hx; exact conK_ok X G (at_ 6 _ _ rfl)
  | 7, hx => cases hx; exact conK_ok X G (at_ 7 _ _ rfl)
  | 8, hx => cases hx; exact conK_ok X G (at_ 8 _ _ rfl)
  | 9, hx => cases hx; exact conK_ok X G (at_ 9 _ _ rfl)
  | 10, hx => cases hx; exact conK_ok X G (at_ 10 _ _ rfl)
  | g + 11, hx => cases hx
theorem blts {K : PySem.W.Frag} {h : Heap} {mg : Str → Option Value} (X : K.In h) (G : h.Ns mainGlobals mg) (c : He.SaysD fa fn K) : ∀ x ∈ bltNames, mg x = none := by
  intro x hx
  unfold bltNames at hx
  simp only [List.mem_cons, List.not_mem_nil, or_false] at hx
  rcases hx with rfl | rfl | rfl | rfl | rfl | rfl | rfl | rfl | rfl | rfl | rfl | rfl | rfl | rfl | rfl | rfl | rfl | rfl
  · exact He.free_ok X G (c.fact 73 (f := .free (PySem.Str.ofString "len")) rfl)
  · exact He.free_ok X G (c.fact 74 (f := .free (PySem.Str.ofString "all")) rfl)
  · exact He.free_ok X G (c.fact 75 (f := .free (PySem.Str.ofString "any")) rfl)
  · exact He.free_ok X G (c.fact 76 (f := .free (PySem.Str.ofString "sum")) rfl)
  · exact He.free_ok X G (c.fact 77 (f := .free (PySem.Str.ofString "min")) rfl)
  · exact He.free_ok X G (c.fact 78 (f := .free (PySem.Str.ofString "max")) rfl)
  · exact He.free_ok X G (c.fact 79 (f := .free (PySem.Str.ofString "sorted")) rfl)
  · exact He.free_ok X G (c.fact 80 (f := .free (PySem.Str.ofString "tuple")) rfl)
  · exact He.free_ok X G (c.fact 81 (f := .free (PySem.Str.ofString "list")) rfl)
  · exact He.free_ok X G (c.fact 82 (f := .free (PySem.Str.ofString "int")) rfl)
  · exact He.free_ok X G (c.fact 83 (f := .free (PySem.Str.ofString "abs")) rfl)
  · exact He.free_ok X G (c.fact 84 (f := .free (PySem.Str.ofString "repr")) rfl)
  · exact He.free_ok X G (c.fact 85 (f := .free (PySem.Str.ofString "bool")) rfl)
  · exact He.free_ok X G (c.fact 86 (f := .free (PySem.Str.ofString "str")) rfl)
  · exact He.free_ok X G (c.fact 87 (f := .free (PySem.Str.ofString "range")) rfl)
  · exact He.free_ok X G (c.fact 88 (f := .free (PySem.Str.ofString "enumerate")) rfl)
  · exact He.free_ok X G (c.fact 89 (f := .free (PySem.Str.ofString "zip")) rfl)
  · exact He.free_ok X G (c.fact 90 (f := .free (PySem.Str.ofString "isinstance")) rfl)
end K15
open PySem PySem.W PySem.Calls PyProof.Rows
theorem PySem.Challenge.cw_plancorners_k15_queries_by_hand_holds : PySem.Challenge.rw_plancorners_k15_queries_by_hand.Holds := by
  w_on; o_law
  refine HandSHeadRun.head_any (r := OpenLaw.row PySem.Challenge.rw_plancorners_k15_queries_by_hand) (q := view (OpenLaw.row PySem.Challenge.rw_plancorners_k15_queries_by_hand).prog [96]) (H := K15.hk) (ob := K15.ob) (M := 4000) (loose := K15.loose) (d := HandSHeadRun.topDef (OpenLaw.row PySem.Challenge.rw_plancorners_k15_queries_by_hand).prog 96) (kwd := []) (fun s => Pc.obC_eq s)
    (by kernel_rfl) (fun s => by kernel_rfl) K15.run (by kernel_rfl) (by kernel_rfl) (by kernel_rfl) (by rfl) (by first | assumption | decide +kernel) (by decide +kernel) ⟨rfl, rfl, rfl, rfl, rfl, by decide +kernel⟩ ?hw ?hc
  case hw => w_witness2
  case hc =>
    refine Pc.walk_ofG (l := PySem.Challenge.rw_plancorners_k15_queries_by_hand) (k := 2 + K15.fuel + 1) (x := PySem.Str.ofString "_law_script") rfl (by kernel_rfl) ⟨rfl, by decide, by decide⟩ ?F
    intro w mg fa h Y G hmg0
    obtain ⟨K, KX, c, cc⟩ := Y
    have hmg : mg (PySem.Str.ofString "law") = some (.ref fa) := by
      have e : (HandSHeadRun.topDef (OpenLaw.row PySem.Challenge.rw_plancorners_k15_queries_by_hand).prog 96).name = PySem.Str.ofString "law" := by kernel_rfl
      rw [← e]
      exact hmg0
    have pr := fun base => Pc.law_promise (P := (PySem.Challenge.rw_plancorners_k15_queries_by_hand).prog) (w := w) (base := base) (K15.blts KX G c) (K15.f__law_mixed KX G c) (K15.f__law_folded KX G c) (K15.f__law_draw KX G c) (K15.f__law_begun KX G c) (K15.f_law KX G c) rfl rfl rfl rfl rfl (by decide) K15.helps K15.lawText (K15.cons_ KX G cc) (K15.fns KX G c) K15.pure_law
    obtain ⟨ad, fd, e1, F, _⟩ := pr h
    rw [hmg] at e1
    cases e1
    have b := L2.FunD.bindsA (ps := K15.p_law) F fun _ _ _ _ _ _ us hl => match us, hl with | [_], _ => rfl
    refine ⟨K, fd, KX, fun s v => b s [v] rfl, fun base _ _ => ?_⟩
    obtain ⟨ad2, fd2, e2, F2, G2⟩ := pr base
    rw [hmg] at e2
    cases e2
    have q : fd2 = fd := Pc.fnP_one F2 F
    subst q
    exact G2

