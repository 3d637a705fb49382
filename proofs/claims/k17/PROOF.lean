import PyProof.Rows.All
import Wide.All
import OpenK.AllK
import Wide.FinOn
import HandS.ForMost
import HandS.ForExc
import HandS.Lambda
import HandS.HotCalls
import HandS.IsInst
import HandS.Zip
import HandS.Walk
import HandS.Deep
import HandS.EndTab
import HandS.Wide
import HandS.TupMul
import HandS.TupAny
import HandS.Style
import HandS.RevTup
import HandS.Conv
import KE.DataMinMax
import PyProof.EqLayable
import KE.GoesEnum
import KE.GoesNew
import HandS.ExcIs
import HandS.EndOwn
import PySem.Challenge.RW_sourcemeasures_k17_whole_closures
set_option Elab.async false
set_option linter.all false
set_option maxRecDepth 100000
set_option maxHeartbeats 4000000
/-! The small language: expressions and statements of the program's Python subset, with slots for names, and their plain reading. -/
namespace M
open PySem (PyData Str)
abbrev D := PyData

/-- the program's own exception classes -/
inductive Cls where
  | count | form | assumptions | measure | set | values | factor | rows | number | text | unlike | tooLarge | nothing
  deriving DecidableEq, Repr

/-- what a name holds: a value (never changed from now on), or an unshared list (k: lent by the caller) -/
inductive Slot where
  | val (d : D)
  | own (k : Bool) (xs : List D)
abbrev Env := List (Option Slot)

inductive Out (α : Type) where
  | ok (a : α) (env : Env)
  | err (c : Cls) (env : Env)
abbrev R (α : Type) := Option (Out α)
def bnd {α β : Type} (r : R α) (k : α → Env → R β) : R β :=
  match r with
  | some (.ok a env) => k a env
  | some (.err c env) => some (.err c env)
  | none => none
@[simp] theorem bnd_ok {α β : Type} (a : α) (env : Env) (k : α → Env → R β) : bnd (some (.ok a env)) k = k a env := rfl
@[simp] theorem bnd_err {α β : Type} (c : Cls) (env : Env) (k : α → Env → R β) : bnd (some (.err c env) : R α) k = some (.err c env) := rfl
@[simp] theorem bnd_none {α β : Type} (k : α → Env → R β) : bnd (none : R α) k = none := rfl

/-- a value in passing: itself, or the list that a slot owns -/
inductive TV where
  | imm (d : D)
  | slot (i : Nat)
def rd (env : Env) : TV → Option D
  | .imm d => some d
  | .slot i => match env[i]? with
    | some (some (.own _ xs)) => some (.list xs)
    | some (some (.val d)) => some d
    | _ => none

inductive Bop where
  | add | sub | mul | fdiv | mod | band | bor | pow
  deriving DecidableEq, Repr
inductive Cop where
  | eq | ne | lt | le | gt | ge | mem | nmem
  deriving DecidableEq, Repr
inductive Ty where
  | int | bool | tuple | str
  deriving DecidableEq, Repr
inductive Bi where
  | len | sum | max | min | max2 | min2 | abs | list | tuple | int | all | any | isT (t : Ty) | str
  deriving DecidableEq, Repr
inductive Gc where
  | powers | most
  deriving DecidableEq, Repr

/-- the defs that are called by name -/
inductive Fn where
  | is_number | is_whole | is_row | is_form | need_form | sources_of | need_count | need_set | form_of | elementary_of | elementary | shared_form | shared | sum_of | ingleton
  | broken | is_measure | need_measure | first_broken | value | checked | plus | times | bits_of | renamed | value_at | kept | conditioned | added | rank_of | are_bits | of_rows
  | divisor | lowest | first_rows | leaving | turned | solve | first_below
  | decided | shortened | reason | breach | holds | is_fraction | are_factors | adds_up | are_positive | is_reason | is_breach
  | need_both | reason_with | breach_with | follows | is_reason_with | is_breach_with
  | closed | closure | closed_sets | keys | rank_of_forms | reduced | is_extreme
  | name_of | written | format_form | part_of | parse_form
  | l_cell | l_drawn | l_roll | l_rounds | l_term | l_told | l_bits | l_join | l_make | l_elementary | l_value | l_shared | l_rank | l_any_rows | l_of_rows | l_any_measure | l_any_form | l_bad_form
  | l_renamed | l_adds_up | l_good | l_good4 | l_assumptions | l_rank_of | l_lowest | l_left | l_summed
  deriving DecidableEq, Repr

/-- a target of a for, a comprehension or an assignment -/
inductive Tg where
  | name (i : Nat)
  | pair (a b : Tg)
  | trip (a b c : Tg)
  | quad (a b c d : Tg)

mutual
inductive E where
  | var (i : Nat) | int (n : Int) | bl (b : Bool) | non | str (s : Str) | glob (g : Gc)
  | bin (o : Bop) (a b : E) | neg (a : E)
  | cmp (o : Cop) (a b : E) | isN (a : E) | notN (a : E) | chain (o p : Cop) (a b c : E)
  | and_ (a b : E) | or_ (a b : E) | not_ (a : E) | ife (t a b : E)
  | tup (es : Es) | lst (es : Es)
  | idx (a i : E) | sliceF (a lo : E) | sliceT (a hi : E) | rev (a : E)
  | call (f : Fn) (rs : List Nat) (es : Es)
  | bi (b : Bi) (es : Es) | lrange (a b : E)
  | comp (e : E) (t : Tg) (it : It) (c : Eo)
  | told (e : E)
  | srcs (e : E)
inductive Es where
  | nil | cons (e : E) (es : Es)
inductive Eo where
  | non | som (e : E)
inductive It where
  | of (e : E) | range1 (e : E) | range2 (a b : E) | enum (e : E) | zip (a b : E)
end

inductive S where
  | set (i : Nat) (e : E)
  | par (is : List Nat) (es : Es)
  | unp (t : Tg) (e : E)
  | aug (i : Nat) (o : Bop) (e : E)
  | setI (i : Nat) (x e : E)
  | augI (i : Nat) (x e : E)
  | par1 (i : Nat) (x : E) (j : Nat) (e e' : E)
  | app (i : Nat) (e : E)
  | drop (e : E)
  | if_ (t : E) (a b : List S)
  | for_ (t : Tg) (it : It) (b : List S)
  | while_ (t : E) (b : List S)
  | ret (e : E)
  | retN
  | raise_ (c : Cls)
  | brk

/-! ### the operations on values -/
def ints? : List D → Option (List Int)
  | [] => some []
  | .int i :: r => (ints? r).map (i :: ·)
  | _ :: _ => none
def bools? : List D → Option (List Bool)
  | [] => some []
  | .bool b :: r => (bools? r).map (b :: ·)
  | _ :: _ => none
def items? : D → Option (List D)
  | .list xs => some xs
  | .tuple xs => some xs
  | _ => none

def lim : Nat := 16777216
/-- below 2 ^ k -/
def fits (k : Nat) (i : Int) : Bool := decide (i.natAbs < 2 ^ k)
def mulOk (i j : Int) : Bool := fits 64 i || fits 64 j || (fits 400000 i && fits 400000 j)
def binD : Bop → D → D → Option D
  | .add, .int i, .int j => some (.int (i + j))
  | .add, .list xs, .list ys => if xs.length + ys.length ≤ lim then some (.list (xs ++ ys)) else none
  | .add, .tuple xs, .tuple ys => if xs.length + ys.length ≤ lim then some (.tuple (xs ++ ys)) else none
  | .add, .str x, .str y => if x.length + y.length ≤ lim then some (.str (x ++ y)) else none
  | .sub, .int i, .int j => some (.int (i - j))
  | .mul, .int i, .int j => if mulOk i j then some (.int (i * j)) else none
  | .mul, .int i, .bool b => some (.int (if b then i else 0))
  | .mul, .list xs, .int k => if 0 ≤ k ∧ k ≤ 1000 ∧ xs.length ≤ 1000 then some (.list (List.replicate k.toNat xs).flatten) else none
  | .mul, .tuple xs, .int k => if 1 ≤ k ∧ k ≤ 1000 ∧ xs.length ≤ 1000 ∧ xs ≠ [] then some (.tuple (List.replicate k.toNat xs).flatten) else none
  | .fdiv, .int i, .int j => if 0 < j ∧ fits 8000 j then some (.int (i / j)) else none
  | .mod, .int i, .int j => if 0 < j then some (.int (i % j)) else none
  | .band, .int i, .int j => if 0 ≤ i ∧ 0 ≤ j then some (.int ((i.toNat &&& j.toNat : Nat) : Int)) else none
  | .bor, .int i, .int j => if 0 ≤ i ∧ 0 ≤ j then some (.int (i + j - ((i.toNat &&& j.toNat : Nat) : Int))) else none
  | .pow, .int i, .int j => if 0 ≤ j ∧ j ≤ 1000 ∧ fits 64 i then some (.int (i ^ j.toNat)) else none
  | _, _, _ => none

def isNone : D → Bool
  | .none => true
  | _ => false
def flat : D → Bool
  | .none => true | .bool _ => true | .int _ => true | .str _ => true
  | _ => false
/-- a list that is lent to be read alone: the law's script -/
def heldD (ns : List Int) : D := .dict (ns.map fun i => (.int i, .none))
def cmpD : Cop → D → D → Option Bool
  | .eq, .dict kvs, .list [] => some kvs.isEmpty
  | .eq, a, b => if PySem.SeqAt.shaped a && PySem.SeqAt.shaped b then some (PyData.eqv a b) else none
  | .ne, a, b => if PySem.SeqAt.shaped a && PySem.SeqAt.shaped b then some (!PyData.eqv a b) else none
  | .lt, .int i, .int j => some (decide (i < j))
  | .le, .int i, .int j => some (decide (i ≤ j))
  | .gt, .int i, .int j => some (decide (j < i))
  | .ge, .int i, .int j => some (decide (j ≤ i))
  | .mem, x, .list ys => if flat x && ys.all flat then some (ys.any fun y => PyData.eqv y x) else none
  | .mem, x, .tuple ys => if flat x && ys.all flat then some (ys.any fun y => PyData.eqv y x) else none
  | .nmem, x, .list ys => if flat x && ys.all flat then some (!ys.any fun y => PyData.eqv y x) else none
  | .nmem, x, .tuple ys => if flat x && ys.all flat then some (!ys.any fun y => PyData.eqv y x) else none
  | _, _, _ => none

/-- the place that an index means -/
def place? (n : Nat) (i : Int) : Option Nat :=
  if 0 ≤ i then (if i.toNat < n then some i.toNat else none) else if 0 ≤ (n : Int) + i then some ((n : Int) + i).toNat else none
def idxD : D → D → Option D
  | .list xs, .int i => (place? xs.length i).bind fun k => xs[k]?
  | .tuple xs, .int i => (place? xs.length i).bind fun k => xs[k]?
  | .dict kvs, .int i => (place? kvs.length i).bind fun k => (kvs[k]?).map (·.1)
  | _, _ => none
/-- where a slice's end lies -/
def clip (n : Nat) (i : Int) : Nat := if 0 ≤ i then min i.toNat n else ((n : Int) + i).toNat
def sliceFD : D → D → Option D
  | .list xs, .int i => some (.list (xs.drop (clip xs.length i)))
  | .tuple xs, .int i => some (.tuple (xs.drop (clip xs.length i)))
  | _, _ => none
def sliceTD : D → D → Option D
  | .list xs, .int i => some (.list (xs.take (clip xs.length i)))
  | .tuple xs, .int i => some (.tuple (xs.take (clip xs.length i)))
  | _, _ => none
def revD : D → Option D
  | .tuple xs => some (.tuple xs.reverse)
  | _ => none

def maxI : Int → List Int → Int
  | m, [] => m
  | m, x :: r => maxI (if m < x then x else m) r
def minI : Int → List Int → Int
  | m, [] => m
  | m, x :: r => minI (if x < m then x else m) r
def isTy : Ty → D → Bool
  | .int, .int _ => true | .int, .bool _ => true
  | .bool, .bool _ => true
  | .tuple, .tuple _ => true
  | .str, .str _ => true
  | _, _ => false
def biD : Bi → List D → Option D
  | .len, [.dict kvs] => some (.int (kvs.length : Nat))
  | .len, [d] => (items? d).map fun xs => .int (xs.length : Nat)
  | .sum, [.list xs] => (ints? xs).map fun ns => .int ns.sum
  | .max, [d] => (items? d).bind fun xs => (ints? xs).bind fun ns => match ns with | [] => none | n :: r => some (.int (maxI n r))
  | .min, [.list xs] => (ints? xs).bind fun ns => match ns with | [] => none | n :: r => some (.int (minI n r))
  | .max2, [.int a, .int b] => some (.int (if a < b then b else a))
  | .min2, [.int a, .int b] => some (.int (if b < a then b else a))
  | .abs, [.int a] => some (.int (if a < 0 then -a else a))
  | .list, [d] => (items? d).map .list
  | .tuple, [d] => (items? d).map .tuple
  | .int, [.bool b] => some (.int (if b then 1 else 0))
  | .int, [.int i] => some (.int i)
  | .all, [.list xs] => (bools? xs).map fun bs => .bool (bs.all id)
  | .any, [.list xs] => (bools? xs).map fun bs => .bool (bs.any id)
  | .isT t, [d] => some (.bool (isTy t d))
  | _, _ => none
def rangeD (a b : Int) : Option (List D) :=
  if -1000000 ≤ a ∧ a ≤ 1000000 ∧ -1000000 ≤ b ∧ b ≤ 1000000 then some ((List.range (b - a).toNat).map fun k => .int (a + (k : Nat))) else none
def enumD (xs : List D) : List D := xs.zipIdx.map fun p => .tuple [.int (p.2 : Nat), p.1]
def zipD (xs ys : List D) : List D := (xs.zip ys).map fun p => .tuple [p.1, p.2]
def globD : Gc → D
  | .powers => .tuple [.int 1, .int 2, .int 4, .int 8, .int 16, .int 32, .int 64]
  | .most => .int 1000000000000

def clsName : Cls → Str
  | .count => "InvalidCount" | .form => "InvalidForm" | .assumptions => "InvalidAssumptions" | .measure => "InvalidMeasure" | .set => "InvalidSet" | .values => "InvalidValues"
  | .factor => "InvalidFactor" | .rows => "InvalidRows" | .number => "InvalidNumber" | .text => "InvalidText" | .unlike => "Unlike" | .tooLarge => "TooLarge" | .nothing => "NothingToUndo"
def errD (c : Cls) : D := .tuple [.str "error", .str (clsName c)]

/-- how many sources a row of that length has -/
def srcD : D → Option D
  | .int i => if i = 1 then some (.int 1) else if i = 3 then some (.int 2) else if i = 7 then some (.int 3) else if i = 15 then some (.int 4) else none
  | _ => none
/-! ### targets -/
/-- a value to its target -/
def asg : Tg → D → Env → Option Env
  | .name i, d, env => if i < env.length then some (env.set i (some (.val d))) else none
  | .pair a b, .tuple [x, y], env => (asg a x env).bind fun e => asg b y e
  | .trip a b c, .tuple [x, y, z], env => (asg a x env).bind fun e => (asg b y e).bind fun e => asg c z e
  | .quad a b c d, .tuple [x, y, z, w], env => (asg a x env).bind fun e => (asg b y e).bind fun e => (asg c z e).bind fun e => asg d w e
  | _, _, _ => none
def Tg.slots : Tg → List Nat
  | .name i => [i]
  | .pair a b => a.slots ++ b.slots
  | .trip a b c => a.slots ++ b.slots ++ c.slots
  | .quad a b c d => a.slots ++ b.slots ++ c.slots ++ d.slots
def wipeE (env : Env) : List Nat → Env
  | [] => env
  | v :: vs => (wipeE env vs).set v none
/-- behind a comprehension: its own names as they were (values alone) -/
def back (old : Env) (new : Env) : List Nat → Env
  | [] => new
  | v :: vs => (back old new vs).set v (match old[v]? with | some (some (.val d)) => some (.val d) | _ => none)

/-! ### the reading -/
/-- what a def makes of the lists it may change and of its other arguments -/
abbrev Sem := List (List D) → List D → Option (Except Cls (D × List (List D)))
abbrev Gam := Fn → Sem

def opt {α : Type} (o : Option α) (env : Env) : R α := o.map fun a => .ok a env
@[simp] theorem opt_some {α : Type} (a : α) (env : Env) : opt (some a) env = some (.ok a env) := rfl
@[simp] theorem opt_none {α : Type} (env : Env) : opt (none : Option α) env = none := rfl
def imm (o : Option D) (env : Env) : R TV := o.map fun d => .ok (.imm d) env
@[simp] theorem imm_some (d : D) (env : Env) : imm (some d) env = some (.ok (.imm d) env) := rfl
@[simp] theorem imm_none (env : Env) : imm none env = none := rfl
/-- for good: an owned list is given away -/
def frz (r : R TV) : R D := bnd r fun t env => match t with
  | .imm d => some (.ok d env)
  | .slot i => match env[i]? with
    | some (some (.own false xs)) => some (.ok (.list xs) (env.set i (some (.val (.list xs)))))
    | some (some (.val d)) => some (.ok d env)
    | _ => none
def owned (env : Env) : List Nat → Option (List (List D))
  | [] => some []
  | i :: is => match env[i]? with
    | some (some (.own _ xs)) => (owned env is).map (xs :: ·)
    | _ => none
/-- a list that is owned becomes another -/
def putOwn (env : Env) (i : Nat) (xs : List D) : Env := match env[i]? with
  | some (some (.own k _)) => env.set i (some (.own k xs))
  | _ => env
def giveBack (env : Env) : List Nat → List (List D) → Env
  | i :: is, xs :: r => giveBack (putOwn env i xs) is r
  | _, _ => env
def compL (step : D → Env → R (Option D)) : List D → Env → R (List D)
  | [], env => some (.ok [] env)
  | d :: ds, env => bnd (step d env) fun o env1 => bnd (compL step ds env1) fun r env2 => some (.ok (match o with | some x => x :: r | none => r) env2)
def noErr {α : Type} : R α → R α
  | some (.err _ _) => none
  | r => r
def bool? : D → Option Bool
  | .bool b => some b
  | _ => none
def truth? : D → Option Bool
  | .bool b => some b
  | .int i => some (decide (i ≠ 0))
  | _ => none

section
variable (G : Gam)
mutual
def ev : E → Env → R TV
  | .var i, env => match env[i]? with
    | some (some (.val d)) => some (.ok (.imm d) env)
    | some (some (.own _ _)) => some (.ok (.slot i) env)
    | _ => none
  | .int n, env => some (.ok (.imm (.int n)) env)
  | .bl b, env => some (.ok (.imm (.bool b)) env)
  | .non, env => some (.ok (.imm .none) env)
  | .str s, env => some (.ok (.imm (.str s)) env)
  | .glob g, env => some (.ok (.imm (globD g)) env)
  | .bin o a b, env => bnd (ev a env) fun ta env1 => bnd (ev b env1) fun tb env2 => imm ((rd env2 ta).bind fun x => (rd env2 tb).bind fun y => binD o x y) env2
  | .neg a, env => bnd (ev a env) fun ta env1 => imm ((rd env1 ta).bind fun x => match x with | .int i => some (.int (-i)) | _ => none) env1
  | .cmp o a b, env => bnd (ev a env) fun ta env1 => bnd (ev b env1) fun tb env2 => imm ((rd env2 ta).bind fun x => (rd env2 tb).bind fun y => (cmpD o x y).map .bool) env2
  | .isN a, env => bnd (ev a env) fun ta env1 => imm ((rd env1 ta).map fun x => .bool (isNone x)) env1
  | .notN a, env => bnd (ev a env) fun ta env1 => imm ((rd env1 ta).map fun x => .bool (!isNone x)) env1
  | .chain o p a b c, env => bnd (ev a env) fun ta env1 => bnd (ev b env1) fun tb env2 => bnd (opt ((rd env2 ta).bind fun x => (rd env2 tb).bind fun y => cmpD o x y) env2) fun k env3 =>
      if k then bnd (ev c env3) fun tc env4 => imm ((rd env4 tb).bind fun y => (rd env4 tc).bind fun z => (cmpD p y z).map .bool) env4 else some (.ok (.imm (.bool false)) env3)
  | .and_ a b, env => bnd (ev a env) fun ta env1 => bnd (opt ((rd env1 ta).bind bool?) env1) fun k env2 => if k then ev b env2 else some (.ok (.imm (.bool false)) env2)
  | .or_ a b, env => bnd (ev a env) fun ta env1 => bnd (opt ((rd env1 ta).bind bool?) env1) fun k env2 => if k then some (.ok (.imm (.bool true)) env2) else ev b env2
  | .not_ a, env => bnd (ev a env) fun ta env1 => imm ((rd env1 ta).bind fun x => (bool? x).map fun k => .bool (!k)) env1
  | .ife t a b, env => bnd (ev t env) fun tt env1 => bnd (opt ((rd env1 tt).bind bool?) env1) fun k env2 => if k then ev a env2 else ev b env2
  | .tup es, env => bnd (evs es env) fun ds env1 => imm (if ds.length ≤ lim then some (.tuple ds) else none) env1
  | .lst es, env => bnd (evs es env) fun ds env1 => imm (if ds.length ≤ lim then some (.list ds) else none) env1
  | .idx a i, env => bnd (ev a env) fun ta env1 => bnd (ev i env1) fun ti env2 => imm ((rd env2 ta).bind fun x => (rd env2 ti).bind fun y => idxD x y) env2
  | .sliceF a i, env => bnd (ev a env) fun ta env1 => bnd (ev i env1) fun ti env2 => imm ((rd env2 ta).bind fun x => (rd env2 ti).bind fun y => sliceFD x y) env2
  | .sliceT a i, env => bnd (ev a env) fun ta env1 => bnd (ev i env1) fun ti env2 => imm ((rd env2 ta).bind fun x => (rd env2 ti).bind fun y => sliceTD x y) env2
  | .rev a, env => bnd (ev a env) fun ta env1 => imm ((rd env1 ta).bind revD) env1
  | .call f rs es, env => if (owned env rs).isNone then none else bnd (evs es env) fun ds env1 => match (owned env1 rs).bind fun xs => G f xs ds with
    | some (.ok (d, ys)) => if ys.length = rs.length then some (.ok (.imm d) (giveBack env1 rs ys)) else none
    | some (.error c) => if rs.isEmpty then some (.err c env1) else none
    | none => none
  | .bi b es, env => bnd (evts es env) fun ts env1 => imm ((ts.mapM (rd env1)).bind fun ds => biD b ds) env1
  | .lrange a b, env => bnd (ev a env) fun ta env1 => bnd (ev b env1) fun tb env2 => imm ((rd env2 ta).bind fun x => (rd env2 tb).bind fun y => match x, y with | .int i, .int j => (rangeD i j).map .list | _, _ => none) env2
  | .comp e t it c, env => bnd (evIt it env) fun items env1 =>
      bnd (noErr (compL (fun d env => match asg t d (wipeE env t.slots) with
        | none => none
        | some env2 => bnd (evo c env2) fun k env3 => if k then bnd (frz (ev e env3)) fun x env4 => some (.ok (some x) env4) else some (.ok none env3)) items env1)) fun xs env2 => some (.ok (.imm (.list xs)) (back env1 env2 t.slots))
  | .told e, env => match frz (ev e env) with
    | some (.ok d env1) => some (.ok (.imm d) env1)
    | some (.err c env1) => some (.ok (.imm (errD c)) env1)
    | none => none
  | .srcs e, env => bnd (ev e env) fun t env1 => imm ((rd env1 t).bind srcD) env1
/-- for good, from the left -/
def evs : Es → Env → R (List D)
  | .nil, env => some (.ok [] env)
  | .cons e es, env => bnd (frz (ev e env)) fun d env1 => bnd (evs es env1) fun ds env2 => some (.ok (d :: ds) env2)
/-- in passing -/
def evts : Es → Env → R (List TV)
  | .nil, env => some (.ok [] env)
  | .cons e es, env => bnd (ev e env) fun d env1 => bnd (evts es env1) fun ds env2 => some (.ok (d :: ds) env2)
/-- a test that may be left out -/
def evo : Eo → Env → R Bool
  | .non, env => some (.ok true env)
  | .som e, env => bnd (ev e env) fun t env1 => opt ((rd env1 t).bind truth?) env1
/-- what is walked -/
def evIt : It → Env → R (List D)
  | .of e, env => bnd (frz (ev e env)) fun d env1 => opt (items? d) env1
  | .range1 e, env => bnd (ev e env) fun t env1 => opt ((rd env1 t).bind fun x => match x with | .int i => rangeD 0 i | _ => none) env1
  | .range2 a b, env => bnd (ev a env) fun ta env1 => bnd (ev b env1) fun tb env2 => opt ((rd env2 ta).bind fun x => (rd env2 tb).bind fun y => match x, y with | .int i, .int j => rangeD i j | _, _ => none) env2
  | .enum e, env => bnd (frz (ev e env)) fun d env1 => opt ((items? d).map enumD) env1
  | .zip a b, env => bnd (frz (ev a env)) fun x env1 => bnd (frz (ev b env1)) fun y env2 => opt ((items? x).bind fun xs => (items? y).map fun ys => zipD xs ys) env2
end
def evV (e : E) (env : Env) : R D := frz (ev G e env)
def evB (e : E) (env : Env) : R Bool := bnd (ev G e env) fun t env1 => opt ((rd env1 t).bind truth?) env1
end

/-- a new list, whatever it is made of -/
def fresh : E → Bool
  | .lst _ => true
  | .comp _ _ _ _ => true
  | .bin .add _ _ => true
  | .bin .mul _ _ => true
  | .bi .list _ => true
  | .lrange _ _ => true
  | .sliceF _ _ => true
  | .sliceT _ _ => true
  | _ => false
/-- a value to a slot: a new list is owned -/
def slotOf (f : Bool) (d : D) : Slot := match f, d with
  | true, .list xs => .own false xs
  | _, d => .val d

inductive SO where
  | next (env : Env)
  | ret (d : D) (env : Env)
  | brk (env : Env)
  | err (c : Cls) (env : Env)
def bndS {α : Type} (r : R α) (k : α → Env → Option SO) : Option SO :=
  match r with
  | some (.ok a env) => k a env
  | some (.err c env) => some (.err c env)
  | none => none
@[simp] theorem bndS_ok {α : Type} (a : α) (env : Env) (k : α → Env → Option SO) : bndS (some (.ok a env)) k = k a env := rfl
@[simp] theorem bndS_err {α : Type} (c : Cls) (env : Env) (k : α → Env → Option SO) : bndS (some (.err c env) : R α) k = some (.err c env) := rfl
@[simp] theorem bndS_none {α : Type} (k : α → Env → Option SO) : bndS (none : R α) k = none := rfl
def nextS (o : Option Env) : Option SO := o.map .next
@[simp] theorem nextS_some (e : Env) : nextS (some e) = some (.next e) := rfl
@[simp] theorem nextS_none : nextS none = none := rfl
def sets (env : Env) : List Nat → List Slot → Option Env
  | [], [] => some env
  | i :: is, s :: ss => if i < env.length then sets (env.set i (some s)) is ss else none
  | _, _ => none
def setAt (env : Env) (i : Nat) (s : Slot) : Option Env := if i < env.length then some (env.set i (some s)) else none
def putAt (env : Env) (i : Nat) (x d : D) : Option Env := match env[i]?, x with
  | some (some (.own b xs)), .int k => (place? xs.length k).map fun n => env.set i (some (.own b (xs.set n d)))
  | _, _ => none
def forL (step : D → Env → Option SO) : List D → Env → Option SO
  | [], env => some (.next env)
  | d :: ds, env => match step d env with
    | some (.next env1) => forL step ds env1
    | some (.brk env1) => some (.next env1)
    | r => r
def whileL (test : Env → R Bool) (step : Env → Option SO) : Nat → Env → Option SO
  | 0, _ => none
  | n + 1, env => bndS (test env) fun b env1 => if b then (match step env1 with
    | some (.next env2) => whileL test step n env2
    | some (.brk env2) => some (.next env2)
    | r => r) else some (.next env1)

/-- a name's number changed by an operator -/
def augD : Bop → D → D → Option D
  | .add, .int a, .int b => some (.int (a + b))
  | .sub, .int a, .int b => some (.int (a - b))
  | _, _, _ => none
def own? (env : Env) (i : Nat) : Bool := match env[i]? with
  | some (some (.own _ _)) => true
  | _ => false
def appD (env : Env) (i : Nat) (d : D) : Option Env := match env[i]? with
  | some (some (.own b xs)) => if xs.length < lim then some (env.set i (some (.own b (xs ++ [d])))) else none
  | _ => none
/-- an item of an owned list -/
def itemAt (env : Env) (i : Nat) (k : D) : Option D := match env[i]?, k with
  | some (some (.own _ xs)), .int j => if 0 ≤ j then xs[j.toNat]? else none
  | _, _ => none
section
variable (G : Gam)
/-- the values of a parallel assignment -/
def evp : Es → Env → R (List Slot)
  | .nil, env => some (.ok [] env)
  | .cons e es, env => bnd (frz (ev G e env)) fun d env1 => bnd (evp es env1) fun ds env2 => some (.ok (slotOf (fresh e) d :: ds) env2)
mutual
def ex (fuel : Nat) : S → Env → Option SO
  | .set i e, env => bndS (evV G e env) fun d env1 => nextS (setAt env1 i (slotOf (fresh e) d))
  | .par is es, env => bndS (evp G es env) fun ss env1 => nextS (sets env1 is ss)
  | .unp t e, env => bndS (evV G e env) fun d env1 => nextS (asg t d env1)
  | .aug i o e, env => match env[i]? with
    | some (some (.val x)) => bndS (ev G e env) fun t env1 => nextS ((rd env1 t).bind fun y => (augD o x y).bind fun z => setAt env1 i (.val z))
    | _ => none
  | .setI i x e, env => bndS (evV G e env) fun d env1 => if own? env1 i then bndS (ev G x env1) fun t env2 => nextS ((rd env2 t).bind fun k => putAt env2 i k d) else none
  | .augI i x e, env => if own? env i then bndS (ev G x env) fun t env1 => bndS (opt ((rd env1 t).bind fun k => (itemAt env1 i k).map fun o => (k, o)) env1) fun p env2 =>
      bndS (ev G e env2) fun t2 env3 => nextS ((rd env3 t2).bind fun y => (augD .add p.2 y).bind fun z => putAt env3 i p.1 z) else none
  | .par1 i x j e e', env => bndS (evV G e env) fun d env1 => bndS (evV G e' env1) fun d' env2 => if own? env2 i then bndS (ev G x env2) fun t env3 => nextS ((rd env3 t).bind fun k => (putAt env3 i k d).bind fun env4 => setAt env4 j (.val d')) else none
  | .app i e, env => if own? env i then bndS (evV G e env) fun d env1 => nextS (appD env1 i d) else none
  | .drop e, env => bndS (ev G e env) fun _ env1 => some (.next env1)
  | .if_ t a b, env => bndS (evB G t env) fun k env1 => if k then exs fuel a env1 else exs fuel b env1
  | .for_ t it b, env => bndS (evIt G it env) fun items env1 => forL (fun d env => match asg t d env with | none => none | some env2 => exs fuel b env2) items env1
  | .while_ t b, env => whileL (evB G t) (fun env => exs fuel b env) fuel env
  | .ret e, env => bndS (evV G e env) fun d env1 => some (.ret d env1)
  | .retN, env => some (.ret .none env)
  | .raise_ c, env => some (.err c env)
  | .brk, env => some (.brk env)
def exs (fuel : Nat) : List S → Env → Option SO
  | [], env => some (.next env)
  | s :: ss, env => match ex fuel s env with
    | some (.next env1) => exs fuel ss env1
    | r => r
end
end
end M
/-! The state that the small language's reading stands for. -/
namespace M
open PySem PySem.Spec PyProof.Rows L2
abbrev Frag := PySem.W.Frag

theorem SqT.mono {K : Frag} {H H' : Hp} {a : Addr} {xs : List V} (e : Same H H') (h : SqT K H a xs) : SqT K H' a xs := by
  rcases h with (h | ⟨o, h⟩) | h
  · exact .inl (.inl (e _ _ h))
  · exact .inl (.inr ⟨o, e _ _ h⟩)
  · exact .inr h
theorem SqL.mono {K : Frag} {H H' : Hp} {a : Addr} {xs : List V} (e : Same H H') (h : SqL K H a xs) : SqL K H' a xs := by
  rcases h with (h | ⟨o, h⟩) | h
  · exact .inl (.inl (e _ _ h))
  · exact .inl (.inr ⟨o, e _ _ h⟩)
  · exact .inr h
mutual
/-- a value stands for a datum: its lists are tracked ones -/
inductive Rp (K : Frag) (F : Hp) : V → PyData → Prop where
  | non : Rp K F .non .none
  | bl (b : Bool) : Rp K F (.bl b) (.bool b)
  | int (i : Int) : Rp K F (.int i) (.int i)
  | str (x : Str) : Rp K F (.str x) (.str x)
  | lst {a : Addr} {vs : List V} {ds : List PyData} (h : F a = some (.lst vs)) (t : RpAll K F vs ds) : Rp K F (.ref a) (.list ds)
  | tup {a : Addr} {vs : List V} {ds : List PyData} (h : SqT K F a vs) (t : RpAll K F vs ds) : Rp K F (.ref a) (.tuple ds)
  | hel {a : Addr} {ns : List Int} (h : SqL K F a (ns.map V.int)) : Rp K F (.ref a) (.dict (ns.map fun i => (.int i, .none)))
inductive RpAll (K : Frag) (F : Hp) : List V → List PyData → Prop where
  | nil : RpAll K F [] []
  | cons {v : V} {d : PyData} {vs : List V} {ds : List PyData} (h : Rp K F v d) (t : RpAll K F vs ds) : RpAll K F (v :: vs) (d :: ds)
end
mutual
theorem Rp.mono {K : Frag} {H H' : Hp} (e : Same H H') : ∀ {v : V} {d : PyData}, Rp K H v d → Rp K H' v d
  | _, _, .non => .non
  | _, _, .bl b => .bl b
  | _, _, .int i => .int i
  | _, _, .str x => .str x
  | _, _, .lst h t => .lst (e _ _ h) (RpAll.mono e t)
  | _, _, .tup h t => .tup (SqT.mono e h) (RpAll.mono e t)
  | _, _, .hel h => .hel (SqL.mono e h)
theorem RpAll.mono {K : Frag} {H H' : Hp} (e : Same H H') : ∀ {vs : List V} {ds : List PyData}, RpAll K H vs ds → RpAll K H' vs ds
  | _, _, .nil => .nil
  | _, _, .cons h t => .cons (Rp.mono e h) (RpAll.mono e t)
end
mutual
theorem Rp.data {K : Frag} {F : Hp} : ∀ {v : V} {d : PyData}, Rp K F v d → d.canLay0 = true → L2.Dp K F v d
  | _, _, .non, _ => .non
  | _, _, .bl b, _ => .bl b
  | _, _, .int i, _ => .int i
  | _, _, .str x, _ => .str x
  | _, _, .lst h t, c => .lst (SqL.of h) (RpAll.data t (by unfold PyData.canLay0 at c; exact c))
  | _, _, .tup h t, c => .tup h (RpAll.data t (by unfold PyData.canLay0 at c; exact c))
  | _, _, .hel h, c => by unfold PyData.canLay0 at c; cases c
theorem RpAll.data {K : Frag} {F : Hp} : ∀ {vs : List V} {ds : List PyData}, RpAll K F vs ds → PyData.canLayAll0 ds = true → L2.DpAll K F vs ds
  | _, _, .nil, _ => .nil
  | _, _, .cons h t, c => by
    unfold PyData.canLayAll0 at c
    rw [Bool.and_eq_true] at c
    exact .cons (Rp.data h c.1) (RpAll.data t c.2)
end
theorem RpAll.length {K : Frag} {H : Hp} : ∀ {vs : List V} {ds : List PyData}, RpAll K H vs ds → vs.length = ds.length
  | _, _, .nil => rfl
  | _, _, .cons _ t => by simp [RpAll.length t]
theorem RpAll.get {K : Frag} {H : Hp} : ∀ {vs : List V} {ds : List PyData} {i : Nat} {v : V}, RpAll K H vs ds → vs[i]? = some v → ∃ d, ds[i]? = some d ∧ Rp K H v d
  | _, _, _, _, .nil, h => by simp at h
  | _, _, 0, _, .cons r t, h => by simp at h; subst h; exact ⟨_, rfl, r⟩
  | _, _, i + 1, v, .cons r t, h => by
    obtain ⟨d, h1, h2⟩ := RpAll.get (i := i) (v := v) t (by simpa using h)
    exact ⟨d, by simpa using h1, h2⟩
theorem RpAll.get' {K : Frag} {H : Hp} : ∀ {vs : List V} {ds : List PyData} {i : Nat} {d : PyData}, RpAll K H vs ds → ds[i]? = some d → ∃ v, vs[i]? = some v ∧ Rp K H v d
  | _, _, _, _, .nil, h => by simp at h
  | _, _, 0, _, .cons r t, h => by simp at h; subst h; exact ⟨_, rfl, r⟩
  | _, _, i + 1, v, .cons r t, h => by
    obtain ⟨d, h1, h2⟩ := RpAll.get' (i := i) (d := v) t (by simpa using h)
    exact ⟨d, by simpa using h1, h2⟩
theorem RpAll.append {K : Frag} {H : Hp} : ∀ {vs ws : List V} {ds es : List PyData}, RpAll K H vs ds → RpAll K H ws es → RpAll K H (vs ++ ws) (ds ++ es)
  | _, _, _, _, .nil, s => s
  | _, _, _, _, .cons r t, s => .cons r (RpAll.append t s)
theorem RpAll.set {K : Frag} {H : Hp} {v : V} {d : PyData} (r : Rp K H v d) : ∀ {vs : List V} {ds : List PyData} (i : Nat), RpAll K H vs ds → RpAll K H (vs.set i v) (ds.set i d)
  | _, _, _, .nil => .nil
  | _, _, 0, .cons _ t => .cons r t
  | _, _, i + 1, .cons q t => .cons q (RpAll.set r i t)
theorem RpAll.take {K : Frag} {H : Hp} : ∀ {vs : List V} {ds : List PyData} (n : Nat), RpAll K H vs ds → RpAll K H (vs.take n) (ds.take n)
  | _, _, 0, _ => .nil
  | _, _, _ + 1, .nil => .nil
  | _, _, n + 1, .cons r t => .cons r (RpAll.take n t)
theorem RpAll.drop {K : Frag} {H : Hp} : ∀ {vs : List V} {ds : List PyData} (n : Nat), RpAll K H vs ds → RpAll K H (vs.drop n) (ds.drop n)
  | _, _, 0, r => r
  | _, _, _ + 1, .nil => .nil
  | _, _, n + 1, .cons _ t => RpAll.drop n t
theorem RpAll.reverse {K : Frag} {H : Hp} : ∀ {vs : List V} {ds : List PyData}, RpAll K H vs ds → RpAll K H vs.reverse ds.reverse
  | _, _, .nil => .nil
  | _, _, .cons r t => by
    rw [List.reverse_cons, List.reverse_cons]
    exact RpAll.append (RpAll.reverse t) (.cons r .nil)
theorem RpAll.rep {K : Frag} {H : Hp} {vs : List V} {ds : List PyData} (h : RpAll K H vs ds) : ∀ n : Nat, RpAll K H (List.replicate n vs).flatten (List.replicate n ds).flatten
  | 0 => .nil
  | n + 1 => by
    rw [List.replicate_succ, List.replicate_succ, List.flatten_cons, List.flatten_cons]
    exact RpAll.append h (RpAll.rep h n)

/-- no list or tuple is too long -/
def SzOk (H : Hp) : Prop := ∀ a xs, (Rd H a (.lst xs) ∨ Rd H a (.tup xs)) → xs.length ≤ sizeLine

/-- what a def's run goes by: the written part, the tables; the heap at the entry, what of it is frozen, the lists that may change -/
structure Ct where
  K : Frag
  T : List (Addr × Str)
  H0 : Hp
  F0 : Hp
  B : List Addr
  R : List Addr

def SlotAt (K : Frag) (F H : Hp) (σ : L2.St) (i : Nat) : Slot → Prop
  | .val d => ∃ v, σ[i]? = some (some v) ∧ Rp K F v d
  | .own _ xs => ∃ a vs, σ[i]? = some (some (.ref a)) ∧ F a = none ∧ H a = some (.lst vs) ∧ RpAll K F vs xs

structure Sok (c : Ct) (F H : Hp) (σ : L2.St) (env : M.Env) : Prop where
  sub : Same F H
  old : ∀ a o, c.H0 a = some o → a ∉ c.B → (∀ ps, o ≠ .tbl ps) → H a = some o
  live : ∀ a, c.H0 a ≠ none → H a ≠ none
  froz : ∀ a, c.H0 a ≠ none → a ∉ c.B → F a = c.F0 a
  nt : ∀ a ps, F a ≠ some (.tbl ps)
  tabs : LamX.Tabs c.T H
  sz : SzOk H
  len : env.length ≤ σ.length
  slot : ∀ (i : Nat) (s : Slot), env[i]? = some (some s) → SlotAt c.K F H σ i s
  apart : ∀ (i j : Nat) (k l : Bool) (xs ys : List D) (a : Addr), env[i]? = some (some (Slot.own k xs)) → env[j]? = some (some (Slot.own l ys)) → σ[i]? = some (some (V.ref a)) → σ[j]? = some (some (.ref a)) → i = j
  mine : ∀ (i : Nat) (k : Bool) (xs : List D) (a : Addr), env[i]? = some (some (.own k xs)) → σ[i]? = some (some (.ref a)) → a ∈ c.B ∨ c.H0 a = none
  lent : ∀ (i : Nat) (xs : List D) (a : Addr), env[i]? = some (some (.own true xs)) → σ[i]? = some (some (.ref a)) → c.R[i]? = some a

def RepT (K : Frag) (F : Hp) (σ : L2.St) (v : V) : TV → Prop
  | .imm d => Rp K F v d
  | .slot i => σ[i]? = some (some v)

/-- a value as it stands now: its items are frozen, it itself may be an owned list -/
inductive Dq (K : Frag) (F H : Hp) : V → D → Prop where
  | non : Dq K F H .non .none
  | bl (b : Bool) : Dq K F H (.bl b) (.bool b)
  | int (i : Int) : Dq K F H (.int i) (.int i)
  | str (x : Str) : Dq K F H (.str x) (.str x)
  | lst {a : Addr} {vs : List V} {ds : List D} (h : H a = some (.lst vs)) (t : RpAll K F vs ds) : Dq K F H (.ref a) (.list ds)
  | tup {a : Addr} {vs : List V} {ds : List D} (h : SqT K F a vs) (t : RpAll K F vs ds) : Dq K F H (.ref a) (.tuple ds)
  | hel {a : Addr} {ns : List Int} (h : SqL K H a (ns.map V.int)) : Dq K F H (.ref a) (.dict (ns.map fun i => (.int i, .none)))
theorem Dq.of {K : Frag} {F H : Hp} (e : Same F H) : ∀ {v : V} {d : D}, Rp K F v d → Dq K F H v d
  | _, _, .non => .non
  | _, _, .bl b => .bl b
  | _, _, .int i => .int i
  | _, _, .str x => .str x
  | _, _, .lst h t => .lst (e _ _ h) t
  | _, _, .tup h t => .tup h t
  | _, _, .hel h => .hel (SqL.mono e h)
theorem Dq.dp {K : Frag} {F H : Hp} (e : Same F H) {v : V} {d : D} (h : Dq K F H v d) : Rp K H v d := by
  cases h with
  | non => exact .non
  | bl b => exact .bl b
  | int i => exact .int i
  | str x => exact .str x
  | lst h t => exact .lst h (RpAll.mono e t)
  | tup h t => exact .tup (SqT.mono e h) (RpAll.mono e t)
  | hel h => exact .hel h
theorem Sok.rd {c : Ct} {F H : Hp} {σ : L2.St} {env : M.Env} (S : Sok c F H σ env) {v : V} {t : TV} {d : D} (r : RepT c.K F σ v t) (h : M.rd env t = some d) : Dq c.K F H v d := by
  cases t with
  | imm x => cases h; exact Dq.of S.sub r
  | slot i =>
    have r : σ[i]? = some (some v) := r
    have h : (match env[i]? with | some (some (Slot.own _ xs)) => some (PyData.list xs) | some (some (Slot.val d)) => some d | _ => none) = some d := h
    split at h
    · rename_i k xs e
      cases h
      obtain ⟨a, vs, h1, h2, h3, h4⟩ := S.slot i _ e
      rw [r] at h1
      cases h1
      exact .lst h3 h4
    · rename_i x e
      cases h
      obtain ⟨v', h1, h2⟩ := S.slot i _ e
      rw [r] at h1
      cases h1
      exact Dq.of S.sub h2
    · cases h
/-- frozen for good: what is read off a value that is imm, or whose slot holds a value -/
theorem same_upd {F : Hp} {p : Addr} {o : HO} (h : F p = none) : Same F (upd F p o) := fun b u e => by
  rw [upd_ne (ne_of_none e h)]
  exact e
theorem same_upd2 {F H : Hp} {p : Addr} {o : HO} (e : Same F H) : Same (upd F p o) (upd H p o) := fun b u q => by
  by_cases hb : b = p
  · subst hb; rw [upd_same] at q ⊢; exact q
  · rw [upd_ne hb] at q ⊢; exact e _ _ q
theorem SzOk.upd' {H : Hp} {p : Addr} {o : HO} (s : SzOk H) (h : ∀ xs, (o = .lst xs ∨ o = .tup xs ∨ ∃ u, o = .frz u (.lst xs) ∨ o = .frz u (.tup xs)) → xs.length ≤ sizeLine) : SzOk (upd H p o) := fun a xs r => by
  by_cases ha : a = p
  · subst ha
    refine h xs ?_
    rcases r with (r | ⟨u, r⟩) | (r | ⟨u, r⟩) <;> (rw [upd_same] at r; have r := Option.some.inj r)
    · exact .inl r
    · exact .inr (.inr ⟨u, .inl r⟩)
    · exact .inr (.inl r)
    · exact .inr (.inr ⟨u, .inr r⟩)
  · refine s a xs ?_
    rcases r with (r | ⟨u, r⟩) | (r | ⟨u, r⟩) <;> rw [upd_ne ha] at r
    · exact .inl (.inl r)
    · exact .inl (.inr ⟨u, r⟩)
    · exact .inr (.inl r)
    · exact .inr (.inr ⟨u, r⟩)
/-- a list's or tuple's size -/
theorem SzOk.lst' {H : Hp} {p : Addr} {vs : List V} (s : SzOk H) (h : vs.length ≤ sizeLine) : SzOk (upd H p (.lst vs)) := SzOk.upd' s fun xs r => by
  rcases r with r | r | ⟨u, r | r⟩ <;> cases r
  exact h
theorem SzOk.tup' {H : Hp} {p : Addr} {vs : List V} (s : SzOk H) (h : vs.length ≤ sizeLine) : SzOk (upd H p (.tup vs)) := SzOk.upd' s fun xs r => by
  rcases r with r | r | ⟨u, r | r⟩ <;> cases r
  exact h
theorem SzOk.sqL {K : Frag} {H : Hp} {a : Addr} {vs : List V} (s : SzOk H) (h : SqL K H a vs) : vs.length ≤ sizeLine := by
  rcases h with h | ⟨o, its, n, _, _, _, _, hz, r⟩
  · exact s a vs (.inl h)
  · have e := Vals.length r
    simp only [Array.length_toList] at e
    omega
theorem SzOk.sqT {K : Frag} {H : Hp} {a : Addr} {vs : List V} (s : SzOk H) (h : SqT K H a vs) : vs.length ≤ sizeLine := by
  rcases h with h | ⟨o, its, n, _, _, _, hz, r⟩
  · exact s a vs (.inr h)
  · have e := Vals.length r
    simp only [Array.length_toList] at e
    omega
theorem tabs_upd {T : List (Addr × Str)} {H : Hp} {p : Addr} {o : HO} (t : LamX.Tabs T H) (h : H p = none) : LamX.Tabs T (L2.upd H p o) := t.ext fun b u e => by
  rw [upd_ne (ne_of_none e h)]; exact e
/-- a list is changed: the tables are others -/
theorem tabs_updL {T : List (Addr × Str)} {H : Hp} {p : Addr} {o : HO} {xs : List V} (t : LamX.Tabs T H) (h : H p = some (.lst xs)) : LamX.Tabs T (L2.upd H p o) := fun q hq => by
  obtain ⟨ps, h1, h2, h3⟩ := t q hq
  refine ⟨ps, ?_, h2, fun pos cv hc => ?_⟩
  · rw [upd_ne (ne_of h1 h (by intro z; cases z))]; exact h1
  · obtain ⟨c, e1, e2⟩ := h3 pos cv hc
    refine ⟨c, e1, ?_⟩
    rw [upd_ne (ne_of e2 h (by intro z; unfold LamX.CodeO at z; cases z))]
    exact e2

/-- a new object; frozen or not -/
theorem SlotAt.mono {K : Frag} {F F' H H' : Hp} {σ : L2.St} {i : Nat} {s : Slot} (h : SlotAt K F H σ i s) (e : Same F F') (eo : ∀ a vs, σ[i]? = some (some (.ref a)) → F a = none → H a = some (.lst vs) → H' a = some (.lst vs) ∧ F' a = none) : SlotAt K F' H' σ i s := by
  cases s with
  | val d => obtain ⟨v, h1, h2⟩ := h; exact ⟨v, h1, Rp.mono e h2⟩
  | own k xs =>
    obtain ⟨a, vs, h1, h2, h3, h4⟩ := h
    obtain ⟨q1, q2⟩ := eo a vs h1 h2 h3
    exact ⟨a, vs, h1, q2, q1, RpAll.mono e h4⟩
theorem SlotAt.ne {K : Frag} {F H : Hp} {σ : L2.St} {i j : Nat} {s : Slot} {x : Option V} (h : SlotAt K F H σ j s) (ne : j ≠ i) : SlotAt K F H (σ.set i x) j s := by
  cases s with
  | val d => obtain ⟨v, h1, h2⟩ := h; exact ⟨v, by rw [List.getElem?_set_ne (Ne.symm ne)]; exact h1, h2⟩
  | own k xs => obtain ⟨a, vs, h1, h2⟩ := h; exact ⟨a, vs, by rw [List.getElem?_set_ne (Ne.symm ne)]; exact h1, h2⟩
theorem Sok.new {c : Ct} {F H : Hp} {σ : L2.St} {env : M.Env} (S : Sok c F H σ env) {p : Addr} {o : HO} (hp : H p = none) (ho : ∀ ps, o ≠ .tbl ps) (hz : SzOk (upd H p o)) : Sok c (upd F p o) (upd H p o) σ env := by
  have fp : F p = none := S.sub.free hp
  refine ⟨same_upd2 S.sub, fun a u e n t => ?_, fun a e => ?_, fun a e n => ?_, fun a ps e => ?_, tabs_upd S.tabs hp, hz, S.len, fun i s e => ?_, S.apart, S.mine, S.lent⟩
  · rw [upd_ne (ne_of_none (S.old a u e n t) hp)]; exact S.old a u e n t
  · by_cases ha : a = p
    · rw [ha, upd_same]; simp
    · rw [upd_ne ha]; exact S.live a e
  · have ha : a ≠ p := fun z => S.live a e (by rw [z]; exact hp)
    rw [upd_ne ha]; exact S.froz a e n
  · by_cases ha : a = p
    · rw [ha, upd_same] at e; exact ho ps (Option.some.inj e)
    · rw [upd_ne ha] at e; exact S.nt a ps e
  · exact (S.slot i s e).mono (same_upd fp) fun a vs _ f h => by
      have ne : a ≠ p := ne_of_none h hp
      rw [upd_ne ne, upd_ne ne]; exact ⟨h, f⟩
/-- .. not frozen -/
theorem Sok.newU {c : Ct} {F H : Hp} {σ : L2.St} {env : M.Env} (S : Sok c F H σ env) {p : Addr} {o : HO} (hp : H p = none) (hz : SzOk (upd H p o)) : Sok c F (upd H p o) σ env := by
  refine ⟨S.sub.trans (same_upd hp), fun a u e n t => ?_, fun a e => ?_, S.froz, S.nt, tabs_upd S.tabs hp, hz, S.len, fun i s e => ?_, S.apart, S.mine, S.lent⟩
  · rw [upd_ne (ne_of_none (S.old a u e n t) hp)]; exact S.old a u e n t
  · by_cases ha : a = p
    · rw [ha, upd_same]; simp
    · rw [upd_ne ha]; exact S.live a e
  · exact (S.slot i s e).mono (Same.refl _) fun a vs _ f h => by
      have ne : a ≠ p := ne_of_none h hp
      rw [upd_ne ne]; exact ⟨h, f⟩
/-- another heap that keeps all but tables -/
theorem Sok.ext {c : Ct} {F H H' : Hp} {σ : L2.St} {env : M.Env} (S : Sok c F H σ env) (e : LamX.ExtN H H') (el : ∀ a, H a ≠ none → H' a ≠ none) (t : LamX.Tabs c.T H') (hz : SzOk H') : Sok c F H' σ env := by
  refine ⟨fun b o q => e b o (S.sub b o q) fun ps z => S.nt b ps (by rw [q, z]), fun a u h n t => e _ _ (S.old a u h n t) t, fun a h => el a (S.live a h), S.froz, S.nt, t, hz, S.len, fun i s q => ?_, S.apart, S.mine, S.lent⟩
  exact (S.slot i s q).mono (Same.refl _) fun a vs _ f h => ⟨e _ _ h (fun ps z => by cases z), f⟩
/-- what an owned list's address may not be -/
theorem Sok.own_ne {c : Ct} {F H : Hp} {σ : L2.St} {env : M.Env} (S : Sok c F H σ env) {i : Nat} {k : Bool} {xs : List D} {a p : Addr} (e : env[i]? = some (some (.own k xs))) (s : σ[i]? = some (some (.ref a))) (hp : H p = none) : a ≠ p := by
  obtain ⟨a', vs, h1, h2, h3, h4⟩ := S.slot i _ e
  rw [s] at h1; cases h1
  exact ne_of_none h3 hp

theorem get_set {α : Type} {l : List α} {i j : Nat} {x y : α} (h : (l.set i x)[j]? = some y) : (j = i ∧ y = x ∧ i < l.length) ∨ (j ≠ i ∧ l[j]? = some y) := by
  by_cases hj : j = i
  · subst hj
    by_cases hl : j < l.length
    · rw [List.getElem?_set_self hl] at h
      exact .inl ⟨rfl, (Option.some.inj h).symm, hl⟩
    · rw [List.getElem?_eq_none (by simpa using hl)] at h; cases h
  · rw [List.getElem?_set_ne (Ne.symm hj)] at h
    exact .inr ⟨hj, h⟩
/-- a slot is given a frozen value -/
theorem Sok.setVal {c : Ct} {F H : Hp} {σ : L2.St} {env : M.Env} (S : Sok c F H σ env) {i : Nat} {v : V} {d : D} (hi : i < env.length) (r : Rp c.K F v d) : Sok c F H (σ.set i (some v)) (env.set i (some (.val d))) := by
  have hσ : i < σ.length := Nat.lt_of_lt_of_le hi S.len
  have noown : ∀ {j : Nat} {k : Bool} {xs : List D}, (env.set i (some (Slot.val d)))[j]? = some (some (Slot.own k xs)) → j ≠ i ∧ env[j]? = some (some (Slot.own k xs)) := fun {j k xs} e => by
    rcases get_set e with ⟨_, q, _⟩ | q
    · cases q
    · exact q
  refine ⟨S.sub, S.old, S.live, S.froz, S.nt, S.tabs, S.sz, by simpa using S.len, fun j s e => ?_, fun j l k k' xs ys a e1 e2 s1 s2 => ?_, fun j k xs a e s => ?_, fun j xs a e s => ?_⟩
  · rcases get_set e with ⟨rfl, q, _⟩ | ⟨ne, q⟩
    · cases q
      exact ⟨v, by rw [List.getElem?_set_self hσ], r⟩
    · exact (S.slot j s q).ne ne
  · obtain ⟨n1, q1⟩ := noown e1
    obtain ⟨n2, q2⟩ := noown e2
    rw [List.getElem?_set_ne (Ne.symm n1)] at s1
    rw [List.getElem?_set_ne (Ne.symm n2)] at s2
    exact S.apart j l k k' xs ys a q1 q2 s1 s2
  · obtain ⟨n1, q1⟩ := noown e
    rw [List.getElem?_set_ne (Ne.symm n1)] at s
    exact S.mine j k xs a q1 s
  · obtain ⟨n1, q1⟩ := noown e
    rw [List.getElem?_set_ne (Ne.symm n1)] at s
    exact S.lent j xs a q1 s
/-- a slot is forgotten -/
theorem Sok.forget {c : Ct} {F H : Hp} {σ : L2.St} {env : M.Env} (S : Sok c F H σ env) (i : Nat) : Sok c F H σ (env.set i none) := by
  have keep : ∀ {j : Nat} {s : Slot}, (env.set i none)[j]? = some (some s) → env[j]? = some (some s) := fun {j s} e => by
    rcases get_set e with ⟨_, q, _⟩ | q
    · cases q
    · exact q.2
  exact ⟨S.sub, S.old, S.live, S.froz, S.nt, S.tabs, S.sz, by simpa using S.len, fun j s e => S.slot j s (keep e), fun j l k k' xs ys a e1 e2 s1 s2 => S.apart j l k k' xs ys a (keep e1) (keep e2) s1 s2, fun j k xs a e s => S.mine j k xs a (keep e) s, fun j xs a e s => S.lent j xs a (keep e) s⟩
/-- the slots of the frame forgotten where the environment says nothing -/
theorem Sok.forgetσ {c : Ct} {F H : Hp} {σ : L2.St} {env : M.Env} (S : Sok c F H σ env) {i : Nat} {x : Option V} (h : ∀ s, env[i]? ≠ some (some s)) : Sok c F H (σ.set i x) env := by
  have ne : ∀ {j : Nat} {s : Slot}, env[j]? = some (some s) → j ≠ i := fun {j s} e z => h s (z ▸ e)
  refine ⟨S.sub, S.old, S.live, S.froz, S.nt, S.tabs, S.sz, by simpa using S.len, fun j s e => (S.slot j s e).ne (ne e), fun j l k k' xs ys a e1 e2 s1 s2 => ?_, fun j k xs a e s => ?_, fun j xs a e s => ?_⟩
  · rw [List.getElem?_set_ne (Ne.symm (ne e1))] at s1
    rw [List.getElem?_set_ne (Ne.symm (ne e2))] at s2
    exact S.apart j l k k' xs ys a e1 e2 s1 s2
  · rw [List.getElem?_set_ne (Ne.symm (ne e))] at s
    exact S.mine j k xs a e s
  · rw [List.getElem?_set_ne (Ne.symm (ne e))] at s
    exact S.lent j xs a e s
/-- a slot is given a list of its own -/
theorem Sok.setOwn {c : Ct} {F H : Hp} {σ : L2.St} {env : M.Env} (S : Sok c F H σ env) {i : Nat} {a : Addr} {vs : List V} {xs : List D} (hi : i < env.length) (f : F a = none) (h : H a = some (.lst vs)) (r : RpAll c.K F vs xs)
    (hm : a ∈ c.B ∨ c.H0 a = none) (ha : ∀ (j : Nat) (k : Bool) (ys : List D), j ≠ i → env[j]? = some (some (.own k ys)) → σ[j]? ≠ some (some (.ref a))) : Sok c F H (σ.set i (some (.ref a))) (env.set i (some (.own false xs))) := by
  have hσ : i < σ.length := Nat.lt_of_lt_of_le hi S.len
  refine ⟨S.sub, S.old, S.live, S.froz, S.nt, S.tabs, S.sz, by simpa using S.len, fun j s e => ?_, fun j l k k' ys zs b e1 e2 s1 s2 => ?_, fun j k ys b e s => ?_, fun j ys b e s => ?_⟩
  · rcases get_set e with ⟨rfl, q, _⟩ | ⟨ne, q⟩
    · cases q
      exact ⟨a, vs, by rw [List.getElem?_set_self hσ], f, h, r⟩
    · exact (S.slot j s q).ne ne
  · rcases get_set e1 with ⟨rfl, q1, _⟩ | ⟨n1, q1⟩
    · rcases get_set e2 with ⟨rfl, q2, _⟩ | ⟨n2, q2⟩
      · rfl
      · rw [List.getElem?_set_self hσ] at s1
        cases s1
        rw [List.getElem?_set_ne (Ne.symm n2)] at s2
        exact absurd s2 (ha l k' zs n2 q2)
    · rw [List.getElem?_set_ne (Ne.symm n1)] at s1
      rcases get_set e2 with ⟨rfl, q2, _⟩ | ⟨n2, q2⟩
      · rw [List.getElem?_set_self hσ] at s2
        cases s2
        exact absurd s1 (ha j k ys n1 q1)
      · rw [List.getElem?_set_ne (Ne.symm n2)] at s2
        exact S.apart j l k k' ys zs b q1 q2 s1 s2
  · rcases get_set e with ⟨rfl, q, _⟩ | ⟨ne, q⟩
    · rw [List.getElem?_set_self hσ] at s
      cases s
      exact hm
    · rw [List.getElem?_set_ne (Ne.symm ne)] at s
      exact S.mine j k ys b q s
  · rcases get_set e with ⟨rfl, q, _⟩ | ⟨ne, q⟩
    · cases q
    · rw [List.getElem?_set_ne (Ne.symm ne)] at s
      exact S.lent j ys b q s
/-- an owned list is changed -/
theorem Sok.put {c : Ct} {F H : Hp} {σ : L2.St} {env : M.Env} (S : Sok c F H σ env) {i : Nat} {k : Bool} {xs ys : List D} {a : Addr} {ws : List V} (e : env[i]? = some (some (.own k xs))) (s : σ[i]? = some (some (.ref a))) (r : RpAll c.K F ws ys) (hz : ws.length ≤ sizeLine) :
    Sok c F (upd H a (.lst ws)) σ (env.set i (some (.own k ys))) := by
  obtain ⟨a', vs', h1, h2, h3, h4⟩ := S.slot i _ e
  rw [s] at h1; cases h1
  have m := S.mine i k xs a e s
  have own : ∀ {j : Nat} {l : Bool} {zs : List D}, (env.set i (some (Slot.own k ys)))[j]? = some (some (Slot.own l zs)) → ∃ zs' : List D, env[j]? = some (some (Slot.own l zs')) := fun {j l zs} q => by
    rcases get_set q with ⟨rfl, q, _⟩ | ⟨_, q⟩
    · cases q; exact ⟨xs, e⟩
    · exact ⟨zs, q⟩
  refine ⟨fun b o q => ?_, fun b o q n t => ?_, fun b q => ?_, S.froz, S.nt, tabs_updL S.tabs h3, SzOk.lst' S.sz hz, by simpa using S.len, fun j s' q => ?_, fun j l u u' zs ws b e1 e2 s1 s2 => ?_, fun j u zs b q sb => ?_, fun j zs b q sb => ?_⟩
  · have ne : b ≠ a := ne_of_none q h2
    rw [upd_ne ne]; exact S.sub b o q
  · have ne : b ≠ a := fun z => by
      subst z
      rcases m with m | m
      · exact n m
      · rw [m] at q; cases q
    rw [upd_ne ne]; exact S.old b o q n t
  · by_cases hb : b = a
    · rw [hb, upd_same]; simp
    · rw [upd_ne hb]; exact S.live b q
  · rcases get_set q with ⟨rfl, q, _⟩ | ⟨ne, q⟩
    · cases q
      exact ⟨a, ws, s, h2, upd_same, r⟩
    · have z := S.slot j s' q
      cases s' with
      | val d' => exact z
      | own l zs =>
        obtain ⟨b, us, q1, q2, q3, q4⟩ := z
        have nb : b ≠ a := fun w => by
          subst w
          exact ne (S.apart j i l k zs xs b q e q1 s)
        exact ⟨b, us, q1, q2, by rw [upd_ne nb]; exact q3, q4⟩
  · obtain ⟨_, q1⟩ := own e1
    obtain ⟨_, q2⟩ := own e2
    exact S.apart j l _ _ _ _ b q1 q2 s1 s2
  · obtain ⟨_, q1⟩ := own q
    exact S.mine j _ _ b q1 sb
  · obtain ⟨_, q1⟩ := own q
    exact S.lent j _ b q1 sb
/-- an owned list is given away: from now on it is frozen -/
theorem Sok.freeze {c : Ct} {F H : Hp} {σ : L2.St} {env : M.Env} (S : Sok c F H σ env) {i : Nat} {k : Bool} {xs : List D} {a : Addr} {vs : List V} (e : env[i]? = some (some (.own k xs))) (s : σ[i]? = some (some (.ref a))) (h : H a = some (.lst vs)) :
    Sok c (upd F a (.lst vs)) H σ (env.set i (some (.val (.list xs)))) ∧ Same F (upd F a (.lst vs)) ∧ Rp c.K (upd F a (.lst vs)) (.ref a) (.list xs) := by
  obtain ⟨a', vs', h1, h2, h3, h4⟩ := S.slot i _ e
  rw [s] at h1; cases h1
  rw [h] at h3; cases h3
  have sm : Same F (upd F a (.lst vs)) := same_upd h2
  have dp : Rp c.K (upd F a (.lst vs)) (.ref a) (.list xs) := .lst upd_same (RpAll.mono sm h4)
  have own : ∀ {j : Nat} {l : Bool} {zs : List D}, (env.set i (some (Slot.val (.list xs))))[j]? = some (some (Slot.own l zs)) → j ≠ i ∧ env[j]? = some (some (Slot.own l zs)) := fun {j l zs} q => by
    rcases get_set q with ⟨rfl, q, _⟩ | q
    · cases q
    · exact q
  refine ⟨⟨fun b o q => ?_, S.old, S.live, fun b q n => ?_, fun b ps q => ?_, S.tabs, S.sz, by simpa using S.len, fun j s' q => ?_, fun j l u u' zs ws b e1 e2 s1 s2 => ?_, fun j u zs b q sb => ?_, fun j zs b q sb => ?_⟩, sm, dp⟩
  · by_cases hb : b = a
    · subst hb; rw [upd_same] at q; cases q; exact h
    · rw [upd_ne hb] at q; exact S.sub b o q
  · have ne : b ≠ a := fun z => by
      subst z
      rcases S.mine i k xs b e s with m | m
      · exact n m
      · exact q m
    rw [upd_ne ne]; exact S.froz b q n
  · by_cases hb : b = a
    · subst hb; rw [upd_same] at q; cases q
    · rw [upd_ne hb] at q; exact S.nt b ps q
  · rcases get_set q with ⟨rfl, q, _⟩ | ⟨ne, q⟩
    · cases q
      exact ⟨_, s, dp⟩
    · have z := S.slot j s' q
      cases s' with
      | val d' => obtain ⟨v, z1, z2⟩ := z; exact ⟨v, z1, Rp.mono sm z2⟩
      | own l zs =>
        obtain ⟨b, us, q1, q2, q3, q4⟩ := z
        have nb : b ≠ a := fun w => by
          subst w
          exact ne (S.apart j i l k zs xs b q e q1 s)
        exact ⟨b, us, q1, by rw [upd_ne nb]; exact q2, q3, RpAll.mono sm q4⟩
  · exact S.apart j l _ _ _ _ b (own e1).2 (own e2).2 s1 s2
  · exact S.mine j _ _ b (own q).2 sb
  · exact S.lent j _ b (own q).2 sb

/-! ### another point of view: all that stands now is old -/
def owns (σ : L2.St) (env : M.Env) : List Addr := (List.range env.length).filterMap fun i => match env[i]?, σ[i]? with
  | some (some (Slot.own _ _)), some (some (V.ref a)) => some a
  | _, _ => none
theorem mem_owns {σ : L2.St} {env : M.Env} {a : Addr} : a ∈ owns σ env ↔ ∃ (i : Nat) (k : Bool) (xs : List D), env[i]? = some (some (.own k xs)) ∧ σ[i]? = some (some (.ref a)) := by
  unfold owns
  rw [List.mem_filterMap]
  constructor
  · rintro ⟨i, _, h⟩
    split at h
    · rename_i k xs b e1 e2
      cases h
      exact ⟨i, k, xs, e1, e2⟩
    · cases h
  · rintro ⟨i, k, xs, e1, e2⟩
    exact ⟨i, List.mem_range.mpr (List.getElem?_eq_some_iff.mp e1).1, by rw [e1, e2]⟩
def Ct.now (c : Ct) (F H : Hp) (σ : L2.St) (env : M.Env) : Ct := { c with H0 := H, F0 := F, B := owns σ env }
theorem Sok.now {c : Ct} {F H : Hp} {σ : L2.St} {env : M.Env} (S : Sok c F H σ env) : Sok (c.now F H σ env) F H σ env :=
  ⟨S.sub, fun _ _ e _ _ => e, fun _ e => e, fun _ _ _ => rfl, S.nt, S.tabs, S.sz, S.len, S.slot, S.apart, fun i k xs a e s => .inl (mem_owns.mpr ⟨i, k, xs, e, s⟩), S.lent⟩
theorem Sok.back {c : Ct} {F H F' H' : Hp} {σ σ' : L2.St} {env env' : M.Env} (S : Sok c F H σ env) (S' : Sok (c.now F H σ env) F' H' σ' env') : Sok c F' H' σ' env' := by
  have nB : ∀ a, c.H0 a ≠ none → a ∉ c.B → a ∉ owns σ env := fun a h n m => by
    obtain ⟨i, k, xs, e, s⟩ := mem_owns.mp m
    rcases S.mine i k xs a e s with z | z
    · exact n z
    · exact h z
  refine ⟨S'.sub, fun a o e n t => S'.old a o (S.old a o e n t) (nB a (by rw [e]; simp) n) t, fun a e => S'.live a (S.live a e), fun a e n => ?_, S'.nt, S'.tabs, S'.sz, S'.len, S'.slot, S'.apart, fun i k xs a e s => ?_, S'.lent⟩
  · rw [S'.froz a (S.live a e) (nB a e n)]
    exact S.froz a e n
  · rcases S'.mine i k xs a e s with z | z
    · obtain ⟨i, k, xs, e, s⟩ := mem_owns.mp z
      exact S.mine i k xs a e s
    · refine .inr ?_
      cases q : c.H0 a with
      | none => rfl
      | some o => exact absurd z (S.live a (by rw [q]; simp))
end M
/-! The operations on values, over data. -/
namespace M
open PySem PySem.Spec PyProof.Rows L2

/-- what is wanted of a result: a new list; a tuple, new or not; any other value -/
def RsF (K : Frag) (F H : Hp) (d : D) (Q : VK) : Prop := match d with
  | .list xs => ∀ vs, RpAll K F vs xs → vs.length ≤ sizeLine → ∀ p, H p = none → Q (.ref p) (upd H p (.lst vs))
  | .tuple xs => (∀ v, Rp K F v (.tuple xs) → Q v H) ∧ ∀ vs, RpAll K F vs xs → vs.length ≤ sizeLine → ∀ p, H p = none → Q (.ref p) (upd H p (.tup vs))
  | d => ∀ v, Rp K F v d → Q v H

def pyB : Bop → Operator
  | .add => .Add | .sub => .Sub | .mul => .Mult | .fdiv => .FloorDiv | .mod => .Mod | .band => .BitAnd | .bor => .BitOr | .pow => .Pow
def rBin (K : Frag) (o : Bop) : R2 := fun x y H Q => ∃ F dx dy dz, Same F H ∧ Dq K F H x dx ∧ Dq K F H y dy ∧ SzOk H ∧ binD o dx dy = some dz ∧ RsF K F H dz Q
section
variable {X : Cx}
theorem fits_lt {k : Nat} {i : Int} (h : fits k i = true) : i.natAbs < 2 ^ k := of_decide_eq_true h
theorem lim_eq : lim = sizeLine := by rw [sizeLine_eq]; rfl
theorem fits64 {i : Int} (h : fits 64 i = true) : -(2 ^ 64) < i ∧ i < 2 ^ 64 := by
  have h := fits_lt h
  have e : ((2 ^ 64 : Nat) : Int) = 2 ^ 64 := by decide
  omega
/-- a tuple once -/
def rRepT1 (K : Frag) : R2 := fun x y H Q => ∃ l xs, x = .ref l ∧ y = .int 1 ∧ SqT K H l xs ∧ Q (.ref l) H
theorem tuple_mul1 (l : Addr) (items : Array Value) (n : Nat) (dd : Option Addr) (sl : Array (Option Value)) (u : Tok) :
    Meets (Builtin.«tuple.__mul__» ⟨[.ref l, .int 1 u], []⟩) (fun _ R s => s.heap.get? l = some { cls := .type "tuple", dict := dd, data := .seq items n, slots := sl } ∧ R (.ok (.ret (Value.ref l))) s) :=
  .of_wp fun prog w A R s h => by
    obtain ⟨hp, g, d, tk, os⟩ := s
    obtain ⟨hl, h⟩ := h
    have f1 := AutoSeq1.idx_int
    wp_walk using wpAny_loadPart' hl
    repeat (first
      | (refine wpAny_ite_false (decide_eq_false (by decide)) ?_; wp_walk using wpAny_loadPart' hl)
      | (refine wpAny_ite_true (decide_eq_true (by simp)) ?_; wp_walk using wpAny_loadPart' hl))
    exact ⟨_, rfl, h⟩
theorem op_repT1 : OpR X (binaryOp .Mult) (rRepT1 X.K) := by
  intro pins s σ H x y v u Q I rx ry h
  obtain ⟨l, xs, rfl, rfl, hT, q⟩ := h
  cases rx
  obtain ⟨t, rfl⟩ := ry
  obtain ⟨its, r, ⟨⟨cls, dd, data, sl⟩, ho, hc, n, hd⟩, hs⟩ := I.tuple hT
  simp only at hc hd
  subst hc hd
  refine wpAny_binaryOp_repeat_ref (T := "tuple") (U := "int") (by decide) ⟨_, ho, rfl⟩ (fun s' => typeIs_int s' 1 t) noFill_tuple_mul F.fills_int_mul F.slot_int_rmul repeat_tuple F.slot_int_index.lookup
    (call_meets F.slot_int_rmul (typeIs_int s 1 t) F.entry_int_rmul (F.args_int_rmul_2 _ _) (int_rmul_tuple 1 t l its.toArray n dd sl)
      ⟨ho, rfl, ⟨_, ho, rfl⟩, call_meets F.slot_tuple_mul ⟨_, ho, rfl⟩ F.entry_tuple_mul (F.args_tuple_mul_2 _ _) (tuple_mul1 l its.toArray n dd sl t) ⟨ho, ?_⟩⟩)
  exact ⟨.ref l, H, I, rfl, q⟩
/-- an int times a truth value -/
theorem op_mul_ib : OpR X (binaryOp .Mult) (fun x y H Q => ∃ i k, x = .int i ∧ y = .bl k ∧ Q (.int (if k = true then i else 0)) H) := by
  intro pins s σ H x y v u Q I rx ry h
  obtain ⟨i, k, rfl, rfl, q⟩ := h
  obtain ⟨t, rfl⟩ := rx
  cases ry
  have e : (if k = true then i else 0) = i * if k = true then (1 : Int) else 0 := by cases k <;> simp
  exact IntBool.mul_int_bool ⟨.int (i * if k = true then (1 : Int) else 0), H, I.tok _, ⟨_, rfl⟩, e ▸ q⟩
theorem flat_len {α : Type} (l : List α) (n : Nat) : (List.replicate n l).flatten.length = n * l.length := by
  induction n with
  | zero => simp
  | succ n ih => rw [List.replicate_succ, List.flatten_cons, List.length_append, ih, Nat.succ_mul, Nat.add_comm]
theorem op_bin (o : Bop) : OpR X (binaryOp (pyB o)) (rBin X.K o) := by
  intro pins s σ H x y v u Q I rx ry h
  obtain ⟨F, dx, dy, dz, sub, qx, qy, hz, hb, hQ⟩ := h
  unfold binD at hb
  split at hb
  · cases hb; cases qx; cases qy
    exact op_add pins s σ H _ _ v u Q I rx ry ⟨_, _, rfl, rfl, hQ _ (.int _)⟩
  · cases qx with | lst h1 t1 => cases qy with | lst h2 t2 =>
    rename_i xs ys a vs b ws
    split at hb
    · rename_i hl; cases hb
      have e : vs.length + ws.length ≤ sizeLine := by rw [← RpAll.length t1, ← RpAll.length t2, lim_eq] at hl; exact hl
      exact op_cat pins s σ H _ _ v u Q I rx ry ⟨_, _, _, _, rfl, rfl, h1, h2, e, fun p hp => hQ _ (RpAll.append t1 t2) (by rw [List.length_append]; exact e) p hp⟩
    · cases hb
  · cases qx with | tup h1 t1 => cases qy with | tup h2 t2 =>
    rename_i xs ys a vs b ws
    split at hb
    · rename_i hl; cases hb
      have e : vs.length + ws.length ≤ sizeLine := by rw [← RpAll.length t1, ← RpAll.length t2, lim_eq] at hl; exact hl
      refine op_catA pins s σ H _ _ v u Q I rx ry ⟨_, _, _, _, rfl, rfl, SqT.mono sub h1, SqT.mono sub h2, e, fun z => ?_, fun _ z => ?_, fun _ _ p hp => hQ.2 _ (RpAll.append t1 t2) (by rw [List.length_append]; exact e) p hp⟩
      · subst z; cases t1
        exact hQ.1 _ (.tup h2 t2)
      · subst z; cases t2
        rw [List.append_nil] at hQ
        exact hQ.1 _ (.tup h1 t1)
    · cases hb
  · cases qx; cases qy
    split at hb
    · rename_i hl; cases hb
      rw [lim_eq] at hl
      exact op_add_str pins s σ H _ _ v u Q I rx ry ⟨_, _, rfl, rfl, hl, hQ _ (.str _)⟩
    · cases hb
  · cases hb; cases qx; cases qy
    exact op_sub pins s σ H _ _ v u Q I rx ry ⟨_, _, rfl, rfl, hQ _ (.int _)⟩
  · cases qx; cases qy
    rename_i i j
    split at hb
    · rename_i hl; cases hb
      simp only [mulOk, Bool.or_eq_true, Bool.and_eq_true] at hl
      rcases hl with (hl | hl) | ⟨hl1, hl2⟩
      · exact op_mul pins s σ H _ _ v u Q I rx ry ⟨_, _, rfl, rfl, .inl (fits64 hl), hQ _ (.int _)⟩
      · exact op_mul pins s σ H _ _ v u Q I rx ry ⟨_, _, rfl, rfl, .inr (fits64 hl), hQ _ (.int _)⟩
      · exact op_mulW pins s σ H _ _ v u Q I rx ry ⟨_, _, rfl, rfl, wide_mul (fits_lt hl1) (fits_lt hl2) (by decide) (by decide) (by decide), hQ _ (.int _)⟩
    · cases hb
  · cases hb; cases qx; cases qy
    exact op_mul_ib pins s σ H _ _ v u Q I rx ry ⟨_, _, rfl, rfl, hQ _ (.int _)⟩
  · cases qx with | lst h1 t1 => cases qy with | int _ =>
    rename_i xs k a vs
    split at hb
    · rename_i hl; cases hb
      obtain ⟨l1, l2, l3⟩ := hl
      have lv : vs.length ≤ 1000 := by rw [RpAll.length t1]; exact l3
      have m : vs.length * k.toNat ≤ 1000 * 1000 := Nat.mul_le_mul lv (by omega)
      have e : vs.length * k.toNat ≤ sizeLine := by rw [sizeLine_eq]; omega
      exact op_rep pins s σ H _ _ v u Q I rx ry ⟨_, _, _, rfl, rfl, h1, by omega, by omega, e, fun p hp => hQ _ (RpAll.rep t1 _) (by rw [flat_len, Nat.mul_comm]; exact e) p hp⟩
    · cases hb
  · cases qx with | tup h1 t1 => cases qy with | int _ =>
    rename_i xs k a vs
    split at hb
    · rename_i hl; cases hb
      obtain ⟨l1, l2, l3, l4⟩ := hl
      have lv : vs.length ≤ 1000 := by rw [RpAll.length t1]; exact l3
      have m : vs.length * k.toNat ≤ 1000 * 1000 := Nat.mul_le_mul lv (by omega)
      have e : vs.length * k.toNat ≤ sizeLine := by rw [sizeLine_eq]; omega
      by_cases k1 : k = 1
      · subst k1
        have e1 : (List.replicate (1 : Int).toNat xs).flatten = xs := by simp [List.replicate]
        rw [e1] at hQ
        exact op_repT1 pins s σ H _ _ v u Q I rx ry ⟨_, _, rfl, rfl, SqT.mono sub h1, hQ.1 _ (.tup h1 t1)⟩
      · have ne : vs ≠ [] := fun z => by subst z; cases t1; exact l4 rfl
        exact op_repT pins s σ H _ _ v u Q I rx ry ⟨_, _, _, rfl, rfl, SqT.mono sub h1, ne, by omega, l2, lv, fun p hp => hQ.2 _ (RpAll.rep t1 _) (by rw [flat_len, Nat.mul_comm]; exact e) p hp⟩
    · cases hb
  · cases qx; cases qy
    split at hb
    · rename_i hl; cases hb
      exact op_fdivW pins s σ H _ _ v u Q I rx ry ⟨_, _, rfl, rfl, wide_div hl.1 (fits_lt hl.2) (by decide) (by decide), hQ _ (.int _)⟩
    · cases hb
  · cases qx; cases qy
    split at hb
    · rename_i hl; cases hb
      exact op_mod pins s σ H _ _ v u Q I rx ry ⟨_, _, rfl, rfl, hl, hQ _ (.int _)⟩
    · cases hb
  · cases qx; cases qy
    split at hb
    · rename_i hl; cases hb
      exact op_and pins s σ H _ _ v u Q I rx ry ⟨_, _, rfl, rfl, by dsimp only; rw [PyProof.Rows.bitAnd_pp hl.1 hl.2]; exact hQ _ (.int _)⟩
    · cases hb
  · cases qx; cases qy
    split at hb
    · rename_i hl; cases hb
      exact op_or pins s σ H _ _ v u Q I rx ry ⟨_, _, rfl, rfl, by dsimp only; rw [PyProof.Rows.bitOr_and, PyProof.Rows.bitAnd_pp hl.1 hl.2]; exact hQ _ (.int _)⟩
    · cases hb
  · cases qx; cases qy
    split at hb
    · rename_i hl; cases hb
      exact op_pow pins s σ H _ _ v u Q I rx ry ⟨_, _, rfl, rfl, ⟨hl.1, by omega, fits_lt hl.2.2⟩, hQ _ (.int _)⟩
    · cases hb
  · cases hb
/-! ### comparisons -/
def pyC : Cop → CmpOp
  | .eq => .Eq | .ne => .NotEq | .lt => .Lt | .le => .LtE | .gt => .Gt | .ge => .GtE | .mem => .In | .nmem => .NotIn
def rCmp (K : Frag) (o : Cop) : R2 := fun x y H Q => ∃ F dx dy b, Same F H ∧ Dq K F H x dx ∧ Dq K F H y dy ∧ cmpD o dx dy = some b ∧ Q (.bl b) H
theorem flat_dq {K : Frag} {F H : Hp} {x : V} {d : D} (q : Dq K F H x d) (f : flat d = true) : flatV x = true := by
  cases q <;> first | rfl | cases f
theorem flat_rp {K : Frag} {F : Hp} {x : V} {d : D} (q : Rp K F x d) (f : flat d = true) : flatV x = true := by
  cases q <;> first | rfl | cases f
theorem flat_all {K : Frag} {F : Hp} : ∀ {vs : List V} {ds : List D}, RpAll K F vs ds → ds.all flat = true → vs.all flatV = true
  | _, _, .nil, _ => rfl
  | _, _, .cons h t, f => by
    rw [List.all_cons, Bool.and_eq_true] at f ⊢
    exact ⟨flat_rp h f.1, flat_all t f.2⟩
theorem eqV_rp {K : Frag} {F H : Hp} {x y : V} {d e : D} (q : Dq K F H x d) (r : Rp K F y e) (f : flat d = true) (g : flat e = true) : eqV y x = PyData.eqv e d := by
  cases q <;> cases r <;> first | rfl | cases f | cases g | simp [eqV, PyData.eqv]
theorem inV_rp {K : Frag} {F H : Hp} {x : V} {d : D} (q : Dq K F H x d) (f : flat d = true) : ∀ {vs : List V} {ds : List D}, RpAll K F vs ds → ds.all flat = true → inV x vs = ds.any fun y => PyData.eqv y d
  | _, _, .nil, _ => rfl
  | _, _, .cons h t, g => by
    rw [List.all_cons, Bool.and_eq_true] at g
    show (eqV _ x || inV x _) = _
    rw [eqV_rp q h f g.1, inV_rp q f t g.2]
    rfl
theorem depth_ints : ∀ ns : List Int, PyData.depthAll (ns.map PyData.int) ≤ 1
  | [] => by simp [PyData.depthAll]
  | n :: ns => by
    have := depth_ints ns
    simp only [List.map_cons, PyData.depthAll, PyData.depth]
    omega
theorem dp_ints {K : Frag} {H : Hp} : ∀ ns : List Int, L2.DpAll K H (ns.map V.int) (ns.map .int)
  | [] => .nil
  | i :: r => .cons (.int i) (dp_ints r)
theorem shaped_ints (ns : List Int) : PySem.SeqAt.shaped (.list (ns.map .int)) = true := by
  have h1 : ∀ ns : List Int, PyData.canLayAll0 (ns.map .int) = true := fun ns => by
    induction ns with
    | nil => rfl
    | cons a r ih => rw [List.map_cons]; unfold PyData.canLayAll0; rw [ih]; rfl
  have h2 := depth_ints ns
  unfold PySem.SeqAt.shaped
  rw [Bool.and_eq_true, decide_eq_true_eq]
  exact ⟨by unfold PyData.canLay0; exact h1 ns, by unfold PyData.depth; omega⟩
theorem op_cmp (o : Cop) (hu : X.A.units + 64 < cLine) : OpR X (compareOp (pyC o)) (rCmp X.K o) := by
  intro pins s σ H x y v u Q I rx ry h
  obtain ⟨F, dx, dy, b, sub, qx, qy, hb, hQ⟩ := h
  unfold cmpD at hb
  split at hb
  · cases hb
    cases qx with | hel h1 =>
    cases qy with | lst h2 t2 =>
    rename_i ns b vs
    cases t2
    refine op_eqD hu pins s σ H _ _ v u Q I rx ry ⟨.list (ns.map .int), .list [], .lst h1 (dp_ints ns), .lst (SqL.of h2) .nil, shaped_ints ns, by decide +kernel, ?_⟩
    rw [show PyData.eqv (.list (ns.map .int)) (.list []) = (ns.map fun i => ((.int i, .none) : D × D)).isEmpty from by cases ns <;> rfl]
    exact hQ
  · split at hb
    · rename_i hl; cases hb
      rw [Bool.and_eq_true] at hl
      exact op_eqD hu pins s σ H _ _ v u Q I rx ry ⟨_, _, (qx.dp sub).data (PySem.SeqAt.canLay_of_shaped hl.1), (qy.dp sub).data (PySem.SeqAt.canLay_of_shaped hl.2), hl.1, hl.2, hQ⟩
    · cases hb
  · split at hb
    · rename_i hl; cases hb
      rw [Bool.and_eq_true] at hl
      exact op_neD hu pins s σ H _ _ v u Q I rx ry ⟨_, _, (qx.dp sub).data (PySem.SeqAt.canLay_of_shaped hl.1), (qy.dp sub).data (PySem.SeqAt.canLay_of_shaped hl.2), hl.1, hl.2, hQ⟩
    · cases hb
  · cases hb; cases qx; cases qy
    exact op_lt pins s σ H _ _ v u Q I rx ry ⟨_, _, rfl, rfl, hQ⟩
  · cases hb; cases qx; cases qy
    exact op_le pins s σ H _ _ v u Q I rx ry ⟨_, _, rfl, rfl, hQ⟩
  · cases hb; cases qx; cases qy
    exact op_gt pins s σ H _ _ v u Q I rx ry ⟨_, _, rfl, rfl, hQ⟩
  · cases hb; cases qx; cases qy
    exact op_ge pins s σ H _ _ v u Q I rx ry ⟨_, _, rfl, rfl, hQ⟩
  · cases qy with | lst h2 t2 =>
    split at hb
    · rename_i hl; cases hb
      rw [Bool.and_eq_true] at hl
      refine op_in_seq pins s σ H _ _ v u Q I rx ry ⟨_, _, rfl, .inl (SqL.of h2), flat_dq qx hl.1, flat_all t2 hl.2, ?_⟩
      rw [if_neg (by decide), inV_rp qx hl.1 t2 hl.2]
      exact hQ
    · cases hb
  · cases qy with | tup h2 t2 =>
    split at hb
    · rename_i hl; cases hb
      rw [Bool.and_eq_true] at hl
      refine op_in_seq pins s σ H _ _ v u Q I rx ry ⟨_, _, rfl, .inr (SqT.mono sub h2), flat_dq qx hl.1, flat_all t2 hl.2, ?_⟩
      rw [if_neg (by decide), inV_rp qx hl.1 t2 hl.2]
      exact hQ
    · cases hb
  · cases qy with | lst h2 t2 =>
    split at hb
    · rename_i hl; cases hb
      rw [Bool.and_eq_true] at hl
      refine op_notIn_seq pins s σ H _ _ v u Q I rx ry ⟨_, _, rfl, .inl (SqL.of h2), flat_dq qx hl.1, flat_all t2 hl.2, ?_⟩
      rw [if_pos rfl, inV_rp qx hl.1 t2 hl.2]
      exact hQ
    · cases hb
  · cases qy with | tup h2 t2 =>
    split at hb
    · rename_i hl; cases hb
      rw [Bool.and_eq_true] at hl
      refine op_notIn_seq pins s σ H _ _ v u Q I rx ry ⟨_, _, rfl, .inr (SqT.mono sub h2), flat_dq qx hl.1, flat_all t2 hl.2, ?_⟩
      rw [if_pos rfl, inV_rp qx hl.1 t2 hl.2]
      exact hQ
    · cases hb
  · cases hb
/-! ### items and slices -/
def rIdx (K : Frag) : R2 := fun x y H Q => ∃ F dx dy dz, Same F H ∧ Dq K F H x dx ∧ Dq K F H y dy ∧ idxD dx dy = some dz ∧ ∀ v, Rp K F v dz → Q v H
theorem place_ixN {n : Nat} {i : Int} {k : Nat} (h : place? n i = some k) : ixN n i = some k := by
  unfold place? at h
  unfold ixN
  by_cases h0 : 0 ≤ i
  · rw [if_pos h0] at h ⊢
    split at h
    · cases h
      rw [if_pos (by omega)]
    · cases h
  · rw [if_neg h0] at h ⊢
    split at h
    · cases h
      rw [if_pos (by omega), Int.add_comm]
    · cases h
theorem ix_data : IxR X (rIdx X.K) := by
  intro value slice pins s σ H x y v u Q I rx ry h hs
  obtain ⟨F, dx, dy, dz, sub, qx, qy, hb, hQ⟩ := h
  unfold idxD at hb
  split at hb
  · cases qx with | lst h1 t1 => cases qy with | int _ =>
    rename_i xs i a vs
    obtain ⟨k, h2, h3⟩ := Option.bind_eq_some_iff.mp hb
    obtain ⟨w, h4, h5⟩ := RpAll.get' t1 h3
    refine ix_list value slice pins s σ H _ _ v u Q I rx ry ⟨_, _, _, w, rfl, rfl, SqL.of h1, ?_, hQ w h5⟩ hs
    unfold atI
    rw [RpAll.length t1, place_ixN h2]
    exact h4
  rotate_left
  · cases qx with | hel h1 => cases qy with | int _ =>
    rename_i i a ns
    obtain ⟨k, h2, h3⟩ := Option.bind_eq_some_iff.mp hb
    rw [List.length_map] at h2
    rw [List.getElem?_map, Option.map_map] at h3
    obtain ⟨j, h4, h5⟩ := Option.map_eq_some_iff.mp h3
    cases h5
    refine ix_list value slice pins s σ H _ _ v u Q I rx ry ⟨_, _, _, V.int j, rfl, rfl, h1, ?_, hQ _ (.int j)⟩ hs
    unfold atI
    rw [List.length_map, place_ixN h2]
    show (ns.map V.int)[k]? = _
    rw [List.getElem?_map, h4]
    rfl
  rotate_left
  · cases qx with | tup h1 t1 => cases qy with | int _ =>
    rename_i xs i a vs
    obtain ⟨k, h2, h3⟩ := Option.bind_eq_some_iff.mp hb
    obtain ⟨w, h4, h5⟩ := RpAll.get' t1 h3
    refine ix_tup value slice pins s σ H _ _ v u Q I rx ry ⟨_, _, _, w, rfl, rfl, SqT.mono sub h1, ?_, hQ w h5⟩ hs
    unfold atI
    rw [RpAll.length t1, place_ixN h2]
    exact h4
  · cases hb
theorem clip_sIx (n d : Nat) (i : Int) : HT.sIx n d (some i) = clip n i := by
  unfold HT.sIx clip
  by_cases h : 0 ≤ i
  · simp only [if_pos h, if_neg (show ¬ i < 0 by omega)]
  · simp only [if_neg h, if_pos (show i < 0 by omega), Int.add_comm]
theorem clip_le (n : Nat) (i : Int) : clip n i ≤ n := by
  unfold clip
  split <;> omega
theorem cut_from (vs : List V) (i : Int) : cutV vs (some i) none = vs.drop (clip vs.length i) := by
  unfold cutV
  rw [clip_sIx]
  show List.take (vs.length - _) _ = _
  rw [List.take_of_length_le (by simp)]
theorem cut_to (vs : List V) (i : Int) : cutV vs none (some i) = vs.take (clip vs.length i) := by
  unfold cutV
  rw [clip_sIx]
  show List.take (clip vs.length i - 0) (List.drop 0 vs) = _
  rw [List.drop_zero, Nat.sub_zero]
/-- a slice: from, to -/
def rSl (K : Frag) (f : D → D → Option D) : V → Option Int → Option Int → Hp → VK → Prop := fun x lo hi H Q => ∃ F dx i dz, Same F H ∧ Dq K F H x dx ∧ SzOk H ∧ ((lo = some i ∧ hi = none ∧ sliceFD dx (.int i) = some dz) ∨ (lo = none ∧ hi = some i ∧ sliceTD dx (.int i) = some dz)) ∧ RsF K F H dz Q
theorem sl_data {f : D → D → Option D} : SlR X (rSl X.K f) := by
  intro pins s σ H x v vl vu lo hi sl Q I rx hs pl pu h
  obtain ⟨F, dx, i, dz, sub, qx, hz, hb, hQ⟩ := h
  rcases hb with ⟨rfl, rfl, hb⟩ | ⟨rfl, rfl, hb⟩
  · cases qx with
    | lst h1 t1 =>
      cases hb
      refine sl_list pins s σ H _ v vl vu _ _ sl Q I rx hs pl pu ⟨_, _, rfl, SqL.of h1, fun p hp => ?_⟩
      rw [cut_from, RpAll.length t1]
      exact hQ _ (RpAll.drop _ t1) (by rw [List.length_drop]; have := hz.sqL (K := X.K) (SqL.of h1); omega) p hp
    | tup h1 t1 =>
      cases hb
      refine sl_tupA pins s σ H _ v vl vu _ _ sl Q I rx hs pl pu ⟨_, _, rfl, SqT.mono sub h1, fun z => ?_, fun _ p hp => ?_⟩
      · have e := z.1
        rw [clip_sIx, RpAll.length t1] at e
        rw [e, List.drop_zero] at hQ
        exact hQ.1 _ (.tup h1 t1)
      · rw [cut_from, RpAll.length t1]
        exact hQ.2 _ (RpAll.drop _ t1) (by rw [List.length_drop]; have := hz.sqT (K := X.K) (SqT.mono sub h1); omega) p hp
    | _ => cases hb
  · cases qx with
    | lst h1 t1 =>
      cases hb
      refine sl_list pins s σ H _ v vl vu _ _ sl Q I rx hs pl pu ⟨_, _, rfl, SqL.of h1, fun p hp => ?_⟩
      rw [cut_to, RpAll.length t1]
      exact hQ _ (RpAll.take _ t1) (by rw [List.length_take]; have := hz.sqL (K := X.K) (SqL.of h1); omega) p hp
    | tup h1 t1 =>
      cases hb
      refine sl_tupA pins s σ H _ v vl vu _ _ sl Q I rx hs pl pu ⟨_, _, rfl, SqT.mono sub h1, fun z => ?_, fun _ p hp => ?_⟩
      · have e := z.2
        rw [clip_sIx, RpAll.length t1] at e
        rw [e, List.take_length] at hQ
        exact hQ.1 _ (.tup h1 t1)
      · rw [cut_to, RpAll.length t1]
        exact hQ.2 _ (RpAll.take _ t1) (by rw [List.length_take]; have := hz.sqT (K := X.K) (SqT.mono sub h1); omega) p hp
    | _ => cases hb
/-! ### built-ins -/
theorem ints_rp {K : Frag} {F : Hp} : ∀ {vs : List V} {ds : List D} {ns : List Int}, RpAll K F vs ds → ints? ds = some ns → vs = ns.map V.int
  | _, _, ns, .nil, h => by cases h; rfl
  | _, d :: ds, ns, .cons r t, h => by
    cases d with
    | int i =>
      simp only [ints?, Option.map_eq_some_iff] at h
      obtain ⟨ms, h1, rfl⟩ := h
      cases r
      rw [ints_rp t h1]
      rfl
    | _ => cases h
theorem bools_rp {K : Frag} {F : Hp} : ∀ {vs : List V} {ds : List D} {ns : List Bool}, RpAll K F vs ds → bools? ds = some ns → vs = ns.map V.bl
  | _, _, ns, .nil, h => by cases h; rfl
  | _, d :: ds, ns, .cons r t, h => by
    cases d with
    | bool i =>
      simp only [bools?, Option.map_eq_some_iff] at h
      obtain ⟨ms, h1, rfl⟩ := h
      cases r
      rw [bools_rp t h1]
      rfl
    | _ => cases h
theorem maxI_mem : ∀ (l : List Int) (m : Int), maxI m l ∈ m :: l ∧ ∀ y ∈ m :: l, y ≤ maxI m l
  | [], m => ⟨by simp [maxI], by simp [maxI]⟩
  | x :: r, m => by
    obtain ⟨h1, h2⟩ := maxI_mem r (if m < x then x else m)
    have e : maxI m (x :: r) = maxI (if m < x then x else m) r := rfl
    rw [e]
    generalize hz : maxI (if m < x then x else m) r = z at h1 h2 ⊢
    have hx := h2 _ List.mem_cons_self
    refine ⟨?_, fun y hy => ?_⟩
    · rcases List.mem_cons.mp h1 with e | e
      · rw [e]; split <;> simp
      · simp [e]
    · rcases List.mem_cons.mp hy with rfl | hy
      · split at hx <;> omega
      · rcases List.mem_cons.mp hy with rfl | hy
        · split at hx <;> omega
        · exact h2 y (List.mem_cons_of_mem _ hy)
theorem minI_mem : ∀ (l : List Int) (m : Int), minI m l ∈ m :: l ∧ ∀ y ∈ m :: l, minI m l ≤ y
  | [], m => ⟨by simp [minI], by simp [minI]⟩
  | x :: r, m => by
    obtain ⟨h1, h2⟩ := minI_mem r (if x < m then x else m)
    have e : minI m (x :: r) = minI (if x < m then x else m) r := rfl
    rw [e]
    generalize hz : minI (if x < m then x else m) r = z at h1 h2 ⊢
    have hx := h2 _ List.mem_cons_self
    refine ⟨?_, fun y hy => ?_⟩
    · rcases List.mem_cons.mp h1 with e | e
      · rw [e]; split <;> simp
      · simp [e]
    · rcases List.mem_cons.mp hy with rfl | hy
      · split at hx <;> omega
      · rcases List.mem_cons.mp hy with rfl | hy
        · split at hx <;> omega
        · exact h2 y (List.mem_cons_of_mem _ hy)
theorem maxI_unique {n : Int} {r : List Int} {m : Int} (h1 : m ∈ n :: r) (h2 : ∀ y, y ∈ n :: r → y ≤ m) : m = maxI n r := by
  obtain ⟨a, b⟩ := maxI_mem r n
  have := b m h1
  have := h2 _ a
  omega
theorem minI_unique {n : Int} {r : List Int} {m : Int} (h1 : m ∈ n :: r) (h2 : ∀ y, y ∈ n :: r → m ≤ y) : m = minI n r := by
  obtain ⟨a, b⟩ := minI_mem r n
  have := b m h1
  have := h2 _ a
  omega
inductive DqAll (K : Frag) (F H : Hp) : List V → List D → Prop where
  | nil : DqAll K F H [] []
  | cons {v : V} {d : D} {vs : List V} {ds : List D} (h : Dq K F H v d) (t : DqAll K F H vs ds) : DqAll K F H (v :: vs) (d :: ds)
def biV : Bi → Value
  | .len => .builtin "len" | .sum => .builtin "sum" | .max => .builtin "max" | .min => .builtin "min" | .max2 => .builtin "max" | .min2 => .builtin "min" | .abs => .builtin "abs"
  | .list => .type "list" | .tuple => .type "tuple" | .int => .type "int" | .all => .builtin "all" | .any => .builtin "any" | .isT _ => .builtin "isinstance" | .str => .type "str"
def rBi (K : Frag) (b : Bi) : List V → Hp → VK → Prop := fun xs H Q => ∃ F ds dz, Same F H ∧ SzOk H ∧ DqAll K F H xs ds ∧ biD b ds = some dz ∧ RsF K F H dz Q
theorem ints_reads {h : Heap} : ∀ {ns : List Int} {us : List Value}, Vals (ns.map V.int) us → PySem.ReadsAll h us (ns.map PyData.int) []
  | [], _, .nil => .nil
  | n :: ns, _, .cons r t => by
    obtain ⟨tk, rfl⟩ := r
    exact .cons (as := []) (.int n tk) (ints_reads t)
theorem alike_ints (ns : List Int) : PySem.W.AlikeAll (ns.map PyData.int) := by
  refine ⟨fun x hx y hy => ?_, fun x hx => ?_⟩
  · obtain ⟨i, _, rfl⟩ := List.mem_map.mp hx
    obtain ⟨j, _, rfl⟩ := List.mem_map.mp hy
    rfl
  · obtain ⟨i, _, rfl⟩ := List.mem_map.mp hx
    intro z; cases z
theorem foldl_max : ∀ (ns : List Int) (n : Int), ns.foldl max n = maxI n ns
  | [], _ => rfl
  | k :: r, n => by
    rw [List.foldl_cons, foldl_max r]
    show maxI _ _ = maxI (if n < k then k else n) r
    congr 1
    split <;> omega
/-- max of a tuple of ints -/
theorem max_tup (hc : X.calm = true) (hu : X.A.units + 64 < cLine) : CallR X (.builtin "max") (fun vs H Q => ∃ (a : Addr) (n : Int) (r : List Int), vs = [V.ref a] ∧ SqT X.K H a ((n :: r).map V.int) ∧ Q (.int (maxI n r)) H) := by
  intro pins s σ H vs us Q I rv h
  obtain ⟨a, n, r, rfl, hs, q⟩ := h
  obtain ⟨its, ri, ht, _⟩ := I.tuple hs
  rw [Vals.ref1 rv]
  have rd : ReadsAll s.heap its.toArray.toList (PyData.int n :: r.map PyData.int) [] := ints_reads (ns := n :: r) (by simpa using ri)
  have dp := depth_ints (n :: r)
  refine PySem.W.max_tuple_data (I.ok.hd hc) ht rd (alike_ints (n :: r)) (by rw [List.map_cons] at dp; omega) fun i v h' tk bs hv hr hk => ?_
  rw [PySem.W.maxD_ints, foldl_max] at hr
  cases hr
  exact ⟨.int _, H, I.kept hk, ⟨_, rfl⟩, q⟩
theorem call_bi (b : Bi) (hb : ∀ t, b ≠ .isT t) (hc : X.calm = true) (hu : X.A.units + 64 < cLine) : CallR X (biV b) (rBi X.K b) := by
  intro pins s σ H xs us Q I r h
  obtain ⟨F, ds, dz, sub, hz, q, e, hQ⟩ := h
  unfold biD at e
  split at e
  · cases e
    cases q with | cons q qt =>
    cases qt
    cases q with | hel h1 =>
    exact call_len pins s σ H _ us Q I r ⟨_, _, rfl, .inl ⟨_, h1, rfl⟩, by rw [List.length_map] at hQ ⊢; exact hQ _ (.int _)⟩
  · obtain ⟨ys, e1, rfl⟩ := Option.map_eq_some_iff.mp e
    cases q with | cons q qt =>
    cases qt
    cases q with
    | lst h1 t1 =>
      cases e1
      exact call_len pins s σ H _ us Q I r ⟨_, _, rfl, .inl ⟨_, SqL.of h1, rfl⟩, by rw [RpAll.length t1]; exact hQ _ (.int _)⟩
    | tup h1 t1 =>
      cases e1
      exact call_len pins s σ H _ us Q I r ⟨_, _, rfl, .inr ⟨_, SqT.mono sub h1, rfl⟩, by rw [RpAll.length t1]; exact hQ _ (.int _)⟩
    | _ => cases e1
  · obtain ⟨ys, e1, rfl⟩ := Option.map_eq_some_iff.mp e
    cases q with | cons q qt =>
    cases qt
    cases q with
    | lst h1 t1 =>
      have e2 := ints_rp t1 e1
      subst e2
      exact cr_sum hc pins s σ H _ us Q I r ⟨_, _, rfl, SqL.of h1, hQ _ (.int _)⟩
  · obtain ⟨ys, e1, e⟩ := Option.bind_eq_some_iff.mp e
    obtain ⟨ns, e2, e⟩ := Option.bind_eq_some_iff.mp e
    cases q with | cons q qt =>
    cases qt
    cases ns with
    | nil => cases e
    | cons n ns =>
    cases e
    cases q with
    | lst h1 t1 =>
      cases e1
      have e3 := ints_rp t1 e2
      subst e3
      exact cr_max hc pins s σ H _ us Q I r ⟨_, _, rfl, SqL.of h1, by simp, fun m h1 h2 => by rw [maxI_unique h1 h2]; exact hQ _ (.int _)⟩
    | tup h1 t1 =>
      cases e1
      have e3 := ints_rp t1 e2
      subst e3
      exact max_tup hc hu pins s σ H _ us Q I r ⟨_, _, _, rfl, SqT.mono sub h1, hQ _ (.int _)⟩
    | _ => cases e1
  · obtain ⟨ns, e2, e⟩ := Option.bind_eq_some_iff.mp e
    cases q with | cons q qt =>
    cases qt
    cases ns with
    | nil => cases e
    | cons n ns =>
    cases e
    cases q with
    | lst h1 t1 =>
      have e3 := ints_rp t1 e2
      subst e3
      exact cr_min hc pins s σ H _ us Q I r ⟨_, _, rfl, SqL.of h1, by simp, fun m h1 h2 => by rw [minI_unique h1 h2]; exact hQ _ (.int _)⟩
  · cases e
    cases q with | cons q qt => cases qt with | cons q2 qt =>
    cases qt
    cases q; cases q2
    exact call_max2 hc pins s σ H _ us Q I r ⟨_, _, rfl, hQ _ (.int _)⟩
  · cases e
    cases q with | cons q qt => cases qt with | cons q2 qt =>
    cases qt
    cases q; cases q2
    exact call_min2 hc pins s σ H _ us Q I r ⟨_, _, rfl, hQ _ (.int _)⟩
  · cases e
    cases q with | cons q qt =>
    cases qt
    cases q
    exact call_abs pins s σ H _ us Q I r ⟨_, rfl, hQ _ (.int _)⟩
  · obtain ⟨ys, e1, rfl⟩ := Option.map_eq_some_iff.mp e
    cases q with | cons q qt =>
    cases qt
    cases q with
    | lst h1 t1 =>
      cases e1
      exact call_list_of pins s σ H _ us Q I r ⟨_, _, rfl, .inl (SqL.of h1), fun p hp => hQ _ t1 (hz.sqL (K := X.K) (SqL.of h1)) p hp⟩
    | tup h1 t1 =>
      cases e1
      exact call_list_of pins s σ H _ us Q I r ⟨_, _, rfl, .inr (SqT.mono sub h1), fun p hp => hQ _ t1 (hz.sqT (K := X.K) (SqT.mono sub h1)) p hp⟩
    | _ => cases e1
  · obtain ⟨ys, e1, rfl⟩ := Option.map_eq_some_iff.mp e
    cases q with | cons q qt =>
    cases qt
    cases q with
    | lst h1 t1 =>
      cases e1
      exact call_tuple_of pins s σ H _ us Q I r ⟨_, _, rfl, .inl ⟨SqL.of h1, fun p hp => hQ.2 _ t1 (hz.sqL (K := X.K) (SqL.of h1)) p hp⟩⟩
    | tup h1 t1 =>
      cases e1
      exact call_tuple_of pins s σ H _ us Q I r ⟨_, _, rfl, .inr ⟨SqT.mono sub h1, hQ.1 _ (.tup h1 t1)⟩⟩
    | _ => cases e1
  · cases e
    cases q with | cons q qt =>
    cases qt
    cases q
    exact call_int1 pins s σ H _ us Q I r (.inr ⟨_, rfl, hQ _ (.int _)⟩)
  · cases e
    cases q with | cons q qt =>
    cases qt
    cases q
    exact call_int1 pins s σ H _ us Q I r (.inl ⟨_, rfl, hQ _ (.int _)⟩)
  · obtain ⟨ys, e1, rfl⟩ := Option.map_eq_some_iff.mp e
    cases q with | cons q qt =>
    cases qt
    cases q with
    | lst h1 t1 =>
      have e2 := bools_rp t1 e1
      subst e2
      exact cr_all hc pins s σ H _ us Q I r ⟨_, _, rfl, SqL.of h1, hQ _ (.bl _)⟩
  · obtain ⟨ys, e1, rfl⟩ := Option.map_eq_some_iff.mp e
    cases q with | cons q qt =>
    cases qt
    cases q with
    | lst h1 t1 =>
      have e2 := bools_rp t1 e1
      subst e2
      exact cr_any hc pins s σ H _ us Q I r ⟨_, _, rfl, SqL.of h1, hQ _ (.bl _)⟩
  · exact absurd rfl (hb _)
  · cases e
/-! ### isinstance -/
def tyN : Ty → String
  | .int => "int" | .bool => "bool" | .tuple => "tuple" | .str => "str"
def dTy : D → String
  | .none => "NoneType" | .bool _ => "bool" | .int _ => "int" | .str _ => "str" | .list _ => "list" | .tuple _ => "tuple" | .dict _ => "list"
theorem ty_dq {K : Frag} {F H : Hp} (sub : Same F H) {x : V} {d : D} (q : Dq K F H x d) : TyX K H x (.type (dTy d)) := by
  cases q with
  | non => exact .base .non
  | bl b => exact .base (.bl b)
  | int i => exact .base (.int i)
  | str x => exact .base (.str x)
  | lst h t => exact .base (.lst h)
  | tup h t =>
    rcases SqT.mono sub h with (h | ⟨o, h⟩) | ⟨o, its, n, h, c, _⟩
    · exact .base (.tup h)
    · exact .fTuple h
    · exact .kTuple h c
  | hel h =>
    rcases h with (h | ⟨o, h⟩) | ⟨o, its, n, h, c, _⟩
    · exact .base (.lst h)
    · exact .base (.frz h)
    · exact .kList h c
theorem kit_d (t : Ty) (d : D) : kitB (dTy d) (tyN t) = some (isTy t d) := by
  cases t <;> cases d <;> first | (show kitB _ _ = some _; simp only [dTy, tyN, isTy]; decide +kernel)
theorem call_isT (t : Ty) : CallR X (.builtin "isinstance") (fun xs H Q => ∃ F x d, Same F H ∧ Dq X.K F H x d ∧ xs = [x, .ty (tyN t)] ∧ Q (.bl (isTy t d)) H) := by
  intro pins s σ H xs us Q I r h
  obtain ⟨F, x, d, sub, q, rfl, hQ⟩ := h
  exact call_isi pins s σ H _ us Q I r ⟨_, _, _, _, _, rfl, .ty _, ty_dq sub q, kit_ty (kit_d t d), hQ⟩
end
end M
/-! What is walked: enumerate and zip of lists and tuples in any mix. -/
namespace M
open PySem PySem.Spec PyProof.Rows L2

inductive Sq where
  | L (a : Addr)
  | T (a : Addr)
def Sq.addr : Sq → Addr
  | .L a => a
  | .T a => a
def Sq.at (K : Frag) (H : Hp) : Sq → List V → Prop
  | .L a, xs => SqL K H a xs
  | .T a, xs => SqT K H a xs
def Sq.iter (h : Heap) (it : Addr) (i : Nat) : Sq → Prop
  | .L a => h.IsListIter it a i
  | .T a => h.IsTupleIter it a i
def Sq.obj (h : Heap) (its : Array Value) : Sq → Prop
  | .L a => h.IsList a its
  | .T a => h.IsTuple a its
def Sq.cell : Sq → Obj
  | .L a => { cls := .type "list_iterator", data := .fields #[.ref a, .int 0 0] }
  | .T a => { cls := .type "tuple_iterator", data := .fields #[.ref a, .int 0 0] }
theorem Sq.begins (q : Sq) (its : Array Value) : Begins (.ref q.addr) q.cell fun h => q.obj h its := by
  cases q with
  | L a => exact begins_list a its
  | T a => exact begins_tuple a its
theorem Sq.draws {prog : Program} {w : World} {A : Around} (q : Sq) (hh : A.handled = none) (it : Addr) (hne : q.addr ≠ it) (its : Array Value) :
    Draws prog w A it [it, q.addr] its.size (fun i v => its[i]? = some v) (fun i h => q.iter h it i ∧ q.obj h its) := by
  cases q with
  | L a => exact Draws.list hh it a hne its
  | T a => exact Draws.tuple hh it a hne its
theorem Sq.iter_at {q : Sq} {h h' : Heap} {it : Addr} {i : Nat} (x : q.iter h it i) (k : ∀ o, h.get? it = some o → h'.get? it = some o) : q.iter h' it i := by
  cases q with
  | L a => exact Heap.IsListIter.at x k
  | T a => exact Heap.IsTupleIter.at x k
theorem Sq.iter_obj {q : Sq} {h : Heap} {it : Addr} {i : Nat} (x : q.iter h it i) : ∃ o n vs, h.get? it = some o ∧ o.cls = .type n ∧ o.data = .fields vs := by
  cases q with
  | L a => obtain ⟨o, h1, h2, h3⟩ := x; exact ⟨o, _, _, h1, h2, h3⟩
  | T a => obtain ⟨o, h1, h2, h3⟩ := x; exact ⟨o, _, _, h1, h2, h3⟩
theorem Sq.obj_data {q : Sq} {h : Heap} {its : Array Value} (x : q.obj h its) : ∃ o n, h.get? q.addr = some o ∧ o.data = .seq its n := by
  cases q with
  | L a => obtain ⟨o, h1, h2, n, h3⟩ := x; exact ⟨o, n, h1, h3⟩
  | T a => obtain ⟨o, h1, h2, n, h3⟩ := x; exact ⟨o, n, h1, h3⟩
/-- a record is no sequence -/
theorem Sq.ne {q : Sq} {h : Heap} {its : Array Value} {b : Addr} {o : Obj} {vs : Array Value} (x : q.obj h its) (e : h.get? b = some o) (d : o.data = .fields vs) : q.addr ≠ b := fun z => by
  obtain ⟨o', n, h1, h2⟩ := Sq.obj_data x
  rw [z, e] at h1
  cases h1
  rw [d] at h2
  cases h2
theorem Sq.holds {X : Cx} {pins : List (Addr × Obj)} {σ : L2.St} {H : Hp} {s : Shared} {q : Sq} {xs : List V} (I : Inv X pins σ H s) (h : q.at X.K H xs) : ∃ its : Array Value, Vals xs its.toList ∧ q.obj s.heap its := by
  cases q with
  | L a => obtain ⟨its, r, p, _⟩ := I.list h; exact ⟨its.toArray, by simpa using r, p.isList⟩
  | T a => obtain ⟨its, r, p, _⟩ := I.tuple h; exact ⟨its.toArray, by simpa using r, p⟩
theorem Sq.inj {X : Cx} {pins : List (Addr × Obj)} {σ : L2.St} {H : Hp} {s : Shared} {q : Sq} {xs ys : List V} (I : Inv X pins σ H s) (h : q.at X.K H xs) (h' : q.at X.K H ys) : xs = ys := by
  cases q with
  | L a => exact I.list_inj h h'
  | T a => exact I.tuple_inj h h'

/-! ### enumerate -/
theorem meets_enumerate1 {v : Value} {o : Obj} {H : Heap → Prop} (B : Begins v o H) :
    Meets (Builtin.«enumerate.__new__» ⟨[.type "enumerate", v], []⟩) (fun _ R s => H s.heap ∧
      R (.ok (.ret (.ref (s.heap.push o).objs.size))) { s with heap := (s.heap.push o).push { cls := .type "enumerate", data := .fields #[.none, .bool false, .ref s.heap.objs.size, rawInt 0, .none, .none] } }) :=
  .of_wp fun prog w A R s h => by
    obtain ⟨hp, g, d, tk, os⟩ := s; obtain ⟨h1, h⟩ := h
    have hsub := sub_enumerate
    have q1 : ∀ {A' : Around} {E : Value → Shared → Prop} {Q : Value → Shared → Prop}, Q (.ref hp.objs.size) ⟨hp.push o, g, d, tk, os⟩ → wpAny (model prog w) A' (pyIter v) Q E ⟨hp, g, d, tk, os⟩ :=
      fun q => B.iter prog w _ _ ⟨hp, g, d, tk, os⟩ _ h1 q
    wp_walk using q1
    refine wpAny_stack_any fun st => wpAny_pure ?_
    split
    · rename_i c _ _ _ _ _
      cases (c == Value.type "enumerate")
      · wp_walk using q1
        exact ⟨_, rfl, h⟩
      · wp_walk using q1
        exact ⟨_, rfl, h⟩
    · wp_walk using q1
      exact ⟨_, rfl, h⟩
theorem enum_begins1 {prog : Program} {w : World} {A : Around} {E : Value → Shared → Prop} {s : Shared} {v : Value} {o : Obj} {H : Heap → Prop} {Q : Value → Shared → Prop} (B : Begins v o H) (h1 : H s.heap)
    (h : ∀ h', IsEnum h' (s.heap.objs.size + 1) s.heap.objs.size 0 .none → h'.get? s.heap.objs.size = some o → h'.objs.size = s.heap.objs.size + 2 →
      (∀ b o, s.heap.get? b = some o → h'.get? b = some o) → Q (.ref (s.heap.objs.size + 1)) { s with heap := h' }) :
    wpAny (model prog w) A (call (.type "enumerate") [v]) Q E s := by
  refine callType_new F.called_enumerate (by decide) (F.typeCall_enumerate_1 _) (F.newCall_enumerate_1 _) (fun obj => F.args_object_init_2 obj _) F.entry_enumerate_new (meets_enumerate1 B) ⟨h1, ?_⟩
  have hz : (s.heap.push o).objs.size = s.heap.objs.size + 1 := Heap.size_push ..
  show _ ∧ _
  rw [hz]
  have he : IsEnum ((s.heap.push o).push { cls := .type "enumerate", data := .fields #[.none, .bool false, .ref s.heap.objs.size, rawInt 0, .none, .none] }) (s.heap.objs.size + 1) s.heap.objs.size 0 .none := by
    have := Heap.get?_push_size (s.heap.push o) (o := { cls := .type "enumerate", data := .fields #[.none, .bool false, .ref s.heap.objs.size, rawInt 0, .none, .none] }) rfl
    rw [hz] at this; exact this
  exact ⟨⟨_, he, rfl⟩, h _ he (Heap.get?_push_of_some _ (Heap.get?_push_size _ B.free)) (by rw [Heap.size_push, hz]) fun b o x => Heap.get?_push_of_some _ (Heap.get?_push_of_some _ x)⟩

def ItEn (K : Frag) (q : Sq) : L2.It :=
  ⟨fun i H => ∃ xs x, q.at K H xs ∧ xs[i]? = some x, fun i H v H' => ∃ T x, v = .ref T ∧ H T = none ∧ H' = upd H T (.tup [.int (i : Nat), x]) ∧ ∀ xs, q.at K H xs → xs[i]? = some x, fun i H => ∃ xs, q.at K H xs ∧ xs.length = i⟩
/-- records of ours have turned -/
theorem turnedL {X : Cx} {pins : List (Addr × Obj)} {σ : L2.St} {H : Hp} {s : Shared} {h' : Heap} {tk : Nat} {ch : List Addr} (I : Inv X pins σ H s) (hf : ∀ b ∈ ch, FpOk X pins H b) (hk : ∀ b o, b ∉ ch → s.heap.get? b = some o → h'.get? b = some o)
    : Inv X pins σ H { s with heap := h', toks := tk } := by
  have nit : ∀ b u, H b = some u → b ∉ ch := fun b u e z => by
    have q := (hf b z).1
    rw [e] at q; cases q
  refine I.step (g' := s.gens) (d' := s.drawn) (t' := tk) (ch := ch) (fun b hb => ?_) (fun b o _ _ hc e _ => hk b o hc e) (fun b o _ _ hc e _ => ⟨o.slots, hk b o hc e⟩) (fun _ _ _ _ n => n)
    (fun b o hc e => ⟨o, hk b o hc e⟩) (fun _ _ e => e) (fun _ _ _ e => e) (fun b ps e => ⟨#[], by rw [e]; simp⟩) (fun m hm => ?_) (fun b u e => ?_) I.bare
  · obtain ⟨f0, f1, f2, f3, f4, f5⟩ := hf b hb
    exact ⟨f3, f1, f4, f5⟩
  · obtain ⟨o, es, ep, ho, r⟩ := hm
    exact ⟨o, es, ep, hk _ o (fun z => (hf _ z).2.1 rfl) ho, r⟩
  · refine (I.hok b u e).stay (fun c v hc q => hk c v ?_ q) (fun _ q => q) fun _ _ q => q
    rcases hc with z | z
    · rw [z]; exact nit b u e
    · exact nit c _ z
theorem fresh_tup {X : Cx} {pins : List (Addr × Obj)} {σ : L2.St} {H : Hp} {s : Shared} {h' : Heap} {tk : Nat} {ch : List Addr} {T : Addr} {x y : V} {u v : Value} (I : Inv X pins σ H s) (hf : ∀ b ∈ ch, FpOk X pins H b) (hk : ∀ b o, b ∉ ch → s.heap.get? b = some o → h'.get? b = some o)
    (hT : s.heap.objs.size ≤ T) (rx : L2.RelV x u) (ry : L2.RelV y v) (ht : h'.IsTuple T #[u, v]) : Inv X pins σ (upd H T (.tup [x, y])) { s with heap := h', toks := tk } :=
  I.turnedNew (ch := ch) hk hf hT ⟨by show 2 ≤ sizeLine; decide, [u, v], .cons rx (.cons ry .nil), ht⟩
theorem turn_en {P : Program} {w : World} {K : Frag} {elts : List Expr} {kk : Nat} {tpos : Pos} (q : Sq) (e it : Addr) :
    Turn P w K (.Tuple elts kk tpos) (ItEn K q) [e, it] e (fun i h => (∃ old, IsEnum h e it ((i : Nat) : Int) old) ∧ q.iter h it i ∧ e ≠ it) where
  mem := by simp
  obj := fun i h st b hb => by
    obtain ⟨⟨old, he⟩, hi, _⟩ := st
    have e' : b = e ∨ b = it := by simpa using hb
    rcases e' with z | z
    · rw [z]; exact ⟨_, he, fun v q => nomatch q⟩
    · obtain ⟨o, n, vs, h1, h2, h3⟩ := Sq.iter_obj hi
      rw [z]; exact ⟨o, h1, fun v q => by rw [h3] at q; cases q⟩
  keep := fun i h h' st k => let ⟨⟨old, he⟩, hi, hne⟩ := st; ⟨⟨old, k e (by simp) _ he⟩, Sq.iter_at hi fun o q => k it (by simp) o q, hne⟩
  item := by
    intro X hP hw hK hc i pins s σ H E I hf st hg
    subst hP hw hK
    obtain ⟨⟨old, he⟩, hit, hne⟩ := st
    obtain ⟨xs, x, hq, hx⟩ := hg
    obtain ⟨its, rv, ob⟩ := Sq.holds I hq
    obtain ⟨u, hu, ru⟩ := Vals.get rv hx
    obtain ⟨oi, ni, vi, i1, i2, i3⟩ := Sq.iter_obj hit
    have nae : q.addr ≠ e := Sq.ne ob he rfl
    have nai : q.addr ≠ it := Sq.ne ob i1 i3
    have hi : i < its.size := by
      have := (List.getElem?_eq_some_iff.mp hu).1
      simpa using this
    have hel : e < s.heap.objs.size := Heap.lt_size he
    have hil : it < s.heap.objs.size := Heap.lt_size i1
    have W := GoesN.enumFrom (elts := elts) (x1 := kk) (pos := tpos) 0 (q.draws (prog := X.prog) (w := X.w) (A := X.A.in1) (I.ok.hd hc) it nai its) e hne (by simp only [List.mem_cons, List.not_mem_nil, or_false, not_or]; exact ⟨hne, fun z => nae z.symm⟩) (by simp)
    refine W.goes i s _ E hi ⟨⟨old, by rw [Int.zero_add]; exact he⟩, hit, ob⟩ fun v h' tk hY st' hk htk => ?_
    obtain ⟨T, t, x', ev, hT, hx', ht⟩ := hY
    have ex : x' = u := by
      have h1 : its[i]? = some u := by simpa using hu
      rw [h1] at hx'; exact (Option.some.inj hx').symm
    subst ex ev
    rw [Int.zero_add] at ht
    have I1 := fresh_tup (ch := [e, it]) (tk := tk) (x := .int (i : Nat)) (y := x) I hf hk hT ⟨_, rfl⟩ ru ht
    obtain ⟨⟨old', he'⟩, hit', _⟩ := st'
    refine ⟨.ref T, _, I1, rfl, ⟨T, x, rfl, I.hok.fresh hT, rfl, fun ys hy => by rw [Sq.inj I hy hq]; exact hx⟩, ⟨⟨old', by rw [Int.zero_add] at he'; exact he'⟩, hit', hne⟩, fun b hb => ?_⟩
    have hb' : b < s.heap.objs.size := by
      have e' : b = e ∨ b = it := by simpa using hb
      rcases e' with z | z
      · rw [z]; exact hel
      · rw [z]; exact hil
    rw [upd_ne (Nat.ne_of_lt (Nat.lt_of_lt_of_le hb' hT))]
    exact (hf b hb).1
  done := by
    intro X hP hw hK hc i pins s σ H E I hf st hg
    subst hP hw hK
    obtain ⟨⟨old, he⟩, hit, hne⟩ := st
    obtain ⟨xs, hq, hx⟩ := hg
    obtain ⟨its, rv, ob⟩ := Sq.holds I hq
    obtain ⟨oi, ni, vi, i1, i2, i3⟩ := Sq.iter_obj hit
    have nae : q.addr ≠ e := Sq.ne ob he rfl
    have nai : q.addr ≠ it := Sq.ne ob i1 i3
    have hi : its.size = i := by
      have h1 := Vals.length rv
      rw [hx] at h1
      simpa using h1.symm
    subst hi
    have W := GoesN.enumFrom (elts := elts) (x1 := kk) (pos := tpos) 0 (q.draws (prog := X.prog) (w := X.w) (A := X.A.in1) (I.ok.hd hc) it nai its) e hne (by simp only [List.mem_cons, List.not_mem_nil, or_false, not_or]; exact ⟨hne, fun z => nae z.symm⟩) (by simp)
    refine W.stops s _ E ⟨⟨old, by rw [Int.zero_add]; exact he⟩, hit, ob⟩ fun h' tk hk htk => ?_
    exact turnedL (ch := [e, it]) I hf hk
  self := fun A i s Q E st h => let ⟨⟨_, he⟩, _⟩ := st; wpAny_pyIter_enum he h
def iEn (K : Frag) (ta : TA) : TI := fun σ H R => ta σ H fun vs H1 => ∃ q xs, vs = [.ref (Sq.addr q)] ∧ q.at K H1 xs ∧ R (ItEn K q) H1
theorem pi_en {X : Cx} {e : Expr} {ta : TA} {p pos tpos : Pos} {elts : List Expr} {kk : Nat} (hg : Gl X "enumerate") (hm : X.mg "enumerate" = none) (ha : PA X [e] ta) (hs : starEach [e] X.env = [(false, eval e X.env)]) :
    PI X (.Tuple elts kk tpos) (.Call (.Name "enumerate" p) [e] [] pos) (iEn X.K ta) := by
  refine ⟨fun pins s σ H R I h => ?_⟩
  refine Call_ (ld_blt I hg hm boot_enumerate (PyProof.Rows.callWith_type1 (thn (ha.run pos pins s σ H _ I h) fun us s1 ⟨vs, H1, I1, r1, q1⟩ => ?_) hs rfl))
  obtain ⟨q, xs, ex, hq, qR⟩ := q1
  subst ex
  obtain ⟨its, rv, ob⟩ := Sq.holds I1 hq
  rw [Vals.ref1 r1]
  refine enum_begins1 (q.begins its) ob fun h' he hit hsz hk => wpAny_pyIter_enum he ?_
  have I2 : Inv X pins σ H1 { s1 with heap := h' } := I1.kept (t' := s1.toks) hk
  have hi0 : q.iter h' s1.heap.objs.size 0 := by
    cases q with
    | L a => exact ⟨_, hit, rfl, rfl⟩
    | T a => exact ⟨_, hit, rfl, rfl⟩
  refine ⟨s1.heap.objs.size + 1, [s1.heap.objs.size + 1, s1.heap.objs.size], _, _, H1, rfl, I2, turn_en q (s1.heap.objs.size + 1) s1.heap.objs.size, ⟨⟨.none, he⟩, hi0, Nat.succ_ne_self _⟩, fun b hb => ?_, qR⟩
  have e' : b = s1.heap.objs.size + 1 ∨ b = s1.heap.objs.size := by simpa using hb
  have hle : s1.heap.objs.size ≤ b := by
    rcases e' with z | z
    · rw [z]; exact Nat.le_add_right _ _
    · rw [z]; exact Nat.le_refl _
  exact I1.fpOk hle (I1.hok.fresh hle)
theorem walk_en {K : Frag} {q : Sq} {xs : List V} : Walk (ItEn K q) xs.length (fun H => q.at K H xs) (YPair (fun i => some (.int (i : Nat))) (fun i => xs[i]?)) :=
  ⟨fun i H hi h => ⟨xs, xs[i], h, by simp [hi]⟩, fun H h => ⟨xs, h, rfl⟩, fun i H v H' hi h ⟨T, x, e1, e2, e3, e4⟩ => ⟨T, _, x, e1, e2, e3, rfl, e4 xs h⟩⟩

/-! ### zip -/
def ItZp (K : Frag) (q r : Sq) : L2.It :=
  ⟨fun i H => ∃ xs ys x y, q.at K H xs ∧ r.at K H ys ∧ xs[i]? = some x ∧ ys[i]? = some y,
   fun i H v H' => ∃ T x y, v = .ref T ∧ H T = none ∧ H' = upd H T (.tup [x, y]) ∧ (∀ xs, q.at K H xs → xs[i]? = some x) ∧ ∀ ys, r.at K H ys → ys[i]? = some y,
   fun i H => ∃ xs ys, q.at K H xs ∧ r.at K H ys ∧ min xs.length ys.length = i⟩
theorem turn_zp {P : Program} {w : World} {K : Frag} {elts : List Expr} {kk : Nat} {tpos : Pos} (q r : Sq) {z TI TO i1 i2 : Addr} (S : ZipSep2 z TI TO i1 i2 [i1, q.addr] [i2, r.addr]) :
    Turn P w K (.Tuple elts kk tpos) (ItZp K q r) [z, TI, TO, i1, i2] z (fun i h => IsZip h z TI TO .none ∧ IsTupOf2 h TI (.ref i1) (.ref i2) ∧ (∃ a1 a2, IsTupOf2 h TO a1 a2) ∧ q.iter h i1 i ∧ r.iter h i2 i) where
  mem := by simp
  obj := fun i h st b hb => by
    obtain ⟨hz, hI, ⟨a1, a2, hO⟩, h1, h2⟩ := st
    have e' : b = z ∨ b = TI ∨ b = TO ∨ b = i1 ∨ b = i2 := by simpa using hb
    rcases e' with e | e | e | e | e
    · rw [e]; exact ⟨_, hz, fun v q => nomatch q⟩
    · rw [e]; exact ⟨_, hI, fun v q => nomatch q⟩
    · rw [e]; exact ⟨_, hO, fun v q => nomatch q⟩
    · obtain ⟨o, n, vs, q1, q2, q3⟩ := Sq.iter_obj h1; rw [e]; exact ⟨o, q1, fun v q => by rw [q3] at q; cases q⟩
    · obtain ⟨o, n, vs, q1, q2, q3⟩ := Sq.iter_obj h2; rw [e]; exact ⟨o, q1, fun v q => by rw [q3] at q; cases q⟩
  keep := fun i h h' st k => by
    obtain ⟨hz, hI, ⟨a1, a2, hO⟩, h1, h2⟩ := st
    exact ⟨k z (by simp) _ hz, k TI (by simp) _ hI, ⟨a1, a2, k TO (by simp) _ hO⟩, Sq.iter_at h1 fun o q => k i1 (by simp) o q, Sq.iter_at h2 fun o q => k i2 (by simp) o q⟩
  item := by
    intro X hP hw hK hc i pins s σ H E I hf st hg
    subst hP hw hK
    obtain ⟨xs, ys, x, y, hq, hr, hx, hy⟩ := hg
    obtain ⟨its, rv, ob⟩ := Sq.holds I hq
    obtain ⟨jts, rw', oc⟩ := Sq.holds I hr
    obtain ⟨u, hu, ru⟩ := Vals.get rv hx
    obtain ⟨v, hv, rv'⟩ := Vals.get rw' hy
    obtain ⟨hz, hI, ⟨a1, a2, hO⟩, h1, h2⟩ := st
    obtain ⟨_, _, _, p1, _, p3⟩ := Sq.iter_obj h1
    obtain ⟨_, _, _, p4, _, p6⟩ := Sq.iter_obj h2
    have hi : i < its.size := by
      have := (List.getElem?_eq_some_iff.mp hu).1
      simpa using this
    have hj : i < jts.size := by
      have := (List.getElem?_eq_some_iff.mp hv).1
      simpa using this
    have W := GoesN.zip2 (elts := elts) (x1 := kk) (pos := tpos) S (q.draws (prog := X.prog) (w := X.w) (A := X.A.in1) (I.ok.hd hc) i1 (Sq.ne ob p1 p3) its) (r.draws (prog := X.prog) (w := X.w) (A := X.A.in1) (I.ok.hd hc) i2 (Sq.ne oc p4 p6) jts)
    refine W.goes i s _ E (by omega) ⟨hz, hI, ⟨a1, a2, hO⟩, ⟨h1, ob⟩, ⟨h2, oc⟩⟩ fun v' h' tk hY st' hk htk => ?_
    obtain ⟨T, x', y', ev, hT, hx', hy', ht⟩ := hY
    have ex : x' = u := by
      have h1 : its[i]? = some u := by simpa using hu
      rw [h1] at hx'; exact (Option.some.inj hx').symm
    have ey : y' = v := by
      have h1 : jts[i]? = some v := by simpa using hv
      rw [h1] at hy'; exact (Option.some.inj hy').symm
    subst ex ey ev
    have I1 := fresh_tup (ch := [z, TO, i1, i2]) (tk := tk) (x := x) (y := y) I (fun b hb => hf b (by simp only [List.mem_cons, List.not_mem_nil, or_false] at hb ⊢; rcases hb with e | e | e | e <;> simp [e])) hk hT ru rv' ht
    obtain ⟨z1, z2, z3, ⟨z4, _⟩, ⟨z5, _⟩⟩ := st'
    refine ⟨.ref T, _, I1, rfl, ⟨T, x, y, rfl, I.hok.fresh hT, rfl, fun as ha => by rw [Sq.inj I ha hq]; exact hx, fun as ha => by rw [Sq.inj I ha hr]; exact hy⟩, ⟨z1, z2, z3, z4, z5⟩, fun b hb => ?_⟩
    have hb' : b < s.heap.objs.size := by
      have e' : b = z ∨ b = TI ∨ b = TO ∨ b = i1 ∨ b = i2 := by simpa using hb
      rcases e' with e | e | e | e | e <;> rw [e]
      · exact Heap.lt_size hz
      · exact Heap.lt_size hI
      · exact Heap.lt_size hO
      · exact Heap.lt_size p1
      · exact Heap.lt_size p4
    rw [upd_ne (Nat.ne_of_lt (Nat.lt_of_lt_of_le hb' hT))]
    exact (hf b hb).1
  done := by
    intro X hP hw hK hc i pins s σ H E I hf st hg
    subst hP hw hK
    obtain ⟨xs, ys, hq, hr, hx⟩ := hg
    obtain ⟨its, rv, ob⟩ := Sq.holds I hq
    obtain ⟨jts, rw', oc⟩ := Sq.holds I hr
    obtain ⟨hz, hI, ⟨a1, a2, hO⟩, h1, h2⟩ := st
    obtain ⟨_, _, _, p1, _, p3⟩ := Sq.iter_obj h1
    obtain ⟨_, _, _, p4, _, p6⟩ := Sq.iter_obj h2
    have hi : min its.size jts.size = i := by
      have e1 := Vals.length rv
      have e2 := Vals.length rw'
      simp only [Array.length_toList] at e1 e2
      omega
    subst hi
    have W := GoesN.zip2 (elts := elts) (x1 := kk) (pos := tpos) S (q.draws (prog := X.prog) (w := X.w) (A := X.A.in1) (I.ok.hd hc) i1 (Sq.ne ob p1 p3) its) (r.draws (prog := X.prog) (w := X.w) (A := X.A.in1) (I.ok.hd hc) i2 (Sq.ne oc p4 p6) jts)
    refine W.stops s _ E ⟨hz, hI, ⟨a1, a2, hO⟩, ⟨h1, ob⟩, ⟨h2, oc⟩⟩ fun h' tk hk htk => ?_
    exact turnedL (ch := [z, TO, i1, i2]) I (fun b hb => hf b (by simp only [List.mem_cons, List.not_mem_nil, or_false] at hb ⊢; rcases hb with e | e | e | e <;> simp [e])) hk
  self := fun A i s Q E st h => wpAny_pyIter_zip st.1 h
def iZp (K : Frag) (ta : TA) : TI := fun σ H R => ta σ H fun vs H1 => ∃ q r xs ys, vs = [.ref (Sq.addr q), .ref (Sq.addr r)] ∧ q.at K H1 xs ∧ r.at K H1 ys ∧ R (ItZp K q r) H1
theorem Sq.lt {q : Sq} {h : Heap} {its : Array Value} (x : q.obj h its) : q.addr < h.objs.size := by
  obtain ⟨o, n, h1, _⟩ := Sq.obj_data x
  exact Heap.lt_size h1
theorem pi_zp {X : Cx} {e e2 : Expr} {ta : TA} {p pos tpos : Pos} {elts : List Expr} {kk : Nat} (hg : Gl X "zip") (hm : X.mg "zip" = none) (ha : PA X [e, e2] ta) (hs : starEach [e, e2] X.env = [(false, eval e X.env), (false, eval e2 X.env)]) (hs2 : starEach [e2] X.env = [(false, eval e2 X.env)]) :
    PI X (.Tuple elts kk tpos) (.Call (.Name "zip" p) [e, e2] [] pos) (iZp X.K ta) := by
  refine ⟨fun pins s σ H R I h => ?_⟩
  refine Call_ (ld_blt I hg hm boot_zip (PyProof.Rows.callWith_type1 (thn (ha.run pos pins s σ H _ I h) fun us s1 ⟨vs, H1, I1, r1, q1⟩ => ?_) (by rw [hs, hs2]) (by rw [hs2]; rfl)))
  obtain ⟨q, r, xs, ys, ex, hq, hr, qR⟩ := q1
  subst ex
  obtain ⟨its, rv, ob⟩ := Sq.holds I1 hq
  obtain ⟨jts, rw', oc⟩ := Sq.holds I1 hr
  obtain ⟨u1, u2, rfl, z1, z2⟩ := vals2 r1
  obtain rfl : u1 = Value.ref q.addr := z1
  obtain rfl : u2 = Value.ref r.addr := z2
  refine zip_begins2 (q.begins its) (r.begins jts) ob oc fun h' hz hI hO g1 g2 hsz hk => wpAny_pyIter_zip hz ?_
  have I2 : Inv X pins σ H1 { s1 with heap := h' } := I1.kept (t' := s1.toks) hk
  have i1 : q.iter h' s1.heap.objs.size 0 := by
    cases q with
    | L a => exact ⟨_, g1, rfl, rfl⟩
    | T a => exact ⟨_, g1, rfl, rfl⟩
  have i2 : r.iter h' (s1.heap.objs.size + 1) 0 := by
    cases r with
    | L a => exact ⟨_, g2, rfl, rfl⟩
    | T a => exact ⟨_, g2, rfl, rfl⟩
  have S := zip_sep2 (N := s1.heap.objs.size) (fp1 := [q.addr]) (fp2 := [r.addr]) (fun b hb => by rw [List.mem_singleton.mp hb]; exact Sq.lt ob) (fun b hb => by rw [List.mem_singleton.mp hb]; exact Sq.lt oc)
  refine ⟨s1.heap.objs.size + 4, [s1.heap.objs.size + 4, s1.heap.objs.size + 2, s1.heap.objs.size + 3, s1.heap.objs.size, s1.heap.objs.size + 1], _, _, H1, rfl, I2, turn_zp q r S, ⟨hz, hI, ⟨_, _, hO⟩, i1, i2⟩, fun b hb => ?_, qR⟩
  have hle : s1.heap.objs.size ≤ b := by
    have e' : b = s1.heap.objs.size + 4 ∨ b = s1.heap.objs.size + 2 ∨ b = s1.heap.objs.size + 3 ∨ b = s1.heap.objs.size ∨ b = s1.heap.objs.size + 1 := by simpa using hb
    rcases e' with e | e | e | e | e <;> rw [e] <;> first | exact Nat.le_add_right _ _ | exact Nat.le_refl _
  exact I1.fpOk hle (I1.hok.fresh hle)
theorem walk_zp {K : Frag} {q r : Sq} {xs ys : List V} : Walk (ItZp K q r) (min xs.length ys.length) (fun H => q.at K H xs ∧ r.at K H ys) (YPair (fun i => xs[i]?) (fun i => ys[i]?)) :=
  ⟨fun i H hi h => ⟨xs, ys, xs[i]'(by omega), ys[i]'(by omega), h.1, h.2, by simp, by simp⟩, fun H h => ⟨xs, ys, h.1, h.2, rfl⟩, fun i H v H' hi h ⟨T, x, y, e1, e2, e3, e4, e5⟩ => ⟨T, x, y, e1, e2, e3, e4 xs h.1, e5 ys h.2⟩⟩
end M
/-! Readings by the small language's results; one lemma a construct. -/
namespace M
open PySem PySem.Spec PyProof.Rows L2

theorem _root_.L2.PE.imp {X : Cx} {e : Expr} {t t' : TE} (h : PE X e t) (k : ∀ σ H Q, t' σ H Q → t σ H Q) : PE X e t' := ⟨fun pins s σ H Q I hw => h.run pins s σ H Q I (k σ H Q hw)⟩
theorem _root_.L2.PT.imp {X : Cx} {e : Expr} {t t' : TT} (h : PT X e t) (k : ∀ σ H Q, t' σ H Q → t σ H Q) : PT X e t' := ⟨fun pins s σ H Q I hw => h.run pins s σ H Q I (k σ H Q hw)⟩
theorem _root_.L2.PA.imp {X : Cx} {e : List Expr} {t t' : TA} (h : PA X e t) (k : ∀ σ H Q, t' σ H Q → t σ H Q) : PA X e t' := ⟨fun pos pins s σ H Q I hw => h.run pos pins s σ H Q I (k σ H Q hw)⟩
theorem _root_.L2.PS.imp {X : Cx} {e : Stmt} {t t' : TS} (h : PS X e t) (k : ∀ D σ H, t' D σ H → t D σ H) : PS X e t' := ⟨fun pins s σ H D I hw => h.run pins s σ H D I (k D σ H hw)⟩
theorem _root_.L2.PSs.imp {X : Cx} {e : List Stmt} {t t' : TS} (h : PSs X e t) (k : ∀ D σ H, t' D σ H → t D σ H) : PSs X e t' := ⟨fun pins s σ H D I hw => h.run pins s σ H D I (k D σ H hw)⟩
theorem _root_.L2.PG.imp {X : Cx} {e : Expr} {t t' : TG} (h : PG X e t) (k : ∀ v σ H Q, t' v σ H Q → t v σ H Q) : PG X e t' := ⟨fun pins s σ H v u Q I r hw => h.run pins s σ H v u Q I r (k v σ H Q hw)⟩
theorem _root_.L2.PI.imp {X : Cx} {tg e : Expr} {t t' : TI} (h : PI X tg e t) (k : ∀ σ H Q, t' σ H Q → t σ H Q) : PI X tg e t' := ⟨fun pins s σ H Q I hw => h.run pins s σ H Q I (k σ H Q hw)⟩

/-- the constants of a law: the written part, the tables, where the exception classes stand -/
structure Cn where
  K : Frag
  T : List (Addr × Str)
  C : Cls → Addr
abbrev Rel (α β : Type) := Hp → Hp → M.Env → α → β → Prop
def Post {α β : Type} (n : Cn) (c : Ct) (F : Hp) (σ : L2.St) (W : WX) (rel : Rel α β) (r : R α) (Q : β → Hp → Prop) : Prop := match r with
  | some (.ok a env) => ∀ b F' H', Sok c F' H' σ env → Same F F' → rel F' H' env a b → Q b H'
  | some (.err e env) => ∀ F' H', Sok c F' H' σ env → Same F F' → W (.ref (n.C e)) none σ H'
  | none => False
section
variable {n : Cn} {c : Ct} {F H : Hp} {σ : L2.St} {W : WX} {α β γ δ : Type}
theorem Post.imp {rel : Rel α β} {r : R α} {Q Q' : β → Hp → Prop} (h : Post n c F σ W rel r Q) (k : ∀ b H', Q b H' → Q' b H') : Post n c F σ W rel r Q' := by
  unfold Post at h ⊢
  split
  · exact fun b F' H' S sm rl => k _ _ (h b F' H' S sm rl)
  · exact h
  · exact h
theorem Post.from {rel : Rel α β} {r : R α} {Q : β → Hp → Prop} {F1 : Hp} (h : Post n c F σ W rel r Q) (e : Same F F1) : Post n c F1 σ W rel r Q := by
  unfold Post at h ⊢
  split
  · exact fun b F' H' S sm rl => h b F' H' S (e.trans sm) rl
  · exact fun F' H' S sm => h F' H' S (e.trans sm)
  · exact h
/-- the first of two steps -/
theorem Post.step {rel1 : Rel α β} {rel : Rel γ δ} {r : R α} {k : α → M.Env → R γ} {Q : δ → Hp → Prop} (h : Post n c F σ W rel (bnd r k) Q) :
    Post n c F σ W rel1 r fun b H1 => ∃ F1 env1 a, Sok c F1 H1 σ env1 ∧ Same F F1 ∧ rel1 F1 H1 env1 a b ∧ Post n c F1 σ W rel (k a env1) Q := by
  match r, h with
  | some (.ok a env), h => exact fun b F' H' S sm rl => ⟨F', env, a, S, sm, rl, Post.from h sm⟩
  | some (.err e env), h => exact h
  | none, h => exact h
end
/-- readings -/
def tR {α : Type} (n : Cn) (W : WX) (rel : Ct → L2.St → Rel α V) (r : M.Env → R α) : TE := fun σ H Q => ∃ (c : Ct) (F : Hp) (env : M.Env), c.K = n.K ∧ c.T = n.T ∧ Sok c F H σ env ∧ Post n c F σ W (rel c σ) (r env) Q
/-- in passing -/
def relT (c : Ct) (σ : L2.St) : Rel TV V := fun F _ _ t v => RepT c.K F σ v t
/-- for good -/
def relV (c : Ct) (σ : L2.St) : Rel D V := fun F _ _ d v => Rp c.K F v d
/-- a new list is nobody's -/
def newL (c : Ct) (σ : L2.St) (F H : Hp) (env : M.Env) (xs : List D) (v : V) : Prop := ∃ p vs, v = .ref p ∧ F p = none ∧ H p = some (.lst vs) ∧ RpAll c.K F vs xs ∧ c.H0 p = none ∧ ∀ (j : Nat) (k : Bool) (ys : List D), env[j]? = some (some (.own k ys)) → σ[j]? ≠ some (some (.ref p))
def relF (c : Ct) (σ : L2.St) : Rel TV V := fun F H env t v => match t with
  | .imm (.list xs) => newL c σ F H env xs v
  | .imm d => Rp c.K F v d
  | .slot i => σ[i]? = some (some v)
abbrev tT (n : Cn) (W : WX) (r : M.Env → R TV) : TE := tR n W relT r
abbrev tV (n : Cn) (W : WX) (r : M.Env → R D) : TE := tR n W relV r
abbrev tF (n : Cn) (W : WX) (r : M.Env → R TV) : TE := tR n W relF r
section
variable {n : Cn} {c : Ct} {F H : Hp} {σ : L2.St} {env : M.Env} {W : WX}
theorem Sok.fresh0 (S : Sok c F H σ env) {p : Addr} (hp : H p = none) : c.H0 p = none := by
  cases e : c.H0 p with
  | none => rfl
  | some o => exact absurd hp (S.live p (by rw [e]; simp))
/-- a new list is frozen -/
theorem Sok.freezeNew (S : Sok c F H σ env) {p : Addr} {vs : List V} (fp : F p = none) (hp : H p = some (.lst vs)) (h0 : c.H0 p = none) (ho : ∀ (j : Nat) (k : Bool) (ys : List D), env[j]? = some (some (.own k ys)) → σ[j]? ≠ some (some (.ref p))) : Sok c (upd F p (.lst vs)) H σ env := by
  refine ⟨fun b o q => ?_, S.old, S.live, fun b q m => ?_, fun b ps q => ?_, S.tabs, S.sz, S.len, fun j s q => ?_, S.apart, S.mine, S.lent⟩
  · by_cases hb : b = p
    · subst hb; rw [upd_same] at q; cases q; exact hp
    · rw [upd_ne hb] at q; exact S.sub b o q
  · have ne : b ≠ p := fun z => by subst z; exact q h0
    rw [upd_ne ne]; exact S.froz b q m
  · by_cases hb : b = p
    · subst hb; rw [upd_same] at q; cases q
    · rw [upd_ne hb] at q; exact S.nt b ps q
  · have z := S.slot j s q
    cases s with
    | val d' => obtain ⟨v, z1, z2⟩ := z; exact ⟨v, z1, Rp.mono (same_upd fp) z2⟩
    | own l zs =>
      obtain ⟨b, us, q1, q2, q3, q4⟩ := z
      have nb : b ≠ p := fun w => by
        subst w
        exact ho j l zs q q1
      exact ⟨b, us, q1, by rw [upd_ne nb]; exact q2, q3, RpAll.mono (same_upd fp) q4⟩
/-- a new thing may be used in passing -/
theorem Post.ofF {r : R TV} {Q : VK} (h : Post n c F σ W (relT c σ) r Q) : Post n c F σ W (relF c σ) r Q := by
  match r, h with
  | some (.err e env), h => exact h
  | none, h => exact h
  | some (.ok t env), h =>
    intro v F' H' S sm rl
    have plain : ∀ d, Rp c.K F' v d → t = .imm d → Q v H' := fun d q e => h v F' H' S sm (by rw [e]; exact q)
    match t, rl with
    | .slot i, rl => exact h v F' H' S sm rl
    | .imm (.list xs), rl =>
      obtain ⟨p, vs, e, fp, hp, ra, h0, ho⟩ := rl
      have S1 := S.freezeNew fp hp h0 ho
      refine h v (upd F' p (.lst vs)) H' S1 (sm.trans (same_upd fp)) ?_
      rw [e]
      exact .lst upd_same (RpAll.mono (same_upd fp) ra)
    | .imm .none, rl => exact plain _ rl rfl
    | .imm (.bool _), rl => exact plain _ rl rfl
    | .imm (.int _), rl => exact plain _ rl rfl
    | .imm (.str _), rl => exact plain _ rl rfl
    | .imm (.tuple _), rl => exact plain _ rl rfl
    | .imm (.dict _), rl => exact plain _ rl rfl
theorem _root_.L2.PE.ofF {X : Cx} {e : Expr} {r : M.Env → R TV} (h : PE X e (tF n W r)) : PE X e (tT n W r) :=
  h.imp fun σ H Q ⟨c, F, env, h1, h2, S, q⟩ => ⟨c, F, env, h1, h2, S, q.ofF⟩
/-- what an operation's result asks, from what is wanted of it -/
theorem rsF_of {Q : VK} {d : D} (S : Sok c F H σ env) (h : Post n c F σ W (relF c σ) (some (.ok (.imm d) env)) Q) : RsF c.K F H d Q := by
  have plain : ∀ v, (∀ xs, d ≠ .list xs) → Rp c.K F v d → Q v H := fun v nl q => h v F H S (Same.refl _) (by
    cases d with
    | list xs => exact absurd rfl (nl xs)
    | _ => exact q)
  match d, h, plain with
  | .list xs, h, _ =>
    intro vs ra hl p hp
    refine h (.ref p) F (upd H p (.lst vs)) (S.newU hp (SzOk.lst' S.sz hl)) (Same.refl _) ?_
    exact ⟨p, vs, rfl, S.sub.free hp, upd_same, ra, S.fresh0 hp, fun j k ys e s => S.own_ne e s hp rfl⟩
  | .tuple xs, h, plain =>
    refine ⟨fun v q => plain v (fun _ z => by cases z) q, fun vs ra hl p hp => ?_⟩
    have fp := S.sub.free hp
    refine h (.ref p) (upd F p (.tup vs)) (upd H p (.tup vs)) (S.new hp (fun ps z => by cases z) (SzOk.tup' S.sz hl)) (same_upd fp) ?_
    exact .tup (SqT.of upd_same) (RpAll.mono (same_upd fp) ra)
  | .none, h, plain => exact fun v q => plain v (fun _ z => by cases z) q
  | .bool _, h, plain => exact fun v q => plain v (fun _ z => by cases z) q
  | .int _, h, plain => exact fun v q => plain v (fun _ z => by cases z) q
  | .str _, h, plain => exact fun v q => plain v (fun _ z => by cases z) q
  | .dict _, h, plain => exact fun v q => plain v (fun _ z => by cases z) q
theorem RepT.mono {K : Frag} {F F' : Hp} {v : V} {t : TV} (r : RepT K F σ v t) (e : Same F F') : RepT K F' σ v t := by
  cases t with
  | imm d => exact Rp.mono e r
  | slot i => exact r
/-- the place of a value read in passing -/
theorem imm_some' {o : Option D} {env : M.Env} {rel : Rel TV V} {Q : VK} (h : Post n c F σ W rel (imm o env) Q) : ∃ d, o = some d ∧ Post n c F σ W rel (some (.ok (.imm d) env)) Q := by
  cases o with
  | none => exact False.elim h
  | some d => exact ⟨d, rfl, h⟩
theorem opt_some' {α β : Type} {o : Option α} {env : M.Env} {rel : Rel α β} {Q : β → Hp → Prop} (h : Post n c F σ W rel (opt o env) Q) : ∃ d, o = some d ∧ Post n c F σ W rel (some (.ok d env)) Q := by
  cases o with
  | none => exact False.elim h
  | some d => exact ⟨d, rfl, h⟩
end

/-! ### expressions without parts -/
section
variable {n : Cn} {W : WX} {X : Cx}
theorem snd_const {e : Expr} {v : V} {d : D} (h : PE X e (tC v)) (r : ∀ K F, Rp K F v d) : PE X e (tT n W fun env => some (.ok (.imm d) env)) :=
  h.imp fun σ H Q ⟨c, F, env, _, _, S, q⟩ => q v F H S (Same.refl _) (r _ _)
theorem snd_var {i : Nat} {x : Str} {pos : Pos} (hN : X.N[i]? = some x) (hv : Vis X.env.scope x) (hd : (x == ("__debug__" : Str)) = false) (hcd : (x == ("__classdict__" : Str)) = false) :
    PE X (.Name x pos) (tT n W fun env => match env[i]? with
      | some (some (.val d)) => some (.ok (.imm d) env)
      | some (some (.own _ _)) => some (.ok (.slot i) env)
      | _ => none) := by
  refine (pe_var hN hv hd hcd).imp fun σ H Q ⟨c, F, env, _, _, S, q⟩ => ?_
  dsimp only at q
  split at q
  · rename_i d e
    obtain ⟨v, h1, h2⟩ := S.slot i _ e
    exact ⟨v, h1, q v F H S (Same.refl _) h2⟩
  · rename_i k xs e
    obtain ⟨a, vs, h1, _⟩ := S.slot i _ e
    exact ⟨_, h1, q _ F H S (Same.refl _) h1⟩
  · exact False.elim q
/-! ### two parts and an operation on them -/
theorem snd_op2 {a b e : Expr} {ra rb : M.Env → R TV} {f : D → D → Option D} {rr : R2} {rel : Ct → L2.St → Rel TV V} (he : PE X e (tOp rr (tT n W ra) (tT n W rb)))
    (hr : ∀ (c : Ct) (F H : Hp) (σ : L2.St) (env : M.Env) (x y : V) (dx dy dz : D) (Q : VK), c.K = n.K → Sok c F H σ env → Dq c.K F H x dx → Dq c.K F H y dy → f dx dy = some dz → Post n c F σ W (rel c σ) (some (.ok (.imm dz) env)) Q → rr x y H Q) :
    PE X e (tR n W rel fun env => bnd (ra env) fun ta env1 => bnd (rb env1) fun tb env2 => imm ((rd env2 ta).bind fun x => (rd env2 tb).bind fun y => f x y) env2) := by
  refine he.imp fun σ H Q ⟨c, F, env, hK, hT, S, q⟩ => ?_
  refine ⟨c, F, env, hK, hT, S, (Post.step (rel1 := relT c σ) q).imp fun x H1 ⟨F1, env1, ta, S1, sm1, r1, q1⟩ => ?_⟩
  refine ⟨c, F1, env1, hK, hT, S1, (Post.step (rel1 := relT c σ) q1).imp fun y H2 ⟨F2, env2, tb, S2, sm2, r2, q2⟩ => ?_⟩
  obtain ⟨dz, e, q2⟩ := imm_some' q2
  obtain ⟨dx, e1, e⟩ := Option.bind_eq_some_iff.mp e
  obtain ⟨dy, e2, e⟩ := Option.bind_eq_some_iff.mp e
  exact hr c F2 H2 σ env2 x y dx dy dz Q hK S2 (S2.rd (RepT.mono r1 sm2) e1) (S2.rd r2 e2) e q2
theorem snd_bin {a b : Expr} {o : Bop} {pos : Pos} {ra rb : M.Env → R TV} (hX : X.K = n.K) (ha : PE X a (tT n W ra)) (hb : PE X b (tT n W rb)) :
    PE X (.BinOp a (pyB o) b pos) (tF n W fun env => bnd (ra env) fun ta env1 => bnd (rb env1) fun tb env2 => imm ((rd env2 ta).bind fun x => (rd env2 tb).bind fun y => binD o x y) env2) :=
  snd_op2 (a := a) (b := b) (pe_op (op_bin o) ha hb) fun c F H σ env x y dx dy dz Q hK S qx qy e q => by
    rw [hX, ← hK]
    exact ⟨F, dx, dy, dz, S.sub, qx, qy, S.sz, e, rsF_of S q⟩
theorem snd_cmp {a b : Expr} {o : Cop} {pos : Pos} {ra rb : M.Env → R TV} (hX : X.K = n.K) (hu : X.A.units + 64 < cLine) (hm : behindInMarks (pyC o) b = false) (ha : PE X a (tT n W ra)) (hb : PE X b (tT n W rb)) :
    PE X (.Compare a [pyC o] [b] pos) (tT n W fun env => bnd (ra env) fun ta env1 => bnd (rb env1) fun tb env2 => imm ((rd env2 ta).bind fun x => (rd env2 tb).bind fun y => (cmpD o x y).map .bool) env2) :=
  snd_op2 (a := a) (b := b) (f := fun x y => (cmpD o x y).map .bool) (pe_cmpR (op_cmp o hu) ha hb hm) fun c F H σ env x y dx dy dz Q hK S qx qy e q => by
    rw [hX, ← hK]
    obtain ⟨k, e1, rfl⟩ := Option.map_eq_some_iff.mp e
    exact ⟨F, dx, dy, k, S.sub, qx, qy, e1, q _ F H S (Same.refl _) (.bl k)⟩
theorem snd_idx {a b : Expr} {pos : Pos} {ra rb : M.Env → R TV} (hX : X.K = n.K) (hp : PlainIx b) (ha : PE X a (tT n W ra)) (hb : PE X b (tT n W rb)) :
    PE X (.Subscript a b pos) (tT n W fun env => bnd (ra env) fun ta env1 => bnd (rb env1) fun tb env2 => imm ((rd env2 ta).bind fun x => (rd env2 tb).bind fun y => idxD x y) env2) :=
  snd_op2 (a := a) (b := b) (pe_ix ix_data ha hb hp) fun c F H σ env x y dx dy dz Q hK S qx qy e q => by
    rw [hX, ← hK]
    exact ⟨F, dx, dy, dz, S.sub, qx, qy, e, fun v r => q v F H S (Same.refl _) r⟩
/-! ### one part -/
theorem snd_op1 {a e : Expr} {ra : M.Env → R TV} {f : D → Option D} {rr : V → Hp → VK → Prop} {rel : Ct → L2.St → Rel TV V} (he : PE X e (tUn rr (tT n W ra)))
    (hr : ∀ (c : Ct) (F H : Hp) (σ : L2.St) (env : M.Env) (x : V) (dx dz : D) (Q : VK), c.K = n.K → Sok c F H σ env → Dq c.K F H x dx → f dx = some dz → Post n c F σ W (rel c σ) (some (.ok (.imm dz) env)) Q → rr x H Q) :
    PE X e (tR n W rel fun env => bnd (ra env) fun ta env1 => imm ((rd env1 ta).bind f) env1) := by
  refine he.imp fun σ H Q ⟨c, F, env, hK, hT, S, q⟩ => ?_
  refine ⟨c, F, env, hK, hT, S, (Post.step (rel1 := relT c σ) q).imp fun x H1 ⟨F1, env1, ta, S1, sm1, r1, q1⟩ => ?_⟩
  obtain ⟨dz, e, q1⟩ := imm_some' q1
  obtain ⟨dx, e1, e⟩ := Option.bind_eq_some_iff.mp e
  exact hr c F1 H1 σ env1 x dx dz Q hK S1 (S1.rd r1 e1) e q1
theorem snd_neg {a : Expr} {pos : Pos} {ra : M.Env → R TV} (ha : PE X a (tT n W ra)) :
    PE X (.UnaryOp .USub a pos) (tT n W fun env => bnd (ra env) fun ta env1 => imm ((rd env1 ta).bind fun x => match x with | .int i => some (.int (-i)) | _ => none) env1) :=
  snd_op1 (a := a) (f := fun x => match x with | .int i => some (.int (-i)) | _ => none) (pe_un un_neg ha) fun c F H σ env x dx dz Q hK S qx e q => by
    cases qx <;> first | (cases e; done) | skip
    cases e
    exact ⟨_, rfl, q _ F H S (Same.refl _) (.int _)⟩
end
end M
/-! Tests, displays, slices, arguments. -/
namespace M
open PySem PySem.Spec PyProof.Rows L2
def relB : Rel Bool Bool := fun _ _ _ a b => a = b
def tBo (n : Cn) (W : WX) (r : M.Env → R Bool) : TT := fun σ H Q => ∃ (c : Ct) (F : Hp) (env : M.Env), c.K = n.K ∧ c.T = n.T ∧ Sok c F H σ env ∧ Post n c F σ W relB (r env) Q
/-- the truth of a value -/
def tru (r : M.Env → R TV) : M.Env → R Bool := fun env => bnd (r env) fun t env1 => opt ((rd env1 t).bind truth?) env1
/-- .. of a truth value -/
def trub (r : M.Env → R TV) : M.Env → R Bool := fun env => bnd (r env) fun t env1 => opt ((rd env1 t).bind bool?) env1
section
variable {n : Cn} {W : WX} {X : Cx}
theorem truth_bool {d : D} {b : Bool} (h : bool? d = some b) : truth? d = some b := by
  cases d <;> first | cases h | skip
  rfl
theorem _root_.L2.PT.weak {x : Expr} {r : M.Env → R TV} (h : PT X x (tBo n W (tru r))) : PT X x (tBo n W (trub r)) := by
  refine h.imp fun σ H Q ⟨c, F, env, hK, hT, S, q⟩ => ⟨c, F, env, hK, hT, S, ?_⟩
  unfold tru
  unfold trub at q
  match r env, q with
  | none, q => exact q
  | some (.err e env1), q => exact q
  | some (.ok t env1), q =>
    rw [bnd_ok] at q ⊢
    obtain ⟨k, e, q⟩ := opt_some' q
    obtain ⟨d, e1, e2⟩ := Option.bind_eq_some_iff.mp e
    rw [e1]
    show Post n c F σ W relB (opt (truth? d) env1) Q
    rw [truth_bool e2]
    exact q
theorem snd_truth {x : Expr} {r : M.Env → R TV} (h : PE X x (tT n W r)) (he : ∀ whole, isTrue x X.env whole = (do let v ← whole; standAt x.pos; holding [v] (truthy v))) : PT X x (tBo n W (tru r)) := by
  refine (pt_truth h he).imp fun σ H Q ⟨c, F, env, hK, hT, S, q⟩ => ?_
  refine ⟨c, F, env, hK, hT, S, (Post.step (rel1 := relT c σ) q).imp fun v H1 ⟨F1, env1, t, S1, sm1, r1, q1⟩ => ?_⟩
  obtain ⟨k, e, q1⟩ := opt_some' q1
  obtain ⟨d, e1, e2⟩ := Option.bind_eq_some_iff.mp e
  have dq := S1.rd r1 e1
  refine ⟨k, ?_, q1 k F1 H1 S1 (Same.refl _) rfl⟩
  cases dq with
  | bl b => cases e2; rfl
  | int i =>
    cases e2
    show decide (i ≠ 0) = (i != 0)
    by_cases hi : i = 0
    · subst hi; rfl
    · simp [hi]
  | _ => cases e2
/-- a test by a value that is a truth value -/
theorem snd_testV {x : Expr} {r : M.Env → R TV} {t : TE} (h : PT X x (tTest t)) (k : ∀ σ H Q, tT n W r σ H Q → t σ H Q) : PT X x (tBo n W (trub r)) := by
  refine h.imp fun σ H Q ⟨c, F, env, hK, hT, S, q⟩ => ?_
  refine k _ _ _ ⟨c, F, env, hK, hT, S, (Post.step (rel1 := relT c σ) q).imp fun v H1 ⟨F1, env1, t, S1, sm1, r1, q1⟩ => ?_⟩
  obtain ⟨b, e, q1⟩ := opt_some' q1
  obtain ⟨d, e1, e2⟩ := Option.bind_eq_some_iff.mp e
  have dq := S1.rd r1 e1
  cases dq with
  | bl b' => cases e2; exact ⟨_, rfl, q1 _ F1 H1 S1 (Same.refl _) rfl⟩
  | _ => cases e2
theorem bnd_assoc {α β γ : Type} (r : R α) (k : α → M.Env → R β) (l : β → M.Env → R γ) : bnd (bnd r k) l = bnd r fun a e => bnd (k a e) l := by
  match r with
  | none => rfl
  | some (.err e env) => rfl
  | some (.ok a env) => rfl
/-! ### and, or, not, if else -/
def andR (ra rb : M.Env → R TV) : M.Env → R TV := fun env => bnd (ra env) fun ta env1 => bnd (opt ((rd env1 ta).bind bool?) env1) fun k env2 => if k then rb env2 else some (.ok (.imm (.bool false)) env2)
def orR (ra rb : M.Env → R TV) : M.Env → R TV := fun env => bnd (ra env) fun ta env1 => bnd (opt ((rd env1 ta).bind bool?) env1) fun k env2 => if k then some (.ok (.imm (.bool true)) env2) else rb env2
def notR (ra : M.Env → R TV) : M.Env → R TV := fun env => bnd (ra env) fun ta env1 => imm ((rd env1 ta).bind fun x => (bool? x).map fun k => .bool (!k)) env1
def ifR (rt ra rb : M.Env → R TV) : M.Env → R TV := fun env => bnd (rt env) fun tt env1 => bnd (opt ((rd env1 tt).bind bool?) env1) fun k env2 => if k then ra env2 else rb env2
/-- a value that is a truth value, taken -/
theorem stepB {c : Ct} {F : Hp} {σ : L2.St} {γ δ : Type} {r : M.Env → R TV} {env : M.Env} {rel : Rel γ δ} {k : Bool → M.Env → R γ} {Q : δ → Hp → Prop} (h : Post n c F σ W rel (bnd (r env) fun ta env1 => bnd (opt ((rd env1 ta).bind bool?) env1) k) Q) :
    Post n c F σ W (relT c σ) (r env) fun v H1 => ∃ F1 env1 b, Sok c F1 H1 σ env1 ∧ Same F F1 ∧ v = .bl b ∧ Post n c F1 σ W rel (k b env1) Q := by
  refine (Post.step (rel1 := relT c σ) h).imp fun v H1 ⟨F1, env1, t, S1, sm1, r1, q1⟩ => ?_
  cases e : (rd env1 t).bind bool? with
  | none => rw [e] at q1; exact False.elim q1
  | some b =>
    rw [e] at q1
    obtain ⟨d, e1, e2⟩ := Option.bind_eq_some_iff.mp e
    have dq := S1.rd r1 e1
    cases dq with
    | bl b' => cases e2; exact ⟨F1, env1, _, S1, sm1, rfl, q1⟩
    | _ => cases e2
theorem stepBo {c : Ct} {F : Hp} {σ : L2.St} {γ δ : Type} {r : M.Env → R TV} {env : M.Env} {rel : Rel γ δ} {k : Bool → M.Env → R γ} {Q : δ → Hp → Prop} (h : Post n c F σ W rel (bnd (r env) fun ta env1 => bnd (opt ((rd env1 ta).bind bool?) env1) k) Q) :
    Post n c F σ W relB (trub r env) fun b H1 => ∃ F1 env1, Sok c F1 H1 σ env1 ∧ Same F F1 ∧ Post n c F1 σ W rel (k b env1) Q := by
  have e : (bnd (r env) fun ta env1 => bnd (opt ((rd env1 ta).bind bool?) env1) k) = bnd (trub r env) k := by unfold trub; rw [bnd_assoc]
  rw [e] at h
  exact (Post.step (rel1 := relB) h).imp fun b H1 ⟨F1, env1, a, S1, sm1, r1, q1⟩ => by
    cases r1
    exact ⟨F1, env1, S1, sm1, q1⟩
variable {ra rb rt : M.Env → R TV}
theorem snd_and {a b : Expr} {rest : List Expr} {pos : Pos} (ha : PE X a (tT n W ra)) (hb : PE X (.BoolOp .And (b :: rest) pos) (tT n W rb)) : PE X (.BoolOp .And (a :: b :: rest) pos) (tT n W (andR ra rb)) := by
  refine (pe_and ha hb).imp fun σ H Q ⟨c, F, env, hK, hT, S, q⟩ => ⟨c, F, env, hK, hT, S, (stepB q).imp fun v H1 ⟨F1, env1, k, S1, sm1, e, q1⟩ => ⟨k, e, ?_⟩⟩
  cases k with
  | true => exact ⟨c, F1, env1, hK, hT, S1, q1⟩
  | false => exact q1 _ F1 H1 S1 (Same.refl _) (.bl false)
theorem snd_or {a b : Expr} {rest : List Expr} {pos : Pos} (ha : PE X a (tT n W ra)) (hb : PE X (.BoolOp .Or (b :: rest) pos) (tT n W rb)) : PE X (.BoolOp .Or (a :: b :: rest) pos) (tT n W (orR ra rb)) := by
  refine (pe_or ha hb).imp fun σ H Q ⟨c, F, env, hK, hT, S, q⟩ => ⟨c, F, env, hK, hT, S, (stepB q).imp fun v H1 ⟨F1, env1, k, S1, sm1, e, q1⟩ => ⟨k, e, ?_⟩⟩
  cases k with
  | true => exact q1 _ F1 H1 S1 (Same.refl _) (.bl true)
  | false => exact ⟨c, F1, env1, hK, hT, S1, q1⟩
theorem snd_not {a : Expr} {pos : Pos} (ha : PE X a (tT n W ra)) : PE X (.UnaryOp .Not a pos) (tT n W (notR ra)) :=
  snd_op1 (a := a) (f := fun x => (bool? x).map fun k => .bool (!k)) (rr := fun x H Q => ∃ k, x = .bl k ∧ Q (.bl (!k)) H) (pe_not ha) fun c F H σ env x dx dz Q hK S qx e q => by
    obtain ⟨k, e1, rfl⟩ := Option.map_eq_some_iff.mp e
    cases qx with
    | bl k' => cases e1; exact ⟨_, rfl, q _ F H S (Same.refl _) (.bl _)⟩
    | _ => cases e1
theorem snd_ife {t a b : Expr} {pos : Pos} (ht : PT X t (tBo n W (tru rt))) (ha : PE X a (tT n W ra)) (hb : PE X b (tT n W rb)) : PE X (.IfExp t a b pos) (tT n W (ifR rt ra rb)) := by
  refine (pe_ifExp ht.weak ha hb).imp fun σ H Q ⟨c, F, env, hK, hT, S, q⟩ => ⟨c, F, env, hK, hT, S, (stepBo q).imp fun k H1 ⟨F1, env1, S1, sm1, q1⟩ => ?_⟩
  cases k with
  | true => exact ⟨c, F1, env1, hK, hT, S1, q1⟩
  | false => exact ⟨c, F1, env1, hK, hT, S1, q1⟩
/-! as tests -/
theorem tru_ok {c : Ct} {F : Hp} {σ : L2.St} {env : M.Env} {b : Bool} {Q : Bool → Hp → Prop} {H : Hp} (S : Sok c F H σ env) (h : Post n c F σ W relB (bnd (some (.ok (.imm (.bool b)) env) : R TV) fun t env1 => opt ((rd env1 t).bind truth?) env1) Q) : Q b H := h b F H S (Same.refl _) rfl
theorem sndw_and {a b : Expr} {rest : List Expr} {pos : Pos} (ha : PT X a (tBo n W (tru ra))) (hb : PW X (.BoolOp .And (b :: rest) pos) (tBo n W (tru rb))) : PW X (.BoolOp .And (a :: b :: rest) pos) (tBo n W (tru (andR ra rb))) := by
  have h := pw_and ha.weak hb
  refine ⟨fun wh pins s σ H Q I hw => h.run wh pins s σ H Q I ?_⟩
  obtain ⟨c, F, env, hK, hT, S, q⟩ := hw
  unfold tru andR at q
  simp only [bnd_assoc] at q
  refine ⟨c, F, env, hK, hT, S, (stepBo q).imp fun k H1 ⟨F1, env1, S1, sm1, q1⟩ => ?_⟩
  cases k with
  | true => exact ⟨c, F1, env1, hK, hT, S1, q1⟩
  | false => exact tru_ok S1 q1
theorem sndw_or {a b : Expr} {rest : List Expr} {pos : Pos} (ha : PT X a (tBo n W (tru ra))) (hb : PW X (.BoolOp .Or (b :: rest) pos) (tBo n W (tru rb))) : PW X (.BoolOp .Or (a :: b :: rest) pos) (tBo n W (tru (orR ra rb))) := by
  have h := pw_or ha.weak hb
  refine ⟨fun wh pins s σ H Q I hw => h.run wh pins s σ H Q I ?_⟩
  obtain ⟨c, F, env, hK, hT, S, q⟩ := hw
  unfold tru orR at q
  simp only [bnd_assoc] at q
  refine ⟨c, F, env, hK, hT, S, (stepBo q).imp fun k H1 ⟨F1, env1, S1, sm1, q1⟩ => ?_⟩
  cases k with
  | true => exact tru_ok S1 q1
  | false => exact ⟨c, F1, env1, hK, hT, S1, q1⟩
theorem sndt_not {a : Expr} {pos : Pos} (ha : PT X a (tBo n W (tru ra))) : PT X (.UnaryOp .Not a pos) (tBo n W (tru (notR ra))) := by
  refine (pt_not ha.weak).imp fun σ H Q ⟨c, F, env, hK, hT, S, q⟩ => ?_
  refine ⟨c, F, env, hK, hT, S, ?_⟩
  unfold tru notR at q
  simp only [bnd_assoc] at q
  unfold trub
  match ra env, q with
  | none, q => exact q
  | some (.err e env1), q => exact q
  | some (.ok t env1), q =>
    rw [bnd_ok] at q ⊢
    cases e : rd env1 t with
    | none => rw [e] at q; exact False.elim q
    | some d =>
      rw [e] at q
      cases d with
      | bool k => exact fun b F' H' S' sm rl => by cases rl; exact q _ F' H' S' sm rfl
      | _ => exact False.elim q
theorem isTrue_if {M : Model} {A : Around} {E : Value → Shared → Prop} {t a b : Expr} {pos : Pos} {env : PySem.Env} {wh : PySem.Sem Value} {Q : Bool → Shared → Prop} {s : Shared}
    (h : wpAny M A (isTrue t env (eval t env)) (fun c s1 => if c = true then wpAny M A (isTrue a env (eval a env)) Q E s1 else wpAny M A (isTrue b env (eval b env)) Q E s1) E s) : wpAny M A (isTrue (.IfExp t a b pos) env wh) Q E s := by
  show wpAny M A (do if ← isTrue t env (eval t env) then isTrue a env (eval a env) else isTrue b env (eval b env)) Q E s
  refine wpAny_bind (thn h fun c s1 q => ?_)
  cases c with
  | true => exact q
  | false => exact q
theorem sndt_ife {t a b : Expr} {pos : Pos} (ht : PT X t (tBo n W (tru rt))) (ha : PT X a (tBo n W (tru ra))) (hb : PT X b (tBo n W (tru rb))) : PT X (.IfExp t a b pos) (tBo n W (tru (ifR rt ra rb))) := by
  refine ⟨fun pins s σ H Q I hw => isTrue_if ?_⟩
  obtain ⟨c, F, env, hK, hT, S, q⟩ := hw
  unfold tru ifR at q
  simp only [bnd_assoc] at q
  refine thn (ht.weak.run pins s σ H _ I ⟨c, F, env, hK, hT, S, stepBo q⟩) fun k s1 ⟨H1, I1, F1, env1, S1, sm1, q1⟩ => ?_
  cases k with
  | true => exact ha.run pins s1 σ H1 Q I1 ⟨c, F1, env1, hK, hT, S1, q1⟩
  | false => exact hb.run pins s1 σ H1 Q I1 ⟨c, F1, env1, hK, hT, S1, q1⟩
/-! ### comparisons as tests, chains, None -/
def cmpR (o : Cop) (ra rb : M.Env → R TV) : M.Env → R TV := fun env => bnd (ra env) fun ta env1 => bnd (rb env1) fun tb env2 => imm ((rd env2 ta).bind fun x => (rd env2 tb).bind fun y => (cmpD o x y).map .bool) env2
theorem tru_trub {x : Expr} {r : M.Env → R TV} (h : PT X x (tBo n W (trub r))) (hb : ∀ env t env', r env = some (.ok t env') → ∃ b, t = .imm (.bool b)) : PT X x (tBo n W (tru r)) := by
  refine h.imp fun σ H Q ⟨c, F, env, hK, hT, S, q⟩ => ⟨c, F, env, hK, hT, S, ?_⟩
  unfold trub
  unfold tru at q
  match e : r env, q with
  | none, q => exact q
  | some (.err e env1), q => exact q
  | some (.ok t env1), q =>
    obtain ⟨b, rfl⟩ := hb env t env1 e
    exact q
theorem cmpR_bool {o : Cop} {ra rb : M.Env → R TV} (env : M.Env) (t : TV) (env' : M.Env) (h : cmpR o ra rb env = some (.ok t env')) : ∃ b, t = .imm (.bool b) := by
  unfold cmpR at h
  cases e1 : ra env with
  | none => rw [e1] at h; cases h
  | some o1 =>
    rw [e1] at h
    cases o1 with
    | err e env1 => cases h
    | ok ta env1 =>
      rw [bnd_ok] at h
      cases e2 : rb env1 with
      | none => rw [e2] at h; cases h
      | some o2 =>
        rw [e2] at h
        cases o2 with
        | err e env1 => cases h
        | ok tb env2 =>
          rw [bnd_ok] at h
          obtain ⟨d, h1, h2⟩ := Option.map_eq_some_iff.mp h
          obtain ⟨x, _, h1⟩ := Option.bind_eq_some_iff.mp h1
          obtain ⟨y, _, h1⟩ := Option.bind_eq_some_iff.mp h1
          obtain ⟨b, _, rfl⟩ := Option.map_eq_some_iff.mp h1
          cases h2
          exact ⟨b, rfl⟩
theorem sndt_cmp {a b : Expr} {o : Cop} {pos : Pos} (hX : X.K = n.K) (hu : X.A.units + 64 < cLine) (hm : behindInMarks (pyC o) b = false) (ha : PE X a (tT n W ra)) (hb : PE X b (tT n W rb)) :
    PT X (.Compare a [pyC o] [b] pos) (tBo n W (tru (cmpR o ra rb))) := by
  refine tru_trub (snd_testV (r := cmpR o ra rb) (pt_cmpR (op_cmp o hu) ha hb hm) fun σ H Q ⟨c, F, env, hK, hT, S, q⟩ => ?_) cmpR_bool
  refine ⟨c, F, env, hK, hT, S, (Post.step (rel1 := relT c σ) q).imp fun x H1 ⟨F1, env1, ta, S1, sm1, r1, q1⟩ => ?_⟩
  refine ⟨c, F1, env1, hK, hT, S1, (Post.step (rel1 := relT c σ) q1).imp fun y H2 ⟨F2, env2, tb, S2, sm2, r2, q2⟩ => ?_⟩
  obtain ⟨dz, e, q2⟩ := imm_some' q2
  obtain ⟨dx, e1, e⟩ := Option.bind_eq_some_iff.mp e
  obtain ⟨dy, e2, e⟩ := Option.bind_eq_some_iff.mp e
  obtain ⟨k, e3, rfl⟩ := Option.map_eq_some_iff.mp e
  rw [hX, ← hK]
  exact ⟨F2, dx, dy, k, S2.sub, S2.rd (RepT.mono r1 sm2) e1, S2.rd r2 e2, e3, q2 _ F2 H2 S2 (Same.refl _) (.bl k)⟩
def chainR (o p : Cop) (ra rb rc : M.Env → R TV) : M.Env → R TV := fun env => bnd (ra env) fun ta env1 => bnd (rb env1) fun tb env2 => bnd (opt ((rd env2 ta).bind fun x => (rd env2 tb).bind fun y => cmpD o x y) env2) fun k env3 =>
      if k then bnd (rc env3) fun tc env4 => imm ((rd env4 tb).bind fun y => (rd env4 tc).bind fun z => (cmpD p y z).map .bool) env4 else some (.ok (.imm (.bool false)) env3)
theorem chain_reads {o p : Cop} {rc : M.Env → R TV} (hX : X.K = n.K) {σ : L2.St} {H : Hp} {Q : VK} (h : tT n W (chainR o p ra rb rc) σ H Q) : tChain (rCmp X.K o) (rCmp X.K p) (tT n W ra) (tT n W rb) (tT n W rc) σ H Q := by
  obtain ⟨c, F, env, hK, hT, S, q⟩ := h
  refine ⟨c, F, env, hK, hT, S, (Post.step (rel1 := relT c σ) q).imp fun x H1 ⟨F1, env1, ta, S1, sm1, r1, q1⟩ => ?_⟩
  refine ⟨c, F1, env1, hK, hT, S1, (Post.step (rel1 := relT c σ) q1).imp fun y H2 ⟨F2, env2, tb, S2, sm2, r2, q2⟩ => ?_⟩
  cases e : (rd env2 ta).bind fun x => (rd env2 tb).bind fun y => cmpD o x y with
  | none => rw [e] at q2; exact False.elim q2
  | some k =>
    rw [e] at q2
    obtain ⟨dx, e1, e⟩ := Option.bind_eq_some_iff.mp e
    obtain ⟨dy, e2, e⟩ := Option.bind_eq_some_iff.mp e
    rw [hX, ← hK]
    refine ⟨F2, dx, dy, k, S2.sub, S2.rd (RepT.mono r1 sm2) e1, S2.rd r2 e2, e, k, rfl, ?_⟩
    rw [opt_some, bnd_ok] at q2
    cases k with
    | false => exact q2 _ F2 H2 S2 (Same.refl _) (.bl false)
    | true =>
      refine ⟨c, F2, env2, hK, hT, S2, (Post.step (rel1 := relT c σ) q2).imp fun w H3 ⟨F3, env3, tc, S3, sm3, r3, q3⟩ => ?_⟩
      obtain ⟨dz, e, q3⟩ := imm_some' q3
      obtain ⟨dy', e1, e⟩ := Option.bind_eq_some_iff.mp e
      obtain ⟨dw, e2, e⟩ := Option.bind_eq_some_iff.mp e
      obtain ⟨k, e3, rfl⟩ := Option.map_eq_some_iff.mp e
      exact ⟨F3, dy', dw, k, S3.sub, S3.rd (RepT.mono r2 sm3) e1, S3.rd r3 e2, e3, q3 _ F3 H3 S3 (Same.refl _) (.bl k)⟩
theorem snd_chain {a b e : Expr} {o p : Cop} {pos : Pos} {rc : M.Env → R TV} (hX : X.K = n.K) (hu : X.A.units + 64 < cLine) (hm : lastMarks [pyC o, pyC p] [b, e] = false) (ha : PE X a (tT n W ra)) (hb : PE X b (tT n W rb)) (hc : PE X e (tT n W rc)) :
    PE X (.Compare a [pyC o, pyC p] [b, e] pos) (tT n W (chainR o p ra rb rc)) :=
  (pe_chain (op_cmp o hu) (op_cmp p hu) ha hb hc hm).imp fun σ H Q h => chain_reads hX h
theorem chainR_bool {o p : Cop} {ra rb rc : M.Env → R TV} (env : M.Env) (t : TV) (env' : M.Env) (h : chainR o p ra rb rc env = some (.ok t env')) : ∃ b, t = .imm (.bool b) := by
  unfold chainR at h
  cases e1 : ra env with
  | none => rw [e1] at h; cases h
  | some o1 =>
    rw [e1] at h
    cases o1 with
    | err e env1 => cases h
    | ok ta env1 =>
      rw [bnd_ok] at h
      cases e2 : rb env1 with
      | none => rw [e2] at h; cases h
      | some o2 =>
        rw [e2] at h
        cases o2 with
        | err e env1 => cases h
        | ok tb env2 =>
          rw [bnd_ok] at h
          cases e3 : (rd env2 ta).bind fun x => (rd env2 tb).bind fun y => cmpD o x y with
          | none => rw [e3] at h; cases h
          | some k =>
            rw [e3, opt_some, bnd_ok] at h
            cases k with
            | false => cases h; exact ⟨_, rfl⟩
            | true =>
              rw [if_pos rfl] at h
              cases e4 : rc env2 with
              | none => rw [e4] at h; cases h
              | some o4 =>
                rw [e4] at h
                cases o4 with
                | err e env1 => cases h
                | ok tc env3 =>
                  rw [bnd_ok] at h
                  obtain ⟨d, h1, h2⟩ := Option.map_eq_some_iff.mp h
                  obtain ⟨x, _, h1⟩ := Option.bind_eq_some_iff.mp h1
                  obtain ⟨y, _, h1⟩ := Option.bind_eq_some_iff.mp h1
                  obtain ⟨b, _, rfl⟩ := Option.map_eq_some_iff.mp h1
                  cases h2
                  exact ⟨b, rfl⟩
theorem sndt_chain {a b e : Expr} {o p : Cop} {pos : Pos} {rc : M.Env → R TV} (hX : X.K = n.K) (hu : X.A.units + 64 < cLine) (hm : lastMarks [pyC o, pyC p] [b, e] = false) (ha : PE X a (tT n W ra)) (hb : PE X b (tT n W rb)) (hc : PE X e (tT n W rc)) :
    PT X (.Compare a [pyC o, pyC p] [b, e] pos) (tBo n W (tru (chainR o p ra rb rc))) :=
  tru_trub (snd_testV (r := chainR o p ra rb rc) (pt_chain (op_cmp o hu) (op_cmp p hu) ha hb hc hm) fun σ H Q h => chain_reads hX h) chainR_bool
def isNR (ra : M.Env → R TV) : M.Env → R TV := fun env => bnd (ra env) fun ta env1 => imm ((rd env1 ta).map fun x => .bool (isNone x)) env1
def notNR (ra : M.Env → R TV) : M.Env → R TV := fun env => bnd (ra env) fun ta env1 => imm ((rd env1 ta).map fun x => .bool (!isNone x)) env1
theorem isN_dq {K : Frag} {F H : Hp} {x : V} {d : D} (q : Dq K F H x d) : decide (x = .non) = isNone d := by
  cases q <;> simp [isNone]
theorem isN_reads {σ : L2.St} {H : Hp} {Q : VK} (h : tT n W (isNR ra) σ H Q) : tIsN (tT n W ra) σ H Q := by
  obtain ⟨c, F, env, hK, hT, S, q⟩ := h
  refine ⟨c, F, env, hK, hT, S, (Post.step (rel1 := relT c σ) q).imp fun x H1 ⟨F1, env1, ta, S1, sm1, r1, q1⟩ => ?_⟩
  obtain ⟨dz, e, q1⟩ := imm_some' q1
  obtain ⟨dx, e1, rfl⟩ := Option.map_eq_some_iff.mp e
  rw [isN_dq (S1.rd r1 e1)]
  exact q1 _ F1 H1 S1 (Same.refl _) (.bl _)
theorem notN_reads {σ : L2.St} {H : Hp} {Q : VK} (h : tT n W (notNR ra) σ H Q) : tNotN (tT n W ra) σ H Q := by
  obtain ⟨c, F, env, hK, hT, S, q⟩ := h
  refine ⟨c, F, env, hK, hT, S, (Post.step (rel1 := relT c σ) q).imp fun x H1 ⟨F1, env1, ta, S1, sm1, r1, q1⟩ => ?_⟩
  obtain ⟨dz, e, q1⟩ := imm_some' q1
  obtain ⟨dx, e1, rfl⟩ := Option.map_eq_some_iff.mp e
  rw [isN_dq (S1.rd r1 e1)]
  exact q1 _ F1 H1 S1 (Same.refl _) (.bl _)
theorem snd_isN {a : Expr} {pos p2 : Pos} {j : Nat} (ha : PE X a (tT n W ra)) : PE X (.Compare a [.Is] [.Constant .none j p2] pos) (tT n W (isNR ra)) := (pe_cmp (pc_isN ha) rfl).imp fun σ H Q h => isN_reads h
theorem snd_notN {a : Expr} {pos p2 : Pos} {j : Nat} (ha : PE X a (tT n W ra)) : PE X (.Compare a [.IsNot] [.Constant .none j p2] pos) (tT n W (notNR ra)) := (pe_cmp (pc_notN ha) rfl).imp fun σ H Q h => notN_reads h
theorem un_bool {ra : M.Env → R TV} {f : D → Bool} (env : M.Env) (t : TV) (env' : M.Env) (h : (bnd (ra env) fun ta env1 => imm ((rd env1 ta).map fun x => .bool (f x)) env1) = some (.ok t env')) : ∃ b, t = .imm (.bool b) := by
  cases e1 : ra env with
  | none => rw [e1] at h; cases h
  | some o1 =>
    rw [e1] at h
    cases o1 with
    | err e env1 => cases h
    | ok ta env1 =>
      rw [bnd_ok] at h
      obtain ⟨d, h1, h2⟩ := Option.map_eq_some_iff.mp h
      obtain ⟨x, _, rfl⟩ := Option.map_eq_some_iff.mp h1
      cases h2
      exact ⟨_, rfl⟩
theorem sndt_isN {a : Expr} {pos p2 : Pos} {j : Nat} (ha : PE X a (tT n W ra)) : PT X (.Compare a [.Is] [.Constant .none j p2] pos) (tBo n W (tru (isNR ra))) :=
  tru_trub (snd_testV (r := isNR ra) (t := tIsN (tT n W ra)) (pt_cmp (pc_isN ha) rfl) fun σ H Q h => isN_reads h) un_bool
theorem sndt_notN {a : Expr} {pos p2 : Pos} {j : Nat} (ha : PE X a (tT n W ra)) : PT X (.Compare a [.IsNot] [.Constant .none j p2] pos) (tBo n W (tru (notNR ra))) :=
  tru_trub (snd_testV (r := notNR ra) (t := tNotN (tT n W ra)) (pt_cmp (pc_notN ha) rfl) fun σ H Q h => notN_reads h) un_bool
end
end M
/-! Arguments, displays, slices, built-ins, calls. -/
namespace M
open PySem PySem.Spec PyProof.Rows L2
section
variable {n : Cn} {W : WX} {X : Cx}
/-- for good -/
theorem Post.frz {c : Ct} {F : Hp} {σ : L2.St} {r : R TV} {Q : VK} (h : Post n c F σ W (relV c σ) (M.frz r) Q) : Post n c F σ W (relT c σ) r Q := by
  match r, h with
  | none, h => exact h
  | some (.err e env), h => exact h
  | some (.ok (.imm d) env), h => exact h
  | some (.ok (.slot i) env), h =>
    intro v F' H' S sm rl
    have rl : σ[i]? = some (some v) := rl
    have h : Post n c F σ W (relV c σ) (match env[i]? with
      | some (some (Slot.own false xs)) => some (.ok (PyData.list xs) (env.set i (some (.val (.list xs)))))
      | some (some (Slot.val d)) => some (.ok d env)
      | _ => none) Q := h
    split at h
    · rename_i xs e
      obtain ⟨a, vs, h1, h2, h3, h4⟩ := S.slot i _ e
      rw [rl] at h1; cases h1
      obtain ⟨S1, sm1, rp⟩ := S.freeze e rl h3
      exact h _ _ H' S1 (sm.trans sm1) rp
    · rename_i d e
      obtain ⟨v', h1, h2⟩ := S.slot i _ e
      rw [rl] at h1; cases h1
      exact h _ F' H' S sm h2
    · exact False.elim h
theorem _root_.L2.PE.frz {x : Expr} {r : M.Env → R TV} (h : PE X x (tT n W r)) : PE X x (tV n W fun env => M.frz (r env)) :=
  h.imp fun σ H Q ⟨c, F, env, hK, hT, S, q⟩ => ⟨c, F, env, hK, hT, S, q.frz⟩
/-! ### arguments -/
def relVs (c : Ct) : Rel (List D) (List V) := fun F _ _ ds vs => RpAll c.K F vs ds
inductive RepTs (K : Frag) (F : Hp) (σ : L2.St) : List V → List TV → Prop where
  | nil : RepTs K F σ [] []
  | cons {v : V} {t : TV} {vs : List V} {ts : List TV} (h : RepT K F σ v t) (r : RepTs K F σ vs ts) : RepTs K F σ (v :: vs) (t :: ts)
def relTs (c : Ct) (σ : L2.St) : Rel (List TV) (List V) := fun F _ _ ts vs => RepTs c.K F σ vs ts
def tA {α : Type} (n : Cn) (W : WX) (rel : Ct → L2.St → Rel α (List V)) (r : M.Env → R α) : TA := fun σ H Q => ∃ (c : Ct) (F : Hp) (env : M.Env), c.K = n.K ∧ c.T = n.T ∧ Sok c F H σ env ∧ Post n c F σ W (rel c σ) (r env) Q
abbrev tVs (n : Cn) (W : WX) (r : M.Env → R (List D)) : TA := tA n W (fun c _ => relVs c) r
abbrev tTs (n : Cn) (W : WX) (r : M.Env → R (List TV)) : TA := tA n W relTs r
theorem RepTs.mono {K : Frag} {F F' : Hp} {σ : L2.St} (e : Same F F') : ∀ {vs : List V} {ts : List TV}, RepTs K F σ vs ts → RepTs K F' σ vs ts
  | _, _, .nil => .nil
  | _, _, .cons h r => .cons (RepT.mono h e) (RepTs.mono e r)
theorem snd_vnil : PA X [] (tVs n W fun env => some (.ok [] env)) := (pa_nil (X := X)).imp fun σ H Q ⟨c, F, env, hK, hT, S, q⟩ => q [] F H S (Same.refl _) .nil
theorem snd_vcons {x : Expr} {xs : List Expr} {r : M.Env → R TV} {rs : M.Env → R (List D)} (hs : starEach (x :: xs) X.env = (false, eval x X.env) :: starEach xs X.env) (h : PE X x (tT n W r)) (hr : PA X xs (tVs n W rs)) :
    PA X (x :: xs) (tVs n W fun env => bnd (M.frz (r env)) fun d env1 => bnd (rs env1) fun ds env2 => some (.ok (d :: ds) env2)) := by
  refine (pa_cons h.frz hr hs).imp fun σ H Q ⟨c, F, env, hK, hT, S, q⟩ => ⟨c, F, env, hK, hT, S, (Post.step (rel1 := relV c σ) q).imp fun v H1 ⟨F1, env1, d, S1, sm1, r1, q1⟩ => ?_⟩
  refine ⟨c, F1, env1, hK, hT, S1, (Post.step (rel1 := relVs c) q1).imp fun vs H2 ⟨F2, env2, ds, S2, sm2, r2, q2⟩ => ?_⟩
  exact q2 _ F2 H2 S2 (Same.refl _) (.cons (Rp.mono sm2 r1) r2)
theorem snd_tnil : PA X [] (tTs n W fun env => some (.ok [] env)) := (pa_nil (X := X)).imp fun σ H Q ⟨c, F, env, hK, hT, S, q⟩ => q [] F H S (Same.refl _) .nil
theorem snd_tcons {x : Expr} {xs : List Expr} {r : M.Env → R TV} {rs : M.Env → R (List TV)} (hs : starEach (x :: xs) X.env = (false, eval x X.env) :: starEach xs X.env) (h : PE X x (tT n W r)) (hr : PA X xs (tTs n W rs)) :
    PA X (x :: xs) (tTs n W fun env => bnd (r env) fun d env1 => bnd (rs env1) fun ds env2 => some (.ok (d :: ds) env2)) := by
  refine (pa_cons h hr hs).imp fun σ H Q ⟨c, F, env, hK, hT, S, q⟩ => ⟨c, F, env, hK, hT, S, (Post.step (rel1 := relT c σ) q).imp fun v H1 ⟨F1, env1, d, S1, sm1, r1, q1⟩ => ?_⟩
  refine ⟨c, F1, env1, hK, hT, S1, (Post.step (rel1 := relTs c σ) q1).imp fun vs H2 ⟨F2, env2, ds, S2, sm2, r2, q2⟩ => ?_⟩
  exact q2 _ F2 H2 S2 (Same.refl _) (.cons (RepT.mono r1 sm2) r2)
/-! ### displays -/
theorem snd_tup {es : List Expr} {k : Nat} {pos : Pos} {rs : M.Env → R (List D)} (h : PA X es (tVs n W rs)) : PE X (.Tuple es k pos) (tT n W fun env => bnd (rs env) fun ds env1 => imm (if ds.length ≤ lim then some (.tuple ds) else none) env1) := by
  refine (pe_tup h).imp fun σ H Q ⟨c, F, env, hK, hT, S, q⟩ => ⟨c, F, env, hK, hT, S, (Post.step (rel1 := relVs c) q).imp fun vs H1 ⟨F1, env1, ds, S1, sm1, r1, q1⟩ => ?_⟩
  obtain ⟨d, e, q1⟩ := imm_some' q1
  split at e
  · rename_i hl
    cases e
    have hz : vs.length ≤ sizeLine := by rw [RpAll.length r1, ← lim_eq]; exact hl
    refine ⟨hz, fun p hp => ?_⟩
    have fp := S1.sub.free hp
    exact q1 _ _ _ (S1.new hp (fun ps z => by cases z) (SzOk.tup' S1.sz hz)) (same_upd fp) (.tup (SqT.of upd_same) (RpAll.mono (same_upd fp) r1))
  · cases e
theorem snd_lst {es : List Expr} {pos : Pos} {rs : M.Env → R (List D)} (h : PA X es (tVs n W rs)) : PE X (.List es pos) (tF n W fun env => bnd (rs env) fun ds env1 => imm (if ds.length ≤ lim then some (.list ds) else none) env1) := by
  refine (pe_lst h).imp fun σ H Q ⟨c, F, env, hK, hT, S, q⟩ => ⟨c, F, env, hK, hT, S, (Post.step (rel1 := relVs c) q).imp fun vs H1 ⟨F1, env1, ds, S1, sm1, r1, q1⟩ => ?_⟩
  obtain ⟨d, e, q1⟩ := imm_some' q1
  split at e
  · rename_i hl
    cases e
    have hz : vs.length ≤ sizeLine := by rw [RpAll.length r1, ← lim_eq]; exact hl
    exact ⟨hz, fun p hp => rsF_of S1 q1 vs r1 hz p hp⟩
  · cases e
/-! ### slices -/
theorem snd_sliceF {a b : Expr} {pos p2 : Pos} {ra rb : M.Env → R TV} (hX : X.K = n.K) (ha : PE X a (tT n W ra)) (hb : PE X b (tT n W rb)) :
    PE X (.Subscript a (.Slice (some b) none none p2) pos) (tF n W fun env => bnd (ra env) fun ta env1 => bnd (rb env1) fun tb env2 => imm ((rd env2 ta).bind fun x => (rd env2 tb).bind fun y => sliceFD x y) env2) := by
  refine (pe_slice (sl_data (f := sliceFD)) ha (po_some hb) po_none).imp fun σ H Q ⟨c, F, env, hK, hT, S, q⟩ => ⟨c, F, env, hK, hT, S, (Post.step (rel1 := relT c σ) q).imp fun x H1 ⟨F1, env1, ta, S1, sm1, r1, q1⟩ => ?_⟩
  refine ⟨c, F1, env1, hK, hT, S1, (Post.step (rel1 := relT c σ) q1).imp fun y H2 ⟨F2, env2, tb, S2, sm2, r2, q2⟩ => ?_⟩
  obtain ⟨dz, e, q2⟩ := imm_some' q2
  obtain ⟨dx, e1, e⟩ := Option.bind_eq_some_iff.mp e
  obtain ⟨dy, e2, e⟩ := Option.bind_eq_some_iff.mp e
  have qy := S2.rd r2 e2
  have iy : ∃ i, dy = .int i := by
    unfold sliceFD at e
    split at e <;> first | exact ⟨_, rfl⟩ | cases e
  obtain ⟨i, rfl⟩ := iy
  cases qy
  refine ⟨i, rfl, ?_⟩
  show rSl X.K sliceFD x (some i) none H2 Q
  rw [hX, ← hK]
  exact ⟨F2, dx, i, dz, S2.sub, S2.rd (RepT.mono r1 sm2) e1, S2.sz, .inl ⟨rfl, rfl, e⟩, rsF_of S2 q2⟩
theorem snd_sliceT {a b : Expr} {pos p2 : Pos} {ra rb : M.Env → R TV} (hX : X.K = n.K) (ha : PE X a (tT n W ra)) (hb : PE X b (tT n W rb)) :
    PE X (.Subscript a (.Slice none (some b) none p2) pos) (tF n W fun env => bnd (ra env) fun ta env1 => bnd (rb env1) fun tb env2 => imm ((rd env2 ta).bind fun x => (rd env2 tb).bind fun y => sliceTD x y) env2) := by
  refine (pe_slice (sl_data (f := sliceTD)) ha po_none (po_some hb)).imp fun σ H Q ⟨c, F, env, hK, hT, S, q⟩ => ⟨c, F, env, hK, hT, S, (Post.step (rel1 := relT c σ) q).imp fun x H1 ⟨F1, env1, ta, S1, sm1, r1, q1⟩ => ?_⟩
  refine ⟨c, F1, env1, hK, hT, S1, (Post.step (rel1 := relT c σ) q1).imp fun y H2 ⟨F2, env2, tb, S2, sm2, r2, q2⟩ => ?_⟩
  obtain ⟨dz, e, q2⟩ := imm_some' q2
  obtain ⟨dx, e1, e⟩ := Option.bind_eq_some_iff.mp e
  obtain ⟨dy, e2, e⟩ := Option.bind_eq_some_iff.mp e
  have qy := S2.rd r2 e2
  have iy : ∃ i, dy = .int i := by
    unfold sliceTD at e
    split at e <;> first | exact ⟨_, rfl⟩ | cases e
  obtain ⟨i, rfl⟩ := iy
  cases qy
  refine ⟨i, rfl, ?_⟩
  rw [hX, ← hK]
  exact ⟨F2, dx, i, dz, S2.sub, S2.rd (RepT.mono r1 sm2) e1, S2.sz, .inr ⟨rfl, rfl, e⟩, rsF_of S2 q2⟩
/-! ### built-ins -/
theorem RepTs.dq {c : Ct} {F H : Hp} {σ : L2.St} {env : M.Env} (S : Sok c F H σ env) : ∀ {vs : List V} {ts : List TV} {ds : List D}, RepTs c.K F σ vs ts → ts.mapM (rd env) = some ds → DqAll c.K F H vs ds
  | _, _, ds, .nil, h => by cases h; exact .nil
  | _, t :: ts, ds, .cons r rs, h => by
    rw [List.mapM_cons] at h
    cases e1 : rd env t with
    | none => rw [e1] at h; cases h
    | some d =>
      cases e2 : ts.mapM (rd env) with
      | none => rw [e1, e2] at h; cases h
      | some ds' =>
        rw [e1, e2] at h
        cases h
        exact .cons (S.rd r e1) (RepTs.dq S rs e2)
theorem snd_bi0 {e : Expr} {b : Bi} {es : List Expr} {rs : M.Env → R (List TV)} (hX : X.K = n.K) (he : PE X e (tCB (rBi X.K b) (tTs n W rs))) :
    PE X e (tF n W fun env => bnd (rs env) fun ts env1 => imm ((ts.mapM (rd env1)).bind fun ds => biD b ds) env1) := by
  refine he.imp fun σ H Q ⟨c, F, env, hK, hT, S, q⟩ => ⟨c, F, env, hK, hT, S, (Post.step (rel1 := relTs c σ) q).imp fun vs H1 ⟨F1, env1, ts, S1, sm1, r1, q1⟩ => ?_⟩
  obtain ⟨dz, e, q1⟩ := imm_some' q1
  obtain ⟨ds, e1, e⟩ := Option.bind_eq_some_iff.mp e
  rw [hX, ← hK]
  exact ⟨F1, ds, dz, S1.sub, S1.sz, RepTs.dq S1 r1 e1, e, rsF_of S1 q1⟩
end
end M
/-! Calls of defs by their mirrors. -/
namespace M
open PySem PySem.Spec PyProof.Rows L2
/-- behind a call: the heap has grown, the lent lists may have changed -/
structure CallEnd (n : Cn) (F H : Hp) (rs : List Addr) (F' H' : Hp) : Prop where
  sub : Same F' H'
  nt : ∀ a ps, F' a ≠ some (.tbl ps)
  tabs : LamX.Tabs n.T H'
  sz : SzOk H'
  up : Same F F'
  old : ∀ a o, H a = some o → a ∉ rs → (∀ ps, o ≠ .tbl ps) → H' a = some o
  live : ∀ a, H a ≠ none → H' a ≠ none
  froz : ∀ a, H a ≠ none → a ∉ rs → F' a = F a
/-- a lent list -/
def Lent (K : Frag) (F H : Hp) (a : Addr) (xs : List D) : Prop := F a = none ∧ ∃ vs, H a = some (.lst vs) ∧ RpAll K F vs xs
structure CallBeg (n : Cn) (F H : Hp) : Prop where
  sub : Same F H
  nt : ∀ a ps, F a ≠ some (.tbl ps)
  tabs : LamX.Tabs n.T H
  sz : SzOk H
/-- the promise of a def that changes no list of its caller's -/
def sp0 (n : Cn) (np : Nat) (s : M.Sem) : Sp := fun vs H Q E => vs.length = np ∧ ∃ (F : Hp) (ds : List D), CallBeg n F H ∧ RpAll n.K F vs ds ∧
  match s [] ds with
  | some (.ok (d, [])) => ∀ v F' H', CallEnd n F H [] F' H' → Rp n.K F' v d → Q v H'
  | some (.error e) => ∀ F' H', CallEnd n F H [] F' H' → E (.ref (n.C e)) none H'
  | _ => False
/-- .. that may change the list that comes first -/
def sp1 (n : Cn) (np : Nat) (s : M.Sem) : Sp := fun vs H Q E => vs.length = np ∧ ∃ (F : Hp) (a : Addr) (xs : List D) (us : List V) (ds : List D), vs = .ref a :: us ∧ CallBeg n F H ∧ Lent n.K F H a xs ∧ RpAll n.K F us ds ∧
  match s [xs] ds with
  | some (.ok (d, [ys])) => ∀ v F' H', CallEnd n F H [a] F' H' → Lent n.K F' H' a ys → Rp n.K F' v d → Q v H'
  | _ => False
section
variable {n : Cn} {c : Ct} {F H F' H' : Hp} {σ : L2.St} {env : M.Env} {W : WX} {X : Cx}
theorem Sok.beg (S : Sok c F H σ env) (hT : c.T = n.T) : CallBeg n F H := ⟨S.sub, S.nt, by rw [← hT]; exact S.tabs, S.sz⟩
theorem Sok.called0 (S : Sok c F H σ env) (hT : c.T = n.T) (h : CallEnd n F H [] F' H') : Sok c F' H' σ env := by
  refine ⟨h.sub, fun a o e m t => h.old a o (S.old a o e m t) (by simp) t, fun a e => h.live a (S.live a e), fun a e m => ?_, h.nt, by rw [hT]; exact h.tabs, h.sz, S.len, fun i s e => ?_, S.apart, S.mine, S.lent⟩
  · rw [h.froz a (S.live a e) (by simp)]; exact S.froz a e m
  · exact (S.slot i s e).mono h.up fun a vs _ f q => ⟨h.old a _ q (by simp) (fun ps z => by cases z), by rw [h.froz a (by rw [q]; simp) (by simp)]; exact f⟩
theorem Sok.called1 (S : Sok c F H σ env) (hT : c.T = n.T) {i : Nat} {k : Bool} {xs ys : List D} {a : Addr} (e : env[i]? = some (some (.own k xs))) (s : σ[i]? = some (some (.ref a))) (h : CallEnd n F H [a] F' H') (l : Lent c.K F' H' a ys) : Sok c F' H' σ (env.set i (some (.own k ys))) := by
  have m := S.mine i k xs a e s
  have na : ∀ b, c.H0 b ≠ none → b ∉ c.B → b ∉ [a] := fun b h1 h2 h3 => by
    rw [List.mem_singleton.mp h3] at h1 h2
    rcases m with z | z
    · exact h2 z
    · exact h1 z
  have own : ∀ {j : Nat} {l : Bool} {zs : List D}, (env.set i (some (Slot.own k ys)))[j]? = some (some (Slot.own l zs)) → ∃ zs' : List D, env[j]? = some (some (Slot.own l zs')) := fun {j l zs} q => by
    rcases get_set q with ⟨rfl, q, _⟩ | ⟨_, q⟩
    · cases q; exact ⟨xs, e⟩
    · exact ⟨zs, q⟩
  refine ⟨h.sub, fun b o q m t => h.old b o (S.old b o q m t) (na b (by rw [q]; simp) m) t, fun b q => h.live b (S.live b q), fun b q m => ?_, h.nt, by rw [hT]; exact h.tabs, h.sz, by simpa using S.len, fun j s' q => ?_, fun j l u u' zs ws b e1 e2 s1 s2 => ?_, fun j u zs b q sb => ?_, fun j zs b q sb => ?_⟩
  · rw [h.froz b (S.live b q) (na b q m)]; exact S.froz b q m
  · rcases get_set q with ⟨rfl, q, _⟩ | ⟨ne, q⟩
    · cases q
      obtain ⟨l1, vs, l2, l3⟩ := l
      exact ⟨a, vs, s, l1, l2, l3⟩
    · have z := S.slot j s' q
      cases s' with
      | val d' => obtain ⟨v, z1, z2⟩ := z; exact ⟨v, z1, Rp.mono h.up z2⟩
      | own l' zs =>
        obtain ⟨b, us, q1, q2, q3, q4⟩ := z
        have nb : b ∉ [a] := fun w => by
          rw [List.mem_singleton.mp w] at q1
          exact ne (S.apart j i l' k zs xs a q e q1 s)
        exact ⟨b, us, q1, by rw [h.froz b (by rw [q3]; simp) nb]; exact q2, h.old b _ q3 nb (fun ps z => by cases z), RpAll.mono h.up q4⟩
  · obtain ⟨_, q1⟩ := own e1
    obtain ⟨_, q2⟩ := own e2
    exact S.apart j l _ _ _ _ b q1 q2 s1 s2
  · obtain ⟨_, q1⟩ := own q
    exact S.mine j _ _ b q1 sb
  · obtain ⟨_, q1⟩ := own q
    exact S.lent j _ b q1 sb
/-- what a call makes of the mirror's answer -/
def callR (f : M.Sem) (rs : List Nat) (r : M.Env → R (List D)) : M.Env → R TV := fun env => if (owned env rs).isNone then none else bnd (r env) fun ds env1 => match (owned env1 rs).bind fun xs => f xs ds with
    | some (.ok (d, ys)) => if ys.length = rs.length then some (.ok (.imm d) (giveBack env1 rs ys)) else none
    | some (.error c) => if rs.isEmpty then some (.err c env1) else none
    | none => none
theorem sp0_of {f : M.Sem} {np : Nat} {ds : List D} {vs : List V} {Q : VK} (hK : c.K = n.K) (hT : c.T = n.T) (S : Sok c F H σ env) (hl : vs.length = np) (r : RpAll c.K F vs ds)
    (q : Post n c F σ W (relT c σ) (match (owned env []).bind fun xs => f xs ds with
      | some (.ok (d, ys)) => if ys.length = ([] : List Nat).length then some (.ok (.imm d) (giveBack env [] ys)) else none
      | some (.error c) => if ([] : List Nat).isEmpty then some (.err c env) else none
      | none => none) Q) : sp0 n np f vs H Q (WE W σ) := by
  refine ⟨hl, F, ds, S.beg hT, by rw [← hK]; exact r, ?_⟩
  have e : ((owned env []).bind fun xs => f xs ds) = f [] ds := rfl
  rw [e] at q
  match f [] ds, q with
  | none, q => exact q
  | some (.error e), q => exact fun F' H' h => q F' H' (S.called0 hT h) h.up
  | some (.ok (d, [])), q => exact fun v F' H' h rp => q v F' H' (S.called0 hT h) h.up (by show Rp c.K F' v d; rw [hK]; exact rp)
  | some (.ok (d, y :: ys)), q => exact q
theorem snd_call0 {x : Str} {p pos : Pos} {a : Expr} {as : List Expr} {f : M.Sem} {r : M.Env → R (List D)} {k np : Nat} {fa : Addr} {fd : FuncData} {ps : List Str} (hX : X.K = n.K) (Fo : FnOk X.prog X.w X.K X.mg X.base (L2N.CX X.prog X.w) k fa fd ps (sp0 n np f)) (hr : Room k X.A) (hg : Gl X x) (hm : X.mg x = some (.ref fa))
    (hk : PySem.W.keepIn X.K (.ref fa) = true) (hb : Binds X.K fd ps []) (tk : L2N.Takes X W) (hdb : (x == ("__debug__" : Str)) = false) (he : starEach (a :: as) X.env = (false, eval a X.env) :: starEach as X.env) (hpl : (backTo pos (starEach as X.env)).any (·.1) = false)
    (ha : PA X (a :: as) (tVs n W r)) (hlen : ∀ env ds env', r env = some (.ok ds env') → ds.length = np) : PE X (.Call (.Name x p) (a :: as) [] pos) (tT n W (callR f [] r)) := by
  refine (pe_callS (E := WE W) Fo hr hg hm hk hb (fun σ => L2N.passAt tk σ) ha hdb he hpl).imp fun σ H Q ⟨c, F, env, hK, hT, S, q⟩ => ⟨c, F, env, hK, hT, S, ?_⟩
  have q : Post n c F σ W (relT c σ) (bnd (r env) fun ds env1 => match (owned env1 []).bind fun xs => f xs ds with
    | some (.ok (d, ys)) => if ys.length = ([] : List Nat).length then some (.ok (.imm d) (giveBack env1 [] ys)) else none
    | some (.error c) => if ([] : List Nat).isEmpty then some (.err c env1) else none
    | none => none) Q := q
  match e : r env, q with
  | none, q => exact q
  | some (.err _ _), q => exact q
  | some (.ok ds env1), q =>
    intro vs F' H' S' sm rl
    exact sp0_of hK hT S' (by rw [RpAll.length rl]; exact hlen _ _ _ e) rl (Post.from q sm)
theorem snd_calln {x : Str} {p pos : Pos} {f : M.Sem} {k : Nat} {fa : Addr} {fd : FuncData} {ps : List Str} (hX : X.K = n.K) (Fo : FnOk X.prog X.w X.K X.mg X.base (L2N.CX X.prog X.w) k fa fd ps (sp0 n 0 f)) (hr : Room k X.A) (hg : Gl X x) (hm : X.mg x = some (.ref fa))
    (hk : PySem.W.keepIn X.K (.ref fa) = true) (hb : Binds X.K fd ps []) (tk : L2N.Takes X W) (hdb : (x == ("__debug__" : Str)) = false) : PE X (.Call (.Name x p) [] [] pos) (tT n W (callR f [] fun env => some (.ok [] env))) := by
  refine ⟨fun pins s σ H Q I h => ?_⟩
  obtain ⟨c, F, env, hK, hT, S, q⟩ := h
  refine wpAny_Call_Name_kw (ld_glob I hg hm ?_ hdb)
  exact PySem.W.callWith_K0 I.kIn hk (run_fnS (E := WE W) (us := []) (vs := []) Fo hr hb (L2N.passAt tk σ) I .nil (sp0_of hK hT S rfl .nil q))
theorem snd_call1 {x y : Str} {i : Nat} {p py pos : Pos} {as : List Expr} {f : M.Sem} {r : M.Env → R (List D)} {k np : Nat} {fa : Addr} {fd : FuncData} {ps : List Str} (hX : X.K = n.K) (Fo : FnOk X.prog X.w X.K X.mg X.base (L2N.CX X.prog X.w) k fa fd ps (sp1 n np f)) (hr : Room k X.A) (hg : Gl X x) (hm : X.mg x = some (.ref fa))
    (hk : PySem.W.keepIn X.K (.ref fa) = true) (hb : Binds X.K fd ps []) (tk : L2N.Takes X W) (hdb : (x == ("__debug__" : Str)) = false) (hN : X.N[i]? = some y) (hv : Vis X.env.scope y) (hd : (y == ("__debug__" : Str)) = false) (hcd : (y == ("__classdict__" : Str)) = false)
    (hpl : (backTo pos (starEach as X.env)).any (·.1) = false)
    (ha : PA X as (tVs n W r)) (hlen : ∀ env ds env', r env = some (.ok ds env') → ds.length + 1 = np) : PE X (.Call (.Name x p) (.Name y py :: as) [] pos) (tT n W (callR f [i] r)) := by
  refine (pe_callS (E := WE W) Fo hr hg hm hk hb (fun σ => L2N.passAt tk σ) (pa_cons (pe_var hN hv hd hcd) ha rfl) hdb rfl hpl).imp fun σ H Q ⟨c, F, env, hK, hT, S, q⟩ => ?_
  show ∃ v, σ[i]? = some (some v) ∧ tVs n W r σ H fun xs H2 => sp1 n np f (v :: xs) H2 Q (WE W σ)
  unfold callR at q
  have own1 : ∀ (env : M.Env) (xs : List (List D)), owned env [i] = some xs → ∃ k ys, env[i]? = some (some (.own k ys)) ∧ xs = [ys] := fun env xs h => by
    unfold owned at h
    split at h
    · rename_i k ys e
      cases h
      exact ⟨k, ys, e, rfl⟩
    · cases h
  cases e0 : owned env [i] with
  | none => rw [e0] at q; exact False.elim q
  | some xs0 =>
    rw [e0] at q
    obtain ⟨k0, ys0, e1, _⟩ := own1 env xs0 e0
    obtain ⟨a, vs0, s1, _⟩ := S.slot i _ e1
    refine ⟨.ref a, s1, c, F, env, hK, hT, S, ?_⟩
    have q : Post n c F σ W (relT c σ) (bnd (r env) fun ds env1 => match (owned env1 [i]).bind fun xs => f xs ds with
      | some (.ok (d, ys)) => if ys.length = [i].length then some (.ok (.imm d) (giveBack env1 [i] ys)) else none
      | some (.error c) => if [i].isEmpty then some (.err c env1) else none
      | none => none) Q := q
    match e : r env, q with
    | none, q => exact q
    | some (.err _ _), q => exact q
    | some (.ok ds env1), q =>
      intro vs F' H' S' sm rl
      have q := Post.from q sm
      rw [bnd_ok] at q
      refine ⟨by rw [List.length_cons, RpAll.length rl]; exact hlen _ _ _ e, ?_⟩
      cases e2 : owned env1 [i] with
      | none => rw [e2] at q; exact False.elim q
      | some xs =>
        rw [e2] at q
        obtain ⟨k, ys, e3, rfl⟩ := own1 env1 xs e2
        obtain ⟨a', ws, s2, l1, l2, l3⟩ := S'.slot i _ e3
        rw [s1] at s2; cases s2
        refine ⟨F', a, ys, vs, ds, rfl, S'.beg hT, ⟨l1, ws, l2, by rw [← hK]; exact l3⟩, by rw [← hK]; exact rl, ?_⟩
        have q : Post n c F' σ W (relT c σ) (match f [ys] ds with
          | some (.ok (d, ys)) => if ys.length = [i].length then some (.ok (.imm d) (giveBack env1 [i] ys)) else none
          | some (.error c) => if [i].isEmpty then some (.err c env1) else none
          | none => none) Q := q
        match f [ys] ds, q with
        | none, q => exact q
        | some (.error e), q => exact q
        | some (.ok (d, [])), q => exact q
        | some (.ok (d, [zs])), q =>
          intro v F2 H2 h l rp
          have eg : giveBack env1 [i] [zs] = env1.set i (some (.own k zs)) := by
            unfold giveBack putOwn
            rw [e3]
            rfl
          have q : Post n c F' σ W (relT c σ) (some (.ok (.imm d) (giveBack env1 [i] [zs]))) Q := q
          rw [eg] at q
          exact q v F2 H2 (S'.called1 hT e3 s1 h (by rw [hK]; exact l)) h.up (by show Rp c.K F2 v d; rw [hK]; exact rp)
        | some (.ok (d, z :: z' :: zs)), q => exact q
end
end M
/-! Targets, what is walked. -/
namespace M
open PySem PySem.Spec PyProof.Rows L2
/-- a value to its target -/
def gA (n : Cn) (t : Tg) : TG := fun v σ H Q => ∃ (c : Ct) (F : Hp) (env : M.Env) (d : D) (env' : M.Env), c.K = n.K ∧ c.T = n.T ∧ Sok c F H σ env ∧ Rp c.K F v d ∧ asg t d env = some env' ∧
  ∀ σ', Sok c F H σ' env' → σ'.length = σ.length → (∀ j, j ∉ t.slots → σ'[j]? = σ[j]?) → Q σ' H
section
variable {n : Cn} {W : WX} {X : Cx}
theorem snd_gname {i : Nat} {x : Str} {pos : Pos} (hN : X.N.Nodup) (hi : X.N[i]? = some x) (hx : Loc X.env.scope x) (hf : X.fn x = true ∨ X.env.scope.names.lookup x = some .local) : PG X (.Name x pos) (gA n (.name i)) := by
  refine (pg_name hN hi hx hf).imp fun v σ H Q ⟨c, F, env, d, env', hK, hT, S, r, e, q⟩ => ?_
  unfold asg at e
  split at e
  · rename_i hl
    cases e
    exact q _ (S.setVal hl r) (by simp) fun j hj => by
      rw [List.getElem?_set_ne (fun z => hj (by simp [Tg.slots, z]))]
  · cases e
/-- no star -/
def NoStar (x : Expr) (env : PySem.Env) : Prop := ∀ xs, assignEach (x :: xs) env = (false, assign x env) :: assignEach xs env
theorem asg_pair {a b : Tg} {d : D} {env env' : M.Env} (h : asg (.pair a b) d env = some env') : ∃ x y env1, d = .tuple [x, y] ∧ asg a x env = some env1 ∧ asg b y env1 = some env' := by
  cases d with
  | tuple l =>
    match l, h with
    | [x, y], h =>
      obtain ⟨env1, e1, e2⟩ := Option.bind_eq_some_iff.mp (show ((asg a x env).bind fun e => asg b y e) = some env' from h)
      exact ⟨x, y, env1, rfl, e1, e2⟩
    | [], h => cases h
    | [_], h => cases h
    | _ :: _ :: _ :: _, h => cases h
  | _ => cases h
theorem asg_trip {a b t : Tg} {d : D} {env env' : M.Env} (h : asg (.trip a b t) d env = some env') : ∃ x y z env1 env2, d = .tuple [x, y, z] ∧ asg a x env = some env1 ∧ asg b y env1 = some env2 ∧ asg t z env2 = some env' := by
  cases d with
  | tuple l =>
    match l, h with
    | [x, y, z], h =>
      obtain ⟨env1, e1, h⟩ := Option.bind_eq_some_iff.mp (show ((asg a x env).bind fun e => (asg b y e).bind fun e => asg t z e) = some env' from h)
      obtain ⟨env2, e2, e3⟩ := Option.bind_eq_some_iff.mp h
      exact ⟨x, y, z, env1, env2, rfl, e1, e2, e3⟩
    | [], h => cases h
    | [_], h => cases h
    | [_, _], h => cases h
    | _ :: _ :: _ :: _ :: _, h => cases h
  | _ => cases h
theorem asg_quad {a b t u : Tg} {d : D} {env env' : M.Env} (h : asg (.quad a b t u) d env = some env') : ∃ x y z w env1 env2 env3, d = .tuple [x, y, z, w] ∧ asg a x env = some env1 ∧ asg b y env1 = some env2 ∧ asg t z env2 = some env3 ∧ asg u w env3 = some env' := by
  cases d with
  | tuple l =>
    match l, h with
    | [x, y, z, w], h =>
      obtain ⟨env1, e1, h⟩ := Option.bind_eq_some_iff.mp (show ((asg a x env).bind fun e => (asg b y e).bind fun e => (asg t z e).bind fun e => asg u w e) = some env' from h)
      obtain ⟨env2, e2, h⟩ := Option.bind_eq_some_iff.mp h
      obtain ⟨env3, e3, e4⟩ := Option.bind_eq_some_iff.mp h
      exact ⟨x, y, z, w, env1, env2, env3, rfl, e1, e2, e3, e4⟩
    | [], h => cases h
    | [_], h => cases h
    | [_, _], h => cases h
    | [_, _, _], h => cases h
    | _ :: _ :: _ :: _ :: _ :: _, h => cases h
  | _ => cases h
theorem rp2 {K : Frag} {F : Hp} {v : V} {x y : D} (r : Rp K F v (.tuple [x, y])) : ∃ a v1 v2, v = .ref a ∧ SqT K F a [v1, v2] ∧ Rp K F v1 x ∧ Rp K F v2 y := by
  cases r with
  | tup h t =>
    cases t with
    | cons h1 t => cases t with
      | cons h2 t => cases t; exact ⟨_, _, _, rfl, h, h1, h2⟩
theorem rp3 {K : Frag} {F : Hp} {v : V} {x y z : D} (r : Rp K F v (.tuple [x, y, z])) : ∃ a v1 v2 v3, v = .ref a ∧ SqT K F a [v1, v2, v3] ∧ Rp K F v1 x ∧ Rp K F v2 y ∧ Rp K F v3 z := by
  cases r with
  | tup h t =>
    cases t with
    | cons h1 t => cases t with
      | cons h2 t => cases t with
        | cons h3 t => cases t; exact ⟨_, _, _, _, rfl, h, h1, h2, h3⟩
theorem rp4 {K : Frag} {F : Hp} {v : V} {x y z w : D} (r : Rp K F v (.tuple [x, y, z, w])) : ∃ a v1 v2 v3 v4, v = .ref a ∧ SqT K F a [v1, v2, v3, v4] ∧ Rp K F v1 x ∧ Rp K F v2 y ∧ Rp K F v3 z ∧ Rp K F v4 w := by
  cases r with
  | tup h t =>
    cases t with
    | cons h1 t => cases t with
      | cons h2 t => cases t with
        | cons h3 t => cases t with
          | cons h4 t => cases t; exact ⟨_, _, _, _, _, rfl, h, h1, h2, h3, h4⟩
theorem snd_gpair {a b : Expr} {k : Nat} {pos : Pos} {s t : Tg} (hX : X.K = n.K) (hc : X.calm = true) (na : NoStar a X.env) (nb : NoStar b X.env) (ha : PG X a (gA n s)) (hb : PG X b (gA n t)) : PG X (.Tuple [a, b] k pos) (gA n (.pair s t)) := by
  have e2 : assignEach [b] X.env = [(false, assign b X.env)] := nb []
  have e1 : assignEach [a, b] X.env = [(false, assign a X.env), (false, assign b X.env)] := by rw [na, e2]
  refine (pg_tup (n := 2) hc (pgs_cons ha (pgs_cons hb pgs_nil (by rw [e2]; rfl)) (by rw [na]; rfl)) (by rw [e1]; rfl) (by rw [e1]; rfl)).imp fun v σ H Q ⟨c, F, env, d, env', hK, hT, S, r, e, q⟩ => ?_
  obtain ⟨x, y, env1, rfl, e1, e2⟩ := asg_pair e
  obtain ⟨ad, v1, v2, rfl, hs, r1, r2⟩ := rp2 r
  refine ⟨ad, [v1, v2], rfl, by rw [hX, ← hK]; exact SqT.mono S.sub hs, rfl, v1, [v2], rfl, ?_⟩
  refine ⟨c, F, env, x, env1, hK, hT, S, r1, e1, fun σ1 S1 l1 k1 => ⟨v2, [], rfl, ?_⟩⟩
  refine ⟨c, F, env1, y, env', hK, hT, S1, r2, e2, fun σ2 S2 l2 k2 => ⟨rfl, q σ2 S2 (l2.trans l1) fun j hj => ?_⟩⟩
  have hj : j ∉ s.slots ∧ j ∉ t.slots := by simpa [Tg.slots] using hj
  rw [k2 j hj.2, k1 j hj.1]
theorem snd_gtrip {a b d : Expr} {k : Nat} {pos : Pos} {s t u : Tg} (hX : X.K = n.K) (hc : X.calm = true) (na : NoStar a X.env) (nb : NoStar b X.env) (nd : NoStar d X.env) (ha : PG X a (gA n s)) (hb : PG X b (gA n t)) (hd : PG X d (gA n u)) : PG X (.Tuple [a, b, d] k pos) (gA n (.trip s t u)) := by
  have e3 : assignEach [d] X.env = [(false, assign d X.env)] := nd []
  have e2 : assignEach [b, d] X.env = [(false, assign b X.env), (false, assign d X.env)] := by rw [nb, e3]
  have e1 : assignEach [a, b, d] X.env = [(false, assign a X.env), (false, assign b X.env), (false, assign d X.env)] := by rw [na, e2]
  refine (pg_tup (n := 3) hc (pgs_cons ha (pgs_cons hb (pgs_cons hd pgs_nil (by rw [e3]; rfl)) (by rw [nb]; rfl)) (by rw [na]; rfl)) (by rw [e1]; rfl) (by rw [e1]; rfl)).imp fun v σ H Q ⟨c, F, env, d, env', hK, hT, S, r, e, q⟩ => ?_
  obtain ⟨x, y, z, env1, env2, rfl, e1, e2, e3⟩ := asg_trip e
  obtain ⟨ad, v1, v2, v3, rfl, hs, r1, r2, r3⟩ := rp3 r
  refine ⟨ad, [v1, v2, v3], rfl, by rw [hX, ← hK]; exact SqT.mono S.sub hs, rfl, v1, [v2, v3], rfl, ?_⟩
  refine ⟨c, F, env, x, env1, hK, hT, S, r1, e1, fun σ1 S1 l1 k1 => ⟨v2, [v3], rfl, ?_⟩⟩
  refine ⟨c, F, env1, y, env2, hK, hT, S1, r2, e2, fun σ2 S2 l2 k2 => ⟨v3, [], rfl, ?_⟩⟩
  refine ⟨c, F, env2, z, env', hK, hT, S2, r3, e3, fun σ3 S3 l3 k3 => ⟨rfl, q σ3 S3 (l3.trans (l2.trans l1)) fun j hj => ?_⟩⟩
  have hj : j ∉ s.slots ∧ j ∉ t.slots ∧ j ∉ u.slots := by simpa [Tg.slots] using hj
  rw [k3 j hj.2.2, k2 j hj.2.1, k1 j hj.1]
theorem snd_gquad {a b d e : Expr} {k : Nat} {pos : Pos} {s t u w : Tg} (hX : X.K = n.K) (hc : X.calm = true) (na : NoStar a X.env) (nb : NoStar b X.env) (nd : NoStar d X.env) (ne : NoStar e X.env) (ha : PG X a (gA n s)) (hb : PG X b (gA n t)) (hd : PG X d (gA n u)) (he : PG X e (gA n w)) : PG X (.Tuple [a, b, d, e] k pos) (gA n (.quad s t u w)) := by
  have e4 : assignEach [e] X.env = [(false, assign e X.env)] := ne []
  have e3 : assignEach [d, e] X.env = [(false, assign d X.env), (false, assign e X.env)] := by rw [nd, e4]
  have e2 : assignEach [b, d, e] X.env = [(false, assign b X.env), (false, assign d X.env), (false, assign e X.env)] := by rw [nb, e3]
  have e1 : assignEach [a, b, d, e] X.env = [(false, assign a X.env), (false, assign b X.env), (false, assign d X.env), (false, assign e X.env)] := by rw [na, e2]
  refine (pg_tup (n := 4) hc (pgs_cons ha (pgs_cons hb (pgs_cons hd (pgs_cons he pgs_nil (by rw [e4]; rfl)) (by rw [nd]; rfl)) (by rw [nb]; rfl)) (by rw [na]; rfl)) (by rw [e1]; rfl) (by rw [e1]; rfl)).imp fun v σ H Q ⟨c, F, env, d, env', hK, hT, S, r, e, q⟩ => ?_
  obtain ⟨x, y, z, x4, env1, env2, env3, rfl, e1, e2, e3, e4⟩ := asg_quad e
  obtain ⟨ad, v1, v2, v3, v4, rfl, hs, r1, r2, r3, r4⟩ := rp4 r
  refine ⟨ad, [v1, v2, v3, v4], rfl, by rw [hX, ← hK]; exact SqT.mono S.sub hs, rfl, v1, [v2, v3, v4], rfl, ?_⟩
  refine ⟨c, F, env, x, env1, hK, hT, S, r1, e1, fun σ1 S1 l1 k1 => ⟨v2, [v3, v4], rfl, ?_⟩⟩
  refine ⟨c, F, env1, y, env2, hK, hT, S1, r2, e2, fun σ2 S2 l2 k2 => ⟨v3, [v4], rfl, ?_⟩⟩
  refine ⟨c, F, env2, z, env3, hK, hT, S2, r3, e3, fun σ3 S3 l3 k3 => ⟨v4, [], rfl, ?_⟩⟩
  refine ⟨c, F, env3, x4, env', hK, hT, S3, r4, e4, fun σ4 S4 l4 k4 => ⟨rfl, q σ4 S4 (l4.trans (l3.trans (l2.trans l1))) fun j hj => ?_⟩⟩
  have hj : j ∉ s.slots ∧ j ∉ t.slots ∧ j ∉ u.slots ∧ j ∉ w.slots := by simpa [Tg.slots] using hj
  rw [k4 j hj.2.2.2, k3 j hj.2.2.1, k2 j hj.2.1, k1 j hj.1]
/-! ### what is walked -/
/-- a turn gives the datum: itself, or in a new tuple -/
def YD (K : Frag) (F : Hp) (d : D) (H : Hp) (v : V) (H' : Hp) : Prop :=
  (H' = H ∧ Rp K F v d) ∨ ∃ T vs ds, v = .ref T ∧ H T = none ∧ H' = upd H T (.tup vs) ∧ d = .tuple ds ∧ RpAll K F vs ds ∧ vs.length ≤ sizeLine
def relI (c : Ct) : Rel (List D) L2.It := fun F _ _ items J => items.length ≤ sizeLine ∧ Walk J items.length (fun H => Same F H) (fun i H v H' => ∃ d, items[i]? = some d ∧ YD c.K F d H v H')
def tIt (n : Cn) (W : WX) (r : M.Env → R (List D)) : TI := fun σ H R => ∃ (c : Ct) (F : Hp) (env : M.Env), c.K = n.K ∧ c.T = n.T ∧ Sok c F H σ env ∧ Post n c F σ W (relI c) (r env) R
theorem walk_seq {K : Frag} {F : Hp} {q : Sq} {vs : List V} {ds : List D} (h : q.at K F vs) (r : RpAll K F vs ds) : ∀ {H : Hp}, Same F H → q.at K H vs := fun {H} e => by
  cases q with
  | L a => exact e.seq h
  | T a => exact SqT.mono e h
def Sq.it (K : Frag) : Sq → L2.It
  | .L a => Itl K a
  | .T a => Itt K a
theorem sq_size {K : Frag} {H : Hp} {q : Sq} {vs : List V} (z : SzOk H) (h : q.at K H vs) : vs.length ≤ sizeLine := by
  cases q with
  | L a => exact z.sqL h
  | T a => exact z.sqT h
theorem relI_seq {c : Ct} {F H : Hp} {env : M.Env} {q : Sq} {vs : List V} {ds : List D} (z : vs.length ≤ sizeLine) (h : q.at c.K F vs) (r : RpAll c.K F vs ds) : relI c F H env ds (q.it c.K) := by
  refine ⟨by rw [← RpAll.length r]; exact z, ?_⟩
  have e : vs.length = ds.length := RpAll.length r
  have done : ∀ i H' x H'', i < ds.length → (H'' = H' ∧ vs[i]? = some x) → ∃ d, ds[i]? = some d ∧ YD c.K F d H' x H'' := fun i H' x H'' hi ⟨e1, e2⟩ => by
    obtain ⟨d, h1, h2⟩ := RpAll.get r e2
    exact ⟨d, h1, .inl ⟨e1, h2⟩⟩
  cases q with
  | L a =>
    have w := walk_list (K := c.K) (a := a) (xs := vs)
    rw [e] at w
    exact w.mono (fun H e => walk_seq (q := .L a) h r e) fun i H' x H'' hi _ y => done i H' x H'' hi y
  | T a =>
    have w := walk_tup (K := c.K) (a := a) (xs := vs)
    rw [e] at w
    exact w.mono (fun H e => walk_seq (q := .T a) h r e) fun i H' x H'' hi _ y => done i H' x H'' hi y
/-- a list or a tuple, walked -/
def iSq (K : Frag) (tl : TE) : TI := fun σ H R => tl σ H fun x H1 => ∃ q xs, x = .ref (Sq.addr q) ∧ q.at K H1 xs ∧ R (q.it K) H1
theorem pi_sq {tg l : Expr} {tl : TE} (hl : PE X l tl) : PI X tg l (iSq X.K tl) := by
  refine ⟨fun pins s σ H R I h => ?_⟩
  refine thn (hl.run pins s σ H _ I h) fun v s1 ⟨x, H1, I1, r1, q1⟩ => ?_
  obtain ⟨q, xs, e, hq, qR⟩ := q1
  subst e
  obtain rfl : v = Value.ref q.addr := r1
  have fp : ∀ b ∈ [s1.heap.objs.size], FpOk X pins H1 b := fun b hb => by
    have e : b = s1.heap.objs.size := by simpa using hb
    subst e
    exact I1.fpOk (Nat.le_refl _) (I1.hok.fresh (Nat.le_refl _))
  cases q with
  | L a =>
    obtain ⟨its, rv, p, hz⟩ := I1.list hq
    refine wpAny_pyIter_list p.isList ?_
    exact ⟨s1.heap.objs.size, [s1.heap.objs.size], _, _, H1, rfl, I1.kept (t' := s1.toks) fun b o e => Heap.get?_push_of_some _ e, turn_list a _, ⟨_, Heap.get?_push_size _ rfl, rfl, rfl⟩, fp, qR⟩
  | T a =>
    obtain ⟨its, rv, p, hz⟩ := I1.tuple hq
    refine wpAny_pyIter_tuple (show s1.heap.IsTuple a its.toArray from p) ?_
    exact ⟨s1.heap.objs.size, [s1.heap.objs.size], _, _, H1, rfl, I1.kept (t' := s1.toks) fun b o e => Heap.get?_push_of_some _ e, turn_tuple a _, ⟨_, Heap.get?_push_size _ rfl, rfl, rfl⟩, fp, qR⟩
/-- a sequence's place -/
theorem sq_of {K : Frag} {F H : Hp} {v : V} {d : D} {xs : List D} (e : Same F H) (r : Rp K F v d) (h : items? d = some xs) : ∃ q vs, v = .ref (Sq.addr q) ∧ q.at K F vs ∧ q.at K H vs ∧ RpAll K F vs xs := by
  cases r with
  | lst h1 t => cases h; exact ⟨.L _, _, rfl, SqL.of h1, SqL.of (e _ _ h1), t⟩
  | tup h1 t => cases h; exact ⟨.T _, _, rfl, h1, SqT.mono e h1, t⟩
  | _ => cases h
theorem snd_of {tg x : Expr} {r : M.Env → R TV} (hX : X.K = n.K) (h : PE X x (tT n W r)) : PI X tg x (tIt n W fun env => bnd (M.frz (r env)) fun d env1 => opt (items? d) env1) := by
  refine (pi_sq h.frz).imp fun σ H Q ⟨c, F, env, hK, hT, S, q⟩ => ⟨c, F, env, hK, hT, S, (Post.step (rel1 := relV c σ) q).imp fun v H1 ⟨F1, env1, d, S1, sm1, r1, q1⟩ => ?_⟩
  obtain ⟨xs, e, q1⟩ := opt_some' q1
  obtain ⟨sq, vs, e1, e2, e3, e4⟩ := sq_of S1.sub r1 e
  rw [hX, ← hK]
  exact ⟨sq, vs, e1, e3, q1 _ F1 H1 S1 (Same.refl _) (relI_seq (sq_size S1.sz e3) e2 e4)⟩
theorem relI_range {c : Ct} {F H : Hp} {env : M.Env} {a b : Int} {items : List D} (h : rangeD a b = some items) : relI c F H env items (Itr a (b - a).toNat) := by
  unfold rangeD at h
  split at h
  · rename_i hb
    cases h
    have w := walk_range (lo := a) (n := (b - a).toNat)
    have e : ((List.range (b - a).toNat).map fun k => PyData.int (a + (k : Nat))).length = (b - a).toNat := by simp
    unfold relI
    rw [e]
    refine ⟨by rw [sizeLine_eq]; omega, ?_⟩
    exact w.mono (fun _ _ => trivial) fun i H' x H'' hi _ ⟨e1, e2⟩ => ⟨.int (a + (i : Nat)), by simp [hi], .inl ⟨e1, by rw [e2]; exact .int _⟩⟩
  · cases h
theorem range_bounds {a b : Int} {items : List D} (h : rangeD a b = some items) : -1000000 ≤ a ∧ a ≤ 1000000 ∧ -1000000 ≤ b ∧ b ≤ 1000000 := by
  unfold rangeD at h
  split at h
  · assumption
  · cases h
end
end M
/-! Ranges, enumerate, zip; comprehensions. -/
namespace M
open PySem PySem.Spec PyProof.Rows L2
section
variable {n : Cn} {W : WX} {X : Cx}
/-- arguments in passing, one and two -/
theorem snd_range1 {tg a : Expr} {p pos : Pos} {r : M.Env → R TV} (hg : Gl X "range") (hm : X.mg "range" = none) (hs : starEach [a] X.env = [(false, eval a X.env)]) (h : PE X a (tT n W r)) :
    PI X tg (.Call (.Name "range" p) [a] [] pos) (tIt n W fun env => bnd (r env) fun t env1 => opt ((rd env1 t).bind fun x => match x with | .int i => rangeD 0 i | _ => none) env1) := by
  refine (pi_range1 hg hm (pa_cons h pa_nil hs) hs).imp fun σ H Q ⟨c, F, env, hK, hT, S, q⟩ => ⟨c, F, env, hK, hT, S, (Post.step (rel1 := relT c σ) q).imp fun v H1 ⟨F1, env1, d, S1, sm1, r1, q1⟩ => ?_⟩
  obtain ⟨xs, e, q1⟩ := opt_some' q1
  obtain ⟨dx, e1, e⟩ := Option.bind_eq_some_iff.mp e
  have dq := S1.rd r1 e1
  cases dq with
  | int i =>
    have e : rangeD 0 i = some xs := e
    have b := range_bounds e
    refine ⟨i, rfl, by omega, by omega, ?_⟩
    have w := q1 _ F1 H1 S1 (Same.refl _) (relI_range e)
    rw [Int.sub_zero] at w
    exact w
  | _ => cases e
theorem snd_range2 {tg a b : Expr} {p pos : Pos} {ra rb : M.Env → R TV} (hg : Gl X "range") (hm : X.mg "range" = none) (hs : starEach [a, b] X.env = [(false, eval a X.env), (false, eval b X.env)]) (hs2 : starEach [b] X.env = [(false, eval b X.env)]) (ha : PE X a (tT n W ra)) (hb : PE X b (tT n W rb)) :
    PI X tg (.Call (.Name "range" p) [a, b] [] pos) (tIt n W fun env => bnd (ra env) fun ta env1 => bnd (rb env1) fun tb env2 => opt ((rd env2 ta).bind fun x => (rd env2 tb).bind fun y => match x, y with | .int i, .int j => rangeD i j | _, _ => none) env2) := by
  refine (pi_range2 hg hm (pa_cons ha (pa_cons hb pa_nil hs2) (by rw [hs, hs2])) hs hs2).imp fun σ H Q ⟨c, F, env, hK, hT, S, q⟩ => ⟨c, F, env, hK, hT, S, (Post.step (rel1 := relT c σ) q).imp fun v H1 ⟨F1, env1, d, S1, sm1, r1, q1⟩ => ?_⟩
  refine ⟨c, F1, env1, hK, hT, S1, (Post.step (rel1 := relT c σ) q1).imp fun y H2 ⟨F2, env2, tb, S2, sm2, r2, q2⟩ => ?_⟩
  obtain ⟨xs, e, q2⟩ := opt_some' q2
  obtain ⟨dx, e1, e⟩ := Option.bind_eq_some_iff.mp e
  obtain ⟨dy, e2, e⟩ := Option.bind_eq_some_iff.mp e
  have dq := S2.rd (RepT.mono r1 sm2) e1
  have dq2 := S2.rd r2 e2
  cases dq with
  | int i =>
    cases dq2 with
    | int j =>
      have e : rangeD i j = some xs := e
      have b := range_bounds e
      exact ⟨i, j, rfl, ⟨by omega, by omega, by omega, by omega⟩, q2 _ F2 H2 S2 (Same.refl _) (relI_range e)⟩
    | _ => cases e
  | _ => cases e
theorem enum_get (xs : List D) (i : Nat) : (enumD xs)[i]? = xs[i]?.map fun x => .tuple [.int (i : Nat), x] := by
  unfold enumD
  rw [List.getElem?_map, List.getElem?_zipIdx]
  cases xs[i]? <;> simp
theorem zip_get : ∀ (xs ys : List D) (i : Nat) (x y : D), xs[i]? = some x → ys[i]? = some y → (zipD xs ys)[i]? = some (.tuple [x, y])
  | [], _, _, _, _, h, _ => by simp at h
  | _ :: _, [], _, _, _, _, h => by simp at h
  | a :: xs, b :: ys, 0, x, y, h, h' => by
    simp at h h'; subst h h'; rfl
  | a :: xs, b :: ys, i + 1, x, y, h, h' => by
    have := zip_get xs ys i x y (by simpa using h) (by simpa using h')
    simpa [zipD] using this
theorem zip_len (xs ys : List D) : (zipD xs ys).length = min xs.length ys.length := by unfold zipD; simp
theorem enum_len (xs : List D) : (enumD xs).length = xs.length := by unfold enumD; simp
theorem relI_enum {c : Ct} {F H : Hp} {env : M.Env} {q : Sq} {vs : List V} {ds : List D} (z : vs.length ≤ sizeLine) (h : q.at c.K F vs) (r : RpAll c.K F vs ds) : relI c F H env (enumD ds) (ItEn c.K q) := by
  have w := walk_en (K := c.K) (q := q) (xs := vs)
  unfold relI
  rw [enum_len, ← RpAll.length r]
  refine ⟨z, ?_⟩
  refine w.mono (fun H e => walk_seq h r e) fun i H' x H'' hi _ ⟨T, x1, x2, e1, e2, e3, e4, e5⟩ => ?_
  obtain ⟨d, h1, h2⟩ := RpAll.get r e5
  refine ⟨.tuple [.int (i : Nat), d], by rw [enum_get, h1]; rfl, .inr ⟨T, [x1, x2], [.int (i : Nat), d], e1, e2, e3, rfl, .cons ?_ (.cons h2 .nil), by show 2 ≤ sizeLine; decide⟩⟩
  cases e4
  exact .int _
theorem relI_zip {c : Ct} {F H : Hp} {env : M.Env} {q q' : Sq} {vs ws : List V} {ds es : List D} (z : vs.length ≤ sizeLine) (h : q.at c.K F vs) (r : RpAll c.K F vs ds) (h' : q'.at c.K F ws) (r' : RpAll c.K F ws es) : relI c F H env (zipD ds es) (ItZp c.K q q') := by
  have w := walk_zp (K := c.K) (q := q) (r := q') (xs := vs) (ys := ws)
  unfold relI
  rw [zip_len, ← RpAll.length r, ← RpAll.length r']
  refine ⟨by omega, ?_⟩
  refine w.mono (fun H e => ⟨walk_seq h r e, walk_seq h' r' e⟩) fun i H' x H'' hi _ ⟨T, x1, x2, e1, e2, e3, e4, e5⟩ => ?_
  obtain ⟨d, h1, h2⟩ := RpAll.get r e4
  obtain ⟨d', h3, h4⟩ := RpAll.get r' e5
  exact ⟨.tuple [d, d'], zip_get _ _ _ _ _ h1 h3, .inr ⟨T, [x1, x2], [d, d'], e1, e2, e3, rfl, .cons h2 (.cons h4 .nil), by show 2 ≤ sizeLine; decide⟩⟩
theorem snd_enum {a : Expr} {elts : List Expr} {kk : Nat} {tpos p pos : Pos} {r : M.Env → R TV} (hX : X.K = n.K) (hg : Gl X "enumerate") (hm : X.mg "enumerate" = none) (hs : starEach [a] X.env = [(false, eval a X.env)]) (h : PE X a (tT n W r)) :
    PI X (.Tuple elts kk tpos) (.Call (.Name "enumerate" p) [a] [] pos) (tIt n W fun env => bnd (M.frz (r env)) fun d env1 => opt ((items? d).map enumD) env1) := by
  refine (pi_en hg hm (pa_cons h.frz pa_nil hs) hs).imp fun σ H Q ⟨c, F, env, hK, hT, S, q⟩ => ⟨c, F, env, hK, hT, S, (Post.step (rel1 := relV c σ) q).imp fun v H1 ⟨F1, env1, d, S1, sm1, r1, q1⟩ => ?_⟩
  obtain ⟨xs, e, q1⟩ := opt_some' q1
  obtain ⟨ys, e0, rfl⟩ := Option.map_eq_some_iff.mp e
  obtain ⟨sq, vs, e1, e2, e3, e4⟩ := sq_of S1.sub r1 e0
  rw [hX, ← hK, e1]
  exact ⟨sq, vs, rfl, e3, q1 _ F1 H1 S1 (Same.refl _) (relI_enum (sq_size S1.sz e3) e2 e4)⟩
theorem snd_zip {a b : Expr} {elts : List Expr} {kk : Nat} {tpos p pos : Pos} {ra rb : M.Env → R TV} (hX : X.K = n.K) (hg : Gl X "zip") (hm : X.mg "zip" = none) (hs : starEach [a, b] X.env = [(false, eval a X.env), (false, eval b X.env)]) (hs2 : starEach [b] X.env = [(false, eval b X.env)]) (ha : PE X a (tT n W ra)) (hb : PE X b (tT n W rb)) :
    PI X (.Tuple elts kk tpos) (.Call (.Name "zip" p) [a, b] [] pos) (tIt n W fun env => bnd (M.frz (ra env)) fun x env1 => bnd (M.frz (rb env1)) fun y env2 => opt ((items? x).bind fun xs => (items? y).map fun ys => zipD xs ys) env2) := by
  refine (pi_zp hg hm (pa_cons ha.frz (pa_cons hb.frz pa_nil hs2) (by rw [hs, hs2])) hs hs2).imp fun σ H Q ⟨c, F, env, hK, hT, S, q⟩ => ⟨c, F, env, hK, hT, S, (Post.step (rel1 := relV c σ) q).imp fun v H1 ⟨F1, env1, d, S1, sm1, r1, q1⟩ => ?_⟩
  refine ⟨c, F1, env1, hK, hT, S1, (Post.step (rel1 := relV c σ) q1).imp fun v2 H2 ⟨F2, env2, d2, S2, sm2, r2, q2⟩ => ?_⟩
  obtain ⟨xs, e, q2⟩ := opt_some' q2
  obtain ⟨ys, e5, e'⟩ := Option.bind_eq_some_iff.mp e
  obtain ⟨zs, e6, rfl⟩ := Option.map_eq_some_iff.mp e'
  obtain ⟨sq, vs, e1, e2, e3, e4⟩ := sq_of S2.sub (Rp.mono sm2 r1) e5
  obtain ⟨sq', ws, f1, f2, f3, f4⟩ := sq_of S2.sub r2 e6
  rw [hX, ← hK, e1, f1]
  exact ⟨sq, sq', vs, ws, rfl, e3, f3, q2 _ F2 H2 S2 (Same.refl _) (relI_zip (sq_size S2.sz e3) e2 e4 f2 f4)⟩
/-! ### comprehensions -/
/-- the new list grows: it is nobody's -/
theorem Sok.grow {c : Ct} {F H : Hp} {σ : L2.St} {env : M.Env} (S : Sok c F H σ env) {p : Addr} {vs ws : List V} (fp : F p = none) (hp : H p = some (.lst vs)) (h0 : c.H0 p = none) (ho : p ∉ owns σ env) (hz : ws.length ≤ sizeLine) : Sok c F (upd H p (.lst ws)) σ env := by
  refine ⟨fun b o q => ?_, fun b o q m t => ?_, fun b q => ?_, S.froz, S.nt, tabs_updL S.tabs hp, SzOk.lst' S.sz hz, S.len, fun j s q => ?_, S.apart, S.mine, S.lent⟩
  · rw [upd_ne (ne_of_none q fp)]; exact S.sub b o q
  · have ne : b ≠ p := fun z => by subst z; rw [h0] at q; cases q
    rw [upd_ne ne]; exact S.old b o q m t
  · by_cases hb : b = p
    · rw [hb, upd_same]; simp
    · rw [upd_ne hb]; exact S.live b q
  · have z := S.slot j s q
    cases s with
    | val d' => exact z
    | own l zs =>
      obtain ⟨b, us, q1, q2, q3, q4⟩ := z
      have nb : b ≠ p := fun w => by
        subst w
        exact ho (mem_owns.mpr ⟨j, l, zs, q, q1⟩)
      exact ⟨b, us, q1, q2, by rw [upd_ne nb]; exact q3, q4⟩
theorem wipeE_len (env : M.Env) : ∀ vs : List Nat, (wipeE env vs).length = env.length
  | [] => rfl
  | v :: vs => by unfold wipeE; rw [List.length_set, wipeE_len env vs]
theorem wipeE_get {env : M.Env} {i : Nat} {s : Slot} : ∀ {vs : List Nat}, (wipeE env vs)[i]? = some (some s) → env[i]? = some (some s) ∧ i ∉ vs
  | [], h => ⟨h, by simp⟩
  | v :: vs, h => by
    unfold wipeE at h
    rcases get_set h with ⟨_, q, _⟩ | ⟨ne, q⟩
    · cases q
    · obtain ⟨h1, h2⟩ := wipeE_get q
      exact ⟨h1, by simp only [List.mem_cons, not_or]; exact ⟨ne, h2⟩⟩
/-- other slots of the frame, the same where the environment speaks -/
theorem Sok.slots {c : Ct} {F H : Hp} {σ σ' : L2.St} {env env' : M.Env} (S : Sok c F H σ env) (hl : env'.length ≤ σ'.length) (he : ∀ (i : Nat) (s : Slot), env'[i]? = some (some s) → env[i]? = some (some s) ∧ σ'[i]? = σ[i]?) : Sok c F H σ' env' := by
  refine ⟨S.sub, S.old, S.live, S.froz, S.nt, S.tabs, S.sz, hl, fun j s q => ?_, fun i j k l xs ys a e1 e2 s1 s2 => ?_, fun i k xs a e s => ?_, fun i xs a e s => ?_⟩
  · obtain ⟨h1, h2⟩ := he j s q
    have z := S.slot j s h1
    cases s with
    | val d' => obtain ⟨v, z1, z2⟩ := z; exact ⟨v, h2.trans z1, z2⟩
    | own l zs => obtain ⟨b, us, q1, q2⟩ := z; exact ⟨b, us, h2.trans q1, q2⟩
  · obtain ⟨h1, h2⟩ := he i _ e1
    obtain ⟨h3, h4⟩ := he j _ e2
    exact S.apart i j k l xs ys a h1 h3 (h2 ▸ s1) (h4 ▸ s2)
  · obtain ⟨h1, h2⟩ := he i _ e
    exact S.mine i k xs a h1 (h2 ▸ s)
  · obtain ⟨h1, h2⟩ := he i _ e
    exact S.lent i xs a h1 (h2 ▸ s)
theorem Sok.wiped {c : Ct} {F H : Hp} {σ : L2.St} {env : M.Env} (S : Sok c F H σ env) (vs : List Nat) : Sok c F H (wipe σ vs) (wipeE env vs) :=
  S.slots (by rw [wipeE_len, wipe_length]; exact S.len) fun i s e => ⟨(wipeE_get e).1, wipe_out (wipeE_get e).2⟩
theorem Sok.wipedE {c : Ct} {F H : Hp} {σ : L2.St} {env : M.Env} (S : Sok c F H σ env) (vs : List Nat) : Sok c F H σ (wipeE env vs) :=
  S.slots (by rw [wipeE_len]; exact S.len) fun i s e => ⟨(wipeE_get e).1, rfl⟩
theorem wipe_mem {σ : L2.St} {i : Nat} : ∀ {vs : List Nat}, i ∈ vs → i < σ.length → (wipe σ vs)[i]? = some none
  | v :: vs, h, hl => by
    unfold wipe
    by_cases hv : i = v
    · subst hv; rw [List.getElem?_set_self (by rw [wipe_length]; exact hl)]
    · rw [List.getElem?_set_ne (Ne.symm hv)]
      rcases List.mem_cons.mp h with z | z
      · exact absurd z hv
      · exact wipe_mem z hl
theorem wipe_eq {σ σ2 : L2.St} {vs : List Nat} (hl : σ2.length = σ.length) (h : ∀ j, j ∉ vs → σ2[j]? = σ[j]?) : wipe σ2 vs = wipe σ vs := by
  refine List.ext_getElem? fun j => ?_
  by_cases hj : j ∈ vs
  · by_cases hlt : j < σ.length
    · rw [wipe_mem hj hlt, wipe_mem hj (by rw [hl]; exact hlt)]
    · rw [List.getElem?_eq_none (by rw [wipe_length]; omega), List.getElem?_eq_none (by rw [wipe_length]; omega)]
  · rw [wipe_out hj, wipe_out hj, h j hj]
theorem wipeE_out {env : M.Env} {i : Nat} : ∀ {vs : List Nat}, i ∉ vs → (wipeE env vs)[i]? = env[i]?
  | [], _ => rfl
  | v :: vs, h => by
    unfold wipeE
    rw [List.getElem?_set_ne (fun z => h (by simp [z])), wipeE_out fun z => h (by simp [z])]
theorem back_len (old new : M.Env) : ∀ vs : List Nat, (back old new vs).length = new.length
  | [] => rfl
  | v :: vs => by unfold back; rw [List.length_set, back_len old new vs]
theorem back_get {old new : M.Env} {i : Nat} {s : Slot} : ∀ {vs : List Nat}, (back old new vs)[i]? = some (some s) → (i ∉ vs ∧ new[i]? = some (some s)) ∨ ∃ d, s = .val d ∧ old[i]? = some (some (.val d))
  | [], h => .inl ⟨by simp, h⟩
  | v :: vs, h => by
    unfold back at h
    rcases get_set h with ⟨rfl, q, _⟩ | ⟨ne, q⟩
    · split at q
      · rename_i d e; cases q; exact .inr ⟨d, rfl, e⟩
      · cases q
    · rcases back_get q with ⟨h1, h2⟩ | h
      · exact .inl ⟨by simp only [List.mem_cons, not_or]; exact ⟨ne, h1⟩, h2⟩
      · exact .inr h
theorem Sok.restored {c : Ct} {F F1 H H1 : Hp} {σ : L2.St} {env1 env2 : M.Env} {vs : List Nat} (S : Sok c F H σ (wipeE env2 vs)) (S1 : Sok c F1 H1 σ env1) (sm : Same F1 F) : Sok c F H σ (M.back env1 env2 vs) := by
  have own : ∀ {i : Nat} {k : Bool} {xs : List D}, (M.back env1 env2 vs)[i]? = some (some (Slot.own k xs)) → (wipeE env2 vs)[i]? = some (some (Slot.own k xs)) := fun {i k xs} e => by
    rcases back_get e with ⟨h1, h2⟩ | ⟨d, h1, _⟩
    · rw [wipeE_out h1]; exact h2
    · cases h1
  refine ⟨S.sub, S.old, S.live, S.froz, S.nt, S.tabs, S.sz, ?_, fun j s q => ?_, fun i j k l xs ys a e1 e2 s1 s2 => S.apart i j k l xs ys a (own e1) (own e2) s1 s2, fun i k xs a e s => S.mine i k xs a (own e) s, fun i xs a e s => S.lent i xs a (own e) s⟩
  · rw [back_len]; have := S.len; rw [wipeE_len] at this; exact this
  · rcases back_get q with ⟨h1, h2⟩ | ⟨d, rfl, h2⟩
    · exact S.slot j s (by rw [wipeE_out h1]; exact h2)
    · obtain ⟨v, z1, z2⟩ := S1.slot j _ h2
      exact ⟨v, z1, Rp.mono sm z2⟩
def stepC (t : Tg) (rc : M.Env → R Bool) (re : M.Env → R TV) : D → M.Env → R (Option D) := fun d env => match asg t d (wipeE env t.slots) with
  | none => none
  | some env2 => bnd (rc env2) fun k env3 => if k then bnd (M.frz (re env3)) fun x env4 => some (.ok (some x) env4) else some (.ok none env3)
def compR (t : Tg) (rit : M.Env → R (List D)) (rc : M.Env → R Bool) (re : M.Env → R TV) : M.Env → R TV := fun env => bnd (rit env) fun items env1 =>
  bnd (noErr (compL (stepC t rc re) items env1)) fun xs env2 => some (.ok (.imm (.list xs)) (back env1 env2 t.slots))
abbrev WF : WX := fun _ _ _ _ => False
theorem bnd_inv {α β : Type} {r : R α} {k : α → M.Env → R β} {b : β} {e : M.Env} (h : bnd r k = some (.ok b e)) : ∃ a e1, r = some (.ok a e1) ∧ k a e1 = some (.ok b e) := by
  match r, h with
  | some (.ok a e1), h => exact ⟨a, e1, rfl, h⟩
  | some (.err _ _), h => cases h
  | none, h => cases h
theorem noErr_inv {α : Type} {r : R α} {γ δ : Type} {c : Ct} {F : Hp} {σ : L2.St} {rel : Rel γ δ} {k : α → M.Env → R γ} {Q : δ → Hp → Prop} (h : Post n c F σ W rel (bnd (noErr r) k) Q) : ∃ a e, r = some (.ok a e) ∧ Post n c F σ W rel (k a e) Q := by
  match r, h with
  | some (.ok a e1), h => exact ⟨a, e1, rfl, h⟩
  | some (.err _ _), h => exact False.elim h
  | none, h => exact False.elim h
theorem comp_reads {t : Tg} {rit : M.Env → R (List D)} {rc : M.Env → R Bool} {re : M.Env → R TV} {σ : L2.St} {H : Hp} {Q : VK} (h : tF n W (compR t rit rc re) σ H Q) :
    tLc (tIt n W rit) (gA n t) (tBo n WF rc) (tV n WF fun env => M.frz (re env)) t.slots σ H Q := by
  obtain ⟨c, F, env, hK, hT, S, q⟩ := h
  refine ⟨c, F, env, hK, hT, S, (Post.step (rel1 := relI c) q).imp fun J H1 ⟨F1, env1, items, S1, sm1, ⟨hsz, wk⟩, q1⟩ => fun D hD => ?_⟩
  obtain ⟨xs, env2, e, q1⟩ := noErr_inv q1
  have h0D : c.H0 D = none := S1.fresh0 hD
  have fD : F1 D = none := S1.sub.free hD
  refine lc_it wk (fun i H => ∃ Fi envi acc accD rest, Sok c Fi H σ (wipeE envi t.slots) ∧ Same F1 Fi ∧ H D = some (.lst acc) ∧ Fi D = none ∧ D ∉ owns σ (wipeE envi t.slots) ∧ RpAll c.K Fi acc accD ∧ acc.length ≤ i ∧ compL (stepC t rc re) (items.drop i) envi = some (.ok rest env2) ∧ accD ++ rest = xs) ?_ ?_ ?_ ?_
  · refine ⟨F1, env1, [], [], xs, ((S1.newU hD (SzOk.lst' S1.sz (Nat.zero_le _))).wipedE t.slots), Same.refl _, upd_same, fD, fun z => ?_, .nil, Nat.le_refl _, e, rfl⟩
    obtain ⟨j, k, ys, h1, h2⟩ := mem_owns.mp z
    exact S1.own_ne (wipeE_get h1).1 h2 hD rfl
  · rintro i H _ ⟨Fi, envi, acc, accD, rest, Si, smi, _⟩
    exact smi.trans Si.sub
  · rintro i x H H' hi ⟨Fi, envi, acc, accD, rest, Si, smi, hDa, fDi, nD, ra, la, ec, ex⟩ ⟨d, hd, yd⟩
    -- the item
    obtain ⟨F', S', sm', rp, hD', fD'⟩ : ∃ F', Sok c F' H' σ (wipeE envi t.slots) ∧ Same Fi F' ∧ Rp c.K F' x d ∧ H' D = some (.lst acc) ∧ F' D = none := by
      rcases yd with ⟨rfl, rp⟩ | ⟨T, ws, ds, rfl, hT', rfl, rfl, rw', hw⟩
      · exact ⟨Fi, Si, Same.refl _, Rp.mono smi rp, hDa, fDi⟩
      · have fT := Si.sub.free hT'
        have ne : D ≠ T := ne_of_none hDa hT'
        exact ⟨upd Fi T (.tup ws), Si.new hT' (fun ps z => by cases z) (SzOk.tup' Si.sz hw), same_upd fT, .tup (SqT.of upd_same) (RpAll.mono (smi.trans (same_upd fT)) rw'), by rw [upd_ne ne]; exact hDa, by rw [upd_ne ne]; exact fDi⟩
    have Sw : Sok c F' H' (wipe σ t.slots) (wipeE envi t.slots) := S'.slots (by rw [wipe_length]; exact S'.len) fun j s e => ⟨e, wipe_out (wipeE_get e).2⟩
    have nDw : D ∉ owns (wipe σ t.slots) (wipeE envi t.slots) := fun z => by
      obtain ⟨j, k, ys, h1, h2⟩ := mem_owns.mp z
      rw [wipe_out (wipeE_get h1).2] at h2
      exact nD (mem_owns.mpr ⟨j, k, ys, h1, h2⟩)
    have Sn := Sw.now
    -- the turn's reckoning
    have edrop : items.drop i = d :: items.drop (i + 1) := by
      rw [List.drop_eq_getElem_cons hi]
      congr 1
      have := List.getElem?_eq_getElem hi
      rw [this] at hd
      exact Option.some.inj hd
    rw [edrop] at ec
    obtain ⟨o, e1, es, ec⟩ := bnd_inv (show bnd (stepC t rc re d envi) _ = _ from ec)
    obtain ⟨r', e2, er, ec⟩ := bnd_inv ec
    cases ec
    cases ea : asg t d (wipeE envi t.slots) with
    | none => unfold stepC at es; rw [ea] at es; cases es
    | some enva =>
      unfold stepC at es
      rw [ea] at es
      obtain ⟨k, e3, ek, es⟩ := bnd_inv es
      refine ⟨c.now F' H' (wipe σ t.slots) (wipeE envi t.slots), F', _, d, enva, hK, hT, Sn, rp, ea, fun σ2 S2 l2 k2 => ⟨?_, ?_⟩⟩
      · refine wipe_eq (l2.trans (wipe_length σ t.slots)) fun j hj => ?_
        rw [k2 j hj, wipe_out hj]
      · refine ⟨c.now F' H' (wipe σ t.slots) (wipeE envi t.slots), F', enva, hK, hT, S2, ?_⟩
        rw [ek]
        intro b F3 H3 S3 sm3 eb
        cases eb
        have fin : ∀ {F4 H4 : Hp} {e4 : M.Env}, Sok (c.now F' H' (wipe σ t.slots) (wipeE envi t.slots)) F4 H4 σ2 e4 → H4 D = some (.lst acc) ∧ F4 D = none ∧ Sok c F4 H4 σ (wipeE e4 t.slots) ∧ D ∉ owns σ (wipeE e4 t.slots) := fun {F4 H4 e4} S4 => by
          have h1 : H4 D = some (.lst acc) := S4.old D _ hD' nDw (fun ps z => by cases z)
          have h2 : F4 D = none := (S4.froz D (show H' D ≠ none by rw [hD']; simp) nDw).trans fD'
          have S5 := Sw.back S4
          have kk : ∀ j, j ∉ t.slots → σ[j]? = σ2[j]? := fun j hj => by rw [k2 j hj, wipe_out hj]
          refine ⟨h1, h2, S5.slots (by rw [wipeE_len]; have := S5.len; rw [l2, wipe_length] at this; exact this) (fun j s e => ⟨(wipeE_get e).1, kk j (wipeE_get e).2⟩), fun z => ?_⟩
          obtain ⟨j, k, ys, g1, g2⟩ := mem_owns.mp z
          obtain ⟨g3, g4⟩ := wipeE_get g1
          rcases S4.mine j k ys D g3 (by rw [← kk j g4]; exact g2) with m | m
          · exact nDw m
          · have m : H' D = none := m
            rw [hD'] at m; cases m
        cases k with
        | false =>
          cases es
          rw [if_neg Bool.false_ne_true]
          obtain ⟨h1, h2, h3, h4⟩ := fin S3
          exact ⟨F3, _, acc, accD, r', h3, smi.trans (sm'.trans sm3), h1, h2, h4, RpAll.mono (sm'.trans sm3) ra, by omega, er, ex⟩
        | true =>
          rw [if_pos rfl]
          rw [if_pos rfl] at es
          obtain ⟨xv, e4, ev, es⟩ := bnd_inv es
          cases es
          refine ⟨c.now F' H' (wipe σ t.slots) (wipeE envi t.slots), F3, e3, hK, hT, S3, ?_⟩
          show Post n _ F3 σ2 WF _ (M.frz (re e3)) _
          rw [ev]
          intro y F4 H4 S4 sm4 ry
          obtain ⟨h1, h2, h3, h4⟩ := fin S4
          have lt : acc.length < sizeLine := by omega
          have up : Same Fi F4 := sm'.trans (sm3.trans sm4)
          refine ⟨acc, h1, lt, F4, _, acc ++ [y], accD ++ [xv], r', h3.grow h2 h1 h0D h4 (by rw [List.length_append]; exact lt), smi.trans up, upd_same, h2, h4, RpAll.append (RpAll.mono up ra) (.cons ry .nil), by rw [List.length_append, List.length_singleton]; omega, er, ?_⟩
          rw [List.append_assoc]
          exact ex
  · rintro H ⟨Fi, envi, acc, accD, rest, Si, smi, hDa, fDi, nD, ra, la, ec, ex⟩
    rw [List.drop_length] at ec
    cases ec
    rw [List.append_nil] at ex
    subst ex
    have Sb := Si.restored S1 smi
    refine q1 (.ref D) Fi H Sb smi ⟨D, acc, rfl, fDi, hDa, ra, h0D, fun j k ys g1 g2 => ?_⟩
    rcases back_get g1 with ⟨h1, h2⟩ | ⟨_, h1, _⟩
    · exact nD (mem_owns.mpr ⟨j, k, ys, by rw [wipeE_out h1]; exact h2, g2⟩)
    · cases h1
end
end M
/-! Statements. -/
namespace M
open PySem PySem.Spec PyProof.Rows L2
def PostS (n : Cn) (c : Ct) (F : Hp) (W : WX) (r : Option SO) (E : Ends) : Prop := match r with
  | some (.next env) => ∀ σ' F' H', Sok c F' H' σ' env → Same F F' → E.nx σ' H'
  | some (.ret d env) => ∀ v σ' F' H', Sok c F' H' σ' env → Same F F' → Rp c.K F' v d → E.rt v H'
  | some (.brk env) => ∀ σ' F' H', Sok c F' H' σ' env → Same F F' → E.bk σ' H'
  | some (.err e env) => ∀ σ' F' H', Sok c F' H' σ' env → Same F F' → W (.ref (n.C e)) none σ' H'
  | none => False
def tS (n : Cn) (W : WX) (r : M.Env → Option SO) : TS := fun E σ H => ∃ (c : Ct) (F : Hp) (env : M.Env), c.K = n.K ∧ c.T = n.T ∧ Sok c F H σ env ∧ PostS n c F W (r env) E
section
variable {n : Cn} {W : WX} {X : Cx} {c : Ct} {F H : Hp} {σ : L2.St} {E : Ends}
theorem PostS.from {r : Option SO} {F1 : Hp} (h : PostS n c F W r E) (e : Same F F1) : PostS n c F1 W r E := by
  unfold PostS at h ⊢
  split
  · exact fun σ' F' H' S sm => h σ' F' H' S (e.trans sm)
  · exact fun v σ' F' H' S sm rl => h v σ' F' H' S (e.trans sm) rl
  · exact fun σ' F' H' S sm => h σ' F' H' S (e.trans sm)
  · exact fun σ' F' H' S sm => h σ' F' H' S (e.trans sm)
  · exact h
theorem PostS.step {α β : Type} {rel1 : Rel α β} {r : R α} {k : α → M.Env → Option SO} (h : PostS n c F W (bndS r k) E) :
    Post n c F σ W rel1 r fun b H1 => ∃ F1 env1 a, Sok c F1 H1 σ env1 ∧ Same F F1 ∧ rel1 F1 H1 env1 a b ∧ PostS n c F1 W (k a env1) E := by
  match r, h with
  | some (.ok a env), h => exact fun b F' H' S sm rl => ⟨F', env, a, S, sm, rl, PostS.from h sm⟩
  | some (.err e env), h => exact fun F' H' S sm => h σ F' H' S sm
  | none, h => exact h
theorem next_some' {o : Option M.Env} (h : PostS n c F W (nextS o) E) : ∃ env, o = some env ∧ PostS n c F W (some (.next env)) E := by
  cases o with
  | none => exact False.elim h
  | some e => exact ⟨e, rfl, h⟩
/-! ### assignments -/
/-- a name gets a value that is no new list -/
theorem snd_set {i : Nat} {x : Str} {e : Expr} {px pos : Pos} {r : M.Env → R TV} {f : Bool} (hf0 : f = false) (hN : X.N.Nodup) (hi : X.N[i]? = some x) (hx : Loc X.env.scope x) (hf : X.fn x = true ∨ X.env.scope.names.lookup x = some .local) (hs : swapsWith e (some (.Name x px)) pos.line X.env = pure false) (he : PE X e (tT n W r)) :
    PS X (.Assign [.Name x px] e pos) (tS n W fun env => bndS (M.frz (r env)) fun d env1 => nextS (setAt env1 i (slotOf f d))) := by
  refine (ps_set hN hi hx he.frz hs hf).imp fun E σ H ⟨c, F, env, hK, hT, S, q⟩ => ⟨c, F, env, hK, hT, S, (PostS.step (rel1 := relV c σ) q).imp fun v H1 ⟨F1, env1, d, S1, sm1, r1, q1⟩ => ?_⟩
  subst hf0
  obtain ⟨env2, e1, q1⟩ := next_some' q1
  unfold setAt at e1
  split at e1
  · rename_i hl
    cases e1
    exact q1 _ F1 H1 (S1.setVal hl r1) (Same.refl _)
  · cases e1
/-- what a new thing's slot is to be -/
theorem Sok.setF {env : M.Env} {v : V} {d : D} {i : Nat} (S : Sok c F H σ env) (hl : i < env.length) (r : relF c σ F H env (.imm d) v) : Sok c F H (σ.set i (some v)) (env.set i (some (slotOf true d))) := by
  have plain : ∀ d', d = d' → (∀ xs, d' ≠ .list xs) → Sok c F H (σ.set i (some v)) (env.set i (some (slotOf true d))) := fun d' e nl => by
    subst e
    cases d with
    | list xs => exact absurd rfl (nl xs)
    | _ => exact S.setVal hl r
  cases d with
  | list xs =>
    obtain ⟨p, vs, e, fp, hp, ra, h0, ho⟩ := r
    rw [e]
    exact S.setOwn hl fp hp ra (.inr h0) fun j k ys _ h1 => ho j k ys h1
  | _ => exact plain _ rfl (fun xs z => by cases z)
/-- results that are no slot's -/
def ImmR (r : M.Env → R TV) : Prop := ∀ env t env', r env = some (.ok t env') → ∃ d, t = .imm d
theorem PostS.stepF {r : M.Env → R TV} {env : M.Env} (hr : ImmR r) {k : D → M.Env → Option SO} (h : PostS n c F W (bndS (M.frz (r env)) k) E) :
    Post n c F σ W (relF c σ) (r env) fun b H1 => ∃ F1 env1 d, Sok c F1 H1 σ env1 ∧ Same F F1 ∧ relF c σ F1 H1 env1 (.imm d) b ∧ PostS n c F1 W (k d env1) E := by
  match e : r env, h with
  | some (.ok t env1), h =>
    obtain ⟨d, rfl⟩ := hr env t env1 e
    exact fun b F' H' S sm rl => ⟨F', env1, d, S, sm, rl, PostS.from h sm⟩
  | some (.err e env), h => exact fun F' H' S sm => h σ F' H' S sm
  | none, h => exact h
theorem setF_reads {i : Nat} {r : M.Env → R TV} (hr : ImmR r) (h : tS n W (fun env => bndS (M.frz (r env)) fun d env1 => nextS (setAt env1 i (slotOf true d))) E σ H) : tAsg (tF n W r) (gName i) E σ H := by
  obtain ⟨c, F, env, hK, hT, S, q⟩ := h
  refine ⟨c, F, env, hK, hT, S, (PostS.stepF hr q).imp fun v H1 ⟨F1, env1, d, S1, sm1, r1, q1⟩ => ?_⟩
  obtain ⟨env2, e1, q1⟩ := next_some' q1
  unfold setAt at e1
  split at e1
  · rename_i hl
    cases e1
    exact q1 _ F1 H1 (S1.setF hl r1) (Same.refl _)
  · cases e1
theorem snd_setF {i : Nat} {x : Str} {e : Expr} {px pos : Pos} {r : M.Env → R TV} (hr : ImmR r) (hN : X.N.Nodup) (hi : X.N[i]? = some x) (hx : Loc X.env.scope x) (hf : X.fn x = true ∨ X.env.scope.names.lookup x = some .local) (hs : swapsWith e (some (.Name x px)) pos.line X.env = pure false) (he : PE X e (tF n W r)) :
    PS X (.Assign [.Name x px] e pos) (tS n W fun env => bndS (M.frz (r env)) fun d env1 => nextS (setAt env1 i (slotOf true d))) :=
  (ps_set hN hi hx he hs hf).imp fun E σ H h => setF_reads hr h
theorem snd_unp {tg e : Expr} {t : Tg} {pos : Pos} {r : M.Env → R TV} (hs : swapsWithSole [tg] e pos.line X.env = pure false) (hw : swappedStores [tg] e X.env = pure none) (hn : NoStar tg X.env) (he : PE X e (tT n W r)) (hg : PG X tg (gA n t)) :
    PS X (.Assign [tg] e pos) (tS n W fun env => bndS (M.frz (r env)) fun d env1 => nextS (asg t d env1)) := by
  refine (ps_asg he.frz hg hs hw (by rw [hn]; rfl)).imp fun E σ H ⟨c, F, env, hK, hT, S, q⟩ => ⟨c, F, env, hK, hT, S, (PostS.step (rel1 := relV c σ) q).imp fun v H1 ⟨F1, env1, d, S1, sm1, r1, q1⟩ => ?_⟩
  obtain ⟨env2, e1, q1⟩ := next_some' q1
  exact ⟨c, F1, env1, d, env2, hK, hT, S1, r1, e1, fun σ' S' _ _ => q1 σ' F1 H1 S' (Same.refl _)⟩
theorem snd_aug {i : Nat} {x : Str} {e : Expr} {o : Bop} {px pos : Pos} {r : M.Env → R TV} (ho : o = .add ∨ o = .sub) (hN : X.N.Nodup) (hi : X.N[i]? = some x) (hx : Loc X.env.scope x) (hf : X.fn x = true ∨ X.env.scope.names.lookup x = some .local) (he : PE X e (tT n W r)) :
    PS X (.AugAssign (.Name x px) (pyB o) e pos) (tS n W fun env => match env[i]? with
    | some (some (.val x)) => bndS (r env) fun t env1 => nextS ((rd env1 t).bind fun y => (augD o x y).bind fun z => setAt env1 i (.val z))
    | _ => none) := by
  have key : ∀ (E : Ends) (σ : L2.St) (H : Hp) (g : Int → Int → Int), (∀ x y z, augD o x y = some z → ∃ a b, x = .int a ∧ y = .int b ∧ z = .int (g a b)) → tS n W (fun env => match env[i]? with
    | some (some (.val x)) => bndS (r env) fun t env1 => nextS ((rd env1 t).bind fun y => (augD o x y).bind fun z => setAt env1 i (.val z))
    | _ => none) E σ H → tAug i (tT n W r) (ipI g) E σ H := by
    rintro E σ H g hg ⟨c, F, env, hK, hT, S, q⟩
    dsimp only at q
    split at q
    · rename_i dx ex
      obtain ⟨v, s1, rv⟩ := S.slot i _ ex
      refine ⟨v, s1, c, F, env, hK, hT, S, (PostS.step (rel1 := relT c σ) q).imp fun y H1 ⟨F1, env1, t, S1, sm1, r1, q1⟩ => ?_⟩
      obtain ⟨env2, e1, q1⟩ := next_some' q1
      obtain ⟨dy, e2, e1⟩ := Option.bind_eq_some_iff.mp e1
      obtain ⟨dz, e3, e1⟩ := Option.bind_eq_some_iff.mp e1
      have dq := S1.rd r1 e2
      obtain ⟨a, b, rfl, rfl, rfl⟩ := hg _ _ _ e3
      cases rv
      cases dq
      unfold setAt at e1
      split at e1
      · rename_i hl
        cases e1
        exact ⟨a, b, rfl, rfl, q1 _ F1 H1 (S1.setVal hl (.int _)) (Same.refl _)⟩
      · cases e1
    · exact False.elim q
  rcases ho with rfl | rfl
  · refine (ps_aug hN hi hx he ip_add hf).imp fun E σ H h => key E σ H _ (fun x y z e => ?_) h
    unfold augD at e
    split at e
    · cases e; exact ⟨_, _, rfl, rfl, rfl⟩
    · rename_i h; cases h
    · cases e
  · refine (ps_aug hN hi hx he ip_sub hf).imp fun E σ H h => key E σ H _ (fun x y z e => ?_) h
    unfold augD at e
    split at e
    · rename_i h; cases h
    · cases e; exact ⟨_, _, rfl, rfl, rfl⟩
    · cases e
/-! ### an owned list changed by place -/
theorem putAt_inv {env env' : M.Env} {i : Nat} {x d : D} (h : putAt env i x d = some env') : ∃ k xs j m, env[i]? = some (some (.own k xs)) ∧ x = .int j ∧ place? xs.length j = some m ∧ env' = env.set i (some (.own k (xs.set m d))) := by
  unfold putAt at h
  split at h
  · rename_i k xs j e
    obtain ⟨m, e1, rfl⟩ := Option.map_eq_some_iff.mp h
    exact ⟨k, xs, j, m, e, rfl, e1, rfl⟩
  · cases h
theorem put_reads {env env' : M.Env} {i : Nat} {a v w : V} {t : TV} {x d : D} {Q : Hp → Prop} (S : Sok c F H σ env) (sa : σ[i]? = some (some a)) (rx : RepT c.K F σ v t) (ex : rd env t = some x) (rw' : Rp c.K F w d) (h : putAt env i x d = some env') (q : ∀ H', Sok c F H' σ env' → Q H') : rSetL a v w H Q := by
  obtain ⟨k, xs, j, m, e1, rfl, e2, rfl⟩ := putAt_inv h
  obtain ⟨p, vs, s1, fp, hp, ra⟩ := S.slot i _ e1
  rw [sa] at s1; cases s1
  have dq := S.rd rx ex
  cases dq
  refine ⟨p, vs, j, m, rfl, rfl, hp, by rw [RpAll.length ra]; exact place_ixN e2, q _ (S.put e1 sa (RpAll.set rw' m ra) ?_)⟩
  rw [List.length_set]
  exact S.sz p vs (.inl (.inl hp))
theorem own_inv {env : M.Env} {i : Nat} (h : own? env i = true) : ∃ k xs, env[i]? = some (some (.own k xs)) := by
  unfold own? at h
  split at h
  · rename_i k xs e; exact ⟨k, xs, e⟩
  · cases h
theorem PostS.guard {env : M.Env} {i : Nat} {r : Option SO} (h : PostS n c F W (if own? env i then r else none) E) : (∃ k xs, env[i]? = some (some (.own k xs))) ∧ PostS n c F W r E := by
  cases e : own? env i with
  | false => rw [e] at h; exact False.elim h
  | true => rw [e] at h; exact ⟨own_inv e, h⟩
theorem snd_setI {i : Nat} {y : Str} {ix e : Expr} {py ps pos : Pos} {r rx : M.Env → R TV} (hN : X.N[i]? = some y) (hv : Vis X.env.scope y) (hd : (y == ("__debug__" : Str)) = false) (hcd : (y == ("__classdict__" : Str)) = false)
    (ha : ∀ v, assign (.Subscript (.Name y py) ix ps) X.env v = (do
      let ov ← holding [v] (eval (.Name y py) X.env)
      let iv ← holding [v, ov] (eval ix X.env)
      standAt ps
      holding [v, ov, iv] (setItem ov iv v)
      release [v, ov, iv] [])) (hs : swapsWithSole [.Subscript (.Name y py) ix ps] e pos.line X.env = pure false) (hw : swappedStores [.Subscript (.Name y py) ix ps] e X.env = pure none) (he : PE X e (tT n W r)) (hx : PE X ix (tT n W rx)) :
    PS X (.Assign [.Subscript (.Name y py) ix ps] e pos) (tS n W fun env => bndS (M.frz (r env)) fun d env1 => if own? env1 i then bndS (rx env1) fun t env2 => nextS ((rd env2 t).bind fun k => putAt env2 i k d) else none) := by
  refine (ps_asg he.frz (pg_sub (pe_var hN hv hd hcd) hx set_list ha) hs hw rfl).imp fun E σ H ⟨c, F, env, hK, hT, S, q⟩ => ⟨c, F, env, hK, hT, S, (PostS.step (rel1 := relV c σ) q).imp fun v H1 ⟨F1, env1, d, S1, sm1, r1, q1⟩ => ?_⟩
  obtain ⟨⟨k, xs, eo⟩, q1⟩ := q1.guard
  obtain ⟨p, vs, s1, _⟩ := S1.slot i _ eo
  refine ⟨.ref p, s1, c, F1, env1, hK, hT, S1, (PostS.step (rel1 := relT c σ) q1).imp fun w H2 ⟨F2, env2, t, S2, sm2, r2, q2⟩ => ?_⟩
  obtain ⟨env3, e1, q2⟩ := next_some' q2
  obtain ⟨x, e2, e1⟩ := Option.bind_eq_some_iff.mp e1
  exact put_reads S2 s1 r2 e2 (Rp.mono sm2 r1) e1 fun H' S' => q2 σ F2 H' S' (Same.refl _)
/-- xs[k], by values -/
def rGetL : V → V → Hp → VK → Prop := fun o i H Q => ∃ p xs k v, o = .ref p ∧ i = .int k ∧ H p = some (.lst xs) ∧ 0 ≤ k ∧ xs[k.toNat]? = some v ∧ Q v H
theorem get_list : PGet X rGetL := by
  intro pins s σ H o i ov iv Q I ro ri h
  obtain ⟨p, xs, k, v, rfl, rfl, hp, h0, ha, q⟩ := h
  obtain rfl : ov = Value.ref p := ro
  obtain ⟨t, rfl⟩ := ri
  obtain ⟨its, rv, pl, hz⟩ := I.list (SqL.of hp)
  obtain ⟨u, hu, ru⟩ := Vals.get rv ha
  have hl := (List.getElem?_eq_some_iff.mp ha).1
  have hn := line63
  exact wpAny_getItem_list pl.isList h0 (by omega) (by simpa using hu) ⟨v, H, I, ru, q⟩
theorem itemAt_inv {env : M.Env} {i : Nat} {x d : D} (h : itemAt env i x = some d) : ∃ k xs j, env[i]? = some (some (.own k xs)) ∧ x = .int j ∧ 0 ≤ j ∧ xs[j.toNat]? = some d := by
  unfold itemAt at h
  split at h
  · rename_i k xs j e
    split at h
    · rename_i hj; exact ⟨k, xs, j, e, rfl, hj, h⟩
    · cases h
  · cases h
theorem augD_add {x y z : D} (h : augD .add x y = some z) : ∃ a b, x = .int a ∧ y = .int b ∧ z = .int (a + b) := by
  cases x <;> cases y <;> first | (cases h; exact ⟨_, _, rfl, rfl, rfl⟩) | cases h
theorem snd_augI {i : Nat} {y : Str} {ix e : Expr} {py ps pos : Pos} {r rx : M.Env → R TV} (hN : X.N[i]? = some y) (hv : Vis X.env.scope y) (hd : (y == ("__debug__" : Str)) = false) (hcd : (y == ("__classdict__" : Str)) = false)
    (ha : ∀ ov iv new, augStore ix ov iv new = (do holding [new, ov, iv] (setItem ov iv new); release [new, ov, iv] []; pure .next)) (he : PE X e (tT n W r)) (hx : PE X ix (tT n W rx)) :
    PS X (.AugAssign (.Subscript (.Name y py) ix ps) .Add e pos) (tS n W fun env => if own? env i then bndS (rx env) fun t env1 => bndS (opt ((rd env1 t).bind fun k => (itemAt env1 i k).map fun o => (k, o)) env1) fun p env2 =>
      bndS (r env2) fun t2 env3 => nextS ((rd env3 t2).bind fun y => (augD .add p.2 y).bind fun z => putAt env3 i p.1 z) else none) := by
  refine (ps_augS (pe_var hN hv hd hcd) hx get_list he ip_add set_list ha).imp fun E σ H ⟨c, F, env, hK, hT, S, q⟩ => ?_
  obtain ⟨⟨k, xs, eo⟩, q⟩ := q.guard
  obtain ⟨p, vs, s1, _⟩ := S.slot i _ eo
  refine ⟨.ref p, s1, c, F, env, hK, hT, S, (PostS.step (rel1 := relT c σ) q).imp fun w H1 ⟨F1, env1, t, S1, sm1, r1, q1⟩ => ?_⟩
  cases e0 : (rd env1 t).bind fun k => (itemAt env1 i k).map fun o => (k, o) with
  | none => rw [e0] at q1; exact False.elim q1
  | some kp =>
    rw [e0] at q1
    rw [opt_some, bndS_ok] at q1
    obtain ⟨dx, e1, e2⟩ := Option.bind_eq_some_iff.mp e0
    obtain ⟨od, e3, rfl⟩ := Option.map_eq_some_iff.mp e2
    obtain ⟨k', ys, j, g1, rfl, g2, g3⟩ := itemAt_inv e3
    obtain ⟨p', vs', s2, fp, hp, ra⟩ := S1.slot i _ g1
    rw [s1] at s2; cases s2
    obtain ⟨v, h1, h2⟩ := RpAll.get' ra g3
    have dq := S1.rd r1 e1
    cases dq
    refine ⟨p, vs', j, v, rfl, rfl, hp, g2, h1, c, F1, env1, hK, hT, S1, (PostS.step (rel1 := relT c σ) q1).imp fun w2 H2 ⟨F2, env2, t2, S2, sm2, r2, q2⟩ => ?_⟩
    obtain ⟨env3, e4, q3⟩ := next_some' q2
    obtain ⟨dy, e5, e4⟩ := Option.bind_eq_some_iff.mp e4
    obtain ⟨dz, e6, e4⟩ := Option.bind_eq_some_iff.mp e4
    have dq2 := S2.rd r2 e5
    have hb := augD_add e6
    obtain ⟨a, b, rfl, rfl, rfl⟩ := hb
    cases h2
    cases dq2
    refine ⟨a, b, rfl, rfl, ?_⟩
    exact put_reads (t := .imm (.int j)) S2 s1 (.int j) rfl (.int _) e4 fun H' S' => q3 σ F2 H' S' (Same.refl _)
theorem snd_app {i : Nat} {y : Str} {e : Expr} {py pa pc pos : Pos} {r : M.Env → R TV} (hX : X.K = n.K) (hN : X.N[i]? = some y) (hv : Vis X.env.scope y) (hd : (y == ("__debug__" : Str)) = false) (hcd : (y == ("__classdict__" : Str)) = false) (hl : (pa.endLine == pc.line) = true) (hs : starEach [e] X.env = [(false, eval e X.env)])
    (he : PE X e (tT n W r)) : PS X (.Expr (.Call (.Attribute (.Name y py) "append" pa) [e] [] pc) pos) (tS n W fun env => if own? env i then bndS (M.frz (r env)) fun d env1 => nextS (appD env1 i d) else none) := by
  refine (ps_expr (pe_bm PySem.F.plainAttrs_list PySem.F.slot_list_append PySem.F.type_list_append mt_append (pe_var hN hv hd hcd) (pa_cons he.frz pa_nil hs) rfl (by rw [hs]; rfl) hl hs rfl) rfl).imp fun E σ H ⟨c, F, env, hK, hT, S, q⟩ => ?_
  obtain ⟨⟨k, xs, eo⟩, q⟩ := q.guard
  obtain ⟨p, vs, s1, fp, hp, ra⟩ := S.slot i _ eo
  refine ⟨.ref p, s1, .inl ⟨rfl, _, SqL.of hp⟩, c, F, env, hK, hT, S, (PostS.step (rel1 := relV c σ) q).imp fun w H1 ⟨F1, env1, d, S1, sm1, r1, q1⟩ => ?_⟩
  obtain ⟨env2, e1, q1⟩ := next_some' q1
  unfold appD at e1
  split at e1
  · rename_i b ys e2
    split at e1
    · rename_i hz
      cases e1
      obtain ⟨p', vs', s2, fp', hp', ra'⟩ := S1.slot i _ e2
      rw [s1] at s2; cases s2
      have hz' : vs'.length < sizeLine := by rw [RpAll.length ra', ← lim_eq]; exact hz
      exact ⟨p, vs', w, rfl, rfl, hp', hz', q1 σ F1 _ (S1.put e2 s1 (RpAll.append ra' (.cons r1 .nil)) (by rw [List.length_append]; exact hz')) (Same.refl _)⟩
    · cases e1
  · cases e1
end
end M
/-! Control flow; several targets at once. -/
namespace M
open PySem PySem.Spec PyProof.Rows L2
section
variable {n : Cn} {W : WX} {X : Cx} {c : Ct} {F H : Hp} {σ : L2.St} {E : Ends}
theorem snd_drop {e : Expr} {pos : Pos} {r : M.Env → R TV} (hs : swapsWith e none pos.line X.env = pure false) (he : PE X e (tT n W r)) : PS X (.Expr e pos) (tS n W fun env => bndS (r env) fun _ env1 => some (.next env1)) :=
  (ps_expr he hs).imp fun E σ H ⟨c, F, env, hK, hT, S, q⟩ => ⟨c, F, env, hK, hT, S, (PostS.step (rel1 := relT c σ) q).imp fun v H1 ⟨F1, env1, d, S1, sm1, r1, q1⟩ => q1 σ F1 H1 S1 (Same.refl _)⟩
theorem snd_ret {e : Expr} {pos : Pos} {r : M.Env → R TV} (he : PE X e (tT n W r)) : PS X (.Return (some e) pos) (tS n W fun env => bndS (M.frz (r env)) fun d env1 => some (.ret d env1)) :=
  (ps_ret he.frz).imp fun E σ H ⟨c, F, env, hK, hT, S, q⟩ => ⟨c, F, env, hK, hT, S, (PostS.step (rel1 := relV c σ) q).imp fun v H1 ⟨F1, env1, d, S1, sm1, r1, q1⟩ => q1 v σ F1 H1 S1 (Same.refl _) r1⟩
theorem snd_retN {pos : Pos} : PS X (.Return none pos) (tS n W fun env => some (.ret .none env)) :=
  ps_retN.imp fun E σ H ⟨c, F, env, hK, hT, S, q⟩ => q .non σ F H S (Same.refl _) .non
theorem snd_brk {pos : Pos} : PS X (.Break pos) (tS n W fun env => some (.brk env)) := ps_break.imp fun E σ H ⟨c, F, env, hK, hT, S, q⟩ => q σ F H S (Same.refl _)
theorem snd_raise {e : Expr} {pos : Pos} {k : Cls} (hc : X.calm = true) (tk : L2N.Takes X W) (he : L2N.PMk X e (fun _ H Q => Q (.ref (n.C k)) none H)) : PS X (.Raise (some e) none pos) (tS n W fun env => some (.err k env)) :=
  (L2N.ps_raise hc tk he).imp fun E σ H ⟨c, F, env, hK, hT, S, q⟩ => q σ F H S (Same.refl _)
theorem snd_if {t : Expr} {a b : List Stmt} {pos : Pos} {rt : M.Env → R TV} {ra rb : M.Env → Option SO} (ht : PT X t (tBo n W (tru rt))) (ha : PSs X a (tS n W ra)) (hb : PSs X b (tS n W rb)) :
    PS X (.If t a b pos) (tS n W fun env => bndS (tru rt env) fun k env1 => if k then ra env1 else rb env1) := by
  refine (ps_if ht ha hb).imp fun E σ H ⟨c, F, env, hK, hT, S, q⟩ => ⟨c, F, env, hK, hT, S, (PostS.step (rel1 := relB) q).imp fun k H1 ⟨F1, env1, k', S1, sm1, r1, q1⟩ => ?_⟩
  cases r1
  cases k with
  | true => exact ⟨c, F1, env1, hK, hT, S1, q1⟩
  | false => exact ⟨c, F1, env1, hK, hT, S1, q1⟩
theorem snd_nil : PSs X [] (tS n W fun env => some (.next env)) := pss_nil.imp fun E σ H ⟨c, F, env, hK, hT, S, q⟩ => q σ F H S (Same.refl _)
theorem snd_cons {s : Stmt} {ss : List Stmt} {r : M.Env → Option SO} {rs : M.Env → Option SO} (h : PS X s (tS n W r)) (hs : PSs X ss (tS n W rs)) : PSs X (s :: ss) (tS n W fun env => match r env with | some (.next env1) => rs env1 | o => o) := by
  refine (pss_cons h hs).imp fun E σ H ⟨c, F, env, hK, hT, S, q⟩ => ⟨c, F, env, hK, hT, S, ?_⟩
  dsimp only at q
  match e : r env, q with
  | some (.next env1), q => exact fun σ' F' H' S' sm => ⟨c, F', env1, hK, hT, S', PostS.from q sm⟩
  | some (.ret d env1), q => exact q
  | some (.brk env1), q => exact q
  | some (.err k env1), q => exact q
  | none, q => exact q
/-! ### loops -/
theorem forL_reads {t : Tg} {items : List D} {rb : M.Env → Option SO} {J : L2.It} (hK : c.K = n.K) (hT : c.T = n.T) {env : M.Env} (S : Sok c F H σ env) (wk : relI c F H env items J)
    (q : PostS n c F W (forL (fun d env => match asg t d env with | none => none | some env2 => rb env2) items env) E) :
    ∃ W' : Nat → Nat → L2.St → Hp → Prop, (∃ m, W' 0 m σ H) ∧ ∀ i m σ H, W' i m σ H →
      (J.stop i H ∧ E.nx σ H) ∨ (J.go i H ∧ ∃ N : L2.St → Hp → Prop, (∀ σ' H', N σ' H' → ∃ m', m' < m ∧ W' (i + 1) m' σ' H') ∧ ∀ x H', J.yld i H x H' → gA n t x σ H' fun σ2 H2 => tS n W rb { E with nx := N, ct := N, bk := E.nx } σ2 H2) := by
  refine for_it wk.2 (fun i σ H => ∃ Fi envi, Sok c Fi H σ envi ∧ Same F Fi ∧ PostS n c Fi W (forL (fun d env => match asg t d env with | none => none | some env2 => rb env2) (items.drop i) envi) E) ⟨F, env, S, Same.refl _, q⟩ ?_ ?_ ?_
  · rintro i σ H _ ⟨Fi, envi, Si, smi, _⟩
    exact smi.trans Si.sub
  · rintro i x σ H H' hi ⟨Fi, envi, Si, smi, qi⟩ ⟨d, hd, yd⟩
    obtain ⟨F', S', sm', rp⟩ : ∃ F', Sok c F' H' σ envi ∧ Same Fi F' ∧ Rp c.K F' x d := by
      rcases yd with ⟨rfl, rp⟩ | ⟨T, ws, ds, rfl, hT', rfl, rfl, rw', hw⟩
      · exact ⟨Fi, Si, Same.refl _, Rp.mono smi rp⟩
      · have fT := Si.sub.free hT'
        exact ⟨upd Fi T (.tup ws), Si.new hT' (fun ps z => by cases z) (SzOk.tup' Si.sz hw), same_upd fT, .tup (SqT.of upd_same) (RpAll.mono (smi.trans (same_upd fT)) rw')⟩
    have edrop : items.drop i = d :: items.drop (i + 1) := by
      rw [List.drop_eq_getElem_cons hi]
      congr 1
      have := List.getElem?_eq_getElem hi
      rw [this] at hd
      exact Option.some.inj hd
    rw [edrop] at qi
    unfold forL at qi
    cases ea : asg t d envi with
    | none => rw [ea] at qi; exact False.elim qi
    | some enva =>
      rw [ea] at qi
      refine ⟨c, F', envi, d, enva, hK, hT, S', rp, ea, fun σ2 S2 _ _ => ⟨c, F', enva, hK, hT, S2, ?_⟩⟩
      have up : Same F F' := smi.trans sm'
      dsimp only at qi
      match rb enva, qi with
      | some (.next e1), qi => exact fun σ3 F3 H3 S3 sm3 => ⟨F3, e1, S3, up.trans sm3, PostS.from qi (sm'.trans sm3)⟩
      | some (.brk e1), qi => exact fun σ3 F3 H3 S3 sm3 => qi σ3 F3 H3 S3 (sm'.trans sm3)
      | some (.ret d e1), qi => exact fun v σ3 F3 H3 S3 sm3 r3 => qi v σ3 F3 H3 S3 (sm'.trans sm3) r3
      | some (.err k e1), qi => exact fun σ3 F3 H3 S3 sm3 => qi σ3 F3 H3 S3 (sm'.trans sm3)
      | none, qi => exact qi
  · rintro σ H ⟨Fi, envi, Si, smi, qi⟩
    rw [List.drop_length] at qi
    exact qi σ Fi H Si (Same.refl _)
theorem snd_for {tg iter : Expr} {body : List Stmt} {pos : Pos} {t : Tg} {rit : M.Env → R (List D)} {rb : M.Env → Option SO} (hp : PassesOwn (model X.prog X.w) X.A X.env X.xe) (hc : X.calm = true) (hs : ∀ x, foldedSetIterable iter X.env x = pure x) (hi : PI X tg iter (tIt n W rit)) (hg : PG X tg (gA n t)) (hb : PSs X body (tS n W rb)) :
    PS X (.For tg iter body [] pos) (tS n W fun env => bndS (rit env) fun items env1 => forL (fun d env => match asg t d env with | none => none | some env2 => rb env2) items env1) := by
  refine (ps_for hp hc hi hg hb hs).imp fun E σ H ⟨c, F, env, hK, hT, S, q⟩ => ⟨c, F, env, hK, hT, S, (PostS.step (rel1 := relI c) q).imp fun J H1 ⟨F1, env1, items, S1, sm1, wk, q1⟩ => ?_⟩
  exact forL_reads hK hT S1 wk q1
theorem snd_while {t : Expr} {body : List Stmt} {pos : Pos} {rt : M.Env → R TV} {rb : M.Env → Option SO} {fuel : Nat} (hp : PassesOwn (model X.prog X.w) X.A X.env X.xe) (ht : PT X t (tBo n W (tru rt))) (hb : PSs X body (tS n W rb)) :
    PS X (.While t body [] pos) (tS n W fun env => whileL (tru rt) rb fuel env) := by
  refine (ps_while hp ht hb).imp fun E σ H ⟨c, F, env, hK, hT, S, q⟩ => ?_
  refine ⟨fun m σ H => ∃ Fi envi, Sok c Fi H σ envi ∧ Same F Fi ∧ PostS n c Fi W (whileL (tru rt) rb m envi) E, ⟨fuel, F, env, S, Same.refl _, q⟩, ?_⟩
  rintro m σ H ⟨Fi, envi, Si, smi, qi⟩
  cases m with
  | zero => exact False.elim qi
  | succ m =>
    unfold whileL at qi
    refine ⟨c, Fi, envi, hK, hT, Si, (PostS.step (rel1 := relB) qi).imp fun k H1 ⟨F1, env1, k', S1, sm1, r1, q1⟩ => ?_⟩
    cases r1
    cases k with
    | false =>
      rw [if_neg Bool.false_ne_true]
      exact q1 σ F1 H1 S1 (Same.refl _)
    | true =>
      rw [if_pos rfl]
      rw [if_pos rfl] at q1
      refine ⟨fun σ' H' => ∃ F2 env2, Sok c F2 H' σ' env2 ∧ Same F F2 ∧ PostS n c F2 W (whileL (tru rt) rb m env2) E, fun σ' H' h => ⟨m, Nat.lt_succ_self _, h⟩, c, F1, env1, hK, hT, S1, ?_⟩
      have up : Same F F1 := smi.trans sm1
      match rb env1, q1 with
      | some (.next e1), q1 => exact fun σ3 F3 H3 S3 sm3 => ⟨F3, e1, S3, up.trans sm3, PostS.from q1 sm3⟩
      | some (.brk e1), q1 => exact fun σ3 F3 H3 S3 sm3 => q1 σ3 F3 H3 S3 sm3
      | some (.ret d e1), q1 => exact fun v σ3 F3 H3 S3 sm3 r3 => q1 v σ3 F3 H3 S3 sm3 r3
      | some (.err k e1), q1 => exact fun σ3 F3 H3 S3 sm3 => q1 σ3 F3 H3 S3 sm3
      | none, q1 => exact q1
/-! ### several targets at once -/
/-- what a slot is to get: a value, or a new list -/
def SlotNew (c : Ct) (σ : L2.St) (F H : Hp) (env : M.Env) : Slot → V → Prop
  | .val d, v => Rp c.K F v d
  | .own k xs, v => k = false ∧ newL c σ F H env xs v
structure ParOk (c : Ct) (σ : L2.St) (F H : Hp) (env : M.Env) (ss : List Slot) (vs : List V) : Prop where
  len : ss.length = vs.length
  at_ : ∀ (i : Nat) (s : Slot) (v : V), ss[i]? = some s → vs[i]? = some v → SlotNew c σ F H env s v
  apart : ∀ (i j : Nat) (k l : Bool) (xs ys : List D) (a : Addr), ss[i]? = some (.own k xs) → ss[j]? = some (.own l ys) → vs[i]? = some (.ref a) → vs[j]? = some (.ref a) → i = j
def relP (c : Ct) (σ : L2.St) : Rel (List Slot) (List V) := fun F H env ss vs => ParOk c σ F H env ss vs
abbrev tPr (n : Cn) (W : WX) (r : M.Env → R (List Slot)) : TA := tA n W relP r
theorem snd_pnil : PA X [] (tPr n W fun env => some (.ok [] env)) := (pa_nil (X := X)).imp fun σ H Q ⟨c, F, env, hK, hT, S, q⟩ => q [] F H S (Same.refl _) ⟨rfl, fun i s v h => by simp at h, fun i j k l xs ys a h => by simp at h⟩
/-- the rest reckoned by one who takes all that stands as old -/
theorem Post.now {α β : Type} {env : M.Env} {rel rel' : Rel α β} {r : R α} {Q : β → Hp → Prop} (S : Sok c F H σ env) (h : Post n c F σ W rel r Q) (hr : ∀ F' H' e a b, Sok (c.now F H σ env) F' H' σ e → rel' F' H' e a b → rel F' H' e a b) : Post n (c.now F H σ env) F σ W rel' r Q := by
  match r, h with
  | some (.ok a e), h => exact fun b F' H' S' sm rl => h b F' H' (S.back S') sm (hr F' H' e a b S' rl)
  | some (.err k e), h => exact fun F' H' S' sm => h F' H' (S.back S') sm
  | none, h => exact h
theorem snd_pcons {x : Expr} {xs : List Expr} {f : Bool} {te : TE} {r : M.Env → R TV} {rs : M.Env → R (List Slot)} (hs : starEach (x :: xs) X.env = (false, eval x X.env) :: starEach xs X.env)
    (hr : PA X xs (tPr n W rs)) (h : PE X x te)
    (ht : ∀ σ H Q, (∃ (c : Ct) (F : Hp) (env : M.Env), c.K = n.K ∧ c.T = n.T ∧ Sok c F H σ env ∧ Post n c F σ W (fun F H env d v => SlotNew c σ F H env (slotOf f d) v) (M.frz (r env)) Q) → te σ H Q) :
    PA X (x :: xs) (tPr n W fun env => bnd (M.frz (r env)) fun d env1 => bnd (rs env1) fun ds env2 => some (.ok (slotOf f d :: ds) env2)) := by
  refine (pa_cons h hr hs).imp fun σ H Q ⟨c, F, env, hK, hT, S, q⟩ => ?_
  refine ht σ H _ ⟨c, F, env, hK, hT, S, (Post.step (rel1 := fun F H env d v => SlotNew c σ F H env (slotOf f d) v) q).imp fun v H1 ⟨F1, env1, d, S1, sm1, r1, q1⟩ => ?_⟩
  refine ⟨c.now F1 H1 σ env1, F1, env1, hK, hT, S1.now, Post.now (rel := fun F2 H2 env2 ss vs => ParOk (c.now F1 H1 σ env1) σ F2 H2 env2 ss vs ∧ Sok (c.now F1 H1 σ env1) F2 H2 σ env2) S1 (Post.imp (Q := fun vs H2 => Q (v :: vs) H2) ?_ fun _ _ z => z) fun F' H' e a b S' rl => ⟨rl, S'⟩⟩
  match rs env1, q1 with
  | none, q1 => exact q1
  | some (.err k e), q1 => exact q1
  | some (.ok ss e2), q1 =>
    rintro vs F2 H2 S2 sm2 ⟨po, S3⟩
    refine q1 (v :: vs) F2 H2 S2 sm2 ?_
    have keep : ∀ {ys : List D}, newL c σ F1 H1 env1 ys v → newL c σ F2 H2 e2 ys v ∧ ∀ (j : Nat) (l : Bool) (zs : List D), ss[j]? = some (.own l zs) → vs[j]? ≠ some v := fun {ys} ⟨p, ws, e, fp, hp, ra, h0, ho⟩ => by
      have nB : p ∉ owns σ env1 := fun z => by
        obtain ⟨j, k, zs, g1, g2⟩ := mem_owns.mp z
        exact ho j k zs g1 g2
      refine ⟨⟨p, ws, e, (S3.froz p (show H1 p ≠ none by rw [hp]; simp) nB).trans fp, S3.old p _ hp nB (fun ps z => by cases z), RpAll.mono sm2 ra, h0, fun j k zs g1 g2 => ?_⟩, fun j l zs g1 g2 => ?_⟩
      · rcases S3.mine j k zs p g1 g2 with m | m
        · exact nB m
        · have m : H1 p = none := m
          rw [hp] at m; cases m
      · obtain ⟨_, p', ws', e', fp', hp', ra', h0', ho'⟩ := po.at_ j _ v g1 g2
        rw [e] at e'
        cases e'
        have h0' : H1 p = none := h0'
        rw [hp] at h0'; cases h0'
    have conv : ∀ {ys : List D} {w : V}, newL (c.now F1 H1 σ env1) σ F2 H2 e2 ys w → newL c σ F2 H2 e2 ys w := fun {ys w} ⟨p, ws, e, fp, hp, ra, h0, ho⟩ => ⟨p, ws, e, fp, hp, ra, S1.fresh0 h0, ho⟩
    refine ⟨by rw [List.length_cons, List.length_cons, po.len], fun i s w g1 g2 => ?_, fun i j k l as bs a g1 g2 g3 g4 => ?_⟩
    · cases i with
      | zero =>
        have g1 : slotOf f d = s := Option.some.inj g1
        have g2 : v = w := Option.some.inj g2
        subst g1 g2
        cases hsl : slotOf f d with
        | val d' => rw [hsl] at r1; exact Rp.mono sm2 r1
        | own k ys => rw [hsl] at r1; exact ⟨r1.1, (keep r1.2).1⟩
      | succ i =>
        have z := po.at_ i s w (by simpa using g1) (by simpa using g2)
        cases s with
        | val d' => exact z
        | own k ys => exact ⟨z.1, conv z.2⟩
    · cases i with
      | zero =>
        cases j with
        | zero => rfl
        | succ j =>
          have g1 : slotOf f d = .own k as := Option.some.inj g1
          have g3 : v = .ref a := Option.some.inj g3
          rw [g1] at r1
          exact absurd (by rw [g3]; simpa using g4) ((keep r1.2).2 j l bs (by simpa using g2))
      | succ i =>
        cases j with
        | zero =>
          have g2 : slotOf f d = .own l bs := Option.some.inj g2
          have g4 : v = .ref a := Option.some.inj g4
          rw [g2] at r1
          exact absurd (by rw [g4]; simpa using g3) ((keep r1.2).2 i k as (by simpa using g1))
        | succ j => rw [po.apart i j k l as bs a (by simpa using g1) (by simpa using g2) (by simpa using g3) (by simpa using g4)]
end
end M
/-! Several targets at once: the stores. -/
namespace M
open PySem PySem.Spec PyProof.Rows L2
def setsσ (σ : L2.St) : List Nat → List V → L2.St
  | i :: is, v :: vs => setsσ (σ.set i (some v)) is vs
  | _, _ => σ
section
variable {n : Cn} {W : WX} {X : Cx} {c : Ct} {F H : Hp} {E : Ends}
theorem Sok.setNew {σ : L2.St} {env : M.Env} {v : V} {s : Slot} {i : Nat} (S : Sok c F H σ env) (hl : i < env.length) (r : SlotNew c σ F H env s v) : Sok c F H (σ.set i (some v)) (env.set i (some s)) := by
  cases s with
  | val d => exact S.setVal hl r
  | own k xs =>
    obtain ⟨rfl, p, vs, e, fp, hp, ra, h0, ho⟩ := r
    rw [e]
    exact S.setOwn hl fp hp ra (.inr h0) fun j k ys _ h1 => ho j k ys h1
theorem Sok.sets {is : List Nat} : ∀ {σ : L2.St} {env env' : M.Env} {ss : List Slot} {vs : List V}, Sok c F H σ env → ParOk c σ F H env ss vs → M.sets env is ss = some env' → Sok c F H (setsσ σ is vs) env' ∧ is.length = ss.length := by
  induction is with
  | nil =>
    intro σ env env' ss vs S po e
    cases ss with
    | nil =>
      cases e
      cases vs with
      | nil => exact ⟨S, rfl⟩
      | cons v vs => exact absurd po.len (by simp)
    | cons s ss => cases e
  | cons i is ih =>
    intro σ env env' ss vs S po e
    cases ss with
    | nil => cases e
    | cons s ss =>
      cases vs with
      | nil => exact absurd po.len (by simp)
      | cons v vs =>
        unfold M.sets at e
        split at e
        · rename_i hl
          have S1 := S.setNew hl (po.at_ 0 s v rfl rfl)
          have po1 : ParOk c (σ.set i (some v)) F H (env.set i (some s)) ss vs := by
            refine ⟨by simpa using po.len, fun j s' w g1 g2 => ?_, fun j l k k' xs ys a g1 g2 g3 g4 => ?_⟩
            · have z := po.at_ (j + 1) s' w (by simpa using g1) (by simpa using g2)
              cases s' with
              | val d => exact z
              | own k ys =>
                obtain ⟨hk, p, ws, e1, fp, hp, ra, h0, ho⟩ := z
                refine ⟨hk, p, ws, e1, fp, hp, ra, h0, fun m k' zs q1 q2 => ?_⟩
                rcases get_set q1 with ⟨rfl, q, _⟩ | ⟨ne, q⟩
                · have hσ : m < σ.length := Nat.lt_of_lt_of_le hl S.len
                  rw [List.getElem?_set_self hσ] at q2
                  have q2 : v = .ref p := Option.some.inj (Option.some.inj q2)
                  have q : s = .own k' zs := by first | exact (Option.some.inj q).symm | exact Option.some.inj q
                  subst q2 q
                  have := po.apart 0 (j + 1) _ _ _ _ p rfl (by simpa using g1) rfl (by rw [← e1]; simpa using g2)
                  omega
                · rw [List.getElem?_set_ne (Ne.symm ne)] at q2
                  exact ho m k' zs q q2
            · have := po.apart (j + 1) (l + 1) k k' xs ys a (by simpa using g1) (by simpa using g2) (by simpa using g3) (by simpa using g4)
              omega
          obtain ⟨S2, hlen⟩ := ih S1 po1 e
          exact ⟨S2, by simp [hlen]⟩
        · cases e
def parS (rs : M.Env → R (List Slot)) (is : List Nat) : M.Env → Option SO := fun env => bndS (rs env) fun ss env1 => nextS (M.sets env1 is ss)
theorem par_reads {σ : L2.St} {is : List Nat} {rs : M.Env → R (List Slot)} (h : tS n W (parS rs is) E σ H) : tPr n W rs σ H fun vs H1 => vs.length = is.length ∧ E.nx (setsσ σ is vs) H1 := by
  obtain ⟨c, F, env, hK, hT, S, q⟩ := h
  refine ⟨c, F, env, hK, hT, S, (PostS.step (rel1 := relP c σ) q).imp fun vs H1 ⟨F1, env1, ss, S1, sm1, r1, q1⟩ => ?_⟩
  obtain ⟨env2, e1, q1⟩ := next_some' q1
  obtain ⟨S2, hl⟩ := S1.sets r1 e1
  exact ⟨by rw [← r1.len, hl], q1 _ F1 H1 S2 (Same.refl _)⟩
theorem snd_par2 {i j : Nat} {x y : Str} {a b : Expr} {rs : M.Env → R (List Slot)} {px py pt pos : Pos} {kt k2 pt2} (hc : X.calm = true) (hN : X.N.Nodup) (hi : X.N[i]? = some x) (hj : X.N[j]? = some y) (hij : i ≠ j)
    (hx : X.env.scope.names.lookup x = some .local) (hy : X.env.scope.names.lookup y = some .local) (ha : PA X [a, b] (tPr n W rs))
    (hw : swappedStores [.Tuple [.Name x px, .Name y py] kt pt] (.Tuple [a, b] k2 pt2) X.env = pure (some [x, y]))
    (hs : swapsWithSole [.Tuple [.Name x px, .Name y py] kt pt] (.Tuple [a, b] k2 pt2) pos.line X.env = pure false) :
    PS X (.Assign [.Tuple [.Name x px, .Name y py] kt pt] (.Tuple [a, b] k2 pt2) pos) (tS n W (parS rs [i, j])) := by
  refine (ps_par hc hN hi hj hij hx hy ha hw hs).imp fun E σ H h => ?_
  obtain ⟨c, F, env, hK, hT, S, q⟩ := par_reads h
  refine ⟨c, F, env, hK, hT, S, q.imp fun vs H1 ⟨hl, q⟩ => ?_⟩
  match vs, hl, q with
  | [v, w], _, q => exact ⟨v, w, rfl, q⟩
theorem snd_par3 {i j l : Nat} {x y z : Str} {a b d : Expr} {rs : M.Env → R (List Slot)} {px py pz pt pos : Pos} {kt k2 pt2} (hc : X.calm = true) (hN : X.N.Nodup) (hi : X.N[i]? = some x) (hj : X.N[j]? = some y) (hl : X.N[l]? = some z) (hij : i ≠ j) (hil : i ≠ l) (hjl : j ≠ l)
    (hx : X.env.scope.names.lookup x = some .local) (hy : X.env.scope.names.lookup y = some .local) (hz : X.env.scope.names.lookup z = some .local) (ha : PA X [a, b, d] (tPr n W rs))
    (hw : swappedStores [.Tuple [.Name x px, .Name y py, .Name z pz] kt pt] (.Tuple [a, b, d] k2 pt2) X.env = pure (some [x, y, z]))
    (hs : swapsWithSole [.Tuple [.Name x px, .Name y py, .Name z pz] kt pt] (.Tuple [a, b, d] k2 pt2) pos.line X.env = pure false) :
    PS X (.Assign [.Tuple [.Name x px, .Name y py, .Name z pz] kt pt] (.Tuple [a, b, d] k2 pt2) pos) (tS n W (parS rs [i, j, l])) := by
  refine (ps_par3 hc hN hi hj hl hij hil hjl hx hy hz ha hw hs).imp fun E σ H h => ?_
  obtain ⟨c, F, env, hK, hT, S, q⟩ := par_reads h
  refine ⟨c, F, env, hK, hT, S, q.imp fun vs H1 ⟨hl, q⟩ => ?_⟩
  match vs, hl, q with
  | [u, v, w], _, q => exact ⟨u, v, w, rfl, q⟩

/-! stores from the left -/
def gNames (is : List Nat) : TGs := fun vs σ H Q => vs.length = is.length ∧ Q (setsσ σ is vs) H
theorem pgs_imp {es : List Expr} {t u : TGs} (h : PGs X es t) (w : ∀ vs σ H Q, u vs σ H Q → t vs σ H Q) : PGs X es u := ⟨fun pins s σ H vs us Q I r q => h.run pins s σ H vs us Q I r (w vs σ H Q q)⟩
theorem pgs_n0 : PGs X [] (gNames []) := pgs_imp pgs_nil fun vs σ H Q ⟨hl, q⟩ => by
  match vs, hl, q with
  | [], _, q => exact ⟨rfl, q⟩
theorem pgs_n1 {i : Nat} {x : Str} {pos : Pos} {es : List Expr} {is : List Nat} (hN : X.N.Nodup) (hi : X.N[i]? = some x) (hx : Loc X.env.scope x) (hf : X.fn x = true ∨ X.env.scope.names.lookup x = some .local) (h : PGs X es (gNames is)) : PGs X (.Name x pos :: es) (gNames (i :: is)) :=
  pgs_imp (pgs_cons (pg_name hN hi hx hf) h rfl) fun vs σ H Q ⟨hl, q⟩ => by
    match vs, hl, q with
    | v :: vs, hl, q => exact ⟨v, vs, rfl, by simpa using hl, q⟩
theorem ParOk.newU {σ : L2.St} {env : M.Env} {ss : List Slot} {vs : List V} {p : Addr} {o : HO} (h : ParOk c σ F H env ss vs) (hp : H p = none) : ParOk c σ F (upd H p o) env ss vs := by
  refine ⟨h.len, fun i s v g1 g2 => ?_, h.apart⟩
  have z := h.at_ i s v g1 g2
  cases s with
  | val d => exact z
  | own k ys =>
    obtain ⟨hk, q, ws, e1, fp, hq, ra, h0, ho⟩ := z
    exact ⟨hk, q, ws, e1, fp, by rw [upd_ne (ne_of_none hq hp)]; exact hq, ra, h0, ho⟩
theorem snd_parT {es vs' : List Expr} {is : List Nat} {rs : M.Env → R (List Slot)} {pt pos : Pos} {kt k2 pt2} (hc : X.calm = true) (hz : is.length ≤ sizeLine) (ha : PA X vs' (tPr n W rs)) (hg : PGs X es (gNames is)) (hn : (assignEach es X.env).length = is.length) (hst : (assignEach es X.env).findIdx? (·.1) = none)
    (hw : swappedStores [.Tuple es kt pt] (.Tuple vs' k2 pt2) X.env = pure none)
    (hs : swapsWithSole [.Tuple es kt pt] (.Tuple vs' k2 pt2) pos.line X.env = pure false) :
    PS X (.Assign [.Tuple es kt pt] (.Tuple vs' k2 pt2) pos) (tS n W (parS rs is)) := by
  refine (ps_asg (pe_tup ha) (pg_tup hc hg hn hst) hs hw rfl).imp fun E σ H ⟨c, F, env, hK, hT, S, q⟩ => ?_
  refine ⟨c, F, env, hK, hT, S, (PostS.step (rel1 := relP c σ) q).imp fun vs H1 ⟨F1, env1, ss, S1, sm1, r1, q1⟩ => ?_⟩
  obtain ⟨env2, e1, q1⟩ := next_some' q1
  have hl : vs.length = is.length := by rw [← r1.len]; exact ((S1.sets r1 e1).2).symm
  refine ⟨by omega, fun p hp => ⟨p, vs, rfl, SqT.of upd_same, hl, hl, ?_⟩⟩
  obtain ⟨S2, _⟩ := (S1.newU (o := .tup vs) hp (SzOk.tup' S1.sz (by omega))).sets (r1.newU hp) e1
  exact q1 _ F1 _ S2 (Same.refl _)
theorem snd_par1 {i j : Nat} {y z : Str} {ix e e' : Expr} {py ps pz pt pos : Pos} {kt k2 pt2} {r r' rx : M.Env → R TV} (hc : X.calm = true) (hN : X.N.Nodup) (hi : X.N[i]? = some y) (hv : Vis X.env.scope y) (hd : (y == ("__debug__" : Str)) = false) (hcd : (y == ("__classdict__" : Str)) = false)
    (hj : X.N[j]? = some z) (hz : Loc X.env.scope z) (hf : X.fn z = true ∨ X.env.scope.names.lookup z = some .local)
    (ha : ∀ v, assign (.Subscript (.Name y py) ix ps) X.env v = (do
      let ov ← holding [v] (eval (.Name y py) X.env)
      let iv ← holding [v, ov] (eval ix X.env)
      standAt ps
      holding [v, ov, iv] (setItem ov iv v)
      release [v, ov, iv] []))
    (hse : starEach [e, e'] X.env = (false, eval e X.env) :: starEach [e'] X.env) (hse' : starEach [e'] X.env = (false, eval e' X.env) :: starEach [] X.env)
    (he : PE X e (tT n W r)) (he' : PE X e' (tT n W r')) (hx : PE X ix (tT n W rx))
    (hw : swappedStores [.Tuple [.Subscript (.Name y py) ix ps, .Name z pz] kt pt] (.Tuple [e, e'] k2 pt2) X.env = pure none)
    (hs : swapsWithSole [.Tuple [.Subscript (.Name y py) ix ps, .Name z pz] kt pt] (.Tuple [e, e'] k2 pt2) pos.line X.env = pure false) :
    PS X (.Assign [.Tuple [.Subscript (.Name y py) ix ps, .Name z pz] kt pt] (.Tuple [e, e'] k2 pt2) pos) (tS n W fun env => bndS (M.frz (r env)) fun d env1 => bndS (M.frz (r' env1)) fun d' env2 => if own? env2 i then bndS (rx env2) fun t env3 => nextS ((rd env3 t).bind fun k => (putAt env3 i k d).bind fun env4 => setAt env4 j (.val d')) else none) := by
  refine (ps_asg (pe_tup (pa_cons he.frz (pa_cons he'.frz pa_nil hse') hse)) (pg_tup hc (pgs_cons (pg_sub (pe_var hi hv hd hcd) hx set_list ha) (pgs_cons (pg_name hN hj hz hf) pgs_nil rfl) rfl) rfl rfl) hs hw rfl).imp fun E σ H ⟨c, F, env, hK, hT, S, q⟩ => ?_
  refine ⟨c, F, env, hK, hT, S, (PostS.step (rel1 := relV c σ) q).imp fun v H1 ⟨F1, env1, d, S1, sm1, r1, q1⟩ => ?_⟩
  refine ⟨c, F1, env1, hK, hT, S1, (PostS.step (rel1 := relV c σ) q1).imp fun v' H2 ⟨F2, env2, d', S2, sm2, r2, q2⟩ => ?_⟩
  refine ⟨by show 2 ≤ sizeLine; decide, fun p hp => ⟨p, [v, v'], rfl, SqT.of upd_same, rfl, v, [v'], rfl, ?_⟩⟩
  have S2' : Sok c F2 (upd H2 p (.tup [v, v'])) σ env2 := S2.newU hp (SzOk.tup' S2.sz (by show 2 ≤ sizeLine; decide))
  obtain ⟨⟨k, xs, eo⟩, q3⟩ := q2.guard
  obtain ⟨a, vs, s1, _⟩ := S2'.slot i _ eo
  refine ⟨.ref a, s1, c, F2, env2, hK, hT, S2', (PostS.step (rel1 := relT c σ) q3).imp fun w H3 ⟨F3, env3, t, S3, sm3, r3, q4⟩ => ?_⟩
  obtain ⟨env4, e1, q5⟩ := next_some' q4
  obtain ⟨x, e2, e1⟩ := Option.bind_eq_some_iff.mp e1
  obtain ⟨env5, e3, e1⟩ := Option.bind_eq_some_iff.mp e1
  refine put_reads S3 s1 r3 e2 (Rp.mono (sm2.trans sm3) r1) e3 fun H' S' => ?_
  refine ⟨v', [], rfl, rfl, ?_⟩
  unfold setAt at e1
  split at e1
  · rename_i hl
    cases e1
    exact q5 _ F3 H' (S'.setVal hl (Rp.mono sm3 r2)) (Same.refl _)
  · cases e1
end
end M
/-! What is left of expressions: calls of built-ins, ranges as lists, a tuple backwards, names of the module, comprehensions. -/
namespace M
open PySem PySem.Spec PyProof.Rows L2
/-! ### a tuple backwards -/
section
variable {prog : Program} {w : World} {A : Around} {E : Value → Shared → Prop} {s : Shared}
theorem adjust_back (n : Nat) : Builtin.Slice.sliceAdjust none none (-1) (n : Int) = ((n : Int) - 1, -1) := by
  unfold Builtin.Slice.sliceAdjust
  rfl
theorem places_back (n : Nat) : Builtin.Slice.slicePlaces ((n : Int) - 1) (-1) (-1) = n := by
  unfold Builtin.Slice.slicePlaces
  have h1 : ¬ ((-1 : Int) > 0) := by omega
  have h2 : (- -1 : Int) = 1 := rfl
  simp only [h1, if_false, h2, Int.ediv_one]
  split <;> omega
theorem fm_congr {α β : Type} {f g : α → Option β} : ∀ {l : List α}, (∀ x ∈ l, f x = g x) → l.filterMap f = l.filterMap g
  | [], _ => rfl
  | x :: l, h => by rw [List.filterMap_cons, List.filterMap_cons, h x (by simp), fm_congr fun y hy => h y (by simp [hy])]
theorem pick_back (xs : Array Value) : ((List.range xs.size).filterMap fun (m : Nat) => xs[(((xs.size : Nat) : Int) - 1 + (m : Int) * (-1)).toNat]?).toArray = xs.toList.reverse.toArray := by
  congr 1
  have h1 : ((List.range xs.size).filterMap fun (m : Nat) => xs[(((xs.size : Nat) : Int) - 1 + (m : Int) * (-1)).toNat]?) = ((List.range xs.size).map fun k => xs.size - 1 - k).filterMap (xs[·]?) := by
    rw [List.filterMap_map]
    refine fm_congr fun m hm => ?_
    have hm := List.mem_range.mp hm
    have : (((xs.size : Nat) : Int) - 1 + (m : Int) * (-1)).toNat = xs.size - 1 - m := by omega
    rw [this]
    rfl
  rw [h1, PySem.W.krv_range, List.filterMap_reverse, PySem.W.krv_all]
theorem sliceApplied_back {sl : Addr} {vl vu vs : Value} {n : Nat} {Q : Int × Int × Nat → Shared → Prop} (hs : s.heap.IsSliceOf sl vl vu vs) (pl : IsPart vl none) (pu : IsPart vu none) (ps : IsPart vs (some (-1)))
    (h : Q ((n : Int) - 1, -1, n) s) : wpAny (model prog w) A (Builtin.Slice.sliceApplied (.ref sl) (pure (n : Int))) Q E s := by
  obtain ⟨os, hos, hcs, hds⟩ := id hs
  unfold Builtin.Slice.sliceApplied Builtin.Slice.sliceFields
  refine wpAny_bind (wpAny_bind (wpAny_field hos hds (x := vl) rfl (wpAny_bind (wpAny_field hos hds (x := vu) rfl (wpAny_bind (wpAny_field hos hds (x := vs) rfl (wpAny_pure ?_)))))))
  refine wpAny_bind (HT.slicePart_ ps ?_)
  show wpAny _ _ (if ((-1 : Int) == 0) = true then _ else _) _ _ s
  rw [if_neg (by decide)]
  refine wpAny_bind (HT.slicePart_ pl (wpAny_bind (HT.slicePart_ pu (wpAny_bind (wpAny_pure ?_)))))
  show wpAny _ _ (match Builtin.Slice.sliceAdjust none none (-1) (n : Int) with | (lo, hi) => pure (lo, (-1 : Int), Builtin.Slice.slicePlaces lo hi (-1))) _ _ s
  rw [adjust_back n]
  show wpAny _ _ (pure ((n : Int) - 1, (-1 : Int), Builtin.Slice.slicePlaces ((n : Int) - 1) (-1) (-1))) _ _ s
  rw [places_back]
  exact wpAny_pure h
theorem getItem_tuple_back {t sl : Addr} {items : Array Value} {vl vu vs : Value} {Q : Value → Shared → Prop} (ht : IsTup s.heap t items) (hs : s.heap.IsSliceOf sl vl vu vs) (pl : IsPart vl none) (pu : IsPart vu none) (ps : IsPart vs (some (-1)))
    (h : Q (.ref s.heap.objs.size) { s with heap := s.heap.push { cls := .type "tuple", data := .seq items.toList.reverse.toArray } })
    (hsz : items.size ≤ sizeLine) : wpAny (model prog w) A (getItem (.ref t) (.ref sl)) Q E s := by
  have htake : sizeOk (.seq items.toList.reverse.toArray) := by
    show items.toList.reverse.toArray.size ≤ sizeLine
    rw [List.size_toArray, List.length_reverse, Array.length_toList]
    exact hsz
  obtain ⟨os, hos, hcs, hds⟩ := id hs
  have hTs : s.TypeIs (.ref sl) "slice" := ⟨os, hos, hcs⟩
  unfold getItem
  try with_reducible refine wpAny_holding ?_
  first | refine wpAny_bind (wpAny_pure ?_) | skip
  refine wpAny_bind (wpAny_sequenceKey ht.typeIs (by decide) ?_)
  refine wpAny_bind (wpAny_callSpecial?_slot (name := Str.ofString "__getitem__") ht.typeIs PyProof.Rows.slot_tuple_getitem
    (wpAny_call_entry PyProof.Rows.slot_tuple_getitem ht.typeIs entry_tuple_getitem ?_ (args_tuple_getitem _ _)))
  show wpAny _ _ (Builtin.Tuple.tupleItemsOf (.ref t) >>= _) _ _ s
  refine wpAny_bind (tupleItemsOf_ ht ?_)
  refine wpAny_bind (wpAny_typeOf hTs ?_)
  rw [if_pos (by decide)]
  refine wpAny_bind (sliceApplied_back hs pl pu ps ?_)
  show wpAny _ _ (if ((((items.size : Nat) : Int) - 1) == 0 && (-1 : Int) == 1 && items.size == items.size) = true then _ else _) _ _ s
  rw [if_neg (by simp), pick_back]
  first
    | exact wpAny_bind (m := Builtin.Tuple.tupleExact _) (wpAny_newObj_type (wpAny_pure ⟨_, rfl, wpAny_pure h⟩) htake)
    | exact wpAny_bind (m := Builtin.Tuple.tupleExact _) (wpAny_newObj_type (wpAny_bind (wpAny_pure (wpAny_pure ⟨_, rfl, wpAny_pure h⟩))) htake)
    | exact wpAny_bind (wpAny_bind (m := Builtin.Tuple.tupleExact _) (wpAny_newObj_type (wpAny_pure (wpAny_pure ⟨_, rfl, wpAny_pure h⟩)) htake))
    | exact wpAny_bind (wpAny_bind (m := Builtin.Tuple.tupleExact _) (wpAny_newObj_type (wpAny_pure ⟨_, rfl, wpAny_pure h⟩) htake))
end
section
variable {n : Cn} {W : WX} {X : Cx} {c : Ct} {F H : Hp} {E : Ends}
def tRevT (K : PySem.W.Frag) (te : TE) : TE := fun σ H Q => te σ H fun x H1 => ∃ a xs, x = .ref a ∧ SqT K H1 a xs ∧ ∀ p, H1 p = none → Q (.ref p) (upd H1 p (.tup xs.reverse))
theorem pe_revT {e : Expr} {te : TE} {k : Nat} {p1 p2 p3 pos : Pos} (he : PE X e te) : PE X (.Subscript e (.Slice none none (some (.UnaryOp .USub (.Constant (.int 1) k p1) p2)) p3) pos) (tRevT X.K te) := by
  refine ⟨fun pins s σ H Q I h => ?_⟩
  refine Subscript_ (thn (he.run pins s σ H _ I h) fun v s1 ⟨x, H1, I1, r1, q1⟩ => ?_)
  obtain ⟨a, xs, ex, hx, q⟩ := q1
  subst ex
  cases r1
  have hst : PO X (some (.UnaryOp .USub (.Constant (.int 1) k p1) p2)) (tPart (tUn (rU fun i => .int (-i)) (tC (.int 1)))) := po_some (pe_un un_neg pe_int)
  refine wpAny_Slice (thn (po_none.run pins s1 σ H1 (fun o H2 => o = none ∧ H2 = H1) I1 ⟨rfl, rfl⟩) fun vl s2 ⟨l, H2, I2, pl, el, e2⟩ => ?_)
  subst el e2
  refine thn (po_none.run pins s2 σ H2 (fun o H3 => o = none ∧ H3 = H2) I2 ⟨rfl, rfl⟩) fun vu s3 ⟨u, H3, I3, pu, eu, e3⟩ => ?_
  subst eu e3
  refine thn (hst.run pins s3 σ H3 (fun o H4 => o = some (-1) ∧ H4 = H3) I3 ⟨1, rfl, -1, rfl, rfl, rfl⟩) fun vs s4 ⟨o, H4, I4, ps, eo, e4⟩ => ?_
  subst eo e4
  have I5 : Inv X pins σ H4 { s4 with heap := s4.heap.push { cls := .type "slice", data := .fields #[vl, vu, vs] } } := I4.kept (t' := s4.toks) fun b ob q => Heap.get?_push_of_some _ q
  obtain ⟨its, r, ht, hz⟩ := I5.tuple hx
  have hlen := r.length
  show wpAny (model X.prog X.w) X.A (subscriptTail e (.Slice none none (some (.UnaryOp .USub (.Constant (.int 1) k p1) p2)) p3) (.ref a) (.ref s4.heap.objs.size)) (EP X pins σ Q) X.xe { s4 with heap := s4.heap.push { cls := .type "slice", data := .fields #[vl, vu, vs] } }
  refine tail_any (ops := [.ref a, .ref s4.heap.objs.size]) ht.typeIs (PyProof.Rows.slot_tuple_getitem.lookup) ?_ (by with_unfolding_all rfl)
  refine getItem_tuple_back ht (Heap.IsSliceOf.new _ vl vu vs) pl pu ps ?_ (by rw [List.size_toArray]; omega)
  refine ⟨.ref _, _, I5.laid (t' := s4.toks) (o := .tup xs.reverse) (fun b ob q => Heap.get?_push_of_some _ q) (Nat.le_refl _) ?_, rfl, q _ (I5.hok.fresh (Nat.le_refl _))⟩
  exact ⟨by rw [List.length_reverse]; exact hz, _, r.reverse, IsTup.new _ _⟩

theorem snd_rev {e : Expr} {k : Nat} {p1 p2 p3 pos : Pos} {r : M.Env → R TV} (hX : X.K = n.K) (he : PE X e (tT n W r)) : PE X (.Subscript e (.Slice none none (some (.UnaryOp .USub (.Constant (.int 1) k p1) p2)) p3) pos) (tT n W fun env => bnd (r env) fun ta env1 => imm ((rd env1 ta).bind revD) env1) := by
  refine (pe_revT he).imp fun σ H Q ⟨c, F, env, hK, hT, S, q⟩ => ⟨c, F, env, hK, hT, S, (Post.step (rel1 := relT c σ) q).imp fun v H1 ⟨F1, env1, t, S1, sm1, r1, q1⟩ => ?_⟩
  obtain ⟨dz, e, q1⟩ := imm_some' q1
  obtain ⟨d, e1, e⟩ := Option.bind_eq_some_iff.mp e
  have dq := S1.rd r1 e1
  cases dq with
  | tup h1 t1 =>
    cases e
    have sq := SqT.mono S1.sub h1
    refine ⟨_, _, rfl, by rw [hX, ← hK]; exact sq, fun p hp => ?_⟩
    have fp := S1.sub.free hp
    have hz : (List.length _ ) ≤ sizeLine := S1.sz.sqT (K := c.K) sq
    exact q1 _ _ _ (S1.new hp (fun ps z => by cases z) (SzOk.tup' S1.sz (by rw [List.length_reverse]; exact hz))) (same_upd fp) (.tup (SqT.of upd_same) (RpAll.mono (same_upd fp) (RpAll.reverse t1)))
  | _ => cases e
/-- list(range(a, b)) -/
theorem rangeD_inv {i j : Int} {xs : List D} (h : rangeD i j = some xs) : RgOk i j ∧ xs = (List.range (j - i).toNat).map fun k => PyData.int (i + (k : Nat)) := by
  unfold rangeD at h
  split at h
  · rename_i hb
    cases h
    obtain ⟨a, b, c, d⟩ := hb
    exact ⟨⟨by omega, by omega, by omega, by omega, by omega⟩, rfl⟩
  · cases h
theorem rpAll_map {K : Frag} {F : Hp} {f : Nat → V} {g : Nat → D} (h : ∀ k, Rp K F (f k) (g k)) : ∀ l : List Nat, RpAll K F (l.map f) (l.map g)
  | [] => .nil
  | k :: l => .cons (h k) (rpAll_map h l)
theorem snd_lrange {a b : Expr} {p p2 pos pos2 : Pos} {ra rb : M.Env → R TV} (hc : X.calm = true) (hg : Gl X "list") (hm : X.mg "list" = none) (hg2 : Gl X "range") (hm2 : X.mg "range" = none) (hs : starEach [a, b] X.env = (false, eval a X.env) :: starEach [b] X.env) (hs2 : starEach [b] X.env = (false, eval b X.env) :: starEach [] X.env)
    (hp : (backTo pos2 (starEach [b] X.env)).any (·.1) = false)
    (ha : PE X a (tT n W ra)) (hb : PE X b (tT n W rb)) : PE X (.Call (.Name "list" p) [.Call (.Name "range" p2) [a, b] [] pos2] [] pos) (tF n W fun env => bnd (ra env) fun ta env1 => bnd (rb env1) fun tb env2 => imm ((rd env2 ta).bind fun x => (rd env2 tb).bind fun y => match x, y with | .int i, .int j => (rangeD i j).map .list | _, _ => none) env2) := by
  refine (pe_listRg hc hg hm (prg_2 hg2 hm2 ha hb hs hs2 hp)).imp fun σ H Q ⟨c, F, env, hK, hT, S, q⟩ => ⟨c, F, env, hK, hT, S, (Post.step (rel1 := relT c σ) q).imp fun v H1 ⟨F1, env1, d, S1, sm1, r1, q1⟩ => ?_⟩
  refine ⟨c, F1, env1, hK, hT, S1, (Post.step (rel1 := relT c σ) q1).imp fun y H2 ⟨F2, env2, tb, S2, sm2, r2, q2⟩ => ?_⟩
  obtain ⟨dz, e, q2⟩ := imm_some' q2
  obtain ⟨dx, e1, e⟩ := Option.bind_eq_some_iff.mp e
  obtain ⟨dy, e2, e⟩ := Option.bind_eq_some_iff.mp e
  have dq := S2.rd (RepT.mono r1 sm2) e1
  have dq2 := S2.rd r2 e2
  cases dq with
  | int i =>
    cases dq2 with
    | int j =>
      obtain ⟨xs, e3, rfl⟩ := Option.map_eq_some_iff.mp e
      obtain ⟨ok, rfl⟩ := rangeD_inv e3
      refine ⟨i, j, rfl, rfl, ok, fun p hp => ?_⟩
      have rg : RpAll c.K F2 (rgV i j) ((List.range (j - i).toNat).map fun k => PyData.int (i + (k : Nat))) := rpAll_map (fun k => .int _) _
      have := (rsF_of S2 q2) _ rg (by rw [rgV_length]; have := ok.2.2.2.2; rw [sizeLine_eq]; omega) p hp
      exact this
    | _ => cases e
  | _ => cases e
/-! ### built-ins -/
def biN : Bi → Str
  | .len => "len" | .sum => "sum" | .max => "max" | .min => "min" | .max2 => "max" | .min2 => "min" | .abs => "abs"
  | .list => "list" | .tuple => "tuple" | .int => "int" | .all => "all" | .any => "any" | .isT _ => "isinstance" | .str => "str"
theorem snd_bi {b : Bi} {p pos : Pos} {a : Expr} {as : List Expr} {rs : M.Env → R (List TV)} (hb : ∀ t, b ≠ .isT t) (hX : X.K = n.K) (hc : X.calm = true) (hu : X.A.units + 64 < cLine) (hg : Gl X (biN b)) (hm : X.mg (biN b) = none)
    (ha : PA X (a :: as) (tTs n W rs)) (he : starEach (a :: as) X.env = (false, eval a X.env) :: starEach as X.env) (hpl : (backTo pos (starEach as X.env)).any (·.1) = false) :
    PE X (.Call (.Name (biN b) p) (a :: as) [] pos) (tF n W fun env => bnd (rs env) fun ts env1 => imm ((ts.mapM (rd env1)).bind fun ds => biD b ds) env1) := by
  refine snd_bi0 (es := []) hX ?_
  have h := call_bi (X := X) b hb hc hu
  cases b with
  | len => exact pe_callB h hg hm (by decide +kernel) ha (by decide +kernel) (by decide +kernel) he hpl
  | sum => exact pe_callB h hg hm (by decide +kernel) ha (by decide +kernel) (by decide +kernel) he hpl
  | max => exact pe_callB h hg hm (by decide +kernel) ha (by decide +kernel) (by decide +kernel) he hpl
  | min => exact pe_callB h hg hm (by decide +kernel) ha (by decide +kernel) (by decide +kernel) he hpl
  | max2 => exact pe_callB h hg hm (by decide +kernel) ha (by decide +kernel) (by decide +kernel) he hpl
  | min2 => exact pe_callB h hg hm (by decide +kernel) ha (by decide +kernel) (by decide +kernel) he hpl
  | abs => exact pe_callB h hg hm (by decide +kernel) ha (by decide +kernel) (by decide +kernel) he hpl
  | all => exact pe_callB h hg hm (by decide +kernel) ha (by decide +kernel) (by decide +kernel) he hpl
  | any => exact pe_callB h hg hm (by decide +kernel) ha (by decide +kernel) (by decide +kernel) he hpl
  | list => exact pe_callTy h hg hm (by decide +kernel) ha (by decide +kernel) (by decide +kernel) he hpl
  | tuple => exact pe_callTy h hg hm (by decide +kernel) ha (by decide +kernel) (by decide +kernel) he hpl
  | int => exact pe_callTy h hg hm (by decide +kernel) ha (by decide +kernel) (by decide +kernel) he hpl
  | str => exact pe_callTy h hg hm (by decide +kernel) ha (by decide +kernel) (by decide +kernel) he hpl
  | isT t => exact absurd rfl (hb t)
/-- T, a type by its name -/
theorem pe_ty {t : Ty} {pos : Pos} (hg : Gl X (tyN t)) (hm : X.mg (tyN t) = none) : PE X (.Name (tyN t) pos) (tC (.ty (tyN t))) := by
  refine ⟨fun pins s σ H Q I h => ?_⟩
  cases t with
  | int => exact ld_blt I hg hm (u := .type "int") (by decide +kernel) ⟨.ty _, H, I, rfl, h⟩ (by decide +kernel) (by decide +kernel)
  | bool => exact ld_blt I hg hm (u := .type "bool") (by decide +kernel) ⟨.ty _, H, I, rfl, h⟩ (by decide +kernel) (by decide +kernel)
  | tuple => exact ld_blt I hg hm (u := .type "tuple") (by decide +kernel) ⟨.ty _, H, I, rfl, h⟩ (by decide +kernel) (by decide +kernel)
  | str => exact ld_blt I hg hm (u := .type "str") (by decide +kernel) ⟨.ty _, H, I, rfl, h⟩ (by decide +kernel) (by decide +kernel)
theorem snd_isT {t : Ty} {p p2 pos : Pos} {a : Expr} {r : M.Env → R TV} (hX : X.K = n.K) (hg : Gl X "isinstance") (hm : X.mg "isinstance" = none) (hg2 : Gl X (tyN t)) (hm2 : X.mg (tyN t) = none)
    (ha : PE X a (tT n W r)) (he : starEach [a, .Name (tyN t) p2] X.env = (false, eval a X.env) :: starEach [.Name (tyN t) p2] X.env) :
    PE X (.Call (.Name "isinstance" p) [a, .Name (tyN t) p2] [] pos) (tT n W fun env => bnd (r env) fun t0 env1 => imm ((rd env1 t0).map fun d => .bool (isTy t d)) env1) := by
  refine (pe_callB (call_isT t) hg hm (by decide +kernel) (pa_cons ha (pa_cons (pe_ty hg2 hm2) pa_nil rfl) he) (by decide +kernel) (by decide +kernel) he rfl).imp fun σ H Q ⟨c, F, env, hK, hT, S, q⟩ => ⟨c, F, env, hK, hT, S, (Post.step (rel1 := relT c σ) q).imp fun v H1 ⟨F1, env1, t1, S1, sm1, r1, q1⟩ => ?_⟩
  obtain ⟨dz, e, q1⟩ := imm_some' q1
  obtain ⟨d, e1, rfl⟩ := Option.map_eq_some_iff.mp e
  refine ⟨F1, v, d, S1.sub, by rw [hX, ← hK]; exact S1.rd r1 e1, rfl, q1 _ F1 H1 S1 (Same.refl _) (.bl _)⟩
theorem isT_eq {t : Ty} {r : M.Env → R TV} : (fun env => bnd (bnd (r env) fun t0 env1 => some (.ok [t0] env1)) fun ts env1 => imm ((ts.mapM (rd env1)).bind fun ds => biD (.isT t) ds) env1) = fun env => bnd (r env) fun t0 env1 => imm ((rd env1 t0).map fun d => .bool (isTy t d)) env1 := by
  funext env
  match r env with
  | none => rfl
  | some (.err _ _) => rfl
  | some (.ok t0 env1) =>
    show imm ((List.mapM (rd env1) [t0]).bind fun ds => biD (.isT t) ds) env1 = imm ((rd env1 t0).map fun d => .bool (isTy t d)) env1
    rw [List.mapM_cons, List.mapM_nil]
    cases rd env1 t0 <;> rfl
/-! ### comprehensions -/
theorem PTs_one {e : Expr} {t : TT} (h : PT X e t) : PTs X [e] t := by
  first
    | exact pts_one h
    | exact pts_cons h pts_nil
theorem snd_comp {elt tg iter : Expr} {ifs : List Expr} {scope : Scope} {own : List (Str × Nat)} {pos : Pos} {t : Tg} {rit : M.Env → R (List D)} {rc : M.Env → R Bool} {re : M.Env → R TV} (hc : X.calm = true) (hN : X.N.Nodup) (hi : PI X tg iter (tIt n W rit)) (ok : BlkOk X.N X.env.scope scope own) (hv : own.map (·.2) = t.slots)
    (hg : ∀ (s : Shared) (H : Hp) (C : Addr) (cl : List (Str × Addr)) (fp : List Addr), PG (X.blk s H scope (compEnvC scope cl C X.env) fp) tg (gA n t)) (ht : ∀ (s : Shared) (H : Hp) (C : Addr) (cl : List (Str × Addr)) (fp : List Addr), PTs (X.blk s H scope (compEnvC scope cl C X.env) fp) ifs (tBo n WF rc))
    (he : ∀ (s : Shared) (H : Hp) (C : Addr) (cl : List (Str × Addr)) (fp : List Addr), PE (X.blk s H scope (compEnvC scope cl C X.env) fp) elt (tT n WF re)) (hs : ∀ x, foldedSetIterable iter X.env x = pure x) :
    PE X (.ListComp elt [⟨tg, iter, ifs, 0⟩] scope pos) (tF n W (compR t rit rc re)) :=
  (pe_lc hc hN hi ok hg ht (fun s H C cl fp => (he s H C cl fp).frz) hs).imp fun σ H Q h => by rw [hv]; exact comp_reads h
theorem compR_imm {t : Tg} {rit : M.Env → R (List D)} {rc : M.Env → R Bool} {re : M.Env → R TV} : ImmR (compR t rit rc re) := fun env tv env' h => by
  obtain ⟨a, e1, _, h⟩ := bnd_inv h
  obtain ⟨b, e2, _, h⟩ := bnd_inv h
  cases h
  exact ⟨_, rfl⟩
theorem snd_setComp {i : Nat} {y : Str} {py : Pos} {elt tg iter : Expr} {ifs : List Expr} {scope : Scope} {own : List (Str × Nat)} {pos spos : Pos} {t : Tg} {rit : M.Env → R (List D)} {rc : M.Env → R Bool} {re : M.Env → R TV} (hc : X.calm = true) (hN : X.N.Nodup) (hy : X.N[i]? = some y) (hyl : X.env.scope.names.lookup y = some .local)
    (hsw : swapsWith (.ListComp elt [⟨tg, iter, ifs, 0⟩] scope pos) (some (.Name y py)) spos.line X.env = pure true)
    (hi : PI X tg iter (tIt n W rit)) (ok : BlkOk X.N X.env.scope scope own) (hv : own.map (·.2) = t.slots)
    (hg : ∀ (s : Shared) (H : Hp) (C : Addr) (cl : List (Str × Addr)) (fp : List Addr), PG (X.blk s H scope (compEnvC scope cl C X.env) fp) tg (gA n t)) (ht : ∀ (s : Shared) (H : Hp) (C : Addr) (cl : List (Str × Addr)) (fp : List Addr), PTs (X.blk s H scope (compEnvC scope cl C X.env) fp) ifs (tBo n WF rc))
    (he : ∀ (s : Shared) (H : Hp) (C : Addr) (cl : List (Str × Addr)) (fp : List Addr), PE (X.blk s H scope (compEnvC scope cl C X.env) fp) elt (tT n WF re)) (hs : ∀ x, foldedSetIterable iter X.env x = pure x) :
    PS X (.Assign [.Name y py] (.ListComp elt [⟨tg, iter, ifs, 0⟩] scope pos) spos) (tS n W fun env => bndS (M.frz (compR t rit rc re env)) fun d env1 => nextS (setAt env1 i (slotOf true d))) :=
  (ps_setLc hc hN hy hyl hsw hi ok hg ht (fun s H C cl fp => (he s H C cl fp).frz) hs).imp fun E σ H h => by
    have h := setF_reads compR_imm h
    show tLc _ _ _ _ (own.map (·.2)) σ H _
    rw [hv]
    exact comp_reads h

theorem upd_twice {H : Hp} {p : Addr} {o o' : HO} : upd (upd H p o) p o' = upd H p o' := by
  funext b
  unfold upd
  split <;> rfl
def kvS : List (Key × V) := [(.inl 1, .int 1), (.inl 3, .int 2), (.inl 7, .int 3), (.inl 15, .int 4)]
theorem snd_srcs {e : Expr} {j1 j2 j3 j4 l1 l2 l3 l4 : Nat} {p1 p2 p3 p4 q1 q2 q3 q4 pd pos : Pos} {r : M.Env → R TV} (hu : X.A.units + 1 < cLine) (hp : NoSl e) (he : PE X e (tT n W r)) :
    PE X (.Subscript (.Dict [some (.Constant (.int 1) j1 p1), some (.Constant (.int 3) j2 p2), some (.Constant (.int 7) j3 p3), some (.Constant (.int 15) j4 p4)] [.Constant (.int 1) l1 q1, .Constant (.int 2) l2 q2, .Constant (.int 3) l3 q3, .Constant (.int 4) l4 q4] pd) e pos)
      (tT n W fun env => bnd (r env) fun t env1 => imm ((rd env1 t).bind srcD) env1) := by
  refine (pe_dget hu (pe_disp (pps_cons pe_int pe_int (pps_cons pe_int pe_int (pps_cons pe_int pe_int (pps_cons pe_int pe_int pps_nil)))) rfl rfl (fun z => by cases z) (show (4 : Nat) ≤ 15 by decide)) he hp).imp fun σ H Q ⟨c, F, env, hK, hT, S, q⟩ => ?_
  refine fun p hp => ⟨upd_same, kvS, rfl, by decide, ?_⟩
  rw [upd_twice]
  have S1 : Sok c F (upd H p (.dK (mergeK [] kvS))) σ env := S.newU hp (SzOk.upd' S.sz fun xs z => by rcases z with z | z | ⟨u, z | z⟩ <;> cases z)
  have np : p ∉ owns σ env := fun z => by
    obtain ⟨i, k, xs, g1, g2⟩ := mem_owns.mp z
    exact S.own_ne g1 g2 hp rfl
  refine ⟨c.now F (upd H p (.dK (mergeK [] kvS))) σ env, F, env, hK, hT, S1.now, ?_⟩
  have q : Post n c F σ W (relT c σ) (bnd (r env) fun t env1 => imm ((rd env1 t).bind srcD) env1) Q := q
  match r env, q with
  | none, q => exact q
  | some (.err k env1), q => exact fun F2 H2 S2 sm => q F2 H2 (S1.back S2) sm
  | some (.ok t env1), q =>
    intro y F2 H2 S2 sm rl
    have S3 := S1.back S2
    have hd : H2 p = some (.dK (mergeK [] kvS)) := S2.old p _ upd_same np (fun ps z => by cases z)
    rw [bnd_ok] at q
    obtain ⟨dz, e1, q1⟩ := imm_some' q
    obtain ⟨x, e2, e3⟩ := Option.bind_eq_some_iff.mp e1
    have dq := S3.rd rl e2
    cases dq with
    | int i =>
      have e3 : (if i = 1 then some (PyData.int 1) else if i = 3 then some (.int 2) else if i = 7 then some (.int 3) else if i = 15 then some (.int 4) else none) = some dz := e3
      have fin : ∀ (k v : Int), i = k → valV (mergeK [] kvS) (.inl k) = some (.int v) → dz = .int v → ∃ a w, V.ref p = .ref a ∧ DGet H2 a (.int i) (some w) ∧ Q w H2 := fun k v ek ev ed => by
        subst ek ed
        exact ⟨p, .int v, rfl, .inl ⟨_, .inl i, Rd.of hd, rfl, ev.symm⟩, q1 (.int v) F2 H2 S3 sm (.int v)⟩
      split at e3
      · rename_i h; cases e3; exact fin 1 1 h rfl rfl
      · split at e3
        · rename_i h; cases e3; exact fin 3 2 h rfl rfl
        · split at e3
          · rename_i h; cases e3; exact fin 7 3 h rfl rfl
          · split at e3
            · rename_i h; cases e3; exact fin 15 4 h rfl rfl
            · cases e3
    | _ => cases e3
end
end M
/-! While an exception is handled: the end of a list's iterator, sums, comprehensions over lists. -/
namespace M
open PySem PySem.Spec PyProof.Rows L2 HotX L2H
section
variable {prog : Program} {w : World} {A : Around} {E : Value → Shared → Prop} {s : Shared}
theorem list_end_hot {it l x1 : Addr} {i : Nat} {items : Array Value} {Q : Option Value → Shared → Prop} (hot : HotAt A x1 s.heap) (hne : x1 ≠ it) (hit : s.heap.IsListIter it l i) (hl : s.heap.IsList l items) (hx : items[i]? = none)
    (hQ : ∀ h', Heap.ExtBut it s.heap h' → Q none { s with heap := h' }) : wpAny (model prog w) A (pyNext (.ref it)) Q E s := by
  obtain ⟨o, ho, hc, hd⟩ := id hit
  obtain ⟨ol, hol, _, nl, hdl⟩ := hl
  obtain ⟨hh, o1, vs1, h1, d1, c1⟩ := hot
  unfold pyNext
  refine wpAny_bind (wpAny_attempt (wpAny_callSpecial?_slot (name := Str.ofString "__next__") hit.typeIs slot_listiter_next
    (wpAny_call_entry slot_listiter_next hit.typeIs entry_listiter_next ?_ (args_listiter_next _))))
  show wpAny _ _ (field (.ref it) 0 >>= _) _ _ s
  refine wpAny_bind (wpAny_field ho hd (x := .ref l) rfl ?_)
  show wpAny _ _ (if (Value.ref l == Value.none) = true then _ else _) _ _ s
  rw [if_neg (show ¬ ((Value.ref l == Value.none) = true) from Bool.false_ne_true)]
  show wpAny _ _ (field (.ref it) 1 >>= _) _ _ s
  refine wpAny_bind (wpAny_field ho hd (x := .int i 0) rfl ?_)
  show wpAny _ _ (seqItems? (.ref l) >>= _) _ _ s
  refine wpAny_bind (wpAny_seqItems hol hdl ?_)
  simp only [Int.toNat_natCast, hx]
  refine wpAny_bind (wpAny_rule (wpAny_bind (wpAny_setField ho hd (by simp) ?_)))
  have h1' : (s.heap.update it (Obj.mapFields (·.setIfInBounds 0 .none))).get? x1 = some o1 := by rw [Heap.get?_update_other _ _ (Ne.symm hne)]; exact h1
  show wpAny _ _ (newExc (.type "StopIteration") [] >>= _) _ _ _
  refine wpAny_bind ?_
  simp only [newExc, newTuple]
  refine wpAny_bind (wpAny_newObj_type ?_ (by size_fits))
  refine wpAny_bind (m := firstArgMember _ _) (wpAny_of_eq (a := Value.none) (by first | rfl | (simp only [firstArgMember]; rfl)) ?_)
  refine wpAny_newObj_type ?_ (by size_fits)
  refine raiseNew_hot ⟨hh, o1, vs1, Heap.get?_push_of_some _ (Heap.get?_push_of_some _ h1'), d1, c1⟩ (Nat.ne_of_lt (Heap.lt_size (Heap.get?_push_of_some _ h1'))) (Heap.get?_push_size _ rfl) rfl (by first | (simp; done) | (simp; omega) | (simp only [Array.size_append]; simp; omega)) ?_
  refine wpAny_bind (wpAny_isInstance (T := "StopIteration") (b := true) ⟨_, Heap.get?_update_self _ (Heap.get?_push_size _ rfl) rfl, rfl⟩ isSubtype_stop ?_)
  refine wpAny_pure (hQ _ fun b o hb e => ?_)
  have e2 : ((s.heap.update it (Obj.mapFields (·.setIfInBounds 0 .none)))).get? b = some o := by rw [Heap.get?_update_other _ _ (Ne.symm hb)]; exact e
  rw [Heap.get?_update_other _ _ (Nat.ne_of_gt (Heap.lt_size (Heap.get?_push_of_some _ e2)))]
  exact Heap.get?_push_of_some _ (Heap.get?_push_of_some _ e2)

theorem HotAt.keep {x1 : Addr} {h h' : Heap} (hot : HotAt A x1 h) (k : ∀ o, h.get? x1 = some o → h'.get? x1 = some o) : HotAt A x1 h' := by
  obtain ⟨hh, o, vs, e, d, c⟩ := hot
  exact ⟨hh, o, vs, k o e, d, c⟩
/-- a list walked while x1 is handled -/
theorem walks_hot {x1 : Addr} (it ax : Addr) (hne : ax ≠ it) (hx : x1 ≠ it) (items : Array Value) :
    Walks prog w A it [it, ax, x1] [it] items.size (fun i v => items[i]? = some v) (fun i h => h.IsListIter it ax i ∧ h.IsList ax items ∧ HotAt A x1 h) where
  sub := fun b hb => by simp at hb; simp [hb]
  frame := fun _ _ _ st hk => ⟨st.1.at fun o e => hk it (by simp) o e, st.2.1.at fun o e => hk ax (by simp) o e, HotAt.keep st.2.2 fun o e => hk x1 (by simp) o e⟩
  item := fun i s Q E hi st hQ => by
    refine wpAny_pyNext_list_item st.1 st.2.1 (x := items[i]) (by simp [hi]) fun h' it' sb => ?_
    exact hQ _ h' s.toks (by simp [hi]) ⟨it', st.2.1.extBut sb.extBut hne, HotAt.keep st.2.2 fun o e => sb.extBut x1 o hx e⟩ fun b o hb e => sb.extBut b o (fun z => hb (by simp [z])) e
  done := fun s Q E st hQ => list_end_hot st.2.2 hx st.1 st.2.1 (by simp) fun h' eb => hQ h' s.toks fun b o hb e => eb b o (fun z => hb (by simp [z])) e
  self := fun _ _ _ _ st hQ => wpAny_pyIter_listiter st.1 hQ
theorem sum_hot {l x1 : Addr} {xs : Array (Int × Tok)} {Q : Value → Shared → Prop} (hot : HotAt A x1 s.heap) (hl : s.heap.IsList l (intItems xs))
    (h : ∀ h' tk t', (∀ b o, s.heap.get? b = some o → h'.get? b = some o) → Q (.int (preSum (numAt xs) xs.size) t') { s with heap := h', toks := tk }) : wpAny (model prog w) A (call (.builtin "sum") [.ref l]) Q E s := by
  refine call_sum_walkG (iter_intList hl fun s2 e st hfp hne => ?_)
  subst e
  obtain ⟨hh, o1, vs1, e1, d1, c1⟩ := id hot
  have hx : x1 ≠ s.heap.objs.size := Nat.ne_of_lt (Heap.lt_size e1)
  have hot2 : HotAt A.in1 x1 (s.heap.push { cls := .type "list_iterator", data := .fields #[.ref l, .int 0 0] }) := ⟨hh, o1, vs1, Heap.get?_push_of_some _ e1, d1, c1⟩
  refine ⟨_, _, _, _, _, _, numAt xs, rfl, walks_hot (A := A.in1) _ l hne hx (intItems xs), ⟨st.1, st.2, hot2⟩, fun b hb => ?_, fun _ _ z => intItems_at z, fun h' tk t' hk => ?_⟩
  · simp only [List.mem_cons, List.not_mem_nil, or_false] at hb
    rcases hb with rfl | rfl | rfl
    · exact hfp _ (by simp)
    · exact hfp _ (by simp)
    · exact Heap.lt_size (Heap.get?_push_of_some _ e1)
  · have z := h h' tk t' (old_kept hk)
    simpa [intItems] using z
end
section
variable {X : Cx}
theorem call_sumH (hc : HotC X) : CallR X (.builtin "sum") (rSum X.K) := by
  intro pins s σ H vs us Q I r h
  obtain ⟨a, ns, rfl, hs, q⟩ := h
  obtain ⟨its, rv, hl, _⟩ := I.list hs
  obtain ⟨x1, hot⟩ := hc.at I
  rw [Vals.ref1 r]
  have hi := rv.ints
  have hl' := hl.isList
  obtain ⟨xs, e⟩ := hi.allInts.items
  have hn : numsOf (intItems xs).toList = ns := by rw [← e]; exact hi.numsOf
  rw [nums_intItems] at hn
  rw [e] at hl'
  refine sum_hot hot hl' fun h' tk t' hk => ?_
  refine ⟨.int _, H, I.kept hk, ⟨t', ?_⟩, q⟩
  rw [preSum_eq, List.take_of_length_le (by simp), hn]
/-- a list walked in such a context -/
theorem turn_listH {P : Program} {w : World} {K : PySem.W.Frag} {tg : Expr} (a it : Addr) : TurnH P w K tg (Itl K a) [it] it (fun i h => h.IsListIter it a i) where
  mem := (turn_list (P := P) (w := w) (K := K) (tg := tg) a it).mem
  obj := (turn_list (P := P) (w := w) (K := K) (tg := tg) a it).obj
  keep := (turn_list (P := P) (w := w) (K := K) (tg := tg) a it).keep
  item := by
    intro X hP hw hK _ i pins s σ H E I hf st hg
    subst hP hw hK
    obtain ⟨xs, x, hq, hx⟩ := hg
    obtain ⟨its, rv, p, hz⟩ := I.list hq
    obtain ⟨u, hu, ru⟩ := rv.get hx
    obtain ⟨f0, f1, f2, f3, f4, f5⟩ := hf it (by simp)
    refine wpAny_pyNext_list_item st p.isList (x := u) (by simpa using hu) fun h' st' sb => ?_
    have I1 : Inv X pins σ H { s with heap := h' } := I.turned (t' := s.toks) (fun b o hb e => (sb.2 b hb).trans e) f0 f1 f3 f4 f5
    obtain ⟨o, e, c, d⟩ := id st'
    exact ⟨u, rfl, go_of (s := { s with heap := h' }) e c d (by decide) ⟨x, H, I1, ru, ⟨rfl, fun ys hy => by rw [I.list_inj hy hq]; exact hx⟩, st', fun b hb => (hf b hb).1⟩⟩
  done := by
    intro X hP hw hK hc i pins s σ H E I hf st hg
    subst hP hw hK
    obtain ⟨xs, hq, hx⟩ := hg
    obtain ⟨its, rv, p, hz⟩ := I.list hq
    obtain ⟨f0, f1, f2, f3, f4, f5⟩ := hf it (by simp)
    have hl := rv.length
    obtain ⟨q, ⟨hh, v1, e1, c1⟩, hp⟩ := hc
    have hot : HotAt X.A q.1 s.heap := ⟨hh, q.2, v1, (I.pin q (List.mem_append_left _ hp)).1, e1, c1⟩
    exact list_end_hot hot (f5 q (List.mem_append_left _ hp)) st p.isList (by simp; omega) fun h' eb => ⟨rfl, I.turned (t' := s.toks) (fun b o hb e => eb b o hb e) f0 f1 f3 f4 f5⟩
  self := (turn_list (P := P) (w := w) (K := K) (tg := tg) a it).self
end
end M
/-! A comprehension over a list while an exception is handled. -/
namespace M
open PySem PySem.Spec PyProof.Rows L2 HotX L2H
/-- a block's context that bears the handled exception -/
abbrev blkH (X : Cx) (s : Shared) (H : Hp) (scope : Scope) (cenv : PySem.Env) (fp : List Addr) : Cx := { X.blk s H scope cenv fp with pn := X.pn }
section
variable {X : Cx} {pins : List (Addr × Obj)} {σ : L2.St} {H : Hp} {s : Shared}
theorem blkH_of {s0 : Shared} {H0 : Hp} {scope : Scope} {ce : PySem.Env} {fp : List Addr} (J : Inv (X.blk s0 H0 scope ce fp) pins σ H s) (h : ∀ p ∈ X.pn ++ pins, s.heap.get? p.1 = some p.2 ∧ H p.1 = none ∧ p.1 ≠ ce.locals ∧ p.1 ∉ frs X.stack ∧ ∀ v, p.2.data ≠ .cell v) : Inv (blkH X s0 H0 scope ce fp) pins σ H s :=
  ⟨⟨J.ok.mod, J.ok.kind, J.ok.glob, J.ok.blt, J.ok.above, J.ok.inj, J.ok.has, J.ok.cab, J.ok.hd, J.ok.frames, J.ok.stk, J.ok.exf, J.ok.bs, J.ok.bsz, J.ok.noex, J.ok.exfs, J.ok.funs, J.ok.frf⟩, J.os, J.bare, J.base, J.loc, J.cell, J.free, J.freeC, h, J.hok, J.len⟩
theorem pin_stack (I : Inv X pins σ H s) {p : Addr × Obj} (hp : p ∈ X.pn ++ pins) : p.1 ∉ frs X.stack := by
  obtain ⟨_, _, h3, h4, _⟩ := I.pin p hp
  rcases I.ok.stk with e | ⟨e, f⟩
  · rw [e]; exact h4
  · rw [e]
    unfold frs
    rw [List.filterMap_cons, f]
    intro z
    rcases List.mem_cons.mp z with z | z
    · exact h3 z
    · exact h4 z
theorem pe_lcH {elt tg iter : Expr} {scope : Scope} {own : List (Str × Nat)} {pos : Pos} {tl : TE} {g : TG} {te : TE} (hc : HotC X) (hN : X.N.Nodup) (hl : PE X iter tl) (ok : BlkOk X.N X.env.scope scope own)
    (hg : ∀ (s : Shared) (H : Hp) (C : Addr) (cl : List (Str × Addr)) (fp : List Addr), PG (blkH X s H scope (compEnvC scope cl C X.env) fp) tg g)
    (he : ∀ (s : Shared) (H : Hp) (C : Addr) (cl : List (Str × Addr)) (fp : List Addr), PE (blkH X s H scope (compEnvC scope cl C X.env) fp) elt te) (hs : ∀ x, foldedSetIterable iter X.env x = pure x) :
    PE X (.ListComp elt [⟨tg, iter, [], 0⟩] scope pos) (tLc (iList X.K tl) g tYes te (own.map (·.2))) := by
  refine ⟨fun pins s σ H Q I hw => ?_⟩
  have hfr : ∀ y ∈ scope.names, y.2 = .free → ∃ c, X.env.cells.lookup y.1 = some c := fun y hy e => (ok.free y hy e).elim (fun z => I.ok.has _ (.inl z)) fun z => I.ok.has _ (.inr z)
  rw [eval_ListComp]
  refine wpAny_comprehension_free (use := none) rfl hs (closure_ok hfr) ok.kind (fun y hy e => by rw [ok.uniq y hy, e]) (thn (hl.run pins s σ H _ I hw) fun v s1 ⟨x, H1, I1, r1, q1⟩ => ?_)
  obtain ⟨a, ex, ⟨xs, hq⟩, q⟩ := q1
  subst ex
  cases r1
  obtain ⟨its, rv, pl, hz⟩ := I1.list hq
  refine wpAny_pyIter_list pl.isList ?_
  -- the iterator, the new list, the block
  generalize hit : s1.heap.objs.size = it
  generalize hs2 : ({ s1 with heap := s1.heap.push { cls := .type "list_iterator", data := .fields #[.ref a, .int 0 0] } } : Shared) = s2
  have h2 : s2.heap = s1.heap.push { cls := .type "list_iterator", data := .fields #[.ref a, .int 0 0] } := by rw [← hs2]
  have I2 : Inv X pins σ H1 s2 := by rw [← hs2]; exact I1.kept (t' := s1.toks) fun b o e => Heap.get?_push_of_some _ e
  have st2 : s2.heap.IsListIter it a 0 := by rw [h2, ← hit]; exact ⟨_, Heap.get?_push_size _ rfl, rfl, rfl⟩
  have fI : FpOk X pins H1 it := by rw [← hit]; exact I1.fpOk (Nat.le_refl _) (I1.hok.fresh (Nat.le_refl _))
  have lI : it < s2.heap.objs.size := by obtain ⟨o, e, _⟩ := st2; exact Heap.lt_size e
  refine wpAny_newObj_type (newEnv_comp ?_) (by show 0 ≤ sizeLine; decide)
  generalize hD : s2.heap.objs.size = D
  have hDn : H1 D = none := I2.hok.fresh (Nat.le_of_eq hD)
  obtain ⟨Wv, ⟨m0, w0⟩, turn⟩ := q D hDn
  generalize hs3 : ({ s2 with heap := s2.heap.push { cls := .type "list", data := .seq ([] : List Value).toArray } } : Shared) = s3
  have h3 : s3.heap = s2.heap.push { cls := .type "list", data := .seq ([] : List Value).toArray } := by rw [← hs3]
  have I3 : Inv X pins σ (upd H1 D (.lst [])) s3 := by
    rw [← hs3]
    refine I2.laid (t' := s2.toks) (fun b o e => Heap.get?_push_of_some _ e) (Nat.le_of_eq hD) ⟨Nat.zero_le _, [], 0, .nil, ?_⟩
    rw [← hD]
    exact Heap.get?_push_size _ rfl
  have fI3 : FpOk X pins (upd H1 D (.lst [])) it := ⟨by rw [upd_ne (by rw [← hD]; exact Nat.ne_of_lt lI)]; exact fI.1, fI.2⟩
  have one : ∀ b ∈ [it], b = it := fun b hb => by simpa using hb
  have f3 : ∀ b ∈ [it], FpOk X pins (upd H1 D (.lst [])) b ∧ b < s3.heap.objs.size := fun b hb => by
    rw [one b hb]
    exact ⟨fI3, by rw [h3, Heap.size_push]; exact Nat.lt_succ_of_lt lI⟩
  have st3 : s3.heap.IsListIter it a 0 := st2.at fun o e => by rw [h3]; exact Heap.get?_push_of_some _ e
  have J0 := block_start I3 ok hN f3
  have kp : ∀ b o, s3.heap.get? b = some o → (pushCells (s3.heap.push { cls := .type "dict", data := .dict #[] }) scope.names).get? b = some o := fun b o e => pushCells_keeps _ _ _ _ (Heap.get?_push_of_some _ e)
  have I4 := blkH_of (X := X) J0 fun p hp => by
    rw [List.append_nil] at hp
    have hp' := List.mem_append_left pins hp
    obtain ⟨g1, g2, g3, g4, g5⟩ := I3.pin p hp'
    exact ⟨kp _ _ g1, g2, Nat.ne_of_lt (Heap.lt_size g1), pin_stack I3 hp', g5⟩
  clear J0
  have pg := hg s3 (upd H1 D (.lst [])) s3.heap.objs.size (cellsFrom (s3.heap.objs.size + 1) scope.names (cloFrom X.env.cells scope.names [])) [it]
  have pe := he s3 (upd H1 D (.lst [])) s3.heap.objs.size (cellsFrom (s3.heap.objs.size + 1) scope.names (cloFrom X.env.cells scope.names [])) [it]
  show codeAny _ _ (.compStart (.ListComp elt [⟨tg, iter, [], 0⟩] scope pos) 0 (.ref it) (.ref D) (compEnvC scope (cellsFrom (s3.heap.objs.size + 1) scope.names (cloFrom X.env.cells scope.names [])) s3.heap.objs.size X.env)) (compPost (model X.prog X.w) X.A X.xe none (EP X pins σ Q) (.ref D) s3.heap.objs.size) { s3 with heap := pushCells (s3.heap.push { cls := .type "dict", data := .dict #[] }) scope.names }
  generalize hce : compEnvC scope (cellsFrom (s3.heap.objs.size + 1) scope.names (cloFrom X.env.cells scope.names [])) s3.heap.objs.size X.env = ce at I4 pg pe ⊢
  have cL : ce.locals = s3.heap.objs.size := by subst hce; rfl
  have nI : (upd H1 D (.lst [])) it = none := fI3.1
  generalize hH3 : upd H1 D (.lst []) = H3 at I3 I4 pg pe w0 nI f3 fI3
  generalize hs4 : ({ s3 with heap := pushCells (s3.heap.push { cls := .type "dict", data := .dict #[] }) scope.names } : Shared) = s4 at I4 ⊢
  have st4 : s4.heap.IsListIter it a 0 := st3.at fun o e => by rw [← hs4]; exact kp it o e
  have hcB : HotC (blkH X s3 H3 scope ce [it]) := hc
  have T : TurnH X.prog X.w X.K tg (Itl X.K a) [it] it (fun i h => h.IsListIter it a i) := turn_listH a it
  have stat : ∀ {σ' : L2.St} {H' : Hp} {s' : Shared}, Inv (blkH X s3 H3 scope ce [it]) [] σ' H' s' → H' it = none → ∀ b ∈ [it], FpOk (blkH X s3 H3 scope ce [it]) [] H' b := fun {σ' H' s'} J hn b hb => by
    have e := one b hb
    subst e
    exact ⟨hn, (J.ok.exf _ hb).1, J.ok.exfs _ hb, .inl hb, fun x c z => (J.ok.exf _ hb).2 x c z, fun p hp => fI3.2.2.2.2.2 p (by
      have hp : p ∈ X.pn ++ [] := hp
      rw [List.append_nil] at hp
      exact List.mem_append_left _ hp)⟩
  have loop : codeAny (model X.prog X.w) X.A (.compLoop (.ListComp elt [⟨tg, iter, [], 0⟩] scope pos) 0 (.ref it) (.ref D) ce) (compPost (model X.prog X.w) X.A X.xe none (EP X pins σ Q) (.ref D) s3.heap.objs.size) s4 := by
    refine compLoop_any (fun n s' => ∃ i H', Inv (blkH X s3 H3 scope ce [it]) [] (wipe σ (own.map (·.2))) H' s' ∧ s'.heap.IsListIter it a i ∧ H' it = none ∧ Wv i n H') ?_ m0 ⟨0, H3, I4, st4, nI, w0⟩
    rintro n s5 ⟨i, H5, I5, st5, n5, w5⟩
    rcases turn i n H5 w5 with ⟨stop, qq⟩ | ⟨go, Nx, hNx, step⟩
    · refine thnF (T.done (blkH X s3 H3 scope ce [it]) rfl rfl rfl hcB i [] s5 _ H5 (fun _ _ => False) I5 (stat I5 n5) st5 stop) fun r s6 ⟨hr, I6⟩ => ?_
      subst hr
      have I7 : Inv X pins σ H5 s6 := I3.call' (ch := [it]) I6.os I6.base I6.hok I6.bare fun b hb => by
        rw [one b hb]
        exact ⟨fI3.2.2.2.1, fI3.2.1, fI3.2.2.2.2.1, fI3.2.2.2.2.2⟩
      have nC : H5 s3.heap.objs.size = none := by
        have z : H5 ce.locals = none := I6.free
        rw [cL] at z
        exact z
      obtain ⟨m, hn, _⟩ := I6.loc
      have hn : s6.heap.Ns ce.locals m := hn
      rw [cL] at hn
      refine ⟨m, hn, fun h'' sb => ?_⟩
      obtain ⟨g0, g1, g2, g3, g4, g5⟩ := I3.fpOk (Nat.le_refl _) nC
      exact ⟨.ref D, H5, I7.turned (t' := s6.toks) (fun b o hb e => (sb.2 b hb).trans e) g0 g1 g3 g4 g5, rfl, qq⟩
    · refine thnF (T.item (blkH X s3 H3 scope ce [it]) rfl rfl rfl hcB i [] s5 _ H5 (fun _ _ => False) I5 (stat I5 n5) st5 go) fun r s6 ⟨u, hr, h6⟩ => ?_
      subst hr
      refine thnF h6 fun _ s7 ⟨x, H7, I7, r7, y7, st7, n7⟩ => ?_
      have n7 := n7 it (by simp)
      have I7' := I7.pinned (stat I7 n7) (T.obj _ _ st7)
      refine thnF (pg.run _ s7 _ H7 x u _ I7' r7 (step x H7 y7)) fun _ s8 ⟨σ8, H8, I8, hw8, q8⟩ => ?_
      have q8 : te σ8 H8 fun y H4 => ∃ acc, H4 D = some (.lst acc) ∧ acc.length < sizeLine ∧ Nx (upd H4 D (.lst (acc ++ [y]))) := q8
      refine thnF ((pts_nil (X := blkH X s3 H3 scope ce [it])).run _ s8 σ8 H8 (fun b H9 => b = true ∧ te σ8 H9 fun y H4 => ∃ acc, H4 D = some (.lst acc) ∧ acc.length < sizeLine ∧ Nx (upd H4 D (.lst (acc ++ [y])))) I8 ⟨rfl, q8⟩) fun b s9 ⟨H9, I9, hb, q9⟩ => ?_
      subst hb
      simp only [if_true]
      refine thnF (pe.run _ s9 σ8 H9 _ I9 q9) fun z s10 ⟨yv, H10, I10, r10, acc, hD10, hz10, nx⟩ => ?_
      refine app_ok (X := blkH X s3 H3 scope ce [it]) I10 hD10 hz10 r10 fun s11 I11 => ?_
      obtain ⟨m', hm, w'⟩ := hNx _ nx
      have pin' : ∀ o, s7.heap.get? it = some o → s11.heap.get? it = some o ∧ (upd H10 D (.lst (acc ++ [yv]))) it = none := fun o e =>
        let z := I11.pin (it, o) (List.mem_append_right _ (List.mem_append_right _ (mem_pinsAt (by simp) e)))
        ⟨z.1, z.2.1⟩
      have hle : (wipe σ (own.map (·.2))).length = σ8.length := by rw [← hw8, wipe_length]
      obtain ⟨o7, e7, _⟩ := id st7
      refine ⟨m', hm, i + 1, _, (I11.unpinned (pins := [])).weak hle (fun j v e => ?_), st7.at fun o e => (pin' o e).1, (pin' o7 e7).2, w'⟩
      rw [← hw8] at e
      exact (wipe_some e).1
  exact codeAny_compStart_list loop (T.self X.A 0 _ _ _ st4 loop)
end
end M
/-! A lambda handed to a def that calls it; what it lets out is an exception whose context is None. -/
namespace M
open PySem PySem.Spec PyProof.Rows L2 LamX
/-- the context of the lambda's body -/
abbrev lamN (X : Cx) (A : Around) (outer : List PySem.Env) (s : Shared) (H : Hp) (E : XK) (scope : Scope) (f c' : Addr) : Cx :=
  { lamCx X A outer s H E scope f c' with xe := fun e s' => wpAny (model X.prog X.w) (A.deeper (lamEnv X scope s.heap.objs.size f c')) (leaving (lamEnv X scope s.heap.objs.size f c') e) (fun _ s'' => L2N.CX X.prog X.w outer H s E e s'') (fun e' s'' => L2N.CX X.prog X.w outer H s E e' s'') s' }
section
variable {X : Cx} {pins : List (Addr × Obj)} {σ : L2.St} {H HZ : Hp} {s s1 : Shared}
theorem wish_of {Y : Cx} {xe : Value → Shared → Prop} (J : Inv Y pins σ H s) : Inv { Y with xe := xe } pins σ H s :=
  ⟨⟨J.ok.mod, J.ok.kind, J.ok.glob, J.ok.blt, J.ok.above, J.ok.inj, J.ok.has, J.ok.cab, J.ok.hd, J.ok.frames, J.ok.stk, J.ok.exf, J.ok.bs, J.ok.bsz, J.ok.noex, J.ok.exfs, J.ok.funs, J.ok.frf⟩, J.os, J.bare, J.base, J.loc, J.cell, J.free, J.freeC, J.pin, J.hok, J.len⟩
/-- what was handed over, called -/
theorem pe_actN {CXg : CXT} {Eg : XK} {Ng : List Str} {qg : Str} {sg : Scope} {g f c' : Addr} {cdg pm ctv : Value} {params : Arguments} {body : Expr} {scope : Scope} {k i : Nat} {a : Str} {pn : List (Addr × Obj)} {xe : Value → Shared → Prop} {W : WX} {E : XK} {tb : TE} {p1 p2 : Pos}
    (I : Inv X pins σ H s) (L : LamS X.env.scope scope) (hf : s.heap.get? f = some (PySem.W.kla_obj "<lambda>" (X.env.qual ++ "<lambda>") params body scope (cloFrom X.env.cells scope.names []) pm c' ctv)) (hfn : H f = none) (hfr : f ∉ frs X.stack)
    (hbind : bindArgs (PySem.W.kla_fn "<lambda>" (X.env.qual ++ "<lambda>") params body scope (cloFrom X.env.cells scope.names []) pm (.ref c') ctv) ⟨[], []⟩ = pure [])
    (tk : L2N.Takes ((cxOf CXg X.prog X.w X.K X.mg X.base Ng qg sg g cdg X.A X.stack s H Eg).tr pn xe) W) (hW : ∀ (cls : Value) (d : Option Addr) (σ' : L2.St) (H' : Hp), σ'.length = Ng.length → E cls d H' → W cls d σ' H') (hr : Room (k + 1) (X.A.deeper (envOfC qg sg s.heap.objs.size g cdg)))
    (hbody : ∀ (A : Around) (outer : List PySem.Env) (s : Shared) (H : Hp), Room k (A.deeper (lamEnv X scope s.heap.objs.size f c')) → PE (lamN X A outer s H E scope f c') body tb)
    (hN : Ng[i]? = some a) (hv : Vis sg a) (hd : (a == ("__debug__" : Str)) = false) (hcd : (a == ("__classdict__" : Str)) = false) :
    PE ((cxOf CXg X.prog X.w X.K X.mg X.base Ng qg sg g cdg X.A X.stack s H Eg).tr pn xe) (.Call (.Name a p1) [] [] p2)
      (fun σZ HZ Q => σZ[i]? = some (some (.ref f)) ∧ HZ c' = some (CodeO c' (X.env.qual ++ "<lambda>")) ∧ tb σ HZ Q) := by
  refine ⟨fun pinsZ sZ σZ HZ Q IZ ⟨hs, hc, ht⟩ => ?_⟩
  refine wpAny_Call_Name_kw (thn ((pe_var (pos := p1) (i := i) hN hv hd hcd).run pinsZ sZ σZ HZ (fun v H1 => v = .ref f ∧ H1 = HZ) IZ ⟨.ref f, hs, rfl, rfl⟩) fun u s1 ⟨v, H1, I1, r1, ev, eH⟩ => ?_)
  subst ev
  rw [eH] at I1
  obtain rfl : u = Value.ref f := r1
  have of1 := I1.base.keep f _ hf hfn hfr (fun z => nomatch (show f ∈ ([] : List Addr) from z))
  refine PySem.W.callWith_F0 ⟨_, _, _, _, of1⟩ ?_
  have un : Un (frs X.stack) [] H HZ s.heap s1.heap := I1.base
  obtain ⟨⟨oc, vs, t, hoc, hdc, hvc⟩, _, _⟩ := I1.hok c' _ hc
  have rc : codeAny (model X.prog X.w) (X.A.deeper (envOfC qg sg s.heap.objs.size g cdg)) (.call (.ref f) ⟨[], []⟩) (CR (L2N.CX X.prog X.w) (envOfC qg sg s.heap.objs.size g cdg :: X.stack) X.prog X.w HZ s1 Q E) s1 := by
    refine PySem.W.kla_callFunE hr.depth of1 rfl L.co L.gen rfl ⟨c', oc, vs, t, rfl, hoc, hdc, hvc⟩ ?_
    rw [hbind]
    refine wpAny_pure (wpAny_newFunctionEnv (fun y hy => (L.own y hy).2) (fun y hy => absurd hy (by simp)) (fun h₁ hns hsb => ⟨I1.nolimit.fresh _ hsb, ?_⟩) L.kind)
    show codeAny _ _ (.expr body (lamEnv X scope s1.heap.objs.size f c')) _ _
    have kp : ∀ b o, s1.heap.get? b = some o → h₁.get? b = some o := fun b o e => hsb.extBut b o (Nat.ne_of_lt (Heap.lt_size e)) (Heap.get?_push_of_some _ e)
    have J := wish_of (xe := (lamN X (X.A.deeper (envOfC qg sg s.heap.objs.size g cdg)) (envOfC qg sg s.heap.objs.size g cdg :: X.stack) s1 HZ E scope f c').xe) (lam_start2 (E := E) (f := f) (c' := c') (tk := s1.toks + ([] : List (Str × Value)).length) I L I1.env0 hr.hd un hns kp)
    refine PySem.W.kla_codeExpr (wpAny_mono ((hbody _ _ s1 HZ (hr.deeper _)).run [] _ _ HZ Q J ht) (fun v s' hq => ?_) fun e s' hq => hq)
    obtain ⟨w', H', J', rv, q⟩ := hq
    exact ⟨w', H', J'.os, J'.bare, J'.base, J'.hok, rv, q⟩
  refine wpAny_call (codeAny_mono rc fun r s' hq => ?_)
  cases r with
  | error e => exact tk e s' (L2N.XE.of_call I1 (fun cls d H' z => hW cls d σZ H' I1.len z) hq)
  | ok fl =>
    cases fl with
    | ret u => exact I1.after hq
    | next => exact False.elim hq
    | brk => exact False.elim hq
    | cont => exact False.elim hq
end
/-- a lambda is made, and nothing that was tracked is lost -/
theorem lam_make3 {X : Cx} {pins : List (Addr × Obj)} {σ : L2.St} {H : Hp} {s : Shared} {T : List (Addr × Str)} {c P : Addr} {params : Arguments} {body : Expr} {scope : Scope} {pos : Pos} {E : Value → Shared → Prop} {Q : Value → Shared → Prop} (I : Inv X pins σ H s) (TB : TabB X.base X.mg c P) (hcode : X.env.code = .ref c)
    (hm : (P, X.env.qual ++ "<lambda>") ∈ T) (hu : ∀ p ∈ T, p.1 = P → p.2 = X.env.qual ++ "<lambda>") (hT : Tabs T H) (hdef : defaultsOf params X.env = ([], [])) (hfree : ∀ y ∈ scope.names, y.2 = .free → ∃ c, X.env.cells.lookup y.1 = some c)
    (h : ∀ (f c' : Addr) (pm ctv : Value) (H1 : Hp) (s' : Shared), Inv X pins σ H1 s' → ExtN H H1 → (∀ b, H b ≠ none → H1 b ≠ none) → Tabs T H1 →
      s'.heap.get? f = some (PySem.W.kla_obj "<lambda>" (X.env.qual ++ "<lambda>") params body scope (cloFrom X.env.cells scope.names []) pm c' ctv) → H1 f = none → f ∉ frs X.stack → H1 c' = some (CodeO c' (X.env.qual ++ "<lambda>")) → Q (.ref f) s') :
    wpAny (model X.prog X.w) X.A (eval (.Lambda params body scope pos) X.env) Q E s := by
  generalize hq : X.env.qual ++ "<lambda>" = q at hm hu h
  obtain ⟨ps, hP, ht, ha⟩ := hT _ hm
  have gP : s.heap.get? P = some { cls := .none, data := .fields ps } := I.hok P _ hP
  have far : ∀ f, s.heap.objs.size ≤ f → f ∉ frs X.stack := fun f hf z => (List.mem_cons.mp (I.stkSub _ z)).elim (fun e => absurd (e ▸ I.lt) (Nat.not_lt.mpr hf)) fun e => I.nofs hf e
  refine PySem.W.kla_eval hdef ?_
  rw [hq]
  cases hc : codeAmong pos ps.toList with
  | some cv =>
    obtain ⟨c', e, hco⟩ := ha pos cv hc
    subst e
    refine PySem.W.kla_makeFunctionHit (mg := X.mg) (c := c) (P := P) (ps := ps) (closure_ok hfree) I.ok.glob (I.mod.glob.keeps I.bk) hcode (TB.code.keeps I.bk) gP ht hc (TB.bm.keeps I.bk) fun ctv h' tk hx hsz => ?_
    exact h h'.objs.size c' ((X.mg "__name__").getD .none) ctv H _ (I.kept fun b o e => Heap.get?_push_of_some _ (hx b o e)) (ExtN.refl H) (fun _ z => z) hT (Heap.get?_push_size _ rfl) (I.hok.fresh hsz) (far _ hsz) hco
  | none =>
    refine PySem.W.kla_makeFunction (mg := X.mg) (c := c) (P := P) (ps := ps) (closure_ok hfree) I.ok.glob (I.mod.glob.keeps I.bk) hcode (TB.code.keeps I.bk) gP ht hc TB.gP (TB.bm.keeps I.bk) fun c' ctv h' tk hx hge hlt hrec htb => ?_
    obtain ⟨c2, oc, vs, t, e2, hoc, hd, hv⟩ := hrec
    cases e2
    have big : s.heap.objs.size ≤ h'.objs.size := Nat.le_trans hge (Nat.le_of_lt hlt)
    have nC : H c' = none := I.hok.fresh hge
    generalize hmo : (#[rawInt pos.line, rawInt pos.col, .ref c'] : Array Value) = more at htb
    have ml : (ps ++ more).toList = ps.toList ++ [rawInt pos.line, rawInt pos.col, .ref c'] := by rw [← hmo]; simp
    have I1 := inv_table (t' := tk) (more := more) (h' := h'.push (PySem.W.kla_obj "<lambda>" q params body scope (cloFrom X.env.cells scope.names []) ((X.mg "__name__").getD .none) c' ctv)) I hP (fun b o hb e => Heap.get?_push_of_some _ (hx b o hb e)) (Heap.get?_push_of_some _ htb) hge ⟨oc, vs, t, Heap.get?_push_of_some _ hoc, hd, hv⟩
    generalize hH1 : upd (upd H P (.tbl (ps ++ more))) c' (CodeO c' q) = H1 at I1
    have atC : H1 c' = some (CodeO c' q) := by rw [← hH1]; exact upd_same
    have atP : H1 P = some (.tbl (ps ++ more)) := by rw [← hH1, upd_ne (ne_of_none hP nC), upd_same]
    have els : ∀ b, b ≠ P → b ≠ c' → H1 b = H b := fun b h1 h2 => by rw [← hH1, upd_ne h2, upd_ne h1]
    have eN : ExtN H H1 := fun b o e no => by
      rw [els b (fun z => no ps (Option.some.inj (e.symm.trans (z ▸ hP)))) (ne_of_none e nC)]
      exact e
    refine h h'.objs.size c' ((X.mg "__name__").getD .none) ctv H1 _ I1 eN (fun b z => ?_) (fun p hp => ?_) (Heap.get?_push_size _ rfl) ?_ (far _ big) atC
    · by_cases h1 : b = P
      · rw [h1, atP]; simp
      · by_cases h2 : b = c'
        · rw [h2, atC]; simp
        · rw [els b h1 h2]; exact z
    · by_cases hb : p.1 = P
      · rw [hu p hp hb, hb]
        refine ⟨_, atP, by rw [ml]; exact PySem.TriplesOk_snoc _ _ _ _ ht, fun p' cv hcv => ?_⟩
        rw [ml] at hcv
        rcases among_app _ ht hcv with z | z
        · obtain ⟨c0, e1, e2⟩ := ha p' cv z
          exact ⟨c0, e1, eN _ _ e2 codeO_ne⟩
        · exact ⟨c', z, atC⟩
      · obtain ⟨ps', a1, a2, a3⟩ := hT p hp
        refine ⟨ps', by rw [els _ hb (ne_of_none a1 nC)]; exact a1, a2, fun p' cv hcv => ?_⟩
        obtain ⟨c0, e1, e2⟩ := a3 p' cv hcv
        exact ⟨c0, e1, eN _ _ e2 codeO_ne⟩
    · rw [els _ (Nat.ne_of_gt (Nat.lt_of_lt_of_le (Heap.lt_size gP) big)) (Nat.ne_of_gt hlt)]
      exact I.hok.fresh big
theorem sz_of {P : Program} {w : World} {H : Hp} {h : Heap} (k : HOk P w H h) : SzOk H := by
  intro p vs z
  rcases z with (z | ⟨o, z⟩) | (z | ⟨o, z⟩)
  · exact (k p _ z).1
  · exact (k p _ z).2.1
  · exact (k p _ z).1
  · exact (k p _ z).2.1
abbrev E0 : XK := fun _ _ _ => False
abbrev CX0 : CXT := fun _ _ _ _ _ _ => False
/-- what a def makes of the lambda that it got -/
def GivesN (X : Cx) (Ng : List Str) (x : Str) (sg : Scope) (g : Addr) (cdg : Value) (bg : List Stmt) (a : Str) (q : Str) (k : Nat) (TT : (XK → Hp → VK → Prop) → Hp → VK → Prop) : Prop :=
  ∀ (f c' : Addr) (s : Shared) (H : Hp) (Q : VK) (tl : XK → Hp → VK → Prop), Room k (X.A.deeper (envOfC x sg s.heap.objs.size g cdg)) →
    (∀ (W : WX) (pn : List (Addr × Obj)) (xe : Value → Shared → Prop) (E : XK) (p1 p2 : Pos), L2N.Takes ((cxOf CX0 X.prog X.w X.K X.mg X.base Ng x sg g cdg X.A X.stack s H E0).tr pn xe) W → (∀ (cls : Value) (d : Option Addr) (σ' : L2.St) (H' : Hp), σ'.length = Ng.length → E cls d H' → W cls d σ' H') →
      PE ((cxOf CX0 X.prog X.w X.K X.mg X.base Ng x sg g cdg X.A X.stack s H E0).tr pn xe) (.Call (.Name a p1) [] [] p2) (fun σZ HZ Q => σZ[0]? = some (some (.ref f)) ∧ HZ c' = some (CodeO c' q) ∧ tl E HZ Q)) →
    H c' = some (CodeO c' q) → TT tl H Q →
    ∃ t, PSs (cxOf CX0 X.prog X.w X.K X.mg X.base Ng x sg g cdg X.A X.stack s H E0).nox bg t ∧ t { nx := fun _ H' => Q .non H', rt := Q } (L2.start Ng [.ref f]) H
def tLam3 (T : List (Addr × Str)) (TT : (XK → Hp → VK → Prop) → Hp → VK → Prop) (t : XK → TE) : TE := fun σ H Q => Tabs T H ∧ ∀ H1, ExtN H H1 → (∀ b, H b ≠ none → H1 b ≠ none) → SzOk H1 → Tabs T H1 → TT (fun E H' Q' => t E σ H' Q') H1 Q
section
variable {X : Cx}
theorem pe_lamN {T : List (Addr × Str)} {TT : (XK → Hp → VK → Prop) → Hp → VK → Prop} {x a : Str} {g c P : Addr} {k : Nat} {pg : Arguments} {bg : List Stmt} {sg : Scope} {dV kV doc pm cdv ct oc : Value} {an od : Option Addr} {osl : Array (Option Value)} {Ng : List Str}
    {params : Arguments} {body : Expr} {scope : Scope} {t : XK → TE} {p lpos pos : Pos} (hg : Gl X x) (hm : X.mg x = some (.ref g)) (hk : PySem.W.keepIn X.K (.ref g) = true)
    (lk : X.K.lookup g = some ⟨oc, od, .func (PySem.W.fnOf x x pg bg sg dV kV doc pm an cdv ct), osl⟩) (hcg : PySem.W.codeIn X.K cdv x = true) (hb : L2.Binds X.K (PySem.W.fnOf x x pg bg sg dV kV doc pm an cdv ct) [a] []) (Sg : FnScope Ng [a] sg) (hNg : Ng[0]? = some a) (hva : Vis sg a)
    (hG : GivesN X Ng x sg g cdv bg a (X.env.qual ++ "<lambda>") (k + 1) TT)
    (TB : TabB X.base X.mg c P) (hcode : X.env.code = .ref c) (hmT : (P, X.env.qual ++ "<lambda>") ∈ T) (hu : ∀ p ∈ T, p.1 = P → p.2 = X.env.qual ++ "<lambda>") (hr : Room (k + 2) X.A) (L : LamS X.env.scope scope) (hdef : defaultsOf params X.env = ([], []))
    (hbind : ∀ (q : Str) (cl : List (Str × Addr)) (pm cv ctv : Value), bindArgs (PySem.W.kla_fn "<lambda>" q params body scope cl pm cv ctv) ⟨[], []⟩ = pure [])
    (hbody : ∀ (A : Around) (outer : List PySem.Env) (s : Shared) (H : Hp) (E : XK) (f c' : Addr), Room k (A.deeper (lamEnv X scope s.heap.objs.size f c')) → PE (lamN X A outer s H E scope f c') body (t E))
    (hdb : (x == ("__debug__" : Str)) = false) (hd : (a == ("__debug__" : Str)) = false) (hcd : (a == ("__classdict__" : Str)) = false) :
    PE X (.Call (.Name x p) [.Lambda params body scope lpos] [] pos) (tLam3 T TT t) := by
  refine ⟨fun pins s σ H Q I ⟨hT, h⟩ => ?_⟩
  refine wpAny_Call_Name_kw (ld_glob I hg hm ?_ hdb)
  refine PySem.W.callWith_K (h₀ := X.base) I.ok.mod.kin hk ?_ (by rfl) (by rfl)
  show wpAny _ _ (spliced ((false, eval (.Lambda params body scope lpos) X.env) :: backTo pos (starEach [] X.env))) _ _ s
  refine Calls.spliced_cons (lam_make3 I TB hcode hmT hu hT hdef (L.has I.ok) fun f c' pm' ctv H1 s' I1 eN lv T1 hf hfn hfr hco => ?_)
  refine Calls.spliced_nil ⟨I1.kIn, ?_⟩
  have rc : codeAny (model X.prog X.w) X.A (.call (.ref g) ⟨[.ref f], []⟩) (CR CX0 X.stack X.prog X.w H1 s' Q E0) s' := by
    refine run_ofS (N := Ng) (ps := [a]) (us := [.ref f]) (vs := [.ref f]) lk hcg Sg hr I1.env0 (hb s' [.ref f] I1.kIn rfl) (.cons rfl .nil) rfl fun hr' => ?_
    obtain ⟨t', ht', hq'⟩ := hG f c' s' H1 Q (fun E H' Q' => t E σ H' Q') hr' (fun W pn xe E p1 p2 tk hW => pe_actN (i := 0) I1 L hf hfn hfr (hbind _ _ _ _ _) tk hW hr' (fun A outer s H hr2 => hbody A outer s H E f c' hr2) hNg hva hd hcd) hco (h H1 eN lv (sz_of I1.hok) T1)
    exact ⟨t', ht'.nox, hq'⟩
  refine wpAny_call (codeAny_mono rc fun r s2 hq => ?_)
  cases r with
  | error e => exact (show False from hq).elim
  | ok fl =>
    cases fl with
    | ret u => exact I1.after hq
    | next => exact False.elim hq
    | brk => exact False.elim hq
    | cont => exact False.elim hq
end
end M
/-! The text against the small language: a test that is run, and what it tells (expressions). -/
namespace M
open PySem PySem.Spec PyProof.Rows L2

def fnName : Fn → Str
  | .is_number => "is_number" | .is_whole => "is_whole" | .is_row => "is_row" | .is_form => "is_form" | .need_form => "need_form" | .sources_of => "sources_of" | .need_count => "need_count" | .need_set => "need_set"
  | .form_of => "form_of" | .elementary_of => "elementary_of" | .elementary => "elementary" | .shared_form => "shared_form" | .shared => "shared" | .sum_of => "sum_of" | .ingleton => "ingleton"
  | .broken => "broken" | .is_measure => "is_measure" | .need_measure => "need_measure" | .first_broken => "first_broken" | .value => "value" | .checked => "checked" | .plus => "plus" | .times => "times"
  | .bits_of => "bits_of" | .renamed => "renamed" | .value_at => "value_at" | .kept => "kept" | .conditioned => "conditioned" | .added => "added" | .rank_of => "rank_of" | .are_bits => "are_bits" | .of_rows => "of_rows"
  | .divisor => "divisor" | .lowest => "lowest" | .first_rows => "first_rows" | .leaving => "leaving" | .turned => "turned" | .solve => "solve" | .first_below => "first_below"
  | .decided => "decided" | .shortened => "shortened" | .reason => "reason" | .breach => "breach" | .holds => "holds" | .is_fraction => "is_fraction" | .are_factors => "are_factors" | .adds_up => "adds_up"
  | .are_positive => "are_positive" | .is_reason => "is_reason" | .is_breach => "is_breach" | .need_both => "need_both" | .reason_with => "reason_with" | .breach_with => "breach_with" | .follows => "follows"
  | .is_reason_with => "is_reason_with" | .is_breach_with => "is_breach_with" | .closed => "closed" | .closure => "closure" | .closed_sets => "closed_sets" | .keys => "keys" | .rank_of_forms => "rank_of_forms"
  | .reduced => "reduced" | .is_extreme => "is_extreme" | .name_of => "name_of" | .written => "written" | .format_form => "format_form" | .part_of => "part_of" | .parse_form => "parse_form"
  | .l_cell => "_law_cell" | .l_drawn => "_law_drawn" | .l_roll => "_law_roll" | .l_rounds => "_law_rounds" | .l_term => "_law_term" | .l_told => "_law_told" | .l_bits => "_law_bits" | .l_join => "_law_join"
  | .l_make => "_law_make" | .l_elementary => "_law_elementary" | .l_value => "_law_value" | .l_shared => "_law_shared" | .l_rank => "_law_rank" | .l_any_rows => "_law_any_rows" | .l_of_rows => "_law_of_rows"
  | .l_any_measure => "_law_any_measure" | .l_any_form => "_law_any_form" | .l_bad_form => "_law_bad_form" | .l_renamed => "_law_renamed" | .l_adds_up => "_law_adds_up" | .l_good => "_law_good" | .l_good4 => "_law_good"
  | .l_assumptions => "_law_assumptions" | .l_rank_of => "_law_rank_of" | .l_lowest => "_law_lowest" | .l_left => "_law_left" | .l_summed => "_law_summed"
/-- the first argument is a list that may be changed -/
def byRef : Fn → Bool
  | .l_roll => true | .l_any_rows => true | .l_any_measure => true | .l_any_form => true | .l_bad_form => true | .l_assumptions => true
  | _ => false
/-- how many arguments -/
def arity : Fn → Nat
  | .ingleton => 0
  | .is_whole => 3 | .is_row => 3 | .need_set => 2 | .form_of => 2 | .shared_form => 4 | .shared => 4 | .sum_of => 2 | .value => 2 | .plus => 2 | .times => 2 | .renamed => 2 | .value_at => 2 | .kept => 2
  | .conditioned => 2 | .added => 2 | .divisor => 2 | .lowest => 2 | .first_rows => 2 | .leaving => 2 | .turned => 4 | .solve => 2 | .first_below => 2 | .decided => 2 | .are_factors => 2 | .adds_up => 3
  | .is_reason => 2 | .is_breach => 2 | .need_both => 2 | .reason_with => 2 | .breach_with => 2 | .follows => 2 | .is_reason_with => 3 | .is_breach_with => 3 | .closed => 2 | .closure => 2 | .reduced => 3
  | .l_cell => 2 | .l_drawn => 2 | .l_roll => 2 | .l_rounds => 2 | .l_join => 2 | .l_make => 2 | .l_value => 2 | .l_shared => 4 | .l_any_rows => 2 | .l_any_measure => 2 | .l_any_form => 2 | .l_bad_form => 2
  | .l_renamed => 2 | .l_adds_up => 3 | .l_good => 3 | .l_good4 => 4 | .l_assumptions => 3 | .l_lowest => 2 | .l_left => 3 | .l_summed => 2
  | _ => 1
def gcN : Gc → Str
  | .powers => "POWERS" | .most => "MOST"

structure CC where
  sc : Scope
  raw : Scope
  N : List Str
  fs : List Fn
  gs : List Gc
  cs : List Cls
  told : Bool
def CC.look (cc : CC) (x : Str) : Option NameKind := cc.sc.names.lookup x
def visK : Option NameKind → Bool
  | some .local => true | some .cell => true | some .free => true | _ => false
/-- a name that is read -/
def CC.nm (cc : CC) (i : Nat) (x : Str) : Bool := decide (cc.N[i]? = some x) && visK (cc.look x) && !(x == ("__debug__" : Str)) && !(x == ("__classdict__" : Str))
/-- a name that is written -/
def CC.lo (cc : CC) (i : Nat) (x : Str) : Bool := decide (cc.N[i]? = some x) && (decide (cc.look x = some .local) || (decide (cc.look x = some .cell) && decide (cc.raw.names.lookup x = some .cell)))
/-- a name of the module -/
def CC.gl (cc : CC) (x : Str) : Bool := decide (cc.look x = some .globalImplicit)
def relab (scope sc : Scope) : Scope := { scope with names := scope.names.map fun (n, k) => if (k == .free && sc.kind == .function && sc.names.lookup n == some .cell) then (n, .cell) else (n, k) }
def CC.blk (cc : CC) (scope : Scope) : CC := { cc with sc := relab scope cc.sc, raw := scope, told := false }
def CC.lam (cc : CC) (scope : Scope) : CC := { cc with sc := scope, raw := scope, told := false }
def bltNames : List Str := ["len", "sum", "max", "min", "abs", "list", "tuple", "int", "all", "any", "isinstance", "bool", "str", "range", "enumerate", "zip"]
/-- no parameter -/
def noArgs (a : Arguments) : Bool := match a with
  | ⟨[], [], none, [], [], none, []⟩ => true
  | _ => false
def CC.ownOf (cc : CC) (t : Tg) : List (Str × Nat) := t.slots.map fun i => ((cc.N[i]?).getD "", i)

def plainE : Expr → Bool
  | .Starred _ _ => false | .Slice _ _ _ _ => false | .Set _ _ _ => false
  | _ => true
/-- what follows the first of several in an and, an or -/
def restB (op : BoolOp) (y : Expr) (rest : List Expr) (pos : Pos) : Expr := match rest with
  | [] => y
  | _ => .BoolOp op (y :: rest) pos

def chkTg (cc : CC) (t : Tg) (e : Expr) : Bool := match t with
  | .name i => match e with | .Name x _ => cc.lo i x | _ => false
  | .pair a b => match e with | .Tuple [x, y] _ _ => chkTg cc a x && chkTg cc b y | _ => false
  | .trip a b c => match e with | .Tuple [x, y, z] _ _ => chkTg cc a x && chkTg cc b y && chkTg cc c z | _ => false
  | .quad a b c d => match e with | .Tuple [x, y, z, w] _ _ => chkTg cc a x && chkTg cc b y && chkTg cc c z && chkTg cc d w | _ => false
def isTup : Expr → Bool
  | .Tuple _ _ _ => true
  | _ => false


def chkCall1 (cc : CC) (z : Str) (k : List Expr → Bool) (e : Expr) : Bool := match e with
  | .Call (.Name x _) (y :: ys) [] _ => decide (x = z) && cc.gl x && k (y :: ys)
  | _ => false
mutual
def chkE (cc : CC) (m : E) (e : Expr) : Bool := match m with
  | .var i => match e with | .Name x _ => cc.nm i x | _ => false
  | .int n => match e with | .Constant (.int k) _ _ => decide (n = k) | _ => false
  | .bl b => match e with | .Constant (.bool k) _ _ => decide (b = k) | _ => false
  | .non => match e with | .Constant .none _ _ => true | _ => false
  | .str s => match e with | .Constant (.str t) _ _ => decide (s = t) | _ => false
  | .glob g => match e with | .Name x _ => decide (x = gcN g) && cc.gl x && decide (g ∈ cc.gs) | _ => false
  | .bin o a b => match e with | .BinOp x p y _ => decide (p = pyB o) && chkE cc a x && chkE cc b y | _ => false
  | .neg a => match e with | .UnaryOp .USub x _ => chkE cc a x | _ => false
  | .cmp o a b => match e with | .Compare x [p] [y] _ => decide (p = pyC o) && plainE y && chkE cc a x && chkE cc b y | _ => false
  | .isN a => match e with | .Compare x [.Is] [.Constant .none _ _] _ => chkE cc a x | _ => false
  | .notN a => match e with | .Compare x [.IsNot] [.Constant .none _ _] _ => chkE cc a x | _ => false
  | .chain o p a b c => match e with | .Compare x [q, r] [y, z] _ => decide (q = pyC o) && decide (r = pyC p) && plainE z && chkE cc a x && chkE cc b y && chkE cc c z | _ => false
  | .and_ a b => match e with | .BoolOp .And (x :: y :: rest) pos => chkE cc a x && chkE cc b (restB .And y rest pos) | _ => false
  | .or_ a b => match e with | .BoolOp .Or (x :: y :: rest) pos => chkE cc a x && chkE cc b (restB .Or y rest pos) | _ => false
  | .not_ a => match e with | .UnaryOp .Not x _ => chkE cc a x | _ => false
  | .ife t a b => match e with | .IfExp z x y _ => chkE cc t z && chkE cc a x && chkE cc b y | _ => false
  | .tup es => match e with | .Tuple xs _ _ => chkEs cc es xs | _ => false
  | .lst es => match e with | .List xs _ => chkEs cc es xs | _ => false
  | .idx a i => match e with | .Subscript x y _ => plainE y && chkE cc a x && chkE cc i y | _ => false
  | .sliceF a i => match e with | .Subscript x (.Slice (some y) none none _) _ => chkE cc a x && chkE cc i y | _ => false
  | .sliceT a i => match e with | .Subscript x (.Slice none (some y) none _) _ => chkE cc a x && chkE cc i y | _ => false
  | .rev a => match e with | .Subscript x (.Slice none none (some (.UnaryOp .USub (.Constant (.int k) _ _) _)) _) _ => decide (k = 1) && chkE cc a x | _ => false
  | .call f rs es => match rs with
    | [] => match e with | .Call (.Name x _) xs [] _ => decide (x = fnName f) && cc.gl x && decide (f ∈ cc.fs) && !byRef f && decide (xs.length = arity f) && chkEs cc es xs | _ => false
    | [i] => match e with | .Call (.Name x _) (.Name y _ :: xs) [] _ => decide (x = fnName f) && cc.gl x && decide (f ∈ cc.fs) && byRef f && decide (xs.length + 1 = arity f) && cc.nm i y && chkEs cc es xs | _ => false
    | _ => false
  | .bi b es => match b with
    | .isT t => match es with
      | .cons a .nil => match e with | .Call (.Name x _) [y, .Name z _] [] _ => decide (x = "isinstance") && cc.gl "isinstance" && decide (z = (tyN t : Str)) && cc.gl z && plainE y && chkE cc a y | _ => false
      | _ => false
    | .str => false
    | b => chkCall1 cc (biN b) (fun l => chkEs cc es l) e
  | .lrange a b => match e with | .Call (.Name l _) [.Call (.Name r _) [x, y] [] _] [] _ => decide (l = "list") && decide (r = "range") && cc.gl "list" && cc.gl "range" && plainE x && plainE y && chkE cc a x && chkE cc b y | _ => false
  | .comp m t it c => match e with
    | .ListComp elt [⟨tg, iter, ifs, k⟩] scope _ => decide (k = 0) && plainE iter && blkC cc.N cc.sc scope (cc.ownOf t) && chkIt cc it tg iter && chkTg (cc.blk scope) t tg && chkEo (cc.blk scope) c ifs && chkE (cc.blk scope) m elt
    | _ => false
  | .told m => match e with
    | .Call (.Name t _) [.Lambda params body scope _] [] _ => cc.told && decide (t = "_law_told") && cc.gl t && LamX.lamSB cc.sc scope && noArgs params && chkE (cc.lam scope) m body
    | _ => false
  | .srcs a => match e with
    | .Subscript (.Dict [some (.Constant (.int k1) _ _), some (.Constant (.int k2) _ _), some (.Constant (.int k3) _ _), some (.Constant (.int k4) _ _)] [.Constant (.int v1) _ _, .Constant (.int v2) _ _, .Constant (.int v3) _ _, .Constant (.int v4) _ _] _) y _ =>
      decide (k1 = 1) && decide (k2 = 3) && decide (k3 = 7) && decide (k4 = 15) && decide (v1 = 1) && decide (v2 = 2) && decide (v3 = 3) && decide (v4 = 4) && plainE y && chkE cc a y
    | _ => false
def chkEs (cc : CC) (ms : Es) (l : List Expr) : Bool := match ms with
  | .nil => match l with | [] => true | _ => false
  | .cons e es => match l with | x :: xs => plainE x && chkE cc e x && chkEs cc es xs | _ => false
def chkEo (cc : CC) (m : Eo) (l : List Expr) : Bool := match m with
  | .non => match l with | [] => true | _ => false
  | .som e => match l with | [x] => chkE cc e x | _ => false
def chkIt (cc : CC) (m : It) (tg e : Expr) : Bool := match m with
  | .of a => chkE cc a e
  | .range1 a => match e with | .Call (.Name r _) [x] [] _ => decide (r = "range") && cc.gl "range" && plainE x && chkE cc a x | _ => false
  | .range2 a b => match e with | .Call (.Name r _) [x, y] [] _ => decide (r = "range") && cc.gl "range" && plainE x && plainE y && chkE cc a x && chkE cc b y | _ => false
  | .enum a => match e with | .Call (.Name r _) [x] [] _ => isTup tg && decide (r = "enumerate") && cc.gl "enumerate" && plainE x && chkE cc a x | _ => false
  | .zip a b => match e with | .Call (.Name r _) [x, y] [] _ => isTup tg && decide (r = "zip") && cc.gl "zip" && plainE x && plainE y && chkE cc a x && chkE cc b y | _ => false
end
end M
/-! What a caught exception is: the law's own sorting of them, run while it is handled. -/
namespace M
open PySem PySem.Spec PyProof.Rows L2 HotX L2H
/-- a def called while p's exception is handled, its promise told of the very state -/
theorem run_ofH {CX : CXT} {P : Program} {w : World} {K : PySem.W.Frag} {mg : Str → Option Value} {base : Heap} {k : Nat} {f : Addr} {name qual : Str} {params : Arguments} {body : List Stmt} {scope : Scope} {dV kV doc pm cdv ct oc : Value} {an od : Option Addr}
    {osl : Array (Option Value)} {N ps : List Str} (lk : K.lookup f = some ⟨oc, od, .func (PySem.W.fnOf name qual params body scope dV kV doc pm an cdv ct), osl⟩) (hcd : PySem.W.codeIn K cdv qual = true) (S : FnScope N ps scope)
    {A : Around} {outer : List PySem.Env} {s : Shared} {H : Hp} {args : Args} {us : List Value} {vs : List V} {Q : VK} {E : XK} {p : Addr × Obj} (hr : RoomH (k + 1) A) (hpin : PinOk outer H s p) (e0 : Env0 P w K mg base A outer s H) (hb : BindsTo s (PySem.W.fnOf name qual params body scope dV kV doc pm an cdv ct) args (ps.zip us)) (r : Vals vs us) (hl : vs.length = ps.length)
    (hbody : RoomH k (A.deeper (envOfC qual scope s.heap.objs.size f cdv)) → ∃ t, PSs (cxH CX P w K mg base N qual scope f cdv A outer s H E p) body t ∧ t { nx := fun _ H' => Q .non H', rt := Q } (L2.start N vs) H) :
    codeAny (model P w) A (.call (.ref f) args) (CR CX outer P w H s Q E) s := by
  have KX : K.In s.heap := e0.mod.kin.keeps fun b o e => (e0.bs b o e).1
  have lim : s.heap.NoLimit := e0.mod.nolimit.keeps fun b o e => (e0.bs b o e).1
  have hkind : ∀ y ∈ ps.zip us, scope.names.lookup y.1 = some .local ∨ (scope.names.lookup y.1 = some .cell ∧ ((cellsFrom (s.heap.objs.size + 1) scope.names []).lookup y.1).isSome = true) := fun ⟨m, v⟩ hy =>
    (S.par m (List.of_mem_zip hy).1).elim .inl fun z => .inr ⟨z, PySem.W.cellsFrom_some _ _ _ (.inl z)⟩
  refine codeAny_call_function hr.depth (KX _ _ lk) rfl S.co S.gen rfl (PySem.W.codeRec_of KX hcd) (hb _ _ _ _ ?_)
  refine wpAny_newFunctionEnv_cells S.kind hkind fun env he s1 x => ?_
  subst he
  refine ⟨lim.keeps x.toInCall.keep, codeAny_func ?_⟩
  obtain ⟨t, ht, hq⟩ := hbody (hr.deeper _)
  have I : Inv (cxH CX P w K mg base N qual scope f cdv A outer s H E p) [] (L2.start N vs) H s1 := inv_startH S hpin e0 hl r x
  refine wpAny_mono (ht.run [] s1 (L2.start N vs) H _ I hq) (fun fl s' hs => ?_) fun e s' hs => hs
  cases fl with
  | ret u =>
    obtain ⟨v, σ', H', J, rv, q⟩ := hs
    exact ⟨v, H', J.os, J.bare, J.base, J.hok, rv, q⟩
  | next =>
    obtain ⟨σ', H', J, q⟩ := hs
    exact ⟨V.non, H', J.os, J.bare, J.base, J.hok, rfl, q⟩
  | brk =>
    obtain ⟨_, _, _, q⟩ := hs
    exact False.elim q
  | cont =>
    obtain ⟨_, _, _, q⟩ := hs
    exact False.elim q
/-! ### isinstance of the handled exception -/
def allCls : List Cls := [.count, .form, .assumptions, .measure, .set, .values, .factor, .rows, .number, .text, .unlike, .tooLarge, .nothing]
/-- what the written part tells of the own classes -/
structure ExcK (n : Cn) (K : PySem.W.Frag) (mg : Str → Option Value) : Prop where
  own : ∀ c, ExcC K (n.C c)
  mgC : ∀ c, mg (clsName c) = some (.ref (n.C c))
  kit : ∀ c c', PySem.W.kitOne K (.ref (n.C c)) (.ref (n.C c')) = some (decide (c = c'))
  ve : ∀ c, PySem.W.kitOne K (.ref (n.C c)) (.type "ValueError") = some true
  nve : mg "ValueError" = none
section
variable {n : Cn} {Y : Cx} {a : Addr} {oe : Obj} {c : Cls}
/-- the exception at a is borne by the context, its class is c's -/
structure Bears (n : Cn) (Y : Cx) (a : Addr) (oe : Obj) (c : Cls) : Prop where
  pn : (a, oe) ∈ Y.pn
  cls : oe.cls = .ref (n.C c)
  dict : oe.dict = none
  data : ∃ vs : Array Value, oe.data = .fields vs ∧ vs[2]? = some .none
  hot : Y.A.handled = some (.ref a)
  exc : ExcK n Y.K Y.mg
theorem Bears.hotC (b : Bears n Y a oe c) : HotC Y := ⟨(a, oe), ⟨b.hot, b.data⟩, b.pn⟩
def rIsH (K : PySem.W.Frag) (D a : Addr) : List V → Hp → VK → Prop := fun xs H Q => ∃ (v : V) (cv : Value) (b : Bool), xs = [.ref a, v] ∧ (∀ u, RelV v u → u = cv) ∧ PySem.W.kitOne K (.ref D) cv = some b ∧ Q (.bl b) H
theorem call_isH (B : Bears n Y a oe c) : CallR Y (.builtin "isinstance") (rIsH Y.K (n.C c) a) := by
  intro pins s σ H xs us Q I r h
  obtain ⟨v, cv, b, rfl, hcv, e, q⟩ := h
  cases r with
  | cons rx rr =>
    cases rr with
    | cons rt rr =>
      cases rr
      cases rx
      have ec := hcv _ rt
      subst ec
      obtain ⟨hget, _⟩ := I.pin (a, oe) (List.mem_append_left _ B.pn)
      obtain ⟨vs, hv, _⟩ := B.data
      have J : PySem.W.InstAt s.heap a oe (n.C c) none := by
        have h1 := B.cls
        have h2 := B.dict
        obtain ⟨oc, od, oda, osl⟩ := oe
        dsimp only at h1 h2 hv
        subst h1 h2 hv
        exact ⟨hget, rfl, rfl, trivial⟩
      have C := B.exc.own c
      exact PySem.W.kia_one (PySem.W.handS_kitx_exc C.hg C.hk C.hs C.hd C.ha C.hn C.ht C.hm) I.kIn J e (fun z => nomatch z) fun tk => ⟨.bl b, H, I.kept (t' := tk) fun _ _ z => z, rfl, q⟩
/-- .. as an expression; its name is in slot 0 -/
def tIs (a : Addr) (b : Bool) : TE := fun σ H Q => σ[0]? = some (some (.ref a)) ∧ Q (.bl b) H
theorem pe_isOwn (B : Bears n Y a oe c) {x : Str} {p q r pos : Pos} {c' : Cls} (hg : Gl Y "isinstance") (hm : Y.mg "isinstance" = none) (hN : Y.N[0]? = some x) (hv : Vis Y.env.scope x) (hd : (x == ("__debug__" : Str)) = false) (hcd : (x == ("__classdict__" : Str)) = false) (hg2 : Gl Y (clsName c')) :
    PE Y (.Call (.Name "isinstance" p) [.Name x q, .Name (clsName c') r] [] pos) (tIs a (decide (c = c'))) := by
  have dbg : (clsName c' == ("__debug__" : Str)) = false := by cases c' <;> decide +kernel
  refine (pe_callB (call_isH B) hg hm (by decide +kernel) (pa_cons (pe_var hN hv hd hcd) (pa_cons (pe_glob (v := .ref (n.C c')) hg2 (B.exc.mgC c') rfl dbg) pa_nil rfl) rfl) (by decide +kernel) (by decide +kernel) rfl rfl).imp fun σ H Q ⟨h1, h2⟩ => ?_
  exact ⟨.ref a, h1, _, _, _, rfl, fun u z => z, B.exc.kit c c', h2⟩
theorem pe_isVE (B : Bears n Y a oe c) {x : Str} {p q r pos : Pos} (hg : Gl Y "isinstance") (hm : Y.mg "isinstance" = none) (hN : Y.N[0]? = some x) (hv : Vis Y.env.scope x) (hd : (x == ("__debug__" : Str)) = false) (hcd : (x == ("__classdict__" : Str)) = false) (hg2 : Gl Y "ValueError") :
    PE Y (.Call (.Name "isinstance" p) [.Name x q, .Name "ValueError" r] [] pos) (tIs a true) := by
  refine (pe_callB (call_isH B) hg hm (by decide +kernel) (pa_cons (pe_var hN hv hd hcd) (pa_cons (pe_bltn (v := .ty "ValueError") hg2 B.exc.nve (by decide +kernel) rfl (by decide +kernel) (by decide +kernel)) pa_nil rfl) rfl) (by decide +kernel) (by decide +kernel) rfl rfl).imp fun σ H Q ⟨h1, h2⟩ => ?_
  exact ⟨.ref a, h1, _, _, _, rfl, fun u z => z, B.exc.ve c, h2⟩
end
end M
/-! The law's own sorting of exceptions: its text, looked at, and its walk. -/
namespace M
open PySem PySem.Spec PyProof.Rows L2 HotX L2H
def isOne (cc : CC) (x : Str) (c : Cls) (e : Expr) : Bool := match e with
  | .Call (.Name f _) [.Name y _, .Name z _] [] _ => decide (f = "isinstance") && decide (y = x) && decide (z = clsName c) && cc.gl f && cc.gl z
  | _ => false
def isAll (cc : CC) (x : Str) : List Cls → List Expr → Bool
  | [], [] => true
  | c :: cs, e :: es => isOne cc x c e && isAll cc x cs es
  | _, _ => false
def strOne (s : Str) (e : Expr) : Bool := match e with
  | .Constant (.str t) _ _ => decide (s = t)
  | _ => false
def strAll : List Str → List Expr → Bool
  | [], [] => true
  | s :: ss, e :: es => strOne s e && strAll ss es
  | _, _ => false
def stNew (cc : CC) (i : Nat) (k : List Expr → Bool) (s : Stmt) : Bool := match s with
  | .Assign [.Name x _] (.List l _) _ => cc.lo i x && k l
  | _ => false
def stAdd (cc : CC) (i : Nat) (k : List Expr → Bool) (s : Stmt) : Bool := match s with
  | .Assign [.Name x _] (.BinOp (.Name y _) .Add (.List l _) _) _ => cc.lo i x && cc.nm i y && k l
  | _ => false
section
variable {n : Cn} {G : Gam} {cc : CC} {Y : Cx} {a : Addr} {oe : Obj} {c : Cls}
/-- the context's own part that the looks need -/
structure HotOk (cc : CC) (Y : Cx) (x : Str) : Prop where
  N : Y.N = cc.N
  nd : cc.N.Nodup
  scope : Y.env.scope = cc.sc
  fn : ∀ x, cc.raw.names.lookup x = some .cell → Y.fn x = true
  blt : ∀ x ∈ bltNames, Y.mg x = none
  n0 : cc.nm 0 x = true
theorem HotOk.gl {x0 : Str} (ok : HotOk cc Y x0) {x : Str} (h : cc.gl x = true) : Gl Y x := by
  show Y.env.scope.names.lookup x = some .globalImplicit
  rw [ok.scope]
  exact of_decide_eq_true h
theorem HotOk.nm {x0 : Str} (ok : HotOk cc Y x0) {i : Nat} {x : Str} (h : cc.nm i x = true) : Y.N[i]? = some x ∧ Vis Y.env.scope x ∧ (x == ("__debug__" : Str)) = false ∧ (x == ("__classdict__" : Str)) = false := by
  unfold CC.nm at h
  simp only [Bool.and_eq_true, decide_eq_true_eq, Bool.not_eq_true'] at h
  obtain ⟨⟨⟨h1, h2⟩, h3⟩, h4⟩ := h
  refine ⟨by rw [ok.N]; exact h1, ?_, h3, h4⟩
  rw [ok.scope]
  unfold visK at h2
  split at h2
  · rename_i e; exact .inl e
  · rename_i e; exact .inr (.inl e)
  · rename_i e; exact .inr (.inr e)
  · cases h2
theorem HotOk.lo {x0 : Str} (ok : HotOk cc Y x0) {i : Nat} {x : Str} (h : cc.lo i x = true) : Y.N[i]? = some x ∧ Loc Y.env.scope x ∧ (Y.fn x = true ∨ Y.env.scope.names.lookup x = some .local) := by
  unfold CC.lo at h
  simp only [Bool.and_eq_true, decide_eq_true_eq, Bool.or_eq_true] at h
  obtain ⟨h1, h2⟩ := h
  refine ⟨by rw [ok.N]; exact h1, ?_⟩
  rw [ok.scope]
  rcases h2 with h2 | ⟨h2, h3⟩
  · exact ⟨.inl h2, .inr h2⟩
  · exact ⟨.inr h2, .inl (ok.fn x h3)⟩
theorem HotOk.ndX {x0 : Str} (ok : HotOk cc Y x0) : Y.N.Nodup := by rw [ok.N]; exact ok.nd
def tKn (a : Addr) (L : List V) : TA := fun σ H Q => σ[0]? = some (some (.ref a)) ∧ Q L H
theorem pa_is {x : Str} (ok : HotOk cc Y x) (B : Bears n Y a oe c) : ∀ {cs : List Cls} {es : List Expr}, isAll cc x cs es = true → PA Y es (tKn a (cs.map fun c' => V.bl (decide (c = c')))) := by
  intro cs
  induction cs with
  | nil =>
    intro es h
    cases es with
    | nil => exact (pa_nil (X := Y)).imp fun σ H Q ⟨_, q⟩ => q
    | cons e es => cases h
  | cons c' cs ih =>
    intro es h
    cases es with
    | nil => cases h
    | cons e es =>
      unfold isAll at h
      simp only [Bool.and_eq_true] at h
      obtain ⟨h1, h2⟩ := h
      unfold isOne at h1
      split at h1
      · simp only [Bool.and_eq_true, decide_eq_true_eq] at h1
        obtain ⟨⟨⟨⟨rfl, rfl⟩, rfl⟩, h4⟩, h5⟩ := h1
        obtain ⟨n1, n2, n3, n4⟩ := ok.nm ok.n0
        exact (pa_cons (pe_isOwn B (ok.gl h4) (ok.blt _ (by decide +kernel)) n1 n2 n3 n4 (ok.gl h5)) (ih h2) rfl).imp fun σ H Q ⟨h0, q⟩ => ⟨h0, h0, q⟩
      · cases h1
theorem pa_strs : ∀ {ss : List Str} {es : List Expr}, strAll ss es = true → PA Y es (fun σ H Q => Q (ss.map V.str) H) := by
  intro ss
  induction ss with
  | nil =>
    intro es h
    cases es with
    | nil => exact (pa_nil (X := Y)).imp fun σ H Q q => q
    | cons e es => cases h
  | cons s ss ih =>
    intro es h
    cases es with
    | nil => cases h
    | cons e es =>
      unfold strAll at h
      simp only [Bool.and_eq_true] at h
      obtain ⟨h1, h2⟩ := h
      unfold strOne at h1
      split at h1
      · cases of_decide_eq_true h1
        exact (pa_cons pe_str (ih h2) rfl).imp fun σ H Q q => q
      · cases h1
/-- name = [..] -/
def tNew (a : Addr) (i : Nat) (L : List V) : TS := fun D σ H => σ[0]? = some (some (.ref a)) ∧ L.length ≤ 1000 ∧ ∀ p, H p = none → D.nx (σ.set i (some (.ref p))) (upd H p (.lst L))
/-- name = name + [..] -/
def tAdd (a : Addr) (i : Nat) (L : List V) : TS := fun D σ H => σ[0]? = some (some (.ref a)) ∧ ∃ q M, σ[i]? = some (some (.ref q)) ∧ H q = some (.lst M) ∧ M.length + L.length ≤ 1000 ∧ ∀ p1 p2, H p1 = none → (upd H p1 (.lst L)) p2 = none → D.nx (σ.set i (some (.ref p2))) (upd (upd H p1 (.lst L)) p2 (.lst (M ++ L)))
theorem le_line {k : Nat} (h : k ≤ 1000) : k ≤ sizeLine := Nat.le_trans h (by decide)
theorem ps_new {x0 : Str} {i : Nat} {L : List V} {k : List Expr → Bool} {s : Stmt} (ok : HotOk cc Y x0) (hp : ∀ es, k es = true → PA Y es (tKn a L)) (h : stNew cc i k s = true) : PS Y s (tNew a i L) := by
  unfold stNew at h
  split at h
  · simp only [Bool.and_eq_true] at h
    obtain ⟨g1, g2, g3⟩ := ok.lo h.1
    exact (ps_set ok.ndX g1 g2 (pe_lst (hp _ h.2)) rfl g3).imp fun D σ H ⟨h0, hl, q⟩ => ⟨h0, le_line hl, q⟩
  · cases h
theorem ps_add {x0 : Str} {i : Nat} {L : List V} {k : List Expr → Bool} {s : Stmt} (ok : HotOk cc Y x0) (hp : ∀ es, k es = true → PA Y es (tKn a L)) (h : stAdd cc i k s = true) : PS Y s (tAdd a i L) := by
  unfold stAdd at h
  split at h
  · simp only [Bool.and_eq_true] at h
    obtain ⟨g1, g2, g3⟩ := ok.lo h.1.1
    obtain ⟨n1, n2, n3, n4⟩ := ok.nm h.1.2
    refine (ps_set ok.ndX g1 g2 (pe_op op_cat (pe_var n1 n2 n3 n4) (pe_lst (hp _ h.2))) rfl g3).imp fun D σ H ⟨h0, q, M, s1, hq, hl, hQ⟩ => ?_
    refine ⟨.ref q, s1, h0, le_line (by omega), fun p1 hp1 => ?_⟩
    exact ⟨q, p1, M, L, rfl, rfl, by rw [upd_ne (ne_of_none hq hp1)]; exact hq, upd_same, le_line hl, fun p2 hp2 => hQ p1 p2 hp1 hp2⟩
  · cases h
end
end M
/-! The sorting's last two statements, and all of it. -/
namespace M
open PySem PySem.Spec PyProof.Rows L2 HotX L2H
def isVE (cc : CC) (x : Str) (e : Expr) : Bool := match e with
  | .Call (.Name f _) [.Name y _, .Name z _] [] _ => decide (f = "isinstance") && decide (y = x) && decide (z = "ValueError") && cc.gl f && cc.gl z
  | _ => false
/-- sum([int(flag) for flag in flags]) -/
def isSum (cc : CC) (e : Expr) : Bool := match e with
  | .Call (.Name f1 _) [.ListComp (.Call (.Name f2 _) [.Name g _] [] _) [⟨.Name g' _, .Name f3 _, [], z⟩] scope _] [] _ => decide (f1 = "sum") && cc.gl f1 && decide (f2 = "int") && (cc.blk scope).gl f2 && (cc.blk scope).nm 3 g && (cc.blk scope).lo 3 g' && decide (z = 0) && cc.nm 1 f3 && blkC cc.N cc.sc scope (cc.ownOf (.name 3))
  | _ => false
def stTest (cc : CC) (x : Str) (s : Stmt) : Bool := match s with
  | .If (.BoolOp .Or [.Compare e1 [.NotEq] [.Constant (.int k) _ _] _, .UnaryOp .Not e2 _] _) [.Return (some (.Tuple l _ _)) _] [] _ => isSum cc e1 && decide (k = 1) && isVE cc x e2 && strAll ["error", "other"] l
  | _ => false
def stEnd (cc : CC) (s : Stmt) : Bool := match s with
  | .Return (some (.Tuple [.Constant (.str er) _ _, .Subscript (.Name k _) (.Call (.Attribute (.Name f _) ix pa) [.Constant (.bool tr) _ _] [] pc) _] _ _)) _ => decide (er = "error") && cc.nm 2 k && cc.nm 1 f && decide (ix = "index") && decide (tr = true) && (pa.endLine == pc.line)
  | _ => false
def bI (b : Bool) : Int := if b then 1 else 0
theorem upd_upd {H : Hp} {p : Addr} {o o' : HO} : upd (upd H p o) p o' = upd H p o' := by
  funext b
  unfold upd
  split <;> rfl
section
variable {n : Cn} {cc : CC} {Y : Cx} {a : Addr} {oe : Obj} {c : Cls} {x0 : Str}
def rI1 : List V → Hp → VK → Prop := fun xs H Q => (∃ i, xs = [.int i] ∧ Q (.int i) H) ∨ ∃ k, xs = [.bl k] ∧ Q (.int (if k then 1 else 0)) H
theorem pe_isSum (ok : HotOk cc Y x0) (B : Bears n Y a oe c) {e : Expr} (h : isSum cc e = true) : PE Y e (tCB (rSum Y.K) (tCons (tLc (iList Y.K (tVar 1)) (gName 3) tYes (tCB rI1 (tCons (tVar 3) tNil)) [3]) tNil)) := by
  unfold isSum at h
  split at h
  · rename_i f1 q1 f2 q2 g q3 q4 g' q5 f3 q6 z scope q7 q8
    simp only [Bool.and_eq_true, decide_eq_true_eq] at h
    obtain ⟨⟨⟨⟨⟨⟨⟨⟨rfl, h1⟩, rfl⟩, h3⟩, h4⟩, h5⟩, rfl⟩, h7⟩, h8⟩ := h
    obtain ⟨n1, n2, n3, n4⟩ := ok.nm h7
    have bo := blkOk_by h8
    rw [← ok.N, ← ok.scope] at bo
    have okB : ∀ (s : Shared) (H : Hp) (C : Addr) (cl : List (Str × Addr)) (fp : List Addr), (blkH Y s H scope (compEnvC scope cl C Y.env) fp).env.scope = (cc.blk scope).sc := fun s H C cl fp => by
      show relabel scope Y.env = relab scope cc.sc
      rw [← ok.scope]; rfl
    refine pe_callB (call_sumH B.hotC) (ok.gl h1) (ok.blt _ (by decide +kernel)) (by decide +kernel) (pa_cons (pe_lcH B.hotC ok.ndX (pe_var n1 n2 n3 n4) bo (fun s H C cl fp => ?_) (fun s H C cl fp => ?_) fun _ => rfl) pa_nil rfl) (by decide +kernel) (by decide +kernel) rfl rfl
    · unfold CC.lo at h5
      simp only [Bool.and_eq_true, decide_eq_true_eq, Bool.or_eq_true] at h5
      obtain ⟨l1, l2⟩ := h5
      have e := okB s H C cl fp
      refine pg_name ok.ndX (show Y.N[3]? = _ by rw [ok.N]; exact l1) ?_ ?_
      · rcases l2 with z | z
        · exact .inl (by rw [e]; exact z)
        · exact .inr (by rw [e]; exact z.1)
      · rcases l2 with z | z
        · exact .inr (by rw [e]; exact z)
        · refine .inl ?_
          show (scope.names.lookup g' == some NameKind.cell) = true
          rw [show scope.names.lookup g' = some NameKind.cell from z.2]; rfl
    · have e := okB s H C cl fp
      have gl : Gl (blkH Y s H scope (compEnvC scope cl C Y.env) fp) "int" := by
        show (blkH Y s H scope (compEnvC scope cl C Y.env) fp).env.scope.names.lookup ("int" : Str) = some NameKind.globalImplicit
        rw [e]; exact of_decide_eq_true h3
      unfold CC.nm at h4
      simp only [Bool.and_eq_true, decide_eq_true_eq, Bool.not_eq_true'] at h4
      obtain ⟨⟨⟨m1, m2⟩, m3⟩, m4⟩ := h4
      refine pe_callTy call_int1 gl (ok.blt _ (by decide +kernel)) (by decide +kernel) (pa_cons (pe_var (show Y.N[3]? = _ by rw [ok.N]; exact m1) ?_ m3 m4) pa_nil rfl) (by decide +kernel) (by decide +kernel) rfl rfl
      rw [e]
      unfold visK at m2
      split at m2
      · rename_i z; exact .inl z
      · rename_i z; exact .inr (.inl z)
      · rename_i z; exact .inr (.inr z)
      · cases m2
  · cases h

/-- the flags' sum -/
theorem sum_reads {σ : L2.St} {H : Hp} {q : Addr} {bs : List Bool} {Q : VK} (hq : σ[1]? = some (some (.ref q))) (hl : σ.length = 4) (hH : H q = some (.lst (bs.map V.bl))) (hb : bs.length ≤ 1000) (h : ∀ D, H D = none → Q (.int (bs.map bI).sum) (upd H D (.lst (bs.map fun b => V.int (bI b))))) :
    tCB (rSum Y.K) (tCons (tLc (iList Y.K (tVar 1)) (gName 3) tYes (tCB rI1 (tCons (tVar 3) tNil)) [3]) tNil) σ H Q := by
  refine ⟨.ref q, hq, q, rfl, ⟨_, SqL.of hH⟩, fun D hD => ?_⟩
  refine lc_list (K := Y.K) (a := q) (xs := bs.map V.bl) (fun i H' => H' = upd H D (.lst ((bs.take i).map fun b => V.int (bI b)))) rfl (fun i H' _ e => ?_) ?_ ?_
  · subst e
    exact SqL.of (by rw [upd_ne (ne_of_none hH hD)]; exact hH)
  · rintro i x H' hx rfl
    rw [List.getElem?_map] at hx
    obtain ⟨b, hb1, rfl⟩ := Option.map_eq_some_iff.mp hx
    have hi := (List.getElem?_eq_some_iff.mp hb1).1
    have w3 : (wipe σ [3]).length = 4 := by rw [wipe_length]; exact hl
    refine ⟨?_, ?_⟩
    · show ((wipe σ [3]).set 3 (some (V.bl b))).set 3 none = (σ.set 3 none)
      show ((σ.set 3 none).set 3 (some (V.bl b))).set 3 none = σ.set 3 none
      rw [List.set_set, List.set_set]
    · unfold tYes
      dsimp only
      rw [if_pos rfl]
      refine ⟨.bl b, List.getElem?_set_self (by rw [w3]; decide), .inr ⟨b, rfl, ?_⟩⟩
      refine ⟨_, upd_same, ?_, ?_⟩
      · rw [List.length_map, List.length_take]
        exact Nat.lt_of_lt_of_le (show min i bs.length < 1001 by omega) (by decide)
      · rw [upd_upd, List.take_add_one, hb1, List.map_append]
        rfl
  · rintro H' rfl
    rw [List.length_map, List.take_length]
    refine ⟨D, bs.map bI, rfl, SqL.of ?_, h D hD⟩
    rw [upd_same, List.map_map]
    rfl
def tTst (a : Addr) : TT := fun σ H Q => σ.length = 4 ∧ σ[0]? = some (some (.ref a)) ∧ ∃ (q : Addr) (bs : List Bool), σ[1]? = some (some (.ref q)) ∧ H q = some (.lst (bs.map V.bl)) ∧ bs.length ≤ 1000 ∧ (bs.map bI).sum = 1 ∧ ∀ D, H D = none → Q false (upd H D (.lst (bs.map fun b => V.int (bI b))))
theorem ps_test (ok : HotOk cc Y x0) (B : Bears n Y a oe c) {s : Stmt} (h : stTest cc x0 s = true) : PS Y s (fun D σ H => tTst a σ H fun _ H' => D.nx σ H') := by
  unfold stTest at h
  split at h
  · simp only [Bool.and_eq_true, decide_eq_true_eq] at h
    obtain ⟨⟨⟨h1, rfl⟩, h3⟩, h4⟩ := h
    unfold isVE at h3
    split at h3
    · simp only [Bool.and_eq_true, decide_eq_true_eq] at h3
      obtain ⟨⟨⟨⟨rfl, rfl⟩, rfl⟩, g4⟩, g5⟩ := h3
      obtain ⟨n1, n2, n3, n4⟩ := ok.nm ok.n0
      refine (ps_if (pw_or (pt_cmpR op_ne (pe_isSum ok B h1) pe_int rfl) (pw_or1 (pt_not (pt_val (pe_isVE B (ok.gl g4) (ok.blt _ (by decide +kernel)) n1 n2 n3 n4 (ok.gl g5)) (fun _ => rfl))))).pt (pss_one (ps_ret (pe_tup (pa_strs h4)))) pss_nil).imp fun D σ H ⟨hl, h0, q, bs, e1, e2, e3, e4, hQ⟩ => ?_
      refine sum_reads e1 hl e2 e3 fun Dd hD => ?_
      refine ⟨rfl, false, ?_, ?_⟩
      · rw [e4]; rfl
      · refine ⟨h0, true, rfl, ?_⟩
        exact hQ Dd hD
    · cases h3
  · cases h
def tEnd (K : PySem.W.Frag) : TS := fun D σ H => ∃ (q1 : Addr) (bs : List Bool) (q2 : Addr) (ks : List Str) (j : Nat) (k : Str), σ[1]? = some (some (.ref q1)) ∧ σ[2]? = some (some (.ref q2)) ∧ H q1 = some (.lst (bs.map V.bl)) ∧ H q2 = some (.lst (ks.map V.str)) ∧ bs[j]? = some true ∧ (∀ m, m < j → bs[m]? = some false) ∧ ks[j]? = some k ∧ ∀ p, H p = none → D.rt (.ref p) (upd H p (.tup [.str "error", .str k]))
theorem ps_end (ok : HotOk cc Y x0) {s : Stmt} (h : stEnd cc s = true) : PS Y s (tEnd Y.K) := by
  unfold stEnd at h
  split at h
  · simp only [Bool.and_eq_true, decide_eq_true_eq] at h
    obtain ⟨⟨⟨⟨⟨rfl, h1⟩, h2⟩, rfl⟩, rfl⟩, h5⟩ := h
    obtain ⟨m1, m2, m3, m4⟩ := ok.nm h1
    obtain ⟨n1, n2, n3, n4⟩ := ok.nm h2
    refine (ps_ret (pe_tup (pa_cons pe_str (pa_cons (pe_ix ix_list (pe_var m1 m2 m3 m4) (pe_bm PySem.F.plainAttrs_list PySem.F.slot_list_index PySem.F.type_list_index mt_index (pe_var n1 n2 n3 n4) (pa_cons pe_bl pa_nil rfl) rfl rfl h5 rfl rfl) (fun _ _ => rfl)) pa_nil rfl) rfl))).imp fun D σ H ⟨q1, bs, q2, ks, j, k, e1, e2, e3, e4, e5, e6, e7, hQ⟩ => ?_
    refine ⟨.ref q2, e2, .ref q1, e1, .inl ⟨rfl, _, SqL.of e3⟩, ?_⟩
    refine ⟨q1, bs.map V.bl, .bl true, j, .bl true, rfl, rfl, SqL.of e3, rfl, ?_, ?_, rfl, fun m z hm hz => ?_, ?_⟩
    · rw [List.all_map]
      exact List.all_eq_true.mpr fun b _ => rfl
    · rw [List.getElem?_map, e5]; rfl
    · rw [List.getElem?_map, e6 m hm] at hz
      cases hz
      rfl
    · refine ⟨q2, ks.map V.str, (j : Int), .str k, rfl, rfl, SqL.of e4, ?_, (by show 2 ≤ sizeLine; decide), fun p hp => hQ p hp⟩
      exact at_of rfl (by rw [List.getElem?_map, e7]; rfl)
  · cases h
end
end M
/-! The sorting of exceptions, all of it. -/
namespace M
open PySem PySem.Spec PyProof.Rows L2 HotX L2H
def chkTerm (cc : CC) (x : Str) (b : List Stmt) : Bool := match b with
  | [s1, s2, s3, s4, s5, s6, s7, s8, s9, s10] => stNew cc 1 (isAll cc x [.count, .form, .assumptions]) s1 && stAdd cc 1 (isAll cc x [.measure, .set, .values]) s2 && stAdd cc 1 (isAll cc x [.factor, .rows, .number]) s3 && stAdd cc 1 (isAll cc x [.text, .unlike, .tooLarge]) s4 && stAdd cc 1 (isAll cc x [.nothing]) s5 &&
      stNew cc 2 (strAll ["InvalidCount", "InvalidForm", "InvalidAssumptions", "InvalidMeasure", "InvalidSet", "InvalidValues"]) s6 && stAdd cc 2 (strAll ["InvalidFactor", "InvalidRows", "InvalidNumber", "InvalidText", "Unlike", "TooLarge"]) s7 && stAdd cc 2 (strAll ["NothingToUndo"]) s8 && stTest cc x s9 && stEnd cc s10
  | _ => false
/-- the heap has grown by short lists -/
structure Grow (H H' : Hp) : Prop where
  sm : Same H H'
  sz : SzOk H → SzOk H'
theorem Grow.refl (H : Hp) : Grow H H := ⟨Same.refl _, id⟩
theorem Grow.lst {H H' : Hp} (g : Grow H H') {p : Addr} {L : List V} (hp : H' p = none) (hl : L.length ≤ 1000) : Grow H (upd H' p (.lst L)) := ⟨g.sm.trans (same_upd hp), fun z => SzOk.lst' (g.sz z) (le_line hl)⟩
def tTerm (a : Addr) (c : Cls) : TS := fun D σ H => σ = [some (.ref a), none, none, none] ∧ ∀ (H' : Hp) (p : Addr), Grow H H' → H' p = none → D.rt (.ref p) (upd H' p (.tup [.str "error", .str (clsName c)]))
/-- where the lists stand -/
structure TSt (a : Addr) (H0 : Hp) (ls : Nat → Option (List V)) (σ : L2.St) (H : Hp) : Prop where
  len : σ.length = 4
  s0 : σ[0]? = some (some (.ref a))
  at_ : ∀ i L, ls i = some L → ∃ q, σ[i]? = some (some (.ref q)) ∧ H q = some (.lst L)
  g : Grow H0 H
def put (ls : Nat → Option (List V)) (i : Nat) (L : List V) : Nat → Option (List V) := fun j => if j = i then some L else ls j
theorem TSt.new {a : Addr} {H0 H : Hp} {ls : Nat → Option (List V)} {σ : L2.St} {i : Nat} {L : List V} {D : Ends} (T : TSt a H0 ls σ H) (hi : 0 < i ∧ i < 4) (hl : L.length ≤ 1000) (h : ∀ σ' H', TSt a H0 (put ls i L) σ' H' → D.nx σ' H') : tNew a i L D σ H := by
  refine ⟨T.s0, hl, fun p hp => h _ _ ⟨by rw [List.length_set]; exact T.len, ?_, fun j M e => ?_, T.g.lst hp hl⟩⟩
  · rw [List.getElem?_set_ne (by omega)]; exact T.s0
  · unfold put at e
    split at e
    · rename_i ej
      cases e
      subst ej
      exact ⟨p, List.getElem?_set_self (by rw [T.len]; exact hi.2), upd_same⟩
    · rename_i ej
      obtain ⟨q, e1, e2⟩ := T.at_ j M e
      exact ⟨q, by rw [List.getElem?_set_ne (Ne.symm ej)]; exact e1, by rw [upd_ne (ne_of_none e2 hp)]; exact e2⟩
theorem TSt.add {a : Addr} {H0 H : Hp} {ls : Nat → Option (List V)} {σ : L2.St} {i : Nat} {L M : List V} {D : Ends} (T : TSt a H0 ls σ H) (hi : 0 < i ∧ i < 4) (hM : ls i = some M) (hl : M.length + L.length ≤ 1000) (h : ∀ σ' H', TSt a H0 (put ls i (M ++ L)) σ' H' → D.nx σ' H') : tAdd a i L D σ H := by
  obtain ⟨q, e1, e2⟩ := T.at_ i M hM
  refine ⟨T.s0, q, M, e1, e2, hl, fun p1 p2 n1 n2 => h _ _ ⟨by rw [List.length_set]; exact T.len, ?_, fun j N e => ?_, (T.g.lst n1 (by omega)).lst n2 (by rw [List.length_append]; exact hl)⟩⟩
  · rw [List.getElem?_set_ne (by omega)]; exact T.s0
  · unfold put at e
    split at e
    · rename_i ej
      cases e
      subst ej
      exact ⟨p2, List.getElem?_set_self (by rw [T.len]; exact hi.2), upd_same⟩
    · rename_i ej
      obtain ⟨q', e3, e4⟩ := T.at_ j N e
      have e5 : (upd H p1 (.lst L)) q' = some (.lst N) := by rw [upd_ne (ne_of_none e4 n1)]; exact e4
      exact ⟨q', by rw [List.getElem?_set_ne (Ne.symm ej)]; exact e3, by rw [upd_ne (ne_of_none e5 n2)]; exact e5⟩
theorem term_last (c : Cls) : ∃ (j : Nat) (k : Str), (allCls.map fun c' => decide (c = c'))[j]? = some true ∧ (∀ m, m < j → (allCls.map fun c' => decide (c = c'))[m]? = some false) ∧ (allCls.map clsName)[j]? = some k ∧ k = clsName c ∧ ((allCls.map fun c' => decide (c = c')).map bI).sum = 1 := by
  have key : ∀ j : Nat, (allCls.map fun c' => decide (c = c'))[j]? = some true → (∀ m, m < j → (allCls.map fun c' => decide (c = c'))[m]? = some false) → (allCls.map clsName)[j]? = some (clsName c) → ((allCls.map fun c' => decide (c = c')).map bI).sum = 1 → ∃ (j : Nat) (k : Str), (allCls.map fun c' => decide (c = c'))[j]? = some true ∧ (∀ m, m < j → (allCls.map fun c' => decide (c = c'))[m]? = some false) ∧ (allCls.map clsName)[j]? = some k ∧ k = clsName c ∧ ((allCls.map fun c' => decide (c = c')).map bI).sum = 1 := fun j h1 h2 h3 h4 => ⟨j, _, h1, h2, h3, rfl, h4⟩
  cases c with
  | count => exact key 0 rfl (by decide) rfl rfl
  | form => exact key 1 rfl (by decide) rfl rfl
  | assumptions => exact key 2 rfl (by decide) rfl rfl
  | measure => exact key 3 rfl (by decide) rfl rfl
  | set => exact key 4 rfl (by decide) rfl rfl
  | values => exact key 5 rfl (by decide) rfl rfl
  | factor => exact key 6 rfl (by decide) rfl rfl
  | rows => exact key 7 rfl (by decide) rfl rfl
  | number => exact key 8 rfl (by decide) rfl rfl
  | text => exact key 9 rfl (by decide) rfl rfl
  | unlike => exact key 10 rfl (by decide) rfl rfl
  | tooLarge => exact key 11 rfl (by decide) rfl rfl
  | nothing => exact key 12 rfl (by decide) rfl rfl
section
variable {n : Cn} {cc : CC} {Y : Cx} {a : Addr} {oe : Obj} {c : Cls} {x0 : Str}
theorem term_walk (ok : HotOk cc Y x0) (B : Bears n Y a oe c) {b : List Stmt} (h : chkTerm cc x0 b = true) : PSs Y b (tTerm a c) := by
  unfold chkTerm at h
  split at h
  · simp only [Bool.and_eq_true] at h
    obtain ⟨⟨⟨⟨⟨⟨⟨⟨⟨h1, h2⟩, h3⟩, h4⟩, h5⟩, h6⟩, h7⟩, h8⟩, h9⟩, h10⟩ := h
    have str : ∀ ss es, strAll ss es = true → PA Y es (tKn a (ss.map V.str)) := fun ss es z => (pa_strs z).imp fun σ H Q q => q.2
    refine (pss_cons (ps_new ok (fun es z => pa_is ok B z) h1) (pss_cons (ps_add ok (fun es z => pa_is ok B z) h2) (pss_cons (ps_add ok (fun es z => pa_is ok B z) h3) (pss_cons (ps_add ok (fun es z => pa_is ok B z) h4) (pss_cons (ps_add ok (fun es z => pa_is ok B z) h5)
      (pss_cons (ps_new ok (str _) h6) (pss_cons (ps_add ok (str _) h7) (pss_cons (ps_add ok (str _) h8) (pss_cons (ps_test ok B h9) (pss_one (ps_end ok h10))))))))))).imp fun D σ H ⟨e, hQ⟩ => ?_
    have T0 : TSt a H (fun _ => none) σ H := ⟨by rw [e]; rfl, by rw [e]; rfl, (fun i L z => by cases z), Grow.refl H⟩
    refine T0.new ⟨by decide, by decide⟩ (by rw [List.length_map]; decide) fun σ1 H1 T1 => ?_
    refine T1.add ⟨by decide, by decide⟩ rfl (by simp) fun σ2 H2 T2 => ?_
    refine T2.add ⟨by decide, by decide⟩ rfl (by simp) fun σ3 H3 T3 => ?_
    refine T3.add ⟨by decide, by decide⟩ rfl (by simp) fun σ4 H4 T4 => ?_
    refine T4.add ⟨by decide, by decide⟩ rfl (by simp) fun σ5 H5 T5 => ?_
    refine T5.new ⟨by decide, by decide⟩ (by rw [List.length_map]; decide) fun σ6 H6 T6 => ?_
    refine T6.add ⟨by decide, by decide⟩ rfl (by simp) fun σ7 H7 T7 => ?_
    refine T7.add ⟨by decide, by decide⟩ rfl (by simp) fun σ8 H8 T8 => ?_
    obtain ⟨j, k, t1, t2, t3, t4, t5⟩ := term_last c
    obtain ⟨q1, e1, e2⟩ := T8.at_ 1 ((allCls.map fun c' => decide (c = c')).map V.bl) rfl
    obtain ⟨q2, e3, e4⟩ := T8.at_ 2 ((allCls.map clsName).map V.str) rfl
    refine ⟨T8.len, T8.s0, q1, _, e1, e2, by simp [allCls], t5, fun Dd hD => ?_⟩
    subst t4
    have g9 := T8.g.lst (L := ((allCls.map fun c' => decide (c = c')).map fun b => V.int (bI b))) hD (by simp [allCls])
    refine ⟨q1, _, q2, _, j, _, e1, e3, by rw [upd_ne (ne_of_none e2 hD)]; exact e2, by rw [upd_ne (ne_of_none e4 hD)]; exact e4, t1, t2, t3, fun p hp => ?_⟩
    exact hQ _ p g9 hp
  · cases h
end
end M
/-! What a deed gives, or what its exception is called. -/
namespace M
open PySem PySem.Spec PyProof.Rows L2 HotX L2H LamX
/-- the sorting def as it stands: f, its text's checks -/
structure TermD (n : Cn) (K : PySem.W.Frag) (mg : Str → Option Value) (x0 : Str) : Prop where
  ex : ∃ (f : Addr) (oc : Value) (od : Option Addr) (params : Arguments) (body : List Stmt) (scope : Scope) (kV doc pm : Value) (an : Option Addr) (cdv ct : Value) (osl : Array (Option Value)) (N : List Str),
    K.lookup f = some ⟨oc, od, .func (PySem.W.fnOf "_law_term" "_law_term" params body scope .none kV doc pm an cdv ct), osl⟩ ∧ PySem.W.codeIn K cdv "_law_term" = true ∧ PySem.W.keepIn K (.ref f) = true ∧ mg "_law_term" = some (.ref f) ∧
    L2.Binds K (PySem.W.fnOf "_law_term" "_law_term" params body scope .none kV doc pm an cdv ct) [x0] [] ∧ FnScope N [x0] scope ∧ N.length = 4 ∧ (⟨scope, scope, N, [], [], [], false⟩ : CC).nm 0 x0 = true ∧ chkTerm ⟨scope, scope, N, [], [], [], false⟩ x0 body = true
  exc : ExcK n K mg
  blt : ∀ x ∈ bltNames, mg x = none
def tSort (a : Addr) (i : Nat) (c : Cls) : TE := fun σ H Q => σ[i]? = some (some (.ref a)) ∧ ∀ (H' : Hp) (p : Addr), Grow H H' → H' p = none → Q (.ref p) (upd H' p (.tup [.str "error", .str (clsName c)]))
section
variable {n : Cn} {Z : Cx} {a : Addr} {oe : Obj} {c : Cls} {x0 : Str}
theorem pe_term {k i : Nat} {y : Str} {p q pos : Pos} (T : TermD n Z.K Z.mg x0) (pn : (a, oe) ∈ Z.pn) (hz : L2N.Zn (.ref (n.C c)) none oe) (hf : ∃ vs, oe.data = .fields vs) (hot : Z.A.handled = some (.ref a)) (hr : RoomH (k + 1) Z.A) (hg : Gl Z "_law_term") (hN : Z.N[i]? = some y) (hv : Vis Z.env.scope y) (hd : (y == ("__debug__" : Str)) = false) (hcd : (y == ("__classdict__" : Str)) = false) :
    PE Z (.Call (.Name "_law_term" p) [.Name y q] [] pos) (tSort a i c) := by
  obtain ⟨f, oc, od, params, body, scope, kV, doc, pm, an, cdv, ct, osl, N, lk, hcode, hk, hm, hb, S, hN4, n0, hc⟩ := T.ex
  refine ⟨fun pins s σ H Q I ⟨hs, hQ⟩ => ?_⟩
  refine wpAny_Call_Name_kw (ld_glob I hg hm ?_ (by decide +kernel))
  have ha : PA Z [.Name y q] (tCons (tVar i) tNil) := pa_cons (pe_var hN hv hd hcd) pa_nil rfl
  refine PySem.W.callWith_K (h₀ := Z.base) I.ok.mod.kin hk (thn (ha.run pos pins s σ H (fun vs H1 => vs = [V.ref a] ∧ H = H1) I ⟨.ref a, hs, rfl, rfl⟩) fun us s1 hh => ?_) rfl rfl
  obtain ⟨vs, H1, I1, r1, ev, eH⟩ := hh
  subst ev
  rw [← eH] at I1
  refine ⟨I1.kIn, ?_⟩
  have hl : us.length = 1 := by rw [← r1.length]; rfl
  have P1 := I1.pin (a, oe) (List.mem_append_left _ pn)
  have hpin : PinOk Z.stack H s1 (a, oe) := ⟨P1.1, P1.2.1, pin_stack I1 (List.mem_append_left _ pn), P1.2.2.2.2⟩
  have bd := hb s1 us I1.kIn (by rw [List.append_nil]; exact hl)
  rw [List.append_nil] at bd
  have rc : codeAny (model Z.prog Z.w) Z.A (.call (.ref f) ⟨us, []⟩) (CR CX0 Z.stack Z.prog Z.w H s1 Q E0) s1 := by
    refine run_ofH (N := N) (ps := [x0]) (us := us) (vs := [.ref a]) lk hcode S hr hpin I1.env0 bd r1 rfl fun hr' => ?_
    refine ⟨tTerm a c, term_walk (n := n) (Y := cxH CX0 Z.prog Z.w Z.K Z.mg Z.base N "_law_term" scope f cdv Z.A Z.stack s1 H E0 (a, oe)) (cc := ⟨scope, scope, N, [], [], [], false⟩) (oe := oe) (x0 := x0) ⟨rfl, S.nd, rfl, fun _ _ => rfl, T.blt, n0⟩ ⟨by exact List.mem_singleton.mpr rfl, hz.1, hz.2.1, ?_, hot, T.exc⟩ hc, ?_, fun H' p g hp => hQ H' p g hp⟩
    · obtain ⟨vs, e⟩ := hf
      exact ⟨vs, e, hz.2.2 vs e⟩
    · unfold L2.start
      rw [hN4]
      rfl
  refine wpAny_call (codeAny_mono rc fun r s2 hq => ?_)
  cases r with
  | error e => exact (show False from hq).elim
  | ok fl =>
    cases fl with
    | ret u => exact I1.after hq
    | next => exact False.elim hq
    | brk => exact False.elim hq
    | cont => exact False.elim hq
end
theorem takesF {X : Cx} : L2N.Takes X WF := fun u s' ⟨a, B, sI, pins, σ, H, cls, d, e, I, nb, up, sky, na, os, ag, w⟩ => False.elim w
/-- the text of the def that tells -/
def chkTold (sg : Scope) (a : Str) (e : Str) (b : List Stmt) : Bool := match b with
  | [.Try [.Return (some (.Call (.Name a' _) [] [] _)) _] [.ExceptHandler (some (.Name m _)) (some e') [.Return (some (.Call (.Name t _) [.Name e'' _] [] _)) _] _] [] [] _] =>
    decide (a' = a) && decide (e' = e) && decide (e'' = e) && decide (m = "MeasureError") && decide (t = "_law_term") && decide (sg.names.lookup e = some .local) && decide (sg.names.lookup m = some .globalImplicit) && decide (sg.names.lookup t = some .globalImplicit) && !(e == ("__debug__" : Str)) && !(e == ("__classdict__" : Str))
  | _ => false
def TTn (n : Cn) : (XK → Hp → VK → Prop) → Hp → VK → Prop := fun tl H Q => tl (fun cls d H' => ∃ c, cls = .ref (n.C c) ∧ d = none ∧ ∀ (H'' : Hp) (p : Addr), Grow H' H'' → H'' p = none → Q (.ref p) (upd H'' p (.tup [.str "error", .str (clsName c)]))) H Q
theorem told_givesN {n : Cn} {X : Cx} {a e x0 q : Str} {sg : Scope} {g Me : Addr} {cdg : Value} {bg : List Stmt} {k : Nat} (T : TermD n X.K X.mg x0) (hM : X.mg "MeasureError" = some (.ref Me)) (hx : ∀ c, PySem.W.exmOne X.K (.ref (n.C c)) (.ref Me) = some true) (S : FnScope [a, e] [a] sg) (h : chkTold sg a e bg = true) :
    GivesN X [a, e] "_law_told" sg g cdg bg a q (k + 1) (TTn n) := by
  intro f c' s H Q tl hr act hc ht
  unfold chkTold at h
  split at h
  · simp only [Bool.and_eq_true, decide_eq_true_eq, Bool.not_eq_true'] at h
    obtain ⟨⟨⟨⟨⟨⟨⟨⟨⟨rfl, rfl⟩, rfl⟩, rfl⟩, rfl⟩, h6⟩, h7⟩, h8⟩, h9⟩, h10⟩ := h
    rename_i p1 p2 p3 p4 p5 p6 p7 p8 p9
    refine ⟨_, pss_one (L2N.ps_try_as (X := (cxOf CX0 X.prog X.w X.K X.mg X.base _ "_law_told" sg g cdg X.A X.stack s H E0).nox) (i := 1) (c := .ref Me) (Wout := fun _ _ _ _ => False)
      (tb := fun W D σ H => ∃ Ech : XK, (∀ (cls : Value) (d : Option Addr) (σ' : L2.St) (H' : Hp), σ'.length = 2 → Ech cls d H' → W cls d σ' H') ∧ σ[0]? = some (some (.ref f)) ∧ H c' = some (CodeO c' q) ∧ tl Ech H D.rt)
      (ts := fun a0 cls d D σ H => ∃ c, cls = .ref (n.C c) ∧ d = none ∧ tSort a0 1 c σ H D.rt)
      rfl rfl S.nd rfl h6 ⟨h7, by decide +kernel, .inl hM⟩ takesF (fun W pn xe tk _ => ?_) (fun a0 oe cls d pn hz hf => ?_)), ?_⟩
    · refine ⟨fun pins s' σ H' D I ⟨Ech, hW, w1, w2, w3⟩ => ?_⟩
      exact (pss_one (ps_ret (act W pn xe Ech _ _ tk hW))).run pins s' σ H' D I ⟨w1, w2, w3⟩
    · refine ⟨fun pins s' σ H' D I ⟨c, ec, ed, w⟩ => ?_⟩
      subst ec ed
      refine (pss_one (ps_ret (pe_term (Z := ((cxOf CX0 X.prog X.w X.K X.mg X.base _ "_law_told" sg g cdg X.A X.stack s H E0).nox).suite a0 ((a0, oe) :: pn)) (n := n) (c := c) (oe := oe) (k := k) (i := 1) (y := _) T List.mem_cons_self hz hf rfl ⟨hr.dp, hr.un⟩ h8 rfl (.inl h6) h9 h10))).run pins s' σ H' D I w
    · refine ⟨_, fun cls d σ' H' hl ⟨c, ec, ed, w⟩ => ⟨true, by rw [ec]; exact hx c, fun _ a0 _ => ⟨c, ec, ed, ?_, w⟩, fun z => by cases z⟩, rfl, hc, ht⟩
      exact List.getElem?_set_self (by rw [hl]; decide)
  · cases h

/-! ### read off the small language -/
section
variable {n : Cn} {c : Ct} {F H H1 : Hp} {σ : L2.St} {env : M.Env} {W : WX}
theorem Sok.larger (S : Sok c F H σ env) (e : ∀ b o, H b = some o → (∀ ps, o ≠ .tbl ps) → H1 b = some o) (lv : ∀ b, H b ≠ none → H1 b ≠ none) (sz : SzOk H1) (tb : LamX.Tabs c.T H1) : Sok c F H1 σ env := by
  refine ⟨fun b o z => e b o (S.sub b o z) (fun ps w => S.nt b ps (by rw [z, w])), fun a o z m t => e a o (S.old a o z m t) t, fun a z => lv a (S.live a z), S.froz, S.nt, tb, sz, S.len, fun i s z => ?_, S.apart, S.mine, S.lent⟩
  have w := S.slot i s z
  cases s with
  | val d => exact w
  | own k xs =>
    obtain ⟨a, vs, w1, w2, w3, w4⟩ := w
    exact ⟨a, vs, w1, w2, e a _ w3 (fun ps q => by cases q), w4⟩
def toldR (r : M.Env → R TV) : M.Env → R TV := fun env => match M.frz (r env) with
  | some (.ok d env1) => some (.ok (.imm d) env1)
  | some (.err c env1) => some (.ok (.imm (errD c)) env1)
  | none => none
theorem told_reads {r : M.Env → R TV} {Q : VK} (h : tT n W (toldR r) σ H Q) : tLam3 n.T (TTn n) (fun E => tV n (fun cls d _ H => E cls d H) fun env => M.frz (r env)) σ H Q := by
  obtain ⟨c, F, env, hK, hT, S, q⟩ := h
  refine ⟨by rw [← hT]; exact S.tabs, fun H1 eN lv sz T1 => ?_⟩
  have S1 := S.larger eN lv sz (by rw [hT]; exact T1)
  refine ⟨c, F, env, hK, hT, S1, ?_⟩
  unfold toldR at q
  show Post n c F σ _ (relV c σ) (M.frz (r env)) Q
  match M.frz (r env), q with
  | none, q => exact q
  | some (.ok d env1), q => exact fun b F' H' S' sm rl => q b F' H' S' sm rl
  | some (.err k env1), q =>
    refine fun F' H' S' sm => ⟨k, rfl, rfl, fun H'' p g hp => ?_⟩
    have S2 := S'.larger (fun b o z _ => g.sm b o z) (fun b z => by
      cases e : H' b with
      | none => exact absurd e z
      | some o => rw [g.sm b o e]; simp) (g.sz S'.sz) (LamX.Tabs.ext S'.tabs g.sm)
    have fp := S2.sub.free hp
    exact q (.ref p) (upd F' p (.tup [.str "error", .str (clsName k)])) _ (S2.new hp (fun ps z => by cases z) (SzOk.tup' S2.sz (by show 2 ≤ sizeLine; decide))) (sm.trans (same_upd fp)) (.tup (SqT.of upd_same) (.cons (.str _) (.cons (.str _) .nil)))
end
end M
/-! What the test tells: expressions. -/
namespace M
open PySem PySem.Spec PyProof.Rows L2

/-- a def that may be called, by its mirror -/
def Cal (n : Cn) (G : Gam) (X : Cx) (f : Fn) : Prop := ∃ (k : Nat) (fa : Addr) (fd : FuncData) (ps : List Str), FnOk X.prog X.w X.K X.mg X.base (L2N.CX X.prog X.w) k fa fd ps (if byRef f then sp1 n (arity f) (G f) else sp0 n (arity f) (G f)) ∧
  Room k X.A ∧ X.mg (fnName f) = some (.ref fa) ∧ PySem.W.keepIn X.K (.ref fa) = true ∧ Binds X.K fd ps []
/-- a class that may be raised -/
def ClsOk (n : Cn) (X : Cx) (c : Cls) : Prop := ∃ (B newId initId : String) (bmB : List Value), ExcBaseFacts B newId initId bmB ∧ PySem.W.excIn X.K (n.C c) bmB newId = true ∧ X.mg (clsName c) = some (.ref (n.C c)) ∧ PySem.W.keepIn X.K (.ref (n.C c)) = true ∧ Raises X (.ref (n.C c))
def GlobOk (n : Cn) (X : Cx) (g : Gc) : Prop := ∃ (u : Value) (v : V), X.mg (gcN g) = some u ∧ RelV v u ∧ ∀ F, Rp n.K F v (globD g)
/-- a module as it stands: what all its defs see -/
structure Md where
  P : Program
  w : World
  K : PySem.W.Frag
  mg : Str → Option Value
  base : Heap
/-- a def, promised -/
def FOkS (n : Cn) (s : M.Sem) (d : Md) (k : Nat) (f : Fn) : Prop := ∃ (fa : Addr) (fd : FuncData) (ps : List Str), FnOk d.P d.w d.K d.mg d.base (L2N.CX d.P d.w) k fa fd ps (if byRef f then sp1 n (arity f) s else sp0 n (arity f) s) ∧
  d.mg (fnName f) = some (.ref fa) ∧ PySem.W.keepIn d.K (.ref fa) = true ∧ Binds d.K fd ps []
def FOk (n : Cn) (G : Gam) (d : Md) (k : Nat) (f : Fn) : Prop := FOkS n (G f) d k f
/-- what telling needs: the def that tells, the sorting def, the table of code objects, room -/
def ToldOk (n : Cn) (G : Gam) (fs : List Fn) (X : Cx) : Prop := ∃ (k : Nat) (a e x0 : Str) (g Me c P : Addr) (pg : Arguments) (bg : List Stmt) (sg : Scope) (kV doc pm cdv ct oc : Value) (an od : Option Addr) (osl : Array (Option Value)),
  X.K.lookup g = some ⟨oc, od, .func (PySem.W.fnOf "_law_told" "_law_told" pg bg sg .none kV doc pm an cdv ct), osl⟩ ∧ PySem.W.codeIn X.K cdv "_law_told" = true ∧ PySem.W.keepIn X.K (.ref g) = true ∧ X.mg "_law_told" = some (.ref g) ∧
  L2.Binds X.K (PySem.W.fnOf "_law_told" "_law_told" pg bg sg .none kV doc pm an cdv ct) [a] [] ∧ FnScope [a, e] [a] sg ∧ chkTold sg a e bg = true ∧ (a == ("__debug__" : Str)) = false ∧ (a == ("__classdict__" : Str)) = false ∧
  TermD n X.K X.mg x0 ∧ X.mg "MeasureError" = some (.ref Me) ∧ (∀ c, PySem.W.exmOne X.K (.ref (n.C c)) (.ref Me) = some true) ∧
  LamX.TabB X.base X.mg c P ∧ X.env.code = .ref c ∧ (P, X.env.qual ++ "<lambda>") ∈ n.T ∧ (∀ p ∈ n.T, p.1 = P → p.2 = X.env.qual ++ "<lambda>") ∧ Room (k + 2) X.A ∧ ∀ f ∈ fs, FOk n G ⟨X.prog, X.w, X.K, X.mg, X.base⟩ k f
structure Ok (n : Cn) (G : Gam) (cc : CC) (X : Cx) (W : WX) : Prop where
  K : X.K = n.K
  N : X.N = cc.N
  nd : cc.N.Nodup
  calm : X.calm = true
  scope : X.env.scope = cc.sc
  kind : cc.sc.kind = .function
  un : X.A.units + 64 < cLine
  tk : L2N.Takes X W
  fn : ∀ x, cc.raw.names.lookup x = some .cell → X.fn x = true
  blt : ∀ x ∈ bltNames, X.mg x = none
  glob : ∀ g ∈ cc.gs, GlobOk n X g
  fns : ∀ f ∈ cc.fs, Cal n G X f
  cls : ∀ c ∈ cc.cs, ClsOk n X c
  told : cc.told = true → ToldOk n G cc.fs X
section
variable {n : Cn} {G : Gam} {cc : CC} {X : Cx} {W : WX}
theorem Ok.blk (ok : Ok n G cc X W) {scope : Scope} (hk : scope.kind = .function) (s : Shared) (H : Hp) (C : Addr) (cl : List (Str × Addr)) (fp : List Addr) : Ok n G (cc.blk scope) (X.blk s H scope (compEnvC scope cl C X.env) fp) WF :=
  ⟨ok.K, ok.N, ok.nd, ok.calm, by show relabel scope X.env = relab scope cc.sc; rw [← ok.scope]; rfl, hk, ok.un, takesF, fun x hx => by show (scope.names.lookup x == some .cell) = true; rw [show scope.names.lookup x = some .cell from hx]; rfl, ok.blt, ok.glob, ok.fns, ok.cls, fun z => by cases z⟩
theorem Ok.lam (ok : Ok n G cc X W) {scope : Scope} (L : LamX.LamS X.env.scope scope) {k : Nat} (hf : ∀ f ∈ cc.fs, FOk n G ⟨X.prog, X.w, X.K, X.mg, X.base⟩ k f) {A : Around} {outer : List PySem.Env} {s : Shared} {H : Hp} {E : XK} {f c' : Addr} (hr : Room k (A.deeper (LamX.lamEnv X scope s.heap.objs.size f c'))) : Ok n G (cc.lam scope) (lamN X A outer s H E scope f c') (fun cls d _ H => E cls d H) := by
  refine ⟨ok.K, ok.N, ok.nd, rfl, rfl, L.kind, ?_, L2N.takes_of rfl rfl rfl rfl, fun x hx => ?_, ok.blt, ok.glob, fun g hg => ?_, ok.cls, fun z => by cases z⟩
  · have := hr.un; show (A.deeper (LamX.lamEnv X scope s.heap.objs.size f c')).units + 64 < cLine; omega
  · exact absurd rfl (L.own _ (PySem.mem_of_lookup (show scope.names.lookup x = some .cell from hx))).2
  · obtain ⟨fa, fd, ps, h1, h2, h3, h4⟩ := hf g hg
    exact ⟨k, fa, fd, ps, h1, hr, h2, h3, h4⟩
theorem Ok.nm (ok : Ok n G cc X W) {i : Nat} {x : Str} (h : cc.nm i x = true) : X.N[i]? = some x ∧ Vis X.env.scope x ∧ (x == ("__debug__" : Str)) = false ∧ (x == ("__classdict__" : Str)) = false := by
  unfold CC.nm at h
  simp only [Bool.and_eq_true, decide_eq_true_eq, Bool.not_eq_true'] at h
  obtain ⟨⟨⟨h1, h2⟩, h3⟩, h4⟩ := h
  refine ⟨by rw [ok.N]; exact h1, ?_, h3, h4⟩
  rw [ok.scope]
  unfold visK at h2
  split at h2
  · rename_i e; exact .inl e
  · rename_i e; exact .inr (.inl e)
  · rename_i e; exact .inr (.inr e)
  · cases h2
theorem Ok.lo (ok : Ok n G cc X W) {i : Nat} {x : Str} (h : cc.lo i x = true) : X.N[i]? = some x ∧ Loc X.env.scope x ∧ (X.fn x = true ∨ X.env.scope.names.lookup x = some .local) := by
  unfold CC.lo at h
  simp only [Bool.and_eq_true, decide_eq_true_eq, Bool.or_eq_true] at h
  obtain ⟨h1, h2⟩ := h
  refine ⟨by rw [ok.N]; exact h1, ?_⟩
  rw [ok.scope]
  rcases h2 with h2 | ⟨h2, h3⟩
  · exact ⟨.inl h2, .inr h2⟩
  · exact ⟨.inr h2, .inl (ok.fn x h3)⟩
theorem Ok.gl (ok : Ok n G cc X W) {x : Str} (h : cc.gl x = true) : Gl X x := by
  show X.env.scope.names.lookup x = some .globalImplicit
  rw [ok.scope]
  exact of_decide_eq_true h
theorem Ok.ndX (ok : Ok n G cc X W) : X.N.Nodup := by rw [ok.N]; exact ok.nd
theorem star_of {x : Expr} (h : plainE x = true) (xs : List Expr) (env : PySem.Env) : starEach (x :: xs) env = (false, eval x env) :: starEach xs env := by
  cases x <;> first | (cases h; done) | rfl
theorem plainIx {x : Expr} (h : plainE x = true) : PlainIx x := fun o i => by
  cases x <;> first | (cases h; done) | rfl
theorem nomark {x : Expr} (h : plainE x = true) (op : CmpOp) : behindInMarks op x = false := by
  cases x <;> first | (cases h; done) | rfl
theorem nofold {x : Expr} (h : plainE x = true) (env : PySem.Env) : ∀ v, foldedSetIterable x env v = pure v := fun v => by
  cases x <;> first | (cases h; done) | rfl
theorem gdb (g : Gc) : (gcN g == ("__debug__" : Str)) = false := by cases g <;> decide +kernel
theorem fdb (f : Fn) : (fnName f == ("__debug__" : Str)) = false := by cases f <;> decide +kernel
theorem noStar_of (cc : CC) {t : Tg} {x : Expr} (h : chkTg cc t x = true) (env : PySem.Env) : NoStar x env := fun xs => by
  cases t <;> unfold chkTg at h <;> split at h <;> first | rfl | (cases h; done)
theorem PW.pt {e : Expr} {t : TT} (h : PW X e t) : PT X e t := ⟨fun pins s σ H Q I hw => h.run _ pins s σ H Q I hw⟩
/-- one expression -/
structure SndE (n : Cn) (G : Gam) (W : WX) (X : Cx) (m : E) (e : Expr) : Prop where
  val : PE X e (tT n W (ev G m))
  tst : PT X e (tBo n W (tru (ev G m)))
  new : fresh m = true → PE X e (tF n W (ev G m))
theorem SndE.plain {m : E} {e : Expr} (h : PE X e (tT n W (ev G m))) (hf : fresh m = false) (he : ∀ whole, isTrue e X.env whole = (do let v ← whole; standAt e.pos; holding [v] (truthy v))) : SndE n G W X m e :=
  ⟨h, snd_truth h he, fun z => by rw [hf] at z; cases z⟩
theorem SndE.fresh {m : E} {e : Expr} (h : PE X e (tF n W (ev G m))) (he : ∀ whole, isTrue e X.env whole = (do let v ← whole; standAt e.pos; holding [v] (truthy v))) : SndE n G W X m e :=
  ⟨h.ofF, snd_truth h.ofF he, fun _ => h⟩
theorem chkTg_ok (ok : Ok n G cc X W) : ∀ (t : Tg) {x : Expr}, chkTg cc t x = true → PG X x (gA n t) := by
  intro t
  induction t with
  | name i =>
    intro x h
    unfold chkTg at h
    split at h
    · obtain ⟨h1, h2, h3⟩ := ok.lo h
      exact snd_gname ok.ndX h1 h2 h3
    · cases h
  | pair a b ha hb =>
    intro x h
    unfold chkTg at h
    split at h
    · simp only [Bool.and_eq_true] at h
      exact snd_gpair ok.K ok.calm (noStar_of cc h.1 _) (noStar_of cc h.2 _) (ha h.1) (hb h.2)
    · cases h
  | trip a b c ha hb hc =>
    intro x h
    unfold chkTg at h
    split at h
    · simp only [Bool.and_eq_true] at h
      exact snd_gtrip ok.K ok.calm (noStar_of cc h.1.1 _) (noStar_of cc h.1.2 _) (noStar_of cc h.2 _) (ha h.1.1) (hb h.1.2) (hc h.2)
    · cases h
  | quad a b c d ha hb hc hd =>
    intro x h
    unfold chkTg at h
    split at h
    · simp only [Bool.and_eq_true] at h
      exact snd_gquad ok.K ok.calm (noStar_of cc h.1.1.1 _) (noStar_of cc h.1.1.2 _) (noStar_of cc h.1.2 _) (noStar_of cc h.2 _) (ha h.1.1.1) (hb h.1.1.2) (hc h.1.2) (hd h.2)
    · cases h
theorem evs_len {es : Es} : ∀ {xs : List Expr} {cc : CC}, chkEs cc es xs = true → ∀ (env : M.Env) (ds : List D) (env' : M.Env), evs G es env = some (.ok ds env') → ds.length = xs.length := by
  intro xs
  induction xs generalizing es with
  | nil =>
    intro cc h env ds env' e
    cases es with
    | nil => unfold evs at e; cases e; rfl
    | cons a as => unfold chkEs at h; cases h
  | cons x xs ih =>
    intro cc h env ds env' e
    cases es with
    | nil => unfold chkEs at h; cases h
    | cons a as =>
      unfold chkEs at h
      simp only [Bool.and_eq_true] at h
      unfold evs at e
      obtain ⟨d, e1, _, e⟩ := bnd_inv e
      obtain ⟨ds', e2, h2, e⟩ := bnd_inv e
      cases e
      simp [ih h.2 _ _ _ h2]
theorem blt_mem (b : Bi) : biN b ∈ bltNames := by
  cases b <;> first | decide +kernel | (show ("isinstance" : Str) ∈ bltNames; decide +kernel)
theorem ty_mem (t : Ty) : (tyN t : Str) ∈ bltNames := by cases t <;> decide +kernel
theorem restB_pe {op : BoolOp} {y : Expr} {rest : List Expr} {pos : Pos} {t : TE} (h : PE X (restB op y rest pos) t) : PE X (.BoolOp op (y :: rest) pos) t := by
  cases rest with
  | nil => exact pe_one h
  | cons z zs => exact h
theorem pw_bool {op : BoolOp} {vs : List Expr} {pos : Pos} {t : TT} (h : PT X (.BoolOp op vs pos) t) : PW X (.BoolOp op vs pos) t := ⟨fun wh pins s σ H Q I hw => by
  have z := h.run pins s σ H Q I hw
  unfold PySem.isTrue at z ⊢
  exact z⟩
theorem restB_and {y : Expr} {rest : List Expr} {pos : Pos} {t : TT} (h : PT X (restB .And y rest pos) t) : PW X (.BoolOp .And (y :: rest) pos) t := by
  cases rest with
  | nil => exact pw_and1 h
  | cons z zs => exact pw_bool h
theorem restB_or {y : Expr} {rest : List Expr} {pos : Pos} {t : TT} (h : PT X (restB .Or y rest pos) t) : PW X (.BoolOp .Or (y :: rest) pos) t := by
  cases rest with
  | nil => exact pw_or1 h
  | cons z zs => exact pw_bool h
end
end M
/-! What the test tells: expressions, the proof. -/
namespace M
open PySem PySem.Spec PyProof.Rows L2
section
variable {n : Cn} {G : Gam}
theorem compR_eq {m : E} {t : Tg} {it : It} {c : Eo} : ev G (.comp m t it c) = compR t (evIt G it) (evo G c) (ev G m) := by
  funext env
  rfl
theorem tup_plain {tg : Expr} (h : isTup tg = true) : ∃ es k p, tg = .Tuple es k p := by
  cases tg <;> first | (cases h; done) | exact ⟨_, _, _, rfl⟩
theorem isT_ev {t : Ty} {a : E} : ev G (.bi (.isT t) (.cons a .nil)) = fun env => bnd (ev G a env) fun t0 env1 => imm ((rd env1 t0).map fun d => .bool (isTy t d)) env1 := by
  rw [← isT_eq]
  funext env
  rfl
theorem evo_som {m : E} : evo G (.som m) = tru (ev G m) := rfl
theorem star_any {cc : CC} : ∀ {es : Es} {xs : List Expr}, chkEs cc es xs = true → ∀ (env : PySem.Env), (starEach xs env).any (·.1) = false := by
  intro es xs
  induction xs generalizing es with
  | nil => intro h env; rfl
  | cons x xs ih =>
    intro h env
    cases es with
    | nil => unfold chkEs at h; cases h
    | cons a as =>
      unfold chkEs at h
      simp only [Bool.and_eq_true] at h
      rw [star_of h.1.1, List.any_cons, ih h.2]
      rfl
theorem back_any (pos : Pos) (l : List (Bool × PySem.Sem Value)) : (backTo pos l).any (·.1) = l.any (·.1) := by
  unfold backTo
  rw [List.any_map]
  rfl
theorem snd_Es_star' {cc : CC} (es : Es) {xs : List Expr} (h : chkEs cc es xs = true) (pos : Pos) (env : PySem.Env) : (backTo pos (starEach xs env)).any (·.1) = false := by
  rw [back_any]; exact star_any h env
theorem snd_Es_star {cc : CC} (es : Es) {y : Expr} {xs : List Expr} (h : chkEs cc es (y :: xs) = true) (pos : Pos) (env : PySem.Env) : (backTo pos (starEach xs env)).any (·.1) = false := by
  cases es with
  | nil => unfold chkEs at h; cases h
  | cons a as =>
    unfold chkEs at h
    simp only [Bool.and_eq_true] at h
    exact snd_Es_star' as h.2 pos env
mutual
theorem snd_E (m : E) : ∀ {cc : CC} {X : Cx} {W : WX} {e : Expr}, Ok n G cc X W → chkE cc m e = true → SndE n G W X m e := by
  match m with
  | .var i =>
    intro cc X W e ok h
    unfold chkE at h
    split at h
    · obtain ⟨h1, h2, h3, h4⟩ := ok.nm h
      exact .plain (snd_var h1 h2 h3 h4) rfl (fun _ => rfl)
    · cases h
  | .int k =>
    intro cc X W e ok h
    unfold chkE at h
    split at h
    · cases of_decide_eq_true h
      exact .plain (snd_const pe_int fun _ _ => .int _) rfl (fun _ => rfl)
    · cases h
  | .bl b =>
    intro cc X W e ok h
    unfold chkE at h
    split at h
    · cases of_decide_eq_true h
      exact .plain (snd_const pe_bl fun _ _ => .bl _) rfl (fun _ => rfl)
    · cases h
  | .non =>
    intro cc X W e ok h
    unfold chkE at h
    split at h
    · exact .plain (snd_const pe_non fun _ _ => .non) rfl (fun _ => rfl)
    · cases h
  | .str s =>
    intro cc X W e ok h
    unfold chkE at h
    split at h
    · cases of_decide_eq_true h
      exact .plain (snd_const pe_str fun _ _ => .str _) rfl (fun _ => rfl)
    · cases h
  | .glob g =>
    intro cc X W e ok h
    unfold chkE at h
    split at h
    · simp only [Bool.and_eq_true, decide_eq_true_eq] at h
      obtain ⟨⟨rfl, h2⟩, h3⟩ := h
      obtain ⟨u, v, g1, g2, g3⟩ := ok.glob g h3
      refine .plain ((pe_glob (ok.gl h2) g1 g2 (gdb g)).imp fun σ H Q ⟨c, F, env, hK, _, S, q⟩ => q v F H S (Same.refl _) ?_) rfl (fun _ => rfl)
      show Rp c.K F v (globD g)
      rw [hK]
      exact g3 F
    · cases h
  | .bin o a b =>
    intro cc X W e ok h
    unfold chkE at h
    split at h
    · simp only [Bool.and_eq_true, decide_eq_true_eq] at h
      obtain ⟨⟨rfl, h2⟩, h3⟩ := h
      exact .fresh (snd_bin ok.K (snd_E a ok h2).val (snd_E b ok h3).val) (fun _ => rfl)
    · cases h
  | .neg a =>
    intro cc X W e ok h
    unfold chkE at h
    split at h
    · exact .plain (snd_neg (snd_E a ok h).val) rfl (fun _ => rfl)
    · cases h
  | .cmp o a b =>
    intro cc X W e ok h
    unfold chkE at h
    split at h
    · simp only [Bool.and_eq_true, decide_eq_true_eq] at h
      obtain ⟨⟨⟨rfl, h1⟩, h2⟩, h3⟩ := h
      exact ⟨snd_cmp ok.K ok.un (nomark h1 _) (snd_E a ok h2).val (snd_E b ok h3).val, sndt_cmp ok.K ok.un (nomark h1 _) (snd_E a ok h2).val (snd_E b ok h3).val, fun z => by cases z⟩
    · cases h
  | .isN a =>
    intro cc X W e ok h
    unfold chkE at h
    split at h
    · exact ⟨snd_isN (snd_E a ok h).val, sndt_isN (snd_E a ok h).val, fun z => by cases z⟩
    · cases h
  | .notN a =>
    intro cc X W e ok h
    unfold chkE at h
    split at h
    · exact ⟨snd_notN (snd_E a ok h).val, sndt_notN (snd_E a ok h).val, fun z => by cases z⟩
    · cases h
  | .chain o p a b c =>
    intro cc X W e ok h
    unfold chkE at h
    split at h
    · simp only [Bool.and_eq_true, decide_eq_true_eq] at h
      obtain ⟨⟨⟨⟨⟨rfl, rfl⟩, h0⟩, h1⟩, h2⟩, h3⟩ := h
      exact ⟨snd_chain ok.K ok.un (nomark h0 _) (snd_E a ok h1).val (snd_E b ok h2).val (snd_E c ok h3).val, sndt_chain ok.K ok.un (nomark h0 _) (snd_E a ok h1).val (snd_E b ok h2).val (snd_E c ok h3).val, fun z => by cases z⟩
    · cases h
  | .and_ a b =>
    intro cc X W e ok h
    unfold chkE at h
    split at h
    · simp only [Bool.and_eq_true] at h
      have A := snd_E a ok h.1
      have B := snd_E b ok h.2
      exact ⟨snd_and A.val (restB_pe B.val), (sndw_and A.tst (restB_and B.tst)).pt, fun z => by cases z⟩
    · cases h
  | .or_ a b =>
    intro cc X W e ok h
    unfold chkE at h
    split at h
    · simp only [Bool.and_eq_true] at h
      have A := snd_E a ok h.1
      have B := snd_E b ok h.2
      exact ⟨snd_or A.val (restB_pe B.val), (sndw_or A.tst (restB_or B.tst)).pt, fun z => by cases z⟩
    · cases h
  | .not_ a =>
    intro cc X W e ok h
    unfold chkE at h
    split at h
    · exact ⟨snd_not (snd_E a ok h).val, sndt_not (snd_E a ok h).tst, fun z => by cases z⟩
    · cases h
  | .ife t a b =>
    intro cc X W e ok h
    unfold chkE at h
    split at h
    · simp only [Bool.and_eq_true] at h
      have T := snd_E t ok h.1.1
      have A := snd_E a ok h.1.2
      have B := snd_E b ok h.2
      exact ⟨snd_ife T.tst A.val B.val, sndt_ife T.tst A.tst B.tst, fun z => by cases z⟩
    · cases h
  | .tup es =>
    intro cc X W e ok h
    unfold chkE at h
    split at h
    · exact .plain (snd_tup (snd_Es es ok h)) rfl (fun _ => rfl)
    · cases h
  | .lst es =>
    intro cc X W e ok h
    unfold chkE at h
    split at h
    · exact .fresh (snd_lst (snd_Es es ok h)) (fun _ => rfl)
    · cases h
  | .idx a i =>
    intro cc X W e ok h
    unfold chkE at h
    split at h
    · simp only [Bool.and_eq_true] at h
      exact .plain (snd_idx ok.K (plainIx h.1.1) (snd_E a ok h.1.2).val (snd_E i ok h.2).val) rfl (fun _ => rfl)
    · cases h
  | .sliceF a i =>
    intro cc X W e ok h
    unfold chkE at h
    split at h
    · simp only [Bool.and_eq_true] at h
      exact .fresh (snd_sliceF ok.K (snd_E a ok h.1).val (snd_E i ok h.2).val) (fun _ => rfl)
    · cases h
  | .sliceT a i =>
    intro cc X W e ok h
    unfold chkE at h
    split at h
    · simp only [Bool.and_eq_true] at h
      exact .fresh (snd_sliceT ok.K (snd_E a ok h.1).val (snd_E i ok h.2).val) (fun _ => rfl)
    · cases h
  | .rev a =>
    intro cc X W e ok h
    unfold chkE at h
    split at h
    · simp only [Bool.and_eq_true, decide_eq_true_eq] at h
      obtain ⟨rfl, h⟩ := h
      exact .plain (snd_rev ok.K (snd_E a ok h).val) rfl (fun _ => rfl)
    · cases h
  | .call f rs es =>
    intro cc X W e ok h
    unfold chkE at h
    match rs, h with
    | [], h =>
      dsimp only at h
      split at h
      · rename_i x p xs pos _
        simp only [Bool.and_eq_true, decide_eq_true_eq, Bool.not_eq_true'] at h
        obtain ⟨⟨⟨⟨⟨rfl, h1⟩, h2⟩, h3⟩, h4⟩, h5⟩ := h
        obtain ⟨k, fa, fd, ps, Fo, hr, hm, hk, hb⟩ := ok.fns f h2
        rw [h3, if_neg Bool.false_ne_true] at Fo
        refine .plain ?_ rfl (fun _ => rfl)
        show PE X _ (tT n W (callR (G f) [] (evs G es)))
        match xs, es, h4, h5 with
        | [], .nil, h4, h5 =>
          have Fo' : FnOk X.prog X.w X.K X.mg X.base (L2N.CX X.prog X.w) k fa fd ps (sp0 n 0 (G f)) := by rw [show (0 : Nat) = arity f from h4]; exact Fo
          exact snd_calln ok.K Fo' hr (ok.gl h1) hm hk hb ok.tk (fdb f)
        | [], .cons _ _, _, h5 => unfold chkEs at h5; cases h5
        | y :: ys, es, h4, h5 =>
          have pa := snd_Es es ok h5
          have h6 : plainE y = true := by
            cases es with
            | nil => unfold chkEs at h5; cases h5
            | cons a as => unfold chkEs at h5; simp only [Bool.and_eq_true] at h5; exact h5.1.1
          exact snd_call0 ok.K Fo hr (ok.gl h1) hm hk hb ok.tk (fdb f) (star_of h6 _ _) (snd_Es_star es h5 _ _) pa (fun env ds env' e => by rw [evs_len h5 env ds env' e]; exact h4)
      · cases h
    | [i], h =>
      dsimp only at h
      split at h
      · rename_i x p y py xs pos _
        simp only [Bool.and_eq_true, decide_eq_true_eq] at h
        obtain ⟨⟨⟨⟨⟨⟨rfl, h1⟩, h2⟩, h3⟩, h4⟩, h5⟩, h6⟩ := h
        obtain ⟨k, fa, fd, ps, Fo, hr, hm, hk, hb⟩ := ok.fns f h2
        rw [h3, if_pos rfl] at Fo
        obtain ⟨n1, n2, n3, n4⟩ := ok.nm h5
        refine .plain ?_ rfl (fun _ => rfl)
        show PE X _ (tT n W (callR (G f) [i] (evs G es)))
        exact snd_call1 ok.K Fo hr (ok.gl h1) hm hk hb ok.tk (fdb f) n1 n2 n3 n4 (snd_Es_star' es h6 _ _) (snd_Es es ok h6) (fun env ds env' e => by rw [evs_len h6 env ds env' e]; exact h4)
      · cases h
    | _ :: _ :: _, h => cases h
  | .bi b es =>
    intro cc X W e ok h
    have go : ∀ (b : Bi), (∀ t, b ≠ .isT t) → chkCall1 cc (biN b) (fun l => chkEs cc es l) e = true → SndE n G W X (.bi b es) e := fun b hb h => by
      unfold chkCall1 at h
      split at h
      · rename_i x p y ys pos _
        simp only [Bool.and_eq_true, decide_eq_true_eq] at h
        obtain ⟨⟨rfl, h1⟩, h2⟩ := h
        have h6 : plainE y = true := by
          cases es with
          | nil => unfold chkEs at h2; cases h2
          | cons a as => unfold chkEs at h2; simp only [Bool.and_eq_true] at h2; exact h2.1.1
        exact .fresh (snd_bi hb ok.K ok.calm ok.un (ok.gl h1) (ok.blt _ (blt_mem b)) (snd_Ets es ok h2) (star_of h6 _ _) (snd_Es_star es h2 _ _)) (fun _ => rfl)
      · cases h
    unfold chkE at h
    cases b with
    | isT t =>
      match es, h with
      | .nil, h => cases h
      | .cons _ (.cons _ _), h => cases h
      | .cons a .nil, h =>
        dsimp only at h
        split at h
        · simp only [Bool.and_eq_true, decide_eq_true_eq] at h
          obtain ⟨⟨⟨⟨⟨rfl, h1⟩, rfl⟩, h3⟩, h4⟩, h5⟩ := h
          refine .plain ?_ rfl (fun _ => rfl)
          rw [isT_ev]
          exact snd_isT (t := t) ok.K (ok.gl h1) (ok.blt _ (by decide +kernel)) (ok.gl h3) (ok.blt _ (ty_mem t)) (snd_E a ok h5).val (star_of h4 _ _)
        · cases h
    | str => cases h
    | len => exact go _ (fun t z => by cases z) h
    | sum => exact go _ (fun t z => by cases z) h
    | max => exact go _ (fun t z => by cases z) h
    | min => exact go _ (fun t z => by cases z) h
    | max2 => exact go _ (fun t z => by cases z) h
    | min2 => exact go _ (fun t z => by cases z) h
    | abs => exact go _ (fun t z => by cases z) h
    | list => exact go _ (fun t z => by cases z) h
    | tuple => exact go _ (fun t z => by cases z) h
    | int => exact go _ (fun t z => by cases z) h
    | all => exact go _ (fun t z => by cases z) h
    | any => exact go _ (fun t z => by cases z) h
  | .lrange a b =>
    intro cc X W e ok h
    unfold chkE at h
    split at h
    · simp only [Bool.and_eq_true, decide_eq_true_eq] at h
      obtain ⟨⟨⟨⟨⟨⟨⟨rfl, rfl⟩, h1⟩, h2⟩, h3⟩, h4⟩, h5⟩, h6⟩ := h
      exact .fresh (snd_lrange ok.calm (ok.gl h1) (ok.blt _ (by decide +kernel)) (ok.gl h2) (ok.blt _ (by decide +kernel)) (star_of h3 _ _) (star_of h4 _ _) (by rw [star_of h4]; rfl) (snd_E a ok h5).val (snd_E b ok h6).val) (fun _ => rfl)
    · cases h
  | .comp m t it c =>
    intro cc X W e ok h
    unfold chkE at h
    split at h
    · simp only [Bool.and_eq_true, decide_eq_true_eq] at h
      obtain ⟨⟨⟨⟨⟨⟨rfl, h1⟩, h2⟩, h3⟩, h4⟩, h5⟩, h6⟩ := h
      have bo := blkOk_by h2
      rw [← ok.N, ← ok.scope] at bo
      refine .fresh ?_ (fun _ => rfl)
      rw [compR_eq]
      exact snd_comp ok.calm ok.ndX (snd_It it ok h3) bo (by unfold CC.ownOf; rw [List.map_map]; exact List.map_id _) (fun s H C cl fp => chkTg_ok (ok.blk bo.kind s H C cl fp) t h4) (fun s H C cl fp => snd_Eo c (ok.blk bo.kind s H C cl fp) h5) (fun s H C cl fp => (snd_E m (ok.blk bo.kind s H C cl fp) h6).val) (nofold h1 _)
    · cases h
  | .told m =>
    intro cc X W e ok h
    unfold chkE at h
    split at h
    · rename_i t p params body scope lp pos
      simp only [Bool.and_eq_true, decide_eq_true_eq] at h
      obtain ⟨⟨⟨⟨⟨h1, rfl⟩, h2⟩, h3⟩, h4⟩, h5⟩ := h
      obtain ⟨k, a, e, x0, g, Me, c, P, pg, bg, sg, kV, doc, pm, cdv, ct, oc, an, od, osl, lk, hcd, hk, hm, hb, S, hct, d1, d2, T, hM, hx, TB, hcode, hmT, hu, hr, hf⟩ := ok.told h1
      have L : LamX.LamS X.env.scope scope := by rw [ok.scope]; exact LamX.lamS_by h3
      have ea : params = ⟨[], [], none, [], [], none, []⟩ := by
        unfold noArgs at h4
        split at h4
        · rfl
        · cases h4
      subst ea
      refine .plain ?_ rfl (fun _ => rfl)
      show PE X _ (tT n W (toldR (ev G m)))
      exact (pe_lamN (T := n.T) (TT := TTn n) (k := k) (ok.gl h2) hm hk lk hcd hb S rfl ((S.par a (by simp)).elim .inl fun z => .inr (.inl z)) (told_givesN T hM hx S hct) TB hcode hmT hu hr L rfl (fun _ _ _ _ _ => rfl)
        (fun A outer s H E f c' hr' => (snd_E m (ok.lam L hf hr') h5).val.frz) (by decide +kernel) d1 d2).imp fun σ H Q z => told_reads z
    · cases h
  | .srcs a =>
    intro cc X W e ok h
    unfold chkE at h
    split at h
    · simp only [Bool.and_eq_true, decide_eq_true_eq] at h
      obtain ⟨⟨⟨⟨⟨⟨⟨⟨⟨rfl, rfl⟩, rfl⟩, rfl⟩, rfl⟩, rfl⟩, rfl⟩, rfl⟩, h1⟩, h2⟩ := h
      exact .plain (snd_srcs (by have := ok.un; omega) (plainIx h1) (snd_E a ok h2).val) rfl (fun _ => rfl)
    · cases h
theorem snd_Es (ms : Es) : ∀ {cc : CC} {X : Cx} {W : WX} {l : List Expr}, Ok n G cc X W → chkEs cc ms l = true → PA X l (tVs n W (evs G ms)) := by
  match ms with
  | .nil =>
    intro cc X W l ok h
    unfold chkEs at h
    split at h
    · exact snd_vnil
    · cases h
  | .cons a as =>
    intro cc X W l ok h
    unfold chkEs at h
    split at h
    · simp only [Bool.and_eq_true] at h
      exact snd_vcons (star_of h.1.1 _ _) (snd_E a ok h.1.2).val (snd_Es as ok h.2)
    · cases h
theorem snd_Ets (ms : Es) : ∀ {cc : CC} {X : Cx} {W : WX} {l : List Expr}, Ok n G cc X W → chkEs cc ms l = true → PA X l (tTs n W (evts G ms)) := by
  match ms with
  | .nil =>
    intro cc X W l ok h
    unfold chkEs at h
    split at h
    · exact snd_tnil
    · cases h
  | .cons a as =>
    intro cc X W l ok h
    unfold chkEs at h
    split at h
    · simp only [Bool.and_eq_true] at h
      exact snd_tcons (star_of h.1.1 _ _) (snd_E a ok h.1.2).val (snd_Ets as ok h.2)
    · cases h
theorem snd_Eo (m : Eo) : ∀ {cc : CC} {X : Cx} {W : WX} {l : List Expr}, Ok n G cc X W → chkEo cc m l = true → PTs X l (tBo n W (evo G m)) := by
  match m with
  | .non =>
    intro cc X W l ok h
    unfold chkEo at h
    split at h
    · refine ⟨fun pins s σ H Q I ⟨c, F, env, hK, hT, S, q⟩ => pts_nil.run pins s σ H Q I (q true F H S (Same.refl _) rfl)⟩
    · cases h
  | .som a =>
    intro cc X W l ok h
    unfold chkEo at h
    split at h
    · exact pts_one (snd_E a ok h).tst
    · cases h
theorem snd_It (m : It) : ∀ {cc : CC} {X : Cx} {W : WX} {tg e : Expr}, Ok n G cc X W → chkIt cc m tg e = true → PI X tg e (tIt n W (evIt G m)) := by
  match m with
  | .of a =>
    intro cc X W tg e ok h
    unfold chkIt at h
    exact snd_of ok.K (snd_E a ok h).val
  | .range1 a =>
    intro cc X W tg e ok h
    unfold chkIt at h
    split at h
    · simp only [Bool.and_eq_true, decide_eq_true_eq] at h
      obtain ⟨⟨⟨rfl, h1⟩, h2⟩, h3⟩ := h
      exact snd_range1 (ok.gl h1) (ok.blt _ (by decide +kernel)) (star_of h2 _ _) (snd_E a ok h3).val
    · cases h
  | .range2 a b =>
    intro cc X W tg e ok h
    unfold chkIt at h
    split at h
    · simp only [Bool.and_eq_true, decide_eq_true_eq] at h
      obtain ⟨⟨⟨⟨⟨rfl, h1⟩, h2⟩, h3⟩, h4⟩, h5⟩ := h
      exact snd_range2 (ok.gl h1) (ok.blt _ (by decide +kernel)) (by rw [star_of h2, star_of h3]; rfl) (star_of h3 _ _) (snd_E a ok h4).val (snd_E b ok h5).val
    · cases h
  | .enum a =>
    intro cc X W tg e ok h
    unfold chkIt at h
    split at h
    · simp only [Bool.and_eq_true, decide_eq_true_eq] at h
      obtain ⟨⟨⟨⟨h0, rfl⟩, h1⟩, h2⟩, h3⟩ := h
      obtain ⟨es, k, p, rfl⟩ := tup_plain h0
      exact snd_enum ok.K (ok.gl h1) (ok.blt _ (by decide +kernel)) (star_of h2 _ _) (snd_E a ok h3).val
    · cases h
  | .zip a b =>
    intro cc X W tg e ok h
    unfold chkIt at h
    split at h
    · simp only [Bool.and_eq_true, decide_eq_true_eq] at h
      obtain ⟨⟨⟨⟨⟨⟨h0, rfl⟩, h1⟩, h2⟩, h3⟩, h4⟩, h5⟩ := h
      obtain ⟨es, k, p, rfl⟩ := tup_plain h0
      exact snd_zip ok.K (ok.gl h1) (ok.blt _ (by decide +kernel)) (by rw [star_of h2, star_of h3]; rfl) (star_of h3 _ _) (snd_E a ok h4).val (snd_E b ok h5).val
    · cases h
end
end
end M
/-! The test and what it tells: statements. -/
namespace M
open PySem PySem.Spec PyProof.Rows L2
def notComp : Expr → Bool
  | .ListComp _ _ _ _ => false | .SetComp _ _ _ _ => false | .DictComp _ _ _ _ _ => false
  | _ => true
def swB (cc : CC) (x : Str) (px : Pos) (v : Expr) : Option Bool := match v with
  | .ListComp _ _ s p => some (cc.look x == some .local && px.line == p.line && !(s.names.any fun (n, k) => n == x && (k == .local || k == .cell)))
  | .SetComp _ _ _ _ => none
  | .DictComp _ _ _ _ _ => none
  | _ => some false
def isStar : Expr → Bool
  | .Starred .. => true
  | _ => false
def locN (cc : CC) (ts : List Expr) : List Str := ts.filterMap fun
    | .Name id pos => if cc.look id == some .local && pos.line == (ts.head?.map (·.pos.line)).getD 0 then some id else none
    | _ => none
def swapB (cc : CC) (ts vs : List Expr) : Option (Option (List Str)) :=
  if !(ts.length == 2 || ts.length == 3) || vs.length != ts.length then some none
  else if vs.any isStar then some none
  else if (locN cc ts).length != ts.length || (locN cc ts).eraseDups.length != (locN cc ts).length then some none
  else if vs.all (foldedForSure 8) then some none
  else if vs.all (constantsAlone 8) then none
  else some (some (locN cc ts))
def isTupE : Expr → Bool
  | .Tuple .. => true
  | _ => false
mutual
def chkS (cc : CC) (s : S) (st : Stmt) : Bool := match s with
  | .set i e => match st with
    | .Assign [.Name x px] v _ => chkE cc e v && cc.lo i x && (match swB cc x px v with
      | some true => true
      | some false => true
      | none => false)
    | _ => false
  | .par is es => match st with
    | .Assign [.Tuple ts _ _] (.Tuple vs _ _) _ => chkEs cc es vs && (match is, ts with
      | [i, j], [.Name x _, .Name y _] => (decide (swapB cc ts vs = some (some [x, y])) && decide (cc.N[i]? = some x) && decide (cc.N[j]? = some y) && decide (i ≠ j) && decide (cc.look x = some .local) && decide (cc.look y = some .local)) ||
          (decide (swapB cc ts vs = some none) && cc.lo i x && cc.lo j y)
      | [i, j, l], [.Name x _, .Name y _, .Name z _] => (decide (swapB cc ts vs = some (some [x, y, z])) && decide (cc.N[i]? = some x) && decide (cc.N[j]? = some y) && decide (cc.N[l]? = some z) && decide (i ≠ j) && decide (i ≠ l) && decide (j ≠ l) && decide (cc.look x = some .local) && decide (cc.look y = some .local) && decide (cc.look z = some .local)) ||
          (decide (swapB cc ts vs = some none) && cc.lo i x && cc.lo j y && cc.lo l z)
      | _, _ => false)
    | _ => false
  | .unp t e => match st with
    | .Assign [tg] v _ => isTupE tg && notComp v && !isTupE v && chkTg cc t tg && chkE cc e v
    | _ => false
  | .aug i o e => match st with
    | .AugAssign (.Name x _) p v _ => (decide (o = .add) || decide (o = .sub)) && decide (p = pyB o) && cc.lo i x && chkE cc e v
    | _ => false
  | .setI i k e => match st with
    | .Assign [.Subscript (.Name y _) ix _] v _ => cc.nm i y && plainE ix && chkE cc e v && chkE cc k ix
    | _ => false
  | .augI i k e => match st with
    | .AugAssign (.Subscript (.Name y _) ix _) .Add v _ => cc.nm i y && plainE ix && chkE cc e v && chkE cc k ix
    | _ => false
  | .par1 i k j e e' => match st with
    | .Assign [.Tuple [.Subscript (.Name y py) ix ps, .Name z pz] _ _] (.Tuple [v, w] _ _) _ => cc.nm i y && plainE ix && cc.lo j z && plainE v && plainE w && decide (swapB cc [.Subscript (.Name y py) ix ps, .Name z pz] [v, w] = some none) && chkE cc e v && chkE cc e' w && chkE cc k ix
    | _ => false
  | .app i e => match st with
    | .Expr (.Call (.Attribute (.Name y _) a pa) [v] [] pc) _ => decide (a = "append") && cc.nm i y && (pa.endLine == pc.line) && plainE v && chkE cc e v
    | _ => false
  | .drop e => match st with
    | .Expr v _ => notComp v && chkE cc e v
    | _ => false
  | .if_ t a b => match st with
    | .If z x y _ => chkE cc t z && chkSs cc a x && chkSs cc b y
    | _ => false
  | .for_ t it b => match st with
    | .For tg iter x [] _ => plainE iter && chkIt cc it tg iter && chkTg cc t tg && chkSs cc b x
    | _ => false
  | .while_ t b => match st with
    | .While z x [] _ => chkE cc t z && chkSs cc b x
    | _ => false
  | .ret e => match st with
    | .Return (some v) _ => chkE cc e v
    | _ => false
  | .retN => match st with
    | .Return none _ => true
    | _ => false
  | .raise_ c => match st with
    | .Raise (some (.Call (.Name x _) [.Constant (.str _) _ _] [] _)) none _ => decide (x = clsName c) && cc.gl x && decide (c ∈ cc.cs)
    | _ => false
  | .brk => match st with
    | .Break _ => true
    | _ => false
def chkSs (cc : CC) (ss : List S) (sts : List Stmt) : Bool := match ss with
  | [] => match sts with | [] => true | _ => false
  | s :: ss => match sts with | x :: xs => chkS cc s x && chkSs cc ss xs | _ => false
end
end M
/-! What the test tells: statements, the proof. -/
namespace M
open PySem PySem.Spec PyProof.Rows L2
structure OkS (n : Cn) (G : Gam) (cc : CC) (X : Cx) (W : WX) : Prop extends Ok n G cc X W where
  own : PassesOwn (model X.prog X.w) X.A X.env X.xe
section
variable {n : Cn} {G : Gam} {cc : CC} {X : Cx} {W : WX}
theorem Ok.look (ok : Ok n G cc X W) (x : Str) : X.env.kindOf x = cc.look x := by
  show X.env.scope.names.lookup x = _
  rw [ok.scope]
  rfl
theorem Ok.bk (ok : Ok n G cc X W) : X.env.blockKind = .function := by
  unfold Env.blockKind
  rw [ok.scope, ok.kind]
  rfl
theorem swB_ok (ok : Ok n G cc X W) {x : Str} {px : Pos} {v : Expr} {l : Nat} {b : Bool} (h : swB cc x px v = some b) : swapsWith v (some (.Name x px)) l X.env = pure b := by
  cases v <;> first
    | (cases h; rfl)
    | (cases h; done)
    | (cases h
       unfold swapsWith
       simp only [ok.bk, ok.look, Expr.pos]
       rfl)
theorem nc_ok {v : Expr} (h : notComp v = true) (t : Option Expr) (l : Nat) (env : PySem.Env) : swapsWith v t l env = pure false := by
  cases v <;> first | (cases h; done) | rfl
theorem sub_sw {v o i : Expr} {p : Pos} (l : Nat) (env : PySem.Env) : swapsWithSole [.Subscript o i p] v l env = pure false := by
  cases v <;> rfl
theorem tup_sw {v : Expr} {es : List Expr} {k : Nat} {p : Pos} (l : Nat) (env : PySem.Env) : swapsWithSole [.Tuple es k p] v l env = pure false := by
  cases v <;> rfl
def locX (env : PySem.Env) (ts : List Expr) : List Str := ts.filterMap fun
    | .Name id pos => if env.kindOf id == some .local && pos.line == (ts.head?.map (·.pos.line)).getD 0 then some id else none
    | _ => none
theorem chk_comp {e : E} {elt : Expr} {gs : List Comprehension} {scope : Scope} {pos : Pos} (h : chkE cc e (.ListComp elt gs scope pos) = true) : ∃ m t it c, e = .comp m t it c := by
  cases e with
  | comp m t it c => exact ⟨m, t, it, c, rfl⟩
  | call f rs es =>
    unfold chkE at h
    split at h
    all_goals cases h
  | bi b es =>
    unfold chkE at h
    split at h
    · split at h <;> cases h
    · cases h
    · cases h
  | _ => unfold chkE at h; cases h
theorem swapB_ok (ok : Ok n G cc X W) {ts vs : List Expr} {k k2 : Nat} {p p2 : Pos} {r : Option (List Str)} (h : swapB cc ts vs = some r) : swappedStores [.Tuple ts k p] (.Tuple vs k2 p2) X.env = pure r := by
  have eN : locX X.env ts = locN cc ts := by
    unfold locN locX
    refine fm_congr fun x _ => ?_
    cases x <;> first | rfl | (rename_i id pos _; show (if X.env.kindOf id == some .local && pos.line == (ts.head?.map (·.pos.line)).getD 0 then some id else none) = _; rw [ok.look])
  unfold swapB at h
  unfold swappedStores
  simp only [ok.bk, bne_self_eq_false, Bool.or_false]
  show (if (!(ts.length == 2 || ts.length == 3) || vs.length != ts.length) = true then pure none else if vs.any isStar = true then pure none
    else if ((locX X.env ts).length != ts.length || (locX X.env ts).eraseDups.length != (locX X.env ts).length) = true then pure none
    else if vs.all (foldedForSure 8) = true then pure none
    else if vs.all (constantsAlone 8) = true then (do unsupported "assign.tuple-of-constant-expressions:order-of-the-stores"; pure (some (locX X.env ts)))
    else pure (some (locX X.env ts)) : PySem.Sem (Option (List Str))) = pure r
  rw [eN]
  split at h
  · rename_i hc
    cases h
    rw [if_pos hc]
  · rename_i hc
    rw [if_neg hc]
    split at h
    · rename_i hc2
      cases h
      rw [if_pos hc2]
    · rename_i hc2
      rw [if_neg hc2]
      split at h
      · rename_i hc3
        cases h
        rw [if_pos hc3]
      · rename_i hc3
        rw [if_neg hc3]
        split at h
        · rename_i hc4
          cases h
          rw [if_pos hc4]
        · rename_i hc4
          rw [if_neg hc4]
          split at h
          · cases h
          · rename_i hc5
            cases h
            rw [if_neg hc5]
/-! ### values of a parallel assignment -/
theorem imm_inv {o : Option D} {env env' : M.Env} {t : TV} (h : imm o env = some (.ok t env')) : ∃ d, t = .imm d := by
  cases o with
  | none => cases h
  | some d => cases h; exact ⟨_, rfl⟩
theorem fresh_imm {m : E} (h : fresh m = true) : ImmR (ev G m) := fun env t env' e => by
  cases m with
  | lst es => unfold ev at e; obtain ⟨_, _, _, e⟩ := bnd_inv e; exact imm_inv e
  | comp a b c d => rw [compR_eq] at e; exact compR_imm env t env' e
  | bin o a b => unfold ev at e; obtain ⟨_, _, _, e⟩ := bnd_inv e; obtain ⟨_, _, _, e⟩ := bnd_inv e; exact imm_inv e
  | bi b es => unfold ev at e; obtain ⟨_, _, _, e⟩ := bnd_inv e; exact imm_inv e
  | lrange a b => unfold ev at e; obtain ⟨_, _, _, e⟩ := bnd_inv e; obtain ⟨_, _, _, e⟩ := bnd_inv e; exact imm_inv e
  | sliceF a b => unfold ev at e; obtain ⟨_, _, _, e⟩ := bnd_inv e; obtain ⟨_, _, _, e⟩ := bnd_inv e; exact imm_inv e
  | sliceT a b => unfold ev at e; obtain ⟨_, _, _, e⟩ := bnd_inv e; obtain ⟨_, _, _, e⟩ := bnd_inv e; exact imm_inv e
  | _ => cases h
theorem slotF {r : M.Env → R TV} {σ : L2.St} {H : Hp} {Q : VK} (hr : ImmR r) (h : ∃ (c : Ct) (F : Hp) (env : M.Env), c.K = n.K ∧ c.T = n.T ∧ Sok c F H σ env ∧ Post n c F σ W (fun F H env d v => SlotNew c σ F H env (slotOf true d) v) (M.frz (r env)) Q) : tF n W r σ H Q := by
  obtain ⟨c, F, env, hK, hT, S, q⟩ := h
  refine ⟨c, F, env, hK, hT, S, ?_⟩
  match e : r env, q with
  | none, q => exact q
  | some (.err k e), q => exact q
  | some (.ok t env1), q =>
    obtain ⟨d, rfl⟩ := hr env t env1 e
    refine fun b F' H' S' sm rl => q b F' H' S' sm ?_
    cases d with
    | list xs => exact ⟨rfl, rl⟩
    | _ => exact rl
theorem slotV {r : M.Env → R TV} {σ : L2.St} {H : Hp} {Q : VK} (h : ∃ (c : Ct) (F : Hp) (env : M.Env), c.K = n.K ∧ c.T = n.T ∧ Sok c F H σ env ∧ Post n c F σ W (fun F H env d v => SlotNew c σ F H env (slotOf false d) v) (M.frz (r env)) Q) : tV n W (fun env => M.frz (r env)) σ H Q := by
  obtain ⟨c, F, env, hK, hT, S, q⟩ := h
  refine ⟨c, F, env, hK, hT, S, ?_⟩
  show Post n c F σ W (relV c σ) (M.frz (r env)) Q
  match M.frz (r env), q with
  | none, q => exact q
  | some (.err k e), q => exact q
  | some (.ok d env1), q => exact fun b F' H' S' sm rl => q b F' H' S' sm rl
theorem snd_P (ok : Ok n G cc X W) : ∀ (es : Es) {l : List Expr}, chkEs cc es l = true → PA X l (tPr n W (evp G es)) := by
  intro es l
  induction l generalizing es with
  | nil =>
    intro h
    cases es with
    | nil => exact snd_pnil
    | cons a as => unfold chkEs at h; cases h
  | cons x xs ih =>
    intro h
    cases es with
    | nil => unfold chkEs at h; cases h
    | cons a as =>
      unfold chkEs at h
      simp only [Bool.and_eq_true] at h
      have sn := snd_E a ok h.1.2
      cases hf : fresh a with
      | true =>
        have z := snd_pcons (f := true) (star_of h.1.1 _ _) (ih as h.2) (sn.new hf) (fun σ H Q w => slotF (fresh_imm hf) w)
        have e : (fun env => bnd (M.frz (ev G a env)) fun d env1 => bnd (evp G as env1) fun ds env2 => some (.ok (slotOf true d :: ds) env2)) = evp G (.cons a as) := by
          funext env
          conv => rhs; unfold evp
          rw [hf]
        rw [e] at z
        exact z
      | false =>
        have z := snd_pcons (f := false) (star_of h.1.1 _ _) (ih as h.2) sn.val.frz (fun σ H Q w => slotV w)
        have e : (fun env => bnd (M.frz (ev G a env)) fun d env1 => bnd (evp G as env1) fun ds env2 => some (.ok (slotOf false d :: ds) env2)) = evp G (.cons a as) := by
          funext env
          conv => rhs; unfold evp
          rw [hf]
        rw [e] at z
        exact z
theorem Ok.pmk (ok : Ok n G cc X W) {c : Cls} {x m : Str} {p p2 pos : Pos} {j : Nat} (hx : x = clsName c) (hg : cc.gl x = true) (hc : c ∈ cc.cs) : L2N.PMk X (.Call (.Name x p) [.Constant (.str m) j p2] [] pos) (fun _ H Q => Q (.ref (n.C c)) none H) := by
  subst hx
  obtain ⟨B, ni, ii, bm, F, q, gC, kC, r⟩ := ok.cls c hc
  exact L2N.pmk_own F q gC kC r (ok.gl hg) (by cases c <;> decide +kernel)
end
end M
/-! What the test tells: statements, the proof. -/
namespace M
open PySem PySem.Spec PyProof.Rows L2
section
variable {n : Cn} {G : Gam} {fuel : Nat}
theorem Ok.vis2 {cc : CC} {X : Cx} {W : WX} (ok : Ok n G cc X W) {i : Nat} {x : Str} (h : cc.N[i]? = some x) : X.N[i]? = some x := by rw [ok.N]; exact h
theorem Ok.loc2 {cc : CC} {X : Cx} {W : WX} (ok : Ok n G cc X W) {x : Str} (h : cc.look x = some .local) : X.env.scope.names.lookup x = some .local := by rw [ok.scope]; exact h
theorem asg_sub {ix o : Expr} {ps : Pos} (h : plainE ix = true) (env : PySem.Env) : ∀ v, assign (.Subscript o ix ps) env v = (do
      let ov ← holding [v] (eval o env)
      let iv ← holding [v, ov] (eval ix env)
      standAt ps
      holding [v, ov, iv] (setItem ov iv v)
      release [v, ov, iv] []) := fun v => by
  unfold assign
  cases ix <;> first | (cases h; done) | rfl
theorem aug_sub {ix : Expr} (h : plainE ix = true) : ∀ ov iv new, augStore ix ov iv new = (do holding [new, ov, iv] (setItem ov iv new); release [new, ov, iv] []; pure .next) := fun ov iv new => by
  cases ix <;> first | (cases h; done) | rfl
theorem set_eq {i : Nat} {e : E} : ex G fuel (.set i e) = fun env => bndS (M.frz (ev G e env)) fun d env1 => nextS (setAt env1 i (slotOf (fresh e) d)) := by funext env; unfold ex; rfl
theorem swapB_len {cc : CC} {ts vs : List Expr} {r : List Str} (h : swapB cc ts vs = some (some r)) : vs.length = ts.length := by
  unfold swapB at h
  split at h
  · cases h
  · rename_i hc
    simp only [Bool.or_eq_true, not_or, bne_iff_ne, ne_eq, Decidable.not_not] at hc
    exact hc.2
theorem swapB_len2 {cc : CC} {a b : Expr} {vs : List Expr} {r : List Str} (h : swapB cc [a, b] vs = some (some r)) : ∃ v w, vs = [v, w] := by
  have := swapB_len h
  match vs, this with
  | [v, w], _ => exact ⟨v, w, rfl⟩
theorem swapB_len3 {cc : CC} {a b c : Expr} {vs : List Expr} {r : List Str} (h : swapB cc [a, b, c] vs = some (some r)) : ∃ v w u, vs = [v, w, u] := by
  have := swapB_len h
  match vs, this with
  | [v, w, u], _ => exact ⟨v, w, u, rfl⟩
theorem pos_sz : (3 : Nat) ≤ sizeLine := by decide
mutual
theorem snd_S (s : S) : ∀ {cc : CC} {X : Cx} {W : WX} {st : Stmt}, OkS n G cc X W → chkS cc s st = true → PS X st (tS n W (ex G fuel s)) := by
  match s with
  | .set i e =>
    intro cc X W st ok h
    unfold chkS at h
    split at h
    · rename_i x px v pos
      simp only [Bool.and_eq_true] at h
      obtain ⟨⟨h1, h2⟩, h3⟩ := h
      obtain ⟨g1, g2, g3⟩ := ok.lo h2
      have sn := snd_E e ok.toOk h1
      rw [set_eq]
      split at h3
      · rename_i hs
        -- a comprehension whose store comes first
        cases v with
        | ListComp elt gs scope p =>
          obtain ⟨m, t, it, c, rfl⟩ := chk_comp h1
          · unfold chkE at h1
            split at h1
            · rename_i tg iter ifs k scope' pos' heq
              cases heq
              simp only [Bool.and_eq_true, decide_eq_true_eq] at h1
              obtain ⟨⟨⟨⟨⟨⟨rfl, h1⟩, h2⟩, h3⟩, h4⟩, h5⟩, h6⟩ := h1
              have bo := blkOk_by h2
              rw [← ok.N, ← ok.scope] at bo
              have lx : X.env.scope.names.lookup x = some .local := by
                have hs := hs
                unfold swB at hs
                have hs := Option.some.inj hs
                simp only [Bool.and_eq_true] at hs
                exact ok.loc2 (eq_of_beq hs.1.1)
              have z := snd_setComp (i := i) (py := px) (spos := pos) (pos := p) ok.calm ok.ndX g1 lx (swB_ok ok.toOk hs) (snd_It it ok.toOk h3) bo (by unfold CC.ownOf; rw [List.map_map]; exact List.map_id _) (fun s H C cl fp => chkTg_ok (ok.toOk.blk bo.kind s H C cl fp) t h4) (fun s H C cl fp => snd_Eo c (ok.toOk.blk bo.kind s H C cl fp) h5) (fun s H C cl fp => (snd_E m (ok.toOk.blk bo.kind s H C cl fp) h6).val) (nofold h1 _)
              rw [compR_eq]
              exact z
            · cases h1
        | _ => cases hs
      · rename_i hs
        cases hf : fresh e with
        | true => exact snd_setF (fresh_imm hf) ok.ndX g1 g2 g3 (swB_ok ok.toOk hs) (sn.new hf)
        | false => exact snd_set rfl ok.ndX g1 g2 g3 (swB_ok ok.toOk hs) sn.val
      · cases h3
    · cases h
  | .par is es =>
    intro cc X W st ok h
    unfold chkS at h
    split at h
    · rename_i ts k1 p1 vs k2 p2 pos
      simp only [Bool.and_eq_true] at h
      obtain ⟨h1, h⟩ := h
      have pa := snd_P ok.toOk es h1
      show PS X _ (tS n W (parS (evp G es) is))
      split at h
      · rename_i i j x px y py
        simp only [Bool.or_eq_true, Bool.and_eq_true, decide_eq_true_eq] at h
        rcases h with ⟨⟨⟨⟨⟨a1, a2⟩, a3⟩, a4⟩, a5⟩, a6⟩ | ⟨⟨a1, a2⟩, a3⟩
        · have hv := swapB_len2 a1
          obtain ⟨v, w, rfl⟩ := hv
          exact snd_par2 ok.calm ok.ndX (ok.vis2 a2) (ok.vis2 a3) a4 (ok.loc2 a5) (ok.loc2 a6) pa (swapB_ok ok.toOk a1) (tup_sw _ _)
        · obtain ⟨b1, b2, b3⟩ := ok.lo a2
          obtain ⟨c1, c2, c3⟩ := ok.lo a3
          exact snd_parT ok.calm (Nat.le_trans (show (2 : Nat) ≤ 3 by decide) pos_sz) pa (pgs_n1 ok.ndX b1 b2 b3 (pgs_n1 ok.ndX c1 c2 c3 pgs_n0)) rfl rfl (swapB_ok ok.toOk a1) (tup_sw _ _)
      · rename_i i j l x px y py z pz
        simp only [Bool.or_eq_true, Bool.and_eq_true, decide_eq_true_eq] at h
        rcases h with ⟨⟨⟨⟨⟨⟨⟨⟨⟨a1, a2⟩, a3⟩, a4⟩, a5⟩, a6⟩, a7⟩, a8⟩, a9⟩, a10⟩ | ⟨⟨⟨a1, a2⟩, a3⟩, a4⟩
        · have hv := swapB_len3 a1
          obtain ⟨v, w, u, rfl⟩ := hv
          exact snd_par3 ok.calm ok.ndX (ok.vis2 a2) (ok.vis2 a3) (ok.vis2 a4) a5 a6 a7 (ok.loc2 a8) (ok.loc2 a9) (ok.loc2 a10) pa (swapB_ok ok.toOk a1) (tup_sw _ _)
        · obtain ⟨b1, b2, b3⟩ := ok.lo a2
          obtain ⟨c1, c2, c3⟩ := ok.lo a3
          obtain ⟨d1, d2, d3⟩ := ok.lo a4
          exact snd_parT ok.calm pos_sz pa (pgs_n1 ok.ndX b1 b2 b3 (pgs_n1 ok.ndX c1 c2 c3 (pgs_n1 ok.ndX d1 d2 d3 pgs_n0))) rfl rfl (swapB_ok ok.toOk a1) (tup_sw _ _)
      · cases h
    · cases h
  | .unp t e =>
    intro cc X W st ok h
    unfold chkS at h
    split at h
    · simp only [Bool.and_eq_true, Bool.not_eq_true'] at h
      obtain ⟨⟨⟨⟨h0, h1⟩, h2⟩, h3⟩, h4⟩ := h
      refine snd_unp (nc_ok h1 _ _ _) ?_ (noStar_of cc h3 _) (snd_E e ok.toOk h4).val (chkTg_ok ok.toOk t h3)
      unfold swappedStores
      rename_i tg v pos
      cases tg <;> first | (cases h0; done) | skip
      cases v <;> first | (cases h2; done) | rfl
    · cases h
  | .aug i o e =>
    intro cc X W st ok h
    unfold chkS at h
    split at h
    · simp only [Bool.and_eq_true, Bool.or_eq_true, decide_eq_true_eq] at h
      obtain ⟨⟨⟨h0, rfl⟩, h1⟩, h2⟩ := h
      obtain ⟨g1, g2, g3⟩ := ok.lo h1
      exact snd_aug h0 ok.ndX g1 g2 g3 (snd_E e ok.toOk h2).val
    · cases h
  | .setI i k e =>
    intro cc X W st ok h
    unfold chkS at h
    split at h
    · simp only [Bool.and_eq_true] at h
      obtain ⟨⟨⟨h0, h1⟩, h2⟩, h3⟩ := h
      obtain ⟨g1, g2, g3, g4⟩ := ok.nm h0
      exact snd_setI g1 g2 g3 g4 (asg_sub h1 _) (sub_sw _ _) rfl (snd_E e ok.toOk h2).val (snd_E k ok.toOk h3).val
    · cases h
  | .augI i k e =>
    intro cc X W st ok h
    unfold chkS at h
    split at h
    · simp only [Bool.and_eq_true] at h
      obtain ⟨⟨⟨h0, h1⟩, h2⟩, h3⟩ := h
      obtain ⟨g1, g2, g3, g4⟩ := ok.nm h0
      exact snd_augI g1 g2 g3 g4 (aug_sub h1) (snd_E e ok.toOk h2).val (snd_E k ok.toOk h3).val
    · cases h
  | .par1 i k j e e' =>
    intro cc X W st ok h
    unfold chkS at h
    split at h
    · simp only [Bool.and_eq_true, decide_eq_true_eq] at h
      obtain ⟨⟨⟨⟨⟨⟨⟨⟨h0, h1⟩, h2⟩, h3⟩, h4⟩, h5⟩, h6⟩, h7⟩, h8⟩ := h
      obtain ⟨g1, g2, g3, g4⟩ := ok.nm h0
      obtain ⟨l1, l2, l3⟩ := ok.lo h2
      exact snd_par1 ok.calm ok.ndX g1 g2 g3 g4 l1 l2 l3 (asg_sub h1 _) (star_of h3 _ _) (star_of h4 _ _) (snd_E e ok.toOk h6).val (snd_E e' ok.toOk h7).val (snd_E k ok.toOk h8).val (swapB_ok ok.toOk h5) (tup_sw _ _)
    · cases h
  | .app i e =>
    intro cc X W st ok h
    unfold chkS at h
    split at h
    · simp only [Bool.and_eq_true, decide_eq_true_eq] at h
      obtain ⟨⟨⟨⟨rfl, h0⟩, h1⟩, h2⟩, h3⟩ := h
      obtain ⟨g1, g2, g3, g4⟩ := ok.nm h0
      exact snd_app ok.K g1 g2 g3 g4 h1 (star_of h2 _ _) (snd_E e ok.toOk h3).val
    · cases h
  | .drop e =>
    intro cc X W st ok h
    unfold chkS at h
    split at h
    · simp only [Bool.and_eq_true] at h
      exact snd_drop (nc_ok h.1 _ _ _) (snd_E e ok.toOk h.2).val
    · cases h
  | .if_ t a b =>
    intro cc X W st ok h
    unfold chkS at h
    split at h
    · simp only [Bool.and_eq_true] at h
      exact snd_if (snd_E t ok.toOk h.1.1).tst (snd_Ss a ok h.1.2) (snd_Ss b ok h.2)
    · cases h
  | .for_ t it b =>
    intro cc X W st ok h
    unfold chkS at h
    split at h
    · simp only [Bool.and_eq_true] at h
      exact snd_for ok.own ok.calm (nofold h.1.1.1 _) (snd_It it ok.toOk h.1.1.2) (chkTg_ok ok.toOk t h.1.2) (snd_Ss b ok h.2)
    · cases h
  | .while_ t b =>
    intro cc X W st ok h
    unfold chkS at h
    split at h
    · simp only [Bool.and_eq_true] at h
      exact snd_while ok.own (snd_E t ok.toOk h.1).tst (snd_Ss b ok h.2)
    · cases h
  | .ret e =>
    intro cc X W st ok h
    unfold chkS at h
    split at h
    · exact snd_ret (snd_E e ok.toOk h).val
    · cases h
  | .retN =>
    intro cc X W st ok h
    unfold chkS at h
    split at h
    · exact snd_retN
    · cases h
  | .raise_ c =>
    intro cc X W st ok h
    unfold chkS at h
    split at h
    · simp only [Bool.and_eq_true, decide_eq_true_eq] at h
      exact snd_raise ok.calm ok.tk (ok.toOk.pmk h.1.1 h.1.2 h.2)
    · cases h
  | .brk =>
    intro cc X W st ok h
    unfold chkS at h
    split at h
    · exact snd_brk
    · cases h
theorem snd_Ss (ss : List S) : ∀ {cc : CC} {X : Cx} {W : WX} {sts : List Stmt}, OkS n G cc X W → chkSs cc ss sts = true → PSs X sts (tS n W (exs G fuel ss)) := by
  match ss with
  | [] =>
    intro cc X W sts ok h
    unfold chkSs at h
    split at h
    · exact snd_nil
    · cases h
  | s :: ss =>
    intro cc X W sts ok h
    unfold chkSs at h
    split at h
    · simp only [Bool.and_eq_true] at h
      exact snd_cons (snd_S s ok h.1) (snd_Ss ss ok h.2)
    · cases h
end
end
end M
/-! A def by its mirror. -/
namespace M
open PySem PySem.Spec PyProof.Rows L2
/-- what is asked of a module -/
structure MdOk (n : Cn) (d : Md) (gs : List Gc) (cs : List Cls) : Prop where
  K : d.K = n.K
  blt : ∀ x ∈ bltNames, d.mg x = none
  glob : ∀ g ∈ gs, ∃ (u : Value) (v : V), d.mg (gcN g) = some u ∧ RelV v u ∧ ∀ F, Rp n.K F v (globD g)
  cls : ∀ c ∈ cs, ∃ (B newId initId : String) (bmB : List Value), ExcBaseFacts B newId initId bmB ∧ PySem.W.excIn d.K (n.C c) bmB newId = true ∧ d.mg (clsName c) = some (.ref (n.C c)) ∧ PySem.W.keepIn d.K (.ref (n.C c)) = true ∧
    PySem.W.subIn d.K (.ref (n.C c)) (.type "BaseException") = some true ∧ PySem.W.typeIn d.K (.ref (n.C c)) = some (.type "type")

/-- the environment at entry -/
def env0 (N : Nat) (ss : List Slot) : M.Env := ss.map some ++ List.replicate (N - ss.length) none
/-- what a run leaves -/
def Ends0 (o : Option SO) (d : D) : Prop := (∃ env, o = some (.ret d env)) ∨ (d = .none ∧ ∃ env, o = some (.next env))
/-- a body's runs are as the mirror has it -/
def Mir0 (G : Gam) (N np : Nat) (body : List S) (s : M.Sem) : Prop := ∀ ds : List D, ds.length = np → match s [] ds with
  | some (.ok (d, [])) => ∃ fuel, Ends0 (exs G fuel body (env0 N (ds.map .val))) d
  | some (.error c) => ∃ fuel env, exs G fuel body (env0 N (ds.map .val)) = some (.err c env)
  | _ => True
def Mir1 (G : Gam) (N np : Nat) (body : List S) (s : M.Sem) : Prop := ∀ (xs : List D) (ds : List D), ds.length + 1 = np → match s [xs] ds with
  | some (.ok (d, [ys])) => ∃ fuel env, exs G fuel body (env0 N (.own true xs :: ds.map .val)) = some (.ret d env) ∧ env[0]? = some (some (.own true ys))
  | _ => True

section
variable {n : Cn} {G : Gam} {d : Md}
theorem env0_len {N : Nat} {ss : List Slot} (h : ss.length ≤ N) : (env0 N ss).length = N := by
  unfold env0; rw [List.length_append, List.length_map, List.length_replicate]; omega
theorem env0_get {N : Nat} {ss : List Slot} {i : Nat} {s : Slot} (h : (env0 N ss)[i]? = some (some s)) : ss[i]? = some s := by
  unfold env0 at h
  by_cases hi : i < ss.length
  · rw [List.getElem?_append_left (by simpa using hi), List.getElem?_map] at h
    cases e : ss[i]? with
    | none => rw [e] at h; cases h
    | some x => rw [e] at h; cases h; rfl
  · rw [List.getElem?_append_right (by simpa using hi), List.getElem?_replicate] at h
    split at h <;> cases h
theorem start_get {N : List Str} {vs : List V} {i : Nat} {v : V} (h : vs[i]? = some v) : (start N vs)[i]? = some (some v) := by
  unfold L2.start
  have hi := (List.getElem?_eq_some_iff.mp h).1
  rw [List.getElem?_append_left (by simpa using hi), List.getElem?_map, h]
  rfl
theorem start_len {N : List Str} {vs : List V} (h : vs.length ≤ N.length) : (start N vs).length = N.length := by
  unfold L2.start; rw [List.length_append, List.length_map, List.length_replicate]; omega
theorem start_inv {N : List Str} {vs : List V} {i : Nat} {v : V} (h : (start N vs)[i]? = some (some v)) : vs[i]? = some v := by
  unfold L2.start at h
  by_cases hi : i < vs.length
  · rw [List.getElem?_append_left (by simpa using hi), List.getElem?_map] at h
    cases e : vs[i]? with
    | none => rw [e] at h; cases h
    | some x => rw [e] at h; cases h; rfl
  · rw [List.getElem?_append_right (by simpa using hi), List.getElem?_replicate] at h
    split at h <;> cases h
/-- at entry: no list is lent -/
theorem Sok.enter0 {F H : Hp} {N : List Str} {vs : List V} {ds : List D} (b : CallBeg n F H) (r : RpAll n.K F vs ds) (hl : vs.length ≤ N.length) : Sok ⟨n.K, n.T, H, F, [], []⟩ F H (start N vs) (env0 N.length (ds.map .val)) := by
  have hd : (ds.map Slot.val).length = vs.length := by rw [List.length_map, RpAll.length r]
  have vals : ∀ {i : Nat} {s : Slot}, (env0 N.length (ds.map .val))[i]? = some (some s) → ∃ d, s = .val d ∧ ds[i]? = some d := fun {i s} e => by
    have e := env0_get e
    rw [List.getElem?_map] at e
    cases e1 : ds[i]? with
    | none => rw [e1] at e; cases e
    | some x => rw [e1] at e; cases e; exact ⟨x, rfl, rfl⟩
  refine ⟨b.sub, fun _ _ e _ _ => e, fun _ e => e, fun _ _ _ => rfl, b.nt, b.tabs, b.sz, ?_, fun i s e => ?_, fun i j k l xs ys a e _ _ _ => ?_, fun i k xs a e _ => ?_, fun i xs a e _ => ?_⟩
  · rw [env0_len (by omega), start_len hl]; exact Nat.le_refl _
  · obtain ⟨x, rfl, e'⟩ := vals e
    obtain ⟨v, h1, h2⟩ := RpAll.get' r e'
    exact ⟨v, start_get h1, h2⟩
  · obtain ⟨x, z, _⟩ := vals e; cases z
  · obtain ⟨x, z, _⟩ := vals e; cases z
  · obtain ⟨x, z, _⟩ := vals e; cases z
theorem Sok.enter1 {F H : Hp} {N : List Str} {us : List V} {a : Addr} {xs : List D} {ds : List D} (b : CallBeg n F H) (l : Lent n.K F H a xs) (r : RpAll n.K F us ds) (hl : us.length + 1 ≤ N.length) : Sok ⟨n.K, n.T, H, F, [a], [a]⟩ F H (start N (.ref a :: us)) (env0 N.length (.own true xs :: ds.map .val)) := by
  have hd : (ds.map Slot.val).length = us.length := by rw [List.length_map, RpAll.length r]
  have vals : ∀ {i : Nat} {s : Slot}, (env0 N.length (.own true xs :: ds.map .val))[i]? = some (some s) → (i = 0 ∧ s = .own true xs) ∨ ∃ j d, i = j + 1 ∧ s = .val d ∧ ds[j]? = some d := fun {i s} e => by
    have e := env0_get e
    cases i with
    | zero => cases e; exact .inl ⟨rfl, rfl⟩
    | succ j =>
      rw [List.getElem?_cons_succ, List.getElem?_map] at e
      cases e1 : ds[j]? with
      | none => rw [e1] at e; cases e
      | some x => rw [e1] at e; cases e; exact .inr ⟨j, x, rfl, rfl, e1⟩
  obtain ⟨fa, ws, ha, ra⟩ := l
  refine ⟨b.sub, fun _ _ e _ _ => e, fun _ e => e, fun _ _ _ => rfl, b.nt, b.tabs, b.sz, ?_, fun i s e => ?_, fun i j k l xs ys a e1 e2 _ _ => ?_, fun i k xs b' e s => ?_, fun i xs b' e s => ?_⟩
  · rw [env0_len (by rw [List.length_cons]; omega), start_len (by rw [List.length_cons]; exact hl)]; exact Nat.le_refl _
  · rcases vals e with ⟨rfl, rfl⟩ | ⟨j, x, rfl, rfl, e'⟩
    · exact ⟨a, ws, start_get rfl, fa, ha, ra⟩
    · obtain ⟨v, h1, h2⟩ := RpAll.get' r e'
      exact ⟨v, start_get (by rw [List.getElem?_cons_succ]; exact h1), h2⟩
  · rcases vals e1 with ⟨rfl, _⟩ | ⟨_, _, _, z, _⟩
    · rcases vals e2 with ⟨rfl, _⟩ | ⟨_, _, _, z, _⟩
      · rfl
      · cases z
    · cases z
  · rcases vals e with ⟨rfl, _⟩ | ⟨_, _, _, z, _⟩
    · have s := start_inv s
      cases s
      exact .inl (by simp)
    · cases z
  · rcases vals e with ⟨rfl, _⟩ | ⟨_, _, _, z, _⟩
    · have s := start_inv s
      cases s
      rfl
    · cases z
theorem Sok.leave {F H F' H' : Hp} {σ : L2.St} {env : M.Env} {B R : List Addr} (S : Sok ⟨n.K, n.T, H, F, B, R⟩ F' H' σ env) (sm : Same F F') : CallEnd n F H B F' H' := ⟨S.sub, S.nt, S.tabs, S.sz, sm, S.old, S.live, S.froz⟩
theorem cx_ok {k : Nat} {gs : List Gc} {cs : List Cls} {fs : List Fn} {N : List Str} {qual : Str} {scope : Scope} {f : Addr} {cdv : Value} {A : Around} {outer : List PySem.Env} {s : Shared} {H : Hp} {E : XK} (md : MdOk n d gs cs) (hf : ∀ f ∈ fs, FOk n G d k f) (hk : scope.kind = .function) (nd : N.Nodup)
    (hr : Room k (A.deeper (envOfC qual scope s.heap.objs.size f cdv))) : OkS n G ⟨scope, scope, N, fs, gs, cs, false⟩ (cxOf (L2N.CX d.P d.w) d.P d.w d.K d.mg d.base N qual scope f cdv A outer s H E) (fun cls d _ H => E cls d H) := by
  refine ⟨⟨md.K, rfl, nd, rfl, rfl, hk, ?_, L2N.takes_of rfl rfl rfl rfl, fun _ _ => rfl, md.blt, fun g hg => md.glob g hg, fun f hf' => ?_, fun c hc => ?_, fun z => by cases z⟩, passes_of rfl⟩
  · have := hr.un; show (A.deeper (envOfC qual scope s.heap.objs.size f cdv)).units + 64 < cLine; omega
  · obtain ⟨fa, fd, ps, h1, h2, h3, h4⟩ := hf f hf'
    exact ⟨k, fa, fd, ps, h1, hr, h2, h3, h4⟩
  · obtain ⟨B, ni, ii, bm, h1, h2, h3, h4, h5, h6⟩ := md.cls c hc
    exact ⟨B, ni, ii, bm, h1, h2, h3, h4, raises_own h5 h6⟩

/-- THE RULE -/
theorem fn_sound {k : Nat} {gs : List Gc} {cs : List Cls} {fs : List Fn} {N ps : List Str} {f : Fn} {st : Stmt} {fa : Addr} {fd : FuncData} {body : List S} {sem : M.Sem} (md : MdOk n d gs cs) (hf : ∀ g ∈ fs, FOk n G d k g) (F : L2.Fun d.K (fnName f) (fnName f) st fa fd) (hb : Binds d.K fd ps []) (S : FnScope N ps (defScope st)) (hm : d.mg (fnName f) = some (.ref fa))
    (ha : ps.length = arity f) (hc : chkSs ⟨defScope st, defScope st, N, fs, gs, cs, false⟩ body (defBody st) = true) (mir : if byRef f then Mir1 G N.length (arity f) body sem else Mir0 G N.length (arity f) body sem) : FOkS n sem d (k + 1) f := by
  refine ⟨fa, fd, ps, ?_, hm, F.kp, hb⟩
  have hpl : ps.length ≤ N.length := by have := congrArg List.length S.pre; rw [List.length_take] at this; omega
  obtain ⟨oc, od, kV, doc, pm, an, cdv, ct, osl, rfl, lk, hcd⟩ := F.ex
  cases hbr : byRef f with
  | false =>
    rw [hbr, if_neg Bool.false_ne_true] at mir
    rw [if_neg Bool.false_ne_true]
    refine fn_of lk hcd S (fun vs H Q E h => by rw [h.1, ha]) fun A outer s H vs Q E hr hsp => ?_
    obtain ⟨hl, F0, ds, b, r, q⟩ := hsp
    have hds : ds.length = arity f := by rw [← RpAll.length r]; exact hl
    have S0 := Sok.enter0 (N := N) b r (by omega)
    have ok := cx_ok (fs := fs) (N := N) (qual := fnName f) (f := fa) (cdv := cdv) (outer := outer) (s := s) (H := H) (E := E) md hf S.kind S.nd hr
    have mir := mir ds hds
    split at q
    · rename_i dr e
      rw [e] at mir
      obtain ⟨fuel, mir⟩ := mir
      refine ⟨_, snd_Ss (fuel := fuel) body ok hc, _, F0, _, rfl, rfl, S0, ?_⟩
      rcases mir with ⟨env, e1⟩ | ⟨rfl, env, e1⟩
      · rw [e1]
        exact fun v σ' F' H' S' sm rp => q v F' H' (S'.leave sm) rp
      · rw [e1]
        exact fun σ' F' H' S' sm => q .non F' H' (S'.leave sm) .non
    · rename_i c e
      rw [e] at mir
      obtain ⟨fuel, env, mir⟩ := mir
      refine ⟨_, snd_Ss (fuel := fuel) body ok hc, _, F0, _, rfl, rfl, S0, ?_⟩
      rw [mir]
      exact fun σ' F' H' S' sm => q F' H' (S'.leave sm)
    · exact False.elim q
  | true =>
    rw [hbr, if_pos rfl] at mir
    rw [if_pos rfl]
    refine fn_of lk hcd S (fun vs H Q E h => by rw [h.1, ha]) fun A outer s H vs Q E hr hsp => ?_
    obtain ⟨hl, F0, a, xs, us, ds, rfl, b, le, r, q⟩ := hsp
    rw [List.length_cons] at hl
    have hds : ds.length + 1 = arity f := by rw [← RpAll.length r]; exact hl
    have S0 := Sok.enter1 (N := N) b le r (by omega)
    have ok := cx_ok (fs := fs) (N := N) (qual := fnName f) (f := fa) (cdv := cdv) (outer := outer) (s := s) (H := H) (E := E) md hf S.kind S.nd hr
    have mir := mir xs ds hds
    split at q
    · rename_i dr ys e
      rw [e] at mir
      obtain ⟨fuel, env, mir, e0⟩ := mir
      refine ⟨_, snd_Ss (fuel := fuel) body ok hc, _, F0, _, rfl, rfl, S0, ?_⟩
      rw [mir]
      intro v σ' F' H' S' sm rp
      obtain ⟨a', ws, s1, f1, h1, r1⟩ := S'.slot 0 _ e0
      have z := S'.lent 0 _ a' e0 s1
      cases (Option.some.inj z : a = a')
      exact q v F' H' (S'.leave sm) ⟨f1, ws, h1, r1⟩ rp
    · exact False.elim q
end
end M
/-! A list of new lists. -/
namespace M
open PySem PySem.Spec PyProof.Rows L2
/-- lists that nobody else holds -/
structure News (c : Ct) (F H : Hp) (σ : L2.St) (env : M.Env) (L : Addr) (as : List Addr) (xs : List (List M.D)) : Prop where
  len : as.length = xs.length
  nd : as.Nodup
  out : L ∉ as
  at_ : ∀ (j : Nat) (a : Addr) (l : List M.D), as[j]? = some a → xs[j]? = some l → F a = none ∧ c.H0 a = none ∧ a ∉ owns σ env ∧ ∃ vs, H a = some (.lst vs) ∧ RpAll c.K F vs l
section
variable {n : Cn} {W : WX}
theorem compO_reads {t : Tg} {rit : M.Env → R (List M.D)} {re : M.Env → R TV} {σ : L2.St} {H : Hp} {Q : VK} {c : Ct} {F : Hp} {env env1 env2 : M.Env} {items : List M.D} {lists : List (List M.D)} (hre : ImmR re) (hK : c.K = n.K) (hT : c.T = n.T) (S : Sok c F H σ env) (hit : rit env = some (.ok items env1))
    (ec : compL (stepC t (fun env => some (.ok true env)) re) items env1 = some (.ok (lists.map .list) env2))
    (hQ : ∀ (F' H' : Hp) (L : Addr) (as : List Addr), Sok c F' H' σ (M.back env1 env2 t.slots) → Same F F' → H' L = some (.lst (as.map .ref)) → F' L = none → c.H0 L = none → L ∉ owns σ (M.back env1 env2 t.slots) → News c F' H' σ (M.back env1 env2 t.slots) L as lists → Q (.ref L) H') :
    tLc (tIt n W rit) (gA n t) tYes (tF n WF re) t.slots σ H Q := by
  refine ⟨c, F, env, hK, hT, S, ?_⟩
  rw [hit]
  rintro J F1 H1 S1 sm1 ⟨hsz, wk⟩ L hL
  have h0L : c.H0 L = none := S1.fresh0 hL
  have fL : F1 L = none := S1.sub.free hL
  refine lc_it wk (fun i H => ∃ Fi envi as done rest, Sok c Fi H σ (wipeE envi t.slots) ∧ Same F1 Fi ∧ H L = some (.lst (as.map .ref)) ∧ Fi L = none ∧ L ∉ owns σ (wipeE envi t.slots) ∧ News c Fi H σ (wipeE envi t.slots) L as done ∧ as.length ≤ i ∧ compL (stepC t (fun env => some (.ok true env)) re) (items.drop i) envi = some (.ok (rest.map .list) env2) ∧ done ++ rest = lists) ?_ ?_ ?_ ?_
  · refine ⟨F1, env1, [], [], lists, ((S1.newU hL (SzOk.lst' S1.sz (Nat.zero_le _))).wipedE t.slots), Same.refl _, upd_same, fL, fun z => ?_, ⟨rfl, by simp, by simp, fun j a l z => by simp at z⟩, Nat.le_refl _, ec, rfl⟩
    obtain ⟨j, k, ys, h1, h2⟩ := mem_owns.mp z
    exact S1.own_ne (wipeE_get h1).1 h2 hL rfl
  · rintro i H _ ⟨Fi, envi, as, done, rest, Si, smi, _⟩
    exact smi.trans Si.sub
  · rintro i x H H' hi ⟨Fi, envi, as, done, rest, Si, smi, hLa, fLi, nL, nw, la, ec, ex⟩ ⟨d, hd, yd⟩
    obtain ⟨F', S', sm', rp, hL', fL', kp⟩ : ∃ F', Sok c F' H' σ (wipeE envi t.slots) ∧ Same Fi F' ∧ Rp c.K F' x d ∧ H' L = some (.lst (as.map .ref)) ∧ F' L = none ∧ ∀ (a : Addr) (vs : List V), H a = some (.lst vs) → H' a = some (.lst vs) ∧ (Fi a = none → F' a = none) := by
      rcases yd with ⟨rfl, rp⟩ | ⟨T, ws, ds, rfl, hT', rfl, rfl, rw', hw⟩
      · exact ⟨Fi, Si, Same.refl _, Rp.mono smi rp, hLa, fLi, fun a vs z => ⟨z, id⟩⟩
      · have fT := Si.sub.free hT'
        have ne : L ≠ T := ne_of_none hLa hT'
        exact ⟨upd Fi T (.tup ws), Si.new hT' (fun ps z => by cases z) (SzOk.tup' Si.sz hw), same_upd fT, .tup (SqT.of upd_same) (RpAll.mono (smi.trans (same_upd fT)) rw'), by rw [upd_ne ne]; exact hLa, by rw [upd_ne ne]; exact fLi, fun a vs z => ⟨by rw [upd_ne (ne_of_none z hT')]; exact z, fun w => by rw [upd_ne (ne_of_none z hT')]; exact w⟩⟩
    have Sw : Sok c F' H' (wipe σ t.slots) (wipeE envi t.slots) := S'.slots (by rw [wipe_length]; exact S'.len) fun j s e => ⟨e, wipe_out (wipeE_get e).2⟩
    have nw' : ∀ a, a ∉ owns σ (wipeE envi t.slots) → a ∉ owns (wipe σ t.slots) (wipeE envi t.slots) := fun a na z => by
      obtain ⟨j, k, ys, h1, h2⟩ := mem_owns.mp z
      rw [wipe_out (wipeE_get h1).2] at h2
      exact na (mem_owns.mpr ⟨j, k, ys, h1, h2⟩)
    have nLw := nw' L nL
    have Sn := Sw.now
    have edrop : items.drop i = d :: items.drop (i + 1) := by
      rw [List.drop_eq_getElem_cons hi]
      congr 1
      have := List.getElem?_eq_getElem hi
      rw [this] at hd
      exact Option.some.inj hd
    rw [edrop] at ec
    obtain ⟨o, e1, es, ec⟩ := bnd_inv (show bnd (stepC t (fun env => some (.ok true env)) re d envi) _ = _ from ec)
    obtain ⟨r', e2, er, ec⟩ := bnd_inv ec
    cases ea : asg t d (wipeE envi t.slots) with
    | none => unfold stepC at es; rw [ea] at es; cases es
    | some enva =>
      unfold stepC at es
      rw [ea] at es
      dsimp only at es
      rw [bnd_ok, if_pos rfl] at es
      obtain ⟨xv, e4, ev, es⟩ := bnd_inv es
      cases es
      obtain ⟨tv, e5, ev1, ev2⟩ := bnd_inv (show bnd (re enva) _ = _ from ev)
      obtain ⟨dv, rfl⟩ := hre _ _ _ ev1
      cases ev2
      -- this turn's list
      cases rest with
      | nil => cases ec
      | cons l rest =>
        have ec := Option.some.inj ec
        obtain ⟨ec1, ec2⟩ := Out.ok.inj ec
        obtain ⟨rfl, ec3⟩ := List.cons.inj ec1
        clear ec1
        subst ec3 ec2
        refine ⟨c.now F' H' (wipe σ t.slots) (wipeE envi t.slots), F', _, d, enva, hK, hT, Sn, rp, ea, fun σ2 S2 l2 k2 => ⟨?_, ?_⟩⟩
        · refine wipe_eq (l2.trans (wipe_length σ t.slots)) fun j hj => ?_
          rw [k2 j hj, wipe_out hj]
        · unfold tYes
          dsimp only
          rw [if_pos rfl]
          refine ⟨c.now F' H' (wipe σ t.slots) (wipeE envi t.slots), F', enva, hK, hT, S2, ?_⟩
          rw [ev1]
          rintro y F4 H4 S4 sm4 ⟨p, vs, rfl, fp, hp, ra, h0p, hop⟩
          have h0p : H' p = none := h0p
          have kk : ∀ j, j ∉ t.slots → σ[j]? = σ2[j]? := fun j hj => by rw [k2 j hj, wipe_out hj]
          have S5 := Sw.back S4
          have S6 : Sok c F4 H4 σ (wipeE e1 t.slots) := S5.slots (by rw [wipeE_len]; have := S5.len; rw [l2, wipe_length] at this; exact this) (fun j s e => ⟨(wipeE_get e).1, kk j (wipeE_get e).2⟩)
          have keep : ∀ (a : Addr) (us : List V), H' a = some (.lst us) → F' a = none → a ∉ owns σ (wipeE envi t.slots) → H4 a = some (.lst us) ∧ F4 a = none ∧ a ∉ owns σ (wipeE e1 t.slots) := fun a us ha fa na => by
            have na' := nw' a na
            refine ⟨S4.old a _ ha na' (fun ps z => by cases z), (S4.froz a (show H' a ≠ none by rw [ha]; simp) na').trans fa, fun z => ?_⟩
            obtain ⟨j, k, ys, g1, g2⟩ := mem_owns.mp z
            obtain ⟨g3, g4⟩ := wipeE_get g1
            rcases S4.mine j k ys a g3 (by rw [← kk j g4]; exact g2) with m | m
            · exact na' m
            · have m : H' a = none := m
              rw [ha] at m; cases m
          obtain ⟨h1, h2, h3⟩ := keep L _ hL' fL' nL
          have lt : (as.map V.ref).length < sizeLine := by rw [List.length_map]; omega
          have up : Same Fi F4 := sm'.trans sm4
          have neL : p ≠ L := fun z => by rw [z, hL'] at h0p; cases h0p
          have inA : ∀ a ∈ as, ∃ us l, H a = some (.lst us) ∧ Fi a = none ∧ c.H0 a = none ∧ a ∉ owns σ (wipeE envi t.slots) ∧ RpAll c.K Fi us l := fun a ha => by
            obtain ⟨j, hj⟩ := List.getElem?_of_mem ha
            have hj' : j < done.length := by rw [← nw.len]; exact (List.getElem?_eq_some_iff.mp hj).1
            obtain ⟨w1, w2, w3, us, w4, w5⟩ := nw.at_ j a _ hj (List.getElem?_eq_getElem hj')
            exact ⟨us, _, w4, w1, w2, w3, w5⟩
          have pA : p ∉ as := fun z => by
            obtain ⟨us, _, w, _⟩ := inA p z
            rw [(kp p us w).1] at h0p; cases h0p
          refine ⟨_, h1, lt, F4, e1, as ++ [p], done ++ [l], rest, S6.grow h2 h1 h0L h3 (by rw [List.length_append]; exact lt), smi.trans up, by rw [upd_same, List.map_append]; rfl, h2, h3, ⟨by rw [List.length_append, List.length_append, nw.len]; rfl, ?_, ?_, fun j a l' g1 g2 => ?_⟩, by rw [List.length_append, List.length_singleton]; omega, er, by rw [List.append_assoc]; exact ex⟩
          · rw [List.nodup_append]
            exact ⟨nw.nd, by simp, fun a ha b hb => by rw [List.mem_singleton.mp hb]; exact fun z => pA (z ▸ ha)⟩
          · rw [List.mem_append, List.mem_singleton]
            rintro (z | z)
            · exact nw.out z
            · exact neL z.symm
          · by_cases hj : j < as.length
            · rw [List.getElem?_append_left hj] at g1
              rw [List.getElem?_append_left (by rw [← nw.len]; exact hj)] at g2
              obtain ⟨w1, w2, w3, us, w4, w5⟩ := nw.at_ j a l' g1 g2
              obtain ⟨v1, v2⟩ := kp a us w4
              obtain ⟨u1, u2, u3⟩ := keep a us v1 (v2 w1) w3
              have neA : a ≠ L := fun z => nw.out (z ▸ List.mem_of_getElem? g1)
              exact ⟨u2, w2, u3, us, by rw [upd_ne neA]; exact u1, RpAll.mono up w5⟩
            · have hja : j = as.length := by
                have := (List.getElem?_eq_some_iff.mp g1).1
                rw [List.length_append, List.length_singleton] at this
                omega
              subst hja
              rw [List.getElem?_append_right (Nat.le_refl _), Nat.sub_self] at g1
              rw [nw.len, List.getElem?_append_right (Nat.le_refl _), Nat.sub_self] at g2
              cases g1
              cases g2
              refine ⟨fp, S'.fresh0 h0p, fun z => ?_, vs, by rw [upd_ne neL]; exact hp, ra⟩
              obtain ⟨j, k, ys, g1, g2⟩ := mem_owns.mp z
              obtain ⟨g3, g4⟩ := wipeE_get g1
              exact hop j k ys g3 (by rw [← kk j g4]; exact g2)
  · rintro H ⟨Fi, envi, as, done, rest, Si, smi, hLa, fLi, nL, nw, la, ec, ex⟩
    rw [List.drop_length] at ec
    obtain ⟨er, ee⟩ := Out.ok.inj (Option.some.inj ec)
    have hr : rest = [] := by cases rest with | nil => rfl | cons a b => cases er
    subst hr ee
    rw [List.append_nil] at ex
    subst ex
    have no : ∀ a, a ∉ owns σ (wipeE envi t.slots) → a ∉ owns σ (M.back env1 envi t.slots) := fun a na z => by
      obtain ⟨j, k, ys, g1, g2⟩ := mem_owns.mp z
      rcases back_get g1 with ⟨h1, h2⟩ | ⟨_, h1, _⟩
      · exact na (mem_owns.mpr ⟨j, k, ys, by rw [wipeE_out h1]; exact h2, g2⟩)
      · cases h1
    exact hQ Fi H L as (Si.restored S1 smi) (sm1.trans smi) hLa fLi h0L (no L nL) ⟨nw.len, nw.nd, nw.out, fun j a l g1 g2 => let ⟨w1, w2, w3, w4⟩ := nw.at_ j a l g1 g2; ⟨w1, w2, no a w3, w4⟩⟩
end
end M
/-! The loop over a list of new lists. -/
namespace M
open PySem PySem.Spec PyProof.Rows L2
/-- the rounds that are still to come -/
structure Rest (n : Cn) (H : Hp) (F : Hp) (L : Addr) (as : List Addr) (xs : List (List M.D)) (i : Nat) : Prop where
  beg : CallBeg n F H
  lst : H L = some (.lst (as.map .ref))
  frL : F L = none
  at_ : ∀ (j : Nat) (a : Addr) (l : List M.D), i ≤ j → as[j]? = some a → xs[j]? = some l → Lent n.K F H a l
def envD (N k : Nat) (l : List M.D) : M.Env := (List.replicate N none).set k (some (.own false l))
section
variable {n : Cn} {W : WX} {E : Ends}
theorem envD_get {N k i : Nat} {l : List M.D} {s : Slot} (h : (envD N k l)[i]? = some (some s)) : i = k ∧ s = .own false l := by
  unfold envD at h
  rcases get_set h with ⟨e, q, _⟩ | ⟨_, q⟩
  · cases q; exact ⟨e, rfl⟩
  · rw [List.getElem?_replicate] at q
    split at q <;> cases q
theorem Sok.round {F H : Hp} {σ : L2.St} {a : Addr} {l : List M.D} {N k : Nat} (b : CallBeg n F H) (h : Lent n.K F H a l) (hN : N ≤ σ.length) (hk : σ[k]? = some (some (.ref a))) : Sok ⟨n.K, n.T, H, F, [a], []⟩ F H σ (envD N k l) := by
  obtain ⟨fa, vs, ha, ra⟩ := h
  refine ⟨b.sub, fun _ _ e _ _ => e, fun _ e => e, fun _ _ _ => rfl, b.nt, b.tabs, b.sz, ?_, fun i s e => ?_, fun i j _ _ xs ys c e1 e2 _ _ => ?_, fun i q xs c e s => ?_, fun i xs c e s => ?_⟩
  · unfold envD; rw [List.length_set, List.length_replicate]; exact hN
  · obtain ⟨rfl, rfl⟩ := envD_get e
    exact ⟨a, vs, hk, fa, ha, ra⟩
  · rw [(envD_get e1).1, (envD_get e2).1]
  · obtain ⟨rfl, _⟩ := envD_get e
    rw [hk] at s
    cases s
    exact .inl (by simp)
  · obtain ⟨_, z⟩ := envD_get e; cases z
theorem loop_reads {K : Frag} {L : Addr} {as : List Addr} {xs : List (List M.D)} {N k : Nat} {rb : M.Env → Option SO} {σ : L2.St} {H F : Hp} (hlen : as.length = xs.length) (hnd : as.Nodup) (hout : L ∉ as) (hk : k < N) (hN : N ≤ σ.length) (h0 : Rest n H F L as xs 0)
    (hb : ∀ l ∈ xs, ∃ env, rb (envD N k l) = some (.next env) ∧ env.length = N) (hE : ∀ σ' H' F', CallBeg n F' H' → E.nx σ' H') :
    ∃ W' : Nat → Nat → L2.St → Hp → Prop, (∃ m, W' 0 m σ H) ∧ ∀ i m σ H, W' i m σ H →
      ((Itl K L).stop i H ∧ E.nx σ H) ∨ ((Itl K L).go i H ∧ ∃ Nx : L2.St → Hp → Prop, (∀ σ' H', Nx σ' H' → ∃ m', m' < m ∧ W' (i + 1) m' σ' H') ∧ ∀ x H', (Itl K L).yld i H x H' → gName k x σ H' fun σ2 H2 => tS n W rb { E with nx := Nx, ct := Nx, bk := E.nx } σ2 H2) := by
  refine for_list (K := K) (a := L) (xs := as.map V.ref) (fun i σ H => N ≤ σ.length ∧ ∃ F, Rest n H F L as xs i) ⟨hN, F, h0⟩ (fun i σ H _ ⟨_, F, r⟩ => SqL.of r.lst) ?_ ?_
  · rintro i x σ H hx ⟨hN, F, r⟩
    rw [List.getElem?_map] at hx
    obtain ⟨a, ha, rfl⟩ := Option.map_eq_some_iff.mp hx
    have hi := (List.getElem?_eq_some_iff.mp ha).1
    have hl : xs[i]? = some (xs[i]'(by omega)) := List.getElem?_eq_getElem _
    generalize xs[i]'(by omega) = l at hl
    obtain ⟨env, e1, e2⟩ := hb l (List.mem_of_getElem? hl)
    have S := Sok.round (n := n) (σ := σ.set k (some (.ref a))) (N := N) (k := k) r.beg (r.at_ i a l (Nat.le_refl _) ha hl) (by rw [List.length_set]; exact hN) (List.getElem?_set_self (by omega))
    refine ⟨_, F, _, rfl, rfl, S, ?_⟩
    rw [e1]
    intro σ' F' H' S' sm
    have aL : L ∉ [a] := fun z => hout (by rw [List.mem_singleton.mp z]; exact List.mem_of_getElem? ha)
    refine ⟨by rw [← e2]; exact S'.len, F', ⟨⟨S'.sub, S'.nt, S'.tabs, S'.sz⟩, S'.old L _ r.lst aL (fun ps z => by cases z), (S'.froz L (by show H L ≠ none; rw [r.lst]; simp) aL).trans r.frL, fun j b m hj hb' hm => ?_⟩⟩
    obtain ⟨f1, vs, h1, r1⟩ := r.at_ j b m (by omega) hb' hm
    have nb : b ∉ [a] := fun z => by
      have e := List.mem_singleton.mp z
      subst e
      have := nd_ix hnd ha hb'
      omega
    exact ⟨(S'.froz b (by show H b ≠ none; rw [h1]; simp) nb).trans f1, vs, S'.old b _ h1 nb (fun ps z => by cases z), RpAll.mono sm r1⟩
  · rintro σ H ⟨_, F, r⟩
    exact hE σ H F r.beg
end
end M
/-! A def that gives a list of new lists. -/
namespace M
open PySem PySem.Spec PyProof.Rows L2
def spN (n : Cn) (np : Nat) (s : List M.D → Option (List (List M.D))) : Sp := fun vs H Q E => vs.length = np ∧ ∃ (F : Hp) (ds : List M.D), CallBeg n F H ∧ RpAll n.K F vs ds ∧
  match s ds with
  | some lists => ∀ (F' H' : Hp) (L : Addr) (as : List Addr), CallEnd n F H [] F' H' → H' L = some (.lst (as.map .ref)) → F' L = none → as.length = lists.length → as.Nodup → L ∉ as → (∀ (j : Nat) (a : Addr) (l : List M.D), as[j]? = some a → lists[j]? = some l → Lent n.K F' H' a l) → Q (.ref L) H'
  | none => False
def chkNews (cc : CC) (it : It) (t : Tg) (e : E) (b : List Stmt) : Bool := match b with
  | [.Return (some (.ListComp elt [⟨tg, iter, [], k⟩] scope _)) _] => decide (k = 0) && plainE iter && blkC cc.N cc.sc scope (cc.ownOf t) && chkIt cc it tg iter && chkTg (cc.blk scope) t tg && chkE (cc.blk scope) e elt
  | _ => false
section
variable {n : Cn} {G : Gam} {d : Md}
theorem fn_news {k np : Nat} {gs : List Gc} {cs : List Cls} {fs : List Fn} {N ps : List Str} {x : Str} {st : Stmt} {fa : Addr} {fd : FuncData} {it : It} {t : Tg} {e : E} {s : List M.D → Option (List (List M.D))} (md : MdOk n d gs cs) (hf : ∀ g ∈ fs, FOk n G d k g) (F : L2.Fun d.K x x st fa fd) (S : FnScope N ps (defScope st))
    (ha : ps.length = np) (he : fresh e = true) (hc : chkNews ⟨defScope st, defScope st, N, fs, gs, cs, false⟩ it t e (defBody st) = true)
    (hm : ∀ ds : List M.D, ds.length = np → match s ds with
      | some lists => ∃ items env1 env2, evIt G it (env0 N.length (ds.map .val)) = some (.ok items env1) ∧ compL (stepC t (fun env => some (.ok true env)) (ev G e)) items env1 = some (.ok (lists.map .list) env2)
      | none => True) : FnOk d.P d.w d.K d.mg d.base (L2N.CX d.P d.w) (k + 1) fa fd ps (spN n np s) := by
  have hpl : ps.length ≤ N.length := by have := congrArg List.length S.pre; rw [List.length_take] at this; omega
  obtain ⟨oc, od, kV, doc, pm, an, cdv, ct, osl, rfl, lk, hcd⟩ := F.ex
  refine fn_of lk hcd S (fun vs H Q E h => by rw [h.1, ha]) fun A outer sh H vs Q E hr hsp => ?_
  obtain ⟨hl, F0, ds, b, r, q⟩ := hsp
  have hds : ds.length = np := by rw [← RpAll.length r]; exact hl
  have S0 := Sok.enter0 (N := N) b r (by omega)
  have ok := cx_ok (fs := fs) (N := N) (qual := x) (f := fa) (cdv := cdv) (outer := outer) (s := sh) (H := H) (E := E) md hf S.kind S.nd hr
  have hm := hm ds hds
  unfold chkNews at hc
  split at hc
  · rename_i body elt tg iter kk scope p1 p2 hbody
    simp only [Bool.and_eq_true, decide_eq_true_eq] at hc
    obtain ⟨⟨⟨⟨⟨rfl, h1⟩, h2⟩, h3⟩, h4⟩, h5⟩ := hc
    have bo := blkOk_by h2
    have pe := pe_lc (elt := elt) (tg := tg) (iter := iter) (ifs := []) (scope := scope) (pos := p1) ok.calm ok.toOk.ndX (snd_It it ok.toOk h3) bo (fun s H C cl fp => chkTg_ok (ok.toOk.blk bo.kind s H C cl fp) t h4) (fun s H C cl fp => pts_nil) (fun s H C cl fp => (snd_E e (ok.toOk.blk bo.kind s H C cl fp) h5).new he) (nofold h1 _)
    split at q
    · rename_i lists e0
      rw [e0] at hm
      obtain ⟨items, env1, env2, m1, m2⟩ := hm
      refine ⟨_, by rw [hbody]; exact pss_one (ps_ret pe), ?_⟩
      have hv : (CC.ownOf ⟨defScope st, defScope st, N, fs, gs, cs, false⟩ t).map (·.2) = t.slots := by unfold CC.ownOf; rw [List.map_map]; exact List.map_id _
      show tLc _ _ _ _ ((CC.ownOf ⟨defScope st, defScope st, N, fs, gs, cs, false⟩ t).map (·.2)) _ _ _
      rw [hv]
      refine compO_reads (c := ⟨n.K, n.T, H, F0, [], []⟩) (fresh_imm he) rfl rfl S0 m1 m2 fun F' H' L as S' sm hL fL _ _ nw => ?_
      exact q F' H' L as (S'.leave sm) hL fL nw.len nw.nd nw.out fun j a l g1 g2 => let ⟨w1, _, _, vs, w4, w5⟩ := nw.at_ j a l g1 g2; ⟨w1, vs, w4, w5⟩
    · exact False.elim q
  · cases hc
end
end M
/-! The law: a loop over its rounds. -/
namespace M
open PySem PySem.Spec PyProof.Rows L2
/-- the law's promise -/
def spLaw (n : Cn) : Sp := fun vs H Q _ => ∃ (a : Addr) (ns : List Int), vs = [.ref a] ∧ ns.length ≤ 63 ∧ LamX.Tabs n.T H ∧ SqL n.K H a (ns.map V.int) ∧ ∀ H', Q (.bl true) H'
theorem sz_hok {P : Program} {w : World} {H : Hp} {h : Heap} (x : HOk P w H h) : SzOk H := fun a xs r => by
  rcases r with r | r
  · have z : ObjOk P w H h a (.lst xs) := r.ok x
    exact z.1
  · have z : ObjOk P w H h a (.tup xs) := r.ok x
    exact z.1
theorem fn_sz {P : Program} {w : World} {K : Frag} {mg : Str → Option Value} {base : Heap} {CX : CXT} {k : Nat} {f : Addr} {fd : FuncData} {ps : List Str} {sp : Sp} (len : ∀ vs H Q E, sp vs H Q E → vs.length = ps.length)
    (F : FnOk P w K mg base CX k f fd ps (fun vs H Q E => SzOk H ∧ sp vs H Q E)) : FnOk P w K mg base CX k f fd ps sp :=
  ⟨len, fun A outer s H args us vs Q E hr e0 hb hv hs => F.run A outer s H args us vs Q E hr e0 hb hv ⟨sz_hok e0.hok, hs⟩⟩
/-- what telling needs, as it stands in the module -/
def TellD (n : Cn) (G : Gam) (d : Md) (fs : List Fn) (k : Nat) (c P : Addr) : Prop := ∃ (a e x0 : Str) (g Me : Addr) (pg : Arguments) (bg : List Stmt) (sg : Scope) (kV doc pm cdv ct oc : Value) (an od : Option Addr) (osl : Array (Option Value)),
  d.K.lookup g = some ⟨oc, od, .func (PySem.W.fnOf "_law_told" "_law_told" pg bg sg .none kV doc pm an cdv ct), osl⟩ ∧ PySem.W.codeIn d.K cdv "_law_told" = true ∧ PySem.W.keepIn d.K (.ref g) = true ∧ d.mg "_law_told" = some (.ref g) ∧
  L2.Binds d.K (PySem.W.fnOf "_law_told" "_law_told" pg bg sg .none kV doc pm an cdv ct) [a] [] ∧ FnScope [a, e] [a] sg ∧ chkTold sg a e bg = true ∧ (a == ("__debug__" : Str)) = false ∧ (a == ("__classdict__" : Str)) = false ∧
  TermD n d.K d.mg x0 ∧ d.mg "MeasureError" = some (.ref Me) ∧ (∀ c, PySem.W.exmOne d.K (.ref (n.C c)) (.ref Me) = some true) ∧
  LamX.TabB d.base d.mg c P ∧ (P, ("law" : Str) ++ ".<locals>." ++ "<lambda>") ∈ n.T ∧ (∀ p ∈ n.T, p.1 = P → p.2 = ("law" : Str) ++ ".<locals>." ++ "<lambda>") ∧ ∀ f ∈ fs, FOk n G d k f
def chkLaw (cc : CC) (most : Int) (b : List S) (body : List Stmt) : Bool := match body with
  | [.For (.Name dice _) (.Call (.Name r _) [.Name s _, .Constant (.int m) _ _] [] _) lb [] _, .Return (some (.Constant (.bool true) _ _)) _] =>
    decide (r = "_law_rounds") && cc.gl r && cc.nm 0 s && decide (m = most) && cc.lo 1 dice && chkSs cc b lb
  | _ => false
section
variable {n : Cn} {G : Gam} {d : Md}
theorem cx_okT {k : Nat} {gs : List Gc} {cs : List Cls} {fs : List Fn} {N : List Str} {scope : Scope} {f : Addr} {cdv : Value} {A : Around} {outer : List PySem.Env} {s : Shared} {H : Hp} {E : XK} {told : Bool} (md : MdOk n d gs cs) (hf : ∀ f ∈ fs, FOk n G d k f) (hk : scope.kind = .function) (nd : N.Nodup)
    (tl : told = true → ∃ c P, cdv = .ref c ∧ TellD n G d fs k c P)
    (hr : Room (k + 2) (A.deeper (envOfC "law" scope s.heap.objs.size f cdv))) : OkS n G ⟨scope, scope, N, fs, gs, cs, told⟩ (cxOf (L2N.CX d.P d.w) d.P d.w d.K d.mg d.base N "law" scope f cdv A outer s H E) (fun cls d _ H => E cls d H) := by
  refine ⟨⟨md.K, rfl, nd, rfl, rfl, hk, ?_, L2N.takes_of rfl rfl rfl rfl, fun _ _ => rfl, md.blt, fun g hg => md.glob g hg, fun f hf' => ?_, fun c hc => ?_, fun z => ?_⟩, passes_of rfl⟩
  · have := hr.un; show (A.deeper (envOfC "law" scope s.heap.objs.size f cdv)).units + 64 < cLine; omega
  · obtain ⟨fa, fd, ps, h1, h2, h3, h4⟩ := hf f hf'
    exact ⟨k, fa, fd, ps, h1, hr.mono (by omega), h2, h3, h4⟩
  · obtain ⟨B, ni, ii, bm, h1, h2, h3, h4, h5, h6⟩ := md.cls c hc
    exact ⟨B, ni, ii, bm, h1, h2, h3, h4, raises_own h5 h6⟩
  · obtain ⟨c, P, e, a, e', x0, g, Me, pg, bg, sg, kV, doc, pm, cdv', ct, oc, an, od, osl, h1, h2, h3, h4, h5, h6, h7, h8, h9, h10, h11, h12, h13, h14, h15, h16⟩ := tl z
    exact ⟨k, a, e', x0, g, Me, c, P, pg, bg, sg, kV, doc, pm, cdv', ct, oc, an, od, osl, h1, h2, h3, h4, h5, h6, h7, h8, h9, h10, h11, h12, h13, e, h14, h15, hr, h16⟩
theorem law_sound {k kr : Nat} {gs : List Gc} {cs : List Cls} {fs : List Fn} {N : List Str} {x : Str} {st : Stmt} {fa fr : Addr} {fdr : FuncData} {psr : List Str} {b : List S} {most : Int} {told : Bool} {sR : List M.D → Option (List (List M.D))} (md : MdOk n d gs cs) (hf : ∀ g ∈ fs, FOk n G d k g)
    {oc : Value} {od : Option Addr} {kV doc pm : Value} {an : Option Addr} {cdv ct : Value} {osl : Array (Option Value)} (lk : d.K.lookup fa = some ⟨oc, od, .func (PySem.W.fnOf "law" "law" (defArgs st) (defBody st) (defScope st) .none kV doc pm an cdv ct), osl⟩) (hcd : PySem.W.codeIn d.K cdv "law" = true)
    (S : FnScope N [x] (defScope st)) (hN : 2 ≤ N.length) (tl : told = true → ∃ c P, cdv = .ref c ∧ TellD n G d fs k c P)
    (R : FnOk d.P d.w d.K d.mg d.base (L2N.CX d.P d.w) kr fr fdr psr (spN n 2 sR)) (hkr : kr ≤ k + 2) (hmr : d.mg "_law_rounds" = some (.ref fr)) (hkp : PySem.W.keepIn d.K (.ref fr) = true) (hbr : Binds d.K fdr psr [])
    (hc : chkLaw ⟨defScope st, defScope st, N, fs, gs, cs, told⟩ most b (defBody st) = true)
    (hm : ∀ ns : List Int, ns.length ≤ 63 → ∃ lists, sR [heldD ns, .int most] = some lists ∧ ∀ l ∈ lists, ∃ env, exs G 0 b (envD N.length 1 l) = some (.next env) ∧ env.length = N.length) :
    FnOk d.P d.w d.K d.mg d.base (L2N.CX d.P d.w) (k + 3) fa (PySem.W.fnOf "law" "law" (defArgs st) (defBody st) (defScope st) .none kV doc pm an cdv ct) [x] (spLaw n) := by
  refine fn_sz (fun vs H Q E h => by obtain ⟨a, ns, rfl, _⟩ := h; rfl) ?_
  refine fn_of lk hcd S (fun vs H Q E h => by obtain ⟨_, a, ns, rfl, _⟩ := h; rfl) fun A outer sh H vs Q E hr hsp => ?_
  obtain ⟨hsz, a, ns, rfl, hl, tb, sq, q⟩ := hsp
  have ok := cx_okT (fs := fs) (N := N) (f := fa) (outer := outer) (s := sh) (H := H) (E := E) (told := told) md hf S.kind S.nd tl hr
  unfold chkLaw at hc
  split at hc
  · rename_i body dice p1 r p2 sv p3 m k1 p4 p5 lb p6 k2 p7 p8 hbody
    simp only [Bool.and_eq_true, decide_eq_true_eq] at hc
    obtain ⟨⟨⟨⟨⟨rfl, h2⟩, h3⟩, rfl⟩, h5⟩, h6⟩ := hc
    obtain ⟨n1, n2, n3, n4⟩ := ok.toOk.nm h3
    obtain ⟨o1, o2, o3⟩ := ok.toOk.lo h5
    have nl := S.nd
    refine ⟨_, by
      rw [hbody]
      exact pss_cons (ps_for ok.own ok.calm (pi_list (pe_callS (E := WE (fun cls d _ H => E cls d H)) (R.mono hkr) hr (ok.toOk.gl h2) hmr hkp hbr (fun σ => L2N.passAt ok.tk σ) (pa_cons (pe_var n1 n2 n3 n4) (pa_cons pe_int pa_nil rfl) rfl) (by decide +kernel) rfl rfl)) (pg_name ok.toOk.ndX o1 o2 o3) (snd_Ss (fuel := 0) b ok h6) (fun _ => rfl)) (pss_one (ps_ret pe_bl)), ?_⟩
    obtain ⟨lists, e1, e2⟩ := hm ns hl
    -- what is lent: the script alone
    obtain ⟨F0, f1, f2, f3⟩ : ∃ F0 : Hp, Same F0 H ∧ (∀ b ps, F0 b ≠ some (.tbl ps)) ∧ SqL n.K F0 a (ns.map V.int) := by
      rcases sq with sq | sq
      · refine ⟨fun b => if b = a then H a else none, fun b o e => ?_, fun b ps e => ?_, .inl ?_⟩
        · by_cases hb : b = a
          · subst hb; have e : (if b = b then H b else none) = some o := e; rw [if_pos rfl] at e; exact e
          · have e : (if b = a then H a else none) = some o := e; rw [if_neg hb] at e; cases e
        · by_cases hb : b = a
          · subst hb
            have e : (if b = b then H b else none) = some (.tbl ps) := e
            rw [if_pos rfl] at e
            rcases sq with z | ⟨o, z⟩ <;> (rw [z] at e; cases e)
          · have e : (if b = a then H a else none) = some (.tbl ps) := e; rw [if_neg hb] at e; cases e
        · show Rd (fun b => if b = a then H a else none) a _
          rcases sq with z | ⟨o, z⟩
          · exact .inl (by show (if a = a then H a else none) = _; rw [if_pos rfl]; exact z)
          · exact .inr ⟨o, by show (if a = a then H a else none) = _; rw [if_pos rfl]; exact z⟩
      · exact ⟨(fun _ => none : Hp), (fun b o e => by cases (show (none : Option HO) = some o from e)), (fun b ps e => by cases (show (none : Option HO) = some (.tbl ps) from e)), .inr sq⟩
    refine ⟨.ref a, start_get rfl, rfl, F0, [heldD ns, .int m], ⟨f1, f2, tb, hsz⟩, .cons (.hel f3) (.cons (.int _) .nil), ?_⟩
    rw [e1]
    intro F' H' L as ce hL fL hlen hnd hout hat
    refine ⟨L, rfl, ⟨_, SqL.of hL⟩, ?_⟩
    have hK : (cxOf (L2N.CX d.P d.w) d.P d.w d.K d.mg d.base N "law" (defScope st) fa cdv A outer sh H E).K = n.K := md.K
    exact loop_reads (n := n) (N := N.length) (F := F') (rb := exs G 0 b) hlen hnd hout (by omega) (by rw [start_len (by rw [List.length_singleton]; omega)]; exact Nat.le_refl _) ⟨⟨ce.sub, ce.nt, ce.tabs, ce.sz⟩, hL, fL, fun j a' l _ g1 g2 => hat j a' l g1 g2⟩ e2 (fun σ' H' F' _ => q H')
  · cases hc
end
end M
/-! A row's facts by a test that the kernel runs. -/
namespace M
open PySem PySem.Spec PyProof.Rows L2
theorem look_zip : ∀ {ps : List Str} {us : List Value}, ps.Nodup → us.length = ps.length → (ps.filter fun n => ((ps.zip us).lookup n).isNone) = [] ∧ (ps.filterMap fun n => ((ps.zip us).lookup n).map (n, ·)) = ps.zip us := by
  have key : ∀ (ps : List Str) (us : List Value) (n : Str), us.length = ps.length → n ∈ ps → ((ps.zip us).lookup n).isSome = true := by
    intro ps
    induction ps with
    | nil => intro us n _ h; cases h
    | cons p ps ih =>
      intro us n hl h
      cases us with
      | nil => cases hl
      | cons u us =>
        rw [List.zip_cons_cons, List.lookup_cons]
        by_cases e : n = p
        · subst e; simp
        · have : (n == p) = false := by simpa using e
          rw [this]
          exact ih us n (by simpa using hl) ((List.mem_cons.mp h).resolve_left e)
  intro ps us nd hl
  refine ⟨List.filter_eq_nil_iff.mpr fun n hn => ?_, ?_⟩
  · have := key ps us n hl hn
    rw [Option.isNone_iff_eq_none]
    intro z
    rw [z] at this
    cases this
  · induction ps generalizing us with
    | nil => rfl
    | cons p ps ih =>
      cases us with
      | nil => cases hl
      | cons u us =>
        rw [List.nodup_cons] at nd
        rw [List.zip_cons_cons, List.filterMap_cons]
        have e0 : ((p, u) :: ps.zip us).lookup p = some u := by simp [List.lookup_cons]
        rw [e0]
        show (p, u) :: _ = _
        congr 1
        have := ih (us := us) nd.2 (by simpa using hl)
        refine Eq.trans ?_ this
        have fc : ∀ (l : List Str) (f g : Str → Option (Str × Value)), (∀ n ∈ l, f n = g n) → l.filterMap f = l.filterMap g := fun l f g hfg => by
          induction l with
          | nil => rfl
          | cons a l ih => rw [List.filterMap_cons, List.filterMap_cons, hfg a List.mem_cons_self, ih fun n hn => hfg n (List.mem_cons_of_mem _ hn)]
        refine fc _ _ _ fun n hn => ?_
        have : (n == p) = false := by
          have : n ≠ p := fun z => nd.1 (z ▸ hn)
          simpa using this
        rw [List.lookup_cons, this]
def argsB (a : Arguments) (ps : List Str) : Bool := match a with
  | ⟨[], args, none, [], [], none, []⟩ => decide (args.map (·.arg) = ps)
  | _ => false
theorem binds_plain {x q : Str} {params : Arguments} {body : List Stmt} {scope : Scope} {kV doc pm cdv ct : Value} {an : Option Addr} {ps : List Str} (ha : argsB params ps = true) (nd : ps.Nodup) : ∀ us : List Value, us.length = ps.length → bindArgs (PySem.W.fnOf x q params body scope .none kV doc pm an cdv ct) ⟨us, []⟩ = pure (ps.zip us) := by
  intro us hl
  unfold argsB at ha
  split at ha
  · rename_i args
    have e := of_decide_eq_true ha
    subst e
    have hz := look_zip nd hl
    obtain ⟨h1, h2⟩ := hz
    simp only [List.length_map] at hl
    unfold bindArgs
    have z1 : ¬ (us.length > (args.map (·.arg)).length) := by rw [List.length_map]; omega
    simp only [List.map_nil, List.nil_append, List.forIn_nil, pure_bind, List.append_nil, h2]
    have s0 : seqItems? Value.none = pure none := rfl
    simp only [s0, pure_bind, Option.getD_none, List.length_nil, Nat.zero_sub, List.drop_nil, Nat.sub_zero, List.take_length, h1]
    have z2 : decide (us.length > (args.map (·.arg)).length) = false := decide_eq_false z1
    simp only [z2]
    rw [List.filterMap_map] at h2
    simp [h2]
  · cases ha
end M
/-! A row's facts by a test that the kernel runs. -/
namespace M
open PySem PySem.Spec PyProof.Rows L2
/-- a def as it stands -/
def defB (K : Frag) (x : Str) (ps : List Str) (chk : Scope → List Stmt → Value → Bool) : Bool := match PySem.W.nsIn K mainGlobals x with
  | some (some (.ref f)) => (match K.lookup f with
    | some ⟨_, _, .func ⟨nm, q, params, .stmts body, scope, g, [], .none, _, _, _, _, cdv, _, b⟩, _⟩ => decide (nm = x) && decide (q = x) && decide (g = mainGlobals) && decide (b = builtinsNs) && argsB params ps && decide ps.Nodup && PySem.W.codeIn K cdv x && PySem.W.keepIn K (.ref f) && chk scope body cdv
    | _ => false)
  | _ => false
def stOf (x : Str) (params : Arguments) (body : List Stmt) (scope : Scope) : Stmt := .FunctionDef x params body [] none [] scope none x ⟨0, 0, 0, 0⟩
theorem defB_ok {K : Frag} {h : Heap} {mg : Str → Option Value} {x : Str} {ps : List Str} {chk : Scope → List Stmt → Value → Bool} (KX : K.In h) (Gn : h.Ns mainGlobals mg) (e : defB K x ps chk = true) :
    ∃ (f : Addr) (oc : Value) (od : Option Addr) (params : Arguments) (body : List Stmt) (scope : Scope) (kV doc pm : Value) (an : Option Addr) (cdv ct : Value) (osl : Array (Option Value)),
      K.lookup f = some ⟨oc, od, .func (PySem.W.fnOf x x params body scope .none kV doc pm an cdv ct), osl⟩ ∧ PySem.W.codeIn K cdv x = true ∧ PySem.W.keepIn K (.ref f) = true ∧ mg x = some (.ref f) ∧ (∀ us : List Value, us.length = ps.length → bindArgs (PySem.W.fnOf x x params body scope .none kV doc pm an cdv ct) ⟨us, []⟩ = pure (ps.zip us)) ∧ chk scope body cdv = true := by
  unfold defB at e
  split at e
  · rename_i f h1
    split at e
    · rename_i oc od nm q params body scope g kV doc pm an cdv ct b osl h2
      simp only [Bool.and_eq_true, decide_eq_true_eq] at e
      obtain ⟨⟨⟨⟨⟨⟨⟨⟨rfl, rfl⟩, rfl⟩, rfl⟩, e5⟩, e6⟩, e7⟩, e8⟩, e9⟩ := e
      exact ⟨f, oc, od, params, body, scope, kV, doc, pm, an, cdv, ct, osl, h2, e7, e8, PySem.W.mg_of KX Gn h1, binds_plain e5 e6, e9⟩
    · cases e
  · cases e
def defC (K : Frag) (f : Fn) (N ps : List Str) (fs : List Fn) (gs : List Gc) (cs : List Cls) (b : List S) : Bool := decide (ps.length = arity f) && defB K (fnName f) ps fun scope body _ => C8.scC N ps scope && chkSs ⟨scope, scope, N, fs, gs, cs, false⟩ b body
section
variable {n : Cn} {G : Gam} {d : Md} {h : Heap}
theorem def_ok {k : Nat} {f : Fn} {N ps : List Str} {fs : List Fn} {gs : List Gc} {cs : List Cls} {b : List S} {sem : M.Sem} (KX : d.K.In h) (Gn : h.Ns mainGlobals d.mg) (md : MdOk n d gs cs) (e : defC d.K f N ps fs gs cs b = true) (hf : ∀ g ∈ fs, FOk n G d k g)
    (mir : if byRef f then Mir1 G N.length (arity f) b sem else Mir0 G N.length (arity f) b sem) : FOkS n sem d (k + 1) f := by
  unfold defC at e
  rw [Bool.and_eq_true, decide_eq_true_eq] at e
  obtain ⟨ha, e⟩ := e
  obtain ⟨fa, oc, od, params, body, scope, kV, doc, pm, an, cdv, ct, osl, h1, h2, h3, h4, h5, h6⟩ := defB_ok KX Gn e
  rw [Bool.and_eq_true] at h6
  exact fn_sound (st := stOf (fnName f) params body scope) (fd := PySem.W.fnOf (fnName f) (fnName f) params body scope .none kV doc pm an cdv ct) md hf ⟨⟨oc, od, kV, doc, pm, an, cdv, ct, osl, rfl, h1, h2⟩, h3⟩ (.all h5) (C8.fnScope_by h6.1) h4 ha h6.2 mir
theorem FOkS.mono {s : M.Sem} {j k : Nat} {f : Fn} (F : FOkS n s d j f) (hjk : j ≤ k) : FOkS n s d k f := by
  obtain ⟨fa, fd, ps, h1, h2⟩ := F
  exact ⟨fa, fd, ps, h1.mono hjk, h2⟩
/-- the rounds -/
def roundsB (K : Frag) (N : List Str) (fs : List Fn) : Bool := defB K "_law_rounds" ["script", "most"] fun scope body _ => C8.scC N ["script", "most"] scope &&
  chkNews ⟨scope, scope, N, fs, [], [], false⟩ (.range1 (.bi .max2 (.cons (.int 1) (.cons (.bi .min2 (.cons (.var 1) (.cons (.bi .len (.cons (.var 0) .nil)) .nil))) .nil)))) (.name 2) (.lst (.cons (.call .l_cell [] (.cons (.var 0) (.cons (.var 2) .nil))) (.cons (.int 0) .nil))) body
/-! ### the module -/
def glB (K : Frag) : Gc → Bool
  | .powers => (match PySem.W.nsIn K mainGlobals "POWERS" with
    | some (some (.ref a)) => (match K.lookup a with
      | some ⟨.type t, _, .seq its _, _⟩ => decide (t = "tuple") && (match its.toList with
        | [.int i1 _, .int i2 _, .int i3 _, .int i4 _, .int i5 _, .int i6 _, .int i7 _] => decide (i1 = 1) && decide (i2 = 2) && decide (i3 = 4) && decide (i4 = 8) && decide (i5 = 16) && decide (i6 = 32) && decide (i7 = 64)
        | _ => false)
      | _ => false)
    | _ => false)
  | .most => (match PySem.W.nsIn K mainGlobals "MOST" with
    | some (some (.int i _)) => decide (i = 1000000000000)
    | _ => false)
def bmV : List Value := [.type "ValueError", .type "Exception", .type "BaseException", .type "object"]
def clA (K : Frag) (c : Cls) : Addr := match PySem.W.nsIn K mainGlobals (clsName c) with
  | some (some (.ref a)) => a
  | _ => 0
def clB (K : Frag) (c : Cls) : Bool := (match PySem.W.nsIn K mainGlobals (clsName c) with
  | some (some (.ref a)) => true
  | _ => false) && PySem.W.excIn K (clA K c) bmV "ValueError.__new__" && PySem.W.keepIn K (.ref (clA K c)) && decide (PySem.W.subIn K (.ref (clA K c)) (.type "BaseException") = some true) && (PySem.W.typeIn K (.ref (clA K c)) == some (.type "type"))
def mdB (K : Frag) (gs : List Gc) (cs : List Cls) : Bool := (bltNames.all fun x => PySem.W.nsIn K mainGlobals x == some none) && gs.all (glB K) && cs.all (clB K)
theorem clB_mg {K : Frag} {mg : Str → Option Value} {c : Cls} (KX : K.In h) (Gn : h.Ns mainGlobals mg) (e : clB K c = true) : mg (clsName c) = some (.ref (clA K c)) := by
  unfold clB at e
  simp only [Bool.and_eq_true] at e
  obtain ⟨⟨⟨⟨e, _⟩, _⟩, _⟩, _⟩ := e
  split at e
  · rename_i a ea
    have : clA K c = a := by unfold clA; rw [ea]
    rw [this]
    exact PySem.W.mg_of KX Gn ea
  · cases e
theorem md_ok {gs : List Gc} {cs : List Cls} (KX : d.K.In h) (Gn : h.Ns mainGlobals d.mg) (hK : n.K = d.K) (hC : n.C = clA d.K) (e : mdB d.K gs cs = true) : MdOk n d gs cs := by
  unfold mdB at e
  simp only [Bool.and_eq_true, List.all_eq_true] at e
  obtain ⟨⟨e1, e2⟩, e3⟩ := e
  refine ⟨hK.symm, fun x hx => PySem.W.mg_none_of KX Gn (beq_iff_eq.mp (e1 x hx)), fun g hg => ?_, fun c hc => ?_⟩
  · have z := e2 g hg
    cases g with
    | powers =>
      unfold glB at z
      dsimp only at z
      split at z
      · rename_i a ea
        split at z
        · rename_i t dd its nn sl el
          rw [Bool.and_eq_true, decide_eq_true_eq] at z
          obtain ⟨rfl, z⟩ := z
          split at z
          · rename_i i1 t1 i2 t2 i3 t3 i4 t4 i5 t5 i6 t6 i7 t7 es
            simp only [Bool.and_eq_true, decide_eq_true_eq] at z
            obtain ⟨⟨⟨⟨⟨⟨rfl, rfl⟩, rfl⟩, rfl⟩, rfl⟩, rfl⟩, rfl⟩ := z
            refine ⟨.ref a, .ref a, PySem.W.mg_of KX Gn ea, rfl, fun F => ?_⟩
            refine .tup (vs := [.int 1, .int 2, .int 4, .int 8, .int 16, .int 32, .int 64]) (.inr ⟨_, its, nn, by rw [hK]; exact el, rfl, rfl, ?_, ?_⟩) (.cons (.int _) (.cons (.int _) (.cons (.int _) (.cons (.int _) (.cons (.int _) (.cons (.int _) (.cons (.int _) .nil)))))))
            · have : its.size = 7 := by rw [← Array.length_toList, es]; rfl
              rw [this]; show 7 ≤ sizeLine; decide
            · rw [es]
              exact .cons ⟨_, rfl⟩ (.cons ⟨_, rfl⟩ (.cons ⟨_, rfl⟩ (.cons ⟨_, rfl⟩ (.cons ⟨_, rfl⟩ (.cons ⟨_, rfl⟩ (.cons ⟨_, rfl⟩ .nil))))))
          · cases z
        · cases z
      · cases z
    | most =>
      unfold glB at z
      dsimp only at z
      split at z
      · rename_i i t ea
        have := of_decide_eq_true z
        subst this
        exact ⟨_, .int 1000000000000, PySem.W.mg_of KX Gn ea, ⟨t, rfl⟩, fun F => .int _⟩
      · cases z
  · have z := e3 c hc
    have m := clB_mg KX Gn z
    unfold clB at z
    simp only [Bool.and_eq_true, decide_eq_true_eq] at z
    obtain ⟨⟨⟨⟨_, z1⟩, z2⟩, z3⟩, z4⟩ := z
    rw [hC]
    exact ⟨_, _, _, _, PySem.F.excBase_ValueError, z1, m, z2, z3, beq_iff_eq.mp z4⟩
/-! ### telling -/
def allC : List Cls := [.count, .form, .assumptions, .measure, .set, .values, .factor, .rows, .number, .text, .unlike, .tooLarge, .nothing]
theorem allC_mem (c : Cls) : c ∈ allC := by cases c <;> decide
def exB (K : Frag) (a : Addr) : Bool := (PySem.W.findIn K (.ref a) "__getattribute__" == some (some (.builtin "BaseException.__getattribute__"))) && (PySem.W.findIn K (.ref a) "__getattr__" == some none) && (PySem.W.subIn K (.ref a) (.type "BaseException") == some true) && PySem.W.hasDictIn K a &&
  (PySem.W.findIn K (.ref a) "__class__" == some (some (.builtin "object.__class__"))) && (PySem.W.specialIn K (.builtin "object.__class__") "__get__" == some (some (.builtin "getset_descriptor.__get__"))) && (PySem.W.takesIn K (.builtin "object.__class__") == some true) && (PySem.W.mroIn K a (.type "object") == some true)
theorem exB_ok {K : Frag} {a : Addr} (e : exB K a = true) : ExcC K a := by
  unfold exB at e
  simp only [Bool.and_eq_true] at e
  obtain ⟨⟨⟨⟨⟨⟨⟨e1, e2⟩, e3⟩, e4⟩, e5⟩, e6⟩, e7⟩, e8⟩ := e
  exact ⟨beq_iff_eq.mp e1, beq_iff_eq.mp e2, beq_iff_eq.mp e3, e4, beq_iff_eq.mp e5, beq_iff_eq.mp e6, beq_iff_eq.mp e7, beq_iff_eq.mp e8⟩
def termB (K : Frag) : Bool := allC.all (fun c => clB K c && exB K (clA K c) && (allC.all fun c' => decide (PySem.W.kitOne K (.ref (clA K c)) (.ref (clA K c')) = some (decide (c = c')))) && decide (PySem.W.kitOne K (.ref (clA K c)) (.type "ValueError") = some true)) &&
  (PySem.W.nsIn K mainGlobals "ValueError" == some none) && (bltNames.all fun x => PySem.W.nsIn K mainGlobals x == some none) &&
  defB K "_law_term" ["e"] fun scope body _ => C8.scC ["e", "flags", "kinds", "flag"] ["e"] scope && (⟨scope, scope, ["e", "flags", "kinds", "flag"], [], [], [], false⟩ : CC).nm 0 "e" && chkTerm ⟨scope, scope, ["e", "flags", "kinds", "flag"], [], [], [], false⟩ "e" body
theorem term_ok {K : Frag} {mg : Str → Option Value} (KX : K.In h) (Gn : h.Ns mainGlobals mg) (hC : n.C = clA K) (e : termB K = true) : TermD n K mg "e" := by
  unfold termB at e
  rw [Bool.and_eq_true, Bool.and_eq_true, Bool.and_eq_true, List.all_eq_true, List.all_eq_true] at e
  obtain ⟨⟨⟨e1, e2⟩, e3⟩, e4⟩ := e
  have e1 : ∀ c, clB K c = true ∧ exB K (clA K c) = true ∧ (∀ c', PySem.W.kitOne K (.ref (clA K c)) (.ref (clA K c')) = some (decide (c = c'))) ∧ PySem.W.kitOne K (.ref (clA K c)) (.type "ValueError") = some true := fun c => by
    have z := e1 c (allC_mem c)
    simp only [Bool.and_eq_true, List.all_eq_true, decide_eq_true_eq] at z
    exact ⟨z.1.1.1, z.1.1.2, fun c' => z.1.2 c' (allC_mem c'), z.2⟩
  refine ⟨?_, ⟨fun c => by rw [hC]; exact exB_ok (e1 c).2.1, fun c => by rw [hC]; exact clB_mg KX Gn (e1 c).1, fun c c' => by rw [hC]; exact (e1 c).2.2.1 c', fun c => by rw [hC]; exact (e1 c).2.2.2, PySem.W.mg_none_of KX Gn (beq_iff_eq.mp e2)⟩, fun x hx => PySem.W.mg_none_of KX Gn (beq_iff_eq.mp (e3 x hx))⟩
  obtain ⟨fa, oc, od, params, body, scope, kV, doc, pm, an, cdv, ct, osl, h1, h2, h3, h4, h5, h6⟩ := defB_ok KX Gn e4
  simp only [Bool.and_eq_true] at h6
  exact ⟨fa, oc, od, params, body, scope, kV, doc, pm, an, cdv, ct, osl, _, h1, h2, h3, h4, .all h5, C8.fnScope_by h6.1.1, rfl, h6.1.2, h6.2⟩
def meA (K : Frag) : Addr := match PySem.W.nsIn K mainGlobals "MeasureError" with
  | some (some (.ref a)) => a
  | _ => 0
def tellB (K : Frag) : Bool := termB K && (PySem.W.nsIn K mainGlobals "MeasureError" == some (some (.ref (meA K)))) && (allC.all fun c => decide (PySem.W.exmOne K (.ref (clA K c)) (.ref (meA K)) = some true)) &&
  defB K "_law_told" ["deed"] fun scope body _ => C8.scC ["deed", "e"] ["deed"] scope && chkTold scope "deed" "e" body
theorem tell_ok {fs : List Fn} {k : Nat} {c P : Addr} (KX : d.K.In h) (Gn : h.Ns mainGlobals d.mg) (hC : n.C = clA d.K) (hT : n.T = [(P, ("law" : Str) ++ ".<locals>." ++ "<lambda>")]) (e : tellB d.K = true) (TB : LamX.TabB d.base d.mg c P) (hf : ∀ f ∈ fs, FOk n G d k f) : TellD n G d fs k c P := by
  unfold tellB at e
  rw [Bool.and_eq_true, Bool.and_eq_true, Bool.and_eq_true, List.all_eq_true] at e
  obtain ⟨⟨⟨e1, e2⟩, e3⟩, e4⟩ := e
  obtain ⟨fa, oc, od, params, body, scope, kV, doc, pm, an, cdv, ct, osl, h1, h2, h3, h4, h5, h6⟩ := defB_ok KX Gn e4
  simp only [Bool.and_eq_true] at h6
  refine ⟨"deed", "e", "e", fa, meA d.K, params, body, scope, kV, doc, pm, cdv, ct, oc, an, od, osl, h1, h2, h3, h4, .all h5, C8.fnScope_by h6.1, h6.2, by decide +kernel, by decide +kernel, term_ok KX Gn hC e1, PySem.W.mg_of KX Gn (beq_iff_eq.mp e2), fun c => by rw [hC]; exact of_decide_eq_true (e3 c (allC_mem c)), TB, by rw [hT]; exact List.mem_singleton.mpr rfl, fun p hp _ => ?_, hf⟩
  rw [hT] at hp
  rw [List.mem_singleton.mp hp]
end
end M
/-! The bodies of the defs. (Printed by mkbody.py.) -/
namespace M
def n_is_number : List PySem.Str := ["value"]
def b_is_number : List S := [.ret (.and_ (.bi (.isT .int) (.cons (.var 0) .nil)) (.not_ (.bi (.isT .bool) (.cons (.var 0) .nil))))]
def n_is_whole : List PySem.Str := ["value", "low", "high"]
def b_is_whole : List S := [.ret (.and_ (.call .is_number [] (.cons (.var 0) .nil)) (.chain .le .le (.var 1) (.var 0) (.var 2)))]
def n_is_row : List PySem.Str := ["value", "low", "high", "one"]
def b_is_row : List S := [.if_ (.or_ (.not_ (.bi (.isT .tuple) (.cons (.var 0) .nil))) (.cmp .nmem (.bi .len (.cons (.var 0) .nil)) (.tup (.cons (.int 1) (.cons (.int 3) (.cons (.int 7) (.cons (.int 15) .nil))))))) [.ret (.bl false)] [],
  .ret (.bi .all (.cons (.comp (.call .is_whole [] (.cons (.var 3) (.cons (.var 1) (.cons (.var 2) .nil)))) (.name 3) (.of (.var 0)) .non) .nil))]
def b_is_form : List S := [.ret (.call .is_row [] (.cons (.var 0) (.cons (.neg (.int 99)) (.cons (.int 99) .nil))))]
def b_need_form : List S := [.if_ (.not_ (.call .is_form [] (.cons (.var 0) .nil))) [.raise_ .form] []]
def n_sources_of : List PySem.Str := ["row"]
def b_sources_of : List S := [.ret (.srcs (.bi .len (.cons (.var 0) .nil)))]
def b_need_count : List S := [.if_ (.not_ (.call .is_whole [] (.cons (.var 0) (.cons (.int 1) (.cons (.int 4) .nil))))) [.raise_ .count] []]
def n_form_of : List PySem.Str := ["many", "parts", "found", "number", "factor"]
def b_form_of : List S := [.set 2 (.bin .mul (.lst (.cons (.int 0) .nil)) (.idx (.glob .powers) (.var 0))),
  .for_ (.pair (.name 3) (.name 4)) (.of (.var 1)) [.augI 2 (.var 3) (.var 4)],
  .ret (.bi .tuple (.cons (.sliceF (.var 2) (.int 1)) .nil))]
def n_elementary_of : List PySem.Str := ["many", "whole", "found", "i", "j", "one", "other", "rest", "k"]
def b_elementary_of : List S := [.set 1 (.bin .sub (.idx (.glob .powers) (.var 0)) (.int 1)),
  .set 2 (.comp (.call .form_of [] (.cons (.var 0) (.cons (.lst (.cons (.tup (.cons (.var 1) (.cons (.int 1) .nil))) (.cons (.tup (.cons (.bin .sub (.var 1) (.idx (.glob .powers) (.var 3))) (.cons (.neg (.int 1)) .nil))) .nil))) .nil))) (.name 3) (.range1 (.var 0)) .non),
  .for_ (.name 3) (.range1 (.var 0)) [.for_ (.name 4) (.range2 (.bin .add (.var 3) (.int 1)) (.var 0)) [.par [5, 6] (.cons (.idx (.glob .powers) (.var 3)) (.cons (.idx (.glob .powers) (.var 4)) .nil)), .set 7 (.comp (.var 8) (.name 8) (.range1 (.bin .add (.var 1) (.int 1))) (.som (.and_ (.cmp .eq (.bin .band (.var 8) (.var 5)) (.int 0)) (.cmp .eq (.bin .band (.var 8) (.var 6)) (.int 0))))), .for_ (.name 8) (.of (.var 7)) [.app 2 (.call .form_of [] (.cons (.var 0) (.cons (.lst (.cons (.tup (.cons (.bin .add (.var 8) (.var 5)) (.cons (.int 1) .nil))) (.cons (.tup (.cons (.bin .add (.var 8) (.var 6)) (.cons (.int 1) .nil))) (.cons (.tup (.cons (.bin .add (.bin .add (.var 8) (.var 5)) (.var 6)) (.cons (.neg (.int 1)) .nil))) (.cons (.tup (.cons (.var 8) (.cons (.neg (.int 1)) .nil))) .nil))))) .nil)))]]],
  .ret (.bi .tuple (.cons (.var 2) .nil))]
def b_elementary : List S := [.drop (.call .need_count [] (.cons (.var 0) .nil)),
  .ret (.call .elementary_of [] (.cons (.var 0) .nil))]
def b_breach : List S := [.drop (.call .need_form [] (.cons (.var 0) .nil)),
  .ret (.idx (.call .decided [] (.cons (.var 0) (.cons (.tup .nil) .nil))) (.int 1))]
def b_holds : List S := [.ret (.isN (.call .breach [] (.cons (.var 0) .nil)))]
def b_l_cell : List S := [.if_ (.cmp .eq (.var 0) (.lst .nil)) [.ret (.bin .mul (.var 1) (.int 7919))] [],
  .ret (.bin .add (.idx (.var 0) (.bin .mod (.var 1) (.bi .len (.cons (.var 0) .nil)))) (.bin .mul (.bin .fdiv (.var 1) (.bi .len (.cons (.var 0) .nil))) (.int 104729)))]
def n_l_drawn : List PySem.Str := ["cell", "k", "more"]
def b_l_drawn : List S := [.set 2 (.bin .mod (.bin .add (.bin .mul (.var 0) (.int 6364136223846793005)) (.bin .mul (.bin .add (.var 1) (.int 1)) (.int 1442695040888963407))) (.int 340282366920938463463374607431768211507)),
  .set 2 (.bin .mod (.bin .mul (.var 2) (.var 2)) (.int 340282366920938463463374607431768211297)),
  .set 2 (.bin .mul (.bin .mul (.bin .add (.bin .mod (.var 2) (.int 18446744073709551557)) (.int 1)) (.bin .add (.bin .fdiv (.var 2) (.int 18446744073709551557)) (.int 1))) (.var 2)),
  .ret (.bin .mod (.var 2) (.int 340282366920938463463374607431768211507))]
def n_l_roll : List PySem.Str := ["dice", "many", "told"]
def b_l_roll : List S := [.if_ (.cmp .ge (.idx (.var 0) (.int 0)) (.bin .pow (.int 10) (.int 18))) [.set 2 (.bin .mod (.idx (.var 0) (.int 0)) (.var 1)), .setI 0 (.int 0) (.bin .fdiv (.idx (.var 0) (.int 0)) (.var 1)), .ret (.var 2)] [],
  .setI 0 (.int 1) (.bin .add (.idx (.var 0) (.int 1)) (.int 1)),
  .ret (.bin .mod (.bin .fdiv (.call .l_drawn [] (.cons (.idx (.var 0) (.int 0)) (.cons (.idx (.var 0) (.int 1)) .nil))) (.int 8)) (.var 1))]
def n_l_bits : List PySem.Str := ["number", "i"]
def b_l_bits : List S := [.ret (.comp (.var 1) (.name 1) (.range1 (.int 4)) (.som (.cmp .eq (.bin .mod (.bin .fdiv (.var 0) (.idx (.lst (.cons (.int 1) (.cons (.int 2) (.cons (.int 4) (.cons (.int 8) .nil))))) (.var 1))) (.int 2)) (.int 1))))]
def b_l_make : List S := [.set 2 (.bin .mul (.lst (.cons (.int 0) .nil)) (.idx (.lst (.cons (.int 1) (.cons (.int 2) (.cons (.int 4) (.cons (.int 8) (.cons (.int 16) .nil)))))) (.var 0))),
  .for_ (.pair (.name 3) (.name 4)) (.of (.var 1)) [.setI 2 (.var 3) (.bin .add (.idx (.var 2) (.var 3)) (.var 4))],
  .ret (.bi .tuple (.cons (.sliceF (.var 2) (.int 1)) .nil))]
def b_l_elementary : List S := [.set 1 (.idx (.lst (.cons (.int 1) (.cons (.int 3) (.cons (.int 7) (.cons (.int 15) .nil))))) (.bin .sub (.var 0) (.int 1))),
  .set 2 (.comp (.call .l_make [] (.cons (.var 0) (.cons (.lst (.cons (.tup (.cons (.var 1) (.cons (.int 1) .nil))) (.cons (.tup (.cons (.bin .sub (.var 1) (.idx (.lst (.cons (.int 1) (.cons (.int 2) (.cons (.int 4) (.cons (.int 8) .nil))))) (.var 3))) (.cons (.neg (.int 1)) .nil))) .nil))) .nil))) (.name 3) (.range1 (.var 0)) .non),
  .for_ (.name 3) (.range1 (.var 0)) [.for_ (.name 4) (.range2 (.bin .add (.var 3) (.int 1)) (.var 0)) [.for_ (.name 5) (.range1 (.bin .add (.var 1) (.int 1))) [.if_ (.and_ (.cmp .nmem (.var 3) (.call .l_bits [] (.cons (.var 5) .nil))) (.cmp .nmem (.var 4) (.call .l_bits [] (.cons (.var 5) .nil)))) [.par [6, 7] (.cons (.idx (.lst (.cons (.int 1) (.cons (.int 2) (.cons (.int 4) (.cons (.int 8) .nil))))) (.var 3)) (.cons (.idx (.lst (.cons (.int 1) (.cons (.int 2) (.cons (.int 4) (.cons (.int 8) .nil))))) (.var 4)) .nil)), .set 8 (.lst (.cons (.tup (.cons (.bin .add (.var 5) (.var 6)) (.cons (.int 1) .nil))) (.cons (.tup (.cons (.bin .add (.var 5) (.var 7)) (.cons (.int 1) .nil))) (.cons (.tup (.cons (.bin .add (.bin .add (.var 5) (.var 6)) (.var 7)) (.cons (.neg (.int 1)) .nil))) (.cons (.tup (.cons (.var 5) (.cons (.neg (.int 1)) .nil))) .nil))))), .app 2 (.call .l_make [] (.cons (.var 0) (.cons (.var 8) .nil)))] []]]],
  .ret (.var 2)]
def b_l_any_form : List S := [.set 2 (.call .l_elementary [] (.cons (.var 1) .nil)),
  .par [3, 4] (.cons (.bi .len (.cons (.idx (.var 2) (.int 0)) .nil)) (.cons (.call .l_roll [0] (.cons (.int 4) .nil)) .nil)),
  .if_ (.cmp .eq (.var 4) (.int 0)) [.ret (.bi .tuple (.cons (.comp (.bin .sub (.call .l_roll [0] (.cons (.int 7) .nil)) (.int 3)) (.name 5) (.range1 (.var 3)) .non) .nil))] [],
  .set 6 (.bin .mul (.lst (.cons (.int 0) .nil)) (.var 3)),
  .for_ (.name 7) (.of (.var 2)) [.if_ (.cmp .eq (.call .l_roll [0] (.cons (.int 3) .nil)) (.int 0)) [.set 8 (.bin .add (.int 1) (.call .l_roll [0] (.cons (.int 3) .nil))), .set 6 (.comp (.bin .add (.var 9) (.bin .mul (.var 8) (.var 10))) (.pair (.name 9) (.name 10)) (.zip (.var 6) (.var 7)) .non)] []],
  .if_ (.cmp .eq (.var 4) (.int 1)) [.set 5 (.call .l_roll [0] (.cons (.var 3) .nil)), .setI 6 (.var 5) (.bin .sub (.idx (.var 6) (.var 5)) (.int 1))] [],
  .ret (.bi .tuple (.cons (.var 6) .nil))]
def b_l_bad_form : List S := [.set 2 (.lst (.cons (.bin .add (.var 1) (.tup (.cons (.int 0) .nil))) (.cons (.ife (.cmp .gt (.bi .len (.cons (.var 1) .nil)) (.int 1)) (.sliceF (.var 1) (.int 1)) (.tup .nil)) (.cons (.bi .list (.cons (.var 1) .nil)) (.cons .non (.cons (.bin .add (.tup (.cons (.int 100) .nil)) (.sliceF (.var 1) (.int 1))) .nil)))))),
  .set 2 (.bin .add (.var 2) (.lst (.cons (.bin .add (.tup (.cons (.neg (.int 100)) .nil)) (.sliceF (.var 1) (.int 1))) .nil))),
  .set 2 (.bin .add (.var 2) (.lst (.cons (.bin .add (.tup (.cons (.bl true) .nil)) (.sliceF (.var 1) (.int 1))) (.cons (.bin .add (.tup (.cons .non .nil)) (.sliceF (.var 1) (.int 1))) (.cons (.bin .add (.tup (.cons (.str "1") .nil)) (.sliceF (.var 1) (.int 1))) (.cons (.bin .add (.tup (.cons (.tup (.cons (.int 1) .nil)) .nil)) (.sliceF (.var 1) (.int 1))) (.cons (.int 5) (.cons (.str "1") .nil)))))))),
  .ret (.idx (.var 2) (.call .l_roll [0] (.cons (.bi .len (.cons (.var 2) .nil)) .nil)))]
def n_need_set : List PySem.Str := ["many", "number"]
def b_need_set : List S := [.if_ (.not_ (.call .is_whole [] (.cons (.var 1) (.cons (.int 0) (.cons (.bin .sub (.idx (.glob .powers) (.var 0)) (.int 1)) .nil))))) [.raise_ .set] []]
def n_sum_of : List PySem.Str := ["form", "values", "place", "one"]
def b_sum_of : List S := [.ret (.bi .sum (.cons (.comp (.bin .mul (.var 3) (.idx (.var 1) (.var 2))) (.pair (.name 2) (.name 3)) (.enum (.var 0)) .non) .nil))]
def n_broken : List PySem.Str := ["values", "number", "form"]
def b_broken : List S := [.for_ (.pair (.name 1) (.name 2)) (.enum (.call .elementary_of [] (.cons (.call .sources_of [] (.cons (.var 0) .nil)) .nil))) [.if_ (.cmp .lt (.call .sum_of [] (.cons (.var 2) (.cons (.var 0) .nil))) (.int 0)) [.ret (.var 1)] []],
  .ret .non]
def n_is_measure : List PySem.Str := ["value"]
def b_is_measure : List S := [.ret (.and_ (.call .is_row [] (.cons (.var 0) (.cons (.int 0) (.cons (.glob .most) .nil)))) (.isN (.call .broken [] (.cons (.var 0) .nil))))]
def n_need_measure : List PySem.Str := ["measure"]
def b_need_measure : List S := [.if_ (.not_ (.call .is_measure [] (.cons (.var 0) .nil))) [.raise_ .measure] []]
def b_value : List S := [.drop (.call .need_form [] (.cons (.var 0) .nil)),
  .drop (.call .need_measure [] (.cons (.var 1) .nil)),
  .if_ (.cmp .ne (.bi .len (.cons (.var 0) .nil)) (.bi .len (.cons (.var 1) .nil))) [.raise_ .unlike] [],
  .ret (.call .sum_of [] (.cons (.var 0) (.cons (.var 1) .nil)))]
def b_l_value : List S := [.ret (.bi .sum (.cons (.comp (.bin .mul (.var 2) (.var 3)) (.pair (.name 2) (.name 3)) (.zip (.var 0) (.var 1)) .non) .nil))]
def n_l_rank : List PySem.Str := ["rows", "found", "rank", "row", "more", "one", "bit"]
def b_l_rank : List S := [.par [1, 2] (.cons (.lst (.cons (.int 0) .nil)) (.cons (.int 0) .nil)),
  .for_ (.name 3) (.of (.var 0)) [.if_ (.cmp .nmem (.var 3) (.var 1)) [.set 4 (.lst .nil), .for_ (.name 5) (.of (.var 1)) [.app 4 (.bi .sum (.cons (.comp (.bin .mul (.var 6) (.cmp .eq (.bin .add (.bin .mod (.bin .fdiv (.var 5) (.var 6)) (.int 2)) (.bin .mod (.bin .fdiv (.var 3) (.var 6)) (.int 2))) (.int 1))) (.name 6) (.of (.lst (.cons (.int 1) (.cons (.int 2) (.cons (.int 4) (.cons (.int 8) (.cons (.int 16) (.cons (.int 32) .nil)))))))) .non) .nil))], .par [1, 2] (.cons (.bin .add (.var 1) (.var 4)) (.cons (.bin .add (.var 2) (.int 1)) .nil))] []],
  .ret (.var 2)]
def n_l_any_rows : List PySem.Str := ["dice", "many", "high", "turn", "i"]
def b_l_any_rows : List S := [.set 2 (.idx (.lst (.cons (.int 4) (.cons (.int 8) (.cons (.int 64) .nil)))) (.call .l_roll [0] (.cons (.int 3) .nil))),
  .ret (.bi .tuple (.cons (.comp (.bi .tuple (.cons (.comp (.call .l_roll [0] (.cons (.var 2) .nil)) (.name 3) (.range1 (.call .l_roll [0] (.cons (.int 4) .nil))) .non) .nil)) (.name 4) (.range1 (.var 1)) .non) .nil))]
def n_l_of_rows : List PySem.Str := ["rows", "found", "number", "some", "i"]
def b_l_of_rows : List S := [.set 1 (.lst .nil),
  .for_ (.name 2) (.range2 (.int 1) (.idx (.lst (.cons (.int 1) (.cons (.int 2) (.cons (.int 4) (.cons (.int 8) (.cons (.int 16) .nil)))))) (.bi .len (.cons (.var 0) .nil)))) [.set 3 (.lst .nil), .for_ (.name 4) (.of (.call .l_bits [] (.cons (.var 2) .nil))) [.set 3 (.bin .add (.var 3) (.bi .list (.cons (.idx (.var 0) (.var 4)) .nil)))], .app 1 (.call .l_rank [] (.cons (.var 3) .nil))],
  .ret (.bi .tuple (.cons (.var 1) .nil))]
def n_l_any_measure : List PySem.Str := ["dice", "many", "first", "top", "factor", "counts", "number", "one", "two"]
def b_l_any_measure : List S := [.par [2, 3, 4] (.cons (.call .l_of_rows [] (.cons (.call .l_any_rows [0] (.cons (.var 1) .nil)) .nil)) (.cons (.bin .add (.int 1) (.call .l_roll [0] (.cons (.var 1) .nil))) (.cons (.call .l_roll [0] (.cons (.int 4) .nil)) .nil))),
  .if_ (.cmp .eq (.call .l_roll [0] (.cons (.int 3) .nil)) (.int 0)) [.ret (.var 2)] [],
  .set 5 (.comp (.bi .min2 (.cons (.var 3) (.cons (.bi .len (.cons (.call .l_bits [] (.cons (.var 6) .nil)) .nil)) .nil))) (.name 6) (.range2 (.int 1) (.bin .add (.bi .len (.cons (.var 2) .nil)) (.int 1))) .non),
  .ret (.bi .tuple (.cons (.comp (.bin .add (.bin .mul (.var 7) (.bin .add (.int 1) (.var 4))) (.bin .mul (.var 8) (.bin .mod (.var 4) (.int 2)))) (.pair (.name 7) (.name 8)) (.zip (.var 5) (.var 2)) .non) .nil))]
def b_checked : List S := [.if_ (.cmp .gt (.bi .max (.cons (.var 0) .nil)) (.glob .most)) [.raise_ .tooLarge] [],
  .ret (.bi .tuple (.cons (.var 0) .nil))]
def b_plus : List S := [.drop (.call .need_measure [] (.cons (.var 0) .nil)),
  .drop (.call .need_measure [] (.cons (.var 1) .nil)),
  .if_ (.cmp .ne (.bi .len (.cons (.var 0) .nil)) (.bi .len (.cons (.var 1) .nil))) [.raise_ .unlike] [],
  .ret (.call .checked [] (.cons (.comp (.bin .add (.var 3) (.idx (.var 1) (.var 2))) (.pair (.name 2) (.name 3)) (.enum (.var 0)) .non) .nil))]
def b_times : List S := [.drop (.call .need_measure [] (.cons (.var 0) .nil)),
  .if_ (.not_ (.call .is_whole [] (.cons (.var 1) (.cons (.int 0) (.cons (.int 1000) .nil))))) [.raise_ .factor] [],
  .ret (.call .checked [] (.cons (.comp (.bin .mul (.var 1) (.var 2)) (.name 2) (.of (.var 0)) .non) .nil))]
def b_first_broken : List S := [.if_ (.not_ (.call .is_row [] (.cons (.var 0) (.cons (.int 0) (.cons (.glob .most) .nil))))) [.raise_ .values] [],
  .ret (.call .broken [] (.cons (.var 0) .nil))]
def n_bits_of : List PySem.Str := ["number", "i"]
def b_bits_of : List S := [.ret (.comp (.var 1) (.name 1) (.range1 (.int 4)) (.som (.cmp .eq (.bin .mod (.bin .fdiv (.var 0) (.idx (.glob .powers) (.var 1))) (.int 2)) (.int 1))))]
def b_renamed : List S := [.ret (.bi .sum (.cons (.comp (.idx (.glob .powers) (.idx (.var 1) (.var 2))) (.name 2) (.of (.call .bits_of [] (.cons (.var 0) .nil))) .non) .nil))]
def n_value_at : List PySem.Str := ["measure", "number"]
def b_value_at : List S := [.ret (.ife (.cmp .gt (.var 1) (.int 0)) (.idx (.var 0) (.bin .sub (.var 1) (.int 1))) (.int 0))]
def b_kept : List S := [.drop (.call .need_measure [] (.cons (.var 0) .nil)),
  .drop (.call .need_set [] (.cons (.call .sources_of [] (.cons (.var 0) .nil)) (.cons (.var 1) .nil))),
  .if_ (.cmp .eq (.var 1) (.int 0)) [.raise_ .set] [],
  .set 2 (.call .bits_of [] (.cons (.var 1) .nil)),
  .ret (.bi .tuple (.cons (.comp (.call .value_at [] (.cons (.var 0) (.cons (.call .renamed [] (.cons (.var 3) (.cons (.var 2) .nil))) .nil))) (.name 3) (.range2 (.int 1) (.idx (.glob .powers) (.bi .len (.cons (.var 2) .nil)))) .non) .nil))]
def b_conditioned : List S := [.drop (.call .need_measure [] (.cons (.var 0) .nil)),
  .set 2 (.call .sources_of [] (.cons (.var 0) .nil)),
  .drop (.call .need_set [] (.cons (.var 2) (.cons (.var 1) .nil))),
  .if_ (.cmp .eq (.var 1) (.bin .sub (.idx (.glob .powers) (.var 2)) (.int 1))) [.raise_ .set] [],
  .set 3 (.comp (.var 4) (.name 4) (.range1 (.var 2)) (.som (.cmp .nmem (.var 4) (.call .bits_of [] (.cons (.var 1) .nil))))),
  .set 5 (.call .value_at [] (.cons (.var 0) (.cons (.var 1) .nil))),
  .set 6 (.comp (.bin .add (.call .renamed [] (.cons (.var 7) (.cons (.var 3) .nil))) (.var 1)) (.name 7) (.range2 (.int 1) (.idx (.glob .powers) (.bi .len (.cons (.var 3) .nil)))) .non),
  .ret (.bi .tuple (.cons (.comp (.bin .sub (.call .value_at [] (.cons (.var 0) (.cons (.var 7) .nil))) (.var 5)) (.name 7) (.of (.var 6)) .non) .nil))]
def b_l_renamed : List S := [.ret (.bi .sum (.cons (.comp (.idx (.lst (.cons (.int 1) (.cons (.int 2) (.cons (.int 4) (.cons (.int 8) .nil))))) (.idx (.var 1) (.var 2))) (.name 2) (.of (.call .l_bits [] (.cons (.var 0) .nil))) .non) .nil))]
def r_law_k06 : List S := [.set 2 (.bin .add (.int 1) (.call .l_roll [1] (.cons (.int 4) .nil))), .par [3, 4] (.cons (.call .l_any_measure [1] (.cons (.var 2) .nil)) (.cons (.idx (.lst (.cons (.int 2) (.cons (.int 4) (.cons (.int 8) (.cons (.int 16) .nil))))) (.bin .sub (.var 2) (.int 1))) .nil)), .par [5, 6] (.cons (.bin .add (.tup (.cons (.int 0) .nil)) (.var 3)) (.cons (.call .l_roll [1] (.cons (.var 4) .nil)) .nil)), .par [7, 8] (.cons (.call .l_bits [] (.cons (.var 6) .nil)) (.cons (.comp (.var 9) (.name 9) (.range1 (.var 2)) (.som (.cmp .nmem (.var 9) (.call .l_bits [] (.cons (.var 6) .nil))))) .nil)), .if_ (.cmp .gt (.var 6) (.int 0)) [.set 10 (.comp (.idx (.var 5) (.call .l_renamed [] (.cons (.var 11) (.cons (.var 7) .nil)))) (.name 11) (.range2 (.int 1) (.idx (.lst (.cons (.int 1) (.cons (.int 2) (.cons (.int 4) (.cons (.int 8) (.cons (.int 16) .nil)))))) (.bi .len (.cons (.var 7) .nil)))) .non), .if_ (.or_ (.cmp .ne (.call .kept [] (.cons (.var 3) (.cons (.var 6) .nil))) (.bi .tuple (.cons (.var 10) .nil))) (.not_ (.call .is_measure [] (.cons (.call .kept [] (.cons (.var 3) (.cons (.var 6) .nil))) .nil)))) [.ret (.bl false)] []] [.if_ (.cmp .ne (.told (.call .kept [] (.cons (.var 3) (.cons (.int 0) .nil)))) (.tup (.cons (.str "error") (.cons (.str "InvalidSet") .nil)))) [.ret (.bl false)] []], .if_ (.cmp .lt (.var 6) (.bin .sub (.var 4) (.int 1))) [.set 10 (.comp (.bin .sub (.idx (.var 5) (.bin .add (.call .l_renamed [] (.cons (.var 11) (.cons (.var 8) .nil))) (.var 6))) (.idx (.var 5) (.var 6))) (.name 11) (.range2 (.int 1) (.idx (.lst (.cons (.int 1) (.cons (.int 2) (.cons (.int 4) (.cons (.int 8) (.cons (.int 16) .nil)))))) (.bi .len (.cons (.var 8) .nil)))) .non), .if_ (.cmp .ne (.call .conditioned [] (.cons (.var 3) (.cons (.var 6) .nil))) (.bi .tuple (.cons (.var 10) .nil))) [.ret (.bl false)] [], .if_ (.not_ (.call .is_measure [] (.cons (.call .conditioned [] (.cons (.var 3) (.cons (.var 6) .nil))) .nil))) [.ret (.bl false)] [], .if_ (.cmp .ne (.bin .add (.idx (.call .conditioned [] (.cons (.var 3) (.cons (.var 6) .nil))) (.neg (.int 1))) (.idx (.var 5) (.var 6))) (.idx (.var 3) (.neg (.int 1)))) [.ret (.bl false)] []] [.if_ (.cmp .ne (.told (.call .conditioned [] (.cons (.var 3) (.cons (.var 6) .nil)))) (.tup (.cons (.str "error") (.cons (.str "InvalidSet") .nil)))) [.ret (.bl false)] []], .if_ (.or_ (.cmp .ne (.call .kept [] (.cons (.var 3) (.cons (.bin .sub (.var 4) (.int 1)) .nil))) (.var 3)) (.cmp .ne (.call .conditioned [] (.cons (.var 3) (.cons (.int 0) .nil))) (.var 3))) [.ret (.bl false)] [], .for_ (.name 12) (.of (.lst (.cons (.neg (.int 1)) (.cons (.var 4) (.cons (.bl true) (.cons .non .nil)))))) [.if_ (.cmp .ne (.told (.call .kept [] (.cons (.var 3) (.cons (.var 12) .nil)))) (.tup (.cons (.str "error") (.cons (.str "InvalidSet") .nil)))) [.ret (.bl false)] [], .if_ (.cmp .ne (.told (.call .conditioned [] (.cons (.var 3) (.cons (.var 12) .nil)))) (.tup (.cons (.str "error") (.cons (.str "InvalidSet") .nil)))) [.ret (.bl false)] []]]
def n_closed : List PySem.Str := ["measure", "number", "found", "i"]
def b_closed : List S := [.set 2 (.var 1),
  .for_ (.name 3) (.range1 (.call .sources_of [] (.cons (.var 0) .nil))) [.if_ (.and_ (.cmp .nmem (.var 3) (.call .bits_of [] (.cons (.var 1) .nil))) (.cmp .eq (.call .value_at [] (.cons (.var 0) (.cons (.bin .add (.var 1) (.idx (.glob .powers) (.var 3))) .nil))) (.call .value_at [] (.cons (.var 0) (.cons (.var 1) .nil))))) [.aug 2 .add (.idx (.glob .powers) (.var 3))] []],
  .ret (.var 2)]
def n_closure : List PySem.Str := ["measure", "sources"]
def b_closure : List S := [.drop (.call .need_measure [] (.cons (.var 0) .nil)),
  .drop (.call .need_set [] (.cons (.call .sources_of [] (.cons (.var 0) .nil)) (.cons (.var 1) .nil))),
  .ret (.call .closed [] (.cons (.var 0) (.cons (.var 1) .nil)))]
def n_closed_sets : List PySem.Str := ["measure", "number"]
def b_closed_sets : List S := [.drop (.call .need_measure [] (.cons (.var 0) .nil)),
  .ret (.bi .tuple (.cons (.comp (.var 1) (.name 1) (.range1 (.bin .add (.bi .len (.cons (.var 0) .nil)) (.int 1))) (.som (.cmp .eq (.call .closed [] (.cons (.var 0) (.cons (.var 1) .nil))) (.var 1)))) .nil))]
def n_keys : List PySem.Str := ["measure", "whole", "found", "number", "less", "i", "one"]
def b_keys : List S := [.drop (.call .need_measure [] (.cons (.var 0) .nil)),
  .set 1 (.bi .len (.cons (.var 0) .nil)),
  .set 2 (.lst .nil),
  .for_ (.name 3) (.range1 (.bin .add (.var 1) (.int 1))) [.set 4 (.comp (.bin .sub (.var 3) (.idx (.glob .powers) (.var 5))) (.name 5) (.of (.call .bits_of [] (.cons (.var 3) .nil))) .non), .if_ (.and_ (.cmp .eq (.call .closed [] (.cons (.var 0) (.cons (.var 3) .nil))) (.var 1)) (.not_ (.bi .any (.cons (.comp (.cmp .eq (.call .closed [] (.cons (.var 0) (.cons (.var 6) .nil))) (.var 1)) (.name 6) (.of (.var 4)) .non) .nil)))) [.app 2 (.var 3)] []],
  .ret (.bi .tuple (.cons (.var 2) .nil))]
def n_law_k17 : List PySem.Str := ["script", "dice", "many", "measure", "size", "own", "ends", "number", "free", "i", "step", "shut", "one", "other", "due", "less", "bad"]
def r_law_k17 : List S := [.set 2 (.bin .add (.int 1) (.call .l_roll [1] (.cons (.int 4) .nil))), .par [3, 4] (.cons (.call .l_any_measure [1] (.cons (.var 2) .nil)) (.cons (.idx (.lst (.cons (.int 2) (.cons (.int 4) (.cons (.int 8) (.cons (.int 16) .nil))))) (.bin .sub (.var 2) (.int 1))) .nil)), .par [5, 6] (.cons (.bin .add (.tup (.cons (.int 0) .nil)) (.var 3)) (.cons (.lst .nil) .nil)), .for_ (.name 7) (.range1 (.var 4)) [.set 8 (.comp (.idx (.lst (.cons (.int 1) (.cons (.int 2) (.cons (.int 4) (.cons (.int 8) .nil))))) (.var 9)) (.name 9) (.range1 (.var 2)) (.som (.cmp .nmem (.var 9) (.call .l_bits [] (.cons (.var 7) .nil))))), .app 6 (.bin .add (.var 7) (.bi .sum (.cons (.comp (.var 10) (.name 10) (.of (.var 8)) (.som (.cmp .eq (.idx (.var 5) (.bin .add (.var 7) (.var 10))) (.idx (.var 5) (.var 7))))) .nil))), .if_ (.or_ (.cmp .ne (.call .closure [] (.cons (.var 3) (.cons (.var 7) .nil))) (.idx (.var 6) (.neg (.int 1)))) (.cmp .ne (.idx (.var 5) (.idx (.var 6) (.neg (.int 1)))) (.idx (.var 5) (.var 7)))) [.ret (.bl false)] []], .set 11 (.comp (.var 7) (.name 7) (.range1 (.var 4)) (.som (.cmp .eq (.idx (.var 6) (.var 7)) (.var 7)))), .if_ (.or_ (.cmp .ne (.call .closed_sets [] (.cons (.var 3) .nil)) (.bi .tuple (.cons (.var 11) .nil))) (.cmp .nmem (.bin .sub (.var 4) (.int 1)) (.var 11))) [.ret (.bl false)] [], .for_ (.name 12) (.of (.var 11)) [.for_ (.name 13) (.of (.var 11)) [.if_ (.cmp .nmem (.bi .sum (.cons (.comp (.idx (.lst (.cons (.int 1) (.cons (.int 2) (.cons (.int 4) (.cons (.int 8) .nil))))) (.var 9)) (.name 9) (.of (.call .l_bits [] (.cons (.var 12) .nil))) (.som (.cmp .mem (.var 9) (.call .l_bits [] (.cons (.var 13) .nil))))) .nil)) (.var 11)) [.ret (.bl false)] []]], .set 14 (.lst .nil), .for_ (.name 7) (.range1 (.var 4)) [.set 15 (.comp (.bin .sub (.var 7) (.idx (.lst (.cons (.int 1) (.cons (.int 2) (.cons (.int 4) (.cons (.int 8) .nil))))) (.var 9))) (.name 9) (.of (.call .l_bits [] (.cons (.var 7) .nil))) .non), .if_ (.and_ (.cmp .eq (.idx (.var 6) (.var 7)) (.bin .sub (.var 4) (.int 1))) (.not_ (.bi .any (.cons (.comp (.cmp .eq (.idx (.var 6) (.var 12)) (.bin .sub (.var 4) (.int 1))) (.name 12) (.of (.var 15)) .non) .nil)))) [.app 14 (.var 7)] []], .if_ (.or_ (.cmp .ne (.call .keys [] (.cons (.var 3) .nil)) (.bi .tuple (.cons (.var 14) .nil))) (.cmp .eq (.var 14) (.lst .nil))) [.ret (.bl false)] [], .for_ (.name 16) (.of (.lst (.cons (.neg (.int 1)) (.cons (.var 4) (.cons (.bl true) (.cons .non .nil)))))) [.if_ (.cmp .ne (.told (.call .closure [] (.cons (.var 3) (.cons (.var 16) .nil)))) (.tup (.cons (.str "error") (.cons (.str "InvalidSet") .nil)))) [.ret (.bl false)] []]]
end M
/-! The reading's equations, for simp. -/
namespace M.Z
open PySem (PyData Str)
section
variable {G : Gam} {env env1 : Env} {i : Nat} {d x y : D} {e a b c t : E} {es : Es} {xs ys : List D}
@[simp] theorem rd_imm : rd env (.imm d) = some d := rfl
theorem rd_slot : rd env (.slot i) = match env[i]? with | some (some (.own _ xs)) => some (.list xs) | some (some (.val d)) => some d | _ => none := rfl
@[simp] theorem frz_imm : frz (some (.ok (.imm d) env)) = some (.ok d env) := rfl
theorem frz_slot : frz (some (.ok (.slot i) env)) = match env[i]? with
    | some (some (.own false xs)) => some (.ok (.list xs) (env.set i (some (.val (.list xs)))))
    | some (some (.val d)) => some (.ok d env)
    | _ => none := rfl
@[simp] theorem frz_err {k : Cls} : frz (some (.err k env)) = some (.err k env) := rfl
@[simp] theorem frz_none : frz none = none := rfl
@[simp] theorem bool?_bool (b : Bool) : bool? (.bool b) = some b := rfl
@[simp] theorem truth?_bool (b : Bool) : truth? (.bool b) = some b := rfl
@[simp] theorem truth?_int (i : Int) : truth? (.int i) = some (decide (i ≠ 0)) := rfl
@[simp] theorem items?_list : items? (.list xs) = some xs := rfl
@[simp] theorem items?_tuple : items? (.tuple xs) = some xs := rfl
/-! operations -/
@[simp] theorem bin_add (i j : Int) : binD .add (.int i) (.int j) = some (.int (i + j)) := rfl
theorem bin_addL (h : xs.length + ys.length ≤ 16777216) : binD .add (.list xs) (.list ys) = some (.list (xs ++ ys)) := if_pos h
theorem bin_addT (h : xs.length + ys.length ≤ 16777216) : binD .add (.tuple xs) (.tuple ys) = some (.tuple (xs ++ ys)) := if_pos h
@[simp] theorem bin_sub (i j : Int) : binD .sub (.int i) (.int j) = some (.int (i - j)) := rfl
theorem bin_mul {i j : Int} (h : mulOk i j = true) : binD .mul (.int i) (.int j) = some (.int (i * j)) := if_pos h
@[simp] theorem bin_mulB (i : Int) (b : Bool) : binD .mul (.int i) (.bool b) = some (.int (if b then i else 0)) := rfl
theorem bin_mulL {k : Int} (h : 0 ≤ k ∧ k ≤ 1000 ∧ xs.length ≤ 1000) : binD .mul (.list xs) (.int k) = some (.list (List.replicate k.toNat xs).flatten) := if_pos h
theorem bin_mulT {k : Int} (h : 1 ≤ k ∧ k ≤ 1000 ∧ xs.length ≤ 1000 ∧ xs ≠ []) : binD .mul (.tuple xs) (.int k) = some (.tuple (List.replicate k.toNat xs).flatten) := if_pos h
theorem bin_fdiv {i j : Int} (h : 0 < j ∧ fits 8000 j = true) : binD .fdiv (.int i) (.int j) = some (.int (i / j)) := if_pos h
theorem bin_mod {i j : Int} (h : 0 < j) : binD .mod (.int i) (.int j) = some (.int (i % j)) := if_pos h
theorem bin_band {i j : Int} (h : 0 ≤ i ∧ 0 ≤ j) : binD .band (.int i) (.int j) = some (.int ((i.toNat &&& j.toNat : Nat) : Int)) := if_pos h
theorem bin_bor {i j : Int} (h : 0 ≤ i ∧ 0 ≤ j) : binD .bor (.int i) (.int j) = some (.int (i + j - ((i.toNat &&& j.toNat : Nat) : Int))) := if_pos h
theorem bin_pow {i j : Int} (h : 0 ≤ j ∧ j ≤ 1000 ∧ fits 64 i = true) : binD .pow (.int i) (.int j) = some (.int (i ^ j.toNat)) := if_pos h
theorem fits_of {i : Int} (k : Nat) (h : i.natAbs < 2 ^ k) : fits k i = true := by unfold fits; exact decide_eq_true h
theorem fits_small {i : Int} {k : Nat} (hk : 64 ≤ k) (h : i.natAbs < 2 ^ 64) : fits k i = true := fits_of k (Nat.lt_of_lt_of_le h (Nat.pow_le_pow_right (by decide) hk))
theorem mul_small {i j : Int} (h : j.natAbs < 18446744073709551616) : mulOk i j = true := by unfold mulOk; rw [fits_of (i := j) 64 h]; simp
theorem mul_small' {i j : Int} (h : i.natAbs < 18446744073709551616) : mulOk i j = true := by unfold mulOk; rw [fits_of (i := i) 64 h]; simp
theorem bin_fdivS {i j : Int} (h : 0 < j) (h2 : j < 18446744073709551616) : binD .fdiv (.int i) (.int j) = some (.int (i / j)) := bin_fdiv ⟨h, fits_small (by decide) (by omega)⟩
@[simp] theorem cmp_lt (i j : Int) : cmpD .lt (.int i) (.int j) = some (decide (i < j)) := rfl
@[simp] theorem cmp_le (i j : Int) : cmpD .le (.int i) (.int j) = some (decide (i ≤ j)) := rfl
@[simp] theorem cmp_gt (i j : Int) : cmpD .gt (.int i) (.int j) = some (decide (j < i)) := rfl
@[simp] theorem cmp_ge (i j : Int) : cmpD .ge (.int i) (.int j) = some (decide (j ≤ i)) := rfl
@[simp] theorem cmp_eqI (i j : Int) : cmpD .eq (.int i) (.int j) = some (decide (i = j)) := by
  show (if PySem.SeqAt.shaped (.int i) && PySem.SeqAt.shaped (.int j) then some (PyData.eqv (.int i) (.int j)) else none) = _
  rw [if_pos (by rfl)]
  simp [PyData.eqv]
  by_cases h : i = j <;> simp [h]
@[simp] theorem cmp_neI (i j : Int) : cmpD .ne (.int i) (.int j) = some (decide (i ≠ j)) := by
  show (if PySem.SeqAt.shaped (.int i) && PySem.SeqAt.shaped (.int j) then some (!PyData.eqv (.int i) (.int j)) else none) = _
  rw [if_pos (by rfl)]
  simp [PyData.eqv]
  by_cases h : i = j <;> simp [h]
@[simp] theorem cmp_eqH (kvs : List (D × D)) : cmpD .eq (.dict kvs) (.list []) = some kvs.isEmpty := rfl
theorem cmp_mem (h : (flat x && ys.all flat) = true) : cmpD .mem x (.list ys) = some (ys.any fun y => PyData.eqv y x) := if_pos h
theorem cmp_memT (h : (flat x && ys.all flat) = true) : cmpD .mem x (.tuple ys) = some (ys.any fun y => PyData.eqv y x) := if_pos h
theorem cmp_nmem (h : (flat x && ys.all flat) = true) : cmpD .nmem x (.list ys) = some (!ys.any fun y => PyData.eqv y x) := if_pos h
theorem cmp_nmemT (h : (flat x && ys.all flat) = true) : cmpD .nmem x (.tuple ys) = some (!ys.any fun y => PyData.eqv y x) := if_pos h
theorem idx_list (j : Int) : idxD (.list xs) (.int j) = (place? xs.length j).bind fun k => xs[k]? := rfl
theorem idx_tuple (j : Int) : idxD (.tuple xs) (.int j) = (place? xs.length j).bind fun k => xs[k]? := rfl
theorem idx_held (kvs : List (D × D)) (j : Int) : idxD (.dict kvs) (.int j) = (place? kvs.length j).bind fun k => (kvs[k]?).map (·.1) := rfl
theorem place_nat {n : Nat} {j : Int} (h0 : 0 ≤ j) (h1 : j < n) : place? n j = some j.toNat := by unfold place?; rw [if_pos h0, if_pos (by omega)]
@[simp] theorem sliceF_list (j : Int) : sliceFD (.list xs) (.int j) = some (.list (xs.drop (clip xs.length j))) := rfl
@[simp] theorem sliceF_tuple (j : Int) : sliceFD (.tuple xs) (.int j) = some (.tuple (xs.drop (clip xs.length j))) := rfl
@[simp] theorem sliceT_list (j : Int) : sliceTD (.list xs) (.int j) = some (.list (xs.take (clip xs.length j))) := rfl
@[simp] theorem sliceT_tuple (j : Int) : sliceTD (.tuple xs) (.int j) = some (.tuple (xs.take (clip xs.length j))) := rfl
@[simp] theorem rev_tuple : revD (.tuple xs) = some (.tuple xs.reverse) := rfl
@[simp] theorem bi_lenL : biD .len [.list xs] = some (.int (xs.length : Nat)) := rfl
@[simp] theorem bi_lenT : biD .len [.tuple xs] = some (.int (xs.length : Nat)) := rfl
@[simp] theorem bi_lenH (kvs : List (D × D)) : biD .len [.dict kvs] = some (.int (kvs.length : Nat)) := rfl
@[simp] theorem bi_sum : biD .sum [.list xs] = (ints? xs).map fun ns => .int ns.sum := rfl
@[simp] theorem bi_max : biD .max [.tuple xs] = (ints? xs).bind fun ns => match ns with | [] => none | n :: r => some (.int (maxI n r)) := rfl
@[simp] theorem bi_maxL : biD .max [.list xs] = (ints? xs).bind fun ns => match ns with | [] => none | n :: r => some (.int (maxI n r)) := rfl
@[simp] theorem bi_minL : biD .min [.list xs] = (ints? xs).bind fun ns => match ns with | [] => none | n :: r => some (.int (minI n r)) := rfl
@[simp] theorem bi_max2 (a b : Int) : biD .max2 [.int a, .int b] = some (.int (if a < b then b else a)) := rfl
@[simp] theorem bi_min2 (a b : Int) : biD .min2 [.int a, .int b] = some (.int (if b < a then b else a)) := rfl
@[simp] theorem bi_abs (a : Int) : biD .abs [.int a] = some (.int (if a < 0 then -a else a)) := rfl
@[simp] theorem bi_listL : biD .list [.list xs] = some (.list xs) := rfl
@[simp] theorem bi_listT : biD .list [.tuple xs] = some (.list xs) := rfl
@[simp] theorem bi_tupleL : biD .tuple [.list xs] = some (.tuple xs) := rfl
@[simp] theorem bi_tupleT : biD .tuple [.tuple xs] = some (.tuple xs) := rfl
@[simp] theorem bi_intB (b : Bool) : biD .int [.bool b] = some (.int (if b then 1 else 0)) := rfl
@[simp] theorem bi_intI (i : Int) : biD .int [.int i] = some (.int i) := rfl
@[simp] theorem bi_all : biD .all [.list xs] = (bools? xs).map fun bs => .bool (bs.all id) := rfl
@[simp] theorem bi_any : biD .any [.list xs] = (bools? xs).map fun bs => .bool (bs.any id) := rfl
@[simp] theorem bi_isT (t : Ty) : biD (.isT t) [d] = some (.bool (isTy t d)) := rfl
@[simp] theorem aug_add (i j : Int) : augD .add (.int i) (.int j) = some (.int (i + j)) := rfl
@[simp] theorem aug_sub (i j : Int) : augD .sub (.int i) (.int j) = some (.int (i - j)) := rfl
/-! targets -/
theorem asg_name : asg (.name i) d env = if i < env.length then some (env.set i (some (.val d))) else none := rfl
theorem asg_pair {p q : Tg} : asg (.pair p q) (.tuple [x, y]) env = (asg p x env).bind fun e => asg q y e := rfl
/-! expressions -/
def negD : D → Option D
  | .int i => some (.int (-i))
  | _ => none
def rng1D : D → Option (List D)
  | .int i => rangeD 0 i
  | _ => none
def rng2D : D → D → Option (List D)
  | .int i, .int j => rangeD i j
  | _, _ => none
@[simp] theorem negD_int (i : Int) : negD (.int i) = some (.int (-i)) := rfl
@[simp] theorem rng1D_int (i : Int) : rng1D (.int i) = rangeD 0 i := rfl
@[simp] theorem rng2D_int (i j : Int) : rng2D (.int i) (.int j) = rangeD i j := rfl
theorem range_ok {i j : Int} (h : -1000000 ≤ i ∧ i ≤ 1000000 ∧ -1000000 ≤ j ∧ j ≤ 1000000) : rangeD i j = some ((List.range (j - i).toNat).map fun k => .int (i + (k : Nat))) := if_pos h
def callA (rs : List Nat) (env1 : Env) : Option (Except Cls (D × List (List D))) → R TV
  | some (.ok (d, ys)) => if ys.length = rs.length then some (.ok (.imm d) (giveBack env1 rs ys)) else none
  | some (.error c) => if rs.isEmpty then some (.err c env1) else none
  | none => none
@[simp] theorem callA_ok (rs : List Nat) (env1 : Env) (d : D) (ys : List (List D)) (h : ys.length = rs.length) : callA rs env1 (some (.ok (d, ys))) = some (.ok (.imm d) (giveBack env1 rs ys)) := if_pos h
@[simp] theorem callA_err (env1 : Env) (c : Cls) : callA [] env1 (some (.error c)) = some (.err c env1) := rfl
def toldA : R D → R TV
  | some (.ok d env1) => some (.ok (.imm d) env1)
  | some (.err c env1) => some (.ok (.imm (errD c)) env1)
  | none => none
@[simp] theorem toldA_ok (d : D) (env1 : Env) : toldA (some (.ok d env1)) = some (.ok (.imm d) env1) := rfl
@[simp] theorem toldA_err (c : Cls) (env1 : Env) : toldA (some (.err c env1)) = some (.ok (.imm (errD c)) env1) := rfl
theorem ev_var : ev G (.var i) env = match env[i]? with
    | some (some (.val d)) => some (.ok (.imm d) env)
    | some (some (.own _ _)) => some (.ok (.slot i) env)
    | _ => none := by unfold ev; rfl
@[simp] theorem ev_int (n : Int) : ev G (.int n) env = some (.ok (.imm (.int n)) env) := by unfold ev; rfl
@[simp] theorem ev_bl (b : Bool) : ev G (.bl b) env = some (.ok (.imm (.bool b)) env) := by unfold ev; rfl
@[simp] theorem ev_non : ev G .non env = some (.ok (.imm .none) env) := by unfold ev; rfl
@[simp] theorem ev_str (s : Str) : ev G (.str s) env = some (.ok (.imm (.str s)) env) := by unfold ev; rfl
@[simp] theorem ev_glob (g : Gc) : ev G (.glob g) env = some (.ok (.imm (globD g)) env) := by unfold ev; rfl
@[simp] theorem ev_bin (o : Bop) : ev G (.bin o a b) env = bnd (ev G a env) fun ta env1 => bnd (ev G b env1) fun tb env2 => imm ((rd env2 ta).bind fun x => (rd env2 tb).bind fun y => binD o x y) env2 := by rw [ev]
@[simp] theorem ev_neg : ev G (.neg a) env = bnd (ev G a env) fun ta env1 => imm ((rd env1 ta).bind negD) env1 := by rw [ev] <;> rfl
@[simp] theorem ev_cmp (o : Cop) : ev G (.cmp o a b) env = bnd (ev G a env) fun ta env1 => bnd (ev G b env1) fun tb env2 => imm ((rd env2 ta).bind fun x => (rd env2 tb).bind fun y => (cmpD o x y).map .bool) env2 := by rw [ev]
@[simp] theorem ev_isN : ev G (.isN a) env = bnd (ev G a env) fun ta env1 => imm ((rd env1 ta).map fun x => .bool (isNone x)) env1 := by rw [ev]
@[simp] theorem ev_notN : ev G (.notN a) env = bnd (ev G a env) fun ta env1 => imm ((rd env1 ta).map fun x => .bool (!isNone x)) env1 := by rw [ev]
@[simp] theorem ev_chain (o p : Cop) : ev G (.chain o p a b c) env = bnd (ev G a env) fun ta env1 => bnd (ev G b env1) fun tb env2 => bnd (opt ((rd env2 ta).bind fun x => (rd env2 tb).bind fun y => cmpD o x y) env2) fun k env3 =>
      if k then bnd (ev G c env3) fun tc env4 => imm ((rd env4 tb).bind fun y => (rd env4 tc).bind fun z => (cmpD p y z).map .bool) env4 else some (.ok (.imm (.bool false)) env3) := by rw [ev]
@[simp] theorem ev_and : ev G (.and_ a b) env = bnd (ev G a env) fun ta env1 => bnd (opt ((rd env1 ta).bind bool?) env1) fun k env2 => if k then ev G b env2 else some (.ok (.imm (.bool false)) env2) := by rw [ev]
@[simp] theorem ev_or : ev G (.or_ a b) env = bnd (ev G a env) fun ta env1 => bnd (opt ((rd env1 ta).bind bool?) env1) fun k env2 => if k then some (.ok (.imm (.bool true)) env2) else ev G b env2 := by rw [ev]
@[simp] theorem ev_not : ev G (.not_ a) env = bnd (ev G a env) fun ta env1 => imm ((rd env1 ta).bind fun x => (bool? x).map fun k => .bool (!k)) env1 := by rw [ev]
@[simp] theorem ev_ife : ev G (.ife t a b) env = bnd (ev G t env) fun tt env1 => bnd (opt ((rd env1 tt).bind bool?) env1) fun k env2 => if k then ev G a env2 else ev G b env2 := by rw [ev]
def tupA (ds : List D) : Option D := if ds.length ≤ lim then some (.tuple ds) else none
def lstA (ds : List D) : Option D := if ds.length ≤ lim then some (.list ds) else none
@[simp] theorem tupA_ok {ds : List D} (h : ds.length ≤ 16777216) : tupA ds = some (.tuple ds) := if_pos h
@[simp] theorem lstA_ok {ds : List D} (h : ds.length ≤ 16777216) : lstA ds = some (.list ds) := if_pos h
@[simp] theorem ev_tup : ev G (.tup es) env = bnd (evs G es env) fun ds env1 => imm (tupA ds) env1 := by rw [ev] <;> rfl
@[simp] theorem ev_lst : ev G (.lst es) env = bnd (evs G es env) fun ds env1 => imm (lstA ds) env1 := by rw [ev] <;> rfl
@[simp] theorem ev_idx : ev G (.idx a b) env = bnd (ev G a env) fun ta env1 => bnd (ev G b env1) fun ti env2 => imm ((rd env2 ta).bind fun x => (rd env2 ti).bind fun y => idxD x y) env2 := by rw [ev]
@[simp] theorem ev_sliceF : ev G (.sliceF a b) env = bnd (ev G a env) fun ta env1 => bnd (ev G b env1) fun ti env2 => imm ((rd env2 ta).bind fun x => (rd env2 ti).bind fun y => sliceFD x y) env2 := by rw [ev]
@[simp] theorem ev_sliceT : ev G (.sliceT a b) env = bnd (ev G a env) fun ta env1 => bnd (ev G b env1) fun ti env2 => imm ((rd env2 ta).bind fun x => (rd env2 ti).bind fun y => sliceTD x y) env2 := by rw [ev]
@[simp] theorem ev_rev : ev G (.rev a) env = bnd (ev G a env) fun ta env1 => imm ((rd env1 ta).bind revD) env1 := by rw [ev]
theorem ev_call (f : Fn) (rs : List Nat) : ev G (.call f rs es) env = if (owned env rs).isNone then none else bnd (evs G es env) fun ds env1 => callA rs env1 ((owned env1 rs).bind fun xs => G f xs ds) := by rw [ev] <;> rfl
@[simp] theorem ev_bi (k : Bi) : ev G (.bi k es) env = bnd (evts G es env) fun ts env1 => imm ((ts.mapM (rd env1)).bind fun ds => biD k ds) env1 := by rw [ev]
@[simp] theorem ev_lrange : ev G (.lrange a b) env = bnd (ev G a env) fun ta env1 => bnd (ev G b env1) fun tb env2 => imm ((rd env2 ta).bind fun x => (rd env2 tb).bind fun y => (rng2D x y).map .list) env2 := by
  rw [ev]
  congr 1; funext ta env1; congr 1; funext tb env2; congr 1; congr 1; funext x; congr 1; funext y
  cases x <;> cases y <;> rfl
@[simp] theorem ev_told : ev G (.told a) env = toldA (frz (ev G a env)) := by rw [ev] <;> rfl
@[simp] theorem ev_srcs : ev G (.srcs a) env = bnd (ev G a env) fun t env1 => imm ((rd env1 t).bind srcD) env1 := by rw [ev]
@[simp] theorem evs_nil : evs G .nil env = some (.ok [] env) := by rw [evs]
@[simp] theorem evs_cons : evs G (.cons a es) env = bnd (frz (ev G a env)) fun d env1 => bnd (evs G es env1) fun ds env2 => some (.ok (d :: ds) env2) := by rw [evs]
@[simp] theorem evts_nil : evts G .nil env = some (.ok [] env) := by rw [evts]
@[simp] theorem evts_cons : evts G (.cons a es) env = bnd (ev G a env) fun d env1 => bnd (evts G es env1) fun ds env2 => some (.ok (d :: ds) env2) := by rw [evts]
@[simp] theorem evo_non : evo G .non env = some (.ok true env) := by rw [evo]
@[simp] theorem evo_som : evo G (.som a) env = bnd (ev G a env) fun t env1 => opt ((rd env1 t).bind truth?) env1 := by rw [evo]
@[simp] theorem evIt_of : evIt G (.of a) env = bnd (frz (ev G a env)) fun d env1 => opt (items? d) env1 := by rw [evIt]
@[simp] theorem evIt_range1 : evIt G (.range1 a) env = bnd (ev G a env) fun t env1 => opt ((rd env1 t).bind rng1D) env1 := by rw [evIt] <;> rfl
@[simp] theorem evIt_range2 : evIt G (.range2 a b) env = bnd (ev G a env) fun ta env1 => bnd (ev G b env1) fun tb env2 => opt ((rd env2 ta).bind fun x => (rd env2 tb).bind fun y => rng2D x y) env2 := by rw [evIt] <;> rfl
@[simp] theorem evIt_enum : evIt G (.enum a) env = bnd (frz (ev G a env)) fun d env1 => opt ((items? d).map enumD) env1 := by rw [evIt]
@[simp] theorem evIt_zip : evIt G (.zip a b) env = bnd (frz (ev G a env)) fun x env1 => bnd (frz (ev G b env1)) fun y env2 => opt ((items? x).bind fun xs => (items? y).map fun ys => zipD xs ys) env2 := by rw [evIt]
@[simp] theorem evp_nil : evp G .nil env = some (.ok [] env) := by rw [evp]
@[simp] theorem evp_cons : evp G (.cons a es) env = bnd (frz (ev G a env)) fun d env1 => bnd (evp G es env1) fun ds env2 => some (.ok (slotOf (fresh a) d :: ds) env2) := by rw [evp]
/-! a call whose answer is known -/
theorem call0 {f : Fn} {ds : List D} (h1 : evs G es env = some (.ok ds env1)) (h2 : G f [] ds = some (.ok (d, []))) : ev G (.call f [] es) env = some (.ok (.imm d) env1) := by
  rw [ev_call]
  simp [owned, h1, h2, giveBack]
theorem call0e {f : Fn} {ds : List D} {k : Cls} (h1 : evs G es env = some (.ok ds env1)) (h2 : G f [] ds = some (.error k)) : ev G (.call f [] es) env = some (.err k env1) := by
  rw [ev_call]
  simp [owned, h1, h2]
/-! statements -/
variable {fuel : Nat} {p q : List S}
@[simp] theorem exs_nil : exs G fuel [] env = some (.next env) := by rw [exs]
theorem exs_cons (s : S) (ss : List S) : exs G fuel (s :: ss) env = match ex G fuel s env with
    | some (.next env1) => exs G fuel ss env1
    | r => r := by rw [exs] <;> rfl
@[simp] theorem ex_set : ex G fuel (.set i e) env = bndS (frz (ev G e env)) fun d env1 => nextS (setAt env1 i (slotOf (fresh e) d)) := by rw [ex] <;> rfl
@[simp] theorem ex_par (is : List Nat) : ex G fuel (.par is es) env = bndS (evp G es env) fun ss env1 => nextS (sets env1 is ss) := by rw [ex]
@[simp] theorem ex_unp (t : Tg) : ex G fuel (.unp t e) env = bndS (frz (ev G e env)) fun d env1 => nextS (asg t d env1) := by rw [ex] <;> rfl
@[simp] theorem ex_setI : ex G fuel (.setI i a e) env = bndS (frz (ev G e env)) fun d env1 => if own? env1 i then bndS (ev G a env1) fun t env2 => nextS ((rd env2 t).bind fun k => putAt env2 i k d) else none := by rw [ex] <;> rfl
@[simp] theorem ex_app : ex G fuel (.app i e) env = if own? env i then bndS (frz (ev G e env)) fun d env1 => nextS (appD env1 i d) else none := by rw [ex] <;> rfl
@[simp] theorem ex_drop : ex G fuel (.drop e) env = bndS (ev G e env) fun _ env1 => some (.next env1) := by rw [ex]
@[simp] theorem ex_if : ex G fuel (.if_ t p q) env = bndS (bnd (ev G t env) fun t env1 => opt ((rd env1 t).bind truth?) env1) fun k env1 => if k then exs G fuel p env1 else exs G fuel q env1 := by rw [ex] <;> rfl
@[simp] theorem ex_ret : ex G fuel (.ret e) env = bndS (frz (ev G e env)) fun d env1 => some (.ret d env1) := by rw [ex] <;> rfl
@[simp] theorem ex_retN : ex G fuel .retN env = some (.ret .none env) := by rw [ex]
@[simp] theorem ex_raise (k : Cls) : ex G fuel (.raise_ k) env = some (.err k env) := by rw [ex]
@[simp] theorem ex_brk : ex G fuel .brk env = some (.brk env) := by rw [ex]
def stepF (G : Gam) (fuel : Nat) (t : Tg) (p : List S) (d : D) (env : Env) : Option SO := match asg t d env with
  | none => none
  | some env2 => exs G fuel p env2
theorem ex_for (t : Tg) (it : It) : ex G fuel (.for_ t it p) env = bndS (evIt G it env) fun items env1 => forL (stepF G fuel t p) items env1 := by rw [ex] <;> rfl
theorem ex_while : ex G fuel (.while_ t p) env = whileL (evB G t) (fun env => exs G fuel p env) fuel env := by rw [ex]
def augA (G : Gam) (i : Nat) (o : Bop) (e : E) (env : Env) : Option (Option Slot) → Option SO
  | some (some (.val x)) => bndS (ev G e env) fun t env1 => nextS ((rd env1 t).bind fun y => (augD o x y).bind fun z => setAt env1 i (.val z))
  | _ => none
@[simp] theorem augA_val (o : Bop) : augA G i o e env (some (some (.val x))) = bndS (ev G e env) fun t env1 => nextS ((rd env1 t).bind fun y => (augD o x y).bind fun z => setAt env1 i (.val z)) := rfl
@[simp] theorem ex_aug (o : Bop) : ex G fuel (.aug i o e) env = augA G i o e env env[i]? := by
  rw [ex]
  cases env[i]? with
  | none => rfl
  | some s => cases s with
    | none => rfl
    | some s => cases s <;> rfl
@[simp] theorem ex_augI : ex G fuel (.augI i a e) env = if own? env i then bndS (ev G a env) fun t env1 => bndS (opt ((rd env1 t).bind fun k => (itemAt env1 i k).map fun o => (k, o)) env1) fun p env2 =>
      bndS (ev G e env2) fun t2 env3 => nextS ((rd env3 t2).bind fun y => (augD .add p.2 y).bind fun z => putAt env3 i p.1 z) else none := by rw [ex]
@[simp] theorem ex_par1 (j : Nat) (e' : E) : ex G fuel (.par1 i a j e e') env = bndS (frz (ev G e env)) fun d env1 => bndS (frz (ev G e' env1)) fun d' env2 => if own? env2 i then bndS (ev G a env2) fun t env3 => nextS ((rd env3 t).bind fun k => (putAt env3 i k d).bind fun env4 => setAt env4 j (.val d')) else none := by rw [ex] <;> rfl
theorem itemAt_own {k : Bool} {j : Int} (h : env[i]? = some (some (.own k xs))) (h0 : 0 ≤ j) : itemAt env i (.int j) = xs[j.toNat]? := by
  unfold itemAt
  rw [h]
  exact if_pos h0
theorem putAt_own {k : Bool} {j : Int} (h : env[i]? = some (some (.own k xs))) : putAt env i (.int j) d = (place? xs.length j).map fun n => env.set i (some (.own k (xs.set n d))) := by
  unfold putAt
  rw [h]
theorem ex_for_same {t : Tg} {it : It} {items : List D} {r : Option SO} (h2 : forL (stepF G fuel t p) items env = r) (h1 : evIt G it env = some (.ok items env)) : ex G fuel (.for_ t it p) env = r := by
  rw [ex_for, h1]
  exact h2
theorem ex_for_of {t : Tg} {it : It} {items : List D} {r : Option SO} (h1 : evIt G it env = some (.ok items env1)) (h2 : forL (stepF G fuel t p) items env1 = r) : ex G fuel (.for_ t it p) env = r := by
  rw [ex_for, h1]
  exact h2
end
end M.Z
/-! Running the small language: lemmas for comprehensions and loops. -/
namespace M.Z
open PySem (PyData Str)
def env0' (N : Nat) (ss : List Slot) : Env := ss.map some ++ List.replicate (N - ss.length) none
def noOwn (env : Env) (i : Nat) : Prop := i < env.length ∧ ∀ k xs, env[i]? ≠ some (some (.own k xs))
theorem noOwn_none {env : Env} {i : Nat} (h : env[i]? = some none) : noOwn env i := ⟨(List.getElem?_eq_some_iff.mp h).1, fun k xs z => by rw [h] at z; cases z⟩
theorem noOwn_val {env : Env} {i : Nat} {d : D} (h : env[i]? = some (some (.val d))) : noOwn env i := ⟨(List.getElem?_eq_some_iff.mp h).1, fun k xs z => by rw [h] at z; cases z⟩
theorem exs_next {G : Gam} {fuel : Nat} {s : S} {ss : List S} {env env1 : Env} (h : ex G fuel s env = some (.next env1)) : exs G fuel (s :: ss) env = exs G fuel ss env1 := by
  conv => lhs; unfold exs
  rw [h]
theorem exs_ret {G : Gam} {fuel : Nat} {s : S} {ss : List S} {env env1 : Env} {d : D} (h : ex G fuel s env = some (.ret d env1)) : exs G fuel (s :: ss) env = some (.ret d env1) := by
  unfold exs
  rw [h]
theorem exs_err {G : Gam} {fuel : Nat} {s : S} {ss : List S} {env env1 : Env} {c : Cls} (h : ex G fuel s env = some (.err c env1)) : exs G fuel (s :: ss) env = some (.err c env1) := by
  unfold exs
  rw [h]
theorem set_same {env : Env} {i : Nat} {o : Option Slot} (h : env[i]? = some o) : env.set i o = env := by
  apply List.ext_getElem?
  intro j
  by_cases hj : i = j
  · subst hj
    rw [List.getElem?_set_self (List.getElem?_eq_some_iff.mp h).1, h]
  · rw [List.getElem?_set_ne hj]
theorem back1 {env env2 : Env} {i : Nat} (h : noOwn env i) (e : env2.set i none = env.set i none) : back env env2 [i] = env := by
  obtain ⟨hi, h⟩ := h
  unfold back back
  have hg : env[i]? = some env[i] := List.getElem?_eq_getElem hi
  have e2 : ∀ x, env2.set i x = env.set i x := fun x => by
    have := congrArg (fun l => l.set i x) e
    simpa using this
  rw [e2]
  cases hs : env[i] with
  | none => rw [hg, hs]; exact set_same (by rw [hg, hs])
  | some s =>
    cases s with
    | val d => rw [hg, hs]; exact set_same (by rw [hg, hs])
    | own k xs => exact absurd (by rw [hg, hs]) (h k xs)
/-- a comprehension over one name, with a test -/
theorem ev_comp1g {G : Gam} {e : E} {i : Nat} {it : It} {c : Eo} {env0 env : Env} {items : List D} {p : D → Bool} {f : D → D} (hit : evIt G it env0 = some (.ok items env)) (hi : noOwn env i)
    (hc : ∀ d ∈ items, evo G c (env.set i (some (.val d))) = some (.ok (p d) (env.set i (some (.val d)))))
    (h : ∀ d ∈ items, p d = true → frz (ev G e (env.set i (some (.val d)))) = some (.ok (f d) (env.set i (some (.val d))))) :
    ev G (.comp e (.name i) it c) env0 = some (.ok (.imm (.list ((items.filter p).map f))) env) := by
  have key : ∀ (l : List D), (∀ d ∈ l, d ∈ items) → ∀ env1 : Env, env1.set i none = env.set i none → ∃ env2, env2.set i none = env.set i none ∧
      compL (fun d env => match asg (.name i) d (wipeE env (Tg.name i).slots) with
        | none => none
        | some env2 => bnd (evo G c env2) fun k env3 => if k then bnd (frz (ev G e env3)) fun x env4 => some (.ok (some x) env4) else some (.ok none env3)) l env1 = some (.ok ((l.filter p).map f) env2) := by
    intro l
    induction l with
    | nil => intro _ env1 h1; exact ⟨env1, h1, rfl⟩
    | cons d l ih =>
      intro hl env1 h1
      have hd := hl d List.mem_cons_self
      have ea : asg (.name i) d (wipeE env1 (Tg.name i).slots) = some (env.set i (some (.val d))) := by
        show asg (.name i) d (env1.set i none) = _
        unfold asg
        rw [h1, if_pos (by rw [List.length_set]; exact hi.1), List.set_set]
      obtain ⟨env2, g1, g2⟩ := ih (fun d' h' => hl d' (List.mem_cons_of_mem _ h')) (env.set i (some (.val d))) (by rw [List.set_set])
      refine ⟨env2, g1, ?_⟩
      unfold compL
      simp only [ea, hc d hd, bnd_ok]
      cases hp : p d with
      | true => rw [if_pos rfl, h d hd hp]; simp only [bnd_ok, g2, List.filter_cons, hp, if_true, List.map_cons]
      | false => rw [if_neg Bool.false_ne_true]; simp only [bnd_ok, g2, List.filter_cons, hp]; rfl
  obtain ⟨env2, g1, g2⟩ := key items (fun _ h => h) env rfl
  unfold ev
  rw [hit, bnd_ok]
  refine (congrArg (fun r => bnd (noErr r) fun xs env2 => some (Out.ok (TV.imm (PyData.list xs)) (back env env2 [i]))) g2).trans ?_
  show some (Out.ok (TV.imm (.list _)) (back env env2 [i])) = _
  rw [back1 hi g1]
theorem ev_comp1ng {G : Gam} {e : E} {i : Nat} {it : It} {env0 env : Env} {items : List D} {f : D → D} (hit : evIt G it env0 = some (.ok items env)) (hi : noOwn env i)
    (h : ∀ d ∈ items, frz (ev G e (env.set i (some (.val d)))) = some (.ok (f d) (env.set i (some (.val d))))) :
    ev G (.comp e (.name i) it .non) env0 = some (.ok (.imm (.list (items.map f))) env) := by
  have := ev_comp1g (p := fun _ => true) (c := .non) (f := f) hit hi (fun d _ => by unfold evo; rfl) (fun d hd _ => h d hd)
  rwa [List.filter_eq_self.mpr (fun _ _ => rfl)] at this
theorem set_comm' {env : Env} {i j : Nat} {x y : Option Slot} (h : i ≠ j) : (env.set i x).set j y = (env.set j y).set i x := List.set_comm _ _ h
/-- a comprehension over two names, with a test -/
theorem ev_comp2g {G : Gam} {e : E} {i j : Nat} {it : It} {c : Eo} {env0 env : Env} {items : List (D × D)} {p : D × D → Bool} {f : D × D → D} (hij : i ≠ j) (hit : evIt G it env0 = some (.ok (items.map fun q => .tuple [q.1, q.2]) env)) (hi : noOwn env i) (hj : noOwn env j)
    (hc : ∀ d ∈ items, evo G c ((env.set i (some (.val d.1))).set j (some (.val d.2))) = some (.ok (p d) ((env.set i (some (.val d.1))).set j (some (.val d.2)))))
    (h : ∀ d ∈ items, p d = true → frz (ev G e ((env.set i (some (.val d.1))).set j (some (.val d.2)))) = some (.ok (f d) ((env.set i (some (.val d.1))).set j (some (.val d.2))))) :
    ev G (.comp e (.pair (.name i) (.name j)) it c) env0 = some (.ok (.imm (.list ((items.filter p).map f))) env) := by
  have key : ∀ (l : List (D × D)), (∀ d ∈ l, d ∈ items) → ∀ env1 : Env, (env1.set i none).set j none = (env.set i none).set j none → ∃ env2, (env2.set i none).set j none = (env.set i none).set j none ∧
      compL (fun d env => match asg (.pair (.name i) (.name j)) d (wipeE env (Tg.pair (.name i) (.name j)).slots) with
        | none => none
        | some env2 => bnd (evo G c env2) fun k env3 => if k then bnd (frz (ev G e env3)) fun x env4 => some (.ok (some x) env4) else some (.ok none env3)) (l.map fun q => .tuple [q.1, q.2]) env1 = some (.ok ((l.filter p).map f) env2) := by
    intro l
    induction l with
    | nil => intro _ env1 h1; exact ⟨env1, h1, rfl⟩
    | cons d l ih =>
      intro hl env1 h1
      have hd := hl d List.mem_cons_self
      have ea : asg (.pair (.name i) (.name j)) (.tuple [d.1, d.2]) (wipeE env1 (Tg.pair (.name i) (.name j)).slots) = some ((env.set i (some (.val d.1))).set j (some (.val d.2))) := by
        show asg (.pair (.name i) (.name j)) (.tuple [d.1, d.2]) ((env1.set j none).set i none) = _
        rw [set_comm' (Ne.symm hij), h1]
        unfold asg asg
        rw [if_pos (by rw [List.length_set, List.length_set]; exact hi.1)]
        simp only [Option.bind_some]
        rw [if_pos (by rw [List.length_set, List.length_set, List.length_set]; exact hj.1)]
        rw [set_comm' (x := none) (y := none) hij, List.set_set, set_comm' (Ne.symm hij), List.set_set]
      obtain ⟨env2, g1, g2⟩ := ih (fun d' h' => hl d' (List.mem_cons_of_mem _ h')) ((env.set i (some (.val d.1))).set j (some (.val d.2))) (by rw [set_comm' hij, List.set_set, set_comm' (Ne.symm hij), List.set_set])
      refine ⟨env2, g1, ?_⟩
      rw [List.map_cons]
      unfold compL
      simp only [ea, hc d hd, bnd_ok]
      cases hp : p d with
      | true => rw [if_pos rfl, h d hd hp]; simp only [bnd_ok, g2, List.filter_cons, hp, if_true, List.map_cons]
      | false => rw [if_neg Bool.false_ne_true]; simp only [bnd_ok, g2, List.filter_cons, hp]; rfl
  obtain ⟨env2, g1, g2⟩ := key items (fun _ h => h) env rfl
  unfold ev
  rw [hit, bnd_ok]
  refine (congrArg (fun r => bnd (noErr r) fun xs env2 => some (Out.ok (TV.imm (PyData.list xs)) (back env env2 [i, j]))) g2).trans ?_
  show some (Out.ok (TV.imm (.list _)) (back env env2 [i, j])) = _
  obtain ⟨o, ho, hno⟩ : ∃ o, env[j]? = some o ∧ ∀ k xs, o ≠ some (.own k xs) := ⟨env[j]'hj.1, List.getElem?_eq_getElem hj.1, fun k xs z => hj.2 k xs (by rw [List.getElem?_eq_getElem hj.1, z])⟩
  have e1 : back env env2 [j] = env2.set j o := by
    unfold back back
    rw [ho]
    cases o with
    | none => rfl
    | some s =>
      cases s with
      | val d => rfl
      | own k xs => exact absurd rfl (hno k xs)
  have e2 : (env2.set j o).set i none = env.set i none := by
    have := congrArg (fun l => l.set j o) g1
    simp only [List.set_set] at this
    rw [set_comm' (Ne.symm hij), this]
    rw [set_comm' hij]
    rw [set_same (env := env) ho]
  have := back1 hi e2
  unfold back at this ⊢
  rw [e1]
  unfold back at this
  rw [this]
theorem ev_comp2ng {G : Gam} {e : E} {i j : Nat} {it : It} {env0 env : Env} {items : List (D × D)} {f : D × D → D} (hij : i ≠ j) (hit : evIt G it env0 = some (.ok (items.map fun q => .tuple [q.1, q.2]) env)) (hi : noOwn env i) (hj : noOwn env j)
    (h : ∀ d ∈ items, frz (ev G e ((env.set i (some (.val d.1))).set j (some (.val d.2)))) = some (.ok (f d) ((env.set i (some (.val d.1))).set j (some (.val d.2))))) :
    ev G (.comp e (.pair (.name i) (.name j)) it .non) env0 = some (.ok (.imm (.list (items.map f))) env) := by
  have := ev_comp2g (p := fun _ => true) (c := .non) (f := f) hij hit hi hj (fun d _ => by unfold evo; rfl) (fun d hd _ => h d hd)
  rwa [List.filter_eq_self.mpr (fun _ _ => rfl)] at this
theorem ev_comp1 {G : Gam} {e : E} {i : Nat} {it : It} {c : Eo} {env : Env} {items : List D} {p : D → Bool} {f : D → D} (hit : evIt G it env = some (.ok items env)) (hi : noOwn env i)
    (hc : ∀ d ∈ items, evo G c (env.set i (some (.val d))) = some (.ok (p d) (env.set i (some (.val d)))))
    (h : ∀ d ∈ items, p d = true → frz (ev G e (env.set i (some (.val d)))) = some (.ok (f d) (env.set i (some (.val d))))) :
    ev G (.comp e (.name i) it c) env = some (.ok (.imm (.list ((items.filter p).map f))) env) := ev_comp1g hit hi hc h
theorem ev_comp1n {G : Gam} {e : E} {i : Nat} {it : It} {env : Env} {items : List D} {f : D → D} (hit : evIt G it env = some (.ok items env)) (hi : noOwn env i)
    (h : ∀ d ∈ items, frz (ev G e (env.set i (some (.val d)))) = some (.ok (f d) (env.set i (some (.val d))))) :
    ev G (.comp e (.name i) it .non) env = some (.ok (.imm (.list (items.map f))) env) := ev_comp1ng hit hi h
theorem ev_comp2 {G : Gam} {e : E} {i j : Nat} {it : It} {c : Eo} {env : Env} {items : List (D × D)} {p : D × D → Bool} {f : D × D → D} (hij : i ≠ j) (hit : evIt G it env = some (.ok (items.map fun q => .tuple [q.1, q.2]) env)) (hi : noOwn env i) (hj : noOwn env j)
    (hc : ∀ d ∈ items, evo G c ((env.set i (some (.val d.1))).set j (some (.val d.2))) = some (.ok (p d) ((env.set i (some (.val d.1))).set j (some (.val d.2)))))
    (h : ∀ d ∈ items, p d = true → frz (ev G e ((env.set i (some (.val d.1))).set j (some (.val d.2)))) = some (.ok (f d) ((env.set i (some (.val d.1))).set j (some (.val d.2))))) :
    ev G (.comp e (.pair (.name i) (.name j)) it c) env = some (.ok (.imm (.list ((items.filter p).map f))) env) := ev_comp2g hij hit hi hj hc h
theorem ev_comp2n {G : Gam} {e : E} {i j : Nat} {it : It} {env : Env} {items : List (D × D)} {f : D × D → D} (hij : i ≠ j) (hit : evIt G it env = some (.ok (items.map fun q => .tuple [q.1, q.2]) env)) (hi : noOwn env i) (hj : noOwn env j)
    (h : ∀ d ∈ items, frz (ev G e ((env.set i (some (.val d.1))).set j (some (.val d.2)))) = some (.ok (f d) ((env.set i (some (.val d.1))).set j (some (.val d.2))))) :
    ev G (.comp e (.pair (.name i) (.name j)) it .non) env = some (.ok (.imm (.list (items.map f))) env) := ev_comp2ng hij hit hi hj h
/-- a loop, by what it carries -/
theorem forL_rel {α : Type} {R : α → Env → Prop} {step : D → Env → Option SO} {f : α → D → α} : ∀ {items : List D}, (∀ a env d, d ∈ items → R a env → ∃ env', step d env = some (.next env') ∧ R (f a d) env') → ∀ a env, R a env → ∃ env', forL step items env = some (.next env') ∧ R (items.foldl f a) env'
  | [], _, a, env, r => ⟨env, rfl, r⟩
  | d :: ds, h, a, env, r => by
    obtain ⟨e1, h1, r1⟩ := h a env d List.mem_cons_self r
    obtain ⟨e2, h2, r2⟩ := forL_rel (fun a env d hd => h a env d (List.mem_cons_of_mem _ hd)) (f a d) e1 r1
    exact ⟨e2, by unfold forL; rw [h1]; exact h2, r2⟩
theorem forL_inv {R : Env → Prop} {step : D → Env → Option SO} {items : List D} (h : ∀ env d, d ∈ items → R env → ∃ env', step d env = some (.next env') ∧ R env') (env : Env) (r : R env) : ∃ env', forL step items env = some (.next env') ∧ R env' :=
  forL_rel (R := fun (_ : Unit) env => R env) (f := fun a _ => a) (fun _ env d hd r => h env d hd r) () env r
/-- a loop that may return -/
theorem forL_ret {R : Env → Prop} {step : D → Env → Option SO} {p : D → Option D} : ∀ {items : List D}, (∀ env d, d ∈ items → R env → match p d with
    | none => ∃ env', step d env = some (.next env') ∧ R env'
    | some r => ∃ env', step d env = some (.ret r env')) → ∀ env, R env → match items.findSome? p with
    | none => ∃ env', forL step items env = some (.next env') ∧ R env'
    | some r => ∃ env', forL step items env = some (.ret r env')
  | [], _, env, r => ⟨env, rfl, r⟩
  | d :: ds, h, env, r => by
    have h0 := h env d List.mem_cons_self r
    rw [List.findSome?_cons]
    cases hp : p d with
    | some x =>
      rw [hp] at h0
      obtain ⟨e1, h1⟩ := h0
      exact ⟨e1, by unfold forL; rw [h1]⟩
    | none =>
      rw [hp] at h0
      obtain ⟨e1, h1, r1⟩ := h0
      have := forL_ret (fun env d hd => h env d (List.mem_cons_of_mem _ hd)) e1 r1
      have ef : forL step (d :: ds) env = forL step ds e1 := by
        conv => lhs; unfold forL
        rw [h1]
      rw [ef]
      exact this
theorem evIt_r1 {G : Gam} {a : E} {env : Env} {i : Int} {items : List D} (h1 : ev G a env = some (.ok (.imm (.int i)) env)) (h3 : rangeD 0 i = some items) : evIt G (.range1 a) env = some (.ok items env) := by
  rw [evIt_range1, h1, bnd_ok, rd_imm, Option.bind_some, rng1D_int, h3, opt_some]
theorem evIt_r2 {G : Gam} {a b : E} {env : Env} {i j : Int} {items : List D} (h1 : ev G a env = some (.ok (.imm (.int i)) env)) (h2 : ev G b env = some (.ok (.imm (.int j)) env)) (h3 : rangeD i j = some items) : evIt G (.range2 a b) env = some (.ok items env) := by
  rw [evIt_range2, h1, bnd_ok, h2, bnd_ok, rd_imm, rd_imm, Option.bind_some, Option.bind_some, rng2D_int, h3, opt_some]
/-! ### values -/
@[simp] theorem ints?_ints (ns : List Int) : ints? (ns.map .int) = some ns := by
  induction ns with
  | nil => rfl
  | cons a r ih => rw [List.map_cons]; unfold ints?; rw [ih]; rfl
theorem ints?_map {α : Type} (f : α → Int) (l : List α) : ints? (l.map fun x => .int (f x)) = some (l.map f) := by
  have := ints?_ints (l.map f)
  rwa [List.map_map] at this
theorem bools?_map {α : Type} (f : α → Bool) (l : List α) : bools? (l.map fun x => .bool (f x)) = some (l.map f) := by
  induction l with
  | nil => rfl
  | cons a r ih => rw [List.map_cons]; unfold bools?; rw [ih]; rfl
end M.Z
/-! The law's row, whole. -/
namespace M
open PySem PySem.Spec PyProof.Rows L2 Z
/-- a cell of the script -/
def m_l_cell : M.Sem := fun rs ds => match rs, ds with
  | [], [.dict kvs, .int k] => if 0 ≤ k ∧ kvs.length ≤ 63 then (if kvs.isEmpty then some (.ok (.int (k * 7919), [])) else match kvs[(k % (kvs.length : Int)).toNat]? with
    | some (.int i, _) => some (.ok (.int (i + k / (kvs.length : Int) * 104729), []))
    | _ => none) else none
  | _, _ => none
theorem mir_l_cell {G : Gam} : Mir0 G 2 2 b_l_cell m_l_cell := by
  intro ds hl
  match ds, hl with
  | [x, y], _ =>
    unfold m_l_cell
    split
    · rename_i d e
      split at e
      · rename_i kvs k e1 e2
        cases e2
        split at e
        · rename_i hk
          split at e
          · rename_i he
            cases e
            refine ⟨0, .inl ⟨env0 2 [.val (.dict kvs), .val (.int k)], ?_⟩⟩
            simp [b_l_cell, exs_cons, env0, ev_var, lim, he, bin_mul, mul_small]
          · rename_i he
            split at e
            · rename_i i d' ei
              cases e
              refine ⟨0, .inl ⟨env0 2 [.val (.dict kvs), .val (.int k)], ?_⟩⟩
              have hl : 0 < kvs.length := by
                cases kvs with
                | nil => exact absurd rfl he
                | cons a r => simp
              have h1 : (0 : Int) < kvs.length := by omega
              have h2 : fits 8000 (kvs.length : Int) = true := fits_small (by decide) (by simp; omega)
              have h0 : 0 ≤ k % (kvs.length : Int) := Int.emod_nonneg _ (by omega)
              have h3 : (k % (kvs.length : Int)).toNat < kvs.length := by have := Int.emod_lt_of_pos k h1; omega
              have hp : place? kvs.length (k % (kvs.length : Int)) = some (k % (kvs.length : Int)).toNat := by unfold place?; rw [if_pos h0, if_pos h3]
              have hne : kvs.isEmpty = false := by simpa using he
              simp [b_l_cell, exs_cons, env0, ev_var, lim, hne, bin_mul, mul_small, bin_mod, bin_fdiv, hl, h2, idx_held, hp, ei]
            · cases e
        · cases e
      · cases e
    · rename_i c e
      split at e
      · split at e
        · split at e
          · cases e
          · split at e <;> cases e
        · cases e
      · cases e
    · trivial

/-! ### the rounds -/
def cellV (kvs : List (M.D × M.D)) (k : Int) : Int := if kvs.isEmpty then k * 7919 else match kvs[(k % (kvs.length : Int)).toNat]? with
  | some (.int i, _) => i + k / (kvs.length : Int) * 104729
  | _ => 0
def isIP : M.D × M.D → Bool
  | (.int _, _) => true
  | _ => false
def rnN (m : Int) (l : Nat) : Int := if 1 < (if (l : Int) < m then (l : Int) else m) then (if (l : Int) < m then (l : Int) else m) else 1
def roundsF (ds : List M.D) : Option (List (List M.D)) := match ds with
  | [.dict kvs, .int m] => if kvs.length ≤ 63 ∧ 0 ≤ m ∧ m ≤ 1000 ∧ kvs.all isIP = true then some ((List.range (rnN m kvs.length).toNat).map fun (k : Nat) => [.int (cellV kvs k), .int 0]) else none
  | _ => none
theorem m_cell_at {kvs : List (M.D × M.D)} {k : Int} (h0 : 0 ≤ k) (hl : kvs.length ≤ 63) (hi : kvs.all isIP = true) : m_l_cell [] [.dict kvs, .int k] = some (.ok (.int (cellV kvs k), [])) := by
  show (if 0 ≤ k ∧ kvs.length ≤ 63 then _ else none) = _
  rw [if_pos ⟨h0, hl⟩]
  unfold cellV
  by_cases he : kvs.isEmpty = true
  · rw [if_pos he, if_pos he]
  · rw [if_neg he, if_neg he]
    have hp : 0 < kvs.length := by
      cases kvs with
      | nil => exact absurd rfl he
      | cons a r => simp
    have h1 := Int.emod_nonneg k (b := (kvs.length : Int)) (by omega)
    have h2 := Int.emod_lt_of_pos k (b := (kvs.length : Int)) (by omega)
    have h3 : (k % (kvs.length : Int)).toNat < kvs.length := by omega
    rw [List.getElem?_eq_getElem h3]
    have h4 := List.all_eq_true.mp hi _ (List.getElem_mem h3)
    generalize kvs[(k % (kvs.length : Int)).toNat]'h3 = p at h4 ⊢
    obtain ⟨p1, p2⟩ := p
    cases p1 <;> first | rfl | (cases h4; done)
def rIt : M.It := .range1 (.bi .max2 (.cons (.int 1) (.cons (.bi .min2 (.cons (.var 1) (.cons (.bi .len (.cons (.var 0) .nil)) .nil))) .nil)))
def rEl : M.E := .lst (.cons (.call .l_cell [] (.cons (.var 0) (.cons (.var 2) .nil))) (.cons (.int 0) .nil))
theorem rounds_run {G : Gam} (hG : G .l_cell = m_l_cell) (ds : List M.D) (hd : ds.length = 2) : match roundsF ds with
      | some lists => ∃ items env1 env2, evIt G rIt (env0 3 (ds.map .val)) = some (.ok items env1) ∧ compL (stepC (.name 2) (fun env => some (.ok true env)) (ev G rEl)) items env1 = some (.ok (lists.map .list) env2)
      | none => True := by
  split
  · rename_i lists e
    unfold roundsF at e
    split at e
    · rename_i kvs m
      split at e
      · rename_i hc
        obtain ⟨h1, h2, h3, h4⟩ := hc
        cases e
        have hr : -1000000 ≤ (0 : Int) ∧ (0 : Int) ≤ 1000000 ∧ -1000000 ≤ rnN m kvs.length ∧ rnN m kvs.length ≤ 1000000 := by
          unfold rnN
          split <;> (try split) <;> omega
        refine ⟨(List.range (rnN m kvs.length).toNat).map fun (k : Nat) => .int k, env0 3 [.val (.dict kvs), .val (.int m)], ?_⟩
        have key : ∀ (l : List Nat) (o : Option Slot), ∃ env2, compL (stepC (.name 2) (fun env => some (.ok true env)) (ev G rEl)) (l.map fun (k : Nat) => .int k) [some (.val (.dict kvs)), some (.val (.int m)), o] = some (.ok ((l.map fun (k : Nat) => [.int (cellV kvs k), .int 0]).map .list) env2) := by
          intro l
          induction l with
          | nil => intro o; exact ⟨_, rfl⟩
          | cons k l ih =>
            intro o
            obtain ⟨env2, e2⟩ := ih (some (.val (.int (k : Nat))))
            refine ⟨env2, ?_⟩
            have e1 : stepC (.name 2) (fun env => some (.ok true env)) (ev G rEl) (.int (k : Nat)) [some (.val (.dict kvs)), some (.val (.int m)), o] = some (.ok (some (.list [.int (cellV kvs k), .int 0])) [some (.val (.dict kvs)), some (.val (.int m)), some (.val (.int (k : Nat)))]) := by
              have ec : ev G (.call .l_cell [] (.cons (.var 0) (.cons (.var 2) .nil))) [some (.val (.dict kvs)), some (.val (.int m)), some (.val (.int (k : Nat)))] = some (.ok (.imm (.int (cellV kvs k))) [some (.val (.dict kvs)), some (.val (.int m)), some (.val (.int (k : Nat)))]) :=
                call0 (ds := [.dict kvs, .int k]) (by simp [ev_var]) (by rw [hG]; exact m_cell_at (by omega) h1 h4)
              simp [stepC, Tg.slots, wipeE, Z.asg_name, rEl, ec, lim]
            rw [List.map_cons, List.map_cons, List.map_cons]
            unfold compL
            rw [e1, bnd_ok, e2]
            rfl
        obtain ⟨env2, e2⟩ := key (List.range (rnN m kvs.length).toNat) none
        refine ⟨env2, ?_, e2⟩
        have hmx : (if (1 : Int) < (if (kvs.length : Int) < m then (kvs.length : Int) else m) then (if (kvs.length : Int) < m then (kvs.length : Int) else m) else 1) = rnN m kvs.length := rfl
        simp [rIt, env0, ev_var, hmx, range_ok hr]
      · cases e
    · cases e
  · trivial
/-! ### the law -/
def lawB (K : Frag) (N : List Str) (fs : List Fn) (gs : List Gc) (cs : List Cls) (told : Bool) (P : Addr) (most : Int) (b : List S) : Bool := defB K "law" ["script"] fun scope body cdv => C8.scC N ["script"] scope && decide (2 ≤ N.length) && chkLaw ⟨scope, scope, N, fs, gs, cs, told⟩ most b body &&
  (!told || (match cdv with
    | .ref c => PySem.W.codeHdIn K c P
    | _ => false))
theorem law_atT {l : PySem.W.OpenLaw} {w : World} {K : Frag} {mg : Str → Option Value} {fa : Addr} {h : Heap} {G : Gam} {N : List Str} {fs : List Fn} {gs : List Gc} {cs : List Cls} {most : Int} {b : List S} {P : Addr} {k : Nat} (KX : K.In h) (Gn : h.Ns mainGlobals mg) (hfa : mg "law" = some (.ref fa)) (hP : h.get? P = some { cls := .none, data := .fields #[] }) (hKP : K.lookup P = none)
    (e1 : tellB K = true) (e2 : mdB K gs cs = true) (e3 : roundsB K ["script", "most", "k"] [.l_cell] = true) (e4 : lawB K N fs gs cs true P most b = true) (hG : G .l_cell = m_l_cell) (e5 : defC K .l_cell ["script", "k"] ["script", "k"] [] [] [] b_l_cell = true) (hm0 : 0 ≤ most ∧ most ≤ 1000)
    (hf : ∀ d : Md, d.K = K → d.mg = mg → K.In d.base → d.base.Ns mainGlobals mg → ∀ g ∈ fs, FOk ⟨K, [(P, ("law" : Str) ++ ".<locals>." ++ "<lambda>")], clA K⟩ G d k g)
    (hm : ∀ c : Int, ∃ env, exs G 0 b (envD N.length 1 [.int c, .int 0]) = some (.next env) ∧ env.length = N.length) (hk : 2 ≤ k) :
    LamX.LawAtS l w K (L2N.CX l.prog w) (k + 3) 63 "script" mg fa h := by
  obtain ⟨fl, oc, od, params, body, scope, kV, doc, pm, an, cdv, ct, osl, h1, h2, h3, h4, h5, h6⟩ := defB_ok KX Gn e4
  simp only [Bool.and_eq_true, decide_eq_true_eq, Bool.not_true, Bool.false_or] at h6
  obtain ⟨⟨⟨h6, h7⟩, h8⟩, h9⟩ := h6
  rw [hfa] at h4
  cases h4
  split at h9
  · rename_i c
    refine ⟨PySem.W.fnOf "law" "law" params body scope .none kV doc pm an (.ref c) ct, [(c, P)], spLaw ⟨K, [(P, ("law" : Str) ++ ".<locals>." ++ "<lambda>")], clA K⟩, fun p hp => ?_, fun p hp => ?_, fun p hp => ?_, fun s u => ?_, fun H a ns hl _ hH hS => ?_, fun base KB GB TB => ?_⟩
    · rw [List.mem_singleton.mp hp]; exact hP
    · rw [List.mem_singleton.mp hp]; exact hKP
    · rw [List.mem_singleton.mp hp]; exact PySem.W.codeHd_of_K KX h9
    · exact .of_eq (h5 [u] rfl)
    · refine ⟨a, ns, rfl, hl, fun p hp => ?_, hS, fun _ => rfl⟩
      rw [List.mem_singleton.mp hp]
      exact LamX.TabS.nil (hH (c, P) (List.mem_singleton.mpr rfl))
    · let n : Cn := ⟨K, [(P, ("law" : Str) ++ ".<locals>." ++ "<lambda>")], clA K⟩
      let d : Md := ⟨l.prog, w, K, mg, base⟩
      have md : MdOk n d gs cs := md_ok (d := d) KB GB rfl rfl e2
      have hf := hf d rfl rfl KB GB
      have md0 : MdOk n d [] [] := md_ok (d := d) KB GB rfl rfl (by
        have e2 := e2
        unfold mdB at e2 ⊢
        simp only [Bool.and_eq_true] at e2 ⊢
        exact ⟨⟨e2.1.1, rfl⟩, rfl⟩)
      have cell : FOk n G d 1 .l_cell := by
        have := def_ok (G := G) (k := 0) (n := n) (d := d) (sem := m_l_cell) KB GB md0 e5 (fun g hg => by cases hg) mir_l_cell
        show FOkS n (G .l_cell) d 1 .l_cell
        rw [hG]
        exact this
      unfold roundsB at e3
      obtain ⟨fr, oc', od', params', body', scope', kV', doc', pm', an', cdv', ct', osl', r1, r2, r3, r4, r5, r6⟩ := defB_ok KB GB e3
      rw [Bool.and_eq_true] at r6
      have R := fn_news (n := n) (G := G) (d := d) (k := 1) (np := 2) (st := stOf "_law_rounds" params' body' scope') (s := roundsF) (fd := PySem.W.fnOf "_law_rounds" "_law_rounds" params' body' scope' .none kV' doc' pm' an' cdv' ct') md0 (fs := [.l_cell]) (fun g hg => by rw [List.mem_singleton.mp hg]; exact cell) ⟨⟨oc', od', kV', doc', pm', an', cdv', ct', osl', rfl, r1, r2⟩, r3⟩ (C8.fnScope_by r6.1) rfl rfl r6.2 (rounds_run hG)
      refine law_sound (n := n) (G := G) (d := d) (k := k) (kr := 2) (st := stOf "law" params body scope) (told := true) (sR := roundsF) md hf h1 h2 (C8.fnScope_by h6) h7 (fun _ => ⟨c, P, rfl, tell_ok KB GB rfl rfl e1 (TB (c, P) (List.mem_singleton.mpr rfl)) hf⟩) R (by omega) r4 r3 (.all r5) h8 fun ns hl => ?_
      refine ⟨(List.range (rnN most (ns.map fun i => ((.int i, .none) : M.D × M.D)).length).toNat).map fun (k : Nat) => [.int (cellV (ns.map fun i => ((.int i, .none) : M.D × M.D)) k), .int 0], ?_, fun l' hl' => ?_⟩
      · exact if_pos ⟨by rw [List.length_map]; exact hl, hm0.1, hm0.2, by rw [List.all_map]; exact List.all_eq_true.mpr fun _ _ => rfl⟩
      · obtain ⟨kk, _, rfl⟩ := List.mem_map.mp hl'
        exact hm _
  · cases h9
end M
/-! Mirrors: forms. -/
namespace M
open Z
/-! ### shapes of mirrors -/
abbrev Ans := Option (Except Cls D)
def lift (r : Except Cls D) : Except Cls (D × List (List D)) := match r with
  | .ok d => .ok (d, [])
  | .error c => .error c
@[simp] theorem lift_ok (d : D) : lift (.ok d) = .ok (d, []) := rfl
@[simp] theorem lift_err (c : Cls) : lift (.error c) = .error c := rfl
def sem1 (f : D → Ans) : Sem := fun rs ds => match rs, ds with
  | [], [x] => (f x).map lift
  | _, _ => none
def sem2 (f : D → D → Ans) : Sem := fun rs ds => match rs, ds with
  | [], [x, y] => (f x y).map lift
  | _, _ => none
def sem3 (f : D → D → D → Ans) : Sem := fun rs ds => match rs, ds with
  | [], [x, y, z] => (f x y z).map lift
  | _, _ => none
def sem4 (f : D → D → D → D → Ans) : Sem := fun rs ds => match rs, ds with
  | [], [x, y, z, w] => (f x y z w).map lift
  | _, _ => none
@[simp] theorem sem1_at (f : D → Ans) (x : D) : sem1 f [] [x] = (f x).map lift := rfl
@[simp] theorem sem2_at (f : D → D → Ans) (x y : D) : sem2 f [] [x, y] = (f x y).map lift := rfl
@[simp] theorem sem3_at (f : D → D → D → Ans) (x y z : D) : sem3 f [] [x, y, z] = (f x y z).map lift := rfl
@[simp] theorem sem4_at (f : D → D → D → D → Ans) (x y z w : D) : sem4 f [] [x, y, z, w] = (f x y z w).map lift := rfl
/-- what a body's run gives -/
def Runs (G : Gam) (N : Nat) (b : List S) (args : List D) (r : Except Cls D) : Prop := match r with
  | .ok d => ∃ fuel, Ends0 (exs G fuel b (env0 N (args.map .val))) d
  | .error c => ∃ fuel env, exs G fuel b (env0 N (args.map .val)) = some (.err c env)
section
variable {G : Gam} {N : Nat} {b : List S}
theorem runs_sem {s : Sem} {ds : List D} {o : Ans} (e : s [] ds = o.map lift) (h : ∀ r, o = some r → Runs G N b ds r) : match s [] ds with
  | some (.ok (d, [])) => ∃ fuel, Ends0 (exs G fuel b (env0 N (ds.map .val))) d
  | some (.error c) => ∃ fuel env, exs G fuel b (env0 N (ds.map .val)) = some (.err c env)
  | _ => True := by
  rw [e]
  cases o with
  | none => trivial
  | some r => cases r with
    | ok d => exact h _ rfl
    | error c => exact h _ rfl
theorem mir_sem1 {f : D → Ans} (h : ∀ x r, f x = some r → Runs G N b [x] r) : Mir0 G N 1 b (sem1 f) := fun ds hl => match ds, hl with
  | [x], _ => runs_sem (sem1_at f x) (h x)
theorem mir_sem2 {f : D → D → Ans} (h : ∀ x y r, f x y = some r → Runs G N b [x, y] r) : Mir0 G N 2 b (sem2 f) := fun ds hl => match ds, hl with
  | [x, y], _ => runs_sem (sem2_at f x y) (h x y)
theorem mir_sem3 {f : D → D → D → Ans} (h : ∀ x y z r, f x y z = some r → Runs G N b [x, y, z] r) : Mir0 G N 3 b (sem3 f) := fun ds hl => match ds, hl with
  | [x, y, z], _ => runs_sem (sem3_at f x y z) (h x y z)
theorem mir_sem4 {f : D → D → D → D → Ans} (h : ∀ x y z w r, f x y z w = some r → Runs G N b [x, y, z, w] r) : Mir0 G N 4 b (sem4 f) := fun ds hl => match ds, hl with
  | [x, y, z, w], _ => runs_sem (sem4_at f x y z w) (h x y z w)
theorem runs_ret {args : List D} {d : D} {fuel : Nat} {env : Env} (h : exs G fuel b (env0 N (args.map .val)) = some (.ret d env)) : Runs G N b args (.ok d) := ⟨fuel, .inl ⟨env, h⟩⟩
theorem runs_next {args : List D} {fuel : Nat} {env : Env} (h : exs G fuel b (env0 N (args.map .val)) = some (.next env)) : Runs G N b args (.ok .none) := ⟨fuel, .inr ⟨rfl, env, h⟩⟩
theorem runs_err {args : List D} {c : Cls} {fuel : Nat} {env : Env} (h : exs G fuel b (env0 N (args.map .val)) = some (.err c env)) : Runs G N b args (.error c) := ⟨fuel, env, h⟩
end
/-! ### forms -/
def isNum : D → Bool
  | .int _ => true
  | _ => false
def F_is_number (x : D) : Ans := some (.ok (.bool (isNum x)))
theorem mir_is_number {G : Gam} : Mir0 G 1 1 b_is_number (sem1 F_is_number) := mir_sem1 fun x r h => by
  cases h
  refine runs_ret (fuel := 0) (env := [some (.val x)]) ?_
  cases x <;> simp [b_is_number, exs_cons, env0, ev_var, isNum, isTy]
def isWhole (d : D) (lo hi : Int) : Bool := match d with
  | .int i => decide (lo ≤ i) && decide (i ≤ hi)
  | _ => false
def F_is_whole (x y z : D) : Ans := match y, z with
  | .int lo, .int hi => some (.ok (.bool (isWhole x lo hi)))
  | _, _ => none
theorem mir_is_whole {G : Gam} (h1 : G .is_number = sem1 F_is_number) : Mir0 G 3 3 b_is_whole (sem3 F_is_whole) := mir_sem3 fun x y z r h => by
  unfold F_is_whole at h
  split at h
  · rename_i lo hi
    cases h
    refine runs_ret (fuel := 0) (env := [some (.val x), some (.val (.int lo)), some (.val (.int hi))]) ?_
    cases x with
    | int i => by_cases h2 : lo ≤ i <;> simp [b_is_whole, exs_cons, env0, ev_var, ev_call, owned, h1, F_is_number, isNum, giveBack, isWhole, h2]
    | _ => simp [b_is_whole, exs_cons, env0, ev_var, ev_call, owned, h1, F_is_number, isNum, giveBack, isWhole]
  · cases h
def rowLen (n : Nat) : Bool := n == 1 || n == 3 || n == 7 || n == 15
def isRow (d : D) (lo hi : Int) : Bool := match d with
  | .tuple xs => rowLen xs.length && xs.all (isWhole · lo hi)
  | _ => false
def F_is_row (x y z : D) : Ans := match y, z with
  | .int lo, .int hi => some (.ok (.bool (isRow x lo hi)))
  | _, _ => none
theorem mir_is_row {G : Gam} (h1 : G .is_whole = sem3 F_is_whole) : Mir0 G 4 3 b_is_row (sem3 F_is_row) := mir_sem3 fun x y z r h => by
  unfold F_is_row at h
  split at h
  · rename_i lo hi
    cases h
    refine runs_ret (fuel := 0) (env := [some (.val x), some (.val (.int lo)), some (.val (.int hi)), none]) ?_
    cases x with
    | tuple xs =>
      by_cases hl : rowLen xs.length = true
      · have hc := ev_comp1n (G := G) (e := .call .is_whole [] (.cons (.var 3) (.cons (.var 1) (.cons (.var 2) .nil)))) (i := 3) (it := .of (.var 0)) (env := [some (.val (.tuple xs)), some (.val (.int lo)), some (.val (.int hi)), none]) (items := xs) (f := fun d => .bool (isWhole d lo hi)) (by simp [ev_var]) (noOwn_none rfl) (fun d _ => by simp [ev_var, ev_call, owned, h1, F_is_whole, giveBack])
        have hm : ((xs.length : Int) = 1 ∨ (xs.length : Int) = 3 ∨ (xs.length : Int) = 7 ∨ (xs.length : Int) = 15) := by
          simp [rowLen] at hl; omega
        have hn : cmpD .nmem (.int (xs.length : Nat)) (.tuple [.int 1, .int 3, .int 7, .int 15]) = some false := by
          rw [cmp_nmemT (by rfl)]
          simp [PySem.PyData.eqv]
          omega
        simp [b_is_row, exs_cons, env0, ev_var, hc, isTy, hn, lim, bools?_map, isRow, hl]
      · have hn : cmpD .nmem (.int (xs.length : Nat)) (.tuple [.int 1, .int 3, .int 7, .int 15]) = some true := by
          rw [cmp_nmemT (by rfl)]
          simp [rowLen] at hl
          simp [PySem.PyData.eqv]
          omega
        simp [b_is_row, exs_cons, env0, ev_var, isTy, hn, lim, isRow, hl]
    | _ => simp [b_is_row, exs_cons, env0, ev_var, isTy, isRow]
  · cases h
def F_is_form (x : D) : Ans := some (.ok (.bool (isRow x (-99) 99)))
theorem mir_is_form {G : Gam} (h1 : G .is_row = sem3 F_is_row) : Mir0 G 1 1 b_is_form (sem1 F_is_form) := mir_sem1 fun x r h => by
  cases h
  refine runs_ret (fuel := 0) (env := [some (.val x)]) ?_
  simp [b_is_form, exs_cons, env0, ev_var, ev_call, owned, h1, F_is_row, giveBack]
def F_need_form (x : D) : Ans := some (if isRow x (-99) 99 then .ok .none else .error .form)
theorem mir_need_form {G : Gam} (h1 : G .is_form = sem1 F_is_form) : Mir0 G 1 1 b_need_form (sem1 F_need_form) := mir_sem1 fun x r h => by
  cases h
  by_cases hr : isRow x (-99) 99 = true
  · rw [if_pos hr]
    refine runs_next (fuel := 0) (env := [some (.val x)]) ?_
    simp [b_need_form, exs_cons, env0, ev_var, ev_call, owned, h1, F_is_form, giveBack, hr]
  · rw [if_neg hr]
    refine runs_err (fuel := 0) (env := [some (.val x)]) ?_
    simp [b_need_form, exs_cons, env0, ev_var, ev_call, owned, h1, F_is_form, giveBack, hr]
def srcN (n : Nat) : Option Int := if n = 1 then some 1 else if n = 3 then some 2 else if n = 7 then some 3 else if n = 15 then some 4 else none
def F_sources_of (x : D) : Ans := match x with
  | .tuple xs => (srcN xs.length).map fun i => .ok (.int i)
  | _ => none
theorem mir_sources_of {G : Gam} : Mir0 G 1 1 b_sources_of (sem1 F_sources_of) := mir_sem1 fun x r h => by
  unfold F_sources_of at h
  split at h
  · rename_i xs
    obtain ⟨i, h1, rfl⟩ := Option.map_eq_some_iff.mp h
    refine runs_ret (fuel := 0) (env := [some (.val (.tuple xs))]) ?_
    have : srcD (.int (xs.length : Nat)) = some (.int i) := by
      unfold srcN at h1
      unfold srcD
      repeat' split at h1
      all_goals first | (cases h1; done) | skip
      all_goals (cases h1; simp_all)
    simp [b_sources_of, exs_cons, env0, ev_var, this]
  · cases h
def F_need_count (x : D) : Ans := some (if isWhole x 1 4 then .ok .none else .error .count)
theorem mir_need_count {G : Gam} (h1 : G .is_whole = sem3 F_is_whole) : Mir0 G 1 1 b_need_count (sem1 F_need_count) := mir_sem1 fun x r h => by
  cases h
  by_cases hr : isWhole x 1 4 = true
  · rw [if_pos hr]
    refine runs_next (fuel := 0) (env := [some (.val x)]) ?_
    simp [b_need_count, exs_cons, env0, ev_var, ev_call, owned, h1, F_is_whole, giveBack, hr]
  · rw [if_neg hr]
    refine runs_err (fuel := 0) (env := [some (.val x)]) ?_
    simp [b_need_count, exs_cons, env0, ev_var, ev_call, owned, h1, F_is_whole, giveBack, hr]
end M
/-! Mirrors: forms from parts, elementary forms, bits, drawing. -/
namespace M
open Z
def el1 : List (List Int) := [[1]]
def el2 : List (List Int) := [[0, -1, 1], [-1, 0, 1], [1, 1, -1]]
def el3 : List (List Int) := [[0, 0, 0, 0, 0, -1, 1], [0, 0, 0, 0, -1, 0, 1], [0, 0, -1, 0, 0, 0, 1], [1, 1, -1, 0, 0, 0, 0], [0, 0, 0, -1, 1, 1, -1], [1, 0, 0, 1, -1, 0, 0], [0, -1, 1, 0, 0, 1, -1], [0, 1, 0, 1, 0, -1, 0], [-1, 0, 1, 0, 1, 0, -1]]
def el4 : List (List Int) := [[0, 0, 0, 0, 0, 0, 0, 0, 0, 0, 0, 0, 0, -1, 1], [0, 0, 0, 0, 0, 0, 0, 0, 0, 0, 0, 0, -1, 0, 1], [0, 0, 0, 0, 0, 0, 0, 0, 0, 0, -1, 0, 0, 0, 1], [0, 0, 0, 0, 0, 0, -1, 0, 0, 0, 0, 0, 0, 0, 1], [1, 1, -1, 0, 0, 0, 0, 0, 0, 0, 0, 0, 0, 0, 0], [0, 0, 0, -1, 1, 1, -1, 0, 0, 0, 0, 0, 0, 0, 0], [0, 0, 0, 0, 0, 0, 0, -1, 1, 1, -1, 0, 0, 0, 0], [0, 0, 0, 0, 0, 0, 0, 0, 0, 0, 0, -1, 1, 1, -1], [1, 0, 0, 1, -1, 0, 0, 0, 0, 0, 0, 0, 0, 0, 0], [0, -1, 1, 0, 0, 1, -1, 0, 0, 0, 0, 0, 0, 0, 0], [0, 0, 0, 0, 0, 0, 0, -1, 1, 0, 0, 1, -1, 0, 0], [0, 0, 0, 0, 0, 0, 0, 0, 0, -1, 1, 0, 0, 1, -1], [1, 0, 0, 0, 0, 0, 0, 1, -1, 0, 0, 0, 0, 0, 0], [0, -1, 1, 0, 0, 0, 0, 0, 0, 1, -1, 0, 0, 0, 0], [0, 0, 0, -1, 1, 0, 0, 0, 0, 0, 0, 1, -1, 0, 0], [0, 0, 0, 0, 0, -1, 1, 0, 0, 0, 0, 0, 0, 1, -1], [0, 1, 0, 1, 0, -1, 0, 0, 0, 0, 0, 0, 0, 0, 0], [-1, 0, 1, 0, 1, 0, -1, 0, 0, 0, 0, 0, 0, 0, 0], [0, 0, 0, 0, 0, 0, 0, -1, 0, 1, 0, 1, 0, -1, 0], [0, 0, 0, 0, 0, 0, 0, 0, -1, 0, 1, 0, 1, 0, -1], [0, 1, 0, 0, 0, 0, 0, 1, 0, -1, 0, 0, 0, 0, 0], [-1, 0, 1, 0, 0, 0, 0, 0, 1, 0, -1, 0, 0, 0, 0], [0, 0, 0, -1, 0, 1, 0, 0, 0, 0, 0, 1, 0, -1, 0], [0, 0, 0, 0, -1, 0, 1, 0, 0, 0, 0, 0, 1, 0, -1], [0, 0, 0, 1, 0, 0, 0, 1, 0, 0, 0, -1, 0, 0, 0], [-1, 0, 0, 0, 1, 0, 0, 0, 1, 0, 0, 0, -1, 0, 0], [0, -1, 0, 0, 0, 1, 0, 0, 0, 1, 0, 0, 0, -1, 0], [0, 0, -1, 0, 0, 0, 1, 0, 0, 0, 1, 0, 0, 0, -1]]
/-- the elementary forms -/
def elemI (m : Int) : List (List Int) := if m = 1 then el1 else if m = 2 then el2 else if m = 3 then el3 else if m = 4 then el4 else []
def tupI (ns : List Int) : D := .tuple (ns.map .int)
def pairs? (size : Int) : List D → Option (List (Int × Int))
  | [] => some []
  | .tuple [.int n, .int f] :: r => if 0 ≤ n ∧ n < size then (pairs? size r).map ((n, f) :: ·) else none
  | _ :: _ => none
def addAt (acc : List Int) (p : Int × Int) : List Int := acc.set p.1.toNat (acc.getD p.1.toNat 0 + p.2)
def formL (size : Nat) (ps : List (Int × Int)) : List Int := ps.foldl addAt (List.replicate size 0)
def pw (m : Int) : Nat := 2 ^ m.toNat
def F_form_of (x y : D) : Ans := match x, y with
  | .int m, .list ps => if 0 ≤ m ∧ m ≤ 4 then (pairs? (pw m : Nat) ps).map fun qs => .ok (tupI ((formL (pw m) qs).drop 1)) else none
  | _, _ => none
theorem addAt_len (acc : List Int) (p : Int × Int) : (addAt acc p).length = acc.length := by unfold addAt; rw [List.length_set]
theorem formL_len (size : Nat) (ps : List (Int × Int)) : (formL size ps).length = size := by
  have : ∀ (ps : List (Int × Int)) (acc : List Int), (ps.foldl addAt acc).length = acc.length := fun ps => by
    induction ps with
    | nil => intro acc; rfl
    | cons p ps ih => intro acc; rw [List.foldl_cons, ih, addAt_len]
  unfold formL
  rw [this, List.length_replicate]
theorem pairs_mem {size : Int} : ∀ {ps : List D} {qs : List (Int × Int)}, pairs? size ps = some qs → ps = qs.map (fun q => .tuple [.int q.1, .int q.2]) ∧ ∀ q ∈ qs, 0 ≤ q.1 ∧ q.1 < size := by
  intro ps
  induction ps with
  | nil => intro qs h; cases h; exact ⟨rfl, fun q hq => by cases hq⟩
  | cons p ps ih =>
    intro qs h
    unfold pairs? at h
    split at h
    · cases ‹p :: ps = []›
    · rename_i n f r e
      cases e
      split at h
      · rename_i hn
        obtain ⟨qs', h1, rfl⟩ := Option.map_eq_some_iff.mp h
        obtain ⟨h2, h3⟩ := ih h1
        refine ⟨by rw [h2]; rfl, fun q hq => ?_⟩
        rcases List.mem_cons.mp hq with rfl | hq
        · exact hn
        · exact h3 q hq
      · cases h
    · cases h
theorem pairs_of {size : Int} : ∀ {qs : List (Int × Int)}, (∀ q ∈ qs, 0 ≤ q.1 ∧ q.1 < size) → pairs? size (qs.map (fun q => .tuple [.int q.1, .int q.2])) = some qs := by
  intro qs
  induction qs with
  | nil => intro _; rfl
  | cons q qs ih =>
    intro h
    rw [List.map_cons]
    unfold pairs?
    rw [if_pos (h q List.mem_cons_self), ih fun q hq => h q (List.mem_cons_of_mem _ hq)]
    rfl
/-- one step of adding up: found[number] (+)= factor -/
theorem form_loop {step : D → Env → Option SO} {x y : D} {size : Nat} {qs : List (Int × Int)} (hq : ∀ q ∈ qs, 0 ≤ q.1 ∧ q.1 < (size : Int))
    (hs : ∀ (acc : List Int) (q : Int × Int) (o1 o2 : Option Slot), acc.length = size → 0 ≤ q.1 → q.1 < (size : Int) → step (.tuple [.int q.1, .int q.2]) [some (.val x), some (.val y), some (.own false (acc.map .int)), o1, o2] = some (.next [some (.val x), some (.val y), some (.own false ((addAt acc q).map .int)), some (.val (.int q.1)), some (.val (.int q.2))])) :
    ∃ o1 o2, forL step (qs.map fun q => .tuple [.int q.1, .int q.2]) [some (.val x), some (.val y), some (.own false ((List.replicate size (0 : Int)).map .int)), none, none] = some (.next [some (.val x), some (.val y), some (.own false ((formL size qs).map .int)), o1, o2]) := by
  have key : ∀ (qs : List (Int × Int)), (∀ q ∈ qs, 0 ≤ q.1 ∧ q.1 < (size : Int)) → ∀ (acc : List Int) (o1 o2 : Option Slot), acc.length = size → ∃ o3 o4, forL step (qs.map fun q => .tuple [.int q.1, .int q.2]) [some (.val x), some (.val y), some (.own false (acc.map .int)), o1, o2] = some (.next [some (.val x), some (.val y), some (.own false ((qs.foldl addAt acc).map .int)), o3, o4]) := by
    intro qs
    induction qs with
    | nil => intro _ acc o1 o2 _; exact ⟨o1, o2, rfl⟩
    | cons q qs ih =>
      intro hq acc o1 o2 hl
      obtain ⟨o3, o4, h⟩ := ih (fun q h => hq q (List.mem_cons_of_mem _ h)) (addAt acc q) (some (.val (.int q.1))) (some (.val (.int q.2))) (by rw [addAt_len]; exact hl)
      refine ⟨o3, o4, ?_⟩
      rw [List.map_cons]
      unfold forL
      rw [hs acc q o1 o2 hl (hq q List.mem_cons_self).1 (hq q List.mem_cons_self).2]
      exact h
  exact key qs hq (List.replicate size 0) none none (by rw [List.length_replicate])
theorem pow2_cases {m : Int} (h : 0 ≤ m ∧ m ≤ 4) : m = 0 ∨ m = 1 ∨ m = 2 ∨ m = 3 ∨ m = 4 := by omega
theorem mir_form_of {G : Gam} : Mir0 G 5 2 b_form_of (sem2 F_form_of) := mir_sem2 fun x y r h => by
  unfold F_form_of at h
  split at h
  · rename_i m ps
    split at h
    · rename_i hm
      obtain ⟨qs, h1, rfl⟩ := Option.map_eq_some_iff.mp h
      obtain ⟨rfl, hq⟩ := pairs_mem h1
      obtain ⟨o1, o2, hl⟩ := form_loop (step := stepF G 0 (.pair (.name 3) (.name 4)) [.augI 2 (.var 3) (.var 4)]) (x := .int m) (y := .list (qs.map fun q => .tuple [.int q.1, .int q.2])) hq (fun acc q o1 o2 hl h0 h1 => by
        have hp : place? (acc.map PySem.PyData.int).length q.1 = some q.1.toNat := place_nat h0 (by rw [List.length_map, hl]; exact h1)
        have hlt : q.1.toNat < acc.length := by omega
        have hg : (acc.map PySem.PyData.int)[q.1.toNat]? = some (.int (acc.getD q.1.toNat 0)) := by
          rw [List.getElem?_map, List.getElem?_eq_getElem hlt, List.getD_eq_getElem?_getD, List.getElem?_eq_getElem hlt]; rfl
        simp [stepF, Z.asg_pair, Z.asg_name, exs_cons, own?, ev_var, itemAt, h0, putAt]
        rw [List.getElem?_eq_getElem hlt]
        have hp' : place? acc.length q.1 = some q.1.toNat := by rw [List.length_map] at hp; exact hp
        simp [hp', addAt, List.getD_eq_getElem?_getD, List.getElem?_eq_getElem hlt, List.map_set])
      refine runs_ret (fuel := 0) (env := [some (.val (.int m)), some (.val (.list (qs.map fun q => .tuple [.int q.1, .int q.2]))), some (.own false ((formL (pw m) qs).map .int)), o1, o2]) ?_
      have hidx : idxD (globD .powers) (.int m) = some (.int ((pw m : Nat) : Int)) := by
        rcases pow2_cases hm with rfl | rfl | rfl | rfl | rfl <;> rfl
      have hmul : binD .mul (.list [.int 0]) (.int ((pw m : Nat) : Int)) = some (.list ((List.replicate (pw m) (0 : Int)).map .int)) := by
        rcases pow2_cases hm with rfl | rfl | rfl | rfl | rfl <;> rfl
      have hs : 1 ≤ pw m := by rcases pow2_cases hm with rfl | rfl | rfl | rfl | rfl <;> decide
      have hclip : clip (pw m) 1 = 1 := by unfold clip; simp; omega
      have e1 : ex G 0 (.set 2 (.bin .mul (.lst (.cons (.int 0) .nil)) (.idx (.glob .powers) (.var 0)))) (env0 5 [.val (.int m), .val (.list (qs.map fun q => .tuple [.int q.1, .int q.2]))]) = some (.next [some (.val (.int m)), some (.val (.list (qs.map fun q => .tuple [.int q.1, .int q.2]))), some (.own false ((List.replicate (pw m) (0 : Int)).map .int)), none, none]) := by
        simp only [ex_set, ev_bin, ev_lst, evs_cons, ev_int, evs_nil, frz_imm, bnd_ok, ev_idx, ev_glob, ev_var, env0]
        simp [lim, hidx, hmul, fresh, slotOf, setAt, -List.map_replicate]
      have e2 := ex_for_same (it := .of (.var 1)) hl (by simp [ev_var])
      unfold b_form_of
      rw [show ([PySem.PyData.int m, .list (qs.map fun q => .tuple [.int q.1, .int q.2])].map Slot.val) = [.val (.int m), .val (.list (qs.map fun q => .tuple [.int q.1, .int q.2]))] from rfl, exs_next e1, exs_next e2]
      simp [exs_cons, ev_var, rd_slot, formL_len, hclip, tupI]
    · cases h
  · cases h
end M
/-! Mirrors: the elementary forms, bits, drawing. -/
namespace M
open Z
def retD (o : Option SO) : Option D := match o with
  | some (.ret d _) => some d
  | _ => none
theorem retD_ok {o : Option SO} {d : D} (h : retD o = some d) : ∃ env, o = some (.ret d env) := by
  unfold retD at h
  split at h
  · cases h; exact ⟨_, rfl⟩
  · cases h
/-- G with one answer put in -/
def putG (G : Gam) (f : Fn) (s : Sem) : Gam := fun g => if g = f then s else G g
theorem putG_eq {G : Gam} {f : Fn} {s : Sem} (h : G f = s) : G = putG G f s := by
  funext g
  unfold putG
  split
  · rename_i e; rw [e, h]
  · rfl
def elT (m : Int) : D := .tuple ((elemI m).map tupI)
def F_elementary_of (x : D) : Ans := match x with
  | .int m => if 1 ≤ m ∧ m ≤ 4 then some (.ok (elT m)) else none
  | _ => none
theorem one4 {m : Int} (h : 1 ≤ m ∧ m ≤ 4) : m = 1 ∨ m = 2 ∨ m = 3 ∨ m = 4 := by omega
theorem mir_elementary_of {G : Gam} (h1 : G .form_of = sem2 F_form_of) : Mir0 G 9 1 b_elementary_of (sem1 F_elementary_of) := mir_sem1 fun x r h => by
  unfold F_elementary_of at h
  split at h
  · rename_i m
    split at h
    · rename_i hm
      cases h
      have key : retD (exs G 0 b_elementary_of (env0 9 [.val (.int m)])) = some (elT m) := by
        rw [putG_eq h1]
        rcases one4 hm with rfl | rfl | rfl | rfl <;> kernel_rfl
      obtain ⟨env, e⟩ := retD_ok key
      exact runs_ret e
    · cases h
  · cases h
def F_elementary (x : D) : Ans := some (match x with
  | .int m => if 1 ≤ m ∧ m ≤ 4 then .ok (elT m) else .error .count
  | _ => .error .count)
theorem mir_elementary {G : Gam} (h1 : G .need_count = sem1 F_need_count) (h2 : G .elementary_of = sem1 F_elementary_of) : Mir0 G 1 1 b_elementary (sem1 F_elementary) := mir_sem1 fun x r h => by
  cases h
  have bad : isWhole x 1 4 = false → Runs G 1 b_elementary [x] (.error .count) := fun hx => by
    refine runs_err (fuel := 0) (env := [some (.val x)]) ?_
    simp [b_elementary, exs_cons, env0, ev_var, ev_call, owned, h1, F_need_count, hx]
  cases x with
  | int m =>
    show Runs G 1 b_elementary [.int m] (if 1 ≤ m ∧ m ≤ 4 then .ok (elT m) else .error .count)
    by_cases hm : 1 ≤ m ∧ m ≤ 4
    · rw [if_pos hm]
      refine runs_ret (fuel := 0) (env := [some (.val (.int m))]) ?_
      have : isWhole (.int m) 1 4 = true := by simp [isWhole, hm]
      simp [b_elementary, exs_cons, env0, ev_var, ev_call, owned, h1, h2, F_need_count, F_elementary_of, this, giveBack, hm]
    · rw [if_neg hm]
      exact bad (by simp [isWhole]; omega)
  | _ => exact bad rfl
/-! ### bits -/
def bitsF (k : Int) : List Int := (if k / 1 % 2 = 1 then [0] else []) ++ (if k / 2 % 2 = 1 then [1] else []) ++ (if k / 4 % 2 = 1 then [2] else []) ++ (if k / 8 % 2 = 1 then [3] else [])
def F_l_bits (x : D) : Ans := match x with
  | .int k => some (.ok (.list ((bitsF k).map .int)))
  | _ => none
theorem bits_filter (k : Int) (p : D → Bool) (h0 : p (.int 0) = decide (k / 1 % 2 = 1)) (h1 : p (.int 1) = decide (k / 2 % 2 = 1)) (h2 : p (.int 2) = decide (k / 4 % 2 = 1)) (h3 : p (.int 3) = decide (k / 8 % 2 = 1)) : (([.int 0, .int 1, .int 2, .int 3] : List D).filter p).map (fun d => d) = (bitsF k).map .int := by
  simp only [List.filter_cons, h0, h1, h2, h3, List.filter_nil, decide_eq_true_eq]
  unfold bitsF
  by_cases a0 : k / 1 % 2 = 1 <;> by_cases a1 : k / 2 % 2 = 1 <;> by_cases a2 : k / 4 % 2 = 1 <;> by_cases a3 : k / 8 % 2 = 1 <;> simp only [a0, a1, a2, a3, if_true, if_false] <;> rfl
def bitP (k : Int) : D → Bool
  | .int i => if i = 0 then decide (k / 1 % 2 = 1) else if i = 1 then decide (k / 2 % 2 = 1) else if i = 2 then decide (k / 4 % 2 = 1) else if i = 3 then decide (k / 8 % 2 = 1) else false
  | _ => false
theorem range4 : rangeD 0 4 = some [.int 0, .int 1, .int 2, .int 3] := rfl
theorem mir_l_bits {G : Gam} : Mir0 G 2 1 b_l_bits (sem1 F_l_bits) := mir_sem1 fun x r h => by
  unfold F_l_bits at h
  split at h
  · rename_i k
    cases h
    refine runs_ret (fuel := 0) (env := [some (.val (.int k)), none]) ?_
    have hc := ev_comp1 (G := G) (e := .var 1) (i := 1) (it := .range1 (.int 4)) (c := .som (.cmp .eq (.bin .mod (.bin .fdiv (.var 0) (.idx (.lst (.cons (.int 1) (.cons (.int 2) (.cons (.int 4) (.cons (.int 8) .nil))))) (.var 1))) (.int 2)) (.int 1))) (env := [some (.val (.int k)), none]) (items := [.int 0, .int 1, .int 2, .int 3]) (p := bitP k) (f := fun d => d)
      (by simp [range4]) (noOwn_none rfl)
      (fun d hd => by
        simp only [List.mem_cons, List.not_mem_nil, or_false] at hd
        rcases hd with rfl | rfl | rfl | rfl <;> simp [ev_var, lim, idx_list, place?, bin_fdivS, bin_mod, bitP])
      (fun d hd _ => by simp [ev_var])
    rw [bits_filter k (bitP k) rfl rfl rfl rfl] at hc
    simp [b_l_bits, exs_cons, env0, hc]
  · cases h
/-! ### the law's own forms -/
def F_l_make (x y : D) : Ans := F_form_of x y
theorem mir_l_make {G : Gam} : Mir0 G 5 2 b_l_make (sem2 F_l_make) := mir_sem2 fun x y r h => by
  unfold F_l_make F_form_of at h
  split at h
  · rename_i m ps
    split at h
    · rename_i hm
      obtain ⟨qs, h1, rfl⟩ := Option.map_eq_some_iff.mp h
      obtain ⟨rfl, hq⟩ := pairs_mem h1
      obtain ⟨o1, o2, hl⟩ := form_loop (step := stepF G 0 (.pair (.name 3) (.name 4)) [.setI 2 (.var 3) (.bin .add (.idx (.var 2) (.var 3)) (.var 4))]) (x := .int m) (y := .list (qs.map fun q => .tuple [.int q.1, .int q.2])) hq (fun acc q o1 o2 hl h0 h1 => by
        have hlt : q.1.toNat < acc.length := by omega
        have hp' : place? acc.length q.1 = some q.1.toNat := place_nat h0 (by omega)
        simp [stepF, Z.asg_pair, Z.asg_name, exs_cons, own?, ev_var, rd_slot, idx_list, putAt, hp']
        rw [List.getElem?_eq_getElem hlt]
        simp [addAt, List.getD_eq_getElem?_getD, List.getElem?_eq_getElem hlt, List.map_set, hp'])
      refine runs_ret (fuel := 0) (env := [some (.val (.int m)), some (.val (.list (qs.map fun q => .tuple [.int q.1, .int q.2]))), some (.own false ((formL (pw m) qs).map .int)), o1, o2]) ?_
      have hidx : idxD (.list [.int 1, .int 2, .int 4, .int 8, .int 16]) (.int m) = some (.int ((pw m : Nat) : Int)) := by
        rcases pow2_cases hm with rfl | rfl | rfl | rfl | rfl <;> rfl
      have hmul : binD .mul (.list [.int 0]) (.int ((pw m : Nat) : Int)) = some (.list ((List.replicate (pw m) (0 : Int)).map .int)) := by
        rcases pow2_cases hm with rfl | rfl | rfl | rfl | rfl <;> rfl
      have hs : 1 ≤ pw m := by rcases pow2_cases hm with rfl | rfl | rfl | rfl | rfl <;> decide
      have hclip : clip (pw m) 1 = 1 := by unfold clip; simp; omega
      have e1 : ex G 0 (.set 2 (.bin .mul (.lst (.cons (.int 0) .nil)) (.idx (.lst (.cons (.int 1) (.cons (.int 2) (.cons (.int 4) (.cons (.int 8) (.cons (.int 16) .nil)))))) (.var 0)))) (env0 5 [.val (.int m), .val (.list (qs.map fun q => .tuple [.int q.1, .int q.2]))]) = some (.next [some (.val (.int m)), some (.val (.list (qs.map fun q => .tuple [.int q.1, .int q.2]))), some (.own false ((List.replicate (pw m) (0 : Int)).map .int)), none, none]) := by
        simp only [ex_set, ev_bin, ev_lst, evs_cons, ev_int, evs_nil, frz_imm, bnd_ok, ev_idx, ev_var, env0]
        simp [lim, hidx, hmul, fresh, slotOf, setAt, -List.map_replicate]
      have e2 := ex_for_same (it := .of (.var 1)) hl (by simp [ev_var])
      unfold b_l_make
      rw [show ([PySem.PyData.int m, .list (qs.map fun q => .tuple [.int q.1, .int q.2])].map Slot.val) = [.val (.int m), .val (.list (qs.map fun q => .tuple [.int q.1, .int q.2]))] from rfl, exs_next e1, exs_next e2]
      simp [exs_cons, ev_var, rd_slot, formL_len, hclip, tupI]
    · cases h
  · cases h
def elL (m : Int) : D := .list ((elemI m).map tupI)
def F_l_elementary (x : D) : Ans := match x with
  | .int m => if 1 ≤ m ∧ m ≤ 4 then some (.ok (elL m)) else none
  | _ => none
theorem mir_l_elementary {G : Gam} (h1 : G .l_make = sem2 F_l_make) (h2 : G .l_bits = sem1 F_l_bits) : Mir0 G 9 1 b_l_elementary (sem1 F_l_elementary) := mir_sem1 fun x r h => by
  unfold F_l_elementary at h
  split at h
  · rename_i m
    split at h
    · rename_i hm
      cases h
      have key : retD (exs G 0 b_l_elementary (env0 9 [.val (.int m)])) = some (elL m) := by
        rw [putG_eq h1, putG_eq (G := putG G _ _) (f := .l_bits) (s := sem1 F_l_bits) (by unfold putG; rw [if_neg (by decide)]; exact h2)]
        rcases one4 hm with rfl | rfl | rfl | rfl <;> kernel_rfl
      obtain ⟨env, e⟩ := retD_ok key
      exact runs_ret e
    · cases h
  · cases h
end M
/-! Mirrors: drawing. -/
namespace M
open Z
def dA : Int := 340282366920938463463374607431768211507
def dB : Int := 340282366920938463463374607431768211297
def dC : Int := 18446744073709551557
def dr1 (c k : Int) : Int := (c * 6364136223846793005 + (k + 1) * 1442695040888963407) % dA
def dr2 (c k : Int) : Int := dr1 c k * dr1 c k % dB
def dr3 (c k : Int) : Int := (dr2 c k % dC + 1) * (dr2 c k / dC + 1) * dr2 c k
def drawnF (c k : Int) : Int := dr3 c k % dA
def F_l_drawn (x y : D) : Ans := match x, y with
  | .int c, .int k => some (.ok (.int (drawnF c k)))
  | _, _ => none
theorem mul_mid {i j : Int} (h1 : i.natAbs < 2 ^ 300) (h2 : j.natAbs < 2 ^ 300) : mulOk i j = true := by
  unfold mulOk
  rw [fits_of (i := i) 400000 (Nat.lt_of_lt_of_le h1 (Nat.pow_le_pow_right (by decide) (by decide))), fits_of (i := j) 400000 (Nat.lt_of_lt_of_le h2 (Nat.pow_le_pow_right (by decide) (by decide)))]
  simp
theorem nat_lt {i : Int} {b : Nat} (h0 : 0 ≤ i) (h1 : i < b) : i.natAbs < b := by omega
theorem mir_l_drawn {G : Gam} : Mir0 G 3 2 b_l_drawn (sem2 F_l_drawn) := mir_sem2 fun x y r h => by
  unfold F_l_drawn at h
  split at h
  · rename_i c k
    cases h
    have r1 : 0 ≤ dr1 c k ∧ dr1 c k < dA := ⟨Int.emod_nonneg _ (by decide), Int.emod_lt_of_pos _ (by decide)⟩
    have r2 : 0 ≤ dr2 c k ∧ dr2 c k < dB := ⟨Int.emod_nonneg _ (by decide), Int.emod_lt_of_pos _ (by decide)⟩
    have r3 : 0 ≤ dr2 c k % dC ∧ dr2 c k % dC < dC := ⟨Int.emod_nonneg _ (by decide), Int.emod_lt_of_pos _ (by decide)⟩
    have r4 : 0 ≤ dr2 c k / dC ∧ dr2 c k / dC ≤ dr2 c k := ⟨Int.ediv_nonneg r2.1 (by decide), Int.ediv_le_self _ r2.1⟩
    have b1 : mulOk (dr1 c k) (dr1 c k) = true := by
      have : (dr1 c k).natAbs < 2 ^ 300 := Nat.lt_of_lt_of_le (nat_lt (b := 340282366920938463463374607431768211507) r1.1 r1.2) (by decide)
      exact mul_mid this this
    have b2 : mulOk (dr2 c k % dC + 1) (dr2 c k / dC + 1) = true := mul_small' (by unfold dC at r3 ⊢; omega)
    have b3 : mulOk ((dr2 c k % dC + 1) * (dr2 c k / dC + 1)) (dr2 c k) = true := by
      refine mul_mid ?_ (Nat.lt_of_lt_of_le (nat_lt (b := 340282366920938463463374607431768211297) r2.1 r2.2) (by decide))
      rw [Int.natAbs_mul]
      have h1 : (dr2 c k % dC + 1).natAbs < 18446744073709551616 := by unfold dC at r3 ⊢; omega
      have h2 : (dr2 c k / dC + 1).natAbs < 340282366920938463463374607431768211508 := by unfold dB at r2; omega
      have := Nat.mul_lt_mul'' h1 h2
      exact Nat.lt_of_lt_of_le this (by decide)
    refine runs_ret (fuel := 0) (env := [some (.val (.int c)), some (.val (.int k)), some (.val (.int (dr3 c k)))]) ?_
    have e1 : ex G 0 (.set 2 (.bin .mod (.bin .add (.bin .mul (.var 0) (.int 6364136223846793005)) (.bin .mul (.bin .add (.var 1) (.int 1)) (.int 1442695040888963407))) (.int 340282366920938463463374607431768211507))) (env0 3 [.val (.int c), .val (.int k)]) = some (.next [some (.val (.int c)), some (.val (.int k)), some (.val (.int (dr1 c k)))]) := by
      simp [env0, ev_var, bin_mul, mul_small, bin_mod, fresh, slotOf, setAt, dr1, dA]
    have e2 : ex G 0 (.set 2 (.bin .mod (.bin .mul (.var 2) (.var 2)) (.int 340282366920938463463374607431768211297))) [some (.val (.int c)), some (.val (.int k)), some (.val (.int (dr1 c k)))] = some (.next [some (.val (.int c)), some (.val (.int k)), some (.val (.int (dr2 c k)))]) := by
      simp [ev_var, bin_mul, b1, bin_mod, fresh, slotOf, setAt, dr2, dB]
    have e3 : ex G 0 (.set 2 (.bin .mul (.bin .mul (.bin .add (.bin .mod (.var 2) (.int 18446744073709551557)) (.int 1)) (.bin .add (.bin .fdiv (.var 2) (.int 18446744073709551557)) (.int 1))) (.var 2))) [some (.val (.int c)), some (.val (.int k)), some (.val (.int (dr2 c k)))] = some (.next [some (.val (.int c)), some (.val (.int k)), some (.val (.int (dr3 c k)))]) := by
      unfold dC at b2 b3
      simp [ev_var, bin_mul, b2, b3, bin_mod, bin_fdivS, fresh, slotOf, setAt, dr3, dC]
    unfold b_l_drawn
    rw [show ([PySem.PyData.int c, .int k].map Slot.val) = [.val (.int c), .val (.int k)] from rfl, exs_next e1, exs_next e2, exs_next e3]
    simp [exs_cons, ev_var, bin_mod, drawnF, dA]
  · cases h
/-! ### a roll -/
def rollV (c j m : Int) : Int := if 1000000000000000000 ≤ c then c % m else drawnF c (j + 1) / 8 % m
def rollC (c j m : Int) : Int := if 1000000000000000000 ≤ c then c / m else c
def rollJ (c j m : Int) : Int := if 1000000000000000000 ≤ c then j else j + 1
def m_l_roll : Sem := fun rs ds => match rs, ds with
  | [[.int c, .int j]], [.int m] => if 0 < m ∧ m ≤ 1000000 then some (.ok (.int (rollV c j m), [[.int (rollC c j m), .int (rollJ c j m)]])) else none
  | _, _ => none
theorem mir_l_roll {G : Gam} (h1 : G .l_drawn = sem2 F_l_drawn) : Mir1 G 3 2 b_l_roll m_l_roll := by
  intro xs ds hl
  match ds, hl with
  | [y], _ =>
    unfold m_l_roll
    split
    · rename_i d ys e
      split at e
      · rename_i rs' ds' c j m e1 e2
        cases e1
        cases e2
        split at e
        · rename_i hm
          cases e
          have h18 : binD .pow (.int 10) (.int 18) = some (.int 1000000000000000000) := by rw [bin_pow ⟨by decide, by decide, fits_of 64 (by decide)⟩]; rfl
          by_cases hc : 1000000000000000000 ≤ c
          · refine ⟨0, [some (.own true [.int (c / m), .int j]), some (.val (.int m)), some (.val (.int (c % m)))], ?_, by simp [rollC, rollJ, hc]⟩
            simp [b_l_roll, exs_cons, env0, ev_var, rd_slot, idx_list, place?, h18, hc, bin_mod, bin_fdivS, hm.1, show m < 18446744073709551616 by omega, fresh, slotOf, setAt, own?, putAt, rollV]
          · refine ⟨0, [some (.own true [.int c, .int (j + 1)]), some (.val (.int m)), none], ?_, by simp [rollC, rollJ, hc]⟩
            simp [b_l_roll, exs_cons, env0, ev_var, rd_slot, idx_list, place?, h18, hc, bin_mod, bin_fdivS, hm.1, own?, putAt, rollV, ev_call, owned, h1, F_l_drawn, giveBack]
        · cases e
      · cases e
    · trivial
theorem roll_range {c j m : Int} (h : 0 < m) : 0 ≤ rollV c j m ∧ rollV c j m < m := by
  unfold rollV
  split <;> exact ⟨Int.emod_nonneg _ (by omega), Int.emod_lt_of_pos _ h⟩
/-- dice: a great number and a count -/
def dice (c j : Int) : List D := [.int c, .int j]
theorem m_roll_at {c j m : Int} (h : 0 < m ∧ m ≤ 1000000) : m_l_roll [dice c j] [.int m] = some (.ok (.int (rollV c j m), [dice (rollC c j m) (rollJ c j m)])) := if_pos h
theorem roll_at {G : Gam} (hG : G .l_roll = m_l_roll) (c j m : Int) (h : 0 < m ∧ m ≤ 1000000) : ∃ r c' j', 0 ≤ r ∧ r < m ∧ G .l_roll [dice c j] [.int m] = some (.ok (.int r, [dice c' j'])) :=
  ⟨_, _, _, (roll_range h.1).1, (roll_range h.1).2, by rw [hG]; exact m_roll_at h⟩
/-! ### what is drawn -/
/-- the body's run from these dice gives d and leaves those -/
def Draws (H : Gam → Prop) (b : List S) (N : Nat) (ds : List D) (c j : Int) (d : D) (c' j' : Int) : Prop :=
  ∀ G, H G → ∃ fuel env, exs G fuel b (env0 N (.own true (dice c j) :: ds.map .val)) = some (.ret d env) ∧ env[0]? = some (some (.own true (dice c' j')))
open Classical in
noncomputable def semD (H : Gam → Prop) (b : List S) (N : Nat) (Good : List D → D → Prop) : Sem := fun rs ds => match rs with
  | [[.int c, .int j]] => if h : ∃ p : D × Int × Int, Good ds p.1 ∧ Draws H b N ds c j p.1 p.2.1 p.2.2 then some (.ok ((choose h).1, [dice (choose h).2.1 (choose h).2.2])) else none
  | _ => none
theorem mir_semD {G : Gam} {H : Gam → Prop} {b : List S} {N np : Nat} {Good : List D → D → Prop} (hG : H G) : Mir1 G N np b (semD H b N Good) := by
  intro xs ds hl
  unfold semD
  split
  · rename_i d ys e
    split at e
    · rename_i c j e1
      cases e1
      split at e
      · rename_i h
        cases e
        obtain ⟨fuel, env, h1, h2⟩ := (Classical.choose_spec h).2 G hG
        exact ⟨fuel, env, h1, h2⟩
      · cases e
    · cases e
  · trivial
theorem semD_at {H : Gam → Prop} {b : List S} {N : Nat} {Good : List D → D → Prop} {ds : List D} {c j : Int} (h : ∃ d c' j', Good ds d ∧ Draws H b N ds c j d c' j') : ∃ d c' j', Good ds d ∧ semD H b N Good [dice c j] ds = some (.ok (d, [dice c' j'])) := by
  obtain ⟨d, c', j', h1, h2⟩ := h
  have h : ∃ p : D × Int × Int, Good ds p.1 ∧ Draws H b N ds c j p.1 p.2.1 p.2.2 := ⟨(d, c', j'), h1, h2⟩
  exact ⟨(Classical.choose h).1, (Classical.choose h).2.1, (Classical.choose h).2.2, (Classical.choose_spec h).1, dif_pos h⟩
end M
/-! Comprehensions that draw. -/
namespace M
open Z
/-- an environment with dice in it -/
def wd (base : Env) (s : Nat) (k : Bool) (c j : Int) : Env := base.set s (some (.own k (dice c j)))
theorem wd_len (base : Env) (s : Nat) (k : Bool) (c j : Int) : (wd base s k c j).length = base.length := by unfold wd; rw [List.length_set]
theorem compD {H : Gam → Prop} {base : Env} {s i : Nat} {k : Bool} {it : It} {e : E} {items : List D} {P : D → Prop} {c j c1 j1 : Int} (hsi : s ≠ i) (hi : noOwn base i)
    (hit : ∀ G, H G → evIt G it (wd base s k c j) = some (.ok items (wd base s k c1 j1)))
    (he : ∀ d ∈ items, ∀ c j, ∃ v c' j', P v ∧ ∀ G, H G → frz (ev G e ((wd base s k c j).set i (some (.val d)))) = some (.ok v ((wd base s k c' j').set i (some (.val d))))) :
    ∃ vs c' j', vs.length = items.length ∧ (∀ v ∈ vs, P v) ∧ ∀ G, H G → ev G (.comp e (.name i) it .non) (wd base s k c j) = some (.ok (.imm (.list vs)) (wd base s k c' j')) := by
  have key : ∀ (l : List D), (∀ d ∈ l, d ∈ items) → ∀ (c j : Int), ∃ vs c' j', vs.length = l.length ∧ (∀ v ∈ vs, P v) ∧ ∀ G, H G → ∀ env1 : Env, env1.set i none = (wd base s k c j).set i none → ∃ env2 : Env, env2.set i none = (wd base s k c' j').set i none ∧
      compL (fun d env => match asg (.name i) d (wipeE env (Tg.name i).slots) with
        | none => none
        | some env2 => bnd (evo G .non env2) fun k env3 => if k then bnd (frz (ev G e env3)) fun x env4 => some (.ok (some x) env4) else some (.ok none env3)) l env1 = some (.ok vs env2) := by
    intro l
    induction l with
    | nil => intro _ c j; exact ⟨[], c, j, rfl, (fun v hv => by cases hv), fun G _ env1 h1 => ⟨env1, h1, rfl⟩⟩
    | cons d l ih =>
      intro hl c j
      obtain ⟨v, c2, j2, p, hv⟩ := he d (hl d List.mem_cons_self) c j
      obtain ⟨vs, c3, j3, q1, q2, q3⟩ := ih (fun d' h' => hl d' (List.mem_cons_of_mem _ h')) c2 j2
      refine ⟨v :: vs, c3, j3, by rw [List.length_cons, List.length_cons, q1], fun x hx => ?_, fun G hG env1 h1 => ?_⟩
      · rcases List.mem_cons.mp hx with rfl | hx
        · exact p
        · exact q2 x hx
      · have ea : asg (.name i) d (wipeE env1 (Tg.name i).slots) = some ((wd base s k c j).set i (some (.val d))) := by
          show asg (.name i) d (env1.set i none) = _
          unfold asg
          rw [h1, if_pos (by rw [List.length_set, wd_len]; exact hi.1), List.set_set]
        obtain ⟨env2, g1, g2⟩ := q3 G hG ((wd base s k c2 j2).set i (some (.val d))) (by rw [List.set_set])
        refine ⟨env2, g1, ?_⟩
        unfold compL
        simp only [ea]
        rw [evo_non, bnd_ok, if_pos rfl, hv G hG, bnd_ok, bnd_ok, g2]
        rfl
  obtain ⟨vs, c', j', q1, q2, q3⟩ := key items (fun _ h => h) c1 j1
  refine ⟨vs, c', j', q1, q2, fun G hG => ?_⟩
  obtain ⟨env2, g1, g2⟩ := q3 G hG _ rfl
  unfold ev
  rw [hit G hG, bnd_ok]
  refine (congrArg (fun r => bnd (noErr r) fun xs env2 => some (Out.ok (TV.imm (PySem.PyData.list xs)) (back (wd base s k c1 j1) env2 [i]))) g2).trans ?_
  show some (Out.ok (TV.imm (.list _)) (back (wd base s k c1 j1) env2 [i])) = _
  have hb : back (wd base s k c1 j1) env2 [i] = wd base s k c' j' := by
    have e0 : ∀ c j, (wd base s k c j)[i]? = base[i]? := fun c j => by unfold wd; exact List.getElem?_set_ne hsi
    have := back1 (env := wd base s k c' j') (env2 := env2) ⟨by rw [wd_len]; exact hi.1, fun k xs z => hi.2 k xs (by rw [e0] at z; exact z)⟩ g1
    unfold back at this ⊢
    rw [e0] at this ⊢
    exact this
  rw [hb]
/-- a roll in an expression -/
theorem ev_roll {G : Gam} (hG : G .l_roll = m_l_roll) {base : Env} {s : Nat} {k : Bool} {c j m : Int} {e : E} (hs : s < base.length) (hm : 0 < m ∧ m ≤ 1000000) (he : frz (ev G e (wd base s k c j)) = some (.ok (.int m) (wd base s k c j))) :
    ev G (.call .l_roll [s] (.cons e .nil)) (wd base s k c j) = some (.ok (.imm (.int (rollV c j m))) (wd base s k (rollC c j m) (rollJ c j m))) := by
  have e0 : (wd base s k c j)[s]? = some (some (.own k (dice c j))) := by unfold wd; exact List.getElem?_set_self hs
  rw [ev_call]
  simp only [owned, e0, Option.map_some, Option.isNone_some, Bool.false_eq_true, if_false, evs_cons, he, bnd_ok, evs_nil, Option.bind_some, hG, m_roll_at hm]
  rw [callA_ok _ _ _ _ rfl]
  unfold giveBack putOwn
  rw [e0]
  simp only [giveBack]
  unfold wd
  rw [List.set_set]
theorem ev_roll0 {G : Gam} (hG : G .l_roll = m_l_roll) {rest : Env} {k : Bool} {c j m : Int} (hm : 0 < m ∧ m ≤ 1000000) :
    ev G (.call .l_roll [0] (.cons (.int m) .nil)) (some (.own k (dice c j)) :: rest) = some (.ok (.imm (.int (rollV c j m))) (some (.own k (dice (rollC c j m) (rollJ c j m))) :: rest)) :=
  ev_roll hG (base := some (.own k (dice c j)) :: rest) (s := 0) (by simp) hm (by simp)
theorem ev_roll1 {G : Gam} (hG : G .l_roll = m_l_roll) {o : Option Slot} {rest : Env} {k : Bool} {c j m : Int} (hm : 0 < m ∧ m ≤ 1000000) :
    ev G (.call .l_roll [1] (.cons (.int m) .nil)) (o :: some (.own k (dice c j)) :: rest) = some (.ok (.imm (.int (rollV c j m))) (o :: some (.own k (dice (rollC c j m) (rollJ c j m))) :: rest)) :=
  ev_roll hG (base := o :: some (.own k (dice c j)) :: rest) (s := 1) (by simp) hm (by simp)
theorem ev_roll0v {G : Gam} (hG : G .l_roll = m_l_roll) {rest : Env} {k : Bool} {c j m : Int} {i : Nat} (hi : rest[i]? = some (some (.val (.int m)))) (hm : 0 < m ∧ m ≤ 1000000) :
    ev G (.call .l_roll [0] (.cons (.var (i + 1)) .nil)) (some (.own k (dice c j)) :: rest) = some (.ok (.imm (.int (rollV c j m))) (some (.own k (dice (rollC c j m) (rollJ c j m))) :: rest)) :=
  ev_roll hG (base := some (.own k (dice c j)) :: rest) (s := 0) (by simp) hm (by
    show frz (ev G (.var (i + 1)) (some (.own k (dice c j)) :: rest)) = _
    rw [ev_var, List.getElem?_cons_succ, hi]
    rfl)
end M
/-! Drawn forms. -/
namespace M
open Z
def le2 : List Int → List Nat → Prop
  | [], [] => True
  | a :: as, b :: bs => a.natAbs ≤ b ∧ le2 as bs
  | _, _ => False
theorem le2_len : ∀ {as : List Int} {bs : List Nat}, le2 as bs → as.length = bs.length
  | [], [], _ => rfl
  | _ :: as, _ :: bs, h => by rw [List.length_cons, List.length_cons, le2_len h.2]
  | [], _ :: _, h => h.elim
  | _ :: _, [], h => h.elim
theorem le2_mem : ∀ {as : List Int} {bs : List Nat} {t : Nat}, le2 as bs → (∀ b ∈ bs, b ≤ t) → ∀ a ∈ as, a.natAbs ≤ t
  | [], [], _, _, _, a, h => by cases h
  | x :: as, y :: bs, t, h, hb, a, ha => by
    rcases List.mem_cons.mp ha with rfl | ha
    · exact Nat.le_trans h.1 (hb y List.mem_cons_self)
    · exact le2_mem h.2 (fun b hb' => hb b (List.mem_cons_of_mem _ hb')) a ha
  | [], _ :: _, _, h, _, _, _ => h.elim
  | _ :: _, [], _, h, _, _, _ => h.elim
def addF (f : Int) (ns fm : List Int) : List Int := List.zipWith (fun a b => a + f * b) ns fm
def bstep (bs : List Nat) (fm : List Int) : List Nat := List.zipWith (fun b (x : Int) => b + 3 * x.natAbs) bs fm
theorem le2_add {f : Int} (h0 : 0 ≤ f) (h3 : f ≤ 3) : ∀ {ns : List Int} {bs : List Nat} (fm : List Int), le2 ns bs → le2 (addF f ns fm) (bstep bs fm)
  | [], [], fm, _ => by cases fm <;> trivial
  | a :: ns, b :: bs, [], h => trivial
  | a :: ns, b :: bs, x :: fm, h => by
    refine ⟨?_, le2_add h0 h3 fm h.2⟩
    have h1 : a.natAbs ≤ b := h.1
    have h2 : (f * x).natAbs ≤ 3 * x.natAbs := by rw [Int.natAbs_mul]; exact Nat.mul_le_mul_right _ (by omega)
    show (a + f * x).natAbs ≤ b + 3 * x.natAbs
    omega
  | [], _ :: _, _, h => h.elim
  | _ :: _, [], _, h => h.elim
theorem le2_mono {ns : List Int} : ∀ {bs : List Nat} (fm : List Int), bs.length = fm.length → le2 ns bs → le2 ns (bstep bs fm) := by
  induction ns with
  | nil => intro bs fm hl h; cases bs with
    | nil => cases fm <;> trivial
    | cons b bs => exact h.elim
  | cons a ns ih => intro bs fm hl h; cases bs with
    | nil => exact h.elim
    | cons b bs => cases fm with
      | nil => cases hl
      | cons x fm => exact ⟨Nat.le_trans h.1 (Nat.le_add_right _ _), ih fm (by simpa using hl) h.2⟩
theorem le2_zero : ∀ n : Nat, le2 (List.replicate n 0) (List.replicate n 0)
  | 0 => trivial
  | n + 1 => ⟨Nat.le_refl _, le2_zero n⟩
def boundM (m : Int) : List Nat := (elemI m).foldl bstep (List.replicate (pw m - 1) 0)
theorem elem_len {m : Int} (hm : 1 ≤ m ∧ m ≤ 4) : ∀ f ∈ elemI m, f.length = pw m - 1 := by
  rcases one4 hm with rfl | rfl | rfl | rfl <;> decide
theorem bound_30 {m : Int} (hm : 1 ≤ m ∧ m ≤ 4) : ∀ b ∈ boundM m, b ≤ 30 := by
  rcases one4 hm with rfl | rfl | rfl | rfl <;> decide
theorem elem_ne {m : Int} (hm : 1 ≤ m ∧ m ≤ 4) : elemI m ≠ [] := by
  rcases one4 hm with rfl | rfl | rfl | rfl <;> decide
theorem elem_small {m : Int} (hm : 1 ≤ m ∧ m ≤ 4) : ∀ f ∈ elemI m, ∀ x ∈ f, -1 ≤ x ∧ x ≤ 1 := by
  rcases one4 hm with rfl | rfl | rfl | rfl <;> decide
/-- a form for m sources -/
def IsForm (m : Int) (ns : List Int) : Prop := ns.length = pw m - 1 ∧ ∀ n ∈ ns, -99 ≤ n ∧ n ≤ 99
def GoodForm (ds : List D) (d : D) : Prop := ∃ (m : Int) (ns : List Int), ds = [.int m] ∧ d = tupI ns ∧ IsForm m ns
def HForm (G : Gam) : Prop := G .l_elementary = sem1 F_l_elementary ∧ G .l_roll = m_l_roll
/-- the environment of the law's drawing of a form -/
abbrev afB (m : Int) (act : Int) (ns : List Int) (o5 o7 o8 : Option Slot) (c j : Int) : Env := [some (.own true (dice c j)), some (.val (.int m)), some (.val (elL m)), some (.val (.int ((pw m - 1 : Nat) : Int))), some (.val (.int act)), o5, some (.own false (ns.map .int)), o7, o8, none, none]
def afStep : List S := [.if_ (.cmp .eq (.call .l_roll [0] (.cons (.int 3) .nil)) (.int 0)) [.set 8 (.bin .add (.int 1) (.call .l_roll [0] (.cons (.int 3) .nil))), .set 6 (.comp (.bin .add (.var 9) (.bin .mul (.var 8) (.var 10))) (.pair (.name 9) (.name 10)) (.zip (.var 6) (.var 7)) .non)] []]
theorem zip_pairs {ns fm : List Int} : zipD (ns.map .int) (fm.map .int) = ((ns.zip fm).map fun p => ((.int p.1 : D), (.int p.2 : D))).map fun q => .tuple [q.1, q.2] := by
  unfold zipD
  rw [List.zip_map, List.map_map, List.map_map]
  rfl
theorem zw {α β γ : Type} (g : α → β → γ) : ∀ (ns : List α) (fm : List β), List.zipWith g ns fm = (ns.zip fm).map fun p => g p.1 p.2
  | [], _ => by simp
  | _ :: _, [] => by simp
  | a :: ns, b :: fm => by simp [zw g ns fm]
theorem af_comp {G : Gam} {m act f : Int} {ns fm : List Int} {o5 : Option Slot} {c j : Int} (hb : ∀ x ∈ fm, -1 ≤ x ∧ x ≤ 1) : ev G (.comp (.bin .add (.var 9) (.bin .mul (.var 8) (.var 10))) (.pair (.name 9) (.name 10)) (.zip (.var 6) (.var 7)) .non) (afB m act ns o5 (some (.val (tupI fm))) (some (.val (.int f))) c j) =
    some (.ok (.imm (.list ((addF f ns fm).map .int))) ((afB m act ns o5 (some (.val (tupI fm))) (some (.val (.int f))) c j).set 6 (some (.val (.list (ns.map .int)))))) := by
  have := ev_comp2ng (G := G) (e := .bin .add (.var 9) (.bin .mul (.var 8) (.var 10))) (i := 9) (j := 10) (it := .zip (.var 6) (.var 7)) (env0 := afB m act ns o5 (some (.val (tupI fm))) (some (.val (.int f))) c j) (env := (afB m act ns o5 (some (.val (tupI fm))) (some (.val (.int f))) c j).set 6 (some (.val (.list (ns.map .int))))) (items := (ns.zip fm).map fun p => ((.int p.1 : D), (.int p.2 : D))) (f := fun q => match q with | (.int a, .int b) => .int (a + f * b) | _ => .none) (by decide) (by
      rw [← zip_pairs]
      simp [ev_var, frz_slot, tupI]) (noOwn_none rfl) (noOwn_none rfl) (fun d hd => by
      obtain ⟨p, hp, rfl⟩ := List.mem_map.mp hd
      have hx := hb p.2 (List.of_mem_zip hp).2
      simp [ev_var, bin_mul, mul_small (i := f) (j := p.2) (by omega)])
  rw [this]
  congr 3
  rw [List.map_map]
  unfold addF
  rw [List.map_zipWith, zw]
  rfl
theorem af_turn {m act : Int} {ns fm : List Int} {o5 o7 o8 : Option Slot} {c j : Int} (hb : ∀ x ∈ fm, -1 ≤ x ∧ x ≤ 1) : ∃ ns' o8' c' j', (ns' = ns ∨ ∃ f, 0 ≤ f ∧ f ≤ 3 ∧ ns' = addF f ns fm) ∧ ∀ G, HForm G → stepF G 0 (.name 7) afStep (tupI fm) (afB m act ns o5 o7 o8 c j) = some (.next (afB m act ns' o5 (some (.val (tupI fm))) o8' c' j')) := by
  by_cases h0 : rollV c j 3 = 0
  · have hf := roll_range (c := rollC c j 3) (j := rollJ c j 3) (m := 3) (by decide)
    generalize hfe : rollV (rollC c j 3) (rollJ c j 3) 3 = f at hf
    refine ⟨addF (1 + f) ns fm, some (.val (.int (1 + f))), rollC (rollC c j 3) (rollJ c j 3) 3, rollJ (rollC c j 3) (rollJ c j 3) 3, .inr ⟨1 + f, by omega, by omega, rfl⟩, fun G hG => ?_⟩
    obtain ⟨hE, hR⟩ := hG
    have ec := af_comp (G := G) (m := m) (act := act) (f := 1 + f) (ns := ns) (fm := fm) (o5 := o5) (c := rollC (rollC c j 3) (rollJ c j 3) 3) (j := rollJ (rollC c j 3) (rollJ c j 3) 3) hb
    simp [stepF, Z.asg_name, afStep, exs_cons, ev_roll0 hR, h0, hfe, fresh, slotOf, setAt, ec]
  · refine ⟨ns, o8, rollC c j 3, rollJ c j 3, .inl rfl, fun G hG => ?_⟩
    obtain ⟨hE, hR⟩ := hG
    simp [stepF, Z.asg_name, afStep, exs_cons, ev_roll0 hR, h0]
theorem af_loop {m act : Int} {o5 : Option Slot} : ∀ (fs : List (List Int)), (∀ f ∈ fs, ∀ x ∈ f, -1 ≤ x ∧ x ≤ 1) → ∀ (ns : List Int) (bs : List Nat) (o7 o8 : Option Slot) (c j : Int), (∀ f ∈ fs, f.length = bs.length) → le2 ns bs → ∃ ns' o7' o8' c' j', le2 ns' (fs.foldl bstep bs) ∧
    ∀ G, HForm G → forL (stepF G 0 (.name 7) afStep) (fs.map tupI) (afB m act ns o5 o7 o8 c j) = some (.next (afB m act ns' o5 o7' o8' c' j')) := by
  intro fs
  induction fs with
  | nil => intro _ ns bs o7 o8 c j _ h; exact ⟨ns, o7, o8, c, j, h, fun G _ => rfl⟩
  | cons f fs ih =>
    intro hb ns bs o7 o8 c j hl h
    obtain ⟨ns1, o1, c1, j1, hn, h1⟩ := af_turn (m := m) (act := act) (ns := ns) (o5 := o5) (o7 := o7) (o8 := o8) (c := c) (j := j) (hb f List.mem_cons_self)
    have hlf : f.length = bs.length := hl f List.mem_cons_self
    have hb1 : (bstep bs f).length = bs.length := by unfold bstep; rw [List.length_zipWith]; omega
    have hle : le2 ns1 (bstep bs f) := by
      rcases hn with rfl | ⟨g, g0, g3, rfl⟩
      · exact le2_mono f hlf.symm h
      · exact le2_add g0 g3 f h
    obtain ⟨ns2, o2, o3, c2, j2, h2, h3⟩ := ih (fun f hf => hb f (List.mem_cons_of_mem _ hf)) ns1 (bstep bs f) (some (.val (tupI f))) o1 c1 j1 (fun g hg => by rw [hb1]; exact hl g (List.mem_cons_of_mem _ hg)) hle
    refine ⟨ns2, o2, o3, c2, j2, h2, fun G hG => ?_⟩
    rw [List.map_cons]
    unfold forL
    rw [h1 G hG]
    exact h3 G hG
end M
/-! Drawn forms, whole; wrong forms. -/
namespace M
open Z
theorem ints_of {Q : Int → Prop} : ∀ {vs : List D}, (∀ v ∈ vs, ∃ n, v = .int n ∧ Q n) → ∃ ns : List Int, vs = ns.map .int ∧ ∀ n ∈ ns, Q n
  | [], _ => ⟨[], rfl, fun n h => by cases h⟩
  | v :: vs, h => by
    obtain ⟨n, rfl, hn⟩ := h v List.mem_cons_self
    obtain ⟨ns, rfl, hs⟩ := ints_of (fun w hw => h w (List.mem_cons_of_mem _ hw))
    exact ⟨n :: ns, rfl, fun x hx => by
      rcases List.mem_cons.mp hx with rfl | hx
      · exact hn
      · exact hs x hx⟩
theorem elem_head {m : Int} (hm : 1 ≤ m ∧ m ≤ 4) : ∃ f0 rest, elemI m = f0 :: rest ∧ f0.length = pw m - 1 := by
  have h1 := elem_len hm
  have h2 := elem_ne hm
  cases e : elemI m with
  | nil => exact absurd e h2
  | cons f0 rest => exact ⟨f0, rest, rfl, h1 f0 (by rw [e]; exact List.mem_cons_self)⟩
theorem pw_vals {m : Int} (hm : 1 ≤ m ∧ m ≤ 4) : 1 ≤ pw m - 1 ∧ pw m - 1 ≤ 15 := by rcases one4 hm with rfl | rfl | rfl | rfl <;> decide
theorem set_natAbs {ns : List Int} {p : Nat} {v : Int} {t : Nat} (h : ∀ n ∈ ns, n.natAbs ≤ t) (hv : v.natAbs ≤ t) : ∀ n ∈ ns.set p v, n.natAbs ≤ t := fun n hn => by
  rcases List.mem_or_eq_of_mem_set hn with h1 | h1
  · exact h n h1
  · rw [h1]; exact hv
theorem any_form_draws {m c j : Int} (hm : 1 ≤ m ∧ m ≤ 4) : ∃ d c' j', GoodForm [.int m] d ∧ Draws HForm b_l_any_form 11 [.int m] c j d c' j' := by
  obtain ⟨f0, rest, hel, hf0⟩ := elem_head hm
  have hpw := pw_vals hm
  have hr := roll_range (c := c) (j := j) (m := 4) (by decide)
  generalize hact : rollV c j 4 = act at hr
  generalize hc1 : rollC c j 4 = c1
  generalize hj1 : rollJ c j 4 = j1
  -- the first two statements
  have hidx : idxD (elL m) (.int 0) = some (tupI f0) := by unfold elL; rw [hel]; simp [idx_list, place?]
  have e1 : ∀ G, HForm G → ex G 0 (.set 2 (.call .l_elementary [] (.cons (.var 1) .nil))) (env0 11 (.own true (dice c j) :: [PySem.PyData.int m].map .val)) = some (.next [some (.own true (dice c j)), some (.val (.int m)), some (.val (elL m)), none, none, none, none, none, none, none, none]) := fun G hG => by
    simp [env0, ev_var, ev_call, owned, hG.1, F_l_elementary, hm, giveBack, fresh, slotOf, setAt, List.replicate]
  have e2 : ∀ G, HForm G → ex G 0 (.par [3, 4] (.cons (.bi .len (.cons (.idx (.var 2) (.int 0)) .nil)) (.cons (.call .l_roll [0] (.cons (.int 4) .nil)) .nil))) [some (.own true (dice c j)), some (.val (.int m)), some (.val (elL m)), none, none, none, none, none, none, none, none] = some (.next [some (.own true (dice c1 j1)), some (.val (.int m)), some (.val (elL m)), some (.val (.int ((pw m - 1 : Nat) : Int))), some (.val (.int act)), none, none, none, none, none, none]) := fun G hG => by
    have hlen : biD .len [tupI f0] = some (.int ((pw m - 1 : Nat) : Int)) := by unfold tupI; rw [bi_lenT, List.length_map, hf0]
    simp [ev_var, hidx, hlen, ev_roll0 hG.2, hact, hc1, hj1, fresh, slotOf, sets]
  by_cases h0 : act = 0
  · -- entries drawn one by one
    obtain ⟨vs, c', j', q1, q2, q3⟩ := compD (H := HForm) (base := [none, some (.val (.int m)), some (.val (elL m)), some (.val (.int ((pw m - 1 : Nat) : Int))), some (.val (.int act)), none, none, none, none, none, none]) (s := 0) (i := 5) (k := true) (it := .range1 (.var 3)) (e := .bin .sub (.call .l_roll [0] (.cons (.int 7) .nil)) (.int 3)) (items := (List.range (pw m - 1)).map fun (k : Nat) => .int k) (P := fun v => ∃ n, v = .int n ∧ -3 ≤ n ∧ n ≤ 3) (c := c1) (j := j1) (c1 := c1) (j1 := j1) (by decide) (noOwn_none rfl)
      (fun G hG => by simp [wd, ev_var, range_ok (i := 0) (j := ((pw m - 1 : Nat) : Int)) (by omega)])
      (fun d hd c j => by
        have hr := roll_range (c := c) (j := j) (m := 7) (by decide)
        refine ⟨.int (rollV c j 7 - 3), rollC c j 7, rollJ c j 7, ⟨_, rfl, by omega, by omega⟩, fun G hG => ?_⟩
        simp [wd, ev_roll0 hG.2])
    obtain ⟨ns, rfl, hns⟩ := ints_of q2
    simp only [List.length_map, List.length_range] at q1
    refine ⟨tupI ns, c', j', ⟨m, ns, rfl, rfl, q1, fun n hn => by have := hns n hn; omega⟩, fun G hG => ?_⟩
    refine ⟨0, wd [none, some (.val (.int m)), some (.val (elL m)), some (.val (.int ((pw m - 1 : Nat) : Int))), some (.val (.int act)), none, none, none, none, none, none] 0 true c' j', ?_, rfl⟩
    unfold b_l_any_form
    rw [exs_next (e1 G hG), exs_next (e2 G hG)]
    have q3 : ev G (.comp (.bin .sub (.call .l_roll [0] (.cons (.int 7) .nil)) (.int 3)) (.name 5) (.range1 (.var 3)) .non) [some (.own true (dice c1 j1)), some (.val (.int m)), some (.val (elL m)), some (.val (.int ((pw m - 1 : Nat) : Int))), some (.val (.int act)), none, none, none, none, none, none] = _ := q3 G hG
    refine exs_ret ?_
    simp [ev_var, h0]
    rw [exs_cons]
    subst h0
    simp [q3, tupI]
  · -- sums of elementary ones
    obtain ⟨ns, o7, o8, c2, j2, hle, hloop⟩ := af_loop (m := m) (act := act) (o5 := none) (elemI m) (elem_small hm) (List.replicate (pw m - 1) 0) (List.replicate (pw m - 1) 0) none none c1 j1 (fun f hf => by rw [List.length_replicate]; exact elem_len hm f hf) (le2_zero _)
    have hns : ∀ n ∈ ns, n.natAbs ≤ 30 := le2_mem hle (bound_30 hm)
    have hlen : ns.length = pw m - 1 := by
      have : ∀ (fs : List (List Int)) (bs : List Nat), (∀ f ∈ fs, f.length = bs.length) → (fs.foldl bstep bs).length = bs.length := fun fs => by
        induction fs with
        | nil => intro bs _; rfl
        | cons f fs ih =>
          intro bs h
          have hb1 : (bstep bs f).length = bs.length := by unfold bstep; rw [List.length_zipWith, h f List.mem_cons_self]; omega
          rw [List.foldl_cons, ih (bstep bs f) fun g hg => by rw [hb1]; exact h g (List.mem_cons_of_mem _ hg), hb1]
      rw [le2_len hle, this _ _ fun f hf => by rw [List.length_replicate]; exact elem_len hm f hf, List.length_replicate]
    have hmul : binD .mul (.list [.int 0]) (.int ((pw m - 1 : Nat) : Int)) = some (.list ((List.replicate (pw m - 1) (0 : Int)).map .int)) := by
      rcases one4 hm with rfl | rfl | rfl | rfl <;> rfl
    have e4 : ∀ G, ex G 0 (.set 6 (.bin .mul (.lst (.cons (.int 0) .nil)) (.var 3))) [some (.own true (dice c1 j1)), some (.val (.int m)), some (.val (elL m)), some (.val (.int ((pw m - 1 : Nat) : Int))), some (.val (.int act)), none, none, none, none, none, none] = some (.next (afB m act (List.replicate (pw m - 1) 0) none none none c1 j1)) := fun G => by
      simp [ev_var, lim, hmul, fresh, slotOf, setAt, -List.map_replicate]
    have e5 : ∀ G, HForm G → ex G 0 (.for_ (.name 7) (.of (.var 2)) afStep) (afB m act (List.replicate (pw m - 1) 0) none none none c1 j1) = some (.next (afB m act ns none o7 o8 c2 j2)) := fun G hG => ex_for_same (hloop G hG) (by simp [ev_var, elL])
    have e3 : ∀ G, ex G 0 (.if_ (.cmp .eq (.var 4) (.int 0)) [.ret (.bi .tuple (.cons (.comp (.bin .sub (.call .l_roll [0] (.cons (.int 7) .nil)) (.int 3)) (.name 5) (.range1 (.var 3)) .non) .nil))] []) [some (.own true (dice c1 j1)), some (.val (.int m)), some (.val (elL m)), some (.val (.int ((pw m - 1 : Nat) : Int))), some (.val (.int act)), none, none, none, none, none, none] = some (.next [some (.own true (dice c1 j1)), some (.val (.int m)), some (.val (elL m)), some (.val (.int ((pw m - 1 : Nat) : Int))), some (.val (.int act)), none, none, none, none, none, none]) := fun G => by
      simp [ev_var, h0]
    by_cases h1 : act = 1
    · -- one coefficient changed
      have hp := roll_range (c := c2) (j := j2) (m := ((pw m - 1 : Nat) : Int)) (by omega)
      generalize hpe : rollV c2 j2 ((pw m - 1 : Nat) : Int) = p at hp
      have hpl : p.toNat < ns.length := by omega
      have hplace : place? ns.length p = some p.toNat := place_nat hp.1 (by omega)
      refine ⟨tupI (ns.set p.toNat (ns[p.toNat] - 1)), rollC c2 j2 ((pw m - 1 : Nat) : Int), rollJ c2 j2 ((pw m - 1 : Nat) : Int), ⟨m, _, rfl, rfl, by rw [List.length_set]; exact hlen, fun n hn => ?_⟩, fun G hG => ?_⟩
      · have := set_natAbs (t := 31) (fun n hn => Nat.le_succ_of_le (hns n hn)) (v := ns[p.toNat] - 1) (by have := hns _ (List.getElem_mem hpl); omega) n hn
        omega
      · refine ⟨0, afB m act (ns.set p.toNat (ns[p.toNat] - 1)) (some (.val (.int p))) o7 o8 (rollC c2 j2 ((pw m - 1 : Nat) : Int)) (rollJ c2 j2 ((pw m - 1 : Nat) : Int)), ?_, rfl⟩
        unfold b_l_any_form
        rw [exs_next (e1 G hG), exs_next (e2 G hG), exs_next (e3 G), exs_next (e4 G)]
        refine (exs_next (e5 G hG)).trans ?_
        have er := ev_roll0v (G := G) hG.2 (rest := [some (.val (.int m)), some (.val (elL m)), some (.val (.int ((pw m - 1 : Nat) : Int))), some (.val (.int act)), none, some (.own false (ns.map .int)), o7, o8, none, none]) (k := true) (c := c2) (j := j2) (m := ((pw m - 1 : Nat) : Int)) (i := 2) rfl (by omega)
        rw [hpe] at er
        have er : ev G (.call .l_roll [0] (.cons (.var 3) .nil)) (afB m act ns none o7 o8 c2 j2) = _ := er
        subst h1
        simp [exs_cons, ev_var, er, fresh, slotOf, setAt, rd_slot, idx_list, hplace, List.getElem?_eq_getElem hpl, own?, putAt, tupI, List.map_set]
    · refine ⟨tupI ns, c2, j2, ⟨m, ns, rfl, rfl, hlen, fun n hn => by have := hns n hn; omega⟩, fun G hG => ?_⟩
      refine ⟨0, afB m act ns none o7 o8 c2 j2, ?_, rfl⟩
      unfold b_l_any_form
      rw [exs_next (e1 G hG), exs_next (e2 G hG), exs_next (e3 G), exs_next (e4 G)]
      refine (exs_next (e5 G hG)).trans ?_
      simp [exs_cons, ev_var, h1, rd_slot, tupI]
noncomputable def m_any_form : Sem := semD HForm b_l_any_form 11 GoodForm
theorem any_form_at {m c j : Int} (hm : 1 ≤ m ∧ m ≤ 4) : ∃ ns c' j', IsForm m ns ∧ m_any_form [dice c j] [.int m] = some (.ok (tupI ns, [dice c' j'])) := by
  obtain ⟨d, c', j', ⟨m', ns, e1, e2, e3⟩, h⟩ := semD_at (any_form_draws (c := c) (j := j) hm)
  cases e1
  subst e2
  exact ⟨ns, c', j', e3, h⟩
end M
/-! Wrong forms. -/
namespace M
open Z
def badL (n0 : Int) (tl : List Int) : List D := [.tuple ((n0 :: tl).map .int ++ [.int 0]), .tuple (tl.map .int), .list ((n0 :: tl).map .int), .none, .tuple (.int 100 :: tl.map .int), .tuple (.int (-100) :: tl.map .int), .tuple (.bool true :: tl.map .int), .tuple (.none :: tl.map .int), .tuple (.str "1" :: tl.map .int), .tuple (.tuple [.int 1] :: tl.map .int), .int 5, .str "1"]
def GoodBad (ds : List D) (d : D) : Prop := isRow d (-99) 99 = false
theorem badL_bad {m n0 : Int} {tl : List Int} (hm : 1 ≤ m ∧ m ≤ 4) (h : IsForm m (n0 :: tl)) : ∀ d ∈ badL n0 tl, isRow d (-99) 99 = false := by
  obtain ⟨hl, _⟩ := h
  rw [List.length_cons] at hl
  have h1 : rowLen (tl.length + 2) = false ∧ rowLen tl.length = false := by
    rcases one4 hm with rfl | rfl | rfl | rfl
    · have e : tl.length = 0 := by simpa [pw] using hl
      rw [e]; decide
    · have e : tl.length = 2 := by simpa [pw] using hl
      rw [e]; decide
    · have e : tl.length = 6 := by simpa [pw] using hl
      rw [e]; decide
    · have e : tl.length = 14 := by simpa [pw] using hl
      rw [e]; decide
  intro d hd
  unfold badL at hd
  simp only [List.mem_cons, List.not_mem_nil, or_false] at hd
  rcases hd with rfl | rfl | rfl | rfl | rfl | rfl | rfl | rfl | rfl | rfl | rfl | rfl <;> simp [isRow, isWhole, h1]
def HBad (G : Gam) : Prop := G .l_roll = m_l_roll
theorem bad_form_draws {m n0 c j : Int} {tl : List Int} (hm : 1 ≤ m ∧ m ≤ 4) (h : IsForm m (n0 :: tl)) : ∃ d c' j', GoodBad [tupI (n0 :: tl)] d ∧ Draws HBad b_l_bad_form 3 [tupI (n0 :: tl)] c j d c' j' := by
  have hr := roll_range (c := c) (j := j) (m := 12) (by decide)
  generalize hre : rollV c j 12 = r at hr
  have hlt : r.toNat < (badL n0 tl).length := by show r.toNat < 12; omega
  have htl : tl.length ≤ 14 := by
    have h1 := h.1
    have := pw_vals hm
    rw [List.length_cons] at h1
    omega
  refine ⟨(badL n0 tl)[r.toNat], rollC c j 12, rollJ c j 12, badL_bad hm h _ (List.getElem_mem hlt), fun G hG => ?_⟩
  have hG : G .l_roll = m_l_roll := hG
  have hclip : clip (tl.length + 1) 1 = 1 := by unfold clip; simp
  refine ⟨0, [some (.own true (dice (rollC c j 12) (rollJ c j 12))), some (.val (tupI (n0 :: tl))), some (.own false (badL n0 tl))], ?_, rfl⟩
  have hi : ev G (.ife (.cmp .gt (.bi .len (.cons (.var 1) .nil)) (.int 1)) (.sliceF (.var 1) (.int 1)) (.tup .nil)) [some (.own true (dice c j)), some (.val (tupI (n0 :: tl))), none] = some (.ok (.imm (.tuple (tl.map .int))) [some (.own true (dice c j)), some (.val (tupI (n0 :: tl))), none]) := by
    cases tl with
    | nil => simp [ev_var, tupI]
    | cons a b => simp [ev_var, tupI, clip, show (1 : Int) < b.length + 1 + 1 by omega]
  have hs : ∀ o, ev G (.sliceF (.var 1) (.int 1)) [some (.own true (dice c j)), some (.val (tupI (n0 :: tl))), o] = some (.ok (.imm (.tuple (tl.map .int))) [some (.own true (dice c j)), some (.val (tupI (n0 :: tl))), o]) := fun o => by
    simp [ev_var, tupI, hclip]
  have ha : ∀ d : D, binD .add (.tuple [d]) (.tuple (tl.map .int)) = some (.tuple (d :: tl.map .int)) := fun d => bin_addT (by simp; omega)
  have e1 : ex G 0 (.set 2 (.lst (.cons (.bin .add (.var 1) (.tup (.cons (.int 0) .nil))) (.cons (.ife (.cmp .gt (.bi .len (.cons (.var 1) .nil)) (.int 1)) (.sliceF (.var 1) (.int 1)) (.tup .nil)) (.cons (.bi .list (.cons (.var 1) .nil)) (.cons .non (.cons (.bin .add (.tup (.cons (.int 100) .nil)) (.sliceF (.var 1) (.int 1))) .nil))))))) (env0 3 (.own true (dice c j) :: [tupI (n0 :: tl)].map .val)) = some (.next [some (.own true (dice c j)), some (.val (tupI (n0 :: tl))), some (.own false ((badL n0 tl).take 5))]) := by
    have h1 : binD .add (tupI (n0 :: tl)) (.tuple [.int 0]) = some (.tuple ((n0 :: tl).map .int ++ [.int 0])) := bin_addT (by simp; omega)
    have h2 : biD .list [tupI (n0 :: tl)] = some (.list ((n0 :: tl).map .int)) := rfl
    simp only [ex_set, ev_lst, evs_cons, env0, List.map_cons, List.map_nil, List.length_cons, List.length_nil, List.cons_append, List.nil_append, Nat.reduceAdd, Nat.reduceSub, List.replicate]
    simp [ev_var, h1, h2, hi, hs, ha, fresh, slotOf, setAt, badL, -ev_ife, -ev_sliceF]
  have e2 : ex G 0 (.set 2 (.bin .add (.var 2) (.lst (.cons (.bin .add (.tup (.cons (.neg (.int 100)) .nil)) (.sliceF (.var 1) (.int 1))) .nil)))) [some (.own true (dice c j)), some (.val (tupI (n0 :: tl))), some (.own false ((badL n0 tl).take 5))] = some (.next [some (.own true (dice c j)), some (.val (tupI (n0 :: tl))), some (.own false ((badL n0 tl).take 6))]) := by
    simp [ev_var, hs, ha, bin_addL, rd_slot, fresh, slotOf, setAt, badL, -ev_sliceF]
  have e3 : ex G 0 (.set 2 (.bin .add (.var 2) (.lst (.cons (.bin .add (.tup (.cons (.bl true) .nil)) (.sliceF (.var 1) (.int 1))) (.cons (.bin .add (.tup (.cons .non .nil)) (.sliceF (.var 1) (.int 1))) (.cons (.bin .add (.tup (.cons (.str "1") .nil)) (.sliceF (.var 1) (.int 1))) (.cons (.bin .add (.tup (.cons (.tup (.cons (.int 1) .nil)) .nil)) (.sliceF (.var 1) (.int 1))) (.cons (.int 5) (.cons (.str "1") .nil))))))))) [some (.own true (dice c j)), some (.val (tupI (n0 :: tl))), some (.own false ((badL n0 tl).take 6))] = some (.next [some (.own true (dice c j)), some (.val (tupI (n0 :: tl))), some (.own false (badL n0 tl))]) := by
    simp [ev_var, hs, ha, bin_addL, rd_slot, fresh, slotOf, setAt, badL, -ev_sliceF]
  unfold b_l_bad_form
  rw [exs_next e1, exs_next e2, exs_next e3]
  have er := ev_roll (G := G) hG (base := [some (.own true (dice c j)), some (.val (tupI (n0 :: tl))), some (.own false (badL n0 tl))]) (s := 0) (k := true) (c := c) (j := j) (m := 12) (e := .bi .len (.cons (.var 2) .nil)) (by simp) (by decide) (by simp [wd, ev_var, rd_slot, badL])
  rw [hre] at er
  have er : ev G (.call .l_roll [0] (.cons (.bi .len (.cons (.var 2) .nil)) .nil)) [some (.own true (dice c j)), some (.val (tupI (n0 :: tl))), some (.own false (badL n0 tl))] = some (.ok (.imm (.int r)) [some (.own true (dice (rollC c j 12) (rollJ c j 12))), some (.val (tupI (n0 :: tl))), some (.own false (badL n0 tl))]) := er
  have hpl : place? (badL n0 tl).length r = some r.toNat := place_nat hr.1 (by show r < 12; omega)
  simp [exs_cons, ev_var, er, rd_slot, idx_list, hpl, List.getElem?_eq_getElem hlt]
noncomputable def m_bad_form : Sem := semD HBad b_l_bad_form 3 GoodBad
theorem bad_form_at {m n0 c j : Int} {tl : List Int} (hm : 1 ≤ m ∧ m ≤ 4) (h : IsForm m (n0 :: tl)) : ∃ d c' j', isRow d (-99) 99 = false ∧ m_bad_form [dice c j] [tupI (n0 :: tl)] = some (.ok (d, [dice c' j'])) := by
  obtain ⟨d, c', j', h1, h2⟩ := semD_at (bad_form_draws (c := c) (j := j) hm h)
  exact ⟨d, c', j', h1, h2⟩
end M
/-! Breaches and holding, by what is decided; calls with dice. -/
namespace M
open Z
theorem call1 {G : Gam} {f : Fn} {es : Es} {env : Env} {s : Nat} {k : Bool} {ds : List D} {d : D} {c j c' j' : Int} (h0 : env[s]? = some (some (.own k (dice c j)))) (h1 : evs G es env = some (.ok ds env)) (h2 : G f [dice c j] ds = some (.ok (d, [dice c' j']))) :
    ev G (.call f [s] es) env = some (.ok (.imm d) (env.set s (some (.own k (dice c' j'))))) := by
  rw [ev_call]
  simp only [owned, h0, Option.map_some, Option.isNone_some, Bool.false_eq_true, if_false, h1, bnd_ok, Option.bind_some, h2]
  rw [callA_ok _ _ _ _ rfl]
  unfold giveBack putOwn
  rw [h0]
  rfl
def breachOf (dec : D → D → Ans) (x : D) : Ans := if isRow x (-99) 99 then (match dec x (.tuple []) with
  | some (.ok (.tuple [a, b])) => some (.ok b)
  | _ => none) else some (.error .form)
theorem mir_breach {G : Gam} {dec : D → D → Ans} (h1 : G .need_form = sem1 F_need_form) (h2 : G .decided = sem2 dec) : Mir0 G 1 1 b_breach (sem1 (breachOf dec)) := mir_sem1 fun x r h => by
  unfold breachOf at h
  split at h
  · rename_i hx
    split at h
    · rename_i a b hd
      cases h
      refine runs_ret (fuel := 0) (env := [some (.val x)]) ?_
      simp [b_breach, exs_cons, env0, ev_var, ev_call, owned, h1, h2, F_need_form, hx, giveBack, hd, idx_tuple, place?]
    · cases h
  · rename_i hx
    cases h
    refine runs_err (fuel := 0) (env := [some (.val x)]) ?_
    simp [b_breach, exs_cons, env0, ev_var, ev_call, owned, h1, F_need_form, hx]
def holdsOf (dec : D → D → Ans) (x : D) : Ans := match breachOf dec x with
  | some (.ok d) => some (.ok (.bool (isNone d)))
  | some (.error c) => some (.error c)
  | none => none
theorem mir_holds {G : Gam} {dec : D → D → Ans} (h1 : G .breach = sem1 (breachOf dec)) : Mir0 G 1 1 b_holds (sem1 (holdsOf dec)) := mir_sem1 fun x r h => by
  unfold holdsOf at h
  split at h
  · rename_i d hd
    cases h
    refine runs_ret (fuel := 0) (env := [some (.val x)]) ?_
    simp [b_holds, exs_cons, env0, ev_var, ev_call, owned, h1, hd, giveBack]
  · rename_i c hd
    cases h
    refine runs_err (fuel := 0) (env := [some (.val x)]) ?_
    simp [b_holds, exs_cons, env0, ev_var, ev_call, owned, h1, hd]
  · cases h
/-- nothing is promised -/
def noSem : D → D → Ans := fun _ _ => none
theorem noSem_none (xs : List (List D)) (ds : List D) : sem2 noSem xs ds = none := by
  unfold sem2
  split <;> rfl
theorem isRow_form {m : Int} {ns : List Int} (hm : 1 ≤ m ∧ m ≤ 4) (h : IsForm m ns) : isRow (tupI ns) (-99) 99 = true := by
  show (rowLen (ns.map PySem.PyData.int).length && (ns.map PySem.PyData.int).all (isWhole · (-99) 99)) = true
  rw [Bool.and_eq_true, List.length_map, h.1]
  refine ⟨by rcases one4 hm with rfl | rfl | rfl | rfl <;> decide, ?_⟩
  rw [List.all_map, List.all_eq_true]
  intro n hn
  have := h.2 n hn
  show (decide (-99 ≤ n) && decide (n ≤ 99)) = true
  rw [decide_eq_true this.1, decide_eq_true this.2]
  rfl
end M
/-! Mirrors: measures. -/
namespace M
open Z
def dot (fm vs : List Int) : Int := (List.zipWith (· * ·) fm vs).sum
def tint? : D → Option (List Int)
  | .tuple xs => ints? xs
  | _ => none
@[simp] theorem tint?_tupI (ns : List Int) : tint? (tupI ns) = some ns := ints?_ints ns
theorem ints?_eq : ∀ {xs : List D} {ns : List Int}, ints? xs = some ns → xs = ns.map .int
  | [], ns, h => by cases h; rfl
  | x :: xs, ns, h => by
    unfold ints? at h
    split at h
    · cases ‹x :: xs = []›
    · rename_i i r e
      cases e
      obtain ⟨ns', h1, rfl⟩ := Option.map_eq_some_iff.mp h
      rw [ints?_eq h1]
      rfl
    · cases h
theorem tint?_eq {d : D} {ns : List Int} (h : tint? d = some ns) : d = tupI ns := by
  unfold tint? at h
  split at h
  · rw [ints?_eq h]; rfl
  · cases h
theorem enum_zip {β : Type} (g : Int → Int → β) : ∀ (fm vs : List Int) (k : Nat), fm.length + k ≤ vs.length → (fm.zipIdx k).map (fun p => g p.1 (vs.getD p.2 0)) = List.zipWith g fm (vs.drop k)
  | [], vs, k, _ => by simp
  | a :: fm, vs, k, h => by
    rw [List.length_cons] at h
    have hk : k < vs.length := by omega
    rw [List.zipIdx_cons, List.map_cons, List.drop_eq_getElem_cons hk, List.zipWith_cons_cons, enum_zip g fm vs (k + 1) (by omega)]
    congr 1
    rw [List.getD_eq_getElem?_getD, List.getElem?_eq_getElem hk]
    rfl
def small (i : Int) : Bool := decide (i.natAbs < 18446744073709551616)
/-- enumerate, as pairs -/
theorem enum_pairs (ns : List Int) : enumD (ns.map .int) = (ns.zipIdx.map fun p => ((.int (p.2 : Nat) : D), (.int p.1 : D))).map fun q => .tuple [q.1, q.2] := by
  unfold enumD
  rw [List.zipIdx_map, List.map_map, List.map_map]
  rfl
theorem zipIdx_lt {α : Type} {l : List α} {p : α × Nat} (h : p ∈ l.zipIdx) : p.2 < l.length := by
  have := List.mem_zipIdx h
  omega
theorem zipIdx_mem {α : Type} {l : List α} {p : α × Nat} (h : p ∈ l.zipIdx) : p.1 ∈ l := by
  obtain ⟨_, h2, h3⟩ := List.mem_zipIdx h
  rw [h3]
  exact List.getElem_mem _
def F_sum_of (x y : D) : Ans := match tint? x, tint? y with
  | some fm, some vs => if fm.length ≤ vs.length ∧ fm.all small = true then some (.ok (.int (dot fm vs))) else none
  | _, _ => none
theorem place_n {n k : Nat} (h : k < n) : place? n (k : Int) = some k := by rw [place_nat (by omega) (by omega)]; simp
theorem mir_sum_of {G : Gam} : Mir0 G 4 2 b_sum_of (sem2 F_sum_of) := mir_sem2 fun x y r h => by
  unfold F_sum_of at h
  split at h
  · rename_i fm vs hx hy
    have hx := tint?_eq hx
    have hy := tint?_eq hy
    subst hx hy
    split at h
    · rename_i hc
      cases h
      obtain ⟨hl, hs⟩ := hc
      refine runs_ret (fuel := 0) (env := [some (.val (tupI fm)), some (.val (tupI vs)), none, none]) ?_
      have ec := ev_comp2n (G := G) (e := .bin .mul (.var 3) (.idx (.var 1) (.var 2))) (i := 2) (j := 3) (it := .enum (.var 0)) (env := [some (.val (tupI fm)), some (.val (tupI vs)), none, none]) (items := fm.zipIdx.map fun p => ((.int (p.2 : Nat) : D), (.int p.1 : D))) (f := fun q => match q with | (.int a, .int b) => .int (b * vs.getD a.toNat 0) | _ => .none) (by decide) (by
          rw [← enum_pairs]
          simp [ev_var, tupI]) (noOwn_none rfl) (noOwn_none rfl) (fun d hd => by
          obtain ⟨p, hp, rfl⟩ := List.mem_map.mp hd
          have h1 := zipIdx_lt hp
          have h2 : p.2 < vs.length := by omega
          have h3 : p.1.natAbs < 18446744073709551616 := of_decide_eq_true (List.all_eq_true.mp hs p.1 (zipIdx_mem hp))
          simp [ev_var, tupI, idx_tuple, place_n h2, List.getElem?_eq_getElem h2, bin_mul, mul_small' h3])
      rw [List.map_map] at ec
      have e2 : (fm.zipIdx.map ((fun q : D × D => match q with | (.int a, .int b) => (.int (b * vs.getD a.toNat 0) : D) | _ => .none) ∘ fun p : Int × Nat => ((.int (p.2 : Nat) : D), (.int p.1 : D)))) = (List.zipWith (· * ·) fm vs).map .int := by
        rw [List.map_zipWith]
        have := enum_zip (fun a b => (.int (a * b) : D)) fm vs 0 (by omega)
        rw [List.drop_zero] at this
        rw [← this]
        rfl
      rw [e2] at ec
      simp [b_sum_of, exs_cons, env0, ec, dot, List.replicate, -List.map_zipWith]
    · cases h
  · cases h
/-- the first elementary form below 0 -/
def srcI (n : Nat) : Int := if n = 1 then 1 else if n = 3 then 2 else if n = 7 then 3 else 4
def firstNeg (vs : List Int) : Option Nat := (elemI (srcI vs.length)).findIdx? fun f => decide (dot f vs < 0)
def optD : Option Nat → D
  | some k => .int (k : Nat)
  | none => .none
def F_broken (x : D) : Ans := match tint? x with
  | some vs => if rowLen vs.length = true then some (.ok (optD (firstNeg vs))) else none
  | _ => none
theorem srcI_ok {n : Nat} (h : rowLen n = true) : srcN n = some (srcI n) ∧ 1 ≤ srcI n ∧ srcI n ≤ 4 ∧ pw (srcI n) - 1 = n := by
  simp [rowLen] at h
  rcases h with ((h | h) | h) | h <;> subst h <;> decide
theorem findIdx_some {α : Type} (p : α → Bool) : ∀ (l : List α) (k : Nat), (l.zipIdx k).findSome? (fun q => if p q.1 then some ((.int (q.2 : Nat) : D)) else none) = (l.findIdx? p).map fun i => (.int ((i + k : Nat) : Nat) : D)
  | [], k => by simp
  | a :: l, k => by
    rw [List.zipIdx_cons, List.findSome?_cons, List.findIdx?_cons]
    cases h : p a with
    | true => simp
    | false =>
      simp only [Bool.false_eq_true, if_false, findIdx_some p l (k + 1), Option.map_map]
      congr 1
      funext i
      simp only [Function.comp]
      congr 2
      omega
def negP (vs : List Int) (d : D) : Option D := match d with
  | .tuple [.int k, f] => (match tint? f with
    | some fm => if dot fm vs < 0 then some (.int k) else none
    | none => none)
  | _ => none
theorem negP_at (vs f : List Int) (k : Int) : negP vs (.tuple [.int k, tupI f]) = if dot f vs < 0 then some (.int k) else none := by
  unfold negP
  simp only [tint?_tupI]
theorem mir_broken {G : Gam} (h1 : G .sources_of = sem1 F_sources_of) (h2 : G .elementary_of = sem1 F_elementary_of) (h3 : G .sum_of = sem2 F_sum_of) : Mir0 G 3 1 b_broken (sem1 F_broken) := mir_sem1 fun x r h => by
  unfold F_broken at h
  split at h
  · rename_i vs hx
    have hx := tint?_eq hx
    subst hx
    split at h
    · rename_i hl
      cases h
      obtain ⟨s1, s2, s3, s4⟩ := srcI_ok hl
      have hit : evIt G (.enum (.call .elementary_of [] (.cons (.call .sources_of [] (.cons (.var 0) .nil)) .nil))) [some (.val (tupI vs)), none, none] = some (.ok (((elemI (srcI vs.length)).map tupI).zipIdx.map fun p => .tuple [.int (p.2 : Nat), p.1]) [some (.val (tupI vs)), none, none]) := by
        have s1' : F_sources_of (tupI vs) = some (.ok (.int (srcI vs.length))) := by
          show ((srcN (vs.map PySem.PyData.int).length).map fun i => (.ok (.int i) : Except Cls D)) = _
          rw [List.length_map, s1]
          rfl
        simp [ev_call, ev_var, owned, h1, s1', giveBack, h2, F_elementary_of, s2, s3, elT, enumD]
      have hloop := forL_ret (R := fun env => ∃ o1 o2, env = [some (.val (tupI vs)), o1, o2]) (step := stepF G 0 (.pair (.name 1) (.name 2)) [.if_ (.cmp .lt (.call .sum_of [] (.cons (.var 2) (.cons (.var 0) .nil))) (.int 0)) [.ret (.var 1)] []]) (p := negP vs) (items := ((elemI (srcI vs.length)).map tupI).zipIdx.map fun p => .tuple [.int (p.2 : Nat), p.1]) (fun env d hd ⟨o1, o2, he⟩ => by
        subst he
        obtain ⟨p, hp, rfl⟩ := List.mem_map.mp hd
        obtain ⟨f, hf, hfe⟩ := List.mem_map.mp (zipIdx_mem hp)
        obtain ⟨pf, pk⟩ := p
        simp only at hfe
        subst hfe
        have hlen := elem_len ⟨s2, s3⟩ f hf
        have hsm : f.all small = true := List.all_eq_true.mpr fun x hx => decide_eq_true (by have := elem_small ⟨s2, s3⟩ f hf x hx; omega)
        have hsum : F_sum_of (tupI f) (tupI vs) = some (.ok (.int (dot f vs))) := by
          unfold F_sum_of
          simp only [tint?_tupI]
          rw [if_pos ⟨by rw [hlen, s4]; exact Nat.le_refl _, hsm⟩]
        by_cases hd : dot f vs < 0
        · rw [negP_at, if_pos hd]
          refine ⟨[some (.val (tupI vs)), some (.val (.int (pk : Nat))), some (.val (tupI f))], ?_⟩
          simp [stepF, Z.asg_pair, Z.asg_name, exs_cons, ev_call, ev_var, owned, h3, hsum, giveBack, hd]
        · rw [negP_at, if_neg hd]
          refine ⟨[some (.val (tupI vs)), some (.val (.int (pk : Nat))), some (.val (tupI f))], ?_, _, _, rfl⟩
          simp [stepF, Z.asg_pair, Z.asg_name, exs_cons, ev_call, ev_var, owned, h3, hsum, giveBack, hd]) [some (.val (tupI vs)), none, none] ⟨none, none, rfl⟩
      have hfs : (((elemI (srcI vs.length)).map tupI).zipIdx.map fun p => (.tuple [.int (p.2 : Nat), p.1] : D)).findSome? (negP vs) = (firstNeg vs).map fun i => (.int (i : Nat) : D) := by
        rw [List.findSome?_map, List.zipIdx_map, List.findSome?_map]
        have := findIdx_some (fun f => decide (dot f vs < 0)) (elemI (srcI vs.length)) 0
        simp only [Nat.add_zero] at this
        unfold firstNeg
        rw [← this]
        congr 1
        funext q
        simp [Function.comp, negP_at]
      rw [hfs] at hloop
      cases hn : firstNeg vs with
      | none =>
        rw [hn] at hloop
        obtain ⟨env', e1, o1, o2, rfl⟩ := hloop
        refine runs_ret (fuel := 0) (env := [some (.val (tupI vs)), o1, o2]) ?_
        unfold b_broken
        rw [show env0 3 ([tupI vs].map Slot.val) = [some (.val (tupI vs)), none, none] from rfl, exs_next (ex_for_same e1 hit)]
        simp [exs_cons, optD]
      | some k =>
        rw [hn] at hloop
        obtain ⟨env', e1⟩ := hloop
        refine runs_ret (fuel := 0) (env := env') ?_
        unfold b_broken
        rw [show env0 3 ([tupI vs].map Slot.val) = [some (.val (tupI vs)), none, none] from rfl, exs_ret (ex_for_same e1 hit)]
        rfl
    · cases h
  · cases h
end M
/-! Mirrors: measures, sums, values. -/
namespace M
open Z
theorem whole_all : ∀ {xs : List D} {lo hi : Int}, (xs.all (isWhole · lo hi)) = true → ∃ ns : List Int, xs = ns.map .int ∧ ∀ n ∈ ns, lo ≤ n ∧ n ≤ hi := by
  intro xs lo hi h
  rw [List.all_eq_true] at h
  exact ints_of fun v hv => by
    have := h v hv
    unfold isWhole at this
    split at this
    · rename_i i
      rw [Bool.and_eq_true, decide_eq_true_eq, decide_eq_true_eq] at this
      exact ⟨i, rfl, this⟩
    · cases this
theorem isRow_tup {d : D} {lo hi : Int} (h : isRow d lo hi = true) : ∃ vs, d = tupI vs ∧ rowLen vs.length = true ∧ ∀ v ∈ vs, lo ≤ v ∧ v ≤ hi := by
  unfold isRow at h
  split at h
  · rename_i xs
    rw [Bool.and_eq_true] at h
    obtain ⟨ns, rfl, hn⟩ := whole_all h.2
    exact ⟨ns, rfl, by have := h.1; rwa [List.length_map] at this, hn⟩
  · cases h
theorem isRow_of {vs : List Int} {lo hi : Int} (h1 : rowLen vs.length = true) (h2 : ∀ v ∈ vs, lo ≤ v ∧ v ≤ hi) : isRow (tupI vs) lo hi = true := by
  show (rowLen (vs.map PySem.PyData.int).length && (vs.map PySem.PyData.int).all (isWhole · lo hi)) = true
  rw [Bool.and_eq_true, List.length_map]
  refine ⟨h1, ?_⟩
  rw [List.all_map, List.all_eq_true]
  intro n hn
  have := h2 n hn
  show (decide (lo ≤ n) && decide (n ≤ hi)) = true
  rw [decide_eq_true this.1, decide_eq_true this.2]
  rfl
def mostI : Int := 1000000000000
def isMeas (d : D) : Bool := isRow d 0 1000000000000 && (match tint? d with
  | some vs => (firstNeg vs).isNone
  | none => false)
theorem isMeas_tup (vs : List Int) : isMeas (tupI vs) = (isRow (tupI vs) 0 1000000000000 && (firstNeg vs).isNone) := by unfold isMeas; rw [tint?_tupI]
def F_is_measure (x : D) : Ans := some (.ok (.bool (isMeas x)))
theorem broken_at {vs : List Int} (h : rowLen vs.length = true) : F_broken (tupI vs) = some (.ok (optD (firstNeg vs))) := by
  unfold F_broken
  simp only [tint?_tupI]
  rw [if_pos h]
theorem isNone_opt (o : Option Nat) : isNone (optD o) = o.isNone := by cases o <;> rfl
theorem mir_is_measure {G : Gam} (h1 : G .is_row = sem3 F_is_row) (h2 : G .broken = sem1 F_broken) : Mir0 G 1 1 b_is_measure (sem1 F_is_measure) := mir_sem1 fun x r h => by
  cases h
  refine runs_ret (fuel := 0) (env := [some (.val x)]) ?_
  cases hr : isRow x 0 1000000000000 with
  | false =>
    simp [b_is_measure, exs_cons, env0, ev_var, ev_call, owned, h1, F_is_row, globD, hr, giveBack, isMeas]
  | true =>
    obtain ⟨vs, rfl, hl, _⟩ := isRow_tup hr
    simp [b_is_measure, exs_cons, env0, ev_var, ev_call, owned, h1, h2, F_is_row, globD, hr, giveBack, isMeas_tup, broken_at hl, isNone_opt]
def F_need_measure (x : D) : Ans := some (if isMeas x then .ok .none else .error .measure)
theorem mir_need_measure {G : Gam} (h1 : G .is_measure = sem1 F_is_measure) : Mir0 G 1 1 b_need_measure (sem1 F_need_measure) := mir_sem1 fun x r h => by
  cases h
  by_cases hr : isMeas x = true
  · rw [if_pos hr]
    refine runs_next (fuel := 0) (env := [some (.val x)]) ?_
    simp [b_need_measure, exs_cons, env0, ev_var, ev_call, owned, h1, F_is_measure, giveBack, hr]
  · rw [if_neg hr]
    refine runs_err (fuel := 0) (env := [some (.val x)]) ?_
    simp [b_need_measure, exs_cons, env0, ev_var, ev_call, owned, h1, F_is_measure, giveBack, hr]
def F_first_broken (x : D) : Ans := if isRow x 0 1000000000000 then F_broken x else some (.error .values)
theorem mir_first_broken {G : Gam} (h1 : G .is_row = sem3 F_is_row) (h2 : G .broken = sem1 F_broken) : Mir0 G 1 1 b_first_broken (sem1 F_first_broken) := mir_sem1 fun x r h => by
  unfold F_first_broken at h
  split at h
  · rename_i hr
    obtain ⟨vs, rfl, hl, _⟩ := isRow_tup hr
    rw [broken_at hl] at h
    cases h
    refine runs_ret (fuel := 0) (env := [some (.val (tupI vs))]) ?_
    simp [b_first_broken, exs_cons, env0, ev_var, ev_call, owned, h1, h2, F_is_row, globD, hr, giveBack, broken_at hl]
  · rename_i hr
    cases h
    refine runs_err (fuel := 0) (env := [some (.val x)]) ?_
    simp [b_first_broken, exs_cons, env0, ev_var, ev_call, owned, h1, F_is_row, globD, hr, giveBack]
/-! ### value -/
def F_value (x y : D) : Ans := if isRow x (-99) 99 then (if isMeas y then (match tint? x, tint? y with
  | some fm, some vs => some (if fm.length = vs.length then .ok (.int (dot fm vs)) else .error .unlike)
  | _, _ => none) else some (.error .measure)) else some (.error .form)
theorem isMeas_row {d : D} (h : isMeas d = true) : ∃ vs, d = tupI vs ∧ rowLen vs.length = true ∧ (∀ v ∈ vs, 0 ≤ v ∧ v ≤ 1000000000000) ∧ firstNeg vs = none := by
  unfold isMeas at h
  rw [Bool.and_eq_true] at h
  obtain ⟨vs, rfl, h1, h2⟩ := isRow_tup h.1
  refine ⟨vs, rfl, h1, h2, ?_⟩
  have := h.2
  rw [tint?_tupI] at this
  simpa using this
theorem small_of {fm : List Int} (h : ∀ v ∈ fm, -99 ≤ v ∧ v ≤ 99) : fm.all small = true := List.all_eq_true.mpr fun x hx => decide_eq_true (by have := h x hx; omega)
theorem sum_of_at {fm vs : List Int} (h1 : fm.length ≤ vs.length) (h2 : fm.all small = true) : F_sum_of (tupI fm) (tupI vs) = some (.ok (.int (dot fm vs))) := by
  unfold F_sum_of
  simp only [tint?_tupI]
  rw [if_pos ⟨h1, h2⟩]
theorem len_tup (ns : List Int) : biD .len [tupI ns] = some (.int ((ns.length : Nat) : Int)) := by unfold tupI; rw [bi_lenT, List.length_map]
theorem mir_value {G : Gam} (h1 : G .need_form = sem1 F_need_form) (h2 : G .need_measure = sem1 F_need_measure) (h3 : G .sum_of = sem2 F_sum_of) : Mir0 G 2 2 b_value (sem2 F_value) := mir_sem2 fun x y r h => by
  unfold F_value at h
  split at h
  · rename_i hx
    split at h
    · rename_i hy
      obtain ⟨fm, rfl, f1, f2⟩ := isRow_tup hx
      obtain ⟨vs, rfl, v1, v2, v3⟩ := isMeas_row hy
      simp only [tint?_tupI] at h
      by_cases hl : fm.length = vs.length
      · rw [if_pos hl] at h
        cases h
        refine runs_ret (fuel := 0) (env := [some (.val (tupI fm)), some (.val (tupI vs))]) ?_
        have hs := sum_of_at (vs := vs) (Nat.le_of_eq hl) (small_of f2)
        simp [b_value, exs_cons, env0, ev_var, ev_call, owned, h1, h2, h3, F_need_form, F_need_measure, hx, hy, giveBack, len_tup, hl, hs]
      · rw [if_neg hl] at h
        cases h
        refine runs_err (fuel := 0) (env := [some (.val (tupI fm)), some (.val (tupI vs))]) ?_
        have hl' : ¬ ((fm.length : Int) = (vs.length : Int)) := by omega
        simp [b_value, exs_cons, env0, ev_var, ev_call, owned, h1, h2, h3, F_need_form, F_need_measure, hx, hy, giveBack, len_tup, hl']
    · rename_i hy
      cases h
      refine runs_err (fuel := 0) (env := [some (.val x), some (.val y)]) ?_
      simp [b_value, exs_cons, env0, ev_var, ev_call, owned, h1, h2, F_need_form, F_need_measure, hx, hy, giveBack]
  · rename_i hx
    cases h
    refine runs_err (fuel := 0) (env := [some (.val x), some (.val y)]) ?_
    simp [b_value, exs_cons, env0, ev_var, ev_call, owned, h1, F_need_form, hx]
/-! ### sums -/
def tooBig (ns : List Int) : Bool := match ns with
  | [] => false
  | n :: r => decide (1000000000000 < maxI n r)
def chkI (ns : List Int) : Except Cls D := if tooBig ns then .error .tooLarge else .ok (tupI ns)
def F_checked (x : D) : Ans := match x with
  | .list xs => (match ints? xs with
    | some (n :: r) => some (chkI (n :: r))
    | _ => none)
  | _ => none
theorem mir_checked {G : Gam} : Mir0 G 1 1 b_checked (sem1 F_checked) := mir_sem1 fun x r h => by
  unfold F_checked at h
  split at h
  · rename_i xs
    split at h
    · rename_i n r' hx
      cases h
      have hx := ints?_eq hx
      subst hx
      unfold chkI
      by_cases hb : tooBig (n :: r') = true
      · rw [if_pos hb]
        refine runs_err (fuel := 0) (env := [some (.val (.list ((n :: r').map .int)))]) ?_
        have hb' : 1000000000000 < maxI n r' := of_decide_eq_true hb
        simp [b_checked, exs_cons, env0, ev_var, globD, hb', ints?_ints, -List.map_cons]
      · rw [if_neg hb]
        refine runs_ret (fuel := 0) (env := [some (.val (.list ((n :: r').map .int)))]) ?_
        have hb' : ¬ 1000000000000 < maxI n r' := fun z => hb (decide_eq_true z)
        simp [b_checked, exs_cons, env0, ev_var, globD, hb', ints?_ints, -List.map_cons]
        rfl
    · cases h
  · cases h
def F_plus (x y : D) : Ans := if isMeas x then (if isMeas y then (match tint? x, tint? y with
  | some a, some b => some (if a.length = b.length then chkI (List.zipWith (· + ·) a b) else .error .unlike)
  | _, _ => none) else some (.error .measure)) else some (.error .measure)
theorem checked_at {ns : List Int} (h : ns ≠ []) : F_checked (.list (ns.map .int)) = some (chkI ns) := by
  unfold F_checked
  simp only [ints?_ints]
  cases ns with
  | nil => exact absurd rfl h
  | cons a r => rfl
theorem rowLen_pos {n : Nat} (h : rowLen n = true) : 1 ≤ n := by simp [rowLen] at h; omega
theorem mir_plus {G : Gam} (h1 : G .need_measure = sem1 F_need_measure) (h2 : G .checked = sem1 F_checked) : Mir0 G 4 2 b_plus (sem2 F_plus) := mir_sem2 fun x y r h => by
  unfold F_plus at h
  split at h
  · rename_i hx
    split at h
    · rename_i hy
      obtain ⟨a, rfl, a1, a2, a3⟩ := isMeas_row hx
      obtain ⟨b, rfl, b1, b2, b3⟩ := isMeas_row hy
      simp only [tint?_tupI] at h
      by_cases hl : a.length = b.length
      · rw [if_pos hl] at h
        cases h
        have ec := ev_comp2n (G := G) (e := .bin .add (.var 3) (.idx (.var 1) (.var 2))) (i := 2) (j := 3) (it := .enum (.var 0)) (env := [some (.val (tupI a)), some (.val (tupI b)), none, none]) (items := a.zipIdx.map fun p => ((.int (p.2 : Nat) : D), (.int p.1 : D))) (f := fun q => match q with | (.int i, .int v) => .int (v + b.getD i.toNat 0) | _ => .none) (by decide) (by
            rw [← enum_pairs]
            simp [ev_var, tupI]) (noOwn_none rfl) (noOwn_none rfl) (fun d hd => by
            obtain ⟨p, hp, rfl⟩ := List.mem_map.mp hd
            have h1 := zipIdx_lt hp
            have h2 : p.2 < b.length := by omega
            simp [ev_var, tupI, idx_tuple, place_n h2, List.getElem?_eq_getElem h2])
        rw [List.map_map] at ec
        have e2 : (a.zipIdx.map ((fun q : D × D => match q with | (.int i, .int v) => (.int (v + b.getD i.toNat 0) : D) | _ => .none) ∘ fun p : Int × Nat => ((.int (p.2 : Nat) : D), (.int p.1 : D)))) = (List.zipWith (· + ·) a b).map .int := by
          rw [List.map_zipWith]
          have := enum_zip (fun u v => (.int (u + v) : D)) a b 0 (by omega)
          rw [List.drop_zero] at this
          rw [← this]
          rfl
        rw [e2] at ec
        have hne : List.zipWith (· + ·) a b ≠ [] := fun z => by
          have p1 := congrArg List.length z
          rw [List.length_zipWith, List.length_nil] at p1
          have p2 := rowLen_pos a1
          omega
        have hck := checked_at hne
        generalize List.zipWith (· + ·) a b = ws at ec hck ⊢
        unfold chkI at hck ⊢
        split
        · rename_i hb
          rw [if_pos hb] at hck
          refine runs_err (fuel := 0) (env := [some (.val (tupI a)), some (.val (tupI b)), none, none]) ?_
          simp [b_plus, exs_cons, env0, ev_var, ev_call, owned, h1, h2, F_need_measure, hx, hy, giveBack, len_tup, hl, ec, hck, List.replicate]
        · rename_i hb
          rw [if_neg hb] at hck
          refine runs_ret (fuel := 0) (env := [some (.val (tupI a)), some (.val (tupI b)), none, none]) ?_
          simp [b_plus, exs_cons, env0, ev_var, ev_call, owned, h1, h2, F_need_measure, hx, hy, giveBack, len_tup, hl, ec, hck, List.replicate]
      · rw [if_neg hl] at h
        cases h
        refine runs_err (fuel := 0) (env := [some (.val (tupI a)), some (.val (tupI b)), none, none]) ?_
        have hl' : ¬ ((a.length : Int) = (b.length : Int)) := by omega
        simp [b_plus, exs_cons, env0, ev_var, ev_call, owned, h1, F_need_measure, hx, hy, giveBack, len_tup, hl', List.replicate]
    · rename_i hy
      cases h
      refine runs_err (fuel := 0) (env := [some (.val x), some (.val y), none, none]) ?_
      simp [b_plus, exs_cons, env0, ev_var, ev_call, owned, h1, F_need_measure, hx, hy, giveBack, List.replicate]
  · rename_i hx
    cases h
    refine runs_err (fuel := 0) (env := [some (.val x), some (.val y), none, none]) ?_
    simp [b_plus, exs_cons, env0, ev_var, ev_call, owned, h1, F_need_measure, hx, List.replicate]
def F_times (x y : D) : Ans := if isMeas x then (if isWhole y 0 1000 then (match tint? x, y with
  | some a, .int f => some (chkI (a.map (f * ·)))
  | _, _ => none) else some (.error .factor)) else some (.error .measure)
theorem isWhole_int {d : D} {lo hi : Int} (h : isWhole d lo hi = true) : ∃ i, d = .int i ∧ lo ≤ i ∧ i ≤ hi := by
  unfold isWhole at h
  split at h
  · rename_i i
    rw [Bool.and_eq_true, decide_eq_true_eq, decide_eq_true_eq] at h
    exact ⟨i, rfl, h⟩
  · cases h
theorem mir_times {G : Gam} (h1 : G .need_measure = sem1 F_need_measure) (h2 : G .is_whole = sem3 F_is_whole) (h3 : G .checked = sem1 F_checked) : Mir0 G 3 2 b_times (sem2 F_times) := mir_sem2 fun x y r h => by
  unfold F_times at h
  split at h
  · rename_i hx
    split at h
    · rename_i hy
      obtain ⟨a, rfl, a1, a2, a3⟩ := isMeas_row hx
      obtain ⟨f, rfl, f1, f2⟩ := isWhole_int hy
      simp only [tint?_tupI] at h
      cases h
      have ec := ev_comp1n (G := G) (e := .bin .mul (.var 1) (.var 2)) (i := 2) (it := .of (.var 0)) (env := [some (.val (tupI a)), some (.val (.int f)), none]) (items := a.map .int) (f := fun d => match d with | .int v => .int (f * v) | _ => .none) (by simp [ev_var, tupI]) (noOwn_none rfl) (fun d hd => by
        obtain ⟨v, hv, rfl⟩ := List.mem_map.mp hd
        simp [ev_var, bin_mul, mul_small' (i := f) (j := v) (by omega)])
      rw [List.map_map] at ec
      have e2 : (a.map ((fun d : D => match d with | .int v => (.int (f * v) : D) | _ => .none) ∘ PySem.PyData.int)) = (a.map (f * ·)).map .int := by rw [List.map_map]; rfl
      rw [e2] at ec
      have hne : a.map (f * ·) ≠ [] := fun z => by
        have p1 := congrArg List.length z
        rw [List.length_map, List.length_nil] at p1
        have p2 := rowLen_pos a1
        omega
      have hck := checked_at hne
      generalize a.map (f * ·) = ws at ec hck ⊢
      unfold chkI at hck ⊢
      split
      · rename_i hb
        rw [if_pos hb] at hck
        refine runs_err (fuel := 0) (env := [some (.val (tupI a)), some (.val (.int f)), none]) ?_
        simp [b_times, exs_cons, env0, ev_var, ev_call, owned, h1, h2, h3, F_need_measure, F_is_whole, hx, hy, giveBack, ec, hck]
      · rename_i hb
        rw [if_neg hb] at hck
        refine runs_ret (fuel := 0) (env := [some (.val (tupI a)), some (.val (.int f)), none]) ?_
        simp [b_times, exs_cons, env0, ev_var, ev_call, owned, h1, h2, h3, F_need_measure, F_is_whole, hx, hy, giveBack, ec, hck]
    · rename_i hy
      cases h
      refine runs_err (fuel := 0) (env := [some (.val x), some (.val y), none]) ?_
      simp [b_times, exs_cons, env0, ev_var, ev_call, owned, h1, h2, F_need_measure, F_is_whole, hx, hy, giveBack]
  · rename_i hx
    cases h
    refine runs_err (fuel := 0) (env := [some (.val x), some (.val y), none]) ?_
    simp [b_times, exs_cons, env0, ev_var, ev_call, owned, h1, F_need_measure, hx]
/-! ### the law's own value -/
def F_l_value (x y : D) : Ans := match tint? x, tint? y with
  | some fm, some vs => if fm.all small = true then some (.ok (.int (dot fm vs))) else none
  | _, _ => none
theorem l_value_at {fm vs : List Int} (h2 : fm.all small = true) : F_l_value (tupI fm) (tupI vs) = some (.ok (.int (dot fm vs))) := by
  unfold F_l_value
  simp only [tint?_tupI]
  rw [if_pos h2]
theorem mir_l_value {G : Gam} : Mir0 G 4 2 b_l_value (sem2 F_l_value) := mir_sem2 fun x y r h => by
  unfold F_l_value at h
  split at h
  · rename_i fm vs hx hy
    have hx := tint?_eq hx
    have hy := tint?_eq hy
    subst hx hy
    split at h
    · rename_i hs
      cases h
      refine runs_ret (fuel := 0) (env := [some (.val (tupI fm)), some (.val (tupI vs)), none, none]) ?_
      have ec := ev_comp2n (G := G) (e := .bin .mul (.var 2) (.var 3)) (i := 2) (j := 3) (it := .zip (.var 0) (.var 1)) (env := [some (.val (tupI fm)), some (.val (tupI vs)), none, none]) (items := (fm.zip vs).map fun p => ((.int p.1 : D), (.int p.2 : D))) (f := fun q => match q with | (.int a, .int b) => .int (a * b) | _ => .none) (by decide) (by
          rw [← zip_pairs]
          simp [ev_var, tupI]) (noOwn_none rfl) (noOwn_none rfl) (fun d hd => by
          obtain ⟨p, hp, rfl⟩ := List.mem_map.mp hd
          have h3 : p.1.natAbs < 18446744073709551616 := of_decide_eq_true (List.all_eq_true.mp hs p.1 (List.of_mem_zip hp).1)
          simp [ev_var, bin_mul, mul_small' (i := p.1) (j := p.2) h3])
      rw [List.map_map] at ec
      have e2 : ((fm.zip vs).map ((fun q : D × D => match q with | (.int a, .int b) => (.int (a * b) : D) | _ => .none) ∘ fun p : Int × Int => ((.int p.1 : D), (.int p.2 : D)))) = (List.zipWith (· * ·) fm vs).map .int := by
        rw [zw, List.map_map]
        rfl
      rw [e2] at ec
      simp [b_l_value, exs_cons, env0, ec, dot, List.replicate, -List.map_zipWith]
    · cases h
  · cases h
end M
/-! Ranks of rows of bits: plain mathematics. -/
namespace M.Rk
def rkStep (s : List Nat × Nat) (x : Nat) : List Nat × Nat := if x ∈ s.1 then s else (s.1 ++ s.1.map (· ^^^ x), s.2 + 1)
def rkS (xs : List Nat) : List Nat × Nat := xs.foldl rkStep ([0], 0)
def sp (xs : List Nat) : List Nat := (rkS xs).1
def rk (xs : List Nat) : Nat := (rkS xs).2
theorem rkS_snoc (xs : List Nat) (x : Nat) : rkS (xs ++ [x]) = rkStep (rkS xs) x := by unfold rkS; rw [List.foldl_append]; rfl
theorem sp_snoc (xs : List Nat) (x : Nat) : sp (xs ++ [x]) = if x ∈ sp xs then sp xs else sp xs ++ (sp xs).map (· ^^^ x) := by
  unfold sp; rw [rkS_snoc]; unfold rkStep; split <;> rfl
theorem rk_snoc (xs : List Nat) (x : Nat) : rk (xs ++ [x]) = rk xs + if x ∈ sp xs then 0 else 1 := by
  unfold rk sp; rw [rkS_snoc]; unfold rkStep; split <;> rfl
/-- induction from the end -/
theorem snoc_ind {P : List Nat → Prop} (h0 : P []) (h1 : ∀ xs x, P xs → P (xs ++ [x])) (xs : List Nat) : P xs := by
  have : ∀ ys : List Nat, P ys.reverse := fun ys => by
    induction ys with
    | nil => exact h0
    | cons y ys ih => rw [List.reverse_cons]; exact h1 _ _ ih
  have h := this xs.reverse
  rwa [List.reverse_reverse] at h
theorem zero_mem (xs : List Nat) : 0 ∈ sp xs := by
  induction xs using snoc_ind with
  | h0 => exact List.mem_singleton.mpr rfl
  | h1 xs x ih =>
    rw [sp_snoc]
    split
    · exact ih
    · exact List.mem_append_left _ ih
theorem mem_snoc {xs : List Nat} {x a : Nat} : a ∈ sp (xs ++ [x]) ↔ a ∈ sp xs ∨ (x ∉ sp xs ∧ ∃ b ∈ sp xs, a = b ^^^ x) := by
  rw [sp_snoc]
  split
  · rename_i h
    exact ⟨.inl, fun z => z.elim id fun z => absurd h z.1⟩
  · rename_i h
    rw [List.mem_append, List.mem_map]
    constructor
    · rintro (z | ⟨b, hb, rfl⟩)
      · exact .inl z
      · exact .inr ⟨h, b, hb, rfl⟩
    · rintro (z | ⟨_, b, hb, rfl⟩)
      · exact .inl z
      · exact .inr ⟨b, hb, rfl⟩
theorem closed (xs : List Nat) : ∀ a b, a ∈ sp xs → b ∈ sp xs → a ^^^ b ∈ sp xs := by
  induction xs using snoc_ind with
  | h0 =>
    intro a b ha hb
    have ha : a = 0 := List.mem_singleton.mp ha
    have hb : b = 0 := List.mem_singleton.mp hb
    subst ha hb
    exact List.mem_singleton.mpr rfl
  | h1 xs x ih =>
    intro a b ha hb
    rw [mem_snoc] at ha hb ⊢
    rcases ha with ha | ⟨hx, c, hc, rfl⟩
    · rcases hb with hb | ⟨hx, d, hd, rfl⟩
      · exact .inl (ih a b ha hb)
      · exact .inr ⟨hx, a ^^^ d, ih a d ha hd, by rw [Nat.xor_assoc]⟩
    · rcases hb with hb | ⟨hx, d, hd, rfl⟩
      · refine .inr ⟨hx, c ^^^ b, ih c b hc hb, ?_⟩
        rw [Nat.xor_assoc, Nat.xor_comm x b, ← Nat.xor_assoc]
      · refine .inl ?_
        have : c ^^^ x ^^^ (d ^^^ x) = c ^^^ d := by
          rw [Nat.xor_assoc, Nat.xor_comm d x, ← Nat.xor_assoc x x d, Nat.xor_self, Nat.zero_xor]
        rw [this]
        exact ih c d hc hd
theorem mem_rows {xs : List Nat} : ∀ x ∈ xs, x ∈ sp xs := by
  induction xs using snoc_ind with
  | h0 => intro x h; cases h
  | h1 xs y ih =>
    intro x h
    rw [mem_snoc]
    rcases List.mem_append.mp h with h | h
    · exact .inl (ih x h)
    · rw [List.mem_singleton] at h
      subst h
      by_cases hx : x ∈ sp xs
      · exact .inl hx
      · exact .inr ⟨hx, 0, zero_mem xs, by rw [Nat.zero_xor]⟩
theorem minimal {P : Nat → Prop} (p0 : P 0) (px : ∀ a b, P a → P b → P (a ^^^ b)) {xs : List Nat} : (∀ x ∈ xs, P x) → ∀ a ∈ sp xs, P a := by
  induction xs using snoc_ind with
  | h0 => intro _ a h; rw [List.mem_singleton.mp h]; exact p0
  | h1 xs x ih =>
    intro hx a ha
    have ih := ih fun y hy => hx y (List.mem_append_left _ hy)
    rw [mem_snoc] at ha
    rcases ha with ha | ⟨_, b, hb, rfl⟩
    · exact ih a ha
    · exact px b x (ih b hb) (hx x (List.mem_append_right _ (List.mem_singleton.mpr rfl)))
theorem mono {xs ys : List Nat} (h : ∀ x ∈ xs, x ∈ ys) : ∀ a ∈ sp xs, a ∈ sp ys :=
  minimal (P := fun a => a ∈ sp ys) (zero_mem ys) (closed ys) fun x hx => mem_rows x (h x hx)
theorem rk_append_le (xs ys : List Nat) : rk xs ≤ rk (xs ++ ys) := by
  induction ys using snoc_ind with
  | h0 => rw [List.append_nil]; exact Nat.le_refl _
  | h1 ys y ih => rw [← List.append_assoc, rk_snoc]; omega
theorem submod (k a b : List Nat) : rk (k ++ a ++ b) + rk k ≤ rk (k ++ a) + rk (k ++ b) := by
  induction b using snoc_ind with
  | h0 => rw [List.append_nil, List.append_nil]; exact Nat.le_refl _
  | h1 b y ih =>
    rw [← List.append_assoc, rk_snoc, ← List.append_assoc, rk_snoc]
    by_cases h : y ∈ sp (k ++ b)
    · have h2 : y ∈ sp (k ++ a ++ b) := mono (fun x hx => by
        rcases List.mem_append.mp hx with hx | hx
        · exact List.mem_append_left _ (List.mem_append_left _ hx)
        · exact List.mem_append_right _ hx) y h
      rw [if_pos h, if_pos h2]
      exact ih
    · rw [if_neg h]
      split <;> omega
theorem sp_len (xs : List Nat) : (sp xs).length = 2 ^ rk xs := by
  induction xs using snoc_ind with
  | h0 => rfl
  | h1 xs x ih =>
    rw [sp_snoc, rk_snoc]
    split
    · exact ih
    · rw [List.length_append, List.length_map, ih, Nat.pow_succ]; omega
theorem xor_right_inj {a b x : Nat} (h : a ^^^ x = b ^^^ x) : a = b := by
  have := congrArg (· ^^^ x) h
  simpa [Nat.xor_assoc] using this
theorem sp_nodup (xs : List Nat) : (sp xs).Nodup := by
  induction xs using snoc_ind with
  | h0 => show [0].Nodup; decide
  | h1 xs x ih =>
    rw [sp_snoc]
    split
    · exact ih
    · rename_i hx
      rw [List.nodup_append]
      refine ⟨ih, ?_, ?_⟩
      · rw [List.nodup_iff_pairwise_ne, List.pairwise_map]
        rw [List.nodup_iff_pairwise_ne] at ih
        exact ih.imp fun hab z => hab (xor_right_inj z)
      · intro a ha b hb z
        obtain ⟨c, hc, rfl⟩ := List.mem_map.mp hb
        subst z
        have := closed xs c (c ^^^ x) hc ha
        rw [← Nat.xor_assoc, Nat.xor_self, Nat.zero_xor] at this
        exact hx this
theorem len_le {xs ys : List Nat} (nd : xs.Nodup) (h : ∀ x ∈ xs, x ∈ ys) : xs.length ≤ ys.length := by
  induction xs generalizing ys with
  | nil => exact Nat.zero_le _
  | cons x xs ih =>
    rw [List.nodup_cons] at nd
    have hx := h x List.mem_cons_self
    have := ih (ys := ys.erase x) nd.2 fun y hy => by
      have hne : y ≠ x := fun z => nd.1 (z ▸ hy)
      exact (List.mem_erase_of_ne hne).mpr (h y (List.mem_cons_of_mem _ hy))
    rw [List.length_erase_of_mem hx] at this
    have : 0 < ys.length := List.length_pos_of_mem hx
    rw [List.length_cons]
    omega
theorem rk_le_of {xs ys : List Nat} (h : ∀ x ∈ xs, x ∈ sp ys) : rk xs ≤ rk ys := by
  have h1 : (sp xs).length ≤ (sp ys).length := len_le (sp_nodup xs) (minimal (P := fun a => a ∈ sp ys) (zero_mem ys) (closed ys) h)
  rw [sp_len, sp_len] at h1
  exact (Nat.pow_le_pow_iff_right (by decide)).mp h1
theorem rk_le {xs ys : List Nat} (h : ∀ x ∈ xs, x ∈ ys) : rk xs ≤ rk ys := rk_le_of fun x hx => mem_rows x (h x hx)
theorem rk_ext {xs ys : List Nat} (h : ∀ x, x ∈ xs ↔ x ∈ ys) : rk xs = rk ys := Nat.le_antisymm (rk_le fun x hx => (h x).mp hx) (rk_le fun x hx => (h x).mpr hx)
theorem sp_lt {xs : List Nat} (h : ∀ x ∈ xs, x < 64) : ∀ a ∈ sp xs, a < 64 :=
  minimal (P := fun a => a < 64) (by decide) (fun a b ha hb => Nat.xor_lt_two_pow (n := 6) ha hb) h
theorem rk_le_6 {xs : List Nat} (h : ∀ x ∈ xs, x < 64) : rk xs ≤ 6 := by
  have h1 : (sp xs).length ≤ (List.range 64).length := len_le (sp_nodup xs) fun a ha => List.mem_range.mpr (sp_lt h a ha)
  rw [sp_len, List.length_range] at h1
  exact (Nat.pow_le_pow_iff_right (a := 2) (by decide) (m := 6)).mp h1
end M.Rk
/-! Mirrors: the law's ranks. -/
namespace M
open Z Rk
def nlist (xs : List Nat) : List D := xs.map fun n => .int (n : Nat)
def nats? (ds : List D) : Option (List Nat) := (ints? ds).bind fun ns => if ns.all (fun n => decide (0 ≤ n ∧ n < 64)) = true then some (ns.map Int.toNat) else none
theorem nlist_ints (xs : List Nat) : nlist xs = (xs.map fun (n : Nat) => ((n : Nat) : Int)).map .int := by unfold nlist; rw [List.map_map]; rfl
theorem nats?_nlist {xs : List Nat} (h : ∀ x ∈ xs, x < 64) : nats? (nlist xs) = some xs := by
  unfold nats?
  rw [nlist_ints, ints?_ints]
  show (if _ then _ else _) = _
  rw [if_pos (by rw [List.all_map, List.all_eq_true]; intro x hx; exact decide_eq_true (by have := h x hx; show 0 ≤ (x : Int) ∧ (x : Int) < 64; omega)), List.map_map]
  congr 1
  exact List.map_id'' (fun x => by simp) xs
theorem nats?_eq {ds : List D} {xs : List Nat} (h : nats? ds = some xs) : ds = nlist xs ∧ ∀ x ∈ xs, x < 64 := by
  unfold nats? at h
  obtain ⟨ns, h1, h2⟩ := Option.bind_eq_some_iff.mp h
  split at h2
  · rename_i ha
    cases h2
    rw [List.all_eq_true] at ha
    have ha : ∀ n ∈ ns, 0 ≤ n ∧ n < 64 := fun n hn => of_decide_eq_true (ha n hn)
    refine ⟨?_, fun x hx => ?_⟩
    · rw [ints?_eq h1]
      unfold nlist
      rw [List.map_map]
      exact List.map_congr_left fun n hn => by
        have := ha n hn
        show PySem.PyData.int n = .int ((n.toNat : Nat) : Int)
        rw [Int.toNat_of_nonneg this.1]
    · obtain ⟨n, hn, rfl⟩ := List.mem_map.mp hx
      have := ha n hn
      omega
  · cases h2
def bitv (a b bit : Int) : Int := if a / bit % 2 + b / bit % 2 = 1 then bit else 0
theorem xor6 : ∀ a : Fin 64, ∀ b : Fin 64, [bitv (a.1 : Nat) (b.1 : Nat) 1, bitv (a.1 : Nat) (b.1 : Nat) 2, bitv (a.1 : Nat) (b.1 : Nat) 4, bitv (a.1 : Nat) (b.1 : Nat) 8, bitv (a.1 : Nat) (b.1 : Nat) 16, bitv (a.1 : Nat) (b.1 : Nat) 32].sum = ((a.1 ^^^ b.1 : Nat) : Int) := by decide +kernel
theorem mem_nlist {xs : List Nat} {r : Nat} : ((nlist xs).any fun y => PySem.PyData.eqv y (.int (r : Nat))) = decide (r ∈ xs) := by
  unfold nlist
  rw [List.any_map]
  by_cases h : r ∈ xs
  · rw [decide_eq_true h, List.any_eq_true]
    exact ⟨r, h, by simp [PySem.PyData.eqv]⟩
  · rw [decide_eq_false h, List.any_eq_false]
    intro x hx
    have : x ≠ r := fun z => h (z ▸ hx)
    simp [PySem.PyData.eqv]
    omega
theorem nlist_flat (xs : List Nat) : (nlist xs).all flat = true := by
  unfold nlist
  rw [List.all_map, List.all_eq_true]
  intro x _
  rfl
theorem nlist_len (xs : List Nat) : (nlist xs).length = xs.length := by unfold nlist; rw [List.length_map]
theorem nlist_append (xs ys : List Nat) : nlist (xs ++ ys) = nlist xs ++ nlist ys := by unfold nlist; rw [List.map_append]
/-- a row added to all that is found -/
theorem xor_sum {G : Gam} {v : D} {rank : D} {oF : Option Slot} {acc : List Nat} {a r : Nat} (ha : a < 64) (hr : r < 64) :
    ev G (.bi .sum (.cons (.comp (.bin .mul (.var 6) (.cmp .eq (.bin .add (.bin .mod (.bin .fdiv (.var 5) (.var 6)) (.int 2)) (.bin .mod (.bin .fdiv (.var 3) (.var 6)) (.int 2))) (.int 1))) (.name 6) (.of (.lst (.cons (.int 1) (.cons (.int 2) (.cons (.int 4) (.cons (.int 8) (.cons (.int 16) (.cons (.int 32) .nil)))))))) .non) .nil)) [some (.val v), oF, some (.val rank), some (.val (.int (r : Nat))), some (.own false (nlist acc)), some (.val (.int (a : Nat))), none] =
      some (.ok (.imm (.int ((a ^^^ r : Nat) : Int))) [some (.val v), oF, some (.val rank), some (.val (.int (r : Nat))), some (.own false (nlist acc)), some (.val (.int (a : Nat))), none]) := by
  have ec := ev_comp1n (G := G) (e := .bin .mul (.var 6) (.cmp .eq (.bin .add (.bin .mod (.bin .fdiv (.var 5) (.var 6)) (.int 2)) (.bin .mod (.bin .fdiv (.var 3) (.var 6)) (.int 2))) (.int 1))) (i := 6) (it := .of (.lst (.cons (.int 1) (.cons (.int 2) (.cons (.int 4) (.cons (.int 8) (.cons (.int 16) (.cons (.int 32) .nil)))))))) (env := [some (.val v), oF, some (.val rank), some (.val (.int (r : Nat))), some (.own false (nlist acc)), some (.val (.int (a : Nat))), none]) (items := [.int 1, .int 2, .int 4, .int 8, .int 16, .int 32]) (f := fun d => match d with | .int bit => .int (bitv a r bit) | _ => .none) (by simp) (noOwn_none rfl) (fun d hd => by
    simp only [List.mem_cons, List.not_mem_nil, or_false] at hd
    rcases hd with rfl | rfl | rfl | rfl | rfl | rfl <;> simp [ev_var, bin_fdivS, bin_mod, bitv])
  have hx := xor6 ⟨a, ha⟩ ⟨r, hr⟩
  simp only [ev_bi, evts_cons, ec, bnd_ok, evts_nil]
  simp [List.mapM_cons, ints?]
  simpa using hx
def rankBody : List S := [.if_ (.cmp .nmem (.var 3) (.var 1)) [.set 4 (.lst .nil), .for_ (.name 5) (.of (.var 1)) [.app 4 (.bi .sum (.cons (.comp (.bin .mul (.var 6) (.cmp .eq (.bin .add (.bin .mod (.bin .fdiv (.var 5) (.var 6)) (.int 2)) (.bin .mod (.bin .fdiv (.var 3) (.var 6)) (.int 2))) (.int 1))) (.name 6) (.of (.lst (.cons (.int 1) (.cons (.int 2) (.cons (.int 4) (.cons (.int 8) (.cons (.int 16) (.cons (.int 32) .nil)))))))) .non) .nil))], .par [1, 2] (.cons (.bin .add (.var 1) (.var 4)) (.cons (.bin .add (.var 2) (.int 1)) .nil))] []]
theorem more_loop {G : Gam} {v rank : D} {oF : Option Slot} {r : Nat} (hr : r < 64) : ∀ (l acc : List Nat) (o5 : Option Slot), (∀ x ∈ l, x < 64) → acc.length + l.length ≤ 1000 → ∃ o5', forL (stepF G 0 (.name 5) [.app 4 (.bi .sum (.cons (.comp (.bin .mul (.var 6) (.cmp .eq (.bin .add (.bin .mod (.bin .fdiv (.var 5) (.var 6)) (.int 2)) (.bin .mod (.bin .fdiv (.var 3) (.var 6)) (.int 2))) (.int 1))) (.name 6) (.of (.lst (.cons (.int 1) (.cons (.int 2) (.cons (.int 4) (.cons (.int 8) (.cons (.int 16) (.cons (.int 32) .nil)))))))) .non) .nil))]) (nlist l) [some (.val v), oF, some (.val rank), some (.val (.int (r : Nat))), some (.own false (nlist acc)), o5, none] =
    some (.next [some (.val v), oF, some (.val rank), some (.val (.int (r : Nat))), some (.own false (nlist (acc ++ l.map (· ^^^ r)))), o5', none]) := by
  intro l
  induction l with
  | nil => intro acc o5 _ _; exact ⟨o5, by simp [nlist, forL]⟩
  | cons a l ih =>
    intro acc o5 hl hlen
    rw [List.length_cons] at hlen
    obtain ⟨o5', h⟩ := ih (acc ++ [a ^^^ r]) (some (.val (.int (a : Nat)))) (fun x hx => hl x (List.mem_cons_of_mem _ hx)) (by rw [List.length_append, List.length_singleton]; omega)
    refine ⟨o5', ?_⟩
    have hx := xor_sum (G := G) (v := v) (rank := rank) (oF := oF) (acc := acc) (hl a List.mem_cons_self) hr
    have hs : stepF G 0 (.name 5) [.app 4 (.bi .sum (.cons (.comp (.bin .mul (.var 6) (.cmp .eq (.bin .add (.bin .mod (.bin .fdiv (.var 5) (.var 6)) (.int 2)) (.bin .mod (.bin .fdiv (.var 3) (.var 6)) (.int 2))) (.int 1))) (.name 6) (.of (.lst (.cons (.int 1) (.cons (.int 2) (.cons (.int 4) (.cons (.int 8) (.cons (.int 16) (.cons (.int 32) .nil)))))))) .non) .nil))] (.int (a : Nat)) [some (.val v), oF, some (.val rank), some (.val (.int (r : Nat))), some (.own false (nlist acc)), o5, none] = some (.next [some (.val v), oF, some (.val rank), some (.val (.int (r : Nat))), some (.own false (nlist (acc ++ [a ^^^ r]))), some (.val (.int (a : Nat))), none]) := by
      unfold stepF
      simp only [Z.asg_name]
      rw [if_pos (by simp)]
      simp only [List.set_cons_succ, List.set_cons_zero]
      rw [exs_cons, ex_app, if_pos (by rfl), hx]
      simp only [frz_imm, bndS_ok]
      have : (nlist acc).length < lim := by rw [nlist_len]; show acc.length < 16777216; omega
      simp [appD, this, nlist_append]
      rfl
    show forL _ (.int (a : Nat) :: nlist l) _ = _
    unfold forL
    rw [hs]
    simp only
    rw [h, List.append_assoc]
    rfl
theorem rank_turn {G : Gam} {v : D} {pre : List Nat} {r : Nat} {o3 o4 o5 : Option Slot} (hp : ∀ x ∈ pre, x < 64) (hr : r < 64) : ∃ o3' o4' o5', stepF G 0 (.name 3) rankBody (.int (r : Nat)) [some (.val v), some (.own false (nlist (sp pre))), some (.val (.int ((rk pre : Nat) : Int))), o3, o4, o5, none] =
    some (.next [some (.val v), some (.own false (nlist (sp (pre ++ [r])))), some (.val (.int ((rk (pre ++ [r]) : Nat) : Int))), o3', o4', o5', none]) := by
  have hl : (sp pre).length ≤ 64 := by
    rw [sp_len]
    have := rk_le_6 hp
    exact Nat.le_trans (Nat.pow_le_pow_right (by decide) this) (by decide)
  have hmem : cmpD .nmem (.int (r : Nat)) (.list (nlist (sp pre))) = some (!decide (r ∈ sp pre)) := by
    rw [cmp_nmem (by rw [nlist_flat]; rfl), mem_nlist]
  by_cases h : r ∈ sp pre
  · refine ⟨some (.val (.int (r : Nat))), o4, o5, ?_⟩
    rw [sp_snoc, rk_snoc, if_pos h, if_pos h]
    simp [stepF, Z.asg_name, rankBody, exs_cons, ev_var, rd_slot, hmem, h]
  · obtain ⟨o5', hloop⟩ := more_loop (G := G) (v := v) (rank := .int ((rk pre : Nat) : Int)) (oF := some (.val (.list (nlist (sp pre))))) hr (sp pre) [] o5 (sp_lt hp) (by simp; omega)
    rw [List.nil_append] at hloop
    refine ⟨some (.val (.int (r : Nat))), some (.own false (nlist ((sp pre).map (· ^^^ r)))), o5', ?_⟩
    rw [sp_snoc, rk_snoc, if_neg h, if_neg h]
    have hfor := ex_for_of (G := G) (it := .of (.var 1)) (env := [some (.val v), some (.own false (nlist (sp pre))), some (.val (.int ((rk pre : Nat) : Int))), some (.val (.int (r : Nat))), some (.own false []), o5, none]) (by simp [ev_var, frz_slot]; rfl) hloop
    have hadd : binD .add (.list (nlist (sp pre))) (.list (nlist ((sp pre).map (· ^^^ r)))) = some (.list (nlist (sp pre ++ (sp pre).map (· ^^^ r)))) := by
      rw [bin_addL (by rw [nlist_len, nlist_len, List.length_map]; omega), nlist_append]
    simp [stepF, Z.asg_name, rankBody, exs_cons, ev_var, rd_slot, hmem, h, fresh, slotOf, setAt, hfor, hadd, sets]
theorem rank_loop {G : Gam} {v : D} : ∀ (xs pre : List Nat) (o3 o4 o5 : Option Slot), (∀ x ∈ pre, x < 64) → (∀ x ∈ xs, x < 64) → ∃ o3' o4' o5', forL (stepF G 0 (.name 3) rankBody) (nlist xs) [some (.val v), some (.own false (nlist (sp pre))), some (.val (.int ((rk pre : Nat) : Int))), o3, o4, o5, none] =
    some (.next [some (.val v), some (.own false (nlist (sp (pre ++ xs)))), some (.val (.int ((rk (pre ++ xs) : Nat) : Int))), o3', o4', o5', none]) := by
  intro xs
  induction xs with
  | nil => intro pre o3 o4 o5 _ _; exact ⟨o3, o4, o5, by rw [List.append_nil]; rfl⟩
  | cons r xs ih =>
    intro pre o3 o4 o5 hp hx
    obtain ⟨p3, p4, p5, h1⟩ := rank_turn (G := G) (v := v) (o3 := o3) (o4 := o4) (o5 := o5) hp (hx r List.mem_cons_self)
    obtain ⟨q3, q4, q5, h2⟩ := ih (pre ++ [r]) p3 p4 p5 (fun x h => by
      rcases List.mem_append.mp h with h | h
      · exact hp x h
      · rw [List.mem_singleton.mp h]; exact hx r List.mem_cons_self) (fun x h => hx x (List.mem_cons_of_mem _ h))
    refine ⟨q3, q4, q5, ?_⟩
    show forL _ (.int (r : Nat) :: nlist xs) _ = _
    unfold forL
    rw [h1]
    simp only
    rw [h2, List.append_assoc]
    rfl
def F_l_rank (x : D) : Ans := match x with
  | .list ds => (nats? ds).map fun xs => .ok (.int ((rk xs : Nat) : Int))
  | _ => none
theorem l_rank_at {xs : List Nat} (h : ∀ x ∈ xs, x < 64) : F_l_rank (.list (nlist xs)) = some (.ok (.int ((rk xs : Nat) : Int))) := by
  show (nats? (nlist xs)).map _ = _
  rw [nats?_nlist h]
  rfl
theorem mir_l_rank {G : Gam} : Mir0 G 7 1 b_l_rank (sem1 F_l_rank) := mir_sem1 fun x r h => by
  unfold F_l_rank at h
  split at h
  · rename_i ds
    obtain ⟨xs, h1, rfl⟩ := Option.map_eq_some_iff.mp h
    obtain ⟨rfl, hx⟩ := nats?_eq h1
    obtain ⟨o3, o4, o5, hl⟩ := rank_loop (G := G) (v := .list (nlist xs)) xs [] none none none (fun x h => by cases h) hx
    rw [List.nil_append] at hl
    refine runs_ret (fuel := 0) (env := [some (.val (.list (nlist xs))), some (.own false (nlist (sp xs))), some (.val (.int ((rk xs : Nat) : Int))), o3, o4, o5, none]) ?_
    have e1 : ex G 0 (.par [1, 2] (.cons (.lst (.cons (.int 0) .nil)) (.cons (.int 0) .nil))) (env0 7 ([PySem.PyData.list (nlist xs)].map .val)) = some (.next [some (.val (.list (nlist xs))), some (.own false (nlist (sp []))), some (.val (.int ((rk [] : Nat) : Int))), none, none, none, none]) := by
      simp [env0, List.replicate, fresh, slotOf, sets]
      exact ⟨rfl, rfl⟩
    have e2 := ex_for_same (it := .of (.var 0)) hl (by simp [ev_var])
    unfold b_l_rank
    rw [exs_next e1]
    refine (exs_next e2).trans ?_
    simp [exs_cons, ev_var]
  · cases h
end M
/-! Mirrors: the law's rows and their ranks. -/
namespace M
open Z Rk
def rowD (r : List Nat) : D := .tuple (nlist r)
def rowsD (R : List (List Nat)) : D := .tuple (R.map rowD)
def rowN? : D → Option (List Nat)
  | .tuple ds => nats? ds
  | _ => none
def rowsL? : List D → Option (List (List Nat))
  | [] => some []
  | d :: ds => (rowN? d).bind fun r => (rowsL? ds).map (r :: ·)
def rowsN? : D → Option (List (List Nat))
  | .tuple ds => rowsL? ds
  | _ => none
theorem rowsL?_eq : ∀ {ds : List D} {R : List (List Nat)}, rowsL? ds = some R → ds = R.map rowD ∧ ∀ r ∈ R, ∀ x ∈ r, x < 64
  | [], R, h => by cases h; exact ⟨rfl, fun r hr => by cases hr⟩
  | d :: ds, R, h => by
    unfold rowsL? at h
    obtain ⟨r, h1, h2⟩ := Option.bind_eq_some_iff.mp h
    obtain ⟨R', h3, rfl⟩ := Option.map_eq_some_iff.mp h2
    obtain ⟨e1, e2⟩ := rowsL?_eq h3
    unfold rowN? at h1
    split at h1
    · rename_i xs
      obtain ⟨e3, e4⟩ := nats?_eq h1
      refine ⟨by rw [e1, e3]; rfl, fun r' hr => ?_⟩
      rcases List.mem_cons.mp hr with rfl | hr
      · exact e4
      · exact e2 r' hr
    · cases h1
theorem rowsL?_of : ∀ {R : List (List Nat)}, (∀ r ∈ R, ∀ x ∈ r, x < 64) → rowsL? (R.map rowD) = some R
  | [], _ => rfl
  | r :: R, h => by
    rw [List.map_cons]
    unfold rowsL?
    have h1 : rowN? (rowD r) = some r := nats?_nlist (h r List.mem_cons_self)
    rw [h1, rowsL?_of fun r' hr => h r' (List.mem_cons_of_mem _ hr)]
    rfl
/-- the rows of a set -/
def rowsOf (R : List (List Nat)) (n : Int) : List Nat := (bitsF n).flatMap fun i => R.getD i.toNat []
def ofRows (R : List (List Nat)) : List Int := (List.range (2 ^ R.length - 1)).map fun (k : Nat) => ((rk (rowsOf R (1 + (k : Int))) : Nat) : Int)
def F_l_of_rows (x : D) : Ans := match rowsN? x with
  | some R => if 1 ≤ R.length ∧ R.length ≤ 4 ∧ (R.all fun r => decide (r.length ≤ 1000)) = true then some (.ok (tupI (ofRows R))) else none
  | none => none
theorem rows_lt {R : List (List Nat)} (h : ∀ r ∈ R, ∀ x ∈ r, x < 64) (n : Int) : ∀ x ∈ rowsOf R n, x < 64 := fun x hx => by
  unfold rowsOf at hx
  obtain ⟨i, _, h2⟩ := List.mem_flatMap.mp hx
  rw [List.getD_eq_getElem?_getD] at h2
  cases e : R[i.toNat]? with
  | none => rw [e] at h2; cases h2
  | some r => rw [e] at h2; exact h r (List.mem_of_getElem? e) x h2
theorem some_loop {G : Gam} {R : List (List Nat)} {found : List D} {o2 : Option Slot} (hl : ∀ r ∈ R, r.length ≤ 1000) : ∀ (is : List Int) (acc : List Nat) (o4 : Option Slot), (∀ i ∈ is, 0 ≤ i ∧ i < R.length) → acc.length + is.length * 1000 ≤ 10000 → ∃ o4', forL (stepF G 0 (.name 4) [.set 3 (.bin .add (.var 3) (.bi .list (.cons (.idx (.var 0) (.var 4)) .nil)))]) (is.map .int) [some (.val (rowsD R)), some (.own false found), o2, some (.own false (nlist acc)), o4] =
    some (.next [some (.val (rowsD R)), some (.own false found), o2, some (.own false (nlist (acc ++ is.flatMap fun i => R.getD i.toNat []))), o4']) := by
  intro is
  induction is with
  | nil => intro acc o4 _ _; exact ⟨o4, by simp [forL]⟩
  | cons i is ih =>
    intro acc o4 hi hlen
    rw [List.length_cons, Nat.add_mul] at hlen
    obtain ⟨h0, h1⟩ := hi i List.mem_cons_self
    have hk : i.toNat < R.length := by omega
    have hg : R.getD i.toNat [] = R[i.toNat] := by rw [List.getD_eq_getElem?_getD, List.getElem?_eq_getElem hk]; rfl
    have hr := hl _ (List.getElem_mem hk)
    obtain ⟨o4', h⟩ := ih (acc ++ R[i.toNat]) (some (.val (.int i))) (fun j hj => hi j (List.mem_cons_of_mem _ hj)) (by rw [List.length_append]; omega)
    refine ⟨o4', ?_⟩
    have hidx : idxD (rowsD R) (.int i) = some (rowD R[i.toNat]) := by
      unfold rowsD
      rw [idx_tuple, List.length_map, place_nat h0 (by omega)]
      simp [List.getElem?_eq_getElem hk]
    have hlist : biD .list [rowD R[i.toNat]] = some (.list (nlist R[i.toNat])) := rfl
    have hadd : binD .add (.list (nlist acc)) (.list (nlist R[i.toNat])) = some (.list (nlist (acc ++ R[i.toNat]))) := by
      rw [bin_addL (by rw [nlist_len, nlist_len]; omega), nlist_append]
    have hs : stepF G 0 (.name 4) [.set 3 (.bin .add (.var 3) (.bi .list (.cons (.idx (.var 0) (.var 4)) .nil)))] (.int i) [some (.val (rowsD R)), some (.own false found), o2, some (.own false (nlist acc)), o4] = some (.next [some (.val (rowsD R)), some (.own false found), o2, some (.own false (nlist (acc ++ R[i.toNat]))), some (.val (.int i))]) := by
      simp [stepF, Z.asg_name, exs_cons, ev_var, rd_slot, hidx, hlist, hadd, fresh, slotOf, setAt]
    rw [List.map_cons]
    unfold forL
    rw [hs]
    simp only
    rw [h, List.flatMap_cons, hg, List.append_assoc]
theorem bits_lt {k n : Int} (hk : 0 ≤ k) : (n = 1 → k < 2 → ∀ i ∈ bitsF k, 0 ≤ i ∧ i < 1) ∧ (n = 2 → k < 4 → ∀ i ∈ bitsF k, 0 ≤ i ∧ i < 2) ∧ (n = 3 → k < 8 → ∀ i ∈ bitsF k, 0 ≤ i ∧ i < 3) ∧ (n = 4 → k < 16 → ∀ i ∈ bitsF k, 0 ≤ i ∧ i < 4) := by
  have key : ∀ b : Nat, ∀ k : Fin b, b ≤ 16 → ∀ i ∈ bitsF ((k.1 : Nat) : Int), 0 ≤ i ∧ (b ≤ 16 → i < 4) ∧ (b ≤ 8 → i < 3) ∧ (b ≤ 4 → i < 2) ∧ (b ≤ 2 → i < 1) := by
    intro b k hb i hi
    have hk := k.2
    simp only [bitsF, List.mem_append] at hi
    rcases hi with ((hi | hi) | hi) | hi <;> (split at hi <;> simp at hi; subst hi; refine ⟨by decide, fun _ => by decide, fun h => ?_, fun h => ?_, fun h => ?_⟩ <;> omega)
  obtain ⟨m, rfl⟩ := Int.eq_ofNat_of_zero_le hk
  refine ⟨fun _ h i hi => ?_, fun _ h i hi => ?_, fun _ h i hi => ?_, fun _ h i hi => ?_⟩
  · have := key 2 ⟨m, by omega⟩ (by decide) i hi; exact ⟨this.1, this.2.2.2.2 (by decide)⟩
  · have := key 4 ⟨m, by omega⟩ (by decide) i hi; exact ⟨this.1, this.2.2.2.1 (by decide)⟩
  · have := key 8 ⟨m, by omega⟩ (by decide) i hi; exact ⟨this.1, this.2.2.1 (by decide)⟩
  · have := key 16 ⟨m, by omega⟩ (by decide) i hi; exact ⟨this.1, this.2.1 (by decide)⟩
theorem bits_len (k : Int) : (bitsF k).length ≤ 4 := by
  unfold bitsF
  simp only [List.length_append]
  repeat' split
  all_goals decide
theorem bits_in {R : List (List Nat)} {k : Int} (hR : 1 ≤ R.length ∧ R.length ≤ 4) (h0 : 0 ≤ k) (h1 : k < 2 ^ R.length) : ∀ i ∈ bitsF k, 0 ≤ i ∧ i < R.length := by
  have hc : R.length = 1 ∨ R.length = 2 ∨ R.length = 3 ∨ R.length = 4 := by omega
  have hb := bits_lt (k := k) (n := R.length) h0
  rcases hc with h | h | h | h <;> rw [h] at h1 hb ⊢
  · exact hb.1 rfl h1
  · exact hb.2.1 rfl h1
  · exact hb.2.2.1 rfl h1
  · exact hb.2.2.2 rfl h1
theorem pow_lt {k n : Nat} (h : k < 2 ^ n - 1) : (1 : Int) + (k : Nat) < 2 ^ n := by
  have e : ((2 ^ n : Nat) : Int) = 2 ^ n := by simp
  rw [← e]
  omega
def ofBody : List S := [.set 3 (.lst .nil), .for_ (.name 4) (.of (.call .l_bits [] (.cons (.var 2) .nil))) [.set 3 (.bin .add (.var 3) (.bi .list (.cons (.idx (.var 0) (.var 4)) .nil)))], .app 1 (.call .l_rank [] (.cons (.var 3) .nil))]
theorem of_loop {G : Gam} (g1 : G .l_bits = sem1 F_l_bits) (g2 : G .l_rank = sem1 F_l_rank) {R : List (List Nat)} (hR : 1 ≤ R.length ∧ R.length ≤ 4) (hx : ∀ r ∈ R, ∀ x ∈ r, x < 64) (hl : ∀ r ∈ R, r.length ≤ 1000) : ∀ (ks : List Nat) (acc : List Int) (o2 o3 o4 : Option Slot), (∀ k ∈ ks, (1 : Int) + (k : Nat) < 2 ^ R.length) → acc.length + ks.length ≤ 1000 → ∃ o2' o3' o4', forL (stepF G 0 (.name 2) ofBody) (ks.map fun (k : Nat) => .int (1 + (k : Nat))) [some (.val (rowsD R)), some (.own false (acc.map .int)), o2, o3, o4] =
    some (.next [some (.val (rowsD R)), some (.own false ((acc ++ ks.map fun (k : Nat) => ((rk (rowsOf R (1 + (k : Int))) : Nat) : Int)).map .int)), o2', o3', o4']) := by
  intro ks
  induction ks with
  | nil => intro acc o2 o3 o4 _ _; exact ⟨o2, o3, o4, by simp [forL]⟩
  | cons k ks ih =>
    intro acc o2 o3 o4 hk hlen
    rw [List.length_cons] at hlen
    have hb := bits_in hR (k := 1 + (k : Int)) (by omega) (hk k List.mem_cons_self)
    obtain ⟨o4', hs⟩ := some_loop (G := G) (R := R) (found := acc.map .int) (o2 := some (.val (.int (1 + (k : Int))))) hl (bitsF (1 + (k : Int))) [] o4 hb (by have := bits_len (1 + (k : Int)); simp; omega)
    rw [List.nil_append] at hs
    have hfor := ex_for_same (it := .of (.call .l_bits [] (.cons (.var 2) .nil))) hs (by simp [ev_var, ev_call, owned, g1, F_l_bits, giveBack])
    obtain ⟨p2, p3, p4, h⟩ := ih (acc ++ [((rk (rowsOf R (1 + (k : Int))) : Nat) : Int)]) (some (.val (.int (1 + (k : Int))))) (some (.val (.list (nlist (rowsOf R (1 + (k : Int))))))) o4' (fun j hj => hk j (List.mem_cons_of_mem _ hj)) (by rw [List.length_append, List.length_singleton]; omega)
    refine ⟨p2, p3, p4, ?_⟩
    have hrank := l_rank_at (rows_lt hx (1 + (k : Int)))
    have hs : stepF G 0 (.name 2) ofBody (.int (1 + (k : Nat))) [some (.val (rowsD R)), some (.own false (acc.map .int)), o2, o3, o4] = some (.next [some (.val (rowsD R)), some (.own false ((acc ++ [((rk (rowsOf R (1 + (k : Int))) : Nat) : Int)]).map .int)), some (.val (.int (1 + (k : Int)))), some (.val (.list (nlist (rowsOf R (1 + (k : Int)))))), o4']) := by
      have e1 : ex G 0 (.set 3 (.lst .nil)) [some (.val (rowsD R)), some (.own false (acc.map .int)), some (.val (.int (1 + (k : Int)))), o3, o4] = some (.next [some (.val (rowsD R)), some (.own false (acc.map .int)), some (.val (.int (1 + (k : Int)))), some (.own false (nlist [])), o4]) := by
        simp [fresh, slotOf, setAt]
        rfl
      have e3 : ex G 0 (.app 1 (.call .l_rank [] (.cons (.var 3) .nil))) [some (.val (rowsD R)), some (.own false (acc.map .int)), some (.val (.int (1 + (k : Int)))), some (.own false (nlist (rowsOf R (1 + (k : Int))))), o4'] = some (.next [some (.val (rowsD R)), some (.own false ((acc ++ [((rk (rowsOf R (1 + (k : Int))) : Nat) : Int)]).map .int)), some (.val (.int (1 + (k : Int)))), some (.val (.list (nlist (rowsOf R (1 + (k : Int)))))), o4']) := by
        have : acc.length < lim := by show acc.length < 16777216; omega
        simp [own?, ev_call, owned, ev_var, frz_slot, g2, hrank, giveBack, appD, this]
      unfold stepF
      rw [Z.asg_name, if_pos (by simp)]
      show exs G 0 ofBody _ = _
      unfold ofBody
      rw [show ([some (.val (rowsD R)), some (.own false (acc.map .int)), o2, o3, o4] : Env).set 2 (some (.val (.int (1 + (k : Int))))) = [some (.val (rowsD R)), some (.own false (acc.map .int)), some (.val (.int (1 + (k : Int)))), o3, o4] from rfl, exs_next e1, exs_next hfor]
      refine (exs_next e3).trans ?_
      rfl
    rw [List.map_cons]
    unfold forL
    rw [hs]
    simp only
    rw [h, List.append_assoc]
    rfl
theorem mir_l_of_rows {G : Gam} (g1 : G .l_bits = sem1 F_l_bits) (g2 : G .l_rank = sem1 F_l_rank) : Mir0 G 5 1 b_l_of_rows (sem1 F_l_of_rows) := mir_sem1 fun x r h => by
  unfold F_l_of_rows at h
  split at h
  · rename_i R hR
    split at h
    · rename_i hc
      cases h
      obtain ⟨h1, h2, h3⟩ := hc
      unfold rowsN? at hR
      split at hR
      · rename_i ds
        obtain ⟨rfl, hx⟩ := rowsL?_eq hR
        have hl : ∀ r ∈ R, r.length ≤ 1000 := fun r hr => of_decide_eq_true (List.all_eq_true.mp h3 r hr)
        have hp : (1 : Nat) ≤ 2 ^ R.length ∧ 2 ^ R.length ≤ 16 := by
          have hc : R.length = 1 ∨ R.length = 2 ∨ R.length = 3 ∨ R.length = 4 := by omega
          rcases hc with h | h | h | h <;> rw [h] <;> decide
        obtain ⟨o2, o3, o4, hloop⟩ := of_loop g1 g2 ⟨h1, h2⟩ hx hl (List.range (2 ^ R.length - 1)) [] none none none (fun k hk => pow_lt (List.mem_range.mp hk)) (by simp; omega)
        rw [List.nil_append] at hloop
        refine runs_ret (fuel := 0) (env := [some (.val (rowsD R)), some (.own false ((ofRows R).map .int)), o2, o3, o4]) ?_
        have hidx : idxD (.list [.int 1, .int 2, .int 4, .int 8, .int 16]) (.int ((R.length : Nat) : Int)) = some (.int ((2 ^ R.length : Nat) : Int)) := by
          have hc : R.length = 1 ∨ R.length = 2 ∨ R.length = 3 ∨ R.length = 4 := by omega
          rcases hc with h | h | h | h <;> rw [h] <;> rfl
        have hlenR : biD .len [rowsD R] = some (.int ((R.length : Nat) : Int)) := by unfold rowsD; rw [bi_lenT, List.length_map]
        have hrng : rangeD 1 ((2 ^ R.length : Nat) : Int) = some ((List.range (2 ^ R.length - 1)).map fun (k : Nat) => .int (1 + (k : Nat))) := by
          rw [range_ok (by omega)]
          congr 2
          congr 1
          omega
        have e1 : ex G 0 (.set 1 (.lst .nil)) (env0 5 ([PySem.PyData.tuple (R.map rowD)].map .val)) = some (.next [some (.val (rowsD R)), some (.own false (([] : List Int).map .int)), none, none, none]) := by
          simp [env0, List.replicate, fresh, slotOf, setAt, rowsD]
        have hit : evIt G (.range2 (.int 1) (.idx (.lst (.cons (.int 1) (.cons (.int 2) (.cons (.int 4) (.cons (.int 8) (.cons (.int 16) .nil)))))) (.bi .len (.cons (.var 0) .nil)))) [some (.val (rowsD R)), some (.own false (([] : List Int).map .int)), none, none, none] = some (.ok ((List.range (2 ^ R.length - 1)).map fun (k : Nat) => .int (1 + (k : Nat))) [some (.val (rowsD R)), some (.own false (([] : List Int).map .int)), none, none, none]) := by
          generalize ((List.range (2 ^ R.length - 1)).map fun (k : Nat) => (.int (1 + (k : Nat)) : D)) = items at hrng ⊢
          generalize ((2 ^ R.length : Nat) : Int) = q at hidx hrng
          simp [ev_var, hlenR, hidx, hrng]
        have e2 := ex_for_same hloop hit
        unfold b_l_of_rows
        rw [exs_next e1]
        refine (exs_next e2).trans ?_
        simp [exs_cons, ev_var, rd_slot, tupI, ofRows]
      · cases hR
    · cases h
  · cases h
theorem of_rows_at {R : List (List Nat)} (h1 : 1 ≤ R.length ∧ R.length ≤ 4) (h2 : ∀ r ∈ R, ∀ x ∈ r, x < 64) (h3 : ∀ r ∈ R, r.length ≤ 1000) : F_l_of_rows (rowsD R) = some (.ok (tupI (ofRows R))) := by
  unfold F_l_of_rows
  have : rowsN? (rowsD R) = some R := rowsL?_of h2
  rw [this]
  show (if _ then _ else _) = _
  rw [if_pos ⟨h1.1, h1.2, List.all_eq_true.mpr fun r hr => decide_eq_true (h3 r hr)⟩]
end M
/-! Values of forms made of parts; elementary forms by their parts; ranks are measures. -/
namespace M
open Z Rk
/-- the value of a set -/
def hv (vs : List Int) (n : Int) : Int := (0 :: vs).getD n.toNat 0
theorem dot_cons (a b : Int) (x y : List Int) : dot (a :: x) (b :: y) = a * b + dot x y := by unfold dot; simp
theorem dot_nil (y : List Int) : dot [] y = 0 := by unfold dot; simp
theorem dot_nil' (y : List Int) : dot y [] = 0 := by unfold dot; simp
theorem dot_add_at : ∀ (acc ws : List Int) (k : Nat) (f : Int), k < acc.length → dot (acc.set k (acc.getD k 0 + f)) ws = dot acc ws + f * ws.getD k 0
  | [], ws, k, f, h => by simp at h
  | a :: acc, [], k, f, h => by rw [dot_nil', dot_nil']; simp
  | a :: acc, w :: ws, 0, f, h => by
    simp only [List.getD_cons_zero, List.set_cons_zero, dot_cons]
    rw [Int.add_mul]
    omega
  | a :: acc, w :: ws, k + 1, f, h => by
    simp only [List.getD_cons_succ, List.set_cons_succ, dot_cons]
    rw [dot_add_at acc ws k f (by simpa using h)]
    omega
theorem dot_zeros : ∀ (n : Nat) (ws : List Int), dot (List.replicate n 0) ws = 0
  | 0, ws => dot_nil ws
  | n + 1, [] => dot_nil' _
  | n + 1, w :: ws => by rw [List.replicate_succ, dot_cons, dot_zeros n ws]; omega
def pval (vs : List Int) (ps : List (Int × Int)) : Int := (ps.map fun p => p.2 * hv vs p.1).sum
theorem dot_formL {vs : List Int} {size : Nat} {ps : List (Int × Int)} (hp : ∀ p ∈ ps, 0 ≤ p.1 ∧ p.1 < (size : Int)) (hs : 1 ≤ size) : dot ((formL size ps).drop 1) vs = pval vs ps := by
  have key : ∀ (ps : List (Int × Int)) (acc : List Int), acc.length = size → (∀ p ∈ ps, 0 ≤ p.1 ∧ p.1 < (size : Int)) → dot (ps.foldl addAt acc) (0 :: vs) = dot acc (0 :: vs) + pval vs ps := by
    intro ps
    induction ps with
    | nil => intro acc _ _; unfold pval; simp
    | cons p ps ih =>
      intro acc hl hp
      have h0 := hp p List.mem_cons_self
      rw [List.foldl_cons, ih (addAt acc p) (by rw [addAt_len]; exact hl) (fun q hq => hp q (List.mem_cons_of_mem _ hq))]
      unfold addAt
      rw [dot_add_at acc (0 :: vs) p.1.toNat p.2 (by omega)]
      unfold pval hv
      rw [List.map_cons, List.sum_cons]
      omega
  have h1 := key ps (List.replicate size 0) (by rw [List.length_replicate]) hp
  rw [dot_zeros, Int.zero_add] at h1
  rw [← h1]
  show _ = dot (formL size ps) (0 :: vs)
  have hl := formL_len size ps
  cases e : formL size ps with
  | nil => rw [e] at hl; simp at hl; omega
  | cons a r => rw [dot_cons, List.drop_one, List.tail_cons]; omega
/-- the parts of the elementary forms -/
def elP (m : Nat) : List (List (Int × Int)) := ((List.range m).map fun i => [(((2 ^ m - 1 : Nat) : Int), 1), (((2 ^ m - 1 - 2 ^ i : Nat) : Int), -1)]) ++
  (List.range m).flatMap fun i => (List.range m).flatMap fun j => if i < j then ((List.range (2 ^ m)).filter fun k => !k.testBit i && !k.testBit j).map fun k => [(((k + 2 ^ i : Nat) : Int), 1), (((k + 2 ^ j : Nat) : Int), 1), (((k + 2 ^ i + 2 ^ j : Nat) : Int), -1), (((k : Nat) : Int), -1)] else []
theorem elem_parts {m : Int} (hm : 1 ≤ m ∧ m ≤ 4) : elemI m = (elP m.toNat).map fun ps => (formL (pw m) ps).drop 1 := by
  rcases one4 hm with rfl | rfl | rfl | rfl <;> decide +kernel
theorem elP_range {m : Int} (hm : 1 ≤ m ∧ m ≤ 4) : ∀ ps ∈ elP m.toNat, ∀ p ∈ ps, 0 ≤ p.1 ∧ p.1 < ((pw m : Nat) : Int) := by
  rcases one4 hm with rfl | rfl | rfl | rfl <;> decide +kernel
/-- which inequality a part list stands for -/
def okP (ps : List (Int × Int)) : Bool := match ps with
  | [(u, 1), (a, -1)] => (bitsF a).all fun i => (bitsF u).contains i
  | [(a, 1), (b, 1), (u, -1), (k, -1)] => ((bitsF k).all fun i => (bitsF a).contains i && (bitsF b).contains i) && (bitsF u).all fun i => (bitsF a).contains i || (bitsF b).contains i
  | _ => false
theorem elP_ok {m : Int} (hm : 1 ≤ m ∧ m ≤ 4) : ∀ ps ∈ elP m.toNat, okP ps = true := by
  rcases one4 hm with rfl | rfl | rfl | rfl <;> decide +kernel
/-- a set function that grows and does so less and less -/
structure Poly (h : Int → Int) : Prop where
  mono : ∀ a u, (∀ i ∈ bitsF a, i ∈ bitsF u) → h a ≤ h u
  sub : ∀ a b u k, (∀ i ∈ bitsF k, i ∈ bitsF a ∧ i ∈ bitsF b) → (∀ i ∈ bitsF u, i ∈ bitsF a ∨ i ∈ bitsF b) → h u + h k ≤ h a + h b
theorem poly_elem {m : Int} {vs : List Int} {h : Int → Int} (hm : 1 ≤ m ∧ m ≤ 4) (H : Poly h) (he : ∀ n, 0 ≤ n → n < ((pw m : Nat) : Int) → hv vs n = h n) : ∀ f ∈ elemI m, 0 ≤ dot f vs := by
  intro f hf
  rw [elem_parts hm] at hf
  obtain ⟨ps, hps, rfl⟩ := List.mem_map.mp hf
  have hr := elP_range hm ps hps
  have hok := elP_ok hm ps hps
  rw [dot_formL hr (by rcases one4 hm with rfl | rfl | rfl | rfl <;> decide)]
  unfold okP at hok
  split at hok
  · rename_i u a
    have r1 := hr (u, 1) (by simp)
    have r2 := hr (a, -1) (by simp)
    simp only [List.all_eq_true, List.contains_iff_mem] at hok
    have := H.mono a u hok
    simp [pval]
    rw [he u r1.1 r1.2, he a r2.1 r2.2]
    omega
  · rename_i a b u k
    have r1 := hr (a, 1) (by simp)
    have r2 := hr (b, 1) (by simp)
    have r3 := hr (u, -1) (by simp)
    have r4 := hr (k, -1) (by simp)
    simp only [Bool.and_eq_true, List.all_eq_true, Bool.or_eq_true, List.contains_iff_mem] at hok
    have := H.sub a b u k hok.1 hok.2
    simp [pval]
    rw [he a r1.1 r1.2, he b r2.1 r2.2, he u r3.1 r3.2, he k r4.1 r4.2]
    omega
  · cases hok
/-! ### ranks -/
theorem mem_rowsOf {R : List (List Nat)} {n : Int} {x : Nat} : x ∈ rowsOf R n ↔ ∃ i ∈ bitsF n, x ∈ R.getD i.toNat [] := by unfold rowsOf; exact List.mem_flatMap
theorem rk_poly (R : List (List Nat)) : Poly fun n => ((rk (rowsOf R n) : Nat) : Int) := by
  refine ⟨fun a u h => ?_, fun a b u k h1 h2 => ?_⟩
  · have := rk_le (xs := rowsOf R a) (ys := rowsOf R u) fun x hx => by
      obtain ⟨i, hi, hx⟩ := mem_rowsOf.mp hx
      exact mem_rowsOf.mpr ⟨i, h i hi, hx⟩
    show ((rk (rowsOf R a) : Nat) : Int) ≤ ((rk (rowsOf R u) : Nat) : Int)
    omega
  · have s := submod (rowsOf R k) (rowsOf R a) (rowsOf R b)
    have e1 : rk (rowsOf R k ++ rowsOf R a) = rk (rowsOf R a) := rk_ext fun x => by
      rw [List.mem_append]
      refine ⟨fun z => z.elim (fun hx => ?_) id, .inr⟩
      obtain ⟨i, hi, hx⟩ := mem_rowsOf.mp hx
      exact mem_rowsOf.mpr ⟨i, (h1 i hi).1, hx⟩
    have e2 : rk (rowsOf R k ++ rowsOf R b) = rk (rowsOf R b) := rk_ext fun x => by
      rw [List.mem_append]
      refine ⟨fun z => z.elim (fun hx => ?_) id, .inr⟩
      obtain ⟨i, hi, hx⟩ := mem_rowsOf.mp hx
      exact mem_rowsOf.mpr ⟨i, (h1 i hi).2, hx⟩
    have e3 : rk (rowsOf R u) ≤ rk (rowsOf R k ++ rowsOf R a ++ rowsOf R b) := rk_le fun x hx => by
      obtain ⟨i, hi, hx⟩ := mem_rowsOf.mp hx
      rcases h2 i hi with hi | hi
      · exact List.mem_append_left _ (List.mem_append_right _ (mem_rowsOf.mpr ⟨i, hi, hx⟩))
      · exact List.mem_append_right _ (mem_rowsOf.mpr ⟨i, hi, hx⟩)
    show ((rk (rowsOf R u) : Nat) : Int) + ((rk (rowsOf R k) : Nat) : Int) ≤ ((rk (rowsOf R a) : Nat) : Int) + ((rk (rowsOf R b) : Nat) : Int)
    omega
/-- a measure, by its values -/
structure IsMs (m : Int) (vs : List Int) : Prop where
  len : vs.length = pw m - 1
  rng : ∀ v ∈ vs, 0 ≤ v ∧ v ≤ 1000
  el : ∀ f ∈ elemI m, 0 ≤ dot f vs
theorem ofRows_len (R : List (List Nat)) : (ofRows R).length = 2 ^ R.length - 1 := by unfold ofRows; rw [List.length_map, List.length_range]
theorem pw_len {m : Int} {n : Nat} (hm : 1 ≤ m ∧ m ≤ 4) (h : (n : Int) = m) : 2 ^ n = pw m := by
  have : n = m.toNat := by omega
  rw [this]
  rfl
theorem ofRows_hv {R : List (List Nat)} {n : Int} (h0 : 0 ≤ n) (h1 : n < ((2 ^ R.length : Nat) : Int)) : hv (ofRows R) n = ((rk (rowsOf R n) : Nat) : Int) := by
  obtain ⟨k, rfl⟩ := Int.eq_ofNat_of_zero_le h0
  unfold hv
  cases k with
  | zero => rfl
  | succ k =>
    have hk : k < 2 ^ R.length - 1 := by omega
    have e : ((k + 1 : Nat) : Int).toNat = k + 1 := by omega
    rw [e, List.getD_cons_succ, List.getD_eq_getElem?_getD]
    unfold ofRows
    rw [List.getElem?_map, List.getElem?_range hk]
    have e2 : (1 : Int) + (k : Nat) = ((k + 1 : Nat) : Int) := by omega
    simp only [Option.map_some, Option.getD_some, e2]
theorem ofRows_meas {m : Int} {R : List (List Nat)} (hm : 1 ≤ m ∧ m ≤ 4) (hR : (R.length : Int) = m) (hx : ∀ r ∈ R, ∀ x ∈ r, x < 64) : IsMs m (ofRows R) := by
  have hp := pw_len hm hR
  refine ⟨by rw [ofRows_len, hp], fun v hv => ?_, poly_elem hm (rk_poly R) fun n h0 h1 => ofRows_hv h0 (by rw [hp]; exact h1)⟩
  unfold ofRows at hv
  obtain ⟨k, _, rfl⟩ := List.mem_map.mp hv
  have := rk_le_6 (rows_lt hx (1 + (k : Int)))
  omega
/-! ### numbers of sources -/
def cntF (m top : Int) : List Int := (List.range (pw m - 1)).map fun (k : Nat) => if ((bitsF (1 + (k : Int))).length : Int) < top then ((bitsF (1 + (k : Int))).length : Int) else top
theorem cnt_meas {m top : Int} (hm : 1 ≤ m ∧ m ≤ 4) (ht : 1 ≤ top ∧ top ≤ 4) : (cntF m top).length = pw m - 1 ∧ (∀ v ∈ cntF m top, 0 ≤ v ∧ v ≤ 4) ∧ ∀ f ∈ elemI m, 0 ≤ dot f (cntF m top) := by
  have h4 : top = 1 ∨ top = 2 ∨ top = 3 ∨ top = 4 := by omega
  rcases one4 hm with rfl | rfl | rfl | rfl <;> rcases h4 with rfl | rfl | rfl | rfl <;> decide +kernel
/-- sums of multiples -/
def lin (a b : Int) (xs ys : List Int) : List Int := List.zipWith (fun x y => x * a + y * b) xs ys
theorem dot_lin (a b : Int) : ∀ (f xs ys : List Int), xs.length = ys.length → dot f (lin a b xs ys) = dot f xs * a + dot f ys * b
  | [], xs, ys, _ => by simp [dot_nil]
  | f :: fs, [], [], _ => by simp [lin, dot_nil']
  | f :: fs, x :: xs, y :: ys, h => by
    have ih := dot_lin a b fs xs ys (by simpa using h)
    unfold lin at ih ⊢
    rw [List.zipWith_cons_cons, dot_cons, dot_cons, dot_cons, ih, Int.add_mul, Int.add_mul, Int.mul_add, Int.mul_assoc, Int.mul_assoc]
    omega
  | f :: fs, [], _ :: _, h => by simp at h
  | f :: fs, _ :: _, [], h => by simp at h
theorem lin_meas {m a b : Int} {xs ys : List Int} (ha : 0 ≤ a ∧ a ≤ 4) (hb : 0 ≤ b ∧ b ≤ 1) (hx : xs.length = pw m - 1 ∧ (∀ v ∈ xs, 0 ≤ v ∧ v ≤ 4) ∧ ∀ f ∈ elemI m, 0 ≤ dot f xs) (hy : ys.length = pw m - 1 ∧ (∀ v ∈ ys, 0 ≤ v ∧ v ≤ 6) ∧ ∀ f ∈ elemI m, 0 ≤ dot f ys) : IsMs m (lin a b xs ys) := by
  refine ⟨by unfold lin; rw [List.length_zipWith, hx.1, hy.1]; omega, fun v hv => ?_, fun f hf => ?_⟩
  · unfold lin at hv
    rw [zw] at hv
    obtain ⟨p, hp, rfl⟩ := List.mem_map.mp hv
    have h1 := hx.2.1 p.1 (List.of_mem_zip hp).1
    have h2 := hy.2.1 p.2 (List.of_mem_zip hp).2
    have h3 := Int.mul_nonneg h1.1 ha.1
    have h4 := Int.mul_nonneg h2.1 hb.1
    have h5 : p.1 * a ≤ 4 * 4 := Int.mul_le_mul h1.2 ha.2 ha.1 (by decide)
    have h6 : p.2 * b ≤ 6 * 1 := Int.mul_le_mul h2.2 hb.2 hb.1 (by decide)
    omega
  · rw [dot_lin a b f xs ys (by rw [hx.1, hy.1])]
    have h3 := Int.mul_nonneg (hx.2.2 f hf) ha.1
    have h4 := Int.mul_nonneg (hy.2.2 f hf) hb.1
    omega
theorem ofRows_6 {m : Int} {R : List (List Nat)} (hm : 1 ≤ m ∧ m ≤ 4) (hR : (R.length : Int) = m) (hx : ∀ r ∈ R, ∀ x ∈ r, x < 64) : (ofRows R).length = pw m - 1 ∧ (∀ v ∈ ofRows R, 0 ≤ v ∧ v ≤ 6) ∧ ∀ f ∈ elemI m, 0 ≤ dot f (ofRows R) := by
  have h := ofRows_meas hm hR hx
  refine ⟨h.len, fun v hv => ?_, h.el⟩
  unfold ofRows at hv
  obtain ⟨k, _, rfl⟩ := List.mem_map.mp hv
  have := rk_le_6 (rows_lt hx (1 + (k : Int)))
  omega
end M
/-! Drawn rows and drawn measures. -/
namespace M
open Z Rk
def GoodRows (ds : List D) (d : D) : Prop := ∃ (m : Int) (R : List (List Nat)), ds = [.int m] ∧ d = rowsD R ∧ (R.length : Int) = m ∧ (∀ r ∈ R, ∀ x ∈ r, x < 64) ∧ ∀ r ∈ R, r.length ≤ 3
def HRoll (G : Gam) : Prop := G .l_roll = m_l_roll
theorem nats_of : ∀ {vs : List D}, (∀ v ∈ vs, ∃ n : Nat, v = .int (n : Nat) ∧ n < 64) → ∃ xs : List Nat, vs = nlist xs ∧ ∀ x ∈ xs, x < 64
  | [], _ => ⟨[], rfl, fun n h => by cases h⟩
  | v :: vs, h => by
    obtain ⟨n, rfl, hn⟩ := h v List.mem_cons_self
    obtain ⟨ns, rfl, hs⟩ := nats_of (fun w hw => h w (List.mem_cons_of_mem _ hw))
    exact ⟨n :: ns, rfl, fun x hx => by
      rcases List.mem_cons.mp hx with rfl | hx
      · exact hn
      · exact hs x hx⟩
theorem rows_of : ∀ {vs : List D}, (∀ v ∈ vs, ∃ r : List Nat, v = rowD r ∧ (∀ x ∈ r, x < 64) ∧ r.length ≤ 3) → ∃ R : List (List Nat), vs = R.map rowD ∧ (∀ r ∈ R, ∀ x ∈ r, x < 64) ∧ ∀ r ∈ R, r.length ≤ 3
  | [], _ => ⟨[], rfl, (fun n h => by cases h), fun n h => by cases h⟩
  | v :: vs, h => by
    obtain ⟨n, rfl, hn, hl⟩ := h v List.mem_cons_self
    obtain ⟨ns, rfl, hs, ht⟩ := rows_of (fun w hw => h w (List.mem_cons_of_mem _ hw))
    refine ⟨n :: ns, rfl, fun x hx => ?_, fun x hx => ?_⟩ <;> rcases List.mem_cons.mp hx with rfl | hx
    · exact hn
    · exact hs x hx
    · exact hl
    · exact ht x hx
theorem any_rows_draws {m c j : Int} (hm : 1 ≤ m ∧ m ≤ 4) : ∃ d c' j', GoodRows [.int m] d ∧ Draws HRoll b_l_any_rows 5 [.int m] c j d c' j' := by
  have hr := roll_range (c := c) (j := j) (m := 3) (by decide)
  generalize hre : rollV c j 3 = r at hr
  generalize hc1 : rollC c j 3 = c1
  generalize hj1 : rollJ c j 3 = j1
  obtain ⟨high, hidx, hh⟩ : ∃ high : Int, idxD (.list [.int 4, .int 8, .int 64]) (.int r) = some (.int high) ∧ 0 < high ∧ high ≤ 64 := by
    have : r = 0 ∨ r = 1 ∨ r = 2 := by omega
    rcases this with rfl | rfl | rfl
    · exact ⟨4, rfl, by decide⟩
    · exact ⟨8, rfl, by decide⟩
    · exact ⟨64, rfl, by decide⟩
  have e1 : ∀ G, HRoll G → ex G 0 (.set 2 (.idx (.lst (.cons (.int 4) (.cons (.int 8) (.cons (.int 64) .nil)))) (.call .l_roll [0] (.cons (.int 3) .nil)))) (env0 5 (.own true (dice c j) :: [PySem.PyData.int m].map .val)) = some (.next [some (.own true (dice c1 j1)), some (.val (.int m)), some (.val (.int high)), none, none]) := fun G hG => by
    have hG : G .l_roll = m_l_roll := hG
    simp [env0, List.replicate, ev_roll0 hG, hre, hc1, hj1, hidx, fresh, slotOf, setAt]
  obtain ⟨vs, c', j', q1, q2, q3⟩ := compD (H := HRoll) (base := [none, some (.val (.int m)), some (.val (.int high)), none, none]) (s := 0) (i := 4) (k := true) (it := .range1 (.var 1)) (e := .bi .tuple (.cons (.comp (.call .l_roll [0] (.cons (.var 2) .nil)) (.name 3) (.range1 (.call .l_roll [0] (.cons (.int 4) .nil))) .non) .nil)) (items := (List.range m.toNat).map fun (k : Nat) => .int k) (P := fun v => ∃ r : List Nat, v = rowD r ∧ (∀ x ∈ r, x < 64) ∧ r.length ≤ 3) (c := c1) (j := j1) (c1 := c1) (j1 := j1) (by decide) (noOwn_none rfl)
    (fun G hG => by simp [wd, ev_var, range_ok (i := 0) (j := m) (by omega)])
    (fun d hd c j => by
      have hq := roll_range (c := c) (j := j) (m := 4) (by decide)
      obtain ⟨ws, c2, j2, p1, p2, p3⟩ := compD (H := HRoll) (base := [none, some (.val (.int m)), some (.val (.int high)), none, some (.val d)]) (s := 0) (i := 3) (k := true) (it := .range1 (.call .l_roll [0] (.cons (.int 4) .nil))) (e := .call .l_roll [0] (.cons (.var 2) .nil)) (items := (List.range (rollV c j 4).toNat).map fun (k : Nat) => .int k) (P := fun v => ∃ n : Nat, v = .int (n : Nat) ∧ n < 64) (c := c) (j := j) (c1 := rollC c j 4) (j1 := rollJ c j 4) (by decide) (noOwn_none rfl)
        (fun G hG => by
          have hG : G .l_roll = m_l_roll := hG
          simp [wd, ev_roll0 hG, range_ok (i := 0) (j := rollV c j 4) (by omega)])
        (fun d' hd' c j => by
          have hv := roll_range (c := c) (j := j) (m := high) hh.1
          refine ⟨.int (rollV c j high), rollC c j high, rollJ c j high, ⟨(rollV c j high).toNat, by rw [Int.toNat_of_nonneg hv.1], by omega⟩, fun G hG => ?_⟩
          have hG : G .l_roll = m_l_roll := hG
          have er := ev_roll0v (G := G) hG (rest := [some (.val (.int m)), some (.val (.int high)), some (.val d'), some (.val d)]) (k := true) (c := c) (j := j) (m := high) (i := 1) rfl (by omega)
          have er : ev G (.call .l_roll [0] (.cons (.var 2) .nil)) [some (.own true (dice c j)), some (.val (.int m)), some (.val (.int high)), some (.val d'), some (.val d)] = _ := er
          simp [wd, er])
      obtain ⟨xs, rfl, hx⟩ := nats_of p2
      rw [nlist_len, List.length_map, List.length_range] at p1
      refine ⟨rowD xs, c2, j2, ⟨xs, rfl, hx, by omega⟩, fun G hG => ?_⟩
      have p3 : ev G (.comp (.call .l_roll [0] (.cons (.var 2) .nil)) (.name 3) (.range1 (.call .l_roll [0] (.cons (.int 4) .nil))) .non) [some (.own true (dice c j)), some (.val (.int m)), some (.val (.int high)), none, some (.val d)] = _ := p3 G hG
      simp [wd, p3, rowD])
  obtain ⟨R, rfl, hR, hl⟩ := rows_of q2
  simp only [List.length_map, List.length_range] at q1
  refine ⟨rowsD R, c', j', ⟨m, R, rfl, rfl, by omega, hR, hl⟩, fun G hG => ?_⟩
  refine ⟨0, wd [none, some (.val (.int m)), some (.val (.int high)), none, none] 0 true c' j', ?_, rfl⟩
  unfold b_l_any_rows
  rw [exs_next (e1 G hG)]
  have q3 : ev G (.comp (.bi .tuple (.cons (.comp (.call .l_roll [0] (.cons (.var 2) .nil)) (.name 3) (.range1 (.call .l_roll [0] (.cons (.int 4) .nil))) .non) .nil)) (.name 4) (.range1 (.var 1)) .non) [some (.own true (dice c1 j1)), some (.val (.int m)), some (.val (.int high)), none, none] = _ := q3 G hG
  rw [exs_cons]
  simp [q3, rowsD]
noncomputable def m_any_rows : Sem := semD HRoll b_l_any_rows 5 GoodRows
theorem any_rows_at {m c j : Int} (hm : 1 ≤ m ∧ m ≤ 4) : ∃ R c' j', (R.length : Int) = m ∧ (∀ r ∈ R, ∀ x ∈ r, x < 64) ∧ (∀ r ∈ R, r.length ≤ 3) ∧ m_any_rows [dice c j] [.int m] = some (.ok (rowsD R, [dice c' j'])) := by
  obtain ⟨d, c', j', ⟨m', R, e1, e2, e3, e4, e5⟩, h⟩ := semD_at (any_rows_draws (c := c) (j := j) hm)
  cases e1
  subst e2
  exact ⟨R, c', j', e3, e4, e5, h⟩
/-! ### measures -/
def GoodMeas (ds : List D) (d : D) : Prop := ∃ (m : Int) (vs : List Int), ds = [.int m] ∧ d = tupI vs ∧ IsMs m vs
def HMeas (G : Gam) : Prop := G .l_roll = m_l_roll ∧ G .l_any_rows = m_any_rows ∧ G .l_of_rows = sem1 F_l_of_rows ∧ G .l_bits = sem1 F_l_bits
abbrev amE (R : List (List Nat)) (m top fac c j : Int) (o5 : Option Slot) : Env := [some (.own true (dice c j)), some (.val (.int m)), some (.val (tupI (ofRows R))), some (.val (.int (1 + top))), some (.val (.int fac)), o5, none, none, none]
theorem am_counts {G : Gam} (g4 : G .l_bits = sem1 F_l_bits) {R : List (List Nat)} {m top fac c j : Int} (hpw : 1 ≤ pw m - 1 ∧ pw m - 1 ≤ 15) (hlenR : (ofRows R).length = pw m - 1) :
    ev G (.comp (.bi .min2 (.cons (.var 3) (.cons (.bi .len (.cons (.call .l_bits [] (.cons (.var 6) .nil)) .nil)) .nil))) (.name 6) (.range2 (.int 1) (.bin .add (.bi .len (.cons (.var 2) .nil)) (.int 1))) .non) (amE R m top fac c j none) = some (.ok (.imm (.list ((cntF m (1 + top)).map .int))) (amE R m top fac c j none)) := by
  have hlen : biD .len [tupI (ofRows R)] = some (.int ((pw m - 1 : Nat) : Int)) := by rw [len_tup, hlenR]
  have hrg : rangeD 1 (((pw m - 1 : Nat) : Int) + 1) = some ((List.range (pw m - 1)).map fun (k : Nat) => .int (1 + (k : Int))) := by
    rw [range_ok (by omega)]
    congr 2
    congr 1
    omega
  have ec1 := ev_comp1n (G := G) (e := .bi .min2 (.cons (.var 3) (.cons (.bi .len (.cons (.call .l_bits [] (.cons (.var 6) .nil)) .nil)) .nil))) (i := 6) (it := .range2 (.int 1) (.bin .add (.bi .len (.cons (.var 2) .nil)) (.int 1))) (env := amE R m top fac c j none) (items := (List.range (pw m - 1)).map fun (k : Nat) => .int (1 + (k : Int))) (f := fun d => match d with | .int n => .int (if ((bitsF n).length : Int) < 1 + top then ((bitsF n).length : Int) else 1 + top) | _ => .none) (evIt_r2 (ev_int 1) (by simp [ev_var, hlen]) hrg) (noOwn_none rfl) (fun d hd => by
      obtain ⟨k, _, rfl⟩ := List.mem_map.mp hd
      simp [ev_var, ev_call, owned, g4, F_l_bits, giveBack])
  rw [List.map_map] at ec1
  have ec1' : ((List.range (pw m - 1)).map ((fun d : D => match d with | .int n => (.int (if ((bitsF n).length : Int) < 1 + top then ((bitsF n).length : Int) else 1 + top) : D) | _ => .none) ∘ fun (k : Nat) => (.int (1 + (k : Int)) : D))) = (cntF m (1 + top)).map .int := by
    unfold cntF
    rw [List.map_map]
    rfl
  rw [ec1'] at ec1
  exact ec1
theorem am_lin {G : Gam} {R : List (List Nat)} {m top fac c j : Int} (hf : 0 ≤ fac ∧ fac < 4) {cs : List Int} :
    ev G (.comp (.bin .add (.bin .mul (.var 7) (.bin .add (.int 1) (.var 4))) (.bin .mul (.var 8) (.bin .mod (.var 4) (.int 2)))) (.pair (.name 7) (.name 8)) (.zip (.var 5) (.var 2)) .non) (amE R m top fac c j (some (.own false (cs.map .int)))) = some (.ok (.imm (.list ((lin (1 + fac) (fac % 2) cs (ofRows R)).map .int))) (amE R m top fac c j (some (.val (.list (cs.map .int)))))) := by
  have ec2 := ev_comp2ng (G := G) (e := .bin .add (.bin .mul (.var 7) (.bin .add (.int 1) (.var 4))) (.bin .mul (.var 8) (.bin .mod (.var 4) (.int 2)))) (i := 7) (j := 8) (it := .zip (.var 5) (.var 2)) (env0 := amE R m top fac c j (some (.own false (cs.map .int)))) (env := amE R m top fac c j (some (.val (.list (cs.map .int))))) (items := (cs.zip (ofRows R)).map fun p => ((.int p.1 : D), (.int p.2 : D))) (f := fun q => match q with | (.int a, .int b) => .int (a * (1 + fac) + b * (fac % 2)) | _ => .none) (by decide) (by
      rw [← zip_pairs]
      simp [ev_var, frz_slot, tupI]) (noOwn_none rfl) (noOwn_none rfl) (fun d hd => by
      obtain ⟨p, hp, rfl⟩ := List.mem_map.mp hd
      have m1 := mul_small (i := p.1) (j := 1 + fac) (by omega)
      have m2 := mul_small (i := p.2) (j := fac % 2) (by omega)
      simp [ev_var, bin_mod, bin_mul, m1, m2])
  rw [List.map_map] at ec2
  have ec2' : ((cs.zip (ofRows R)).map ((fun q : D × D => match q with | (.int a, .int b) => (.int (a * (1 + fac) + b * (fac % 2)) : D) | _ => .none) ∘ fun p : Int × Int => ((.int p.1 : D), (.int p.2 : D)))) = (lin (1 + fac) (fac % 2) cs (ofRows R)).map .int := by
    unfold lin
    rw [zw, List.map_map]
    rfl
  rw [ec2'] at ec2
  exact ec2
theorem am_first {G : Gam} (hG : HMeas G) {R : List (List Nat)} {m c j c1 j1 : Int} (hm : 1 ≤ m ∧ m ≤ 4) (hcall : m_any_rows [dice c j] [.int m] = some (.ok (rowsD R, [dice c1 j1]))) (hof : F_l_of_rows (rowsD R) = some (.ok (tupI (ofRows R)))) {top fac c2 j2 c3 j3 : Int} (hte : rollV c1 j1 m = top) (hc2 : rollC c1 j1 m = c2) (hj2 : rollJ c1 j1 m = j2) (hfe : rollV c2 j2 4 = fac) (hc3 : rollC c2 j2 4 = c3) (hj3 : rollJ c2 j2 4 = j3) :
    ex G 0 (.par [2, 3, 4] (.cons (.call .l_of_rows [] (.cons (.call .l_any_rows [0] (.cons (.var 1) .nil)) .nil)) (.cons (.bin .add (.int 1) (.call .l_roll [0] (.cons (.var 1) .nil))) (.cons (.call .l_roll [0] (.cons (.int 4) .nil)) .nil)))) (env0 9 (.own true (dice c j) :: [PySem.PyData.int m].map .val)) = some (.next (amE R m top fac c3 j3 none)) := by
  obtain ⟨g1, g2, g3, g4⟩ := hG
  have ec := call1 (G := G) (f := .l_any_rows) (ds := [.int m]) (es := .cons (.var 1) .nil) (env := [some (.own true (dice c j)), some (.val (.int m)), none, none, none, none, none, none, none]) (s := 0) rfl (by simp [ev_var]) (by rw [g2]; exact hcall)
  have er := ev_roll0v (G := G) g1 (rest := [some (.val (.int m)), none, none, none, none, none, none, none]) (k := true) (c := c1) (j := j1) (m := m) (i := 0) rfl (by omega)
  rw [hte, hc2, hj2] at er
  have er : ev G (.call .l_roll [0] (.cons (.var 1) .nil)) [some (.own true (dice c1 j1)), some (.val (.int m)), none, none, none, none, none, none, none] = _ := er
  have eo : ev G (.call .l_of_rows [] (.cons (.call .l_any_rows [0] (.cons (.var 1) .nil)) .nil)) [some (.own true (dice c j)), some (.val (.int m)), none, none, none, none, none, none, none] = some (.ok (.imm (tupI (ofRows R))) [some (.own true (dice c1 j1)), some (.val (.int m)), none, none, none, none, none, none, none]) := by
    rw [ev_call]
    simp [owned, ec, g3, hof, giveBack]
  simp [env0, List.replicate, eo, er, ev_roll0 g1, hfe, hc3, hj3, fresh, slotOf, sets]
theorem any_measure_draws {m c j : Int} (hm : 1 ≤ m ∧ m ≤ 4) : ∃ d c' j', GoodMeas [.int m] d ∧ Draws HMeas b_l_any_measure 9 [.int m] c j d c' j' := by
  obtain ⟨R, c1, j1, hR, hx, hl, hcall⟩ := any_rows_at (c := c) (j := j) hm
  have hof := of_rows_at (R := R) (by omega) hx (fun r hr => Nat.le_trans (hl r hr) (by decide))
  have hms := ofRows_6 hm hR hx
  have ht := roll_range (c := c1) (j := j1) (m := m) (by omega)
  generalize hte : rollV c1 j1 m = top at ht
  generalize hc2 : rollC c1 j1 m = c2
  generalize hj2 : rollJ c1 j1 m = j2
  have hf := roll_range (c := c2) (j := j2) (m := 4) (by decide)
  generalize hfe : rollV c2 j2 4 = fac at hf
  generalize hc3 : rollC c2 j2 4 = c3
  generalize hj3 : rollJ c2 j2 4 = j3
  have e1 := fun G (hG : HMeas G) => am_first hG hm hcall hof hte hc2 hj2 hfe hc3 hj3
  by_cases h0 : rollV c3 j3 3 = 0
  · refine ⟨tupI (ofRows R), rollC c3 j3 3, rollJ c3 j3 3, ⟨m, _, rfl, rfl, ofRows_meas hm hR hx⟩, fun G hG => ?_⟩
    refine ⟨0, amE R m top fac (rollC c3 j3 3) (rollJ c3 j3 3) none, ?_, rfl⟩
    unfold b_l_any_measure
    rw [exs_next (e1 G hG)]
    simp [exs_cons, ev_roll0 hG.1, h0, ev_var]
  · refine ⟨tupI (lin (1 + fac) (fac % 2) (cntF m (1 + top)) (ofRows R)), rollC c3 j3 3, rollJ c3 j3 3, ⟨m, _, rfl, rfl, lin_meas (by omega) (by omega) (cnt_meas hm (by omega)) hms⟩, fun G hG => ?_⟩
    have ec1 := am_counts (G := G) hG.2.2.2 (R := R) (m := m) (top := top) (fac := fac) (c := rollC c3 j3 3) (j := rollJ c3 j3 3) (pw_vals hm) hms.1
    have ec2 := am_lin (G := G) (R := R) (m := m) (top := top) (fac := fac) (c := rollC c3 j3 3) (j := rollJ c3 j3 3) hf (cs := cntF m (1 + top))
    refine ⟨0, amE R m top fac (rollC c3 j3 3) (rollJ c3 j3 3) (some (.val (.list ((cntF m (1 + top)).map .int)))), ?_, rfl⟩
    have e2 : ex G 0 (.if_ (.cmp .eq (.call .l_roll [0] (.cons (.int 3) .nil)) (.int 0)) [.ret (.var 2)] []) (amE R m top fac c3 j3 none) = some (.next (amE R m top fac (rollC c3 j3 3) (rollJ c3 j3 3) none)) := by
      simp [ev_roll0 hG.1, h0]
    generalize cntF m (1 + top) = cs at ec1 ec2 ⊢
    generalize lin (1 + fac) (fac % 2) cs (ofRows R) = ws at ec2 ⊢
    have e3 : ex G 0 (.set 5 (.comp (.bi .min2 (.cons (.var 3) (.cons (.bi .len (.cons (.call .l_bits [] (.cons (.var 6) .nil)) .nil)) .nil))) (.name 6) (.range2 (.int 1) (.bin .add (.bi .len (.cons (.var 2) .nil)) (.int 1))) .non)) (amE R m top fac (rollC c3 j3 3) (rollJ c3 j3 3) none) = some (.next (amE R m top fac (rollC c3 j3 3) (rollJ c3 j3 3) (some (.own false (cs.map .int))))) := by
      rw [ex_set, ec1]
      simp [fresh, slotOf, setAt]
    unfold b_l_any_measure
    rw [exs_next (e1 G hG), exs_next e2, exs_next e3]
    refine exs_ret ?_
    rw [ex_ret]
    simp only [ev_bi, evts_cons, evts_nil]
    rw [ec2]
    simp [tupI]
noncomputable def m_any_measure : Sem := semD HMeas b_l_any_measure 9 GoodMeas
theorem any_measure_at {m : Int} (c j : Int) (hm : 1 ≤ m ∧ m ≤ 4) : ∃ vs c' j', IsMs m vs ∧ m_any_measure [dice c j] [.int m] = some (.ok (tupI vs, [dice c' j'])) := by
  obtain ⟨d, c', j', ⟨m', vs, e1, e2, e3⟩, h⟩ := semD_at (any_measure_draws (c := c) (j := j) hm)
  cases e1
  subst e2
  exact ⟨vs, c', j', e3, h⟩
end M
/-! Helpers for the laws over measures. -/
namespace M
open Z Rk
theorem canLay_ints : ∀ ns : List Int, PySem.PyData.canLayAll0 (ns.map .int) = true
  | [] => rfl
  | a :: r => by rw [List.map_cons]; unfold PySem.PyData.canLayAll0; rw [canLay_ints r]; rfl
theorem shaped_tup (ns : List Int) : PySem.SeqAt.shaped (tupI ns) = true := by
  have h1 := canLay_ints ns
  have h2 := depth_ints ns
  unfold PySem.SeqAt.shaped tupI
  rw [Bool.and_eq_true, decide_eq_true_eq]
  exact ⟨by unfold PySem.PyData.canLay0; exact h1, by unfold PySem.PyData.depth; omega⟩
theorem eqvAll_ints : ∀ a b : List Int, PySem.PyData.eqvAll (a.map .int) (b.map .int) = decide (a = b)
  | [], [] => rfl
  | [], _ :: _ => rfl
  | _ :: _, [] => rfl
  | x :: a, y :: b => by
    rw [List.map_cons, List.map_cons]
    unfold PySem.PyData.eqvAll
    rw [eqvAll_ints a b]
    by_cases h : x = y
    · subst h; simp [PySem.PyData.eqv]
    · simp [PySem.PyData.eqv, h]
theorem eqv_tup (a b : List Int) : PySem.PyData.eqv (tupI a) (tupI b) = decide (a = b) := by
  unfold tupI PySem.PyData.eqv
  exact eqvAll_ints a b
theorem ne_tup (a b : List Int) : cmpD .ne (tupI a) (tupI b) = some (!decide (a = b)) := by
  show (if PySem.SeqAt.shaped (tupI a) && PySem.SeqAt.shaped (tupI b) then some (!PySem.PyData.eqv (tupI a) (tupI b)) else none) = _
  rw [shaped_tup, shaped_tup, eqv_tup]
  rfl
theorem eq_tup (a b : List Int) : cmpD .eq (tupI a) (tupI b) = some (decide (a = b)) := by
  show (if PySem.SeqAt.shaped (tupI a) && PySem.SeqAt.shaped (tupI b) then some (PySem.PyData.eqv (tupI a) (tupI b)) else none) = _
  rw [shaped_tup, shaped_tup, eqv_tup]
  rfl
theorem ne_err (c c' : Cls) : cmpD .ne (errD c) (.tuple [.str "error", .str (clsName c')]) = some (!decide (c = c')) := by
  cases c <;> cases c' <;> kernel_rfl
/-! ### measures -/
theorem srcI_pw {m : Int} (hm : 1 ≤ m ∧ m ≤ 4) : srcI (pw m - 1) = m := by rcases one4 hm with rfl | rfl | rfl | rfl <;> decide
theorem rowLen_pw {m : Int} (hm : 1 ≤ m ∧ m ≤ 4) : rowLen (pw m - 1) = true := by rcases one4 hm with rfl | rfl | rfl | rfl <;> decide
theorem firstNeg_none {m : Int} {vs : List Int} (hm : 1 ≤ m ∧ m ≤ 4) (hl : vs.length = pw m - 1) (h : ∀ f ∈ elemI m, 0 ≤ dot f vs) : firstNeg vs = none := by
  unfold firstNeg
  rw [hl, srcI_pw hm, List.findIdx?_eq_none_iff]
  intro f hf
  have := h f hf
  exact decide_eq_false (by omega)
theorem firstNeg_some {m : Int} {vs : List Int} (hm : 1 ≤ m ∧ m ≤ 4) (hl : vs.length = pw m - 1) {f : List Int} (hf : f ∈ elemI m) (h : dot f vs < 0) : (firstNeg vs).isNone = false := by
  unfold firstNeg
  rw [hl, srcI_pw hm]
  cases e : (elemI m).findIdx? (fun f => decide (dot f vs < 0)) with
  | none =>
    rw [List.findIdx?_eq_none_iff] at e
    have := e f hf
    rw [decide_eq_true h] at this
    cases this
  | some k => rfl
theorem isMeas_of {m : Int} {vs : List Int} (hm : 1 ≤ m ∧ m ≤ 4) (hl : vs.length = pw m - 1) (hr : ∀ v ∈ vs, 0 ≤ v ∧ v ≤ 1000000000000) (h : ∀ f ∈ elemI m, 0 ≤ dot f vs) : isMeas (tupI vs) = true := by
  rw [isMeas_tup, isRow_of (by rw [hl]; exact rowLen_pw hm) hr, firstNeg_none hm hl h]
  rfl
theorem IsMs.meas {m : Int} {vs : List Int} (hm : 1 ≤ m ∧ m ≤ 4) (h : IsMs m vs) : isMeas (tupI vs) = true :=
  isMeas_of hm h.len (fun v hv => by have := h.rng v hv; omega) h.el
theorem pw_inj {m n : Int} (hm : 1 ≤ m ∧ m ≤ 4) (hn : 1 ≤ n ∧ n ≤ 4) : pw m - 1 = pw n - 1 ↔ m = n := by
  rcases one4 hm with rfl | rfl | rfl | rfl <;> rcases one4 hn with rfl | rfl | rfl | rfl <;> decide
theorem dot_map (a : Int) : ∀ (f xs : List Int), dot f (xs.map (a * ·)) = a * dot f xs
  | [], xs => by simp [dot_nil]
  | f :: fs, [] => by simp [dot_nil']
  | f :: fs, x :: xs => by
    rw [List.map_cons, dot_cons, dot_cons, dot_map a fs xs, Int.mul_add, ← Int.mul_assoc, ← Int.mul_assoc, Int.mul_comm f a]
theorem dot_zipAdd : ∀ (f xs ys : List Int), xs.length = ys.length → dot f (List.zipWith (· + ·) xs ys) = dot f xs + dot f ys
  | [], xs, ys, _ => by simp [dot_nil]
  | f :: fs, [], [], _ => by simp [dot_nil']
  | f :: fs, x :: xs, y :: ys, h => by
    rw [List.zipWith_cons_cons, dot_cons, dot_cons, dot_cons, dot_zipAdd fs xs ys (by simpa using h), Int.mul_add]
    omega
  | f :: fs, [], _ :: _, h => by simp at h
  | f :: fs, _ :: _, [], h => by simp at h
/-! ### the greatest -/
theorem maxI_le {t : Int} : ∀ {r : List Int} {n : Int}, n ≤ t → (∀ x ∈ r, x ≤ t) → maxI n r ≤ t
  | [], n, h, _ => h
  | x :: r, n, h, hr => by
    unfold maxI
    exact maxI_le (by have := hr x List.mem_cons_self; split <;> omega) fun y hy => hr y (List.mem_cons_of_mem _ hy)
theorem le_maxI : ∀ {r : List Int} {n : Int}, n ≤ maxI n r ∧ ∀ x ∈ r, x ≤ maxI n r
  | [], n => ⟨Int.le_refl _, fun x h => by cases h⟩
  | x :: r, n => by
    unfold maxI
    obtain ⟨h1, h2⟩ := le_maxI (r := r) (n := if n < x then x else n)
    refine ⟨by split at h1 <;> split <;> omega, fun y hy => ?_⟩
    rcases List.mem_cons.mp hy with rfl | hy
    · split at h1 <;> split <;> omega
    · exact h2 y hy
theorem maxI_map {a : Int} (ha : 0 ≤ a) : ∀ {r : List Int} {n : Int}, maxI (a * n) (r.map (a * ·)) = a * maxI n r
  | [], n => rfl
  | x :: r, n => by
    rw [List.map_cons]
    unfold maxI
    rw [← maxI_map ha]
    congr 1
    by_cases h : n < x
    · rw [if_pos h]
      by_cases h0 : a = 0
      · subst h0; simp
      · have : a * n < a * x := Int.mul_lt_mul_of_pos_left h (by omega)
        rw [if_pos this]
    · rw [if_neg h]
      have : ¬ a * n < a * x := by
        have := Int.mul_le_mul_of_nonneg_left (show x ≤ n by omega) ha
        omega
      rw [if_neg this]
def mx (ns : List Int) : Int := match ns with
  | [] => 0
  | n :: r => maxI n r
theorem mx_map {a : Int} (ha : 0 ≤ a) (ns : List Int) : mx (ns.map (a * ·)) = a * mx ns := by
  cases ns with
  | nil => simp [mx]
  | cons n r => exact maxI_map ha
theorem le_mx {ns : List Int} : ∀ x ∈ ns, x ≤ mx ns := by
  cases ns with
  | nil => intro x h; cases h
  | cons n r =>
    intro x h
    rcases List.mem_cons.mp h with rfl | h
    · exact (le_maxI (r := r) (n := x)).1
    · exact (le_maxI (r := r) (n := n)).2 x h
theorem mx_le {ns : List Int} {t : Int} (hne : ns ≠ []) (h : ∀ x ∈ ns, x ≤ t) : mx ns ≤ t := by
  cases ns with
  | nil => exact absurd rfl hne
  | cons n r => exact maxI_le (h n List.mem_cons_self) fun x hx => h x (List.mem_cons_of_mem _ hx)
theorem max_tupI {ns : List Int} (hne : ns ≠ []) : biD .max [tupI ns] = some (.int (mx ns)) := by
  unfold tupI
  rw [bi_max, ints?_ints]
  cases ns with
  | nil => exact absurd rfl hne
  | cons n r => rfl
theorem tooBig_mx {ns : List Int} (hne : ns ≠ []) : tooBig ns = decide (1000000000000 < mx ns) := by
  cases ns with
  | nil => exact absurd rfl hne
  | cons n r => rfl
theorem ne_nil {ns : List Int} {m : Int} (hm : 1 ≤ m ∧ m ≤ 4) (hl : ns.length = pw m - 1) : ns ≠ [] := fun z => by
  have := pw_vals hm
  rw [z] at hl
  simp at hl
  omega
theorem chkI_ok {ns : List Int} (hne : ns ≠ []) (h : ∀ x ∈ ns, x ≤ 1000000000000) : chkI ns = .ok (tupI ns) := by
  unfold chkI
  rw [tooBig_mx hne]
  have := mx_le hne h
  rw [decide_eq_false (by omega)]
  rfl
theorem chkI_err {ns : List Int} (hne : ns ≠ []) (h : 1000000000000 < mx ns) : chkI ns = .error .tooLarge := by
  unfold chkI
  rw [tooBig_mx hne, decide_eq_true h]
  rfl
/-! ### what the program answers -/
theorem plus_at {a b : List Int} (ha : isMeas (tupI a) = true) (hb : isMeas (tupI b) = true) : F_plus (tupI a) (tupI b) = some (if a.length = b.length then chkI (List.zipWith (· + ·) a b) else .error .unlike) := by
  unfold F_plus
  rw [if_pos ha, if_pos hb]
  simp only [tint?_tupI]
theorem times_at {a : List Int} {f : Int} (ha : isMeas (tupI a) = true) (hf : 0 ≤ f ∧ f ≤ 1000) : F_times (tupI a) (.int f) = some (chkI (a.map (f * ·))) := by
  unfold F_times
  rw [if_pos ha, if_pos (by simp [isWhole, hf])]
  simp only [tint?_tupI]
theorem value_at' {a b : List Int} (ha : isRow (tupI a) (-99) 99 = true) (hb : isMeas (tupI b) = true) : F_value (tupI a) (tupI b) = some (if a.length = b.length then .ok (.int (dot a b)) else .error .unlike) := by
  unfold F_value
  rw [if_pos ha, if_pos hb]
  simp only [tint?_tupI]
end M
/-! From the elementary forms to all: a measure grows, and less and less. -/
namespace M
open Z
/-- one source more -/
def cOne (m X i : Nat) : List (List (Int × Int)) :=
  [(((2 ^ m - 1 : Nat) : Int), 1), (((2 ^ m - 1 - 2 ^ i : Nat) : Int), -1)] ::
  (((List.range m).foldl (fun (s : Nat × List (List (Int × Int))) j => if j = i ∨ X.testBit j = true then s else
    (s.1 + 2 ^ j, s.2 ++ [if i < j then [(((s.1 + 2 ^ i : Nat) : Int), 1), (((s.1 + 2 ^ j : Nat) : Int), 1), (((s.1 + 2 ^ i + 2 ^ j : Nat) : Int), -1), ((s.1 : Nat), -1)] else [(((s.1 + 2 ^ j : Nat) : Int), 1), (((s.1 + 2 ^ i : Nat) : Int), 1), (((s.1 + 2 ^ j + 2 ^ i : Nat) : Int), -1), ((s.1 : Nat), -1)]])) (X, [])).2)
/-- several sources more -/
def cMono (m a u : Nat) : List (List (Int × Int)) := ((List.range m).foldl (fun (s : Nat × List (List (Int × Int))) i => if u.testBit i = true ∧ a.testBit i = false then (s.1 + 2 ^ i, s.2 ++ cOne m s.1 i) else s) (a, [])).2
/-- two sets -/
def cSub (m a b : Nat) : List (List (Int × Int)) := ((List.range m).foldl (fun (s : Nat × List (List (Int × Int))) i => if a.testBit i = true ∧ b.testBit i = false then
    (s.1 + 2 ^ i, ((List.range m).foldl (fun (t : Nat × List (List (Int × Int))) j => if b.testBit j = true ∧ a.testBit j = false then
      (t.1 + 2 ^ j, t.2 ++ [if i < j then [(((t.1 + 2 ^ i : Nat) : Int), 1), (((t.1 + 2 ^ j : Nat) : Int), 1), (((t.1 + 2 ^ i + 2 ^ j : Nat) : Int), -1), ((t.1 : Nat), -1)] else [(((t.1 + 2 ^ j : Nat) : Int), 1), (((t.1 + 2 ^ i : Nat) : Int), 1), (((t.1 + 2 ^ j + 2 ^ i : Nat) : Int), -1), ((t.1 : Nat), -1)]]) else t) (s.1, s.2)).2) else s) (a &&& b, [])).2
def addL (x y : List Int) : List Int := List.zipWith (· + ·) x y
def sumF (m : Nat) (L : List (List (Int × Int))) : List Int := L.foldr (fun ps acc => addL ((formL (2 ^ m) ps).drop 1) acc) (List.replicate (2 ^ m - 1) 0)
def chk1 (m a u : Nat) : Bool := !(a &&& u == a) || ((cMono m a u).all (fun ps => (elP m).contains ps) && decide (sumF m (cMono m a u) = (formL (2 ^ m) [((u : Nat), 1), ((a : Nat), -1)]).drop 1))
def chk2 (m a b : Nat) : Bool := (cSub m a b).all (fun ps => (elP m).contains ps) && decide (sumF m (cSub m a b) = (formL (2 ^ m) [((a : Nat), 1), ((b : Nat), 1), (((a ||| b : Nat) : Int), -1), (((a &&& b : Nat) : Int), -1)]).drop 1)
def chkAll (m : Nat) : Bool := (List.range (2 ^ m)).all fun a => (List.range (2 ^ m)).all fun b => chk1 m a b && chk2 m a b
theorem chkAll1 : chkAll 1 = true := by decide +kernel
theorem chkAll2 : chkAll 2 = true := by decide +kernel
theorem chkAll3 : chkAll 3 = true := by decide +kernel
theorem chkAll4 : chkAll 4 = true := by decide +kernel
theorem chk_at {m : Int} (hm : 1 ≤ m ∧ m ≤ 4) : chkAll m.toNat = true := by
  rcases one4 hm with rfl | rfl | rfl | rfl
  · exact chkAll1
  · exact chkAll2
  · exact chkAll3
  · exact chkAll4
theorem dot_addL : ∀ (x y vs : List Int), x.length = y.length → dot (addL x y) vs = dot x vs + dot y vs
  | [], [], vs, _ => by simp [addL, dot_nil]
  | a :: x, b :: y, [], _ => by simp [dot_nil']
  | a :: x, b :: y, v :: vs, h => by
    have ih := dot_addL x y vs (by simpa using h)
    unfold addL at ih ⊢
    rw [List.zipWith_cons_cons, dot_cons, dot_cons, dot_cons, ih, Int.add_mul]
    omega
  | [], _ :: _, _, h => by simp at h
  | _ :: _, [], _, h => by simp at h
theorem sumF_len (m : Nat) : ∀ L : List (List (Int × Int)), (sumF m L).length = 2 ^ m - 1
  | [] => by simp [sumF]
  | ps :: L => by
    show (addL ((formL (2 ^ m) ps).drop 1) (sumF m L)).length = _
    unfold addL
    rw [List.length_zipWith, List.length_drop, formL_len, sumF_len m L]
    omega
theorem sumF_nonneg {m : Int} {vs : List Int} (hm : 1 ≤ m ∧ m ≤ 4) (he : ∀ f ∈ elemI m, 0 ≤ dot f vs) : ∀ L : List (List (Int × Int)), (∀ ps ∈ L, ps ∈ elP m.toNat) → 0 ≤ dot (sumF m.toNat L) vs
  | [], _ => by unfold sumF; rw [List.foldr_nil, dot_zeros]; exact Int.le_refl _
  | ps :: L, h => by
    show 0 ≤ dot (addL ((formL (2 ^ m.toNat) ps).drop 1) (sumF m.toNat L)) vs
    rw [dot_addL _ _ _ (by rw [List.length_drop, formL_len, sumF_len])]
    have h1 := sumF_nonneg hm he L fun q hq => h q (List.mem_cons_of_mem _ hq)
    have h2 := he ((formL (pw m) ps).drop 1) (by rw [elem_parts hm]; exact List.mem_map.mpr ⟨ps, h ps List.mem_cons_self, rfl⟩)
    have h2 : 0 ≤ dot ((formL (2 ^ m.toNat) ps).drop 1) vs := h2
    omega
theorem hv_mono {m : Int} {vs : List Int} (hm : 1 ≤ m ∧ m ≤ 4) (he : ∀ f ∈ elemI m, 0 ≤ dot f vs) {a u : Nat} (ha : a < pw m) (hu : u < pw m) (h : a &&& u = a) : hv vs (a : Nat) ≤ hv vs (u : Nat) := by
  have hc := chk_at hm
  unfold chkAll at hc
  rw [List.all_eq_true] at hc
  have hc := hc a (List.mem_range.mpr ha)
  rw [List.all_eq_true] at hc
  have hc := hc u (List.mem_range.mpr hu)
  rw [Bool.and_eq_true] at hc
  have hc := hc.1
  unfold chk1 at hc
  rw [h] at hc
  simp only [beq_self_eq_true, Bool.not_true, Bool.false_or, Bool.and_eq_true, List.all_eq_true, List.contains_iff_mem, decide_eq_true_eq] at hc
  have h1 := sumF_nonneg hm he _ hc.1
  rw [hc.2, dot_formL (size := 2 ^ m.toNat) (fun p hp => by
    have ha' : a < 2 ^ m.toNat := ha
    have hu' : u < 2 ^ m.toNat := hu
    simp only [List.mem_cons, List.not_mem_nil, or_false] at hp
    rcases hp with rfl | rfl
    · exact ⟨by omega, by omega⟩
    · exact ⟨by omega, by omega⟩) (Nat.one_le_two_pow)] at h1
  simp [pval] at h1
  omega
theorem hv_sub {m : Int} {vs : List Int} (hm : 1 ≤ m ∧ m ≤ 4) (he : ∀ f ∈ elemI m, 0 ≤ dot f vs) {a b : Nat} (ha : a < pw m) (hb : b < pw m) : hv vs ((a ||| b : Nat) : Int) + hv vs ((a &&& b : Nat) : Int) ≤ hv vs (a : Nat) + hv vs (b : Nat) := by
  have hc := chk_at hm
  unfold chkAll at hc
  rw [List.all_eq_true] at hc
  have hc := hc a (List.mem_range.mpr ha)
  rw [List.all_eq_true] at hc
  have hc := hc b (List.mem_range.mpr hb)
  rw [Bool.and_eq_true] at hc
  have hc := hc.2
  unfold chk2 at hc
  simp only [Bool.and_eq_true, List.all_eq_true, List.contains_iff_mem, decide_eq_true_eq] at hc
  have h1 := sumF_nonneg hm he _ hc.1
  have ha' : a < 2 ^ m.toNat := ha
  have hb' : b < 2 ^ m.toNat := hb
  have ho := Nat.or_lt_two_pow ha' hb'
  have hn : a &&& b < 2 ^ m.toNat := Nat.lt_of_le_of_lt Nat.and_le_left ha'
  rw [hc.2, dot_formL (size := 2 ^ m.toNat) (fun p hp => by
    simp only [List.mem_cons, List.not_mem_nil, or_false] at hp
    rcases hp with rfl | rfl | rfl | rfl
    · exact ⟨by omega, by omega⟩
    · exact ⟨by omega, by omega⟩
    · exact ⟨by omega, by omega⟩
    · exact ⟨by omega, by omega⟩) (Nat.one_le_two_pow)] at h1
  simp [pval] at h1
  have e1 : ((a ||| b : Nat) : Int) = ((a ||| b : Nat) : Int) := rfl
  simp
  omega
end M
/-! Mirrors: sets of sources, parts of measures. -/
namespace M
open Z
theorem mir_bits_of {G : Gam} : Mir0 G 2 1 b_bits_of (sem1 F_l_bits) := mir_sem1 fun x r h => by
  unfold F_l_bits at h
  split at h
  · rename_i k
    cases h
    refine runs_ret (fuel := 0) (env := [some (.val (.int k)), none]) ?_
    have hc := ev_comp1 (G := G) (e := .var 1) (i := 1) (it := .range1 (.int 4)) (c := .som (.cmp .eq (.bin .mod (.bin .fdiv (.var 0) (.idx (.glob .powers) (.var 1))) (.int 2)) (.int 1))) (env := [some (.val (.int k)), none]) (items := [.int 0, .int 1, .int 2, .int 3]) (p := bitP k) (f := fun d => d)
      (by simp [range4]) (noOwn_none rfl)
      (fun d hd => by
        simp only [List.mem_cons, List.not_mem_nil, or_false] at hd
        rcases hd with rfl | rfl | rfl | rfl <;> simp [ev_var, globD, idx_tuple, place?, bin_fdivS, bin_mod, bitP])
      (fun d hd _ => by simp [ev_var])
    rw [bits_filter k (bitP k) rfl rfl rfl rfl] at hc
    simp [b_bits_of, exs_cons, env0, hc]
  · cases h
def F_need_set (x y : D) : Ans := match x with
  | .int m => if 0 ≤ m ∧ m ≤ 4 then some (if isWhole y 0 (((pw m : Nat) : Int) - 1) then .ok .none else .error .set) else none
  | _ => none
theorem pow_idx {m : Int} (hm : 0 ≤ m ∧ m ≤ 4) : idxD (globD .powers) (.int m) = some (.int ((pw m : Nat) : Int)) := by
  rcases pow2_cases hm with rfl | rfl | rfl | rfl | rfl <;> rfl
theorem mir_need_set {G : Gam} (h1 : G .is_whole = sem3 F_is_whole) : Mir0 G 2 2 b_need_set (sem2 F_need_set) := mir_sem2 fun x y r h => by
  unfold F_need_set at h
  split at h
  · rename_i m
    split at h
    · rename_i hm
      cases h
      have hp := pow_idx hm
      by_cases hr : isWhole y 0 (((pw m : Nat) : Int) - 1) = true
      · rw [if_pos hr]
        refine runs_next (fuel := 0) (env := [some (.val (.int m)), some (.val y)]) ?_
        simp [b_need_set, exs_cons, env0, ev_var, ev_call, owned, h1, F_is_whole, giveBack, hp, hr]
      · rw [if_neg hr]
        refine runs_err (fuel := 0) (env := [some (.val (.int m)), some (.val y)]) ?_
        simp [b_need_set, exs_cons, env0, ev_var, ev_call, owned, h1, F_is_whole, giveBack, hp, hr]
    · cases h
  · cases h
def F_value_at (x y : D) : Ans := match tint? x, y with
  | some vs, .int n => if n ≤ vs.length then some (.ok (.int (if 0 < n then hv vs n else 0))) else none
  | _, _ => none
theorem hv_pos {vs : List Int} {n : Int} (h0 : 0 < n) (h1 : n ≤ vs.length) : ∃ h : (n - 1).toNat < vs.length, hv vs n = vs[(n - 1).toNat] := by
  have hk : (n - 1).toNat < vs.length := by omega
  refine ⟨hk, ?_⟩
  unfold hv
  have : n.toNat = (n - 1).toNat + 1 := by omega
  rw [this, List.getD_cons_succ, List.getD_eq_getElem?_getD, List.getElem?_eq_getElem hk]
  rfl
theorem mir_value_at {G : Gam} : Mir0 G 2 2 b_value_at (sem2 F_value_at) := mir_sem2 fun x y r h => by
  unfold F_value_at at h
  split at h
  · rename_i vs n hx
    have hx := tint?_eq hx
    subst hx
    split at h
    · rename_i hn
      cases h
      refine runs_ret (fuel := 0) (env := [some (.val (tupI vs)), some (.val (.int n))]) ?_
      by_cases h0 : 0 < n
      · obtain ⟨hk, he⟩ := hv_pos h0 hn
        have hp : place? vs.length (n - 1) = some (n - 1).toNat := place_nat (by omega) (by omega)
        have hidx : idxD (tupI vs) (.int (n - 1)) = some (.int (hv vs n)) := by
          unfold tupI
          rw [idx_tuple, List.length_map, hp, Option.bind_some, List.getElem?_map, List.getElem?_eq_getElem hk, he]
          rfl
        simp [b_value_at, exs_cons, env0, ev_var, h0, hidx]
      · simp [b_value_at, exs_cons, env0, ev_var, h0]
    · cases h
  · cases h
theorem hv_zero (vs : List Int) : hv vs 0 = 0 := rfl
theorem value_at_at {vs : List Int} {n : Int} (h0 : 0 ≤ n) (h1 : n ≤ vs.length) : F_value_at (tupI vs) (.int n) = some (.ok (.int (hv vs n))) := by
  unfold F_value_at
  simp only [tint?_tupI]
  rw [if_pos h1]
  by_cases h : 0 < n
  · rw [if_pos h]
  · have : n = 0 := by omega
    subst this
    rfl
/-! ### sets named anew -/
def renN (a : Nat) (src : List Int) : Nat := ((bitsF (a : Nat)).map fun i => 2 ^ (src.getD i.toNat 0).toNat).sum
def srcOk (n : Int) (src : List Int) : Bool := (bitsF n).all fun i => decide (0 ≤ i) && decide (i < src.length) && decide (0 ≤ src.getD i.toNat 0) && decide (src.getD i.toNat 0 ≤ 3)
def lints? : D → Option (List Int)
  | .list xs => ints? xs
  | _ => none
theorem lints?_eq {d : D} {ns : List Int} (h : lints? d = some ns) : d = .list (ns.map .int) := by
  unfold lints? at h
  split at h
  · rw [ints?_eq h]
  · cases h
def F_renamed (x y : D) : Ans := match x, lints? y with
  | .int n, some src => if 0 ≤ n ∧ srcOk n src = true then some (.ok (.int ((renN n.toNat src : Nat) : Int))) else none
  | _, _ => none
theorem cast_sum : ∀ l : List Nat, ((l.sum : Nat) : Int) = (l.map fun (x : Nat) => ((x : Nat) : Int)).sum
  | [] => rfl
  | a :: l => by rw [List.sum_cons, List.map_cons, List.sum_cons, ← cast_sum l]; omega
theorem ren_sum {n : Int} {src : List Int} (h0 : 0 ≤ n) (hs : srcOk n src = true) : ((bitsF n).map fun i => ((2 ^ (src.getD i.toNat 0).toNat : Nat) : Int)).sum = ((renN n.toNat src : Nat) : Int) := by
  unfold renN
  rw [cast_sum, List.map_map, Int.toNat_of_nonneg h0]
  rfl
theorem src_at {n : Int} {src : List Int} (hs : srcOk n src = true) {i : Int} (hi : i ∈ bitsF n) : idxD (.list (src.map .int)) (.int i) = some (.int (src.getD i.toNat 0)) ∧ 0 ≤ src.getD i.toNat 0 ∧ src.getD i.toNat 0 ≤ 3 := by
  have := List.all_eq_true.mp hs i hi
  simp only [Bool.and_eq_true, decide_eq_true_eq] at this
  obtain ⟨⟨⟨h1, h2⟩, h3⟩, h4⟩ := this
  refine ⟨?_, h3, h4⟩
  have hk : i.toNat < src.length := by omega
  rw [idx_list, List.length_map, place_nat h1 (by omega), Option.bind_some, List.getElem?_map, List.getElem?_eq_getElem hk, List.getD_eq_getElem?_getD, List.getElem?_eq_getElem hk]
  rfl
theorem pow_idx3 {v : Int} (h : 0 ≤ v ∧ v ≤ 3) : idxD (globD .powers) (.int v) = some (.int ((2 ^ v.toNat : Nat) : Int)) ∧ idxD (.list [.int 1, .int 2, .int 4, .int 8]) (.int v) = some (.int ((2 ^ v.toNat : Nat) : Int)) := by
  have : v = 0 ∨ v = 1 ∨ v = 2 ∨ v = 3 := by omega
  rcases this with rfl | rfl | rfl | rfl <;> exact ⟨rfl, rfl⟩
theorem mir_renamed {G : Gam} (h1 : G .bits_of = sem1 F_l_bits) : Mir0 G 3 2 b_renamed (sem2 F_renamed) := mir_sem2 fun x y r h => by
  unfold F_renamed at h
  split at h
  · rename_i n src hy
    have hy := lints?_eq hy
    subst hy
    split at h
    · rename_i hc
      cases h
      refine runs_ret (fuel := 0) (env := [some (.val (.int n)), some (.val (.list (src.map .int))), none]) ?_
      have ec := ev_comp1n (G := G) (e := .idx (.glob .powers) (.idx (.var 1) (.var 2))) (i := 2) (it := .of (.call .bits_of [] (.cons (.var 0) .nil))) (env := [some (.val (.int n)), some (.val (.list (src.map .int))), none]) (items := (bitsF n).map .int) (f := fun d => match d with | .int i => .int ((2 ^ (src.getD i.toNat 0).toNat : Nat) : Int) | _ => .none) (by simp [ev_var, ev_call, owned, h1, F_l_bits, giveBack]) (noOwn_none rfl) (fun d hd => by
        obtain ⟨i, hi, rfl⟩ := List.mem_map.mp hd
        obtain ⟨e1, e2, e3⟩ := src_at hc.2 hi
        have e4 := (pow_idx3 ⟨e2, e3⟩).1
        show frz _ = some (.ok (.int ((2 ^ (src.getD i.toNat 0).toNat : Nat) : Int)) _)
        generalize src.getD i.toNat 0 = v at e1 e2 e3 e4 ⊢
        generalize ((2 ^ v.toNat : Nat) : Int) = w at e4 ⊢
        simp [ev_var, e1, e4])
      rw [List.map_map] at ec
      have e2 : ((bitsF n).map ((fun d : D => match d with | .int i => (.int ((2 ^ (src.getD i.toNat 0).toNat : Nat) : Int) : D) | _ => .none) ∘ PySem.PyData.int)) = ((bitsF n).map fun i => ((2 ^ (src.getD i.toNat 0).toNat : Nat) : Int)).map .int := by rw [List.map_map]; rfl
      rw [e2] at ec
      have hsum := ren_sum hc.1 hc.2
      generalize ((bitsF n).map fun i => ((2 ^ (src.getD i.toNat 0).toNat : Nat) : Int)) = ws at ec hsum
      simp [b_renamed, exs_cons, env0, ec, hsum]
    · cases h
  · cases h
theorem mir_l_renamed {G : Gam} (h1 : G .l_bits = sem1 F_l_bits) : Mir0 G 3 2 b_l_renamed (sem2 F_renamed) := mir_sem2 fun x y r h => by
  unfold F_renamed at h
  split at h
  · rename_i n src hy
    have hy := lints?_eq hy
    subst hy
    split at h
    · rename_i hc
      cases h
      refine runs_ret (fuel := 0) (env := [some (.val (.int n)), some (.val (.list (src.map .int))), none]) ?_
      have ec := ev_comp1n (G := G) (e := .idx (.lst (.cons (.int 1) (.cons (.int 2) (.cons (.int 4) (.cons (.int 8) .nil))))) (.idx (.var 1) (.var 2))) (i := 2) (it := .of (.call .l_bits [] (.cons (.var 0) .nil))) (env := [some (.val (.int n)), some (.val (.list (src.map .int))), none]) (items := (bitsF n).map .int) (f := fun d => match d with | .int i => .int ((2 ^ (src.getD i.toNat 0).toNat : Nat) : Int) | _ => .none) (by simp [ev_var, ev_call, owned, h1, F_l_bits, giveBack]) (noOwn_none rfl) (fun d hd => by
        obtain ⟨i, hi, rfl⟩ := List.mem_map.mp hd
        obtain ⟨e1, e2, e3⟩ := src_at hc.2 hi
        have e4 := (pow_idx3 ⟨e2, e3⟩).2
        show frz _ = some (.ok (.int ((2 ^ (src.getD i.toNat 0).toNat : Nat) : Int)) _)
        generalize src.getD i.toNat 0 = v at e1 e2 e3 e4 ⊢
        generalize ((2 ^ v.toNat : Nat) : Int) = w at e4 ⊢
        simp [ev_var, e1, e4])
      rw [List.map_map] at ec
      have e2 : ((bitsF n).map ((fun d : D => match d with | .int i => (.int ((2 ^ (src.getD i.toNat 0).toNat : Nat) : Int) : D) | _ => .none) ∘ PySem.PyData.int)) = ((bitsF n).map fun i => ((2 ^ (src.getD i.toNat 0).toNat : Nat) : Int)).map .int := by rw [List.map_map]; rfl
      rw [e2] at ec
      have hsum := ren_sum hc.1 hc.2
      generalize ((bitsF n).map fun i => ((2 ^ (src.getD i.toNat 0).toNat : Nat) : Int)) = ws at ec hsum
      simp [b_l_renamed, exs_cons, env0, ec, hsum]
    · cases h
  · cases h
/-! ### parts of a measure -/
/-- the values of the sets T 1, T 2, .., less that of T 0 -/
def subL (vs : List Int) (len : Nat) (T : Nat → Nat) : List Int := (List.range (2 ^ len - 1)).map fun k => hv vs ((T (k + 1) : Nat) : Int) - hv vs ((T 0 : Nat) : Int)
/-- a way of naming sets of len sources as sets of m sources -/
structure Emb (m : Int) (len : Nat) (T : Nat → Nat) : Prop where
  lt : ∀ a, a < 2 ^ len → T a < pw m
  or_ : ∀ a b, a < 2 ^ len → b < 2 ^ len → T (a ||| b) = T a ||| T b
  and_ : ∀ a b, a < 2 ^ len → b < 2 ^ len → T (a &&& b) = T a &&& T b
def embB (m : Int) (len : Nat) (T : Nat → Nat) : Bool := (List.range (2 ^ len)).all fun a => decide (T a < pw m) && (List.range (2 ^ len)).all fun b => decide (T (a ||| b) = T a ||| T b) && decide (T (a &&& b) = T a &&& T b)
theorem embB_ok {m : Int} {len : Nat} {T : Nat → Nat} (h : embB m len T = true) : Emb m len T := by
  unfold embB at h
  simp only [List.all_eq_true, Bool.and_eq_true, decide_eq_true_eq, List.mem_range] at h
  exact ⟨fun a ha => (h a ha).1, fun a b ha hb => ((h a ha).2 b hb).1, fun a b ha hb => ((h a ha).2 b hb).2⟩
theorem hv_range {vs : List Int} {B : Int} (hB : 0 ≤ B) (h : ∀ v ∈ vs, 0 ≤ v ∧ v ≤ B) (n : Int) : 0 ≤ hv vs n ∧ hv vs n ≤ B := by
  unfold hv
  rw [List.getD_eq_getElem?_getD]
  cases e : (0 :: vs)[n.toNat]? with
  | none => exact ⟨Int.le_refl _, hB⟩
  | some x =>
    have := List.mem_of_getElem? e
    rcases List.mem_cons.mp this with rfl | hx
    · exact ⟨Int.le_refl _, hB⟩
    · exact h x hx
def okN (ps : List (Int × Int)) : Bool := match ps with
  | [(u, 1), (a, -1)] => decide (0 ≤ a) && decide (0 ≤ u) && decide (a.toNat &&& u.toNat = a.toNat)
  | [(a, 1), (b, 1), (u, -1), (k, -1)] => decide (0 ≤ a) && decide (0 ≤ b) && decide (u = ((a.toNat ||| b.toNat : Nat) : Int)) && decide (k = ((a.toNat &&& b.toNat : Nat) : Int))
  | _ => false
theorem elP_okN {m : Int} (hm : 1 ≤ m ∧ m ≤ 4) : ∀ ps ∈ elP m.toNat, okN ps = true := by
  rcases one4 hm with rfl | rfl | rfl | rfl <;> decide +kernel
theorem polyN_elem {m : Int} {vs : List Int} (hm : 1 ≤ m ∧ m ≤ 4) (mono : ∀ a u : Nat, a < pw m → u < pw m → a &&& u = a → hv vs (a : Nat) ≤ hv vs (u : Nat)) (sub : ∀ a b : Nat, a < pw m → b < pw m → hv vs ((a ||| b : Nat) : Int) + hv vs ((a &&& b : Nat) : Int) ≤ hv vs (a : Nat) + hv vs (b : Nat)) : ∀ f ∈ elemI m, 0 ≤ dot f vs := by
  intro f hf
  rw [elem_parts hm] at hf
  obtain ⟨ps, hps, rfl⟩ := List.mem_map.mp hf
  have hr := elP_range hm ps hps
  have hok := elP_okN hm ps hps
  rw [dot_formL hr (by rcases one4 hm with rfl | rfl | rfl | rfl <;> decide)]
  unfold okN at hok
  split at hok
  · rename_i u a
    have r1 := hr (u, 1) (by simp)
    have r2 := hr (a, -1) (by simp)
    simp only [Bool.and_eq_true, decide_eq_true_eq] at hok
    obtain ⟨⟨h0, h1⟩, h2⟩ := hok
    have := mono a.toNat u.toNat (by omega) (by omega) h2
    rw [Int.toNat_of_nonneg h0, Int.toNat_of_nonneg h1] at this
    simp [pval]
    omega
  · rename_i a b u k
    have r1 := hr (a, 1) (by simp)
    have r2 := hr (b, 1) (by simp)
    simp only [Bool.and_eq_true, decide_eq_true_eq] at hok
    obtain ⟨⟨⟨h0, h1⟩, h2⟩, h3⟩ := hok
    have := sub a.toNat b.toNat (by omega) (by omega)
    rw [Int.toNat_of_nonneg h0, Int.toNat_of_nonneg h1, ← h2, ← h3] at this
    simp [pval]
    omega
  · cases hok
theorem subL_hv {vs : List Int} {len : Nat} {T : Nat → Nat} {n : Nat} (h : n < 2 ^ len) : hv (subL vs len T) (n : Nat) = hv vs ((T n : Nat) : Int) - hv vs ((T 0 : Nat) : Int) := by
  unfold hv
  have e : ((n : Nat) : Int).toNat = n := by omega
  rw [e]
  cases n with
  | zero => simp
  | succ k =>
    have hk : k < 2 ^ len - 1 := by omega
    rw [List.getD_cons_succ, List.getD_eq_getElem?_getD]
    unfold subL
    rw [List.getElem?_map, List.getElem?_range hk]
    rfl
theorem subL_len (vs : List Int) (len : Nat) (T : Nat → Nat) : (subL vs len T).length = 2 ^ len - 1 := by unfold subL; rw [List.length_map, List.length_range]
theorem sub_meas {m m' : Int} {vs : List Int} {len : Nat} {T : Nat → Nat} (hm : 1 ≤ m ∧ m ≤ 4) (hm' : 1 ≤ m' ∧ m' ≤ 4) (hlen : (len : Int) = m') (E : Emb m len T) (hr : ∀ v ∈ vs, 0 ≤ v ∧ v ≤ 1000000000000) (he : ∀ f ∈ elemI m, 0 ≤ dot f vs) : (subL vs len T).length = pw m' - 1 ∧ (∀ v ∈ subL vs len T, 0 ≤ v ∧ v ≤ 1000000000000) ∧ ∀ f ∈ elemI m', 0 ≤ dot f (subL vs len T) := by
  have hp := pw_len hm' hlen
  have mono : ∀ a u : Nat, a < 2 ^ len → u < 2 ^ len → a &&& u = a → hv vs ((T a : Nat) : Int) ≤ hv vs ((T u : Nat) : Int) := fun a u ha hu h =>
    hv_mono hm he (E.lt a ha) (E.lt u hu) (by rw [← E.and_ a u ha hu, h])
  have hpos : 0 < 2 ^ len := Nat.two_pow_pos len
  refine ⟨by rw [subL_len, hp], fun v hv => ?_, polyN_elem hm' (fun a u ha hu h => ?_) (fun a b ha hb => ?_)⟩
  · unfold subL at hv
    obtain ⟨k, hk, rfl⟩ := List.mem_map.mp hv
    have hk := List.mem_range.mp hk
    have h1 := mono 0 (k + 1) hpos (by omega) (by simp)
    have h2 := hv_range (by decide) hr ((T (k + 1) : Nat) : Int)
    have h3 := hv_range (by decide) hr ((T 0 : Nat) : Int)
    omega
  · rw [← hp] at ha hu
    rw [subL_hv ha, subL_hv hu]
    have := mono a u ha hu h
    omega
  · rw [← hp] at ha hb
    rw [subL_hv ha, subL_hv hb, subL_hv (Nat.or_lt_two_pow ha hb), subL_hv (Nat.lt_of_le_of_lt Nat.and_le_left ha), E.or_ a b ha hb, E.and_ a b ha hb]
    have := hv_sub hm he (E.lt a ha) (E.lt b hb)
    omega
end M
/-! Mirrors: kept and conditioned measures. -/
namespace M
open Z
/-- a comprehension whose element gives a list away the first time -/
theorem ev_comp1f {G : Gam} {e : E} {i : Nat} {it : It} {env0 X Y : Env} {items : List D} {f : D → D} (hit : evIt G it env0 = some (.ok items X)) (hX : noOwn X i) (hY : Y[i]? = X[i]?) (hl : Y.length = X.length) (hne : items ≠ [])
    (h1 : ∀ d ∈ items, frz (ev G e (X.set i (some (.val d)))) = some (.ok (f d) (Y.set i (some (.val d)))))
    (h2 : ∀ d ∈ items, frz (ev G e (Y.set i (some (.val d)))) = some (.ok (f d) (Y.set i (some (.val d))))) :
    ev G (.comp e (.name i) it .non) env0 = some (.ok (.imm (.list (items.map f))) Y) := by
  have step : ∀ (Z : Env) (d : D), Z.length = X.length → ∀ env1 : Env, env1.set i none = Z.set i none → asg (.name i) d (wipeE env1 (Tg.name i).slots) = some (Z.set i (some (.val d))) := fun Z d hz env1 h => by
    show asg (.name i) d (env1.set i none) = _
    unfold asg
    rw [h, if_pos (by rw [List.length_set, hz]; exact hX.1), List.set_set]
  have rest : ∀ (l : List D), (∀ d ∈ l, d ∈ items) → ∀ env1 : Env, env1.set i none = Y.set i none → ∃ env2, env2.set i none = Y.set i none ∧
      compL (fun d env => match asg (.name i) d (wipeE env (Tg.name i).slots) with
        | none => none
        | some env2 => bnd (evo G .non env2) fun k env3 => if k then bnd (frz (ev G e env3)) fun x env4 => some (.ok (some x) env4) else some (.ok none env3)) l env1 = some (.ok (l.map f) env2) := by
    intro l
    induction l with
    | nil => intro _ env1 h; exact ⟨env1, h, rfl⟩
    | cons d l ih =>
      intro hl' env1 h
      obtain ⟨env2, g1, g2⟩ := ih (fun d' h' => hl' d' (List.mem_cons_of_mem _ h')) (Y.set i (some (.val d))) (by rw [List.set_set])
      refine ⟨env2, g1, ?_⟩
      unfold compL
      simp only [step Y d hl env1 h]
      rw [evo_non, bnd_ok, if_pos rfl, h2 d (hl' d List.mem_cons_self), bnd_ok, bnd_ok, g2]
      rfl
  cases items with
  | nil => exact absurd rfl hne
  | cons d l =>
    obtain ⟨env2, g1, g2⟩ := rest l (fun d' h' => List.mem_cons_of_mem _ h') (Y.set i (some (.val d))) (by rw [List.set_set])
    unfold ev
    rw [hit, bnd_ok]
    have g3 : compL (fun d env => match asg (.name i) d (wipeE env (Tg.name i).slots) with
        | none => none
        | some env2 => bnd (evo G .non env2) fun k env3 => if k then bnd (frz (ev G e env3)) fun x env4 => some (.ok (some x) env4) else some (.ok none env3)) (d :: l) X = some (.ok ((d :: l).map f) env2) := by
      unfold compL
      simp only [step X d rfl X rfl]
      rw [evo_non, bnd_ok, if_pos rfl, h1 d List.mem_cons_self, bnd_ok, bnd_ok, g2]
      rfl
    refine (congrArg (fun r => bnd (noErr r) fun xs env2 => some (Out.ok (TV.imm (PySem.PyData.list xs)) (back X env2 [i]))) g3).trans ?_
    show some (Out.ok (TV.imm (.list _)) (back X env2 [i])) = _
    have hb : back X env2 [i] = Y := by
      have := back1 (env := Y) (env2 := env2) ⟨by rw [hl]; exact hX.1, fun k xs z => hX.2 k xs (by rw [hY] at z; exact z)⟩ g1
      unfold back at this ⊢
      rw [hY] at this
      exact this
    rw [hb]
theorem renamed_at {n : Int} {src : List Int} (h0 : 0 ≤ n) (hs : srcOk n src = true) : F_renamed (.int n) (.list (src.map .int)) = some (.ok (.int ((renN n.toNat src : Nat) : Int))) := by
  have : lints? (.list (src.map .int)) = some src := ints?_ints _
  unfold F_renamed
  rw [this]
  exact if_pos ⟨h0, hs⟩
theorem tuple_of (ws : List Int) : biD .tuple [.list (ws.map .int)] = some (tupI ws) := rfl
/-! ### kept -/
def keptL (vs : List Int) (n : Int) : List Int := subL vs (bitsF n).length fun a => renN a (bitsF n)
def keepB (m : Int) : Bool := (List.range (pw m)).all fun n => embB m (bitsF (n : Nat)).length (fun a => renN a (bitsF (n : Nat))) && (List.range (2 ^ (bitsF (n : Nat)).length)).all fun a => srcOk (a : Nat) (bitsF (n : Nat))
theorem keep_ok {m : Int} (hm : 1 ≤ m ∧ m ≤ 4) : keepB m = true := by rcases one4 hm with rfl | rfl | rfl | rfl <;> decide +kernel
theorem keep_at {m n : Int} (hm : 1 ≤ m ∧ m ≤ 4) (h0 : 0 ≤ n) (h1 : n < ((pw m : Nat) : Int)) : Emb m (bitsF n).length (fun a => renN a (bitsF n)) ∧ ∀ a : Nat, a < 2 ^ (bitsF n).length → srcOk (a : Nat) (bitsF n) = true := by
  have h := keep_ok hm
  unfold keepB at h
  rw [List.all_eq_true] at h
  have h := h n.toNat (List.mem_range.mpr (by omega))
  rw [Int.toNat_of_nonneg h0, Bool.and_eq_true, List.all_eq_true] at h
  exact ⟨embB_ok h.1, fun a ha => h.2 a (List.mem_range.mpr ha)⟩
theorem renN_zero (src : List Int) : renN 0 src = 0 := rfl
def F_kept (x y : D) : Ans := if isMeas x then (match tint? x with
  | some vs => some (if isWhole y 0 (((pw (srcI vs.length) : Nat) : Int) - 1) then (match y with
    | .int n => if n = 0 then .error .set else .ok (tupI (keptL vs n))
    | _ => .error .set) else .error .set)
  | none => none) else some (.error .measure)
theorem src_of_at {vs : List Int} (h : rowLen vs.length = true) : F_sources_of (tupI vs) = some (.ok (.int (srcI vs.length))) := by
  show ((srcN (vs.map PySem.PyData.int).length).map fun i => (.ok (.int i) : Except Cls D)) = _
  rw [List.length_map, (srcI_ok h).1]
  rfl
theorem range_pow {len : Nat} (h : len ≤ 4) : rangeD 1 ((2 ^ len : Nat) : Int) = some ((List.range (2 ^ len - 1)).map fun (k : Nat) => .int (1 + (k : Int))) := by
  have hp : 2 ^ len ≤ 16 := Nat.pow_le_pow_right (n := 2) (by decide) h
  have hq := Nat.two_pow_pos len
  rw [range_ok (by omega)]
  congr 2
  congr 1
  omega
theorem pow_idxN {len : Nat} (h : len ≤ 4) : idxD (globD .powers) (.int (len : Nat)) = some (.int ((2 ^ len : Nat) : Int)) := by
  have : len = 0 ∨ len = 1 ∨ len = 2 ∨ len = 3 ∨ len = 4 := by omega
  rcases this with rfl | rfl | rfl | rfl | rfl <;> rfl
theorem mir_kept {G : Gam} (h1 : G .need_measure = sem1 F_need_measure) (h2 : G .need_set = sem2 F_need_set) (h3 : G .sources_of = sem1 F_sources_of) (h4 : G .bits_of = sem1 F_l_bits) (h5 : G .value_at = sem2 F_value_at) (h6 : G .renamed = sem2 F_renamed) : Mir0 G 4 2 b_kept (sem2 F_kept) := mir_sem2 fun x y r h => by
  unfold F_kept at h
  split at h
  · rename_i hx
    obtain ⟨vs, rfl, v1, v2, v3⟩ := isMeas_row hx
    simp only [tint?_tupI] at h
    cases h
    have hso := src_of_at v1
    obtain ⟨_, s2, s3, s4⟩ := srcI_ok v1
    generalize hme : srcI vs.length = m at s2 s3 s4 hso
    have hns : F_need_set (.int m) y = some (if isWhole y 0 (((pw m : Nat) : Int) - 1) then .ok .none else .error .set) := if_pos ⟨by omega, s3⟩
    by_cases hy : isWhole y 0 (((pw m : Nat) : Int) - 1) = true
    · rw [if_pos hy]
      rw [if_pos hy] at hns
      obtain ⟨n, rfl, n0, n1⟩ := isWhole_int hy
      show Runs G 4 b_kept [tupI vs, .int n] (if n = 0 then .error .set else .ok (tupI (keptL vs n)))
      by_cases hn : n = 0
      · rw [if_pos hn]
        refine runs_err (fuel := 0) (env := [some (.val (tupI vs)), some (.val (.int n)), none, none]) ?_
        simp [b_kept, exs_cons, env0, List.replicate, ev_var, ev_call, owned, h1, h2, h3, F_need_measure, hx, hso, hns, giveBack, hn]
        subst hn
        simp [hns, giveBack]
      · rw [if_neg hn]
        obtain ⟨hE, hS⟩ := keep_at (m := m) ⟨s2, s3⟩ n0 (by omega)
        have hl4 := bits_len n
        have ec := ev_comp1n (G := G) (e := .call .value_at [] (.cons (.var 0) (.cons (.call .renamed [] (.cons (.var 3) (.cons (.var 2) .nil))) .nil))) (i := 3) (it := .range2 (.int 1) (.idx (.glob .powers) (.bi .len (.cons (.var 2) .nil)))) (env := [some (.val (tupI vs)), some (.val (.int n)), some (.val (.list ((bitsF n).map .int))), none]) (items := (List.range (2 ^ (bitsF n).length - 1)).map fun (k : Nat) => .int (1 + (k : Int))) (f := fun d => match d with | .int a => .int (hv vs ((renN a.toNat (bitsF n) : Nat) : Int)) | _ => .none) (evIt_r2 (ev_int 1) (by simp [ev_var, pow_idxN hl4]) (range_pow hl4)) (noOwn_none rfl) (fun d hd => by
          obtain ⟨k, hk, rfl⟩ := List.mem_map.mp hd
          have hk := List.mem_range.mp hk
          have hlt : k + 1 < 2 ^ (bitsF n).length := by omega
          have hren : F_renamed (.int (1 + (k : Int))) (.list ((bitsF n).map .int)) = some (.ok (.int ((renN (1 + (k : Int)).toNat (bitsF n) : Nat) : Int))) := by
            have hs := hS (k + 1) hlt
            have e : (1 : Int) + (k : Int) = ((k + 1 : Nat) : Int) := by omega
            rw [e]
            exact renamed_at (by omega) hs
          have hT := hE.lt (k + 1) hlt
          have e1 : (1 + (k : Int)).toNat = k + 1 := by omega
          have hva := value_at_at (vs := vs) (n := ((renN (1 + (k : Int)).toNat (bitsF n) : Nat) : Int)) (by omega) (by rw [e1]; rw [← s4]; show ((renN (k + 1) (bitsF n) : Nat) : Int) ≤ _; have : renN (k + 1) (bitsF n) < pw m := hT; omega)
          show frz _ = some (.ok (.int (hv vs ((renN (1 + (k : Int)).toNat (bitsF n) : Nat) : Int))) _)
          generalize ((renN (1 + (k : Int)).toNat (bitsF n) : Nat) : Int) = w at hren hva ⊢
          simp [ev_var, ev_call, owned, h5, h6, hren, hva, giveBack])
        rw [List.map_map] at ec
        have e2 : ((List.range (2 ^ (bitsF n).length - 1)).map ((fun d : D => match d with | .int a => (.int (hv vs ((renN a.toNat (bitsF n) : Nat) : Int)) : D) | _ => .none) ∘ fun (k : Nat) => (.int (1 + (k : Int)) : D))) = (keptL vs n).map .int := by
          unfold keptL subL
          rw [List.map_map]
          refine List.map_congr_left fun k hk => ?_
          show PySem.PyData.int (hv vs ((renN (1 + (k : Int)).toNat (bitsF n) : Nat) : Int)) = .int (hv vs ((renN (k + 1) (bitsF n) : Nat) : Int) - hv vs ((renN 0 (bitsF n) : Nat) : Int))
          have e1 : (1 + (k : Int)).toNat = k + 1 := by omega
          rw [e1, renN_zero]
          congr 1
          have : hv vs ((0 : Nat) : Int) = 0 := rfl
          omega
        rw [e2] at ec
        generalize keptL vs n = ws at ec
        refine runs_ret (fuel := 0) (env := [some (.val (tupI vs)), some (.val (.int n)), some (.val (.list ((bitsF n).map .int))), none]) ?_
        simp [b_kept, exs_cons, env0, List.replicate, ev_var, ev_call, owned, h1, h2, h3, h4, F_need_measure, F_l_bits, hx, hso, hns, giveBack, hn, fresh, slotOf, setAt, ec, tuple_of, -bi_tupleL]
    · rw [if_neg hy]
      rw [if_neg hy] at hns
      refine runs_err (fuel := 0) (env := [some (.val (tupI vs)), some (.val y), none, none]) ?_
      simp [b_kept, exs_cons, env0, List.replicate, ev_var, ev_call, owned, h1, h2, h3, F_need_measure, hx, hso, hns, giveBack]
  · rename_i hx
    cases h
    refine runs_err (fuel := 0) (env := [some (.val x), some (.val y), none, none]) ?_
    simp [b_kept, exs_cons, env0, List.replicate, ev_var, ev_call, owned, h1, F_need_measure, hx]
end M
/-! Mirrors: conditioned measures. -/
namespace M
open Z
def restF (m n : Int) : List Int := ((List.range m.toNat).map fun (i : Nat) => ((i : Nat) : Int)).filter fun i => !(bitsF n).contains i
def restP (n : Int) (d : D) : Bool := match d with
  | .int i => !(bitsF n).contains i
  | _ => false
def condT (m n : Int) (a : Nat) : Nat := renN a (restF m n) + n.toNat
def condL (vs : List Int) (m n : Int) : List Int := subL vs (restF m n).length (condT m n)
def condB (m : Int) : Bool := (List.range (pw m)).all fun n => embB m (restF m (n : Nat)).length (condT m (n : Nat)) && ((List.range (2 ^ (restF m (n : Nat)).length)).all fun a => srcOk (a : Nat) (restF m (n : Nat))) && decide ((restF m (n : Nat)).length ≤ 4) && (decide (n = pw m - 1) || (decide (1 ≤ (restF m (n : Nat)).length) && decide (condT m (n : Nat) (2 ^ (restF m (n : Nat)).length - 1) = pw m - 1)))
theorem cond_ok {m : Int} (hm : 1 ≤ m ∧ m ≤ 4) : condB m = true := by rcases one4 hm with rfl | rfl | rfl | rfl <;> decide +kernel
theorem cond_at {m n : Int} (hm : 1 ≤ m ∧ m ≤ 4) (h0 : 0 ≤ n) (h1 : n < ((pw m : Nat) : Int)) : Emb m (restF m n).length (condT m n) ∧ (∀ a : Nat, a < 2 ^ (restF m n).length → srcOk (a : Nat) (restF m n) = true) ∧ (restF m n).length ≤ 4 ∧ (n ≠ ((pw m : Nat) : Int) - 1 → 1 ≤ (restF m n).length ∧ condT m n (2 ^ (restF m n).length - 1) = pw m - 1) := by
  have h := cond_ok hm
  unfold condB at h
  rw [List.all_eq_true] at h
  have h := h n.toNat (List.mem_range.mpr (by omega))
  rw [Int.toNat_of_nonneg h0, Bool.and_eq_true, Bool.and_eq_true, Bool.and_eq_true, List.all_eq_true, decide_eq_true_eq] at h
  refine ⟨embB_ok h.1.1.1, fun a ha => h.1.1.2 a (List.mem_range.mpr ha), h.1.2, fun hn => ?_⟩
  have h2 := h.2
  rw [Bool.or_eq_true, decide_eq_true_eq] at h2
  rcases h2 with h2 | h2
  · exfalso
    have := pw_vals hm
    omega
  · simpa using h2
theorem condT_zero {m n : Int} : condT m n 0 = n.toNat := by unfold condT; rw [renN_zero]; omega
def F_conditioned (x y : D) : Ans := if isMeas x then (match tint? x with
  | some vs => some (if isWhole y 0 (((pw (srcI vs.length) : Nat) : Int) - 1) then (match y with
    | .int n => if n = ((pw (srcI vs.length) : Nat) : Int) - 1 then .error .set else .ok (tupI (condL vs (srcI vs.length) n))
    | _ => .error .set) else .error .set)
  | none => none) else some (.error .measure)
theorem mem_ints {ns : List Int} {i : Int} : ((ns.map PySem.PyData.int).any fun y => PySem.PyData.eqv y (.int i)) = ns.contains i := by
  rw [List.any_map, List.contains_eq_any_beq]
  congr 1
  funext x
  show PySem.PyData.eqv (.int x) (.int i) = (i == x)
  unfold PySem.PyData.eqv
  exact BEq.comm
theorem flat_ints (ns : List Int) : (ns.map PySem.PyData.int).all flat = true := by rw [List.all_map, List.all_eq_true]; intro x _; rfl
theorem nmem_ints {ns : List Int} {i : Int} : cmpD .nmem (.int i) (.list (ns.map .int)) = some (!ns.contains i) := by
  rw [cmp_nmem (by rw [flat_ints]; rfl), mem_ints]
theorem mem_ints' {ns : List Int} {i : Int} : cmpD .mem (.int i) (.list (ns.map .int)) = some (ns.contains i) := by
  rw [cmp_mem (by rw [flat_ints]; rfl), mem_ints]
theorem mir_conditioned {G : Gam} (h1 : G .need_measure = sem1 F_need_measure) (h2 : G .sources_of = sem1 F_sources_of) (h3 : G .need_set = sem2 F_need_set) (h4 : G .bits_of = sem1 F_l_bits) (h5 : G .value_at = sem2 F_value_at) (h6 : G .renamed = sem2 F_renamed) : Mir0 G 8 2 b_conditioned (sem2 F_conditioned) := mir_sem2 fun x y r h => by
  unfold F_conditioned at h
  split at h
  · rename_i hx
    obtain ⟨vs, rfl, v1, v2, v3⟩ := isMeas_row hx
    simp only [tint?_tupI] at h
    cases h
    have hso := src_of_at v1
    obtain ⟨_, s2, s3, s4⟩ := srcI_ok v1
    generalize hme : srcI vs.length = m at s2 s3 s4 hso ⊢
    have hpw := pw_vals ⟨s2, s3⟩
    have hns : F_need_set (.int m) y = some (if isWhole y 0 (((pw m : Nat) : Int) - 1) then .ok .none else .error .set) := if_pos ⟨by omega, s3⟩
    have hpi := pow_idx (m := m) (by omega)
    by_cases hy : isWhole y 0 (((pw m : Nat) : Int) - 1) = true
    · rw [if_pos hy]
      rw [if_pos hy] at hns
      obtain ⟨n, rfl, n0, n1⟩ := isWhole_int hy
      show Runs G 8 b_conditioned [tupI vs, .int n] (if n = ((pw m : Nat) : Int) - 1 then .error .set else .ok (tupI (condL vs m n)))
      have e1 : exs G 0 [.drop (.call .need_measure [] (.cons (.var 0) .nil)), .set 2 (.call .sources_of [] (.cons (.var 0) .nil)), .drop (.call .need_set [] (.cons (.var 2) (.cons (.var 1) .nil)))] (env0 8 [.val (tupI vs), .val (.int n)]) = some (.next [some (.val (tupI vs)), some (.val (.int n)), some (.val (.int m)), none, none, none, none, none]) := by
        simp [exs_cons, env0, List.replicate, ev_var, ev_call, owned, h1, h2, h3, F_need_measure, hx, hso, hns, giveBack, fresh, slotOf, setAt]
      have e1a : ex G 0 (.drop (.call .need_measure [] (.cons (.var 0) .nil))) (env0 8 [.val (tupI vs), .val (.int n)]) = some (.next [some (.val (tupI vs)), some (.val (.int n)), none, none, none, none, none, none]) := by
        simp [env0, List.replicate, ev_var, ev_call, owned, h1, F_need_measure, hx, giveBack]
      have e1b : ex G 0 (.set 2 (.call .sources_of [] (.cons (.var 0) .nil))) [some (.val (tupI vs)), some (.val (.int n)), none, none, none, none, none, none] = some (.next [some (.val (tupI vs)), some (.val (.int n)), some (.val (.int m)), none, none, none, none, none]) := by
        simp [ev_var, ev_call, owned, h2, hso, giveBack, fresh, slotOf, setAt]
      have e1c : ex G 0 (.drop (.call .need_set [] (.cons (.var 2) (.cons (.var 1) .nil)))) [some (.val (tupI vs)), some (.val (.int n)), some (.val (.int m)), none, none, none, none, none] = some (.next [some (.val (tupI vs)), some (.val (.int n)), some (.val (.int m)), none, none, none, none, none]) := by
        simp [ev_var, ev_call, owned, h3, hns, giveBack]
      by_cases hn : n = ((pw m : Nat) : Int) - 1
      · rw [if_pos hn]
        refine runs_err (fuel := 0) (env := [some (.val (tupI vs)), some (.val (.int n)), some (.val (.int m)), none, none, none, none, none]) ?_
        unfold b_conditioned
        rw [show ([tupI vs, PySem.PyData.int n].map Slot.val) = [.val (tupI vs), .val (.int n)] from rfl, exs_next e1a, exs_next e1b, exs_next e1c]
        simp [exs_cons, ev_var, hpi, hn]
      · rw [if_neg hn]
        obtain ⟨hE, hS, hl4, hrest⟩ := cond_at (m := m) ⟨s2, s3⟩ n0 (by omega)
        obtain ⟨hr1, hr2⟩ := hrest hn
        have e2 : ex G 0 (.if_ (.cmp .eq (.var 1) (.bin .sub (.idx (.glob .powers) (.var 2)) (.int 1))) [.raise_ .set] []) [some (.val (tupI vs)), some (.val (.int n)), some (.val (.int m)), none, none, none, none, none] = some (.next [some (.val (tupI vs)), some (.val (.int n)), some (.val (.int m)), none, none, none, none, none]) := by
          simp [ev_var, hpi, hn]
        -- the other sources
        have ec3 := ev_comp1 (G := G) (e := .var 4) (i := 4) (it := .range1 (.var 2)) (c := .som (.cmp .nmem (.var 4) (.call .bits_of [] (.cons (.var 1) .nil)))) (env := [some (.val (tupI vs)), some (.val (.int n)), some (.val (.int m)), none, none, none, none, none]) (items := ((List.range m.toNat).map fun (i : Nat) => ((i : Nat) : Int)).map .int) (p := restP n) (f := fun d => d) (evIt_r1 (i := m) (by simp [ev_var]) (by
            rw [range_ok (by omega), List.map_map]
            congr 2
            · funext k; simp
            · congr 1; omega)) (noOwn_none rfl) (fun d hd => by
            obtain ⟨i, hi, rfl⟩ := List.mem_map.mp hd
            have hb := nmem_ints (ns := bitsF n) (i := i)
            show evo G _ _ = some (.ok (!(bitsF n).contains i) _)
            generalize (bitsF n).contains i = bb at hb ⊢
            simp [ev_var, ev_call, owned, h4, F_l_bits, giveBack, hb]) (fun d hd _ => by
            obtain ⟨i, hi, rfl⟩ := List.mem_map.mp hd
            simp [ev_var])
        have ec3' : ((((List.range m.toNat).map fun (i : Nat) => ((i : Nat) : Int)).map PySem.PyData.int).filter (restP n)).map (fun d => d) = (restF m n).map .int := by
          unfold restF
          rw [List.filter_map, List.map_map]
          rfl
        rw [ec3'] at ec3
        have e3 : ex G 0 (.set 3 (.comp (.var 4) (.name 4) (.range1 (.var 2)) (.som (.cmp .nmem (.var 4) (.call .bits_of [] (.cons (.var 1) .nil)))))) [some (.val (tupI vs)), some (.val (.int n)), some (.val (.int m)), none, none, none, none, none] = some (.next [some (.val (tupI vs)), some (.val (.int n)), some (.val (.int m)), some (.own false ((restF m n).map .int)), none, none, none, none]) := by
          rw [ex_set, ec3]
          simp [fresh, slotOf, setAt]
        have hva0 := value_at_at (vs := vs) (n := n) n0 (by omega)
        have e4 : ex G 0 (.set 5 (.call .value_at [] (.cons (.var 0) (.cons (.var 1) .nil)))) [some (.val (tupI vs)), some (.val (.int n)), some (.val (.int m)), some (.own false ((restF m n).map .int)), none, none, none, none] = some (.next [some (.val (tupI vs)), some (.val (.int n)), some (.val (.int m)), some (.own false ((restF m n).map .int)), none, some (.val (.int (hv vs n))), none, none]) := by
          simp [ev_var, ev_call, owned, h5, hva0, giveBack, fresh, slotOf, setAt]
        -- the sets
        have hren : ∀ k : Nat, k < 2 ^ (restF m n).length - 1 → F_renamed (.int (1 + (k : Int))) (.list ((restF m n).map .int)) = some (.ok (.int ((renN (1 + (k : Int)).toNat (restF m n) : Nat) : Int))) := fun k hk => by
          have hs := hS (k + 1) (by omega)
          have e : (1 : Int) + (k : Int) = ((k + 1 : Nat) : Int) := by omega
          rw [e]
          exact renamed_at (by omega) hs
        have hne : ((List.range (2 ^ (restF m n).length - 1)).map fun (k : Nat) => (.int (1 + (k : Int)) : D)) ≠ [] := fun z => by
          have p1 := congrArg List.length z
          rw [List.length_map, List.length_range, List.length_nil] at p1
          have : 2 ^ 1 ≤ 2 ^ (restF m n).length := Nat.pow_le_pow_right (by decide) hr1
          omega
        have ec5 := ev_comp1f (G := G) (e := .bin .add (.call .renamed [] (.cons (.var 7) (.cons (.var 3) .nil))) (.var 1)) (i := 7) (it := .range2 (.int 1) (.idx (.glob .powers) (.bi .len (.cons (.var 3) .nil)))) (env0 := [some (.val (tupI vs)), some (.val (.int n)), some (.val (.int m)), some (.own false ((restF m n).map .int)), none, some (.val (.int (hv vs n))), none, none]) (X := [some (.val (tupI vs)), some (.val (.int n)), some (.val (.int m)), some (.own false ((restF m n).map .int)), none, some (.val (.int (hv vs n))), none, none]) (Y := [some (.val (tupI vs)), some (.val (.int n)), some (.val (.int m)), some (.val (.list ((restF m n).map .int))), none, some (.val (.int (hv vs n))), none, none]) (items := (List.range (2 ^ (restF m n).length - 1)).map fun (k : Nat) => .int (1 + (k : Int))) (f := fun d => match d with | .int a => .int (((renN a.toNat (restF m n) : Nat) : Int) + n) | _ => .none) (evIt_r2 (ev_int 1) (by simp [ev_var, rd_slot, pow_idxN hl4]) (range_pow hl4)) (noOwn_none rfl) rfl rfl hne (fun d hd => by
            obtain ⟨k, hk, rfl⟩ := List.mem_map.mp hd
            have hr := hren k (List.mem_range.mp hk)
            show frz _ = some (.ok (.int (((renN (1 + (k : Int)).toNat (restF m n) : Nat) : Int) + n)) _)
            generalize ((renN (1 + (k : Int)).toNat (restF m n) : Nat) : Int) = w at hr ⊢
            simp [ev_var, ev_call, owned, frz_slot, h6, hr, giveBack]) (fun d hd => by
            obtain ⟨k, hk, rfl⟩ := List.mem_map.mp hd
            have hr := hren k (List.mem_range.mp hk)
            show frz _ = some (.ok (.int (((renN (1 + (k : Int)).toNat (restF m n) : Nat) : Int) + n)) _)
            generalize ((renN (1 + (k : Int)).toNat (restF m n) : Nat) : Int) = w at hr ⊢
            simp [ev_var, ev_call, owned, h6, hr, giveBack])
        rw [List.map_map] at ec5
        have ec5' : ((List.range (2 ^ (restF m n).length - 1)).map ((fun d : D => match d with | .int a => (.int (((renN a.toNat (restF m n) : Nat) : Int) + n) : D) | _ => .none) ∘ fun (k : Nat) => (.int (1 + (k : Int)) : D))) = ((List.range (2 ^ (restF m n).length - 1)).map fun (k : Nat) => ((condT m n (k + 1) : Nat) : Int)).map .int := by
          rw [List.map_map]
          refine List.map_congr_left fun k hk => ?_
          show PySem.PyData.int (((renN (1 + (k : Int)).toNat (restF m n) : Nat) : Int) + n) = .int ((renN (k + 1) (restF m n) + n.toNat : Nat) : Int)
          have e1 : (1 + (k : Int)).toNat = k + 1 := by omega
          rw [e1]
          congr 1
          omega
        rw [ec5'] at ec5
        have hTlt : ∀ k : Nat, k < 2 ^ (restF m n).length - 1 → condT m n (k + 1) < pw m := fun k hk => hE.lt (k + 1) (by omega)
        generalize hsets : ((List.range (2 ^ (restF m n).length - 1)).map fun (k : Nat) => ((condT m n (k + 1) : Nat) : Int)) = sets_ at ec5
        have e5 : ex G 0 (.set 6 (.comp (.bin .add (.call .renamed [] (.cons (.var 7) (.cons (.var 3) .nil))) (.var 1)) (.name 7) (.range2 (.int 1) (.idx (.glob .powers) (.bi .len (.cons (.var 3) .nil)))) .non)) [some (.val (tupI vs)), some (.val (.int n)), some (.val (.int m)), some (.own false ((restF m n).map .int)), none, some (.val (.int (hv vs n))), none, none] = some (.next [some (.val (tupI vs)), some (.val (.int n)), some (.val (.int m)), some (.val (.list ((restF m n).map .int))), none, some (.val (.int (hv vs n))), some (.own false (sets_.map .int)), none]) := by
          rw [ex_set, ec5]
          simp [fresh, slotOf, setAt]
        have ec6 := ev_comp1ng (G := G) (e := .bin .sub (.call .value_at [] (.cons (.var 0) (.cons (.var 7) .nil))) (.var 5)) (i := 7) (it := .of (.var 6)) (env0 := [some (.val (tupI vs)), some (.val (.int n)), some (.val (.int m)), some (.val (.list ((restF m n).map .int))), none, some (.val (.int (hv vs n))), some (.own false (sets_.map .int)), none]) (env := [some (.val (tupI vs)), some (.val (.int n)), some (.val (.int m)), some (.val (.list ((restF m n).map .int))), none, some (.val (.int (hv vs n))), some (.val (.list (sets_.map .int))), none]) (items := sets_.map .int) (f := fun d => match d with | .int a => .int (hv vs a - hv vs n) | _ => .none) (by simp [ev_var, frz_slot]) (noOwn_none rfl) (fun d hd => by
            obtain ⟨a, ha, rfl⟩ := List.mem_map.mp hd
            rw [← hsets] at ha
            obtain ⟨k, hk, rfl⟩ := List.mem_map.mp ha
            have hlt := hTlt k (List.mem_range.mp hk)
            have hva := value_at_at (vs := vs) (n := ((condT m n (k + 1) : Nat) : Int)) (by omega) (by omega)
            show frz _ = some (.ok (.int (hv vs ((condT m n (k + 1) : Nat) : Int) - hv vs n)) _)
            generalize ((condT m n (k + 1) : Nat) : Int) = w at hva ⊢
            simp [ev_var, ev_call, owned, h5, hva, giveBack])
        rw [List.map_map] at ec6
        have ec6' : (sets_.map ((fun d : D => match d with | .int a => (.int (hv vs a - hv vs n) : D) | _ => .none) ∘ PySem.PyData.int)) = (condL vs m n).map .int := by
          rw [← hsets]
          unfold condL subL
          rw [List.map_map, List.map_map]
          refine List.map_congr_left fun k hk => ?_
          show PySem.PyData.int (hv vs ((condT m n (k + 1) : Nat) : Int) - hv vs n) = .int (hv vs ((condT m n (k + 1) : Nat) : Int) - hv vs ((condT m n 0 : Nat) : Int))
          rw [condT_zero, Int.toNat_of_nonneg n0]
        rw [ec6'] at ec6
        generalize condL vs m n = ws at ec6
        refine runs_ret (fuel := 0) (env := [some (.val (tupI vs)), some (.val (.int n)), some (.val (.int m)), some (.val (.list ((restF m n).map .int))), none, some (.val (.int (hv vs n))), some (.val (.list (sets_.map .int))), none]) ?_
        unfold b_conditioned
        rw [show ([tupI vs, PySem.PyData.int n].map Slot.val) = [.val (tupI vs), .val (.int n)] from rfl, exs_next e1a, exs_next e1b, exs_next e1c, exs_next e2, exs_next e3, exs_next e4, exs_next e5]
        refine exs_ret ?_
        rw [ex_ret]
        simp only [ev_bi, evts_cons, evts_nil]
        rw [ec6]
        simp [tuple_of, -bi_tupleL]
    · rw [if_neg hy]
      rw [if_neg hy] at hns
      refine runs_err (fuel := 0) (env := [some (.val (tupI vs)), some (.val y), some (.val (.int m)), none, none, none, none, none]) ?_
      simp [b_conditioned, exs_cons, env0, List.replicate, ev_var, ev_call, owned, h1, h2, h3, F_need_measure, hx, hso, hns, giveBack, fresh, slotOf, setAt]
  · rename_i hx
    cases h
    refine runs_err (fuel := 0) (env := [some (.val x), some (.val y), none, none, none, none, none, none]) ?_
    simp [b_conditioned, exs_cons, env0, List.replicate, ev_var, ev_call, owned, h1, F_need_measure, hx]
end M
/-! Law k06: a round. -/
namespace M
open Z
theorem own_idx {vs : List Int} {n : Int} (h0 : 0 ≤ n) (h1 : n ≤ vs.length) : idxD (tupI (0 :: vs)) (.int n) = some (.int (hv vs n)) := by
  have hk : n.toNat < (0 :: vs).length := by rw [List.length_cons]; omega
  unfold tupI hv
  rw [idx_tuple, List.length_map, place_nat h0 (by rw [List.length_cons]; omega), Option.bind_some, List.getElem?_map, List.getD_eq_getElem?_getD, List.getElem?_eq_getElem hk]
  rfl
theorem last_idx {ws : List Int} (h : 1 ≤ ws.length) : idxD (tupI ws) (.int (-1)) = some (.int (hv ws (ws.length : Nat))) := by
  have hk : ws.length - 1 < ws.length := by omega
  unfold tupI hv
  rw [idx_tuple, List.length_map]
  have hp : place? ws.length (-1) = some (ws.length - 1) := by unfold place?; simp; omega
  have e : ((ws.length : Nat) : Int).toNat = ws.length - 1 + 1 := by omega
  rw [hp, Option.bind_some, List.getElem?_map, e, List.getD_cons_succ, List.getD_eq_getElem?_getD, List.getElem?_eq_getElem hk]
  rfl
theorem sub_self {vs : List Int} {len : Nat} {T : Nat → Nat} (hl : vs.length = 2 ^ len - 1) (hT : ∀ a, a < 2 ^ len → T a = a) : subL vs len T = vs := by
  have hpos := Nat.two_pow_pos len
  apply List.ext_getElem?
  intro i
  unfold subL
  by_cases h1 : i < 2 ^ len - 1
  · rw [List.getElem?_map, List.getElem?_range h1, Option.map_some, hT (i + 1) (by omega), hT 0 hpos]
    obtain ⟨hk, he⟩ := hv_pos (vs := vs) (n := ((i + 1 : Nat) : Int)) (by omega) (by omega)
    have e : (((i + 1 : Nat) : Int) - 1).toNat = i := by omega
    have z : hv vs ((0 : Nat) : Int) = 0 := rfl
    rw [he, z, List.getElem?_eq_getElem (by omega)]
    simp only [e, Int.sub_zero]
  · rw [List.getElem?_eq_none (by rw [List.length_map, List.length_range]; omega), List.getElem?_eq_none (by omega)]
def selfB (m : Int) : Bool := decide ((bitsF (((pw m : Nat) : Int) - 1)).length = m.toNat) && decide ((restF m 0).length = m.toNat) && (List.range (pw m)).all fun a => decide (renN a (bitsF (((pw m : Nat) : Int) - 1)) = a) && decide (condT m 0 a = a)
theorem self_ok {m : Int} (hm : 1 ≤ m ∧ m ≤ 4) : selfB m = true := by rcases one4 hm with rfl | rfl | rfl | rfl <;> decide +kernel
theorem kept_self {m : Int} {vs : List Int} (hm : 1 ≤ m ∧ m ≤ 4) (hl : vs.length = pw m - 1) : keptL vs (((pw m : Nat) : Int) - 1) = vs ∧ condL vs m 0 = vs := by
  have h := self_ok hm
  unfold selfB at h
  simp only [Bool.and_eq_true, decide_eq_true_eq, List.all_eq_true, List.mem_range] at h
  obtain ⟨⟨h1, h2⟩, h3⟩ := h
  refine ⟨?_, ?_⟩
  · unfold keptL
    rw [h1]
    exact sub_self hl fun a ha => (h3 a ha).1
  · unfold condL
    rw [h2]
    exact sub_self hl fun a ha => (h3 a ha).2
theorem bits_pos {n : Int} (h0 : 0 < n) (h1 : n < 16) : 1 ≤ (bitsF n).length := by
  have : ∀ k : Fin 16, 0 < k.1 → 1 ≤ (bitsF ((k.1 : Nat) : Int)).length := by decide +kernel
  have h := this ⟨n.toNat, by omega⟩ (by show 0 < n.toNat; omega)
  rw [Int.toNat_of_nonneg (by omega)] at h
  exact h
theorem kept_meas {m n : Int} {vs : List Int} (hm : 1 ≤ m ∧ m ≤ 4) (h0 : 0 < n) (h1 : n < ((pw m : Nat) : Int)) (hr : ∀ v ∈ vs, 0 ≤ v ∧ v ≤ 1000000000000) (he : ∀ f ∈ elemI m, 0 ≤ dot f vs) : isMeas (tupI (keptL vs n)) = true := by
  have hp := pw_vals hm
  have hb1 := bits_pos h0 (by omega)
  have hb2 := bits_len n
  have hm' : 1 ≤ (((bitsF n).length : Nat) : Int) ∧ (((bitsF n).length : Nat) : Int) ≤ 4 := by omega
  have := sub_meas hm hm' rfl (keep_at hm (by omega) h1).1 hr he
  exact isMeas_of hm' this.1 this.2.1 this.2.2
theorem cond_meas {m n : Int} {vs : List Int} (hm : 1 ≤ m ∧ m ≤ 4) (h0 : 0 ≤ n) (h1 : n < ((pw m : Nat) : Int) - 1) (hr : ∀ v ∈ vs, 0 ≤ v ∧ v ≤ 1000000000000) (he : ∀ f ∈ elemI m, 0 ≤ dot f vs) : isMeas (tupI (condL vs m n)) = true := by
  obtain ⟨hE, _, h4, hr'⟩ := cond_at hm h0 (by omega)
  have h5 := (hr' (by omega)).1
  have hm' : 1 ≤ (((restF m n).length : Nat) : Int) ∧ (((restF m n).length : Nat) : Int) ≤ 4 := by omega
  have := sub_meas hm hm' rfl hE hr he
  exact isMeas_of hm' this.1 this.2.1 this.2.2
theorem kept_at {m : Int} {vs : List Int} (hm : 1 ≤ m ∧ m ≤ 4) (hl : vs.length = pw m - 1) (h : isMeas (tupI vs) = true) (y : D) : F_kept (tupI vs) y = some (if isWhole y 0 (((pw m : Nat) : Int) - 1) then (match y with
    | .int n => if n = 0 then .error .set else .ok (tupI (keptL vs n))
    | _ => .error .set) else .error .set) := by
  unfold F_kept
  rw [if_pos h]
  simp only [tint?_tupI, hl, srcI_pw hm] <;> rfl
theorem cond_ans {m : Int} {vs : List Int} (hm : 1 ≤ m ∧ m ≤ 4) (hl : vs.length = pw m - 1) (h : isMeas (tupI vs) = true) (y : D) : F_conditioned (tupI vs) y = some (if isWhole y 0 (((pw m : Nat) : Int) - 1) then (match y with
    | .int n => if n = ((pw m : Nat) : Int) - 1 then .error .set else .ok (tupI (condL vs m n))
    | _ => .error .set) else .error .set) := by
  unfold F_conditioned
  rw [if_pos h]
  simp only [tint?_tupI, hl, srcI_pw hm] <;> rfl
theorem idx5 {len : Nat} (h : len ≤ 4) : idxD (.list [.int 1, .int 2, .int 4, .int 8, .int 16]) (.int (len : Nat)) = some (.int ((2 ^ len : Nat) : Int)) := by
  have : len = 0 ∨ len = 1 ∨ len = 2 ∨ len = 3 ∨ len = 4 := by omega
  rcases this with rfl | rfl | rfl | rfl | rfl <;> rfl
abbrev k6E (m n : Int) (vs : List Int) (c j : Int) (o8 o10 o12 : Option Slot) : Env := [none, some (.own false (dice c j)), some (.val (.int m)), some (.val (tupI vs)), some (.val (.int ((pw m : Nat) : Int))), some (.val (tupI (0 :: vs))), some (.val (.int n)), some (.val (.list ((bitsF n).map .int))), o8, none, o10, none, o12]
theorem k6_kept {G : Gam} (g4 : G .l_renamed = sem2 F_renamed) {m n c j : Int} {vs : List Int} {o8 o10 o12 : Option Slot} (hm : 1 ≤ m ∧ m ≤ 4) (hl : vs.length = pw m - 1) (h0 : 0 ≤ n) (h1 : n < ((pw m : Nat) : Int)) :
    ev G (.comp (.idx (.var 5) (.call .l_renamed [] (.cons (.var 11) (.cons (.var 7) .nil)))) (.name 11) (.range2 (.int 1) (.idx (.lst (.cons (.int 1) (.cons (.int 2) (.cons (.int 4) (.cons (.int 8) (.cons (.int 16) .nil)))))) (.bi .len (.cons (.var 7) .nil)))) .non) (k6E m n vs c j o8 o10 o12) = some (.ok (.imm (.list ((keptL vs n).map .int))) (k6E m n vs c j o8 o10 o12)) := by
  obtain ⟨hE, hS⟩ := keep_at hm h0 h1
  have hl4 := bits_len n
  have ec := ev_comp1n (G := G) (e := .idx (.var 5) (.call .l_renamed [] (.cons (.var 11) (.cons (.var 7) .nil)))) (i := 11) (it := .range2 (.int 1) (.idx (.lst (.cons (.int 1) (.cons (.int 2) (.cons (.int 4) (.cons (.int 8) (.cons (.int 16) .nil)))))) (.bi .len (.cons (.var 7) .nil)))) (env := k6E m n vs c j o8 o10 o12) (items := (List.range (2 ^ (bitsF n).length - 1)).map fun (k : Nat) => .int (1 + (k : Int))) (f := fun d => match d with | .int a => .int (hv vs ((renN a.toNat (bitsF n) : Nat) : Int)) | _ => .none) (evIt_r2 (ev_int 1) (by simp [ev_var, idx5 hl4]) (range_pow hl4)) (noOwn_none rfl) (fun d hd => by
    obtain ⟨k, hk, rfl⟩ := List.mem_map.mp hd
    have hk := List.mem_range.mp hk
    have hlt : k + 1 < 2 ^ (bitsF n).length := by omega
    have hren : F_renamed (.int (1 + (k : Int))) (.list ((bitsF n).map .int)) = some (.ok (.int ((renN (1 + (k : Int)).toNat (bitsF n) : Nat) : Int))) := by
      have hs := hS (k + 1) hlt
      have e : (1 : Int) + (k : Int) = ((k + 1 : Nat) : Int) := by omega
      rw [e]
      exact renamed_at (by omega) hs
    have hT : renN (k + 1) (bitsF n) < pw m := hE.lt (k + 1) hlt
    have e1 : (1 + (k : Int)).toNat = k + 1 := by omega
    have hva := own_idx (vs := vs) (n := ((renN (1 + (k : Int)).toNat (bitsF n) : Nat) : Int)) (by omega) (by rw [e1]; omega)
    show frz _ = some (.ok (.int (hv vs ((renN (1 + (k : Int)).toNat (bitsF n) : Nat) : Int))) _)
    generalize ((renN (1 + (k : Int)).toNat (bitsF n) : Nat) : Int) = w at hren hva ⊢
    simp [ev_var, ev_call, owned, g4, hren, hva, giveBack])
  rw [List.map_map] at ec
  have e2 : ((List.range (2 ^ (bitsF n).length - 1)).map ((fun d : D => match d with | .int a => (.int (hv vs ((renN a.toNat (bitsF n) : Nat) : Int)) : D) | _ => .none) ∘ fun (k : Nat) => (.int (1 + (k : Int)) : D))) = (keptL vs n).map .int := by
    unfold keptL subL
    rw [List.map_map]
    refine List.map_congr_left fun k hk => ?_
    show PySem.PyData.int (hv vs ((renN (1 + (k : Int)).toNat (bitsF n) : Nat) : Int)) = .int (hv vs ((renN (k + 1) (bitsF n) : Nat) : Int) - hv vs ((renN 0 (bitsF n) : Nat) : Int))
    have e1 : (1 + (k : Int)).toNat = k + 1 := by omega
    rw [e1, renN_zero]
    congr 1
    have : hv vs ((0 : Nat) : Int) = 0 := rfl
    omega
  rw [e2] at ec
  exact ec
theorem k6_cond {G : Gam} (g4 : G .l_renamed = sem2 F_renamed) {m n c j : Int} {vs : List Int} {o10 o12 : Option Slot} (hm : 1 ≤ m ∧ m ≤ 4) (hl : vs.length = pw m - 1) (h0 : 0 ≤ n) (h1 : n < ((pw m : Nat) : Int) - 1) :
    ev G (.comp (.bin .sub (.idx (.var 5) (.bin .add (.call .l_renamed [] (.cons (.var 11) (.cons (.var 8) .nil))) (.var 6))) (.idx (.var 5) (.var 6))) (.name 11) (.range2 (.int 1) (.idx (.lst (.cons (.int 1) (.cons (.int 2) (.cons (.int 4) (.cons (.int 8) (.cons (.int 16) .nil)))))) (.bi .len (.cons (.var 8) .nil)))) .non) (k6E m n vs c j (some (.own false ((restF m n).map .int))) o10 o12) = some (.ok (.imm (.list ((condL vs m n).map .int))) (k6E m n vs c j (some (.val (.list ((restF m n).map .int)))) o10 o12)) := by
  have hpw := pw_vals hm
  obtain ⟨hE, hS, hl4, hrest⟩ := cond_at (m := m) hm h0 (by omega)
  obtain ⟨hr1, hr2⟩ := hrest (by omega)
  have hown := own_idx (vs := vs) (n := n) h0 (by omega)
  have fact : ∀ k : Nat, k < 2 ^ (restF m n).length - 1 → F_renamed (.int (1 + (k : Int))) (.list ((restF m n).map .int)) = some (.ok (.int ((renN (1 + (k : Int)).toNat (restF m n) : Nat) : Int))) ∧ idxD (tupI (0 :: vs)) (.int (((renN (1 + (k : Int)).toNat (restF m n) : Nat) : Int) + n)) = some (.int (hv vs (((renN (1 + (k : Int)).toNat (restF m n) : Nat) : Int) + n))) := fun k hk => by
    have hs := hS (k + 1) (by omega)
    have e : (1 : Int) + (k : Int) = ((k + 1 : Nat) : Int) := by omega
    refine ⟨by rw [e]; exact renamed_at (by omega) hs, ?_⟩
    have hT : renN (k + 1) (restF m n) + n.toNat < pw m := hE.lt (k + 1) (by omega)
    have e1 : (1 + (k : Int)).toNat = k + 1 := by omega
    rw [e1]
    exact own_idx (by omega) (by omega)
  have hne : ((List.range (2 ^ (restF m n).length - 1)).map fun (k : Nat) => (.int (1 + (k : Int)) : D)) ≠ [] := fun z => by
    have p1 := congrArg List.length z
    rw [List.length_map, List.length_range, List.length_nil] at p1
    have : 2 ^ 1 ≤ 2 ^ (restF m n).length := Nat.pow_le_pow_right (by decide) hr1
    omega
  have ec := ev_comp1f (G := G) (e := .bin .sub (.idx (.var 5) (.bin .add (.call .l_renamed [] (.cons (.var 11) (.cons (.var 8) .nil))) (.var 6))) (.idx (.var 5) (.var 6))) (i := 11) (it := .range2 (.int 1) (.idx (.lst (.cons (.int 1) (.cons (.int 2) (.cons (.int 4) (.cons (.int 8) (.cons (.int 16) .nil)))))) (.bi .len (.cons (.var 8) .nil)))) (env0 := k6E m n vs c j (some (.own false ((restF m n).map .int))) o10 o12) (X := k6E m n vs c j (some (.own false ((restF m n).map .int))) o10 o12) (Y := k6E m n vs c j (some (.val (.list ((restF m n).map .int)))) o10 o12) (items := (List.range (2 ^ (restF m n).length - 1)).map fun (k : Nat) => .int (1 + (k : Int))) (f := fun d => match d with | .int a => .int (hv vs (((renN a.toNat (restF m n) : Nat) : Int) + n) - hv vs n) | _ => .none) (evIt_r2 (ev_int 1) (by simp [ev_var, rd_slot, idx5 hl4]) (range_pow hl4)) (noOwn_none rfl) rfl rfl hne (fun d hd => by
      obtain ⟨k, hk, rfl⟩ := List.mem_map.mp hd
      obtain ⟨f1, f2⟩ := fact k (List.mem_range.mp hk)
      show frz _ = some (.ok (.int (hv vs (((renN (1 + (k : Int)).toNat (restF m n) : Nat) : Int) + n) - hv vs n)) _)
      generalize ((renN (1 + (k : Int)).toNat (restF m n) : Nat) : Int) = w at f1 f2 ⊢
      simp [ev_var, ev_call, owned, frz_slot, g4, f1, f2, hown, giveBack]) (fun d hd => by
      obtain ⟨k, hk, rfl⟩ := List.mem_map.mp hd
      obtain ⟨f1, f2⟩ := fact k (List.mem_range.mp hk)
      show frz _ = some (.ok (.int (hv vs (((renN (1 + (k : Int)).toNat (restF m n) : Nat) : Int) + n) - hv vs n)) _)
      generalize ((renN (1 + (k : Int)).toNat (restF m n) : Nat) : Int) = w at f1 f2 ⊢
      simp [ev_var, ev_call, owned, g4, f1, f2, hown, giveBack])
  rw [List.map_map] at ec
  have e2 : ((List.range (2 ^ (restF m n).length - 1)).map ((fun d : D => match d with | .int a => (.int (hv vs (((renN a.toNat (restF m n) : Nat) : Int) + n) - hv vs n) : D) | _ => .none) ∘ fun (k : Nat) => (.int (1 + (k : Int)) : D))) = (condL vs m n).map .int := by
    unfold condL subL
    rw [List.map_map]
    refine List.map_congr_left fun k hk => ?_
    show PySem.PyData.int (hv vs (((renN (1 + (k : Int)).toNat (restF m n) : Nat) : Int) + n) - hv vs n) = .int (hv vs ((renN (k + 1) (restF m n) + n.toNat : Nat) : Int) - hv vs ((condT m n 0 : Nat) : Int))
    have e1 : (1 + (k : Int)).toNat = k + 1 := by omega
    have e3 : ((renN (k + 1) (restF m n) + n.toNat : Nat) : Int) = ((renN (k + 1) (restF m n) : Nat) : Int) + n := by omega
    rw [e1, condT_zero, Int.toNat_of_nonneg h0, e3]
  rw [e2] at ec
  exact ec
theorem round_k06 {G : Gam} (g1 : G .l_roll = m_l_roll) (g2 : G .l_any_measure = m_any_measure) (g3 : G .l_bits = sem1 F_l_bits) (g4 : G .l_renamed = sem2 F_renamed) (g5 : G .kept = sem2 F_kept) (g6 : G .is_measure = sem1 F_is_measure) (g7 : G .conditioned = sem2 F_conditioned) (c : Int) :
    ∃ env, exs G 0 r_law_k06 (envD 13 1 [.int c, .int 0]) = some (.next env) ∧ env.length = 13 := by
  show ∃ env, exs G 0 r_law_k06 [none, some (.own false (dice c 0)), none, none, none, none, none, none, none, none, none, none, none] = some (.next env) ∧ env.length = 13
  have hr1 := roll_range (c := c) (j := 0) (m := 4) (by decide)
  generalize hre1 : rollV c 0 4 = r1 at hr1
  generalize hc1 : rollC c 0 4 = c1
  generalize hj1 : rollJ c 0 4 = j1
  have hm : 1 ≤ 1 + r1 ∧ 1 + r1 ≤ 4 := by omega
  have e1 : ex G 0 (.set 2 (.bin .add (.int 1) (.call .l_roll [1] (.cons (.int 4) .nil)))) [none, some (.own false (dice c 0)), none, none, none, none, none, none, none, none, none, none, none] = some (.next [none, some (.own false (dice c1 j1)), some (.val (.int (1 + r1))), none, none, none, none, none, none, none, none, none, none]) := by
    simp [ev_roll1 g1, hre1, hc1, hj1, fresh, slotOf, setAt]
  generalize 1 + r1 = m at e1 hm
  obtain ⟨vs, c2, j2, hvs, hcall1⟩ := any_measure_at c1 j1 hm
  have hpw := pw_vals hm
  have hsz : idxD (.list [.int 2, .int 4, .int 8, .int 16]) (.int (m - 1)) = some (.int ((pw m : Nat) : Int)) := by
    rcases one4 hm with rfl | rfl | rfl | rfl <;> rfl
  have e2 : ex G 0 (.par [3, 4] (.cons (.call .l_any_measure [1] (.cons (.var 2) .nil)) (.cons (.idx (.lst (.cons (.int 2) (.cons (.int 4) (.cons (.int 8) (.cons (.int 16) .nil))))) (.bin .sub (.var 2) (.int 1))) .nil))) [none, some (.own false (dice c1 j1)), some (.val (.int m)), none, none, none, none, none, none, none, none, none, none] = some (.next [none, some (.own false (dice c2 j2)), some (.val (.int m)), some (.val (tupI vs)), some (.val (.int ((pw m : Nat) : Int))), none, none, none, none, none, none, none, none]) := by
    have k1 := call1 (G := G) (f := .l_any_measure) (ds := [.int m]) (es := .cons (.var 2) .nil) (env := [none, some (.own false (dice c1 j1)), some (.val (.int m)), none, none, none, none, none, none, none, none, none, none]) (s := 1) rfl (by simp [ev_var]) (by rw [g2]; exact hcall1)
    simp [k1, ev_var, hsz, fresh, slotOf, sets]
  have hn := roll_range (c := c2) (j := j2) (m := ((pw m : Nat) : Int)) (by omega)
  generalize hne : rollV c2 j2 ((pw m : Nat) : Int) = n at hn
  generalize hc3 : rollC c2 j2 ((pw m : Nat) : Int) = c3
  generalize hj3 : rollJ c2 j2 ((pw m : Nat) : Int) = j3
  have hown : binD .add (.tuple [.int 0]) (tupI vs) = some (tupI (0 :: vs)) := by
    unfold tupI
    rw [bin_addT (by simp [hvs.len]; omega)]
    rfl
  have e3 : ex G 0 (.par [5, 6] (.cons (.bin .add (.tup (.cons (.int 0) .nil)) (.var 3)) (.cons (.call .l_roll [1] (.cons (.var 4) .nil)) .nil))) [none, some (.own false (dice c2 j2)), some (.val (.int m)), some (.val (tupI vs)), some (.val (.int ((pw m : Nat) : Int))), none, none, none, none, none, none, none, none] = some (.next [none, some (.own false (dice c3 j3)), some (.val (.int m)), some (.val (tupI vs)), some (.val (.int ((pw m : Nat) : Int))), some (.val (tupI (0 :: vs))), some (.val (.int n)), none, none, none, none, none, none]) := by
    have er := ev_roll (G := G) g1 (base := [none, some (.own false (dice c2 j2)), some (.val (.int m)), some (.val (tupI vs)), some (.val (.int ((pw m : Nat) : Int))), none, none, none, none, none, none, none, none]) (s := 1) (k := false) (c := c2) (j := j2) (m := ((pw m : Nat) : Int)) (e := .var 4) (by simp) (by omega) (by simp [wd, ev_var])
    rw [hne, hc3, hj3] at er
    have er : ev G (.call .l_roll [1] (.cons (.var 4) .nil)) [none, some (.own false (dice c2 j2)), some (.val (.int m)), some (.val (tupI vs)), some (.val (.int ((pw m : Nat) : Int))), none, none, none, none, none, none, none, none] = some (.ok (.imm (.int n)) [none, some (.own false (dice c3 j3)), some (.val (.int m)), some (.val (tupI vs)), some (.val (.int ((pw m : Nat) : Int))), none, none, none, none, none, none, none, none]) := er
    have hso : slotOf true (tupI (0 :: vs)) = .val (tupI (0 :: vs)) := rfl
    simp [ev_var, hown, er, fresh, hso, sets]
    rfl
  -- the sets
  have ec4 := ev_comp1 (G := G) (e := .var 9) (i := 9) (it := .range1 (.var 2)) (c := .som (.cmp .nmem (.var 9) (.call .l_bits [] (.cons (.var 6) .nil)))) (env := [none, some (.own false (dice c3 j3)), some (.val (.int m)), some (.val (tupI vs)), some (.val (.int ((pw m : Nat) : Int))), some (.val (tupI (0 :: vs))), some (.val (.int n)), none, none, none, none, none, none]) (items := ((List.range m.toNat).map fun (i : Nat) => ((i : Nat) : Int)).map .int) (p := restP n) (f := fun d => d) (evIt_r1 (i := m) (by simp [ev_var]) (by
      rw [range_ok (by omega), List.map_map]
      congr 2
      · funext k; simp
      · congr 1; omega)) (noOwn_none rfl) (fun d hd => by
      obtain ⟨i, hi, rfl⟩ := List.mem_map.mp hd
      have hb := nmem_ints (ns := bitsF n) (i := i)
      show evo G _ _ = some (.ok (!(bitsF n).contains i) _)
      generalize (bitsF n).contains i = bb at hb ⊢
      simp [ev_var, ev_call, owned, g3, F_l_bits, giveBack, hb]) (fun d hd _ => by
      obtain ⟨i, hi, rfl⟩ := List.mem_map.mp hd
      simp [ev_var])
  have ec4' : ((((List.range m.toNat).map fun (i : Nat) => ((i : Nat) : Int)).map PySem.PyData.int).filter (restP n)).map (fun d => d) = (restF m n).map .int := by
    unfold restF
    rw [List.filter_map, List.map_map]
    rfl
  rw [ec4'] at ec4
  have e4 : ex G 0 (.par [7, 8] (.cons (.call .l_bits [] (.cons (.var 6) .nil)) (.cons (.comp (.var 9) (.name 9) (.range1 (.var 2)) (.som (.cmp .nmem (.var 9) (.call .l_bits [] (.cons (.var 6) .nil))))) .nil))) [none, some (.own false (dice c3 j3)), some (.val (.int m)), some (.val (tupI vs)), some (.val (.int ((pw m : Nat) : Int))), some (.val (tupI (0 :: vs))), some (.val (.int n)), none, none, none, none, none, none] = some (.next (k6E m n vs c3 j3 (some (.own false ((restF m n).map .int))) none none)) := by
    have k1 : ev G (.call .l_bits [] (.cons (.var 6) .nil)) [none, some (.own false (dice c3 j3)), some (.val (.int m)), some (.val (tupI vs)), some (.val (.int ((pw m : Nat) : Int))), some (.val (tupI (0 :: vs))), some (.val (.int n)), none, none, none, none, none, none] = some (.ok (.imm (.list ((bitsF n).map .int))) [none, some (.own false (dice c3 j3)), some (.val (.int m)), some (.val (tupI vs)), some (.val (.int ((pw m : Nat) : Int))), some (.val (tupI (0 :: vs))), some (.val (.int n)), none, none, none, none, none, none]) := by
      rw [ev_call]
      simp [owned, ev_var, g3, F_l_bits, giveBack]
    rw [ex_par, evp_cons, k1]
    simp only [frz_imm, bnd_ok, evp_cons]
    rw [ec4]
    simp [fresh, slotOf, sets]
  have hmeas := hvs.meas hm
  have hr12 : ∀ v ∈ vs, 0 ≤ v ∧ v ≤ 1000000000000 := fun v hv => by have := hvs.rng v hv; omega
  have hka := kept_at hm hvs.len hmeas
  have hca := cond_ans hm hvs.len hmeas
  have hnes := ne_err .set .set
  simp [clsName] at hnes
  have hwn : isWhole (.int n) 0 (((pw m : Nat) : Int) - 1) = true := by simp [isWhole]; omega
  -- kept
  obtain ⟨o10, e5⟩ : ∃ o10, ex G 0 (.if_ (.cmp .gt (.var 6) (.int 0)) [.set 10 (.comp (.idx (.var 5) (.call .l_renamed [] (.cons (.var 11) (.cons (.var 7) .nil)))) (.name 11) (.range2 (.int 1) (.idx (.lst (.cons (.int 1) (.cons (.int 2) (.cons (.int 4) (.cons (.int 8) (.cons (.int 16) .nil)))))) (.bi .len (.cons (.var 7) .nil)))) .non), .if_ (.or_ (.cmp .ne (.call .kept [] (.cons (.var 3) (.cons (.var 6) .nil))) (.bi .tuple (.cons (.var 10) .nil))) (.not_ (.call .is_measure [] (.cons (.call .kept [] (.cons (.var 3) (.cons (.var 6) .nil))) .nil)))) [.ret (.bl false)] []] [.if_ (.cmp .ne (.told (.call .kept [] (.cons (.var 3) (.cons (.int 0) .nil)))) (.tup (.cons (.str "error") (.cons (.str "InvalidSet") .nil)))) [.ret (.bl false)] []]) (k6E m n vs c3 j3 (some (.own false ((restF m n).map .int))) none none) = some (.next (k6E m n vs c3 j3 (some (.own false ((restF m n).map .int))) o10 none)) := by
    by_cases h0 : 0 < n
    · refine ⟨some (.own false ((keptL vs n).map .int)), ?_⟩
      have hk := hka (.int n)
      rw [if_pos hwn] at hk
      have hk : F_kept (tupI vs) (.int n) = some (.ok (tupI (keptL vs n))) := by
        rw [hk]
        show some (if n = 0 then _ else _) = _
        rw [if_neg (by omega)]
      have hkm := kept_meas hm h0 hn.2 hr12 hvs.el
      have ec := k6_kept (G := G) g4 (c := c3) (j := j3) (o8 := some (.own false ((restF m n).map .int))) (o10 := none) (o12 := none) hm hvs.len hn.1 hn.2
      generalize keptL vs n = ws at hk hkm ec
      have f1 : ex G 0 (.set 10 (.comp (.idx (.var 5) (.call .l_renamed [] (.cons (.var 11) (.cons (.var 7) .nil)))) (.name 11) (.range2 (.int 1) (.idx (.lst (.cons (.int 1) (.cons (.int 2) (.cons (.int 4) (.cons (.int 8) (.cons (.int 16) .nil)))))) (.bi .len (.cons (.var 7) .nil)))) .non)) (k6E m n vs c3 j3 (some (.own false ((restF m n).map .int))) none none) = some (.next (k6E m n vs c3 j3 (some (.own false ((restF m n).map .int))) (some (.own false (ws.map .int))) none)) := by
        rw [ex_set, ec]
        simp [fresh, slotOf, setAt]
      have f2 : ex G 0 (.if_ (.or_ (.cmp .ne (.call .kept [] (.cons (.var 3) (.cons (.var 6) .nil))) (.bi .tuple (.cons (.var 10) .nil))) (.not_ (.call .is_measure [] (.cons (.call .kept [] (.cons (.var 3) (.cons (.var 6) .nil))) .nil)))) [.ret (.bl false)] []) (k6E m n vs c3 j3 (some (.own false ((restF m n).map .int))) (some (.own false (ws.map .int))) none) = some (.next (k6E m n vs c3 j3 (some (.own false ((restF m n).map .int))) (some (.own false (ws.map .int))) none)) := by
        simp [ev_var, ev_call, owned, g5, g6, F_is_measure, hk, hkm, giveBack, rd_slot, tuple_of, ne_tup, -bi_tupleL]
      have ft : evB G (.cmp .gt (.var 6) (.int 0)) (k6E m n vs c3 j3 (some (.own false ((restF m n).map .int))) none none) = some (.ok true (k6E m n vs c3 j3 (some (.own false ((restF m n).map .int))) none none)) := by
        simp [evB, ev_var, h0]
      rw [ex]
      rw [ft, bndS_ok, if_pos rfl, exs_next f1, exs_next f2, exs_nil]
    · refine ⟨none, ?_⟩
      have hk := hka (.int 0)
      have hw0 : isWhole (.int 0) 0 (((pw m : Nat) : Int) - 1) = true := by simp [isWhole]; omega
      rw [if_pos hw0] at hk
      have hk : F_kept (tupI vs) (.int 0) = some (.error .set) := by rw [hk]; rfl
      simp [exs_cons, ev_var, h0, ev_call, owned, g5, hk, hnes]
  -- conditioned
  obtain ⟨o8, o10', e6⟩ : ∃ o8 o10', ex G 0 (.if_ (.cmp .lt (.var 6) (.bin .sub (.var 4) (.int 1))) [.set 10 (.comp (.bin .sub (.idx (.var 5) (.bin .add (.call .l_renamed [] (.cons (.var 11) (.cons (.var 8) .nil))) (.var 6))) (.idx (.var 5) (.var 6))) (.name 11) (.range2 (.int 1) (.idx (.lst (.cons (.int 1) (.cons (.int 2) (.cons (.int 4) (.cons (.int 8) (.cons (.int 16) .nil)))))) (.bi .len (.cons (.var 8) .nil)))) .non), .if_ (.cmp .ne (.call .conditioned [] (.cons (.var 3) (.cons (.var 6) .nil))) (.bi .tuple (.cons (.var 10) .nil))) [.ret (.bl false)] [], .if_ (.not_ (.call .is_measure [] (.cons (.call .conditioned [] (.cons (.var 3) (.cons (.var 6) .nil))) .nil))) [.ret (.bl false)] [], .if_ (.cmp .ne (.bin .add (.idx (.call .conditioned [] (.cons (.var 3) (.cons (.var 6) .nil))) (.neg (.int 1))) (.idx (.var 5) (.var 6))) (.idx (.var 3) (.neg (.int 1)))) [.ret (.bl false)] []] [.if_ (.cmp .ne (.told (.call .conditioned [] (.cons (.var 3) (.cons (.var 6) .nil)))) (.tup (.cons (.str "error") (.cons (.str "InvalidSet") .nil)))) [.ret (.bl false)] []]) (k6E m n vs c3 j3 (some (.own false ((restF m n).map .int))) o10 none) = some (.next (k6E m n vs c3 j3 o8 o10' none)) := by
    by_cases h1 : n < ((pw m : Nat) : Int) - 1
    · refine ⟨some (.val (.list ((restF m n).map .int))), some (.own false ((condL vs m n).map .int)), ?_⟩
      have hk := hca (.int n)
      rw [if_pos hwn] at hk
      have hk : F_conditioned (tupI vs) (.int n) = some (.ok (tupI (condL vs m n))) := by
        rw [hk]
        show some (if n = ((pw m : Nat) : Int) - 1 then _ else _) = _
        rw [if_neg (by omega)]
      have hkm := cond_meas hm hn.1 h1 hr12 hvs.el
      have ec := k6_cond (G := G) g4 (c := c3) (j := j3) (o10 := o10) (o12 := none) hm hvs.len hn.1 h1
      -- the last value
      obtain ⟨hE, hS, hl4, hrest⟩ := cond_at (m := m) hm hn.1 (by omega)
      obtain ⟨hr1, hr2⟩ := hrest (by omega)
      have hlen := subL_len vs (restF m n).length (condT m n)
      have hpos : 2 ^ 1 ≤ 2 ^ (restF m n).length := Nat.pow_le_pow_right (by decide) hr1
      have hlast : idxD (tupI (condL vs m n)) (.int (-1)) = some (.int (hv vs (((pw m : Nat) : Int) - 1) - hv vs n)) := by
        unfold condL
        rw [last_idx (by rw [hlen]; omega), hlen, subL_hv (by omega), hr2, condT_zero, Int.toNat_of_nonneg hn.1]
        have e : ((pw m - 1 : Nat) : Int) = ((pw m : Nat) : Int) - 1 := by omega
        rw [e]
      have hlast2 : idxD (tupI vs) (.int (-1)) = some (.int (hv vs (((pw m : Nat) : Int) - 1))) := by
        rw [last_idx (by rw [hvs.len]; omega), hvs.len]
        have e : ((pw m - 1 : Nat) : Int) = ((pw m : Nat) : Int) - 1 := by omega
        rw [e]
      have hon := own_idx (vs := vs) (n := n) hn.1 (by rw [hvs.len]; omega)
      generalize condL vs m n = ws at hk hkm ec hlast
      generalize hv vs (((pw m : Nat) : Int) - 1) = hw at hlast hlast2
      generalize hv vs n = hn' at hlast hon
      have f1 : ex G 0 (.set 10 (.comp (.bin .sub (.idx (.var 5) (.bin .add (.call .l_renamed [] (.cons (.var 11) (.cons (.var 8) .nil))) (.var 6))) (.idx (.var 5) (.var 6))) (.name 11) (.range2 (.int 1) (.idx (.lst (.cons (.int 1) (.cons (.int 2) (.cons (.int 4) (.cons (.int 8) (.cons (.int 16) .nil)))))) (.bi .len (.cons (.var 8) .nil)))) .non)) (k6E m n vs c3 j3 (some (.own false ((restF m n).map .int))) o10 none) = some (.next (k6E m n vs c3 j3 (some (.val (.list ((restF m n).map .int)))) (some (.own false (ws.map .int))) none)) := by
        rw [ex_set, ec]
        simp [fresh, slotOf, setAt]
      have f2 : ex G 0 (.if_ (.cmp .ne (.call .conditioned [] (.cons (.var 3) (.cons (.var 6) .nil))) (.bi .tuple (.cons (.var 10) .nil))) [.ret (.bl false)] []) (k6E m n vs c3 j3 (some (.val (.list ((restF m n).map .int)))) (some (.own false (ws.map .int))) none) = some (.next (k6E m n vs c3 j3 (some (.val (.list ((restF m n).map .int)))) (some (.own false (ws.map .int))) none)) := by
        simp [ev_var, ev_call, owned, g7, hk, giveBack, rd_slot, tuple_of, ne_tup, -bi_tupleL]
      have f3 : ex G 0 (.if_ (.not_ (.call .is_measure [] (.cons (.call .conditioned [] (.cons (.var 3) (.cons (.var 6) .nil))) .nil))) [.ret (.bl false)] []) (k6E m n vs c3 j3 (some (.val (.list ((restF m n).map .int)))) (some (.own false (ws.map .int))) none) = some (.next (k6E m n vs c3 j3 (some (.val (.list ((restF m n).map .int)))) (some (.own false (ws.map .int))) none)) := by
        simp [ev_var, ev_call, owned, g6, g7, F_is_measure, hk, hkm, giveBack]
      have f4 : ex G 0 (.if_ (.cmp .ne (.bin .add (.idx (.call .conditioned [] (.cons (.var 3) (.cons (.var 6) .nil))) (.neg (.int 1))) (.idx (.var 5) (.var 6))) (.idx (.var 3) (.neg (.int 1)))) [.ret (.bl false)] []) (k6E m n vs c3 j3 (some (.val (.list ((restF m n).map .int)))) (some (.own false (ws.map .int))) none) = some (.next (k6E m n vs c3 j3 (some (.val (.list ((restF m n).map .int)))) (some (.own false (ws.map .int))) none)) := by
        simp [ev_var, ev_call, owned, g7, hk, giveBack, hlast, hlast2, hon]
      have ft : evB G (.cmp .lt (.var 6) (.bin .sub (.var 4) (.int 1))) (k6E m n vs c3 j3 (some (.own false ((restF m n).map .int))) o10 none) = some (.ok true (k6E m n vs c3 j3 (some (.own false ((restF m n).map .int))) o10 none)) := by
        simp [evB, ev_var, h1]
      rw [ex]
      rw [ft, bndS_ok, if_pos rfl, exs_next f1, exs_next f2, exs_next f3, exs_next f4, exs_nil]
    · refine ⟨some (.own false ((restF m n).map .int)), o10, ?_⟩
      have hk := hca (.int n)
      rw [if_pos hwn] at hk
      have hk : F_conditioned (tupI vs) (.int n) = some (.error .set) := by
        rw [hk]
        show some (if n = ((pw m : Nat) : Int) - 1 then _ else _) = _
        rw [if_pos (by omega)]
      simp [exs_cons, ev_var, h1, ev_call, owned, g7, hk, hnes]
  -- the whole set, and none
  obtain ⟨hks, hcs⟩ := kept_self hm hvs.len
  have hk7 : F_kept (tupI vs) (.int (((pw m : Nat) : Int) - 1)) = some (.ok (tupI vs)) := by
    have := hka (.int (((pw m : Nat) : Int) - 1))
    rw [if_pos (by simp [isWhole]; omega)] at this
    rw [this]
    show some (if ((pw m : Nat) : Int) - 1 = 0 then _ else Except.ok (tupI (keptL vs (((pw m : Nat) : Int) - 1)))) = _
    rw [if_neg (by omega), hks]
  have hc7 : F_conditioned (tupI vs) (.int 0) = some (.ok (tupI vs)) := by
    have := hca (.int 0)
    rw [if_pos (by simp [isWhole]; omega)] at this
    rw [this]
    show some (if (0 : Int) = ((pw m : Nat) : Int) - 1 then _ else Except.ok (tupI (condL vs m 0))) = _
    rw [if_neg (by omega), hcs]
  have e7 : ex G 0 (.if_ (.or_ (.cmp .ne (.call .kept [] (.cons (.var 3) (.cons (.bin .sub (.var 4) (.int 1)) .nil))) (.var 3)) (.cmp .ne (.call .conditioned [] (.cons (.var 3) (.cons (.int 0) .nil))) (.var 3))) [.ret (.bl false)] []) (k6E m n vs c3 j3 o8 o10' none) = some (.next (k6E m n vs c3 j3 o8 o10' none)) := by
    simp [ev_var, ev_call, owned, g5, g7, hk7, hc7, giveBack, ne_tup]
  -- wrong sets
  obtain ⟨env8, h8, o12, rfl⟩ := forL_inv (R := fun env => ∃ o12, env = k6E m n vs c3 j3 o8 o10' o12) (step := stepF G 0 (.name 12) [.if_ (.cmp .ne (.told (.call .kept [] (.cons (.var 3) (.cons (.var 12) .nil)))) (.tup (.cons (.str "error") (.cons (.str "InvalidSet") .nil)))) [.ret (.bl false)] [], .if_ (.cmp .ne (.told (.call .conditioned [] (.cons (.var 3) (.cons (.var 12) .nil)))) (.tup (.cons (.str "error") (.cons (.str "InvalidSet") .nil)))) [.ret (.bl false)] []]) (items := [.int (-1), .int ((pw m : Nat) : Int), .bool true, .none]) (fun env d hd ⟨o12, he⟩ => by
    subst he
    refine ⟨k6E m n vs c3 j3 o8 o10' (some (.val d)), ?_, _, rfl⟩
    have hd : isWhole d 0 (((pw m : Nat) : Int) - 1) = false := by
      simp only [List.mem_cons, List.not_mem_nil, or_false] at hd
      rcases hd with rfl | rfl | rfl | rfl
      · rfl
      · simp [isWhole]; omega
      · rfl
      · rfl
    have hk := hka d
    have hk' := hca d
    rw [if_neg (by rw [hd]; simp)] at hk hk'
    simp [stepF, Z.asg_name, exs_cons, ev_var, ev_call, owned, g5, g7, hk, hk', hnes]) (k6E m n vs c3 j3 o8 o10' none) ⟨none, rfl⟩
  have e8 := ex_for_same (it := .of (.lst (.cons (.neg (.int 1)) (.cons (.var 4) (.cons (.bl true) (.cons .non .nil)))))) h8 (by simp [ev_var])
  refine ⟨k6E m n vs c3 j3 o8 o10' o12, ?_, rfl⟩
  unfold r_law_k06
  rw [exs_next e1, exs_next e2, exs_next e3, exs_next e4, exs_next e5, exs_next e6, exs_next e7, exs_next e8, exs_nil]
end M
/-! Closures: mathematics and mirrors. -/
namespace M
open Z
def addB (vs : List Int) (n i : Int) : Bool := !(bitsF n).contains i && decide (hv vs (n + ((2 ^ i.toNat : Nat) : Int)) = hv vs n)
def srcL (m : Int) : List Int := (List.range m.toNat).map fun (i : Nat) => ((i : Nat) : Int)
def cloF (vs : List Int) (m n : Int) : Int := n + (((srcL m).filter (addB vs n)).map fun i => ((2 ^ i.toNat : Nat) : Int)).sum
theorem clo_fold (vs : List Int) (n : Int) : ∀ (l : List Int) (acc : Int), l.foldl (fun acc i => if addB vs n i then acc + ((2 ^ i.toNat : Nat) : Int) else acc) acc = acc + ((l.filter (addB vs n)).map fun i => ((2 ^ i.toNat : Nat) : Int)).sum
  | [], acc => by simp
  | i :: l, acc => by
    rw [List.foldl_cons, clo_fold vs n l, List.filter_cons]
    cases h : addB vs n i with
    | true => rw [if_pos rfl, if_pos rfl, List.map_cons, List.sum_cons]; omega
    | false => rw [if_neg Bool.false_ne_true, if_neg Bool.false_ne_true]
theorem mem_srcL {m i : Int} : i ∈ srcL m ↔ 0 ≤ i ∧ i < m := by
  unfold srcL
  rw [List.mem_map]
  constructor
  · rintro ⟨k, hk, rfl⟩
    have := List.mem_range.mp hk
    omega
  · rintro ⟨h0, h1⟩
    exact ⟨i.toNat, List.mem_range.mpr (by omega), by omega⟩
/-! bits, by trying all -/
theorem bit_add : ∀ n : Fin 16, ∀ i : Fin 4, (bitsF ((n.1 : Nat) : Int)).contains ((i.1 : Nat) : Int) = n.1.testBit i.1 ∧ (n.1.testBit i.1 = false → n.1 + 2 ^ i.1 = n.1 ||| 2 ^ i.1 ∧ n.1 &&& (n.1 + 2 ^ i.1) = n.1) := by decide +kernel
theorem bit_lt : ∀ m : Fin 5, ∀ n : Fin 16, ∀ i : Fin 4, n.1 < 2 ^ m.1 → i.1 < m.1 → n.1.testBit i.1 = false → n.1 + 2 ^ i.1 < 2 ^ m.1 := by decide +kernel
theorem bit_step : ∀ X : Fin 16, ∀ n : Fin 16, ∀ i : Fin 4, n.1 &&& X.1 = n.1 → X.1.testBit i.1 = false → X.1 ||| (n.1 + 2 ^ i.1) = X.1 + 2 ^ i.1 ∧ X.1 &&& (n.1 + 2 ^ i.1) = n.1 ∧ n.1 &&& (X.1 + 2 ^ i.1) = n.1 ∧ X.1 &&& (X.1 + 2 ^ i.1) = X.1 := by decide +kernel
theorem bit_keep : ∀ X : Fin 16, ∀ i : Fin 4, ∀ j : Fin 4, X.1.testBit i.1 = false → i.1 ≠ j.1 → (X.1 + 2 ^ i.1).testBit j.1 = X.1.testBit j.1 := by decide +kernel
theorem bit_meet : ∀ x : Fin 16, ∀ y : Fin 16, ∀ i : Fin 4, (x.1 &&& y.1).testBit i.1 = false → x.1.testBit i.1 = false ∨ y.1.testBit i.1 = false := by decide +kernel
/-- behind some sources -/
theorem clo_part {m : Int} {vs : List Int} (hm : 1 ≤ m ∧ m ≤ 4) (he : ∀ f ∈ elemI m, 0 ≤ dot f vs) {n : Nat} (hn : n < pw m) : ∀ (l : List Nat) (X : Nat), X < pw m → n &&& X = n → hv vs (X : Nat) = hv vs (n : Nat) → l.Nodup → (∀ i ∈ l, (i : Int) < m) → (∀ i ∈ l, n.testBit i = false → X.testBit i = false) →
    ∃ Y : Nat, Y < pw m ∧ n &&& Y = n ∧ hv vs (Y : Nat) = hv vs (n : Nat) ∧ (l.map fun (i : Nat) => ((i : Nat) : Int)).foldl (fun acc i => if addB vs (n : Nat) i then acc + ((2 ^ i.toNat : Nat) : Int) else acc) (X : Nat) = ((Y : Nat) : Int) := by
  have hp := pw_vals hm
  intro l
  induction l with
  | nil => intro X hX h1 h2 _ _ _; exact ⟨X, hX, h1, h2, rfl⟩
  | cons i l ih =>
    intro X hX h1 h2 nd hl hb
    rw [List.nodup_cons] at nd
    have hi := hl i List.mem_cons_self
    have i4 : i < 4 := by omega
    rw [List.map_cons, List.foldl_cons]
    cases ha : addB vs (n : Nat) (i : Nat) with
    | false =>
      rw [if_neg Bool.false_ne_true]
      exact ih X hX h1 h2 nd.2 (fun j hj => hl j (List.mem_cons_of_mem _ hj)) (fun j hj => hb j (List.mem_cons_of_mem _ hj))
    | true =>
      rw [if_pos rfl]
      unfold addB at ha
      have hbn := bit_add ⟨n, by omega⟩ ⟨i, i4⟩
      have hbn1 : (bitsF ((n : Nat) : Int)).contains ((i : Nat) : Int) = n.testBit i := hbn.1
      rw [hbn1, Bool.and_eq_true, decide_eq_true_eq] at ha
      obtain ⟨a1, a2⟩ := ha
      have a1 : n.testBit i = false := by simpa using a1
      have hXi := hb i List.mem_cons_self a1
      obtain ⟨s1, s2, s3, s4⟩ := bit_step ⟨X, by omega⟩ ⟨n, by omega⟩ ⟨i, i4⟩ h1 hXi
      simp only at s1 s2 s3 s4
      have hmn : m.toNat < 5 := by omega
      have hY : X + 2 ^ i < pw m := bit_lt ⟨m.toNat, hmn⟩ ⟨X, by omega⟩ ⟨i, i4⟩ hX (by show i < m.toNat; omega) hXi
      have hnY : n + 2 ^ i < pw m := bit_lt ⟨m.toNat, hmn⟩ ⟨n, by omega⟩ ⟨i, i4⟩ hn (by show i < m.toNat; omega) a1
      have hsub := hv_sub hm he hX hnY
      rw [s1, s2] at hsub
      have hmono := hv_mono hm he hX hY s4
      have e0 : ((n : Nat) : Int) + ((2 ^ (((i : Nat) : Int)).toNat : Nat) : Int) = ((n + 2 ^ i : Nat) : Int) := by
        have : ((i : Nat) : Int).toNat = i := by omega
        rw [this]
        omega
      rw [e0] at a2
      have e1 : ((X : Nat) : Int) + ((2 ^ (((i : Nat) : Int)).toNat : Nat) : Int) = ((X + 2 ^ i : Nat) : Int) := by
        have : ((i : Nat) : Int).toNat = i := by omega
        rw [this]
        omega
      rw [e1]
      refine ih (X + 2 ^ i) hY s3 (by omega) nd.2 (fun j hj => hl j (List.mem_cons_of_mem _ hj)) (fun j hj hjn => ?_)
      have hne : i ≠ j := fun z => nd.1 (z ▸ hj)
      have j4 : j < 4 := by have := hl j (List.mem_cons_of_mem _ hj); omega
      have := bit_keep ⟨X, by omega⟩ ⟨i, i4⟩ ⟨j, j4⟩ hXi hne
      simp only at this
      rw [this]
      exact hb j (List.mem_cons_of_mem _ hj) hjn
theorem clo_facts {m : Int} {vs : List Int} (hm : 1 ≤ m ∧ m ≤ 4) (he : ∀ f ∈ elemI m, 0 ≤ dot f vs) {n : Nat} (hn : n < pw m) : ∃ Y : Nat, Y < pw m ∧ n &&& Y = n ∧ hv vs (Y : Nat) = hv vs (n : Nat) ∧ cloF vs m (n : Nat) = ((Y : Nat) : Int) := by
  obtain ⟨Y, h1, h2, h3, h4⟩ := clo_part hm he hn (List.range m.toNat) n hn (Nat.and_self n) rfl List.nodup_range (fun i hi => by have := List.mem_range.mp hi; omega) (fun i _ h => h)
  refine ⟨Y, h1, h2, h3, ?_⟩
  rw [← h4, clo_fold]
  rfl
theorem clo_le {vs : List Int} {m n : Int} : n ≤ cloF vs m n := by
  unfold cloF
  have : ∀ l : List Int, 0 ≤ (l.map fun i => ((2 ^ i.toNat : Nat) : Int)).sum := fun l => by
    induction l with
    | nil => exact Int.le_refl _
    | cons a l ih =>
      have h2 : (0 : Int) ≤ ((2 ^ a.toNat : Nat) : Int) := Int.natCast_nonneg _
      rw [List.map_cons, List.sum_cons]
      generalize ((2 ^ a.toNat : Nat) : Int) = w at h2 ⊢
      omega
  have := this ((srcL m).filter (addB vs n))
  omega
/-- its own closure -/
theorem clo_iff {vs : List Int} {m n : Int} : cloF vs m n = n ↔ ∀ i, 0 ≤ i → i < m → addB vs n i = false := by
  unfold cloF
  have pos : ∀ l : List Int, l ≠ [] → 0 < (l.map fun i => ((2 ^ i.toNat : Nat) : Int)).sum := fun l => by
    induction l with
    | nil => intro h; exact absurd rfl h
    | cons a l ih =>
      intro _
      have h2 : (0 : Int) < ((2 ^ a.toNat : Nat) : Int) := Int.ofNat_lt.mpr (Nat.two_pow_pos a.toNat)
      rw [List.map_cons, List.sum_cons]
      generalize ((2 ^ a.toNat : Nat) : Int) = w at h2 ⊢
      cases l with
      | nil => rw [List.map_nil, List.sum_nil]; omega
      | cons b l => have := ih (by simp); omega
  constructor
  · intro h i h0 h1
    cases ha : addB vs n i with
    | false => rfl
    | true =>
      have hne : (srcL m).filter (addB vs n) ≠ [] := fun z => by
        have : i ∈ (srcL m).filter (addB vs n) := List.mem_filter.mpr ⟨mem_srcL.mpr ⟨h0, h1⟩, ha⟩
        rw [z] at this
        cases this
      have := pos _ hne
      omega
  · intro h
    have : (srcL m).filter (addB vs n) = [] := List.filter_eq_nil_iff.mpr fun i hi => by
      have := mem_srcL.mp hi
      rw [h i this.1 this.2]
      simp
    rw [this]
    simp
theorem addB_iff {m : Int} {vs : List Int} (hm : 1 ≤ m ∧ m ≤ 4) {n i : Nat} (hn : n < pw m) (hi : (i : Int) < m) : addB vs (n : Nat) (i : Nat) = (!n.testBit i && decide (hv vs ((n + 2 ^ i : Nat) : Int) = hv vs (n : Nat))) := by
  have hp := pw_vals hm
  unfold addB
  have hbn : (bitsF ((n : Nat) : Int)).contains ((i : Nat) : Int) = n.testBit i := (bit_add ⟨n, by omega⟩ ⟨i, by omega⟩).1
  have e0 : ((n : Nat) : Int) + ((2 ^ (((i : Nat) : Int)).toNat : Nat) : Int) = ((n + 2 ^ i : Nat) : Int) := by
    have : ((i : Nat) : Int).toNat = i := by omega
    rw [this]
    omega
  rw [hbn, e0]
theorem clo_meet {m : Int} {vs : List Int} (hm : 1 ≤ m ∧ m ≤ 4) (he : ∀ f ∈ elemI m, 0 ≤ dot f vs) {x y : Nat} (hx : x < pw m) (hy : y < pw m) (cx : cloF vs m (x : Nat) = x) (cy : cloF vs m (y : Nat) = y) : cloF vs m ((x &&& y : Nat) : Int) = ((x &&& y : Nat) : Int) := by
  have hp := pw_vals hm
  rw [clo_iff] at cx cy ⊢
  intro i h0 h1
  obtain ⟨i, rfl⟩ := Int.eq_ofNat_of_zero_le h0
  have i4 : i < 4 := by omega
  have hz : x &&& y < pw m := Nat.lt_of_le_of_lt Nat.and_le_left hx
  show addB vs _ ((i : Nat) : Int) = false
  rw [addB_iff hm hz h1]
  cases hb : (x &&& y).testBit i with
  | true => rfl
  | false =>
    have hmn : m.toNat < 5 := by omega
    rw [Bool.not_false, Bool.true_and]
    apply decide_eq_false
    intro heq
    have hzi : (x &&& y) + 2 ^ i < pw m := bit_lt ⟨m.toNat, hmn⟩ ⟨x &&& y, by omega⟩ ⟨i, i4⟩ hz (by show i < m.toNat; omega) hb
    have main : ∀ w : Nat, w < pw m → (x &&& y) &&& w = x &&& y → w.testBit i = false → addB vs (w : Nat) ((i : Nat) : Int) = false → False := fun w hw hzw hwi hadd => by
      obtain ⟨s1, s2, s3, s4⟩ := bit_step ⟨w, by omega⟩ ⟨x &&& y, by omega⟩ ⟨i, i4⟩ hzw hwi
      simp only at s1 s2 s3 s4
      have hwi' : w + 2 ^ i < pw m := bit_lt ⟨m.toNat, hmn⟩ ⟨w, by omega⟩ ⟨i, i4⟩ hw (by show i < m.toNat; omega) hwi
      have hsub := hv_sub hm he hw hzi
      rw [s1, s2] at hsub
      have hmono := hv_mono hm he hw hwi' s4
      rw [addB_iff hm hw h1, hwi, Bool.not_false, Bool.true_and, decide_eq_false_iff_not] at hadd
      exact hadd (by omega)
    rcases bit_meet ⟨x, by omega⟩ ⟨y, by omega⟩ ⟨i, i4⟩ hb with h | h
    · exact main x hx (by rw [Nat.and_assoc, Nat.and_comm y x, ← Nat.and_assoc, Nat.and_self]) h (cx _ h0 h1)
    · exact main y hy (by rw [Nat.and_assoc, Nat.and_self]) h (cy _ h0 h1)
theorem clo_whole {m : Int} {vs : List Int} (hm : 1 ≤ m ∧ m ≤ 4) (he : ∀ f ∈ elemI m, 0 ≤ dot f vs) : cloF vs m (((pw m : Nat) : Int) - 1) = ((pw m : Nat) : Int) - 1 := by
  have hp := pw_vals hm
  obtain ⟨Y, h1, _, _, h4⟩ := clo_facts (vs := vs) hm he (n := pw m - 1) (by omega)
  have e : ((pw m - 1 : Nat) : Int) = ((pw m : Nat) : Int) - 1 := by omega
  rw [e] at h4
  have := clo_le (vs := vs) (m := m) (n := ((pw m : Nat) : Int) - 1)
  omega
end M
/-! Closures: mirrors. -/
namespace M
open Z
def F_closed (x y : D) : Ans := match tint? x, y with
  | some vs, .int n => if rowLen vs.length = true ∧ 0 ≤ n ∧ n ≤ vs.length then some (.ok (.int (cloF vs (srcI vs.length) n))) else none
  | _, _ => none
theorem closed_at {m : Int} {vs : List Int} {n : Int} (hm : 1 ≤ m ∧ m ≤ 4) (hl : vs.length = pw m - 1) (h0 : 0 ≤ n) (h1 : n < ((pw m : Nat) : Int)) : F_closed (tupI vs) (.int n) = some (.ok (.int (cloF vs m n))) := by
  have hp := pw_vals hm
  unfold F_closed
  simp only [tint?_tupI]
  rw [if_pos ⟨by rw [hl]; exact rowLen_pw hm, h0, by omega⟩, hl, srcI_pw hm]
theorem srcL_range {m : Int} (hm : 1 ≤ m ∧ m ≤ 4) : rangeD 0 m = some ((srcL m).map .int) := by
  rw [range_ok (by omega)]
  unfold srcL
  rw [List.map_map]
  congr 2
  · funext k; simp
  · congr 1; omega
theorem add_lt {m : Int} (hm : 1 ≤ m ∧ m ≤ 4) {n i : Int} (h0 : 0 ≤ n) (h1 : n < ((pw m : Nat) : Int)) (i0 : 0 ≤ i) (i1 : i < m) (hb : (bitsF n).contains i = false) : n + ((2 ^ i.toNat : Nat) : Int) < ((pw m : Nat) : Int) := by
  have hp := pw_vals hm
  obtain ⟨n, rfl⟩ := Int.eq_ofNat_of_zero_le h0
  obtain ⟨i, rfl⟩ := Int.eq_ofNat_of_zero_le i0
  have i4 : i < 4 := by omega
  have hbn : (bitsF ((n : Nat) : Int)).contains ((i : Nat) : Int) = n.testBit i := (bit_add ⟨n, by omega⟩ ⟨i, i4⟩).1
  have hn : n < 2 ^ m.toNat := by
    have : n < pw m := by omega
    exact this
  have h5 := bit_lt ⟨m.toNat, by omega⟩ ⟨n, by omega⟩ ⟨i, i4⟩ hn (by show i < m.toNat; omega) (by rw [← hbn]; exact hb)
  have h5 : n + 2 ^ i < pw m := h5
  have e : ((i : Nat) : Int).toNat = i := by omega
  rw [e]
  omega
def cloStep (vs : List Int) (n acc : Int) (d : D) : Int := match d with
  | .int i => if addB vs n i then acc + ((2 ^ i.toNat : Nat) : Int) else acc
  | _ => acc
theorem cloStep_int (vs : List Int) (n acc i : Int) : cloStep vs n acc (.int i) = if addB vs n i then acc + ((2 ^ i.toNat : Nat) : Int) else acc := rfl
theorem mir_closed {G : Gam} (h1 : G .sources_of = sem1 F_sources_of) (h2 : G .bits_of = sem1 F_l_bits) (h3 : G .value_at = sem2 F_value_at) : Mir0 G 4 2 b_closed (sem2 F_closed) := mir_sem2 fun x y r h => by
  unfold F_closed at h
  split at h
  · rename_i vs n hx
    have hx := tint?_eq hx
    subst hx
    split at h
    · rename_i hc
      obtain ⟨v1, n0, n1⟩ := hc
      cases h
      have hso := src_of_at v1
      obtain ⟨_, s2, s3, s4⟩ := srcI_ok v1
      generalize hme : srcI vs.length = m at s2 s3 s4 hso ⊢
      have hm : 1 ≤ m ∧ m ≤ 4 := ⟨s2, s3⟩
      have hp := pw_vals hm
      obtain ⟨env', hl, o3, rfl⟩ := forL_rel (α := Int) (R := fun acc env => ∃ o3, env = [some (.val (tupI vs)), some (.val (.int n)), some (.val (.int acc)), o3]) (f := cloStep vs n) (step := stepF G 0 (.name 3) [.if_ (.and_ (.cmp .nmem (.var 3) (.call .bits_of [] (.cons (.var 1) .nil))) (.cmp .eq (.call .value_at [] (.cons (.var 0) (.cons (.bin .add (.var 1) (.idx (.glob .powers) (.var 3))) .nil))) (.call .value_at [] (.cons (.var 0) (.cons (.var 1) .nil))))) [.aug 2 .add (.idx (.glob .powers) (.var 3))] []]) (items := (srcL m).map .int) (fun acc env d hd ⟨o3, he⟩ => by
        subst he
        obtain ⟨i, hi, rfl⟩ := List.mem_map.mp hd
        have hi := mem_srcL.mp hi
        have hpi := (pow_idx3 (v := i) (by omega)).1
        have hb := nmem_ints (ns := bitsF n) (i := i)
        rw [cloStep_int]
        cases hc : (bitsF n).contains i with
        | true =>
          have ha : addB vs n i = false := by unfold addB; rw [hc]; rfl
          rw [hc] at hb
          rw [ha, if_neg Bool.false_ne_true]
          refine ⟨[some (.val (tupI vs)), some (.val (.int n)), some (.val (.int acc)), some (.val (.int i))], ?_, _, rfl⟩
          simp [stepF, Z.asg_name, exs_cons, ev_var, ev_call, owned, h2, F_l_bits, giveBack, hb]
        | false =>
          rw [hc] at hb
          have hlt := add_lt hm n0 (by omega) hi.1 hi.2 hc
          have hw : (0 : Int) ≤ ((2 ^ i.toNat : Nat) : Int) := Int.natCast_nonneg _
          have ha : addB vs n i = decide (hv vs (n + ((2 ^ i.toNat : Nat) : Int)) = hv vs n) := by unfold addB; rw [hc]; rfl
          rw [ha]
          generalize ((2 ^ i.toNat : Nat) : Int) = w at hpi hlt hw ⊢
          have va1 := value_at_at (vs := vs) (n := n + w) (by omega) (by omega)
          have va2 := value_at_at (vs := vs) (n := n) n0 n1
          refine ⟨[some (.val (tupI vs)), some (.val (.int n)), some (.val (.int (if decide (hv vs (n + w) = hv vs n) = true then acc + w else acc))), some (.val (.int i))], ?_, _, rfl⟩
          by_cases heq : hv vs (n + w) = hv vs n
          · simp [stepF, Z.asg_name, exs_cons, ev_var, ev_call, owned, h2, h3, F_l_bits, giveBack, hb, hpi, va1, va2, heq, setAt]
          · simp [stepF, Z.asg_name, exs_cons, ev_var, ev_call, owned, h2, h3, F_l_bits, giveBack, hb, hpi, va1, va2, heq]) n [some (.val (tupI vs)), some (.val (.int n)), some (.val (.int n)), none] ⟨none, rfl⟩
      have hfold : ((srcL m).map PySem.PyData.int).foldl (cloStep vs n) n = cloF vs m n := by
        rw [List.foldl_map]
        exact clo_fold vs n (srcL m) n
      rw [hfold] at hl
      have e2 := ex_for_same (it := .range1 (.call .sources_of [] (.cons (.var 0) .nil))) hl (evIt_r1 (i := m) (by simp [ev_var, ev_call, owned, h1, hso, giveBack]) (srcL_range hm))
      generalize cloF vs m n = res at e2
      refine runs_ret (fuel := 0) (env := [some (.val (tupI vs)), some (.val (.int n)), some (.val (.int res)), o3]) ?_
      have e1 : ex G 0 (.set 2 (.var 1)) (env0 4 [.val (tupI vs), .val (.int n)]) = some (.next [some (.val (tupI vs)), some (.val (.int n)), some (.val (.int n)), none]) := by
        simp [env0, List.replicate, ev_var, fresh, slotOf, setAt]
      unfold b_closed
      rw [show ([tupI vs, PySem.PyData.int n].map Slot.val) = [.val (tupI vs), .val (.int n)] from rfl, exs_next e1, exs_next e2]
      simp [exs_cons, ev_var]
    · cases h
  · cases h
def F_closure (x y : D) : Ans := if isMeas x then (match tint? x with
  | some vs => some (if isWhole y 0 (((pw (srcI vs.length) : Nat) : Int) - 1) then (match y with
    | .int n => .ok (.int (cloF vs (srcI vs.length) n))
    | _ => .error .set) else .error .set)
  | none => none) else some (.error .measure)
theorem mir_closure {G : Gam} (h1 : G .need_measure = sem1 F_need_measure) (h2 : G .need_set = sem2 F_need_set) (h3 : G .sources_of = sem1 F_sources_of) (h4 : G .closed = sem2 F_closed) : Mir0 G 2 2 b_closure (sem2 F_closure) := mir_sem2 fun x y r h => by
  unfold F_closure at h
  split at h
  · rename_i hx
    obtain ⟨vs, rfl, v1, v2, v3⟩ := isMeas_row hx
    simp only [tint?_tupI] at h
    cases h
    have hso := src_of_at v1
    obtain ⟨_, s2, s3, s4⟩ := srcI_ok v1
    generalize hme : srcI vs.length = m at s2 s3 s4 hso ⊢
    have hns : F_need_set (.int m) y = some (if isWhole y 0 (((pw m : Nat) : Int) - 1) then .ok .none else .error .set) := if_pos ⟨by omega, s3⟩
    by_cases hy : isWhole y 0 (((pw m : Nat) : Int) - 1) = true
    · rw [if_pos hy]
      rw [if_pos hy] at hns
      obtain ⟨n, rfl, n0, n1⟩ := isWhole_int hy
      have hc := closed_at (vs := vs) (n := n) ⟨s2, s3⟩ s4.symm n0 (by omega)
      show Runs G 2 b_closure [tupI vs, .int n] (.ok (.int (cloF vs m n)))
      generalize cloF vs m n = res at hc ⊢
      refine runs_ret (fuel := 0) (env := [some (.val (tupI vs)), some (.val (.int n))]) ?_
      simp [b_closure, exs_cons, env0, ev_var, ev_call, owned, h1, h2, h3, h4, F_need_measure, hx, hso, hns, hc, giveBack]
    · rw [if_neg hy]
      rw [if_neg hy] at hns
      refine runs_err (fuel := 0) (env := [some (.val (tupI vs)), some (.val y)]) ?_
      simp [b_closure, exs_cons, env0, ev_var, ev_call, owned, h1, h2, h3, F_need_measure, hx, hso, hns, giveBack]
  · rename_i hx
    cases h
    refine runs_err (fuel := 0) (env := [some (.val x), some (.val y)]) ?_
    simp [b_closure, exs_cons, env0, ev_var, ev_call, owned, h1, F_need_measure, hx]
theorem closure_at {m : Int} {vs : List Int} (hm : 1 ≤ m ∧ m ≤ 4) (hl : vs.length = pw m - 1) (h : isMeas (tupI vs) = true) (y : D) : F_closure (tupI vs) y = some (if isWhole y 0 (((pw m : Nat) : Int) - 1) then (match y with
    | .int n => .ok (.int (cloF vs m n))
    | _ => .error .set) else .error .set) := by
  unfold F_closure
  rw [if_pos h]
  simp only [tint?_tupI, hl, srcI_pw hm] <;> rfl
/-- all sets -/
def numL (m : Int) : List Int := (List.range (pw m)).map fun (n : Nat) => ((n : Nat) : Int)
theorem mem_numL {m n : Int} : n ∈ numL m ↔ 0 ≤ n ∧ n < ((pw m : Nat) : Int) := by
  unfold numL
  rw [List.mem_map]
  constructor
  · rintro ⟨k, hk, rfl⟩
    have := List.mem_range.mp hk
    omega
  · rintro ⟨h0, h1⟩
    exact ⟨n.toNat, List.mem_range.mpr (by omega), by omega⟩
theorem numL_range {m : Int} (hm : 1 ≤ m ∧ m ≤ 4) {k : Int} (hk : k = ((pw m : Nat) : Int)) : rangeD 0 k = some ((numL m).map .int) := by
  have hp := pw_vals hm
  subst hk
  rw [range_ok (by omega)]
  unfold numL
  rw [List.map_map]
  congr 2
  funext k
  simp
def shutP (vs : List Int) (m n : Int) : Bool := decide (cloF vs m n = n)
def shutF (vs : List Int) (m : Int) : List Int := (numL m).filter (shutP vs m)
def F_closed_sets (x : D) : Ans := if isMeas x then (match tint? x with
  | some vs => some (.ok (tupI (shutF vs (srcI vs.length))))
  | none => none) else some (.error .measure)
def intP (p : Int → Bool) (d : D) : Bool := match d with
  | .int n => p n
  | _ => false
theorem filter_ints (p : Int → Bool) (l : List Int) : ((l.map PySem.PyData.int).filter (intP p)).map (fun d => d) = (l.filter p).map .int := by
  rw [List.filter_map, List.map_map]
  rfl
theorem mir_closed_sets {G : Gam} (h1 : G .need_measure = sem1 F_need_measure) (h4 : G .closed = sem2 F_closed) : Mir0 G 2 1 b_closed_sets (sem1 F_closed_sets) := mir_sem1 fun x r h => by
  unfold F_closed_sets at h
  split at h
  · rename_i hx
    obtain ⟨vs, rfl, v1, v2, v3⟩ := isMeas_row hx
    simp only [tint?_tupI] at h
    cases h
    obtain ⟨_, s2, s3, s4⟩ := srcI_ok v1
    generalize hme : srcI vs.length = m at s2 s3 s4 ⊢
    have hm : 1 ≤ m ∧ m ≤ 4 := ⟨s2, s3⟩
    have hp := pw_vals hm
    have ec := ev_comp1 (G := G) (e := .var 1) (i := 1) (it := .range1 (.bin .add (.bi .len (.cons (.var 0) .nil)) (.int 1))) (c := .som (.cmp .eq (.call .closed [] (.cons (.var 0) (.cons (.var 1) .nil))) (.var 1))) (env := [some (.val (tupI vs)), none]) (items := (numL m).map .int) (p := intP (shutP vs m)) (f := fun d => d) (evIt_r1 (i := ((vs.length : Nat) : Int) + 1) (by simp [ev_var, len_tup]) (numL_range hm (by omega))) (noOwn_none rfl) (fun d hd => by
      obtain ⟨n, hn, rfl⟩ := List.mem_map.mp hd
      have hn := mem_numL.mp hn
      have hc := closed_at (vs := vs) (n := n) hm s4.symm hn.1 hn.2
      show evo G _ _ = some (.ok (decide (cloF vs m n = n)) _)
      generalize cloF vs m n = res at hc ⊢
      simp [ev_var, ev_call, owned, h4, hc, giveBack]) (fun d hd _ => by
      obtain ⟨n, hn, rfl⟩ := List.mem_map.mp hd
      simp [ev_var])
    rw [filter_ints] at ec
    show Runs G 2 b_closed_sets [tupI vs] (.ok (tupI (shutF vs m)))
    have ec : ev G _ _ = some (.ok (.imm (.list ((shutF vs m).map .int))) _) := ec
    generalize shutF vs m = ws at ec ⊢
    refine runs_ret (fuel := 0) (env := [some (.val (tupI vs)), none]) ?_
    simp [b_closed_sets, exs_cons, env0, ev_var, ev_call, owned, h1, F_need_measure, hx, giveBack, ec, tuple_of, -bi_tupleL]
  · rename_i hx
    cases h
    refine runs_err (fuel := 0) (env := [some (.val x), none]) ?_
    simp [b_closed_sets, exs_cons, env0, ev_var, ev_call, owned, h1, F_need_measure, hx]
theorem closed_sets_at {m : Int} {vs : List Int} (hm : 1 ≤ m ∧ m ≤ 4) (hl : vs.length = pw m - 1) (h : isMeas (tupI vs) = true) : F_closed_sets (tupI vs) = some (.ok (tupI (shutF vs m))) := by
  unfold F_closed_sets
  rw [if_pos h]
  simp only [tint?_tupI, hl, srcI_pw hm]
end M
/-! Keys. -/
namespace M
open Z
def lessF (n : Int) : List Int := (bitsF n).map fun i => n - ((2 ^ i.toNat : Nat) : Int)
def keyP (vs : List Int) (m n : Int) : Bool := decide (cloF vs m n = ((pw m : Nat) : Int) - 1) && !((lessF n).any fun k => decide (cloF vs m k = ((pw m : Nat) : Int) - 1))
def keysF (vs : List Int) (m : Int) : List Int := (numL m).filter (keyP vs m)
theorem less_bits : ∀ n : Fin 16, ∀ i ∈ bitsF ((n.1 : Nat) : Int), 0 ≤ i ∧ i ≤ 3 ∧ 0 ≤ ((n.1 : Nat) : Int) - ((2 ^ i.toNat : Nat) : Int) := by decide +kernel
theorem bits_at {n : Int} (h0 : 0 ≤ n) (h1 : n < 16) {i : Int} (hi : i ∈ bitsF n) : 0 ≤ i ∧ i ≤ 3 ∧ 0 ≤ n - ((2 ^ i.toNat : Nat) : Int) := by
  have := less_bits ⟨n.toNat, by omega⟩ i (by rw [Int.toNat_of_nonneg h0]; exact hi)
  rw [Int.toNat_of_nonneg h0] at this
  exact this
theorem less_lt {n k : Int} (h0 : 0 ≤ n) (h1 : n < 16) (hk : k ∈ lessF n) : 0 ≤ k ∧ k < n := by
  unfold lessF at hk
  obtain ⟨i, hi, rfl⟩ := List.mem_map.mp hk
  have h := bits_at h0 h1 hi
  have h2 : (0 : Int) < ((2 ^ i.toNat : Nat) : Int) := Int.ofNat_lt.mpr (Nat.two_pow_pos i.toNat)
  generalize ((2 ^ i.toNat : Nat) : Int) = w at h h2 ⊢
  omega
theorem keys_ne {m : Int} {vs : List Int} (hm : 1 ≤ m ∧ m ≤ 4) (he : ∀ f ∈ elemI m, 0 ≤ dot f vs) : keysF vs m ≠ [] := by
  have hp := pw_vals hm
  have key : ∀ k : Nat, k < pw m → cloF vs m (k : Nat) = ((pw m : Nat) : Int) - 1 → ∃ n ∈ numL m, keyP vs m n = true := by
    intro k
    induction k using Nat.strongRecOn with
    | _ k ih =>
      intro hk hc
      by_cases h : ∃ j ∈ lessF (k : Nat), cloF vs m j = ((pw m : Nat) : Int) - 1
      · obtain ⟨j, hj, hcj⟩ := h
        have hjl := less_lt (n := (k : Nat)) (by omega) (by omega) hj
        have e : ((j.toNat : Nat) : Int) = j := by omega
        exact ih j.toNat (by omega) (by omega) (by rw [e]; exact hcj)
      · refine ⟨(k : Nat), mem_numL.mpr ⟨by omega, by omega⟩, ?_⟩
        unfold keyP
        rw [decide_eq_true hc, Bool.true_and]
        have : ((lessF (k : Nat)).any fun k => decide (cloF vs m k = ((pw m : Nat) : Int) - 1)) = false := by
          rw [List.any_eq_false]
          intro j hj z
          exact h ⟨j, hj, of_decide_eq_true z⟩
        rw [this]
        rfl
  have e : ((pw m - 1 : Nat) : Int) = ((pw m : Nat) : Int) - 1 := by omega
  obtain ⟨n, h1, h2⟩ := key (pw m - 1) (by omega) (by rw [e]; exact clo_whole hm he)
  intro z
  have : n ∈ keysF vs m := List.mem_filter.mpr ⟨h1, h2⟩
  rw [z] at this
  cases this
/-- a loop that keeps some -/
theorem loop_filter {step : D → Env → Option SO} {E : List Int → Option Slot → Option Slot → Env} {Q : Option Slot → Prop} {p : Int → Bool} {dom : Int → Prop} (hs : ∀ (acc : List Int) (n : Int) (o o' : Option Slot), dom n → acc.length < 1000 → Q o' → ∃ o1 o1', Q o1' ∧ step (.int n) (E acc o o') = some (.next (E (if p n then acc ++ [n] else acc) o1 o1'))) :
    ∀ (l acc : List Int) (o o' : Option Slot), (∀ n ∈ l, dom n) → acc.length + l.length ≤ 1000 → Q o' → ∃ o1 o1', Q o1' ∧ forL step (l.map .int) (E acc o o') = some (.next (E (acc ++ l.filter p) o1 o1')) := by
  intro l
  induction l with
  | nil => intro acc o o' _ _ q; exact ⟨o, o', q, by rw [List.filter_nil, List.append_nil]; rfl⟩
  | cons n l ih =>
    intro acc o o' hd hl q
    rw [List.length_cons] at hl
    obtain ⟨o1, o1', q1, h1⟩ := hs acc n o o' (hd n List.mem_cons_self) (by omega) q
    obtain ⟨o2, o2', q2, h2⟩ := ih (if p n then acc ++ [n] else acc) o1 o1' (fun k hk => hd k (List.mem_cons_of_mem _ hk)) (by split <;> (try rw [List.length_append, List.length_singleton]) <;> omega) q1
    refine ⟨o2, o2', q2, ?_⟩
    rw [List.map_cons]
    unfold forL
    rw [h1]
    simp only
    rw [h2, List.filter_cons]
    cases p n with
    | true => simp
    | false => simp
def F_keys (x : D) : Ans := if isMeas x then (match tint? x with
  | some vs => some (.ok (tupI (keysF vs (srcI vs.length))))
  | none => none) else some (.error .measure)
theorem keys_at {m : Int} {vs : List Int} (hm : 1 ≤ m ∧ m ≤ 4) (hl : vs.length = pw m - 1) (h : isMeas (tupI vs) = true) : F_keys (tupI vs) = some (.ok (tupI (keysF vs m))) := by
  unfold F_keys
  rw [if_pos h]
  simp only [tint?_tupI, hl, srcI_pw hm]
theorem numL_len {m : Int} (hm : 1 ≤ m ∧ m ≤ 4) : (numL m).length ≤ 16 := by
  have hp := pw_vals hm
  unfold numL
  rw [List.length_map, List.length_range]
  omega
theorem any_ints (p : Int → Bool) (l : List Int) : biD .any [.list (l.map fun n => .bool (p n))] = some (.bool (l.any p)) := by
  rw [bi_any, bools?_map]
  simp [List.any_map]
theorem mir_keys {G : Gam} (h1 : G .need_measure = sem1 F_need_measure) (h2 : G .bits_of = sem1 F_l_bits) (h4 : G .closed = sem2 F_closed) : Mir0 G 7 1 b_keys (sem1 F_keys) := mir_sem1 fun x r h => by
  unfold F_keys at h
  split at h
  · rename_i hx
    obtain ⟨vs, rfl, v1, v2, v3⟩ := isMeas_row hx
    simp only [tint?_tupI] at h
    cases h
    obtain ⟨_, s2, s3, s4⟩ := srcI_ok v1
    generalize hme : srcI vs.length = m at s2 s3 s4 ⊢
    have hm : 1 ≤ m ∧ m ≤ 4 := ⟨s2, s3⟩
    have hp := pw_vals hm
    obtain ⟨o1, o1', _, hl⟩ := loop_filter (step := stepF G 0 (.name 3) [.set 4 (.comp (.bin .sub (.var 3) (.idx (.glob .powers) (.var 5))) (.name 5) (.of (.call .bits_of [] (.cons (.var 3) .nil))) .non), .if_ (.and_ (.cmp .eq (.call .closed [] (.cons (.var 0) (.cons (.var 3) .nil))) (.var 1)) (.not_ (.bi .any (.cons (.comp (.cmp .eq (.call .closed [] (.cons (.var 0) (.cons (.var 6) .nil))) (.var 1)) (.name 6) (.of (.var 4)) .non) .nil)))) [.app 2 (.var 3)] []]) (E := fun acc o o' => [some (.val (tupI vs)), some (.val (.int (((pw m : Nat) : Int) - 1))), some (.own false (acc.map .int)), o, o', none, none]) (Q := fun _ => True) (p := keyP vs m) (dom := fun n => 0 ≤ n ∧ n < ((pw m : Nat) : Int)) (fun acc n o o' hn hacc _ => by
      have ec4 := ev_comp1n (G := G) (e := .bin .sub (.var 3) (.idx (.glob .powers) (.var 5))) (i := 5) (it := .of (.call .bits_of [] (.cons (.var 3) .nil))) (env := [some (.val (tupI vs)), some (.val (.int (((pw m : Nat) : Int) - 1))), some (.own false (acc.map .int)), some (.val (.int n)), o', none, none]) (items := (bitsF n).map .int) (f := fun d => match d with | .int i => .int (n - ((2 ^ i.toNat : Nat) : Int)) | _ => .none) (by simp [ev_var, ev_call, owned, h2, F_l_bits, giveBack]) (noOwn_none rfl) (fun d hd => by
        obtain ⟨i, hi, rfl⟩ := List.mem_map.mp hd
        have hb := bits_at hn.1 (by omega) hi
        have hpi := (pow_idx3 (v := i) ⟨hb.1, hb.2.1⟩).1
        show frz _ = some (.ok (.int (n - ((2 ^ i.toNat : Nat) : Int))) _)
        generalize ((2 ^ i.toNat : Nat) : Int) = w at hpi ⊢
        simp [ev_var, hpi])
      rw [List.map_map] at ec4
      have ec4' : ((bitsF n).map ((fun d : D => match d with | .int i => (.int (n - ((2 ^ i.toNat : Nat) : Int)) : D) | _ => .none) ∘ PySem.PyData.int)) = (lessF n).map .int := by unfold lessF; rw [List.map_map]; rfl
      rw [ec4'] at ec4
      have hless : ∀ k ∈ lessF n, 0 ≤ k ∧ k < ((pw m : Nat) : Int) := fun k hk => by have := less_lt hn.1 (by omega) hk; omega
      have hc := closed_at (vs := vs) (n := n) hm s4.symm hn.1 hn.2
      have ec6 := ev_comp1ng (G := G) (e := .cmp .eq (.call .closed [] (.cons (.var 0) (.cons (.var 6) .nil))) (.var 1)) (i := 6) (it := .of (.var 4)) (env0 := [some (.val (tupI vs)), some (.val (.int (((pw m : Nat) : Int) - 1))), some (.own false (acc.map .int)), some (.val (.int n)), some (.own false ((lessF n).map .int)), none, none]) (env := [some (.val (tupI vs)), some (.val (.int (((pw m : Nat) : Int) - 1))), some (.own false (acc.map .int)), some (.val (.int n)), some (.val (.list ((lessF n).map .int))), none, none]) (items := (lessF n).map .int) (f := fun d => match d with | .int k => .bool (decide (cloF vs m k = ((pw m : Nat) : Int) - 1)) | _ => .none) (by simp [ev_var, frz_slot]) (noOwn_none rfl) (fun d hd => by
        obtain ⟨k, hk, rfl⟩ := List.mem_map.mp hd
        have hkr := hless k hk
        have hck := closed_at (vs := vs) (n := k) hm s4.symm hkr.1 hkr.2
        show frz _ = some (.ok (.bool (decide (cloF vs m k = ((pw m : Nat) : Int) - 1))) _)
        generalize cloF vs m k = res at hck ⊢
        simp [ev_var, ev_call, owned, h4, hck, giveBack])
      rw [List.map_map] at ec6
      have ec6' : ((lessF n).map ((fun d : D => match d with | .int k => (.bool (decide (cloF vs m k = ((pw m : Nat) : Int) - 1)) : D) | _ => .none) ∘ PySem.PyData.int)) = (lessF n).map fun k => .bool (decide (cloF vs m k = ((pw m : Nat) : Int) - 1)) := rfl
      rw [ec6'] at ec6
      have hany := any_ints (fun k => decide (cloF vs m k = ((pw m : Nat) : Int) - 1)) (lessF n)
      generalize ((lessF n).map fun k => (.bool (decide (cloF vs m k = ((pw m : Nat) : Int) - 1)) : D)) = bs at ec6 hany
      have hkp : keyP vs m n = (decide (cloF vs m n = ((pw m : Nat) : Int) - 1) && !((lessF n).any fun k => decide (cloF vs m k = ((pw m : Nat) : Int) - 1))) := rfl
      generalize ((lessF n).any fun k => decide (cloF vs m k = ((pw m : Nat) : Int) - 1)) = b at hany hkp
      generalize cloF vs m n = res at hc hkp
      have hlim : acc.length < lim := by show acc.length < 16777216; omega
      have e4 : ex G 0 (.set 4 (.comp (.bin .sub (.var 3) (.idx (.glob .powers) (.var 5))) (.name 5) (.of (.call .bits_of [] (.cons (.var 3) .nil))) .non)) [some (.val (tupI vs)), some (.val (.int (((pw m : Nat) : Int) - 1))), some (.own false (acc.map .int)), some (.val (.int n)), o', none, none] = some (.next [some (.val (tupI vs)), some (.val (.int (((pw m : Nat) : Int) - 1))), some (.own false (acc.map .int)), some (.val (.int n)), some (.own false ((lessF n).map .int)), none, none]) := by
        rw [ex_set, ec4]
        simp [fresh, slotOf, setAt]
      by_cases hw : res = ((pw m : Nat) : Int) - 1
      · refine ⟨some (.val (.int n)), some (.val (.list ((lessF n).map .int))), trivial, ?_⟩
        have hkp : keyP vs m n = !b := by rw [hkp, decide_eq_true hw, Bool.true_and]
        rw [hkp]
        unfold stepF
        simp only [Z.asg_name]
        rw [if_pos (by simp)]
        simp only [List.set_cons_succ, List.set_cons_zero]
        rw [exs_next e4]
        cases b with
        | true => simp [exs_cons, ev_var, ev_call, owned, h4, hc, giveBack, hw, ec6, hany]
        | false => simp [exs_cons, ev_var, ev_call, owned, h4, hc, giveBack, hw, ec6, hany, own?, appD, hlim]
      · refine ⟨some (.val (.int n)), some (.own false ((lessF n).map .int)), trivial, ?_⟩
        have hkp : keyP vs m n = false := by rw [hkp, decide_eq_false hw, Bool.false_and]
        rw [hkp]
        unfold stepF
        simp only [Z.asg_name]
        rw [if_pos (by simp)]
        simp only [List.set_cons_succ, List.set_cons_zero]
        rw [exs_next e4]
        simp [exs_cons, ev_var, ev_call, owned, h4, hc, giveBack, hw]) (numL m) [] none none (fun n hn => mem_numL.mp hn) (by have := numL_len hm; simp; omega) trivial
    rw [List.nil_append] at hl
    have hlen : biD .len [tupI vs] = some (.int (((pw m : Nat) : Int) - 1)) := by
      rw [len_tup, ← s4]
      congr 2
      omega
    have e4 := ex_for_same (it := .range1 (.bin .add (.var 1) (.int 1))) hl (evIt_r1 (i := ((pw m : Nat) : Int) - 1 + 1) (by simp [ev_var]) (numL_range hm (by omega)))
    have e4 : ex G 0 _ _ = some (.next [some (.val (tupI vs)), some (.val (.int (((pw m : Nat) : Int) - 1))), some (.own false ((keysF vs m).map .int)), o1, o1', none, none]) := e4
    show Runs G 7 b_keys [tupI vs] (.ok (tupI (keysF vs m)))
    generalize keysF vs m = ws at e4 ⊢
    refine runs_ret (fuel := 0) (env := [some (.val (tupI vs)), some (.val (.int (((pw m : Nat) : Int) - 1))), some (.own false (ws.map .int)), o1, o1', none, none]) ?_
    have f1 : ex G 0 (.drop (.call .need_measure [] (.cons (.var 0) .nil))) (env0 7 [.val (tupI vs)]) = some (.next [some (.val (tupI vs)), none, none, none, none, none, none]) := by
      simp [env0, List.replicate, ev_var, ev_call, owned, h1, F_need_measure, hx, giveBack]
    have f2 : ex G 0 (.set 1 (.bi .len (.cons (.var 0) .nil))) [some (.val (tupI vs)), none, none, none, none, none, none] = some (.next [some (.val (tupI vs)), some (.val (.int (((pw m : Nat) : Int) - 1))), none, none, none, none, none]) := by
      simp [ev_var, hlen, fresh, slotOf, setAt]
    have f3 : ex G 0 (.set 2 (.lst .nil)) [some (.val (tupI vs)), some (.val (.int (((pw m : Nat) : Int) - 1))), none, none, none, none, none] = some (.next [some (.val (tupI vs)), some (.val (.int (((pw m : Nat) : Int) - 1))), some (.own false (([] : List Int).map .int)), none, none, none, none]) := by
      simp [fresh, slotOf, setAt]
    unfold b_keys
    rw [show ([tupI vs].map Slot.val) = [.val (tupI vs)] from rfl, exs_next f1, exs_next f2, exs_next f3, exs_next e4]
    simp [exs_cons, ev_var, rd_slot, tuple_of, -bi_tupleL]
  · rename_i hx
    cases h
    refine runs_err (fuel := 0) (env := [some (.val x), none, none, none, none, none, none]) ?_
    simp [b_keys, exs_cons, env0, List.replicate, ev_var, ev_call, owned, h1, F_need_measure, hx]
end M
/-! Law k17: a round. -/
namespace M
open Z
def isV (o : Option Slot) : Prop := o = none ∨ ∃ d, o = some (.val d)
theorem isV_own {env : Env} {i : Nat} {o : Option Slot} (h : env[i]? = some o) (q : isV o) : noOwn env i := by
  rcases q with rfl | ⟨d, rfl⟩
  · exact noOwn_none h
  · exact noOwn_val h
abbrev k7E (m : Int) (vs : List Int) (c j : Int) (o6 o7 o8 o11 o12 o13 o14 o15 o16 : Option Slot) : Env := [none, some (.own false (dice c j)), some (.val (.int m)), some (.val (tupI vs)), some (.val (.int ((pw m : Nat) : Int))), some (.val (tupI (0 :: vs))), o6, o7, o8, none, none, o11, o12, o13, o14, o15, o16]
def freeF (m n : Int) : List Int := ((srcL m).filter fun i => !(bitsF n).contains i).map fun i => ((2 ^ i.toNat : Nat) : Int)
theorem free_sum {vs : List Int} {m n : Int} : n + ((freeF m n).filter fun w => decide (hv vs (n + w) = hv vs n)).sum = cloF vs m n := by
  unfold cloF freeF
  rw [List.filter_map, List.filter_filter]
  congr 1
  congr 1
  congr 1
  apply List.filter_congr
  intro i _
  unfold addB
  simp only [Function.comp]
  rw [Bool.and_comm]
theorem sum_ints (ns : List Int) : biD .sum [.list (ns.map .int)] = some (.int ns.sum) := by rw [bi_sum, ints?_ints]; rfl
theorem k7_free {G : Gam} (g3 : G .l_bits = sem1 F_l_bits) {m n c j : Int} {vs : List Int} {o6 o8 o11 o12 o13 o14 o15 o16 : Option Slot} (hm : 1 ≤ m ∧ m ≤ 4) :
    ev G (.comp (.idx (.lst (.cons (.int 1) (.cons (.int 2) (.cons (.int 4) (.cons (.int 8) .nil))))) (.var 9)) (.name 9) (.range1 (.var 2)) (.som (.cmp .nmem (.var 9) (.call .l_bits [] (.cons (.var 7) .nil))))) (k7E m vs c j o6 (some (.val (.int n))) o8 o11 o12 o13 o14 o15 o16) = some (.ok (.imm (.list ((freeF m n).map .int))) (k7E m vs c j o6 (some (.val (.int n))) o8 o11 o12 o13 o14 o15 o16)) := by
  have ec := ev_comp1 (G := G) (e := .idx (.lst (.cons (.int 1) (.cons (.int 2) (.cons (.int 4) (.cons (.int 8) .nil))))) (.var 9)) (i := 9) (it := .range1 (.var 2)) (c := .som (.cmp .nmem (.var 9) (.call .l_bits [] (.cons (.var 7) .nil)))) (env := k7E m vs c j o6 (some (.val (.int n))) o8 o11 o12 o13 o14 o15 o16) (items := (srcL m).map .int) (p := intP fun i => !(bitsF n).contains i) (f := fun d => match d with | .int i => .int ((2 ^ i.toNat : Nat) : Int) | _ => .none) (evIt_r1 (i := m) (by simp [ev_var]) (srcL_range hm)) (noOwn_none rfl) (fun d hd => by
    obtain ⟨i, hi, rfl⟩ := List.mem_map.mp hd
    have hb := nmem_ints (ns := bitsF n) (i := i)
    show evo G _ _ = some (.ok (!(bitsF n).contains i) _)
    generalize (bitsF n).contains i = bb at hb ⊢
    simp [ev_var, ev_call, owned, g3, F_l_bits, giveBack, hb]) (fun d hd _ => by
    obtain ⟨i, hi, rfl⟩ := List.mem_map.mp hd
    have hi := mem_srcL.mp hi
    have hpi := (pow_idx3 (v := i) (by omega)).2
    show frz _ = some (.ok (.int ((2 ^ i.toNat : Nat) : Int)) _)
    generalize ((2 ^ i.toNat : Nat) : Int) = w at hpi ⊢
    simp [ev_var, hpi])
  rw [ec]
  congr 3
  unfold freeF
  rw [List.filter_map, List.map_map, List.map_map]
  rfl
def k7Body : List S := [.set 8 (.comp (.idx (.lst (.cons (.int 1) (.cons (.int 2) (.cons (.int 4) (.cons (.int 8) .nil))))) (.var 9)) (.name 9) (.range1 (.var 2)) (.som (.cmp .nmem (.var 9) (.call .l_bits [] (.cons (.var 7) .nil))))), .app 6 (.bin .add (.var 7) (.bi .sum (.cons (.comp (.var 10) (.name 10) (.of (.var 8)) (.som (.cmp .eq (.idx (.var 5) (.bin .add (.var 7) (.var 10))) (.idx (.var 5) (.var 7))))) .nil))),
 .if_ (.or_ (.cmp .ne (.call .closure [] (.cons (.var 3) (.cons (.var 7) .nil))) (.idx (.var 6) (.neg (.int 1)))) (.cmp .ne (.idx (.var 5) (.idx (.var 6) (.neg (.int 1)))) (.idx (.var 5) (.var 7)))) [.ret (.bl false)] []]
theorem free_rng {m n w : Int} (hm : 1 ≤ m ∧ m ≤ 4) (h0 : 0 ≤ n) (h1 : n < ((pw m : Nat) : Int)) (hw : w ∈ freeF m n) : 0 ≤ w ∧ n + w < ((pw m : Nat) : Int) := by
  unfold freeF at hw
  obtain ⟨i, hi, rfl⟩ := List.mem_map.mp hw
  obtain ⟨hi, hb⟩ := List.mem_filter.mp hi
  have hi := mem_srcL.mp hi
  exact ⟨Int.natCast_nonneg _, add_lt hm h0 h1 hi.1 hi.2 (by simpa using hb)⟩
theorem last_list (ns : List Int) (x : Int) : idxD (.list ((ns ++ [x]).map .int)) (.int (-1)) = some (.int x) := by
  rw [idx_list, List.length_map]
  have hp : place? (ns ++ [x]).length (-1) = some ns.length := by unfold place?; simp; omega
  rw [hp, Option.bind_some, List.getElem?_map, List.getElem?_append_right (Nat.le_refl _), Nat.sub_self]
  rfl
theorem k7_turn {G : Gam} (g3 : G .l_bits = sem1 F_l_bits) (g4 : G .closure = sem2 F_closure) {m n c j : Int} {vs es : List Int} {o7 o8 : Option Slot} (hm : 1 ≤ m ∧ m ≤ 4) (hvs : IsMs m vs) (hn : 0 ≤ n ∧ n < ((pw m : Nat) : Int)) (hes : es.length < 1000) :
    ∃ o8', stepF G 0 (.name 7) k7Body (.int n) (k7E m vs c j (some (.own false (es.map .int))) o7 o8 none none none none none none) = some (.next (k7E m vs c j (some (.own false ((es ++ [cloF vs m n]).map .int))) (some (.val (.int n))) o8' none none none none none none)) := by
  have hp := pw_vals hm
  have hmeas := hvs.meas hm
  refine ⟨some (.val (.list ((freeF m n).map .int))), ?_⟩
  have ec1 := k7_free (G := G) g3 (m := m) (n := n) (c := c) (j := j) (vs := vs) (o6 := some (.own false (es.map .int))) (o8 := o8) (o11 := none) (o12 := none) (o13 := none) (o14 := none) (o15 := none) (o16 := none) hm
  have e1 : ex G 0 (.set 8 (.comp (.idx (.lst (.cons (.int 1) (.cons (.int 2) (.cons (.int 4) (.cons (.int 8) .nil))))) (.var 9)) (.name 9) (.range1 (.var 2)) (.som (.cmp .nmem (.var 9) (.call .l_bits [] (.cons (.var 7) .nil)))))) (k7E m vs c j (some (.own false (es.map .int))) (some (.val (.int n))) o8 none none none none none none) = some (.next (k7E m vs c j (some (.own false (es.map .int))) (some (.val (.int n))) (some (.own false ((freeF m n).map .int))) none none none none none none)) := by
    rw [ex_set, ec1]
    simp [fresh, slotOf, setAt]
  have hon := own_idx (vs := vs) (n := n) hn.1 (by rw [hvs.len]; omega)
  have ec2 := ev_comp1g (G := G) (e := .var 10) (i := 10) (it := .of (.var 8)) (c := .som (.cmp .eq (.idx (.var 5) (.bin .add (.var 7) (.var 10))) (.idx (.var 5) (.var 7)))) (env0 := k7E m vs c j (some (.own false (es.map .int))) (some (.val (.int n))) (some (.own false ((freeF m n).map .int))) none none none none none none) (env := k7E m vs c j (some (.own false (es.map .int))) (some (.val (.int n))) (some (.val (.list ((freeF m n).map .int)))) none none none none none none) (items := (freeF m n).map .int) (p := intP fun w => decide (hv vs (n + w) = hv vs n)) (f := fun d => d) (by simp [ev_var, frz_slot]) (noOwn_none rfl) (fun d hd => by
    obtain ⟨w, hw, rfl⟩ := List.mem_map.mp hd
    have hwr := free_rng hm hn.1 hn.2 hw
    have ho := own_idx (vs := vs) (n := n + w) (by omega) (by rw [hvs.len]; omega)
    show evo G _ _ = some (.ok (decide (hv vs (n + w) = hv vs n)) _)
    generalize hv vs (n + w) = a at ho ⊢
    generalize hv vs n = b at hon ⊢
    simp [ev_var, ho, hon]) (fun d hd _ => by
    obtain ⟨w, hw, rfl⟩ := List.mem_map.mp hd
    simp [ev_var])
  rw [filter_ints] at ec2
  have hsum := sum_ints ((freeF m n).filter fun w => decide (hv vs (n + w) = hv vs n))
  have hclo := free_sum (vs := vs) (m := m) (n := n)
  generalize ((freeF m n).filter fun w => decide (hv vs (n + w) = hv vs n)) = fs at ec2 hsum hclo
  have hlim : es.length < lim := by show es.length < 16777216; omega
  have e2 : ex G 0 (.app 6 (.bin .add (.var 7) (.bi .sum (.cons (.comp (.var 10) (.name 10) (.of (.var 8)) (.som (.cmp .eq (.idx (.var 5) (.bin .add (.var 7) (.var 10))) (.idx (.var 5) (.var 7))))) .nil)))) (k7E m vs c j (some (.own false (es.map .int))) (some (.val (.int n))) (some (.own false ((freeF m n).map .int))) none none none none none none) = some (.next (k7E m vs c j (some (.own false ((es ++ [cloF vs m n]).map .int))) (some (.val (.int n))) (some (.val (.list ((freeF m n).map .int)))) none none none none none none)) := by
    rw [← hclo]
    simp [own?, ev_var, ec2, hsum, appD, hlim, -bi_sum]
  -- what is asked
  obtain ⟨n', rfl⟩ := Int.eq_ofNat_of_zero_le hn.1
  obtain ⟨Y, y1, y2, y3, y4⟩ := clo_facts hm hvs.el (n := n') (by omega)
  have hcl := closure_at hm hvs.len hmeas (.int (n' : Nat))
  rw [if_pos (by simp [isWhole]; omega)] at hcl
  have hcl : F_closure (tupI vs) (.int (n' : Nat)) = some (.ok (.int (cloF vs m (n' : Nat)))) := hcl
  have hoc := own_idx (vs := vs) (n := cloF vs m (n' : Nat)) (by rw [y4]; omega) (by rw [hvs.len, y4]; omega)
  have hcv : hv vs (cloF vs m (n' : Nat)) = hv vs (n' : Nat) := by rw [y4]; exact y3
  have hll := last_list es (cloF vs m (n' : Nat))
  have e3 : ex G 0 (.if_ (.or_ (.cmp .ne (.call .closure [] (.cons (.var 3) (.cons (.var 7) .nil))) (.idx (.var 6) (.neg (.int 1)))) (.cmp .ne (.idx (.var 5) (.idx (.var 6) (.neg (.int 1)))) (.idx (.var 5) (.var 7)))) [.ret (.bl false)] []) (k7E m vs c j (some (.own false ((es ++ [cloF vs m (n' : Nat)]).map .int))) (some (.val (.int (n' : Nat)))) (some (.val (.list ((freeF m (n' : Nat)).map .int)))) none none none none none none) = some (.next (k7E m vs c j (some (.own false ((es ++ [cloF vs m (n' : Nat)]).map .int))) (some (.val (.int (n' : Nat)))) (some (.val (.list ((freeF m (n' : Nat)).map .int)))) none none none none none none)) := by
    rw [hcv] at hoc
    generalize hL : ((es ++ [cloF vs m (n' : Nat)]).map PySem.PyData.int) = L at hll
    generalize cloF vs m (n' : Nat) = cl at hcl hoc hll
    generalize hv vs (n' : Nat) = hn' at hoc hon
    simp [ev_var, ev_call, owned, g4, hcl, giveBack, rd_slot, hll, hoc, hon]
  unfold stepF
  simp only [Z.asg_name]
  rw [if_pos (by simp)]
  show exs G 0 k7Body (k7E m vs c j (some (.own false (es.map .int))) (some (.val (.int (n' : Nat)))) o8 none none none none none none) = _
  unfold k7Body
  rw [exs_next e1, exs_next e2, exs_next e3, exs_nil]
theorem k7_turns {G : Gam} (g3 : G .l_bits = sem1 F_l_bits) (g4 : G .closure = sem2 F_closure) {m c j : Int} {vs : List Int} (hm : 1 ≤ m ∧ m ≤ 4) (hvs : IsMs m vs) : ∀ (l es : List Int) (o7 o8 : Option Slot), isV o7 → (∀ n ∈ l, 0 ≤ n ∧ n < ((pw m : Nat) : Int)) → es.length + l.length ≤ 1000 → ∃ o7' o8', isV o7' ∧ forL (stepF G 0 (.name 7) k7Body) (l.map .int) (k7E m vs c j (some (.own false (es.map .int))) o7 o8 none none none none none none) = some (.next (k7E m vs c j (some (.own false ((es ++ l.map (cloF vs m)).map .int))) o7' o8' none none none none none none)) := by
  intro l
  induction l with
  | nil => intro es o7 o8 hv _ _; exact ⟨o7, o8, hv, by rw [List.map_nil (f := cloF vs m), List.append_nil]; rfl⟩
  | cons n l ih =>
    intro es o7 o8 _ hd hl
    rw [List.length_cons] at hl
    obtain ⟨o8', h1⟩ := k7_turn g3 g4 (c := c) (j := j) (o7 := o7) (o8 := o8) hm hvs (hd n List.mem_cons_self) (es := es) (by omega)
    obtain ⟨p7, p8, hv', h2⟩ := ih (es ++ [cloF vs m n]) (some (.val (.int n))) o8' (.inr ⟨_, rfl⟩) (fun k hk => hd k (List.mem_cons_of_mem _ hk)) (by rw [List.length_append, List.length_singleton]; omega)
    refine ⟨p7, p8, hv', ?_⟩
    rw [List.map_cons]
    unfold forL
    rw [h1]
    simp only
    rw [h2, List.append_assoc]
    rfl
end M
/-! Law k17: the rest of a round. -/
namespace M
open Z
def endsF (vs : List Int) (m : Int) : List Int := (numL m).map (cloF vs m)
theorem ends_idx {vs : List Int} {m n : Int} (h0 : 0 ≤ n) (h1 : n < ((pw m : Nat) : Int)) : idxD (.list ((endsF vs m).map .int)) (.int n) = some (.int (cloF vs m n)) := by
  have hk : n.toNat < pw m := by omega
  unfold endsF numL
  rw [idx_list, List.length_map, List.length_map, List.length_map, List.length_range, place_nat h0 (by omega), Option.bind_some, List.getElem?_map, List.getElem?_map, List.getElem?_map, List.getElem?_range hk]
  simp [Int.toNat_of_nonneg h0]
theorem eq_list_nil' (ns : List Int) : cmpD .eq (.list (ns.map .int)) (.list []) = some ns.isEmpty := by
  show (if PySem.SeqAt.shaped (.list (ns.map .int)) && PySem.SeqAt.shaped (.list []) then some (PySem.PyData.eqv (.list (ns.map .int)) (.list [])) else none) = _
  rw [shaped_ints ns]
  cases ns <;> rfl
/-- the sources of two sets -/
def meetF (x y : Int) : List Int := ((bitsF x).filter fun i => (bitsF y).contains i).map fun i => ((2 ^ i.toNat : Nat) : Int)
theorem meet_all : ∀ x : Fin 16, ∀ y : Fin 16, (meetF ((x.1 : Nat) : Int) ((y.1 : Nat) : Int)).sum = ((x.1 &&& y.1 : Nat) : Int) := by decide +kernel
abbrev k7F (m : Int) (vs : List Int) (c j : Int) (o7 o8 o11 o12 o13 o14 o15 o16 : Option Slot) : Env := k7E m vs c j (some (.own false ((endsF vs m).map .int))) o7 o8 o11 o12 o13 o14 o15 o16
theorem k7_shut {G : Gam} {m c j : Int} {vs : List Int} {o7 o8 : Option Slot} (hm : 1 ≤ m ∧ m ≤ 4) (h7 : isV o7) :
    ex G 0 (.set 11 (.comp (.var 7) (.name 7) (.range1 (.var 4)) (.som (.cmp .eq (.idx (.var 6) (.var 7)) (.var 7))))) (k7F m vs c j o7 o8 none none none none none none) = some (.next (k7F m vs c j o7 o8 (some (.own false ((shutF vs m).map .int))) none none none none none)) := by
  have ec := ev_comp1 (G := G) (e := .var 7) (i := 7) (it := .range1 (.var 4)) (c := .som (.cmp .eq (.idx (.var 6) (.var 7)) (.var 7))) (env := k7F m vs c j o7 o8 none none none none none none) (items := (numL m).map .int) (p := intP (shutP vs m)) (f := fun d => d) (evIt_r1 (i := ((pw m : Nat) : Int)) (by simp [ev_var]) (numL_range hm rfl)) (isV_own rfl h7) (fun d hd => by
    obtain ⟨n, hn, rfl⟩ := List.mem_map.mp hd
    have hn := mem_numL.mp hn
    have he := ends_idx (vs := vs) (m := m) hn.1 hn.2
    show evo G _ _ = some (.ok (decide (cloF vs m n = n)) _)
    generalize cloF vs m n = cl at he ⊢
    simp [ev_var, rd_slot, he]) (fun d hd _ => by
    obtain ⟨n, hn, rfl⟩ := List.mem_map.mp hd
    simp [ev_var])
  rw [filter_ints] at ec
  rw [ex_set, ec]
  simp [fresh, slotOf, setAt, shutF]
theorem k7_meet {G : Gam} (g3 : G .l_bits = sem1 F_l_bits) {m c j x y : Int} {vs : List Int} {o7 o8 o11 : Option Slot} (hm : 1 ≤ m ∧ m ≤ 4) (hx : 0 ≤ x ∧ x < ((pw m : Nat) : Int)) (hy : 0 ≤ y ∧ y < ((pw m : Nat) : Int)) :
    ev G (.bi .sum (.cons (.comp (.idx (.lst (.cons (.int 1) (.cons (.int 2) (.cons (.int 4) (.cons (.int 8) .nil))))) (.var 9)) (.name 9) (.of (.call .l_bits [] (.cons (.var 12) .nil))) (.som (.cmp .mem (.var 9) (.call .l_bits [] (.cons (.var 13) .nil))))) .nil)) (k7F m vs c j o7 o8 o11 (some (.val (.int x))) (some (.val (.int y))) none none none) = some (.ok (.imm (.int ((x.toNat &&& y.toNat : Nat) : Int))) (k7F m vs c j o7 o8 o11 (some (.val (.int x))) (some (.val (.int y))) none none none)) := by
  have hp := pw_vals hm
  have ec := ev_comp1 (G := G) (e := .idx (.lst (.cons (.int 1) (.cons (.int 2) (.cons (.int 4) (.cons (.int 8) .nil))))) (.var 9)) (i := 9) (it := .of (.call .l_bits [] (.cons (.var 12) .nil))) (c := .som (.cmp .mem (.var 9) (.call .l_bits [] (.cons (.var 13) .nil)))) (env := k7F m vs c j o7 o8 o11 (some (.val (.int x))) (some (.val (.int y))) none none none) (items := (bitsF x).map .int) (p := intP fun i => (bitsF y).contains i) (f := fun d => match d with | .int i => .int ((2 ^ i.toNat : Nat) : Int) | _ => .none) (by simp [ev_var, ev_call, owned, g3, F_l_bits, giveBack]) (noOwn_none rfl) (fun d hd => by
    obtain ⟨i, hi, rfl⟩ := List.mem_map.mp hd
    have hb := mem_ints' (ns := bitsF y) (i := i)
    show evo G _ _ = some (.ok ((bitsF y).contains i) _)
    generalize (bitsF y).contains i = bb at hb ⊢
    simp [ev_var, ev_call, owned, g3, F_l_bits, giveBack, hb]) (fun d hd _ => by
    obtain ⟨i, hi, rfl⟩ := List.mem_map.mp hd
    have hb := bits_at hx.1 (by omega) hi
    have hpi := (pow_idx3 (v := i) ⟨hb.1, hb.2.1⟩).2
    show frz _ = some (.ok (.int ((2 ^ i.toNat : Nat) : Int)) _)
    generalize ((2 ^ i.toNat : Nat) : Int) = w at hpi ⊢
    simp [ev_var, hpi])
  have el : (((bitsF x).map PySem.PyData.int).filter (intP fun i => (bitsF y).contains i)).map (fun d => match d with | .int i => (.int ((2 ^ i.toNat : Nat) : Int) : D) | _ => .none) = (meetF x y).map .int := by
    unfold meetF
    rw [List.filter_map, List.map_map, List.map_map]
    rfl
  rw [el] at ec
  have hs := meet_all ⟨x.toNat, by omega⟩ ⟨y.toNat, by omega⟩
  simp only [Int.toNat_of_nonneg hx.1, Int.toNat_of_nonneg hy.1] at hs
  have hsum := sum_ints (meetF x y)
  rw [hs] at hsum
  generalize ((meetF x y).map PySem.PyData.int) = L at ec hsum
  generalize ((x.toNat &&& y.toNat : Nat) : Int) = z at hsum ⊢
  simp [ec, hsum, -bi_sum]
theorem round_k17 {G : Gam} (g1 : G .l_roll = m_l_roll) (g2 : G .l_any_measure = m_any_measure) (g3 : G .l_bits = sem1 F_l_bits) (g4 : G .closure = sem2 F_closure) (g5 : G .closed_sets = sem1 F_closed_sets) (g6 : G .keys = sem1 F_keys) (c : Int) :
    ∃ env, exs G 0 r_law_k17 (envD 17 1 [.int c, .int 0]) = some (.next env) ∧ env.length = 17 := by
  show ∃ env, exs G 0 r_law_k17 [none, some (.own false (dice c 0)), none, none, none, none, none, none, none, none, none, none, none, none, none, none, none] = some (.next env) ∧ env.length = 17
  have hr1 := roll_range (c := c) (j := 0) (m := 4) (by decide)
  generalize hre1 : rollV c 0 4 = r1 at hr1
  generalize hc1 : rollC c 0 4 = c1
  generalize hj1 : rollJ c 0 4 = j1
  have hm : 1 ≤ 1 + r1 ∧ 1 + r1 ≤ 4 := by omega
  have e1 : ex G 0 (.set 2 (.bin .add (.int 1) (.call .l_roll [1] (.cons (.int 4) .nil)))) [none, some (.own false (dice c 0)), none, none, none, none, none, none, none, none, none, none, none, none, none, none, none] = some (.next [none, some (.own false (dice c1 j1)), some (.val (.int (1 + r1))), none, none, none, none, none, none, none, none, none, none, none, none, none, none]) := by
    simp [ev_roll1 g1, hre1, hc1, hj1, fresh, slotOf, setAt]
  generalize 1 + r1 = m at e1 hm
  obtain ⟨vs, c2, j2, hvs, hcall1⟩ := any_measure_at c1 j1 hm
  have hpw := pw_vals hm
  have hmeas := hvs.meas hm
  have hsz : idxD (.list [.int 2, .int 4, .int 8, .int 16]) (.int (m - 1)) = some (.int ((pw m : Nat) : Int)) := by
    rcases one4 hm with rfl | rfl | rfl | rfl <;> rfl
  have e2 : ex G 0 (.par [3, 4] (.cons (.call .l_any_measure [1] (.cons (.var 2) .nil)) (.cons (.idx (.lst (.cons (.int 2) (.cons (.int 4) (.cons (.int 8) (.cons (.int 16) .nil))))) (.bin .sub (.var 2) (.int 1))) .nil))) [none, some (.own false (dice c1 j1)), some (.val (.int m)), none, none, none, none, none, none, none, none, none, none, none, none, none, none] = some (.next [none, some (.own false (dice c2 j2)), some (.val (.int m)), some (.val (tupI vs)), some (.val (.int ((pw m : Nat) : Int))), none, none, none, none, none, none, none, none, none, none, none, none]) := by
    have k1 := call1 (G := G) (f := .l_any_measure) (ds := [.int m]) (es := .cons (.var 2) .nil) (env := [none, some (.own false (dice c1 j1)), some (.val (.int m)), none, none, none, none, none, none, none, none, none, none, none, none, none, none]) (s := 1) rfl (by simp [ev_var]) (by rw [g2]; exact hcall1)
    simp [k1, ev_var, hsz, fresh, slotOf, sets]
  have hown : binD .add (.tuple [.int 0]) (tupI vs) = some (tupI (0 :: vs)) := by
    unfold tupI
    rw [bin_addT (by simp [hvs.len]; omega)]
    rfl
  have e3 : ex G 0 (.par [5, 6] (.cons (.bin .add (.tup (.cons (.int 0) .nil)) (.var 3)) (.cons (.lst .nil) .nil))) [none, some (.own false (dice c2 j2)), some (.val (.int m)), some (.val (tupI vs)), some (.val (.int ((pw m : Nat) : Int))), none, none, none, none, none, none, none, none, none, none, none, none] = some (.next (k7E m vs c2 j2 (some (.own false (([] : List Int).map .int))) none none none none none none none none)) := by
    have hso : slotOf true (tupI (0 :: vs)) = .val (tupI (0 :: vs)) := rfl
    have hso2 : slotOf true (.list []) = .own false [] := rfl
    simp [ev_var, hown, fresh, hso, hso2, sets]
  obtain ⟨o7, o8, h7, hl4⟩ := k7_turns g3 g4 (c := c2) (j := j2) hm hvs (numL m) [] none none (.inl rfl) (fun n hn => mem_numL.mp hn) (by have := numL_len hm; simp; omega)
  rw [List.nil_append] at hl4
  have hl4 : forL (stepF G 0 (.name 7) k7Body) ((numL m).map .int) (k7E m vs c2 j2 (some (.own false (([] : List Int).map .int))) none none none none none none none none) = some (.next (k7F m vs c2 j2 o7 o8 none none none none none none)) := hl4
  have e4 := ex_for_same (it := .range1 (.var 4)) hl4 (evIt_r1 (i := ((pw m : Nat) : Int)) (by simp [ev_var]) (numL_range hm rfl))
  have e5 := k7_shut (G := G) (vs := vs) (c := c2) (j := j2) (o8 := o8) hm h7
  -- the closed sets
  have hcs := closed_sets_at hm hvs.len hmeas
  have hwhole : (shutF vs m).contains (((pw m : Nat) : Int) - 1) = true := by
    rw [List.contains_iff_mem]
    refine List.mem_filter.mpr ⟨mem_numL.mpr ⟨by omega, by omega⟩, ?_⟩
    exact decide_eq_true (clo_whole hm hvs.el)
  have hnm := nmem_ints (ns := shutF vs m) (i := ((pw m : Nat) : Int) - 1)
  rw [hwhole] at hnm
  have hshut : ∀ n ∈ shutF vs m, (0 ≤ n ∧ n < ((pw m : Nat) : Int)) ∧ cloF vs m n = n := fun n hn => by
    obtain ⟨h1, h2⟩ := List.mem_filter.mp hn
    exact ⟨mem_numL.mp h1, of_decide_eq_true h2⟩
  have hmeet : ∀ x ∈ shutF vs m, ∀ y ∈ shutF vs m, (shutF vs m).contains ((x.toNat &&& y.toNat : Nat) : Int) = true := fun x hx y hy => by
    obtain ⟨hx1, hx2⟩ := hshut x hx
    obtain ⟨hy1, hy2⟩ := hshut y hy
    rw [List.contains_iff_mem]
    have hlt : x.toNat &&& y.toNat < pw m := Nat.lt_of_le_of_lt Nat.and_le_left (by omega)
    refine List.mem_filter.mpr ⟨mem_numL.mpr ⟨by omega, by omega⟩, decide_eq_true ?_⟩
    exact clo_meet hm hvs.el (x := x.toNat) (y := y.toNat) (by omega) (by omega) (by rw [Int.toNat_of_nonneg hx1.1]; exact hx2) (by rw [Int.toNat_of_nonneg hy1.1]; exact hy2)
  generalize shutF vs m = sh at e5 hcs hnm hshut hmeet
  have e6 : ex G 0 (.if_ (.or_ (.cmp .ne (.call .closed_sets [] (.cons (.var 3) .nil)) (.bi .tuple (.cons (.var 11) .nil))) (.cmp .nmem (.bin .sub (.var 4) (.int 1)) (.var 11))) [.ret (.bl false)] []) (k7F m vs c2 j2 o7 o8 (some (.own false (sh.map .int))) none none none none none) = some (.next (k7F m vs c2 j2 o7 o8 (some (.own false (sh.map .int))) none none none none none)) := by
    simp [ev_var, ev_call, owned, g5, hcs, giveBack, rd_slot, tuple_of, ne_tup, hnm, -bi_tupleL]
  -- what two have in common
  obtain ⟨env7, h7', o12, o13, q12, q13, rfl⟩ := forL_inv (R := fun env => ∃ o12 o13, isV o12 ∧ isV o13 ∧ env = k7F m vs c2 j2 o7 o8 (some (.val (.list (sh.map .int)))) o12 o13 none none none) (step := stepF G 0 (.name 12) [.for_ (.name 13) (.of (.var 11)) [.if_ (.cmp .nmem (.bi .sum (.cons (.comp (.idx (.lst (.cons (.int 1) (.cons (.int 2) (.cons (.int 4) (.cons (.int 8) .nil))))) (.var 9)) (.name 9) (.of (.call .l_bits [] (.cons (.var 12) .nil))) (.som (.cmp .mem (.var 9) (.call .l_bits [] (.cons (.var 13) .nil))))) .nil)) (.var 11)) [.ret (.bl false)] []]]) (items := sh.map .int) (fun env d hd ⟨o12, o13, q12, q13, he⟩ => by
    subst he
    obtain ⟨x, hx, rfl⟩ := List.mem_map.mp hd
    obtain ⟨env8, h8, p13, r13, rfl⟩ := forL_inv (R := fun env => ∃ p13, isV p13 ∧ env = k7F m vs c2 j2 o7 o8 (some (.val (.list (sh.map .int)))) (some (.val (.int x))) p13 none none none) (step := stepF G 0 (.name 13) [.if_ (.cmp .nmem (.bi .sum (.cons (.comp (.idx (.lst (.cons (.int 1) (.cons (.int 2) (.cons (.int 4) (.cons (.int 8) .nil))))) (.var 9)) (.name 9) (.of (.call .l_bits [] (.cons (.var 12) .nil))) (.som (.cmp .mem (.var 9) (.call .l_bits [] (.cons (.var 13) .nil))))) .nil)) (.var 11)) [.ret (.bl false)] []]) (items := sh.map .int) (fun env d hd ⟨p13, r13, he⟩ => by
      subst he
      obtain ⟨y, hy, rfl⟩ := List.mem_map.mp hd
      have hsum := k7_meet (G := G) g3 (c := c2) (j := j2) (vs := vs) (o7 := o7) (o8 := o8) (o11 := some (.val (.list (sh.map .int)))) hm (hshut x hx).1 (hshut y hy).1
      have hn := nmem_ints (ns := sh) (i := ((x.toNat &&& y.toNat : Nat) : Int))
      rw [hmeet x hx y hy] at hn
      refine ⟨k7F m vs c2 j2 o7 o8 (some (.val (.list (sh.map .int)))) (some (.val (.int x))) (some (.val (.int y))) none none none, ?_, _, .inr ⟨_, rfl⟩, rfl⟩
      generalize ((x.toNat &&& y.toNat : Nat) : Int) = z at hsum hn
      unfold stepF
      simp only [Z.asg_name]
      rw [if_pos (by simp)]
      simp only [List.set_cons_succ, List.set_cons_zero]
      rw [exs_cons, ex_if, ev_cmp, hsum]
      simp [ev_var, hn]) (k7F m vs c2 j2 o7 o8 (some (.val (.list (sh.map .int)))) (some (.val (.int x))) o13 none none none) ⟨o13, q13, rfl⟩
    have ef := ex_for_same (it := .of (.var 11)) h8 (by simp [ev_var])
    refine ⟨k7F m vs c2 j2 o7 o8 (some (.val (.list (sh.map .int)))) (some (.val (.int x))) p13 none none none, ?_, _, _, .inr ⟨_, rfl⟩, r13, rfl⟩
    unfold stepF
    simp only [Z.asg_name]
    rw [if_pos (by simp)]
    simp only [List.set_cons_succ, List.set_cons_zero]
    rw [exs_next ef, exs_nil]) (k7F m vs c2 j2 o7 o8 (some (.val (.list (sh.map .int)))) none none none none none) ⟨none, none, .inl rfl, .inl rfl, rfl⟩
  have e7 := ex_for_of (G := G) (it := .of (.var 11)) (env := k7F m vs c2 j2 o7 o8 (some (.own false (sh.map .int))) none none none none none) (by simp [ev_var, frz_slot]) h7'
  have e8 : ex G 0 (.set 14 (.lst .nil)) (k7F m vs c2 j2 o7 o8 (some (.val (.list (sh.map .int)))) o12 o13 none none none) = some (.next (k7F m vs c2 j2 o7 o8 (some (.val (.list (sh.map .int)))) o12 o13 (some (.own false (([] : List Int).map .int))) none none)) := by
    simp [fresh, slotOf, setAt]
  -- keys
  obtain ⟨p7, p15, _, hl9⟩ := loop_filter (step := stepF G 0 (.name 7) [.set 15 (.comp (.bin .sub (.var 7) (.idx (.lst (.cons (.int 1) (.cons (.int 2) (.cons (.int 4) (.cons (.int 8) .nil))))) (.var 9))) (.name 9) (.of (.call .l_bits [] (.cons (.var 7) .nil))) .non), .if_ (.and_ (.cmp .eq (.idx (.var 6) (.var 7)) (.bin .sub (.var 4) (.int 1))) (.not_ (.bi .any (.cons (.comp (.cmp .eq (.idx (.var 6) (.var 12)) (.bin .sub (.var 4) (.int 1))) (.name 12) (.of (.var 15)) .non) .nil)))) [.app 14 (.var 7)] []]) (E := fun acc o o' => k7F m vs c2 j2 o o8 (some (.val (.list (sh.map .int)))) o12 o13 (some (.own false (acc.map .int))) o' none) (Q := fun _ => True) (p := keyP vs m) (dom := fun n => 0 ≤ n ∧ n < ((pw m : Nat) : Int)) (fun acc n o o' hn hacc _ => by
    have ec4 := ev_comp1n (G := G) (e := .bin .sub (.var 7) (.idx (.lst (.cons (.int 1) (.cons (.int 2) (.cons (.int 4) (.cons (.int 8) .nil))))) (.var 9))) (i := 9) (it := .of (.call .l_bits [] (.cons (.var 7) .nil))) (env := k7F m vs c2 j2 (some (.val (.int n))) o8 (some (.val (.list (sh.map .int)))) o12 o13 (some (.own false (acc.map .int))) o' none) (items := (bitsF n).map .int) (f := fun d => match d with | .int i => .int (n - ((2 ^ i.toNat : Nat) : Int)) | _ => .none) (by simp [ev_var, ev_call, owned, g3, F_l_bits, giveBack]) (noOwn_none rfl) (fun d hd => by
      obtain ⟨i, hi, rfl⟩ := List.mem_map.mp hd
      have hb := bits_at hn.1 (by omega) hi
      have hpi := (pow_idx3 (v := i) ⟨hb.1, hb.2.1⟩).2
      show frz _ = some (.ok (.int (n - ((2 ^ i.toNat : Nat) : Int))) _)
      generalize ((2 ^ i.toNat : Nat) : Int) = w at hpi ⊢
      simp [ev_var, hpi])
    rw [List.map_map] at ec4
    have ec4' : ((bitsF n).map ((fun d : D => match d with | .int i => (.int (n - ((2 ^ i.toNat : Nat) : Int)) : D) | _ => .none) ∘ PySem.PyData.int)) = (lessF n).map .int := by unfold lessF; rw [List.map_map]; rfl
    rw [ec4'] at ec4
    have hless : ∀ k ∈ lessF n, 0 ≤ k ∧ k < ((pw m : Nat) : Int) := fun k hk => by have := less_lt hn.1 (by omega) hk; omega
    have hc := ends_idx (vs := vs) (m := m) hn.1 hn.2
    have ec6 := ev_comp1ng (G := G) (e := .cmp .eq (.idx (.var 6) (.var 12)) (.bin .sub (.var 4) (.int 1))) (i := 12) (it := .of (.var 15)) (env0 := k7F m vs c2 j2 (some (.val (.int n))) o8 (some (.val (.list (sh.map .int)))) o12 o13 (some (.own false (acc.map .int))) (some (.own false ((lessF n).map .int))) none) (env := k7F m vs c2 j2 (some (.val (.int n))) o8 (some (.val (.list (sh.map .int)))) o12 o13 (some (.own false (acc.map .int))) (some (.val (.list ((lessF n).map .int)))) none) (items := (lessF n).map .int) (f := fun d => match d with | .int k => .bool (decide (cloF vs m k = ((pw m : Nat) : Int) - 1)) | _ => .none) (by simp [ev_var, frz_slot]) (isV_own rfl q12) (fun d hd => by
      obtain ⟨k, hk, rfl⟩ := List.mem_map.mp hd
      have hkr := hless k hk
      have hck := ends_idx (vs := vs) (m := m) hkr.1 hkr.2
      show frz _ = some (.ok (.bool (decide (cloF vs m k = ((pw m : Nat) : Int) - 1))) _)
      generalize cloF vs m k = res at hck ⊢
      simp [ev_var, rd_slot, hck])
    rw [List.map_map] at ec6
    have ec6' : ((lessF n).map ((fun d : D => match d with | .int k => (.bool (decide (cloF vs m k = ((pw m : Nat) : Int) - 1)) : D) | _ => .none) ∘ PySem.PyData.int)) = (lessF n).map fun k => .bool (decide (cloF vs m k = ((pw m : Nat) : Int) - 1)) := rfl
    rw [ec6'] at ec6
    have hany := any_ints (fun k => decide (cloF vs m k = ((pw m : Nat) : Int) - 1)) (lessF n)
    generalize ((lessF n).map fun k => (.bool (decide (cloF vs m k = ((pw m : Nat) : Int) - 1)) : D)) = bs at ec6 hany
    have hkp : keyP vs m n = (decide (cloF vs m n = ((pw m : Nat) : Int) - 1) && !((lessF n).any fun k => decide (cloF vs m k = ((pw m : Nat) : Int) - 1))) := rfl
    generalize ((lessF n).any fun k => decide (cloF vs m k = ((pw m : Nat) : Int) - 1)) = b at hany hkp
    have hlim : acc.length < lim := by show acc.length < 16777216; omega
    have e4 : ex G 0 (.set 15 (.comp (.bin .sub (.var 7) (.idx (.lst (.cons (.int 1) (.cons (.int 2) (.cons (.int 4) (.cons (.int 8) .nil))))) (.var 9))) (.name 9) (.of (.call .l_bits [] (.cons (.var 7) .nil))) .non)) (k7F m vs c2 j2 (some (.val (.int n))) o8 (some (.val (.list (sh.map .int)))) o12 o13 (some (.own false (acc.map .int))) o' none) = some (.next (k7F m vs c2 j2 (some (.val (.int n))) o8 (some (.val (.list (sh.map .int)))) o12 o13 (some (.own false (acc.map .int))) (some (.own false ((lessF n).map .int))) none)) := by
      rw [ex_set, ec4]
      simp [fresh, slotOf, setAt]
    have hstart : stepF G 0 (.name 7) [.set 15 (.comp (.bin .sub (.var 7) (.idx (.lst (.cons (.int 1) (.cons (.int 2) (.cons (.int 4) (.cons (.int 8) .nil))))) (.var 9))) (.name 9) (.of (.call .l_bits [] (.cons (.var 7) .nil))) .non), .if_ (.and_ (.cmp .eq (.idx (.var 6) (.var 7)) (.bin .sub (.var 4) (.int 1))) (.not_ (.bi .any (.cons (.comp (.cmp .eq (.idx (.var 6) (.var 12)) (.bin .sub (.var 4) (.int 1))) (.name 12) (.of (.var 15)) .non) .nil)))) [.app 14 (.var 7)] []] (.int n) (k7F m vs c2 j2 o o8 (some (.val (.list (sh.map .int)))) o12 o13 (some (.own false (acc.map .int))) o' none) = exs G 0 [.if_ (.and_ (.cmp .eq (.idx (.var 6) (.var 7)) (.bin .sub (.var 4) (.int 1))) (.not_ (.bi .any (.cons (.comp (.cmp .eq (.idx (.var 6) (.var 12)) (.bin .sub (.var 4) (.int 1))) (.name 12) (.of (.var 15)) .non) .nil)))) [.app 14 (.var 7)] []] (k7F m vs c2 j2 (some (.val (.int n))) o8 (some (.val (.list (sh.map .int)))) o12 o13 (some (.own false (acc.map .int))) (some (.own false ((lessF n).map .int))) none) := by
      unfold stepF
      simp only [Z.asg_name]
      rw [if_pos (by simp)]
      simp only [List.set_cons_succ, List.set_cons_zero]
      rw [exs_next e4]
    by_cases hw : cloF vs m n = ((pw m : Nat) : Int) - 1
    · refine ⟨some (.val (.int n)), some (.val (.list ((lessF n).map .int))), trivial, ?_⟩
      have hkp : keyP vs m n = !b := by rw [hkp, decide_eq_true hw, Bool.true_and]
      rw [hkp, hstart]
      rw [hw] at hc
      cases b with
      | true => simp [exs_cons, ev_var, rd_slot, hc, ec6, hany]
      | false => simp [exs_cons, ev_var, rd_slot, hc, ec6, hany, own?, appD, hlim]
    · refine ⟨some (.val (.int n)), some (.own false ((lessF n).map .int)), trivial, ?_⟩
      have hkp : keyP vs m n = false := by rw [hkp, decide_eq_false hw, Bool.false_and]
      rw [hkp, hstart]
      generalize cloF vs m n = res at hc hw
      simp [exs_cons, ev_var, rd_slot, hc, hw]) (numL m) [] o7 none (fun n hn => mem_numL.mp hn) (by have := numL_len hm; simp; omega) trivial
  rw [List.nil_append] at hl9
  have hl9 : forL _ ((numL m).map .int) (k7F m vs c2 j2 o7 o8 (some (.val (.list (sh.map .int)))) o12 o13 (some (.own false (([] : List Int).map .int))) none none) = some (.next (k7F m vs c2 j2 p7 o8 (some (.val (.list (sh.map .int)))) o12 o13 (some (.own false ((keysF vs m).map .int))) p15 none)) := hl9
  have e9 := ex_for_same (it := .range1 (.var 4)) hl9 (evIt_r1 (i := ((pw m : Nat) : Int)) (by simp [ev_var]) (numL_range hm rfl))
  have hks := keys_at hm hvs.len hmeas
  have hkne := keys_ne (vs := vs) hm hvs.el
  generalize keysF vs m = ks at e9 hks hkne
  have hnil : cmpD .eq (.list (ks.map .int)) (.list []) = some false := by
    rw [eq_list_nil']
    cases ks with
    | nil => exact absurd rfl hkne
    | cons a b => rfl
  have e10 : ex G 0 (.if_ (.or_ (.cmp .ne (.call .keys [] (.cons (.var 3) .nil)) (.bi .tuple (.cons (.var 14) .nil))) (.cmp .eq (.var 14) (.lst .nil))) [.ret (.bl false)] []) (k7F m vs c2 j2 p7 o8 (some (.val (.list (sh.map .int)))) o12 o13 (some (.own false (ks.map .int))) p15 none) = some (.next (k7F m vs c2 j2 p7 o8 (some (.val (.list (sh.map .int)))) o12 o13 (some (.own false (ks.map .int))) p15 none)) := by
    simp [ev_var, ev_call, owned, g6, hks, giveBack, rd_slot, tuple_of, ne_tup, hnil, -bi_tupleL]
  -- wrong sets
  have hnes := ne_err .set .set
  simp [clsName] at hnes
  obtain ⟨env11, h11, o16, rfl⟩ := forL_inv (R := fun env => ∃ o16, env = k7F m vs c2 j2 p7 o8 (some (.val (.list (sh.map .int)))) o12 o13 (some (.own false (ks.map .int))) p15 o16) (step := stepF G 0 (.name 16) [.if_ (.cmp .ne (.told (.call .closure [] (.cons (.var 3) (.cons (.var 16) .nil)))) (.tup (.cons (.str "error") (.cons (.str "InvalidSet") .nil)))) [.ret (.bl false)] []]) (items := [.int (-1), .int ((pw m : Nat) : Int), .bool true, .none]) (fun env d hd ⟨o16, he⟩ => by
    subst he
    refine ⟨k7F m vs c2 j2 p7 o8 (some (.val (.list (sh.map .int)))) o12 o13 (some (.own false (ks.map .int))) p15 (some (.val d)), ?_, _, rfl⟩
    have hd : isWhole d 0 (((pw m : Nat) : Int) - 1) = false := by
      simp only [List.mem_cons, List.not_mem_nil, or_false] at hd
      rcases hd with rfl | rfl | rfl | rfl
      · rfl
      · simp [isWhole]; omega
      · rfl
      · rfl
    have hk := closure_at hm hvs.len hmeas d
    rw [if_neg (by rw [hd]; simp)] at hk
    simp [stepF, Z.asg_name, exs_cons, ev_var, ev_call, owned, g4, hk, hnes]) (k7F m vs c2 j2 p7 o8 (some (.val (.list (sh.map .int)))) o12 o13 (some (.own false (ks.map .int))) p15 none) ⟨none, rfl⟩
  have e11 := ex_for_same (it := .of (.lst (.cons (.neg (.int 1)) (.cons (.var 4) (.cons (.bl true) (.cons .non .nil)))))) h11 (by simp [ev_var])
  refine ⟨k7F m vs c2 j2 p7 o8 (some (.val (.list (sh.map .int)))) o12 o13 (some (.own false (ks.map .int))) p15 o16, ?_, rfl⟩
  unfold r_law_k17
  rw [exs_next e1, exs_next e2, exs_next e3]
  refine (exs_next e4).trans ?_
  rw [exs_next e5, exs_next e6, exs_next e7, exs_next e8, exs_next e9, exs_next e10, exs_next e11, exs_nil]
end M
/-! A def of which nothing is promised; a row without telling. -/
namespace M
open PySem PySem.Spec PyProof.Rows L2 Z
def defN (K : Frag) (f : Fn) (ps : List Str) : Bool := decide (ps.length = arity f) && defB K (fnName f) ps fun _ _ _ => true
section
variable {n : Cn} {d : Md} {h : Heap}
theorem def_none {k : Nat} {f : Fn} {ps : List Str} {sem : M.Sem} (KX : d.K.In h) (Gn : h.Ns mainGlobals d.mg) (e : defN d.K f ps = true) (hs : ∀ xs ds, sem xs ds = none) : FOkS n sem d k f := by
  unfold defN at e
  rw [Bool.and_eq_true, decide_eq_true_eq] at e
  obtain ⟨ha, e⟩ := e
  obtain ⟨fa, oc, od, params, body, scope, kV, doc, pm, an, cdv, ct, osl, h1, h2, h3, h4, h5, _⟩ := defB_ok KX Gn e
  refine ⟨fa, _, ps, ?_, h4, h3, .all h5⟩
  have no : ∀ (vs : List V) (H : Hp) (Q : VK) (E : XK), ¬ (if byRef f then sp1 n (arity f) sem else sp0 n (arity f) sem) vs H Q E := by
    intro vs H Q E z
    cases hb : byRef f with
    | true =>
      rw [hb, if_pos rfl] at z
      obtain ⟨_, F, a, xs, us, ds, _, _, _, _, q⟩ := z
      rw [hs] at q
      exact q
    | false =>
      rw [hb, if_neg Bool.false_ne_true] at z
      obtain ⟨_, F, ds, _, _, q⟩ := z
      rw [hs] at q
      exact q
  exact ⟨fun vs H Q E z => (no vs H Q E z).elim, fun A outer s H args us vs Q E _ _ _ _ z => (no vs H Q E z).elim⟩
end
/-- the law's row, nothing told -/
theorem law_atN {l : PySem.W.OpenLaw} {w : World} {K : Frag} {mg : Str → Option Value} {fa : Addr} {h : Heap} {G : Gam} {N : List Str} {fs : List Fn} {gs : List Gc} {cs : List Cls} {most : Int} {b : List S} {k : Nat} (KX : K.In h) (Gn : h.Ns mainGlobals mg) (hfa : mg "law" = some (.ref fa))
    (e2 : mdB K gs cs = true) (e3 : roundsB K ["script", "most", "k"] [.l_cell] = true) (e4 : lawB K N fs gs cs false 0 most b = true) (hG : G .l_cell = m_l_cell) (e5 : defC K .l_cell ["script", "k"] ["script", "k"] [] [] [] b_l_cell = true) (hm0 : 0 ≤ most ∧ most ≤ 1000)
    (hf : ∀ d : Md, d.K = K → d.mg = mg → K.In d.base → d.base.Ns mainGlobals mg → ∀ g ∈ fs, FOk ⟨K, [], clA K⟩ G d k g)
    (hm : ∀ c : Int, ∃ env, exs G 0 b (envD N.length 1 [.int c, .int 0]) = some (.next env) ∧ env.length = N.length) (hk : 2 ≤ k) :
    LamX.LawAtS l w K (L2N.CX l.prog w) (k + 3) 63 "script" mg fa h := by
  obtain ⟨fl, oc, od, params, body, scope, kV, doc, pm, an, cdv, ct, osl, h1, h2, h3, h4, h5, h6⟩ := defB_ok KX Gn e4
  simp only [Bool.and_eq_true, decide_eq_true_eq] at h6
  obtain ⟨⟨⟨h6, h7⟩, h8⟩, h9⟩ := h6
  rw [hfa] at h4
  cases h4
  refine ⟨PySem.W.fnOf "law" "law" params body scope .none kV doc pm an cdv ct, [], spLaw ⟨K, [], clA K⟩, (fun p hp => by cases hp), (fun p hp => by cases hp), (fun p hp => by cases hp), (fun s u => .of_eq (h5 [u] rfl)), (fun H a ns hl _ hH hS => ⟨a, ns, rfl, hl, (fun p hp => by cases hp), hS, fun _ => rfl⟩), fun base KB GB TB => ?_⟩
  let n : Cn := ⟨K, [], clA K⟩
  let d : Md := ⟨l.prog, w, K, mg, base⟩
  have md : MdOk n d gs cs := md_ok (d := d) KB GB rfl rfl e2
  have hf := hf d rfl rfl KB GB
  have md0 : MdOk n d [] [] := md_ok (d := d) KB GB rfl rfl (by
    have e2 := e2
    unfold mdB at e2 ⊢
    simp only [Bool.and_eq_true] at e2 ⊢
    exact ⟨⟨e2.1.1, rfl⟩, rfl⟩)
  have cell : FOk n G d 1 .l_cell := by
    have := def_ok (G := G) (k := 0) (n := n) (d := d) (sem := m_l_cell) KB GB md0 e5 (fun g hg => by cases hg) mir_l_cell
    show FOkS n (G .l_cell) d 1 .l_cell
    rw [hG]
    exact this
  unfold roundsB at e3
  obtain ⟨fr, oc', od', params', body', scope', kV', doc', pm', an', cdv', ct', osl', r1, r2, r3, r4, r5, r6⟩ := defB_ok KB GB e3
  rw [Bool.and_eq_true] at r6
  have R := fn_news (n := n) (G := G) (d := d) (k := 1) (np := 2) (st := stOf "_law_rounds" params' body' scope') (s := roundsF) (fd := PySem.W.fnOf "_law_rounds" "_law_rounds" params' body' scope' .none kV' doc' pm' an' cdv' ct') md0 (fs := [.l_cell]) (fun g hg => by rw [List.mem_singleton.mp hg]; exact cell) ⟨⟨oc', od', kV', doc', pm', an', cdv', ct', osl', rfl, r1, r2⟩, r3⟩ (C8.fnScope_by r6.1) rfl rfl r6.2 (rounds_run hG)
  refine law_sound (n := n) (G := G) (d := d) (k := k) (kr := 2) (st := stOf "law" params body scope) (told := false) (sR := roundsF) md hf h1 h2 (C8.fnScope_by h6) h7 (fun z => by cases z) R (by omega) r4 r3 (.all r5) h8 fun ns hl => ?_
  refine ⟨(List.range (rnN most (ns.map fun i => ((.int i, .none) : M.D × M.D)).length).toNat).map fun (k : Nat) => [.int (cellV (ns.map fun i => ((.int i, .none) : M.D × M.D)) k), .int 0], ?_, fun l' hl' => ?_⟩
  · exact if_pos ⟨by rw [List.length_map]; exact hl, hm0.1, hm0.2, by rw [List.all_map]; exact List.all_eq_true.mpr fun _ _ => rfl⟩
  · obtain ⟨kk, _, rfl⟩ := List.mem_map.mp hl'
    exact hm _
end M
namespace M
open PySem PySem.Spec PyProof.Rows L2 Z
/-! ### the row of k17 -/
noncomputable def G_k17 : Gam
  | .l_cell => m_l_cell
  | .is_number => sem1 F_is_number
  | .sources_of => sem1 F_sources_of
  | .form_of => sem2 F_form_of
  | .sum_of => sem2 F_sum_of
  | .bits_of => sem1 F_l_bits
  | .value_at => sem2 F_value_at
  | .l_drawn => sem2 F_l_drawn
  | .l_bits => sem1 F_l_bits
  | .l_rank => sem1 F_l_rank
  | .is_whole => sem3 F_is_whole
  | .elementary_of => sem1 F_elementary_of
  | .closed => sem2 F_closed
  | .l_roll => m_l_roll
  | .l_of_rows => sem1 F_l_of_rows
  | .is_row => sem3 F_is_row
  | .need_set => sem2 F_need_set
  | .broken => sem1 F_broken
  | .l_any_rows => m_any_rows
  | .is_measure => sem1 F_is_measure
  | .l_any_measure => m_any_measure
  | .need_measure => sem1 F_need_measure
  | .closure => sem2 F_closure
  | .closed_sets => sem1 F_closed_sets
  | .keys => sem1 F_keys
  | _ => fun _ _ => none
def fs_k17 : List Fn := [.l_roll, .l_any_measure, .l_bits, .closure, .closed_sets, .keys]
def gs_k17 : List Gc := [.powers, .most]
def cs_k17 : List Cls := [.set, .measure]
def rowB_k17 (K : Frag) : Bool := defC K .is_number n_is_number ["value"] [] gs_k17 cs_k17 b_is_number &&
  (defC K .sources_of n_sources_of ["row"] [] gs_k17 cs_k17 b_sources_of &&
  (defC K .form_of n_form_of ["many", "parts"] [] gs_k17 cs_k17 b_form_of &&
  (defC K .sum_of n_sum_of ["form", "values"] [] gs_k17 cs_k17 b_sum_of &&
  (defC K .bits_of n_bits_of ["number"] [] gs_k17 cs_k17 b_bits_of &&
  (defC K .value_at n_value_at ["measure", "number"] [] gs_k17 cs_k17 b_value_at &&
  (defC K .l_drawn n_l_drawn ["cell", "k"] [] gs_k17 cs_k17 b_l_drawn &&
  (defC K .l_bits n_l_bits ["number"] [] gs_k17 cs_k17 b_l_bits &&
  (defC K .l_rank n_l_rank ["rows"] [] gs_k17 cs_k17 b_l_rank &&
  (defC K .is_whole n_is_whole ["value", "low", "high"] [.is_number] gs_k17 cs_k17 b_is_whole &&
  (defC K .elementary_of n_elementary_of ["many"] [.form_of] gs_k17 cs_k17 b_elementary_of &&
  (defC K .closed n_closed ["measure", "number"] [.sources_of, .bits_of, .value_at] gs_k17 cs_k17 b_closed &&
  (defC K .l_roll n_l_roll ["dice", "many"] [.l_drawn] gs_k17 cs_k17 b_l_roll &&
  (defC K .l_of_rows n_l_of_rows ["rows"] [.l_bits, .l_rank] gs_k17 cs_k17 b_l_of_rows &&
  (defC K .is_row n_is_row ["value", "low", "high"] [.is_whole] gs_k17 cs_k17 b_is_row &&
  (defC K .need_set n_need_set ["many", "number"] [.is_whole] gs_k17 cs_k17 b_need_set &&
  (defC K .broken n_broken ["values"] [.elementary_of, .sources_of, .sum_of] gs_k17 cs_k17 b_broken &&
  (defC K .l_any_rows n_l_any_rows ["dice", "many"] [.l_roll] gs_k17 cs_k17 b_l_any_rows &&
  (defC K .is_measure n_is_measure ["value"] [.is_row, .broken] gs_k17 cs_k17 b_is_measure &&
  (defC K .l_any_measure n_l_any_measure ["dice", "many"] [.l_of_rows, .l_any_rows, .l_roll, .l_bits] gs_k17 cs_k17 b_l_any_measure &&
  (defC K .need_measure n_need_measure ["measure"] [.is_measure] gs_k17 cs_k17 b_need_measure &&
  (defC K .closure n_closure ["measure", "sources"] [.need_measure, .need_set, .sources_of, .closed] gs_k17 cs_k17 b_closure &&
  (defC K .closed_sets n_closed_sets ["measure"] [.need_measure, .closed] gs_k17 cs_k17 b_closed_sets &&
  (defC K .keys n_keys ["measure"] [.need_measure, .bits_of, .closed] gs_k17 cs_k17 b_keys)))))))))))))))))))))))
theorem fns_k17 {K : Frag} {mg : Str → Option Value} {P : Addr} (e : rowB_k17 K = true) (e2 : mdB K gs_k17 cs_k17 = true) (d : Md) (hK : d.K = K) (hmg : d.mg = mg) (KX : K.In d.base) (Gn : d.base.Ns mainGlobals mg) : ∀ g ∈ fs_k17, FOk ⟨K, [(P, ("law" : Str) ++ ".<locals>." ++ "<lambda>")], clA K⟩ G_k17 d 20 g := by
  subst hK hmg
  have md : MdOk ⟨d.K, [(P, ("law" : Str) ++ ".<locals>." ++ "<lambda>")], clA d.K⟩ d gs_k17 cs_k17 := md_ok KX Gn rfl rfl e2
  unfold rowB_k17 at e
  simp only [Bool.and_eq_true] at e
  obtain ⟨e_is_number, e_sources_of, e_form_of, e_sum_of, e_bits_of, e_value_at, e_l_drawn, e_l_bits, e_l_rank, e_is_whole, e_elementary_of, e_closed, e_l_roll, e_l_of_rows, e_is_row, e_need_set, e_broken, e_l_any_rows, e_is_measure, e_l_any_measure, e_need_measure, e_closure, e_closed_sets, e_keys⟩ := e
  have h_is_number : FOkS _ (G_k17 .is_number) d 1 .is_number := def_ok (G := G_k17) (k := 0) KX Gn md e_is_number (fun g hg => by cases hg) (mir_is_number)
  have h_sources_of : FOkS _ (G_k17 .sources_of) d 1 .sources_of := def_ok (G := G_k17) (k := 0) KX Gn md e_sources_of (fun g hg => by cases hg) (mir_sources_of)
  have h_form_of : FOkS _ (G_k17 .form_of) d 1 .form_of := def_ok (G := G_k17) (k := 0) KX Gn md e_form_of (fun g hg => by cases hg) (mir_form_of)
  have h_sum_of : FOkS _ (G_k17 .sum_of) d 1 .sum_of := def_ok (G := G_k17) (k := 0) KX Gn md e_sum_of (fun g hg => by cases hg) (mir_sum_of)
  have h_bits_of : FOkS _ (G_k17 .bits_of) d 1 .bits_of := def_ok (G := G_k17) (k := 0) KX Gn md e_bits_of (fun g hg => by cases hg) (mir_bits_of)
  have h_value_at : FOkS _ (G_k17 .value_at) d 1 .value_at := def_ok (G := G_k17) (k := 0) KX Gn md e_value_at (fun g hg => by cases hg) (mir_value_at)
  have h_l_drawn : FOkS _ (G_k17 .l_drawn) d 1 .l_drawn := def_ok (G := G_k17) (k := 0) KX Gn md e_l_drawn (fun g hg => by cases hg) (mir_l_drawn)
  have h_l_bits : FOkS _ (G_k17 .l_bits) d 1 .l_bits := def_ok (G := G_k17) (k := 0) KX Gn md e_l_bits (fun g hg => by cases hg) (mir_l_bits)
  have h_l_rank : FOkS _ (G_k17 .l_rank) d 1 .l_rank := def_ok (G := G_k17) (k := 0) KX Gn md e_l_rank (fun g hg => by cases hg) (mir_l_rank)
  have h_is_whole : FOkS _ (G_k17 .is_whole) d 2 .is_whole := def_ok (G := G_k17) (k := 1) KX Gn md e_is_whole (fun g hg => by
    rw [List.mem_singleton.mp hg]
    exact h_is_number.mono (by decide)) (mir_is_whole rfl)
  have h_elementary_of : FOkS _ (G_k17 .elementary_of) d 2 .elementary_of := def_ok (G := G_k17) (k := 1) KX Gn md e_elementary_of (fun g hg => by
    rw [List.mem_singleton.mp hg]
    exact h_form_of.mono (by decide)) (mir_elementary_of rfl)
  have h_closed : FOkS _ (G_k17 .closed) d 2 .closed := def_ok (G := G_k17) (k := 1) KX Gn md e_closed (fun g hg => by
    simp only [List.mem_cons, List.not_mem_nil, or_false] at hg
    rcases hg with rfl | rfl | rfl
    · exact h_sources_of.mono (by decide)
    · exact h_bits_of.mono (by decide)
    · exact h_value_at.mono (by decide)) (mir_closed rfl rfl rfl)
  have h_l_roll : FOkS _ (G_k17 .l_roll) d 2 .l_roll := def_ok (G := G_k17) (k := 1) KX Gn md e_l_roll (fun g hg => by
    rw [List.mem_singleton.mp hg]
    exact h_l_drawn.mono (by decide)) (mir_l_roll rfl)
  have h_l_of_rows : FOkS _ (G_k17 .l_of_rows) d 2 .l_of_rows := def_ok (G := G_k17) (k := 1) KX Gn md e_l_of_rows (fun g hg => by
    simp only [List.mem_cons, List.not_mem_nil, or_false] at hg
    rcases hg with rfl | rfl
    · exact h_l_bits.mono (by decide)
    · exact h_l_rank.mono (by decide)) (mir_l_of_rows rfl rfl)
  have h_is_row : FOkS _ (G_k17 .is_row) d 3 .is_row := def_ok (G := G_k17) (k := 2) KX Gn md e_is_row (fun g hg => by
    rw [List.mem_singleton.mp hg]
    exact h_is_whole.mono (by decide)) (mir_is_row rfl)
  have h_need_set : FOkS _ (G_k17 .need_set) d 3 .need_set := def_ok (G := G_k17) (k := 2) KX Gn md e_need_set (fun g hg => by
    rw [List.mem_singleton.mp hg]
    exact h_is_whole.mono (by decide)) (mir_need_set rfl)
  have h_broken : FOkS _ (G_k17 .broken) d 3 .broken := def_ok (G := G_k17) (k := 2) KX Gn md e_broken (fun g hg => by
    simp only [List.mem_cons, List.not_mem_nil, or_false] at hg
    rcases hg with rfl | rfl | rfl
    · exact h_elementary_of.mono (by decide)
    · exact h_sources_of.mono (by decide)
    · exact h_sum_of.mono (by decide)) (mir_broken rfl rfl rfl)
  have h_l_any_rows : FOkS _ (G_k17 .l_any_rows) d 3 .l_any_rows := def_ok (G := G_k17) (k := 2) KX Gn md e_l_any_rows (fun g hg => by
    rw [List.mem_singleton.mp hg]
    exact h_l_roll.mono (by decide)) (mir_semD rfl)
  have h_is_measure : FOkS _ (G_k17 .is_measure) d 4 .is_measure := def_ok (G := G_k17) (k := 3) KX Gn md e_is_measure (fun g hg => by
    simp only [List.mem_cons, List.not_mem_nil, or_false] at hg
    rcases hg with rfl | rfl
    · exact h_is_row.mono (by decide)
    · exact h_broken.mono (by decide)) (mir_is_measure rfl rfl)
  have h_l_any_measure : FOkS _ (G_k17 .l_any_measure) d 4 .l_any_measure := def_ok (G := G_k17) (k := 3) KX Gn md e_l_any_measure (fun g hg => by
    simp only [List.mem_cons, List.not_mem_nil, or_false] at hg
    rcases hg with rfl | rfl | rfl | rfl
    · exact h_l_of_rows.mono (by decide)
    · exact h_l_any_rows.mono (by decide)
    · exact h_l_roll.mono (by decide)
    · exact h_l_bits.mono (by decide)) (mir_semD ⟨rfl, rfl, rfl, rfl⟩)
  have h_need_measure : FOkS _ (G_k17 .need_measure) d 5 .need_measure := def_ok (G := G_k17) (k := 4) KX Gn md e_need_measure (fun g hg => by
    rw [List.mem_singleton.mp hg]
    exact h_is_measure.mono (by decide)) (mir_need_measure rfl)
  have h_closure : FOkS _ (G_k17 .closure) d 6 .closure := def_ok (G := G_k17) (k := 5) KX Gn md e_closure (fun g hg => by
    simp only [List.mem_cons, List.not_mem_nil, or_false] at hg
    rcases hg with rfl | rfl | rfl | rfl
    · exact h_need_measure.mono (by decide)
    · exact h_need_set.mono (by decide)
    · exact h_sources_of.mono (by decide)
    · exact h_closed.mono (by decide)) (mir_closure rfl rfl rfl rfl)
  have h_closed_sets : FOkS _ (G_k17 .closed_sets) d 6 .closed_sets := def_ok (G := G_k17) (k := 5) KX Gn md e_closed_sets (fun g hg => by
    simp only [List.mem_cons, List.not_mem_nil, or_false] at hg
    rcases hg with rfl | rfl
    · exact h_need_measure.mono (by decide)
    · exact h_closed.mono (by decide)) (mir_closed_sets rfl rfl)
  have h_keys : FOkS _ (G_k17 .keys) d 6 .keys := def_ok (G := G_k17) (k := 5) KX Gn md e_keys (fun g hg => by
    simp only [List.mem_cons, List.not_mem_nil, or_false] at hg
    rcases hg with rfl | rfl | rfl
    · exact h_need_measure.mono (by decide)
    · exact h_bits_of.mono (by decide)
    · exact h_closed.mono (by decide)) (mir_keys rfl rfl rfl)
  intro g hg
  unfold fs_k17 at hg
  simp only [List.mem_cons, List.not_mem_nil, or_false] at hg
  rcases hg with rfl | rfl | rfl | rfl | rfl | rfl
  · exact h_l_roll.mono (by decide)
  · exact h_l_any_measure.mono (by decide)
  · exact h_l_bits.mono (by decide)
  · exact h_closure.mono (by decide)
  · exact h_closed_sets.mono (by decide)
  · exact h_keys.mono (by decide)
end M
open PySem PySem.W PyProof.Rows
set_option maxRecDepth 100000 in
set_option maxHeartbeats 8000000 in
theorem PySem.Challenge.cw_sourcemeasures_k17_whole_closures_holds : PySem.Challenge.rw_sourcemeasures_k17_whole_closures.Holds := by
  w_on; o_law; k_head; (case hw => w_witness2); k_fill
  refine LamX.walk_ofTs (l := PySem.Challenge.rw_sourcemeasures_k17_whole_closures) (n := 63) (k := 23) (CX := fun w => L2N.CX PySem.Challenge.rw_sourcemeasures_k17_whole_closures.prog w) (x := "script") rfl (by decide) rfl ⟨rfl, by decide, by decide⟩ (fun w h Y => km_in_of Y) (fun w mg fa h Y KX Gn hmg => ?F) (fun w H s e s' z => ?cx)
  case cx =>
    obtain ⟨a, B, H', cls, d, _, _, _, _, _, _, _, z⟩ := z
    exact z
  case F =>
    exact M.law_atT (G := M.G_k17) (N := M.n_law_k17) (fs := M.fs_k17) (gs := M.gs_k17) (cs := M.cs_k17) (most := 4) (b := M.r_law_k17) (k := 20) KX Gn hmg (km_tabs_of Y _ List.mem_cons_self) (by kernel_rfl) (by kernel_rfl) (by kernel_rfl) (by kernel_rfl) (by kernel_rfl) rfl (by kernel_rfl) (by decide) (M.fns_k17 (by kernel_rfl) (by kernel_rfl)) (fun c => M.round_k17 rfl rfl rfl rfl rfl rfl c) (by decide)
