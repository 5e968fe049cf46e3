import PyProof.Rows.All
import Wide.All
import OpenK.AllK
import Wide.FinOn
import HandS.ForMost
import HandS.Defaults
import KE.SortData
import HandS.TupAny
import HandS.Style
import HandS.Deep
import HandS.Conv
import HandS.Wide
import HandS.IsInst
import PyProof.TupleOfSeq
import PyProof.Transfer
import PyProof.ReprRoads
import KE.DataMinMax
import HandS.Codes
import HandS.Iter
import HandS.Zip
import PyProof.Draws
import PyProof.EnumMake
import HandS.Strs
import HandS.SetFor
import HandS.Dict
import HandS.HeadHook4
import HandS.Head0
import HandS.Head1
import HandS.Head2
import HandS.HeadEnd
import PySem.Challenge.RW_barredpatterns_k59_whole_known_built_row
set_option Elab.async false
set_option linter.all false
/-! Ev1: a small language (IR) for the defs of the program, its evaluator over data. -/
namespace Ev
open PySem

/-- a run: it ends with a value, asks a draw below n, or is stuck -/
inductive T (α : Type) where
  | ret (a : α)
  | draw (n : Nat) (k : Nat → T α)
  | fail
namespace T
def bind {α β : Type} : T α → (α → T β) → T β
  | .ret a, f => f a
  | .draw n k, f => .draw n fun d => bind (k d) f
  | .fail, _ => .fail
def All {α : Type} : T α → (α → Prop) → Prop
  | .ret a, P => P a
  | .draw n k, P => ∀ d, d < n → All (k d) P
  | .fail, _ => False
def opt {α : Type} : Option α → T α
  | some a => .ret a
  | none => .fail
instance : Monad T where
  pure := .ret
  bind := bind
variable {α β γ : Type}
@[simp] theorem ret_bind (a : α) (f : α → T β) : (T.ret a >>= f) = f a := rfl
@[simp] theorem pure_bind' (a : α) (f : α → T β) : ((pure a : T α) >>= f) = f a := rfl
@[simp] theorem fail_bind (f : α → T β) : ((T.fail : T α) >>= f) = .fail := rfl
theorem bind_eq (t : T α) (f : α → T β) : (t >>= f) = T.bind t f := rfl
theorem pure_eq (a : α) : (pure a : T α) = .ret a := rfl
theorem All_bind : ∀ {t : T α} {f : α → T β} {P : β → Prop}, (t >>= f).All P ↔ t.All fun a => (f a).All P
  | .ret a, f, P => Iff.rfl
  | .fail, f, P => Iff.rfl
  | .draw n k, f, P => by
    show (∀ d, d < n → All (bind (k d) f) P) ↔ ∀ d, d < n → All (k d) _
    exact forall_congr' fun d => imp_congr_right fun _ => All_bind (t := k d)
theorem All.mono : ∀ {t : T α} {P Q : α → Prop}, t.All P → (∀ a, P a → Q a) → t.All Q
  | .ret a, P, Q, h, i => i a h
  | .fail, P, Q, h, i => h.elim
  | .draw n k, P, Q, h, i => fun d hd => All.mono (h d hd) i
theorem bind_assoc : ∀ (t : T α) (f : α → T β) (g : β → T γ), ((t >>= f) >>= g) = (t >>= fun a => f a >>= g)
  | .ret a, f, g => rfl
  | .fail, f, g => rfl
  | .draw n k, f, g => by
    show T.draw n _ = T.draw n _
    congr 1
    funext d
    exact bind_assoc (k d) f g
@[simp] theorem All_ret {a : α} {P : α → Prop} : (T.ret a).All P ↔ P a := Iff.rfl
@[simp] theorem All_fail {P : α → Prop} : (T.fail : T α).All P ↔ False := Iff.rfl
@[simp] theorem All_draw {n : Nat} {k : Nat → T α} {P : α → Prop} : (T.draw n k).All P ↔ ∀ d, d < n → (k d).All P := Iff.rfl
@[simp] theorem opt_some (a : α) : opt (some a) = .ret a := rfl
@[simp] theorem opt_none : opt (none : Option α) = .fail := rfl
theorem All_opt {o : Option α} {P : α → Prop} : (opt o).All P ↔ ∃ a, o = some a ∧ P a := by
  cases o with
  | none => exact ⟨fun h => h.elim, fun ⟨_, e, _⟩ => nomatch e⟩
  | some a => exact ⟨fun h => ⟨a, rfl, h⟩, fun ⟨_, e, h⟩ => by cases e; exact h⟩
end T

/-- what a slot holds: nothing known, frozen data, a list of one's own, the draws' pot, a dict of one's own, a frozen dict -/
inductive EV where
  | un
  | scr (ns : List Int)
  | sh (d : PyData)
  | ow (xs : List PyData)
  | pot
  | od (kvs : List (PyData × PyData))
  | sd (kvs : List (PyData × PyData))
abbrev Env := List EV
/-- what an expression gives; rf i: the thing that slot i owns -/
inductive R where
  | scr (ns : List Int)
  | sh (d : PyData)
  | ow (xs : List PyData)
  | pot
  | od (kvs : List (PyData × PyData))
  | sd (kvs : List (PyData × PyData))
  | rf (i : Nat)

/-- a thing of nobody's is frozen -/
def R.calm : R → R
  | .ow xs => .sh (.list xs)
  | .od kvs => .sd kvs
  | r => r
def calm (p : R × Env) : T (R × Env) := .ret (p.1.calm, p.2)
def LIM : Nat := 1000000
def get (env : Env) (i : Nat) : EV := env.getD i .un
/-- the data that is read, nothing is kept of it -/
def R.peek (env : Env) : R → Option PyData
  | .sh d => some d
  | .ow xs => some (.list xs)
  | .rf i => (match get env i with
    | .ow xs => some (.list xs)
    | .sh d => some d
    | _ => none)
  | _ => none
/-- the data that is kept: what was one's own is so no longer -/
def R.keep (env : Env) : R → Option (PyData × Env)
  | .sh d => some (d, env)
  | .ow xs => some (.list xs, env)
  | .rf i => (match get env i with
    | .ow xs => some (.list xs, env.set i (.sh (.list xs)))
    | .sh d => some (d, env)
    | _ => none)
  | _ => none
/-- an argument -/
def R.arg (env : Env) : R → Option (EV × Env)
  | .pot => some (.pot, env)
  | .scr ns => some (.scr ns, env)
  | .od kvs => some (.sd kvs, env)
  | .sd kvs => some (.sd kvs, env)
  | .rf i => (match get env i with
    | .ow xs => some (.sh (.list xs), env.set i (.sh (.list xs)))
    | .od kvs => some (.sd kvs, env.set i (.sd kvs))
    | .sh d => some (.sh d, env)
    | .sd kvs => some (.sd kvs, env)
    | _ => none)
  | r => (r.keep env).map fun p => (.sh p.1, p.2)
/-- what is stored -/
def R.put (env : Env) : R → Option (EV × Env)
  | .ow xs => some (.ow xs, env)
  | .od kvs => some (.od kvs, env)
  | r => r.arg env
/-- what is returned -/
def R.back (env : Env) : R → Option EV
  | .sh d => some (.sh d)
  | .ow xs => some (.ow xs)
  | .od kvs => some (.od kvs)
  | .sd kvs => some (.sd kvs)
  | .rf i => (match get env i with
    | .un => none
    | .pot => none
    | .scr _ => none
    | v => some v)
  | .pot => none
  | .scr _ => none

def peeks (env : Env) : List R → Option (List PyData)
  | [] => some []
  | r :: rs => (r.peek env).bind fun d => (peeks env rs).map (d :: ·)
def keeps (env : Env) : List R → Option (List PyData × Env)
  | [] => some ([], env)
  | r :: rs => (r.keep env).bind fun (d, e1) => (keeps e1 rs).map fun (ds, e2) => (d :: ds, e2)
def args (env : Env) : List R → Option (List EV × Env)
  | [] => some ([], env)
  | r :: rs => (r.arg env).bind fun (d, e1) => (args e1 rs).map fun (ds, e2) => (d :: ds, e2)

/-! ### values -/
inductive Op where
  | add | sub | mul | fdiv | mod | pow
def opV : Op → PyData → PyData → Option R
  | .add, .int i, .int j => some (.sh (.int (i + j)))
  | .add, .tuple xs, .tuple ys => if xs.length + ys.length ≤ LIM then some (.sh (.tuple (xs ++ ys))) else none
  | .add, .list xs, .list ys => if xs.length + ys.length ≤ LIM then some (.ow (xs ++ ys)) else none
  | .sub, .int i, .int j => some (.sh (.int (i - j)))
  | .mul, .int i, .int j => if i.natAbs < 2 ^ 64 ∨ j.natAbs < 2 ^ 64 then some (.sh (.int (i * j))) else none
  | .mul, .list xs, .int k => if xs.length * k.toNat ≤ LIM ∧ k.natAbs < 2 ^ 62 then some (.ow (List.replicate k.toNat xs).flatten) else none
  | .fdiv, .int i, .int j => if 0 < j ∧ j.natAbs.log2 < 9000 then some (.sh (.int (i / j))) else none
  | .mod, .int i, .int j => if 0 < j then some (.sh (.int (i % j))) else none
  | .pow, .int i, .int j => if 0 ≤ j ∧ j ≤ 1000000 ∧ i.natAbs < 2 ^ 64 then some (.sh (.int (i ^ j.toNat))) else none
  | _, _, _ => none

inductive Cm where
  | eq | ne | lt | le | gt | ge | isC | isntC | inn | ntin
def okD (d : PyData) : Bool := SeqAt.shaped d
def boolD : Option Bool → Option PyData := Option.map .bool
def items : PyData → Option (List PyData)
  | .list xs => some xs
  | .tuple xs => some xs
  | _ => none
/-- is, of None and the truth values alone -/
def isD : PyData → PyData → Option Bool
  | .none, .none => some true
  | .bool b, .none => some false
  | .int _, .none => some false
  | .str _, .none => some false
  | .list _, .none => some false
  | .tuple _, .none => some false
  | .bool a, .bool b => some (a == b)
  | _, _ => none
def cmV : Cm → PyData → PyData → Option Bool
  | .eq, a, b => if okD a && okD b then some (PyData.eqv a b) else none
  | .ne, a, b => if okD a && okD b then some (!PyData.eqv a b) else none
  | .lt, .int i, .int j => some (decide (i < j))
  | .le, .int i, .int j => some (decide (i ≤ j))
  | .gt, .int i, .int j => some (decide (j < i))
  | .ge, .int i, .int j => some (decide (j ≤ i))
  | .isC, a, b => isD a b
  | .isntC, a, b => (isD a b).map (!·)
  | .inn, a, .list ds => if okD a && okD (.list ds) then some (ds.any fun z => PyData.eqv z a) else none
  | .ntin, a, .list ds => if okD a && okD (.list ds) then some (!ds.any fun z => PyData.eqv z a) else none
  | .inn, a, .tuple ds => if okD a && okD (.tuple ds) then some (ds.any fun z => PyData.eqv z a) else none
  | .ntin, a, .tuple ds => if okD a && okD (.tuple ds) then some (!ds.any fun z => PyData.eqv z a) else none
  | _, _, _ => none

/-- an item by its place -/
def atD {α : Type} (xs : List α) (i : Int) : Option α :=
  if 0 ≤ i then xs[i.toNat]? else if -(xs.length : Int) ≤ i then xs[(i + xs.length).toNat]? else none
def idxV : PyData → PyData → Option PyData
  | .list xs, .int i => atD xs i
  | .tuple xs, .int i => atD xs i
  | _, _ => none
/-- a bound of a slice -/
def bnd (n : Nat) (d : Nat) : Option Int → Nat
  | none => d
  | some i => if i < 0 then (i + n).toNat else min i.toNat n
def cut {α : Type} (xs : List α) (lo hi : Option Int) : List α :=
  let a := bnd xs.length 0 lo
  let b := bnd xs.length xs.length hi
  (xs.drop a).take (b - a)
def slcV (x : PyData) (lo hi : Option Int) : Option R :=
  match x with
  | .list xs => some (.ow (cut xs lo hi))
  | .tuple xs => some (.sh (.tuple (cut xs lo hi)))
  | _ => none
def revV : PyData → Option R
  | .list xs => some (.ow xs.reverse)
  | .tuple xs => some (.sh (.tuple xs.reverse))
  | _ => none

def intsD : List PyData → Option (List Int)
  | [] => some []
  | .int i :: r => (intsD r).map (i :: ·)
  | _ :: _ => none
def boolsD : List PyData → Option (List Bool)
  | [] => some []
  | .bool i :: r => (boolsD r).map (i :: ·)
  | _ :: _ => none
def rngD (a b : Int) : List PyData := (List.range (b - a).toNat).map fun (i : Nat) => .int (a + i)
/-- the ints of a range by its arguments -/
def rng2V : List PyData → Option (List PyData)
  | [.int b] => if b.natAbs ≤ LIM then some (rngD 0 b) else none
  | [.int a, .int b] => if a.natAbs ≤ LIM ∧ b.natAbs ≤ LIM then some (rngD a b) else none
  | _ => none
def rngV : List PyData → Option (List PyData)
  | [.int a, .int b, .int (-1)] => if a.natAbs ≤ LIM ∧ b.natAbs ≤ LIM then some ((List.range (a - b).toNat).map fun (i : Nat) => .int (a - i)) else none
  | ds => rng2V ds
/-- all may be sorted: alike, and all tuples that are not empty, or none a tuple -/
def alikeD (ds : List PyData) : Bool := ds.all fun d => ds.all fun e => W.alike d e
def sortableD (ds : List PyData) : Bool := (decide (ds.length ≤ 1) && ds.all fun | .none => false | _ => true) || (ds.all fun | .tuple (_ :: _) => true | _ => false) || ds.all fun | .none => false | .tuple _ => false | _ => true
def sortD (ds : List PyData) : List PyData := ds.mergeSort (W.dataLe false id)
def sortV (ds : List PyData) : Option (List PyData) :=
  if alikeD ds && sortableD ds && ds.all (fun d => decide (d.depth ≤ 60)) then some (sortD ds) else none

inductive Ty where
  | int | bool | str | list | tuple | listtuple
def isT : Ty → PyData → Bool
  | .int, .int _ => true
  | .int, .bool _ => true
  | .bool, .bool _ => true
  | .str, .str _ => true
  | .list, .list _ => true
  | .tuple, .tuple _ => true
  | .listtuple, .list _ => true
  | .listtuple, .tuple _ => true
  | _, _ => false

inductive Blt where
  | len | list | tuple | sorted | sum | max | min | max2 | min2 | all | any | abs | int | repr
  | rngL | rngT | isi (t : Ty) | divmod
def bltV : Blt → List PyData → Option R
  | .len, [.list xs] => some (.sh (.int xs.length))
  | .len, [.tuple xs] => some (.sh (.int xs.length))
  | .list, [x] => (items x).map .ow
  | .tuple, [x] => (items x).map fun xs => .sh (.tuple xs)
  | .sorted, [x] => (items x).bind fun xs => (sortV xs).map .ow
  | .sum, [.list xs] => (intsD xs).map fun is => .sh (.int is.sum)
  | .max, [.list xs] => (intsD xs).bind fun
      | [] => none
      | i :: r => some (.sh (.int (r.foldl max i)))
  | .min, [.list xs] => (intsD xs).bind fun
      | [] => none
      | i :: r => some (.sh (.int (r.foldl min i)))
  | .max, [.tuple xs] => (intsD xs).bind fun
      | [] => none
      | i :: r => some (.sh (.int (r.foldl max i)))
  | .min, [.tuple xs] => (intsD xs).bind fun
      | [] => none
      | i :: r => some (.sh (.int (r.foldl min i)))
  | .max2, [.int i, .int j] => some (.sh (.int (if j > i then j else i)))
  | .min2, [.int i, .int j] => some (.sh (.int (if j < i then j else i)))
  | .all, [.list xs] => (boolsD xs).map fun bs => .sh (.bool (bs.all id))
  | .any, [.list xs] => (boolsD xs).map fun bs => .sh (.bool (bs.any id))
  | .abs, [.int i] => some (.sh (.int (if i < 0 then -i else i)))
  | .int, [.int i] => some (.sh (.int i))
  | .int, [.bool b] => some (.sh (.int (if b then 1 else 0)))
  | .repr, [x] => if x.showable && !x.hasDict && decide (x.shown.length ≤ LIM) && decide (x.depth ≤ 60) then some (.sh (.str x.shown)) else none
  | .rngL, ds => (rng2V ds).map .ow
  | .rngT, ds => (rng2V ds).map fun xs => .sh (.tuple xs)
  | .isi t, [x] => some (.sh (.bool (isT t x)))
  | .divmod, [.int i, .int j] => if 0 < j ∧ j < 1073741824 then some (.sh (.tuple [.int (i / j), .int (i % j)])) else none
  | _, _ => none

inductive Mt where
  | index | count
def mtV : Mt → PyData → List PyData → Option PyData
  | .index, .list xs, [d] => if okD d && okD (.list xs) then (xs.findIdx? fun z => PyData.eqv z d).map fun (i : Nat) => .int i else none
  | .index, .tuple xs, [d] => if okD d && okD (.tuple xs) then (xs.findIdx? fun z => PyData.eqv z d).map fun (i : Nat) => .int i else none
  | .count, .list xs, [.int k] => (intsD xs).map fun is => .int (is.count k : Nat)
  | _, _, _ => none

/-- 1 a list, 2 a tuple -/
def seqK : PyData → Nat
  | .list _ => 1
  | .tuple _ => 2
  | _ => 0

def okK : Mt → PyData → Bool
  | .index, d => decide (seqK d ≠ 0)
  | .count, d => decide (seqK d = 1)
/-! ### the language -/
inductive Tg where
  | nm (i : Nat)
  | tp (ts : List Tg)
inductive Ag where
  | at (i : Nat)
  | dfl (i : Int)
mutual
inductive Ex where
  | var (i : Nat)
  | cst (d : PyData)
  | tup (es : List Ex)
  | lst (es : List Ex)
  | bin (o : Op) (a b : Ex)
  | neg (a : Ex)
  | not (a : Ex)
  | and (a b : Ex)
  | or (a b : Ex)
  | cmp (o : Cm) (a b : Ex)
  | chain (o o' : Cm) (a b c : Ex)
  | ite (c a b : Ex)
  | idx (a i : Ex)
  | slc (a : Ex) (lo hi : Option Ex)
  | rev (a : Ex)
  | blt (b : Blt) (es : List Ex)
  | call (f : Nat) (es : List Ex) (ar : List Ag)
  | comp (own : List Nat) (elt : Ex) (tg : Tg) (src : Sr) (cond : Option Ex)
  | pop (i : Nat) (e : Option Ex)
  | meth (m : Mt) (a : Ex) (es : List Ex)
  | draw (i : Nat) (e : Ex)
  | mkpot (i : Nat) (k : Ex)
  | lenS (i : Nat)
  | dnew
  | dinn (n : Bool) (a : Ex) (i : Nat)
  | dget (i : Nat) (a : Ex)
  | dof (a : Ex)
inductive Sr where
  | over (e : Ex)
  | lend (i : Nat)
  | rng (es : List Ex)
  | enum (e : Ex)
  | zip (a b : Ex)
end
inductive Stm where
  | set (i : Nat) (e : Ex)
  | asg (tg : Tg) (e : Ex)
  | par (is : List Nat) (es : List Ex)
  | seti (i : Nat) (j e : Ex)
  | swp (i : Nat) (j : Ex) (i' : Nat) (j' : Ex) (es : List Ex)
  | sbn (i : Nat) (j : Ex) (k : Nat) (e : Ex)
  | app (i : Nat) (e : Ex)
  | ext (i : Nat) (e : Ex)
  | ins (i : Nat) (j e : Ex)
  | xpr (e : Ex)
  | ret (e : Ex)
  | retN
  | ite (c : Ex) (a b : List Stm)
  | whl (c : Ex) (b : List Stm)
  | forS (w : List Nat) (tg : Tg) (src : Sr) (b : List Stm)
  | rais
  | pass
  | brk
  | dput (i : Nat) (a e : Ex)
  | dupd (i : Nat) (e : Ex)
  | tapp (e : Ex) (d : PyData)
  | mov (i j : Nat)
  | fds (c : Nat) (kvs : List (Str × Nat)) (t a : Ex) (j : Nat) (es : List Ex) (ar : List Ag)

/-! ### dicts, their keys ints and texts -/
def keyEq : PyData → PyData → Bool
  | .int i, .int j => decide (i = j)
  | .str x, .str y => decide (x = y)
  | _, _ => false
def isKey : PyData → Bool
  | .int _ => true
  | .str _ => true
  | _ => false
def valK (kvs : List (PyData × PyData)) (d : PyData) : Option PyData := (kvs.find? fun q => keyEq q.1 d).map (·.2)
def dPut (kvs : List (PyData × PyData)) (k v : PyData) : List (PyData × PyData) :=
  if (kvs.any fun q => keyEq q.1 k) = true then kvs.map (fun q => if keyEq q.1 k then (q.1, v) else q) else kvs ++ [(k, v)]
def dMerge (kvs more : List (PyData × PyData)) : List (PyData × PyData) := more.foldl (fun acc q => dPut acc q.1 q.2) kvs
def pairsD : List PyData → Option (List (PyData × PyData))
  | [] => some []
  | .tuple [k, v] :: r => if isKey k then (pairsD r).map ((k, v) :: ·) else none
  | _ :: _ => none
def dcOf : EV → Option (List (PyData × PyData))
  | .od kvs => some kvs
  | .sd kvs => some kvs
  | _ => none
def odOf : EV → Option (List (PyData × PyData))
  | .od kvs => some kvs
  | _ => none
def sdR : R → Option (List (PyData × PyData))
  | .sd kvs => some kvs
  | _ => none
def owR : R → Option (List PyData)
  | .ow xs => some xs
  | _ => none
def owE : EV → Option (List PyData)
  | .ow xs => some xs
  | _ => none
def listD : PyData → Option (List PyData)
  | .list xs => some xs
  | _ => none
def dupV (e : EV) (more : List (PyData × PyData)) : Option (List (PyData × PyData)) :=
  (odOf e).bind fun kvs => if kvs.length + more.length < LIM then some (dMerge kvs more) else none
def dputV (e : EV) (k v : PyData) : Option (List (PyData × PyData)) :=
  (odOf e).bind fun kvs => if kvs.length < LIM ∧ isKey k then some (dPut kvs k v) else none
/-! ### its meaning -/
mutual
def asgT : Tg → PyData → Env → Option Env
  | .nm i, d, env => some (env.set i (.sh d))
  | .tp ts, .tuple ds, env => asgTs ts ds env
  | .tp _, _, _ => none
def asgTs : List Tg → List PyData → Env → Option Env
  | [], [], env => some env
  | t :: ts, d :: ds, env => (asgT t d env).bind fun e => asgTs ts ds e
  | _, _, _ => none
end
def wipe (own : List Nat) (env : Env) : Env := own.foldl (fun e i => e.set i .un) env
def restore (own : List Nat) (old env : Env) : Env := own.foldl (fun e i => e.set i (get old i)) env
def hid : Sr → List Nat → List Nat
  | .lend i, own => i :: own
  | _, own => own
def compL (f : PyData → Env → T (Option PyData × Env)) : List PyData → Env → T (List PyData × Env)
  | [], env => .ret ([], env)
  | d :: ds, env => f d env >>= fun (o, e1) => compL f ds e1 >>= fun (r, e2) => .ret ((match o with | some x => x :: r | none => r), e2)
def pick (vs : List EV) : List Ag → Option (List EV)
  | [] => some []
  | .at i :: r => (vs[i]?).bind fun v => (pick vs r).map (v :: ·)
  | .dfl d :: r => (pick vs r).map (.sh (.int d) :: ·)
def isOwl : EV → Bool
  | .ow _ => true
  | _ => false
def popV : EV → Option Int → Option (PyData × List PyData)
  | .ow xs, none => (xs.getLast?).map fun d => (d, xs.dropLast)
  | .ow xs, some i => if 0 ≤ i ∧ i < LIM then (xs[i.toNat]?).map fun d => (d, xs.eraseIdx i.toNat) else none
  | _, _ => none
def isPot : EV → Bool
  | .pot => true
  | _ => false
def isScr : EV → Bool
  | .scr _ => true
  | _ => false
def drawV : EV → R → Option Nat
  | .pot, .sh (.int n) => if 0 < n ∧ n < 1073741824 then some n.toNat else none
  | _, _ => none
def potV : EV → R → Bool
  | .scr _, .sh (.int n) => decide (0 ≤ n ∧ n < 1000)
  | _, _ => false
/-- a test -/
def tst : R × Env → T (Bool × Env)
  | (.sh (.bool b), e) => .ret (b, e)
  | _ => .fail
def intR : R → Option Int
  | .sh (.int i) => some i
  | _ => none
def negR : R → Option Int
  | .sh (.int i) => some (-i)
  | _ => none
def enumV : PyData → Option (List PyData)
  | .list xs => some (xs.zipIdx.map fun (x, i) => .tuple [.int i, x])
  | .tuple xs => some (xs.zipIdx.map fun (x, i) => .tuple [.int i, x])
  | _ => none
def zipD (xs ys : List PyData) : List PyData := (xs.zip ys).map fun (p, q) => .tuple [p, q]
def zipV : PyData → PyData → Option (List PyData)
  | .list xs, .list ys => some (zipD xs ys)
  | .tuple xs, .tuple ys => some (zipD xs ys)
  | _, _ => none
abbrev Phi := Nat → List EV → T EV
mutual
def ev (Φ : Phi) : Ex → Env → T (R × Env)
  | .var i, env => (match get env i with
    | .un => .fail
    | .sh d => .ret (.sh d, env)
    | .ow _ => .ret (.rf i, env)
    | .pot => .ret (.pot, env)
    | .scr ns => .ret (.scr ns, env)
    | .od _ => .ret (.rf i, env)
    | .sd kvs => .ret (.sd kvs, env))
  | .cst d, env => .ret (.sh d, env)
  | .tup es, env => evs Φ es env >>= fun (rs, e1) => T.opt (keeps e1 rs) >>= fun (ds, e2) => if ds.length ≤ LIM then .ret (.sh (.tuple ds), e2) else .fail
  | .lst es, env => evs Φ es env >>= fun (rs, e1) => T.opt (keeps e1 rs) >>= fun (ds, e2) => if ds.length ≤ LIM then .ret (.ow ds, e2) else .fail
  | .bin o a b, env => ev Φ a env >>= calm >>= fun (x, e1) => ev Φ b e1 >>= calm >>= fun (y, e2) => T.opt (x.peek e2) >>= fun dx => T.opt (y.peek e2) >>= fun dy => T.opt (opV o dx dy) >>= fun r => .ret (r, e2)
  | .neg a, env => ev Φ a env >>= calm >>= fun (x, e1) => T.opt (negR x) >>= fun i => .ret (.sh (.int i), e1)
  | .not a, env => ev Φ a env >>= tst >>= fun (b, e1) => .ret (.sh (.bool (!b)), e1)
  | .and a b, env => ev Φ a env >>= tst >>= fun (t, e1) => if t then ev Φ b e1 else .ret (.sh (.bool false), e1)
  | .or a b, env => ev Φ a env >>= tst >>= fun (t, e1) => if t then .ret (.sh (.bool true), e1) else ev Φ b e1
  | .cmp o a b, env => ev Φ a env >>= calm >>= fun (x, e1) => ev Φ b e1 >>= calm >>= fun (y, e2) => T.opt (x.peek e2) >>= fun dx => T.opt (y.peek e2) >>= fun dy => T.opt (cmV o dx dy) >>= fun r => .ret (.sh (.bool r), e2)
  | .chain o o' a b c, env => ev Φ a env >>= calm >>= fun (x, e1) => ev Φ b e1 >>= calm >>= fun (y, e2) => T.opt (x.peek e2) >>= fun dx => T.opt (y.peek e2) >>= fun dy => T.opt (cmV o dx dy) >>= fun r =>
      if r then ev Φ c e2 >>= calm >>= fun (z, e3) => T.opt (y.peek e3) >>= fun dy' => T.opt (z.peek e3) >>= fun dz => T.opt (cmV o' dy' dz) >>= fun r' => .ret (.sh (.bool r'), e3) else .ret (.sh (.bool false), e2)
  | .ite c a b, env => ev Φ c env >>= tst >>= fun (t, e1) => if t then ev Φ a e1 else ev Φ b e1
  | .idx a i, env => ev Φ a env >>= calm >>= fun (x, e1) => ev Φ i e1 >>= calm >>= fun (y, e2) => T.opt (x.peek e2) >>= fun dx => T.opt (y.peek e2) >>= fun dy => T.opt (idxV dx dy) >>= fun r => .ret (.sh r, e2)
  | .slc a lo hi, env => ev Φ a env >>= calm >>= fun (x, e1) => evO Φ lo e1 >>= fun (l, e2) => evO Φ hi e2 >>= fun (h, e3) => T.opt (x.peek e3) >>= fun dx => T.opt (slcV dx l h) >>= fun r => .ret (r, e3)
  | .rev a, env => ev Φ a env >>= calm >>= fun (x, e1) => T.opt (x.peek e1) >>= fun dx => T.opt (revV dx) >>= fun r => .ret (r, e1)
  | .blt b es, env => evs Φ es env >>= fun (rs, e1) => T.opt (peeks e1 rs) >>= fun ds => T.opt (bltV b ds) >>= fun r => .ret (r, e1)
  | .call f es ar, env => evs Φ es env >>= fun (rs, e1) => T.opt (args e1 rs) >>= fun (vs, e2) => T.opt (pick vs ar) >>= fun ws => Φ f ws >>= fun v => (match v with
    | .sh d => .ret (.sh d, e2)
    | .ow xs => .ret (.ow xs, e2)
    | .od kvs => .ret (.od kvs, e2)
    | .sd kvs => .ret (.sd kvs, e2)
    | _ => .fail)
  | .comp own elt tg src cond, env => evS Φ src env >>= fun (ds, e1) => if ds.length ≤ LIM then
      compL (fun d e => T.opt (asgT tg d (wipe (hid src own) e)) >>= fun e2 => evC Φ cond e2 >>= fun (t, e3) => if t then ev Φ elt e3 >>= calm >>= fun (r, e4) => T.opt (r.keep e4) >>= fun (x, e5) => .ret (some x, e5) else .ret (none, e3)) ds e1 >>= fun (ys, e6) =>
      .ret (.ow ys, restore (hid src own) e1 e6) else .fail
  | .pop i e, env => if isOwl (get env i) then evO Φ e env >>= fun (l, e1) => T.opt (popV (get e1 i) l) >>= fun (d, ys) => .ret (.sh d, e1.set i (.ow ys)) else .fail
  | .meth m a es, env => ev Φ a env >>= calm >>= fun (x, e1) => T.opt (x.peek e1) >>= fun d0 => if okK m d0 then evs Φ es e1 >>= fun (rs, e2) => T.opt (x.peek e2) >>= fun dx => T.opt (peeks e2 rs) >>= fun ds => if seqK d0 = seqK dx then T.opt (mtV m dx ds) >>= fun r => .ret (.sh r, e2) else .fail else .fail
  | .draw i e, env => if isPot (get env i) then ev Φ e env >>= calm >>= fun (x, e1) => T.opt (drawV (get e1 i) x) >>= fun n => .draw n fun d => .ret (.sh (.int d), e1) else .fail
  | .mkpot i k, env => if isScr (get env i) then ev Φ k env >>= calm >>= fun (x, e1) => if potV (get e1 i) x then .ret (.pot, e1) else .fail else .fail
  | .lenS i, env => (match get env i with
    | .scr ns => .ret (.sh (.int ns.length), env)
    | _ => .fail)
  | .dnew, env => .ret (.od [], env)
  | .dinn n a i, env => ev Φ a env >>= calm >>= fun (x, e1) => T.opt (x.keep e1) >>= fun (d, e2) => T.opt (dcOf (get e2 i)) >>= fun kvs => if isKey d then .ret (.sh (.bool (n ^^ (valK kvs d).isSome)), e2) else .fail
  | .dget i a, env => if (dcOf (get env i)).isSome then ev Φ a env >>= calm >>= fun (x, e1) => T.opt (x.keep e1) >>= fun (d, e2) => T.opt (dcOf (get e2 i)) >>= fun kvs => if isKey d then T.opt (valK kvs d) >>= fun r => .ret (.sh r, e2) else .fail else .fail
  | .dof a, env => ev Φ a env >>= calm >>= fun (x, e1) => T.opt (x.peek e1) >>= fun d => T.opt (listD d) >>= fun ds => T.opt (pairsD ds) >>= fun kvs => .ret (.od (dMerge [] kvs), e1)
def evs (Φ : Phi) : List Ex → Env → T (List R × Env)
  | [], env => .ret ([], env)
  | e :: es, env => ev Φ e env >>= calm >>= fun (r, e1) => evs Φ es e1 >>= fun (rs, e2) => .ret (r :: rs, e2)
def evO (Φ : Phi) : Option Ex → Env → T (Option Int × Env)
  | none, env => .ret (none, env)
  | some e, env => ev Φ e env >>= calm >>= fun (r, e1) => T.opt (intR r) >>= fun i => .ret (some i, e1)
def evC (Φ : Phi) : Option Ex → Env → T (Bool × Env)
  | none, env => .ret (true, env)
  | some e, env => ev Φ e env >>= tst
/-- what a walk goes through -/
def evS (Φ : Phi) : Sr → Env → T (List PyData × Env)
  | .over e, env => ev Φ e env >>= calm >>= fun (r, e1) => T.opt (r.keep e1) >>= fun (d, e2) => T.opt (items d) >>= fun ds => .ret (ds, e2)
  | .lend i, env => (match get env i with
    | .ow xs => .ret (xs, env)
    | _ => .fail)
  | .rng es, env => evs Φ es env >>= fun (rs, e1) => T.opt (peeks e1 rs) >>= fun ds => T.opt (rngV ds) >>= fun xs => .ret (xs, e1)
  | .enum e, env => ev Φ e env >>= calm >>= fun (r, e1) => T.opt (r.keep e1) >>= fun (d, e2) => T.opt (enumV d) >>= fun ds => .ret (ds, e2)
  | .zip a b, env => ev Φ a env >>= calm >>= fun (x, e1) => ev Φ b e1 >>= calm >>= fun (y, e2) => T.opt (x.keep e2) >>= fun (dx, e3) => T.opt (y.keep e3) >>= fun (dy, e4) => T.opt (zipV dx dy) >>= fun ds => .ret (ds, e4)
end
end Ev

namespace Ev
open PySem
/-! Ev2: statements, defs, programs -/
inductive Fl where
  | next (env : Env)
  | brk (env : Env)
  | ret (v : EV) (env : Env)
def forL (f : PyData → Env → T Fl) : List PyData → Env → T Fl
  | [], env => .ret (.next env)
  | d :: ds, env => f d env >>= fun
    | .next e => forL f ds e
    | .brk e => .ret (.brk e)
    | .ret v e => .ret (.ret v e)
def whlL (c : Env → T (Bool × Env)) (b : Env → T Fl) : Nat → Env → T Fl
  | 0, _ => .fail
  | n + 1, env => c env >>= fun (t, e1) => if t then b e1 >>= (fun
    | .next e => whlL c b n e
    | .brk e => .ret (.next e)
    | .ret v e => .ret (.ret v e)) else .ret (.next e1)
/-- how often a while may turn -/
def WF : Nat := 100000
def evp (Φ : Phi) : List Ex → Env → T (List EV × Env)
  | [], env => .ret ([], env)
  | e :: es, env => ev Φ e env >>= fun (r, e1) => T.opt (r.put e1) >>= fun (v, e2) => evp Φ es e2 >>= fun (vs, e3) => .ret (v :: vs, e3)
def setAll (env : Env) : List Nat → List EV → Env
  | i :: is, v :: vs => setAll (env.set i v) is vs
  | _, _ => env
/-- x[j] = d -/
def setD (xs : List PyData) (j : Int) (d : PyData) : Option (List PyData) :=
  if 0 ≤ j then (if j < xs.length then some (xs.set j.toNat d) else none) else if -(xs.length : Int) ≤ j then some (xs.set (j + xs.length).toNat d) else none
def setV : EV → R → PyData → Option (List PyData)
  | .ow xs, .sh (.int k), d => setD xs k d
  | _, _, _ => none
def two : List PyData → Option (PyData × PyData)
  | [a, b] => some (a, b)
  | _ => none
def pairV : PyData → Option (PyData × PyData)
  | .tuple [a, b] => some (a, b)
  | _ => none
def appV : EV → PyData → Option (List PyData)
  | .ow xs, d => if xs.length < LIM then some (xs ++ [d]) else none
  | _, _ => none
def extV : EV → PyData → Option (List PyData)
  | .ow xs, .list ys => if xs.length + ys.length < LIM then some (xs ++ ys) else none
  | _, _ => none
def insV : EV → List PyData → Option (List PyData)
  | .ow xs, [.int n, d] => if xs.length < LIM ∧ 0 ≤ n ∧ n ≤ LIM then some (xs.take n.toNat ++ [d] ++ xs.drop n.toNat) else none
  | _, _ => none
def isLend : Sr → Bool
  | .lend _ => true
  | _ => false
def strV : EV → Option Str
  | .sh (.str s) => some s
  | _ => none
mutual
def ex (Φ : Phi) : Stm → Env → T Fl
  | .set i e, env => ev Φ e env >>= fun (r, e1) => T.opt (r.put e1) >>= fun (v, e2) => .ret (.next (e2.set i v))
  | .asg tg e, env => ev Φ e env >>= calm >>= fun (r, e1) => T.opt (r.keep e1) >>= fun (d, e2) => T.opt (asgT tg d e2) >>= fun e3 => .ret (.next e3)
  | .par is es, env => evp Φ es env >>= fun (vs, e2) => if is.length = vs.length then .ret (.next (setAll e2 is vs)) else .fail
  | .seti i j e, env => ev Φ e env >>= calm >>= fun (r, e1) => T.opt (r.keep e1) >>= fun (d, e2) => if isOwl (get e2 i) then ev Φ j e2 >>= calm >>= fun (k, e3) => T.opt (setV (get e3 i) k d) >>= fun ys => .ret (.next (e3.set i (.ow ys))) else .fail
  | .swp i j i' j' es, env => evs Φ es env >>= fun (rs, e0) => T.opt (keeps e0 rs) >>= fun (ds, e1) => T.opt (two ds) >>= fun (d, d') => if isOwl (get e1 i) then ev Φ j e1 >>= calm >>= fun (k, e2) => T.opt (setV (get e2 i) k d) >>= fun ys => (fun e3 => if isOwl (get e3 i') then ev Φ j' e3 >>= calm >>= fun (k', e4) => T.opt (setV (get e4 i') k' d') >>= fun zs => .ret (.next (e4.set i' (.ow zs))) else .fail) (e2.set i (.ow ys)) else .fail
  | .app i e, env => if isOwl (get env i) then ev Φ e env >>= calm >>= fun (r, e1) => T.opt (r.keep e1) >>= fun (d, e2) => T.opt (appV (get e2 i) d) >>= fun ys => .ret (.next (e2.set i (.ow ys))) else .fail
  | .ext i e, env => if isOwl (get env i) then ev Φ e env >>= calm >>= fun (r, e1) => T.opt (r.keep e1) >>= fun (d, e2) => T.opt (extV (get e2 i) d) >>= fun ys => .ret (.next (e2.set i (.ow ys))) else .fail
  | .ins i j e, env => if isOwl (get env i) then evs Φ [j, e] env >>= fun (rs, e1) => T.opt (keeps e1 rs) >>= fun (ds, e2) => T.opt (insV (get e2 i) ds) >>= fun ys => .ret (.next (e2.set i (.ow ys))) else .fail
  | .sbn i j k e, env => ev Φ e env >>= calm >>= fun (r, e1) => T.opt (r.keep e1) >>= fun (x, e2) => T.opt (pairV x) >>= fun (d, d') => if isOwl (get e2 i) then ev Φ j e2 >>= calm >>= fun (q, e3) => T.opt (setV (get e3 i) q d) >>= fun ys => .ret (.next ((e3.set i (.ow ys)).set k (.sh d'))) else .fail
  | .xpr e, env => ev Φ e env >>= fun (_, e1) => .ret (.next e1)
  | .ret e, env => ev Φ e env >>= fun (r, e1) => T.opt (r.back e1) >>= fun v => .ret (.ret v e1)
  | .retN, env => .ret (.ret (.sh .none) env)
  | .ite c a b, env => ev Φ c env >>= tst >>= fun (t, e1) => if t then exs Φ a e1 else exs Φ b e1
  | .whl c b, env => whlL (fun e => ev Φ c e >>= tst) (fun e => exs Φ b e) WF env
  | .forS w tg src b, env => if isLend src then .fail else evS Φ src env >>= fun (ds, e1) => forL (fun d e => T.opt (asgT tg d (wipe w e)) >>= fun e1 => exs Φ b e1) ds e1 >>= fun
        | .next e => .ret (.next e)
        | .brk e => .ret (.next e)
        | .ret v e => .ret (.ret v e)
  | .rais, env => .fail
  | .pass, env => .ret (.next env)
  | .brk, env => .ret (.brk env)
  | .dput i a e, env => ev Φ e env >>= calm >>= fun (r, e1) => T.opt (r.keep e1) >>= fun (d, e2) => if (odOf (get e2 i)).isSome then ev Φ a e2 >>= calm >>= fun (k, e3) => T.opt (k.keep e3) >>= fun (kd, e4) => T.opt (dputV (get e4 i) kd d) >>= fun kvs => .ret (.next (e4.set i (.od kvs))) else .fail
  | .dupd i e, env => if (odOf (get env i)).isSome then ev Φ e env >>= calm >>= fun (r, e1) => T.opt (sdR r) >>= fun more => T.opt (dupV (get e1 i) more) >>= fun kvs => .ret (.next (e1.set i (.od kvs))) else .fail
  | .tapp e _, env => ev Φ e env >>= fun (r, e1) => T.opt (owR r) >>= fun xs => if xs.length < LIM then .ret (.next e1) else .fail
  | .mov i j, env => T.opt (owE (get env j)) >>= fun xs => .ret (.next ((env.set j .un).set i (.ow xs)))
  | .fds c kvs t a j es ar, env => if c < env.length then ev Φ t (env.set c .un) >>= tst >>= fun (b, e1) => (if b then ev Φ a e1 else T.opt (strV (get e1 j)) >>= fun s => T.opt ((kvs.find? fun q => decide (q.1 = s)).map (·.2)) >>= fun f => ev Φ (.blt .len [.call f es ar]) e1) >>= fun (r, e2) => T.opt (r.back e2) >>= fun v => .ret (.ret v e2) else .fail
def exs (Φ : Phi) : List Stm → Env → T Fl
  | [], env => .ret (.next env)
  | s :: ss, env => ex Φ s env >>= fun
    | .next e => exs Φ ss e
    | .brk e => .ret (.brk e)
    | .ret v e => .ret (.ret v e)
end
/-- a def: how many parameters, how many names -/
structure Fn where
  np : Nat
  nn : Nat
  body : List Stm
def run (Φ : Phi) (f : Fn) (vs : List EV) : T EV :=
  if vs.length = f.np then exs Φ f.body (vs ++ List.replicate (f.nn - f.np) .un) >>= fun
    | .ret v _ => .ret v
    | .next _ => .ret (.sh .none)
    | .brk _ => .fail
  else .fail
/-- the defs of a table, called at most n deep -/
def phi (tab : Nat → Option Fn) : Nat → Phi
  | 0, _, _ => .fail
  | n + 1, f, vs => (match tab f with
    | some d => run (phi tab n) d vs
    | none => .fail)
example (Φ : Phi) (d : PyData) (env : Env) : ev Φ (.cst d) env = .ret (.sh d, env) := rfl
example (Φ : Phi) (c : Ex) (env : Env) : ex Φ (.ret (.cst .none)) env = .ret (.ret (.sh .none) env) := by rfl
-- def f(n): found = 1; for k in range(2, n+1): found = found*k; return found
def fac : Fn := ⟨1, 3, [.set 1 (.cst (.int 1)), .forS [] (.nm 2) (.rng [.cst (.int 2), .bin .add (.var 0) (.cst (.int 1))]) [.set 1 (.bin .mul (.var 1) (.var 2))], .ret (.var 1)]⟩
theorem fac10 : phi (fun | 0 => some fac | _ => none) 3 0 [.sh (.int 10)] = .ret (.sh (.int 3628800)) := by rfl
end Ev

set_option maxHeartbeats 1000000
namespace Ev
open PySem PySem.Spec PyProof.Rows L2
/-! Ev3: what slots hold, by the abstract heap -/
/-- a tuple whose object has no dict -/
def TupD (K : PySem.W.Frag) (F : Hp) (a : Addr) (xs : List V) : Prop :=
  (∃ o, F a = some (.frz o (.tup xs)) ∧ o.dict = none) ∨ ∃ (o : Obj) (its : Array Value) (n : Nat), K.lookup a = some o ∧ o.cls = .type "tuple" ∧ o.dict = none ∧ o.data = .seq its n ∧ its.size ≤ sizeLine ∧ Vals xs its.toList
theorem TupD.sq {K : PySem.W.Frag} {F : Hp} {a : Addr} {xs : List V} (h : TupD K F a xs) : SqT K F a xs := by
  rcases h with ⟨o, h, _⟩ | ⟨o, its, n, h1, h2, _, h4, h5, h6⟩
  · exact .inl (.inr ⟨o, h⟩)
  · exact .inr ⟨o, its, n, h1, h2, h4, h5, h6⟩
theorem TupD.mono {K : PySem.W.Frag} {F F' : Hp} {a : Addr} {xs : List V} (s : Same F F') (h : TupD K F a xs) : TupD K F' a xs := by
  rcases h with ⟨o, h, d⟩ | h
  · exact .inl ⟨o, s _ _ h, d⟩
  · exact .inr h
/- a value of plain data; its lists and tuples stand in the frozen heap F -/
mutual
inductive Dn (K : PySem.W.Frag) (F : Hp) : V → PyData → Prop
  | non : Dn K F .non .none
  | bl (b : Bool) : Dn K F (.bl b) (.bool b)
  | int (i : Int) : Dn K F (.int i) (.int i)
  | str (x : Str) : Dn K F (.str x) (.str x)
  | lst {a : Addr} {xs : List V} {ds : List PyData} : F a = some (.lst xs) → DnAll K F xs ds → Dn K F (.ref a) (.list ds)
  | tup {a : Addr} {xs : List V} {ds : List PyData} : TupD K F a xs → DnAll K F xs ds → Dn K F (.ref a) (.tuple ds)
inductive DnAll (K : PySem.W.Frag) (F : Hp) : List V → List PyData → Prop
  | nil : DnAll K F [] []
  | cons {v : V} {vs : List V} {d : PyData} {ds : List PyData} : Dn K F v d → DnAll K F vs ds → DnAll K F (v :: vs) (d :: ds)
end
theorem same_sqT {K : PySem.W.Frag} {F F' : Hp} {a : Addr} {xs : List V} (h : Same F F') (q : SqT K F a xs) : SqT K F' a xs := by
  rcases q with (q | ⟨o, q⟩) | q
  · exact .inl (.inl (h _ _ q))
  · exact .inl (.inr ⟨o, h _ _ q⟩)
  · exact .inr q
section
variable {K : PySem.W.Frag} {F F' H : Hp}
mutual
theorem Dn.mono (h : Same F F') : ∀ {d : PyData} {v : V}, Dn K F v d → Dn K F' v d
  | _, _, .non => .non
  | _, _, .bl b => .bl b
  | _, _, .int i => .int i
  | _, _, .str x => .str x
  | _, _, .lst e r => .lst (h _ _ e) (DnAll.mono h r)
  | _, _, .tup e r => .tup (e.mono h) (DnAll.mono h r)
theorem DnAll.mono (h : Same F F') : ∀ {ds : List PyData} {vs : List V}, DnAll K F vs ds → DnAll K F' vs ds
  | _, _, .nil => .nil
  | _, _, .cons a b => .cons (Dn.mono h a) (DnAll.mono h b)
end
mutual
theorem Dn.dp : ∀ {d : PyData} {v : V}, Dn K F v d → Dp K F v d
  | _, _, .non => .non
  | _, _, .bl b => .bl b
  | _, _, .int i => .int i
  | _, _, .str x => .str x
  | _, _, .lst e r => .lst (.inl (.inl e)) (DnAll.dp r)
  | _, _, .tup e r => .tup e.sq (DnAll.dp r)
theorem DnAll.dp : ∀ {ds : List PyData} {vs : List V}, DnAll K F vs ds → DpAll K F vs ds
  | _, _, .nil => .nil
  | _, _, .cons a b => .cons (Dn.dp a) (DnAll.dp b)
end
theorem DnAll.length : ∀ {ds : List PyData} {vs : List V}, DnAll K F vs ds → vs.length = ds.length
  | _, _, .nil => rfl
  | _, _, .cons _ b => congrArg (· + 1) (DnAll.length b)
theorem DnAll.get : ∀ {ds : List PyData} {vs : List V} {i : Nat} {d : PyData}, DnAll K F vs ds → ds[i]? = some d → ∃ v, vs[i]? = some v ∧ Dn K F v d
  | _, _, _, _, .nil, e => by simp at e
  | _, _, 0, _, .cons a b, e => by simp at e; subst e; exact ⟨_, rfl, a⟩
  | _, _, i + 1, _, .cons a b, e => by
    obtain ⟨v, h1, h2⟩ := DnAll.get (i := i) b (by simpa using e)
    exact ⟨v, by simpa using h1, h2⟩
theorem DnAll.append : ∀ {ds es : List PyData} {vs us : List V}, DnAll K F vs ds → DnAll K F us es → DnAll K F (vs ++ us) (ds ++ es)
  | _, _, _, _, .nil, r => r
  | _, _, _, _, .cons a b, r => .cons a (DnAll.append b r)
theorem DnAll.take : ∀ {ds : List PyData} {vs : List V} (n : Nat), DnAll K F vs ds → DnAll K F (vs.take n) (ds.take n)
  | _, _, 0, _ => .nil
  | _, _, _ + 1, .nil => .nil
  | _, _, n + 1, .cons a b => .cons a (DnAll.take n b)
theorem DnAll.drop : ∀ {ds : List PyData} {vs : List V} (n : Nat), DnAll K F vs ds → DnAll K F (vs.drop n) (ds.drop n)
  | _, _, 0, r => r
  | _, _, _ + 1, .nil => .nil
  | _, _, n + 1, .cons a b => DnAll.drop n b
theorem DnAll.reverse : ∀ {ds : List PyData} {vs : List V}, DnAll K F vs ds → DnAll K F vs.reverse ds.reverse
  | _, _, .nil => .nil
  | _, _, .cons a b => by
    rw [List.reverse_cons, List.reverse_cons]
    exact (DnAll.reverse b).append (.cons a .nil)
theorem DnAll.set : ∀ {ds : List PyData} {vs : List V} (i : Nat) {d : PyData} {v : V}, DnAll K F vs ds → Dn K F v d → DnAll K F (vs.set i v) (ds.set i d)
  | _, _, _, _, _, .nil, _ => .nil
  | _, _, 0, _, _, .cons _ b, r => .cons r b
  | _, _, i + 1, _, _, .cons a b, r => .cons a (DnAll.set i b r)
theorem DnAll.erase : ∀ {ds : List PyData} {vs : List V} (i : Nat), DnAll K F vs ds → DnAll K F (vs.eraseIdx i) (ds.eraseIdx i)
  | _, _, _, .nil => .nil
  | _, _, 0, .cons _ b => b
  | _, _, i + 1, .cons a b => .cons a (DnAll.erase i b)
theorem DnAll.rep {ds : List PyData} {vs : List V} (r : DnAll K F vs ds) : ∀ n : Nat, DnAll K F (List.replicate n vs).flatten (List.replicate n ds).flatten
  | 0 => .nil
  | n + 1 => by
    rw [List.replicate_succ, List.replicate_succ, List.flatten_cons, List.flatten_cons]
    exact r.append (DnAll.rep r n)
theorem DnAll.dropLast {ds : List PyData} {vs : List V} (r : DnAll K F vs ds) : DnAll K F vs.dropLast ds.dropLast := by
  rw [List.dropLast_eq_take, List.dropLast_eq_take, r.length]
  exact r.take _
theorem DnAll.insert : ∀ {ds : List PyData} {vs : List V} (i : Nat) {d : PyData} {v : V}, DnAll K F vs ds → Dn K F v d → DnAll K F (vs.insertIdx i v) (ds.insertIdx i d)
  | _, _, 0, _, _, r, a => .cons a r
  | _, _, i + 1, _, _, .nil, a => by simpa using DnAll.nil
  | _, _, i + 1, _, _, .cons x b, a => by
    simp only [List.insertIdx_succ_cons]
    exact .cons x (DnAll.insert i b a)
theorem Dn.int_inv {v : V} {i : Int} (h : Dn K F v (.int i)) : v = .int i := by cases h; rfl
theorem Dn.bl_inv {v : V} {i : Bool} (h : Dn K F v (.bool i)) : v = .bl i := by cases h; rfl
theorem Dn.str_inv {v : V} {i : Str} (h : Dn K F v (.str i)) : v = .str i := by cases h; rfl
theorem Dn.non_inv {v : V} (h : Dn K F v .none) : v = .non := by cases h; rfl
theorem DnAll.ints : ∀ {ds : List PyData} {vs : List V} {is : List Int}, DnAll K F vs ds → intsD ds = some is → vs = is.map V.int
  | [], _, is, .nil, e => by simp [intsD] at e; subst e; rfl
  | .int i :: ds, _, is, .cons a b, e => by
    simp only [intsD, Option.map_eq_some_iff] at e
    obtain ⟨js, e1, rfl⟩ := e
    rw [a.int_inv, DnAll.ints b e1]
    rfl
  | .none :: _, _, _, _, e => by simp [intsD] at e
  | .bool _ :: _, _, _, _, e => by simp [intsD] at e
  | .str _ :: _, _, _, _, e => by simp [intsD] at e
  | .list _ :: _, _, _, _, e => by simp [intsD] at e
  | .tuple _ :: _, _, _, _, e => by simp [intsD] at e
  | .dict _ :: _, _, _, _, e => by simp [intsD] at e
theorem DnAll.bools : ∀ {ds : List PyData} {vs : List V} {is : List Bool}, DnAll K F vs ds → boolsD ds = some is → vs = is.map V.bl
  | [], _, is, .nil, e => by simp [boolsD] at e; subst e; rfl
  | .bool i :: ds, _, is, .cons a b, e => by
    simp only [boolsD, Option.map_eq_some_iff] at e
    obtain ⟨js, e1, rfl⟩ := e
    rw [a.bl_inv, DnAll.bools b e1]
    rfl
  | .none :: _, _, _, _, e => by simp [boolsD] at e
  | .int _ :: _, _, _, _, e => by simp [boolsD] at e
  | .str _ :: _, _, _, _, e => by simp [boolsD] at e
  | .list _ :: _, _, _, _, e => by simp [boolsD] at e
  | .tuple _ :: _, _, _, _, e => by simp [boolsD] at e
  | .dict _ :: _, _, _, _, e => by simp [boolsD] at e
end

/-- the draws' pot: a list of two ints, whatever they are -/
def PotAt (p : Addr) (h : Heap) : Prop := ∃ (a b : Int) (t u : Tok) (n : Nat), h.get? p = some { cls := .type "list", data := .seq #[.int a t, .int b u] n } ∧ 0 ≤ a ∧ 0 ≤ b ∧ b < 2 ^ 40
def keyD : Key → PyData
  | .inl i => .int i
  | .inr x => .str x
/-- a dict's object -/
def DcP (K : PySem.W.Frag) (F : Hp) (kv : List (Key × V)) (kvs : List (PyData × PyData)) : Prop := Paired (fun (p : Key × V) (q : PyData × PyData) => keyD p.1 = q.1 ∧ Dn K F p.2 q.2) kv kvs
def DcOk (K : PySem.W.Frag) (F : Hp) (o : HO) (kvs : List (PyData × PyData)) : Prop := ∃ kv, o = .dK kv ∧ DcP K F kv kvs
theorem DcP.mono {K : PySem.W.Frag} {F F' : Hp} {kv : List (Key × V)} {kvs : List (PyData × PyData)} (s : Same F F') (p : DcP K F kv kvs) : DcP K F' kv kvs := L2.Paired.mapP p fun a b q => ⟨q.1, q.2.mono s⟩
theorem DcOk.mono {K : PySem.W.Frag} {F F' : Hp} {o : HO} {kvs : List (PyData × PyData)} (s : Same F F') (h : DcOk K F o kvs) : DcOk K F' o kvs := by
  obtain ⟨kv, e, p⟩ := h
  exact ⟨kv, e, p.mono s⟩
/-- the object of an owned thing -/
def ObOk (K : PySem.W.Frag) (F : Hp) : EV → HO → Prop
  | .ow xs, .lst vs => DnAll K F vs xs
  | .od kvs, o => DcOk K F o kvs
  | _, _ => False
theorem ObOk.mono {K : PySem.W.Frag} {F F' : Hp} {e : EV} {o : HO} (s : Same F F') (h : ObOk K F e o) : ObOk K F' e o := by
  cases e with
  | ow xs => cases o with
    | lst vs => exact DnAll.mono s (show DnAll K F vs xs from h)
    | _ => exact h.elim
  | od kvs => exact DcOk.mono s (show DcOk K F o kvs from h)
  | _ => exact h.elim
def isOwn : EV → Bool
  | .ow _ => true
  | .od _ => true
  | _ => false
/-- an owned thing, frozen -/
def froz : EV → EV
  | .ow xs => .sh (.list xs)
  | .od kvs => .sd kvs
  | e => e
/-- v is the thing of a slot -/
def VOk (K : PySem.W.Frag) (G F H : Hp) (v : V) : EV → Prop
  | .un => True
  | .sh d => Dn K F v d
  | .scr ns => ∃ p, v = .ref p ∧ SqL K F p (ns.map V.int)
  | .pot => ∃ p, v = .ref p ∧ F p = some (.ext (PotAt p))
  | .sd kvs => ∃ p o, v = .ref p ∧ F p = some o ∧ DcOk K F o kvs
  | e => ∃ p o, v = .ref p ∧ H p = some o ∧ F p = none ∧ G p = none ∧ ObOk K F e o
def Own (env : Env) (σ : L2.St) (i : Nat) (p : Addr) : Prop := (∃ e, env[i]? = some e ∧ isOwn e = true) ∧ σ[i]? = some (some (.ref p))
structure Rs (K : PySem.W.Frag) (G F : Hp) (σ : L2.St) (H : Hp) (env : Env) : Prop where
  len : env.length = σ.length
  fh : Same F H
  gh : Same G H
  gf : ∀ (a : Addr) (o : HO), G a = some o → F a = none
  at_ : ∀ (i : Nat) (e : EV), env[i]? = some e → e ≠ .un → ∃ v, σ[i]? = some (some v) ∧ VOk K G F H v e
  dis : ∀ (i j : Nat) (p : Addr), Own env σ i p → Own env σ j p → i = j
section
variable {K : PySem.W.Frag} {G G' F F' H H' : Hp} {σ : L2.St} {env : Env} {v : V} {e : EV} {p : Addr} {o : HO} {i : Nat}
theorem VOk.own (h : isOwn e = true) (q : VOk K G F H v e) : ∃ p o, v = .ref p ∧ H p = some o ∧ F p = none ∧ G p = none ∧ ObOk K F e o := by
  cases e <;> first | exact q | (simp [isOwn] at h)
theorem VOk.of_own (h : isOwn e = true) (q : ∃ p o, v = .ref p ∧ H p = some o ∧ F p = none ∧ G p = none ∧ ObOk K F e o) : VOk K G F H v e := by
  cases e <;> first | exact q | (simp [isOwn] at h)
theorem VOk.not_own (h : isOwn e = false) (q : VOk K G F H v e) (s : Same F F') : VOk K G' F' H' v e := by
  cases e with
  | un => trivial
  | sh d => exact Dn.mono s q
  | scr ns =>
    obtain ⟨p, rfl, r⟩ := q
    exact ⟨p, rfl, Same.seq s r⟩
  | pot => obtain ⟨p, rfl, r⟩ := q; exact ⟨p, rfl, s _ _ r⟩
  | sd kvs => obtain ⟨p, o, rfl, r, d⟩ := q; exact ⟨p, o, rfl, s _ _ r, d.mono s⟩
  | ow _ => simp [isOwn] at h
  | od _ => simp [isOwn] at h
theorem get_of {env : Env} {i : Nat} {e : EV} (h : get env i = e) (hn : e ≠ .un) : env[i]? = some e := by
  unfold get at h
  rw [List.getD_eq_getElem?_getD] at h
  cases q : env[i]? with
  | none => rw [q] at h; exact absurd h.symm hn
  | some x => rw [q] at h; simp at h; rw [h]
theorem get_eq {env : Env} {i : Nat} {e : EV} (h : env[i]? = some e) : get env i = e := by
  unfold get
  rw [List.getD_eq_getElem?_getD, h]
  rfl
theorem Own.slot (r : Rs K G F σ H env) (w : Own env σ i p) : ∃ e o, env[i]? = some e ∧ isOwn e = true ∧ H p = some o ∧ F p = none ∧ G p = none ∧ ObOk K F e o := by
  obtain ⟨⟨e, he, ho⟩, hs⟩ := w
  obtain ⟨v, hv, q⟩ := r.at_ i e he (by rintro rfl; cases ho)
  rw [hs] at hv
  obtain ⟨p', o, rfl, h1, h2, h3, h4⟩ := q.own ho
  cases hv
  exact ⟨e, o, he, ho, h1, h2, h3, h4⟩
theorem Rs.own_at (r : Rs K G F σ H env) (he : env[i]? = some e) (ho : isOwn e = true) : ∃ p o, σ[i]? = some (some (.ref p)) ∧ Own env σ i p ∧ H p = some o ∧ F p = none ∧ G p = none ∧ ObOk K F e o := by
  obtain ⟨v, hv, q⟩ := r.at_ i e he (by rintro rfl; cases ho)
  obtain ⟨p, o, rfl, h1, h2, h3, h4⟩ := q.own ho
  exact ⟨p, o, hv, ⟨⟨e, he, ho⟩, hv⟩, h1, h2, h3, h4⟩
/-- a new object -/
theorem same_new (h : H p = none) : Same H (upd H p o) := fun b u e => by
  by_cases q : b = p
  · subst q; rw [h] at e; cases e
  · rw [upd_ne q]; exact e
theorem Rs.alloc (r : Rs K G F σ H env) (hp : H p = none) : Rs K G F σ (upd H p o) env := by
  have s := same_new (o := o) hp
  refine ⟨r.len, fun b u e => s _ _ (r.fh _ _ e), fun b u e => s _ _ (r.gh _ _ e), r.gf, fun i e he hn => ?_, r.dis⟩
  obtain ⟨v, hv, q⟩ := r.at_ i e he hn
  refine ⟨v, hv, ?_⟩
  cases ho : isOwn e with
  | false => exact q.not_own ho (Same.refl _)
  | true =>
    obtain ⟨p', o', rfl, h1, h2, h3, h4⟩ := q.own ho
    exact .of_own ho ⟨p', o', rfl, s _ _ h1, h2, h3, h4⟩
theorem free_of (s : Same F H) (h : H p = none) : F p = none := s.free h
/-- a new object, frozen at once -/
theorem Rs.allocF (r : Rs K G F σ H env) (hp : H p = none) : Rs K G (upd F p o) σ (upd H p o) env := by
  have s := same_new (o := o) hp
  have fp := r.fh.free hp
  have sF := same_new (o := o) fp
  refine ⟨r.len, fun b u e => ?_, fun b u e => s _ _ (r.gh _ _ e), fun b u e => ?_, fun i e he hn => ?_, r.dis⟩
  · by_cases q : b = p
    · subst q; rw [upd_same] at e ⊢; exact e
    · rw [upd_ne q] at e ⊢; exact r.fh _ _ e
  · have : b ≠ p := by rintro rfl; rw [r.gh.free hp] at e; cases e
    rw [upd_ne this]; exact r.gf _ _ e
  · obtain ⟨v, hv, q⟩ := r.at_ i e he hn
    refine ⟨v, hv, ?_⟩
    cases ho : isOwn e with
    | false => exact q.not_own ho sF
    | true =>
      obtain ⟨p', o', rfl, h1, h2, h3, h4⟩ := q.own ho
      have : p' ≠ p := by rintro rfl; rw [hp] at h1; cases h1
      exact .of_own ho ⟨p', o', rfl, s _ _ h1, by rw [upd_ne this]; exact h2, h3, h4.mono sF⟩
/-- an object of nobody is frozen -/
theorem Rs.frz (r : Rs K G F σ H env) (hp : H p = some o) (fp : F p = none) (gp : G p = none) (no : ∀ i, ¬ Own env σ i p) : Rs K G (upd F p o) σ H env := by
  have sF := same_new (o := o) fp
  refine ⟨r.len, fun b u e => ?_, r.gh, fun b u e => ?_, fun i e he hn => ?_, r.dis⟩
  · by_cases q : b = p
    · subst q; rw [upd_same] at e; rw [← e]; exact hp
    · rw [upd_ne q] at e; exact r.fh _ _ e
  · have : b ≠ p := by rintro rfl; rw [gp] at e; cases e
    rw [upd_ne this]; exact r.gf _ _ e
  · obtain ⟨v, hv, q⟩ := r.at_ i e he hn
    refine ⟨v, hv, ?_⟩
    cases ho : isOwn e with
    | false => exact q.not_own ho sF
    | true =>
      obtain ⟨p', o', rfl, h1, h2, h3, h4⟩ := q.own ho
      have : p' ≠ p := by rintro rfl; exact no i ⟨⟨e, he, ho⟩, hv⟩
      exact .of_own ho ⟨p', o', rfl, h1, by rw [upd_ne this]; exact h2, h3, h4.mono sF⟩
theorem own_set {j : Nat} {e : EV} (w : Own (env.set i e) σ j p) (hj : j ≠ i) : Own env σ j p := by
  obtain ⟨⟨x, hx, ho⟩, hs⟩ := w
  rw [List.getElem?_set_ne (Ne.symm hj)] at hx
  exact ⟨⟨x, hx, ho⟩, hs⟩
/-- a slot's content is told otherwise -/
theorem Rs.retell (r : Rs K G F σ H env) (hv : i < env.length → e ≠ .un → ∃ v, σ[i]? = some (some v) ∧ VOk K G F H v e) (hd : isOwn e = true → ∀ p, σ[i]? = some (some (.ref p)) → ∀ j, j ≠ i → ¬ Own env σ j p) : Rs K G F σ H (env.set i e) := by
  refine ⟨by rw [List.length_set]; exact r.len, r.fh, r.gh, r.gf, fun j x hx hn => ?_, fun j k p w1 w2 => ?_⟩
  · by_cases hj : j = i
    · subst hj
      have hl : j < env.length := by
        rcases Nat.lt_or_ge j env.length with h | h
        · exact h
        · rw [List.getElem?_eq_none (by simpa using h)] at hx; cases hx
      rw [List.getElem?_set_self hl] at hx
      cases hx
      exact hv hl hn
    · rw [List.getElem?_set_ne (Ne.symm hj)] at hx
      exact r.at_ j x hx hn
  · have key : ∀ {j k : Nat}, Own (env.set i e) σ j p → Own (env.set i e) σ k p → j = i → k ≠ i → False := fun {j k} w1 w2 hj hk => by
      subst hj
      have w2' := own_set w2 hk
      obtain ⟨⟨x, hx, ho⟩, hs⟩ := w1
      have hl : j < env.length := by
        rcases Nat.lt_or_ge j env.length with h | h
        · exact h
        · rw [List.getElem?_eq_none (by simpa using h)] at hx; cases hx
      rw [List.getElem?_set_self hl] at hx
      cases hx
      exact hd ho p hs k hk w2'
    by_cases hj : j = i
    · by_cases hk : k = i
      · rw [hj, hk]
      · exact (key w1 w2 hj hk).elim
    · by_cases hk : k = i
      · exact (key w2 w1 hk hj).elim
      · exact r.dis j k p (own_set w1 hj) (own_set w2 hk)
/-- what slot i owns is frozen -/
theorem Rs.freeze (r : Rs K G F σ H env) (he : env[i]? = some e) (ho : isOwn e = true) : ∃ p o, σ[i]? = some (some (.ref p)) ∧ F p = none ∧ ObOk K F e o ∧ H p = some o ∧ Rs K G (upd F p o) σ H (env.set i (froz e)) ∧ VOk K G (upd F p o) H (.ref p) (froz e) := by
  obtain ⟨p, o, hs, w, h1, h2, h3, h4⟩ := r.own_at he ho
  have vok : VOk K G (upd F p o) H (.ref p) (froz e) := by
    have sF := same_new (o := o) h2
    cases e with
    | ow xs => cases o with
      | lst vs => exact .lst upd_same ((show DnAll K F vs xs from h4).mono sF)
      | _ => exact h4.elim
    | od kvs => exact ⟨p, o, rfl, upd_same, (show DcOk K F o kvs from h4).mono sF⟩
    | _ => cases ho
  have nf : isOwn (froz e) = false := by cases e <;> first | rfl | cases ho
  -- first forget slot i, then freeze, then tell it
  have r1 : Rs K G F σ H (env.set i .un) := r.retell (fun _ h => absurd rfl h) (fun h => by cases h)
  have no : ∀ j, ¬ Own (env.set i .un) σ j p := fun j w' => by
    by_cases hj : j = i
    · subst hj
      obtain ⟨⟨x, hx, hx2⟩, _⟩ := w'
      have hl : j < env.length := (List.getElem?_eq_some_iff.mp he).1
      rw [List.getElem?_set_self hl] at hx
      cases hx; cases hx2
    · exact hj (r.dis _ _ p (own_set w' hj) w)
  have r2 := r1.frz h1 h2 h3 no
  have r3 := r2.retell (i := i) (e := froz e) (fun _ _ => ⟨_, hs, vok⟩) (fun h => by rw [nf] at h; cases h)
  rw [List.set_set] at r3
  exact ⟨p, o, hs, h2, h4, h1, r3, vok⟩
/-- what slot i owns is written -/
theorem Rs.write {e' : EV} {o' : HO} (r : Rs K G F σ H env) (he : env[i]? = some e) (ho : isOwn e = true) (ho' : isOwn e' = true) (hs : σ[i]? = some (some (.ref p))) (ob : ObOk K F e' o') : Rs K G F σ (upd H p o') (env.set i e') := by
  obtain ⟨p', o, hs', w, h1, h2, h3, h4⟩ := r.own_at he ho
  rw [hs] at hs'; cases hs'
  have hl : i < env.length := (List.getElem?_eq_some_iff.mp he).1
  refine ⟨by rw [List.length_set]; exact r.len, fun b u q => ?_, fun b u q => ?_, r.gf, fun j x hx hn => ?_, fun j k q w1 w2 => ?_⟩
  · have : b ≠ p := by rintro rfl; rw [h2] at q; cases q
    rw [upd_ne this]; exact r.fh _ _ q
  · have : b ≠ p := by rintro rfl; rw [h3] at q; cases q
    rw [upd_ne this]; exact r.gh _ _ q
  · by_cases hj : j = i
    · subst hj
      rw [List.getElem?_set_self hl] at hx
      cases hx
      exact ⟨_, hs, .of_own ho' ⟨p, o', rfl, upd_same, h2, h3, ob⟩⟩
    · rw [List.getElem?_set_ne (Ne.symm hj)] at hx
      obtain ⟨v, hv, q⟩ := r.at_ j x hx hn
      refine ⟨v, hv, ?_⟩
      cases hx2 : isOwn x with
      | false => exact q.not_own hx2 (Same.refl _)
      | true =>
        obtain ⟨p2, o2, rfl, g1, g2, g3, g4⟩ := q.own hx2
        have : p2 ≠ p := by rintro rfl; exact hj (r.dis _ _ _ ⟨⟨x, hx, hx2⟩, hv⟩ w)
        exact .of_own hx2 ⟨p2, o2, rfl, by rw [upd_ne this]; exact g1, g2, g3, g4⟩
  · have mv : ∀ {j : Nat}, Own (env.set i e') σ j q → Own env σ j q := fun {j} w' => by
      by_cases hj : j = i
      · subst hj; exact ⟨⟨e, he, ho⟩, w'.2⟩
      · exact own_set w' hj
    exact r.dis _ _ _ (mv w1) (mv w2)
/-- a slot is stored -/
theorem Rs.store (r : Rs K G F σ H env) (hi : i < env.length) (q : VOk K G F H v e) (hd : isOwn e = true → ∀ p, v = .ref p → ∀ j, j ≠ i → ¬ Own env σ j p) : Rs K G F (σ.set i (some v)) H (env.set i e) := by
  have hl : i < σ.length := by rw [← r.len]; exact hi
  have mv : ∀ {j : Nat} {p : Addr}, j ≠ i → Own (env.set i e) (σ.set i (some v)) j p → Own env σ j p := fun {j p} hj w => by
    obtain ⟨⟨x, hx, ho⟩, hs⟩ := w
    rw [List.getElem?_set_ne (Ne.symm hj)] at hx hs
    exact ⟨⟨x, hx, ho⟩, hs⟩
  have at' : ∀ {p : Addr}, Own (env.set i e) (σ.set i (some v)) i p → isOwn e = true ∧ v = .ref p := fun {p} w => by
    obtain ⟨⟨x, hx, ho⟩, hs⟩ := w
    rw [List.getElem?_set_self hi] at hx
    rw [List.getElem?_set_self hl] at hs
    cases hx; cases hs
    exact ⟨ho, rfl⟩
  refine ⟨by rw [List.length_set, List.length_set]; exact r.len, r.fh, r.gh, r.gf, fun j x hx hn => ?_, fun j k p w1 w2 => ?_⟩
  · by_cases hj : j = i
    · subst hj
      rw [List.getElem?_set_self hi] at hx
      cases hx
      exact ⟨v, by rw [List.getElem?_set_self hl], q⟩
    · rw [List.getElem?_set_ne (Ne.symm hj)] at hx ⊢
      exact r.at_ j x hx hn
  · by_cases hj : j = i
    · by_cases hk : k = i
      · rw [hj, hk]
      · subst hj
        obtain ⟨h1, h2⟩ := at' w1
        exact (hd h1 p h2 k hk (mv hk w2)).elim
    · by_cases hk : k = i
      · subst hk
        obtain ⟨h1, h2⟩ := at' w2
        exact (hd h1 p h2 j hj (mv hj w1)).elim
      · exact r.dis j k p (mv hj w1) (mv hk w2)
/-- less is framed -/
theorem Rs.less (r : Rs K G' F σ H env) (s : Same G G') : Rs K G F σ H env := by
  refine ⟨r.len, r.fh, fun b u q => r.gh _ _ (s _ _ q), fun b u q => r.gf _ _ (s _ _ q), fun i e he hn => ?_, r.dis⟩
  obtain ⟨v, hv, q⟩ := r.at_ i e he hn
  refine ⟨v, hv, ?_⟩
  cases ho : isOwn e with
  | false => exact q.not_own ho (Same.refl _)
  | true =>
    obtain ⟨p, o, rfl, h1, h2, h3, h4⟩ := q.own ho
    exact .of_own ho ⟨p, o, rfl, h1, h2, s.free h3, h4⟩
/-- an object of nobody is framed -/
theorem Rs.frame (r : Rs K G F σ H env) (hp : H p = some o) (fp : F p = none) (gp : G p = none) (no : ∀ i, ¬ Own env σ i p) : Rs K (upd G p o) F σ H env := by
  refine ⟨r.len, r.fh, fun b u q => ?_, fun b u q => ?_, fun i e he hn => ?_, r.dis⟩
  · by_cases hb : b = p
    · subst hb; rw [upd_same] at q; rw [← q]; exact hp
    · rw [upd_ne hb] at q; exact r.gh _ _ q
  · by_cases hb : b = p
    · subst hb; exact fp
    · rw [upd_ne hb] at q; exact r.gf _ _ q
  · obtain ⟨v, hv, q⟩ := r.at_ i e he hn
    refine ⟨v, hv, ?_⟩
    cases ho : isOwn e with
    | false => exact q.not_own ho (Same.refl _)
    | true =>
      obtain ⟨p', o', rfl, h1, h2, h3, h4⟩ := q.own ho
      have : p' ≠ p := by rintro rfl; exact no i ⟨⟨e, he, ho⟩, hv⟩
      exact .of_own ho ⟨p', o', rfl, h1, h2, by rw [upd_ne this]; exact h3, h4⟩
end
end Ev

namespace Ev
open PySem PySem.Spec PyProof.Rows L2
/-! Ev4: expressions over two parts -/
def R.toEV : R → EV
  | .sh d => .sh d
  | .scr ns => .scr ns
  | .ow xs => .ow xs
  | .pot => .pot
  | .od kvs => .od kvs
  | .sd kvs => .sd kvs
  | .rf _ => .un
def isRf : R → Bool
  | .rf _ => true
  | _ => false
def H0 : Hp := fun _ => none
def ROk (K : PySem.W.Frag) (G F : Hp) (σ : L2.St) (H : Hp) (env : Env) (v : V) (r : R) : Prop :=
  (∃ i, r = .rf i ∧ σ[i]? = some (some v)) ∨ (isRf r = false ∧ VOk K G F H v r.toEV ∧ (isOwn r.toEV = true → ∀ p, v = .ref p → ∀ i, ¬ Own env σ i p))
/-- .. a thing of nobody's alone is not among it -/
def COk (K : PySem.W.Frag) (F : Hp) (σ : L2.St) (v : V) (r : R) : Prop :=
  (∃ i, r = .rf i ∧ σ[i]? = some (some v)) ∨ (isRf r = false ∧ isOwn r.toEV = false ∧ VOk K H0 F H0 v r.toEV)
def Pst (K : PySem.W.Frag) (G F : Hp) (σ : L2.St) (Q : VK) (r : R × Env) : Prop :=
  ∀ (F' H' : Hp) (v : V), Same F F' → Rs K G F' σ H' r.2 → ROk K G F' σ H' r.2 v r.1 → Q v H'
def Cst (K : PySem.W.Frag) (G F : Hp) (σ : L2.St) (Q : VK) (r : R × Env) : Prop :=
  ∀ (F' H' : Hp) (v : V), Same F F' → Rs K G F' σ H' r.2 → COk K F' σ v r.1 → Q v H'
def tEv (K : PySem.W.Frag) (m : Env → T (R × Env)) : TE := fun σ H Q => ∃ G F env, Rs K G F σ H env ∧ (m env).All (Pst K G F σ Q)
def tCv (K : PySem.W.Frag) (m : Env → T (R × Env)) : TE := fun σ H Q => ∃ G F env, Rs K G F σ H env ∧ (m env >>= calm).All (Cst K G F σ Q)
theorem PE.imp {X : Cx} {e : Expr} {t t' : TE} (h : PE X e t) (i : ∀ σ H Q, t' σ H Q → t σ H Q) : PE X e t' := ⟨fun pins s σ H Q I q => h.run pins s σ H Q I (i σ H Q q)⟩
section
variable {K : PySem.W.Frag} {G F F' H H' : Hp} {σ : L2.St} {env : Env} {v : V} {r : R} {Q : VK} {d : PyData} {p : Addr}
theorem Pst.mono {x : R × Env} (h : Pst K G F σ Q x) (s : Same F F') : Pst K G F' σ Q x := fun F2 H2 v s2 => h F2 H2 v (s.trans s2)
theorem COk.mono (h : COk K F σ v r) (s : Same F F') : COk K F' σ v r := by
  rcases h with h | ⟨h1, h2, h3⟩
  · exact .inl h
  · exact .inr ⟨h1, h2, h3.not_own h2 s⟩
/-- a result that is handed on -/
theorem ROk.calm (rs : Rs K G F σ H env) (h : ROk K G F σ H env v r) : ∃ F', Same F F' ∧ Rs K G F' σ H env ∧ COk K F' σ v r.calm := by
  rcases h with ⟨i, rfl, h⟩ | ⟨h1, h2, h3⟩
  · exact ⟨F, Same.refl _, rs, .inl ⟨i, rfl, h⟩⟩
  · cases ho : isOwn r.toEV with
    | false =>
      refine ⟨F, Same.refl _, rs, .inr ?_⟩
      cases r <;> first | exact ⟨rfl, rfl, h2.not_own ho (Same.refl _)⟩ | (simp [R.toEV, isOwn] at ho; done) | (simp [isRf] at h1; done)
    | true =>
      obtain ⟨p, o, rfl, g1, g2, g3, g4⟩ := h2.own ho
      have sF := same_new (o := o) g2
      refine ⟨upd F p o, sF, rs.frz g1 g2 g3 (h3 ho p rfl), .inr ?_⟩
      cases r with
      | ow xs => cases o with
        | lst vs => exact ⟨rfl, rfl, .lst upd_same ((show DnAll K F vs xs from g4).mono sF)⟩
        | _ => exact g4.elim
      | od kvs => exact ⟨rfl, rfl, p, o, rfl, upd_same, (show DcOk K F o kvs from g4).mono sF⟩
      | _ => cases ho
theorem tCv.imp {m : Env → T (R × Env)} (h : tCv K m σ H Q) : tEv K m σ H Q := by
  obtain ⟨G, F, env, rs, h⟩ := h
  refine ⟨G, F, env, rs, (T.All_bind.mp h).mono fun r hr => ?_⟩
  intro F' H' v s rs' ro
  obtain ⟨F2, s2, rs2, co⟩ := ro.calm rs'
  exact (show Cst K G F σ Q (r.1.calm, r.2) from hr) F2 H' v (s.trans s2) rs2 co
/-- what is peeked -/
def Pk (K : PySem.W.Frag) (F H : Hp) (v : V) : PyData → Prop
  | .list xs => ∃ p vs, v = .ref p ∧ H p = some (.lst vs) ∧ DnAll K F vs xs
  | d => Dn K F v d
theorem Pk.of (s : Same F H) (h : Dn K F v d) : Pk K F H v d := by
  cases h with
  | lst e a => exact ⟨_, _, rfl, s _ _ e, a⟩
  | non => exact .non
  | bl b => exact .bl b
  | int i => exact .int i
  | str x => exact .str x
  | tup e a => exact .tup e a
theorem Pk.dp (s : Same F H) (h : Pk K F H v d) : Dp K H v d := by
  cases d with
  | list xs =>
    obtain ⟨p, vs, rfl, e, a⟩ := h
    exact .lst (.inl (.inl e)) (a.mono s).dp
  | _ => exact Dn.dp (Dn.mono s h)
theorem Pk.list {xs : List PyData} (h : Pk K F H v (.list xs)) : ∃ p vs, v = .ref p ∧ H p = some (.lst vs) ∧ DnAll K F vs xs := h
theorem Pk.tuple {xs : List PyData} (h : Pk K F H v (.tuple xs)) : ∃ p vs, v = .ref p ∧ TupD K F p vs ∧ DnAll K F vs xs := by
  cases h with
  | tup e a => exact ⟨_, _, rfl, e, a⟩
theorem Pk.int {i : Int} (h : Pk K F H v (.int i)) : v = .int i := Dn.int_inv h
theorem Pk.bl {b : Bool} (h : Pk K F H v (.bool b)) : v = .bl b := Dn.bl_inv h
theorem Pk.str {b : Str} (h : Pk K F H v (.str b)) : v = .str b := Dn.str_inv h
theorem Pk.non (h : Pk K F H v .none) : v = .non := Dn.non_inv h
theorem COk.peek (rs : Rs K G F σ H env) (h : COk K F σ v r) (e : r.peek env = some d) : Pk K F H v d := by
  rcases h with ⟨i, rfl, h⟩ | ⟨h1, h2, h3⟩
  · simp only [R.peek] at e
    cases q : Ev.get env i with
    | ow xs =>
      rw [q] at e
      cases e
      have he := get_of q (by intro z; cases z)
      obtain ⟨p, o, hs, w, g1, g2, g3, g4⟩ := rs.own_at he rfl
      rw [h] at hs; cases hs
      cases o with
      | lst vs => exact ⟨p, vs, rfl, g1, g4⟩
      | _ => exact g4.elim
    | sh x =>
      rw [q] at e
      cases e
      obtain ⟨v', hv, ok⟩ := rs.at_ i _ (get_of q (by intro z; cases z)) (by intro z; cases z)
      rw [h] at hv; cases hv
      exact Pk.of rs.fh ok
    | _ => rw [q] at e; cases e
  · cases r with
    | sh x => cases e; exact Pk.of rs.fh h3
    | _ => first | (simp [isRf] at h1; done) | (simp [R.toEV, isOwn] at h2; done) | (simp [R.peek] at e; done)
theorem get_sh {x : PyData} {i : Nat} (rs : Rs K G F σ H env) (q : Ev.get env i = .sh x) (h : σ[i]? = some (some v)) : Dn K F v x := by
  obtain ⟨v', hv, ok⟩ := rs.at_ i _ (get_of q (by intro z; cases z)) (by intro z; cases z)
  rw [h] at hv; cases hv
  exact ok
/-- an argument -/
theorem COk.arg {e : EV} {env' : Env} (rs : Rs K G F σ H env) (h : COk K F σ v r) (q : r.arg env = some (e, env')) : ∃ F', Same F F' ∧ Rs K G F' σ H env' ∧ VOk K H0 F' H0 v e ∧ isOwn e = false := by
  rcases h with ⟨i, rfl, h⟩ | ⟨h1, h2, h3⟩
  · simp only [R.arg] at q
    cases z : Ev.get env i with
    | ow xs =>
      rw [z] at q; cases q
      obtain ⟨p, o, hs, g1, g2, g3, rs', vk⟩ := rs.freeze (get_of z (by intro z; cases z)) rfl
      rw [h] at hs; cases hs
      exact ⟨_, same_new g1, rs', vk.not_own rfl (Same.refl _), rfl⟩
    | od xs =>
      rw [z] at q; cases q
      obtain ⟨p, o, hs, g1, g2, g3, rs', vk⟩ := rs.freeze (get_of z (by intro z; cases z)) rfl
      rw [h] at hs; cases hs
      exact ⟨_, same_new g1, rs', vk.not_own rfl (Same.refl _), rfl⟩
    | sh x => rw [z] at q; cases q; exact ⟨F, Same.refl _, rs, get_sh rs z h, rfl⟩
    | sd kvs =>
      rw [z] at q; cases q
      obtain ⟨v', hv, ok⟩ := rs.at_ i _ (get_of z (by intro z; cases z)) (by intro z; cases z)
      rw [h] at hv; cases hv
      exact ⟨F, Same.refl _, rs, ok.not_own rfl (Same.refl _), rfl⟩
    | un => rw [z] at q; cases q
    | pot => rw [z] at q; cases q
    | scr _ => rw [z] at q; cases q
  · cases r with
    | sh x => cases q; exact ⟨F, Same.refl _, rs, h3, rfl⟩
    | scr ns => cases q; exact ⟨F, Same.refl _, rs, h3, rfl⟩
    | pot => cases q; exact ⟨F, Same.refl _, rs, h3, rfl⟩
    | sd kvs => cases q; exact ⟨F, Same.refl _, rs, h3, rfl⟩
    | _ => first | (simp [isRf] at h1; done) | (simp [R.toEV, isOwn] at h2; done)
theorem COk.keep {env' : Env} (rs : Rs K G F σ H env) (h : COk K F σ v r) (q : r.keep env = some (d, env')) : ∃ F', Same F F' ∧ Rs K G F' σ H env' ∧ Dn K F' v d := by
  have e : r.arg env = some (.sh d, env') := by
    cases r with
    | rf i =>
      simp only [R.keep] at q
      simp only [R.arg]
      cases z : Ev.get env i <;> rw [z] at q <;> first | (cases q; rfl) | cases q
    | sh x => cases q; rfl
    | ow x => cases q; rfl
    | _ => cases q
  obtain ⟨F', s, rs', vk, _⟩ := h.arg rs e
  exact ⟨F', s, rs', vk⟩
/-- what a rule gives, from the post -/
theorem Pst.sh (q : Pst K G F σ Q (.sh d, env)) (rs : Rs K G F σ H env) (h : Dn K F v d) : Q v H := q F H v (Same.refl _) rs (.inr ⟨rfl, h, fun z => by cases z⟩)
theorem Pst.newT {ds : List PyData} {vs : List V} {ob : Obj} (q : Pst K G F σ Q (.sh (.tuple ds), env)) (rs : Rs K G F σ H env) (h : DnAll K F vs ds) (hp : H p = none) (hd : ob.dict = none) : Q (.ref p) (upd H p (.frz ob (.tup vs))) := by
  have fp := rs.fh.free hp
  exact q _ _ _ (same_new fp) (rs.allocF hp) (.inr ⟨rfl, .tup (.inl ⟨ob, upd_same, hd⟩) (h.mono (same_new fp)), fun z => by cases z⟩)
theorem Pst.newL {ds : List PyData} {vs : List V} (q : Pst K G F σ Q (.ow ds, env)) (rs : Rs K G F σ H env) (h : DnAll K F vs ds) (hp : H p = none) : Q (.ref p) (upd H p (.lst vs)) := by
  refine q F _ _ (Same.refl _) (rs.alloc hp) (.inr ⟨rfl, ⟨p, _, rfl, upd_same, rs.fh.free hp, rs.gh.free hp, h⟩, fun _ p' e i w => ?_⟩)
  cases e
  obtain ⟨x, o, _, _, h1, _⟩ := w.slot rs
  rw [hp] at h1; cases h1
/-- two parts -/
theorem bin_imp {ma mb : Env → T (R × Env)} {k : R → R → Env → T (R × Env)} {rr : R2}
    (hk : ∀ (G F : Hp) (H : Hp) (env : Env) (x y : V) (rx ry : R) (Q : VK), Rs K G F σ H env → COk K F σ x rx → COk K F σ y ry → (k rx ry env).All (Pst K G F σ Q) → rr x y H Q)
    (h : tEv K (fun env => ma env >>= calm >>= fun p => mb p.2 >>= calm >>= fun q => k p.1 q.1 q.2) σ H Q) : tOp rr (tCv K ma) (tCv K mb) σ H Q := by
  obtain ⟨G, F, env, rs, h⟩ := h
  refine ⟨G, F, env, rs, (T.All_bind.mp h).mono fun r hr => ?_⟩
  intro F1 H1 x s1 rs1 c1
  refine ⟨G, F1, r.2, rs1, (T.All_bind.mp hr).mono fun r2 hr2 => ?_⟩
  intro F2 H2 y s2 rs2 c2
  exact hk G F2 H2 r2.2 x y r.1 r2.1 Q rs2 (c1.mono s2) c2 (hr2.mono fun z hz => hz.mono (s1.trans s2))
/-- one part -/
theorem un_imp {ma : Env → T (R × Env)} {k : R → Env → T (R × Env)} {rr : V → Hp → VK → Prop}
    (hk : ∀ (G F : Hp) (H : Hp) (env : Env) (x : V) (rx : R) (Q : VK), Rs K G F σ H env → COk K F σ x rx → (k rx env).All (Pst K G F σ Q) → rr x H Q)
    (h : tEv K (fun env => ma env >>= calm >>= fun p => k p.1 p.2) σ H Q) : tUn rr (tCv K ma) σ H Q := by
  obtain ⟨G, F, env, rs, h⟩ := h
  refine ⟨G, F, env, rs, (T.All_bind.mp h).mono fun r hr => ?_⟩
  intro F1 H1 x s1 rs1 c1
  exact hk G F1 H1 r.2 x r.1 Q rs1 c1 (hr.mono fun z hz => hz.mono s1)
end
/-! ### new tuples -/
section
variable {X : Cx}
theorem tup_laid {pins : List (Addr × Obj)} {σ : L2.St} {H : Hp} {s : Shared} {h' : Heap} {a : Addr} {vs : List V} {its : List Value} {t' n : Nat} (I : Inv X pins σ H s) (kp : ∀ b u, s.heap.get? b = some u → h'.get? b = some u) (ha : s.heap.objs.size ≤ a) (r : Vals vs its) (hz : vs.length ≤ sizeLine)
    (he : h'.get? a = some { cls := .type "tuple", data := .seq its.toArray n }) : Inv X pins σ (upd H a (.frz { cls := .type "tuple", data := .seq its.toArray n } (.tup vs))) { s with heap := h', toks := t' } :=
  I.laid kp ha ⟨he, hz, its, r, ⟨_, he, rfl, n, rfl⟩⟩
def rCatF (K : PySem.W.Frag) : R2 := fun x y H Q => ∃ a b xs ys, x = .ref a ∧ y = .ref b ∧ SqT K H a xs ∧ SqT K H b ys ∧ xs.length + ys.length ≤ sizeLine ∧
  (xs = [] → Q (.ref b) H) ∧ (xs ≠ [] → ys = [] → Q (.ref a) H) ∧ (xs ≠ [] → ys ≠ [] → ∀ p o, H p = none → o.dict = none → Q (.ref p) (upd H p (.frz o (.tup (xs ++ ys)))))
theorem op_catF : OpR X (binaryOp .Add) (rCatF X.K) := by
  intro pins s σ H x y v u Q I rx ry h
  obtain ⟨a, b, xs, ys, rfl, rfl, ha, hb, hz, q0, q1, q2⟩ := h
  cases rx
  cases ry
  obtain ⟨its, r1, p1, _⟩ := I.tuple ha
  obtain ⟨its2, r2, p2, _⟩ := I.tuple hb
  by_cases hx : xs = []
  · subst hx
    cases r1
    exact cat_tup0 p1 p2 ⟨.ref b, H, I, rfl, q0 rfl⟩
  · refine HT.cat_tup p1 p2 (fun z => hx (r1.nil_iff.mp z)) (fun z => ⟨.ref a, H, I, rfl, q1 hx (r2.nil_iff.mp z)⟩) (fun z => ?_) (by rw [← r1.length, ← r2.length]; exact hz)
    exact ⟨.ref s.heap.objs.size, _, tup_laid (t' := s.toks) I (fun b ob q => Heap.get?_push_of_some _ q) (Nat.le_refl _) (r1.append r2) (by rw [List.length_append]; exact hz) (Heap.get?_push_size _ rfl), rfl, q2 hx (fun w => z (r2.nil_iff.mpr w)) _ _ (I.hok.fresh (Nat.le_refl _)) rfl⟩
def rSlF (K : PySem.W.Frag) : V → Option Int → Option Int → Hp → VK → Prop := fun x lo hi H Q => ∃ a xs, x = .ref a ∧ SqT K H a xs ∧
  (HT.sIx xs.length 0 lo = 0 ∧ HT.sIx xs.length xs.length hi = xs.length → Q (.ref a) H) ∧ (¬ (HT.sIx xs.length 0 lo = 0 ∧ HT.sIx xs.length xs.length hi = xs.length) → ∀ p o, H p = none → o.dict = none → Q (.ref p) (upd H p (.frz o (.tup (cutV xs lo hi)))))
theorem sl_tupF : SlR X (rSlF X.K) := by
  intro pins s σ H x v vl vu lo hi sl Q I rx hs pl pu h
  obtain ⟨a, xs, rfl, hx, q1, q2⟩ := h
  cases rx
  obtain ⟨its, r, ht, hz⟩ := I.tuple hx
  have hlen : its.toArray.size = xs.length := by rw [List.size_toArray]; exact r.length.symm
  refine ⟨"tuple", _, PyProof.Rows.slot_tuple_getitem.lookup, ht.typeIs, ?_⟩
  by_cases hw : HT.sIx xs.length 0 lo = 0 ∧ HT.sIx xs.length xs.length hi = xs.length
  · exact getItem_tuple_whole ht hs pl pu (by rw [hlen]; exact hw) ⟨.ref a, H, I, rfl, q1 hw⟩
  · refine HT.getItem_tuple_cut ht hs pl pu (by rw [hlen]; exact hw) ?_ (by rw [hlen]; exact hz)
    rw [hlen]
    exact ⟨.ref s.heap.objs.size, _, tup_laid (t' := s.toks) I (fun b ob q => Heap.get?_push_of_some _ q) (Nat.le_refl _) ((r.drop (HT.sIx xs.length 0 lo)).take (HT.sIx xs.length xs.length hi - HT.sIx xs.length 0 lo)) (Nat.le_trans (cutV_length xs lo hi) hz) (Heap.get?_push_size _ rfl), rfl, q2 hw _ _ (I.hok.fresh (Nat.le_refl _)) rfl⟩
def tTupF (t : TA) : TE := fun σ H Q => t σ H fun xs H1 => xs.length ≤ sizeLine ∧ ∀ p o, H1 p = none → o.dict = none → Q (.ref p) (upd H1 p (.frz o (.tup xs)))
theorem pe_tupF {es : List Expr} {t : TA} {x1} {pos : Pos} (h : PA X es t) : PE X (.Tuple es x1 pos) (tTupF t) := by
  refine ⟨fun pins s σ H Q I hq => ?_⟩
  refine wpAny_Tuple_spliced (thn (h.run pos pins s σ H _ I hq) fun us s1 ⟨xs, H1, I1, r, z, q⟩ => ⟨by rw [← r.length]; exact z, ?_⟩)
  exact ⟨.ref s1.heap.objs.size, _, tup_laid (t' := s1.toks) I1 (fun b u e => Heap.get?_push_of_some _ e) (Nat.le_refl _) r z (Heap.get?_push_size _ rfl), rfl, q _ _ (I1.hok.fresh (Nat.le_refl _)) rfl⟩
theorem call_tupF : CallR X (.type "tuple") (fun xs H Q => ∃ p ys, xs = [.ref p] ∧ ((SqL X.K H p ys ∧ ∀ l o, H l = none → o.dict = none → Q (.ref l) (upd H l (.frz o (.tup ys)))) ∨ (SqT X.K H p ys ∧ Q (.ref p) H))) := by
  intro pins s σ H xs us Q I r h
  obtain ⟨p, ys, rfl, h⟩ := h
  obtain ⟨u, rfl, rx⟩ := vals1 r
  cases rx
  rcases h with ⟨hq, q⟩ | ⟨hq, q⟩
  · obtain ⟨its, r', pl, hz⟩ := I.list hq
    have hlen := r'.length
    refine call_tuple_list pl.isList (fun h' kp => ?_) (by simp only [List.size_toArray] <;> omega)
    have I1 : Inv X pins σ H { s with heap := h' } := I.kept (t' := s.toks) kp
    exact ⟨.ref h'.objs.size, _, tup_laid (s := { s with heap := h' }) (a := h'.objs.size) (n := 0) (t' := s.toks) I1 (fun b o e => Heap.get?_push_of_some _ e) (Nat.le_refl _) r' hz (Heap.get?_push_size _ rfl), rfl, q _ _ (I1.hok.fresh (Nat.le_refl _)) rfl⟩
  · obtain ⟨its, r', pl, hz⟩ := I.tuple hq
    exact call_tuple_same pl ⟨.ref p, H, I, rfl, q⟩
def tTupRgF (te : L2.St → Hp → (Int → Int → Hp → Prop) → Prop) : TE := fun σ H Q => te σ H fun a b H1 => RgOk a b ∧ ∀ q o, H1 q = none → o.dict = none → Q (.ref q) (upd H1 q (.frz o (.tup (rgV a b))))
theorem pe_tupRgF {e : Expr} {te : L2.St → Hp → (Int → Int → Hp → Prop) → Prop} {p pos : Pos} (hc : X.calm = true) (hg : Gl X "tuple") (hm : X.mg "tuple" = none) (he : PRg X e te) (na : starEach [e] X.env = (false, eval e X.env) :: starEach [] X.env := by rfl) : PE X (.Call (.Name "tuple" p) [e] [] pos) (tTupRgF te) := by
  refine ⟨fun pins s σ H Q I h => ?_⟩
  refine Call_ (ld_blt I hg hm boot_tuple (PyProof.Rows.callWith_type1 (args_cons (thn (he pins s σ H _ I h) fun x s1 ⟨r, a, b, t, u, v, H1, ex, hr, I1, ok, q⟩ => args_nil ?_) na) na))
  subst ex
  obtain ⟨b1, b2, b3, b4, b5⟩ := ok
  refine call_tuple_range (n := (b - a).toNat) (I1.ok.hd hc) hr (small_one b1 b2 b3 b4) (rangeSize_nat a b) b5 fun h' tk acc hk hi => ?_
  have I2 : Inv X pins σ H1 { s1 with heap := h', toks := tk } := I1.kept hk
  have hv : Vals (rgV a b) acc.toList := vals_rg hi
  exact ⟨.ref h'.objs.size, _, tup_laid (s := { s1 with heap := h', toks := tk }) (a := h'.objs.size) (t' := tk) (n := 0) I2 (fun c o e => Heap.get?_push_of_some _ e) (Nat.le_refl _) hv (by rw [rgV_length, sizeLine_eq]; omega) (by rw [Array.toArray_toList]; exact Heap.get?_push_size _ rfl), rfl, q _ _ (I2.hok.fresh (Nat.le_refl _)) rfl⟩
theorem call_divmodF : CallR X (.builtin "divmod") (fun xs H Q => ∃ i j, xs = [.int i, .int j] ∧ CDiv i j ∧ ∀ p o, H p = none → o.dict = none → Q (.ref p) (upd H p (.frz o (.tup [.int (i / j), .int (i % j)])))) := by
  intro pins s σ H xs us Q I r h
  obtain ⟨i, j, rfl, ⟨h1, h2⟩, q⟩ := h
  obtain ⟨u, w', rfl, ⟨t, rfl⟩, ⟨t', rfl⟩⟩ := vals2 r
  refine divmod_int (by omega) ?_ (.inl (PyProof.noPylong_small (by omega)))
  rw [Int.fdiv_eq_ediv_of_nonneg i (by omega), Int.fmod_eq_emod_of_nonneg i (by omega)]
  exact ⟨.ref s.heap.objs.size, _, tup_laid (n := 0) (vs := [.int (i / j), .int (i % j)]) (its := [.int (i / j) s.toks, .int (i % j) (s.toks + 1)]) I (fun b o e => Heap.get?_push_of_some _ e) (Nat.le_refl _) (.cons ⟨_, rfl⟩ (.cons ⟨_, rfl⟩ .nil)) (by simp only [List.length_cons, List.length_nil]; rw [sizeLine_eq]; decide) (Heap.get?_push_size s.heap rfl), rfl, q _ _ (I.hok.fresh (Nat.le_refl _)) rfl⟩
end
/-! ### operators -/
def pyOp : Op → Operator
  | .add => .Add
  | .sub => .Sub
  | .mul => .Mult
  | .fdiv => .FloorDiv
  | .mod => .Mod
  | .pow => .Pow
def rB (K : PySem.W.Frag) (f : PyData → PyData → Option R) : R2 := fun x y H Q => ∃ G F σ env dx dy r, Rs K G F σ H env ∧ Pk K F H x dx ∧ Pk K F H y dy ∧ f dx dy = some r ∧ Pst K G F σ Q (r, env)
theorem lim_line {n : Nat} (h : n ≤ LIM) : n ≤ sizeLine := by rw [sizeLine_eq]; unfold LIM at h; omega
theorem abs64 {i : Int} (h : i.natAbs < 2 ^ 64) : -(2 ^ 64) < i ∧ i < 2 ^ 64 := by omega
theorem op_ok {X : Cx} (o : Op) : OpR X (binaryOp (pyOp o)) (rB X.K (opV o)) := by
  intro pins s σ0 H x y v u Q I rx ry ⟨G, F, σ, env, dx, dy, r, rs, hx, hy, e, q⟩
  cases o with
  | add =>
    cases dx <;> cases dy <;> simp only [opV, reduceCtorEq] at e
    · cases e
      obtain rfl := hx.int
      obtain rfl := hy.int
      exact op_add pins s σ0 H _ _ v u Q I rx ry ⟨_, _, rfl, rfl, q.sh rs (.int _)⟩
    · split at e
      · rename_i hl
        cases e
        obtain ⟨p, vs, rfl, hp, a⟩ := hx.list
        obtain ⟨p', vs', rfl, hp', a'⟩ := hy.list
        refine op_cat pins s σ0 H _ _ v u Q I rx ry ⟨p, p', vs, vs', rfl, rfl, hp, hp', ?_, fun n hn => q.newL rs (a.append a') hn⟩
        rw [a.length, a'.length]; exact lim_line hl
      · cases e
    · split at e
      · rename_i hl
        cases e
        obtain ⟨p, vs, rfl, hp, a⟩ := hx.tuple
        obtain ⟨p', vs', rfl, hp', a'⟩ := hy.tuple
        refine op_catF pins s σ0 H _ _ v u Q I rx ry ⟨p, p', vs, vs', rfl, rfl, same_sqT rs.fh hp.sq, same_sqT rs.fh hp'.sq, ?_, fun e0 => ?_, fun _ e0 => ?_, fun _ _ n o hn ho => q.newT rs (a.append a') hn ho⟩
        · rw [a.length, a'.length]; exact lim_line hl
        · subst e0
          have := a.length
          cases a
          exact q.sh rs (.tup hp' a')
        · subst e0
          cases a'
          rw [List.append_nil] at q
          exact q.sh rs (.tup hp a)
      · cases e
  | sub =>
    cases dx <;> cases dy <;> simp only [opV, reduceCtorEq] at e
    cases e
    obtain rfl := hx.int
    obtain rfl := hy.int
    exact op_sub pins s σ0 H _ _ v u Q I rx ry ⟨_, _, rfl, rfl, q.sh rs (.int _)⟩
  | mul =>
    cases dx <;> cases dy <;> simp only [opV, reduceCtorEq] at e
    · split at e
      · rename_i hl
        cases e
        obtain rfl := hx.int
        obtain rfl := hy.int
        exact op_mul pins s σ0 H _ _ v u Q I rx ry ⟨_, _, rfl, rfl, hl.imp abs64 abs64, q.sh rs (.int _)⟩
      · cases e
    · split at e
      · rename_i hl
        cases e
        obtain ⟨p, vs, rfl, hp, a⟩ := hx.list
        obtain rfl := hy.int
        refine op_rep pins s σ0 H _ _ v u Q I rx ry ⟨p, _, vs, rfl, rfl, hp, ?_, ?_, ?_, fun n hn => q.newL rs (a.rep _) hn⟩
        · omega
        · omega
        · rw [a.length]; exact lim_line hl.1
      · cases e
  | fdiv =>
    cases dx <;> cases dy <;> simp only [opV, reduceCtorEq] at e
    split at e
    · rename_i hl
      cases e
      obtain rfl := hx.int
      obtain rfl := hy.int
      exact op_fdivW pins s σ0 H _ _ v u Q I rx ry ⟨_, _, rfl, rfl, hl, q.sh rs (.int _)⟩
    · cases e
  | mod =>
    cases dx <;> cases dy <;> simp only [opV, reduceCtorEq] at e
    split at e
    · rename_i hl
      cases e
      obtain rfl := hx.int
      obtain rfl := hy.int
      exact op_mod pins s σ0 H _ _ v u Q I rx ry ⟨_, _, rfl, rfl, hl, q.sh rs (.int _)⟩
    · cases e
  | pow =>
    cases dx <;> cases dy <;> simp only [opV, reduceCtorEq] at e
    split at e
    · rename_i hl
      cases e
      obtain rfl := hx.int
      obtain rfl := hy.int
      exact op_pow pins s σ0 H _ _ v u Q I rx ry ⟨_, _, rfl, rfl, hl, q.sh rs (.int _)⟩
    · cases e
def pyCm : Cm → CmpOp
  | .eq => .Eq | .ne => .NotEq | .lt => .Lt | .le => .LtE | .gt => .Gt | .ge => .GtE | .isC => .Is | .isntC => .IsNot | .inn => .In | .ntin => .NotIn
def rC (K : PySem.W.Frag) (f : PyData → PyData → Option Bool) : R2 := fun x y H Q => ∃ F dx dy r, Same F H ∧ Pk K F H x dx ∧ Pk K F H y dy ∧ f dx dy = some r ∧ Q (.bl r) H
/-! x in t, t a tuple -/
def rInT (K : PySem.W.Frag) : R2 := fun x y H Q => ∃ d ds, Dp K H x d ∧ Dp K H y (.tuple ds) ∧ SeqAt.shaped d = true ∧ SeqAt.shaped (.tuple ds) = true ∧ Q (.bl (ds.any fun z => PyData.eqv z d)) H
def rNotInT (K : PySem.W.Frag) : R2 := fun x y H Q => ∃ d ds, Dp K H x d ∧ Dp K H y (.tuple ds) ∧ SeqAt.shaped d = true ∧ SeqAt.shaped (.tuple ds) = true ∧ Q (.bl (!ds.any fun z => PyData.eqv z d)) H
theorem op_inT {X : Cx} (hu : X.A.units + 65 < cLine) : OpR X (compareOp .In) (rInT X.K) := by
  intro pins s σ H x y v u Q I rx ry ⟨d, ds, hd, he, sd, se, q⟩
  obtain ⟨as, r1⟩ := Dp.reads I d x v hd rx
  obtain ⟨bs, r2⟩ := Dp.reads I (.tuple ds) y u he ry
  exact SeqAt.in_tuple_reads r2 r1 (SeqAt.canLay_of_shaped se) (SeqAt.canLay_of_shaped sd) (room_in_shaped sd hu) ⟨.bl _, H, I, rfl, q⟩
theorem op_ntinT {X : Cx} (hu : X.A.units + 65 < cLine) : OpR X (compareOp .NotIn) (rNotInT X.K) := by
  intro pins s σ H x y v u Q I rx ry ⟨d, ds, hd, he, sd, se, q⟩
  obtain ⟨as, r1⟩ := Dp.reads I d x v hd rx
  obtain ⟨bs, r2⟩ := Dp.reads I (.tuple ds) y u he ry
  exact SeqAt.notIn_tuple_reads r2 r1 (SeqAt.canLay_of_shaped se) (SeqAt.canLay_of_shaped sd) (room_in_shaped sd hu) ⟨.bl _, H, I, rfl, q⟩
theorem isD_none {d : PyData} {b : Bool} {K : PySem.W.Frag} {F H : Hp} {x : V} (e : isD d .none = some b) (h : Pk K F H x d) : b = decide (x = .non) := by
  cases d with
  | none => rw [h.non]; simp [isD] at e; rw [e]; rfl
  | bool _ => rw [h.bl]; simp [isD] at e; rw [e]; rfl
  | int _ => rw [h.int]; simp [isD] at e; rw [e]; rfl
  | str _ => rw [h.str]; simp [isD] at e; rw [e]; rfl
  | list _ => obtain ⟨p, vs, rfl, _⟩ := h.list; simp [isD] at e; rw [e]; rfl
  | tuple _ => obtain ⟨p, vs, rfl, _⟩ := h.tuple; simp [isD] at e; rw [e]; rfl
  | dict _ => simp [isD] at e
theorem cm_ok {X : Cx} (o : Cm) (hu : X.A.units + 65 < cLine) : OpR X (compareOp (pyCm o)) (rC X.K (cmV o)) := by
  intro pins s σ0 H x y v u Q I rx ry ⟨F, dx, dy, r, sF, hx, hy, e, q⟩
  have ii : ∀ {p : Int → Int → Bool} {i j : Int}, some (p i j) = some r → x = .int i ∧ y = .int j → (∃ i j, x = .int i ∧ y = .int j ∧ Q (.bl (p i j)) H) := fun {p i j} e h => ⟨i, j, h.1, h.2, by rw [Option.some.inj e]; exact q⟩
  cases o with
  | eq =>
    simp only [cmV, Bool.and_eq_true, okD] at e
    split at e
    · rename_i hk
      exact op_eqD (by omega) pins s σ0 H x y v u Q I rx ry ⟨dx, dy, hx.dp sF, hy.dp sF, hk.1, hk.2, by rw [Option.some.inj e]; exact q⟩
    · cases e
  | ne =>
    simp only [cmV, Bool.and_eq_true, okD] at e
    split at e
    · rename_i hk
      exact op_neD (by omega) pins s σ0 H x y v u Q I rx ry ⟨dx, dy, hx.dp sF, hy.dp sF, hk.1, hk.2, by rw [Option.some.inj e]; exact q⟩
    · cases e
  | lt =>
    cases dx <;> cases dy <;> simp only [cmV, reduceCtorEq] at e
    exact op_lt pins s σ0 H x y v u Q I rx ry (ii e ⟨hx.int, hy.int⟩)
  | le =>
    cases dx <;> cases dy <;> simp only [cmV, reduceCtorEq] at e
    exact op_le pins s σ0 H x y v u Q I rx ry (ii (p := fun i j => decide (i ≤ j)) e ⟨hx.int, hy.int⟩)
  | gt =>
    cases dx <;> cases dy <;> simp only [cmV, reduceCtorEq] at e
    exact op_gt pins s σ0 H x y v u Q I rx ry (ii (p := fun i j => decide (j < i)) e ⟨hx.int, hy.int⟩)
  | ge =>
    cases dx <;> cases dy <;> simp only [cmV, reduceCtorEq] at e
    exact op_ge pins s σ0 H x y v u Q I rx ry (ii (p := fun i j => decide (j ≤ i)) e ⟨hx.int, hy.int⟩)
  | isC =>
    replace e : isD dx dy = some r := e
    cases dy with
    | none =>
      have := isD_none e hx
      rw [this] at q
      exact op_isN pins s σ0 H x y v u Q I rx ry ⟨hy.non, q⟩
    | bool b =>
      cases dx <;> simp only [isD, reduceCtorEq] at e
      rename_i a
      refine op_isBl pins s σ0 H x y v u Q I rx ry ⟨a, b, hx.bl, hy.bl, ?_⟩
      rw [← Option.some.inj e] at q
      rw [show decide (a = b) = (a == b) by cases a <;> cases b <;> rfl]
      exact q
    | _ => cases dx <;> simp only [isD, reduceCtorEq] at e
  | isntC =>
    replace e : (isD dx dy).map (!·) = some r := e
    rw [Option.map_eq_some_iff] at e
    obtain ⟨r', e1, rfl⟩ := e
    replace e := e1
    clear e1
    cases dy with
    | none =>
      have := isD_none e hx
      rw [this] at q
      exact op_notN pins s σ0 H x y v u Q I rx ry ⟨hy.non, q⟩
    | bool b =>
      cases dx <;> simp only [isD, reduceCtorEq] at e
      rename_i a
      refine op_notBl pins s σ0 H x y v u Q I rx ry ⟨a, b, hx.bl, hy.bl, ?_⟩
      rw [← Option.some.inj e] at q
      rw [show decide (a = b) = (a == b) by cases a <;> cases b <;> rfl]
      exact q
    | _ => cases dx <;> simp only [isD, reduceCtorEq] at e
  | inn =>
    cases dy <;> simp only [cmV, reduceCtorEq, Bool.and_eq_true, okD] at e
    · split at e
      · rename_i hk
        exact op_inD hu pins s σ0 H x y v u Q I rx ry ⟨dx, _, hx.dp sF, hy.dp sF, hk.1, hk.2, by rw [Option.some.inj e]; exact q⟩
      · cases e
    · split at e
      · rename_i hk
        exact op_inT hu pins s σ0 H x y v u Q I rx ry ⟨dx, _, hx.dp sF, hy.dp sF, hk.1, hk.2, by rw [Option.some.inj e]; exact q⟩
      · cases e
  | ntin =>
    cases dy <;> simp only [cmV, reduceCtorEq, Bool.and_eq_true, okD] at e
    · split at e
      · rename_i hk
        exact op_notInD hu pins s σ0 H x y v u Q I rx ry ⟨dx, _, hx.dp sF, hy.dp sF, hk.1, hk.2, by rw [Option.some.inj e]; exact q⟩
      · cases e
    · split at e
      · rename_i hk
        exact op_ntinT hu pins s σ0 H x y v u Q I rx ry ⟨dx, _, hx.dp sF, hy.dp sF, hk.1, hk.2, by rw [Option.some.inj e]; exact q⟩
      · cases e
end Ev

namespace Ev
open PySem PySem.Spec PyProof.Rows L2
/-! Ev5: expressions, case by case -/
theorem PE.c {X : Cx} {e : Expr} {m : Env → T (R × Env)} (h : PE X e (tEv X.K m)) : PE X e (tCv X.K m) := PE.imp h fun _ _ _ => tCv.imp
section
variable {X : Cx} {Φ : Phi} {a b c : Ex} {l r z : Expr} {pos : Pos}
theorem se_var {i : Nat} {x : Str} (hN : X.N[i]? = some x) (hv : Vis X.env.scope x) (hd : (x == ("__debug__" : Str)) = false) (hcd : (x == ("__classdict__" : Str)) = false) : PE X (.Name x pos) (tEv X.K (ev Φ (.var i))) := by
  refine PE.imp (pe_var hN hv hd hcd) fun σ H Q ⟨G, F, env, rs, h⟩ => ?_
  simp only [ev] at h
  cases q : Ev.get env i with
  | un => rw [q] at h; exact h.elim
  | sh d =>
    rw [q] at h
    obtain ⟨v, hv, ok⟩ := rs.at_ i _ (get_of q (by intro z; cases z)) (by intro z; cases z)
    exact ⟨v, hv, Pst.sh h rs ok⟩
  | scr ns =>
    rw [q] at h
    obtain ⟨v, hv, ok⟩ := rs.at_ i _ (get_of q (by intro z; cases z)) (by intro z; cases z)
    exact ⟨v, hv, h F H v (Same.refl _) rs (.inr ⟨rfl, ok, fun z => by cases z⟩)⟩
  | pot =>
    rw [q] at h
    obtain ⟨v, hv, ok⟩ := rs.at_ i _ (get_of q (by intro z; cases z)) (by intro z; cases z)
    exact ⟨v, hv, h F H v (Same.refl _) rs (.inr ⟨rfl, ok, fun z => by cases z⟩)⟩
  | sd kvs =>
    rw [q] at h
    obtain ⟨v, hv, ok⟩ := rs.at_ i _ (get_of q (by intro z; cases z)) (by intro z; cases z)
    exact ⟨v, hv, h F H v (Same.refl _) rs (.inr ⟨rfl, ok, fun z => by cases z⟩)⟩
  | ow xs =>
    rw [q] at h
    obtain ⟨v, hv, ok⟩ := rs.at_ i _ (get_of q (by intro z; cases z)) (by intro z; cases z)
    exact ⟨v, hv, h F H v (Same.refl _) rs (.inl ⟨i, rfl, hv⟩)⟩
  | od kvs =>
    rw [q] at h
    obtain ⟨v, hv, ok⟩ := rs.at_ i _ (get_of q (by intro z; cases z)) (by intro z; cases z)
    exact ⟨v, hv, h F H v (Same.refl _) rs (.inl ⟨i, rfl, hv⟩)⟩
theorem se_cst {e : Expr} {d : PyData} {v : V} (h : PE X e (tC v)) (hd : ∀ F, Dn X.K F v d) : PE X e (tEv X.K (ev Φ (.cst d))) :=
  PE.imp h fun σ H Q ⟨G, F, env, rs, q⟩ => Pst.sh (show Pst X.K G F σ Q (.sh d, env) from q) rs (hd F)
theorem se_bin {o : Op} (ha : PE X l (tEv X.K (ev Φ a))) (hb : PE X r (tEv X.K (ev Φ b))) : PE X (.BinOp l (pyOp o) r pos) (tEv X.K (ev Φ (.bin o a b))) := by
  refine PE.imp (pe_op (op_ok o) (PE.c ha) (PE.c hb)) fun σ H Q h => ?_
  refine bin_imp (k := fun x y e2 => T.opt (x.peek e2) >>= fun dx => T.opt (y.peek e2) >>= fun dy => T.opt (opV o dx dy) >>= fun r => .ret (r, e2)) (fun G F H env x y rx ry Q rs cx cy hk => ?_) h
  obtain ⟨dx, e1, hk⟩ := T.All_opt.mp (T.All_bind.mp hk)
  obtain ⟨dy, e2, hk⟩ := T.All_opt.mp (T.All_bind.mp hk)
  obtain ⟨rr, e3, hk⟩ := T.All_opt.mp (T.All_bind.mp hk)
  exact ⟨G, F, σ, env, dx, dy, rr, rs, cx.peek rs e1, cy.peek rs e2, e3, hk⟩
theorem se_cmp {o : Cm} (hu : X.A.units + 65 < cLine) (hm : behindInMarks (pyCm o) r = false) (ha : PE X l (tEv X.K (ev Φ a))) (hb : PE X r (tEv X.K (ev Φ b))) : PE X (.Compare l [pyCm o] [r] pos) (tEv X.K (ev Φ (.cmp o a b))) := by
  refine PE.imp (pe_cmpR (cm_ok o hu) (PE.c ha) (PE.c hb) hm) fun σ H Q h => ?_
  refine bin_imp (k := fun x y e2 => T.opt (x.peek e2) >>= fun dx => T.opt (y.peek e2) >>= fun dy => T.opt (cmV o dx dy) >>= fun r => .ret (.sh (.bool r), e2)) (fun G F H env x y rx ry Q rs cx cy hk => ?_) h
  obtain ⟨dx, e1, hk⟩ := T.All_opt.mp (T.All_bind.mp hk)
  obtain ⟨dy, e2, hk⟩ := T.All_opt.mp (T.All_bind.mp hk)
  obtain ⟨rr, e3, hk⟩ := T.All_opt.mp (T.All_bind.mp hk)
  exact ⟨F, dx, dy, rr, rs.fh, cx.peek rs e1, cy.peek rs e2, e3, Pst.sh (show Pst X.K G F σ Q (.sh (.bool rr), env) from hk) rs (.bl _)⟩
theorem se_neg (ha : PE X l (tEv X.K (ev Φ a))) : PE X (.UnaryOp .USub l pos) (tEv X.K (ev Φ (.neg a))) := by
  refine PE.imp (pe_un un_neg (PE.c ha)) fun σ H Q h => ?_
  refine un_imp (k := fun x e1 => T.opt (negR x) >>= fun i => .ret (.sh (.int i), e1)) (fun G F H env x rx Q rs cx hk => ?_) h
  obtain ⟨i, e1, hk⟩ := T.All_opt.mp (T.All_bind.mp hk)
  rcases cx with ⟨j, rfl, _⟩ | ⟨_, _, cx⟩
  · cases e1
  · cases rx with
    | sh d =>
      cases d with
      | int j =>
        cases e1
        exact ⟨j, Dn.int_inv cx, Pst.sh (show Pst X.K G F σ Q (.sh (.int (-j)), env) from hk) rs (.int _)⟩
      | _ => cases e1
    | _ => cases e1
/-- a test's reading -/
def tTv (K : PySem.W.Frag) (m : Env → T (R × Env)) : TT := fun σ H Q => ∃ G F env, Rs K G F σ H env ∧ (m env >>= tst).All fun r => ∀ F' H', Same F F' → Rs K G F' σ H' r.2 → Q r.1 H'
theorem tst_bool {K : PySem.W.Frag} {G F : Hp} {σ : L2.St} {H : Hp} {env : Env} {v : V} {r : R} {P : Bool × Env → Prop} (h : (tst (r, env)).All P) (ro : ROk K G F σ H env v r) : ∃ c, v = .bl c ∧ P (c, env) := by
  cases r with
  | sh d =>
    cases d with
    | bool c =>
      rcases ro with ⟨i, e, _⟩ | ⟨_, q, _⟩
      · cases e
      · exact ⟨c, Dn.bl_inv q, h⟩
    | _ => exact h.elim
  | _ => exact h.elim
theorem PT.imp {X : Cx} {e : Expr} {t t' : TT} (h : PT X e t) (i : ∀ σ H Q, t' σ H Q → t σ H Q) : PT X e t' := ⟨fun pins s σ H Q I q => h.run pins s σ H Q I (i σ H Q q)⟩
theorem PW.imp {X : Cx} {e : Expr} {t t' : TT} (h : PW X e t) (i : ∀ σ H Q, t' σ H Q → t σ H Q) : PW X e t' := ⟨fun wh pins s σ H Q I q => h.run wh pins s σ H Q I (i σ H Q q)⟩
/-- a value that is a bool, as a test -/
theorem te_plain (ha : PE X l (tEv X.K (ev Φ a))) (he : ∀ whole, isTrue l X.env whole = (do let v ← whole; standAt l.pos; holding [v] (truthy v))) : PT X l (tTv X.K (ev Φ a)) := by
  refine PT.imp (pt_val ha he) fun σ H Q ⟨G, F, env, rs, h⟩ => ?_
  refine ⟨G, F, env, rs, (T.All_bind.mp h).mono fun r hr => ?_⟩
  intro F' H' v s rs' ro
  obtain ⟨c, rfl, q⟩ := tst_bool hr ro
  exact ⟨c, rfl, q F' H' s rs'⟩
theorem te_cmp {o : Cm} (hu : X.A.units + 65 < cLine) (hm : behindInMarks (pyCm o) r = false) (ha : PE X l (tEv X.K (ev Φ a))) (hb : PE X r (tEv X.K (ev Φ b))) : PT X (.Compare l [pyCm o] [r] pos) (tTv X.K (ev Φ (.cmp o a b))) := by
  refine PT.imp (pt_cmpR (cm_ok o hu) (PE.c ha) (PE.c hb) hm) fun σ H Q ⟨G, F, env, rs, h⟩ => ?_
  refine bin_imp (Q := fun x H' => ∃ k, x = .bl k ∧ Q k H') (k := fun x y e2 => T.opt (x.peek e2) >>= fun dx => T.opt (y.peek e2) >>= fun dy => T.opt (cmV o dx dy) >>= fun r => .ret (.sh (.bool r), e2)) (fun G F H env x y rx ry Q rs cx cy hk => ?_) ⟨G, F, env, rs, (T.All_bind.mp h).mono fun r hr => ?_⟩
  · obtain ⟨dx, e1, hk⟩ := T.All_opt.mp (T.All_bind.mp hk)
    obtain ⟨dy, e2, hk⟩ := T.All_opt.mp (T.All_bind.mp hk)
    obtain ⟨rr, e3, hk⟩ := T.All_opt.mp (T.All_bind.mp hk)
    exact ⟨F, dx, dy, rr, rs.fh, cx.peek rs e1, cy.peek rs e2, e3, Pst.sh (show Pst X.K G F σ Q (.sh (.bool rr), env) from hk) rs (.bl _)⟩
  · intro F' H' v s rs' ro
    obtain ⟨c, rfl, q⟩ := tst_bool hr ro
    exact ⟨c, rfl, q F' H' s rs'⟩
theorem te_not (ha : PT X l (tTv X.K (ev Φ a))) : PT X (.UnaryOp .Not l pos) (tTv X.K (ev Φ (.not a))) := by
  refine PT.imp (pt_not ha) fun σ H Q ⟨G, F, env, rs, h⟩ => ?_
  refine ⟨G, F, env, rs, ?_⟩
  have h1 := T.All_bind.mp (T.All_bind.mp h)
  exact h1.mono fun r hr => hr
theorem pw_end {op : BoolOp} (h : PT X l (tTv X.K (ev Φ a))) (e : op = .And ∨ op = .Or) : PW X (.BoolOp op [l] pos) (tTv X.K (ev Φ a)) := by
  rcases e with rfl | rfl
  · exact pw_and1 h
  · exact pw_or1 h
theorem te_and {rest : List Expr} (ha : PT X l (tTv X.K (ev Φ a))) (hb : PW X (.BoolOp .And (r :: rest) pos) (tTv X.K (ev Φ b))) : PW X (.BoolOp .And (l :: r :: rest) pos) (tTv X.K (ev Φ (.and a b))) := by
  refine PW.imp (pw_and ha hb) fun σ H Q ⟨G, F, env, rs, h⟩ => ?_
  refine ⟨G, F, env, rs, (T.All_bind.mp (T.All_bind.mp h)).mono fun x hx => ?_⟩
  obtain ⟨t, e1⟩ := x
  intro F' H' s rs'
  cases t with
  | true =>
    simp only [if_true]
    have hx : (ev Φ b e1 >>= tst).All _ := T.All_bind.mpr hx
    exact ⟨G, F', e1, rs', hx.mono fun y hy F2 H2 s2 rs2 => hy F2 H2 (s.trans s2) rs2⟩
  | false =>
    simp only [Bool.false_eq_true, if_false]
    exact hx F' H' s rs'
theorem te_or {rest : List Expr} (ha : PT X l (tTv X.K (ev Φ a))) (hb : PW X (.BoolOp .Or (r :: rest) pos) (tTv X.K (ev Φ b))) : PW X (.BoolOp .Or (l :: r :: rest) pos) (tTv X.K (ev Φ (.or a b))) := by
  refine PW.imp (pw_or ha hb) fun σ H Q ⟨G, F, env, rs, h⟩ => ?_
  refine ⟨G, F, env, rs, (T.All_bind.mp (T.All_bind.mp h)).mono fun x hx => ?_⟩
  obtain ⟨t, e1⟩ := x
  intro F' H' s rs'
  cases t with
  | false =>
    simp only [Bool.false_eq_true, if_false]
    have hx : (ev Φ b e1 >>= tst).All _ := T.All_bind.mpr hx
    exact ⟨G, F', e1, rs', hx.mono fun y hy F2 H2 s2 rs2 => hy F2 H2 (s.trans s2) rs2⟩
  | true =>
    simp only [if_true]
    exact hx F' H' s rs'
theorem se_not (ha : PE X l (tEv X.K (ev Φ a))) : PE X (.UnaryOp .Not l pos) (tEv X.K (ev Φ (.not a))) := by
  refine PE.imp (pe_not ha) fun σ H Q ⟨G, F, env, rs, h⟩ => ?_
  refine ⟨G, F, env, rs, (T.All_bind.mp (T.All_bind.mp h)).mono fun r hr => ?_⟩
  intro F' H' v s rs' ro
  obtain ⟨c, rfl, q⟩ := tst_bool hr ro
  exact ⟨c, rfl, Pst.sh ((show Pst X.K G F σ Q (.sh (.bool (!c)), r.2) from q).mono s) rs' (.bl _)⟩
theorem se_and {rest : List Expr} (ha : PE X l (tEv X.K (ev Φ a))) (hb : PE X (.BoolOp .And (r :: rest) pos) (tEv X.K (ev Φ b))) : PE X (.BoolOp .And (l :: r :: rest) pos) (tEv X.K (ev Φ (.and a b))) := by
  refine PE.imp (pe_and ha hb) fun σ H Q ⟨G, F, env, rs, h⟩ => ?_
  refine ⟨G, F, env, rs, (T.All_bind.mp (T.All_bind.mp h)).mono fun x hx => ?_⟩
  intro F' H' v s rs' ro
  obtain ⟨c, rfl, q⟩ := tst_bool hx ro
  refine ⟨c, rfl, ?_⟩
  cases c with
  | true =>
    simp only [if_true] at q ⊢
    exact ⟨G, F', x.2, rs', q.mono fun y hy => hy.mono s⟩
  | false =>
    simp only [Bool.false_eq_true, if_false] at q ⊢
    exact Pst.sh ((show Pst X.K G F σ Q (.sh (.bool false), x.2) from q).mono s) rs' (.bl _)
theorem se_or {rest : List Expr} (ha : PE X l (tEv X.K (ev Φ a))) (hb : PE X (.BoolOp .Or (r :: rest) pos) (tEv X.K (ev Φ b))) : PE X (.BoolOp .Or (l :: r :: rest) pos) (tEv X.K (ev Φ (.or a b))) := by
  refine PE.imp (pe_or ha hb) fun σ H Q ⟨G, F, env, rs, h⟩ => ?_
  refine ⟨G, F, env, rs, (T.All_bind.mp (T.All_bind.mp h)).mono fun x hx => ?_⟩
  intro F' H' v s rs' ro
  obtain ⟨c, rfl, q⟩ := tst_bool hx ro
  refine ⟨c, rfl, ?_⟩
  cases c with
  | false =>
    simp only [Bool.false_eq_true, if_false] at q ⊢
    exact ⟨G, F', x.2, rs', q.mono fun y hy => hy.mono s⟩
  | true =>
    simp only [if_true] at q ⊢
    exact Pst.sh ((show Pst X.K G F σ Q (.sh (.bool true), x.2) from q).mono s) rs' (.bl _)
theorem se_ite (hc : PT X z (tTv X.K (ev Φ c))) (ha : PE X l (tEv X.K (ev Φ a))) (hb : PE X r (tEv X.K (ev Φ b))) : PE X (.IfExp z l r pos) (tEv X.K (ev Φ (.ite c a b))) := by
  refine PE.imp (pe_ifExp hc ha hb) fun σ H Q ⟨G, F, env, rs, h⟩ => ?_
  refine ⟨G, F, env, rs, (T.All_bind.mp h).mono fun x hx => ?_⟩
  obtain ⟨t, e1⟩ := x
  intro F' H' s rs'
  cases t with
  | true =>
    simp only [if_true] at hx ⊢
    exact ⟨G, F', e1, rs', hx.mono fun y hy => hy.mono s⟩
  | false =>
    simp only [Bool.false_eq_true, if_false] at hx ⊢
    exact ⟨G, F', e1, rs', hx.mono fun y hy => hy.mono s⟩
/-- a op b op' c: as a value -/
theorem chain_imp {K : PySem.W.Frag} {o o' : Cm} {G F : Hp} {σ : L2.St} {H : Hp} {env : Env} {Q : VK} (rs : Rs K G F σ H env) (h : (ev Φ (.chain o o' a b c) env).All (Pst K G F σ Q)) :
    tChain (rC K (cmV o)) (rC K (cmV o')) (tCv K (ev Φ a)) (tCv K (ev Φ b)) (tCv K (ev Φ c)) σ H Q := by
  refine ⟨G, F, env, rs, (T.All_bind.mp h).mono fun r hr => ?_⟩
  intro F1 H1 x s1 rs1 c1
  refine ⟨G, F1, r.2, rs1, (T.All_bind.mp hr).mono fun r2 hr2 => ?_⟩
  intro F2 H2 y s2 rs2 c2
  obtain ⟨dx, e1, hk⟩ := T.All_opt.mp (T.All_bind.mp hr2)
  obtain ⟨dy, e2, hk⟩ := T.All_opt.mp (T.All_bind.mp hk)
  obtain ⟨t, e3, hk⟩ := T.All_opt.mp (T.All_bind.mp hk)
  refine ⟨F2, dx, dy, t, rs2.fh, (c1.mono s2).peek rs2 e1, c2.peek rs2 e2, e3, t, rfl, ?_⟩
  cases t with
  | true =>
    simp only [if_true] at hk ⊢
    refine ⟨G, F2, r2.2, rs2, (T.All_bind.mp hk).mono fun r3 hr3 => ?_⟩
    intro F3 H3 z s3 rs3 c3
    obtain ⟨dy', e4, hk⟩ := T.All_opt.mp (T.All_bind.mp hr3)
    obtain ⟨dz, e5, hk⟩ := T.All_opt.mp (T.All_bind.mp hk)
    obtain ⟨t', e6, hk⟩ := T.All_opt.mp (T.All_bind.mp hk)
    exact ⟨F3, dy', dz, t', rs3.fh, (c2.mono s3).peek rs3 e4, c3.peek rs3 e5, e6, Pst.sh ((show Pst K G F σ Q (.sh (.bool t'), r3.2) from hk).mono (s1.trans (s2.trans s3))) rs3 (.bl _)⟩
  | false =>
    simp only [Bool.false_eq_true, if_false] at hk ⊢
    exact Pst.sh ((show Pst K G F σ Q (.sh (.bool false), r2.2) from hk).mono (s1.trans s2)) rs2 (.bl _)
theorem se_chain {o o' : Cm} (hu : X.A.units + 65 < cLine) (hm : lastMarks [pyCm o, pyCm o'] [r, z] = false) (ha : PE X l (tEv X.K (ev Φ a))) (hb : PE X r (tEv X.K (ev Φ b))) (hc : PE X z (tEv X.K (ev Φ c))) : PE X (.Compare l [pyCm o, pyCm o'] [r, z] pos) (tEv X.K (ev Φ (.chain o o' a b c))) :=
  PE.imp (pe_chain (cm_ok o hu) (cm_ok o' hu) (PE.c ha) (PE.c hb) (PE.c hc) hm) fun σ H Q ⟨G, F, env, rs, h⟩ => chain_imp rs h
theorem te_chain {o o' : Cm} (hu : X.A.units + 65 < cLine) (hm : lastMarks [pyCm o, pyCm o'] [r, z] = false) (ha : PE X l (tEv X.K (ev Φ a))) (hb : PE X r (tEv X.K (ev Φ b))) (hc : PE X z (tEv X.K (ev Φ c))) : PT X (.Compare l [pyCm o, pyCm o'] [r, z] pos) (tTv X.K (ev Φ (.chain o o' a b c))) :=
  PT.imp (pt_chain (cm_ok o hu) (cm_ok o' hu) (PE.c ha) (PE.c hb) (PE.c hc) hm) fun σ H Q ⟨G, F, env, rs, h⟩ => chain_imp rs ((T.All_bind.mp h).mono fun r hr F' H' v s rs' ro => by
    obtain ⟨c, rfl, q⟩ := tst_bool hr ro
    exact ⟨c, rfl, q F' H' s rs'⟩)
/-! subscripts -/
theorem atD_ok {α : Type} {xs : List α} {i : Int} {v : α} (h : atD xs i = some v) : L2.atI xs i = some v := by
  unfold atD at h
  unfold L2.atI ixN
  split at h
  · rename_i h0
    have hl : i.toNat < xs.length := (List.getElem?_eq_some_iff.mp h).1
    rw [if_pos h0, if_pos (by omega)]
    exact h
  · rename_i h0
    split at h
    · rename_i h1
      rw [if_neg h0, if_pos h1]
      exact h
    · cases h
theorem DnAll.at {K : PySem.W.Frag} {F : Hp} {vs : List V} {ds : List PyData} {i : Int} {d : PyData} (h : DnAll K F vs ds) (e : atD ds i = some d) : ∃ v, L2.atI vs i = some v ∧ Dn K F v d := by
  have key : ∃ v, atD vs i = some v ∧ Dn K F v d := by
    unfold atD at e ⊢
    rw [h.length]
    split at e
    · rename_i h0
      rw [if_pos h0]; exact h.get e
    · rename_i h0
      split at e
      · rename_i h1
        rw [if_neg h0, if_pos h1]; exact h.get e
      · cases e
  obtain ⟨v, h1, h2⟩ := key
  exact ⟨v, atD_ok h1, h2⟩
def rX (K : PySem.W.Frag) : R2 := fun x y H Q => ∃ F dx dy r, Same F H ∧ Pk K F H x dx ∧ Pk K F H y dy ∧ idxV dx dy = some r ∧ ∀ v, Dn K F v r → Q v H
theorem ix_ok {X : Cx} : IxR X (rX X.K) := by
  intro value slice pins s σ H x y v u Q I rx ry ⟨F, dx, dy, r, sF, hx, hy, e, q⟩ hs
  cases dx <;> cases dy <;> simp only [idxV, reduceCtorEq] at e
  · obtain ⟨p, vs, rfl, hp, a⟩ := hx.list
    obtain rfl := hy.int
    obtain ⟨w, h1, h2⟩ := a.at e
    exact ix_list value slice pins s σ H _ _ v u Q I rx ry ⟨p, vs, _, w, rfl, rfl, .inl (.inl hp), h1, q w h2⟩ hs
  · obtain ⟨p, vs, rfl, hp, a⟩ := hx.tuple
    obtain rfl := hy.int
    obtain ⟨w, h1, h2⟩ := a.at e
    exact ix_tup value slice pins s σ H _ _ v u Q I rx ry ⟨p, vs, _, w, rfl, rfl, same_sqT sF hp.sq, h1, q w h2⟩ hs
theorem se_idx (hs : PlainIx r) (ha : PE X l (tEv X.K (ev Φ a))) (hb : PE X r (tEv X.K (ev Φ b))) : PE X (.Subscript l r pos) (tEv X.K (ev Φ (.idx a b))) := by
  refine PE.imp (pe_ix ix_ok (PE.c ha) (PE.c hb) hs) fun σ H Q h => ?_
  refine bin_imp (k := fun x y e2 => T.opt (x.peek e2) >>= fun dx => T.opt (y.peek e2) >>= fun dy => T.opt (idxV dx dy) >>= fun r => .ret (.sh r, e2)) (fun G F H env x y rx ry Q rs cx cy hk => ?_) h
  obtain ⟨dx, e1, hk⟩ := T.All_opt.mp (T.All_bind.mp hk)
  obtain ⟨dy, e2, hk⟩ := T.All_opt.mp (T.All_bind.mp hk)
  obtain ⟨rr, e3, hk⟩ := T.All_opt.mp (T.All_bind.mp hk)
  exact ⟨F, dx, dy, rr, rs.fh, cx.peek rs e1, cy.peek rs e2, e3, fun v hv => Pst.sh (show Pst X.K G F σ Q (.sh rr, env) from hk) rs hv⟩
theorem cut_eq (xs : List V) (lo hi : Option Int) : cutV xs lo hi = cut xs lo hi := by
  unfold cutV cut bnd HT.sIx
  cases lo <;> cases hi <;> rfl
theorem DnAll.cut {K : PySem.W.Frag} {F : Hp} {vs : List V} {ds : List PyData} (h : DnAll K F vs ds) (lo hi : Option Int) : DnAll K F (Ev.cut vs lo hi) (Ev.cut ds lo hi) := by
  unfold Ev.cut
  rw [h.length]
  exact (h.drop _).take _
theorem bnd_le (n d : Nat) (hd : d ≤ n) (o : Option Int) : bnd n d o ≤ n := by
  cases o with
  | none => exact hd
  | some i =>
    show (if i < 0 then (i + (n : Int)).toNat else min i.toNat n) ≤ n
    split
    · omega
    · exact Nat.min_le_right _ _
theorem cut_whole {α : Type} {xs : List α} {lo hi : Option Int} (h1 : bnd xs.length 0 lo = 0) (h2 : bnd xs.length xs.length hi = xs.length) : cut xs lo hi = xs := by
  unfold cut
  rw [h1, h2]
  simp
def rS (K : PySem.W.Frag) (σ : L2.St) : V → Option Int → Option Int → Hp → VK → Prop := fun x lo hi H Q => ∃ G F env dx r, Rs K G F σ H env ∧ Pk K F H x dx ∧ ((∃ xs, dx = .list xs ∧ r = .ow (cut xs lo hi)) ∨ ∃ xs, dx = .tuple xs ∧ r = .sh (.tuple (cut xs lo hi))) ∧ Pst K G F σ Q (r, env)
theorem sl_ok {X : Cx} {σ' : L2.St} : SlR X (rS X.K σ') := by
  intro pins s σ H x v vl vu lo hi sl Q I rx hs pl pu ⟨G, F, env, dx, r, rs, hx, e, q⟩
  rcases e with ⟨xs, rfl, rfl⟩ | ⟨xs, rfl, rfl⟩
  · obtain ⟨p, vs, rfl, hp, a⟩ := hx.list
    refine sl_list pins s σ H _ v vl vu lo hi sl Q I rx hs pl pu ⟨p, vs, rfl, .inl (.inl hp), fun n hn => ?_⟩
    rw [cut_eq]
    exact q.newL rs (a.cut lo hi) hn
  · obtain ⟨p, vs, rfl, hp, a⟩ := hx.tuple
    refine sl_tupF pins s σ H _ v vl vu lo hi sl Q I rx hs pl pu ⟨p, vs, rfl, same_sqT rs.fh hp.sq, fun w => ?_, fun w n o hn ho => ?_⟩
    · have h1 : bnd xs.length 0 lo = 0 := by rw [← a.length]; exact w.1
      have h2 : bnd xs.length xs.length hi = xs.length := by rw [← a.length]; exact w.2
      rw [cut_whole h1 h2] at q
      exact q.sh rs (.tup hp a)
    · rw [cut_eq]
      exact q.newT rs (a.cut lo hi) hn ho
/-- the optional parts of a slice -/
def tOv (K : PySem.W.Frag) (m : Env → T (Option Int × Env)) : TO := fun σ H Q => ∃ G F env, Rs K G F σ H env ∧ (m env).All fun r => ∀ F' H', Same F F' → Rs K G F' σ H' r.2 → Q r.1 H'
theorem PO.imp {X : Cx} {e : Option Expr} {t t' : TO} (h : PO X e t) (i : ∀ σ H Q, t' σ H Q → t σ H Q) : PO X e t' := ⟨fun pins s σ H Q I q => h.run pins s σ H Q I (i σ H Q q)⟩
theorem so_none : PO X none (tOv X.K (evO Φ none)) := PO.imp po_none fun σ H Q ⟨G, F, env, rs, h⟩ => h F H (Same.refl _) rs
theorem intR_ok {K : PySem.W.Frag} {F : Hp} {σ : L2.St} {v : V} {r : R} {i : Int} (c : COk K F σ v r) (e : intR r = some i) : r = .sh (.int i) ∧ v = .int i := by
  rcases c with ⟨j, rfl, _⟩ | ⟨_, _, c⟩
  · cases e
  · cases r with
    | sh d =>
      cases d with
      | int j => cases e; exact ⟨rfl, Dn.int_inv c⟩
      | _ => cases e
    | _ => cases e
theorem so_some (ha : PE X l (tEv X.K (ev Φ a))) : PO X (some l) (tOv X.K (evO Φ (some a))) := by
  refine PO.imp (po_some (PE.c ha)) fun σ H Q ⟨G, F, env, rs, h⟩ => ?_
  refine ⟨G, F, env, rs, (T.All_bind.mp h).mono fun r hr => ?_⟩
  intro F' H' v s rs' c
  obtain ⟨i, e, q⟩ := T.All_opt.mp (T.All_bind.mp hr)
  exact ⟨i, (intR_ok c e).2, q F' H' s rs'⟩
theorem se_slc {lo hi : Option Ex} {el eh : Option Expr} {p2 : Pos} (ha : PE X l (tEv X.K (ev Φ a))) (hl : PO X el (tOv X.K (evO Φ lo))) (hh : PO X eh (tOv X.K (evO Φ hi))) : PE X (.Subscript l (.Slice el eh none p2) pos) (tEv X.K (ev Φ (.slc a lo hi))) := by
  refine ⟨fun pins s σ0 H0 Q0 I0 h0 => ?_⟩
  refine (pe_slice (sl_ok (σ' := σ0)) (PE.c ha) hl hh).run pins s σ0 H0 Q0 I0 ?_
  obtain ⟨G, F, env, rs, h⟩ := h0
  refine ⟨G, F, env, rs, (T.All_bind.mp h).mono fun r hr => ?_⟩
  intro F1 H1 x s1 rs1 c1
  refine ⟨G, F1, r.2, rs1, (T.All_bind.mp hr).mono fun r2 hr2 => ?_⟩
  intro F2 H2 s2 rs2
  refine ⟨G, F2, r2.2, rs2, (T.All_bind.mp hr2).mono fun r3 hr3 => ?_⟩
  intro F3 H3 s3 rs3
  obtain ⟨dx, e1, hk⟩ := T.All_opt.mp (T.All_bind.mp hr3)
  obtain ⟨rr, e2, hk⟩ := T.All_opt.mp (T.All_bind.mp hk)
  refine ⟨G, F3, r3.2, dx, rr, rs3, (c1.mono (s2.trans s3)).peek rs3 e1, ?_, (show Pst X.K G F σ0 Q0 (rr, r3.2) from hk).mono (s1.trans (s2.trans s3))⟩
  cases dx <;> simp only [slcV, reduceCtorEq] at e2
  · exact .inl ⟨_, rfl, (Option.some.inj e2).symm⟩
  · exact .inr ⟨_, rfl, (Option.some.inj e2).symm⟩
end
end Ev

namespace Ev
open PySem PySem.Spec PyProof.Rows L2
/-! Ev6: tuples from behind; lists of parts; displays; built-ins -/
section
variable {prog : Program} {w : World} {A : Around} {E : Value → Shared → Prop} {s : Shared}
theorem adjust_rev (n : Nat) : Builtin.Slice.sliceAdjust none none (-1) (n : Int) = ((n : Int) - 1, -1) := by
  unfold Builtin.Slice.sliceAdjust
  simp
theorem places_rev (n : Nat) : Builtin.Slice.slicePlaces ((n : Int) - 1) (-1) (-1) = n := by
  unfold Builtin.Slice.slicePlaces
  have h1 : ¬ ((-1 : Int) > 0) := by omega
  have e : -(-1 : Int) = 1 := rfl
  simp only [h1, if_false, e, Int.ediv_one]
  split <;> omega
theorem fm_congr {α β : Type} {f g : α → Option β} : ∀ {l : List α}, (∀ a ∈ l, f a = g a) → l.filterMap f = l.filterMap g
  | [], _ => rfl
  | a :: l, h => by
    rw [List.filterMap_cons, List.filterMap_cons, h a List.mem_cons_self, fm_congr fun b hb => h b (List.mem_cons_of_mem _ hb)]
theorem sliceApplied_rev {sl : Addr} {vs : Value} {n : Nat} {Q : Int × Int × Nat → Shared → Prop} (hs : s.heap.IsSliceOf sl .none .none vs) (ps : IsPart vs (some (-1)))
    (h : Q ((n : Int) - 1, -1, n) s) : wpAny (model prog w) A (Builtin.Slice.sliceApplied (.ref sl) (pure (n : Int))) Q E s := by
  obtain ⟨os, hos, hcs, hds⟩ := id hs
  unfold Builtin.Slice.sliceApplied Builtin.Slice.sliceFields
  refine wpAny_bind (wpAny_bind (wpAny_field hos hds (x := .none) rfl (wpAny_bind (wpAny_field hos hds (x := .none) rfl (wpAny_bind (wpAny_field hos hds (x := vs) rfl (wpAny_pure ?_)))))))
  refine wpAny_bind (HT.slicePart_ ps ?_)
  show wpAny _ _ (if ((-1 : Int) == 0) = true then _ else _) _ _ s
  rw [if_neg (by decide)]
  refine wpAny_bind (HT.slicePart_ .none (wpAny_bind (HT.slicePart_ .none (wpAny_bind (wpAny_pure ?_)))))
  show wpAny _ _ (match Builtin.Slice.sliceAdjust none none (-1) (n : Int) with | (lo, hi) => pure (lo, (-1 : Int), Builtin.Slice.slicePlaces lo hi (-1))) _ _ s
  rw [adjust_rev]
  show wpAny _ _ (pure ((n : Int) - 1, (-1 : Int), Builtin.Slice.slicePlaces ((n : Int) - 1) (-1) (-1))) _ _ s
  rw [places_rev]
  exact wpAny_pure h
theorem rev_pick_aux (l : List Value) : ∀ k, k ≤ l.length → (List.range k).filterMap (fun m => l[l.length - 1 - m]?) = (l.drop (l.length - k)).reverse := by
  intro k
  induction k with
  | zero => intro _; simp
  | succ k ih =>
    intro hk
    rw [List.range_succ, List.filterMap_append, ih (by omega)]
    have h1 : l.length - 1 - k < l.length := by omega
    have h2 : l.length - (k + 1) = l.length - 1 - k := by omega
    rw [h2, List.drop_eq_getElem_cons h1, List.reverse_cons]
    congr 1
    · congr 2; omega
    · simp [List.getElem?_eq_getElem h1]
theorem rev_pick (xs : Array Value) : ((List.range xs.size).filterMap fun (m : Nat) => xs[((xs.size : Int) - 1 + (m : Int) * -1).toNat]?).toArray = xs.toList.reverse.toArray := by
  have e : (List.range xs.size).filterMap (fun (m : Nat) => xs[((xs.size : Int) - 1 + (m : Int) * -1).toNat]?) = (List.range xs.toList.length).filterMap (fun m => xs.toList[xs.toList.length - 1 - m]?) := by
    rw [Array.length_toList]
    refine fm_congr fun m hm => ?_
    have hm' := List.mem_range.mp hm
    have : ((xs.size : Int) - 1 + (m : Int) * -1).toNat = xs.size - 1 - m := by omega
    rw [this]
    simp
  rw [e, rev_pick_aux _ _ (Nat.le_refl _)]
  simp
theorem getItem_tuple_rev {t sl : Addr} {items : Array Value} {vs : Value} {Q : Value → Shared → Prop} (ht : IsTup s.heap t items) (hs : s.heap.IsSliceOf sl .none .none vs) (ps : IsPart vs (some (-1)))
    (h : Q (.ref s.heap.objs.size) { s with heap := s.heap.push { cls := .type "tuple", data := .seq items.toList.reverse.toArray } })
    (hsz : items.size ≤ sizeLine) : wpAny (model prog w) A (getItem (.ref t) (.ref sl)) Q E s := by
  have htake : sizeOk (.seq items.toList.reverse.toArray) := by
    show items.toList.reverse.toArray.size ≤ sizeLine
    rw [List.size_toArray, List.length_reverse, Array.length_toList]
    exact hsz
  obtain ⟨os, hos, hcs, hds⟩ := id hs
  have hTs : s.TypeIs (.ref sl) "slice" := ⟨os, hos, hcs⟩
  unfold getItem
  try with_reducible refine wpAny_holding ?_
  first | refine wpAny_bind (wpAny_pure ?_) | skip
  refine wpAny_bind (wpAny_sequenceKey ht.typeIs (by decide) ?_)
  refine wpAny_bind (wpAny_callSpecial?_slot (name := Str.ofString "__getitem__") ht.typeIs PyProof.Rows.slot_tuple_getitem
    (wpAny_call_entry PyProof.Rows.slot_tuple_getitem ht.typeIs entry_tuple_getitem ?_ (args_tuple_getitem _ _)))
  show wpAny _ _ (Builtin.Tuple.tupleItemsOf (.ref t) >>= _) _ _ s
  refine wpAny_bind (tupleItemsOf_ ht ?_)
  refine wpAny_bind (wpAny_typeOf hTs ?_)
  rw [if_pos (by decide)]
  refine wpAny_bind (sliceApplied_rev hs ps ?_)
  have hno : ¬ ((((items.size : Int) - 1) == 0 && (-1 : Int) == 1 && items.size == items.size) = true) := by
    intro q
    rw [Bool.and_eq_true, Bool.and_eq_true] at q
    exact absurd q.1.2 (by decide)
  show wpAny _ _ (if (((items.size : Int) - 1) == 0 && (-1 : Int) == 1 && items.size == items.size) = true then _ else _) _ _ s
  rw [if_neg hno, rev_pick]
  first
    | exact wpAny_bind (m := Builtin.Tuple.tupleExact _) (wpAny_newObj_type (wpAny_pure ⟨_, rfl, wpAny_pure h⟩) htake)
    | exact wpAny_bind (m := Builtin.Tuple.tupleExact _) (wpAny_newObj_type (wpAny_bind (wpAny_pure (wpAny_pure ⟨_, rfl, wpAny_pure h⟩))) htake)
    | exact wpAny_bind (wpAny_bind (m := Builtin.Tuple.tupleExact _) (wpAny_newObj_type (wpAny_pure (wpAny_pure ⟨_, rfl, wpAny_pure h⟩)) htake))
    | exact wpAny_bind (wpAny_bind (m := Builtin.Tuple.tupleExact _) (wpAny_newObj_type (wpAny_pure ⟨_, rfl, wpAny_pure h⟩) htake))
end
section
variable {X : Cx} {Φ : Phi} {a b c : Ex} {l r z : Expr} {pos : Pos}
/-- x[::-1] of a tuple, as pe_revL of a list -/
def tRevT (K : PySem.W.Frag) (te : TE) : TE := fun σ H Q => te σ H fun x H1 => ∃ a xs, x = .ref a ∧ SqT K H1 a xs ∧ ∀ p, H1 p = none → Q (.ref p) (upd H1 p (.tup xs.reverse))
theorem pe_rev {e : Expr} {te : TE} {k : Nat} {p1 p2 p3 pos : Pos} (he : PE X e te) : PE X (.Subscript e (.Slice none none (some (.UnaryOp .USub (.Constant (.int 1) k p1) p2)) p3) pos)
    (fun σ H Q => te σ H fun x H1 => (∃ a xs, x = .ref a ∧ SqL X.K H1 a xs ∧ ∀ p, H1 p = none → Q (.ref p) (upd H1 p (.lst xs.reverse))) ∨ ∃ a xs, x = .ref a ∧ SqT X.K H1 a xs ∧ ∀ p o, H1 p = none → o.dict = none → Q (.ref p) (upd H1 p (.frz o (.tup xs.reverse)))) := by
  refine ⟨fun pins s σ H Q I h => ?_⟩
  refine Subscript_ (thn (he.run pins s σ H _ I h) fun v s1 ⟨x, H1, I1, r1, q1⟩ => ?_)
  have hst : PO X (some (.UnaryOp .USub (.Constant (.int 1) k p1) p2)) (tPart (tUn (rU fun i => .int (-i)) (tC (.int 1)))) := po_some (pe_un un_neg pe_int)
  refine wpAny_Slice (thn (po_none.run pins s1 σ H1 (fun o H2 => o = none ∧ H2 = H1) I1 ⟨rfl, rfl⟩) fun vl s2 ⟨l, H2, I2, pl, el, e2⟩ => ?_)
  subst el e2
  refine thn (po_none.run pins s2 σ H2 (fun o H3 => o = none ∧ H3 = H2) I2 ⟨rfl, rfl⟩) fun vu s3 ⟨u, H3, I3, pu, eu, e3⟩ => ?_
  subst eu e3
  refine thn (hst.run pins s3 σ H3 (fun o H4 => o = some (-1) ∧ H4 = H3) I3 ⟨1, rfl, -1, rfl, rfl, rfl⟩) fun vs s4 ⟨o, H4, I4, ps, eo, e4⟩ => ?_
  subst eo e4
  have I5 : Inv X pins σ H4 { s4 with heap := s4.heap.push { cls := .type "slice", data := .fields #[vl, vu, vs] } } := I4.kept (t' := s4.toks) fun b ob q => Heap.get?_push_of_some _ q
  have fresh := I5.hok.fresh (Nat.le_refl _)
  rcases q1 with ⟨a, xs, ex, hx, q⟩ | ⟨a, xs, ex, hx, q⟩
  · subst ex
    cases r1
    obtain ⟨its, r, ht, hz⟩ := I5.list hx
    have hlen := r.length
    show wpAny (model X.prog X.w) X.A (subscriptTail e (.Slice none none (some (.UnaryOp .USub (.Constant (.int 1) k p1) p2)) p3) (.ref a) (.ref s4.heap.objs.size)) (EP X pins σ Q) X.xe { s4 with heap := s4.heap.push { cls := .type "slice", data := .fields #[vl, vu, vs] } }
    refine tail_any (ops := [.ref a, .ref s4.heap.objs.size]) ht.isList.typeIs (PySem.slot_list_getitem.lookup) ?_ (by with_unfolding_all rfl)
    refine wpAny_getItem_list_slice ht.isList (Heap.IsSliceOf.new _ vl vu vs) pl pu ps (by decide) ?_ (by rw [List.size_toArray]; omega)
    rw [PySem.W.krv_pick]
    refine ⟨.ref _, _, I5.laid (t' := s4.toks) (o := .lst xs.reverse) (fun b ob q => Heap.get?_push_of_some _ q) (Nat.le_refl _) ?_, rfl, q _ fresh⟩
    exact ⟨by rw [List.length_reverse]; exact hz, _, 0, r.reverse, Heap.get?_push_size _ rfl⟩
  · subst ex
    cases r1
    obtain ⟨its, r, ht, hz⟩ := I5.tuple hx
    have hlen := r.length
    cases pl
    cases pu
    show wpAny (model X.prog X.w) X.A (subscriptTail e (.Slice none none (some (.UnaryOp .USub (.Constant (.int 1) k p1) p2)) p3) (.ref a) (.ref s4.heap.objs.size)) (EP X pins σ Q) X.xe { s4 with heap := s4.heap.push { cls := .type "slice", data := .fields #[.none, .none, vs] } }
    refine tail_any (ops := [.ref a, .ref s4.heap.objs.size]) ht.typeIs PyProof.Rows.slot_tuple_getitem.lookup ?_ (by with_unfolding_all rfl)
    refine getItem_tuple_rev ht (Heap.IsSliceOf.new _ .none .none vs) ps ?_ (by rw [List.size_toArray]; omega)
    exact ⟨.ref _, _, tup_laid (t' := s4.toks) (n := 0) I5 (fun b ob q => Heap.get?_push_of_some _ q) (Nat.le_refl _) r.reverse (by rw [List.length_reverse]; exact hz) (Heap.get?_push_size _ rfl), rfl, q _ _ (I5.hok.fresh (Nat.le_refl _)) rfl⟩
theorem se_rev {k : Nat} {p1 p2 p3 : Pos} (ha : PE X l (tEv X.K (ev Φ a))) : PE X (.Subscript l (.Slice none none (some (.UnaryOp .USub (.Constant (.int 1) k p1) p2)) p3) pos) (tEv X.K (ev Φ (.rev a))) := by
  refine PE.imp (pe_rev (PE.c ha)) fun σ H Q ⟨G, F, env, rs, h⟩ => ?_
  refine ⟨G, F, env, rs, (T.All_bind.mp h).mono fun r hr => ?_⟩
  intro F' H' v s rs' c
  obtain ⟨dx, e1, hk⟩ := T.All_opt.mp (T.All_bind.mp hr)
  obtain ⟨rr, e2, hk⟩ := T.All_opt.mp (T.All_bind.mp hk)
  have q := (show Pst X.K G F σ Q (rr, r.2) from hk).mono s
  have pk := c.peek rs' e1
  cases dx <;> simp only [revV, reduceCtorEq] at e2
  · cases e2
    obtain ⟨p, vs, rfl, hp, al⟩ := pk.list
    exact .inl ⟨p, vs, rfl, .inl (.inl hp), fun n hn => q.newL rs' al.reverse hn⟩
  · cases e2
    obtain ⟨p, vs, rfl, hp, al⟩ := pk.tuple
    exact .inr ⟨p, vs, rfl, same_sqT rs'.fh hp.sq, fun n o hn ho => q.newT rs' al.reverse hn ho⟩
/-! ### parts in a row -/
def tCvs (K : PySem.W.Frag) (m : Env → T (List R × Env)) : TA := fun σ H Q => ∃ G F env, Rs K G F σ H env ∧ (m env).All fun r => ∀ F' H' vs, Same F F' → Rs K G F' σ H' r.2 → Paired (COk K F' σ) vs r.1 → Q vs H'
theorem PA.imp {X : Cx} {es : List Expr} {t t' : TA} (h : PA X es t) (i : ∀ σ H Q, t' σ H Q → t σ H Q) : PA X es t' := ⟨fun pos pins s σ H Q I q => h.run pos pins s σ H Q I (i σ H Q q)⟩
theorem sa_nil : PA X [] (tCvs X.K (evs Φ [])) := PA.imp pa_nil fun σ H Q ⟨G, F, env, rs, h⟩ => h F H [] (Same.refl _) rs .nil
theorem cvs_imp {K : PySem.W.Frag} {es : List Ex} {σ : L2.St} {H : Hp} {Q : List V → Hp → Prop} (h : tCvs K (evs Φ (a :: es)) σ H Q) : tCons (tCv K (ev Φ a)) (tCvs K (evs Φ es)) σ H Q := by
  obtain ⟨G, F, env, rs, h⟩ := h
  refine ⟨G, F, env, rs, (T.All_bind.mp h).mono fun r hr => ?_⟩
  intro F1 H1 x s1 rs1 c1
  refine ⟨G, F1, r.2, rs1, (T.All_bind.mp hr).mono fun r2 hr2 => ?_⟩
  intro F2 H2 xs s2 rs2 c2
  exact hr2 F2 H2 (x :: xs) (s1.trans s2) rs2 (.cons (c1.mono s2) c2)
def noStar : Expr → Bool
  | .Starred .. => false
  | _ => true
theorem star_of {e : Expr} {es : List Expr} {env : PySem.Env} (h : noStar e = true) : starEach (e :: es) env = (false, eval e env) :: starEach es env := by
  cases e <;> first | rfl | (simp [noStar] at h; done)
theorem stars_of {es : List Expr} {env : PySem.Env} {pos : Pos} (h : es.all noStar = true) : (backTo pos (starEach es env)).any (·.1) = false := by
  induction es with
  | nil => rfl
  | cons e es ih =>
    simp only [List.all_cons, Bool.and_eq_true] at h
    rw [star_of h.1]
    show (false || (backTo pos (starEach es env)).any (·.1)) = false
    rw [ih h.2]
    rfl
theorem sa_cons {es : List Expr} {cs : List Ex} (hn : noStar l = true) (ha : PE X l (tEv X.K (ev Φ a))) (hs : PA X es (tCvs X.K (evs Φ cs))) : PA X (l :: es) (tCvs X.K (evs Φ (a :: cs))) :=
  PA.imp (pa_cons (PE.c ha) hs (star_of hn)) fun σ H Q h => cvs_imp h
section
variable {K : PySem.W.Frag} {G F F' H H' : Hp} {σ : L2.St} {env env' : Env}
theorem paired_mono {vs : List V} {rs : List R} (h : Paired (COk K F σ) vs rs) (s : Same F F') : Paired (COk K F' σ) vs rs := L2.Paired.mapP h fun _ _ c => c.mono s
theorem keeps_ok {K : PySem.W.Frag} {G H : Hp} {σ : L2.St} {env' : Env} : ∀ {rs : List R} {vs : List V} {ds : List PyData} {F : Hp} {env : Env}, Rs K G F σ H env → Paired (COk K F σ) vs rs → keeps env rs = some (ds, env') → ∃ F', Same F F' ∧ Rs K G F' σ H env' ∧ DnAll K F' vs ds
  | [], _, _, F, env, w, .nil, e => by cases e; exact ⟨F, Same.refl _, w, .nil⟩
  | r :: rs, v :: vs, ds, F, env, w, .cons c cs, e => by
    simp only [keeps, Option.bind_eq_some_iff, Option.map_eq_some_iff] at e
    obtain ⟨⟨d, e1⟩, h1, ⟨ds', e2⟩, h2, h3⟩ := e
    simp only [Prod.mk.injEq] at h3
    obtain ⟨rfl, rfl⟩ := h3
    obtain ⟨F1, s1, w1, k1⟩ := c.keep w h1
    obtain ⟨F2, s2, w2, k2⟩ := keeps_ok w1 (paired_mono cs s1) h2
    exact ⟨F2, s1.trans s2, w2, .cons (k1.mono s2) k2⟩
def ArgOk (K : PySem.W.Frag) (F : Hp) (v : V) (e : EV) : Prop := VOk K H0 F H0 v e ∧ isOwn e = false
theorem ArgOk.mono {v : V} {e : EV} (h : ArgOk K F v e) (s : Same F F') : ArgOk K F' v e := ⟨h.1.not_own h.2 s, h.2⟩
theorem args_ok {K : PySem.W.Frag} {G H : Hp} {σ : L2.St} {env' : Env} : ∀ {rs : List R} {vs : List V} {es : List EV} {F : Hp} {env : Env}, Rs K G F σ H env → Paired (COk K F σ) vs rs → args env rs = some (es, env') → ∃ F', Same F F' ∧ Rs K G F' σ H env' ∧ Paired (ArgOk K F') vs es
  | [], _, _, F, env, w, .nil, e => by cases e; exact ⟨F, Same.refl _, w, .nil⟩
  | r :: rs, v :: vs, ds, F, env, w, .cons c cs, e => by
    simp only [args, Option.bind_eq_some_iff, Option.map_eq_some_iff] at e
    obtain ⟨⟨d, e1⟩, h1, ⟨ds', e2⟩, h2, h3⟩ := e
    simp only [Prod.mk.injEq] at h3
    obtain ⟨rfl, rfl⟩ := h3
    obtain ⟨F1, s1, w1, k1, o1⟩ := c.arg w h1
    obtain ⟨F2, s2, w2, k2⟩ := args_ok w1 (paired_mono cs s1) h2
    exact ⟨F2, s1.trans s2, w2, .cons (ArgOk.mono ⟨k1, o1⟩ s2) k2⟩
theorem peeks_ok (w : Rs K G F σ H env) : ∀ {rs : List R} {vs : List V} {ds : List PyData}, Paired (COk K F σ) vs rs → peeks env rs = some ds → Paired (Pk K F H) vs ds
  | [], _, _, .nil, e => by cases e; exact .nil
  | r :: rs, v :: vs, ds, .cons c cs, e => by
    simp only [peeks, Option.bind_eq_some_iff, Option.map_eq_some_iff] at e
    obtain ⟨d, h1, ds', h2, rfl⟩ := e
    exact .cons (c.peek w h1) (peeks_ok w cs h2)
end
theorem se_tup {es : List Expr} {cs : List Ex} {x1 : Nat} (hs : PA X es (tCvs X.K (evs Φ cs))) : PE X (.Tuple es x1 pos) (tEv X.K (ev Φ (.tup cs))) := by
  refine PE.imp (pe_tupF hs) fun σ H Q ⟨G, F, env, rs, h⟩ => ?_
  refine ⟨G, F, env, rs, (T.All_bind.mp h).mono fun r hr => ?_⟩
  intro F' H' vs s rs' c
  obtain ⟨⟨ds, e2⟩, e1, hk⟩ := T.All_opt.mp (T.All_bind.mp hr)
  obtain ⟨F2, s2, rs2, k⟩ := keeps_ok rs' c e1
  simp only at hk
  split at hk
  · rename_i hl
    refine ⟨by rw [k.length]; exact lim_line hl, fun p o hp ho => ?_⟩
    exact ((show Pst X.K G F σ Q (.sh (.tuple ds), e2) from hk).mono (s.trans s2)).newT rs2 k hp ho
  · exact hk.elim
theorem se_lst {es : List Expr} {cs : List Ex} (hs : PA X es (tCvs X.K (evs Φ cs))) : PE X (.List es pos) (tEv X.K (ev Φ (.lst cs))) := by
  refine PE.imp (pe_lst hs) fun σ H Q ⟨G, F, env, rs, h⟩ => ?_
  refine ⟨G, F, env, rs, (T.All_bind.mp h).mono fun r hr => ?_⟩
  intro F' H' vs s rs' c
  obtain ⟨⟨ds, e2⟩, e1, hk⟩ := T.All_opt.mp (T.All_bind.mp hr)
  obtain ⟨F2, s2, rs2, k⟩ := keeps_ok rs' c e1
  simp only at hk
  split at hk
  · rename_i hl
    refine ⟨by rw [k.length]; exact lim_line hl, fun p hp => ?_⟩
    exact ((show Pst X.K G F σ Q (.ow ds, e2) from hk).mono (s.trans s2)).newL rs2 k hp
  · exact hk.elim
end
end Ev

namespace Ev
open PySem PySem.Spec PyProof.Rows L2
/-! Ev7: built-in functions -/
/-! ### sorted -/
section
variable {K : PySem.W.Frag} {F H : Hp}
/-- values with what they denote -/
theorem each_of : ∀ {vs : List V} {us : List Value} {ds : List PyData}, Vals vs us → DnAll K F vs ds → PySem.W.EachIs (fun u (b : V × PyData) => RelV b.1 u) us (vs.zip ds)
  | _, _, _, .nil, .nil => .nil
  | _, _, _, .cons r1 r2, .cons _ a => .cons r1 (each_of r2 a)
theorem DnAll.zip_snd : ∀ {ds : List PyData} {vs : List V}, DnAll K F vs ds → (vs.zip ds).map Prod.snd = ds
  | _, _, .nil => rfl
  | _, _, .cons _ a => by rw [List.zip_cons_cons, List.map_cons, DnAll.zip_snd a]
theorem each_vals {bs : List (V × PyData)} {us : List Value} (h : PySem.W.EachIs (fun u (b : V × PyData) => RelV b.1 u) us bs) : Vals (bs.map Prod.fst) us := by
  induction h with
  | nil => exact .nil
  | cons h1 _ ih => exact .cons h1 ih
theorem DnAll.of_mem {bs : List (V × PyData)} (h : ∀ b ∈ bs, Dn K F b.1 b.2) : DnAll K F (bs.map Prod.fst) (bs.map Prod.snd) := by
  induction bs with
  | nil => exact .nil
  | cons b bs ih => exact .cons (h b List.mem_cons_self) (ih fun c hc => h c (List.mem_cons_of_mem _ hc))
theorem DnAll.zip_mem : ∀ {ds : List PyData} {vs : List V}, DnAll K F vs ds → ∀ b ∈ vs.zip ds, Dn K F b.1 b.2
  | _, _, .nil, b, hb => by cases hb
  | _, _, .cons h a, b, hb => by
    rcases List.mem_cons.mp hb with rfl | hb
    · exact h
    · exact DnAll.zip_mem a b hb
theorem each_reads {X : Cx} {pins : List (Addr × Obj)} {σ : L2.St} {F H : Hp} {s : Shared} (I : Inv X pins σ H s) (sF : Same F H) : ∀ {vs : List V} {us : List Value} {ds : List PyData}, Vals vs us → DnAll X.K F vs ds →
    PySem.W.EachIs (fun u (b : V × PyData) => ∃ as, Reads s.heap u b.2 as) us (vs.zip ds)
  | _, _, _, .nil, .nil => .nil
  | _, _, _, .cons r1 r2, .cons h a => .cons (Dp.reads I _ _ _ (Dn.mono sF h).dp r1) (each_reads I sF r2 a)
end
theorem each_mono2 {α β : Type} {R S : α → β → Prop} (h : ∀ a b, R a b → S a b) {as : List α} {bs : List β} (e : PySem.W.EachIs R as bs) : PySem.W.EachIs S as bs := by
  induction e with
  | nil => exact .nil
  | cons x _ ih => exact .cons (h _ _ x) ih
theorem alikeD_ok {ds : List PyData} (h : alikeD ds = true) : PySem.W.AllAlike ds := by
  intro d hd e he
  unfold alikeD at h
  rw [List.all_eq_true] at h
  exact List.all_eq_true.mp (h d hd) e he
def SortOk (ds : List PyData) : Prop := PySem.W.Sortable ds ∨ (ds.length ≤ 1 ∧ ∀ d ∈ ds, d ≠ .none)
theorem sortableD_ok {ds : List PyData} (h : sortableD ds = true) : SortOk ds := by
  unfold sortableD at h
  rw [Bool.or_eq_true, Bool.or_eq_true] at h
  rcases h with (h | h) | h
  · rw [Bool.and_eq_true, decide_eq_true_eq] at h
    refine .inr ⟨h.1, fun d hd => ?_⟩
    have := List.all_eq_true.mp h.2 d hd
    intro z; subst z; cases this
  · refine .inl (.inl fun d hd => ?_)
    have := List.all_eq_true.mp h d hd
    cases d with
    | tuple xs => cases xs with
      | cons x r => exact ⟨x, r, rfl⟩
      | nil => cases this
    | _ => cases this
  · refine .inl (.inr fun d hd => ?_)
    have := List.all_eq_true.mp h d hd
    cases d with
    | tuple xs => cases this
    | none => cases this
    | _ => exact ⟨(fun e => by cases e), (fun xs e => by cases e)⟩
section
open PySem.W PySem.Calls
/-- one value alone can be sorted -/
theorem sortsAt_one {P : Program} {wo : World} {A : Around} {s : Shared} {vs : List Value} {ds : List PyData} (ea : EachIs (fun v d => ∃ as, Reads s.heap v d as) vs ds) (al : AllAlike ds) (hl : ds.length ≤ 1) (hn : ∀ d ∈ ds, d ≠ .none)
    (room : ∀ d, d ∈ ds → A.units + d.depth < cLine) : SortsAt P wo A s (dataKind s.heap ds) vs where
  keys := fun v hv => by
    obtain ⟨d, hd, as, r⟩ := ea.left v hv
    exact ⟨_, dataKind_some al hd r⟩
  kind := ⟨general', (fun E x y a b Q ha hb hq => by
    obtain ⟨d, as, hd, ra, rfl⟩ := dataKind_inv ha
    obtain ⟨d', as', hd', rb, rfl⟩ := dataKind_inv hb
    have hz : A.units + min d.depth d'.depth < cLine := Nat.lt_of_le_of_lt (Nat.add_le_add_left (Nat.min_le_left _ _) _) (room d hd)
    show wpAny _ _ (oneLt' false x y) Q E s
    exact oneLt_alike (f := false) (fun z => by cases z) ra rb (al d hd d' hd') (hn d hd) hz hq), fun h2 => by
    have := ea.length
    omega⟩
theorem list_sort_any {P : Program} {wo : World} {A : Around} {E : Value → Shared → Prop} {s : Shared} {β : Type} {vs : List Value} {bs : List β} {enc : β → PyData} {R : Value → β → Prop} {a : Addr} {n : Nat} {Q : Value → Shared → Prop}
    (ho : s.heap.get? a = some (seqObj "list" vs.toArray n)) (ea : EachIs R vs bs) (er : EachIs (fun v b => ∃ as, Reads s.heap v (enc b) as ∧ a ∉ as) vs bs) (al : AllAlike (bs.map enc)) (hk : SortOk (bs.map enc)) (hL : bs.length ≤ sizeLine)
    (room : ∀ b, b ∈ bs → A.units + 1 + (enc b).depth < cLine) (h : ∀ out, out.length = bs.length → EachIs R out (bs.mergeSort (dataLe false enc)) → Q .none { s with heap := sortedHeap s.heap a vs (List.toArray out) }) :
    wpAny (model P wo) A (call (.builtin "list.sort") [.ref a]) Q E s := by
  rcases hk with hk | ⟨h1, h2⟩
  · exact list_sort_data ho ea er al hk hL room h
  · have z : EachIs (fun v b => ∃ as, Reads (sortingHeap s.heap a vs) v (enc b) as) vs bs := each_keepBut (fun b o hb q => sortingHeap_old hb q) (fun o q => by rw [ho] at q; cases q; rfl) al er
    have one := sortsAt_one (P := P) (wo := wo) (A := A.in1) (s := { s with heap := sortingHeap s.heap a vs }) (each_map (R := fun v d => ∃ as, Reads (sortingHeap s.heap a vs) v d as) enc z) al h1 h2 (bound_map room)
    have le : vs.length ≤ sizeLine := by rw [ea.length]; exact hL
    have fin := h (sortVals (dataKind (sortingHeap s.heap a vs) (bs.map enc)) false vs vs) (by rw [sortVals_length false rfl]; exact ea.length) (sortVals_data false ea z al)
    exact wpAny_call_entry slot_list_sort ⟨_, ho, rfl⟩ entry_list_sort (list_sort_vals ho one le ⟨.none, rfl, fin⟩) (args_list_sort _)
end
theorem sorted_any {X : Cx} {pins : List (Addr × Obj)} {σ : L2.St} {H F : Hp} {s : Shared} {p : Addr} {its : List Value} {vs : List V} {ds out : List PyData} {Q : VK} {T : String} {o : Obj} {n : Nat}
    (hu : X.A.units + 65 < cLine) (I : Inv X pins σ H s) (hT : T = "list" ∨ T = "tuple") (ho : s.heap.get? p = some o) (hc : o.cls = .type T) (hd : o.data = .seq its.toArray n) (rv : Vals vs its) (hz : vs.length ≤ sizeLine) (sF : Same F H) (a : DnAll X.K F vs ds)
    (e : sortV ds = some out) (q : ∀ l ys, DnAll X.K F ys out → H l = none → Q (.ref l) (upd H l (.lst ys))) :
    wpAny (model X.prog X.w) X.A (call (.builtin "sorted") [.ref p]) (EP X pins σ Q) X.xe s := by
  unfold sortV at e
  split at e
  · rename_i hk
    simp only [Bool.and_eq_true] at hk
    obtain ⟨⟨k1, k2⟩, k3⟩ := hk
    cases e
    have l1 : its.length = vs.length := rv.length.symm
    have l2 := a.length
    refine Calls.call_function_entry kind_sorted plain_sorted entry_sorted (args_sorted1 _) ?_
    unfold Builtin.«sorted»
    refine wpAny_bind (m := checkCount "sorted" 1 1 _) (wpAny_pure ?_)
    refine wpAny_bind (wpAny_collect_seq p hT ho hc hd (fun h' kp => ?_) (by rw [List.size_toArray, l1]; exact hz))
    have I1 : Inv X pins σ H { s with heap := h' } := I.kept (t' := s.toks) kp
    have he : its.toArray.toList = its := rfl
    rw [he]
    refine wpAny_bind (wpAny_newList ?_ (by rw [l1]; exact hz))
    have hn : (h'.push { cls := .type "list", data := .seq its.toArray }).get? h'.objs.size = some { cls := .type "list", data := .seq its.toArray } := Heap.get?_push_size _ rfl
    have kp2 : ∀ b u, h'.get? b = some u → (h'.push { cls := .type "list", data := .seq its.toArray }).get? b = some u := fun b u e => Heap.get?_push_of_some _ e
    refine wpAny_bind (wpAny_holding ?_)
    refine list_sort_any (R := fun u (b : V × PyData) => RelV b.1 u) (enc := Prod.snd) (bs := vs.zip ds) (n := 0) hn (each_of rv a) ?_ ?_ ?_ ?_ ?_ ?_
    · refine each_mono2 ?_ (each_reads I1 sF rv a)
      intro u b ⟨as, r⟩
      refine ⟨as, PyProof.Rows.Reads.keeps kp2 r, fun hm => ?_⟩
      obtain ⟨o', ho'⟩ := PyProof.On.reads_mem_get r _ hm
      exact absurd (Heap.lt_size ho') (Nat.lt_irrefl _)
    · rw [a.zip_snd]; exact alikeD_ok k1
    · rw [a.zip_snd]; exact sortableD_ok k2
    · rw [List.length_zip, l2, Nat.min_self, ← l2]; exact hz
    · intro b hb
      have hm : b.2 ∈ ds := by
        rw [← a.zip_snd]
        exact List.mem_map.mpr ⟨b, hb, rfl⟩
      have := of_decide_eq_true (List.all_eq_true.mp k3 _ hm)
      show X.A.units + 1 + 1 + _ < _
      omega
    · intro us hl hr
      obtain ⟨ep, hep⟩ := PyProof.Rows.sortedHeap_at (out := us.toArray) hn
      have e1 : ((vs.zip ds).mergeSort (PySem.W.dataLe false Prod.snd)).map Prod.snd = sortD ds := by
        rw [List.map_mergeSort (r := PySem.W.dataLe false Prod.snd) (s := PySem.W.dataLe false id) (f := Prod.snd) (fun a _ b _ => rfl), a.zip_snd]
        rfl
      have e2 : DnAll X.K F (((vs.zip ds).mergeSort (PySem.W.dataLe false Prod.snd)).map Prod.fst) (sortD ds) := by
        rw [← e1]
        refine DnAll.of_mem fun b hb => a.zip_mem b ?_
        exact List.mem_mergeSort.mp hb
      have hl2 : (((vs.zip ds).mergeSort (PySem.W.dataLe false Prod.snd)).map Prod.fst).length = vs.length := by
        rw [List.length_map, List.length_mergeSort, List.length_zip, l2, Nat.min_self]
      refine wpAny_pure ⟨_, rfl, .ref _, _, I1.laid (t' := s.toks) (h' := sortedHeap (h'.push { cls := .type "list", data := .seq its.toArray }) h'.objs.size its us.toArray) (a := h'.objs.size) (o := .lst (((vs.zip ds).mergeSort (PySem.W.dataLe false Prod.snd)).map Prod.fst)) (fun b u eb => ?_) (Nat.le_refl _) ⟨?_, us, ep, each_vals hr, hep⟩, rfl, q _ _ e2 (I1.hok.fresh (Nat.le_refl _))⟩
      · rw [PyProof.Rows.sortedHeap_old (Nat.ne_of_lt (Heap.lt_size eb)) (Nat.lt_of_lt_of_le (Heap.lt_size eb) (by simp [Heap.push]))]
        exact kp2 _ _ eb
      · rw [hl2]; exact hz
  · cases e

/-! ### the others -/
def pyB : Blt → Value
  | .len => .builtin "len"
  | .list => .type "list"
  | .tuple => .type "tuple"
  | .sorted => .builtin "sorted"
  | .sum => .builtin "sum"
  | .max => .builtin "max"
  | .min => .builtin "min"
  | .max2 => .builtin "max"
  | .min2 => .builtin "min"
  | .all => .builtin "all"
  | .any => .builtin "any"
  | .abs => .builtin "abs"
  | .int => .type "int"
  | .repr => .builtin "repr"
  | .divmod => .builtin "divmod"
  | _ => .none
def rBl (K : PySem.W.Frag) (b : Blt) : List V → Hp → VK → Prop := fun xs H Q => ∃ G F σ env ds r, Rs K G F σ H env ∧ Paired (Pk K F H) xs ds ∧ bltV b ds = some r ∧ Pst K G F σ Q (r, env)
theorem pk1 {K : PySem.W.Frag} {F H : Hp} {xs : List V} {d : PyData} (h : Paired (Pk K F H) xs [d]) : ∃ x, xs = [x] ∧ Pk K F H x d := by
  cases h with
  | cons a b => cases b; exact ⟨_, rfl, a⟩
theorem pk2 {K : PySem.W.Frag} {F H : Hp} {xs : List V} {d e : PyData} (h : Paired (Pk K F H) xs [d, e]) : ∃ x y, xs = [x, y] ∧ Pk K F H x d ∧ Pk K F H y e := by
  cases h with
  | cons a b => cases b with
    | cons b c => cases c; exact ⟨_, _, rfl, a, b⟩
theorem foldl_max : ∀ (r : List Int) (i : Int), (r.foldl max i = i ∨ r.foldl max i ∈ r) ∧ i ≤ r.foldl max i ∧ ∀ y ∈ r, y ≤ r.foldl max i
  | [], i => ⟨.inl rfl, Int.le_refl _, fun y hy => by cases hy⟩
  | j :: r, i => by
    obtain ⟨h1, h2, h3⟩ := foldl_max r (max i j)
    simp only [List.foldl_cons]
    refine ⟨?_, by omega, fun y hy => ?_⟩
    · rcases h1 with h1 | h1
      · rw [h1]
        rcases Int.le_total i j with h | h
        · exact .inr (by rw [Int.max_eq_right h]; exact List.mem_cons_self)
        · exact .inl (Int.max_eq_left h)
      · exact .inr (List.mem_cons_of_mem _ h1)
    · rcases List.mem_cons.mp hy with rfl | hy
      · omega
      · exact h3 y hy
theorem foldl_min : ∀ (r : List Int) (i : Int), (r.foldl min i = i ∨ r.foldl min i ∈ r) ∧ r.foldl min i ≤ i ∧ ∀ y ∈ r, r.foldl min i ≤ y
  | [], i => ⟨.inl rfl, Int.le_refl _, fun y hy => by cases hy⟩
  | j :: r, i => by
    obtain ⟨h1, h2, h3⟩ := foldl_min r (min i j)
    simp only [List.foldl_cons]
    refine ⟨?_, by omega, fun y hy => ?_⟩
    · rcases h1 with h1 | h1
      · rw [h1]
        rcases Int.le_total i j with h | h
        · exact .inl (Int.min_eq_left h)
        · exact .inr (by rw [Int.min_eq_right h]; exact List.mem_cons_self)
      · exact .inr (List.mem_cons_of_mem _ h1)
    · rcases List.mem_cons.mp hy with rfl | hy
      · omega
      · exact h3 y hy
theorem max_is {i m : Int} {r : List Int} (h1 : m ∈ i :: r) (h2 : ∀ y ∈ i :: r, y ≤ m) : m = r.foldl max i := by
  obtain ⟨a, b, c⟩ := foldl_max r i
  have hm : m ≤ r.foldl max i := by
    rcases List.mem_cons.mp h1 with rfl | h
    · exact b
    · exact c m h
  have hf : r.foldl max i ≤ m := by
    rcases a with a | a
    · rw [a]; exact h2 i List.mem_cons_self
    · exact h2 _ (List.mem_cons_of_mem _ a)
  omega
theorem min_is {i m : Int} {r : List Int} (h1 : m ∈ i :: r) (h2 : ∀ y ∈ i :: r, m ≤ y) : m = r.foldl min i := by
  obtain ⟨a, b, c⟩ := foldl_min r i
  have hm : r.foldl min i ≤ m := by
    rcases List.mem_cons.mp h1 with rfl | h
    · exact b
    · exact c m h
  have hf : m ≤ r.foldl min i := by
    rcases a with a | a
    · rw [a]; exact h2 i List.mem_cons_self
    · exact h2 _ (List.mem_cons_of_mem _ a)
  omega
/-- what is asked of a context -/
structure CxC (X : Cx) : Prop where
  hu : X.A.units + 70 < cLine
  hc : X.calm = true
  hg : X.A.guards = some []
theorem items_some {d : PyData} {xs : List PyData} (e : items d = some xs) : d = .list xs ∨ d = .tuple xs := by
  cases d <;> simp only [items, reduceCtorEq] at e
  · exact .inl (by rw [Option.some.inj e])
  · exact .inr (by rw [Option.some.inj e])
theorem intsD_eq : ∀ {ds : List PyData} {is : List Int}, intsD ds = some is → ds = is.map PyData.int
  | [], is, e => by cases e; rfl
  | d :: ds, is, e => by
    cases d with
    | int i =>
      have e : (intsD ds).map (i :: ·) = some is := e
      simp only [Option.map_eq_some_iff] at e
      obtain ⟨r, e1, rfl⟩ := e
      rw [intsD_eq e1]
      rfl
    | _ => cases e
theorem ints_alike (is : List Int) : W.AlikeAll (is.map PyData.int) := by
  refine ⟨fun x hx y hy => ?_, fun x hx => ?_⟩
  · obtain ⟨i, _, rfl⟩ := List.mem_map.mp hx
    obtain ⟨j, _, rfl⟩ := List.mem_map.mp hy
    rfl
  · obtain ⟨i, _, rfl⟩ := List.mem_map.mp hx
    intro z; cases z
theorem ints_depth : ∀ is : List Int, PyData.depthAll (is.map PyData.int) = 0
  | [] => by simp [PyData.depthAll]
  | i :: is => by simp [PyData.depthAll, PyData.depth, ints_depth is]
theorem ext_tup {X : Cx} {pins : List (Addr × Obj)} {σ : L2.St} {H F : Hp} {s : Shared} {p : Addr} {vs : List V} {is : List Int} (I : Inv X pins σ H s) (sF : Same F H) (hp : TupD X.K F p vs) (a : DnAll X.K F vs (is.map PyData.int)) :
    ∃ (its : List Value) (as : List Addr), s.heap.IsTuple p its.toArray ∧ ReadsAll s.heap its.toArray.toList (is.map PyData.int) as := by
  obtain ⟨its, rv, pT, hl⟩ := I.tuple (same_sqT sF hp.sq)
  obtain ⟨as, h4⟩ := Dp.readsAll I _ _ its (a.mono sF).dp rv
  exact ⟨its, as, pT, by simpa using h4⟩
theorem blt_ok {X : Cx} (c : CxC X) : ∀ b, (∃ T, pyB b = .type T) ∨ (∃ id, pyB b = .builtin id) → b ≠ .repr → CallR X (pyB b) (rBl X.K b) := by
  intro b hb hr pins s σ0 H xs us Q I rv ⟨G, F, σ, env, ds, r, rs, pk, e, q⟩
  have sF := rs.fh
  cases b with
  | len =>
    match ds, e, pk with
    | [.list ys], e, pk =>
      cases e
      obtain ⟨x, rfl, p⟩ := pk1 pk
      obtain ⟨p, vs, rfl, hp, a⟩ := p.list
      exact call_len pins s σ0 H _ us Q I rv ⟨_, _, rfl, .inl ⟨vs, .inl (.inl hp), rfl⟩, by rw [a.length]; exact q.sh rs (.int _)⟩
    | [.tuple ys], e, pk =>
      cases e
      obtain ⟨x, rfl, p⟩ := pk1 pk
      obtain ⟨p, vs, rfl, hp, a⟩ := p.tuple
      exact call_len pins s σ0 H _ us Q I rv ⟨_, _, rfl, .inr ⟨vs, same_sqT sF hp.sq, rfl⟩, by rw [a.length]; exact q.sh rs (.int _)⟩
  | list =>
    match ds, e, pk with
    | [d], e, pk =>
      simp only [bltV, Option.map_eq_some_iff] at e
      obtain ⟨ys, e1, rfl⟩ := e
      obtain ⟨x, rfl, p⟩ := pk1 pk
      rcases items_some e1 with rfl | rfl
      · obtain ⟨p, vs, rfl, hp, a⟩ := p.list
        exact call_list_of pins s σ0 H _ us Q I rv ⟨_, vs, rfl, .inl (.inl (.inl hp)), fun l hl => q.newL rs a hl⟩
      · obtain ⟨p, vs, rfl, hp, a⟩ := p.tuple
        exact call_list_of pins s σ0 H _ us Q I rv ⟨_, vs, rfl, .inr (same_sqT sF hp.sq), fun l hl => q.newL rs a hl⟩
  | tuple =>
    match ds, e, pk with
    | [d], e, pk =>
      simp only [bltV, Option.map_eq_some_iff] at e
      obtain ⟨ys, e1, rfl⟩ := e
      obtain ⟨x, rfl, p⟩ := pk1 pk
      rcases items_some e1 with rfl | rfl
      · obtain ⟨p, vs, rfl, hp, a⟩ := p.list
        exact call_tupF pins s σ0 H _ us Q I rv ⟨_, vs, rfl, .inl ⟨.inl (.inl hp), fun l o hl ho => q.newT rs a hl ho⟩⟩
      · obtain ⟨p, vs, rfl, hp, a⟩ := p.tuple
        exact call_tupF pins s σ0 H _ us Q I rv ⟨_, vs, rfl, .inr ⟨same_sqT sF hp.sq, q.sh rs (.tup hp a)⟩⟩
  | sorted =>
    match ds, e, pk with
    | [d], e, pk =>
      simp only [bltV, Option.bind_eq_some_iff, Option.map_eq_some_iff] at e
      obtain ⟨ys, e1, out, e2, rfl⟩ := e
      obtain ⟨x, rfl, p⟩ := pk1 pk
      rcases items_some e1 with rfl | rfl
      · obtain ⟨p, vs, rfl, hp, a⟩ := p.list
        obtain ⟨u, rfl, rx⟩ := vals1 rv
        cases rx
        obtain ⟨its, r', pl, hz⟩ := I.list (.inl (.inl hp))
        obtain ⟨o, ho, hc, n, hd⟩ := pl.isList
        exact sorted_any (by have := c.hu; omega) I (.inl rfl) ho hc hd r' hz sF a e2 fun l ys a' hl => q.newL rs a' hl
      · obtain ⟨p, vs, rfl, hp, a⟩ := p.tuple
        obtain ⟨u, rfl, rx⟩ := vals1 rv
        cases rx
        obtain ⟨its, r', pl, hz⟩ := I.tuple (same_sqT sF hp.sq)
        obtain ⟨o, ho, hc, n, hd⟩ := pl
        exact sorted_any (by have := c.hu; omega) I (.inr rfl) ho hc hd r' hz sF a e2 fun l ys a' hl => q.newL rs a' hl
  | sum =>
    match ds, e, pk with
    | [.list ys], e, pk =>
      simp only [bltV, Option.map_eq_some_iff] at e
      obtain ⟨is, e1, rfl⟩ := e
      obtain ⟨x, rfl, p⟩ := pk1 pk
      obtain ⟨p, vs, rfl, hp, a⟩ := p.list
      rw [a.ints e1] at hp
      exact cr_sum c.hc pins s σ0 H _ us Q I rv ⟨_, is, rfl, .inl (.inl hp), q.sh rs (.int _)⟩
  | max =>
    match ds, e, pk with
    | [.list ys], e, pk =>
      simp only [bltV, Option.bind_eq_some_iff] at e
      obtain ⟨is, e1, e2⟩ := e
      obtain ⟨x, rfl, p⟩ := pk1 pk
      obtain ⟨p, vs, rfl, hp, a⟩ := p.list
      rw [a.ints e1] at hp
      cases is with
      | nil => cases e2
      | cons i is =>
        cases e2
        exact cr_max c.hc pins s σ0 H _ us Q I rv ⟨_, _, rfl, .inl (.inl hp), Nat.succ_pos _, fun m h1 h2 => by rw [max_is h1 h2]; exact q.sh rs (.int _)⟩
    | [.tuple ys], e, pk =>
      simp only [bltV, Option.bind_eq_some_iff] at e
      obtain ⟨is, e1, e2⟩ := e
      obtain ⟨x, rfl, p⟩ := pk1 pk
      obtain ⟨p, vs, rfl, hp, a⟩ := p.tuple
      obtain ⟨u, rfl, ru⟩ := vals1 rv
      cases ru
      rw [intsD_eq e1] at a
      cases is with
      | nil => cases e2
      | cons i is =>
        cases e2
        obtain ⟨its, as, hT, hR⟩ := ext_tup I sF hp a
        refine W.max_tuple_data (I.ok.hd c.hc) hT (x := .int i) (xs := is.map PyData.int) hR (ints_alike (i :: is)) (by
          have := ints_depth (i :: is)
          have hu := c.hu
          rw [List.map_cons] at this
          rw [this]
          omega) fun k v h' tk bs hi r hk => ?_
        rw [W.maxD_ints] at r
        exact ⟨.int _, H, I.kept hk, by cases r; exact ⟨_, rfl⟩, q.sh rs (.int _)⟩
  | min =>
    match ds, e, pk with
    | [.list ys], e, pk =>
      simp only [bltV, Option.bind_eq_some_iff] at e
      obtain ⟨is, e1, e2⟩ := e
      obtain ⟨x, rfl, p⟩ := pk1 pk
      obtain ⟨p, vs, rfl, hp, a⟩ := p.list
      rw [a.ints e1] at hp
      cases is with
      | nil => cases e2
      | cons i is =>
        cases e2
        exact cr_min c.hc pins s σ0 H _ us Q I rv ⟨_, _, rfl, .inl (.inl hp), Nat.succ_pos _, fun m h1 h2 => by rw [min_is h1 h2]; exact q.sh rs (.int _)⟩
    | [.tuple ys], e, pk =>
      simp only [bltV, Option.bind_eq_some_iff] at e
      obtain ⟨is, e1, e2⟩ := e
      obtain ⟨x, rfl, p⟩ := pk1 pk
      obtain ⟨p, vs, rfl, hp, a⟩ := p.tuple
      obtain ⟨u, rfl, ru⟩ := vals1 rv
      cases ru
      rw [intsD_eq e1] at a
      cases is with
      | nil => cases e2
      | cons i is =>
        cases e2
        obtain ⟨its, as, hT, hR⟩ := ext_tup I sF hp a
        refine W.min_tuple_data (I.ok.hd c.hc) hT (x := .int i) (xs := is.map PyData.int) hR (ints_alike (i :: is)) (by
          have := ints_depth (i :: is)
          have hu := c.hu
          rw [List.map_cons] at this
          rw [this]
          omega) fun k v h' tk bs hi r hk => ?_
        rw [W.minD_ints] at r
        exact ⟨.int _, H, I.kept hk, by cases r; exact ⟨_, rfl⟩, q.sh rs (.int _)⟩
  | max2 =>
    match ds, e, pk with
    | [.int i, .int j], e, pk =>
      cases e
      obtain ⟨x, y, rfl, p1, p2⟩ := pk2 pk
      exact call_max2 c.hc pins s σ0 H _ us Q I rv ⟨i, j, by rw [p1.int, p2.int], q.sh rs (.int _)⟩
  | min2 =>
    match ds, e, pk with
    | [.int i, .int j], e, pk =>
      cases e
      obtain ⟨x, y, rfl, p1, p2⟩ := pk2 pk
      exact call_min2 c.hc pins s σ0 H _ us Q I rv ⟨i, j, by rw [p1.int, p2.int], q.sh rs (.int _)⟩
  | all =>
    match ds, e, pk with
    | [.list ys], e, pk =>
      simp only [bltV, Option.map_eq_some_iff] at e
      obtain ⟨is, e1, rfl⟩ := e
      obtain ⟨x, rfl, p⟩ := pk1 pk
      obtain ⟨p, vs, rfl, hp, a⟩ := p.list
      rw [a.bools e1] at hp
      exact cr_all c.hc pins s σ0 H _ us Q I rv ⟨_, is, rfl, .inl (.inl hp), q.sh rs (.bl _)⟩
  | any =>
    match ds, e, pk with
    | [.list ys], e, pk =>
      simp only [bltV, Option.map_eq_some_iff] at e
      obtain ⟨is, e1, rfl⟩ := e
      obtain ⟨x, rfl, p⟩ := pk1 pk
      obtain ⟨p, vs, rfl, hp, a⟩ := p.list
      rw [a.bools e1] at hp
      exact cr_any c.hc pins s σ0 H _ us Q I rv ⟨_, is, rfl, .inl (.inl hp), q.sh rs (.bl _)⟩
  | abs =>
    match ds, e, pk with
    | [.int i], e, pk =>
      cases e
      obtain ⟨x, rfl, p⟩ := pk1 pk
      exact call_abs pins s σ0 H _ us Q I rv ⟨i, by rw [p.int], q.sh rs (.int _)⟩
  | int =>
    match ds, e, pk with
    | [.int i], e, pk =>
      cases e
      obtain ⟨x, rfl, p⟩ := pk1 pk
      exact call_int1 pins s σ0 H _ us Q I rv (.inl ⟨i, by rw [p.int], q.sh rs (.int _)⟩)
    | [.bool i], e, pk =>
      cases e
      obtain ⟨x, rfl, p⟩ := pk1 pk
      exact call_int1 pins s σ0 H _ us Q I rv (.inr ⟨i, by rw [p.bl], q.sh rs (.int _)⟩)
  | divmod =>
    match ds, e, pk with
    | [.int i, .int j], e, pk =>
      simp only [bltV] at e
      split at e
      · rename_i hl
        cases e
        obtain ⟨x, y, rfl, p1, p2⟩ := pk2 pk
        exact call_divmodF pins s σ0 H _ us Q I rv ⟨i, j, by rw [p1.int, p2.int], hl, fun p o hp ho => q.newT rs (.cons (.int _) (.cons (.int _) .nil)) hp ho⟩
      · cases e
  | repr => exact absurd rfl hr
  | rngL => rcases hb with ⟨_, h⟩ | ⟨_, h⟩ <;> cases h
  | rngT => rcases hb with ⟨_, h⟩ | ⟨_, h⟩ <;> cases h
  | isi t => rcases hb with ⟨_, h⟩ | ⟨_, h⟩ <;> cases h
end Ev

namespace Ev
open PySem PySem.Spec PyProof.Rows L2
/-! Ev8: calls of built-ins as expressions -/
section
variable {X : Cx} {Φ : Phi} {pos p : Pos}
/-- what a call gives from its arguments -/
theorem blt_imp {K : PySem.W.Frag} {b : Blt} {cs : List Ex} {σ : L2.St} {H : Hp} {Q : VK} (h : tEv K (ev Φ (.blt b cs)) σ H Q) : tCB (rBl K b) (tCvs K (evs Φ cs)) σ H Q := by
  obtain ⟨G, F, env, rs, h⟩ := h
  refine ⟨G, F, env, rs, (T.All_bind.mp h).mono fun r hr => ?_⟩
  intro F' H' vs s rs' c
  obtain ⟨ds, e1, hk⟩ := T.All_opt.mp (T.All_bind.mp hr)
  obtain ⟨rr, e2, hk⟩ := T.All_opt.mp (T.All_bind.mp hk)
  exact ⟨G, F', σ, r.2, ds, rr, rs', peeks_ok rs' c e1, e2, (show Pst K G F σ Q (rr, r.2) from hk).mono s⟩
def isB : Value → Bool
  | .builtin _ => true
  | _ => false
theorem se_bltB {b : Blt} {x : Str} {id : String} {e : Expr} {es : List Expr} {cs : List Ex} (c : CxC X) (hb : pyB b = .builtin id) (hr : b ≠ .repr) (hg : Gl X x) (hm : X.mg x = none) (hv : bootBuiltins x = some (pyB b)) (hn : x ≠ "__name__") (hd : (x == ("__debug__" : Str)) = false)
    (he : noStar e = true) (hes : es.all noStar = true) (hs : PA X (e :: es) (tCvs X.K (evs Φ cs))) : PE X (.Call (.Name x p) (e :: es) [] pos) (tEv X.K (ev Φ (.blt b cs))) := by
  have hc := blt_ok c b (.inr ⟨id, hb⟩) hr
  rw [hb] at hc hv
  exact PE.imp (pe_callB hc hg hm hv hs hn hd (star_of he) (stars_of hes)) fun σ H Q h => blt_imp h
theorem se_bltT {b : Blt} {x : Str} {T : String} {e : Expr} {es : List Expr} {cs : List Ex} (c : CxC X) (hb : pyB b = .type T) (hr : b ≠ .repr) (hg : Gl X x) (hm : X.mg x = none) (hv : bootBuiltins x = some (pyB b)) (hn : x ≠ "__name__") (hd : (x == ("__debug__" : Str)) = false)
    (he : noStar e = true) (hes : es.all noStar = true) (hs : PA X (e :: es) (tCvs X.K (evs Φ cs))) : PE X (.Call (.Name x p) (e :: es) [] pos) (tEv X.K (ev Φ (.blt b cs))) := by
  have hc := blt_ok c b (.inl ⟨T, hb⟩) hr
  rw [hb] at hc hv
  exact PE.imp (pe_callTy hc hg hm hv hs hn hd (star_of he) (stars_of hes)) fun σ H Q h => blt_imp h
/-- repr -/
theorem repr_ok (c : CxC X) : CallR X (.builtin "repr") (rBl X.K .repr) := by
  intro pins s σ0 H xs us Q I rv ⟨G, F, σ, env, ds, r, rs, pk, e, q⟩
  match ds, e, pk with
  | [d], e, pk =>
    simp only [bltV] at e
    split at e
    · rename_i hk
      cases e
      simp only [Bool.and_eq_true, Bool.not_eq_true', decide_eq_true_eq] at hk
      obtain ⟨⟨⟨h1, h2⟩, h3⟩, h4⟩ := hk
      obtain ⟨x, rfl, p⟩ := pk1 pk
      obtain ⟨u, rfl, rx⟩ := vals1 rv
      obtain ⟨as, rd⟩ := Dp.reads I d x u (p.dp rs.fh) rx
      have hq : ∀ h' t tk, (∀ b o, s.heap.get? b = some o → h'.get? b = some o) → EP X pins σ0 Q (.str d.shown t) { s with heap := h', toks := tk } := fun h' t tk kp =>
        ⟨.str d.shown, H, I.kept kp, ⟨t, rfl⟩, q.sh rs (.str _)⟩
      have hz : d.shown.length ≤ sizeLine := lim_line h3
      have hu := c.hu
      cases d with
      | list ds =>
        obtain ⟨p, vs, rfl, hp, a⟩ := p.list
        cases rx
        exact repr_of_reads' rd h1 (fun z => by rw [h2] at z; cases z) c.hg (by omega) (fun _ _ e => e) hq hz
      | tuple ds =>
        obtain ⟨p, vs, rfl, hp, a⟩ := p.tuple
        cases rx
        exact repr_of_reads' rd h1 (fun z => by rw [h2] at z; cases z) c.hg (by omega) (fun _ _ e => e) hq hz
      | dict _ => cases h2
      | none =>
        obtain rfl := p.non
        cases rx
        exact PySem.P.repr_of_none ⟨.str (PyData.shown .none), H, I.tok _, ⟨s.toks, by simp [PyData.shown]⟩, q.sh rs (.str _)⟩
      | bool b =>
        obtain rfl := p.bl
        cases rx
        exact PySem.P.repr_of_bool ⟨.str (PyData.shown (.bool b)), H, I.tok _, ⟨s.toks, by cases b <;> simp [PyData.shown]⟩, q.sh rs (.str _)⟩
      | int i =>
        obtain rfl := p.int
        obtain ⟨t, rfl⟩ := rx
        exact PySem.P.repr_of_int (by simpa [PyData.showable] using h1) ⟨.str (PyData.shown (.int i)), H, I.tok _, ⟨s.toks, by simp [PyData.shown]⟩, q.sh rs (.str _)⟩
      | str z =>
        obtain rfl := p.str
        obtain ⟨t, rfl⟩ := rx
        exact PySem.P.repr_of_str ⟨.str (PyData.shown (.str z)), H, I.tok _, ⟨s.toks, by simp [PyData.shown]⟩, q.sh rs (.str _)⟩ (by simpa [PyData.shown] using hz)
    · cases e
theorem se_repr {e : Expr} {es : List Expr} {cs : List Ex} (c : CxC X) (hg : Gl X "repr") (hm : X.mg "repr" = none) 
    (he : noStar e = true) (hes : es.all noStar = true) (hs : PA X (e :: es) (tCvs X.K (evs Φ cs))) : PE X (.Call (.Name "repr" p) (e :: es) [] pos) (tEv X.K (ev Φ (.blt .repr cs))) :=
  PE.imp (pe_callB (repr_ok c) hg hm boot_repr hs (by decide) (by decide) (star_of he) (stars_of hes)) fun σ H Q h => blt_imp h
/-- isinstance -/
def tyN : PyData → String
  | .none => "NoneType"
  | .bool _ => "bool"
  | .int _ => "int"
  | .str _ => "str"
  | .list _ => "list"
  | .tuple _ => "tuple"
  | .dict _ => "dict"
theorem pk_ty {K : PySem.W.Frag} {F H : Hp} {x : V} {d : PyData} (sF : Same F H) (h : Pk K F H x d) : TyX K H x (.type (tyN d)) := by
  cases d with
  | none => rw [h.non]; exact .base .non
  | bool b => rw [h.bl]; exact .base (.bl _)
  | int i => rw [h.int]; exact .base (.int _)
  | str i => rw [h.str]; exact .base (.str _)
  | list ds => obtain ⟨p, vs, rfl, hp, a⟩ := h.list; exact .base (.lst hp)
  | tuple ds =>
    obtain ⟨p, vs, rfl, hp, a⟩ := h.tuple
    rcases same_sqT sF hp.sq with (q | ⟨o, q⟩) | ⟨o, it, n, cl, hl, hr⟩
    · exact .base (.tup q)
    · exact .fTuple q
    · exact .kTuple cl hl
  | dict kvs => cases h
/-- the types of isinstance -/
def tyS : Ty → List String
  | .int => ["int"]
  | .bool => ["bool"]
  | .str => ["str"]
  | .list => ["list"]
  | .tuple => ["tuple"]
  | .listtuple => ["list", "tuple"]
theorem isT_kit {K : PySem.W.Frag} {t : Ty} {y : String} {d : PyData} (h : tyS t = [y]) (hd : ∀ kvs, d ≠ .dict kvs) : PySem.W.kitOne K (.type (tyN d)) (.type y) = some (isT t d) := by
  refine kit_ty ?_
  cases t <;> simp only [tyS, List.cons.injEq, and_true, reduceCtorEq, and_false] at h <;> subst h <;> cases d <;> first | exact absurd rfl (hd _) | (simp only [tyN, isT]; decide +kernel)
theorem isT_kit2 {K : PySem.W.Frag} {d : PyData} (hd : ∀ kvs, d ≠ .dict kvs) (a b : String) (h : (a = "list" ∧ b = "tuple") ∨ (a = "tuple" ∧ b = "list")) : PySem.W.kitAny K (.type (tyN d)) [.type a, .type b] = some (isT .listtuple d) := by
  have k1 : PySem.W.kitOne K (.type (tyN d)) (.type "list") = some (isT .list d) := isT_kit rfl hd
  have k2 : PySem.W.kitOne K (.type (tyN d)) (.type "tuple") = some (isT .tuple d) := isT_kit rfl hd
  rcases h with ⟨rfl, rfl⟩ | ⟨rfl, rfl⟩
  · refine kitAny_cons k1 (fun e1 => kitAny_cons k2 (fun e2 => ?_) fun e2 => ?_) fun e1 => ?_ <;> cases d <;> first | exact absurd rfl (hd _) | simp_all [isT, kitAny_nil]
  · refine kitAny_cons k2 (fun e1 => kitAny_cons k1 (fun e2 => ?_) fun e2 => ?_) fun e1 => ?_ <;> cases d <;> first | exact absurd rfl (hd _) | simp_all [isT, kitAny_nil]
theorem pk_nodict {K : PySem.W.Frag} {F H : Hp} {x : V} {d : PyData} (h : Pk K F H x d) : ∀ kvs, d ≠ .dict kvs := by
  rintro kvs rfl
  cases h
theorem se_isi {t : Ty} {y : String} {l : Expr} {a : Ex} {p2 : Pos} (ht : tyS t = [y]) (hg : Gl X "isinstance") (hm : X.mg "isinstance" = none) (hg2 : Gl X y) (hm2 : X.mg y = none) (hv : bootBuiltins y = some (.type y))
    (hn : (y : Str) ≠ "__name__") (hd : ((y : Str) == ("__debug__" : Str)) = false) (he : noStar l = true) (ha : PE X l (tEv X.K (ev Φ a))) : PE X (.Call (.Name "isinstance" p) [l, .Name y p2] [] pos) (tEv X.K (ev Φ (.blt (.isi t) [a]))) := by
  refine PE.imp (pe_callB call_isi hg hm boot_isinstance (pa_cons (PE.c ha) (pa_cons (pe_bltn (v := .ty y) hg2 hm2 hv rfl hn hd) pa_nil) (star_of he)) (by decide) (by decide) (star_of he)) fun σ H Q ⟨G, F, env, rs, h⟩ => ?_
  refine ⟨G, F, env, rs, (T.All_bind.mp (T.All_bind.mp h)).mono fun r hr => ?_⟩
  intro F' H' v s rs' c
  have hr := T.All_bind.mp hr
  obtain ⟨ds, e1, hk⟩ := T.All_opt.mp (T.All_bind.mp hr)
  obtain ⟨rr, e2, hk⟩ := T.All_opt.mp (T.All_bind.mp hk)
  simp only [peeks, Option.bind_eq_some_iff, Option.map_eq_some_iff] at e1
  obtain ⟨d, e3, _, e4, rfl⟩ := e1
  cases e4
  cases e2
  have pk := c.peek rs' e3
  exact ⟨v, _, _, _, _, rfl, .ty y, pk_ty rs'.fh pk, isT_kit ht (pk_nodict pk), Pst.sh ((show Pst X.K G F σ Q (.sh (.bool (isT t d)), r.2) from hk).mono s) rs' (.bl _)⟩
theorem se_isi2 {y z : String} {l : Expr} {a : Ex} {p2 p3 p4 : Pos} {k : Nat} (ht : (y = "list" ∧ z = "tuple") ∨ (y = "tuple" ∧ z = "list")) (hg : Gl X "isinstance") (hm : X.mg "isinstance" = none) (hg2 : Gl X y) (hm2 : X.mg y = none) (hg3 : Gl X z) (hm3 : X.mg z = none)
    (he : noStar l = true) (ha : PE X l (tEv X.K (ev Φ a))) : PE X (.Call (.Name "isinstance" p) [l, .Tuple [.Name y p2, .Name z p3] k p4] [] pos) (tEv X.K (ev Φ (.blt (.isi .listtuple) [a]))) := by
  have vy : bootBuiltins y = some (.type y) := by rcases ht with ⟨rfl, rfl⟩ | ⟨rfl, rfl⟩ <;> first | exact boot_list | exact boot_tuple
  have vz : bootBuiltins z = some (.type z) := by rcases ht with ⟨rfl, rfl⟩ | ⟨rfl, rfl⟩ <;> first | exact boot_list | exact boot_tuple
  have ny : (y : Str) ≠ "__name__" ∧ ((y : Str) == ("__debug__" : Str)) = false := by rcases ht with ⟨rfl, rfl⟩ | ⟨rfl, rfl⟩ <;> decide
  have nz : (z : Str) ≠ "__name__" ∧ ((z : Str) == ("__debug__" : Str)) = false := by rcases ht with ⟨rfl, rfl⟩ | ⟨rfl, rfl⟩ <;> decide
  refine PE.imp (pe_callB call_isiT hg hm boot_isinstance (pa_cons (PE.c ha) (pa_cons (pe_tup (pa_cons (pe_bltn (v := .ty y) hg2 hm2 vy rfl ny.1 ny.2) (pa_cons (pe_bltn (v := .ty z) hg3 hm3 vz rfl nz.1 nz.2) pa_nil))) pa_nil) (star_of he)) (by decide) (by decide) (star_of he)) fun σ H Q ⟨G, F, env, rs, h⟩ => ?_
  refine ⟨G, F, env, rs, (T.All_bind.mp (T.All_bind.mp h)).mono fun r hr => ?_⟩
  intro F' H' v s rs' c
  have hr := T.All_bind.mp hr
  obtain ⟨ds, e1, hk⟩ := T.All_opt.mp (T.All_bind.mp hr)
  obtain ⟨rr, e2, hk⟩ := T.All_opt.mp (T.All_bind.mp hk)
  simp only [peeks, Option.bind_eq_some_iff, Option.map_eq_some_iff] at e1
  obtain ⟨d, e3, _, e4, rfl⟩ := e1
  cases e4
  cases e2
  refine ⟨by rw [sizeLine_eq]; exact (by decide : 2 ≤ 16777216), fun tp htp => ?_⟩
  have rs2 : Rs X.K G F' σ (upd H' tp (.tup [.ty y, .ty z])) r.2 := rs'.alloc htp
  have pk := c.peek rs2 e3
  exact ⟨v, tp, _, _, _, _, rfl, upd_same, .cons (.ty y) (.cons (.ty z) .nil), pk_ty rs2.fh pk, isT_kit2 (pk_nodict pk) y z ht, Pst.sh ((show Pst X.K G F σ Q (.sh (.bool (isT .listtuple d)), r.2) from hk).mono s) rs2 (.bl _)⟩
/-! ### list(range(..)), tuple(range(..)) -/
theorem rgV_ok {K : PySem.W.Frag} {F : Hp} (a b : Int) : DnAll K F (rgV a b) (rngD a b) := by
  unfold rgV rngD
  have : ∀ l : List Nat, DnAll K F (l.map fun i => V.int (a + (i : Nat))) (l.map fun (i : Nat) => PyData.int (a + i)) := by
    intro l
    induction l with
    | nil => exact .nil
    | cons x l ih => exact .cons (.int _) ih
  exact this _
theorem rg_ok {a b : Int} (h1 : a.natAbs ≤ LIM) (h2 : b.natAbs ≤ LIM) : RgOk a b := by
  unfold LIM at h1 h2
  exact ⟨by omega, by omega, by omega, by omega, by omega⟩
def isRgB (b : Blt) (f : List PyData → R) : Prop := ∀ ds, bltV b ds = (rngV ds).map f
/-- the range's bounds, from the arguments -/
theorem prg_ev {es : List Expr} {cs : List Ex} {p : Pos} (hg : Gl X "range") (hm : X.mg "range" = none) (hs : PA X es (tCvs X.K (evs Φ cs))) (hl : (∃ e, es = [e]) ∨ ∃ e e', es = [e, e']) (he : es.all noStar = true) :
    PRg X (.Call (.Name "range" p) es [] pos) fun σ H Q => tCvs X.K (evs Φ cs) σ H fun vs H1 => (∃ n, vs = [.int n] ∧ Q 0 n H1) ∨ ∃ i j, vs = [.int i, .int j] ∧ Q i j H1 := by
  intro pins s σ H Q I h
  have ar := hs.run pos pins s σ H _ I h
  rcases hl with ⟨e, rfl⟩ | ⟨e, e', rfl⟩ <;> simp only [List.all_cons, Bool.and_eq_true, List.all_nil, and_true] at he
  · refine Call_ (ld_blt I hg hm boot_range (PyProof.Rows.callWith_type1 (thn ar fun us s1 ⟨vs, H1, I1, r, q⟩ => ?_) (star_of he)))
    rcases q with ⟨n, rfl, q⟩ | ⟨i, j, rfl, q⟩
    · obtain ⟨u, rfl, t, rfl⟩ := vals1 r
      exact call_range_1 ⟨_, 0, n, _, _, _, H1, rfl, IsRange.new _ _ _ _ _ _ _, I1.kept fun b u e => Heap.get?_push_of_some _ e, q⟩
    · obtain ⟨u, u', rfl, ⟨t, rfl⟩, ⟨t', rfl⟩⟩ := vals2 r
      exact call_range_2 ⟨_, i, j, _, _, _, H1, rfl, IsRange.new _ _ _ _ _ _ _, I1.kept fun b u e => Heap.get?_push_of_some _ e, q⟩
  · refine Call_ (ld_blt I hg hm boot_range (PyProof.Rows.callWith_type1 (thn ar fun us s1 ⟨vs, H1, I1, r, q⟩ => ?_) (star_of he.1) (stars_of (by simp [he.2]))))
    rcases q with ⟨n, rfl, q⟩ | ⟨i, j, rfl, q⟩
    · obtain ⟨u, rfl, t, rfl⟩ := vals1 r
      exact call_range_1 ⟨_, 0, n, _, _, _, H1, rfl, IsRange.new _ _ _ _ _ _ _, I1.kept fun b u e => Heap.get?_push_of_some _ e, q⟩
    · obtain ⟨u, u', rfl, ⟨t, rfl⟩, ⟨t', rfl⟩⟩ := vals2 r
      exact call_range_2 ⟨_, i, j, _, _, _, H1, rfl, IsRange.new _ _ _ _ _ _ _, I1.kept fun b u e => Heap.get?_push_of_some _ e, q⟩
theorem rng_split {K : PySem.W.Frag} {F H : Hp} {vs : List V} {ds xs : List PyData} (pk : Paired (Pk K F H) vs ds) (e : rng2V ds = some xs) : ∃ i j, i.natAbs ≤ LIM ∧ j.natAbs ≤ LIM ∧ xs = rngD i j ∧ ((i = 0 ∧ vs = [.int j]) ∨ vs = [.int i, .int j]) := by
  match ds, e, pk with
  | [.int b], e, pk =>
    simp only [rng2V] at e
    split at e
    · rename_i hl
      cases e
      obtain ⟨x, rfl, p⟩ := pk1 pk
      exact ⟨0, b, by decide, hl, rfl, .inl ⟨rfl, by rw [p.int]⟩⟩
    · cases e
  | [.int a, .int b], e, pk =>
    simp only [rng2V] at e
    split at e
    · rename_i hl
      cases e
      obtain ⟨x, y, rfl, p1, p2⟩ := pk2 pk
      exact ⟨a, b, hl.1, hl.2, rfl, .inr (by rw [p1.int, p2.int])⟩
    · cases e
theorem rng_imp {K : PySem.W.Frag} {b : Blt} {cs : List Ex} {f : List PyData → R} {σ : L2.St} {H : Hp} {Q : VK} {W : Int → Int → Hp → Prop} (hb : ∀ ds, bltV b ds = (rng2V ds).map f)
    (hw : ∀ G F H' env i j, Rs K G F σ H' env → i.natAbs ≤ LIM → j.natAbs ≤ LIM → Pst K G F σ Q (f (rngD i j), env) → W i j H') (h : tEv K (ev Φ (.blt b cs)) σ H Q) :
    tCvs K (evs Φ cs) σ H fun vs H1 => (∃ n, vs = [.int n] ∧ W 0 n H1) ∨ ∃ i j, vs = [.int i, .int j] ∧ W i j H1 := by
  obtain ⟨G, F, env, rs, h⟩ := h
  refine ⟨G, F, env, rs, (T.All_bind.mp h).mono fun r hr => ?_⟩
  intro F' H' vs s rs' c
  obtain ⟨ds, e1, hk⟩ := T.All_opt.mp (T.All_bind.mp hr)
  obtain ⟨rr, e2, hk⟩ := T.All_opt.mp (T.All_bind.mp hk)
  rw [hb, Option.map_eq_some_iff] at e2
  obtain ⟨xs, e2, rfl⟩ := e2
  have pk := peeks_ok rs' c e1
  obtain ⟨i, j, h1, h2, rfl, hv⟩ := rng_split pk e2
  have w := hw G F' H' r.2 i j rs' h1 h2 ((show Pst K G F σ Q (f (rngD i j), r.2) from hk).mono s)
  rcases hv with ⟨rfl, rfl⟩ | rfl
  · exact .inl ⟨j, rfl, w⟩
  · exact .inr ⟨i, j, rfl, w⟩
theorem se_rngL {es : List Expr} {cs : List Ex} {p2 p3 : Pos} (c : CxC X) (hg : Gl X "range") (hm : X.mg "range" = none) (hg2 : Gl X "list") (hm2 : X.mg "list" = none) (hl : (∃ e, es = [e]) ∨ ∃ e e', es = [e, e']) (he : es.all noStar = true)
    (hs : PA X es (tCvs X.K (evs Φ cs))) : PE X (.Call (.Name "list" p2) [.Call (.Name "range" p) es [] pos] [] p3) (tEv X.K (ev Φ (.blt .rngL cs))) :=
  PE.imp (pe_listRg c.hc hg2 hm2 (prg_ev hg hm hs hl he)) fun σ H Q h => rng_imp (f := .ow) (W := fun a b H1 => RgOk a b ∧ ∀ q, H1 q = none → Q (.ref q) (upd H1 q (.lst (rgV a b)))) (fun ds => rfl) (fun G F H' env i j rs h1 h2 q => ⟨rg_ok h1 h2, fun n hn => q.newL rs (rgV_ok i j) hn⟩) h
theorem se_rngT {es : List Expr} {cs : List Ex} {p2 p3 : Pos} (c : CxC X) (hg : Gl X "range") (hm : X.mg "range" = none) (hg2 : Gl X "tuple") (hm2 : X.mg "tuple" = none) (hl : (∃ e, es = [e]) ∨ ∃ e e', es = [e, e']) (he : es.all noStar = true)
    (hs : PA X es (tCvs X.K (evs Φ cs))) : PE X (.Call (.Name "tuple" p2) [.Call (.Name "range" p) es [] pos] [] p3) (tEv X.K (ev Φ (.blt .rngT cs))) :=
  PE.imp (pe_tupRgF c.hc hg2 hm2 (prg_ev hg hm hs hl he)) fun σ H Q h => rng_imp (f := fun xs => .sh (.tuple xs)) (W := fun a b H1 => RgOk a b ∧ ∀ (q : Addr) (o : Obj), H1 q = none → o.dict = none → Q (.ref q) (upd H1 q (.frz o (.tup (rgV a b))))) (fun ds => rfl) (fun G F H' env i j rs h1 h2 q => ⟨rg_ok h1 h2, fun n o hn ho => q.newT rs (rgV_ok i j) hn ho⟩) h
end
end Ev

namespace Ev
open PySem PySem.Spec PyProof.Rows L2
/-! Ev9: defs and their calls -/
abbrev SpG := List V → Hp → VK → Prop
def CXz : CXT := fun _ _ _ _ _ _ => False
def Ez : XK := fun _ _ _ => False
structure FnG (P : Program) (w : World) (K : PySem.W.Frag) (mg : Str → Option Value) (base : Heap) (k : Nat) (f : Addr) (fd : FuncData) (ps : List Str) (sp : SpG) : Prop where
  len : ∀ vs H Q, sp vs H Q → vs.length = ps.length
  run : ∀ (A : Around) (outer : List PySem.Env) (s : Shared) (H : Hp) (args : Args) (us : List Value) (vs : List V) (Q : VK), Room k A → A.guards = some [] → Env0 P w K mg base A outer s H → BindsTo s fd args (ps.zip us) → Vals vs us → sp vs H Q →
    codeAny (model P w) A (.call (.ref f) args) (CR CXz outer P w H s Q Ez) s
/-- a def keeps its promise, by its body -/
theorem fnG_of {P : Program} {w : World} {K : PySem.W.Frag} {mg : Str → Option Value} {base : Heap} {x qual : Str} {params : Arguments} {body : List Stmt} {scope : Scope} {dvs : List V} {kws : List (Str × V)} {f : Addr} {fd : FuncData} {N ps : List Str} {k : Nat} {sp : SpG}
    (F : FunD K x qual params body scope dvs kws f fd) (S : FnScope N ps scope) (len : ∀ vs H Q, sp vs H Q → vs.length = ps.length)
    (hbody : ∀ (cdv : Value) (A : Around) (outer : List PySem.Env) (s : Shared) (H : Hp) (vs : List V) (Q : VK), Room k (A.deeper (envOfC qual scope s.heap.objs.size f cdv)) → A.guards = some [] → sp vs H Q →
      ∃ t, PSs (cxOf CXz P w K mg base N qual scope f cdv A outer s H Ez) body t ∧ t { nx := fun _ H' => Q .non H', rt := Q } (start N vs) H) : FnG P w K mg base (k + 1) f fd ps sp := by
  obtain ⟨oc, od, dV, kV, doc, pm, an, cdv, ct, osl, rfl, lk, hcd, _, _⟩ := F.ex
  refine ⟨len, fun A outer s H args us vs Q hr hgd e0 hb r hsp => ?_⟩
  have hl := len _ _ _ hsp
  have KX : K.In s.heap := e0.mod.kin.keeps fun b o e => (e0.bs b o e).1
  have lim : s.heap.NoLimit := e0.mod.nolimit.keeps fun b o e => (e0.bs b o e).1
  have hkind : ∀ y ∈ ps.zip us, scope.names.lookup y.1 = some .local ∨ (scope.names.lookup y.1 = some .cell ∧ ((cellsFrom (s.heap.objs.size + 1) scope.names []).lookup y.1).isSome = true) := fun ⟨n, v⟩ hy => by
    rcases S.par n (List.of_mem_zip hy).1 with q | q
    · exact .inl q
    · exact .inr ⟨q, PySem.W.cellsFrom_some _ _ _ (.inl q)⟩
  refine codeAny_call_function hr.depth (KX _ _ lk) rfl S.co S.gen rfl (PySem.W.codeRec_of KX hcd) (hb _ _ _ _ ?_)
  refine wpAny_newFunctionEnv_cells S.kind hkind fun env he s1 x => ?_
  subst he
  refine ⟨lim.keeps x.toInCall.keep, codeAny_func ?_⟩
  obtain ⟨t, ht, hq⟩ := hbody cdv A outer s H vs Q (hr.deeper _) hgd hsp
  have I : Inv (cxOf CXz P w K mg base N qual scope f cdv A outer s H Ez) [] (start N vs) H s1 := inv_start S hr.hd e0 hl r x
  refine wpAny_mono (ht.run [] s1 (start N vs) H _ I hq) (fun fl s' hs => ?_) fun e s' hs => hs
  have fin : ∀ {σ' : L2.St} {H' : Hp} {v : V} {u : Value}, Inv (cxOf CXz P w K mg base N qual scope f cdv A outer s H Ez) [] σ' H' s' → RelV v u → Q v H' → CE outer P w H s Q u s' :=
    fun {σ' H' v u} J rv q => ⟨v, H', J.os, J.bare, J.base, J.hok, rv, q⟩
  cases fl with
  | ret u =>
    obtain ⟨v, σ', H', J, rv, q⟩ := hs
    exact fin J rv q
  | next =>
    obtain ⟨σ', H', J, q⟩ := hs
    exact fin (v := V.non) (u := Value.none) J rfl q
  | brk =>
    obtain ⟨_, _, _, q⟩ := hs
    exact False.elim q
  | cont =>
    obtain ⟨_, _, _, q⟩ := hs
    exact False.elim q
theorem run_fnG {X : Cx} {k : Nat} {f : Addr} {fd : FuncData} {ps : List Str} {sp : SpG} {pins : List (Addr × Obj)} {σ : L2.St} {H : Hp} {s : Shared} {Q : VK} {us ws : List Value} {ks : List Str} {zs : List V} {vs : List Value} (F : FnG X.prog X.w X.K X.mg X.base k f fd ps sp) (hr : Room k X.A) (hg : X.A.guards = some [])
    (hb : BindsTo s fd ⟨us, ks.zip ws⟩ (ps.zip vs)) (I : Inv X pins σ H s) (r : Vals zs vs) (h : sp zs H Q) : wpAny (model X.prog X.w) X.A (call (.ref f) us (ks.zip ws)) (EP X pins σ Q) X.xe s := by
  refine wpAny_call (codeAny_mono (F.run X.A X.stack s H ⟨us, ks.zip ws⟩ vs zs Q hr hg I.env0 hb r h) fun r s' hq => ?_)
  cases r with
  | error e => exact False.elim hq
  | ok fl =>
    cases fl with
    | ret u => exact I.after hq
    | next => exact False.elim hq
    | brk => exact False.elim hq
    | cont => exact False.elim hq
/-! ### the promise -/
def Ret (K : PySem.W.Frag) (F H : Hp) (Q : VK) (e : EV) : Prop := ∀ (F' H' : Hp) (v : V), Same F F' → Same F' H' → Same H H' → (∀ a o, F' a = some o → F a = none → H a = none) → VOk K H F' H' v e → Q v H'
def spOf (K : PySem.W.Frag) (φ : List EV → T EV) : SpG := fun vs H Q => ∃ F es, Same F H ∧ Paired (ArgOk K F) vs es ∧ (φ es).All (Ret K F H Q)
theorem Rs.after {K : PySem.W.Frag} {G F F2 H H2 : Hp} {σ : L2.St} {env : Env} (r : Rs K G F σ H env) (s1 : Same F F2) (s2 : Same F2 H2) (s3 : Same H H2) (nw : ∀ a o, F2 a = some o → F a = none → H a = none) : Rs K G F2 σ H2 env := by
  refine ⟨r.len, s2, fun a o e => s3 _ _ (r.gh _ _ e), fun a o e => ?_, fun i e he hn => ?_, r.dis⟩
  · cases q : F2 a with
    | none => rfl
    | some o' =>
      have := nw a o' q (r.gf _ _ e)
      rw [r.gh _ _ e] at this; cases this
  · obtain ⟨v, hv, q⟩ := r.at_ i e he hn
    refine ⟨v, hv, ?_⟩
    cases ho : isOwn e with
    | false => exact q.not_own ho s1
    | true =>
      obtain ⟨p, o, rfl, h1, h2, h3, h4⟩ := q.own ho
      refine .of_own ho ⟨p, o, rfl, s3 _ _ h1, ?_, h3, h4.mono s1⟩
      cases q2 : F2 p with
      | none => rfl
      | some o' =>
        have := nw p o' q2 h2
        rw [h1] at this; cases this
/-! ### arguments in the parameters' order -/
def pickG {α : Type} (dv : Int → α) (vs : List α) : List Ag → List α
  | [] => []
  | .at i :: r => (match vs[i]? with | some v => v :: pickG dv vs r | none => pickG dv vs r)
  | .dfl d :: r => dv d :: pickG dv vs r
theorem pick_ok {K : PySem.W.Frag} {F : Hp} {vs : List V} {es : List EV} (h : Paired (ArgOk K F) vs es) : ∀ {ar : List Ag} {ws : List EV}, pick es ar = some ws → Paired (ArgOk K F) (pickG V.int vs ar) ws
  | [], ws, e => by cases e; exact .nil
  | .at i :: r, ws, e => by
    simp only [pick, Option.bind_eq_some_iff, Option.map_eq_some_iff] at e
    obtain ⟨v, e1, ws', e2, rfl⟩ := e
    have : ∃ x, vs[i]? = some x ∧ ArgOk K F x v := by
      clear e2
      induction h generalizing i with
      | nil => simp at e1
      | cons a b ih => cases i with
        | zero => simp at e1; subst e1; exact ⟨_, rfl, a⟩
        | succ i => simpa using ih (i := i) (by simpa using e1)
    obtain ⟨x, h1, h2⟩ := this
    simp only [pickG, h1]
    exact .cons h2 (pick_ok h e2)
  | .dfl d :: r, ws, e => by
    simp only [pick, Option.map_eq_some_iff] at e
    obtain ⟨ws', e2, rfl⟩ := e
    exact .cons ⟨.int d, rfl⟩ (pick_ok h e2)
theorem pick_vals {dv : Int → Value} (hd : ∀ i, RelV (.int i) (dv i)) {vs : List V} {us : List Value} (h : Vals vs us) : ∀ (ar : List Ag), Vals (pickG V.int vs ar) (pickG dv us ar)
  | [] => .nil
  | .at i :: r => by
    have ih := pick_vals hd h r
    cases q : vs[i]? with
    | none =>
      have : us[i]? = none := by
        rw [List.getElem?_eq_none_iff] at q ⊢
        rw [← h.length]; exact q
      simp only [pickG, q, this]
      exact ih
    | some v =>
      obtain ⟨u, e, rv⟩ := h.get q
      simp only [pickG, q, e]
      exact .cons rv ih
  | .dfl d :: r => .cons (hd d) (pick_vals hd h r)
/-- a shape of call binds -/
def ShOk (K : PySem.W.Frag) (fd : FuncData) (ps : List Str) (np : Nat) (ks : List Str) (ar : List Ag) : Prop :=
  ∃ dv : Int → Value, (∀ i, RelV (.int i) (dv i)) ∧ ∀ (s : Shared) (us ws : List Value), K.In s.heap → us.length = np → ws.length = ks.length → BindsTo s fd ⟨us, ks.zip ws⟩ (ps.zip (pickG dv (us ++ ws) ar))
/-- a def that may be called here -/
structure FnRef (X : Cx) (φ : List EV → T EV) (x : Str) (np : Nat) (ks : List Str) (ar : List Ag) : Prop where
  ex : ∃ (k : Nat) (f : Addr) (fd : FuncData) (ps : List Str), FnG X.prog X.w X.K X.mg X.base k f fd ps (spOf X.K φ) ∧ Room k X.A ∧ X.mg x = some (.ref f) ∧ PySem.W.keepIn X.K (.ref f) = true ∧ ShOk X.K fd ps np ks ar
section
variable {X : Cx} {Φ : Phi} {p pos : Pos}
theorem evs_append {a b : List Ex} {env : Env} : evs Φ (a ++ b) env = evs Φ a env >>= fun (r, e1) => evs Φ b e1 >>= fun (r2, e2) => .ret (r ++ r2, e2) := by
  induction a generalizing env with
  | nil =>
    show evs Φ b env = (evs Φ b env >>= fun (r2, e2) => .ret ([] ++ r2, e2))
    generalize evs Φ b env = t
    induction t with
    | ret a => rfl
    | fail => rfl
    | draw n k ih =>
      show T.draw n k = T.draw n _
      congr 1
      funext d
      exact ih d
  | cons x xs ih =>
    show (ev Φ x env >>= calm >>= fun (r, e1) => evs Φ (xs ++ b) e1 >>= fun (rs, e2) => .ret (r :: rs, e2)) = _
    simp only [ih]
    show _ = ((ev Φ x env >>= calm >>= fun (r, e1) => evs Φ xs e1 >>= fun (rs, e2) => .ret (r :: rs, e2)) >>= fun (r, e1) => evs Φ b e1 >>= fun (r2, e2) => .ret (r ++ r2, e2))
    simp only [T.bind_assoc]
    rfl
theorem paired_append {α β : Type} {R : α → β → Prop} {as cs : List α} {bs ds : List β} (h : Paired R as bs) (g : Paired R cs ds) : Paired R (as ++ cs) (bs ++ ds) := by
  induction h with
  | nil => exact g
  | cons a _ ih => exact .cons a (ih)
theorem evs_len : ∀ {cs : List Ex} {env : Env} {P : List R × Env → Prop}, (evs Φ cs env).All P → (evs Φ cs env).All fun r => r.1.length = cs.length ∧ P r
  | [], env, P, h => ⟨rfl, h⟩
  | c :: cs, env, P, h => by
    refine T.All_bind.mpr ((T.All_bind.mp h).mono fun r hr => ?_)
    refine T.All_bind.mpr ((evs_len (T.All_bind.mp hr)).mono fun r2 hr2 => ?_)
    exact ⟨congrArg Nat.succ hr2.1, hr2.2⟩
theorem paired_len {α β : Type} {R : α → β → Prop} {as : List α} {bs : List β} (h : Paired R as bs) : as.length = bs.length := by
  induction h with
  | nil => rfl
  | cons _ _ ih => exact congrArg Nat.succ ih
theorem call_imp {K : PySem.W.Frag} {f : Nat} {c1 c2 : List Ex} {ar : List Ag} {σ : L2.St} {H : Hp} {Q : VK} (h : tEv K (ev Φ (.call f (c1 ++ c2) ar)) σ H Q) :
    tCvs K (evs Φ c1) σ H fun vs1 H1 => tCvs K (evs Φ c2) σ H1 fun vs2 H2 => vs1.length = c1.length ∧ vs2.length = c2.length ∧ spOf K (Φ f) (pickG V.int (vs1 ++ vs2) ar) H2 Q := by
  obtain ⟨G, F, env, rs, h⟩ := h
  have h := T.All_bind.mp h
  rw [evs_append] at h
  refine ⟨G, F, env, rs, (evs_len (T.All_bind.mp h)).mono fun r ⟨l1, hr⟩ => ?_⟩
  intro F1 H1 vs1 s1 rs1 c1
  refine ⟨G, F1, r.2, rs1, (evs_len (T.All_bind.mp hr)).mono fun r2 ⟨l2, hr2⟩ => ?_⟩
  intro F2 H2 vs2 s2 rs2 c2
  have ca : Paired (COk K F2 σ) (vs1 ++ vs2) (r.1 ++ r2.1) := by
    have c1 := paired_mono c1 s2
    exact paired_append c1 c2
  obtain ⟨⟨es, e3⟩, q1, hk⟩ := T.All_opt.mp (T.All_bind.mp (show T.All _ _ from hr2))
  obtain ⟨ws, q2, hk⟩ := T.All_opt.mp (T.All_bind.mp hk)
  obtain ⟨F3, s3, rs3, aa⟩ := args_ok rs2 ca q1
  refine ⟨(paired_len c1).trans l1, (paired_len c2).trans l2, F3, ws, rs3.fh, pick_ok aa q2, (T.All_bind.mp hk).mono fun e he => ?_⟩
  intro F4 H4 v s4 s5 s6 nw vk
  have rs4 := rs3.after s4 s5 s6 nw
  have sF : Same F F4 := s1.trans (s2.trans (s3.trans s4))
  have own : isOwn e = true → ROk K G F4 σ H4 e3 v (match e with | .ow xs => .ow xs | .od kvs => .od kvs | _ => .pot) := fun ho => by
    obtain ⟨p, o, rfl, g1, g2, g3, g4⟩ := vk.own ho
    have gp : G p = none := rs3.gh.free g3
    have no : ∀ i, ¬ Own e3 σ i p := fun i w => by
      obtain ⟨_, o', _, _, h1, _⟩ := w.slot rs3
      rw [g3] at h1; cases h1
    cases e with
    | ow xs => exact .inr ⟨rfl, ⟨p, o, rfl, g1, g2, gp, g4⟩, fun _ p' e' => by cases e'; exact no⟩
    | od xs => exact .inr ⟨rfl, ⟨p, o, rfl, g1, g2, gp, g4⟩, fun _ p' e' => by cases e'; exact no⟩
    | _ => cases ho
  cases e with
  | sh d => exact (show Pst K G F σ Q (.sh d, e3) from he) F4 H4 v sF rs4 (.inr ⟨rfl, vk.not_own rfl (Same.refl _), fun z => by cases z⟩)
  | sd d => exact (show Pst K G F σ Q (.sd d, e3) from he) F4 H4 v sF rs4 (.inr ⟨rfl, vk.not_own rfl (Same.refl _), fun z => by cases z⟩)
  | ow xs => exact (show Pst K G F σ Q (.ow xs, e3) from he) F4 H4 v sF rs4 (own rfl)
  | od xs => exact (show Pst K G F σ Q (.od xs, e3) from he) F4 H4 v sF rs4 (own rfl)
  | un => exact False.elim he
  | pot => exact False.elim he
  | scr _ => exact False.elim he
/-! ### keywords -/
def kwNames (kws : List Keyword) : List Str := kws.filterMap (·.arg)
def kwAll (kws : List Keyword) : Bool := kws.all (·.arg.isSome)
theorem kw_all {kws : List Keyword} {env : PySem.Env} (h : kwAll kws = true) : (backToKw pos (keywordEach kws env)).all (·.1.isSome) = true ∧ (backToKw pos (keywordEach kws env)).filterMap (·.1) = kwNames kws ∧ (backToKw pos (keywordEach kws env)).any (·.1.isNone) = false := by
  induction kws with
  | nil => exact ⟨rfl, rfl, rfl⟩
  | cons k kws ih =>
    obtain ⟨n, e, kp⟩ := k
    unfold kwAll at h
    simp only [List.all_cons, Bool.and_eq_true] at h
    obtain ⟨h1, h2, h3⟩ := ih h.2
    obtain ⟨y, rfl⟩ := Option.isSome_iff_exists.mp h.1
    refine ⟨?_, ?_, ?_⟩
    · show (true && (backToKw pos (keywordEach kws env)).all (·.1.isSome)) = true
      rw [h1]; rfl
    · show y :: (backToKw pos (keywordEach kws env)).filterMap (·.1) = y :: kwNames kws
      rw [h2]
    · show (false || (backToKw pos (keywordEach kws env)).any (·.1.isNone)) = false
      rw [h3]; rfl
theorem PK.imp {kws : List Keyword} {t t' : TA} (h : PK X kws t) (i : ∀ σ H Q, t' σ H Q → t σ H Q) : PK X kws t' := ⟨fun pos pins s σ H Q I q => h.run pos pins s σ H Q I (i σ H Q q)⟩
theorem sk_nil : PK X [] (tCvs X.K (evs Φ [])) := PK.imp pk_nil fun σ H Q ⟨G, F, env, rs, h⟩ => h F H [] (Same.refl _) rs .nil
theorem sk_cons {n : Option Str} {l : Expr} {kp : Pos} {kws : List Keyword} {a : Ex} {cs : List Ex} (ha : PE X l (tEv X.K (ev Φ a))) (hs : PK X kws (tCvs X.K (evs Φ cs))) : PK X (⟨n, l, kp⟩ :: kws) (tCvs X.K (evs Φ (a :: cs))) :=
  PK.imp (pk_cons (PE.c ha) hs) fun σ H Q h => cvs_imp h
theorem callV {f : Nat} {c1 c2 : List Ex} {ks : List Str} {ar : List Ag} {pins : List (Addr × Obj)} {σ : L2.St} {H : Hp} {s : Shared} {Q : VK} {us ws : List Value} {vs zs : List V} {k : Nat} {fa : Addr} {fd : FuncData} {ps : List Str}
    (F : FnG X.prog X.w X.K X.mg X.base k fa fd ps (spOf X.K (Φ f))) (hr : Room k X.A) (c : CxC X) (sh : ShOk X.K fd ps c1.length ks ar) (hk : ks.length = c2.length) (I : Inv X pins σ H s) (r1 : Vals vs us) (r2 : Vals zs ws)
    (q : vs.length = c1.length ∧ zs.length = c2.length ∧ spOf X.K (Φ f) (pickG V.int (vs ++ zs) ar) H Q) : wpAny (model X.prog X.w) X.A (call (.ref fa) us (ks.zip ws)) (EP X pins σ Q) X.xe s := by
  obtain ⟨dv, hd, hb⟩ := sh
  exact run_fnG F hr c.hg (hb s us ws I.kIn (r1.length.symm.trans q.1) (r2.length.symm.trans (q.2.1.trans hk.symm))) I (pick_vals hd (r1.append r2) ar) q.2.2
theorem cvs_nil {K : PySem.W.Frag} {σ : L2.St} {H : Hp} {Q : List V → Hp → Prop} (h : tCvs K (evs Φ []) σ H Q) : Q [] H := by
  obtain ⟨G, F, env, rs, h⟩ := h
  exact h F H [] (Same.refl _) rs .nil
theorem se_call {x : Str} {f : Nat} {c1 : List Ex} {e : Expr} {es : List Expr} {ar : List Ag} (c : CxC X) (R : FnRef X (Φ f) x c1.length [] ar) (hg : Gl X x) (hd : (x == ("__debug__" : Str)) = false) (he : (e :: es).all noStar = true)
    (hs : PA X (e :: es) (tCvs X.K (evs Φ c1))) : PE X (.Call (.Name x p) (e :: es) [] pos) (tEv X.K (ev Φ (.call f (c1 ++ []) ar))) := by
  obtain ⟨k, fa, fd, ps, F, hr, hm, hkp, sh⟩ := R.ex
  refine ⟨fun pins s σ H Q I h => ?_⟩
  have h := call_imp h
  refine wpAny_Call_Name_kw (ld_glob I hg hm ?_ hd)
  simp only [List.all_cons, Bool.and_eq_true] at he
  have hst := star_of (es := es) (env := X.env) he.1
  have hpl := stars_of (env := X.env) (pos := pos) he.2
  refine PySem.W.callWith_K (h₀ := X.base) I.ok.mod.kin hkp (thn (hs.run pos pins s σ H _ I h) fun us s1 ⟨vs, H1, I1, r, q⟩ => ⟨I1.kIn, ?_⟩) hst hpl
  exact callV (ks := []) (c2 := []) (ws := []) F hr c sh rfl I1 r .nil (cvs_nil q)
theorem se_call0 {x : Str} {f : Nat} {ar : List Ag} (c : CxC X) (R : FnRef X (Φ f) x 0 [] ar) (hg : Gl X x) (hd : (x == ("__debug__" : Str)) = false) : PE X (.Call (.Name x p) [] [] pos) (tEv X.K (ev Φ (.call f [] ar))) := by
  obtain ⟨k, fa, fd, ps, F, hr, hm, hkp, sh⟩ := R.ex
  refine ⟨fun pins s σ H Q I h => ?_⟩
  have h := call_imp (c1 := []) (c2 := []) h
  refine wpAny_Call_Name_kw (ld_glob I hg hm ?_ hd)
  refine PySem.W.callWith_K0 I.kIn hkp ?_
  exact callV (ks := []) (c1 := []) (c2 := []) (us := []) (ws := []) F hr c sh rfl I .nil .nil (cvs_nil (cvs_nil h))
theorem se_callK {x : Str} {f : Nat} {c1 c2 : List Ex} {e : Expr} {es : List Expr} {kws : List Keyword} {ar : List Ag} (c : CxC X) (R : FnRef X (Φ f) x c1.length (kwNames kws) ar) (hg : Gl X x) (hd : (x == ("__debug__" : Str)) = false) (he : (e :: es).all noStar = true) (hk : kwAll kws = true) (hl : (kwNames kws).length = c2.length)
    (hs : PA X (e :: es) (tCvs X.K (evs Φ c1))) (hw : PK X kws (tCvs X.K (evs Φ c2))) : PE X (.Call (.Name x p) (e :: es) kws pos) (tEv X.K (ev Φ (.call f (c1 ++ c2) ar))) := by
  obtain ⟨k, fa, fd, ps, F, hr, hm, hkp, sh⟩ := R.ex
  obtain ⟨k1, k2, k3⟩ := kw_all (env := X.env) (pos := pos) hk
  refine ⟨fun pins s σ H Q I h => ?_⟩
  have h := call_imp h
  refine wpAny_Call_Name_kw (ld_glob I hg hm ?_ hd)
  simp only [List.all_cons, Bool.and_eq_true] at he
  have hst := star_of (es := es) (env := X.env) he.1
  have hpl := stars_of (env := X.env) (pos := pos) he.2
  refine PySem.W.callWith_KW (h₀ := X.base) I.ok.mod.kin hkp k1 (thn (hs.run pos pins s σ H _ I h) fun us s1 ⟨vs, H1, I1, r, q⟩ => ?_) (by rw [hst, k3]; show ((false || (backTo pos (starEach es X.env)).any (·.1)) || false) = false; rw [hpl]; rfl) hst
  refine thn (hw.run pos pins s1 σ H1 _ I1 q) fun ws s2 ⟨zs, H2, I2, rz, q2⟩ => ⟨I2.kIn, ?_⟩
  rw [k2]
  exact callV F hr c sh hl I2 r rz q2
theorem se_callK0 {x : Str} {f : Nat} {c2 : List Ex} {kws : List Keyword} {ar : List Ag} (c : CxC X) (R : FnRef X (Φ f) x 0 (kwNames kws) ar) (hg : Gl X x) (hd : (x == ("__debug__" : Str)) = false) (hk : kwAll kws = true) (hl : (kwNames kws).length = c2.length)
    (hw : PK X kws (tCvs X.K (evs Φ c2))) : PE X (.Call (.Name x p) [] kws pos) (tEv X.K (ev Φ (.call f c2 ar))) := by
  obtain ⟨k, fa, fd, ps, F, hr, hm, hkp, sh⟩ := R.ex
  obtain ⟨k1, k2, k3⟩ := kw_all (env := X.env) (pos := pos) hk
  refine ⟨fun pins s σ H Q I h => ?_⟩
  have h := cvs_nil (call_imp (c1 := []) h)
  refine wpAny_Call_Name_kw (ld_glob I hg hm ?_ hd)
  refine PySem.W.callWith_KW0 (h₀ := X.base) I.ok.mod.kin hkp k1 (thn (hw.run pos pins s σ H _ I h) fun ws s2 ⟨zs, H2, I2, rz, q2⟩ => ⟨I2.kIn, ?_⟩) (by rw [k3]; rfl)
  rw [k2]
  exact callV (c1 := []) (us := []) (vs := []) F hr c sh hl I2 .nil rz q2
end
end Ev

namespace Ev
open PySem PySem.Spec PyProof.Rows L2
/-! Ev10: targets, hidden slots, comprehensions -/
/-! ### targets -/
mutual
def AsgV (K : PySem.W.Frag) (F : Hp) : Tg → PyData → L2.St → L2.St → Prop
  | .nm i, d, σ, σ' => ∃ v, Dn K F v d ∧ σ' = σ.set i (some v)
  | .tp ts, .tuple ds, σ, σ' => AsgVs K F ts ds σ σ'
  | .tp _, _, _, _ => False
def AsgVs (K : PySem.W.Frag) (F : Hp) : List Tg → List PyData → L2.St → L2.St → Prop
  | [], [], σ, σ' => σ' = σ
  | t :: ts, d :: ds, σ, σ' => ∃ σ1, AsgV K F t d σ σ1 ∧ AsgVs K F ts ds σ1 σ'
  | _, _, _, _ => False
end
mutual
def okT : Tg → PyData → Bool
  | .nm _, _ => true
  | .tp ts, .tuple ds => okTs ts ds
  | .tp _, _ => false
def okTs : List Tg → List PyData → Bool
  | [], [] => true
  | t :: ts, d :: ds => okT t d && okTs ts ds
  | _, _ => false
end
mutual
def slT : Tg → List Nat
  | .nm i => [i]
  | .tp ts => slTs ts
def slTs : List Tg → List Nat
  | [] => []
  | t :: ts => slT t ++ slTs ts
end
mutual
theorem asgT_ok {env' : Env} : ∀ {tg : Tg} {d : PyData} {env : Env}, asgT tg d env = some env' → okT tg d = true
  | .nm i, d, env, h => rfl
  | .tp ts, d, env, h => by
    cases d <;> simp only [asgT, reduceCtorEq] at h
    exact asgTs_ok h
theorem asgTs_ok {env' : Env} : ∀ {ts : List Tg} {ds : List PyData} {env : Env}, asgTs ts ds env = some env' → okTs ts ds = true
  | [], [], env, h => rfl
  | [], _ :: _, env, h => by simp [asgTs] at h
  | _ :: _, [], env, h => by simp [asgTs] at h
  | t :: ts, d :: ds, env, h => by
    simp only [asgTs, Option.bind_eq_some_iff] at h
    obtain ⟨e1, h1, h2⟩ := h
    simp only [okTs, Bool.and_eq_true]
    exact ⟨asgT_ok h1, asgTs_ok h2⟩
end
theorem Rs.put {K : PySem.W.Frag} {G F H : Hp} {σ : L2.St} {env : Env} {v : V} {d : PyData} (rs : Rs K G F σ H env) (i : Nat) (h : Dn K F v d) : Rs K G F (σ.set i (some v)) H (env.set i (.sh d)) := by
  by_cases hi : i < env.length
  · exact rs.store hi h fun z => by cases z
  · have e1 : env.set i (.sh d) = env := List.set_eq_of_length_le (by omega)
    have e2 : σ.set i (some v) = σ := List.set_eq_of_length_le (by rw [← rs.len]; omega)
    rw [e1, e2]; exact rs
mutual
theorem AsgV.rs {K : PySem.W.Frag} {G F H : Hp} {env' : Env} : ∀ {tg : Tg} {d : PyData} {σ σ' : L2.St} {env : Env}, AsgV K F tg d σ σ' → asgT tg d env = some env' → Rs K G F σ H env → Rs K G F σ' H env'
  | .nm i, d, σ, σ', env, h, e, rs => by
    obtain ⟨v, hv, rfl⟩ := h
    cases e
    exact rs.put i hv
  | .tp ts, d, σ, σ', env, h, e, rs => by
    cases d <;> simp only [asgT, reduceCtorEq] at e
    exact AsgVs.rs h e rs
theorem AsgVs.rs {K : PySem.W.Frag} {G F H : Hp} {env' : Env} : ∀ {ts : List Tg} {ds : List PyData} {σ σ' : L2.St} {env : Env}, AsgVs K F ts ds σ σ' → asgTs ts ds env = some env' → Rs K G F σ H env → Rs K G F σ' H env'
  | [], [], σ, σ', env, h, e, rs => by cases e; cases h; exact rs
  | [], _ :: _, σ, σ', env, h, e, rs => by simp [asgTs] at e
  | _ :: _, [], σ, σ', env, h, e, rs => by simp [asgTs] at e
  | t :: ts, d :: ds, σ, σ', env, h, e, rs => by
    simp only [asgTs, Option.bind_eq_some_iff] at e
    obtain ⟨e1, h1, h2⟩ := e
    obtain ⟨σ1, a1, a2⟩ := h
    exact AsgVs.rs a2 h2 (AsgV.rs a1 h1 rs)
end
mutual
theorem AsgV.out {K : PySem.W.Frag} {F : Hp} {j : Nat} : ∀ {tg : Tg} {d : PyData} {σ σ' : L2.St}, AsgV K F tg d σ σ' → σ'.length = σ.length ∧ (j ∉ slT tg → σ'[j]? = σ[j]?)
  | .nm i, d, σ, σ', h => by
    obtain ⟨v, hv, rfl⟩ := h
    refine ⟨List.length_set .., fun hj => ?_⟩
    simp only [slT, List.mem_singleton] at hj
    exact List.getElem?_set_ne (fun e => hj e.symm)
  | .tp ts, d, σ, σ', h => by
    cases d with
    | tuple ds => exact AsgVs.out (show AsgVs K F ts ds σ σ' from h)
    | _ => exact False.elim h
theorem AsgVs.out {K : PySem.W.Frag} {F : Hp} {j : Nat} : ∀ {ts : List Tg} {ds : List PyData} {σ σ' : L2.St}, AsgVs K F ts ds σ σ' → σ'.length = σ.length ∧ (j ∉ slTs ts → σ'[j]? = σ[j]?)
  | [], [], σ, σ', h => by cases h; exact ⟨rfl, fun _ => rfl⟩
  | [], _ :: _, σ, σ', h => False.elim h
  | _ :: _, [], σ, σ', h => False.elim h
  | t :: ts, d :: ds, σ, σ', h => by
    obtain ⟨σ1, a1, a2⟩ := h
    obtain ⟨l1, o1⟩ := AsgV.out (j := j) a1
    obtain ⟨l2, o2⟩ := AsgVs.out (j := j) a2
    refine ⟨l2.trans l1, fun hj => ?_⟩
    simp only [slTs, List.mem_append, not_or] at hj
    rw [o2 hj.2, o1 hj.1]
end
/-- a target's reading -/
def isTp : Tg → Bool
  | .tp _ => true
  | _ => false
/-- an item that is unpacked: its own tuple may be any -/
def ItD (K : PySem.W.Frag) (F H : Hp) (tg : Tg) (v : V) (d : PyData) : Prop := Dn K F v d ∨ (isTp tg = true ∧ ∃ p vs ds, v = .ref p ∧ d = .tuple ds ∧ SqT K H p vs ∧ DnAll K F vs ds)
def gT (K : PySem.W.Frag) (tg : Tg) : TG := fun v σ H Q => ∃ F d, Same F H ∧ ItD K F H tg v d ∧ okT tg d = true ∧ ∀ σ', AsgV K F tg d σ σ' → Q σ' H
def gTs (K : PySem.W.Frag) (ts : List Tg) : TGs := fun vs σ H Q => ∃ F ds, Same F H ∧ DnAll K F vs ds ∧ okTs ts ds = true ∧ ∀ σ', AsgVs K F ts ds σ σ' → Q σ' H
theorem PG.imp {X : Cx} {e : Expr} {t t' : TG} (h : PG X e t) (i : ∀ v σ H Q, t' v σ H Q → t v σ H Q) : PG X e t' := ⟨fun pins s σ H v u Q I r q => h.run pins s σ H v u Q I r (i v σ H Q q)⟩
theorem PGs.imp {X : Cx} {e : List Expr} {t t' : TGs} (h : PGs X e t) (i : ∀ v σ H Q, t' v σ H Q → t v σ H Q) : PGs X e t' := ⟨fun pins s σ H v u Q I r q => h.run pins s σ H v u Q I r (i v σ H Q q)⟩
section
variable {X : Cx} {pos : Pos}
theorem sg_nm {i : Nat} {x : Str} (hN : X.N.Nodup) (hi : X.N[i]? = some x) (hx : Loc X.env.scope x) (hf : X.fn x = true ∨ X.env.scope.names.lookup x = some .local) : PG X (.Name x pos) (gT X.K (.nm i)) :=
  PG.imp (pg_name hN hi hx hf) fun v σ H Q ⟨F, d, s, h, _, q⟩ => by
    rcases h with h | ⟨z, _⟩
    · exact q _ ⟨v, h, rfl⟩
    · cases z
theorem sgs_nil : PGs X [] (gTs X.K []) := PGs.imp pgs_nil fun vs σ H Q ⟨F, ds, s, h, o, q⟩ => by
  cases h with
  | nil => exact ⟨rfl, q _ rfl⟩
  | cons a b => cases o
/-- a target that is no star -/
def plainTg : Expr → Bool
  | .Name .. => true
  | .Tuple .. => true
  | _ => false
theorem tg_each {e : Expr} {es : List Expr} {env : PySem.Env} (h : plainTg e = true) : assignEach (e :: es) env = (false, assign e env) :: assignEach es env := by
  cases e <;> first | rfl | (simp [plainTg] at h; done)
theorem sgs_cons {e : Expr} {es : List Expr} {t : Tg} {ts : List Tg} (hp : plainTg e = true) (h1 : PG X e (gT X.K t)) (h2 : PGs X es (gTs X.K ts)) : PGs X (e :: es) (gTs X.K (t :: ts)) := by
  refine PGs.imp (pgs_cons h1 h2 (by rw [tg_each hp]; rfl)) fun vs σ H Q ⟨F, ds, s, h, o, q⟩ => ?_
  cases h with
  | nil => cases o
  | cons a b =>
    simp only [okTs, Bool.and_eq_true] at o
    exact ⟨_, _, rfl, F, _, s, .inl a, o.1, fun σ1 a1 => ⟨F, _, s, b, o.2, fun σ2 a2 => q _ ⟨σ1, a1, a2⟩⟩⟩
theorem tgs_len {es : List Expr} {env : PySem.Env} : (assignEach es env).length = es.length := by
  induction es with
  | nil => rfl
  | cons e es ih =>
    cases e <;> exact congrArg Nat.succ ih
theorem tgs_star {es : List Expr} {env : PySem.Env} (h : es.all plainTg = true) : (assignEach es env).findIdx? (·.1) = none := by
  induction es with
  | nil => rfl
  | cons e es ih =>
    simp only [List.all_cons, Bool.and_eq_true] at h
    rw [tg_each h.1, List.findIdx?_cons]
    simp [ih h.2]
theorem sg_tp {es : List Expr} {k : Nat} {ts : List Tg} (hc : X.calm = true) (hp : es.all plainTg = true) (hl : es.length = ts.length) (h : PGs X es (gTs X.K ts)) : PG X (.Tuple es k pos) (gT X.K (.tp ts)) := by
  refine PG.imp (pg_tup hc h rfl (tgs_star hp)) fun v σ H Q ⟨F, d, s, h, o, q⟩ => ?_
  have key : ∃ p vs ds, v = .ref p ∧ d = .tuple ds ∧ SqT X.K H p vs ∧ DnAll X.K F vs ds := by
    rcases h with h | ⟨_, h⟩
    · cases d with
      | tuple ds =>
        cases h with
        | tup e a => exact ⟨_, _, _, rfl, rfl, same_sqT s e.sq, a⟩
      | _ => cases o
    · exact h
  obtain ⟨p, vs, ds, rfl, rfl, e, a⟩ := key
  have okl : ∀ {ts : List Tg} {ds : List PyData}, okTs ts ds = true → ts.length = ds.length := by
    intro ts
    induction ts with
    | nil => intro ds h; cases ds with
      | nil => rfl
      | cons _ _ => cases h
    | cons t ts ih => intro ds h; cases ds with
      | nil => cases h
      | cons d ds =>
        simp only [okTs, Bool.and_eq_true] at h
        exact congrArg Nat.succ (ih h.2)
  have o' : okTs ts ds = true := o
  exact ⟨_, _, rfl, e, by rw [tgs_len, a.length, hl, okl o'], F, ds, s, a, o', fun σ' h' => q σ' h'⟩
end
/-! ### hidden slots -/
theorem wipe_get (hs : List Nat) : ∀ (e : Env) (i : Nat), (wipe hs e)[i]? = if i ∈ hs ∧ i < e.length then some .un else e[i]? := by
  induction hs with
  | nil => intro e i; simp [wipe]
  | cons j hs ih =>
    intro e i
    show (wipe hs (e.set j .un))[i]? = _
    rw [ih, List.length_set]
    by_cases hij : i = j
    · subst hij
      by_cases hl : i < e.length
      · simp [hl]
      · simp [hl]
    · by_cases hm : i ∈ hs
      · simp [hm, hij, List.getElem?_set_ne (Ne.symm hij)]
      · simp [hm, hij, List.getElem?_set_ne (Ne.symm hij)]
theorem restore_get (hs : List Nat) (old : Env) : ∀ (e : Env) (i : Nat), (restore hs old e)[i]? = if i ∈ hs ∧ i < e.length then some (get old i) else e[i]? := by
  induction hs with
  | nil => intro e i; simp [restore]
  | cons j hs ih =>
    intro e i
    show (restore hs old (e.set j (get old j)))[i]? = _
    rw [ih, List.length_set]
    by_cases hij : i = j
    · subst hij
      by_cases hl : i < e.length
      · simp [hl]
      · simp [hl]
    · by_cases hm : i ∈ hs
      · simp [hm, hij, List.getElem?_set_ne (Ne.symm hij)]
      · simp [hm, hij, List.getElem?_set_ne (Ne.symm hij)]
theorem wipe_len (hs : List Nat) : ∀ (e : Env), (wipe hs e).length = e.length := by
  induction hs with
  | nil => intro e; rfl
  | cons j hs ih =>
    intro e
    show (wipe hs (e.set j .un)).length = _
    rw [ih, List.length_set]
theorem restore_len (hs : List Nat) (old : Env) : ∀ (e : Env), (restore hs old e).length = e.length := by
  induction hs with
  | nil => intro e; rfl
  | cons j hs ih =>
    intro e
    show (restore hs old (e.set j (get old j))).length = _
    rw [ih, List.length_set]
section
variable {K : PySem.W.Frag} {G G1 G' F F1 F' H H1 : Hp} {σ σ' σw : L2.St} {env e e1 : Env}
/-- a slot is forgotten -/
theorem Rs.forget (r : Rs K G F σ H env) (i : Nat) : Rs K G F σ H (env.set i .un) := r.retell (fun _ h => absurd rfl h) (fun h => by cases h)
theorem own_forget {i j : Nat} {p : Addr} (w : Own (env.set i .un) σ j p) : j ≠ i ∧ Own env σ j p := by
  have hj : j ≠ i := by
    rintro rfl
    obtain ⟨⟨x, hx, ho⟩, _⟩ := w
    by_cases hl : j < env.length
    · rw [List.getElem?_set_self hl] at hx; cases hx; cases ho
    · rw [List.getElem?_eq_none (by simpa using hl)] at hx; cases hx
  exact ⟨hj, own_set w hj⟩
theorem Rs.hide (hs : List Nat) : ∀ {G : Hp} {env : Env}, Rs K G F σ H env → ∃ G1, Same G G1 ∧ Rs K G1 F σ H (wipe hs env) ∧ ∀ i p o, i ∈ hs → Own env σ i p → H p = some o → G1 p = some o := by
  induction hs with
  | nil => intro G env r; exact ⟨G, Same.refl _, r, fun i p o hi => by cases hi⟩
  | cons i hs ih =>
    intro G env r
    have r0 := r.forget i
    by_cases hw : ∃ p, Own env σ i p
    · obtain ⟨p, w⟩ := hw
      obtain ⟨x, o, h1, h2, h3, h4, h5, h6⟩ := w.slot r
      have no : ∀ j, ¬ Own (env.set i .un) σ j p := fun j w' => by
        obtain ⟨hj, w'⟩ := own_forget w'
        exact hj (r.dis _ _ _ w' w)
      have r1 := r0.frame h3 h4 h5 no
      obtain ⟨G1, s1, r2, hd⟩ := ih r1
      refine ⟨G1, (same_new h5).trans s1, r2, fun j q o' hj w' ho => ?_⟩
      by_cases hji : j = i
      · subst hji
        have : q = p := by have := w.2; rw [w'.2] at this; cases this; rfl
        subst this
        rw [h3] at ho; cases ho
        exact s1 _ _ upd_same
      · rcases List.mem_cons.mp hj with rfl | hj
        · exact absurd rfl hji
        · refine hd j q o' hj ⟨?_, w'.2⟩ ho
          obtain ⟨x', hx', ho'⟩ := w'.1
          exact ⟨x', by rw [List.getElem?_set_ne (Ne.symm hji)]; exact hx', ho'⟩
    · obtain ⟨G1, s1, r2, hd⟩ := ih r0
      refine ⟨G1, s1, r2, fun j q o' hj w' ho => ?_⟩
      by_cases hji : j = i
      · subst hji; exact absurd ⟨q, w'⟩ hw
      · rcases List.mem_cons.mp hj with rfl | hj
        · exact absurd rfl hji
        · refine hd j q o' hj ⟨?_, w'.2⟩ ho
          obtain ⟨x', hx', ho'⟩ := w'.1
          exact ⟨x', by rw [List.getElem?_set_ne (Ne.symm hji)]; exact hx', ho'⟩
theorem Rs.unhide {hs : List Nat} (r1 : Rs K G F1 σ H1 e1) (hd : ∀ i p o, i ∈ hs → Own e1 σ i p → H1 p = some o → G1 p = some o) (s0 : Same G G1) (s1 : Same G1 G') (sF : Same F1 F') (hl : σw.length = σ.length) (hσ : ∀ i, i ∉ hs → σw[i]? = σ[i]?)
    (r : Rs K G' F' σw H (wipe hs e)) : Rs K G F' σ H (restore hs e1 e) := by
  have sG := s0.trans s1
  have le : e.length = σ.length := by rw [← wipe_len hs e, r.len, hl]
  have hin : ∀ {i : Nat} {x : EV}, i ∈ hs → (restore hs e1 e)[i]? = some x → e1[i]? = some x := fun {i x} hi h => by
    rw [restore_get] at h
    by_cases hil : i < e.length
    · rw [if_pos ⟨hi, hil⟩] at h
      have h' : i < e1.length := by rw [r1.len, ← le]; exact hil
      rw [← Option.some.inj h]
      unfold get
      rw [List.getD_eq_getElem?_getD, List.getElem?_eq_getElem h']
      rfl
    · rw [if_neg (fun z => hil z.2), List.getElem?_eq_none (by omega)] at h
      cases h
  have hout : ∀ {i : Nat} {x : EV}, i ∉ hs → (restore hs e1 e)[i]? = some x → (wipe hs e)[i]? = some x := fun {i x} hi h => by
    rw [restore_get, if_neg (fun z => hi z.1)] at h
    rw [wipe_get, if_neg (fun z => hi z.1)]
    exact h
  have oin : ∀ {i : Nat} {p : Addr}, i ∈ hs → Own (restore hs e1 e) σ i p → Own e1 σ i p := fun {i p} hi w => by
    obtain ⟨⟨x, hx, ho⟩, hs'⟩ := w
    exact ⟨⟨x, hin hi hx, ho⟩, hs'⟩
  have oout : ∀ {i : Nat} {p : Addr}, i ∉ hs → Own (restore hs e1 e) σ i p → Own (wipe hs e) σw i p := fun {i p} hi w => by
    obtain ⟨⟨x, hx, ho⟩, hs'⟩ := w
    exact ⟨⟨x, hout hi hx, ho⟩, by rw [hσ i hi]; exact hs'⟩
  have apart : ∀ {i j : Nat} {p : Addr}, i ∈ hs → j ∉ hs → Own (restore hs e1 e) σ i p → Own (restore hs e1 e) σ j p → False := fun {i j p} hi hj w1 w2 => by
    obtain ⟨x, o, _, _, h3, _⟩ := (oin hi w1).slot r1
    have g := s1 _ _ (hd i p o hi (oin hi w1) h3)
    obtain ⟨x', o', _, _, _, _, g', _⟩ := (oout hj w2).slot r
    rw [g] at g'; cases g'
  refine ⟨by rw [restore_len]; exact le, r.fh, fun a o q => r.gh _ _ (sG _ _ q), fun a o q => r.gf _ _ (sG _ _ q), fun i x hx hn => ?_, fun i j p w1 w2 => ?_⟩
  · by_cases hi : i ∈ hs
    · obtain ⟨v, hv, q⟩ := r1.at_ i x (hin hi hx) hn
      refine ⟨v, hv, ?_⟩
      cases ho : isOwn x with
      | false => exact q.not_own ho sF
      | true =>
        obtain ⟨p, o, rfl, h1, h2, h3, h4⟩ := q.own ho
        have g := s1 _ _ (hd i p o hi ⟨⟨x, hin hi hx, ho⟩, hv⟩ h1)
        exact .of_own ho ⟨p, o, rfl, r.gh _ _ g, r.gf _ _ g, h3, h4.mono sF⟩
    · obtain ⟨v, hv, q⟩ := r.at_ i x (hout hi hx) hn
      refine ⟨v, by rw [← hσ i hi]; exact hv, ?_⟩
      cases ho : isOwn x with
      | false => exact q.not_own ho (Same.refl _)
      | true =>
        obtain ⟨p, o, rfl, h1, h2, h3, h4⟩ := q.own ho
        exact .of_own ho ⟨p, o, rfl, h1, h2, sG.free h3, h4⟩
  · by_cases hi : i ∈ hs
    · by_cases hj : j ∈ hs
      · exact r1.dis _ _ _ (oin hi w1) (oin hj w2)
      · exact (apart hi hj w1 w2).elim
    · by_cases hj : j ∈ hs
      · exact (apart hj hi w2 w1).elim
      · exact r.dis _ _ _ (oout hi w1) (oout hj w2)
/-- a framed object is written anew -/
theorem Rs.regrow {D : Addr} {o o' : HO} (r : Rs K (upd G D o) F σ H env) : Rs K (upd G D o') F σ (upd H D o') env := by
  have fD : F D = none := r.gf D o upd_same
  refine ⟨r.len, fun a u q => ?_, fun a u q => ?_, fun a u q => ?_, fun i x hx hn => ?_, r.dis⟩
  · have : a ≠ D := by rintro rfl; rw [fD] at q; cases q
    rw [upd_ne this]; exact r.fh _ _ q
  · by_cases ha : a = D
    · subst ha; rw [upd_same] at q ⊢; exact q
    · rw [upd_ne ha] at q ⊢; exact r.gh _ _ (by rw [upd_ne ha]; exact q)
  · by_cases ha : a = D
    · subst ha; exact fD
    · rw [upd_ne ha] at q; exact r.gf a u (by rw [upd_ne ha]; exact q)
  · obtain ⟨v, hv, q⟩ := r.at_ i x hx hn
    refine ⟨v, hv, ?_⟩
    cases ho : isOwn x with
    | false => exact q.not_own ho (Same.refl _)
    | true =>
      obtain ⟨p, u, rfl, h1, h2, h3, h4⟩ := q.own ho
      have : p ≠ D := by rintro rfl; rw [upd_same] at h3; cases h3
      exact .of_own ho ⟨p, u, rfl, by rw [upd_ne this]; exact h1, h2, by rw [upd_ne this] at h3 ⊢; exact h3, h4⟩
/-- slots that hold nothing told may be anything -/
theorem Rs.slots {hs : List Nat} (r : Rs K G F σ H (wipe hs e)) (hl : σ'.length = σ.length) (hσ : ∀ i, i ∉ hs → σ'[i]? = σ[i]?) : Rs K G F σ' H (wipe hs e) := by
  have ne : ∀ {i : Nat} {x : EV}, (wipe hs e)[i]? = some x → x ≠ .un → i ∉ hs := fun {i x} h hn hi => by
    rw [wipe_get] at h
    by_cases hil : i < e.length
    · rw [if_pos ⟨hi, hil⟩] at h; cases h; exact hn rfl
    · rw [if_neg (fun z => hil z.2), List.getElem?_eq_none (by omega)] at h; cases h
  refine ⟨by rw [hl]; exact r.len, r.fh, r.gh, r.gf, fun i x hx hn => ?_, fun i j p w1 w2 => ?_⟩
  · rw [hσ i (ne hx hn)]; exact r.at_ i x hx hn
  · have mv : ∀ {i : Nat}, Own (wipe hs e) σ' i p → Own (wipe hs e) σ i p := fun {i} w => by
      obtain ⟨⟨x, hx, ho⟩, h⟩ := w
      exact ⟨⟨x, hx, ho⟩, by rw [← hσ i (ne hx (by rintro rfl; cases ho))]; exact h⟩
    exact r.dis _ _ _ (mv w1) (mv w2)
theorem Rs.wiped (hs : List Nat) : ∀ {e : Env}, Rs K G F σ H e → Rs K G F σ H (wipe hs e) := by
  induction hs with
  | nil => intro e r; exact r
  | cons i hs ih => intro e r; exact ih (r.forget i)
theorem wipe_out' {vs : List Nat} {i : Nat} (h : i ∉ vs) : (L2.wipe σ vs)[i]? = σ[i]? := L2.wipe_out h
end
end Ev

set_option maxRecDepth 100000
/-! EvE: enumerate(tuple) -/
namespace Ev
open PySem PySem.Spec PyProof.Rows L2
theorem draws_tuple {prog : Program} {w : World} {A : Around} (hh : A.handled = none) (it l : Addr) (hne : l ≠ it) (items : Array Value) :
    Draws prog w A it [it, l] items.size (fun i v => items[i]? = some v) (fun i h => h.IsTupleIter it l i ∧ h.IsTuple l items) where
  live := fun _ _ st => let ⟨o, ho, _⟩ := st.1; ⟨o, ho⟩
  frame := fun _ _ _ st hk => ⟨st.1.at fun o e => hk it (by simp) o e, st.2.at fun o e => hk l (by simp) o e⟩
  item := fun i s Q E hi st hQ => by
    refine RZ.nextOf_tuple_item st.1 st.2 (x := items[i]) (by simp [hi]) fun h' hit' hs' => ?_
    exact hQ _ h' s.toks (by simp [hi]) ⟨hit', st.2.extBut hs'.extBut hne⟩ hs'
  done := fun s Q E st hE => RZ.nextOf_tuple_end hh st.1 st.2 (by simp) hE
theorem draws_end {prog : Program} {w : World} {A : Around} (hh : A.handled = none) (it l : Addr) (items : Array Value) (i : Nat) (hx : items[i]? = none) :
    Draws prog w A it [it, l] i (fun _ _ => True) (fun j h => j = i ∧ h.IsTupleIter it l i ∧ h.IsTuple l items) where
  live := fun _ _ st => let ⟨o, ho, _⟩ := st.2.1; ⟨o, ho⟩
  frame := fun _ _ _ st hk => ⟨st.1, st.2.1.at fun o e => hk it (by simp) o e, st.2.2.at fun o e => hk l (by simp) o e⟩
  item := fun j s Q E hi st hQ => absurd st.1 (Nat.ne_of_lt hi)
  done := fun s Q E st hE => RZ.nextOf_tuple_end hh st.2.1 st.2.2 hx hE
theorem meets_enum_newT (l : Addr) (items : Array Value) :
    Meets (Builtin.«enumerate.__new__» ⟨[.type "enumerate", .ref l], []⟩) (fun _ R s => s.heap.IsTuple l items ∧
      R (.ok (.ret (.ref (s.heap.push { cls := .type "tuple_iterator", data := .fields #[.ref l, .int 0 0] }).objs.size)))
        { s with heap := (s.heap.push { cls := .type "tuple_iterator", data := .fields #[.ref l, .int 0 0] }).push { cls := .type "enumerate", data := .fields #[.none, .bool false, .ref s.heap.objs.size, rawInt 0, .none, .none] } }) :=
  .of_wp fun prog w A R s h => by
    obtain ⟨hp, g, d, tk, os⟩ := s; obtain ⟨hl, h⟩ := h
    have hsub := sub_enumerate
    have hL : Heap.IsTuple (Shared.heap ⟨hp, g, d, tk, os⟩) l items := hl
    wp_walk
    refine wpAny_stack_any fun st => wpAny_pure ?_
    split
    · rename_i c _ _ _ _ _
      cases (c == Value.type "enumerate")
      · wp_walk using wpAny_pyIter_tuple hL
        exact ⟨_, rfl, h⟩
      · wp_walk using wpAny_pyIter_tuple hL
        exact ⟨_, rfl, h⟩
    · wp_walk using wpAny_pyIter_tuple hL
      exact ⟨_, rfl, h⟩
section
variable {prog : Program} {w : World} {A : Around} {E : Value → Shared → Prop} {s : Shared}
theorem call_enum_tuple {l : Addr} {items : Array Value} {Q : Value → Shared → Prop} (hL : s.heap.IsTuple l items)
    (h : ∀ h', IsEnum h' (s.heap.objs.size + 1) s.heap.objs.size 0 .none → h'.IsTupleIter s.heap.objs.size l 0 → h'.objs.size = s.heap.objs.size + 2 →
      (∀ b o, s.heap.get? b = some o → h'.get? b = some o) → Q (.ref (s.heap.objs.size + 1)) { s with heap := h' }) :
    wpAny (model prog w) A (call (.type "enumerate") [.ref l]) Q E s := by
  refine callType_new F.called_enumerate (by decide) (F.typeCall_enumerate_1 _) (F.newCall_enumerate_1 _) (fun obj => F.args_object_init_2 obj _) F.entry_enumerate_new
    (meets_enum_newT l items) ⟨hL, ?_⟩
  have hz : (s.heap.push { cls := .type "tuple_iterator", data := .fields #[.ref l, .int 0 0] }).objs.size = s.heap.objs.size + 1 := Heap.size_push ..
  show _ ∧ _
  rw [hz]
  have he : IsEnum ((s.heap.push { cls := .type "tuple_iterator", data := .fields #[.ref l, .int 0 0] }).push
      { cls := .type "enumerate", data := .fields #[.none, .bool false, .ref s.heap.objs.size, rawInt 0, .none, .none] }) (s.heap.objs.size + 1) s.heap.objs.size 0 .none := by
    have := Heap.get?_push_size (s.heap.push { cls := .type "tuple_iterator", data := .fields #[.ref l, .int 0 0] })
      (o := { cls := .type "enumerate", data := .fields #[.none, .bool false, .ref s.heap.objs.size, rawInt 0, .none, .none] }) rfl
    rw [hz] at this; exact this
  refine ⟨⟨_, he, rfl⟩, h _ he ⟨_, Heap.get?_push_of_some _ (Heap.get?_push_size _ rfl), rfl, rfl⟩ (by rw [Heap.size_push, hz]) fun b o x => Heap.get?_push_of_some _ (Heap.get?_push_of_some _ x)⟩
end
/-- the tuple at a as it stands at each turn, each item in a new pair -/
def IteT (K : PySem.W.Frag) (a : Addr) : It :=
  ⟨fun i H => ∃ (xs : List V) (x : V), SqT K H a xs ∧ xs[i]? = some x, fun i H v H' => ∃ T x, v = .ref T ∧ H T = none ∧ H' = upd H T (.tup [.int (i : Nat), x]) ∧ ∀ xs, SqT K H a xs → xs[i]? = some x, fun i H => ∃ xs : List V, SqT K H a xs ∧ xs.length ≤ i⟩
theorem turn_enumT {P : Program} {w : World} {K : PySem.W.Frag} {elts : List Expr} {kk : Nat} {tpos : Pos} (a e it : Addr) (hne : e ≠ it) (hae : a ≠ it) (hea : e ≠ a) :
    Turn P w K (.Tuple elts kk tpos) (IteT K a) [e, it] e (fun i h => (∃ old, IsEnum h e it ((i : Nat) : Int) old) ∧ h.IsTupleIter it a i) where
  mem := by simp
  obj := fun i h st b hb => by
    obtain ⟨⟨old, he⟩, ⟨o, ho, hc, hd⟩⟩ := st
    have e' : b = e ∨ b = it := by simpa using hb
    rcases e' with z | z
    · rw [z]; exact ⟨_, he, fun v q => nomatch q⟩
    · rw [z]; exact ⟨o, ho, fun v q => by rw [hd] at q; cases q⟩
  keep := fun i h h' st k => let ⟨⟨old, he⟩, hi⟩ := st; ⟨⟨old, k e (by simp) _ he⟩, hi.at fun o q => k it (by simp) o q⟩
  item := by
    intro X hP hw hK hc i pins s σ H E I hf st hg
    subst hP hw hK
    obtain ⟨⟨old, he⟩, hit⟩ := st
    obtain ⟨xs, x, hq, hx⟩ := hg
    obtain ⟨its, rv, p, hz⟩ := I.tuple hq
    obtain ⟨u, hu, ru⟩ := rv.get hx
    have hel : e < s.heap.objs.size := Heap.lt_size he
    have hil : it < s.heap.objs.size := by obtain ⟨_, q, _⟩ := hit; exact Heap.lt_size q
    have D := draws_tuple (prog := X.prog) (w := X.w) (A := X.A.in1) (I.ok.hd hc) it a hae its.toArray
    refine wpAny_pyNext_enum_itemD D he ⟨hit, p⟩ (by simpa using (List.getElem?_eq_some_iff.mp hu).1) hne (by simp [hne, hea]) fun y h' tk hy ho hst' hT hsz hk => ?_
    have hyu : y = u := by
      have hy' : its[i]? = some y := by simpa using hy
      rw [hu] at hy'
      exact (Option.some.inj hy').symm
    subst hyu
    refine ⟨_, rfl, wpAny_letOwnedTupleGo_enum (s := { s with heap := h', toks := tk + 1 }) ho fun h'' he' sb => ?_⟩
    have hT2 : h''.get? s.heap.objs.size = some { cls := .type "tuple", data := .seq #[.int i tk, y] } := (sb.2 _ (Nat.ne_of_gt hel)).trans hT
    have new : ObjOk X.prog X.w (upd H s.heap.objs.size (.tup [.int (i : Nat), x])) h'' s.heap.objs.size (.tup [.int (i : Nat), x]) :=
      ⟨by show 2 ≤ sizeLine; decide, [.int i tk, y], .cons ⟨_, rfl⟩ (.cons ru .nil), ⟨_, hT2, rfl, _, rfl⟩⟩
    have I1 : Inv X pins σ (upd H s.heap.objs.size (.tup [.int (i : Nat), x])) { s with heap := h'', toks := tk + 1 } :=
      I.turnedNew (t' := tk + 1) (ch := [e, it]) (fun b ob hb q => (sb.2 b (fun z => hb (by simp [z]))).trans (hk b ob (fun z => hb (by simp [z])) (fun z => hb (by simp [z])) q)) hf (Nat.le_refl _) new
    refine ⟨.ref s.heap.objs.size, _, I1, rfl, ⟨_, x, rfl, I.hok.fresh (Nat.le_refl _), rfl, fun ys hy => by rw [I.tuple_inj hy hq]; exact hx⟩, ⟨⟨y, ?_⟩, hst'.1.at fun o q => (sb.2 it (Ne.symm hne)).trans q⟩, fun b hb => ?_⟩
    · have e1 : ((i + 1 : Nat) : Int) = (i : Int) + 1 := by omega
      rw [e1]; exact he'
    · have hb' : b < s.heap.objs.size := by
        have e' : b = e ∨ b = it := by simpa using hb
        rcases e' with z | z
        · rw [z]; exact hel
        · rw [z]; exact hil
      rw [upd_ne (Nat.ne_of_lt hb')]
      exact (hf b hb).1
  done := by
    intro X hP hw hK hc i pins s σ H E I hf st hg
    subst hP hw hK
    obtain ⟨⟨old, he⟩, hit⟩ := st
    obtain ⟨xs, hq, hx⟩ := hg
    obtain ⟨its, rv, p, hz⟩ := I.tuple hq
    obtain ⟨f0, f1, f2, f3, f4, f5⟩ := hf it (by simp)
    have hl := rv.length
    have D := draws_end (prog := X.prog) (w := X.w) (A := X.A.in1) (I.ok.hd hc) it a its.toArray i (by simp; omega)
    exact wpAny_pyNext_enum_endD D he ⟨rfl, hit, p⟩ fun h' eb => ⟨rfl, I.turned (t' := s.toks) (fun b o hb q => eb b o hb q) f0 f1 f3 f4 f5⟩
  self := fun A i s Q E st h => let ⟨⟨_, he⟩, _⟩ := st; wpAny_pyIter_enum he h
def iEnumA (K : PySem.W.Frag) (ta : TA) : TI := fun σ H R => ta σ H fun vs H1 => ∃ a xs, vs = [.ref a] ∧ ((SqL K H1 a xs ∧ R (Ite K a) H1) ∨ (SqT K H1 a xs ∧ R (IteT K a) H1))
theorem pi_enumA {X : Cx} {e : Expr} {ta : TA} {p pos tpos : Pos} {elts : List Expr} {kk : Nat} (hg : Gl X "enumerate") (hm : X.mg "enumerate" = none) (ha : PA X [e] ta) (hs : starEach [e] X.env = [(false, eval e X.env)] := by rfl) :
    PI X (.Tuple elts kk tpos) (.Call (.Name "enumerate" p) [e] [] pos) (iEnumA X.K ta) := by
  refine ⟨fun pins s σ H R I h => ?_⟩
  refine Call_ (ld_blt I hg hm boot_enumerate (PyProof.Rows.callWith_type1 (thn (ha.run pos pins s σ H _ I h) fun us s1 ⟨vs, H1, I1, r1, q1⟩ => ?_) hs rfl))
  obtain ⟨a, xs, ex, q⟩ := q1
  subst ex
  cases r1 with
  | cons r rr =>
    cases rr
    cases r
    have fp : ∀ b ∈ [s1.heap.objs.size + 1, s1.heap.objs.size], s1.heap.objs.size ≤ b := fun b hb => by
      have e' : b = s1.heap.objs.size + 1 ∨ b = s1.heap.objs.size := by simpa using hb
      rcases e' with z | z
      · rw [z]; exact Nat.le_add_right _ _
      · rw [z]; exact Nat.le_refl _
    rcases q with ⟨hq, q⟩ | ⟨hq, q⟩
    · obtain ⟨its, rv, p', hz⟩ := I1.list hq
      refine call_enumerate_list p'.isList fun h' he hit hsz hk => wpAny_pyIter_enum he ?_
      have I2 : Inv X pins σ H1 { s1 with heap := h' } := I1.kept (t' := s1.toks) hk
      exact ⟨s1.heap.objs.size + 1, [s1.heap.objs.size + 1, s1.heap.objs.size], _, _, H1, rfl, I2, turn_enum a (s1.heap.objs.size + 1) s1.heap.objs.size, ⟨⟨.none, he⟩, hit, Nat.succ_ne_self _⟩, fun b hb => I1.fpOk (fp b hb) (I1.hok.fresh (fp b hb)), q⟩
    · obtain ⟨its, rv, p', hz⟩ := I1.tuple hq
      have hal : a < s1.heap.objs.size := by obtain ⟨_, q, _⟩ := p'; exact Heap.lt_size q
      refine call_enum_tuple p' fun h' he hit hsz hk => wpAny_pyIter_enum he ?_
      have I2 : Inv X pins σ H1 { s1 with heap := h' } := I1.kept (t' := s1.toks) hk
      exact ⟨s1.heap.objs.size + 1, [s1.heap.objs.size + 1, s1.heap.objs.size], _, _, H1, rfl, I2, turn_enumT a (s1.heap.objs.size + 1) s1.heap.objs.size (Nat.succ_ne_self _) (Nat.ne_of_lt hal) (Nat.ne_of_gt (Nat.lt_succ_of_lt hal)), ⟨⟨.none, he⟩, hit⟩, fun b hb => I1.fpOk (fp b hb) (I1.hok.fresh (fp b hb)), q⟩
end Ev

set_option maxRecDepth 512
namespace Ev
open PySem PySem.Spec PyProof.Rows L2
/-! Ev11: what is walked; comprehensions -/
def isPair : Sr → Bool
  | .enum _ => true
  | .zip _ _ => true
  | _ => false
structure SrcOk (K : PySem.W.Frag) (pr : Bool) (J : It) (B F1 : Hp) (ds : List PyData) : Prop where
  go : ∀ i H, Same B H → i < ds.length → J.go i H
  stop : ∀ i H, Same B H → ds.length ≤ i → J.stop i H
  yld : ∀ i H x H' d, Same B H → ds[i]? = some d → J.yld i H x H' → (H' = H ∧ ∀ F, Same F1 F → Dn K F x d) ∨ ∃ T vs es, pr = true ∧ x = .ref T ∧ d = .tuple es ∧ H T = none ∧ H' = upd H T (.tup vs) ∧ ∀ F, Same F1 F → DnAll K F vs es
def BOk (src : Sr) (F' H' : Hp) (σ : L2.St) (e1 : Env) (B : Hp) : Prop := match src with
  | .lend i => ∃ p o, Own e1 σ i p ∧ H' p = some o ∧ B = upd F' p o
  | _ => B = F'
def tSrc (K : PySem.W.Frag) (Φ : Phi) (src : Sr) : TI := fun σ H R => ∃ G F env, Rs K G F σ H env ∧ (evS Φ src env).All fun r => ∀ F' H' J B, Same F F' → Rs K G F' σ H' r.2 → BOk src F' H' σ r.2 B → SrcOk K (isPair src) J B F' r.1 → R J H'
theorem PI.imp {X : Cx} {tg e : Expr} {t t' : TI} (h : PI X tg e t) (i : ∀ σ H Q, t' σ H Q → t σ H Q) : PI X tg e t' := ⟨fun pins s σ H Q I q => h.run pins s σ H Q I (i σ H Q q)⟩
section
variable {X : Cx} {Φ : Phi} {tg : Expr} {pos p : Pos}
def iSeq (K : PySem.W.Frag) (tl : TE) : TI := fun σ H R => tl σ H fun x H1 => ∃ a, x = .ref a ∧ (((∃ xs, SqL K H1 a xs) ∧ R (Itl K a) H1) ∨ ((∃ xs, SqT K H1 a xs) ∧ R (Itt K a) H1))
theorem pi_seq {l : Expr} {tl : TE} (hl : PE X l tl) : PI X tg l (iSeq X.K tl) := by
  refine ⟨fun pins s σ H R I h => ?_⟩
  refine thn (hl.run pins s σ H _ I h) fun v s1 ⟨x, H1, I1, r1, q1⟩ => ?_
  obtain ⟨a, e, q1⟩ := q1
  subst e
  cases r1
  rcases q1 with ⟨⟨xs, hq⟩, q⟩ | ⟨⟨xs, hq⟩, q⟩
  · obtain ⟨its, rv, p, hz⟩ := I1.list hq
    refine wpAny_pyIter_list p.isList ?_
    refine ⟨s1.heap.objs.size, [s1.heap.objs.size], _, _, H1, rfl, I1.kept (t' := s1.toks) fun b o e => Heap.get?_push_of_some _ e, turn_list a _, ⟨_, Heap.get?_push_size _ rfl, rfl, rfl⟩, fun b hb => ?_, q⟩
    have e : b = s1.heap.objs.size := by simpa using hb
    subst e
    exact I1.fpOk (Nat.le_refl _) (I1.hok.fresh (Nat.le_refl _))
  · obtain ⟨its, rv, p, hz⟩ := I1.tuple hq
    refine wpAny_pyIter_tuple (show s1.heap.IsTuple a its.toArray from p) ?_
    refine ⟨s1.heap.objs.size, [s1.heap.objs.size], _, _, H1, rfl, I1.kept (t' := s1.toks) fun b o e => Heap.get?_push_of_some _ e, turn_tuple a _, ⟨_, Heap.get?_push_size _ rfl, rfl, rfl⟩, fun b hb => ?_, q⟩
    have e : b = s1.heap.objs.size := by simpa using hb
    subst e
    exact I1.fpOk (Nat.le_refl _) (I1.hok.fresh (Nat.le_refl _))
theorem src_list {pr : Bool} {K : PySem.W.Frag} {F B : Hp} {a : Addr} {vs : List V} {ds : List PyData} (hB : B a = some (.lst vs)) (h : DnAll K F vs ds) : SrcOk K pr (Itl K a) B F ds := by
  have sq : ∀ H, Same B H → SqL K H a vs := fun H s => .inl (.inl (s _ _ hB))
  refine ⟨fun i H s hi => ?_, fun i H s hi => ⟨vs, sq H s, by rw [h.length]; exact hi⟩, fun i H x H' d s hd y => ?_⟩
  · obtain ⟨v, hv, _⟩ := h.get (List.getElem?_eq_getElem hi)
    exact ⟨vs, v, sq H s, hv⟩
  · obtain ⟨v, hv, hn⟩ := h.get hd
    obtain ⟨e, y⟩ := y
    have := y vs (sq H s)
    rw [hv] at this; cases this
    exact .inl ⟨e, fun F2 s2 => hn.mono s2⟩
theorem src_tup {pr : Bool} {K : PySem.W.Frag} {F : Hp} {a : Addr} {vs : List V} {ds : List PyData} (hB : TupD K F a vs) (h : DnAll K F vs ds) : SrcOk K pr (Itt K a) F F ds := by
  have sq : ∀ H, Same F H → SqT K H a vs := fun H s => same_sqT s hB.sq
  refine ⟨fun i H s hi => ?_, fun i H s hi => ⟨vs, sq H s, by rw [h.length]; exact hi⟩, fun i H x H' d s hd y => ?_⟩
  · obtain ⟨v, hv, _⟩ := h.get (List.getElem?_eq_getElem hi)
    exact ⟨vs, v, sq H s, hv⟩
  · obtain ⟨v, hv, hn⟩ := h.get hd
    obtain ⟨e, y⟩ := y
    have := y vs (sq H s)
    rw [hv] at this; cases this
    exact .inl ⟨e, fun F2 s2 => hn.mono s2⟩
theorem ss_over {l : Expr} {a : Ex} (ha : PE X l (tEv X.K (ev Φ a))) : PI X tg l (tSrc X.K Φ (.over a)) := by
  refine PI.imp (pi_seq (PE.c ha)) fun σ H R ⟨G, F, env, rs, h⟩ => ?_
  refine ⟨G, F, env, rs, (T.All_bind.mp h).mono fun r hr => ?_⟩
  intro F1 H1 x s1 rs1 c1
  obtain ⟨⟨d, e2⟩, k1, hk⟩ := T.All_opt.mp (T.All_bind.mp hr)
  obtain ⟨ds, k2, hk⟩ := T.All_opt.mp (T.All_bind.mp hk)
  obtain ⟨F2, s2, rs2, hd⟩ := c1.keep rs1 k1
  rcases items_some k2 with rfl | rfl
  · cases hd with
    | lst e a => exact ⟨_, rfl, .inl ⟨⟨_, .inl (.inl (rs2.fh _ _ e))⟩, hk F2 H1 _ F2 (s1.trans s2) rs2 rfl (src_list e a)⟩⟩
  · cases hd with
    | tup e a => exact ⟨_, rfl, .inr ⟨⟨_, same_sqT rs2.fh e.sq⟩, hk F2 H1 _ F2 (s1.trans s2) rs2 rfl (src_tup e a)⟩⟩
theorem ss_lend {i : Nat} {x : Str} (hN : X.N[i]? = some x) (hv : Vis X.env.scope x) (hd : (x == ("__debug__" : Str)) = false) (hcd : (x == ("__classdict__" : Str)) = false) : PI X tg (.Name x pos) (tSrc X.K Φ (.lend i)) := by
  refine PI.imp (pi_seq (pe_var hN hv hd hcd)) fun σ H R ⟨G, F, env, rs, h⟩ => ?_
  simp only [evS] at h
  cases q : Ev.get env i with
  | ow xs =>
    rw [q] at h
    obtain ⟨p, o, hs, w, g1, g2, g3, g4⟩ := rs.own_at (get_of q (by intro z; cases z)) rfl
    cases o with
    | lst vs => exact ⟨_, hs, _, rfl, .inl ⟨⟨vs, .inl (.inl g1)⟩, h F H _ _ (Same.refl _) rs ⟨p, _, w, g1, rfl⟩ (src_list upd_same g4)⟩⟩
    | _ => exact g4.elim
  | _ => rw [q] at h; exact h.elim
theorem src_rng {pr : Bool} {K : PySem.W.Frag} {F B : Hp} {a b : Int} : SrcOk K pr (Itr a (b - a).toNat) B F (rngD a b) := by
  have hl : (rngD a b).length = (b - a).toNat := by unfold rngD; simp
  refine ⟨fun i H s hi => ?_, fun i H s hi => ?_, fun i H x H' d s hd y => ?_⟩
  · rw [hl] at hi; exact hi
  · rw [hl] at hi; exact hi
  · obtain ⟨e, rfl⟩ := y
    refine .inl ⟨e, fun F2 s2 => ?_⟩
    have hi : i < (rngD a b).length := (List.getElem?_eq_some_iff.mp hd).1
    have : d = .int (a + i) := by
      have h2 := (List.getElem?_eq_some_iff.mp hd).2
      rw [← h2]; unfold rngD; simp
    rw [this]
    exact .int _
theorem ss_rng1 {e : Expr} {cs : List Ex} (hg : Gl X "range") (hm : X.mg "range" = none) (he : noStar e = true) (hs : PA X [e] (tCvs X.K (evs Φ cs))) (hl : cs.length = 1) : PI X tg (.Call (.Name "range" p) [e] [] pos) (tSrc X.K Φ (.rng cs)) := by
  refine PI.imp (pi_range1 hg hm hs (star_of he)) fun σ H R ⟨G, F, env, rs, h⟩ => ?_
  refine ⟨G, F, env, rs, (evs_len (T.All_bind.mp h)).mono fun r ⟨l, hr⟩ => ?_⟩
  intro F1 H1 vs s1 rs1 c1
  obtain ⟨ds, k1, hk⟩ := T.All_opt.mp (T.All_bind.mp hr)
  obtain ⟨xs, k2, hk⟩ := T.All_opt.mp (T.All_bind.mp hk)
  have pk := peeks_ok rs1 c1 k1
  have l2 : ds.length = 1 := by rw [← paired_len pk, paired_len c1, l, hl]
  match ds, k2, pk, l2 with
  | [d], k2, pk, _ =>
    obtain ⟨x, rfl, px⟩ := pk1 pk
    cases d <;> simp only [rngV, rng2V, reduceCtorEq] at k2
    split at k2
    · rename_i hb
      cases k2
      unfold LIM at hb
      refine ⟨_, by rw [px.int], by omega, by omega, ?_⟩
      have := hk F1 H1 (Itr 0 ((_ : Int) - 0).toNat) F1 s1 rs1 rfl src_rng
      rw [Int.sub_zero] at this
      exact this
    · cases k2
theorem ss_rng2 {e e' : Expr} {cs : List Ex} (hg : Gl X "range") (hm : X.mg "range" = none) (he : noStar e = true) (he' : noStar e' = true) (hs : PA X [e, e'] (tCvs X.K (evs Φ cs))) (hl : cs.length = 2) : PI X tg (.Call (.Name "range" p) [e, e'] [] pos) (tSrc X.K Φ (.rng cs)) := by
  refine PI.imp (pi_range2 hg hm hs (by rw [star_of he, star_of he']; rfl) (star_of he')) fun σ H R ⟨G, F, env, rs, h⟩ => ?_
  refine ⟨G, F, env, rs, (evs_len (T.All_bind.mp h)).mono fun r ⟨l, hr⟩ => ?_⟩
  intro F1 H1 vs s1 rs1 c1
  obtain ⟨ds, k1, hk⟩ := T.All_opt.mp (T.All_bind.mp hr)
  obtain ⟨xs, k2, hk⟩ := T.All_opt.mp (T.All_bind.mp hk)
  have pk := peeks_ok rs1 c1 k1
  have l2 : ds.length = 2 := by rw [← paired_len pk, paired_len c1, l, hl]
  match ds, k2, pk, l2 with
  | [d, d'], k2, pk, _ =>
    obtain ⟨x, y, rfl, px, py⟩ := pk2 pk
    cases d <;> cases d' <;> simp only [rngV, rng2V, reduceCtorEq] at k2
    split at k2
    · rename_i hb
      cases k2
      unfold LIM at hb
      exact ⟨_, _, by rw [px.int, py.int], by omega, hk F1 H1 _ F1 s1 rs1 rfl src_rng⟩
    · cases k2
theorem src_rng3 {pr : Bool} {K : PySem.W.Frag} {F B : Hp} {a b : Int} : SrcOk K pr (Itc a (-1) (a - b).toNat) B F ((List.range (a - b).toNat).map fun (i : Nat) => .int (a - i)) := by
  refine ⟨fun i H s hi => ?_, fun i H s hi => ?_, fun i H x H' d s hd y => ?_⟩
  · simp only [List.length_map, List.length_range] at hi; exact hi
  · simp only [List.length_map, List.length_range] at hi; exact hi
  · obtain ⟨e, rfl⟩ := y
    refine .inl ⟨e, fun F2 s2 => ?_⟩
    have h2 := (List.getElem?_eq_some_iff.mp hd).2
    simp only [List.getElem_map, List.getElem_range] at h2
    rw [← h2, show a + (i : Int) * (-1) = a - i by omega]
    exact .int _
theorem pk3 {K : PySem.W.Frag} {F H : Hp} {xs : List V} {d e f : PyData} (h : Paired (Pk K F H) xs [d, e, f]) : ∃ x y z, xs = [x, y, z] ∧ Pk K F H x d ∧ Pk K F H y e ∧ Pk K F H z f := by
  cases h with
  | cons a b => cases b with
    | cons b c => cases c with
      | cons c d => cases d; exact ⟨_, _, _, rfl, a, b, c⟩
theorem ss_rng3 {e e' e'' : Expr} {cs : List Ex} (hg : Gl X "range") (hm : X.mg "range" = none) (he : noStar e = true) (he' : noStar e' = true) (he'' : noStar e'' = true) (hs : PA X [e, e', e''] (tCvs X.K (evs Φ cs))) (hl : cs.length = 3) : PI X tg (.Call (.Name "range" p) [e, e', e''] [] pos) (tSrc X.K Φ (.rng cs)) := by
  refine PI.imp (pi_range3 hg hm hs (star_of he) (stars_of (by simp [he', he'']))) fun σ H R ⟨G, F, env, rs, h⟩ => ?_
  refine ⟨G, F, env, rs, (evs_len (T.All_bind.mp h)).mono fun r ⟨l, hr⟩ => ?_⟩
  intro F1 H1 vs s1 rs1 c1
  obtain ⟨ds, k1, hk⟩ := T.All_opt.mp (T.All_bind.mp hr)
  obtain ⟨xs, k2, hk⟩ := T.All_opt.mp (T.All_bind.mp hk)
  have pk := peeks_ok rs1 c1 k1
  have l2 : ds.length = 3 := by rw [← paired_len pk, paired_len c1, l, hl]
  match ds, k2, pk, l2 with
  | [.int i, .int j, .int (-1)], k2, pk, _ =>
    obtain ⟨x, y, z, rfl, px, py, pz⟩ := pk3 pk
    simp only [rngV] at k2
    split at k2
    · rename_i hb
      cases k2
      unfold LIM at hb
      exact ⟨_, _, _, _, by rw [px.int, py.int, pz.int], RgC.neg (by omega) (by omega) (by omega) (by omega), hk F1 H1 _ F1 s1 rs1 rfl src_rng3⟩
    · cases k2
theorem src_enum {K : PySem.W.Frag} {F : Hp} {a : Addr} {vs : List V} {ds : List PyData} (hB : F a = some (.lst vs)) (h : DnAll K F vs ds) : SrcOk K true (Ite K a) F F (ds.zipIdx.map fun (x, i) => .tuple [.int i, x]) := by
  have sq : ∀ H, Same F H → SqL K H a vs := fun H s => .inl (.inl (s _ _ hB))
  refine ⟨fun i H s hi => ?_, fun i H s hi => ⟨vs, sq H s, by rw [h.length]; simpa using hi⟩, fun i H x H' d s hd y => ?_⟩
  · have hi : i < ds.length := by simpa using hi
    obtain ⟨v, hv, _⟩ := h.get (List.getElem?_eq_getElem hi)
    exact ⟨vs, v, sq H s, hv⟩
  · obtain ⟨T, z, rfl, hT, e, y⟩ := y
    have hi : i < ds.length := by simpa using (List.getElem?_eq_some_iff.mp hd).1
    obtain ⟨v, hv, hn⟩ := h.get (List.getElem?_eq_getElem hi)
    have := y vs (sq H s)
    rw [hv] at this; cases this
    have hd2 := (List.getElem?_eq_some_iff.mp hd).2
    simp only [List.getElem_map, List.getElem_zipIdx] at hd2
    rw [Nat.zero_add] at hd2
    exact .inr ⟨T, _, _, rfl, rfl, hd2.symm, hT, e, fun F2 s2 => .cons (.int _) (.cons (hn.mono s2) .nil)⟩
theorem src_enumT {K : PySem.W.Frag} {F : Hp} {a : Addr} {vs : List V} {ds : List PyData} (hB : TupD K F a vs) (h : DnAll K F vs ds) : SrcOk K true (IteT K a) F F (ds.zipIdx.map fun (x, i) => .tuple [.int i, x]) := by
  have sq : ∀ H, Same F H → SqT K H a vs := fun H s => (hB.mono s).sq
  refine ⟨fun i H s hi => ?_, fun i H s hi => ⟨vs, sq H s, by rw [h.length]; simpa using hi⟩, fun i H x H' d s hd y => ?_⟩
  · have hi : i < ds.length := by simpa using hi
    obtain ⟨v, hv, _⟩ := h.get (List.getElem?_eq_getElem hi)
    exact ⟨vs, v, sq H s, hv⟩
  · obtain ⟨T, z, rfl, hT, e, y⟩ := y
    have hi : i < ds.length := by simpa using (List.getElem?_eq_some_iff.mp hd).1
    obtain ⟨v, hv, hn⟩ := h.get (List.getElem?_eq_getElem hi)
    have := y vs (sq H s)
    rw [hv] at this; cases this
    have hd2 := (List.getElem?_eq_some_iff.mp hd).2
    simp only [List.getElem_map, List.getElem_zipIdx] at hd2
    rw [Nat.zero_add] at hd2
    exact .inr ⟨T, _, _, rfl, rfl, hd2.symm, hT, e, fun F2 s2 => .cons (.int _) (.cons (hn.mono s2) .nil)⟩
theorem ss_enum {e : Expr} {a : Ex} {elts : List Expr} {kk : Nat} {tpos : Pos} (hg : Gl X "enumerate") (hm : X.mg "enumerate" = none) (he : noStar e = true) (ha : PE X e (tEv X.K (ev Φ a))) : PI X (.Tuple elts kk tpos) (.Call (.Name "enumerate" p) [e] [] pos) (tSrc X.K Φ (.enum a)) := by
  refine PI.imp (pi_enumA hg hm (pa_cons (PE.c ha) pa_nil (star_of he)) (star_of he)) fun σ H R ⟨G, F, env, rs, h⟩ => ?_
  refine ⟨G, F, env, rs, (T.All_bind.mp h).mono fun r hr => ?_⟩
  intro F1 H1 x s1 rs1 c1
  obtain ⟨⟨d, e2⟩, k1, hk⟩ := T.All_opt.mp (T.All_bind.mp hr)
  obtain ⟨ds, k2, hk⟩ := T.All_opt.mp (T.All_bind.mp hk)
  obtain ⟨F2, s2, rs2, hd⟩ := c1.keep rs1 k1
  cases hd with
  | lst e a => cases k2; exact ⟨_, _, rfl, .inl ⟨.inl (.inl (rs2.fh _ _ e)), hk F2 H1 _ F2 (s1.trans s2) rs2 rfl (src_enum e a)⟩⟩
  | tup e a => cases k2; exact ⟨_, _, rfl, .inr ⟨(e.mono rs2.fh).sq, hk F2 H1 _ F2 (s1.trans s2) rs2 rfl (src_enumT e a)⟩⟩
  | _ => cases k2
theorem zipD_get {xs ys : List PyData} {i : Nat} {d : PyData} (h : (zipD xs ys)[i]? = some d) : ∃ x y, xs[i]? = some x ∧ ys[i]? = some y ∧ d = .tuple [x, y] := by
  unfold zipD at h
  rw [List.getElem?_map, Option.map_eq_some_iff] at h
  obtain ⟨⟨x, y⟩, h1, h2⟩ := h
  rw [List.getElem?_zip_eq_some] at h1
  exact ⟨x, y, h1.1, h1.2, h2.symm⟩
theorem zipD_len {xs ys : List PyData} : (zipD xs ys).length = min xs.length ys.length := by unfold zipD; simp
theorem src_zipL {K : PySem.W.Frag} {F : Hp} {a b : Addr} {vs us : List V} {ds es : List PyData} (hA : F a = some (.lst vs)) (hB : F b = some (.lst us)) (h : DnAll K F vs ds) (h' : DnAll K F us es) : SrcOk K true (Itz K a b) F F (zipD ds es) := by
  have sq : ∀ H, Same F H → SqL K H a vs := fun H s => .inl (.inl (s _ _ hA))
  have sq' : ∀ H, Same F H → SqL K H b us := fun H s => .inl (.inl (s _ _ hB))
  refine ⟨fun i H s hi => ?_, fun i H s hi => ⟨vs, us, sq H s, sq' H s, by rw [h.length, h'.length]; rw [zipD_len] at hi; omega⟩, fun i H x H' d s hd y => ?_⟩
  · rw [zipD_len] at hi
    obtain ⟨v, hv, _⟩ := h.get (List.getElem?_eq_getElem (show i < ds.length by omega))
    obtain ⟨u, hu, _⟩ := h'.get (List.getElem?_eq_getElem (show i < es.length by omega))
    exact ⟨vs, us, v, u, sq H s, sq' H s, hv, hu⟩
  · obtain ⟨T, z, w, rfl, hT, e, y1, y2⟩ := y
    obtain ⟨dx, dy, h1, h2, rfl⟩ := zipD_get hd
    obtain ⟨v, hv, hn⟩ := h.get h1
    obtain ⟨u, hu, hn'⟩ := h'.get h2
    have := y1 vs (sq H s)
    rw [hv] at this; cases this
    have := y2 us (sq' H s)
    rw [hu] at this; cases this
    exact .inr ⟨T, _, _, rfl, rfl, rfl, hT, e, fun F2 s2 => .cons (hn.mono s2) (.cons (hn'.mono s2) .nil)⟩
theorem src_zipT {K : PySem.W.Frag} {F : Hp} {a b : Addr} {vs us : List V} {ds es : List PyData} (hA : TupD K F a vs) (hB : TupD K F b us) (h : DnAll K F vs ds) (h' : DnAll K F us es) : SrcOk K true (RZ.ItzT K a b) F F (zipD ds es) := by
  have sq : ∀ H, Same F H → SqT K H a vs := fun H s => same_sqT s hA.sq
  have sq' : ∀ H, Same F H → SqT K H b us := fun H s => same_sqT s hB.sq
  refine ⟨fun i H s hi => ?_, fun i H s hi => ⟨vs, us, sq H s, sq' H s, by rw [h.length, h'.length]; rw [zipD_len] at hi; omega⟩, fun i H x H' d s hd y => ?_⟩
  · rw [zipD_len] at hi
    obtain ⟨v, hv, _⟩ := h.get (List.getElem?_eq_getElem (show i < ds.length by omega))
    obtain ⟨u, hu, _⟩ := h'.get (List.getElem?_eq_getElem (show i < es.length by omega))
    exact ⟨vs, us, v, u, sq H s, sq' H s, hv, hu⟩
  · obtain ⟨T, z, w, rfl, hT, e, y1, y2⟩ := y
    obtain ⟨dx, dy, h1, h2, rfl⟩ := zipD_get hd
    obtain ⟨v, hv, hn⟩ := h.get h1
    obtain ⟨u, hu, hn'⟩ := h'.get h2
    have := y1 vs (sq H s)
    rw [hv] at this; cases this
    have := y2 us (sq' H s)
    rw [hu] at this; cases this
    exact .inr ⟨T, _, _, rfl, rfl, rfl, hT, e, fun F2 s2 => .cons (hn.mono s2) (.cons (hn'.mono s2) .nil)⟩
theorem ss_zip {e e2 : Expr} {a b : Ex} {elts : List Expr} {kk : Nat} {tpos : Pos} (hg : Gl X "zip") (hm : X.mg "zip" = none) (he : noStar e = true) (he2 : noStar e2 = true) (ha : PE X e (tEv X.K (ev Φ a))) (hb : PE X e2 (tEv X.K (ev Φ b))) :
    PI X (.Tuple elts kk tpos) (.Call (.Name "zip" p) [e, e2] [] pos) (tSrc X.K Φ (.zip a b)) := by
  refine PI.imp (RZ.pi_zipA hg hm (pa_cons (PE.c ha) (pa_cons (PE.c hb) pa_nil (star_of he2)) (star_of he)) (star_of he) (stars_of (by simp [he2]))) fun σ H R ⟨G, F, env, rs, h⟩ => ?_
  refine ⟨G, F, env, rs, (T.All_bind.mp h).mono fun r hr => ?_⟩
  intro F1 H1 x s1 rs1 c1
  refine ⟨G, F1, r.2, rs1, (T.All_bind.mp hr).mono fun r2 hr2 => ?_⟩
  intro F2 H2 y s2 rs2 c2
  obtain ⟨⟨d, e3⟩, k1, hk⟩ := T.All_opt.mp (T.All_bind.mp hr2)
  obtain ⟨⟨d', e4⟩, k2, hk⟩ := T.All_opt.mp (T.All_bind.mp hk)
  obtain ⟨ds, k3, hk⟩ := T.All_opt.mp (T.All_bind.mp hk)
  obtain ⟨F3, s3, rs3, hd⟩ := (c1.mono s2).keep rs2 k1
  obtain ⟨F4, s4, rs4, hd'⟩ := (c2.mono s3).keep rs3 k2
  have hd := hd.mono s4
  have sF := s1.trans (s2.trans (s3.trans s4))
  cases d <;> cases d' <;> simp only [zipV, reduceCtorEq] at k3
  · cases k3
    cases hd with
    | lst e a => cases hd' with
      | lst e' a' => exact ⟨_, _, _, _, rfl, .inl ⟨.inl (.inl (rs4.fh _ _ e)), .inl (.inl (rs4.fh _ _ e')), hk F4 H2 _ F4 sF rs4 rfl (src_zipL e e' a a')⟩⟩
  · cases k3
    cases hd with
    | tup e a => cases hd' with
      | tup e' a' => exact ⟨_, _, _, _, rfl, .inr ⟨same_sqT rs4.fh e.sq, same_sqT rs4.fh e'.sq, hk F4 H2 _ F4 sF rs4 rfl (src_zipT e e' a a')⟩⟩
end
end Ev

namespace Ev
open PySem PySem.Spec PyProof.Rows L2
/-! Ev12: comprehensions -/
def tCd (K : PySem.W.Frag) (Φ : Phi) (cond : Option Ex) : TT := fun σ H Q => ∃ G F env, Rs K G F σ H env ∧ (evC Φ cond env).All fun r => ∀ F' H', Same F F' → Rs K G F' σ H' r.2 → Q r.1 H'
theorem PTs.imp {X : Cx} {e : List Expr} {t t' : TT} (h : PTs X e t) (i : ∀ σ H Q, t' σ H Q → t σ H Q) : PTs X e t' := ⟨fun pins s σ H Q I q => h.run pins s σ H Q I (i σ H Q q)⟩
section
variable {X : Cx} {Φ : Phi} {K : PySem.W.Frag} {pos : Pos}
theorem sd_none : PTs X [] (tCd X.K Φ none) := PTs.imp pts_nil fun σ H Q ⟨G, F, env, rs, h⟩ => h F H (Same.refl _) rs
theorem sd_one {c : Expr} {a : Ex} (h : PT X c (tTv X.K (ev Φ a))) : PTs X [c] (tCd X.K Φ (some a)) := PTs.imp (pts_one h) fun σ H Q h => h
theorem lim_line' {n : Nat} (h : n ≤ LIM) : n < sizeLine := by rw [sizeLine_eq]; unfold LIM at h; omega
theorem hid_sub {src : Sr} {own : List Nat} {i : Nat} (h : i ∈ own) : i ∈ hid src own := by
  cases src <;> first | exact h | exact List.mem_cons_of_mem _ h
/-- what the walk stands on stays -/
theorem base_keeps {src : Sr} {own : List Nat} {G1 F1 H1 B : Hp} {σ : L2.St} {e1 : Env} (b : BOk src F1 H1 σ e1 B) (hd : ∀ i p o, i ∈ hid src own → Own e1 σ i p → H1 p = some o → G1 p = some o) {F' H : Hp} (s1 : Same F1 F') (s2 : Same F' H) (s3 : Same G1 H) : Same B H := by
  cases src with
  | lend i =>
    obtain ⟨p, o, w, h, rfl⟩ := b
    have g := hd i p o List.mem_cons_self w h
    intro a u e
    by_cases ha : a = p
    · subst ha; rw [upd_same] at e; cases e; exact s3 _ _ g
    · rw [upd_ne ha] at e; exact s2 _ _ (s1 _ _ e)
  | _ => obtain rfl := b; exact s1.trans s2
theorem comp_imp {own : List Nat} {elt : Ex} {tg : Tg} {src : Sr} {cond : Option Ex} {σ : L2.St} {H : Hp} {Q : VK} (ht : ∀ i ∈ slT tg, i ∈ own) (hen : isPair src = true → isTp tg = true) (h : tEv K (ev Φ (.comp own elt tg src cond)) σ H Q) :
    tLc (tSrc K Φ src) (gT K tg) (tCd K Φ cond) (tCv K (ev Φ elt)) own σ H Q := by
  obtain ⟨G, F, env, rs, h⟩ := h
  refine ⟨G, F, env, rs, (T.All_bind.mp h).mono fun r hr => ?_⟩
  intro F1 H1 J B s1 rs1 bo so D hD
  obtain ⟨ds, e1⟩ := r
  simp only at rs1 bo so hr
  split at hr
  case isFalse => exact hr.elim
  rename_i hlim
  have hr := (T.All_bind.mp hr).mono (fun z hz => (show Pst K G F σ Q (.ow z.1, restore (hid src own) e1 z.2) from hz).mono s1)
  obtain ⟨G1, sG, rh, hd⟩ := rs1.hide (hid src own)
  have hF1 : F1 D = none := rs1.fh.free hD
  have hG1 : G1 D = none := rh.gh.free hD
  have no1 : ∀ i, ¬ Own e1 σ i D := fun i w => by
    obtain ⟨_, o, _, _, q, _⟩ := w.slot rs1
    rw [hD] at q; cases q
  have no2 : ∀ i, ¬ Own (wipe (hid src own) e1) σ i D := fun i w => by
    obtain ⟨_, o, _, _, q, _⟩ := w.slot rh
    rw [hD] at q; cases q
  have sD : ∀ {acc : List V}, Same G1 (upd G1 D (.lst acc)) := fun {acc} => same_new hG1
  have ra : Rs K (upd G1 D (.lst [])) F1 σ (upd H1 D (.lst [])) (wipe (hid src own) e1) := (rh.alloc hD).frame upd_same hF1 hG1 no2
  have ra : Rs K (upd G1 D (.lst [])) F1 (L2.wipe σ own) (upd H1 D (.lst [])) (wipe (hid src own) e1) := ra.slots (wipe_length _ _) fun i hi => L2.wipe_out fun z => hi (hid_sub z)
  refine ⟨fun i m H => ∃ acc accd F' e, m = ds.length - i ∧ i ≤ ds.length ∧ Same F1 F' ∧ Rs K (upd G1 D (.lst acc)) F' (L2.wipe σ own) H (wipe (hid src own) e) ∧ DnAll K F' acc accd ∧ acc.length ≤ i ∧
    (compL (fun d e => T.opt (asgT tg d (wipe (hid src own) e)) >>= fun e2 => evC Φ cond e2 >>= fun (t, e3) => if t then ev Φ elt e3 >>= calm >>= fun (r, e4) => T.opt (r.keep e4) >>= fun (x, e5) => .ret (some x, e5) else .ret (none, e3)) (ds.drop i) e).All
      (fun z => Pst K G F1 σ Q (.ow (accd ++ z.1), restore (hid src own) e1 z.2)), ⟨ds.length - 0, [], [], F1, e1, rfl, Nat.zero_le _, Same.refl _, ra, .nil, Nat.zero_le _, hr⟩, ?_⟩
  rintro i m H2 ⟨acc, accd, F', e, rfl, hi, sF, rw_, da, hacc, hc⟩
  have sB : Same B H2 := base_keeps bo hd sF rw_.fh (sD.trans rw_.gh)
  by_cases hlt : i < ds.length
  · refine .inr ⟨so.go i H2 sB hlt, fun H' => ∃ acc accd F' e, i + 1 ≤ ds.length ∧ Same F1 F' ∧ Rs K (upd G1 D (.lst acc)) F' (L2.wipe σ own) H' (wipe (hid src own) e) ∧ DnAll K F' acc accd ∧ acc.length ≤ i + 1 ∧
      (compL (fun d e => T.opt (asgT tg d (wipe (hid src own) e)) >>= fun e2 => evC Φ cond e2 >>= fun (t, e3) => if t then ev Φ elt e3 >>= calm >>= fun (r, e4) => T.opt (r.keep e4) >>= fun (x, e5) => .ret (some x, e5) else .ret (none, e3)) (ds.drop (i + 1)) e).All
        (fun z => Pst K G F1 σ Q (.ow (accd ++ z.1), restore (hid src own) e1 z.2)), ?_, ?_⟩
    · rintro H' ⟨acc, accd, F', e, h1, h2, h3, h4, h5, h6⟩
      exact ⟨ds.length - (i + 1), by omega, acc, accd, F', e, rfl, h1, h2, h3, h4, h5, h6⟩
    · intro x H' y
      rw [List.drop_eq_getElem_cons hlt] at hc
      -- the item
      have item : Rs K (upd G1 D (.lst acc)) F' (L2.wipe σ own) H' (wipe (hid src own) e) ∧ ItD K F' H' tg x ds[i] := by
        rcases so.yld i H2 x H' ds[i] sB (List.getElem?_eq_getElem hlt) y with ⟨rfl, hx⟩ | ⟨T, vs, es, hpr, rfl, hd', hT, rfl, hx⟩
        · exact ⟨rw_, .inl (hx F' sF)⟩
        · exact ⟨rw_.alloc hT, .inr ⟨hen hpr, T, vs, es, rfl, hd', .inl (.inl upd_same), hx F' sF⟩⟩
      obtain ⟨rs2, hx⟩ := item
      have hc := T.All_bind.mp hc
      obtain ⟨e2, k1, hc⟩ := T.All_opt.mp (T.All_bind.mp hc)
      refine ⟨F', ds[i], rs2.fh, hx, asgT_ok k1, fun σ2 ha => ?_⟩
      have hσ2 : ∀ j, j ∉ own → σ2[j]? = (L2.wipe σ own)[j]? := fun j hj => (ha.out (j := j)).2 fun z => hj (ht j z)
      have hl2 : σ2.length = (L2.wipe σ own).length := (ha.out (j := 0)).1
      have rs3 := ha.rs k1 rs2
      have wσ : L2.wipe σ2 own = L2.wipe σ own := by
        refine List.ext_getElem? fun j => ?_
        by_cases hj : j ∈ own
        · have w1 : ∀ (τ : L2.St) (v : V), (L2.wipe τ own)[j]? ≠ some (some v) := fun τ v q => (wipe_some q).2 hj
          have len : (L2.wipe σ2 own).length = (L2.wipe σ own).length := by rw [wipe_length, hl2]
          by_cases hjl : j < (L2.wipe σ own).length
          · have q1 : (L2.wipe σ own)[j]? = some none := by
              rw [List.getElem?_eq_getElem hjl]
              cases z : (L2.wipe σ own)[j] with
              | none => rfl
              | some v => exact absurd (by rw [List.getElem?_eq_getElem hjl, z]) (w1 σ v)
            have hjl' : j < (L2.wipe σ2 own).length := by omega
            have q2 : (L2.wipe σ2 own)[j]? = some none := by
              rw [List.getElem?_eq_getElem hjl']
              cases z : (L2.wipe σ2 own)[j] with
              | none => rfl
              | some v => exact absurd (by rw [List.getElem?_eq_getElem hjl', z]) (w1 σ2 v)
            rw [q1, q2]
          · rw [List.getElem?_eq_none (by omega), List.getElem?_eq_none (by omega)]
        · rw [L2.wipe_out hj, hσ2 j hj]
      refine ⟨wσ, _, F', e2, rs3, (T.All_bind.mp hc).mono fun t hc => ?_⟩
      intro F3 H3 s3 rs4
      obtain ⟨t, e3⟩ := t
      -- the turn's end
      have back : ∀ {F5 H5 : Hp} {e5 : Env} {acc' : List V}, Rs K (upd G1 D (.lst acc')) F5 σ2 H5 e5 → Rs K (upd G1 D (.lst acc')) F5 (L2.wipe σ own) H5 (wipe (hid src own) e5) := fun {F5 H5 e5 acc'} r =>
        (r.wiped (hid src own)).slots hl2.symm fun j hj => (hσ2 j fun z => hj (hid_sub z)).symm
      cases t with
      | true =>
        simp only [if_true] at hc ⊢
        refine ⟨_, F3, e3, rs4, (T.All_bind.mp hc).mono fun r4 hc => ?_⟩
        intro F4 H4 yv s4 rs5 c5
        obtain ⟨⟨xd, e5⟩, k2, hc⟩ := T.All_opt.mp (T.All_bind.mp hc)
        obtain ⟨F5, s5, rs6, hy⟩ := c5.keep rs5 k2
        have hDa : H4 D = some (.lst acc) := rs6.gh _ _ upd_same
        refine ⟨acc, hDa, Nat.lt_of_le_of_lt hacc (Nat.lt_of_le_of_lt hi (lim_line' hlim)), acc ++ [yv], accd ++ [xd], F5, e5, hlt, sF.trans (s3.trans (s4.trans s5)), back rs6.regrow, (da.mono (s3.trans (s4.trans s5))).append (.cons hy .nil), by rw [List.length_append]; exact Nat.succ_le_succ hacc, ?_⟩
        refine (T.All_bind.mp hc).mono fun z hz => ?_
        rw [List.append_assoc]
        exact hz
      | false =>
        simp only [Bool.false_eq_true, if_false] at hc ⊢
        refine ⟨acc, accd, F3, e3, hlt, sF.trans s3, back rs4, da.mono s3, Nat.le_succ_of_le hacc, ?_⟩
        exact (T.All_bind.mp hc).mono fun z hz => hz
  · have ei : i = ds.length := by omega
    subst ei
    refine .inl ⟨so.stop _ H2 sB (Nat.le_refl _), ?_⟩
    rw [List.drop_length] at hc
    have hc : Pst K G F1 σ Q (.ow (accd ++ []), restore (hid src own) e1 e) := hc
    rw [List.append_nil] at hc
    have ru := Rs.unhide rs1 hd sG sD sF (wipe_length _ _) (fun i hi => L2.wipe_out fun z => hi (hid_sub z)) rw_
    have gD : G D = none := rs1.gh.free hD
    refine hc F' H2 (.ref D) sF ru (.inr ⟨rfl, ⟨D, _, rfl, rw_.gh _ _ upd_same, rw_.gf _ _ upd_same, gD, da⟩, fun _ p' e' j w => ?_⟩)
    cases e'
    obtain ⟨⟨x, hx, ho⟩, hs⟩ := w
    rw [restore_get] at hx
    by_cases hj : j ∈ hid src own ∧ j < e.length
    · rw [if_pos hj] at hx
      cases hx
      refine no1 j ⟨⟨_, ?_, ho⟩, hs⟩
      have hjl : j < e1.length := by
        have := ru.len
        rw [restore_len] at this
        rw [rs1.len, ← this]; exact hj.2
      unfold get
      rw [List.getD_eq_getElem?_getD, List.getElem?_eq_getElem hjl]
      rfl
    · rw [if_neg hj] at hx
      have hj' : j ∉ hid src own := fun z => hj ⟨z, (List.getElem?_eq_some_iff.mp hx).1⟩
      have w' : Own (wipe (hid src own) e) (L2.wipe σ own) j D := ⟨⟨x, by rw [wipe_get, if_neg (fun z => hj' z.1)]; exact hx, ho⟩, by rw [L2.wipe_out fun z => hj' (hid_sub z)]; exact hs⟩
      obtain ⟨_, _, _, _, _, _, g, _⟩ := w'.slot rw_
      rw [upd_same] at g; cases g
theorem se_comp {elt : Expr} {tge iter : Expr} {ifs : List Expr} {scope : Scope} {own : List (Str × Nat)} {ce : Ex} {tg : Tg} {src : Sr} {cond : Option Ex} (c : CxC X) (hN : X.N.Nodup) (hi : PI X tge iter (tSrc X.K Φ src)) (ok : BlkOk X.N X.env.scope scope own) (ht : ∀ i ∈ slT tg, i ∈ own.map (·.2)) (hen : isPair src = true → isTp tg = true)
    (hg : ∀ (s : Shared) (H : Hp) (C : Addr) (cl : List (Str × Addr)) (fp : List Addr), PG (X.blk s H scope (compEnvC scope cl C X.env) fp) tge (gT X.K tg)) (hc : ∀ (s : Shared) (H : Hp) (C : Addr) (cl : List (Str × Addr)) (fp : List Addr), PTs (X.blk s H scope (compEnvC scope cl C X.env) fp) ifs (tCd X.K Φ cond))
    (he : ∀ (s : Shared) (H : Hp) (C : Addr) (cl : List (Str × Addr)) (fp : List Addr), PE (X.blk s H scope (compEnvC scope cl C X.env) fp) elt (tEv X.K (ev Φ ce))) (hs : ∀ x, foldedSetIterable iter X.env x = pure x) :
    PE X (.ListComp elt [⟨tge, iter, ifs, 0⟩] scope pos) (tEv X.K (ev Φ (.comp (own.map (·.2)) ce tg src cond))) :=
  PE.imp (pe_lc c.hc hN hi ok hg hc (fun s H C cl fp => PE.c (he s H C cl fp)) hs) fun σ H Q h => comp_imp ht hen h
end
end Ev

namespace Ev
open PySem PySem.Spec PyProof.Rows L2
/-! Ev13: methods -/
section
variable {X : Cx} {Φ : Phi} {apos cpos pos : Pos}
theorem few_of {e : Expr} {es : List Expr} {env : PySem.Env} (h : (e :: es).all noStar = true) (hl : (e :: es).length < 30) : ((backTo cpos (starEach (e :: es) env)).all (fun x => !x.1) && (backToKw cpos (keywordEach [] env)).all (fun x => x.1.isSome)
      && decide ((e :: es).length + ([] : List Keyword).length + (if ([] : List Keyword).isEmpty then 0 else 1) < 30)) = true := by
  have h1 : ∀ es : List Expr, es.all noStar = true → (backTo cpos (starEach es env)).all (fun x => !x.1) = true := by
    intro es
    induction es with
    | nil => intro _; rfl
    | cons e es ih =>
      intro h
      simp only [List.all_cons, Bool.and_eq_true] at h
      rw [star_of h.1]
      show (!false && (backTo cpos (starEach es env)).all (fun x => !x.1)) = true
      rw [ih h.2]; rfl
  rw [h1 _ h]
  show (true && true && decide ((e :: es).length + 0 + 0 < 30)) = true
  simpa using hl
theorem own_list {K : PySem.W.Frag} {G F H : Hp} {σ : L2.St} {env : Env} {i : Nat} {xs : List PyData} (rs : Rs K G F σ H env) (h : get env i = .ow xs) : ∃ p vs, σ[i]? = some (some (.ref p)) ∧ H p = some (.lst vs) ∧ DnAll K F vs xs := by
  obtain ⟨p, o, hs, w, g1, g2, g3, g4⟩ := rs.own_at (get_of h (by intro z; cases z)) rfl
  cases o with
  | lst vs => exact ⟨p, vs, hs, g1, g4⟩
  | _ => exact g4.elim
theorem isOwl_get {e : EV} (h : isOwl e = true) : ∃ xs, e = .ow xs := by
  cases e <;> first | exact ⟨_, rfl⟩ | cases h
/-- the receiver, a list of slot i -/
theorem recv {K : PySem.W.Frag} {G F H : Hp} {σ : L2.St} {env : Env} {i : Nat} (rs : Rs K G F σ H env) (h : isOwl (get env i) = true) : ∃ p, σ[i]? = some (some (.ref p)) ∧ tyV K "list" (.ref p) H := by
  obtain ⟨xs, e⟩ := isOwl_get h
  obtain ⟨p, vs, hs, hp, _⟩ := own_list rs e
  exact ⟨p, hs, .inl ⟨rfl, vs, .inl (.inl hp)⟩⟩
theorem Rs.wrote {K : PySem.W.Frag} {G F H : Hp} {σ : L2.St} {env : Env} {i : Nat} {p : Addr} {xs ys : List PyData} {vs : List V} (rs : Rs K G F σ H env) (h : get env i = .ow xs) (hs : σ[i]? = some (some (.ref p))) (a : DnAll K F vs ys) : Rs K G F σ (upd H p (.lst vs)) (env.set i (.ow ys)) :=
  rs.write (get_of h (by intro z; cases z)) rfl rfl hs a
theorem se_pop0 {i : Nat} {x : Str} {p : Pos} (hN : X.N[i]? = some x) (hv : Vis X.env.scope x) (hd : (x == ("__debug__" : Str)) = false) (hcd : (x == ("__classdict__" : Str)) = false) (hline : (apos.endLine == cpos.line) = true) : PE X (.Call (.Attribute (.Name x p) "pop" apos) [] [] cpos) (tEv X.K (ev Φ (.pop i none))) := by
  refine PE.imp (pe_bm0 (T := "list") F.plainAttrs_list F.slot_list_pop F.type_list_pop mt_pop (pe_var hN hv hd hcd) rfl hline) fun σ H Q ⟨G, F, env, rs, h⟩ => ?_
  simp only [ev] at h
  split at h
  case isFalse => exact h.elim
  rename_i ho
  obtain ⟨xs, hx⟩ := isOwl_get ho
  obtain ⟨p, vs, hs, hp, a⟩ := own_list rs hx
  have h := T.All_bind.mp h
  have h : (T.opt (popV (get env i) none) >>= fun r => T.ret (R.sh r.1, env.set i (.ow r.2))).All (Pst X.K G F σ Q) := h
  obtain ⟨⟨d, ys⟩, e1, hk⟩ := T.All_opt.mp (T.All_bind.mp h)
  rw [hx] at e1
  simp only [popV, Option.map_eq_some_iff, Prod.mk.injEq] at e1
  obtain ⟨d', e2, rfl, rfl⟩ := e1
  rw [List.getLast?_eq_getElem?] at e2
  obtain ⟨v, hv, hn⟩ := a.get e2
  rw [← a.length] at hv
  refine ⟨.ref p, hs, .inl ⟨rfl, vs, .inl (.inl hp)⟩, p, vs, v, rfl, rfl, hp, hv, ?_⟩
  exact Pst.sh (show Pst X.K G F σ Q (.sh d', env.set i (.ow xs.dropLast)) from hk) (rs.wrote hx hs a.dropLast) hn
theorem se_pop1 {i : Nat} {x : Str} {p : Pos} {l : Expr} {a : Ex} (hN : X.N[i]? = some x) (hv : Vis X.env.scope x) (hd : (x == ("__debug__" : Str)) = false) (hcd : (x == ("__classdict__" : Str)) = false) (hline : (apos.endLine == cpos.line) = true) (he : noStar l = true) (ha : PE X l (tEv X.K (ev Φ a))) :
    PE X (.Call (.Attribute (.Name x p) "pop" apos) [l] [] cpos) (tEv X.K (ev Φ (.pop i (some a)))) := by
  refine PE.imp (pe_bm (T := "list") F.plainAttrs_list F.slot_list_pop F.type_list_pop mt_popAt (pe_var hN hv hd hcd) (pa_cons (PE.c ha) pa_nil (star_of he)) rfl (few_of (by simp [he]) (by simp)) hline (star_of he) (stars_of rfl)) fun σ H Q ⟨G, F, env, rs, h⟩ => ?_
  simp only [ev] at h
  split at h
  case isFalse => exact h.elim
  rename_i ho
  obtain ⟨p, hs, ty⟩ := recv rs ho
  refine ⟨.ref p, hs, ty, G, F, env, rs, ?_⟩
  have h := T.All_bind.mp h
  refine (T.All_bind.mp (show (ev Φ a env >>= calm >>= fun r => T.opt (intR r.1) >>= fun i => T.ret (some i, r.2)).All _ from h)).mono fun r hr => ?_
  intro F1 H1 v s1 rs1 c1
  obtain ⟨k, e1, hr⟩ := T.All_opt.mp (T.All_bind.mp hr)
  obtain ⟨⟨d, ys⟩, e2, hk⟩ := T.All_opt.mp (T.All_bind.mp (show T.All _ _ from hr))
  obtain ⟨hri, rfl⟩ := intR_ok c1 e1
  cases hx : get r.2 i with
  | ow xs =>
    rw [hx] at e2
    simp only [popV] at e2
    split at e2
    · rename_i hb
      simp only [Option.map_eq_some_iff, Prod.mk.injEq] at e2
      obtain ⟨d', e3, rfl, rfl⟩ := e2
      obtain ⟨p', vs, hs', hp, al⟩ := own_list rs1 hx
      rw [hs] at hs'; cases hs'
      obtain ⟨v, hv, hn⟩ := al.get e3
      have hlt : k.toNat < vs.length := (List.getElem?_eq_some_iff.mp hv).1
      unfold LIM at hb
      refine ⟨p, vs, k, k.toNat, v, rfl, rfl, hp, by omega, by omega, seqIndex_of hb.1 (by omega), hv, ?_⟩
      exact Pst.sh ((show Pst X.K G F σ Q (.sh d', r.2.set i (.ow (xs.eraseIdx k.toNat))) from hk).mono s1) (rs1.wrote hx hs (al.erase _)) hn
    · cases e2
  | _ => rw [hx] at e2; simp only [popV, reduceCtorEq] at e2
end
/-! ### index, count -/
section
variable {X : Cx} {Φ : Phi} {apos cpos pos : Pos}
def rIxT (K : PySem.W.Frag) : V → List V → Hp → VK → Prop := fun x xs H Q => ∃ (a : Addr) (y : V) (d : PyData) (ds : List PyData) (j : Nat) (z : PyData), x = V.ref a ∧ xs = [y] ∧ Dp K H (V.ref a) (.tuple ds) ∧ Dp K H y d ∧
  SeqAt.shaped (.tuple ds) = true ∧ SeqAt.shaped d = true ∧ ds[j]? = some z ∧ PyData.eqv z d = true ∧ (∀ (m : Nat) (z' : PyData), m < j → ds[m]? = some z' → PyData.eqv z' d = false) ∧ Q (.int (j : Nat)) H
theorem mt_ixT (hu : X.A.units + 65 < cLine) : MtR X "tuple.index" (rIxT X.K) := by
  intro pins s σ H x xs v us Q I rx rxs h
  obtain ⟨a, y, d, ds, j, z, rfl, rfl, hl, hy, sl, sd, hz, hzj, hno, q⟩ := h
  cases rx
  cases rxs with
  | cons ry rt =>
    rename_i uy ut
    cases rt
    obtain ⟨bs, r1⟩ := Dp.reads I d y uy hy ry
    have hxs : PyData.canLayAll0 ds = true := SeqAt.canLay_of_shaped sl
    have hroom : X.A.units + 1 + min (PyData.depthAll ds) d.depth < cLine := room_in_shaped (xs := ds) sd hu
    cases hl with
    | tup hs ha =>
      obtain ⟨its, rv, ⟨⟨cls, dd, data, sls⟩, ho, hc, n, hdt⟩, hlen⟩ := I.tuple hs
      simp only at hc hdt
      subst hc hdt
      obtain ⟨as, h4⟩ := Dp.readsAll I ds _ its ha rv
      have hn : its.length = ds.length := SeqAt.ReadsAll.length ds its as h4
      have hmap : its.map (SeqAt.readOf s.heap) = ds := SeqAt.readsAll_map ds its as hxs h4
      have hvl := rv.length
      have hsl := sizeLine_eq
      obtain ⟨hjd, _⟩ := List.getElem?_eq_some_iff.mp hz
      have hjl : j < its.length := by omega
      have hj : j < its.toArray.size := by simpa using hjl
      have at_ : ∀ (m : Nat) (hm : m < its.toArray.size) (z' : PyData), ds[m]? = some z' → SeqAt.readOf s.heap its.toArray[m] = z' := by
        intro m hm z' hz'
        have hml : m < its.length := by simpa using hm
        rw [← hmap, List.getElem?_map, List.getElem?_eq_getElem hml] at hz'
        have e1 : SeqAt.readOf s.heap its[m] = z' := Option.some.inj (show some (SeqAt.readOf s.heap its[m]) = some z' from hz')
        simpa using e1
      refine call_meets PySem.F.slot_tuple_index ⟨_, ho, rfl⟩ PySem.F.entry_tuple_index (PySem.F.args_tuple_index_2 _ _)
        (TI.tuple_indexAt a its.toArray n dd sls uy (fun u => PyData.eqv (SeqAt.readOf s.heap u) d) j hj ?_ ?_) ⟨ho, SeqAt.items_eqAt (vs := its.toArray) (show ReadsAll s.heap its.toArray.toList ds as from h4) r1 hxs (SeqAt.canLay_of_shaped sd) hroom, ?_⟩
      · show PyData.eqv (SeqAt.readOf s.heap its.toArray[j]) d = true
        rw [at_ j hj z hz]
        exact hzj
      · intro m hm hmj
        have hmd : m < ds.length := by omega
        have hz' : ds[m]? = some ds[m] := List.getElem?_eq_getElem hmd
        show PyData.eqv (SeqAt.readOf s.heap its.toArray[m]) d = false
        rw [at_ m hm _ hz']
        exact hno m _ hmj hz'
      · exact ⟨.int (j : Nat), H, I.tok _, ⟨_, rfl⟩, q⟩
def tMt (K : PySem.W.Frag) (to : TE) (t : TA) (rl rt : V → List V → Hp → VK → Prop) : TE := fun σ H Q => to σ H fun x H1 => ∃ p, x = .ref p ∧
  (((∃ xs, SqL K H1 p xs) ∧ t σ H1 fun xs H2 => rl x xs H2 Q) ∨ ((∃ vs, TupD K H1 p vs) ∧ t σ H1 fun xs H2 => rt x xs H2 Q))
/-- o.m(e) of a list or of a tuple -/
theorem pe_seqM {o e : Expr} {to : TE} {t : TA} {name : Str} {idl idt : String} {rl rt : V → List V → Hp → VK → Prop} (sl : Slot "list" name idl) (tl : typeOf (.builtin idl) = pure (.type "method_descriptor")) (ml : MtR X idl rl)
    (st : Slot "tuple" name idt) (tt : typeOf (.builtin idt) = pure (.type "method_descriptor")) (mt : MtR X idt rt) (ho : PE X o to) (ha : PA X [e] t) (he : noStar e = true) (hbase : attributeBase o name X.env (eval o X.env) = eval o X.env) (hline : (apos.endLine == cpos.line) = true) :
    PE X (.Call (.Attribute o name apos) [e] [] cpos) (tMt X.K to t rl rt) := by
  refine ⟨fun pins s σ H Q I h => ?_⟩
  refine wpAny_Call_method_late hbase (few_of (by simp [he]) (by simp)) hline rfl (thn (ho.run pins s σ H _ I h) fun v s1 ⟨x, H1, I1, r1, p, ex, q1⟩ => ?_)
  subst ex
  cases r1
  rcases q1 with ⟨⟨xs, hx⟩, q1⟩ | ⟨⟨vs, hx⟩, q1⟩
  · obtain ⟨its, _, ⟨o, n, e', c, hd, _⟩, _⟩ := I1.list hx
    refine ⟨"list", idl, F.plainAttrs_list, sl, tl, ⟨o, e', by assumption⟩, (fun a e => by cases e; exact ⟨o, e', by assumption⟩), ?_⟩
    have hA := ha.run cpos pins s1 σ H1 _ I1 q1
    rw [star_of he] at hA ⊢
    refine Calls.callWith_builtin (by rfl) (Calls.evalArgs_plain ?_)
    exact thn hA fun us s2 ⟨vs, H2, I2, r2, q2⟩ => ml pins s2 σ H2 (.ref p) vs _ us Q I2 rfl r2 q2
  · have hd : ∃ ob, s1.heap.get? p = some ob ∧ ob.cls = .type "tuple" ∧ ob.dict = none := by
      rcases hx with ⟨ob, h1, h2⟩ | ⟨ob, its, n, h1, h2, h3, _⟩
      · obtain ⟨g, _, _, _, ⟨ob2, g2, c, _⟩⟩ := I1.hok p _ h1
        rw [g] at g2; cases g2
        exact ⟨ob, g, c, h2⟩
      · exact ⟨ob, I1.kIn p ob h1, h2, h3⟩
    obtain ⟨ob, g1, g2, g3⟩ := hd
    refine ⟨"tuple", idt, F.plainAttrs_tuple, st, tt, ⟨ob, g1, g2⟩, (fun a e => by cases e; exact ⟨ob, g1, g3⟩), ?_⟩
    have hA := ha.run cpos pins s1 σ H1 _ I1 q1
    rw [star_of he] at hA ⊢
    refine Calls.callWith_builtin (by rfl) (Calls.evalArgs_plain ?_)
    exact thn hA fun us s2 ⟨vs, H2, I2, r2, q2⟩ => mt pins s2 σ H2 (.ref p) vs _ us Q I2 rfl r2 q2
def rMt (K : PySem.W.Frag) (m : Mt) (k : Nat) : V → List V → Hp → VK → Prop := fun x xs H Q => ∃ G F σ env dx ds r, Rs K G F σ H env ∧ Pk K F H x dx ∧ seqK dx = k ∧ Paired (Pk K F H) xs ds ∧ mtV m dx ds = some r ∧ Pst K G F σ Q (.sh r, env)
theorem find_first {ds : List PyData} {d : PyData} {j : Nat} (h : ds.findIdx? (fun z => PyData.eqv z d) = some j) : ∃ z, ds[j]? = some z ∧ PyData.eqv z d = true ∧ ∀ (m : Nat) (z' : PyData), m < j → ds[m]? = some z' → PyData.eqv z' d = false := by
  rw [List.findIdx?_eq_some_iff_getElem] at h
  obtain ⟨hj, h1, h2⟩ := h
  refine ⟨ds[j], List.getElem?_eq_getElem hj, h1, fun m z' hm hz => ?_⟩
  have := h2 m hm
  obtain ⟨hm', rfl⟩ := List.getElem?_eq_some_iff.mp hz
  simpa using this
theorem seqK_1 {d : PyData} (h : seqK d = 1) : ∃ ys, d = .list ys := by
  cases d <;> first | exact ⟨_, rfl⟩ | cases h
theorem seqK_2 {d : PyData} (h : seqK d = 2) : ∃ ys, d = .tuple ys := by
  cases d <;> first | exact ⟨_, rfl⟩ | cases h
theorem mt_ixL (c : CxC X) : MtR X "list.index" (rMt X.K .index 1) := by
  intro pins s σ H x xs v us Q I rx rxs ⟨G, F, σ', env, dx, ds, r, rs, px, hk, pk, e, q⟩
  have hu := c.hu
  obtain ⟨ys, rfl⟩ := seqK_1 hk
  match ds, e, pk with
  | [d], e, pk =>
    simp only [mtV, okD, Bool.and_eq_true] at e
    split at e
    · rename_i ok
      simp only [Option.map_eq_some_iff] at e
      obtain ⟨j, e1, rfl⟩ := e
      obtain ⟨z, h1, h2, h3⟩ := find_first e1
      obtain ⟨y, rfl, py⟩ := pk1 pk
      have dpx := px.dp rs.fh
      obtain ⟨p, vs, rfl, hp, a⟩ := px.list
      exact mt_indexD (by omega) pins s σ H _ _ v us Q I rx rxs ⟨p, y, d, _, j, z, rfl, rfl, dpx, py.dp rs.fh, ok.2, ok.1, h1, h2, h3, q.sh rs (.int _)⟩
    · cases e
theorem mt_ixT' (c : CxC X) : MtR X "tuple.index" (rMt X.K .index 2) := by
  intro pins s σ H x xs v us Q I rx rxs ⟨G, F, σ', env, dx, ds, r, rs, px, hk, pk, e, q⟩
  have hu := c.hu
  obtain ⟨ys, rfl⟩ := seqK_2 hk
  match ds, e, pk with
  | [d], e, pk =>
    simp only [mtV, okD, Bool.and_eq_true] at e
    split at e
    · rename_i ok
      simp only [Option.map_eq_some_iff] at e
      obtain ⟨j, e1, rfl⟩ := e
      obtain ⟨z, h1, h2, h3⟩ := find_first e1
      obtain ⟨y, rfl, py⟩ := pk1 pk
      have dpx := px.dp rs.fh
      obtain ⟨p, vs, rfl, hp, a⟩ := px.tuple
      exact mt_ixT (by omega) pins s σ H _ _ v us Q I rx rxs ⟨p, y, d, _, j, z, rfl, rfl, dpx, py.dp rs.fh, ok.2, ok.1, h1, h2, h3, q.sh rs (.int _)⟩
    · cases e
theorem mt_cntL : MtR X "list.count" (rMt X.K .count 1) := by
  intro pins s σ H x xs v us Q I rx rxs ⟨G, F, σ', env, dx, ds, r, rs, px, hk, pk, e, q⟩
  obtain ⟨ys, rfl⟩ := seqK_1 hk
  match ds, e, pk with
  | [.int k], e, pk =>
    simp only [mtV, Option.map_eq_some_iff] at e
    obtain ⟨is, e1, rfl⟩ := e
    obtain ⟨y, rfl, py⟩ := pk1 pk
    obtain ⟨p, vs, rfl, hp, a⟩ := px.list
    rw [a.ints e1] at hp
    exact mt_lcount pins s σ H _ _ v us Q I rx rxs ⟨p, is, k, rfl, by rw [py.int], .inl (.inl hp), q.sh rs (.int _)⟩
theorem seq_cases {K : PySem.W.Frag} {F H : Hp} {x : V} {d : PyData} (h : Pk K F H x d) (s : Same F H) (hk : seqK d ≠ 0) : ∃ p, x = .ref p ∧ ((seqK d = 1 ∧ ∃ xs, SqL K H p xs) ∨ (seqK d = 2 ∧ ∃ vs, TupD K H p vs)) := by
  cases d with
  | list ds => obtain ⟨p, vs, rfl, hp, _⟩ := h.list; exact ⟨p, rfl, .inl ⟨rfl, vs, .inl (.inl hp)⟩⟩
  | tuple ds => obtain ⟨p, vs, rfl, hp, _⟩ := h.tuple; exact ⟨p, rfl, .inr ⟨rfl, vs, hp.mono s⟩⟩
  | _ => exact absurd rfl hk
theorem meth_imp {K : PySem.W.Frag} {m : Mt} {a : Ex} {es : List Ex} {σ : L2.St} {H : Hp} {Q : VK} (h : tEv K (ev Φ (.meth m a es)) σ H Q) : tCv K (ev Φ a) σ H fun x H1 => ∃ (d : PyData) (F : Hp), Same F H1 ∧ Pk K F H1 x d ∧ okK m d = true ∧
    tCvs K (evs Φ es) σ H1 fun xs H2 => rMt K m (seqK d) x xs H2 Q := by
  obtain ⟨G, F, env, rs, h⟩ := h
  refine ⟨G, F, env, rs, (T.All_bind.mp h).mono fun r hr => ?_⟩
  intro F1 H1 x s1 rs1 c1
  obtain ⟨d0, e0, hr⟩ := T.All_opt.mp (T.All_bind.mp hr)
  split at hr
  case isFalse => exact hr.elim
  rename_i hok
  refine ⟨d0, F1, rs1.fh, c1.peek rs1 e0, hok, G, F1, r.2, rs1, (T.All_bind.mp hr).mono fun r2 hr2 => ?_⟩
  intro F2 H2 xs s2 rs2 c2
  obtain ⟨dx, e1, hk⟩ := T.All_opt.mp (T.All_bind.mp hr2)
  obtain ⟨ds, e2, hk⟩ := T.All_opt.mp (T.All_bind.mp hk)
  split at hk
  · rename_i hkk
    obtain ⟨rr, e3, hk⟩ := T.All_opt.mp (T.All_bind.mp hk)
    exact ⟨G, F2, σ, r2.2, dx, ds, rr, rs2, (c1.mono s2).peek rs2 e1, hkk.symm, peeks_ok rs2 c2 e2, e3, (show Pst K G F σ Q (.sh rr, r2.2) from hk).mono (s1.trans s2)⟩
  · exact hk.elim
theorem se_index {o e : Expr} {a b : Ex} (c : CxC X) (ho : PE X o (tEv X.K (ev Φ a))) (hb : PE X e (tEv X.K (ev Φ b))) (he : noStar e = true) (hbase : attributeBase o "index" X.env (eval o X.env) = eval o X.env) (hline : (apos.endLine == cpos.line) = true) :
    PE X (.Call (.Attribute o "index" apos) [e] [] cpos) (tEv X.K (ev Φ (.meth .index a [b]))) := by
  refine PE.imp (pe_seqM F.slot_list_index F.type_list_index (mt_ixL c) F.slot_tuple_index F.type_tuple_index (mt_ixT' c) (PE.c ho) (sa_cons he hb sa_nil) he hbase hline) fun σ H Q h => ?_
  obtain ⟨G, F, env, rs, h⟩ := meth_imp h
  refine ⟨G, F, env, rs, h.mono fun r hr => ?_⟩
  intro F1 H1 x s1 rs1 c1
  obtain ⟨d, F2, s2, pk, ok, q⟩ := hr F1 H1 x s1 rs1 c1
  have hk : seqK d ≠ 0 := of_decide_eq_true ok
  obtain ⟨p, rfl, h⟩ := seq_cases pk s2 hk
  rcases h with ⟨h1, h2⟩ | ⟨h1, h2⟩
  · rw [h1] at q
    exact ⟨p, rfl, .inl ⟨h2, q⟩⟩
  · rw [h1] at q
    exact ⟨p, rfl, .inr ⟨h2, q⟩⟩
theorem se_count {o e : Expr} {a b : Ex} (ho : PE X o (tEv X.K (ev Φ a))) (hb : PE X e (tEv X.K (ev Φ b))) (he : noStar e = true) (hbase : attributeBase o "count" X.env (eval o X.env) = eval o X.env) (hline : (apos.endLine == cpos.line) = true) :
    PE X (.Call (.Attribute o "count" apos) [e] [] cpos) (tEv X.K (ev Φ (.meth .count a [b]))) := by
  refine PE.imp (pe_bm (T := "list") F.plainAttrs_list F.slot_list_count F.type_list_count mt_cntL (PE.c ho) (sa_cons he hb sa_nil) hbase (few_of (by simp [he]) (by simp)) hline (star_of he) (stars_of rfl)) fun σ H Q h => ?_
  obtain ⟨G, F, env, rs, h⟩ := meth_imp h
  refine ⟨G, F, env, rs, h.mono fun r hr => ?_⟩
  intro F1 H1 x s1 rs1 c1
  obtain ⟨d, F2, s2, pk, ok, q⟩ := hr F1 H1 x s1 rs1 c1
  have hk : seqK d = 1 := of_decide_eq_true ok
  rw [hk] at q
  obtain ⟨p, rfl, h⟩ := seq_cases pk s2 (by rw [hk]; decide)
  rcases h with ⟨h1, xs, h2⟩ | ⟨h1, h2⟩
  · exact ⟨.inl ⟨rfl, xs, h2⟩, q⟩
  · rw [hk] at h1; cases h1
/-! ### what changes a list -/
def tSt (K : PySem.W.Frag) (m : Env → T Fl) : TS := fun D σ H => ∃ G F env, Rs K G F σ H env ∧ (m env).All fun r => ∀ F' H' σ', Same F F' → match r with
    | .next e => Rs K G F' σ' H' e → D.nx σ' H'
    | .brk e => Rs K G F' σ' H' e → D.bk σ' H'
    | .ret v e => Rs K G F' σ' H' e → ∀ x, VOk K G F' H' x v → D.rt x H'
theorem PS.imp {st : Stmt} {t t' : TS} (h : PS X st t) (i : ∀ D σ H, t' D σ H → t D σ H) : PS X st t' := ⟨fun pins s σ H D I q => h.run pins s σ H D I (i D σ H q)⟩
theorem PSs.imp {st : List Stmt} {t t' : TS} (h : PSs X st t) (i : ∀ D σ H, t' D σ H → t D σ H) : PSs X st t' := ⟨fun pins s σ H D I q => h.run pins s σ H D I (i D σ H q)⟩
theorem sx_app {i : Nat} {x : Str} {p : Pos} {l : Expr} {a : Ex} (hN : X.N[i]? = some x) (hv : Vis X.env.scope x) (hd : (x == ("__debug__" : Str)) = false) (hcd : (x == ("__classdict__" : Str)) = false) (hline : (apos.endLine == cpos.line) = true) (he : noStar l = true) (ha : PE X l (tEv X.K (ev Φ a))) :
    PS X (.Expr (.Call (.Attribute (.Name x p) "append" apos) [l] [] cpos) pos) (tSt X.K (ex Φ (.app i a))) := by
  refine PS.imp (ps_expr (pe_bm (T := "list") F.plainAttrs_list F.slot_list_append F.type_list_append mt_append (pe_var hN hv hd hcd) (pa_cons (PE.c ha) pa_nil (star_of he)) rfl (few_of (by simp [he]) (by simp)) hline (star_of he) (stars_of rfl)) rfl) fun D σ H ⟨G, F, env, rs, h⟩ => ?_
  simp only [ex] at h
  split at h
  case isFalse => exact h.elim
  rename_i ho
  obtain ⟨p, hs, ty⟩ := recv rs ho
  refine ⟨.ref p, hs, ty, G, F, env, rs, (T.All_bind.mp h).mono fun r hr => ?_⟩
  intro F1 H1 v s1 rs1 c1
  obtain ⟨⟨d, e2⟩, k1, hk⟩ := T.All_opt.mp (T.All_bind.mp hr)
  obtain ⟨ys, k2, hk⟩ := T.All_opt.mp (T.All_bind.mp hk)
  obtain ⟨F2, s2, rs2, hn⟩ := c1.keep rs1 k1
  cases hx : get e2 i with
  | ow xs =>
    rw [hx] at k2
    simp only [appV] at k2
    split at k2
    · rename_i hb
      cases k2
      obtain ⟨p', vs, hs', hp, al⟩ := own_list rs2 hx
      rw [hs] at hs'; cases hs'
      refine ⟨p, vs, v, rfl, rfl, hp, ?_, ?_⟩
      · rw [al.length]; exact lim_line' (Nat.le_of_lt hb)
      · exact hk F2 _ σ (s1.trans s2) (rs2.wrote hx hs (al.append (.cons hn .nil)))
    · cases k2
  | _ => rw [hx] at k2; simp only [appV, reduceCtorEq] at k2
theorem Dn.list_inv {K : PySem.W.Frag} {F : Hp} {v : V} {ds : List PyData} (h : Dn K F v (.list ds)) : ∃ p vs, v = .ref p ∧ F p = some (.lst vs) ∧ DnAll K F vs ds := by
  cases h with
  | lst e a => exact ⟨_, _, rfl, e, a⟩
theorem sx_ext {i : Nat} {x : Str} {p : Pos} {l : Expr} {a : Ex} (hN : X.N[i]? = some x) (hv : Vis X.env.scope x) (hd : (x == ("__debug__" : Str)) = false) (hcd : (x == ("__classdict__" : Str)) = false) (hline : (apos.endLine == cpos.line) = true) (he : noStar l = true) (ha : PE X l (tEv X.K (ev Φ a))) :
    PS X (.Expr (.Call (.Attribute (.Name x p) "extend" apos) [l] [] cpos) pos) (tSt X.K (ex Φ (.ext i a))) := by
  refine PS.imp (ps_expr (pe_bm (T := "list") F.plainAttrs_list F.slot_list_extend F.type_list_extend mt_extend (pe_var hN hv hd hcd) (pa_cons (PE.c ha) pa_nil (star_of he)) rfl (few_of (by simp [he]) (by simp)) hline (star_of he) (stars_of rfl)) rfl) fun D σ H ⟨G, F, env, rs, h⟩ => ?_
  simp only [ex] at h
  split at h
  case isFalse => exact h.elim
  rename_i ho
  obtain ⟨p, hs, ty⟩ := recv rs ho
  refine ⟨.ref p, hs, ty, G, F, env, rs, (T.All_bind.mp h).mono fun r hr => ?_⟩
  intro F1 H1 v s1 rs1 c1
  obtain ⟨⟨d, e2⟩, k1, hk⟩ := T.All_opt.mp (T.All_bind.mp hr)
  obtain ⟨ys, k2, hk⟩ := T.All_opt.mp (T.All_bind.mp hk)
  obtain ⟨F2, s2, rs2, hn⟩ := c1.keep rs1 k1
  cases hx : get e2 i with
  | ow xs =>
    rw [hx] at k2
    cases d <;> simp only [extV, reduceCtorEq] at k2
    split at k2
    · rename_i hb
      cases k2
      obtain ⟨p', vs, hs', hp, al⟩ := own_list rs2 hx
      rw [hs] at hs'; cases hs'
      obtain ⟨q, us, rfl, hq, bl⟩ := hn.list_inv
      refine ⟨p, q, vs, us, rfl, rfl, hp, rs2.fh _ _ hq, ?_, ?_⟩
      · rw [al.length, bl.length]; exact Nat.le_of_lt (lim_line' (Nat.le_of_lt hb))
      · exact hk F2 _ σ (s1.trans s2) (rs2.wrote hx hs (al.append bl))
    · cases k2
  | _ => rw [hx] at k2; simp only [extV, reduceCtorEq] at k2
theorem sx_ins {i : Nat} {x : Str} {p : Pos} {l l' : Expr} {a b : Ex} (hN : X.N[i]? = some x) (hv : Vis X.env.scope x) (hd : (x == ("__debug__" : Str)) = false) (hcd : (x == ("__classdict__" : Str)) = false) (hline : (apos.endLine == cpos.line) = true) (he : noStar l = true) (he' : noStar l' = true)
    (ha : PE X l (tEv X.K (ev Φ a))) (hb : PE X l' (tEv X.K (ev Φ b))) : PS X (.Expr (.Call (.Attribute (.Name x p) "insert" apos) [l, l'] [] cpos) pos) (tSt X.K (ex Φ (.ins i a b))) := by
  refine PS.imp (ps_expr (pe_bm (T := "list") F.plainAttrs_list F.slot_list_insert F.type_list_insert mt_insert (pe_var hN hv hd hcd) (sa_cons he ha (sa_cons he' hb sa_nil)) rfl (few_of (by simp [he, he']) (by simp)) hline (star_of he) (stars_of (by simp [he']))) rfl) fun D σ H ⟨G, F, env, rs, h⟩ => ?_
  simp only [ex] at h
  split at h
  case isFalse => exact h.elim
  rename_i ho
  obtain ⟨p, hs, ty⟩ := recv rs ho
  refine ⟨.ref p, hs, ty, G, F, env, rs, (T.All_bind.mp h).mono fun r hr => ?_⟩
  intro F1 H1 v s1 rs1 c1
  obtain ⟨⟨ds, e2⟩, k1, hk⟩ := T.All_opt.mp (T.All_bind.mp hr)
  obtain ⟨ys, k2, hk⟩ := T.All_opt.mp (T.All_bind.mp hk)
  obtain ⟨F2, s2, rs2, hn⟩ := keeps_ok rs1 c1 k1
  cases hx : get e2 i with
  | ow xs =>
    rw [hx] at k2
    match ds, k2, hn with
    | [.int n, d], k2, .cons h1 (.cons h2 .nil) =>
      simp only [insV] at k2
      split at k2
      · rename_i hb
        cases k2
        obtain ⟨p', vs, hs', hp, al⟩ := own_list rs2 hx
        rw [hs] at hs'; cases hs'
        obtain ⟨hb1, hb2, hb3⟩ := hb
        refine ⟨p, vs, n, _, rfl, by rw [h1.int_inv], hp, ?_, hb2, ?_, ?_⟩
        · rw [al.length]; exact lim_line' (Nat.le_of_lt hb1)
        · unfold LIM at hb3; omega
        · exact hk F2 _ σ (s1.trans s2) (rs2.wrote hx hs (((al.take _).append (.cons h2 .nil)).append (al.drop _)))
      · cases k2
  | _ => rw [hx] at k2; simp only [insV, reduceCtorEq] at k2
end
end Ev

namespace Ev
open PySem PySem.Spec PyProof.Rows L2
/-! Ev14: statements -/
section
variable {K : PySem.W.Frag} {G F F' H : Hp} {σ : L2.St} {env env' : Env} {v : V} {r : R} {i : Nat} {e : EV}
theorem ROk.keepable (rs : Rs K G F σ H env) (ro : ROk K G F σ H env v r) (h : isOwn r.toEV = false) : COk K F σ v r := by
  rcases ro with ⟨j, rfl, hj⟩ | ⟨h1, h2, h3⟩
  · exact .inl ⟨j, rfl, hj⟩
  · exact .inr ⟨h1, h, h2.not_own h (Same.refl _)⟩
/-- what is stored -/
theorem ROk.put (rs : Rs K G F σ H env) (ro : ROk K G F σ H env v r) (q : r.put env = some (e, env')) : ∃ F', Same F F' ∧ Rs K G F' σ H env' ∧ VOk K G F' H v e ∧ (isOwn e = true → ∀ p, v = .ref p → ∀ i, ¬ Own env' σ i p) := by
  cases ho : isOwn r.toEV with
  | false =>
    have c := ro.keepable rs ho
    have q' : r.arg env = some (e, env') := by cases r <;> first | exact q | (simp [R.toEV, isOwn] at ho; done)
    obtain ⟨F', s, rs', vk, no⟩ := c.arg rs q'
    exact ⟨F', s, rs', vk.not_own no (Same.refl _), fun z => by rw [no] at z; cases z⟩
  | true =>
    rcases ro with ⟨j, rfl, _⟩ | ⟨h1, h2, h3⟩
    · cases ho
    · cases r <;> first | (simp [R.toEV, isOwn] at ho; done) | (cases q; exact ⟨F, Same.refl _, rs, h2, h3⟩)
theorem Rs.storeA (rs : Rs K G F σ H env) (q : VOk K G F H v e) (hd : isOwn e = true → ∀ p, v = .ref p → ∀ j, ¬ Own env σ j p) (i : Nat) : Rs K G F (σ.set i (some v)) H (env.set i e) := by
  by_cases hi : i < env.length
  · exact rs.store hi q fun ho p hp j _ => hd ho p hp j
  · have e1 : env.set i e = env := List.set_eq_of_length_le (by omega)
    have e2 : σ.set i (some v) = σ := List.set_eq_of_length_le (by rw [← rs.len]; omega)
    rw [e1, e2]; exact rs
end
section
variable {X : Cx} {Φ : Phi} {pos : Pos} {l : Expr} {a : Ex}
theorem set_imp {K : PySem.W.Frag} {i : Nat} {D : Ends} {σ : L2.St} {H : Hp} (h : tSt K (ex Φ (.set i a)) D σ H) : tAsg (tEv K (ev Φ a)) (gName i) D σ H := by
  obtain ⟨G, F, env, rs, h⟩ := h
  refine ⟨G, F, env, rs, (T.All_bind.mp h).mono fun r hr => ?_⟩
  intro F1 H1 v s1 rs1 ro
  obtain ⟨⟨e, e2⟩, k, hk⟩ := T.All_opt.mp (T.All_bind.mp hr)
  obtain ⟨F2, s2, rs2, vk, no⟩ := ro.put rs1 k
  exact hk F2 H1 _ (s1.trans s2) (rs2.storeA vk no i)
theorem sx_set {i : Nat} {x : Str} {pos' : Pos} (hN : X.N.Nodup) (hi : X.N[i]? = some x) (hx : Loc X.env.scope x) (hf : X.fn x = true ∨ X.env.scope.names.lookup x = some .local) (hs : swapsWith l (some (.Name x pos')) pos.line X.env = pure false) (ha : PE X l (tEv X.K (ev Φ a))) :
    PS X (.Assign [.Name x pos'] l pos) (tSt X.K (ex Φ (.set i a))) := PS.imp (ps_set hN hi hx ha hs hf) fun D σ H h => set_imp h
theorem sx_setLc {elt : Expr} {tge iter : Expr} {ifs : List Expr} {scope : Scope} {own : List (Str × Nat)} {ce : Ex} {tg : Tg} {src : Sr} {cond : Option Ex} {i : Nat} {y : Str} {py spos : Pos} (c : CxC X) (hN : X.N.Nodup) (hy : X.N[i]? = some y) (hyl : X.env.scope.names.lookup y = some .local)
    (hsw : swapsWith (.ListComp elt [⟨tge, iter, ifs, 0⟩] scope pos) (some (.Name y py)) spos.line X.env = pure true) (hi : PI X tge iter (tSrc X.K Φ src)) (ok : BlkOk X.N X.env.scope scope own) (ht : ∀ i ∈ slT tg, i ∈ own.map (·.2)) (hen : isPair src = true → isTp tg = true)
    (hg : ∀ (s : Shared) (H : Hp) (C : Addr) (cl : List (Str × Addr)) (fp : List Addr), PG (X.blk s H scope (compEnvC scope cl C X.env) fp) tge (gT X.K tg)) (hc : ∀ (s : Shared) (H : Hp) (C : Addr) (cl : List (Str × Addr)) (fp : List Addr), PTs (X.blk s H scope (compEnvC scope cl C X.env) fp) ifs (tCd X.K Φ cond))
    (he : ∀ (s : Shared) (H : Hp) (C : Addr) (cl : List (Str × Addr)) (fp : List Addr), PE (X.blk s H scope (compEnvC scope cl C X.env) fp) elt (tEv X.K (ev Φ ce))) (hs : ∀ x, foldedSetIterable iter X.env x = pure x) :
    PS X (.Assign [.Name y py] (.ListComp elt [⟨tge, iter, ifs, 0⟩] scope pos) spos) (tSt X.K (ex Φ (.set i (.comp (own.map (·.2)) ce tg src cond)))) :=
  PS.imp (ps_setLc c.hc hN hy hyl hsw hi ok hg hc (fun s H C cl fp => PE.c (he s H C cl fp)) hs) fun D σ H h => comp_imp ht hen (show tEv X.K (ev Φ (.comp (own.map (·.2)) ce tg src cond)) σ H (fun x H1 => gName i x σ H1 D.nx) from set_imp h)
theorem sx_asg {tge : Expr} {tg : Tg} (hp : plainTg tge = true) (hs : swapsWithSole [tge] l pos.line X.env = pure false) (hw : swappedStores [tge] l X.env = pure none) (hg : PG X tge (gT X.K tg)) (ha : PE X l (tEv X.K (ev Φ a))) :
    PS X (.Assign [tge] l pos) (tSt X.K (ex Φ (.asg tg a))) := by
  refine PS.imp (ps_asg (PE.c ha) hg hs hw (by rw [tg_each hp]; rfl)) fun D σ H ⟨G, F, env, rs, h⟩ => ?_
  refine ⟨G, F, env, rs, (T.All_bind.mp h).mono fun r hr => ?_⟩
  intro F1 H1 v s1 rs1 c1
  obtain ⟨⟨d, e2⟩, k1, hk⟩ := T.All_opt.mp (T.All_bind.mp hr)
  obtain ⟨e3, k2, hk⟩ := T.All_opt.mp (T.All_bind.mp hk)
  obtain ⟨F2, s2, rs2, hn⟩ := c1.keep rs1 k1
  exact ⟨F2, d, rs2.fh, .inl hn, asgT_ok k2, fun σ' as => hk F2 H1 σ' (s1.trans s2) (as.rs k2 rs2)⟩
/-! several values, some one's own -/
def Pend (K : PySem.W.Frag) (G F H : Hp) (σ : L2.St) (env : Env) : List V → List EV → Prop
  | [], [] => True
  | v :: vs, e :: es => VOk K G F H v e ∧ (isOwn e = true → ∀ p, v = .ref p → (∀ i, ¬ Own env σ i p) ∧ ∀ (j : Nat) (e' : EV), es[j]? = some e' → isOwn e' = true → vs[j]? ≠ some (V.ref p)) ∧ Pend K G F H σ env vs es
  | _, _ => False
def tPs (K : PySem.W.Frag) (m : Env → T (List EV × Env)) : TA := fun σ H Q => ∃ G F env, Rs K G F σ H env ∧ (m env).All fun r => ∀ F' H' vs, Same F F' → Rs K G F' σ H' r.2 → Pend K G F' H' σ r.2 vs r.1 → Q vs H'
theorem Pend.less {K : PySem.W.Frag} {G G' F H : Hp} {σ : L2.St} {env : Env} (s : Same G G') : ∀ {vs : List V} {es : List EV}, Pend K G' F H σ env vs es → Pend K G F H σ env vs es
  | [], [], _ => trivial
  | [], _ :: _, h => h.elim
  | _ :: _, [], h => h.elim
  | v :: vs, e :: es, h => by
    obtain ⟨h1, h2, h3⟩ := h
    refine ⟨?_, h2, Pend.less s h3⟩
    cases ho : isOwn e with
    | false => exact h1.not_own ho (Same.refl _)
    | true =>
      obtain ⟨p, o, rfl, g1, g2, g3, g4⟩ := h1.own ho
      exact .of_own ho ⟨p, o, rfl, g1, g2, s.free g3, g4⟩
theorem Pend.ne {K : PySem.W.Frag} {G F H : Hp} {σ : L2.St} {env : Env} {p : Addr} {o : HO} (g : G p = some o) : ∀ {vs : List V} {es : List EV}, Pend K G F H σ env vs es → ∀ (j : Nat) (e' : EV), es[j]? = some e' → isOwn e' = true → vs[j]? ≠ some (V.ref p)
  | [], [], _, j, e', h, _ => by simp at h
  | [], _ :: _, h, _, _, _, _ => h.elim
  | _ :: _, [], h, _, _, _, _ => h.elim
  | v :: vs, e :: es, h, 0, e', he, ho => by
    simp at he
    subst he
    obtain ⟨q, o', rfl, g1, g2, g3, g4⟩ := h.1.own ho
    intro z
    simp at z
    subst z
    rw [g] at g3; cases g3
  | v :: vs, e :: es, h, j + 1, e', he, ho => by simpa using Pend.ne g h.2.2 j e' (by simpa using he) ho
theorem sp_nil : PA X [] (tPs X.K (evp Φ [])) := PA.imp pa_nil fun σ H Q ⟨G, F, env, rs, h⟩ => h F H [] (Same.refl _) rs trivial
theorem sp_cons {es : List Expr} {cs : List Ex} (hn : noStar l = true) (ha : PE X l (tEv X.K (ev Φ a))) (hs : PA X es (tPs X.K (evp Φ cs))) : PA X (l :: es) (tPs X.K (evp Φ (a :: cs))) := by
  refine PA.imp (pa_cons ha hs (star_of hn)) fun σ H Q ⟨G, F, env, rs, h⟩ => ?_
  refine ⟨G, F, env, rs, (T.All_bind.mp h).mono fun r hr => ?_⟩
  intro F1 H1 v s1 rs1 ro
  obtain ⟨⟨e, e2⟩, k, hk⟩ := T.All_opt.mp (T.All_bind.mp hr)
  obtain ⟨F2, s2, rs2, vk, no⟩ := ro.put rs1 k
  cases ho : isOwn e with
  | false =>
    refine ⟨G, F2, e2, rs2, (T.All_bind.mp hk).mono fun r2 hr2 => ?_⟩
    intro F3 H3 vs s3 rs3 pd
    exact hr2 F3 H3 (v :: vs) (s1.trans (s2.trans s3)) rs3 ⟨vk.not_own ho s3, fun z => by rw [ho] at z; (cases z), pd⟩
  | true =>
    obtain ⟨p, o, rfl, g1, g2, g3, g4⟩ := vk.own ho
    have rf := rs2.frame g1 g2 g3 (no ho p rfl)
    refine ⟨_, F2, e2, rf, (T.All_bind.mp hk).mono fun r2 hr2 => ?_⟩
    intro F3 H3 vs s3 rs3 pd
    have sG : Same G (upd G p o) := same_new g3
    have gp : H3 p = some o := rs3.gh _ _ upd_same
    have fp : F3 p = none := rs3.gf _ _ upd_same
    refine hr2 F3 H3 (.ref p :: vs) (s1.trans (s2.trans s3)) (rs3.less sG) ⟨.of_own ho ⟨p, o, rfl, gp, fp, g3, g4.mono s3⟩, fun _ p' e' => ?_, pd.less sG⟩
    cases e'
    refine ⟨fun i w => ?_, pd.ne upd_same⟩
    obtain ⟨_, _, _, _, _, _, g, _⟩ := w.slot rs3
    rw [upd_same] at g; cases g
theorem Own.setV {env : Env} {σ : L2.St} {i j : Nat} {p : Addr} {e : EV} {v : V} (w : Own (env.set i e) (σ.set i (some v)) j p) (hl : env.length = σ.length) : (j = i ∧ isOwn e = true ∧ v = .ref p) ∨ (j ≠ i ∧ Own env σ j p) := by
  by_cases hj : j = i
  · subst hj
    obtain ⟨⟨x, hx, ho⟩, hs⟩ := w
    by_cases hi : j < env.length
    · rw [List.getElem?_set_self hi] at hx
      rw [List.getElem?_set_self (by omega)] at hs
      cases hx; cases hs
      exact .inl ⟨rfl, ho, rfl⟩
    · rw [List.getElem?_eq_none (by simpa using hi)] at hx; cases hx
  · refine .inr ⟨hj, ?_⟩
    obtain ⟨⟨x, hx, ho⟩, hs⟩ := w
    rw [List.getElem?_set_ne (Ne.symm hj)] at hx hs
    exact ⟨⟨x, hx, ho⟩, hs⟩
theorem setAll_ok {K : PySem.W.Frag} {G F H : Hp} : ∀ {is : List Nat} {vs : List V} {es : List EV} {σ : L2.St} {env : Env}, Rs K G F σ H env → Pend K G F H σ env vs es → is.length = es.length → Rs K G F ((is.zip vs).foldl (fun σ p => σ.set p.1 (some p.2)) σ) H (setAll env is es)
  | [], [], [], σ, env, rs, _, _ => rs
  | [], _ :: _, [], σ, env, rs, h, _ => h.elim
  | [], _, _ :: _, σ, env, rs, _, h => by cases h
  | _ :: _, _, [], σ, env, rs, _, h => by cases h
  | i :: is, [], _ :: _, σ, env, rs, h, _ => h.elim
  | i :: is, v :: vs, e :: es, σ, env, rs, h, hl => by
    obtain ⟨h1, h2, h3⟩ := h
    have rs1 := rs.storeA h1 (fun ho p hp => (h2 ho p hp).1) i
    refine setAll_ok (is := is) rs1 ?_ (Nat.succ.inj hl)
    -- the rest is still pending
    have key : ∀ {ws : List V} {fs : List EV}, Pend K G F H σ env ws fs → (isOwn e = true → ∀ p, v = .ref p → ∀ (j : Nat) (e' : EV), fs[j]? = some e' → isOwn e' = true → ws[j]? ≠ some (V.ref p)) → Pend K G F H (σ.set i (some v)) (env.set i e) ws fs := by
      intro ws
      induction ws with
      | nil => intro fs hp _; cases fs with
        | nil => trivial
        | cons _ _ => exact hp.elim
      | cons w ws ih => intro fs hp hne; cases fs with
        | nil => exact hp.elim
        | cons f fs =>
          obtain ⟨q1, q2, q3⟩ := hp
          refine ⟨q1, fun ho p hp' => ⟨fun j wj => ?_, (q2 ho p hp').2⟩, ih q3 fun ho p hp' j e' he' ho' => by simpa using hne ho p hp' (j + 1) e' (by simpa using he') ho'⟩
          rcases wj.setV rs.len with ⟨rfl, ho2, rfl⟩ | ⟨_, wj⟩
          · exact hne ho2 p rfl 0 f rfl ho (by simp [hp'])
          · exact (q2 ho p hp').1 j wj
    exact key h3 fun ho p hp => (h2 ho p hp).2
theorem Pend.two {K : PySem.W.Frag} {G F H : Hp} {σ : L2.St} {env : Env} {vs : List V} {es : List EV} (h : Pend K G F H σ env vs es) : vs.length = es.length := by
  induction vs generalizing es with
  | nil => cases es with
    | nil => rfl
    | cons _ _ => exact h.elim
  | cons v vs ih => cases es with
    | nil => exact h.elim
    | cons e es => exact congrArg Nat.succ (ih h.2.2)
theorem len_two {α : Type} : ∀ {l : List α}, l.length = 2 → ∃ a b, l = [a, b]
  | [a, b], _ => ⟨a, b, rfl⟩
theorem len_three {α : Type} : ∀ {l : List α}, l.length = 3 → ∃ a b c, l = [a, b, c]
  | [a, b, c], _ => ⟨a, b, c, rfl⟩
theorem sx_par2 {i j : Nat} {x y : Str} {l1 l2 : Expr} {cs : List Ex} {px py pt : Pos} {kt k2 pt2} (c : CxC X) (hN : X.N.Nodup) (hi : X.N[i]? = some x) (hj : X.N[j]? = some y) (hij : i ≠ j)
    (hx : X.env.scope.names.lookup x = some .local) (hy : X.env.scope.names.lookup y = some .local) (ha : PA X [l1, l2] (tPs X.K (evp Φ cs)))
    (hw : swappedStores [.Tuple [.Name x px, .Name y py] kt pt] (.Tuple [l1, l2] k2 pt2) X.env = pure (some [x, y])) :
    PS X (.Assign [.Tuple [.Name x px, .Name y py] kt pt] (.Tuple [l1, l2] k2 pt2) pos) (tSt X.K (ex Φ (.par [i, j] cs))) := by
  refine PS.imp (ps_par c.hc hN hi hj hij hx hy ha hw rfl) fun D σ H ⟨G, F, env, rs, h⟩ => ?_
  refine ⟨G, F, env, rs, (T.All_bind.mp h).mono fun r hr => ?_⟩
  intro F1 H1 vs s1 rs1 pd
  obtain ⟨es, e2⟩ := r
  simp only at hr
  split at hr
  case isFalse => exact hr.elim
  rename_i hl
  have hl2 := pd.two
  obtain ⟨v, w, rfl⟩ := len_two (hl2.trans hl.symm)
  exact ⟨v, w, rfl, hr F1 H1 _ s1 (setAll_ok (is := [i, j]) rs1 pd hl)⟩
theorem sx_par3 {i j k : Nat} {x y z : Str} {l1 l2 l3 : Expr} {cs : List Ex} {px py pz pt : Pos} {kt k2 pt2} (c : CxC X) (hN : X.N.Nodup) (hi : X.N[i]? = some x) (hj : X.N[j]? = some y) (hk : X.N[k]? = some z) (hij : i ≠ j) (hik : i ≠ k) (hjk : j ≠ k)
    (hx : X.env.scope.names.lookup x = some .local) (hy : X.env.scope.names.lookup y = some .local) (hz : X.env.scope.names.lookup z = some .local) (ha : PA X [l1, l2, l3] (tPs X.K (evp Φ cs)))
    (hw : swappedStores [.Tuple [.Name x px, .Name y py, .Name z pz] kt pt] (.Tuple [l1, l2, l3] k2 pt2) X.env = pure (some [x, y, z])) :
    PS X (.Assign [.Tuple [.Name x px, .Name y py, .Name z pz] kt pt] (.Tuple [l1, l2, l3] k2 pt2) pos) (tSt X.K (ex Φ (.par [i, j, k] cs))) := by
  refine PS.imp (ps_par3 c.hc hN hi hj hk hij hik hjk hx hy hz ha hw rfl) fun D σ H ⟨G, F, env, rs, h⟩ => ?_
  refine ⟨G, F, env, rs, (T.All_bind.mp h).mono fun r hr => ?_⟩
  intro F1 H1 vs s1 rs1 pd
  obtain ⟨es, e2⟩ := r
  simp only at hr
  split at hr
  case isFalse => exact hr.elim
  rename_i hl
  have hl2 := pd.two
  obtain ⟨u, v, w, rfl⟩ := len_three (hl2.trans hl.symm)
  exact ⟨u, v, w, rfl, hr F1 H1 _ s1 (setAll_ok (is := [i, j, k]) rs1 pd hl)⟩
/-! small ones -/
theorem sx_pass : PS X (.Pass pos) (tSt X.K (ex Φ .pass)) := PS.imp ps_pass fun D σ H ⟨G, F, env, rs, h⟩ => h F H σ (Same.refl _) rs
theorem sx_brk : PS X (.Break pos) (tSt X.K (ex Φ .brk)) := PS.imp ps_break fun D σ H ⟨G, F, env, rs, h⟩ => h F H σ (Same.refl _) rs
theorem sx_never {st : Stmt} : PS X st (tSt X.K (ex Φ .rais)) := PS.imp ps_never fun D σ H ⟨G, F, env, rs, h⟩ => h.elim
theorem sx_doc {x j p} : PS X (.Expr (.Constant (.str x) j p) pos) (tSt X.K (ex Φ .pass)) := PS.imp ps_doc fun D σ H ⟨G, F, env, rs, h⟩ => h F H σ (Same.refl _) rs
theorem sx_xpr (hs : swapsWith l none pos.line X.env = pure false) (ha : PE X l (tEv X.K (ev Φ a))) : PS X (.Expr l pos) (tSt X.K (ex Φ (.xpr a))) := by
  refine PS.imp (ps_expr ha hs) fun D σ H ⟨G, F, env, rs, h⟩ => ?_
  refine ⟨G, F, env, rs, (T.All_bind.mp h).mono fun r hr => ?_⟩
  intro F1 H1 v s1 rs1 ro
  exact hr F1 H1 σ s1 rs1
theorem sx_retN : PS X (.Return none pos) (tSt X.K (ex Φ .retN)) := PS.imp ps_retN fun D σ H ⟨G, F, env, rs, h⟩ => h F H σ (Same.refl _) rs .non .non
theorem sx_ret (ha : PE X l (tEv X.K (ev Φ a))) : PS X (.Return (some l) pos) (tSt X.K (ex Φ (.ret a))) := by
  refine PS.imp (ps_ret ha) fun D σ H ⟨G, F, env, rs, h⟩ => ?_
  refine ⟨G, F, env, rs, (T.All_bind.mp h).mono fun r hr => ?_⟩
  intro F1 H1 v s1 rs1 ro
  obtain ⟨e, k, hk⟩ := T.All_opt.mp (T.All_bind.mp hr)
  refine hk F1 H1 σ s1 rs1 v ?_
  rcases ro with ⟨j, hrf, hj⟩ | ⟨h1, h2, h3⟩
  · obtain ⟨rr, re⟩ := r
    simp only at hrf k rs1
    subst hrf
    have key : get re j = e ∧ e ≠ .un := by
      simp only [R.back] at k
      cases z : get re j <;> rw [z] at k <;> first | (cases k; exact ⟨rfl, fun w => by cases w⟩) | cases k
    obtain ⟨v', hv, q⟩ := rs1.at_ j e (get_of key.1 key.2) key.2
    rw [hj] at hv; cases hv
    exact q
  · obtain ⟨rr, re⟩ := r
    cases rr <;> first | (simp [R.back] at k; done) | (cases k; exact h2) | (simp [isRf] at h1; done)
theorem sx_ite {c : Ex} {ce : Expr} {sa sb : List Stm} {as bs : List Stmt} (hc : PT X ce (tTv X.K (ev Φ c))) (ha : PSs X as (tSt X.K (exs Φ sa))) (hb : PSs X bs (tSt X.K (exs Φ sb))) : PS X (.If ce as bs pos) (tSt X.K (ex Φ (.ite c sa sb))) := by
  refine PS.imp (ps_if hc ha hb) fun D σ H ⟨G, F, env, rs, h⟩ => ?_
  refine ⟨G, F, env, rs, (T.All_bind.mp h).mono fun r hr => ?_⟩
  obtain ⟨t, e1⟩ := r
  intro F1 H1 s1 rs1
  have mono : ∀ {m : T Fl}, m.All (fun r => ∀ F' H' σ', Same F F' → match r with
    | .next e => Rs X.K G F' σ' H' e → D.nx σ' H'
    | .brk e => Rs X.K G F' σ' H' e → D.bk σ' H'
    | .ret v e => Rs X.K G F' σ' H' e → ∀ x, VOk X.K G F' H' x v → D.rt x H') → m.All (fun r => ∀ F' H' σ', Same F1 F' → match r with
    | .next e => Rs X.K G F' σ' H' e → D.nx σ' H'
    | .brk e => Rs X.K G F' σ' H' e → D.bk σ' H'
    | .ret v e => Rs X.K G F' σ' H' e → ∀ x, VOk X.K G F' H' x v → D.rt x H') := fun h => h.mono fun r hr F2 H2 σ2 s2 => hr F2 H2 σ2 (s1.trans s2)
  cases t with
  | true =>
    simp only [if_true] at hr ⊢
    exact ⟨G, F1, e1, rs1, mono hr⟩
  | false =>
    simp only [Bool.false_eq_true, if_false] at hr ⊢
    exact ⟨G, F1, e1, rs1, mono hr⟩
theorem sxs_nil : PSs X [] (tSt X.K (exs Φ [])) := PSs.imp pss_nil fun D σ H ⟨G, F, env, rs, h⟩ => h F H σ (Same.refl _) rs
theorem sxs_cons {st : Stmt} {rest : List Stmt} {sm : Stm} {ss : List Stm} (h1 : PS X st (tSt X.K (ex Φ sm))) (h2 : PSs X rest (tSt X.K (exs Φ ss))) : PSs X (st :: rest) (tSt X.K (exs Φ (sm :: ss))) := by
  refine PSs.imp (pss_cons h1 h2) fun D σ H ⟨G, F, env, rs, h⟩ => ?_
  refine ⟨G, F, env, rs, (T.All_bind.mp h).mono fun r hr => ?_⟩
  intro F1 H1 σ1 s1
  cases r with
  | next e => exact fun rs1 => ⟨G, F1, e, rs1, hr.mono fun r hr F2 H2 σ2 s2 => hr F2 H2 σ2 (s1.trans s2)⟩
  | brk e => exact hr F1 H1 σ1 s1
  | ret v e => exact hr F1 H1 σ1 s1
end
end Ev

namespace Ev
open PySem PySem.Spec PyProof.Rows L2
/-! Ev15: loops, stores into lists -/
section
variable {X : Cx} {Φ : Phi} {pos : Pos} {l : Expr} {a : Ex}
/-- what a statement's end is to be -/
def Fin (K : PySem.W.Frag) (G F : Hp) (D : Ends) (r : Fl) : Prop := ∀ F' H' σ', Same F F' → match r with
    | .next e => Rs K G F' σ' H' e → D.nx σ' H'
    | .brk e => Rs K G F' σ' H' e → D.bk σ' H'
    | .ret v e => Rs K G F' σ' H' e → ∀ x, VOk K G F' H' x v → D.rt x H'
theorem Fin.mono {K : PySem.W.Frag} {G F F' : Hp} {D : Ends} {r : Fl} (h : Fin K G F D r) (s : Same F F') : Fin K G F' D r := fun F2 H2 σ2 s2 => h F2 H2 σ2 (s.trans s2)
theorem sx_whl {c : Ex} {ce : Expr} {sb : List Stm} {bs : List Stmt} (hp : PassesOwn (model X.prog X.w) X.A X.env X.xe) (hc : PT X ce (tTv X.K (ev Φ c))) (hb : PSs X bs (tSt X.K (exs Φ sb))) : PS X (.While ce bs [] pos) (tSt X.K (ex Φ (.whl c sb))) := by
  refine PS.imp (ps_while hp hc hb) fun D σ H ⟨G, F, env, rs, h⟩ => ?_
  have h : (whlL (fun e => ev Φ c e >>= tst) (fun e => exs Φ sb e) WF env).All (Fin X.K G F D) := h
  refine ⟨fun m σ H => ∃ F1 e, Same F F1 ∧ Rs X.K G F1 σ H e ∧ (whlL (fun e => ev Φ c e >>= tst) (fun e => exs Φ sb e) m e).All (Fin X.K G F D), ⟨WF, F, env, Same.refl _, rs, h⟩, ?_⟩
  rintro m σ1 H1 ⟨F1, e, s1, rs1, hw⟩
  cases m with
  | zero => exact hw.elim
  | succ m =>
    have hw : (ev Φ c e >>= tst >>= fun (t, e1) => if t then exs Φ sb e1 >>= (fun
    | .next e => whlL (fun e => ev Φ c e >>= tst) (fun e => exs Φ sb e) m e
    | .brk e => .ret (.next e)
    | .ret v e => .ret (.ret v e)) else .ret (.next e1)).All (Fin X.K G F D) := hw
    refine ⟨G, F1, e, rs1, (T.All_bind.mp hw).mono fun r hr => ?_⟩
    obtain ⟨t, e1⟩ := r
    intro F2 H2 s2 rs2
    cases t with
    | true =>
      simp only [if_true] at hr ⊢
      refine ⟨fun σ' H' => ∃ F1 e, Same F F1 ∧ Rs X.K G F1 σ' H' e ∧ (whlL (fun e => ev Φ c e >>= tst) (fun e => exs Φ sb e) m e).All (Fin X.K G F D), fun σ' H' h => ⟨m, Nat.lt_succ_self m, h⟩, G, F2, e1, rs2, (T.All_bind.mp hr).mono fun r3 hr3 => ?_⟩
      intro F3 H3 σ3 s3
      cases r3 with
      | next e3 => exact fun rs3 => ⟨F3, e3, s1.trans (s2.trans s3), rs3, hr3⟩
      | brk e3 => exact fun rs3 => (show Fin X.K G F D (.next e3) from hr3) F3 H3 σ3 (s1.trans (s2.trans s3)) rs3
      | ret v e => exact (show Fin X.K G F D (.ret v e) from hr3) F3 H3 σ3 (s1.trans (s2.trans s3))
    | false =>
      simp only [Bool.false_eq_true, if_false] at hr ⊢
      exact (show Fin X.K G F D (.next e1) from hr) F2 H2 σ1 (s1.trans s2) rs2
theorem sx_for {tge iter : Expr} {w : List Nat} {tg : Tg} {src : Sr} {sb : List Stm} {bs : List Stmt} (c : CxC X) (hp : PassesOwn (model X.prog X.w) X.A X.env X.xe) (hi : PI X tge iter (tSrc X.K Φ src)) (hen : isPair src = true → isTp tg = true) (hg : PG X tge (gT X.K tg)) (hb : PSs X bs (tSt X.K (exs Φ sb)))
    (hs : ∀ x, foldedSetIterable iter X.env x = pure x) : PS X (.For tge iter bs [] pos) (tSt X.K (ex Φ (.forS w tg src sb))) := by
  refine PS.imp (ps_for hp c.hc hi hg hb hs) fun D σ H ⟨G, F, env, rs, h⟩ => ?_
  simp only [ex] at h
  split at h
  case isTrue => exact h.elim
  rename_i hlend
  refine ⟨G, F, env, rs, (T.All_bind.mp h).mono fun r hr => ?_⟩
  intro F1 H1 J B s1 rs1 bo so
  obtain ⟨ds, e1⟩ := r
  have hB : B = F1 := by cases src <;> first | exact bo | exact absurd rfl hlend
  subst hB
  have hr : (forL (fun d e => T.opt (asgT tg d (wipe w e)) >>= fun e1 => exs Φ sb e1) ds e1).All fun r => Fin X.K G F D (match r with | .next e => .next e | .brk e => .next e | .ret v e => .ret v e) := (T.All_bind.mp hr).mono fun r hr => by
    cases r <;> exact hr
  refine ⟨fun i m σ H => ∃ F' e, m = ds.length - i ∧ i ≤ ds.length ∧ Same B F' ∧ Rs X.K G F' σ H e ∧ (forL (fun d e => T.opt (asgT tg d (wipe w e)) >>= fun e1 => exs Φ sb e1) (ds.drop i) e).All fun r => Fin X.K G F D (match r with | .next e => .next e | .brk e => .next e | .ret v e => .ret v e),
    ⟨ds.length - 0, B, e1, rfl, Nat.zero_le _, Same.refl _, rs1, hr⟩, ?_⟩
  rintro i m σ2 H2 ⟨F2, e, rfl, hi', s2, rs2, hw⟩
  have sB : Same B H2 := s2.trans rs2.fh
  by_cases hlt : i < ds.length
  · rw [List.drop_eq_getElem_cons hlt] at hw
    refine .inr ⟨so.go i H2 sB hlt, fun σ' H' => ∃ F' e, i + 1 ≤ ds.length ∧ Same B F' ∧ Rs X.K G F' σ' H' e ∧ (forL (fun d e => T.opt (asgT tg d (wipe w e)) >>= fun e1 => exs Φ sb e1) (ds.drop (i + 1)) e).All fun r => Fin X.K G F D (match r with | .next e => .next e | .brk e => .next e | .ret v e => .ret v e), ?_, ?_⟩
    · rintro σ' H' ⟨F', e, h1, h2, h3, h4⟩
      exact ⟨ds.length - (i + 1), by omega, F', e, rfl, h1, h2, h3, h4⟩
    · intro x H' y
      have item : Rs X.K G F2 σ2 H' (wipe w e) ∧ ItD X.K F2 H' tg x ds[i] := by
        rcases so.yld i H2 x H' ds[i] sB (List.getElem?_eq_getElem hlt) y with ⟨rfl, hx⟩ | ⟨T, vs, es, hpr, rfl, hd', hT, rfl, hx⟩
        · exact ⟨rs2.wiped w, .inl (hx F2 s2)⟩
        · exact ⟨(rs2.alloc hT).wiped w, .inr ⟨hen hpr, T, vs, es, rfl, hd', .inl (.inl upd_same), hx F2 s2⟩⟩
      obtain ⟨rs3, hx⟩ := item
      have hw := T.All_bind.mp hw
      obtain ⟨e2, k1, hw⟩ := T.All_opt.mp (T.All_bind.mp hw)
      refine ⟨F2, ds[i], rs3.fh, hx, asgT_ok k1, fun σ3 ha => ?_⟩
      refine ⟨G, F2, e2, ha.rs k1 rs3, hw.mono fun r4 hr4 => ?_⟩
      intro F4 H4 σ4 s4
      have sF : Same F F4 := s1.trans (s2.trans s4)
      cases r4 with
      | next e4 => exact fun rs4 => ⟨F4, e4, hlt, s2.trans s4, rs4, hr4⟩
      | brk e4 => exact fun rs4 => (show Fin X.K G F D (.next e4) from hr4) F4 H4 σ4 sF rs4
      | ret v e => exact (show Fin X.K G F D (.ret v e) from hr4) F4 H4 σ4 sF
  · have ei : i = ds.length := by omega
    subst ei
    rw [List.drop_length] at hw
    exact .inl ⟨so.stop _ H2 sB (Nat.le_refl _), (show Fin X.K G F D (.next e) from hw) F2 H2 σ2 (s1.trans s2) rs2⟩
/-! stores into lists -/
theorem setD_ok {K : PySem.W.Frag} {F : Hp} {vs : List V} {xs ys : List PyData} {k : Int} {d : PyData} {v : V} (a : DnAll K F vs xs) (h : Dn K F v d) (e : setD xs k d = some ys) : ∃ j, ixN vs.length k = some j ∧ DnAll K F (vs.set j v) ys := by
  unfold setD at e
  unfold ixN
  rw [a.length]
  split at e
  · rename_i h0
    split at e
    · rename_i h1
      cases e
      rw [if_pos h0, if_pos (by omega)]
      exact ⟨_, rfl, a.set _ h⟩
    · cases e
  · rename_i h0
    split at e
    · rename_i h1
      cases e
      rw [if_neg h0, if_pos h1]
      exact ⟨_, rfl, a.set _ h⟩
    · cases e
theorem set_step {K : PySem.W.Frag} {G F H : Hp} {σ : L2.St} {env : Env} {i : Nat} {p : Addr} {k : R} {kv v : V} {d : PyData} {ys : List PyData} (rs : Rs K G F σ H env) (hs : σ[i]? = some (some (.ref p))) (ck : COk K F σ kv k) (h : Dn K F v d) (e : setV (get env i) k d = some ys) :
    ∃ vs n j, kv = .int n ∧ H p = some (.lst vs) ∧ ixN vs.length n = some j ∧ Rs K G F σ (upd H p (.lst (vs.set j v))) (env.set i (.ow ys)) := by
  cases hx : get env i with
  | ow xs =>
    rw [hx] at e
    cases k with
    | sh dk =>
      cases dk with
      | int n =>
        simp only [setV] at e
        obtain ⟨p', vs, hs', hp, a⟩ := own_list rs hx
        rw [hs] at hs'; cases hs'
        obtain ⟨j, h1, h2⟩ := setD_ok a h e
        exact ⟨vs, n, j, (intR_ok ck rfl).2, hp, h1, rs.wrote hx hs h2⟩
      | _ => cases e
    | _ => cases e
  | _ => rw [hx] at e; cases k <;> cases e
theorem tcv_at {K : PySem.W.Frag} {m : Env → T (R × Env)} {G F H : Hp} {σ : L2.St} {env : Env} {Q : VK} (rs : Rs K G F σ H env) (h : (m env >>= calm).All fun r => ∀ F' H' v, Same F F' → Rs K G F' σ H' r.2 → COk K F' σ v r.1 → Q v H') : tCv K m σ H Q := ⟨G, F, env, rs, h⟩
/-- no slice -/
def noSl : Expr → Bool
  | .Slice .. => false
  | _ => true
theorem plainIx_of {i : Expr} (h : noSl i = true) : PlainIx i := by
  intro o v
  cases i <;> first | rfl | (simp [noSl] at h; done)
theorem sub_ha {o i : Expr} {pos : Pos} {env : PySem.Env} (h : noSl i = true) : ∀ v, assign (.Subscript o i pos) env v = (do
      let ov ← holding [v] (eval o env)
      let iv ← holding [v, ov] (eval i env)
      standAt pos
      holding [v, ov, iv] (setItem ov iv v)
      release [v, ov, iv] []) := by
  intro v
  cases i <;> first | rfl | (simp [noSl] at h; done)
theorem sx_seti {i : Nat} {x : Str} {p tpos : Pos} {j : Expr} {cj : Ex} (hsl : noSl j = true) (hN : X.N[i]? = some x) (hv : Vis X.env.scope x) (hd : (x == ("__debug__" : Str)) = false) (hcd : (x == ("__classdict__" : Str)) = false)
    (hs : swapsWithSole [.Subscript (.Name x p) j tpos] l pos.line X.env = pure false) (hw : swappedStores [.Subscript (.Name x p) j tpos] l X.env = pure none) (ha : PE X l (tEv X.K (ev Φ a))) (hj : PE X j (tEv X.K (ev Φ cj))) :
    PS X (.Assign [.Subscript (.Name x p) j tpos] l pos) (tSt X.K (ex Φ (.seti i cj a))) := by
  refine PS.imp (ps_asg (PE.c ha) (pg_sub (pe_var hN hv hd hcd) (PE.c hj) set_list (sub_ha hsl)) hs hw rfl) fun D σ H ⟨G, F, env, rs, h⟩ => ?_
  refine tcv_at rs ((T.All_bind.mp h).mono fun r hr => ?_)
  intro F1 H1 v s1 rs1 c1
  obtain ⟨⟨d, e2⟩, k1, hk⟩ := T.All_opt.mp (T.All_bind.mp hr)
  obtain ⟨F2, s2, rs2, hn⟩ := c1.keep rs1 k1
  simp only at hk
  split at hk
  case isFalse => exact hk.elim
  rename_i ho
  obtain ⟨q, hs', ty⟩ := recv rs2 ho
  refine ⟨.ref q, hs', tcv_at rs2 ((T.All_bind.mp hk).mono fun r3 hr3 => ?_)⟩
  intro F3 H3 kv s3 rs3 c3
  obtain ⟨ys, k2, hk⟩ := T.All_opt.mp (T.All_bind.mp hr3)
  obtain ⟨vs, n, jj, rfl, hp, h1, rs4⟩ := set_step rs3 hs' c3 (hn.mono s3) k2
  exact ⟨q, vs, n, jj, rfl, rfl, hp, h1, hk F3 _ σ (s1.trans (s2.trans s3)) rs4⟩
theorem sx_swp {i i' : Nat} {x x' : Str} {p p' tpos tpos' pt pt2 : Pos} {j j' l1 l2 : Expr} {cj cj' c1 c2 : Ex} {kt k2 : Nat} (c : CxC X) (hsl : noSl j = true) (hsl' : noSl j' = true) (hN : X.N[i]? = some x) (hv : Vis X.env.scope x) (hd : (x == ("__debug__" : Str)) = false) (hcd : (x == ("__classdict__" : Str)) = false)
    (hN' : X.N[i']? = some x') (hv' : Vis X.env.scope x') (hd' : (x' == ("__debug__" : Str)) = false) (hcd' : (x' == ("__classdict__" : Str)) = false)
    (hw : swappedStores [.Tuple [.Subscript (.Name x p) j tpos, .Subscript (.Name x' p') j' tpos'] kt pt] (.Tuple [l1, l2] k2 pt2) X.env = pure none) (ha : PA X [l1, l2] (tCvs X.K (evs Φ [c1, c2]))) (hj : PE X j (tEv X.K (ev Φ cj))) (hj' : PE X j' (tEv X.K (ev Φ cj'))) :
    PS X (.Assign [.Tuple [.Subscript (.Name x p) j tpos, .Subscript (.Name x' p') j' tpos'] kt pt] (.Tuple [l1, l2] k2 pt2) pos) (tSt X.K (ex Φ (.swp i cj i' cj' [c1, c2]))) := by
  refine PS.imp (ps_asg (pe_tupF ha) (pg_tup c.hc (pgs_cons (pg_sub (pe_var hN hv hd hcd) (PE.c hj) set_list (sub_ha hsl)) (pgs_cons (pg_sub (pe_var hN' hv' hd' hcd') (PE.c hj') set_list (sub_ha hsl')) pgs_nil rfl) rfl) rfl rfl) rfl hw rfl) fun D σ H ⟨G, F, env, rs, h⟩ => ?_
  refine ⟨G, F, env, rs, (T.All_bind.mp h).mono fun r hr => ?_⟩
  intro F1 H1 vs s1 rs1 cc
  obtain ⟨⟨ds, e1⟩, k1, hk⟩ := T.All_opt.mp (T.All_bind.mp hr)
  obtain ⟨F2, s2, rs2, hn⟩ := keeps_ok rs1 cc k1
  obtain ⟨⟨d, d'⟩, k2, hz⟩ := T.All_opt.mp (T.All_bind.mp hk)
  clear hk
  have hds : ds = [d, d'] := by
    match ds, k2 with
    | [_, _], rfl => rfl
  subst hds
  cases hn with
  | @cons v ws _ _ hn1 hn =>
  cases hn with
  | @cons w ws _ _ hn2 hn =>
    cases hn
    refine ⟨by rw [sizeLine_eq]; exact (by decide : 2 ≤ 16777216), fun tq o hT hoT => ?_⟩
    have rs3 : Rs X.K G F2 σ (upd H1 tq (.frz o (.tup [v, w]))) e1 := rs2.alloc hT
    simp only at hz
    split at hz
    case isFalse => exact hz.elim
    rename_i ho
    obtain ⟨q, hs', ty⟩ := recv rs3 ho
    refine ⟨tq, [v, w], rfl, .inl (.inr ⟨o, upd_same⟩), rfl, v, [w], rfl, .ref q, hs', tcv_at rs3 ((T.All_bind.mp hz).mono fun r4 hr4 => ?_)⟩
    intro F4 H4 kv s4 rs4 c4
    obtain ⟨ys, k3, hk⟩ := T.All_opt.mp (T.All_bind.mp hr4)
    obtain ⟨vs, n, jj, rfl, hp, h1, rs5⟩ := set_step rs4 hs' c4 (hn1.mono s4) k3
    refine ⟨q, vs, n, jj, rfl, rfl, hp, h1, ?_⟩
    split at hk
    case isFalse => exact hk.elim
    rename_i ho2
    obtain ⟨q2, hs2, ty2⟩ := recv rs5 ho2
    refine ⟨w, [], rfl, .ref q2, hs2, tcv_at rs5 ((T.All_bind.mp hk).mono fun r6 hr6 => ?_)⟩
    intro F6 H6 kv2 s6 rs6 c6
    obtain ⟨zs, k4, hk⟩ := T.All_opt.mp (T.All_bind.mp hr6)
    obtain ⟨vs2, n2, jj2, rfl, hp2, h2, rs7⟩ := set_step rs6 hs2 c6 (hn2.mono (s4.trans s6)) k4
    exact ⟨q2, vs2, n2, jj2, rfl, rfl, hp2, h2, rfl, hk F6 _ σ (s1.trans (s2.trans (s4.trans s6))) rs7⟩
theorem sx_sbn {i k : Nat} {x y : Str} {p p2 tpos pt : Pos} {j : Expr} {cj : Ex} {kt : Nat} (c : CxC X) (hsl : noSl j = true) (hN : X.N[i]? = some x) (hv : Vis X.env.scope x) (hd : (x == ("__debug__" : Str)) = false) (hcd : (x == ("__classdict__" : Str)) = false)
    (hn : X.N.Nodup) (hk : X.N[k]? = some y) (hx : Loc X.env.scope y) (hf : X.fn y = true ∨ X.env.scope.names.lookup y = some .local)
    (hs : swapsWithSole [.Tuple [.Subscript (.Name x p) j tpos, .Name y p2] kt pt] l pos.line X.env = pure false) (hw : swappedStores [.Tuple [.Subscript (.Name x p) j tpos, .Name y p2] kt pt] l X.env = pure none) (ha : PE X l (tEv X.K (ev Φ a))) (hj : PE X j (tEv X.K (ev Φ cj))) :
    PS X (.Assign [.Tuple [.Subscript (.Name x p) j tpos, .Name y p2] kt pt] l pos) (tSt X.K (ex Φ (.sbn i cj k a))) := by
  refine PS.imp (ps_asg (PE.c ha) (pg_tup c.hc (pgs_cons (pg_sub (pe_var hN hv hd hcd) (PE.c hj) set_list (sub_ha hsl)) (pgs_cons (pg_name hn hk hx hf) pgs_nil rfl) rfl) rfl rfl) hs hw rfl) fun D σ H ⟨G, F, env, rs, h⟩ => ?_
  refine tcv_at rs ((T.All_bind.mp h).mono fun r hr => ?_)
  intro F1 H1 v s1 rs1 c1
  obtain ⟨⟨x, e2⟩, k1, hk⟩ := T.All_opt.mp (T.All_bind.mp hr)
  obtain ⟨F2, s2, rs2, hn⟩ := c1.keep rs1 k1
  obtain ⟨⟨d, d'⟩, k2, hz⟩ := T.All_opt.mp (T.All_bind.mp hk)
  clear hk
  have hds : x = .tuple [d, d'] := by
    match x, k2 with
    | .tuple [_, _], rfl => rfl
  subst hds
  cases hn with
  | tup et hn =>
  cases hn with
  | @cons v ws _ _ hn1 hn =>
  cases hn with
  | @cons w ws _ _ hn2 hn =>
    cases hn
    simp only at hz
    split at hz
    case isFalse => exact hz.elim
    rename_i ho
    obtain ⟨q, hs', ty⟩ := recv rs2 ho
    refine ⟨_, [v, w], rfl, same_sqT rs2.fh et.sq, rfl, v, [w], rfl, .ref q, hs', tcv_at rs2 ((T.All_bind.mp hz).mono fun r4 hr4 => ?_)⟩
    intro F4 H4 kv s4 rs4 c4
    obtain ⟨ys, k3, hk⟩ := T.All_opt.mp (T.All_bind.mp hr4)
    obtain ⟨vs, n, jj, rfl, hp, h1, rs5⟩ := set_step rs4 hs' c4 (hn1.mono s4) k3
    exact ⟨q, vs, n, jj, rfl, rfl, hp, h1, w, [], rfl, rfl, hk F4 _ _ (s1.trans (s2.trans s4)) (rs5.put k (hn2.mono s4))⟩
end
end Ev

namespace Ev
open PySem PySem.Spec PyProof.Rows L2
/-! EvD: dicts -/
theorem keyEq_keyD (a b : Key) : keyEq (keyD a) (keyD b) = decide (a = b) := by
  cases a <;> cases b <;> simp [keyD, keyEq]
theorem isKey_ok {d : PyData} (h : isKey d = true) : ∃ k : Key, d = keyD k := by
  cases d <;> first | exact ⟨.inl _, rfl⟩ | exact ⟨.inr _, rfl⟩ | cases h
section
variable {K : PySem.W.Frag} {G F H : Hp} {σ : L2.St} {env : Env} {i : Nat} {kv kw : List (Key × V)} {kvs more : List (PyData × PyData)} {v : V} {d : PyData} {k : Key} {p : Addr} {Q : VK}
theorem Dn.key (h : Dn K F v (keyD k)) : v = kV k := by
  cases k with
  | inl i => exact h.int_inv
  | inr x => exact h.str_inv
theorem DcP.any (h : DcP K F kv kvs) (k : Key) : (kv.any fun x => decide (x.1 = k)) = kvs.any fun q => keyEq q.1 (keyD k) := by
  induction h with
  | nil => rfl
  | cons a _ ih =>
    rw [List.any_cons, List.any_cons, ih, ← a.1, keyEq_keyD]
theorem DcP.val (h : DcP K F kv kvs) (k : Key) : (valV kv k = none ∧ valK kvs (keyD k) = none) ∨ ∃ v d, valV kv k = some v ∧ valK kvs (keyD k) = some d ∧ Dn K F v d := by
  induction h with
  | nil => exact .inl ⟨rfl, rfl⟩
  | @cons x q xs qs a _ ih =>
    have e := keyEq_keyD x.1 k
    rw [a.1] at e
    by_cases hk : x.1 = k
    · refine .inr ⟨x.2, q.2, valV_pos hk, ?_, a.2⟩
      unfold valK
      rw [List.find?_cons, e, decide_eq_true hk]
      rfl
    · rw [valV_neg hk]
      have e2 : valK (q :: qs) (keyD k) = valK qs (keyD k) := by
        unfold valK
        rw [List.find?_cons, e, decide_eq_false hk]
      rw [e2]
      exact ih
theorem DcP.repl (h : DcP K F kv kvs) (k : Key) (a : Dn K F v d) : DcP K F (kv.map (fun x => if x.1 = k then (x.1, v) else x)) (kvs.map (fun q => if keyEq q.1 (keyD k) then (q.1, d) else q)) := by
  induction h with
  | nil => exact .nil
  | @cons x q xs qs b _ ih =>
    refine .cons ?_ ih
    have e := keyEq_keyD x.1 k
    rw [b.1] at e
    dsimp only
    by_cases hk : x.1 = k
    · rw [if_pos hk, if_pos (by rw [e]; exact decide_eq_true hk)]
      exact ⟨b.1, a⟩
    · rw [if_neg hk, if_neg (by rw [e, decide_eq_false hk]; decide)]
      exact b
theorem DcP.put (h : DcP K F kv kvs) (k : Key) (a : Dn K F v d) : DcP K F (putK kv k v) (dPut kvs (keyD k) d) := by
  unfold putK dPut
  rw [h.any k]
  split
  · exact h.repl k a
  · exact paired_append h (Paired.cons ⟨rfl, a⟩ Paired.nil)
theorem DcP.merge (h : DcP K F kw more) : ∀ {kv : List (Key × V)} {kvs : List (PyData × PyData)}, DcP K F kv kvs → DcP K F (mergeK kv kw) (dMerge kvs more) := by
  induction h with
  | nil => exact fun g => g
  | @cons x q xs qs a _ ih =>
    intro kv kvs g
    show DcP K F (mergeK (putK kv x.1 x.2) xs) (dMerge (dPut kvs q.1 q.2) qs)
    rw [← a.1]
    exact ih (g.put x.1 a.2)
theorem DcP.length (h : DcP K F kv kvs) : kv.length = kvs.length := paired_len h
/-- a dict that slot i holds -/
theorem dc_at (rs : Rs K G F σ H env) (h : dcOf (get env i) = some kvs) : ∃ p kv, σ[i]? = some (some (.ref p)) ∧ H p = some (.dK kv) ∧ DcP K F kv kvs := by
  cases q : get env i with
  | od xs =>
    rw [q] at h
    cases h
    obtain ⟨p, o, hs, w, g1, g2, g3, g4⟩ := rs.own_at (get_of q (by intro z; cases z)) rfl
    obtain ⟨kv, rfl, pr⟩ := (show DcOk K F o kvs from g4)
    exact ⟨p, kv, hs, g1, pr⟩
  | sd xs =>
    rw [q] at h
    cases h
    obtain ⟨v, hv, p, o, rfl, hp, kv, rfl, pr⟩ := rs.at_ i _ (get_of q (by intro z; cases z)) (by intro z; cases z)
    exact ⟨p, kv, hv, rs.fh _ _ hp, pr⟩
  | _ => rw [q] at h; cases h
theorem od_at (rs : Rs K G F σ H env) (h : odOf (get env i) = some kvs) : get env i = .od kvs ∧ ∃ p kv, σ[i]? = some (some (.ref p)) ∧ H p = some (.dK kv) ∧ F p = none ∧ DcP K F kv kvs := by
  cases q : get env i with
  | od xs =>
    rw [q] at h
    cases h
    obtain ⟨p, o, hs, w, g1, g2, g3, g4⟩ := rs.own_at (get_of q (by intro z; cases z)) rfl
    obtain ⟨kv, rfl, pr⟩ := (show DcOk K F o kvs from g4)
    exact ⟨rfl, p, kv, hs, g1, g2, pr⟩
  | _ => rw [q] at h; cases h
theorem dc_slot (rs : Rs K G F σ H env) (h : (dcOf (get env i)).isSome = true) : ∃ p, σ[i]? = some (some (.ref p)) := by
  obtain ⟨kvs, e⟩ := Option.isSome_iff_exists.mp h
  obtain ⟨p, _, hs, _⟩ := dc_at rs e
  exact ⟨p, hs⟩
theorem Rs.wroteD (rs : Rs K G F σ H env) (h : get env i = .od kvs) (hs : σ[i]? = some (some (.ref p))) (a : DcP K F kv more) : Rs K G F σ (upd H p (.dK kv)) (env.set i (.od more)) :=
  rs.write (get_of h (by intro z; cases z)) rfl rfl hs ⟨kv, rfl, a⟩
theorem Pst.newD (q : Pst K G F σ Q (.od kvs, env)) (rs : Rs K G F σ H env) (h : DcP K F kv kvs) (hp : H p = none) : Q (.ref p) (upd H p (.dK kv)) := by
  refine q F _ _ (Same.refl _) (rs.alloc hp) (.inr ⟨rfl, ⟨p, _, rfl, upd_same, rs.fh.free hp, rs.gh.free hp, kv, rfl, h⟩, fun _ p' e i w => ?_⟩)
  cases e
  obtain ⟨x, o, _, _, h1, _⟩ := w.slot rs
  rw [hp] at h1; cases h1
/-- what nobody owns may change -/
theorem Rs.scratch {o' : HO} (r : Rs K G F σ H env) (fp : F p = none) (gp : G p = none) (no : ∀ i, ¬ Own env σ i p) : Rs K G F σ (upd H p o') env := by
  refine ⟨r.len, fun b u e => ?_, fun b u e => ?_, r.gf, fun i e he hn => ?_, r.dis⟩
  · have : b ≠ p := by rintro rfl; rw [fp] at e; cases e
    rw [upd_ne this]; exact r.fh _ _ e
  · have : b ≠ p := by rintro rfl; rw [gp] at e; cases e
    rw [upd_ne this]; exact r.gh _ _ e
  · obtain ⟨v, hv, q⟩ := r.at_ i e he hn
    refine ⟨v, hv, ?_⟩
    cases ho : isOwn e with
    | false => exact q.not_own ho (Same.refl _)
    | true =>
      obtain ⟨p', o, rfl, h1, h2, h3, h4⟩ := q.own ho
      have : p' ≠ p := by rintro rfl; exact no i ⟨⟨e, he, ho⟩, hv⟩
      exact .of_own ho ⟨p', o, rfl, by rw [upd_ne this]; exact h1, h2, h3, h4⟩
theorem pairs_ok : ∀ {ds : List PyData} {vs : List V} {kvs : List (PyData × PyData)}, DnAll K F vs ds → pairsD ds = some kvs → ∃ (ps : List Addr) (kv : List (Key × V)), vs = ps.map V.ref ∧ Paired (fun p kv => SqT K F p [kV kv.1, kv.2]) ps kv ∧ DcP K F kv kvs
  | [], _, kvs, .nil, e => by cases e; exact ⟨[], [], rfl, .nil, .nil⟩
  | d :: ds, _, kvs, .cons a b, e => by
    cases d with
    | tuple ts =>
      cases a with
      | @tup p xs _ t al =>
        match ts, al, e with
        | [k, w], al, e =>
          have e : (if isKey k then (pairsD ds).map ((k, w) :: ·) else none) = some kvs := e
          split at e
          · rename_i ik
            simp only [Option.map_eq_some_iff] at e
            obtain ⟨r, e1, rfl⟩ := e
            obtain ⟨ps, kv, rfl, h1, h2⟩ := pairs_ok b e1
            obtain ⟨kk, rfl⟩ := isKey_ok ik
            cases al with
            | cons hk al2 => cases al2 with
              | cons hw al3 =>
                cases al3
                rw [hk.key] at t
                exact ⟨p :: ps, (kk, _) :: kv, rfl, .cons t.sq h1, .cons ⟨rfl, hw⟩ h2⟩
          · cases e
    | _ => exact absurd e (by simp [pairsD])
end
section
variable {X : Cx} {Φ : Phi} {apos cpos pos : Pos} {l r : Expr} {a e : Ex}
theorem se_dnew : PE X (.Dict [] [] pos) (tEv X.K (ev Φ .dnew)) := PE.imp pe_dnewK fun σ H Q ⟨G, F, env, rs, h⟩ p hp => Pst.newD (show Pst X.K G F σ Q (.od [], env) from h) rs .nil hp
theorem dinn_imp {K : PySem.W.Frag} {n : Bool} {i : Nat} {σ : L2.St} {H : Hp} {Q : VK} (h : tEv K (ev Φ (.dinn n a i)) σ H Q) : tCv K (ev Φ a) σ H fun y H1 => tVar i σ H1 fun x H2 => ∃ p o, x = .ref p ∧ DGet H2 p y o ∧ Q (.bl (n ^^ o.isSome)) H2 := by
  obtain ⟨G, F, env, rs, h⟩ := h
  refine ⟨G, F, env, rs, (T.All_bind.mp h).mono fun r hr => ?_⟩
  intro F1 H1 v s1 rs1 c1
  obtain ⟨⟨d, e2⟩, k1, hk⟩ := T.All_opt.mp (T.All_bind.mp hr)
  obtain ⟨kvs, k2, hk⟩ := T.All_opt.mp (T.All_bind.mp hk)
  obtain ⟨F2, s2, rs2, hn⟩ := c1.keep rs1 k1
  obtain ⟨p, kv, hs, hp, dp⟩ := dc_at rs2 k2
  split at hk
  · rename_i ik
    obtain ⟨kk, rfl⟩ := isKey_ok ik
    rw [hn.key]
    refine ⟨.ref p, hs, p, _, rfl, DGet.k hp, ?_⟩
    have e : (valK kvs (keyD kk)).isSome = (valV kv kk).isSome := by
      rcases dp.val kk with ⟨h1, h2⟩ | ⟨v, d, h1, h2, _⟩ <;> rw [h1, h2] <;> rfl
    rw [e] at hk
    exact Pst.sh ((show Pst K G F σ Q (.sh (.bool (n ^^ (valV kv kk).isSome)), e2) from hk).mono (s1.trans s2)) rs2 (.bl _)
  · exact hk.elim
theorem pc_dinnI {i : Nat} {x : Str} {p : Pos} (c : CxC X) (hN : X.N[i]? = some x) (hv : Vis X.env.scope x) (hd : (x == ("__debug__" : Str)) = false) (hcd : (x == ("__classdict__" : Str)) = false) (n : Bool) (ha : PE X l (tEv X.K (ev Φ a))) : PC X (pyCm (if n then .ntin else .inn)) l (.Name x p) (fun σ H Q => tCv X.K (ev Φ a) σ H fun y H1 => tVar i σ H1 fun x H2 => ∃ p o, x = .ref p ∧ DGet H2 p y o ∧ Q (.bl (n ^^ o.isSome)) H2) := by
  have hu : X.A.units + 1 < cLine := by have := c.hu; omega
  cases n with
  | false =>
    refine ⟨fun pins s σ H Q I h => (pc_din hu (PE.c ha) (pe_var hN hv hd hcd)).run pins s σ H Q I ?_⟩
    have e : ∀ o : Option V, (false ^^ o.isSome) = o.isSome := fun o => by cases o <;> rfl
    simp only [e] at h
    exact h
  | true =>
    refine ⟨fun pins s σ H Q I h => (pc_dnotin hu (PE.c ha) (pe_var hN hv hd hcd)).run pins s σ H Q I ?_⟩
    have e : ∀ o : Option V, (true ^^ o.isSome) = !o.isSome := fun o => by cases o <;> rfl
    simp only [e] at h
    exact h
theorem nobeh {op : CmpOp} {x : Str} {p : Pos} : behindInMarks op (.Name x p) = false := by cases op <;> rfl
theorem se_dinn {i : Nat} {x : Str} {p : Pos} (c : CxC X) (hN : X.N[i]? = some x) (hv : Vis X.env.scope x) (hd : (x == ("__debug__" : Str)) = false) (hcd : (x == ("__classdict__" : Str)) = false) (n : Bool) (ha : PE X l (tEv X.K (ev Φ a))) : PE X (.Compare l [pyCm (if n then .ntin else .inn)] [.Name x p] pos) (tEv X.K (ev Φ (.dinn n a i))) :=
  PE.imp (pe_cmp (pc_dinnI c hN hv hd hcd n ha) nobeh) fun σ H Q h => dinn_imp h
theorem te_dinn {i : Nat} {x : Str} {p : Pos} (c : CxC X) (hN : X.N[i]? = some x) (hv : Vis X.env.scope x) (hd : (x == ("__debug__" : Str)) = false) (hcd : (x == ("__classdict__" : Str)) = false) (n : Bool) (ha : PE X l (tEv X.K (ev Φ a))) : PT X (.Compare l [pyCm (if n then .ntin else .inn)] [.Name x p] pos) (tTv X.K (ev Φ (.dinn n a i))) := by
  refine PT.imp (pt_cmp (pc_dinnI c hN hv hd hcd n ha) nobeh) fun σ H Q ⟨G, F, env, rs, h⟩ => ?_
  refine dinn_imp (Q := fun x H' => ∃ k, x = .bl k ∧ Q k H') ⟨G, F, env, rs, (T.All_bind.mp h).mono fun r hr => ?_⟩
  intro F' H' v s rs' ro
  obtain ⟨c, rfl, q⟩ := tst_bool hr ro
  exact ⟨c, rfl, q F' H' s rs'⟩
theorem se_dget {i : Nat} {x : Str} {p : Pos} (c : CxC X) (hN : X.N[i]? = some x) (hv : Vis X.env.scope x) (hd : (x == ("__debug__" : Str)) = false) (hcd : (x == ("__classdict__" : Str)) = false) (hsl : NoSl r) (ha : PE X r (tEv X.K (ev Φ a))) : PE X (.Subscript (.Name x p) r pos) (tEv X.K (ev Φ (.dget i a))) := by
  have hu : X.A.units + 1 < cLine := by have := c.hu; omega
  refine PE.imp (pe_dget hu (pe_var hN hv hd hcd) (PE.c ha) hsl) fun σ H Q ⟨G, F, env, rs, h⟩ => ?_
  simp only [ev] at h
  split at h
  case isFalse => exact h.elim
  rename_i hdc
  obtain ⟨p0, hs⟩ := dc_slot rs hdc
  refine ⟨.ref p0, hs, G, F, env, rs, (T.All_bind.mp h).mono fun r hr => ?_⟩
  intro F1 H1 v s1 rs1 c1
  obtain ⟨⟨d, e2⟩, k1, hk⟩ := T.All_opt.mp (T.All_bind.mp hr)
  obtain ⟨kvs, k2, hk⟩ := T.All_opt.mp (T.All_bind.mp hk)
  obtain ⟨F2, s2, rs2, hn⟩ := c1.keep rs1 k1
  obtain ⟨p, kv, hs', hp, dp⟩ := dc_at rs2 k2
  rw [hs] at hs'; cases hs'
  split at hk
  · rename_i ik
    obtain ⟨kk, rfl⟩ := isKey_ok ik
    rw [hn.key]
    obtain ⟨w, k3, hk⟩ := T.All_opt.mp (T.All_bind.mp hk)
    rcases dp.val kk with ⟨h1, h2⟩ | ⟨u, d', h1, h2, h3⟩
    · rw [h2] at k3; cases k3
    · rw [h2] at k3; cases k3
      exact ⟨p0, u, rfl, by rw [← h1]; exact DGet.k hp, Pst.sh ((show Pst X.K G F σ Q (.sh w, e2) from hk).mono (s1.trans s2)) rs2 h3⟩
  · exact hk.elim
theorem boot_dict' : bootBuiltins "dict" = some (.type "dict") := by decide +kernel
theorem se_dof {p : Pos} (c : CxC X) (hg : Gl X "dict") (hm : X.mg "dict" = none) (he : noStar l = true) (ha : PE X l (tEv X.K (ev Φ a))) : PE X (.Call (.Name "dict" p) [l] [] pos) (tEv X.K (ev Φ (.dof a))) := by
  refine PE.imp (pe_callTy (call_dictP c.hc) hg hm boot_dict' (pa_cons (PE.c ha) pa_nil (star_of he)) (by decide) (by decide) (star_of he)) fun σ H Q ⟨G, F, env, rs, h⟩ => ?_
  refine ⟨G, F, env, rs, (T.All_bind.mp h).mono fun r hr => ?_⟩
  intro F1 H1 v s1 rs1 c1
  obtain ⟨d, k1, hk1⟩ := T.All_opt.mp (T.All_bind.mp hr)
  obtain ⟨ds, k2, hk2⟩ := T.All_opt.mp (T.All_bind.mp hk1)
  obtain ⟨kvs, k3, hk3⟩ := T.All_opt.mp (T.All_bind.mp hk2)
  have pk := c1.peek rs1 k1
  cases d with
  | list xs =>
    cases k2
    obtain ⟨p, vs, rfl, hp, al⟩ := pk.list
    obtain ⟨ps, kv, rfl, h1, h2⟩ := pairs_ok al k3
    refine ⟨p, ps, kv, rfl, .inl (.inl hp), L2.Paired.mapP h1 (fun a b q => same_sqT rs1.fh q), fun q hq => ?_⟩
    exact Pst.newD ((show Pst X.K G F σ Q (.od (dMerge [] kvs), r.2) from hk3).mono s1) rs1 (h2.merge .nil) hq
  | _ => cases k2
theorem sx_dput {i : Nat} {x : Str} {p pos' : Pos} {v : Expr} (c : CxC X) (hN : X.N[i]? = some x) (hv : Vis X.env.scope x) (hd : (x == ("__debug__" : Str)) = false) (hcd : (x == ("__classdict__" : Str)) = false) (hsw : swapsWith v (some (.Subscript (.Name x p) l pos')) pos.line X.env = pure false) (hval : PE X v (tEv X.K (ev Φ e))) (ha : PE X l (tEv X.K (ev Φ a))) :
    PS X (.Assign [.Subscript (.Name x p) l pos'] v pos) (tSt X.K (ex Φ (.dput i a e))) := by
  have hu : X.A.units + 1 < cLine := by have := c.hu; omega
  refine PS.imp (ps_dput hu (pe_var hN hv hd hcd) (PE.c ha) (PE.c hval) hsw) fun D σ H ⟨G, F, env, rs, h⟩ => ?_
  refine ⟨G, F, env, rs, (T.All_bind.mp h).mono fun r hr => ?_⟩
  intro F1 H1 v s1 rs1 c1
  obtain ⟨⟨d, e2⟩, k1, hk⟩ := T.All_opt.mp (T.All_bind.mp hr)
  obtain ⟨F2, s2, rs2, hn⟩ := c1.keep rs1 k1
  simp only at hk
  split at hk
  case isFalse => exact hk.elim
  rename_i ho
  obtain ⟨kvs0, h0⟩ := Option.isSome_iff_exists.mp ho
  obtain ⟨_, p0, kv0, hs, _⟩ := od_at rs2 h0
  refine ⟨.ref p0, hs, G, F2, e2, rs2, (T.All_bind.mp hk).mono fun r hr => ?_⟩
  intro F3 H3 y s3 rs3 c3
  obtain ⟨⟨kd, e4⟩, k3, hk⟩ := T.All_opt.mp (T.All_bind.mp hr)
  obtain ⟨kvs', k4, hk⟩ := T.All_opt.mp (T.All_bind.mp hk)
  obtain ⟨F4, s4, rs4, hn4⟩ := c3.keep rs3 k3
  simp only [dputV, Option.bind_eq_some_iff] at k4
  obtain ⟨kvs, k5, k6⟩ := k4
  obtain ⟨hget, p, kv, hs', hp, fp, dp⟩ := od_at rs4 k5
  rw [hs] at hs'; cases hs'
  split at k6
  · rename_i hb
    cases k6
    obtain ⟨kk, rfl⟩ := isKey_ok hb.2
    rw [hn4.key]
    refine ⟨p0, _, rfl, DPut.k hp ?_, ?_⟩
    · rw [dp.length]; exact lim_line' (Nat.le_of_lt hb.1)
    · exact hk F4 _ σ (s1.trans (s2.trans (s3.trans s4))) (rs4.wroteD hget hs (dp.put kk (hn.mono (s3.trans s4))))
  · cases k6
def rUpd : V → List V → Hp → VK → Prop := fun x xs H Q => ∃ (a b : Addr) (kv more : List (Key × V)), x = V.ref a ∧ xs = [V.ref b] ∧ a ≠ b ∧ H a = some (.dK kv) ∧ H b = some (.dK more) ∧ kv.length + more.length ≤ sizeLine ∧ Q .non (upd H a (.dK (mergeK kv more)))
theorem mt_dupdate : MtR X "dict.update" rUpd := by
  intro pins s σ H x xs v us Q I rx rxs ⟨a, b, kv, more, ex, exs, hab, ha, hb, hz, q⟩
  subst ex
  subst exs
  cases rx
  obtain ⟨u, rfl, ru⟩ := vals1 rxs
  cases ru
  obtain ⟨za, da, vs, rel, dd⟩ := dk_of I.hok ha
  obtain ⟨zb, db, ws, rel2, de⟩ := dk_of I.hok hb
  refine call_meetsIn PySem.F.slot_dict_update dd.typeIs PySem.F.entry_dict_update (PySem.F.args_dict_update_2 _ _) (meets_dict_update (mixKind X.prog X.w) a b hab db) ⟨vs, ws, dd, de, by rw [← rel.length, ← rel2.length]; exact hz, fun h' d1 d2 hs => ?_⟩
  have hl : (mergeK kv more).length ≤ sizeLine := Nat.le_trans (length_mergeK more kv) hz
  have he : ∃ q, h'.get? a = some q := let ⟨q, _, _, hq, _⟩ := d1; ⟨q, hq⟩
  exact ⟨.non, _, d_write I (by rw [ha]; exact True.intro) hs he (dk_new hl da (KV.merge rel2 rel) d1), rfl, q⟩
theorem sx_dupd {i : Nat} {x : Str} {p : Pos} (hN : X.N[i]? = some x) (hv : Vis X.env.scope x) (hd : (x == ("__debug__" : Str)) = false) (hcd : (x == ("__classdict__" : Str)) = false) (hline : (apos.endLine == cpos.line) = true) (he : noStar l = true) (ha : PE X l (tEv X.K (ev Φ e))) :
    PS X (.Expr (.Call (.Attribute (.Name x p) "update" apos) [l] [] cpos) pos) (tSt X.K (ex Φ (.dupd i e))) := by
  refine PS.imp (ps_expr (pe_bm (T := "dict") F.plainAttrs_dict F.slot_dict_update F.type_dict_update mt_dupdate (pe_var hN hv hd hcd) (pa_cons (PE.c ha) pa_nil (star_of he)) rfl (few_of (by simp [he]) (by simp)) hline (star_of he) (stars_of rfl)) rfl) fun D σ H ⟨G, F, env, rs, h⟩ => ?_
  simp only [ex] at h
  split at h
  case isFalse => exact h.elim
  rename_i ho
  obtain ⟨kvs0, h0⟩ := Option.isSome_iff_exists.mp ho
  obtain ⟨_, p0, kv0, hs, hp0, _⟩ := od_at rs h0
  refine ⟨.ref p0, hs, .inr (.inr (.inl ⟨rfl, .inl ⟨_, hp0⟩⟩)), G, F, env, rs, (T.All_bind.mp h).mono fun r hr => ?_⟩
  intro F1 H1 v s1 rs1 c1
  obtain ⟨more, k1, hk⟩ := T.All_opt.mp (T.All_bind.mp hr)
  obtain ⟨kvs', k2, hk⟩ := T.All_opt.mp (T.All_bind.mp hk)
  simp only [dupV, Option.bind_eq_some_iff] at k2
  obtain ⟨kvs, k3, k4⟩ := k2
  obtain ⟨hget, p, kv, hs', hp, fp, dp⟩ := od_at rs1 k3
  rw [hs] at hs'; cases hs'
  split at k4
  · rename_i hb
    cases k4
    obtain ⟨rr, re⟩ := r
    cases rr with
    | sd ms =>
      cases k1
      rcases c1 with ⟨j, e0, _⟩ | ⟨_, _, b, o, rfl, hb1, mv, rfl, mp⟩
      · cases e0
      · have hne : p0 ≠ b := by rintro rfl; rw [fp] at hb1; cases hb1
        refine ⟨p0, b, kv, mv, rfl, rfl, hne, hp, rs1.fh _ _ hb1, ?_, ?_⟩
        · rw [dp.length, mp.length]; exact Nat.le_of_lt (lim_line' (Nat.le_of_lt hb))
        · exact hk F1 _ σ s1 (rs1.wroteD hget hs (mp.merge dp))
    | _ => cases k1
  · cases k4
/-- a list goes from one slot to another -/
theorem sx_mov {i j : Nat} {x y : Str} {p q : Pos} (hnd : X.N.Nodup) (hN : X.N[i]? = some x) (hx : Loc X.env.scope x) (hf : X.fn x = true ∨ X.env.scope.names.lookup x = some .local) (hN2 : X.N[j]? = some y) (hv : Vis X.env.scope y) (hd : (y == ("__debug__" : Str)) = false) (hcd : (y == ("__classdict__" : Str)) = false)
    (hs : swapsWith (.Name y q) (some (.Name x p)) pos.line X.env = pure false) : PS X (.Assign [.Name x p] (.Name y q) pos) (tSt X.K (ex Φ (.mov i j))) := by
  refine PS.imp (ps_set hnd hN hx (pe_var hN2 hv hd hcd) hs hf) fun D σ H ⟨G, F, env, rs, h⟩ => ?_
  obtain ⟨xs, k1, hk⟩ := T.All_opt.mp (T.All_bind.mp h)
  cases e : get env j with
  | ow ys =>
    rw [e] at k1
    cases k1
    obtain ⟨p, o, hs, w, g1, g2, g3, g4⟩ := rs.own_at (get_of e (by intro z; cases z)) rfl
    have r1 : Rs X.K G F σ H (env.set j .un) := rs.retell (fun _ h => absurd rfl h) (fun h => by cases h)
    have no : ∀ k, ¬ Own (env.set j .un) σ k p := fun k w' => by
      by_cases hj : k = j
      · subst hj
        obtain ⟨⟨x, hx, hx2⟩, _⟩ := w'
        have hl : k < env.length := (List.getElem?_eq_some_iff.mp (get_of e (by intro z; cases z))).1
        rw [List.getElem?_set_self hl] at hx
        cases hx
        cases hx2
      · exact hj (rs.dis _ _ _ (own_set w' hj) w)
    exact ⟨.ref p, hs, hk F H _ (Same.refl _) (r1.storeA (.of_own rfl ⟨p, o, rfl, g1, g2, g3, g4⟩) (fun _ p' e' => by cases e'; exact no) i)⟩
  | _ => rw [e] at k1; cases k1
/-- f(..).append(c): a list of nobody's -/
theorem sx_tapp {o : Expr} {cst : Const} {ck : Nat} {cp : Pos} {v : V} {d : PyData} (hlit : PE X (.Constant cst ck cp) (tC v)) (hbase : attributeBase o "append" X.env (eval o X.env) = eval o X.env) (hline : (apos.endLine == cpos.line) = true) (ho : PE X o (tEv X.K (ev Φ e))) :
    PS X (.Expr (.Call (.Attribute o "append" apos) [.Constant cst ck cp] [] cpos) pos) (tSt X.K (ex Φ (.tapp e d))) := by
  refine PS.imp (ps_expr (pe_bm (T := "list") F.plainAttrs_list F.slot_list_append F.type_list_append mt_append ho (pa_cons hlit pa_nil (star_of rfl)) hbase (few_of (by simp [noStar]) (by simp)) hline (star_of rfl) (stars_of rfl)) rfl) fun D σ H ⟨G, F, env, rs, h⟩ => ?_
  refine ⟨G, F, env, rs, (T.All_bind.mp h).mono fun r hr => ?_⟩
  intro F1 H1 x s1 rs1 c1
  obtain ⟨xs, k1, hk⟩ := T.All_opt.mp (T.All_bind.mp hr)
  obtain ⟨rr, re⟩ := r
  cases rr with
  | ow ys =>
    cases k1
    simp only at hk
    split at hk
    · rename_i hl
      rcases c1 with ⟨j, e0, _⟩ | ⟨_, ⟨p, o, rfl, g1, g2, g3, g4⟩, no⟩
      · cases e0
      · cases o with
        | lst vs =>
          have al : DnAll X.K F1 vs xs := g4
          refine ⟨.inl ⟨rfl, vs, .inl (.inl g1)⟩, p, vs, v, rfl, rfl, g1, by rw [al.length]; exact lim_line' (Nat.le_of_lt hl), ?_⟩
          exact hk F1 _ σ s1 (rs1.scratch g2 g3 (no rfl p rfl))
        | _ => exact g4.elim
    · exact hk.elim
  | _ => cases k1
end
end Ev

namespace Ev
open PySem PySem.Spec PyProof.Rows L2
/-! EvF: a dict of functions, one of which is called -/
/-- what an expression gives is returned -/
theorem ret_imp {K : PySem.W.Frag} {m : T (R × Env)} {G F : Hp} {σ : L2.St} {D : Ends} (h : (m >>= fun (r, e2) => T.opt (r.back e2) >>= fun v => T.ret (Fl.ret v e2)).All fun r => ∀ F' H' σ', Same F F' → match r with
    | .next e => Rs K G F' σ' H' e → D.nx σ' H'
    | .brk e => Rs K G F' σ' H' e → D.bk σ' H'
    | .ret v e => Rs K G F' σ' H' e → ∀ x, VOk K G F' H' x v → D.rt x H') : m.All (Pst K G F σ D.rt) := by
  refine (T.All_bind.mp h).mono fun r hr => ?_
  intro F1 H1 v s1 rs1 ro
  obtain ⟨e, k, hk⟩ := T.All_opt.mp (T.All_bind.mp hr)
  refine hk F1 H1 σ s1 rs1 v ?_
  rcases ro with ⟨j, hrf, hj⟩ | ⟨h1, h2, h3⟩
  · obtain ⟨rr, re⟩ := r
    simp only at hrf k rs1
    subst hrf
    have key : get re j = e ∧ e ≠ .un := by
      simp only [R.back] at k
      cases z : get re j <;> rw [z] at k <;> first | (cases k; exact ⟨rfl, fun w => by cases w⟩) | cases k
    obtain ⟨v', hv, q⟩ := rs1.at_ j e (get_of key.1 key.2) key.2
    rw [hj] at hv; cases hv
    exact q
  · obtain ⟨rr, re⟩ := r
    cases rr <;> first | (simp [R.back] at k; done) | (cases k; exact h2) | (simp [isRf] at h1; done)
theorem VOk.less {K : PySem.W.Frag} {G G' F H : Hp} {v : V} {e : EV} (s : Same G G') (h : VOk K G' F H v e) : VOk K G F H v e := by
  cases ho : isOwn e with
  | false => exact h.not_own ho (Same.refl _)
  | true =>
    obtain ⟨p, o, rfl, h1, h2, h3, h4⟩ := h.own ho
    exact .of_own ho ⟨p, o, rfl, h1, h2, s.free h3, h4⟩
/-- a def that a value leads to -/
structure FnAt (X : Cx) (φ : List EV → T EV) (np : Nat) (ar : List Ag) (fa : Addr) : Prop where
  ex : ∃ (k : Nat) (fd : FuncData) (ps : List Str), FnG X.prog X.w X.K X.mg X.base k fa fd ps (spOf X.K φ) ∧ Room k X.A ∧ PySem.W.keepIn X.K (.ref fa) = true ∧ ShOk X.K fd ps np [] ar
inductive FD (X : Cx) (Φ : Phi) (np : Nat) (ar : List Ag) : List (Str × Nat) → List (Option Expr) → List Expr → Prop
  | nil : FD X Φ np ar [] [] []
  | cons {s x : Str} {f n : Nat} {p q : Pos} {kvs : List (Str × Nat)} {ks : List (Option Expr)} {vs : List Expr} : Gl X x → (x == ("__debug__" : Str)) = false → FnRef X (Φ f) x np [] ar → FD X Φ np ar kvs ks vs → FD X Φ np ar ((s, f) :: kvs) (some (.Constant (.str s) n p) :: ks) (.Name x q :: vs)
section
variable {X : Cx} {Φ : Phi} {np : Nat} {ar : List Ag} {kvs : List (Str × Nat)} {ks : List (Option Expr)} {vs : List Expr} {pos : Pos}
theorem FD.go (h : FD X Φ np ar kvs ks vs) : ∃ (trs : List (TE × TE)) (kv : List (Key × V)), PPs X pos ks vs trs ∧ (∀ σ H (Q : List (V × V) → Hp → Prop), Q (kv.map fun q => (kV q.1, q.2)) H → tPairs trs σ H Q) ∧
    kv.map (·.1) = kvs.map (fun q => (Sum.inr q.1 : Key)) ∧ ∀ s f, (kvs.find? fun q => decide (q.1 = s)).map (·.2) = some f → ∃ fa, valV kv (.inr s) = some (.ref fa) ∧ FnAt X (Φ f) np ar fa := by
  induction h with
  | nil => exact ⟨[], [], pps_nil, fun σ H Q q => q, rfl, fun s f e => by cases e⟩
  | @cons s x f n p q kvs ks vs g1 g2 R _ ih =>
    obtain ⟨trs, kv, h1, h2, h3, h4⟩ := ih
    obtain ⟨k, fa, fd, ps, F, hr, hm, hkp, sh⟩ := R.ex
    refine ⟨(tC (.str s), tC (.ref fa)) :: trs, (.inr s, .ref fa) :: kv, pps_cons pe_str (pe_glob g1 hm rfl g2) h1, fun σ H Q q => h2 σ H _ q, by rw [List.map_cons, List.map_cons, h3], fun t g e => ?_⟩
    rw [List.find?_cons] at e
    by_cases hs : s = t
    · subst hs
      rw [decide_eq_true rfl] at e
      have e' : f = g := Option.some.inj e
      subst e'
      exact ⟨fa, valV_pos rfl, k, fd, ps, F, hr, hkp, sh⟩
    · rw [decide_eq_false hs] at e
      obtain ⟨fb, e1, e2⟩ := h4 t g e
      refine ⟨fb, ?_, e2⟩
      rw [valV_neg (by intro z; cases z; exact hs rfl)]
      exact e1
theorem FD.len (h : FD X Φ np ar kvs ks vs) : ks.length = kvs.length ∧ vs.length = kvs.length ∧ ks.all (·.isSome) = true := by
  induction h with
  | nil => exact ⟨rfl, rfl, rfl⟩
  | cons _ _ _ _ ih => exact ⟨congrArg Nat.succ ih.1, congrArg Nat.succ ih.2.1, by rw [List.all_cons, ih.2.2]; rfl⟩
theorem merge_nodup : ∀ (kw kv : List (Key × V)), (kv.map (·.1) ++ kw.map (·.1)).Nodup → mergeK kv kw = kv ++ kw
  | [], kv, _ => (List.append_nil kv).symm
  | q :: kw, kv, h => by
    show mergeK (putK kv q.1 q.2) kw = _
    have hn : valV kv q.1 = none := by
      cases e : valV kv q.1 with
      | none => rfl
      | some v =>
        exfalso
        have a : (kv.any fun x => decide (x.1 = q.1)) = true := by rw [valV_any, e]; rfl
        obtain ⟨x, hx, hk⟩ := List.any_eq_true.mp a
        have hk := of_decide_eq_true hk
        rw [List.nodup_append] at h
        exact h.2.2 x.1 (List.mem_map_of_mem hx) q.1 (by simp) hk
    rw [putK_new q.2 hn, merge_nodup kw (kv ++ [(q.1, q.2)]) (by simpa using h)]
    simp
/-- the table stands in a slot, its key in another one -/
structure Tb (X : Cx) (Φ : Phi) (np : Nat) (ar : List Ag) (ci j : Nat) (σ : L2.St) (H : Hp) (f : Nat) : Prop where
  ex : ∃ (p : Addr) (kv : List (Key × V)) (s : Str) (fa : Addr), σ[ci]? = some (some (.ref p)) ∧ H p = some (.dK kv) ∧ σ[j]? = some (some (.str s)) ∧ valV kv (.inr s) = some (.ref fa) ∧ FnAt X (Φ f) np ar fa
theorem se_fcall {ci j : Nat} {cx sx : Str} {p1 p2 p3 : Pos} {c1 : List Ex} {e : Expr} {es : List Expr} (c : CxC X) (hN : X.N[ci]? = some cx) (hv : Vis X.env.scope cx) (hd : (cx == ("__debug__" : Str)) = false) (hcd : (cx == ("__classdict__" : Str)) = false)
    (hN2 : X.N[j]? = some sx) (hv2 : Vis X.env.scope sx) (hd2 : (sx == ("__debug__" : Str)) = false) (hcd2 : (sx == ("__classdict__" : Str)) = false) (he : (e :: es).all noStar = true) (hs : PA X (e :: es) (tCvs X.K (evs Φ c1)))
    (ht : eval (.Call (.Subscript (.Name cx p1) (.Name sx p2) p3) (e :: es) [] pos) X.env = (do callWith pos (← eval (.Subscript (.Name cx p1) (.Name sx p2) p3) X.env) [] (backTo pos (starEach (e :: es) X.env)) (backToKw pos (keywordEach [] X.env))) := by rfl) :
    PE X (.Call (.Subscript (.Name cx p1) (.Name sx p2) p3) (e :: es) [] pos) (fun σ H Q => ∃ f, Tb X Φ c1.length ar ci j σ H f ∧ tEv X.K (ev Φ (.call f (c1 ++ []) ar)) σ H Q) := by
  refine ⟨fun pins s σ H Q I h => ?_⟩
  obtain ⟨f, ⟨p, kv, z, fa, hσ, hp, hz, hvl, ⟨k, fd, ps, F, hr, hkp, sh⟩⟩, h⟩ := h
  have hu : X.A.units + 1 < cLine := by have := c.hu; omega
  have sub := (pe_dget (X := X) (pos := p3) hu (pe_var (pos := p1) hN hv hd hcd) (pe_var (pos := p2) hN2 hv2 hd2 hcd2) (fun _ _ => rfl)).run pins s σ H (fun v H1 => v = .ref fa ∧ H1 = H) I ⟨_, hσ, _, hz, p, _, rfl, by have g := DGet.k (k := .inr z) hp; rw [hvl] at g; exact g, rfl, rfl⟩
  simp only [List.all_cons, Bool.and_eq_true] at he
  have hst := star_of (es := es) (env := X.env) he.1
  have hpl := stars_of (env := X.env) (pos := pos) he.2
  refine Call_ (thn sub fun u s1 ⟨v, H1, I1, r1, q1, q2⟩ => ?_) ht
  subst q1
  rw [q2] at I1
  cases r1
  have h := call_imp h
  refine PySem.W.callWith_K (h₀ := X.base) I.ok.mod.kin hkp (thn (hs.run pos pins s1 σ H _ I1 h) fun us s2 ⟨ws, H2, I2, r, q⟩ => ⟨I2.kIn, ?_⟩) hst hpl
  exact callV (ks := []) (c2 := []) (ws := []) F hr c sh rfl I2 r .nil (cvs_nil q)
theorem se_fds {ci j : Nat} {cx sx : Str} {lp p0 p1 p2 p3 p4 p5 p6 p7 q1 q2 : Pos} {c1 : List Ex} {e te ae : Expr} {es : List Expr} {t a : Ex} (c : CxC X) (hnd : X.N.Nodup) (hloc : Loc X.env.scope cx) (hfn : X.fn cx = true ∨ X.env.scope.names.lookup cx = some .local) (hN : X.N[ci]? = some cx) (hv : Vis X.env.scope cx) (hd : (cx == ("__debug__" : Str)) = false) (hcd : (cx == ("__classdict__" : Str)) = false)
    (hN2 : X.N[j]? = some sx) (hv2 : Vis X.env.scope sx) (hd2 : (sx == ("__debug__" : Str)) = false) (hcd2 : (sx == ("__classdict__" : Str)) = false) (he : (e :: es).all noStar = true) (hs : PA X (e :: es) (tCvs X.K (evs Φ c1)))
    (hg : Gl X "len") (hm : X.mg "len" = none) (D : FD X Φ c1.length ar kvs ks vs) (hdup : (kvs.map (·.1)).Nodup) (h0 : ks ≠ []) (h15 : ks.length ≤ 15) (hsw : swapsWith (.Dict ks vs p0) (some (.Name cx q1)) q2.line X.env = pure false)
    (htest : PT X te (tTv X.K (ev Φ t))) (hA : PE X ae (tEv X.K (ev Φ a))) :
    PSs X [.Assign [.Name cx q1] (.Dict ks vs p0) q2, .Return (some (.IfExp te ae (.Call (.Name "len" lp) [.Call (.Subscript (.Name cx p1) (.Name sx p2) p3) (e :: es) [] p4] [] p5) p6)) p7] (tSt X.K (exs Φ [.fds ci kvs t a j c1 ar])) := by
  obtain ⟨trs, kv, pp, hpairs, hkeys, hfind⟩ := D.go (pos := p0)
  obtain ⟨l1, l2, l3⟩ := D.len
  have hlc : PE X (.Call (.Name "len" lp) [.Call (.Subscript (.Name cx p1) (.Name sx p2) p3) (e :: es) [] p4] [] p5) (fun σ H Q => ∃ f, Tb X Φ c1.length ar ci j σ H f ∧ tEv X.K (ev Φ (.blt .len [.call f (c1 ++ []) ar])) σ H Q) := by
    have hc := blt_ok c .len (.inr ⟨"len", rfl⟩) (by intro z; cases z)
    have hb : bootBuiltins "len" = some (pyB .len) := by decide +kernel
    refine PE.imp (pe_callB (id := "len") hc hg hm hb (pa_cons (se_fcall (ar := ar) (pos := p4) (p1 := p1) (p2 := p2) (p3 := p3) c hN hv hd hcd hN2 hv2 hd2 hcd2 he hs) pa_nil (star_of rfl)) (by decide) (by decide) (star_of rfl) (stars_of rfl)) fun σ H Q ⟨f, tb, h⟩ => ?_
    refine ⟨f, tb, ?_⟩
    have g := cvs_imp (blt_imp h)
    obtain ⟨G, F, env, rs, g⟩ := g
    exact tCv.imp ⟨G, F, env, rs, g.mono fun r hr F' H' v s' rs' ck => cvs_nil (hr F' H' v s' rs' ck)⟩
  refine PSs.imp (pss_cons (ps_set hnd hN hloc (pe_disp pp l3 (l1.trans l2.symm) h0 h15) hsw hfn) (pss_cons (ps_ret (pe_ifExp htest hA hlc)) pss_nil)) fun D σ H ⟨G, F, env, rs, h⟩ => ?_
  have h := T.All_bind.mp h
  simp only [ex] at h
  split at h
  case isFalse => exact h.elim
  rename_i hlt
  intro p hp
  refine hpairs σ _ _ ⟨upd_same, kv, rfl, ?_, ?_⟩
  · have : kv.length = kvs.length := by
      have := congrArg List.length hkeys
      simpa using this
    omega
  have hmk : mergeK [] kv = kv := merge_nodup kv [] (by
    show ((kv.map (·.1))).Nodup
    rw [hkeys]
    have e : kvs.map (fun q => (Sum.inr q.1 : Key)) = (kvs.map (·.1)).map Sum.inr := by rw [List.map_map]; rfl
    rw [e]
    exact List.Pairwise.map Sum.inr (fun a b h z => h (by cases z; rfl)) hdup)
  rw [hmk]
  have fp := rs.fh.free hp
  have gp := rs.gh.free hp
  have no : ∀ i, ¬ Own env σ i p := fun i w => by
    obtain ⟨_, o', _, _, h1, _⟩ := w.slot rs
    rw [hp] at h1; cases h1
  have ra := (rs.alloc (o := .dK []) hp).scratch (o' := .dK kv) fp gp no
  have rb : Rs X.K (upd G p (.dK kv)) F σ (upd (upd H p (.dK [])) p (.dK kv)) env := ra.frame upd_same fp gp no
  have rc := rb.storeA (v := .ref p) (e := .un) trivial (fun z => by cases z) ci
  have sG : Same G (upd G p (.dK kv)) := same_new gp
  have hσ : (σ.set ci (some (V.ref p)))[ci]? = some (some (.ref p)) := List.getElem?_set_self (by rw [← rs.len]; exact hlt)
  refine ⟨_, F, _, rc, (T.All_bind.mp h).mono fun r hr => ?_⟩
  obtain ⟨b, e1⟩ := r
  intro F1 H1 s1 rs1
  have post : ∀ {m : T (R × Env)}, (m >>= fun (r, e2) => T.opt (r.back e2) >>= fun v => T.ret (Fl.ret v e2)).All (fun fl => (match fl with
      | .next e => exs Φ [] e
      | .brk e => T.ret (Fl.brk e)
      | .ret v e => T.ret (Fl.ret v e)).All fun r => ∀ F' H' σ', Same F F' → match r with
        | .next e => Rs X.K G F' σ' H' e → D.nx σ' H'
        | .brk e => Rs X.K G F' σ' H' e → D.bk σ' H'
        | .ret v e => Rs X.K G F' σ' H' e → ∀ x, VOk X.K G F' H' x v → D.rt x H') → m.All (Pst X.K (upd G p (.dK kv)) F1 (σ.set ci (some (V.ref p))) D.rt) := fun {m} hm => by
    refine ret_imp (D := D) ((T.All_bind.mpr ((T.All_bind.mp hm).mono fun z hz => ?_)))
    refine T.All_bind.mpr ((T.All_bind.mp hz).mono fun v hv => ?_)
    intro F2 H2 σ2 s2 rs2 x vk
    exact hv F2 H2 σ2 (s1.trans s2) (rs2.less sG) x (vk.less sG)
  cases b with
  | true =>
    simp only [if_true] at hr ⊢
    exact ⟨_, F1, e1, rs1, post hr⟩
  | false =>
    simp only [Bool.false_eq_true, if_false] at hr ⊢
    rw [T.bind_assoc] at hr
    obtain ⟨z, k1, hr⟩ := T.All_opt.mp (T.All_bind.mp hr)
    simp only [T.bind_assoc] at hr
    obtain ⟨f, k2, hr⟩ := T.All_opt.mp (T.All_bind.mp hr)
    obtain ⟨fa, h1, h2⟩ := hfind z f k2
    have hz : (σ.set ci (some (V.ref p)))[j]? = some (some (.str z)) := by
      cases q : get e1 j with
      | sh d =>
        rw [q] at k1
        cases d with
        | str y =>
          cases k1
          obtain ⟨v, hv, ok⟩ := rs1.at_ j _ (get_of q (by intro z; cases z)) (by intro z; cases z)
          rw [hv, Dn.str_inv ok]
        | _ => cases k1
      | _ => rw [q] at k1; cases k1
    refine ⟨f, ⟨p, kv, z, fa, hσ, rs1.gh _ _ upd_same, hz, h1, h2⟩, _, F1, e1, rs1, ?_⟩
    rw [List.append_nil]
    exact post hr
end
end Ev

namespace Ev
open PySem PySem.Spec PyProof.Rows L2
/-! Ev16: the law's draws -/
def spDraw : SpG := fun vs H Q => ∃ p n, vs = [.ref p, .int n] ∧ H p = some (.ext (PotAt p)) ∧ 0 < n ∧ n < 1073741824 ∧ ∀ (d : Nat) H', d < n.toNat → Same H H' → Q (.int d) H'
/-- what is asked of a script: any ints -/
def spPot (K : PySem.W.Frag) : SpG := fun vs H Q => ∃ (p : Addr) (k : Int) (ns : List Int), vs = [.ref p, .int k] ∧ SqL K H p (ns.map V.int) ∧ 0 ≤ k ∧ k < 1000 ∧ ∀ q H', H q = none → Same H H' → H' q = some (.ext (PotAt q)) → Q (.ref q) H'
/-- a def with a promise of its own -/
structure SpRef (X : Cx) (sp : SpG) (x : Str) (np : Nat) : Prop where
  ex : ∃ (k : Nat) (f : Addr) (fd : FuncData) (ps : List Str), FnG X.prog X.w X.K X.mg X.base k f fd ps sp ∧ Room k X.A ∧ X.mg x = some (.ref f) ∧ PySem.W.keepIn X.K (.ref f) = true ∧ ps.length = np ∧ Binds X.K fd ps []
section
variable {X : Cx} {Φ : Phi} {p pos : Pos}
theorem se_sp {sp : SpG} {x : Str} {e : Expr} {es : List Expr} {t : TA} (c : CxC X) (R : SpRef X sp x (e :: es).length) (hg : Gl X x) (hd : (x == ("__debug__" : Str)) = false) (he : (e :: es).all noStar = true) (hs : PA X (e :: es) t) :
    PE X (.Call (.Name x p) (e :: es) [] pos) (fun σ H Q => t σ H fun vs H1 => vs.length = (e :: es).length ∧ sp vs H1 Q) := by
  obtain ⟨k, fa, fd, ps, F, hr, hm, hkp, hl, hb⟩ := R.ex
  refine ⟨fun pins s σ H Q I h => ?_⟩
  refine wpAny_Call_Name_kw (ld_glob I hg hm ?_ hd)
  simp only [List.all_cons, Bool.and_eq_true] at he
  have hst := star_of (es := es) (env := X.env) he.1
  have hpl := stars_of (env := X.env) (pos := pos) he.2
  refine PySem.W.callWith_K (h₀ := X.base) I.ok.mod.kin hkp (thn (hs.run pos pins s σ H _ I h) fun us s1 ⟨vs, H1, I1, r, l1, q⟩ => ⟨I1.kIn, ?_⟩) hst hpl
  have lu : us.length = ps.length := by rw [← r.length, l1, hl]
  have b := hb s1 us I1.kIn (by rw [List.append_nil]; exact lu)
  rw [List.append_nil] at b
  exact run_fnG (ks := []) (ws := []) F hr c.hg b I1 r q
theorem pot_at {K : PySem.W.Frag} {G F H : Hp} {σ : L2.St} {env : Env} {i : Nat} (rs : Rs K G F σ H env) (h : get env i = .pot) : ∃ p, σ[i]? = some (some (.ref p)) ∧ F p = some (.ext (PotAt p)) := by
  obtain ⟨v, hv, p, rfl, hp⟩ := rs.at_ i _ (get_of h (by intro z; cases z)) (by intro z; cases z)
  exact ⟨p, hv, hp⟩
theorem scr_at {K : PySem.W.Frag} {G F H : Hp} {σ : L2.St} {env : Env} {i : Nat} {ns : List Int} (rs : Rs K G F σ H env) (h : get env i = .scr ns) : ∃ p, σ[i]? = some (some (.ref p)) ∧ SqL K F p (ns.map V.int) := by
  obtain ⟨v, hv, p, rfl, hp⟩ := rs.at_ i _ (get_of h (by intro z; cases z)) (by intro z; cases z)
  exact ⟨p, hv, hp⟩
theorem isPot_get {e : EV} (h : isPot e = true) : e = .pot := by cases e <;> first | rfl | cases h
theorem isScr_get {e : EV} (h : isScr e = true) : ∃ ns, e = .scr ns := by cases e <;> first | exact ⟨_, rfl⟩ | cases h
theorem se_draw {i : Nat} {x y : Str} {p2 : Pos} {l : Expr} {a : Ex} (c : CxC X) (R : SpRef X spDraw y 2) (hg : Gl X y) (hdy : (y == ("__debug__" : Str)) = false) (hN : X.N[i]? = some x) (hv : Vis X.env.scope x) (hd : (x == ("__debug__" : Str)) = false) (hcd : (x == ("__classdict__" : Str)) = false) (he : noStar l = true) (ha : PE X l (tEv X.K (ev Φ a))) :
    PE X (.Call (.Name y p) [.Name x p2, l] [] pos) (tEv X.K (ev Φ (.draw i a))) := by
  refine PE.imp (se_sp c R hg hdy (by rw [List.all_cons, List.all_cons, he]; rfl) (pa_cons (pe_var hN hv hd hcd) (pa_cons (PE.c ha) pa_nil (star_of he)) (star_of (by rfl)))) fun σ H Q ⟨G, F, env, rs, h⟩ => ?_
  simp only [ev] at h
  split at h
  case isFalse => exact h.elim
  rename_i hp
  obtain ⟨q, hs, hF⟩ := pot_at rs (isPot_get hp)
  refine ⟨.ref q, hs, tcv_at rs ((T.All_bind.mp h).mono fun r hr => ?_)⟩
  intro F1 H1 v s1 rs1 c1
  obtain ⟨n, k1, hk⟩ := T.All_opt.mp (T.All_bind.mp hr)
  cases hx : get r.2 i with
  | pot =>
    rw [hx] at k1
    cases hr1 : r.1 with
    | sh d =>
      rw [hr1] at k1
      cases d with
      | int m =>
        simp only [drawV] at k1
        split at k1
        · rename_i hb
          cases k1
          rw [hr1] at c1
          obtain ⟨_, rfl⟩ := intR_ok c1 rfl
          refine ⟨rfl, q, m, rfl, rs1.fh _ _ (s1 _ _ hF), hb.1, hb.2, fun d H' hd s => ?_⟩
          have rs2 : Rs X.K G F1 σ H' r.2 := rs1.after (Same.refl _) (rs1.fh.trans s) s fun a o e1 e2 => by rw [e1] at e2; cases e2
          exact Pst.sh ((show Pst X.K G F σ Q (.sh (.int d), r.2) from hk d hd).mono s1) rs2 (.int _)
        · cases k1
      | _ => cases k1
    | _ => rw [hr1] at k1; cases k1
  | _ => rw [hx] at k1; cases k1
theorem se_mkpot {i : Nat} {x y : Str} {p2 : Pos} {l : Expr} {a : Ex} (c : CxC X) (R : SpRef X (spPot X.K) y 2) (hg : Gl X y) (hdy : (y == ("__debug__" : Str)) = false) (hN : X.N[i]? = some x) (hv : Vis X.env.scope x) (hd : (x == ("__debug__" : Str)) = false) (hcd : (x == ("__classdict__" : Str)) = false) (he : noStar l = true) (ha : PE X l (tEv X.K (ev Φ a))) :
    PE X (.Call (.Name y p) [.Name x p2, l] [] pos) (tEv X.K (ev Φ (.mkpot i a))) := by
  refine PE.imp (se_sp c R hg hdy (by rw [List.all_cons, List.all_cons, he]; rfl) (pa_cons (pe_var hN hv hd hcd) (pa_cons (PE.c ha) pa_nil (star_of he)) (star_of (by rfl)))) fun σ H Q ⟨G, F, env, rs, h⟩ => ?_
  simp only [ev] at h
  split at h
  case isFalse => exact h.elim
  rename_i hp
  obtain ⟨ns, hns⟩ := isScr_get hp
  obtain ⟨q, hs, hF⟩ := scr_at rs hns
  refine ⟨.ref q, hs, tcv_at rs ((T.All_bind.mp h).mono fun r hr => ?_)⟩
  intro F1 H1 v s1 rs1 c1
  split at hr
  case isFalse => exact hr.elim
  rename_i k1
  cases hx : get r.2 i with
  | scr ms =>
    rw [hx] at k1
    cases hr1 : r.1 with
    | sh d =>
      rw [hr1] at k1
      cases d with
      | int m =>
        have hb := of_decide_eq_true (show decide (0 ≤ m ∧ m < 1000) = true from k1)
        rw [hr1] at c1
        obtain ⟨_, rfl⟩ := intR_ok c1 rfl
        refine ⟨rfl, q, m, ns, rfl, Same.seq (s1.trans rs1.fh) hF, hb.1, hb.2, fun z H' hz s he => ?_⟩
        have fz : F1 z = none := rs1.fh.free hz
        have sF : Same F1 (upd F1 z (.ext (PotAt z))) := same_new fz
        have fh : Same (upd F1 z (.ext (PotAt z))) H' := fun b o e => by
          by_cases hb : b = z
          · subst hb; rw [upd_same] at e; cases e; exact he
          · rw [upd_ne hb] at e; exact s _ _ (rs1.fh _ _ e)
        have rs2 : Rs X.K G (upd F1 z (.ext (PotAt z))) σ H' r.2 := rs1.after sF fh s fun a o e1 e2 => by
          by_cases ha : a = z
          · subst ha; exact hz
          · rw [upd_ne ha] at e1; rw [e1] at e2; cases e2
        exact (show Pst X.K G F σ Q (.pot, r.2) from hr) _ H' _ (s1.trans sF) rs2 (.inr ⟨rfl, ⟨z, rfl, upd_same⟩, fun z => by cases z⟩)
      | _ => cases k1
    | _ => rw [hr1] at k1; cases k1
  | _ => rw [hx] at k1; cases k1
theorem se_lenS {i : Nat} {x : Str} {p2 : Pos} (hg : Gl X "len") (hm : X.mg "len" = none) (hN : X.N[i]? = some x) (hv : Vis X.env.scope x) (hd : (x == ("__debug__" : Str)) = false) (hcd : (x == ("__classdict__" : Str)) = false) : PE X (.Call (.Name "len" p) [.Name x p2] [] pos) (tEv X.K (ev Φ (.lenS i))) := by
  refine PE.imp (pe_callB call_len hg hm (by first | exact boot_len | decide +kernel) (pa_cons (pe_var hN hv hd hcd) pa_nil (star_of (by rfl))) (by decide) (by decide) (star_of (by rfl)) (stars_of rfl)) fun σ H Q ⟨G, F, env, rs, h⟩ => ?_
  simp only [ev] at h
  cases hx : get env i with
  | scr ns =>
    rw [hx] at h
    obtain ⟨q, hs, hF⟩ := scr_at rs hx
    refine ⟨.ref q, hs, .ref q, ns.length, rfl, .inl ⟨_, Same.seq rs.fh hF, by rw [List.length_map]⟩, ?_⟩
    exact Pst.sh (show Pst X.K G F σ Q (.sh (.int ns.length), env) from h) rs (.int _)
  | _ => rw [hx] at h; exact h.elim
end
/-! ### the draw's body -/
theorem Inv.retold {X : Cx} {pins : List (Addr × Obj)} {σ : L2.St} {H : Hp} {s : Shared} {p : Addr} {u u' : HO} (I : Inv X pins σ H s) (h : H p = some u) (mu : Mut (some u)) (hx : ∃ o, s.heap.get? p = some o) (ok : ObjOk X.prog X.w (upd H p u') s.heap p u') : Inv X pins σ (upd H p u') s :=
  I.write (x := p) (e := p) (t' := s.toks) (h' := s.heap) (by rw [h]; exact mu) (.inl rfl) (fun b v _ q => q) hx ok
theorem pot_open {X : Cx} {pins : List (Addr × Obj)} {σ : L2.St} {H : Hp} {s : Shared} {p : Addr} (I : Inv X pins σ H s) (h : H p = some (.ext (PotAt p))) : ∃ a b : Int, 0 ≤ a ∧ 0 ≤ b ∧ b < 2 ^ 40 ∧ Inv X pins σ (upd H p (.lst [.int a, .int b])) s := by
  obtain ⟨⟨a, b, t, u, n, e, h1, h2, h3⟩, _, _⟩ := (show ObjOk X.prog X.w H s.heap p (.ext (PotAt p)) from I.hok p _ h)
  exact ⟨a, b, h1, h2, h3, Inv.retold I h trivial ⟨_, e⟩ ⟨by rw [sizeLine_eq]; exact (by decide : 2 ≤ 16777216), [.int a t, .int b u], n, .cons ⟨t, rfl⟩ (.cons ⟨u, rfl⟩ .nil), e⟩⟩
theorem pot_close {X : Cx} {pins : List (Addr × Obj)} {σ : L2.St} {H : Hp} {s : Shared} {p : Addr} {a b : Int} (I : Inv X pins σ H s) (h : H p = some (.lst [.int a, .int b])) (h1 : 0 ≤ a) (h2 : 0 ≤ b) (h3 : b < 2 ^ 40) : Inv X pins σ (upd H p (.ext (PotAt p))) s := by
  obtain ⟨_, its, n, r, e⟩ := (show ObjOk X.prog X.w H s.heap p (.lst [.int a, .int b]) from I.hok p _ h)
  cases r with
  | cons r1 r =>
  cases r with
  | cons r2 r =>
  cases r
  obtain ⟨t, rfl⟩ := r1
  obtain ⟨u, rfl⟩ := r2
  refine Inv.retold I h trivial ⟨_, e⟩ ⟨⟨a, b, t, u, n, e, h1, h2, h3⟩, ⟨_, e⟩, fun h1 h2 ⟨a, b, t, u, n, e, hh⟩ k => ⟨a, b, t, u, n, k _ e, hh⟩⟩
/-- the body runs with the pot open -/
theorem pss_pot {X : Cx} {body : List Stmt} {t : TS} {p : Addr} (hb : PSs X body t) : PSs X body (fun D σ H => H p = some (.ext (PotAt p)) ∧ ∀ a b : Int, 0 ≤ a → 0 ≤ b → b < 2 ^ 40 →
    t { nx := fun _ _ => False, rt := fun v H' => ∃ a' b' : Int, H' p = some (.lst [.int a', .int b']) ∧ 0 ≤ a' ∧ 0 ≤ b' ∧ b' < 2 ^ 40 ∧ D.rt v (upd H' p (.ext (PotAt p))) } σ (upd H p (.lst [.int a, .int b]))) := by
  refine ⟨fun pins s σ H D I ⟨hp, h⟩ => ?_⟩
  obtain ⟨a, b, h1, h2, h3, I1⟩ := pot_open I hp
  refine wpAny_mono (hb.run pins s σ _ _ I1 (h a b h1 h2 h3)) (fun fl s' q => ?_) fun _ _ q => q
  cases fl with
  | next => obtain ⟨_, _, _, q⟩ := q; exact q.elim
  | brk => obtain ⟨_, _, _, q⟩ := q; exact q.elim
  | cont => obtain ⟨_, _, _, q⟩ := q; exact q.elim
  | ret u =>
    obtain ⟨v, σ', H', I', r, a', b', e, g1, g2, g3, q⟩ := q
    exact ⟨v, σ', _, pot_close I' e g1 g2 g3, r, q⟩
def hole (H : Hp) (p : Addr) : Hp := fun a => if a = p then none else H a
theorem hole_at {H : Hp} {p : Addr} : hole H p p = none := by unfold hole; rw [if_pos rfl]
theorem hole_ne {H : Hp} {p a : Addr} (h : a ≠ p) : hole H p a = H a := by unfold hole; rw [if_neg h]
/-! ### the draw's body, by hand -/
def subC (x : Str) (k : Int) (n : Nat) (p1 p2 p3 : Pos) : Expr := .Subscript (.Name x p1) (.Constant (.int k) n p2) p3
section
variable {X : Cx}
def tIt (K : PySem.W.Frag) (i : Nat) (k : Int) : TE := tOp (rIxL K) (tVar i) (tC (.int k))
theorem pe_potI {x : Str} {k : Int} {n : Nat} {p1 p2 p3 : Pos} {i : Nat} (hN : X.N[i]? = some x) (hv : Vis X.env.scope x) (hd : (x == ("__debug__" : Str)) = false) (hcd : (x == ("__classdict__" : Str)) = false) : PE X (.Subscript (.Name x p1) (.Constant (.int k) n p2) p3) (tIt X.K i k) :=
  pe_ix ix_list (pe_var hN hv hd hcd) pe_int (plainIx_of rfl)
theorem tIt0 {K : PySem.W.Frag} {i : Nat} {σ : L2.St} {H : Hp} {Q : VK} {p : Addr} {a b : V} (hs : σ[i]? = some (some (.ref p))) (hp : H p = some (.lst [a, b])) (q : Q a H) : tIt K i 0 σ H Q := ⟨_, hs, p, [a, b], 0, a, rfl, rfl, .inl (.inl hp), rfl, q⟩
theorem tIt1 {K : PySem.W.Frag} {i : Nat} {σ : L2.St} {H : Hp} {Q : VK} {p : Addr} {a b : V} (hs : σ[i]? = some (some (.ref p))) (hp : H p = some (.lst [a, b])) (q : Q b H) : tIt K i 1 σ H Q := ⟨_, hs, p, [a, b], 1, b, rfl, rfl, .inl (.inl hp), rfl, q⟩
def tDraw : TS := fun D σ H => ∃ (p : Addr) (a b n : Int), σ[0]? = some (some (.ref p)) ∧ σ[1]? = some (some (.int n)) ∧ σ.length = 3 ∧ H p = some (.lst [.int a, .int b]) ∧ 0 ≤ a ∧ 0 ≤ b ∧ b < 2 ^ 40 ∧ 0 < n ∧ n < 1073741824 ∧
  ∀ (d a' b' : Int) H', 0 ≤ d → d < n → 0 ≤ a' → 0 ≤ b' → b' < 2 ^ 40 → Same (hole H p) H' → H' p = some (.lst [.int a', .int b']) → D.rt (.int d) H'
theorem pss_draw {po ma di : Str} {A B M P Q : Int} {k1 k2 k3 k4 k5 k6 k7 k8 k9 k10 k11 k12 k13 k14 : Nat} {p1 p2 p3 p4 p5 p6 p7 p8 p9 p10 p11 p12 p13 p14 p15 p16 p17 p18 p19 p20 p21 p22 p23 p24 p25 p26 p27 p28 p29 p30 p31 p32 p33 p34 p35 p36 p37 p38 p39 p40 p41 p42 p43 p44 p45 p46 p47 p48 p49 p50 p51 p52 p53 : Pos}
    (c : CxC X) (hN : X.N = [po, ma, di]) (hnd : X.N.Nodup) (sc : X.env.scope.names.lookup po = some .local ∧ X.env.scope.names.lookup ma = some .local ∧ X.env.scope.names.lookup di = some .local) (gd : Gl X "divmod" ∧ X.mg "divmod" = none) (gi : Gl X "int" ∧ X.mg "int" = none)
    (nd : ∀ x ∈ [po, ma, di], (x == ("__debug__" : Str)) = false ∧ (x == ("__classdict__" : Str)) = false) (hA : 0 ≤ A ∧ A < 2 ^ 20) (hB : 0 ≤ B ∧ B < 2 ^ 40) (hM : 0 < M ∧ M < 2 ^ 31) (hP : 0 < P) (hQ : 0 < Q ∧ Q < 1073741824) :
    PSs X [.If (.Compare (.Subscript (.Name po p1) (.Constant (.int 0) k1 p2) p3) [.Gt] [.Constant (.int 0) k2 p4] p5)
        [.Assign [.Tuple [.Subscript (.Name po p6) (.Constant (.int 0) k3 p7) p8, .Name di p9] k4 p10] (.Call (.Name "divmod" p11) [.Subscript (.Name po p12) (.Constant (.int 0) k5 p13) p14, .Name ma p15] [] p16) p17, .Return (some (.Name di p18)) p19] [] p20,
      .Assign [.Subscript (.Name po p21) (.Constant (.int 1) k6 p22) p23] (.BinOp (.Call (.Name "int" p24) [.BinOp (.BinOp (.Subscript (.Name po p25) (.Constant (.int 1) k7 p26) p27) .Mult (.Constant (.int A) k8 p28) p29) .Add (.Constant (.int B) k9 p30) p31] [] p32) .Mod (.Constant (.int M) k10 p33) p34) p35,
      .Return (some (.BinOp (.Call (.Name "int" p36) [.BinOp (.BinOp (.Call (.Name "int" p37) [.BinOp (.Subscript (.Name po p38) (.Constant (.int 1) k11 p39) p40) .Mult (.Subscript (.Name po p41) (.Constant (.int 1) k12 p42) p43) p44] [] p45) .Mod (.Constant (.int P) k13 p46) p47) .FloorDiv (.Constant (.int Q) k14 p48) p49] [] p50) .Mod (.Name ma p51) p52)) p53] tDraw := by
  have h0 : X.N[0]? = some po := by rw [hN]; rfl
  have h1 : X.N[1]? = some ma := by rw [hN]; rfl
  have h2 : X.N[2]? = some di := by rw [hN]; rfl
  obtain ⟨s0, s1, s2⟩ := sc
  have d0 := nd po (by simp)
  have d1 := nd ma (by simp)
  have d2 := nd di (by simp)
  have eN : ∀ {k n p1 p2 p3}, PE X (.Subscript (.Name po p1) (.Constant (.int k) n p2) p3) (tIt X.K 0 k) := pe_potI h0 (.inl s0) d0.1 d0.2
  have eM : ∀ {p}, PE X (.Name ma p) (tVar 1) := pe_var h1 (.inl s1) d1.1 d1.2
  have eD : ∀ {p}, PE X (.Name di p) (tVar 2) := pe_var h2 (.inl s2) d2.1 d2.2
  have eP : ∀ {p}, PE X (.Name po p) (tVar 0) := pe_var h0 (.inl s0) d0.1 d0.2
  have eI : ∀ {e t p p'}, PE X e t → noStar e = true → PE X (.Call (.Name "int" p) [e] [] p') _ := fun h he => pe_callTy call_int1 gi.1 gi.2 boot_int (pa_cons h pa_nil (star_of he)) (by decide) (by decide) (star_of he) (stars_of rfl)
  refine PSs.imp (pss_cons (ps_if (pt_cmpR op_gt eN pe_int (nobehind _ (by decide) (by decide)))
      (pss_cons (ps_asg (pe_callB call_divmodF gd.1 gd.2 boot_divmod (pa_cons eN (pa_cons eM pa_nil (star_of rfl)) (star_of rfl)) (by decide) (by decide) (star_of rfl) (stars_of rfl)) (pg_tup c.hc (pgs_cons (pg_sub eP pe_int set_list (sub_ha rfl)) (pgs_cons (pg_name hnd h2 (.inl s2) (.inr s2)) pgs_nil rfl) rfl) rfl rfl) rfl rfl rfl) (pss_one (ps_ret eD))) pss_nil)
    (pss_cons (ps_asg (pe_op op_mod (eI (pe_op op_add (pe_op op_mul eN pe_int) pe_int) rfl) pe_int) (pg_sub eP pe_int set_list (sub_ha rfl)) rfl rfl rfl)
    (pss_one (ps_ret (pe_op op_mod (eI (pe_op op_fdiv (pe_op op_mod (eI (pe_op op_mul eN eN) rfl) pe_int) pe_int) rfl) eM))))) fun D σ H ⟨p, a, b, n, hs0, hs1, hl, hp, ha, hb, hb', hn, hn', q⟩ => ?_
  refine tIt0 hs0 hp ⟨a, 0, rfl, rfl, decide (0 < a), rfl, ?_⟩
  have hfr : ∀ v : V, Same (hole H p) (upd H p (.lst [.int a, v])) := fun v b o e => by
    by_cases hb : b = p
    · subst hb; rw [hole_at] at e; cases e
    · rw [upd_ne hb]; rw [hole_ne hb] at e; exact e
  by_cases h : 0 < a
  · have hd : decide (0 < a) = true := by simpa using h
    rw [hd]
    refine tIt0 hs0 hp ⟨_, hs1, a, n, rfl, ⟨hn, hn'⟩, fun t o ht ho => ?_⟩
    have htp : t ≠ p := by rintro rfl; rw [hp] at ht; cases ht
    refine ⟨t, _, rfl, .inl (.inr ⟨o, upd_same⟩), rfl, _, _, rfl, ⟨_, hs0, p, [.int a, .int b], 0, 0, rfl, rfl, by rw [upd_ne (Ne.symm htp)]; exact hp, rfl, ?_⟩⟩
    refine ⟨_, [], rfl, rfl, V.int (a % n), ?_, ?_⟩
    · show (σ.set 2 (some (V.int (a % n))))[2]? = _
      rw [List.getElem?_set_self (by omega)]
    · refine q (a % n) (a / n) b _ (Int.emod_nonneg _ (by omega)) (Int.emod_lt_of_pos _ hn) (Int.ediv_nonneg ha (by omega)) hb hb' ?_ upd_same
      intro c u e
      by_cases hc : c = p
      · subst hc; rw [hole_at] at e; cases e
      · rw [upd_ne hc]
        rw [hole_ne hc] at e
        exact same_new ht c u e
  · have hd : decide (0 < a) = false := by simpa using h
    rw [hd]
    have hm : (b * A + B) % M < M := Int.emod_lt_of_pos _ hM.1
    have hm0 : 0 ≤ (b * A + B) % M := Int.emod_nonneg _ (by omega)
    refine tIt1 hs0 hp ⟨b, A, rfl, rfl, .inl (by omega), _, _, rfl, rfl, .inl ⟨_, rfl, _, _, rfl, rfl, hM.1, ?_⟩⟩
    refine ⟨_, hs0, p, [.int a, .int b], 1, 1, rfl, rfl, hp, rfl, ?_⟩
    have hp1 : upd H p (.lst [.int a, .int ((b * A + B) % M)]) p = some (.lst [.int a, .int ((b * A + B) % M)]) := upd_same
    generalize hbb : (b * A + B) % M = b' at hm hm0 hp1
    show tIt _ _ _ _ (upd H p (.lst [.int a, .int ((b * A + B) % M)])) _
    rw [hbb]
    refine tIt1 hs0 hp1 (tIt1 hs0 hp1 ⟨b', b', rfl, rfl, .inl (by omega), .inl ⟨_, rfl, _, _, rfl, rfl, hP, _, _, rfl, rfl, hQ, .inl ⟨_, rfl, _, hs1, _, _, rfl, rfl, hn, ?_⟩⟩⟩)
    exact q _ a b' _ (Int.emod_nonneg _ (by omega)) (Int.emod_lt_of_pos _ hn) ha hm0 (by omega) (hfr _) hp1
end
end Ev

namespace Ev
open PySem PySem.Spec PyProof.Rows L2
/-! Ev17: the pot's maker; both defs keep their promises -/
section
variable {X : Cx}
/-- a new pot is closed at the end -/
theorem pss_new {body : List Stmt} {t : TS} (hb : PSs X body t) : PSs X body (fun D σ H => t { nx := fun _ _ => False, rt := fun v H' => ∃ (q : Addr) (a b : Int), v = .ref q ∧ H' q = some (.lst [.int a, .int b]) ∧ 0 ≤ a ∧ 0 ≤ b ∧ b < 2 ^ 40 ∧ D.rt v (upd H' q (.ext (PotAt q))) } σ H) := by
  refine ⟨fun pins s σ H D I h => ?_⟩
  refine wpAny_mono (hb.run pins s σ _ _ I h) (fun fl s' q => ?_) fun _ _ q => q
  cases fl with
  | next => obtain ⟨_, _, _, q⟩ := q; exact q.elim
  | brk => obtain ⟨_, _, _, q⟩ := q; exact q.elim
  | cont => obtain ⟨_, _, _, q⟩ := q; exact q.elim
  | ret u =>
    obtain ⟨v, σ', H', I', r, x, a', b', rfl, e, g1, g2, g3, q⟩ := q
    exact ⟨_, σ', _, pot_close I' e g1 g2 g3, r, q⟩
/-- what the maker is to do -/
def tMake (K : PySem.W.Frag) : TS := fun D σ H => ∃ (p : Addr) (k : Int) (ns : List Int), σ[0]? = some (some (.ref p)) ∧ σ[1]? = some (some (.int k)) ∧ σ.length = 3 ∧ SqL K H p (ns.map V.int) ∧ 0 ≤ k ∧ k < 1000 ∧
  ∀ (q : Addr) (a b : Int), H q = none → 0 ≤ a → 0 ≤ b → b < 2 ^ 40 → D.rt (.ref q) (upd H q (.lst [.int a, .int b]))
theorem atI_map {ns : List Int} {k : Int} (h0 : 0 ≤ k) (h : k < ns.length) : ∃ x, L2.atI (ns.map V.int) k = some (V.int x) := by
  have hl : k.toNat < ns.length := by omega
  refine ⟨ns[k.toNat], ?_⟩
  unfold L2.atI ixN
  rw [if_pos h0, if_pos (by rw [List.length_map]; exact h)]
  show (ns.map V.int)[k.toNat]? = _
  rw [List.getElem?_map, List.getElem?_eq_getElem hl]
  rfl
theorem pss_make {sc kk ce : Str} {A B P Q R S M T U : Int} {n1 n2 n3 n4 n5 n6 n7 n8 n9 n10 n11 : Nat} {p1 p2 p3 p4 p5 p6 p7 p8 p9 p10 p11 p12 p13 p14 p15 p16 p17 p18 p19 p20 p21 p22 p23 p24 p25 p26 p27 p28 p29 p30 p31 p32 p33 p34 p35 p36 p37 p38 p39 p40 p41 p42 p43 p44 p45 p46 p47 p48 : Pos}
    (c : CxC X) (hN : X.N = [sc, kk, ce]) (hnd : X.N.Nodup) (scp : X.env.scope.names.lookup sc = some .local ∧ X.env.scope.names.lookup kk = some .local ∧ X.env.scope.names.lookup ce = some .local) (gl : Gl X "len" ∧ X.mg "len" = none) (ga : Gl X "abs" ∧ X.mg "abs" = none) (gm : Gl X "max" ∧ X.mg "max" = none) (gi : Gl X "int" ∧ X.mg "int" = none)
    (nd : ∀ x ∈ [sc, kk, ce], (x == ("__debug__" : Str)) = false ∧ (x == ("__classdict__" : Str)) = false) (hA : A.natAbs < 2 ^ 64) (hP : 0 < P) (hQ : Q.natAbs < 2 ^ 64) (hR : R.natAbs < 2 ^ 64) (hM : 0 < M ∧ M < 2 ^ 31) (hT : T.natAbs < 2 ^ 64) (hU : 0 ≤ U ∧ U ≤ 1000000) :
    PSs X [.Assign [.Name ce p1] (.IfExp (.Compare (.Name kk p2) [.Lt] [.Call (.Name "len" p3) [.Name sc p4] [] p5] p6) (.Call (.Name "abs" p7) [.Subscript (.Name sc p8) (.Name kk p9) p10] [] p11) (.BinOp (.BinOp (.Constant (.int A) n1 p12) .Mult (.Name kk p13) p14) .Add (.Constant (.int B) n2 p15) p16) p17) p18,
      .Return (some (.List [.Call (.Name "max" p19) [.Constant (.int 0) n3 p20, .BinOp (.Name ce p21) .Sub (.BinOp (.Constant (.int T) n4 p22) .Pow (.Constant (.int U) n5 p23) p24) p25] [] p26,
        .BinOp (.BinOp (.Call (.Name "int" p27) [.BinOp (.BinOp (.BinOp (.BinOp (.Call (.Name "int" p28) [.Name ce p29] [] p30) .Mod (.Constant (.int P) n6 p31) p32) .Mult (.Constant (.int Q) n7 p33) p34) .Add (.BinOp (.Constant (.int R) n8 p35) .Mult (.Name kk p36) p37) p38) .Add (.Constant (.int S) n9 p39) p40] [] p41) .Mod (.Constant (.int M) n10 p42) p43) .Add (.Constant (.int 1) n11 p44) p45] p46)) p47] (tMake X.K) := by
  have h0 : X.N[0]? = some sc := by rw [hN]; rfl
  have h1 : X.N[1]? = some kk := by rw [hN]; rfl
  have h2 : X.N[2]? = some ce := by rw [hN]; rfl
  obtain ⟨s0, s1, s2⟩ := scp
  have d0 := nd sc (by simp)
  have d1 := nd kk (by simp)
  have d2 := nd ce (by simp)
  have hA' := abs64 hA
  have hQ' := abs64 hQ
  have hR' := abs64 hR
  have eS : ∀ {p}, PE X (.Name sc p) (tVar 0) := pe_var h0 (.inl s0) d0.1 d0.2
  have eK : ∀ {p}, PE X (.Name kk p) (tVar 1) := pe_var h1 (.inl s1) d1.1 d1.2
  have eC : ∀ {p}, PE X (.Name ce p) (tVar 2) := pe_var h2 (.inl s2) d2.1 d2.2
  have eI : ∀ {e t p p'}, PE X e t → noStar e = true → PE X (.Call (.Name "int" p) [e] [] p') _ := fun h he => pe_callTy call_int1 gi.1 gi.2 boot_int (pa_cons h pa_nil (star_of he)) (by decide) (by decide) (star_of he) (stars_of rfl)
  have eL : PE X (.Call (.Name "len" p3) [.Name sc p4] [] p5) _ := pe_callB call_len gl.1 gl.2 (by first | exact boot_len | decide +kernel) (pa_cons eS pa_nil (star_of rfl)) (by decide) (by decide) (star_of rfl) (stars_of rfl)
  have eA : PE X (.Call (.Name "abs" p7) [.Subscript (.Name sc p8) (.Name kk p9) p10] [] p11) _ := pe_callB call_abs ga.1 ga.2 boot_abs (pa_cons (pe_ix ix_list eS eK (plainIx_of rfl)) pa_nil (star_of rfl)) (by decide) (by decide) (star_of rfl) (stars_of rfl)
  have eR : PE X (.List [.Call (.Name "max" p19) [.Constant (.int 0) n3 p20, .BinOp (.Name ce p21) .Sub (.BinOp (.Constant (.int T) n4 p22) .Pow (.Constant (.int U) n5 p23) p24) p25] [] p26,
        .BinOp (.BinOp (.Call (.Name "int" p27) [.BinOp (.BinOp (.BinOp (.BinOp (.Call (.Name "int" p28) [.Name ce p29] [] p30) .Mod (.Constant (.int P) n6 p31) p32) .Mult (.Constant (.int Q) n7 p33) p34) .Add (.BinOp (.Constant (.int R) n8 p35) .Mult (.Name kk p36) p37) p38) .Add (.Constant (.int S) n9 p39) p40] [] p41) .Mod (.Constant (.int M) n10 p42) p43) .Add (.Constant (.int 1) n11 p44) p45] p46)
      (fun σ H Q => ∃ k x : Int, σ[1]? = some (some (.int k)) ∧ σ[2]? = some (some (.int x)) ∧ ∀ (q : Addr) (a b : Int), H q = none → 0 ≤ a → 0 ≤ b → b < 2 ^ 40 → Q (.ref q) (upd H q (.lst [.int a, .int b]))) := by
    refine PE.imp (pe_lst (pa_cons (pe_callB (call_max2 c.hc) gm.1 gm.2 boot_max (pa_cons pe_int (pa_cons (pe_op op_sub eC (pe_op op_pow pe_int pe_int)) pa_nil (star_of rfl)) (star_of rfl)) (by decide) (by decide) (star_of rfl) (stars_of rfl))
      (pa_cons (pe_op op_add (pe_op op_mod (eI (pe_op op_add (pe_op op_add (pe_op op_mul (pe_op op_mod (eI eC rfl) pe_int) pe_int) (pe_op op_mul pe_int eK)) pe_int) rfl) pe_int) pe_int) pa_nil (star_of rfl)) (star_of rfl))) fun σ H Q' ⟨k, x, hs1, hs2, q⟩ => ?_
    have hm := Int.emod_lt_of_pos (x % P * Q + R * k + S) hM.1
    have hm0 := Int.emod_nonneg (x % P * Q + R * k + S) (show M ≠ 0 by omega)
    refine ⟨_, hs2, _, _, rfl, rfl, ⟨hU.1, hU.2, hT⟩, _, _, rfl, rfl, _, _, rfl, ?_⟩
    refine ⟨_, hs2, .inl ⟨_, rfl, _, _, rfl, rfl, hP, _, _, rfl, rfl, .inr hQ', _, hs1, _, _, rfl, rfl, .inl hR', _, _, rfl, rfl, _, _, rfl, rfl, .inl ⟨_, rfl, _, _, rfl, rfl, hM.1, _, _, rfl, rfl, ?_⟩⟩⟩
    refine ⟨by rw [sizeLine_eq]; exact (by decide : 2 ≤ 16777216), fun z hz => q z _ _ hz ?_ ?_ ?_⟩
    · split <;> omega
    · omega
    · omega
  have eV : PE X (.IfExp (.Compare (.Name kk p2) [.Lt] [.Call (.Name "len" p3) [.Name sc p4] [] p5] p6) (.Call (.Name "abs" p7) [.Subscript (.Name sc p8) (.Name kk p9) p10] [] p11) (.BinOp (.BinOp (.Constant (.int A) n1 p12) .Mult (.Name kk p13) p14) .Add (.Constant (.int B) n2 p15) p16) p17)
      (fun σ H Q => ∃ (p : Addr) (k : Int) (ns : List Int), σ[0]? = some (some (.ref p)) ∧ σ[1]? = some (some (.int k)) ∧ SqL X.K H p (ns.map V.int) ∧ 0 ≤ k ∧ ∀ x, Q (.int x) H) := by
    refine PE.imp (pe_ifExp (pt_cmpR op_lt eK eL (nobehind _ (by decide) (by decide))) eA (pe_op op_add (pe_op op_mul pe_int eK) pe_int)) fun σ H Q ⟨p, k, ns, hs0, hs1, hp, hk, q⟩ => ?_
    refine ⟨_, hs1, _, hs0, _, ns.length, rfl, ⟨?_, k, ns.length, rfl, rfl, decide (k < ns.length), rfl, ?_⟩⟩
    · exact .inl ⟨_, hp, by rw [List.length_map]⟩
    · by_cases h : k < ns.length
      · obtain ⟨x, hx⟩ := atI_map hk h
        rw [show decide (k < (ns.length : Int)) = true by simpa using h]
        exact ⟨_, hs0, _, hs1, p, _, k, _, rfl, rfl, hp, hx, x, rfl, q _⟩
      · rw [show decide (k < (ns.length : Int)) = false by simpa using h]
        exact ⟨_, hs1, _, _, rfl, rfl, .inl hA', _, _, rfl, rfl, q _⟩
  refine PSs.imp (pss_cons (ps_set hnd h2 (.inl s2) eV rfl (.inr s2)) (pss_one (ps_ret eR))) fun D σ H ⟨p, k, ns, hs0, hs1, hl, hp, hk, hk', q⟩ => ?_
  refine ⟨p, k, ns, hs0, hs1, hp, hk, fun x => ?_⟩
  refine ⟨k, x, ?_, ?_, fun z a b hz h1 h2 h3 => q z a b hz h1 h2 h3⟩
  · rw [List.getElem?_set_ne (by decide)]; exact hs1
  · rw [List.getElem?_set_self (by omega)]
end
theorem same_hole {H H' : Hp} {p : Addr} {o : HO} (h : H p = some o) (g : Same (hole H p) H') : Same H (upd H' p o) := fun a u e => by
  by_cases ha : a = p
  · subst ha; rw [h] at e; cases e; exact upd_same
  · rw [upd_ne ha]; exact g _ _ (by rw [hole_ne ha]; exact e)
theorem cxC_of {P : Program} {w : World} {K : PySem.W.Frag} {mg : Str → Option Value} {base : Heap} {N : List Str} {qual : Str} {scope : Scope} {f : Addr} {cd : Value} {A : Around} {outer : List PySem.Env} {s : Shared} {H : Hp} {E : XK} {k : Nat} {CX : CXT}
    (hr : Room k (A.deeper (envOfC qual scope s.heap.objs.size f cd))) (hg : A.guards = some []) : CxC (cxOf CX P w K mg base N qual scope f cd A outer s H E) := ⟨by have := hr.un; show (A.deeper (envOfC qual scope s.heap.objs.size f cd)).units + 70 < _; omega, rfl, hg⟩
section
variable {P : Program} {w : World} {K : PySem.W.Frag} {mg : Str → Option Value} {base : Heap} {x qual : Str} {params : Arguments} {body : List Stmt} {scope : Scope} {f : Addr} {fd : FuncData} {k : Nat}
theorem drawG {po ma di : Str} (F : FunD K x qual params body scope [] [] f fd) (S : FnScope [po, ma, di] [po, ma] scope) (hb : ∀ X : Cx, CxC X → X.K = K → X.mg = mg → X.N = [po, ma, di] → X.env.scope = scope → PSs X body tDraw) : FnG P w K mg base (k + 1) f fd [po, ma] spDraw := by
  refine fnG_of F S (fun vs H Q ⟨p, n, e, _⟩ => by rw [e]; rfl) fun cdv A outer s H vs Q hr hgd ⟨p, n, e, hp, h1, h2, q⟩ => ?_
  subst e
  refine ⟨_, pss_pot (p := p) (hb _ (cxC_of hr hgd) rfl rfl rfl rfl), hp, fun a b ha hb hb' => ⟨p, a, b, n, rfl, rfl, rfl, upd_same, ha, hb, hb', h1, h2, fun d a' b' H' g1 g2 g3 g4 g5 g6 g7 => ⟨a', b', g7, g3, g4, g5, ?_⟩⟩⟩
  have := q d.toNat (upd H' p (.ext (PotAt p))) (by omega) (same_hole hp fun b u e => g6 b u (by
    by_cases hb : b = p
    · subst hb; rw [hole_at] at e; cases e
    · rw [hole_ne hb] at e ⊢; rw [upd_ne hb]; exact e))
  rwa [show ((d.toNat : Nat) : Int) = d by omega] at this
theorem makeG {sc kk ce : Str} (F : FunD K x qual params body scope [] [] f fd) (S : FnScope [sc, kk, ce] [sc, kk] scope) (hb : ∀ X : Cx, CxC X → X.K = K → X.mg = mg → X.N = [sc, kk, ce] → X.env.scope = scope → PSs X body (tMake K)) : FnG P w K mg base (k + 1) f fd [sc, kk] (spPot K) := by
  refine fnG_of F S (fun vs H Q ⟨p, n, _, e, _⟩ => by rw [e]; rfl) fun cdv A outer s H vs Q hr hgd ⟨p, n, ns, e, hp, h1, h2, q⟩ => ?_
  subst e
  refine ⟨_, pss_new (hb _ (cxC_of hr hgd) rfl rfl rfl rfl), p, n, ns, rfl, rfl, rfl, hp, h1, h2, fun z a b hz ha hb hb' => ⟨z, a, b, rfl, upd_same, ha, hb, hb', ?_⟩⟩
  refine q z _ hz (fun c u e => ?_) upd_same
  have : c ≠ z := by rintro rfl; rw [hz] at e; cases e
  rw [upd_ne this, upd_ne this]; exact e
end
end Ev

set_option maxHeartbeats 2000000
namespace Ev
open PySem PySem.Spec PyProof.Rows L2
/-! Ev18: the check of IR against the text -/
structure Glb where
  fn : Nat → Str → Nat → List Str → List Ag → Bool
  blt : Str → Bool
  cst : Str → PyData → Bool
  dn : Str → Bool
  pn : Str → Bool
structure Ctx where
  N : List Str
  sc : Scope
  tgk : Str → Bool
  g : Glb
structure CtxOk (C : Ctx) (Φ : Phi) (X : Cx) : Prop where
  hN : X.N = C.N
  nd : X.N.Nodup
  sc : X.env.scope = C.sc
  c : CxC X
  tg : ∀ x, C.tgk x = true → Loc X.env.scope x ∧ (X.fn x = true ∨ X.env.scope.names.lookup x = some .local)
  fn : ∀ f x np ks ar, C.g.fn f x np ks ar = true → FnRef X (Φ f) x np ks ar
  blt : ∀ x, C.g.blt x = true → X.mg x = none
  cst : ∀ x d, C.g.cst x d = true → ∃ v u, X.mg x = some u ∧ RelV v u ∧ ∀ F, Dn X.K F v d
  dn : ∀ x, C.g.dn x = true → SpRef X spDraw x 2
  pn : ∀ x, C.g.pn x = true → SpRef X (spPot X.K) x 2
def okN (x : Str) : Bool := !(x == ("__debug__" : Str)) && !(x == ("__classdict__" : Str)) && !decide (x = ("__name__" : Str))
def Ctx.nm (C : Ctx) (i : Nat) (x : Str) : Bool := decide (C.N[i]? = some x)
def Ctx.vis (C : Ctx) (x : Str) : Bool := match C.sc.names.lookup x with
  | some .local => true
  | some .cell => true
  | some .free => true
  | _ => false
def Ctx.vr (C : Ctx) (i : Nat) (x : Str) : Bool := C.nm i x && C.vis x && okN x
def Ctx.gl (C : Ctx) (x : Str) : Bool := (match C.sc.names.lookup x with | some .globalImplicit => true | _ => false) && okN x
def Ctx.bl (C : Ctx) (x : Str) : Bool := C.gl x && C.g.blt x
section
variable {C : Ctx} {Φ : Phi} {X : Cx} {x : Str} {i : Nat}
theorem okN_1 (h : okN x = true) : (x == ("__debug__" : Str)) = false ∧ (x == ("__classdict__" : Str)) = false ∧ x ≠ ("__name__" : Str) := by
  unfold okN at h
  simp only [Bool.and_eq_true, Bool.not_eq_true', decide_eq_false_iff_not] at h
  exact ⟨h.1.1, h.1.2, h.2⟩
theorem CtxOk.nm (k : CtxOk C Φ X) (h : C.nm i x = true) : X.N[i]? = some x := by
  rw [k.hN]; exact of_decide_eq_true h
theorem CtxOk.vis (k : CtxOk C Φ X) (h : C.vis x = true) : Vis X.env.scope x := by
  rw [k.sc]
  unfold Ctx.vis at h
  split at h <;> first | exact .inl (by assumption) | exact .inr (.inl (by assumption)) | exact .inr (.inr (by assumption)) | cases h
theorem CtxOk.vr (k : CtxOk C Φ X) (h : C.vr i x = true) : X.N[i]? = some x ∧ Vis X.env.scope x ∧ (x == ("__debug__" : Str)) = false ∧ (x == ("__classdict__" : Str)) = false := by
  unfold Ctx.vr at h
  simp only [Bool.and_eq_true] at h
  have := okN_1 h.2
  exact ⟨k.nm h.1.1, k.vis h.1.2, this.1, this.2.1⟩
theorem CtxOk.gl (k : CtxOk C Φ X) (h : C.gl x = true) : Gl X x ∧ (x == ("__debug__" : Str)) = false ∧ x ≠ ("__name__" : Str) := by
  unfold Ctx.gl at h
  simp only [Bool.and_eq_true] at h
  have := okN_1 h.2
  refine ⟨?_, this.1, this.2.2⟩
  show X.env.scope.names.lookup x = some .globalImplicit
  rw [k.sc]
  have h1 := h.1
  split at h1 <;> first | assumption | cases h1
theorem CtxOk.bl (k : CtxOk C Φ X) (h : C.bl x = true) : Gl X x ∧ X.mg x = none ∧ (x == ("__debug__" : Str)) = false ∧ x ≠ ("__name__" : Str) := by
  unfold Ctx.bl at h
  simp only [Bool.and_eq_true] at h
  obtain ⟨h1, h2, h3⟩ := k.gl h.1
  exact ⟨h1, k.blt x h.2, h2, h3⟩
end
/-! parts of the text -/
def plainTest : Expr → Bool
  | .UnaryOp .Not _ _ => false
  | .BoolOp .. => false
  | .IfExp .. => false
  | .Compare .. => false
  | _ => true
theorem plain_test {e : Expr} {env : PySem.Env} (h : plainTest e = true) : ∀ whole, isTrue e env whole = (do let v ← whole; standAt e.pos; holding [v] (truthy v)) := by
  intro whole
  cases e with
  | UnaryOp op _ _ => cases op <;> first | rfl | (simp [plainTest] at h; done)
  | _ => first | rfl | (simp [plainTest] at h; done)
def isBool : Expr → Bool
  | .BoolOp .. => true
  | _ => false
/-- what a check gives -/
def Got (X : Cx) (e : Expr) (m : Env → T (R × Env)) : Bool → Prop
  | false => PE X e (tEv X.K m)
  | true => PT X e (tTv X.K m) ∧ (isBool e = true → PW X e (tTv X.K m))
theorem Got.plain {X : Cx} {Φ : Phi} {e : Expr} {a : Ex} {m : Bool} (h : PE X e (tEv X.K (ev Φ a))) (hp : plainTest e = true) : Got X e (ev Φ a) m := by
  cases m with
  | false => exact h
  | true => exact ⟨te_plain h (plain_test hp), fun z => by cases e <;> first | (simp [isBool] at z; done) | (simp [plainTest] at hp; done)⟩
def baseOk : Expr → Bool
  | .Name .. => true
  | .Subscript .. => true
  | .Call (.Name _ _) (_ :: _) _ _ => true
  | _ => false
theorem base_ok {o : Expr} {a : Str} {env : PySem.Env} (h : baseOk o = true) : attributeBase o a env (eval o env) = eval o env := by
  cases o with
  | Name _ _ => rfl
  | Subscript _ _ _ => rfl
  | Call f as ks p =>
    cases f with
    | Name x q => cases as with
      | nil => cases h
      | cons a as => rfl
    | _ => cases h
  | _ => cases h
def notSet : Expr → Bool
  | .Set .. => false
  | _ => true
theorem notSet_ok {e : Expr} {env : PySem.Env} (h : notSet e = true) : ∀ x, foldedSetIterable e env x = pure x := by
  intro x
  cases e <;> first | rfl | cases h
def notComp : Expr → Bool
  | .ListComp .. => false
  | .SetComp .. => false
  | .DictComp .. => false
  | _ => true
theorem notComp_ok {e : Expr} {t : Option Expr} {l : Nat} {env : PySem.Env} (h : notComp e = true) : swapsWith e t l env = pure false := by
  cases e <;> first | rfl | cases h
theorem pe_end {X : Cx} {op : BoolOp} {l : Expr} {t : TE} {pos : Pos} (h : PE X l t) : PE X (.BoolOp op [l] pos) t := ⟨fun pins s σ H Q I q => h.run pins s σ H Q I q⟩
def litV : Const → Option (V × PyData)
  | .none => some (.non, .none)
  | .bool b => some (.bl b, .bool b)
  | .int i => some (.int i, .int i)
  | .str s => some (.str s, .str s)
  | _ => none
theorem lit_ok {X : Cx} {c : Const} {v : V} {d : PyData} {k : Nat} {pos : Pos} (h : litV c = some (v, d)) : PE X (.Constant c k pos) (tC v) ∧ ∀ F, Dn X.K F v d := by
  cases c with
  | none =>
    cases h
    exact ⟨by first | exact pe_none | exact pe_non, fun F => .non⟩
  | bool b =>
    cases h
    exact ⟨by first | exact pe_bool | exact pe_bl, fun F => .bl b⟩
  | int i => cases h; exact ⟨pe_int, fun F => .int i⟩
  | str s => cases h; exact ⟨pe_str, fun F => .str s⟩
  | _ => cases h
end Ev

set_option maxHeartbeats 4000000
namespace Ev
open PySem PySem.Spec PyProof.Rows L2
/-! Ev19: expressions are checked -/
section
variable {X : Cx} {Φ : Phi} {z l r : Expr} {c a b : Ex} {pos : Pos}
/-- a if t else b, as a test -/
theorem te_ite (hc : PT X z (tTv X.K (ev Φ c))) (ha : PT X l (tTv X.K (ev Φ a))) (hb : PT X r (tTv X.K (ev Φ b))) : PT X (.IfExp z l r pos) (tTv X.K (ev Φ (.ite c a b))) := by
  refine ⟨fun pins s σ H Q I ⟨G, F, env, rs, h⟩ => ?_⟩
  have h2 := T.All_bind.mp (T.All_bind.mp h)
  refine isTrue_IfExp (thn (hc.run pins s σ H (fun d H1 => if d = true then tTv X.K (ev Φ a) σ H1 Q else tTv X.K (ev Φ b) σ H1 Q) I ⟨G, F, env, rs, h2.mono fun x hx => ?_⟩) fun d s1 ⟨H1, I1, q1⟩ => ?_)
  · obtain ⟨t, e1⟩ := x
    intro F' H' s' rs'
    cases t with
    | true =>
      simp only [if_true] at hx ⊢
      exact ⟨G, F', e1, rs', (T.All_bind.mpr hx).mono fun y hy F2 H2 s2 rs2 => hy F2 H2 (s'.trans s2) rs2⟩
    | false =>
      simp only [Bool.false_eq_true, if_false] at hx ⊢
      exact ⟨G, F', e1, rs', (T.All_bind.mpr hx).mono fun y hy F2 H2 s2 rs2 => hy F2 H2 (s'.trans s2) rs2⟩
  · cases d with
    | true => exact ha.run pins s1 σ H1 Q I1 q1
    | false => exact hb.run pins s1 σ H1 Q I1 q1
end
def opIs (o : Op) (o' : Operator) : Bool := match o, o' with
  | .add, .Add => true
  | .sub, .Sub => true
  | .mul, .Mult => true
  | .fdiv, .FloorDiv => true
  | .mod, .Mod => true
  | .pow, .Pow => true
  | _, _ => false
theorem opIs_ok {o : Op} {o' : Operator} (h : opIs o o' = true) : o' = pyOp o := by cases o <;> cases o' <;> first | rfl | cases h
def cmIs (o : Cm) (o' : CmpOp) : Bool := match o, o' with
  | .eq, .Eq => true
  | .ne, .NotEq => true
  | .lt, .Lt => true
  | .le, .LtE => true
  | .gt, .Gt => true
  | .ge, .GtE => true
  | .isC, .Is => true
  | .isntC, .IsNot => true
  | .inn, .In => true
  | .ntin, .NotIn => true
  | _, _ => false
theorem cmIs_ok {o : Cm} {o' : CmpOp} (h : cmIs o o' = true) : o' = pyCm o := by cases o <;> cases o' <;> first | rfl | cases h
theorem marks_ok {op : CmpOp} {e : Expr} (h : notSet e = true) : behindInMarks op e = false := by cases e <;> first | rfl | cases h
theorem last_ok {o o' : CmpOp} {e e' : Expr} (h : notSet e' = true) : lastMarks [o, o'] [e, e'] = false := by
  show lastMarks [o'] [e'] = false
  exact marks_ok h
/-- the built-ins with a rule of one form -/
def bltN : Blt → Option Str
  | .len => some "len"
  | .list => some "list"
  | .tuple => some "tuple"
  | .sorted => some "sorted"
  | .sum => some "sum"
  | .max => some "max"
  | .min => some "min"
  | .max2 => some "max"
  | .min2 => some "min"
  | .all => some "all"
  | .any => some "any"
  | .abs => some "abs"
  | .int => some "int"
  | .repr => some "repr"
  | .divmod => some "divmod"
  | _ => none
theorem boot_of {b : Blt} {x : Str} (h : bltN b = some x) : bootBuiltins x = some (pyB b) := by
  cases b <;> simp only [bltN, Option.some.injEq, reduceCtorEq] at h <;> subst h <;> first | decide +kernel | exact boot_repr
def tyIs (t : Ty) (y : Str) : Bool := match t with
  | .int => decide (y = ("int" : Str))
  | .bool => decide (y = ("bool" : Str))
  | .str => decide (y = ("str" : Str))
  | .list => decide (y = ("list" : Str))
  | .tuple => decide (y = ("tuple" : Str))
  | .listtuple => false
def isLT : Ty → Bool
  | .listtuple => true
  | _ => false
def tyE (C : Ctx) (t : Ty) : Expr → Bool
  | .Name y _ => C.bl y && tyIs t y
  | .Tuple [.Name y _, .Name z _] _ _ => isLT t && C.bl y && C.bl z && ((decide (y = ("list" : Str)) && decide (z = ("tuple" : Str))) || (decide (y = ("tuple" : Str)) && decide (z = ("list" : Str))))
  | _ => false
def linesOk (a c : Pos) : Bool := a.endLine == c.line
/-- a block's context -/
def Ctx.blk (C : Ctx) (scope : Scope) : Ctx := { C with sc := relS scope C.sc, tgk := fun x => match scope.names.lookup x with | some .local => true | some .cell => true | _ => false }
def ownP (C : Ctx) (own : List Nat) : List (Str × Nat) := own.map fun i => (C.N.getD i "", i)
theorem ownP_snd {C : Ctx} {own : List Nat} : (ownP C own).map (·.2) = own := by
  unfold ownP
  rw [List.map_map]
  exact List.map_id own
mutual
def ckT (C : Ctx) : Tg → Expr → Bool
  | .nm i, .Name x _ => C.nm i x && C.tgk x
  | .tp ts, .Tuple es _ _ => ckTs C ts es
  | _, _ => false
def ckTs (C : Ctx) : List Tg → List Expr → Bool
  | [], [] => true
  | t :: ts, e :: es => plainTg e && ckT C t e && ckTs C ts es
  | _, _ => false
end
def litE : PyData → PyData → Bool
  | .none, .none => true
  | .bool a, .bool b => a == b
  | .int a, .int b => decide (a = b)
  | .str a, .str b => decide (a = b)
  | _, _ => false
theorem litE_ok {a b : PyData} (h : litE a b = true) : a = b := by
  cases a <;> cases b <;> simp only [litE, reduceCtorEq, decide_eq_true_eq, beq_iff_eq] at h <;> first | rfl | rw [h]
mutual
def ck (m : Bool) : Ex → Ctx → Expr → Bool
  | .var i, C, .Name x _ => C.vr i x
  | .cst d, C, .Constant c _ _ => (match litV c with | some (_, d') => litE d d' | none => false)
  | .cst d, C, .Name x _ => C.gl x && C.g.cst x d
  | .tup es, C, .Tuple xs _ _ => ckK es C xs []
  | .lst es, C, .List xs _ => ckK es C xs []
  | .bin o a b, C, .BinOp l o' r _ => opIs o o' && ck false a C l && ck false b C r
  | .neg a, C, .UnaryOp .USub l _ => ck false a C l
  | .not a, C, .UnaryOp .Not l _ => ck m a C l
  | .and a b, C, .BoolOp .And (l :: r :: rest) p => ck m a C l && (match rest with | [] => ck m b C r | _ :: _ => ck m b C (.BoolOp .And (r :: rest) p))
  | .or a b, C, .BoolOp .Or (l :: r :: rest) p => ck m a C l && (match rest with | [] => ck m b C r | _ :: _ => ck m b C (.BoolOp .Or (r :: rest) p))
  | .cmp o a b, C, .Compare l [o'] [r] _ => cmIs o o' && notSet r && ck false a C l && ck false b C r
  | .chain o1 o2 a b c, C, .Compare l [o1', o2'] [r, z] _ => cmIs o1 o1' && cmIs o2 o2' && notSet z && ck false a C l && ck false b C r && ck false c C z
  | .ite c a b, C, .IfExp z l r _ => ck true c C z && ck m a C l && ck m b C r
  | .rev a, C, .Subscript l (.Slice none none (some (.UnaryOp .USub (.Constant (.int k) _ _) _)) _) _ => decide (k = 1) && ck false a C l
  | .slc a lo hi, C, .Subscript l (.Slice el eh none _) _ => ck false a C l && ckO lo C el && ckO hi C eh
  | .idx a b, C, .Subscript l r _ => noSl r && ck false a C l && ck false b C r
  | .blt (.isi t) [a], C, e => (match e with
    | .Call (.Name f _) [l, ty] [] _ => decide (f = ("isinstance" : Str)) && C.bl f && tyE C t ty && noStar l && ck false a C l
    | _ => false)
  | .blt (.isi _) _, _, _ => false
  | .blt .rngL es, C, e => (match e with
    | .Call (.Name f _) [.Call (.Name y _) xs [] _] [] _ => decide (f = ("list" : Str)) && C.bl f && decide (y = ("range" : Str)) && C.bl y && decide (xs.length = 1 ∨ xs.length = 2) && ckK es C xs []
    | _ => false)
  | .blt .rngT es, C, e => (match e with
    | .Call (.Name f _) [.Call (.Name y _) xs [] _] [] _ => decide (f = ("tuple" : Str)) && C.bl f && decide (y = ("range" : Str)) && C.bl y && decide (xs.length = 1 ∨ xs.length = 2) && ckK es C xs []
    | _ => false)
  | .blt b es, C, e => (match e with
    | .Call (.Name f _) (x :: xs) [] _ => decide (bltN b = some f) && C.bl f && ckK es C (x :: xs) []
    | _ => false)
  | .call f es ar, C, .Call (.Name x _) xs ks _ => C.gl x && C.g.fn f x xs.length (kwNames ks) ar && kwAll ks && ckK es C xs ks
  | .comp own elt tg src cond, C, .ListComp elt' [⟨tge, iter, ifs, as⟩] scope _ => decide (as = 0) && blkC C.N C.sc scope (ownP C own) && (slT tg).all (fun i => decide (i ∈ own)) && (!isPair src || isTp tg) && notSet iter && ckS src C tge iter && ckT (C.blk scope) tg tge && plainTg tge
      && ckC cond (C.blk scope) ifs && ck false elt (C.blk scope) elt'
  | .pop i none, C, .Call (.Attribute (.Name x _) f ap) [] [] cp => decide (f = ("pop" : Str)) && C.vr i x && linesOk ap cp
  | .pop i (some e), C, .Call (.Attribute (.Name x _) f ap) [l] [] cp => decide (f = ("pop" : Str)) && C.vr i x && linesOk ap cp && noStar l && ck false e C l
  | .meth .index a [b], C, .Call (.Attribute o f ap) [l] [] cp => decide (f = ("index" : Str)) && baseOk o && linesOk ap cp && noStar l && ck false a C o && ck false b C l
  | .meth .count a [b], C, .Call (.Attribute o f ap) [l] [] cp => decide (f = ("count" : Str)) && baseOk o && linesOk ap cp && noStar l && ck false a C o && ck false b C l
  | .draw i e, C, .Call (.Name y _) [.Name x _, l] [] _ => C.gl y && C.g.dn y && C.vr i x && noStar l && ck false e C l
  | .mkpot i e, C, .Call (.Name y _) [.Name x _, l] [] _ => C.gl y && C.g.pn y && C.vr i x && noStar l && ck false e C l
  | .lenS i, C, .Call (.Name f _) [.Name x _] [] _ => decide (f = ("len" : Str)) && C.bl f && C.vr i x
  | .dnew, _, .Dict [] [] _ => true
  | .dinn n a i, C, .Compare l [o'] [.Name x _] _ => cmIs (if n then .ntin else .inn) o' && C.vr i x && ck false a C l
  | .dget i a, C, .Subscript (.Name x _) r _ => noSl r && C.vr i x && ck false a C r
  | .dof a, C, .Call (.Name f _) [l] [] _ => decide (f = ("dict" : Str)) && C.bl f && noStar l && ck false a C l
  | _, _, _ => false
def ckK : List Ex → Ctx → List Expr → List Keyword → Bool
  | e :: es, C, x :: xs, ks => noStar x && ck false e C x && ckK es C xs ks
  | e :: es, C, [], k :: ks => ck false e C k.value && ckK es C [] ks
  | [], _, [], [] => true
  | _, _, _, _ => false
def ckO : Option Ex → Ctx → Option Expr → Bool
  | none, _, none => true
  | some e, C, some x => ck false e C x
  | _, _, _ => false
def ckC : Option Ex → Ctx → List Expr → Bool
  | none, _, [] => true
  | some e, C, [x] => ck true e C x
  | _, _, _ => false
def ckS : Sr → Ctx → Expr → Expr → Bool
  | .lend i, C, _, .Name x _ => C.vr i x
  | .rng es, C, _, .Call (.Name f _) xs [] _ => decide (f = ("range" : Str)) && C.bl f && decide (es.length = xs.length) && decide (xs.length = 1 ∨ xs.length = 2 ∨ xs.length = 3) && ckK es C xs []
  | .enum a, C, .Tuple _ _ _, .Call (.Name f _) [x] [] _ => decide (f = ("enumerate" : Str)) && C.bl f && noStar x && ck false a C x
  | .zip a b, C, .Tuple _ _ _, .Call (.Name f _) [x, y] [] _ => decide (f = ("zip" : Str)) && C.bl f && noStar x && noStar y && ck false a C x && ck false b C y
  | .over a, C, _, e => ck false a C e
  | _, _, _, _ => false
end
end Ev

set_option maxHeartbeats 8000000
namespace Ev
open PySem PySem.Spec PyProof.Rows L2
/-! Ev20: a checked expression is what its IR says -/
theorem noSl_D {i : Expr} (h : noSl i = true) : NoSl i := by
  intro o v
  cases i <;> first | rfl | (simp [noSl] at h; done)
theorem tyIs_ok {t : Ty} {y : Str} (h : tyIs t y = true) : ∃ s : String, tyS t = [s] ∧ y = (s : Str) ∧ bootBuiltins y = some (.type s) := by
  cases t <;> simp only [tyIs, decide_eq_true_eq, reduceCtorEq] at h <;> subst h <;> first
    | exact ⟨_, rfl, rfl, boot_int⟩ | exact ⟨_, rfl, rfl, boot_bool⟩ | exact ⟨_, rfl, rfl, boot_str⟩ | exact ⟨_, rfl, rfl, boot_list⟩ | exact ⟨_, rfl, rfl, boot_tuple⟩
theorem ckTs_plain {C : Ctx} : ∀ {ts : List Tg} {es : List Expr}, ckTs C ts es = true → es.all plainTg = true ∧ es.length = ts.length
  | [], [], _ => ⟨rfl, rfl⟩
  | [], _ :: _, h => by exact Bool.noConfusion (show false = true from h)
  | _ :: _, [], h => by exact Bool.noConfusion (show false = true from h)
  | t :: ts, e :: es, h => by
    have h : (plainTg e && ckT C t e && ckTs C ts es) = true := h
    simp only [Bool.and_eq_true] at h
    obtain ⟨h1, h2⟩ := ckTs_plain h.2
    exact ⟨by simp [h.1.1, h1], congrArg Nat.succ h2⟩
mutual
theorem ckT_ok {C : Ctx} {Φ : Phi} {X : Cx} (k : CtxOk C Φ X) : ∀ (tg : Tg) (e : Expr), ckT C tg e = true → PG X e (gT X.K tg)
  | .nm i, e, h => by
    match e, h with
    | .Name x p, h =>
      have h : (C.nm i x && C.tgk x) = true := h
      simp only [Bool.and_eq_true] at h
      obtain ⟨h1, h2⟩ := k.tg x h.2
      exact sg_nm k.nd (k.nm h.1) h1 h2
  | .tp ts, e, h => by
    match e, h with
    | .Tuple es n p, h =>
      have h : ckTs C ts es = true := h
      obtain ⟨h1, h2⟩ := ckTs_plain h
      exact sg_tp k.c.hc h1 h2 (ckTs_ok k ts es h)
theorem ckTs_ok {C : Ctx} {Φ : Phi} {X : Cx} (k : CtxOk C Φ X) : ∀ (ts : List Tg) (es : List Expr), ckTs C ts es = true → PGs X es (gTs X.K ts)
  | [], es, h => by
    match es, h with
    | [], _ => exact sgs_nil
  | t :: ts, es, h => by
    match es, h with
    | e :: es, h =>
      have h : (plainTg e && ckT C t e && ckTs C ts es) = true := h
      simp only [Bool.and_eq_true] at h
      exact sgs_cons h.1.1 (ckT_ok k t e h.1.2) (ckTs_ok k ts es h.2)
end
/-- the block's context is one -/
theorem CtxOk.blk {C : Ctx} {Φ : Phi} {X : Cx} (k : CtxOk C Φ X) (scope : Scope) (s : Shared) (H : Hp) (cc : Addr) (cl : List (Str × Addr)) (fp : List Addr) : CtxOk (C.blk scope) Φ (X.blk s H scope (compEnvC scope cl cc X.env) fp) where
  hN := k.hN
  nd := k.nd
  sc := by
    show relabel scope X.env = relS scope C.sc
    unfold relabel relS
    rw [← k.sc]
    rfl
  c := ⟨k.c.hu, k.c.hc, k.c.hg⟩
  tg := fun x h => by
    have h : (match scope.names.lookup x with | some .local => true | some .cell => true | _ => false) = true := h
    show Loc (relabel scope X.env) x ∧ ((scope.names.lookup x == some .cell) = true ∨ (relabel scope X.env).names.lookup x = some .local)
    split at h
    · rename_i hl
      have : (relabel scope X.env).names.lookup x = some .local := lookup_relS_keep (sc := X.env.scope) (by decide) hl
      exact ⟨.inl this, .inr this⟩
    · rename_i hl
      have : (relabel scope X.env).names.lookup x = some .cell := lookup_relS_keep (sc := X.env.scope) (by decide) hl
      exact ⟨.inr this, .inl (by rw [hl]; rfl)⟩
    · cases h
  fn := fun f x np ks ar h => by
    obtain ⟨kk, fa, fd, ps, h1, h2, h3, h4, h5⟩ := (k.fn f x np ks ar h).ex
    exact ⟨kk, fa, fd, ps, h1, h2, h3, h4, h5⟩
  blt := k.blt
  cst := k.cst
  dn := fun x h => by
    obtain ⟨kk, fa, fd, ps, h1⟩ := (k.dn x h).ex
    exact ⟨kk, fa, fd, ps, h1⟩
  pn := fun x h => by
    obtain ⟨kk, fa, fd, ps, h1⟩ := (k.pn x h).ex
    exact ⟨kk, fa, fd, ps, h1⟩
/-- a call's arguments -/
def GotK (X : Cx) (Φ : Phi) (es : List Ex) (xs : List Expr) (ks : List Keyword) : Prop := ∃ c1 c2, es = c1 ++ c2 ∧ c1.length = xs.length ∧ c2.length = ks.length ∧ xs.all noStar = true ∧ PA X xs (tCvs X.K (evs Φ c1)) ∧ PK X ks (tCvs X.K (evs Φ c2))
theorem GotK.pos {X : Cx} {Φ : Phi} {es : List Ex} {xs : List Expr} (h : GotK X Φ es xs []) : es.length = xs.length ∧ xs.all noStar = true ∧ PA X xs (tCvs X.K (evs Φ es)) := by
  obtain ⟨c1, c2, rfl, h1, h2, h3, h4, _⟩ := h
  cases c2 with
  | nil => rw [List.append_nil]; exact ⟨h1, h3, h4⟩
  | cons _ _ => cases h2
theorem slT_ok {tg : Tg} {own : List Nat} (h : (slT tg).all (fun i => decide (i ∈ own)) = true) : ∀ i ∈ slT tg, i ∈ own := fun i hi => of_decide_eq_true (List.all_eq_true.mp h i hi)
theorem pair_ok {src : Sr} {tg : Tg} (h : (!isPair src || isTp tg) = true) : isPair src = true → isTp tg = true := fun z => by rw [z] at h; exact h
theorem len12 {xs : List Expr} (h : xs.length = 1 ∨ xs.length = 2) : (∃ e, xs = [e]) ∨ ∃ e e', xs = [e, e'] := by
  match xs, h with
  | [a], _ => exact .inl ⟨a, rfl⟩
  | [a, b], _ => exact .inr ⟨a, b, rfl⟩
theorem kw_len {ks : List Keyword} (h : kwAll ks = true) : (kwNames ks).length = ks.length := by
  induction ks with
  | nil => rfl
  | cons k ks ih =>
    unfold kwAll at h
    simp only [List.all_cons, Bool.and_eq_true] at h
    obtain ⟨y, hy⟩ := Option.isSome_iff_exists.mp h.1
    unfold kwNames
    rw [List.filterMap_cons, hy]
    exact congrArg Nat.succ (ih h.2)
theorem gen_blt {C : Ctx} {b : Blt} {e : Expr} {g : Expr → List Expr → Bool} (h : (match e with | .Call (.Name f _) (x :: xs) [] _ => decide (bltN b = some f) && C.bl f && g x xs | _ => false) = true) : ∃ f q x xs p, e = .Call (.Name f q) (x :: xs) [] p ∧ bltN b = some f ∧ C.bl f = true ∧ g x xs = true := by
  match e, h with
  | .Call (.Name f q) (x :: xs) [] p, h =>
    have h : (decide (bltN b = some f) && C.bl f && g x xs) = true := h
    simp only [Bool.and_eq_true, decide_eq_true_eq] at h
    exact ⟨f, q, x, xs, p, rfl, h.1.1, h.1.2, h.2⟩
theorem blt_gen {C : Ctx} {Φ : Phi} {X : Cx} {b : Blt} {es : List Ex} {e : Expr} {m : Bool} (k : CtxOk C Φ X) (rc : ∀ x xs, ckK es C (x :: xs) [] = true → GotK X Φ es (x :: xs) [])
    (h : (match e with | .Call (.Name f _) (x :: xs) [] _ => decide (bltN b = some f) && C.bl f && ckK es C (x :: xs) [] | _ => false) = true) : Got X e (ev Φ (.blt b es)) m := by
  obtain ⟨f, q, x, xs, p, rfl, h1, h2, h3⟩ := gen_blt (g := fun x xs => ckK es C (x :: xs) []) h
  obtain ⟨g1, g2, g3, g4⟩ := k.bl h2
  obtain ⟨l1, ns, pa⟩ := (rc x xs h3).pos
  have ns' := ns
  simp only [List.all_cons, Bool.and_eq_true] at ns'
  refine Got.plain ?_ rfl
  cases hb : pyB b with
  | builtin id =>
    by_cases hr : b = .repr
    · subst hr
      have hf : f = ("repr" : Str) := (Option.some.inj h1).symm
      subst hf
      exact se_repr k.c g1 g2 ns'.1 ns'.2 pa
    · exact se_bltB k.c hb hr g1 g2 (boot_of h1) g4 g3 ns'.1 ns'.2 pa
  | type T =>
    exact se_bltT k.c hb (by rintro rfl; cases hb) g1 g2 (boot_of h1) g4 g3 ns'.1 ns'.2 pa
  | _ => cases b <;> first | (cases hb; done) | (cases h1; done)
theorem tyE_ok {C : Ctx} {Φ : Phi} {X : Cx} {t : Ty} {l ty : Expr} {a : Ex} {p pos : Pos} (k : CtxOk C Φ X) (hg : Gl X "isinstance") (hm : X.mg "isinstance" = none) (h : tyE C t ty = true) (he : noStar l = true) (ha : PE X l (tEv X.K (ev Φ a))) : PE X (.Call (.Name "isinstance" p) [l, ty] [] pos) (tEv X.K (ev Φ (.blt (.isi t) [a]))) := by
  match ty, h with
  | .Name y q, h =>
    have h : (C.bl y && tyIs t y) = true := h
    simp only [Bool.and_eq_true] at h
    obtain ⟨g1, g2, g3, g4⟩ := k.bl h.1
    obtain ⟨s, h1, rfl, h3⟩ := tyIs_ok h.2
    exact se_isi h1 hg hm g1 g2 h3 g4 g3 he ha
  | .Tuple [.Name y q, .Name z q2] n q3, h =>
    have h : (isLT t && C.bl y && C.bl z && ((decide (y = ("list" : Str)) && decide (z = ("tuple" : Str))) || (decide (y = ("tuple" : Str)) && decide (z = ("list" : Str))))) = true := h
    simp only [Bool.and_eq_true, Bool.or_eq_true, decide_eq_true_eq] at h
    obtain ⟨⟨⟨h1, h2⟩, h3⟩, h4⟩ := h
    have ht : t = .listtuple := by cases t <;> first | rfl | cases h1
    subst ht
    obtain ⟨g1, g2, _⟩ := k.bl h2
    obtain ⟨f1, f2, _⟩ := k.bl h3
    rcases h4 with ⟨rfl, rfl⟩ | ⟨rfl, rfl⟩
    · exact se_isi2 (.inl ⟨rfl, rfl⟩) hg hm g1 g2 f1 f2 he ha
    · exact se_isi2 (.inr ⟨rfl, rfl⟩) hg hm g1 g2 f1 f2 he ha
mutual
theorem ck_ok {Φ : Phi} : ∀ (m : Bool) (a : Ex) (C : Ctx) (X : Cx) (e : Expr), CtxOk C Φ X → ck m a C e = true → Got X e (ev Φ a) m
  | m, .var i, C, X, e, k, h => by
    match e, h with
    | .Name x p, h =>
      have h : C.vr i x = true := h
      obtain ⟨h1, h2, h3, h4⟩ := k.vr h
      exact Got.plain (se_var h1 h2 h3 h4) rfl
  | m, .cst d, C, X, e, k, h => by
    match e, h with
    | .Constant c n p, h =>
      have h : (match litV c with | some (_, d') => litE d d' | none => false) = true := h
      split at h
      · rename_i v d' hl
        obtain ⟨h1, h2⟩ := lit_ok (X := X) (k := n) (pos := p) hl
        rw [litE_ok h]
        exact Got.plain (se_cst h1 h2) rfl
      · cases h
    | .Name x p, h =>
      have h : (C.gl x && C.g.cst x d) = true := h
      simp only [Bool.and_eq_true] at h
      obtain ⟨h1, h2, h3⟩ := k.gl h.1
      obtain ⟨v, u, g1, g2, g3⟩ := k.cst x d h.2
      exact Got.plain (se_cst (pe_glob h1 g1 g2 h2) g3) rfl
  | m, .tup es, C, X, e, k, h => by
    match e, h with
    | .Tuple xs n p, h => exact Got.plain (se_tup (ckK_ok es C X xs [] k h).pos.2.2) rfl
  | m, .lst es, C, X, e, k, h => by
    match e, h with
    | .List xs p, h => exact Got.plain (se_lst (ckK_ok es C X xs [] k h).pos.2.2) rfl
  | m, .bin o a b, C, X, e, k, h => by
    match e, h with
    | .BinOp l o' r p, h =>
      have h : (opIs o o' && ck false a C l && ck false b C r) = true := h
      simp only [Bool.and_eq_true] at h
      rw [opIs_ok h.1.1]
      exact Got.plain (se_bin (ck_ok false a C X l k h.1.2) (ck_ok false b C X r k h.2)) rfl
  | m, .neg a, C, X, e, k, h => by
    match e, h with
    | .UnaryOp .USub l p, h => exact Got.plain (se_neg (ck_ok false a C X l k h)) rfl
  | m, .not a, C, X, e, k, h => by
    match e, h with
    | .UnaryOp .Not l p, h =>
      have h : ck m a C l = true := h
      have g := ck_ok m a C X l k h
      cases m with
      | false => exact se_not g
      | true => exact ⟨te_not g.1, fun z => by cases z⟩
  | m, .and a b, C, X, e, k, h => by
    match e, h with
    | .BoolOp .And (l :: r :: []) p, h =>
      have h : (ck m a C l && ck m b C r) = true := h
      simp only [Bool.and_eq_true] at h
      have g1 := ck_ok m a C X l k h.1
      have g2 := ck_ok m b C X r k h.2
      cases m with
      | false => exact se_and g1 (pe_end g2)
      | true =>
        have w := te_and (pos := p) g1.1 (pw_end g2.1 (.inl rfl))
        exact ⟨w.pt, fun _ => w⟩
    | .BoolOp .And (l :: r :: q :: rest) p, h =>
      have h : (ck m a C l && ck m b C (.BoolOp .And (r :: q :: rest) p)) = true := h
      simp only [Bool.and_eq_true] at h
      have g1 := ck_ok m a C X l k h.1
      have g2 := ck_ok m b C X _ k h.2
      cases m with
      | false => exact se_and g1 g2
      | true =>
        have w := te_and (pos := p) g1.1 (g2.2 rfl)
        exact ⟨w.pt, fun _ => w⟩
  | m, .or a b, C, X, e, k, h => by
    match e, h with
    | .BoolOp .Or (l :: r :: []) p, h =>
      have h : (ck m a C l && ck m b C r) = true := h
      simp only [Bool.and_eq_true] at h
      have g1 := ck_ok m a C X l k h.1
      have g2 := ck_ok m b C X r k h.2
      cases m with
      | false => exact se_or g1 (pe_end g2)
      | true =>
        have w := te_or (pos := p) g1.1 (pw_end g2.1 (.inr rfl))
        exact ⟨w.pt, fun _ => w⟩
    | .BoolOp .Or (l :: r :: q :: rest) p, h =>
      have h : (ck m a C l && ck m b C (.BoolOp .Or (r :: q :: rest) p)) = true := h
      simp only [Bool.and_eq_true] at h
      have g1 := ck_ok m a C X l k h.1
      have g2 := ck_ok m b C X _ k h.2
      cases m with
      | false => exact se_or g1 g2
      | true =>
        have w := te_or (pos := p) g1.1 (g2.2 rfl)
        exact ⟨w.pt, fun _ => w⟩
  | m, .cmp o a b, C, X, e, k, h => by
    match e, h with
    | .Compare l [o'] [r] p, h =>
      have h : (cmIs o o' && notSet r && ck false a C l && ck false b C r) = true := h
      simp only [Bool.and_eq_true] at h
      obtain ⟨⟨⟨h1, h2⟩, h3⟩, h4⟩ := h
      rw [cmIs_ok h1]
      have hu : X.A.units + 65 < cLine := by have := k.c.hu; omega
      have g1 := ck_ok false a C X l k h3
      have g2 := ck_ok false b C X r k h4
      cases m with
      | false => exact se_cmp hu (marks_ok h2) g1 g2
      | true => exact ⟨te_cmp hu (marks_ok h2) g1 g2, fun z => by cases z⟩
  | m, .chain o1 o2 a b c, C, X, e, k, h => by
    match e, h with
    | .Compare l [o1', o2'] [r, z] p, h =>
      have h : (cmIs o1 o1' && cmIs o2 o2' && notSet z && ck false a C l && ck false b C r && ck false c C z) = true := h
      simp only [Bool.and_eq_true] at h
      obtain ⟨⟨⟨⟨⟨h1, h2⟩, h3⟩, h4⟩, h5⟩, h6⟩ := h
      rw [cmIs_ok h1, cmIs_ok h2]
      have hu : X.A.units + 65 < cLine := by have := k.c.hu; omega
      have g1 := ck_ok false a C X l k h4
      have g2 := ck_ok false b C X r k h5
      have g3 := ck_ok false c C X z k h6
      cases m with
      | false => exact se_chain hu (last_ok h3) g1 g2 g3
      | true => exact ⟨te_chain hu (last_ok h3) g1 g2 g3, fun z => by cases z⟩
  | m, .ite c a b, C, X, e, k, h => by
    match e, h with
    | .IfExp z l r p, h =>
      have h : (ck true c C z && ck m a C l && ck m b C r) = true := h
      simp only [Bool.and_eq_true] at h
      obtain ⟨⟨h2, h3⟩, h4⟩ := h
      cases m with
      | false => exact se_ite (ck_ok true c C X z k h2).1 (ck_ok false a C X l k h3) (ck_ok false b C X r k h4)
      | true => exact ⟨te_ite (ck_ok true c C X z k h2).1 (ck_ok true a C X l k h3).1 (ck_ok true b C X r k h4).1, fun z => by cases z⟩
  | m, .rev a, C, X, e, k, h => by
    match e, h with
    | .Subscript l (.Slice none none (some (.UnaryOp .USub (.Constant (.int kk) n p1) p2)) p3) p, h =>
      have h : (decide (kk = 1) && ck false a C l) = true := h
      simp only [Bool.and_eq_true, decide_eq_true_eq] at h
      rw [h.1]
      exact Got.plain (se_rev (ck_ok false a C X l k h.2)) rfl
  | m, .slc a lo hi, C, X, e, k, h => by
    match e, h with
    | .Subscript l (.Slice el eh none q) p, h =>
      have h : (ck false a C l && ckO lo C el && ckO hi C eh) = true := h
      simp only [Bool.and_eq_true] at h
      exact Got.plain (se_slc (ck_ok false a C X l k h.1.1) (ckO_ok lo C X el k h.1.2) (ckO_ok hi C X eh k h.2)) rfl
  | m, .idx a b, C, X, e, k, h => by
    match e, h with
    | .Subscript l r p, h =>
      have h : (noSl r && ck false a C l && ck false b C r) = true := h
      simp only [Bool.and_eq_true] at h
      exact Got.plain (se_idx (plainIx_of h.1.1) (ck_ok false a C X l k h.1.2) (ck_ok false b C X r k h.2)) rfl
  | m, .blt (.isi t) es, C, X, e, k, h => by
    match es, e, h with
    | [a], .Call (.Name f q) [l, ty] [] p, h =>
      have h : (decide (f = ("isinstance" : Str)) && C.bl f && tyE C t ty && noStar l && ck false a C l) = true := h
      simp only [Bool.and_eq_true, decide_eq_true_eq] at h
      obtain ⟨⟨⟨⟨h1, h2⟩, h3⟩, h4⟩, h5⟩ := h
      subst h1
      obtain ⟨g1, g2, g3, g4⟩ := k.bl h2
      exact Got.plain (tyE_ok k g1 g2 h3 h4 (ck_ok false a C X l k h5)) rfl
  | m, .blt .rngL es, C, X, e, k, h => by
    match e, h with
    | .Call (.Name f q) [.Call (.Name y q2) xs [] q3] [] p, h =>
      have h : (decide (f = ("list" : Str)) && C.bl f && decide (y = ("range" : Str)) && C.bl y && decide (xs.length = 1 ∨ xs.length = 2) && ckK es C xs []) = true := h
      simp only [Bool.and_eq_true, decide_eq_true_eq] at h
      obtain ⟨⟨⟨⟨⟨h1, h2⟩, h3⟩, h4⟩, h5⟩, h6⟩ := h
      subst h1 h3
      obtain ⟨g1, g2, _⟩ := k.bl h2
      obtain ⟨f1, f2, _⟩ := k.bl h4
      obtain ⟨l1, ns, pa⟩ := (ckK_ok es C X xs [] k h6).pos
      exact Got.plain (se_rngL k.c f1 f2 g1 g2 (len12 h5) ns pa) rfl
  | m, .blt .rngT es, C, X, e, k, h => by
    match e, h with
    | .Call (.Name f q) [.Call (.Name y q2) xs [] q3] [] p, h =>
      have h : (decide (f = ("tuple" : Str)) && C.bl f && decide (y = ("range" : Str)) && C.bl y && decide (xs.length = 1 ∨ xs.length = 2) && ckK es C xs []) = true := h
      simp only [Bool.and_eq_true, decide_eq_true_eq] at h
      obtain ⟨⟨⟨⟨⟨h1, h2⟩, h3⟩, h4⟩, h5⟩, h6⟩ := h
      subst h1 h3
      obtain ⟨g1, g2, _⟩ := k.bl h2
      obtain ⟨f1, f2, _⟩ := k.bl h4
      obtain ⟨l1, ns, pa⟩ := (ckK_ok es C X xs [] k h6).pos
      exact Got.plain (se_rngT k.c f1 f2 g1 g2 (len12 h5) ns pa) rfl
  | m, .blt .len es, C, X, e, k, h => blt_gen k (fun x xs h => ckK_ok es C X (x :: xs) [] k h) h
  | m, .blt .list es, C, X, e, k, h => blt_gen k (fun x xs h => ckK_ok es C X (x :: xs) [] k h) h
  | m, .blt .tuple es, C, X, e, k, h => blt_gen k (fun x xs h => ckK_ok es C X (x :: xs) [] k h) h
  | m, .blt .sorted es, C, X, e, k, h => blt_gen k (fun x xs h => ckK_ok es C X (x :: xs) [] k h) h
  | m, .blt .sum es, C, X, e, k, h => blt_gen k (fun x xs h => ckK_ok es C X (x :: xs) [] k h) h
  | m, .blt .max es, C, X, e, k, h => blt_gen k (fun x xs h => ckK_ok es C X (x :: xs) [] k h) h
  | m, .blt .min es, C, X, e, k, h => blt_gen k (fun x xs h => ckK_ok es C X (x :: xs) [] k h) h
  | m, .blt .max2 es, C, X, e, k, h => blt_gen k (fun x xs h => ckK_ok es C X (x :: xs) [] k h) h
  | m, .blt .min2 es, C, X, e, k, h => blt_gen k (fun x xs h => ckK_ok es C X (x :: xs) [] k h) h
  | m, .blt .all es, C, X, e, k, h => blt_gen k (fun x xs h => ckK_ok es C X (x :: xs) [] k h) h
  | m, .blt .any es, C, X, e, k, h => blt_gen k (fun x xs h => ckK_ok es C X (x :: xs) [] k h) h
  | m, .blt .abs es, C, X, e, k, h => blt_gen k (fun x xs h => ckK_ok es C X (x :: xs) [] k h) h
  | m, .blt .int es, C, X, e, k, h => blt_gen k (fun x xs h => ckK_ok es C X (x :: xs) [] k h) h
  | m, .blt .repr es, C, X, e, k, h => blt_gen k (fun x xs h => ckK_ok es C X (x :: xs) [] k h) h
  | m, .blt .divmod es, C, X, e, k, h => blt_gen k (fun x xs h => ckK_ok es C X (x :: xs) [] k h) h
  | m, .call f es ar, C, X, e, k, h => by
    match e, h with
    | .Call (.Name x q) xs ks p, h =>
      have h : (C.gl x && C.g.fn f x xs.length (kwNames ks) ar && kwAll ks && ckK es C xs ks) = true := h
      simp only [Bool.and_eq_true] at h
      obtain ⟨⟨⟨h1, h2⟩, h3⟩, h4⟩ := h
      obtain ⟨g1, g2, g3⟩ := k.gl h1
      obtain ⟨c1, c2, rfl, l1, l2, ns, pa, pk⟩ := ckK_ok es C X xs ks k h4
      have R := k.fn f x xs.length (kwNames ks) ar h2
      have lk := (kw_len h3).trans l2.symm
      rw [← l1] at R
      refine Got.plain ?_ rfl
      cases xs with
      | nil =>
        cases c1 with
        | cons _ _ => cases l1
        | nil =>
          cases ks with
          | nil => cases c2 with
            | nil => exact se_call0 k.c R g1 g2
            | cons _ _ => cases l2
          | cons kw ks => exact se_callK0 k.c R g1 g2 h3 lk pk
      | cons x xs =>
        cases ks with
        | nil => cases c2 with
          | nil => exact se_call k.c R g1 g2 ns pa
          | cons _ _ => cases l2
        | cons kw ks => exact se_callK k.c R g1 g2 ns h3 lk pa pk
  | m, .comp own elt tg src cond, C, X, e, k, h => by
    match e, h with
    | .ListComp elt' [⟨tge, iter, ifs, as⟩] scope p, h =>
      have h : (decide (as = 0) && blkC C.N C.sc scope (ownP C own) && (slT tg).all (fun i => decide (i ∈ own)) && (!isPair src || isTp tg) && notSet iter && ckS src C tge iter && ckT (C.blk scope) tg tge && plainTg tge
        && ckC cond (C.blk scope) ifs && ck false elt (C.blk scope) elt') = true := h
      simp only [Bool.and_eq_true, decide_eq_true_eq] at h
      obtain ⟨⟨⟨⟨⟨⟨⟨⟨⟨h1, h2⟩, h3⟩, h4⟩, h5⟩, h6⟩, h7⟩, h8⟩, h9⟩, h10⟩ := h
      subst h1
      have ok : BlkOk X.N X.env.scope scope (ownP C own) := by rw [k.hN, k.sc]; exact blkOk_by h2
      have g := se_comp (Φ := Φ) (ce := elt) (cond := cond) (pos := p) k.c k.nd (ckS_ok src C X tge iter k h6) ok (by rw [ownP_snd]; exact slT_ok h3) (pair_ok h4) (fun s H cc cl fp => ckT_ok (k.blk scope s H cc cl fp) tg tge h7)
        (fun s H cc cl fp => ckC_ok cond (C.blk scope) _ ifs (k.blk scope s H cc cl fp) h9) (fun s H cc cl fp => ck_ok false elt (C.blk scope) _ elt' (k.blk scope s H cc cl fp) h10) (notSet_ok h5)
      rw [ownP_snd] at g
      exact Got.plain g rfl
  | m, .pop i none, C, X, e, k, h => by
    match e, h with
    | .Call (.Attribute (.Name x q) f ap) [] [] cp, h =>
      have h : (decide (f = ("pop" : Str)) && C.vr i x && linesOk ap cp) = true := h
      simp only [Bool.and_eq_true, decide_eq_true_eq] at h
      obtain ⟨⟨h1, h2⟩, h3⟩ := h
      subst h1
      obtain ⟨g1, g2, g3, g4⟩ := k.vr h2
      exact Got.plain (se_pop0 g1 g2 g3 g4 h3) rfl
  | m, .pop i (some a), C, X, e, k, h => by
    match e, h with
    | .Call (.Attribute (.Name x q) f ap) [l] [] cp, h =>
      have h : (decide (f = ("pop" : Str)) && C.vr i x && linesOk ap cp && noStar l && ck false a C l) = true := h
      simp only [Bool.and_eq_true, decide_eq_true_eq] at h
      obtain ⟨⟨⟨⟨h1, h2⟩, h3⟩, h4⟩, h5⟩ := h
      subst h1
      obtain ⟨g1, g2, g3, g4⟩ := k.vr h2
      exact Got.plain (se_pop1 g1 g2 g3 g4 h3 h4 (ck_ok false a C X l k h5)) rfl
  | m, .meth .index a es, C, X, e, k, h => by
    match es, e, h with
    | [b], .Call (.Attribute o f ap) [l] [] cp, h =>
      have h : (decide (f = ("index" : Str)) && baseOk o && linesOk ap cp && noStar l && ck false a C o && ck false b C l) = true := h
      simp only [Bool.and_eq_true, decide_eq_true_eq] at h
      obtain ⟨⟨⟨⟨⟨h1, h2⟩, h3⟩, h4⟩, h5⟩, h6⟩ := h
      subst h1
      exact Got.plain (se_index k.c (ck_ok false a C X o k h5) (ck_ok false b C X l k h6) h4 (base_ok h2) h3) rfl
  | m, .meth .count a es, C, X, e, k, h => by
    match es, e, h with
    | [b], .Call (.Attribute o f ap) [l] [] cp, h =>
      have h : (decide (f = ("count" : Str)) && baseOk o && linesOk ap cp && noStar l && ck false a C o && ck false b C l) = true := h
      simp only [Bool.and_eq_true, decide_eq_true_eq] at h
      obtain ⟨⟨⟨⟨⟨h1, h2⟩, h3⟩, h4⟩, h5⟩, h6⟩ := h
      subst h1
      exact Got.plain (se_count (ck_ok false a C X o k h5) (ck_ok false b C X l k h6) h4 (base_ok h2) h3) rfl
  | m, .draw i a, C, X, e, k, h => by
    match e, h with
    | .Call (.Name y q) [.Name x q2, l] [] p, h =>
      have h : (C.gl y && C.g.dn y && C.vr i x && noStar l && ck false a C l) = true := h
      simp only [Bool.and_eq_true] at h
      obtain ⟨⟨⟨⟨h1, h2⟩, h3⟩, h4⟩, h5⟩ := h
      obtain ⟨g1, g2, g3⟩ := k.gl h1
      obtain ⟨f1, f2, f3, f4⟩ := k.vr h3
      exact Got.plain (se_draw k.c (k.dn y h2) g1 g2 f1 f2 f3 f4 h4 (ck_ok false a C X l k h5)) rfl
  | m, .mkpot i a, C, X, e, k, h => by
    match e, h with
    | .Call (.Name y q) [.Name x q2, l] [] p, h =>
      have h : (C.gl y && C.g.pn y && C.vr i x && noStar l && ck false a C l) = true := h
      simp only [Bool.and_eq_true] at h
      obtain ⟨⟨⟨⟨h1, h2⟩, h3⟩, h4⟩, h5⟩ := h
      obtain ⟨g1, g2, g3⟩ := k.gl h1
      obtain ⟨f1, f2, f3, f4⟩ := k.vr h3
      exact Got.plain (se_mkpot k.c (k.pn y h2) g1 g2 f1 f2 f3 f4 h4 (ck_ok false a C X l k h5)) rfl
  | m, .lenS i, C, X, e, k, h => by
    match e, h with
    | .Call (.Name f q) [.Name x q2] [] p, h =>
      have h : (decide (f = ("len" : Str)) && C.bl f && C.vr i x) = true := h
      simp only [Bool.and_eq_true, decide_eq_true_eq] at h
      obtain ⟨⟨h1, h2⟩, h3⟩ := h
      subst h1
      obtain ⟨g1, g2, g3, g4⟩ := k.bl h2
      obtain ⟨f1, f2, f3, f4⟩ := k.vr h3
      exact Got.plain (se_lenS g1 g2 f1 f2 f3 f4) rfl
  | m, .dnew, C, X, e, k, h => by
    match e, h with
    | .Dict [] [] p, h => exact Got.plain se_dnew rfl
  | m, .dinn n a i, C, X, e, k, h => by
    match e, h with
    | .Compare l [o'] [.Name x p] q, h =>
      have h : (cmIs (if n then .ntin else .inn) o' && C.vr i x && ck false a C l) = true := h
      simp only [Bool.and_eq_true] at h
      obtain ⟨⟨h1, h2⟩, h3⟩ := h
      obtain ⟨g1, g2, g3, g4⟩ := k.vr h2
      rw [cmIs_ok h1]
      cases m with
      | false => exact se_dinn k.c g1 g2 g3 g4 n (ck_ok false a C X l k h3)
      | true => exact ⟨te_dinn k.c g1 g2 g3 g4 n (ck_ok false a C X l k h3), fun z => by simp [isBool] at z⟩
  | m, .dget i a, C, X, e, k, h => by
    match e, h with
    | .Subscript (.Name x p) r q, h =>
      have h : (noSl r && C.vr i x && ck false a C r) = true := h
      simp only [Bool.and_eq_true] at h
      obtain ⟨⟨h1, h2⟩, h3⟩ := h
      obtain ⟨g1, g2, g3, g4⟩ := k.vr h2
      exact Got.plain (se_dget k.c g1 g2 g3 g4 (noSl_D h1) (ck_ok false a C X r k h3)) rfl
  | m, .dof a, C, X, e, k, h => by
    match e, h with
    | .Call (.Name f q) [l] [] p, h =>
      have h : (decide (f = ("dict" : Str)) && C.bl f && noStar l && ck false a C l) = true := h
      simp only [Bool.and_eq_true, decide_eq_true_eq] at h
      obtain ⟨⟨⟨h1, h2⟩, h3⟩, h4⟩ := h
      subst h1
      obtain ⟨g1, g2, _⟩ := k.bl h2
      exact Got.plain (se_dof k.c g1 g2 h3 (ck_ok false a C X l k h4)) rfl
theorem ckK_ok {Φ : Phi} : ∀ (es : List Ex) (C : Ctx) (X : Cx) (xs : List Expr) (ks : List Keyword), CtxOk C Φ X → ckK es C xs ks = true → GotK X Φ es xs ks
  | [], C, X, xs, ks, k, h => by
    match xs, ks, h with
    | [], [], h => exact ⟨[], [], rfl, rfl, rfl, rfl, sa_nil, sk_nil⟩
  | a :: es, C, X, xs, ks, k, h => by
    match xs, ks, h with
    | x :: xs, ks, h =>
      have h : (noStar x && ck false a C x && ckK es C xs ks) = true := h
      simp only [Bool.and_eq_true] at h
      obtain ⟨c1, c2, rfl, l1, l2, ns, pa, pk⟩ := ckK_ok es C X xs ks k h.2
      exact ⟨a :: c1, c2, rfl, congrArg Nat.succ l1, l2, by rw [List.all_cons, h.1.1, ns]; rfl, sa_cons h.1.1 (ck_ok false a C X x k h.1.2) pa, pk⟩
    | [], kw :: ks, h =>
      have h : (ck false a C kw.value && ckK es C [] ks) = true := h
      simp only [Bool.and_eq_true] at h
      obtain ⟨c1, c2, rfl, l1, l2, ns, pa, pk⟩ := ckK_ok es C X [] ks k h.2
      cases c1 with
      | cons _ _ => cases l1
      | nil =>
        obtain ⟨kn, kv, kp⟩ := kw
        exact ⟨[], a :: c2, rfl, rfl, congrArg Nat.succ l2, rfl, sa_nil, sk_cons (ck_ok false a C X kv k h.1) pk⟩
theorem ckO_ok {Φ : Phi} : ∀ (o : Option Ex) (C : Ctx) (X : Cx) (x : Option Expr), CtxOk C Φ X → ckO o C x = true → PO X x (tOv X.K (evO Φ o))
  | none, C, X, x, k, h => by
    match x, h with
    | none, _ => exact so_none
  | some a, C, X, x, k, h => by
    match x, h with
    | some l, h => exact so_some (ck_ok false a C X l k h)
theorem ckC_ok {Φ : Phi} : ∀ (o : Option Ex) (C : Ctx) (X : Cx) (x : List Expr), CtxOk C Φ X → ckC o C x = true → PTs X x (tCd X.K Φ o)
  | none, C, X, x, k, h => by
    match x, h with
    | [], _ => exact sd_none
  | some a, C, X, x, k, h => by
    match x, h with
    | [l], h => exact sd_one (ck_ok true a C X l k h).1
theorem ckS_ok {Φ : Phi} : ∀ (s : Sr) (C : Ctx) (X : Cx) (tg e : Expr), CtxOk C Φ X → ckS s C tg e = true → PI X tg e (tSrc X.K Φ s)
  | .over a, C, X, tg, e, k, h => ss_over (ck_ok false a C X e k h)
  | .lend i, C, X, tg, e, k, h => by
    match e, h with
    | .Name x p, h =>
      obtain ⟨f1, f2, f3, f4⟩ := k.vr (show C.vr i x = true from h)
      exact ss_lend f1 f2 f3 f4
  | .rng es, C, X, tg, e, k, h => by
    match e, h with
    | .Call (.Name f q) xs [] p, h =>
      have h : (decide (f = ("range" : Str)) && C.bl f && decide (es.length = xs.length) && decide (xs.length = 1 ∨ xs.length = 2 ∨ xs.length = 3) && ckK es C xs []) = true := h
      simp only [Bool.and_eq_true, decide_eq_true_eq] at h
      obtain ⟨⟨⟨⟨h1, h2⟩, h3⟩, h4⟩, h5⟩ := h
      subst h1
      obtain ⟨g1, g2, g3, g4⟩ := k.bl h2
      obtain ⟨l1, ns, pa⟩ := (ckK_ok es C X xs [] k h5).pos
      match xs, h4, l1, ns, pa with
      | [a], _, l1, ns, pa => exact ss_rng1 g1 g2 (by simpa using ns) pa l1
      | [a, b], _, l1, ns, pa =>
        simp only [List.all_cons, Bool.and_eq_true] at ns
        exact ss_rng2 g1 g2 ns.1 ns.2.1 pa l1
      | [a, b, c], _, l1, ns, pa =>
        simp only [List.all_cons, Bool.and_eq_true] at ns
        exact ss_rng3 g1 g2 ns.1 ns.2.1 ns.2.2.1 pa l1
  | .enum a, C, X, tg, e, k, h => by
    match tg, e, h with
    | .Tuple ts n q2, .Call (.Name f q) [x] [] p, h =>
      have h : (decide (f = ("enumerate" : Str)) && C.bl f && noStar x && ck false a C x) = true := h
      simp only [Bool.and_eq_true, decide_eq_true_eq] at h
      obtain ⟨⟨⟨h1, h2⟩, h3⟩, h4⟩ := h
      subst h1
      obtain ⟨g1, g2, g3, g4⟩ := k.bl h2
      exact ss_enum g1 g2 h3 (ck_ok false a C X x k h4)
  | .zip a b, C, X, tg, e, k, h => by
    match tg, e, h with
    | .Tuple ts n q2, .Call (.Name f q) [x, y] [] p, h =>
      have h : (decide (f = ("zip" : Str)) && C.bl f && noStar x && noStar y && ck false a C x && ck false b C y) = true := h
      simp only [Bool.and_eq_true, decide_eq_true_eq] at h
      obtain ⟨⟨⟨⟨⟨h1, h2⟩, h3⟩, h4⟩, h5⟩, h6⟩ := h
      subst h1
      obtain ⟨g1, g2, g3, g4⟩ := k.bl h2
      exact ss_zip g1 g2 h3 h4 (ck_ok false a C X x k h5) (ck_ok false b C X y k h6)
end
end Ev

namespace Ev
open PySem PySem.Spec PyProof.Rows L2
/-! Ev21: statements are checked -/
/-- the two texts of a call of append, extend -/
def attrIs (s : Str) (f : Str) (a c : Pos) : Bool := decide (f = s) && linesOk a c
def Ctx.loc (C : Ctx) (x : Str) : Bool := match C.sc.names.lookup x with | some .local => true | _ => false
def isFun (sc : Scope) : Bool := match sc.kind with | .function => true | _ => false
def posLine : Expr → Nat := fun e => e.pos.line
def notTup : Expr → Bool
  | .Tuple .. => false
  | _ => true
/-- the stores are not swapped -/
def swNone : Expr → Expr → Bool
  | .Name .., _ => true
  | .Subscript .., _ => true
  | .Tuple _ _ _, v => notTup v
  | _, _ => false
theorem swNone_ok {t v : Expr} {env : PySem.Env} (h : swNone t v = true) : swappedStores [t] v env = pure none := by
  cases t <;> first | rfl | (cases v <;> first | rfl | (simp [swNone, notTup] at h; done)) | (simp [swNone] at h; done)
def noNm : Expr → Bool
  | .Name .. => false
  | _ => true
theorem sole_ok {t v : Expr} {l : Nat} {env : PySem.Env} (h : notComp v = true) : swapsWithSole [t] v l env = pure false := notComp_ok h
theorem sole_tup {ts : List Expr} {n : Nat} {q : Pos} {v : Expr} {l : Nat} {env : PySem.Env} : swapsWithSole [.Tuple ts n q] v l env = pure false := by
  show swapsWith v (some (.Tuple ts n q)) l env = pure false
  cases v <;> rfl
theorem sole_sub {o i : Expr} {q : Pos} {v : Expr} {l : Nat} {env : PySem.Env} : swapsWithSole [.Subscript o i q] v l env = pure false := by
  show swapsWith v (some (.Subscript o i q)) l env = pure false
  cases v <;> rfl
def okSet : Expr → Bool
  | .ListComp .. => true
  | v => notComp v
def dName : Expr → Option (Str × Pos)
  | .Name x p => some (x, p)
  | _ => none
theorem dName_ok {e : Expr} {x : Str} {p : Pos} (h : dName e = some (x, p)) : e = .Name x p := by
  cases e <;> first | (cases h; rfl) | cases h
def dTup : Expr → Option (List Expr × Nat × Pos)
  | .Tuple es n p => some (es, n, p)
  | _ => none
theorem dTup_ok {e : Expr} {es : List Expr} {n : Nat} {p : Pos} (h : dTup e = some (es, n, p)) : e = .Tuple es n p := by
  cases e <;> first | (cases h; rfl) | cases h
def dSub : Expr → Option (Expr × Expr × Pos)
  | .Subscript o i p => some (o, i, p)
  | _ => none
theorem dSub_ok {e o i : Expr} {p : Pos} (h : dSub e = some (o, i, p)) : e = .Subscript o i p := by
  cases e <;> first | (cases h; rfl) | cases h
def dAsg : Stmt → Option (Expr × Expr × Pos)
  | .Assign ts v q => (match ts with | [t] => some (t, v, q) | _ => none)
  | _ => none
theorem dAsg_ok {st : Stmt} {t v : Expr} {q : Pos} (h : dAsg st = some (t, v, q)) : st = .Assign [t] v q := by
  cases st with
  | Assign ts v q =>
    have h : (match ts with | [t] => some (t, v, q) | _ => none) = some (t, _, _) := h
    match ts, h with
    | [t], h => cases h; rfl
  | _ => cases h
/-- x.m(..) as a statement -/
def dMeth : Stmt → Option (Str × Pos × Str × Pos × List Expr × Pos × Pos)
  | .Expr e q => (match e with
    | .Call f xs ks cp => (match f with
      | .Attribute o m ap => (match dName o, ks with
        | some (x, p), [] => some (x, p, m, ap, xs, cp, q)
        | _, _ => none)
      | _ => none)
    | _ => none)
  | _ => none
theorem dMeth_ok {st : Stmt} {x m : Str} {p ap cp q : Pos} {xs : List Expr} (h : dMeth st = some (x, p, m, ap, xs, cp, q)) : st = .Expr (.Call (.Attribute (.Name x p) m ap) xs [] cp) q := by
  cases st with
  | Expr e q =>
    cases e with
    | Call f xs ks cp =>
      cases f with
      | Attribute o m ap =>
        have h : (match dName o, ks with | some (x, p), [] => some (x, p, m, ap, xs, cp, q) | _, _ => none) = some (_, _, _, _, _, _, _) := h
        cases hn : dName o with
        | none => rw [hn] at h; cases ks <;> cases h
        | some np =>
          obtain ⟨y, py⟩ := np
          rw [hn] at h
          cases ks with
          | nil => cases h; rw [dName_ok hn]
          | cons _ _ => cases h
      | _ => cases h
    | _ => cases h
  | _ => cases h
def par2B (C : Ctx) (i j : Nat) (a b : Ex) (x : Str) (p : Pos) (y : Str) (p2 : Pos) (l1 l2 : Expr) : Bool := C.nm i x && C.nm j y && decide (i ≠ j) && C.loc x && C.loc y && noStar l1 && noStar l2 && ck false a C l1 && ck false b C l2 && (p2.line == p.line) && decide (x ≠ y) && isFun C.sc && !([l1, l2].all (foldedForSure 8)) && !([l1, l2].all (constantsAlone 8))
def par3B (C : Ctx) (i j k : Nat) (a b c : Ex) (x : Str) (p : Pos) (y : Str) (p2 : Pos) (z : Str) (p3 : Pos) (l1 l2 l3 : Expr) : Bool := C.nm i x && C.nm j y && C.nm k z && decide (i ≠ j) && decide (i ≠ k) && decide (j ≠ k) && C.loc x && C.loc y && C.loc z && noStar l1 && noStar l2 && noStar l3 && ck false a C l1 && ck false b C l2 && ck false c C l3
      && (p2.line == p.line) && (p3.line == p.line) && decide (x ≠ y) && decide (x ≠ z) && decide (y ≠ z) && isFun C.sc && !([l1, l2, l3].all (foldedForSure 8)) && !([l1, l2, l3].all (constantsAlone 8))
def parB (C : Ctx) (is : List Nat) (es : List Ex) (ts vs : List Expr) : Bool := match is, es, ts, vs with
  | [i, j], [a, b], [t1, t2], [l1, l2] => (match dName t1, dName t2 with
    | some (x, p), some (y, p2) => par2B C i j a b x p y p2 l1 l2
    | _, _ => false)
  | [i, j, k], [a, b, c], [t1, t2, t3], [l1, l2, l3] => (match dName t1, dName t2, dName t3 with
    | some (x, p), some (y, p2), some (z, p3) => par3B C i j k a b c x p y p2 z p3 l1 l2 l3
    | _, _, _ => false)
  | _, _, _, _ => false
/-- x[j] as a target -/
def subB (C : Ctx) (i : Nat) (j : Ex) (t : Expr) : Bool := match dSub t with
  | some (o, l, _) => (match dName o with
    | some (x, _) => C.vr i x && noSl l && ck false j C l
    | none => false)
  | none => false
def swpB (C : Ctx) (i : Nat) (j : Ex) (i' : Nat) (j' : Ex) (es : List Ex) (ts vs : List Expr) : Bool := match es, ts, vs with
  | [a, b], [t1, t2], [v, v'] => subB C i j t1 && subB C i' j' t2 && noStar v && noStar v' && ck false a C v && ck false b C v'
  | _, _, _ => false
def sbnB (C : Ctx) (i : Nat) (j : Ex) (k : Nat) (ts : List Expr) : Bool := match ts with
  | [t1, t2] => subB C i j t1 && (match dName t2 with | some (y, _) => C.nm k y && C.tgk y | none => false)
  | _ => false
def oneB (C : Ctx) (s : Str) (i : Nat) (e : Ex) (st : Stmt) : Bool := match dMeth st with
  | some (x, _, m, ap, [l], cp, _) => decide (m = s) && linesOk ap cp && C.vr i x && noStar l && ck false e C l
  | _ => false
def insB (C : Ctx) (i : Nat) (j e : Ex) (st : Stmt) : Bool := match dMeth st with
  | some (x, _, m, ap, [l, l'], cp, _) => decide (m = ("insert" : Str)) && linesOk ap cp && C.vr i x && noStar l && noStar l' && ck false j C l && ck false e C l'
  | _ => false
/-- o.m(..) as a statement -/
def dMethO : Stmt → Option (Expr × Str × Pos × List Expr × Pos × Pos)
  | .Expr e q => (match e with
    | .Call f xs ks cp => (match f with
      | .Attribute o m ap => (match ks with
        | [] => some (o, m, ap, xs, cp, q)
        | _ => none)
      | _ => none)
    | _ => none)
  | _ => none
theorem dMethO_ok {st : Stmt} {o : Expr} {m : Str} {ap cp q : Pos} {xs : List Expr} (h : dMethO st = some (o, m, ap, xs, cp, q)) : st = .Expr (.Call (.Attribute o m ap) xs [] cp) q := by
  cases st with
  | Expr e q =>
    cases e with
    | Call f xs ks cp =>
      cases f with
      | Attribute o m ap =>
        have h : (match ks with | [] => some (o, m, ap, xs, cp, q) | _ => none) = some (_, _, _, _, _, _) := h
        cases ks with
        | nil => cases h; rfl
        | cons _ _ => cases h
      | _ => cases h
    | _ => cases h
  | _ => cases h
def dLit : Expr → Option (Const × Nat × Pos)
  | .Constant c n p => some (c, n, p)
  | _ => none
theorem dLit_ok {e : Expr} {c : Const} {n : Nat} {p : Pos} (h : dLit e = some (c, n, p)) : e = .Constant c n p := by
  cases e <;> first | (cases h; rfl) | cases h
def tappB (C : Ctx) (e : Ex) (st : Stmt) : Bool := match dMethO st with
  | some (o, m, ap, [l], cp, _) => (match dLit l with
    | some (c, _, _) => decide (m = ("append" : Str)) && baseOk o && linesOk ap cp && ck false e C o && (litV c).isSome
    | none => false)
  | _ => false
def movB (C : Ctx) (i j : Nat) (st : Stmt) : Bool := match dAsg st with
  | some (t, v, _) => (match dName t, dName v with
    | some (x, _), some (y, _) => C.nm i x && C.tgk x && C.vr j y
    | _, _ => false)
  | none => false
def dDict : Expr → Option (List (Option Expr) × List Expr × Pos)
  | .Dict ks vs p => some (ks, vs, p)
  | _ => none
theorem dDict_ok {e : Expr} {ks : List (Option Expr)} {vs : List Expr} {p : Pos} (h : dDict e = some (ks, vs, p)) : e = .Dict ks vs p := by
  cases e <;> first | (cases h; rfl) | cases h
def dIfE : Expr → Option (Expr × Expr × Expr × Pos)
  | .IfExp a b c p => some (a, b, c, p)
  | _ => none
theorem dIfE_ok {e a b c : Expr} {p : Pos} (h : dIfE e = some (a, b, c, p)) : e = .IfExp a b c p := by
  cases e <;> first | (cases h; rfl) | cases h
/-- f(x, ..) without keywords -/
def dCall : Expr → Option (Expr × Expr × List Expr × Pos)
  | .Call f xs ks p => (match xs, ks with
    | x :: xs, [] => some (f, x, xs, p)
    | _, _ => none)
  | _ => none
theorem dCall_ok {e f x : Expr} {xs : List Expr} {p : Pos} (h : dCall e = some (f, x, xs, p)) : e = .Call f (x :: xs) [] p := by
  cases e with
  | Call f xs ks p =>
    have h : (match xs, ks with | x :: xs, [] => some (f, x, xs, p) | _, _ => none) = some (_, _, _, _) := h
    cases xs with
    | nil => cases h
    | cons x xs => cases ks with
      | nil => cases h; rfl
      | cons _ _ => cases h
  | _ => cases h
def dRet : Stmt → Option (Expr × Pos)
  | .Return o p => (match o with
    | some e => some (e, p)
    | none => none)
  | _ => none
theorem dRet_ok {st : Stmt} {e : Expr} {p : Pos} (h : dRet st = some (e, p)) : st = .Return (some e) p := by
  cases st with
  | Return o p => cases o with
    | some e => cases h; rfl
    | none => cases h
  | _ => cases h
def dStrK : Option Expr → Option (Str × Nat × Pos)
  | some e => (match dLit e with
    | some (c, n, p) => (match c with
      | .str s => some (s, n, p)
      | _ => none)
    | none => none)
  | none => none
theorem dStrK_ok {o : Option Expr} {s : Str} {n : Nat} {p : Pos} (h : dStrK o = some (s, n, p)) : o = some (.Constant (.str s) n p) := by
  cases o with
  | none => cases h
  | some e =>
    have h : (match dLit e with | some (c, n, p) => (match c with | .str s => some (s, n, p) | _ => none) | none => none) = some (_, _, _) := h
    split at h
    · rename_i c n p hl
      rw [dLit_ok hl]
      cases c <;> first | (cases h; rfl) | cases h
    · cases h
def FDb (C : Ctx) (np : Nat) (ar : List Ag) : List (Str × Nat) → List (Option Expr) → List Expr → Bool
  | [], [], [] => true
  | (s, f) :: kvs, k :: ks, v :: vs => (match dStrK k, dName v with
    | some (z, _, _), some (x, _) => decide (s = z) && C.gl x && C.g.fn f x np [] ar && FDb C np ar kvs ks vs
    | _, _ => false)
  | _, _, _ => false
def fdsB (C : Ctx) (s : Stm) (ss : List Stm) (x : Stmt) (xs : List Stmt) : Bool := match s, ss, xs with
  | .fds ci kvs t a j es ar, [], [y] => (match dAsg x, dRet y with
    | some (tg, v, _), some (r, _) => (match dName tg, dDict v, dIfE r with
      | some (cx, _), some (ks, vs, _), some (te, ae, be, _) => (match dCall be with
        | some (lf, c2, [], _) => (match dName lf, dCall c2 with
          | some (ln, _), some (sb, e, el, _) => (match dSub sb with
            | some (o, i, _) => (match dName o, dName i with
              | some (cx', _), some (sx, _) => decide (cx' = cx) && decide (ln = ("len" : Str)) && C.bl ln && C.nm ci cx && C.tgk cx && C.vr ci cx && C.vr j sx && ckK es C (e :: el) [] && FDb C es.length ar kvs ks vs && decide (kvs.map (·.1)).Nodup && !ks.isEmpty && decide (ks.length ≤ 15) && ck true t C te && ck false a C ae
              | _, _ => false)
            | none => false)
          | _, _ => false)
        | _ => false)
      | _, _, _ => false)
    | _, _ => false)
  | _, _, _ => false
def isDoc : Stmt → Bool
  | .Pass _ => true
  | .Expr e _ => (match e with | .Constant c _ _ => (match c with | .str _ => true | _ => false) | _ => false)
  | _ => false
mutual
def ckX : Stm → Ctx → Stmt → Bool
  | .set i e, C, st => (match dAsg st with
    | some (t, v, _) => (match dName t with
      | some (x, _) => C.nm i x && C.tgk x && okSet v && ck false e C v
      | none => false)
    | none => false)
  | .asg tg e, C, st => (match dAsg st with
    | some (t, v, _) => plainTg t && swNone t v && (notComp v || noNm t) && ckT C tg t && ck false e C v
    | none => false)
  | .par is es, C, st => (match dAsg st with
    | some (t, v, _) => (match dTup t, dTup v with
      | some (ts, _, _), some (vs, _, _) => parB C is es ts vs
      | _, _ => false)
    | none => false)
  | .seti i j e, C, st => (match dAsg st with
    | some (t, v, _) => subB C i j t && ck false e C v
    | none => false)
  | .swp i j i' j' es, C, st => (match dAsg st with
    | some (t, v, _) => (match dTup t, dTup v with
      | some (ts, _, _), some (vs, _, _) => swpB C i j i' j' es ts vs
      | _, _ => false)
    | none => false)
  | .sbn i j k e, C, st => (match dAsg st with
    | some (t, v, _) => (match dTup t with
      | some (ts, _, _) => sbnB C i j k ts && notTup v && ck false e C v
      | none => false)
    | none => false)
  | .app i e, C, st => oneB C "append" i e st
  | .ext i e, C, st => oneB C "extend" i e st
  | .ins i j e, C, st => insB C i j e st
  | .xpr e, C, st => (match st with | .Expr v _ => notComp v && ck false e C v | _ => false)
  | .ret e, C, st => (match st with | .Return o _ => (match o with | some v => ck false e C v | none => false) | _ => false)
  | .retN, _, st => (match st with | .Return o _ => (match o with | some _ => false | none => true) | _ => false)
  | .ite c a b, C, st => (match st with | .If t x y _ => ck true c C t && ckXs a C x && ckXs b C y | _ => false)
  | .whl c b, C, st => (match st with | .While t x y _ => y.isEmpty && ck true c C t && ckXs b C x | _ => false)
  | .forS w tg src b, C, st => (match st with | .For t e x y _ => y.isEmpty && plainTg t && ckT C tg t && ckS src C t e && (!isPair src || isTp tg) && notSet e && ckXs b C x | _ => false)
  | .rais, _, _ => true
  | .pass, _, st => isDoc st
  | .brk, _, st => (match st with | .Break _ => true | _ => false)
  | .dput i j e, C, st => (match dAsg st with
    | some (t, v, _) => subB C i j t && notComp v && ck false e C v
    | none => false)
  | .dupd i e, C, st => oneB C "update" i e st
  | .tapp e _, C, st => tappB C e st
  | .mov i j, C, st => movB C i j st
  | .fds .., _, _ => false
def ckXs : List Stm → Ctx → List Stmt → Bool
  | [], _, [] => true
  | s :: ss, C, x :: xs => (ckX s C x && ckXs ss C xs) || fdsB C s ss x xs
  | _, _, _ => false
end
section
variable {C : Ctx} {Φ : Phi} {X : Cx}
theorem CtxOk.loc (k : CtxOk C Φ X) {x : Str} (h : C.loc x = true) : X.env.scope.names.lookup x = some .local := by
  rw [k.sc]
  unfold Ctx.loc at h
  split at h
  · assumption
  · cases h
theorem CtxOk.fun_ (k : CtxOk C Φ X) (h : isFun C.sc = true) : X.env.blockKind = .function := by
  have : X.env.scope.kind = .function := by
    rw [k.sc]
    unfold isFun at h
    split at h
    · assumption
    · cases h
  unfold PySem.Env.blockKind
  rw [this]
  rfl
theorem sole_any {t v : Expr} {l : Nat} {env : PySem.Env} (hp : plainTg t = true) (h : (notComp v || noNm t) = true) : swapsWithSole [t] v l env = pure false := by
  rw [Bool.or_eq_true] at h
  rcases h with h | h
  · exact sole_ok h
  · cases t <;> first | exact sole_tup | (simp [noNm] at h; done) | (simp [plainTg] at hp; done)
theorem dup2 {x y : Str} (h : x ≠ y) : [x, y].eraseDups = [x, y] := by
  have : (y == x) = false := by simpa using Ne.symm h
  simp [List.eraseDups_cons, this, Ne.symm h]
theorem dup3 {x y z : Str} (h : x ≠ y) (h2 : x ≠ z) (h3 : y ≠ z) : [x, y, z].eraseDups = [x, y, z] := by
  have a : (y == x) = false := by simpa using Ne.symm h
  have b : (z == x) = false := by simpa using Ne.symm h2
  have c : (z == y) = false := by simpa using Ne.symm h3
  simp [List.eraseDups_cons, a, b, c, Ne.symm h, Ne.symm h2, Ne.symm h3]
theorem any_no {f : Expr → Bool} (hf : ∀ l, noStar l = true → f l = false) : ∀ {ls : List Expr}, ls.all noStar = true → ls.any f = false
  | [], _ => rfl
  | l :: ls, h => by
    simp only [List.all_cons, Bool.and_eq_true] at h
    rw [List.any_cons, hf l h.1, any_no hf h.2]
    rfl
theorem par2_ok {x y : Str} {l1 l2 : Expr} {p p2 pt pt2 : Pos} {n n2 : Nat} {env : PySem.Env} (hb : env.blockKind = .function) (hx : env.scope.names.lookup x = some .local) (hy : env.scope.names.lookup y = some .local) (h1 : noStar l1 = true) (h2 : noStar l2 = true) (hl : (p2.line == p.line) = true) (hxy : x ≠ y)
    (hf : ([l1, l2].all (foldedForSure 8)) = false) (hc : ([l1, l2].all (constantsAlone 8)) = false) : swappedStores [.Tuple [.Name x p, .Name y p2] n pt] (.Tuple [l1, l2] n2 pt2) env = pure (some [x, y]) := by
  have kx : env.kindOf x = some .local := hx
  have ky : env.kindOf y = some .local := hy
  have hl' : p2.line = p.line := by simpa using hl
  have hn : ∀ f : Expr → Option Str, f (.Name x p) = some x → f (.Name y p2) = some y → [Expr.Name x p, Expr.Name y p2].filterMap f = [x, y] := fun f a b => by simp [a, b]
  unfold swappedStores
  refine (if_neg (by rw [hb]; simp)).trans ?_
  refine (if_neg (by rw [any_no (fun l h => by cases l <;> first | rfl | (simp [noStar] at h; done)) (show [l1, l2].all noStar = true by simp [h1, h2])]; decide)).trans ?_
  have nm := hn (fun | .Name id pos => if env.kindOf id == some .local && pos.line == p.line then some id else none | _ => none) (by simp [kx]) (by simp [ky, hl'])
  refine (if_neg ?_).trans ?_
  · intro z
    have z' : (([Expr.Name x p, Expr.Name y p2].filterMap (fun | .Name id pos => if env.kindOf id == some .local && pos.line == p.line then some id else none | _ => none)).length != 2 || ([Expr.Name x p, Expr.Name y p2].filterMap (fun | .Name id pos => if env.kindOf id == some .local && pos.line == p.line then some id else none | _ => none)).eraseDups.length != ([Expr.Name x p, Expr.Name y p2].filterMap (fun | .Name id pos => if env.kindOf id == some .local && pos.line == p.line then some id else none | _ => none)).length) = true := z
    rw [nm, dup2 hxy] at z'
    exact absurd z' (by simp)
  · refine (if_neg (by rw [hf]; decide)).trans ?_
    refine (if_neg (by rw [hc]; decide)).trans ?_
    show pure (some ([Expr.Name x p, Expr.Name y p2].filterMap (fun | .Name id pos => if env.kindOf id == some .local && pos.line == p.line then some id else none | _ => none))) = _
    rw [nm]
theorem par3_ok {x y z : Str} {l1 l2 l3 : Expr} {p p2 p3 pt pt2 : Pos} {n n2 : Nat} {env : PySem.Env} (hb : env.blockKind = .function) (hx : env.scope.names.lookup x = some .local) (hy : env.scope.names.lookup y = some .local) (hz : env.scope.names.lookup z = some .local) (h1 : noStar l1 = true) (h2 : noStar l2 = true) (h3 : noStar l3 = true) (hl : (p2.line == p.line) = true) (hl3 : (p3.line == p.line) = true) (hxy : x ≠ y) (hxz : x ≠ z) (hyz : y ≠ z)
    (hf : ([l1, l2, l3].all (foldedForSure 8)) = false) (hc : ([l1, l2, l3].all (constantsAlone 8)) = false) : swappedStores [.Tuple [.Name x p, .Name y p2, .Name z p3] n pt] (.Tuple [l1, l2, l3] n2 pt2) env = pure (some [x, y, z]) := by
  have kx : env.kindOf x = some .local := hx
  have ky : env.kindOf y = some .local := hy
  have kz : env.kindOf z = some .local := hz
  have hl' : p2.line = p.line := by simpa using hl
  have hl3' : p3.line = p.line := by simpa using hl3
  have hn : ∀ f : Expr → Option Str, f (.Name x p) = some x → f (.Name y p2) = some y → f (.Name z p3) = some z → [Expr.Name x p, Expr.Name y p2, Expr.Name z p3].filterMap f = [x, y, z] := fun f a b c => by simp [a, b, c]
  unfold swappedStores
  refine (if_neg (by rw [hb]; simp)).trans ?_
  refine (if_neg (by rw [any_no (fun l h => by cases l <;> first | rfl | (simp [noStar] at h; done)) (show [l1, l2, l3].all noStar = true by simp [h1, h2, h3])]; decide)).trans ?_
  have nm := hn (fun | .Name id pos => if env.kindOf id == some .local && pos.line == p.line then some id else none | _ => none) (by simp [kx]) (by simp [ky, hl']) (by simp [kz, hl3'])
  refine (if_neg ?_).trans ?_
  · intro zz
    have z' : (([Expr.Name x p, Expr.Name y p2, Expr.Name z p3].filterMap (fun | .Name id pos => if env.kindOf id == some .local && pos.line == p.line then some id else none | _ => none)).length != 3 || ([Expr.Name x p, Expr.Name y p2, Expr.Name z p3].filterMap (fun | .Name id pos => if env.kindOf id == some .local && pos.line == p.line then some id else none | _ => none)).eraseDups.length != ([Expr.Name x p, Expr.Name y p2, Expr.Name z p3].filterMap (fun | .Name id pos => if env.kindOf id == some .local && pos.line == p.line then some id else none | _ => none)).length) = true := zz
    rw [nm, dup3 hxy hxz hyz] at z'
    exact absurd z' (by simp)
  · refine (if_neg (by rw [hf]; decide)).trans ?_
    refine (if_neg (by rw [hc]; decide)).trans ?_
    show pure (some ([Expr.Name x p, Expr.Name y p2, Expr.Name z p3].filterMap (fun | .Name id pos => if env.kindOf id == some .local && pos.line == p.line then some id else none | _ => none))) = _
    rw [nm]
theorem ckSet_ok {i : Nat} {e : Ex} {x : Str} {p q : Pos} {v : Expr} (k : CtxOk C Φ X) (h : (C.nm i x && C.tgk x && okSet v && ck false e C v) = true) : PS X (.Assign [.Name x p] v q) (tSt X.K (ex Φ (.set i e))) := by
  simp only [Bool.and_eq_true] at h
  obtain ⟨⟨⟨h1, h2⟩, h3⟩, h4⟩ := h
  obtain ⟨g1, g2⟩ := k.tg x h2
  by_cases hc : notComp v = true
  · exact sx_set k.nd (k.nm h1) g1 g2 (notComp_ok hc) (ck_ok false e C X v k h4)
  · cases v with
    | ListComp elt' gens scope pos =>
      have hpe : PE X _ _ := ck_ok false _ C X _ k h4
      cases e with
      | comp own elt tg src cond =>
        cases gens with
        | nil => exact Bool.noConfusion (show false = true from h4)
        | cons gen gens => cases gens with
          | cons _ _ => cases gen; exact Bool.noConfusion (show false = true from h4)
          | nil =>
            obtain ⟨tge, iter, ifs, as⟩ := gen
            have h : (decide (as = 0) && blkC C.N C.sc scope (ownP C own) && (slT tg).all (fun i => decide (i ∈ own)) && (!isPair src || isTp tg) && notSet iter && ckS src C tge iter && ckT (C.blk scope) tg tge && plainTg tge
              && ckC cond (C.blk scope) ifs && ck false elt (C.blk scope) elt') = true := h4
            simp only [Bool.and_eq_true, decide_eq_true_eq] at h
            obtain ⟨⟨⟨⟨⟨⟨⟨⟨⟨h1', h2'⟩, h3'⟩, h4'⟩, h5'⟩, h6'⟩, h7'⟩, h8'⟩, h9'⟩, h10'⟩ := h
            subst h1'
            cases hb : (X.env.blockKind == .function && X.env.kindOf x == some .local && p.line == pos.line && !(scope.names.any fun (n, k) => n == x && (k == .local || k == .cell))) with
            | false =>
              exact sx_set k.nd (k.nm h1) g1 g2 (show swapsWith _ _ _ _ = pure false by
                show (pure (X.env.blockKind == .function && X.env.kindOf x == some .local && p.line == pos.line && !(scope.names.any fun (n, k) => n == x && (k == .local || k == .cell))) : Sem Bool) = pure false
                rw [hb]) hpe
            | true =>
              have hl : X.env.scope.names.lookup x = some .local := by
                simp only [Bool.and_eq_true] at hb
                exact eq_of_beq hb.1.1.2
              have ok : BlkOk X.N X.env.scope scope (ownP C own) := by rw [k.hN, k.sc]; exact blkOk_by h2'
              have g := sx_setLc (Φ := Φ) (ce := elt) (cond := cond) (pos := pos) (spos := q) (py := p) k.c k.nd (k.nm h1) hl (show swapsWith _ _ _ _ = pure true by
                show (pure (X.env.blockKind == .function && X.env.kindOf x == some .local && p.line == pos.line && !(scope.names.any fun (n, k) => n == x && (k == .local || k == .cell))) : Sem Bool) = pure true
                rw [hb]) (ckS_ok src C X tge iter k h6') ok (by rw [ownP_snd]; exact slT_ok h3') (pair_ok h4') (fun s H cc cl fp => ckT_ok (k.blk scope s H cc cl fp) tg tge h7')
                (fun s H cc cl fp => ckC_ok cond (C.blk scope) _ ifs (k.blk scope s H cc cl fp) h9') (fun s H cc cl fp => ck_ok false elt (C.blk scope) _ elt' (k.blk scope s H cc cl fp) h10') (notSet_ok h5')
              rw [ownP_snd] at g
              exact g
      | blt b es => cases b <;> first | exact Bool.noConfusion (show false = true from h4) | (rcases es with _ | ⟨a, _ | ⟨b, r⟩⟩ <;> exact Bool.noConfusion (show false = true from h4))
      | pop i o => cases o <;> exact Bool.noConfusion (show false = true from h4)
      | meth m a es => cases m <;> rcases es with _ | ⟨a, _ | ⟨b, r⟩⟩ <;> exact Bool.noConfusion (show false = true from h4)
      | _ => exact Bool.noConfusion (show false = true from h4)
    | SetComp _ _ _ _ => cases h3
    | DictComp _ _ _ _ _ => cases h3
    | _ => exact absurd rfl hc
theorem doc_ok {st : Stmt} (h : isDoc st = true) : PS X st (tSt X.K (ex Φ .pass)) := by
  cases st with
  | Pass q => exact sx_pass
  | Expr e q => cases e with
    | Constant c n q1 => cases c with
      | str z => exact sx_doc
      | _ => cases h
    | _ => cases h
  | _ => cases h
theorem subB_ok {i : Nat} {j : Ex} {t : Expr} (h : subB C i j t = true) : ∃ x p l q, t = .Subscript (.Name x p) l q ∧ C.vr i x = true ∧ noSl l = true ∧ ck false j C l = true := by
  unfold subB at h
  split at h
  · rename_i o l q hs
    split at h
    · rename_i x p hn
      simp only [Bool.and_eq_true] at h
      exact ⟨x, p, l, q, by rw [dSub_ok hs, dName_ok hn], h.1.1, h.1.2, h.2⟩
    · cases h
  · cases h
theorem par_ok {is : List Nat} {es : List Ex} {ts vs : List Expr} {n1 n2 : Nat} {q1 q2 q : Pos} (k : CtxOk C Φ X) (h : parB C is es ts vs = true) : PS X (.Assign [.Tuple ts n1 q1] (.Tuple vs n2 q2) q) (tSt X.K (ex Φ (.par is es))) := by
  unfold parB at h
  split at h
  · split at h
    · rename_i x p y p2 e1 e2
      rw [dName_ok e1, dName_ok e2]
      unfold par2B at h
      simp only [Bool.and_eq_true, decide_eq_true_eq, Bool.not_eq_true'] at h
      obtain ⟨⟨⟨⟨⟨⟨⟨⟨⟨⟨⟨⟨⟨h1, h2⟩, h3⟩, h4⟩, h5⟩, h6⟩, h7⟩, h8⟩, h9⟩, h10⟩, h11⟩, h12⟩, h13⟩, h14⟩ := h
      exact sx_par2 k.c k.nd (k.nm h1) (k.nm h2) h3 (k.loc h4) (k.loc h5) (sp_cons h6 (ck_ok false _ C X _ k h8) (sp_cons h7 (ck_ok false _ C X _ k h9) sp_nil)) (par2_ok (k.fun_ h12) (k.loc h4) (k.loc h5) h6 h7 h10 h11 h13 h14)
    · cases h
  · split at h
    · rename_i x p y p2 z p3 e1 e2 e3
      rw [dName_ok e1, dName_ok e2, dName_ok e3]
      unfold par3B at h
      simp only [Bool.and_eq_true, decide_eq_true_eq, Bool.not_eq_true'] at h
      obtain ⟨⟨⟨⟨⟨⟨⟨⟨⟨⟨⟨⟨⟨⟨⟨⟨⟨⟨⟨⟨⟨⟨h1, h2⟩, h3⟩, h4⟩, h5⟩, h6⟩, h7⟩, h8⟩, h9⟩, h10⟩, h11⟩, h12⟩, h13⟩, h14⟩, h15⟩, h16⟩, h17⟩, h18⟩, h19⟩, h20⟩, h21⟩, h22⟩, h23⟩ := h
      exact sx_par3 k.c k.nd (k.nm h1) (k.nm h2) (k.nm h3) h4 h5 h6 (k.loc h7) (k.loc h8) (k.loc h9) (sp_cons h10 (ck_ok false _ C X _ k h13) (sp_cons h11 (ck_ok false _ C X _ k h14) (sp_cons h12 (ck_ok false _ C X _ k h15) sp_nil)))
        (par3_ok (k.fun_ h21) (k.loc h7) (k.loc h8) (k.loc h9) h10 h11 h12 h16 h17 h18 h19 h20 h22 h23)
    · cases h
  · cases h
theorem swp_ok {i i' : Nat} {j j' : Ex} {es : List Ex} {ts vs : List Expr} {n1 n2 : Nat} {q1 q2 q : Pos} (k : CtxOk C Φ X) (h : swpB C i j i' j' es ts vs = true) : PS X (.Assign [.Tuple ts n1 q1] (.Tuple vs n2 q2) q) (tSt X.K (ex Φ (.swp i j i' j' es))) := by
  unfold swpB at h
  split at h
  · rename_i a b t1 t2 v v'
    simp only [Bool.and_eq_true] at h
    obtain ⟨⟨⟨⟨⟨h1, h2⟩, h5⟩, h6⟩, h9⟩, h10⟩ := h
    obtain ⟨x, p, l, p2, rfl, c1, c2, c3⟩ := subB_ok h1
    obtain ⟨x', p', l', p2', rfl, d1, d2, d3⟩ := subB_ok h2
    obtain ⟨g1, g2, g3, g4⟩ := k.vr c1
    obtain ⟨f1, f2, f3, f4⟩ := k.vr d1
    exact sx_swp k.c c2 d2 g1 g2 g3 g4 f1 f2 f3 f4 (by
      unfold swappedStores
      by_cases hb : X.env.blockKind = .function
      · refine (if_neg (by rw [hb]; simp)).trans ?_
        refine (if_neg (by rw [any_no (fun l h => by cases l <;> first | rfl | (simp [noStar] at h; done)) (show [v, v'].all noStar = true by simp [h5, h6])]; decide)).trans ?_
        exact if_pos rfl
      · exact if_pos (by simp [hb])) (sa_cons h5 (ck_ok false a C X v k h9) (sa_cons h6 (ck_ok false b C X v' k h10) sa_nil)) (ck_ok false j C X l k c3) (ck_ok false j' C X l' k d3)
  · cases h
theorem one_ok {s : Str} {i : Nat} {e : Ex} {st : Stmt} (k : CtxOk C Φ X) (h : oneB C s i e st = true) : ∃ x p ap cp q l, st = .Expr (.Call (.Attribute (.Name x p) s ap) [l] [] cp) q ∧ linesOk ap cp = true ∧ C.vr i x = true ∧ noStar l = true ∧ ck false e C l = true := by
  unfold oneB at h
  split at h
  · rename_i x p m ap l cp q hm
    simp only [Bool.and_eq_true, decide_eq_true_eq] at h
    obtain ⟨⟨⟨⟨h1, h2⟩, h3⟩, h4⟩, h5⟩ := h
    subst h1
    exact ⟨x, p, ap, cp, q, l, dMeth_ok hm, h2, h3, h4, h5⟩
  · cases h
theorem ins_ok {i : Nat} {j e : Ex} {st : Stmt} (k : CtxOk C Φ X) (h : insB C i j e st = true) : PS X st (tSt X.K (ex Φ (.ins i j e))) := by
  unfold insB at h
  split at h
  · rename_i x p m ap l l' cp q hm
    simp only [Bool.and_eq_true, decide_eq_true_eq] at h
    obtain ⟨⟨⟨⟨⟨⟨h1, h2⟩, h3⟩, h4⟩, h5⟩, h6⟩, h7⟩ := h
    subst h1
    rw [dMeth_ok hm]
    obtain ⟨g1, g2, g3, g4⟩ := k.vr h3
    exact sx_ins g1 g2 g3 g4 h2 h4 h5 (ck_ok false j C X l k h6) (ck_ok false e C X l' k h7)
  · cases h
theorem tapp_ok {e : Ex} {d : PyData} {st : Stmt} (k : CtxOk C Φ X) (h : tappB C e st = true) : PS X st (tSt X.K (ex Φ (.tapp e d))) := by
  unfold tappB at h
  split at h
  · rename_i o m ap l cp q hm
    split at h
    · rename_i c n p hl
      simp only [Bool.and_eq_true, decide_eq_true_eq] at h
      obtain ⟨⟨⟨⟨h1, h2⟩, h3⟩, h4⟩, h5⟩ := h
      subst h1
      obtain ⟨⟨v, d'⟩, e5⟩ := Option.isSome_iff_exists.mp h5
      rw [dMethO_ok hm, dLit_ok hl]
      exact sx_tapp (lit_ok e5).1 (base_ok h2) h3 (ck_ok false e C X o k h4)
    · cases h
  · cases h
theorem mov_ok {i j : Nat} {st : Stmt} (k : CtxOk C Φ X) (h : movB C i j st = true) : PS X st (tSt X.K (ex Φ (.mov i j))) := by
  unfold movB at h
  split at h
  · rename_i t v q hs
    split at h
    · rename_i x p y p2 h1 h2
      simp only [Bool.and_eq_true] at h
      obtain ⟨⟨c1, c2⟩, c3⟩ := h
      obtain ⟨g1, g2⟩ := k.tg x c2
      obtain ⟨f1, f2, f3, f4⟩ := k.vr c3
      rw [dAsg_ok hs, dName_ok h1, dName_ok h2]
      exact sx_mov k.nd (k.nm c1) g1 g2 f1 f2 f3 f4 (notComp_ok rfl)
    · cases h
  · cases h
theorem FDb_ok {np : Nat} {ar : List Ag} (k : CtxOk C Φ X) : ∀ {kvs : List (Str × Nat)} {ks : List (Option Expr)} {vs : List Expr}, FDb C np ar kvs ks vs = true → FD X Φ np ar kvs ks vs
  | [], [], [], _ => .nil
  | (s, f) :: kvs, o :: ks, v :: vs, h => by
    have h : (match dStrK o, dName v with | some (z, _, _), some (x, _) => decide (s = z) && C.gl x && C.g.fn f x np [] ar && FDb C np ar kvs ks vs | _, _ => false) = true := h
    split at h
    · rename_i z n p x q h1 h2
      simp only [Bool.and_eq_true, decide_eq_true_eq] at h
      obtain ⟨⟨⟨h3, h4⟩, h5⟩, h6⟩ := h
      subst h3
      obtain ⟨g1, g2, g3⟩ := k.gl h4
      rw [dStrK_ok h1, dName_ok h2]
      exact .cons g1 g2 (k.fn f x np [] ar h5) (FDb_ok k h6)
    · cases h
  | [], [], _ :: _, h => Bool.noConfusion (show false = true from h)
  | [], _ :: _, _, h => Bool.noConfusion (show false = true from h)
  | _ :: _, [], _, h => Bool.noConfusion (show false = true from h)
  | _ :: _, _ :: _, [], h => Bool.noConfusion (show false = true from h)
theorem fds_ok {s : Stm} {ss : List Stm} {x : Stmt} {xs : List Stmt} (k : CtxOk C Φ X) (h : fdsB C s ss x xs = true) : PSs X (x :: xs) (tSt X.K (exs Φ (s :: ss))) := by
  unfold fdsB at h
  split at h
  · split at h
    · rename_i tg v q2 r p7 a1 a2
      split at h
      · rename_i cx q1 ks vs p0 te ae be p6 a3 a4 a5
        split at h
        · rename_i lf c2 p5 a6
          split at h
          · rename_i ln lp sb e el p4 a7 a8
            split at h
            · rename_i o i p3 a9
              split at h
              · rename_i cx' p1 sx p2 a10 a11
                simp only [Bool.and_eq_true, decide_eq_true_eq, Bool.not_eq_true'] at h
                obtain ⟨⟨⟨⟨⟨⟨⟨⟨⟨⟨⟨⟨⟨h1, h2⟩, h3⟩, h4⟩, h5⟩, h6⟩, h7⟩, h8⟩, h9⟩, h10⟩, h11⟩, h12⟩, h13⟩, h14⟩ := h
                subst h1
                subst h2
                rw [dAsg_ok a1, dRet_ok a2, dName_ok a3, dDict_ok a4, dIfE_ok a5, dCall_ok a6, dName_ok a7, dCall_ok a8, dSub_ok a9, dName_ok a10, dName_ok a11]
                obtain ⟨g1, g2, g3, g4⟩ := k.vr h6
                obtain ⟨f1, f2, f3, f4⟩ := k.vr h7
                obtain ⟨t1, t2⟩ := k.tg _ h5
                obtain ⟨b1, b2, _⟩ := k.bl h3
                obtain ⟨l1, ns, pa⟩ := (ckK_ok _ C X _ [] k h8).pos
                exact se_fds k.c k.nd t1 t2 g1 g2 g3 g4 f1 f2 f3 f4 ns pa b1 b2 (FDb_ok k h9) h10 (by intro z; rw [z] at h11; cases h11) h12 (notComp_ok rfl) (ck_ok true _ C X _ k h13).1 (ck_ok false _ C X _ k h14)
              · cases h
            · cases h
          · cases h
        · cases h
      · cases h
    · cases h
  · cases h
mutual
theorem ckX_ok {Φ : Phi} : ∀ (s : Stm) (C : Ctx) (X : Cx) (st : Stmt), CtxOk C Φ X → PassesOwn (model X.prog X.w) X.A X.env X.xe → ckX s C st = true → PS X st (tSt X.K (ex Φ s))
  | .set i e, C, X, st, k, hp, h => by
    have h : (match dAsg st with | some (t, v, _) => (match dName t with | some (x, _) => C.nm i x && C.tgk x && okSet v && ck false e C v | none => false) | none => false) = true := h
    split at h
    · rename_i t v q hs
      rw [dAsg_ok hs]
      split at h
      · rename_i x p hn
        rw [dName_ok hn]
        exact ckSet_ok k h
      · cases h
    · cases h
  | .asg tg e, C, X, st, k, hp, h => by
    have h : (match dAsg st with | some (t, v, _) => plainTg t && swNone t v && (notComp v || noNm t) && ckT C tg t && ck false e C v | none => false) = true := h
    split at h
    · rename_i t v q hs
      rw [dAsg_ok hs]
      simp only [Bool.and_eq_true] at h
      obtain ⟨⟨⟨⟨h1, h2⟩, h3⟩, h4⟩, h5⟩ := h
      exact sx_asg h1 (sole_any h1 h3) (swNone_ok h2) (ckT_ok k tg t h4) (ck_ok false e C X v k h5)
    · cases h
  | .par is es, C, X, st, k, hp, h => by
    have h : (match dAsg st with | some (t, v, _) => (match dTup t, dTup v with | some (ts, _, _), some (vs, _, _) => parB C is es ts vs | _, _ => false) | none => false) = true := h
    split at h
    · rename_i t v q hs
      rw [dAsg_ok hs]
      split at h
      · rename_i ts n1 q1 vs n2 q2 h1 h2
        rw [dTup_ok h1, dTup_ok h2]
        exact par_ok k h
      · cases h
    · cases h
  | .seti i j e, C, X, st, k, hp, h => by
    have h : (match dAsg st with | some (t, v, _) => subB C i j t && ck false e C v | none => false) = true := h
    split at h
    · rename_i t v q hs
      rw [dAsg_ok hs]
      simp only [Bool.and_eq_true] at h
      obtain ⟨x, p, l, p2, rfl, c1, c2, c3⟩ := subB_ok h.1
      obtain ⟨g1, g2, g3, g4⟩ := k.vr c1
      exact sx_seti c2 g1 g2 g3 g4 sole_sub (swNone_ok rfl) (ck_ok false e C X v k h.2) (ck_ok false j C X l k c3)
    · cases h
  | .swp i j i' j' es, C, X, st, k, hp, h => by
    have h : (match dAsg st with | some (t, v, _) => (match dTup t, dTup v with | some (ts, _, _), some (vs, _, _) => swpB C i j i' j' es ts vs | _, _ => false) | none => false) = true := h
    split at h
    · rename_i t v q hs
      rw [dAsg_ok hs]
      split at h
      · rename_i ts n1 q1 vs n2 q2 h1 h2
        rw [dTup_ok h1, dTup_ok h2]
        exact swp_ok k h
      · cases h
    · cases h
  | .sbn i j m e, C, X, st, k, hp, h => by
    have h : (match dAsg st with | some (t, v, _) => (match dTup t with | some (ts, _, _) => sbnB C i j m ts && notTup v && ck false e C v | none => false) | none => false) = true := h
    split at h
    · rename_i t v q hs
      rw [dAsg_ok hs]
      split at h
      · rename_i ts n1 q1 h1
        rw [dTup_ok h1]
        simp only [Bool.and_eq_true] at h
        obtain ⟨⟨h2, h5⟩, h7⟩ := h
        unfold sbnB at h2
        split at h2
        · rename_i t1 t2
          simp only [Bool.and_eq_true] at h2
          obtain ⟨x, p, l, p2, rfl, c1, c2, c3⟩ := subB_ok h2.1
          have h3 := h2.2
          split at h3
          · rename_i y p3 hn
            rw [dName_ok hn]
            simp only [Bool.and_eq_true] at h3
            obtain ⟨g1, g2, g3, g4⟩ := k.vr c1
            obtain ⟨f1, f2⟩ := k.tg y h3.2
            exact sx_sbn k.c c2 g1 g2 g3 g4 k.nd (k.nm h3.1) f1 f2 sole_tup (swNone_ok h5) (ck_ok false e C X v k h7) (ck_ok false j C X l k c3)
          · cases h3
        · cases h2
      · cases h
    · cases h
  | .app i e, C, X, st, k, hp, h => by
    obtain ⟨x, p, ap, cp, q, l, rfl, h1, h2, h3, h4⟩ := one_ok k (show oneB C "append" i e st = true from h)
    obtain ⟨g1, g2, g3, g4⟩ := k.vr h2
    exact sx_app g1 g2 g3 g4 h1 h3 (ck_ok false e C X l k h4)
  | .ext i e, C, X, st, k, hp, h => by
    obtain ⟨x, p, ap, cp, q, l, rfl, h1, h2, h3, h4⟩ := one_ok k (show oneB C "extend" i e st = true from h)
    obtain ⟨g1, g2, g3, g4⟩ := k.vr h2
    exact sx_ext g1 g2 g3 g4 h1 h3 (ck_ok false e C X l k h4)
  | .ins i j e, C, X, st, k, hp, h => ins_ok k (show insB C i j e st = true from h)
  | .xpr e, C, X, st, k, hp, h => by
    cases st with
    | Expr v q =>
      have h : (notComp v && ck false e C v) = true := h
      simp only [Bool.and_eq_true] at h
      exact sx_xpr (notComp_ok h.1) (ck_ok false e C X v k h.2)
    | _ => exact Bool.noConfusion (show false = true from h)
  | .ret e, C, X, st, k, hp, h => by
    cases st with
    | Return o q => cases o with
      | some v => exact sx_ret (ck_ok false e C X v k h)
      | none => exact Bool.noConfusion (show false = true from h)
    | _ => exact Bool.noConfusion (show false = true from h)
  | .retN, C, X, st, k, hp, h => by
    cases st with
    | Return o q => cases o with
      | some v => exact Bool.noConfusion (show false = true from h)
      | none => exact sx_retN
    | _ => exact Bool.noConfusion (show false = true from h)
  | .ite c a b, C, X, st, k, hp, h => by
    cases st with
    | If t x y q =>
      have h : (ck true c C t && ckXs a C x && ckXs b C y) = true := h
      simp only [Bool.and_eq_true] at h
      exact sx_ite (ck_ok true c C X t k h.1.1).1 (ckXs_ok a C X x k hp h.1.2) (ckXs_ok b C X y k hp h.2)
    | _ => exact Bool.noConfusion (show false = true from h)
  | .whl c b, C, X, st, k, hp, h => by
    cases st with
    | While t x y q =>
      have h : (y.isEmpty && ck true c C t && ckXs b C x) = true := h
      simp only [Bool.and_eq_true] at h
      have hy : y = [] := List.isEmpty_iff.mp h.1.1
      subst hy
      exact sx_whl hp (ck_ok true c C X t k h.1.2).1 (ckXs_ok b C X x k hp h.2)
    | _ => exact Bool.noConfusion (show false = true from h)
  | .forS w tg src b, C, X, st, k, hp, h => by
    cases st with
    | For t e x y q =>
      have h : (y.isEmpty && plainTg t && ckT C tg t && ckS src C t e && (!isPair src || isTp tg) && notSet e && ckXs b C x) = true := h
      simp only [Bool.and_eq_true] at h
      obtain ⟨⟨⟨⟨⟨⟨h0, h1⟩, h2⟩, h3⟩, h4⟩, h5⟩, h6⟩ := h
      have hy : y = [] := List.isEmpty_iff.mp h0
      subst hy
      exact sx_for k.c hp (ckS_ok src C X t e k h3) (pair_ok h4) (ckT_ok k tg t h2) (ckXs_ok b C X x k hp h6) (notSet_ok h5)
    | _ => exact Bool.noConfusion (show false = true from h)
  | .rais, C, X, st, k, hp, h => sx_never
  | .pass, C, X, st, k, hp, h => doc_ok h
  | .brk, C, X, st, k, hp, h => by
    cases st with
    | Break q => exact sx_brk
    | _ => exact Bool.noConfusion (show false = true from h)
  | .dput i j e, C, X, st, k, hp, h => by
    have h : (match dAsg st with | some (t, v, _) => subB C i j t && notComp v && ck false e C v | none => false) = true := h
    split at h
    · rename_i t v q hs
      rw [dAsg_ok hs]
      simp only [Bool.and_eq_true] at h
      obtain ⟨x, p, l, p2, rfl, c1, c2, c3⟩ := subB_ok h.1.1
      obtain ⟨g1, g2, g3, g4⟩ := k.vr c1
      exact sx_dput k.c g1 g2 g3 g4 (notComp_ok h.1.2) (ck_ok false e C X v k h.2) (ck_ok false j C X l k c3)
    · cases h
  | .dupd i e, C, X, st, k, hp, h => by
    obtain ⟨x, p, ap, cp, q, l, rfl, h1, h2, h3, h4⟩ := one_ok k (show oneB C "update" i e st = true from h)
    obtain ⟨g1, g2, g3, g4⟩ := k.vr h2
    exact sx_dupd g1 g2 g3 g4 h1 h3 (ck_ok false e C X l k h4)
  | .tapp e d, C, X, st, k, hp, h => tapp_ok k (show tappB C e st = true from h)
  | .mov i j, C, X, st, k, hp, h => mov_ok k (show movB C i j st = true from h)
  | .fds _ _ _ _ _ _ _, C, X, st, k, hp, h => Bool.noConfusion (show false = true from h)
theorem ckXs_ok {Φ : Phi} : ∀ (s : List Stm) (C : Ctx) (X : Cx) (st : List Stmt), CtxOk C Φ X → PassesOwn (model X.prog X.w) X.A X.env X.xe → ckXs s C st = true → PSs X st (tSt X.K (exs Φ s))
  | [], C, X, st, k, hp, h => by
    cases st with
    | nil => exact sxs_nil
    | cons _ _ => exact Bool.noConfusion (show false = true from h)
  | s :: ss, C, X, st, k, hp, h => by
    cases st with
    | nil => exact Bool.noConfusion (show false = true from h)
    | cons x xs =>
      have h : ((ckX s C x && ckXs ss C xs) || fdsB C s ss x xs) = true := h
      rw [Bool.or_eq_true] at h
      rcases h with h | h
      · simp only [Bool.and_eq_true] at h
        exact sxs_cons (ckX_ok s C X x k hp h.1) (ckXs_ok ss C X xs k hp h.2)
      · exact fds_ok k h
end
end
end Ev

set_option maxHeartbeats 2000000
namespace Ev
open PySem PySem.Spec PyProof.Rows L2
/-! Ev22: a whole program -/
structure PD where
  id : Nat
  d : He.DefD
  ps : List Str
  N : List Str
  fn : Fn
def PD.ctx (g : Glb) (p : PD) : Ctx := ⟨p.N, p.d.scope, fun x => match p.d.scope.names.lookup x with | some .local => true | some .cell => true | _ => false, g⟩
def PD.chk (g : Glb) (p : PD) : Bool := C8.scC p.N p.ps p.d.scope && decide (p.fn.np = p.ps.length) && decide (p.fn.nn = p.N.length) && ckXs p.fn.body (p.ctx g) p.d.body
abbrev FunP (K : PySem.W.Frag) (p : PD) (f : Addr) (fd : FuncData) : Prop := FunD K p.d.name p.d.qual p.d.params p.d.body p.d.scope (p.d.dvs K) (p.d.kws K) f fd
def maskG (H F : Hp) : Hp := fun a => match F a with | some _ => none | none => H a
theorem maskG_at {H F : Hp} {a : Addr} {o : HO} (h : maskG H F a = some o) : F a = none ∧ H a = some o := by
  unfold maskG at h
  split at h
  · cases h
  · exact ⟨by assumption, h⟩
theorem maskG_none {H F : Hp} {a : Addr} (h : maskG H F a = none) (hF : F a = none) : H a = none := by
  unfold maskG at h
  rw [hF] at h
  exact h
theorem start_rs {K : PySem.W.Frag} {F H : Hp} {vs : List V} {es : List EV} {N : List Str} (s : Same F H) (h : Paired (ArgOk K F) vs es) (hl : vs.length ≤ N.length) : Rs K (maskG H F) F (start N vs) H (es ++ List.replicate (N.length - es.length) .un) := by
  have le : vs.length = es.length := paired_len h
  have noown : ∀ {i : Nat} {q : Addr}, Own (es ++ List.replicate (N.length - es.length) .un) (start N vs) i q → False := fun {i q} w => by
    obtain ⟨⟨e, he, ho⟩, _⟩ := w
    by_cases hi : i < es.length
    · rw [List.getElem?_append_left hi] at he
      have key : ∀ {vs : List V} {es : List EV}, Paired (ArgOk K F) vs es → ∀ {i : Nat} {e : EV}, es[i]? = some e → isOwn e = false := by
        intro vs es h
        induction h with
        | nil => intro i e he; simp at he
        | cons a _ ih => intro i e he; cases i with
          | zero => simp at he; subst he; exact a.2
          | succ i => exact ih (by simpa using he)
      rw [key h he] at ho; cases ho
    · rw [List.getElem?_append_right (by omega), List.getElem?_replicate] at he
      split at he <;> cases he
      cases ho
  refine ⟨?_, s, fun a o e => (maskG_at e).2, fun a o e => (maskG_at e).1, fun i e he hn => ?_, fun i j q w => (noown w).elim⟩
  · unfold L2.start
    simp only [List.length_append, List.length_replicate, List.length_map]
    omega
  · by_cases hi : i < es.length
    · rw [List.getElem?_append_left hi] at he
      have key : ∀ {vs : List V} {es : List EV}, Paired (ArgOk K F) vs es → ∀ {i : Nat} {e : EV}, es[i]? = some e → ∃ v, vs[i]? = some v ∧ ArgOk K F v e := by
        intro vs es h
        induction h with
        | nil => intro i e he; simp at he
        | cons a _ ih => intro i e he; cases i with
          | zero => simp at he; subst he; exact ⟨_, rfl, a⟩
          | succ i => obtain ⟨v, h1, h2⟩ := ih (i := i) (by simpa using he); exact ⟨v, by simpa using h1, h2⟩
      obtain ⟨v, hv, ok⟩ := key h he
      refine ⟨v, ?_, ok.1.not_own ok.2 (Same.refl _)⟩
      unfold L2.start
      rw [List.getElem?_append_left (by rw [List.length_map]; omega), List.getElem?_map, hv]
      rfl
    · rw [List.getElem?_append_right (by omega), List.getElem?_replicate] at he
      split at he <;> cases he
      exact absurd rfl hn
/-- a def's body keeps the def's promise -/
theorem body_imp {K : PySem.W.Frag} {Φ : Phi} {f : Fn} {N : List Str} {F H : Hp} {vs : List V} {es : List EV} {Q : VK} (s : Same F H) (h : Paired (ArgOk K F) vs es) (h1 : f.np ≤ N.length) (h2 : f.nn = N.length) (ha : (run Φ f es).All (Ret K F H Q)) :
    vs.length = f.np ∧ tSt K (exs Φ f.body) { nx := fun _ H' => Q .non H', rt := Q } (start N vs) H := by
  unfold run at ha
  split at ha
  case isFalse => exact ha.elim
  rename_i hl
  have le : vs.length = es.length := paired_len h
  have ha := T.All_bind.mp ha
  refine ⟨le.trans hl, _, F, _, start_rs (N := N) s h (by omega), ?_⟩
  rw [h2, ← hl] at ha
  refine ha.mono fun r hr => ?_
  intro F' H' σ' s'
  have back : ∀ {x : V} {e : EV} {en : Env}, Ret K F H Q e → Rs K (maskG H F) F' σ' H' en → VOk K (maskG H F) F' H' x e → Q x H' := fun {x e en} hr rs vk => by
    have nw : ∀ a o, F' a = some o → F a = none → H a = none := fun a o e1 e2 => by
      cases q : maskG H F a with
      | none => exact maskG_none q e2
      | some u => rw [rs.gf _ _ q] at e1; cases e1
    have sH : Same H H' := fun a o e => by
      cases q : F a with
      | some u =>
        have := s _ _ q
        rw [e] at this; cases this
        exact rs.fh _ _ (s' _ _ q)
      | none =>
        refine rs.gh _ _ ?_
        unfold maskG
        rw [q]
        exact e
    refine hr F' H' x s' rs.fh sH nw ?_
    cases ho : isOwn e with
    | false => exact vk.not_own ho (Same.refl _)
    | true =>
      obtain ⟨p, o, rfl, g1, g2, g3, g4⟩ := vk.own ho
      refine .of_own ho ⟨p, o, rfl, g1, g2, ?_, g4⟩
      exact maskG_none g3 (s'.free g2)
  cases r with
  | next e => exact fun rs => back (show Ret K F H Q (.sh .none) from hr) rs .non
  | brk e => exact False.elim hr
  | ret v e => exact fun rs x vk => back (show Ret K F H Q v from hr) rs vk
/-- what is known of a program -/
structure Prg (P : Program) (w : World) (K : PySem.W.Frag) (mg : Str → Option Value) (base : Heap) (g : Glb) (tab : Nat → Option Fn) (L : List PD) (fa : PD → Addr) (fdo : PD → FuncData) : Prop where
  fn : ∀ p ∈ L, FunP K p (fa p) (fdo p) ∧ mg p.d.name = some (.ref (fa p))
  chk : ∀ p ∈ L, p.chk g = true
  tab : ∀ p ∈ L, tab p.id = some p.fn
  sh : ∀ f x np ks ar, g.fn f x np ks ar = true → ∃ p ∈ L, p.id = f ∧ p.d.name = x ∧ ShOk K (fdo p) p.ps np ks ar
  blt : ∀ x, g.blt x = true → mg x = none
  cst : ∀ x d, g.cst x d = true → ∃ v u, mg x = some u ∧ RelV v u ∧ ∀ F, Dn K F v d
  dn : ∀ x, g.dn x = true → ∃ f fd ps, FnG P w K mg base 1 f fd ps spDraw ∧ mg x = some (.ref f) ∧ PySem.W.keepIn K (.ref f) = true ∧ ps.length = 2 ∧ Binds K fd ps []
  pn : ∀ x, g.pn x = true → ∃ f fd ps, FnG P w K mg base 1 f fd ps (spPot K) ∧ mg x = some (.ref f) ∧ PySem.W.keepIn K (.ref f) = true ∧ ps.length = 2 ∧ Binds K fd ps []
theorem prg_ok {P : Program} {w : World} {K : PySem.W.Frag} {mg : Str → Option Value} {base : Heap} {g : Glb} {tab : Nat → Option Fn} {L : List PD} {fa : PD → Addr} {fdo : PD → FuncData} (R : Prg P w K mg base g tab L fa fdo) :
    ∀ (n : Nat), ∀ p ∈ L, FnG P w K mg base (n + 2) (fa p) (fdo p) p.ps (spOf K (phi tab n p.id))
  | 0, p, hp => ⟨fun vs H Q ⟨F, es, s, h, a⟩ => a.elim, fun A outer s H args us vs Q _ _ _ _ _ ⟨F, es, _, _, a⟩ => a.elim⟩
  | n + 1, p, hp => by
    obtain ⟨hF, hm⟩ := R.fn p hp
    have hc := R.chk p hp
    unfold PD.chk at hc
    simp only [Bool.and_eq_true, decide_eq_true_eq] at hc
    obtain ⟨⟨⟨c1, c2⟩, c3⟩, c4⟩ := hc
    have S : FnScope p.N p.ps p.d.scope := C8.fnScope_by c1
    have hpl : p.ps.length ≤ p.N.length := by have := congrArg List.length S.pre; rw [List.length_take] at this; omega
    have hphi : ∀ es, phi tab (n + 1) p.id es = run (phi tab n) p.fn es := fun es => by
      show (match tab p.id with | some d => run (phi tab n) d es | none => .fail) = _
      rw [R.tab p hp]
    refine fnG_of hF S (fun vs H Q ⟨F, es, s, h, a⟩ => ?_) fun cdv A outer s H vs Q hr hgd ⟨F, es, sF, h, a⟩ => ?_
    · rw [hphi] at a
      unfold run at a
      split at a
      · rename_i hl
        rw [paired_len h, hl, c2]
      · exact a.elim
    · rw [hphi] at a
      obtain ⟨_, q⟩ := body_imp (N := p.N) sF h (by rw [c2]; exact hpl) c3 a
      have k : CtxOk (p.ctx g) (phi tab n) (cxOf CXz P w K mg base p.N p.d.qual p.d.scope (fa p) cdv A outer s H Ez) := by
        refine ⟨rfl, S.nd, rfl, cxC_of hr hgd, fun x h => ?_, fun f x np ks ar h => ?_, R.blt, R.cst, fun x h => ?_, fun x h => ?_⟩
        · have h : (match p.d.scope.names.lookup x with | some .local => true | some .cell => true | _ => false) = true := h
          refine ⟨?_, .inl rfl⟩
          split at h <;> first | exact .inl (by assumption) | exact .inr (by assumption) | cases h
        · obtain ⟨p', hp', e1, e2, sh⟩ := R.sh f x np ks ar h
          subst e1 e2
          obtain ⟨hF', hm'⟩ := R.fn p' hp'
          exact ⟨n + 2, fa p', fdo p', p'.ps, prg_ok R n p' hp', hr, hm', hF'.kp, sh⟩
        · obtain ⟨f, fd, ps, h1, h2, h3, h4, h5⟩ := R.dn x h
          exact ⟨1, f, fd, ps, h1, hr.mono (by omega), h2, h3, h4, h5⟩
        · obtain ⟨f, fd, ps, h1, h2, h3, h4, h5⟩ := R.pn x h
          exact ⟨1, f, fd, ps, h1, hr.mono (by omega), h2, h3, h4, h5⟩
      exact ⟨_, ckXs_ok p.fn.body (p.ctx g) _ p.d.body k (passes_of rfl) c4, q⟩
end Ev

namespace Ev
open PySem PySem.Spec PyProof.Rows L2
/-! Ev23: the law's call, from such a promise -/
section
variable {P : Program} {w : World} {K : PySem.W.Frag} {mg mb : Str → Option Value} {k : Nat} {fa a : Addr} {fd : FuncData} {x : Str} {sp : SpG} {s₁ : Shared} {vs : List Value} {ns : List Int}
/-- the call at an abstract heap that knows of the script alone -/
theorem call_at (KX : K.In s₁.heap) (hns : s₁.heap.Ns mainGlobals mg) (hb : s₁.heap.Ns builtinsNs mb) (hbb : ∀ x : Str, x ≠ "__name__" → mb x = bootBuiltins x) (hlim : s₁.heap.NoLimit) (hg : s₁.gens = #[])
    (ha : s₁.heap.get? a = some { cls := .type "list", data := .seq vs.toArray }) (hr : Room k callerA)
    (F : ∀ base : Heap, K.In base → base.Ns mainGlobals mg → FnG P w K mg base k fa fd [x] sp) (hbind : ∀ (s : Shared) (u : Value), BindsTo s fd ⟨[u], []⟩ [(x, u)])
    (H : Hp) (hO : Only H) (hok : HOk P w H s₁.heap) (hA : ∀ b, H b ≠ none → b = a) (hK : H a ≠ none → K.lookup a = none) (hsp : sp [.ref a] H (fun v _ => v = .bl true)) :
    codeAny (model P w) callerA (.call (.ref fa) ⟨[.ref a], []⟩) (fun r s' => r = .ok (.ret (.bool true)) ∧ OldK s₁.heap s'.heap ∧ s'.os = s₁.os ∧ AllBare s'.gens) s₁ := by
  have dict_free : ∀ {b : Addr} {o : Obj} {es : Array DictEntry} {ep : Nat}, s₁.heap.get? b = some o → o.data = .dict es ep → H b = none := fun {b o es ep} e d => by
    rcases Classical.em (H b = none) with q | q
    · exact q
    · have := hA b q
      subst this
      rw [ha] at e; cases e
      cases (show Data.seq vs.toArray _ = Data.dict es ep from d)
  have ns_of : ∀ {b : Addr} {m : Str → Option Value}, s₁.heap.Ns b m → (hidT s₁.heap H).Ns b m := fun {b m} ⟨o, es, ep, e, d, r⟩ => ⟨o, es, ep, hidT_get e (dict_free e d), d, r⟩
  have K_of : K.In (hidT s₁.heap H) := fun b o e => hidT_get (KX b o e) (by
    rcases Classical.em (H b = none) with q | q
    · exact q
    · have := hA b q
      subst this
      rw [hK q] at e; cases e)
  obtain ⟨mc, l1, l2⟩ := hlim
  have e0 : Env0 P w K mg (hidT s₁.heap H) callerA [] s₁ H :=
    ⟨rfl, ⟨K_of, ns_of hns, ⟨mb, ns_of hb, hbb⟩, ⟨mc, ns_of l1, l2⟩⟩, fun b o e => of_hidT e, Nat.le_of_eq (hidT_size _ _), trivial, fun b hb => absurd (show b ∈ ([] : List Addr) from hb) (by simp), hok, AllBare.of_eq hg⟩
  refine codeAny_mono ((F _ K_of (ns_of hns)).run callerA [] s₁ H ⟨[.ref a], []⟩ [.ref a] [.ref a] _ hr rfl e0 (hbind s₁ (.ref a)) (.cons rfl .nil) hsp) fun r s' h => ?_
  match r, h with
  | .ok (.ret u), h =>
    obtain ⟨v, H', os, bare, un, hok', r', q⟩ := h
    have q : v = .bl true := q
    subst q
    obtain rfl : u = Value.bool true := r'
    refine ⟨rfl, OldK.of_keep fun b o e => ?_, os, bare⟩
    rcases hO b with z | ⟨ob, xs, z⟩
    · exact un.keep b o e z (fun z => absurd (show b ∈ ([] : List Addr) from z) (by simp)) (by simp)
    · obtain ⟨e1, _⟩ := hok b _ z
      obtain ⟨e2, _⟩ := hok' b _ (un.frzs b ob _ z)
      rw [e] at e1; cases e1
      exact e2
theorem law_callG (KX : K.In s₁.heap) (hns : s₁.heap.Ns mainGlobals mg) (hb : s₁.heap.Ns builtinsNs mb) (hbb : ∀ x : Str, x ≠ "__name__" → mb x = bootBuiltins x) (hlim : s₁.heap.NoLimit) (hg : s₁.gens = #[])
    (ha : s₁.heap.get? a = some { cls := .type "list", data := .seq vs.toArray }) (hi : IntsAre vs ns) (hl : ns.length ≤ sizeLine) (hr : Room k callerA)
    (F : ∀ base : Heap, K.In base → base.Ns mainGlobals mg → FnG P w K mg base k fa fd [x] sp) (hbind : ∀ (s : Shared) (u : Value), BindsTo s fd ⟨[u], []⟩ [(x, u)])
    (hsp : ∀ H : Hp, Only H → SqL K H a (ns.map V.int) → sp [.ref a] H (fun v _ => v = .bl true)) :
    codeAny (model P w) callerA (.call (.ref fa) ⟨[.ref a], []⟩) (fun r s' => r = .ok (.ret (.bool true)) ∧ OldK s₁.heap s'.heap ∧ s'.os = s₁.os ∧ AllBare s'.gens) s₁ := by
  have rv := vals_ints hi
  have lenV := hi.length
  cases hk : K.lookup a with
  | some o =>
    have e := KX a o hk
    rw [ha] at e
    cases e
    have hO : Only (fun _ => none) := fun _ => .inl rfl
    exact call_at KX hns hb hbb hlim hg ha hr F hbind _ hO (fun b u z => by cases z) (fun b z => absurd rfl z) (fun z => absurd rfl z) (hsp _ hO (.inr ⟨_, vs.toArray, _, hk, rfl, rfl, rfl, by rw [List.size_toArray, lenV]; exact hl, by simpa using rv⟩))
  | none =>
    have at1 : (fun b => if b = a then some (HO.frz { cls := .type "list", data := .seq vs.toArray } (.lst (ns.map V.int))) else none) a = some (HO.frz { cls := .type "list", data := .seq vs.toArray } (.lst (ns.map V.int))) := if_pos rfl
    have ne1 : ∀ b, b ≠ a → (fun b => if b = a then some (HO.frz { cls := .type "list", data := .seq vs.toArray } (.lst (ns.map V.int))) else none) b = none := fun b h => if_neg h
    generalize (fun b => if b = a then some (HO.frz { cls := .type "list", data := .seq vs.toArray } (.lst (ns.map V.int))) else none) = H at at1 ne1
    have hO : Only H := fun b => by
      rcases Classical.em (b = a) with rfl | h
      · exact .inr ⟨_, _, at1⟩
      · exact .inl (ne1 b h)
    refine call_at KX hns hb hbb hlim hg ha hr F hbind H hO (fun b u z => ?_) (fun b z => ?_) (fun _ => hk) (hsp H hO (.inl (.inr ⟨_, at1⟩)))
    · rcases Classical.em (b = a) with rfl | h
      · rw [at1] at z
        cases z
        exact ⟨ha, by rw [List.length_map]; exact hl, vs, _, rv, ha⟩
      · rw [ne1 b h] at z; cases z
    · rcases Classical.em (b = a) with h | h
      · exact h
      · exact absurd (ne1 b h) z
end
theorem walk_ofG {l : PySem.W.OpenLaw} {n k : Nat} {q : Program} {loose : List Str} {XP : (Str → Option Value) → Heap → Prop} {YP : World → Heap → Prop} {d : DefRec} {x : Str}
    (hn : l.most = some n) (hn2 : n ≤ sizeLine) (hdf : d.params.defaults = []) (hr : Room k callerA)
    (F : ∀ (w : World) (mg : Str → Option Value) (fa : Addr) (h : Heap), YP w h → h.Ns mainGlobals mg → mg d.name = some (.ref fa) →
      ∃ (K : PySem.W.Frag) (fd : FuncData) (sp : SpG), K.In h ∧ (∀ (s : Shared) (u : Value), BindsTo s fd ⟨[u], []⟩ [(x, u)]) ∧
        (∀ (H : Hp) (a : Addr) (ns : List Int), ns.length ≤ n → Only H → SqL K H a (ns.map V.int) → sp [.ref a] H (fun v _ => v = .bl true)) ∧
        ∀ base : Heap, K.In base → base.Ns mainGlobals mg → FnG l.prog w K mg base k fa fd [x] sp) :
    PySem.W.WalkO q loose XP YP l.row.toRowW d [] (fun f vs => PySem.call f vs) := by
  refine Att.attach_call hn hdf fun w s₀ s₁ mg mb fa o pm cd doc a vs ns G Y ho hd hcd hmg hobj hints hlen hg => ?_
  obtain ⟨K, fd, sp, KX, hb, hsp, hF⟩ := F w mg fa _ Y G.T.g hmg
  exact law_callG KX G.T.g G.T.b G.T.builtins G.T.nolimit hg hobj hints (Nat.le_trans hlen hn2) hr hF hb fun H hO hS => hsp H a ns hlen hO hS
end Ev

namespace Ev
open PySem PySem.Spec PyProof.Rows L2
/-! Ev24: a program's facts from the head's -/
instance : DecidableEq Ag := fun a b => match a, b with
  | .at i, .at j => if h : i = j then isTrue (by rw [h]) else isFalse fun e => h (by cases e; rfl)
  | .dfl i, .dfl j => if h : i = j then isTrue (by rw [h]) else isFalse fun e => h (by cases e; rfl)
  | .at _, .dfl _ => isFalse fun e => by cases e
  | .dfl _, .at _ => isFalse fun e => by cases e
def dv0 (i : Int) : Value := .int i 0
theorem dv0_ok (i : Int) : RelV (.int i) (dv0 i) := ⟨0, rfl⟩
theorem ShOk.of {K : PySem.W.Frag} {x qual : Str} {params : Arguments} {body : List Stmt} {scope : Scope} {kws : List (Str × V)} {f : Addr} {fd : FuncData} {ps : List Str} {np : Nat} {ks : List Str} {ar : List Ag} (F : FunD K x qual params body scope [] kws f fd)
    (h : ∀ (kV doc pm : Value) (an : Option Addr) (cdv ct : Value) (us ws : List Value), us.length = np → ws.length = ks.length → bindArgs (PySem.W.fnOf x qual params body scope .none kV doc pm an cdv ct) ⟨us, ks.zip ws⟩ = pure (ps.zip (pickG dv0 (us ++ ws) ar))) : ShOk K fd ps np ks ar := by
  obtain ⟨oc, od, dV, kV, doc, pm, an, cdv, ct, osl, rfl, lk, hcd, hD, hK⟩ := F.ex
  rcases hD with ⟨_, rfl⟩ | ⟨e, _⟩
  · exact ⟨dv0, dv0_ok, fun s us ws _ h1 h2 => .of_eq (h kV doc pm an cdv ct us ws h1 h2)⟩
  · exact absurd rfl e
def dv1 (d : Int) (v : Value) (i : Int) : Value := if i = d then v else .int i 0
theorem ShOk.of1 {K : PySem.W.Frag} {x qual : Str} {params : Arguments} {body : List Stmt} {scope : Scope} {kws : List (Str × V)} {f : Addr} {fd : FuncData} {ps : List Str} {np : Nat} {ks : List Str} {ar : List Ag} {d : Int} (F : FunD K x qual params body scope [.int d] kws f fd)
    (h : ∀ (T : Addr) (kV doc pm : Value) (an : Option Addr) (cdv ct : Value) (us ws : List Value) (v : Value), us.length = np → ws.length = ks.length →
      ∃ k, bindArgs (PySem.W.fnOf x qual params body scope (.ref T) kV doc pm an cdv ct) ⟨us, ks.zip ws⟩ = seqItems? (.ref T) >>= k ∧ k (some #[v]) = pure (ps.zip (pickG (dv1 d v) (us ++ ws) ar))) : ShOk K fd ps np ks ar := by
  obtain ⟨oc, od, dV, kV, doc, pm, an, cdv, ct, osl, rfl, lk, hcd, hD, hK⟩ := F.ex
  rcases hD with ⟨e, _⟩ | ⟨_, T, o, its, m, rfl, lT, oT, rT⟩
  · cases e
  · cases rT with
    | cons r1 rT =>
      cases rT
      rename_i v
      refine ⟨dv1 d v, fun i => ?_, fun s us ws X h1 h2 => ?_⟩
      · unfold dv1
        split
        · rename_i e; rw [e]; exact r1
        · exact ⟨0, rfl⟩
      · obtain ⟨k, e1, e2⟩ := h T kV doc pm an cdv ct us ws v h1 h2
        refine BindsTo.of_looks fun M => ?_
        rw [e1]
        exact looks_items X lT oT (.of_pure e2)
mutual
def datE : PyData → PyData → Bool
  | .none, .none => true
  | .bool a, .bool b => a == b
  | .int a, .int b => decide (a = b)
  | .str a, .str b => decide (a = b)
  | .tuple xs, .tuple ys => datEs xs ys
  | _, _ => false
def datEs : List PyData → List PyData → Bool
  | [], [] => true
  | x :: xs, y :: ys => datE x y && datEs xs ys
  | _, _ => false
end
mutual
theorem datE_ok : ∀ {a b : PyData}, datE a b = true → a = b
  | .none, b, h => by cases b <;> first | rfl | cases h
  | .bool a, b, h => by cases b <;> first | cases h; done | (simp only [datE, beq_iff_eq] at h; rw [h])
  | .int a, b, h => by cases b <;> first | cases h; done | (simp only [datE, decide_eq_true_eq] at h; rw [h])
  | .str a, b, h => by cases b <;> first | cases h; done | (simp only [datE, decide_eq_true_eq] at h; rw [h])
  | .tuple xs, b, h => by
    match b, h with
    | .tuple ys, h => rw [datEs_ok (show datEs xs ys = true from h)]
  | .list xs, b, h => by cases b <;> cases h
  | .dict xs, b, h => by cases b <;> cases h
theorem datEs_ok : ∀ {a b : List PyData}, datEs a b = true → a = b
  | [], b, h => by cases b <;> first | rfl | cases h
  | x :: xs, b, h => by
    match b, h with
    | y :: ys, h =>
      have h : (datE x y && datEs xs ys) = true := h
      simp only [Bool.and_eq_true] at h
      rw [datE_ok h.1, datEs_ok h.2]
end
/-- a flat constant as the head tells it -/
def dvOf : PyData → Option He.Dv
  | .int i => some (.int i)
  | .str s => some (.str s)
  | _ => none
def dvsOf : List PyData → Option (List He.Dv)
  | [] => some []
  | d :: ds => (dvOf d).bind fun v => (dvsOf ds).map (v :: ·)
theorem dvsOf_ok {K : PySem.W.Frag} {F : Hp} : ∀ {ds : List PyData} {vs : List He.Dv}, dvsOf ds = some vs → DnAll K F (vs.map (He.Dv.v K)) ds
  | [], vs, h => by cases h; exact .nil
  | d :: ds, vs, h => by
    simp only [dvsOf, Option.bind_eq_some_iff, Option.map_eq_some_iff] at h
    obtain ⟨v, h1, vs', h2, rfl⟩ := h
    refine .cons ?_ (dvsOf_ok h2)
    cases d <;> simp only [dvOf, Option.some.injEq, reduceCtorEq] at h1 <;> subst h1
    · exact .int _
    · exact .str _
mutual
/-- a value of the module is this data -/
def frD (K : PySem.W.Frag) : PyData → Value → Bool
  | .none, .none => true
  | .bool a, .bool b => a == b
  | .int i, .int j _ => decide (i = j)
  | .str x, .str y _ => decide (x = y)
  | .tuple ds, .ref a => (match K.lookup a with
    | some ⟨.type c, none, .seq its _, _⟩ => decide (c = "tuple") && (decide (its.size ≤ sizeLine) && frDs K ds its.toList)
    | _ => false)
  | _, _ => false
def frDs (K : PySem.W.Frag) : List PyData → List Value → Bool
  | [], [] => true
  | d :: ds, u :: us => frD K d u && frDs K ds us
  | _, _ => false
end
mutual
theorem frD_ok {K : PySem.W.Frag} : ∀ (d : PyData) (u : Value), frD K d u = true → ∃ v, RelV v u ∧ ∀ F, Dn K F v d
  | .none, u, h => by
    cases u <;> simp only [frD, reduceCtorEq] at h
    exact ⟨.non, rfl, fun F => .non⟩
  | .bool a, u, h => by
    cases u <;> simp only [frD, reduceCtorEq, beq_iff_eq] at h
    subst h
    exact ⟨.bl a, rfl, fun F => .bl a⟩
  | .int i, u, h => by
    cases u <;> simp only [frD, reduceCtorEq, decide_eq_true_eq] at h
    subst h
    exact ⟨.int i, ⟨_, rfl⟩, fun F => .int i⟩
  | .str x, u, h => by
    cases u <;> simp only [frD, reduceCtorEq, decide_eq_true_eq] at h
    subst h
    exact ⟨.str x, ⟨_, rfl⟩, fun F => .str x⟩
  | .tuple ds, u, h => by
    cases u <;> simp only [frD, reduceCtorEq] at h
    rename_i a
    split at h
    · rename_i c its m sl hl
      simp only [Bool.and_eq_true, decide_eq_true_eq] at h
      obtain ⟨e1, e2, e3⟩ := h
      subst e1
      obtain ⟨vs, r, al⟩ := frDs_ok ds its.toList e3
      exact ⟨.ref a, rfl, fun F => .tup (.inr ⟨_, _, _, hl, rfl, rfl, rfl, e2, r⟩) (al F)⟩
    · cases h
  | .list _, u, h => by cases u <;> simp only [frD, reduceCtorEq] at h
  | .dict _, u, h => by cases u <;> simp only [frD, reduceCtorEq] at h
theorem frDs_ok {K : PySem.W.Frag} : ∀ (ds : List PyData) (us : List Value), frDs K ds us = true → ∃ vs, Vals vs us ∧ ∀ F, DnAll K F vs ds
  | [], us, h => by
    cases us <;> simp only [frDs, reduceCtorEq] at h
    exact ⟨[], .nil, fun F => .nil⟩
  | d :: ds, us, h => by
    cases us <;> simp only [frDs, reduceCtorEq, Bool.and_eq_true] at h
    obtain ⟨v, r, a⟩ := frD_ok d _ h.1
    obtain ⟨vs, rs, al⟩ := frDs_ok ds _ h.2
    exact ⟨v :: vs, .cons r rs, fun F => .cons (a F) (al F)⟩
end
/-- the module's name x is a tuple of these, and nothing more -/
def tupN (K : PySem.W.Frag) (x : Str) (ds : List PyData) : Bool := He.eqO (PySem.W.nsIn K mainGlobals x) (some (some (.ref (He.ga K x)))) && frD K (.tuple ds) (.ref (He.ga K x))
theorem tupN_ok {K : PySem.W.Frag} {h : Heap} {mg : Str → Option Value} (X : K.In h) (G : h.Ns mainGlobals mg) {x : Str} {ds : List PyData} (c : tupN K x ds = true) : ∃ v u, mg x = some u ∧ RelV v u ∧ ∀ F, Dn K F v (.tuple ds) := by
  unfold tupN at c
  rw [Bool.and_eq_true] at c
  obtain ⟨c1, c2⟩ := c
  obtain ⟨v, r, a⟩ := frD_ok _ _ c2
  exact ⟨v, .ref (He.ga K x), PySem.W.mg_of X G (He.eqO_ok c1), r, a⟩
theorem intC_ok {K : PySem.W.Frag} {h : Heap} {mg : Str → Option Value} (X : K.In h) (G : h.Ns mainGlobals mg) {x : Str} {i : Int} (c : (He.Fa.int x i).ok K = true) : ∃ v u, mg x = some u ∧ RelV v u ∧ ∀ F, Dn K F v (.int i) := by
  obtain ⟨t, e⟩ := He.int_ok X G c
  exact ⟨.int i, _, e, ⟨t, rfl⟩, fun F => .int i⟩
theorem strC_ok {K : PySem.W.Frag} {h : Heap} {mg : Str → Option Value} (X : K.In h) (G : h.Ns mainGlobals mg) {x z : Str} (c : (He.Fa.str x z).ok K = true) : ∃ v u, mg x = some u ∧ RelV v u ∧ ∀ F, Dn K F v (.str z) := by
  obtain ⟨t, e⟩ := He.str_ok X G c
  exact ⟨.str z, _, e, ⟨t, rfl⟩, fun F => .str z⟩
end Ev

namespace Ev
open PySem PySem.Spec PyProof.Rows L2
/-! Ev25: the draw and the pot of a law; the program's facts put together -/
def locIn (sc : Scope) (x : Str) : Bool := decide (sc.names.lookup x = some .local) && okN x
def gloIn (sc : Scope) (x : Str) : Bool := decide (sc.names.lookup x = some .globalImplicit)
def drawChk (po ma di : Str) (sc : Scope) (A B M P Q : Int) : Bool := C8.scC [po, ma, di] [po, ma] sc && locIn sc po && locIn sc ma && locIn sc di && gloIn sc "divmod" && gloIn sc "int" &&
  decide (0 ≤ A ∧ A < 2 ^ 20) && decide (0 ≤ B ∧ B < 2 ^ 40) && decide (0 < M ∧ M < 2 ^ 31) && decide (0 < P) && decide (0 < Q ∧ Q < 1073741824)
section
variable {W : Program} {w : World} {K : PySem.W.Frag} {mg : Str → Option Value} {base : Heap} {x qual : Str} {params : Arguments} {scope : Scope} {f : Addr} {fd : FuncData}
theorem drawR {po ma di : Str} {A B M P Q : Int} {k1 k2 k3 k4 k5 k6 k7 k8 k9 k10 k11 k12 k13 k14 : Nat} {p1 p2 p3 p4 p5 p6 p7 p8 p9 p10 p11 p12 p13 p14 p15 p16 p17 p18 p19 p20 p21 p22 p23 p24 p25 p26 p27 p28 p29 p30 p31 p32 p33 p34 p35 p36 p37 p38 p39 p40 p41 p42 p43 p44 p45 p46 p47 p48 p49 p50 p51 p52 p53 : Pos}
    (F : FunD K x qual params [.If (.Compare (.Subscript (.Name po p1) (.Constant (.int 0) k1 p2) p3) [.Gt] [.Constant (.int 0) k2 p4] p5)
        [.Assign [.Tuple [.Subscript (.Name po p6) (.Constant (.int 0) k3 p7) p8, .Name di p9] k4 p10] (.Call (.Name "divmod" p11) [.Subscript (.Name po p12) (.Constant (.int 0) k5 p13) p14, .Name ma p15] [] p16) p17, .Return (some (.Name di p18)) p19] [] p20,
      .Assign [.Subscript (.Name po p21) (.Constant (.int 1) k6 p22) p23] (.BinOp (.Call (.Name "int" p24) [.BinOp (.BinOp (.Subscript (.Name po p25) (.Constant (.int 1) k7 p26) p27) .Mult (.Constant (.int A) k8 p28) p29) .Add (.Constant (.int B) k9 p30) p31] [] p32) .Mod (.Constant (.int M) k10 p33) p34) p35,
      .Return (some (.BinOp (.Call (.Name "int" p36) [.BinOp (.BinOp (.Call (.Name "int" p37) [.BinOp (.Subscript (.Name po p38) (.Constant (.int 1) k11 p39) p40) .Mult (.Subscript (.Name po p41) (.Constant (.int 1) k12 p42) p43) p44] [] p45) .Mod (.Constant (.int P) k13 p46) p47) .FloorDiv (.Constant (.int Q) k14 p48) p49] [] p50) .Mod (.Name ma p51) p52)) p53] scope [] [] f fd)
    (hc : drawChk po ma di scope A B M P Q = true) (hd : mg "divmod" = none) (hi : mg "int" = none) : FnG W w K mg base 1 f fd [po, ma] spDraw := by
  unfold drawChk at hc
  simp only [Bool.and_eq_true, decide_eq_true_eq, locIn, gloIn] at hc
  obtain ⟨⟨⟨⟨⟨⟨⟨⟨⟨⟨c1, c2⟩, c3⟩, c4⟩, c5⟩, c6⟩, hA⟩, hB⟩, hM⟩, hP⟩, hQ⟩ := hc
  have S := C8.fnScope_by c1
  refine drawG F S fun X c hK hmg hN hsc => ?_
  have gl : ∀ {y : Str}, scope.names.lookup y = some .globalImplicit → Gl X y := fun {y} h => by show X.env.scope.names.lookup y = _; rw [hsc]; exact h
  refine pss_draw c hN (by rw [hN]; exact S.nd) ⟨by rw [hsc]; exact c2.1, by rw [hsc]; exact c3.1, by rw [hsc]; exact c4.1⟩ ⟨gl c5, by rw [hmg]; exact hd⟩ ⟨gl c6, by rw [hmg]; exact hi⟩ (fun y hy => ?_) hA hB hM hP hQ
  simp only [List.mem_cons, List.not_mem_nil, or_false] at hy
  rcases hy with rfl | rfl | rfl
  · exact ⟨(okN_1 c2.2).1, (okN_1 c2.2).2.1⟩
  · exact ⟨(okN_1 c3.2).1, (okN_1 c3.2).2.1⟩
  · exact ⟨(okN_1 c4.2).1, (okN_1 c4.2).2.1⟩
def makeChk (sc kk ce : Str) (s : Scope) (A P Q R M T U : Int) : Bool := C8.scC [sc, kk, ce] [sc, kk] s && locIn s sc && locIn s kk && locIn s ce && gloIn s "len" && gloIn s "abs" && gloIn s "max" && gloIn s "int" &&
  decide (A.natAbs < 2 ^ 64) && decide (0 < P) && decide (Q.natAbs < 2 ^ 64) && decide (R.natAbs < 2 ^ 64) && decide (0 < M ∧ M < 2 ^ 31) && decide (T.natAbs < 2 ^ 64) && decide (0 ≤ U ∧ U ≤ 1000000)
theorem makeR {sc kk ce : Str} {A B P Q R S M T U : Int} {n1 n2 n3 n4 n5 n6 n7 n8 n9 n10 n11 : Nat} {p1 p2 p3 p4 p5 p6 p7 p8 p9 p10 p11 p12 p13 p14 p15 p16 p17 p18 p19 p20 p21 p22 p23 p24 p25 p26 p27 p28 p29 p30 p31 p32 p33 p34 p35 p36 p37 p38 p39 p40 p41 p42 p43 p44 p45 p46 p47 : Pos}
    (F : FunD K x qual params [.Assign [.Name ce p1] (.IfExp (.Compare (.Name kk p2) [.Lt] [.Call (.Name "len" p3) [.Name sc p4] [] p5] p6) (.Call (.Name "abs" p7) [.Subscript (.Name sc p8) (.Name kk p9) p10] [] p11) (.BinOp (.BinOp (.Constant (.int A) n1 p12) .Mult (.Name kk p13) p14) .Add (.Constant (.int B) n2 p15) p16) p17) p18,
      .Return (some (.List [.Call (.Name "max" p19) [.Constant (.int 0) n3 p20, .BinOp (.Name ce p21) .Sub (.BinOp (.Constant (.int T) n4 p22) .Pow (.Constant (.int U) n5 p23) p24) p25] [] p26,
        .BinOp (.BinOp (.Call (.Name "int" p27) [.BinOp (.BinOp (.BinOp (.BinOp (.Call (.Name "int" p28) [.Name ce p29] [] p30) .Mod (.Constant (.int P) n6 p31) p32) .Mult (.Constant (.int Q) n7 p33) p34) .Add (.BinOp (.Constant (.int R) n8 p35) .Mult (.Name kk p36) p37) p38) .Add (.Constant (.int S) n9 p39) p40] [] p41) .Mod (.Constant (.int M) n10 p42) p43) .Add (.Constant (.int 1) n11 p44) p45] p46)) p47] scope [] [] f fd)
    (hc : makeChk sc kk ce scope A P Q R M T U = true) (hl : mg "len" = none) (ha : mg "abs" = none) (hm : mg "max" = none) (hi : mg "int" = none) : FnG W w K mg base 1 f fd [sc, kk] (spPot K) := by
  unfold makeChk at hc
  simp only [Bool.and_eq_true, decide_eq_true_eq, locIn, gloIn] at hc
  obtain ⟨⟨⟨⟨⟨⟨⟨⟨⟨⟨⟨⟨⟨⟨c1, c2⟩, c3⟩, c4⟩, c5⟩, c6⟩, c7⟩, c8⟩, hA⟩, hP⟩, hQ⟩, hR⟩, hM⟩, hT⟩, hU⟩ := hc
  have S := C8.fnScope_by c1
  refine makeG F S fun X c hK hmg hN hsc => ?_
  have gl : ∀ {y : Str}, scope.names.lookup y = some .globalImplicit → Gl X y := fun {y} h => by show X.env.scope.names.lookup y = _; rw [hsc]; exact h
  rw [← hK]
  refine pss_make (p48 := p1) c hN (by rw [hN]; exact S.nd) ⟨by rw [hsc]; exact c2.1, by rw [hsc]; exact c3.1, by rw [hsc]; exact c4.1⟩ ⟨gl c5, by rw [hmg]; exact hl⟩ ⟨gl c6, by rw [hmg]; exact ha⟩ ⟨gl c7, by rw [hmg]; exact hm⟩ ⟨gl c8, by rw [hmg]; exact hi⟩ (fun y hy => ?_) hA hP hQ hR hM hT hU
  simp only [List.mem_cons, List.not_mem_nil, or_false] at hy
  rcases hy with rfl | rfl | rfl
  · exact ⟨(okN_1 c2.2).1, (okN_1 c2.2).2.1⟩
  · exact ⟨(okN_1 c3.2).1, (okN_1 c3.2).2.1⟩
  · exact ⟨(okN_1 c4.2).1, (okN_1 c4.2).2.1⟩
end
/-- the defs' objects, from the head -/
theorem defs_of {K : PySem.W.Frag} {fa : List He.Fa} {fns more : List He.DefD} {L : List PD} (hf : fns = L.map PD.d ++ more) (c : He.SaysD fa fns K) : ∃ fdo : PD → FuncData, ∀ p ∈ L, FunP K p (He.fAd K p.d.at_) (fdo p) := by
  have this : ∀ p, ∃ fd, p ∈ L → FunP K p (He.fAd K p.d.at_) fd := fun p => by
    rcases Classical.em (p ∈ L) with h | h
    · obtain ⟨fd, hh⟩ := c.defs (d := p.d) (by rw [hf]; exact List.mem_append_left _ (List.mem_map_of_mem h))
      exact ⟨fd, fun _ => hh⟩
    · exact ⟨PySem.W.fnOf "" "" ⟨[], [], none, [], [], none, []⟩ [] ⟨.function, [], false, false, []⟩ .none .none .none .none none .none .none, fun z => absurd z h⟩
  exact ⟨fun p => Classical.choose (this p), fun p hp => Classical.choose_spec (this p) hp⟩
/-- the script's slot -/
theorem law_sp {K : PySem.W.Frag} {φ : List EV → T EV} {H : Hp} {a : Addr} {ns : List Int} (h : SqL K H a (ns.map V.int)) (q : (φ [.scr ns]).All fun r => r = .sh (.bool true)) : spOf K φ [.ref a] H (fun v _ => v = .bl true) :=
  ⟨H, [.scr ns], Same.refl _, .cons ⟨⟨a, rfl, h⟩, rfl⟩ .nil, q.mono fun r hr F' H' v _ _ _ _ vk => by
    subst hr
    exact Dn.bl_inv vk⟩
structure LawOk (m : Nat) (φ : List EV → T EV) : Prop where
  out : ∀ ns : List Int, ns.length ≤ m → (φ [.scr ns]).All fun r => r = .sh (.bool true)
theorem law_spg {K : PySem.W.Frag} {m : Nat} {φ : List EV → T EV} (q : LawOk m φ) (H : Hp) (a : Addr) (ns : List Int) (hl : ns.length ≤ m) (h : SqL K H a (ns.map V.int)) : spOf K φ [.ref a] H (fun v _ => v = .bl true) := law_sp h (q.out ns hl)
end Ev

set_option maxHeartbeats 1000000
namespace Ev
open PySem PySem.Spec PyProof.Rows L2
/-! EvP: another way the pot's maker is written -/
section
variable {X : Cx}
theorem pss_make2 {sc kk ce : Str} {A B P Q R S M T U : Int} {n1 n2 n3 n4 n5 n6 n7 n8 n9 n10 n11 : Nat} {p1 p2 p3 p4 p5 p6 p7 p8 p9 p10 p11 p12 p13 p14 p15 p16 p17 p18 p19 p20 p21 p22 p23 p24 p25 p26 p27 p28 p29 p30 p31 p32 p33 p34 p35 p36 p37 p38 p39 p40 p41 p42 p43 p44 p45 p46 p47 p48 q1 q2 : Pos}
    (c : CxC X) (hN : X.N = [sc, kk, ce]) (hnd : X.N.Nodup) (scp : X.env.scope.names.lookup sc = some .local ∧ X.env.scope.names.lookup kk = some .local ∧ X.env.scope.names.lookup ce = some .local) (gl : Gl X "len" ∧ X.mg "len" = none) (ga : Gl X "abs" ∧ X.mg "abs" = none) (gm : Gl X "max" ∧ X.mg "max" = none) (gi : Gl X "int" ∧ X.mg "int" = none)
    (nd : ∀ x ∈ [sc, kk, ce], (x == ("__debug__" : Str)) = false ∧ (x == ("__classdict__" : Str)) = false) (hA : A.natAbs < 2 ^ 64) (hP : 0 < P) (hQ : Q.natAbs < 2 ^ 64) (hR : R.natAbs < 2 ^ 64) (hM : 0 < M ∧ M < 2 ^ 31) (hT : T.natAbs < 2 ^ 64) (hU : 0 ≤ U ∧ U ≤ 1000000) :
    PSs X [.Assign [.Name ce p1] (.BinOp (.BinOp (.Constant (.int A) n1 p12) .Mult (.Name kk p13) p14) .Add (.Constant (.int B) n2 p15) p16) p18,
      .If (.Compare (.Name kk p2) [.Lt] [.Call (.Name "len" p3) [.Name sc p4] [] p5] p6) [.Assign [.Name ce q1] (.Call (.Name "abs" p7) [.Subscript (.Name sc p8) (.Name kk p9) p10] [] p11) q2] [] p17,
      .Return (some (.List [.Call (.Name "max" p19) [.Constant (.int 0) n3 p20, .BinOp (.Name ce p21) .Sub (.BinOp (.Constant (.int T) n4 p22) .Pow (.Constant (.int U) n5 p23) p24) p25] [] p26,
        .BinOp (.BinOp (.Call (.Name "int" p27) [.BinOp (.BinOp (.BinOp (.BinOp (.Call (.Name "int" p28) [.Name ce p29] [] p30) .Mod (.Constant (.int P) n6 p31) p32) .Mult (.Constant (.int Q) n7 p33) p34) .Add (.BinOp (.Constant (.int R) n8 p35) .Mult (.Name kk p36) p37) p38) .Add (.Constant (.int S) n9 p39) p40] [] p41) .Mod (.Constant (.int M) n10 p42) p43) .Add (.Constant (.int 1) n11 p44) p45] p46)) p47] (tMake X.K) := by
  have h0 : X.N[0]? = some sc := by rw [hN]; rfl
  have h1 : X.N[1]? = some kk := by rw [hN]; rfl
  have h2 : X.N[2]? = some ce := by rw [hN]; rfl
  obtain ⟨s0, s1, s2⟩ := scp
  have d0 := nd sc (by simp)
  have d1 := nd kk (by simp)
  have d2 := nd ce (by simp)
  have hA' := abs64 hA
  have hQ' := abs64 hQ
  have hR' := abs64 hR
  have eS : ∀ {p}, PE X (.Name sc p) (tVar 0) := pe_var h0 (.inl s0) d0.1 d0.2
  have eK : ∀ {p}, PE X (.Name kk p) (tVar 1) := pe_var h1 (.inl s1) d1.1 d1.2
  have eC : ∀ {p}, PE X (.Name ce p) (tVar 2) := pe_var h2 (.inl s2) d2.1 d2.2
  have eI : ∀ {e t p p'}, PE X e t → noStar e = true → PE X (.Call (.Name "int" p) [e] [] p') _ := fun h he => pe_callTy call_int1 gi.1 gi.2 boot_int (pa_cons h pa_nil (star_of he)) (by decide) (by decide) (star_of he) (stars_of rfl)
  have eL : PE X (.Call (.Name "len" p3) [.Name sc p4] [] p5) _ := pe_callB call_len gl.1 gl.2 (by first | exact boot_len | decide +kernel) (pa_cons eS pa_nil (star_of rfl)) (by decide) (by decide) (star_of rfl) (stars_of rfl)
  have eA : PE X (.Call (.Name "abs" p7) [.Subscript (.Name sc p8) (.Name kk p9) p10] [] p11) _ := pe_callB call_abs ga.1 ga.2 boot_abs (pa_cons (pe_ix ix_list eS eK (plainIx_of rfl)) pa_nil (star_of rfl)) (by decide) (by decide) (star_of rfl) (stars_of rfl)
  have eR : PE X (.List [.Call (.Name "max" p19) [.Constant (.int 0) n3 p20, .BinOp (.Name ce p21) .Sub (.BinOp (.Constant (.int T) n4 p22) .Pow (.Constant (.int U) n5 p23) p24) p25] [] p26,
        .BinOp (.BinOp (.Call (.Name "int" p27) [.BinOp (.BinOp (.BinOp (.BinOp (.Call (.Name "int" p28) [.Name ce p29] [] p30) .Mod (.Constant (.int P) n6 p31) p32) .Mult (.Constant (.int Q) n7 p33) p34) .Add (.BinOp (.Constant (.int R) n8 p35) .Mult (.Name kk p36) p37) p38) .Add (.Constant (.int S) n9 p39) p40] [] p41) .Mod (.Constant (.int M) n10 p42) p43) .Add (.Constant (.int 1) n11 p44) p45] p46)
      (fun σ H Q => ∃ k x : Int, σ[1]? = some (some (.int k)) ∧ σ[2]? = some (some (.int x)) ∧ ∀ (q : Addr) (a b : Int), H q = none → 0 ≤ a → 0 ≤ b → b < 2 ^ 40 → Q (.ref q) (upd H q (.lst [.int a, .int b]))) := by
    refine PE.imp (pe_lst (pa_cons (pe_callB (call_max2 c.hc) gm.1 gm.2 boot_max (pa_cons pe_int (pa_cons (pe_op op_sub eC (pe_op op_pow pe_int pe_int)) pa_nil (star_of rfl)) (star_of rfl)) (by decide) (by decide) (star_of rfl) (stars_of rfl))
      (pa_cons (pe_op op_add (pe_op op_mod (eI (pe_op op_add (pe_op op_add (pe_op op_mul (pe_op op_mod (eI eC rfl) pe_int) pe_int) (pe_op op_mul pe_int eK)) pe_int) rfl) pe_int) pe_int) pa_nil (star_of rfl)) (star_of rfl))) fun σ H Q' ⟨k, x, hs1, hs2, q⟩ => ?_
    have hm := Int.emod_lt_of_pos (x % P * Q + R * k + S) hM.1
    have hm0 := Int.emod_nonneg (x % P * Q + R * k + S) (show M ≠ 0 by omega)
    refine ⟨_, hs2, _, _, rfl, rfl, ⟨hU.1, hU.2, hT⟩, _, _, rfl, rfl, _, _, rfl, ?_⟩
    refine ⟨_, hs2, .inl ⟨_, rfl, _, _, rfl, rfl, hP, _, _, rfl, rfl, .inr hQ', _, hs1, _, _, rfl, rfl, .inl hR', _, _, rfl, rfl, _, _, rfl, rfl, .inl ⟨_, rfl, _, _, rfl, rfl, hM.1, _, _, rfl, rfl, ?_⟩⟩⟩
    refine ⟨by rw [sizeLine_eq]; exact (by decide : 2 ≤ 16777216), fun z hz => q z _ _ hz ?_ ?_ ?_⟩
    · split <;> omega
    · omega
    · omega
  have eB : PE X (.BinOp (.BinOp (.Constant (.int A) n1 p12) .Mult (.Name kk p13) p14) .Add (.Constant (.int B) n2 p15) p16) (fun σ H Q => ∃ k : Int, σ[1]? = some (some (.int k)) ∧ ∀ x, Q (.int x) H) :=
    PE.imp (pe_op op_add (pe_op op_mul pe_int eK) pe_int) fun σ H Q ⟨k, hs1, q⟩ => ⟨_, hs1, _, _, rfl, rfl, .inl hA', _, _, rfl, rfl, q _⟩
  have eA2 : PE X (.Call (.Name "abs" p7) [.Subscript (.Name sc p8) (.Name kk p9) p10] [] p11) (fun σ H Q => ∃ (p : Addr) (k : Int) (ns : List Int), σ[0]? = some (some (.ref p)) ∧ σ[1]? = some (some (.int k)) ∧ SqL X.K H p (ns.map V.int) ∧ 0 ≤ k ∧ k < ns.length ∧ ∀ x, Q (.int x) H) :=
    PE.imp eA fun σ H Q ⟨p, k, ns, hs0, hs1, hp, hk, h, q⟩ => by
      obtain ⟨x, hx⟩ := atI_map hk h
      exact ⟨_, hs0, _, hs1, p, _, k, _, rfl, rfl, hp, hx, x, rfl, q _⟩
  refine PSs.imp (pss_cons (ps_set hnd h2 (.inl s2) eB rfl (.inr s2)) (pss_cons (ps_if (pt_cmpR op_lt eK eL (nobehind _ (by decide) (by decide))) (pss_one (ps_set hnd h2 (.inl s2) eA2 rfl (.inr s2))) pss_nil) (pss_one (ps_ret eR)))) fun D σ H ⟨p, k, ns, hs0, hs1, hl, hp, hk, hk', q⟩ => ?_
  have fin : ∀ (σ' : L2.St) (x : Int), σ'[1]? = some (some (.int k)) → σ'[2]? = some (some (.int x)) → ∃ k x : Int, σ'[1]? = some (some (.int k)) ∧ σ'[2]? = some (some (.int x)) ∧ ∀ (q : Addr) (a b : Int), H q = none → 0 ≤ a → 0 ≤ b → b < 2 ^ 40 → D.rt (.ref q) (upd H q (.lst [.int a, .int b])) := fun σ' x g1 g2 => ⟨k, x, g1, g2, q⟩
  refine ⟨k, hs1, fun x0 => ?_⟩
  have g0 : (σ.set 2 (some (.int x0)))[0]? = some (some (.ref p)) := by rw [List.getElem?_set_ne (by decide)]; exact hs0
  have g1 : (σ.set 2 (some (.int x0)))[1]? = some (some (.int k)) := by rw [List.getElem?_set_ne (by decide)]; exact hs1
  have g2 : (σ.set 2 (some (.int x0)))[2]? = some (some (.int x0)) := by rw [List.getElem?_set_self (by omega)]
  refine ⟨_, g1, _, g0, _, ns.length, rfl, ⟨?_, k, ns.length, rfl, rfl, decide (k < ns.length), rfl, ?_⟩⟩
  · exact .inl ⟨_, hp, by rw [List.length_map]⟩
  · by_cases h : k < ns.length
    · rw [show decide (k < (ns.length : Int)) = true by simpa using h]
      refine ⟨p, k, ns, g0, g1, hp, hk, h, fun x => ?_⟩
      exact fin _ x (by rw [List.getElem?_set_ne (by decide)]; exact g1) (by rw [List.getElem?_set_self (by rw [List.length_set]; omega)])
    · rw [show decide (k < (ns.length : Int)) = false by simpa using h]
      exact fin _ x0 g1 g2
end
section
variable {W : Program} {w : World} {K : PySem.W.Frag} {mg : Str → Option Value} {base : Heap} {x qual : Str} {params : Arguments} {scope : Scope} {f : Addr} {fd : FuncData}
theorem makeR2 {sc kk ce : Str} {A B P Q R S M T U : Int} {n1 n2 n3 n4 n5 n6 n7 n8 n9 n10 n11 : Nat} {p1 p2 p3 p4 p5 p6 p7 p8 p9 p10 p11 p12 p13 p14 p15 p16 p17 p18 p19 p20 p21 p22 p23 p24 p25 p26 p27 p28 p29 p30 p31 p32 p33 p34 p35 p36 p37 p38 p39 p40 p41 p42 p43 p44 p45 p46 p47 q1 q2 : Pos}
    (F : FunD K x qual params [.Assign [.Name ce p1] (.BinOp (.BinOp (.Constant (.int A) n1 p12) .Mult (.Name kk p13) p14) .Add (.Constant (.int B) n2 p15) p16) p18,
      .If (.Compare (.Name kk p2) [.Lt] [.Call (.Name "len" p3) [.Name sc p4] [] p5] p6) [.Assign [.Name ce q1] (.Call (.Name "abs" p7) [.Subscript (.Name sc p8) (.Name kk p9) p10] [] p11) q2] [] p17,
      .Return (some (.List [.Call (.Name "max" p19) [.Constant (.int 0) n3 p20, .BinOp (.Name ce p21) .Sub (.BinOp (.Constant (.int T) n4 p22) .Pow (.Constant (.int U) n5 p23) p24) p25] [] p26,
        .BinOp (.BinOp (.Call (.Name "int" p27) [.BinOp (.BinOp (.BinOp (.BinOp (.Call (.Name "int" p28) [.Name ce p29] [] p30) .Mod (.Constant (.int P) n6 p31) p32) .Mult (.Constant (.int Q) n7 p33) p34) .Add (.BinOp (.Constant (.int R) n8 p35) .Mult (.Name kk p36) p37) p38) .Add (.Constant (.int S) n9 p39) p40] [] p41) .Mod (.Constant (.int M) n10 p42) p43) .Add (.Constant (.int 1) n11 p44) p45] p46)) p47] scope [] [] f fd)
    (hc : makeChk sc kk ce scope A P Q R M T U = true) (hl : mg "len" = none) (ha : mg "abs" = none) (hm : mg "max" = none) (hi : mg "int" = none) : FnG W w K mg base 1 f fd [sc, kk] (spPot K) := by
  unfold makeChk at hc
  simp only [Bool.and_eq_true, decide_eq_true_eq, locIn, gloIn] at hc
  obtain ⟨⟨⟨⟨⟨⟨⟨⟨⟨⟨⟨⟨⟨⟨c1, c2⟩, c3⟩, c4⟩, c5⟩, c6⟩, c7⟩, c8⟩, hA⟩, hP⟩, hQ⟩, hR⟩, hM⟩, hT⟩, hU⟩ := hc
  have S := C8.fnScope_by c1
  refine makeG F S fun X c hK hmg hN hsc => ?_
  have gl : ∀ {y : Str}, scope.names.lookup y = some .globalImplicit → Gl X y := fun {y} h => by show X.env.scope.names.lookup y = _; rw [hsc]; exact h
  rw [← hK]
  refine pss_make2 (p48 := p1) c hN (by rw [hN]; exact S.nd) ⟨by rw [hsc]; exact c2.1, by rw [hsc]; exact c3.1, by rw [hsc]; exact c4.1⟩ ⟨gl c5, by rw [hmg]; exact hl⟩ ⟨gl c6, by rw [hmg]; exact ha⟩ ⟨gl c7, by rw [hmg]; exact hm⟩ ⟨gl c8, by rw [hmg]; exact hi⟩ (fun y hy => ?_) hA hP hQ hR hM hT hU
  simp only [List.mem_cons, List.not_mem_nil, or_false] at hy
  rcases hy with rfl | rfl | rfl
  · exact ⟨(okN_1 c2.2).1, (okN_1 c2.2).2.1⟩
  · exact ⟨(okN_1 c3.2).1, (okN_1 c3.2).2.1⟩
  · exact ⟨(okN_1 c4.2).1, (okN_1 c4.2).2.1⟩
end
end Ev

set_option maxHeartbeats 400000
set_option maxRecDepth 100000
namespace Ev
open PySem PySem.Spec
/-! ### built-ins by quick ways, for the kernel -/
theorem qx_intsD : ∀ {xs : List PyData} {is : List Int}, intsD xs = some is → xs = is.map PyData.int
  | [], is, h => by cases h; rfl
  | .int i :: r, is, h => by
    have h : (intsD r).map (i :: ·) = some is := h
    rw [Option.map_eq_some_iff] at h
    obtain ⟨js, h1, rfl⟩ := h
    rw [qx_intsD h1]
    rfl
  | .none :: _, _, h => by cases h
  | .bool _ :: _, _, h => by cases h
  | .str _ :: _, _, h => by cases h
  | .list _ :: _, _, h => by cases h
  | .tuple _ :: _, _, h => by cases h
  | .dict _ :: _, _, h => by cases h
def tupI : PyData → Option (List Int)
  | .tuple xs => intsD xs
  | _ => none
theorem qx_tupI {d : PyData} {is : List Int} (h : tupI d = some is) : d = .tuple (is.map PyData.int) := by
  cases d <;> simp only [tupI, reduceCtorEq] at h
  rw [qx_intsD h]
/-- a list of tuples of ints -/
def rowsD : List PyData → Option (List (List Int))
  | [] => some []
  | d :: r => (tupI d).bind fun is => (rowsD r).map (is :: ·)
theorem qx_rowsD : ∀ {xs : List PyData} {rs : List (List Int)}, rowsD xs = some rs → xs = rs.map fun r => PyData.tuple (r.map PyData.int)
  | [], rs, h => by cases h; rfl
  | d :: r, rs, h => by
    have h : ((tupI d).bind fun is => (rowsD r).map (is :: ·)) = some rs := h
    rw [Option.bind_eq_some_iff] at h
    obtain ⟨is, h1, h2⟩ := h
    rw [Option.map_eq_some_iff] at h2
    obtain ⟨js, h3, rfl⟩ := h2
    rw [qx_tupI h1, qx_rowsD h3]
    rfl
def eqI : List Int → List Int → Bool
  | [], [] => true
  | i :: r, j :: s => (i == j) && eqI r s
  | _, _ => false
def eqII : List (List Int) → List (List Int) → Bool
  | [], [] => true
  | i :: r, j :: s => eqI i j && eqII r s
  | _, _ => false
theorem qx_eqv : ∀ (u v : List Int), PyData.eqvAll (u.map PyData.int) (v.map PyData.int) = eqI u v
  | [], [] => by simp [PyData.eqvAll, eqI]
  | [], _ :: _ => by simp [PyData.eqvAll, eqI]
  | _ :: _, [] => by simp [PyData.eqvAll, eqI]
  | i :: u, j :: v => by simp [PyData.eqvAll, PyData.eqv, eqI, qx_eqv u v]
theorem qx_eqvv : ∀ (u v : List (List Int)), PyData.eqvAll (u.map fun r => PyData.tuple (r.map PyData.int)) (v.map fun r => PyData.tuple (r.map PyData.int)) = eqII u v
  | [], [] => by simp [PyData.eqvAll, eqII]
  | [], _ :: _ => by simp [PyData.eqvAll, eqII]
  | _ :: _, [] => by simp [PyData.eqvAll, eqII]
  | i :: u, j :: v => by
    have h := qx_eqvv u v
    simp only [List.map_cons, PyData.eqvAll, PyData.eqv, eqII, qx_eqv, h]
theorem qx_can : ∀ (xs : List Int), PyData.canLayAll0 (xs.map PyData.int) = true
  | [] => by simp [PyData.canLayAll0]
  | x :: xs => by simp [PyData.canLayAll0, PyData.canLay0, qx_can xs]
theorem qx_dep : ∀ (xs : List Int), PyData.depthAll (xs.map PyData.int) = 0
  | [] => by simp [PyData.depthAll]
  | x :: xs => by simp [PyData.depthAll, PyData.depth, qx_dep xs]
theorem qx_cans : ∀ (rows : List (List Int)), PyData.canLayAll0 (rows.map fun r => PyData.tuple (r.map PyData.int)) = true
  | [] => by simp [PyData.canLayAll0]
  | x :: xs => by
    have h := qx_cans xs
    simp only [List.map_cons, PyData.canLayAll0, PyData.canLay0, qx_can, h]
    rfl
theorem qx_deps : ∀ (rows : List (List Int)), PyData.depthAll (rows.map fun r => PyData.tuple (r.map PyData.int)) ≤ 1
  | [] => by simp [PyData.depthAll]
  | x :: xs => by
    have := qx_deps xs
    simp only [List.map_cons, PyData.depthAll, PyData.depth, qx_dep]; omega
theorem qx_okL (u : List Int) : okD (.list (u.map PyData.int)) = true := by
  simp [okD, SeqAt.shaped, PyData.canLay0, qx_can, PyData.depth, qx_dep]
theorem qx_okT (u : List Int) : okD (.tuple (u.map PyData.int)) = true := by
  simp [okD, SeqAt.shaped, PyData.canLay0, qx_can, PyData.depth, qx_dep]
theorem qx_okLL (rows : List (List Int)) : okD (.list (rows.map fun r => PyData.tuple (r.map PyData.int))) = true := by
  have := qx_deps rows
  simp [okD, SeqAt.shaped, PyData.canLay0, qx_cans, PyData.depth]
  omega
theorem qx_okTT (rows : List (List Int)) : okD (.tuple (rows.map fun r => PyData.tuple (r.map PyData.int))) = true := by
  have := qx_deps rows
  simp [okD, SeqAt.shaped, PyData.canLay0, qx_cans, PyData.depth]
  omega
/-- equal, where both are of ints -/
def qEq : PyData → PyData → Option Bool
  | .int i, .int j => some (i == j)
  | .list x, .list y => (match intsD x with
    | some u => (intsD y).map fun v => eqI u v
    | none => (rowsD x).bind fun u => (rowsD y).map fun v => eqII u v)
  | .tuple x, .tuple y => (match intsD x with
    | some u => (intsD y).map fun v => eqI u v
    | none => (rowsD x).bind fun u => (rowsD y).map fun v => eqII u v)
  | _, _ => none
theorem qEq_ok {a b : PyData} {r : Bool} (h : qEq a b = some r) : okD a = true ∧ okD b = true ∧ PyData.eqv a b = r := by
  unfold qEq at h
  split at h
  · cases h
    exact ⟨rfl, rfl, by simp [PyData.eqv]⟩
  · split at h
    · rename_i u hu
      rw [Option.map_eq_some_iff] at h
      obtain ⟨v, hv, rfl⟩ := h
      rw [qx_intsD hu, qx_intsD hv]
      exact ⟨qx_okL u, qx_okL v, by simp only [PyData.eqv]; exact qx_eqv u v⟩
    · rw [Option.bind_eq_some_iff] at h
      obtain ⟨u, hu, h⟩ := h
      rw [Option.map_eq_some_iff] at h
      obtain ⟨v, hv, rfl⟩ := h
      rw [qx_rowsD hu, qx_rowsD hv]
      exact ⟨qx_okLL u, qx_okLL v, by simp only [PyData.eqv]; exact qx_eqvv u v⟩
  · split at h
    · rename_i u hu
      rw [Option.map_eq_some_iff] at h
      obtain ⟨v, hv, rfl⟩ := h
      rw [qx_intsD hu, qx_intsD hv]
      exact ⟨qx_okT u, qx_okT v, by simp only [PyData.eqv]; exact qx_eqv u v⟩
    · rw [Option.bind_eq_some_iff] at h
      obtain ⟨u, hu, h⟩ := h
      rw [Option.map_eq_some_iff] at h
      obtain ⟨v, hv, rfl⟩ := h
      rw [qx_rowsD hu, qx_rowsD hv]
      exact ⟨qx_okTT u, qx_okTT v, by simp only [PyData.eqv]; exact qx_eqvv u v⟩
  · cases h
def fcm (o : Cm) (a b : PyData) : Option Bool := match o with
  | .eq => (match qEq a b with
    | some r => some r
    | none => cmV .eq a b)
  | .ne => (match qEq a b with
    | some r => some (!r)
    | none => cmV .ne a b)
  | o => cmV o a b
theorem fcm_eq : cmV = fcm := by
  funext o a b
  cases o <;> try rfl
  · show cmV .eq a b = (match qEq a b with
      | some r => some r
      | none => cmV .eq a b)
    cases h : qEq a b with
    | none => rfl
    | some r =>
      obtain ⟨h1, h2, h3⟩ := qEq_ok h
      show (if okD a && okD b then some (PyData.eqv a b) else none) = some r
      rw [h1, h2, h3]; rfl
  · show cmV .ne a b = (match qEq a b with
      | some r => some (!r)
      | none => cmV .ne a b)
    cases h : qEq a b with
    | none => rfl
    | some r =>
      obtain ⟨h1, h2, h3⟩ := qEq_ok h
      show (if okD a && okD b then some (!PyData.eqv a b) else none) = some (!r)
      rw [h1, h2, h3]; rfl
/-! sorting -/
def insI (i : Int) : List Int → List Int
  | [] => [i]
  | j :: r => bif decide (i ≤ j) then i :: j :: r else j :: insI i r
def sortI : List Int → List Int
  | [] => []
  | i :: r => insI i (sortI r)
theorem insI_perm (i : Int) : ∀ l, (insI i l).Perm (i :: l)
  | [] => .refl _
  | j :: r => by
    unfold insI
    cases decide (i ≤ j) with
    | true => exact .refl _
    | false => exact ((insI_perm i r).cons j).trans (.swap i j r)
theorem sortI_perm : ∀ l, (sortI l).Perm l
  | [] => .refl _
  | i :: r => (insI_perm i _).trans ((sortI_perm r).cons i)
theorem insI_sorted (i : Int) : ∀ l, l.Pairwise (fun p q => p ≤ q) → (insI i l).Pairwise (fun (p q : Int) => p ≤ q)
  | [], _ => by unfold insI; simp
  | j :: r, h => by
    rw [List.pairwise_cons] at h
    unfold insI
    by_cases hij : i ≤ j
    · rw [decide_eq_true hij]
      refine List.Pairwise.cons (fun c hc => ?_) (List.Pairwise.cons h.1 h.2)
      rcases List.mem_cons.mp hc with rfl | hc
      · exact hij
      · exact Int.le_trans hij (h.1 c hc)
    · rw [decide_eq_false hij]
      refine List.Pairwise.cons (fun c hc => ?_) (insI_sorted i r h.2)
      rcases List.mem_cons.mp ((insI_perm i r).mem_iff.mp hc) with rfl | hc
      · omega
      · exact h.1 c hc
theorem sortI_sorted : ∀ l, (sortI l).Pairwise (fun (p q : Int) => p ≤ q)
  | [] => .nil
  | i :: r => insI_sorted i _ (sortI_sorted r)
theorem sortD_ints (is : List Int) : sortD (is.map PyData.int) = (sortI is).map PyData.int := by
  unfold sortD
  have le : ∀ a b : Int, decide (a ≤ b) = W.dataLe false id (PyData.int a) (PyData.int b) := by
    intro a b
    rw [W.dataLe_eq]
    show _ = !W.dataLt (.int b) (.int a)
    rw [W.dataLt_int]
    by_cases h : a ≤ b
    · rw [decide_eq_true h, decide_eq_false (by omega)]; rfl
    · rw [decide_eq_false h, decide_eq_true (by omega)]; rfl
  rw [← List.map_mergeSort (r := fun (a b : Int) => decide (a ≤ b)) (fun a _ b _ => le a b)]
  congr 1
  refine List.Perm.eq_of_pairwise (le := fun (p q : Int) => p ≤ q) (fun a b _ _ h1 h2 => Int.le_antisymm h1 h2) ?_ (sortI_sorted is) ((List.mergeSort_perm is _).trans (sortI_perm is).symm)
  have := List.pairwise_mergeSort (le := fun (p q : Int) => decide (p ≤ q)) (fun a b c h1 h2 => decide_eq_true (Int.le_trans (of_decide_eq_true h1) (of_decide_eq_true h2))) (fun a b => by
    rcases Int.le_total a b with h | h
    · simp [h]
    · simp [h]) is
  exact this.imp fun h => of_decide_eq_true h
theorem sortV_ints (is : List Int) : sortV (is.map PyData.int) = some ((sortI is).map PyData.int) := by
  have al : alikeD (is.map PyData.int) = true := by
    unfold alikeD
    rw [List.all_eq_true]
    intro d hd
    rw [List.all_eq_true]
    intro e he
    obtain ⟨a, _, rfl⟩ := List.mem_map.mp hd
    obtain ⟨b, _, rfl⟩ := List.mem_map.mp he
    simp [W.alike]
  have so : sortableD (is.map PyData.int) = true := by
    unfold sortableD
    rw [Bool.or_eq_true]
    right
    rw [List.all_eq_true]
    intro d hd
    obtain ⟨a, _, rfl⟩ := List.mem_map.mp hd
    rfl
  have dp : ((is.map PyData.int).all fun d => decide (d.depth ≤ 60)) = true := by
    rw [List.all_eq_true]
    intro d hd
    obtain ⟨a, _, rfl⟩ := List.mem_map.mp hd
    refine decide_eq_true ?_
    simp [PyData.depth]
  unfold sortV
  rw [al, so, dp, sortD_ints]
  rfl
/-! rows -/
def leI : List Int → List Int → Bool
  | [], _ => true
  | _ :: _, [] => false
  | i :: r, j :: s => bif decide (i < j) then true else bif decide (j < i) then false else leI r s
theorem leI_eq : ∀ (p q : List Int), leI p q = decide (p ≤ q)
  | [], q => by simp [leI]
  | _ :: _, [] => by simp [leI]
  | i :: r, j :: s => by
    unfold leI
    by_cases h1 : i < j
    · rw [decide_eq_true h1]
      have : (i :: r) ≤ (j :: s) := List.cons_le_cons_iff.mpr (.inl h1)
      simp [this]
    · rw [decide_eq_false h1]
      by_cases h2 : j < i
      · rw [decide_eq_true h2]
        have : ¬ ((i :: r) ≤ (j :: s)) := fun h => by
          rcases List.cons_le_cons_iff.mp h with h | h
          · omega
          · omega
        simp [this]
      · rw [decide_eq_false h2]
        have e : i = j := by omega
        subst e
        show leI r s = _
        rw [leI_eq r s]
        have : (i :: r) ≤ (i :: s) ↔ r ≤ s := by
          constructor
          · intro h
            rcases List.cons_le_cons_iff.mp h with h | h
            · omega
            · exact h.2
          · intro h
            exact List.cons_le_cons_iff.mpr (.inr ⟨rfl, h⟩)
        simp only [this]
def insR (i : List Int) : List (List Int) → List (List Int)
  | [] => [i]
  | j :: r => bif leI i j then i :: j :: r else j :: insR i r
def sortR : List (List Int) → List (List Int)
  | [] => []
  | i :: r => insR i (sortR r)
theorem insR_perm (i : List Int) : ∀ l, (insR i l).Perm (i :: l)
  | [] => .refl _
  | j :: r => by
    unfold insR
    cases leI i j with
    | true => exact .refl _
    | false => exact ((insR_perm i r).cons j).trans (.swap i j r)
theorem sortR_perm : ∀ l, (sortR l).Perm l
  | [] => .refl _
  | i :: r => (insR_perm i _).trans ((sortR_perm r).cons i)
theorem insR_sorted (i : List Int) : ∀ l, l.Pairwise (fun p q => p ≤ q) → (insR i l).Pairwise (fun (p q : List Int) => p ≤ q)
  | [], _ => by unfold insR; simp
  | j :: r, h => by
    rw [List.pairwise_cons] at h
    unfold insR
    rw [leI_eq]
    by_cases hij : i ≤ j
    · rw [decide_eq_true hij]
      refine List.Pairwise.cons (fun c hc => ?_) (List.Pairwise.cons h.1 h.2)
      rcases List.mem_cons.mp hc with rfl | hc
      · exact hij
      · exact List.le_trans hij (h.1 c hc)
    · rw [decide_eq_false hij]
      refine List.Pairwise.cons (fun c hc => ?_) (insR_sorted i r h.2)
      rcases List.mem_cons.mp ((insR_perm i r).mem_iff.mp hc) with rfl | hc
      · exact (List.le_total j c).resolve_right hij
      · exact h.1 c hc
theorem sortR_sorted : ∀ l, (sortR l).Pairwise (fun (p q : List Int) => p ≤ q)
  | [] => .nil
  | i :: r => insR_sorted i _ (sortR_sorted r)
theorem qx_alike : ∀ (a b : List Int), W.alikeAll (a.map PyData.int) (b.map PyData.int) = true
  | [], _ => by simp [W.alikeAll]
  | x :: a, [] => by simp [W.alikeAll]
  | x :: a, y :: b => by simp [W.alikeAll, W.alike, qx_alike a b]
def fullI : List Int → Bool
  | [] => false
  | _ :: _ => true
theorem sortV_rows (rs : List (List Int)) (hk : rs.all fullI = true) : sortV (rs.map fun r => PyData.tuple (r.map PyData.int)) = some ((sortR rs).map fun r => PyData.tuple (r.map PyData.int)) := by
  have le : ∀ a b : List Int, decide (a ≤ b) = W.dataLe false id (PyData.tuple (a.map PyData.int)) (PyData.tuple (b.map PyData.int)) := by
    have h := W.dataLe_rows (fun (b : List Int) => b)
    intro a b
    have h := congrFun (congrFun h a) b
    rw [← h, W.dataLe_eq, W.dataLe_eq]
    show (!W.dataLt (.list _) (.list _)) = !W.dataLt (.tuple _) (.tuple _)
    rw [W.dataLt_tuple, W.dataLt_list]
  have e : sortD (rs.map fun r => PyData.tuple (r.map PyData.int)) = (sortR rs).map fun r => PyData.tuple (r.map PyData.int) := by
    unfold sortD
    rw [← List.map_mergeSort (r := fun (a b : List Int) => decide (a ≤ b)) (fun a _ b _ => le a b)]
    congr 1
    refine List.Perm.eq_of_pairwise (le := fun (p q : List Int) => p ≤ q) (fun a b _ _ h1 h2 => List.le_antisymm h1 h2) ?_ (sortR_sorted rs) ((List.mergeSort_perm rs _).trans (sortR_perm rs).symm)
    have := List.pairwise_mergeSort (le := fun (p q : List Int) => decide (p ≤ q)) (fun a b c h1 h2 => decide_eq_true (List.le_trans (of_decide_eq_true h1) (of_decide_eq_true h2))) (fun a b => by
      rcases List.le_total a b with h | h
      · simp [h]
      · simp [h]) rs
    exact this.imp fun h => of_decide_eq_true h
  have al : alikeD (rs.map fun r => PyData.tuple (r.map PyData.int)) = true := by
    unfold alikeD
    rw [List.all_eq_true]
    intro d hd
    rw [List.all_eq_true]
    intro d' hd'
    obtain ⟨a, _, rfl⟩ := List.mem_map.mp hd
    obtain ⟨b, _, rfl⟩ := List.mem_map.mp hd'
    simp [W.alike, qx_alike]
  have so : sortableD (rs.map fun r => PyData.tuple (r.map PyData.int)) = true := by
    unfold sortableD
    rw [Bool.or_eq_true, Bool.or_eq_true]
    refine Or.inl (Or.inr ?_)
    rw [List.all_eq_true]
    intro d hd
    obtain ⟨a, ha, rfl⟩ := List.mem_map.mp hd
    have := List.all_eq_true.mp hk a ha
    cases a with
    | nil => cases this
    | cons x a => rfl
  have dp : ((rs.map fun r => PyData.tuple (r.map PyData.int)).all fun d => decide (d.depth ≤ 60)) = true := by
    rw [List.all_eq_true]
    intro d hd
    obtain ⟨a, ha, rfl⟩ := List.mem_map.mp hd
    refine decide_eq_true ?_
    simp [PyData.depth, qx_dep]
  unfold sortV
  rw [al, so, dp, e]
  rfl
def fsort (xs : List PyData) : Option (List PyData) := match intsD xs with
  | some is => some ((sortI is).map PyData.int)
  | none => (match rowsD xs with
    | some rs => bif rs.all fullI then some ((sortR rs).map fun r => PyData.tuple (r.map PyData.int)) else sortV xs
    | none => sortV xs)
theorem fsort_eq (xs : List PyData) : sortV xs = fsort xs := by
  unfold fsort
  cases h : intsD xs with
  | some is => rw [qx_intsD h]; exact sortV_ints is
  | none =>
    cases h2 : rowsD xs with
    | none => rfl
    | some rs =>
      show sortV xs = (bif rs.all fullI then some ((sortR rs).map fun r => PyData.tuple (r.map PyData.int)) else sortV xs)
      cases h3 : rs.all fullI with
      | false => rfl
      | true => rw [qx_rowsD h2]; exact sortV_rows rs h3
def fblt (b : Blt) (ds : List PyData) : Option R := match b with
  | .sorted => (match ds with
    | [x] => (items x).bind fun xs => (fsort xs).map R.ow
    | ds => bltV .sorted ds)
  | b => bltV b ds
theorem fblt_eq : bltV = fblt := by
  funext b ds
  cases b <;> try rfl
  match ds with
  | [] => rfl
  | [x] =>
    show (items x).bind (fun xs => (sortV xs).map R.ow) = (items x).bind fun xs => (fsort xs).map R.ow
    congr 1
    funext xs
    rw [fsort_eq]
  | _ :: _ :: _ => rfl
/-- all ends are True -/
def chkT : T EV → Bool
  | .ret (.sh (.bool b)) => b
  | .draw n k => (List.range n).all fun d => chkT (k d)
  | _ => false
theorem chkT_ok : ∀ {t : T EV}, chkT t = true → t.All fun r => r = .sh (.bool true)
  | .ret (.sh (.bool true)), _ => rfl
  | .draw n k, h => fun d hd => chkT_ok (List.all_eq_true.mp h d (List.mem_range.mpr hd))
end Ev

namespace Ev
open PySem PySem.Spec
/-! ### binds and slots by quick ways, for the kernel -/
noncomputable def tb {α β : Type} (t : T α) (f : α → T β) : T β := @T.rec α (fun _ => T β) f (fun n _ ih => .draw n ih) .fail t
theorem bind_tb {α β : Type} : ∀ (t : T α) (f : α → T β), (t >>= f) = tb t f
  | .ret a, f => rfl
  | .fail, f => rfl
  | .draw n k, f => by
    show T.draw n _ = T.draw n _
    congr 1
    funext d
    exact bind_tb (k d) f
noncomputable def ob {α β : Type} (o : Option α) (f : α → T β) : T β := @Option.rec α (fun _ => T β) .fail f o
section
variable {α β γ : Type}
theorem tb_ret (a : α) (f : α → T β) : tb (T.ret a) f = f a := rfl
theorem tb_fail (f : α → T β) : tb (T.fail : T α) f = .fail := rfl
theorem tb_opt (o : Option α) (f : α → T β) : tb (T.opt o) f = ob o f := by cases o <;> rfl
theorem tb_tb (t : T α) (g : α → T β) (f : β → T γ) : tb (tb t g) f = tb t fun a => tb (g a) f := by
  rw [← bind_tb, ← bind_tb, T.bind_assoc, bind_tb]
  congr 1
  funext a
  exact bind_tb _ _
theorem tb_ob (o : Option α) (g : α → T β) (f : β → T γ) : tb (ob o g) f = ob o fun a => tb (g a) f := by cases o <;> rfl
theorem ob_some (a : α) (f : α → T β) : ob (some a) f = f a := rfl
theorem tb_ite (c : Prop) [Decidable c] (a b : T α) (f : α → T β) : tb (if c then a else b) f = if c then tb a f else tb b f := by split <;> rfl
end
theorem q_calm (p : R × Env) : calm p = .ret (p.1.calm, p.2) := rfl
theorem q_calm_sh (d : PyData) : R.calm (.sh d) = .sh d := rfl
theorem q_peek_sh (e : Env) (d : PyData) : R.peek e (.sh d) = some d := rfl
theorem q_keep_sh (e : Env) (d : PyData) : R.keep e (.sh d) = some (d, e) := rfl
theorem q_put_sh (e : Env) (d : PyData) : R.put e (.sh d) = some (.sh d, e) := rfl
theorem q_back_sh (e : Env) (d : PyData) : R.back e (.sh d) = some (.sh d) := rfl
theorem q_arg_sh (e : Env) (d : PyData) : R.arg e (.sh d) = some (.sh d, e) := rfl
theorem q_tst (b : Bool) (e : Env) : tst (.sh (.bool b), e) = .ret (b, e) := rfl
noncomputable def gt (l : List EV) : Nat → EV := @List.rec EV (fun _ => Nat → EV) (fun _ => .un) (fun a _ ih i => @Nat.casesOn (fun _ => EV) i a ih) l
theorem get_gt : ∀ (env : Env) (i : Nat), Ev.get env i = gt env i
  | [], i => by simp [Ev.get, gt]
  | a :: l, 0 => rfl
  | a :: l, i + 1 => by
    have := get_gt l i
    show (a :: l).getD (i + 1) .un = gt l i
    rw [← this]
    rfl
noncomputable def st (l : List EV) : Nat → EV → List EV := @List.rec EV (fun _ => Nat → EV → List EV) (fun _ _ => []) (fun a l ih i v => @Nat.casesOn (fun _ => List EV) i (v :: l) (fun j => a :: ih j v)) l
theorem set_st : ∀ (env : Env) (i : Nat) (v : EV), env.set i v = st env i v
  | [], i, v => rfl
  | a :: l, 0, v => rfl
  | a :: l, i + 1, v => by
    have := set_st l i v
    show a :: l.set i v = a :: st l i v
    rw [this]
/-- a slot is read -/
noncomputable def vr (env : Env) (i : Nat) : T (R × Env) := @EV.rec (fun _ => T (R × Env)) .fail (fun ns => .ret (.scr ns, env)) (fun d => .ret (.sh d, env)) (fun _ => .ret (.rf i, env)) (.ret (.pot, env)) (fun _ => .ret (.rf i, env)) (fun kvs => .ret (.sd kvs, env)) (gt env i)
noncomputable def vb {β : Type} (env : Env) (i : Nat) (f : R × Env → T β) : T β := @EV.rec (fun _ => T β) .fail (fun ns => f (.scr ns, env)) (fun d => f (.sh d, env)) (fun _ => f (.rf i, env)) (f (.pot, env)) (fun _ => f (.rf i, env)) (fun kvs => f (.sd kvs, env)) (gt env i)
theorem asg_nm (i : Nat) (d : PyData) (env : Env) : asgT (.nm i) d env = some (env.set i (.sh d)) := rfl
theorem ev_var (Φ : Phi) (i : Nat) (env : Env) : ev Φ (.var i) env = vr env i := by
  show (match get env i with
    | .un => T.fail
    | .sh d => T.ret (R.sh d, env)
    | .ow _ => T.ret (R.rf i, env)
    | .pot => T.ret (R.pot, env)
    | .scr ns => T.ret (R.scr ns, env)
    | .od _ => T.ret (R.rf i, env)
    | .sd kvs => T.ret (R.sd kvs, env)) = _
  unfold vr
  rw [get_gt]
  cases gt env i <;> rfl
theorem tb_vr {β : Type} (env : Env) (i : Nat) (f : R × Env → T β) : tb (vr env i) f = vb env i f := by
  unfold vr vb
  cases gt env i <;> rfl
/-! loops -/
noncomputable def fl (f : PyData → Env → T Fl) (ds : List PyData) : Env → T Fl := @List.rec PyData (fun _ => Env → T Fl) (fun e => .ret (.next e)) (fun d _ ih e => tb (f d e) fun z => @Fl.rec (fun _ => T Fl) ih (fun e => .ret (.brk e)) (fun v e => .ret (.ret v e)) z) ds
theorem forL_fl (f : PyData → Env → T Fl) : ∀ (ds : List PyData) (e : Env), forL f ds e = fl f ds e
  | [], e => rfl
  | d :: ds, e => by
    show (f d e >>= _) = tb (f d e) _
    rw [bind_tb]
    congr 1
    funext z
    cases z with
    | next e => exact forL_fl f ds e
    | _ => rfl
noncomputable def cl (f : PyData → Env → T (Option PyData × Env)) (ds : List PyData) : Env → T (List PyData × Env) := @List.rec PyData (fun _ => Env → T (List PyData × Env)) (fun e => .ret ([], e)) (fun d _ ih e => tb (f d e) fun z => tb (ih z.2) fun y => .ret (@Option.rec PyData (fun _ => List PyData) y.1 (fun x => x :: y.1) z.1, y.2)) ds
theorem compL_cl (f : PyData → Env → T (Option PyData × Env)) : ∀ (ds : List PyData) (e : Env), compL f ds e = cl f ds e
  | [], e => rfl
  | d :: ds, e => by
    show (f d e >>= _) = tb (f d e) _
    rw [bind_tb]
    congr 1
    funext ⟨o, e1⟩
    show (compL f ds e1 >>= _) = tb (cl f ds e1) _
    rw [bind_tb, compL_cl f ds e1]
    congr 1
    funext ⟨r, e2⟩
    cases o <;> rfl
noncomputable def wl (c : Env → T (Bool × Env)) (b : Env → T Fl) (n : Nat) : Env → T Fl := @Nat.rec (fun _ => Env → T Fl) (fun _ => .fail) (fun _ ih e => tb (c e) fun z => @Bool.rec (fun _ => T Fl) (.ret (.next z.2)) (tb (b z.2) fun y => @Fl.rec (fun _ => T Fl) ih (fun e => .ret (.next e)) (fun v e => .ret (.ret v e)) y) z.1) n
theorem whlL_wl (c : Env → T (Bool × Env)) (b : Env → T Fl) : ∀ (n : Nat) (e : Env), whlL c b n e = wl c b n e
  | 0, e => rfl
  | n + 1, e => by
    show (c e >>= _) = tb (c e) _
    rw [bind_tb]
    congr 1
    funext ⟨t, e1⟩
    cases t with
    | false => rfl
    | true =>
      show (b e1 >>= _) = tb (b e1) _
      rw [bind_tb]
      congr 1
      funext z
      cases z with
      | next e => exact whlL_wl c b n e
      | _ => rfl
/-- a test's end -/
noncomputable def tsb {β : Type} (p : R × Env) (f : Bool × Env → T β) : T β := @R.rec (fun _ => T β) (fun _ => .fail) (fun d => @PyData.casesOn (fun _ => T β) d .fail (fun b => f (b, p.2)) (fun _ => .fail) (fun _ => .fail) (fun _ => .fail) (fun _ => .fail) (fun _ => .fail)) (fun _ => .fail) .fail (fun _ => .fail) (fun _ => .fail) (fun _ => .fail) p.1
theorem tb_tst {β : Type} (p : R × Env) (f : Bool × Env → T β) : tb (tst p) f = tsb p f := by
  obtain ⟨r, e⟩ := p
  cases r with
  | sh d => cases d <;> rfl
  | _ => rfl
theorem tsb_b {β : Type} (b : Bool) (e : Env) (f : Bool × Env → T β) : tsb (R.sh (.bool b), e) f = f (b, e) := rfl
noncomputable def bi {β : Type} (b : Bool) (x y : T β) : T β := @Bool.rec (fun _ => T β) y x b
theorem ite_bi {β : Type} (b : Bool) (x y : T β) : (if b = true then x else y) = bi b x y := by cases b <;> rfl
theorem tb_vb {α β : Type} (env : Env) (i : Nat) (g : R × Env → T α) (f : α → T β) : tb (vb env i g) f = vb env i fun p => tb (g p) f := by
  unfold vb
  cases gt env i <;> rfl
theorem vb_calm {β : Type} (env : Env) (i : Nat) (f : R × Env → T β) : tb (vb env i calm) f = vb env i f := by
  unfold vb
  cases gt env i <;> rfl
theorem vb_calm2 (env : Env) (i : Nat) : vb env i calm = vr env i := by
  unfold vb vr
  cases gt env i <;> rfl
section
variable {α β γ : Type}
theorem ob_bind (o : Option α) (g : α → Option β) (f : β → T γ) : ob (o.bind g) f = ob o fun a => ob (g a) f := by cases o <;> rfl
theorem ob_map (o : Option α) (g : α → β) (f : β → T γ) : ob (o.map g) f = ob o fun a => f (g a) := by cases o <;> rfl
end
theorem pks0 (e : Env) : peeks e [] = some [] := rfl
theorem pks1 (e : Env) (r : R) (rs : List R) : peeks e (r :: rs) = (r.peek e).bind fun d => (peeks e rs).map (d :: ·) := rfl
/-- two ints -/
noncomputable def ii {β : Type} (x y : PyData) (z : T β) (f : Int → Int → T β) : T β := @PyData.casesOn (fun _ => T β) x z (fun _ => z) (fun i => @PyData.casesOn (fun _ => T β) y z (fun _ => z) (fun j => f i j) (fun _ => z) (fun _ => z) (fun _ => z) (fun _ => z)) (fun _ => z) (fun _ => z) (fun _ => z) (fun _ => z)
def opA (x y : PyData) : Option R := opV .add x y
section
variable {β : Type} (x y : PyData) (f : Bool → T β) (g : R → T β)
theorem ob_lt : ob (cmV .lt x y) f = ii x y .fail fun i j => f (decide (i < j)) := by cases x <;> cases y <;> rfl
theorem ob_le : ob (cmV .le x y) f = ii x y .fail fun i j => f (decide (i ≤ j)) := by cases x <;> cases y <;> rfl
theorem ob_gt : ob (cmV .gt x y) f = ii x y .fail fun i j => f (decide (j < i)) := by cases x <;> cases y <;> rfl
theorem ob_ge : ob (cmV .ge x y) f = ii x y .fail fun i j => f (decide (j ≤ i)) := by cases x <;> cases y <;> rfl
theorem ob_eq : ob (cmV .eq x y) f = ii x y (ob (fcm .eq x y) f) fun i j => f (i == j) := by
  rw [fcm_eq]
  cases x <;> cases y <;> rfl
theorem ob_ne : ob (cmV .ne x y) f = ii x y (ob (fcm .ne x y) f) fun i j => f (!(i == j)) := by
  rw [fcm_eq]
  cases x <;> cases y <;> rfl
theorem ob_add : ob (opV .add x y) g = ii x y (ob (opA x y) g) fun i j => g (.sh (.int (i + j))) := by cases x <;> cases y <;> rfl
theorem ob_sub : ob (opV .sub x y) g = ii x y .fail fun i j => g (.sh (.int (i - j))) := by cases x <;> cases y <;> rfl
end
end Ev

namespace Ev
open PySem
/-! draws one by one -/
def kid : T EV → Nat → T EV
  | .draw _ k, d => k d
  | t, _ => t
def isDraw : T EV → Nat → Bool
  | .draw m _, n => Nat.beq m n
  | _, _ => false
theorem chk_kids {t : T EV} {n : Nat} (h : isDraw t n = true) (hk : ∀ d, d < n → chkT (kid t d) = true) : chkT t = true := by
  cases t with
  | draw m k =>
    have : m = n := Nat.eq_of_beq_eq_true h
    subst this
    show ((List.range m).all fun d => chkT (k d)) = true
    rw [List.all_eq_true]
    intro d hd
    exact hk d (List.mem_range.mp hd)
  | _ => cases h
/-- the answer is True -/
structure TA (t : T EV) : Prop where
  out : t.All fun r => r = .sh (.bool true)
theorem TA.of_chk {t : T EV} (h : chkT t = true) : TA t := ⟨chkT_ok h⟩
theorem TA.of_eq {t u : T EV} (e : t = u) (h : TA u) : TA t := e ▸ h
end Ev

set_option maxHeartbeats 0
namespace Hd
open PySem PySem.Spec PyProof.Rows L2 Ev
def top (i : Nat) : Stmt := PySem.Challenge.pw_barredpatterns_k59_whole_known_built_row.main.body.getD i (.Pass ⟨0, 0, 0, 0⟩)
def d_is_integer : He.DefD := ⟨("is_integer", none), "is_integer", "is_integer", defArgs (top 10), defBody (top 10), defScope (top 10), [], []⟩
def f_is_integer : Fn := ⟨1, 1, [.ret (.and (.blt (.isi .int) [.var 0]) (.not (.blt (.isi .bool) [.var 0])))]⟩
def p_is_integer : PD := ⟨0, d_is_integer, ([("value" : PySem.Str)] : List PySem.Str), ([("value" : PySem.Str)] : List PySem.Str), f_is_integer⟩
def d_is_count : He.DefD := ⟨("is_count", none), "is_count", "is_count", defArgs (top 11), defBody (top 11), defScope (top 11), [], []⟩
def f_is_count : Fn := ⟨1, 1, [.ret (.and (.call 0 [.var 0] [.at 0]) (.cmp .ge (.var 0) (.cst (.int 0))))]⟩
def p_is_count : PD := ⟨1, d_is_count, ([("value" : PySem.Str)] : List PySem.Str), ([("value" : PySem.Str)] : List PySem.Str), f_is_count⟩
def d_is_list : He.DefD := ⟨("is_list", none), "is_list", "is_list", defArgs (top 12), defBody (top 12), defScope (top 12), [], []⟩
def f_is_list : Fn := ⟨1, 1, [.ret (.blt (.isi .listtuple) [.var 0])]⟩
def p_is_list : PD := ⟨2, d_is_list, ([("value" : PySem.Str)] : List PySem.Str), ([("value" : PySem.Str)] : List PySem.Str), f_is_list⟩
def d_want_at_most : He.DefD := ⟨("want_at_most", none), "want_at_most", "want_at_most", defArgs (top 13), defBody (top 13), defScope (top 13), [], []⟩
def f_want_at_most : Fn := ⟨3, 3, [.ite (.cmp .gt (.var 2) (.var 1)) [.rais] []]⟩
def p_want_at_most : PD := ⟨3, d_want_at_most, ([("what" : PySem.Str), ("limit" : PySem.Str), ("number" : PySem.Str)] : List PySem.Str), ([("what" : PySem.Str), ("limit" : PySem.Str), ("number" : PySem.Str)] : List PySem.Str), f_want_at_most⟩
def d_is_row_value : He.DefD := ⟨("is_row_value", none), "is_row_value", "is_row_value", defArgs (top 16), defBody (top 16), defScope (top 16), [], []⟩
def f_is_row_value : Fn := ⟨1, 2, [.ite (.or (.not (.blt (.isi .tuple) [.var 0])) (.or (.cmp .gt (.blt .len [.var 0]) (.cst (.int 9))) (.not (.blt .all [.comp [1] (.call 1 [.var 1] [.at 0]) (.nm 1) (.over (.var 0)) none])))) [.ret (.cst (.bool false))] [], .ret (.cmp .eq (.blt .sorted [.var 0]) (.blt .rngL [.blt .len [.var 0]]))]⟩
def p_is_row_value : PD := ⟨4, d_is_row_value, ([("value" : PySem.Str)] : List PySem.Str), ([("value" : PySem.Str), ("one" : PySem.Str)] : List PySem.Str), f_is_row_value⟩
def d_want_row : He.DefD := ⟨("want_row", none), "want_row", "want_row", defArgs (top 17), defBody (top 17), defScope (top 17), [], []⟩
def f_want_row : Fn := ⟨1, 1, [.ite (.not (.call 4 [.var 0] [.at 0])) [.rais] []]⟩
def p_want_row : PD := ⟨5, d_want_row, ([("value" : PySem.Str)] : List PySem.Str), ([("value" : PySem.Str)] : List PySem.Str), f_want_row⟩
def d_are_positions : He.DefD := ⟨("are_positions", none), "are_positions", "are_positions", defArgs (top 18), defBody (top 18), defScope (top 18), [], []⟩
def f_are_positions : Fn := ⟨2, 5, [.ite (.or (.not (.call 2 [.var 1] [.at 0])) (.not (.blt .all [.comp [4] (.and (.call 1 [.var 4] [.at 0]) (.cmp .lt (.var 4) (.var 0))) (.nm 4) (.over (.var 1)) none]))) [.ret (.cst (.bool false))] [], .ret (.blt .all [.comp [2, 3] (.cmp .lt (.var 2) (.var 3)) (.tp [.nm 2, .nm 3]) (.zip (.var 1) (.slc (.var 1) (some (.cst (.int 1))) none)) none])]⟩
def p_are_positions : PD := ⟨6, d_are_positions, ([("many" : PySem.Str), ("value" : PySem.Str)] : List PySem.Str), ([("many" : PySem.Str), ("value" : PySem.Str), ("near" : PySem.Str), ("far" : PySem.Str), ("one" : PySem.Str)] : List PySem.Str), f_are_positions⟩
def d_standard_of : He.DefD := ⟨("standard_of", none), "standard_of", "standard_of", defArgs (top 19), defBody (top 19), defScope (top 19), [], []⟩
def f_standard_of : Fn := ⟨1, 5, [.set 1 (.blt .sorted [.var 0]), .set 2 (.dof (.comp [4, 3] (.tup [.var 3, .var 4]) (.tp [.nm 4, .nm 3]) (.enum (.var 1)) none)), .ret (.blt .tuple [.comp [3] (.dget 2 (.var 3)) (.nm 3) (.over (.var 0)) none])]⟩
def p_standard_of : PD := ⟨7, d_standard_of, ([("numbers" : PySem.Str)] : List PySem.Str), ([("numbers" : PySem.Str), ("order" : PySem.Str), ("places" : PySem.Str), ("number" : PySem.Str), ("at" : PySem.Str)] : List PySem.Str), f_standard_of⟩
def d_pattern_at : He.DefD := ⟨("pattern_at", none), "pattern_at", "pattern_at", defArgs (top 20), defBody (top 20), defScope (top 20), [], []⟩
def f_pattern_at : Fn := ⟨2, 3, [.ret (.call 7 [.comp [2] (.idx (.var 0) (.var 2)) (.nm 2) (.over (.var 1)) none] [.at 0])]⟩
def p_pattern_at : PD := ⟨8, d_pattern_at, ([("row" : PySem.Str), ("positions" : PySem.Str)] : List PySem.Str), ([("row" : PySem.Str), ("positions" : PySem.Str), ("at" : PySem.Str)] : List PySem.Str), f_pattern_at⟩
def d_undone_of : He.DefD := ⟨("undone_of", none), "undone_of", "undone_of", defArgs (top 21), defBody (top 21), defScope (top 21), [], []⟩
def f_undone_of : Fn := ⟨1, 4, [.set 1 (.bin .mul (.lst [.cst (.int 0)]) (.blt .len [.var 0])), .forS [2, 3] (.tp [.nm 2, .nm 3]) (.enum (.var 0)) [.seti 1 (.var 3) (.var 2)], .ret (.blt .tuple [.var 1])]⟩
def p_undone_of : PD := ⟨9, d_undone_of, ([("row" : PySem.Str)] : List PySem.Str), ([("row" : PySem.Str), ("found" : PySem.Str), ("at" : PySem.Str), ("number" : PySem.Str)] : List PySem.Str), f_undone_of⟩
def d_reversed_of : He.DefD := ⟨("reversed_of", none), "reversed_of", "reversed_of", defArgs (top 22), defBody (top 22), defScope (top 22), [], []⟩
def f_reversed_of : Fn := ⟨1, 1, [.ret (.rev (.var 0))]⟩
def p_reversed_of : PD := ⟨10, d_reversed_of, ([("row" : PySem.Str)] : List PySem.Str), ([("row" : PySem.Str)] : List PySem.Str), f_reversed_of⟩
def d_over_of : He.DefD := ⟨("over_of", none), "over_of", "over_of", defArgs (top 23), defBody (top 23), defScope (top 23), [], []⟩
def f_over_of : Fn := ⟨1, 2, [.ret (.blt .tuple [.comp [1] (.bin .sub (.bin .sub (.blt .len [.var 0]) (.cst (.int 1))) (.var 1)) (.nm 1) (.over (.var 0)) none])]⟩
def p_over_of : PD := ⟨11, d_over_of, ([("row" : PySem.Str)] : List PySem.Str), ([("row" : PySem.Str), ("number" : PySem.Str)] : List PySem.Str), f_over_of⟩
def d_beside_of : He.DefD := ⟨("beside_of", none), "beside_of", "beside_of", defArgs (top 24), defBody (top 24), defScope (top 24), [], []⟩
def f_beside_of : Fn := ⟨2, 3, [.ret (.bin .add (.var 0) (.blt .tuple [.comp [2] (.bin .add (.var 2) (.blt .len [.var 0])) (.nm 2) (.over (.var 1)) none]))]⟩
def p_beside_of : PD := ⟨12, d_beside_of, ([("row" : PySem.Str), ("other" : PySem.Str)] : List PySem.Str), ([("row" : PySem.Str), ("other" : PySem.Str), ("number" : PySem.Str)] : List PySem.Str), f_beside_of⟩
def d_above_of : He.DefD := ⟨("above_of", none), "above_of", "above_of", defArgs (top 25), defBody (top 25), defScope (top 25), [], []⟩
def f_above_of : Fn := ⟨2, 3, [.ret (.bin .add (.blt .tuple [.comp [2] (.bin .add (.var 2) (.blt .len [.var 1])) (.nm 2) (.over (.var 0)) none]) (.var 1))]⟩
def p_above_of : PD := ⟨13, d_above_of, ([("row" : PySem.Str), ("other" : PySem.Str)] : List PySem.Str), ([("row" : PySem.Str), ("other" : PySem.Str), ("number" : PySem.Str)] : List PySem.Str), f_above_of⟩
def d_undone : He.DefD := ⟨("undone", none), "undone", "undone", defArgs (top 26), defBody (top 26), defScope (top 26), [], []⟩
def f_undone : Fn := ⟨1, 1, [.xpr (.call 5 [.var 0] [.at 0]), .ret (.call 9 [.var 0] [.at 0])]⟩
def p_undone : PD := ⟨14, d_undone, ([("row" : PySem.Str)] : List PySem.Str), ([("row" : PySem.Str)] : List PySem.Str), f_undone⟩
def d_turned_back : He.DefD := ⟨("turned_back", none), "turned_back", "turned_back", defArgs (top 27), defBody (top 27), defScope (top 27), [], []⟩
def f_turned_back : Fn := ⟨1, 1, [.xpr (.call 5 [.var 0] [.at 0]), .ret (.call 10 [.var 0] [.at 0])]⟩
def p_turned_back : PD := ⟨15, d_turned_back, ([("row" : PySem.Str)] : List PySem.Str), ([("row" : PySem.Str)] : List PySem.Str), f_turned_back⟩
def d_turned_over : He.DefD := ⟨("turned_over", none), "turned_over", "turned_over", defArgs (top 28), defBody (top 28), defScope (top 28), [], []⟩
def f_turned_over : Fn := ⟨1, 1, [.xpr (.call 5 [.var 0] [.at 0]), .ret (.call 11 [.var 0] [.at 0])]⟩
def p_turned_over : PD := ⟨16, d_turned_over, ([("row" : PySem.Str)] : List PySem.Str), ([("row" : PySem.Str)] : List PySem.Str), f_turned_over⟩
def d_want_full_row : He.DefD := ⟨("want_full_row", none), "want_full_row", "want_full_row", defArgs (top 36), defBody (top 36), defScope (top 36), [], []⟩
def f_want_full_row : Fn := ⟨1, 1, [.ite (.or (.not (.call 4 [.var 0] [.at 0])) (.cmp .eq (.var 0) (.tup []))) [.rais] []]⟩
def p_want_full_row : PD := ⟨17, d_want_full_row, ([("value" : PySem.Str)] : List PySem.Str), ([("value" : PySem.Str)] : List PySem.Str), f_want_full_row⟩
def d_is_building_value : He.DefD := ⟨("is_building_value", none), "is_building_value", "is_building_value", defArgs (top 37), defBody (top 37), defScope (top 37), [], []⟩
def f_is_building_value : Fn := ⟨1, 3, [.set 1 (.lst [.var 0]), .whl (.cmp .ne (.var 1) (.lst [])) [.set 2 (.pop 1 none), .ite (.or (.not (.blt (.isi .tuple) [.var 2])) (.or (.cmp .eq (.blt .len [.var 2]) (.cst (.int 0))) (.not (.blt (.isi .str) [.idx (.var 2) (.cst (.int 0))])))) [.ret (.cst (.bool false))] [], .ite (.and (.cmp .inn (.idx (.var 2) (.cst (.int 0))) (.tup [.cst (.str "beside"), .cst (.str "above")])) (.cmp .eq (.blt .len [.var 2]) (.cst (.int 3)))) [.ext 1 (.lst [.idx (.var 2) (.cst (.int 1)), .idx (.var 2) (.cst (.int 2))])] [.ite (.or (.cmp .ne (.idx (.var 2) (.cst (.int 0))) (.cst (.str "one"))) (.cmp .ne (.blt .len [.var 2]) (.cst (.int 1)))) [.ret (.cst (.bool false))] []]], .ret (.cst (.bool true))]⟩
def p_is_building_value : PD := ⟨18, d_is_building_value, ([("value" : PySem.Str)] : List PySem.Str), ([("value" : PySem.Str), ("left" : PySem.Str), ("here" : PySem.Str)] : List PySem.Str), f_is_building_value⟩
def d_ones_of : He.DefD := ⟨("ones_of", none), "ones_of", "ones_of", defArgs (top 38), defBody (top 38), defScope (top 38), [], []⟩
def f_ones_of : Fn := ⟨1, 4, [.par [1, 2] [.lst [.var 0], .cst (.int 0)], .whl (.cmp .ne (.var 1) (.lst [])) [.set 3 (.pop 1 none), .set 2 (.bin .add (.var 2) (.ite (.cmp .eq (.idx (.var 3) (.cst (.int 0))) (.cst (.str "one"))) (.cst (.int 1)) (.cst (.int 0)))), .ext 1 (.blt .list [.slc (.var 3) (some (.cst (.int 1))) none])], .ret (.var 2)]⟩
def p_ones_of : PD := ⟨19, d_ones_of, ([("tree" : PySem.Str)] : List PySem.Str), ([("tree" : PySem.Str), ("left" : PySem.Str), ("many" : PySem.Str), ("here" : PySem.Str)] : List PySem.Str), f_ones_of⟩
def d_want_building : He.DefD := ⟨("want_building", none), "want_building", "want_building", defArgs (top 39), defBody (top 39), defScope (top 39), [], []⟩
def f_want_building : Fn := ⟨1, 1, [.ite (.not (.call 18 [.var 0] [.at 0])) [.rais] [], .xpr (.call 3 [.cst (.str "numbers"), .cst (.int 9), .call 19 [.var 0] [.at 0]] [.at 0, .at 1, .at 2])]⟩
def p_want_building : PD := ⟨20, d_want_building, ([("value" : PySem.Str)] : List PySem.Str), ([("value" : PySem.Str)] : List PySem.Str), f_want_building⟩
def d_row_by_building : He.DefD := ⟨("row_by_building", none), "row_by_building", "row_by_building", defArgs (top 40), defBody (top 40), defScope (top 40), [], []⟩
def f_row_by_building : Fn := ⟨1, 3, [.ite (.cmp .eq (.idx (.var 0) (.cst (.int 0))) (.cst (.str "one"))) [.ret (.tup [.cst (.int 0)])] [], .par [1, 2] [.call 21 [.idx (.var 0) (.cst (.int 1))] [.at 0], .call 21 [.idx (.var 0) (.cst (.int 2))] [.at 0]], .ret (.ite (.cmp .eq (.idx (.var 0) (.cst (.int 0))) (.cst (.str "beside"))) (.call 12 [.var 1, .var 2] [.at 0, .at 1]) (.call 13 [.var 1, .var 2] [.at 0, .at 1]))]⟩
def p_row_by_building : PD := ⟨21, d_row_by_building, ([("tree" : PySem.Str)] : List PySem.Str), ([("tree" : PySem.Str), ("near" : PySem.Str), ("far" : PySem.Str)] : List PySem.Str), f_row_by_building⟩
def d_first_cut : He.DefD := ⟨("first_cut", none), "first_cut", "first_cut", defArgs (top 41), defBody (top 41), defScope (top 41), [], []⟩
def f_first_cut : Fn := ⟨2, 4, [.forS [2, 3] (.nm 2) (.rng [.cst (.int 1), .blt .len [.var 0]]) [.set 3 (.blt .sorted [.slc (.var 0) none (some (.var 2))]), .ite (.or (.and (.var 1) (.cmp .eq (.idx (.var 3) (.neg (.cst (.int 1)))) (.bin .sub (.var 2) (.cst (.int 1))))) (.and (.not (.var 1)) (.cmp .eq (.idx (.var 3) (.cst (.int 0))) (.bin .sub (.blt .len [.var 0]) (.var 2))))) [.ret (.var 2)] []], .ret (.blt .len [.var 0])]⟩
def p_first_cut : PD := ⟨22, d_first_cut, ([("row" : PySem.Str), ("is_beside" : PySem.Str)] : List PySem.Str), ([("row" : PySem.Str), ("is_beside" : PySem.Str), ("size" : PySem.Str), ("some" : PySem.Str)] : List PySem.Str), f_first_cut⟩
def d_parts_by : He.DefD := ⟨("parts_by", none), "parts_by", "parts_by", defArgs (top 42), defBody (top 42), defScope (top 42), [], []⟩
def f_parts_by : Fn := ⟨2, 5, [.par [2, 3] [.lst [], .var 0], .whl (.cmp .ne (.var 3) (.tup [])) [.set 4 (.call 22 [.var 3, .var 1] [.at 0, .at 1]), .app 2 (.call 7 [.slc (.var 3) none (some (.var 4))] [.at 0]), .set 3 (.call 7 [.slc (.var 3) (some (.var 4)) none] [.at 0])], .ret (.var 2)]⟩
def p_parts_by : PD := ⟨23, d_parts_by, ([("row" : PySem.Str), ("is_beside" : PySem.Str)] : List PySem.Str), ([("row" : PySem.Str), ("is_beside" : PySem.Str), ("found" : PySem.Str), ("left" : PySem.Str), ("size" : PySem.Str)] : List PySem.Str), f_parts_by⟩
def d_building_of : He.DefD := ⟨("building_of", none), "building_of", "building_of", defArgs (top 43), defBody (top 43), defScope (top 43), [], []⟩
def f_building_of : Fn := ⟨1, 5, [.ite (.cmp .eq (.blt .len [.var 0]) (.cst (.int 1))) [.ret (.tup [.cst (.str "one")])] [], .forS [1, 2] (.nm 1) (.over (.tup [.cst (.str "beside"), .cst (.str "above")])) [.set 2 (.call 22 [.var 0, .cmp .eq (.var 1) (.cst (.str "beside"))] [.at 0, .at 1]), .ite (.cmp .lt (.var 2) (.blt .len [.var 0])) [.par [3, 4] [.call 24 [.call 7 [.slc (.var 0) none (some (.var 2))] [.at 0]] [.at 0], .call 24 [.call 7 [.slc (.var 0) (some (.var 2)) none] [.at 0]] [.at 0]], .ret (.ite (.or (.cmp .isC (.var 3) (.cst .none)) (.cmp .isC (.var 4) (.cst .none))) (.cst .none) (.tup [.var 1, .var 3, .var 4]))] []], .ret (.cst .none)]⟩
def p_building_of : PD := ⟨24, d_building_of, ([("row" : PySem.Str)] : List PySem.Str), ([("row" : PySem.Str), ("word" : PySem.Str), ("size" : PySem.Str), ("near" : PySem.Str), ("far" : PySem.Str)] : List PySem.Str), f_building_of⟩
def d_positions_of : He.DefD := ⟨("positions_of", none), "positions_of", "positions_of", defArgs (top 44), defBody (top 44), defScope (top 44), [], []⟩
def f_positions_of : Fn := ⟨2, 7, [.set 2 (.lst [.tup []]), .forS [3, 4] (.nm 3) (.rng [.var 1]) [.set 4 (.lst []), .forS [5] (.nm 5) (.over (.var 2)) [.ext 4 (.comp [6] (.bin .add (.var 5) (.tup [.var 6])) (.nm 6) (.rng [.ite (.cmp .ne (.var 5) (.tup [])) (.bin .add (.idx (.var 5) (.neg (.cst (.int 1)))) (.cst (.int 1))) (.cst (.int 0)), .var 0]) none)], .mov 2 4], .ret (.var 2)]⟩
def p_positions_of : PD := ⟨25, d_positions_of, ([("many" : PySem.Str), ("size" : PySem.Str)] : List PySem.Str), ([("many" : PySem.Str), ("size" : PySem.Str), ("found" : PySem.Str), ("turn" : PySem.Str), ("longer" : PySem.Str), ("row" : PySem.Str), ("at" : PySem.Str)] : List PySem.Str), f_positions_of⟩
def d_first_bar : He.DefD := ⟨("first_bar", none), "first_bar", "first_bar", defArgs (top 45), defBody (top 45), defScope (top 45), [], []⟩
def f_first_bar : Fn := ⟨3, 4, [.forS [3] (.nm 3) (.over (.call 25 [.blt .len [.var 0], .var 2] [.at 0, .at 1])) [.ite (.cmp .inn (.call 8 [.var 0, .var 3] [.at 0, .at 1]) (.var 1)) [.ret (.var 3)] []], .ret (.cst .none)]⟩
def p_first_bar : PD := ⟨26, d_first_bar, ([("row" : PySem.Str), ("barred" : PySem.Str), ("size" : PySem.Str)] : List PySem.Str), ([("row" : PySem.Str), ("barred" : PySem.Str), ("size" : PySem.Str), ("positions" : PySem.Str)] : List PySem.Str), f_first_bar⟩
def d_is_bar_of : He.DefD := ⟨("is_bar_of", none), "is_bar_of", "is_bar_of", defArgs (top 46), defBody (top 46), defScope (top 46), [], []⟩
def f_is_bar_of : Fn := ⟨4, 4, [.ite (.or (.not (.blt (.isi .tuple) [.var 3])) (.or (.cmp .ne (.blt .len [.var 3]) (.var 2)) (.not (.call 6 [.blt .len [.var 0], .var 3] [.at 0, .at 1])))) [.ret (.cst (.bool false))] [], .ret (.cmp .inn (.call 8 [.var 0, .var 3] [.at 0, .at 1]) (.var 1))]⟩
def p_is_bar_of : PD := ⟨27, d_is_bar_of, ([("row" : PySem.Str), ("barred" : PySem.Str), ("size" : PySem.Str), ("value" : PySem.Str)] : List PySem.Str), ([("row" : PySem.Str), ("barred" : PySem.Str), ("size" : PySem.Str), ("value" : PySem.Str)] : List PySem.Str), f_is_bar_of⟩
def d_pairings : He.DefD := ⟨("pairings", none), "pairings", "pairings", defArgs (top 47), defBody (top 47), defScope (top 47), [], []⟩
def f_pairings : Fn := ⟨1, 4, [.set 1 (.lst [.cst (.int 1)]), .forS [2] (.nm 2) (.rng [.cst (.int 2), .bin .add (.var 0) (.cst (.int 1))]) [.app 1 (.blt .sum [.comp [3] (.bin .mul (.idx (.var 1) (.bin .sub (.var 3) (.cst (.int 1)))) (.idx (.var 1) (.bin .sub (.bin .sub (.var 2) (.var 3)) (.cst (.int 1))))) (.nm 3) (.rng [.cst (.int 1), .var 2]) none])], .ret (.idx (.var 1) (.bin .sub (.var 0) (.cst (.int 1))))]⟩
def p_pairings : PD := ⟨28, d_pairings, ([("many" : PySem.Str)] : List PySem.Str), ([("many" : PySem.Str), ("found" : PySem.Str), ("size" : PySem.Str), ("near" : PySem.Str)] : List PySem.Str), f_pairings⟩
def d_count_buildings : He.DefD := ⟨("count_buildings", none), "count_buildings", "count_buildings", defArgs (top 48), defBody (top 48), defScope (top 48), [], []⟩
def f_count_buildings : Fn := ⟨1, 5, [.ite (.cmp .eq (.blt .len [.var 0]) (.cst (.int 1))) [.ret (.cst (.int 1))] [], .forS [1, 2] (.nm 1) (.over (.tup [.cst (.bool true), .cst (.bool false)])) [.set 2 (.call 23 [.var 0, .var 1] [.at 0, .at 1]), .ite (.cmp .gt (.blt .len [.var 2]) (.cst (.int 1))) [.set 3 (.call 28 [.blt .len [.var 2]] [.at 0]), .forS [4] (.nm 4) (.over (.var 2)) [.set 3 (.bin .mul (.var 3) (.call 29 [.var 4] [.at 0]))], .ret (.var 3)] []], .ret (.cst (.int 0))]⟩
def p_count_buildings : PD := ⟨29, d_count_buildings, ([("row" : PySem.Str)] : List PySem.Str), ([("row" : PySem.Str), ("is_beside" : PySem.Str), ("parts" : PySem.Str), ("found" : PySem.Str), ("part" : PySem.Str)] : List PySem.Str), f_count_buildings⟩
def d_is_built : He.DefD := ⟨("is_built", none), "is_built", "is_built", defArgs (top 49), defBody (top 49), defScope (top 49), [], []⟩
def f_is_built : Fn := ⟨1, 1, [.xpr (.call 17 [.var 0] [.at 0]), .ret (.cmp .isntC (.call 24 [.var 0] [.at 0]) (.cst .none))]⟩
def p_is_built : PD := ⟨30, d_is_built, ([("row" : PySem.Str)] : List PySem.Str), ([("row" : PySem.Str)] : List PySem.Str), f_is_built⟩
def d_building : He.DefD := ⟨("building", none), "building", "building", defArgs (top 50), defBody (top 50), defScope (top 50), [], []⟩
def f_building : Fn := ⟨1, 1, [.xpr (.call 17 [.var 0] [.at 0]), .ret (.call 24 [.var 0] [.at 0])]⟩
def p_building : PD := ⟨31, d_building, ([("row" : PySem.Str)] : List PySem.Str), ([("row" : PySem.Str)] : List PySem.Str), f_building⟩
def d_row_of_building : He.DefD := ⟨("row_of_building", none), "row_of_building", "row_of_building", defArgs (top 51), defBody (top 51), defScope (top 51), [], []⟩
def f_row_of_building : Fn := ⟨1, 1, [.xpr (.call 20 [.var 0] [.at 0]), .ret (.call 21 [.var 0] [.at 0])]⟩
def p_row_of_building : PD := ⟨32, d_row_of_building, ([("tree" : PySem.Str)] : List PySem.Str), ([("tree" : PySem.Str)] : List PySem.Str), f_row_of_building⟩
def d_many_buildings : He.DefD := ⟨("many_buildings", none), "many_buildings", "many_buildings", defArgs (top 52), defBody (top 52), defScope (top 52), [], []⟩
def f_many_buildings : Fn := ⟨1, 1, [.xpr (.call 17 [.var 0] [.at 0]), .ret (.call 29 [.var 0] [.at 0])]⟩
def p_many_buildings : PD := ⟨33, d_many_buildings, ([("row" : PySem.Str)] : List PySem.Str), ([("row" : PySem.Str)] : List PySem.Str), f_many_buildings⟩
def d_built_paper : He.DefD := ⟨("built_paper", none), "built_paper", "built_paper", defArgs (top 53), defBody (top 53), defScope (top 53), [], []⟩
def f_built_paper : Fn := ⟨1, 2, [.xpr (.call 17 [.var 0] [.at 0]), .set 1 (.call 24 [.var 0] [.at 0]), .ret (.ite (.cmp .isntC (.var 1) (.cst .none)) (.tup [.cst (.str "tree"), .var 1]) (.tup [.cst (.str "bar"), .call 26 [.var 0, .cst (.tuple [.tuple [.int 1, .int 3, .int 0, .int 2], .tuple [.int 2, .int 0, .int 3, .int 1]]), .cst (.int 4)] [.at 0, .at 1, .at 2]]))]⟩
def p_built_paper : PD := ⟨34, d_built_paper, ([("row" : PySem.Str)] : List PySem.Str), ([("row" : PySem.Str), ("tree" : PySem.Str)] : List PySem.Str), f_built_paper⟩
def d_is_built_paper : He.DefD := ⟨("is_built_paper", none), "is_built_paper", "is_built_paper", defArgs (top 54), defBody (top 54), defScope (top 54), [], []⟩
def f_is_built_paper : Fn := ⟨2, 2, [.xpr (.call 17 [.var 0] [.at 0]), .ite (.or (.not (.blt (.isi .tuple) [.var 1])) (.or (.cmp .ne (.blt .len [.var 1]) (.cst (.int 2))) (.not (.blt (.isi .str) [.idx (.var 1) (.cst (.int 0))])))) [.ret (.cst (.bool false))] [], .ite (.cmp .eq (.idx (.var 1) (.cst (.int 0))) (.cst (.str "tree"))) [.ret (.and (.call 18 [.idx (.var 1) (.cst (.int 1))] [.at 0]) (.and (.cmp .eq (.call 19 [.idx (.var 1) (.cst (.int 1))] [.at 0]) (.blt .len [.var 0])) (.cmp .eq (.call 21 [.idx (.var 1) (.cst (.int 1))] [.at 0]) (.var 0))))] [], .ret (.and (.cmp .eq (.idx (.var 1) (.cst (.int 0))) (.cst (.str "bar"))) (.call 27 [.var 0, .cst (.tuple [.tuple [.int 1, .int 3, .int 0, .int 2], .tuple [.int 2, .int 0, .int 3, .int 1]]), .cst (.int 4), .idx (.var 1) (.cst (.int 1))] [.at 0, .at 1, .at 2, .at 3]))]⟩
def p_is_built_paper : PD := ⟨35, d_is_built_paper, ([("row" : PySem.Str), ("value" : PySem.Str)] : List PySem.Str), ([("row" : PySem.Str), ("value" : PySem.Str)] : List PySem.Str), f_is_built_paper⟩
def d_want_lengths : He.DefD := ⟨("want_lengths", none), "want_lengths", "want_lengths", defArgs (top 58), defBody (top 58), defScope (top 58), [], []⟩
def f_want_lengths : Fn := ⟨1, 2, [.ite (.or (.not (.call 2 [.var 0] [.at 0])) (.not (.chain .le .le (.cst (.int 1)) (.blt .len [.var 0]) (.cst (.int 9))))) [.rais] [], .ite (.not (.blt .all [.comp [1] (.and (.call 0 [.var 1] [.at 0]) (.chain .le .le (.cst (.int 1)) (.var 1) (.cst (.int 9)))) (.nm 1) (.over (.var 0)) none])) [.rais] [], .xpr (.call 3 [.cst (.str "numbers"), .cst (.int 9), .blt .sum [.var 0]] [.at 0, .at 1, .at 2])]⟩
def p_want_lengths : PD := ⟨36, d_want_lengths, ([("value" : PySem.Str)] : List PySem.Str), ([("value" : PySem.Str), ("one" : PySem.Str)] : List PySem.Str), f_want_lengths⟩
def d_longest_of : He.DefD := ⟨("longest_of", none), "longest_of", "longest_of", defArgs (top 59), defBody (top 59), defScope (top 59), [], []⟩
def f_longest_of : Fn := ⟨1, 9, [.ite (.cmp .eq (.blt .len [.var 0]) (.cst (.int 1))) [.ret (.tup [.cst (.int 1), .cst (.int 1)])] [], .forS [1, 2] (.nm 1) (.over (.tup [.cst (.bool true), .cst (.bool false)])) [.set 2 (.call 23 [.var 0, .var 1] [.at 0, .at 1]), .ite (.cmp .gt (.blt .len [.var 2]) (.cst (.int 1))) [.set 3 (.comp [7] (.call 37 [.var 7] [.at 0]) (.nm 7) (.over (.var 2)) none), .asg (.tp [.nm 5, .nm 6]) (.ite (.var 1) (.tup [.cst (.int 0), .cst (.int 1)]) (.tup [.cst (.int 1), .cst (.int 0)])), .set 4 (.tup [.blt .sum [.comp [8] (.idx (.var 8) (.var 5)) (.nm 8) (.over (.var 3)) none], .blt .max [.comp [8] (.idx (.var 8) (.var 6)) (.nm 8) (.over (.var 3)) none]]), .ret (.ite (.var 1) (.var 4) (.rev (.var 4)))] []], .ret (.cst .none)]⟩
def p_longest_of : PD := ⟨37, d_longest_of, ([("row" : PySem.Str)] : List PySem.Str), ([("row" : PySem.Str), ("is_beside" : PySem.Str), ("parts" : PySem.Str), ("both" : PySem.Str), ("told" : PySem.Str), ("added" : PySem.Str), ("greatest" : PySem.Str), ("part" : PySem.Str), ("one" : PySem.Str)] : List PySem.Str), f_longest_of⟩
def d_layers_of : He.DefD := ⟨("layers_of", none), "layers_of", "layers_of", defArgs (top 60), defBody (top 60), defScope (top 60), [], []⟩
def f_layers_of : Fn := ⟨1, 3, [.set 1 (.call 23 [.var 0, .cst (.bool true)] [.at 0, .at 1]), .ite (.blt .any [.comp [2] (.cmp .ne (.var 2) (.rev (.blt .rngT [.blt .len [.var 2]]))) (.nm 2) (.over (.var 1)) none]) [.ret (.cst .none)] [], .ret (.comp [2] (.blt .len [.var 2]) (.nm 2) (.over (.var 1)) none)]⟩
def p_layers_of : PD := ⟨38, d_layers_of, ([("row" : PySem.Str)] : List PySem.Str), ([("row" : PySem.Str), ("parts" : PySem.Str), ("part" : PySem.Str)] : List PySem.Str), f_layers_of⟩
def d_row_by_layers : He.DefD := ⟨("row_by_layers", none), "row_by_layers", "row_by_layers", defArgs (top 61), defBody (top 61), defScope (top 61), [], []⟩
def f_row_by_layers : Fn := ⟨1, 3, [.set 1 (.tup []), .forS [2] (.nm 2) (.over (.var 0)) [.set 1 (.call 12 [.var 1, .rev (.blt .rngT [.var 2])] [.at 0, .at 1])], .ret (.var 1)]⟩
def p_row_by_layers : PD := ⟨39, d_row_by_layers, ([("lengths" : PySem.Str)] : List PySem.Str), ([("lengths" : PySem.Str), ("found" : PySem.Str), ("size" : PySem.Str)] : List PySem.Str), f_row_by_layers⟩
def d_parts_beside : He.DefD := ⟨("parts_beside", none), "parts_beside", "parts_beside", defArgs (top 62), defBody (top 62), defScope (top 62), [], []⟩
def f_parts_beside : Fn := ⟨1, 1, [.xpr (.call 17 [.var 0] [.at 0]), .ret (.call 23 [.var 0, .cst (.bool true)] [.at 0, .at 1])]⟩
def p_parts_beside : PD := ⟨40, d_parts_beside, ([("row" : PySem.Str)] : List PySem.Str), ([("row" : PySem.Str)] : List PySem.Str), f_parts_beside⟩
def d_parts_above : He.DefD := ⟨("parts_above", none), "parts_above", "parts_above", defArgs (top 63), defBody (top 63), defScope (top 63), [], []⟩
def f_parts_above : Fn := ⟨1, 1, [.xpr (.call 17 [.var 0] [.at 0]), .ret (.call 23 [.var 0, .cst (.bool false)] [.at 0, .at 1])]⟩
def p_parts_above : PD := ⟨41, d_parts_above, ([("row" : PySem.Str)] : List PySem.Str), ([("row" : PySem.Str)] : List PySem.Str), f_parts_above⟩
def d_longest_rising : He.DefD := ⟨("longest_rising", none), "longest_rising", "longest_rising", defArgs (top 64), defBody (top 64), defScope (top 64), [], []⟩
def f_longest_rising : Fn := ⟨1, 1, [.xpr (.call 17 [.var 0] [.at 0]), .ite (.cmp .isC (.call 24 [.var 0] [.at 0]) (.cst .none)) [.rais] [], .ret (.idx (.call 37 [.var 0] [.at 0]) (.cst (.int 0)))]⟩
def p_longest_rising : PD := ⟨42, d_longest_rising, ([("row" : PySem.Str)] : List PySem.Str), ([("row" : PySem.Str)] : List PySem.Str), f_longest_rising⟩
def d_longest_falling : He.DefD := ⟨("longest_falling", none), "longest_falling", "longest_falling", defArgs (top 65), defBody (top 65), defScope (top 65), [], []⟩
def f_longest_falling : Fn := ⟨1, 1, [.xpr (.call 17 [.var 0] [.at 0]), .ite (.cmp .isC (.call 24 [.var 0] [.at 0]) (.cst .none)) [.rais] [], .ret (.idx (.call 37 [.var 0] [.at 0]) (.cst (.int 1)))]⟩
def p_longest_falling : PD := ⟨43, d_longest_falling, ([("row" : PySem.Str)] : List PySem.Str), ([("row" : PySem.Str)] : List PySem.Str), f_longest_falling⟩
def d_layers : He.DefD := ⟨("layers", none), "layers", "layers", defArgs (top 66), defBody (top 66), defScope (top 66), [], []⟩
def f_layers : Fn := ⟨1, 1, [.xpr (.call 17 [.var 0] [.at 0]), .ret (.call 38 [.var 0] [.at 0])]⟩
def p_layers : PD := ⟨44, d_layers, ([("row" : PySem.Str)] : List PySem.Str), ([("row" : PySem.Str)] : List PySem.Str), f_layers⟩
def d_layered_row : He.DefD := ⟨("layered_row", none), "layered_row", "layered_row", defArgs (top 67), defBody (top 67), defScope (top 67), [], []⟩
def f_layered_row : Fn := ⟨1, 1, [.xpr (.call 36 [.var 0] [.at 0]), .ret (.call 39 [.var 0] [.at 0])]⟩
def p_layered_row : PD := ⟨45, d_layered_row, ([("lengths" : PySem.Str)] : List PySem.Str), ([("lengths" : PySem.Str)] : List PySem.Str), f_layered_row⟩
def d_layered_paper : He.DefD := ⟨("layered_paper", none), "layered_paper", "layered_paper", defArgs (top 68), defBody (top 68), defScope (top 68), [], []⟩
def f_layered_paper : Fn := ⟨1, 2, [.xpr (.call 17 [.var 0] [.at 0]), .set 1 (.call 38 [.var 0] [.at 0]), .ret (.ite (.cmp .isntC (.var 1) (.cst .none)) (.tup [.cst (.str "layers"), .var 1]) (.tup [.cst (.str "bar"), .call 26 [.var 0, .cst (.tuple [.tuple [.int 1, .int 2, .int 0], .tuple [.int 2, .int 0, .int 1]]), .cst (.int 3)] [.at 0, .at 1, .at 2]]))]⟩
def p_layered_paper : PD := ⟨46, d_layered_paper, ([("row" : PySem.Str)] : List PySem.Str), ([("row" : PySem.Str), ("lengths" : PySem.Str)] : List PySem.Str), f_layered_paper⟩
def d__law_pick : He.DefD := ⟨("_law_pick", none), "_law_pick", "_law_pick", defArgs (top 72), defBody (top 72), defScope (top 72), [], []⟩
def f__law_pick : Fn := ⟨2, 2, [.ret (.idx (.var 1) (.draw 0 (.blt .len [.var 1])))]⟩
def p__law_pick : PD := ⟨49, d__law_pick, ([("pot" : PySem.Str), ("some" : PySem.Str)] : List PySem.Str), ([("pot" : PySem.Str), ("some" : PySem.Str)] : List PySem.Str), f__law_pick⟩
def d__law_chain : He.DefD := ⟨("_law_chain", none), "_law_chain", "_law_chain", defArgs (top 73), defBody (top 73), defScope (top 73), [], []⟩
def f__law_chain : Fn := ⟨2, 4, [.set 2 (.tup [.cst (.str "one")]), .forS [3] (.nm 3) (.rng [.bin .sub (.var 1) (.cst (.int 1))]) [.set 2 (.tup [.var 0, .tup [.cst (.str "one")], .var 2])], .ret (.var 2)]⟩
def p__law_chain : PD := ⟨50, d__law_chain, ([("word" : PySem.Str), ("many" : PySem.Str)] : List PySem.Str), ([("word" : PySem.Str), ("many" : PySem.Str), ("tree" : PySem.Str), ("turn" : PySem.Str)] : List PySem.Str), f__law_chain⟩
def d__law_lines_right : He.DefD := ⟨("_law_lines_right", none), "_law_lines_right", "_law_lines_right", defArgs (top 74), defBody (top 74), defScope (top 74), [], []⟩
def f__law_lines_right : Fn := ⟨1, 3, [.set 1 (.bin .add (.cst (.int 1)) (.draw 0 (.cst (.int 9)))), .set 2 (.blt .rngT [.var 1]), .ite (.or (.cmp .ne (.call 31 [.var 2] [.at 0]) (.call 50 [.cst (.str "beside"), .var 1] [.at 0, .at 1])) (.or (.cmp .ne (.call 31 [.rev (.var 2)] [.at 0]) (.call 50 [.cst (.str "above"), .var 1] [.at 0, .at 1])) (.cmp .ne (.call 32 [.call 50 [.cst (.str "above"), .var 1] [.at 0, .at 1]] [.at 0]) (.rev (.var 2))))) [.ret (.cst (.bool false))] [], .ite (.cmp .ne (.lst [.call 42 [.var 2] [.at 0], .call 43 [.var 2] [.at 0], .call 42 [.rev (.var 2)] [.at 0], .call 43 [.rev (.var 2)] [.at 0]]) (.lst [.var 1, .cst (.int 1), .cst (.int 1), .var 1])) [.ret (.cst (.bool false))] [], .ite (.or (.cmp .ne (.call 44 [.var 2] [.at 0]) (.bin .mul (.lst [.cst (.int 1)]) (.var 1))) (.or (.cmp .ne (.call 44 [.rev (.var 2)] [.at 0]) (.lst [.var 1])) (.cmp .ne (.call 46 [.var 2] [.at 0]) (.tup [.cst (.str "layers"), .bin .mul (.lst [.cst (.int 1)]) (.var 1)])))) [.ret (.cst (.bool false))] [], .ret (.and (.cmp .eq (.call 40 [.var 2] [.at 0]) (.bin .mul (.lst [.tup [.cst (.int 0)]]) (.var 1))) (.and (.cmp .eq (.call 41 [.var 2] [.at 0]) (.ite (.cmp .eq (.var 1) (.cst (.int 1))) (.lst [.tup [.cst (.int 0)]]) (.lst [.var 2]))) (.cmp .eq (.call 41 [.rev (.var 2)] [.at 0]) (.bin .mul (.lst [.tup [.cst (.int 0)]]) (.var 1)))))]⟩
def p__law_lines_right : PD := ⟨51, d__law_lines_right, ([("pot" : PySem.Str)] : List PySem.Str), ([("pot" : PySem.Str), ("many" : PySem.Str), ("row" : PySem.Str)] : List PySem.Str), f__law_lines_right⟩
def d__law_layers_right : He.DefD := ⟨("_law_layers_right", none), "_law_layers_right", "_law_layers_right", defArgs (top 75), defBody (top 75), defScope (top 75), [], []⟩
def f__law_layers_right : Fn := ⟨1, 8, [.set 1 (.bin .add (.cst (.int 1)) (.draw 0 (.cst (.int 9)))), .set 2 (.bin .add (.cst (.int 1)) (.draw 0 (.bin .fdiv (.cst (.int 9)) (.var 1)))), .set 3 (.call 45 [.bin .mul (.lst [.var 1]) (.var 2)] [.at 0]), .set 4 (.lst [.cst (.int 1), .cst (.int 1), .cst (.int 2), .cst (.int 5), .cst (.int 14), .cst (.int 42), .cst (.int 132), .cst (.int 429), .cst (.int 1430)]), .ite (.or (.cmp .ne (.call 44 [.var 3] [.at 0]) (.bin .mul (.lst [.var 1]) (.var 2))) (.or (.cmp .ne (.lst [.call 42 [.var 3] [.at 0], .call 43 [.var 3] [.at 0]]) (.lst [.var 2, .var 1])) (.cmp .ne (.call 14 [.var 3] [.at 0]) (.var 3)))) [.ret (.cst (.bool false))] [], .set 5 (.idx (.var 4) (.bin .sub (.var 2) (.cst (.int 1)))), .forS [6] (.nm 6) (.rng [.var 2]) [.set 5 (.bin .mul (.var 5) (.idx (.var 4) (.bin .sub (.var 1) (.cst (.int 1)))))], .ite (.or (.cmp .ne (.call 33 [.var 3] [.at 0]) (.var 5)) (.cmp .ne (.call 40 [.var 3] [.at 0]) (.bin .mul (.lst [.rev (.blt .rngT [.var 1])]) (.var 2)))) [.ret (.cst (.bool false))] [], .set 7 (.call 16 [.var 3] [.at 0]), .ret (.and (.cmp .eq (.call 41 [.var 7] [.at 0]) (.bin .mul (.lst [.blt .rngT [.var 1]]) (.var 2))) (.and (.cmp .eq (.call 33 [.var 7] [.at 0]) (.var 5)) (.cmp .eq (.cmp .isntC (.call 44 [.var 7] [.at 0]) (.cst .none)) (.or (.cmp .eq (.var 2) (.cst (.int 1))) (.cmp .eq (.var 1) (.cst (.int 1)))))))]⟩
def p__law_layers_right : PD := ⟨52, d__law_layers_right, ([("pot" : PySem.Str)] : List PySem.Str), ([("pot" : PySem.Str), ("size" : PySem.Str), ("many" : PySem.Str), ("row" : PySem.Str), ("rising" : PySem.Str), ("due" : PySem.Str), ("turn" : PySem.Str), ("late" : PySem.Str)] : List PySem.Str), f__law_layers_right⟩
def d__law_barred_right : He.DefD := ⟨("_law_barred_right", none), "_law_barred_right", "_law_barred_right", defArgs (top 76), defBody (top 76), defScope (top 76), [], []⟩
def f__law_barred_right : Fn := ⟨1, 8, [.forS [1, 2, 3, 4, 5] (.nm 1) (.over (.lst [.tup [.cst (.int 1), .cst (.int 3), .cst (.int 0), .cst (.int 2)], .tup [.cst (.int 2), .cst (.int 0), .cst (.int 3), .cst (.int 1)]])) [.ite (.or (.call 30 [.var 1] [.at 0]) (.or (.cmp .isntC (.call 31 [.var 1] [.at 0]) (.cst .none)) (.or (.cmp .ne (.call 33 [.var 1] [.at 0]) (.cst (.int 0))) (.cmp .ne (.call 34 [.var 1] [.at 0]) (.tup [.cst (.str "bar"), .tup [.cst (.int 0), .cst (.int 1), .cst (.int 2), .cst (.int 3)]]))))) [.ret (.cst (.bool false))] [], .set 2 (.bin .add (.tup [.cst (.int 0)]) (.blt .tuple [.comp [6] (.bin .add (.var 6) (.cst (.int 1))) (.nm 6) (.over (.var 1)) none])), .ite (.or (.cmp .ne (.call 34 [.var 2] [.at 0]) (.tup [.cst (.str "bar"), .tup [.cst (.int 1), .cst (.int 2), .cst (.int 3), .cst (.int 4)]])) (.or (.cmp .ne (.call 40 [.var 2] [.at 0]) (.lst [.tup [.cst (.int 0)], .var 1])) (.call 30 [.call 15 [.var 2] [.at 0]] [.at 0]))) [.ret (.cst (.bool false))] [], .set 3 (.draw 0 (.cst (.int 4))), .set 4 (.comp [6] (.ite (.cmp .gt (.var 6) (.idx (.var 1) (.var 3))) (.bin .add (.var 6) (.cst (.int 1))) (.var 6)) (.nm 6) (.over (.var 1)) none), .set 5 (.blt .tuple [.bin .add (.bin .add (.slc (.var 4) none (some (.bin .add (.var 3) (.cst (.int 1))))) (.lst [.bin .add (.idx (.var 1) (.var 3)) (.cst (.int 1))])) (.slc (.var 4) (some (.bin .add (.var 3) (.cst (.int 1)))) none)]), .ite (.or (.call 30 [.var 5] [.at 0]) (.cmp .isntC (.call 35 [.var 5, .tup [.cst (.str "bar"), .blt .tuple [.comp [7] (.var 7) (.nm 7) (.rng [.cst (.int 5)]) (some (.cmp .ne (.var 7) (.var 3)))]]] [.at 0, .at 1]) (.cst (.bool true)))) [.ret (.cst (.bool false))] [], .ite (.cmp .isntC (.call 35 [.var 5, .tup [.cst (.str "bar"), .blt .tuple [.comp [7] (.var 7) (.nm 7) (.rng [.cst (.int 5)]) (some (.cmp .ne (.var 7) (.bin .add (.var 3) (.cst (.int 1)))))]]] [.at 0, .at 1]) (.cst (.bool true))) [.ret (.cst (.bool false))] []], .ret (.and (.cmp .eq (.idx (.call 34 [.tup [.cst (.int 1), .cst (.int 3), .cst (.int 5), .cst (.int 0), .cst (.int 2), .cst (.int 4)]] [.at 0]) (.cst (.int 0))) (.cst (.str "bar"))) (.not (.call 30 [.tup [.cst (.int 2), .cst (.int 4), .cst (.int 0), .cst (.int 5), .cst (.int 1), .cst (.int 3)]] [.at 0])))]⟩
def p__law_barred_right : PD := ⟨53, d__law_barred_right, ([("pot" : PySem.Str)] : List PySem.Str), ([("pot" : PySem.Str), ("row" : PySem.Str), ("wide" : PySem.Str), ("at" : PySem.Str), ("split" : PySem.Str), ("late" : PySem.Str), ("one" : PySem.Str), ("place" : PySem.Str)] : List PySem.Str), f__law_barred_right⟩
def d__law_deep_right : He.DefD := ⟨("_law_deep_right", none), "_law_deep_right", "_law_deep_right", defArgs (top 77), defBody (top 77), defScope (top 77), [], []⟩
def f__law_deep_right : Fn := ⟨1, 6, [.set 1 (.bin .add (.cst (.int 1)) (.draw 0 (.cst (.int 9)))), .par [4, 5] [.tup [.cst (.str "one")], .call 49 [.var 0, .lst [.cst (.str "beside"), .cst (.str "above")]] [.at 0, .at 1]], .forS [2] (.nm 2) (.rng [.bin .sub (.var 1) (.cst (.int 1))]) [.set 5 (.ite (.cmp .eq (.var 5) (.cst (.str "beside"))) (.cst (.str "above")) (.cst (.str "beside"))), .set 4 (.tup [.var 5, .var 4, .tup [.cst (.str "one")]])], .set 3 (.call 32 [.var 4] [.at 0]), .ite (.or (.cmp .ne (.call 33 [.var 3] [.at 0]) (.cst (.int 1))) (.or (.cmp .ne (.call 31 [.var 3] [.at 0]) (.var 4)) (.cmp .ne (.blt .len [.var 3]) (.var 1)))) [.ret (.cst (.bool false))] [], .ret (.cmp .eq (.bin .add (.call 42 [.var 3] [.at 0]) (.call 43 [.var 3] [.at 0])) (.bin .add (.var 1) (.cst (.int 1))))]⟩
def p__law_deep_right : PD := ⟨54, d__law_deep_right, ([("pot" : PySem.Str)] : List PySem.Str), ([("pot" : PySem.Str), ("many" : PySem.Str), ("turn" : PySem.Str), ("row" : PySem.Str), ("tree" : PySem.Str), ("word" : PySem.Str)] : List PySem.Str), f__law_deep_right⟩
def d_law : He.DefD := ⟨("law", none), "law", "law", defArgs (top 78), defBody (top 78), defScope (top 78), [], []⟩
def f_law : Fn := ⟨1, 2, [.set 1 (.mkpot 0 (.cst (.int 0))), .ret (.and (.call 51 [.var 1] [.at 0]) (.and (.call 52 [.var 1] [.at 0]) (.and (.call 53 [.var 1] [.at 0]) (.call 54 [.var 1] [.at 0]))))]⟩
def p_law : PD := ⟨55, d_law, ([("script" : PySem.Str)] : List PySem.Str), ([("script" : PySem.Str), ("pot" : PySem.Str)] : List PySem.Str), f_law⟩
def d__law_pot : He.DefD := ⟨("_law_pot", none), "_law_pot", "_law_pot", defArgs (top 70), defBody (top 70), defScope (top 70), [], []⟩
def d__law_draw : He.DefD := ⟨("_law_draw", none), "_law_draw", "_law_draw", defArgs (top 71), defBody (top 71), defScope (top 71), [], []⟩
def PL : List PD := ([p_is_integer, p_is_count, p_is_list, p_want_at_most, p_is_row_value, p_want_row, p_are_positions, p_standard_of, p_pattern_at, p_undone_of, p_reversed_of, p_over_of, p_beside_of, p_above_of, p_undone, p_turned_back, p_turned_over, p_want_full_row, p_is_building_value, p_ones_of, p_want_building, p_row_by_building, p_first_cut, p_parts_by, p_building_of, p_positions_of, p_first_bar, p_is_bar_of, p_pairings, p_count_buildings] : List PD) ++ ([p_is_built, p_building, p_row_of_building, p_many_buildings, p_built_paper, p_is_built_paper, p_want_lengths, p_longest_of, p_layers_of, p_row_by_layers, p_parts_beside, p_parts_above, p_longest_rising, p_longest_falling, p_layers, p_layered_row, p_layered_paper, p__law_pick, p__law_chain, p__law_lines_right, p__law_layers_right, p__law_barred_right, p__law_deep_right, p_law] : List PD)
def tab : Nat → Option Fn
  | 0 => some f_is_integer
  | 1 => some f_is_count
  | 2 => some f_is_list
  | 3 => some f_want_at_most
  | 4 => some f_is_row_value
  | 5 => some f_want_row
  | 6 => some f_are_positions
  | 7 => some f_standard_of
  | 8 => some f_pattern_at
  | 9 => some f_undone_of
  | 10 => some f_reversed_of
  | 11 => some f_over_of
  | 12 => some f_beside_of
  | 13 => some f_above_of
  | 14 => some f_undone
  | 15 => some f_turned_back
  | 16 => some f_turned_over
  | 17 => some f_want_full_row
  | 18 => some f_is_building_value
  | 19 => some f_ones_of
  | 20 => some f_want_building
  | 21 => some f_row_by_building
  | 22 => some f_first_cut
  | 23 => some f_parts_by
  | 24 => some f_building_of
  | 25 => some f_positions_of
  | 26 => some f_first_bar
  | 27 => some f_is_bar_of
  | 28 => some f_pairings
  | 29 => some f_count_buildings
  | 30 => some f_is_built
  | 31 => some f_building
  | 32 => some f_row_of_building
  | 33 => some f_many_buildings
  | 34 => some f_built_paper
  | 35 => some f_is_built_paper
  | 36 => some f_want_lengths
  | 37 => some f_longest_of
  | 38 => some f_layers_of
  | 39 => some f_row_by_layers
  | 40 => some f_parts_beside
  | 41 => some f_parts_above
  | 42 => some f_longest_rising
  | 43 => some f_longest_falling
  | 44 => some f_layers
  | 45 => some f_layered_row
  | 46 => some f_layered_paper
  | 49 => some f__law_pick
  | 50 => some f__law_chain
  | 51 => some f__law_lines_right
  | 52 => some f__law_layers_right
  | 53 => some f__law_barred_right
  | 54 => some f__law_deep_right
  | 55 => some f_law
  | _ => none
def blts : List PySem.Str := ([("ArithmeticError" : PySem.Str), ("RuntimeError" : PySem.Str), ("ValueError" : PySem.Str), ("abs" : PySem.Str), ("all" : PySem.Str), ("any" : PySem.Str), ("bool" : PySem.Str), ("dict" : PySem.Str), ("divmod" : PySem.Str), ("enumerate" : PySem.Str), ("int" : PySem.Str), ("isinstance" : PySem.Str), ("len" : PySem.Str), ("list" : PySem.Str), ("max" : PySem.Str), ("range" : PySem.Str), ("sorted" : PySem.Str), ("str" : PySem.Str), ("sum" : PySem.Str), ("tuple" : PySem.Str), ("zip" : PySem.Str)] : List PySem.Str)
def cInts : List (PySem.Str × Int) := [("MOST_NUMBERS", 9)]
def cStrs : List (PySem.Str × PySem.Str) := [("ONE", "one"), ("BESIDE", "beside"), ("ABOVE", "above"), ("TREE_WORD", "tree"), ("BAR_WORD", "bar"), ("LAYERS_WORD", "layers")]
def cTups : List (PySem.Str × List PyData) := [("BARRED", [.tuple [.int 1, .int 3, .int 0, .int 2], .tuple [.int 2, .int 0, .int 3, .int 1]]), ("UNLAYERED", [.tuple [.int 1, .int 2, .int 0], .tuple [.int 2, .int 0, .int 1]])]
def shapes : List (Nat × PySem.Str × Nat × List PySem.Str × List Ag) := ([(53, "_law_barred_right", 1, ([] : List PySem.Str), [.at 0]), (50, "_law_chain", 2, ([] : List PySem.Str), [.at 0, .at 1]), (54, "_law_deep_right", 1, ([] : List PySem.Str), [.at 0]), (52, "_law_layers_right", 1, ([] : List PySem.Str), [.at 0]), (51, "_law_lines_right", 1, ([] : List PySem.Str), [.at 0]), (49, "_law_pick", 2, ([] : List PySem.Str), [.at 0, .at 1]), (13, "above_of", 2, ([] : List PySem.Str), [.at 0, .at 1]), (6, "are_positions", 2, ([] : List PySem.Str), [.at 0, .at 1]), (12, "beside_of", 2, ([] : List PySem.Str), [.at 0, .at 1]), (31, "building", 0, ([("row" : PySem.Str)] : List PySem.Str), [.at 0]), (31, "building", 1, ([] : List PySem.Str), [.at 0]), (24, "building_of", 1, ([] : List PySem.Str), [.at 0])] : List (Nat × PySem.Str × Nat × List PySem.Str × List Ag)) ++ ([(34, "built_paper", 0, ([("row" : PySem.Str)] : List PySem.Str), [.at 0]), (34, "built_paper", 1, ([] : List PySem.Str), [.at 0]), (29, "count_buildings", 1, ([] : List PySem.Str), [.at 0]), (26, "first_bar", 3, ([] : List PySem.Str), [.at 0, .at 1, .at 2]), (22, "first_cut", 2, ([] : List PySem.Str), [.at 0, .at 1]), (27, "is_bar_of", 4, ([] : List PySem.Str), [.at 0, .at 1, .at 2, .at 3]), (18, "is_building_value", 1, ([] : List PySem.Str), [.at 0]), (30, "is_built", 1, ([] : List PySem.Str), [.at 0]), (35, "is_built_paper", 2, ([] : List PySem.Str), [.at 0, .at 1]), (1, "is_count", 1, ([] : List PySem.Str), [.at 0]), (0, "is_integer", 1, ([] : List PySem.Str), [.at 0]), (2, "is_list", 1, ([] : List PySem.Str), [.at 0])] : List (Nat × PySem.Str × Nat × List PySem.Str × List Ag)) ++ ([(4, "is_row_value", 1, ([] : List PySem.Str), [.at 0]), (46, "layered_paper", 1, ([] : List PySem.Str), [.at 0]), (45, "layered_row", 1, ([] : List PySem.Str), [.at 0]), (44, "layers", 1, ([] : List PySem.Str), [.at 0]), (38, "layers_of", 1, ([] : List PySem.Str), [.at 0]), (43, "longest_falling", 0, ([("row" : PySem.Str)] : List PySem.Str), [.at 0]), (43, "longest_falling", 1, ([] : List PySem.Str), [.at 0]), (37, "longest_of", 1, ([] : List PySem.Str), [.at 0]), (42, "longest_rising", 1, ([] : List PySem.Str), [.at 0]), (33, "many_buildings", 0, ([("row" : PySem.Str)] : List PySem.Str), [.at 0]), (33, "many_buildings", 1, ([] : List PySem.Str), [.at 0]), (19, "ones_of", 1, ([] : List PySem.Str), [.at 0])] : List (Nat × PySem.Str × Nat × List PySem.Str × List Ag)) ++ ([(11, "over_of", 1, ([] : List PySem.Str), [.at 0]), (28, "pairings", 1, ([] : List PySem.Str), [.at 0]), (41, "parts_above", 0, ([("row" : PySem.Str)] : List PySem.Str), [.at 0]), (41, "parts_above", 1, ([] : List PySem.Str), [.at 0]), (40, "parts_beside", 1, ([] : List PySem.Str), [.at 0]), (23, "parts_by", 2, ([] : List PySem.Str), [.at 0, .at 1]), (8, "pattern_at", 2, ([] : List PySem.Str), [.at 0, .at 1]), (25, "positions_of", 2, ([] : List PySem.Str), [.at 0, .at 1]), (10, "reversed_of", 1, ([] : List PySem.Str), [.at 0]), (21, "row_by_building", 1, ([] : List PySem.Str), [.at 0]), (39, "row_by_layers", 1, ([] : List PySem.Str), [.at 0]), (32, "row_of_building", 1, ([] : List PySem.Str), [.at 0])] : List (Nat × PySem.Str × Nat × List PySem.Str × List Ag)) ++ ([(7, "standard_of", 1, ([] : List PySem.Str), [.at 0]), (15, "turned_back", 1, ([] : List PySem.Str), [.at 0]), (16, "turned_over", 1, ([] : List PySem.Str), [.at 0]), (14, "undone", 1, ([] : List PySem.Str), [.at 0]), (9, "undone_of", 1, ([] : List PySem.Str), [.at 0]), (3, "want_at_most", 3, ([] : List PySem.Str), [.at 0, .at 1, .at 2]), (20, "want_building", 1, ([] : List PySem.Str), [.at 0]), (17, "want_full_row", 1, ([] : List PySem.Str), [.at 0]), (36, "want_lengths", 1, ([] : List PySem.Str), [.at 0]), (5, "want_row", 1, ([] : List PySem.Str), [.at 0])] : List (Nat × PySem.Str × Nat × List PySem.Str × List Ag))
def glb : Glb where
  fn := fun f x np ks ar => decide ((f, x, np, ks, ar) ∈ shapes)
  blt := fun x => decide (x ∈ blts)
  cst := fun x d => (cInts.any fun q => decide (q.1 = x) && datE (.int q.2) d) || (cStrs.any fun q => decide (q.1 = x) && datE (.str q.2) d) || (cTups.any fun q => decide (q.1 = x) && datE (.tuple q.2) d)
  dn := fun x => decide (x = ("_law_draw" : PySem.Str))
  pn := fun x => decide (x = ("_law_pot" : PySem.Str))
def fns : List He.DefD := PL.map PD.d ++ [d__law_pot, d__law_draw]
def fa : List He.Fa := (fns.map fun d => He.Fa.glo d.name) ++ ((blts.map He.Fa.free) ++ ((cInts.map fun q => He.Fa.int q.1 q.2) ++ (cStrs.map fun q => He.Fa.str q.1 q.2)))
def exB (K : PySem.W.Frag) : Bool := cTups.all fun q => tupN K q.1 q.2
def loose : List PySem.Str := ([("is_integer" : PySem.Str), ("is_count" : PySem.Str), ("is_list" : PySem.Str), ("want_at_most" : PySem.Str), ("is_row_value" : PySem.Str), ("want_row" : PySem.Str), ("are_positions" : PySem.Str), ("standard_of" : PySem.Str), ("pattern_at" : PySem.Str), ("undone_of" : PySem.Str), ("reversed_of" : PySem.Str), ("over_of" : PySem.Str), ("beside_of" : PySem.Str), ("above_of" : PySem.Str), ("undone" : PySem.Str), ("turned_back" : PySem.Str), ("turned_over" : PySem.Str), ("want_full_row" : PySem.Str), ("is_building_value" : PySem.Str), ("ones_of" : PySem.Str), ("want_building" : PySem.Str), ("row_by_building" : PySem.Str), ("first_cut" : PySem.Str), ("parts_by" : PySem.Str), ("building_of" : PySem.Str), ("positions_of" : PySem.Str), ("first_bar" : PySem.Str), ("is_bar_of" : PySem.Str), ("pairings" : PySem.Str), ("count_buildings" : PySem.Str), ("is_built" : PySem.Str), ("building" : PySem.Str), ("row_of_building" : PySem.Str), ("many_buildings" : PySem.Str), ("built_paper" : PySem.Str), ("is_built_paper" : PySem.Str), ("want_lengths" : PySem.Str), ("longest_of" : PySem.Str)] : List PySem.Str) ++ ([("layers_of" : PySem.Str), ("row_by_layers" : PySem.Str), ("parts_beside" : PySem.Str), ("parts_above" : PySem.Str), ("longest_rising" : PySem.Str), ("longest_falling" : PySem.Str), ("layers" : PySem.Str), ("layered_row" : PySem.Str), ("layered_paper" : PySem.Str), ("_law_pot" : PySem.Str), ("_law_draw" : PySem.Str), ("_law_pick" : PySem.Str), ("_law_chain" : PySem.Str), ("_law_lines_right" : PySem.Str), ("_law_layers_right" : PySem.Str), ("_law_barred_right" : PySem.Str), ("_law_deep_right" : PySem.Str), ("RowError" : PySem.Str), ("StateError" : PySem.Str), ("LimitError" : PySem.Str), ("InvalidRow" : PySem.Str), ("InvalidMany" : PySem.Str), ("InvalidTree" : PySem.Str), ("NotBuilt" : PySem.Str), ("TooMany" : PySem.Str), ("MOST_NUMBERS" : PySem.Str), ("ONE" : PySem.Str), ("BESIDE" : PySem.Str), ("ABOVE" : PySem.Str), ("TREE_WORD" : PySem.Str), ("BAR_WORD" : PySem.Str), ("BARRED" : PySem.Str), ("LAYERS_WORD" : PySem.Str), ("UNLAYERED" : PySem.Str)] : List PySem.Str)
abbrev R : PySem.W.OpenRow := PySem.W.OpenLaw.row PySem.Challenge.rw_barredpatterns_k59_whole_known_built_row
abbrev hk : PySem.W.Hook := He.hookX 4 fa fns [] [] exB
def ob (s : PySem.W.SharedT) : He.AlX := He.obsX 4 fa fns [] [] exB (HandSHeadRun.getT s)
theorem ob_eq (s : PySem.W.SharedT) : ob s = hk.obs s.abs := He.obsX_eq (HandSHeadRun.getT_eq s)
theorem run (w : World) : HandSHeadRun.RunEq R (PySem.W.view R.prog [78]) hk ob 20000 loose w := by
  intro os
  kernel_rfl
theorem c_is_integer : p_is_integer.chk glb = true := by kernel_rfl
theorem c_is_count : p_is_count.chk glb = true := by kernel_rfl
theorem c_is_list : p_is_list.chk glb = true := by kernel_rfl
theorem c_want_at_most : p_want_at_most.chk glb = true := by kernel_rfl
theorem c_is_row_value : p_is_row_value.chk glb = true := by kernel_rfl
theorem c_want_row : p_want_row.chk glb = true := by kernel_rfl
theorem c_are_positions : p_are_positions.chk glb = true := by kernel_rfl
theorem c_standard_of : p_standard_of.chk glb = true := by kernel_rfl
theorem c_pattern_at : p_pattern_at.chk glb = true := by kernel_rfl
theorem c_undone_of : p_undone_of.chk glb = true := by kernel_rfl
theorem c_reversed_of : p_reversed_of.chk glb = true := by kernel_rfl
theorem c_over_of : p_over_of.chk glb = true := by kernel_rfl
theorem c_beside_of : p_beside_of.chk glb = true := by kernel_rfl
theorem c_above_of : p_above_of.chk glb = true := by kernel_rfl
theorem c_undone : p_undone.chk glb = true := by kernel_rfl
theorem c_turned_back : p_turned_back.chk glb = true := by kernel_rfl
theorem c_turned_over : p_turned_over.chk glb = true := by kernel_rfl
theorem c_want_full_row : p_want_full_row.chk glb = true := by kernel_rfl
theorem c_is_building_value : p_is_building_value.chk glb = true := by kernel_rfl
theorem c_ones_of : p_ones_of.chk glb = true := by kernel_rfl
theorem c_want_building : p_want_building.chk glb = true := by kernel_rfl
theorem c_row_by_building : p_row_by_building.chk glb = true := by kernel_rfl
theorem c_first_cut : p_first_cut.chk glb = true := by kernel_rfl
theorem c_parts_by : p_parts_by.chk glb = true := by kernel_rfl
theorem c_building_of : p_building_of.chk glb = true := by kernel_rfl
theorem c_positions_of : p_positions_of.chk glb = true := by kernel_rfl
theorem c_first_bar : p_first_bar.chk glb = true := by kernel_rfl
theorem c_is_bar_of : p_is_bar_of.chk glb = true := by kernel_rfl
theorem c_pairings : p_pairings.chk glb = true := by kernel_rfl
theorem c_count_buildings : p_count_buildings.chk glb = true := by kernel_rfl
theorem c_is_built : p_is_built.chk glb = true := by kernel_rfl
theorem c_building : p_building.chk glb = true := by kernel_rfl
theorem c_row_of_building : p_row_of_building.chk glb = true := by kernel_rfl
theorem c_many_buildings : p_many_buildings.chk glb = true := by kernel_rfl
theorem c_built_paper : p_built_paper.chk glb = true := by kernel_rfl
theorem c_is_built_paper : p_is_built_paper.chk glb = true := by kernel_rfl
theorem c_want_lengths : p_want_lengths.chk glb = true := by kernel_rfl
theorem c_longest_of : p_longest_of.chk glb = true := by kernel_rfl
theorem c_layers_of : p_layers_of.chk glb = true := by kernel_rfl
theorem c_row_by_layers : p_row_by_layers.chk glb = true := by kernel_rfl
theorem c_parts_beside : p_parts_beside.chk glb = true := by kernel_rfl
theorem c_parts_above : p_parts_above.chk glb = true := by kernel_rfl
theorem c_longest_rising : p_longest_rising.chk glb = true := by kernel_rfl
theorem c_longest_falling : p_longest_falling.chk glb = true := by kernel_rfl
theorem c_layers : p_layers.chk glb = true := by kernel_rfl
theorem c_layered_row : p_layered_row.chk glb = true := by kernel_rfl
theorem c_layered_paper : p_layered_paper.chk glb = true := by kernel_rfl
theorem c__law_pick : p__law_pick.chk glb = true := by kernel_rfl
theorem c__law_chain : p__law_chain.chk glb = true := by kernel_rfl
theorem c__law_lines_right : p__law_lines_right.chk glb = true := by kernel_rfl
theorem c__law_layers_right : p__law_layers_right.chk glb = true := by kernel_rfl
theorem c__law_barred_right : p__law_barred_right.chk glb = true := by kernel_rfl
theorem c__law_deep_right : p__law_deep_right.chk glb = true := by kernel_rfl
theorem c_law : p_law.chk glb = true := by kernel_rfl
theorem s_0 {K : PySem.W.Frag} {fd : FuncData} (F : FunP K p__law_barred_right (He.fAd K d__law_barred_right.at_) fd) : ShOk K fd p__law_barred_right.ps 1 ([] : List PySem.Str) [.at 0] := ShOk.of F fun kV doc pm an cdv ct us ws h1 h2 => match us, ws, h1, h2 with | [_], [], _, _ => rfl
theorem s_1 {K : PySem.W.Frag} {fd : FuncData} (F : FunP K p__law_chain (He.fAd K d__law_chain.at_) fd) : ShOk K fd p__law_chain.ps 2 ([] : List PySem.Str) [.at 0, .at 1] := ShOk.of F fun kV doc pm an cdv ct us ws h1 h2 => match us, ws, h1, h2 with | [_, _], [], _, _ => rfl
theorem s_2 {K : PySem.W.Frag} {fd : FuncData} (F : FunP K p__law_deep_right (He.fAd K d__law_deep_right.at_) fd) : ShOk K fd p__law_deep_right.ps 1 ([] : List PySem.Str) [.at 0] := ShOk.of F fun kV doc pm an cdv ct us ws h1 h2 => match us, ws, h1, h2 with | [_], [], _, _ => rfl
theorem s_3 {K : PySem.W.Frag} {fd : FuncData} (F : FunP K p__law_layers_right (He.fAd K d__law_layers_right.at_) fd) : ShOk K fd p__law_layers_right.ps 1 ([] : List PySem.Str) [.at 0] := ShOk.of F fun kV doc pm an cdv ct us ws h1 h2 => match us, ws, h1, h2 with | [_], [], _, _ => rfl
theorem s_4 {K : PySem.W.Frag} {fd : FuncData} (F : FunP K p__law_lines_right (He.fAd K d__law_lines_right.at_) fd) : ShOk K fd p__law_lines_right.ps 1 ([] : List PySem.Str) [.at 0] := ShOk.of F fun kV doc pm an cdv ct us ws h1 h2 => match us, ws, h1, h2 with | [_], [], _, _ => rfl
theorem s_5 {K : PySem.W.Frag} {fd : FuncData} (F : FunP K p__law_pick (He.fAd K d__law_pick.at_) fd) : ShOk K fd p__law_pick.ps 2 ([] : List PySem.Str) [.at 0, .at 1] := ShOk.of F fun kV doc pm an cdv ct us ws h1 h2 => match us, ws, h1, h2 with | [_, _], [], _, _ => rfl
theorem s_6 {K : PySem.W.Frag} {fd : FuncData} (F : FunP K p_above_of (He.fAd K d_above_of.at_) fd) : ShOk K fd p_above_of.ps 2 ([] : List PySem.Str) [.at 0, .at 1] := ShOk.of F fun kV doc pm an cdv ct us ws h1 h2 => match us, ws, h1, h2 with | [_, _], [], _, _ => rfl
theorem s_7 {K : PySem.W.Frag} {fd : FuncData} (F : FunP K p_are_positions (He.fAd K d_are_positions.at_) fd) : ShOk K fd p_are_positions.ps 2 ([] : List PySem.Str) [.at 0, .at 1] := ShOk.of F fun kV doc pm an cdv ct us ws h1 h2 => match us, ws, h1, h2 with | [_, _], [], _, _ => rfl
theorem s_8 {K : PySem.W.Frag} {fd : FuncData} (F : FunP K p_beside_of (He.fAd K d_beside_of.at_) fd) : ShOk K fd p_beside_of.ps 2 ([] : List PySem.Str) [.at 0, .at 1] := ShOk.of F fun kV doc pm an cdv ct us ws h1 h2 => match us, ws, h1, h2 with | [_, _], [], _, _ => rfl
theorem s_9 {K : PySem.W.Frag} {fd : FuncData} (F : FunP K p_building (He.fAd K d_building.at_) fd) : ShOk K fd p_building.ps 0 ([("row" : PySem.Str)] : List PySem.Str) [.at 0] := ShOk.of F fun kV doc pm an cdv ct us ws h1 h2 => match us, ws, h1, h2 with | [], [_], _, _ => rfl
theorem s_10 {K : PySem.W.Frag} {fd : FuncData} (F : FunP K p_building (He.fAd K d_building.at_) fd) : ShOk K fd p_building.ps 1 ([] : List PySem.Str) [.at 0] := ShOk.of F fun kV doc pm an cdv ct us ws h1 h2 => match us, ws, h1, h2 with | [_], [], _, _ => rfl
theorem s_11 {K : PySem.W.Frag} {fd : FuncData} (F : FunP K p_building_of (He.fAd K d_building_of.at_) fd) : ShOk K fd p_building_of.ps 1 ([] : List PySem.Str) [.at 0] := ShOk.of F fun kV doc pm an cdv ct us ws h1 h2 => match us, ws, h1, h2 with | [_], [], _, _ => rfl
theorem s_12 {K : PySem.W.Frag} {fd : FuncData} (F : FunP K p_built_paper (He.fAd K d_built_paper.at_) fd) : ShOk K fd p_built_paper.ps 0 ([("row" : PySem.Str)] : List PySem.Str) [.at 0] := ShOk.of F fun kV doc pm an cdv ct us ws h1 h2 => match us, ws, h1, h2 with | [], [_], _, _ => rfl
theorem s_13 {K : PySem.W.Frag} {fd : FuncData} (F : FunP K p_built_paper (He.fAd K d_built_paper.at_) fd) : ShOk K fd p_built_paper.ps 1 ([] : List PySem.Str) [.at 0] := ShOk.of F fun kV doc pm an cdv ct us ws h1 h2 => match us, ws, h1, h2 with | [_], [], _, _ => rfl
theorem s_14 {K : PySem.W.Frag} {fd : FuncData} (F : FunP K p_count_buildings (He.fAd K d_count_buildings.at_) fd) : ShOk K fd p_count_buildings.ps 1 ([] : List PySem.Str) [.at 0] := ShOk.of F fun kV doc pm an cdv ct us ws h1 h2 => match us, ws, h1, h2 with | [_], [], _, _ => rfl
theorem s_15 {K : PySem.W.Frag} {fd : FuncData} (F : FunP K p_first_bar (He.fAd K d_first_bar.at_) fd) : ShOk K fd p_first_bar.ps 3 ([] : List PySem.Str) [.at 0, .at 1, .at 2] := ShOk.of F fun kV doc pm an cdv ct us ws h1 h2 => match us, ws, h1, h2 with | [_, _, _], [], _, _ => rfl
theorem s_16 {K : PySem.W.Frag} {fd : FuncData} (F : FunP K p_first_cut (He.fAd K d_first_cut.at_) fd) : ShOk K fd p_first_cut.ps 2 ([] : List PySem.Str) [.at 0, .at 1] := ShOk.of F fun kV doc pm an cdv ct us ws h1 h2 => match us, ws, h1, h2 with | [_, _], [], _, _ => rfl
theorem s_17 {K : PySem.W.Frag} {fd : FuncData} (F : FunP K p_is_bar_of (He.fAd K d_is_bar_of.at_) fd) : ShOk K fd p_is_bar_of.ps 4 ([] : List PySem.Str) [.at 0, .at 1, .at 2, .at 3] := ShOk.of F fun kV doc pm an cdv ct us ws h1 h2 => match us, ws, h1, h2 with | [_, _, _, _], [], _, _ => rfl
theorem s_18 {K : PySem.W.Frag} {fd : FuncData} (F : FunP K p_is_building_value (He.fAd K d_is_building_value.at_) fd) : ShOk K fd p_is_building_value.ps 1 ([] : List PySem.Str) [.at 0] := ShOk.of F fun kV doc pm an cdv ct us ws h1 h2 => match us, ws, h1, h2 with | [_], [], _, _ => rfl
theorem s_19 {K : PySem.W.Frag} {fd : FuncData} (F : FunP K p_is_built (He.fAd K d_is_built.at_) fd) : ShOk K fd p_is_built.ps 1 ([] : List PySem.Str) [.at 0] := ShOk.of F fun kV doc pm an cdv ct us ws h1 h2 => match us, ws, h1, h2 with | [_], [], _, _ => rfl
theorem s_20 {K : PySem.W.Frag} {fd : FuncData} (F : FunP K p_is_built_paper (He.fAd K d_is_built_paper.at_) fd) : ShOk K fd p_is_built_paper.ps 2 ([] : List PySem.Str) [.at 0, .at 1] := ShOk.of F fun kV doc pm an cdv ct us ws h1 h2 => match us, ws, h1, h2 with | [_, _], [], _, _ => rfl
theorem s_21 {K : PySem.W.Frag} {fd : FuncData} (F : FunP K p_is_count (He.fAd K d_is_count.at_) fd) : ShOk K fd p_is_count.ps 1 ([] : List PySem.Str) [.at 0] := ShOk.of F fun kV doc pm an cdv ct us ws h1 h2 => match us, ws, h1, h2 with | [_], [], _, _ => rfl
theorem s_22 {K : PySem.W.Frag} {fd : FuncData} (F : FunP K p_is_integer (He.fAd K d_is_integer.at_) fd) : ShOk K fd p_is_integer.ps 1 ([] : List PySem.Str) [.at 0] := ShOk.of F fun kV doc pm an cdv ct us ws h1 h2 => match us, ws, h1, h2 with | [_], [], _, _ => rfl
theorem s_23 {K : PySem.W.Frag} {fd : FuncData} (F : FunP K p_is_list (He.fAd K d_is_list.at_) fd) : ShOk K fd p_is_list.ps 1 ([] : List PySem.Str) [.at 0] := ShOk.of F fun kV doc pm an cdv ct us ws h1 h2 => match us, ws, h1, h2 with | [_], [], _, _ => rfl
theorem s_24 {K : PySem.W.Frag} {fd : FuncData} (F : FunP K p_is_row_value (He.fAd K d_is_row_value.at_) fd) : ShOk K fd p_is_row_value.ps 1 ([] : List PySem.Str) [.at 0] := ShOk.of F fun kV doc pm an cdv ct us ws h1 h2 => match us, ws, h1, h2 with | [_], [], _, _ => rfl
theorem s_25 {K : PySem.W.Frag} {fd : FuncData} (F : FunP K p_layered_paper (He.fAd K d_layered_paper.at_) fd) : ShOk K fd p_layered_paper.ps 1 ([] : List PySem.Str) [.at 0] := ShOk.of F fun kV doc pm an cdv ct us ws h1 h2 => match us, ws, h1, h2 with | [_], [], _, _ => rfl
theorem s_26 {K : PySem.W.Frag} {fd : FuncData} (F : FunP K p_layered_row (He.fAd K d_layered_row.at_) fd) : ShOk K fd p_layered_row.ps 1 ([] : List PySem.Str) [.at 0] := ShOk.of F fun kV doc pm an cdv ct us ws h1 h2 => match us, ws, h1, h2 with | [_], [], _, _ => rfl
theorem s_27 {K : PySem.W.Frag} {fd : FuncData} (F : FunP K p_layers (He.fAd K d_layers.at_) fd) : ShOk K fd p_layers.ps 1 ([] : List PySem.Str) [.at 0] := ShOk.of F fun kV doc pm an cdv ct us ws h1 h2 => match us, ws, h1, h2 with | [_], [], _, _ => rfl
theorem s_28 {K : PySem.W.Frag} {fd : FuncData} (F : FunP K p_layers_of (He.fAd K d_layers_of.at_) fd) : ShOk K fd p_layers_of.ps 1 ([] : List PySem.Str) [.at 0] := ShOk.of F fun kV doc pm an cdv ct us ws h1 h2 => match us, ws, h1, h2 with | [_], [], _, _ => rfl
theorem s_29 {K : PySem.W.Frag} {fd : FuncData} (F : FunP K p_longest_falling (He.fAd K d_longest_falling.at_) fd) : ShOk K fd p_longest_falling.ps 0 ([("row" : PySem.Str)] : List PySem.Str) [.at 0] := ShOk.of F fun kV doc pm an cdv ct us ws h1 h2 => match us, ws, h1, h2 with | [], [_], _, _ => rfl
theorem s_30 {K : PySem.W.Frag} {fd : FuncData} (F : FunP K p_longest_falling (He.fAd K d_longest_falling.at_) fd) : ShOk K fd p_longest_falling.ps 1 ([] : List PySem.Str) [.at 0] := ShOk.of F fun kV doc pm an cdv ct us ws h1 h2 => match us, ws, h1, h2 with | [_], [], _, _ => rfl
theorem s_31 {K : PySem.W.Frag} {fd : FuncData} (F : FunP K p_longest_of (He.fAd K d_longest_of.at_) fd) : ShOk K fd p_longest_of.ps 1 ([] : List PySem.Str) [.at 0] := ShOk.of F fun kV doc pm an cdv ct us ws h1 h2 => match us, ws, h1, h2 with | [_], [], _, _ => rfl
theorem s_32 {K : PySem.W.Frag} {fd : FuncData} (F : FunP K p_longest_rising (He.fAd K d_longest_rising.at_) fd) : ShOk K fd p_longest_rising.ps 1 ([] : List PySem.Str) [.at 0] := ShOk.of F fun kV doc pm an cdv ct us ws h1 h2 => match us, ws, h1, h2 with | [_], [], _, _ => rfl
theorem s_33 {K : PySem.W.Frag} {fd : FuncData} (F : FunP K p_many_buildings (He.fAd K d_many_buildings.at_) fd) : ShOk K fd p_many_buildings.ps 0 ([("row" : PySem.Str)] : List PySem.Str) [.at 0] := ShOk.of F fun kV doc pm an cdv ct us ws h1 h2 => match us, ws, h1, h2 with | [], [_], _, _ => rfl
theorem s_34 {K : PySem.W.Frag} {fd : FuncData} (F : FunP K p_many_buildings (He.fAd K d_many_buildings.at_) fd) : ShOk K fd p_many_buildings.ps 1 ([] : List PySem.Str) [.at 0] := ShOk.of F fun kV doc pm an cdv ct us ws h1 h2 => match us, ws, h1, h2 with | [_], [], _, _ => rfl
theorem s_35 {K : PySem.W.Frag} {fd : FuncData} (F : FunP K p_ones_of (He.fAd K d_ones_of.at_) fd) : ShOk K fd p_ones_of.ps 1 ([] : List PySem.Str) [.at 0] := ShOk.of F fun kV doc pm an cdv ct us ws h1 h2 => match us, ws, h1, h2 with | [_], [], _, _ => rfl
theorem s_36 {K : PySem.W.Frag} {fd : FuncData} (F : FunP K p_over_of (He.fAd K d_over_of.at_) fd) : ShOk K fd p_over_of.ps 1 ([] : List PySem.Str) [.at 0] := ShOk.of F fun kV doc pm an cdv ct us ws h1 h2 => match us, ws, h1, h2 with | [_], [], _, _ => rfl
theorem s_37 {K : PySem.W.Frag} {fd : FuncData} (F : FunP K p_pairings (He.fAd K d_pairings.at_) fd) : ShOk K fd p_pairings.ps 1 ([] : List PySem.Str) [.at 0] := ShOk.of F fun kV doc pm an cdv ct us ws h1 h2 => match us, ws, h1, h2 with | [_], [], _, _ => rfl
theorem s_38 {K : PySem.W.Frag} {fd : FuncData} (F : FunP K p_parts_above (He.fAd K d_parts_above.at_) fd) : ShOk K fd p_parts_above.ps 0 ([("row" : PySem.Str)] : List PySem.Str) [.at 0] := ShOk.of F fun kV doc pm an cdv ct us ws h1 h2 => match us, ws, h1, h2 with | [], [_], _, _ => rfl
theorem s_39 {K : PySem.W.Frag} {fd : FuncData} (F : FunP K p_parts_above (He.fAd K d_parts_above.at_) fd) : ShOk K fd p_parts_above.ps 1 ([] : List PySem.Str) [.at 0] := ShOk.of F fun kV doc pm an cdv ct us ws h1 h2 => match us, ws, h1, h2 with | [_], [], _, _ => rfl
theorem s_40 {K : PySem.W.Frag} {fd : FuncData} (F : FunP K p_parts_beside (He.fAd K d_parts_beside.at_) fd) : ShOk K fd p_parts_beside.ps 1 ([] : List PySem.Str) [.at 0] := ShOk.of F fun kV doc pm an cdv ct us ws h1 h2 => match us, ws, h1, h2 with | [_], [], _, _ => rfl
theorem s_41 {K : PySem.W.Frag} {fd : FuncData} (F : FunP K p_parts_by (He.fAd K d_parts_by.at_) fd) : ShOk K fd p_parts_by.ps 2 ([] : List PySem.Str) [.at 0, .at 1] := ShOk.of F fun kV doc pm an cdv ct us ws h1 h2 => match us, ws, h1, h2 with | [_, _], [], _, _ => rfl
theorem s_42 {K : PySem.W.Frag} {fd : FuncData} (F : FunP K p_pattern_at (He.fAd K d_pattern_at.at_) fd) : ShOk K fd p_pattern_at.ps 2 ([] : List PySem.Str) [.at 0, .at 1] := ShOk.of F fun kV doc pm an cdv ct us ws h1 h2 => match us, ws, h1, h2 with | [_, _], [], _, _ => rfl
theorem s_43 {K : PySem.W.Frag} {fd : FuncData} (F : FunP K p_positions_of (He.fAd K d_positions_of.at_) fd) : ShOk K fd p_positions_of.ps 2 ([] : List PySem.Str) [.at 0, .at 1] := ShOk.of F fun kV doc pm an cdv ct us ws h1 h2 => match us, ws, h1, h2 with | [_, _], [], _, _ => rfl
theorem s_44 {K : PySem.W.Frag} {fd : FuncData} (F : FunP K p_reversed_of (He.fAd K d_reversed_of.at_) fd) : ShOk K fd p_reversed_of.ps 1 ([] : List PySem.Str) [.at 0] := ShOk.of F fun kV doc pm an cdv ct us ws h1 h2 => match us, ws, h1, h2 with | [_], [], _, _ => rfl
theorem s_45 {K : PySem.W.Frag} {fd : FuncData} (F : FunP K p_row_by_building (He.fAd K d_row_by_building.at_) fd) : ShOk K fd p_row_by_building.ps 1 ([] : List PySem.Str) [.at 0] := ShOk.of F fun kV doc pm an cdv ct us ws h1 h2 => match us, ws, h1, h2 with | [_], [], _, _ => rfl
theorem s_46 {K : PySem.W.Frag} {fd : FuncData} (F : FunP K p_row_by_layers (He.fAd K d_row_by_layers.at_) fd) : ShOk K fd p_row_by_layers.ps 1 ([] : List PySem.Str) [.at 0] := ShOk.of F fun kV doc pm an cdv ct us ws h1 h2 => match us, ws, h1, h2 with | [_], [], _, _ => rfl
theorem s_47 {K : PySem.W.Frag} {fd : FuncData} (F : FunP K p_row_of_building (He.fAd K d_row_of_building.at_) fd) : ShOk K fd p_row_of_building.ps 1 ([] : List PySem.Str) [.at 0] := ShOk.of F fun kV doc pm an cdv ct us ws h1 h2 => match us, ws, h1, h2 with | [_], [], _, _ => rfl
theorem s_48 {K : PySem.W.Frag} {fd : FuncData} (F : FunP K p_standard_of (He.fAd K d_standard_of.at_) fd) : ShOk K fd p_standard_of.ps 1 ([] : List PySem.Str) [.at 0] := ShOk.of F fun kV doc pm an cdv ct us ws h1 h2 => match us, ws, h1, h2 with | [_], [], _, _ => rfl
theorem s_49 {K : PySem.W.Frag} {fd : FuncData} (F : FunP K p_turned_back (He.fAd K d_turned_back.at_) fd) : ShOk K fd p_turned_back.ps 1 ([] : List PySem.Str) [.at 0] := ShOk.of F fun kV doc pm an cdv ct us ws h1 h2 => match us, ws, h1, h2 with | [_], [], _, _ => rfl
theorem s_50 {K : PySem.W.Frag} {fd : FuncData} (F : FunP K p_turned_over (He.fAd K d_turned_over.at_) fd) : ShOk K fd p_turned_over.ps 1 ([] : List PySem.Str) [.at 0] := ShOk.of F fun kV doc pm an cdv ct us ws h1 h2 => match us, ws, h1, h2 with | [_], [], _, _ => rfl
theorem s_51 {K : PySem.W.Frag} {fd : FuncData} (F : FunP K p_undone (He.fAd K d_undone.at_) fd) : ShOk K fd p_undone.ps 1 ([] : List PySem.Str) [.at 0] := ShOk.of F fun kV doc pm an cdv ct us ws h1 h2 => match us, ws, h1, h2 with | [_], [], _, _ => rfl
theorem s_52 {K : PySem.W.Frag} {fd : FuncData} (F : FunP K p_undone_of (He.fAd K d_undone_of.at_) fd) : ShOk K fd p_undone_of.ps 1 ([] : List PySem.Str) [.at 0] := ShOk.of F fun kV doc pm an cdv ct us ws h1 h2 => match us, ws, h1, h2 with | [_], [], _, _ => rfl
theorem s_53 {K : PySem.W.Frag} {fd : FuncData} (F : FunP K p_want_at_most (He.fAd K d_want_at_most.at_) fd) : ShOk K fd p_want_at_most.ps 3 ([] : List PySem.Str) [.at 0, .at 1, .at 2] := ShOk.of F fun kV doc pm an cdv ct us ws h1 h2 => match us, ws, h1, h2 with | [_, _, _], [], _, _ => rfl
theorem s_54 {K : PySem.W.Frag} {fd : FuncData} (F : FunP K p_want_building (He.fAd K d_want_building.at_) fd) : ShOk K fd p_want_building.ps 1 ([] : List PySem.Str) [.at 0] := ShOk.of F fun kV doc pm an cdv ct us ws h1 h2 => match us, ws, h1, h2 with | [_], [], _, _ => rfl
theorem s_55 {K : PySem.W.Frag} {fd : FuncData} (F : FunP K p_want_full_row (He.fAd K d_want_full_row.at_) fd) : ShOk K fd p_want_full_row.ps 1 ([] : List PySem.Str) [.at 0] := ShOk.of F fun kV doc pm an cdv ct us ws h1 h2 => match us, ws, h1, h2 with | [_], [], _, _ => rfl
theorem s_56 {K : PySem.W.Frag} {fd : FuncData} (F : FunP K p_want_lengths (He.fAd K d_want_lengths.at_) fd) : ShOk K fd p_want_lengths.ps 1 ([] : List PySem.Str) [.at 0] := ShOk.of F fun kV doc pm an cdv ct us ws h1 h2 => match us, ws, h1, h2 with | [_], [], _, _ => rfl
theorem s_57 {K : PySem.W.Frag} {fd : FuncData} (F : FunP K p_want_row (He.fAd K d_want_row.at_) fd) : ShOk K fd p_want_row.ps 1 ([] : List PySem.Str) [.at 0] := ShOk.of F fun kV doc pm an cdv ct us ws h1 h2 => match us, ws, h1, h2 with | [_], [], _, _ => rfl
theorem chks : ∀ p ∈ PL, p.chk glb = true := by
  intro p hp
  simp only [PL, List.mem_append, List.mem_cons, List.not_mem_nil, or_false, or_assoc] at hp
  rcases hp with rfl | rfl | rfl | rfl | rfl | rfl | rfl | rfl | rfl | rfl | rfl | rfl | rfl | rfl | rfl | rfl | rfl | rfl | rfl | rfl | rfl | rfl | rfl | rfl | rfl | rfl | rfl | rfl | rfl | rfl | rfl | rfl | rfl | rfl | rfl | rfl | rfl | rfl | rfl | rfl | rfl | rfl | rfl | rfl | rfl | rfl | rfl | rfl | rfl | rfl | rfl | rfl | rfl | rfl
  · exact c_is_integer
  · exact c_is_count
  · exact c_is_list
  · exact c_want_at_most
  · exact c_is_row_value
  · exact c_want_row
  · exact c_are_positions
  · exact c_standard_of
  · exact c_pattern_at
  · exact c_undone_of
  · exact c_reversed_of
  · exact c_over_of
  · exact c_beside_of
  · exact c_above_of
  · exact c_undone
  · exact c_turned_back
  · exact c_turned_over
  · exact c_want_full_row
  · exact c_is_building_value
  · exact c_ones_of
  · exact c_want_building
  · exact c_row_by_building
  · exact c_first_cut
  · exact c_parts_by
  · exact c_building_of
  · exact c_positions_of
  · exact c_first_bar
  · exact c_is_bar_of
  · exact c_pairings
  · exact c_count_buildings
  · exact c_is_built
  · exact c_building
  · exact c_row_of_building
  · exact c_many_buildings
  · exact c_built_paper
  · exact c_is_built_paper
  · exact c_want_lengths
  · exact c_longest_of
  · exact c_layers_of
  · exact c_row_by_layers
  · exact c_parts_beside
  · exact c_parts_above
  · exact c_longest_rising
  · exact c_longest_falling
  · exact c_layers
  · exact c_layered_row
  · exact c_layered_paper
  · exact c__law_pick
  · exact c__law_chain
  · exact c__law_lines_right
  · exact c__law_layers_right
  · exact c__law_barred_right
  · exact c__law_deep_right
  · exact c_law
theorem tabs : ∀ p ∈ PL, tab p.id = some p.fn := by
  intro p hp
  simp only [PL, List.mem_append, List.mem_cons, List.not_mem_nil, or_false, or_assoc] at hp
  rcases hp with rfl | rfl | rfl | rfl | rfl | rfl | rfl | rfl | rfl | rfl | rfl | rfl | rfl | rfl | rfl | rfl | rfl | rfl | rfl | rfl | rfl | rfl | rfl | rfl | rfl | rfl | rfl | rfl | rfl | rfl | rfl | rfl | rfl | rfl | rfl | rfl | rfl | rfl | rfl | rfl | rfl | rfl | rfl | rfl | rfl | rfl | rfl | rfl | rfl | rfl | rfl | rfl | rfl | rfl <;> rfl
theorem shs {K : PySem.W.Frag} {fdo : PD → FuncData} (hF : ∀ p ∈ PL, FunP K p (He.fAd K p.d.at_) (fdo p)) : ∀ f x np ks ar, glb.fn f x np ks ar = true → ∃ p ∈ PL, p.id = f ∧ p.d.name = x ∧ ShOk K (fdo p) p.ps np ks ar := by
  intro f x np ks ar h
  have h : (f, x, np, ks, ar) ∈ shapes := of_decide_eq_true h
  simp only [shapes, List.mem_append, List.mem_cons, List.not_mem_nil, or_false, or_assoc, Prod.mk.injEq] at h
  rcases h with ⟨rfl, rfl, rfl, rfl, rfl⟩ | ⟨rfl, rfl, rfl, rfl, rfl⟩ | ⟨rfl, rfl, rfl, rfl, rfl⟩ | ⟨rfl, rfl, rfl, rfl, rfl⟩ | ⟨rfl, rfl, rfl, rfl, rfl⟩ | ⟨rfl, rfl, rfl, rfl, rfl⟩ | ⟨rfl, rfl, rfl, rfl, rfl⟩ | ⟨rfl, rfl, rfl, rfl, rfl⟩ | ⟨rfl, rfl, rfl, rfl, rfl⟩ | ⟨rfl, rfl, rfl, rfl, rfl⟩ | ⟨rfl, rfl, rfl, rfl, rfl⟩ | ⟨rfl, rfl, rfl, rfl, rfl⟩ | ⟨rfl, rfl, rfl, rfl, rfl⟩ | ⟨rfl, rfl, rfl, rfl, rfl⟩ | ⟨rfl, rfl, rfl, rfl, rfl⟩ | ⟨rfl, rfl, rfl, rfl, rfl⟩ | ⟨rfl, rfl, rfl, rfl, rfl⟩ | ⟨rfl, rfl, rfl, rfl, rfl⟩ | ⟨rfl, rfl, rfl, rfl, rfl⟩ | ⟨rfl, rfl, rfl, rfl, rfl⟩ | ⟨rfl, rfl, rfl, rfl, rfl⟩ | ⟨rfl, rfl, rfl, rfl, rfl⟩ | ⟨rfl, rfl, rfl, rfl, rfl⟩ | ⟨rfl, rfl, rfl, rfl, rfl⟩ | ⟨rfl, rfl, rfl, rfl, rfl⟩ | ⟨rfl, rfl, rfl, rfl, rfl⟩ | ⟨rfl, rfl, rfl, rfl, rfl⟩ | ⟨rfl, rfl, rfl, rfl, rfl⟩ | ⟨rfl, rfl, rfl, rfl, rfl⟩ | ⟨rfl, rfl, rfl, rfl, rfl⟩ | ⟨rfl, rfl, rfl, rfl, rfl⟩ | ⟨rfl, rfl, rfl, rfl, rfl⟩ | ⟨rfl, rfl, rfl, rfl, rfl⟩ | ⟨rfl, rfl, rfl, rfl, rfl⟩ | ⟨rfl, rfl, rfl, rfl, rfl⟩ | ⟨rfl, rfl, rfl, rfl, rfl⟩ | ⟨rfl, rfl, rfl, rfl, rfl⟩ | ⟨rfl, rfl, rfl, rfl, rfl⟩ | ⟨rfl, rfl, rfl, rfl, rfl⟩ | ⟨rfl, rfl, rfl, rfl, rfl⟩ | ⟨rfl, rfl, rfl, rfl, rfl⟩ | ⟨rfl, rfl, rfl, rfl, rfl⟩ | ⟨rfl, rfl, rfl, rfl, rfl⟩ | ⟨rfl, rfl, rfl, rfl, rfl⟩ | ⟨rfl, rfl, rfl, rfl, rfl⟩ | ⟨rfl, rfl, rfl, rfl, rfl⟩ | ⟨rfl, rfl, rfl, rfl, rfl⟩ | ⟨rfl, rfl, rfl, rfl, rfl⟩ | ⟨rfl, rfl, rfl, rfl, rfl⟩ | ⟨rfl, rfl, rfl, rfl, rfl⟩ | ⟨rfl, rfl, rfl, rfl, rfl⟩ | ⟨rfl, rfl, rfl, rfl, rfl⟩ | ⟨rfl, rfl, rfl, rfl, rfl⟩ | ⟨rfl, rfl, rfl, rfl, rfl⟩ | ⟨rfl, rfl, rfl, rfl, rfl⟩ | ⟨rfl, rfl, rfl, rfl, rfl⟩ | ⟨rfl, rfl, rfl, rfl, rfl⟩ | ⟨rfl, rfl, rfl, rfl, rfl⟩
  · exact ⟨p__law_barred_right, by simp [PL], rfl, rfl, s_0 (hF p__law_barred_right (by simp [PL]))⟩
  · exact ⟨p__law_chain, by simp [PL], rfl, rfl, s_1 (hF p__law_chain (by simp [PL]))⟩
  · exact ⟨p__law_deep_right, by simp [PL], rfl, rfl, s_2 (hF p__law_deep_right (by simp [PL]))⟩
  · exact ⟨p__law_layers_right, by simp [PL], rfl, rfl, s_3 (hF p__law_layers_right (by simp [PL]))⟩
  · exact ⟨p__law_lines_right, by simp [PL], rfl, rfl, s_4 (hF p__law_lines_right (by simp [PL]))⟩
  · exact ⟨p__law_pick, by simp [PL], rfl, rfl, s_5 (hF p__law_pick (by simp [PL]))⟩
  · exact ⟨p_above_of, by simp [PL], rfl, rfl, s_6 (hF p_above_of (by simp [PL]))⟩
  · exact ⟨p_are_positions, by simp [PL], rfl, rfl, s_7 (hF p_are_positions (by simp [PL]))⟩
  · exact ⟨p_beside_of, by simp [PL], rfl, rfl, s_8 (hF p_beside_of (by simp [PL]))⟩
  · exact ⟨p_building, by simp [PL], rfl, rfl, s_9 (hF p_building (by simp [PL]))⟩
  · exact ⟨p_building, by simp [PL], rfl, rfl, s_10 (hF p_building (by simp [PL]))⟩
  · exact ⟨p_building_of, by simp [PL], rfl, rfl, s_11 (hF p_building_of (by simp [PL]))⟩
  · exact ⟨p_built_paper, by simp [PL], rfl, rfl, s_12 (hF p_built_paper (by simp [PL]))⟩
  · exact ⟨p_built_paper, by simp [PL], rfl, rfl, s_13 (hF p_built_paper (by simp [PL]))⟩
  · exact ⟨p_count_buildings, by simp [PL], rfl, rfl, s_14 (hF p_count_buildings (by simp [PL]))⟩
  · exact ⟨p_first_bar, by simp [PL], rfl, rfl, s_15 (hF p_first_bar (by simp [PL]))⟩
  · exact ⟨p_first_cut, by simp [PL], rfl, rfl, s_16 (hF p_first_cut (by simp [PL]))⟩
  · exact ⟨p_is_bar_of, by simp [PL], rfl, rfl, s_17 (hF p_is_bar_of (by simp [PL]))⟩
  · exact ⟨p_is_building_value, by simp [PL], rfl, rfl, s_18 (hF p_is_building_value (by simp [PL]))⟩
  · exact ⟨p_is_built, by simp [PL], rfl, rfl, s_19 (hF p_is_built (by simp [PL]))⟩
  · exact ⟨p_is_built_paper, by simp [PL], rfl, rfl, s_20 (hF p_is_built_paper (by simp [PL]))⟩
  · exact ⟨p_is_count, by simp [PL], rfl, rfl, s_21 (hF p_is_count (by simp [PL]))⟩
  · exact ⟨p_is_integer, by simp [PL], rfl, rfl, s_22 (hF p_is_integer (by simp [PL]))⟩
  · exact ⟨p_is_list, by simp [PL], rfl, rfl, s_23 (hF p_is_list (by simp [PL]))⟩
  · exact ⟨p_is_row_value, by simp [PL], rfl, rfl, s_24 (hF p_is_row_value (by simp [PL]))⟩
  · exact ⟨p_layered_paper, by simp [PL], rfl, rfl, s_25 (hF p_layered_paper (by simp [PL]))⟩
  · exact ⟨p_layered_row, by simp [PL], rfl, rfl, s_26 (hF p_layered_row (by simp [PL]))⟩
  · exact ⟨p_layers, by simp [PL], rfl, rfl, s_27 (hF p_layers (by simp [PL]))⟩
  · exact ⟨p_layers_of, by simp [PL], rfl, rfl, s_28 (hF p_layers_of (by simp [PL]))⟩
  · exact ⟨p_longest_falling, by simp [PL], rfl, rfl, s_29 (hF p_longest_falling (by simp [PL]))⟩
  · exact ⟨p_longest_falling, by simp [PL], rfl, rfl, s_30 (hF p_longest_falling (by simp [PL]))⟩
  · exact ⟨p_longest_of, by simp [PL], rfl, rfl, s_31 (hF p_longest_of (by simp [PL]))⟩
  · exact ⟨p_longest_rising, by simp [PL], rfl, rfl, s_32 (hF p_longest_rising (by simp [PL]))⟩
  · exact ⟨p_many_buildings, by simp [PL], rfl, rfl, s_33 (hF p_many_buildings (by simp [PL]))⟩
  · exact ⟨p_many_buildings, by simp [PL], rfl, rfl, s_34 (hF p_many_buildings (by simp [PL]))⟩
  · exact ⟨p_ones_of, by simp [PL], rfl, rfl, s_35 (hF p_ones_of (by simp [PL]))⟩
  · exact ⟨p_over_of, by simp [PL], rfl, rfl, s_36 (hF p_over_of (by simp [PL]))⟩
  · exact ⟨p_pairings, by simp [PL], rfl, rfl, s_37 (hF p_pairings (by simp [PL]))⟩
  · exact ⟨p_parts_above, by simp [PL], rfl, rfl, s_38 (hF p_parts_above (by simp [PL]))⟩
  · exact ⟨p_parts_above, by simp [PL], rfl, rfl, s_39 (hF p_parts_above (by simp [PL]))⟩
  · exact ⟨p_parts_beside, by simp [PL], rfl, rfl, s_40 (hF p_parts_beside (by simp [PL]))⟩
  · exact ⟨p_parts_by, by simp [PL], rfl, rfl, s_41 (hF p_parts_by (by simp [PL]))⟩
  · exact ⟨p_pattern_at, by simp [PL], rfl, rfl, s_42 (hF p_pattern_at (by simp [PL]))⟩
  · exact ⟨p_positions_of, by simp [PL], rfl, rfl, s_43 (hF p_positions_of (by simp [PL]))⟩
  · exact ⟨p_reversed_of, by simp [PL], rfl, rfl, s_44 (hF p_reversed_of (by simp [PL]))⟩
  · exact ⟨p_row_by_building, by simp [PL], rfl, rfl, s_45 (hF p_row_by_building (by simp [PL]))⟩
  · exact ⟨p_row_by_layers, by simp [PL], rfl, rfl, s_46 (hF p_row_by_layers (by simp [PL]))⟩
  · exact ⟨p_row_of_building, by simp [PL], rfl, rfl, s_47 (hF p_row_of_building (by simp [PL]))⟩
  · exact ⟨p_standard_of, by simp [PL], rfl, rfl, s_48 (hF p_standard_of (by simp [PL]))⟩
  · exact ⟨p_turned_back, by simp [PL], rfl, rfl, s_49 (hF p_turned_back (by simp [PL]))⟩
  · exact ⟨p_turned_over, by simp [PL], rfl, rfl, s_50 (hF p_turned_over (by simp [PL]))⟩
  · exact ⟨p_undone, by simp [PL], rfl, rfl, s_51 (hF p_undone (by simp [PL]))⟩
  · exact ⟨p_undone_of, by simp [PL], rfl, rfl, s_52 (hF p_undone_of (by simp [PL]))⟩
  · exact ⟨p_want_at_most, by simp [PL], rfl, rfl, s_53 (hF p_want_at_most (by simp [PL]))⟩
  · exact ⟨p_want_building, by simp [PL], rfl, rfl, s_54 (hF p_want_building (by simp [PL]))⟩
  · exact ⟨p_want_full_row, by simp [PL], rfl, rfl, s_55 (hF p_want_full_row (by simp [PL]))⟩
  · exact ⟨p_want_lengths, by simp [PL], rfl, rfl, s_56 (hF p_want_lengths (by simp [PL]))⟩
  · exact ⟨p_want_row, by simp [PL], rfl, rfl, s_57 (hF p_want_row (by simp [PL]))⟩
end Hd

namespace Hd
open PySem PySem.Spec Ev
noncomputable def S0 (Φ : Phi) (vs : List EV) : {t // Ev.run Φ f_is_integer vs = t} := ⟨_, by simp only [Ev.run, f_is_integer, exs, ex, ↓ev_var, ev, evs, evS, evO, evC, evp, fblt_eq, hid, wipe, restore, List.foldl, asg_nm, List.length_cons, List.length_nil, peeks, isLend]; simp only [bind_tb, tb_ret, tb_fail, tb_opt, tb_tb, tb_ob, ob_some, q_calm, q_calm_sh, q_peek_sh, q_keep_sh, q_put_sh, q_back_sh, q_arg_sh, q_tst, get_gt, set_st, tb_vr, forL_fl, compL_cl, whlL_wl, tb_tst, tsb_b, ite_bi, vb_calm, vb_calm2, tb_vb, ob_bind, ob_map, pks0, pks1, ob_lt, ob_le, ob_gt, ob_ge, ob_eq, ob_ne, ob_sub, ob_add, fcm_eq, Option.bind_some, Option.map_some]; exact rfl⟩
noncomputable def S1 (Φ : Phi) (vs : List EV) : {t // Ev.run Φ f_is_count vs = t} := ⟨_, by simp only [Ev.run, f_is_count, exs, ex, ↓ev_var, ev, evs, evS, evO, evC, evp, fblt_eq, hid, wipe, restore, List.foldl, asg_nm, List.length_cons, List.length_nil, peeks, isLend]; simp only [bind_tb, tb_ret, tb_fail, tb_opt, tb_tb, tb_ob, ob_some, q_calm, q_calm_sh, q_peek_sh, q_keep_sh, q_put_sh, q_back_sh, q_arg_sh, q_tst, get_gt, set_st, tb_vr, forL_fl, compL_cl, whlL_wl, tb_tst, tsb_b, ite_bi, vb_calm, vb_calm2, tb_vb, ob_bind, ob_map, pks0, pks1, ob_lt, ob_le, ob_gt, ob_ge, ob_eq, ob_ne, ob_sub, ob_add, fcm_eq, Option.bind_some, Option.map_some]; exact rfl⟩
noncomputable def S2 (Φ : Phi) (vs : List EV) : {t // Ev.run Φ f_is_list vs = t} := ⟨_, by simp only [Ev.run, f_is_list, exs, ex, ↓ev_var, ev, evs, evS, evO, evC, evp, fblt_eq, hid, wipe, restore, List.foldl, asg_nm, List.length_cons, List.length_nil, peeks, isLend]; simp only [bind_tb, tb_ret, tb_fail, tb_opt, tb_tb, tb_ob, ob_some, q_calm, q_calm_sh, q_peek_sh, q_keep_sh, q_put_sh, q_back_sh, q_arg_sh, q_tst, get_gt, set_st, tb_vr, forL_fl, compL_cl, whlL_wl, tb_tst, tsb_b, ite_bi, vb_calm, vb_calm2, tb_vb, ob_bind, ob_map, pks0, pks1, ob_lt, ob_le, ob_gt, ob_ge, ob_eq, ob_ne, ob_sub, ob_add, fcm_eq, Option.bind_some, Option.map_some]; exact rfl⟩
noncomputable def S3 (Φ : Phi) (vs : List EV) : {t // Ev.run Φ f_want_at_most vs = t} := ⟨_, by simp only [Ev.run, f_want_at_most, exs, ex, ↓ev_var, ev, evs, evS, evO, evC, evp, fblt_eq, hid, wipe, restore, List.foldl, asg_nm, List.length_cons, List.length_nil, peeks, isLend]; simp only [bind_tb, tb_ret, tb_fail, tb_opt, tb_tb, tb_ob, ob_some, q_calm, q_calm_sh, q_peek_sh, q_keep_sh, q_put_sh, q_back_sh, q_arg_sh, q_tst, get_gt, set_st, tb_vr, forL_fl, compL_cl, whlL_wl, tb_tst, tsb_b, ite_bi, vb_calm, vb_calm2, tb_vb, ob_bind, ob_map, pks0, pks1, ob_lt, ob_le, ob_gt, ob_ge, ob_eq, ob_ne, ob_sub, ob_add, fcm_eq, Option.bind_some, Option.map_some]; exact rfl⟩
noncomputable def S4 (Φ : Phi) (vs : List EV) : {t // Ev.run Φ f_is_row_value vs = t} := ⟨_, by simp only [Ev.run, f_is_row_value, exs, ex, ↓ev_var, ev, evs, evS, evO, evC, evp, fblt_eq, hid, wipe, restore, List.foldl, asg_nm, List.length_cons, List.length_nil, peeks, isLend]; simp only [bind_tb, tb_ret, tb_fail, tb_opt, tb_tb, tb_ob, ob_some, q_calm, q_calm_sh, q_peek_sh, q_keep_sh, q_put_sh, q_back_sh, q_arg_sh, q_tst, get_gt, set_st, tb_vr, forL_fl, compL_cl, whlL_wl, tb_tst, tsb_b, ite_bi, vb_calm, vb_calm2, tb_vb, ob_bind, ob_map, pks0, pks1, ob_lt, ob_le, ob_gt, ob_ge, ob_eq, ob_ne, ob_sub, ob_add, fcm_eq, Option.bind_some, Option.map_some]; exact rfl⟩
noncomputable def S5 (Φ : Phi) (vs : List EV) : {t // Ev.run Φ f_want_row vs = t} := ⟨_, by simp only [Ev.run, f_want_row, exs, ex, ↓ev_var, ev, evs, evS, evO, evC, evp, fblt_eq, hid, wipe, restore, List.foldl, asg_nm, List.length_cons, List.length_nil, peeks, isLend]; simp only [bind_tb, tb_ret, tb_fail, tb_opt, tb_tb, tb_ob, ob_some, q_calm, q_calm_sh, q_peek_sh, q_keep_sh, q_put_sh, q_back_sh, q_arg_sh, q_tst, get_gt, set_st, tb_vr, forL_fl, compL_cl, whlL_wl, tb_tst, tsb_b, ite_bi, vb_calm, vb_calm2, tb_vb, ob_bind, ob_map, pks0, pks1, ob_lt, ob_le, ob_gt, ob_ge, ob_eq, ob_ne, ob_sub, ob_add, fcm_eq, Option.bind_some, Option.map_some]; exact rfl⟩
noncomputable def S6 (Φ : Phi) (vs : List EV) : {t // Ev.run Φ f_are_positions vs = t} := ⟨_, by simp only [Ev.run, f_are_positions, exs, ex, ↓ev_var, ev, evs, evS, evO, evC, evp, fblt_eq, hid, wipe, restore, List.foldl, asg_nm, List.length_cons, List.length_nil, peeks, isLend]; simp only [bind_tb, tb_ret, tb_fail, tb_opt, tb_tb, tb_ob, ob_some, q_calm, q_calm_sh, q_peek_sh, q_keep_sh, q_put_sh, q_back_sh, q_arg_sh, q_tst, get_gt, set_st, tb_vr, forL_fl, compL_cl, whlL_wl, tb_tst, tsb_b, ite_bi, vb_calm, vb_calm2, tb_vb, ob_bind, ob_map, pks0, pks1, ob_lt, ob_le, ob_gt, ob_ge, ob_eq, ob_ne, ob_sub, ob_add, fcm_eq, Option.bind_some, Option.map_some]; exact rfl⟩
noncomputable def S7 (Φ : Phi) (vs : List EV) : {t // Ev.run Φ f_standard_of vs = t} := ⟨_, by simp only [Ev.run, f_standard_of, exs, ex, ↓ev_var, ev, evs, evS, evO, evC, evp, fblt_eq, hid, wipe, restore, List.foldl, asg_nm, List.length_cons, List.length_nil, peeks, isLend]; simp only [bind_tb, tb_ret, tb_fail, tb_opt, tb_tb, tb_ob, ob_some, q_calm, q_calm_sh, q_peek_sh, q_keep_sh, q_put_sh, q_back_sh, q_arg_sh, q_tst, get_gt, set_st, tb_vr, forL_fl, compL_cl, whlL_wl, tb_tst, tsb_b, ite_bi, vb_calm, vb_calm2, tb_vb, ob_bind, ob_map, pks0, pks1, ob_lt, ob_le, ob_gt, ob_ge, ob_eq, ob_ne, ob_sub, ob_add, fcm_eq, Option.bind_some, Option.map_some]; exact rfl⟩
noncomputable def S8 (Φ : Phi) (vs : List EV) : {t // Ev.run Φ f_pattern_at vs = t} := ⟨_, by simp only [Ev.run, f_pattern_at, exs, ex, ↓ev_var, ev, evs, evS, evO, evC, evp, fblt_eq, hid, wipe, restore, List.foldl, asg_nm, List.length_cons, List.length_nil, peeks, isLend]; simp only [bind_tb, tb_ret, tb_fail, tb_opt, tb_tb, tb_ob, ob_some, q_calm, q_calm_sh, q_peek_sh, q_keep_sh, q_put_sh, q_back_sh, q_arg_sh, q_tst, get_gt, set_st, tb_vr, forL_fl, compL_cl, whlL_wl, tb_tst, tsb_b, ite_bi, vb_calm, vb_calm2, tb_vb, ob_bind, ob_map, pks0, pks1, ob_lt, ob_le, ob_gt, ob_ge, ob_eq, ob_ne, ob_sub, ob_add, fcm_eq, Option.bind_some, Option.map_some]; exact rfl⟩
noncomputable def S9 (Φ : Phi) (vs : List EV) : {t // Ev.run Φ f_undone_of vs = t} := ⟨_, by simp only [Ev.run, f_undone_of, exs, ex, ↓ev_var, ev, evs, evS, evO, evC, evp, fblt_eq, hid, wipe, restore, List.foldl, asg_nm, List.length_cons, List.length_nil, peeks, isLend]; simp only [bind_tb, tb_ret, tb_fail, tb_opt, tb_tb, tb_ob, ob_some, q_calm, q_calm_sh, q_peek_sh, q_keep_sh, q_put_sh, q_back_sh, q_arg_sh, q_tst, get_gt, set_st, tb_vr, forL_fl, compL_cl, whlL_wl, tb_tst, tsb_b, ite_bi, vb_calm, vb_calm2, tb_vb, ob_bind, ob_map, pks0, pks1, ob_lt, ob_le, ob_gt, ob_ge, ob_eq, ob_ne, ob_sub, ob_add, fcm_eq, Option.bind_some, Option.map_some]; exact rfl⟩
noncomputable def S10 (Φ : Phi) (vs : List EV) : {t // Ev.run Φ f_reversed_of vs = t} := ⟨_, by simp only [Ev.run, f_reversed_of, exs, ex, ↓ev_var, ev, evs, evS, evO, evC, evp, fblt_eq, hid, wipe, restore, List.foldl, asg_nm, List.length_cons, List.length_nil, peeks, isLend]; simp only [bind_tb, tb_ret, tb_fail, tb_opt, tb_tb, tb_ob, ob_some, q_calm, q_calm_sh, q_peek_sh, q_keep_sh, q_put_sh, q_back_sh, q_arg_sh, q_tst, get_gt, set_st, tb_vr, forL_fl, compL_cl, whlL_wl, tb_tst, tsb_b, ite_bi, vb_calm, vb_calm2, tb_vb, ob_bind, ob_map, pks0, pks1, ob_lt, ob_le, ob_gt, ob_ge, ob_eq, ob_ne, ob_sub, ob_add, fcm_eq, Option.bind_some, Option.map_some]; exact rfl⟩
noncomputable def S11 (Φ : Phi) (vs : List EV) : {t // Ev.run Φ f_over_of vs = t} := ⟨_, by simp only [Ev.run, f_over_of, exs, ex, ↓ev_var, ev, evs, evS, evO, evC, evp, fblt_eq, hid, wipe, restore, List.foldl, asg_nm, List.length_cons, List.length_nil, peeks, isLend]; simp only [bind_tb, tb_ret, tb_fail, tb_opt, tb_tb, tb_ob, ob_some, q_calm, q_calm_sh, q_peek_sh, q_keep_sh, q_put_sh, q_back_sh, q_arg_sh, q_tst, get_gt, set_st, tb_vr, forL_fl, compL_cl, whlL_wl, tb_tst, tsb_b, ite_bi, vb_calm, vb_calm2, tb_vb, ob_bind, ob_map, pks0, pks1, ob_lt, ob_le, ob_gt, ob_ge, ob_eq, ob_ne, ob_sub, ob_add, fcm_eq, Option.bind_some, Option.map_some]; exact rfl⟩
noncomputable def S12 (Φ : Phi) (vs : List EV) : {t // Ev.run Φ f_beside_of vs = t} := ⟨_, by simp only [Ev.run, f_beside_of, exs, ex, ↓ev_var, ev, evs, evS, evO, evC, evp, fblt_eq, hid, wipe, restore, List.foldl, asg_nm, List.length_cons, List.length_nil, peeks, isLend]; simp only [bind_tb, tb_ret, tb_fail, tb_opt, tb_tb, tb_ob, ob_some, q_calm, q_calm_sh, q_peek_sh, q_keep_sh, q_put_sh, q_back_sh, q_arg_sh, q_tst, get_gt, set_st, tb_vr, forL_fl, compL_cl, whlL_wl, tb_tst, tsb_b, ite_bi, vb_calm, vb_calm2, tb_vb, ob_bind, ob_map, pks0, pks1, ob_lt, ob_le, ob_gt, ob_ge, ob_eq, ob_ne, ob_sub, ob_add, fcm_eq, Option.bind_some, Option.map_some]; exact rfl⟩
noncomputable def S13 (Φ : Phi) (vs : List EV) : {t // Ev.run Φ f_above_of vs = t} := ⟨_, by simp only [Ev.run, f_above_of, exs, ex, ↓ev_var, ev, evs, evS, evO, evC, evp, fblt_eq, hid, wipe, restore, List.foldl, asg_nm, List.length_cons, List.length_nil, peeks, isLend]; simp only [bind_tb, tb_ret, tb_fail, tb_opt, tb_tb, tb_ob, ob_some, q_calm, q_calm_sh, q_peek_sh, q_keep_sh, q_put_sh, q_back_sh, q_arg_sh, q_tst, get_gt, set_st, tb_vr, forL_fl, compL_cl, whlL_wl, tb_tst, tsb_b, ite_bi, vb_calm, vb_calm2, tb_vb, ob_bind, ob_map, pks0, pks1, ob_lt, ob_le, ob_gt, ob_ge, ob_eq, ob_ne, ob_sub, ob_add, fcm_eq, Option.bind_some, Option.map_some]; exact rfl⟩
noncomputable def S14 (Φ : Phi) (vs : List EV) : {t // Ev.run Φ f_undone vs = t} := ⟨_, by simp only [Ev.run, f_undone, exs, ex, ↓ev_var, ev, evs, evS, evO, evC, evp, fblt_eq, hid, wipe, restore, List.foldl, asg_nm, List.length_cons, List.length_nil, peeks, isLend]; simp only [bind_tb, tb_ret, tb_fail, tb_opt, tb_tb, tb_ob, ob_some, q_calm, q_calm_sh, q_peek_sh, q_keep_sh, q_put_sh, q_back_sh, q_arg_sh, q_tst, get_gt, set_st, tb_vr, forL_fl, compL_cl, whlL_wl, tb_tst, tsb_b, ite_bi, vb_calm, vb_calm2, tb_vb, ob_bind, ob_map, pks0, pks1, ob_lt, ob_le, ob_gt, ob_ge, ob_eq, ob_ne, ob_sub, ob_add, fcm_eq, Option.bind_some, Option.map_some]; exact rfl⟩
noncomputable def S15 (Φ : Phi) (vs : List EV) : {t // Ev.run Φ f_turned_back vs = t} := ⟨_, by simp only [Ev.run, f_turned_back, exs, ex, ↓ev_var, ev, evs, evS, evO, evC, evp, fblt_eq, hid, wipe, restore, List.foldl, asg_nm, List.length_cons, List.length_nil, peeks, isLend]; simp only [bind_tb, tb_ret, tb_fail, tb_opt, tb_tb, tb_ob, ob_some, q_calm, q_calm_sh, q_peek_sh, q_keep_sh, q_put_sh, q_back_sh, q_arg_sh, q_tst, get_gt, set_st, tb_vr, forL_fl, compL_cl, whlL_wl, tb_tst, tsb_b, ite_bi, vb_calm, vb_calm2, tb_vb, ob_bind, ob_map, pks0, pks1, ob_lt, ob_le, ob_gt, ob_ge, ob_eq, ob_ne, ob_sub, ob_add, fcm_eq, Option.bind_some, Option.map_some]; exact rfl⟩
noncomputable def S16 (Φ : Phi) (vs : List EV) : {t // Ev.run Φ f_turned_over vs = t} := ⟨_, by simp only [Ev.run, f_turned_over, exs, ex, ↓ev_var, ev, evs, evS, evO, evC, evp, fblt_eq, hid, wipe, restore, List.foldl, asg_nm, List.length_cons, List.length_nil, peeks, isLend]; simp only [bind_tb, tb_ret, tb_fail, tb_opt, tb_tb, tb_ob, ob_some, q_calm, q_calm_sh, q_peek_sh, q_keep_sh, q_put_sh, q_back_sh, q_arg_sh, q_tst, get_gt, set_st, tb_vr, forL_fl, compL_cl, whlL_wl, tb_tst, tsb_b, ite_bi, vb_calm, vb_calm2, tb_vb, ob_bind, ob_map, pks0, pks1, ob_lt, ob_le, ob_gt, ob_ge, ob_eq, ob_ne, ob_sub, ob_add, fcm_eq, Option.bind_some, Option.map_some]; exact rfl⟩
noncomputable def S17 (Φ : Phi) (vs : List EV) : {t // Ev.run Φ f_want_full_row vs = t} := ⟨_, by simp only [Ev.run, f_want_full_row, exs, ex, ↓ev_var, ev, evs, evS, evO, evC, evp, fblt_eq, hid, wipe, restore, List.foldl, asg_nm, List.length_cons, List.length_nil, peeks, isLend]; simp only [bind_tb, tb_ret, tb_fail, tb_opt, tb_tb, tb_ob, ob_some, q_calm, q_calm_sh, q_peek_sh, q_keep_sh, q_put_sh, q_back_sh, q_arg_sh, q_tst, get_gt, set_st, tb_vr, forL_fl, compL_cl, whlL_wl, tb_tst, tsb_b, ite_bi, vb_calm, vb_calm2, tb_vb, ob_bind, ob_map, pks0, pks1, ob_lt, ob_le, ob_gt, ob_ge, ob_eq, ob_ne, ob_sub, ob_add, fcm_eq, Option.bind_some, Option.map_some]; exact rfl⟩
noncomputable def S18 (Φ : Phi) (vs : List EV) : {t // Ev.run Φ f_is_building_value vs = t} := ⟨_, by simp only [Ev.run, f_is_building_value, exs, ex, ↓ev_var, ev, evs, evS, evO, evC, evp, fblt_eq, hid, wipe, restore, List.foldl, asg_nm, List.length_cons, List.length_nil, peeks, isLend]; simp only [bind_tb, tb_ret, tb_fail, tb_opt, tb_tb, tb_ob, ob_some, q_calm, q_calm_sh, q_peek_sh, q_keep_sh, q_put_sh, q_back_sh, q_arg_sh, q_tst, get_gt, set_st, tb_vr, forL_fl, compL_cl, whlL_wl, tb_tst, tsb_b, ite_bi, vb_calm, vb_calm2, tb_vb, ob_bind, ob_map, pks0, pks1, ob_lt, ob_le, ob_gt, ob_ge, ob_eq, ob_ne, ob_sub, ob_add, fcm_eq, Option.bind_some, Option.map_some]; exact rfl⟩
noncomputable def S19 (Φ : Phi) (vs : List EV) : {t // Ev.run Φ f_ones_of vs = t} := ⟨_, by simp only [Ev.run, f_ones_of, exs, ex, ↓ev_var, ev, evs, evS, evO, evC, evp, fblt_eq, hid, wipe, restore, List.foldl, asg_nm, List.length_cons, List.length_nil, peeks, isLend]; simp only [bind_tb, tb_ret, tb_fail, tb_opt, tb_tb, tb_ob, ob_some, q_calm, q_calm_sh, q_peek_sh, q_keep_sh, q_put_sh, q_back_sh, q_arg_sh, q_tst, get_gt, set_st, tb_vr, forL_fl, compL_cl, whlL_wl, tb_tst, tsb_b, ite_bi, vb_calm, vb_calm2, tb_vb, ob_bind, ob_map, pks0, pks1, ob_lt, ob_le, ob_gt, ob_ge, ob_eq, ob_ne, ob_sub, ob_add, fcm_eq, Option.bind_some, Option.map_some]; exact rfl⟩
noncomputable def S20 (Φ : Phi) (vs : List EV) : {t // Ev.run Φ f_want_building vs = t} := ⟨_, by simp only [Ev.run, f_want_building, exs, ex, ↓ev_var, ev, evs, evS, evO, evC, evp, fblt_eq, hid, wipe, restore, List.foldl, asg_nm, List.length_cons, List.length_nil, peeks, isLend]; simp only [bind_tb, tb_ret, tb_fail, tb_opt, tb_tb, tb_ob, ob_some, q_calm, q_calm_sh, q_peek_sh, q_keep_sh, q_put_sh, q_back_sh, q_arg_sh, q_tst, get_gt, set_st, tb_vr, forL_fl, compL_cl, whlL_wl, tb_tst, tsb_b, ite_bi, vb_calm, vb_calm2, tb_vb, ob_bind, ob_map, pks0, pks1, ob_lt, ob_le, ob_gt, ob_ge, ob_eq, ob_ne, ob_sub, ob_add, fcm_eq, Option.bind_some, Option.map_some]; exact rfl⟩
noncomputable def S21 (Φ : Phi) (vs : List EV) : {t // Ev.run Φ f_row_by_building vs = t} := ⟨_, by simp only [Ev.run, f_row_by_building, exs, ex, ↓ev_var, ev, evs, evS, evO, evC, evp, fblt_eq, hid, wipe, restore, List.foldl, asg_nm, List.length_cons, List.length_nil, peeks, isLend]; simp only [bind_tb, tb_ret, tb_fail, tb_opt, tb_tb, tb_ob, ob_some, q_calm, q_calm_sh, q_peek_sh, q_keep_sh, q_put_sh, q_back_sh, q_arg_sh, q_tst, get_gt, set_st, tb_vr, forL_fl, compL_cl, whlL_wl, tb_tst, tsb_b, ite_bi, vb_calm, vb_calm2, tb_vb, ob_bind, ob_map, pks0, pks1, ob_lt, ob_le, ob_gt, ob_ge, ob_eq, ob_ne, ob_sub, ob_add, fcm_eq, Option.bind_some, Option.map_some]; exact rfl⟩
noncomputable def S22 (Φ : Phi) (vs : List EV) : {t // Ev.run Φ f_first_cut vs = t} := ⟨_, by simp only [Ev.run, f_first_cut, exs, ex, ↓ev_var, ev, evs, evS, evO, evC, evp, fblt_eq, hid, wipe, restore, List.foldl, asg_nm, List.length_cons, List.length_nil, peeks, isLend]; simp only [bind_tb, tb_ret, tb_fail, tb_opt, tb_tb, tb_ob, ob_some, q_calm, q_calm_sh, q_peek_sh, q_keep_sh, q_put_sh, q_back_sh, q_arg_sh, q_tst, get_gt, set_st, tb_vr, forL_fl, compL_cl, whlL_wl, tb_tst, tsb_b, ite_bi, vb_calm, vb_calm2, tb_vb, ob_bind, ob_map, pks0, pks1, ob_lt, ob_le, ob_gt, ob_ge, ob_eq, ob_ne, ob_sub, ob_add, fcm_eq, Option.bind_some, Option.map_some]; exact rfl⟩
noncomputable def S23 (Φ : Phi) (vs : List EV) : {t // Ev.run Φ f_parts_by vs = t} := ⟨_, by simp only [Ev.run, f_parts_by, exs, ex, ↓ev_var, ev, evs, evS, evO, evC, evp, fblt_eq, hid, wipe, restore, List.foldl, asg_nm, List.length_cons, List.length_nil, peeks, isLend]; simp only [bind_tb, tb_ret, tb_fail, tb_opt, tb_tb, tb_ob, ob_some, q_calm, q_calm_sh, q_peek_sh, q_keep_sh, q_put_sh, q_back_sh, q_arg_sh, q_tst, get_gt, set_st, tb_vr, forL_fl, compL_cl, whlL_wl, tb_tst, tsb_b, ite_bi, vb_calm, vb_calm2, tb_vb, ob_bind, ob_map, pks0, pks1, ob_lt, ob_le, ob_gt, ob_ge, ob_eq, ob_ne, ob_sub, ob_add, fcm_eq, Option.bind_some, Option.map_some]; exact rfl⟩
noncomputable def S24 (Φ : Phi) (vs : List EV) : {t // Ev.run Φ f_building_of vs = t} := ⟨_, by simp only [Ev.run, f_building_of, exs, ex, ↓ev_var, ev, evs, evS, evO, evC, evp, fblt_eq, hid, wipe, restore, List.foldl, asg_nm, List.length_cons, List.length_nil, peeks, isLend]; simp only [bind_tb, tb_ret, tb_fail, tb_opt, tb_tb, tb_ob, ob_some, q_calm, q_calm_sh, q_peek_sh, q_keep_sh, q_put_sh, q_back_sh, q_arg_sh, q_tst, get_gt, set_st, tb_vr, forL_fl, compL_cl, whlL_wl, tb_tst, tsb_b, ite_bi, vb_calm, vb_calm2, tb_vb, ob_bind, ob_map, pks0, pks1, ob_lt, ob_le, ob_gt, ob_ge, ob_eq, ob_ne, ob_sub, ob_add, fcm_eq, Option.bind_some, Option.map_some]; exact rfl⟩
noncomputable def S25 (Φ : Phi) (vs : List EV) : {t // Ev.run Φ f_positions_of vs = t} := ⟨_, by simp only [Ev.run, f_positions_of, exs, ex, ↓ev_var, ev, evs, evS, evO, evC, evp, fblt_eq, hid, wipe, restore, List.foldl, asg_nm, List.length_cons, List.length_nil, peeks, isLend]; simp only [bind_tb, tb_ret, tb_fail, tb_opt, tb_tb, tb_ob, ob_some, q_calm, q_calm_sh, q_peek_sh, q_keep_sh, q_put_sh, q_back_sh, q_arg_sh, q_tst, get_gt, set_st, tb_vr, forL_fl, compL_cl, whlL_wl, tb_tst, tsb_b, ite_bi, vb_calm, vb_calm2, tb_vb, ob_bind, ob_map, pks0, pks1, ob_lt, ob_le, ob_gt, ob_ge, ob_eq, ob_ne, ob_sub, ob_add, fcm_eq, Option.bind_some, Option.map_some]; exact rfl⟩
noncomputable def S26 (Φ : Phi) (vs : List EV) : {t // Ev.run Φ f_first_bar vs = t} := ⟨_, by simp only [Ev.run, f_first_bar, exs, ex, ↓ev_var, ev, evs, evS, evO, evC, evp, fblt_eq, hid, wipe, restore, List.foldl, asg_nm, List.length_cons, List.length_nil, peeks, isLend]; simp only [bind_tb, tb_ret, tb_fail, tb_opt, tb_tb, tb_ob, ob_some, q_calm, q_calm_sh, q_peek_sh, q_keep_sh, q_put_sh, q_back_sh, q_arg_sh, q_tst, get_gt, set_st, tb_vr, forL_fl, compL_cl, whlL_wl, tb_tst, tsb_b, ite_bi, vb_calm, vb_calm2, tb_vb, ob_bind, ob_map, pks0, pks1, ob_lt, ob_le, ob_gt, ob_ge, ob_eq, ob_ne, ob_sub, ob_add, fcm_eq, Option.bind_some, Option.map_some]; exact rfl⟩
noncomputable def S27 (Φ : Phi) (vs : List EV) : {t // Ev.run Φ f_is_bar_of vs = t} := ⟨_, by simp only [Ev.run, f_is_bar_of, exs, ex, ↓ev_var, ev, evs, evS, evO, evC, evp, fblt_eq, hid, wipe, restore, List.foldl, asg_nm, List.length_cons, List.length_nil, peeks, isLend]; simp only [bind_tb, tb_ret, tb_fail, tb_opt, tb_tb, tb_ob, ob_some, q_calm, q_calm_sh, q_peek_sh, q_keep_sh, q_put_sh, q_back_sh, q_arg_sh, q_tst, get_gt, set_st, tb_vr, forL_fl, compL_cl, whlL_wl, tb_tst, tsb_b, ite_bi, vb_calm, vb_calm2, tb_vb, ob_bind, ob_map, pks0, pks1, ob_lt, ob_le, ob_gt, ob_ge, ob_eq, ob_ne, ob_sub, ob_add, fcm_eq, Option.bind_some, Option.map_some]; exact rfl⟩
noncomputable def S28 (Φ : Phi) (vs : List EV) : {t // Ev.run Φ f_pairings vs = t} := ⟨_, by simp only [Ev.run, f_pairings, exs, ex, ↓ev_var, ev, evs, evS, evO, evC, evp, fblt_eq, hid, wipe, restore, List.foldl, asg_nm, List.length_cons, List.length_nil, peeks, isLend]; simp only [bind_tb, tb_ret, tb_fail, tb_opt, tb_tb, tb_ob, ob_some, q_calm, q_calm_sh, q_peek_sh, q_keep_sh, q_put_sh, q_back_sh, q_arg_sh, q_tst, get_gt, set_st, tb_vr, forL_fl, compL_cl, whlL_wl, tb_tst, tsb_b, ite_bi, vb_calm, vb_calm2, tb_vb, ob_bind, ob_map, pks0, pks1, ob_lt, ob_le, ob_gt, ob_ge, ob_eq, ob_ne, ob_sub, ob_add, fcm_eq, Option.bind_some, Option.map_some]; exact rfl⟩
noncomputable def S29 (Φ : Phi) (vs : List EV) : {t // Ev.run Φ f_count_buildings vs = t} := ⟨_, by simp only [Ev.run, f_count_buildings, exs, ex, ↓ev_var, ev, evs, evS, evO, evC, evp, fblt_eq, hid, wipe, restore, List.foldl, asg_nm, List.length_cons, List.length_nil, peeks, isLend]; simp only [bind_tb, tb_ret, tb_fail, tb_opt, tb_tb, tb_ob, ob_some, q_calm, q_calm_sh, q_peek_sh, q_keep_sh, q_put_sh, q_back_sh, q_arg_sh, q_tst, get_gt, set_st, tb_vr, forL_fl, compL_cl, whlL_wl, tb_tst, tsb_b, ite_bi, vb_calm, vb_calm2, tb_vb, ob_bind, ob_map, pks0, pks1, ob_lt, ob_le, ob_gt, ob_ge, ob_eq, ob_ne, ob_sub, ob_add, fcm_eq, Option.bind_some, Option.map_some]; exact rfl⟩
noncomputable def S30 (Φ : Phi) (vs : List EV) : {t // Ev.run Φ f_is_built vs = t} := ⟨_, by simp only [Ev.run, f_is_built, exs, ex, ↓ev_var, ev, evs, evS, evO, evC, evp, fblt_eq, hid, wipe, restore, List.foldl, asg_nm, List.length_cons, List.length_nil, peeks, isLend]; simp only [bind_tb, tb_ret, tb_fail, tb_opt, tb_tb, tb_ob, ob_some, q_calm, q_calm_sh, q_peek_sh, q_keep_sh, q_put_sh, q_back_sh, q_arg_sh, q_tst, get_gt, set_st, tb_vr, forL_fl, compL_cl, whlL_wl, tb_tst, tsb_b, ite_bi, vb_calm, vb_calm2, tb_vb, ob_bind, ob_map, pks0, pks1, ob_lt, ob_le, ob_gt, ob_ge, ob_eq, ob_ne, ob_sub, ob_add, fcm_eq, Option.bind_some, Option.map_some]; exact rfl⟩
noncomputable def S31 (Φ : Phi) (vs : List EV) : {t // Ev.run Φ f_building vs = t} := ⟨_, by simp only [Ev.run, f_building, exs, ex, ↓ev_var, ev, evs, evS, evO, evC, evp, fblt_eq, hid, wipe, restore, List.foldl, asg_nm, List.length_cons, List.length_nil, peeks, isLend]; simp only [bind_tb, tb_ret, tb_fail, tb_opt, tb_tb, tb_ob, ob_some, q_calm, q_calm_sh, q_peek_sh, q_keep_sh, q_put_sh, q_back_sh, q_arg_sh, q_tst, get_gt, set_st, tb_vr, forL_fl, compL_cl, whlL_wl, tb_tst, tsb_b, ite_bi, vb_calm, vb_calm2, tb_vb, ob_bind, ob_map, pks0, pks1, ob_lt, ob_le, ob_gt, ob_ge, ob_eq, ob_ne, ob_sub, ob_add, fcm_eq, Option.bind_some, Option.map_some]; exact rfl⟩
noncomputable def S32 (Φ : Phi) (vs : List EV) : {t // Ev.run Φ f_row_of_building vs = t} := ⟨_, by simp only [Ev.run, f_row_of_building, exs, ex, ↓ev_var, ev, evs, evS, evO, evC, evp, fblt_eq, hid, wipe, restore, List.foldl, asg_nm, List.length_cons, List.length_nil, peeks, isLend]; simp only [bind_tb, tb_ret, tb_fail, tb_opt, tb_tb, tb_ob, ob_some, q_calm, q_calm_sh, q_peek_sh, q_keep_sh, q_put_sh, q_back_sh, q_arg_sh, q_tst, get_gt, set_st, tb_vr, forL_fl, compL_cl, whlL_wl, tb_tst, tsb_b, ite_bi, vb_calm, vb_calm2, tb_vb, ob_bind, ob_map, pks0, pks1, ob_lt, ob_le, ob_gt, ob_ge, ob_eq, ob_ne, ob_sub, ob_add, fcm_eq, Option.bind_some, Option.map_some]; exact rfl⟩
noncomputable def S33 (Φ : Phi) (vs : List EV) : {t // Ev.run Φ f_many_buildings vs = t} := ⟨_, by simp only [Ev.run, f_many_buildings, exs, ex, ↓ev_var, ev, evs, evS, evO, evC, evp, fblt_eq, hid, wipe, restore, List.foldl, asg_nm, List.length_cons, List.length_nil, peeks, isLend]; simp only [bind_tb, tb_ret, tb_fail, tb_opt, tb_tb, tb_ob, ob_some, q_calm, q_calm_sh, q_peek_sh, q_keep_sh, q_put_sh, q_back_sh, q_arg_sh, q_tst, get_gt, set_st, tb_vr, forL_fl, compL_cl, whlL_wl, tb_tst, tsb_b, ite_bi, vb_calm, vb_calm2, tb_vb, ob_bind, ob_map, pks0, pks1, ob_lt, ob_le, ob_gt, ob_ge, ob_eq, ob_ne, ob_sub, ob_add, fcm_eq, Option.bind_some, Option.map_some]; exact rfl⟩
noncomputable def S34 (Φ : Phi) (vs : List EV) : {t // Ev.run Φ f_built_paper vs = t} := ⟨_, by simp only [Ev.run, f_built_paper, exs, ex, ↓ev_var, ev, evs, evS, evO, evC, evp, fblt_eq, hid, wipe, restore, List.foldl, asg_nm, List.length_cons, List.length_nil, peeks, isLend]; simp only [bind_tb, tb_ret, tb_fail, tb_opt, tb_tb, tb_ob, ob_some, q_calm, q_calm_sh, q_peek_sh, q_keep_sh, q_put_sh, q_back_sh, q_arg_sh, q_tst, get_gt, set_st, tb_vr, forL_fl, compL_cl, whlL_wl, tb_tst, tsb_b, ite_bi, vb_calm, vb_calm2, tb_vb, ob_bind, ob_map, pks0, pks1, ob_lt, ob_le, ob_gt, ob_ge, ob_eq, ob_ne, ob_sub, ob_add, fcm_eq, Option.bind_some, Option.map_some]; exact rfl⟩
noncomputable def S35 (Φ : Phi) (vs : List EV) : {t // Ev.run Φ f_is_built_paper vs = t} := ⟨_, by simp only [Ev.run, f_is_built_paper, exs, ex, ↓ev_var, ev, evs, evS, evO, evC, evp, fblt_eq, hid, wipe, restore, List.foldl, asg_nm, List.length_cons, List.length_nil, peeks, isLend]; simp only [bind_tb, tb_ret, tb_fail, tb_opt, tb_tb, tb_ob, ob_some, q_calm, q_calm_sh, q_peek_sh, q_keep_sh, q_put_sh, q_back_sh, q_arg_sh, q_tst, get_gt, set_st, tb_vr, forL_fl, compL_cl, whlL_wl, tb_tst, tsb_b, ite_bi, vb_calm, vb_calm2, tb_vb, ob_bind, ob_map, pks0, pks1, ob_lt, ob_le, ob_gt, ob_ge, ob_eq, ob_ne, ob_sub, ob_add, fcm_eq, Option.bind_some, Option.map_some]; exact rfl⟩
noncomputable def S36 (Φ : Phi) (vs : List EV) : {t // Ev.run Φ f_want_lengths vs = t} := ⟨_, by simp only [Ev.run, f_want_lengths, exs, ex, ↓ev_var, ev, evs, evS, evO, evC, evp, fblt_eq, hid, wipe, restore, List.foldl, asg_nm, List.length_cons, List.length_nil, peeks, isLend]; simp only [bind_tb, tb_ret, tb_fail, tb_opt, tb_tb, tb_ob, ob_some, q_calm, q_calm_sh, q_peek_sh, q_keep_sh, q_put_sh, q_back_sh, q_arg_sh, q_tst, get_gt, set_st, tb_vr, forL_fl, compL_cl, whlL_wl, tb_tst, tsb_b, ite_bi, vb_calm, vb_calm2, tb_vb, ob_bind, ob_map, pks0, pks1, ob_lt, ob_le, ob_gt, ob_ge, ob_eq, ob_ne, ob_sub, ob_add, fcm_eq, Option.bind_some, Option.map_some]; exact rfl⟩
noncomputable def S37 (Φ : Phi) (vs : List EV) : {t // Ev.run Φ f_longest_of vs = t} := ⟨_, by simp only [Ev.run, f_longest_of, exs, ex, ↓ev_var, ev, evs, evS, evO, evC, evp, fblt_eq, hid, wipe, restore, List.foldl, asg_nm, List.length_cons, List.length_nil, peeks, isLend]; simp only [bind_tb, tb_ret, tb_fail, tb_opt, tb_tb, tb_ob, ob_some, q_calm, q_calm_sh, q_peek_sh, q_keep_sh, q_put_sh, q_back_sh, q_arg_sh, q_tst, get_gt, set_st, tb_vr, forL_fl, compL_cl, whlL_wl, tb_tst, tsb_b, ite_bi, vb_calm, vb_calm2, tb_vb, ob_bind, ob_map, pks0, pks1, ob_lt, ob_le, ob_gt, ob_ge, ob_eq, ob_ne, ob_sub, ob_add, fcm_eq, Option.bind_some, Option.map_some]; exact rfl⟩
noncomputable def S38 (Φ : Phi) (vs : List EV) : {t // Ev.run Φ f_layers_of vs = t} := ⟨_, by simp only [Ev.run, f_layers_of, exs, ex, ↓ev_var, ev, evs, evS, evO, evC, evp, fblt_eq, hid, wipe, restore, List.foldl, asg_nm, List.length_cons, List.length_nil, peeks, isLend]; simp only [bind_tb, tb_ret, tb_fail, tb_opt, tb_tb, tb_ob, ob_some, q_calm, q_calm_sh, q_peek_sh, q_keep_sh, q_put_sh, q_back_sh, q_arg_sh, q_tst, get_gt, set_st, tb_vr, forL_fl, compL_cl, whlL_wl, tb_tst, tsb_b, ite_bi, vb_calm, vb_calm2, tb_vb, ob_bind, ob_map, pks0, pks1, ob_lt, ob_le, ob_gt, ob_ge, ob_eq, ob_ne, ob_sub, ob_add, fcm_eq, Option.bind_some, Option.map_some]; exact rfl⟩
noncomputable def S39 (Φ : Phi) (vs : List EV) : {t // Ev.run Φ f_row_by_layers vs = t} := ⟨_, by simp only [Ev.run, f_row_by_layers, exs, ex, ↓ev_var, ev, evs, evS, evO, evC, evp, fblt_eq, hid, wipe, restore, List.foldl, asg_nm, List.length_cons, List.length_nil, peeks, isLend]; simp only [bind_tb, tb_ret, tb_fail, tb_opt, tb_tb, tb_ob, ob_some, q_calm, q_calm_sh, q_peek_sh, q_keep_sh, q_put_sh, q_back_sh, q_arg_sh, q_tst, get_gt, set_st, tb_vr, forL_fl, compL_cl, whlL_wl, tb_tst, tsb_b, ite_bi, vb_calm, vb_calm2, tb_vb, ob_bind, ob_map, pks0, pks1, ob_lt, ob_le, ob_gt, ob_ge, ob_eq, ob_ne, ob_sub, ob_add, fcm_eq, Option.bind_some, Option.map_some]; exact rfl⟩
noncomputable def S40 (Φ : Phi) (vs : List EV) : {t // Ev.run Φ f_parts_beside vs = t} := ⟨_, by simp only [Ev.run, f_parts_beside, exs, ex, ↓ev_var, ev, evs, evS, evO, evC, evp, fblt_eq, hid, wipe, restore, List.foldl, asg_nm, List.length_cons, List.length_nil, peeks, isLend]; simp only [bind_tb, tb_ret, tb_fail, tb_opt, tb_tb, tb_ob, ob_some, q_calm, q_calm_sh, q_peek_sh, q_keep_sh, q_put_sh, q_back_sh, q_arg_sh, q_tst, get_gt, set_st, tb_vr, forL_fl, compL_cl, whlL_wl, tb_tst, tsb_b, ite_bi, vb_calm, vb_calm2, tb_vb, ob_bind, ob_map, pks0, pks1, ob_lt, ob_le, ob_gt, ob_ge, ob_eq, ob_ne, ob_sub, ob_add, fcm_eq, Option.bind_some, Option.map_some]; exact rfl⟩
noncomputable def S41 (Φ : Phi) (vs : List EV) : {t // Ev.run Φ f_parts_above vs = t} := ⟨_, by simp only [Ev.run, f_parts_above, exs, ex, ↓ev_var, ev, evs, evS, evO, evC, evp, fblt_eq, hid, wipe, restore, List.foldl, asg_nm, List.length_cons, List.length_nil, peeks, isLend]; simp only [bind_tb, tb_ret, tb_fail, tb_opt, tb_tb, tb_ob, ob_some, q_calm, q_calm_sh, q_peek_sh, q_keep_sh, q_put_sh, q_back_sh, q_arg_sh, q_tst, get_gt, set_st, tb_vr, forL_fl, compL_cl, whlL_wl, tb_tst, tsb_b, ite_bi, vb_calm, vb_calm2, tb_vb, ob_bind, ob_map, pks0, pks1, ob_lt, ob_le, ob_gt, ob_ge, ob_eq, ob_ne, ob_sub, ob_add, fcm_eq, Option.bind_some, Option.map_some]; exact rfl⟩
noncomputable def S42 (Φ : Phi) (vs : List EV) : {t // Ev.run Φ f_longest_rising vs = t} := ⟨_, by simp only [Ev.run, f_longest_rising, exs, ex, ↓ev_var, ev, evs, evS, evO, evC, evp, fblt_eq, hid, wipe, restore, List.foldl, asg_nm, List.length_cons, List.length_nil, peeks, isLend]; simp only [bind_tb, tb_ret, tb_fail, tb_opt, tb_tb, tb_ob, ob_some, q_calm, q_calm_sh, q_peek_sh, q_keep_sh, q_put_sh, q_back_sh, q_arg_sh, q_tst, get_gt, set_st, tb_vr, forL_fl, compL_cl, whlL_wl, tb_tst, tsb_b, ite_bi, vb_calm, vb_calm2, tb_vb, ob_bind, ob_map, pks0, pks1, ob_lt, ob_le, ob_gt, ob_ge, ob_eq, ob_ne, ob_sub, ob_add, fcm_eq, Option.bind_some, Option.map_some]; exact rfl⟩
noncomputable def S43 (Φ : Phi) (vs : List EV) : {t // Ev.run Φ f_longest_falling vs = t} := ⟨_, by simp only [Ev.run, f_longest_falling, exs, ex, ↓ev_var, ev, evs, evS, evO, evC, evp, fblt_eq, hid, wipe, restore, List.foldl, asg_nm, List.length_cons, List.length_nil, peeks, isLend]; simp only [bind_tb, tb_ret, tb_fail, tb_opt, tb_tb, tb_ob, ob_some, q_calm, q_calm_sh, q_peek_sh, q_keep_sh, q_put_sh, q_back_sh, q_arg_sh, q_tst, get_gt, set_st, tb_vr, forL_fl, compL_cl, whlL_wl, tb_tst, tsb_b, ite_bi, vb_calm, vb_calm2, tb_vb, ob_bind, ob_map, pks0, pks1, ob_lt, ob_le, ob_gt, ob_ge, ob_eq, ob_ne, ob_sub, ob_add, fcm_eq, Option.bind_some, Option.map_some]; exact rfl⟩
noncomputable def S44 (Φ : Phi) (vs : List EV) : {t // Ev.run Φ f_layers vs = t} := ⟨_, by simp only [Ev.run, f_layers, exs, ex, ↓ev_var, ev, evs, evS, evO, evC, evp, fblt_eq, hid, wipe, restore, List.foldl, asg_nm, List.length_cons, List.length_nil, peeks, isLend]; simp only [bind_tb, tb_ret, tb_fail, tb_opt, tb_tb, tb_ob, ob_some, q_calm, q_calm_sh, q_peek_sh, q_keep_sh, q_put_sh, q_back_sh, q_arg_sh, q_tst, get_gt, set_st, tb_vr, forL_fl, compL_cl, whlL_wl, tb_tst, tsb_b, ite_bi, vb_calm, vb_calm2, tb_vb, ob_bind, ob_map, pks0, pks1, ob_lt, ob_le, ob_gt, ob_ge, ob_eq, ob_ne, ob_sub, ob_add, fcm_eq, Option.bind_some, Option.map_some]; exact rfl⟩
noncomputable def S45 (Φ : Phi) (vs : List EV) : {t // Ev.run Φ f_layered_row vs = t} := ⟨_, by simp only [Ev.run, f_layered_row, exs, ex, ↓ev_var, ev, evs, evS, evO, evC, evp, fblt_eq, hid, wipe, restore, List.foldl, asg_nm, List.length_cons, List.length_nil, peeks, isLend]; simp only [bind_tb, tb_ret, tb_fail, tb_opt, tb_tb, tb_ob, ob_some, q_calm, q_calm_sh, q_peek_sh, q_keep_sh, q_put_sh, q_back_sh, q_arg_sh, q_tst, get_gt, set_st, tb_vr, forL_fl, compL_cl, whlL_wl, tb_tst, tsb_b, ite_bi, vb_calm, vb_calm2, tb_vb, ob_bind, ob_map, pks0, pks1, ob_lt, ob_le, ob_gt, ob_ge, ob_eq, ob_ne, ob_sub, ob_add, fcm_eq, Option.bind_some, Option.map_some]; exact rfl⟩
noncomputable def S46 (Φ : Phi) (vs : List EV) : {t // Ev.run Φ f_layered_paper vs = t} := ⟨_, by simp only [Ev.run, f_layered_paper, exs, ex, ↓ev_var, ev, evs, evS, evO, evC, evp, fblt_eq, hid, wipe, restore, List.foldl, asg_nm, List.length_cons, List.length_nil, peeks, isLend]; simp only [bind_tb, tb_ret, tb_fail, tb_opt, tb_tb, tb_ob, ob_some, q_calm, q_calm_sh, q_peek_sh, q_keep_sh, q_put_sh, q_back_sh, q_arg_sh, q_tst, get_gt, set_st, tb_vr, forL_fl, compL_cl, whlL_wl, tb_tst, tsb_b, ite_bi, vb_calm, vb_calm2, tb_vb, ob_bind, ob_map, pks0, pks1, ob_lt, ob_le, ob_gt, ob_ge, ob_eq, ob_ne, ob_sub, ob_add, fcm_eq, Option.bind_some, Option.map_some]; exact rfl⟩
noncomputable def S49 (Φ : Phi) (vs : List EV) : {t // Ev.run Φ f__law_pick vs = t} := ⟨_, by simp only [Ev.run, f__law_pick, exs, ex, ↓ev_var, ev, evs, evS, evO, evC, evp, fblt_eq, hid, wipe, restore, List.foldl, asg_nm, List.length_cons, List.length_nil, peeks, isLend]; simp only [bind_tb, tb_ret, tb_fail, tb_opt, tb_tb, tb_ob, ob_some, q_calm, q_calm_sh, q_peek_sh, q_keep_sh, q_put_sh, q_back_sh, q_arg_sh, q_tst, get_gt, set_st, tb_vr, forL_fl, compL_cl, whlL_wl, tb_tst, tsb_b, ite_bi, vb_calm, vb_calm2, tb_vb, ob_bind, ob_map, pks0, pks1, ob_lt, ob_le, ob_gt, ob_ge, ob_eq, ob_ne, ob_sub, ob_add, fcm_eq, Option.bind_some, Option.map_some]; exact rfl⟩
noncomputable def S50 (Φ : Phi) (vs : List EV) : {t // Ev.run Φ f__law_chain vs = t} := ⟨_, by simp only [Ev.run, f__law_chain, exs, ex, ↓ev_var, ev, evs, evS, evO, evC, evp, fblt_eq, hid, wipe, restore, List.foldl, asg_nm, List.length_cons, List.length_nil, peeks, isLend]; simp only [bind_tb, tb_ret, tb_fail, tb_opt, tb_tb, tb_ob, ob_some, q_calm, q_calm_sh, q_peek_sh, q_keep_sh, q_put_sh, q_back_sh, q_arg_sh, q_tst, get_gt, set_st, tb_vr, forL_fl, compL_cl, whlL_wl, tb_tst, tsb_b, ite_bi, vb_calm, vb_calm2, tb_vb, ob_bind, ob_map, pks0, pks1, ob_lt, ob_le, ob_gt, ob_ge, ob_eq, ob_ne, ob_sub, ob_add, fcm_eq, Option.bind_some, Option.map_some]; exact rfl⟩
noncomputable def S51 (Φ : Phi) (vs : List EV) : {t // Ev.run Φ f__law_lines_right vs = t} := ⟨_, by simp only [Ev.run, f__law_lines_right, exs, ex, ↓ev_var, ev, evs, evS, evO, evC, evp, fblt_eq, hid, wipe, restore, List.foldl, asg_nm, List.length_cons, List.length_nil, peeks, isLend]; simp only [bind_tb, tb_ret, tb_fail, tb_opt, tb_tb, tb_ob, ob_some, q_calm, q_calm_sh, q_peek_sh, q_keep_sh, q_put_sh, q_back_sh, q_arg_sh, q_tst, get_gt, set_st, tb_vr, forL_fl, compL_cl, whlL_wl, tb_tst, tsb_b, ite_bi, vb_calm, vb_calm2, tb_vb, ob_bind, ob_map, pks0, pks1, ob_lt, ob_le, ob_gt, ob_ge, ob_eq, ob_ne, ob_sub, ob_add, fcm_eq, Option.bind_some, Option.map_some]; exact rfl⟩
noncomputable def S52 (Φ : Phi) (vs : List EV) : {t // Ev.run Φ f__law_layers_right vs = t} := ⟨_, by simp only [Ev.run, f__law_layers_right, exs, ex, ↓ev_var, ev, evs, evS, evO, evC, evp, fblt_eq, hid, wipe, restore, List.foldl, asg_nm, List.length_cons, List.length_nil, peeks, isLend]; simp only [bind_tb, tb_ret, tb_fail, tb_opt, tb_tb, tb_ob, ob_some, q_calm, q_calm_sh, q_peek_sh, q_keep_sh, q_put_sh, q_back_sh, q_arg_sh, q_tst, get_gt, set_st, tb_vr, forL_fl, compL_cl, whlL_wl, tb_tst, tsb_b, ite_bi, vb_calm, vb_calm2, tb_vb, ob_bind, ob_map, pks0, pks1, ob_lt, ob_le, ob_gt, ob_ge, ob_eq, ob_ne, ob_sub, ob_add, fcm_eq, Option.bind_some, Option.map_some]; exact rfl⟩
noncomputable def S53 (Φ : Phi) (vs : List EV) : {t // Ev.run Φ f__law_barred_right vs = t} := ⟨_, by simp only [Ev.run, f__law_barred_right, exs, ex, ↓ev_var, ev, evs, evS, evO, evC, evp, fblt_eq, hid, wipe, restore, List.foldl, asg_nm, List.length_cons, List.length_nil, peeks, isLend]; simp only [bind_tb, tb_ret, tb_fail, tb_opt, tb_tb, tb_ob, ob_some, q_calm, q_calm_sh, q_peek_sh, q_keep_sh, q_put_sh, q_back_sh, q_arg_sh, q_tst, get_gt, set_st, tb_vr, forL_fl, compL_cl, whlL_wl, tb_tst, tsb_b, ite_bi, vb_calm, vb_calm2, tb_vb, ob_bind, ob_map, pks0, pks1, ob_lt, ob_le, ob_gt, ob_ge, ob_eq, ob_ne, ob_sub, ob_add, fcm_eq, Option.bind_some, Option.map_some]; exact rfl⟩
noncomputable def S54 (Φ : Phi) (vs : List EV) : {t // Ev.run Φ f__law_deep_right vs = t} := ⟨_, by simp only [Ev.run, f__law_deep_right, exs, ex, ↓ev_var, ev, evs, evS, evO, evC, evp, fblt_eq, hid, wipe, restore, List.foldl, asg_nm, List.length_cons, List.length_nil, peeks, isLend]; simp only [bind_tb, tb_ret, tb_fail, tb_opt, tb_tb, tb_ob, ob_some, q_calm, q_calm_sh, q_peek_sh, q_keep_sh, q_put_sh, q_back_sh, q_arg_sh, q_tst, get_gt, set_st, tb_vr, forL_fl, compL_cl, whlL_wl, tb_tst, tsb_b, ite_bi, vb_calm, vb_calm2, tb_vb, ob_bind, ob_map, pks0, pks1, ob_lt, ob_le, ob_gt, ob_ge, ob_eq, ob_ne, ob_sub, ob_add, fcm_eq, Option.bind_some, Option.map_some]; exact rfl⟩
noncomputable def S55 (Φ : Phi) (vs : List EV) : {t // Ev.run Φ f_law vs = t} := ⟨_, by simp only [Ev.run, f_law, exs, ex, ↓ev_var, ev, evs, evS, evO, evC, evp, fblt_eq, hid, wipe, restore, List.foldl, asg_nm, List.length_cons, List.length_nil, peeks, isLend]; simp only [bind_tb, tb_ret, tb_fail, tb_opt, tb_tb, tb_ob, ob_some, q_calm, q_calm_sh, q_peek_sh, q_keep_sh, q_put_sh, q_back_sh, q_arg_sh, q_tst, get_gt, set_st, tb_vr, forL_fl, compL_cl, whlL_wl, tb_tst, tsb_b, ite_bi, vb_calm, vb_calm2, tb_vb, ob_bind, ob_map, pks0, pks1, ob_lt, ob_le, ob_gt, ob_ge, ob_eq, ob_ne, ob_sub, ob_add, fcm_eq, Option.bind_some, Option.map_some]; exact rfl⟩
noncomputable def ps : Nat → Phi
  | 0, _, _ => .fail
  | n + 1, f, vs => bif Nat.ble 56 f then .fail else (bif Nat.blt f 28 then (bif Nat.blt f 14 then (bif Nat.blt f 7 then (bif Nat.blt f 3 then (bif Nat.blt f 1 then (S0 (ps n) vs).1 else (bif Nat.blt f 2 then (S1 (ps n) vs).1 else (S2 (ps n) vs).1)) else (bif Nat.blt f 5 then (bif Nat.blt f 4 then (S3 (ps n) vs).1 else (S4 (ps n) vs).1) else (bif Nat.blt f 6 then (S5 (ps n) vs).1 else (S6 (ps n) vs).1))) else (bif Nat.blt f 10 then (bif Nat.blt f 8 then (S7 (ps n) vs).1 else (bif Nat.blt f 9 then (S8 (ps n) vs).1 else (S9 (ps n) vs).1)) else (bif Nat.blt f 12 then (bif Nat.blt f 11 then (S10 (ps n) vs).1 else (S11 (ps n) vs).1) else (bif Nat.blt f 13 then (S12 (ps n) vs).1 else (S13 (ps n) vs).1)))) else (bif Nat.blt f 21 then (bif Nat.blt f 17 then (bif Nat.blt f 15 then (S14 (ps n) vs).1 else (bif Nat.blt f 16 then (S15 (ps n) vs).1 else (S16 (ps n) vs).1)) else (bif Nat.blt f 19 then (bif Nat.blt f 18 then (S17 (ps n) vs).1 else (S18 (ps n) vs).1) else (bif Nat.blt f 20 then (S19 (ps n) vs).1 else (S20 (ps n) vs).1))) else (bif Nat.blt f 24 then (bif Nat.blt f 22 then (S21 (ps n) vs).1 else (bif Nat.blt f 23 then (S22 (ps n) vs).1 else (S23 (ps n) vs).1)) else (bif Nat.blt f 26 then (bif Nat.blt f 25 then (S24 (ps n) vs).1 else (S25 (ps n) vs).1) else (bif Nat.blt f 27 then (S26 (ps n) vs).1 else (S27 (ps n) vs).1))))) else (bif Nat.blt f 42 then (bif Nat.blt f 35 then (bif Nat.blt f 31 then (bif Nat.blt f 29 then (S28 (ps n) vs).1 else (bif Nat.blt f 30 then (S29 (ps n) vs).1 else (S30 (ps n) vs).1)) else (bif Nat.blt f 33 then (bif Nat.blt f 32 then (S31 (ps n) vs).1 else (S32 (ps n) vs).1) else (bif Nat.blt f 34 then (S33 (ps n) vs).1 else (S34 (ps n) vs).1))) else (bif Nat.blt f 38 then (bif Nat.blt f 36 then (S35 (ps n) vs).1 else (bif Nat.blt f 37 then (S36 (ps n) vs).1 else (S37 (ps n) vs).1)) else (bif Nat.blt f 40 then (bif Nat.blt f 39 then (S38 (ps n) vs).1 else (S39 (ps n) vs).1) else (bif Nat.blt f 41 then (S40 (ps n) vs).1 else (S41 (ps n) vs).1)))) else (bif Nat.blt f 49 then (bif Nat.blt f 45 then (bif Nat.blt f 43 then (S42 (ps n) vs).1 else (bif Nat.blt f 44 then (S43 (ps n) vs).1 else (S44 (ps n) vs).1)) else (bif Nat.blt f 47 then (bif Nat.blt f 46 then (S45 (ps n) vs).1 else (S46 (ps n) vs).1) else (bif Nat.blt f 48 then .fail else .fail))) else (bif Nat.blt f 52 then (bif Nat.blt f 50 then (S49 (ps n) vs).1 else (bif Nat.blt f 51 then (S50 (ps n) vs).1 else (S51 (ps n) vs).1)) else (bif Nat.blt f 54 then (bif Nat.blt f 53 then (S52 (ps n) vs).1 else (S53 (ps n) vs).1) else (bif Nat.blt f 55 then (S54 (ps n) vs).1 else (S55 (ps n) vs).1))))))
theorem phi_some {n f : Nat} {d : Fn} {vs : List EV} (h : tab f = some d) : phi tab (n + 1) f vs = Ev.run (phi tab n) d vs := by
  show (match tab f with
    | some d => Ev.run (phi tab n) d vs
    | none => .fail) = _
  rw [h]
theorem phi_none {n f : Nat} {vs : List EV} (h : tab f = none) : phi tab (n + 1) f vs = .fail := by
  show (match tab f with
    | some d => Ev.run (phi tab n) d vs
    | none => .fail) = _
  rw [h]
theorem ps_step (n : Nat) (ih : phi tab n = ps n) : ∀ f vs, phi tab (n + 1) f vs = ps (n + 1) f vs
  | 0, vs => by
    rw [phi_some (d := f_is_integer) rfl, ih]
    exact (S0 (ps n) vs).2
  | 1, vs => by
    rw [phi_some (d := f_is_count) rfl, ih]
    exact (S1 (ps n) vs).2
  | 2, vs => by
    rw [phi_some (d := f_is_list) rfl, ih]
    exact (S2 (ps n) vs).2
  | 3, vs => by
    rw [phi_some (d := f_want_at_most) rfl, ih]
    exact (S3 (ps n) vs).2
  | 4, vs => by
    rw [phi_some (d := f_is_row_value) rfl, ih]
    exact (S4 (ps n) vs).2
  | 5, vs => by
    rw [phi_some (d := f_want_row) rfl, ih]
    exact (S5 (ps n) vs).2
  | 6, vs => by
    rw [phi_some (d := f_are_positions) rfl, ih]
    exact (S6 (ps n) vs).2
  | 7, vs => by
    rw [phi_some (d := f_standard_of) rfl, ih]
    exact (S7 (ps n) vs).2
  | 8, vs => by
    rw [phi_some (d := f_pattern_at) rfl, ih]
    exact (S8 (ps n) vs).2
  | 9, vs => by
    rw [phi_some (d := f_undone_of) rfl, ih]
    exact (S9 (ps n) vs).2
  | 10, vs => by
    rw [phi_some (d := f_reversed_of) rfl, ih]
    exact (S10 (ps n) vs).2
  | 11, vs => by
    rw [phi_some (d := f_over_of) rfl, ih]
    exact (S11 (ps n) vs).2
  | 12, vs => by
    rw [phi_some (d := f_beside_of) rfl, ih]
    exact (S12 (ps n) vs).2
  | 13, vs => by
    rw [phi_some (d := f_above_of) rfl, ih]
    exact (S13 (ps n) vs).2
  | 14, vs => by
    rw [phi_some (d := f_undone) rfl, ih]
    exact (S14 (ps n) vs).2
  | 15, vs => by
    rw [phi_some (d := f_turned_back) rfl, ih]
    exact (S15 (ps n) vs).2
  | 16, vs => by
    rw [phi_some (d := f_turned_over) rfl, ih]
    exact (S16 (ps n) vs).2
  | 17, vs => by
    rw [phi_some (d := f_want_full_row) rfl, ih]
    exact (S17 (ps n) vs).2
  | 18, vs => by
    rw [phi_some (d := f_is_building_value) rfl, ih]
    exact (S18 (ps n) vs).2
  | 19, vs => by
    rw [phi_some (d := f_ones_of) rfl, ih]
    exact (S19 (ps n) vs).2
  | 20, vs => by
    rw [phi_some (d := f_want_building) rfl, ih]
    exact (S20 (ps n) vs).2
  | 21, vs => by
    rw [phi_some (d := f_row_by_building) rfl, ih]
    exact (S21 (ps n) vs).2
  | 22, vs => by
    rw [phi_some (d := f_first_cut) rfl, ih]
    exact (S22 (ps n) vs).2
  | 23, vs => by
    rw [phi_some (d := f_parts_by) rfl, ih]
    exact (S23 (ps n) vs).2
  | 24, vs => by
    rw [phi_some (d := f_building_of) rfl, ih]
    exact (S24 (ps n) vs).2
  | 25, vs => by
    rw [phi_some (d := f_positions_of) rfl, ih]
    exact (S25 (ps n) vs).2
  | 26, vs => by
    rw [phi_some (d := f_first_bar) rfl, ih]
    exact (S26 (ps n) vs).2
  | 27, vs => by
    rw [phi_some (d := f_is_bar_of) rfl, ih]
    exact (S27 (ps n) vs).2
  | 28, vs => by
    rw [phi_some (d := f_pairings) rfl, ih]
    exact (S28 (ps n) vs).2
  | 29, vs => by
    rw [phi_some (d := f_count_buildings) rfl, ih]
    exact (S29 (ps n) vs).2
  | 30, vs => by
    rw [phi_some (d := f_is_built) rfl, ih]
    exact (S30 (ps n) vs).2
  | 31, vs => by
    rw [phi_some (d := f_building) rfl, ih]
    exact (S31 (ps n) vs).2
  | 32, vs => by
    rw [phi_some (d := f_row_of_building) rfl, ih]
    exact (S32 (ps n) vs).2
  | 33, vs => by
    rw [phi_some (d := f_many_buildings) rfl, ih]
    exact (S33 (ps n) vs).2
  | 34, vs => by
    rw [phi_some (d := f_built_paper) rfl, ih]
    exact (S34 (ps n) vs).2
  | 35, vs => by
    rw [phi_some (d := f_is_built_paper) rfl, ih]
    exact (S35 (ps n) vs).2
  | 36, vs => by
    rw [phi_some (d := f_want_lengths) rfl, ih]
    exact (S36 (ps n) vs).2
  | 37, vs => by
    rw [phi_some (d := f_longest_of) rfl, ih]
    exact (S37 (ps n) vs).2
  | 38, vs => by
    rw [phi_some (d := f_layers_of) rfl, ih]
    exact (S38 (ps n) vs).2
  | 39, vs => by
    rw [phi_some (d := f_row_by_layers) rfl, ih]
    exact (S39 (ps n) vs).2
  | 40, vs => by
    rw [phi_some (d := f_parts_beside) rfl, ih]
    exact (S40 (ps n) vs).2
  | 41, vs => by
    rw [phi_some (d := f_parts_above) rfl, ih]
    exact (S41 (ps n) vs).2
  | 42, vs => by
    rw [phi_some (d := f_longest_rising) rfl, ih]
    exact (S42 (ps n) vs).2
  | 43, vs => by
    rw [phi_some (d := f_longest_falling) rfl, ih]
    exact (S43 (ps n) vs).2
  | 44, vs => by
    rw [phi_some (d := f_layers) rfl, ih]
    exact (S44 (ps n) vs).2
  | 45, vs => by
    rw [phi_some (d := f_layered_row) rfl, ih]
    exact (S45 (ps n) vs).2
  | 46, vs => by
    rw [phi_some (d := f_layered_paper) rfl, ih]
    exact (S46 (ps n) vs).2
  | 47, vs => phi_none rfl
  | 48, vs => phi_none rfl
  | 49, vs => by
    rw [phi_some (d := f__law_pick) rfl, ih]
    exact (S49 (ps n) vs).2
  | 50, vs => by
    rw [phi_some (d := f__law_chain) rfl, ih]
    exact (S50 (ps n) vs).2
  | 51, vs => by
    rw [phi_some (d := f__law_lines_right) rfl, ih]
    exact (S51 (ps n) vs).2
  | 52, vs => by
    rw [phi_some (d := f__law_layers_right) rfl, ih]
    exact (S52 (ps n) vs).2
  | 53, vs => by
    rw [phi_some (d := f__law_barred_right) rfl, ih]
    exact (S53 (ps n) vs).2
  | 54, vs => by
    rw [phi_some (d := f__law_deep_right) rfl, ih]
    exact (S54 (ps n) vs).2
  | 55, vs => by
    rw [phi_some (d := f_law) rfl, ih]
    exact (S55 (ps n) vs).2
  | f + 56, vs => by
    rw [phi_none rfl]
    have h : Nat.ble 56 (f + 56) = true := Nat.ble_eq_true_of_le (by omega)
    show _ = (bif Nat.ble 56 (f + 56) then T.fail else _)
    rw [h]
    rfl
theorem phi_ps : ∀ n, phi tab n = ps n
  | 0 => rfl
  | n + 1 => funext fun f => funext fun vs => ps_step n (phi_ps n) f vs
end Hd

namespace Hd
open PySem PySem.Spec Ev
theorem e51 : isDraw (ps 39 51 [.pot]) 9 = true := by decide +kernel
theorem e51_0 : chkT (kid (ps 39 51 [.pot]) 0) = true := by decide +kernel
theorem e51_1 : chkT (kid (ps 39 51 [.pot]) 1) = true := by decide +kernel
theorem e51_2 : chkT (kid (ps 39 51 [.pot]) 2) = true := by decide +kernel
theorem e51_3 : chkT (kid (ps 39 51 [.pot]) 3) = true := by decide +kernel
theorem e51_4 : chkT (kid (ps 39 51 [.pot]) 4) = true := by decide +kernel
theorem e51_5 : chkT (kid (ps 39 51 [.pot]) 5) = true := by decide +kernel
theorem e51_6 : chkT (kid (ps 39 51 [.pot]) 6) = true := by decide +kernel
theorem e51_7 : chkT (kid (ps 39 51 [.pot]) 7) = true := by decide +kernel
theorem e51_8 : chkT (kid (ps 39 51 [.pot]) 8) = true := by decide +kernel
theorem a51 : TA (phi tab 39 51 [.pot]) := by
  rw [phi_ps 39]
  refine TA.of_chk (chk_kids e51 fun d hd => ?_)
  have : d = 0 ∨ d = 1 ∨ d = 2 ∨ d = 3 ∨ d = 4 ∨ d = 5 ∨ d = 6 ∨ d = 7 ∨ d = 8 := by omega
  rcases this with rfl | rfl | rfl | rfl | rfl | rfl | rfl | rfl | rfl
  · exact e51_0
  · exact e51_1
  · exact e51_2
  · exact e51_3
  · exact e51_4
  · exact e51_5
  · exact e51_6
  · exact e51_7
  · exact e51_8
theorem e52 : isDraw (ps 39 52 [.pot]) 9 = true := by decide +kernel
theorem e52_0 : chkT (kid (ps 39 52 [.pot]) 0) = true := by decide +kernel
theorem e52_1 : chkT (kid (ps 39 52 [.pot]) 1) = true := by decide +kernel
theorem e52_2 : chkT (kid (ps 39 52 [.pot]) 2) = true := by decide +kernel
theorem e52_3 : chkT (kid (ps 39 52 [.pot]) 3) = true := by decide +kernel
theorem e52_4 : chkT (kid (ps 39 52 [.pot]) 4) = true := by decide +kernel
theorem e52_5 : chkT (kid (ps 39 52 [.pot]) 5) = true := by decide +kernel
theorem e52_6 : chkT (kid (ps 39 52 [.pot]) 6) = true := by decide +kernel
theorem e52_7 : chkT (kid (ps 39 52 [.pot]) 7) = true := by decide +kernel
theorem e52_8 : chkT (kid (ps 39 52 [.pot]) 8) = true := by decide +kernel
theorem a52 : TA (phi tab 39 52 [.pot]) := by
  rw [phi_ps 39]
  refine TA.of_chk (chk_kids e52 fun d hd => ?_)
  have : d = 0 ∨ d = 1 ∨ d = 2 ∨ d = 3 ∨ d = 4 ∨ d = 5 ∨ d = 6 ∨ d = 7 ∨ d = 8 := by omega
  rcases this with rfl | rfl | rfl | rfl | rfl | rfl | rfl | rfl | rfl
  · exact e52_0
  · exact e52_1
  · exact e52_2
  · exact e52_3
  · exact e52_4
  · exact e52_5
  · exact e52_6
  · exact e52_7
  · exact e52_8
theorem e53 : isDraw (ps 39 53 [.pot]) 4 = true := by decide +kernel
theorem e53_0 : chkT (kid (ps 39 53 [.pot]) 0) = true := by decide +kernel
theorem e53_1 : chkT (kid (ps 39 53 [.pot]) 1) = true := by decide +kernel
theorem e53_2 : chkT (kid (ps 39 53 [.pot]) 2) = true := by decide +kernel
theorem e53_3 : chkT (kid (ps 39 53 [.pot]) 3) = true := by decide +kernel
theorem a53 : TA (phi tab 39 53 [.pot]) := by
  rw [phi_ps 39]
  refine TA.of_chk (chk_kids e53 fun d hd => ?_)
  have : d = 0 ∨ d = 1 ∨ d = 2 ∨ d = 3 := by omega
  rcases this with rfl | rfl | rfl | rfl
  · exact e53_0
  · exact e53_1
  · exact e53_2
  · exact e53_3
theorem e54 : isDraw (ps 39 54 [.pot]) 9 = true := by decide +kernel
theorem e54_0 : chkT (kid (ps 39 54 [.pot]) 0) = true := by decide +kernel
theorem e54_1 : chkT (kid (ps 39 54 [.pot]) 1) = true := by decide +kernel
theorem e54_2 : chkT (kid (ps 39 54 [.pot]) 2) = true := by decide +kernel
theorem e54_3 : chkT (kid (ps 39 54 [.pot]) 3) = true := by decide +kernel
theorem e54_4 : chkT (kid (ps 39 54 [.pot]) 4) = true := by decide +kernel
theorem e54_5 : chkT (kid (ps 39 54 [.pot]) 5) = true := by decide +kernel
theorem e54_6 : chkT (kid (ps 39 54 [.pot]) 6) = true := by decide +kernel
theorem e54_7 : chkT (kid (ps 39 54 [.pot]) 7) = true := by decide +kernel
theorem e54_8 : chkT (kid (ps 39 54 [.pot]) 8) = true := by decide +kernel
theorem a54 : TA (phi tab 39 54 [.pot]) := by
  rw [phi_ps 39]
  refine TA.of_chk (chk_kids e54 fun d hd => ?_)
  have : d = 0 ∨ d = 1 ∨ d = 2 ∨ d = 3 ∨ d = 4 ∨ d = 5 ∨ d = 6 ∨ d = 7 ∨ d = 8 := by omega
  rcases this with rfl | rfl | rfl | rfl | rfl | rfl | rfl | rfl | rfl
  · exact e54_0
  · exact e54_1
  · exact e54_2
  · exact e54_3
  · exact e54_4
  · exact e54_5
  · exact e54_6
  · exact e54_7
  · exact e54_8
end Hd

set_option maxHeartbeats 400000
namespace Hd
open PySem PySem.Spec Ev
theorem and_TA {Φ : Phi} (h1 : TA (Φ 51 [.pot])) (h2 : TA (Φ 52 [.pot])) (h3 : TA (Φ 53 [.pot])) (h4 : TA (Φ 54 [.pot])) (ns : List Int) : TA (Ev.run Φ f_law [.scr ns]) := by
  have c : ∀ (f : Nat), TA (Φ f [.pot]) → ∀ {P : Ev.R × Ev.Env → Prop}, P (Ev.R.sh (.bool true), [EV.scr ns, EV.pot]) → (ev Φ (.call f [.var 1] [.at 0]) [EV.scr ns, EV.pot]).All P := by
    intro f h P hp
    have e : ev Φ (.call f [.var 1] [.at 0]) [EV.scr ns, EV.pot] = (Φ f [.pot] >>= fun v => (match v with
      | .sh d => T.ret (Ev.R.sh d, [EV.scr ns, EV.pot])
      | .ow xs => .ret (.ow xs, [EV.scr ns, EV.pot])
      | .od kvs => .ret (.od kvs, [EV.scr ns, EV.pot])
      | .sd kvs => .ret (.sd kvs, [EV.scr ns, EV.pot])
      | _ => .fail)) := rfl
    rw [e, T.All_bind]
    refine h.out.mono fun v hv => ?_
    rw [hv]
    exact hp
  have a : ∀ (x y : Ex), (∀ {P : Ev.R × Ev.Env → Prop}, P (Ev.R.sh (.bool true), [EV.scr ns, EV.pot]) → (ev Φ x [EV.scr ns, EV.pot]).All P) → (∀ {P : Ev.R × Ev.Env → Prop}, P (Ev.R.sh (.bool true), [EV.scr ns, EV.pot]) → (ev Φ y [EV.scr ns, EV.pot]).All P) → ∀ {P : Ev.R × Ev.Env → Prop}, P (Ev.R.sh (.bool true), [EV.scr ns, EV.pot]) → (ev Φ (.and x y) [EV.scr ns, EV.pot]).All P := by
    intro x y hx hy P hp
    have e : ev Φ (.and x y) [EV.scr ns, EV.pot] = ((ev Φ x [EV.scr ns, EV.pot] >>= tst) >>= fun (t, e1) => if t then ev Φ y e1 else .ret (.sh (.bool false), e1)) := rfl
    rw [e, T.All_bind, T.All_bind]
    exact hx (hy hp)
  have e : Ev.run Φ f_law [.scr ns] = (((ev Φ (.and (.call 51 [.var 1] [.at 0]) (.and (.call 52 [.var 1] [.at 0]) (.and (.call 53 [.var 1] [.at 0]) (.call 54 [.var 1] [.at 0])))) [EV.scr ns, EV.pot] >>= fun (r, e1) => T.opt (r.back e1) >>= fun v => T.ret (Fl.ret v e1)) >>= fun (fl : Fl) => match fl with
      | .next e => exs Φ [] e
      | .brk e => .ret (.brk e)
      | .ret v e => .ret (.ret v e)) >>= fun (fl : Fl) => match fl with
    | .ret v _ => T.ret v
    | .next _ => .ret (.sh .none)
    | .brk _ => .fail) := rfl
  refine ⟨?_⟩
  rw [e, T.All_bind, T.All_bind, T.All_bind]
  exact a _ _ (c 51 h1) (a _ _ (c 52 h2) (a _ _ (c 53 h3) (c 54 h4))) rfl
theorem lawOk_of {m : Nat} {φ : List EV → T EV} (h : ∀ ns, TA (φ [.scr ns])) : LawOk m φ := ⟨fun ns _ => (h ns).out⟩
def lawN : Nat := 40
theorem law_ok : LawOk 63 (phi tab lawN 55) := lawOk_of fun ns => TA.of_eq (phi_some (n := 39) (d := f_law) rfl) (and_TA a51 a52 a53 a54 ns)
end Hd

set_option maxHeartbeats 0
namespace Hd
open PySem PySem.Spec PyProof.Rows L2 Ev
theorem prg {P : Program} {w : World} {K : PySem.W.Frag} {h : Heap} {mg : PySem.Str → Option Value} (X : K.In h) (G : h.Ns mainGlobals mg) (c : He.SaysX fa fns [] [] exB w h K) : ∃ fdo : PD → FuncData, ∀ base : Heap, Prg P w K mg base glb tab PL (fun p => He.fAd K p.d.at_) fdo := by
  have cd : He.SaysD fa fns K := c.t.d
  have glo : ∀ d ∈ fns, mg d.name = some (.ref (He.ga K d.name)) := fun d hd => He.glo_ok X G (cd.facts (f := .glo d.name) (List.mem_append_left _ (List.mem_map_of_mem hd)))
  have free : ∀ x ∈ blts, mg x = none := fun x hx => He.free_ok X G (cd.facts (f := .free x) (List.mem_append_right _ (List.mem_append_left _ (List.mem_map_of_mem hx))))
  obtain ⟨fdo, hF⟩ := defs_of (more := [d__law_pot, d__law_draw]) rfl cd
  have ats : ∀ p ∈ PL, p.d.at_ = (p.d.name, none) := by
    intro p hp
    simp only [PL, List.mem_append, List.mem_cons, List.not_mem_nil, or_false, or_assoc] at hp
    rcases hp with rfl | rfl | rfl | rfl | rfl | rfl | rfl | rfl | rfl | rfl | rfl | rfl | rfl | rfl | rfl | rfl | rfl | rfl | rfl | rfl | rfl | rfl | rfl | rfl | rfl | rfl | rfl | rfl | rfl | rfl | rfl | rfl | rfl | rfl | rfl | rfl | rfl | rfl | rfl | rfl | rfl | rfl | rfl | rfl | rfl | rfl | rfl | rfl | rfl | rfl | rfl | rfl | rfl | rfl <;> rfl
  have inF : ∀ p ∈ PL, p.d ∈ fns := fun p hp => List.mem_append_left _ (List.mem_map_of_mem hp)
  have drawM : d__law_draw ∈ fns := List.mem_append_right _ (by simp)
  have potM : d__law_pot ∈ fns := List.mem_append_right _ (by simp)
  have bx : ∀ x, x ∈ blts → mg x = none := free
  obtain ⟨fdD, FD⟩ := cd.defs drawM
  obtain ⟨fdP, FP⟩ := cd.defs potM
  refine ⟨fdo, fun base => ⟨fun p hp => ⟨hF p hp, ?_⟩, chks, tabs, shs hF, fun x hx => free x (of_decide_eq_true hx), fun x d hx => ?_, fun x hx => ?_, fun x hx => ?_⟩⟩
  · rw [glo p.d (inF p hp), ats p hp]
    rfl
  · have hx : ((cInts.any fun q => decide (q.1 = x) && datE (.int q.2) d) || (cStrs.any fun q => decide (q.1 = x) && datE (.str q.2) d) || (cTups.any fun q => decide (q.1 = x) && datE (.tuple q.2) d)) = true := hx
    rw [Bool.or_eq_true, Bool.or_eq_true] at hx
    rcases hx with (hx | hx) | hx
    · obtain ⟨q, hq, e⟩ := List.any_eq_true.mp hx
      simp only [Bool.and_eq_true, decide_eq_true_eq] at e
      rw [← e.1, ← datE_ok e.2]
      exact intC_ok X G (cd.facts (f := .int q.1 q.2) (List.mem_append_right _ (List.mem_append_right _ (List.mem_append_left _ (List.mem_map_of_mem hq)))))
    · obtain ⟨q, hq, e⟩ := List.any_eq_true.mp hx
      simp only [Bool.and_eq_true, decide_eq_true_eq] at e
      rw [← e.1, ← datE_ok e.2]
      exact strC_ok X G (cd.facts (f := .str q.1 q.2) (List.mem_append_right _ (List.mem_append_right _ (List.mem_append_right _ (List.mem_map_of_mem hq)))))
    · obtain ⟨q, hq, e⟩ := List.any_eq_true.mp hx
      simp only [Bool.and_eq_true, decide_eq_true_eq] at e
      rw [← e.1, ← datE_ok e.2]
      exact tupN_ok X G (List.all_eq_true.mp (show (cTups.all fun q => tupN K q.1 q.2) = true from c.more) q hq)
  · have hx : x = ("_law_draw" : PySem.Str) := of_decide_eq_true hx
    subst hx
    exact ⟨_, _, _, drawR FD (by kernel_rfl) (bx _ (by decide +kernel)) (bx _ (by decide +kernel)), glo d__law_draw drawM, FD.kp, rfl, FD.bindsN fun _ _ _ _ _ _ us hl => match us, hl with | [_, _], _ => rfl⟩
  · have hx : x = ("_law_pot" : PySem.Str) := of_decide_eq_true hx
    subst hx
    exact ⟨_, _, _, makeR2 FP (by kernel_rfl) (bx _ (by decide +kernel)) (bx _ (by decide +kernel)) (bx _ (by decide +kernel)) (bx _ (by decide +kernel)), glo d__law_pot potM, FP.kp, rfl, FP.bindsN fun _ _ _ _ _ _ us hl => match us, hl with | [_, _], _ => rfl⟩
end Hd

open PySem PySem.W PySem.Spec L2 PySem.Calls PyProof.Rows
theorem PySem.Challenge.cw_barredpatterns_k59_whole_known_built_row_holds : PySem.Challenge.rw_barredpatterns_k59_whole_known_built_row.Holds := by
  w_on; o_law
  refine HandSHeadRun.head_any (r := OpenLaw.row PySem.Challenge.rw_barredpatterns_k59_whole_known_built_row) (q := view (OpenLaw.row PySem.Challenge.rw_barredpatterns_k59_whole_known_built_row).prog [78]) (H := Hd.hk) (ob := Hd.ob) (M := 20000) (loose := Hd.loose) (d := HandSHeadRun.topDef (OpenLaw.row PySem.Challenge.rw_barredpatterns_k59_whole_known_built_row).prog 78) (kwd := []) Hd.ob_eq
    (by kernel_rfl) (fun s => by kernel_rfl) Hd.run (by kernel_rfl) (by kernel_rfl) (by kernel_rfl) (by rfl) (by first | assumption | decide +kernel) (by decide +kernel) ⟨rfl, rfl, rfl, rfl, rfl, by decide +kernel⟩ ?hw ?hc
  case hw => w_witness2
  case hc =>
    refine Ev.walk_ofG (l := PySem.Challenge.rw_barredpatterns_k59_whole_known_built_row) (n := 63) (k := Hd.lawN + 2) (x := "script") rfl (by decide) (by kernel_rfl) ⟨rfl, by decide +kernel, by decide +kernel⟩ ?F
    intro w mg fa h Y G hmg0
    obtain ⟨K, KX, c⟩ := Y
    have hmg : mg ("law" : PySem.Str) = some (.ref fa) := by
      have e : (HandSHeadRun.topDef (OpenLaw.row PySem.Challenge.rw_barredpatterns_k59_whole_known_built_row).prog 78).name = ("law" : PySem.Str) := by kernel_rfl
      rw [← e]
      exact hmg0
    have hm : Hd.p_law ∈ Hd.PL := by simp [Hd.PL]
    obtain ⟨fdo, R0⟩ := Hd.prg (P := (PySem.Challenge.rw_barredpatterns_k59_whole_known_built_row).prog) (w := w) KX G c
    have e := hmg.symm.trans ((R0 h).fn _ hm).2
    cases e
    have g3 := fun base : PySem.Heap => Ev.prg_ok (R0 base) Hd.lawN Hd.p_law hm
    have ei : Hd.p_law.id = 55 := rfl
    have ep : Hd.p_law.ps = [("script" : PySem.Str)] := rfl
    rw [ei, ep] at g3
    have g2 := @Ev.law_spg K 63 (Ev.phi Hd.tab Hd.lawN 55) Hd.law_ok
    generalize Ev.spOf K (Ev.phi Hd.tab Hd.lawN 55) = sp at g2 g3
    exact ⟨K, fdo Hd.p_law, sp, KX, fun s u => FunD.bindsA (ps := ["script"]) ((R0 h).fn _ hm).1 (fun _ _ _ _ _ _ us hl => match us, hl with | [_], _ => rfl) s [u] rfl, fun H a ns hl _ hS => g2 H a ns hl hS, fun base _ _ => g3 base⟩

