import PyProof.Rows.All
import Wide.All
import OpenK.AllK
import Wide.FinOn
import Lean
import PySem.Challenge.RW_sj0063_01
set_option Elab.async false
set_option linter.all false
set_option compiler.extract_closed false
set_option hygiene false
set_option genSizeOf false
set_option genSizeOfSpec false
set_option genInjectivity false
section
/-! The mini language: values, objects, expressions, statements, the interpreter. -/
namespace Mine
open PySem

inductive V where
  | non | bool (b : Bool) | int (i : Int) | str (k : Nat) | rng (n : Int)
  | tup (l : List V) | lst (l : List V) | loc (n : Nat) | fn (k : Nat) | clo (k : Nat) (l : List V)

inductive O where
  | list (l : List V) | dict (l : List (Int × V)) | inst (c : Nat) (fs : List (Nat × V)) | tab (l : List (Int × Int)) | dead

abbrev H := List O
abbrev Loc := List (Option V)

inductive B | add | sub | mul | fdiv | mod | shl | shr | band | bor | bxor
  deriving DecidableEq
inductive Cm | eq | ne | lt | le | gt | ge | isn | isnt | mem | nmem
  deriving DecidableEq
inductive Bi | len | int | list | tuple | range | min | max | abs | sorted
  deriving DecidableEq
inductive Kd | fn | cls (c : Nat) (init : Nat) | bi (b : Bi)

inductive Me | append | pop | reverse | index | get
  deriving DecidableEq

inductive X where
  | bad
  | var (i : Nat) | glob (k : Nat)
  | non | bool (b : Bool) | int (i : Int) | str (k : Nat)
  | bin (op : B) (a b : X)
  | neg (a : X) | not (a : X)
  | cmp (op : Cm) (a b : X)
  | cmp2 (op1 op2 : Cm) (a b c : X)
  | and (a b : X) | or (a b : X)
  | ite (c a b : X)
  | call (f : X) (as : List X)
  | meth (o : X) (n : Nat) (as : List X)
  | attr (o : X) (n : Nat)
  | sub (o i : X)
  | cut (o hi : X)
  | tup (l : List X) | list (l : List X) | dict0
  | comp (elt : X) (v : Nat) (it : X) (cond : X)
  | freeze (e : X)

inductive T where
  | name (i : Nat) | names (l : List Nat) | attr (o : X) (n : Nat) | sub (o i : X)

inductive S where
  | bad
  | expr (e : X)
  | asg (t : T) (e : X)
  | asgC (i : Nat) (fz : Bool) (elt : X) (v : Nat) (it : X) (cond : X)
  | aug (i : Nat) (op : B) (e : X)
  | augA (o : X) (n : Nat) (op : B) (e : X)
  | ite (c : X) (a b : List S)
  | whil (c : X) (b : List S)
  | for (t : T) (it : X) (b : List S)
  | ret (e : Option X)
  | cont | pass
  | defn (i : Nat) (k : Nat) (caps : List Nat) (line col : Int)

inductive Fl | next | cont | ret (v : V)

structure Fn where
  np : Nat
  ns : Nat
  nc : Nat
  body : List S

/-! ### combinators, each with its eliminator -/
theorem nn {β : Type} {r : β} {P : Prop} (e : (none : Option β) = some r) : P := nomatch e
section
variable {α β γ : Type}
noncomputable def onS (o : Option α) (f : α → Option β) : Option β := match o with
  | some a => f a
  | none => none
noncomputable def onP (o : Option (α × γ)) (f : α → γ → Option β) : Option β := match o with
  | some p => f p.1 p.2
  | none => none
noncomputable def onT (o : Option Bool) (f g : Option β) : Option β := match o with
  | some b => (match b with | true => f | false => g)
  | none => none
noncomputable def vI (v : V) (f : Int → Option β) : Option β := match v with
  | .int i => f i
  | _ => none
noncomputable def vL (v : V) (f : Nat → Option β) : Option β := match v with
  | .loc i => f i
  | _ => none
noncomputable def vT (v : V) (f : List V → Option β) : Option β := match v with
  | .tup i => f i
  | _ => none
noncomputable def vB (v : V) (f g : Option β) : Option β := match v with
  | .bool b => (match b with | true => f | false => g)
  | _ => none
/-- a list or a dict in the heap -/
noncomputable def oLD (o : Option O) (f : List V → Option β) (g : List (Int × V) → Option β) : Option β := match o with
  | some o => (match o with | .list l => f l | .dict l => g l | _ => none)
  | none => none
noncomputable def oN (_ : List α) : Option β := none
noncomputable def oI (o : Option O) (f : Nat → List (Nat × V) → Option β) : Option β := match o with
  | some o => (match o with | .inst c l => f c l | _ => none)
  | none => none
noncomputable def l0 (l : List α) (f : Option β) : Option β := match l with
  | [] => f
  | _ :: _ => none
noncomputable def l1 (l : List α) (f : α → Option β) : Option β := match l with
  | a :: r => l0 r (f a)
  | [] => none
noncomputable def l2 (l : List α) (f : α → α → Option β) : Option β := match l with
  | a :: r => l1 r (f a)
  | [] => none
variable {r : β} {P : Prop}
theorem onS_el {o : Option α} {f : α → Option β} (e : onS o f = some r) (k : ∀ a, o = some a → f a = some r → P) : P := by
  cases o with
  | none => exact nn e
  | some a => exact k a rfl e
theorem onP_el {o : Option (α × γ)} {f : α → γ → Option β} (e : onP o f = some r) (k : ∀ a h, o = some (a, h) → f a h = some r → P) : P := by
  cases o with
  | none => exact nn e
  | some a => exact k a.1 a.2 rfl e
theorem onT_el {o : Option Bool} {f g : Option β} (e : onT o f g = some r) (k1 : o = some true → f = some r → P) (k2 : o = some false → g = some r → P) : P := by
  cases o with
  | none => exact nn e
  | some b => cases b with
    | true => exact k1 rfl e
    | false => exact k2 rfl e
theorem vI_el {v : V} {f : Int → Option β} (e : vI v f = some r) (k : ∀ i, v = .int i → f i = some r → P) : P := by
  cases v with
  | int i => exact k i rfl e
  | _ => exact nn e
theorem vL_el {v : V} {f : Nat → Option β} (e : vL v f = some r) (k : ∀ i, v = .loc i → f i = some r → P) : P := by
  cases v with
  | loc i => exact k i rfl e
  | _ => exact nn e
theorem vT_el {v : V} {f : List V → Option β} (e : vT v f = some r) (k : ∀ i, v = .tup i → f i = some r → P) : P := by
  cases v with
  | tup i => exact k i rfl e
  | _ => exact nn e
theorem vB_el {v : V} {f g : Option β} (e : vB v f g = some r) (k1 : v = .bool true → f = some r → P) (k2 : v = .bool false → g = some r → P) : P := by
  cases v with
  | bool b => cases b with
    | true => exact k1 rfl e
    | false => exact k2 rfl e
  | _ => exact nn e
theorem oLD_el {o : Option O} {f : List V → Option β} {g : List (Int × V) → Option β} (e : oLD o f g = some r) (k1 : ∀ l, o = some (.list l) → f l = some r → P) (k2 : ∀ l, o = some (.dict l) → g l = some r → P) : P := by
  cases o with
  | none => exact nn e
  | some o => cases o with
    | list l => exact k1 l rfl e
    | dict l => exact k2 l rfl e
    | _ => exact nn e
theorem oLN_el {o : Option O} {f : List V → Option β} (e : oLD o f oN = some r) (k1 : ∀ l, o = some (.list l) → f l = some r → P) : P := oLD_el e k1 fun _ _ e => nn e
theorem oI_el {o : Option O} {f : Nat → List (Nat × V) → Option β} (e : oI o f = some r) (k : ∀ c l, o = some (.inst c l) → f c l = some r → P) : P := by
  cases o with
  | none => exact nn e
  | some o => cases o with
    | inst c l => exact k c l rfl e
    | _ => exact nn e
theorem l0_el {l : List α} {f : Option β} (e : l0 l f = some r) (k : l = [] → f = some r → P) : P := by
  cases l with
  | nil => exact k rfl e
  | cons a l => exact nn e
theorem l1_el {l : List α} {f : α → Option β} (e : l1 l f = some r) (k : ∀ a, l = [a] → f a = some r → P) : P := by
  cases l with
  | nil => exact nn e
  | cons a l => exact l0_el e fun q => k a (q ▸ rfl)
theorem l2_el {l : List α} {f : α → α → Option β} (e : l2 l f = some r) (k : ∀ a b, l = [a, b] → f a b = some r → P) : P := by
  cases l with
  | nil => exact nn e
  | cons a l => exact l1_el e fun b q => k a b (q ▸ rfl)
theorem if_el {c : Prop} [Decidable c] {f : Option β} (e : (if c then f else none) = some r) (k : c → f = some r → P) : P := by
  by_cases q : c
  · rw [if_pos q] at e; exact k q e
  · rw [if_neg q] at e; exact nn e
@[elab_as_elim] theorem some_el {P : β → Prop} {a : β} (e : some a = some r) (k : P a) : P r := Option.some.inj e ▸ k
@[elab_as_elim] theorem pair_el {P : α → γ → Prop} {a b : α} {c d : γ} (e : some (a, c) = some (b, d)) (k : P a c) : P b d := (Prod.mk.inj (Option.some.inj e)).1 ▸ (Prod.mk.inj (Option.some.inj e)).2 ▸ k
@[elab_as_elim] theorem trip_el {δ : Type} {P : α → γ → δ → Prop} {a b : α} {c d : γ} {x y : δ} (e : some (a, c, x) = some (b, d, y)) (k : P a c x) : P b d y := by cases e; exact k
theorem onS_mk {o : Option α} {f : α → Option β} {a : α} (e : o = some a) (k : f a = some r) : onS o f = some r := by rw [e]; exact k
theorem onP_mk {o : Option (α × γ)} {f : α → γ → Option β} {a : α} {h : γ} (e : o = some (a, h)) (k : f a h = some r) : onP o f = some r := by rw [e]; exact k
theorem onPI_mk {o : Option (V × H)} {f : Int → H → Option β} {a : Int} {h : H} (e : o = some (.int a, h)) (k : f a h = some r) : (onP o fun v h => vI v fun a => f a h) = some r := by rw [e]; exact k
theorem onPL_mk {o : Option (V × H)} {f : Nat → H → Option β} {a : Nat} {h : H} (e : o = some (.loc a, h)) (k : f a h = some r) : (onP o fun v h => vL v fun a => f a h) = some r := by rw [e]; exact k
theorem onSI_mk {o : Option V} {f : Int → Option β} {a : Int} (e : o = some (.int a)) (k : f a = some r) : (onS o fun v => vI v f) = some r := by rw [e]; exact k
theorem onPI_el {o : Option (V × H)} {f : Int → H → Option β} (e : (onP o fun v h => vI v fun a => f a h) = some r) (k : ∀ a h, o = some (.int a, h) → f a h = some r → P) : P :=
  onP_el e fun v h q e => vI_el e fun a qa e => k a h (qa ▸ q) e
theorem onPL_el {o : Option (V × H)} {f : Nat → H → Option β} (e : (onP o fun v h => vL v fun a => f a h) = some r) (k : ∀ a h, o = some (.loc a, h) → f a h = some r → P) : P :=
  onP_el e fun v h q e => vL_el e fun a qa e => k a h (qa ▸ q) e
theorem onT_t {o : Option Bool} {f g : Option β} (e : o = some true) (k : f = some r) : onT o f g = some r := by rw [e]; exact k
theorem onT_f {o : Option Bool} {f g : Option β} (e : o = some false) (k : g = some r) : onT o f g = some r := by rw [e]; exact k
theorem oL_mk {o : Option O} {f : List V → Option β} {g : List (Int × V) → Option β} {l : List V} (e : o = some (.list l)) (k : f l = some r) : oLD o f g = some r := by rw [e]; exact k
theorem oD_mk {o : Option O} {f : List V → Option β} {g : List (Int × V) → Option β} {l : List (Int × V)} (e : o = some (.dict l)) (k : g l = some r) : oLD o f g = some r := by rw [e]; exact k
theorem oI_mk {o : Option O} {f : Nat → List (Nat × V) → Option β} {c : Nat} {l : List (Nat × V)} (e : o = some (.inst c l)) (k : f c l = some r) : oI o f = some r := by rw [e]; exact k
theorem if_mk {c : Prop} [Decidable c] {f : Option β} (e : c) (k : f = some r) : (if c then f else none) = some r := by rw [if_pos e]; exact k
end
/-! ### operations -/
noncomputable def binop (op : B) (a b : Int) : Option Int := match op with
  | .add => some (a + b)
  | .sub => some (a - b)
  | .mul => if a.natAbs < 2 ^ 63 ∨ b.natAbs < 2 ^ 63 then some (a * b) else none
  | .fdiv => if 0 < b ∧ b < 2 ^ 63 then some (a.fdiv b) else none
  | .mod => if 0 < b then some (a.fmod b) else none
  | .shl => if 0 ≤ b ∧ b ≤ 1000 ∧ a.natAbs < 2 ^ 63 then some (a * 2 ^ b.toNat) else none
  | .shr => if 0 ≤ b then some (a.fdiv (2 ^ b.toNat)) else none
  | .band => some (Builtin.bitAnd a b)
  | .bor => some (Builtin.bitOr a b)
  | .bxor => some (Builtin.bitXor a b)

noncomputable def intL : List V → Option (List Int)
  | [] => some []
  | v :: r => vI v fun i => onS (intL r) fun l => some (i :: l)
noncomputable def vStr {β : Type} (v : V) (f : Nat → Option β) : Option β := match v with
  | .str i => f i
  | _ => none
theorem vStr_el {β : Type} {r : β} {P : Prop} {v : V} {f : Nat → Option β} (e : vStr v f = some r) (k : ∀ i, v = .str i → f i = some r → P) : P := by
  cases v with
  | str i => exact k i rfl e
  | _ => exact nn e
noncomputable def strL : List V → Option (List Nat)
  | [] => some []
  | v :: r => vStr v fun i => onS (strL r) fun l => some (i :: l)
noncomputable def vLst {β : Type} (v : V) (f : List V → Option β) : Option β := match v with
  | .lst i => f i
  | _ => none
theorem vLst_el {β : Type} {r : β} {P : Prop} {v : V} {f : List V → Option β} (e : vLst v f = some r) (k : ∀ i, v = .lst i → f i = some r → P) : P := by
  cases v with
  | lst i => exact k i rfl e
  | _ => exact nn e
noncomputable def eqInts (a b : List V) : Option Bool := onS (intL a) fun x => onS (intL b) fun y => some (x == y)
noncomputable def vBool {β : Type} (v : V) (f : Bool → Option β) : Option β := match v with
  | .bool i => f i
  | _ => none
theorem vBool_el {β : Type} {r : β} {P : Prop} {v : V} {f : Bool → Option β} (e : vBool v f = some r) (k : ∀ i, v = .bool i → f i = some r → P) : P := by
  cases v with
  | bool i => exact k i rfl e
  | _ => exact nn e
noncomputable def veq (v w : V) : Option Bool := match v with
  | .int a => vI w fun b => some (a == b)
  | .bool a => vBool w fun b => some (a == b)
  | .str a => vStr w fun b => some (a == b)
  | .tup a => vT w fun b => eqInts a b
  | .lst a => vLst w fun b => eqInts a b
  | _ => none

noncomputable def V.isNone (v : V) : Bool := match v with
  | .non => true
  | _ => false

/-- the items of a list, frozen or in the heap -/
noncomputable def listOf (v : V) (h : H) : Option (List V) := match v with
  | .lst l => some l
  | .loc n => oLD h[n]? some oN
  | _ => none

noncomputable def getKV (kv : List (Int × V)) (k : Int) : Option V := (kv.find? fun p => decide (p.1 = k)).map (·.2)

noncomputable def memL (a : V) (is : List Int) : Option Bool := match a with
  | .int i => some (is.contains i)
  | .non => some false
  | _ => none
noncomputable def mem (a b : V) (h : H) : Option Bool := match b with
  | .tup l => vStr a fun k => onS (strL l) fun ks => some (ks.contains k)
  | .loc n => oLD h[n]? (fun l => onS (intL l) (memL a)) fun kv => vI a fun i => some ((getKV kv i).isSome)
  | _ => none
noncomputable def int2 (a b : V) (f : Int → Int → Bool) : Option Bool := vI a fun x => vI b fun y => some (f x y)
noncomputable def neg1 (o : Option Bool) : Option Bool := onS o fun b => some (!b)

noncomputable def cmpop (op : Cm) (a b : V) (h : H) : Option Bool := match op with
  | .eq => veq a b
  | .ne => neg1 (veq a b)
  | .isn => if b.isNone then some a.isNone else none
  | .isnt => if b.isNone then some (!a.isNone) else none
  | .mem => mem a b h
  | .nmem => neg1 (mem a b h)
  | .lt => int2 a b fun x y => decide (x < y)
  | .le => int2 a b fun x y => decide (x ≤ y)
  | .gt => int2 a b fun x y => decide (x > y)
  | .ge => int2 a b fun x y => decide (x ≥ y)

noncomputable def truth (v : V) : Option Bool := match v with
  | .bool b => some b
  | .int i => some (i != 0)
  | _ => none

noncomputable def seqItem (l : List V) (i : Int) : Option V :=
  if 0 ≤ i then l[i.toNat]? else if i = -1 then l.getLast? else none

noncomputable def subscr (o i : V) (h : H) : Option V := match o with
  | .tup l => vI i fun i => if 0 ≤ i then l[i.toNat]? else none
  | .lst l => vI i (seqItem l)
  | .loc n => vI i fun i => oLD h[n]? (fun l => seqItem l i) fun kv => getKV kv i
  | _ => none

noncomputable def insertInt (x : Int) : List Int → List Int
  | [] => [x]
  | y :: r => if x ≤ y then x :: y :: r else y :: insertInt x r
noncomputable def sortInts : List Int → List Int
  | [] => []
  | x :: r => insertInt x (sortInts r)
noncomputable def minInts : Int → List Int → Int
  | m, [] => m
  | m, x :: r => minInts (if x < m then x else m) r
/-- the least of a list that is not empty -/
noncomputable def minOf (l : List Int) (h : H) : Option (V × H) := match l with
  | x :: r => some (.int (minInts x r), h)
  | [] => none

noncomputable def setKV (kv : List (Int × V)) (k : Int) (v : V) : List (Int × V) :=
  if kv.any (fun p => decide (p.1 = k)) then kv.map (fun p => if p.1 = k then (p.1, v) else p) else kv ++ [(k, v)]
noncomputable def delKV (kv : List (Int × V)) (k : Int) : List (Int × V) := kv.filter fun p => decide (p.1 ≠ k)
noncomputable def setF (fs : List (Nat × V)) (k : Nat) (v : V) : List (Nat × V) := match fs with
  | [] => [(k, v)]
  | (k', v') :: r => if k' = k then (k', v) :: r else (k', v') :: setF r k v

noncomputable def biLen (v : V) (h : H) : Option (V × H) := match v with
  | .tup l => some (.int l.length, h)
  | .lst l => some (.int l.length, h)
  | .loc n => oLD h[n]? (fun l => some (.int l.length, h)) fun l => some (.int l.length, h)
  | _ => none
noncomputable def biMin1 (v : V) (h : H) : Option (V × H) := match v with
  | .lst l => onS (intL l) fun is => minOf is h
  | .loc n => oLD h[n]? oN fun kv => minOf (kv.map (·.1)) h
  | _ => none
noncomputable def newSorted (is : List Int) (h : H) : Option (V × H) := if is.length < 64 then some (.loc h.length, h ++ [.list ((sortInts is).map .int)]) else none
noncomputable def two (as : List V) (f : Int → Int → Int) (h : H) : Option (V × H) := l2 as fun a b => vI a fun a => vI b fun b => some (.int (f a b), h)
noncomputable def isTwo (as : List V) : Bool := match as with
  | _ :: r => !r.isEmpty
  | [] => false
noncomputable def builtin (b : Bi) (as : List V) (h : H) : Option (V × H) := match b with
  | .len => l1 as fun v => biLen v h
  | .int => l1 as fun v => vI v fun i => some (.int i, h)
  | .list => l1 as fun v => onS (listOf v h) fun l => some (.loc h.length, h ++ [.list l])
  | .tuple => l1 as fun v => onS (listOf v h) fun l => some (.tup l, h)
  | .range => l1 as fun v => vI v fun n => if -1000000 ≤ n ∧ n ≤ 1000000 then some (.rng n, h) else none
  | .min => match isTwo as with
    | true => two as (fun a b => if b < a then b else a) h
    | false => l1 as fun v => biMin1 v h
  | .max => two as (fun a b => if b > a then b else a) h
  | .abs => l1 as fun v => vI v fun i => some (.int (if i < 0 then -i else i), h)
  | .sorted => l1 as fun v => vL v fun n => oLD h[n]? (fun l => onS (intL l) fun is => newSorted is h) fun kv => newSorted (kv.map (·.1)) h

/-- a built-in method of a list or a dict -/
noncomputable def popL (n : Nat) (as : List V) (l : List V) (h : H) : Option (V × H) := match as with
  | [] => onS l.getLast? fun v => some (v, h.set n (.list l.dropLast))
  | _ :: _ => l1 as fun v => vI v fun i => if 0 ≤ i then onS l[i.toNat]? fun v => some (v, h.set n (.list (l.eraseIdx i.toNat))) else none
noncomputable def popD (n : Nat) (as : List V) (kv : List (Int × V)) (h : H) : Option (V × H) := l1 as fun v => vI v fun i => onS (getKV kv i) fun v => some (v, h.set n (.dict (delKV kv i)))
noncomputable def biMeth (me : Me) (n : Nat) (as : List V) (h : H) : Option (V × H) := match me with
  | .append => oLD h[n]? (fun l => l1 as fun v => if l.length < 1000000 then some (.non, h.set n (.list (l ++ [v]))) else none) oN
  | .pop => oLD h[n]? (fun l => popL n as l h) fun kv => popD n as kv h
  | .reverse => oLD h[n]? (fun l => l0 as (some (.non, h.set n (.list l.reverse)))) oN
  | .index => oLD h[n]? (fun l => l1 as fun v => vI v fun i => onS (intL l) fun is => if is.contains i then some (.int (is.idxOf i), h) else none) oN
  | .get => oLD h[n]? oN fun kv => l1 as fun v => vI v fun i => some ((getKV kv i).getD .non, h)

/-- which methods a list (or a dict) has here -/
noncomputable def meOn (me : Me) (b : Bool) : Bool := match me with
  | .append => b
  | .pop => true
  | .reverse => b
  | .index => b
  | .get => !b
noncomputable def isListAt (h : H) (n : Nat) : Bool := (oLD h[n]? (fun _ => some ()) oN).isSome

section
variable (kind : Nat → Option Kd) (meTab : Nat → Option Me) (clsMeth : Nat → Nat → Option Nat)
abbrev Callee := Nat → List V → H → Option (V × H)
variable (c : Callee)

noncomputable def made (o : Option (V × H)) (l : Nat) : Option (V × H) := onP o fun v h => if v.isNone then some (.loc l, h) else none
noncomputable def callK (k : Nat) (kd : Kd) (as : List V) (h : H) : Option (V × H) := match kd with
  | .fn => c k as h
  | .cls C init => made (c init (.loc h.length :: as) (h ++ [.inst C []])) h.length
  | .bi b => builtin b as h
noncomputable def callV (f : V) (as : List V) (h : H) : Option (V × H) := match f with
  | .fn k => onS (kind k) fun kd => callK c k kd as h
  | .clo k cap => c k (as ++ cap) h
  | _ => none

inductive Mt where
  | fn (k : Nat) (self : Nat) | val (v : V) | bi (me : Me) (n : Nat) (b : Bool)
noncomputable def instMeth (n l : Nat) (fs : List (Nat × V)) (m : Option Nat) : Option Mt := match m with
  | some k => if (fs.lookup n).isNone then some (.fn k l) else none
  | none => onS (fs.lookup n) fun v => some (.val v)
noncomputable def biM (n l : Nat) (b : Bool) : Option Mt := onS (meTab n) fun me => if meOn me b then some (.bi me l b) else none
noncomputable def objMeth (l n : Nat) (o : O) : Option Mt := match o with
  | .inst C fs => instMeth n l fs (clsMeth C n)
  | .list _ => biM meTab n l true
  | .dict _ => biM meTab n l false
  | _ => none
noncomputable def getMeth (o : V) (n : Nat) (h : H) : Option Mt := vL o fun l => onS h[l]? (objMeth meTab clsMeth l n)
noncomputable def callMt (t : Mt) (as : List V) (h : H) : Option (V × H) := match t with
  | .fn k l => c k (.loc l :: as) h
  | .val v => callV kind c v as h
  | .bi me n b => if isListAt h n = b then biMeth me n as h else none

noncomputable def iterOf (v : V) : Option (List V) := match v with
  | .tup l => some l
  | .lst l => some l
  | .rng n => some ((List.range n.toNat).map fun (i : Nat) => V.int i)
  | _ => none

/-- a comprehension over values that stand still -/
noncomputable def compVals (st : V → H → Option H) : List V → H → Option H
  | [], h => some h
  | v :: r, h => onS (st v h) (compVals st r)
/-- a comprehension over a list in the heap -/
noncomputable def compAt (o : Option V) (h : H) (f : V → Option H) : Option H := match o with
  | none => some h
  | some v => f v
noncomputable def compLoc (st : V → H → Option H) (n : Nat) : Nat → Nat → H → Option H
  | 0, _, _ => none
  | f + 1, i, h => oLD h[n]? (fun l => compAt l[i]? h fun v => onS (st v h) (compLoc st n f (i + 1))) oN
noncomputable def compIt (st : V → H → Option H) (v : V) (h : H) : Option H := match v with
  | .loc n => compLoc st n 1000 0 h
  | v => onS (iterOf v) fun vs => compVals st vs h
noncomputable def pushed (n : Nat) (y : V) (h : H) : Option H := oLD h[n]? (fun l => if l.length < 1000000 then some (h.set n (.list (l ++ [y]))) else none) oN
/-- one turn: the test, the element, the push -/
noncomputable def compTurn (n : Nat) (test : V → H → Option (Bool × H)) (elt : V → H → Option (V × H)) (x : V) (h : H) : Option H :=
  onP (test x h) fun b h1 => match b with
    | true => onP (elt x h1) (pushed n)
    | false => some h1
noncomputable def tested (o : Option (V × H)) : Option (Bool × H) := onP o fun v h => onS (truth v) fun b => some (b, h)

theorem tested_mk {o : Option (V × H)} {v : V} {h : H} {b : Bool} (e : o = some (v, h)) (eb : truth v = some b) : tested o = some (b, h) := onP_mk e (onS_mk eb rfl)
theorem tested_el {o : Option (V × H)} {b : Bool} {h : H} {P : Prop} (e : tested o = some (b, h)) (k : ∀ v, o = some (v, h) → truth v = some b → P) : P :=
  onP_el e fun v h1 q e => onS_el e fun b' qb e => by cases e; exact k v q qb
theorem compTurn_f {n : Nat} {test : V → H → Option (Bool × H)} {elt : V → H → Option (V × H)} {x : V} {h h1 : H} (e : test x h = some (false, h1)) : compTurn n test elt x h = some h1 := by unfold compTurn; rw [e]; rfl
theorem compTurn_t {n : Nat} {test : V → H → Option (Bool × H)} {elt : V → H → Option (V × H)} {x y : V} {h h1 h2 : H} {l : List V} (e : test x h = some (true, h1)) (e2 : elt x h1 = some (y, h2)) (e3 : h2[n]? = some (.list l)) (g : l.length < 1000000) :
    compTurn n test elt x h = some (h2.set n (.list (l ++ [y]))) := by
  unfold compTurn; rw [e]
  show onP (elt x h1) (pushed n) = _
  exact onP_mk e2 (oL_mk e3 (if_mk g rfl))

theorem compTurn_el {n : Nat} {test : V → H → Option (Bool × H)} {elt : V → H → Option (V × H)} {x : V} {h h' : H} {P : Prop} (e : compTurn n test elt x h = some h') (k1 : test x h = some (false, h') → P)
    (k2 : ∀ h1 y h2 l, test x h = some (true, h1) → elt x h1 = some (y, h2) → h2[n]? = some (.list l) → l.length < 1000000 → h' = h2.set n (.list (l ++ [y])) → P) : P :=
  onP_el e fun b h1 e1 e => by
    cases b with
    | false => exact k1 (e1.trans (congrArg (fun h => some (false, h)) (Option.some.inj e)))
    | true => exact onP_el (show onP (elt x h1) (pushed n) = some h' from e) fun y h2 e2 e => oLN_el e fun l e3 e => if_el e fun g e => k2 h1 y h2 l e1 e2 e3 g (Option.some.inj e).symm

mutual
noncomputable def evalX : X → Loc → H → Option (V × H)
  | .bad, _, _ => none
  | .var i, m, h => onS m[i]? fun o => onS o fun v => some (v, h)
  | .glob k, _, h => some (.fn k, h)
  | .non, _, h => some (.non, h)
  | .bool b, _, h => some (.bool b, h)
  | .int i, _, h => some (.int i, h)
  | .str k, _, h => some (.str k, h)
  | .bin op a b, m, h => onP (evalX a m h) fun x h1 => vI x fun x => onP (evalX b m h1) fun y h2 => vI y fun y => onS (binop op x y) fun z => some (.int z, h2)
  | .neg a, m, h => onP (evalX a m h) fun x h1 => vI x fun x => some (.int (-x), h1)
  | .not a, m, h => onP (evalX a m h) fun v h1 => onS (truth v) fun b => some (.bool (!b), h1)
  | .cmp op a b, m, h => onP (evalX a m h) fun x h1 => onP (evalX b m h1) fun y h2 => onS (cmpop op x y h2) fun z => some (.bool z, h2)
  | .cmp2 op1 op2 a b d, m, h => onP (evalX a m h) fun x h1 => onP (evalX b m h1) fun y h2 => onT (cmpop op1 x y h2)
      (onP (evalX d m h2) fun z h3 => onS (cmpop op2 y z h3) fun r => some (.bool r, h3)) (some (.bool false, h2))
  | .and a b, m, h => onP (evalX a m h) fun v h1 => vB v (evalX b m h1) (some (.bool false, h1))
  | .or a b, m, h => onP (evalX a m h) fun v h1 => vB v (some (.bool true, h1)) (evalX b m h1)
  | .ite e a b, m, h => onP (evalX e m h) fun v h1 => onT (truth v) (evalX a m h1) (evalX b m h1)
  | .call f as, m, h => onP (evalX f m h) fun fv h1 => onP (evalXs as m h1) fun vs h2 => callV kind c fv vs h2
  | .meth o n as, m, h => onP (evalX o m h) fun ov h1 => onS (getMeth meTab clsMeth ov n h1) fun t => onP (evalXs as m h1) fun vs h2 => callMt kind c t vs h2
  | .attr o n, m, h => onP (evalX o m h) fun v h1 => vL v fun l => oI h1[l]? fun C fs => if (clsMeth C n).isNone then onS (fs.lookup n) fun v => some (v, h1) else none
  | .sub o i, m, h => onP (evalX o m h) fun ov h1 => onP (evalX i m h1) fun iv h2 => onS (subscr ov iv h2) fun v => some (v, h2)
  | .cut o hi, m, h => onP (evalX o m h) fun ov h1 => onP (evalX hi m h1) fun v h2 => vI v fun k => onS (listOf ov h2) fun l =>
      if 0 ≤ k ∧ k ≤ 1000000 then some (.loc h2.length, h2 ++ [.list (l.take k.toNat)]) else none
  | .tup l, m, h => onP (evalXs l m h) fun vs h1 => if vs.length ≤ 100 then some (.tup vs, h1) else none
  | .list l, m, h => onP (evalXs l m h) fun vs h1 => if vs.length ≤ 100 then some (.loc h1.length, h1 ++ [.list vs]) else none
  | .dict0, _, h => some (.loc h.length, h ++ [.dict []])
  | .comp elt v it cond, m, h => onP (evalX it m h) fun iv h1 =>
      onS (compIt (compTurn h1.length (fun x h => tested (evalX cond (m.set v (some x)) h)) (fun x h => evalX elt (m.set v (some x)) h)) iv (h1 ++ [.list []])) fun h2 => some (.loc h1.length, h2)
  | .freeze e, m, h => onP (evalX e m h) fun v h1 => vL v fun n => oLD h1[n]? (fun l => some (.lst l, h1.set n .dead)) oN
noncomputable def evalXs : List X → Loc → H → Option (List V × H)
  | [], _, h => some ([], h)
  | e :: r, m, h => onP (evalX e m h) fun v h1 => onP (evalXs r m h1) fun vs h2 => some (v :: vs, h2)
end

/-- what a flow does in a loop: it leaves it, or the next turn comes -/
noncomputable def onF {β : Type} (o : Option (Fl × Loc × H)) (f : V → Loc → H → Option β) (g : Loc → H → Option β) : Option β := onP o fun fl p => match fl with
  | .ret x => f x p.1 p.2
  | _ => g p.1 p.2
theorem onF_el {β : Type} {r : β} {P : Prop} {o : Option (Fl × Loc × H)} {f : V → Loc → H → Option β} {g : Loc → H → Option β} (e : onF o f g = some r)
    (k1 : ∀ x m h, o = some (.ret x, m, h) → f x m h = some r → P) (k2 : ∀ fl m h, o = some (fl, m, h) → (fl = .next ∨ fl = .cont) → g m h = some r → P) : P :=
  onP_el e fun fl p q e => by
    obtain ⟨m, h⟩ := p
    cases fl with
    | ret x => exact k1 x m h q e
    | next => exact k2 _ m h q (.inl rfl) e
    | cont => exact k2 _ m h q (.inr rfl) e
theorem onF_ret {β : Type} {r : β} {o : Option (Fl × Loc × H)} {f : V → Loc → H → Option β} {g : Loc → H → Option β} {x : V} {m : Loc} {h : H} (e : o = some (.ret x, m, h)) (k : f x m h = some r) : onF o f g = some r := by rw [e]; exact k
theorem onF_go {β : Type} {r : β} {o : Option (Fl × Loc × H)} {f : V → Loc → H → Option β} {g : Loc → H → Option β} {fl : Fl} {m : Loc} {h : H} (e : o = some (fl, m, h)) (q : fl = .next ∨ fl = .cont) (k : g m h = some r) : onF o f g = some r := by
  rw [e]
  rcases q with rfl | rfl <;> exact k
noncomputable def left (x : V) (m : Loc) (h : H) : Option (Fl × Loc × H) := some (.ret x, m, h)
/-- a for over values that stand still -/
noncomputable def forVals (step : V → Loc → H → Option (Fl × Loc × H)) : List V → Loc → H → Option (Fl × Loc × H)
  | [], m, h => some (.next, m, h)
  | v :: r, m, h => onF (step v m h) left (forVals step r)
theorem forVals_cons {step : V → Loc → H → Option (Fl × Loc × H)} {v : V} {r : List V} {m : Loc} {h : H} : forVals step (v :: r) m h = onF (step v m h) left (forVals step r) := rfl
noncomputable def whileN (test : Loc → H → Option (Bool × H)) (body : Loc → H → Option (Fl × Loc × H)) : Nat → Loc → H → Option (Fl × Loc × H)
  | 0, _, _ => none
  | n + 1, m, h => onP (test m h) fun b h1 => match b with
    | true => onF (body m h1) left (whileN test body n)
    | false => some (.next, m, h1)
theorem whileN_f {test : Loc → H → Option (Bool × H)} {body : Loc → H → Option (Fl × Loc × H)} {n : Nat} {m : Loc} {h h1 : H} (e : test m h = some (false, h1)) : whileN test body (n + 1) m h = some (.next, m, h1) := by rw [whileN, e]; rfl
theorem whileN_t {test : Loc → H → Option (Bool × H)} {body : Loc → H → Option (Fl × Loc × H)} {n : Nat} {m : Loc} {h h1 : H} (e : test m h = some (true, h1)) : whileN test body (n + 1) m h = onF (body m h1) left (whileN test body n) := by rw [whileN, e]; rfl
noncomputable def setNames : List Nat → List V → Loc → Option Loc
  | [], l, m => l0 l (some m)
  | i :: r, l, m => match l with
    | [] => none
    | v :: vs => if i < m.length then setNames r vs (m.set i (some v)) else none
noncomputable def caps (m : Loc) : List Nat → Option (List V)
  | [] => some []
  | i :: r => onS m[i]? fun o => onS o fun v => onS (caps m r) fun l => some (v :: l)
/-- to store in a target -/
noncomputable def store (t : T) (v : V) (m : Loc) (h : H) : Option (Loc × H) := match t with
  | .name i => if i < m.length then some (m.set i (some v), h) else none
  | .names l => vT v fun vs => onS (setNames l vs m) fun m => some (m, h)
  | .attr o n => onP (evalX kind meTab clsMeth c o m h) fun u h1 => vL u fun l => oI h1[l]? fun C fs => if (clsMeth C n).isNone ∧ fs.length < 100 then some (m, h1.set l (.inst C (setF fs n v))) else none
  | .sub o i => onP (evalX kind meTab clsMeth c o m h) fun u h1 => vL u fun l => onP (evalX kind meTab clsMeth c i m h1) fun w h2 => vI w fun k => oLD h2[l]?
      (fun vs => if 0 ≤ k ∧ k.toNat < vs.length then some (m, h2.set l (.list (vs.set k.toNat v))) else none)
      fun kv => if kv.length < 1000000 then some (m, h2.set l (.dict (setKV kv k v))) else none

/-- the flow behind a statement -/
noncomputable def onN (o : Option (Fl × Loc × H)) (g : Loc → H → Option (Fl × Loc × H)) : Option (Fl × Loc × H) := onP o fun fl p => match fl with
  | .next => g p.1 p.2
  | fl => some (fl, p)
theorem onN_el {r : Fl × Loc × H} {P : Prop} {o : Option (Fl × Loc × H)} {g : Loc → H → Option (Fl × Loc × H)} (e : onN o g = some r)
    (k1 : o = some r → r.1 ≠ .next → P) (k2 : ∀ m h, o = some (.next, m, h) → g m h = some r → P) : P :=
  onP_el e fun fl p q e => by
    obtain ⟨m, h⟩ := p
    cases fl with
    | next => exact k2 m h q e
    | ret x => cases e; exact k1 q nofun
    | cont => cases e; exact k1 q nofun
noncomputable def oTab {β : Type} (o : Option O) (f : List (Int × Int) → Option β) : Option β := onS o fun o => match o with
  | .tab l => f l
  | _ => none
theorem oTab_el {β : Type} {r : β} {P : Prop} {o : Option O} {f : List (Int × Int) → Option β} (e : oTab o f = some r) (k : ∀ l, o = some (.tab l) → f l = some r → P) : P :=
  onS_el e fun o q e => by
    cases o with
    | tab l => exact k l q e
    | _ => exact nn e
noncomputable def fldOf (m : Option Nat) (fs : List (Nat × V)) (n : Nat) : Option V := if m.isNone then fs.lookup n else none

mutual
noncomputable def exec : S → Loc → H → Option (Fl × Loc × H)
  | .bad, _, _ => none
  | .expr e, m, h => onP (evalX kind meTab clsMeth c e m h) fun _ h1 => some (.next, m, h1)
  | .asg t e, m, h => onP (evalX kind meTab clsMeth c e m h) fun v h1 => onP (store kind meTab clsMeth c t v m h1) fun m1 h2 => some (.next, m1, h2)
  | .asgC i fz elt v it cond, m, h => onP (evalX kind meTab clsMeth c (if fz then .freeze (.comp elt v it cond) else .comp elt v it cond) m h) fun x h1 => if i < m.length then some (.next, m.set i (some x), h1) else none
  | .aug i op e, m, h => onS m[i]? fun o => onS o fun u => vI u fun a => onP (evalX kind meTab clsMeth c e m h) fun w h1 => vI w fun b => onS (binop op a b) fun z => some (.next, m.set i (some (.int z)), h1)
  | .augA o n op e, m, h => onP (evalX kind meTab clsMeth c o m h) fun u h1 => vL u fun l => oI h1[l]? fun C fs => onS (fldOf (clsMeth C n) fs n) fun u => vI u fun a =>
      onP (evalX kind meTab clsMeth c e m h1) fun w h2 => vI w fun b => oI h2[l]? fun C2 fs2 => onS (binop op a b) fun z =>
        if (clsMeth C2 n).isNone ∧ fs2.length < 100 then some (.next, m, h2.set l (.inst C2 (setF fs2 n (.int z)))) else none
  | .ite e a b, m, h => onP (evalX kind meTab clsMeth c e m h) fun v h1 => onT (truth v) (execs a m h1) (execs b m h1)
  | .whil e b, m, h => whileN (fun m h => tested (evalX kind meTab clsMeth c e m h)) (fun m h => execs b m h) 40 m h
  | .for t it b, m, h => onP (evalX kind meTab clsMeth c it m h) fun iv h1 => onS (iterOf iv) fun vs =>
      forVals (fun v m h => onP (store kind meTab clsMeth c t v m h) fun m1 h1 => execs b m1 h1) vs m h1
  | .ret none, m, h => some (.ret .non, m, h)
  | .ret (some e), m, h => onP (evalX kind meTab clsMeth c e m h) fun v h1 => some (.ret v, m, h1)
  | .cont, m, h => some (.cont, m, h)
  | .pass, m, h => some (.next, m, h)
  | .defn i k cs line col, m, h => oTab h[0]? fun l => onS (caps m cs) fun vs => if i < m.length ∧ (line, col) ∉ l then some (.next, m.set i (some (.clo k vs)), h.set 0 (.tab (l ++ [(line, col)]))) else none
noncomputable def execs : List S → Loc → H → Option (Fl × Loc × H)
  | [], m, h => some (.next, m, h)
  | st :: r, m, h => onN (exec st m h) (fun m1 h1 => execs r m1 h1)
end
end

/-- what a body gives -/
noncomputable def given (o : Option (Fl × Loc × H)) : Option (V × H) := onP o fun fl p => match fl with
  | .ret v => some (v, p.2)
  | .next => some (.non, p.2)
  | .cont => none
noncomputable def callF (kind : Nat → Option Kd) (meTab : Nat → Option Me) (clsMeth : Nat → Nat → Option Nat) (fns : Nat → Option Fn) : Nat → Nat → List V → H → Option (V × H)
  | 0, _, _, _ => none
  | n + 1, k, as, h => onS (fns k) fun d => if as.length = d.np ∧ d.np ≤ d.ns then
      given (execs kind meTab clsMeth (callF kind meTab clsMeth fns n) d.body (as.map some ++ List.replicate (d.ns - d.np) none) h) else none
end Mine
end

section
namespace Mine
open PySem
section
set_option autoImplicit true
set_option relaxedAutoImplicit true
theorem evalX_bad : evalX kind meTab clsMeth c .bad m h = (none) := rfl
theorem evalX_var : evalX kind meTab clsMeth c (.var i) m h = (onS m[i]? fun o => onS o fun v => some (v, h)) := rfl
theorem evalX_glob : evalX kind meTab clsMeth c (.glob k) m h = (some (.fn k, h)) := rfl
theorem evalX_non : evalX kind meTab clsMeth c .non m h = (some (.non, h)) := rfl
theorem evalX_bool : evalX kind meTab clsMeth c (.bool b) m h = (some (.bool b, h)) := rfl
theorem evalX_int : evalX kind meTab clsMeth c (.int i) m h = (some (.int i, h)) := rfl
theorem evalX_str : evalX kind meTab clsMeth c (.str k) m h = (some (.str k, h)) := rfl
theorem evalX_bin : evalX kind meTab clsMeth c (.bin op a b) m h = (onP (evalX kind meTab clsMeth c a m h) fun x h1 => vI x fun x => onP (evalX kind meTab clsMeth c b m h1) fun y h2 => vI y fun y => onS (binop op x y) fun z => some (.int z, h2)) := rfl
theorem evalX_neg : evalX kind meTab clsMeth c (.neg a) m h = (onP (evalX kind meTab clsMeth c a m h) fun x h1 => vI x fun x => some (.int (-x), h1)) := rfl
theorem evalX_not : evalX kind meTab clsMeth c (.not a) m h = (onP (evalX kind meTab clsMeth c a m h) fun v h1 => onS (truth v) fun b => some (.bool (!b), h1)) := rfl
theorem evalX_cmp : evalX kind meTab clsMeth c (.cmp op a b) m h = (onP (evalX kind meTab clsMeth c a m h) fun x h1 => onP (evalX kind meTab clsMeth c b m h1) fun y h2 => onS (cmpop op x y h2) fun z => some (.bool z, h2)) := rfl
theorem evalX_cmp2 : evalX kind meTab clsMeth c (.cmp2 op1 op2 a b d) m h = (onP (evalX kind meTab clsMeth c a m h) fun x h1 => onP (evalX kind meTab clsMeth c b m h1) fun y h2 => onT (cmpop op1 x y h2)
      (onP (evalX kind meTab clsMeth c d m h2) fun z h3 => onS (cmpop op2 y z h3) fun r => some (.bool r, h3)) (some (.bool false, h2))) := rfl
theorem evalX_and : evalX kind meTab clsMeth c (.and a b) m h = (onP (evalX kind meTab clsMeth c a m h) fun v h1 => vB v (evalX kind meTab clsMeth c b m h1) (some (.bool false, h1))) := rfl
theorem evalX_or : evalX kind meTab clsMeth c (.or a b) m h = (onP (evalX kind meTab clsMeth c a m h) fun v h1 => vB v (some (.bool true, h1)) (evalX kind meTab clsMeth c b m h1)) := rfl
theorem evalX_ite : evalX kind meTab clsMeth c (.ite e a b) m h = (onP (evalX kind meTab clsMeth c e m h) fun v h1 => onT (truth v) (evalX kind meTab clsMeth c a m h1) (evalX kind meTab clsMeth c b m h1)) := rfl
theorem evalX_call : evalX kind meTab clsMeth c (.call f as) m h = (onP (evalX kind meTab clsMeth c f m h) fun fv h1 => onP (evalXs kind meTab clsMeth c as m h1) fun vs h2 => callV kind c fv vs h2) := rfl
theorem evalX_meth : evalX kind meTab clsMeth c (.meth o n as) m h = (onP (evalX kind meTab clsMeth c o m h) fun ov h1 => onS (getMeth meTab clsMeth ov n h1) fun t => onP (evalXs kind meTab clsMeth c as m h1) fun vs h2 => callMt kind c t vs h2) := rfl
theorem evalX_attr : evalX kind meTab clsMeth c (.attr o n) m h = (onP (evalX kind meTab clsMeth c o m h) fun v h1 => vL v fun l => oI h1[l]? fun C fs => if (clsMeth C n).isNone then onS (fs.lookup n) fun v => some (v, h1) else none) := rfl
theorem evalX_sub : evalX kind meTab clsMeth c (.sub o i) m h = (onP (evalX kind meTab clsMeth c o m h) fun ov h1 => onP (evalX kind meTab clsMeth c i m h1) fun iv h2 => onS (subscr ov iv h2) fun v => some (v, h2)) := rfl
theorem evalX_cut : evalX kind meTab clsMeth c (.cut o hi) m h = (onP (evalX kind meTab clsMeth c o m h) fun ov h1 => onP (evalX kind meTab clsMeth c hi m h1) fun v h2 => vI v fun k => onS (listOf ov h2) fun l =>
      if 0 ≤ k ∧ k ≤ 1000000 then some (.loc h2.length, h2 ++ [.list (l.take k.toNat)]) else none) := rfl
theorem evalX_tup : evalX kind meTab clsMeth c (.tup l) m h = (onP (evalXs kind meTab clsMeth c l m h) fun vs h1 => if vs.length ≤ 100 then some (.tup vs, h1) else none) := rfl
theorem evalX_list : evalX kind meTab clsMeth c (.list l) m h = (onP (evalXs kind meTab clsMeth c l m h) fun vs h1 => if vs.length ≤ 100 then some (.loc h1.length, h1 ++ [.list vs]) else none) := rfl
theorem evalX_dict0 : evalX kind meTab clsMeth c .dict0 m h = (some (.loc h.length, h ++ [.dict []])) := rfl
theorem evalX_comp : evalX kind meTab clsMeth c (.comp elt v it cnd) m h = (onP (evalX kind meTab clsMeth c it m h) fun iv h1 =>
      onS (compIt (compTurn h1.length (fun x h => tested (evalX kind meTab clsMeth c cnd (m.set v (some x)) h)) (fun x h => evalX kind meTab clsMeth c elt (m.set v (some x)) h)) iv (h1 ++ [.list []])) fun h2 => some (.loc h1.length, h2)) := rfl
theorem evalX_freeze : evalX kind meTab clsMeth c (.freeze e) m h = (onP (evalX kind meTab clsMeth c e m h) fun v h1 => vL v fun n => oLD h1[n]? (fun l => some (.lst l, h1.set n .dead)) oN) := rfl
theorem evalXs_nil : evalXs kind meTab clsMeth c [] m h = (some ([], h)) := rfl
theorem evalXs_cons : evalXs kind meTab clsMeth c (e :: r) m h = (onP (evalX kind meTab clsMeth c e m h) fun v h1 => onP (evalXs kind meTab clsMeth c r m h1) fun vs h2 => some (v :: vs, h2)) := rfl
theorem store_name : store kind meTab clsMeth c (.name i) v m h = (if i < m.length then some (m.set i (some v), h) else none) := rfl
theorem store_names : store kind meTab clsMeth c (.names l) v m h = (vT v fun vs => onS (setNames l vs m) fun m => some (m, h)) := rfl
theorem store_attr : store kind meTab clsMeth c (.attr o n) v m h = (onP (evalX kind meTab clsMeth c o m h) fun u h1 => vL u fun l => oI h1[l]? fun C fs => if (clsMeth C n).isNone ∧ fs.length < 100 then some (m, h1.set l (.inst C (setF fs n v))) else none) := rfl
theorem store_sub : store kind meTab clsMeth c (.sub o i) v m h = (onP (evalX kind meTab clsMeth c o m h) fun u h1 => vL u fun l => onP (evalX kind meTab clsMeth c i m h1) fun w h2 => vI w fun k => oLD h2[l]?
      (fun vs => if 0 ≤ k ∧ k.toNat < vs.length then some (m, h2.set l (.list (vs.set k.toNat v))) else none)
      fun kv => if kv.length < 1000000 then some (m, h2.set l (.dict (setKV kv k v))) else none) := rfl
theorem exec_bad : exec kind meTab clsMeth c .bad m h = (none) := rfl
theorem exec_expr : exec kind meTab clsMeth c (.expr e) m h = (onP (evalX kind meTab clsMeth c e m h) fun _ h1 => some (.next, m, h1)) := rfl
theorem exec_asg : exec kind meTab clsMeth c (.asg t e) m h = (onP (evalX kind meTab clsMeth c e m h) fun v h1 => onP (store kind meTab clsMeth c t v m h1) fun m1 h2 => some (.next, m1, h2)) := rfl
theorem exec_asgC : exec kind meTab clsMeth c (.asgC i fz elt v it cnd) m h = (onP (evalX kind meTab clsMeth c (if fz then .freeze (.comp elt v it cnd) else .comp elt v it cnd) m h) fun x h1 => if i < m.length then some (.next, m.set i (some x), h1) else none) := rfl
theorem exec_aug : exec kind meTab clsMeth c (.aug i op e) m h = (onS m[i]? fun o => onS o fun u => vI u fun a => onP (evalX kind meTab clsMeth c e m h) fun w h1 => vI w fun b => onS (binop op a b) fun z => some (.next, m.set i (some (.int z)), h1)) := rfl
theorem exec_augA : exec kind meTab clsMeth c (.augA o n op e) m h = (onP (evalX kind meTab clsMeth c o m h) fun u h1 => vL u fun l => oI h1[l]? fun C fs => onS (fldOf (clsMeth C n) fs n) fun u => vI u fun a =>
      onP (evalX kind meTab clsMeth c e m h1) fun w h2 => vI w fun b => oI h2[l]? fun C2 fs2 => onS (binop op a b) fun z =>
        if (clsMeth C2 n).isNone ∧ fs2.length < 100 then some (.next, m, h2.set l (.inst C2 (setF fs2 n (.int z)))) else none) := rfl
theorem exec_ite : exec kind meTab clsMeth c (.ite e a b) m h = (onP (evalX kind meTab clsMeth c e m h) fun v h1 => onT (truth v) (execs kind meTab clsMeth c a m h1) (execs kind meTab clsMeth c b m h1)) := rfl
theorem exec_whil : exec kind meTab clsMeth c (.whil e b) m h = (whileN (fun m h => tested (evalX kind meTab clsMeth c e m h)) (fun m h => execs kind meTab clsMeth c b m h) 40 m h) := rfl
theorem exec_for : exec kind meTab clsMeth c (.for t it b) m h = (onP (evalX kind meTab clsMeth c it m h) fun iv h1 => onS (iterOf iv) fun vs =>
      forVals (fun v m h => onP (store kind meTab clsMeth c t v m h) fun m1 h1 => execs kind meTab clsMeth c b m1 h1) vs m h1) := rfl
theorem exec_ret : exec kind meTab clsMeth c (.ret none) m h = (some (.ret .non, m, h)) := rfl
theorem exec_ret2 : exec kind meTab clsMeth c (.ret (some e)) m h = (onP (evalX kind meTab clsMeth c e m h) fun v h1 => some (.ret v, m, h1)) := rfl
theorem exec_cont : exec kind meTab clsMeth c .cont m h = (some (.cont, m, h)) := rfl
theorem exec_pass : exec kind meTab clsMeth c .pass m h = (some (.next, m, h)) := rfl
theorem exec_defn : exec kind meTab clsMeth c (.defn i k cs line col) m h = (oTab h[0]? fun l => onS (caps m cs) fun vs => if i < m.length ∧ (line, col) ∉ l then some (.next, m.set i (some (.clo k vs)), h.set 0 (.tab (l ++ [(line, col)]))) else none) := rfl
theorem execs_nil : execs kind meTab clsMeth c [] m h = (some (.next, m, h)) := rfl
theorem execs_cons : execs kind meTab clsMeth c (st :: r) m h = (onN (exec kind meTab clsMeth c st m h) (fun m1 h1 => execs kind meTab clsMeth c r m1 h1)) := rfl
end
end Mine
end

section
namespace Mine
open PySem
noncomputable def f_mask_b : List S := [
  .ret (some (.bin .sub (.bin .shl (.int 1) (.var 0)) (.int 1)))]
noncomputable def f_mask : Fn := ⟨1, 1, 0, f_mask_b⟩
noncomputable def f_vec_b : List S := [
  .asg (.name 3) (.call (.glob 9) [(.var 0)]),
  .ret (some (.tup [(.var 0), (.bin .band (.var 1) (.var 3)), (.bin .band (.var 2) (.var 3))]))]
noncomputable def f_vec : Fn := ⟨3, 4, 0, f_vec_b⟩
noncomputable def f_all_x_b : List S := [
  .asg (.name 1) (.call (.glob 9) [(.var 0)]),
  .ret (some (.tup [(.var 0), (.var 1), (.var 1)]))]
noncomputable def f_all_x : Fn := ⟨1, 2, 0, f_all_x_b⟩
noncomputable def f_to_int_b : List S := [
  .asg (.names [2, 3, 4]) (.var 0),
  .ite (.cmp .ne (.var 4) (.int 0)) [.ret (some .non)] [],
  .ite (.and (.var 1) (.cmp .eq (.bin .shr (.var 3) (.bin .sub (.var 2) (.int 1))) (.int 1))) [.ret (some (.bin .sub (.var 3) (.bin .shl (.int 1) (.var 2))))] [],
  .ret (some (.var 3))]
noncomputable def f_to_int : Fn := ⟨2, 5, 0, f_to_int_b⟩
noncomputable def f_code_b : List S := [
  .ret (some (.bin .add (.bin .band (.bin .shr (.sub (.var 0) (.int 1)) (.var 1)) (.int 1)) (.bin .mul (.int 2) (.bin .band (.bin .shr (.sub (.var 0) (.int 2)) (.var 1)) (.int 1)))))]
noncomputable def f_code : Fn := ⟨2, 2, 0, f_code_b⟩
noncomputable def f_slice_vec_b : List S := [
  .asg (.name 3) (.call (.glob 6) [(.var 1), (.int 0)]),
  .asg (.name 4) (.call (.glob 5) [(.bin .add (.var 1) (.var 2)), (.sub (.var 0) (.int 0))]),
  .ite (.cmp .le (.var 4) (.var 3)) [.ret (some (.call (.glob 11) [(.var 2)]))] [],
  .asg (.name 5) (.call (.glob 9) [(.bin .sub (.var 4) (.var 3))]),
  .asg (.name 6) (.bin .sub (.var 3) (.var 1)),
  .asg (.name 7) (.bin .bxor (.call (.glob 9) [(.var 2)]) (.bin .shl (.var 5) (.var 6))),
  .asg (.name 8) (.bin .shl (.bin .band (.bin .shr (.sub (.var 0) (.int 1)) (.var 3)) (.var 5)) (.var 6)),
  .asg (.name 9) (.bin .shl (.bin .band (.bin .shr (.sub (.var 0) (.int 2)) (.var 3)) (.var 5)) (.var 6)),
  .ret (some (.tup [(.var 2), (.bin .bor (.var 8) (.var 7)), (.bin .bor (.var 9) (.var 7))]))]
noncomputable def f_slice_vec : Fn := ⟨3, 10, 0, f_slice_vec_b⟩
noncomputable def f_put_slice_b : List S := [
  .asg (.name 3) (.call (.glob 6) [(.var 1), (.int 0)]),
  .asg (.name 4) (.call (.glob 5) [(.bin .add (.var 1) (.sub (.var 2) (.int 0))), (.sub (.var 0) (.int 0))]),
  .ite (.cmp .le (.var 4) (.var 3)) [.ret (some (.var 0))] [],
  .asg (.name 5) (.call (.glob 9) [(.bin .sub (.var 4) (.var 3))]),
  .asg (.name 6) (.bin .sub (.var 3) (.var 1)),
  .asg (.name 7) (.bin .bxor (.call (.glob 9) [(.sub (.var 0) (.int 0))]) (.bin .shl (.var 5) (.var 3))),
  .asg (.name 8) (.bin .bor (.bin .band (.sub (.var 0) (.int 1)) (.var 7)) (.bin .shl (.bin .band (.bin .shr (.sub (.var 2) (.int 1)) (.var 6)) (.var 5)) (.var 3))),
  .asg (.name 9) (.bin .bor (.bin .band (.sub (.var 0) (.int 2)) (.var 7)) (.bin .shl (.bin .band (.bin .shr (.sub (.var 2) (.int 2)) (.var 6)) (.var 5)) (.var 3))),
  .ret (some (.tup [(.sub (.var 0) (.int 0)), (.var 8), (.var 9)]))]
noncomputable def f_put_slice : Fn := ⟨3, 10, 0, f_put_slice_b⟩
noncomputable def f_extend_b : List S := [
  .ite (.cmp .le (.var 1) (.sub (.var 0) (.int 0))) [.ret (some (.call (.glob 10) [(.var 1), (.sub (.var 0) (.int 1)), (.sub (.var 0) (.int 2))]))] [],
  .ite (.not (.var 2)) [.ret (some (.tup [(.var 1), (.sub (.var 0) (.int 1)), (.sub (.var 0) (.int 2))]))] [],
  .asg (.name 3) (.bin .bxor (.call (.glob 9) [(.var 1)]) (.call (.glob 9) [(.sub (.var 0) (.int 0))])),
  .asg (.name 4) (.call (.glob 13) [(.var 0), (.bin .sub (.sub (.var 0) (.int 0)) (.int 1))]),
  .asg (.name 5) (.bin .bor (.sub (.var 0) (.int 1)) (.ite (.bin .band (.var 4) (.int 1)) (.var 3) (.int 0))),
  .asg (.name 6) (.bin .bor (.sub (.var 0) (.int 2)) (.ite (.bin .band (.var 4) (.int 2)) (.var 3) (.int 0))),
  .ret (some (.tup [(.var 1), (.var 5), (.var 6)]))]
noncomputable def f_extend : Fn := ⟨3, 7, 0, f_extend_b⟩
noncomputable def f_whole_of_b : List S := [
  .ret (some (.call (.glob 12) [(.call (.glob 18) [(.var 0), (.var 2)]), (.var 1)]))]
noncomputable def f_whole_of : Fn := ⟨3, 3, 0, f_whole_of_b⟩
noncomputable def f_evaluate_b : List S := [
  .asg (.name 2) (.sub (.var 0) (.int 0)),
  .ite (.cmp .eq (.var 2) (.str 0)) [.ret (some (.tup [(.sub (.var 0) (.int 1)), (.sub (.var 0) (.int 2)), (.sub (.var 0) (.int 3))]))] [],
  .ite (.cmp .eq (.var 2) (.str 1)) [.ret (some (.meth (.attr (.var 1) 0) 1 [(.sub (.var 0) (.int 2))]))] [],
  .ite (.cmp .eq (.var 2) (.str 2)) [.ret (some (.sub (.attr (.var 1) 2) (.sub (.var 0) (.int 2))))] [],
  .ite (.cmp .eq (.var 2) (.str 3)) [.ret (some .bad)] [],
  .ite (.cmp .eq (.var 2) (.str 4)) [.ret (some .bad)] [],
  .ite (.cmp .eq (.var 2) (.str 5)) [.ret (some (.call (.glob 16) [(.call (.glob 18) [(.sub (.var 0) (.int 2)), (.var 1)]), (.sub (.var 0) (.int 1)), (.sub (.var 0) (.int 3))]))] [],
  .ite (.cmp .eq (.var 2) (.str 6)) [.ret (some (.call (.glob 14) [(.call (.glob 18) [(.sub (.var 0) (.int 2)), (.var 1)]), (.sub (.var 0) (.int 3)), (.sub (.var 0) (.int 1))]))] [],
  .ite (.cmp .eq (.var 2) (.str 7)) [.ret (some .bad)] [],
  .ite (.cmp .eq (.var 2) (.str 8)) [.ret (some .bad)] [],
  .ite (.cmp .eq (.var 2) (.str 9)) [.ret (some .bad)] [],
  .ite (.cmp .eq (.var 2) (.str 10)) [.ret (some .bad)] [],
  .ite (.cmp .eq (.var 2) (.str 11)) [.ret (some .bad)] [],
  .ite (.cmp .eq (.var 2) (.str 12)) [.ret (some (.meth (.var 1) 3 [(.sub (.var 0) (.int 2)), (.comp (.call (.glob 18) [(.var 3), (.var 1)]) 3 (.sub (.var 0) (.int 3)) (.bool true))]))] [],
  .ite (.cmp .eq (.var 2) (.str 13)) [.ret (some .bad)] [],
  .bad]
noncomputable def f_evaluate : Fn := ⟨2, 4, 0, f_evaluate_b⟩
noncomputable def f_locate_b : List S := [
  .ite (.cmp .eq (.sub (.var 0) (.int 0)) (.str 14)) [.ret (some (.sub (.var 0) (.int 1)))] [],
  .asg (.name 2) (.call (.glob 17) [(.sub (.var 0) (.int 1)), (.sub (.var 0) (.int 2)), (.var 1)]),
  .ite (.cmp .isn (.var 2) .non) [.ret (some .non)] [],
  .ret (some (.bin .mul (.bin .sub (.var 2) (.sub (.var 0) (.int 3))) (.sub (.var 0) (.int 4))))]
noncomputable def f_locate : Fn := ⟨2, 3, 0, f_locate_b⟩
noncomputable def f_holder_width_b : List S := [
  .ite (.cmp .eq (.sub (.var 0) (.int 0)) (.str 1)) [.ret (some (.attr (.sub (.attr (.attr (.var 1) 0) 4) (.sub (.var 0) (.int 2))) 5))] [],
  .ret (some (.sub (.sub (.attr (.var 1) 2) (.sub (.var 0) (.int 2))) (.int 0)))]
noncomputable def f_holder_width : Fn := ⟨2, 2, 0, f_holder_width_b⟩
noncomputable def f_resolve_target_b : List S := [
  .asg (.name 2) (.list []),
  .asg (.name 3) (.sub (.var 0) (.int 1)),
  .for (.name 4) (.sub (.var 0) (.int 2)) [.asg (.names [5, 6, 7, 8, 9]) (.var 4), .aug 3 .sub (.var 6), .asg (.name 10) .non, .ite (.cmp .isnt (.var 8) .non) [.asg (.name 11) (.call (.glob 17) [(.sub (.var 8) (.int 0)), (.sub (.var 8) (.int 1)), (.var 1)]), .ite (.cmp .isn (.var 11) .non) [.cont] [], .asg (.name 10) (.meth (.sub (.attr (.attr (.var 1) 0) 4) (.var 7)) 6 [(.var 11)]), .ite (.cmp .lt (.var 10) (.int 0)) [.cont] []] [], .asg (.name 12) (.call (.glob 19) [(.var 9), (.var 1)]), .ite (.or (.cmp .isn (.var 12) .non) (.or (.cmp .le (.bin .add (.var 12) (.var 6)) (.int 0)) (.cmp .ge (.var 12) (.call (.glob 20) [(.var 4), (.var 1)])))) [.cont] [], .expr (.meth (.var 2) 7 [(.tup [(.var 5), (.var 7), (.var 10), (.var 12), (.var 6), (.var 3)])])],
  .ret (some (.freeze (.var 2)))]
noncomputable def f_resolve_target : Fn := ⟨2, 13, 0, f_resolve_target_b⟩
noncomputable def f_store_rows_b : List S := [
  .asg (.name 3) .dict0,
  .for (.names [4, 5, 6, 7, 8, 9]) (.var 0) [.asg (.name 10) (.call (.glob 14) [(.var 1), (.var 9), (.var 8)]), .ite (.cmp .eq (.var 4) (.str 1)) [.ite (.meth (.attr (.var 2) 0) 8 [(.var 5), (.var 6), (.var 7), (.var 10)]) [.asg (.sub (.var 3) (.var 5)) (.bool true)] []] [.asg (.sub (.attr (.var 2) 2) (.var 5)) (.call (.glob 15) [(.sub (.attr (.var 2) 2) (.var 5)), (.var 7), (.var 10)])]],
  .ret (some (.freeze (.call (.glob 8) [(.var 3)])))]
noncomputable def f_store_rows : Fn := ⟨3, 11, 0, f_store_rows_b⟩
noncomputable def f_delay_of_b : List S := [
  .asg (.name 1) (.call (.glob 12) [(.var 0), (.bool false)]),
  .ite (.cmp .isn (.var 1) .non) [.ret (some (.int 0))] [],
  .ret (some (.var 1))]
noncomputable def f_delay_of : Fn := ⟨1, 2, 0, f_delay_of_b⟩
noncomputable def f_assign_b : List S := [
  .asg (.name 4) (.meth (.var 0) 9 [(.var 1)]),
  .asg (.name 5) (.call (.glob 21) [(.var 2), (.var 4)]),
  .expr (.meth (.var 0) 10 [(.var 4)]),
  .expr (.meth (.var 0) 11 [(.var 5), (.var 3), (.attr (.var 1) 2)])]
noncomputable def f_assign : Fn := ⟨4, 6, 0, f_assign_b⟩
noncomputable def f_assign_later_b : List S := [
  .asg (.name 3) (.meth (.var 0) 12 [(.var 1), (.sub (.var 2) (.int 2))]),
  .asg (.name 4) (.meth (.var 0) 9 [(.var 1)]),
  .asg (.name 5) (.tup [(.str 15), (.call (.glob 21) [(.sub (.var 2) (.int 1)), (.var 4)]), (.var 3)]),
  .expr (.meth (.var 0) 10 [(.var 4)]),
  .ite (.cmp .isn (.sub (.var 2) (.int 3)) .non) [.expr (.meth (.attr (.var 0) 13) 14 [(.str 16), (.var 5)])] [.expr (.meth (.attr (.var 0) 13) 15 [(.call (.glob 23) [(.meth (.var 0) 12 [(.var 1), (.sub (.var 2) (.int 3))])]), (.var 5), (.str 16)])]]
noncomputable def f_assign_later : Fn := ⟨3, 6, 0, f_assign_later_b⟩
noncomputable def f_net_kinds_b : List S := [
  .ret (some (.tup [(.str 17), (.str 18), (.str 19), (.str 20), (.str 21), (.str 22), (.str 23), (.str 24), (.str 25)]))]
noncomputable def f_net_kinds : Fn := ⟨0, 0, 0, f_net_kinds_b⟩
noncomputable def f_law_bag_b : List S := [
  .asg (.name 1) (.list [(.int 0), (.int 1)]),
  .for (.name 2) (.freeze (.cut (.call (.glob 2) [(.var 0)]) (.int 20))) [.expr (.meth (.var 1) 7 [(.call (.glob 1) [(.var 2)])]), .asg (.sub (.var 1) (.int 1)) (.bin .mod (.bin .add (.bin .add (.bin .mul (.sub (.var 1) (.int 1)) (.int 31)) (.bin .mod (.call (.glob 1) [(.var 2)]) (.int 9973))) (.int 1)) (.int 1000003))],
  .ret (some (.var 1))]
noncomputable def f_law_bag : Fn := ⟨1, 3, 0, f_law_bag_b⟩
noncomputable def f_law_pull_b : List S := [
  .ite (.cmp .eq (.sub (.var 0) (.int 0)) (.int 0)) [.ite (.cmp .gt (.call (.glob 0) [(.var 0)]) (.int 2)) [.asg (.name 2) (.meth (.var 0) 16 [(.int 2)]), .asg (.sub (.var 0) (.int 0)) (.ite (.cmp .ge (.var 2) (.int 0)) (.bin .mul (.int 2) (.var 2)) (.bin .sub (.bin .mul (.neg (.int 2)) (.var 2)) (.int 1)))] [.asg (.sub (.var 0) (.int 1)) (.bin .mod (.bin .add (.bin .mul (.sub (.var 0) (.int 1)) (.int 69069)) (.int 12345)) (.int 4294967296)), .asg (.sub (.var 0) (.int 0)) (.bin .fdiv (.sub (.var 0) (.int 1)) (.int 16))]] [],
  .asg (.name 3) (.bin .mod (.call (.glob 1) [(.sub (.var 0) (.int 0))]) (.var 1)),
  .asg (.sub (.var 0) (.int 0)) (.bin .fdiv (.sub (.var 0) (.int 0)) (.var 1)),
  .ret (some (.var 3))]
noncomputable def f_law_pull : Fn := ⟨2, 4, 0, f_law_pull_b⟩
noncomputable def f_law_constant_b : List S := [
  .asg (.name 2) (.ite (.cmp .eq (.call (.glob 28) [(.var 0), (.int 4)]) (.int 0)) (.call (.glob 28) [(.var 0), (.bin .shl (.int 1) (.var 1))]) (.int 0)),
  .ret (some (.tup [(.str 0), (.var 1), (.call (.glob 28) [(.var 0), (.bin .shl (.int 1) (.var 1))]), (.var 2)]))]
noncomputable def f_law_constant : Fn := ⟨2, 3, 0, f_law_constant_b⟩
noncomputable def f_law_variable_b : List S := [
  .ret (some (.tup [(.str 1), (.ite (.cmp .eq (.var 0) (.int 0)) (.int 4) (.int 3)), (.var 0)]))]
noncomputable def f_law_variable : Fn := ⟨1, 1, 0, f_law_variable_b⟩
noncomputable def f_law_whole_b : List S := [
  .asg (.name 1) (.ite (.cmp .eq (.var 0) (.int 0)) (.int 4) (.int 3)),
  .ret (some (.tup [(.str 26), (.var 1), (.tup [(.tup [(.str 1), (.var 1), (.var 0), .non, (.tup [(.str 14), (.int 0)])])])]))]
noncomputable def f_law_whole : Fn := ⟨1, 2, 0, f_law_whole_b⟩
noncomputable def f_law_target_b : List S := [
  .asg (.name 1) (.list []),
  .asg (.name 2) (.int 0),
  .for (.name 3) (.call (.glob 4) [(.bin .add (.int 1) (.call (.glob 28) [(.var 0), (.int 2)]))]) [.asg (.name 4) (.call (.glob 28) [(.var 0), (.int 4)]), .asg (.name 5) (.bin .add (.int 1) (.call (.glob 28) [(.var 0), (.int 3)])), .asg (.name 6) .non, .ite (.cmp .eq (.var 4) (.int 3)) [.asg (.name 6) (.tup [(.tup [(.str 1), (.int 3), (.int 2)]), (.cmp .eq (.call (.glob 28) [(.var 0), (.int 2)]) (.int 0))]), .ite (.cmp .eq (.call (.glob 28) [(.var 0), (.int 3)]) (.int 0)) [.asg (.name 6) (.tup [(.call (.glob 29) [(.var 0), (.int 3)]), (.cmp .eq (.call (.glob 28) [(.var 0), (.int 2)]) (.int 0))])] []] [], .asg (.name 7) (.tup [(.str 14), (.bin .sub (.call (.glob 28) [(.var 0), (.int 5)]) (.int 1))]), .ite (.cmp .eq (.call (.glob 28) [(.var 0), (.int 3)]) (.int 0)) [.asg (.name 8) (.call (.glob 30) [(.call (.glob 28) [(.var 0), (.int 3)])]), .asg (.name 7) (.tup [(.str 7), (.var 8), (.cmp .eq (.call (.glob 28) [(.var 0), (.int 2)]) (.int 0)), (.call (.glob 28) [(.var 0), (.int 3)]), (.bin .sub (.int 1) (.bin .mul (.int 2) (.call (.glob 28) [(.var 0), (.int 2)])))])] [], .expr (.meth (.var 1) 7 [(.tup [(.str 1), (.var 5), (.var 4), (.var 6), (.var 7)])]), .aug 2 .add (.var 5)],
  .ret (some (.tup [(.str 26), (.var 2), (.call (.glob 3) [(.var 1)])]))]
noncomputable def f_law_target : Fn := ⟨1, 9, 0, f_law_target_b⟩
noncomputable def f_law_deed_b : List S := [
  .asg (.name 1) (.call (.glob 32) [(.var 0)]),
  .ite (.cmp .eq (.call (.glob 28) [(.var 0), (.int 4)]) (.int 0)) [.asg (.name 1) (.call (.glob 31) [(.int 2)])] [],
  .asg (.name 2) (.call (.glob 29) [(.var 0), (.sub (.var 1) (.int 1))]),
  .ite (.cmp .eq (.call (.glob 28) [(.var 0), (.int 2)]) (.int 0)) [.asg (.name 2) (.tup [(.str 5), (.sub (.var 1) (.int 1)), (.call (.glob 30) [(.call (.glob 28) [(.var 0), (.int 3)])]), (.cmp .eq (.call (.glob 28) [(.var 0), (.int 2)]) (.int 0))])] [],
  .asg (.name 3) (.call (.glob 28) [(.var 0), (.int 4)]),
  .ite (.cmp .eq (.var 3) (.int 0)) [.ret (some (.tup [(.str 27), (.var 1), (.var 2)]))] [],
  .ite (.cmp .eq (.var 3) (.int 1)) [.ret (some (.tup [(.str 16), (.var 1), (.var 2), .non]))] [],
  .ite (.cmp .eq (.var 3) (.int 2)) [.ret (some (.tup [(.str 16), (.var 1), (.var 2), (.call (.glob 30) [(.int 2)])]))] [],
  .ret (some (.tup [(.str 16), (.var 1), (.var 2), (.call (.glob 29) [(.var 0), (.int 2)])]))]
noncomputable def f_law_deed : Fn := ⟨1, 4, 0, f_law_deed_b⟩
noncomputable def f_law_fixed_b : List S := [
  .asg (.name 0) (.tup [(.str 26), (.int 1), (.tup [(.tup [(.str 1), (.int 1), (.int 0), .non, (.tup [(.str 7), (.tup [(.str 1), (.int 3), (.int 2)]), (.bool false), (.int 0), (.int 1)])])])]),
  .ret (some (.list [(.tup [(.str 27), (.call (.glob 31) [(.int 0)]), (.tup [(.str 0), (.int 4), (.int 0), (.int 0)])]), (.tup [(.str 27), (.call (.glob 31) [(.int 2)]), (.tup [(.str 0), (.int 3), (.int 1), (.int 0)])]), (.tup [(.str 16), (.var 0), (.tup [(.str 0), (.int 1), (.int 1), (.int 0)]), .non]), (.tup [(.str 27), (.call (.glob 31) [(.int 2)]), (.tup [(.str 0), (.int 3), (.int 2), (.int 0)])]), (.tup [(.str 16), (.call (.glob 31) [(.int 1)]), (.tup [(.str 5), (.int 3), (.tup [(.str 1), (.int 3), (.int 2)]), (.bool false)]), (.tup [(.str 0), (.int 3), (.int 5), (.int 4)])])]))]
noncomputable def f_law_fixed : Fn := ⟨0, 1, 0, f_law_fixed_b⟩
noncomputable def f_law_codes_b : List S := [
  .ite (.cmp .eq (.sub (.var 0) (.int 0)) (.str 0)) [.ret (some (.comp (.bin .add (.bin .mod (.call (.glob 1) [(.bin .shr (.sub (.var 0) (.int 2)) (.var 2))]) (.int 2)) (.bin .mul (.int 2) (.bin .mod (.call (.glob 1) [(.bin .shr (.sub (.var 0) (.int 3)) (.var 2))]) (.int 2)))) 2 (.call (.glob 4) [(.sub (.var 0) (.int 1))]) (.bool true)))] [],
  .ite (.cmp .eq (.sub (.var 0) (.int 0)) (.str 1)) [.ret (some (.comp (.sub (.var 1) (.bin .add (.bin .mul (.sub (.var 0) (.int 2)) (.int 100)) (.var 2))) 2 (.call (.glob 4) [(.sub (.var 0) (.int 1))]) (.bool true)))] [],
  .asg (.name 3) (.call (.glob 35) [(.sub (.var 0) (.int 2)), (.var 1)]),
  .whil (.cmp .lt (.call (.glob 0) [(.var 3)]) (.sub (.var 0) (.int 1))) [.expr (.meth (.var 3) 7 [(.ite (.sub (.var 0) (.int 3)) (.sub (.var 3) (.neg (.int 1))) (.int 0))])],
  .ret (some (.cut (.var 3) (.sub (.var 0) (.int 1))))]
noncomputable def f_law_codes : Fn := ⟨2, 4, 0, f_law_codes_b⟩
noncomputable def f_law_number_b : List S := [
  .asg (.name 3) (.freeze (.call (.glob 35) [(.var 0), (.var 2)])),
  .asg (.name 4) (.int 0),
  .for (.name 5) (.call (.glob 4) [(.call (.glob 0) [(.var 3)])]) [.ite (.cmp .gt (.sub (.var 3) (.var 5)) (.int 1)) [.ret (some .non)] [], .aug 4 .add (.bin .shl (.sub (.var 3) (.var 5)) (.var 5))],
  .ite (.and (.var 1) (.cmp .eq (.sub (.var 3) (.neg (.int 1))) (.int 1))) [.aug 4 .sub (.bin .shl (.int 1) (.call (.glob 0) [(.var 3)]))] [],
  .ret (some (.var 4))]
noncomputable def f_law_number : Fn := ⟨3, 6, 0, f_law_number_b⟩
noncomputable def f_law_spots_b : List S := [
  .asg (.name 3) (.list []),
  .asg (.name 4) (.sub (.var 0) (.int 1)),
  .for (.names [5, 6, 7, 8, 9]) (.sub (.var 0) (.int 2)) [.aug 4 .sub (.var 6), .asg (.name 10) (.bin .mul (.var 7) (.int 100)), .asg (.name 11) (.sub (.tup [(.int 4), (.int 3), (.int 3), (.int 2)]) (.var 7)), .ite (.cmp .isnt (.var 8) .non) [.asg (.name 12) (.call (.glob 36) [(.sub (.var 8) (.int 0)), (.sub (.var 8) (.int 1)), (.var 2)]), .ite (.cmp .nmem (.var 12) (.var 1)) [.cont] [], .aug 10 .add (.bin .mul (.int 10) (.meth (.var 1) 17 [(.var 12)]))] [], .asg (.name 13) (.sub (.var 9) (.int 1)), .ite (.cmp .eq (.sub (.var 9) (.int 0)) (.str 7)) [.asg (.name 13) (.call (.glob 36) [(.sub (.var 9) (.int 1)), (.sub (.var 9) (.int 2)), (.var 2)]), .ite (.cmp .isn (.var 13) .non) [.cont] [], .asg (.name 13) (.bin .mul (.bin .sub (.var 13) (.sub (.var 9) (.int 3))) (.sub (.var 9) (.int 4)))] [], .expr (.meth (.var 3) 7 [(.tup [(.var 7), (.freeze (.comp (.tup [(.bin .add (.var 4) (.var 14)), (.bin .add (.bin .add (.var 10) (.var 13)) (.var 14))]) 14 (.call (.glob 4) [(.var 6)]) (.cmp2 .le .lt (.int 0) (.bin .add (.var 13) (.var 14)) (.var 11))))])])],
  .ret (some (.freeze (.var 3)))]
noncomputable def f_law_spots : Fn := ⟨3, 15, 0, f_law_spots_b⟩
noncomputable def f_law_write_b : List S := [
  .asg (.name 3) (.list []),
  .for (.names [4, 5]) (.var 0) [.for (.names [6, 7]) (.var 5) [.ite (.cmp .ne (.sub (.var 2) (.var 7)) (.sub (.var 1) (.var 6))) [.asg (.sub (.var 2) (.var 7)) (.sub (.var 1) (.var 6)), .ite (.cmp .nmem (.var 4) (.var 3)) [.expr (.meth (.var 3) 7 [(.var 4)])] []] []]],
  .ret (some (.freeze (.call (.glob 8) [(.var 3)])))]
noncomputable def f_law_write : Fn := ⟨3, 8, 0, f_law_write_b⟩
noncomputable def f_law_same_b : List S := [
  .for (.name 2) (.freeze (.call (.glob 8) [(.var 1)])) [.asg (.name 3) (.bin .fdiv (.var 2) (.int 100)), .asg (.name 4) (.ite (.cmp .eq (.var 3) (.int 3)) (.meth (.var 0) 18 [(.int 3), (.bin .mod (.call (.glob 1) [(.bin .fdiv (.var 2) (.int 10))]) (.int 10))]) (.meth (.var 0) 1 [(.var 3)])), .asg (.name 5) (.bin .mod (.call (.glob 1) [(.var 2)]) (.int 10)), .ite (.cmp .ne (.bin .add (.bin .mod (.call (.glob 1) [(.bin .shr (.sub (.var 4) (.int 1)) (.var 5))]) (.int 2)) (.bin .mul (.int 2) (.bin .mod (.call (.glob 1) [(.bin .shr (.sub (.var 4) (.int 2)) (.var 5))]) (.int 2)))) (.sub (.var 1) (.var 2))) [.ret (some (.bool false))] []],
  .ret (some (.bool true))]
noncomputable def f_law_same : Fn := ⟨2, 6, 0, f_law_same_b⟩
noncomputable def f_law_host_b : List S := [
  .defn 2 65 [0] 808 4,
  .defn 3 66 [0] 811 4,
  .defn 4 67 [] 814 4,
  .defn 5 68 [1, 0] 817 4,
  .asg (.name 6) (.call (.glob 62) [(.neg (.int 1)), (.list []), (.int 0), (.list []), (.str 28)]),
  .asg (.attr (.var 6) 13) (.call (.glob 61) []),
  .asg (.attr (.var 6) 9) (.var 2),
  .asg (.attr (.var 6) 12) (.var 3),
  .asg (.attr (.var 6) 10) (.var 4),
  .asg (.attr (.var 6) 11) (.var 5),
  .ret (some (.var 6))]
noncomputable def f_law_host : Fn := ⟨2, 7, 0, f_law_host_b⟩
noncomputable def f_law_do_b : List S := [
  .asg (.name 8) (.call (.glob 37) [(.sub (.var 2) (.int 1)), (.var 4), (.var 5)]),
  .asg (.name 9) (.freeze (.call (.glob 35) [(.sub (.var 2) (.int 2)), (.var 5)])),
  .ite (.cmp .eq (.sub (.var 2) (.int 0)) (.str 27)) [.expr (.call (.glob 24) [(.var 0), (.var 1), (.sub (.var 2) (.int 1)), (.meth (.var 0) 12 [(.var 1), (.sub (.var 2) (.int 2))])]), .ret (some (.and (.cmp .eq (.call (.glob 0) [(.var 3)]) (.int 1)) (.cmp .eq (.meth (.var 3) 16 []) (.call (.glob 38) [(.var 8), (.var 9), (.var 5)]))))] [],
  .asg (.name 10) .non,
  .ite (.cmp .isnt (.sub (.var 2) (.int 3)) .non) [.asg (.name 10) (.call (.glob 36) [(.sub (.var 2) (.int 3)), (.bool false), (.var 5)])] [],
  .expr (.call (.glob 25) [(.var 0), (.var 1), (.var 2)]),
  .expr (.meth (.var 6) 7 [(.tup [(.ite (.cmp .isn (.var 10) .non) (.var 7) (.bin .add (.var 7) (.var 10))), (.var 8), (.var 9)])]),
  .ret (some (.cmp .eq (.call (.glob 0) [(.var 3)]) (.int 0)))]
noncomputable def f_law_do : Fn := ⟨8, 11, 0, f_law_do_b⟩
noncomputable def f_law_b : List S := [
  .asg (.name 1) (.call (.glob 27) [(.var 0)]),
  .asg (.name 2) (.bin .sub (.call (.glob 28) [(.var 1), (.int 4)]) (.int 1)),
  .asg (.name 3) (.list [(.var 2), (.bin .add (.var 2) (.int 1)), (.bin .add (.var 2) (.int 2))]),
  .ite (.cmp .eq (.call (.glob 28) [(.var 1), (.int 2)]) (.int 1)) [.expr (.meth (.var 3) 19 [])] [],
  .asg (.name 4) (.list [(.call (.glob 60) [(.int 0), (.str 29), (.str 30), (.int 4), (.bool false), (.int 3), (.int 0)]), (.call (.glob 60) [(.int 1), (.str 31), (.str 30), (.int 3), (.bool false), (.int 2), (.int 0)]), (.call (.glob 60) [(.int 2), (.str 32), (.str 30), (.int 3), (.bool false), (.int 2), (.int 0)]), (.call (.glob 60) [(.int 3), (.str 33), (.str 30), (.int 2), (.bool false), (.int 1), (.int 0)])]),
  .asg (.attr (.sub (.var 4) (.int 3)) 20) (.sub (.var 3) (.int 0)),
  .asg (.attr (.sub (.var 4) (.int 3)) 21) (.sub (.var 3) (.int 2)),
  .asg (.name 5) (.call (.glob 63) [(.var 4)]),
  .asg (.name 6) .dict0,
  .for (.name 7) (.call (.glob 4) [(.int 3)]) [.asg (.name 8) (.call (.glob 29) [(.var 1), (.sub (.tup [(.int 4), (.int 3), (.int 3)]) (.var 7))]), .expr (.meth (.var 5) 8 [(.var 7), .non, (.int 0), (.tup [(.sub (.var 8) (.int 1)), (.sub (.var 8) (.int 2)), (.sub (.var 8) (.int 3))])]), .asg (.name 9) (.freeze (.call (.glob 35) [(.var 8), (.var 6)])), .for (.name 10) (.call (.glob 4) [(.sub (.var 8) (.int 1))]) [.asg (.sub (.var 6) (.bin .add (.bin .mul (.var 7) (.int 100)) (.var 10))) (.sub (.var 9) (.var 10))]],
  .for (.name 11) (.call (.glob 4) [(.int 3)]) [.asg (.sub (.var 6) (.bin .add (.int 300) (.bin .mul (.int 10) (.var 11)))) (.int 3), .asg (.sub (.var 6) (.bin .add (.int 301) (.bin .mul (.int 10) (.var 11)))) (.int 3)],
  .asg (.name 12) (.list []),
  .asg (.name 13) (.call (.glob 40) [(.var 5), (.var 12)]),
  .asg (.name 14) (.attr (.var 13) 13),
  .asg (.name 15) (.call (.glob 62) [(.int 0), (.list []), (.int 0), (.list []), (.str 34)]),
  .asg (.name 16) (.list [(.freeze (.call (.glob 34) []))]),
  .for (.name 17) (.call (.glob 4) [(.int 3)]) [.expr (.meth (.var 16) 7 [(.freeze (.comp (.call (.glob 33) [(.var 1)]) 18 (.call (.glob 4) [(.bin .add (.int 1) (.call (.glob 28) [(.var 1), (.int 2)]))]) (.bool true)))])],
  .asg (.name 19) (.list []),
  .asg (.name 20) (.int 0),
  .whil (.bool true) [.asg (.name 21) (.ite (.cmp .gt (.call (.glob 0) [(.var 16)]) (.int 0)) (.meth (.var 16) 16 [(.int 0)]) (.freeze (.list []))), .for (.name 22) (.var 21) [.ite (.not (.call (.glob 41) [(.var 13), (.var 15), (.var 22), (.var 12), (.var 3), (.var 6), (.var 19), (.var 20)])) [.ret (some (.bool false))] []], .asgC 23 true (.var 24) 24 (.var 19) (.cmp .eq (.sub (.var 24) (.int 0)) (.var 20)), .asgC 19 false (.var 24) 24 (.var 19) (.cmp .ne (.sub (.var 24) (.int 0)) (.var 20)), .for (.name 24) (.var 23) [.asg (.name 25) (.meth (.var 14) 22 []), .ite (.or (.cmp .isn (.var 25) .non) (.cmp .ne (.sub (.var 25) (.int 0)) (.str 15))) [.ret (some (.bool false))] [], .asg (.name 26) (.call (.glob 22) [(.sub (.var 25) (.int 1)), (.sub (.var 25) (.int 2)), (.call (.glob 64) [(.var 5), (.list []), (.int 0)])]), .ite (.cmp .ne (.var 26) (.call (.glob 38) [(.sub (.var 24) (.int 1)), (.sub (.var 24) (.int 2)), (.var 6)])) [.ret (some (.bool false))] []], .ite (.or (.cmp .isnt (.meth (.var 14) 22 []) .non) (.not (.call (.glob 39) [(.var 5), (.var 6)]))) [.ret (some (.bool false))] [], .ite (.cmp .ne (.meth (.var 14) 23 []) (.cmp .gt (.call (.glob 0) [(.var 19)]) (.int 0))) [.ret (some (.bool false))] [], .ite (.and (.cmp .eq (.call (.glob 0) [(.var 19)]) (.int 0)) (.cmp .eq (.call (.glob 0) [(.var 16)]) (.int 0))) [.ret (some (.bool true))] [], .ite (.cmp .gt (.call (.glob 0) [(.var 19)]) (.int 0)) [.asg (.name 20) (.call (.glob 5) [(.freeze (.comp (.sub (.var 24) (.int 0)) 24 (.var 19) (.bool true)))])] [], .ite (.cmp .ne (.attr (.var 14) 24) (.var 20)) [.ret (some (.bool false))] []]]
noncomputable def f_law : Fn := ⟨1, 27, 0, f_law_b⟩
noncomputable def f_Signal__init_b : List S := [
  .asg (.attr (.var 0) 25) (.var 1),
  .asg (.attr (.var 0) 26) (.var 2),
  .asg (.attr (.var 0) 27) (.var 3),
  .asg (.attr (.var 0) 5) (.var 4),
  .asg (.attr (.var 0) 28) (.var 5),
  .asg (.attr (.var 0) 29) (.var 6),
  .asg (.attr (.var 0) 30) (.var 7),
  .asg (.attr (.var 0) 20) .non,
  .asg (.attr (.var 0) 21) .non,
  .asg (.attr (.var 0) 31) .non,
  .asg (.attr (.var 0) 32) (.neg (.int 1)),
  .asg (.attr (.var 0) 33) (.bool false)]
noncomputable def f_Signal__init : Fn := ⟨8, 8, 0, f_Signal__init_b⟩
noncomputable def f_Signal_is_net_b : List S := [
  .ret (some (.cmp .mem (.attr (.var 0) 27) (.call (.glob 26) [])))]
noncomputable def f_Signal_is_net : Fn := ⟨1, 1, 0, f_Signal_is_net_b⟩
noncomputable def f_Signal_words_b : List S := [
  .ite (.cmp .isn (.attr (.var 0) 20) .non) [.ret (some (.int 1))] [],
  .ret (some (.bin .add (.call (.glob 7) [(.bin .sub (.attr (.var 0) 21) (.attr (.var 0) 20))]) (.int 1)))]
noncomputable def f_Signal_words : Fn := ⟨1, 1, 0, f_Signal_words_b⟩
noncomputable def f_Signal_place_b : List S := [
  .ite (.cmp .isn (.attr (.var 0) 20) .non) [.ret (some (.neg (.int 1)))] [],
  .ite (.cmp .ge (.attr (.var 0) 21) (.attr (.var 0) 20)) [.asg (.name 2) (.bin .sub (.var 1) (.attr (.var 0) 20))] [.asg (.name 2) (.bin .sub (.attr (.var 0) 20) (.var 1))],
  .ite (.or (.cmp .lt (.var 2) (.int 0)) (.cmp .ge (.var 2) (.meth (.var 0) 34 []))) [.ret (some (.neg (.int 1)))] [],
  .ret (some (.var 2))]
noncomputable def f_Signal_place : Fn := ⟨2, 3, 0, f_Signal_place_b⟩
noncomputable def f_EventQueue__init_b : List S := [
  .asg (.attr (.var 0) 24) (.int 0),
  .asg (.attr (.var 0) 35) (.list []),
  .asg (.attr (.var 0) 36) (.int 0),
  .asg (.attr (.var 0) 37) (.list []),
  .asg (.attr (.var 0) 38) (.list []),
  .asg (.attr (.var 0) 39) (.list []),
  .asg (.attr (.var 0) 40) .dict0]
noncomputable def f_EventQueue__init : Fn := ⟨1, 1, 0, f_EventQueue__init_b⟩
noncomputable def f_EventQueue_add_b : List S := [
  .ite (.cmp .eq (.var 1) (.str 35)) [.expr (.meth (.attr (.var 0) 35) 7 [(.var 2)])] [.ite (.cmp .eq (.var 1) (.str 36)) [.expr (.meth (.attr (.var 0) 37) 7 [(.var 2)])] [.ite (.cmp .eq (.var 1) (.str 16)) [.expr (.meth (.attr (.var 0) 38) 7 [(.var 2)])] [.expr (.meth (.attr (.var 0) 39) 7 [(.var 2)])]]]]
noncomputable def f_EventQueue_add : Fn := ⟨3, 3, 0, f_EventQueue_add_b⟩
noncomputable def f_EventQueue_add_after_b : List S := [
  .ite (.cmp .eq (.var 1) (.int 0)) [.ite (.cmp .eq (.var 3) (.str 35)) [.asg (.name 3) (.str 36)] [], .expr (.meth (.var 0) 14 [(.var 3), (.var 2)]), .ret none] [],
  .asg (.name 4) (.bin .add (.attr (.var 0) 24) (.var 1)),
  .ite (.cmp .nmem (.var 4) (.attr (.var 0) 40)) [.asg (.sub (.attr (.var 0) 40) (.var 4)) (.list [])] [],
  .expr (.meth (.sub (.attr (.var 0) 40) (.var 4)) 7 [(.tup [(.var 3), (.var 2)])])]
noncomputable def f_EventQueue_add_after : Fn := ⟨4, 5, 0, f_EventQueue_add_after_b⟩
noncomputable def f_EventQueue_refill_b : List S := [
  .asg (.attr (.var 0) 36) (.int 0),
  .ite (.cmp .gt (.call (.glob 0) [(.attr (.var 0) 37)]) (.int 0)) [.asg (.attr (.var 0) 35) (.attr (.var 0) 37), .asg (.attr (.var 0) 37) (.list [])] [.ite (.cmp .gt (.call (.glob 0) [(.attr (.var 0) 38)]) (.int 0)) [.asg (.attr (.var 0) 35) (.attr (.var 0) 38), .asg (.attr (.var 0) 38) (.list [])] [.asg (.attr (.var 0) 35) (.attr (.var 0) 39), .asg (.attr (.var 0) 39) (.list [])]],
  .ret (some (.cmp .gt (.call (.glob 0) [(.attr (.var 0) 35)]) (.int 0)))]
noncomputable def f_EventQueue_refill : Fn := ⟨1, 1, 0, f_EventQueue_refill_b⟩
noncomputable def f_EventQueue_take_b : List S := [
  .ite (.and (.cmp .eq (.attr (.var 0) 36) (.call (.glob 0) [(.attr (.var 0) 35)])) (.not (.meth (.var 0) 41 []))) [.ret (some .non)] [],
  .asg (.name 1) (.sub (.attr (.var 0) 35) (.attr (.var 0) 36)),
  .augA (.var 0) 36 .add (.int 1),
  .ret (some (.var 1))]
noncomputable def f_EventQueue_take : Fn := ⟨1, 2, 0, f_EventQueue_take_b⟩
noncomputable def f_EventQueue_next_time_b : List S := [
  .ite (.cmp .eq (.call (.glob 0) [(.attr (.var 0) 40)]) (.int 0)) [.ret (some (.neg (.int 1)))] [],
  .ret (some (.call (.glob 5) [(.attr (.var 0) 40)]))]
noncomputable def f_EventQueue_next_time : Fn := ⟨1, 1, 0, f_EventQueue_next_time_b⟩
noncomputable def f_EventQueue_advance_b : List S := [
  .asg (.name 1) (.meth (.var 0) 42 []),
  .ite (.cmp .lt (.var 1) (.int 0)) [.ret (some (.bool false))] [],
  .asg (.name 2) (.freeze (.meth (.attr (.var 0) 40) 16 [(.var 1)])),
  .asg (.attr (.var 0) 24) (.var 1),
  .for (.names [3, 4]) (.var 2) [.expr (.meth (.var 0) 14 [(.var 3), (.var 4)])],
  .ret (some (.bool true))]
noncomputable def f_EventQueue_advance : Fn := ⟨1, 5, 0, f_EventQueue_advance_b⟩
noncomputable def f_Thread__init_b : List S := [
  .asg (.attr (.var 0) 43) (.var 1),
  .asg (.attr (.var 0) 44) (.var 2),
  .asg (.attr (.var 0) 45) (.var 3),
  .asg (.attr (.var 0) 2) (.var 4),
  .asg (.attr (.var 0) 26) (.var 5),
  .asg (.attr (.var 0) 46) (.list []),
  .asg (.attr (.var 0) 47) (.list []),
  .asg (.attr (.var 0) 48) (.neg (.int 1)),
  .asg (.attr (.var 0) 49) .dict0,
  .asg (.attr (.var 0) 50) (.bool false),
  .asg (.attr (.var 0) 51) .non,
  .asg (.attr (.var 0) 52) (.int 0),
  .asg (.attr (.var 0) 53) (.bool false),
  .asg (.attr (.var 0) 54) (.bool false)]
noncomputable def f_Thread__init : Fn := ⟨6, 6, 0, f_Thread__init_b⟩
noncomputable def f_Store__init_b : List S := [
  .asg (.attr (.var 0) 4) (.var 1),
  .asg (.attr (.var 0) 55) .dict0,
  .asg (.attr (.var 0) 56) .dict0,
  .asg (.attr (.var 0) 57) (.int 1)]
noncomputable def f_Store__init : Fn := ⟨2, 2, 0, f_Store__init_b⟩
noncomputable def f_Store_get_b : List S := [
  .asg (.name 2) (.meth (.attr (.var 0) 55) 1 [(.var 1)]),
  .ite (.cmp .isnt (.var 2) .non) [.ret (some (.var 2))] [],
  .asg (.name 3) (.sub (.attr (.var 0) 4) (.var 1)),
  .ite (.meth (.var 3) 58 []) [.ret (some .bad)] [],
  .ret (some (.call (.glob 11) [(.attr (.var 3) 5)]))]
noncomputable def f_Store_get : Fn := ⟨2, 4, 0, f_Store_get_b⟩
noncomputable def f_Store_word_b : List S := [
  .asg (.name 3) (.meth (.attr (.var 0) 56) 1 [(.var 1)]),
  .ite (.cmp .isnt (.var 3) .non) [.asg (.name 4) (.meth (.var 3) 1 [(.var 2)]), .ite (.cmp .isnt (.var 4) .non) [.ret (some (.var 4))] []] [],
  .asg (.name 5) (.sub (.attr (.var 0) 4) (.var 1)),
  .ite (.cmp .mem (.attr (.var 5) 27) (.tup [(.str 22), (.str 25)])) [.ret (some .bad)] [],
  .ite (.cmp .mem (.attr (.var 5) 27) (.tup [(.str 21), (.str 24)])) [.ret (some .bad)] [],
  .ite (.meth (.var 5) 58 []) [.ret (some .bad)] [],
  .ret (some (.call (.glob 11) [(.attr (.var 5) 5)]))]
noncomputable def f_Store_word : Fn := ⟨3, 6, 0, f_Store_word_b⟩
noncomputable def f_Store_set_bits_b : List S := [
  .ite (.cmp .isn (.var 2) .non) [.asg (.name 5) (.meth (.var 0) 1 [(.var 1)]), .asg (.name 6) (.call (.glob 15) [(.var 5), (.var 3), (.var 4)]), .ite (.cmp .eq (.var 6) (.var 5)) [.ret (some (.bool false))] [], .asg (.sub (.attr (.var 0) 55) (.var 1)) (.var 6), .ret (some (.bool true))] [],
  .ite (.or (.cmp .lt (.var 2) (.int 0)) (.cmp .ge (.var 2) (.meth (.sub (.attr (.var 0) 4) (.var 1)) 34 []))) [.ret (some (.bool false))] [],
  .asg (.name 5) (.meth (.var 0) 18 [(.var 1), (.var 2)]),
  .asg (.name 6) (.call (.glob 15) [(.var 5), (.var 3), (.var 4)]),
  .ite (.cmp .eq (.var 6) (.var 5)) [.ret (some (.bool false))] [],
  .ite (.cmp .nmem (.var 1) (.attr (.var 0) 56)) [.asg (.sub (.attr (.var 0) 56) (.var 1)) .dict0] [],
  .asg (.sub (.sub (.attr (.var 0) 56) (.var 1)) (.var 2)) (.var 6),
  .ret (some (.bool true))]
noncomputable def f_Store_set_bits : Fn := ⟨5, 7, 0, f_Store_set_bits_b⟩
noncomputable def f_Context__init_b : List S := [
  .asg (.attr (.var 0) 0) (.var 1),
  .asg (.attr (.var 0) 2) (.var 2),
  .asg (.attr (.var 0) 24) (.var 3)]
noncomputable def f_Context__init : Fn := ⟨4, 4, 0, f_Context__init_b⟩
noncomputable def f_law_host_law_context_b : List S := [
  .ret (some (.call (.glob 64) [(.var 1), (.attr (.var 0) 2), (.int 0)]))]
noncomputable def f_law_host_law_context : Fn := ⟨2, 2, 1, f_law_host_law_context_b⟩
noncomputable def f_law_host_law_now_b : List S := [
  .ret (some (.call (.glob 18) [(.var 1), (.call (.glob 64) [(.var 2), (.attr (.var 0) 2), (.int 0)])]))]
noncomputable def f_law_host_law_now : Fn := ⟨3, 3, 1, f_law_host_law_now_b⟩
noncomputable def f_law_host_law_closed_b : List S := [
  .asg (.attr (.var 0) 24) (.int 1)]
noncomputable def f_law_host_law_closed : Fn := ⟨1, 1, 0, f_law_host_law_closed_b⟩
noncomputable def f_law_host_law_written_b : List S := [
  .expr (.meth (.var 3) 7 [(.call (.glob 22) [(.var 0), (.var 1), (.call (.glob 64) [(.var 4), (.var 2), (.int 0)])])])]
noncomputable def f_law_host_law_written : Fn := ⟨5, 5, 2, f_law_host_law_written_b⟩
noncomputable def f_Context_call_b : List S := [.bad]
noncomputable def f_Context_call : Fn := ⟨3, 3, 0, f_Context_call_b⟩
noncomputable def gNames : List String := ["len", "int", "list", "tuple", "range", "min", "max", "abs", "sorted", "mask", "vec", "all_x", "to_int", "code", "slice_vec", "put_slice", "extend", "whole_of", "evaluate", "locate", "holder_width", "resolve_target", "store_rows", "delay_of", "assign", "assign_later", "net_kinds", "_law_bag", "_law_pull", "_law_constant", "_law_variable", "_law_whole", "_law_target", "_law_deed", "_law_fixed", "_law_codes", "_law_number", "_law_spots", "_law_write", "_law_same", "_law_host", "_law_do", "law", "Signal.__init__", "Signal.is_net", "Signal.words", "Signal.place", "EventQueue.__init__", "EventQueue.add", "EventQueue.add_after", "EventQueue.refill", "EventQueue.take", "EventQueue.next_time", "EventQueue.advance", "Thread.__init__", "Store.__init__", "Store.get", "Store.word", "Store.set_bits", "Context.__init__", "Signal", "EventQueue", "Thread", "Store", "Context", "_law_host._law_context", "_law_host._law_now", "_law_host._law_closed", "_law_host._law_written", "Context.call"]
noncomputable def kindL : List Kd := [.bi .len, .bi .int, .bi .list, .bi .tuple, .bi .range, .bi .min, .bi .max, .bi .abs, .bi .sorted, .fn, .fn, .fn, .fn, .fn, .fn, .fn, .fn, .fn, .fn, .fn, .fn, .fn, .fn, .fn, .fn, .fn, .fn, .fn, .fn, .fn, .fn, .fn, .fn, .fn, .fn, .fn, .fn, .fn, .fn, .fn, .fn, .fn, .fn, .fn, .fn, .fn, .fn, .fn, .fn, .fn, .fn, .fn, .fn, .fn, .fn, .fn, .fn, .fn, .fn, .fn, .cls 0 43, .cls 1 47, .cls 2 54, .cls 3 55, .cls 4 59, .fn, .fn, .fn, .fn, .fn]
noncomputable def kind (k : Nat) : Option Kd := kindL[k]?
noncomputable def fnL : List (Nat × Fn) := [(9, f_mask), (10, f_vec), (11, f_all_x), (12, f_to_int), (13, f_code), (14, f_slice_vec), (15, f_put_slice), (16, f_extend), (17, f_whole_of), (18, f_evaluate), (19, f_locate), (20, f_holder_width), (21, f_resolve_target), (22, f_store_rows), (23, f_delay_of), (24, f_assign), (25, f_assign_later), (26, f_net_kinds), (27, f_law_bag), (28, f_law_pull), (29, f_law_constant), (30, f_law_variable), (31, f_law_whole), (32, f_law_target), (33, f_law_deed), (34, f_law_fixed), (35, f_law_codes), (36, f_law_number), (37, f_law_spots), (38, f_law_write), (39, f_law_same), (40, f_law_host), (41, f_law_do), (42, f_law), (43, f_Signal__init), (44, f_Signal_is_net), (45, f_Signal_words), (46, f_Signal_place), (47, f_EventQueue__init), (48, f_EventQueue_add), (49, f_EventQueue_add_after), (50, f_EventQueue_refill), (51, f_EventQueue_take), (52, f_EventQueue_next_time), (53, f_EventQueue_advance), (54, f_Thread__init), (55, f_Store__init), (56, f_Store_get), (57, f_Store_word), (58, f_Store_set_bits), (59, f_Context__init), (65, f_law_host_law_context), (66, f_law_host_law_now), (67, f_law_host_law_closed), (68, f_law_host_law_written), (69, f_Context_call)]
noncomputable def fns (k : Nat) : Option Fn := match k with
  | 9 => some f_mask
  | 10 => some f_vec
  | 11 => some f_all_x
  | 12 => some f_to_int
  | 13 => some f_code
  | 14 => some f_slice_vec
  | 15 => some f_put_slice
  | 16 => some f_extend
  | 17 => some f_whole_of
  | 18 => some f_evaluate
  | 19 => some f_locate
  | 20 => some f_holder_width
  | 21 => some f_resolve_target
  | 22 => some f_store_rows
  | 23 => some f_delay_of
  | 24 => some f_assign
  | 25 => some f_assign_later
  | 26 => some f_net_kinds
  | 27 => some f_law_bag
  | 28 => some f_law_pull
  | 29 => some f_law_constant
  | 30 => some f_law_variable
  | 31 => some f_law_whole
  | 32 => some f_law_target
  | 33 => some f_law_deed
  | 34 => some f_law_fixed
  | 35 => some f_law_codes
  | 36 => some f_law_number
  | 37 => some f_law_spots
  | 38 => some f_law_write
  | 39 => some f_law_same
  | 40 => some f_law_host
  | 41 => some f_law_do
  | 42 => some f_law
  | 43 => some f_Signal__init
  | 44 => some f_Signal_is_net
  | 45 => some f_Signal_words
  | 46 => some f_Signal_place
  | 47 => some f_EventQueue__init
  | 48 => some f_EventQueue_add
  | 49 => some f_EventQueue_add_after
  | 50 => some f_EventQueue_refill
  | 51 => some f_EventQueue_take
  | 52 => some f_EventQueue_next_time
  | 53 => some f_EventQueue_advance
  | 54 => some f_Thread__init
  | 55 => some f_Store__init
  | 56 => some f_Store_get
  | 57 => some f_Store_word
  | 58 => some f_Store_set_bits
  | 59 => some f_Context__init
  | 65 => some f_law_host_law_context
  | 66 => some f_law_host_law_now
  | 67 => some f_law_host_law_closed
  | 68 => some f_law_host_law_written
  | 69 => some f_Context_call
  | _ => none
noncomputable def attrL : List String := ["store", "get", "frame", "call", "signals", "width", "place", "append", "set_bits", "context", "close_context", "write", "evaluate_in", "queue", "add", "add_after", "pop", "index", "word", "reverse", "first", "last", "take", "advance", "now", "key", "path", "kind", "signed", "msb", "lsb", "init", "at", "scalar", "words", "active", "head", "inactive", "nba", "late", "later", "refill", "next_time", "number", "code", "pc", "calls", "scopes", "parent", "children", "done", "wait", "stamp", "looking", "again", "values", "memories", "random_seed", "is_net"]
noncomputable def strL0 : List String := ["const", "sig", "local", "bin", "un", "ext", "slice", "pick", "word", "cond", "cat", "pow", "call", "sys", "at", "update", "nba", "wire", "tri", "wand", "wor", "tri0", "tri1", "trireg", "supply0", "supply1", "lv", "set", "host", "a", "reg", "b", "n", "m", "top", "active", "inactive"]
noncomputable def meL : List (Nat × Me) := [(7, .append), (16, .pop), (19, .reverse), (17, .index), (1, .get)]
noncomputable def meTab (n : Nat) : Option Me := meL.lookup n
noncomputable def clsMeth (c n : Nat) : Option Nat := match c, n with
  | 0, 58 => some 44
  | 0, 34 => some 45
  | 0, 6 => some 46
  | 1, 14 => some 48
  | 1, 15 => some 49
  | 1, 41 => some 50
  | 1, 22 => some 51
  | 1, 42 => some 52
  | 1, 23 => some 53
  | 3, 1 => some 56
  | 3, 18 => some 57
  | 3, 8 => some 58
  | 4, 3 => some 69
  | _, _ => none
noncomputable def slotNames : List (Nat × List String) := [
  (9, ["w"]),
  (10, ["w", "a", "b", "full"]),
  (11, ["w", "full"]),
  (12, ["v", "signed", "w", "a", "b"]),
  (13, ["v", "i"]),
  (14, ["v", "lo", "w", "first", "last", "inner", "shift", "outside", "a", "b"]),
  (15, ["v", "lo", "part", "first", "last", "inner", "skip", "keep", "a", "b"]),
  (16, ["v", "w", "signed", "fill", "top", "a", "b"]),
  (17, ["e", "signed", "ctx"]),
  (18, ["e", "ctx", "tag", "part"]),
  (19, ["where", "ctx", "index"]),
  (20, ["part", "ctx"]),
  (21, ["lv", "ctx", "rows", "take", "part", "kind", "w", "ref", "word", "where", "place", "index", "lo"]),
  (22, ["rows", "value", "ctx", "changed", "kind", "ref", "place", "lo", "w", "take", "piece"]),
  (23, ["value", "delay"]),
  (24, ["machine", "thread", "lv", "value", "ctx", "rows"]),
  (25, ["machine", "thread", "row", "value", "ctx", "event"]),
  (26, []),
  (27, ["script", "bag", "cell"]),
  (28, ["bag", "many", "cell", "got"]),
  (29, ["bag", "w", "b"]),
  (30, ["key"]),
  (31, ["key", "w"]),
  (32, ["bag", "parts", "total", "turn", "key", "w", "word", "where", "source"]),
  (33, ["bag", "lv", "e", "pick"]),
  (34, ["bit"]),
  (35, ["e", "held", "i", "row"]),
  (36, ["e", "signed", "held", "row", "total", "i"]),
  (37, ["lv", "names", "held", "found", "low", "kind", "w", "key", "word", "where", "base", "wide", "index", "lo", "i"]),
  (38, ["spots", "row", "held", "told", "key", "pairs", "i", "spot"]),
  (39, ["store", "held", "spot", "key", "v", "i"]),
  (40, ["store", "told", "_law_context", "_law_now", "_law_closed", "_law_written", "host"]),
  (41, ["host", "thread", "deed", "told", "names", "held", "waiting", "time", "spots", "row", "delay"]),
  (42, ["script", "bag", "least", "names", "signals", "store", "held", "key", "e", "row", "i", "word", "told", "host", "queue", "thread", "bursts", "turn", "more", "waiting", "time", "deeds", "deed", "ready", "one", "event", "keys"]),
  (43, ["self", "key", "path", "kind", "width", "signed", "msb", "lsb"]),
  (44, ["self"]),
  (45, ["self"]),
  (46, ["self", "index", "place"]),
  (47, ["self"]),
  (48, ["self", "region", "event"]),
  (49, ["self", "delay", "event", "region", "time"]),
  (50, ["self"]),
  (51, ["self", "event"]),
  (52, ["self"]),
  (53, ["self", "time", "rows", "region", "event"]),
  (54, ["self", "number", "code", "pc", "frame", "path"]),
  (55, ["self", "signals"]),
  (56, ["self", "key", "value", "signal"]),
  (57, ["self", "key", "place", "words", "value", "signal"]),
  (58, ["self", "key", "place", "lo", "value", "old", "new"]),
  (59, ["self", "store", "frame", "now"]),
  (65, ["thread", "store"]),
  (66, ["thread", "e", "store"]),
  (67, ["ctx"]),
  (68, ["rows", "v", "frame", "told", "store"]),
  (69, ["self", "number", "args"])]
noncomputable def capNames : List (Nat × List String) := [(65, ["store"]), (66, ["store"]), (68, ["told", "store"])]
noncomputable def methL : List (Nat × Nat × String) := [(43, 0, "__init__"), (44, 0, "is_net"), (45, 0, "words"), (46, 0, "place"), (47, 1, "__init__"), (48, 1, "add"), (49, 1, "add_after"), (50, 1, "refill"), (51, 1, "take"), (52, 1, "next_time"), (53, 1, "advance"), (54, 2, "__init__"), (55, 3, "__init__"), (56, 3, "get"), (57, 3, "word"), (58, 3, "set_bits"), (59, 4, "__init__"), (69, 4, "call")]
noncomputable def methOf (k : Nat) : Option (Nat × String) := methL.lookup k
noncomputable def statics : List Nat := [9, 10, 11, 12, 13, 14, 15, 16, 17, 18, 19, 20, 21, 22, 23, 24, 25, 26, 27, 28, 29, 30, 31, 32, 33, 34, 35, 36, 37, 38, 39, 40, 41, 42, 43, 44, 45, 46, 47, 48, 49, 50, 51, 52, 53, 54, 55, 56, 57, 58, 59, 69]
noncomputable def slotsOf (k : Nat) : List String := (slotNames.lookup k).getD []
noncomputable def clsNames : List String := ["Signal", "EventQueue", "Thread", "Store", "Context"]
-- 0 len
-- 1 int
-- 2 list
-- 3 tuple
-- 4 range
-- 5 min
-- 6 max
-- 7 abs
-- 8 sorted
-- 9 mask
-- 10 vec
-- 11 all_x
-- 12 to_int
-- 13 code
-- 14 slice_vec
-- 15 put_slice
-- 16 extend
-- 17 whole_of
-- 18 evaluate
-- 19 locate
-- 20 holder_width
-- 21 resolve_target
-- 22 store_rows
-- 23 delay_of
-- 24 assign
-- 25 assign_later
-- 26 net_kinds
-- 27 _law_bag
-- 28 _law_pull
-- 29 _law_constant
-- 30 _law_variable
-- 31 _law_whole
-- 32 _law_target
-- 33 _law_deed
-- 34 _law_fixed
-- 35 _law_codes
-- 36 _law_number
-- 37 _law_spots
-- 38 _law_write
-- 39 _law_same
-- 40 _law_host
-- 41 _law_do
-- 42 law
-- 43 Signal.__init__
-- 44 Signal.is_net
-- 45 Signal.words
-- 46 Signal.place
-- 47 EventQueue.__init__
-- 48 EventQueue.add
-- 49 EventQueue.add_after
-- 50 EventQueue.refill
-- 51 EventQueue.take
-- 52 EventQueue.next_time
-- 53 EventQueue.advance
-- 54 Thread.__init__
-- 55 Store.__init__
-- 56 Store.get
-- 57 Store.word
-- 58 Store.set_bits
-- 59 Context.__init__
-- 60 Signal
-- 61 EventQueue
-- 62 Thread
-- 63 Store
-- 64 Context
-- 65 _law_host._law_context
-- 66 _law_host._law_now
-- 67 _law_host._law_closed
-- 68 _law_host._law_written
-- 69 Context.call
end Mine
end

section
namespace Mine
open PySem PySem.W PySem.Calls PyProof.Rows

/-! ### the relation between the mini heap and the model's heap -/
/-- o: where the mini objects lie; c: the cells that closures hold -/
structure Rho where
  o : List (Addr × Addr)
  c : List Addr
noncomputable def O.live : O → Bool
  | .dead => false
  | _ => true
def owned (ρ : Rho) (h : H) (b : Addr) : Prop := ∃ (i : Nat) (p : Addr × Addr) (o : O), ρ.o[i]? = some p ∧ h[i]? = some o ∧ o.live = true ∧ (b = p.1 ∨ b = p.2)

noncomputable def gname (k : Nat) : Option Str := (gNames[k]?).map Str.ofString
noncomputable def attrS (k : Nat) : Option Str := (attrL[k]?).map Str.ofString
noncomputable def strS (k : Nat) : Option Str := (strL0[k]?).map Str.ofString
noncomputable def clsS (k : Nat) : Option Str := (clsNames[k]?).map Str.ofString

/-- the value that a global name bears -/
noncomputable def gval (K : Frag) (k : Nat) : Option Value := match kind k, gname k with
  | some (.bi _), some n => if nsIn K mainGlobals n == some none then bootBuiltins n else none
  | some _, some n => (nsIn K mainGlobals n).join
  | _, _ => none
noncomputable def clsAddr (K : Frag) (c : Nat) : Option Addr := match clsS c with
  | some n => (match nsIn K mainGlobals n with | some (some (.ref C)) => some C | _ => none)
  | none => none

/-- what is fixed while the law runs -/
structure Cx where
  prog : Program
  w : World
  K : Frag
  H0 : Heap

/-- a function object of the program's function k (by its shape, said later), its captured values -/
abbrev FdOk := Nat → FuncData → Prop

noncomputable def lenB : Nat := 1000000

structure IsClo (ok : FdOk) (hp : Heap) (κ : List Addr) (no : Addr → Prop) (k : Nat) (a : Addr) (vs : List Value) : Prop where
  fd : ∃ o fd, hp.get? a = some o ∧ o.data = .func fd ∧ ok k fd ∧ hp.CodeRec fd.code fd.qualname ∧
    ∃ ca, fd.code = .ref ca ∧ no ca ∧
    ∃ cs : List Addr, fd.closure.map (·.2) = cs ∧ cs.length = vs.length ∧ ∀ (i : Nat) (c : Addr) (v : Value), cs[i]? = some c → vs[i]? = some v → hp.IsCell c (some v) ∧ no c ∧ c ∈ κ
  no : no a

section
variable (x : Cx) (ok : FdOk) (ρ : Rho) (h : H) (hp : Heap)
mutual
noncomputable def Rel : V → Value → Prop
  | .non, v => v = .none
  | .bool b, v => v = .bool b
  | .int i, v => ∃ t, v = .int i t
  | .str k, v => ∃ s t, strS k = some s ∧ v = .str s t
  | .rng n, v => ∃ a t1 t2 t3, v = .ref a ∧ IsRange hp a 0 n 1 t1 t2 t3 ∧ ¬ owned ρ h a ∧ n.natAbs < 2 ^ 60
  | .tup l, v => ∃ a vs, v = .ref a ∧ IsTup hp a vs.toArray ∧ ¬ owned ρ h a ∧ l.length ≤ lenB ∧ RelL l vs
  | .lst l, v => ∃ a vs n, v = .ref a ∧ IsL hp a vs.toArray n ∧ ¬ owned ρ h a ∧ l.length ≤ lenB ∧ RelL l vs
  | .loc n, v => ∃ p, ρ.o[n]? = some p ∧ v = .ref p.1
  | .fn k, v => gval x.K k = some v
  | .clo k l, v => ∃ a vs, v = .ref a ∧ RelL l vs ∧ IsClo ok hp ρ.c (fun b => ¬ owned ρ h b) k a vs
noncomputable def RelL : List V → List Value → Prop
  | [], vs => vs = []
  | y :: r, vs => ∃ v vs', vs = v :: vs' ∧ Rel y v ∧ RelL r vs'
end

/-- the entries of a dict by ints -/
noncomputable def RelKV : List (Int × V) → List (Int × Value) → Prop
  | [], kvs => kvs = []
  | (k, y) :: r, kvs => ∃ v kvs', kvs = (k, v) :: kvs' ∧ Rel x ok ρ h hp y v ∧ RelKV r kvs'
/-- the fields of an object of a class -/
def FsRel (fs : List (Nat × V)) (fm : Str → Option Value) : Prop := ∀ n q, attrS n = some q → (∀ y, fs.lookup n = some y → ∃ v, fm q = some v ∧ Rel x ok ρ h hp y v) ∧ (fs.lookup n = none → fm q = none)

noncomputable def tabList : List (Int × Int) → List Addr → List Value
  | (a, b) :: r, c :: cs => rawInt a :: rawInt b :: .ref c :: tabList r cs
  | _, _ => []

def ObjRel (p : Addr × Addr) : O → Prop
  | .list l => ∃ vs n, IsL hp p.1 vs.toArray n ∧ l.length ≤ lenB ∧ RelL x ok ρ h hp l vs
  | .dict kv => ∃ kvs, hp.DictOf (intKind x.prog x.w) p.1 kvs ∧ kv.length ≤ lenB ∧ RelKV x ok ρ h hp kv kvs
  | .inst c fs => ∃ C fm, clsAddr x.K c = some C ∧ hp.get? p.1 = some (instObj C p.2) ∧ hp.Ns p.2 fm ∧ FsRel x ok ρ h hp fs fm ∧ ∃ es k, hp.get? p.2 = some (dictOf es k) ∧ es.length ≤ fs.length
  | .tab l => ∃ cs, hp.get? p.1 = some (tabObj (tabList l cs).toArray) ∧ l.length = cs.length ∧ p.1 = 885
  | .dead => True

structure Sim : Prop where
  len : ρ.o.length = h.length
  obj : ∀ (i : Nat) p o, ρ.o[i]? = some p → h[i]? = some o → ObjRel x ok ρ h hp p o
  disj : ∀ (i j : Nat) p q o o', i ≠ j → ρ.o[i]? = some p → ρ.o[j]? = some q → h[i]? = some o → h[j]? = some o' → o.live = true → o'.live = true →
    p.1 ≠ q.1 ∧ p.1 ≠ q.2 ∧ p.2 ≠ q.1 ∧ p.2 ≠ q.2
  lt : ∀ (i : Nat) p, ρ.o[i]? = some p → p.1 < hp.objs.size ∧ p.2 < hp.objs.size
  clt : ∀ c ∈ ρ.c, c < hp.objs.size
  static : ∀ b o, x.H0.get? b = some o → hp.get? b = some o ∧ ¬ owned ρ h b
end

/-- what a step keeps; L: the frame at hand, cs: its cells that may be written, lo: no cell below it is newly held by a closure -/
structure Step (L : Addr) (cs : List Addr) (lo : Addr) (ρ : Rho) (h : H) (hp : Heap) (ρ' : Rho) (h' : H) (hp' : Heap) : Prop where
  pre : ρ.o <+: ρ'.o
  cpre : ∀ c ∈ ρ.c, c ∈ ρ'.c
  cnew : ∀ c ∈ ρ'.c, c ∈ ρ.c ∨ lo ≤ c
  size : hp.objs.size ≤ hp'.objs.size
  keep : ∀ b o, b ≠ L → b ∉ cs → hp.get? b = some o → ¬ owned ρ h b → hp'.get? b = some o
  own : ∀ b, b < hp.objs.size → ¬ owned ρ h b → ¬ owned ρ' h' b

/-- what a step of an expression keeps besides -/
abbrev NsKept (L : Addr) (hp hp' : Heap) : Prop := ∀ m, hp.Ns L m → hp'.Ns L m

/-- an object that no value of the mini language is about: a cell, an iterator -/
def Quiet (o : Obj) : Prop := ∃ vs, o.data = .fields vs ∧ o.cls ≠ .type "range" ∧ ∀ s t, vs[1]? ≠ some (.str s t)
def Mov (o : Obj) : Prop := (∃ v, o.data = .cell v) ∨ Quiet o

/-- the frame: its locals' dict, its own cells -/
structure FrOk (L : Addr) (cs : List Addr) (lo : Addr) (ρ : Rho) (h : H) (hp : Heap) : Prop where
  ns : ∃ m, hp.Ns L m
  no : ¬ owned ρ h L
  cell : ∀ c ∈ cs, (∃ o, hp.get? c = some o ∧ Mov o) ∧ ¬ owned ρ h c ∧ c ∉ ρ.c ∧ c < lo
  lo : lo ≤ hp.objs.size

section
variable {L lo : Addr} {cs : List Addr} {ρ ρ' ρ'' : Rho} {h h' h'' : H} {hp hp' hp'' : Heap}
theorem Step.refl : Step L cs lo ρ h hp ρ h hp := ⟨List.prefix_rfl, fun _ e => e, fun _ e => .inl e, Nat.le_refl _, fun _ _ _ _ e _ => e, fun _ _ e => e⟩
theorem Step.trans (a : Step L cs lo ρ h hp ρ' h' hp') (b : Step L cs lo ρ' h' hp' ρ'' h'' hp'') : Step L cs lo ρ h hp ρ'' h'' hp'' where
  pre := a.pre.trans b.pre
  cpre := fun c e => b.cpre c (a.cpre c e)
  cnew := fun c e => (b.cnew c e).elim (a.cnew c) .inr
  size := Nat.le_trans a.size b.size
  keep := fun c o hc hs e n => b.keep c o hc hs (a.keep c o hc hs e n) (a.own c (Heap.lt_size e) n)
  own := fun c hc n => b.own c (Nat.lt_of_lt_of_le hc a.size) (a.own c hc n)
theorem Step.get (a : Step L cs lo ρ h hp ρ' h' hp') {i : Nat} {p : Addr × Addr} (e : ρ.o[i]? = some p) : ρ'.o[i]? = some p := by
  obtain ⟨t, q⟩ := a.pre
  rw [← q, List.getElem?_append_left (by have := (List.getElem?_eq_some_iff.mp e).1; exact this)]; exact e
theorem Step.wide (a : Step L [] lo ρ h hp ρ' h' hp') : Step L cs lo ρ h hp ρ' h' hp' :=
  { a with keep := fun b o hb _ e n => a.keep b o hb List.not_mem_nil e n }
/-- the step of a callee, seen from its caller -/
theorem Step.caller {L' lo' : Addr} {cs' : List Addr} (a : Step L' cs' lo' ρ h hp ρ' h' hp') (hL : hp.objs.size ≤ L') (hc : ∀ c ∈ cs', hp.objs.size ≤ c) (hl : lo ≤ lo') : Step L cs lo ρ h hp ρ' h' hp' :=
  { a with
    cnew := fun c e => (a.cnew c e).imp id (Nat.le_trans hl)
    keep := fun b o _ _ e n => a.keep b o (fun q => Nat.lt_irrefl _ (Nat.lt_of_lt_of_le (Heap.lt_size e) (q ▸ hL))) (fun q => Nat.lt_irrefl _ (Nat.lt_of_lt_of_le (Heap.lt_size e) (hc b q))) e n }
theorem Step.calledNs {L' lo' : Addr} {cs' : List Addr} (a : Step L' cs' lo' ρ h hp ρ' h' hp') (hL : hp.objs.size ≤ L') (hc : ∀ c ∈ cs', hp.objs.size ≤ c) (no : ¬ owned ρ h L) : NsKept L hp hp' := fun m e => by
  obtain ⟨o, es, ep, ho, r⟩ := e
  exact ⟨o, es, ep, a.keep L o (fun q => Nat.lt_irrefl _ (Nat.lt_of_lt_of_le (Heap.lt_size ho) (q ▸ hL))) (fun q => Nat.lt_irrefl _ (Nat.lt_of_lt_of_le (Heap.lt_size ho) (hc L q))) ho no, r⟩
theorem FrOk.step (F : FrOk L cs lo ρ h hp) (S : Step L [] lo ρ h hp ρ' h' hp') (N : NsKept L hp hp') : FrOk L cs lo ρ' h' hp' where
  ns := F.ns.imp fun m e => N m e
  no := S.own L (by obtain ⟨m, o, es, ep, ho, _⟩ := F.ns; exact Heap.lt_size ho) F.no
  cell := fun c hc => by
    obtain ⟨⟨oc, hoc, hd⟩, n1, n2, n3⟩ := F.cell c hc
    obtain ⟨m, o, es, ep, ho, hdo, _⟩ := F.ns
    refine ⟨⟨oc, S.keep c oc (fun q => ?_) List.not_mem_nil hoc n1, hd⟩, S.own c (Heap.lt_size hoc) n1, fun q => ?_, n3⟩
    · subst q; rw [hoc] at ho; cases ho; rcases hd with ⟨v, hd⟩ | ⟨vs, hd, _⟩ <;> (rw [hd] at hdo; cases hdo)
    · exact (S.cnew c q).elim n2 fun l => Nat.lt_irrefl _ (Nat.lt_of_lt_of_le n3 l)
  lo := Nat.le_trans F.lo S.size
end

section
variable {x : Cx} {ok : FdOk} {L lo : Addr} {cs : List Addr} {ρ ρ' : Rho} {h h' : H} {hp hp' : Heap} {m : Str → Option Value}
theorem noMov_seq {o : Obj} {vs n} (h : o.data = .seq vs n) : ¬ Mov o := by rintro (⟨v, e⟩ | ⟨v, e, _⟩) <;> (rw [h] at e; cases e)
theorem noMov_func {o : Obj} {fd} (h : o.data = .func fd) : ¬ Mov o := by rintro (⟨v, e⟩ | ⟨v, e, _⟩) <;> (rw [h] at e; cases e)
theorem noMov_code {o : Obj} {vs : Array Value} {q : Str} {t : Tok} (h : o.data = .fields vs) (e : vs[1]? = some (.str q t)) : ¬ Mov o := by
  rintro (⟨v, e'⟩ | ⟨v, e', _, z⟩) <;> (rw [h] at e'; cases e')
  exact z _ _ e
theorem noMov_range {o : Obj} {vs : Array Value} (h : o.data = .fields vs) (e : o.cls = .type "range") : ¬ Mov o := by
  rintro (⟨v, e'⟩ | ⟨v, e', z, _⟩)
  · rw [h] at e'; cases e'
  · exact z e
/-- an object that is no dict and no cell is kept -/
theorem Step.kept (S : Step L cs lo ρ h hp ρ' h' hp') (F : FrOk L cs lo ρ h hp) {b : Addr} {o : Obj} (e : hp.get? b = some o) (n : ¬ owned ρ h b) (h1 : ∀ es ep, o.data ≠ .dict es ep) (h2 : ¬ Mov o) : hp'.get? b = some o := by
  refine S.keep b o (fun q => ?_) (fun q => ?_) e n
  · subst q
    obtain ⟨m, o', es, ep, ho, hd, _⟩ := F.ns
    rw [e] at ho; cases ho; exact h1 _ _ hd
  · obtain ⟨⟨o', ho, hd⟩, _⟩ := F.cell b q
    rw [e] at ho; cases ho; exact h2 hd
theorem IsClo.step (S : Step L cs lo ρ h hp ρ' h' hp') (F : FrOk L cs lo ρ h hp) {k : Nat} {a : Addr} {vs : List Value} (c : IsClo ok hp ρ.c (fun b => ¬ owned ρ h b) k a vs) : IsClo ok hp' ρ'.c (fun b => ¬ owned ρ' h' b) k a vs := by
  obtain ⟨⟨o, fd, ho, hd, hk, hc, ca, hca, nca, cl, e1, e2, e3⟩, na⟩ := c
  refine ⟨⟨o, fd, S.kept F ho na (by rw [hd]; exact fun _ _ q => by cases q) (noMov_func hd), hd, hk, ?_, ca, hca, ?_, cl, e1, e2, fun i c v hi hv => ?_⟩, S.own _ (Heap.lt_size ho) na⟩
  · obtain ⟨c', oc, ws, tq, q1, q2, q3, q4⟩ := hc
    rw [hca] at q1; cases q1
    exact ⟨ca, oc, ws, tq, hca, S.kept F q2 nca (by rw [q3]; exact fun _ _ q => by cases q) (noMov_code q3 q4), q3, q4⟩
  · obtain ⟨c', oc, ws, tq, q1, q2, q3, q4⟩ := hc
    rw [hca] at q1; cases q1
    exact S.own _ (Heap.lt_size q2) nca
  · obtain ⟨⟨oc, hoc, hdc⟩, nc, hκ⟩ := e3 i c v hi hv
    refine ⟨⟨oc, S.keep _ _ (fun q => ?_) (fun q => (F.cell c q).2.2.1 hκ) hoc nc, hdc⟩, S.own _ (Heap.lt_size hoc) nc, S.cpre _ hκ⟩
    subst q
    obtain ⟨m, o', es, ep, ho', hd', _⟩ := F.ns
    rw [hoc] at ho'; cases ho'; rw [hdc] at hd'; cases hd'

mutual
theorem Rel.step (S : Step L cs lo ρ h hp ρ' h' hp') (n : FrOk L cs lo ρ h hp) : ∀ {y : V} {v : Value}, Rel x ok ρ h hp y v → Rel x ok ρ' h' hp' y v
  | .non, _, r => r
  | .bool _, _, r => r
  | .int _, _, r => r
  | .str _, _, r => r
  | .fn _, _, r => r
  | .loc _, _, ⟨p, e, r⟩ => ⟨p, S.get e, r⟩
  | .rng _, _, ⟨a, t1, t2, t3, e, r, no, b⟩ => ⟨a, t1, t2, t3, e, S.kept n r no (fun _ _ q => by cases q) (noMov_range rfl rfl), S.own _ (Heap.lt_size r) no, b⟩
  | .tup l, _, ⟨a, vs, e, r, no, b, rl⟩ => by
      obtain ⟨o, ho, hc, ep, hd⟩ := r
      exact ⟨a, vs, e, ⟨o, S.kept n ho no (fun _ _ q => by rw [hd] at q; cases q) (noMov_seq hd), hc, ep, hd⟩, S.own _ (Heap.lt_size ho) no, b, RelL.step S n rl⟩
  | .lst l, _, ⟨a, vs, ep, e, r, no, b, rl⟩ =>
      ⟨a, vs, ep, e, S.kept n r no (fun _ _ q => by cases q) (noMov_seq rfl), S.own _ (Heap.lt_size r) no, b, RelL.step S n rl⟩
  | .clo _ l, _, ⟨a, vs, e, rl, c⟩ => ⟨a, vs, e, RelL.step S n rl, c.step S n⟩
theorem RelL.step (S : Step L cs lo ρ h hp ρ' h' hp') (n : FrOk L cs lo ρ h hp) : ∀ {l : List V} {vs : List Value}, RelL x ok ρ h hp l vs → RelL x ok ρ' h' hp' l vs
  | [], _, r => r
  | _ :: _, _, ⟨v, vs', e, a, b⟩ => ⟨v, vs', e, Rel.step S n a, RelL.step S n b⟩
end
theorem RelKV.step (S : Step L cs lo ρ h hp ρ' h' hp') (n : FrOk L cs lo ρ h hp) : ∀ {l : List (Int × V)} {vs : List (Int × Value)}, RelKV x ok ρ h hp l vs → RelKV x ok ρ' h' hp' l vs
  | [], _, r => r
  | (_, _) :: _, _, ⟨v, vs', e, a, b⟩ => ⟨v, vs', e, Rel.step S n a, RelKV.step S n b⟩
theorem FsRel.step (S : Step L cs lo ρ h hp ρ' h' hp') (n : FrOk L cs lo ρ h hp) {fs : List (Nat × V)} {fm : Str → Option Value} (r : FsRel x ok ρ h hp fs fm) : FsRel x ok ρ' h' hp' fs fm := fun k q e =>
  ⟨fun y ey => let ⟨v, a, b⟩ := (r k q e).1 y ey; ⟨v, a, b.step S n⟩, (r k q e).2⟩
end
end Mine
end

section
namespace Mine
open PySem PySem.W PySem.Calls PyProof.Rows

section
variable {x : Cx} {ok : FdOk} {L lo : Addr} {cs : List Addr} {ρ ρ' : Rho} {h h' : H} {hp hp' : Heap}

theorem dictOf_at {prog : Program} {w : World} {a : Addr} {kvs : List (Int × Value)} (d : hp.DictOf (intKind prog w) a kvs) (e : hp'.get? a = hp.get? a) : hp'.DictOf (intKind prog w) a kvs := by
  obtain ⟨o, es, ep, ho, r⟩ := d
  exact ⟨o, es, ep, e.trans ho, r⟩

theorem ObjRel.move (S : Step L cs lo ρ h hp ρ' h' hp') (F : FrOk L cs lo ρ h hp) {p : Addr × Addr} {o : O} (k1 : hp'.get? p.1 = hp.get? p.1) (k2 : hp'.get? p.2 = hp.get? p.2)
    (r : ObjRel x ok ρ h hp p o) : ObjRel x ok ρ' h' hp' p o := by
  cases o with
  | list l => obtain ⟨vs, n, a, b, c⟩ := r; exact ⟨vs, n, k1.trans a, b, c.step S F⟩
  | dict kv => obtain ⟨kvs, a, b, c⟩ := r; exact ⟨kvs, dictOf_at a k1, b, c.step S F⟩
  | inst c fs => obtain ⟨C, fm, a, b, ⟨od, es, ep, d, dd⟩, f, es', k, d', le⟩ := r; exact ⟨C, fm, a, k1.trans b, ⟨od, es, ep, k2.trans d, dd⟩, f.step S F, es', k, k2.trans d', le⟩
  | tab l => obtain ⟨cs, a, b⟩ := r; exact ⟨cs, k1.trans a, b⟩
  | dead => trivial

theorem get?_same (k : ∀ b o, hp.get? b = some o → hp'.get? b = some o) {b : Addr} {o : Obj} (e : hp.get? b = some o) : hp'.get? b = hp.get? b := (k b o e).trans e.symm

theorem Sim.at1 (S : Sim x ok ρ h hp) {i : Nat} {p : Addr × Addr} {o : O} (hi : ρ.o[i]? = some p) (ho : h[i]? = some o) (hl : o.live = true) : (∃ o, hp.get? p.1 = some o) ∧ ((∃ o, hp.get? p.2 = some o) ∨ ∀ c fs, o ≠ .inst c fs) := by
  have r := S.obj i p o hi ho
  cases o with
  | list l => obtain ⟨vs, n, a, _⟩ := r; exact ⟨⟨_, a⟩, .inr fun _ _ e => by cases e⟩
  | dict kv => obtain ⟨kvs, ⟨o, _, _, a, _⟩, _⟩ := r; exact ⟨⟨_, a⟩, .inr fun _ _ e => by cases e⟩
  | inst c fs => obtain ⟨C, fm, _, b, ⟨od, _, _, d, _⟩, _⟩ := r; exact ⟨⟨_, b⟩, .inl ⟨_, d⟩⟩
  | tab l => obtain ⟨cs, a, _⟩ := r; exact ⟨⟨_, a⟩, .inr fun _ _ e => by cases e⟩
  | dead => cases hl

/-- an object whose one address lies in p.1 alone does not look at p.2 -/
theorem ObjRel.move1 (S : Step L cs lo ρ h hp ρ' h' hp') (F : FrOk L cs lo ρ h hp) {p : Addr × Addr} {o : O} (k1 : hp'.get? p.1 = hp.get? p.1) (k2 : (∀ c fs, o ≠ .inst c fs) ∨ hp'.get? p.2 = hp.get? p.2)
    (r : ObjRel x ok ρ h hp p o) : ObjRel x ok ρ' h' hp' p o := by
  cases o with
  | inst c fs => exact r.move S F k1 (k2.elim (fun z => absurd rfl (z c fs)) id)
  | list l => obtain ⟨vs, n, a, b, c⟩ := r; exact ⟨vs, n, k1.trans a, b, c.step S F⟩
  | dict kv => obtain ⟨kvs, a, b, c⟩ := r; exact ⟨kvs, dictOf_at a k1, b, c.step S F⟩
  | tab l => obtain ⟨cs, a, b⟩ := r; exact ⟨cs, k1.trans a, b⟩
  | dead => trivial

theorem Sim.moved (S : Sim x ok ρ h hp) (T : Step L cs lo ρ h hp ρ' h' hp') (F : FrOk L cs lo ρ h hp) (k : ∀ b o, hp.get? b = some o → hp'.get? b = some o) {i : Nat} {p : Addr × Addr} {o : O} (hi : ρ.o[i]? = some p) (ho : h[i]? = some o) :
    ObjRel x ok ρ' h' hp' p o := by
  by_cases hl : o.live = true
  · obtain ⟨⟨o1, e1⟩, e2⟩ := S.at1 hi ho hl
    exact (S.obj i p o hi ho).move1 T F (get?_same k e1) (e2.elim (fun ⟨o2, e⟩ => .inr (get?_same k e)) .inl)
  · cases o <;> first | exact absurd rfl hl | trivial

/-- temporaries: the heap grows, nothing else -/
theorem Step.grow (k : ∀ b o, hp.get? b = some o → hp'.get? b = some o) (z : hp.objs.size ≤ hp'.objs.size) : Step L cs lo ρ h hp ρ h hp' :=
  ⟨List.prefix_rfl, fun _ e => e, fun _ e => .inl e, z, fun b o _ _ e _ => k b o e, fun _ _ e => e⟩
theorem Sim.grow (S : Sim x ok ρ h hp) (F : FrOk L cs lo ρ h hp) (k : ∀ b o, hp.get? b = some o → hp'.get? b = some o) (z : hp.objs.size ≤ hp'.objs.size) : Sim x ok ρ h hp' where
  len := S.len
  obj := fun i p o hi ho => S.moved (Step.grow k z) F k hi ho
  disj := S.disj
  lt := fun i p e => ⟨Nat.lt_of_lt_of_le (S.lt i p e).1 z, Nat.lt_of_lt_of_le (S.lt i p e).2 z⟩
  clt := fun c e => Nat.lt_of_lt_of_le (S.clt c e) z
  static := fun b o e => ⟨k _ _ (S.static b o e).1, (S.static b o e).2⟩
theorem nsKept_grow (k : ∀ b o, hp.get? b = some o → hp'.get? b = some o) : NsKept L hp hp' := fun m ⟨o, es, ep, e, r⟩ => ⟨o, es, ep, k _ _ e, r⟩

theorem Sim.lt_owned (S : Sim x ok ρ h hp) {b : Addr} (e : owned ρ h b) : b < hp.objs.size := by
  obtain ⟨i, p, o, hi, _, _, q⟩ := e
  rcases q with rfl | rfl
  · exact (S.lt i p hi).1
  · exact (S.lt i p hi).2

theorem owned_push {a : Addr × Addr} {o : O} (len : ρ.o.length = h.length) {b : Addr} (e : owned ⟨ρ.o ++ [a], ρ.c⟩ (h ++ [o]) b) : owned ρ h b ∨ b = a.1 ∨ b = a.2 := by
  obtain ⟨i, p, o', hi, ho, hl, q⟩ := e
  dsimp only at hi
  by_cases c : i < ρ.o.length
  · rw [List.getElem?_append_left c] at hi
    rw [List.getElem?_append_left (len ▸ c)] at ho
    exact .inl ⟨i, p, o', hi, ho, hl, q⟩
  · rw [List.getElem?_append_right (Nat.le_of_not_lt c)] at hi
    have : i - ρ.o.length = 0 := by
      cases hz : i - ρ.o.length with
      | zero => rfl
      | succ n => rw [hz] at hi; simp at hi
    rw [this] at hi
    cases hi
    exact .inr q

/-- a new mini object -/
theorem Sim.alloc (S : Sim x ok ρ h hp) (F : FrOk L cs lo ρ h hp) (k : ∀ b o, hp.get? b = some o → hp'.get? b = some o) {a : Addr × Addr} {o : O}
    (z : hp.objs.size ≤ hp'.objs.size) (a1 : hp.objs.size ≤ a.1) (a2 : hp.objs.size ≤ a.2) (b1 : a.1 < hp'.objs.size) (b2 : a.2 < hp'.objs.size)
    (r : Step L cs lo ρ h hp ⟨ρ.o ++ [a], ρ.c⟩ (h ++ [o]) hp' → ObjRel x ok ⟨ρ.o ++ [a], ρ.c⟩ (h ++ [o]) hp' a o) :
    Sim x ok ⟨ρ.o ++ [a], ρ.c⟩ (h ++ [o]) hp' ∧ Step L cs lo ρ h hp ⟨ρ.o ++ [a], ρ.c⟩ (h ++ [o]) hp' := by
  have ow : ∀ b, b < hp.objs.size → ¬ owned ρ h b → ¬ owned ⟨ρ.o ++ [a], ρ.c⟩ (h ++ [o]) b := fun b hb n e => by
    rcases owned_push S.len e with e | e | e
    · exact n e
    · rw [e] at hb; exact Nat.lt_irrefl _ (Nat.lt_of_lt_of_le hb a1)
    · rw [e] at hb; exact Nat.lt_irrefl _ (Nat.lt_of_lt_of_le hb a2)
  have T : Step L cs lo ρ h hp ⟨ρ.o ++ [a], ρ.c⟩ (h ++ [o]) hp' :=
    ⟨List.prefix_append _ _, fun _ e => e, fun _ e => .inl e, z, fun b o _ _ e _ => k b o e, ow⟩
  have get : ∀ {i : Nat} {p : Addr × Addr} {o' : O}, (ρ.o ++ [a])[i]? = some p → (h ++ [o])[i]? = some o' → (ρ.o[i]? = some p ∧ h[i]? = some o') ∨ (i = ρ.o.length ∧ p = a ∧ o' = o) := by
    intro i p o' hi ho
    by_cases c : i < ρ.o.length
    · rw [List.getElem?_append_left c] at hi
      rw [List.getElem?_append_left (S.len ▸ c)] at ho
      exact .inl ⟨hi, ho⟩
    · have c' := Nat.le_of_not_lt c
      rw [List.getElem?_append_right c'] at hi
      rw [List.getElem?_append_right (S.len ▸ c'), ← S.len] at ho
      have : i - ρ.o.length = 0 := by
        cases hz : i - ρ.o.length with
        | zero => rfl
        | succ n => rw [hz] at hi; simp at hi
      rw [this] at hi ho
      cases hi; cases ho
      exact .inr ⟨by lia, rfl, rfl⟩
  refine ⟨⟨by simp [S.len], fun i p o' hi ho => ?_, fun i j p q o1 o2 ne hi hj ho1 ho2 l1 l2 => ?_, fun i p hi => ?_, fun c e => Nat.lt_of_lt_of_le (S.clt c e) z, fun b ob e => ?_⟩, T⟩
  · rcases get hi ho with ⟨hi, ho⟩ | ⟨rfl, rfl, rfl⟩
    · exact S.moved T F k hi ho
    · exact r T
  · rcases get hi ho1 with ⟨hi', ho1'⟩ | ⟨e1, e2, e3⟩ <;> rcases get hj ho2 with ⟨hj', ho2'⟩ | ⟨f1, f2, f3⟩
    · exact S.disj i j p q o1 o2 ne hi' hj' ho1' ho2' l1 l2
    · have := S.lt i p hi'
      rw [f2]
      exact ⟨Nat.ne_of_lt (Nat.lt_of_lt_of_le this.1 a1), Nat.ne_of_lt (Nat.lt_of_lt_of_le this.1 a2), Nat.ne_of_lt (Nat.lt_of_lt_of_le this.2 a1), Nat.ne_of_lt (Nat.lt_of_lt_of_le this.2 a2)⟩
    · have := S.lt j q hj'
      rw [e2]
      exact ⟨Nat.ne_of_gt (Nat.lt_of_lt_of_le this.1 a1), Nat.ne_of_gt (Nat.lt_of_lt_of_le this.2 a1), Nat.ne_of_gt (Nat.lt_of_lt_of_le this.1 a2), Nat.ne_of_gt (Nat.lt_of_lt_of_le this.2 a2)⟩
    · exact absurd (e1.trans f1.symm) ne
  · by_cases c : i < ρ.o.length
    · rw [List.getElem?_append_left c] at hi
      have := S.lt i p hi
      exact ⟨Nat.lt_of_lt_of_le this.1 z, Nat.lt_of_lt_of_le this.2 z⟩
    · rw [List.getElem?_append_right (Nat.le_of_not_lt c)] at hi
      have : i - ρ.o.length = 0 := by
        cases hz : i - ρ.o.length with
        | zero => rfl
        | succ n => rw [hz] at hi; simp at hi
      rw [this] at hi; cases hi
      exact ⟨b1, b2⟩
  · have := S.static b ob e
    exact ⟨k _ _ this.1, ow b (Heap.lt_size this.1) this.2⟩

theorem owned_set {i : Nat} {o' : O} (hl : ∀ o, h[i]? = some o → o'.live = true → o.live = true) {b : Addr} (e : owned ρ (h.set i o') b) : owned ρ h b := by
  obtain ⟨j, p, o, hj, ho, l, q⟩ := e
  by_cases c : j = i
  · subst c
    rw [List.getElem?_set_self'] at ho
    cases hh : h[j]? with
    | none => rw [hh] at ho; cases ho
    | some o1 => rw [hh] at ho; cases ho; exact ⟨j, p, o1, hj, hh, hl o1 hh l, q⟩
  · rw [List.getElem?_set_ne (Ne.symm c)] at ho
    exact ⟨j, p, o, hj, ho, l, q⟩

/-- a mini object is changed -/
theorem Sim.set (S : Sim x ok ρ h hp) (F : FrOk L cs lo ρ h hp) {i : Nat} {p : Addr × Addr} {o o' : O} {a : Addr} (hi : ρ.o[i]? = some p) (ho : h[i]? = some o) (hl : o.live = true)
    (hs : Heap.SameBut a hp hp') (ha : a = p.1 ∨ a = p.2)
    (r : Step L [] lo ρ h hp ρ (h.set i o') hp' → ObjRel x ok ρ (h.set i o') hp' p o') :
    Sim x ok ρ (h.set i o') hp' ∧ Step L [] lo ρ h hp ρ (h.set i o') hp' ∧ NsKept L hp hp' := by
  have own : owned ρ h a := ⟨i, p, o, hi, ho, hl, ha⟩
  have ow : ∀ {b}, owned ρ (h.set i o') b → owned ρ h b := fun e => owned_set (fun o1 h1 _ => by rw [ho] at h1; cases h1; exact hl) e
  have T : Step L [] lo ρ h hp ρ (h.set i o') hp' := ⟨List.prefix_rfl, fun _ e => e, fun _ e => .inl e, Nat.le_of_eq hs.1.symm, fun b ob _ _ e n => (hs.2 b fun q => n (q ▸ own)).trans e, fun b _ n e => n (ow e)⟩
  have F' : FrOk L [] lo ρ h hp := ⟨F.ns, F.no, (fun _ q => nomatch q), F.lo⟩
  refine ⟨⟨by simp [S.len], fun j q o1 hj ho1 => ?_, fun j k q s o1 o2 ne hj hk h1 h2 l1 l2 => ?_, fun j q hj => ?_, fun c e => by rw [hs.1]; exact S.clt c e, fun b ob e => ?_⟩, T, ?_⟩
  · by_cases c : j = i
    · subst c
      rw [List.getElem?_set_self', ho] at ho1
      cases ho1
      rw [hi] at hj; cases hj
      exact r T
    · rw [List.getElem?_set_ne (Ne.symm c)] at ho1
      by_cases l1 : o1.live = true
      · have d := S.disj j i q p o1 o c hj hi ho1 ho l1 hl
        refine (S.obj j q o1 hj ho1).move T F' (hs.2 _ ?_) (hs.2 _ ?_)
        · rcases ha with rfl | rfl
          · exact d.1
          · exact d.2.1
        · rcases ha with rfl | rfl
          · exact d.2.2.1
          · exact d.2.2.2
      · cases o1 <;> first | exact absurd rfl l1 | trivial
  · have back : ∀ {j : Nat} {o1 : O}, (h.set i o')[j]? = some o1 → o1.live = true → ∃ o2, h[j]? = some o2 ∧ o2.live = true := by
      intro j o1 e l
      by_cases c : j = i
      · subst c; exact ⟨o, ho, hl⟩
      · rw [List.getElem?_set_ne (Ne.symm c)] at e; exact ⟨o1, e, l⟩
    obtain ⟨_, e1, m1⟩ := back h1 l1
    obtain ⟨_, e2, m2⟩ := back h2 l2
    exact S.disj j k q s _ _ ne hj hk e1 e2 m1 m2
  · rw [hs.1]; exact S.lt j q hj
  · have := S.static b ob e
    exact ⟨(hs.2 b fun q => this.2 (q ▸ own)).trans this.1, fun q => this.2 (ow q)⟩
  · intro m n
    exact n.sameBut hs fun q => F.no (q ▸ own)

/-- a list is frozen: it is no mini object any more -/
theorem Sim.kill (S : Sim x ok ρ h hp) (F : FrOk L cs lo ρ h hp) {i : Nat} {p : Addr × Addr} {o : O} (hi : ρ.o[i]? = some p) (ho : h[i]? = some o) (hl : o.live = true) :
    Sim x ok ρ (h.set i .dead) hp ∧ Step L cs lo ρ h hp ρ (h.set i .dead) hp ∧ ¬ owned ρ (h.set i .dead) p.1 := by
  have ow : ∀ {b}, owned ρ (h.set i .dead) b → owned ρ h b := fun e => owned_set (fun _ _ q => by cases q) e
  have T : Step L cs lo ρ h hp ρ (h.set i .dead) hp := ⟨List.prefix_rfl, fun _ e => e, fun _ e => .inl e, Nat.le_refl _, fun b ob _ _ e n => e, fun b _ n e => n (ow e)⟩
  have back : ∀ {j : Nat} {o1 : O}, (h.set i .dead)[j]? = some o1 → o1.live = true → h[j]? = some o1 ∧ j ≠ i := by
    intro j o1 e l
    by_cases c : j = i
    · subst c
      rw [List.getElem?_set_self', ho] at e; cases e; cases l
    · rw [List.getElem?_set_ne (Ne.symm c)] at e; exact ⟨e, c⟩
  refine ⟨⟨by simp [S.len], fun j q o1 hj ho1 => ?_, fun j k q s o1 o2 ne hj hk h1 h2 l1 l2 => S.disj j k q s _ _ ne hj hk (back h1 l1).1 (back h2 l2).1 l1 l2, S.lt, S.clt, fun b ob e => ⟨(S.static b ob e).1, fun q => (S.static b ob e).2 (ow q)⟩⟩, T, ?_⟩
  · by_cases l1 : o1.live = true
    · exact (S.obj j q o1 hj (back ho1 l1).1).move T F rfl rfl
    · cases o1 <;> first | exact absurd rfl l1 | trivial
  · rintro ⟨j, q, o1, hj, ho1, l1, e⟩
    obtain ⟨e1, ne⟩ := back ho1 l1
    have := S.disj j i q p o1 o ne hj hi e1 ho l1 hl
    rcases e with e | e
    · exact this.1 e.symm
    · exact this.2.2.1 e.symm

/-- a cell or an iterator of the frame's own, or the frame's dict, is written -/
theorem Sim.upd (S : Sim x ok ρ h hp) (F : FrOk L cs lo ρ h hp) {a : Addr} (hs : Heap.SameBut a hp hp') (ha : a = L ∨ a ∈ cs) (hst : x.H0.get? a = none) :
    Sim x ok ρ h hp' ∧ Step L cs lo ρ h hp ρ h hp' := by
  have no : ¬ owned ρ h a := by
    rcases ha with rfl | ha
    · exact F.no
    · exact (F.cell a ha).2.1
  have T : Step L cs lo ρ h hp ρ h hp' := ⟨List.prefix_rfl, fun _ e => e, fun _ e => .inl e, Nat.le_of_eq hs.1.symm, fun b ob h1 h2 e n => (hs.2 b fun q => ha.elim (fun r => h1 (q.trans r)) fun r => h2 (q ▸ r)).trans e, fun b _ n e => n e⟩
  refine ⟨⟨S.len, fun j q o1 hj ho1 => ?_, S.disj, fun j q hj => by rw [hs.1]; exact S.lt j q hj, fun c e => by rw [hs.1]; exact S.clt c e, fun b ob e => ?_⟩, T⟩
  · by_cases l1 : o1.live = true
    · exact (S.obj j q o1 hj ho1).move T F (hs.2 _ fun q' => no ⟨j, q, o1, hj, ho1, l1, .inl q'.symm⟩) (hs.2 _ fun q' => no ⟨j, q, o1, hj, ho1, l1, .inr q'.symm⟩)
    · cases o1 <;> first | exact absurd rfl l1 | trivial
  · have := S.static b ob e
    exact ⟨(hs.2 b fun q => by rw [q, hst] at e; cases e).trans this.1, this.2⟩
end
end Mine
end

section
namespace Mine
open PySem PySem.W PySem.Calls PyProof.Rows

/-! ### that a mini text is the form of a text in Python -/
abbrev NS := List (Str × NameKind)
noncomputable def isLoc : Option NameKind → Bool
  | some .local => true
  | some .cell => true
  | some .free => true
  | _ => false
noncomputable def isCellK : Option NameKind → Bool
  | some .cell => true
  | some .free => true
  | _ => false
noncomputable def plainName (x : Str) : Bool := x != Str.ofString "__debug__" && x != Str.ofString "__classdict__"
noncomputable def opOk (b : B) (o : Operator) : Bool := match b with
  | .add => o == .Add | .sub => o == .Sub | .mul => o == .Mult | .fdiv => o == .FloorDiv | .mod => o == .Mod
  | .shl => o == .LShift | .shr => o == .RShift | .band => o == .BitAnd | .bor => o == .BitOr | .bxor => o == .BitXor
noncomputable def cmOk (b : Cm) (o : CmpOp) : Bool := match b with
  | .eq => o == .Eq | .ne => o == .NotEq | .lt => o == .Lt | .le => o == .LtE | .gt => o == .Gt | .ge => o == .GtE
  | .isn => o == .Is | .isnt => o == .IsNot | .mem => o == .In | .nmem => o == .NotIn
noncomputable def isSetE (E : Expr) : Bool := E.ctorIdx == 7
noncomputable def isCallE (E : Expr) : Bool := E.ctorIdx == 16
noncomputable def isSliceE (E : Expr) : Bool := E.ctorIdx == 26
noncomputable def isStarE (E : Expr) : Bool := E.ctorIdx == 22
noncomputable def isNameE (E : Expr) : Bool := E.ctorIdx == 23
noncomputable def slotIs (ns : NS) (sl : List Str) (i : Nat) (x : Str) : Bool := sl[i]? == some x && isLoc (ns.lookup x) && plainName x
/-- the names of a comprehension's own block -/
noncomputable def compNS (ns : NS) (own : NS) : NS := own.map fun (n, k) => if k == .free && ns.lookup n == some .cell then (n, .cell) else (n, k)
noncomputable def compScopeOk (ns : NS) (x : Str) (sc : Scope) : Bool :=
  sc.kind == .function && !sc.isGenerator && !sc.isCoroutine && sc.names.lookup x == some .local && (sc.names.filter fun p => p.2 == .local || p.2 == .cell).map (·.1) == [Str.ofString ".0", x] &&
  sc.names.all (fun p => p.2 != .cell && (p.2 != .free || isCellK (ns.lookup p.1))) && x != Str.ofString ".0" && plainName x && decide (sc.names.map (·.1)).Nodup

noncomputable def isTrueX : X → Bool
  | .bool true => true
  | _ => false

noncomputable def isGlob (k : Nat) : Bool := decide (k < 43) || (decide (60 ≤ k) && decide (k ≤ 64))
/-! ### views, each with its eliminator -/
theorem ff {P : Prop} (h : false = true) : P := nomatch h
theorem and_el {a b : Bool} {P : Prop} (h : (a && b) = true) (k : a = true → b = true → P) : P := by
  cases a with
  | false => exact ff h
  | true => exact k rfl h
theorem dite_el {c : Prop} [Decidable c] {f : c → Bool} (h : (if q : c then f q else false) = true) : c := by
  by_cases q : c
  · exact q
  · rw [dif_neg q] at h; exact ff h
theorem not_t {a : Bool} (h : (!a) = true) : a = false := by
  cases a with
  | false => rfl
  | true => exact ff h
noncomputable def bName (E : Expr) (f : Str → Bool) : Bool := if h : E.ctorIdx = 23 then PySem.Expr.Name.elim (motive_1 := fun _ => Bool) E h (fun q p => f q) else false
@[elab_as_elim] theorem bName_el {P : Expr → Prop} {E : Expr} {f : Str → Bool} (h : bName E f = true) (kk : ∀ q p, f q = true → P (.Name q p)) : P E :=
  PySem.Expr.Name.elim (motive_1 := fun E => bName E f = true → P E) E (dite_el h) (fun q p h => kk q p h) h
noncomputable def bCn (E : Expr) (f : Const → Bool) : Bool := if h : E.ctorIdx = 19 then PySem.Expr.Constant.elim (motive_1 := fun _ => Bool) E h (fun q k p => f q) else false
@[elab_as_elim] theorem bCn_el {P : Expr → Prop} {E : Expr} {f : Const → Bool} (h : bCn E f = true) (kk : ∀ q k p, f q = true → P (.Constant q k p)) : P E :=
  PySem.Expr.Constant.elim (motive_1 := fun E => bCn E f = true → P E) E (dite_el h) (fun q k p h => kk q k p h) h
noncomputable def bBin (E : Expr) (f : Expr → Operator → Expr → Bool) : Bool := if h : E.ctorIdx = 2 then PySem.Expr.BinOp.elim (motive_1 := fun _ => Bool) E h (fun l o r p => f l o r) else false
@[elab_as_elim] theorem bBin_el {P : Expr → Prop} {E : Expr} {f : Expr → Operator → Expr → Bool} (h : bBin E f = true) (kk : ∀ l o r p, f l o r = true → P (.BinOp l o r p)) : P E :=
  PySem.Expr.BinOp.elim (motive_1 := fun E => bBin E f = true → P E) E (dite_el h) (fun l o r p h => kk l o r p h) h
noncomputable def bUn (E : Expr) (f : UnaryOp → Expr → Bool) : Bool := if h : E.ctorIdx = 3 then PySem.Expr.UnaryOp.elim (motive_1 := fun _ => Bool) E h (fun o q p => f o q) else false
@[elab_as_elim] theorem bUn_el {P : Expr → Prop} {E : Expr} {f : UnaryOp → Expr → Bool} (h : bUn E f = true) (kk : ∀ o q p, f o q = true → P (.UnaryOp o q p)) : P E :=
  PySem.Expr.UnaryOp.elim (motive_1 := fun E => bUn E f = true → P E) E (dite_el h) (fun o q p h => kk o q p h) h
noncomputable def bCmp (E : Expr) (f : Expr → List CmpOp → List Expr → Bool) : Bool := if h : E.ctorIdx = 15 then PySem.Expr.Compare.elim (motive_1 := fun _ => Bool) E h (fun l o r p => f l o r) else false
@[elab_as_elim] theorem bCmp_el {P : Expr → Prop} {E : Expr} {f : Expr → List CmpOp → List Expr → Bool} (h : bCmp E f = true) (kk : ∀ l o r p, f l o r = true → P (.Compare l o r p)) : P E :=
  PySem.Expr.Compare.elim (motive_1 := fun E => bCmp E f = true → P E) E (dite_el h) (fun l o r p h => kk l o r p h) h
noncomputable def bBoo (E : Expr) (f : BoolOp → List Expr → Pos → Bool) : Bool := if h : E.ctorIdx = 0 then PySem.Expr.BoolOp.elim (motive_1 := fun _ => Bool) E h (fun o q p => f o q p) else false
@[elab_as_elim] theorem bBoo_el {P : Expr → Prop} {E : Expr} {f : BoolOp → List Expr → Pos → Bool} (h : bBoo E f = true) (kk : ∀ o q p, f o q p = true → P (.BoolOp o q p)) : P E :=
  PySem.Expr.BoolOp.elim (motive_1 := fun E => bBoo E f = true → P E) E (dite_el h) (fun o q p h => kk o q p h) h
noncomputable def bIf (E : Expr) (f : Expr → Expr → Expr → Bool) : Bool := if h : E.ctorIdx = 5 then PySem.Expr.IfExp.elim (motive_1 := fun _ => Bool) E h (fun a b d p => f a b d) else false
@[elab_as_elim] theorem bIf_el {P : Expr → Prop} {E : Expr} {f : Expr → Expr → Expr → Bool} (h : bIf E f = true) (kk : ∀ a b d p, f a b d = true → P (.IfExp a b d p)) : P E :=
  PySem.Expr.IfExp.elim (motive_1 := fun E => bIf E f = true → P E) E (dite_el h) (fun a b d p h => kk a b d p h) h
noncomputable def bCall (E : Expr) (f : Expr → List Expr → List Keyword → Pos → Bool) : Bool := if h : E.ctorIdx = 16 then PySem.Expr.Call.elim (motive_1 := fun _ => Bool) E h (fun g a k p => f g a k p) else false
@[elab_as_elim] theorem bCall_el {P : Expr → Prop} {E : Expr} {f : Expr → List Expr → List Keyword → Pos → Bool} (h : bCall E f = true) (kk : ∀ g a k p, f g a k p = true → P (.Call g a k p)) : P E :=
  PySem.Expr.Call.elim (motive_1 := fun E => bCall E f = true → P E) E (dite_el h) (fun g a k p h => kk g a k p h) h
noncomputable def bAttr (E : Expr) (f : Expr → Str → Pos → Bool) : Bool := if h : E.ctorIdx = 20 then PySem.Expr.Attribute.elim (motive_1 := fun _ => Bool) E h (fun o q p => f o q p) else false
@[elab_as_elim] theorem bAttr_el {P : Expr → Prop} {E : Expr} {f : Expr → Str → Pos → Bool} (h : bAttr E f = true) (kk : ∀ o q p, f o q p = true → P (.Attribute o q p)) : P E :=
  PySem.Expr.Attribute.elim (motive_1 := fun E => bAttr E f = true → P E) E (dite_el h) (fun o q p h => kk o q p h) h
noncomputable def bSub (E : Expr) (f : Expr → Expr → Bool) : Bool := if h : E.ctorIdx = 21 then PySem.Expr.Subscript.elim (motive_1 := fun _ => Bool) E h (fun o q p => f o q) else false
@[elab_as_elim] theorem bSub_el {P : Expr → Prop} {E : Expr} {f : Expr → Expr → Bool} (h : bSub E f = true) (kk : ∀ o q p, f o q = true → P (.Subscript o q p)) : P E :=
  PySem.Expr.Subscript.elim (motive_1 := fun E => bSub E f = true → P E) E (dite_el h) (fun o q p h => kk o q p h) h
noncomputable def bSli (E : Expr) (f : Option Expr → Option Expr → Option Expr → Bool) : Bool := if h : E.ctorIdx = 26 then PySem.Expr.Slice.elim (motive_1 := fun _ => Bool) E h (fun a b d p => f a b d) else false
@[elab_as_elim] theorem bSli_el {P : Expr → Prop} {E : Expr} {f : Option Expr → Option Expr → Option Expr → Bool} (h : bSli E f = true) (kk : ∀ a b d p, f a b d = true → P (.Slice a b d p)) : P E :=
  PySem.Expr.Slice.elim (motive_1 := fun E => bSli E f = true → P E) E (dite_el h) (fun a b d p h => kk a b d p h) h
noncomputable def bTup (E : Expr) (f : List Expr → Bool) : Bool := if h : E.ctorIdx = 25 then PySem.Expr.Tuple.elim (motive_1 := fun _ => Bool) E h (fun a k p => f a) else false
@[elab_as_elim] theorem bTup_el {P : Expr → Prop} {E : Expr} {f : List Expr → Bool} (h : bTup E f = true) (kk : ∀ a k p, f a = true → P (.Tuple a k p)) : P E :=
  PySem.Expr.Tuple.elim (motive_1 := fun E => bTup E f = true → P E) E (dite_el h) (fun a k p h => kk a k p h) h
noncomputable def bList (E : Expr) (f : List Expr → Bool) : Bool := if h : E.ctorIdx = 24 then PySem.Expr.List.elim (motive_1 := fun _ => Bool) E h (fun a p => f a) else false
@[elab_as_elim] theorem bList_el {P : Expr → Prop} {E : Expr} {f : List Expr → Bool} (h : bList E f = true) (kk : ∀ a p, f a = true → P (.List a p)) : P E :=
  PySem.Expr.List.elim (motive_1 := fun E => bList E f = true → P E) E (dite_el h) (fun a p h => kk a p h) h
noncomputable def bDict (E : Expr) (f : List (Option Expr) → List Expr → Bool) : Bool := if h : E.ctorIdx = 6 then PySem.Expr.Dict.elim (motive_1 := fun _ => Bool) E h (fun a b p => f a b) else false
@[elab_as_elim] theorem bDict_el {P : Expr → Prop} {E : Expr} {f : List (Option Expr) → List Expr → Bool} (h : bDict E f = true) (kk : ∀ a b p, f a b = true → P (.Dict a b p)) : P E :=
  PySem.Expr.Dict.elim (motive_1 := fun E => bDict E f = true → P E) E (dite_el h) (fun a b p h => kk a b p h) h
noncomputable def bLC (E : Expr) (f : Expr → List Comprehension → Scope → Bool) : Bool := if h : E.ctorIdx = 8 then PySem.Expr.ListComp.elim (motive_1 := fun _ => Bool) E h (fun a b d p => f a b d) else false
@[elab_as_elim] theorem bLC_el {P : Expr → Prop} {E : Expr} {f : Expr → List Comprehension → Scope → Bool} (h : bLC E f = true) (kk : ∀ a b d p, f a b d = true → P (.ListComp a b d p)) : P E :=
  PySem.Expr.ListComp.elim (motive_1 := fun E => bLC E f = true → P E) E (dite_el h) (fun a b d p h => kk a b d p h) h
noncomputable def sExpr (E : Stmt) (f : Expr → Bool) : Bool := if h : E.ctorIdx = 24 then PySem.Stmt.Expr.elim (motive_2 := fun _ => Bool) E h (fun q p => f q) else false
@[elab_as_elim] theorem sExpr_el {P : Stmt → Prop} {E : Stmt} {f : Expr → Bool} (h : sExpr E f = true) (kk : ∀ q p, f q = true → P (.Expr q p)) : P E :=
  PySem.Stmt.Expr.elim (motive_2 := fun E => sExpr E f = true → P E) E (dite_el h) (fun q p h => kk q p h) h
noncomputable def sAsg (E : Stmt) (f : List Expr → Expr → Bool) : Bool := if h : E.ctorIdx = 5 then PySem.Stmt.Assign.elim (motive_2 := fun _ => Bool) E h (fun l q p => f l q) else false
@[elab_as_elim] theorem sAsg_el {P : Stmt → Prop} {E : Stmt} {f : List Expr → Expr → Bool} (h : sAsg E f = true) (kk : ∀ l q p, f l q = true → P (.Assign l q p)) : P E :=
  PySem.Stmt.Assign.elim (motive_2 := fun E => sAsg E f = true → P E) E (dite_el h) (fun l q p h => kk l q p h) h
noncomputable def sAug (E : Stmt) (f : Expr → Operator → Expr → Bool) : Bool := if h : E.ctorIdx = 7 then PySem.Stmt.AugAssign.elim (motive_2 := fun _ => Bool) E h (fun l o q p => f l o q) else false
@[elab_as_elim] theorem sAug_el {P : Stmt → Prop} {E : Stmt} {f : Expr → Operator → Expr → Bool} (h : sAug E f = true) (kk : ∀ l o q p, f l o q = true → P (.AugAssign l o q p)) : P E :=
  PySem.Stmt.AugAssign.elim (motive_2 := fun E => sAug E f = true → P E) E (dite_el h) (fun l o q p h => kk l o q p h) h
noncomputable def sIf (E : Stmt) (f : Expr → List Stmt → List Stmt → Bool) : Bool := if h : E.ctorIdx = 12 then PySem.Stmt.If.elim (motive_2 := fun _ => Bool) E h (fun q a b p => f q a b) else false
@[elab_as_elim] theorem sIf_el {P : Stmt → Prop} {E : Stmt} {f : Expr → List Stmt → List Stmt → Bool} (h : sIf E f = true) (kk : ∀ q a b p, f q a b = true → P (.If q a b p)) : P E :=
  PySem.Stmt.If.elim (motive_2 := fun E => sIf E f = true → P E) E (dite_el h) (fun q a b p h => kk q a b p h) h
noncomputable def sWh (E : Stmt) (f : Expr → List Stmt → List Stmt → Bool) : Bool := if h : E.ctorIdx = 11 then PySem.Stmt.While.elim (motive_2 := fun _ => Bool) E h (fun q a b p => f q a b) else false
@[elab_as_elim] theorem sWh_el {P : Stmt → Prop} {E : Stmt} {f : Expr → List Stmt → List Stmt → Bool} (h : sWh E f = true) (kk : ∀ q a b p, f q a b = true → P (.While q a b p)) : P E :=
  PySem.Stmt.While.elim (motive_2 := fun E => sWh E f = true → P E) E (dite_el h) (fun q a b p h => kk q a b p h) h
noncomputable def sFor (E : Stmt) (f : Expr → Expr → List Stmt → List Stmt → Bool) : Bool := if h : E.ctorIdx = 9 then PySem.Stmt.For.elim (motive_2 := fun _ => Bool) E h (fun l q a b p => f l q a b) else false
@[elab_as_elim] theorem sFor_el {P : Stmt → Prop} {E : Stmt} {f : Expr → Expr → List Stmt → List Stmt → Bool} (h : sFor E f = true) (kk : ∀ l q a b p, f l q a b = true → P (.For l q a b p)) : P E :=
  PySem.Stmt.For.elim (motive_2 := fun E => sFor E f = true → P E) E (dite_el h) (fun l q a b p h => kk l q a b p h) h
noncomputable def sRet (E : Stmt) (f : Option Expr → Bool) : Bool := if h : E.ctorIdx = 3 then PySem.Stmt.Return.elim (motive_2 := fun _ => Bool) E h (fun q p => f q) else false
@[elab_as_elim] theorem sRet_el {P : Stmt → Prop} {E : Stmt} {f : Option Expr → Bool} (h : sRet E f = true) (kk : ∀ q p, f q = true → P (.Return q p)) : P E :=
  PySem.Stmt.Return.elim (motive_2 := fun E => sRet E f = true → P E) E (dite_el h) (fun q p h => kk q p h) h
noncomputable def sDef (E : Stmt) (f : Str → Arguments → List Stmt → List Expr → Option Expr → List TypeParam → Scope → Option Scope → Str → Pos → Bool) : Bool := if h : E.ctorIdx = 0 then PySem.Stmt.FunctionDef.elim (motive_2 := fun _ => Bool) E h (fun n a b dl r tp sc ts bi p => f n a b dl r tp sc ts bi p) else false
@[elab_as_elim] theorem sDef_el {P : Stmt → Prop} {E : Stmt} {f : Str → Arguments → List Stmt → List Expr → Option Expr → List TypeParam → Scope → Option Scope → Str → Pos → Bool} (h : sDef E f = true) (kk : ∀ n a b dl r tp sc ts bi p, f n a b dl r tp sc ts bi p = true → P (.FunctionDef n a b dl r tp sc ts bi p)) : P E :=
  PySem.Stmt.FunctionDef.elim (motive_2 := fun E => sDef E f = true → P E) E (dite_el h) (fun n a b dl r tp sc ts bi p h => kk n a b dl r tp sc ts bi p h) h
section
variable {α : Type}
noncomputable def b0 (l : List α) (f : Bool) : Bool := match l with
  | [] => f
  | _ => false
noncomputable def bC (l : List α) (f : α → List α → Bool) : Bool := match l with
  | a :: r => f a r
  | _ => false
noncomputable def bN (o : Option α) (f : Bool) : Bool := match o with
  | none => f
  | _ => false
noncomputable def bS (o : Option α) (f : α → Bool) : Bool := match o with
  | some a => f a
  | _ => false
@[elab_as_elim] theorem b0_el {P : List α → Prop} {l : List α} {f : Bool} (h : b0 l f = true) (k : f = true → P []) : P l := by cases l <;> first | exact ff h | exact k h
@[elab_as_elim] theorem bC_el {P : List α → Prop} {l : List α} {f : α → List α → Bool} (h : bC l f = true) (k : ∀ a r, f a r = true → P (a :: r)) : P l := by cases l <;> first | exact ff h | exact k _ _ h
@[elab_as_elim] theorem bN_el {P : Option α → Prop} {l : Option α} {f : Bool} (h : bN l f = true) (k : f = true → P none) : P l := by cases l <;> first | exact ff h | exact k h
@[elab_as_elim] theorem bS_el {P : Option α → Prop} {l : Option α} {f : α → Bool} (h : bS l f = true) (k : ∀ a, f a = true → P (some a)) : P l := by cases l <;> first | exact ff h | exact k _ h
noncomputable def b1 (l : List α) (f : α → Bool) : Bool := bC l fun a r => b0 r (f a)
noncomputable def b2 (l : List α) (f : α → α → Bool) : Bool := bC l fun a r => b1 r (f a)
@[elab_as_elim] theorem b1_el {P : List α → Prop} {l : List α} {f : α → Bool} (h : b1 l f = true) (k : ∀ a, f a = true → P [a]) : P l := bC_el h fun a r h => b0_el (P := fun r => P (a :: r)) h (k a)
@[elab_as_elim] theorem b2_el {P : List α → Prop} {l : List α} {f : α → α → Bool} (h : b2 l f = true) (k : ∀ a b, f a b = true → P [a, b]) : P l := bC_el h fun a r h => b1_el (P := fun r => P (a :: r)) h (k a)
end
noncomputable def cNone (q : Const) : Bool := if q.ctorIdx = 0 then true else false
noncomputable def cBool (q : Const) (b : Bool) : Bool := if h : q.ctorIdx = 1 then Const.bool.elim (motive := fun _ => Bool) q h fun c => b == c else false
noncomputable def cInt (q : Const) (b : Int) : Bool := if h : q.ctorIdx = 2 then Const.int.elim (motive := fun _ => Bool) q h fun c => b == c else false
noncomputable def cStr (q : Const) (b : Option Str) : Bool := if h : q.ctorIdx = 5 then Const.str.elim (motive := fun _ => Bool) q h fun c => b == some c else false
@[elab_as_elim] theorem cNone_el {P : Const → Prop} {q : Const} (h : cNone q = true) (k : P .none) : P q := Const.none.elim (motive := P) q (dite_el (f := fun _ => true) h) k
@[elab_as_elim] theorem cBool_el {P : Const → Prop} {q : Const} {b : Bool} (h : cBool q b = true) (k : P (.bool b)) : P q := Const.bool.elim (motive := fun q => cBool q b = true → P q) q (dite_el h) (fun _ h => (beq_iff_eq.mp h : b = _) ▸ k) h
@[elab_as_elim] theorem cInt_el {P : Const → Prop} {q : Const} {b : Int} (h : cInt q b = true) (k : P (.int b)) : P q := Const.int.elim (motive := fun q => cInt q b = true → P q) q (dite_el h) (fun _ h => (beq_iff_eq.mp h : b = _) ▸ k) h
@[elab_as_elim] theorem cStr_el {P : Const → Prop} {q : Const} {b : Option Str} (h : cStr q b = true) (k : ∀ c, b = some c → P (.str c)) : P q := Const.str.elim (motive := fun q => cStr q b = true → P q) q (dite_el h) (fun c h => k c (beq_iff_eq.mp h)) h
noncomputable def uNot (o : UnaryOp) (f : Bool) : Bool := o == .Not && f
noncomputable def uSub (o : UnaryOp) (f : Bool) : Bool := o == .USub && f
@[elab_as_elim] theorem uNot_el {P : UnaryOp → Prop} {o : UnaryOp} {f : Bool} (h : uNot o f = true) (k : f = true → P .Not) : P o := and_el h fun a b => eq_of_beq a ▸ k b
@[elab_as_elim] theorem uSub_el {P : UnaryOp → Prop} {o : UnaryOp} {f : Bool} (h : uSub o f = true) (k : f = true → P .USub) : P o := and_el h fun a b => eq_of_beq a ▸ k b
noncomputable def oAnd (o : BoolOp) (f : Bool) : Bool := match o with
  | .And => f
  | .Or => false
noncomputable def oOr (o : BoolOp) (f : Bool) : Bool := match o with
  | .Or => f
  | .And => false
@[elab_as_elim] theorem oAnd_el {P : BoolOp → Prop} {o : BoolOp} {f : Bool} (h : oAnd o f = true) (k : f = true → P .And) : P o := by cases o <;> first | exact ff h | exact k h
@[elab_as_elim] theorem oOr_el {P : BoolOp → Prop} {o : BoolOp} {f : Bool} (h : oOr o f = true) (k : f = true → P .Or) : P o := by cases o <;> first | exact ff h | exact k h
noncomputable def orRest (p : Pos) (f : Expr → Bool) (es : List Expr) : Bool := bC es fun e r => match r with
  | [] => f e
  | _ :: _ => f (.BoolOp .Or es p)
theorem orRest_el {P : List Expr → Prop} {p : Pos} {f : Expr → Bool} {es : List Expr} (h : orRest p f es = true) (k1 : ∀ e, f e = true → P [e]) (k2 : ∀ e r, f (.BoolOp .Or (e :: r) p) = true → P (e :: r)) : P es := by
  cases es with
  | nil => exact ff h
  | cons e r => cases r with
    | nil => exact k1 e h
    | cons e2 r => exact k2 e _ h
noncomputable def chkCond (chk : Expr → Bool) (cond : X) (ifs : List Expr) : Bool := match ifs with
  | [] => isTrueX cond
  | te :: r => b0 r (chk te)

mutual
noncomputable def chkX (ns : NS) (sl : List Str) : X → Expr → Bool
  | .bad, _ => true
  | .var i, E => bName E (slotIs ns sl i)
  | .glob k, E => bName E fun q => isGlob k && (gname k == some q && (ns.lookup q == some .globalImplicit && (plainName q && q != Str.ofString "__name__")))
  | .non, E => bCn E cNone
  | .bool b, E => bCn E fun q => cBool q b
  | .int i, E => bCn E fun q => cInt q i
  | .str k, E => bCn E fun q => cStr q (strS k)
  | .bin op a b, E => bBin E fun l o r => opOk op o && (chkX ns sl a l && chkX ns sl b r)
  | .neg a, E => bUn E fun o e => uSub o (chkX ns sl a e)
  | .not a, E => bUn E fun o e => uNot o (chkX ns sl a e)
  | .cmp op a b, E => bCmp E fun l o r => b1 o fun o => b1 r fun r => cmOk op o && (chkX ns sl a l && (chkX ns sl b r && !isSetE r))
  | .cmp2 o1 o2 a b d, E => bCmp E fun l o r => b2 o fun p1 p2 => b2 r fun r1 r2 => cmOk o1 p1 && (cmOk o2 p2 && (chkX ns sl a l && (chkX ns sl b r1 && (chkX ns sl d r2 && !isSetE r2))))
  | .and a b, E => bBoo E fun o es _ => oAnd o (b2 es fun e1 e2 => chkX ns sl a e1 && chkX ns sl b e2)
  | .or a b, E => bBoo E fun o es p => oOr o (bC es fun e1 es => chkX ns sl a e1 && orRest p (chkX ns sl b) es)
  | .ite t a b, E => bIf E fun e x y => chkX ns sl t e && (chkX ns sl a x && chkX ns sl b y)
  | .call f as, E => bCall E fun fe args kw _ => b0 kw (isNameE fe && (chkX ns sl f fe && chkXs ns sl as args))
  | .meth o n as, E => bCall E fun fe args kw pos => b0 kw (bAttr fe fun oe name ap => attrS n == some name && (!isCallE oe && (ap.endLine == pos.line && (decide (args.length < 30) && (chkX ns sl o oe && chkXs ns sl as args)))))
  | .attr o n, E => bAttr E fun oe name _ => attrS n == some name && (!isCallE oe && chkX ns sl o oe)
  | .sub o i, E => bSub E fun oe ie => !isSliceE ie && (chkX ns sl o oe && chkX ns sl i ie)
  | .cut o hi, E => bSub E fun oe ie => bSli ie fun a b d => bN a (bS b fun he => bN d (chkX ns sl o oe && chkX ns sl hi he))
  | .tup l, E => bTup E (chkXs ns sl l)
  | .list l, E => bList E (chkXs ns sl l)
  | .dict0, E => bDict E fun a b => b0 a (b0 b true)
  | .comp elt v it cond, E => bLC E fun e gs sc => b1 gs fun g => bName g.target fun q => g.is_async == 0 && (sl[v]? == some q && (compScopeOk ns q sc && (chkX ns sl it g.iter && (!isSetE g.iter && (chkX (compNS ns sc.names) sl elt e &&
      chkCond (chkX (compNS ns sc.names) sl cond) cond g.ifs)))))
  | .freeze e, E => chkX ns sl e E
termination_by structural e => e
noncomputable def chkXs (ns : NS) (sl : List Str) : List X → List Expr → Bool
  | [], es => b0 es true
  | a :: r, es => bC es fun e es => !isStarE e && (chkX ns sl a e && chkXs ns sl r es)
termination_by structural l => l
end
noncomputable def chkNames (ns : NS) (sl : List Str) : List Nat → List Expr → Bool
  | [], es => b0 es true
  | i :: r, es => bC es fun e es => bName e (fun q => slotIs ns sl i q && ns.lookup q != some .free) && chkNames ns sl r es
noncomputable def chkT (ns : NS) (sl : List Str) (t : T) (E : Expr) : Bool := match t with
  | .name i => bName E fun q => slotIs ns sl i q && ns.lookup q != some .free
  | .names l => bTup E (chkNames ns sl l)
  | .attr o n => bAttr E fun oe name _ => attrS n == some name && chkX ns sl o oe
  | .sub o i => bSub E fun oe ie => !isSliceE ie && (chkX ns sl o oe && chkX ns sl i ie)
noncomputable def isCompE (E : Expr) : Bool := E.ctorIdx == 8 || (E.ctorIdx == 9 || E.ctorIdx == 10)
noncomputable def isTupE (E : Expr) : Bool := E.ctorIdx == 25 || E.ctorIdx == 24
noncomputable def noDflt (a : Arguments) : Bool := a.posonlyargs.isEmpty && a.vararg.isNone && a.kwonlyargs.isEmpty && a.kwarg.isNone && a.args.all (·.annotation.isNone)


/-- a target that is no cell -/
noncomputable def locName (ns : NS) (E : Expr) : Bool := bName E fun q => ns.lookup q == some .local
noncomputable def chkNoCell (ns : NS) (t : T) (E : Expr) : Bool := match t with
  | .name _ => locName ns E
  | .names _ => bTup E fun es => es.all (locName ns)
  | _ => true
noncomputable def addSub (op : B) : Bool := op == .add || op == .sub
noncomputable def retOk (o : Option X) (q : Option Expr) (chk : X → Expr → Bool) : Bool := match o with
  | none => bN q true
  | some e => bS q (chk e)
/-- a comprehension's block does not bind the name -/
noncomputable def blockFree (q : Str) (e : Expr) : Bool := bLC e fun _ _ s => !(s.names.any fun p => p.1 == q && (p.2 == .local || p.2 == .cell))
noncomputable def cellAt (ns : NS) (sl : List Str) (j : Nat) : Bool := bS sl[j]? fun y => ns.lookup y == some .cell
noncomputable def chkDef (nest : Nat → Arguments → List Stmt → Scope → Bool) (ns : NS) (sl : List Str) (wr : Bool) (i k : Nat) (cs : List Nat) (line col : Int) (T : Stmt) : Bool := sDef T fun name args body dl r tp sc ts bind pos =>
  b0 dl (bN r (b0 tp (bN ts (name == bind && (args.kw_defaults.isEmpty && (nest k args body sc && (!wr && (slotIs ns sl i bind && (ns.lookup bind == some .local && (noDflt args && (args.defaults.isEmpty &&
      (pos.line == line && (pos.col == col && (cs.all (cellAt ns sl) &&
      cs.filterMap (sl[·]?) == ((sc.names.filter (·.2 == .free)).map (·.1)).reverse))))))))))))))
noncomputable def sCont (T : Stmt) : Bool := if T.ctorIdx = 27 then true else false
noncomputable def sPass (T : Stmt) : Bool := if T.ctorIdx = 25 then true else false
@[elab_as_elim] theorem sCont_el {P : Stmt → Prop} {T : Stmt} (h : sCont T = true) (k : ∀ p, P (.Continue p)) : P T := PySem.Stmt.Continue.elim (motive_2 := P) T (dite_el (f := fun _ => true) h) k
@[elab_as_elim] theorem sPass_el {P : Stmt → Prop} {T : Stmt} (h : sPass T = true) (k : ∀ p, P (.Pass p)) : P T := PySem.Stmt.Pass.elim (motive_2 := P) T (dite_el (f := fun _ => true) h) k
mutual
/-- wr: may the function write its cells (it makes no def then) -/
noncomputable def chkS (nest : Nat → Arguments → List Stmt → Scope → Bool) (ns : NS) (sl : List Str) (wr : Bool) : S → Stmt → Bool
  | .bad, _ => true
  | .expr e, T => sExpr T fun v => chkX ns sl e v && !isCompE v
  | .asg t e, T => sAsg T fun ts v => b1 ts fun te => chkT ns sl t te && (chkX ns sl e v && (!isCompE v && (!(isTupE te && isTupE v) && (wr || chkNoCell ns t te))))
  | .asgC i _ elt v it cond, T => sAsg T fun ts e => b1 ts fun te => bName te fun q => slotIs ns sl i q && (ns.lookup q == some .local && (chkX ns sl (.comp elt v it cond) e && (te.pos.line == e.pos.line && blockFree q e)))
  | .aug i op e, T => sAug T fun te o v => bName te fun q => addSub op && (slotIs ns sl i q && (ns.lookup q != some .free && (opOk op o && (chkX ns sl e v && (wr || ns.lookup q == some .local)))))
  | .augA oo n op e, T => sAug T fun te o v => bAttr te fun oe name _ => addSub op && (attrS n == some name && (opOk op o && (chkX ns sl oo oe && chkX ns sl e v)))
  | .ite t a b, T => sIf T fun e x y => chkX ns sl t e && (chkSs nest ns sl wr a x && chkSs nest ns sl wr b y)
  | .whil t b, T => sWh T fun e x y => b0 y (wr && (chkX ns sl t e && chkSs nest ns sl wr b x))
  | .for t it b, T => sFor T fun te ie x y => b0 y (wr && (chkT ns sl t te && (chkX ns sl it ie && (!isSetE ie && chkSs nest ns sl wr b x))))
  | .ret o, T => sRet T fun q => retOk o q (chkX ns sl)
  | .cont, T => sCont T
  | .pass, T => sPass T
  | .defn i k cs line col, T => chkDef nest ns sl wr i k cs line col T
termination_by structural s => s
noncomputable def chkSs (nest : Nat → Arguments → List Stmt → Scope → Bool) (ns : NS) (sl : List Str) (wr : Bool) : List S → List Stmt → Bool
  | [], ss => b0 ss true
  | a :: r, ss => bC ss fun s ss => chkS nest ns sl wr a s && chkSs nest ns sl wr r ss
termination_by structural s => s
end

noncomputable def slots (k : Nat) : List Str := (slotsOf k).map Str.ofString
noncomputable def hasDef : List S → Bool
  | [] => false
  | .defn .. :: _ => true
  | _ :: r => hasDef r

/-- a function's text is that of the mini function k -/
noncomputable def okText (nest : Nat → Arguments → List Stmt → Scope → Bool) (k : Nat) (params : Arguments) (b : List Stmt) (sc : Scope) : Bool := match fns k with
  | some d => noDflt params &&
      params.args.map (·.arg) == (slots k).take (d.np - d.nc) && decide (d.nc ≤ d.np) && decide (d.np ≤ d.ns) && (slots k).length == d.ns &&
      decide (slots k).Nodup && !(slots k).contains (Str.ofString ".0") &&
      ((slots k).drop (d.np - d.nc)).take d.nc == ((sc.names.filter (·.2 == .free)).map (·.1)).reverse &&
      sc.kind == .function && !sc.isGenerator && !sc.isCoroutine && decide (sc.names.map (·.1)).Nodup &&
      ((slots k).take (d.np - d.nc)).all (fun x => sc.names.lookup x == some .local || sc.names.lookup x == some .cell) &&
      (d.nc == 0 || sc.names.all fun p => p.2 != .cell) && (!hasDef d.body || d.nc == 0) &&
      chkSs nest sc.names (slots k) (!hasDef d.body) d.body b
  | none => false
/-- a function's data bears the mini function k -/
noncomputable def okFd (k : Nat) (fd : FuncData) : Bool := match fd.body with
  | .stmts b => fd.globals == mainGlobals && fd.builtins == builtinsNs && fd.closure.map (·.1) == ((fd.scope.names.filter (·.2 == .free)).map (·.1)).reverse &&
      (okText (okText fun _ _ _ _ => false) k fd.params b fd.scope || okText (fun _ _ _ _ => false) k fd.params b fd.scope)
  | _ => false
end Mine
end

section
namespace Mine
open PySem PySem.W PySem.Calls PyProof.Rows

def okF : FdOk := fun k fd => okFd k fd = true ∧ fd.defaults = .none ∧ ∀ d, fns k = some d → hasDef d.body = false

structure Room (n : Nat) (A : Around) : Prop where
  none : A.handled = none
  depth : A.depth + 2 * n + 2 < recursionLimit
  units : A.units + 12 * n + 100 < cLine

structure EnvOk (x : Cx) (env : Env) (ns : NS) (L : Addr) : Prop where
  names : env.scope.names = ns
  kind : env.scope.kind = .function
  glob : env.globals = mainGlobals
  bi : env.builtins = builtinsNs
  loc : env.locals = L
  st : x.H0.get? L = none
  cells : ∀ n, ns.lookup n = some .cell ∨ ns.lookup n = some .free → (env.cells.lookup n).isSome = true

/-- what a name of the frame bears -/
structure Bears (x : Cx) (env : Env) (fm : Str → Option Value) (ρ : Rho) (h : H) (hp : Heap) (n : Str) (y : V) : Prop where
  loc : env.scope.names.lookup n = some .local → ∃ v, fm n = some v ∧ Rel x okF ρ h hp y v
  cell : env.scope.names.lookup n = some .cell ∨ env.scope.names.lookup n = some .free → ∃ c v, env.cells.lookup n = some c ∧ hp.IsCell c (some v) ∧ ¬ owned ρ h c ∧ Rel x okF ρ h hp y v

structure Good (x : Cx) (env : Env) (sl : List Str) (m : Loc) (L : Addr) (cs : List Addr) (lo : Addr) (ρ : Rho) (h : H) (hp : Heap) : Prop where
  sim : Sim x okF ρ h hp
  fr : FrOk L cs lo ρ h hp
  names : ∃ fm, hp.Ns L fm ∧ ∀ (i : Nat) n y, sl[i]? = some n → m[i]? = some (some y) → Bears x env fm ρ h hp n y

/-- a step of an expression, with what stands behind it -/
structure Res (x : Cx) (L : Addr) (lo : Addr) (ρ : Rho) (h : H) (hp : Heap) (ρ' : Rho) (h' : H) (hp' : Heap) : Prop where
  st : Step L [] lo ρ h hp ρ' h' hp'
  ns : NsKept L hp hp'
  sim : Sim x okF ρ' h' hp'

section
variable {x : Cx} {env : Env} {sl : List Str} {m : Loc} {L lo : Addr} {cs : List Addr} {ρ ρ' ρ'' : Rho} {h h' h'' : H} {hp hp' hp'' : Heap}
theorem Res.trans (a : Res x L lo ρ h hp ρ' h' hp') (b : Res x L lo ρ' h' hp' ρ'' h'' hp'') : Res x L lo ρ h hp ρ'' h'' hp'' :=
  ⟨a.st.trans b.st, fun m e => b.ns m (a.ns m e), b.sim⟩
theorem Good.res (G : Good x env sl m L cs lo ρ h hp) : Res x L lo ρ h hp ρ h hp := ⟨Step.refl, fun _ e => e, G.sim⟩

theorem FrOk.none (F : FrOk L cs lo ρ h hp) : FrOk L [] lo ρ h hp := ⟨F.ns, F.no, (fun _ q => nomatch q), F.lo⟩
theorem Rel.res (r : Res x L lo ρ h hp ρ' h' hp') (G : Good x env sl m L cs lo ρ h hp) {y : V} {v : Value} (e : Rel x okF ρ h hp y v) : Rel x okF ρ' h' hp' y v := e.step r.st G.fr.none
theorem RelL.res (r : Res x L lo ρ h hp ρ' h' hp') (G : Good x env sl m L cs lo ρ h hp) {y : List V} {v : List Value} (e : RelL x okF ρ h hp y v) : RelL x okF ρ' h' hp' y v := e.step r.st G.fr.none

theorem cell_kept (S : Step L [] lo ρ h hp ρ' h' hp') (F : FrOk L cs lo ρ h hp) {c : Addr} {v : Option Value} (e : hp.IsCell c v) (n : ¬ owned ρ h c) : hp'.IsCell c v := by
  obtain ⟨o, ho, hd⟩ := e
  refine ⟨o, S.keep c o (fun q => ?_) List.not_mem_nil ho n, hd⟩
  subst q
  obtain ⟨m, o', es, ep, ho', hd', _⟩ := F.ns
  rw [ho] at ho'; cases ho'; rw [hd] at hd'; cases hd'
theorem Bears.res (r : Res x L lo ρ h hp ρ' h' hp') (F : FrOk L cs lo ρ h hp) {fm : Str → Option Value} {n : Str} {y : V} (b : Bears x env fm ρ h hp n y) : Bears x env fm ρ' h' hp' n y := by
  refine ⟨fun e => ?_, fun e => ?_⟩
  · obtain ⟨v, e, q⟩ := b.loc e
    exact ⟨v, e, q.step r.st F.none⟩
  · obtain ⟨c, v, e1, e2, e3, e4⟩ := b.cell e
    exact ⟨c, v, e1, cell_kept r.st F e2 e3, r.st.own c e2.lt e3, e4.step r.st F.none⟩
theorem Good.next (G : Good x env sl m L cs lo ρ h hp) (r : Res x L lo ρ h hp ρ' h' hp') : Good x env sl m L cs lo ρ' h' hp' where
  sim := r.sim
  fr := G.fr.step r.st r.ns
  names := G.names.imp fun fm a => ⟨r.ns fm a.1, fun i n y hs hm => (a.2 i n y hs hm).res r G.fr⟩
theorem Good.grow (G : Good x env sl m L cs lo ρ h hp) (k : ∀ b o, hp.get? b = some o → hp'.get? b = some o) (z : hp.objs.size ≤ hp'.objs.size) : Res x L lo ρ h hp ρ h hp' :=
  ⟨Step.grow k z, nsKept_grow k, G.sim.grow G.fr k z⟩
theorem Good.push (G : Good x env sl m L cs lo ρ h hp) (o : Obj) : Res x L lo ρ h hp ρ h (hp.push o) :=
  G.grow (fun _ _ e => Heap.get?_push_of_some _ e) (by rw [Heap.size_push]; exact Nat.le_succ _)
theorem Good.fresh (G : Good x env sl m L cs lo ρ h hp) {b : Addr} (hb : hp.objs.size ≤ b) : ¬ owned ρ h b := fun e => Nat.lt_irrefl _ (Nat.lt_of_lt_of_le (G.sim.lt_owned e) hb)
end

/-- the end of an expression -/
def XPost (x : Cx) (L lo : Addr) (ρ : Rho) (h : H) (s : Shared) (y : V) (h' : H) (v : Value) (s' : Shared) : Prop :=
  ∃ ρ' hp t, s' = { s with heap := hp, toks := t } ∧ Res x L lo ρ h s.heap ρ' h' hp ∧ Rel x okF ρ' h' hp y v
def XsPost (x : Cx) (L lo : Addr) (ρ : Rho) (h : H) (s : Shared) (y : List V) (h' : H) (v : List Value) (s' : Shared) : Prop :=
  ∃ ρ' hp t, s' = { s with heap := hp, toks := t } ∧ Res x L lo ρ h s.heap ρ' h' hp ∧ RelL x okF ρ' h' hp y v
def BPost (x : Cx) (L lo : Addr) (ρ : Rho) (h : H) (s : Shared) (b : Bool) (h' : H) (v : Bool) (s' : Shared) : Prop :=
  v = b ∧ ∃ ρ' hp t, s' = { s with heap := hp, toks := t } ∧ Res x L lo ρ h s.heap ρ' h' hp
abbrev noE : Value → Shared → Prop := fun _ _ => False

noncomputable abbrev ev (c : Callee) := evalX kind meTab clsMeth c
noncomputable abbrev evs (c : Callee) := evalXs kind meTab clsMeth c
def XOk (x : Cx) (n : Nat) (c : Callee) (ns : NS) (sl : List Str) (e : X) (E : Expr) : Prop :=
  ∀ {A : Around} {env : Env} {L lo : Addr} {cs : List Addr} {m : Loc} {h : H} {y : V} {h' : H} {ρ : Rho} {s : Shared}, Room n A → EnvOk x env ns L → ev c e m h = some (y, h') →
    Good x env sl m L cs lo ρ h s.heap → wpAny (model x.prog x.w) A (eval E env) (XPost x L lo ρ h s y h') noE s
def TOk (x : Cx) (n : Nat) (c : Callee) (ns : NS) (sl : List Str) (e : X) (E : Expr) : Prop :=
  ∀ {A : Around} {env : Env} {L lo : Addr} {cs : List Addr} {m : Loc} {h : H} {y : V} {b : Bool} {h' : H} {ρ : Rho} {s : Shared}, Room n A → EnvOk x env ns L → ev c e m h = some (y, h') → truth y = some b →
    Good x env sl m L cs lo ρ h s.heap → wpAny (model x.prog x.w) A (isTrue E env (eval E env)) (BPost x L lo ρ h s b h') noE s

section
variable {x : Cx} {env : Env} {sl : List Str} {m : Loc} {L lo : Addr} {cs : List Addr} {ρ ρ1 : Rho} {h h' h1 h2 : H} {hp1 : Heap} {t1 : Nat} {A : Around} {s s' : Shared} {n : Nat} {c : Callee} {ns : NS} {sl : List Str} {a : X} {E1 : Expr} {y : V} {ys : List V} {v : Value} {b : Bool} {E : Value → Shared → Prop}
theorem XPost.mk0 (G : Good x env sl m L cs lo ρ h s.heap) {y : V} {v : Value} (r : Rel x okF ρ h s.heap y v) (t : Nat) : XPost x L lo ρ h s y h v { s with toks := t } := ⟨ρ, s.heap, t, rfl, G.res, r⟩
theorem XPost.el {P : Value → Shared → Prop} (p : XPost x L lo ρ h s y h' v s') (k : ∀ ρ1 hp1 t1 v, Res x L lo ρ h s.heap ρ1 h' hp1 → Rel x okF ρ1 h' hp1 y v → P v { s with heap := hp1, toks := t1 }) : P v s' := by
  obtain ⟨ρ', hp, t, rfl, r, q⟩ := p
  exact k _ _ _ _ r q
theorem XsPost.el {P : List Value → Shared → Prop} {vs : List Value} (p : XsPost x L lo ρ h s ys h' vs s') (k : ∀ ρ1 hp1 t1 vs, Res x L lo ρ h s.heap ρ1 h' hp1 → RelL x okF ρ1 h' hp1 ys vs → P vs { s with heap := hp1, toks := t1 }) : P vs s' := by
  obtain ⟨ρ', hp, t, rfl, r, q⟩ := p
  exact k _ _ _ _ r q
theorem BPost.el {P : Bool → Shared → Prop} {b' : Bool} (p : BPost x L lo ρ h s b h' b' s') (k : ∀ ρ1 hp1 t1, Res x L lo ρ h s.heap ρ1 h' hp1 → P b { s with heap := hp1, toks := t1 }) : P b' s' := by
  obtain ⟨rfl, ρ', hp, t, rfl, r⟩ := p
  exact k _ _ _ r
theorem XOk.seq {P : Value → Shared → Prop} (H : XOk x n c ns sl a E1) (R : Room n A) (Ev : EnvOk x env ns L) (e : ev c a m h = some (y, h')) (G : Good x env sl m L cs lo ρ h s.heap)
    (k : ∀ ρ1 hp1 t1 v, Res x L lo ρ h s.heap ρ1 h' hp1 → Rel x okF ρ1 h' hp1 y v → P v { s with heap := hp1, toks := t1 }) : wpAny (model x.prog x.w) A (eval E1 env) P E s :=
  wpAny_mono (H R Ev e G) (fun _ _ p => p.el k) fun _ _ e => e.elim
theorem TOk.seq {P : Bool → Shared → Prop} (H : TOk x n c ns sl a E1) (R : Room n A) (Ev : EnvOk x env ns L) (e : ev c a m h = some (y, h')) (t : truth y = some b) (G : Good x env sl m L cs lo ρ h s.heap)
    (k : ∀ ρ1 hp1 t1, Res x L lo ρ h s.heap ρ1 h' hp1 → P b { s with heap := hp1, toks := t1 }) : wpAny (model x.prog x.w) A (isTrue E1 env (eval E1 env)) P E s :=
  wpAny_mono (H R Ev e t G) (fun _ _ p => p.el k) fun _ _ e => e.elim
theorem XPost.after (r1 : Res x L lo ρ h s.heap ρ1 h1 hp1) (P : XPost x L lo ρ1 h1 { s with heap := hp1, toks := t1 } y h2 v s') : XPost x L lo ρ h s y h2 v s' :=
  P.el (P := XPost x L lo ρ h s y h2) fun ρ' hp t _ r q => ⟨ρ', hp, t, rfl, r1.trans r, q⟩
theorem BPost.after {b' : Bool} (r1 : Res x L lo ρ h s.heap ρ1 h1 hp1) (P : BPost x L lo ρ1 h1 { s with heap := hp1, toks := t1 } b h2 b' s') : BPost x L lo ρ h s b h2 b' s' :=
  P.el (P := BPost x L lo ρ h s b h2) fun ρ' hp t r => ⟨rfl, ρ', hp, t, rfl, r1.trans r⟩
/-- the last part of an expression -/
theorem XOk.last (H : XOk x n c ns sl a E1) (R : Room n A) (Ev : EnvOk x env ns L) (G : Good x env sl m L cs lo ρ h s.heap) (r1 : Res x L lo ρ h s.heap ρ1 h1 hp1) (e : ev c a m h1 = some (y, h')) :
    wpAny (model x.prog x.w) A (eval E1 env) (XPost x L lo ρ h s y h') noE { s with heap := hp1, toks := t1 } := wpAny_mono (H R Ev e (G.next r1)) (fun _ _ p => p.after r1) fun _ _ e => e
theorem TOk.last (H : TOk x n c ns sl a E1) (R : Room n A) (Ev : EnvOk x env ns L) (G : Good x env sl m L cs lo ρ h s.heap) (r1 : Res x L lo ρ h s.heap ρ1 h1 hp1) (e : ev c a m h1 = some (y, h')) (t : truth y = some b) :
    wpAny (model x.prog x.w) A (isTrue E1 env (eval E1 env)) (BPost x L lo ρ h s b h') noE { s with heap := hp1, toks := t1 } := wpAny_mono (H R Ev e t (G.next r1)) (fun _ _ p => p.after r1) fun _ _ e => e
@[elab_as_elim] theorem rel_int {i : Int} {P : Value → Prop} {hp : Heap} (r : Rel x okF ρ h hp (.int i) v) (k : ∀ t, P (.int i t)) : P v := by obtain ⟨t, rfl⟩ := r; exact k t
@[elab_as_elim] theorem rel_bool {i : Bool} {P : Value → Prop} {hp : Heap} (r : Rel x okF ρ h hp (.bool i) v) (k : P (.bool i)) : P v := (show v = _ from r) ▸ k
@[elab_as_elim] theorem rel_non {P : Value → Prop} {hp : Heap} (r : Rel x okF ρ h hp .non v) (k : P .none) : P v := (show v = _ from r) ▸ k
@[elab_as_elim] theorem rel_str {i : Nat} {P : Value → Prop} {hp : Heap} (r : Rel x okF ρ h hp (.str i) v) (k : ∀ q t, strS i = some q → P (.str q t)) : P v := by obtain ⟨q, t, e1, rfl⟩ := r; exact k q t e1
@[elab_as_elim] theorem rel_tup {l : List V} {P : Value → Prop} {hp : Heap} (r : Rel x okF ρ h hp (.tup l) v) (k : ∀ a vs, IsTup hp a vs.toArray → ¬ owned ρ h a → l.length ≤ lenB → RelL x okF ρ h hp l vs → P (.ref a)) : P v :=
  by obtain ⟨a, vs, rfl, i, o, b, q⟩ := r; exact k a vs i o b q
@[elab_as_elim] theorem rel_lst {l : List V} {P : Value → Prop} {hp : Heap} (r : Rel x okF ρ h hp (.lst l) v) (k : ∀ a vs n, IsL hp a vs.toArray n → ¬ owned ρ h a → l.length ≤ lenB → RelL x okF ρ h hp l vs → P (.ref a)) : P v :=
  by obtain ⟨a, vs, n, rfl, i, o, b, q⟩ := r; exact k a vs n i o b q
@[elab_as_elim] theorem rel_loc {i : Nat} {P : Value → Prop} {hp : Heap} (r : Rel x okF ρ h hp (.loc i) v) (k : ∀ p, ρ.o[i]? = some p → P (.ref p.1)) : P v := by obtain ⟨p, e1, rfl⟩ := r; exact k p e1
end
end Mine
end

section
namespace Mine
open PySem PySem.W PySem.Calls PyProof.Rows

section
variable {prog : Program} {w : World} {A : Around} {s : Shared} {Q : Value → Shared → Prop} {E : Value → Shared → Prop}

theorem bits_small {a : Int} (h : a.natAbs < 2 ^ 63) : Builtin.Int.intBits a ≤ 64 := by
  unfold Builtin.Int.intBits
  split
  · lia
  · rename_i q
    have : a.natAbs.log2 < 63 := by
      rw [Nat.log2_lt]
      · exact h
      · intro z; apply q; simp_all
    lia

theorem pylong_small {a b : Int} (h0 : 0 < b) (h1 : b < 2 ^ 63) : Builtin.divisionGoesByPylong a b = false := by
  unfold Builtin.divisionGoesByPylong
  have hb : b.natAbs.log2 < 63 := by
    rw [Nat.log2_lt] <;> lia
  have hne : (b == 0) = false := by simp; lia
  simp only [hne, Bool.false_eq_true, if_false, gt_iff_lt]
  have : ¬ (300 < b.natAbs.log2 / 30 + 1) := by lia
  simp [this]

@[elab_as_elim] theorem some_bk {β : Type} {P : β → Prop} {a z : β} (e : some a = some z) (k : P z) : P a := (Option.some.inj e).symm ▸ k
theorem bin_sound {op : B} {o : Operator} {a b z : Int} {t u : Tok} (e : binop op a b = some z) (ho : opOk op o = true) (h : ∀ t, Q (.int z t) { s with toks := s.toks + 1 }) :
    wpAny (model prog w) A (binaryOp o (.int a t) (.int b u)) Q E s := by
  cases op <;> cases (eq_of_beq ho : o = _)
  · exact PyProof.Rows.add_int (some_bk e (h _))
  · exact PyProof.Rows.sub_int (some_bk e (h _))
  · exact if_el e fun q e => PyProof.Rows.mul_int (some_bk e (h _)) (hm := q.elim (fun q => IntMulOk.of_left (bits_small q)) fun q => IntMulOk.of_right (bits_small q))
  · exact if_el e fun q e => floordiv_int (Int.ne_of_gt q.1) (some_bk e (h _)) (.inl (pylong_small q.1 q.2))
  · exact if_el e fun q e => mod_int' (Int.ne_of_gt q) (some_bk e (h _))
  · exact if_el e fun q e => lshift_int_small q.1 (Int.le_trans q.2.1 (by decide)) (Nat.lt_trans q.2.2 (by decide)) (some_bk e (h _))
  · exact if_el e fun q e => PyProof.Rows.rshift_int q (some_bk e (h _))
  · exact and_int (some_bk e (h _))
  · exact or_int (some_bk e (h _))
  · exact xor_int (some_bk e (h _))
end

structure CxOk (x : Cx) : Prop where
  X : x.K.In x.H0
  top : ∃ p loose mg mb, TopRead p loose mg mb x.H0
  sys : ∃ o, x.H0.get? sysModules = some o
  gne : ∀ k v, gval x.K k = some v → (v == .none) = false

section
variable {x : Cx} {ok : FdOk} {ρ : Rho} {h : H} {hp : Heap}
@[elab_as_elim] theorem relL_cons {y : V} {l : List V} {P : List Value → Prop} {vs : List Value} (r : RelL x ok ρ h hp (y :: l) vs) (k : ∀ v us, Rel x ok ρ h hp y v → RelL x ok ρ h hp l us → P (v :: us)) : P vs := by
  obtain ⟨v, us, rfl, a, b⟩ := r
  exact k v us a b
@[elab_as_elim] theorem relL_nil {P : List Value → Prop} {vs : List Value} (r : RelL x ok ρ h hp [] vs) (k : P []) : P vs := (show vs = _ from r) ▸ k
theorem RelL.mk {y : V} {l : List V} {v : Value} {us : List Value} (a : Rel x ok ρ h hp y v) (b : RelL x ok ρ h hp l us) : RelL x ok ρ h hp (y :: l) (v :: us) := ⟨v, us, rfl, a, b⟩
theorem relL_ints {l : List V} : ∀ {vs : List Value} {is : List Int}, RelL x ok ρ h hp l vs → intL l = some is → IntsAre vs is := by
  induction l with
  | nil => intro vs is r e; exact relL_nil r (some_el e .nil)
  | cons y l ih => exact fun r e => vI_el e fun i q e => onS_el e fun is' e2 e => some_el e (relL_cons r fun v us a b => (show Rel x ok ρ h hp (.int i) v from q ▸ a).elim fun t q => q ▸ .cons _ _ (ih b e2))
theorem relL_strs {l : List V} : ∀ {vs : List Value} {ks : List Nat}, RelL x ok ρ h hp l vs → strL l = some ks → ∃ ys, StrsAre vs ys ∧ ks.map strS = ys.map some := by
  induction l with
  | nil => intro vs is r e; exact relL_nil r (some_el e ⟨[], .nil, rfl⟩)
  | cons y l ih =>
    intro vs is r e
    refine vStr_el e fun i q e => onS_el e fun is' e2 e => some_el e (relL_cons r fun v us a b => ?_)
    subst q
    obtain ⟨q, t, e3, rfl⟩ := a
    obtain ⟨ys, c, d⟩ := ih b e2
    exact ⟨q :: ys, .cons _ _ c, by rw [List.map_cons, List.map_cons, e3, d]⟩
theorem relL_length {l : List V} : ∀ {vs : List Value}, RelL x ok ρ h hp l vs → l.length = vs.length := by
  induction l with
  | nil => exact fun r => relL_nil r rfl
  | cons y l ih =>
    intro vs r
    refine relL_cons r fun v us _ b => ?_
    exact congrArg Nat.succ (ih b)
theorem relL_get {l : List V} : ∀ {vs : List Value} {i : Nat} {y : V}, RelL x ok ρ h hp l vs → l[i]? = some y → ∃ v, vs[i]? = some v ∧ Rel x ok ρ h hp y v := by
  induction l with
  | nil => exact fun _ e => nn e
  | cons z l ih =>
    intro vs i y r e
    refine relL_cons r fun v us a b => ?_
    cases i with
    | zero => exact ⟨v, rfl, (Option.some.inj e) ▸ a⟩
    | succ i => exact ih (vs := us) (i := i) b e
theorem relL_append {l : List V} : ∀ {l' : List V} {vs vs' : List Value}, RelL x ok ρ h hp l vs → RelL x ok ρ h hp l' vs' → RelL x ok ρ h hp (l ++ l') (vs ++ vs') := by
  induction l with
  | nil => exact fun r r' => relL_nil r r'
  | cons y l ih =>
    intro l' vs vs' r r'
    refine relL_cons r fun v us a b => ?_
    exact .mk a (ih b r')
theorem relL_take {l : List V} : ∀ {vs : List Value} (n : Nat), RelL x ok ρ h hp l vs → RelL x ok ρ h hp (l.take n) (vs.take n) := by
  induction l with
  | nil => exact fun n r => relL_nil r (by rw [List.take_nil, List.take_nil]; rfl)
  | cons y l ih =>
    intro vs n r
    cases n with
    | zero => exact rfl
    | succ n => exact relL_cons r fun v us a b => .mk a (ih n b)
theorem relL_drop {l : List V} : ∀ {vs : List Value} (n : Nat), RelL x ok ρ h hp l vs → RelL x ok ρ h hp (l.drop n) (vs.drop n) := by
  induction l with
  | nil => exact fun n r => relL_nil r (by rw [List.drop_nil, List.drop_nil]; rfl)
  | cons y l ih =>
    intro vs n r
    cases n with
    | zero => exact r
    | succ n => exact relL_cons r fun v us a b => ih n b
theorem relL_eraseIdx {l : List V} {vs : List Value} (n : Nat) (r : RelL x ok ρ h hp l vs) : RelL x ok ρ h hp (l.eraseIdx n) (vs.eraseIdx n) := by
  rw [List.eraseIdx_eq_take_drop_succ, List.eraseIdx_eq_take_drop_succ]
  exact relL_append (relL_take n r) (relL_drop (n + 1) r)
theorem relL_reverse {l : List V} : ∀ {vs : List Value}, RelL x ok ρ h hp l vs → RelL x ok ρ h hp l.reverse vs.reverse := by
  induction l with
  | nil => exact fun r => relL_nil r rfl
  | cons y l ih =>
    intro vs r
    refine relL_cons r fun v us a b => ?_
    rw [List.reverse_cons, List.reverse_cons]
    exact relL_append (ih b) (.mk a rfl)
theorem relL_set {l : List V} : ∀ {vs : List Value} (n : Nat) {y : V} {v : Value}, RelL x ok ρ h hp l vs → Rel x ok ρ h hp y v → RelL x ok ρ h hp (l.set n y) (vs.set n v) := by
  induction l with
  | nil => exact fun n _ _ r _ => relL_nil r rfl
  | cons z l ih =>
    intro vs n y v r c
    cases n with
    | zero => exact relL_cons r fun _ us _ b => .mk c b
    | succ n => exact relL_cons r fun _ us a b => .mk a (ih n b c)

@[elab_as_elim] theorem relKV_cons {k : Int} {y : V} {l : List (Int × V)} {P : List (Int × Value) → Prop} {vs : List (Int × Value)} (r : RelKV x ok ρ h hp ((k, y) :: l) vs) (c : ∀ v us, Rel x ok ρ h hp y v → RelKV x ok ρ h hp l us → P ((k, v) :: us)) : P vs := by
  obtain ⟨v, us, rfl, a, b⟩ := r
  exact c v us a b
@[elab_as_elim] theorem relKV_nil {P : List (Int × Value) → Prop} {vs : List (Int × Value)} (r : RelKV x ok ρ h hp [] vs) (k : P []) : P vs := (show vs = _ from r) ▸ k
theorem RelKV.mk {k : Int} {y : V} {l : List (Int × V)} {v : Value} {us : List (Int × Value)} (a : Rel x ok ρ h hp y v) (b : RelKV x ok ρ h hp l us) : RelKV x ok ρ h hp ((k, y) :: l) ((k, v) :: us) := ⟨v, us, rfl, a, b⟩
theorem getKV_hit {α : Type} {k : Int} {y : α} {l : List (Int × α)} : ((((k, y) :: l).find? fun p => decide (p.1 = k)).map (·.2)) = some y := by rw [List.find?_cons_of_pos (by simp)]; rfl
theorem getKV_miss {α : Type} {k k' : Int} {y : α} {l : List (Int × α)} (q : ¬ k' = k) : ((((k', y) :: l).find? fun p => decide (p.1 = k)).map (·.2)) = (l.find? fun p => decide (p.1 = k)).map (·.2) := by rw [List.find?_cons_of_neg (by simpa using q)]
theorem relKV_get {kv : List (Int × V)} : ∀ {kvs : List (Int × Value)} (k : Int), RelKV x ok ρ h hp kv kvs →
    (getKV kv k = none → valueAt kvs k = none) ∧ (∀ y, getKV kv k = some y → ∃ v, valueAt kvs k = some v ∧ Rel x ok ρ h hp y v) := by
  induction kv with
  | nil => exact fun k r => relKV_nil r ⟨fun _ => rfl, fun _ e => nn e⟩
  | cons p kv ih =>
    obtain ⟨k', z⟩ := p
    intro kvs k r
    refine relKV_cons r fun v us a b => ?_
    unfold getKV valueAt
    by_cases q : k' = k
    · subst q
      rw [getKV_hit, getKV_hit]
      exact ⟨fun e => (nomatch e), fun y e => ⟨v, rfl, (Option.some.inj e) ▸ a⟩⟩
    · rw [getKV_miss q, getKV_miss q]
      exact ih k b
theorem relKV_keys {kv : List (Int × V)} : ∀ {kvs : List (Int × Value)}, RelKV x ok ρ h hp kv kvs → kv.map (·.1) = kvs.map (·.1) := by
  induction kv with
  | nil => exact fun r => relKV_nil r rfl
  | cons p kv ih =>
    intro kvs r
    obtain ⟨k, z⟩ := p
    refine relKV_cons r fun v us _ b => ?_
    exact congrArg (k :: ·) (ih b)
theorem relKV_any {kv : List (Int × V)} {kvs : List (Int × Value)} (r : RelKV x ok ρ h hp kv kvs) (k : Int) : kv.any (fun p => decide (p.1 = k)) = kvs.any (fun p => decide (p.1 = k)) := by
  have := relKV_keys r
  have a : kv.any (fun p => decide (p.1 = k)) = (kv.map (·.1)).any (fun q => decide (q = k)) := by rw [List.any_map]; rfl
  have b : kvs.any (fun p => decide (p.1 = k)) = (kvs.map (·.1)).any (fun q => decide (q = k)) := by rw [List.any_map]; rfl
  rw [a, b, this]
theorem relKV_map {k : Int} {y : V} {v : Value} (c : Rel x ok ρ h hp y v) {kv : List (Int × V)} : ∀ {kvs : List (Int × Value)}, RelKV x ok ρ h hp kv kvs →
    RelKV x ok ρ h hp (kv.map fun p => if p.1 = k then (p.1, y) else p) (kvs.map fun p => if p.1 = k then (p.1, v) else p) := by
  induction kv with
  | nil => exact fun r => relKV_nil r rfl
  | cons p kv ih =>
    intro kvs r
    obtain ⟨k', z⟩ := p
    refine relKV_cons r fun u us a b => ?_
    rw [List.map_cons, List.map_cons]
    by_cases q : k' = k
    · rw [if_pos q, if_pos q]; exact .mk c (ih b)
    · rw [if_neg q, if_neg q]; exact .mk a (ih b)
theorem relKV_snoc {k : Int} {y : V} {v : Value} (c : Rel x ok ρ h hp y v) {kv : List (Int × V)} : ∀ {kvs : List (Int × Value)}, RelKV x ok ρ h hp kv kvs → RelKV x ok ρ h hp (kv ++ [(k, y)]) (kvs ++ [(k, v)]) := by
  induction kv with
  | nil => exact fun r => relKV_nil r (.mk c rfl)
  | cons p kv ih =>
    intro kvs r
    obtain ⟨k', z⟩ := p
    refine relKV_cons r fun u us a b => ?_
    exact .mk a (ih b)
theorem relKV_set {kv : List (Int × V)} {kvs : List (Int × Value)} (r : RelKV x ok ρ h hp kv kvs) (k : Int) {y : V} {v : Value} (c : Rel x ok ρ h hp y v) : RelKV x ok ρ h hp (setKV kv k y) (stored kvs k v) := by
  unfold setKV stored
  rw [relKV_any r]
  split
  · exact relKV_map c r
  · exact relKV_snoc c r
theorem relKV_del {kv : List (Int × V)} (k : Int) : ∀ {kvs : List (Int × Value)}, RelKV x ok ρ h hp kv kvs → RelKV x ok ρ h hp (delKV kv k) (without kvs k) := by
  induction kv with
  | nil => exact fun r => relKV_nil r rfl
  | cons p kv ih =>
    intro kvs r
    obtain ⟨k', z⟩ := p
    refine relKV_cons r fun u us a b => ?_
    unfold delKV without
    by_cases q : k' = k
    · rw [List.filter_cons_of_neg (by simp [q]), List.filter_cons_of_neg (by simp [q])]; exact ih b
    · rw [List.filter_cons_of_pos (by simp [q]), List.filter_cons_of_pos (by simp [q])]; exact .mk a (ih b)
theorem relKV_length {kv : List (Int × V)} {kvs : List (Int × Value)} (r : RelKV x ok ρ h hp kv kvs) : kv.length = kvs.length := by
  have := congrArg List.length (relKV_keys r); simpa using this
theorem setKV_length (kv : List (Int × V)) (k : Int) (v : V) : (setKV kv k v).length ≤ kv.length + 1 := by
  unfold setKV; split <;> simp
theorem delKV_length (kv : List (Int × V)) (k : Int) : (delKV kv k).length ≤ kv.length := List.length_filter_le _ _

theorem rel_none (hx : CxOk x) {y : V} {v : Value} (r : Rel x ok ρ h hp y v) : (v == .none) = y.isNone := by
  cases y with
  | non => cases r; rfl
  | bool b => cases r; rfl
  | fn k => exact hx.gne k v r
  | int i => exact r.elim fun t q => q ▸ rfl
  | str i => exact r.elim fun q r => r.elim fun t r => r.2 ▸ rfl
  | rng n => exact r.elim fun q r => r.elim fun t r => r.elim fun t r => r.elim fun t r => r.1 ▸ rfl
  | tup l => exact r.elim fun q r => r.elim fun t r => r.1 ▸ rfl
  | lst l => exact r.elim fun q r => r.elim fun t r => r.elim fun t r => r.1 ▸ rfl
  | loc n => exact r.elim fun q r => r.2 ▸ rfl
  | clo k l => exact r.elim fun q r => r.elim fun t r => r.1 ▸ rfl

theorem strS_inj {i j : Nat} {q : Str} (a : strS i = some q) (b : strS j = some q) : i = j := by
  have nd : (strL0.map Str.ofString).Nodup := by decide +kernel
  have a' : (strL0.map Str.ofString)[i]? = some q := by rw [List.getElem?_map]; exact a
  have b' : (strL0.map Str.ofString)[j]? = some q := by rw [List.getElem?_map]; exact b
  obtain ⟨hi, e1⟩ := List.getElem?_eq_some_iff.mp a'
  obtain ⟨hj, e2⟩ := List.getElem?_eq_some_iff.mp b'
  exact (List.getElem_inj nd).mp (e1.trans e2.symm)
theorem strS_beq {i j : Nat} {q r : Str} (a : strS i = some q) (b : strS j = some r) : (q == r) = (i == j) := by
  by_cases e : i = j
  · subst e; rw [a] at b; cases b; simp
  · have : q ≠ r := fun z => e (strS_inj a (z ▸ b))
    rw [beq_eq_false_iff_ne.mpr this, beq_eq_false_iff_ne.mpr e]

theorem shaped_tup (ns : List Int) : SeqAt.shaped (.tuple (ns.map PyData.int)) = true := by
  simp [SeqAt.shaped, PyData.canLay0, PyData.depth, ke_canLayAll0, ke_depthAll]
theorem noMix_ints : ∀ a b : List Int, SeqAt.noMixAll (a.map PyData.int) (b.map PyData.int) = true
  | [], [] => by simp [SeqAt.noMixAll]
  | [], _ :: _ => by simp [SeqAt.noMixAll]
  | _ :: _, [] => by simp [SeqAt.noMixAll]
  | _ :: a, _ :: b => by simp [SeqAt.noMixAll, SeqAt.noMix, noMix_ints a b]
end

section
variable {x : Cx} {env : Env} {sl : List Str} {m : Loc} {L lo : Addr} {cs : List Addr} {ρ : Rho} {h : H} {A : Around} {s : Shared} {Q : Value → Shared → Prop} {E : Value → Shared → Prop} {n : Nat}
theorem reads_ints {vs : List Value} {is : List Int} {hp : Heap} (r : IntsAre vs is) : ReadsAll hp vs (is.map PyData.int) [] := by
  induction r with
  | nil => exact .nil
  | cons n t _ ih => exact .cons (.int n t) ih

@[elab_as_elim] theorem eqInts_el {a b : List V} {r : Bool} {P : Bool → Prop} (e : eqInts a b = some r) (k : ∀ x y, intL a = some x → intL b = some y → P (x == y)) : P r :=
  onS_el e fun x e1 e => onS_el e fun y e2 e => some_el e (k x y e1 e2)
theorem Room.cLine (R : Room n A) : A.units + 64 < cLine := by have := R.units; lia
theorem same_tup (a b : List Int) : Spec.same (.tuple (a.map PyData.int)) (.tuple (b.map PyData.int)) = (a == b) := by
  simp only [PySem.Spec.same]; rw [ke_sameAll]; by_cases z : a = b <;> simp [z]
theorem eq_dec (a b : List Int) : decide (a = b) = (a == b) := by by_cases z : a = b <;> simp [z]
theorem veq_sound (R : Room n A) {y1 y2 : V} {b : Bool} {v1 v2 : Value} (e : veq y1 y2 = some b) (r1 : Rel x okF ρ h s.heap y1 v1) (r2 : Rel x okF ρ h s.heap y2 v2) :
    (Q (.bool b) s → wpAny (model x.prog x.w) A (compareOp .Eq v1 v2) Q E s) ∧ (Q (.bool !b) s → wpAny (model x.prog x.w) A (compareOp .NotEq v1 v2) Q E s) := by
  have hu := R.cLine
  cases y1 with
  | int i =>
    refine vI_el e fun j q ee => ?_
    subst q
    exact rel_int r1 fun t => rel_int r2 fun u => some_el ee ⟨fun q => PyProof.Rows.eq_int q, fun q => PyProof.Rows.ne_int q⟩
  | bool i =>
    refine vBool_el e fun j q ee => ?_
    subst q
    exact rel_bool r1 (rel_bool r2 (some_el ee ⟨fun q => PyProof.Rows.eq_bool q, fun q => PyProof.Rows.ne_bool q⟩))
  | str i =>
    refine vStr_el e fun j q ee => ?_
    subst q
    refine rel_str r1 fun q1 t e1 => rel_str r2 fun q2 u e2 => some_el ee ?_
    rw [← strS_beq e1 e2]
    exact ⟨fun q => PyProof.Rows.eq_str q, fun q => PyProof.Rows.ne_str q⟩
  | tup l =>
    refine vT_el e fun j q ee => ?_
    subst q
    refine rel_tup r1 fun a1 vs1 p1 _ _ l1 => rel_tup r2 fun a2 vs2 p2 _ _ l2 => eqInts_el ee fun is1 is2 e1 e2 => ?_
    obtain ⟨o1, g1, c1, n1, d1⟩ := p1
    obtain ⟨o2, g2, c2, n2, d2⟩ := p2
    have R1 := Reads.tuple g1 c1 d1 (reads_ints (relL_ints l1 e1))
    have R2 := Reads.tuple g2 c2 d2 (reads_ints (relL_ints l2 e2))
    have nm : SeqAt.noMix (.tuple (is1.map PyData.int)) (.tuple (is2.map PyData.int)) = true := (show SeqAt.noMix _ _ = _ by rw [SeqAt.noMix]).trans (noMix_ints _ _)
    rw [← same_tup]
    exact ⟨eq_dataH_same R1 R2 (shaped_tup _) (shaped_tup _) hu nm, ne_dataH_same R1 R2 (shaped_tup _) (shaped_tup _) hu nm⟩
  | lst l =>
    refine vLst_el e fun j q ee => ?_
    subst q
    refine rel_lst r1 fun a1 vs1 n1 p1 _ _ l1 => rel_lst r2 fun a2 vs2 n2 p2 _ _ l2 => eqInts_el ee fun is1 is2 e1 e2 => ?_
    rw [← eq_dec]
    exact ⟨ke_eq_ints p1.isList p2.isList (relL_ints l1 e1) (relL_ints l2 e2) hu, ke_ne_ints p1.isList p2.isList (relL_ints l1 e1) (relL_ints l2 e2) hu⟩
  | _ => exact nn e

theorem loc_obj (G : Good x env sl m L cs lo ρ h s.heap) {k : Nat} {o : O} {v : Value} (r : Rel x okF ρ h s.heap (.loc k) v) (e : h[k]? = some o) : ∃ p, ρ.o[k]? = some p ∧ v = .ref p.1 ∧ ObjRel x okF ρ h s.heap p o := by
  obtain ⟨p, hp, rfl⟩ := r
  exact ⟨p, hp, rfl, G.sim.obj k p o hp e⟩
theorem not_sys (hx : CxOk x) (G : Good x env sl m L cs lo ρ h s.heap) {k : Nat} {o : O} {p : Addr × Addr} (hp : ρ.o[k]? = some p) (e : h[k]? = some o) (l : o.live = true) : (p.1 == sysModules) = false := by
  refine beq_eq_false_iff_ne.mpr fun q => ?_
  obtain ⟨o', ho⟩ := hx.sys
  exact (G.sim.static _ _ ho).2 (q ▸ ⟨k, p, o, hp, e, l, .inl rfl⟩)

theorem intsAre_none {vs : List Value} {is : List Int} (r : IntsAre vs is) : ∀ y ∈ vs, SeqAt.EqAt A s y .none ((fun _ => false) y) := by
  induction r with
  | nil => exact fun _ q => nomatch q
  | cons n t _ ih =>
    intro y hy
    rcases List.mem_cons.mp hy with rfl | hy
    · intro prog w E Q hq
      unfold eqBool
      have : (Value.int n t == Value.none) = false := rfl
      rw [this]
      simp only [Bool.false_eq_true, if_false]
      exact wpAny_bind (EqNone.eq_int_none (wpAny_truthy_bool hq))
    · exact ih y hy

theorem any_no (vs : List Value) : (vs.toArray.any fun _ => false) = false := by
  rw [← Array.any_toList]; induction vs <;> simp_all

theorem any_strs {q1 : Str} {i : Nat} (e1 : strS i = some q1) {ks : List Nat} : ∀ {ys : List Str}, ks.map strS = ys.map some → ys.any (· == q1) = ks.contains i := by
  induction ks with
  | nil =>
    intro ys z
    cases ys with
    | nil => rfl
    | cons y ys => exact nomatch z
  | cons k ks ih =>
    intro ys z
    cases ys with
    | nil => exact nomatch z
    | cons y ys =>
      rw [List.any_cons, List.contains_cons, ih (List.cons.inj z).2, strS_beq (List.cons.inj z).1 e1, Bool.beq_comm]
theorem any_ints (is : List Int) (i : Int) : is.any (fun y => y == i) = is.contains i := by
  rw [List.contains_eq_any_beq]
  congr 1
  funext y
  exact Bool.beq_comm
theorem isSome_of {kv : List (Int × V)} {kvs : List (Int × Value)} {hp : Heap} (rk : RelKV x okF ρ h hp kv kvs) (i : Int) : (valueAt kvs i).isSome = (getKV kv i).isSome := by
  have g := relKV_get i rk
  cases q : getKV kv i with
  | none => rw [g.1 q]; rfl
  | some y => obtain ⟨v, q2, _⟩ := g.2 y q; rw [q2]; rfl
/-- an object of the mini heap, seen through a value -/
@[elab_as_elim] theorem loc_el (G : Good x env sl m L cs lo ρ h s.heap) {k : Nat} {o : O} {v : Value} {P : Value → Prop} (r : Rel x okF ρ h s.heap (.loc k) v) (e : h[k]? = some o) (c : ∀ p, ρ.o[k]? = some p → ObjRel x okF ρ h s.heap p o → P (.ref p.1)) : P v :=
  rel_loc r fun p hp => c p hp (G.sim.obj k p o hp e)
@[elab_as_elim] theorem list_el (G : Good x env sl m L cs lo ρ h s.heap) {k : Nat} {l : List V} {v : Value} {P : Value → Prop} (r : Rel x okF ρ h s.heap (.loc k) v) (e : h[k]? = some (.list l)) (c : ∀ p vs n, ρ.o[k]? = some p → IsL s.heap p.1 vs.toArray n → l.length ≤ lenB → RelL x okF ρ h s.heap l vs → P (.ref p.1)) : P v :=
  loc_el G r e fun p hp o => o.elim fun vs o => o.elim fun n o => c p vs n hp o.1 o.2.1 o.2.2
@[elab_as_elim] theorem dict_el (G : Good x env sl m L cs lo ρ h s.heap) {k : Nat} {l : List (Int × V)} {v : Value} {P : Value → Prop} (r : Rel x okF ρ h s.heap (.loc k) v) (e : h[k]? = some (.dict l)) (c : ∀ p kvs, ρ.o[k]? = some p → s.heap.DictOf (intKind x.prog x.w) p.1 kvs → l.length ≤ lenB → RelKV x okF ρ h s.heap l kvs → P (.ref p.1)) : P v :=
  loc_el G r e fun p hp o => o.elim fun kvs o => c p kvs hp o.1 o.2.1 o.2.2
theorem mem_sound (hx : CxOk x) (R : Room n A) (G : Good x env sl m L cs lo ρ h s.heap) {y1 y2 : V} {b : Bool} {v1 v2 : Value} (e : mem y1 y2 h = some b) (r1 : Rel x okF ρ h s.heap y1 v1) (r2 : Rel x okF ρ h s.heap y2 v2) :
    ((∀ t, Q (.bool b) { s with toks := t }) → wpAny (model x.prog x.w) A (compareOp .In v1 v2) Q E s) ∧ ((∀ t, Q (.bool !b) { s with toks := t }) → wpAny (model x.prog x.w) A (compareOp .NotIn v1 v2) Q E s) := by
  cases y2 with
  | tup l =>
    refine vStr_el e fun j q ee => onS_el ee fun ks e2 ee => ?_
    subst q
    refine rel_str r1 fun q1 t e1 => rel_tup r2 fun a vs p1 _ _ l1 => some_el ee ?_
    obtain ⟨ys, sa, eq⟩ := relL_strs l1 e2
    rw [← any_strs e1 eq]
    exact ⟨fun q => in_tuple_strs p1 sa (q _), fun q => notin_tuple_strs p1 sa (q _)⟩
  | loc k =>
    refine oLD_el e (fun l e3 e => ?_) fun kv e3 e => ?_
    · refine list_el G r2 e3 fun p vs n hp il _ rl => onS_el e fun is e4 ee => ?_
      have ia := relL_ints rl e4
      cases y1 with
      | int i =>
        refine rel_int r1 fun t => some_el ee ?_
        rw [← any_ints]
        exact ⟨fun q => in_list_ints il.isList ia (q _), fun q => notin_list_ints il.isList ia (q _)⟩
      | non =>
        refine rel_non r1 (some_el ee ?_)
        have z : ∀ y, y ∈ vs.toArray → SeqAt.EqAt A.in1 s y .none ((fun _ => false) y) := fun y hy => intsAre_none ia y (by simpa using hy)
        rw [← any_no vs]
        exact ⟨fun q => SeqAt.in_listAt (fun _ => false) il.isList z (q s.toks), fun q => SeqAt.notIn_listAt (fun _ => false) il.isList z (q s.toks)⟩
      | _ => exact nn ee
    · refine dict_el G r2 e3 fun p kvs hp dof _ rk => vI_el e fun i q ee => ?_
      subst q
      refine rel_int r1 fun t => some_el ee ?_
      rw [← isSome_of rk]
      have ns := not_sys hx G hp e3 rfl
      have ik : (intKind x.prog x.w).is i (.int i t) = true := by simp [intKind, Value.isInt]
      exact ⟨fun q => wpAny_in_of ik ns dof.mapOf (q _), fun q => wpAny_notIn_of ik ns dof.mapOf (q _)⟩
  | _ => exact nn e
@[elab_as_elim] theorem int2_el {y1 y2 : V} {f : Int → Int → Bool} {b : Bool} {P : V → V → Bool → Prop} (e : int2 y1 y2 f = some b) (k : ∀ i j, P (.int i) (.int j) (f i j)) : P y1 y2 b :=
  vI_el e fun i q1 e => vI_el e fun j q2 e => some_el e (q1 ▸ q2 ▸ k i j)
theorem isNone_eq {y : V} (e : y.isNone = true) : y = .non := by
  cases y with
  | non => rfl
  | _ => exact ff e

theorem cmp_sound (hx : CxOk x) (R : Room n A) (G : Good x env sl m L cs lo ρ h s.heap) {op : Cm} {o : CmpOp} {y1 y2 : V} {b : Bool} {v1 v2 : Value} (e : cmpop op y1 y2 h = some b) (ho : cmOk op o = true)
    (r1 : Rel x okF ρ h s.heap y1 v1) (r2 : Rel x okF ρ h s.heap y2 v2) (hq : ∀ t, Q (.bool b) { s with toks := t }) : wpAny (model x.prog x.w) A (compareOp o v1 v2) Q E s := by
  have rel2 : ∀ {f : Int → Int → Bool}, int2 y1 y2 f = some b → (∀ i j t u, Q (.bool (f i j)) s → wpAny (model x.prog x.w) A (compareOp o (.int i t) (.int j u)) Q E s) → wpAny (model x.prog x.w) A (compareOp o v1 v2) Q E s := fun e k =>
    vI_el e fun i q1 e => vI_el e fun j q2 e => rel_int (show Rel x okF ρ h s.heap (.int i) v1 from q1 ▸ r1) fun t => rel_int (show Rel x okF ρ h s.heap (.int j) v2 from q2 ▸ r2) fun u => k i j t u (some_bk e (hq s.toks))
  cases op <;> cases (eq_of_beq ho : o = _)
  · exact (veq_sound R e r1 r2).1 (hq s.toks)
  · exact onS_el e fun c e1 e => (veq_sound R e1 r1 r2).2 (some_bk e (hq s.toks))
  · exact rel2 e fun i j t u q => PyProof.Rows.lt_int q
  · exact rel2 e fun i j t u q => PyProof.Rows.le_int q
  · exact rel2 e fun i j t u q => PyProof.Rows.gt_int q
  · exact rel2 e fun i j t u q => PyProof.Rows.ge_int q
  · refine if_el e fun q e => rel_non (show Rel x okF ρ h s.heap .non v2 from isNone_eq q ▸ r2) (is_none_gen ?_)
    rw [rel_none hx r1]
    exact some_bk e (hq s.toks)
  · refine if_el e fun q e => rel_non (show Rel x okF ρ h s.heap .non v2 from isNone_eq q ▸ r2) (isnot_none_gen ?_)
    rw [rel_none hx r1]
    exact some_bk e (hq s.toks)
  · exact (mem_sound hx R G e r1 r2).1 hq
  · exact onS_el e fun c e1 e => (mem_sound hx R G e1 r1 r2).2 fun t => some_bk e (hq t)

theorem truth_sound {QB : Bool → Shared → Prop} {y : V} {v : Value} {b : Bool} {hp : Heap} (e : truth y = some b) (r : Rel x okF ρ h hp y v) (hq : QB b s) : wpAny (model x.prog x.w) A (truthy v) QB E s := by
  cases y with
  | bool i => exact rel_bool r (wpAny_truthy_bool (some_bk e hq))
  | int i => exact rel_int r fun t => PyProof.Rows.truthy_int (some_bk e hq)
  | _ => exact nn e
end
end Mine
end

section
namespace Mine
open PySem PySem.W PySem.Calls PyProof.Rows

theorem sub_plain {slice : Expr} (h : isSliceE slice = false) (o i : Value) : subscripted slice false o i = operate [o, i] (getItem o i) := by
  cases slice <;> first | rfl | exact ff h.symm
theorem sizeLine_big : lenB + 1 ≤ sizeLine := by rw [sizeLine_eq]; decide

section
variable {x : Cx} {env : Env} {sl : List Str} {m : Loc} {L lo : Addr} {cs : List Addr} {ρ : Rho} {h : H} {A : Around} {s : Shared} {Q : Value → Shared → Prop} {E : Value → Shared → Prop} {n : Nat}

theorem seqIndex_nonneg {k : Int} {n : Nat} (h0 : 0 ≤ k) (h1 : k < n) : seqIndex? k n = some k.toNat := by
  unfold seqIndex?
  have : ¬ k < 0 := by lia
  simp [this, h1, h0]

theorem seqItem_sound {l : List V} {vs : List Value} {i : Int} {t : Tok} {y : V} {a : Addr} (e : seqItem l i = some y) (hl : s.heap.IsList a vs.toArray) (r : RelL x okF ρ h s.heap l vs) (hb : l.length ≤ lenB)
    (hq : ∀ v, Rel x okF ρ h s.heap y v → Q v s) : wpAny (model x.prog x.w) A (getItem (.ref a) (.int i t)) Q E s := by
  have len := relL_length r
  have hb' : vs.length ≤ 1000000 := len ▸ hb
  unfold seqItem at e
  by_cases h0 : 0 ≤ i
  · rw [if_pos h0] at e
    obtain ⟨v, hv, rv⟩ := relL_get r e
    have := (List.getElem?_eq_some_iff.mp hv).1
    exact wpAny_getItem_list hl h0 (by lia) (List.getElem?_toArray.trans hv) (hq v rv)
  · rw [if_neg h0] at e
    refine if_el e fun h1 e => ?_
    subst h1
    rw [List.getLast?_eq_getElem?] at e
    obtain ⟨v, hv, rv⟩ := relL_get r e
    have := (List.getElem?_eq_some_iff.mp hv).1
    refine wpAny_getItem_list_neg hl (by decide) (by rw [List.size_toArray]; lia) (by decide) ?_ (hq v rv)
    have : ((-1 : Int) + (vs.toArray.size : Nat)).toNat = l.length - 1 := by rw [List.size_toArray]; lia
    rw [this]; exact List.getElem?_toArray.trans hv

theorem subscr_sound (hx : CxOk x) (G : Good x env sl m L cs lo ρ h s.heap) {o i y : V} {ov iv : Value} {value slice : Expr} (e : subscr o i h = some y) (ro : Rel x okF ρ h s.heap o ov) (ri : Rel x okF ρ h s.heap i iv) (hs : isSliceE slice = false)
    (hq : ∀ v t, Rel x okF ρ h s.heap y v → Q v { s with toks := t }) : wpAny (model x.prog x.w) A (subscriptTail value slice ov iv) Q E s := by
  have sp := sub_plain hs
  cases o with
  | tup l =>
    refine vI_el e fun j q e => ?_
    subst q
    refine rel_tup ro fun a vs ti _ hb rl => rel_int ri fun t => if_el e fun h0 e => ?_
    obtain ⟨v, hv, rv⟩ := relL_get rl e
    have hb' : vs.length ≤ 1000000 := relL_length rl ▸ hb
    have lt := (List.getElem?_eq_some_iff.mp hv).1
    exact item_tupleT ti (by lia) (by lia) (seqIndex_nonneg h0 (by lia)) hv (hq v s.toks rv) (sp _ _)
  | lst l =>
    refine vI_el e fun j q e => ?_
    subst q
    exact rel_lst ro fun a vs k il _ hb rl => rel_int ri fun t => tail_any il.isList.typeIs slot_list_getitem.lookup (seqItem_sound e il.isList rl hb fun v rv => hq v s.toks rv) (sp _ _)
  | loc k =>
    refine vI_el e fun j q e => ?_
    subst q
    refine rel_int ri fun t => oLD_el e (fun l e3 e => ?_) fun kv e3 e => ?_
    · exact list_el G ro e3 fun p vs k _ il hb rl => tail_any il.isList.typeIs slot_list_getitem.lookup (seqItem_sound e il.isList rl hb fun v rv => hq v s.toks rv) (sp _ _)
    · refine dict_el G ro e3 fun p kvs _ dof _ rk => ?_
      obtain ⟨v, hv, rv⟩ := (relKV_get _ rk).2 y e
      exact tail_any dof.typeIs slot_dict_getitem.lookup (wpAny_getItem_of (by simp [intKind, Value.isInt]) dof.mapOf hv (hq v _ rv)) (sp _ _)
  | _ => exact nn e

/-- a list, frozen or in the heap -/
@[elab_as_elim] theorem list_at (G : Good x env sl m L cs lo ρ h s.heap) {y : V} {v : Value} {l : List V} {P : Value → Prop} (e : listOf y h = some l) (r : Rel x okF ρ h s.heap y v) (k : ∀ a vs k, IsL s.heap a vs.toArray k → l.length ≤ lenB → RelL x okF ρ h s.heap l vs → P (.ref a)) : P v := by
  cases y with
  | lst l' => exact rel_lst r fun a vs n il _ hb rl => k a vs n il ((Option.some.inj e) ▸ hb) ((Option.some.inj e) ▸ rl)
  | loc n => exact oLN_el e fun l' e3 e => list_el G r e3 fun p vs n _ il hb rl => k _ vs n il ((Option.some.inj e) ▸ hb) ((Option.some.inj e) ▸ rl)
  | _ => exact nn e

/-- a new mini object somewhere in a heap that has grown -/
theorem Good.alloc (G : Good x env sl m L cs lo ρ h s.heap) {hp' : Heap} (k : ∀ b o, s.heap.get? b = some o → hp'.get? b = some o) (a : Addr × Addr) (o : O) (z : s.heap.objs.size ≤ hp'.objs.size) (a1 : s.heap.objs.size ≤ a.1) (a2 : s.heap.objs.size ≤ a.2)
    (b1 : a.1 < hp'.objs.size) (b2 : a.2 < hp'.objs.size) (r : Step L cs lo ρ h s.heap ⟨ρ.o ++ [a], ρ.c⟩ (h ++ [o]) hp' → ObjRel x okF ⟨ρ.o ++ [a], ρ.c⟩ (h ++ [o]) hp' a o) :
    Res x L lo ρ h s.heap ⟨ρ.o ++ [a], ρ.c⟩ (h ++ [o]) hp' ∧ Rel x okF ⟨ρ.o ++ [a], ρ.c⟩ (h ++ [o]) hp' (.loc h.length) (.ref a.1) :=
  have A := G.sim.alloc G.fr k z a1 a2 b1 b2 r
  ⟨⟨{ A.2 with keep := fun b o _ _ e _ => k b o e }, nsKept_grow k, A.1⟩, a, by rw [← G.sim.len, List.getElem?_append_right (Nat.le_refl _), Nat.sub_self]; rfl, rfl⟩
/-- a new list somewhere in a heap that has grown -/
theorem Good.alloc_list (G : Good x env sl m L cs lo ρ h s.heap) {hp' : Heap} (k : ∀ b o, s.heap.get? b = some o → hp'.get? b = some o) {a : Addr} {l : List V} {vs : List Value} {e : Nat}
    (a1 : s.heap.objs.size ≤ a) (ha : IsL hp' a vs.toArray e) (z : s.heap.objs.size ≤ hp'.objs.size) (hb : l.length ≤ lenB) (r : RelL x okF ρ h s.heap l vs) (t : Nat) :
    XPost x L lo ρ h s (.loc h.length) (h ++ [.list l]) (.ref a) { s with heap := hp', toks := t } :=
  have A := G.alloc k (a, a) (.list l) z a1 a1 (Heap.lt_size ha) (Heap.lt_size ha) fun T => ⟨vs, e, ha, hb, r.step T G.fr⟩
  ⟨_, _, t, rfl, A.1, A.2⟩
/-- an object that has just been made, with no dict of its own -/
theorem new_obj (G : Good x env sl m L cs lo ρ h s.heap) {o : O} {ob : Obj} (k : ∀ T : Step L cs lo ρ h s.heap ⟨ρ.o ++ [(s.heap.objs.size, s.heap.objs.size)], ρ.c⟩ (h ++ [o]) (s.heap.push ob), ObjRel x okF ⟨ρ.o ++ [(s.heap.objs.size, s.heap.objs.size)], ρ.c⟩ (h ++ [o]) (s.heap.push ob) (s.heap.objs.size, s.heap.objs.size) o) (t : Nat) :
    XPost x L lo ρ h s (.loc h.length) (h ++ [o]) (.ref s.heap.objs.size) { s with heap := s.heap.push ob, toks := t } :=
  have lt : s.heap.objs.size < (s.heap.push ob).objs.size := (Heap.size_push s.heap ob).symm ▸ Nat.lt_succ_self _
  have A := G.alloc (fun _ _ e => Heap.get?_push_of_some _ e) (s.heap.objs.size, s.heap.objs.size) o (Nat.le_of_lt lt) (Nat.le_refl _) (Nat.le_refl _) lt lt k
  ⟨_, _, t, rfl, A.1, A.2⟩
/-- a list that has just been made -/
theorem new_list (G : Good x env sl m L cs lo ρ h s.heap) {l : List V} {vs : List Value} {k : Nat} {o : Obj} (ho : o = { cls := .type "list", dict := none, data := .seq vs.toArray k, slots := #[] }) (hb : l.length ≤ lenB) (r : RelL x okF ρ h s.heap l vs) (t : Nat) :
    XPost x L lo ρ h s (.loc h.length) (h ++ [.list l]) (.ref s.heap.objs.size) { s with heap := s.heap.push o, toks := t } :=
  new_obj (o := .list l) (ob := o) G (fun T => ⟨vs, k, ho ▸ Heap.get?_push_size _ rfl, hb, r.step T G.fr⟩) t

/-- a tuple that has just been made -/
theorem new_tuple (G : Good x env sl m L cs lo ρ h s.heap) {l : List V} {vs : List Value} (hb : l.length ≤ lenB) (r : RelL x okF ρ h s.heap l vs) (t : Nat) :
    XPost x L lo ρ h s (.tup l) h (.ref s.heap.objs.size) { s with heap := s.heap.push { cls := .type "tuple", data := .seq vs.toArray }, toks := t } := by
  have P := G.push { cls := .type "tuple", data := .seq vs.toArray }
  refine ⟨ρ, _, t, rfl, P, s.heap.objs.size, vs, rfl, ⟨_, Heap.get?_push_size _ rfl, rfl, 0, rfl⟩, G.fresh (Nat.le_refl _), hb, r.step P.st G.fr.none⟩
end
end Mine
end

section
set_option maxRecDepth 10000
namespace Mine
open PySem PySem.W PySem.Calls PyProof.Rows

section
variable {x : Cx} {env : Env} {sl : List Str} {m : Loc} {L lo : Addr} {cs : List Addr} {ρ ρ1 : Rho} {h h1 h2 : H} {hp1 : Heap} {t1 : Nat} {A : Around} {s s2 : Shared} {n : Nat} {c : Callee} {ns : NS} {y : V} {v : Value} {b : Bool}

theorem static_keep (G : Good x env sl m L cs lo ρ h s.heap) : ∀ b o, x.H0.get? b = some o → s.heap.get? b = some o := fun b o e => (G.sim.static b o e).1

theorem plainName_debug {q : Str} (e : plainName q = true) : (q == ("__debug__" : Str)) = false ∧ (q == ("__classdict__" : Str)) = false := and_el e fun a b => ⟨not_t a, not_t b⟩
theorem slotIs_of {i : Nat} {q : Str} (h : slotIs ns sl i q = true) : sl[i]? = some q ∧ isLoc (ns.lookup q) = true ∧ plainName q = true := and_el h fun h c => and_el h fun a b => ⟨eq_of_beq a, b, c⟩
theorem isLoc_el {P : Prop} {o : Option NameKind} (h : isLoc o = true) (k1 : o = some .local → P) (k2 : o = some .cell → P) (k3 : o = some .free → P) : P := by
  cases o with
  | none => exact ff h
  | some k => cases k <;> first | exact ff h | exact k1 rfl | exact k2 rfl | exact k3 rfl

theorem x_var {i : Nat} {q : Str} {pos : Pos} (hc : slotIs ns sl i q = true) : XOk x n c ns sl (.var i) (.Name q pos) := by
  intro A env L lo cs m h y h' ρ s R Ev e G
  obtain ⟨c1, c2, c3⟩ := slotIs_of hc
  refine onS_el e fun o hm e => onS_el e fun v hv e => pair_el e ?_
  have nm : env.scope.names.lookup q = ns.lookup q := congrArg (·.lookup q) Ev.names
  refine G.names.elim fun fm a => ?_
  have B := a.2 i q v c1 (hv ▸ hm)
  refine wpAny_Name ?_ (plainName_debug c3).1
  have cl : ∀ {P : Prop}, (ns.lookup q = some .cell ∨ ns.lookup q = some .free) → (∀ c w, env.cells.lookup q = some c → s.heap.IsCell c (some w) → XPost x L lo ρ h s v h w s → P) → P := fun o k =>
    (B.cell (by rw [nm]; exact o)).elim fun c b => b.elim fun w b => k c w b.1 b.2.1 (XPost.mk0 G b.2.2.2 _)
  refine isLoc_el c2 (fun e => ?_) (fun e => ?_) fun e => ?_
  · exact (B.loc (nm.trans e)).elim fun w b => wpAny_loadName_local Ev.kind (nm.trans e) (Ev.loc.symm ▸ a.1) b.1 (XPost.mk0 G b.2 _)
  · exact cl (.inl e) fun c w h1 h2 p => wpAny_loadName_cell Ev.kind (nm.trans e) h1 h2 p
  · exact cl (.inr e) fun c w h1 h2 p => wpAny_loadName_free Ev.kind (nm.trans e) h1 h2 p (plainName_debug c3).2
theorem gval_name {K : Frag} {k : Nat} {q : Str} {v : Value} (e : gval K k = some v) (e2 : gname k = some q) : (nsIn K mainGlobals q = some none ∧ bootBuiltins q = some v) ∨ nsIn K mainGlobals q = some (some v) := by
  unfold gval at e
  rw [e2] at e
  cases kk : kind k with
  | none => rw [kk] at e; exact nn e
  | some kd =>
    rw [kk] at e
    have join : (nsIn K mainGlobals q).join = some v → nsIn K mainGlobals q = some (some v) := by
      cases z : nsIn K mainGlobals q with
      | none => exact fun e => nn e
      | some w => exact fun e => congrArg some e
    cases kd with
    | bi b =>
      by_cases hn : (nsIn K mainGlobals q == some none) = true
      · exact .inl ⟨eq_of_beq hn, (if_pos hn).symm.trans e⟩
      · exact nn ((if_neg hn).symm.trans e)
    | _ => exact .inr (join e)
theorem x_glob (hx : CxOk x) {k : Nat} {q : Str} {pos : Pos} (c1 : gname k = some q) (c2 : ns.lookup q = some .globalImplicit) (c3 : plainName q = true) (c4 : q ≠ Str.ofString "__name__") (hg : (gval x.K k).isSome = true) : XOk x n c ns sl (.glob k) (.Name q pos) := by
  intro A env L lo cs m h y h' ρ s R Ev e G
  refine pair_el e ?_
  obtain ⟨v, hv⟩ := Option.isSome_iff_exists.mp hg
  obtain ⟨p, loose, mg, mb, T⟩ := hx.top
  have hgl : s.heap.Ns env.globals mg := Ev.glob ▸ T.g.keeps (static_keep G)
  refine Name_function_global Ev.kind ((congrArg (·.lookup q) Ev.names).trans c2) ?_ (plainName_debug c3).1
  have r : Rel x okF ρ h s.heap (.fn k) v := hv
  refine (gval_name hv c1).elim (fun b => ?_) fun b => ?_
  · exact loadGlobal_builtin hgl (mg_none_of hx.X T.g b.1) (Ev.bi ▸ T.b.keeps (static_keep G)) ((T.builtins _ c4).trans b.2) (XPost.mk0 G r _)
  · exact loadGlobal_global hgl (mg_of hx.X T.g b) (XPost.mk0 G r _)

theorem x_non {k : Nat} {pos : Pos} : XOk x n c ns sl .non (.Constant .none k pos) := fun R Ev e G => pair_el e (wpAny_pure (XPost.mk0 (y := .non) G (v := .none) rfl _))
theorem x_bool {b : Bool} {k : Nat} {pos : Pos} : XOk x n c ns sl (.bool b) (.Constant (.bool b) k pos) := fun R Ev e G => pair_el e (wpAny_pure (XPost.mk0 (y := .bool b) G (v := .bool b) rfl _))
theorem x_int {i : Int} {k : Nat} {pos : Pos} : XOk x n c ns sl (.int i) (.Constant (.int i) k pos) := fun R Ev e G => pair_el e (wpAny_Constant_int (XPost.mk0 (y := .int i) G ⟨_, rfl⟩ _))
theorem x_str {i : Nat} {q : Str} {k : Nat} {pos : Pos} (hq : strS i = some q) : XOk x n c ns sl (.str i) (.Constant (.str q) k pos) := fun R Ev e G => pair_el e (Constant_str (XPost.mk0 (y := .str i) G ⟨q, _, hq, rfl⟩ _))

variable {a a' b' : X} {E1 E2 E3 : Expr} {pos : Pos}
theorem x_bin {op : B} {o : Operator} (ho : opOk op o = true) (H1 : XOk x n c ns sl a E1) (H2 : XOk x n c ns sl a' E2) : XOk x n c ns sl (.bin op a a') (.BinOp E1 o E2 pos) := by
  intro A env L lo cs m h y h' ρ s R Ev e G
  refine onPI_el (evalX_bin.symm.trans e) fun i h1 e1 e => onPI_el e fun j h2 e2 e => onS_el e fun z ez e => pair_el e ?_
  refine wpAny_BinOp (H1.seq R Ev e1 G fun ρ1 hp1 t1 v r1 q1 => rel_int q1 fun t => ?_)
  refine H2.seq R Ev e2 (G.next r1) fun ρ2 hp2 t2 v r2 q2 => rel_int q2 fun u => ?_
  exact bin_sound ez ho fun t => ⟨ρ2, hp2, _, rfl, r1.trans r2, t, rfl⟩

theorem x_neg (H1 : XOk x n c ns sl a E1) : XOk x n c ns sl (.neg a) (.UnaryOp .USub E1 pos) := by
  intro A env L lo cs m h y h' ρ s R Ev e G
  refine onPI_el (evalX_neg.symm.trans e) fun i h1 e1 e => pair_el e ?_
  refine wpAny_UnaryOp (H1.seq R Ev e1 G fun ρ1 hp1 t1 v r1 q1 => rel_int q1 fun t => ?_)
  exact PyProof.Rows.neg_int ⟨ρ1, hp1, _, rfl, r1, _, rfl⟩
theorem x_not (H1 : XOk x n c ns sl a E1) : XOk x n c ns sl (.not a) (.UnaryOp .Not E1 pos) := by
  intro A env L lo cs m h y h' ρ s R Ev e G
  refine onP_el (evalX_not.symm.trans e) fun i h1 e1 e => onS_el e fun b eb e => pair_el e ?_
  refine wpAny_UnaryOp (H1.seq R Ev e1 G fun ρ1 hp1 t1 v r1 q1 => ?_)
  exact not_of (truth_sound (x := x) eb q1 ⟨ρ1, hp1, _, rfl, r1, rfl⟩)
theorem noSet {E : Expr} (op : CmpOp) (h : isSetE E = false) : behindInMarks op E = false := by
  cases E <;> first | rfl | exact ff h.symm
theorem x_cmp (hx : CxOk x) {op : Cm} {o : CmpOp} (ho : cmOk op o = true) (hs : isSetE E2 = false) (H1 : XOk x n c ns sl a E1) (H2 : XOk x n c ns sl a' E2) : XOk x n c ns sl (.cmp op a a') (.Compare E1 [o] [E2] pos) := by
  intro A env L lo cs m h y h' ρ s R Ev e G
  refine onP_el (evalX_cmp.symm.trans e) fun i h1 e1 e => onP_el e fun j h2 e2 e => onS_el e fun z ez e => pair_el e ?_
  refine wpAny_Compare1 (H1.seq R Ev e1 G fun ρ1 hp1 t1 v r1 q1 => ?_) (noSet o hs)
  refine H2.seq R Ev e2 (G.next r1) fun ρ2 hp2 t2 v r2 q2 => ?_
  exact cmp_sound hx R ((G.next r1).next r2) ez ho (q1.res r2 (G.next r1)) q2 fun t => ⟨ρ2, hp2, _, rfl, r1.trans r2, rfl⟩
end
end Mine
end

section
namespace Mine
open PySem PySem.W PySem.Calls PyProof.Rows

section
variable {x : Cx} {n : Nat} {c : Callee} {ns : NS} {sl : List Str} {a a' a'' : X} {E1 E2 E3 : Expr} {pos : Pos} {rest : List Expr}

@[elab_as_elim] theorem tpair_el {P : H → Prop} {y0 y : V} {h1 h' : H} {b : Bool} (e : some (y0, h1) = some (y, h')) (eb : truth y = some b) (k : truth y0 = some b → P h1) : P h' := by
  cases e; exact k eb
theorem vB_bool {y : V} {b : Bool} (q : y = .bool b) : truth y = some b := by rw [q]; rfl
theorem x_and (H1 : XOk x n c ns sl a E1) (H2 : XOk x n c ns sl a' (.BoolOp .And (E2 :: rest) pos)) : XOk x n c ns sl (.and a a') (.BoolOp .And (E1 :: E2 :: rest) pos) := by
  intro A env L lo cs m h y h' ρ s R Ev e G
  refine onP_el (evalX_and.symm.trans e) fun v0 h1 e1 e => BoolOp_and (H1.seq R Ev e1 G fun ρ1 hp1 t1 v r1 q1 => ?_)
  refine vB_el e (fun q e => ?_) fun q e => ?_ <;> subst q <;> refine rel_bool q1 (wpAny_truthy_bool ?_)
  · exact H2.last R Ev G r1 e
  · exact pair_el e ⟨ρ1, hp1, t1, rfl, r1, rfl⟩
theorem x_or (H1 : XOk x n c ns sl a E1) (H2 : XOk x n c ns sl a' (.BoolOp .Or (E2 :: rest) pos)) : XOk x n c ns sl (.or a a') (.BoolOp .Or (E1 :: E2 :: rest) pos) := by
  intro A env L lo cs m h y h' ρ s R Ev e G
  refine onP_el (evalX_or.symm.trans e) fun v0 h1 e1 e => BoolOp_or (H1.seq R Ev e1 G fun ρ1 hp1 t1 v r1 q1 => ?_)
  refine vB_el e (fun q e => ?_) fun q e => ?_ <;> subst q <;> refine rel_bool q1 (wpAny_truthy_bool ?_)
  · exact pair_el e ⟨ρ1, hp1, t1, rfl, r1, rfl⟩
  · exact H2.last R Ev G r1 e
theorem x_one {op : BoolOp} (H1 : XOk x n c ns sl a E1) : XOk x n c ns sl a (.BoolOp op [E1] pos) := fun R Ev e G => BoolOp_one (H1 R Ev e G)

theorem t_plain (H1 : XOk x n c ns sl a E1) (hp : ∀ env whole, isTrue E1 env whole = (do let v ← whole; standAt E1.pos; holding [v] (truthy v))) : TOk x n c ns sl a E1 := by
  intro A env L lo cs m h y b h' ρ s R Ev e eb G
  rw [hp]
  refine wpAny_bind (H1.seq R Ev e G fun ρ1 hp1 t1 v r1 q => ?_)
  exact wpAny_bind (wpAny_standAt (wpAny_holding (truth_sound (x := x) eb q ⟨rfl, ρ1, hp1, _, rfl, r1⟩)))

theorem t_not (H1 : TOk x n c ns sl a E1) : TOk x n c ns sl (.not a) (.UnaryOp .Not E1 pos) := by
  intro A env L lo cs m h y b h' ρ s R Ev e eb G
  refine onP_el (evalX_not.symm.trans e) fun v1 h1 e1 e => onS_el e fun b1 eb1 e => isTrue_not (H1.seq R Ev e1 eb1 G fun ρ1 hp1 t1 r1 => ?_)
  refine tpair_el e eb fun eb => ?_
  exact ⟨Option.some.inj eb, ρ1, hp1, t1, rfl, r1⟩
theorem t_and (H1 : TOk x n c ns sl a E1) (H2 : TOk x n c ns sl a' (.BoolOp .And (E2 :: rest) pos)) : TOk x n c ns sl (.and a a') (.BoolOp .And (E1 :: E2 :: rest) pos) := by
  intro A env L lo cs m h y b h' ρ s R Ev e eb G
  refine onP_el (evalX_and.symm.trans e) fun v0 h1 e1 e => vB_el e (fun q e => ?_) fun q e => ?_
  · exact isTrue_and (H1.seq R Ev e1 (vB_bool q) G fun ρ1 hp1 t1 r1 => H2.last R Ev G r1 e eb)
  · refine isTrue_and (H1.seq R Ev e1 (vB_bool q) G fun ρ1 hp1 t1 r1 => ?_)
    refine tpair_el e eb fun eb => ?_
    exact ⟨Option.some.inj eb, ρ1, hp1, t1, rfl, r1⟩
theorem t_or (H1 : TOk x n c ns sl a E1) (H2 : TOk x n c ns sl a' (.BoolOp .Or (E2 :: rest) pos)) : TOk x n c ns sl (.or a a') (.BoolOp .Or (E1 :: E2 :: rest) pos) := by
  intro A env L lo cs m h y b h' ρ s R Ev e eb G
  refine onP_el (evalX_or.symm.trans e) fun v0 h1 e1 e => vB_el e (fun q e => ?_) fun q e => ?_
  · refine isTrue_or (H1.seq R Ev e1 (vB_bool q) G fun ρ1 hp1 t1 r1 => ?_)
    refine tpair_el e eb fun eb => ?_
    exact ⟨Option.some.inj eb, ρ1, hp1, t1, rfl, r1⟩
  · exact isTrue_or (H1.seq R Ev e1 (vB_bool q) G fun ρ1 hp1 t1 r1 => H2.last R Ev G r1 e eb)
theorem t_and1 (H1 : TOk x n c ns sl a E1) : TOk x n c ns sl a (.BoolOp .And [E1] pos) := by
  intro A env L lo cs m h y b h' ρ s R Ev e eb G
  refine isTrue_and (wpAny_mono (H1 R Ev e eb G) (fun v s1 P => ?_) fun _ _ e => e)
  cases v with
  | true => exact isTrue_and_nil P
  | false => exact P
theorem t_or1 (H1 : TOk x n c ns sl a E1) : TOk x n c ns sl a (.BoolOp .Or [E1] pos) := by
  intro A env L lo cs m h y b h' ρ s R Ev e eb G
  refine isTrue_or (wpAny_mono (H1 R Ev e eb G) (fun v s1 P => ?_) fun _ _ e => e)
  cases v with
  | true => exact P
  | false => exact isTrue_or_nil P

theorem t_cmp (hx : CxOk x) {op : Cm} {o : CmpOp} (ho : cmOk op o = true) (hs : isSetE E2 = false) (H1 : XOk x n c ns sl a E1) (H2 : XOk x n c ns sl a' E2) : TOk x n c ns sl (.cmp op a a') (.Compare E1 [o] [E2] pos) := by
  intro A env L lo cs m h y b h' ρ s R Ev e eb G
  refine onP_el (evalX_cmp.symm.trans e) fun i h1 e1 e => onP_el e fun j h2 e2 e => onS_el e fun z ez e => ?_
  refine tpair_el e eb fun eb => ?_
  refine wpAny_isTrue_Compare1 (H1.seq R Ev e1 G fun ρ1 hp1 t1 v r1 q1 => ?_) (noSet o hs)
  refine H2.seq R Ev e2 (G.next r1) fun ρ2 hp2 t2 v r2 q2 => ?_
  exact cmp_sound hx R ((G.next r1).next r2) ez ho (q1.res r2 (G.next r1)) q2 fun t => wpAny_truthy_bool ⟨Option.some.inj eb, ρ2, hp2, _, rfl, r1.trans r2⟩

theorem x_cmp2 (hx : CxOk x) {op op' : Cm} {o o' : CmpOp} (ho : cmOk op o = true) (ho' : cmOk op' o' = true) (hs : isSetE E3 = false) (H1 : XOk x n c ns sl a E1) (H2 : XOk x n c ns sl a' E2) (H3 : XOk x n c ns sl a'' E3) :
    XOk x n c ns sl (.cmp2 op op' a a' a'') (.Compare E1 [o, o'] [E2, E3] pos) := by
  intro A env L lo cs m h y h' ρ s R Ev e G
  refine onP_el (evalX_cmp2.symm.trans e) fun i h1 e1 e => onP_el e fun j h2 e2 e => Compare_chain (H1.seq R Ev e1 G fun ρ1 hp1 t1 v r1 q1 => ?_) (noSet o' hs)
  refine chain_link (H2.seq R Ev e2 (G.next r1) fun ρ2 hp2 t2 v r2 q2 => onT_el e (fun ez e => ?_) fun ez e => ?_)
  · refine cmp_sound hx R ((G.next r1).next r2) ez ho (q1.res r2 (G.next r1)) q2 fun t => wpAny_truthy_bool ?_
    refine onP_el e fun k h3 e3 e => onS_el e fun z ez' e => pair_el e (chain_last (H3.seq (s := { s with heap := hp2, toks := t }) R Ev e3 ((G.next r1).next r2) fun ρ3 hp3 t3 v r3 q3 => ?_))
    exact cmp_sound hx R (((G.next r1).next r2).next r3) ez' ho' (q2.res r3 ((G.next r1).next r2)) q3 fun t => ⟨ρ3, hp3, _, rfl, (r1.trans r2).trans r3, rfl⟩
  · exact pair_el e (cmp_sound hx R ((G.next r1).next r2) ez ho (q1.res r2 (G.next r1)) q2 fun t => wpAny_truthy_bool ⟨ρ2, hp2, _, rfl, r1.trans r2, rfl⟩)
theorem t_cmp2 (hx : CxOk x) {op op' : Cm} {o o' : CmpOp} (ho : cmOk op o = true) (ho' : cmOk op' o' = true) (hs : isSetE E3 = false) (H1 : XOk x n c ns sl a E1) (H2 : XOk x n c ns sl a' E2) (H3 : XOk x n c ns sl a'' E3) :
    TOk x n c ns sl (.cmp2 op op' a a' a'') (.Compare E1 [o, o'] [E2, E3] pos) := by
  intro A env L lo cs m h y b h' ρ s R Ev e eb G
  refine onP_el (evalX_cmp2.symm.trans e) fun i h1 e1 e => onP_el e fun j h2 e2 e => isTrue_chain (H1.seq R Ev e1 G fun ρ1 hp1 t1 v r1 q1 => ?_) (noSet o' hs)
  refine test_link (H2.seq R Ev e2 (G.next r1) fun ρ2 hp2 t2 v r2 q2 => onT_el e (fun ez e => ?_) fun ez e => ?_)
  · refine cmp_sound hx R ((G.next r1).next r2) ez ho (q1.res r2 (G.next r1)) q2 fun t => wpAny_truthy_bool ?_
    refine onP_el e fun k h3 e3 e => onS_el e fun z ez' e => test_last (H3.seq (s := { s with heap := hp2, toks := t }) R Ev e3 ((G.next r1).next r2) fun ρ3 hp3 t3 v r3 q3 => ?_)
    refine tpair_el e eb fun eb => ?_
    exact cmp_sound hx R (((G.next r1).next r2).next r3) ez' ho' (q2.res r3 ((G.next r1).next r2)) q3 fun t => wpAny_truthy_bool ⟨Option.some.inj eb, ρ3, hp3, _, rfl, (r1.trans r2).trans r3⟩
  · refine tpair_el e eb fun eb => ?_
    exact cmp_sound hx R ((G.next r1).next r2) ez ho (q1.res r2 (G.next r1)) q2 fun t => wpAny_truthy_bool ⟨Option.some.inj eb, ρ2, hp2, _, rfl, r1.trans r2⟩

theorem x_ite (H1 : TOk x n c ns sl a E1) (H2 : XOk x n c ns sl a' E2) (H3 : XOk x n c ns sl a'' E3) : XOk x n c ns sl (.ite a a' a'') (.IfExp E1 E2 E3 pos) := by
  intro A env L lo cs m h y h' ρ s R Ev e G
  refine onP_el (evalX_ite.symm.trans e) fun v1 h1 e1 e => onT_el e (fun eb e => ?_) fun eb e => ?_
  · exact IfExp_ (H1.seq R Ev e1 eb G fun ρ1 hp1 t1 r1 => H2.last R Ev G r1 e)
  · exact IfExp_ (H1.seq R Ev e1 eb G fun ρ1 hp1 t1 r1 => H3.last R Ev G r1 e)
theorem t_ite (H1 : TOk x n c ns sl a E1) (H2 : TOk x n c ns sl a' E2) (H3 : TOk x n c ns sl a'' E3) : TOk x n c ns sl (.ite a a' a'') (.IfExp E1 E2 E3 pos) := by
  intro A env L lo cs m h y b h' ρ s R Ev e eb' G
  refine onP_el (evalX_ite.symm.trans e) fun v1 h1 e1 e => onT_el e (fun eb e => ?_) fun eb e => ?_
  · exact isTrue_IfExp (H1.seq R Ev e1 eb G fun ρ1 hp1 t1 r1 => H2.last R Ev G r1 e eb')
  · exact isTrue_IfExp (H1.seq R Ev e1 eb G fun ρ1 hp1 t1 r1 => H3.last R Ev G r1 e eb')

theorem x_sub (hx : CxOk x) (hs : isSliceE E2 = false) (H1 : XOk x n c ns sl a E1) (H2 : XOk x n c ns sl a' E2) : XOk x n c ns sl (.sub a a') (.Subscript E1 E2 pos) := by
  intro A env L lo cs m h y h' ρ s R Ev e G
  refine onP_el (evalX_sub.symm.trans e) fun i h1 e1 e => onP_el e fun j h2 e2 e => onS_el e fun z ez e => pair_el e (Subscript_ (H1.seq R Ev e1 G fun ρ1 hp1 t1 v r1 q1 => ?_))
  refine H2.seq R Ev e2 (G.next r1) fun ρ2 hp2 t2 v r2 q2 => ?_
  exact subscr_sound hx ((G.next r1).next r2) ez (q1.res r2 (G.next r1)) q2 hs fun v t rv => ⟨ρ2, hp2, _, rfl, r1.trans r2, rv⟩

theorem x_freeze (H1 : XOk x n c ns sl a E1) : XOk x n c ns sl (.freeze a) E1 := by
  intro A env L lo cs m h y h' ρ s R Ev e G
  refine onPL_el (evalX_freeze.symm.trans e) fun k h1 e1 e => oLN_el e fun l el e => pair_el e (H1.seq R Ev e1 G fun ρ1 hp1 t1 v r1 q1 => ?_)
  have G1 := G.next r1
  refine rel_loc q1 fun p hp => ?_
  have T0 := G1.sim.kill G1.fr.none hp el rfl
  refine (G1.sim.obj k p _ hp el).elim fun vs o => o.elim fun ep o => ?_
  exact ⟨ρ1, hp1, t1, rfl, r1.trans ⟨T0.2.1, fun _ e => e, T0.1⟩, p.1, vs, ep, rfl, o.1, T0.2.2, o.2.1, o.2.2.step T0.2.1 G1.fr.none⟩

theorem x_dict0 : XOk x n c ns sl .dict0 (.Dict [] [] pos) := fun {A env L lo cs m h y h' ρ s} R Ev e G =>
  pair_el e (wpAny_Dict_empty (new_obj (o := .dict []) (ob := { cls := .type "dict", data := .dict #[] }) G (fun T => ⟨[], Heap.DictOf.new _, Nat.zero_le _, rfl⟩) s.toks))
end
end Mine
end

section
namespace Mine
open PySem PySem.W PySem.Calls PyProof.Rows

noncomputable def vRef {β : Type} (v : Value) (f : Addr → Option β) : Option β := match v with
  | .ref a => f a
  | _ => none
theorem vRef_el {β : Type} {r : β} {P : Prop} {v : Value} {f : Addr → Option β} (e : vRef v f = some r) (k : ∀ a, v = .ref a → f a = some r → P) : P := by
  cases v with
  | ref a => exact k a rfl e
  | _ => exact nn e
/-- the address that is found -/
noncomputable def ref2 (o : Option (Option Value)) : Option Addr := onS o fun o => onS o fun v => vRef v some
theorem ref2_of {o : Option (Option Value)} {f : Addr} (e : ref2 o = some f) : o = some (some (.ref f)) :=
  onS_el e fun p q e => onS_el e fun v q2 e => vRef_el e fun a q3 e => by rw [q, q2, q3]; exact congrArg (fun a => some (some (Value.ref a))) (Option.some.inj e)
noncomputable def isFnK (o : Option Kd) : Bool := match o with
  | some k => (match k with | .fn => true | _ => false)
  | none => false
/-- the address of the function k -/
noncomputable def fnAddr (K : Frag) (k : Nat) : Option Addr := match methOf k with
  | some p => onS (clsAddr K p.1) fun C => ref2 (findIn K (.ref C) (Str.ofString p.2))
  | none => if isFnK (kind k) = true then onS (gval K k) fun v => vRef v some else none

structure ClsOk (K : Frag) (c : Nat) (C : Addr) : Prop where
  get : plainGet K C Str.empty = true
  dict : hasDictIn K C = true
  set : findIn K (.ref C) "__setattr__" = some (some (.builtin "object.__setattr__"))
  over : plainOver K C = true
  no : ∀ n q, attrS n = some q → clsMeth c n = none → findIn K (.ref C) q = some none
  me : ∀ n q k, attrS n = some q → clsMeth c n = some k → ∃ f, findIn K (.ref C) q = some (some (.ref f)) ∧ fnAddr K k = some f ∧ isFn K (.ref f) = true
  make : makesIn K C = true
structure CxOk2 (x : Cx) : Prop extends CxOk x where
  hand : ∀ k v, gval x.K k = some v → handedIn v = true
  cls : ∀ c C, clsAddr x.K c = some C → ClsOk x.K c C

theorem attrS_inj {i j : Nat} {q : Str} (a : attrS i = some q) (b : attrS j = some q) : i = j := by
  have nd : (attrL.map Str.ofString).Nodup := by decide +kernel
  have a' : (attrL.map Str.ofString)[i]? = some q := by rw [List.getElem?_map]; exact a
  have b' : (attrL.map Str.ofString)[j]? = some q := by rw [List.getElem?_map]; exact b
  obtain ⟨hi, e1⟩ := List.getElem?_eq_some_iff.mp a'
  obtain ⟨hj, e2⟩ := List.getElem?_eq_some_iff.mp b'
  exact (List.getElem_inj nd).mp (e1.trans e2.symm)

theorem ns_lookIn {hp : Heap} {d : Addr} {fm : Str → Option Value} (n : hp.Ns d fm) : ∃ od, hp.get? d = some od ∧ ∀ q, lookIn q od = some (fm q) := by
  obtain ⟨o, es, ep, ho, hd, hk, hf⟩ := n
  refine ⟨o, ho, fun q => ?_⟩
  have := hf q
  unfold nsFind findBy at this
  rw [← Array.find?_toList] at this
  unfold lookIn
  rw [hd, ← this]
  dsimp only
  cases he : es.toList.find? (fun d => d.key.isStr q) with
  | some e => rfl
  | none =>
    have no : es.toList.any (·.refKey) = false := by
      rw [List.any_eq_false]
      intro e me
      obtain ⟨s, t, hs⟩ := hk e (Array.mem_toList_iff.mp me)
      unfold DictEntry.refKey
      rw [hs]
      exact fun h => nomatch h
    rw [no]; rfl

section
variable {x : Cx} {env : Env} {sl : List Str} {m : Loc} {L lo : Addr} {cs : List Addr} {ρ : Rho} {h : H} {A : Around} {s : Shared} {n : Nat} {c : Callee} {ns : NS} {a : X} {E1 : Expr} {pos : Pos}
@[elab_as_elim] theorem inst_el (G : Good x env sl m L cs lo ρ h s.heap) {k C : Nat} {fs : List (Nat × V)} {v : Value} {P : Value → Prop} (e : h[k]? = some (.inst C fs)) (r : Rel x okF ρ h s.heap (.loc k) v)
    (c : ∀ p Ca fm od, ρ.o[k]? = some p → clsAddr x.K C = some Ca → s.heap.Ns p.2 fm → FsRel x okF ρ h s.heap fs fm → InstAt s.heap p.1 (instObj Ca p.2) Ca (some od) → (∀ q, lookIn q od = some (fm q)) → P (.ref p.1)) : P v :=
  loc_el G r e fun p hp o => o.elim fun Ca o => o.elim fun fm o => (ns_lookIn o.2.2.1).elim fun od n => c p Ca fm od hp o.1 o.2.2.1 o.2.2.2.1 ⟨o.2.1, rfl, rfl, n.1⟩ n.2

theorem rel_hand (hx : CxOk2 x) {y : V} {v : Value} {hp : Heap} (r : Rel x okF ρ h hp y v) : handedIn v = true := by
  cases y with
  | non => cases r; rfl
  | bool b => cases r; rfl
  | fn k => exact hx.hand k v r
  | int i => exact r.elim fun t q => q ▸ rfl
  | str i => exact r.elim fun q r => r.elim fun t r => r.2 ▸ rfl
  | rng n => exact r.elim fun q r => r.elim fun t r => r.elim fun t r => r.elim fun t r => r.1 ▸ rfl
  | tup l => exact r.elim fun q r => r.elim fun t r => r.1 ▸ rfl
  | lst l => exact r.elim fun q r => r.elim fun t r => r.elim fun t r => r.1 ▸ rfl
  | loc n => exact r.elim fun q r => r.2 ▸ rfl
  | clo k l => exact r.elim fun q r => r.elim fun t r => r.1 ▸ rfl

/-- an attribute of an object's own -/
theorem getAttr_sound {Q : Value → Shared → Prop} {E : Value → Shared → Prop} {expr : Bool} (hx : CxOk2 x) (G : Good x env sl m L cs lo ρ h s.heap) {k C nm : Nat} {fs : List (Nat × V)} {v : Value} {y : V} {q : Str} (e : h[k]? = some (.inst C fs)) (r : Rel x okF ρ h s.heap (.loc k) v)
    (hq : attrS nm = some q) (hm : clsMeth C nm = none) (ef : fs.lookup nm = some y) (hQ : ∀ v', Rel x okF ρ h s.heap y v' → Q v' { s with toks := s.toks + 1 }) : wpAny (model x.prog x.w) A (getAttr v q expr) Q E s := by
  refine inst_el G e r fun p Ca fm od hp e1 e3 e4 I hl => ((e4 nm q hq).1 y ef).elim fun v' hv => ?_
  have O := hx.cls C Ca e1
  exact get_value (hx.X.keeps (static_keep G)) I (plainGet_of O.get).1 (findObj_own O.dict (O.no nm q hq hm) rfl ((hl q).trans (congrArg some hv.1))) (rel_hand hx hv.2) (hQ v' hv.2)

theorem attr_plain {value : Expr} {q : Str} {env : Env} (hc : isCallE value = false) (whole : Sem Value) : attributeBase value q env whole = whole := by
  cases value <;> first | rfl | exact ff hc.symm

theorem x_attr (hx : CxOk2 x) {nm : Nat} {q : Str} (hq : attrS nm = some q) (hc : isCallE E1 = false) (H1 : XOk x n c ns sl a E1) : XOk x n c ns sl (.attr a nm) (.Attribute E1 q pos) := by
  intro A env L lo cs m h y h' ρ s R Ev e G
  refine onPL_el (evalX_attr.symm.trans e) fun k h1 e1 e => oI_el e fun C fs el e => if_el e fun hm e => onS_el e fun v ef e => pair_el e ?_
  show wpAny _ A (do
    let o ← attributeBase E1 q env (eval E1 env)
    standAt pos.atName
    let r ← holding [o] (getAttr o q true)
    letTemporaryGo E1 o r
    pure r) _ _ s
  rw [attr_plain hc]
  refine wpAny_bind (H1.seq R Ev e1 G fun ρ1 hp1 t1 v r1 q1 => ?_)
  refine wpAny_bind (wpAny_standAt (wpAny_bind (wpAny_holding (getAttr_sound hx (G.next r1) el q1 hq (Option.isNone_iff_eq_none.mp hm) ef fun v' rv => ?_))))
  exact wpAny_bind (wpAny_letTemporaryGo (wpAny_pure ⟨ρ1, hp1, _, rfl, r1, rv⟩))
end
end Mine
end

section
namespace Mine
open PySem PySem.W PySem.Calls PyProof.Rows

def XsOk (x : Cx) (n : Nat) (c : Callee) (ns : NS) (sl : List Str) (l : List X) (es : List Expr) : Prop :=
  ∀ {A : Around} {env : Env} {L lo : Addr} {cs : List Addr} {m : Loc} {h : H} {ys : List V} {h' : H} {ρ : Rho} {s : Shared} (pos : Pos), Room n A → EnvOk x env ns L → evs c l m h = some (ys, h') →
    Good x env sl m L cs lo ρ h s.heap → wpAny (model x.prog x.w) A (spliced (backTo pos (starEach es env))) (XsPost x L lo ρ h s ys h') noE s

theorem starEach_cons {e : Expr} (h : isStarE e = false) (r : List Expr) (env : Env) : starEach (e :: r) env = (false, eval e env) :: starEach r env := by
  cases e <;> first | rfl | exact ff h.symm
theorem noStar (env : Env) (pos : Pos) (es : List Expr) (h : ∀ e ∈ es, isStarE e = false) : (backTo pos (starEach es env)).any (·.1) = false ∧ (backTo pos (starEach es env)).length = es.length := by
  induction es with
  | nil => exact ⟨rfl, rfl⟩
  | cons e r ih =>
    rw [starEach_cons (h e (.head _))]
    exact (ih fun e he => h e (.tail _ he)).imp id (congrArg Nat.succ)

section
variable {x : Cx} {n : Nat} {c : Callee} {ns : NS} {sl : List Str} {a a' : X} {E1 E2 : Expr} {pos : Pos} {l : List X} {es : List Expr} {A : Around} {env : Env} {L lo : Addr} {cs : List Addr} {m : Loc} {h h1 h' : H} {ys : List V} {ρ ρ1 : Rho} {hp1 : Heap} {t1 : Nat} {s : Shared} {E : Value → Shared → Prop}
theorem XsOk.seq {P : List Value → Shared → Prop} (H : XsOk x n c ns sl l es) (R : Room n A) (Ev : EnvOk x env ns L) (e : evs c l m h = some (ys, h')) (G : Good x env sl m L cs lo ρ h s.heap)
    (k : ∀ ρ1 hp1 t1 vs, Res x L lo ρ h s.heap ρ1 h' hp1 → RelL x okF ρ1 h' hp1 ys vs → P vs { s with heap := hp1, toks := t1 }) : wpAny (model x.prog x.w) A (spliced (backTo pos (starEach es env))) P E s :=
  wpAny_mono (H pos R Ev e G) (fun _ _ p => p.el k) fun _ _ e => e.elim
theorem xs_nil : XsOk x n c ns sl [] [] := fun _ R Ev e G => pair_el e (spliced_nil ⟨_, _, _, rfl, G.res, rfl⟩)
theorem xs_cons (hs : isStarE E1 = false) (H1 : XOk x n c ns sl a E1) (H2 : XsOk x n c ns sl l es) : XsOk x n c ns sl (a :: l) (E1 :: es) := by
  intro A env L lo cs m h ys h' ρ s pos R Ev e G
  refine onP_el (evalXs_cons.symm.trans e) fun y h1 e1 e => onP_el e fun ys h2 e2 e => pair_el e ?_
  rw [starEach_cons hs]
  refine spliced_cons (H1.seq R Ev e1 G fun ρ1 hp1 t1 v r1 q1 => ?_)
  refine H2.seq R Ev e2 (G.next r1) fun ρ2 hp2 t2 vs r2 q2 => ?_
  exact ⟨ρ2, hp2, t2, rfl, r1.trans r2, v, vs, rfl, q1.res r2 (G.next r1), q2⟩

theorem few {ys : List V} {vs : List Value} {hp : Heap} (hb : ys.length ≤ 100) (q : RelL x okF ρ h hp ys vs) : ys.length ≤ lenB ∧ vs.toArray.size ≤ sizeLine := by
  rw [List.size_toArray, ← relL_length q, sizeLine_eq]
  exact ⟨Nat.le_trans hb (by decide), Nat.le_trans hb (by decide)⟩
theorem x_tup {k : Nat} (H1 : XsOk x n c ns sl l es) : XOk x n c ns sl (.tup l) (.Tuple es k pos) := by
  intro A env L lo cs m h y h' ρ s R Ev e G
  refine onP_el (evalX_tup.symm.trans e) fun ys h1 e1 e => if_el e fun hb e => pair_el e (Tuple_ (H1.seq R Ev e1 G fun ρ1 hp1 t1 vs r1 q1 => ?_))
  exact wpAny_newObj_type (XPost.after r1 (new_tuple (s := { s with heap := hp1, toks := t1 }) (G.next r1) (few hb q1).1 q1 t1)) (few hb q1).2
theorem x_list (H1 : XsOk x n c ns sl l es) : XOk x n c ns sl (.list l) (.List es pos) := by
  intro A env L lo cs m h y h' ρ s R Ev e G
  refine onP_el (evalX_list.symm.trans e) fun ys h1 e1 e => if_el e fun hb e => pair_el e (List_ (H1.seq R Ev e1 G fun ρ1 hp1 t1 vs r1 q1 => ?_))
  exact wpAny_newObj_type (XPost.after r1 (new_list (s := { s with heap := hp1, toks := t1 }) (G.next r1) rfl (few hb q1).1 q1 t1)) (few hb q1).2

/-- a list's first part, made anew -/
theorem cut_sound (G : Good x env sl m L cs lo ρ h s.heap) {value slice : Expr} {ov : V} {v : Value} {l : List V} {k : Int} {t : Tok} (hk : 0 ≤ k) (el : listOf ov h = some l) (r : Rel x okF ρ h s.heap ov v)
    (hs : ∀ o i, subscripted slice false (.ref o) (.ref i) = operate [.ref i, .ref o] (getItem (.ref o) (.ref i))) : wpAny (model x.prog x.w) A (subscriptTail value slice v (.ref s.heap.objs.size)) (XPost x L lo ρ h s (.loc h.length) (h ++ [.list (l.take k.toNat)])) noE { s with heap := s.heap.push { cls := .type "slice", data := .fields #[.none, .int k t, .none] } } := by
  have Gp := G.push { cls := .type "slice", data := .fields #[.none, .int k t, .none] }
  refine list_at G el r fun ad vs ep il hb rl => ?_
  have len := relL_length rl
  have ilp := il.push { cls := .type "slice", data := .fields #[.none, .int k t, .none] }
  have hb' : (l.take k.toNat).length ≤ lenB := Nat.le_trans (List.length_take_le' ..) hb
  refine tail_any ilp.isList.typeIs slot_list_getitem.lookup (wpAny_getItem_list_slice (hi := some k) ilp.isList (Heap.IsSliceOf.new ..) .none (.int _ _) .none (fun a => nomatch a) ?_ ?_) (hs _ _)
  · have pk := slicePick_upto' vs.toArray k.toNat
    rw [Int.toNat_of_nonneg hk] at pk
    rw [pk]
    exact XPost.after Gp (new_list (G.next Gp) (k := 0) rfl hb' (relL_take _ (rl.res Gp G)) _)
  · rw [List.size_toArray, ← len]
    exact Nat.le_trans hb (Nat.le_trans (Nat.le_succ _) sizeLine_big)
theorem x_cut {p : Pos} (H1 : XOk x n c ns sl a E1) (H2 : XOk x n c ns sl a' E2) : XOk x n c ns sl (.cut a a') (.Subscript E1 (.Slice none (some E2) none p) pos) := by
  intro A env L lo cs m h y h' ρ s R Ev e G
  refine onP_el (evalX_cut.symm.trans e) fun ov h1 e1 e => onPI_el e fun k h2 e2 e => onS_el e fun l el e => if_el e fun hk e => pair_el e (Subscript_ (H1.seq R Ev e1 G fun ρ1 hp1 t1 v r1 q1 => ?_))
  refine wpAny_Slice ?_
  rw [evalPart_none]
  refine wpAny_pure (H2.seq R Ev e2 (G.next r1) fun ρ2 hp2 t2 v2 r2 q2 => rel_int q2 fun t => wpAny_pure ?_)
  have G2 := (G.next r1).next r2
  exact wpAny_mono (cut_sound (s := { s with heap := hp2, toks := t2 }) G2 hk.1 el (q1.res r2 (G.next r1)) fun _ _ => rfl) (fun _ _ p => p.after (r1.trans r2)) fun _ _ e => e
end
end Mine
end

section
namespace Mine
open PySem PySem.W PySem.Calls PyProof.Rows

/-! ### the heap never shrinks -/
theorem runs_size {M : Model} {Γ : Ctx} {p : Pos} {t : Sem Fin} {fs : List Frame} {s s' : Shared} {e : End} (h : Runs M Γ p t fs s e s') : s.heap.objs.size ≤ s'.heap.objs.size := by
  induction h <;> (try simp only [Shared.setGen, Heap.size_update, Heap.size_push] at *) <;> lia
theorem returns_size {M : Model} {Γ : Ctx} {p : Pos} {s s' : Shared} {r : Result} (h : Returns M Γ p s r s') : s.heap.objs.size ≤ s'.heap.objs.size := runs_size h
theorem wakes_size {M : Model} {Γ : Ctx} {p : Pos} {g : Nat} {r : Resume} {s s' : Shared} {res : GenResult} (h : Wakes M Γ p g r s res s') : s.heap.objs.size ≤ s'.heap.objs.size := by
  unfold Wakes at h
  split at h
  · exact h.elim
  · split at h
    · obtain ⟨e₁, s₁, hr, _, _, rfl⟩ := h; exact (runs_size hr : (s.setGen g .running).heap.objs.size ≤ s₁.heap.objs.size)
    · rw [h.2]; exact Nat.le_refl _
    · rw [h.2]; exact Nat.le_refl _
  · obtain ⟨e₁, s₁, hr, _, _, rfl⟩ := h; exact (runs_size hr : (s.setGen g .running).heap.objs.size ≤ s₁.heap.objs.size)
  · rw [h.2]; exact Nat.le_refl _
  · rw [h.2]; exact Nat.le_refl _
theorem wp_size {α : Type} (M : Model) (Γ : Ctx) (n : Nat) (t : Sem α) : ∀ (Q : α → Pos → Shared → Prop) (E : Value → Pos → Shared → Prop) (p : Pos) (s : Shared), n ≤ s.heap.objs.size → Sem.wp M Γ t Q E p s →
    Sem.wp M Γ t (fun a p' s' => n ≤ s'.heap.objs.size ∧ Q a p' s') E p s := by
  induction t with
  | pure a => intro Q E p s hn h; exact ⟨hn, h⟩
  | raise e => intro Q E p s hn h; exact h
  | unsupported _ => intro Q E p s _ h; exact h
  | finish _ => intro Q E p s _ h; exact h
  | rule _ k ih => intro Q E p s hn h; exact ih () Q E p s hn h
  | «at» p' k ih => intro Q E p s hn h; exact ih () Q E p' s hn h
  | load a _ k ih => intro Q E p s hn h; obtain ⟨o, ho, h⟩ := h; exact ⟨o, ho, ih o Q E p s hn h⟩
  | update a _ f k ih => intro Q E p s hn h; exact ⟨h.1, ih () Q E p _ (by rw [Heap.size_update]; exact hn) h.2⟩
  | loadIfAlive a k ih => intro Q E p s hn h; exact ih _ Q E p s hn h
  | point _ k ih => intro Q E p s hn h; exact ih () Q E p s hn h
  | register _ _ => intro Q E p s _ h; exact h
  | alloc o k ih => intro Q E p s hn h; exact ih _ Q E p _ (by rw [Heap.size_push]; exact Nat.le_succ_of_le hn) h
  | fresh k ih => intro Q E p s hn h; exact ih _ Q E p _ hn h
  | ask k ih => intro Q E p s hn h; exact ih _ Q E p s hn h
  | choose src m k ih => intro Q E p s hn h; exact ⟨h.1, ih _ Q E p _ hn h.2⟩
  | os q _ k ih => intro Q E p s hn h; exact ih _ Q E p _ hn h
  | call c hd _ _ k ih => intro Q E p s hn h; obtain ⟨r, s', hr, h⟩ := h; exact ⟨r, s', hr, ih r Q E p s' (Nat.le_trans hn (returns_size hr)) h⟩
  | handled own k ih => intro Q E p s hn h; exact ih _ Q E p s hn h
  | genState g k ih => intro Q E p s hn h; obtain ⟨st, hs, h⟩ := h; exact ⟨st, hs, ih _ Q E p s hn h⟩
  | newGen c k ih => intro Q E p s hn h; exact ih _ Q E p _ hn h
  | resume g r _ k ih => intro Q E p s hn h; obtain ⟨res, s', hw, h⟩ := h; exact ⟨res, s', hw, ih res Q E p s' (Nat.le_trans hn (wakes_size hw)) h⟩
  | yield _ _ _ _ => intro Q E p s _ h; exact h
  | stack k ih => intro Q E p s hn h; exact ih _ Q E p s hn h
  | fork _ _ => intro Q E p s _ h; exact h
  | thread k ih => intro Q E p s hn h; exact ih _ Q E p s hn h
  | await _ _ _ _ _ => intro Q E p s _ h; exact h
theorem with_size {α : Type} {M : Model} {A : Around} {s : Shared} {t : Sem α} {Q : α → Shared → Prop} {E : Value → Shared → Prop} (h : wpAny M A t (fun a s' => s.heap.objs.size ≤ s'.heap.objs.size → Q a s') E s) : wpAny M A t Q E s :=
  fun Γ p hΓ => Sem.wp_mono M Γ t (fun _ _ _ x => x.2 x.1) (fun _ _ _ x => x) _ _ (wp_size M Γ _ t _ _ p s (Nat.le_refl _) (h Γ p hΓ))

/-! ### the full ledger -/
noncomputable def noHeap : Heap := {}
noncomputable def ledger (hp : Heap) (L : Addr) : List (Addr × Obj) := (List.range hp.objs.size).filterMap fun a => if a = L then none else (hp.get? a).map fun o => (a, o)
theorem mem_ledger {hp : Heap} {L a : Addr} {o : Obj} : (a, o) ∈ ledger hp L ↔ hp.get? a = some o ∧ a ≠ L := by
  unfold ledger
  rw [List.mem_filterMap]
  constructor
  · rintro ⟨b, _, e⟩
    by_cases ne : b = L
    · rw [if_pos ne] at e; exact nn e
    · rw [if_neg ne] at e
      obtain ⟨o', h1, h2⟩ := Option.map_eq_some_iff.mp e
      exact (Prod.mk.inj h2).1 ▸ (Prod.mk.inj h2).2 ▸ ⟨h1, ne⟩
  · exact fun h => ⟨a, List.mem_range.mpr (Heap.lt_size h.1), by rw [if_neg h.2, h.1]; rfl⟩
theorem noHeap_get (a : Addr) : noHeap.get? a = none := rfl
theorem ledger_news {hp : Heap} {L : Addr} : News noHeap L hp (ledger hp L) := fun p hp => by
  obtain ⟨a, o⟩ := p
  have := mem_ledger.mp hp
  exact ⟨this.1, this.2, rfl⟩
theorem ledger_keep {hp hp' : Heap} {L : Addr} {l : List (Addr × Obj)} (N : News noHeap L hp' l) (hl : ∀ p ∈ ledger hp L, p ∈ l) {b : Addr} {o : Obj} (ne : b ≠ L) (e : hp.get? b = some o) : hp'.get? b = some o :=
  (N _ (hl _ (mem_ledger.mpr ⟨e, ne⟩))).1

section
variable {x : Cx} {env : Env} {sl : List Str} {m : Loc} {L lo : Addr} {cs : List Addr} {ρ : Rho} {h : H} {A : Around} {s : Shared} {n : Nat} {hp' : Heap}
theorem Good.frame (G : Good x env sl m L cs lo ρ h s.heap) : ∃ fm, Fr noHeap L s.heap fm := by
  obtain ⟨fm, a, _⟩ := G.names
  exact ⟨fm, a, (fun b o e => nomatch e), Nat.zero_le _⟩

theorem objs_keep (G : Good x env sl m L cs lo ρ h s.heap) {i : Nat} {p : Addr × Addr} {o : O} (hi : ρ.o[i]? = some p) (ho : h[i]? = some o) (hl : o.live = true) : p.1 ≠ L ∧ p.2 ≠ L :=
  ⟨fun q => G.fr.no ⟨i, p, o, hi, ho, hl, .inl q.symm⟩, fun q => G.fr.no ⟨i, p, o, hi, ho, hl, .inr q.symm⟩⟩
/-- a built-in that changes nothing but makes temporaries; the frame's dict keeps its map -/
theorem Good.kept (G : Good x env sl m L cs lo ρ h s.heap) (Ev : x.H0.get? L = none) {fm : Str → Option Value} (F : Fr noHeap L hp' fm) (F0 : s.heap.Ns L fm) (k : ∀ b o, b ≠ L → s.heap.get? b = some o → hp'.get? b = some o) (z : s.heap.objs.size ≤ hp'.objs.size) : Res x L lo ρ h s.heap ρ h hp' := by
  have T : Step L [] lo ρ h s.heap ρ h hp' := ⟨List.prefix_rfl, fun _ e => e, fun _ e => .inl e, z, fun b o ne _ e _ => k b o ne e, fun _ _ e => e⟩
  refine ⟨T, fun m' e => ?_, ⟨G.sim.len, fun i p o hi ho => ?_, G.sim.disj, fun i p e => ⟨Nat.lt_of_lt_of_le (G.sim.lt i p e).1 z, Nat.lt_of_lt_of_le (G.sim.lt i p e).2 z⟩, fun c e => Nat.lt_of_lt_of_le (G.sim.clt c e) z, fun b o e => ?_⟩⟩
  · have : m' = fm := by
      obtain ⟨o1, es1, ep1, h1, d1, _, f1⟩ := e
      obtain ⟨o2, es2, ep2, h2, d2, _, f2⟩ := F0
      rw [h1] at h2; cases h2; rw [d1] at d2; cases d2
      funext q; rw [← f1, ← f2]
    exact this ▸ F.ns
  · by_cases hl : o.live = true
    · obtain ⟨⟨o1, e1⟩, e2⟩ := G.sim.at1 hi ho hl
      have ne := objs_keep G hi ho hl
      exact (G.sim.obj i p o hi ho).move1 T G.fr.none ((k _ _ ne.1 e1).trans e1.symm) (e2.elim (fun ⟨o2, e⟩ => .inr ((k _ _ ne.2 e).trans e.symm)) .inl)
    · cases o <;> first | exact absurd rfl hl | trivial
  · have := G.sim.static b o e
    exact ⟨k _ _ (fun q => by rw [q, Ev] at e; cases e) this.1, this.2⟩
end
end Mine
end

section
namespace Mine
open PySem PySem.W PySem.Calls PyProof.Rows

/-! ### sorting and least -/
theorem insertInt_cons {P : List Int → Prop} (x y : Int) (r : List Int) (k1 : x ≤ y → P (x :: y :: r)) (k2 : ¬ x ≤ y → P (y :: insertInt x r)) : P (insertInt x (y :: r)) := by
  rw [insertInt]
  by_cases q : x ≤ y
  · rw [if_pos q]; exact k1 q
  · rw [if_neg q]; exact k2 q
theorem insertInt_perm (x : Int) (l : List Int) : (insertInt x l).Perm (x :: l) := by
  induction l with
  | nil => exact List.Perm.refl _
  | cons y r ih => exact insertInt_cons (P := fun l => l.Perm (x :: y :: r)) x y r (fun _ => List.Perm.refl _) fun _ => (ih.cons y).trans (List.Perm.swap x y r)
theorem sortInts_perm : ∀ l, (sortInts l).Perm l
  | [] => List.Perm.refl _
  | x :: r => (insertInt_perm x _).trans ((sortInts_perm r).cons x)
theorem insertInt_sorted (x : Int) (l : List Int) (h : l.Pairwise (· ≤ ·)) : (insertInt x l).Pairwise (· ≤ ·) := by
  induction l with
  | nil => exact List.pairwise_singleton _ _
  | cons y r ih =>
    have h' := List.pairwise_cons.mp h
    refine insertInt_cons (P := fun l => l.Pairwise (· ≤ ·)) x y r (fun q => List.pairwise_cons.mpr ⟨fun a ha => ?_, h⟩) fun q => List.pairwise_cons.mpr ⟨fun a ha => ?_, ih h'.2⟩
    · exact (List.mem_cons.mp ha).elim (fun e => e ▸ q) fun ha => Int.le_trans q (h'.1 a ha)
    · exact (List.mem_cons.mp ((insertInt_perm x r).mem_iff.mp ha)).elim (fun e => e ▸ Int.le_of_not_le q) (h'.1 a)
theorem sortInts_sorted : ∀ l, (sortInts l).Pairwise (· ≤ ·)
  | [] => List.Pairwise.nil
  | x :: r => insertInt_sorted x _ (sortInts_sorted r)
theorem sorted_unique {l l' : List Int} (h : l'.Perm l) (q : l'.Pairwise (· ≤ ·)) : l' = sortInts l :=
  List.Perm.eq_of_pairwise (le := (· ≤ ·)) (fun a b _ _ h1 h2 => by omega) q (sortInts_sorted l) (h.trans (sortInts_perm l).symm)
theorem minInts_spec (r : List Int) : ∀ m : Int, (minInts m r = m ∨ minInts m r ∈ r) ∧ minInts m r ≤ m ∧ ∀ a ∈ r, minInts m r ≤ a := by
  induction r with
  | nil => exact fun m => ⟨.inl rfl, Int.le_refl _, fun _ h => nomatch h⟩
  | cons x r ih =>
    intro m
    have go : ∀ k, (k = x ∨ k = m) → k ≤ x → k ≤ m → (minInts k r = m ∨ minInts k r ∈ x :: r) ∧ minInts k r ≤ m ∧ ∀ a ∈ x :: r, minInts k r ≤ a := fun k o hx hm => by
      obtain ⟨h1, h2, h3⟩ := ih k
      refine ⟨h1.elim (fun e => ?_) fun e => .inr (.tail _ e), Int.le_trans h2 hm, fun a ha => ?_⟩
      · rw [e]; exact o.elim (fun q => .inr (q ▸ .head _)) .inl
      · exact (List.mem_cons.mp ha).elim (fun q => q ▸ Int.le_trans h2 hx) (h3 a)
    rw [minInts]
    by_cases q : x < m
    · rw [if_pos q]; exact go x (.inl rfl) (Int.le_refl _) (Int.le_of_lt q)
    · rw [if_neg q]; exact go m (.inr rfl) (Int.not_lt.mp q) (Int.le_refl _)
theorem min_unique {x M : Int} {r : List Int} (h : M ∈ x :: r) (q : ∀ a, a ∈ x :: r → M ≤ a) : M = minInts x r := by
  obtain ⟨h1, h2, h3⟩ := minInts_spec r x
  exact Int.le_antisymm (q _ (h1.elim (fun e => by rw [e]; exact .head _) (.tail _))) ((List.mem_cons.mp h).elim (fun e => e ▸ h2) (h3 M))

section
open AutoSeq1 (wpAny_loadPart')
set_option maxRecDepth 100000
variable {prog : Program} {w : World} {A : Around} {E : Value → Shared → Prop} {s : Shared}
theorem collect_sized {Q : List Value → Shared → Prop} (it : Addr) {o : Obj} {items : Array Value} {n : Nat}
    (ho : s.heap.get? it = some o) (hc : o.cls = .type "list") (hd : o.data = .seq items n)
    (hQ : ∀ h', (∀ b o', s.heap.get? b = some o' → h'.get? b = some o') → s.heap.objs.size ≤ h'.objs.size → Q items.toList { s with heap := h' }) (hsz : items.size ≤ sizeLine) :
    wpAny (model prog w) A (collect (.ref it)) Q E s :=
  with_size (wpAny_collect_seq it (.inl rfl) ho hc hd hQ hsz)
theorem meets_tuple_sized (l : Addr) (o : Obj) (items : Array Value) (n : Nat) (hc : o.cls = .type "list") (hd : o.data = .seq items n) (hsz : items.size ≤ sizeLine) :
    Meets (Builtin.«tuple.__new__» ⟨[.type "tuple", .ref l], []⟩)
      (fun _ R s => s.heap.get? l = some o ∧ ∀ h' : Heap, (∀ b o', s.heap.get? b = some o' → h'.get? b = some o') → s.heap.objs.size ≤ h'.objs.size → R (.ok (.ret (.ref h'.objs.size))) { s with heap := h'.push { cls := .type "tuple", data := .seq items } }) :=
  .of_wp fun prog w A R s h => by
    obtain ⟨hp, g, d, tk, os⟩ := s; obtain ⟨ht, h⟩ := h
    have hsub := sub_tuple_self
    have hinit := init_tuple_lookup
    have hmh := madeHere_tuple
    have hT : Shared.TypeIs ⟨hp, g, d, tk, os⟩ (.ref l) "list" := ⟨o, ht, hc⟩
    wp_walk using wpAny_loadPart' ht, wpAny_typeOf hT, collect_sized l ht hc hd (hsz := hsz)
    intro h' hk hz
    show wpAny _ _ (Builtin.Tuple.tupleExact items.toList.toArray >>= fun v => ret v) _ _ _
    unfold Builtin.Tuple.tupleExact
    refine wpAny_bind (wpAny_newObj_type ?_ (by show items.toList.toArray.size ≤ sizeLine; simpa using hsz))
    refine wpAny_pure ⟨_, rfl, ?_⟩
    have e : items.toList.toArray = items := by simp
    rw [e]
    exact h h' hk hz
theorem call_tuple_sized {l : Addr} {items : Array Value} {Q : Value → Shared → Prop} (hl : s.heap.IsList l items)
    (h : ∀ h' : Heap, (∀ b o', s.heap.get? b = some o' → h'.get? b = some o') → s.heap.objs.size ≤ h'.objs.size → Q (.ref h'.objs.size) { s with heap := h'.push { cls := .type "tuple", data := .seq items } })
    (hsz : items.size ≤ sizeLine) :
    wpAny (model prog w) A (call (.type "tuple") [.ref l]) Q E s := by
  obtain ⟨o, ho, hc, n, hd⟩ := hl
  exact callType_new F.called_tuple (by decide) (F.typeCall_tuple_1 _) (F.newCall_tuple_1 _) (fun obj => F.args_object_init_2 obj _) F.entry_tuple_new
    (meets_tuple_sized l o items n hc hd hsz) ⟨ho, fun h' hk hz => ⟨⟨_, Heap.get?_push_size _ rfl, rfl⟩, h h' hk hz⟩⟩

theorem sorted_sized {T : String} {r d : Addr} {n : Nat} {P : Nat → Value → Prop} {OK : Heap → Prop} {Q : Value → Shared → Prop} (K : KdlSrc prog w T r d n P OK) (hh : A.handled = none) (hok : OK s.heap) (hn : n ≤ sizeLine)
    (h : ∀ (h' : Heap) (tk : Nat) (vs : List Value), (∀ b o, s.heap.get? b = some o → h'.get? b = some o) → s.heap.objs.size ≤ h'.objs.size → vs.length = n → (∀ (j : Nat) (v : Value), vs[j]? = some v → P j v) →
      wpAny (model prog w) A.in1 (call (.builtin "list.sort") [.ref h'.objs.size]) (fun _ s' => Q (.ref h'.objs.size) s') E { s with heap := h'.push { cls := .type "list", data := .seq vs.toArray }, toks := tk }) :
    wpAny (model prog w) A (call (.builtin "sorted") [.ref r]) Q E s := by
  refine call_function_entry kind_sorted plain_sorted entry_sorted (args_sorted1 _) ?_
  unfold Builtin.«sorted»
  refine wpAny_bind (m := checkCount "sorted" 1 1 _) (wpAny_pure ?_)
  refine wpAny_bind (with_size (kdu_collect (A := A.in1) K hh hok hn fun h' tk acc hk hacc hz => ?_))
  have hl : acc.toList.length = n := by rw [Array.length_toList]; exact hacc.1
  refine wpAny_bind (wpAny_newList ?_ (by rw [hl]; exact hn))
  have hg := h h' tk acc.toList hk hz hl (fun j v e => hacc.2 j v (by rw [← Array.getElem?_toList]; exact e))
  refine wpAny_bind (wpAny_holding (wpAny_mono hg (fun _ s' x => ?_) fun _ _ e => e))
  exact wpAny_pure ⟨_, rfl, x⟩
end

theorem ints_of_keys {prog : Program} {w : World} {vs : List Value} : ∀ {kvs : List (Int × Value)}, vs.length = kvs.length → (∀ (j : Nat) (v : Value), vs[j]? = some v → ∃ k x, kvs[j]? = some (k, x) ∧ (intKind prog w).is k v = true) → IntsAre vs (kvs.map (·.1)) := by
  induction vs with
  | nil =>
    intro kvs hl h
    cases kvs with
    | nil => exact .nil
    | cons k kvs => exact nomatch hl
  | cons v vs ih =>
    intro kvs hl h
    cases kvs with
    | nil => exact nomatch hl
    | cons p kvs =>
      obtain ⟨k', y', e, his⟩ := h 0 v rfl
      have ep : p.1 = k' := congrArg Prod.fst (Option.some.inj e)
      rw [List.map_cons, ep]
      obtain ⟨t, rfl⟩ := Value.isInt_shape his
      exact .cons _ _ (ih (Nat.succ.inj hl) fun j v e => h (j + 1) v e)

section
variable {x : Cx} {ok : FdOk} {ρ : Rho} {h : H} {hp : Heap}
theorem ints_relL {vs : List Value} {is : List Int} (r : IntsAre vs is) : RelL x ok ρ h hp (is.map .int) vs := by
  induction r with
  | nil => rfl
  | cons n t _ ih => exact .mk ⟨t, rfl⟩ ih
theorem intsAre_length {vs : List Value} {is : List Int} (r : IntsAre vs is) : vs.length = is.length := by
  induction r with
  | nil => rfl
  | cons _ _ _ ih => exact congrArg Nat.succ ih
theorem intL_length {l : List V} : ∀ {is : List Int}, intL l = some is → l.length = is.length := by
  induction l with
  | nil => exact fun e => some_el e rfl
  | cons y l ih => exact fun e => vI_el e fun i q e => onS_el e fun is' e2 e => some_el e (congrArg Nat.succ (ih e2))
end

section
variable {x : Cx} {env : Env} {sl : List Str} {m : Loc} {L lo : Addr} {cs : List Addr} {ρ : Rho} {h : H} {A : Around} {s : Shared} {n : Nat} {hp' : Heap} {E : Value → Shared → Prop}

theorem ns_unique {fm fm' : Str → Option Value} {hp : Heap} (e : hp.Ns L fm) (F : hp.Ns L fm') : fm = fm' := e.eq_nsMap.trans F.eq_nsMap.symm

noncomputable def biV (b : Bi) : Value := match b with
  | .len => .builtin "len" | .int => .type "int" | .list => .type "list" | .tuple => .type "tuple" | .range => .type "range"
  | .min => .builtin "min" | .max => .builtin "max" | .abs => .builtin "abs" | .sorted => .builtin "sorted"

@[elab_as_elim] theorem relL_one {hp : Heap} {a : V} {vs : List Value} {P : List Value → Prop} (r : RelL x okF ρ h hp [a] vs) (k : ∀ v, Rel x okF ρ h hp a v → P [v]) : P vs := by
  obtain ⟨v, vs', rfl, r1, r2⟩ := r; cases r2; exact k v r1
@[elab_as_elim] theorem relL_two {hp : Heap} {a b : V} {vs : List Value} {P : List Value → Prop} (r : RelL x okF ρ h hp [a, b] vs) (k : ∀ v u, Rel x okF ρ h hp a v → Rel x okF ρ h hp b u → P [v, u]) : P vs := by
  obtain ⟨v, vs', rfl, r1, r2⟩ := r; exact relL_one r2 fun u r3 => k v u r1 r3

theorem lenB_line : lenB ≤ sizeLine := Nat.le_trans (Nat.le_succ _) sizeLine_big
theorem fits_len {n k : Nat} (q : n = k) (h : n ≤ lenB) : (k : Int) < 2 ^ 63 := Int.ofNat_lt.mpr (Nat.lt_of_le_of_lt (q ▸ h) (by decide))
theorem fits_size {l : List V} {vs : List Value} {hp : Heap} (hb : l.length ≤ lenB) (rl : RelL x okF ρ h hp l vs) : vs.toArray.size ≤ sizeLine := by
  rw [List.size_toArray, ← relL_length rl]; exact Nat.le_trans hb lenB_line
theorem size_eq {l : List V} {vs : List Value} {hp : Heap} (rl : RelL x okF ρ h hp l vs) : l.length = vs.toArray.size := by rw [List.size_toArray]; exact relL_length rl

/-- a built-in that keeps a ledger -/
theorem Good.ledgered (G : Good x env sl m L cs lo ρ h s.heap) (Ev : x.H0.get? L = none) {fm : Str → Option Value} (F0 : s.heap.Ns L fm) {l : List (Addr × Obj)} (F : Fr noHeap L hp' fm) (N : News noHeap L hp' l) (hl : ∀ p ∈ ledger s.heap L, p ∈ l) (z : s.heap.objs.size ≤ hp'.objs.size) :
    Res x L lo ρ h s.heap ρ h hp' := G.kept Ev F F0 (fun b o ne e => ledger_keep N hl ne e) z

theorem len_sound (hx : CxOk x) (G : Good x env sl m L cs lo ρ h s.heap) {a y : V} {v : Value} {h' : H} (e : biLen a h = some (y, h')) (r : Rel x okF ρ h s.heap a v) : wpAny (model x.prog x.w) A (call (.builtin "len") [v]) (XPost x L lo ρ h s y h') E s := by
  cases a with
  | tup l =>
    refine pair_el e (rel_tup r fun a vs it _ hb rl => ?_)
    refine len_tuple it (fits_len (size_eq rl) hb) ?_
    rw [← size_eq rl]
    exact XPost.mk0 (y := .int _) G ⟨_, rfl⟩ _
  | lst l =>
    refine pair_el e (rel_lst r fun a vs n il _ hb rl => ?_)
    refine call_len_list il.isList (fits_len (size_eq rl) hb) ?_
    rw [← size_eq rl]
    exact XPost.mk0 (y := .int _) G ⟨_, rfl⟩ _
  | loc k =>
    refine oLD_el e (fun l eo e => pair_el e (list_el G r eo fun p vs n _ il hb rl => ?_)) fun l eo e => pair_el e (dict_el G r eo fun p kvs hp dof hb rk => ?_)
    · refine call_len_list il.isList (fits_len (size_eq rl) hb) ?_
      rw [← size_eq rl]
      exact XPost.mk0 (y := .int _) G ⟨_, rfl⟩ _
    · refine call_len_dict (not_sys hx G hp eo rfl) dof (fits_len (relKV_length rk) hb) ?_
      rw [← relKV_length rk]
      exact XPost.mk0 (y := .int _) G ⟨_, rfl⟩ _
  | _ => exact nn e
theorem list_sound (G : Good x env sl m L cs lo ρ h s.heap) {a : V} {v : Value} {l : List V} (el : listOf a h = some l) (r : Rel x okF ρ h s.heap a v) : wpAny (model x.prog x.w) A (call (.type "list") [v]) (XPost x L lo ρ h s (.loc h.length) (h ++ [.list l])) E s :=
  list_at G el r fun a vs ep il hb rl => with_size (call_list_seq a (.inl rfl) il rfl rfl (fun h2 c' hk hD z => G.alloc_list hk (Nat.le_refl _) hD z hb rl _) (fits_size hb rl))
theorem tuple_sound (G : Good x env sl m L cs lo ρ h s.heap) {a : V} {v : Value} {l : List V} (el : listOf a h = some l) (r : Rel x okF ρ h s.heap a v) : wpAny (model x.prog x.w) A (call (.type "tuple") [v]) (XPost x L lo ρ h s (.tup l) h) E s :=
  list_at G el r fun a vs ep il hb rl => with_size (call_tuple_sized il.isList (fun h2 hk hz z =>
    have P := G.grow (fun b o e => Heap.get?_push_of_some _ (hk b o e)) z
    ⟨ρ, _, s.toks, rfl, P, h2.objs.size, vs, rfl, ⟨_, Heap.get?_push_size _ rfl, rfl, 0, rfl⟩, G.fresh hz, hb, rl.step P.st G.fr.none⟩) (fits_size hb rl))
theorem minOf_el {l : List Int} {y : V} {h' : H} {P : V → H → Prop} (e : minOf l h = some (y, h')) (k : ∀ i r, l = i :: r → P (.int (minInts i r)) h) : P y h' := by
  cases l with
  | nil => exact nn e
  | cons i r => exact pair_el e (k i r rfl)
theorem min1_sound (hx : CxOk x) (R : Room n A) (Ev : x.H0.get? L = none) (G : Good x env sl m L cs lo ρ h s.heap) {a y : V} {v : Value} {h' : H} (e : biMin1 a h = some (y, h')) (r : Rel x okF ρ h s.heap a v) : wpAny (model x.prog x.w) A (call (.builtin "min") [v]) (XPost x L lo ρ h s y h') E s := by
  cases a with
  | lst l =>
    refine rel_lst r fun a vs ep il _ hb rl => onS_el e fun is el e => minOf_el (P := fun y h' => wpAny (model x.prog x.w) A (call (.builtin "min") [.ref a]) (XPost x L lo ρ h s y h') E s) e fun i0 r0 q => ?_
    subst q
    obtain ⟨fm, F⟩ := G.frame
    exact with_size (min_list_N R.none F ledger_news il.isList (relL_ints rl el) (Nat.zero_lt_succ _) fun h2 M t tk F2 N2 hM hle z => ⟨ρ, h2, tk, rfl, G.ledgered Ev F.ns F2 N2 (fun p e => e) z, t, congrArg (Value.int · t) (min_unique hM hle)⟩)
  | loc k =>
    refine oLD_el e (fun _ _ e => nn e) fun l eo e => minOf_el (P := fun y h' => wpAny (model x.prog x.w) A (call (.builtin "min") [v]) (XPost x L lo ρ h s y h') E s) e fun i0 r0 ek => dict_el G r eo fun p kvs hp dof hb rk => ?_
    obtain ⟨epo, hat⟩ := dof.dictAt
    have keys : kvs.map (·.1) = i0 :: r0 := (relKV_keys rk).symm.trans ek
    have hlen : kvs.length = (i0 :: r0).length := by rw [← keys, List.length_map]
    have hlt := hat.lt_size
    have gi : ∀ (i : Nat) (k : Int) (v : Value), kvs[i]? = some (k, v) → (i0 :: r0).getD i 0 = k := fun i k v e => by
      rw [← keys, List.getD_eq_getElem?_getD, List.getElem?_map, e]; rfl
    refine with_size (call_min_walk (wpAny_pyIter_dict (not_sys hx G hp eo rfl) hat ?_))
    refine ⟨s.heap.objs.size, _, _, _, _, _, _, rfl, Walks.dictKeys (A := A.in1) R.none _ p.1 (Nat.ne_of_lt hlt) kvs epo, ⟨⟨_, Heap.get?_push_size _ rfl, rfl, rfl⟩, hat.push _⟩, ?_, by rw [hlen]; exact Nat.zero_lt_succ _,
      CmpOf.ints_lt (fun i => (i0 :: r0).getD i 0) (fun i v hv => ?_), fun v h2 tk hP hk z => ?_⟩
    · intro b hb
      rw [Heap.size_push]
      exact (List.mem_cons.mp hb).elim (fun q => q ▸ Nat.lt_succ_self _) fun hb => (List.mem_singleton.mp hb) ▸ Nat.lt_succ_of_lt hlt
    · obtain ⟨k, u, hku, his⟩ := hv
      rw [gi i k u hku]
      exact Value.isInt_shape his
    · obtain ⟨h1, h2'⟩ := argBest_lt (fun i => (i0 :: r0).getD i 0) (kvs.length - 1)
      obtain ⟨k, u, hku, his⟩ := hP
      have hk' := gi _ k u hku
      obtain ⟨t, rfl⟩ := Value.isInt_shape his
      refine ⟨ρ, h2, tk, rfl, G.grow (fun b o e => hk b o (fun q => Nat.lt_irrefl _ (Heap.lt_size ((List.mem_singleton.mp q) ▸ e : s.heap.get? s.heap.objs.size = some o))) (Heap.get?_push_of_some _ e)) z, t, congrArg (Value.int · t) (min_unique ?_ ?_)⟩
      · rw [← keys]
        exact List.mem_map_of_mem (f := (·.1)) (List.mem_of_getElem? hku)
      · intro a ha
        obtain ⟨i, hi, rfl⟩ := List.getElem_of_mem ha
        have := h2' i (by rw [hlen]; exact Nat.le_of_lt_succ hi)
        rw [hk', List.getD_eq_getElem?_getD, List.getElem?_eq_getElem hi] at this
        exact this
  | _ => exact nn e
theorem sorted_sound (hx : CxOk x) (R : Room n A) (G : Good x env sl m L cs lo ρ h s.heap) {k : Nat} {y : V} {v : Value} {h' : H} (e : (oLD h[k]? (fun l => onS (intL l) fun is => newSorted is h) fun kv => newSorted (kv.map (·.1)) h) = some (y, h'))
    (r : Rel x okF ρ h s.heap (.loc k) v) : wpAny (model x.prog x.w) A (call (.builtin "sorted") [v]) (XPost x L lo ρ h s y h') E s := by
  refine oLD_el e (fun l eo e => onS_el e fun is ei e => if_el e fun h64 e => pair_el e (list_el G r eo fun p vs k _ il hb rl => ?_)) fun kv eo e => if_el e fun h64 e => pair_el e (dict_el G r eo fun p kvs hp dof hb rk => ?_)
  · have hI := relL_ints rl ei
    refine with_size (sorted_ints il.isList hI (by rw [intsAre_length hI]; exact h64) fun out ns' a1 a2 a3 z => ?_)
    obtain ⟨ep, he⟩ := sortedAll_at s.heap vs out
    rw [← sorted_unique a2 a3]
    exact G.alloc_list (fun b o e => sortedAll_old e) (Nat.le_succ _) he z (by rw [List.length_map, a2.length_eq, ← intL_length ei]; exact hb) (ints_relL a1) _
  · obtain ⟨epo, hat⟩ := dof.dictAt
    have keys := relKV_keys rk
    have klen := relKV_length rk
    rw [keys, List.length_map] at h64
    refine with_size (sorted_sized (kdl_dict (knd := intKind x.prog x.w) (kvs := kvs) (ep := epo) (not_sys hx G hp eo rfl)) R.none hat (klen ▸ Nat.le_trans hb lenB_line) fun h2 tk vs hk hz hl hv => ?_)
    have hoL : (h2.push { cls := .type "list", data := .seq vs.toArray }).get? h2.objs.size = some (seqObj "list" vs.toArray 0) := Heap.get?_push_size _ rfl
    have hI : IntsAre vs (kvs.map (·.1)) := ints_of_keys hl hv
    refine wpAny_call_entry slot_list_sort ⟨_, hoL, rfl⟩ entry_list_sort (list_sort_tree hoL hI (hl ▸ h64) fun out ns' a1 a2 a3 => ⟨_, rfl, fun z => ?_⟩) (args_list_sort _)
    obtain ⟨ep, he⟩ := sortedHeap_at (vs := vs) (out := out) hoL
    have kk : ∀ b o, s.heap.get? b = some o → (sortedHeap (h2.push { cls := .type "list", data := .seq vs.toArray }) h2.objs.size vs out).get? b = some o := fun b o e =>
      have h3 := hk b o e
      (sortedHeap_old (Nat.ne_of_lt (Heap.lt_size h3)) (by rw [Heap.size_push]; exact Nat.lt_succ_of_lt (Heap.lt_size h3))).trans (Heap.get?_push_of_some _ h3)
    rw [keys, ← sorted_unique a2 a3]
    exact G.alloc_list kk hz (e := ep) (vs := out.toList) he z (by rw [List.length_map, a2.length_eq, List.length_map, ← klen]; exact hb) (ints_relL a1) _
theorem bi_call (hx : CxOk x) (R : Room n A) (Ev : x.H0.get? L = none) {b : Bi} {as : List V} {vs : List Value} {y : V} {h' : H} (e : builtin b as h = some (y, h')) (G : Good x env sl m L cs lo ρ h s.heap)
    (r : RelL x okF ρ h s.heap as vs) : wpAny (model x.prog x.w) A (call (biV b) vs) (XPost x L lo ρ h s y h') E s := by
  have one : ∀ {f : V → Option (V × H)}, l1 as f = some (y, h') → (∀ a v, f a = some (y, h') → Rel x okF ρ h s.heap a v → wpAny (model x.prog x.w) A (call (biV b) [v]) (XPost x L lo ρ h s y h') E s) → wpAny (model x.prog x.w) A (call (biV b) vs) (XPost x L lo ρ h s y h') E s :=
    fun e k => l1_el e fun a q e => relL_one (show RelL x okF ρ h s.heap [a] vs from q ▸ r) fun v r => k a v e r
  have two : ∀ {f : Int → Int → Int}, two as f h = some (y, h') → (∀ i j t u, (∀ hp' tk t, Res x L lo ρ h s.heap ρ h hp' → XPost x L lo ρ h s y h' (.int (f i j) t) { s with heap := hp', toks := tk }) → wpAny (model x.prog x.w) A (call (biV b) [.int i t, .int j u]) (XPost x L lo ρ h s y h') E s) →
      wpAny (model x.prog x.w) A (call (biV b) vs) (XPost x L lo ρ h s y h') E s :=
    fun e k => l2_el e fun a c q e => relL_two (show RelL x okF ρ h s.heap [a, c] vs from q ▸ r) fun v u r1 r2 => vI_el e fun i q1 e => vI_el e fun j q2 e => rel_int (show Rel x okF ρ h s.heap (.int i) v from q1 ▸ r1) fun t => rel_int (show Rel x okF ρ h s.heap (.int j) u from q2 ▸ r2) fun t2 =>
      k i j t t2 fun hp' tk t Q => pair_el e ⟨ρ, hp', tk, rfl, Q, _, rfl⟩
  cases b with
  | len => exact one e fun a v e r => len_sound hx G e r
  | int => exact one e fun a v e r => vI_el e fun i q e => rel_int (show Rel x okF ρ h s.heap (.int i) v from q ▸ r) fun t => pair_el e (call_int_int (XPost.mk0 (y := .int _) G ⟨_, rfl⟩ _))
  | list => exact one e fun a v e r => onS_el e fun l el e => pair_el e (list_sound G el r)
  | tuple => exact one e fun a v e r => onS_el e fun l el e => pair_el e (tuple_sound G el r)
  | range => exact one e fun a v e r => vI_el e fun i q e => rel_int (show Rel x okF ρ h s.heap (.int i) v from q ▸ r) fun t => if_el e fun hb e => pair_el e (call_range_1
      ⟨ρ, _, _, rfl, G.push { cls := .type "range", data := .fields #[.int 0 s.toks, .int i t, .int 1 (s.toks + 1)] }, _, _, _, _, rfl, Heap.get?_push_size _ rfl, G.fresh (Nat.le_refl _), by omega⟩)
  | abs => exact one e fun a v e r => vI_el e fun i q e => rel_int (show Rel x okF ρ h s.heap (.int i) v from q ▸ r) fun t => pair_el e (call_abs_int fun u tk => XPost.mk0 (y := .int _) G ⟨_, rfl⟩ _)
  | sorted => exact one e fun a v e r => vL_el e fun k q e => sorted_sound hx R G e (q ▸ r)
  | max => exact two e fun i j t u k => G.frame.elim fun fm F => with_size (max_two_N R.none F ledger_news fun h2 tk F2 N2 z => k h2 tk _ (G.ledgered Ev F.ns F2 N2 (fun p e => e) z))
  | min =>
    unfold builtin at e
    cases q : isTwo as with
    | true =>
      rw [q] at e
      exact two e fun i j t u k => G.frame.elim fun fm F => with_size (min_two_N R.none F ledger_news fun h2 tk F2 N2 z => k h2 tk _ (G.ledgered Ev F.ns F2 N2 (fun p e => e) z))
    | false =>
      rw [q] at e
      exact one e fun a v e r => min1_sound hx R Ev G e r
end
end Mine
end

section
namespace Mine
open PySem PySem.W PySem.Calls PyProof.Rows

noncomputable def nonRef (v : Value) : Bool := match v with
  | .ref _ => false
  | _ => true
structure CxOk3 (x : Cx) : Prop extends CxOk2 x where
  keep : ∀ k v, gval x.K k = some v → keepIn x.K v = true ∨ nonRef v = true
  fkeep : ∀ k f, fnAddr x.K k = some f → keepIn x.K (.ref f) = true

section
variable {x : Cx} {env : Env} {sl : List Str} {m : Loc} {L lo : Addr} {cs : List Addr} {ρ : Rho} {h : H} {A : Around} {s : Shared} {n : Nat} {hp' : Heap}

theorem Good.set_list (G : Good x env sl m L cs lo ρ h s.heap) {k : Nat} {p : Addr × Addr} {o : O} {l' : List V} {vs : List Value} {e : Nat} (hi : ρ.o[k]? = some p) (ho : h[k]? = some o) (hl : o.live = true)
    (hs : Heap.SameBut p.1 s.heap hp') (il : IsL hp' p.1 vs.toArray e) (hb : l'.length ≤ lenB) (rl : RelL x okF ρ h s.heap l' vs) : Res x L lo ρ h s.heap ρ (h.set k (.list l')) hp' := by
  obtain ⟨a, b, c⟩ := G.sim.set G.fr hi ho hl hs (.inl rfl) (o' := .list l') fun T => ⟨vs, e, il, hb, rl.step T G.fr.none⟩
  exact ⟨b, c, a⟩
theorem Good.set_dict (G : Good x env sl m L cs lo ρ h s.heap) {k : Nat} {p : Addr × Addr} {o : O} {l' : List (Int × V)} {kvs : List (Int × Value)} (hi : ρ.o[k]? = some p) (ho : h[k]? = some o) (hl : o.live = true)
    (hs : Heap.SameBut p.1 s.heap hp') (il : hp'.DictOf (intKind x.prog x.w) p.1 kvs) (hb : l'.length ≤ lenB) (rl : RelKV x okF ρ h s.heap l' kvs) : Res x L lo ρ h s.heap ρ (h.set k (.dict l')) hp' := by
  obtain ⟨a, b, c⟩ := G.sim.set G.fr hi ho hl hs (.inl rfl) (o' := .dict l') fun T => ⟨kvs, il, hb, rl.step T G.fr.none⟩
  exact ⟨b, c, a⟩

theorem isL_update {hp : Heap} {a : Addr} {xs : Array Value} {e : Nat} (il : IsL hp a xs e) (f : Array Value → Array Value) : ∃ e', IsL (hp.update a (Obj.mapSeq f)) a (f xs) e' := ⟨_, get?_update_seq il f⟩

theorem isInt_at (k : Int) {vs : List Value} {is : List Int} (r : IntsAre vs is) : ∀ {j : Nat} {hj : j < vs.length} (hj' : j < is.length), isInt k vs[j] = (is[j] == k) := by
  induction r with
  | nil => exact fun hj' => absurd hj' (Nat.not_lt_zero _)
  | cons i t _ ih =>
    intro j hj hj'
    cases j with
    | zero => rfl
    | succ j => exact ih (Nat.lt_of_succ_lt_succ hj')
noncomputable def biId (b : Bool) (m : Me) : String := match m with
  | .append => "list.append"
  | .pop => if b then "list.pop" else "dict.pop"
  | .reverse => "list.reverse"
  | .index => "list.index"
  | .get => "dict.get"
theorem erase_arr (ws : List Value) (i : Nat) : ws.toArray.eraseIdxIfInBounds i = (ws.eraseIdx i).toArray := by
  simp only [Array.eraseIdxIfInBounds, List.eraseIdx_toArray]
  by_cases q : i < ws.toArray.size
  · rw [dif_pos q]
  · rw [dif_neg q, List.eraseIdx_of_length_le (Nat.not_lt.mp q)]
theorem append_sound (G : Good x env sl m L cs lo ρ h s.heap) {k : Nat} {a : V} {l : List V} {v u : Value} (eo : h[k]? = some (.list l)) (q : l.length < 1000000) (rv : Rel x okF ρ h s.heap (.loc k) v) (ru : Rel x okF ρ h s.heap a u) :
    wpAny (model x.prog x.w) A (call (.builtin "list.append") [v, u]) (XPost x L lo ρ h s .non (h.set k (.list (l ++ [a])))) noE s := by
  refine list_el G rv eo fun p ws ep hp il hl rl => ?_
  obtain ⟨e', il'⟩ := isL_update il (fun xs => xs.push u)
  rw [List.push_toArray] at il'
  exact call_meets (id := "list.append") PySem.F.slot_list_append il.isList.typeIs PySem.F.entry_list_append (PySem.F.args_list_append_2 _ _) (list_append p.1 ws.toArray ep u (fits_size hl rl))
    ⟨il, ρ, _, s.toks, rfl, G.set_list hp eo rfl (Heap.SameBut.update _ _ _) il' (by rw [List.length_append]; exact q) (relL_append rl (.mk ru rfl)), rfl⟩
theorem popl_sound (G : Good x env sl m L cs lo ρ h s.heap) {k : Nat} {as : List V} {l : List V} {v : Value} {vs : List Value} {y : V} {h' : H} (eo : h[k]? = some (.list l)) (e : popL k as l h = some (y, h')) (rv : Rel x okF ρ h s.heap (.loc k) v) (r : RelL x okF ρ h s.heap as vs) :
    wpAny (model x.prog x.w) A (call (.builtin "list.pop") (v :: vs)) (XPost x L lo ρ h s y h') noE s := by
  refine list_el G rv eo fun p ws ep hp il hl rl => ?_
  have fin : ∀ (i : Nat) (y : V) (u : Value), l[i]? = some y → ws[i]? = some u → Rel x okF ρ h s.heap y u → XPost x L lo ρ h s y (h.set k (.list (l.eraseIdx i))) u { s with heap := s.heap.update p.1 (Obj.mapSeq fun xs => xs.eraseIdxIfInBounds i) } := fun i y u hy hu ru => by
    obtain ⟨e', il'⟩ := isL_update il (fun xs => xs.eraseIdxIfInBounds i)
    rw [erase_arr] at il'
    have RS := G.set_list hp eo rfl (Heap.SameBut.update _ _ _) il' (Nat.le_trans (List.length_eraseIdx_le ..) hl) (relL_eraseIdx i rl)
    exact ⟨ρ, _, s.toks, rfl, RS, ru.res RS G⟩
  have len := relL_length rl
  cases as with
  | nil =>
    refine relL_nil r (onS_el e fun y' q e => pair_el e ?_)
    rw [List.getLast?_eq_getElem?] at q
    obtain ⟨u, hu, ru⟩ := relL_get rl q
    have P := fin _ _ u q hu ru
    rw [List.eraseIdx_length_sub_one, len, ← List.size_toArray] at P
    exact call_meets PySem.F.slot_list_pop il.isList.typeIs PySem.F.entry_list_pop (PySem.F.args_list_pop_1 _) (MeetsSeq.list_pop_last p.1 ws.toArray ep u (by rw [List.size_toArray, ← len]; exact List.getElem?_toArray.trans hu) (fits_size hl rl)) ⟨il, P⟩
  | cons a as =>
    have e : l1 (a :: as) (fun v => vI v fun i => if 0 ≤ i then onS l[i.toNat]? fun v => some (v, h.set k (.list (l.eraseIdx i.toNat))) else none) = some (y, h') := e
    refine l1_el e fun a' q e => vI_el e fun i qi e => if_el e fun hi e => onS_el e fun y' q2 e => pair_el e ?_
    refine relL_one (show RelL x okF ρ h s.heap [a'] vs from q ▸ r) fun w rw' => rel_int (show Rel x okF ρ h s.heap (.int i) w from qi ▸ rw') fun t => ?_
    obtain ⟨u, hu, ru⟩ := relL_get rl q2
    have hlt : i.toNat < l.length := (List.getElem?_eq_some_iff.mp q2).1
    have hl' : l.length ≤ 1000000 := hl
    exact call_meets PySem.F.slot_list_pop il.isList.typeIs PySem.F.entry_list_pop (PySem.F.args_list_pop_2 _ _) (MeetsSeq.list_pop_at p.1 ws.toArray ep i t i.toNat u (by unfold Builtin.List.listFitsIndex; simp; lia) (seqIndex_nonneg hi (by rw [List.size_toArray, ← len]; lia)) (List.getElem?_toArray.trans hu) (fits_size hl rl)) ⟨il, fin _ _ u q2 hu ru⟩
theorem popd_sound (G : Good x env sl m L cs lo ρ h s.heap) {k : Nat} {as : List V} {kv : List (Int × V)} {v : Value} {vs : List Value} {y : V} {h' : H} (eo : h[k]? = some (.dict kv)) (e : popD k as kv h = some (y, h')) (rv : Rel x okF ρ h s.heap (.loc k) v) (r : RelL x okF ρ h s.heap as vs) :
    wpAny (model x.prog x.w) A (call (.builtin "dict.pop") (v :: vs)) (XPost x L lo ρ h s y h') noE s := by
  refine dict_el G rv eo fun p kvs hp dof hl rk => l1_el e fun a q e => vI_el e fun i qi e => onS_el e fun y' q2 e => pair_el e ?_
  refine relL_one (show RelL x okF ρ h s.heap [a] vs from q ▸ r) fun w rw' => rel_int (show Rel x okF ρ h s.heap (.int i) w from qi ▸ rw') fun t => ?_
  obtain ⟨u, hu, ru⟩ := (relKV_get i rk).2 _ q2
  refine call_meetsIn PySem.F.slot_dict_pop dof.typeIs PySem.F.entry_dict_pop (PySem.F.args_dict_pop_2 _ _) (meets_dict_pop_there (intKind x.prog x.w) (k := i) p.1 (by simp [intKind, Value.isInt]) [] (.inl rfl) rfl) ⟨kvs, u, dof, by rw [← relKV_length rk]; exact Nat.le_trans hl lenB_line, hu, fun h2 d2 sb => ?_⟩
  have RS := G.set_dict hp eo rfl sb d2 (Nat.le_trans (delKV_length _ _) hl) (relKV_del i rk)
  exact ⟨ρ, _, _, rfl, RS, ru.res RS G⟩
theorem reverse_sound (G : Good x env sl m L cs lo ρ h s.heap) {k : Nat} {l : List V} {v : Value} (eo : h[k]? = some (.list l)) (rv : Rel x okF ρ h s.heap (.loc k) v) :
    wpAny (model x.prog x.w) A (call (.builtin "list.reverse") [v]) (XPost x L lo ρ h s .non (h.set k (.list l.reverse))) noE s := by
  refine list_el G rv eo fun p ws ep hp il hl rl => ?_
  obtain ⟨e', il'⟩ := isL_update il (fun xs => xs.reverse)
  rw [List.reverse_toArray] at il'
  exact call_meets (id := "list.reverse") PySem.F.slot_list_reverse il.isList.typeIs PySem.F.entry_list_reverse (PySem.F.args_list_reverse_1 _) (AutoSeq1.list_reverse_list_0 p.1 ws.toArray ep (fits_size hl rl))
    ⟨il, ρ, _, s.toks, rfl, G.set_list hp eo rfl (Heap.SameBut.update _ _ _) il' (by rw [List.length_reverse]; exact hl) (relL_reverse rl), rfl⟩
theorem index_sound (G : Good x env sl m L cs lo ρ h s.heap) {k : Nat} {l : List V} {is : List Int} {i : Int} {t : Tok} {v : Value} (eo : h[k]? = some (.list l)) (ei : intL l = some is) (hc : is.contains i = true) (rv : Rel x okF ρ h s.heap (.loc k) v) :
    wpAny (model x.prog x.w) A (call (.builtin "list.index") [v, .int i t]) (XPost x L lo ρ h s (.int (is.idxOf i)) h) noE s := by
  refine list_el G rv eo fun p ws ep hp il hl rl => ?_
  have hI := relL_ints rl ei
  have hil := intsAre_length hI
  have hlt : is.idxOf i < is.length := List.idxOf_lt_length_of_mem (List.contains_iff_mem.mp hc)
  have hl' : l.length ≤ 1000000 := hl
  have len := relL_length rl
  refine call_meets (id := "list.index") PySem.F.slot_list_index il.isList.typeIs PySem.F.entry_list_index (PySem.F.args_list_index_2 _ _) (MeetsSeq.list_index p.1 ws.toArray ep (.int i t) (isInt i) (fun y hy => eq_isInt i t hI y (List.mem_toArray.mp hy)) (is.idxOf i) (by rw [List.size_toArray, hil]; exact hlt) (by lia) ?_ ?_) ⟨il, XPost.mk0 (y := .int _) G ⟨_, rfl⟩ _⟩
  · rw [List.getElem_toArray, isInt_at i hI hlt, List.getElem_idxOf]
    exact beq_self_eq_true i
  · intro j hj hlt2
    rw [List.getElem_toArray, isInt_at i hI (Nat.lt_trans hlt2 hlt)]
    exact ne_of_lt_idxOf hlt2 (Nat.lt_trans hlt2 hlt)
theorem get_sound (hx : CxOk x) (G : Good x env sl m L cs lo ρ h s.heap) {k : Nat} {kv : List (Int × V)} {i : Int} {t : Tok} {v : Value} (eo : h[k]? = some (.dict kv)) (rv : Rel x okF ρ h s.heap (.loc k) v) :
    wpAny (model x.prog x.w) A (call (.builtin "dict.get") [v, .int i t]) (XPost x L lo ρ h s ((getKV kv i).getD .non) h) noE s := by
  refine dict_el G rv eo fun p kvs hp dof hl rk => ?_
  refine call_meetsIn (id := "dict.get") PySem.F.slot_dict_get dof.typeIs PySem.F.entry_dict_get (PySem.F.args_dict_get_2 _ _) (meets_dict_get (intKind x.prog x.w) (k := i) p.1 (by simp [intKind, Value.isInt]) (not_sys hx G hp eo rfl)) ⟨_, dof.mapOf, ?_⟩
  have hg := relKV_get i rk
  cases q : getKV kv i with
  | none => rw [hg.1 q]; exact XPost.mk0 (y := .non) G rfl _
  | some y => obtain ⟨u, hu, ru⟩ := hg.2 y q; rw [hu]; exact XPost.mk0 G ru _
theorem isListAt_list {k : Nat} {l : List V} (eo : h[k]? = some (.list l)) : isListAt h k = true := by unfold isListAt; rw [eo]; rfl
theorem isListAt_dict {k : Nat} {l : List (Int × V)} (eo : h[k]? = some (.dict l)) : isListAt h k = false := by unfold isListAt; rw [eo]; rfl

theorem bi_meth (hx : CxOk x) (R : Room n A) {me : Me} {k : Nat} {b : Bool} {as : List V} {vs : List Value} {y : V} {h' : H} {v : Value} (e : biMeth me k as h = some (y, h')) (hb : isListAt h k = b) (G : Good x env sl m L cs lo ρ h s.heap)
    (rv : Rel x okF ρ h s.heap (.loc k) v) (r : RelL x okF ρ h s.heap as vs) : wpAny (model x.prog x.w) A (call (.builtin (biId b me)) (v :: vs)) (XPost x L lo ρ h s y h') noE s := by
  have one : ∀ {f : V → Option (V × H)} {id : String}, l1 as f = some (y, h') → (∀ a u, f a = some (y, h') → Rel x okF ρ h s.heap a u → wpAny (model x.prog x.w) A (call (.builtin id) [v, u]) (XPost x L lo ρ h s y h') noE s) → wpAny (model x.prog x.w) A (call (.builtin id) (v :: vs)) (XPost x L lo ρ h s y h') noE s :=
    fun e k => l1_el e fun a q e => relL_one (show RelL x okF ρ h s.heap [a] vs from q ▸ r) fun v r => k a v e r
  cases me with
  | append => exact oLN_el e fun l eo e => one e fun a u e ru => if_el e fun q e => pair_el e (append_sound G eo q rv ru)
  | pop => exact oLD_el e (fun l eo e => ((isListAt_list eo).symm.trans hb) ▸ popl_sound G eo e rv r) fun l eo e => ((isListAt_dict eo).symm.trans hb) ▸ popd_sound G eo e rv r
  | reverse => exact oLN_el e fun l eo e => l0_el e fun q e => relL_nil (show RelL x okF ρ h s.heap [] vs from q ▸ r) (pair_el e (reverse_sound G eo rv))
  | index => exact oLN_el e fun l eo e => one e fun a u e ru => vI_el e fun i q e => rel_int (show Rel x okF ρ h s.heap (.int i) u from q ▸ ru) fun t => onS_el e fun is ei e => if_el e fun hc e => pair_el e (index_sound G eo ei hc rv)
  | get => exact oLD_el e (fun _ _ e => nn e) fun l eo e => one e fun a u e ru => vI_el e fun i q e => rel_int (show Rel x okF ρ h s.heap (.int i) u from q ▸ ru) fun t => pair_el e (get_sound hx G eo rv)
end
end Mine
end

section
namespace Mine
open PySem PySem.W PySem.Calls PyProof.Rows

theorem under_make (A : Around) (C : Addr) (r : List Value) : (A.under (.builtin "type.__call__" ⟨.ref C :: r, []⟩)).depth = A.depth + 1 ∧ (A.under (.builtin "type.__call__" ⟨.ref C :: r, []⟩)).units = A.units + 1 ∧ (A.under (.builtin "type.__call__" ⟨.ref C :: r, []⟩)).handled = A.handled := ⟨rfl, rfl, rfl⟩

structure CxOk4 (x : Cx) : Prop extends CxOk3 x where
  fn : ∀ k v, kind k = some .fn → gval x.K k = some v → ∃ f, v = .ref f ∧ fnAddr x.K k = some f
  cl : ∀ k C i v, kind k = some (.cls C i) → gval x.K k = some v → ∃ Ca f, v = .ref Ca ∧ clsAddr x.K C = some Ca ∧ findIn x.K (.ref Ca) "__init__" = some (some (.ref f)) ∧ fnAddr x.K i = some f ∧ isFn x.K (.ref f) = true
  bi : ∀ k b v, kind k = some (.bi b) → gval x.K k = some v → v = biV b

structure RoomC (n : Nat) (A : Around) : Prop where
  none : A.handled = none
  depth : A.depth + 2 * n + 1 < recursionLimit
  units : A.units + 12 * n + 94 < cLine
theorem Room.toC {n : Nat} {A : Around} (R : Room n A) : RoomC n A := ⟨R.none, by have := R.depth; lia, by have := R.units; lia⟩
theorem Room.makeC {n : Nat} {A : Around} (R : Room n A) (C : Addr) (r : List Value) : RoomC n (A.under (.builtin "type.__call__" ⟨.ref C :: r, []⟩)) := by
  obtain ⟨a, b, c⟩ := under_make A C r
  exact ⟨c.trans R.none, by rw [a]; have := R.depth; lia, by rw [b]; have := R.units; lia⟩

def CPost (x : Cx) (L lo : Addr) (ρ : Rho) (h : H) (s : Shared) (y : V) (h' : H) (r : Result) (s' : Shared) : Prop := ∃ v, r = .ok (.ret v) ∧ XPost x L lo ρ h s y h' v s'
structure CalleeOk (x : Cx) (n : Nat) (c : Callee) : Prop where
  fn : ∀ {A : Around} {env : Env} {sl : List Str} {m : Loc} {L lo : Addr} {cs : List Addr} {ρ : Rho} {h : H} {s : Shared} {k : Nat} {as : List V} {vs : List Value} {y : V} {h' : H} {f : Addr}, RoomC n A → x.H0.get? L = none →
    Good x env sl m L cs lo ρ h s.heap → c k as h = some (y, h') → fnAddr x.K k = some f → RelL x okF ρ h s.heap as vs → codeAny (model x.prog x.w) A (.call (.ref f) ⟨vs, []⟩) (CPost x L lo ρ h s y h') s
  clo : ∀ {A : Around} {env : Env} {sl : List Str} {m : Loc} {L lo : Addr} {cs : List Addr} {ρ : Rho} {h : H} {s : Shared} {k : Nat} {as caps : List V} {vs cvs : List Value} {y : V} {h' : H} {a : Addr}, RoomC n A → x.H0.get? L = none →
    Good x env sl m L cs lo ρ h s.heap → c k (as ++ caps) h = some (y, h') → RelL x okF ρ h s.heap as vs → RelL x okF ρ h s.heap caps cvs → IsClo okF s.heap ρ.c (fun b => ¬ owned ρ h b) k a cvs →
    codeAny (model x.prog x.w) A (.call (.ref a) ⟨vs, []⟩) (CPost x L lo ρ h s y h') s

section
variable {x : Cx} {env : Env} {sl : List Str} {m : Loc} {L lo : Addr} {cs : List Addr} {ρ ρ1 : Rho} {h h1 : H} {A : Around} {s : Shared} {n : Nat} {hp' : Heap} {c : Callee}

theorem CPost.wp {y : V} {h' : H} {r : Result} {s' : Shared} (z : CPost x L lo ρ h s y h' r s') : ∃ v, r = .ok (.ret v) ∧ XPost x L lo ρ h s y h' v s' := z
theorem cpost_wp {y : V} {h' : H} {f : Value} {vs : List Value} (hc : codeAny (model x.prog x.w) A (.call f ⟨vs, []⟩) (CPost x L lo ρ h s y h') s) : wpAny (model x.prog x.w) A (call f vs) (XPost x L lo ρ h s y h') noE s :=
  wpAny_call (codeAny_mono hc fun r s' z => z.elim fun v z => z.1 ▸ z.2)

/-- an object of a class is made -/
theorem inst_made (hx : CxOk4 x) (C : CalleeOk x n c) (R : Room n A) (Ev : x.H0.get? L = none) (G : Good x env sl m L cs lo ρ h s.heap) {k Ci init : Nat} {v : Value} {as : List V} {vs : List Value} {h' : H}
    (hk : kind k = some (.cls Ci init)) (hv : gval x.K k = some v) (e : c init (.loc h.length :: as) (h ++ [.inst Ci []]) = some (.non, h')) (ra : RelL x okF ρ h s.heap as vs) :
    wpAny (model x.prog x.w) A (call v vs) (XPost x L lo ρ h s (.loc h.length) h') noE s := by
  obtain ⟨Ca, f, rfl, hC, hi, hf, hfn⟩ := hx.cl k Ci init v hk hv
  have X := hx.X.keeps (static_keep G)
  have ok := hx.cls Ci Ca hC
  have kk : ∀ b o, s.heap.get? b = some o → ((s.heap.push emptyDict).push (instObj Ca s.heap.objs.size)).get? b = some o := fun b o e => Heap.get?_push_of_some _ (Heap.get?_push_of_some _ e)
  have s1 : (s.heap.push emptyDict).objs.size = s.heap.objs.size + 1 := Heap.size_push ..
  have sz : ((s.heap.push emptyDict).push (instObj Ca s.heap.objs.size)).objs.size = s.heap.objs.size + 1 + 1 := (Heap.size_push ..).trans (congrArg Nat.succ s1)
  have gx : ((s.heap.push emptyDict).push (instObj Ca s.heap.objs.size)).get? (s.heap.objs.size + 1) = some (instObj Ca s.heap.objs.size) := s1 ▸ Heap.get?_push_size (s.heap.push emptyDict) (o := instObj Ca s.heap.objs.size) rfl
  have gd : ((s.heap.push emptyDict).push (instObj Ca s.heap.objs.size)).Ns s.heap.objs.size fun _ => none := (Heap.Ns.new s.heap (.type "dict")).keeps fun b o e => Heap.get?_push_of_some _ e
  have l1 : s.heap.objs.size + 1 < ((s.heap.push emptyDict).push (instObj Ca s.heap.objs.size)).objs.size := sz ▸ Nat.lt_succ_self _
  have Al := G.alloc kk (s.heap.objs.size + 1, s.heap.objs.size) (.inst Ci []) (Nat.le_of_lt (Nat.lt_of_succ_lt l1)) (Nat.le_succ _) (Nat.le_refl _) l1 (Nat.lt_of_succ_lt l1)
    fun T => ⟨Ca, _, hC, gx, gd, fun q r e => ⟨fun y hy => nn hy, fun _ => rfl⟩, [], 0, Heap.get?_push_of_some _ (Heap.get?_push_size _ rfl), Nat.le_refl _⟩
  have G1 := G.next Al.1
  refine wpAny_call ?_
  obtain ⟨hh, g, d, t, os⟩ := s
  refine make_core (makes_of X ok.make) (looks_findIn X hi) (fun self => bind_fn X self (beq_iff_eq.mp hfn)) (.inl rfl) ?_
  refine codeAny_mono (C.fn (s := ⟨(hh.push emptyDict).push (instObj Ca hh.objs.size), g, d, t, os⟩) (R.makeC _ _) Ev G1 e hf (.mk Al.2 (ra.res Al.1 G))) fun r s' z => ?_
  obtain ⟨v, rfl, ρ', hp, t', rfl, r2, q2⟩ := z
  exact rel_non q2 ⟨rfl, ρ', hp, t', rfl, Al.1.trans r2, Al.2.res r2 G1⟩

@[elab_as_elim] theorem made_el {P : V → H → Prop} {o : Option (V × H)} {l : Nat} {y : V} {h' : H} (e : made o l = some (y, h')) (k : ∀ h2, o = some (.non, h2) → P (.loc l) h2) : P y h' :=
  onP_el e fun u h2 e2 e => if_el e fun q e => pair_el e (k h2 ((show u = .non from isNone_eq q) ▸ e2))
theorem callV_sound (hx : CxOk4 x) (C : CalleeOk x n c) (R : Room n A) (Ev : x.H0.get? L = none) (G : Good x env sl m L cs lo ρ h s.heap) {fv : V} {v : Value} {as : List V} {vs : List Value} {y : V} {h' : H}
    (e : callV kind c fv as h = some (y, h')) (r : Rel x okF ρ h s.heap fv v) (ra : RelL x okF ρ h s.heap as vs) : wpAny (model x.prog x.w) A (call v vs) (XPost x L lo ρ h s y h') noE s := by
  cases fv with
  | fn k =>
    refine onS_el e fun kd hk e => ?_
    cases kd with
    | fn => exact (hx.fn k v hk r).elim fun f q => q.1 ▸ cpost_wp (C.fn R.toC Ev G e q.2 ra)
    | cls Ci init => exact made_el (show made (c init (.loc h.length :: as) (h ++ [.inst Ci []])) h.length = some (y, h') from e) fun h2 e2 => inst_made hx C R Ev G hk r e2 ra
    | bi b => exact hx.bi k b v hk r ▸ bi_call hx.toCxOk R Ev e G ra
  | clo k cap => exact r.elim fun a r => r.elim fun cvs r => r.1 ▸ cpost_wp (C.clo R.toC Ev G e ra r.2.1 r.2.2)
  | _ => exact nn e

/-! ### the calls' texts -/
theorem evalArgs_nil4 {M : Model} {E : Value → Shared → Prop} {f : Value} {Q : Args → Shared → Prop}
    (h : wpAny M A (spliced []) (fun vs s' => Q ⟨vs, []⟩ s') E s) : wpAny M A (evalArgs f true [] []) Q E s := by
  unfold evalArgs
  show wpAny M A (spliced [] >>= _) Q E s
  refine wpAny_bind (wpAny_mono h (fun vs s' h' => ?_) fun _ _ x => x)
  refine wpAny_holding ?_
  exact wpAny_bind (wpAny_pure (wpAny_bind (wpAny_pure (wpAny_pure h'))))
theorem callWith_any {M : Model} {E : Value → Shared → Prop} {P : Heap → Prop} {Q : Value → Shared → Prop} {pos : Pos} {f : Value} {first : List Value} {es : List Expr} (hs : ∀ e ∈ es, isStarE e = false)
    (hk : ∀ h, P h → ∃ k, (k = Keeper.frame ∨ k = Keeper.machine ∨ k = Keeper.boundFrame) ∧ Looks M h (keeperOf f) k)
    (h : wpAny M A (spliced (backTo pos (starEach es env))) (fun vs s₁ => P s₁.heap ∧ wpAny M A (call f (first ++ vs)) Q E s₁) E s) : wpAny M A (callWith pos f first (backTo pos (starEach es env)) []) Q E s := by
  have pl : ((backTo pos (starEach es env)).any (·.1) || ([] : List (Option Str × Sem Value)).any (·.1.isNone)) = false := by rw [(noStar env pos es hs).1]; rfl
  refine callWith_of (P := P) pl hk ?_
  cases es with
  | nil =>
    exact evalArgs_nil4 h
  | cons e r =>
    rw [starEach_cons (hs e (.head _))] at h ⊢
    exact evalArgs_plain h

/-- the value keeps its frame (or is the machine's) -/
def KeepsAt (M : Model) (f : Value) (h : Heap) : Prop := ∃ k, (k = Keeper.frame ∨ k = Keeper.machine ∨ k = Keeper.boundFrame) ∧ Looks M h (keeperOf f) k
theorem keeps_nonref {M : Model} {f : Value} {h : Heap} (hf : nonRef f = true) : KeepsAt M f h := by
  refine ⟨.machine, .inr (.inl rfl), ?_⟩
  cases f <;> first | exact ff hf | exact .now
theorem keeps_rel (hx : CxOk4 x) (G : Good x env sl m L cs lo ρ h s.heap) {fv : V} {v : Value} (r : Rel x okF ρ h s.heap fv v) (hc : (∃ k, fv = .fn k) ∨ ∃ k l, fv = .clo k l) : KeepsAt (model x.prog x.w) v s.heap := by
  rcases hc with ⟨k, rfl⟩ | ⟨k, l, rfl⟩
  · exact (hx.keep k v r).elim (fun q => keeps_K q _ (hx.X.keeps (static_keep G))) keeps_nonref
  · obtain ⟨a, vs, rfl, _, ⟨⟨oc, od, dd, sl⟩, fd, ho, hd, _⟩, _⟩ := r
    cases hd
    exact keeps_F s.heap ⟨oc, od, fd, sl, ho⟩
theorem keeps_fnAddr (hx : CxOk4 x) (G : Good x env sl m L cs lo ρ h s.heap) {k : Nat} {f : Addr} (e : fnAddr x.K k = some f) : KeepsAt (model x.prog x.w) (.ref f) s.heap := keeps_K (hx.fkeep k f e) _ (hx.X.keeps (static_keep G))
theorem callV_kind {c : Callee} {fv : V} {as : List V} {h : H} {r : V × H} (e : callV kind c fv as h = some r) : (∃ k, fv = .fn k) ∨ ∃ k l, fv = .clo k l := by
  cases fv with
  | fn k => exact .inl ⟨_, rfl⟩
  | clo k l => exact .inr ⟨_, _, rfl⟩
  | _ => exact nn e
end
end Mine
end

section
namespace Mine
open PySem PySem.W PySem.Calls PyProof.Rows

def MtRel (x : Cx) (ρ : Rho) (h : H) (hp : Heap) (v : Value) : Mt → Value × List Value → Prop
  | .fn k l, fx => ∃ f, fx = (.ref f, [v]) ∧ fnAddr x.K k = some f ∧ Rel x okF ρ h hp (.loc l) v
  | .val y, fx => ∃ u, fx = (u, []) ∧ Rel x okF ρ h hp y u
  | .bi me l b, fx => fx = (.builtin (biId b me), [v]) ∧ Rel x okF ρ h hp (.loc l) v

noncomputable def meName (m : Me) : String := match m with
  | .append => "append" | .pop => "pop" | .reverse => "reverse" | .index => "index" | .get => "get"
theorem mem_lookup {α β : Type} [BEq α] [LawfulBEq α] {l : List (α × β)} {n : α} {k : β} (h : l.lookup n = some k) : (n, k) ∈ l := by
  induction l with
  | nil => cases h
  | cons p r ih =>
    rw [List.lookup_cons] at h
    cases q : n == p.1 with
    | true =>
      rw [q] at h
      exact List.mem_cons.mpr (.inl (by rw [eq_of_beq q]; exact (Option.some.inj h) ▸ rfl))
    | false => rw [q] at h; exact .tail _ (ih h)
theorem meTab_name {n : Nat} {me : Me} {q : Str} (e : meTab n = some me) (hq : attrS n = some q) : q = Str.ofString (meName me) := by
  have all : meL.all (fun p => attrS p.1 == some (Str.ofString (meName p.2))) = true := by decide +kernel
  exact Option.some.inj (hq.symm.trans (eq_of_beq (List.all_eq_true.mp all _ (mem_lookup e))))

section
variable {x : Cx} {env : Env} {sl : List Str} {m : Loc} {L lo : Addr} {cs : List Addr} {ρ ρ' : Rho} {h h' h1 : H} {A : Around} {s : Shared} {n : Nat} {hp' : Heap} {c : Callee} {ns : NS} {a : X} {l : List X} {es : List Expr} {F : Expr} {pos apos : Pos}

theorem MtRel.res {hp : Heap} {v : Value} {t : Mt} {fx : Value × List Value} (r : Res x L lo ρ h hp ρ' h' hp') (G : Good x env sl m L cs lo ρ h hp) (e : MtRel x ρ h hp v t fx) : MtRel x ρ' h' hp' v t fx := by
  cases t with
  | fn k l => obtain ⟨f, a, b, d⟩ := e; exact ⟨f, a, b, d.res r G⟩
  | val y => obtain ⟨u, a, b⟩ := e; exact ⟨u, a, b.res r G⟩
  | bi me l b => exact ⟨e.1, e.2.res r G⟩

theorem list_method {E : Value → Shared → Prop} {Q : Value × List Value → Shared → Prop} {pl : Sem Bool} {p : Addr} {vs : Array Value} {e : Nat} {name : Str} {id : String} (il : IsL s.heap p vs e) (slot : Slot "list" name id) (hty : typeOf (.builtin id) = pure (.type "method_descriptor"))
    (h : Q (.builtin id, [.ref p]) s) : wpAny (model x.prog x.w) A (getMethod (.ref p) name pl) Q E s :=
  getMethod_builtin il.isList.typeIs PySem.F.plainAttrs_list slot hty (fun a e => by cases e; exact ⟨_, il, rfl⟩) h
theorem dict_method {E : Value → Shared → Prop} {Q : Value × List Value → Shared → Prop} {pl : Sem Bool} {p : Addr} {kvs : List (Int × Value)} {name : Str} {id : String} (d : s.heap.DictOf (intKind x.prog x.w) p kvs) (slot : Slot "dict" name id) (hty : typeOf (.builtin id) = pure (.type "method_descriptor"))
    (h : Q (.builtin id, [.ref p]) s) : wpAny (model x.prog x.w) A (getMethod (.ref p) name pl) Q E s :=
  getMethod_builtin d.typeIs PySem.F.plainAttrs_dict slot hty d.mapOf.noDict h

theorem getMeth_sound {E : Value → Shared → Prop} (hx : CxOk4 x) (G : Good x env sl m L cs lo ρ h s.heap) {o : V} {v : Value} {nm : Nat} {q : Str} {t : Mt} (r : Rel x okF ρ h s.heap o v) (e : getMeth meTab clsMeth o nm h = some t) (hq : attrS nm = some q)
    (pl : Sem Bool) {Q : Value × List Value → Shared → Prop} (hQ : ∀ fx tk, MtRel x ρ h s.heap v t fx → Q fx { s with toks := tk }) : wpAny (model x.prog x.w) A (getMethod v q pl) Q E s := by
  refine vL_el e fun k qk e => onS_el e fun ob eo e => ?_
  have r : Rel x okF ρ h s.heap (.loc k) v := qk ▸ r
  cases ob with
  | inst C fs =>
    have e : instMeth nm k fs (clsMeth C nm) = some t := e
    have X := hx.X.keeps (static_keep G)
    cases hm : clsMeth C nm with
    | some kf =>
      rw [hm] at e
      refine if_el e fun hn e => ?_
      cases e
      revert hQ
      refine inst_el G eo r fun p Ca fm od hp e1 e3 e4 I hl hQ => ?_
      have O := hx.cls C Ca e1
      obtain ⟨f, f1, f2, f3⟩ := O.me nm q kf hq hm
      exact method_fn X I (plainGet_of O.get).1 (plainGet_of O.get).2 f1 (beq_iff_eq.mp f3) ((congrArg (Option.map _) (hl q)).trans (by rw [(e4 nm q hq).2 (Option.isNone_iff_eq_none.mp hn)]; rfl)) (hQ _ s.toks ⟨f, rfl, f2, p, hp, rfl⟩)
    | none =>
      rw [hm] at e
      refine onS_el e fun y hy e => ?_
      cases e
      have ga := getAttr_sound (A := A) (E := E) (expr := false) hx.toCxOk2 G eo r hq hm hy (Q := fun u s' => Q (u, []) s') fun v' rv => hQ (v', []) _ ⟨v', rfl, rv⟩
      revert hQ ga
      refine inst_el G eo r fun p Ca fm od hp e1 e3 e4 I hl hQ ga => ?_
      have O := hx.cls C Ca e1
      exact method_usual X I (plainGet_of O.get).1 (plainGet_of O.get).2 (O.no nm q hq hm) rfl ga
  | list l' =>
    refine onS_el e fun me hme e => if_el e fun hon e => ?_
    cases e
    cases meTab_name hme hq
    have G2 : ∀ p vs ep, IsL s.heap p vs ep → v = .ref p → wpAny (model x.prog x.w) A (getMethod (.ref p) (Str.ofString (meName me)) pl) Q E s := fun p vs ep il qv => by
      subst qv
      cases me with
      | append => exact list_method il PySem.F.slot_list_append PySem.F.type_list_append (hQ _ s.toks ⟨rfl, r⟩)
      | pop => exact list_method il PySem.F.slot_list_pop PySem.F.type_list_pop (hQ _ s.toks ⟨rfl, r⟩)
      | reverse => exact list_method il PySem.F.slot_list_reverse PySem.F.type_list_reverse (hQ _ s.toks ⟨rfl, r⟩)
      | index => exact list_method il PySem.F.slot_list_index PySem.F.type_list_index (hQ _ s.toks ⟨rfl, r⟩)
      | get => exact ff hon
    exact r.elim fun p hp => (G.sim.obj k p _ hp.1 eo).elim fun vs o => o.elim fun ep o => hp.2 ▸ G2 _ _ _ o.1 hp.2
  | dict kv =>
    refine onS_el e fun me hme e => if_el e fun hon e => ?_
    cases e
    cases meTab_name hme hq
    have G2 : ∀ p kvs, s.heap.DictOf (intKind x.prog x.w) p kvs → v = .ref p → wpAny (model x.prog x.w) A (getMethod (.ref p) (Str.ofString (meName me)) pl) Q E s := fun p kvs dof qv => by
      subst qv
      cases me with
      | pop => exact dict_method dof PySem.F.slot_dict_pop PySem.F.type_dict_pop (hQ _ s.toks ⟨rfl, r⟩)
      | get => exact dict_method dof PySem.F.slot_dict_get PySem.F.type_dict_get (hQ _ s.toks ⟨rfl, r⟩)
      | _ => exact ff hon
    exact r.elim fun p hp => (G.sim.obj k p _ hp.1 eo).elim fun kvs o => hp.2 ▸ G2 _ _ o.1 hp.2
  | _ => exact nn e

theorem callMt_sound (hx : CxOk4 x) (C : CalleeOk x n c) (R : Room n A) (Ev : x.H0.get? L = none) (G : Good x env sl m L cs lo ρ h s.heap) {v : Value} {t : Mt} {fx : Value × List Value} {as : List V} {vs : List Value} {y : V} {h' : H}
    (e : callMt kind c t as h = some (y, h')) (r : MtRel x ρ h s.heap v t fx) (ra : RelL x okF ρ h s.heap as vs) : wpAny (model x.prog x.w) A (call fx.1 (fx.2 ++ vs)) (XPost x L lo ρ h s y h') noE s := by
  cases t with
  | fn k l =>
    obtain ⟨f, rfl, hf, rl⟩ := r
    exact cpost_wp (C.fn R.toC Ev G e hf ⟨v, vs, rfl, rl, ra⟩)
  | val u =>
    obtain ⟨w, rfl, rw'⟩ := r
    exact callV_sound hx C R Ev G e rw' ra
  | bi me k b =>
    obtain ⟨rfl, rl⟩ := r
    exact if_el e fun hb e => bi_meth hx.toCxOk R e hb G rl ra
theorem keeps_mt (hx : CxOk4 x) (G : Good x env sl m L cs lo ρ h s.heap) {v : Value} {t : Mt} {fx : Value × List Value} {as : List V} {r : V × H} (e : callMt kind c t as h = some r) (rm : MtRel x ρ h s.heap v t fx) : KeepsAt (model x.prog x.w) fx.1 s.heap := by
  cases t with
  | fn k l => obtain ⟨f, rfl, hf, rl⟩ := rm; exact keeps_fnAddr hx G hf
  | val u => obtain ⟨w, rfl, rw'⟩ := rm; exact keeps_rel hx G rw' (callV_kind e)
  | bi me k b => obtain ⟨rfl, rl⟩ := rm; exact keeps_nonref rfl

theorem nameE {P : Expr → Prop} {F : Expr} (h : isNameE F = true) (k : ∀ q p, P (.Name q p)) : P F := PySem.Expr.Name.elim (motive_1 := P) F (eq_of_beq h) k
theorem x_call (hx : CxOk4 x) (C : CalleeOk x n c) (hn : isNameE F = true) (hst : ∀ e ∈ es, isStarE e = false) (H1 : XOk x n c ns sl a F) (H2 : XsOk x n c ns sl l es) : XOk x n c ns sl (.call a l) (.Call F es [] pos) := by
  revert H1
  refine nameE (P := fun F => XOk x n c ns sl a F → XOk x n c ns sl (.call a l) (.Call F es [] pos)) hn fun id p H1 => ?_
  intro A env L lo cs m h y h' ρ s R Ev e G
  refine onP_el (evalX_call.symm.trans e) fun fv h1 e1 e => onP_el e fun vs h2 e2 e => ?_
  rw [arm_eval_Call_Name']
  refine wpAny_bind (H1.seq R Ev e1 G fun ρ1 hp1 t1 v r1 q1 => ?_)
  have G1 := G.next r1
  refine callWith_any (P := KeepsAt (model x.prog x.w) v) hst (fun h p => p) (H2.seq R Ev e2 G1 fun ρ2 hp2 t2 vs' r2 q2 => ?_)
  have G2 := G1.next r2
  have q1' := q1.res r2 G1
  exact ⟨keeps_rel (s := { s with heap := hp2, toks := t2 }) hx G2 q1' (callV_kind e), wpAny_mono (callV_sound (s := { s with heap := hp2, toks := t2 }) hx C R Ev.st G2 e q1' q2) (fun _ _ p => p.after (r1.trans r2)) fun _ _ e => e⟩

theorem x_meth (hx : CxOk4 x) (C : CalleeOk x n c) {nm : Nat} {q : Str} (hq : attrS nm = some q) (hc : isCallE F = false) (hline : (apos.endLine == pos.line) = true) (hlen : es.length < 30) (hst : ∀ e ∈ es, isStarE e = false) (H1 : XOk x n c ns sl a F) (H2 : XsOk x n c ns sl l es) :
    XOk x n c ns sl (.meth a nm l) (.Call (.Attribute F q apos) es [] pos) := by
  intro A env L lo cs m h y h' ρ s R Ev e G
  refine onP_el (evalX_meth.symm.trans e) fun ov h1 e1 e => onS_el e fun t et e => onP_el e fun vs h2 e2 e => ?_
  rw [arm_eval_Call, attr_plain hc]
  refine wpAny_bind (H1.seq R Ev e1 G fun ρ1 hp1 t1 v r1 q1 => wpAny_bind (wpAny_standAt ?_))
  have G1 := G.next r1
  have al : (backTo pos (starEach es env)).all (!·.1) = true := List.all_eq_true.mpr fun p hp => by
    rw [Bool.not_eq_true']; exact Bool.eq_false_iff.mpr (List.any_eq_false.mp (noStar env pos es hst).1 p hp)
  have hform : methodCallForm (es.length + ([] : List Keyword).length) (backTo pos (starEach es env)) (backToKw pos (keywordEach [] env)) = true := by
    unfold methodCallForm
    rw [al]
    exact decide_eq_true hlen
  have hpos : methodCallPos true F env apos pos = pure pos := by unfold methodCallPos; rw [hline]; rfl
  unfold methodCall
  rw [hform]
  refine wpAny_bind (wpAny_holding (getMeth_sound (s := { s with heap := hp1, toks := t1 }) hx G1 q1 et hq _ fun fx tk mr => wpAny_bind (wpAny_of_eq hpos ?_)))
  refine callWith_any (P := KeepsAt (model x.prog x.w) fx.1) hst (fun h p => p) (H2.seq (s := { s with heap := hp1, toks := tk }) R Ev e2 G1 fun ρ2 hp2 t2 vs' r2 q2 => ?_)
  have G2 := G1.next r2
  have mr' := mr.res r2 G1
  exact ⟨keeps_mt (s := { s with heap := hp2, toks := t2 }) hx G2 e mr', wpAny_mono (callMt_sound (s := { s with heap := hp2, toks := t2 }) hx C R Ev.st G2 e mr' q2) (fun _ _ p => p.after (r1.trans r2)) fun _ _ e => e⟩
end
end Mine
end

section
namespace Mine
open PySem PySem.W PySem.Calls PyProof.Rows

/-! ### iterators -/
inductive ItK where
  | list (a : Addr) | tup (a : Addr) | rng (n : Int)
def ItAt (hp : Heap) (I : Addr) : ItK → Nat → Prop
  | .list a, i => hp.IsListIter I a i
  | .tup a, i => hp.IsTupleIter I a i
  | .rng n, i => IsRangeIter hp I (0 + (i : Nat) * 1) (n - (i : Nat)) 1
def ItOf (y : V) (v : Value) (k : ItK) : Prop := match y with
  | .lst _ => ∃ a, k = .list a ∧ v = .ref a
  | .loc _ => ∃ a, k = .list a ∧ v = .ref a
  | .tup _ => ∃ a, k = .tup a ∧ v = .ref a
  | .rng n => k = .rng n.toNat
  | _ => False
noncomputable def itElems (y : V) (h : H) : Option (List V) := match y with
  | .tup l => some l
  | .rng n => some ((List.range n.toNat).map fun (i : Nat) => V.int i)
  | v => listOf v h
theorem iterOf_elems {y : V} {ys : List V} (h : H) (e : iterOf y = some ys) : itElems y h = some ys := by
  cases y <;> first | exact e | exact nn e

theorem range_size (nn : Int) : Builtin.Range.rangeSize 0 nn 1 = (nn.toNat : Int) := by
  simp only [Builtin.Range.rangeSize]; split <;> (try split) <;> simp <;> lia
theorem fits_long {i : Int} (h : i.natAbs < 2 ^ 60) : Builtin.Range.rangeFitsLong i = true := by
  unfold Builtin.Range.rangeFitsLong
  rw [Bool.and_eq_true, decide_eq_true_eq, decide_eq_true_eq]
  lia
theorem range_small (nn : Int) (hb : nn.natAbs < 2 ^ 60) : Builtin.Range.small 0 nn 1 = true := by
  have h2 : (nn + (1 - 1)).natAbs < 2 ^ 60 := (Int.add_zero nn).symm ▸ hb
  have h3 : ((nn.toNat : Int)).natAbs < 2 ^ 60 := by lia
  unfold Builtin.Range.small
  rw [range_size, fits_long hb, fits_long h3, if_pos (by decide), fits_long h2, fits_long (i := 0) (by decide), fits_long (i := 1) (by decide), Bool.or_true]
  rfl
theorem int_step (i : Nat) (n : Int) : (0 : Int) + ((i + 1 : Nat) : Int) * 1 = 0 + (i : Nat) * 1 + 1 ∧ n - ((i + 1 : Nat) : Int) = n - (i : Nat) - 1 ∧ (0 : Int) + (i : Nat) * 1 = (i : Int) := by lia
theorem itAt_mov {hp : Heap} {I : Addr} {k : ItK} {i : Nat} (e : ItAt hp I k i) : ∃ o, hp.get? I = some o ∧ Mov o := by
  have quiet : ∀ {T : String} {vs : Array Value}, (Value.type T == Value.type "range") = false → (∀ q t, vs[1]? ≠ some (.str q t)) → (∃ o, hp.get? I = some o ∧ o.cls = .type T ∧ o.data = .fields vs) → ∃ o, hp.get? I = some o ∧ Mov o := fun h1 h2 e =>
    e.elim fun o e => ⟨o, e.1, .inr ⟨_, e.2.2, by rw [e.2.1]; exact ne_of_beq_false h1, h2⟩⟩
  cases k with
  | list a => exact quiet (by decide) (fun _ _ => by simp) e
  | tup a => exact quiet (by decide) (fun _ _ => by simp) e
  | rng n => exact quiet (T := "range_iterator") (by decide) (fun _ _ => by simp [rawInt]) ⟨_, e, rfl, rfl⟩
theorem itAt_keep {hp hp' : Heap} {I : Addr} {k : ItK} {i : Nat} (e : ItAt hp I k i) (q : ∀ o, hp.get? I = some o → hp'.get? I = some o) : ItAt hp' I k i := by
  cases k with
  | list a => obtain ⟨o, ho, r⟩ := e; exact ⟨o, q o ho, r⟩
  | tup a => obtain ⟨o, ho, r⟩ := e; exact ⟨o, q o ho, r⟩
  | rng n => exact q _ e

section
variable {x : Cx} {ok : FdOk} {env : Env} {sl : List Str} {m : Loc} {L lo : Addr} {cs : List Addr} {ρ ρ' : Rho} {h h' h1 : H} {A : Around} {s : Shared} {n : Nat} {hp hp' : Heap} {c : Callee} {E : Value → Shared → Prop}

theorem iter_start (G : Good x env sl m L cs lo ρ h s.heap) {y : V} {v : Value} {ys : List V} (r : Rel x okF ρ h s.heap y v) (e : itElems y h = some ys) {Q : Value → Shared → Prop}
    (hQ : ∀ o k, ItAt (s.heap.push o) s.heap.objs.size k 0 → ItOf y v k → Q (.ref s.heap.objs.size) { s with heap := s.heap.push o }) : wpAny (model x.prog x.w) A (pyIter v) Q E s := by
  have lists : ∀ {l : List V}, listOf y h = some l → (∀ a, v = .ref a → ItOf y v (.list a)) → wpAny (model x.prog x.w) A (pyIter v) Q E s := fun {l} el io => by
    revert io hQ
    exact list_at G el r fun a vs k il _ _ hQ io => wpAny_pyIter_list il.isList (hQ _ (.list a) ⟨_, Heap.get?_push_size _ rfl, rfl, rfl⟩ (io a rfl))
  cases y with
  | tup l =>
    revert hQ
    exact rel_tup r fun a vs it _ _ _ hQ => wpAny_pyIter_tuple it (hQ _ (.tup a) ⟨_, Heap.get?_push_size _ rfl, rfl, rfl⟩ ⟨a, rfl, rfl⟩)
  | rng nn =>
    obtain ⟨a, t1, t2, t3, rfl, ir, _, hb⟩ := r
    refine wpAny_pyIter_range ir (range_small nn hb) ?_
    rw [range_size]
    exact hQ _ (.rng nn.toNat) (Heap.get?_push_size _ rfl) rfl
  | lst l => exact lists e fun a q => ⟨a, rfl, q⟩
  | loc k => exact lists e fun a q => ⟨a, rfl, q⟩
  | _ => exact nn e

theorem it_next (hh : A.handled = none) (G : Good x env sl m L cs lo ρ h s.heap) {y : V} {v : Value} {k : ItK} {I : Addr} {i : Nat} {ys : List V} (r : Rel x okF ρ h s.heap y v) (io : ItOf y v k) (ia : ItAt s.heap I k i) (e : itElems y h = some ys)
    {Q : Option Value → Shared → Prop}
    (item : ∀ z u hp' tk, ys[i]? = some z → Rel x okF ρ h s.heap z u → ItAt hp' I k (i + 1) → Heap.SameBut I s.heap hp' → Q (some u) { s with heap := hp', toks := tk })
    (fin : ∀ hp', ys[i]? = none → Heap.ExtBut I s.heap hp' → s.heap.objs.size ≤ hp'.objs.size → Q none { s with heap := hp' }) : wpAny (model x.prog x.w) A (pyNext (.ref I)) Q E s := by
  have out : ∀ {vs : List Value}, RelL x okF ρ h s.heap ys vs → ys[i]? = none → vs.toArray[i]? = none := fun {vs} rl q => by
    rw [List.getElem?_toArray, List.getElem?_eq_none_iff, ← relL_length rl]; exact List.getElem?_eq_none_iff.mp q
  have lists : ∀ {a : Addr}, listOf y h = some ys → v = .ref a → k = .list a → wpAny (model x.prog x.w) A (pyNext (.ref I)) Q E s := fun {a} el hv hk => by
    subst hk
    revert hv
    refine list_at G el r fun a' vs k' il _ rl hv => ?_
    cases hv
    cases q : ys[i]? with
    | some z => exact (relL_get rl q).elim fun u hu => wpAny_pyNext_list_item ia il.isList (List.getElem?_toArray.trans hu.1) fun hp' i1 sb => item z u hp' s.toks q hu.2 i1 sb
    | none => exact with_size (wpAny_pyNext_list_end hh ia il.isList (out rl q) fun hp' xb z => fin hp' q xb z)
  cases y with
  | tup l =>
    obtain ⟨a, rfl, hv⟩ := io
    revert hv
    refine rel_tup r fun a' vs it _ _ rl hv => ?_
    cases hv
    have rl : RelL x okF ρ h s.heap ys vs := Option.some.inj e ▸ rl
    cases q : ys[i]? with
    | some z => exact (relL_get rl q).elim fun u hu => wpAny_pyNext_tuple_item ia it (List.getElem?_toArray.trans hu.1) fun hp' i1 sb => item z u hp' s.toks q hu.2 i1 sb
    | none => exact with_size (wpAny_pyNext_tuple_end hh ia it (out rl q) fun hp' xb z => fin hp' q xb z)
  | rng nn =>
    cases io
    have e : ys = (List.range nn.toNat).map fun (i : Nat) => V.int i := (Option.some.inj e).symm
    have ia : IsRangeIter s.heap I (0 + (i : Nat) * 1) ((nn.toNat : Int) - (i : Nat)) 1 := ia
    by_cases hi : i < nn.toNat
    · refine wpAny_pyNext_range_item ia (by lia) fun hp' i1 sb => ?_
      refine item (.int i) _ hp' _ (by rw [e, List.getElem?_map, List.getElem?_range hi]; rfl) ⟨_, by rw [(int_step i 0).2.2]⟩ ?_ sb
      show IsRangeIter hp' I (0 + ((i + 1 : Nat) : Int) * 1) ((nn.toNat : Int) - ((i + 1 : Nat) : Int)) 1
      rw [(int_step i 0).1, (int_step i nn.toNat).2.1]
      exact i1
    · exact with_size (wpAny_pyNext_range_end hh ia (by lia) fun hp' xb z => fin hp' (by rw [e, List.getElem?_eq_none_iff, List.length_map, List.length_range]; exact Nat.not_lt.mp hi) xb z)
  | lst l => exact io.elim fun a io => lists e io.2 io.1
  | loc n => exact io.elim fun a io => lists e io.2 io.1
  | _ => exact io.elim

/-- own things of the frame are written, temporaries are made -/
theorem Sim.mv (S : Sim x okF ρ h hp) (F : FrOk L cs lo ρ h hp) (k : ∀ b o, b ≠ L → b ∉ cs → hp.get? b = some o → hp'.get? b = some o) (z : hp.objs.size ≤ hp'.objs.size) (hL : x.H0.get? L = none) (hcs : ∀ c ∈ cs, x.H0.get? c = none) :
    Sim x okF ρ h hp' ∧ Step L cs lo ρ h hp ρ h hp' := by
  have T : Step L cs lo ρ h hp ρ h hp' := ⟨List.prefix_rfl, fun _ e => e, fun _ e => .inl e, z, fun b ob h1 h2 e n => k b ob h1 h2 e, fun b _ n e => n e⟩
  have no : ∀ {b}, owned ρ h b → b ≠ L ∧ b ∉ cs := fun e => ⟨fun q => F.no (q ▸ e), fun q => (F.cell _ q).2.1 e⟩
  refine ⟨⟨S.len, fun j q o1 hj ho1 => ?_, S.disj, fun j q hj => ⟨Nat.lt_of_lt_of_le (S.lt j q hj).1 z, Nat.lt_of_lt_of_le (S.lt j q hj).2 z⟩, fun c e => Nat.lt_of_lt_of_le (S.clt c e) z, fun b ob e => ?_⟩, T⟩
  · by_cases l1 : o1.live = true
    · obtain ⟨⟨o2, e1⟩, e2⟩ := S.at1 hj ho1 l1
      have n1 := no ⟨j, q, o1, hj, ho1, l1, .inl rfl⟩
      have n2 := no ⟨j, q, o1, hj, ho1, l1, .inr rfl⟩
      exact (S.obj j q o1 hj ho1).move1 T F ((k _ _ n1.1 n1.2 e1).trans e1.symm) (e2.elim (fun ⟨o2, e⟩ => .inr ((k _ _ n2.1 n2.2 e).trans e.symm)) .inl)
    · cases o1 <;> first | exact absurd rfl l1 | trivial
  · have := S.static b ob e
    exact ⟨k _ _ (fun q => by rw [q, hL] at e; cases e) (fun q => by rw [hcs b q] at e; cases e) this.1, this.2⟩

/-- what a loop's own iterator adds falls away at its end -/
theorem Step.drop {I : Addr} (S : Step L (I :: cs) lo ρ h hp ρ' h' hp') (hI : hp.objs.size ≤ I) : Step L cs lo ρ h hp ρ' h' hp' :=
  { S with keep := fun b o h1 h2 e n => S.keep b o h1 (fun q => (List.mem_cons.mp q).elim (fun z => Nat.lt_irrefl _ (Nat.lt_of_lt_of_le (Heap.lt_size e) (z ▸ hI))) h2) e n }
theorem Step.lower {lo' : Addr} (S : Step L cs lo' ρ h hp ρ' h' hp') (hl : lo ≤ lo') : Step L cs lo ρ h hp ρ' h' hp' :=
  { S with cnew := fun c e => (S.cnew c e).imp id (Nat.le_trans hl) }
theorem Step.more {cs' : List Addr} (S : Step L cs lo ρ h hp ρ' h' hp') (hc : ∀ c ∈ cs, c ∈ cs') : Step L cs' lo ρ h hp ρ' h' hp' :=
  { S with keep := fun b o h1 h2 e n => S.keep b o h1 (fun q => h2 (hc b q)) e n }
theorem itElems_step {y : V} {v : Value} {k : ItK} (io : ItOf y v k) (hs : ∀ n, y ≠ .loc n) {h h' : H} {ys : List V} (e : itElems y h = some ys) : itElems y h' = some ys := by
  cases y <;> first | exact e | exact absurd rfl (hs _)
end
end Mine
end

section
set_option maxRecDepth 10000
namespace Mine
open PySem PySem.W PySem.Calls PyProof.Rows

/-! ### a comprehension's own block -/
noncomputable def clOf (cells : List (Str × Addr)) : List (Str × NameKind) → List (Str × Addr) → List (Str × Addr)
  | [], acc => acc
  | p :: r, acc => clOf cells r (if p.2 == .free then (p.1, (cells.lookup p.1).getD 0) :: acc else acc)
theorem clOf_lookup (cells : List (Str × Addr)) (names : List (Str × NameKind)) : ∀ (acc : List (Str × Addr)) (q : Str), (names.map (·.1)).Nodup → (∀ p ∈ names, acc.lookup p.1 = none) →
    ((q, NameKind.free) ∈ names → (clOf cells names acc).lookup q = some ((cells.lookup q).getD 0)) ∧ ((q, NameKind.free) ∉ names → (clOf cells names acc).lookup q = acc.lookup q) := by
  induction names with
  | nil => exact fun acc q _ _ => ⟨fun h => (nomatch h), fun _ => rfl⟩
  | cons p r ih =>
    intro acc q nd ha
    have nd' := List.nodup_cons.mp nd
    have ne : ∀ p' ∈ r, (p'.1 == p.1) = false := fun p' hp => beq_eq_false_iff_ne.mpr fun z => nd'.1 (List.mem_map.mpr ⟨p', hp, z⟩)
    obtain ⟨i1, i2⟩ := ih (if p.2 == .free then (p.1, (cells.lookup p.1).getD 0) :: acc else acc) q nd'.2 fun p' hp => by
      by_cases hf : (p.2 == .free) = true
      · rw [if_pos hf, List.lookup_cons, ne p' hp]; exact ha p' (.tail _ hp)
      · rw [if_neg hf]; exact ha p' (.tail _ hp)
    refine ⟨fun h => ?_, fun h => ?_⟩
    · refine (List.mem_cons.mp h).elim (fun e => ?_) i1
      subst e
      refine (i2 fun z => nd'.1 (List.mem_map_of_mem (f := (·.1)) z)).trans ?_
      rw [if_pos (by rfl), List.lookup_cons, beq_self_eq_true]
    · refine (i2 fun z => h (.tail _ z)).trans ?_
      by_cases hf : (p.2 == .free) = true
      · have : (q == p.1) = false := beq_eq_false_iff_ne.mpr fun z => h (by rw [z, ← eq_of_beq hf]; exact .head _)
        rw [if_pos hf, List.lookup_cons, this]
      · rw [if_neg hf]
theorem closureFor_of (scope : Scope) (env : Env) (h : ∀ p ∈ scope.names, p.2 = .free → (env.cells.lookup p.1).isSome = true) : closureFor scope env = pure (clOf env.cells scope.names []) := by
  unfold closureFor
  have gen : ∀ (names : List (Str × NameKind)) (acc : List (Str × Addr)), (∀ p ∈ names, p.2 = .free → (env.cells.lookup p.1).isSome = true) →
      (forIn names acc fun (x : Str × NameKind) (r : List (Str × Addr)) => (if (x.2 == .free) = true then do let a ← cellOf env x.1; pure (ForInStep.yield ((x.1, a) :: r)) else pure (ForInStep.yield r) : Sem (ForInStep (List (Str × Addr))))) = pure (clOf env.cells names acc) := by
    intro names
    induction names with
    | nil => intro acc _; rfl
    | cons p r ih =>
      intro acc hp
      rw [List.forIn_cons, clOf]
      by_cases hk : (p.2 == .free) = true
      · obtain ⟨a, ha⟩ := Option.isSome_iff_exists.mp (hp _ (.head _) (eq_of_beq hk))
        rw [if_pos hk, if_pos hk, ha]
        have hc : cellOf env p.1 = pure a := by unfold cellOf; rw [ha]
        rw [hc, pure_bind, pure_bind]
        exact ih _ fun p hp' => hp p (.tail _ hp')
      · rw [if_neg hk, if_neg hk, pure_bind]
        exact ih _ fun p hp' => hp p (.tail _ hp')
  have := gen scope.names [] h
  simp only [bind_pure_comp] at this ⊢
  exact (bind_pure _).trans this

noncomputable def nsK (ns : NS) (q : Str) (k : NameKind) : NameKind := if k == .free && ns.lookup q == some .cell then .cell else k
theorem compNS_eq (ns own : NS) : compNS ns own = own.map fun p => (p.1, nsK ns p.1 p.2) := by
  unfold compNS
  congr 1
  funext p
  obtain ⟨q, k⟩ := p
  unfold nsK
  dsimp only
  by_cases hc : (k == NameKind.free && ns.lookup q == some .cell) = true
  · rw [if_pos hc, if_pos hc]
  · rw [if_neg hc, if_neg hc]
theorem compNS_lookup (ns own : NS) (q : Str) : (compNS ns own).lookup q = (own.lookup q).map (nsK ns q) := by
  rw [compNS_eq]
  induction own with
  | nil => rfl
  | cons p r ih =>
    rw [List.map_cons, List.lookup_cons, List.lookup_cons]
    cases h : q == p.1 with
    | true => rw [eq_of_beq h]; rfl
    | false => exact ih
/-- what a name of the block is, seen from what it is said to be -/
theorem nsK_local {ns : NS} {q : Str} {k : NameKind} (h : nsK ns q k = .local) : k = .local := by
  unfold nsK at h
  by_cases hc : (k == NameKind.free && ns.lookup q == some .cell) = true
  · rw [if_pos hc] at h; cases h
  · rw [if_neg hc] at h; exact h
theorem nsK_cell {ns : NS} {q : Str} {k : NameKind} (h : nsK ns q k = .cell ∨ nsK ns q k = .free) : k = .cell ∨ k = .free := by
  unfold nsK at h
  by_cases hc : (k == NameKind.free && ns.lookup q == some .cell) = true
  · exact .inr (eq_of_beq (Bool.and_eq_true_iff.mp hc).1)
  · rw [if_neg hc] at h; exact h

structure CompScope (ns : NS) (x : Str) (sc : Scope) : Prop where
  kind : sc.kind = .function
  loc : sc.names.lookup x = some .local
  own : ∀ n, sc.names.lookup n = some .local → n = Str.ofString ".0" ∨ n = x
  cell : ∀ p ∈ sc.names, p.2 ≠ .cell
  free : ∀ p ∈ sc.names, p.2 = .free → ns.lookup p.1 = some .cell ∨ ns.lookup p.1 = some .free
  plain : plainName x = true
  nd : (sc.names.map (·.1)).Nodup
theorem mem_of_lookup {α : Type} {l : List (Str × α)} {n : Str} {k : α} (h : l.lookup n = some k) : (n, k) ∈ l := mem_lookup h
theorem lookup_of_mem {α : Type} {l : List (Str × α)} (nd : (l.map (·.1)).Nodup) {n : Str} {k : α} (h : (n, k) ∈ l) : l.lookup n = some k := by
  induction l with
  | nil => exact nomatch h
  | cons p r ih =>
    have nd' := List.nodup_cons.mp nd
    rw [List.lookup_cons]
    refine (List.mem_cons.mp h).elim (fun z => ?_) fun z => ?_
    · rw [← z, beq_self_eq_true]
    · rw [beq_eq_false_iff_ne.mpr fun e => nd'.1 (List.mem_map.mpr ⟨(n, k), z, e⟩)]; exact ih nd'.2 z
theorem isCellK_or {o : Option NameKind} (h : isCellK o = true) : o = some .cell ∨ o = some .free := by
  cases o with
  | none => exact ff h
  | some k => cases k <;> first | exact ff h | exact .inl rfl | exact .inr rfl
theorem compScope_of {ns : NS} {x : Str} {sc : Scope} (h : compScopeOk ns x sc = true) : CompScope ns x sc := by
  refine and_el h fun h h9 => and_el h fun h h8 => and_el h fun h h7 => and_el h fun h h6 => and_el h fun h h5 => and_el h fun h h4 => and_el h fun h h3 => and_el h fun h1 h2 => ?_
  have h6 := fun p hp => Bool.and_eq_true_iff.mp (List.all_eq_true.mp h6 p hp)
  refine ⟨eq_of_beq h1, eq_of_beq h4, fun n hn => ?_, fun p hp => bne_iff_ne.mp (h6 p hp).1, fun p hp hf => ?_, h8, of_decide_eq_true h9⟩
  · have : n ∈ [Str.ofString ".0", x] := eq_of_beq h5 ▸ List.mem_map.mpr ⟨(n, .local), List.mem_filter.mpr ⟨mem_of_lookup hn, rfl⟩, rfl⟩
    exact (List.mem_cons.mp this).imp id List.mem_singleton.mp
  · exact (Bool.or_eq_true_iff.mp (h6 p hp).2).elim (fun z => absurd hf (bne_iff_ne.mp z)) isCellK_or

section
variable {x : Cx} {env : Env} {sl : List Str} {m : Loc} {L lo : Addr} {cs : List Addr} {ρ ρ' : Rho} {h h' h1 : H} {A : Around} {s : Shared} {n : Nat} {hp hp' : Heap} {c : Callee} {ns : NS} {sc : Scope} {xq : Str}

theorem compEnv_names (Ev : EnvOk x env ns L) (sc : Scope) (C : Addr) (cl : List (Str × Addr)) : (compEnvC sc cl C env).scope.names = compNS ns sc.names := by
  show (sc.names.map _) = compNS ns sc.names
  rw [compNS_eq]
  congr 1
  funext p
  obtain ⟨q, k⟩ := p
  have : env.kindOf q = ns.lookup q := congrArg (·.lookup q) Ev.names
  unfold nsK
  dsimp only
  rw [Ev.kind, this, show (ScopeKind.function == ScopeKind.function) = true from rfl, Bool.and_true]
  by_cases hc : (k == NameKind.free && ns.lookup q == some .cell) = true
  · rw [if_pos hc, if_pos hc]
  · rw [if_neg hc, if_neg hc]
theorem comp_free (S : CompScope ns xq sc) {q : Str} (h : (compNS ns sc.names).lookup q = some .cell ∨ (compNS ns sc.names).lookup q = some .free) : (q, NameKind.free) ∈ sc.names := by
  rw [compNS_lookup] at h
  cases e : sc.names.lookup q with
  | none => rw [e] at h; exact h.elim (fun z => nn z) fun z => nn z
  | some k =>
    rw [e] at h
    have mem := mem_of_lookup e
    exact (nsK_cell (h.imp Option.some.inj Option.some.inj)).elim (fun z => absurd z (S.cell _ mem)) fun z => z ▸ mem
theorem comp_cell (S : CompScope ns xq sc) {q : Str} (h : (q, NameKind.free) ∈ sc.names) : (clOf env.cells sc.names []).lookup q = some ((env.cells.lookup q).getD 0) := (clOf_lookup env.cells sc.names [] q S.nd fun _ _ => rfl).1 h
theorem compEnv_ok (Ev : EnvOk x env ns L) (S : CompScope ns xq sc) {C : Addr} (hC : x.H0.get? C = none) : EnvOk x (compEnvC sc (clOf env.cells sc.names []) C env) (compNS ns sc.names) C where
  names := compEnv_names Ev sc C _
  kind := S.kind
  glob := Ev.glob
  bi := Ev.bi
  loc := rfl
  st := hC
  cells := fun q hq => Option.isSome_iff_exists.mpr ⟨_, comp_cell S (comp_free S hq)⟩

/-- the names of the comprehension's block -/
theorem comp_names (Ev : EnvOk x env ns L) (S : CompScope ns xq sc) (hsl : sl.Nodup) (h0 : Str.ofString ".0" ∉ sl) (G : Good x env sl m L cs lo ρ h hp) {v : Nat} (hv : sl[v]? = some xq) {C : Addr} {z : V} {u : Value} (r : Rel x okF ρ h hp z u) {fm : Str → Option Value} :
    ∀ (i : Nat) q y, sl[i]? = some q → (m.set v (some z))[i]? = some (some y) → Bears x (compEnvC sc (clOf env.cells sc.names []) C env) (fun a => if a = xq then some u else fm a) ρ h hp q y := by
  intro i q y hs hm
  refine ⟨fun e => ?_, fun e => ?_⟩ <;> rw [compEnv_names Ev] at e
  · rw [compNS_lookup] at e
    obtain ⟨k, ek, e⟩ := Option.map_eq_some_iff.mp e
    have hq := (S.own q ((nsK_local e) ▸ ek)).resolve_left fun z => h0 (z ▸ List.mem_of_getElem? hs)
    subst hq
    have hi : i = v := (List.getElem_inj hsl).mp ((List.getElem?_eq_some_iff.mp hs).2.trans (List.getElem?_eq_some_iff.mp hv).2.symm)
    subst hi
    have hlt : i < m.length := by
      have := (List.getElem?_eq_some_iff.mp hm).1
      rwa [List.length_set] at this
    rw [List.getElem?_set_self hlt] at hm
    exact ⟨u, if_pos rfl, (Option.some.inj (Option.some.inj hm)) ▸ r⟩
  · have mem := comp_free S e
    have hne : v ≠ i := fun z => by
      subst z; rw [hv] at hs; cases hs
      have := lookup_of_mem S.nd mem
      rw [S.loc] at this; cases this
    rw [List.getElem?_set_ne hne] at hm
    obtain ⟨fm0, _, all⟩ := G.names
    obtain ⟨c, w, e1, e2⟩ := (all i q y hs hm).cell (by rw [Ev.names]; exact S.free _ mem rfl)
    exact ⟨c, w, (comp_cell S mem).trans (by rw [e1]; rfl), e2⟩
end
end Mine
end

section
set_option maxRecDepth 10000
namespace Mine
open PySem PySem.W PySem.Calls PyProof.Rows

def Rest (st : V → H → Option H) (y : V) (mm i : Nat) (h hEnd : H) : Prop :=
  (∃ n, y = .loc n ∧ compLoc st n mm i h = some hEnd) ∨ ((∀ n, y ≠ .loc n) ∧ ∃ ys, iterOf y = some ys ∧ mm = ys.length - i ∧ compVals st (ys.drop i) h = some hEnd)
theorem sub_lt {a b : Nat} (h : b < a) : a - (b + 1) < a - b := Nat.sub_lt_sub_left h (Nat.lt_succ_self b)
theorem rest_step {st : V → H → Option H} {y : V} {mm i : Nat} {h hEnd : H} {P : Prop} (r : Rest st y mm i h hEnd)
    (k : ∀ ys, itElems y h = some ys → (ys[i]? = none → h = hEnd) → (∀ z, ys[i]? = some z → ∃ h1 m', st z h = some h1 ∧ m' < mm ∧ Rest st y m' (i + 1) h1 hEnd) → P) : P := by
  rcases r with ⟨n, rfl, e⟩ | ⟨hn, ys, hy, hm, e⟩
  · cases mm with
    | zero => exact nn e
    | succ f =>
      refine oLN_el e fun l hl e => k l (oL_mk hl rfl) (fun hi => ?_) fun z hi => ?_
      · rw [hi] at e; exact Option.some.inj e
      · rw [hi] at e
        exact onS_el e fun h1 hs e => ⟨h1, f, hs, Nat.lt_succ_self _, .inl ⟨n, rfl, e⟩⟩
  · refine k ys (iterOf_elems h hy) (fun hi => ?_) fun z hi => ?_
    · rw [List.drop_eq_nil_iff.mpr (List.getElem?_eq_none_iff.mp hi)] at e
      exact Option.some.inj e
    · obtain ⟨hlt, hz⟩ := List.getElem?_eq_some_iff.mp hi
      rw [List.drop_eq_getElem_cons hlt, hz] at e
      exact onS_el e fun h1 hs e => ⟨h1, ys.length - (i + 1), hs, hm ▸ sub_lt hlt, .inr ⟨hn, ys, hy, rfl, e⟩⟩
theorem rest_start {st : V → H → Option H} {y : V} {h hEnd : H} (e : compIt st y h = some hEnd) : ∃ mm, Rest st y mm 0 h hEnd := by
  have k2 : (∀ n, y ≠ .loc n) → onS (iterOf y) (fun vs => compVals st vs h) = some hEnd → ∃ mm, Rest st y mm 0 h hEnd := fun hn e => onS_el e fun vs hv e => ⟨_, .inr ⟨hn, vs, hv, rfl, e⟩⟩
  cases y with
  | loc n => exact ⟨_, .inl ⟨_, rfl, e⟩⟩
  | _ => exact k2 (fun n q => (nomatch q)) e

def CondOk (x : Cx) (n : Nat) (c : Callee) (ns : NS) (sl : List Str) (cond : X) (ifs : List Expr) : Prop := (ifs = [] ∧ cond = .bool true) ∨ ∃ te, ifs = [te] ∧ TOk x n c ns sl cond te

section
variable {x : Cx} {env : Env} {sl : List Str} {m : Loc} {L lo : Addr} {cs : List Addr} {ρ ρ' : Rho} {h h' h1 : H} {A : Around} {s : Shared} {n : Nat} {hp hp' : Heap} {c : Callee} {ns : NS} {sc : Scope} {xq : Str}

theorem tests_sound {cond : X} {ifs : List Expr} (H : CondOk x n c ns sl cond ifs) (R : Room n A) (Ev : EnvOk x env ns L) {y : V} {b : Bool} (e : ev c cond m h = some (y, h')) (t : truth y = some b) (G : Good x env sl m L cs lo ρ h s.heap)
    {Q : Bool → Shared → Prop} {E : Value → Shared → Prop} (hQ : ∀ b' s', BPost x L lo ρ h s b h' b' s' → Q b' s') :
    wpAny (model x.prog x.w) A (forIn ifs true fun c r => if r = true then do let ok ← isTrue c env (eval c env); pure (ForInStep.yield ok) else pure (ForInStep.yield r)) Q E s := by
  rcases H with ⟨rfl, rfl⟩ | ⟨te, rfl, H⟩
  · have e2 := Prod.mk.inj (Option.some.inj e)
    refine wpAny_tests_nil (hQ _ _ ⟨Option.some.inj ((congrArg truth e2.1).trans t), ρ, s.heap, s.toks, rfl, e2.2 ▸ G.res⟩)
  · exact wpAny_tests_one (wpAny_mono (H R Ev e t G) (fun b' s' P => hQ b' s' P) fun _ _ e => e.elim)

/-- what stands fixed while a comprehension goes on -/
structure CP where
  x : Cx
  ρ : Rho
  h : H
  hpA : Heap
  C : Addr
  I : Addr
  lo : Addr
  iv : V
  vv : Value
  D : Addr
  k : ItK
  f : V → H → Option H
  hEnd : H
  sA : Shared
/-- what the comprehension's loop keeps -/
structure CBase (p : CP) (ρi : Rho) (hi : H) (hp : Heap) : Prop where
  st : Step p.C [p.I] p.lo p.ρ p.h p.hpA ρi hi hp
  sim : Sim p.x okF ρi hi hp
  fr : FrOk p.C [p.I] p.lo ρi hi hp
  ri : Rel p.x okF ρi hi hp p.iv p.vv
  acc : ρi.o[p.h.length]? = some (p.D, p.D)
structure CInv (p : CP) (mm : Nat) (ρi : Rho) (hi : H) (hp : Heap) (i : Nat) : Prop extends CBase p ρi hi hp where
  it : ItAt hp p.I p.k i
  rest : Rest p.f p.iv mm i hi p.hEnd
def CLoop (p : CP) (mm : Nat) (s : Shared) : Prop := ∃ ρi hi i, s = (Shared.mk s.heap p.sA.gens p.sA.drawn (s.toks) p.sA.os) ∧ CInv p mm ρi hi s.heap i
@[elab_as_elim] theorem CLoop.el {p : CP} {mm : Nat} {s : Shared} {P : Shared → Prop} (J : CLoop p mm s) (k : ∀ ρi hi i hp tk, CInv p mm ρi hi hp i → P (Shared.mk hp p.sA.gens p.sA.drawn (tk) p.sA.os)) : P s := by
  obtain ⟨ρi, hi, i, hs, J⟩ := J
  rw [hs]; exact k ρi hi i _ _ J
structure CPre (p : CP) (env : Env) (sl : List Str) (m : Loc) (L lo : Addr) (cs : List Addr) (ns : NS) (sc : Scope) (xq : Str) (v : Nat) : Prop where
  Ev : EnvOk p.x env ns L
  S : CompScope ns xq sc
  hsl : sl.Nodup
  h0 : Str.ofString ".0" ∉ sl
  hv : sl[v]? = some xq
  GA : Good p.x env sl m L cs lo p.ρ p.h p.hpA
  io : ItOf p.iv p.vv p.k
  hC : p.hpA.objs.size ≤ p.C
  hI : p.hpA.objs.size ≤ p.I
  hl : lo ≤ p.lo
  hCI : p.C ≠ p.I
theorem Good.stale (G : Good x env sl m L cs lo ρ h hp) {b : Addr} (hb : hp.objs.size ≤ b) : x.H0.get? b = none := by
  cases e : x.H0.get? b with
  | none => rfl
  | some o => exact absurd (Heap.lt_size (G.sim.static _ _ e).1) (Nat.not_lt.mpr hb)

variable {p : CP} {v : Nat} {ρi ρj : Rho} {hi hj : H} {hq : Heap}
theorem CBase.next (B : CBase p ρi hi hp) (S : Step p.C [p.I] p.lo ρi hi hp ρj hj hq) (sim : Sim p.x okF ρj hj hq) (fr : FrOk p.C [p.I] p.lo ρj hj hq) : CBase p ρj hj hq :=
  ⟨B.st.trans S, sim, fr, B.ri.step S B.fr, S.get B.acc⟩
theorem CPre.res (K : CPre p env sl m L lo cs ns sc xq v) (st : Step p.C [p.I] p.lo p.ρ p.h p.hpA ρi hi hp) (sim : Sim p.x okF ρi hi hp) : Res p.x L lo p.ρ p.h p.hpA ρi hi hp :=
  have hc : ∀ c ∈ [p.I], p.hpA.objs.size ≤ c := fun c q => (List.mem_singleton.mp q) ▸ K.hI
  ⟨st.caller K.hC hc K.hl, st.calledNs K.hC hc K.GA.fr.no, sim⟩
/-- the block's own frame stands -/
theorem CBase.good (J : CBase p ρi hi hp) (K : CPre p env sl m L lo cs ns sc xq v) {z : V} {u : Value} (rz : Rel p.x okF ρi hi hp z u) {fm : Str → Option Value} (nsC : hp.Ns p.C fun a => if a = xq then some u else fm a) :
    Good p.x (compEnvC sc (clOf env.cells sc.names []) p.C env) sl (m.set v (some z)) p.C [] p.lo ρi hi hp where
  sim := J.sim
  fr := J.fr.none
  names := ⟨_, nsC, comp_names K.Ev K.S K.hsl K.h0 (K.GA.next (K.res J.st J.sim)) K.hv rz⟩

/-- one turn's element: the names, the test, the element, the push -/
theorem comp_item (hx : CxOk4 p.x) (R : Room n A) (K : CPre p env sl m L lo cs ns sc xq v) {elt cond : X} {E : Expr} {ifs : List Expr} {xp : Pos}
    (H2 : XOk p.x n c (compNS ns sc.names) sl elt E) (H3 : CondOk p.x n c (compNS ns sc.names) sl cond ifs)
    {i mm : Nat} (J : CInv p mm ρi hi hp i) {z : V} {u : Value} {hp1 : Heap} {tk : Nat} (rz : Rel p.x okF ρi hi hp z u) (it1 : ItAt hp1 p.I p.k (i + 1)) (sb : Heap.SameBut p.I hp hp1)
    {h3 : H} {m' : Nat} (hst : compTurn p.h.length (fun z h => tested (ev c cond (m.set v (some z)) h)) (fun z h => ev c elt (m.set v (some z)) h) z hi = some h3) (hm' : m' < mm) (rest' : Rest p.f p.iv m' (i + 1) h3 p.hEnd) {E1 E2 E3 E4 : Value → Shared → Prop} :
    wpAny (model p.x.prog p.x.w) A (assign (.Name xq xp) (compEnvC sc (clOf env.cells sc.names []) p.C env) u) (fun _ s₂ =>
      wpAny (model p.x.prog p.x.w) A (forIn ifs true fun c r => if r = true then do let ok ← isTrue c (compEnvC sc (clOf env.cells sc.names []) p.C env) (eval c (compEnvC sc (clOf env.cells sc.names []) p.C env)); pure (ForInStep.yield ok) else pure (ForInStep.yield r)) (fun ok s₃ =>
        if ok = true then wpAny (model p.x.prog p.x.w) A (eval E (compEnvC sc (clOf env.cells sc.names []) p.C env)) (fun y s₄ =>
          wpAny (model p.x.prog p.x.w) A (call (.builtin "list.append") [.ref p.D, y]) (fun _ s₅ => ∃ m, m < mm ∧ CLoop p m s₅) E4 s₄) E3 s₃
        else ∃ m, m < mm ∧ CLoop p m s₃) E2 s₂) E1 (Shared.mk hp1 p.sA.gens p.sA.drawn (tk) p.sA.os) := by
  have stI := K.GA.stale K.hI
  have EvC := compEnv_ok K.Ev K.S (K.GA.stale K.hC)
  have hIc := (J.fr.cell p.I (List.mem_singleton.mpr rfl)).2
  obtain ⟨sim1, st1⟩ := J.sim.upd J.fr sb (.inr (List.mem_singleton.mpr rfl)) stI
  obtain ⟨fm, nsC⟩ := J.fr.ns
  have nsC1 : hp1.Ns p.C fm := nsC.sameBut sb K.hCI
  have fr : ∀ {hq : Heap} {fm : Str → Option Value}, hq.Ns p.C fm → hp.objs.size ≤ hq.objs.size → ItAt hq p.I p.k (i + 1) → FrOk p.C [p.I] p.lo ρi hi hq := fun ns sz it =>
    ⟨⟨_, ns⟩, J.fr.no, fun c hc => (List.mem_singleton.mp hc) ▸ ⟨itAt_mov it, hIc⟩, Nat.le_trans J.fr.lo sz⟩
  refine wpAny_assign_Name (wpAny_storeName_local (m := fm) (by unfold Env.kindOf; rw [EvC.names, compNS_lookup, K.S.loc]; rfl) nsC1 (fun hp2 ns2 sb2 => ?_)
    (by show ((relabel sc env).kind == .class || _) = false; show (sc.kind == .class || (sc.kind == .module && _)) = false; rw [K.S.kind]; rfl))
  have z1 : hp.objs.size ≤ hp1.objs.size := Nat.le_of_eq sb.1.symm
  have z2 : hp.objs.size ≤ hp2.objs.size := Nat.le_trans z1 (Nat.le_of_eq (show hp2.objs.size = hp1.objs.size from sb2.1).symm)
  obtain ⟨sim2, st2⟩ := sim1.upd (fr nsC1 z1 it1) (show Heap.SameBut p.C hp1 hp2 from sb2) (.inl rfl) (K.GA.stale K.hC)
  have it2 : ItAt hp2 p.I p.k (i + 1) := itAt_keep it1 fun o e => (sb2.2 p.I (Ne.symm K.hCI)).trans e
  have st12 := st1.trans st2
  have F2 := fr ns2 z2 it2
  have B2 := J.toCBase.next st12 sim2 F2
  have GC := B2.good K (rz.step st12 J.fr) ns2
  have after : ∀ {ρj : Rho} {hq : Heap} {tq : Nat}, Res p.x p.C p.lo ρi hi hp2 ρj h3 hq → ∃ m_1, m_1 < mm ∧ CLoop p m_1 (Shared.mk hq p.sA.gens p.sA.drawn (tq) p.sA.os) := fun r =>
    ⟨m', hm', _, _, i + 1, rfl, { toCBase := B2.next r.st.wide r.sim (F2.step r.st r.ns), it := itAt_keep it2 fun o e => r.st.keep p.I o (Ne.symm K.hCI) List.not_mem_nil e hIc.1, rest := rest' }⟩
  refine compTurn_el hst (fun e => tested_el e fun bv hte htr => ?_) fun h4 yv h5 l e hee hl5 hlen q => tested_el e fun bv hte htr => ?_
  · refine tests_sound (s := (Shared.mk hp2 p.sA.gens p.sA.drawn (tk + 1) p.sA.os)) H3 R EvC hte htr GC fun b' s3 P => P.el (P := fun ok s₃ => if ok = true then _ else ∃ m, m < mm ∧ CLoop p m s₃) fun ρ3 hp3 t3 r3 => ?_
    rw [if_neg Bool.false_ne_true]
    exact after r3
  · refine tests_sound (s := (Shared.mk hp2 p.sA.gens p.sA.drawn (tk + 1) p.sA.os)) H3 R EvC hte htr GC fun b' s3 P => P.el (P := fun ok s₃ => if ok = true then wpAny (model p.x.prog p.x.w) A (eval E (compEnvC sc (clOf env.cells sc.names []) p.C env)) (fun y s₄ =>
          wpAny (model p.x.prog p.x.w) A (call (.builtin "list.append") [.ref p.D, y]) (fun _ s₅ => ∃ m, m < mm ∧ CLoop p m s₅) E4 s₄) E3 s₃ else _) fun ρ3 hp3 t3 r3 => ?_
    rw [if_pos rfl]
    refine H2.seq (s := (Shared.mk hp3 p.sA.gens p.sA.drawn (t3) p.sA.os)) R EvC hee (GC.next r3) fun ρ4 hp4 t4 yw r4 q4 => ?_
    have r34 := r3.trans r4
    subst q
    exact wpAny_mono (append_sound (s := (Shared.mk hp4 p.sA.gens p.sA.drawn (t4) p.sA.os)) (GC.next r34) hl5 hlen ⟨(p.D, p.D), r34.st.get B2.acc, rfl⟩ q4) (fun _ s5 P => P.el (P := fun _ s₅ => ∃ m, m < mm ∧ CLoop p m s₅) fun ρ5 hp5 t5 _ r5 _ => after (r34.trans r5)) fun _ _ e => e.elim
theorem comp_loop (hx : CxOk4 p.x) (R : Room n A) (K : CPre p env sl m L lo cs ns sc xq v) {elt cond : X} {E ie : Expr} {ifs : List Expr} {xp pos : Pos}
    (H2 : XOk p.x n c (compNS ns sc.names) sl elt E) (H3 : CondOk p.x n c (compNS ns sc.names) sl cond ifs) {RR : Result → Shared → Prop} {mm : Nat}
    (hRR : ∀ ρ' hp' tk, Res p.x L lo p.ρ p.h p.hpA ρ' p.hEnd hp' → Rel p.x okF ρ' p.hEnd hp' (.loc p.h.length) (.ref p.D) → (∃ fm, hp'.Ns p.C fm) → ¬ owned ρ' p.hEnd p.C → RR (.ok .next) (Shared.mk hp' p.sA.gens p.sA.drawn (tk) p.sA.os))
    (hf : p.f = compTurn p.h.length (fun z h => tested (ev c cond (m.set v (some z)) h)) (fun z h => ev c elt (m.set v (some z)) h)) (J : CLoop p mm s) :
    codeAny (model p.x.prog p.x.w) A (.compLoop (.ListComp E [⟨.Name xq xp, ie, ifs, 0⟩] sc pos) 0 (.ref p.I) (.ref p.D) (compEnvC sc (clOf env.cells sc.names []) p.C env)) RR s := by
  refine codeAny_compLoop_tests (I := CLoop p) (fun mm s J => J.el fun ρi hi i hp tk0 J => rest_step J.rest fun ys el hend hstep => ?_) mm J
  refine it_next (s := (Shared.mk hp p.sA.gens p.sA.drawn (tk0) p.sA.os)) R.none (K.GA.next (K.res J.st J.sim)) J.ri K.io J.it el (fun z u hp1 tk hz rz it1 sb => (hstep z hz).elim fun h3 b => b.elim fun m' b => ?_) (fun hp1 hn xb z1 => ?_)
  · exact comp_item hx R K H2 H3 J rz it1 sb (hf ▸ b.1) b.2.1 b.2.2
  · have he := hend hn
    subst he
    have stC := K.GA.stale K.hC
    have M := J.sim.mv J.fr (fun b o h1 h2 e => xb b o (fun q => h2 (List.mem_singleton.mpr q)) e) z1 stC fun c q => (List.mem_singleton.mp q) ▸ K.GA.stale K.hI
    exact hRR ρi hp1 tk0 (K.res (J.st.trans M.2) M.1) ⟨(p.D, p.D), J.acc, rfl⟩ (J.fr.ns.imp fun fm b => b.imp fun oC b => b.imp fun es b => b.imp fun ep b => ⟨xb p.C oC K.hCI b.1, b.2⟩) J.fr.no
end
end Mine
end

section
set_option maxRecDepth 10000
namespace Mine
open PySem PySem.W PySem.Calls PyProof.Rows

section
variable {x : Cx} {env : Env} {sl : List Str} {m : Loc} {L lo : Addr} {cs : List Addr} {ρ ρ' : Rho} {h h' h1 : H} {A : Around} {s : Shared} {n : Nat} {hp hp' : Heap} {c : Callee} {ns : NS} {sc : Scope} {xq : Str}

theorem it_self {E : Value → Shared → Prop} {I : Addr} {k : ItK} {i : Nat} {Q : Value → Shared → Prop} (it : ItAt s.heap I k i) (h : Q (.ref I) s) : wpAny (model x.prog x.w) A (pyIter (.ref I)) Q E s := by
  cases k with
  | list a => exact wpAny_pyIter_listiter it h
  | tup a => exact wpAny_pyIter_tupleiter it h
  | rng n => exact wpAny_pyIter_rangeiter it h

theorem itElems_back {y : V} {o : O} {ys : List V} (e : itElems y (h ++ [o]) = some ys) (hn : ∀ n, y = .loc n → n < h.length) : itElems y h = some ys := by
  cases y with
  | loc n =>
    have e : oLD (h ++ [o])[n]? some oN = some ys := e
    rw [List.getElem?_append_left (hn n rfl)] at e
    exact e
  | _ => exact e

/-- the end of a comprehension: its block's dict is emptied -/
theorem Res.emptied {hpA : Heap} {C : Addr} {hp'' : Heap} (r : Res x L lo ρ h hpA ρ' h' hp') (GA : Good x env sl m L cs lo ρ h hpA) (hC : hpA.objs.size ≤ C) (nsC : ∃ fm, hp'.Ns C fm) (no : ¬ owned ρ' h' C) (sb : Heap.SameBut C hp' hp'') : Res x L lo ρ h hpA ρ' h' hp'' := by
  have stC := GA.stale hC
  have F : FrOk C [] hp'.objs.size ρ' h' hp' := ⟨nsC, no, (fun _ q => nomatch q), Nat.le_refl _⟩
  obtain ⟨sim, st⟩ := r.sim.upd F sb (.inl rfl) stC
  refine ⟨{ r.st with size := by rw [sb.1]; exact r.st.size, keep := fun b o h1 h2 e n => (sb.2 b fun q => Nat.lt_irrefl _ (Nat.lt_of_lt_of_le (Heap.lt_size e) (q ▸ hC))).trans (r.st.keep b o h1 h2 e n) }, fun fm e => ?_, sim⟩
  exact (r.ns fm e).sameBut sb fun q => Nat.lt_irrefl _ (Nat.lt_of_lt_of_le e.lt (q ▸ hC))

noncomputable def cpOf (x : Cx) (ρ : Rho) (h : H) (hp1 hp2 hp3 hp4 : Heap) (iv : V) (vv : Value) (k : ItK) (f : V → H → Option H) (h' : H) (s : Shared) : CP := ⟨x, ρ, h, hp1, hp3.objs.size, hp1.objs.size, hp4.objs.size, iv, vv, hp2.objs.size, k, f, h', s⟩
theorem sizes4 {a b c d : Nat} (h2 : b = a + 1) (h3 : c = b + 1) (h4 : d = c + 1) : b ≠ c ∧ a ≠ c ∧ a ≤ c ∧ a < d ∧ a ≤ b ∧ b < d ∧ c ≠ b ∧ a ≠ b := by
  subst h2 h3 h4
  have l1 : a < a + 1 := Nat.lt_succ_self _
  have l2 := Nat.lt_succ_self (a + 1)
  have l3 := Nat.lt_succ_self (a + 1 + 1)
  exact ⟨Nat.ne_of_lt l2, Nat.ne_of_lt (Nat.lt_trans l1 l2), Nat.le_of_lt (Nat.lt_trans l1 l2), Nat.lt_trans l1 (Nat.lt_trans l2 l3), Nat.le_of_lt l1, Nat.lt_trans l2 l3, Nat.ne_of_gt l2, Nat.ne_of_lt l1⟩
/-- the list, the iterator and the frame that a comprehension makes -/
theorem comp_ready {p : CP} {hp1 hp2 hp3 hp4 : Heap} {o o4 : Obj} {mm v : Nat} {iv : V} {vv : Value} {k : ItK} {f : V → H → Option H} (hP2 : hp2 = hp1.push o) (hP3 : hp3 = hp2.push { cls := .type "list", dict := none, data := .seq ([] : List Value).toArray })
    (Ev : EnvOk x env ns L) (S : CompScope ns xq sc) (hsl : sl.Nodup) (h0 : Str.ofString ".0" ∉ sl) (hv : sl[v]? = some xq) (G1 : Good x env sl m L cs lo ρ h hp1) (q1 : Rel x okF ρ h hp1 iv vv) (ia : ItAt hp2 hp1.objs.size k 0) (io : ItOf iv vv k) (rest : Rest f iv mm 0 (h ++ [.list []]) h')
    {fm : Str → Option Value} (ns4 : hp4.Ns hp3.objs.size fm) (sb4 : Heap.SameBut hp3.objs.size (hp3.push o4) hp4) (hp : p = cpOf x ρ h hp1 hp2 hp3 hp4 iv vv k f h' s) {tk : Nat} :
    CPre p env sl m L lo cs ns sc xq v ∧ ItAt hp4 hp1.objs.size k 0 ∧ CLoop p mm { s with heap := hp4, toks := tk } := by
  subst hp
  obtain ⟨n23, n13, l13, l14, l12, l24, n32, n12⟩ := sizes4 (show hp2.objs.size = hp1.objs.size + 1 from hP2 ▸ Heap.size_push ..) (show hp3.objs.size = hp2.objs.size + 1 from hP3 ▸ Heap.size_push ..) (show hp4.objs.size = hp3.objs.size + 1 from sb4.1.trans (Heap.size_push ..))
  have k23 : ∀ {b : Addr} {o' : Obj}, hp2.get? b = some o' → hp3.get? b = some o' := fun e => hP3 ▸ Heap.get?_push_of_some _ e
  have k34 : ∀ {b : Addr} {o' : Obj}, b ≠ hp3.objs.size → hp3.get? b = some o' → hp4.get? b = some o' := fun ne e => (sb4.2 _ ne).trans (Heap.get?_push_of_some _ e)
  have k14 : ∀ b o', hp1.get? b = some o' → hp4.get? b = some o' := fun b o' e => k34 (Nat.ne_of_lt (Nat.lt_of_lt_of_le (Heap.lt_size e) l13)) (k23 (hP2 ▸ Heap.get?_push_of_some _ e))
  have gD : IsL hp4 hp2.objs.size ([] : List Value).toArray 0 := k34 n23 (show hp3.get? hp2.objs.size = _ from hP3 ▸ Heap.get?_push_size _ rfl)
  have it4 : ItAt hp4 hp1.objs.size k 0 := itAt_keep ia fun o e => k34 n13 (k23 e)
  have Al := Good.alloc (s := { s with heap := hp1 }) G1 k14 (hp2.objs.size, hp2.objs.size) (.list []) (Nat.le_of_lt l14) l12 l12 l24 l24 fun T => ⟨[], 0, gD, Nat.zero_le _, rfl⟩
  have now : ∀ b, hp1.objs.size ≤ b → b ≠ hp2.objs.size → ¬ owned ⟨ρ.o ++ [(hp2.objs.size, hp2.objs.size)], ρ.c⟩ (h ++ [O.list []]) b := fun b hb hne q =>
    (owned_push G1.sim.len q).elim (fun q => Nat.lt_irrefl _ (Nat.lt_of_lt_of_le (G1.sim.lt_owned q) hb)) fun q => q.elim hne hne
  refine ⟨⟨Ev, S, hsl, h0, hv, G1, io, l13, Nat.le_refl _, Nat.le_trans G1.fr.lo (Nat.le_of_lt l14), Ne.symm n13⟩, it4, ⟨ρ.o ++ [(hp2.objs.size, hp2.objs.size)], ρ.c⟩, h ++ [.list []], 0, rfl, ?_⟩
  exact { st := { Al.1.st with cnew := fun c q => .inl q, keep := fun b o' _ _ eo _ => k14 b o' eo }
          sim := Al.1.sim
          fr := ⟨⟨_, ns4⟩, now _ l13 n32, fun c hc => (List.mem_singleton.mp hc) ▸ ⟨itAt_mov it4, now _ (Nat.le_refl _) n12, fun q => Nat.lt_irrefl _ (G1.sim.clt _ q), l14⟩, Nat.le_refl _⟩
          ri := q1.res Al.1 G1
          acc := by show (ρ.o ++ [_])[h.length]? = _; rw [← G1.sim.len, List.getElem?_append_right (Nat.le_refl _), Nat.sub_self]; rfl
          it := it4
          rest := rest }
theorem noSetF {ie : Expr} (h : isSetE ie = false) (env : Env) (a : Value) : foldedSetIterable ie env a = pure a := by
  cases ie <;> first | rfl | exact ff h.symm
theorem comp_any (hx : CxOk4 x) (R : Room n A) (Ev : EnvOk x env ns L) (S : CompScope ns xq sc) (hsl : sl.Nodup) (h0 : Str.ofString ".0" ∉ sl) {v : Nat} (hv : sl[v]? = some xq) {elt cond it : X} {E ie : Expr} {ifs : List Expr} {xp pos pos' : Pos} (hset : isSetE ie = false)
    (H1 : XOk x n c ns sl it ie) (H2 : XOk x n c (compNS ns sc.names) sl elt E) (H3 : CondOk x n c (compNS ns sc.names) sl cond ifs) (G : Good x env sl m L cs lo ρ h s.heap) {y : V} (e : ev c (.comp elt v it cond) m h = some (y, h'))
    {use : Option (Value → Sem Unit)} {Q : Value → Shared → Prop} {E' : Value → Shared → Prop}
    (fin : ∀ ρ' hp' tk D C, Res x L lo ρ h s.heap ρ' h' hp' → Rel x okF ρ' h' hp' y (.ref D) → (∃ fm, hp'.Ns C fm) → s.heap.objs.size ≤ C → ¬ owned ρ' h' C → compPost (model x.prog x.w) A E' use Q (.ref D) C (.ok .next) { s with heap := hp', toks := tk }) :
    wpAny (model x.prog x.w) A (comprehension (.ListComp E [⟨.Name xq xp, ie, ifs, 0⟩] sc pos) sc env pos' (newList []) false (eval ie env) use) Q E' s := by
  refine onP_el (evalX_comp.symm.trans e) fun iv h1 e1 e => onS_el e fun h2 e2 e => ?_
  obtain ⟨rfl, rfl⟩ := Prod.mk.inj (Option.some.inj e)
  refine wpAny_comprehension_free rfl (noSetF hset env) (closureFor_of sc env fun p hp hf => Ev.cells p.1 (S.free p hp hf)) S.kind (fun p hp hl => lookup_of_mem S.nd (by rw [← hl]; exact hp)) ?_
  refine H1.seq R Ev e1 G fun ρ1 hp1 t1 vv r1 q1 => (rest_start e2).elim fun mm rest => rest_step rest fun ys el _ _ => ?_
  have G1 := G.next r1
  have el' := itElems_back el fun k hk => (show Rel x okF ρ1 h1 hp1 (.loc k) vv from hk ▸ q1).elim fun p b => by
    rw [← G1.sim.len]; exact (List.getElem?_eq_some_iff.mp b.1).1
  refine iter_start (s := { s with heap := hp1, toks := t1 }) G1 q1 el' fun o k ia io => ?_
  refine wpAny_newObj_type (wpAny_newFunctionEnv S.cell (by intro y hy; simp at hy) (fun hp4 hns4 hsb4 => ?_) S.kind)
  have K := comp_ready (s := s) (tk := t1) rfl rfl Ev S hsl h0 hv G1 q1 ia io rest hns4 hsb4 rfl
  have loop := comp_loop (s := { s with heap := hp4, toks := t1 }) (xp := xp) (pos := pos) (ie := ie) (RR := compPost (model x.prog x.w) A E' use Q (.ref (hp1.push o).objs.size) ((hp1.push o).push { cls := .type "list", dict := none, data := .seq ([] : List Value).toArray }).objs.size)
    hx R K.1 H2 H3 (fun ρ' hp' tk r rl nsC no => fin ρ' hp' tk _ _ (r1.trans r) rl nsC (Nat.le_trans r1.st.size K.1.hC) no) rfl K.2.2
  exact codeAny_compStart_list loop (it_self (s := { s with heap := hp4, toks := t1 }) K.2.1 loop)

theorem x_comp (hx : CxOk4 x) (S : CompScope ns xq sc) (hsl : sl.Nodup) (h0 : Str.ofString ".0" ∉ sl) {v : Nat} (hv : sl[v]? = some xq) {elt cond it : X} {E ie : Expr} {ifs : List Expr} {xp pos : Pos} (hset : isSetE ie = false)
    (H1 : XOk x n c ns sl it ie) (H2 : XOk x n c (compNS ns sc.names) sl elt E) (H3 : CondOk x n c (compNS ns sc.names) sl cond ifs) : XOk x n c ns sl (.comp elt v it cond) (.ListComp E [⟨.Name xq xp, ie, ifs, 0⟩] sc pos) := by
  intro A env L lo cs m h y h' ρ s R Ev e G
  rw [eval_ListComp]
  refine comp_any (use := none) hx R Ev S hsl h0 hv hset H1 H2 H3 G e fun ρ' hp' tk D C r rl nsC hC no => ?_
  obtain ⟨fm, nsC'⟩ := nsC
  refine ⟨fm, nsC', fun hp'' sb => ⟨ρ', hp'', tk, rfl, r.emptied G hC ⟨fm, nsC'⟩ no sb, ?_⟩⟩
  revert rl
  exact onP_el (evalX_comp.symm.trans e) fun iv h1 e1 e => onS_el e fun h2 e2 e => pair_el e fun rl => rl
end
end Mine
end

section
set_option maxRecDepth 10000
namespace Mine
open PySem PySem.W PySem.Calls PyProof.Rows

/-- what stands fixed about a function's frame -/
structure Frm (x : Cx) (env : Env) (ns : NS) (sl : List Str) (L : Addr) (ccs : List Addr) (cs : List Addr) (wr : Bool) : Prop where
  ev : EnvOk x env ns L
  nd : sl.Nodup
  s0 : Str.ofString ".0" ∉ sl
  own : wr = true → ∀ q a, ns.lookup q = some .cell → env.cells.lookup q = some a → a ∈ ccs
  inj : ∀ q q' a, ns.lookup q' = some .cell → env.cells.lookup q = some a → env.cells.lookup q' = some a → q = q'
  cst : ∀ c ∈ cs, x.H0.get? c = none

structure GoodS (x : Cx) (env : Env) (sl : List Str) (m : Loc) (L : Addr) (ccs cs : List Addr) (lo : Addr) (ρ : Rho) (h : H) (hp : Heap) : Prop where
  g : Good x env sl m L cs lo ρ h hp
  cc : ∀ c ∈ ccs, ∃ v, hp.IsCell c v
  sub : ∀ c ∈ ccs, c ∈ cs
def StPost (x : Cx) (env : Env) (sl : List Str) (L : Addr) (ccs cs : List Addr) (lo : Addr) (ρ : Rho) (h : H) (s : Shared) (m' : Loc) (h' : H) (s' : Shared) : Prop :=
  ∃ ρ' hp t, s' = { s with heap := hp, toks := t } ∧ Step L cs lo ρ h s.heap ρ' h' hp ∧ GoodS x env sl m' L ccs cs lo ρ' h' hp

section
variable {x : Cx} {env : Env} {sl : List Str} {m m' : Loc} {L lo : Addr} {ccs cs : List Addr} {ρ ρ1 ρ' : Rho} {h h' h1 : H} {A : Around} {s s2 : Shared} {n : Nat} {hp hp1 hp' : Heap} {c : Callee} {ns : NS} {wr : Bool} {t1 : Nat} {E : Value → Shared → Prop}

theorem StPost.el {P : Shared → Prop} (p : StPost x env sl L ccs cs lo ρ h s m' h' s2) (k : ∀ ρ1 hp1 t1, Step L cs lo ρ h s.heap ρ1 h' hp1 → GoodS x env sl m' L ccs cs lo ρ1 h' hp1 → P { s with heap := hp1, toks := t1 }) : P s2 := by
  obtain ⟨ρ', hp, t, rfl, r, q⟩ := p
  exact k _ _ _ r q
theorem StPost.after (r1 : Step L cs lo ρ h s.heap ρ1 h1 hp1) (P : StPost x env sl L ccs cs lo ρ1 h1 { s with heap := hp1, toks := t1 } m' h' s2) : StPost x env sl L ccs cs lo ρ h s m' h' s2 :=
  P.el (P := StPost x env sl L ccs cs lo ρ h s m' h') fun ρ' hp t r q => ⟨ρ', hp, t, rfl, r1.trans r, q⟩
theorem Good.widen (G : Good x env sl m L cs lo ρ h hp) {cs' : List Addr} {lo' : Addr} (F : FrOk L cs' lo' ρ h hp) : Good x env sl m L cs' lo' ρ h hp := ⟨G.sim, F, G.names⟩

theorem slot_index (hsl : sl.Nodup) {i j : Nat} {q : Str} (a : sl[i]? = some q) (b : sl[j]? = some q) : i = j := (List.getElem_inj hsl).mp ((List.getElem?_eq_some_iff.mp a).2.trans (List.getElem?_eq_some_iff.mp b).2.symm)
theorem set_get {m : Loc} {i j : Nat} {y z : V} {P : Prop} (e : (m.set i (some y))[j]? = some (some z)) (k1 : j = i → z = y → P) (k2 : j ≠ i → m[j]? = some (some z) → P) : P := by
  by_cases q : j = i
  · subst q
    have hlt := (List.getElem?_eq_some_iff.mp e).1
    rw [List.length_set] at hlt
    rw [List.getElem?_set_self hlt] at e
    exact k1 rfl (Option.some.inj (Option.some.inj e)).symm
  · rw [List.getElem?_set_ne (Ne.symm q)] at e; exact k2 q e

theorem ns_cell {hp : Heap} {c : Addr} {o : Obj} {fm : Str → Option Value} (nsL : hp.Ns L fm) (e : hp.get? c = some o) (h : Mov o) : c ≠ L := fun z => by
  obtain ⟨oL, es, ep, hL, dL, _⟩ := nsL
  rw [z, hL] at e
  cases e
  exact h.elim (fun h => h.elim fun v h => Data.noConfusion (dL.symm.trans h)) fun h => h.elim fun v h => Data.noConfusion (dL.symm.trans h.1)
theorem cell_ne {hp : Heap} {c : Addr} {v : Option Value} {fm : Str → Option Value} (e : hp.IsCell c v) (nsL : hp.Ns L fm) : c ≠ L := e.elim fun _ e => ns_cell nsL e.1 (.inl ⟨_, e.2⟩)
theorem GoodS.next (G : GoodS x env sl m L ccs cs lo ρ h hp) (r : Res x L lo ρ h hp ρ' h' hp') : GoodS x env sl m L ccs cs lo ρ' h' hp' :=
  ⟨G.g.next r, fun c hc => (G.cc c hc).imp fun v e => cell_kept r.st G.g.fr e (G.g.fr.cell c (G.sub c hc)).2.1, G.sub⟩

/-- a name of the frame is stored: in the frame's dict -/
theorem store_local (Fm : Frm x env ns sl L ccs cs wr) (G : GoodS x env sl m L ccs cs lo ρ h hp) {i : Nat} {q : Str} {y : V} {v : Value} (hs : sl[i]? = some q) (hk : ns.lookup q = some .local) (r : Rel x okF ρ h hp y v)
    {fm : Str → Option Value} (nsL : hp.Ns L fm) (all : ∀ (i : Nat) n y, sl[i]? = some n → m[i]? = some (some y) → Bears x env fm ρ h hp n y) (ns' : hp'.Ns L fun a => if a = q then some v else fm a) (sb : Heap.SameBut L hp hp') :
    Step L cs lo ρ h hp ρ h hp' ∧ GoodS x env sl (m.set i (some y)) L ccs cs lo ρ h hp' := by
  obtain ⟨sim, st⟩ := G.g.sim.upd G.g.fr sb (.inl rfl) Fm.ev.st
  refine ⟨st, ⟨sim, ⟨⟨_, ns'⟩, G.g.fr.no, fun c hc => (G.g.fr.cell c hc).imp (fun a => a.imp fun o a => ⟨(sb.2 c (ns_cell nsL a.1 a.2)).trans a.1, a.2⟩) id, sb.1 ▸ G.g.fr.lo⟩, _, ns', fun j p z hs' hm => set_get hm (fun hj hz => ?_) fun hj hm' => ?_⟩, fun c hc => (G.cc c hc).imp fun v e => e.sameBut sb (cell_ne e nsL), G.sub⟩
  · subst hj hz
    cases hs.symm.trans hs'
    exact ⟨fun _ => ⟨v, if_pos rfl, r.step st G.g.fr⟩, fun e => by rw [Fm.ev.names, hk] at e; exact e.elim (fun e => (nomatch e)) fun e => (nomatch e)⟩
  · have hne : p ≠ q := fun z => hj (slot_index Fm.nd (z ▸ hs') hs)
    have B := all j p z hs' hm'
    exact ⟨fun e => (B.loc e).imp fun w b => ⟨(if_neg hne).trans b.1, b.2.step st G.g.fr⟩, fun e => (B.cell e).imp fun c b => b.imp fun w b => ⟨b.1, b.2.1.sameBut sb (cell_ne b.2.1 nsL), b.2.2.1, b.2.2.2.step st G.g.fr⟩⟩
/-- a name of the frame is stored: in its cell -/
theorem store_cell (Fm : Frm x env ns sl L ccs cs wr) (G : GoodS x env sl m L ccs cs lo ρ h hp) {i : Nat} {q : Str} {y : V} {v : Value} (hs : sl[i]? = some q) (hk : ns.lookup q = some .cell) (r : Rel x okF ρ h hp y v)
    {c : Addr} (mem : c ∈ ccs) (hc : env.cells.lookup q = some c) (ec' : hp'.IsCell c (some v)) (sb : Heap.SameBut c hp hp') : Step L cs lo ρ h hp ρ h hp' ∧ GoodS x env sl (m.set i (some y)) L ccs cs lo ρ h hp' := by
  obtain ⟨fm, nsL, all⟩ := G.g.names
  obtain ⟨v0, ec⟩ := G.cc c mem
  obtain ⟨sim, st⟩ := G.g.sim.upd G.g.fr sb (.inr (G.sub c mem)) (Fm.cst c (G.sub c mem))
  have ns' : hp'.Ns L fm := nsL.sameBut sb (Ne.symm (cell_ne ec nsL))
  refine ⟨st, ⟨sim, ⟨⟨_, ns'⟩, G.g.fr.no, fun c' hc' => (G.g.fr.cell c' hc').imp (fun a => ?_) id, sb.1 ▸ G.g.fr.lo⟩, _, ns', fun j p z hs' hm => set_get hm (fun hj hz => ?_) fun hj hm' => ?_⟩, fun c' hc' => ?_, G.sub⟩
  · by_cases e : c' = c
    · subst e; exact ec'.imp fun o a => ⟨a.1, .inl ⟨_, a.2⟩⟩
    · exact a.imp fun o a => ⟨(sb.2 c' e).trans a.1, a.2⟩
  · subst hj hz
    cases hs.symm.trans hs'
    exact ⟨fun e => (nomatch hk.symm.trans ((congrArg (·.lookup q) Fm.ev.names.symm).trans e)), fun _ => ⟨c, v, hc, ec', (G.g.fr.cell c (G.sub c mem)).2.1, r.step st G.g.fr⟩⟩
  · have hne : p ≠ q := fun z => hj (slot_index Fm.nd (z ▸ hs') hs)
    have B := all j p z hs' hm'
    exact ⟨fun e => (B.loc e).imp fun w b => ⟨b.1, b.2.step st G.g.fr⟩, fun e => (B.cell e).imp fun c' b => b.imp fun w b => ⟨b.1, b.2.1.sameBut sb (fun z => hne (Fm.inj _ _ _ hk b.1 (z ▸ hc))), b.2.2.1, b.2.2.2.step st G.g.fr⟩⟩
  · by_cases e : c' = c
    · subst e; exact ⟨_, ec'⟩
    · exact (G.cc c' hc').imp fun v e' => e'.sameBut sb e
/-- a name of the frame is stored -/
theorem store_nm (Fm : Frm x env ns sl L ccs cs wr) (G : GoodS x env sl m L ccs cs lo ρ h s.heap) {i : Nat} {q : Str} {y : V} {v : Value} (hs : sl[i]? = some q) (hl : isLoc (ns.lookup q) = true) (hf : ns.lookup q ≠ some .free) (hw : wr = true ∨ ns.lookup q = some .local)
    (r : Rel x okF ρ h s.heap y v) {Q : Unit → Shared → Prop} (k : ∀ ρ1 hp1 t1, Step L cs lo ρ h s.heap ρ1 h hp1 → GoodS x env sl (m.set i (some y)) L ccs cs lo ρ1 h hp1 → Q () { s with heap := hp1, toks := t1 }) : wpAny (model x.prog x.w) A (storeName env q v) Q E s := by
  have kq : env.kindOf q = ns.lookup q := congrArg (·.lookup q) Fm.ev.names
  refine isLoc_el hl (fun hk => G.g.names.elim fun fm n => ?_) (fun hk => (Option.isSome_iff_exists.mp (Fm.ev.cells q (.inl hk))).elim fun c hc => ?_) fun hk => absurd hk hf
  · exact wpAny_storeName_local (m := fm) (kq.trans hk) (Fm.ev.loc.symm ▸ n.1) (fun hp' ns' sb => have Z := store_local Fm G hs hk r n.1 n.2 (Fm.ev.loc ▸ ns') (Fm.ev.loc ▸ sb); k _ _ _ Z.1 Z.2) (by rw [Fm.ev.kind]; rfl)
  · have mem := Fm.own (hw.elim id fun z => nomatch hk.symm.trans z) q c hk hc
    exact (G.cc c mem).elim fun v0 ec => wpAny_storeName_cell Fm.ev.kind (kq.trans hk) hc ec fun hp' ec' sb => have Z := store_cell Fm G hs hk r mem hc ec' sb; k _ _ s.toks Z.1 Z.2

/-- an expression's step, as a statement's -/
theorem Res.stPost (r : Res x L lo ρ h s.heap ρ' h' hp') (G : GoodS x env sl m L ccs cs lo ρ h s.heap) (t : Nat) : StPost x env sl L ccs cs lo ρ h s m h' { s with heap := hp', toks := t } :=
  ⟨ρ', hp', t, rfl, r.st.wide, G.next r⟩
theorem GoodS.post (G : GoodS x env sl m L ccs cs lo ρ h s.heap) (t : Nat) : StPost x env sl L ccs cs lo ρ h s m h { s with toks := t } := ⟨ρ, s.heap, t, rfl, Step.refl, G⟩
end
end Mine
end

section
set_option maxRecDepth 10000
namespace Mine
open PySem PySem.W PySem.Calls PyProof.Rows

theorem putL_length (name : Str) (hsh : Int) (key v : Value) (es : List DictEntry) : (putL name hsh key v es).length = if es.any (·.key.isStr name) then es.length else es.length + 1 := by
  induction es with
  | nil => rfl
  | cons e r ih =>
    rw [putL, List.any_cons]
    cases q : e.key.isStr name with
    | true => rfl
    | false =>
      rw [Bool.false_or]
      refine (congrArg Nat.succ ih).trans ?_
      by_cases z : (r.any (·.key.isStr name)) = true
      · rw [if_pos z, if_pos z]; rfl
      · rw [if_neg z, if_neg z]; rfl
theorem nsFind_any {es : List DictEntry} {name : Str} {v : Value} (h : nsFind es.toArray name = some v) : es.any (·.key.isStr name) = true := by
  unfold nsFind findBy at h
  rw [← Array.find?_toList] at h
  obtain ⟨e, he, _⟩ := Option.map_eq_some_iff.mp h
  exact List.any_eq_true.mpr ⟨e, List.mem_of_find?_eq_some he, by have := List.find?_some he; exact this⟩

section
open Sem
theorem nsSetD {M : Model} {A : Around} {E : Value → Shared → Prop} {s : Shared} {a : Addr} {m : Str → Option Value} {es : List DictEntry} {k : Nat} {name : Str} {v : Value} {Q : Unit → Shared → Prop} (hn : s.heap.Ns a m) (hd : s.heap.get? a = some (dictOf es k))
    (h : ∀ h' es' k', h'.Ns a (fun x => if x = name then some v else m x) → Heap.SameBut a s.heap h' → h'.get? a = some (dictOf es' k') → es'.length ≤ (if (m name).isSome then es.length else es.length + 1) → Q () { s with heap := h', toks := s.toks + 1 }) :
    wpAny M A (nsSet a name v) Q E s := fun Γ p _ => by
  obtain ⟨o, es0, ep, ho, hd0, hk, hm⟩ := hn
  rw [hd] at ho; cases ho
  cases hd0
  simp only [nsSet, strHash, wp_bind', wp_cmd_ask, wp_pure', wp_cmd_mkText]
  rw [wp_loadPart_of M Γ _ p { s with toks := s.toks + 1 } (o := dictOf es k) _ hd]
  have hany : es.toArray.any (·.refKey) = false := by
    rw [Array.any_eq_false']; intro e he; obtain ⟨n, t, h⟩ := hk e he; simp [DictEntry.refKey, h]
  simp only [aRefKeyMayBeTheName_eq, aRefKeyMayBeTheNameByArray, hany, Bool.and_false, Bool.false_eq_true, if_false, wp_cmd_updatePart]
  refine ⟨by rw [hd]; rfl, h _ (putL name _ (.str name s.toks) v es) (putN name es k) ?_ (Heap.SameBut.update ..) ((Heap.get?_update_self _ hd (by rw [putName_dict]; rfl)).trans (by rw [putName_dict])) ?_⟩
  · cases hi : es.toArray.findIdx? (·.key.isStr name) with
    | some i =>
      refine ⟨_, _, k, Heap.get?_update_self _ hd (by simp only [Obj.putName_eq, Obj.putNameByArray, hi]; rfl), by simp only [Obj.putName_eq, Obj.putNameByArray, hi]; rfl, hk.modify _ _, fun x => ?_⟩
      show _ = if x = name then some v else m x
      rw [← hm]; exact findBy_modify (fun n v => v.isStr n) Value.isStr_inj es.toArray name x v i hi
    | none =>
      refine ⟨_, _, k + 1, Heap.get?_update_self _ hd (by simp only [Obj.putName_eq, Obj.putNameByArray, hi]; rfl), by simp only [Obj.putName_eq, Obj.putNameByArray, hi]; rfl, hk.push _ _ _ _, fun x => ?_⟩
      show _ = if x = name then some v else m x
      rw [← hm]
      exact findBy_push (fun n v => v.isStr n) es.toArray name x _ _ v (fun y => by
        show (name == y) = decide (y = name)
        by_cases h : y = name
        · subst h; simp
        · have : ¬ name = y := fun e => h e.symm
          simp [h, this]) hi
  · rw [putL_length]
    cases q : m name with
    | none => simp only [Option.isSome_none, Bool.false_eq_true, if_false]; split <;> lia
    | some w => simp only [Option.isSome_some, if_true]; rw [nsFind_any ((hm name).trans q)]; simp
end

theorem setF_lookup (k : Nat) (v : V) (fs : List (Nat × V)) (n : Nat) : (n = k → (setF fs k v).lookup n = some v) ∧ (n ≠ k → (setF fs k v).lookup n = fs.lookup n) := by
  induction fs with
  | nil =>
    rw [setF, List.lookup_cons]
    exact ⟨fun h => by rw [h, beq_self_eq_true], fun h => by rw [beq_eq_false_iff_ne.mpr h]⟩
  | cons p r ih =>
    obtain ⟨k', v'⟩ := p
    rw [setF]
    by_cases q : k' = k
    · subst q
      rw [if_pos rfl, List.lookup_cons, List.lookup_cons]
      exact ⟨fun h => by rw [h, beq_self_eq_true], fun h => by rw [beq_eq_false_iff_ne.mpr h]⟩
    · rw [if_neg q, List.lookup_cons, List.lookup_cons]
      refine ⟨fun h => by rw [beq_eq_false_iff_ne.mpr fun z => q (z.symm.trans h)]; exact ih.1 h, fun h => ?_⟩
      cases n == k' with
      | true => rfl
      | false => exact ih.2 h
theorem setF_length (k : Nat) (v : V) (fs : List (Nat × V)) : (setF fs k v).length = if (fs.lookup k).isSome then fs.length else fs.length + 1 := by
  induction fs with
  | nil => rfl
  | cons p r ih =>
    obtain ⟨k', v'⟩ := p
    rw [setF]
    by_cases q : k' = k
    · subst q
      rw [if_pos rfl, List.lookup_cons, beq_self_eq_true]; rfl
    · rw [if_neg q, List.lookup_cons, beq_eq_false_iff_ne.mpr (Ne.symm q)]
      refine (congrArg Nat.succ ih).trans ?_
      cases (r.lookup k).isSome <;> rfl

section
variable {x : Cx} {env : Env} {sl : List Str} {m m' : Loc} {L lo : Addr} {ccs cs : List Addr} {ρ ρ1 ρ' : Rho} {h h' h1 : H} {A : Around} {s s2 : Shared} {n : Nat} {hp hp1 hp' : Heap} {c : Callee} {ns : NS} {wr : Bool} {t1 : Nat} {E : Value → Shared → Prop}

/-- an object whose field has been set -/
theorem inst_set (G : Good x env sl m L cs lo ρ h s.heap) {k C nm : Nat} {fs : List (Nat × V)} {u : Value} {y : V} {q : Str} (e : h[k]? = some (.inst C fs)) (ry : Rel x okF ρ h s.heap y u) (hq : attrS nm = some q) {p : Addr × Addr} {Ca : Addr} {fm : Str → Option Value}
    (hp : ρ.o[k]? = some p) (e1 : clsAddr x.K C = some Ca) (e2 : s.heap.get? p.1 = some (instObj Ca p.2)) (e4 : FsRel x okF ρ h s.heap fs fm) {es es' : List DictEntry} {kk k' : Nat} (hd : s.heap.get? p.2 = some (dictOf es kk)) (hle : es.length ≤ fs.length) (hl : fs.length < 100)
    (ns' : hp'.Ns p.2 fun a => if a = q then some u else fm a) (sb : Heap.SameBut p.2 s.heap hp') (hd2 : hp'.get? p.2 = some (dictOf es' k')) (hle' : es'.length ≤ (if (fm q).isSome then es.length else es.length + 1)) :
    Res x L lo ρ h s.heap ρ (h.set k (.inst C (setF fs nm y))) hp' ∧ es'.length ≤ 100 := by
  have nm' : (fs.lookup nm).isSome = (fm q).isSome := by
    cases ql : fs.lookup nm with
    | none => rw [(e4 nm q hq).2 ql]; rfl
    | some z => exact ((e4 nm q hq).1 z ql).elim fun w hw => by rw [hw.1]; rfl
  have hle2 : es'.length ≤ (setF fs nm y).length := by
    rw [setF_length, nm']
    revert hle'
    cases (fm q).isSome
    · exact fun h => Nat.le_trans h (Nat.succ_le_succ hle)
    · exact fun h => Nat.le_trans h hle
  have hlen : (setF fs nm y).length ≤ 100 := by
    rw [setF_length]
    cases (fs.lookup nm).isSome
    · exact hl
    · exact Nat.le_of_lt hl
  refine ⟨?_, Nat.le_trans hle2 hlen⟩
  have ne : p.1 ≠ p.2 := fun z => by rw [z, hd] at e2; cases e2
  have key : Step L [] lo ρ h s.heap ρ (h.set k (.inst C (setF fs nm y))) hp' → FsRel x okF ρ (h.set k (.inst C (setF fs nm y))) hp' (setF fs nm y) fun a => if a = q then some u else fm a := fun T n' q' hq' => by
    by_cases z : n' = nm
    · subst z
      cases hq.symm.trans hq'
      have L := (setF_lookup n' y fs n').1 rfl
      exact ⟨fun y' hy' => ⟨u, if_pos rfl, (Option.some.inj (L.symm.trans hy')) ▸ ry.step T G.fr.none⟩, fun hn' => (nomatch L.symm.trans hn')⟩
    · have L := (setF_lookup nm y fs n').2 z
      have hne : q' ≠ q := fun w => z (attrS_inj (w ▸ hq') hq)
      exact ⟨fun y' hy' => ((e4 n' q' hq').1 y' (L ▸ hy')).imp fun w b => ⟨(if_neg hne).trans b.1, b.2.step T G.fr.none⟩, fun hn' => (if_neg hne).trans ((e4 n' q' hq').2 (L ▸ hn'))⟩
  have Z := G.sim.set G.fr hp e rfl sb (.inr rfl) (o' := .inst C (setF fs nm y)) fun T => ⟨Ca, _, e1, (sb.2 p.1 ne).trans e2, ns', key T, es', k', hd2, hle2⟩
  exact ⟨Z.2.1, Z.2.2, Z.1⟩
theorem setAttr_sound (hx : CxOk4 x) (G : Good x env sl m L cs lo ρ h s.heap) {k C nm : Nat} {fs : List (Nat × V)} {v u : Value} {y : V} {q : Str} (e : h[k]? = some (.inst C fs)) (r : Rel x okF ρ h s.heap (.loc k) v) (ry : Rel x okF ρ h s.heap y u)
    (hq : attrS nm = some q) (hm : clsMeth C nm = none) (hl : fs.length < 100) {Q : Unit → Shared → Prop} (hQ : ∀ hp' t, Res x L lo ρ h s.heap ρ (h.set k (.inst C (setF fs nm y))) hp' → Q () { s with heap := hp', toks := t }) :
    wpAny (model x.prog x.w) A (setAttr v q u) Q E s := by
  refine loc_el G r e fun p hp o => ?_
  obtain ⟨Ca, fm, e1, e2, e3, e4, es, kk, hd, hle⟩ := o
  have O := hx.cls C Ca e1
  have X := hx.X.keeps (static_keep G)
  have hI : InstAt s.heap p.1 (instObj Ca p.2) Ca (some (dictOf es kk)) := ⟨e2, rfl, rfl, hd⟩
  obtain ⟨cd, hc, hd'⟩ := any_some O.dict
  refine set_plain X hI O.set (osa_open (s := { s with toks := s.toks + 1 }) X hI O.over (r := none) (by unfold takerIn; rw [O.no nm q hq hm]; rfl) fun b => ?_)
  refine wpAny_bind (wpAny_pure (wpAny_bind (wpAny_bind (wpAny_loadPart e2 (wpAny_bind (Looks.here (s := { s with toks := s.toks + 1 }) (looks_clsIn X hc) ?_))))))
  rw [hd']
  refine wpAny_pure (a := some p.2) (wpAny_bind (wpAny_pure (wpAny_bind ?_)))
  refine nsSetD (s := { s with toks := s.toks + 1 }) e3 hd fun hp' es' k' ns' sb hd2 hle' => ?_
  have Z := inst_set G e ry hq hp e1 e2 e4 hd hle hl ns' sb hd2 hle'
  exact wpAny_bind (wpAny_lookBehind hd2 (pastItsLine_dict (by rw [List.size_toArray, sizeLine_eq]; exact Nat.le_trans Z.2 (by decide))) (wpAny_pure (hQ hp' _ Z.1)))

theorem setItem_sound (hx : CxOk4 x) (G : Good x env sl m L cs lo ρ h s.heap) {k : Nat} {v u iv : Value} {y : V} {i : Int} (r : Rel x okF ρ h s.heap (.loc k) v) (ri : Rel x okF ρ h s.heap (.int i) iv) (ry : Rel x okF ρ h s.heap y u)
    (e : (oLD h[k]? (fun vs => if 0 ≤ i ∧ i.toNat < vs.length then some (m, h.set k (.list (vs.set i.toNat y))) else none) fun kv => if kv.length < 1000000 then some (m, h.set k (.dict (setKV kv i y))) else none) = some (m', h'))
    {Q : Unit → Shared → Prop} (hQ : m' = m → ∀ hp' t, Res x L lo ρ h s.heap ρ h' hp' → Q () { s with heap := hp', toks := t }) : wpAny (model x.prog x.w) A (setItem v iv u) Q E s := by
  refine rel_int ri fun t => oLD_el e (fun l eo e => if_el e fun hi e => list_el G r eo fun p ws ep hp il hl rl => ?_) fun kv eo e => if_el e fun hk e => dict_el G r eo fun p kvs hp dof hl rk => ?_
  · obtain ⟨em, eh⟩ := Prod.mk.inj (Option.some.inj e)
    have len := relL_length rl
    have hl' : l.length ≤ 1000000 := hl
    obtain ⟨e', il'⟩ := isL_update il (fun xs => xs.setIfInBounds i.toNat u)
    rw [List.setIfInBounds_toArray] at il'
    exact ki_setAt il hi.1 (by lia) (by rw [List.size_toArray, ← len]; lia) (hQ em.symm _ s.toks (eh ▸ G.set_list hp eo rfl (Heap.SameBut.update _ _ _) il' (by rw [List.length_set]; exact hl) (relL_set _ rl ry)))
  · obtain ⟨em, eh⟩ := Prod.mk.inj (Option.some.inj e)
    have len := relKV_length rk
    exact wpAny_setItem_pairs (k := i) (by simp [intKind, Value.isInt]) dof (fun h2 d2 sb => hQ em.symm h2 _ (eh ▸ G.set_dict hp eo rfl sb d2 (Nat.le_trans (setKV_length _ _ _) hk) (relKV_set rk i ry))) (by rw [← len]; exact Nat.le_trans hl lenB_line)
end
end Mine
end

section
set_option maxRecDepth 10000
namespace Mine
open PySem PySem.W PySem.Calls PyProof.Rows

structure CxOk5 (x : Cx) : Prop extends CxOk4 x where
  gl : ∀ k, isGlob k = true → (gval x.K k).isSome = true

section
variable {x : Cx} {n : Nat} {c : Callee} {sl : List Str}
theorem t_never {ns : NS} {a : X} {E1 : Expr} (h : ∀ m h y h', ev c a m h = some (y, h') → truth y = none) : TOk x n c ns sl a E1 := by
  intro A env L lo cs m h' y b h'' ρ s R Ev e t G
  rw [h _ _ _ _ e] at t; cases t

theorem t_of {ns : NS} {a : X} {E1 : Expr} (H : XOk x n c ns sl a E1) (hp : ∀ env whole, isTrue E1 env whole = (do let v ← whole; standAt E1.pos; holding [v] (truthy v))) : XOk x n c ns sl a E1 ∧ TOk x n c ns sl a E1 := ⟨H, t_plain H hp⟩
theorem freeze_never {a : X} {m : Loc} {h : H} {y : V} {h' : H} (e : ev c (.freeze a) m h = some (y, h')) : truth y = none :=
  onPL_el (evalX_freeze.symm.trans e) fun k h1 e1 e => oLN_el e fun l el e => pair_el e rfl

def XT (x : Cx) (n : Nat) (c : Callee) (sl : List Str) (e : X) : Prop := ∀ (ns : NS) (E : Expr), chkX ns sl e E = true → XOk x n c ns sl e E ∧ TOk x n c ns sl e E
theorem isTrueX_eq {e : X} (h : isTrueX e = true) : e = .bool true := by
  cases e with
  | bool b => cases b with
    | true => rfl
    | false => exact ff h
  | _ => exact ff h
theorem cond_of {ns : NS} {e : X} {ifs : List Expr} (H : XT x n c sl e) (h : chkCond (chkX ns sl e) e ifs = true) : CondOk x n c ns sl e ifs := by
  cases ifs with
  | nil => exact .inl ⟨rfl, isTrueX_eq h⟩
  | cons te r => cases r with
    | nil => exact .inr ⟨te, rfl, (H _ _ h).2⟩
    | cons _ _ => exact ff h
def XL (x : Cx) (n : Nat) (c : Callee) (sl : List Str) (l : List X) : Prop := ∀ (ns : NS) (es : List Expr), chkXs ns sl l es = true → XsOk x n c ns sl l es ∧ ∀ e ∈ es, isStarE e = false
/-- the views keep the position: what holds of a view's parts holds -/
theorem chk_bin (hx : CxOk5 x) {op : B} {a b : X} (HA : XT x n c sl a) (HB : XT x n c sl b) : XT x n c sl (.bin op a b) := fun ns E h =>
  bBin_el h fun l o r p h => and_el h fun h1 h => and_el h fun h2 h3 => t_of (x_bin h1 (HA ns _ h2).1 (HB ns _ h3).1) fun _ _ => rfl
theorem chk_cmp (hx : CxOk5 x) {op : Cm} {a b : X} (HA : XT x n c sl a) (HB : XT x n c sl b) : XT x n c sl (.cmp op a b) := fun ns E h =>
  bCmp_el h fun l o r p h => b1_el (P := fun o => XOk x n c ns sl (.cmp op a b) (.Compare l o r p) ∧ TOk x n c ns sl (.cmp op a b) (.Compare l o r p)) h fun o h => b1_el (P := fun r => XOk x n c ns sl (.cmp op a b) (.Compare l [o] r p) ∧ TOk x n c ns sl (.cmp op a b) (.Compare l [o] r p)) h fun r h =>
    and_el h fun h1 h => and_el h fun h2 h => and_el h fun h3 h4 => ⟨x_cmp hx.toCxOk h1 (not_t h4) (HA ns _ h2).1 (HB ns _ h3).1, t_cmp hx.toCxOk h1 (not_t h4) (HA ns _ h2).1 (HB ns _ h3).1⟩
theorem chk_cmp2 (hx : CxOk5 x) {o1 o2 : Cm} {a b d : X} (HA : XT x n c sl a) (HB : XT x n c sl b) (HD : XT x n c sl d) : XT x n c sl (.cmp2 o1 o2 a b d) := fun ns E h =>
  bCmp_el h fun l o r p h => b2_el (P := fun o => XOk x n c ns sl (.cmp2 o1 o2 a b d) (.Compare l o r p) ∧ TOk x n c ns sl (.cmp2 o1 o2 a b d) (.Compare l o r p)) h fun p1 p2 h => b2_el (P := fun r => XOk x n c ns sl (.cmp2 o1 o2 a b d) (.Compare l [p1, p2] r p) ∧ TOk x n c ns sl (.cmp2 o1 o2 a b d) (.Compare l [p1, p2] r p)) h fun r1 r2 h =>
    and_el h fun h1 h => and_el h fun h2 h => and_el h fun h3 h => and_el h fun h4 h => and_el h fun h5 h6 =>
      ⟨x_cmp2 hx.toCxOk h1 h2 (not_t h6) (HA ns _ h3).1 (HB ns _ h4).1 (HD ns _ h5).1, t_cmp2 hx.toCxOk h1 h2 (not_t h6) (HA ns _ h3).1 (HB ns _ h4).1 (HD ns _ h5).1⟩
theorem chk_and {a b : X} (HA : XT x n c sl a) (HB : XT x n c sl b) : XT x n c sl (.and a b) := fun ns E h =>
  bBoo_el h fun o es p h => oAnd_el (P := fun o => XOk x n c ns sl (.and a b) (.BoolOp o es p) ∧ TOk x n c ns sl (.and a b) (.BoolOp o es p)) h fun h => b2_el (P := fun es => XOk x n c ns sl (.and a b) (.BoolOp .And es p) ∧ TOk x n c ns sl (.and a b) (.BoolOp .And es p)) h fun e1 e2 h =>
    and_el h fun h1 h2 => ⟨x_and (HA ns _ h1).1 (x_one (HB ns _ h2).1), t_and (HA ns _ h1).2 (t_and1 (HB ns _ h2).2)⟩
theorem chk_or {a b : X} (HA : XT x n c sl a) (HB : XT x n c sl b) : XT x n c sl (.or a b) := fun ns E h =>
  bBoo_el h fun o es p h => oOr_el (P := fun o => XOk x n c ns sl (.or a b) (.BoolOp o es p) ∧ TOk x n c ns sl (.or a b) (.BoolOp o es p)) h fun h => bC_el (P := fun es => XOk x n c ns sl (.or a b) (.BoolOp .Or es p) ∧ TOk x n c ns sl (.or a b) (.BoolOp .Or es p)) h fun e1 es h =>
    and_el h fun h1 h => orRest_el (P := fun es => XOk x n c ns sl (.or a b) (.BoolOp .Or (e1 :: es) p) ∧ TOk x n c ns sl (.or a b) (.BoolOp .Or (e1 :: es) p)) h
      (fun e2 h2 => ⟨x_or (HA ns _ h1).1 (x_one (HB ns _ h2).1), t_or (HA ns _ h1).2 (t_or1 (HB ns _ h2).2)⟩) fun e2 r h2 => ⟨x_or (HA ns _ h1).1 (HB ns _ h2).1, t_or (HA ns _ h1).2 (HB ns _ h2).2⟩
theorem chk_call (hx : CxOk5 x) (C : CalleeOk x n c) {f : X} {as : List X} (HF : XT x n c sl f) (HA : XL x n c sl as) : XT x n c sl (.call f as) := fun ns E h =>
  bCall_el h fun fe args kw p h => b0_el (P := fun kw => XOk x n c ns sl (.call f as) (.Call fe args kw p) ∧ TOk x n c ns sl (.call f as) (.Call fe args kw p)) h fun h =>
    and_el h fun h1 h => and_el h fun h2 h3 => t_of (x_call hx.toCxOk4 C h1 (HA ns _ h3).2 (HF ns _ h2).1 (HA ns _ h3).1) fun _ _ => rfl
theorem chk_meth (hx : CxOk5 x) (C : CalleeOk x n c) {o : X} {nm : Nat} {as : List X} (HO : XT x n c sl o) (HA : XL x n c sl as) : XT x n c sl (.meth o nm as) := fun ns E h =>
  bCall_el h fun fe args kw p h => b0_el (P := fun kw => XOk x n c ns sl (.meth o nm as) (.Call fe args kw p) ∧ TOk x n c ns sl (.meth o nm as) (.Call fe args kw p)) h fun h =>
    bAttr_el (P := fun fe => XOk x n c ns sl (.meth o nm as) (.Call fe args [] p) ∧ TOk x n c ns sl (.meth o nm as) (.Call fe args [] p)) h fun oe q ap h => and_el h fun h1 h => and_el h fun h2 h => and_el h fun h3 h => and_el h fun h4 h => and_el h fun h5 h6 =>
      t_of (x_meth hx.toCxOk4 C (eq_of_beq h1) (not_t h2) h3 (of_decide_eq_true h4) (HA ns _ h6).2 (HO ns _ h5).1 (HA ns _ h6).1) fun _ _ => rfl
theorem chk_cut {o hi : X} (HO : XT x n c sl o) (HI : XT x n c sl hi) : XT x n c sl (.cut o hi) := fun ns E h =>
  bSub_el h fun oe ie p h => bSli_el (P := fun ie => XOk x n c ns sl (.cut o hi) (.Subscript oe ie p) ∧ TOk x n c ns sl (.cut o hi) (.Subscript oe ie p)) h fun a b d q h =>
    bN_el (P := fun a => XOk x n c ns sl (.cut o hi) (.Subscript oe (.Slice a b d q) p) ∧ TOk x n c ns sl (.cut o hi) (.Subscript oe (.Slice a b d q) p)) h fun h => bS_el (P := fun b => XOk x n c ns sl (.cut o hi) (.Subscript oe (.Slice none b d q) p) ∧ TOk x n c ns sl (.cut o hi) (.Subscript oe (.Slice none b d q) p)) h fun he h =>
      bN_el (P := fun d => XOk x n c ns sl (.cut o hi) (.Subscript oe (.Slice none (some he) d q) p) ∧ TOk x n c ns sl (.cut o hi) (.Subscript oe (.Slice none (some he) d q) p)) h fun h => and_el h fun h1 h2 => t_of (x_cut (HO ns _ h1).1 (HI ns _ h2).1) fun _ _ => rfl
theorem chkX_comp {ns : NS} {elt cond it : X} {v : Nat} {P : Expr → Prop} {E : Expr} (h : chkX ns sl (.comp elt v it cond) E = true) (k : ∀ Ee xq xp ie ifs sc pos, sl[v]? = some xq → compScopeOk ns xq sc = true → chkX ns sl it ie = true → isSetE ie = false → chkX (compNS ns sc.names) sl elt Ee = true →
    chkCond (chkX (compNS ns sc.names) sl cond) cond ifs = true → P (.ListComp Ee [⟨.Name xq xp, ie, ifs, 0⟩] sc pos)) : P E :=
  bLC_el h fun Ee gs sc pos h => b1_el (P := fun gs => P (.ListComp Ee gs sc pos)) h fun g h => by
    obtain ⟨tg, ie, ifs, as⟩ := g
    exact bName_el (P := fun tg => P (.ListComp Ee [⟨tg, ie, ifs, as⟩] sc pos)) h fun xq xp h => and_el h fun h1 h => and_el h fun h2 h => and_el h fun h3 h => and_el h fun h4 h => and_el h fun h5 h => and_el h fun h6 h7 =>
      (eq_of_beq h1 : as = 0) ▸ k Ee xq xp ie ifs sc pos (eq_of_beq h2) h3 h4 (not_t h5) h6 h7
theorem chk_all (hx : CxOk5 x) (C : CalleeOk x n c) (hsl : sl.Nodup) (h0 : Str.ofString ".0" ∉ sl) (e : X) : XT x n c sl e := by
  refine X.rec (motive_1 := XT x n c sl) (motive_2 := XL x n c sl) ?_ ?_ ?_ ?_ ?_ ?_ ?_ ?_ ?_ ?_ ?_ ?_ ?_ ?_ ?_ ?_ ?_ ?_ ?_ ?_ ?_ ?_ ?_ ?_ ?_ ?_ ?_ e
  · exact fun ns E h => ⟨fun _ _ e _ => nn e, fun _ _ e _ _ => nn e⟩
  · exact fun i ns E h => bName_el h fun q p h => t_of (x_var h) fun _ _ => rfl
  · exact fun k ns E h => bName_el h fun q p h => and_el h fun h1 h => and_el h fun h2 h => and_el h fun h3 h => and_el h fun h4 h5 => t_of (x_glob hx.toCxOk (eq_of_beq h2) (eq_of_beq h3) h4 (bne_iff_ne.mp h5) (hx.gl _ h1)) fun _ _ => rfl
  · exact fun ns E h => bCn_el h fun q k p h => cNone_el (P := fun q => XOk x n c ns sl .non (.Constant q k p) ∧ TOk x n c ns sl .non (.Constant q k p)) h (t_of x_non fun _ _ => rfl)
  · exact fun b ns E h => bCn_el h fun q k p h => cBool_el (P := fun q => XOk x n c ns sl (.bool b) (.Constant q k p) ∧ TOk x n c ns sl (.bool b) (.Constant q k p)) h (t_of x_bool fun _ _ => rfl)
  · exact fun b ns E h => bCn_el h fun q k p h => cInt_el (P := fun q => XOk x n c ns sl (.int b) (.Constant q k p) ∧ TOk x n c ns sl (.int b) (.Constant q k p)) h (t_of x_int fun _ _ => rfl)
  · exact fun b ns E h => bCn_el h fun q k p h => cStr_el (P := fun q => XOk x n c ns sl (.str b) (.Constant q k p) ∧ TOk x n c ns sl (.str b) (.Constant q k p)) h fun q e => t_of (x_str e) fun _ _ => rfl
  · exact fun op a b HA HB => chk_bin hx HA HB
  · exact fun a HA ns E h => bUn_el h fun o q p h => uSub_el (P := fun o => XOk x n c ns sl (.neg a) (.UnaryOp o q p) ∧ TOk x n c ns sl (.neg a) (.UnaryOp o q p)) h fun h => t_of (x_neg (HA ns _ h).1) fun _ _ => rfl
  · exact fun a HA ns E h => bUn_el h fun o q p h => uNot_el (P := fun o => XOk x n c ns sl (.not a) (.UnaryOp o q p) ∧ TOk x n c ns sl (.not a) (.UnaryOp o q p)) h fun h => ⟨x_not (HA ns _ h).1, t_not (HA ns _ h).2⟩
  · exact fun op a b HA HB => chk_cmp hx HA HB
  · exact fun o1 o2 a b d HA HB HD => chk_cmp2 hx HA HB HD
  · exact fun a b HA HB => chk_and HA HB
  · exact fun a b HA HB => chk_or HA HB
  · exact fun t a b HT HA HB ns E h => bIf_el h fun e1 e2 e3 p h => and_el h fun h1 h => and_el h fun h2 h3 => ⟨x_ite (HT ns _ h1).2 (HA ns _ h2).1 (HB ns _ h3).1, t_ite (HT ns _ h1).2 (HA ns _ h2).2 (HB ns _ h3).2⟩
  · exact fun f as HF HA => chk_call hx C HF HA
  · exact fun o nm as HO HA => chk_meth hx C HO HA
  · exact fun o nm HO ns E h => bAttr_el h fun oe q p h => and_el h fun h1 h => and_el h fun h2 h3 => t_of (x_attr hx.toCxOk2 (eq_of_beq h1) (not_t h2) (HO ns _ h3).1) fun _ _ => rfl
  · exact fun o i HO HI ns E h => bSub_el h fun oe ie p h => and_el h fun h1 h => and_el h fun h2 h3 => t_of (x_sub hx.toCxOk (not_t h1) (HO ns _ h2).1 (HI ns _ h3).1) fun _ _ => rfl
  · exact fun o hi HO HI => chk_cut HO HI
  · exact fun l HL ns E h => bTup_el h fun es k p h => t_of (x_tup (HL ns _ h).1) fun _ _ => rfl
  · exact fun l HL ns E h => bList_el h fun es p h => t_of (x_list (HL ns _ h).1) fun _ _ => rfl
  · exact fun ns E h => bDict_el h fun a b p h => b0_el (P := fun a => XOk x n c ns sl .dict0 (.Dict a b p) ∧ TOk x n c ns sl .dict0 (.Dict a b p)) h fun h => b0_el (P := fun b => XOk x n c ns sl .dict0 (.Dict [] b p) ∧ TOk x n c ns sl .dict0 (.Dict [] b p)) h fun _ => t_of x_dict0 fun _ _ => rfl
  · exact fun elt v it cond HE HI HC ns E h => chkX_comp (P := fun E => XOk x n c ns sl (.comp elt v it cond) E ∧ TOk x n c ns sl (.comp elt v it cond) E) h fun Ee xq xp ie ifs sc pos h2 h3 h4 h5 h6 h7 =>
      t_of (x_comp hx.toCxOk4 (compScope_of h3) hsl h0 h2 h5 (HI ns _ h4).1 (HE _ _ h6).1 (cond_of HC h7)) fun _ _ => rfl
  · exact fun a HA ns E h => ⟨x_freeze (HA ns E h).1, t_never fun m h y h' e => freeze_never e⟩
  · exact fun ns es h => b0_el (P := fun es => XsOk x n c ns sl [] es ∧ ∀ e ∈ es, isStarE e = false) h fun _ => ⟨xs_nil, fun _ q => (nomatch q)⟩
  · exact fun a l HA HL ns es h => bC_el (P := fun es => XsOk x n c ns sl (a :: l) es ∧ ∀ e ∈ es, isStarE e = false) h fun e es h => and_el h fun h1 h => and_el h fun h2 h3 =>
      ⟨xs_cons (not_t h1) (HA ns _ h2).1 (HL ns _ h3).1, fun e he => (List.mem_cons.mp he).elim (fun q => q ▸ not_t h1) ((HL ns _ h3).2 e)⟩
theorem chkX_sound (hx : CxOk5 x) (C : CalleeOk x n c) (hsl : sl.Nodup) (h0 : Str.ofString ".0" ∉ sl) {e : X} {ns : NS} {E : Expr} (h : chkX ns sl e E = true) : XOk x n c ns sl e E ∧ TOk x n c ns sl e E := chk_all hx C hsl h0 e ns E h
end
end Mine
end

section
set_option maxRecDepth 10000
namespace Mine
open PySem PySem.W PySem.Calls PyProof.Rows

noncomputable abbrev sto (c : Callee) := store kind meTab clsMeth c

section
variable {x : Cx} {env : Env} {sl : List Str} {m m' : Loc} {L lo : Addr} {ccs cs : List Addr} {ρ ρ1 ρ' : Rho} {h h' h1 : H} {A : Around} {s s2 : Shared} {n : Nat} {hp hp1 hp' : Heap} {c : Callee} {ns : NS} {wr : Bool} {t1 : Nat} {E : Value → Shared → Prop}

theorem or_el {a b : Bool} (h : (a || b) = true) : a = true ∨ b = true := (Bool.or_eq_true a b).mp h
theorem assignEach_names {l : List Nat} : ∀ {es : List Expr}, chkNames ns sl l es = true → ((assignEach es env).findIdx? (·.1) = none) ∧ (assignEach es env).length = es.length ∧ l.length = es.length := by
  induction l with
  | nil => exact fun h => b0_el (P := fun es => ((assignEach es env).findIdx? (·.1) = none) ∧ (assignEach es env).length = es.length ∧ [].length = es.length) h fun _ => ⟨rfl, rfl, rfl⟩
  | cons i l ih =>
    exact fun h => bC_el (P := fun es => ((assignEach es env).findIdx? (·.1) = none) ∧ (assignEach es env).length = es.length ∧ (i :: l).length = es.length) h fun e es h => and_el h fun h1 h2 =>
      bName_el (P := fun e => ((assignEach (e :: es) env).findIdx? (·.1) = none) ∧ (assignEach (e :: es) env).length = (e :: es).length ∧ (i :: l).length = (e :: es).length) h1 fun q p _ => by
        have Z := ih h2
        refine ⟨?_, congrArg Nat.succ Z.2.1, congrArg Nat.succ Z.2.2⟩
        show List.findIdx? _ ((false, assign (.Name q p) env) :: assignEach es env) = none
        rw [List.findIdx?_cons, Z.1]; rfl

theorem loc_name {q : Str} {p : Pos} (h : locName ns (.Name q p) = true) : ns.lookup q = some .local := eq_of_beq (show (ns.lookup q == some .local) = true from h)
theorem assign_names (Fm : Frm x env ns sl L ccs cs wr) (l : List Nat) : ∀ {es : List Expr} {ys : List V} {us : List Value} {m : Loc} {ρ : Rho} {h : H} {s : Shared}, chkNames ns sl l es = true → (wr = true ∨ es.all (locName ns) = true) →
    setNames l ys m = some m' → RelL x okF ρ h s.heap ys us → GoodS x env sl m L ccs cs lo ρ h s.heap → wpAny (model x.prog x.w) A (assignInOrder ((assignEach es env).map (·.2)) us) (fun _ => StPost x env sl L ccs cs lo ρ h s m' h) noE s := by
  induction l with
  | nil =>
    intro es ys us m ρ h s hc hw e r G
    exact b0_el (P := fun es => wpAny (model x.prog x.w) A (assignInOrder ((assignEach es env).map (·.2)) us) (fun _ => StPost x env sl L ccs cs lo ρ h s m' h) noE s) hc fun _ => l0_el e fun q e => relL_nil (show RelL x okF ρ h s.heap [] us from q ▸ r) (some_el e (wpAny_pure (GoodS.post G s.toks)))
  | cons i l ih =>
    intro es ys us m ρ h s hc
    refine bC_el (P := fun es => (wr = true ∨ es.all (locName ns) = true) → setNames (i :: l) ys m = some m' → RelL x okF ρ h s.heap ys us → GoodS x env sl m L ccs cs lo ρ h s.heap → wpAny (model x.prog x.w) A (assignInOrder ((assignEach es env).map (·.2)) us) (fun _ => StPost x env sl L ccs cs lo ρ h s m' h) noE s) hc fun E es hc => and_el hc fun h1 h3 => ?_
    refine bName_el (P := fun E => (wr = true ∨ (E :: es).all (locName ns) = true) → setNames (i :: l) ys m = some m' → RelL x okF ρ h s.heap ys us → GoodS x env sl m L ccs cs lo ρ h s.heap → wpAny (model x.prog x.w) A (assignInOrder ((assignEach (E :: es) env).map (·.2)) us) (fun _ => StPost x env sl L ccs cs lo ρ h s m' h) noE s) h1 fun q p h1 => and_el h1 fun h1 h2 hw e r G => ?_
    have S := slotIs_of h1
    cases ys with
    | nil => exact nn e
    | cons y ys =>
      refine if_el e fun _ e => relL_cons r fun u us ru rl => ?_
      have hw1 : wr = true ∨ ns.lookup q = some .local := hw.imp id fun z => and_el z fun a _ => loc_name a
      have hw2 : wr = true ∨ es.all (locName ns) = true := hw.imp id fun z => and_el z fun _ b => b
      show wpAny _ A (do holding us (assign (.Name q p) env u); assignInOrder ((assignEach es env).map (·.2)) us) _ _ _
      refine wpAny_bind (wpAny_holding (wpAny_assign_Name (store_nm Fm G S.1 S.2.1 (bne_iff_ne.mp h2) hw1 ru fun ρ1 hp1 t1 st G1 => ?_)))
      exact wpAny_mono (ih (s := { s with heap := hp1, toks := t1 }) h3 hw2 e (rl.step st G.g.fr) G1) (fun _ s4 P => StPost.after st P) fun _ _ e => e

theorem setNames_length {l : List Nat} : ∀ {ys : List V} {m m' : Loc}, setNames l ys m = some m' → l.length = ys.length := by
  induction l with
  | nil => exact fun e => l0_el e fun q _ => q ▸ rfl
  | cons i l ih =>
    intro ys m m' e
    cases ys with
    | nil => exact nn e
    | cons y ys => exact if_el e fun _ e => congrArg Nat.succ (ih e)

theorem store_names_sound (hx : CxOk5 x) {l : List Nat} {es : List Expr} {p : Pos} (R : Room n A) (Fm : Frm x env ns sl L ccs cs wr) (hc : chkNames ns sl l es = true) (hw : wr = true ∨ es.all (locName ns) = true) {ys : List V} {u : Value} (e : setNames l ys m = some m')
    (r : Rel x okF ρ h s.heap (.tup ys) u) (G : GoodS x env sl m L ccs cs lo ρ h s.heap) {kk : _} : wpAny (model x.prog x.w) A (assign (.Tuple es kk p) env u) (fun _ => StPost x env sl L ccs cs lo ρ h s m' h) noE s := by
  refine rel_tup r fun a us it no hb rl => ?_
  have Z := assignEach_names (env := env) hc
  rw [arm_assign_Tuple]
  refine wpAny_bind (wpAny_standAt ?_)
  unfold unpack
  rw [show (assignEach es env).length = us.toArray.size from Z.2.1.trans (Z.2.2.symm.trans ((setNames_length e).trans ((relL_length rl).trans List.size_toArray.symm))), Z.1]
  refine wpAny_bind (wpAny_holding (with_size (wpAny_unpackItems_tuple R.none it fun hp1 xb z => ?_)))
  have RS : Res x L lo ρ h s.heap ρ h hp1 := G.g.grow (fun b o e => xb b o (Nat.ne_of_lt (Heap.lt_size e)) e) z
  exact wpAny_mono (assign_names (s := { s with heap := hp1 }) Fm l hc hw e (rl.res RS G.g) (G.next RS)) (fun _ s4 P => StPost.after (t1 := s.toks) RS.st.wide P) fun _ _ e => e
theorem store_sound (hx : CxOk5 x) (C : CalleeOk x n c) {t : T} {te : Expr} (hc : chkT ns sl t te = true) (hw : (wr || chkNoCell ns t te) = true) (R : Room n A) (Fm : Frm x env ns sl L ccs cs wr) {y : V} {u : Value} (e : sto c t y m h = some (m', h'))
    (r : Rel x okF ρ h s.heap y u) (G : GoodS x env sl m L ccs cs lo ρ h s.heap) : wpAny (model x.prog x.w) A (assign te env u) (fun _ => StPost x env sl L ccs cs lo ρ h s m' h') noE s := by
  cases t with
  | name i =>
    refine bName_el (P := fun te => (wr || chkNoCell ns (.name i) te) = true → wpAny (model x.prog x.w) A (assign te env u) (fun _ => StPost x env sl L ccs cs lo ρ h s m' h') noE s) hc (fun q p hc hw => and_el hc fun h1 h2 => ?_) hw
    have S := slotIs_of h1
    exact if_el e fun _ e => pair_el e (wpAny_assign_Name (store_nm Fm G S.1 S.2.1 (bne_iff_ne.mp h2) ((or_el hw).imp id loc_name) r fun ρ1 hp1 t1 st G1 => ⟨ρ1, hp1, t1, rfl, st, G1⟩))
  | names l =>
    refine bTup_el (P := fun te => (wr || chkNoCell ns (.names l) te) = true → wpAny (model x.prog x.w) A (assign te env u) (fun _ => StPost x env sl L ccs cs lo ρ h s m' h') noE s) hc (fun es k p hc hw => ?_) hw
    exact vT_el e fun ys q e => onS_el e fun m1 e1 e => pair_el e (store_names_sound hx R Fm hc (or_el hw) e1 (q ▸ r) G)
  | attr o nm =>
    refine bAttr_el hc fun oe q p hc => and_el hc fun h0 h2 => ?_
    have HX : XOk x n c ns sl o oe := (chkX_sound hx C Fm.nd Fm.s0 h2).1
    refine onPL_el (store_attr.symm.trans e) fun l h1 e1 e => oI_el e fun Ci fs ei e => if_el e fun hcl e => pair_el e ?_
    rw [arm_assign_Attribute]
    refine wpAny_bind (wpAny_holding (XOk.seq HX R Fm.ev e1 G.g fun ρ1 hp1 t1 v r1 q1 => ?_))
    have G1 := G.next r1
    refine wpAny_bind (wpAny_standAt (wpAny_bind (wpAny_holding (setAttr_sound (s := { s with heap := hp1, toks := t1 }) hx.toCxOk4 G1.g ei q1 (r.res r1 G.g) (eq_of_beq h0) (Option.isNone_iff_eq_none.mp hcl.1) hcl.2 fun hp2 t2 r2 => ?_))))
    exact wpAny_release (StPost.after r1.st.wide (Res.stPost (s := { s with heap := hp1, toks := t1 }) r2 G1 t2))
  | sub o i =>
    refine bSub_el hc fun oe ie p hc => and_el hc fun h0 h1 => and_el h1 fun h1 h2 => ?_
    have HX : XOk x n c ns sl o oe := (chkX_sound hx C Fm.nd Fm.s0 h1).1
    have HI : XOk x n c ns sl i ie := (chkX_sound hx C Fm.nd Fm.s0 h2).1
    refine onPL_el (store_sub.symm.trans e) fun l h1 e1 e => onPI_el e fun k h2 e2 e => ?_
    rw [arm_assign_Subscript]
    refine wpAny_bind (wpAny_holding (XOk.seq HX R Fm.ev e1 G.g fun ρ1 hp1 t1 v r1 q1 => ?_))
    have G1 := G.next r1
    refine wpAny_bind (wpAny_holding (XOk.seq HI (s := { s with heap := hp1, toks := t1 }) R Fm.ev e2 G1.g fun ρ2 hp2 t2 w r2 q2 => ?_))
    have G2 := G1.next r2
    refine wpAny_bind (wpAny_standAt (wpAny_bind (wpAny_holding (setItem_sound (s := { s with heap := hp2, toks := t2 }) hx.toCxOk4 G2.g (q1.res r2 G1.g) q2 ((r.res r1 G.g).res r2 G1.g) e fun hm hp3 t3 r3 => ?_))))
    exact hm ▸ wpAny_release (StPost.after (r1.trans r2).st.wide (Res.stPost (s := { s with heap := hp2, toks := t2 }) r3 G2 t3))
end
end Mine
end

section
set_option maxRecDepth 10000
namespace Mine
open PySem PySem.W PySem.Calls PyProof.Rows

noncomputable abbrev exS (c : Callee) := Mine.exec kind meTab clsMeth c
noncomputable abbrev exSs (c : Callee) := Mine.execs kind meTab clsMeth c

/-- the frame of the one function that makes functions -/
structure DefFrm (x : Cx) (env : Env) (lo : Addr) (ρ : Rho) : Prop where
  code : env.code = .ref 889
  cell : ∀ q a, env.cells.lookup q = some a → lo ≤ a
def FlRel (x : Cx) (ρ : Rho) (h : H) (hp : Heap) (fl : Fl) (f : Flow) : Prop := match fl with
  | .next => f = .next
  | .cont => f = .cont
  | .ret y => ∃ v, f = .ret v ∧ Rel x okF ρ h hp y v
def SPost (x : Cx) (env : Env) (sl : List Str) (L : Addr) (ccs cs : List Addr) (lo : Addr) (ρ : Rho) (h : H) (s : Shared) (fl : Fl) (m' : Loc) (h' : H) (f : Flow) (s' : Shared) : Prop :=
  ∃ ρ' hp t, s' = { s with heap := hp, toks := t } ∧ Step L cs lo ρ h s.heap ρ' h' hp ∧ GoodS x env sl m' L ccs cs lo ρ' h' hp ∧ FlRel x ρ' h' hp fl f
def SOk (x : Cx) (n : Nat) (c : Callee) (ns : NS) (sl : List Str) (wr : Bool) (st : S) (T : Stmt) : Prop :=
  ∀ {A : Around} {env : Env} {L lo : Addr} {ccs cs : List Addr} {m : Loc} {h : H} {fl : Fl} {m' : Loc} {h' : H} {ρ : Rho} {s : Shared}, Room n A → Frm x env ns sl L ccs cs wr → (wr = false → DefFrm x env lo ρ) → exS c st m h = some (fl, m', h') →
    GoodS x env sl m L ccs cs lo ρ h s.heap → wpAny (model x.prog x.w) A (PySem.exec T env) (SPost x env sl L ccs cs lo ρ h s fl m' h') noE s
def SsOk (x : Cx) (n : Nat) (c : Callee) (ns : NS) (sl : List Str) (wr : Bool) (st : List S) (T : List Stmt) : Prop :=
  ∀ {A : Around} {env : Env} {L lo : Addr} {ccs cs : List Addr} {m : Loc} {h : H} {fl : Fl} {m' : Loc} {h' : H} {ρ : Rho} {s : Shared}, Room n A → Frm x env ns sl L ccs cs wr → (wr = false → DefFrm x env lo ρ) → exSs c st m h = some (fl, m', h') →
    GoodS x env sl m L ccs cs lo ρ h s.heap → wpAny (model x.prog x.w) A (PySem.execs T env) (SPost x env sl L ccs cs lo ρ h s fl m' h') noE s

section
variable {x : Cx} {env : Env} {sl : List Str} {m m' : Loc} {L lo : Addr} {ccs cs : List Addr} {ρ ρ1 ρ' : Rho} {h h' h1 : H} {A : Around} {s s2 : Shared} {n : Nat} {hp hp1 hp' : Heap} {c : Callee} {ns : NS} {wr : Bool} {t1 : Nat} {fl : Fl} {f : Flow}

theorem SPost.el {P : Flow → Shared → Prop} (p : SPost x env sl L ccs cs lo ρ h s fl m' h' f s2) (k : ∀ ρ1 hp1 t1 f, Step L cs lo ρ h s.heap ρ1 h' hp1 → GoodS x env sl m' L ccs cs lo ρ1 h' hp1 → FlRel x ρ1 h' hp1 fl f → P f { s with heap := hp1, toks := t1 }) : P f s2 := by
  obtain ⟨ρ', hp, t, rfl, r, q, z⟩ := p
  exact k _ _ _ _ r q z
theorem SPost.after (r1 : Step L cs lo ρ h s.heap ρ1 h1 hp1) (P : SPost x env sl L ccs cs lo ρ1 h1 { s with heap := hp1, toks := t1 } fl m' h' f s2) : SPost x env sl L ccs cs lo ρ h s fl m' h' f s2 :=
  P.el (P := SPost x env sl L ccs cs lo ρ h s fl m' h') fun ρ' hp t f r q z => ⟨ρ', hp, t, rfl, r1.trans r, q, z⟩
theorem StPost.next (P : StPost x env sl L ccs cs lo ρ h s m' h' s2) : SPost x env sl L ccs cs lo ρ h s .next m' h' .next s2 :=
  P.el (P := SPost x env sl L ccs cs lo ρ h s .next m' h' .next) fun ρ' hp t r q => ⟨ρ', hp, t, rfl, r, q, rfl⟩
theorem DefFrm.step (D : DefFrm x env lo ρ) (S : Step L cs lo ρ h hp ρ' h' hp') : DefFrm x env lo ρ' := ⟨D.code, D.cell⟩
theorem SOk.seq {st : S} {T : Stmt} {P : Flow → Shared → Prop} (H : SOk x n c ns sl wr st T) (R : Room n A) (Fm : Frm x env ns sl L ccs cs wr) (D : wr = false → DefFrm x env lo ρ) (e : exS c st m h = some (fl, m', h')) (G : GoodS x env sl m L ccs cs lo ρ h s.heap)
    (k : ∀ ρ1 hp1 t1 f, Step L cs lo ρ h s.heap ρ1 h' hp1 → GoodS x env sl m' L ccs cs lo ρ1 h' hp1 → FlRel x ρ1 h' hp1 fl f → P f { s with heap := hp1, toks := t1 }) : wpAny (model x.prog x.w) A (PySem.exec T env) P noE s :=
  wpAny_mono (H R Fm D e G) (fun _ _ p => p.el k) fun _ _ e => e
theorem SsOk.seq {st : List S} {T : List Stmt} {P : Flow → Shared → Prop} {E : Value → Shared → Prop} (H : SsOk x n c ns sl wr st T) (R : Room n A) (Fm : Frm x env ns sl L ccs cs wr) (D : wr = false → DefFrm x env lo ρ) (e : exSs c st m h = some (fl, m', h')) (G : GoodS x env sl m L ccs cs lo ρ h s.heap)
    (k : ∀ ρ1 hp1 t1 f, Step L cs lo ρ h s.heap ρ1 h' hp1 → GoodS x env sl m' L ccs cs lo ρ1 h' hp1 → FlRel x ρ1 h' hp1 fl f → P f { s with heap := hp1, toks := t1 }) : wpAny (model x.prog x.w) A (PySem.execs T env) P E s :=
  wpAny_mono (H R Fm D e G) (fun _ _ p => p.el k) fun _ _ e => e.elim

theorem not_interactive (hk : env.scope.kind = .function) : interactive env = false := by unfold interactive; rw [hk]; rfl
theorem swaps_no {v : Expr} (h : isCompE v = false) (t : Option Expr) (line : Nat) : swapsWith v t line env = pure false := by
  cases v <;> first | rfl | exact ff h.symm
theorem swapped_no {te v : Expr} (h : (isTupE te && isTupE v) = false) : swappedStores [te] v env = pure none := by
  cases te <;> first | rfl | (cases v <;> first | rfl | exact ff h.symm)

theorem s_expr {e : X} {v : Expr} {pos : Pos} (hc : isCompE v = false) (H1 : XOk x n c ns sl e v) : SOk x n c ns sl wr (.expr e) (.Expr v pos) := fun R Fm D e G =>
  onP_el (exec_expr.symm.trans e) fun y h1 e1 e => trip_el e (wpAny_Expr_any (H1.seq R Fm.ev e1 G.g fun ρ1 hp1 t1 v r1 q1 => StPost.next (Res.stPost r1 G t1)) (not_interactive Fm.ev.kind) (swaps_no hc _ _))

theorem assignEach_T {t : T} {te : Expr} (h : chkT ns sl t te = true) : (assignEach [te] env).map (·.2) = [PySem.assign te env] := by
  cases t with
  | name i => exact bName_el h fun _ _ _ => rfl
  | names l => exact bTup_el h fun _ _ _ _ => rfl
  | attr o nm => exact bAttr_el h fun _ _ _ _ => rfl
  | sub o i => exact bSub_el h fun _ _ _ _ => rfl
theorem s_asg (hx : CxOk5 x) (C : CalleeOk x n c) {t : T} {te v : Expr} {e : X} {pos : Pos} (hc : isCompE v = false) (ht : chkT ns sl t te = true) (hw : (wr || chkNoCell ns t te) = true) (htup : (isTupE te && isTupE v) = false) (H1 : XOk x n c ns sl e v) : SOk x n c ns sl wr (.asg t e) (.Assign [te] v pos) := fun {A env L lo ccs cs m h fl m' h' ρ s} R Fm D e G =>
  onP_el (exec_asg.symm.trans e) fun y h1 e1 e => onP_el e fun m1 h2 e2 e => trip_el e (wpAny_Assign_stores (H1.seq R Fm.ev e1 G.g fun ρ1 hp1 t1 v r1 q1 => by
    rw [assignEach_T ht]
    show wpAny _ A (PySem.assign te env v) _ _ _
    exact wpAny_mono (store_sound (s := { s with heap := hp1, toks := t1 }) hx C ht hw R Fm e2 q1 (G.next r1)) (fun _ s2 P => StPost.next (StPost.after r1.st.wide P)) fun _ _ e => e) (swaps_no hc _ _) (swapped_no htup))

theorem inplace_sound {E : Value → Shared → Prop} {Q : Value → Shared → Prop} {op : B} {o : Operator} {a b z : Int} {t u : Tok} (e : binop op a b = some z) (ho : opOk op o = true) (has : addSub op = true) (hQ : ∀ t, Q (.int z t) { s with toks := s.toks + 1 }) :
    wpAny (model x.prog x.w) A (inplaceOp o (.int a t) (.int b u)) Q E s := by
  cases op with
  | add => exact eq_of_beq ho ▸ some_el (P := fun z => (∀ t, Q (.int z t) { s with toks := s.toks + 1 }) → wpAny (model x.prog x.w) A (inplaceOp .Add (.int a t) (.int b u)) Q E s) e (fun hQ => PyProof.Rows.iadd_int (hQ _)) hQ
  | sub => exact eq_of_beq ho ▸ some_el (P := fun z => (∀ t, Q (.int z t) { s with toks := s.toks + 1 }) → wpAny (model x.prog x.w) A (inplaceOp .Sub (.int a t) (.int b u)) Q E s) e (fun hQ => PyProof.Rows.isub_int (hQ _)) hQ
  | _ => exact ff has

theorem s_aug (hx : CxOk5 x) {i : Nat} {op : B} {o : Operator} {e : X} {q : Str} {v : Expr} {pos p : Pos} (hs : slotIs ns sl i q = true) (hf : ns.lookup q ≠ some .free) (ho : opOk op o = true) (has : addSub op = true) (hw : wr = true ∨ ns.lookup q = some .local) (H1 : XOk x n c ns sl e v) :
    SOk x n c ns sl wr (.aug i op e) (.AugAssign (.Name q p) o v pos) := by
  intro A env L lo ccs cs m h fl m' h' ρ s R Fm D e G
  have S := slotIs_of hs
  refine onS_el (exec_aug.symm.trans e) fun om hm e => onS_el e fun u hu e => vI_el e fun a ha e => onP_el e fun w h1 e1 e => vI_el e fun b hb e => onS_el e fun z ez e => trip_el e ?_
  subst hb ha hu
  have load : ∀ {Q : Value → Shared → Prop}, (∀ t, Q (.int a t) s) → wpAny (model x.prog x.w) A (loadName env q) Q noE s := fun {Q} hQ => G.g.names.elim fun fm N => by
    have B := N.2 i q (.int a) S.1 hm
    have kq : env.kindOf q = ns.lookup q := congrArg (·.lookup q) Fm.ev.names
    refine isLoc_el S.2.1 (fun hk => (B.loc (kq.trans hk)).elim fun v b => ?_) (fun hk => (B.cell (.inl (kq.trans hk))).elim fun cc b => b.elim fun v b => ?_) fun hk => absurd hk hf
    · exact wpAny_loadName_local Fm.ev.kind (kq.trans hk) (by rw [Fm.ev.loc]; exact N.1) b.1 (rel_int b.2 hQ)
    · exact wpAny_loadName_cell Fm.ev.kind (kq.trans hk) b.1 b.2.1 (rel_int b.2.2.2 hQ)
  refine wpAny_AugAssign_Name (load fun t => H1.seq R Fm.ev e1 G.g fun ρ1 hp1 t1 v r1 q1 => rel_int q1 fun tb => ?_)
  refine inplace_sound (s := { s with heap := hp1, toks := t1 }) ez ho has fun tz => ?_
  exact store_nm (s := { s with heap := hp1, toks := t1 + 1 }) (y := .int z) Fm (G.next r1) S.1 S.2.1 hf hw ⟨tz, rfl⟩ fun ρ2 hp2 t2 st G2 => StPost.next (StPost.after (t1 := t1 + 1) r1.st.wide ⟨ρ2, hp2, t2, rfl, st, G2⟩)

theorem fldOf_el {m : Option Nat} {fs : List (Nat × V)} {nm : Nat} {u : V} (e : fldOf m fs nm = some u) : m = none ∧ fs.lookup nm = some u := if_el e fun q e => ⟨Option.isNone_iff_eq_none.mp q, e⟩
theorem s_augA (hx : CxOk5 x) {oo : X} {nm : Nat} {op : B} {o : Operator} {e : X} {q : Str} {oe v : Expr} {pos p : Pos} (hq : attrS nm = some q) (ho : opOk op o = true) (has : addSub op = true) (H1 : XOk x n c ns sl oo oe) (H2 : XOk x n c ns sl e v) :
    SOk x n c ns sl wr (.augA oo nm op e) (.AugAssign (.Attribute oe q p) o v pos) := by
  intro A env L lo ccs cs m h fl m' h' ρ s R Fm D e G
  refine onPL_el (exec_augA.symm.trans e) fun l h1 e1 e => oI_el e fun Ci fs ei e => onS_el e fun u hu e => vI_el e fun a ha e => onPI_el e fun b h2 e2 e => oI_el e fun C2 fs2 ei2 e => onS_el e fun z ez e => if_el e fun hcl e => trip_el e ?_
  subst ha
  have hm := fldOf_el hu
  refine wpAny_AugAssign_AttributeAny (H1.seq R Fm.ev e1 G.g fun ρ1 hp1 t1 v r1 q1 => ?_)
  have G1 := G.next r1
  refine getAttr_sound (s := { s with heap := hp1, toks := t1 }) hx.toCxOk2 G1.g ei q1 hq hm.1 hm.2 fun v' rv => rel_int rv fun ta => ?_
  refine H2.seq (s := { s with heap := hp1, toks := t1 + 1 }) R Fm.ev e2 G1.g fun ρ2 hp2 t2 w r2 q2 => rel_int q2 fun tb => ?_
  have G2 := G1.next r2
  refine inplace_sound (s := { s with heap := hp2, toks := t2 }) ez ho has fun tz => ?_
  exact setAttr_sound (s := { s with heap := hp2, toks := t2 + 1 }) hx.toCxOk4 G2.g ei2 (q1.res r2 G1.g) (y := .int z) ⟨tz, rfl⟩ hq (Option.isNone_iff_eq_none.mp hcl.1) hcl.2 fun hp3 t3 r3 =>
    StPost.next (StPost.after (t1 := t2 + 1) (r1.trans r2).st.wide (Res.stPost (s := { s with heap := hp2, toks := t2 + 1 }) r3 G2 t3))

theorem s_ite {t : X} {a b : List S} {te : Expr} {x1 x2 : List Stmt} {pos : Pos} (H1 : TOk x n c ns sl t te) (H2 : SsOk x n c ns sl wr a x1) (H3 : SsOk x n c ns sl wr b x2) : SOk x n c ns sl wr (.ite t a b) (.If te x1 x2 pos) :=
  fun {A env L lo ccs cs m h fl m' h' ρ s} R Fm D e G => onP_el (exec_ite.symm.trans e) fun y h1 e1 e => onT_el e
    (fun tr e => wpAny_If (H1.seq R Fm.ev e1 tr G.g fun ρ1 hp1 t1 r1 => by
      rw [if_pos rfl]
      exact wpAny_mono (H2 (s := { s with heap := hp1, toks := t1 }) R Fm (fun q => (D q).step (cs := []) r1.st) e (G.next r1)) (fun f s2 P => SPost.after r1.st.wide P) fun _ _ e => e))
    fun tr e => wpAny_If (H1.seq R Fm.ev e1 tr G.g fun ρ1 hp1 t1 r1 => by
      rw [if_neg Bool.false_ne_true]
      exact wpAny_mono (H3 (s := { s with heap := hp1, toks := t1 }) R Fm (fun q => (D q).step (cs := []) r1.st) e (G.next r1)) (fun f s2 P => SPost.after r1.st.wide P) fun _ _ e => e)

theorem s_ret0 {pos : Pos} : SOk x n c ns sl wr (.ret none) (.Return none pos) := fun {A env L lo ccs cs m h fl m' h' ρ s} R Fm D e G => trip_el e (wpAny_Return_none ⟨ρ, s.heap, s.toks, rfl, Step.refl, G, .none, rfl, rfl⟩)
theorem s_ret {e : X} {v : Expr} {pos : Pos} (H1 : XOk x n c ns sl e v) : SOk x n c ns sl wr (.ret (some e)) (.Return (some v) pos) := fun R Fm D e G =>
  onP_el (exec_ret2.symm.trans e) fun y h1 e1 e => trip_el e (wpAny_Return_some (H1.seq R Fm.ev e1 G.g fun ρ1 hp1 t1 v r1 q1 => ⟨ρ1, hp1, t1, rfl, r1.st.wide, G.next r1, v, rfl, q1⟩))
theorem s_cont {pos : Pos} : SOk x n c ns sl wr .cont (.Continue pos) := fun {A env L lo ccs cs m h fl m' h' ρ s} R Fm D e G => trip_el e (wpAny_Continue ⟨ρ, s.heap, s.toks, rfl, Step.refl, G, rfl⟩)
theorem s_pass {pos : Pos} : SOk x n c ns sl wr .pass (.Pass pos) := fun {A env L lo ccs cs m h fl m' h' ρ s} R Fm D e G => trip_el e (wpAny_Pass ⟨ρ, s.heap, s.toks, rfl, Step.refl, G, rfl⟩)
theorem ss_nil : SsOk x n c ns sl wr [] [] := fun {A env L lo ccs cs m h fl m' h' ρ s} R Fm D e G => trip_el e (wpAny_execs_nil ⟨ρ, s.heap, s.toks, rfl, Step.refl, G, rfl⟩)
theorem ss_cons {st : S} {T : Stmt} {r : List S} {Ts : List Stmt} (H1 : SOk x n c ns sl wr st T) (H2 : SsOk x n c ns sl wr r Ts) : SsOk x n c ns sl wr (st :: r) (T :: Ts) := fun {A env L lo ccs cs m h fl m' h' ρ s} R Fm D e G =>
  onN_el (execs_cons.symm.trans e) (fun e1 hne => wpAny_execs_cons (H1.seq R Fm D e1 G fun ρ1 hp1 t1 f st1 G1 q => by
      cases fl with
      | next => exact (hne rfl).elim
      | cont => exact (show f = .cont from q) ▸ ⟨ρ1, hp1, t1, rfl, st1, G1, rfl⟩
      | ret y => exact (show ∃ v, f = .ret v ∧ Rel x okF ρ1 h' hp1 y v from q).elim fun v b => b.1 ▸ ⟨ρ1, hp1, t1, rfl, st1, G1, v, rfl, b.2⟩))
    fun m1 h1 e1 e => wpAny_execs_cons (H1.seq R Fm D e1 G fun ρ1 hp1 t1 f st1 G1 q =>
      (show f = .next from q) ▸ wpAny_mono (H2 (s := { s with heap := hp1, toks := t1 }) R Fm (fun q => (D q).step st1) e G1) (fun f s2 P => SPost.after st1 P) fun _ _ e => e)
end
end Mine
end

section
set_option maxRecDepth 10000
namespace Mine
open PySem PySem.W PySem.Calls PyProof.Rows

theorem itAt_notCell {hp : Heap} {I : Addr} {k : ItK} {i : Nat} (e : ItAt hp I k i) (v : Option Value) : ¬ hp.IsCell I v := fun c => c.elim fun o' c => by
  have no : ∀ {o : Obj} {vs : Array Value}, hp.get? I = some o → o.data = .fields vs → False := fun ho hd => Data.noConfusion (hd.symm.trans ((congrArg Obj.data (Option.some.inj (ho.symm.trans c.1))).trans c.2))
  cases k with
  | list a => exact e.elim fun o e => no e.1 e.2.2
  | tup a => exact e.elim fun o e => no e.1 e.2.2
  | rng n => exact no e rfl

section
variable {x : Cx} {env : Env} {sl : List Str} {m m' : Loc} {L lo : Addr} {ccs cs : List Addr} {ρ ρ1 ρ' : Rho} {h h' h1 : H} {A : Around} {s s2 : Shared} {n : Nat} {hp hp1 hp' : Heap} {c : Callee} {ns : NS} {wr : Bool} {t1 : Nat} {fl : Fl} {f : Flow} {I : Addr}

theorem letGo_it {E : Value → Shared → Prop} {te : Expr} {u : Value} {k : ItK} {i : Nat} {Q : Unit → Shared → Prop} (it : ItAt s.heap I k i) (hQ : Q () s) : wpAny (model x.prog x.w) A (letOwnedTupleGo te (.ref I) u) Q E s := by
  have key : wpAny (model x.prog x.w) A (letOwnedTupleGo (.Tuple [] 0 default) (.ref I) u) Q E s := by
    cases u <;> first | exact wpAny_pure hQ | skip
    rename_i a
    have two : ∀ {T : String} {vs : Array Value}, (∃ o, s.heap.get? I = some o ∧ o.cls = .type T ∧ o.data = .fields vs) → (T = "list_iterator" ∨ T = "tuple_iterator") → wpAny (model x.prog x.w) A (letOwnedTupleGo (.Tuple [] 0 default) (.ref I) (.ref a)) Q E s := fun e ht => e.elim fun o e => by
      refine wpAny_bind (wpAny_load e.1 ?_)
      rw [e.2.1, e.2.2]
      rcases ht with rfl | rfl <;> exact wpAny_pure hQ
    cases k with
    | list l => exact two it (.inl rfl)
    | tup l => exact two it (.inr rfl)
    | rng n => exact wpAny_bind (wpAny_load it (wpAny_pure hQ))
  cases te <;> first | exact wpAny_pure hQ | exact key

theorem GoodS.mvI (G : GoodS x env sl m L ccs cs lo ρ h hp) (F : FrOk L (I :: cs) lo ρ h hp) (nc : ∀ v, ¬ hp.IsCell I v) (hIc : I ∉ cs) (k : ∀ b o, b ≠ I → hp.get? b = some o → hp'.get? b = some o) (z : hp.objs.size ≤ hp'.objs.size) (hL : x.H0.get? L = none) (hcs : ∀ c ∈ I :: cs, x.H0.get? c = none) :
    GoodS x env sl m L ccs cs lo ρ h hp' ∧ Step L (I :: cs) lo ρ h hp ρ h hp' := by
  obtain ⟨sim, st⟩ := G.g.sim.mv F (fun b o h1 h2 e => k b o (fun q => h2 (q ▸ .head _)) e) z hL hcs
  have cellK : ∀ {c : Addr} {v : Option Value}, hp.IsCell c v → hp'.IsCell c v := fun {c v} e => e.imp fun o e => ⟨k c o (fun q => nc v ⟨o, q ▸ e.1, e.2⟩) e.1, e.2⟩
  obtain ⟨fm, nsL, all⟩ := G.g.names
  have neL : I ≠ L := (F.cell I (.head _)).1.elim fun o e => ns_cell nsL e.1 e.2
  have nsL' : hp'.Ns L fm := nsL.imp fun oL e => e.imp fun es e => e.imp fun ep e => ⟨k L oL (Ne.symm neL) e.1, e.2⟩
  refine ⟨⟨⟨sim, ⟨⟨_, nsL'⟩, G.g.fr.no, fun c hc => (G.g.fr.cell c hc).imp (fun e => e.imp fun o e => ⟨k c o (fun q => hIc (q ▸ hc)) e.1, e.2⟩) id, Nat.le_trans G.g.fr.lo z⟩, fm, nsL', fun j p y hs hm => ?_⟩, fun c hc => (G.cc c hc).imp fun v e => cellK e, G.sub⟩, st⟩
  have B := all j p y hs hm
  exact ⟨fun e => (B.loc e).imp fun w b => ⟨b.1, b.2.step st F⟩, fun e => (B.cell e).imp fun c b => b.imp fun w b => ⟨b.1, cellK b.2.1, b.2.2.1, b.2.2.2.step st F⟩⟩

/-! ### while -/
theorem whileN_el {test : Loc → H → Option (Bool × H)} {body : Loc → H → Option (Fl × Loc × H)} {k : Nat} {r : Fl × Loc × H} {P : Prop} (e : whileN test body (k + 1) m h = some r) (k1 : ∀ h1, test m h = some (true, h1) → onF (body m h1) left (whileN test body k) = some r → P)
    (k2 : ∀ h1, test m h = some (false, h1) → some (.next, m, h1) = some r → P) : P :=
  onP_el e fun b h1 q e => by
    cases b with
    | true => exact k1 h1 q e
    | false => exact k2 h1 q e
def WInv (x : Cx) (env : Env) (sl : List Str) (L : Addr) (ccs cs : List Addr) (lo : Addr) (ρ : Rho) (h : H) (s : Shared) (F : Nat → Loc → H → Option (Fl × Loc × H)) (r : Fl × Loc × H) (k : Nat) (s1 : Shared) : Prop :=
  ∃ ρi hi mi hp t, s1 = { s with heap := hp, toks := t } ∧ Step L cs lo ρ h s.heap ρi hi hp ∧ GoodS x env sl mi L ccs cs lo ρi hi hp ∧ F k mi hi = some r
theorem WInv.el {F : Nat → Loc → H → Option (Fl × Loc × H)} {r : Fl × Loc × H} {k : Nat} {s1 : Shared} {P : Shared → Prop} (J : WInv x env sl L ccs cs lo ρ h s F r k s1)
    (c : ∀ ρi hi mi hp t, Step L cs lo ρ h s.heap ρi hi hp → GoodS x env sl mi L ccs cs lo ρi hi hp → F k mi hi = some r → P { s with heap := hp, toks := t }) : P s1 := by
  obtain ⟨ρi, hi, mi, hp, t, rfl, a, b, d⟩ := J
  exact c _ _ _ _ _ a b d
theorem not_wr (hwr : wr = true) {P : Prop} (q : wr = false) : P := nomatch hwr.symm.trans q
theorem s_while {t : X} {b : List S} {te : Expr} {body : List Stmt} {pos : Pos} (hwr : wr = true) (H1 : TOk x n c ns sl t te) (H2 : SsOk x n c ns sl wr b body) : SOk x n c ns sl wr (.whil t b) (.While te body [] pos) := by
  intro A env L lo ccs cs m h fl m' h' ρ s R Fm D e G
  refine wpAny_While (codeAny_whileLoop (I := WInv x env sl L ccs cs lo ρ h s (whileN (fun m h => tested (evalX kind meTab clsMeth c t m h)) (fun m h => Mine.execs kind meTab clsMeth c b m h)) (fl, m', h')) (fun k s1 J => J.el fun ρi hi mi hpi ti st Gi ei => ?_) 40 ⟨ρ, h, m, s.heap, s.toks, rfl, Step.refl, G, exec_whil.symm.trans e⟩)
  cases k with
  | zero => exact nn ei
  | succ k =>
    refine whileN_el ei (fun h2 et ei => tested_el et fun v hte htr => ?_) fun h2 et ei => tested_el et fun v hte htr => ?_
    · refine H1.seq (s := { s with heap := hpi, toks := ti }) R Fm.ev hte htr Gi.g fun ρ2 hp2 t2 r2 => ?_
      have st2 := st.trans (r2.st.wide (cs := cs))
      refine onF_el ei (fun y m1 h3 eb ei => ?_) fun f1 m1 h3 eb hne ei => ?_
      · refine trip_el ei (H2.seq (s := { s with heap := hp2, toks := t2 }) R Fm (not_wr hwr) eb (Gi.next r2) fun ρ3 hp3 t3 f st3 G3 q => ?_)
        exact (show ∃ v, f = .ret v ∧ Rel x okF ρ3 h3 hp3 y v from q).elim fun v b => b.1 ▸ ⟨ρ3, hp3, t3, rfl, st2.trans st3, G3, v, rfl, b.2⟩
      · refine H2.seq (s := { s with heap := hp2, toks := t2 }) R Fm (not_wr hwr) eb (Gi.next r2) fun ρ3 hp3 t3 f st3 G3 q => ?_
        have nx : ∃ m, m < k + 1 ∧ WInv x env sl L ccs cs lo ρ h s (whileN (fun m h => tested (evalX kind meTab clsMeth c t m h)) (fun m h => Mine.execs kind meTab clsMeth c b m h)) (fl, m', h') m { s with heap := hp3, toks := t3 } := ⟨k, Nat.lt_succ_self _, ρ3, h3, m1, hp3, t3, rfl, st2.trans st3, G3, ei⟩
        rcases hne with rfl | rfl
        · cases (show f = .next from q); exact nx
        · cases (show f = .cont from q); exact nx
    · refine H1.seq (s := { s with heap := hpi, toks := ti }) R Fm.ev hte htr Gi.g fun ρ2 hp2 t2 r2 => ?_
      exact trip_el ei (wpAny_execs_nil ⟨ρ2, hp2, t2, rfl, st.trans (r2.st.wide (cs := cs)), Gi.next r2, rfl⟩)
end
end Mine
end

section
set_option maxRecDepth 10000
namespace Mine
open PySem PySem.W PySem.Calls PyProof.Rows

section
variable {x : Cx} {env : Env} {sl : List Str} {m m' : Loc} {L lo : Addr} {ccs cs : List Addr} {ρ ρ1 ρ' : Rho} {h h' h1 : H} {A : Around} {s s2 : Shared} {n : Nat} {hp hp1 hp' hp0 : Heap} {c : Callee} {ns : NS} {wr : Bool} {t1 : Nat} {fl : Fl} {f : Flow} {I lo' : Addr} {k : ItK} {iv : V} {vv : Value} {ρi : Rho} {hi : H} {mi : Loc} {i : Nat}

theorem forVals_end {step : V → Loc → H → Option (Fl × Loc × H)} {ys : List V} {r : Fl × Loc × H} (hn : ys[i]? = none) (e : forVals step (ys.drop i) m h = some r) : some (.next, m, h) = some r := by
  rw [List.drop_eq_nil_iff.mpr (List.getElem?_eq_none_iff.mp hn)] at e
  exact e
theorem forVals_turn {step : V → Loc → H → Option (Fl × Loc × H)} {ys : List V} {z : V} {r : Fl × Loc × H} (hz : ys[i]? = some z) (e : forVals step (ys.drop i) m h = some r) : onF (step z m h) left (forVals step (ys.drop (i + 1))) = some r ∧ ys.length - (i + 1) < ys.length - i := by
  obtain ⟨hlt, q⟩ := List.getElem?_eq_some_iff.mp hz
  rw [List.drop_eq_getElem_cons hlt, q] at e
  exact ⟨e, Nat.sub_lt_sub_left hlt (Nat.lt_succ_self i)⟩

/-- what a for keeps -/
structure FInv (x : Cx) (env : Env) (sl : List Str) (L : Addr) (ccs cs : List Addr) (lo' I : Addr) (ρ : Rho) (h : H) (hp0 : Heap) (k : ItK) (iv : V) (vv : Value) (ρi : Rho) (hi : H) (hp : Heap) (mi : Loc) (i : Nat) : Prop where
  st : Step L (I :: cs) lo' ρ h hp0 ρi hi hp
  g : GoodS x env sl mi L ccs cs lo' ρi hi hp
  it : ItAt hp I k i
  no : ¬ owned ρi hi I ∧ I ∉ ρi.c ∧ I < lo'
  ri : Rel x okF ρi hi hp iv vv
theorem FrOk.add (F : FrOk L cs lo' ρi hi hp) (it : ItAt hp I k i) (no : ¬ owned ρi hi I ∧ I ∉ ρi.c ∧ I < lo') : FrOk L (I :: cs) lo' ρi hi hp := ⟨F.ns, F.no, fun c hc => (List.mem_cons.mp hc).elim (fun q => q ▸ ⟨itAt_mov it, no⟩) (F.cell c), F.lo⟩
theorem FInv.fr (J : FInv x env sl L ccs cs lo' I ρ h hp0 k iv vv ρi hi hp mi i) : FrOk L (I :: cs) lo' ρi hi hp := J.g.g.fr.add J.it J.no
def FAt (x : Cx) (env : Env) (sl : List Str) (L : Addr) (ccs cs : List Addr) (lo' I : Addr) (ρ : Rho) (h : H) (hp0 : Heap) (k : ItK) (iv : V) (vv : Value) (s : Shared) (F : List V → Loc → H → Option (Fl × Loc × H)) (ys : List V) (r : Fl × Loc × H) (mm : Nat) (s2 : Shared) : Prop :=
  ∃ ρi hi mi i hp t, s2 = { s with heap := hp, toks := t } ∧ FInv x env sl L ccs cs lo' I ρ h hp0 k iv vv ρi hi hp mi i ∧ mm = ys.length - i ∧ F (ys.drop i) mi hi = some r
theorem FAt.el {F : List V → Loc → H → Option (Fl × Loc × H)} {ys : List V} {r : Fl × Loc × H} {mm : Nat} {P : Shared → Prop} (J : FAt x env sl L ccs cs lo' I ρ h hp0 k iv vv s F ys r mm s2)
    (q : ∀ ρi hi mi i hp t, FInv x env sl L ccs cs lo' I ρ h hp0 k iv vv ρi hi hp mi i → mm = ys.length - i → F (ys.drop i) mi hi = some r → P { s with heap := hp, toks := t }) : P s2 := by
  obtain ⟨ρi, hi, mi, i, hp, t, rfl, a, b, d⟩ := J
  exact q _ _ _ _ _ _ a b d
/-- the iterator stands in the heap: the frame with it -/
theorem FInv.start (G1 : GoodS x env sl m L ccs cs lo ρ h hp1) (q1 : Rel x okF ρ h hp1 iv vv) {o : Obj} (ia : ItAt (hp1.push o) hp1.objs.size k 0) : FInv x env sl L ccs cs (hp1.objs.size + 1) hp1.objs.size ρ h hp1 k iv vv ρ h (hp1.push o) m 0 := by
  have G2 := G1.next (G1.g.push o)
  have ll : lo ≤ hp1.objs.size + 1 := Nat.le_succ_of_le G1.g.fr.lo
  exact { st := Step.grow (fun b o' e => Heap.get?_push_of_some o e) (by rw [Heap.size_push]; exact Nat.le_succ _)
          g := ⟨⟨G2.g.sim, ⟨G2.g.fr.ns, G2.g.fr.no, fun c hc => (G2.g.fr.cell c hc).imp id fun e => e.imp id fun e => e.imp id fun e => Nat.lt_of_lt_of_le e ll, by rw [Heap.size_push]; exact Nat.le_refl _⟩, G2.g.names⟩, G2.cc, G2.sub⟩
          it := ia
          no := ⟨G1.g.fresh (Nat.le_refl _), fun q => Nat.lt_irrefl _ (G1.g.sim.clt _ q), Nat.lt_succ_self _⟩
          ri := q1.res (G1.g.push o) G1.g }
/-- the iterator's next -/
theorem FInv.moved (J : FInv x env sl L ccs cs lo' I ρ h hp0 k iv vv ρi hi hp mi i) (hIc : I ∉ cs) (xb : ∀ b o, b ≠ I → hp.get? b = some o → hp'.get? b = some o) (z : hp.objs.size ≤ hp'.objs.size) (hL : x.H0.get? L = none) (hcs : ∀ c ∈ I :: cs, x.H0.get? c = none) :
    GoodS x env sl mi L ccs cs lo' ρi hi hp' ∧ Step L (I :: cs) lo' ρi hi hp ρi hi hp' := J.g.mvI J.fr (itAt_notCell J.it) hIc xb z hL hcs
/-- the end of the loop -/
theorem FInv.back {ρe : Rho} {he : H} {hpe : Heap} {me : Loc} (G1 : GoodS x env sl m L ccs cs lo ρ h hp1) (S : Step L (hp1.objs.size :: cs) (hp1.objs.size + 1) ρ h hp1 ρe he hpe) (Ge : GoodS x env sl me L ccs cs (hp1.objs.size + 1) ρe he hpe) :
    Step L cs lo ρ h hp1 ρe he hpe ∧ GoodS x env sl me L ccs cs lo ρe he hpe := by
  have ll : lo ≤ hp1.objs.size + 1 := Nat.le_succ_of_le G1.g.fr.lo
  exact ⟨(S.drop (Nat.le_refl _)).lower ll, ⟨Ge.g.sim, ⟨Ge.g.fr.ns, Ge.g.fr.no, fun c hc => ⟨(Ge.g.fr.cell c hc).1, (Ge.g.fr.cell c hc).2.1, (Ge.g.fr.cell c hc).2.2.1, (G1.g.fr.cell c hc).2.2.2⟩, Nat.le_trans ll Ge.g.fr.lo⟩, Ge.g.names⟩, Ge.cc, Ge.sub⟩
/-- a turn of the body -/
theorem FInv.turn {ρ5 : Rho} {h5 : H} {hp3 hp5 : Heap} {m5 : Loc} (J : FInv x env sl L ccs cs lo' I ρ h hp0 k iv vv ρi hi hp mi i) (st3 : Step L (I :: cs) lo' ρi hi hp ρi hi hp3) (it1 : ItAt hp3 I k (i + 1)) (neL : I ≠ L) (hIc : I ∉ cs) (lt3 : I < hp3.objs.size)
    (st45 : Step L cs lo' ρi hi hp3 ρ5 h5 hp5) (G5 : GoodS x env sl m5 L ccs cs lo' ρ5 h5 hp5) : FInv x env sl L ccs cs lo' I ρ h hp0 k iv vv ρ5 h5 hp5 m5 (i + 1) := by
  have st345 := st3.trans (st45.more (cs' := I :: cs) fun c hc => .tail _ hc)
  exact ⟨J.st.trans st345, G5, itAt_keep it1 fun o e => st45.keep _ o neL hIc e J.no.1, ⟨st45.own _ lt3 J.no.1, fun q => (st45.cnew _ q).elim J.no.2.1 fun q => Nat.lt_irrefl _ (Nat.lt_of_lt_of_le J.no.2.2 q), J.no.2.2⟩, J.ri.step st345 J.fr⟩
theorem s_for (hx : CxOk5 x) (C : CalleeOk x n c) {t : T} {te ie : Expr} {it : X} {b : List S} {body : List Stmt} {pos : Pos} (hwr : wr = true) (ht : chkT ns sl t te = true) (hset : isSetE ie = false) (H1 : XOk x n c ns sl it ie) (H2 : SsOk x n c ns sl wr b body) :
    SOk x n c ns sl wr (.for t it b) (.For te ie body [] pos) := by
  intro A env L lo ccs cs m h fl m' h' ρ s R Fm D e G
  refine onP_el (exec_for.symm.trans e) fun iv h1 e1 e => onS_el e fun ys hy e => wpAny_For (H1.seq R Fm.ev e1 G.g fun ρ1 hp1 t1 vv r1 q1 => ?_) (noSetF hset env)
  have G1 := G.next r1
  have hIs := G1.g.stale (Nat.le_refl hp1.objs.size)
  have hIc : hp1.objs.size ∉ cs := fun q => Nat.lt_irrefl _ (Nat.lt_of_lt_of_le (G1.g.fr.cell _ q).2.2.2 G1.g.fr.lo)
  have hcst : ∀ c ∈ hp1.objs.size :: cs, x.H0.get? c = none := fun c hc => (List.mem_cons.mp hc).elim (fun q => q ▸ hIs) (Fm.cst c)
  have neL : hp1.objs.size ≠ L := fun q => G1.g.fr.ns.elim fun fm nsL => Nat.lt_irrefl _ (q ▸ nsL.lt : hp1.objs.size < hp1.objs.size)
  refine iter_start (s := { s with heap := hp1, toks := t1 }) G1.g q1 (iterOf_elems h1 hy) fun o k ia io => ?_
  refine codeAny_forLoop_any (I := FAt x env sl L ccs cs (hp1.objs.size + 1) hp1.objs.size ρ1 h1 hp1 k iv vv s (forVals (fun v m h => onP (store kind meTab clsMeth c t v m h) fun m1 h1 => Mine.execs kind meTab clsMeth c b m1 h1)) ys (fl, m', h'))
    (fun mm s2 J => ?_) ys.length ⟨ρ1, h1, m, 0, _, t1, rfl, FInv.start G1 q1 ia, rfl, e⟩
  refine J.el fun ρi hi mi i hpi ti J hm ei => ?_
  refine it_next (s := { s with heap := hpi, toks := ti }) R.none J.g.g J.ri io J.it (iterOf_elems hi hy) (fun z u hp3 tk hz rz it1 sb => ?_) (fun hp3 hn xb z1 => ?_)
  · have T := forVals_turn hz ei
    have M := J.moved hIc (fun b o hb e => sb.extBut b o hb e) (Nat.le_of_eq sb.1.symm) Fm.ev.st hcst
    have lt3 : hp1.objs.size < hp3.objs.size := Nat.lt_of_lt_of_le (Nat.lt_succ_self _) M.1.g.fr.lo
    refine letGo_it (k := k) (i := i + 1) (s := { s with heap := hp3, toks := tk }) it1 ?_
    have run : ∀ {m4 : Loc} {h4 : H} {f1 : Fl} {m1 : Loc} {h3 : H} {P : Flow → Shared → Prop} {E : Value → Shared → Prop}, store kind meTab clsMeth c t z mi hi = some (m4, h4) → Mine.execs kind meTab clsMeth c b m4 h4 = some (f1, m1, h3) →
        (∀ ρ5 hp5 t5 f, Step L cs (hp1.objs.size + 1) ρi hi hp3 ρ5 h3 hp5 → GoodS x env sl m1 L ccs cs (hp1.objs.size + 1) ρ5 h3 hp5 → FlRel x ρ5 h3 hp5 f1 f → P f { s with heap := hp5, toks := t5 }) →
        wpAny (model x.prog x.w) A (PySem.assign te env u) (fun _ s₂ => wpAny (model x.prog x.w) A (PySem.execs body env) P E s₂) E { s with heap := hp3, toks := tk } := fun es eb fin =>
      wpAny_mono (store_sound (s := { s with heap := hp3, toks := tk }) hx C ht (by rw [hwr]; rfl) R Fm es (rz.step M.2 J.fr) M.1) (fun _ s4 P => P.el (P := fun s4 => wpAny (model x.prog x.w) A (PySem.execs body env) _ _ s4) fun ρ4 hp4 t4 st4 G4 =>
        H2.seq (s := { s with heap := hp4, toks := t4 }) R Fm (not_wr hwr) eb G4 fun ρ5 hp5 t5 f st5 G5 q => fin _ _ _ _ (st4.trans st5) G5 q) fun _ _ e => e.elim
    refine onF_el T.1 (fun y m1 h3 eb ei => ?_) fun f1 m1 h3 eb hne ei => onP_el eb fun m4 h4 es eb => run es eb fun ρ5 hp5 t5 f st45 G5 q => ?_
    · refine trip_el ei (onP_el eb fun m4 h4 es eb => run es eb fun ρ5 hp5 t5 f st45 G5 q => ?_)
      have B := FInv.back G1 (J.st.trans (M.2.trans (st45.more (cs' := hp1.objs.size :: cs) fun c hc => .tail _ hc))) G5
      exact (show ∃ v, f = .ret v ∧ Rel x okF ρ5 h3 hp5 y v from q).elim fun v b => b.1 ▸ ⟨ρ5, hp5, t5, rfl, (r1.st.wide (cs := cs)).trans B.1, B.2, v, rfl, b.2⟩
    · have nx : ∃ m, m < mm ∧ FAt x env sl L ccs cs (hp1.objs.size + 1) hp1.objs.size ρ1 h1 hp1 k iv vv s (forVals (fun v m h => onP (store kind meTab clsMeth c t v m h) fun m1 h1 => Mine.execs kind meTab clsMeth c b m1 h1)) ys (fl, m', h') m { s with heap := hp5, toks := t5 } :=
        ⟨_, hm ▸ T.2, ρ5, h3, m1, i + 1, hp5, t5, rfl, J.turn M.2 it1 neL hIc lt3 st45 G5, rfl, ei⟩
      rcases hne with rfl | rfl
      · cases (show f = .next from q); exact nx
      · cases (show f = .cont from q); exact nx
  · have M := J.moved hIc xb z1 Fm.ev.st hcst
    have B := FInv.back G1 (J.st.trans M.2) M.1
    exact trip_el (forVals_end hn ei) (wpAny_execs_nil ⟨ρi, hp3, ti, rfl, (r1.st.wide (cs := cs)).trans B.1, B.2, rfl⟩)
end
end Mine
end

section
set_option maxRecDepth 10000
namespace Mine
open PySem PySem.W PySem.Calls PyProof.Rows

section
variable {x : Cx} {env : Env} {sl : List Str} {m m' : Loc} {L lo : Addr} {ccs cs : List Addr} {ρ ρ0 ρ1 ρ' : Rho} {h h' h0 h1 : H} {A : Around} {s s2 : Shared} {n : Nat} {hp hp0 hp1 hp' : Heap} {c : Callee} {ns : NS} {wr : Bool} {t1 : Nat} {fl : Fl} {f : Flow} {C : Addr}

theorem GoodS.emptied (G : GoodS x env sl m L ccs cs lo ρ h hp) (S : Step L cs lo ρ0 h0 hp0 ρ h hp) (hC : hp0.objs.size ≤ C) (nsC : ∃ fm, hp.Ns C fm) (no : ¬ owned ρ h C) (stC : x.H0.get? C = none) (hCL : C ≠ L) (hCc : C ∉ cs) (sb : Heap.SameBut C hp hp') :
    Step L cs lo ρ0 h0 hp0 ρ h hp' ∧ GoodS x env sl m L ccs cs lo ρ h hp' := by
  have F : FrOk C [] hp.objs.size ρ h hp := ⟨nsC, no, (fun _ q => nomatch q), Nat.le_refl _⟩
  obtain ⟨sim, st⟩ := G.g.sim.upd F sb (.inl rfl) stC
  obtain ⟨fC, nsC⟩ := nsC
  obtain ⟨fm, nsL, all⟩ := G.g.names
  refine ⟨{ S with size := by rw [sb.1]; exact S.size, keep := fun b o h1 h2 e n => (sb.2 b fun q => Nat.lt_irrefl _ (Nat.lt_of_lt_of_le (Heap.lt_size e) (q ▸ hC))).trans (S.keep b o h1 h2 e n) },
    ⟨sim, ⟨⟨_, nsL.sameBut sb (Ne.symm hCL)⟩, G.g.fr.no, fun c hc => (G.g.fr.cell c hc).imp (fun e => e.imp fun o e => ⟨(sb.2 c fun q => hCc (q ▸ hc)).trans e.1, e.2⟩) id, by rw [sb.1]; exact G.g.fr.lo⟩, fm, nsL.sameBut sb (Ne.symm hCL), fun j p y hs hm => ?_⟩, fun c hc => (G.cc c hc).imp fun v e => e.sameBut sb (cell_ne e nsC), G.sub⟩
  have B := all j p y hs hm
  exact ⟨fun e => (B.loc e).imp fun w b => ⟨b.1, b.2.step st F⟩, fun e => (B.cell e).imp fun c b => b.imp fun w b => ⟨b.1, b.2.1.sameBut sb (cell_ne b.2.1 nsC), b.2.2.1, b.2.2.2.step st F⟩⟩

/-- a list is frozen -/
theorem frozen (G : Good x env sl m L cs lo ρ h hp) {k : Nat} {l : List V} {v : Value} (r : Rel x okF ρ h hp (.loc k) v) (e : h[k]? = some (.list l)) : Res x L lo ρ h hp ρ (h.set k .dead) hp ∧ Rel x okF ρ (h.set k .dead) hp (.lst l) v := by
  obtain ⟨p, hpp, rfl⟩ := r
  obtain ⟨vs, kk, il, hb, rl⟩ := G.sim.obj k p _ hpp e
  obtain ⟨sim, st, no⟩ := G.sim.kill (cs := []) G.fr.none hpp e rfl
  exact ⟨⟨st, fun m e => e, sim⟩, p.1, vs, kk, rfl, il, no, hb, rl.step st G.fr.none⟩

theorem comp_loc {elt it cond : X} {v : Nat} {y : V} {h2 : H} (e : ev c (.comp elt v it cond) m h = some (y, h2)) : ∃ k, y = .loc k := onP_el (evalX_comp.symm.trans e) fun _ _ _ e => onS_el e fun _ _ e => pair_el e ⟨_, rfl⟩
@[elab_as_elim] theorem asgC_el {P : Fl → Loc → H → Prop} {i v : Nat} {fz : Bool} {elt it cond : X} (e : exS c (.asgC i fz elt v it cond) m h = some (fl, m', h')) (k1 : ∀ k h2, ev c (.comp elt v it cond) m h = some (.loc k, h2) → P .next (m.set i (some (.loc k))) h2)
    (k2 : ∀ k h2 l, ev c (.comp elt v it cond) m h = some (.loc k, h2) → h2[k]? = some (.list l) → P .next (m.set i (some (.lst l))) (h2.set k .dead)) : P fl m' h' := by
  refine onP_el (exec_asgC.symm.trans e) fun y h1 e1 e => if_el e fun _ e => trip_el e ?_
  cases fz with
  | false => exact (comp_loc e1).elim fun k q => q ▸ k1 k h1 (q ▸ e1)
  | true => exact onPL_el (evalX_freeze.symm.trans e1) fun k h3 e3 e => oLN_el e fun l el e => pair_el e (k2 k h3 l e3 el)
theorem swaps_yes (Fm : Frm x env ns sl L ccs cs wr) {sc : Scope} {q : Str} {E : Expr} {gs : List Comprehension} {qp pos : Pos} (hk : ns.lookup q = some .local) (hline : (qp.line == pos.line) = true) (hown : (sc.names.any fun p => p.1 == q && (p.2 == .local || p.2 == .cell)) = false) (line : Nat) :
    swapsWith (.ListComp E gs sc pos) (some (.Name q qp)) line env = pure true := by
  have kq : env.kindOf q = some .local := (congrArg (·.lookup q) Fm.ev.names).trans hk
  have bk : env.blockKind = .function := by unfold Env.blockKind; rw [Fm.ev.kind]; rfl
  show pure (env.blockKind == .function && env.kindOf q == some .local && qp.line == pos.line && !(sc.names.any fun p => p.1 == q && (p.2 == .local || p.2 == .cell))) = pure true
  rw [bk, kq, hown, hline]; rfl

theorem s_asgC (hx : CxOk5 x) (Cc : CalleeOk x n c) {sc : Scope} {xq q : Str} (S : CompScope ns xq sc) {i v : Nat} {fz : Bool} (hs : slotIs ns sl i q = true) (hk : ns.lookup q = some .local) (hv : sl[v]? = some xq) {elt cond it : X} {E ie : Expr} {ifs : List Expr} {xp qp pos spos : Pos} (hset : isSetE ie = false)
    (hline : (qp.line == pos.line) = true) (hown : (sc.names.any fun p => p.1 == q && (p.2 == .local || p.2 == .cell)) = false)
    (H1 : XOk x n c ns sl it ie) (H2 : XOk x n c (compNS ns sc.names) sl elt E) (H3 : CondOk x n c (compNS ns sc.names) sl cond ifs) :
    SOk x n c ns sl wr (.asgC i fz elt v it cond) (.Assign [.Name q qp] (.ListComp E [⟨.Name xq xp, ie, ifs, 0⟩] sc pos) spos) := by
  intro A env L lo ccs cs m h fl m' h' ρ s R Fm D e G
  have S0 := slotIs_of hs
  rw [exec_Assign_Name_used _ _ _ _ (swaps_yes Fm hk hline hown _)]
  have main : ∀ {k : Nat} {h2 : H} {y : V} {hE : H}, ev c (.comp elt v it cond) m h = some (.loc k, h2) → (∀ {ρ' : Rho} {hp' : Heap} {D : Addr}, GoodS x env sl m L ccs cs lo ρ' h2 hp' → Rel x okF ρ' h2 hp' (.loc k) (.ref D) → Res x L lo ρ' h2 hp' ρ' hE hp' ∧ Rel x okF ρ' hE hp' y (.ref D)) →
      wpAny (model x.prog x.w) A (comprehension (.ListComp E [⟨.Name xq xp, ie, ifs, 0⟩] sc pos) sc env (firstIterPos [⟨.Name xq xp, ie, ifs, 0⟩] pos) (newList []) false (eval ie env) (some (PySem.assign (.Name q qp) env))) (fun _ s' => SPost x env sl L ccs cs lo ρ h s .next (m.set i (some y)) hE .next s') noE s := fun {k h2 y hE} e2 fz =>
    comp_any (use := some (PySem.assign (.Name q qp) env)) (Q := fun _ s' => SPost x env sl L ccs cs lo ρ h s .next (m.set i (some y)) hE .next s') (E' := noE) hx.toCxOk4 R Fm.ev S Fm.nd Fm.s0 hv hset H1 H2 H3 G.g e2 fun ρ' hp' tk D C r rl nsC hC no => by
      have G' := G.next r
      have Z := fz G' rl
      obtain ⟨fm, nsC⟩ := nsC
      have hCL : C ≠ L := fun z => G.g.fr.ns.elim fun fm nsL => Nat.lt_irrefl _ (Nat.lt_of_lt_of_le nsL.lt (z ▸ hC))
      have hCc : C ∉ cs := fun z => Nat.lt_irrefl _ (Nat.lt_of_lt_of_le (G.g.fr.cell _ z).2.2.2 (Nat.le_trans G.g.fr.lo hC))
      have no2 : ¬ owned ρ' hE C := Z.1.st.own C nsC.lt no
      refine wpAny_assign_Name (store_nm (s := { s with heap := hp', toks := tk }) Fm (G'.next Z.1) S0.1 S0.2.1 (by rw [hk]; exact fun q => (nomatch q)) (.inr hk) Z.2 fun ρ3 hp3 t3 st3 G3 => ?_)
      have nsC3 : hp3.Ns C fm := nsC.imp fun oC e => e.imp fun es e => e.imp fun ep e => ⟨st3.keep C oC hCL hCc e.1 no2, e.2⟩
      refine ⟨fm, nsC3, fun hq sb => ?_⟩
      have W := G3.emptied (((r.trans Z.1).st.wide (cs := cs)).trans st3) hC ⟨fm, nsC3⟩ (st3.own C nsC.lt no2) (G.g.stale hC) hCL hCc sb
      exact ⟨ρ3, hq, t3, rfl, W.1, W.2, rfl⟩
  refine asgC_el e (fun k h2 e2 => ?_) fun k h2 l e2 el => ?_
  · exact wpAny_bind (wpAny_standAt (wpAny_bind (wpAny_bind (wpAny_mono (main e2 fun G' rl => ⟨G'.g.res, rl⟩) (fun _ s' hq => wpAny_pure (wpAny_pure hq)) fun _ _ e => e))))
  · exact wpAny_bind (wpAny_standAt (wpAny_bind (wpAny_bind (wpAny_mono (main e2 fun G' rl => frozen G'.g rl el) (fun _ s' hq => wpAny_pure (wpAny_pure hq)) fun _ _ e => e))))
end
end Mine
end

section
set_option maxRecDepth 10000
namespace Mine
open PySem PySem.W PySem.Calls PyProof.Rows

section
variable {x : Cx} {n : Nat} {c : Callee} {sl : List Str} {ns : NS} {wr : Bool} {nest : Nat → Arguments → List Stmt → Scope → Bool}

theorem chkDef_el {P : Stmt → Prop} {i k : Nat} {js : List Nat} {line col : Int} {T : Stmt} (h : chkDef nest ns sl wr i k js line col T = true) (kk : ∀ name args body sc (pos : Pos), args.kw_defaults = [] → nest k args body sc = true → wr = false → slotIs ns sl i name = true → ns.lookup name = some .local → noDflt args = true → args.defaults = [] →
      ((pos.line : Int) = line) → ((pos.col : Int) = col) → js.all (cellAt ns sl) = true → js.filterMap (sl[·]?) = ((sc.names.filter (·.2 == .free)).map (·.1)).reverse → P (.FunctionDef name args body [] none [] sc none name pos)) : P T :=
  sDef_el h fun name args body dl r tp sc ts bind pos h => b0_el (P := fun dl => P (.FunctionDef name args body dl r tp sc ts bind pos)) h fun h => bN_el (P := fun r => P (.FunctionDef name args body [] r tp sc ts bind pos)) h fun h => b0_el (P := fun tp => P (.FunctionDef name args body [] none tp sc ts bind pos)) h fun h => bN_el (P := fun ts => P (.FunctionDef name args body [] none [] sc ts bind pos)) h fun h =>
    and_el h fun h1 h => and_el h fun h2 h => and_el h fun h3 h => and_el h fun h4 h => and_el h fun h5 h => and_el h fun h6 h => and_el h fun h7 h => and_el h fun h8 h => and_el h fun h9 h => and_el h fun h10 h => and_el h fun h11 h12 =>
      (eq_of_beq h1 : name = bind) ▸ kk bind args body sc pos (List.isEmpty_iff.mp h2) h3 (not_t h4) h5 (eq_of_beq h6) h7 (List.isEmpty_iff.mp h8) (eq_of_beq h9) (eq_of_beq h10) h11 (eq_of_beq h12)
def DefnsOk (x : Cx) (n : Nat) (c : Callee) (ns : NS) (sl : List Str) (nest : Nat → Arguments → List Stmt → Scope → Bool) : Prop :=
  ∀ i k cs line col T, chkDef nest ns sl false i k cs line col T = true → SOk x n c ns sl false (.defn i k cs line col) T

def ST (x : Cx) (n : Nat) (c : Callee) (ns : NS) (sl : List Str) (nest : Nat → Arguments → List Stmt → Scope → Bool) (wr : Bool) (st : S) : Prop := ∀ T, chkS nest ns sl wr st T = true → SOk x n c ns sl wr st T
def SsT (x : Cx) (n : Nat) (c : Callee) (ns : NS) (sl : List Str) (nest : Nat → Arguments → List Stmt → Scope → Bool) (wr : Bool) (st : List S) : Prop := ∀ T, chkSs nest ns sl wr st T = true → SsOk x n c ns sl wr st T
theorem chk_asg (hx : CxOk5 x) (C : CalleeOk x n c) (hsl : sl.Nodup) (h0 : Str.ofString ".0" ∉ sl) (t : T) (e : X) : ST x n c ns sl nest wr (.asg t e) := fun T h =>
  sAsg_el h fun ts v p h => b1_el (P := fun ts => SOk x n c ns sl wr (.asg t e) (.Assign ts v p)) h fun te h => and_el h fun h1 h => and_el h fun h2 h => and_el h fun h3 h => and_el h fun h4 h5 => s_asg hx C (not_t h3) h1 h5 (not_t h4) (chkX_sound hx C hsl h0 h2).1
theorem chk_asgC (hx : CxOk5 x) (C : CalleeOk x n c) (hsl : sl.Nodup) (h0 : Str.ofString ".0" ∉ sl) (i : Nat) (fz : Bool) (elt : X) (v : Nat) (it cond : X) : ST x n c ns sl nest wr (.asgC i fz elt v it cond) := fun T h =>
  sAsg_el h fun ts E p h => b1_el (P := fun ts => SOk x n c ns sl wr (.asgC i fz elt v it cond) (.Assign ts E p)) h fun te h => bName_el (P := fun te' => te' = te → SOk x n c ns sl wr (.asgC i fz elt v it cond) (.Assign [te'] E p)) h (fun q qp h eq => and_el h fun h1 h => and_el h fun h2 h => and_el h fun h3 h => and_el h fun h4 h5 => by
    subst eq
    exact chkX_comp (P := fun E => blockFree q E = true → (qp.line == E.pos.line) = true → SOk x n c ns sl wr (.asgC i fz elt v it cond) (.Assign [.Name q qp] E p)) h3 (fun Ee xq xp ie ifs sc pos e1 e2 e3 e4 e5 e6 h5 h4 =>
      s_asgC hx C (compScope_of e2) h1 (eq_of_beq h2) e1 e4 h4 (not_t h5) (chkX_sound hx C hsl h0 e3).1 (chkX_sound hx C hsl h0 e5).1 (cond_of (chk_all hx C hsl h0 cond) e6)) h5 h4) rfl
theorem chk_aug (hx : CxOk5 x) (C : CalleeOk x n c) (hsl : sl.Nodup) (h0 : Str.ofString ".0" ∉ sl) (i : Nat) (op : B) (e : X) : ST x n c ns sl nest wr (.aug i op e) := fun T h =>
  sAug_el h fun te o v p h => bName_el (P := fun te => SOk x n c ns sl wr (.aug i op e) (.AugAssign te o v p)) h fun q qp h => and_el h fun h1 h => and_el h fun h2 h => and_el h fun h3 h => and_el h fun h4 h => and_el h fun h5 h6 =>
    s_aug hx h2 (bne_iff_ne.mp h3) h4 h1 ((or_el h6).imp id eq_of_beq) (chkX_sound hx C hsl h0 h5).1
theorem chk_augA (hx : CxOk5 x) (C : CalleeOk x n c) (hsl : sl.Nodup) (h0 : Str.ofString ".0" ∉ sl) (oo : X) (nm : Nat) (op : B) (e : X) : ST x n c ns sl nest wr (.augA oo nm op e) := fun T h =>
  sAug_el h fun te o v p h => bAttr_el (P := fun te => SOk x n c ns sl wr (.augA oo nm op e) (.AugAssign te o v p)) h fun oe q ap h => and_el h fun h1 h => and_el h fun h2 h => and_el h fun h3 h => and_el h fun h4 h5 =>
    s_augA hx (eq_of_beq h2) h3 h1 (chkX_sound hx C hsl h0 h4).1 (chkX_sound hx C hsl h0 h5).1
theorem chks_all (hx : CxOk5 x) (C : CalleeOk x n c) (hsl : sl.Nodup) (h0 : Str.ofString ".0" ∉ sl) (hD : wr = false → DefnsOk x n c ns sl nest) (l : List S) : SsT x n c ns sl nest wr l := by
  refine S.rec_1 (motive_1 := ST x n c ns sl nest wr) (motive_2 := SsT x n c ns sl nest wr) ?_ ?_ ?_ ?_ ?_ ?_ ?_ ?_ ?_ ?_ ?_ ?_ ?_ ?_ ?_ l
  · exact fun T h => fun _ _ _ e _ => nn e
  · exact fun e T h => sExpr_el h fun v p h => and_el h fun h1 h2 => s_expr (not_t h2) (chkX_sound hx C hsl h0 h1).1
  · exact chk_asg hx C hsl h0
  · exact chk_asgC hx C hsl h0
  · exact chk_aug hx C hsl h0
  · exact chk_augA hx C hsl h0
  · exact fun t a b HA HB T h => sIf_el h fun e x1 x2 p h => and_el h fun h1 h => and_el h fun h2 h3 => s_ite (chkX_sound hx C hsl h0 h1).2 (HA _ h2) (HB _ h3)
  · exact fun t b HB T h => sWh_el h fun e x1 x2 p h => b0_el (P := fun x2 => SOk x n c ns sl wr (.whil t b) (.While e x1 x2 p)) h fun h => and_el h fun h1 h => and_el h fun h2 h3 => s_while h1 (chkX_sound hx C hsl h0 h2).2 (HB _ h3)
  · exact fun t it b HB T h => sFor_el h fun te ie x1 x2 p h => b0_el (P := fun x2 => SOk x n c ns sl wr (.for t it b) (.For te ie x1 x2 p)) h fun h => and_el h fun h1 h => and_el h fun h2 h => and_el h fun h3 h => and_el h fun h4 h5 => s_for hx C h1 h2 (not_t h4) (chkX_sound hx C hsl h0 h3).1 (HB _ h5)
  · exact fun o T h => sRet_el h fun q p h => by
      cases o with
      | none => exact bN_el (P := fun q => SOk x n c ns sl wr (.ret none) (.Return q p)) h fun _ => s_ret0
      | some e => exact bS_el (P := fun q => SOk x n c ns sl wr (.ret (some e)) (.Return q p)) h fun v h => s_ret (chkX_sound hx C hsl h0 h).1
  · exact fun T h => sCont_el h fun p => s_cont
  · exact fun T h => sPass_el h fun p => s_pass
  · intro i k cs line col T h
    have hw : wr = false := chkDef_el (P := fun _ => wr = false) h fun _ _ _ _ _ _ _ w _ _ _ _ _ _ _ _ => w
    subst hw
    have z := hD rfl
    exact @z i k cs line col T h
  · exact fun T h => b0_el (P := fun T => SsOk x n c ns sl wr [] T) h fun _ => ss_nil
  · exact fun st r H1 H2 T h => bC_el (P := fun T => SsOk x n c ns sl wr (st :: r) T) h fun s ss h => and_el h fun h1 h2 => ss_cons (H1 _ h1) (H2 _ h2)
end
end Mine
end

section
set_option maxRecDepth 10000
namespace Mine
open PySem PySem.W PySem.Calls PyProof.Rows

/-! ### arguments to parameters -/
theorem zip_lookup {α : Type} {ns : List Str} : ∀ {vs : List α}, ns.length = vs.length → ns.Nodup → ∀ (i : Nat) (n : Str) (v : α), ns[i]? = some n → vs[i]? = some v → (ns.zip vs).lookup n = some v := by
  induction ns with
  | nil => exact fun _ _ i n v h => nn h
  | cons a ns ih =>
    intro vs h nd i n v h1 h2
    cases vs with
    | nil => exact nn h2
    | cons b vs =>
      have nd' := List.nodup_cons.mp nd
      rw [List.zip_cons_cons, List.lookup_cons]
      cases i with
      | zero => exact some_el h1 (some_el h2 (by rw [beq_self_eq_true]))
      | succ i =>
        rw [beq_eq_false_iff_ne.mpr fun e : n = a => nd'.1 (e ▸ List.mem_of_getElem? (show ns[i]? = some n from h1))]
        exact ih (Nat.succ.inj h) nd'.2 i n v h1 h2
theorem zip_lookup_some {α : Type} {ns : List Str} {vs : List α} (h : ns.length = vs.length) (nd : ns.Nodup) {n : Str} (hn : n ∈ ns) : ∃ v, (ns.zip vs).lookup n = some v := by
  obtain ⟨i, hi, rfl⟩ := List.getElem_of_mem hn
  exact ⟨_, zip_lookup h nd i _ _ (List.getElem?_eq_getElem hi) (List.getElem?_eq_getElem (h ▸ hi))⟩
theorem zip_filterMap {α : Type} {tab : List (Str × α)} {ns : List Str} : ∀ {vs : List α}, ns.length = vs.length → (∀ (i : Nat) (n : Str) (v : α), ns[i]? = some n → vs[i]? = some v → tab.lookup n = some v) →
    (ns.filterMap fun n => (tab.lookup n).map fun v => (n, v)) = ns.zip vs := by
  induction ns with
  | nil => exact fun _ _ => rfl
  | cons a ns ih =>
    intro vs h hl
    cases vs with
    | nil => exact nomatch h
    | cons b vs =>
      rw [List.filterMap_cons, hl 0 a b rfl rfl]
      exact congrArg ((a, b) :: ·) (ih (Nat.succ.inj h) fun i n v h1 h2 => hl (i + 1) n v h1 h2)

theorem forIn_same {α β : Type} (l : List α) (b : β) (f : α → β → Sem (ForInStep β)) (h : ∀ a ∈ l, f a b = pure (.yield b)) : forIn l b f = (pure b : Sem β) := by
  induction l with
  | nil => rfl
  | cons a r ih =>
    rw [List.forIn_cons, h a (.head _), pure_bind]
    exact ih fun a ha => h a (.tail _ ha)

def DfltOk (M : Model) (A : Around) (s : Shared) (v : Value) : Prop := ∀ (E : Value → Shared → Prop) (Q : Option (Array Value) → Shared → Prop), (∀ r, Q r s) → wpAny M A (seqItems? v) Q E s

theorem wp_else {M : Model} {A : Around} {s : Shared} {α : Type} {c : Prop} [Decidable c] {x y : Sem α} {E : Value → Shared → Prop} {Q : α → Shared → Prop} (h : ¬ c) (k : wpAny M A y Q E s) : wpAny M A (if c then x else y) Q E s := by rw [if_neg h]; exact k
theorem wp_same {M : Model} {A : Around} {s : Shared} {α β : Type} {l : List α} {b : β} {f : α → β → Sem (ForInStep β)} {E : Value → Shared → Prop} {Q : β → Shared → Prop} (h : ∀ a ∈ l, f a b = pure (.yield b)) (k : wpAny M A (pure b) Q E s) : wpAny M A (forIn l b f) Q E s := by rw [forIn_same l b f h]; exact k
theorem bind_args0 {M : Model} {A : Around} {s : Shared} {nm qn : Str} {ar : List Arg} {kd : List (Option Expr)} {df : List Expr} {bd : FuncBody} {sc : Scope} {gl : Addr} {cl : List (Str × Addr)} {dfl kdf dc pm cd ct : Value} {an : Option Addr} {bi : Addr} {vs : List Value} {E : Value → Shared → Prop} {Q : List (Str × Value) → Shared → Prop}
    (hl : (ar.map (·.arg)).length = vs.length) (nd : (ar.map (·.arg)).Nodup) (hd : DfltOk M A s dfl) (hQ : Q ((ar.map (·.arg)).zip vs) s) : wpAny M A (bindArgs ⟨nm, qn, ⟨[], ar, none, [], kd, none, df⟩, bd, sc, gl, cl, dfl, kdf, dc, pm, an, cd, ct, bi⟩ ⟨vs, []⟩) Q E s := by
  have look : ∀ n ∈ ar.map (·.arg), (((ar.map (·.arg)).zip vs).lookup n).isNone = false := fun n hn => (zip_lookup_some hl nd hn).elim fun v hv => by rw [hv]; rfl
  have fil : ∀ k, ((ar.map (·.arg)).take k).filter (fun n => (((ar.map (·.arg)).zip vs).lookup n).isNone) = [] := fun k => List.filter_eq_nil_iff.mpr fun a ha => by
    rw [look a (List.mem_of_mem_take ha)]; exact Bool.false_ne_true
  have fm : ((ar.map (·.arg)).filterMap fun n => (((ar.map (·.arg)).zip vs).lookup n).map fun v => (n, v)) = (ar.map (·.arg)).zip vs := zip_filterMap hl fun i n v h1 h2 => zip_lookup hl nd i n v h1 h2
  refine wpAny_bind (wpAny_pure ?_)
  refine wpAny_bind (hd _ _ fun r => ?_)
  refine wp_else ?_ ?_
  · show ¬ (decide (vs.length > (ar.map (·.arg)).length) && true) = true
    rw [hl, decide_eq_false (Nat.lt_irrefl _)]
    exact Bool.false_ne_true
  refine wp_else ?_ ?_
  · show ¬ (!(List.isEmpty (((ar.map (·.arg)).take _).filter fun n => (((ar.map (·.arg)).zip vs).lookup n).isNone))) = true
    rw [fil]
    exact Bool.false_ne_true
  refine wpAny_bind (wp_same (fun p hp => ?_) (wpAny_pure ?_))
  · show (if (((ar.map (·.arg)).zip vs).lookup p.1).isNone = true then _ else _) = _
    rw [look p.1 (List.mem_of_mem_drop (List.of_mem_zip hp).1)]
    rfl
  refine wpAny_bind (wpAny_pure ?_)
  refine wp_else Bool.false_ne_true ?_
  refine wpAny_pure ?_
  show Q (((ar.map fun (x : Arg) => x.arg) ++ []).filterMap fun n => (((ar.map fun (x : Arg) => x.arg).zip vs).lookup n).map fun v => (n, v)) s
  rw [List.append_nil, fm]
  exact hQ
theorem params_eq {p : Arguments} (hn : noDflt p = true) : p = ⟨[], p.args, none, [], p.kw_defaults, none, p.defaults⟩ := by
  cases p with | mk po ar va ko kd kwa df =>
  exact and_el hn fun h h5 => and_el h fun h h4 => and_el h fun h h3 => and_el h fun h1 h2 => by
    rw [(List.isEmpty_iff.mp h1 : po = []), (List.isEmpty_iff.mp h3 : ko = []), (Option.isNone_iff_eq_none.mp h2 : va = none), (Option.isNone_iff_eq_none.mp h4 : kwa = none)]
theorem bind_args {M : Model} {A : Around} {s : Shared} {fd : FuncData} {vs : List Value} {E : Value → Shared → Prop} {Q : List (Str × Value) → Shared → Prop} (hn : noDflt fd.params = true) (hl : (fd.params.args.map (·.arg)).length = vs.length) (nd : (fd.params.args.map (·.arg)).Nodup)
    (hd : DfltOk M A s fd.defaults) (hQ : Q ((fd.params.args.map (·.arg)).zip vs) s) : wpAny M A (bindArgs fd ⟨vs, []⟩) Q E s :=
  (congrArg (fun p => wpAny M A (bindArgs { fd with params := p } ⟨vs, []⟩) Q E s) (params_eq hn)).mpr (bind_args0 hl nd hd hQ)

/-! ### a fresh frame's cells -/
theorem cellsFrom_names (names : List (Str × NameKind)) : ∀ (k : Nat) (acc : List (Str × Addr)) (q : Str), ((q, NameKind.cell) ∈ names ∨ (acc.lookup q).isSome = true) → ((cellsFrom k names acc).lookup q).isSome = true := by
  induction names with
  | nil => exact fun k acc q h => h.elim (fun h => nomatch h) id
  | cons p r ih =>
    obtain ⟨n, kd⟩ := p
    intro k acc q h
    unfold cellsFrom
    by_cases hk : kd = .cell
    · subst hk
      simp only [beq_self_eq_true, if_true]
      refine ih _ _ q ?_
      by_cases hq : q = n
      · subst hq; right; simp
      · rcases h with h | h
        · rcases List.mem_cons.mp h with e | e
          · cases e; exact absurd rfl hq
          · exact .inl e
        · right; rw [List.lookup_cons, beq_eq_false_iff_ne.mpr hq]; exact h
    · have : (kd == NameKind.cell) = false := by simpa using hk
      simp only [this, Bool.false_eq_true, if_false]
      refine ih _ _ q ?_
      rcases h with h | h
      · rcases List.mem_cons.mp h with e | e
        · cases e; exact absurd rfl hk
        · exact .inl e
      · exact .inr h
theorem cellsFrom_only (names : List (Str × NameKind)) : ∀ (k : Nat) (acc : List (Str × Addr)) (q : Str) (a : Addr), (cellsFrom k names acc).lookup q = some a → (q, NameKind.cell) ∈ names ∨ acc.lookup q = some a := by
  induction names with
  | nil => exact fun k acc q a h => .inr h
  | cons p r ih =>
    obtain ⟨n, kd⟩ := p
    intro k acc q a h
    unfold cellsFrom at h
    by_cases hk : kd = .cell
    · subst hk
      simp only [beq_self_eq_true, if_true] at h
      rcases ih _ _ q a h with e | e
      · exact .inl (.tail _ e)
      · by_cases hq : q = n
        · subst hq; exact .inl (.head _)
        · rw [List.lookup_cons, beq_eq_false_iff_ne.mpr hq] at e; exact .inr e
    · have : (kd == NameKind.cell) = false := by simpa using hk
      simp only [this, Bool.false_eq_true, if_false] at h
      rcases ih _ _ q a h with e | e
      · exact .inl (.tail _ e)
      · exact .inr e

theorem bindL_zip (kindOf : Str → Option NameKind) (ns : List Str) : ∀ (vs : List Value) (m : Str → Option Value) (i : Nat) (q : Str) (v : Value), ns.Nodup → ns[i]? = some q → vs[i]? = some v → kindOf q = some .local → bindL kindOf (ns.zip vs) m q = some v := by
  induction ns with
  | nil => exact fun _ _ i q v _ h => nn h
  | cons a ns ih =>
    intro vs m i q v nd h1 h2 hk
    cases vs with
    | nil => exact nn h2
    | cons b vs =>
      have nd' := List.nodup_cons.mp nd
      rw [List.zip_cons_cons]
      unfold bindL
      cases i with
      | succ i => exact ih vs _ i q v nd'.2 (by simpa using h1) (by simpa using h2) hk
      | zero =>
        cases h1; cases h2
        rw [if_pos hk]
        have gen : ∀ (ns : List Str) (vs : List Value) (m : Str → Option Value), a ∉ ns → m a = some v → bindL kindOf (ns.zip vs) m a = some v := by
          intro ns
          induction ns with
          | nil => intro vs m _ h; exact h
          | cons c ns ih =>
            intro vs m hq h
            cases vs with
            | nil => exact h
            | cons d vs =>
              rw [List.zip_cons_cons]
              unfold bindL
              refine ih vs _ (fun z => hq (.tail _ z)) ?_
              split
              · have : a ≠ c := fun z => hq (z ▸ .head _)
                simp [this, h]
              · exact h
        exact gen ns vs _ nd'.1 (by simp)
theorem bindC_zip (kindOf : Str → Option NameKind) (ns : List Str) : ∀ (vs : List Value) (m : Str → Option Value) (i : Nat) (q : Str) (v : Value), ns.Nodup → ns[i]? = some q → vs[i]? = some v → kindOf q ≠ some .local → bindC kindOf (ns.zip vs) m q = some v := by
  induction ns with
  | nil => exact fun _ _ i q v _ h => nn h
  | cons a ns ih =>
    intro vs m i q v nd h1 h2 hk
    cases vs with
    | nil => exact nn h2
    | cons b vs =>
      have nd' := List.nodup_cons.mp nd
      rw [List.zip_cons_cons]
      unfold bindC
      cases i with
      | succ i => exact ih vs _ i q v nd'.2 (by simpa using h1) (by simpa using h2) hk
      | zero =>
        cases h1; cases h2
        rw [if_neg hk]
        have gen : ∀ (ns : List Str) (vs : List Value) (m : Str → Option Value), a ∉ ns → m a = some v → bindC kindOf (ns.zip vs) m a = some v := by
          intro ns
          induction ns with
          | nil => intro vs m _ h; exact h
          | cons c ns ih =>
            intro vs m hq h
            cases vs with
            | nil => exact h
            | cons d vs =>
              rw [List.zip_cons_cons]
              unfold bindC
              refine ih vs _ (fun z => hq (.tail _ z)) ?_
              split
              · exact h
              · have : a ≠ c := fun z => hq (z ▸ .head _)
                simp [this, h]
        exact gen ns vs _ nd'.1 (by simp)
end Mine
end

section
set_option maxRecDepth 10000
namespace Mine
open PySem PySem.W PySem.Calls PyProof.Rows

structure FdAt (K : Frag) (k : Nat) (f : Addr) (o : Obj) (fd : FuncData) : Prop where
  at_ : K.lookup f = some o
  data : o.data = .func fd
  ok : okFd k fd = true
  code : codeIn K fd.code fd.qualname = true
  dflt : fd.defaults = .none ∨ ∃ T o', fd.defaults = .ref T ∧ K.lookup T = some o'
  host : ∀ d, fns k = some d → hasDef d.body = true → fd.code = .ref 889
  clo : fd.closure = []
structure CxOk6 (x : Cx) : Prop extends CxOk5 x where
  fd : ∀ k f, fnAddr x.K k = some f → ∃ o fd, FdAt x.K k f o fd

noncomputable abbrev cF (n : Nat) : Callee := callF kind meTab clsMeth fns n
theorem callF_s {n k : Nat} {as : List V} {h : H} : callF kind meTab clsMeth fns (n + 1) k as h = onS (fns k) fun d => if as.length = d.np ∧ d.np ≤ d.ns then
      given (execs kind meTab clsMeth (callF kind meTab clsMeth fns n) d.body (as.map some ++ List.replicate (d.ns - d.np) none) h) else none := rfl
theorem given_el {o : Option (Fl × Loc × H)} {y : V} {h' : H} {P : Prop} (e : given o = some (y, h')) (k : ∀ fl m1, o = some (fl, m1, h') → (fl = .ret y ∨ (fl = .next ∧ y = .non)) → P) : P :=
  onP_el e fun fl p q e => by
    cases fl with
    | ret v => exact pair_el (P := fun y h' => (∀ fl m1, o = some (fl, m1, h') → (fl = .ret y ∨ (fl = .next ∧ y = .non)) → P) → P) e (fun k => k _ p.1 q (.inl rfl)) k
    | next => exact pair_el (P := fun y h' => (∀ fl m1, o = some (fl, m1, h') → (fl = .ret y ∨ (fl = .next ∧ y = .non)) → P) → P) e (fun k => k _ p.1 q (.inr ⟨rfl, rfl⟩)) k
    | cont => exact nn e
theorem callF_el {n k : Nat} {as : List V} {h h' : H} {y : V} {P : Prop} (e : cF (n + 1) k as h = some (y, h')) (kk : ∀ d fl m1, fns k = some d → as.length = d.np → exSs (cF n) d.body (as.map some ++ List.replicate (d.ns - d.np) none) h = some (fl, m1, h') → (fl = .ret y ∨ (fl = .next ∧ y = .non)) → P) : P :=
  onS_el (callF_s.symm.trans e) fun d hd e => if_el e fun hl e => given_el e fun fl m1 e1 hr => kk d fl m1 hd hl.1 e1 hr

noncomputable abbrev noNest : Nat → Arguments → List Stmt → Scope → Bool := fun _ _ _ _ => false
structure TextOk (k : Nat) (d : Fn) (fd : FuncData) (b : List Stmt) : Prop where
  body : fd.body = .stmts b
  glob : fd.globals = mainGlobals
  bi : fd.builtins = builtinsNs
  clo : fd.closure.map (·.1) = ((slots k).drop (d.np - d.nc)).take d.nc
  dflt : noDflt fd.params = true
  args : fd.params.args.map (·.arg) = (slots k).take (d.np - d.nc)
  nc : d.nc ≤ d.np
  np : d.np ≤ d.ns
  len : (slots k).length = d.ns
  nd : (slots k).Nodup
  s0 : Str.ofString ".0" ∉ slots k
  free : ((slots k).drop (d.np - d.nc)).take d.nc = ((fd.scope.names.filter (·.2 == .free)).map (·.1)).reverse
  kind : fd.scope.kind = .function
  gen : fd.scope.isGenerator = false
  cor : fd.scope.isCoroutine = false
  nms : (fd.scope.names.map (·.1)).Nodup
  par : ∀ q ∈ (slots k).take (d.np - d.nc), fd.scope.names.lookup q = some .local ∨ fd.scope.names.lookup q = some .cell
  cel : d.nc = 0 ∨ ∀ p ∈ fd.scope.names, p.2 ≠ .cell
  dfc : hasDef d.body = true → d.nc = 0
  chk : ∃ nest, (nest = okText noNest ∨ nest = noNest) ∧ chkSs nest fd.scope.names (slots k) (!hasDef d.body) d.body b = true
theorem text_of {k : Nat} {d : Fn} {fd : FuncData} {b : List Stmt} {nest : Nat → Arguments → List Stmt → Scope → Bool} (hd : fns k = some d) (hb : fd.body = .stmts b) (g : fd.globals = mainGlobals) (bi : fd.builtins = builtinsNs) (cl : fd.closure.map (·.1) = ((fd.scope.names.filter (·.2 == .free)).map (·.1)).reverse)
    (hn : nest = okText noNest ∨ nest = noNest) (h : okText nest k fd.params b fd.scope = true) : TextOk k d fd b := by
  unfold okText at h
  rw [hd] at h
  exact and_el h fun h c16 => and_el h fun h c15 => and_el h fun h c14 => and_el h fun h c13 => and_el h fun h c12 => and_el h fun h c11 => and_el h fun h c10 => and_el h fun h c9 => and_el h fun h c8 => and_el h fun h c7 => and_el h fun h c6 => and_el h fun h c5 => and_el h fun h c4 => and_el h fun h c3 => and_el h fun c1 c2 =>
    { body := hb, glob := g, bi := bi, clo := cl.trans (eq_of_beq c8).symm, dflt := c1, args := eq_of_beq c2, nc := of_decide_eq_true c3, np := of_decide_eq_true c4, len := eq_of_beq c5, nd := of_decide_eq_true c6
      s0 := fun q => Bool.noConfusion ((not_t c7).symm.trans (List.contains_iff_mem.mpr q)), free := eq_of_beq c8, kind := eq_of_beq c9, gen := not_t c10, cor := not_t c11, nms := of_decide_eq_true c12
      par := fun q hq => (or_el (List.all_eq_true.mp c13 q hq)).imp eq_of_beq eq_of_beq
      cel := (or_el c14).imp eq_of_beq fun c p hp => bne_iff_ne.mp (List.all_eq_true.mp c p hp)
      dfc := fun q => (or_el c15).elim (fun z => nomatch q.symm.trans (not_t z)) eq_of_beq
      chk := ⟨nest, hn, c16⟩ }
theorem textOk {k : Nat} {d : Fn} {fd : FuncData} (h : okFd k fd = true) (hd : fns k = some d) : ∃ b, TextOk k d fd b := by
  unfold okFd at h
  split at h
  · rename_i b hb
    exact and_el h fun h c4 => and_el h fun h c3 => and_el h fun c1 c2 => (or_el c4).elim (fun c => ⟨b, text_of hd hb (eq_of_beq c1) (eq_of_beq c2) (eq_of_beq c3) (.inl rfl) c⟩) fun c => ⟨b, text_of hd hb (eq_of_beq c1) (eq_of_beq c2) (eq_of_beq c3) (.inr rfl) c⟩
  · exact ff h

section
variable {k : Nat} {d : Fn} {fd : FuncData} {b : List Stmt}
theorem closLen0 {a b c d : Nat} (h : a = min b (c - (d - b))) (h1 : d ≤ c) (h2 : b ≤ d) : a = b := h.trans (Nat.min_eq_left (Nat.le_sub_of_add_le ((Nat.add_sub_cancel' h2).symm ▸ h1)))
theorem TextOk.closLen (tx : TextOk k d fd b) : fd.closure.length = d.nc := by
  have := congrArg List.length tx.clo
  rw [List.length_map, List.length_take, List.length_drop, tx.len] at this
  exact closLen0 this tx.np tx.nc
theorem TextOk.parLen (tx : TextOk k d fd b) {as caps : List V} (hl : (as ++ caps).length = d.np) (hc : caps.length = d.nc) : as.length = d.np - d.nc := by
  rw [List.length_append] at hl; exact Nat.eq_sub_of_add_eq (hc ▸ hl)
theorem TextOk.takeLen (tx : TextOk k d fd b) : ((slots k).take (d.np - d.nc)).length = d.np - d.nc := by
  rw [List.length_take, tx.len]; exact Nat.min_eq_left (Nat.le_trans (Nat.sub_le ..) tx.np)
theorem idx0 {i a c : Nat} (h1 : i < a + c) (h2 : ¬ i < a) : i - a < c ∧ a ≤ i := ⟨Nat.sub_lt_left_of_lt_add (Nat.not_lt.mp h2) h1, Nat.not_lt.mp h2⟩
/-- the function's own frame: its slots -/
theorem frame_slots (tx : TextOk k d fd b) {as caps : List V} (hl : (as ++ caps).length = d.np) (hc : caps.length = d.nc) {i : Nat} {q : Str} {y : V} {P : Prop} (hs : (slots k)[i]? = some q)
    (hm : ((as ++ caps).map some ++ List.replicate (d.ns - d.np) none)[i]? = some (some y)) (k1 : as[i]? = some y → ((slots k).take (d.np - d.nc))[i]? = some q → P) (k2 : ∀ j : Nat, caps[j]? = some y → (fd.closure.map (·.1))[j]? = some q → P) : P := by
  have hl' := tx.parLen hl hc
  by_cases h1 : i < (as ++ caps).length
  · rw [List.getElem?_append_left (by rw [List.length_map]; exact h1), List.getElem?_map] at hm
    obtain ⟨z, hz, e⟩ := Option.map_eq_some_iff.mp hm
    cases e
    by_cases h2 : i < as.length
    · rw [List.getElem?_append_left h2] at hz
      exact k1 hz (by rw [List.getElem?_take_of_lt (hl' ▸ h2)]; exact hs)
    · rw [List.length_append] at h1
      have I := idx0 h1 h2
      rw [List.getElem?_append_right I.2] at hz
      refine k2 _ hz ?_
      rw [tx.clo, List.getElem?_take_of_lt (hc ▸ I.1), List.getElem?_drop, ← hl', Nat.add_sub_cancel' I.2]; exact hs
  · rw [List.getElem?_append_right (by rw [List.length_map]; exact Nat.not_lt.mp h1)] at hm
    have w := List.mem_of_getElem? hm
    exact nn (List.eq_of_mem_replicate w).symm
theorem TextOk.isFree (tx : TextOk k d fd b) {j : Nat} {q : Str} (hq : (fd.closure.map (·.1))[j]? = some q) : fd.scope.names.lookup q = some .free := by
  have this : q ∈ ((fd.scope.names.filter (·.2 == .free)).map (·.1)).reverse := by rw [← tx.free, ← tx.clo]; exact List.mem_of_getElem? hq
  obtain ⟨p, hp, rfl⟩ := List.mem_map.mp (List.mem_reverse.mp this)
  have hp := List.mem_filter.mp hp
  exact lookup_of_mem tx.nms (by rw [← (eq_of_beq hp.2 : p.2 = .free)]; exact hp.1)
theorem TextOk.freeClo (tx : TextOk k d fd b) {q : Str} (hk : fd.scope.names.lookup q = some .free) : q ∈ fd.closure.map (·.1) := by
  rw [tx.clo, tx.free, List.mem_reverse]; exact List.mem_map.mpr ⟨(q, .free), List.mem_filter.mpr ⟨mem_of_lookup hk, rfl⟩, rfl⟩
end
end Mine
end

section
set_option maxRecDepth 10000
namespace Mine
open PySem PySem.W PySem.Calls PyProof.Rows

/-- a function's own cells, that it may write -/
noncomputable def ccsOf (b : Bool) (names : NS) (cells : List (Str × Addr)) : List Addr := match b with
  | true => []
  | false => names.filterMap fun p => cond (p.2 == .cell) (cells.lookup p.1) none
theorem ccs_el {b : Bool} {names : NS} {cells : List (Str × Addr)} {c : Addr} {P : Prop} (h : c ∈ ccsOf b names cells) (nd : (names.map (·.1)).Nodup) (k : b = false → ∀ q, names.lookup q = some .cell → cells.lookup q = some c → P) : P := by
  cases b with
  | true => exact nomatch h
  | false =>
    obtain ⟨⟨q, kd⟩, hp, e⟩ := List.mem_filterMap.mp h
    cases z : (kd == NameKind.cell) with
    | false => exact nn ((congrArg (fun b => cond b (cells.lookup q) none) z).symm.trans e)
    | true => exact k rfl q (lookup_of_mem nd ((eq_of_beq z : kd = .cell) ▸ hp)) ((congrArg (fun b => cond b (cells.lookup q) none) z).symm.trans e)
theorem ccs_mk {names : NS} {cells : List (Str × Addr)} {q : Str} {a : Addr} (hk : names.lookup q = some .cell) (ha : cells.lookup q = some a) : a ∈ ccsOf false names cells := List.mem_filterMap.mpr ⟨(q, .cell), mem_of_lookup hk, ha⟩

/-- the end of a call -/
def GPost (x : Cx) (ρ : Rho) (h : H) (s : Shared) (y : V) (h' : H) (r : Result) (s' : Shared) : Prop :=
  ∃ v ρ' hp t L' ccs lo', r = .ok (.ret v) ∧ s' = { s with heap := hp, toks := t } ∧ s.heap.objs.size ≤ L' ∧ (∀ c ∈ ccs, s.heap.objs.size ≤ c) ∧ s.heap.objs.size ≤ lo' ∧ Step L' ccs lo' ρ h s.heap ρ' h' hp ∧ Sim x okF ρ' h' hp ∧ Rel x okF ρ' h' hp y v

section
variable {x : Cx} {env' : Env} {ρ : Rho} {h h' : H} {A : Around} {s : Shared} {n : Nat} {k : Nat} {d : Fn} {fd : FuncData} {b : List Stmt} {hp h₁ : Heap} {fm : Str → Option Value} {vs cvs : List Value}

theorem frame0 (hx : CxOk5 x) (S : Sim x okF ρ h hp) : FrOk mainGlobals [] 0 ρ h hp := by
  obtain ⟨p, loose, mg, mb, T⟩ := hx.top
  exact ⟨⟨mg, T.g.keeps fun b o e => (S.static b o e).1⟩, T.g.elim fun o e => e.elim fun es e => e.elim fun ep e => (S.static _ _ e.1).2, fun _ q => (nomatch q), Nat.zero_le _⟩
theorem Sim.stale (S : Sim x okF ρ h hp) {a : Addr} (ha : hp.objs.size ≤ a) : x.H0.get? a = none := by
  cases e : x.H0.get? a with
  | none => rfl
  | some o => exact absurd (Heap.lt_size (S.static _ _ e).1) (Nat.not_lt.mpr ha)
theorem Sim.fresh (S : Sim x okF ρ h hp) {a : Addr} (ha : hp.objs.size ≤ a) : ¬ owned ρ h a := fun e => Nat.lt_irrefl _ (Nat.lt_of_lt_of_le (S.lt_owned e) ha)

/-- a fresh frame of a function -/
structure FrIn (ρ : Rho) (h : H) (s : Shared) (k : Nat) (d : Fn) (fd : FuncData) (env' : Env) (h₁ : Heap) (fm : Str → Option Value) (vs cvs : List Value) : Prop where
  sc : env'.scope = fd.scope
  gl : env'.globals = mainGlobals
  bi : env'.builtins = builtinsNs
  loc : env'.locals = s.heap.objs.size
  code : hasDef d.body = true → env'.code = .ref 889
  ns : h₁.Ns s.heap.objs.size fm
  old : ∀ b o, s.heap.get? b = some o → h₁.get? b = some o
  cells : ∀ q, fd.scope.names.lookup q = some .cell ∨ fd.scope.names.lookup q = some .free → (env'.cells.lookup q).isSome = true
  own : ∀ q a, fd.scope.names.lookup q = some .cell → env'.cells.lookup q = some a → s.heap.objs.size < a ∧ ∃ v, h₁.IsCell a v
  inj : ∀ q q' a, fd.scope.names.lookup q' = some .cell → env'.cells.lookup q = some a → env'.cells.lookup q' = some a → q = q'
  hge : hasDef d.body = true → ∀ q a, env'.cells.lookup q = some a → s.heap.objs.size ≤ a
  par : ∀ (i : Nat) q v, ((slots k).take (d.np - d.nc))[i]? = some q → vs[i]? = some v → (fd.scope.names.lookup q = some .local → fm q = some v) ∧ (fd.scope.names.lookup q = some .cell → ∃ a, env'.cells.lookup q = some a ∧ h₁.IsCell a (some v))
  cap : ∀ (j : Nat) q v, (fd.closure.map (·.1))[j]? = some q → cvs[j]? = some v → ∃ c, env'.cells.lookup q = some c ∧ s.heap.IsCell c (some v) ∧ ¬ owned ρ h c

theorem FrIn.bears (hx : CxOk5 x) (F : FrIn ρ h s k d fd env' h₁ fm vs cvs) (tx : TextOk k d fd b) (S : Sim x okF ρ h s.heap) {as caps : List V} (hl : (as ++ caps).length = d.np) (hcl : caps.length = d.nc) (ra : RelL x okF ρ h s.heap as vs) (rc : RelL x okF ρ h s.heap caps cvs)
    (i : Nat) (q : Str) (y : V) (hs : (slots k)[i]? = some q) (hm : ((as ++ caps).map some ++ List.replicate (d.ns - d.np) none)[i]? = some (some y)) : Bears x env' fm ρ h h₁ q y := by
  have F0 := frame0 hx S
  have st : Step mainGlobals [] 0 ρ h s.heap ρ h h₁ := Step.grow F.old (Nat.le_of_lt F.ns.lt)
  refine frame_slots tx hl hcl hs hm (fun hy hq => ?_) fun j hy hq => ?_
  · obtain ⟨v, hv, rv⟩ := relL_get ra hy
    have p := F.par i q v hq hv
    refine ⟨fun e => ⟨v, p.1 (F.sc ▸ e), rv.step st F0⟩, fun e => (tx.par q (List.mem_of_getElem? hq)).elim (fun hk => ?_) fun hk => ?_⟩
    · rw [F.sc, hk] at e; exact e.elim (fun e => (nomatch e)) fun e => (nomatch e)
    · exact (p.2 hk).imp fun a e => ⟨v, e.1, e.2, S.fresh (Nat.le_of_lt (F.own q a hk e.1).1), rv.step st F0⟩
  · obtain ⟨v, hv, rv⟩ := relL_get rc hy
    have hf := tx.isFree hq
    refine ⟨fun e => ?_, fun _ => (F.cap j q v hq hv).imp fun c e => ⟨v, e.1, e.2.1.keeps F.old, e.2.2, rv.step st F0⟩⟩
    rw [F.sc, hf] at e; exact nomatch e
theorem FrIn.ccs (F : FrIn ρ h s k d fd env' h₁ fm vs cvs) (tx : TextOk k d fd b) {c : Addr} (hc : c ∈ ccsOf (hasDef d.body) fd.scope.names env'.cells) : hasDef d.body = false ∧ s.heap.objs.size < c ∧ ∃ v, h₁.IsCell c v :=
  ccs_el hc tx.nms fun hb q hk ha => ⟨hb, F.own q c hk ha⟩
noncomputable def loOf (b : Bool) (a c : Nat) : Nat := cond b a c
theorem loOf_le {b : Bool} {a c : Nat} (h : a ≤ c) : a ≤ loOf b a c ∧ loOf b a c ≤ c := by
  cases b with
  | true => exact ⟨Nat.le_refl _, h⟩
  | false => exact ⟨h, Nat.le_refl _⟩
theorem FrIn.good (hx : CxOk5 x) (F : FrIn ρ h s k d fd env' h₁ fm vs cvs) (tx : TextOk k d fd b) (S : Sim x okF ρ h s.heap) {as caps : List V} (hl : (as ++ caps).length = d.np) (hcl : caps.length = d.nc) (ra : RelL x okF ρ h s.heap as vs) (rc : RelL x okF ρ h s.heap caps cvs) :
    GoodS x env' (slots k) ((as ++ caps).map some ++ List.replicate (d.ns - d.np) none) s.heap.objs.size (ccsOf (hasDef d.body) fd.scope.names env'.cells) (ccsOf (hasDef d.body) fd.scope.names env'.cells) (loOf (hasDef d.body) s.heap.objs.size h₁.objs.size) ρ h h₁ := by
  have z : s.heap.objs.size ≤ h₁.objs.size := Nat.le_of_lt F.ns.lt
  refine ⟨⟨S.grow (frame0 hx S) F.old z, ⟨⟨fm, F.ns⟩, S.fresh (Nat.le_refl _), fun c hc => ?_, (loOf_le z).2⟩, fm, F.ns, F.bears hx tx S hl hcl ra rc⟩, fun c hc => (F.ccs tx hc).2.2, fun c hc => hc⟩
  obtain ⟨hb, lt, v, hv⟩ := F.ccs tx hc
  refine ⟨hv.imp fun o e => ⟨e.1, .inl ⟨v, e.2⟩⟩, S.fresh (Nat.le_of_lt lt), fun w => Nat.lt_irrefl _ (Nat.lt_of_lt_of_le (S.clt c w) (Nat.le_of_lt lt)), ?_⟩
  rw [hb]; exact hv.lt
theorem FrIn.frm (F : FrIn ρ h s k d fd env' h₁ fm vs cvs) (tx : TextOk k d fd b) (S : Sim x okF ρ h s.heap) : Frm x env' fd.scope.names (slots k) s.heap.objs.size (ccsOf (hasDef d.body) fd.scope.names env'.cells) (ccsOf (hasDef d.body) fd.scope.names env'.cells) (!hasDef d.body) :=
  { ev := { names := by rw [F.sc], kind := by rw [F.sc]; exact tx.kind, glob := F.gl, bi := F.bi, loc := F.loc, st := S.stale (Nat.le_refl _), cells := F.cells }
    nd := tx.nd
    s0 := tx.s0
    own := fun hw q a hk ha => by rw [not_t hw]; exact ccs_mk hk ha
    inj := F.inj
    cst := fun c hc => S.stale (Nat.le_of_lt (F.ccs tx hc).2.1) }
theorem defns_none {c : Callee} {ns : NS} {sl : List Str} : DefnsOk x n c ns sl noNest := fun i j cs line col T h => chkDef_el (P := fun T => SOk x n c ns sl false (.defn i j cs line col) T) h fun _ _ _ _ _ _ q => ff q
/-- the body of a function in its own frame -/
theorem run_frame (hx : CxOk6 x) (C : CalleeOk x n (cF n)) (hD : ∀ ns sl, DefnsOk x n (cF n) ns sl (okText noNest)) (tx : TextOk k d fd b) (R : Room n A) (S : Sim x okF ρ h s.heap) (F : FrIn ρ h s k d fd env' h₁ fm vs cvs)
    {as caps : List V} (hl : (as ++ caps).length = d.np) (hcl : caps.length = d.nc) (ra : RelL x okF ρ h s.heap as vs) (rc : RelL x okF ρ h s.heap caps cvs)
    {fl : Fl} {m1 : Loc} {y : V} (e : exSs (cF n) d.body ((as ++ caps).map some ++ List.replicate (d.ns - d.np) none) h = some (fl, m1, h')) (hr : fl = .ret y ∨ (fl = .next ∧ y = .non)) {t1 : Nat} :
    wpAny (model x.prog x.w) A (PySem.execs b env') (fun f s' => GPost x ρ h s y h' (.ok (.ret (match f with | .ret v => v | _ => .none))) s') noE { s with heap := h₁, toks := t1 } := by
  have z : s.heap.objs.size ≤ h₁.objs.size := Nat.le_of_lt F.ns.lt
  obtain ⟨nest, hnest, hchk⟩ := tx.chk
  have hDn : DefnsOk x n (cF n) fd.scope.names (slots k) nest := by
    rcases hnest with rfl | rfl
    · exact hD _ _
    · exact defns_none
  have SS : SsOk x n (cF n) fd.scope.names (slots k) (!hasDef d.body) d.body b := chks_all hx.toCxOk5 C tx.nd tx.s0 (fun _ => hDn) d.body b hchk
  have dfr : (!hasDef d.body) = false → DefFrm x env' (loOf (hasDef d.body) s.heap.objs.size h₁.objs.size) ρ := fun hw => by
    have hb : hasDef d.body = true := (Bool.not_eq_false' ..).mp hw
    refine ⟨F.code hb, fun q a ha => ?_⟩
    rw [hb]; exact F.hge hb q a ha
  refine SsOk.seq (s := { s with heap := h₁, toks := t1 }) SS R (F.frm tx S) dfr e (F.good hx.toCxOk5 tx S hl hcl ra rc) fun ρ' hp t f st Gf q => ?_
  have fin : ∀ v r, r = .ok (.ret v) → Rel x okF ρ' h' hp y v → GPost x ρ h s y h' r { s with heap := hp, toks := t } := fun v r hf rv =>
    ⟨v, ρ', hp, t, _, _, _, hf, rfl, Nat.le_refl _, fun c hc => Nat.le_of_lt (F.ccs tx hc).2.1, (loOf_le z).1, (Step.grow F.old z).trans st, Gf.g.sim, rv⟩
  rcases hr with rfl | ⟨rfl, rfl⟩
  · exact (show ∃ v, f = .ret v ∧ Rel x okF ρ' h' hp y v from q).elim fun v e => fin v _ (by rw [e.1]) e.2
  · exact fin .none _ (by rw [(show f = .next from q)]) rfl
end
end Mine
end

section
set_option maxRecDepth 10000
namespace Mine
open PySem PySem.W PySem.Calls PyProof.Rows

theorem RoomC.deeper {n : Nat} {A : Around} (R : RoomC (n + 1) A) (env : Env) : Room n (A.deeper env) := by
  refine ⟨R.none, ?_, ?_⟩
  · have := R.depth; show A.depth + 1 + 2 * n + 2 < _; lia
  · have := R.units; rw [Around.deeper_units]; lia
theorem lookup_zip_names {α : Type} {ns : List Str} {vs : List α} (h : ns.length = vs.length) : (ns.zip vs).map (·.1) = ns := List.map_fst_zip (Nat.le_of_eq h)

section
variable {x : Cx} {ρ : Rho} {h h' : H} {A : Around} {s : Shared} {n : Nat} {k : Nat} {d : Fn} {fd : FuncData} {b : List Stmt} {f : Addr} {vs cvs : List Value} {h₁ : Heap}

/-- a frame with cells of its own, no closure -/
theorem fr_own (tx : TextOk k d fd b) (hclo : fd.closure = []) (hlen : ((slots k).take (d.np - d.nc)).length = vs.length) (hnn : ((slots k).take (d.np - d.nc)).Nodup) (hhost : hasDef d.body = true → fd.code = .ref 889) {fm cm : Str → Option Value}
    (ns : h₁.Ns s.heap.objs.size fm) (old : ∀ b o, s.heap.get? b = some o → h₁.get? b = some o)
    (hfm : ∀ q v, fd.scope.names.lookup q = some .local → ∀ i : Nat, ((slots k).take (d.np - d.nc))[i]? = some q → vs[i]? = some v → fm q = some v) (hcm : ∀ q v, fd.scope.names.lookup q = some .cell → ∀ i : Nat, ((slots k).take (d.np - d.nc))[i]? = some q → vs[i]? = some v → cm q = some v)
    (above : ∀ q a, (cellsFrom (s.heap.objs.size + 1) fd.scope.names []).lookup q = some a → s.heap.objs.size < a) (cell : ∀ q a, (cellsFrom (s.heap.objs.size + 1) fd.scope.names []).lookup q = some a → h₁.IsCell a (cm q))
    (inj : ∀ q q' a, (cellsFrom (s.heap.objs.size + 1) fd.scope.names []).lookup q = some a → (cellsFrom (s.heap.objs.size + 1) fd.scope.names []).lookup q' = some a → q = q') :
    FrIn ρ h s k d fd (newEnv fd.scope s.heap.objs.size mainGlobals (cellsFrom (s.heap.objs.size + 1) fd.scope.names []) (fd.qualname ++ ".<locals>.") (some f) fd.code none builtinsNs) h₁ fm vs cvs where
  sc := rfl
  gl := rfl
  bi := rfl
  loc := rfl
  code := hhost
  ns := ns
  old := old
  cells := fun q hq => hq.elim (fun hk => cellsFrom_names _ _ _ _ (.inl (mem_of_lookup hk))) fun hk => by
    have z := tx.freeClo hk
    rw [hclo] at z; exact nomatch z
  own := fun q a hk ha => ⟨above q a ha, _, cell q a ha⟩
  inj := fun q q' a hk h1 h2 => inj q q' a h1 h2
  hge := fun _ q a ha => Nat.le_of_lt (above q a ha)
  par := fun i q v hq hv => ⟨fun hk => hfm q v hk i hq hv, fun hk => (Option.isSome_iff_exists.mp (cellsFrom_names fd.scope.names (s.heap.objs.size + 1) [] q (.inl (mem_of_lookup hk)))).imp fun a ha => ⟨ha, hcm q v hk i hq hv ▸ cell q a ha⟩⟩
  cap := fun j q v hq hv => by rw [hclo] at hq; exact nn hq
/-- a frame of a closure -/
theorem fr_clo (tx : TextOk k d fd b) (hnc : d.nc ≠ 0) (nocell : ∀ p ∈ fd.scope.names, p.2 ≠ .cell) (hlen : ((slots k).take (d.np - d.nc)).length = vs.length) (hnn : ((slots k).take (d.np - d.nc)).Nodup) (hhost : hasDef d.body = true → fd.code = .ref 889)
    (ns : h₁.Ns s.heap.objs.size fun q => (((slots k).take (d.np - d.nc)).zip vs).reverse.lookup q) (old : ∀ b o, s.heap.get? b = some o → h₁.get? b = some o)
    (hcl : ∀ (i : Nat) (c : Addr) (v : Value), (fd.closure.map (·.2))[i]? = some c → cvs[i]? = some v → s.heap.IsCell c (some v) ∧ ¬ owned ρ h c) :
    FrIn ρ h s k d fd (newEnv fd.scope s.heap.objs.size mainGlobals fd.closure (fd.qualname ++ ".<locals>.") (some f) fd.code none builtinsNs) h₁ (fun q => (((slots k).take (d.np - d.nc)).zip vs).reverse.lookup q) vs cvs := by
  have cnd : (fd.closure.map (·.1)).Nodup := by
    rw [tx.clo]; exact (tx.nd.sublist (List.drop_sublist _ _)).sublist (List.take_sublist _ _)
  have no : ∀ {P : Prop} {q : Str}, fd.scope.names.lookup q = some .cell → P := fun hk => absurd rfl (nocell _ (mem_of_lookup hk))
  refine { sc := rfl, gl := rfl, bi := rfl, loc := rfl, code := hhost, ns := ns, old := old, cells := fun q hq => hq.elim no fun hk => ?_, own := fun q a hk ha => no hk, inj := fun q q' a hk h1 h2 => no hk, hge := fun hb q a ha => absurd (tx.dfc hb) hnc, par := fun i q v hq hv => ⟨fun hk => ?_, fun hk => no hk⟩, cap := fun j q v hq hv => ?_ }
  · obtain ⟨p, hp, e⟩ := List.mem_map.mp (tx.freeClo hk)
    subst e
    show (fd.closure.lookup p.1).isSome = true
    rw [lookup_of_mem cnd (show (p.1, p.2) ∈ fd.closure from hp)]; rfl
  · exact lookup_of_mem (by rw [List.map_reverse, lookup_zip_names hlen]; exact List.pairwise_reverse.mpr (hnn.imp fun h => Ne.symm h)) (List.mem_reverse.mpr (PySem.mem_of_lookup (zip_lookup hlen hnn i q v hq hv)))
  · obtain ⟨pr, hpr, e⟩ := Option.map_eq_some_iff.mp (by rw [← List.getElem?_map]; exact hq : (fd.closure[j]?).map (·.1) = some q)
    subst e
    have Z := hcl j pr.2 v (by rw [List.getElem?_map, hpr]; rfl) hv
    exact ⟨pr.2, lookup_of_mem cnd (show (pr.1, pr.2) ∈ fd.closure from List.mem_of_getElem? hpr), Z.1, Z.2⟩

theorem room1 {a b n : Nat} (h : a + 2 * (n + 1) + 1 < b) : a < b := by lia
theorem call_sound (hx : CxOk6 x) (C : CalleeOk x n (cF n)) (hD : ∀ ns sl, DefnsOk x n (cF n) ns sl (okText noNest)) (R : RoomC (n + 1) A) (S : Sim x okF ρ h s.heap)
    {o : Obj} {as caps : List V} {y : V} (e : cF (n + 1) k (as ++ caps) h = some (y, h')) (ho : s.heap.get? f = some o) (hdat : o.data = .func fd) (hok : okFd k fd = true) (hcd : s.heap.CodeRec fd.code fd.qualname)
    (hdf : DfltOk (model x.prog x.w) A.in1 s fd.defaults) (ra : RelL x okF ρ h s.heap as vs) (rc : RelL x okF ρ h s.heap caps cvs)
    (hcl : fd.closure.length = cvs.length ∧ ∀ (i : Nat) (c : Addr) (v : Value), (fd.closure.map (·.2))[i]? = some c → cvs[i]? = some v → s.heap.IsCell c (some v) ∧ ¬ owned ρ h c)
    (hhost : ∀ d, fns k = some d → hasDef d.body = true → fd.code = .ref 889) : codeAny (model x.prog x.w) A (.call (.ref f) ⟨vs, []⟩) (GPost x ρ h s y h') s := by
  refine callF_el e fun d fl m1 hd hl ee hr => (textOk hok hd).elim fun b tx => ?_
  have hcaps : caps.length = d.nc := by rw [relL_length rc, ← hcl.1, tx.closLen]
  have hlen : ((slots k).take (d.np - d.nc)).length = vs.length := by rw [tx.takeLen, ← tx.parLen hl hcaps, relL_length ra]
  have hnn : ((slots k).take (d.np - d.nc)).Nodup := tx.nd.sublist (List.take_sublist _ _)
  obtain ⟨p, loose, mg, mb, T⟩ := hx.top
  have hlim := T.nolimit.keeps fun b o e => (S.static b o e).1
  refine codeAny_call_function (room1 R.depth) ho hdat tx.cor tx.gen tx.body hcd (bind_args tx.dflt (by rw [tx.args]; exact hlen) (by rw [tx.args]; exact hnn) hdf ?_)
  rw [tx.args, tx.glob, tx.bi]
  have inz : ∀ {p : Str × Value}, p ∈ ((slots k).take (d.np - d.nc)).zip vs → p.1 ∈ (slots k).take (d.np - d.nc) := fun {p} hp => (List.of_mem_zip hp).1
  by_cases hnc : d.nc = 0
  · have hclo : fd.closure = [] := List.length_eq_zero_iff.mp (by rw [tx.closLen, hnc])
    rw [hclo]
    refine wpAny_newFunctionEnv_cells tx.kind (fun q hq => (tx.par q.1 (inz hq)).imp id fun hk => ⟨hk, cellsFrom_names _ _ _ _ (.inl (mem_of_lookup hk))⟩) fun env' he s' ic => ?_
    subst he
    obtain ⟨h₁, t1, rfl⟩ := ic.toInCall.same
    have F := fr_own (ρ := ρ) (h := h) (s := s) (cvs := cvs) (f := f) tx hclo hlen hnn (hhost d hd) ic.toInCall.ns ic.toInCall.keep (fun q v hk i hq hv => bindL_zip _ _ _ _ i q v hnn hq hv hk) (fun q v hk i hq hv => bindC_zip _ _ _ _ i q v hnn hq hv (by
        show fd.scope.names.lookup q ≠ _
        rw [hk]; exact fun z => (nomatch z)))
      (fun q a ha => ic.above q a (PySem.mem_of_lookup ha)) (fun q a ha => ic.cell q a ha) (fun q q' a h1 h2 => (name_of_addr ic.apart (PySem.mem_of_lookup h1) (PySem.mem_of_lookup h2)).symm ▸ rfl)
    exact ⟨hlim.keeps ic.toInCall.keep, codeAny_func (wpAny_mono (run_frame (t1 := t1) hx C hD tx (R.deeper _) S F hl hcaps ra rc ee hr) (fun _ _ q => q) fun _ _ q => q.elim)⟩
  · have nocell : ∀ p ∈ fd.scope.names, p.2 ≠ .cell := tx.cel.resolve_left hnc
    refine wpAny_newFunctionEnv nocell (fun q hq => (tx.par q.1 (inz hq)).elim id fun hk => absurd rfl (nocell _ (mem_of_lookup hk))) (fun h₁ ns1 sb => ⟨hlim.fresh _ sb, codeAny_func ?_⟩) tx.kind
    have F := fr_clo (f := f) tx hnc nocell hlen hnn (hhost d hd) ns1 (fun b o e => sb.extBut b o (Nat.ne_of_lt (Heap.lt_size e)) (Heap.get?_push_of_some _ e)) hcl.2
    exact wpAny_mono (run_frame hx C hD tx (R.deeper _) S F hl hcaps ra rc ee hr) (fun _ _ q => q) fun _ _ q => q.elim
end
end Mine
end

section
set_option maxRecDepth 10000
namespace Mine
open PySem PySem.W PySem.Calls PyProof.Rows

theorem dfltOk_none {M : Model} {A : Around} {s : Shared} : DfltOk M A s .none := fun E Q h => wpAny_bind (wpAny_pure (wpAny_pure (h _)))
theorem dfltOk_ref {M : Model} {A : Around} {s : Shared} {T : Addr} {o : Obj} (ho : s.heap.get? T = some o) : DfltOk M A s (.ref T) := fun E Q h => by
  refine wpAny_bind (wpAny_load ho ?_)
  split <;> exact wpAny_pure (h _)
section
variable {x : Cx} {env : Env} {sl : List Str} {m : Loc} {L lo : Addr} {cs : List Addr} {ρ : Rho} {h h' : H} {A : Around} {s : Shared} {n : Nat} {y : V}
theorem GPost.cpost (G : Good x env sl m L cs lo ρ h s.heap) {r : Result} {s' : Shared} (p : GPost x ρ h s y h' r s') : CPost x L lo ρ h s y h' r s' := by
  obtain ⟨v, ρ', hp, t, L', ccs, lo', e, q, hL, hc, hl, st, S, rv⟩ := p
  exact ⟨v, e, ρ', hp, t, q, ⟨st.caller hL hc (Nat.le_trans G.fr.lo hl), st.calledNs hL hc G.fr.no, S⟩, rv⟩
theorem FdAt.dflt' {K : Frag} {k : Nat} {f : Addr} {o : Obj} {fd : FuncData} (F : FdAt K k f o fd) (X : K.In s.heap) {M : Model} : DfltOk M A s fd.defaults := by
  rcases F.dflt with q | ⟨T, o', q, hT⟩
  · rw [q]; exact dfltOk_none
  · rw [q]; exact dfltOk_ref (X _ _ hT)
/-- the call of a function of the program -/
theorem call_fn (hx : CxOk6 x) (C : CalleeOk x n (cF n)) (hD : ∀ ns sl, DefnsOk x n (cF n) ns sl (okText noNest)) (R : RoomC (n + 1) A) (S : Sim x okF ρ h s.heap) {k : Nat} {f : Addr} {as : List V} {vs : List Value} (e : cF (n + 1) k as h = some (y, h')) (hf : fnAddr x.K k = some f) (ra : RelL x okF ρ h s.heap as vs) :
    codeAny (model x.prog x.w) A (.call (.ref f) ⟨vs, []⟩) (GPost x ρ h s y h') s := by
  obtain ⟨o, fd, F⟩ := hx.fd k f hf
  have X := hx.X.keeps fun b o e => (S.static b o e).1
  exact call_sound (caps := []) (cvs := []) hx C hD R S (by rw [List.append_nil]; exact e) (X _ _ F.at_) F.data F.ok (codeRec_of X F.code) (F.dflt' X) ra rfl ⟨by rw [F.clo]; rfl, fun i c v hi => by rw [F.clo] at hi; exact nn hi⟩ F.host
end
theorem callee_all {x : Cx} (hx : CxOk6 x) (hDall : ∀ n, CalleeOk x n (cF n) → ∀ ns sl, DefnsOk x n (cF n) ns sl (okText noNest)) : ∀ n, CalleeOk x n (cF n) := by
  intro n
  induction n with
  | zero => exact ⟨fun _ _ _ e _ _ => nn e, fun _ _ _ e _ _ _ => nn e⟩
  | succ n IH =>
    refine ⟨fun R Ev G e hf ra => codeAny_mono (call_fn hx IH (hDall n IH) R G.sim e hf ra) fun _ _ p => p.cpost G, fun R Ev G e ra rc ic => ?_⟩
    obtain ⟨⟨o, fd, ho, hd, hok, hcr, ca, hca, nca, cl, e1, e2, e3⟩, na⟩ := ic
    exact codeAny_mono (call_sound hx IH (hDall n IH) R G.sim e ho hd hok.1 hcr (by rw [hok.2.1]; exact dfltOk_none) ra rc ⟨by rw [← e2, ← e1, List.length_map], fun i c v hi hv => ⟨(e3 i c v (e1 ▸ hi) hv).1, (e3 i c v (e1 ▸ hi) hv).2.1⟩⟩ fun d hd' hb => nomatch hb.symm.trans (hok.2.2 d hd')) fun _ _ p => p.cpost G
end Mine
end

section
set_option maxRecDepth 10000
namespace Mine
open PySem PySem.W PySem.Calls PyProof.Rows

structure CxOk7 (x : Cx) : Prop extends CxOk6 x where
  hd : CodeHd x.H0 889 885
  bm : ∀ mg, x.H0.Ns mainGlobals mg → ∃ bm ob, mg "__builtins__" = some (.ref bm) ∧ bm ≠ builtinsNs ∧ x.H0.get? bm = some ob ∧ ob.cls = .type "module" ∧ ob.dict = some builtinsNs ∧ ob.data = .plain

/-! ### the table of a text's own functions -/
theorem tabList_ok (l : List (Int × Int)) : ∀ cs : List Addr, TriplesOk (tabList l cs) := by
  induction l with
  | nil => exact fun _ => trivial
  | cons p l ih =>
    intro cs
    cases cs with
    | nil => exact trivial
    | cons c cs => exact ih cs
theorem tabList_none {pos : Pos} (l : List (Int × Int)) : ∀ cs : List Addr, ((pos.line : Int), (pos.col : Int)) ∉ l → codeAmong pos (tabList l cs) = none := by
  induction l with
  | nil => exact fun _ _ => rfl
  | cons p l ih =>
    intro cs h
    cases cs with
    | nil => rfl
    | cons c cs =>
      show (if (p.1 == pos.line && p.2 == pos.col) = true then _ else codeAmong pos (tabList l cs)) = none
      rw [if_neg fun z => and_el z fun a b => h (by rw [← eq_of_beq a, ← eq_of_beq b]; exact .head _)]
      exact ih cs fun z => h (.tail _ z)
theorem tabList_snoc (a b : Int) (c : Addr) (l : List (Int × Int)) : ∀ cs : List Addr, l.length = cs.length → tabList (l ++ [(a, b)]) (cs ++ [c]) = tabList l cs ++ [rawInt a, rawInt b, .ref c] := by
  induction l with
  | nil =>
    intro cs h
    cases cs with
    | nil => rfl
    | cons _ _ => exact nomatch h
  | cons p l ih =>
    intro cs h
    cases cs with
    | nil => exact nomatch h
    | cons c' cs => exact congrArg (fun r => rawInt p.1 :: rawInt p.2 :: .ref c' :: r) (ih cs (Nat.succ.inj h))
theorem ann0 {env : Env} (l : List Arg) : l.all (·.annotation.isNone) = true → annotationsOf l env = [] := by
  induction l with
  | nil => exact fun _ => rfl
  | cons q r ih =>
    intro hq
    obtain ⟨nm, an, ps⟩ := q
    cases an with
    | none => exact ih hq
    | some _ => exact nomatch hq
theorem ann1 {a : List Arg} {kd : List (Option Expr)} {df : List Expr} {env : Env} (h : a.all (·.annotation.isNone) = true) : annTrees ⟨[], a, none, [], kd, none, df⟩ none env = [] := by
  show annotationsOf (a ++ [] ++ [] ++ [] ++ []) env ++ _ = []
  rw [List.append_nil, List.append_nil, List.append_nil, List.append_nil, ann0 a h]; rfl
theorem annTrees_none {args : Arguments} {env : Env} (h : noDflt args = true) : annTrees args none env = [] :=
  (congrArg (fun a => annTrees a none env) (params_eq h)).trans (ann1 (and_el h fun _ h5 => h5))
end Mine
end

section
set_option maxRecDepth 10000
namespace Mine
open PySem PySem.W PySem.Calls PyProof.Rows

theorem clOf_eq (cells : List (Str × Addr)) (names : List (Str × NameKind)) : ∀ acc : List (Str × Addr), clOf cells names acc = ((names.filter (·.2 == .free)).map (·.1)).reverse.map (fun q => (q, (cells.lookup q).getD 0)) ++ acc := by
  induction names with
  | nil => exact fun _ => rfl
  | cons p r ih =>
    intro acc
    rw [clOf, ih, List.filter_cons]
    cases z : (p.2 == NameKind.free) with
    | false => rfl
    | true =>
      rw [if_pos rfl, if_pos rfl, List.map_cons, List.reverse_cons, List.map_append, List.append_assoc]; rfl

section
variable {x : Cx} {env : Env} {sl : List Str} {m m' : Loc} {L lo : Addr} {ccs cs : List Addr} {ρ : Rho} {h h' : H} {A : Around} {s : Shared} {n : Nat} {hp hp' : Heap} {c : Callee} {ns : NS} {wr : Bool}

/-- what a def captures -/
structure Capd (x : Cx) (env : Env) (lo : Addr) (ρ : Rho) (h : H) (hp : Heap) (sl : List Str) (js : List Nat) (vs : List V) (us : List Value) : Prop where
  rel : RelL x okF ρ h hp vs us
  len : us.length = js.length
  nms : (js.filterMap (sl[·]?)).length = js.length
  cel : ∀ (i : Nat) (q : Str) (u : Value), (js.filterMap (sl[·]?))[i]? = some q → us[i]? = some u → ∃ c, env.cells.lookup q = some c ∧ hp.IsCell c (some u) ∧ ¬ owned ρ h c ∧ lo ≤ c
theorem caps_sound (Fm : Frm x env ns sl L ccs cs wr) (D : DefFrm x env lo ρ) (G : Good x env sl m L cs lo ρ h hp) (js : List Nat) : ∀ {vs : List V}, js.all (cellAt ns sl) = true → caps m js = some vs → ∃ us, Capd x env lo ρ h hp sl js vs us := by
  induction js with
  | nil => exact fun _ e => some_el e ⟨[], rfl, rfl, rfl, fun i q u hi => nn hi⟩
  | cons j js ih =>
    refine fun hc e => and_el hc fun hj hr => onS_el e fun o ho e => onS_el e fun v hv e => onS_el e fun vs' e' e => some_el e ?_
    subst hv
    refine (ih hr e').elim fun us Z => G.names.elim fun fm N => ?_
    cases hq : sl[j]? with
    | none => rw [show cellAt ns sl j = false from by unfold cellAt; rw [hq]; rfl] at hj; exact ff hj
    | some q =>
      have hk : ns.lookup q = some .cell := eq_of_beq (show (ns.lookup q == some .cell) = true by unfold cellAt at hj; rw [hq] at hj; exact hj)
      refine ((N.2 j q v hq ho).cell (.inl (by rw [Fm.ev.names]; exact hk))).elim fun c b => b.elim fun u b => ⟨u :: us, ?_⟩
      have fm : (j :: js).filterMap (sl[·]?) = q :: js.filterMap (sl[·]?) := by rw [List.filterMap_cons, hq]
      refine ⟨.mk b.2.2.2 Z.rel, congrArg Nat.succ Z.len, by rw [fm]; exact congrArg Nat.succ Z.nms, fun i q' u' hi hu => ?_⟩
      rw [fm] at hi
      cases i with
      | zero => exact some_el hi (some_el hu ⟨c, b.1, b.2.1, b.2.2.1, D.cell q c b.1⟩)
      | succ i => exact Z.cel i q' u' hi hu

/-- the table grows, a function is made, cells are captured -/
theorem def_sim (S : Sim x okF ρ h hp) (F : FrOk L cs lo ρ h hp) {p : Addr × Addr} {l : List (Int × Int)} {o' : O} {κ : List Addr} (hp0 : ρ.o[0]? = some p) (h0 : h[0]? = some (.tab l)) (hl' : o'.live = true) (k : ∀ b o, b ≠ p.1 → hp.get? b = some o → hp'.get? b = some o) (z : hp.objs.size ≤ hp'.objs.size)
    (hκ : ∀ c ∈ κ, lo ≤ c ∧ c < hp.objs.size) (hob : ObjRel x okF ⟨ρ.o, ρ.c ++ κ⟩ (h.set 0 o') hp' p o') :
    Sim x okF ⟨ρ.o, ρ.c ++ κ⟩ (h.set 0 o') hp' ∧ Step L cs lo ρ h hp ⟨ρ.o, ρ.c ++ κ⟩ (h.set 0 o') hp' ∧ ∀ b, owned ⟨ρ.o, ρ.c ++ κ⟩ (h.set 0 o') b → owned ρ h b := by
  have own : owned ρ h p.1 := ⟨0, p, _, hp0, h0, rfl, .inl rfl⟩
  have ow : ∀ {b}, owned ⟨ρ.o, ρ.c ++ κ⟩ (h.set 0 o') b → owned ρ h b := fun {b} e =>
    owned_set (fun o1 h1 _ => (congrArg O.live (Option.some.inj (h0.symm.trans h1))).symm.trans rfl) (show owned ρ (h.set 0 o') b from e)
  have T : Step L cs lo ρ h hp ⟨ρ.o, ρ.c ++ κ⟩ (h.set 0 o') hp' := ⟨List.prefix_rfl, fun c e => List.mem_append_left _ e, fun c e => (List.mem_append.mp e).imp id fun q => (hκ c q).1, z, fun b o _ _ e nn => k b o (fun q => nn (q ▸ own)) e, fun b _ nn e => nn (ow e)⟩
  have back : ∀ {j : Nat} {o1 : O}, (h.set 0 o')[j]? = some o1 → o1.live = true → ∃ o2, h[j]? = some o2 ∧ o2.live = true := fun {j o1} e l => by
    cases j with
    | zero => exact ⟨_, h0, rfl⟩
    | succ j => rw [List.getElem?_set_ne (Nat.succ_ne_zero j).symm] at e; exact ⟨o1, e, l⟩
  refine ⟨⟨by rw [List.length_set]; exact S.len, fun j q o1 hj ho1 => ?_, fun j i q r o1 o2 ne hj hi h1 h2 l1 l2 => ?_, fun j q hj => (S.lt j q hj).imp (Nat.lt_of_lt_of_le · z) (Nat.lt_of_lt_of_le · z), fun c e => ?_, fun b ob e => ?_⟩, T, fun b => ow⟩
  · cases j with
    | zero =>
      rw [List.getElem?_set_self', h0] at ho1
      exact some_el ho1 (some_el (hp0.symm.trans hj) hob)
    | succ j =>
      rw [List.getElem?_set_ne (Nat.succ_ne_zero j).symm] at ho1
      cases l1 : o1.live with
      | true =>
        have d := S.disj (j + 1) 0 q p o1 _ (Nat.succ_ne_zero j) hj hp0 ho1 h0 l1 rfl
        obtain ⟨⟨o2, e1⟩, e2⟩ := S.at1 hj ho1 l1
        exact (S.obj _ q o1 hj ho1).move1 T F ((k _ _ d.1 e1).trans e1.symm) (e2.elim (fun ⟨o2, e⟩ => .inr ((k _ _ d.2.2.1 e).trans e.symm)) .inl)
      | false => cases o1 <;> first | exact ff l1.symm | trivial
  · exact (back h1 l1).elim fun _ e1 => (back h2 l2).elim fun _ e2 => S.disj j i q r _ _ ne hj hi e1.1 e2.1 e1.2 e2.2
  · exact (List.mem_append.mp e).elim (fun e => Nat.lt_of_lt_of_le (S.clt c e) z) fun e => Nat.lt_of_lt_of_le (hκ c e).2 z
  · have this := S.static b ob e
    exact ⟨k _ _ (fun q => this.2 (q ▸ own)) this.1, fun q => this.2 (ow q)⟩
theorem def_step (G : GoodS x env sl m L ccs cs lo ρ h hp) {p : Addr × Addr} {l : List (Int × Int)} {o' : O} {κ : List Addr} (hp0 : ρ.o[0]? = some p) (h0 : h[0]? = some (.tab l)) (hl' : o'.live = true) (k : ∀ b o, b ≠ p.1 → hp.get? b = some o → hp'.get? b = some o) (z : hp.objs.size ≤ hp'.objs.size)
    (hκ : ∀ c ∈ κ, lo ≤ c ∧ c < hp.objs.size) (hob : ObjRel x okF ⟨ρ.o, ρ.c ++ κ⟩ (h.set 0 o') hp' p o') :
    Step L cs lo ρ h hp ⟨ρ.o, ρ.c ++ κ⟩ (h.set 0 o') hp' ∧ GoodS x env sl m L ccs cs lo ⟨ρ.o, ρ.c ++ κ⟩ (h.set 0 o') hp' ∧ ∀ b, owned ⟨ρ.o, ρ.c ++ κ⟩ (h.set 0 o') b → owned ρ h b := by
  obtain ⟨sim, T, ow⟩ := def_sim G.g.sim G.g.fr hp0 h0 hl' k z hκ hob
  have own : owned ρ h p.1 := ⟨0, p, _, hp0, h0, rfl, .inl rfl⟩
  obtain ⟨fm, nsL, all⟩ := G.g.names
  have nsL' : hp'.Ns L fm := nsL.imp fun oL e => e.imp fun es e => e.imp fun ep e => ⟨k L oL (fun q => G.g.fr.no (q ▸ own)) e.1, e.2⟩
  have cellK : ∀ {c : Addr} {v : Option Value}, ¬ owned ρ h c → hp.IsCell c v → hp'.IsCell c v := fun {c v} nn e => e.imp fun o e => ⟨k c o (fun q => nn (q ▸ own)) e.1, e.2⟩
  refine ⟨T, ⟨⟨sim, ⟨⟨fm, nsL'⟩, fun e => G.g.fr.no (ow _ e), fun c hc => ?_, Nat.le_trans G.g.fr.lo z⟩, fm, nsL', fun j q y hs hm => ?_⟩, fun c hc => (G.cc c hc).imp fun v e => cellK (G.g.fr.cell c (G.sub c hc)).2.1 e, G.sub⟩, ow⟩
  · have C := G.g.fr.cell c hc
    exact ⟨C.1.imp fun o e => ⟨k c o (fun q => C.2.1 (q ▸ own)) e.1, e.2⟩, fun e => C.2.1 (ow _ e), fun q => (List.mem_append.mp q).elim C.2.2.1 fun q => Nat.lt_irrefl _ (Nat.lt_of_lt_of_le C.2.2.2 (hκ c q).1), C.2.2.2⟩
  · have B := all j q y hs hm
    exact ⟨fun e => (B.loc e).imp fun w b => ⟨b.1, b.2.step T G.g.fr⟩, fun e => (B.cell e).imp fun c b => b.imp fun w b => ⟨b.1, cellK b.2.2.1 b.2.1, fun e => b.2.2.1 (ow _ e), b.2.2.2.step T G.g.fr⟩⟩
end
end Mine
end

section
set_option maxRecDepth 10000
namespace Mine
open PySem PySem.W PySem.Calls PyProof.Rows

section
variable {x : Cx} {env : Env} {sl : List Str} {m m' : Loc} {L lo : Addr} {ccs cs : List Addr} {ρ ρ' : Rho} {h h' : H} {A : Around} {s : Shared} {n : Nat} {hp hp' : Heap} {c : Callee} {ns : NS} {wr : Bool} {sc : Scope} {js : List Nat} {vs : List V} {us : List Value}

theorem noDef (l : List S) : ∀ (Ts : List Stmt) {wr : Bool}, chkSs noNest ns sl wr l Ts = true → hasDef l = false := by
  induction l with
  | nil => exact fun _ _ _ => rfl
  | cons st r ih =>
    intro Ts wr h
    refine bC_el (P := fun _ => hasDef (st :: r) = false) h fun T Ts h => and_el h fun h1 h2 => ?_
    cases st <;> first | exact ih _ h2 | exact chkDef_el (P := fun _ => _) h1 fun _ _ _ _ _ _ q => ff q

theorem caps_at (hfree : js.filterMap (sl[·]?) = ((sc.names.filter (·.2 == .free)).map (·.1)).reverse) (i : Nat) : ((clOf env.cells sc.names []).map (·.2))[i]? = ((js.filterMap (sl[·]?))[i]?).map fun q => (env.cells.lookup q).getD 0 := by
  rw [clOf_eq, ← hfree, List.append_nil, List.map_map, List.getElem?_map]; rfl
/-- the captured cells -/
theorem caps_cell (Z : Capd x env lo ρ h hp sl js vs us) (hfree : js.filterMap (sl[·]?) = ((sc.names.filter (·.2 == .free)).map (·.1)).reverse) {i : Nat} {a : Addr} (hi : ((clOf env.cells sc.names []).map (·.2))[i]? = some a) {P : Prop}
    (k : ∀ u, us[i]? = some u → hp.IsCell a (some u) → ¬ owned ρ h a → lo ≤ a → P) : P := by
  rw [caps_at hfree] at hi
  obtain ⟨q, hq, e⟩ := Option.map_eq_some_iff.mp hi
  have hlt : i < us.length := by rw [Z.len, ← Z.nms]; exact (List.getElem?_eq_some_iff.mp hq).1
  obtain ⟨cc, c1, c2⟩ := Z.cel i q _ hq (List.getElem?_eq_getElem hlt)
  rw [c1] at e
  have e : cc = a := e
  subst e
  exact k _ (List.getElem?_eq_getElem hlt) c2.1 c2.2.1 c2.2.2
theorem clOf_names : (clOf env.cells sc.names []).map (·.1) = ((sc.names.filter (·.2 == .free)).map (·.1)).reverse := by
  rw [clOf_eq, List.append_nil, List.map_map]
  exact List.map_id' _
/-- the function's value, once it stands in the heap -/
theorem made_rel (Z : Capd x env lo ρ h hp sl js vs us) (hfree : js.filterMap (sl[·]?) = ((sc.names.filter (·.2 == .free)).map (·.1)).reverse) (F : FrOk L cs lo ρ h hp) (st : Step L cs lo ρ h hp ρ' h' hp') (ow : ∀ b, owned ρ' h' b → owned ρ h b) (hκ : ∀ a ∈ (clOf env.cells sc.names []).map (·.2), a ∈ ρ'.c)
    {a ca : Addr} {o : Obj} {fd : FuncData} (ho : hp'.get? a = some o) (hd : o.data = .func fd) {k : Nat} (hok : okF k fd) (hrec : hp'.CodeRec fd.code fd.qualname) (hca : fd.code = .ref ca) (nca : ¬ owned ρ h ca) (na : ¬ owned ρ h a) (hcl : fd.closure = clOf env.cells sc.names []) : Rel x okF ρ' h' hp' (.clo k vs) (.ref a) := by
  refine ⟨a, us, rfl, Z.rel.step st F, ⟨⟨o, fd, ho, hd, hok, hrec, ca, hca, fun q => nca (ow _ q), _, rfl, ?_, fun i cc v hi hv => ?_⟩, fun q => na (ow _ q)⟩⟩
  · rw [hcl, Z.len, ← Z.nms, hfree, ← clOf_names (env := env), List.length_map, List.length_map]
  · rw [hcl] at hi
    refine caps_cell Z hfree hi fun u hu ic no hlo => ?_
    have ev : u = v := Option.some.inj (hu.symm.trans hv)
    subst ev
    obtain ⟨oc, hoc, hdc⟩ := ic
    exact ⟨⟨oc, st.keep cc oc (fun q => F.ns.elim fun fm nsL => cell_ne ⟨oc, hoc, hdc⟩ nsL q) (fun q => Nat.lt_irrefl _ (Nat.lt_of_lt_of_le (F.cell _ q).2.2.2 hlo)) hoc no, hdc⟩, fun q => no (ow _ q), hκ _ (List.mem_of_getElem? hi)⟩
/-- where the program's names stand -/
structure ModAt (hp : Heap) (mg : Str → Option Value) : Prop where
  g : hp.Ns mainGlobals mg
  gP : mainGlobals ≠ 885
  b : hp.BuiltinsAt mg 885
theorem mod_at (hx : CxOk7 x) (S : Sim x okF ρ h hp) (no : owned ρ h 885) : ∃ mg, ModAt hp mg := by
  obtain ⟨pp, loose, mg, mb, TT⟩ := hx.top
  obtain ⟨bm, ob, b1, b2, b3, b4, b5, b6⟩ := hx.bm mg TT.g
  obtain ⟨o, es, ep, e, hd, _⟩ := TT.g
  refine ⟨mg, TT.g.keeps fun b o e => (S.static b o e).1, fun q => (S.static _ _ e).2 (q ▸ no), bm, ob, b1, b2, fun q => ?_, fun q => (S.static _ _ b3).2 (q ▸ no), (S.static _ _ b3).1, b4, b5, b6⟩
  rw [q, e] at b3; cases b3; rw [hd] at b6; exact Data.noConfusion b6
theorem s_defn (hx : CxOk7 x) : DefnsOk x n c ns sl (okText noNest) := fun i k js line col T hc => chkDef_el (P := fun T => SOk x n c ns sl false (.defn i k js line col) T) hc fun name args body sc pos hkd hnest _ hslot hloc hnd hdf hline hcol hjs hfree => by
  have S0 := slotIs_of hslot
  intro A env L lo ccs cs m h fl m' h' ρ s R Fm D e G
  have D := D rfl
  refine onS_el (exec_defn.symm.trans e) fun ot h0 e => ?_
  refine (show ∃ l, ot = .tab l from by cases ot <;> first | exact nn e | exact ⟨_, rfl⟩).elim fun l hl => ?_
  subst hl
  refine onS_el (show (onS (caps m js) fun vs => if i < m.length ∧ (line, col) ∉ l then some (.next, m.set i (some (.clo k vs)), h.set 0 (.tab (l ++ [(line, col)]))) else none) = some (fl, m', h') from e) fun vs hcaps e => if_el e fun hcond e => trip_el e ?_
  obtain ⟨us, Z⟩ := caps_sound Fm D G.g js hjs hcaps
  obtain ⟨p, hp0⟩ : ∃ p, ρ.o[0]? = some p := ⟨_, List.getElem?_eq_getElem (by rw [G.g.sim.len]; exact (List.getElem?_eq_some_iff.mp h0).1)⟩
  obtain ⟨tcs, ht, tl, p885⟩ := G.g.sim.obj 0 p _ hp0 h0
  rw [p885] at ht
  obtain ⟨mg, MA⟩ := mod_at hx G.g.sim ⟨0, p, _, hp0, h0, rfl, .inl p885.symm⟩
  have hcl := closureFor_of sc env fun q hq hf => by
    have w : q.1 ∈ js.filterMap (sl[·]?) := by
      rw [hfree, List.mem_reverse]; exact List.mem_map.mpr ⟨q, List.mem_filter.mpr ⟨hq, by rw [hf]; rfl⟩, rfl⟩
    obtain ⟨j, hj, e⟩ := List.mem_filterMap.mp w
    have w := List.all_eq_true.mp hjs j hj
    unfold cellAt at w
    rw [e] at w
    exact Fm.ev.cells q.1 (.inl (eq_of_beq (show (ns.lookup q.1 == some .cell) = true from w)))
  refine nestDef_K hdf hkd (annTrees_none hnd) ?_
  refine with_size (makeFunction_K (mg := mg) hcl Fm.ev.glob MA.g D.code (hx.hd.keeps (static_keep G.g)) ht (by rw [List.toList_toArray]; exact tabList_ok l tcs) (by rw [List.toList_toArray]; exact tabList_none l tcs (by rw [hline, hcol]; exact hcond.2)) MA.gP MA.b fun c' ctv doc h2 tk hx2 hge hlt hrec htab zz => ?_)
  have hκ : ∀ a ∈ (clOf env.cells sc.names []).map (·.2), lo ≤ a ∧ a < s.heap.objs.size := fun a ha => (List.getElem_of_mem ha).elim fun i' w => w.elim fun hi' e => caps_cell Z hfree (e ▸ List.getElem?_eq_getElem hi') fun u _ ic _ hlo => ⟨hlo, ic.lt⟩
  obtain ⟨fo, hfo⟩ : ∃ fo, fo = fnMade name (qualnameIn env name name) args body sc (clOf env.cells sc.names []) doc ((mg "__name__").getD .none) c' ctv := ⟨_, rfl⟩
  rw [← hfo]
  have z2 : s.heap.objs.size ≤ h2.objs.size := Nat.le_trans hge (Nat.le_of_lt hlt)
  have DS := def_step (o' := .tab (l ++ [(line, col)])) (κ := (clOf env.cells sc.names []).map (·.2)) (hp' := h2.push fo) G hp0 h0 rfl (fun b o ne e => Heap.get?_push_of_some _ (hx2 b o (fun q => ne (by rw [p885]; exact q)) e)) (Nat.le_trans z2 (by rw [Heap.size_push]; exact Nat.le_succ _)) hκ
    ⟨tcs ++ [c'], by
      rw [p885, tabList_snoc line col c' l tcs tl]
      refine Heap.get?_push_of_some _ (htab.trans ?_)
      rw [hline, hcol]; exact congrArg (fun a => some (tabObj a)) (List.append_toArray ..), by rw [List.length_append, List.length_append, tl]; rfl, p885⟩
  have rel : Rel x okF ⟨ρ.o, ρ.c ++ (clOf env.cells sc.names []).map (·.2)⟩ (h.set 0 (.tab (l ++ [(line, col)]))) (h2.push fo) (.clo k vs) (.ref h2.objs.size) := by
    subst hfo
    refine made_rel Z hfree G.g.fr DS.1 DS.2.2 (fun a ha => List.mem_append_right _ ha) (Heap.get?_push_size _ rfl) rfl ⟨?_, rfl, fun d hd' => ?_⟩ (hrec.push _) rfl (G.g.fresh hge) (G.g.fresh z2) rfl
    · show (mainGlobals == mainGlobals && builtinsNs == builtinsNs && ((clOf env.cells sc.names []).map (·.1) == ((sc.names.filter (·.2 == .free)).map (·.1)).reverse) && (okText _ k args body sc || okText noNest k args body sc)) = true
      rw [hnest, clOf_names, beq_self_eq_true, beq_self_eq_true, beq_self_eq_true, Bool.or_true]; rfl
    · unfold okText at hnest
      rw [hd'] at hnest
      exact and_el hnest fun _ z => noDef _ _ z
  exact store_nm (s := { s with heap := h2.push fo, toks := tk }) Fm DS.2.1 S0.1 S0.2.1 (by rw [hloc]; exact fun q => (nomatch q)) (.inr hloc) rel fun ρ3 hp3 t3 st3 G3 => StPost.next (StPost.after DS.1 ⟨ρ3, hp3, t3, rfl, st3, G3⟩)
end
end Mine
end

section
namespace Mine
open PySem PySem.W PySem.Calls PyProof.Rows
/-- the mini interpreter is sound at every fuel -/
theorem callee_sound {x : Cx} (hx : CxOk7 x) (n : Nat) : CalleeOk x n (cF n) := callee_all hx.toCxOk6 (fun n C ns sl => s_defn hx) n
/-- the end of the first call -/
def EPost (x : Cx) (ρ : Rho) (h : H) (s : Shared) (y : V) (h' : H) (r : Result) (s' : Shared) : Prop :=
  ∃ v ρ' hp t, r = .ok (.ret v) ∧ s' = { s with heap := hp, toks := t } ∧ ρ.o <+: ρ'.o ∧ Sim x okF ρ' h' hp ∧ Rel x okF ρ' h' hp y v
section
variable {x : Cx} {ρ : Rho} {h h' : H} {A : Around} {s : Shared} {n : Nat}
theorem call_entry (hx : CxOk7 x) (R : RoomC (n + 1) A) (S : Sim x okF ρ h s.heap) {k : Nat} {f : Addr} {as : List V} {vs : List Value} {y : V} (e : cF (n + 1) k as h = some (y, h')) (hf : fnAddr x.K k = some f) (ra : RelL x okF ρ h s.heap as vs) :
    codeAny (model x.prog x.w) A (.call (.ref f) ⟨vs, []⟩) (EPost x ρ h s y h') s :=
  codeAny_mono (call_fn hx.toCxOk6 (callee_sound hx n) (fun ns sl => s_defn hx) R S e hf ra) fun r s' p => by
    obtain ⟨v, ρ', hp, t, L', ccs, lo', e, q, hL, hc, hl, st, S, rv⟩ := p
    exact ⟨v, ρ', hp, t, e, q, st.pre, S, rv⟩
end

/-! ### the checks of the frozen heap, as Bools -/
noncomputable def refAt (o : Option (Option Value)) (f : Addr → Bool) : Bool := bS o fun o => bS o fun v => match v with
  | .ref a => f a
  | _ => false
theorem refAt_el {o : Option (Option Value)} {f : Addr → Bool} {P : Prop} (h : refAt o f = true) (k : ∀ a, o = some (some (.ref a)) → f a = true → P) : P :=
  bS_el (P := fun o' => o' = o → P) h (fun o' h e => bS_el (P := fun o2 => o2 = o' → P) h (fun v h e2 => by
    cases v with
    | ref a => exact k a (by rw [← e, ← e2]) h
    | _ => exact ff h) rfl) rfl
noncomputable def vRefB (v : Value) (f : Addr → Bool) : Bool := match v with
  | .ref a => f a
  | _ => false
@[elab_as_elim] theorem vRefB_el {v : Value} {f : Addr → Bool} {P : Value → Prop} (h : vRefB v f = true) (k : ∀ a, f a = true → P (.ref a)) : P v := by
  cases v with
  | ref a => exact k a h
  | _ => exact ff h
noncomputable def kSh (K : Frag) (k : Nat) (v : Value) : Bool := match kind k with
  | some (.fn) => vRefB v fun f => fnAddr K k == some f
  | some (.cls C i) => vRefB v fun Ca => clsAddr K C == some Ca && refAt (findIn K (.ref Ca) "__init__") fun f => fnAddr K i == some f && isFn K (.ref f)
  | some (.bi b) => v == biV b
  | none => false
noncomputable def kOne (K : Frag) (k : Nat) : Bool := match gval K k with
  | some v => handedIn v && (v == .none) == false && (keepIn K v || nonRef v) && kSh K k v
  | none => !isGlob k
noncomputable def dfltB (K : Frag) (v : Value) : Bool := match v with
  | .none => true
  | .ref T => (K.lookup T).isSome
  | _ => false
noncomputable def hostB (o : Option Fn) (c : Value) : Bool := match o with
  | some d => !hasDef d.body || c == .ref 889
  | none => true
noncomputable def fdB (d : Data) (f : FuncData → Bool) : Bool := match d with
  | .func fd => f fd
  | _ => false
noncomputable def kFn (K : Frag) (k : Nat) : Bool := match fnAddr K k with
  | some f => keepIn K (.ref f) && bS (K.lookup f) fun o => fdB o.data fun fd => okFd k fd && codeIn K fd.code fd.qualname && dfltB K fd.defaults && hostB (fns k) fd.code && fd.closure.isEmpty
  | none => true
noncomputable def atC (K : Frag) (C : Addr) (c : Nat) (n : Nat) : Bool := match attrS n with
  | some q => (match clsMeth c n with
    | none => findIn K (.ref C) q == some none
    | some k => refAt (findIn K (.ref C) q) fun f => fnAddr K k == some f && isFn K (.ref f))
  | none => true
noncomputable def kCls (K : Frag) (c : Nat) : Bool := match clsAddr K c with
  | some C => plainGet K C Str.empty && hasDictIn K C && findIn K (.ref C) "__setattr__" == some (some (.builtin "object.__setattr__")) && plainOver K C && makesIn K C && (List.range attrL.length).all (atC K C c)
  | none => true
theorem kind_lt {k : Nat} {r : Kd} (h : kind k = some r) : k < 70 := (List.getElem?_eq_some_iff.mp (show kindL[k]? = some r from h)).1
theorem gval_lt {K : Frag} {k : Nat} {v : Value} (h : gval K k = some v) : k < 70 := by
  cases e : kind k with
  | none => unfold gval at h; rw [e] at h; exact nn h
  | some d => exact kind_lt e
end Mine
end

section
set_option maxRecDepth 10000
namespace Mine
open PySem PySem.W PySem.Calls PyProof.Rows
theorem methOf_lt {k : Nat} {r : Nat × String} (h : methOf k = some r) : k < 70 :=
  of_decide_eq_true (List.all_eq_true.mp (by decide +kernel : methL.all (fun p => decide (p.1 < 70)) = true) (k, r) (mem_lookup h))
theorem fnAddr_lt {K : Frag} {k : Nat} {f : Addr} (h : fnAddr K k = some f) : k < 70 := by
  unfold fnAddr at h
  cases e : methOf k with
  | some r => exact methOf_lt e
  | none =>
    rw [e] at h
    cases e2 : kind k with
    | none => rw [e2] at h; exact nn h
    | some d => exact kind_lt e2
theorem clsAddr_lt {K : Frag} {c : Nat} {C : Addr} (h : clsAddr K c = some C) : c < 5 := by
  cases e : clsNames[c]? with
  | none => unfold clsAddr clsS at h; rw [e] at h; exact nn h
  | some n => exact (List.getElem?_eq_some_iff.mp e).1
theorem isGlob_lt {k : Nat} (h : isGlob k = true) : k < 70 :=
  (or_el h).elim (fun a => Nat.lt_trans (of_decide_eq_true a) (by decide)) fun a => and_el a fun _ b => Nat.lt_of_le_of_lt (of_decide_eq_true b) (by decide)
theorem at70 {p : Nat → Bool} (h : (List.range 70).all p = true) {k : Nat} (hk : k < 70) : p k = true := List.all_eq_true.mp h k (List.mem_range.mpr hk)
theorem at5 {p : Nat → Bool} (h : (List.range 5).all p = true) {k : Nat} (hk : k < 5) : p k = true := List.all_eq_true.mp h k (List.mem_range.mpr hk)
section
variable {K : Frag} {k : Nat} {v : Value}
theorem kOne_some (h : kOne K k = true) (g : gval K k = some v) : handedIn v = true ∧ (v == .none) = false ∧ (keepIn K v = true ∨ nonRef v = true) ∧ kSh K k v = true := by
  unfold kOne at h
  rw [g] at h
  exact and_el h fun h d => and_el h fun h c => and_el h fun a b => ⟨a, eq_of_beq b, or_el c, d⟩
theorem kSh_fn (h : kSh K k v = true) (e : kind k = some .fn) : ∃ f, v = .ref f ∧ fnAddr K k = some f := by
  unfold kSh at h
  rw [e] at h
  exact vRefB_el (P := fun v => ∃ f, v = .ref f ∧ fnAddr K k = some f) h fun f h => ⟨f, rfl, eq_of_beq h⟩
theorem kSh_cls {C i : Nat} (h : kSh K k v = true) (e : kind k = some (.cls C i)) : ∃ Ca f, v = .ref Ca ∧ clsAddr K C = some Ca ∧ findIn K (.ref Ca) "__init__" = some (some (.ref f)) ∧ fnAddr K i = some f ∧ isFn K (.ref f) := by
  unfold kSh at h
  rw [e] at h
  exact vRefB_el (P := fun v => ∃ Ca f, v = .ref Ca ∧ clsAddr K C = some Ca ∧ findIn K (.ref Ca) "__init__" = some (some (.ref f)) ∧ fnAddr K i = some f ∧ isFn K (.ref f)) h fun Ca h => and_el h fun h1 h2 => refAt_el h2 fun f hf h => and_el h fun a b => ⟨Ca, f, rfl, eq_of_beq h1, hf, eq_of_beq a, b⟩
theorem kSh_bi {b : Bi} (h : kSh K k v = true) (e : kind k = some (.bi b)) : v = biV b := by
  unfold kSh at h
  rw [e] at h
  exact eq_of_beq h
theorem atC_el {C : Addr} {c n : Nat} {q : Str} (h : atC K C c n = true) (hq : attrS n = some q) : (clsMeth c n = none → findIn K (.ref C) q = some none) ∧ ∀ k, clsMeth c n = some k → ∃ f, findIn K (.ref C) q = some (some (.ref f)) ∧ fnAddr K k = some f ∧ isFn K (.ref f) = true := by
  unfold atC at h
  rw [hq] at h
  refine ⟨fun e => ?_, fun k e => ?_⟩
  · rw [e] at h; exact eq_of_beq h
  · rw [e] at h; exact refAt_el h fun f hf h => and_el h fun a b => ⟨f, hf, eq_of_beq a, b⟩
theorem attrS_lt {n : Nat} {q : Str} (hq : attrS n = some q) : n < attrL.length := by
  obtain ⟨z, e, _⟩ := Option.map_eq_some_iff.mp hq
  exact (List.getElem?_eq_some_iff.mp e).1
theorem kCls_ok {c : Nat} {C : Addr} (h : kCls K c = true) (e : clsAddr K c = some C) : ClsOk K c C := by
  unfold kCls at h
  rw [e] at h
  exact and_el h fun h f => and_el h fun h m => and_el h fun h d => and_el h fun h c1 => and_el h fun a b =>
    have at' := fun {n : Nat} {q : Str} (hq : attrS n = some q) => atC_el (List.all_eq_true.mp f n (List.mem_range.mpr (attrS_lt hq))) hq
    ⟨a, b, eq_of_beq c1, d, fun n q hq hm => (at' hq).1 hm, fun n q k hq hm => (at' hq).2 k hm, m⟩
theorem dfltB_el (h : dfltB K v = true) : v = .none ∨ ∃ T o', v = .ref T ∧ K.lookup T = some o' := by
  cases v with
  | none => exact .inl rfl
  | ref T => exact (Option.isSome_iff_exists.mp h).elim fun o e => .inr ⟨T, o, rfl, e⟩
  | _ => exact ff h
theorem kFn_ok {f : Addr} (h : kFn K k = true) (e : fnAddr K k = some f) : keepIn K (.ref f) = true ∧ ∃ o fd, FdAt K k f o fd := by
  unfold kFn at h
  rw [e] at h
  refine and_el h fun a h => ⟨a, ?_⟩
  refine bS_el (P := fun o => o = K.lookup f → ∃ o fd, FdAt K k f o fd) h (fun o h eo => ?_) rfl
  cases hd : o.data with
  | func fd =>
    rw [hd] at h
    exact and_el h fun h b5 => and_el h fun h b4 => and_el h fun h b3 => and_el h fun b1 b2 => ⟨o, fd, eo.symm, hd, b1, b2, dfltB_el b3, fun d hd hh => by
      rw [hd] at b4
      exact (or_el (show (!hasDef d.body || fd.code == .ref 889) = true from b4)).elim (fun z => nomatch hh.symm.trans (not_t z)) eq_of_beq, List.isEmpty_iff.mp b5⟩
  | _ => rw [hd] at h; exact ff h
end
theorem cx7_of {x : Cx} (c1 : (List.range 70).all (kOne x.K) = true) (c2 : (List.range 70).all (kFn x.K) = true) (c3 : (List.range 5).all (kCls x.K) = true) (X : x.K.In x.H0) (top : ∃ p loose mg mb, TopRead p loose mg mb x.H0) (sys : ∃ o, x.H0.get? sysModules = some o)
    (hd : CodeHd x.H0 889 885) (bm : ∀ mg, x.H0.Ns mainGlobals mg → ∃ bm ob, mg "__builtins__" = some (.ref bm) ∧ bm ≠ builtinsNs ∧ x.H0.get? bm = some ob ∧ ob.cls = .type "module" ∧ ob.dict = some builtinsNs ∧ ob.data = .plain) : CxOk7 x := by
  have one := fun {k : Nat} {v : Value} (g : gval x.K k = some v) => kOne_some (at70 c1 (gval_lt g)) g
  exact {
    X := X, top := top, sys := sys
    gne := fun k v g => (one g).2.1
    hand := fun k v g => (one g).1
    cls := fun c C e => kCls_ok (at5 c3 (clsAddr_lt e)) e
    keep := fun k v g => (one g).2.2.1
    fkeep := fun k f e => (kFn_ok (at70 c2 (fnAddr_lt e)) e).1
    fn := fun k v e g => kSh_fn (one g).2.2.2 e
    cl := fun k C i v e g => kSh_cls (one g).2.2.2 e
    bi := fun k b v e g => kSh_bi (one g).2.2.2 e
    gl := fun k h => by
      have z := at70 c1 (isGlob_lt h)
      unfold kOne at z
      cases g : gval x.K k with
      | some v => rfl
      | none => rw [g] at z; exact nomatch h.symm.trans (not_t z)
    fd := fun k f e => (kFn_ok (at70 c2 (fnAddr_lt e)) e).2
    hd := hd, bm := bm }
end Mine
end

section
namespace Mine.L
open Mine
/-! ### weakest preconditions of the mini language -/
noncomputable abbrev cf (n : Nat) := callF kind meTab clsMeth fns n
structure WX (n : Nat) (e : X) (m : Loc) (h : H) (Q : V → H → Prop) : Prop where
  ex : ∃ v h', evalX kind meTab clsMeth (cf n) e m h = some (v, h') ∧ Q v h'
structure WXs (n : Nat) (e : List X) (m : Loc) (h : H) (Q : List V → H → Prop) : Prop where
  ex : ∃ v h', evalXs kind meTab clsMeth (cf n) e m h = some (v, h') ∧ Q v h'
structure WC (n k : Nat) (as : List V) (h : H) (Q : V → H → Prop) : Prop where
  ex : ∃ v h', cf n k as h = some (v, h') ∧ Q v h'
structure W1 (n : Nat) (s : S) (m : Loc) (h : H) (Q : Fl → Loc → H → Prop) : Prop where
  ex : ∃ f m' h', exec kind meTab clsMeth (cf n) s m h = some (f, m', h') ∧ Q f m' h'
structure WS (n : Nat) (s : List S) (m : Loc) (h : H) (Q : Fl → Loc → H → Prop) : Prop where
  ex : ∃ f m' h', execs kind meTab clsMeth (cf n) s m h = some (f, m', h') ∧ Q f m' h'
structure WM (n : Nat) (t : Mt) (as : List V) (h : H) (Q : V → H → Prop) : Prop where
  ex : ∃ v h', callMt kind (cf n) t as h = some (v, h') ∧ Q v h'
structure WT (n : Nat) (t : T) (v : V) (m : Loc) (h : H) (Q : Loc → H → Prop) : Prop where
  ex : ∃ m' h', store kind meTab clsMeth (cf n) t v m h = some (m', h') ∧ Q m' h'
structure WB (b : Bi) (as : List V) (h : H) (Q : V → H → Prop) : Prop where
  ex : ∃ v h', builtin b as h = some (v, h') ∧ Q v h'
structure IsInt (v : V) (Q : Int → Prop) : Prop where
  ex : ∃ x, v = .int x ∧ Q x
structure IsLoc (v : V) (Q : Nat → Prop) : Prop where
  ex : ∃ x, v = .loc x ∧ Q x
structure Tru (v : V) (Q : Bool → Prop) : Prop where
  ex : ∃ x, truth v = some x ∧ Q x
structure IsB (v : V) (Q : Bool → Prop) : Prop where
  ex : ∃ x, v = .bool x ∧ Q x
structure Cmp (op : Cm) (x y : V) (h : H) (Q : Bool → Prop) : Prop where
  ex : ∃ z, cmpop op x y h = some z ∧ Q z
structure GM (o : V) (n : Nat) (h : H) (Q : Mt → Prop) : Prop where
  ex : ∃ t, getMeth meTab clsMeth o n h = some t ∧ Q t
structure Sub (o i : V) (h : H) (Q : V → Prop) : Prop where
  ex : ∃ v, subscr o i h = some v ∧ Q v
structure Br (b : Bool) (P R : Prop) : Prop where
  t : b = true → P
  f : b = false → R
theorem br_t {b : Bool} {P R : Prop} (hb : b = true) (p : P) : Br b P R := ⟨fun _ => p, fun e => (nomatch hb.symm.trans e)⟩
theorem br_f {b : Bool} {P R : Prop} (hb : b = false) (p : R) : Br b P R := ⟨fun e => (nomatch hb.symm.trans e), fun _ => p⟩
/-! ### the continuations, each with a name of its own (no binder in a proof's term) -/
structure Bop (op : B) (x y : Int) (Q : Int → Prop) : Prop where
  ex : ∃ z, binop op x y = some z ∧ Q z
structure PutS (h : H) (l : Nat) (k : Int) (v : V) (Q : H → Prop) : Prop where
  ex : (∃ vs, h[l]? = some (.list vs) ∧ (0 ≤ k ∧ k.toNat < vs.length) ∧ Q (h.set l (.list (vs.set k.toNat v)))) ∨ (∃ kv, h[l]? = some (.dict kv) ∧ kv.length < 1000000 ∧ Q (h.set l (.dict (setKV kv k v))))
structure At (h : H) (v : V) (k : Nat) (Q : V → Prop) : Prop where
  ex : ∃ l C fs w, v = .loc l ∧ h[l]? = some (.inst C fs) ∧ clsMeth C k = none ∧ fs.lookup k = some w ∧ Q w
abbrev KX := V → H → Prop
abbrev KL := Fl → Loc → H → Prop
abbrev kInt (Q : KX) (h : H) (z : Int) : Prop := Q (.int z) h
abbrev kBool (Q : KX) (h : H) (z : Bool) : Prop := Q (.bool z) h
abbrev kVal (Q : KX) (h : H) (v : V) : Prop := Q v h
abbrev kBin4 (op : B) (Q : KX) (x : Int) (h2 : H) (y : Int) : Prop := Bop op x y (kInt Q h2)
abbrev kBin3 (op : B) (Q : KX) (x : Int) (u : V) (h2 : H) : Prop := IsInt u (kBin4 op Q x h2)
abbrev kBin2 (n : Nat) (op : B) (b : X) (m : Loc) (Q : KX) (h1 : H) (x : Int) : Prop := WX n b m h1 (kBin3 op Q x)
abbrev kBin1 (n : Nat) (op : B) (b : X) (m : Loc) (Q : KX) (v : V) (h1 : H) : Prop := IsInt v (kBin2 n op b m Q h1)
abbrev kNeg1 (Q : KX) (h1 : H) (x : Int) : Prop := Q (.int (-x)) h1
abbrev kNeg (Q : KX) (v : V) (h1 : H) : Prop := IsInt v (kNeg1 Q h1)
abbrev kNot1 (Q : KX) (h1 : H) (b : Bool) : Prop := Q (.bool (!b)) h1
abbrev kNot (Q : KX) (v : V) (h1 : H) : Prop := Tru v (kNot1 Q h1)
abbrev kCmp2 (op : Cm) (Q : KX) (v u : V) (h2 : H) : Prop := Cmp op v u h2 (kBool Q h2)
abbrev kCmp1 (n : Nat) (op : Cm) (b : X) (m : Loc) (Q : KX) (v : V) (h1 : H) : Prop := WX n b m h1 (kCmp2 op Q v)
abbrev kAnd1 (n : Nat) (b : X) (m : Loc) (Q : KX) (h1 : H) (z : Bool) : Prop := Br z (WX n b m h1 Q) (Q (.bool false) h1)
abbrev kAnd (n : Nat) (b : X) (m : Loc) (Q : KX) (v : V) (h1 : H) : Prop := IsB v (kAnd1 n b m Q h1)
abbrev kOr1 (n : Nat) (b : X) (m : Loc) (Q : KX) (h1 : H) (z : Bool) : Prop := Br z (Q (.bool true) h1) (WX n b m h1 Q)
abbrev kOr (n : Nat) (b : X) (m : Loc) (Q : KX) (v : V) (h1 : H) : Prop := IsB v (kOr1 n b m Q h1)
abbrev kIte1 (n : Nat) (a b : X) (m : Loc) (Q : KX) (h1 : H) (z : Bool) : Prop := Br z (WX n a m h1 Q) (WX n b m h1 Q)
abbrev kIte (n : Nat) (a b : X) (m : Loc) (Q : KX) (v : V) (h1 : H) : Prop := Tru v (kIte1 n a b m Q h1)
abbrev kCons1 (Q : List V → H → Prop) (v : V) (vs : List V) (h2 : H) : Prop := Q (v :: vs) h2
abbrev kCons (n : Nat) (r : List X) (m : Loc) (Q : List V → H → Prop) (v : V) (h1 : H) : Prop := WXs n r m h1 (kCons1 Q v)
abbrev kFn (n k : Nat) (Q : KX) (vs : List V) (h1 : H) : Prop := WC n k vs h1 Q
abbrev kBi (b : Bi) (Q : KX) (vs : List V) (h1 : H) : Prop := WB b vs h1 Q
abbrev kCls1 (Q : KX) (h1 : H) (r : V) (h2 : H) : Prop := r = .non ∧ Q (.loc h1.length) h2
abbrev kCls (n i C : Nat) (Q : KX) (vs : List V) (h1 : H) : Prop := WC n i (.loc h1.length :: vs) (h1 ++ [.inst C []]) (kCls1 Q h1)
abbrev kMeth2 (n : Nat) (t : Mt) (Q : KX) (vs : List V) (h2 : H) : Prop := WM n t vs h2 Q
abbrev kMeth1 (n : Nat) (as : List X) (m : Loc) (Q : KX) (h1 : H) (t : Mt) : Prop := WXs n as m h1 (kMeth2 n t Q)
abbrev kMeth (n k : Nat) (as : List X) (m : Loc) (Q : KX) (v : V) (h1 : H) : Prop := GM v k h1 (kMeth1 n as m Q h1)
abbrev kAttr (k : Nat) (Q : KX) (v : V) (h1 : H) : Prop := At h1 v k (kVal Q h1)
abbrev kSub1 (v : V) (Q : KX) (u : V) (h2 : H) : Prop := Sub v u h2 (kVal Q h2)
abbrev kSub (n : Nat) (i : X) (m : Loc) (Q : KX) (v : V) (h1 : H) : Prop := WX n i m h1 (kSub1 v Q)
abbrev kTup (Q : KX) (vs : List V) (h1 : H) : Prop := vs.length ≤ 100 ∧ Q (.tup vs) h1
abbrev kList (Q : KX) (vs : List V) (h1 : H) : Prop := vs.length ≤ 100 ∧ Q (.loc h1.length) (h1 ++ [.list vs])
abbrev kFrz1 (Q : KX) (h1 : H) (l : Nat) : Prop := ∃ xs, h1[l]? = some (.list xs) ∧ Q (.lst xs) (h1.set l .dead)
abbrev kFrz (Q : KX) (v : V) (h1 : H) : Prop := IsLoc v (kFrz1 Q h1)
abbrev kExpr (m : Loc) (R : KL) (v : V) (h1 : H) : Prop := R .next m h1
abbrev kAsg (n : Nat) (t : T) (m : Loc) (R : KL) (v : V) (h1 : H) : Prop := WT n t v m h1 (R .next)
abbrev kRet (m : Loc) (R : KL) (v : V) (h1 : H) : Prop := R (.ret v) m h1
abbrev kIf1 (n : Nat) (a b : List S) (m : Loc) (R : KL) (h1 : H) (z : Bool) : Prop := Br z (WS n a m h1 R) (WS n b m h1 R)
abbrev kIf (n : Nat) (a b : List S) (m : Loc) (R : KL) (v : V) (h1 : H) : Prop := Tru v (kIf1 n a b m R h1)
abbrev kPut4 (m : Loc) (v : V) (Q : Loc → H → Prop) (l : Nat) (h2 : H) (k : Int) : Prop := PutS h2 l k v (Q m)
abbrev kPut3 (m : Loc) (v : V) (Q : Loc → H → Prop) (l : Nat) (u : V) (h2 : H) : Prop := IsInt u (kPut4 m v Q l h2)
abbrev kPut2 (n : Nat) (i : X) (m : Loc) (v : V) (Q : Loc → H → Prop) (h1 : H) (l : Nat) : Prop := WX n i m h1 (kPut3 m v Q l)
abbrev kPut1 (n : Nat) (i : X) (m : Loc) (v : V) (Q : Loc → H → Prop) (u : V) (h1 : H) : Prop := IsLoc u (kPut2 n i m v Q h1)
structure SetS (k : Nat) (m : Loc) (v : V) (Q : Loc → H → Prop) (h : H) (l : Nat) : Prop where
  ex : ∃ C fs, h[l]? = some (.inst C fs) ∧ (clsMeth C k = none ∧ fs.length < 100) ∧ Q m (h.set l (.inst C (setF fs k v)))
abbrev kSet (k : Nat) (m : Loc) (v : V) (Q : Loc → H → Prop) (u : V) (h1 : H) : Prop := IsLoc u (SetS k m v Q h1)
abbrev kAug2 (m' : Int → Loc) (R : KL) (h1 : H) (z : Int) : Prop := R .next (m' z) h1
abbrev kAug1 (op : B) (a : Int) (m' : Int → Loc) (R : KL) (h1 : H) (b : Int) : Prop := Bop op a b (kAug2 m' R h1)
abbrev kAug (op : B) (a : Int) (m' : Int → Loc) (R : KL) (v : V) (h1 : H) : Prop := IsInt v (kAug1 op a m' R h1)
abbrev kC2e (o2 : Cm) (Q : KX) (u t : V) (h3 : H) : Prop := Cmp o2 u t h3 (kBool Q h3)
abbrev kC2d (n : Nat) (o2 : Cm) (d : X) (m : Loc) (Q : KX) (u : V) (h2 : H) (z : Bool) : Prop := Br z (WX n d m h2 (kC2e o2 Q u)) (Q (.bool false) h2)
abbrev kC2c (n : Nat) (o1 o2 : Cm) (d : X) (m : Loc) (Q : KX) (v u : V) (h2 : H) : Prop := Cmp o1 v u h2 (kC2d n o2 d m Q u h2)
abbrev kC2b (n : Nat) (o1 o2 : Cm) (b d : X) (m : Loc) (Q : KX) (v : V) (h1 : H) : Prop := WX n b m h1 (kC2c n o1 o2 d m Q v)
structure CutS (v : V) (h : H) (Q : KX) (k : Int) : Prop where
  ex : ∃ l, listOf v h = some l ∧ (0 ≤ k ∧ k ≤ 1000000) ∧ Q (.loc h.length) (h ++ [.list (l.take k.toNat)])
abbrev kCut2 (Q : KX) (v u : V) (h2 : H) : Prop := IsInt u (CutS v h2 Q)
abbrev kCut (n : Nat) (hi : X) (m : Loc) (Q : KX) (v : V) (h1 : H) : Prop := WX n hi m h1 (kCut2 Q v)
abbrev kAsgC (i : Nat) (m : Loc) (R : KL) (x : V) (h1 : H) : Prop := i < m.length ∧ R .next (m.set i (some x)) h1
structure AugE (l k : Nat) (m : Loc) (R : KL) (h : H) (z : Int) : Prop where
  ex : ∃ fs2, ∃ C, h[l]? = some (.inst C fs2) ∧ clsMeth C k = none ∧ fs2.length < 100 ∧ R .next m (h.set l (.inst C (setF fs2 k (.int z))))
abbrev kAugA3 (op : B) (a : Int) (l k : Nat) (m : Loc) (R : KL) (h2 : H) (b : Int) : Prop := Bop op a b (AugE l k m R h2)
abbrev kAugA2 (op : B) (a : Int) (l k : Nat) (m : Loc) (R : KL) (v : V) (h2 : H) : Prop := IsInt v (kAugA3 op a l k m R h2)
structure AugS (n k : Nat) (op : B) (e : X) (m : Loc) (R : KL) (h : H) (l : Nat) : Prop where
  ex : ∃ C fs a, h[l]? = some (.inst C fs) ∧ clsMeth C k = none ∧ fs.lookup k = some (.int a) ∧ WX n e m h (kAugA2 op a l k m R)
abbrev kAugA (n k : Nat) (op : B) (e : X) (m : Loc) (R : KL) (u : V) (h1 : H) : Prop := IsLoc u (AugS n k op e m R h1)
section
variable {n : Nat} {m : Loc} {h : H} {Q : V → H → Prop} {R : Fl → Loc → H → Prop}
theorem isInt {x : Int} {Q : Int → Prop} (q : Q x) : IsInt (.int x) Q := ⟨x, rfl, q⟩
theorem isLoc {x : Nat} {Q : Nat → Prop} (q : Q x) : IsLoc (.loc x) Q := ⟨x, rfl, q⟩
theorem isB {x : Bool} {Q : Bool → Prop} (q : Q x) : IsB (.bool x) Q := ⟨x, rfl, q⟩
theorem tru_b {x : Bool} {Q : Bool → Prop} (q : Q x) : Tru (.bool x) Q := ⟨x, rfl, q⟩
theorem tru_i {x : Int} {Q : Bool → Prop} (q : Q (x != 0)) : Tru (.int x) Q := ⟨_, rfl, q⟩
theorem WX.mono {e : X} {Q' : V → H → Prop} (w : WX n e m h Q) (f : ∀ v h', Q v h' → Q' v h') : WX n e m h Q' := by
  obtain ⟨v, h', e1, q⟩ := w.ex; exact ⟨v, h', e1, f _ _ q⟩
theorem WC.mono {k : Nat} {as : List V} {Q' : V → H → Prop} (w : WC n k as h Q) (f : ∀ v h', Q v h' → Q' v h') : WC n k as h Q' := by
  obtain ⟨v, h', e1, q⟩ := w.ex; exact ⟨v, h', e1, f _ _ q⟩
theorem WS.mono {ss : List S} {R' : Fl → Loc → H → Prop} (w : WS n ss m h R) (f : ∀ v m' h', R v m' h' → R' v m' h') : WS n ss m h R' := by
  obtain ⟨v, m', h', e1, q⟩ := w.ex; exact ⟨v, m', h', e1, f _ _ _ q⟩
theorem wx_var {i : Nat} {v : V} (hv : m[i]? = some (some v)) (q : Q v h) : WX n (.var i) m h Q := ⟨v, h, onS_mk hv (onS_mk rfl rfl), q⟩
theorem wx_glob {k : Nat} (q : Q (.fn k) h) : WX n (.glob k) m h Q := ⟨_, h, rfl, q⟩
theorem wx_non (q : Q .non h) : WX n .non m h Q := ⟨_, h, rfl, q⟩
theorem wx_bool {b : Bool} (q : Q (.bool b) h) : WX n (.bool b) m h Q := ⟨_, h, rfl, q⟩
theorem wx_int {b : Int} (q : Q (.int b) h) : WX n (.int b) m h Q := ⟨_, h, rfl, q⟩
theorem wx_str {b : Nat} (q : Q (.str b) h) : WX n (.str b) m h Q := ⟨_, h, rfl, q⟩
theorem wx_bin {op : B} {a b : X} (w : WX n a m h (kBin1 n op b m Q)) : WX n (.bin op a b) m h Q := by
  obtain ⟨v, h1, e1, ⟨x, rfl, w2⟩⟩ := w.ex
  obtain ⟨u, h2, e2, ⟨y, rfl, ⟨z, e3, q⟩⟩⟩ := w2.ex
  exact ⟨_, h2, onPI_mk e1 (onPI_mk e2 (onS_mk e3 rfl)), q⟩
theorem bop_add {x y : Int} {Q : Int → Prop} (q : Q (x + y)) : Bop .add x y Q := ⟨_, rfl, q⟩
theorem bop_sub {x y : Int} {Q : Int → Prop} (q : Q (x - y)) : Bop .sub x y Q := ⟨_, rfl, q⟩
theorem bop_band {x y : Int} {Q : Int → Prop} (q : Q (PySem.Builtin.bitAnd x y)) : Bop .band x y Q := ⟨_, rfl, q⟩
theorem bop_bor {x y : Int} {Q : Int → Prop} (q : Q (PySem.Builtin.bitOr x y)) : Bop .bor x y Q := ⟨_, rfl, q⟩
theorem bop_bxor {x y : Int} {Q : Int → Prop} (q : Q (PySem.Builtin.bitXor x y)) : Bop .bxor x y Q := ⟨_, rfl, q⟩
theorem bop_mul {x y : Int} {Q : Int → Prop} (g : x.natAbs < 2 ^ 63 ∨ y.natAbs < 2 ^ 63) (q : Q (x * y)) : Bop .mul x y Q := ⟨_, if_mk g rfl, q⟩
theorem bop_fdiv {x y : Int} {Q : Int → Prop} (g : 0 < y ∧ y < 2 ^ 63) (q : Q (x.fdiv y)) : Bop .fdiv x y Q := ⟨_, if_mk g rfl, q⟩
theorem bop_mod {x y : Int} {Q : Int → Prop} (g : 0 < y) (q : Q (x.fmod y)) : Bop .mod x y Q := ⟨_, if_mk g rfl, q⟩
theorem bop_shl {x y : Int} {Q : Int → Prop} (g : 0 ≤ y ∧ y ≤ 1000 ∧ x.natAbs < 2 ^ 63) (q : Q (x * 2 ^ y.toNat)) : Bop .shl x y Q := ⟨_, if_mk g rfl, q⟩
theorem bop_shr {x y : Int} {Q : Int → Prop} (g : 0 ≤ y) (q : Q (x.fdiv (2 ^ y.toNat))) : Bop .shr x y Q := ⟨_, if_mk g rfl, q⟩
theorem wx_neg {a : X} (w : WX n a m h (kNeg Q)) : WX n (.neg a) m h Q := by
  obtain ⟨v, h1, e1, ⟨x, rfl, q⟩⟩ := w.ex
  exact ⟨_, h1, onP_mk e1 rfl, q⟩
theorem wx_not {a : X} (w : WX n a m h (kNot Q)) : WX n (.not a) m h Q := by
  obtain ⟨v, h1, e1, ⟨b, eb, q⟩⟩ := w.ex
  exact ⟨_, h1, onP_mk e1 (onS_mk eb rfl), q⟩
theorem wx_cmp {op : Cm} {a b : X} (w : WX n a m h (kCmp1 n op b m Q)) : WX n (.cmp op a b) m h Q := by
  obtain ⟨v, h1, e1, w2⟩ := w.ex
  obtain ⟨u, h2, e2, ⟨z, e3, q⟩⟩ := w2.ex
  exact ⟨_, h2, onP_mk e1 (onP_mk e2 (onS_mk e3 rfl)), q⟩
theorem wx_cmp2 {o1 o2 : Cm} {a b d : X} (w : WX n a m h (kC2b n o1 o2 b d m Q)) : WX n (.cmp2 o1 o2 a b d) m h Q := by
  obtain ⟨v, h1, e1, w2⟩ := w.ex
  obtain ⟨u, h2, e2, ⟨z, e3, br⟩⟩ := w2.ex
  cases z
  · exact ⟨_, h2, onP_mk e1 (onP_mk e2 (onT_f e3 rfl)), br.f rfl⟩
  · obtain ⟨t, h3, e4, ⟨r, e5, q⟩⟩ := (br.t rfl).ex
    exact ⟨_, h3, onP_mk e1 (onP_mk e2 (onT_t e3 (onP_mk e4 (onS_mk e5 rfl)))), q⟩
theorem wx_and {a b : X} (w : WX n a m h (kAnd n b m Q)) : WX n (.and a b) m h Q := by
  obtain ⟨v, h1, e1, ⟨z, rfl, br⟩⟩ := w.ex
  cases z
  · exact ⟨_, h1, onP_mk e1 rfl, br.f rfl⟩
  · obtain ⟨u, h2, e2, q⟩ := (br.t rfl).ex
    exact ⟨_, h2, onP_mk e1 e2, q⟩
theorem wx_or {a b : X} (w : WX n a m h (kOr n b m Q)) : WX n (.or a b) m h Q := by
  obtain ⟨v, h1, e1, ⟨z, rfl, br⟩⟩ := w.ex
  cases z
  · obtain ⟨u, h2, e2, q⟩ := (br.f rfl).ex
    exact ⟨_, h2, onP_mk e1 e2, q⟩
  · exact ⟨_, h1, onP_mk e1 rfl, br.t rfl⟩
theorem wx_ite {e a b : X} (w : WX n e m h (kIte n a b m Q)) : WX n (.ite e a b) m h Q := by
  obtain ⟨v, h1, e1, ⟨z, ez, br⟩⟩ := w.ex
  cases z
  · obtain ⟨u, h2, e2, q⟩ := (br.f rfl).ex
    exact ⟨_, h2, evalX_ite.trans (onP_mk e1 (onT_f ez e2)), q⟩
  · obtain ⟨u, h2, e2, q⟩ := (br.t rfl).ex
    exact ⟨_, h2, evalX_ite.trans (onP_mk e1 (onT_t ez e2)), q⟩
theorem wxs_nil {Q : List V → H → Prop} (q : Q [] h) : WXs n [] m h Q := ⟨_, h, rfl, q⟩
theorem wxs_cons {e : X} {r : List X} {Q : List V → H → Prop} (w : WX n e m h (kCons n r m Q)) : WXs n (e :: r) m h Q := by
  obtain ⟨v, h1, e1, w2⟩ := w.ex
  obtain ⟨vs, h2, e2, q⟩ := w2.ex
  exact ⟨_, h2, onP_mk e1 (onP_mk e2 rfl), q⟩
theorem wx_fn {k : Nat} {as : List X} (hk : kind k = some .fn) (w : WXs n as m h (kFn n k Q)) : WX n (.call (.glob k) as) m h Q := by
  obtain ⟨vs, h1, e1, w2⟩ := w.ex
  obtain ⟨v, h2, e2, q⟩ := w2.ex
  exact ⟨v, h2, onP_mk evalX_glob (onP_mk e1 (onS_mk hk e2)), q⟩
theorem wx_bi {k : Nat} {b : Bi} {as : List X} (hk : kind k = some (.bi b)) (w : WXs n as m h (kBi b Q)) : WX n (.call (.glob k) as) m h Q := by
  obtain ⟨vs, h1, e1, w2⟩ := w.ex
  obtain ⟨v, h2, e2, q⟩ := w2.ex
  exact ⟨v, h2, onP_mk evalX_glob (onP_mk e1 (onS_mk hk e2)), q⟩
theorem wx_cls {k C i : Nat} {as : List X} (hk : kind k = some (.cls C i)) (w : WXs n as m h (kCls n i C Q)) : WX n (.call (.glob k) as) m h Q := by
  obtain ⟨vs, h1, e1, w2⟩ := w.ex
  obtain ⟨v, h2, e2, rfl, q⟩ := w2.ex
  exact ⟨_, h2, onP_mk evalX_glob (onP_mk e1 (onS_mk hk (show made _ _ = _ from onP_mk e2 rfl))), q⟩
theorem wx_meth {o : X} {k : Nat} {as : List X} (w : WX n o m h (kMeth n k as m Q)) : WX n (.meth o k as) m h Q := by
  obtain ⟨v, h1, e1, ⟨t, et, w2⟩⟩ := w.ex
  obtain ⟨vs, h2, e2, w3⟩ := w2.ex
  obtain ⟨u, h3, e3, q⟩ := w3.ex
  exact ⟨u, h3, onP_mk e1 (onS_mk et (onP_mk e2 e3)), q⟩
theorem at_mk {l C : Nat} {fs : List (Nat × V)} {k : Nat} {w : V} {Q : V → Prop} (e : h[l]? = some (.inst C fs)) (hc : clsMeth C k = none) (hf : fs.lookup k = some w) (q : Q w) : At h (.loc l) k Q := ⟨l, C, fs, w, rfl, e, hc, hf, q⟩
theorem wx_attr {o : X} {k : Nat} (w : WX n o m h (kAttr k Q)) : WX n (.attr o k) m h Q := by
  obtain ⟨v, h1, e1, ⟨l, C, fs, w, rfl, e2, hc, hf, q⟩⟩ := w.ex
  exact ⟨w, h1, onP_mk e1 (oI_mk e2 (if_mk (by rw [hc]; rfl) (onS_mk hf rfl))), q⟩
theorem wx_sub {o i : X} (w : WX n o m h (kSub n i m Q)) : WX n (.sub o i) m h Q := by
  obtain ⟨v, h1, e1, w2⟩ := w.ex
  obtain ⟨u, h2, e2, ⟨r, e3, q⟩⟩ := w2.ex
  exact ⟨r, h2, onP_mk e1 (onP_mk e2 (onS_mk e3 rfl)), q⟩
theorem sub_tup {l : List V} {i : Int} {v : V} {Q : V → Prop} (e : l[i.toNat]? = some v) (hi : 0 ≤ i) (q : Q v) : Sub (.tup l) (.int i) h Q := ⟨v, if_mk hi e, q⟩
theorem sub_lst {l : List V} {i : Int} {v : V} {Q : V → Prop} (e : seqItem l i = some v) (q : Q v) : Sub (.lst l) (.int i) h Q := ⟨v, e, q⟩
theorem sub_list {l : List V} {a : Nat} {i : Int} {v : V} {Q : V → Prop} (ha : h[a]? = some (.list l)) (e : seqItem l i = some v) (q : Q v) : Sub (.loc a) (.int i) h Q := ⟨v, oL_mk ha e, q⟩
theorem sub_dict {l : List (Int × V)} {a : Nat} {i : Int} {v : V} {Q : V → Prop} (ha : h[a]? = some (.dict l)) (e : getKV l i = some v) (q : Q v) : Sub (.loc a) (.int i) h Q := ⟨v, oD_mk ha e, q⟩
theorem wx_cut {o hi : X} (w : WX n o m h (kCut n hi m Q)) : WX n (.cut o hi) m h Q := by
  obtain ⟨v, h1, e1, w2⟩ := w.ex
  obtain ⟨u, h2, e2, ⟨k, rfl, ⟨l, e3, g, q⟩⟩⟩ := w2.ex
  exact ⟨_, _, onP_mk e1 (onP_mk e2 (onS_mk e3 (if_mk g rfl))), q⟩
theorem wx_tup {l : List X} (w : WXs n l m h (kTup Q)) : WX n (.tup l) m h Q := by
  obtain ⟨vs, h1, e1, g, q⟩ := w.ex
  exact ⟨_, h1, onP_mk e1 (if_mk g rfl), q⟩
theorem wx_list {l : List X} (w : WXs n l m h (kList Q)) : WX n (.list l) m h Q := by
  obtain ⟨vs, h1, e1, g, q⟩ := w.ex
  exact ⟨_, _, onP_mk e1 (if_mk g rfl), q⟩
theorem wx_dict0 (q : Q (.loc h.length) (h ++ [.dict []])) : WX n .dict0 m h Q := ⟨_, _, rfl, q⟩
theorem wx_freeze {e : X} (w : WX n e m h (kFrz Q)) : WX n (.freeze e) m h Q := by
  obtain ⟨v, h1, e1, ⟨l, rfl, xs, e2, q⟩⟩ := w.ex
  exact ⟨_, _, onP_mk e1 (oL_mk e2 rfl), q⟩
/-! comparisons -/
theorem cmp_lt {x y : Int} {Q : Bool → Prop} (q : Q (decide (x < y))) : Cmp .lt (.int x) (.int y) h Q := ⟨_, rfl, q⟩
theorem cmp_le {x y : Int} {Q : Bool → Prop} (q : Q (decide (x ≤ y))) : Cmp .le (.int x) (.int y) h Q := ⟨_, rfl, q⟩
theorem cmp_gt {x y : Int} {Q : Bool → Prop} (q : Q (decide (x > y))) : Cmp .gt (.int x) (.int y) h Q := ⟨_, rfl, q⟩
theorem cmp_ge {x y : Int} {Q : Bool → Prop} (q : Q (decide (x ≥ y))) : Cmp .ge (.int x) (.int y) h Q := ⟨_, rfl, q⟩
theorem cmp_eq {x y : Int} {Q : Bool → Prop} (q : Q (decide (x = y))) : Cmp .eq (.int x) (.int y) h Q := ⟨_, rfl, q⟩
theorem cmp_ne {x y : Int} {Q : Bool → Prop} (q : Q (!decide (x = y))) : Cmp .ne (.int x) (.int y) h Q := ⟨_, rfl, q⟩
theorem cmp_eqs {x y : Nat} {Q : Bool → Prop} (q : Q (decide (x = y))) : Cmp .eq (.str x) (.str y) h Q := ⟨_, rfl, q⟩
theorem cmp_nes {x y : Nat} {Q : Bool → Prop} (q : Q (!decide (x = y))) : Cmp .ne (.str x) (.str y) h Q := ⟨_, rfl, q⟩
theorem cmp_neb {x y : Bool} {Q : Bool → Prop} (q : Q (!(x == y))) : Cmp .ne (.bool x) (.bool y) h Q := ⟨_, rfl, q⟩
theorem cmp_isn {x : V} {Q : Bool → Prop} (q : Q x.isNone) : Cmp .isn x .non h Q := ⟨_, rfl, q⟩
theorem cmp_isnt {x : V} {Q : Bool → Prop} (q : Q (!x.isNone)) : Cmp .isnt x .non h Q := ⟨_, rfl, q⟩
theorem cmp_tup {x y : List V} {a b : List Int} {Q : Bool → Prop} (ha : intL x = some a) (hb : intL y = some b) (q : Q (a == b)) : Cmp .eq (.tup x) (.tup y) h Q := ⟨_, onS_mk ha (onS_mk hb rfl), q⟩
theorem cmp_lst {x y : List V} {a b : List Int} {Q : Bool → Prop} (ha : intL x = some a) (hb : intL y = some b) (q : Q (a == b)) : Cmp .eq (.lst x) (.lst y) h Q := ⟨_, onS_mk ha (onS_mk hb rfl), q⟩
theorem cmp_nlst {x y : List V} {a b : List Int} {Q : Bool → Prop} (ha : intL x = some a) (hb : intL y = some b) (q : Q (!(a == b))) : Cmp .ne (.lst x) (.lst y) h Q := ⟨_, onS_mk (onS_mk ha (onS_mk hb rfl)) rfl, q⟩
theorem cmp_mem {x y : V} {b : Bool} {Q : Bool → Prop} (e : mem x y h = some b) (q : Q b) : Cmp .mem x y h Q := ⟨_, e, q⟩
theorem cmp_nmem {x y : V} {b : Bool} {Q : Bool → Prop} (e : mem x y h = some b) (q : Q (!b)) : Cmp .nmem x y h Q := ⟨_, onS_mk e rfl, q⟩
/-! methods -/
theorem gm_fn {l C k f : Nat} {fs : List (Nat × V)} {Q : Mt → Prop} (e : h[l]? = some (.inst C fs)) (hc : clsMeth C k = some f) (hf : fs.lookup k = none) (q : Q (.fn f l)) : GM (.loc l) k h Q := ⟨_, onS_mk e (by show instMeth k l fs (clsMeth C k) = _; rw [hc]; exact if_mk (by rw [hf]; rfl) rfl), q⟩
theorem gm_val {l C k : Nat} {v : V} {fs : List (Nat × V)} {Q : Mt → Prop} (e : h[l]? = some (.inst C fs)) (hc : clsMeth C k = none) (hf : fs.lookup k = some v) (q : Q (.val v)) : GM (.loc l) k h Q := ⟨_, onS_mk e (by show instMeth k l fs (clsMeth C k) = _; rw [hc]; exact onS_mk hf rfl), q⟩
theorem gm_list {l k : Nat} {me : Me} {xs : List V} {Q : Mt → Prop} (e : h[l]? = some (.list xs)) (hc : meTab k = some me) (hf : meOn me true = true) (q : Q (.bi me l true)) : GM (.loc l) k h Q := ⟨_, onS_mk e (onS_mk hc (if_mk hf rfl)), q⟩
theorem gm_dict {l k : Nat} {me : Me} {xs : List (Int × V)} {Q : Mt → Prop} (e : h[l]? = some (.dict xs)) (hc : meTab k = some me) (hf : meOn me false = true) (q : Q (.bi me l false)) : GM (.loc l) k h Q := ⟨_, onS_mk e (onS_mk hc (if_mk hf rfl)), q⟩
theorem wm_fn {k l : Nat} {as : List V} (w : WC n k (.loc l :: as) h Q) : WM n (.fn k l) as h Q := ⟨w.ex⟩
theorem wm_clo {k : Nat} {l as as' : List V} (ha : as ++ l = as') (w : WC n k as' h Q) : WM n (.val (.clo k l)) as h Q := ⟨by subst ha; exact w.ex⟩
theorem isL_list {l : Nat} {xs : List V} (e : h[l]? = some (.list xs)) : isListAt h l = true := by unfold isListAt; rw [e]; rfl
theorem isL_dict {l : Nat} {xs : List (Int × V)} (e : h[l]? = some (.dict xs)) : isListAt h l = false := by unfold isListAt; rw [e]; rfl
theorem wm_append {l : Nat} {xs : List V} {v : V} (e : h[l]? = some (.list xs)) (g : xs.length < 1000000) (q : Q .non (h.set l (.list (xs ++ [v])))) : WM n (.bi .append l true) [v] h Q := ⟨_, _, if_mk (isL_list e) (oL_mk e (if_mk g rfl)), q⟩
theorem wm_pop {l : Nat} {xs : List V} {v : V} (e : h[l]? = some (.list xs)) (g : xs.getLast? = some v) (q : Q v (h.set l (.list xs.dropLast))) : WM n (.bi .pop l true) [] h Q := ⟨_, _, if_mk (isL_list e) (oL_mk e (onS_mk g rfl)), q⟩
theorem wm_popi {l : Nat} {xs : List V} {v : V} {i : Int} (e : h[l]? = some (.list xs)) (hi : 0 ≤ i) (g : xs[i.toNat]? = some v) (q : Q v (h.set l (.list (xs.eraseIdx i.toNat)))) : WM n (.bi .pop l true) [.int i] h Q := ⟨_, _, if_mk (isL_list e) (oL_mk e (if_mk hi (onS_mk g rfl))), q⟩
theorem wm_popd {l : Nat} {xs : List (Int × V)} {v : V} {i : Int} (e : h[l]? = some (.dict xs)) (g : getKV xs i = some v) (q : Q v (h.set l (.dict (delKV xs i)))) : WM n (.bi .pop l false) [.int i] h Q := ⟨_, _, if_mk (isL_dict e) (oD_mk e (onS_mk g rfl)), q⟩
theorem wm_reverse {l : Nat} {xs : List V} (e : h[l]? = some (.list xs)) (q : Q .non (h.set l (.list xs.reverse))) : WM n (.bi .reverse l true) [] h Q := ⟨_, _, if_mk (isL_list e) (oL_mk e rfl), q⟩
theorem wm_index {l : Nat} {xs : List V} {is : List Int} {i : Int} (e : h[l]? = some (.list xs)) (hi : intL xs = some is) (g : is.contains i = true) (q : Q (.int (is.idxOf i)) h) : WM n (.bi .index l true) [.int i] h Q := ⟨_, _, if_mk (isL_list e) (oL_mk e (onS_mk hi (if_mk g rfl))), q⟩
theorem wm_get {l : Nat} {xs : List (Int × V)} {i : Int} (e : h[l]? = some (.dict xs)) (q : Q ((getKV xs i).getD .non) h) : WM n (.bi .get l false) [.int i] h Q := ⟨_, _, if_mk (isL_dict e) (oD_mk e rfl), q⟩
/-! built-ins -/
theorem wb_of {b : Bi} {as : List V} {v : V} {h1 : H} (e : builtin b as h = some (v, h1)) (q : Q v h1) : WB b as h Q := ⟨v, h1, e, q⟩
theorem wb_int {i : Int} (q : Q (.int i) h) : WB .int [.int i] h Q := ⟨_, _, rfl, q⟩
theorem wb_abs {i : Int} (q : Q (.int (if i < 0 then -i else i)) h) : WB .abs [.int i] h Q := ⟨_, _, rfl, q⟩
theorem wb_min {a b : Int} (q : Q (.int (if b < a then b else a)) h) : WB .min [.int a, .int b] h Q := ⟨_, _, rfl, q⟩
theorem wb_max {a b : Int} (q : Q (.int (if b > a then b else a)) h) : WB .max [.int a, .int b] h Q := ⟨_, _, rfl, q⟩
theorem wb_range {a : Int} (g : -1000000 ≤ a ∧ a ≤ 1000000) (q : Q (.rng a) h) : WB .range [.int a] h Q := ⟨_, _, if_mk g rfl, q⟩
theorem wb_lent {l : List V} (q : Q (.int l.length) h) : WB .len [.tup l] h Q := ⟨_, _, rfl, q⟩
theorem wb_lenl {l : List V} (q : Q (.int l.length) h) : WB .len [.lst l] h Q := ⟨_, _, rfl, q⟩
theorem wb_len {a : Nat} {l : List V} (e : h[a]? = some (.list l)) (q : Q (.int l.length) h) : WB .len [.loc a] h Q := ⟨_, _, oL_mk e rfl, q⟩
theorem wb_lend {a : Nat} {l : List (Int × V)} (e : h[a]? = some (.dict l)) (q : Q (.int l.length) h) : WB .len [.loc a] h Q := ⟨_, _, oD_mk e rfl, q⟩
theorem wb_list {v : V} {l : List V} (e : listOf v h = some l) (q : Q (.loc h.length) (h ++ [.list l])) : WB .list [v] h Q := ⟨_, _, onS_mk e rfl, q⟩
theorem wb_tuple {v : V} {l : List V} (e : listOf v h = some l) (q : Q (.tup l) h) : WB .tuple [v] h Q := ⟨_, _, onS_mk e rfl, q⟩
theorem wb_minl {l : List V} {x : Int} {r : List Int} (e : intL l = some (x :: r)) (q : Q (.int (minInts x r)) h) : WB .min [.lst l] h Q := ⟨_, _, onS_mk e rfl, q⟩
theorem wb_mind {a : Nat} {l : List (Int × V)} {x : Int} {r : List Int} (e : h[a]? = some (.dict l)) (hl : l.map (·.1) = x :: r) (q : Q (.int (minInts x r)) h) : WB .min [.loc a] h Q := ⟨_, _, oD_mk e (by rw [hl]; rfl), q⟩
theorem wb_sortd {a : Nat} {l : List (Int × V)} (e : h[a]? = some (.dict l)) (g : l.length < 64) (q : Q (.loc h.length) (h ++ [.list ((sortInts (l.map (·.1))).map .int)])) : WB .sorted [.loc a] h Q := ⟨_, _, oD_mk e (if_mk (by rw [List.length_map]; exact g) rfl), q⟩
theorem wb_sortl {a : Nat} {l : List V} {is : List Int} (e : h[a]? = some (.list l)) (hi : intL l = some is) (g : is.length < 64) (q : Q (.loc h.length) (h ++ [.list ((sortInts is).map .int)])) : WB .sorted [.loc a] h Q := ⟨_, _, oL_mk e (onS_mk hi (if_mk g rfl)), q⟩
/-! stores -/
theorem wt_name {i : Nat} {v : V} {m' : Loc} {Q : Loc → H → Prop} (g : i < m.length) (hm : m.set i (some v) = m') (q : Q m' h) : WT n (.name i) v m h Q := ⟨_, _, if_mk g rfl, hm ▸ q⟩
theorem wt_names {l : List Nat} {vs : List V} {m' : Loc} {Q : Loc → H → Prop} (hm : setNames l vs m = some m') (q : Q m' h) : WT n (.names l) (.tup vs) m h Q := ⟨_, _, onS_mk hm rfl, q⟩
theorem wt_attr {o : X} {k : Nat} {v : V} {Q : Loc → H → Prop} (w : WX n o m h (kSet k m v Q)) : WT n (.attr o k) v m h Q := by
  obtain ⟨u, h1, e1, ⟨l, rfl, ⟨C, fs, e2, ⟨g1, g2⟩, q⟩⟩⟩ := w.ex
  exact ⟨_, _, store_attr.trans (onPL_mk e1 (oI_mk e2 (if_mk ⟨by rw [g1]; rfl, g2⟩ rfl))), q⟩
theorem puts_list {l : Nat} {k : Int} {v : V} {vs : List V} {Q : H → Prop} (e : h[l]? = some (.list vs)) (g : 0 ≤ k ∧ k.toNat < vs.length) (q : Q (h.set l (.list (vs.set k.toNat v)))) : PutS h l k v Q := ⟨.inl ⟨vs, e, g, q⟩⟩
theorem puts_dict {l : Nat} {k : Int} {v : V} {vs : List (Int × V)} {Q : H → Prop} (e : h[l]? = some (.dict vs)) (g : vs.length < 1000000) (q : Q (h.set l (.dict (setKV vs k v)))) : PutS h l k v Q := ⟨.inr ⟨vs, e, g, q⟩⟩
theorem wt_sub {o i : X} {v : V} {Q : Loc → H → Prop} (w : WX n o m h (kPut1 n i m v Q)) : WT n (.sub o i) v m h Q := by
  obtain ⟨u, h1, e1, ⟨l, rfl, w2⟩⟩ := w.ex
  obtain ⟨u, h2, e2, ⟨k, rfl, ⟨p⟩⟩⟩ := w2.ex
  rcases p with ⟨vs, e3, g, q⟩ | ⟨vs, e3, g, q⟩
  · exact ⟨_, _, store_sub.trans (onPL_mk e1 (onPI_mk e2 (oL_mk e3 (if_mk g rfl)))), q⟩
  · exact ⟨_, _, store_sub.trans (onPL_mk e1 (onPI_mk e2 (oD_mk e3 (if_mk g rfl)))), q⟩
/-! statements -/
theorem w1_expr {e : X} (w : WX n e m h (kExpr m R)) : W1 n (.expr e) m h R := by
  obtain ⟨v, h1, e1, q⟩ := w.ex
  exact ⟨_, _, _, exec_expr.trans (onP_mk e1 rfl), q⟩
theorem w1_asg {t : T} {e : X} (w : WX n e m h (kAsg n t m R)) : W1 n (.asg t e) m h R := by
  obtain ⟨v, h1, e1, w2⟩ := w.ex
  obtain ⟨m1, h2, e2, q⟩ := w2.ex
  exact ⟨_, _, _, exec_asg.trans (onP_mk e1 (onP_mk e2 rfl)), q⟩
theorem w1_asgC {i v : Nat} {fz : Bool} {elt it cnd : X} (w : WX n (if fz then .freeze (.comp elt v it cnd) else .comp elt v it cnd) m h (kAsgC i m R)) : W1 n (.asgC i fz elt v it cnd) m h R := by
  obtain ⟨x, h1, e1, g, q⟩ := w.ex
  exact ⟨_, _, _, exec_asgC.trans (onP_mk e1 (if_mk g rfl)), q⟩
theorem w1_aug {i : Nat} {op : B} {e : X} {a : Int} {m' : Int → Loc} (hv : m[i]? = some (some (.int a))) (hm : ∀ z, m.set i (some (.int z)) = m' z) (w : WX n e m h (kAug op a m' R)) : W1 n (.aug i op e) m h R := by
  obtain ⟨v, h1, e1, ⟨b, rfl, ⟨z, e2, q⟩⟩⟩ := w.ex
  exact ⟨_, _, _, exec_aug.trans (onS_mk hv (onSI_mk rfl (onPI_mk e1 (onS_mk e2 rfl)))), by rw [hm]; exact q⟩
theorem w1_augA {o e : X} {k : Nat} {op : B} (w : WX n o m h (kAugA n k op e m R)) : W1 n (.augA o k op e) m h R := by
  obtain ⟨v, h1, e1, ⟨l, rfl, ⟨C, fs, a, e2, hc, hf, w2⟩⟩⟩ := w.ex
  obtain ⟨u, h2, e3, ⟨b, rfl, ⟨z, e4, ⟨fs2, C2, e5, hc2, g, q⟩⟩⟩⟩ := w2.ex
  exact ⟨_, _, _, exec_augA.trans (onPL_mk e1 (oI_mk e2 (onSI_mk (if_mk (by rw [hc]; rfl) hf) (onPI_mk e3 (oI_mk e5 (onS_mk e4 (if_mk ⟨by rw [hc2]; rfl, g⟩ rfl))))))), q⟩
theorem augS_mk {l k C : Nat} {fs : List (Nat × V)} {a : Int} {op : B} {e : X} (e2 : h[l]? = some (.inst C fs)) (hc : clsMeth C k = none) (hf : fs.lookup k = some (.int a)) (w : WX n e m h (kAugA2 op a l k m R)) : AugS n k op e m R h l := ⟨C, fs, a, e2, hc, hf, w⟩
theorem augE_mk {l k C : Nat} {fs : List (Nat × V)} {z : Int} (e2 : h[l]? = some (.inst C fs)) (hc : clsMeth C k = none) (hl : fs.length < 100) (q : R .next m (h.set l (.inst C (setF fs k (.int z))))) : AugE l k m R h z := ⟨fs, C, e2, hc, hl, q⟩
theorem cutS_mk {v : V} {l : List V} {k : Int} (e : listOf v h = some l) (g : 0 ≤ k ∧ k ≤ 1000000) (q : Q (.loc h.length) (h ++ [.list (l.take k.toNat)])) : CutS v h Q k := ⟨l, e, g, q⟩
theorem setS_mk {l k C : Nat} {fs : List (Nat × V)} {v : V} {Q : Loc → H → Prop} (e2 : h[l]? = some (.inst C fs)) (hc : clsMeth C k = none) (hl : fs.length < 100) (q : Q m (h.set l (.inst C (setF fs k v)))) : SetS k m v Q h l := ⟨C, fs, e2, ⟨hc, hl⟩, q⟩
theorem w1_ite {e : X} {a b : List S} (w : WX n e m h (kIf n a b m R)) : W1 n (.ite e a b) m h R := by
  obtain ⟨v, h1, e1, ⟨z, ez, br⟩⟩ := w.ex
  cases z
  · obtain ⟨f, m2, h2, e2, q⟩ := (br.f rfl).ex
    exact ⟨_, _, _, exec_ite.trans (onP_mk e1 (onT_f ez e2)), q⟩
  · obtain ⟨f, m2, h2, e2, q⟩ := (br.t rfl).ex
    exact ⟨_, _, _, exec_ite.trans (onP_mk e1 (onT_t ez e2)), q⟩
theorem w1_ret0 (q : R (.ret .non) m h) : W1 n (.ret none) m h R := ⟨_, _, _, rfl, q⟩
theorem w1_ret {e : X} (w : WX n e m h (kRet m R)) : W1 n (.ret (some e)) m h R := by
  obtain ⟨v, h1, e1, q⟩ := w.ex
  exact ⟨_, _, _, exec_ret2.trans (onP_mk e1 rfl), q⟩
theorem w1_cont (q : R .cont m h) : W1 n .cont m h R := ⟨_, _, _, rfl, q⟩
theorem w1_pass (q : R .next m h) : W1 n .pass m h R := ⟨_, _, _, rfl, q⟩
theorem w1_defn {i k : Nat} {cs : List Nat} {line col : Int} {l : List (Int × Int)} {vs : List V} (e0 : h[0]? = some (.tab l)) (ec : caps m cs = some vs) (g : i < m.length ∧ (line, col) ∉ l) (q : R .next (m.set i (some (.clo k vs))) (h.set 0 (.tab (l ++ [(line, col)])))) : W1 n (.defn i k cs line col) m h R :=
  ⟨_, _, _, onS_mk e0 (onS_mk ec (if_mk g rfl)), q⟩
theorem ws_nil (q : R .next m h) : WS n [] m h R := ⟨_, _, _, rfl, q⟩
/-- the flow after a statement -/
def kS (n : Nat) (r : List S) (R : Fl → Loc → H → Prop) : Fl → Loc → H → Prop
  | .next, m, h => WS n r m h R
  | f, m, h => R f m h
theorem kS_next {r : List S} (w : WS n r m h R) : kS n r R .next m h := w
theorem kS_ret {r : List S} {v : V} (w : R (.ret v) m h) : kS n r R (.ret v) m h := w
theorem kS_cont {r : List S} (w : R .cont m h) : kS n r R .cont m h := w
theorem ws_cons {s : S} {r : List S} (w : W1 n s m h (kS n r R)) : WS n (s :: r) m h R := by
  obtain ⟨f, m1, h1, e1, q⟩ := w.ex
  cases f with
  | next => obtain ⟨f2, m2, h2, e2, q2⟩ := WS.ex q; exact ⟨_, _, _, execs_cons.trans (onP_mk e1 e2), q2⟩
  | cont => exact ⟨_, _, _, execs_cons.trans (onP_mk e1 rfl), q⟩
  | ret v => exact ⟨_, _, _, execs_cons.trans (onP_mk e1 rfl), q⟩
/-- what a body's end gives -/
def kR (Q : V → H → Prop) : Fl → Loc → H → Prop
  | .ret v, _, h => Q v h
  | .next, _, h => Q .non h
  | .cont, _, _ => False
theorem kR_ret {v : V} (q : Q v h) : kR Q (.ret v) m h := q
theorem kR_next (q : Q .non h) : kR Q .next m h := q
theorem wc_fn {k np ns nc : Nat} {b : List S} {as : List V} (hk : fns k = some ⟨np, ns, nc, b⟩) (hl : as.length = np) (hn : np ≤ ns) (hm : as.map some ++ List.replicate (ns - np) none = m) (w : WS n b m h (kR Q)) : WC (n + 1) k as h Q := by
  obtain ⟨f, m1, h1, e1, q⟩ := w.ex
  subst hm
  cases f with
  | next => exact ⟨_, _, onS_mk hk (if_mk ⟨hl, hn⟩ (onP_mk e1 rfl)), q⟩
  | cont => exact absurd q id
  | ret v => exact ⟨_, _, onS_mk hk (if_mk ⟨hl, hn⟩ (onP_mk e1 rfl)), q⟩
end
end Mine.L
end

section
namespace Mine.L
open Mine
section
variable {n : Nat} {m : Loc} {h : H} {Q : V → H → Prop} {R : Fl → Loc → H → Prop}
/-! ### loops -/
structure WF (n : Nat) (t : T) (b : List S) (vs : List V) (m : Loc) (h : H) (R : Fl → Loc → H → Prop) : Prop where
  ex : ∃ f m' h', forVals (fun v m h => onP (store kind meTab clsMeth (cf n) t v m h) fun m1 h1 => execs kind meTab clsMeth (cf n) b m1 h1) vs m h = some (f, m', h') ∧ R f m' h'
def kF (P : Loc → H → Prop) (R : Fl → Loc → H → Prop) : Fl → Loc → H → Prop
  | .ret x, m, h => R (.ret x) m h
  | .next, m, h => P m h
  | .cont, m, h => P m h
theorem kF_ret {P : Loc → H → Prop} {v : V} (q : R (.ret v) m h) : kF P R (.ret v) m h := q
theorem kF_next {P : Loc → H → Prop} (q : P m h) : kF P R .next m h := q
theorem kF_cont {P : Loc → H → Prop} (q : P m h) : kF P R .cont m h := q
theorem wf_nil {t : T} {b : List S} (q : R .next m h) : WF n t b [] m h R := ⟨_, _, _, rfl, q⟩
abbrev kForN (n : Nat) (t : T) (b : List S) (vs : List V) (R : KL) (m : Loc) (h : H) : Prop := WF n t b vs m h R
abbrev kForB (n : Nat) (t : T) (b : List S) (vs : List V) (R : KL) (m : Loc) (h : H) : Prop := WS n b m h (kF (kForN n t b vs R) R)
structure ForS (n : Nat) (t : T) (b : List S) (m : Loc) (R : KL) (v : V) (h : H) : Prop where
  ex : ∃ vs, iterOf v = some vs ∧ WF n t b vs m h R
theorem forS_mk {t : T} {b : List S} {v : V} {vs : List V} (e : iterOf v = some vs) (w : WF n t b vs m h R) : ForS n t b m R v h := ⟨vs, e, w⟩
theorem wf_cons {t : T} {b : List S} {v : V} {vs : List V} (w : WT n t v m h (kForB n t b vs R)) : WF n t b (v :: vs) m h R := by
  obtain ⟨m1, h1, e1, w2⟩ := w.ex
  obtain ⟨f, m2, h2, e2, q⟩ := w2.ex
  cases f with
  | ret x => exact ⟨_, _, _, forVals_cons.trans (onF_ret (onP_mk e1 e2) rfl), q⟩
  | next => obtain ⟨f3, m3, h3, e3, q3⟩ := WF.ex q; exact ⟨_, _, _, forVals_cons.trans (onF_go (onP_mk e1 e2) (.inl rfl) e3), q3⟩
  | cont => obtain ⟨f3, m3, h3, e3, q3⟩ := WF.ex q; exact ⟨_, _, _, forVals_cons.trans (onF_go (onP_mk e1 e2) (.inr rfl) e3), q3⟩
theorem w1_for {t : T} {it : X} {b : List S} (w : WX n it m h (ForS n t b m R)) : W1 n (.for t it b) m h R := by
  obtain ⟨v, h1, e1, ⟨vs, e2, w2⟩⟩ := w.ex
  obtain ⟨f, m3, h3, e3, q⟩ := w2.ex
  exact ⟨_, _, _, exec_for.trans (onP_mk e1 (onS_mk e2 e3)), q⟩
structure WW (n f : Nat) (e : X) (b : List S) (m : Loc) (h : H) (R : Fl → Loc → H → Prop) : Prop where
  ex : ∃ fl m' h', whileN (fun m h => tested (evalX kind meTab clsMeth (cf n) e m h))
      (fun m h => execs kind meTab clsMeth (cf n) b m h) f m h = some (fl, m', h') ∧ R fl m' h'
abbrev kWhN (n f : Nat) (e : X) (b : List S) (R : KL) (m : Loc) (h : H) : Prop := WW n f e b m h R
abbrev kWh1 (n f : Nat) (e : X) (b : List S) (m : Loc) (R : KL) (h1 : H) (z : Bool) : Prop := Br z (WS n b m h1 (kF (kWhN n f e b R) R)) (R .next m h1)
abbrev kWh (n f : Nat) (e : X) (b : List S) (m : Loc) (R : KL) (v : V) (h1 : H) : Prop := Tru v (kWh1 n f e b m R h1)
theorem ww_step {f : Nat} {e : X} {b : List S} (w : WX n e m h (kWh n f e b m R)) : WW n (f + 1) e b m h R := by
  obtain ⟨v, h1, e1, ⟨z, ez, br⟩⟩ := w.ex
  cases z with
  | false => exact ⟨_, _, _, whileN_f (tested_mk e1 ez), br.f rfl⟩
  | true =>
    obtain ⟨fl, m2, h2, e2, q⟩ := (br.t rfl).ex
    cases fl with
    | ret x => exact ⟨_, _, _, (whileN_t (tested_mk e1 ez)).trans (onF_ret e2 rfl), q⟩
    | next => obtain ⟨f3, m3, h3, e3, q3⟩ := WW.ex q; exact ⟨_, _, _, (whileN_t (tested_mk e1 ez)).trans (onF_go e2 (.inl rfl) e3), q3⟩
    | cont => obtain ⟨f3, m3, h3, e3, q3⟩ := WW.ex q; exact ⟨_, _, _, (whileN_t (tested_mk e1 ez)).trans (onF_go e2 (.inr rfl) e3), q3⟩
theorem w1_whil {e : X} {b : List S} (w : WW n 40 e b m h R) : W1 n (.whil e b) m h R := by
  obtain ⟨f, m3, h3, e3, q⟩ := w.ex
  exact ⟨_, _, _, by rw [exec_whil]; exact e3, q⟩
/-! ### comprehensions -/
/-- what a comprehension goes over -/
def Over (h : H) (iv : V) (vs : List V) : Prop := iterOf iv = some vs ∨ ∃ l, iv = .loc l ∧ h[l]? = some (.list vs) ∧ vs.length < 1000
theorem get_app {h t : H} {l : Nat} {o : O} (e : h[l]? = some o) : (h ++ t)[l]? = some o := by
  rw [List.getElem?_append_left (List.getElem?_eq_some_iff.mp e).1, e]
noncomputable def turn (n : Nat) (cnd elt : X) (m : Loc) (v l : Nat) : V → H → Option H := compTurn l (fun x h => tested (evalX kind meTab clsMeth (cf n) cnd (m.set v (some x)) h)) (fun x h => evalX kind meTab clsMeth (cf n) elt (m.set v (some x)) h)
theorem turn_f {cnd elt : X} {v l : Nat} {x : V} {u : V} {h1 : H} (e : evalX kind meTab clsMeth (cf n) cnd (m.set v (some x)) h = some (u, h1)) (eb : truth u = some false) : turn n cnd elt m v l x h = some h1 := compTurn_f (tested_mk e eb)
theorem turn_t {cnd elt : X} {v l : Nat} {x : V} {u y : V} {h1 h2 : H} {l' : List V} (e : evalX kind meTab clsMeth (cf n) cnd (m.set v (some x)) h = some (u, h1)) (eb : truth u = some true) (e2 : evalX kind meTab clsMeth (cf n) elt (m.set v (some x)) h1 = some (y, h2))
    (e3 : h2[l]? = some (.list l')) (g : l'.length < 1000000) : turn n cnd elt m v l x h = some (h2.set l (.list (l' ++ [y]))) := compTurn_t (tested_mk e eb) e2 e3 g
theorem comp_eq {cnd elt it : X} {v : Nat} : evalX kind meTab clsMeth (cf n) (.comp elt v it cnd) m h = onP (evalX kind meTab clsMeth (cf n) it m h) fun iv h1 =>
    onS (compIt (turn n cnd elt m v h1.length) iv (h1 ++ [.list []])) fun h2 => some (.loc h1.length, h2) := rfl
theorem compIt_of {st : V → H → Option H} {iv : V} {vs : List V} (ho : iterOf iv = some vs) : compIt st iv h = compVals st vs h := by
  cases iv <;> first | exact nn ho | (cases ho; rfl)
theorem last_set {h1 : H} {acc : List V} {y : V} : (h1 ++ [O.list acc]).set h1.length (.list (acc ++ [y])) = h1 ++ [.list (acc ++ [y])] := by
  rw [List.set_append_right _ _ (Nat.le_refl _), Nat.sub_self, List.set_cons_zero]
/-- what the turns of a comprehension whose element and test change nothing make, over any walk of its values -/
theorem comp_turn {v : Nat} {elt cnd : X} {h1 : H} {p : V → Bool} {g : V → V} {x : V} {acc : List V} (hc : WX n cnd (m.set v (some x)) (h1 ++ [.list acc]) (fun b h2 => h2 = h1 ++ [.list acc] ∧ truth b = some (p x)))
    (he : p x = true → WX n elt (m.set v (some x)) (h1 ++ [.list acc]) (fun y h2 => h2 = h1 ++ [.list acc] ∧ y = g x)) (hl : acc.length < 1000000) :
    turn n cnd elt m v h1.length x (h1 ++ [.list acc]) = some (h1 ++ [.list (acc ++ ([x].filter p).map g)]) := by
  obtain ⟨b, h2, e1, rfl, e2⟩ := hc.ex
  cases hp : p x with
  | false => rw [turn_f e1 (hp ▸ e2), List.filter_cons_of_neg (by rw [hp]; exact Bool.false_ne_true), List.filter_nil, List.map_nil, List.append_nil]
  | true =>
    obtain ⟨y, h3, e3, rfl, rfl⟩ := (he hp).ex
    rw [turn_t e1 (hp ▸ e2) e3 (by simp) hl, last_set, List.filter_cons_of_pos hp]; rfl
theorem acc_step {p : V → Bool} {g : V → V} (acc : List V) (x : V) (r : List V) : (acc ++ ([x].filter p).map g) ++ (r.filter p).map g = acc ++ ((x :: r).filter p).map g := by
  rw [List.append_assoc, ← List.map_append, ← List.filter_append]; rfl
theorem acc_len {p : V → Bool} {g : V → V} (acc : List V) (x : V) (r : List V) (hl : acc.length + (x :: r).length < 1000000) : (acc ++ ([x].filter p).map g).length + r.length < 1000000 := by
  have : ([x].filter p).length ≤ 1 := List.length_filter_le _ _
  rw [List.length_append, List.length_map]
  rw [List.length_cons] at hl
  lia
theorem compVals_pure {v : Nat} {elt cnd : X} {h1 : H} {p : V → Bool} {g : V → V} : ∀ (vs : List V) (acc : List V),
    (∀ x ∈ vs, ∀ acc, WX n cnd (m.set v (some x)) (h1 ++ [.list acc]) (fun b h2 => h2 = h1 ++ [.list acc] ∧ truth b = some (p x))) →
    (∀ x ∈ vs, p x = true → ∀ acc, WX n elt (m.set v (some x)) (h1 ++ [.list acc]) (fun y h2 => h2 = h1 ++ [.list acc] ∧ y = g x)) →
    acc.length + vs.length < 1000000 →
    compVals (turn n cnd elt m v h1.length) vs (h1 ++ [.list acc]) = some (h1 ++ [.list (acc ++ (vs.filter p).map g)]) := by
  intro vs
  induction vs with
  | nil => intro acc _ _ _; exact congrArg (fun l => some (h1 ++ [O.list l])) (List.append_nil acc).symm
  | cons x r ih =>
    intro acc hc he hl
    rw [← acc_step]
    refine onS_mk (comp_turn (hc x (List.mem_cons_self ..) acc) (fun q => he x (List.mem_cons_self ..) q acc) (by rw [List.length_cons] at hl; lia)) ?_
    exact ih _ (fun x hx => hc x (List.mem_cons_of_mem _ hx)) (fun x hx => he x (List.mem_cons_of_mem _ hx)) (acc_len acc x r hl)
theorem compLoc_pure {v : Nat} {elt cnd : X} {h1 : H} {p : V → Bool} {g : V → V} {vs : List V} {l : Nat} (hv : h1[l]? = some (.list vs)) : ∀ (ws : List V) (acc : List V) (f i : Nat),
    (∀ x ∈ ws, ∀ acc, WX n cnd (m.set v (some x)) (h1 ++ [.list acc]) (fun b h2 => h2 = h1 ++ [.list acc] ∧ truth b = some (p x))) →
    (∀ x ∈ ws, p x = true → ∀ acc, WX n elt (m.set v (some x)) (h1 ++ [.list acc]) (fun y h2 => h2 = h1 ++ [.list acc] ∧ y = g x)) →
    acc.length + ws.length < 1000000 → vs.drop i = ws → ws.length < f →
    compLoc (turn n cnd elt m v h1.length) l f i (h1 ++ [.list acc]) = some (h1 ++ [.list (acc ++ (ws.filter p).map g)]) := by
  intro ws
  induction ws with
  | nil =>
    intro acc f i _ _ _ hd hf
    cases f with
    | zero => exact absurd hf (Nat.not_lt_zero _)
    | succ f =>
      refine oL_mk (get_app hv) ?_
      rw [List.getElem?_eq_none (List.drop_eq_nil_iff.mp hd)]
      exact congrArg (fun l => some (h1 ++ [O.list l])) (List.append_nil acc).symm
  | cons x r ih =>
    intro acc f i hc he hl hd hf
    cases f with
    | zero => exact absurd hf (Nat.not_lt_zero _)
    | succ f =>
      have hi : i < vs.length := Nat.lt_of_not_le fun hh => by rw [List.drop_eq_nil_of_le hh] at hd; cases hd
      rw [List.drop_eq_getElem_cons hi] at hd
      refine oL_mk (get_app hv) ?_
      rw [List.getElem?_eq_getElem hi, (List.cons.inj hd).1, ← acc_step]
      refine onS_mk (comp_turn (hc x (List.mem_cons_self ..) acc) (fun q => he x (List.mem_cons_self ..) q acc) (by rw [List.length_cons] at hl; lia)) ?_
      exact ih _ f (i + 1) (fun x hx => hc x (List.mem_cons_of_mem _ hx)) (fun x hx => he x (List.mem_cons_of_mem _ hx)) (acc_len acc x r hl) (List.cons.inj hd).2 (Nat.lt_of_succ_lt_succ hf)
structure CompS (n : Nat) (elt cnd : X) (m : Loc) (v : Nat) (Q : KX) (iv : V) (h1 : H) : Prop where
  ex : ∃ vs, Over h1 iv vs ∧ ∃ (p : V → Bool) (g : V → V), vs.length < 1000000 ∧
    (∀ x ∈ vs, ∀ acc, WX n cnd (m.set v (some x)) (h1 ++ [.list acc]) (fun b h2 => h2 = h1 ++ [.list acc] ∧ truth b = some (p x))) ∧
    (∀ x ∈ vs, p x = true → ∀ acc, WX n elt (m.set v (some x)) (h1 ++ [.list acc]) (fun y h2 => h2 = h1 ++ [.list acc] ∧ y = g x)) ∧
    Q (.loc h1.length) (h1 ++ [.list ((vs.filter p).map g)])
theorem wx_comp {elt it cnd : X} {v : Nat} (w : WX n it m h (CompS n elt cnd m v Q)) : WX n (.comp elt v it cnd) m h Q := by
  obtain ⟨iv, h1, e1, ⟨vs, ho, p, g, hl, hc, he, q⟩⟩ := w.ex
  have hl' : ([] : List V).length + vs.length < 1000000 := (Nat.zero_add _).symm ▸ hl
  refine ⟨_, _, comp_eq.trans (onP_mk e1 (onS_mk ?_ rfl)), q⟩
  rcases ho with ho | ⟨l, rfl, hv, hl2⟩
  · exact (compIt_of ho).trans (compVals_pure vs [] hc he hl')
  · exact compLoc_pure hv vs [] 1000 0 hc he hl' rfl hl2
structure CompI (n : Nat) (elt : X) (m : Loc) (v : Nat) (Q : KX) (iv : V) (h1 : H) : Prop where
  ex : ∃ vs, iterOf iv = some vs ∧ vs.length < 1000000 ∧ ∃ I : List V → List V → H → Prop, I vs [] (h1 ++ [.list []]) ∧
    (∀ x r acc h2, I (x :: r) acc h2 → acc.length + r.length < vs.length → WX n elt (m.set v (some x)) h2 (fun y h3 => h3[h1.length]? = some (.list acc) ∧ I r (acc ++ [y]) (h3.set h1.length (.list (acc ++ [y]))))) ∧
    (∀ acc h2, I [] acc h2 → Q (.loc h1.length) h2)
theorem wx_compI {elt it : X} {v : Nat} (w : WX n it m h (CompI n elt m v Q)) : WX n (.comp elt v it (.bool true)) m h Q := by
  obtain ⟨iv, h1, e1, ⟨vs, ho, hl, I, i0, st, fin⟩⟩ := w.ex
  have K : ∀ (ws : List V) (acc : List V) (h2 : H), I ws acc h2 → acc.length + ws.length ≤ vs.length → ∃ h' acc', compVals (turn n (.bool true) elt m v h1.length) ws h2 = some h' ∧ I [] acc' h' := by
    intro ws
    induction ws with
    | nil => intro acc h2 i _; exact ⟨h2, acc, rfl, i⟩
    | cons x r ih =>
      intro acc h2 i hle
      have hle2 : acc.length + (r.length + 1) ≤ vs.length := hle
      obtain ⟨y, h3, e3, hg, i3⟩ := (st x r acc h2 i (by lia)).ex
      obtain ⟨h', acc', e4, i4⟩ := ih (acc ++ [y]) _ i3 (by rw [List.length_append]; show acc.length + 1 + r.length ≤ _; lia)
      refine ⟨h', acc', ?_, i4⟩
      exact onS_mk (turn_t evalX_bool rfl e3 hg (by lia)) e4
  obtain ⟨h', acc', e4, i4⟩ := K vs [] _ i0 (by simp)
  exact ⟨_, _, comp_eq.trans (onP_mk e1 (onS_mk ((compIt_of ho).trans e4) rfl)), fin _ _ i4⟩
end
end Mine.L
end

section
namespace Mine.L
open Mine
/-! ### naturals and bits -/
theorem band_nat (a b : Nat) : PySem.Builtin.bitAnd (a : Int) (b : Int) = ((a &&& b : Nat) : Int) := by
  simp [PySem.Builtin.bitAnd]
theorem bor_nat (a b : Nat) : PySem.Builtin.bitOr (a : Int) (b : Int) = ((a ||| b : Nat) : Int) := by
  have ha : ¬ (0 ≤ PySem.Builtin.bitNot (a : Int)) := by simp only [PySem.Builtin.bitNot]; lia
  have hb : ¬ (0 ≤ PySem.Builtin.bitNot (b : Int)) := by simp only [PySem.Builtin.bitNot]; lia
  have ea : (PySem.Builtin.bitNot (PySem.Builtin.bitNot (a : Int))).toNat = a := by simp only [PySem.Builtin.bitNot]; lia
  have eb : (PySem.Builtin.bitNot (PySem.Builtin.bitNot (b : Int))).toNat = b := by simp only [PySem.Builtin.bitNot]; lia
  unfold PySem.Builtin.bitOr
  simp only [PySem.Builtin.bitAnd, ha, hb, decide_false]
  rw [ea, eb]
  simp only [PySem.Builtin.bitNot]; lia
theorem or_eq (a : Nat) : ∀ b, a ||| b = (a ^^^ b) + (a &&& b) := by
  induction a using Nat.strongRecOn with
  | ind a ih =>
    intro b
    rcases Nat.eq_zero_or_pos a with rfl | ha
    · simp
    · have h := ih (a / 2) (by lia) (b / 2)
      have h1 := Nat.or_div_two (a := a) (b := b)
      have h2 := Nat.xor_div_two (a := a) (b := b)
      have h3 := Nat.and_div_two (a := a) (b := b)
      have m1 : (a ||| b) % 2 = (a % 2) ||| (b % 2) := Nat.or_mod_two_pow (n := 1)
      have m2 : (a ^^^ b) % 2 = (a % 2) ^^^ (b % 2) := Nat.xor_mod_two_pow (n := 1)
      have m3 : (a &&& b) % 2 = (a % 2) &&& (b % 2) := Nat.and_mod_two_pow (n := 1)
      rcases Nat.mod_two_eq_zero_or_one a with ea | ea <;> rcases Nat.mod_two_eq_zero_or_one b with eb | eb <;> rw [ea, eb] at m1 m2 m3 <;> simp only [Nat.reduceOr, Nat.reduceXor, Nat.reduceAnd] at m1 m2 m3 <;> lia
theorem bxor_nat (a b : Nat) : PySem.Builtin.bitXor (a : Int) (b : Int) = ((a ^^^ b : Nat) : Int) := by
  unfold PySem.Builtin.bitXor
  rw [bor_nat, band_nat, or_eq]; lia
theorem shl_nat (a w : Nat) : (a : Int) * 2 ^ (w : Int).toNat = ((a <<< w : Nat) : Int) := by
  rw [Nat.shiftLeft_eq, Int.toNat_natCast]; simp
theorem shr_nat (a w : Nat) : (a : Int).fdiv (2 ^ (w : Int).toNat) = ((a >>> w : Nat) : Int) := by
  rw [Nat.shiftRight_eq_div_pow, Int.toNat_natCast, Int.fdiv_eq_ediv_of_nonneg _ (by have := Int.pow_pos (n := 2) (m := w) (by lia); lia)]; simp
theorem mask_nat (w : Nat) : (1 : Int) * 2 ^ (w : Int).toNat - 1 = ((2 ^ w - 1 : Nat) : Int) := by
  have : 0 < 2 ^ w := Nat.two_pow_pos w
  rw [Int.toNat_natCast, Int.one_mul, Int.natCast_sub this]; simp
/-! ### the step -/
theorem get_last {h : H} {o : O} : (h ++ [o])[h.length]? = some o := by simp
theorem get_set_ne {h : H} {a l : Nat} {x o : O} (e : h[l]? = some o) (hne : a ≠ l) : (h.set a x)[l]? = some o := by rw [List.getElem?_set_ne hne, e]
theorem get_set_eq {h : H} {l : Nat} {x o : O} (e : h[l]? = some o) : (h.set l x)[l]? = some x := by
  rw [List.getElem?_set_self (List.getElem?_eq_some_iff.mp e).1]
theorem ne_new {h : H} {l : Nat} {o : O} (e : h[l]? = some o) : h.length ≠ l := by
  have := (List.getElem?_eq_some_iff.mp e).1
  exact fun q => by lia
theorem ne_new' {h : H} {l : Nat} {o : O} (e : h[l]? = some o) : l ≠ h.length := fun q => ne_new e q.symm
end Mine.L
end

section
set_option maxHeartbeats 0
set_option maxRecDepth 10000
namespace Mine.L
open Mine
theorem bop_band_nat {a b : Nat} {Q : Int → Prop} (q : Q ((a &&& b : Nat) : Int)) : Bop .band (a : Int) (b : Int) Q := bop_band (by rw [band_nat]; exact q)
theorem bop_bor_nat {a b : Nat} {Q : Int → Prop} (q : Q ((a ||| b : Nat) : Int)) : Bop .bor (a : Int) (b : Int) Q := bop_bor (by rw [bor_nat]; exact q)
theorem bop_bxor_nat {a b : Nat} {Q : Int → Prop} (q : Q ((a ^^^ b : Nat) : Int)) : Bop .bxor (a : Int) (b : Int) Q := bop_bxor (by rw [bxor_nat]; exact q)
theorem bop_shl_nat {a b : Nat} {Q : Int → Prop} (ha : a < 2 ^ 63) (hb : b ≤ 1000) (q : Q ((a <<< b : Nat) : Int)) : Bop .shl (a : Int) (b : Int) Q := bop_shl ⟨by omega, by omega, by omega⟩ (by rw [shl_nat]; exact q)
theorem bop_shr_nat {a b : Nat} {Q : Int → Prop} (q : Q ((a >>> b : Nat) : Int)) : Bop .shr (a : Int) (b : Int) Q := bop_shr (by omega) (by rw [shr_nat]; exact q)
theorem bop_mulL {x y : Int} {Q : Int → Prop} (g : x.natAbs < 2 ^ 63) (q : Q (x * y)) : Bop .mul x y Q := bop_mul (.inl g) q
theorem bop_mulR {x y : Int} {Q : Int → Prop} (g : y.natAbs < 2 ^ 63) (q : Q (x * y)) : Bop .mul x y Q := bop_mul (.inr g) q
theorem br_true {P R : Prop} (p : P) : Br true P R := br_t rfl p
theorem br_false {P R : Prop} (p : R) : Br false P R := br_f rfl p
theorem br_not {b : Bool} {P R : Prop} (p : Br b R P) : Br (!b) P R := by
  cases b
  · exact br_t rfl (p.f rfl)
  · exact br_f rfl (p.t rfl)
section
variable {h : H}
theorem cmp_isn_n {Q : Bool → Prop} (q : Q true) : Cmp .isn .non .non h Q := cmp_isn q
theorem cmp_isn_i {i : Int} {Q : Bool → Prop} (q : Q false) : Cmp .isn (.int i) .non h Q := cmp_isn q
theorem cmp_isn_t {i : List V} {Q : Bool → Prop} (q : Q false) : Cmp .isn (.tup i) .non h Q := cmp_isn q
theorem cmp_isnt_n {Q : Bool → Prop} (q : Q false) : Cmp .isnt .non .non h Q := cmp_isnt q
theorem cmp_isnt_i {i : Int} {Q : Bool → Prop} (q : Q true) : Cmp .isnt (.int i) .non h Q := cmp_isnt q
theorem cmp_isnt_t {i : List V} {Q : Bool → Prop} (q : Q true) : Cmp .isnt (.tup i) .non h Q := cmp_isnt q
theorem cmp_eqs_t {i : Nat} {Q : Bool → Prop} (q : Q true) : Cmp .eq (.str i) (.str i) h Q := cmp_eqs (by rw [decide_eq_true rfl]; exact q)
theorem cmp_eqs_f {i j : Nat} (hij : i ≠ j) {Q : Bool → Prop} (q : Q false) : Cmp .eq (.str i) (.str j) h Q := cmp_eqs (by rw [decide_eq_false hij]; exact q)
theorem cmp_nes_t {i : Nat} {Q : Bool → Prop} (q : Q false) : Cmp .ne (.str i) (.str i) h Q := cmp_nes (by rw [decide_eq_true rfl]; exact q)
end
section
variable {n : Nat} {m : Loc} {h : H} {Q : V → H → Prop} {R : Fl → Loc → H → Prop}
structure Nrm (m : Loc) (P : Loc → Prop) : Prop where
  p : P m
theorem nrm_mk {m' : Loc} {P : Loc → Prop} (e : m = m') (p : P m') : Nrm m P := ⟨e ▸ p⟩
abbrev kWS (n : Nat) (r : List S) (h1 : H) (R : KL) (m : Loc) : Prop := WS n r m h1 R
abbrev kSto (n i : Nat) (r : List S) (m : Loc) (R : KL) (v : V) (h1 : H) : Prop := Nrm (m.set i (some v)) (kWS n r h1 R)
abbrev kRun (n : Nat) (r : List S) (m : Loc) (R : KL) (v : V) (h1 : H) : Prop := WS n r m h1 R
abbrev kIte1s (n : Nat) (a b r : List S) (m : Loc) (R : KL) (h1 : H) (z : Bool) : Prop := Br z (WS n a m h1 (kS n r R)) (WS n b m h1 (kS n r R))
abbrev kIteS (n : Nat) (a b r : List S) (m : Loc) (R : KL) (v : V) (h1 : H) : Prop := Tru v (kIte1s n a b r m R h1)
theorem wxs_var {i : Nat} {v : V} {r : List X} {Q : List V → H → Prop} (hm : m[i]? = some (some v)) (w : WXs n r m h (kCons1 Q v)) : WXs n (.var i :: r) m h Q := wxs_cons (wx_var hm w)
theorem wxs_v1 {i : Nat} {v : V} {Q : List V → H → Prop} (hm : m[i]? = some (some v)) (q : Q [v] h) : WXs n [.var i] m h Q := wxs_var hm (wxs_nil q)
theorem wxs_int {k : Int} {r : List X} {Q : List V → H → Prop} (w : WXs n r m h (kCons1 Q (.int k))) : WXs n (.int k :: r) m h Q := wxs_cons (wx_int w)
theorem wx_subk {i : Nat} {k : Int} {l : List V} {v : V} (hm : m[i]? = some (some (.tup l))) (e : l[k.toNat]? = some v) (hk : 0 ≤ k) (q : Q v h) : WX n (.sub (.var i) (.int k)) m h Q := wx_sub (wx_var hm (wx_int (sub_tup e hk q)))
theorem wx_binv {op : B} {i : Nat} {b : X} {x : Int} (hm : m[i]? = some (some (.int x))) (w : WX n b m h (kBin3 op Q x)) : WX n (.bin op (.var i) b) m h Q := wx_bin (wx_var hm (isInt w))
theorem wx_bink {op : B} {i : Nat} {x k : Int} (hm : m[i]? = some (some (.int x))) (w : Bop op x k (kInt Q h)) : WX n (.bin op (.var i) (.int k)) m h Q := wx_binv hm (wx_int (isInt w))
theorem wx_binvv {op : B} {i j : Nat} {x y : Int} (hm : m[i]? = some (some (.int x))) (hn : m[j]? = some (some (.int y))) (w : Bop op x y (kInt Q h)) : WX n (.bin op (.var i) (.var j)) m h Q := wx_binv hm (wx_var hn (isInt w))
theorem wx_cmpv {op : Cm} {i : Nat} {b : X} {v : V} (hm : m[i]? = some (some v)) (w : WX n b m h (kCmp2 op Q v)) : WX n (.cmp op (.var i) b) m h Q := wx_cmp (wx_var hm w)
theorem wx_cmpvn {op : Cm} {i : Nat} {v : V} (hm : m[i]? = some (some v)) (w : Cmp op v .non h (kBool Q h)) : WX n (.cmp op (.var i) .non) m h Q := wx_cmpv hm (wx_non w)
theorem wx_cmpvk {op : Cm} {i : Nat} {k : Int} {v : V} (hm : m[i]? = some (some v)) (w : Cmp op v (.int k) h (kBool Q h)) : WX n (.cmp op (.var i) (.int k)) m h Q := wx_cmpv hm (wx_int w)
theorem wx_attrv {i k : Nat} {v : V} (hm : m[i]? = some (some v)) (w : At h v k (kVal Q h)) : WX n (.attr (.var i) k) m h Q := wx_attr (wx_var hm w)
theorem wx_methv {i k : Nat} {as : List X} {v : V} (hm : m[i]? = some (some v)) (w : GM v k h (kMeth1 n as m Q h)) : WX n (.meth (.var i) k as) m h Q := wx_meth (wx_var hm w)
theorem tr_t {a b r : List S} (p : WS n a m h (kS n r R)) : Tru (.bool true) (kIte1s n a b r m R h) := tru_b (br_true p)
theorem tr_f {a b r : List S} (p : WS n b m h (kS n r R)) : Tru (.bool false) (kIte1s n a b r m R h) := tru_b (br_false p)
theorem ws_asg {i : Nat} {e : X} {r : List S} (g : i < m.length) (w : WX n e m h (kSto n i r m R)) : WS n (.asg (.name i) e :: r) m h R :=
  ws_cons (w1_asg (w.mono fun v h1 q => wt_name g rfl (kS_next q.p)))
theorem ws_ret {e : X} {r : List S} (w : WX n e m h (kRet m R)) : WS n (.ret (some e) :: r) m h R := ws_cons (w1_ret (w.mono fun v h1 q => kS_ret q))
theorem ws_expr {e : X} {r : List S} (w : WX n e m h (kRun n r m R)) : WS n (.expr e :: r) m h R := ws_cons (w1_expr (w.mono fun v h1 q => kS_next q))
theorem ws_ite {e : X} {a b r : List S} (w : WX n e m h (kIteS n a b r m R)) : WS n (.ite e a b :: r) m h R := ws_cons (w1_ite w)
end
set_option compiler.extract_closed false
local macro_rules | `(tactic| wtm_at $s:str) => do
  match s.getString.splitOn " " with
  | g :: l@(_ :: _) =>
    if g != "-" then return ← `(tactic| (guard_target =~ $(Lean.mkIdent g.toName) ..; wtm_at $(Lean.quote (" ".intercalate ("-" :: l)))))
    let mut t ← `(tactic| fail)
    for w in l do
      let p := w.splitOn ":"
      let mut a : Array Lean.Term := #[]
      for c in (p.getD 1 "_").toList do
        a := a.push (← if c == '_' then `(?_) else if c == 'r' then `(rfl) else `((by wtm_at $(Lean.quote (if c == 'h' then "hp" else if c == 'l' then "lt" else if c == 'n' then "ne" else toString c)))))
      let r ← `(tactic| refine $(Lean.Syntax.mkApp (Lean.mkIdent (p.headD "").toName) a))
      t ← `(tactic| first | $t:tactic | $r:tactic)
    return t
  | _ => Lean.Macro.throwUnsupported
local macro_rules | `(tactic| wtm_at "ne") => `(tactic| first | assumption | decide | wtm_at "- ne_new:h ne_new':h" | (intro hh; subst hh; contradiction))
local macro_rules | `(tactic| wtm_at "hp") => `(tactic| first | assumption | exact get_last | (apply get_app; wtm_at "hp") | (apply get_set_eq; wtm_at "hp") | (apply get_set_ne; wtm_at "hp"; wtm_at "ne"))
local macro_rules | `(tactic| wtm_at "call") => `(tactic| fail)
local macro_rules | `(tactic| wtm_at "lt") => `(tactic| first | exact Nat.le_of_ble_eq_true rfl | (simp only [List.length_set, List.length_cons, List.length_nil]; decide))
local macro_rules | `(tactic| wtm_at "d") => `(tactic| decide)
local macro_rules | `(tactic| wtm_at "x") => `(tactic| first | dsimp only [List.set] | exact Nat.le_of_ble_eq_true rfl | simp [setF])
local macro_rules | `(tactic| wtm_at "o") => `(tactic| omega)
local macro_rules | `(tactic| wtm_at "s1") => `(tactic| first
  | wtm_at "WX wx_subk:rrd_ wx_binvv:rr_ wx_bink:r_ wx_binv:r_ wx_cmpvn:r_ wx_cmpvk:r_ wx_cmpv:r_ wx_attrv:r_ wx_methv:r_ wx_var:r_ wx_int wx_sub wx_attr wx_fn:r_ wx_bi:r_ wx_bin wx_meth wx_cmp wx_tup wx_str wx_non wx_ite wx_and wx_or wx_not wx_neg wx_bool wx_freeze wx_list wx_dict0 wx_cls:r_ wx_cut wx_cmp2"
  | wtm_at "- isInt wxs_v1:r_ wxs_var:r_ wxs_int wxs_cons wxs_nil"
  | wtm_at "WS ws_asg:l_ ws_ret ws_ite ws_expr ws_nil ws_cons"
  | wtm_at "Nrm nrm_mk:x_"
  | wtm_at "- isLoc tr_t tr_f tru_b br_true br_false"
  | wtm_at "Bop bop_add bop_sub bop_band_nat bop_bor_nat bop_bxor_nat bop_shl_nat:oo_ bop_shr_nat bop_mulL:d_ bop_mulR:d_ bop_mod:d_ bop_fdiv:d_"
  | wtm_at "Cmp cmp_eq cmp_ne cmp_lt cmp_le cmp_gt cmp_ge cmp_isn_n cmp_isn_i cmp_isn_t cmp_isnt_n cmp_isnt_i cmp_isnt_t cmp_eqs_t cmp_eqs_f:d_ cmp_nes_t cmp_neb"
  | wtm_at "Sub sub_tup:rd_ sub_lst:r_ sub_list:hr_"
  | wtm_at "At at_mk:hrr_"
  | wtm_at "GM gm_fn:hrr_ gm_val:hrr_ gm_list:hrr_ gm_dict:hrr_"
  | wtm_at "WM wm_fn wm_clo:r_ wm_get:h_"
  | wtm_at "WB wb_int wb_abs wb_min wb_max wb_lent wb_lenl wb_len:h_ wb_lend:h_"
  | wtm_at "- kR_ret kS_next kS_ret kR_next kF_ret kF_next kF_cont kS_cont isB br_not tru_i"
  | wtm_at "W1 w1_asg w1_expr w1_ret w1_ite w1_ret0 w1_cont w1_for"
  | wtm_at "WT wt_name:lx_ wt_names:r_ wt_attr wt_sub"
  | wtm_at "SetS setS_mk:hrx_"
  | wtm_at "call"
  | wtm_at "And And.intro:l_")
local macro_rules | `(tactic| wtm_at "sx") => `(tactic| repeat (wtm_at "s1"))
local macro_rules | `(tactic| wtm_at "fn") => `(tactic| (refine wc_fn rfl rfl (by decide) (by dsimp only [List.map, Nat.reduceSub, List.replicate, List.cons_append, List.nil_append, List.append_nil]) ?_; wtm_at "sx"))
section
variable {n : Nat} {m : Loc} {h : H} {Q : V → H → Prop} {R : Fl → Loc → H → Prop}
theorem c_mask {w : Nat} (hw : w ≤ 1000) (q : Q (.int ((2 ^ w - 1 : Nat) : Int)) h) : WC (n + 1) 9 [.int w] h Q := by
  refine wc_fn rfl rfl (by decide) rfl ?_
  wtm_at "sx"
  refine bop_shl ⟨by omega, by omega, by decide⟩ ?_
  wtm_at "sx"
  rw [mask_nat]; exact q
end
noncomputable def vv (w a b : Nat) : V := .tup [.int w, .int a, .int b]
noncomputable def mk (w : Nat) : Nat := 2 ^ w - 1
theorem mk_lt (w : Nat) : mk w < 2 ^ w := by have := Nat.two_pow_pos w; unfold mk; omega
theorem mk_small {w : Nat} (hw : w ≤ 60) : mk w < 2 ^ 63 := Nat.lt_of_lt_of_le (mk_lt w) (Nat.pow_le_pow_right (by decide) (by omega))
theorem tb_mk (w i : Nat) : (mk w).testBit i = decide (i < w) := by unfold mk; exact Nat.testBit_two_pow_sub_one ..
section
variable {n : Nat} {m : Loc} {h : H} {Q : V → H → Prop} {R : Fl → Loc → H → Prop}
theorem c_mask' {w : Nat} (hw : w ≤ 1000) (q : Q (.int (mk w : Nat)) h) : WC (n + 1) 9 [.int w] h Q := c_mask hw q
theorem c_mask_i {w : Int} {w' : Nat} (e : w = (w' : Int)) (hw : w' ≤ 1000) (q : Q (.int (mk w' : Nat)) h) : WC (n + 1) 9 [.int w] h Q := by subst e; exact c_mask hw q
theorem c_vec {w a b : Nat} (hw : w ≤ 1000) (q : Q (vv w (a &&& mk w) (b &&& mk w)) h) : WC (n + 2) 10 [.int w, .int a, .int b] h Q := by
  wtm_at "fn"
  refine c_mask' hw ?_
  wtm_at "sx"
  exact q
theorem c_all_x {w : Nat} (hw : w ≤ 1000) (q : Q (vv w (mk w) (mk w)) h) : WC (n + 2) 11 [.int w] h Q := by
  wtm_at "fn"
  refine c_mask' hw ?_
  wtm_at "sx"
  exact q
/-- the number that a row of planes stands for -/
noncomputable def toI (w a b : Nat) (s : Bool) : Option Int := if b ≠ 0 then none else if s = true ∧ a >>> (w - 1) = 1 then some ((a : Int) - 2 ^ w) else some a
noncomputable def oV : Option Int → V
  | none => .non
  | some i => .int i
theorem c_to_int {w a b : Nat} {s : Bool} (hw : 1 ≤ w ∧ w ≤ 1000) (q : Q (oV (toI w a b s)) h) : WC (n + 1) 12 [vv w a b, .bool s] h Q := by
  wtm_at "fn"
  by_cases hb : b = 0
  · refine br_t (by simp [hb]) ?_
    wtm_at "sx"
    cases s with
    | false =>
      wtm_at "sx"
      simpa [toI, hb, oV] using q
    | true =>
      wtm_at "sx"
      rw [show ((w : Int) - 1) = ((w - 1 : Nat) : Int) by omega]
      wtm_at "sx"
      by_cases ha : a >>> (w - 1) = 1
      · refine br_t (by simp [ha]) ?_
        wtm_at "sx"
        refine bop_shl ⟨by omega, by omega, by decide⟩ ?_
        wtm_at "sx"
        have : toI w a b true = some ((a : Int) - 1 * 2 ^ (w : Int).toNat) := by simp [toI, hb, ha]
        rw [this] at q
        exact q
      · refine br_f (by simp only [decide_eq_false_iff_not]; omega) ?_
        wtm_at "sx"
        simpa [toI, hb, ha, oV] using q
  · refine br_f (by simp only [decide_eq_false_iff_not]; omega) ?_
    wtm_at "sx"
    simpa [toI, hb, oV] using q
theorem c_code {w a b i : Nat} (hi : i ≤ 1000) (q : Q (.int (((a >>> i) % 2 + 2 * ((b >>> i) % 2) : Nat) : Int)) h) : WC (n + 1) 13 [vv w a b, .int i] h Q := by
  wtm_at "fn"
  rw [Nat.and_one_is_mod, Nat.and_one_is_mod]
  simpa using q
end
section
section
variable {n : Nat} {m : Loc} {h : H} {Q : V → H → Prop} {R : Fl → Loc → H → Prop}
theorem xor_mk0 (w x : Nat) (hx : x < 2 ^ w) : x ||| (mk w ^^^ mk w <<< 0) = x := by
  rw [Nat.shiftLeft_zero, Nat.xor_self, Nat.or_zero]
theorem and_mk_lt (x w : Nat) : x &&& mk w < 2 ^ w := Nat.lt_of_le_of_lt Nat.and_le_right (mk_lt w)
theorem c_slice {W a b t w : Nat} (hw : 1 ≤ w) (hW : t + w ≤ W) (hs : W ≤ 60) (q : Q (vv w ((a >>> t) &&& mk w) ((b >>> t) &&& mk w)) h) : WC (n + 3) 14 [vv W a b, .int t, .int w] h Q := by
  wtm_at "fn"
  rw [if_neg (show ¬ (0 : Int) > t by lia)]
  have e : (if (W : Int) < (t : Int) + (w : Int) then (W : Int) else (t : Int) + w) = ((t + w : Nat) : Int) := by split <;> lia
  rw [e]
  refine br_f (by simp only [decide_eq_false_iff_not]; lia) ?_
  wtm_at "sx"
  rw [show (((t + w : Nat) : Int) - (t : Int)) = ((w : Nat) : Int) by lia]
  refine c_mask' (by lia) ?_
  wtm_at "sx"
  rw [show ((t : Int) - (t : Int)) = ((0 : Nat) : Int) by lia]
  refine c_mask' (by lia) ?_
  wtm_at "sx"
  refine bop_shl_nat (mk_small (by lia)) (by lia) ?_
  wtm_at "sx"
  refine bop_shl_nat (Nat.lt_of_le_of_lt Nat.and_le_right (mk_small (by lia))) (by lia) ?_
  wtm_at "sx"
  refine bop_shl_nat (Nat.lt_of_le_of_lt Nat.and_le_right (mk_small (by lia))) (by lia) ?_
  wtm_at "sx"
  have z := fun x => xor_mk0 w ((x >>> t) &&& mk w) (and_mk_lt _ _)
  have e2 := z a
  have e3 := z b
  rw [Nat.shiftLeft_zero] at e2 e3
  rw [Nat.shiftLeft_zero, Nat.shiftLeft_zero, Nat.shiftLeft_zero, e2, e3]
  exact q
noncomputable def put (W a : Nat) (lo : Int) (w p : Nat) : Nat :=
  (a &&& (mk W ^^^ (mk ((min (lo + w) W).toNat - lo.toNat) <<< lo.toNat))) ||| (((p >>> (-lo).toNat) &&& mk ((min (lo + w) W).toNat - lo.toNat)) <<< lo.toNat)
theorem tb_eq {lo : Int} {i : Nat} (h : lo ≤ i) : (-lo).toNat + (i - lo.toNat) = (i - lo).toNat := by
  rcases Int.le_total 0 lo with q | q
  · rw [Int.toNat_of_nonpos (Int.neg_nonpos_of_nonneg q), Nat.zero_add]
    obtain ⟨k, rfl⟩ := Int.eq_ofNat_of_zero_le q
    rw [Int.toNat_natCast, Int.toNat_sub]
  · rw [Int.toNat_of_nonpos q, Nat.sub_zero]
    obtain ⟨k, hk⟩ := Int.eq_ofNat_of_zero_le (Int.neg_nonneg_of_nonpos q)
    rw [Int.sub_eq_add_neg, hk, ← Int.natCast_add, Int.toNat_natCast, Int.toNat_natCast, Nat.add_comm]
theorem tb_put {W a : Nat} {lo : Int} {w p : Nat} (ha : a < 2 ^ W) (h1 : 0 < lo + w) (h2 : lo < W) (i : Nat) :
    (put W a lo w p).testBit i = if lo ≤ i ∧ (i : Int) < lo + w ∧ i < W then p.testBit (i - lo).toNat else a.testBit i := by
  have hz : W ≤ i → a.testBit i = false := fun hi => Nat.testBit_lt_two_pow (Nat.lt_of_lt_of_le ha (Nat.pow_le_pow_right (by decide) hi))
  unfold put
  simp only [Nat.testBit_or, Nat.testBit_and, Nat.testBit_xor, Nat.testBit_shiftLeft, Nat.testBit_shiftRight, tb_mk]
  have le1 : ¬ ((i : Int) < lo + w ∧ i < W) → ¬ (i - lo.toNat < (min (lo + w) W).toNat - lo.toNat) := fun q => Nat.not_lt.mpr (Nat.sub_le_sub_right (Int.toNat_le.mpr (Int.not_lt.mp fun z => q ⟨(Int.lt_min.mp z).1, Int.ofNat_lt.mp (Int.lt_min.mp z).2⟩)) _)
  by_cases hi : i < W
  · by_cases hlo : lo ≤ i
    · have e1 : lo.toNat ≤ i := Int.toNat_le.mpr hlo
      by_cases hl : (i : Int) < lo + w
      · have e2 : i - lo.toNat < (min (lo + w) W).toNat - lo.toNat := Nat.sub_lt_sub_right e1 (Int.lt_toNat.mpr (Int.lt_min.mpr ⟨hl, Int.ofNat_lt.mpr hi⟩))
        have e3 : (-lo).toNat + (i - lo.toNat) = (i - lo).toNat := tb_eq hlo
        simp [hi, hlo, hl, e1, e2, e3]
      · have e2 := le1 fun q => hl q.1
        simp [hi, hlo, hl, e1, e2]
    · have e1 : ¬ (lo.toNat ≤ i) := fun h => hlo (Int.toNat_le.mp h)
      simp [hi, hlo, e1]
  · have e2 := le1 fun q => hi q.2
    simp [hi, e2, hz (Nat.not_lt.mp hi)]
theorem put_lt {W a : Nat} {lo : Int} {w p : Nat} (ha : a < 2 ^ W) (h1 : 0 < lo + w) (h2 : lo < W) : put W a lo w p < 2 ^ W := by
  refine Nat.lt_pow_two_of_testBit _ fun i hi => ?_
  rw [tb_put ha h1 h2, if_neg (by lia)]
  exact Nat.testBit_lt_two_pow (Nat.lt_of_lt_of_le ha (Nat.pow_le_pow_right (by decide) hi))
theorem put_nums {lo : Int} {w W : Nat} (h1 : 0 < lo + w) (h2 : lo < W) (h3 : 0 < W) (h4 : 0 < w) :
    ((if (0 : Int) > lo then 0 else lo) = ((lo.toNat : Nat) : Int)) ∧ ((if (W : Int) < lo + (w : Int) then (W : Int) else lo + w) = (((min (lo + w) W).toNat : Nat) : Int)) ∧ lo.toNat < (min (lo + w) W).toNat ∧ (min (lo + w) W).toNat ≤ W ∧ ((lo.toNat : Nat) : Int) - lo = (((-lo).toNat : Nat) : Int) := by
  refine ⟨?_, ?_, ?_, Int.toNat_le.mpr (Int.min_le_right _ _), ?_⟩
  · split
    · rename_i c; rw [Int.toNat_of_nonpos (Int.le_of_lt c)]; rfl
    · rename_i c; rw [Int.toNat_of_nonneg (Int.not_lt.mp c)]
  · split
    · rename_i c; rw [Int.min_eq_right (Int.le_of_lt c)]; rfl
    · rename_i c; rw [Int.min_eq_left (Int.not_lt.mp c), Int.toNat_of_nonneg (Int.le_of_lt h1)]
  · exact (Int.toNat_lt_toNat (Int.lt_min.mpr ⟨h1, Int.ofNat_lt.mpr h3⟩)).mpr (Int.lt_min.mpr ⟨Int.lt_add_of_pos_right lo (Int.ofNat_lt.mpr h4), h2⟩)
  · rcases Int.le_total 0 lo with q | q
    · rw [Int.toNat_of_nonneg q, Int.sub_self, Int.toNat_of_nonpos (Int.neg_nonpos_of_nonneg q)]; rfl
    · rw [Int.toNat_of_nonpos q, Int.toNat_of_nonneg (Int.neg_nonneg_of_nonpos q)]; exact Int.zero_sub lo
theorem c_put {W a b w p p' : Nat} {lo : Int} (h1 : 0 < lo + w) (h2 : lo < W) (h3 : 0 < W) (hs : W ≤ 60) (h4 : 0 < w) (hw : w ≤ 60) (q : Q (vv W (put W a lo w p) (put W b lo w p')) h) : WC (n + 3) 15 [vv W a b, .int lo, vv w p p'] h Q := by
  obtain ⟨e0, e, hLU, hUW, eE⟩ := put_nums h1 h2 h3 h4
  have hL60 : lo.toNat ≤ 60 := Nat.le_trans (Nat.le_of_lt hLU) (Nat.le_trans hUW hs)
  have hU60 : (min (lo + (w : Int)) W).toNat - lo.toNat ≤ 60 := Nat.le_trans (Nat.sub_le _ _) (Nat.le_trans hUW hs)
  have k : 60 ≤ 1000 := by decide
  wtm_at "fn"
  rw [e0, e]
  refine br_f (decide_eq_false fun g => absurd hLU (Nat.not_lt.mpr (Int.ofNat_le.mp g))) ?_
  wtm_at "sx"
  rw [← Int.ofNat_sub (Nat.le_of_lt hLU)]
  refine c_mask' (Nat.le_trans hU60 k) ?_
  wtm_at "sx"
  rw [eE]
  refine c_mask' (by first | exact Nat.le_trans hU60 k | exact Nat.le_trans hw k | exact Nat.le_trans hs k) ?_
  wtm_at "sx"
  refine bop_shl_nat (mk_small hU60) (Nat.le_trans hL60 k) ?_
  wtm_at "sx"
  refine bop_shl_nat (Nat.lt_of_le_of_lt Nat.and_le_right (mk_small hU60)) (Nat.le_trans hL60 k) ?_
  wtm_at "sx"
  refine bop_shl_nat (Nat.lt_of_le_of_lt Nat.and_le_right (mk_small hU60)) (Nat.le_trans hL60 k) ?_
  wtm_at "sx"
  exact q
/-- a plane widened -/
noncomputable def extA (w0 a w : Nat) (s : Bool) : Nat := if w ≤ w0 then a &&& mk w else if s = true ∧ a.testBit (w0 - 1) = true then a ||| (mk w ^^^ mk w0) else a
theorem tb_ext {w0 a w : Nat} {s : Bool} (ha : a < 2 ^ w0) (i : Nat) : (extA w0 a w s).testBit i = (decide (i < w) && (if i < w0 then a.testBit i else (s && a.testBit (w0 - 1)))) := by
  have hz : w0 ≤ i → a.testBit i = false := fun hi => Nat.testBit_lt_two_pow (Nat.lt_of_lt_of_le ha (Nat.pow_le_pow_right (by decide) hi))
  unfold extA
  by_cases h1 : w ≤ w0
  · rw [if_pos h1, Nat.testBit_and, tb_mk]
    by_cases hi : i < w
    · have : i < w0 := by lia
      simp [hi, this]
    · simp [hi]
  · rw [if_neg h1]
    by_cases hc : s = true ∧ a.testBit (w0 - 1) = true
    · rw [if_pos hc, Nat.testBit_or, Nat.testBit_xor, tb_mk, tb_mk, hc.1, hc.2]
      by_cases hi : i < w0
      · have : i < w := by lia
        simp [hi, this]
      · by_cases hw : i < w <;> simp [hi, hw, hz (by lia)]
    · rw [if_neg hc]
      by_cases hi : i < w0
      · have : i < w := by lia
        simp [hi, this]
      · have : (s && a.testBit (w0 - 1)) = false := by
          cases s <;> simp_all
        simp [hi, hz (by lia), this]
theorem ext_lt {w0 a w : Nat} {s : Bool} (ha : a < 2 ^ w0) : extA w0 a w s < 2 ^ w := by
  refine Nat.lt_pow_two_of_testBit _ fun i hi => ?_
  rw [tb_ext ha]
  simp [show ¬ i < w by lia]
theorem bit_mod (a i : Nat) : (a >>> i) % 2 = (a.testBit i).toNat := by
  rw [Nat.testBit_eq_decide_div_mod_eq, Nat.shiftRight_eq_div_pow]
  rcases Nat.mod_two_eq_zero_or_one (a / 2 ^ i) with e | e <;> simp [e]
theorem c_extend {w0 a b w : Nat} {s : Bool} (h1 : 1 ≤ w0) (h2 : w0 ≤ 60) (hw : w ≤ 60) (q : Q (vv w (extA w0 a w s) (extA w0 b w s)) h) : WC (n + 3) 16 [vv w0 a b, .int w, .bool s] h Q := by
  wtm_at "fn"
  by_cases hc : w ≤ w0
  · refine br_t (by simp only [decide_eq_true_eq]; lia) ?_
    wtm_at "sx"
    refine c_vec (by lia) ?_
    wtm_at "sx"
    simpa [extA, hc] using q
  · refine br_f (by simp only [decide_eq_false_iff_not]; lia) ?_
    wtm_at "sx"
    cases s with
    | false =>
      wtm_at "sx"
      simp only [extA, hc, if_false, Bool.false_eq_true, false_and] at q
      exact q
    | true =>
      wtm_at "sx"
      refine c_mask' (by lia) ?_
      wtm_at "sx"
      refine c_mask' (by lia) ?_
      wtm_at "sx"
      rw [show ((w0 : Int) - 1) = ((w0 - 1 : Nat) : Int) by lia]
      refine c_code (by lia) ?_
      wtm_at "sx"
      rw [bit_mod, bit_mod]
      cases ea : a.testBit (w0 - 1) <;> cases eb : b.testBit (w0 - 1) <;> wtm_at "sx" <;> (simp only [extA, hc, ea, eb, if_false, if_true, and_self, and_true, Bool.false_eq_true, and_false] at q; (try simp only [Nat.or_zero]); exact q)
end
end
section
/-! ### dicts with a few keys -/
theorem getKV_cons (p : Int × V) (r : List (Int × V)) (k : Int) : getKV (p :: r) k = if p.1 = k then some p.2 else getKV r k := by
  unfold getKV
  by_cases e : p.1 = k <;> simp [List.find?_cons, e]
theorem getKV_nil (k : Int) : getKV [] k = none := rfl
theorem any_getKV (kv : List (Int × V)) (k : Int) : (kv.any fun p => decide (p.1 = k)) = (getKV kv k).isSome := by
  induction kv with
  | nil => rfl
  | cons p r ih =>
    rw [List.any_cons, ih, getKV_cons]
    by_cases e : p.1 = k <;> simp [e]
theorem getKV_map (kv : List (Int × V)) (k k' : Int) (v : V) : getKV (kv.map fun p => if p.1 = k then (p.1, v) else p) k' = if k' = k then (getKV kv k').map (fun _ => v) else getKV kv k' := by
  induction kv with
  | nil => simp [getKV_nil]
  | cons p r ih =>
    rw [List.map_cons, getKV_cons, getKV_cons, ih]
    by_cases e : p.1 = k
    · rw [if_pos e]
      by_cases e2 : k' = k
      · simp [e, e2]
      · have : ¬ p.1 = k' := fun q => e2 (q.symm.trans e)
        simp [e2, this]
    · rw [if_neg e]
      by_cases e2 : k' = k
      · subst e2; simp [e]
      · simp [e2]
theorem getKV_append (kv : List (Int × V)) (k k' : Int) (v : V) : getKV (kv ++ [(k, v)]) k' = (getKV kv k').or (if k = k' then some v else none) := by
  induction kv with
  | nil => rw [List.nil_append, getKV_cons, getKV_nil]; simp [getKV_nil]
  | cons p r ih =>
    rw [List.cons_append, getKV_cons, getKV_cons, ih]
    by_cases e : p.1 = k' <;> simp [e]
theorem getKV_setKV (kv : List (Int × V)) (k k' : Int) (v : V) : getKV (setKV kv k v) k' = if k' = k then some v else getKV kv k' := by
  unfold setKV
  rw [any_getKV]
  cases hs : getKV kv k with
  | none =>
    simp only [Option.isSome_none, Bool.false_eq_true, if_false]
    rw [getKV_append]
    by_cases e : k' = k
    · subst e; simp [hs]
    · have : ¬ k = k' := fun q => e q.symm
      simp [e, this]
  | some x =>
    simp only [Option.isSome_some, if_true]
    rw [getKV_map]
    by_cases e : k' = k
    · subst e; simp [hs]
    · simp [e]
theorem length_setKV (kv : List (Int × V)) (k : Int) (v : V) : (setKV kv k v).length = kv.length + if (getKV kv k).isSome then 0 else 1 := by
  unfold setKV
  rw [any_getKV]
  cases (getKV kv k).isSome <;> simp
noncomputable def miss (kv : List (Int × V)) : Nat := (if (getKV kv 0).isSome then 0 else 1) + (if (getKV kv 1).isSome then 0 else 1) + (if (getKV kv 2).isSome then 0 else 1)
abbrev Pl := Nat × Nat
noncomputable def upd (τ : Nat → Pl) (j : Nat) (x : Pl) (i : Nat) : Pl := if i = j then x else τ i
structure DOk (kv : List (Int × V)) (w : Nat → Nat) (τ : Nat → Pl) : Prop where
  len : kv.length + miss kv ≤ 3
  get : ∀ j : Nat, j < 3 → getKV kv j = some (vv (w j) (τ j).1 (τ j).2) ∨ (getKV kv j = none ∧ τ j = (mk (w j), mk (w j)))
theorem DOk.set {kv : List (Int × V)} {w : Nat → Nat} {τ τ' : Nat → Pl} {j : Nat} {x : Pl} (d : DOk kv w τ) (hj : j < 3) (ht : ∀ i, i < 3 → τ' i = upd τ j x i) : DOk (setKV kv j (vv (w j) x.1 x.2)) w τ' := by
  refine ⟨?_, fun i hi => ?_⟩
  · have h := d.len
    rw [length_setKV]
    unfold miss at h ⊢
    rw [getKV_setKV, getKV_setKV, getKV_setKV]
    have hj3 : j = 0 ∨ j = 1 ∨ j = 2 := by lia
    rcases hj3 with rfl | rfl | rfl
    · simp only [show (0 : Int) = ((0 : Nat) : Int) from rfl, show ¬ ((1 : Int) = ((0 : Nat) : Int)) by decide, show ¬ ((2 : Int) = ((0 : Nat) : Int)) by decide, if_true, if_false, Option.isSome_some] at h ⊢; lia
    · simp only [show (1 : Int) = ((1 : Nat) : Int) from rfl, show ¬ ((0 : Int) = ((1 : Nat) : Int)) by decide, show ¬ ((2 : Int) = ((1 : Nat) : Int)) by decide, if_true, if_false, Option.isSome_some] at h ⊢; lia
    · simp only [show (2 : Int) = ((2 : Nat) : Int) from rfl, show ¬ ((0 : Int) = ((2 : Nat) : Int)) by decide, show ¬ ((1 : Int) = ((2 : Nat) : Int)) by decide, if_true, if_false, Option.isSome_some] at h ⊢; lia
  · rw [getKV_setKV, ht i hi]
    unfold upd
    by_cases e : i = j
    · subst e; left; simp
    · rw [if_neg (by lia), if_neg e]; exact d.get i hi
/-! ### what a step leaves -/
structure Eff (S : List Nat) (h h' : H) : Prop where
  len : h.length ≤ h'.length
  eq : ∀ n o, n ∉ S → h[n]? = some o → h'[n]? = some o
theorem Eff.refl (S : List Nat) (h : H) : Eff S h h := ⟨Nat.le_refl _, fun _ _ _ e => e⟩
theorem Eff.trans {S : List Nat} {h h1 h2 : H} (a : Eff S h h1) (b : Eff S h1 h2) : Eff S h h2 := ⟨Nat.le_trans a.len b.len, fun n o hn e => b.eq n o hn (a.eq n o hn e)⟩
theorem Eff.sub {S S' : List Nat} {h h1 : H} (a : Eff S h h1) (s : ∀ n, n ∈ S → n ∈ S') : Eff S' h h1 := ⟨a.len, fun n o hn e => a.eq n o (fun q => hn (s n q)) e⟩
theorem Eff.app {S : List Nat} {h h1 : H} (a : Eff S h h1) (t : H) : Eff S h (h1 ++ t) := ⟨by rw [List.length_append]; have := a.len; lia, fun n o hn e => get_app (a.eq n o hn e)⟩
theorem Eff.set {S : List Nat} {h h1 : H} (a : Eff S h h1) {l : Nat} (hl : l ∈ S ∨ h.length ≤ l) (o : O) : Eff S h (h1.set l o) := ⟨by rw [List.length_set]; exact a.len, fun n o' hn e => get_set_ne (a.eq n o' hn e) (by
    rintro rfl
    rcases hl with q | q
    · exact hn q
    · have := (List.getElem?_eq_some_iff.mp e).1; lia)⟩
/-- what an earlier heap says of what lies beyond both: what an effect relative to an inner heap may touch -/
theorem Eff.transN {S S' : List Nat} {h h1 h2 : H} (a : Eff S h h1) (b : Eff S' h1 h2) (s : ∀ n, n ∈ S' → n ∈ S ∨ h.length ≤ n) : Eff S h h2 := ⟨Nat.le_trans a.len b.len, fun n o hn e => b.eq n o (fun q => by
    rcases s n q with q | q
    · exact hn q
    · have := (List.getElem?_eq_some_iff.mp e).1; lia) (a.eq n o hn e)⟩
/-! ### the design: what never changes -/
noncomputable def wd : Nat → Nat
  | 0 => 4
  | 1 => 3
  | 2 => 3
  | _ => 2
theorem wd_le (j : Nat) : 2 ≤ wd j ∧ wd j ≤ 4 := by unfold wd; split <;> lia
noncomputable def sigF (k : Int) (p : Nat) (w m : Int) (F L : V) : List (Nat × V) := [(25, .int k), (26, .str p), (27, .str 30), (5, .int w), (28, .bool false), (29, .int m), (30, .int 0), (20, F), (21, L), (31, .non), (32, .int (-1)), (33, .bool false)]
structure Fx (h : H) (F d : Int) : Prop where
  dd : d = 1 ∨ d = -1
  nm : h[4]? = some (.list [.int F, .int (F + d), .int (F + 2 * d)])
  s0 : h[5]? = some (.inst 0 (sigF 0 29 4 3 .non .non))
  s1 : h[6]? = some (.inst 0 (sigF 1 31 3 2 .non .non))
  s2 : h[7]? = some (.inst 0 (sigF 2 32 3 2 .non .non))
  s3 : h[8]? = some (.inst 0 (sigF 3 33 2 1 (.int F) (.int (F + 2 * d))))
  sg : h[9]? = some (.list [.loc 5, .loc 6, .loc 7, .loc 8])
  st : h[10]? = some (.inst 3 [(4, .loc 9), (55, .loc 11), (56, .loc 12), (57, .int 1)])
theorem Fx.eff {h h' : H} {F d : Int} {S : List Nat} (f : Fx h F d) (e : Eff S h h') (hS : ∀ n ∈ S, 11 ≤ n) : Fx h' F d := by
  have k : ∀ n o, n < 11 → h[n]? = some o → h'[n]? = some o := fun n o hn q => e.eq n o (fun m => by have := hS n m; lia) q
  exact ⟨f.dd, k _ _ (by decide) f.nm, k _ _ (by decide) f.s0, k _ _ (by decide) f.s1, k _ _ (by decide) f.s2, k _ _ (by decide) f.s3, k _ _ (by decide) f.sg, k _ _ (by decide) f.st⟩
structure Sto (h : H) (σ : Nat → Pl) (M : Option Nat) : Prop where
  bd : ∀ j, (σ j).1 < 2 ^ wd j ∧ (σ j).2 < 2 ^ wd j
  va : ∃ kv, h[11]? = some (.dict kv) ∧ DOk kv wd σ
  me : match M with
    | none => h[12]? = some (.dict []) ∧ ∀ j, j < 3 → σ (3 + j) = (mk 2, mk 2)
    | some l => h[12]? = some (.dict [(3, .loc l)]) ∧ 36 ≤ l ∧ ∃ kv, h[l]? = some (.dict kv) ∧ DOk kv (fun _ => 2) (fun j => σ (3 + j))
noncomputable def Sto.foot (M : Option Nat) : List Nat := 11 :: 12 :: M.toList
theorem Sto.eff {h h' : H} {σ : Nat → Pl} {M : Option Nat} {S : List Nat} (s : Sto h σ M) (e : Eff S h h') (hS : ∀ n ∈ S, n ∉ Sto.foot M) : Sto h' σ M := by
  have k : ∀ n o, n ∈ Sto.foot M → h[n]? = some o → h'[n]? = some o := fun n o hn q => e.eq n o (fun m => hS n m hn) q
  obtain ⟨kv, e1, d1⟩ := s.va
  refine ⟨s.bd, ⟨kv, k _ _ (List.mem_cons_self ..) e1, d1⟩, ?_⟩
  have m := s.me
  cases M with
  | none => exact ⟨k _ _ (by simp [Sto.foot]) m.1, m.2⟩
  | some l =>
    obtain ⟨m1, m2, kv, m3, m4⟩ := m
    exact ⟨k _ _ (by simp [Sto.foot]) m1, m2, kv, k _ _ (by simp [Sto.foot]) m3, m4⟩
section
variable {n : Nat} {m : Loc} {h : H} {Q : V → H → Prop} {R : Fl → Loc → H → Prop}
theorem c_is_net {s : Nat} {k : Int} {p : Nat} {w m1 : Int} {F L : V} (hs : h[s]? = some (.inst 0 (sigF k p w m1 F L))) (q : Q (.bool false) h) : WC (n + 2) 44 [.loc s] h Q := by
  wtm_at "fn"
  refine WC.mono (Q := fun v h' => v = .tup [.str 17, .str 18, .str 19, .str 20, .str 21, .str 22, .str 23, .str 24, .str 25] ∧ h' = h) ?_ ?_
  · wtm_at "fn"
    exact ⟨rfl, rfl⟩
  · rintro _ _ ⟨rfl, rfl⟩
    refine cmp_mem (b := false) rfl ?_
    wtm_at "sx"
    exact q
theorem c_words {F d : Int} (fx : Fx h F d) (q : Q (.int 3) h) : WC (n + 1) 45 [.loc 8] h Q := by
  obtain ⟨dd, nm, s0, s1, s2, s3, sg, st⟩ := fx
  wtm_at "fn"
  rw [show (if F + 2 * d - F < 0 then -(F + 2 * d - F) else F + 2 * d - F) + 1 = 3 by rcases dd with rfl | rfl <;> split <;> lia]
  exact q
/-- the place of a word -/
noncomputable def plc (F d i : Int) : Int := if (i - F) * d < 0 ∨ (i - F) * d ≥ 3 then -1 else (i - F) * d
theorem c_place {F d i : Int} (fx : Fx h F d) (q : Q (.int (plc F d i)) h) : WC (n + 2) 46 [.loc 8, .int i] h Q := by
  have fx0 := fx
  obtain ⟨dd, nm, s0, s1, s2, s3, sg, st⟩ := fx
  unfold plc at q
  wtm_at "fn"
  rcases dd with rfl | rfl
  · refine br_t (by simp only [decide_eq_true_eq]; lia) ?_
    wtm_at "sx"
    rw [Int.mul_one] at q
    by_cases c1 : i - F < 0
    · refine br_t (by simp only [decide_eq_true_eq]; lia) ?_
      wtm_at "sx"
      rw [if_pos (Or.inl c1)] at q; exact q
    · refine br_f (by simp only [decide_eq_false_iff_not]; lia) ?_
      wtm_at "sx"
      refine c_words fx0 ?_
      wtm_at "sx"
      by_cases c2 : i - F ≥ 3
      · refine br_t (by simp only [decide_eq_true_eq]; lia) ?_
        wtm_at "sx"
        rw [if_pos (Or.inr c2)] at q; exact q
      · refine br_f (by simp only [decide_eq_false_iff_not]; lia) ?_
        wtm_at "sx"
        rw [if_neg (by lia)] at q; exact q
  · refine br_f (by simp only [decide_eq_false_iff_not]; lia) ?_
    wtm_at "sx"
    rw [show (i - F) * -1 = F - i by lia] at q
    by_cases c1 : F - i < 0
    · refine br_t (by simp only [decide_eq_true_eq]; lia) ?_
      wtm_at "sx"
      rw [if_pos (Or.inl c1)] at q; exact q
    · refine br_f (by simp only [decide_eq_false_iff_not]; lia) ?_
      wtm_at "sx"
      refine c_words fx0 ?_
      wtm_at "sx"
      by_cases c2 : F - i ≥ 3
      · refine br_t (by simp only [decide_eq_true_eq]; lia) ?_
        wtm_at "sx"
        rw [if_pos (Or.inr c2)] at q; exact q
      · refine br_f (by simp only [decide_eq_false_iff_not]; lia) ?_
        wtm_at "sx"
        rw [if_neg (by lia)] at q; exact q
end
end
section
section
variable {n : Nat} {m : Loc} {h : H} {Q : V → H → Prop} {R : Fl → Loc → H → Prop}
theorem cmp_isnt_l {i : Nat} {Q : Bool → Prop} (q : Q true) : Cmp .isnt (.loc i) .non h Q := cmp_isnt q
theorem c_get {F d : Int} {σ : Nat → Pl} {M : Option Nat} {j : Nat} (fx : Fx h F d) (s : Sto h σ M) (hj : j < 3) (q : Q (vv (wd j) (σ j).1 (σ j).2) h) : WC (n + 3) 56 [.loc 10, .int j] h Q := by
  obtain ⟨dd, nm, s0, s1, s2, s3, sg, st⟩ := fx
  obtain ⟨kv, e11, dk⟩ := s.va
  wtm_at "fn"
  rcases dk.get j hj with g | ⟨g, gm⟩
  · rw [g]
    simp only [Option.getD_some]
    refine cmp_isnt_t ?_
    wtm_at "sx"
    exact q
  · rw [g]
    simp only [Option.getD_none]
    wtm_at "sx"
    rw [gm] at q
    have hj3 : j = 0 ∨ j = 1 ∨ j = 2 := by lia
    rcases hj3 with rfl | rfl | rfl
    · wtm_at "sx"
      refine c_is_net s0 ?_
      wtm_at "sx"
      exact c_all_x (by decide) q
    · wtm_at "sx"
      refine c_is_net s1 ?_
      wtm_at "sx"
      exact c_all_x (by decide) q
    · wtm_at "sx"
      refine c_is_net s2 ?_
      wtm_at "sx"
      exact c_all_x (by decide) q
theorem c_word {F d : Int} {σ : Nat → Pl} {M : Option Nat} {p : Nat} (fx : Fx h F d) (s : Sto h σ M) (hp : p < 3) (q : Q (vv 2 (σ (3 + p)).1 (σ (3 + p)).2) h) : WC (n + 3) 57 [.loc 10, .int 3, .int p] h Q := by
  obtain ⟨dd, nm, s0, s1, s2, s3, sg, st⟩ := fx
  have me := s.me
  cases M with
  | none =>
    obtain ⟨m1, m2⟩ := me
    rw [m2 p hp] at q
    wtm_at "fn"
    rw [getKV_nil]
    wtm_at "sx"
    refine cmp_mem (b := false) rfl ?_
    wtm_at "sx"
    refine cmp_mem (b := false) rfl ?_
    wtm_at "sx"
    refine c_is_net s3 ?_
    wtm_at "sx"
    exact c_all_x (by decide) q
  | some l =>
    obtain ⟨m1, m2, kv, m3, dk⟩ := me
    wtm_at "fn"
    rw [show getKV [((3 : Int), V.loc l)] 3 = some (.loc l) from rfl]
    simp only [Option.getD_some]
    refine cmp_isnt_l ?_
    wtm_at "sx"
    rcases dk.get p hp with g | ⟨g, gm⟩
    · rw [g]
      simp only [Option.getD_some]
      refine cmp_isnt_t ?_
      wtm_at "sx"
      exact q
    · rw [g]
      simp only [Option.getD_none]
      rw [gm] at q
      wtm_at "sx"
      refine cmp_mem (b := false) rfl ?_
      wtm_at "sx"
      refine cmp_mem (b := false) rfl ?_
      wtm_at "sx"
      refine c_is_net s3 ?_
      wtm_at "sx"
      exact c_all_x (by decide) q
theorem intL_vv (w a b : Nat) : intL [V.int (w : Int), .int (a : Int), .int (b : Int)] = some [(w : Int), (a : Int), (b : Int)] := rfl
/-- a plane pair after a write -/
noncomputable def wr (j : Nat) (lo : Int) (w : Nat) (x p : Pl) : Pl := (put (wd j) x.1 lo w p.1, put (wd j) x.2 lo w p.2)
theorem wr_bd {j : Nat} {lo : Int} {w : Nat} {x p : Pl} (hx : x.1 < 2 ^ wd j ∧ x.2 < 2 ^ wd j) (h1 : 0 < lo + w) (h2 : lo < wd j) : (wr j lo w x p).1 < 2 ^ wd j ∧ (wr j lo w x p).2 < 2 ^ wd j := ⟨put_lt hx.1 h1 h2, put_lt hx.2 h1 h2⟩
theorem upd_same (τ : Nat → Pl) (j : Nat) : upd τ j (τ j) = τ := by
  funext i; unfold upd; split
  · subst_vars; rfl
  · rfl
theorem upd_bd {σ : Nat → Pl} {j : Nat} {x : Pl} (b : ∀ j, (σ j).1 < 2 ^ wd j ∧ (σ j).2 < 2 ^ wd j) (hx : x.1 < 2 ^ wd j ∧ x.2 < 2 ^ wd j) (i : Nat) : (upd σ j x i).1 < 2 ^ wd i ∧ (upd σ j x i).2 < 2 ^ wd i := by
  unfold upd; split
  · subst_vars; exact hx
  · exact b i
theorem beq3 (w a b c d : Nat) : ([(w : Int), (a : Int), (b : Int)] == [(w : Int), (c : Int), (d : Int)]) = decide ((a, b) = (c, d)) := by
  by_cases e : (a, b) = (c, d)
  · cases e; simp
  · rw [decide_eq_false e]
    rw [beq_eq_false_iff_ne]
    intro q
    apply e
    simp only [List.cons.injEq, and_true, true_and] at q
    rw [Int.ofNat_inj.mp q.1, Int.ofNat_inj.mp q.2]
theorem c_set_key {F d lo : Int} {σ : Nat → Pl} {M : Option Nat} {j w p p' : Nat} (fx : Fx h F d) (s : Sto h σ M) (hj : j < 3) (h1 : 0 < lo + w) (h2 : lo < wd j) (h4 : 0 < w) (hw : w ≤ 60)
    (q : ∀ h', Eff [11] h h' → h'.length = h.length → Sto h' (upd σ j (wr j lo w (σ j) (p, p'))) M → Q (.bool (!decide (wr j lo w (σ j) (p, p') = σ j))) h') : WC (n + 4) 58 [.loc 10, .int j, .non, .int lo, vv w p p'] h Q := by
  have fx0 := fx
  obtain ⟨dd, nm, s0, s1, s2, s3, sg, st⟩ := fx
  have wl := wd_le j
  wtm_at "fn"
  refine c_get fx0 s hj ?_
  wtm_at "sx"
  refine c_put h1 h2 (by lia) (by lia) h4 hw ?_
  wtm_at "sx"
  refine cmp_tup (intL_vv ..) (intL_vv ..) ?_
  rw [beq3]
  wtm_at "sx"
  by_cases e : wr j lo w (σ j) (p, p') = σ j
  · refine br_t (decide_eq_true e) ?_
    wtm_at "sx"
    have := q h (Eff.refl _ _) rfl (by rw [e, upd_same]; exact s)
    rw [decide_eq_true e] at this
    exact this
  · refine br_f (decide_eq_false e) ?_
    obtain ⟨kv, e11, dk⟩ := s.va
    wtm_at "sx"
    refine puts_dict (by wtm_at "hp") (by have := dk.len; lia) ?_
    wtm_at "sx"
    have := q _ ((Eff.refl [11] h).set (l := 11) (Or.inl (List.mem_cons_self ..)) (.dict (setKV kv j (vv (wd j) (wr j lo w (σ j) (p, p')).1 (wr j lo w (σ j) (p, p')).2)))) (List.length_set) ?_
    · rw [decide_eq_false e] at this
      exact this
    · refine ⟨upd_bd s.bd (wr_bd (s.bd j) h1 h2), ⟨_, get_set_eq e11, dk.set hj (fun i _ => rfl)⟩, ?_⟩
      have me := s.me
      have up : ∀ i, i < 3 → upd σ j (wr j lo w (σ j) (p, p')) (3 + i) = σ (3 + i) := fun i hi => by unfold upd; rw [if_neg (by lia)]
      cases M with
      | none => exact ⟨get_set_ne me.1 (by decide), fun i hi => by rw [up i hi]; exact me.2 i hi⟩
      | some l =>
        obtain ⟨m1, m2, kv3, m3, dk3⟩ := me
        refine ⟨get_set_ne m1 (by decide), m2, kv3, get_set_ne m3 (by lia), dk3.len, fun i hi => ?_⟩

        rw [up i hi]; exact dk3.get i hi
theorem c_set_mem {F d lo : Int} {σ : Nat → Pl} {M : Option Nat} {j w p p' : Nat} (fx : Fx h F d) (s : Sto h σ M) (hl36 : 36 ≤ h.length) (hj : j < 3) (h1 : 0 < lo + w) (h2 : lo < 2) (h4 : 0 < w) (hw : w ≤ 60)
    (q : ∀ h' M', Eff (Sto.foot M) h h' → (M' = M ∨ ∃ l, M' = some l ∧ h.length ≤ l) → Sto h' (upd σ (3 + j) (wr (3 + j) lo w (σ (3 + j)) (p, p'))) M' → Q (.bool (!decide (wr (3 + j) lo w (σ (3 + j)) (p, p') = σ (3 + j)))) h') : WC (n + 4) 58 [.loc 10, .int 3, .int j, .int lo, vv w p p'] h Q := by
  have fx0 := fx
  obtain ⟨dd, nm, s0, s1, s2, s3, sg, st⟩ := fx
  have w2 : wd (3 + j) = 2 := by
    have hj3 : j = 0 ∨ j = 1 ∨ j = 2 := by lia
    rcases hj3 with rfl | rfl | rfl <;> rfl
  wtm_at "fn"
  refine c_words fx0 ?_
  wtm_at "sx"
  refine br_f (by simp only [decide_eq_false_iff_not]; lia) ?_
  wtm_at "sx"
  refine c_word fx0 s hj ?_
  wtm_at "sx"
  refine c_put h1 h2 (by decide) (by decide) h4 hw ?_
  wtm_at "sx"
  refine cmp_tup (intL_vv ..) (intL_vv ..) ?_
  rw [beq3]
  wtm_at "sx"
  rw [show (put 2 (σ (3 + j)).fst lo w p, put 2 (σ (3 + j)).snd lo w p') = wr (3 + j) lo w (σ (3 + j)) (p, p') by unfold wr; rw [w2]]
  have hb := upd_bd (j := 3 + j) s.bd (wr_bd (p := (p, p')) (s.bd (3 + j)) h1 (by rw [w2]; exact h2))
  by_cases e : wr (3 + j) lo w (σ (3 + j)) (p, p') = σ (3 + j)
  · refine br_t (decide_eq_true e) ?_
    wtm_at "sx"
    have := q h M (Eff.refl _ _) (Or.inl rfl) (by rw [e, upd_same]; exact s)
    rw [decide_eq_true e] at this
    exact this
  · refine br_f (decide_eq_false e) ?_
    have vv' : vv 2 (put 2 (σ (3 + j)).fst lo w p) (put 2 (σ (3 + j)).snd lo w p') = vv 2 (wr (3 + j) lo w (σ (3 + j)) (p, p')).1 (wr (3 + j) lo w (σ (3 + j)) (p, p')).2 := by unfold wr; rw [w2]
    have up : ∀ i, i < 3 → upd σ (3 + j) (wr (3 + j) lo w (σ (3 + j)) (p, p')) i = σ i := fun i hi => by unfold upd; rw [if_neg (by lia)]
    have up3 : ∀ i, i < 3 → upd σ (3 + j) (wr (3 + j) lo w (σ (3 + j)) (p, p')) (3 + i) = upd (fun i => σ (3 + i)) j (wr (3 + j) lo w (σ (3 + j)) (p, p')) i := fun i hi => by
      unfold upd
      by_cases q : i = j
      · subst q; simp
      · rw [if_neg (by lia), if_neg q]
    obtain ⟨kv, e11, dk⟩ := s.va
    have me := s.me
    cases M with
    | none =>
      obtain ⟨m1, m2⟩ := me
      wtm_at "sx"
      refine cmp_nmem (b := false) (by simp only [mem, m1]; rfl) ?_
      wtm_at "sx"
      refine puts_dict (by wtm_at "hp") (by decide) ?_
      wtm_at "sx"
      have hq := q ((((h ++ [O.dict []]).set 12 (.dict [(3, .loc h.length)]))).set h.length (.dict (setKV [] j (vv 2 (put 2 (σ (3 + j)).fst lo w p) (put 2 (σ (3 + j)).snd lo w p'))))) (some h.length)
        ((((Eff.refl (Sto.foot none) h).app [.dict []]).set (l := 12) (Or.inl (by decide)) _).set (Or.inr (Nat.le_refl _)) _) (Or.inr ⟨_, rfl, Nat.le_refl _⟩) ?_
      · rw [decide_eq_false e] at hq
        refine sub_dict (l := setKV [] 3 (.loc h.length)) (by apply get_set_eq; exact get_app m1) (v := .loc h.length) rfl ?_
        wtm_at "sx"
        have hlast : ((h ++ [O.dict []]).set 12 (.dict (setKV [] 3 (.loc h.length))))[h.length]? = some (.dict []) := get_set_ne get_last (by lia)
        refine puts_dict hlast (by decide) ?_
        wtm_at "sx"
        exact hq
      · refine ⟨hb, ⟨kv, get_set_ne (get_set_ne (get_app e11) (by decide)) (by lia), dk.len, fun i hi => by rw [up i hi]; exact dk.get i hi⟩, ?_⟩
        have h12 : (h ++ [O.dict []])[12]? = some (.dict []) := get_app m1
        refine ⟨get_set_ne (get_set_eq h12) (by lia), hl36, _, get_set_eq (get_set_ne get_last (by lia)), ?_⟩
        have d0 : DOk [] (fun _ => 2) (fun i => σ (3 + i)) := ⟨by decide, fun i hi => Or.inr ⟨rfl, m2 i hi⟩⟩
        rw [vv']
        exact d0.set hj up3
    | some l =>
      obtain ⟨m1, m2, kv3, m3, dk3⟩ := me
      wtm_at "sx"
      refine cmp_nmem (b := true) (by simp only [mem, m1]; rfl) ?_
      wtm_at "sx"
      refine sub_dict (l := [(3, .loc l)]) (by wtm_at "hp") (v := .loc l) rfl ?_
      wtm_at "sx"
      refine puts_dict m3 (by have := dk3.len; lia) ?_
      wtm_at "sx"
      have hq := q (h.set l (.dict (setKV kv3 j (vv 2 (put 2 (σ (3 + j)).fst lo w p) (put 2 (σ (3 + j)).snd lo w p'))))) (some l)
        ((Eff.refl (Sto.foot (some l)) h).set (Or.inl (by simp [Sto.foot])) _) (Or.inl rfl) ?_
      · rw [decide_eq_false e] at hq
        exact hq
      · refine ⟨hb, ⟨kv, get_set_ne e11 (by lia), dk.len, fun i hi => by rw [up i hi]; exact dk.get i hi⟩, ?_⟩
        refine ⟨get_set_ne m1 (by lia), m2, _, get_set_eq m3, ?_⟩
        rw [vv']
        exact dk3.set hj up3
end
end
section
/-! ### expressions, places, parts -/
inductive E where
  | const (w a b : Nat) | sig (j : Nat) | ext (w j : Nat) (s : Bool)
noncomputable def E.v : E → V
  | .const w a b => .tup [.str 0, .int w, .int a, .int b]
  | .sig j => .tup [.str 1, .int (wd j), .int j]
  | .ext w j s => .tup [.str 5, .int w, .tup [.str 1, .int (wd j), .int j], .bool s]
noncomputable def E.w : E → Nat
  | .const w _ _ => w
  | .sig j => wd j
  | .ext w _ _ => w
def E.ok : E → Prop
  | .const w a b => 1 ≤ w ∧ w ≤ 10 ∧ a < 2 ^ w ∧ b < 2 ^ w
  | .sig j => j < 3
  | .ext w j _ => 1 ≤ w ∧ w ≤ 10 ∧ j < 3
noncomputable def E.ev (σ : Nat → Pl) : E → Pl
  | .const _ a b => (a, b)
  | .sig j => σ j
  | .ext w j s => (extA (wd j) (σ j).1 w s, extA (wd j) (σ j).2 w s)
theorem E.w_ok {e : E} (h : e.ok) : 1 ≤ e.w ∧ e.w ≤ 10 := by
  cases e with
  | const w a b => exact ⟨h.1, h.2.1⟩
  | sig j => have := wd_le j; exact ⟨by show 1 ≤ wd j; lia, by show wd j ≤ 10; lia⟩
  | ext w j s => exact ⟨h.1, h.2.1⟩
theorem E.ev_bd {e : E} (h : e.ok) {σ : Nat → Pl} (b : ∀ j, (σ j).1 < 2 ^ wd j ∧ (σ j).2 < 2 ^ wd j) : (e.ev σ).1 < 2 ^ e.w ∧ (e.ev σ).2 < 2 ^ e.w := by
  cases e with
  | const w a b => exact ⟨h.2.2.1, h.2.2.2⟩
  | sig j => exact b j
  | ext w j s => exact ⟨ext_lt (b j).1, ext_lt (b j).2⟩
structure Env (h : H) (F d : Int) (σ : Nat → Pl) (M : Option Nat) (c : Nat) : Prop where
  fx : Fx h F d
  s : Sto h σ M
  hc : ∃ fr nw, h[c]? = some (.inst 4 [(0, .loc 10), (2, fr), (24, nw)])
theorem Env.app {h : H} {F d : Int} {σ : Nat → Pl} {M : Option Nat} {c : Nat} (e : Env h F d σ M c) (t : H) : Env (h ++ t) F d σ M c := by
  obtain ⟨fr, nw, hc⟩ := e.hc
  exact ⟨e.fx.eff ((Eff.refl [] h).app t) (by simp), e.s.eff ((Eff.refl [] h).app t) (by simp), fr, nw, get_app hc⟩
section
variable {n : Nat} {m : Loc} {h : H} {Q : V → H → Prop} {R : Fl → Loc → H → Prop}
theorem c_eval_sig {F d : Int} {σ : Nat → Pl} {M : Option Nat} {c j : Nat} (ev : Env h F d σ M c) (hj : j < 3) (q : Q (vv (wd j) (σ j).1 (σ j).2) h) : WC (n + 4) 18 [.tup [.str 1, .int (wd j), .int j], .loc c] h Q := by
  obtain ⟨fx, s, fr, nw, hc⟩ := ev
  have st := fx.st
  wtm_at "fn"
  exact c_get fx s hj q
theorem c_eval {F d : Int} {σ : Nat → Pl} {M : Option Nat} {c : Nat} {e : E} (ev : Env h F d σ M c) (he : e.ok) (q : Q (vv e.w (e.ev σ).1 (e.ev σ).2) h) : WC (n + 5) 18 [e.v, .loc c] h Q := by
  cases e with
  | const w a b =>
    show WC (n + 5) 18 [.tup [.str 0, .int w, .int a, .int b], .loc c] h Q
    wtm_at "fn"
    exact q
  | sig j => exact c_eval_sig ev he q
  | ext w j s =>
    show WC (n + 5) 18 [.tup [.str 5, .int w, .tup [.str 1, .int (wd j), .int j], .bool s], .loc c] h Q
    have wl := wd_le j
    wtm_at "fn"
    refine c_eval_sig ev he.2.2 ?_
    wtm_at "sx"
    refine c_extend (by lia) (by lia) (by have := he.2.1; lia) ?_
    wtm_at "sx"
    exact q
/-- the number of an expression -/
noncomputable def E.num (σ : Nat → Pl) (e : E) (s : Bool) : Option Int := toI e.w (e.ev σ).1 (e.ev σ).2 s
theorem c_whole {F d : Int} {σ : Nat → Pl} {M : Option Nat} {c : Nat} {e : E} {s : Bool} (ev : Env h F d σ M c) (he : e.ok) (q : Q (oV (e.num σ s)) h) : WC (n + 6) 17 [e.v, .bool s, .loc c] h Q := by
  have ew := E.w_ok he
  wtm_at "fn"
  refine c_eval ev he ?_
  wtm_at "sx"
  refine c_to_int ⟨by lia, by lia⟩ ?_
  wtm_at "sx"
  exact q
inductive Wh where
  | at (lo : Int) | pick (j : Nat) (s : Bool) (f st : Int)
noncomputable def Wh.v : Wh → V
  | .at lo => .tup [.str 14, .int lo]
  | .pick j s f st => .tup [.str 7, E.v (.sig j), .bool s, .int f, .int st]
def Wh.ok : Wh → Prop
  | .at _ => True
  | .pick j _ _ st => j < 3 ∧ (st = 1 ∨ st = -1)
noncomputable def Wh.lo (σ : Nat → Pl) : Wh → Option Int
  | .at lo => some lo
  | .pick j s f st => ((E.sig j).num σ s).map fun i => (i - f) * st
theorem oV_none_or (o : Option Int) : (o = none ∧ oV o = .non) ∨ ∃ i, o = some i ∧ oV o = .int i := by
  cases o with
  | none => exact Or.inl ⟨rfl, rfl⟩
  | some i => exact Or.inr ⟨i, rfl, rfl⟩
theorem c_locate {F d : Int} {σ : Nat → Pl} {M : Option Nat} {c : Nat} {wh : Wh} (ev : Env h F d σ M c) (hw : wh.ok) (q : Q (oV (wh.lo σ)) h) : WC (n + 7) 19 [wh.v, .loc c] h Q := by
  cases wh with
  | «at» lo =>
    show WC (n + 7) 19 [.tup [.str 14, .int lo], .loc c] h Q
    wtm_at "fn"
    exact q
  | pick j s f st =>
    show WC (n + 7) 19 [.tup [.str 7, E.v (.sig j), .bool s, .int f, .int st], .loc c] h Q
    wtm_at "fn"
    refine c_whole ev (e := .sig j) hw.1 ?_
    wtm_at "sx"
    rcases oV_none_or ((E.sig j).num σ s) with ⟨e1, e2⟩ | ⟨i, e1, e2⟩
    · rw [e2]
      wtm_at "sx"
      simpa [Wh.lo, e1, oV] using q
    · rw [e2]
      wtm_at "sx"
      refine bop_mul (Or.inr (by rcases hw.2 with rfl | rfl <;> decide)) ?_
      wtm_at "sx"
      simpa [Wh.lo, e1, oV] using q
/-- a part of a target -/
structure Part where
  w : Nat
  j : Nat
  wo : Option (E × Bool)
  wh : Wh
noncomputable def woV : Option (E × Bool) → V
  | none => .non
  | some (e, s) => .tup [e.v, .bool s]
noncomputable def Part.v (p : Part) : V := .tup [.str 1, .int p.w, .int p.j, woV p.wo, p.wh.v]
structure Part.ok (p : Part) : Prop where
  w1 : 1 ≤ p.w
  w2 : p.w ≤ 4
  j4 : p.j < 4
  wo : (p.wo = none ∧ p.j < 3) ∨ ∃ e s, p.wo = some (e, s) ∧ p.j = 3 ∧ e.ok
  wh : p.wh.ok
theorem c_holder {F d : Int} {σ : Nat → Pl} {M : Option Nat} {c : Nat} {p : Part} (ev : Env h F d σ M c) (hp : p.ok) (q : Q (.int (wd p.j)) h) : WC (n + 1) 20 [p.v, .loc c] h Q := by
  obtain ⟨⟨dd, nm, s0, s1, s2, s3, sg, st⟩, s, fr, nw, hc⟩ := ev
  have j4 := hp.j4
  obtain ⟨w, j, wo, wh⟩ := p
  show WC (n + 1) 20 [.tup [.str 1, .int w, .int j, woV wo, wh.v], .loc c] h Q
  have hj : j = 0 ∨ j = 1 ∨ j = 2 ∨ j = 3 := by have : j < 4 := j4; lia
  rcases hj with rfl | rfl | rfl | rfl
  · wtm_at "fn"; exact q
  · wtm_at "fn"; exact q
  · wtm_at "fn"; exact q
  · wtm_at "fn"; exact q
/-- a row: the word (0..2 variables, 3..5 words of the memory), the place of its first bit, the width, the place in the value -/
structure Row where
  wi : Nat
  lo : Int
  w : Nat
  t : Nat
noncomputable def keyOf (wi : Nat) : Nat := if wi < 3 then wi else 3
noncomputable def placeV (wi : Nat) : V := if wi < 3 then .non else .int (wi - 3 : Nat)
noncomputable def Row.v (r : Row) : V := .tup [.str 1, .int (keyOf r.wi), placeV r.wi, .int r.lo, .int r.w, .int r.t]
structure Row.ok (r : Row) (W : Nat) : Prop where
  wi : r.wi < 6
  l1 : 0 < r.lo + r.w
  l2 : r.lo < wd r.wi
  w1 : 1 ≤ r.w
  w2 : r.w ≤ 4
  t : r.t + r.w ≤ W
/-- the word that a part names -/
noncomputable def Part.wi (F d : Int) (σ : Nat → Pl) (p : Part) : Option Nat := match p.wo with
  | none => some p.j
  | some (e, s) => match e.num σ s with
    | none => none
    | some i => if plc F d i < 0 then none else some (3 + (plc F d i).toNat)
noncomputable def Part.row (F d : Int) (σ : Nat → Pl) (p : Part) (t : Nat) : Option Row := match p.wi F d σ with
  | none => none
  | some wi => match p.wh.lo σ with
    | none => none
    | some lo => if lo + p.w ≤ 0 ∨ lo ≥ wd p.j then none else some ⟨wi, lo, p.w, t⟩
noncomputable def rowsOf (F d : Int) (σ : Nat → Pl) : Nat → List Part → List Row
  | _, [] => []
  | t, p :: r => (p.row F d σ (t - p.w)).toList ++ rowsOf F d σ (t - p.w) r
noncomputable def sumW : List Part → Nat
  | [] => 0
  | p :: r => p.w + sumW r
theorem plc_range (F d i : Int) : plc F d i = -1 ∨ (0 ≤ plc F d i ∧ plc F d i < 3) := by
  unfold plc; split
  · exact Or.inl rfl
  · right; lia
theorem wi_lt {F d : Int} {σ : Nat → Pl} {p : Part} (hp : p.ok) {wi : Nat} (e : p.wi F d σ = some wi) : wi < 6 ∧ keyOf wi = p.j ∧ wd wi = wd p.j := by
  unfold Part.wi at e
  rcases hp.wo with ⟨h1, h2⟩ | ⟨x, s, h1, h2, h3⟩
  · rw [h1] at e; cases e
    exact ⟨by lia, by unfold keyOf; rw [if_pos h2], rfl⟩
  · rw [h1] at e
    simp only at e
    split at e
    · cases e
    · rename_i i _
      split at e
      · cases e
      · cases e
        have := plc_range F d i
        rw [h2]
        refine ⟨by lia, by unfold keyOf; rw [if_neg (by lia)], ?_⟩
        have hk : (plc F d i).toNat = 0 ∨ (plc F d i).toNat = 1 ∨ (plc F d i).toNat = 2 := by lia
        rcases hk with q | q | q <;> rw [q] <;> rfl
theorem row_ok {F d : Int} {σ : Nat → Pl} {p : Part} (hp : p.ok) {t W : Nat} (ht : t + p.w ≤ W) {r : Row} (e : p.row F d σ t = some r) : r.ok W := by
  unfold Part.row at e
  split at e
  · cases e
  · rename_i wi ew
    split at e
    · cases e
    · rename_i lo el
      split at e
      · cases e
      · rename_i hc
        cases e
        have k := wi_lt hp ew
        exact ⟨k.1, by show 0 < lo + (p.w : Int); lia, by show lo < (wd wi : Int); rw [k.2.2]; lia, hp.w1, hp.w2, ht⟩
theorem rows_ok {F d : Int} {σ : Nat → Pl} {W : Nat} : ∀ (ps : List Part) (t : Nat), (∀ p ∈ ps, p.ok) → sumW ps ≤ t → t ≤ W → ∀ r ∈ rowsOf F d σ t ps, r.ok W := by
  intro ps
  induction ps with
  | nil =>
    intro _  _  _  _  r  hr
    exact by cases hr
  | cons p ps IH =>
    intro t  hp  hs  hW  r  hr
    have hs2 : p.w + sumW ps ≤ t := hs
    rw [rowsOf, List.mem_append] at hr
    rcases hr with hr | hr
    · exact row_ok (hp p (List.mem_cons_self ..)) (by lia) (Option.mem_toList.mp hr)
    · exact IH (t - p.w) (fun q hq => hp q (List.mem_cons_of_mem _ hq)) (by lia) (by lia) r hr
theorem rows_len {F d : Int} {σ : Nat → Pl} : ∀ (ps : List Part) (t : Nat), (rowsOf F d σ t ps).length ≤ ps.length
  | [], _ => Nat.le_refl _
  | p :: ps, t => by
    rw [rowsOf, List.length_append, List.length_cons]
    have := rows_len (F := F) (d := d) (σ := σ) ps (t - p.w)
    have h2 : (p.row F d σ (t - p.w)).toList.length ≤ 1 := by cases p.row F d σ (t - p.w) <;> simp
    lia
end
end
section
/-! ### the rows of a target -/
structure Lv where
  W : Nat
  ps : List Part
noncomputable def Lv.v (l : Lv) : V := .tup [.str 26, .int l.W, .tup (l.ps.map Part.v)]
structure Lv.ok (l : Lv) : Prop where
  ps : ∀ p ∈ l.ps, p.ok
  W : sumW l.ps = l.W
  n : l.ps.length ≤ 2
  W2 : l.W ≤ 10
noncomputable def Lv.rows (F d : Int) (σ : Nat → Pl) (l : Lv) : List Row := rowsOf F d σ l.W l.ps
noncomputable def forB : S → List S
  | .for _ _ b => b
  | _ => []
noncomputable def resolveB : List S := forB (f_resolve_target_b.getD 2 .bad)
section
variable {n : Nat} {m : Loc} {h : H} {Q : V → H → Prop} {R : Fl → Loc → H → Prop}
theorem set_last {o o' : O} : (h ++ [o]).set h.length o' = h ++ [o'] := by
  rw [List.set_append_right _ _ (Nat.le_refl _), Nat.sub_self, List.set_cons_zero]
theorem bop_subN {a b : Nat} {Q : Int → Prop} (g : b ≤ a) (q : Q ((a - b : Nat) : Int)) : Bop .sub (a : Int) (b : Int) Q := bop_sub (Int.ofNat_sub g ▸ q)
theorem oV_el {o : Option Int} (q0 : o = none → Q .non h) (q1 : ∀ i, o = some i → Q (.int i) h) : Q (oV o) h := by
  rcases oV_none_or o with ⟨e, e2⟩ | ⟨i, e, e2⟩
  · rw [e2]; exact q0 e
  · rw [e2]; exact q1 i e
theorem row_lo {F d : Int} {σ : Nat → Pl} {p : Part} {t wi : Nat} (e : p.wi F d σ = some wi) (e1 : p.wh.lo σ = none) : p.row F d σ t = none := by
  unfold Part.row; rw [e, e1]
theorem row_out {F d : Int} {σ : Nat → Pl} {p : Part} {t wi : Nat} {lo : Int} (e : p.wi F d σ = some wi) (e1 : p.wh.lo σ = some lo) (c : lo + p.w ≤ 0 ∨ lo ≥ wd p.j) : p.row F d σ t = none := by
  unfold Part.row; rw [e, e1]; exact if_pos c
theorem row_wi {F d : Int} {σ : Nat → Pl} {p : Part} {t : Nat} (e : p.wi F d σ = none) : p.row F d σ t = none := by
  unfold Part.row; rw [e]
theorem wi_no {F d : Int} {σ : Nat → Pl} {w j : Nat} {e : E} {s : Bool} {wh : Wh} (e1 : e.num σ s = none) : (Part.mk w j (some (e, s)) wh).wi F d σ = none := by
  unfold Part.wi; simp only [e1]
theorem wi_neg {F d i : Int} {σ : Nat → Pl} {w j : Nat} {e : E} {s : Bool} {wh : Wh} (e1 : e.num σ s = some i) (c : plc F d i < 0) : (Part.mk w j (some (e, s)) wh).wi F d σ = none := by
  unfold Part.wi; simp only [e1, if_pos c]
theorem frz_last {xs : List V} (q : Q (.lst xs) (h ++ [.dead])) : kFrz1 Q (h ++ [.list xs]) h.length := ⟨xs, get_last, by rw [set_last]; exact q⟩
theorem resolve_loop {F d : Int} {σ : Nat → Pl} {M : Option Nat} {c : Nat} {lv : V} (ev : Env h F d σ M c) : ∀ (ps : List Part) (t : Nat) (acc : List Row) (x4 x5 x6 x7 x8 x9 x10 x11 x12 : Option V), (∀ p ∈ ps, p.ok) → sumW ps ≤ t → acc.length + ps.length ≤ 100 →
    (∀ x4 x5 x6 x7 x8 x9 x10 x11 x12 t', R .next [some lv, some (.loc c), some (.loc h.length), some (.int t'), x4, x5, x6, x7, x8, x9, x10, x11, x12] (h ++ [.list ((acc ++ rowsOf F d σ t ps).map Row.v)])) →
    WF (n + 7) (.name 4) resolveB (ps.map Part.v) [some lv, some (.loc c), some (.loc h.length), some (.int t), x4, x5, x6, x7, x8, x9, x10, x11, x12] (h ++ [.list (acc.map Row.v)]) R := by
  intro ps
  induction ps with
  | nil =>
    intro t acc x4 x5 x6 x7 x8 x9 x10 x11 x12 _ _ _ q
    refine wf_nil ?_
    have := q x4 x5 x6 x7 x8 x9 x10 x11 x12 t
    rw [rowsOf, List.append_nil] at this
    exact this
  | cons p ps IH =>
    intro t acc x4 x5 x6 x7 x8 x9 x10 x11 x12 hp hs hl q
    have hp0 := hp p (List.mem_cons_self ..)
    have hs2 : p.w + sumW ps ≤ t := hs
    have hl2 : acc.length + (ps.length + 1) ≤ 100 := hl
    have ih := fun acc2 (hl2x : acc2.length + ps.length ≤ 100) y4 y5 y6 y7 y8 y9 y10 y11 y12 q2 => IH (t - p.w) acc2 y4 y5 y6 y7 y8 y9 y10 y11 y12 (fun x hx => hp x (List.mem_cons_of_mem _ hx)) (by lia) hl2x q2
    have skip : p.row F d σ (t - p.w) = none → ∀ x4 x5 x6 x7 x8 x9 x10 x11 x12 t', R .next [some lv, some (.loc c), some (.loc h.length), some (.int t'), x4, x5, x6, x7, x8, x9, x10, x11, x12] (h ++ [.list ((acc ++ rowsOf F d σ (t - p.w) ps).map Row.v)]) := fun e => by
      rw [rowsOf, e] at q; exact q
    have ev1 := ev.app [.list (acc.map Row.v)]
    have ev0 := ev1
    obtain ⟨fx1, s1, fr, nw, hc⟩ := ev0
    have fx0 := fx1
    obtain ⟨dd, nm, g0, g1, g2, g3, sg, st⟩ := fx1
    obtain ⟨w, j, wo, wh⟩ := p
    dsimp only at hs2 ih skip
    rw [List.map_cons]
    refine wf_cons ?_
    show WT _ _ (.tup [.str 1, .int w, .int j, woV wo, wh.v]) _ _ _
    wtm_at "sx"
    refine w1_aug rfl (fun z => by simp only [List.set_cons_zero, List.set_cons_succ] <;> rfl) ?_
    iterate 2 wtm_at "s1"
    refine bop_subN (by lia) ?_
    wtm_at "sx"
    -- from the place of the bit on
    have tail : ∀ wi, (Part.mk w j wo wh).wi F d σ = some wi → ∀ x11, WS (n + 7) (resolveB.drop 4)
        [some lv, some (.loc c), some (.loc h.length), some (.int ((t - w : Nat) : Int)), some (.tup [.str 1, .int w, .int j, woV wo, wh.v]), some (.str 1), some (.int w), some (.int j), some (woV wo), some wh.v, some (placeV wi), x11, x12] (h ++ [.list (acc.map Row.v)])
        (kF (fun m h1 => WF (n + 7) (.name 4) resolveB (ps.map Part.v) m h1 R) R) := by
      intro wi ewi x11
      have wk := wi_lt hp0 ewi
      wtm_at "sx"
      refine c_locate ev1 hp0.wh (oV_el (fun e1 => ?_) (fun lo e1 => ?_))
      · wtm_at "sx"
        exact ih acc (by lia) _ _ _ _ _ _ _ _ _ (skip (row_lo ewi e1))
      · wtm_at "sx"
        by_cases c1 : lo + w ≤ 0
        · refine br_t (decide_eq_true c1) ?_
          wtm_at "sx"
          exact ih acc (by lia) _ _ _ _ _ _ _ _ _ (skip (row_out ewi e1 (Or.inl c1)))
        · refine br_f (decide_eq_false c1) ?_
          wtm_at "sx"
          refine c_holder (p := ⟨w, j, wo, wh⟩) ev1 hp0 ?_
          wtm_at "sx"
          by_cases c2 : lo ≥ wd j
          · refine br_t (decide_eq_true c2) ?_
            wtm_at "sx"
            exact ih acc (by lia) _ _ _ _ _ _ _ _ _ (skip (row_out ewi e1 (Or.inr c2)))
          · refine br_f (decide_eq_false c2) ?_
            wtm_at "sx"
            refine wm_append get_last (by rw [List.length_map]; lia) ?_
            wtm_at "sx"
            rw [set_last]
            have er : (Part.mk w j wo wh).row F d σ (t - w) = some ⟨wi, lo, w, t - w⟩ := by
              unfold Part.row; rw [ewi]; simp only [e1]; exact if_neg (by rintro (a | a); exact c1 a; exact c2 a)
            have hk : keyOf wi = j := wk.2.1
            have ev' : [V.tup [.str 1, .int j, placeV wi, .int lo, .int w, .int ((t - w : Nat) : Int)]] = [Row.mk wi lo w (t - w)].map Row.v := by
              simp only [List.map_cons, List.map_nil, Row.v, hk]
            rw [ev', ← List.map_append]
            refine ih (acc ++ [⟨wi, lo, w, t - w⟩]) (by rw [List.length_append]; show acc.length + 1 + _ ≤ _; lia) _ _ _ _ _ _ _ _ _ ?_
            rw [rowsOf] at q
            dsimp only at q
            rw [er] at q
            intro a b c d e f g h i j
            have := q a b c d e f g h i j
            rw [Option.toList_some, ← List.append_assoc] at this
            exact this
    rcases hp0.wo with ⟨ewo, hj3⟩ | ⟨e, s, ewo, hj3, he⟩
    · dsimp only at ewo hj3
      subst ewo
      have := tail j rfl x11
      rw [show placeV j = .non by unfold placeV; rw [if_pos hj3]] at this
      refine cmp_isnt_n ?_
      refine tru_b ?_
      refine br_false ?_
      refine ws_nil ?_
      exact this
    · dsimp only at ewo hj3
      subst ewo hj3
      show Cmp .isnt (.tup [e.v, .bool s]) _ _ _
      wtm_at "sx"
      refine c_whole ev1 he (oV_el (fun e1 => ?_) (fun i e1 => ?_))
      · wtm_at "sx"
        exact ih acc (by lia) _ _ _ _ _ _ _ _ _ (skip (row_wi (wi_no e1)))
      · wtm_at "sx"
        refine c_place fx0 ?_
        wtm_at "sx"
        have pr := plc_range F d i
        by_cases c1 : plc F d i < 0
        · refine br_t (decide_eq_true c1) ?_
          wtm_at "sx"
          exact ih acc (by lia) _ _ _ _ _ _ _ _ _ (skip (row_wi (wi_neg e1 c1)))
        · have := tail (3 + (plc F d i).toNat) (by unfold Part.wi; simp only [e1, if_neg c1]) (some (.int i))
          rw [show placeV (3 + (plc F d i).toNat) = .int (plc F d i) by
            unfold placeV; rw [if_neg (by lia)]; congr 1; lia] at this
          refine br_f (decide_eq_false c1) ?_
          refine ws_nil ?_
          refine kS_next ?_
          refine ws_nil ?_
          exact this
theorem c_resolve {F d : Int} {σ : Nat → Pl} {M : Option Nat} {c : Nat} {lv : Lv} (ev : Env h F d σ M c) (hl : lv.ok) (q : Q (.lst ((lv.rows F d σ).map Row.v)) (h ++ [.dead])) : WC (n + 8) 21 [lv.v, .loc c] h Q := by
  show WC (n + 8) 21 [.tup [.str 26, .int lv.W, .tup (lv.ps.map Part.v)], .loc c] h Q
  wtm_at "fn"
  refine ⟨_, rfl, ?_⟩
  refine resolve_loop ev lv.ps lv.W [] none none none none none none none none none hl.ps (by rw [hl.W]; exact Nat.le_refl _) (by have := hl.n; simp; lia) ?_
  intro x4 x5 x6 x7 x8 x9 x10 x11 x12 t'
  wtm_at "sx"
  refine ⟨_, get_last, ?_⟩
  wtm_at "sx"
  rw [set_last, List.nil_append]
  exact q
end
end
section
/-! ### to write the rows -/
noncomputable def addK (ks : List Int) (k : Int) : List Int := if k ∈ ks then ks else ks ++ [k]
noncomputable def piece (v : Pl) (r : Row) : Pl := ((v.1 >>> r.t) &&& mk r.w, (v.2 >>> r.t) &&& mk r.w)
noncomputable def newW (v : Pl) (σ : Nat → Pl) (r : Row) : Pl := wr r.wi r.lo r.w (σ r.wi) (piece v r)
structure SK where
  σ : Nat → Pl
  ks : List Int
noncomputable def stepRow (v : Pl) (s : SK) (r : Row) : SK := ⟨upd s.σ r.wi (newW v s.σ r), if newW v s.σ r = s.σ r.wi then s.ks else addK s.ks (keyOf r.wi)⟩
noncomputable def stepRows (v : Pl) (s : SK) (rs : List Row) : SK := rs.foldl (stepRow v) s
noncomputable def chV (ks : List Int) : List (Int × V) := ks.map fun k => (k, .bool true)
theorem chV_get (ks : List Int) (k : Int) : (getKV (chV ks) k).isSome = decide (k ∈ ks) := by
  rw [← any_getKV]
  unfold chV
  rw [List.any_map]
  induction ks with
  | nil => rfl
  | cons a r ih =>
    rw [List.any_cons, ih]
    by_cases e : a = k
    · subst e; simp
    · have : ¬ k = a := fun q => e q.symm
      simp [e, this]
theorem chV_map (ks : List Int) (k : Int) : (chV ks).map (fun p => if p.1 = k then (p.1, V.bool true) else p) = chV ks := by
  induction ks with
  | nil => rfl
  | cons a r ih =>
    show (if a = k then (a, V.bool true) else (a, .bool true)) :: (chV r).map _ = _
    rw [ih]; split <;> rfl
theorem chV_set (ks : List Int) (k : Int) : setKV (chV ks) k (.bool true) = chV (addK ks k) := by
  unfold setKV addK
  rw [any_getKV, chV_get]
  by_cases e : k ∈ ks
  · rw [decide_eq_true e, if_pos rfl, if_pos e, chV_map]
  · rw [decide_eq_false e, if_neg (by decide), if_neg e]
    unfold chV
    rw [List.map_append]; rfl
theorem chV_keys (ks : List Int) : (chV ks).map (·.1) = ks := by
  unfold chV; rw [List.map_map]
  conv => rhs; rw [← List.map_id ks]
  rfl
theorem addK_len (ks : List Int) (k : Int) : (addK ks k).length ≤ ks.length + 1 := by
  unfold addK; split
  · lia
  · rw [List.length_append]; exact Nat.le_refl _
def MNew (h : H) (M M' : Option Nat) : Prop := M' = M ∨ ∃ l, M' = some l ∧ h.length ≤ l
theorem foot_new {h : H} {M M' : Option Nat} (e : MNew h M M') : ∀ n, n ∈ Sto.foot M' → n ∈ Sto.foot M ∨ h.length ≤ n := by
  intro n hn
  rcases e with rfl | ⟨l, rfl, hl⟩
  · exact Or.inl hn
  · unfold Sto.foot at hn ⊢
    simp only [Option.toList_some, List.mem_cons, List.not_mem_nil, or_false] at hn
    rcases hn with rfl | rfl | rfl
    · exact Or.inl (List.mem_cons_self ..)
    · exact Or.inl (List.mem_cons_of_mem _ (List.mem_cons_self ..))
    · exact Or.inr hl
theorem MNew.trans {h h1 : H} {M M1 M2 : Option Nat} (hl : h.length ≤ h1.length) (a : MNew h M M1) (b : MNew h1 M1 M2) : MNew h M M2 := by
  rcases b with rfl | ⟨l, rfl, q⟩
  · exact a
  · exact Or.inr ⟨l, rfl, Nat.le_trans hl q⟩
theorem get_lt {h : H} {l : Nat} {o : O} (e : h[l]? = some o) : l < h.length := (List.getElem?_eq_some_iff.mp e).1
/-- the place of a stored dict lies within the heap and holds a dict -/
theorem Sto.foot_dict {h : H} {σ : Nat → Pl} {M : Option Nat} (s : Sto h σ M) : ∀ n ∈ Sto.foot M, ∃ kv, h[n]? = some (.dict kv) := by
  intro n hn
  obtain ⟨kv, e11, _⟩ := s.va
  have me := s.me
  unfold Sto.foot at hn
  simp only [List.mem_cons] at hn
  rcases hn with rfl | rfl | hn
  · exact ⟨_, e11⟩
  · cases M with
    | none => exact ⟨_, me.1⟩
    | some l => exact ⟨_, me.1⟩
  · cases M with
    | none => cases hn
    | some l =>
      simp only [Option.toList_some, List.mem_singleton] at hn
      subst hn
      obtain ⟨_, _, kv, e, _⟩ := me
      exact ⟨_, e⟩
theorem not_foot {h : H} {σ : Nat → Pl} {M : Option Nat} (s : Sto h σ M) {n : Nat} {o : O} (e : h[n]? = some o) (ho : ∀ kv, o ≠ .dict kv) : n ∉ Sto.foot M := fun hn => by
  obtain ⟨kv, e2⟩ := s.foot_dict n hn
  rw [e] at e2; cases e2; exact ho _ rfl
theorem Fx.foot {h h' : H} {F d : Int} {M : Option Nat} {σ : Nat → Pl} (f : Fx h F d) (s : Sto h σ M) (e : Eff (Sto.foot M) h h') : Fx h' F d := by
  refine f.eff e fun n hn => ?_
  unfold Sto.foot at hn
  simp only [List.mem_cons] at hn
  rcases hn with rfl | rfl | hn
  · decide
  · decide
  · cases M with
    | none => cases hn
    | some l =>
      simp only [Option.toList_some, List.mem_singleton] at hn
      subst hn
      have := s.me.2.1; lia
theorem Env.foot {h h' : H} {F d : Int} {σ σ' : Nat → Pl} {M M' : Option Nat} {c : Nat} (ev : Env h F d σ M c) (e : Eff (Sto.foot M) h h') (s' : Sto h' σ' M') : Env h' F d σ' M' c := by
  obtain ⟨fr, nw, hc⟩ := ev.hc
  exact ⟨ev.fx.foot ev.s e, s', fr, nw, e.eq _ _ (not_foot ev.s hc (fun _ q => by cases q)) hc⟩
noncomputable def storeB : List S := forB (f_store_rows_b.getD 1 .bad)
section
variable {n : Nat} {m : Loc} {h : H} {Q : V → H → Prop} {R : Fl → Loc → H → Prop}
/-- a write of a row by set_bits -/
theorem c_set_row {F d : Int} {σ : Nat → Pl} {M : Option Nat} {W : Nat} {r : Row} {v : Pl} (fx : Fx h F d) (s : Sto h σ M) (hl36 : 36 ≤ h.length) (hr : r.ok W)
    (q : ∀ h' M', Eff (Sto.foot M) h h' → MNew h M M' → Sto h' (upd σ r.wi (newW v σ r)) M' → Q (.bool (!decide (newW v σ r = σ r.wi))) h') :
    WC (n + 4) 58 [.loc 10, .int (keyOf r.wi), placeV r.wi, .int r.lo, vv r.w (piece v r).1 (piece v r).2] h Q := by
  have w4 := hr.w2
  by_cases hk : r.wi < 3
  · rw [show placeV r.wi = .non by unfold placeV; rw [if_pos hk], show keyOf r.wi = r.wi by unfold keyOf; rw [if_pos hk]]
    refine c_set_key fx s hk hr.l1 hr.l2 (by have := hr.w1; lia) (by lia) ?_
    intro h' e _ s'
    refine q h' M (e.sub (fun n hn => ?_)) (Or.inl rfl) s'
    rw [List.mem_singleton] at hn; subst hn; exact List.mem_cons_self ..
  · have h6 := hr.wi
    have e3 : r.wi = 3 + (r.wi - 3) := by lia
    rw [show placeV r.wi = .int (r.wi - 3 : Nat) by unfold placeV; rw [if_neg hk], show keyOf r.wi = 3 by unfold keyOf; rw [if_neg hk]]
    have w2 : wd r.wi = 2 := by
      have : r.wi = 3 ∨ r.wi = 4 ∨ r.wi = 5 := by lia
      rcases this with q | q | q <;> rw [q] <;> rfl
    have l2 := hr.l2
    rw [w2] at l2
    refine c_set_mem fx s hl36 (by lia) hr.l1 l2 (by have := hr.w1; lia) (by lia) ?_
    intro h' M' e mn s'
    rw [← e3] at s' ⊢
    exact q h' M' e mn s'
theorem store_loop {F d : Int} {c W : Nat} {x0 : V} {v : Pl} {M : Option Nat} (hW : W ≤ 10) (hc36 : 36 ≤ h.length) : ∀ (rs : List Row) (s : SK) (h1 : H) (M1 : Option Nat) (x4 x5 x6 x7 x8 x9 x10 : Option V), (∀ r ∈ rs, r.ok W) → s.ks.length + rs.length ≤ 60 →
    Env h1 F d s.σ M1 c → h1[h.length]? = some (.dict (chV s.ks)) → Eff (Sto.foot M) h h1 → (M1 = M ∨ ∃ l, M1 = some l ∧ h.length < l) → (∀ n ∈ Sto.foot M, n < h.length) →
    (∀ h' M' x4 x5 x6 x7 x8 x9 x10, Eff (Sto.foot M) h h' → MNew h M M' → Sto h' (stepRows v s rs).σ M' → h'[h.length]? = some (.dict (chV (stepRows v s rs).ks)) → (stepRows v s rs).ks.length ≤ 60 → R .next [some x0, some (vv W v.1 v.2), some (.loc c), some (.loc h.length), x4, x5, x6, x7, x8, x9, x10] h') →
    WF (n + 4) (.names [4, 5, 6, 7, 8, 9]) storeB (rs.map Row.v) [some x0, some (vv W v.1 v.2), some (.loc c), some (.loc h.length), x4, x5, x6, x7, x8, x9, x10] h1 R := by
  intro rs
  induction rs with
  | nil =>
    intro s  h1  M1  x4  x5  x6  x7  x8  x9  x10  _  hl  ev  hd  ef  hM  _  q
    refine wf_nil (q h1 M1 _ _ _ _ _ _ _ ef (hM.imp id fun ⟨l, a, b⟩ => ⟨l, a, Nat.le_of_lt b⟩) ev.s hd ?_)
    have : s.ks.length + 0 ≤ 60 := hl
    exact this
  | cons r rs IH =>
    intro s  h1  M1  x4  x5  x6  x7  x8  x9  x10  hr  hl  ev  hd  ef  hM  hfl  q
    have hr0 := hr r (List.mem_cons_self ..)
    have hl2 : s.ks.length + (rs.length + 1) ≤ 60 := hl
    have w4 := hr0.w2
    have w1 := hr0.w1
    have tW := hr0.t
    obtain ⟨fx1, s1, fr, nw, hc⟩ := id ev
    have st := fx1.st
    rw [List.map_cons]
    refine wf_cons ?_
    show WT _ _ (.tup [.str 1, .int (keyOf r.wi), placeV r.wi, .int r.lo, .int r.w, .int r.t]) _ _ _
    wtm_at "sx"
    refine c_slice w1 tW (by lia) ?_
    wtm_at "sx"
    refine c_set_row (r := r) (v := v) fx1 s1 (Nat.le_trans hc36 ef.len) hr0 ?_
    intro h2 M2 e2 mn2 s2
    have nf : h.length ∉ Sto.foot M1 := by
      intro hn
      rcases hM with rfl | ⟨l, rfl, hl⟩
      · have := hfl _ hn; lia
      · unfold Sto.foot at hn
        simp only [Option.toList_some, List.mem_cons, List.not_mem_nil, or_false] at hn
        lia
    have hlt : h.length < h1.length := get_lt hd
    have hd2 := e2.eq _ _ nf hd
    have ev2 := ev.foot e2 s2
    have ef2 : Eff (Sto.foot M) h h2 := ef.transN e2 (foot_new (hM.imp id fun ⟨l, a, b⟩ => ⟨l, a, Nat.le_of_lt b⟩))
    have hM2 : M2 = M ∨ ∃ l, M2 = some l ∧ h.length < l := by
      rcases mn2 with rfl | ⟨l, rfl, ql⟩
      · exact hM
      · exact Or.inr ⟨l, rfl, by lia⟩
    by_cases e : newW v s.σ r = s.σ r.wi
    · rw [decide_eq_true e]
      wtm_at "sx"
      refine IH ⟨upd s.σ r.wi (newW v s.σ r), s.ks⟩ h2 M2 _ _ _ _ _ _ _ (fun x hx => hr x (List.mem_cons_of_mem _ hx)) (by show s.ks.length + _ ≤ _; lia) ev2 hd2 ef2 hM2 hfl ?_
      have : stepRow v s r = ⟨upd s.σ r.wi (newW v s.σ r), s.ks⟩ := by unfold stepRow; rw [if_pos e]
      rw [← this]
      exact q
    · rw [decide_eq_false e]
      wtm_at "sx"
      refine puts_dict hd2 (by unfold chV; rw [List.length_map]; lia) ?_
      wtm_at "sx"
      rw [chV_set]
      have nf2 : h.length ∉ Sto.foot M2 := by
        intro hn
        rcases hM2 with rfl | ⟨l, rfl, hl⟩
        · have := hfl _ hn; lia
        · unfold Sto.foot at hn
          simp only [Option.toList_some, List.mem_cons, List.not_mem_nil, or_false] at hn
          lia
      have e3 : Eff [h.length] h2 (h2.set h.length (.dict (chV (addK s.ks (keyOf r.wi))))) := (Eff.refl _ _).set (Or.inl (List.mem_singleton.mpr rfl)) _
      have ev3 : Env (h2.set h.length (.dict (chV (addK s.ks (keyOf r.wi))))) F d (upd s.σ r.wi (newW v s.σ r)) M2 c := by
        obtain ⟨fr2, nw2, hc2⟩ := ev2.hc
        refine ⟨ev2.fx.eff e3 (fun n hn => ?_), ev2.s.eff e3 (fun n hn => ?_), fr2, nw2, get_set_ne hc2 (fun qe => ?_)⟩
        · rw [List.mem_singleton] at hn; lia
        · rw [List.mem_singleton] at hn; subst hn; exact nf2
        · rw [qe, hc2] at hd2; cases hd2
      refine IH ⟨upd s.σ r.wi (newW v s.σ r), addK s.ks (keyOf r.wi)⟩ _ M2 _ _ _ _ _ _ _ (fun x hx => hr x (List.mem_cons_of_mem _ hx)) (by have := addK_len s.ks (keyOf r.wi); show (addK s.ks (keyOf r.wi)).length + _ ≤ _; lia) ev3 (get_set_eq hd2) (ef2.set (Or.inr (Nat.le_refl _)) _) hM2 hfl ?_
      have : stepRow v s r = ⟨upd s.σ r.wi (newW v s.σ r), addK s.ks (keyOf r.wi)⟩ := by unfold stepRow; rw [if_neg e]
      rw [← this]
      exact q
theorem c_store_rows {F d : Int} {σ : Nat → Pl} {M : Option Nat} {c W : Nat} {v : Pl} {rs : List Row} (ev : Env h F d σ M c) (hl36 : 36 ≤ h.length) (hW : W ≤ 10) (hr : ∀ r ∈ rs, r.ok W) (hn : rs.length ≤ 50)
    (q : ∀ h' M', Eff (Sto.foot M) h h' → MNew h M M' → Sto h' (stepRows v ⟨σ, []⟩ rs).σ M' → Q (.lst ((sortInts (stepRows v ⟨σ, []⟩ rs).ks).map .int)) h') :
    WC (n + 5) 22 [.lst (rs.map Row.v), vv W v.1 v.2, .loc c] h Q := by
  have hfl : ∀ n ∈ Sto.foot M, n < h.length := fun n hn => by
    obtain ⟨kv, e⟩ := ev.s.foot_dict n hn
    exact get_lt e
  wtm_at "fn"
  refine ⟨_, rfl, ?_⟩
  refine store_loop (h := h) (M := M) hW hl36 rs ⟨σ, []⟩ (h ++ [.dict []]) M none none none none none none none hr (by simp; lia) (ev.app _) get_last ((Eff.refl _ _).app _) (Or.inl rfl) hfl ?_
  intro h' M' x4 x5 x6 x7 x8 x9 x10 e mn s' hd hk
  wtm_at "sx"
  refine wb_sortd hd (by unfold chV; rw [List.length_map]; lia) ?_
  wtm_at "sx"
  refine ⟨_, get_last, ?_⟩
  wtm_at "sx"
  rw [set_last, chV_keys]
  refine q _ M' (e.app _) mn (s'.eff ((Eff.refl [] h').app _) (by simp))
end
end
section
/-! ### the held bits -/
noncomputable def spotL : List Int := [0, 1, 2, 3, 100, 101, 102, 200, 201, 202, 300, 301, 310, 311, 320, 321]
noncomputable def heldOn (l : List Int) (f : Int → Int) : List (Int × V) := l.map fun s => (s, .int (f s))
noncomputable def heldKV (f : Int → Int) : List (Int × V) := heldOn spotL f
noncomputable def updI (f : Int → Int) (s v : Int) (x : Int) : Int := if x = s then v else f x
theorem heldOn_get (l : List Int) (f : Int → Int) (s : Int) (hs : s ∈ l) : getKV (heldOn l f) s = some (.int (f s)) := by
  induction l with
  | nil => cases hs
  | cons a r ih =>
    show getKV ((a, V.int (f a)) :: heldOn r f) s = _
    rw [getKV_cons]
    by_cases e : a = s
    · subst e; simp
    · rw [if_neg e]
      rcases List.mem_cons.mp hs with q | q
      · exact absurd q.symm e
      · exact ih q
theorem heldOn_map (l : List Int) (f : Int → Int) (s v : Int) : (heldOn l f).map (fun p => if p.1 = s then (p.1, V.int v) else p) = heldOn l (updI f s v) := by
  induction l with
  | nil => rfl
  | cons a r ih =>
    show (if a = s then (a, V.int v) else (a, V.int (f a))) :: (heldOn r f).map _ = (a, V.int (updI f s v a)) :: heldOn r (updI f s v)
    rw [ih]; unfold updI
    by_cases e : a = s <;> simp [e]
theorem heldKV_get (f : Int → Int) (s : Int) (hs : s ∈ spotL) : getKV (heldKV f) s = some (.int (f s)) := heldOn_get _ _ _ hs
theorem heldKV_set (f : Int → Int) (s v : Int) (hs : s ∈ spotL) : setKV (heldKV f) s (.int v) = heldKV (updI f s v) := by
  unfold setKV
  rw [any_getKV, heldKV_get f s hs]
  exact heldOn_map _ _ _ _
def Held (h : H) (f : Int → Int) : Prop := h[13]? = some (.dict (heldKV f))
/-- one code of two planes -/
noncomputable def cdI (x : Pl) (i : Nat) : Int := (((x.1.testBit i).toNat + 2 * (x.2.testBit i).toNat : Nat) : Int)
noncomputable def base (j : Nat) : Nat := if j < 3 then 100 * j else 300 + 10 * (j - 3)
def Agree (σ : Nat → Pl) (f : Int → Int) : Prop := ∀ j i, j < 6 → i < wd j → f ((base j + i : Nat) : Int) = cdI (σ j) i
theorem spot_mem {j i : Nat} (hj : j < 6) (hi : i < wd j) : ((base j + i : Nat) : Int) ∈ spotL := by
  exact (by decide : ∀ j < 6, ∀ i < 4, i < wd j → ((base j + i : Nat) : Int) ∈ spotL) j hj i (Nat.lt_of_lt_of_le hi (wd_le j).2) hi
theorem base_10 : ∀ j < 6, ∀ i < 4, ((base j + i : Nat) : Int).fmod 10 = (i : Int) := by decide
theorem base_100 : ∀ j < 3, ∀ i < 4, ((base j + i : Nat) : Int).fdiv 100 = (j : Int) := by decide
theorem base_300 : ∀ j < 6, 3 ≤ j → ∀ i < 4, ((base j + i : Nat) : Int).fdiv 100 = 3 ∧ (((base j + i : Nat) : Int).fdiv 10).fmod 10 = ((j - 3 : Nat) : Int) := by decide
theorem base_q : ∀ j < 6, ∀ a < 10, (base j + a) / 10 = base j / 10 ∧ (base j + a) % 10 = a := by decide
theorem base_qi : ∀ j < 6, ∀ j' < 6, base j / 10 = base j' / 10 → j = j' := by decide
noncomputable def codesOf (w : Nat) (x : Pl) : List Int := (List.range w).map (cdI x)
theorem codesOf_len (w : Nat) (x : Pl) : (codesOf w x).length = w := by unfold codesOf; simp
theorem codesOf_getE {w i : Nat} {x : Pl} (hi : i < (codesOf w x).length) : (codesOf w x)[i] = cdI x i := by
  rw [List.getElem_eq_iff]; unfold codesOf; rw [codesOf_len] at hi; simp [hi]
theorem codesOf_get {w i : Nat} {x : Pl} (hi : i < w) : (codesOf w x)[i]? = some (cdI x i) := by unfold codesOf; simp [hi]
section
variable {n : Nat} {m : Loc} {h : H} {Q : V → H → Prop} {R : Fl → Loc → H → Prop}
theorem rng_vals (w : Nat) : iterOf (.rng (w : Int)) = some ((List.range w).map fun (i : Nat) => V.int i) := by
  show some ((List.range (w : Int).toNat).map fun (i : Nat) => V.int i) = _
  rw [Int.toNat_natCast]
theorem comp_rng {elt it cnd : X} {v w : Nat} (p : Nat → Bool) (g : Nat → V) (hw : w < 1000) (hit : WX n it m h fun iv h1 => iv = .rng w ∧ h1 = h)
    (hc : ∀ i, i < w → ∀ acc, WX n cnd (m.set v (some (.int (i : Int)))) (h ++ [.list acc]) fun b h2 => h2 = h ++ [.list acc] ∧ truth b = some (p i))
    (he : ∀ i, i < w → p i = true → ∀ acc, WX n elt (m.set v (some (.int (i : Int)))) (h ++ [.list acc]) fun y h2 => h2 = h ++ [.list acc] ∧ y = g i)
    (q : Q (.loc h.length) (h ++ [.list (((List.range w).filter p).map g)])) : WX n (.comp elt v it cnd) m h Q := by
  refine wx_comp (hit.mono ?_)
  rintro _ _ ⟨rfl, rfl⟩
  refine ⟨_, Or.inl (rng_vals w), fun x => match x with | .int i => p i.toNat | _ => false, fun x => match x with | .int i => g i.toNat | _ => .non, by simp; lia, ?_, ?_, ?_⟩
  · intro x hx acc
    obtain ⟨i, hi, rfl⟩ := List.mem_map.mp hx
    simp only [Int.toNat_natCast]
    exact hc i (List.mem_range.mp hi) acc
  · intro x hx hp acc
    obtain ⟨i, hi, rfl⟩ := List.mem_map.mp hx
    simp only [Int.toNat_natCast] at hp ⊢
    exact he i (List.mem_range.mp hi) hp acc
  · have : ∀ l : List Nat, (List.map (fun x => match x with | V.int i => g i.toNat | _ => V.non) (List.filter (fun x => match x with | V.int i => p i.toNat | _ => false) (l.map fun (i : Nat) => V.int i))) = (l.filter p).map g := by
      intro l
      induction l with
      | nil => rfl
      | cons a r ih =>
        rw [List.map_cons, List.filter_cons, List.filter_cons]
        simp only [Int.toNat_natCast]
        by_cases hp : p a = true
        · rw [if_pos hp, if_pos hp, List.map_cons, ih]; simp
        · rw [if_neg hp, if_neg hp, ih]
    rw [this]; exact q
theorem fdiv_bit (a i : Nat) : (((a >>> i : Nat) : Int).fmod 2) = (((a.testBit i).toNat : Nat) : Int) := by
  rw [← bit_mod, Int.fmod_eq_emod_of_nonneg _ (by decide)]; rfl
theorem cdI_eq (x : Pl) (i : Nat) : (((x.1.testBit i).toNat : Nat) : Int) + 2 * (((x.2.testBit i).toNat : Nat) : Int) = cdI x i := by unfold cdI; simp
theorem all_true (l : List Nat) : l.filter (fun _ => true) = l := List.filter_eq_self.mpr fun _ _ => rfl
theorem codes_v (w : Nat) (x : Pl) : (List.range w).map (fun i => V.int (cdI x i)) = (codesOf w x).map .int := by unfold codesOf; rw [List.map_map]; rfl
theorem c_codes_const {w a b : Nat} {x1 : V} (hw : w ≤ 100) (q : ∀ h', Eff [] h h' → h'[h.length]? = some (.list ((codesOf w (a, b)).map .int)) → Q (.loc h.length) h') : WC (n + 1) 35 [.tup [.str 0, .int w, .int a, .int b], x1] h Q := by
  wtm_at "fn"
  refine comp_rng (w := w) (fun _ => true) (fun i => .int (cdI (a, b) i)) (by lia) ?_ ?_ ?_ ?_
  · wtm_at "sx"
    refine wb_range ⟨by lia, by lia⟩ ⟨rfl, rfl⟩
  · intro i hi acc
    wtm_at "sx"
    exact ⟨rfl, rfl⟩
  · intro i hi _ acc
    simp only [List.set_cons_zero, List.set_cons_succ]
    wtm_at "sx"
    refine ⟨rfl, ?_⟩
    rw [fdiv_bit, fdiv_bit]
    exact congrArg _ (cdI_eq (a, b) i)
  · rw [all_true, codes_v]
    wtm_at "sx"
    exact q _ ((Eff.refl _ _).app _) get_last
theorem c_codes_sig {f : Int → Int} {σ : Nat → Pl} {j : Nat} (hd : Held h f) (ha : Agree σ f) (hj : j < 3) (q : ∀ h', Eff [] h h' → h'[h.length]? = some (.list ((codesOf (wd j) (σ j)).map .int)) → Q (.loc h.length) h') : WC (n + 1) 35 [.tup [.str 1, .int (wd j), .int j], .loc 13] h Q := by
  have wl := wd_le j
  wtm_at "fn"
  refine comp_rng (w := wd j) (fun _ => true) (fun i => .int (cdI (σ j) i)) (by lia) ?_ ?_ ?_ ?_
  · wtm_at "sx"
    refine wb_range ⟨by lia, by lia⟩ ⟨rfl, rfl⟩
  · intro i hi acc
    wtm_at "sx"
    exact ⟨rfl, rfl⟩
  · intro i hi _ acc
    simp only [List.set_cons_zero, List.set_cons_succ]
    wtm_at "sx"
    have e : ((j : Int) * 100 + (i : Int)) = ((base j + i : Nat) : Int) := by unfold base; rw [if_pos hj]; lia
    rw [e]
    have hd2 : (h ++ [O.list acc])[13]? = some (.dict (heldKV f)) := get_app hd
    refine sub_dict hd2 (heldKV_get f _ (spot_mem (by lia) hi)) ?_
    rw [ha j i (by lia) hi]
    exact ⟨rfl, rfl⟩
  · rw [all_true, codes_v]
    wtm_at "sx"
    exact q _ ((Eff.refl _ _).app _) get_last
/-- the list of codes, widened -/
theorem codes_ext {w0 w : Nat} {x : Pl} {s : Bool} (h0 : 1 ≤ w0) (hx : x.1 < 2 ^ w0 ∧ x.2 < 2 ^ w0) : ((codesOf w0 x) ++ List.replicate (w - w0) (if s then cdI x (w0 - 1) else 0)).take w = codesOf w (extA w0 x.1 w s, extA w0 x.2 w s) := by
  apply List.ext_getElem
  · rw [List.length_take, List.length_append, codesOf_len, List.length_replicate, codesOf_len]; lia
  · intro i h1 h2
    rw [codesOf_len] at h2
    rw [List.getElem_take]
    rw [codesOf_getE]
    have e : cdI (extA w0 x.1 w s, extA w0 x.2 w s) i = if i < w0 then cdI x i else if s then cdI x (w0 - 1) else 0 := by
      unfold cdI
      simp only [tb_ext hx.1, tb_ext hx.2, decide_eq_true h2, Bool.true_and]
      by_cases hi : i < w0
      · simp [hi]
      · cases s <;> simp [hi]
    rw [e]
    by_cases hi : i < w0
    · rw [List.getElem_append_left (by rw [codesOf_len]; exact hi), if_pos hi, codesOf_getE]
    · rw [List.getElem_append_right (by rw [codesOf_len]; lia), if_neg hi, List.getElem_replicate]
noncomputable def codesW : List S := match f_law_codes_b.getD 3 .bad with
  | .whil _ b => b
  | _ => []
theorem ext_loop {w l : Nat} {e0 x1 x2 : Option V} {ev : V} {s : Bool} {y : Int} (he : e0 = some (.tup [.str 5, .int w, ev, .bool s])) : ∀ (k : Nat) (xs : List Int) (fu : Nat) (h1 : H), (0 < k → xs.length + k = w) → (k = 0 → w ≤ xs.length) → k < fu → xs ≠ [] → xs.length + k < 1000 → h1[l]? = some (.list (xs.map .int)) → (s = true → xs.getLast? = some y) → (s = false → y = 0) →
    (∀ h2, Eff [l] h1 h2 → h2[l]? = some (.list ((xs ++ List.replicate k y).map .int)) → R .next [e0, x1, x2, some (.loc l)] h2) →
    WW n fu (.cmp .lt (.call (.glob 0) [(.var 3)]) (.sub (.var 0) (.int 1))) codesW [e0, x1, x2, some (.loc l)] h1 R
  | 0, xs, fu + 1, h1, _, hk, _, _, _, hl, _, _, q => by
    subst he
    refine ww_step ?_
    wtm_at "sx"
    refine br_f (by rw [List.length_map]; simp only [decide_eq_false_iff_not]; have := hk rfl; lia) ?_
    exact q h1 (Eff.refl _ _) (by simpa using hl)
  | k + 1, xs, fu + 1, h1, hk, _, hf, hne, hlen, hl, hs, hs2, q => by
    subst he
    have hkw := hk (Nat.succ_pos _)
    refine ww_step ?_
    wtm_at "sx"
    refine br_t (by rw [List.length_map]; simp only [decide_eq_true_eq]; lia) ?_
    wtm_at "sx"
    have fin : WM n (.bi .append l true) [.int y] h1 fun v h2 => kS n [] (kF (fun m h => WW n fu (.cmp .lt (.call (.glob 0) [(.var 3)]) (.sub (.var 0) (.int 1))) codesW m h R) R) .next [some (.tup [.str 5, .int w, ev, .bool s]), x1, x2, some (.loc l)] h2 := by
      refine wm_append hl (by rw [List.length_map]; lia) ?_
      wtm_at "sx"
      refine ext_loop rfl k (xs ++ [y]) fu _ (fun _ => by rw [List.length_append]; show xs.length + 1 + k = w; lia) (fun h0 => by rw [List.length_append]; show w ≤ xs.length + 1; lia) (by lia) (by simp) (by rw [List.length_append]; show xs.length + 1 + k < 1000; lia) (by rw [get_set_eq hl, List.map_append]; rfl) (fun _ => by simp) hs2 ?_
      intro h2 e2 g2
      refine q h2 (Eff.trans ((Eff.refl [l] h1).set (Or.inl (List.mem_singleton.mpr rfl)) _) e2) ?_
      rw [g2, List.append_assoc, List.replicate_succ]
      rfl
    cases s with
    | false =>
      wtm_at "sx"
      have := hs2 rfl
      subst this
      exact fin
    | true =>
      wtm_at "sx"
      refine sub_list hl (v := .int y) ?_ ?_
      · show seqItem _ (-1) = _
        unfold seqItem
        rw [if_neg (by decide), if_pos rfl, List.getLast?_map, hs rfl]; rfl
      wtm_at "sx"
      exact fin
theorem c_codes {f : Int → Int} {σ : Nat → Pl} {e : E} (hd : Held h f) (ha : Agree σ f) (bd : ∀ j, (σ j).1 < 2 ^ wd j ∧ (σ j).2 < 2 ^ wd j) (he : e.ok) (q : ∀ h' l, Eff [] h h' → h.length ≤ l → h'[l]? = some (.list ((codesOf e.w (e.ev σ)).map .int)) → Q (.loc l) h') : WC (n + 2) 35 [e.v, .loc 13] h Q := by
  cases e with
  | const w a b => exact c_codes_const (by have := he.2.1; lia) (fun h' e1 e2 => q h' _ e1 (Nat.le_refl _) e2)
  | sig j => exact c_codes_sig hd ha he (fun h' e1 e2 => q h' _ e1 (Nat.le_refl _) e2)
  | ext w j s =>
    show WC (n + 2) 35 [.tup [.str 5, .int w, .tup [.str 1, .int (wd j), .int j], .bool s], .loc 13] h Q
    have hw := he.2.1
    have wl := wd_le j
    wtm_at "fn"
    refine c_codes_sig hd ha he.2.2 ?_
    intro h1 e1 g1
    wtm_at "sx"
    refine w1_whil ?_
    have cl := codesOf_len (wd j) (σ j)
    refine ext_loop (s := s) (y := if s then cdI (σ j) (wd j - 1) else 0) rfl (w - wd j) (codesOf (wd j) (σ j)) 40 h1 (fun _ => by lia) (fun _ => by lia) (by lia) (fun q => by rw [q] at cl; simp at cl; lia) (by lia) g1 (fun hs => ?_) (fun hs => by rw [hs]; rfl) ?_
    · rw [hs, List.getLast?_eq_getElem?, cl, codesOf_get (by lia)]; rfl
    · intro h2 e2 g2
      wtm_at "sx"
      refine ⟨_, by simp only [listOf, g2]; rfl, ⟨by lia, by lia⟩, ?_⟩
      wtm_at "sx"
      rw [Int.toNat_natCast, ← List.map_take, codes_ext (by lia) (bd j)]
      refine q _ _ ((e1.transN e2 (fun n hn => ?_)).app _) (Nat.le_trans e1.len e2.len) get_last
      rw [List.mem_singleton] at hn; right; lia
end
end
section
theorem cdI_le (x : Pl) (i : Nat) : cdI x i > 1 ↔ x.2.testBit i = true := by
  unfold cdI; cases x.1.testBit i <;> cases x.2.testBit i <;> decide
theorem cdI_bit {x : Pl} {i : Nat} (h : x.2.testBit i = false) : cdI x i = (((x.1.testBit i).toNat : Nat) : Int) := by
  unfold cdI; rw [h]; simp
noncomputable def numB : List S := forB (f_law_number_b.getD 2 .bad)
theorem eq_zero_of_bits {b w : Nat} (hb : b < 2 ^ w) (h : ∀ i, i < w → b.testBit i = false) : b = 0 := by
  apply Nat.eq_of_testBit_eq
  intro i
  rw [Nat.zero_testBit]
  by_cases hi : i < w
  · exact h i hi
  · exact Nat.testBit_lt_two_pow (Nat.lt_of_lt_of_le hb (Nat.pow_le_pow_right (by decide) (by lia)))
section
variable {n : Nat} {m : Loc} {h : H} {Q : V → H → Prop} {R : Fl → Loc → H → Prop}
theorem num_loop {w : Nat} {x : Pl} {x0 x1 x2 : Option V} (hb : x.2 < 2 ^ w) (ha : x.1 < 2 ^ w) (hw : w ≤ 60) : ∀ (k i : Nat) (x5 : Option V), i + k = w → (∀ i', i' < i → x.2.testBit i' = false) →
    (x.2 ≠ 0 → ∀ m, R (.ret .non) m h) → (x.2 = 0 → ∀ x5, R .next [x0, x1, x2, some (.lst ((codesOf w x).map .int)), some (.int (x.1 : Int)), x5] h) →
    WF n (.name 5) numB ((List.range' i k).map fun (i : Nat) => V.int i) [x0, x1, x2, some (.lst ((codesOf w x).map .int)), some (.int ((x.1 % 2 ^ i : Nat) : Int)), x5] h R
  | 0, i, x5, hi, hz, _, q => by
    refine wf_nil ?_
    have hi : i = w := hi
    subst hi
    rw [Nat.mod_eq_of_lt ha]
    exact q (eq_zero_of_bits hb hz) x5
  | k + 1, i, x5, hi, hz, qn, q => by
    have hiw : i < w := by lia
    have it : seqItem ((codesOf w x).map V.int) (i : Int) = some (.int (cdI x i)) := by
      unfold seqItem
      rw [if_pos (by lia), Int.toNat_natCast, List.getElem?_map, codesOf_get hiw]; rfl
    rw [List.range'_succ, List.map_cons]
    refine wf_cons ?_
    wtm_at "sx"
    refine sub_lst it ?_
    wtm_at "sx"
    cases hc : x.2.testBit i with
    | true =>
      refine br_t (decide_eq_true ((cdI_le x i).mpr hc)) ?_
      wtm_at "sx"
      refine qn (fun z => ?_) _
      rw [z, Nat.zero_testBit] at hc; cases hc
    | false =>
      refine br_f (decide_eq_false (fun g => by rw [(cdI_le x i).mp g] at hc; cases hc)) ?_
      wtm_at "sx"
      refine w1_aug rfl (fun z => by simp only [List.set_cons_zero, List.set_cons_succ] <;> rfl) ?_
      wtm_at "sx"
      refine sub_lst it ?_
      wtm_at "sx"
      rw [cdI_bit hc]
      have b1 : (x.1.testBit i).toNat ≤ 1 := by cases x.1.testBit i <;> decide
      refine bop_shl_nat (by lia) (by lia) ?_
      wtm_at "sx"
      have e : ((x.1 % 2 ^ i : Nat) : Int) + ((((x.1.testBit i).toNat <<< i : Nat)) : Int) = ((x.1 % 2 ^ (i + 1) : Nat) : Int) := by
        rw [Nat.mod_pow_succ, Nat.shiftLeft_eq, ← bit_mod, Nat.shiftRight_eq_div_pow, Nat.mul_comm (x.1 / 2 ^ i % 2)]
        lia
      rw [e]
      exact num_loop hb ha hw k (i + 1) _ (by lia) (fun i' hi' => by
        rcases Nat.lt_succ_iff_lt_or_eq.mp hi' with g | g
        · exact hz i' g
        · rw [g]; exact hc) qn q
theorem c_number {f : Int → Int} {σ : Nat → Pl} {e : E} {s : Bool} (hd : Held h f) (ha : Agree σ f) (bd : ∀ j, (σ j).1 < 2 ^ wd j ∧ (σ j).2 < 2 ^ wd j) (he : e.ok) (q : ∀ h', Eff [] h h' → Q (oV (e.num σ s)) h') : WC (n + 3) 36 [e.v, .bool s, .loc 13] h Q := by
  have ew := E.w_ok he
  have eb := E.ev_bd he bd
  wtm_at "fn"
  refine c_codes hd ha bd he ?_
  intro h1 l e1 hl g1
  wtm_at "sx"
  refine ⟨_, g1, ?_⟩
  wtm_at "sx"
  refine wb_range ⟨by rw [List.length_map, codesOf_len]; lia, by rw [List.length_map, codesOf_len]; lia⟩ ?_
  have e2 : Eff [] h (h1.set l .dead) := e1.set (Or.inr hl) _
  have q2 := q _ e2
  unfold E.num toI at q2
  refine ⟨_, by rw [List.length_map, codesOf_len]; exact rng_vals e.w, ?_⟩
  rw [List.range_eq_range']
  have e0 : (V.int 0) = V.int (((e.ev σ).1 % 2 ^ 0 : Nat) : Int) := by rw [Nat.pow_zero, Nat.mod_one]; rfl
  rw [e0]
  refine num_loop eb.2 eb.1 (by lia) e.w 0 none (by lia) (fun i' hi' => absurd hi' (Nat.not_lt_zero _)) ?_ ?_
  · intro hb m
    rw [if_pos hb] at q2
    exact q2
  · intro hb x5
    rw [if_neg (by lia)] at q2
    wtm_at "sx"
    cases s with
    | false =>
      wtm_at "sx"
      rw [if_neg (by simp)] at q2
      exact q2
    | true =>
      wtm_at "sx"
      have last : seqItem ((codesOf e.w (e.ev σ)).map V.int) (-1) = some (.int (cdI (e.ev σ) (e.w - 1))) := by
        unfold seqItem
        rw [if_neg (by decide), if_pos rfl, List.getLast?_eq_getElem?, List.length_map, codesOf_len, List.getElem?_map, codesOf_get (by lia)]; rfl
      refine sub_lst last ?_
      wtm_at "sx"
      have hbit : (e.ev σ).1 >>> (e.w - 1) = ((e.ev σ).1.testBit (e.w - 1)).toNat := by
        rw [← bit_mod, Nat.mod_eq_of_lt]
        rw [Nat.shiftRight_eq_div_pow, Nat.div_lt_iff_lt_mul (Nat.two_pow_pos _), ← Nat.pow_succ']
        exact (show e.w - 1 + 1 = e.w by lia) ▸ eb.1
      have hcd : cdI (e.ev σ) (e.w - 1) = (((e.ev σ).1 >>> (e.w - 1) : Nat) : Int) := by
        rw [hbit]; exact cdI_bit (by rw [hb, Nat.zero_testBit])
      rw [hcd]
      by_cases h1' : (e.ev σ).1 >>> (e.w - 1) = 1
      · refine br_t (by rw [h1']; rfl) ?_
        wtm_at "sx"
        refine w1_aug rfl (fun z => by simp only [List.set_cons_zero, List.set_cons_succ] <;> rfl) ?_
        wtm_at "sx"
        rw [List.length_map, codesOf_len]
        refine bop_shl ⟨by lia, by lia, by decide⟩ ?_
        wtm_at "sx"
        rw [if_pos ⟨rfl, h1'⟩] at q2
        rw [Int.one_mul, Int.toNat_natCast]
        exact q2
      · refine br_f (decide_eq_false (fun g => h1' (Int.ofNat_inj.mp g))) ?_
        wtm_at "sx"
        rw [if_neg (by simp [h1'])] at q2
        exact q2
end
end
section
/-! ### spots -/
noncomputable def Part.row0 (F d : Int) (σ : Nat → Pl) (p : Part) (t : Nat) : Option Row := match p.wi F d σ with
  | none => none
  | some wi => match p.wh.lo σ with
    | none => none
    | some lo => some ⟨wi, lo, p.w, t⟩
noncomputable def rows0Of (F d : Int) (σ : Nat → Pl) : Nat → List Part → List Row
  | _, [] => []
  | t, p :: r => (p.row0 F d σ (t - p.w)).toList ++ rows0Of F d σ (t - p.w) r
noncomputable def Lv.rows0 (F d : Int) (σ : Nat → Pl) (l : Lv) : List Row := rows0Of F d σ l.W l.ps
noncomputable def good (r : Row) : Bool := decide (0 < r.lo + r.w ∧ r.lo < wd r.wi)
theorem row_good {F d : Int} {σ : Nat → Pl} {p : Part} (hp : p.ok) (t : Nat) : (p.row F d σ t).toList = (p.row0 F d σ t).toList.filter good := by
  unfold Part.row Part.row0
  cases ew : p.wi F d σ with
  | none => rfl
  | some wi =>
    cases el : p.wh.lo σ with
    | none => rfl
    | some lo =>
      have k := wi_lt hp ew
      simp only
      by_cases c : lo + p.w ≤ 0 ∨ lo ≥ wd p.j
      · rw [if_pos c]
        have : good ⟨wi, lo, p.w, t⟩ = false := by
          unfold good; rw [decide_eq_false_iff_not]; show ¬ (0 < lo + (p.w : Int) ∧ lo < (wd wi : Int)); rw [k.2.2]; lia
        simp [this]
      · rw [if_neg c]
        have : good ⟨wi, lo, p.w, t⟩ = true := by
          unfold good; rw [decide_eq_true_eq]; show (0 < lo + (p.w : Int) ∧ lo < (wd wi : Int)); rw [k.2.2]; lia
        simp [this]
theorem rows_good {F d : Int} {σ : Nat → Pl} : ∀ (ps : List Part) (t : Nat), (∀ p ∈ ps, p.ok) → rowsOf F d σ t ps = (rows0Of F d σ t ps).filter good := by
  intro ps
  induction ps with
  | nil =>
    intro _  _
    exact rfl
  | cons p ps IH =>
    intro t  hp
    rw [rowsOf, rows0Of, List.filter_append, row_good (hp p (List.mem_cons_self ..)), IH _ (fun q hq => hp q (List.mem_cons_of_mem _ hq))]
structure Row.ok0 (r : Row) (W : Nat) : Prop where
  wi : r.wi < 6
  w1 : 1 ≤ r.w
  w2 : r.w ≤ 4
  t : r.t + r.w ≤ W
theorem rows0_ok {F d : Int} {σ : Nat → Pl} {W : Nat} : ∀ (ps : List Part) (t : Nat), (∀ p ∈ ps, p.ok) → sumW ps ≤ t → t ≤ W → ∀ r ∈ rows0Of F d σ t ps, r.ok0 W := by
  intro ps
  induction ps with
  | nil =>
    intro _  _  _  _  r  hr
    exact by cases hr
  | cons p ps IH =>
    intro t  hp  hs  hW  r  hr
    have hs2 : p.w + sumW ps ≤ t := hs
    have hp0 := hp p (List.mem_cons_self ..)
    rw [rows0Of, List.mem_append] at hr
    rcases hr with hr | hr
    · have e := Option.mem_toList.mp hr
      unfold Part.row0 at e
      split at e
      · cases e
      · rename_i wi ew
        split at e
        · cases e
        · cases e
          exact ⟨(wi_lt hp0 ew).1, hp0.w1, hp0.w2, by show t - p.w + p.w ≤ W; lia⟩
    · exact IH (t - p.w) (fun q hq => hp q (List.mem_cons_of_mem _ hq)) (by lia) (by lia) r hr
theorem rows0_len {F d : Int} {σ : Nat → Pl} : ∀ (ps : List Part) (t : Nat), (rows0Of F d σ t ps).length ≤ ps.length
  | [], _ => Nat.le_refl _
  | p :: ps, t => by
    rw [rows0Of, List.length_append, List.length_cons]
    have := rows0_len (F := F) (d := d) (σ := σ) ps (t - p.w)
    have h2 : (p.row0 F d σ (t - p.w)).toList.length ≤ 1 := by cases p.row0 F d σ (t - p.w) <;> simp
    lia
theorem ok0_good {r : Row} {W : Nat} (h : r.ok0 W) (g : good r = true) : r.ok W := by
  unfold good at g; rw [decide_eq_true_eq] at g
  exact ⟨h.wi, g.1, g.2, h.w1, h.w2, h.t⟩
noncomputable def inR (r : Row) (i : Nat) : Bool := decide (0 ≤ r.lo + i ∧ r.lo + i < wd r.wi)
noncomputable def pairV (r : Row) (i : Nat) : V := .tup [.int (r.t + i : Nat), .int ((base r.wi : Nat) + r.lo + i)]
noncomputable def idxs (r : Row) : List Nat := (List.range r.w).filter (inR r)
noncomputable def spotV (r : Row) : V := .tup [.int (keyOf r.wi), .lst ((idxs r).map (pairV r))]
noncomputable def spotsB : List S := forB (f_law_spots_b.getD 2 .bad)
theorem nm_eq {F d i : Int} (k : Int) (dd : d = 1 ∨ d = -1) : i = F + k * d ↔ (i - F) * d = k := by
  rcases dd with rfl | rfl
  · rw [Int.mul_one, Int.mul_one]
    exact ⟨fun h => by rw [h, Int.add_comm F, Int.add_sub_cancel], fun h => by rw [← h, Int.add_comm, Int.sub_add_cancel]⟩
  · rw [Int.mul_neg_one, Int.mul_neg_one]; constructor <;> intro h <;> lia
theorem nm_b {F d i : Int} (dd : d = 1 ∨ d = -1) : (i == F) = decide ((i - F) * d = 0) ∧ (i == F + d) = decide ((i - F) * d = 1) ∧ (i == F + 2 * d) = decide ((i - F) * d = 2) := by
  have a0 := nm_eq (i := i) (F := F) 0 dd
  have a1 := nm_eq (i := i) (F := F) 1 dd
  rw [Int.zero_mul, Int.add_zero] at a0
  rw [Int.one_mul] at a1
  have k : ∀ {x y : Int} {p : Prop} [Decidable p], (x = y ↔ p) → (x == y) = decide p := fun h => by rw [Bool.eq_iff_iff, beq_iff_eq, decide_eq_true_eq]; exact h
  exact ⟨k a0, k a1, k (nm_eq 2 dd)⟩
theorem names_mem {F d i : Int} (dd : d = 1 ∨ d = -1) : [F, F + d, F + 2 * d].contains i = !decide (plc F d i < 0) := by
  obtain ⟨a, b, c⟩ := nm_b (i := i) (F := F) dd
  rw [List.contains_cons, List.contains_cons, List.contains_cons, a, b, c]
  unfold plc
  generalize (i - F) * d = x
  rw [Bool.eq_iff_iff]
  simp only [Bool.or_eq_true, decide_eq_true_eq, List.contains_nil, Bool.false_eq_true, or_false, Bool.not_eq_true', decide_eq_false_iff_not]
  split <;> lia
theorem names_idx {F d i : Int} (dd : d = 1 ∨ d = -1) (hp : ¬ plc F d i < 0) : (([F, F + d, F + 2 * d].idxOf i : Nat) : Int) = plc F d i := by
  obtain ⟨a, b, c⟩ := nm_b (i := i) (F := F) dd
  rw [BEq.comm] at a b c
  rw [List.idxOf_cons, List.idxOf_cons, List.idxOf_cons, a, b, c]
  have pr := plc_range F d i
  unfold plc at hp pr ⊢
  generalize (i - F) * d = x at hp pr ⊢
  split at pr
  · rename_i q; rw [if_pos q] at hp; exact absurd (by decide) hp
  · rename_i q
    have hx : x = 0 ∨ x = 1 ∨ x = 2 := by lia
    rw [if_neg q]
    rcases hx with rfl | rfl | rfl <;> rfl
section
variable {n : Nat} {m : Loc} {h : H} {Q : V → H → Prop} {R : Fl → Loc → H → Prop}
theorem row0_lo {F d : Int} {σ : Nat → Pl} {p : Part} {t wi : Nat} (e : p.wi F d σ = some wi) (e1 : p.wh.lo σ = none) : p.row0 F d σ t = none := by
  unfold Part.row0; rw [e, e1]
theorem row0_wi {F d : Int} {σ : Nat → Pl} {p : Part} {t : Nat} (e : p.wi F d σ = none) : p.row0 F d σ t = none := by
  unfold Part.row0; rw [e]
theorem pick_no {σ : Nat → Pl} {j : Nat} {s : Bool} {f st : Int} (e : (E.sig j).num σ s = none) : (Wh.pick j s f st).lo σ = none := by
  show Option.map _ _ = _; rw [e]; rfl
theorem wd_get {j : Nat} (h : j < 4) : ([.int 4, .int 3, .int 3, .int 2] : List V)[(j : Int).toNat]? = some (.int (wd j)) := by
  rw [Int.toNat_natCast]
  match j, h with
  | 0, _ => rfl
  | 1, _ => rfl
  | 2, _ => rfl
  | 3, _ => rfl
theorem c_number_el {f : Int → Int} {σ : Nat → Pl} {e : E} {s : Bool} (hd : Held h f) (ha : Agree σ f) (bd : ∀ j, (σ j).1 < 2 ^ wd j ∧ (σ j).2 < 2 ^ wd j) (he : e.ok)
    (q0 : e.num σ s = none → ∀ h', Eff [] h h' → Q .non h') (q1 : ∀ i, e.num σ s = some i → ∀ h', Eff [] h h' → Q (.int i) h') : WC (n + 3) 36 [e.v, .bool s, .loc 13] h Q := by
  refine c_number hd ha bd he fun h' e1 => ?_
  rcases oV_none_or (e.num σ s) with ⟨e2, e3⟩ | ⟨i, e2, e3⟩
  · rw [e3]; exact q0 e2 h' e1
  · rw [e3]; exact q1 i e2 h' e1
theorem spots_loop {F d : Int} {σ : Nat → Pl} {f : Int → Int} {lv : V} {l : Nat} (hfx : ∀ h', Eff [] h h' → Fx h' F d) (hhd : ∀ h', Eff [] h h' → Held h' f) (ha : Agree σ f) (bd : ∀ j, (σ j).1 < 2 ^ wd j ∧ (σ j).2 < 2 ^ wd j) (hl : h.length ≤ l) :
    ∀ (ps : List Part) (t : Nat) (acc : List Row) (h1 : H) (x5 x6 x7 x8 x9 x10 x11 x12 x13 x14 : Option V), (∀ p ∈ ps, p.ok) → sumW ps ≤ t → acc.length + ps.length ≤ 100 → Eff [] h h1 → h1[l]? = some (.list (acc.map spotV)) →
    (∀ h' x4 x5 x6 x7 x8 x9 x10 x11 x12 x13 x14, Eff [] h h' → h'[l]? = some (.list ((acc ++ rows0Of F d σ t ps).map spotV)) → R .next [some lv, some (.loc 4), some (.loc 13), some (.loc l), x4, x5, x6, x7, x8, x9, x10, x11, x12, x13, x14] h') →
    WF (n + 4) (.names [5, 6, 7, 8, 9]) spotsB (ps.map Part.v) [some lv, some (.loc 4), some (.loc 13), some (.loc l), some (.int t), x5, x6, x7, x8, x9, x10, x11, x12, x13, x14] h1 R := by
  intro ps
  induction ps with
  | nil =>
    intro t  acc  h1  x5  x6  x7  x8  x9  x10  x11  x12  x13  x14  _  _  _  e1  g1  q
    refine wf_nil ?_
    refine q h1 _ _ _ _ _ _ _ _ _ _ _ e1 ?_
    rw [rows0Of, List.append_nil]
    exact g1
  | cons p ps IH =>
    intro t  acc  h1  x5  x6  x7  x8  x9  x10  x11  x12  x13  x14  hp  hs  hlen  e1  g1  q
    have hp0 := hp p (List.mem_cons_self ..)
    have hs2 : p.w + sumW ps ≤ t := hs
    have hl2 : acc.length + (ps.length + 1) ≤ 100 := hlen
    have ih := fun acc2 h2 (hl2x : acc2.length + ps.length ≤ 100) (ee : Eff [] h h2) gg y5 y6 y7 y8 y9 y10 y11 y12 y13 y14 q2 => IH (t - p.w) acc2 h2 y5 y6 y7 y8 y9 y10 y11 y12 y13 y14 (fun x hx => hp x (List.mem_cons_of_mem _ hx)) (by lia) hl2x ee gg q2
    have skip : p.row0 F d σ (t - p.w) = none → ∀ h' x4 x5 x6 x7 x8 x9 x10 x11 x12 x13 x14, Eff [] h h' → h'[l]? = some (.list ((acc ++ rows0Of F d σ (t - p.w) ps).map spotV)) → R .next [some lv, some (.loc 4), some (.loc 13), some (.loc l), x4, x5, x6, x7, x8, x9, x10, x11, x12, x13, x14] h' := fun e => by
      rw [rows0Of, e] at q; exact q
    have keep : ∀ h2, Eff [] h1 h2 → h2[l]? = some (.list (acc.map spotV)) := fun h2 ee => ee.eq _ _ (by simp) g1
    obtain ⟨w, j, wo, wh⟩ := p
    have hw4 : w ≤ 4 := hp0.w2
    have hj4 : j < 4 := hp0.j4
    dsimp only at hs2 ih skip
    rw [List.map_cons]
    refine wf_cons ?_
    show WT _ _ (.tup [.str 1, .int w, .int j, woV wo, wh.v]) _ _ _
    wtm_at "sx"
    refine w1_aug rfl (fun z => by simp only [List.set_cons_zero, List.set_cons_succ] <;> rfl) ?_
    iterate 2 wtm_at "s1"
    refine bop_subN (by lia) ?_
    wtm_at "sx"
    refine sub_tup (wd_get hj4) (by lia) ?_
    wtm_at "sx"
    -- from the place of the bit on
    have tail : ∀ wi, (Part.mk w j wo wh).wi F d σ = some wi → ∀ x12 h2, Eff [] h1 h2 → WS (n + 4) (spotsB.drop 4)
        [some lv, some (.loc 4), some (.loc 13), some (.loc l), some (.int ((t - w : Nat) : Int)), some (.str 1), some (.int w), some (.int j), some (woV wo), some wh.v, some (.int (base wi)), some (.int (wd j)), x12, x13, x14] h2
        (kF (fun m h1 => WF (n + 4) (.names [5, 6, 7, 8, 9]) spotsB (ps.map Part.v) m h1 R) R) := by
      intro wi ewi x12 h2 ee
      have wk := wi_lt hp0 ewi
      -- the last: append
      have fin : ∀ lo, wh.lo σ = some lo → ∀ h3, Eff [] h1 h3 → WS (n + 4) (spotsB.drop 6)
        [some lv, some (.loc 4), some (.loc 13), some (.loc l), some (.int ((t - w : Nat) : Int)), some (.str 1), some (.int w), some (.int j), some (woV wo), some wh.v, some (.int (base wi)), some (.int (wd j)), x12, some (.int lo), x14] h3
        (kF (fun m h1 => WF (n + 4) (.names [5, 6, 7, 8, 9]) spotsB (ps.map Part.v) m h1 R) R) := by
        intro lo elo h3 e3
        have g3 := keep h3 e3
        have er : (Part.mk w j wo wh).row0 F d σ (t - w) = some ⟨wi, lo, w, t - w⟩ := by
          unfold Part.row0; rw [ewi]; simp only [elo]
        wtm_at "sx"
        refine comp_rng (w := w) (inR ⟨wi, lo, w, t - w⟩) (pairV ⟨wi, lo, w, t - w⟩) (by lia) ?_ ?_ ?_ ?_
        · wtm_at "sx"
          refine wb_range ⟨by lia, by lia⟩ ⟨rfl, rfl⟩
        · intro i hi ac
          simp only [List.set_cons_zero, List.set_cons_succ]
          wtm_at "sx"
          by_cases c1 : 0 ≤ lo + (i : Int)
          · refine br_t (decide_eq_true c1) ?_
            wtm_at "sx"
            refine ⟨rfl, ?_⟩
            show some (decide (lo + (i : Int) < (wd j : Int))) = some (inR _ _)
            unfold inR
            congr 1
            dsimp only
            rw [wk.2.2]
            simp [c1]
          · refine br_f (decide_eq_false c1) ?_
            refine ⟨rfl, ?_⟩
            show some false = some (inR _ _)
            unfold inR
            congr 1
            symm
            rw [decide_eq_false_iff_not]
            exact fun g => c1 g.1
        · intro i hi _ ac
          simp only [List.set_cons_zero, List.set_cons_succ]
          wtm_at "sx"
          refine ⟨rfl, ?_⟩
          show V.tup [.int (((t - w : Nat) : Int) + i), .int ((base wi : Int) + lo + i)] = V.tup [.int ((t - w + i : Nat) : Int), .int ((base wi : Int) + lo + i)]
          rw [Int.natCast_add]
        · wtm_at "sx"
          refine frz_last ?_
          wtm_at "sx"
          have g4 : (h3 ++ [O.dead])[l]? = some (.list (acc.map spotV)) := get_app g3
          refine wm_append g4 (by rw [List.length_map]; lia) ?_
          wtm_at "sx"
          have ev' : [V.tup [.int j, .lst (((List.range w).filter (inR ⟨wi, lo, w, t - w⟩)).map (pairV ⟨wi, lo, w, t - w⟩))]] = [Row.mk wi lo w (t - w)].map spotV := by
            simp only [List.map_cons, List.map_nil, spotV, wk.2.1]; rfl
          rw [ev', ← List.map_append]
          refine ih (acc ++ [⟨wi, lo, w, t - w⟩]) _ (by rw [List.length_append]; show acc.length + 1 + _ ≤ _; lia) (((e1.trans e3).app _).set (Or.inr hl) _) (get_set_eq g4) _ _ _ _ _ _ _ _ _ _ ?_
          rw [rows0Of] at q
          dsimp only at q
          rw [er] at q
          intro h' a b c d e f g h i j k e5 g5
          refine q h' a b c d e f g h i j k e5 ?_
          rw [Option.toList_some, ← List.append_assoc]
          exact g5
      cases wh with
      | «at» lo =>
        show WS (n + 4) (spotsB.drop 4)
          [some lv, some (.loc 4), some (.loc 13), some (.loc l), some (.int ((t - w : Nat) : Int)), some (.str 1), some (.int w), some (.int j), some (woV wo), some (.tup [.str 14, .int lo]), some (.int (base wi)), some (.int (wd j)), x12, x13, x14] h2 _
        iterate 9 wtm_at "s1"
        refine ws_nil ?_
        exact fin lo rfl h2 ee
      | pick j' s' f' st' =>
        have hw' := hp0.wh
        show WS (n + 4) (spotsB.drop 4)
          [some lv, some (.loc 4), some (.loc 13), some (.loc l), some (.int ((t - w : Nat) : Int)), some (.str 1), some (.int w), some (.int j), some (woV wo), some (.tup [.str 7, E.v (.sig j'), .bool s', .int f', .int st']), some (.int (base wi)), some (.int (wd j)), x12, x13, x14] h2 _
        wtm_at "sx"
        refine c_number_el (e := .sig j') (s := s') (hhd _ (e1.trans ee)) ha bd hw'.1 (fun e4 h3 e3 => ?_) (fun i e4 h3 e3 => ?_)
        · wtm_at "sx"
          exact ih acc h3 (by lia) (e1.trans (ee.trans e3)) (keep _ (ee.trans e3)) _ _ _ _ _ _ _ _ _ _ (skip (row0_lo ewi (pick_no e4)))
        · wtm_at "sx"
          refine bop_mul (Or.inr (by rcases hw'.2 with rfl | rfl <;> decide)) ?_
          wtm_at "s1"
          wtm_at "s1"
          exact fin ((i - f') * st') (by simp only [Wh.lo, e4, Option.map_some]) h3 (ee.trans e3)
    rcases hp0.wo with ⟨ewo, hj3⟩ | ⟨e, s, ewo, hj3, he⟩
    · dsimp only at ewo hj3
      subst ewo
      have := tail j rfl x12 h1 (Eff.refl _ _)
      rw [show ((base j : Nat) : Int) = (j : Int) * 100 by unfold base; rw [if_pos hj3]; lia] at this
      refine cmp_isnt_n ?_
      refine tru_b ?_
      refine br_false ?_
      refine ws_nil ?_
      exact this
    · dsimp only at ewo hj3
      subst ewo hj3
      show Cmp .isnt (.tup [e.v, .bool s]) _ _ _
      wtm_at "sx"
      refine c_number_el (e := e) (s := s) (hhd _ e1) ha bd he (fun e3 h2 e2 => ?_) (fun i e3 h2 e2 => ?_)
      · have nm := (hfx _ (e1.trans e2)).nm
        wtm_at "sx"
        refine cmp_nmem (b := false) (by simp only [mem, nm]; rfl) ?_
        wtm_at "sx"
        exact ih acc h2 (by lia) (e1.trans e2) (keep _ e2) _ _ _ _ _ _ _ _ _ _ (skip (row0_wi (wi_no e3)))
      · have nm := (hfx _ (e1.trans e2)).nm
        have dd := (hfx _ (e1.trans e2)).dd
        wtm_at "sx"
        refine cmp_nmem (b := !decide (plc F d i < 0)) (by simp only [mem, nm]; show some _ = _; rw [names_mem dd]) ?_
        by_cases c1 : plc F d i < 0
        · rw [decide_eq_true c1]
          wtm_at "sx"
          exact ih acc h2 (by lia) (e1.trans e2) (keep _ e2) _ _ _ _ _ _ _ _ _ _ (skip (row0_wi (wi_neg e3 c1)))
        · rw [decide_eq_false c1]
          have pr := plc_range F d i
          have := tail (3 + (plc F d i).toNat) (by unfold Part.wi; simp only [e3, if_neg c1]) (some (.int i)) h2 e2
          rw [show ((base (3 + (plc F d i).toNat) : Nat) : Int) = ((3 : Nat) : Int) * 100 + 10 * plc F d i by unfold base; rw [if_neg (by lia)]; lia] at this
          wtm_at "sx"
          refine w1_aug rfl (fun z => by simp only [List.set_cons_zero, List.set_cons_succ] <;> rfl) ?_
          wtm_at "sx"
          refine wm_index nm rfl (by rw [names_mem dd, decide_eq_false c1]; rfl) ?_
          rw [names_idx dd c1]
          iterate 3 wtm_at "s1"
          refine bop_add ?_
          refine kS_next ?_
          refine ws_nil ?_
          exact this
theorem c_spots {F d : Int} {σ : Nat → Pl} {f : Int → Int} {lv : Lv} (fx : Fx h F d) (hd : Held h f) (ha : Agree σ f) (bd : ∀ j, (σ j).1 < 2 ^ wd j ∧ (σ j).2 < 2 ^ wd j) (hl : lv.ok) (q : ∀ h', Eff [] h h' → Q (.lst ((lv.rows0 F d σ).map spotV)) h') : WC (n + 5) 37 [lv.v, .loc 4, .loc 13] h Q := by
  show WC (n + 5) 37 [.tup [.str 26, .int lv.W, .tup (lv.ps.map Part.v)], .loc 4, .loc 13] h Q
  wtm_at "fn"
  refine ⟨_, rfl, ?_⟩
  refine spots_loop (h := h) (f := f) (F := F) (d := d) (σ := σ) (l := h.length) (fun h' e => fx.eff e (by simp)) (fun h' e => e.eq _ _ (by simp) hd) ha bd (Nat.le_refl _) lv.ps lv.W [] (h ++ [.list []]) none none none none none none none none none none hl.ps (by rw [hl.W]; exact Nat.le_refl _) (by have := hl.n; simp; lia) ((Eff.refl _ _).app _) get_last ?_
  intro h' x4 x5 x6 x7 x8 x9 x10 x11 x12 x13 x14 e g
  wtm_at "sx"
  refine ⟨_, g, ?_⟩
  wtm_at "sx"
  exact q _ (e.set (Or.inr (Nat.le_refl _)) _)
end
end
section
/-! ### the write of the law -/
structure FK where
  f : Int → Int
  ks : List Int
noncomputable def sOf (r : Row) (i : Nat) : Int := (base r.wi : Nat) + r.lo + i
noncomputable def cOf (v : Pl) (r : Row) (i : Nat) : Int := cdI v (r.t + i)
noncomputable def lw (v : Pl) (r : Row) (s : FK) (i : Nat) : FK := if s.f (sOf r i) = cOf v r i then s else ⟨updI s.f (sOf r i) (cOf v r i), addK s.ks (keyOf r.wi)⟩
noncomputable def lwRow (v : Pl) (s : FK) (r : Row) : FK := (idxs r).foldl (lw v r) s
noncomputable def lwRows (v : Pl) (s : FK) (rs : List Row) : FK := rs.foldl (lwRow v) s
theorem addK_idem (ks : List Int) (k : Int) : addK (addK ks k) k = addK ks k := by
  unfold addK
  by_cases e : k ∈ ks
  · simp [e]
  · simp [e]
theorem lw_fold (v : Pl) (r : Row) : ∀ (L : List Nat) (s : FK), L.Nodup → (∀ i ∈ L, (L.foldl (lw v r) s).f (sOf r i) = cOf v r i) ∧ (∀ x, (∀ i ∈ L, sOf r i ≠ x) → (L.foldl (lw v r) s).f x = s.f x) ∧
    (((∀ i ∈ L, s.f (sOf r i) = cOf v r i) → (L.foldl (lw v r) s).ks = s.ks) ∧ (¬ (∀ i ∈ L, s.f (sOf r i) = cOf v r i) → (L.foldl (lw v r) s).ks = addK s.ks (keyOf r.wi))) := by
  intro L
  induction L with
  | nil =>
    intro s  _
    exact ⟨by simp, by simp, by simp, by simp⟩
  | cons a L IH =>
    intro s  hn
    rw [List.nodup_cons] at hn
    obtain ⟨A, B, C1, C2⟩ := IH (lw v r s a) hn.2
    rw [List.foldl_cons]
    have inj : ∀ i, i ∈ L → sOf r i ≠ sOf r a := fun i hi q => hn.1 (by
      have : i = a := by unfold sOf at q; lia
      rw [← this]; exact hi)
    have fa : (lw v r s a).f (sOf r a) = cOf v r a := by
      unfold lw; split
      · assumption
      · simp [updI]
    have fo : ∀ x, sOf r a ≠ x → (lw v r s a).f x = s.f x := fun x hx => by
      unfold lw; split
      · rfl
      · simp only [updI]; rw [if_neg (fun q => hx q.symm)]
    refine ⟨?_, ?_, ?_, ?_⟩
    · intro i hi
      rcases List.mem_cons.mp hi with rfl | hi
      · rw [B _ (fun j hj => inj j hj)]; exact fa
      · exact A i hi
    · intro x hx
      rw [B x (fun i hi => hx i (List.mem_cons_of_mem _ hi)), fo x (hx a (List.mem_cons_self ..))]
    · intro h
      rw [C1 (fun i hi => by rw [fo _ (fun q => inj i hi q.symm)]; exact h i (List.mem_cons_of_mem _ hi))]
      unfold lw; rw [if_pos (h a (List.mem_cons_self ..))]
    · intro h
      by_cases ha : s.f (sOf r a) = cOf v r a
      · have hl : lw v r s a = s := by unfold lw; rw [if_pos ha]
        rw [hl] at C2 ⊢
        refine C2 (fun g => h (fun i hi => ?_))
        rcases List.mem_cons.mp hi with rfl | hi
        · exact ha
        · exact g i hi
      · have hl : (lw v r s a).ks = addK s.ks (keyOf r.wi) := by unfold lw; rw [if_neg ha]
        by_cases g : ∀ i ∈ L, (lw v r s a).f (sOf r i) = cOf v r i
        · rw [C1 g, hl]
        · rw [C2 g, hl, addK_idem]
theorem cdI_inj {x y : Pl} {i j : Nat} (h : cdI x i = cdI y j) : x.1.testBit i = y.1.testBit j ∧ x.2.testBit i = y.2.testBit j := by
  unfold cdI at h
  revert h
  cases x.1.testBit i <;> cases x.2.testBit i <;> cases y.1.testBit j <;> cases y.2.testBit j <;> decide
theorem cdI_congr {x y : Pl} {i j : Nat} (h1 : x.1.testBit i = y.1.testBit j) (h2 : x.2.testBit i = y.2.testBit j) : cdI x i = cdI y j := by
  unfold cdI; rw [h1, h2]
def BdAll (σ : Nat → Pl) : Prop := ∀ j, (σ j).1 < 2 ^ wd j ∧ (σ j).2 < 2 ^ wd j
theorem ix {lo : Int} {i w W : Nat} (h1 : i < w) (h2 : 0 ≤ lo + (i : Int)) (h3 : lo + (i : Int) < (W : Int)) : (lo + (i : Int)).toNat < W ∧ (lo ≤ (((lo + (i : Int)).toNat : Nat) : Int) ∧ (((lo + (i : Int)).toNat : Nat) : Int) < lo + w) ∧ ((((lo + (i : Int)).toNat : Nat) : Int) - lo).toNat = i := by
  rw [Int.toNat_of_nonneg h2]
  exact ⟨(Int.toNat_lt h2).mpr h3, ⟨Int.le_add_of_nonneg_right (Int.natCast_nonneg i), Int.add_lt_add_left (Int.ofNat_lt.mpr h1) lo⟩, by rw [Int.add_comm lo, Int.add_sub_cancel, Int.toNat_natCast]⟩
theorem ixb {lo : Int} {b w W : Nat} (c : lo ≤ (b : Int) ∧ (b : Int) < lo + w) (hb : b < W) : (((b : Int) - lo).toNat < w ∧ 0 ≤ lo + ((((b : Int) - lo).toNat : Nat) : Int) ∧ lo + ((((b : Int) - lo).toNat : Nat) : Int) < (W : Int)) ∧ (lo + ((((b : Int) - lo).toNat : Nat) : Int)).toNat = b := by
  have e2 : lo + ((b : Int) - lo) = b := (Int.add_comm _ _).trans (Int.sub_add_cancel _ _)
  rw [Int.toNat_of_nonneg (Int.sub_nonneg_of_le c.1), e2]
  exact ⟨⟨(Int.toNat_lt (Int.sub_nonneg_of_le c.1)).mpr (Int.sub_left_lt_of_lt_add c.2), Int.natCast_nonneg b, Int.ofNat_lt.mpr hb⟩, Int.toNat_natCast b⟩
theorem new_bits {v : Pl} {σ : Nat → Pl} {r : Row} {W : Nat} (bd : BdAll σ) (ok : r.ok W) (b : Nat) (hb : b < wd r.wi) :
    cdI (newW v σ r) b = if r.lo ≤ b ∧ (b : Int) < r.lo + r.w then cdI v (r.t + (b - r.lo).toNat) else cdI (σ r.wi) b := by
  have hbd := bd r.wi
  have p1 := tb_put (p := (piece v r).1) hbd.1 ok.l1 ok.l2 b
  have p2 := tb_put (p := (piece v r).2) hbd.2 ok.l1 ok.l2 b
  by_cases c : r.lo ≤ b ∧ (b : Int) < r.lo + r.w
  · rw [if_pos c]
    rw [if_pos ⟨c.1, c.2, hb⟩] at p1 p2
    have hi := (ixb c hb).1.1
    refine cdI_congr ?_ ?_
    · show (put _ _ _ _ _).testBit b = _
      rw [p1]; unfold piece; simp [Nat.testBit_and, Nat.testBit_shiftRight, tb_mk, hi]
    · show (put _ _ _ _ _).testBit b = _
      rw [p2]; unfold piece; simp [Nat.testBit_and, Nat.testBit_shiftRight, tb_mk, hi]
  · rw [if_neg c]
    rw [if_neg (fun g => c ⟨g.1, g.2.1⟩)] at p1 p2
    exact cdI_congr p1 p2
theorem pl_ext {w : Nat} {x y : Pl} (hx : x.1 < 2 ^ w ∧ x.2 < 2 ^ w) (hy : y.1 < 2 ^ w ∧ y.2 < 2 ^ w) (h : ∀ b, b < w → cdI x b = cdI y b) : x = y := by
  have e : ∀ (a c : Nat), a < 2 ^ w → c < 2 ^ w → (∀ b, b < w → a.testBit b = c.testBit b) → a = c := fun a c ha hc g => by
    apply Nat.eq_of_testBit_eq
    intro i
    by_cases hi : i < w
    · exact g i hi
    · rw [Nat.testBit_lt_two_pow (Nat.lt_of_lt_of_le ha (Nat.pow_le_pow_right (by decide) (by lia))), Nat.testBit_lt_two_pow (Nat.lt_of_lt_of_le hc (Nat.pow_le_pow_right (by decide) (by lia)))]
  exact Prod.ext (e _ _ hx.1 hy.1 (fun b hb => (cdI_inj (h b hb)).1)) (e _ _ hx.2 hy.2 (fun b hb => (cdI_inj (h b hb)).2))
theorem base_inj {j j' a a' : Nat} (hj : j < 6) (hj' : j' < 6) (ha : a < 10) (ha' : a' < 10) (h : base j + a = base j' + a') : j = j' ∧ a = a' := by
  have q := base_q j hj a ha
  have q' := base_q j' hj' a' ha'
  rw [h] at q
  exact ⟨base_qi j hj j' hj' (q.1.symm.trans q'.1), q.2.symm.trans q'.2⟩
theorem mem_idxs {r : Row} {i : Nat} : i ∈ idxs r ↔ i < r.w ∧ 0 ≤ r.lo + i ∧ r.lo + i < wd r.wi := by
  unfold idxs inR
  rw [List.mem_filter, List.mem_range, decide_eq_true_eq]
theorem idxs_nodup (r : Row) : (idxs r).Nodup := List.Pairwise.filter _ List.nodup_range
theorem lwRow_spec {v : Pl} {σ : Nat → Pl} {r : Row} {W : Nat} {s : FK} (bd : BdAll σ) (ok : r.ok W) (ha : Agree σ s.f) :
    Agree (upd σ r.wi (newW v σ r)) (lwRow v s r).f ∧ (lwRow v s r).ks = if newW v σ r = σ r.wi then s.ks else addK s.ks (keyOf r.wi) := by
  obtain ⟨A, B, C1, C2⟩ := lw_fold v r (idxs r) s (idxs_nodup r)
  have wl := (wd_le r.wi).2
  have eS : ∀ i : Nat, 0 ≤ r.lo + (i : Int) → sOf r i = ((base r.wi + (r.lo + i).toNat : Nat) : Int) := fun i hi => by unfold sOf; rw [Int.natCast_add, Int.toNat_of_nonneg hi, Int.add_assoc]
  have same : newW v σ r = σ r.wi ↔ ∀ i ∈ idxs r, s.f (sOf r i) = cOf v r i := by
    constructor
    · intro e i hi
      obtain ⟨h1, h2, h3⟩ := mem_idxs.mp hi
      have x := ix h1 h2 h3
      rw [eS i h2, ha r.wi _ ok.wi x.1, ← e, new_bits bd ok _ x.1, if_pos x.2.1, x.2.2]; rfl
    · intro g
      refine pl_ext (wr_bd (bd r.wi) ok.l1 ok.l2) (bd r.wi) fun b hb => ?_
      have nb := new_bits (v := v) bd ok b hb
      show cdI (newW v σ r) b = _
      rw [nb]
      split
      · rename_i c
        have x := ixb c hb
        have := g _ (mem_idxs.mpr x.1)
        rw [eS _ x.1.2.1, x.2, ha r.wi b ok.wi hb] at this
        rw [this]; rfl
      · rfl
  refine ⟨?_, ?_⟩
  · intro j b hj hb
    have hb4 := (wd_le j).2
    unfold lwRow
    by_cases e : j = r.wi
    · subst e
      rw [show upd σ r.wi (newW v σ r) r.wi = newW v σ r by unfold upd; rw [if_pos rfl], new_bits bd ok b hb]
      split
      · rename_i c
        have x := ixb c hb
        have := A _ (mem_idxs.mpr x.1)
        rw [eS _ x.1.2.1, x.2] at this
        rw [this]; rfl
      · rename_i c
        rw [B _ (fun i hi q => ?_)]
        · exact ha _ _ hj hb
        · obtain ⟨h1, h2, h3⟩ := mem_idxs.mp hi
          rw [eS i h2] at q
          exact c (Nat.add_left_cancel (Int.ofNat_inj.mp q) ▸ (ix h1 h2 h3).2.1)
    · rw [show upd σ r.wi (newW v σ r) j = σ j by unfold upd; rw [if_neg e]]
      rw [B _ (fun i hi q => ?_)]
      · exact ha _ _ hj hb
      · obtain ⟨h1, h2, h3⟩ := mem_idxs.mp hi
        rw [eS i h2] at q
        have := (base_inj ok.wi hj (Nat.lt_of_lt_of_le (ix h1 h2 h3).1 (Nat.le_trans wl (by decide))) (Nat.lt_of_lt_of_le hb (Nat.le_trans hb4 (by decide))) (Int.ofNat_inj.mp q)).1
        exact e this.symm
  · unfold lwRow
    by_cases c : newW v σ r = σ r.wi
    · rw [if_pos c, C1 (same.mp c)]
    · rw [if_neg c, C2 (fun g => c (same.mpr g))]
theorem not_good {r : Row} (g : good r = false) : idxs r = [] := by
  unfold good at g; rw [decide_eq_false_iff_not] at g
  refine List.eq_nil_iff_forall_not_mem.mpr fun i hi => ?_
  obtain ⟨h1, h2, h3⟩ := mem_idxs.mp hi
  exact g ⟨Int.lt_of_le_of_lt h2 (Int.add_lt_add_left (Int.ofNat_lt.mpr h1) _), Int.lt_of_le_of_lt (Int.le_add_of_nonneg_right (Int.natCast_nonneg i)) h3⟩
theorem stepRow_bd {v : Pl} {s : SK} {r : Row} {W : Nat} (bd : BdAll s.σ) (ok : r.ok W) : BdAll (stepRow v s r).σ := upd_bd bd (wr_bd (bd r.wi) ok.l1 ok.l2)
/-- the two writes go together -/
theorem writes {v : Pl} {W : Nat} : ∀ (rs : List Row) (σ : Nat → Pl) (f : Int → Int) (ks : List Int), (∀ r ∈ rs, r.ok0 W) → BdAll σ → Agree σ f →
    Agree (stepRows v ⟨σ, ks⟩ (rs.filter good)).σ (lwRows v ⟨f, ks⟩ rs).f ∧ (stepRows v ⟨σ, ks⟩ (rs.filter good)).ks = (lwRows v ⟨f, ks⟩ rs).ks := by
  intro rs
  induction rs with
  | nil =>
    intro _  _  _  _  _  ha
    exact ⟨ha, rfl⟩
  | cons r rs IH =>
    intro σ  f  ks  hr  bd  ha
    have hr0 := hr r (List.mem_cons_self ..)
    have hrs : ∀ x ∈ rs, x.ok0 W := fun x hx => hr x (List.mem_cons_of_mem _ hx)
    cases g : good r with
    | false =>
      rw [List.filter_cons_of_neg (by rw [g]; decide)]
      have : lwRows v ⟨f, ks⟩ (r :: rs) = lwRows v ⟨f, ks⟩ rs := by
        unfold lwRows; rw [List.foldl_cons]; unfold lwRow; rw [not_good g]; rfl
      rw [this]
      exact IH σ f ks hrs bd ha
    | true =>
      rw [List.filter_cons_of_pos g]
      have ok := ok0_good hr0 g
      obtain ⟨A, B⟩ := lwRow_spec (v := v) (s := ⟨f, ks⟩) bd ok ha
      have ih := IH (upd σ r.wi (newW v σ r)) (lwRow v ⟨f, ks⟩ r).f (lwRow v ⟨f, ks⟩ r).ks hrs (stepRow_bd (s := ⟨σ, ks⟩) bd ok) A
      have e1 : stepRows v ⟨σ, ks⟩ (r :: rs.filter good) = stepRows v ⟨upd σ r.wi (newW v σ r), (lwRow v ⟨f, ks⟩ r).ks⟩ (rs.filter good) := by
        unfold stepRows; rw [List.foldl_cons, B]; rfl
      have e2 : lwRows v ⟨f, ks⟩ (r :: rs) = lwRows v ⟨(lwRow v ⟨f, ks⟩ r).f, (lwRow v ⟨f, ks⟩ r).ks⟩ rs := by
        unfold lwRows; rw [List.foldl_cons]
      rw [e1, e2]
      exact ih
theorem intL_map (l : List Int) : intL (l.map .int) = some l := by
  induction l with
  | nil => rfl
  | cons a r ih => rw [List.map_cons, intL, ih]; rfl
noncomputable def writeB : List S := forB (f_law_write_b.getD 1 .bad)
noncomputable def writeC : List S := forB (writeB.getD 0 .bad)
section
variable {n : Nat} {m : Loc} {h : H} {Q : V → H → Prop} {R : Fl → Loc → H → Prop}
theorem pairs_loop {x0 x5 : Option V} {v : Pl} {W l : Nat} {r : Row} (ok : r.ok0 W) (hl : 13 < l) : ∀ (L : List Nat) (s : FK) (h1 : H) (x6 x7 : Option V), (∀ i ∈ L, i ∈ idxs r) → s.ks.length + L.length ≤ 1000 → Held h1 s.f → h1[l]? = some (.list (s.ks.map .int)) →
    (∀ h2 x6 x7, Eff [13, l] h1 h2 → Held h2 (L.foldl (lw v r) s).f → h2[l]? = some (.list ((L.foldl (lw v r) s).ks.map .int)) → (L.foldl (lw v r) s).ks.length ≤ s.ks.length + L.length → R .next [x0, some (.lst ((codesOf W v).map .int)), some (.loc 13), some (.loc l), some (.int (keyOf r.wi)), x5, x6, x7] h2) →
    WF n (.names [6, 7]) writeC (L.map (pairV r)) [x0, some (.lst ((codesOf W v).map .int)), some (.loc 13), some (.loc l), some (.int (keyOf r.wi)), x5, x6, x7] h1 R := by
  intro L
  induction L with
  | nil =>
    intro s  h1  x6  x7  _  _  hd  hg  q
    exact wf_nil (q h1 x6 x7 (Eff.refl _ _) hd hg (Nat.le_refl _))
  | cons i L IH =>
    intro s  h1  x6  x7  hL  hn  hd  hg  q
    have hn2 : s.ks.length + (L.length + 1) ≤ 1000 := hn
    have hm := mem_idxs.mp (hL i (List.mem_cons_self ..))
    have w4 := (wd_le r.wi).2
    have hs : sOf r i ∈ spotL := by
      have : sOf r i = ((base r.wi + (r.lo + i).toNat : Nat) : Int) := by unfold sOf; lia
      rw [this]; exact spot_mem ok.wi (by lia)
    have it : seqItem ((codesOf W v).map V.int) ((r.t + i : Nat) : Int) = some (.int (cOf v r i)) := by
      unfold seqItem
      have := ok.t
      rw [if_pos (by lia), Int.toNat_natCast, List.getElem?_map, codesOf_get (by lia)]; rfl
    rw [List.map_cons]
    refine wf_cons ?_
    show WT _ _ (.tup [.int (r.t + i : Nat), .int (sOf r i)]) _ _ _
    wtm_at "sx"
    refine sub_dict hd (heldKV_get _ _ hs) ?_
    wtm_at "sx"
    refine sub_lst it ?_
    wtm_at "sx"
    by_cases e : s.f (sOf r i) = cOf v r i
    · rw [decide_eq_true e]
      wtm_at "sx"
      have el : lw v r s i = s := by unfold lw; rw [if_pos e]
      refine IH s h1 _ _ (fun x hx => hL x (List.mem_cons_of_mem _ hx)) (by lia) hd hg ?_
      intro h2 y6 y7 e2 d2 g2 n2
      rw [List.foldl_cons, el] at q
      exact q h2 y6 y7 e2 d2 g2 (by rw [List.length_cons]; lia)
    · rw [decide_eq_false e]
      wtm_at "sx"
      refine sub_lst it ?_
      wtm_at "sx"
      refine puts_dict hd (by show (heldKV s.f).length < _; unfold heldKV heldOn; rw [List.length_map]; decide) ?_
      wtm_at "sx"
      rw [heldKV_set _ _ _ hs]
      have g2 : (h1.set 13 (.dict (heldKV (updI s.f (sOf r i) (cOf v r i)))))[l]? = some (.list (s.ks.map .int)) := get_set_ne hg (by lia)
      have d2 : Held (h1.set 13 (.dict (heldKV (updI s.f (sOf r i) (cOf v r i))))) (updI s.f (sOf r i) (cOf v r i)) := get_set_eq hd
      have e13 : Eff [13, l] h1 (h1.set 13 (.dict (heldKV (updI s.f (sOf r i) (cOf v r i))))) := (Eff.refl _ _).set (Or.inl (List.mem_cons_self ..)) _
      have el : lw v r s i = ⟨updI s.f (sOf r i) (cOf v r i), addK s.ks (keyOf r.wi)⟩ := by unfold lw; rw [if_neg e]
      rw [List.foldl_cons, el] at q
      refine cmp_nmem (b := s.ks.contains (keyOf r.wi : Int)) (oL_mk g2 (onS_mk (intL_map _) rfl)) ?_
      by_cases hk : (keyOf r.wi : Int) ∈ s.ks
      · rw [show s.ks.contains (keyOf r.wi : Int) = true from List.contains_iff_mem.mpr hk]
        wtm_at "sx"
        have ek : addK s.ks (keyOf r.wi) = s.ks := by unfold addK; rw [if_pos hk]
        rw [ek] at q
        refine IH ⟨_, s.ks⟩ _ _ _ (fun x hx => hL x (List.mem_cons_of_mem _ hx)) (by show s.ks.length + _ ≤ _; lia) d2 g2 ?_
        intro h2 y6 y7 e2 d3 g3 n3
        exact q h2 y6 y7 (e13.trans e2) d3 g3 (Nat.le_trans n3 (by show s.ks.length + L.length ≤ s.ks.length + (L.length + 1); lia))
      · rw [show s.ks.contains (keyOf r.wi : Int) = false by rw [Bool.eq_false_iff]; exact fun g => hk (List.contains_iff_mem.mp g)]
        wtm_at "sx"
        refine wm_append g2 (by rw [List.length_map]; lia) ?_
        wtm_at "sx"
        have ek : addK s.ks (keyOf r.wi) = s.ks ++ [(keyOf r.wi : Int)] := by unfold addK; rw [if_neg hk]
        rw [ek] at q
        refine IH ⟨_, s.ks ++ [(keyOf r.wi : Int)]⟩ _ _ _ (fun x hx => hL x (List.mem_cons_of_mem _ hx)) (by show (s.ks ++ [_]).length + _ ≤ _; rw [List.length_append]; show s.ks.length + 1 + _ ≤ _; lia) (get_set_ne d2 (by lia)) (by rw [get_set_eq g2, List.map_append]; rfl) ?_
        intro h2 y6 y7 e2 d3 g3 n3
        refine q h2 y6 y7 ((e13.set (Or.inl (List.mem_cons_of_mem _ (List.mem_cons_self ..))) _).trans e2) d3 g3 ?_
        refine Nat.le_trans n3 ?_
        show (s.ks ++ [(keyOf r.wi : Int)]).length + L.length ≤ s.ks.length + (L.length + 1)
        rw [List.length_append]
        show s.ks.length + 1 + L.length ≤ _
        lia
theorem idxs_len {r : Row} {W : Nat} (ok : r.ok0 W) : (idxs r).length ≤ 4 := by
  unfold idxs
  have := List.length_filter_le (inR r) (List.range r.w)
  rw [List.length_range] at this
  have := ok.w2
  lia
theorem write_loop {x0 : Option V} {v : Pl} {W l : Nat} (hl : 13 < l) : ∀ (rs : List Row) (s : FK) (h1 : H) (x4 x5 x6 x7 : Option V), (∀ r ∈ rs, r.ok0 W) → s.ks.length + 4 * rs.length ≤ 60 → Held h1 s.f → h1[l]? = some (.list (s.ks.map .int)) →
    (∀ h2 x4 x5 x6 x7, Eff [13, l] h1 h2 → Held h2 (lwRows v s rs).f → h2[l]? = some (.list ((lwRows v s rs).ks.map .int)) → (lwRows v s rs).ks.length ≤ 60 → R .next [x0, some (.lst ((codesOf W v).map .int)), some (.loc 13), some (.loc l), x4, x5, x6, x7] h2) →
    WF n (.names [4, 5]) writeB (rs.map spotV) [x0, some (.lst ((codesOf W v).map .int)), some (.loc 13), some (.loc l), x4, x5, x6, x7] h1 R := by
  intro rs
  induction rs with
  | nil =>
    intro s  h1  x4  x5  x6  x7  _  hn  hd  hg  q
    exact wf_nil (q h1 x4 x5 x6 x7 (Eff.refl _ _) hd hg hn)
  | cons r rs IH =>
    intro s  h1  x4  x5  x6  x7  hr  hn  hd  hg  q
    have hn2 : s.ks.length + 4 * (rs.length + 1) ≤ 60 := hn
    have ok := hr r (List.mem_cons_self ..)
    have il := idxs_len ok
    rw [List.map_cons]
    refine wf_cons ?_
    show WT _ _ (.tup [.int (keyOf r.wi), .lst ((idxs r).map (pairV r))]) _ _ _
    wtm_at "sx"
    refine ⟨_, rfl, ?_⟩
    refine pairs_loop ok hl (idxs r) s h1 _ _ (fun _ hi => hi) (by lia) hd hg ?_
    intro h2 y6 y7 e2 d2 g2 n2
    wtm_at "sx"
    refine IH (lwRow v s r) h2 _ _ _ _ (fun x hx => hr x (List.mem_cons_of_mem _ hx)) (by
      have : (lwRow v s r).ks.length ≤ s.ks.length + (idxs r).length := n2
      lia) d2 g2 ?_
    intro h3 y4 y5 y6 y7 e3 d3 g3 n3
    exact q h3 y4 y5 y6 y7 (e2.trans e3) d3 g3 n3
theorem c_write {f : Int → Int} {v : Pl} {W : Nat} {rs : List Row} (hl36 : 36 ≤ h.length) (hd : Held h f) (hr : ∀ r ∈ rs, r.ok0 W) (hn : rs.length ≤ 10)
    (q : ∀ h', Eff [13] h h' → Held h' (lwRows v ⟨f, []⟩ rs).f → Q (.lst ((sortInts (lwRows v ⟨f, []⟩ rs).ks).map .int)) h') : WC (n + 1) 38 [.lst (rs.map spotV), .lst ((codesOf W v).map .int), .loc 13] h Q := by
  wtm_at "fn"
  refine ⟨_, rfl, ?_⟩
  have hd1 : Held (h ++ [.list []]) f := get_app hd
  refine write_loop (l := h.length) (by lia) rs ⟨f, []⟩ (h ++ [.list []]) none none none none hr (by simp; lia) hd1 get_last ?_
  intro h2 x4 x5 x6 x7 e2 d2 g2 n2
  wtm_at "sx"
  refine wb_sortl g2 (intL_map _) (by lia) ?_
  wtm_at "sx"
  refine ⟨_, get_last, ?_⟩
  wtm_at "sx"
  rw [set_last]
  refine q _ (((((Eff.refl [13] h).app [.list []]).transN e2 (fun n hn => ?_)).app _)) (get_app d2)
  simp only [List.mem_cons, List.not_mem_nil, or_false] at hn
  rcases hn with rfl | rfl
  · exact Or.inl (List.mem_singleton.mpr rfl)
  · exact Or.inr (Nat.le_refl _)
end
end
section
/-! ### the host -/
noncomputable def hostF : List (Nat × V) := [(43, .int (-1)), (44, .loc 18), (45, .int 0), (2, .loc 19), (26, .str 28), (46, .loc 21), (47, .loc 22), (48, .int (-1)), (49, .loc 23), (50, .bool false), (51, .non), (52, .int 0), (53, .bool false), (54, .bool false),
  (13, .loc 24), (9, .clo 65 [.loc 10]), (12, .clo 66 [.loc 10]), (10, .clo 67 []), (11, .clo 68 [.loc 17, .loc 10])]
noncomputable def thrF : List (Nat × V) := [(43, .int 0), (44, .loc 30), (45, .int 0), (2, .loc 31), (26, .str 34), (46, .loc 33), (47, .loc 34), (48, .int (-1)), (49, .loc 35), (50, .bool false), (51, .non), (52, .int 0), (53, .bool false), (54, .bool false)]
structure St (h : H) (F d : Int) : Prop where
  fx : Fx h F d
  ho : h[20]? = some (.inst 2 hostF)
  th : h[32]? = some (.inst 2 thrF)
  tb : ∃ l, h[0]? = some (.tab l)
noncomputable def stL : List Nat := [0, 4, 5, 6, 7, 8, 9, 10, 20, 32]
theorem St.eff {h h' : H} {F d : Int} {S : List Nat} (f : St h F d) (e : Eff S h h') (hS : ∀ n ∈ stL, n ∉ S) : St h' F d := by
  obtain ⟨⟨dd, nm, s0, s1, s2, s3, sg, st⟩, ho, th, l, tb⟩ := f
  exact ⟨⟨dd, e.eq _ _ (hS _ (by decide)) nm, e.eq _ _ (hS _ (by decide)) s0, e.eq _ _ (hS _ (by decide)) s1, e.eq _ _ (hS _ (by decide)) s2, e.eq _ _ (hS _ (by decide)) s3, e.eq _ _ (hS _ (by decide)) sg, e.eq _ _ (hS _ (by decide)) st⟩, e.eq _ _ (hS _ (by decide)) ho, e.eq _ _ (hS _ (by decide)) th, l, e.eq _ _ (hS _ (by decide)) tb⟩
theorem Env.mk' {h : H} {F d : Int} {σ : Nat → Pl} {M : Option Nat} (fx : Fx h F d) (s : Sto h σ M) (fr nw : V) : Env (h ++ [.inst 4 [(0, .loc 10), (2, fr), (24, nw)]]) F d σ M h.length :=
  ⟨fx.eff ((Eff.refl [] h).app _) (by simp), s.eff ((Eff.refl [] h).app _) (by simp), fr, nw, get_last⟩
section
variable {n : Nat} {m : Loc} {h : H} {Q : V → H → Prop} {R : Fl → Loc → H → Prop}
theorem c_ctx {fr : V} {Q : H → Prop} (q : Q (h ++ [.inst 4 [(0, .loc 10), (2, fr), (24, .int 0)]])) : WC (n + 1) 59 [.loc h.length, .loc 10, fr, .int 0] (h ++ [.inst 4 []]) (fun r h2 => r = .non ∧ Q h2) := by
  wtm_at "fn"
  refine ⟨rfl, ?_⟩
  simp only [set_last]
  exact q
theorem c_context {F d : Int} (s : St h F d) (q : Q (.loc h.length) (h ++ [.inst 4 [(0, .loc 10), (2, .loc 31), (24, .int 0)]])) : WC (n + 2) 65 [.loc 32, .loc 10] h Q := by
  have th := s.th
  wtm_at "fn"
  exact c_ctx q
theorem c_now {F d : Int} {σ : Nat → Pl} {M : Option Nat} {e : E} (s : St h F d) (sto : Sto h σ M) (he : e.ok) (q : ∀ h', Eff [] h h' → Q (vv e.w (e.ev σ).1 (e.ev σ).2) h') : WC (n + 6) 66 [.loc 32, e.v, .loc 10] h Q := by
  have th := s.th
  wtm_at "fn"
  refine c_ctx ?_
  wtm_at "sx"
  refine c_eval (Env.mk' s.fx sto _ _) he ?_
  exact q _ ((Eff.refl _ _).app _)
theorem c_closed {c : Nat} {fs : List (Nat × V)} (hc : h[c]? = some (.inst 4 fs)) (hl : fs.length < 100) (q : Q .non (h.set c (.inst 4 (setF fs 24 (.int 1))))) : WC (n + 1) 67 [.loc c] h Q := by
  wtm_at "fn"
  refine ⟨_, _, hc, ⟨rfl, hl⟩, ?_⟩
  wtm_at "sx"
  exact q
theorem c_written {F d : Int} {σ : Nat → Pl} {M : Option Nat} {W : Nat} {v : Pl} {rs : List Row} {tl : List V} (s : St h F d) (sto : Sto h σ M) (hl36 : 36 ≤ h.length) (hW : W ≤ 10) (hr : ∀ r ∈ rs, r.ok W) (hn : rs.length ≤ 50) (ht : h[17]? = some (.list tl)) (hn2 : tl.length < 100)
    (q : ∀ h' M', Eff (17 :: Sto.foot M) h h' → MNew h M M' → Sto h' (stepRows v ⟨σ, []⟩ rs).σ M' → h'[17]? = some (.list (tl ++ [.lst ((sortInts (stepRows v ⟨σ, []⟩ rs).ks).map .int)])) → Q .non h') :
    WC (n + 6) 68 [.lst (rs.map Row.v), vv W v.1 v.2, .loc 31, .loc 17, .loc 10] h Q := by
  wtm_at "fn"
  refine c_ctx ?_
  wtm_at "sx"
  refine c_store_rows (Env.mk' s.fx sto _ _) (by rw [List.length_append]; lia) hW hr hn ?_
  intro h1 M1 e1 mn1 s1
  wtm_at "sx"
  have nf : 17 ∉ Sto.foot M := not_foot sto ht (fun _ q => by cases q)
  have e2 : Eff (Sto.foot M) h h1 := Eff.trans ((Eff.refl _ h).app _) e1
  have ht1 := e2.eq _ _ nf ht
  refine wm_append ht1 (by lia) ?_
  wtm_at "sx"
  refine q _ M1 ((e2.sub (fun n hn => List.mem_cons_of_mem _ hn)).set (Or.inl (List.mem_cons_self ..)) _) ?_ ?_ (get_set_eq ht1)
  · rcases mn1 with rfl | ⟨l, rfl, hl⟩
    · exact Or.inl rfl
    · refine Or.inr ⟨l, rfl, ?_⟩
      rw [List.length_append] at hl; lia
  · refine s1.eff (S := [17]) ((Eff.refl _ _).set (Or.inl (List.mem_singleton.mpr rfl)) _) (fun n hn => ?_)
    rw [List.mem_singleton] at hn; subst hn
    exact not_foot s1 ht1 (fun _ q => by cases q)
theorem c_assign {F d : Int} {σ : Nat → Pl} {M : Option Nat} {lv : Lv} {v : Pl} {tl : List V} (s : St h F d) (sto : Sto h σ M) (hl36 : 36 ≤ h.length) (hl : lv.ok) (ht : h[17]? = some (.list tl)) (hn2 : tl.length < 100)
    (q : ∀ h' M', Eff (17 :: Sto.foot M) h h' → MNew h M M' → Sto h' (stepRows v ⟨σ, []⟩ (lv.rows F d σ)).σ M' → h'[17]? = some (.list (tl ++ [.lst ((sortInts (stepRows v ⟨σ, []⟩ (lv.rows F d σ)).ks).map .int)])) → Q .non h') :
    WC (n + 9) 24 [.loc 20, .loc 32, lv.v, vv lv.W v.1 v.2] h Q := by
  obtain ⟨fx, ho, th⟩ := id s
  wtm_at "fn"
  refine c_context s ?_
  wtm_at "sx"
  refine c_resolve (Env.mk' fx sto _ _) hl ?_
  wtm_at "sx"
  have hc : ((h ++ [O.inst 4 [(0, .loc 10), (2, .loc 31), (24, .int 0)]]) ++ [O.dead])[h.length]? = some (O.inst 4 [(0, .loc 10), (2, .loc 31), (24, .int 0)]) := get_app get_last
  refine c_closed hc (by decide) ?_
  have e1 : Eff [] h ((((h ++ [O.inst 4 [(0, .loc 10), (2, .loc 31), (24, .int 0)]]) ++ [O.dead])).set h.length (.inst 4 (setF [(0, .loc 10), (2, .loc 31), (24, .int 0)] 24 (.int 1)))) := (((Eff.refl _ _).app _).app _).set (Or.inr (Nat.le_refl _)) _
  generalize (((h ++ [O.inst 4 [(0, .loc 10), (2, .loc 31), (24, .int 0)]]) ++ [O.dead])).set h.length (.inst 4 (setF [(0, .loc 10), (2, .loc 31), (24, .int 0)] 24 (.int 1))) = h1 at e1 ⊢
  have ho1 := e1.eq _ _ (by simp) ho
  have th1 := e1.eq _ _ (by simp) th
  wtm_at "sx"
  refine c_written (n := n + 2) (s.eff e1 (by simp)) (sto.eff e1 (by simp)) (Nat.le_trans hl36 e1.len) hl.W2 (rows_ok lv.ps lv.W hl.ps (by rw [hl.W]; exact Nat.le_refl _) (Nat.le_refl _)) (Nat.le_trans (rows_len _ _) (by have := hl.n; lia)) (e1.eq _ _ (by simp) ht) hn2 ?_
  intro h' M' e2 mn s' ht'
  wtm_at "sx"
  refine q h' M' ((e1.sub (by simp)).trans e2) ?_ s' ht'
  rcases mn with rfl | ⟨l, rfl, hl⟩
  · exact Or.inl rfl
  · exact Or.inr ⟨l, rfl, Nat.le_trans e1.len hl⟩
end
end
section
/-! ### the queue -/
noncomputable def evT (e : V) : V := .tup [.str 16, e]
noncomputable def kd (kl : List (Int × Nat)) : List (Int × V) := kl.map fun p => (p.1, .loc p.2)
def QL (W x : Nat) : Prop := (x = 25 ∨ x = 27 ∨ x = 28 ∨ 38 ≤ x) ∧ x ≠ W
noncomputable def qf (t : Int) (A hd N L : Nat) : List (Nat × V) := [(24, .int t), (35, .loc A), (36, .int hd), (37, .loc 26), (38, .loc N), (39, .loc L), (40, .loc 29)]
structure QF (h : H) (W : Nat) (t : Int) (act : List V) (hd : Nat) (nba : List V) (P : Int → List V) (B : Nat) (A N L : Nat) (kl : List (Int × Nat)) : Prop where
  q : h[24]? = some (.inst 1 (qf t A hd N L))
  a : h[A]? = some (.list act)
  i : h[26]? = some (.list [])
  n : h[N]? = some (.list nba)
  l : h[L]? = some (.list [])
  d : h[29]? = some (.dict (kd kl))
  k : ∀ p ∈ kl, t < p.1 ∧ P p.1 ≠ [] ∧ h[p.2]? = some (.list ((P p.1).map evT))
  c : ∀ T, P T ≠ [] → T ∈ kl.map (·.1)
  nd : (26 :: A :: N :: L :: kl.map (·.2)).Nodup
  ok : ∀ x ∈ A :: N :: L :: kl.map (·.2), QL W x
  kn : (kl.map (·.1)).Nodup
  b : kl.length ≤ B
def Qc (h : H) (W : Nat) (t : Int) (act : List V) (hd : Nat) (nba : List V) (P : Int → List V) (B : Nat) : Prop := ∃ A N L kl, QF h W t act hd nba P B A N L kl
def QS (h : H) (W : Nat) (S : List Nat) : Prop := ∀ x ∈ S, x = 24 ∨ x = 29 ∨ (QL W x ∧ ∀ kv, h[x]? ≠ some (.dict kv))
theorem notDict {h : H} {x : Nat} {l : List V} (e : h[x]? = some (.list l)) : ∀ kv, h[x]? ≠ some (.dict kv) := fun kv q => by rw [e] at q; cases q
theorem kd_get {kl : List (Int × Nat)} (hn : (kl.map (·.1)).Nodup) {p : Int × Nat} (hp : p ∈ kl) : getKV (kd kl) p.1 = some (.loc p.2) := by
  induction kl with
  | nil => cases hp
  | cons a r ih =>
    rw [List.map_cons, List.nodup_cons] at hn
    show getKV ((a.1, V.loc a.2) :: kd r) p.1 = _
    rw [getKV_cons]
    rcases List.mem_cons.mp hp with rfl | hp
    · simp
    · rw [if_neg]
      · exact ih hn.2 hp
      · intro q; exact hn.1 (q ▸ List.mem_map_of_mem hp)
theorem kd_none {kl : List (Int × Nat)} {T : Int} (hT : T ∉ kl.map (·.1)) : getKV (kd kl) T = none := by
  induction kl with
  | nil => rfl
  | cons a r ih =>
    rw [List.map_cons, List.mem_cons, not_or] at hT
    show getKV ((a.1, V.loc a.2) :: kd r) T = _
    rw [getKV_cons, if_neg (fun q => hT.1 q.symm)]
    exact ih hT.2
theorem kd_set {kl : List (Int × Nat)} {T : Int} (hT : T ∉ kl.map (·.1)) (l : Nat) : setKV (kd kl) T (.loc l) = kd (kl ++ [(T, l)]) := by
  unfold setKV
  rw [any_getKV, kd_none hT]
  unfold kd
  rw [List.map_append]; rfl
theorem kd_del (kl : List (Int × Nat)) (T : Int) : delKV (kd kl) T = kd (kl.filter fun p => decide (p.1 ≠ T)) := by
  unfold delKV kd
  rw [List.filter_map]; rfl
theorem kd_keys (kl : List (Int × Nat)) : (kd kl).map (·.1) = kl.map (·.1) := by unfold kd; rw [List.map_map]; rfl
/-- a heap that agrees at all that the queue holds -/
theorem QF.lt {h : H} {W : Nat} {t : Int} {act : List V} {hd : Nat} {nba : List V} {P : Int → List V} {B A N L : Nat} {kl : List (Int × Nat)} (g : QF h W t act hd nba P B A N L kl) : ∀ x ∈ 26 :: A :: N :: L :: kl.map (·.2), x < h.length := by
  intro x hx
  simp only [List.mem_cons] at hx
  rcases hx with rfl | rfl | rfl | rfl | hx
  · exact get_lt g.i
  · exact get_lt g.a
  · exact get_lt g.n
  · exact get_lt g.l
  · obtain ⟨p, hp, rfl⟩ := List.mem_map.mp hx
    exact get_lt (g.k p hp).2.2
theorem QF.ne24 {h : H} {W : Nat} {t : Int} {act : List V} {hd : Nat} {nba : List V} {P : Int → List V} {B A N L : Nat} {kl : List (Int × Nat)} (g : QF h W t act hd nba P B A N L kl) : ∀ x ∈ 26 :: A :: N :: L :: kl.map (·.2), 24 ≠ x ∧ 29 ≠ x := by
  intro x hx
  rcases List.mem_cons.mp hx with rfl | hx
  · decide
  · have := (g.ok x hx).1; lia
theorem QF.eff {h h' : H} {W : Nat} {t : Int} {act : List V} {hd : Nat} {nba : List V} {P : Int → List V} {B A N L : Nat} {kl : List (Int × Nat)} {S : List Nat} (g : QF h W t act hd nba P B A N L kl) (e : Eff S h h')
    (hS : ∀ x ∈ 24 :: 29 :: 26 :: A :: N :: L :: kl.map (·.2), x ∉ S) : QF h' W t act hd nba P B A N L kl :=
  ⟨e.eq _ _ (hS _ (by simp)) g.q, e.eq _ _ (hS _ (by simp)) g.a, e.eq _ _ (hS _ (by simp)) g.i, e.eq _ _ (hS _ (by simp)) g.n, e.eq _ _ (hS _ (by simp)) g.l, e.eq _ _ (hS _ (by simp)) g.d,
    fun p hp => ⟨(g.k p hp).1, (g.k p hp).2.1, e.eq _ _ (hS _ (by simp only [List.mem_cons]; exact Or.inr (Or.inr (Or.inr (Or.inr (Or.inr (Or.inr (List.mem_map_of_mem hp)))))))) (g.k p hp).2.2⟩, g.c, g.nd, g.ok, g.kn, g.b⟩
section
variable {n : Nat} {m : Loc} {h : H} {Q : V → H → Prop} {R : Fl → Loc → H → Prop} {W : Nat} {t : Int} {act : List V} {hd : Nat} {nba : List V} {P : Int → List V} {B A N L : Nat} {kl : List (Int × Nat)}
/-- the heap after an append to the next updates -/
theorem QF.setN (g : QF h W t act hd nba P B A N L kl) (nba' : List V) : QF (h.set N (.list nba')) W t act hd nba' P B A N L kl := by
  have nd := g.nd
  simp only [List.nodup_cons, List.mem_cons, not_or] at nd
  obtain ⟨⟨n1, n2, n3, n4⟩, ⟨n5, n6, n7⟩, ⟨n8, n9⟩, n10, n11⟩ := nd
  have n24 := g.ne24 N (by simp)
  refine ⟨get_set_ne g.q (fun q => n24.1 q.symm), get_set_ne g.a (fun q => n5 q.symm), get_set_ne g.i (fun q => n2 q.symm), get_set_eq g.n, get_set_ne g.l n8, get_set_ne g.d (fun q => n24.2 q.symm), fun p hp => ⟨(g.k p hp).1, (g.k p hp).2.1, get_set_ne (g.k p hp).2.2 (fun q => n9 (q ▸ List.mem_map_of_mem hp))⟩, g.c, g.nd, g.ok, g.kn, g.b⟩
theorem QF.effN (g : QF h W t act hd nba P B A N L kl) (o : O) : ∃ S, QS h W S ∧ Eff S h (h.set N o) :=
  ⟨[N], fun x hx => by rw [List.mem_singleton] at hx; subst hx; exact Or.inr (Or.inr ⟨g.ok _ (by simp), notDict g.n⟩), (Eff.refl _ _).set (Or.inl (List.mem_singleton.mpr rfl)) _⟩
theorem c_add {e : V} (g : QF h W t act hd nba P B A N L kl) (hn : nba.length < 1000) (q : Q .non (h.set N (.list (nba ++ [e])))) : WC (n + 1) 48 [.loc 24, .str 16, e] h Q := by
  obtain ⟨gq, ga, gi, gn, gl, gd, gk, gc, gnd, gok, gkn, gb⟩ := id g
  wtm_at "fn"
  refine wm_append gn (by lia) ?_
  wtm_at "sx"
  exact q
theorem c_after0 {e : V} (g : QF h W t act hd nba P B A N L kl) (hn : nba.length < 1000) (q : ∀ h', (∃ S, QS h W S ∧ Eff S h h') → Qc h' W t act hd (nba ++ [e]) P B → Q .non h') : WC (n + 2) 49 [.loc 24, .int 0, e, .str 16] h Q := by
  obtain ⟨gq, ga, gi, gn, gl, gd, gk, gc, gnd, gok, gkn, gb⟩ := id g
  wtm_at "fn"
  refine c_add g hn ?_
  wtm_at "sx"
  exact q _ (g.effN _) ⟨A, N, L, kl, g.setN _⟩
theorem c_afterN {e : V} {dl : Int} (g : QF h W t act hd nba P B A N L kl) (hW : W < h.length) (hW38 : 38 ≤ W) (hdl : 0 < dl) (hB : B < 1000) (hP : ∀ T, (P T).length < 1000) (q : ∀ h', (∃ S, QS h W S ∧ Eff S h h') → Qc h' W t act hd nba (fun T => if T = t + dl then P T ++ [e] else P T) (B + 1) → Q .non h') : WC (n + 2) 49 [.loc 24, .int dl, e, .str 16] h Q := by
  obtain ⟨gq, ga, gi, gn, gl, gd, gk, gc, gnd, gok, gkn, gb⟩ := id g
  have nd := g.nd
  wtm_at "fn"
  refine br_f (decide_eq_false (by lia)) ?_
  wtm_at "sx"
  by_cases hT : (t + dl) ∈ kl.map (·.1)
  · obtain ⟨p, hp, ep⟩ := List.mem_map.mp hT
    refine cmp_nmem (b := true) (by simp only [mem, gd]; show some (getKV (kd kl) _).isSome = _; rw [← ep, kd_get gkn hp]; rfl) ?_
    wtm_at "sx"
    have hl := (gk p hp).2.2
    refine sub_dict gd (by rw [← ep]; exact kd_get gkn hp) ?_
    wtm_at "sx"
    refine wm_append hl (by rw [List.length_map]; have := hP p.1; lia) ?_
    wtm_at "sx"
    have pm : p.2 ∈ 26 :: A :: N :: L :: kl.map (·.2) := by simp only [List.mem_cons]; exact Or.inr (Or.inr (Or.inr (Or.inr (List.mem_map_of_mem hp))))
    have n24 := g.ne24 p.2 pm
    refine q _ ⟨[p.2], fun x hx => by
      rw [List.mem_singleton] at hx; subst hx
      refine Or.inr (Or.inr ⟨gok _ (by simp only [List.mem_cons]; exact Or.inr (Or.inr (Or.inr (List.mem_map_of_mem hp)))), notDict hl⟩), (Eff.refl _ _).set (Or.inl (List.mem_singleton.mpr rfl)) _⟩ ⟨A, N, L, kl, ?_⟩
    simp only [List.nodup_cons, List.mem_cons, not_or] at nd
    obtain ⟨⟨n1, n2, n3, n4⟩, ⟨n5, n6, n7⟩, ⟨n8, n9⟩, n10, n11⟩ := nd
    have pk : p.2 ∈ kl.map (·.2) := List.mem_map_of_mem hp
    refine ⟨get_set_ne gq (fun q => n24.1 q.symm), get_set_ne ga (fun q => n7 (q ▸ pk)), get_set_ne gi (fun q => n4 (q ▸ pk)), get_set_ne gn (fun q => n9 (q ▸ pk)), get_set_ne gl (fun q => n10 (q ▸ pk)), get_set_ne gd (fun q => n24.2 q.symm), fun p' hp' => ⟨(gk p' hp').1, ?_, ?_⟩, fun T hT' => ?_, g.nd, gok, gkn, by lia⟩
    · split
      · simp
      · exact (gk p' hp').2.1
    · by_cases e1 : p'.1 = t + dl
      · have : p' = p := by
          have i1 := kd_get gkn hp'
          have i2 := kd_get gkn hp
          rw [ep, ← e1, i1] at i2
          exact Prod.ext (e1.trans ep.symm) (by injection (Option.some.inj i2))
        subst this
        rw [if_pos e1, get_set_eq hl, List.map_append]; rfl
      · rw [if_neg e1]
        refine get_set_ne (gk p' hp').2.2 (fun q2 => ?_)
        -- equal places, other times: against the distinct places
        have : ∀ (l : List (Int × Nat)), (l.map (·.2)).Nodup → p ∈ l → p' ∈ l → p.2 = p'.2 → p = p' := by
          intro l
          induction l with
          | nil => intro _ h; cases h
          | cons a r ih =>
            intro hn h1 h2 h3
            rw [List.map_cons, List.nodup_cons] at hn
            rcases List.mem_cons.mp h1 with a1 | a1 <;> rcases List.mem_cons.mp h2 with a2 | a2
            · rw [a1, a2]
            · exact absurd (by rw [← a1, h3]; exact List.mem_map_of_mem a2) hn.1
            · exact absurd (by rw [← a2, ← h3]; exact List.mem_map_of_mem a1) hn.1
            · exact ih hn.2 a1 a2 h3
        have := this kl n11 hp hp' q2
        subst this
        exact e1 ep
    · by_cases e1 : T = t + dl
      · rw [e1]; exact hT
      · rw [if_neg e1] at hT'; exact gc T hT'
  · refine cmp_nmem (b := false) (by simp only [mem, gd]; show some (getKV (kd kl) _).isSome = _; rw [kd_none hT]; rfl) ?_
    wtm_at "sx"
    refine puts_dict (get_app gd) (by unfold kd; rw [List.length_map]; lia) ?_
    wtm_at "sx"
    rw [kd_set hT]
    have hP0 : P (t + dl) = [] := Classical.byContradiction fun c => hT (gc _ c)
    have lt := g.lt
    have l29 : 29 < h.length := get_lt gd
    have gd2 : ((h ++ [O.list []]).set 29 (.dict (kd (kl ++ [(t + dl, h.length)]))))[29]? = some (.dict (kd (kl ++ [(t + dl, h.length)]))) := get_set_eq (get_app gd)
    have kn2 : ((kl ++ [(t + dl, h.length)]).map (·.1)).Nodup := by
      rw [List.map_append, List.nodup_append]
      refine ⟨gkn, by simp, fun a ha b hb => ?_⟩
      rw [List.map_cons, List.map_nil, List.mem_singleton] at hb
      subst hb
      exact fun q => hT (by rw [← show a = t + dl from q]; exact ha)
    refine sub_dict gd2 (kd_get kn2 (p := (t + dl, h.length)) (by simp)) ?_
    wtm_at "sx"
    have gl2 : ((h ++ [O.list []]).set 29 (.dict (kd (kl ++ [(t + dl, h.length)]))))[h.length]? = some (.list []) := get_set_ne get_last (by lia)
    refine wm_append gl2 (by decide) ?_
    wtm_at "sx"
    refine q _ ⟨[29], fun x hx => by rw [List.mem_singleton] at hx; exact Or.inr (Or.inl hx), (((Eff.refl _ _).app _).set (Or.inl (List.mem_singleton.mpr rfl)) _).set (Or.inr (Nat.le_refl _)) _⟩ ⟨A, N, L, kl ++ [(t + dl, h.length)], ?_⟩
    have K : ∀ x o, x ∈ 26 :: A :: N :: L :: kl.map (·.2) → h[x]? = some o → (((h ++ [O.list []]).set 29 (.dict (kd (kl ++ [(t + dl, h.length)])))).set h.length (.list ([] ++ [V.tup [.str 16, e]])))[x]? = some o := fun x o hx ho => by
      have := lt x hx
      exact get_set_ne (get_set_ne (get_app ho) (g.ne24 x hx).2) (by lia)
    refine ⟨get_set_ne (get_set_ne (get_app gq) (by decide)) (by lia), K _ _ (by simp) ga, K _ _ (by simp) gi, K _ _ (by simp) gn, K _ _ (by simp) gl, get_set_ne gd2 (by lia), fun p' hp' => ?_, fun T hT' => ?_, ?_, ?_, kn2, by rw [List.length_append]; show kl.length + 1 ≤ _; lia⟩
    · rcases List.mem_append.mp hp' with hp' | hp'
      · have e1 : p'.1 ≠ t + dl := fun q => hT (q ▸ List.mem_map_of_mem hp')
        rw [if_neg e1]
        refine ⟨(gk p' hp').1, (gk p' hp').2.1, K _ _ ?_ (gk p' hp').2.2⟩
        simp only [List.mem_cons]; exact Or.inr (Or.inr (Or.inr (Or.inr (List.mem_map_of_mem hp'))))
      · rw [List.mem_singleton] at hp'
        subst hp'
        rw [if_pos rfl, hP0]
        exact ⟨by show t < t + dl; lia, by simp, get_set_eq gl2⟩
    · rw [List.map_append, List.mem_append]
      by_cases e1 : T = t + dl
      · right; rw [e1]; simp
      · rw [if_neg e1] at hT'; exact Or.inl (gc T hT')
    · rw [List.map_append]
      have : (26 :: A :: N :: L :: (kl.map (·.2) ++ [(t + dl, h.length)].map (·.2))) = (26 :: A :: N :: L :: kl.map (·.2)) ++ [h.length] := rfl
      rw [this, List.nodup_append]
      refine ⟨g.nd, by simp, fun a ha b hb => ?_⟩
      rw [List.mem_singleton] at hb; subst hb
      have := lt a ha
      lia
    · intro x hx
      rw [List.map_append] at hx
      have hx' : x ∈ (A :: N :: L :: kl.map (·.2)) ++ [h.length] := hx
      rcases List.mem_append.mp hx' with hx' | hx'
      · exact gok x hx'
      · rw [List.mem_singleton] at hx'; subst hx'
        refine ⟨?_, by lia⟩
        lia
end
end
section
theorem minInts_spec : ∀ (l : List Int) (m : Int), minInts m l ∈ m :: l ∧ ∀ z ∈ m :: l, minInts m l ≤ z := by
  intro l
  induction l with
  | nil =>
    intro m
    exact by unfold minInts; simp
  | cons x r IH =>
    intro m
    obtain ⟨h1, h2⟩ := IH (if x < m then x else m)
    unfold minInts
    refine ⟨?_, fun z hz => ?_⟩
    · rcases List.mem_cons.mp h1 with e | e
      · rw [e]; split <;> simp
      · simp [e]
    · have h3 := h2 _ (List.mem_cons_self ..)
      have h4 : (if x < m then x else m) ≤ x ∧ (if x < m then x else m) ≤ m := by split <;> lia
      simp only [List.mem_cons] at hz
      rcases hz with rfl | rfl | hz
      · exact Int.le_trans h3 h4.2
      · exact Int.le_trans h3 h4.1
      · exact h2 z (List.mem_cons_of_mem _ hz)
theorem minInts_eq {x y : Int} {r s : List Int} (h : ∀ z, z ∈ x :: r ↔ z ∈ y :: s) : minInts x r = minInts y s := by
  obtain ⟨a1, a2⟩ := minInts_spec r x
  obtain ⟨b1, b2⟩ := minInts_spec s y
  have := a2 _ ((h _).mpr b1)
  have := b2 _ ((h _).mp a1)
  lia
section
variable {n : Nat} {m : Loc} {h : H} {Q : V → H → Prop} {R : Fl → Loc → H → Prop} {W : Nat} {t : Int} {act : List V} {hd : Nat} {nba : List V} {P : Int → List V} {B A N L : Nat} {kl : List (Int × Nat)}
theorem QF.re {h' : H} {act' nba' : List V} {hd' A' N' L' : Nat} (g : QF h W t act hd nba P B A N L kl) (e : Eff [24] h h') (q' : h'[24]? = some (.inst 1 (qf t A' hd' N' L'))) (a' : h'[A']? = some (.list act')) (n' : h'[N']? = some (.list nba')) (l' : h'[L']? = some (.list []))
    (nd' : (26 :: A' :: N' :: L' :: kl.map (·.2)).Nodup) (ok' : ∀ x ∈ [A', N', L'], QL W x) : QF h' W t act' hd' nba' P B A' N' L' kl := by
  refine ⟨q', a', e.eq _ _ (by decide) g.i, n', l', e.eq _ _ (by decide) g.d, fun p hp => ⟨(g.k p hp).1, (g.k p hp).2.1, e.eq _ _ ?_ (g.k p hp).2.2⟩, g.c, nd', fun x hx => ?_, g.kn, g.b⟩
  · rw [List.mem_singleton]
    exact fun q => (g.ne24 p.2 (by simp only [List.mem_cons]; exact Or.inr (Or.inr (Or.inr (Or.inr (List.mem_map_of_mem hp)))))).1 q.symm
  · simp only [List.mem_cons] at hx
    rcases hx with rfl | rfl | rfl | hx
    · exact ok' _ (by simp)
    · exact ok' _ (by simp)
    · exact ok' _ (by simp)
    · exact g.ok x (by simp only [List.mem_cons]; exact Or.inr (Or.inr (Or.inr hx)))
theorem QS.q24 : QS h W [24] := fun x hx => Or.inl (List.mem_singleton.mp hx)
theorem c_refill0 (g : QF h W t act hd [] P B A N L kl) (hW : W < h.length) (hW38 : 38 ≤ W) (q : ∀ h', (∃ S, QS h W S ∧ Eff S h h') → Qc h' W t [] 0 [] P B → Q (.bool false) h') : WC (n + 1) 50 [.loc 24] h Q := by
  obtain ⟨gq, ga, gi, gn, gl, gd, gk, gc, gnd, gok, gkn, gb⟩ := id g
  have nA := (g.ne24 A (by simp)).1
  have nN := (g.ne24 N (by simp)).1
  have nL := (g.ne24 L (by simp)).1
  have lt := g.lt
  have l24 := get_lt gq
  wtm_at "fn"
  rw [List.length_set, List.length_set]
  refine q _ ⟨[24], QS.q24, ?_⟩ ⟨L, N, h.length, kl, ?_⟩
  · exact ((((Eff.refl [24] h).set (Or.inl (by simp)) _).set (Or.inl (by simp)) _).app _).set (Or.inl (by simp)) _
  · refine g.re (((((Eff.refl [24] h).set (Or.inl (by simp)) _).set (Or.inl (by simp)) _).app _).set (Or.inl (by simp)) _) ?_ ?_ ?_ ?_ ?_ ?_
    · exact get_set_eq (get_app (get_set_eq (get_set_eq gq)))
    · exact get_set_ne (get_app (get_set_ne (get_set_ne gl nL) nL)) nL
    · exact get_set_ne (get_app (get_set_ne (get_set_ne gn nN) nN)) nN
    · have : ((h.set 24 (O.inst 1 (setF (qf t A hd N L) 36 (V.int 0)))).set 24 (O.inst 1 (setF (setF (qf t A hd N L) 36 (V.int 0)) 35 (V.loc L)))).length = h.length := by rw [List.length_set, List.length_set]
      refine get_set_ne ?_ (by lia)
      rw [← this]; exact get_last
    · have b1 := lt 26 (by simp)
      have b2 := lt L (by simp)
      have b3 := lt N (by simp)
      have b4 : h.length ∉ kl.map (·.2) := fun hm => by have := lt _ (by simp only [List.mem_cons]; exact Or.inr (Or.inr (Or.inr (Or.inr hm)))); lia
      simp only [List.nodup_cons, List.mem_cons, not_or] at gnd ⊢
      obtain ⟨⟨n1, n2, n3, n4⟩, ⟨n5, n6, n7⟩, ⟨n8, n9⟩, n10, n11⟩ := gnd
      exact ⟨⟨n3, n2, by lia, n4⟩, ⟨fun q => n8 q.symm, by lia, n10⟩, ⟨by lia, n9⟩, b4, n11⟩
    · intro x hx
      simp only [List.mem_cons, List.not_mem_nil, or_false] at hx
      rcases hx with rfl | rfl | rfl
      · exact gok _ (by simp)
      · exact gok _ (by simp)
      · exact ⟨by lia, by lia⟩
theorem c_refill1 {e : V} {r : List V} (g : QF h W t act hd (e :: r) P B A N L kl) (hW : W < h.length) (hW38 : 38 ≤ W) (q : ∀ h', (∃ S, QS h W S ∧ Eff S h h') → Qc h' W t (e :: r) 0 [] P B → Q (.bool true) h') : WC (n + 1) 50 [.loc 24] h Q := by
  obtain ⟨gq, ga, gi, gn, gl, gd, gk, gc, gnd, gok, gkn, gb⟩ := id g
  have nA := (g.ne24 A (by simp)).1
  have nN := (g.ne24 N (by simp)).1
  have nL := (g.ne24 L (by simp)).1
  have lt := g.lt
  have l24 := get_lt gq
  wtm_at "fn"
  refine br_t (decide_eq_true (by rw [List.length_cons]; lia)) ?_
  wtm_at "sx"
  rw [decide_eq_true (show ((e :: r).length : Int) > 0 by rw [List.length_cons]; lia)]
  refine q _ ⟨[24], QS.q24, ?_⟩ ⟨N, h.length, L, kl, ?_⟩
  · exact ((((Eff.refl [24] h).set (Or.inl (by simp)) _).set (Or.inl (by simp)) _).app _).set (Or.inl (by simp)) _
  · refine g.re (((((Eff.refl [24] h).set (Or.inl (by simp)) _).set (Or.inl (by simp)) _).app _).set (Or.inl (by simp)) _) ?_ ?_ ?_ ?_ ?_ ?_
    · have : ((h.set 24 (O.inst 1 (setF (qf t A hd N L) 36 (V.int 0)))).set 24 (O.inst 1 (setF (setF (qf t A hd N L) 36 (V.int 0)) 35 (V.loc N)))).length = h.length := by rw [List.length_set, List.length_set]
      rw [this]
      exact get_set_eq (get_app (get_set_eq (get_set_eq gq)))
    · exact get_set_ne (get_app (get_set_ne (get_set_ne gn nN) nN)) nN
    · have : ((h.set 24 (O.inst 1 (setF (qf t A hd N L) 36 (V.int 0)))).set 24 (O.inst 1 (setF (setF (qf t A hd N L) 36 (V.int 0)) 35 (V.loc N)))).length = h.length := by rw [List.length_set, List.length_set]
      refine get_set_ne ?_ (by lia)
      rw [← this]; exact get_last
    · exact get_set_ne (get_app (get_set_ne (get_set_ne gl nL) nL)) nL
    · have b1 := lt 26 (by simp)
      have b2 := lt L (by simp)
      have b3 := lt N (by simp)
      have b4 : h.length ∉ kl.map (·.2) := fun hm => by have := lt _ (by simp only [List.mem_cons]; exact Or.inr (Or.inr (Or.inr (Or.inr hm)))); lia
      simp only [List.nodup_cons, List.mem_cons, not_or] at gnd ⊢
      obtain ⟨⟨n1, n2, n3, n4⟩, ⟨n5, n6, n7⟩, ⟨n8, n9⟩, n10, n11⟩ := gnd
      exact ⟨⟨n2, by lia, n3, n4⟩, ⟨by lia, n8, n9⟩, ⟨by lia, b4⟩, n10, n11⟩
    · intro x hx
      simp only [List.mem_cons, List.not_mem_nil, or_false] at hx
      rcases hx with rfl | rfl | rfl
      · exact gok _ (by simp)
      · exact ⟨by lia, by lia⟩
      · exact gok _ (by simp)
/-- the tail of take -/
theorem take_tail {e : V} {x1 : Option V} (g : QF h W t act hd nba P B A N L kl) (he : act[hd]? = some e) (q : ∀ h', (∃ S, QS h W S ∧ Eff S h h') → Qc h' W t act (hd + 1) nba P B → Q e h') : WS n (f_EventQueue_take_b.drop 1) [some (.loc 24), x1] h (kR Q) := by
  obtain ⟨gq, ga, gi, gn, gl, gd, gk, gc, gnd, gok, gkn, gb⟩ := id g
  have nA := (g.ne24 A (by simp)).1
  have nN := (g.ne24 N (by simp)).1
  have nL := (g.ne24 L (by simp)).1
  wtm_at "sx"
  refine sub_list ga (v := e) (by unfold seqItem; rw [if_pos (by lia), Int.toNat_natCast]; exact he) ?_
  wtm_at "sx"
  refine w1_augA ?_
  wtm_at "sx"
  refine augS_mk gq rfl rfl ?_
  wtm_at "sx"
  refine augE_mk gq rfl (Nat.le_of_ble_eq_true rfl) ?_
  wtm_at "sx"
  have e1 : Eff [24] h (h.set 24 (.inst 1 (setF (qf t A hd N L) 36 (.int ((hd : Int) + 1))))) := (Eff.refl [24] h).set (Or.inl (by simp)) _
  refine q _ ⟨[24], QS.q24, e1⟩ ⟨A, N, L, kl, g.re e1 (get_set_eq gq) (get_set_ne ga nA) (get_set_ne gn nN) (get_set_ne gl nL) gnd (fun x hx => ?_)⟩
  simp only [List.mem_cons, List.not_mem_nil, or_false] at hx
  rcases hx with rfl | rfl | rfl <;> exact gok _ (by simp)
theorem c_takeB {e : V} (g : Qc h W t act hd nba P B) (he : act[hd]? = some e) (q : ∀ h', (∃ S, QS h W S ∧ Eff S h h') → Qc h' W t act (hd + 1) nba P B → Q e h') : WC (n + 1) 51 [.loc 24] h Q := by
  obtain ⟨A, N, L, kl, g⟩ := g
  have hlt := (List.getElem?_eq_some_iff.mp he).1
  obtain ⟨gq, ga, gi, gn, gl, gd, gk, gc, gnd, gok, gkn, gb⟩ := id g
  wtm_at "fn"
  refine br_f (decide_eq_false (by lia)) ?_
  refine tru_b ?_
  refine br_false ?_
  refine ws_nil ?_
  exact take_tail g he q
/-- two effects on the queue one after the other -/
theorem qs_comp {h h1 h2 : H} {W : Nat} (a : ∃ S, QS h W S ∧ Eff S h h1) (b : ∃ S, QS h1 W S ∧ Eff S h1 h2) : ∃ S, QS h W S ∧ Eff S h h2 := by
  obtain ⟨S1, q1, e1⟩ := a
  obtain ⟨S2, q2, e2⟩ := b
  refine ⟨S1 ++ S2.filter (fun x => decide (x < h.length)), fun x hx => ?_, ?_⟩
  · rcases List.mem_append.mp hx with hx | hx
    · exact q1 x hx
    · rw [List.mem_filter, decide_eq_true_eq] at hx
      rcases q2 x hx.1 with c | c | ⟨c, hl⟩
      · exact Or.inl c
      · exact Or.inr (Or.inl c)
      · by_cases m : x ∈ S1
        · exact q1 x m
        · exact Or.inr (Or.inr ⟨c, fun kv q => hl kv (e1.eq _ _ m q)⟩)
  · refine (e1.sub (fun n hn => List.mem_append_left _ hn)).transN e2 (fun n hn => ?_)
    by_cases c : n < h.length
    · exact Or.inl (List.mem_append_right _ (List.mem_filter.mpr ⟨hn, decide_eq_true c⟩))
    · exact Or.inr (by lia)
theorem c_takeC (g : Qc h W t act act.length [] P B) (hW : W < h.length) (hW38 : 38 ≤ W) (q : ∀ h', (∃ S, QS h W S ∧ Eff S h h') → Qc h' W t [] 0 [] P B → Q .non h') : WC (n + 2) 51 [.loc 24] h Q := by
  obtain ⟨A, N, L, kl, g⟩ := g
  obtain ⟨gq, ga, gi, gn, gl, gd, gk, gc, gnd, gok, gkn, gb⟩ := id g
  wtm_at "fn"
  refine br_t (decide_eq_true rfl) ?_
  wtm_at "sx"
  refine c_refill0 g hW hW38 ?_
  intro h1 e1 g1
  wtm_at "sx"
  exact q h1 e1 g1
theorem c_takeA {e : V} {r : List V} (g : Qc h W t act act.length (e :: r) P B) (hW : W < h.length) (hW38 : 38 ≤ W) (q : ∀ h', (∃ S, QS h W S ∧ Eff S h h') → Qc h' W t (e :: r) 1 [] P B → Q e h') : WC (n + 2) 51 [.loc 24] h Q := by
  obtain ⟨A, N, L, kl, g⟩ := g
  obtain ⟨gq, ga, gi, gn, gl, gd, gk, gc, gnd, gok, gkn, gb⟩ := id g
  wtm_at "fn"
  refine br_t (decide_eq_true rfl) ?_
  wtm_at "sx"
  refine c_refill1 g hW hW38 ?_
  intro h1 e1 g1
  obtain ⟨A1, N1, L1, kl1, g1⟩ := g1
  refine tru_b ?_
  refine tru_b ?_
  refine br_false ?_
  refine ws_nil ?_
  exact take_tail g1 rfl (fun h' e2 g2 => q h' (qs_comp e1 e2) g2)
theorem c_next0 (g : QF h W t act hd nba P B A N L []) (q : Q (.int (-1)) h) : WC (n + 1) 52 [.loc 24] h Q := by
  obtain ⟨gq, ga, gi, gn, gl, gd, gk, gc, gnd, gok, gkn, gb⟩ := id g
  have gd0 : h[29]? = some (.dict []) := gd
  wtm_at "fn"
  exact q
theorem c_next1 {p : Int × Nat} {r : List (Int × Nat)} (g : QF h W t act hd nba P B A N L (p :: r)) (q : Q (.int (minInts p.1 (r.map (·.1)))) h) : WC (n + 1) 52 [.loc 24] h Q := by
  obtain ⟨gq, ga, gi, gn, gl, gd, gk, gc, gnd, gok, gkn, gb⟩ := id g
  wtm_at "fn"
  refine wb_mind gd (by rw [kd_keys]; rfl) ?_
  wtm_at "sx"
  exact q
theorem snd_inj : ∀ (l : List (Int × Nat)) (p p' : Int × Nat), (l.map (·.2)).Nodup → p ∈ l → p' ∈ l → p.2 = p'.2 → p = p' := by
  intro l
  induction l with
  | nil =>
    intro _  _  _  h  _  _
    exact by cases h
  | cons a r IH =>
    intro p  p'  hn  h1  h2  h3
    rw [List.map_cons, List.nodup_cons] at hn
    rcases List.mem_cons.mp h1 with a1 | a1 <;> rcases List.mem_cons.mp h2 with a2 | a2
    · rw [a1, a2]
    · exact absurd (by rw [← a1, h3]; exact List.mem_map_of_mem a2) hn.1
    · exact absurd (by rw [← a2, ← h3]; exact List.mem_map_of_mem a1) hn.1
    · exact IH p p' hn.2 a1 a2 h3
noncomputable def advB : List S := forB (f_EventQueue_advance_b.getD 4 .bad)
theorem adv_loop {x1 x2 : Option V} : ∀ (es : List V) (nba : List V) (h1 : H) (x3 x4 : Option V), QF h1 W t act hd nba P B A N L kl → nba.length + es.length < 1000 →
    (∀ h2 x3 x4, QF h2 W t act hd (nba ++ es) P B A N L kl → Eff [N] h1 h2 → R .next [some (.loc 24), x1, x2, x3, x4] h2) →
    WF (n + 1) (.names [3, 4]) advB (es.map evT) [some (.loc 24), x1, x2, x3, x4] h1 R := by
  intro es
  induction es with
  | nil =>
    intro nba  h1  x3  x4  g  _  q
    exact wf_nil (q h1 x3 x4 (by rw [List.append_nil]; exact g) (Eff.refl _ _))
  | cons e es IH =>
    intro nba  h1  x3  x4  g  hn  q
    have hn2 : nba.length + (es.length + 1) < 1000 := hn
    have gq := g.q
    rw [List.map_cons]
    refine wf_cons ?_
    show WT _ _ (.tup [.str 16, e]) _ _ _
    wtm_at "sx"
    refine c_add g (by lia) ?_
    wtm_at "sx"
    refine IH (nba ++ [e]) _ _ _ (g.setN _) (by rw [List.length_append]; show nba.length + 1 + es.length < 1000; lia) ?_
    intro h2 y3 y4 g2 e2
    refine q h2 y3 y4 (by rw [List.append_assoc] at g2; exact g2) (((Eff.refl _ _).set (Or.inl (List.mem_singleton.mpr rfl)) _).trans e2)
theorem c_advance0 (g : Qc h W t act hd nba P B) (hP : ∀ T, P T = []) (q : Q (.bool false) h) : WC (n + 2) 53 [.loc 24] h Q := by
  obtain ⟨A, N, L, kl, g⟩ := g
  have hk : kl = [] := by
    cases kl with
    | nil => rfl
    | cons p r => exact absurd (hP _) (g.k p (List.mem_cons_self ..)).2.1
  subst hk
  have gq := g.q
  wtm_at "fn"
  refine c_next0 g ?_
  wtm_at "sx"
  exact q
theorem c_advance1 (g : Qc h W t act hd [] P B) (ht : 0 ≤ t) (hW38 : 38 ≤ W) (hP : ∀ T, (P T).length < 900) (hne : ∃ T, P T ≠ []) (q : ∀ h' T, (∃ S, QS h W S ∧ Eff S h h') → t < T → P T ≠ [] → (∀ T', P T' ≠ [] → T ≤ T') → Qc h' W T act hd (P T) (fun T' => if T' = T then [] else P T') B → Q (.bool true) h') : WC (n + 2) 53 [.loc 24] h Q := by
  obtain ⟨A, N, L, kl, g⟩ := g
  obtain ⟨T0, hT0⟩ := hne
  cases kl with
  | nil => exact absurd (g.c T0 hT0) (by simp)
  | cons p r =>
    obtain ⟨gq, ga, gi, gn, gl, gd, gk, gc, gnd, gok, gkn, gb⟩ := id g
    obtain ⟨m1, m2⟩ := minInts_spec (r.map (·.1)) p.1
    have hmem : minInts p.1 (r.map (·.1)) ∈ (p :: r).map (·.1) := m1
    have hmin : ∀ z ∈ (p :: r).map (·.1), minInts p.1 (r.map (·.1)) ≤ z := m2
    obtain ⟨pT, hpT, epT⟩ := List.mem_map.mp hmem
    have kT := gk pT hpT
    wtm_at "fn"
    refine c_next1 g ?_
    generalize minInts p.1 (r.map (·.1)) = T at hmem hmin epT ⊢
    subst epT
    wtm_at "sx"
    refine br_f (decide_eq_false (by lia)) ?_
    wtm_at "sx"
    refine wm_popd gd (kd_get gkn hpT) ?_
    wtm_at "sx"
    rw [kd_del]
    have lt := g.lt
    have pm : pT.2 ∈ 26 :: A :: N :: L :: (p :: r).map (·.2) := by simp only [List.mem_cons]; exact Or.inr (Or.inr (Or.inr (Or.inr (List.mem_map_of_mem hpT))))
    have nT := g.ne24 _ pm
    have hl : (h.set 29 (O.dict (kd ((p :: r).filter fun p => decide (p.1 ≠ pT.1)))))[pT.2]? = some (.list ((P pT.1).map evT)) := get_set_ne kT.2.2 nT.2
    have gq3 : ((h.set 29 (O.dict (kd ((p :: r).filter fun p => decide (p.1 ≠ pT.1))))).set pT.2 O.dead)[24]? = some (O.inst 1 (qf t A hd N L)) := get_set_ne (get_set_ne gq (by decide)) (fun q => nT.1 q.symm)
    refine ⟨_, hl, ?_⟩
    wtm_at "sx"
    refine ⟨_, rfl, ?_⟩
    have sub : ((p :: r).filter fun p => decide (p.1 ≠ pT.1)).Sublist (p :: r) := List.filter_sublist
    have nd := gnd
    have kn1 : ((p :: r).map (·.2)).Nodup := by
      simp only [List.nodup_cons] at nd
      exact nd.2.2.2.2
    have pl : pT.2 ∈ (p :: r).map (·.2) := List.mem_map_of_mem hpT
    have K : ∀ x o, 24 ≠ x → 29 ≠ x → pT.2 ≠ x → h[x]? = some o → (((h.set 29 (O.dict (kd ((p :: r).filter fun p => decide (p.1 ≠ pT.1))))).set pT.2 O.dead).set 24 (O.inst 1 (setF (qf t A hd N L) 24 (V.int pT.1))))[x]? = some o := fun x o h1 h2 h3 ho => get_set_ne (get_set_ne (get_set_ne ho h2) h3) h1
    have nA := g.ne24 A (by simp)
    have nN := g.ne24 N (by simp)
    have nL := g.ne24 L (by simp)
    have g3 : QF (((h.set 29 (O.dict (kd ((p :: r).filter fun p => decide (p.1 ≠ pT.1))))).set pT.2 O.dead).set 24 (O.inst 1 (setF (qf t A hd N L) 24 (V.int pT.1)))) W pT.1 act hd [] (fun T' => if T' = pT.1 then [] else P T') B A N L ((p :: r).filter fun p => decide (p.1 ≠ pT.1)) := by
      simp only [List.nodup_cons, List.mem_cons, not_or] at nd
      obtain ⟨⟨n1, n2, n3, n4⟩, ⟨n5, n6, n7⟩, ⟨n8, n9⟩, n10, n11⟩ := nd
      have ne1 : ∀ x, x ∉ (p :: r).map (·.2) → pT.2 ≠ x := fun x hx q => hx (q ▸ pl)
      refine ⟨get_set_eq gq3, K _ _ nA.1 nA.2 (ne1 _ n7) ga, K _ _ (by decide) (by decide) (ne1 _ n4) gi, K _ _ nN.1 nN.2 (ne1 _ n9) gn, K _ _ nL.1 nL.2 (ne1 _ n10) gl, get_set_ne (get_set_ne (get_set_eq gd) (fun q => nT.2 q.symm)) (by decide), fun p' hp' => ?_, fun T hT => ?_, ?_, ?_, ?_, ?_⟩
      · rw [List.mem_filter, decide_eq_true_eq] at hp'
        have k' := gk p' hp'.1
        have nP := g.ne24 p'.2 (by simp only [List.mem_cons]; exact Or.inr (Or.inr (Or.inr (Or.inr (List.mem_map_of_mem hp'.1)))))
        have hm := hmin p'.1 (List.mem_map_of_mem hp'.1)
        rw [if_neg hp'.2]
        exact ⟨by have := hp'.2; lia, k'.2.1, K _ _ nP.1 nP.2 (fun q => hp'.2 (by rw [snd_inj _ _ _ kn1 hpT hp'.1 q])) k'.2.2⟩
      · by_cases e1 : T = pT.1
        · rw [if_pos e1] at hT; exact absurd rfl hT
        · rw [if_neg e1] at hT
          obtain ⟨p', hp', ep'⟩ := List.mem_map.mp (gc T hT)
          exact List.mem_map.mpr ⟨p', List.mem_filter.mpr ⟨hp', decide_eq_true (fun q => e1 (ep' ▸ q))⟩, ep'⟩
      · exact List.Sublist.nodup ((((sub.map (·.2)).cons_cons L).cons_cons N).cons_cons A |>.cons_cons 26) gnd
      · intro x hx
        refine gok x ?_
        simp only [List.mem_cons] at hx ⊢
        rcases hx with c | c | c | c
        · exact Or.inl c
        · exact Or.inr (Or.inl c)
        · exact Or.inr (Or.inr (Or.inl c))
        · exact Or.inr (Or.inr (Or.inr ((sub.map (·.2)).subset c)))
      · exact List.Sublist.nodup (sub.map (·.1)) gkn
      · exact Nat.le_trans (List.Sublist.length_le sub) gb
    refine adv_loop (P pT.1) [] _ none none g3 (by have := hP pT.1; simp; lia) ?_
    intro h2 y3 y4 g4 e4
    wtm_at "sx"
    refine q h2 pT.1 ⟨[29, pT.2, 24, N], fun x hx => ?_, ?_⟩ kT.1 kT.2.1 (fun T' hT' => hmin T' (gc T' hT')) ⟨A, N, L, _, g4⟩
    · simp only [List.mem_cons, List.not_mem_nil, or_false] at hx
      rcases hx with rfl | rfl | rfl | rfl
      · exact Or.inr (Or.inl rfl)
      · exact Or.inr (Or.inr ⟨gok _ (by simp only [List.mem_cons]; exact Or.inr (Or.inr (Or.inr pl))), notDict kT.2.2⟩)
      · exact Or.inl rfl
      · exact Or.inr (Or.inr ⟨gok _ (by simp), notDict gn⟩)
    · have s1 : Eff [29, pT.2, 24, N] h (((h.set 29 (O.dict (kd ((p :: r).filter fun p => decide (p.1 ≠ pT.1))))).set pT.2 O.dead).set 24 (O.inst 1 (setF (qf t A hd N L) 24 (V.int pT.1)))) :=
        (((Eff.refl _ _).set (Or.inl (by simp)) _).set (Or.inl (by simp)) _).set (Or.inl (by simp)) _
      exact s1.trans (e4.sub (by simp))
end
end
section
/-! ### an assignment for later -/
theorem toI_nonneg {w a b : Nat} {i : Int} (h : toI w a b false = some i) : 0 ≤ i := by
  unfold toI at h
  split at h
  · cases h
  · simp only [Bool.false_eq_true, false_and, if_false] at h
    cases h; lia
noncomputable def delN (σ : Nat → Pl) : Option E → Int
  | none => 0
  | some e => (e.num σ false).getD 0
theorem delN_nonneg (σ : Nat → Pl) (o : Option E) : 0 ≤ delN σ o := by
  cases o with
  | none => exact Int.le_refl _
  | some e =>
    show 0 ≤ (e.num σ false).getD 0
    cases h : e.num σ false with
    | none => exact Int.le_refl _
    | some i => exact toI_nonneg h
noncomputable def dV : Option E → V
  | none => .non
  | some e => e.v
theorem QF.mono {h : H} {W : Nat} {t : Int} {act : List V} {hd : Nat} {nba : List V} {P : Int → List V} {B B' A N L : Nat} {kl : List (Int × Nat)} (g : QF h W t act hd nba P B A N L kl) (hB : B ≤ B') : QF h W t act hd nba P B' A N L kl :=
  ⟨g.q, g.a, g.i, g.n, g.l, g.d, g.k, g.c, g.nd, g.ok, g.kn, Nat.le_trans g.b hB⟩
theorem Qc.eff0 {h h' : H} {W : Nat} {t : Int} {act : List V} {hd : Nat} {nba : List V} {P : Int → List V} {B : Nat} (g : Qc h W t act hd nba P B) (e : Eff [] h h') : Qc h' W t act hd nba P B := by
  obtain ⟨A, N, L, kl, g⟩ := g
  exact ⟨A, N, L, kl, g.eff e (by simp)⟩
theorem qs_pre {h h1 h2 : H} {W : Nat} (e1 : Eff [] h h1) (b : ∃ S, QS h1 W S ∧ Eff S h1 h2) : ∃ S, QS h W S ∧ Eff S h h2 :=
  qs_comp ⟨[], (fun x hx => by cases hx), e1⟩ b
noncomputable def nbaAdd (D : Int) (ev : V) (nba : List V) : List V := if D = 0 then nba ++ [ev] else nba
noncomputable def PAdd (t D : Int) (ev : V) (P : Int → List V) (T : Int) : List V := if D = 0 then P T else if T = t + D then P T ++ [ev] else P T
section
variable {n : Nat} {m : Loc} {h : H} {Q : V → H → Prop} {R : Fl → Loc → H → Prop} {W : Nat} {t : Int} {act : List V} {hd : Nat} {nba : List V} {P : Int → List V} {B : Nat}
theorem c_delay {w a b : Nat} (hw : 1 ≤ w ∧ w ≤ 1000) (q : Q (.int ((toI w a b false).getD 0)) h) : WC (n + 2) 23 [vv w a b] h Q := by
  wtm_at "fn"
  refine c_to_int hw ?_
  wtm_at "sx"
  rcases oV_none_or (toI w a b false) with ⟨e1, e2⟩ | ⟨i, e1, e2⟩
  · rw [e2]
    wtm_at "sx"
    rw [e1] at q; exact q
  · rw [e2]
    wtm_at "sx"
    rw [e1] at q; exact q
noncomputable def deedV (lv : Lv) (e : E) (d : Option E) : V := .tup [.str 16, lv.v, e.v, dV d]
noncomputable def upV (F d : Int) (σ : Nat → Pl) (lv : Lv) (e : E) : V := .tup [.str 15, .lst ((lv.rows F d σ).map Row.v), vv e.w (e.ev σ).1 (e.ev σ).2]
theorem c_later {F d : Int} {σ : Nat → Pl} {M : Option Nat} {lv : Lv} {e : E} {de : Option E} (s : St h F d) (sto : Sto h σ M) (hl : lv.ok) (he : e.ok) (hde : ∀ x, de = some x → x.ok)
    (g : Qc h W t act hd nba P B) (hW : W < h.length) (hW38 : 38 ≤ W) (hB : B < 1000) (hn : nba.length < 1000) (hP : ∀ T, (P T).length < 1000)
    (q : ∀ h', (∃ S, QS h W S ∧ Eff S h h') → Qc h' W t act hd (nbaAdd (delN σ de) (upV F d σ lv e) nba) (PAdd t (delN σ de) (upV F d σ lv e) P) (B + 1) → Q .non h') :
    WC (n + 9) 25 [.loc 20, .loc 32, deedV lv e de] h Q := by
  obtain ⟨fx, ho, th⟩ := id s
  show WC (n + 9) 25 [.loc 20, .loc 32, .tup [.str 16, lv.v, e.v, dV de]] h Q
  wtm_at "fn"
  refine c_now (n := n + 2) s sto he ?_
  intro h1 e1
  have ho1 := e1.eq _ _ (by simp) ho
  have s1 := s.eff e1 (by simp)
  have sto1 := sto.eff e1 (by simp)
  have th1 := s1.th
  wtm_at "sx"
  refine c_context s1 ?_
  wtm_at "sx"
  refine c_resolve (Env.mk' s1.fx sto1 _ _) hl ?_
  wtm_at "sx"
  have hc : ((h1 ++ [O.inst 4 [(0, .loc 10), (2, .loc 31), (24, .int 0)]]) ++ [O.dead])[h1.length]? = some (O.inst 4 [(0, .loc 10), (2, .loc 31), (24, .int 0)]) := get_app get_last
  refine c_closed hc (by decide) ?_
  have e2 : Eff [] h ((((h1 ++ [O.inst 4 [(0, .loc 10), (2, .loc 31), (24, .int 0)]]) ++ [O.dead])).set h1.length (.inst 4 (setF [(0, .loc 10), (2, .loc 31), (24, .int 0)] 24 (.int 1)))) := ((e1.app _).app _).set (Or.inr e1.len) _
  generalize (((h1 ++ [O.inst 4 [(0, .loc 10), (2, .loc 31), (24, .int 0)]]) ++ [O.dead])).set h1.length (.inst 4 (setF [(0, .loc 10), (2, .loc 31), (24, .int 0)] 24 (.int 1))) = h2 at e2 ⊢
  have ho2 := e2.eq _ _ (by simp) ho
  have s2 := s.eff e2 (by simp)
  have sto2 := sto.eff e2 (by simp)
  have g2 := g.eff0 e2
  obtain ⟨A, N, L, kl, g2⟩ := g2
  have gq2 := g2.q
  cases de with
  | none =>
    show WS (n + 8) _ [_, _, some (.tup [.str 16, lv.v, e.v, .non]), _, _, _] _ _
    wtm_at "sx"
    refine c_add g2 hn ?_
    wtm_at "sx"
    refine q _ (qs_pre e2 (g2.effN _)) ⟨A, N, L, kl, ?_⟩
    have e3 : nbaAdd (delN σ none) (upV F d σ lv e) nba = nba ++ [upV F d σ lv e] := by unfold nbaAdd delN; rw [if_pos rfl]
    have e4 : PAdd t (delN σ none) (upV F d σ lv e) P = P := by funext T; unfold PAdd delN; rw [if_pos rfl]
    rw [e3, e4]
    exact (g2.setN _).mono (Nat.le_succ _)
  | some de =>
    have hd := hde de rfl
    have dw := E.w_ok hd
    show WS (n + 8) _ [_, _, some (.tup [.str 16, lv.v, e.v, de.v]), _, _, _] _ _
    wtm_at "sx"
    refine cmp_isn (x := de.v) ?_
    rw [show de.v.isNone = false by cases de <;> rfl]
    wtm_at "sx"
    refine c_now (n := n + 2) s2 sto2 hd ?_
    intro h3 e3
    wtm_at "sx"
    refine c_delay ⟨by lia, by lia⟩ ?_
    wtm_at "sx"
    have g3 := g2.eff e3 (by simp)
    have e23 := e2.trans e3
    have hD : (toI de.w (de.ev σ).1 (de.ev σ).2 false).getD 0 = delN σ (some de) := rfl
    rw [hD]
    have hnn := delN_nonneg σ (some de)
    by_cases hz : delN σ (some de) = 0
    · rw [hz]
      refine c_after0 g3 hn ?_
      intro h4 e4 g4
      wtm_at "sx"
      refine q h4 (qs_pre e23 e4) ?_
      obtain ⟨A', N', L', kl', g4⟩ := g4
      refine ⟨A', N', L', kl', ?_⟩
      have e5 : nbaAdd (delN σ (some de)) (upV F d σ lv e) nba = nba ++ [upV F d σ lv e] := by unfold nbaAdd; rw [if_pos hz]
      have e6 : PAdd t (delN σ (some de)) (upV F d σ lv e) P = P := by funext T; unfold PAdd; rw [if_pos hz]
      rw [e5, e6]
      exact g4.mono (Nat.le_succ _)
    · refine c_afterN g3 (Nat.lt_of_lt_of_le hW e23.len) hW38 (by lia) hB hP ?_
      intro h4 e4 g4
      wtm_at "sx"
      refine q h4 (qs_pre e23 e4) ?_
      have e5 : nbaAdd (delN σ (some de)) (upV F d σ lv e) nba = nba := by unfold nbaAdd; rw [if_neg hz]
      have e6 : PAdd t (delN σ (some de)) (upV F d σ lv e) P = fun T => if T = t + delN σ (some de) then P T ++ [upV F d σ lv e] else P T := by funext T; unfold PAdd; rw [if_neg hz]
      rw [e5, e6]
      exact g4
end
end
section
/-! ### the state of the loop -/
structure Up where
  rs : List Row
  v : Pl
  W : Nat
structure Up.ok (u : Up) : Prop where
  rs : ∀ r ∈ u.rs, r.ok0 u.W
  n : u.rs.length ≤ 10
  W : u.W ≤ 10
noncomputable def Up.ev (u : Up) : V := .tup [.str 15, .lst ((u.rs.filter good).map Row.v), vv u.W u.v.1 u.v.2]
noncomputable def waV (p : Int × Up) : V := .tup [.int p.1, .lst (p.2.rs.map spotV), .lst ((codesOf p.2.W p.2.v).map .int)]
noncomputable def evs (pend : List (Int × Up)) (T : Int) : List V := (pend.filter fun p => decide (p.1 = T)).map fun p => p.2.ev
noncomputable def POf (pend : List (Int × Up)) (t T : Int) : List V := if t < T then evs pend T else []
theorem evs_app (pend : List (Int × Up)) (T : Int) (u : Up) (T' : Int) : evs (pend ++ [(T, u)]) T' = if T' = T then evs pend T' ++ [u.ev] else evs pend T' := by
  unfold evs
  rw [List.filter_append, List.map_append]
  by_cases e : T' = T
  · subst e; simp
  · have : ¬ T = T' := fun q => e q.symm
    simp [e, this]
theorem evs_len (pend : List (Int × Up)) (T : Int) : (evs pend T).length ≤ pend.length := by
  unfold evs; rw [List.length_map]; exact List.length_filter_le _ _
structure Inv (h : H) (F d : Int) (σ : Nat → Pl) (f : Int → Int) (M : Option Nat) (t : Int) (pend : List (Int × Up)) (W : Nat) (Bs : List V) (act : List V) (hd : Nat) (B : Nat) : Prop where
  st : St h F d
  sto : Sto h σ M
  hf : Held h f
  ag : Agree σ f
  to : h[17]? = some (.list [])
  wa : h[W]? = some (.list (pend.map waV))
  bu : h[37]? = some (.list Bs)
  qu : Qc h W t act hd (evs pend t) (POf pend t) B
  W38 : 38 ≤ W
  ok : ∀ p ∈ pend, p.2.ok ∧ t ≤ p.1
  t0 : 0 ≤ t
  ln : pend.length ≤ B
theorem Inv.lt {h : H} {F d : Int} {σ : Nat → Pl} {f : Int → Int} {M : Option Nat} {t : Int} {pend : List (Int × Up)} {W : Nat} {Bs act : List V} {hd B : Nat} (v : Inv h F d σ f M t pend W Bs act hd B) : W < h.length := get_lt v.wa
theorem Inv.eff0 {h h' : H} {F d : Int} {σ : Nat → Pl} {f : Int → Int} {M : Option Nat} {t : Int} {pend : List (Int × Up)} {W : Nat} {Bs act : List V} {hd B : Nat} (v : Inv h F d σ f M t pend W Bs act hd B) (e : Eff [] h h') : Inv h' F d σ f M t pend W Bs act hd B :=
  ⟨v.st.eff e (by simp), v.sto.eff e (by simp), e.eq _ _ (by simp) v.hf, v.ag, e.eq _ _ (by simp) v.to, e.eq _ _ (by simp) v.wa, e.eq _ _ (by simp) v.bu, v.qu.eff0 e, v.W38, v.ok, v.t0, v.ln⟩
theorem Sto.foot_cl {h : H} {σ : Nat → Pl} {M : Option Nat} (s : Sto h σ M) {x : Nat} (hx : x ∈ Sto.foot M) : x ≠ 13 ∧ x ≠ 24 ∧ x ≠ 29 := by
  unfold Sto.foot at hx
  simp only [List.mem_cons] at hx
  rcases hx with rfl | rfl | c
  · decide
  · decide
  · cases M with
    | none => cases c
    | some l =>
      simp only [Option.toList_some, List.mem_singleton] at c
      have := s.me.2.1; subst c
      exact ⟨by lia, by lia, by lia⟩
theorem St.nd {h : H} {F d : Int} (s : St h F d) : ∀ y ∈ stL, ∀ kv, h[y]? ≠ some (.dict kv) := by
  obtain ⟨⟨dd, nm, s0, s1, s2, s3, sg, st⟩, ho, th, l, tb⟩ := s
  have k : ∀ {x : Nat} {o : O}, h[x]? = some o → (∀ kv, o ≠ .dict kv) → ∀ kv, h[x]? ≠ some (.dict kv) := fun e n kv q => n kv (Option.some.inj (e.symm.trans q))
  simp only [stL, List.forall_mem_cons]
  exact ⟨k tb nofun, notDict nm, k s0 nofun, k s1 nofun, k s2 nofun, k s3 nofun, notDict sg, k st nofun, k ho nofun, k th nofun, nofun⟩
theorem QF.eff1 {h h' : H} {W : Nat} {t : Int} {act : List V} {hd : Nat} {nba : List V} {P : Int → List V} {B A N L : Nat} {kl : List (Int × Nat)} (g : QF h W t act hd nba P B A N L kl) {x : Nat} (hx : ∀ y, QL W y → y ≠ x) (h3 : 24 ≠ x ∧ 29 ≠ x ∧ 26 ≠ x) (e : Eff [x] h h') : QF h' W t act hd nba P B A N L kl := by
  have k : ∀ y ∈ A :: N :: L :: kl.map (·.2), y ∉ [x] := fun y hy hm => hx y (g.ok y hy) (List.mem_singleton.mp hm)
  refine g.eff e ?_
  simp only [List.forall_mem_cons] at k ⊢
  exact ⟨fun hm => h3.1 (List.mem_singleton.mp hm), fun hm => h3.2.1 (List.mem_singleton.mp hm), fun hm => h3.2.2 (List.mem_singleton.mp hm), k⟩
/-- the queue stands where only the store, the held bits and the signals told change -/
theorem Qc.effS {h h' : H} {σ : Nat → Pl} {M : Option Nat} {W : Nat} {t : Int} {act : List V} {hd : Nat} {nba : List V} {P : Int → List V} {B : Nat} {S : List Nat} (g : Qc h W t act hd nba P B) (s : Sto h σ M) (e : Eff S h h') (hS : ∀ x ∈ S, x = 17 ∨ x = 13 ∨ x ∈ Sto.foot M) : Qc h' W t act hd nba P B := by
  obtain ⟨A, N, L, kl, g⟩ := g
  refine ⟨A, N, L, kl, g.eff e fun x hx hs => ?_⟩
  have c := hS x hs
  have key : (∀ kv, h[x]? ≠ some (.dict kv)) → x ≠ 17 → x ≠ 13 → False := fun h1 h2 h3 => by
    rcases c with c | c | c
    · exact h2 c
    · exact h3 c
    · obtain ⟨kv, e2⟩ := s.foot_dict x c
      exact h1 kv e2
  have ql : ∀ y, QL W y → y ≠ 17 ∧ y ≠ 13 := fun y hy => by have := hy.1; lia
  simp only [List.mem_cons] at hx
  rcases hx with rfl | rfl | rfl | rfl | rfl | rfl | hx
  · exact key (fun kv q => by rw [g.q] at q; cases q) (by decide) (by decide)
  · rcases c with c | c | c
    · cases c
    · cases c
    · exact (s.foot_cl c).2.2 rfl
  · exact key (notDict g.i) (by decide) (by decide)
  · exact key (notDict g.a) (ql _ (g.ok _ (by simp))).1 (ql _ (g.ok _ (by simp))).2
  · exact key (notDict g.n) (ql _ (g.ok _ (by simp))).1 (ql _ (g.ok _ (by simp))).2
  · exact key (notDict g.l) (ql _ (g.ok _ (by simp))).1 (ql _ (g.ok _ (by simp))).2
  · obtain ⟨p, hp, rfl⟩ := List.mem_map.mp hx
    have := ql p.2 (g.ok _ (by simp only [List.mem_cons]; exact Or.inr (Or.inr (Or.inr hx))))
    exact key (notDict (g.k p hp).2.2) this.1 this.2
/-- what stands where the queue alone changes -/
theorem QS.out {h : H} {W : Nat} {S : List Nat} (q : QS h W S) {x : Nat} (h1 : x ≠ 24) (h2 : x ≠ 29) (h3 : ¬ QL W x ∨ ∃ kv, h[x]? = some (.dict kv)) : x ∉ S := fun hx => by
  rcases q x hx with c | c | ⟨c1, c2⟩
  · exact h1 c
  · exact h2 c
  · rcases h3 with h3 | ⟨kv, h3⟩
    · exact h3 c1
    · exact c2 kv h3
theorem St.effQ {h h' : H} {F d : Int} {W : Nat} (s : St h F d) (e : ∃ S, QS h W S ∧ Eff S h h') : St h' F d := by
  obtain ⟨S, q, e⟩ := e
  refine s.eff e fun x hx => ?_
  have key : ∀ y ∈ stL, y ≠ 24 ∧ y ≠ 29 ∧ ¬ (y = 25 ∨ y = 27 ∨ y = 28 ∨ 38 ≤ y) := by decide
  exact q.out (key x hx).1 (key x hx).2.1 (Or.inl fun c => (key x hx).2.2 c.1)
theorem Sto.effQ {h h' : H} {σ : Nat → Pl} {M : Option Nat} {W : Nat} (s : Sto h σ M) (e : ∃ S, QS h W S ∧ Eff S h h') : Sto h' σ M := by
  obtain ⟨S, q, e⟩ := e
  refine s.eff e fun x hx hf => ?_
  refine q.out (x := x) ?_ ?_ (Or.inr (s.foot_dict x hf)) hx
  · rintro rfl; exact (s.foot_cl hf).2.1 rfl
  · rintro rfl; exact (s.foot_cl hf).2.2 rfl
theorem effQ_at {h h' : H} {W x : Nat} {o : O} (e : ∃ S, QS h W S ∧ Eff S h h') (hx : x ≠ 24 ∧ x ≠ 29 ∧ ¬ QL W x) (g : h[x]? = some o) : h'[x]? = some o := by
  obtain ⟨S, q, e⟩ := e
  exact e.eq _ _ (q.out hx.1 hx.2.1 (Or.inl hx.2.2)) g
/-- a deed -/
structure Deed where
  lv : Lv
  e : E
  k : Option (Option E)
structure Deed.ok (x : Deed) : Prop where
  lv : x.lv.ok
  e : x.e.ok
  w : x.e.w = x.lv.W
  k : ∀ y, x.k = some (some y) → y.ok
noncomputable def Deed.v (x : Deed) : V := match x.k with
  | none => .tup [.str 27, x.lv.v, x.e.v]
  | some d => deedV x.lv x.e d
noncomputable def Deed.up (F d : Int) (σ : Nat → Pl) (x : Deed) : Up := ⟨x.lv.rows0 F d σ, x.e.ev σ, x.lv.W⟩
theorem Deed.up_ok {F d : Int} {σ : Nat → Pl} {x : Deed} (h : x.ok) : (x.up F d σ).ok :=
  ⟨rows0_ok _ _ h.lv.ps (by rw [h.lv.W]; exact Nat.le_refl _) (Nat.le_refl _), Nat.le_trans (rows0_len _ _) (by have := h.lv.n; lia), h.lv.W2⟩
theorem rows_filter {F d : Int} {σ : Nat → Pl} {lv : Lv} (h : lv.ok) : lv.rows F d σ = (lv.rows0 F d σ).filter good := rows_good _ _ h.ps
theorem Deed.up_ev {F d : Int} {σ : Nat → Pl} {x : Deed} (h : x.ok) : (x.up F d σ).ev = upV F d σ x.lv x.e := by
  unfold Up.ev upV Deed.up
  rw [rows_filter h.lv, h.w]
theorem POf_add {pend : List (Int × Up)} {t D : Int} {u : Up} (hD : 0 ≤ D) : PAdd t D u.ev (POf pend t) = POf (pend ++ [(t + D, u)]) t := by
  funext T
  unfold PAdd POf
  rw [evs_app]
  by_cases hz : D = 0
  · rw [if_pos hz]
    by_cases ht : t < T
    · rw [if_pos ht, if_pos ht, if_neg (by lia)]
    · rw [if_neg ht, if_neg ht]
  · rw [if_neg hz]
    by_cases ht : t < T
    · rw [if_pos ht, if_pos ht]
    · rw [if_neg ht, if_neg ht, if_neg (by lia)]
theorem nba_add {pend : List (Int × Up)} {t D : Int} {u : Up} : nbaAdd D u.ev (evs pend t) = evs (pend ++ [(t + D, u)]) t := by
  unfold nbaAdd
  rw [evs_app]
  by_cases hz : D = 0
  · rw [if_pos hz, if_pos (by lia)]
  · rw [if_neg hz, if_neg (by lia)]
section
variable {n : Nat} {m : Loc} {h : H} {Q : V → H → Prop} {R : Fl → Loc → H → Prop}
theorem do_head {F d : Int} {σ : Nat → Pl} {f : Int → Int} {M : Option Nat} {t : Int} {pend : List (Int × Up)} {W : Nat} {Bs act : List V} {hd B : Nat} {lv : Lv} {e : E} {s : Nat} {r : List V} (v : Inv h F d σ f M t pend W Bs act hd B) (hlv : lv.ok) (he : e.ok)
    (q : ∀ h3, Eff [] h h3 → WS (n + 9) (f_law_do_b.drop 2) [some (.loc 20), some (.loc 32), some (.tup (.str s :: lv.v :: e.v :: r)), some (.loc 17), some (.loc 4), some (.loc 13), some (.loc W), some (.int t), some (.lst ((lv.rows0 F d σ).map spotV)), some (.lst ((codesOf e.w (e.ev σ)).map .int)), none] h3 (kR Q)) :
    WC (n + 10) 41 [.loc 20, .loc 32, .tup (.str s :: lv.v :: e.v :: r), .loc 17, .loc 4, .loc 13, .loc W, .int t] h Q := by
  wtm_at "fn"
  refine c_spots (n := n + 4) v.st.fx v.hf v.ag v.sto.bd hlv ?_
  intro h1 e1
  have v1 := v.eff0 e1
  wtm_at "sx"
  refine c_codes (n := n + 7) v1.hf v1.ag v1.sto.bd he ?_
  intro h2 l e2 hl2 g2
  wtm_at "sx"
  refine ⟨_, g2, ?_⟩
  wtm_at "s1"
  exact q _ ((e1.trans e2).set (Or.inr (Nat.le_trans e1.len hl2)) _)
theorem c_do {F d : Int} {σ : Nat → Pl} {f : Int → Int} {M : Option Nat} {t : Int} {pend : List (Int × Up)} {W : Nat} {Bs act : List V} {hd B : Nat} {x : Deed} (v : Inv h F d σ f M t pend W Bs act hd B) (hx : x.ok) (hB : B < 900)
    (q : ∀ h' σ' f' M' pend', Inv h' F d σ' f' M' t pend' W Bs act hd (B + 1) → pend'.length ≤ pend.length + 1 → Q (.bool true) h') :
    WC (n + 10) 41 [.loc 20, .loc 32, x.v, .loc 17, .loc 4, .loc 13, .loc W, .int t] h Q := by
  have hl := v.lt
  have W38 := v.W38
  obtain ⟨lv, e, k⟩ := x
  have hlv : lv.ok := hx.lv
  have he : e.ok := hx.e
  have hw : e.w = lv.W := hx.w
  have uok := Deed.up_ok (F := F) (d := d) (σ := σ) hx
  cases k with
  | none =>
    show WC (n + 10) 41 [.loc 20, .loc 32, .tup [.str 27, lv.v, e.v], .loc 17, .loc 4, .loc 13, .loc W, .int t] h Q
    refine do_head v hlv he fun h3 e3 => ?_
    have v3 := v.eff0 e3
    have ho3 := v3.st.ho
    wtm_at "sx"
    refine c_now (n := n + 3) v3.st v3.sto he ?_
    intro h4 e4
    have v4 := v3.eff0 e4
    wtm_at "sx"
    rw [hw]
    refine c_assign (n := n) (v := e.ev σ) v4.st v4.sto (by have := v4.lt; lia) hlv v4.to (by decide) ?_
    intro h5 M5 e5 mn5 s5 t5
    rw [List.nil_append] at t5
    wtm_at "sx"
    refine wm_pop t5 rfl ?_
    have e6 : Eff (17 :: Sto.foot M) h4 (h5.set 17 (.list [V.lst ((sortInts (stepRows (e.ev σ) ⟨σ, []⟩ (lv.rows F d σ)).ks).map .int)].dropLast)) := e5.set (Or.inl (by simp)) _
    have t6 : (h5.set 17 (.list [V.lst ((sortInts (stepRows (e.ev σ) ⟨σ, []⟩ (lv.rows F d σ)).ks).map .int)].dropLast))[17]? = some (.list []) := get_set_eq t5
    have s6 : Sto (h5.set 17 (.list [V.lst ((sortInts (stepRows (e.ev σ) ⟨σ, []⟩ (lv.rows F d σ)).ks).map .int)].dropLast)) (stepRows (e.ev σ) ⟨σ, []⟩ (lv.rows F d σ)).σ M5 := by
      refine s5.eff (S := [17]) ((Eff.refl _ _).set (Or.inl (by simp)) _) (fun y hy => ?_)
      rw [List.mem_singleton] at hy; subst hy
      exact not_foot s5 t5 (fun _ q => by cases q)
    generalize (h5.set 17 (.list [V.lst ((sortInts (stepRows (e.ev σ) ⟨σ, []⟩ (lv.rows F d σ)).ks).map .int)].dropLast)) = h6 at e6 t6 s6 ⊢
    wtm_at "sx"
    have nf : ∀ y, (∀ kv, h4[y]? ≠ some (.dict kv)) → y ≠ 17 → y ∉ 17 :: Sto.foot M := fun y hy h17 hm => by
      rcases List.mem_cons.mp hm with c | c
      · exact h17 c
      · obtain ⟨kv, ek⟩ := v4.sto.foot_dict y c
        exact hy kv ek
    have n13 : (13 : Nat) ∉ 17 :: Sto.foot M := fun hm => by
      rcases List.mem_cons.mp hm with c | c
      · cases c
      · exact (v4.sto.foot_cl c).1 rfl
    have hf6 : Held h6 f := e6.eq _ _ n13 v4.hf
    refine c_write (n := n + 8) (by have := v4.lt; have := e6.len; lia) hf6 uok.rs uok.n ?_
    intro h7 e7 hf7
    have wr := writes (v := e.ev σ) (lv.rows0 F d σ) σ f [] uok.rs v.sto.bd v.ag
    rw [← rows_filter hlv] at wr
    refine cmp_lst (intL_map _) (intL_map _) ?_
    have ks : (stepRows (e.ev σ) ⟨σ, []⟩ (lv.rows F d σ)).ks = (lwRows (e.ev σ) ⟨f, []⟩ (lv.rows0 F d σ)).ks := wr.2
    wtm_at "sx"
    rw [show (sortInts (stepRows (e.ev σ) ⟨σ, []⟩ (lv.rows F d σ)).ks == sortInts (lwRows (e.ev σ) ⟨f, []⟩ (lv.rows0 F d σ)).ks) = true by
      rw [ks]; exact beq_self_eq_true _]
    have e67 : Eff (13 :: 17 :: Sto.foot M) h4 h7 := (e6.sub (fun y hy => List.mem_cons_of_mem _ hy)).trans (e7.sub (fun y hy => by rw [List.mem_singleton] at hy; subst hy; exact List.mem_cons_self ..))
    have nf2 : ∀ y, (∀ kv, h4[y]? ≠ some (.dict kv)) → y ≠ 17 → y ∉ 13 :: 17 :: Sto.foot M := fun y hy h17 hm => by
      rcases List.mem_cons.mp hm with c | c
      · subst c; exact hy _ v4.hf
      · exact nf y hy h17 c
    wtm_at "sx"
    refine q h7 (stepRows (e.ev σ) ⟨σ, []⟩ (lv.rows F d σ)).σ _ M5 pend ⟨?_, ?_, hf7, wr.1, ?_, ?_, ?_, ?_, v.W38, v.ok, v.t0, Nat.le_succ_of_le v.ln⟩ (Nat.le_succ _)
    · exact v4.st.eff e67 fun y hy => nf2 y (v4.st.nd y hy) ((by decide : ∀ y ∈ stL, y ≠ 17) y hy)
    · refine s6.eff e7 fun y hy hm => ?_
      rw [List.mem_singleton] at hy; subst hy
      exact (s6.foot_cl hm).1 rfl
    · exact e7.eq _ _ (by decide) t6
    · exact e67.eq _ _ (nf2 _ (notDict v4.wa) (by lia)) v4.wa
    · exact e67.eq _ _ (nf2 _ (notDict v4.bu) (by decide)) v4.bu
    · obtain ⟨A, N, L, kl, g⟩ := v4.qu.effS v4.sto e67 (fun y hy => by
        rcases List.mem_cons.mp hy with c | c
        · exact Or.inr (Or.inl c)
        · rcases List.mem_cons.mp c with c | c
          · exact Or.inl c
          · exact Or.inr (Or.inr c))
      exact ⟨A, N, L, kl, g.mono (Nat.le_succ _)⟩
  | some de =>
    have hde : ∀ y, de = some y → y.ok := fun y hy => hx.k y (by rw [hy])
    show WC (n + 10) 41 [.loc 20, .loc 32, .tup [.str 16, lv.v, e.v, dV de], .loc 17, .loc 4, .loc 13, .loc W, .int t] h Q
    refine do_head v hlv he fun h3 e3 => ?_
    have v3 := v.eff0 e3
    have up_ev := Deed.up_ev (F := F) (d := d) (σ := σ) hx
    -- from the delay on
    have tail : ∀ (h4 : H) (y10 : V), Eff [] h3 h4 → ((y10 = .non ∧ delN σ de = 0) ∨ y10 = .int (delN σ de)) → WS (n + 9) (f_law_do_b.drop 5)
        [some (.loc 20), some (.loc 32), some (.tup [.str 16, lv.v, e.v, dV de]), some (.loc 17), some (.loc 4), some (.loc 13), some (.loc W), some (.int t), some (.lst ((lv.rows0 F d σ).map spotV)), some (.lst ((codesOf e.w (e.ev σ)).map .int)), some y10] h4 (kR Q) := by
      intro h4 y10 e4 hy
      have v4 := v3.eff0 e4
      have dn := delN_nonneg σ de
      have ln := v4.ln
      have W38' := v4.W38
      wtm_at "sx"
      refine c_later (n := n) v4.st v4.sto hlv he hde v4.qu v4.lt v4.W38 (by lia) (Nat.lt_of_le_of_lt (evs_len _ _) (by lia)) (fun T => ?_) ?_
      · unfold POf; split
        · exact Nat.lt_of_le_of_lt (evs_len _ _) (by lia)
        · show 0 < 1000; lia
      intro h5 e5 g5
      have wa5 : h5[W]? = some (.list (pend.map waV)) := effQ_at e5 ⟨by lia, by lia, fun c => c.2 rfl⟩ v4.wa
      rw [← up_ev, POf_add dn, nba_add] at g5
      have last : ∀ h6, h6 = h5.set W (.list (pend.map waV ++ [V.tup [.int (t + delN σ de), .lst ((lv.rows0 F d σ).map spotV), .lst ((codesOf e.w (e.ev σ)).map .int)]])) → Q (.bool true) h6 ∧ h6[17]? = some (.list []) := by
        intro h6 e6
        subst e6
        have w : V.tup [.int (t + delN σ de), .lst ((lv.rows0 F d σ).map spotV), .lst ((codesOf e.w (e.ev σ)).map .int)] = waV (t + delN σ de, Deed.up F d σ ⟨lv, e, some de⟩) := by
          unfold waV Deed.up; rw [hw]
        rw [w, ← List.map_singleton (f := waV), ← List.map_append]
        have eW : Eff [W] h5 (h5.set W (.list ((pend ++ [(t + delN σ de, Deed.up F d σ ⟨lv, e, some de⟩)]).map waV))) := (Eff.refl _ _).set (Or.inl (by simp)) _
        have nW : ∀ y, y < 38 → y ∉ [W] := fun y hy hm => by rw [List.mem_singleton] at hm; lia
        have t5 := effQ_at e5 ⟨by decide, by decide, fun c => by have := c.1; lia⟩ v4.to
        refine ⟨?_, eW.eq _ _ (nW _ (by decide)) t5⟩
        have sto5 := v4.sto.effQ e5
        refine q _ σ f M (pend ++ [(t + delN σ de, Deed.up F d σ ⟨lv, e, some de⟩)]) ⟨?_, ?_, ?_, v.ag, ?_, get_set_eq wa5, ?_, ?_, v.W38, ?_, v.t0, ?_⟩ ?_
        · exact (v4.st.effQ e5).eff eW (fun y hy => nW y ((by decide : ∀ y ∈ stL, y < 38) y hy))
        · refine sto5.eff eW (fun y hy => ?_)
          rw [List.mem_singleton] at hy; subst hy
          exact not_foot sto5 wa5 (fun _ q => by cases q)
        · exact eW.eq _ _ (nW _ (by decide)) (effQ_at e5 ⟨by decide, by decide, fun c => by have := c.1; lia⟩ v4.hf)
        · exact eW.eq _ _ (nW _ (by decide)) t5
        · exact eW.eq _ _ (nW _ (by decide)) (effQ_at e5 ⟨by decide, by decide, fun c => by have := c.1; lia⟩ v4.bu)
        · obtain ⟨A, N, L, kl, g⟩ := g5
          exact ⟨A, N, L, kl, g.eff1 (fun y hy => hy.2) ⟨by lia, by lia, by lia⟩ eW⟩
        · intro p hp
          rcases List.mem_append.mp hp with hp | hp
          · exact v.ok p hp
          · rw [List.mem_singleton] at hp; subst hp
            exact ⟨uok, by show t ≤ t + delN σ de; lia⟩
        · rw [List.length_append]; have := v.ln; show pend.length + 1 ≤ B + 1; lia
        · rw [List.length_append]; exact Nat.le_refl _
      rcases hy with ⟨rfl, hz⟩ | rfl
      · wtm_at "sx"
        refine wm_append wa5 (by rw [List.length_map]; lia) ?_
        have l6 := last _ rfl
        rw [hz, Int.add_zero] at l6
        have t6 := l6.2
        wtm_at "sx"
        exact l6.1
      · wtm_at "sx"
        refine wm_append wa5 (by rw [List.length_map]; lia) ?_
        have l6 := last _ rfl
        have t6 := l6.2
        wtm_at "sx"
        exact l6.1
    wtm_at "sx"
    cases de with
    | none =>
      refine cmp_isnt_n ?_
      refine tru_b ?_
      refine br_false ?_
      refine ws_nil ?_
      exact tail h3 .non (Eff.refl _ _) (Or.inl ⟨rfl, rfl⟩)
    | some de =>
      show Cmp .isnt de.v .non _ _
      have v3' := v3
      refine cmp_isnt ?_
      rw [show de.v.isNone = false by cases de <;> rfl]
      show Tru (.bool true) _
      refine tru_b ?_
      refine br_true ?_
      show WS (n + 9) _ [_, _, some (.tup [.str 16, lv.v, e.v, de.v]), _, _, _, _, _, _, _, _] _ _
      wtm_at "sx"
      refine c_number (n := n + 6) (s := false) v3.hf v3.ag v3.sto.bd (hde de rfl) ?_
      intro h4 e4
      wtm_at "s1"
      refine ws_nil ?_
      refine tail h4 _ e4 ?_
      show (oV (de.num σ false) = .non ∧ (de.num σ false).getD 0 = 0) ∨ oV (de.num σ false) = .int ((de.num σ false).getD 0)
      cases de.num σ false with
      | none => exact Or.inl ⟨rfl, rfl⟩
      | some i => exact Or.inr rfl
end
end
section
/-! ### the comparison of the bits -/
noncomputable def spL : List (Nat × Nat) := [(0, 0), (0, 1), (0, 2), (0, 3), (1, 0), (1, 1), (1, 2), (2, 0), (2, 1), (2, 2), (3, 0), (3, 1), (4, 0), (4, 1), (5, 0), (5, 1)]
noncomputable def spI (p : Nat × Nat) : Int := ((base p.1 + p.2 : Nat) : Int)
theorem spL_eq : spotL = spL.map spI := by decide
theorem spotL_sorted : sortInts spotL = spotL := by decide
theorem heldKV_keys (f : Int → Int) : (heldKV f).map (·.1) = spotL := by
  unfold heldKV heldOn; rw [List.map_map]; exact List.map_id _
theorem spL_ok : ∀ p ∈ spL, p.1 < 6 ∧ p.2 < wd p.1 := by decide
noncomputable def sameB : List S := forB (f_law_same_b.getD 0 .bad)
section
variable {n : Nat} {m : Loc} {h : H} {Q : V → H → Prop} {R : Fl → Loc → H → Prop}
theorem same_loop {F d : Int} {σ : Nat → Pl} {f : Int → Int} {M : Option Nat} (fx : Fx h F d) (s : Sto h σ M) (hf : Held h f) (ha : Agree σ f) : ∀ (L : List (Nat × Nat)) (x2 x3 x4 x5 : Option V), (∀ p ∈ L, p.1 < 6 ∧ p.2 < wd p.1) →
    (∀ x2 x3 x4 x5, R .next [some (.loc 10), some (.loc 13), x2, x3, x4, x5] h) →
    WF (n + 3) (.name 2) sameB ((L.map spI).map .int) [some (.loc 10), some (.loc 13), x2, x3, x4, x5] h R
  | [], x2, x3, x4, x5, _, q => wf_nil (q _ _ _ _)
  | (j, i) :: L, x2, x3, x4, x5, hL, q => by
    obtain ⟨hj, hi⟩ := hL (j, i) (List.mem_cons_self ..)
    have ih := fun y2 y3 y4 y5 => same_loop fx s hf ha L y2 y3 y4 y5 (fun p hp => hL p (List.mem_cons_of_mem _ hp)) q
    dsimp only at hj hi
    have w4 := (wd_le j).2
    have st := fx.st
    have hi4 : i < 4 := Nat.lt_of_lt_of_le hi w4
    have e10 := base_10 j hj i hi4
    have val : ∀ (x : Pl), σ j = x → (((x.1 >>> i : Nat) : Int).fmod 2) + 2 * (((x.2 >>> i : Nat) : Int).fmod 2) = f (spI (j, i)) := fun x hx => by
      rw [fdiv_bit, fdiv_bit, cdI_eq, ← hx]; exact (ha j i hj hi).symm
    rw [List.map_cons, List.map_cons]
    refine wf_cons ?_
    show WT _ _ (.int ((base j + i : Nat) : Int)) _ _ _
    wtm_at "sx"
    by_cases hk : j < 3
    · rw [base_100 j hk i hi4]
      refine br_f (decide_eq_false fun q => by have := Int.ofNat_inj.mp q; omega) ?_
      wtm_at "sx"
      refine c_get fx s hk ?_
      wtm_at "sx"
      rw [e10]
      wtm_at "sx"
      refine sub_dict hf (heldKV_get _ _ (spot_mem hj hi)) ?_
      wtm_at "sx"
      rw [val _ rfl]
      refine br_t (decide_eq_true rfl) ?_
      wtm_at "sx"
      exact ih _ _ _ _
    · obtain ⟨e100, ew⟩ := base_300 j hj (Nat.not_lt.mp hk) i hi4
      rw [e100]
      wtm_at "sx"
      rw [ew]
      refine c_word fx s (p := j - 3) (by omega) ?_
      rw [show 3 + (j - 3) = j by omega]
      wtm_at "sx"
      rw [e10]
      wtm_at "sx"
      refine sub_dict hf (heldKV_get _ _ (spot_mem hj hi)) ?_
      wtm_at "sx"
      rw [val _ rfl]
      refine br_t (decide_eq_true rfl) ?_
      wtm_at "sx"
      exact ih _ _ _ _
theorem c_same {F d : Int} {σ : Nat → Pl} {f : Int → Int} {M : Option Nat} (fx : Fx h F d) (s : Sto h σ M) (hf : Held h f) (ha : Agree σ f) (q : ∀ h', Eff [] h h' → Q (.bool true) h') : WC (n + 4) 39 [.loc 10, .loc 13] h Q := by
  wtm_at "fn"
  refine wb_sortd hf (by show (heldKV f).length < 64; unfold heldKV heldOn; rw [List.length_map]; decide) ?_
  wtm_at "sx"
  refine frz_last ?_
  refine ⟨_, rfl, ?_⟩
  rw [heldKV_keys, spotL_sorted, spL_eq]
  have e : Eff [] h (h ++ [.dead]) := (Eff.refl _ _).app _
  refine same_loop (fx.eff e (by simp)) (s.eff e (by simp)) (e.eq _ _ (by simp) hf) ha spL none none none none spL_ok ?_
  intro x2 x3 x4 x5
  wtm_at "sx"
  exact q _ e
end
end
section
theorem eff_keep {h h' : H} {σ : Nat → Pl} {f : Int → Int} {M : Option Nat} (sto : Sto h σ M) (hf : Held h f) (e : Eff (13 :: Sto.foot M) h h') {y : Nat} {o : O} (g : h[y]? = some o) (ho : ∀ kv, o ≠ .dict kv) : h'[y]? = some o := by
  refine e.eq _ _ (fun hm => ?_) g
  rcases List.mem_cons.mp hm with c | c
  · subst c
    have : some o = some (O.dict (heldKV f)) := g.symm.trans hf
    cases this; exact ho _ rfl
  · obtain ⟨kv, e2⟩ := sto.foot_dict y c
    rw [g] at e2; cases e2; exact ho _ rfl
theorem St.effD {h h' : H} {F d : Int} {σ : Nat → Pl} {f : Int → Int} {M : Option Nat} (s : St h F d) (sto : Sto h σ M) (hf : Held h f) (e : Eff (13 :: Sto.foot M) h h') : St h' F d := by
  obtain ⟨⟨dd, nm, s0, s1, s2, s3, sg, st⟩, ho, th, l, tb⟩ := s
  have k := fun (y : Nat) (o : O) (g : h[y]? = some o) (h1 : ∀ kv, o ≠ .dict kv) => eff_keep sto hf e g h1
  exact ⟨⟨dd, k _ _ nm (fun _ q => by cases q), k _ _ s0 (fun _ q => by cases q), k _ _ s1 (fun _ q => by cases q), k _ _ s2 (fun _ q => by cases q), k _ _ s3 (fun _ q => by cases q), k _ _ sg (fun _ q => by cases q), k _ _ st (fun _ q => by cases q)⟩, k _ _ ho (fun _ q => by cases q), k _ _ th (fun _ q => by cases q), l, k _ _ tb (fun _ q => by cases q)⟩
/-- while the updates of the time are written -/
structure Inv3 (h : H) (F d : Int) (σ : Nat → Pl) (f : Int → Int) (M : Option Nat) (t : Int) (rest : List (Int × Up)) (W : Nat) (Bs : List V) (B : Nat) (rem : List Up) : Prop where
  st : St h F d
  sto : Sto h σ M
  hf : Held h f
  ag : Agree σ f
  to : h[17]? = some (.list [])
  wa : h[W]? = some (.list (rest.map waV))
  bu : h[37]? = some (.list Bs)
  qu : ∃ act hd nba, Qc h W t act hd nba (POf rest t) B ∧ ((hd = act.length ∧ nba = rem.map Up.ev) ∨ (nba = [] ∧ hd ≤ act.length ∧ act.drop hd = rem.map Up.ev))
  W38 : 38 ≤ W
  okr : ∀ u ∈ rem, u.ok
theorem Inv3.effQ {h h' : H} {F d : Int} {σ : Nat → Pl} {f : Int → Int} {M : Option Nat} {t : Int} {rest : List (Int × Up)} {W : Nat} {Bs : List V} {B : Nat} {rem rem' : List Up} (v : Inv3 h F d σ f M t rest W Bs B rem) (e : ∃ S, QS h W S ∧ Eff S h h')
    (qu : ∃ act hd nba, Qc h' W t act hd nba (POf rest t) B ∧ ((hd = act.length ∧ nba = rem'.map Up.ev) ∨ (nba = [] ∧ hd ≤ act.length ∧ act.drop hd = rem'.map Up.ev))) (ok : ∀ u ∈ rem', u.ok) : Inv3 h' F d σ f M t rest W Bs B rem' := by
  have W38 := v.W38
  exact ⟨v.st.effQ e, v.sto.effQ e, effQ_at e ⟨by decide, by decide, fun c => by have := c.1; lia⟩ v.hf, v.ag, effQ_at e ⟨by decide, by decide, fun c => by have := c.1; lia⟩ v.to, effQ_at e ⟨by lia, by lia, fun c => c.2 rfl⟩ v.wa, effQ_at e ⟨by decide, by decide, fun c => by have := c.1; lia⟩ v.bu, qu, v.W38, ok⟩
section
variable {n : Nat} {m : Loc} {h : H} {Q : V → H → Prop} {R : Fl → Loc → H → Prop}
theorem c_take3 {F d : Int} {σ : Nat → Pl} {f : Int → Int} {M : Option Nat} {t : Int} {rest : List (Int × Up)} {W : Nat} {Bs : List V} {B : Nat} {u : Up} {r : List Up} (v : Inv3 h F d σ f M t rest W Bs B (u :: r))
    (q : ∀ h', Inv3 h' F d σ f M t rest W Bs B r → Q u.ev h') : WC (n + 2) 51 [.loc 24] h Q := by
  obtain ⟨act, hd, nba, g, c⟩ := v.qu
  have okr : ∀ x ∈ r, x.ok := fun x hx => v.okr x (List.mem_cons_of_mem _ hx)
  rcases c with ⟨rfl, rfl⟩ | ⟨rfl, hle, hdr⟩
  · refine c_takeA g (get_lt v.wa) v.W38 ?_
    intro h' e g'
    exact q h' (v.effQ e ⟨_, 1, [], g', Or.inr ⟨rfl, by simp, rfl⟩⟩ okr)
  · have he : act[hd]? = some u.ev := by
      have : (act.drop hd)[0]? = some u.ev := by rw [hdr]; rfl
      rw [List.getElem?_drop, Nat.add_zero] at this
      exact this
    refine c_takeB g he ?_
    intro h' e g'
    refine q h' (v.effQ e ⟨_, hd + 1, [], g', Or.inr ⟨rfl, (List.getElem?_eq_some_iff.mp he).1, ?_⟩⟩ okr)
    rw [← List.drop_drop, hdr]; rfl
theorem c_take3n {F d : Int} {σ : Nat → Pl} {f : Int → Int} {M : Option Nat} {t : Int} {rest : List (Int × Up)} {W : Nat} {Bs : List V} {B : Nat} (v : Inv3 h F d σ f M t rest W Bs B [])
    (q : ∀ h', Inv3 h' F d σ f M t rest W Bs B [] → Qc h' W t [] 0 [] (POf rest t) B → Q .non h') : WC (n + 2) 51 [.loc 24] h Q := by
  obtain ⟨act, hd, nba, g, c⟩ := v.qu
  have hc : hd = act.length ∧ nba = [] := by
    rcases c with ⟨a, b⟩ | ⟨a, hle, hdr⟩
    · exact ⟨a, b⟩
    · refine ⟨?_, a⟩
      have : act.length ≤ hd := List.drop_eq_nil_iff.mp hdr
      lia
  obtain ⟨rfl, rfl⟩ := hc
  refine c_takeC g (get_lt v.wa) v.W38 ?_
  intro h' e g'
  exact q h' (v.effQ e ⟨[], 0, [], g', Or.inl ⟨rfl, rfl⟩⟩ (by simp)) g'
noncomputable def whB : List S := match f_law_b.getD 19 .bad with
  | .whil _ b => b
  | _ => []
noncomputable def dB : List S := forB (whB.getD 1 .bad)
noncomputable def rB : List S := forB (whB.getD 4 .bad)
variable {F d : Int} {Bs : List V} {x0 x1 x2 x4 x7 x8 x9 x10 x11 x17 x18 : Option V}
theorem deeds_loop {W : Nat} {t : Int} {x21 x23 x24 x25 x26 : Option V} : ∀ (ds : List Deed) (σ : Nat → Pl) (f : Int → Int) (M : Option Nat) (pend : List (Int × Up)) (B : Nat) (h : H) (x22 : Option V), Inv h F d σ f M t pend W Bs [] 0 B → (∀ x ∈ ds, x.ok) → B + ds.length < 900 →
    (∀ h' σ' f' M' pend' x22, Inv h' F d σ' f' M' t pend' W Bs [] 0 (B + ds.length) → pend'.length ≤ pend.length + ds.length → R .next [x0, x1, x2, some (.loc 4), x4, some (.loc 10), some (.loc 13), x7, x8, x9, x10, x11, some (.loc 17), some (.loc 20), some (.loc 24), some (.loc 32), some (.loc 37), x17, x18, some (.loc W), some (.int t), x21, x22, x23, x24, x25, x26] h') →
    WF (n + 10) (.name 22) dB (ds.map Deed.v) [x0, x1, x2, some (.loc 4), x4, some (.loc 10), some (.loc 13), x7, x8, x9, x10, x11, some (.loc 17), some (.loc 20), some (.loc 24), some (.loc 32), some (.loc 37), x17, x18, some (.loc W), some (.int t), x21, x22, x23, x24, x25, x26] h R := by
  intro ds
  induction ds with
  | nil =>
    intro σ  f  M  pend  B  h  x22  v  _  _  q
    exact wf_nil (q h σ f M pend x22 v (Nat.le_refl _))
  | cons x ds IH =>
    intro σ  f  M  pend  B  h  x22  v  hx  hB  q
    have hB2 : B + (ds.length + 1) < 900 := hB
    rw [List.map_cons]
    refine wf_cons ?_
    wtm_at "sx"
    refine c_do v (hx x (List.mem_cons_self ..)) (by lia) ?_
    intro h1 σ1 f1 M1 pend1 v1 l1
    wtm_at "sx"
    refine IH σ1 f1 M1 pend1 (B + 1) h1 _ v1 (fun y hy => hx y (List.mem_cons_of_mem _ hy)) (by lia) ?_
    intro h2 σ2 f2 M2 pend2 y22 v2 l2
    rw [show B + 1 + ds.length = B + (ds.length + 1) by lia] at v2
    exact q h2 σ2 f2 M2 pend2 y22 v2 (by rw [List.length_cons]; lia)
theorem ready_loop {W : Nat} {t : Int} {rest : List (Int × Up)} {B : Nat} {x21 x22 x23 : Option V} : ∀ (rem : List Up) (σ : Nat → Pl) (f : Int → Int) (M : Option Nat) (h : H) (x24 x25 x26 : Option V), Inv3 h F d σ f M t rest W Bs B rem →
    (∀ h' σ' f' M' x24 x25 x26, Inv3 h' F d σ' f' M' t rest W Bs B [] → R .next [x0, x1, x2, some (.loc 4), x4, some (.loc 10), some (.loc 13), x7, x8, x9, x10, x11, some (.loc 17), some (.loc 20), some (.loc 24), some (.loc 32), some (.loc 37), x17, x18, some (.loc W), some (.int t), x21, x22, x23, x24, x25, x26] h') →
    WF (n + 10) (.name 24) rB (rem.map fun u => waV (t, u)) [x0, x1, x2, some (.loc 4), x4, some (.loc 10), some (.loc 13), x7, x8, x9, x10, x11, some (.loc 17), some (.loc 20), some (.loc 24), some (.loc 32), some (.loc 37), x17, x18, some (.loc W), some (.int t), x21, x22, x23, x24, x25, x26] h R := by
  intro rem
  induction rem with
  | nil =>
    intro σ  f  M  h  x24  x25  x26  v  q
    exact wf_nil (q h σ f M x24 x25 x26 v)
  | cons u r IH =>
    intro σ  f  M  h  x24  x25  x26  v  q
    have uok := v.okr u (List.mem_cons_self ..)
    have gq := v.qu
    obtain ⟨_, _, _, ⟨_, _, _, _, gq⟩, _⟩ := gq
    have q24 := gq.q
    rw [List.map_cons]
    refine wf_cons ?_
    show WT _ _ (.tup [.int t, .lst (u.rs.map spotV), .lst ((codesOf u.W u.v).map .int)]) _ _ _
    wtm_at "sx"
    refine c_take3 v ?_
    intro h1 v1
    refine nrm_mk (by dsimp only [List.set]) ?_
    show WS _ _ [_, _, _, _, _, _, _, _, _, _, _, _, _, _, _, _, _, _, _, _, _, _, _, _, _, some (.tup [.str 15, .lst ((u.rs.filter good).map Row.v), vv u.W u.v.1 u.v.2]), _] _ _
    wtm_at "sx"
    refine c_ctx ?_
    wtm_at "sx"
    have e1 : Eff [] h1 (h1 ++ [O.list []]) := (Eff.refl _ _).app _
    have hW := uok.W
    refine c_store_rows (n := n + 5) (Env.mk' (v1.st.fx.eff e1 (by simp)) (v1.sto.eff e1 (by simp)) _ _) (by have := get_lt v1.wa; have := v1.W38; rw [List.length_append, List.length_append]; lia) hW (fun x hx => ok0_good (uok.rs x (List.mem_filter.mp hx).1) (List.mem_filter.mp hx).2) (Nat.le_trans (List.length_filter_le _ _) (by have := uok.n; lia)) ?_
    intro h2 M2 e2 mn2 s2
    have e12 : Eff (13 :: Sto.foot M) h1 h2 := (Eff.trans ((e1.app _).sub (by simp)) e2).sub (fun y hy => List.mem_cons_of_mem _ hy)
    have n13 : ∀ (σ : Nat → Pl) (h : H) (M : Option Nat), Sto h σ M → (13 : Nat) ∉ Sto.foot M := fun σ h M s c => by
      unfold Sto.foot at c
      simp only [List.mem_cons] at c
      rcases c with c | c | c
      · cases c
      · cases c
      · cases M with
        | none => cases c
        | some l =>
          simp only [Option.toList_some, List.mem_singleton] at c
          have := s.me.2.1; lia
    have hf2 : Held h2 f := (Eff.trans ((e1.app _).sub (by simp)) e2).eq _ _ (n13 _ _ _ v1.sto) v1.hf
    wtm_at "sx"
    refine c_write (n := n + 9) (by have := get_lt v1.wa; have := v1.W38; have := e12.len; lia) hf2 uok.rs uok.n ?_
    intro h3 e3 hf3
    have wr := writes (v := u.v) u.rs σ f [] uok.rs v1.sto.bd v1.ag
    have ks : (stepRows u.v ⟨σ, []⟩ (u.rs.filter good)).ks = (lwRows u.v ⟨f, []⟩ u.rs).ks := wr.2
    refine cmp_nlst (intL_map _) (intL_map _) ?_
    rw [ks, show (sortInts (lwRows u.v ⟨f, []⟩ u.rs).ks == sortInts (lwRows u.v ⟨f, []⟩ u.rs).ks) = true from beq_self_eq_true _]
    wtm_at "sx"
    have e13 : Eff (13 :: Sto.foot M) h1 h3 := e12.trans (e3.sub (fun y hy => by rw [List.mem_singleton] at hy; subst hy; exact List.mem_cons_self ..))
    refine IH (stepRows u.v ⟨σ, []⟩ (u.rs.filter good)).σ _ M2 h3 _ _ _ ⟨v1.st.effD v1.sto v1.hf e13, ?_, hf3, wr.1, eff_keep v1.sto v1.hf e13 v1.to (fun _ q => by cases q), eff_keep v1.sto v1.hf e13 v1.wa (fun _ q => by cases q), eff_keep v1.sto v1.hf e13 v1.bu (fun _ q => by cases q), ?_, v1.W38, v1.okr⟩ q
    · refine s2.eff e3 fun y hy hm => ?_
      rw [List.mem_singleton] at hy; subst hy
      exact n13 _ _ _ s2 hm
    · obtain ⟨act, hd, nba, g, c⟩ := v1.qu
      exact ⟨act, hd, nba, g.effS v1.sto e13 (fun y hy => by
        rcases List.mem_cons.mp hy with c | c
        · exact Or.inr (Or.inl c)
        · exact Or.inr (Or.inr c)), c⟩
end
end
section
/-! ### the main loop -/
noncomputable def bV (ds : List Deed) : V := .lst (ds.map Deed.v)
noncomputable def mu : List (List Deed) → Nat
  | [] => 0
  | ds :: r => 1 + ds.length + mu r
noncomputable def tot : List (List Deed) → Nat
  | [] => 0
  | ds :: r => ds.length + tot r
theorem evs_rest (pend : List (Int × Up)) (t T : Int) (h : T ≠ t) : evs (pend.filter fun p => decide (p.1 ≠ t)) T = evs pend T := by
  unfold evs
  rw [List.filter_filter]
  congr 1
  refine List.filter_congr fun p _ => ?_
  by_cases e : p.1 = T
  · simp [e, h]
  · simp [e]
theorem POf_rest (pend : List (Int × Up)) (t : Int) : POf (pend.filter fun p => decide (p.1 ≠ t)) t = POf pend t := by
  funext T
  unfold POf
  by_cases h : t < T
  · rw [if_pos h, if_pos h, evs_rest _ _ _ (by lia)]
  · rw [if_neg h, if_neg h]
theorem evs_now (pend : List (Int × Up)) (t : Int) : evs pend t = ((pend.filter fun p => decide (p.1 = t)).map (·.2)).map Up.ev := by
  unfold evs; rw [List.map_map]; rfl
theorem ready_vals (pend : List (Int × Up)) (t : Int) : (pend.filter fun p => decide (p.1 = t)).map waV = ((pend.filter fun p => decide (p.1 = t)).map (·.2)).map fun u => waV (t, u) := by
  rw [List.map_map]
  refine List.map_congr_left fun p hp => ?_
  have := (List.mem_filter.mp hp).2
  rw [decide_eq_true_eq] at this
  show waV p = waV (t, p.2)
  rw [← this]
theorem Qc.reW {h : H} {W W' : Nat} {t : Int} {act : List V} {hd : Nat} {nba : List V} {P : Int → List V} {B : Nat} (g : Qc h W t act hd nba P B) (hW : h.length ≤ W') : Qc h W' t act hd nba P B := by
  obtain ⟨A, N, L, kl, g⟩ := g
  refine ⟨A, N, L, kl, ⟨g.q, g.a, g.i, g.n, g.l, g.d, g.k, g.c, g.nd, fun x hx => ⟨(g.ok x hx).1, ?_⟩, g.kn, g.b⟩⟩
  have := g.lt x (List.mem_cons_of_mem _ hx)
  lia
noncomputable def isT (t : Int) : V → Bool
  | .tup (.int T :: _) => decide (T = t)
  | _ => false
theorem filter_isT (pend : List (Int × Up)) (t : Int) : (pend.map waV).filter (isT t) = (pend.filter fun p => decide (p.1 = t)).map waV := by
  rw [List.filter_map]; rfl
theorem filter_notT (pend : List (Int × Up)) (t : Int) : (pend.map waV).filter (fun x => !isT t x) = (pend.filter fun p => decide (p.1 ≠ t)).map waV := by
  rw [List.filter_map]
  congr 1
  refine List.filter_congr fun p _ => ?_
  show (!decide (p.1 = t)) = decide (p.1 ≠ t)
  simp
theorem wb_minl_of {h : H} {Q : KX} {l : List V} {x y : Int} {r : List Int} (e : intL l = some (x :: r)) (em : minInts x r = y) (q : Q (.int y) h) : WB .min [.lst l] h Q := by subst em; exact wb_minl e q
theorem CompS.of {n : Nat} {elt cnd : X} {m : Loc} {v W : Nat} {Q : KX} {h : H} {vs r : List V} (e : h[W]? = some (.list vs)) (hl : vs.length < 1000) (p : V → Bool) (g : V → V)
    (c : ∀ x ∈ vs, ∀ acc, WX n cnd (m.set v (some x)) (h ++ [.list acc]) (fun b h2 => h2 = h ++ [.list acc] ∧ truth b = some (p x)))
    (d : ∀ x ∈ vs, p x = true → ∀ acc, WX n elt (m.set v (some x)) (h ++ [.list acc]) (fun y h2 => h2 = h ++ [.list acc] ∧ y = g x))
    (er : (vs.filter p).map g = r) (q : Q (.loc h.length) (h ++ [.list r])) : CompS n elt cnd m v Q (.loc W) h := by
  subst er; exact ⟨vs, Or.inr ⟨W, rfl, e, hl⟩, p, g, Nat.lt_trans hl (by decide), c, d, q⟩
theorem Qc.q24 {h : H} {W : Nat} {t : Int} {act : List V} {hd : Nat} {nba : List V} {P : Int → List V} {B : Nat} {G : Prop} (g : Qc h W t act hd nba P B) (k : ∀ A N L, h[24]? = some (.inst 1 (qf t A hd N L)) → G) : G := by
  obtain ⟨A, N, L, kl, g⟩ := g; exact k A N L g.q
theorem Inv3.q24 {h : H} {F d : Int} {σ : Nat → Pl} {f : Int → Int} {M : Option Nat} {t : Int} {rest : List (Int × Up)} {W : Nat} {Bs : List V} {B : Nat} {rem : List Up} {G : Prop} (v : Inv3 h F d σ f M t rest W Bs B rem) (k : ∀ hd A N L, h[24]? = some (.inst 1 (qf t A hd N L)) → G) : G := by
  obtain ⟨_, hd, _, g, _⟩ := v.qu; exact g.q24 (k hd)
theorem min_T {p : Int × Up} {rest : List (Int × Up)} {t T : Int} (okrest : ∀ p' ∈ p :: rest, p'.2.ok ∧ t < p'.1) (hmin : ∀ T', POf (p :: rest) t T' ≠ [] → T ≤ T') (htT : t < T) (hPT : POf (p :: rest) t T ≠ []) : minInts p.1 (rest.map (·.1)) = T := by
  obtain ⟨m1, m2⟩ := minInts_spec (rest.map (·.1)) p.1
  have m1' : minInts p.1 (rest.map (·.1)) ∈ (p :: rest).map (·.1) := m1
  have m2' : ∀ z ∈ (p :: rest).map (·.1), minInts p.1 (rest.map (·.1)) ≤ z := m2
  obtain ⟨p', hp', ep'⟩ := List.mem_map.mp m1'
  have h1 : T ≤ minInts p.1 (rest.map (·.1)) := by
    rw [← ep']
    refine hmin _ ?_
    unfold POf evs
    rw [if_pos (okrest p' hp').2]
    intro c
    have := List.map_eq_nil_iff.mp c
    have h2 : p' ∈ List.filter (fun q => decide (q.1 = p'.1)) (p :: rest) := List.mem_filter.mpr ⟨hp', decide_eq_true rfl⟩
    rw [this] at h2; cases h2
  have h2 : T ∈ (p :: rest).map (·.1) := by
    unfold POf evs at hPT
    rw [if_pos htT] at hPT
    have : List.filter (fun q => decide (q.1 = T)) (p :: rest) ≠ [] := fun c => hPT (by rw [c]; rfl)
    obtain ⟨p', hp'⟩ := List.exists_mem_of_ne_nil _ this
    rw [List.mem_filter, decide_eq_true_eq] at hp'
    exact List.mem_map.mpr ⟨p', hp'.1, hp'.2⟩
  have := m2' T h2
  lia
section
variable {n : Nat} {m : Loc} {h : H} {Q : V → H → Prop} {R : Fl → Loc → H → Prop}
variable {F d : Int} {x0 x1 x2 x4 x7 x8 x9 x10 x11 x17 x18 : Option V}
theorem after_deeds {fu : Nat} {bs : List (List Deed)} {σ : Nat → Pl} {f : Int → Int} {M : Option Nat} {t : Int} {pend : List (Int × Up)} {W B : Nat} {x21 x22 x23 x24 x25 x26 : Option V}
    (v : Inv h F d σ f M t pend W (bs.map bV) [] 0 B) (hB : B < 900) (hmu : mu bs + (pend.filter fun p => decide (p.1 ≠ t)).length < fu)
    (ih : ∀ σ f M t pend W h x21 x22 x23 x24 x25 x26, Inv h F d σ f M t pend W (bs.map bV) [] 0 B → (bs = [] → ∃ p ∈ pend, p.1 = t) → mu bs + pend.length < fu →
      WW (n + 10) fu (.bool true) whB [x0, x1, x2, some (.loc 4), x4, some (.loc 10), some (.loc 13), x7, x8, x9, x10, x11, some (.loc 17), some (.loc 20), some (.loc 24), some (.loc 32), some (.loc 37), x17, x18, some (.loc W), some (.int t), x21, x22, x23, x24, x25, x26] h R)
    (q : ∀ m h', (∃ l, h'[0]? = some (O.tab l)) → R (.ret (.bool true)) m h') :
    WS (n + 10) (whB.drop 2) [x0, x1, x2, some (.loc 4), x4, some (.loc 10), some (.loc 13), x7, x8, x9, x10, x11, some (.loc 17), some (.loc 20), some (.loc 24), some (.loc 32), some (.loc 37), x17, x18, some (.loc W), some (.int t), x21, x22, x23, x24, x25, x26] h (kF (fun m h => WW (n + 10) fu (.bool true) whB m h R) R) := by
  have ln := v.ln
  have wa := v.wa
  have W38 := v.W38
  have t0 := v.t0
  refine ws_cons ?_
  refine w1_asgC ?_
  refine wx_freeze ?_
  refine wx_comp ?_
  refine wx_var rfl ?_
  refine CompS.of wa (by rw [List.length_map]; lia) (isT t) id ?_ ?_ (by rw [filter_isT, List.map_id]) ?_
  · intro x hx acc
    obtain ⟨p, hp, rfl⟩ := List.mem_map.mp hx
    simp only [List.set_cons_zero, List.set_cons_succ]
    show WX _ _ [_, _, _, _, _, _, _, _, _, _, _, _, _, _, _, _, _, _, _, _, _, _, _, _, some (.tup [.int p.1, .lst (p.2.rs.map spotV), .lst ((codesOf p.2.W p.2.v).map .int)]), _, _] _ _
    wtm_at "sx"
    exact ⟨rfl, rfl⟩
  · intro x hx _ acc
    simp only [List.set_cons_zero, List.set_cons_succ]
    refine wx_var rfl ?_
    exact ⟨rfl, rfl⟩
  refine isLoc ?_
  refine frz_last ?_
  refine ⟨by simp only [List.length_cons, List.length_nil]; decide, ?_⟩
  simp only [List.set_cons_zero, List.set_cons_succ]
  refine kS_next ?_
  refine ws_cons ?_
  refine w1_asgC ?_
  refine wx_comp ?_
  refine wx_var rfl ?_
  refine CompS.of (get_app wa) (by rw [List.length_map]; lia) (fun x => !isT t x) id ?_ ?_ (by rw [filter_notT, List.map_id]) ?_
  · intro x hx acc
    obtain ⟨p, hp, rfl⟩ := List.mem_map.mp hx
    simp only [List.set_cons_zero, List.set_cons_succ]
    show WX _ _ [_, _, _, _, _, _, _, _, _, _, _, _, _, _, _, _, _, _, _, _, _, _, _, _, some (.tup [.int p.1, .lst (p.2.rs.map spotV), .lst ((codesOf p.2.W p.2.v).map .int)]), _, _] _ _
    wtm_at "sx"
    exact ⟨rfl, rfl⟩
  · intro x hx _ acc
    simp only [List.set_cons_zero, List.set_cons_succ]
    refine wx_var rfl ?_
    exact ⟨rfl, rfl⟩
  refine ⟨by simp only [List.length_cons, List.length_nil]; decide, ?_⟩
  simp only [List.set_cons_zero, List.set_cons_succ]
  refine kS_next ?_
  -- the state of the ready ones
  have e1 : Eff [] h ((h ++ [O.dead]) ++ [O.list ((pend.filter fun p => decide (p.1 ≠ t)).map waV)]) := ((Eff.refl _ _).app _).app _
  have wa1 : ((h ++ [O.dead]) ++ [O.list ((pend.filter fun p => decide (p.1 ≠ t)).map waV)])[(h ++ [O.dead]).length]? = some (.list ((pend.filter fun p => decide (p.1 ≠ t)).map waV)) := get_last
  have hlen : (h ++ [O.dead]).length = h.length + 1 := by simp
  have hlt := get_lt wa
  have g1 : Qc ((h ++ [O.dead]) ++ [O.list ((pend.filter fun p => decide (p.1 ≠ t)).map waV)]) (h ++ [O.dead]).length t [] 0 (evs pend t) (POf pend t) B := (v.qu.reW (W' := (h ++ [O.dead]).length) (by lia)).eff0 e1
  have v1 := v.eff0 e1
  generalize (h ++ [O.dead]).length = W' at wa1 g1 hlen ⊢
  generalize ((h ++ [O.dead]) ++ [O.list ((pend.filter fun p => decide (p.1 ≠ t)).map waV)]) = h1 at e1 wa1 g1 v1 ⊢
  have okrest : ∀ p ∈ pend.filter (fun p => decide (p.1 ≠ t)), p.2.ok ∧ t < p.1 := fun p hp => by
    rw [List.mem_filter, decide_eq_true_eq] at hp
    have := v.ok p hp.1
    exact ⟨this.1, by have := this.2; have := hp.2; lia⟩
  have lrest : (pend.filter fun p => decide (p.1 ≠ t)).length ≤ pend.length := List.length_filter_le _ _
  have v3 : Inv3 h1 F d σ f M t (pend.filter fun p => decide (p.1 ≠ t)) W' (bs.map bV) B ((pend.filter fun p => decide (p.1 = t)).map (·.2)) :=
    ⟨v1.st, v1.sto, v1.hf, v1.ag, v1.to, wa1, v1.bu, ⟨[], 0, _, by rw [POf_rest]; exact g1, Or.inl ⟨rfl, evs_now _ _⟩⟩, by lia, fun u hu => by
      obtain ⟨p, hp, rfl⟩ := List.mem_map.mp hu
      exact (v.ok p (List.mem_filter.mp hp).1).1⟩
  generalize (pend.filter fun p => decide (p.1 ≠ t)) = rest at hmu okrest lrest v3 ⊢
  refine ws_cons ?_
  refine w1_for ?_
  refine wx_var rfl ?_
  refine forS_mk (congrArg some (ready_vals pend t)) ?_
  refine ready_loop _ σ f M h1 _ _ _ v3 ?_
  intro h2 σ2 f2 M2 y24 y25 y26 v4
  have bu2 := v4.bu
  refine v4.q24 fun _ _ _ _ q24 => ?_
  wtm_at "sx"
  refine c_take3n v4 ?_
  intro h3 v5 g5
  wtm_at "sx"
  refine c_same (n := n + 6) v5.st.fx v5.sto v5.hf v5.ag ?_
  intro h4 e4
  have g6 := g5.eff0 e4
  refine g6.q24 fun _ _ _ q64 => ?_
  have wa6 := e4.eq _ _ (by simp) v5.wa
  have bu6 := e4.eq _ _ (by simp) v5.bu
  wtm_at "sx"
  cases rest with
  | nil =>
    refine c_advance0 (n := n + 8) g6 (fun T => by unfold POf evs; split <;> rfl) ?_
    wtm_at "sx"
    cases bs with
    | nil =>
      refine br_t (decide_eq_true rfl) ?_
      wtm_at "sx"
      exact q _ _ (v5.st.eff e4 (by simp)).tb
    | cons b bs =>
      refine br_f (decide_eq_false (by rw [List.length_map, List.length_cons]; lia)) ?_
      wtm_at "sx"
      refine br_t (decide_eq_true rfl) ?_
      wtm_at "sx"
      refine ih σ2 f2 M2 t [] W' h4 _ _ _ _ _ _ ⟨v5.st.eff e4 (by simp), v5.sto.eff e4 (by simp), e4.eq _ _ (by simp) v5.hf, v5.ag, e4.eq _ _ (by simp) v5.to, wa6, bu6, g6, by lia, by simp, t0, by simp⟩ (by simp) ?_
      have : mu (b :: bs) + 0 < fu := hmu
      exact this
  | cons p rest =>
    have hne : ∃ T, POf (p :: rest) t T ≠ [] := by
      refine ⟨p.1, ?_⟩
      unfold POf evs
      rw [if_pos (okrest p (List.mem_cons_self ..)).2]
      simp
    refine c_advance1 (n := n + 8) g6 t0 v5.W38 (fun T => ?_) hne ?_
    · unfold POf; split
      · exact Nat.lt_of_le_of_lt (evs_len _ _) (by lia)
      · show 0 < 900; lia
    intro h5 T e5 htT hPT hmin g7
    have wa7 := effQ_at e5 ⟨by lia, by lia, fun c => c.2 rfl⟩ wa6
    have bu7 := effQ_at e5 ⟨by decide, by decide, fun c => by have := c.1; lia⟩ bu6
    refine g7.q24 fun _ _ _ q74 => ?_
    have l0 : ((List.map waV (p :: rest)).length : Int) > 0 := by rw [List.length_map, List.length_cons]; lia
    wtm_at "sx"
    refine br_t (by rw [decide_eq_true l0]; rfl) ?_
    wtm_at "sx"
    refine br_t (decide_eq_true l0) ?_
    wtm_at "sx"
    refine wx_comp ?_
    refine wx_var rfl ?_
    refine CompS.of (r := ((p :: rest).map (·.1)).map V.int) wa7 (by rw [List.length_map]; lia) (fun _ => true) (fun x => match x with | .tup (.int T :: _) => .int T | v => v) ?_ ?_ (by rw [List.filter_eq_self.mpr (fun _ _ => rfl), List.map_map, List.map_map]; rfl) ?_
    · intro x hx acc
      wtm_at "sx"
      exact ⟨rfl, rfl⟩
    · intro x hx _ acc
      obtain ⟨p', hp', rfl⟩ := List.mem_map.mp hx
      simp only [List.set_cons_zero, List.set_cons_succ]
      show WX _ _ [_, _, _, _, _, _, _, _, _, _, _, _, _, _, _, _, _, _, _, _, _, _, _, _, some (.tup [.int p'.1, .lst (p'.2.rs.map spotV), .lst ((codesOf p'.2.W p'.2.v).map .int)]), _, _] _ _
      wtm_at "sx"
      exact ⟨rfl, rfl⟩
    wtm_at "sx"
    refine frz_last ?_
    wtm_at "sx"
    have eMin := min_T okrest hmin htT hPT
    refine wb_minl_of (intL_map _) eMin ?_
    wtm_at "sx"
    refine br_t (decide_eq_true rfl) ?_
    wtm_at "sx"
    have e6 : Eff [] h5 (h5 ++ [O.dead]) := (Eff.refl _ _).app _
    have TinP : T ∈ (p :: rest).map (·.1) := by
      have := (minInts_spec (rest.map (·.1)) p.1).1
      rw [eMin] at this; exact this
    refine ih σ2 f2 M2 T (p :: rest) W' (h5 ++ [O.dead]) _ _ _ _ _ _ ?_ ?_ hmu
    · refine Inv.eff0 ⟨(v5.st.eff e4 (by simp)).effQ e5, (v5.sto.eff e4 (by simp)).effQ e5, effQ_at e5 ⟨by decide, by decide, fun c => by have := c.1; lia⟩ (e4.eq _ _ (by simp) v5.hf), v5.ag, effQ_at e5 ⟨by decide, by decide, fun c => by have := c.1; lia⟩ (e4.eq _ _ (by simp) v5.to), wa7, bu7, ?_, by lia, fun p' hp' => ⟨(okrest p' hp').1, ?_⟩, by lia, Nat.le_trans lrest ln⟩ e6
      · have f1 : POf (p :: rest) t T = evs (p :: rest) T := by unfold POf; rw [if_pos htT]
        have f2 : (fun T' => if T' = T then [] else POf (p :: rest) t T') = POf (p :: rest) T := by
          funext T'
          by_cases c : T' = T
          · rw [if_pos c]; unfold POf; rw [if_neg (by lia)]
          · rw [if_neg c]
            by_cases c2 : T < T'
            · unfold POf; rw [if_pos c2, if_pos (by lia)]
            · have : POf (p :: rest) t T' = [] := Classical.byContradiction fun g => by have := hmin T' g; lia
              rw [this]; unfold POf; rw [if_neg c2]
        rw [f1, f2] at g7
        exact g7
      · refine hmin _ ?_
        unfold POf evs
        rw [if_pos (okrest p' hp').2]
        intro c
        have := List.map_eq_nil_iff.mp c
        have h2 : p' ∈ List.filter (fun q => decide (q.1 = p'.1)) (p :: rest) := List.mem_filter.mpr ⟨hp', decide_eq_true rfl⟩
        rw [this] at h2; cases h2
    · intro _
      obtain ⟨p', hp', ep'⟩ := List.mem_map.mp TinP
      exact ⟨p', hp', ep'⟩
theorem Inv.set37 {σ : Nat → Pl} {f : Int → Int} {M : Option Nat} {t : Int} {pend : List (Int × Up)} {W : Nat} {Bs Bs' act : List V} {hd B : Nat} (v : Inv h F d σ f M t pend W Bs act hd B) : Inv (h.set 37 (.list Bs')) F d σ f M t pend W Bs' act hd B := by
  have e : Eff [37] h (h.set 37 (.list Bs')) := (Eff.refl _ _).set (Or.inl (by simp)) _
  have W38 := v.W38
  refine ⟨v.st.eff e (fun y hy => ?_), v.sto.eff e (fun y hy => ?_), e.eq _ _ (by decide) v.hf, v.ag, e.eq _ _ (by decide) v.to, e.eq _ _ (by rw [List.mem_singleton]; lia) v.wa, get_set_eq v.bu, ?_, v.W38, v.ok, v.t0, v.ln⟩
  · rw [List.mem_singleton]; exact (by decide : ∀ y ∈ stL, y ≠ 37) y hy
  · rw [List.mem_singleton] at hy; subst hy
    exact not_foot v.sto v.bu (fun _ q => by cases q)
  · obtain ⟨A, N, L, kl, g⟩ := v.qu
    exact ⟨A, N, L, kl, g.eff1 (fun y hy c => by have := hy.1; lia) (by decide) e⟩
theorem main_loop (q : ∀ m h', (∃ l, h'[0]? = some (O.tab l)) → R (.ret (.bool true)) m h') : ∀ (fu : Nat) (bursts : List (List Deed)) (σ : Nat → Pl) (f : Int → Int) (M : Option Nat) (t : Int) (pend : List (Int × Up)) (W B : Nat) (h : H) (x21 x22 x23 x24 x25 x26 : Option V),
    Inv h F d σ f M t pend W (bursts.map bV) [] 0 B → (∀ ds ∈ bursts, ∀ x ∈ ds, x.ok) → B + tot bursts < 900 → (bursts = [] → ∃ p ∈ pend, p.1 = t) → mu bursts + pend.length < fu →
    WW (n + 10) fu (.bool true) whB [x0, x1, x2, some (.loc 4), x4, some (.loc 10), some (.loc 13), x7, x8, x9, x10, x11, some (.loc 17), some (.loc 20), some (.loc 24), some (.loc 32), some (.loc 37), x17, x18, some (.loc W), some (.int t), x21, x22, x23, x24, x25, x26] h R
  | 0, _, _, _, _, _, _, _, _, _, _, _, _, _, _, _, _, _, _, _, hm => absurd hm (Nat.not_lt_zero _)
  | fu + 1, bursts, σ, f, M, t, pend, W, B, h, x21, x22, x23, x24, x25, x26, v, hb, hB, hne, hm => by
    have bu := v.bu
    refine ww_step ?_
    cases bursts with
    | nil =>
      have bu0 : h[37]? = some (.list []) := bu
      wtm_at "sx"
      refine frz_last ?_
      have e1 : Eff [] h (h ++ [O.dead]) := (Eff.refl _ _).app _
      have v1 := v.eff0 e1
      wtm_at "sx"
      refine ⟨_, rfl, ?_⟩
      refine wf_nil ?_
      refine kS_next ?_
      have h0 : 0 + pend.length < fu + 1 := hm
      refine after_deeds (bs := []) v1 (by have : B + 0 < 900 := hB; lia) ?_ (fun σ f M t pend W h y1 y2 y3 y4 y5 y6 v' hn' hm' => main_loop q fu [] σ f M t pend W B h y1 y2 y3 y4 y5 y6 v' (by simp) hB hn' hm') q
      obtain ⟨p, hp, ep⟩ := hne rfl
      have : (pend.filter fun p => decide (p.1 ≠ t)).length < pend.length := by
        refine List.length_filter_lt_length_iff_exists.mpr ⟨p, hp, ?_⟩
        simp [ep]
      show 0 + _ < fu
      lia
    | cons ds bs =>
      have h0 : 1 + ds.length + mu bs + pend.length < fu + 1 := hm
      have hB0 : B + (ds.length + tot bs) < 900 := hB
      wtm_at "sx"
      refine br_t (decide_eq_true (by rw [List.length_map, List.length_cons]; lia)) ?_
      wtm_at "sx"
      refine wm_popi bu (by decide) rfl ?_
      have v1 : Inv (h.set 37 (.list (bs.map bV))) F d σ f M t pend W (bs.map bV) [] 0 B := v.set37
      show (fun _ => _) _
      wtm_at "sx"
      refine ⟨_, rfl, ?_⟩
      refine deeds_loop (n := n) ds σ f M pend B _ _ v1 (hb ds (List.mem_cons_self ..)) (by lia) ?_
      intro h2 σ2 f2 M2 pend2 y22 v2 l2
      refine kS_next ?_
      refine after_deeds (bs := bs) v2 (by lia) ?_ (fun σ f M t pend W h y1 y2 y3 y4 y5 y6 v' hn' hm' => main_loop q fu bs σ f M t pend W _ h y1 y2 y3 y4 y5 y6 v' (fun d' hd' => hb d' (List.mem_cons_of_mem _ hd')) (by lia) hn' hm') q
      have := List.length_filter_le (fun p : Int × Up => decide (p.1 ≠ t)) pend2
      lia
end
end
section
/-! ### the draws -/
def BagOk (h : H) : Prop := ∃ (a b : Int) (r : List Int), h[1]? = some (.list ((a :: b :: r).map .int))
section
variable {n : Nat} {m : Loc} {h : H} {Q : V → H → Prop} {R : Fl → Loc → H → Prop}
theorem set1_len (o : O) : (h.set 1 o).length = h.length := List.length_set
theorem pull_tail {a b : Int} {r : List Int} {many : Nat} {x2 x3 : Option V} (hb : h[1]? = some (.list ((a :: b :: r).map .int))) (hm : 0 < many) (hm2 : many < 2 ^ 63)
    (q : ∀ (g : Nat) h', g < many → Eff [1] h h' → BagOk h' → h'.length = h.length → Q (.int g) h') : WS n (f_law_pull_b.drop 1) [some (.loc 1), some (.int many), x2, x3] h (kR Q) := by
  wtm_at "sx"
  refine bop_mod (by omega) ?_
  wtm_at "sx"
  refine bop_fdiv ⟨by omega, by omega⟩ ?_
  wtm_at "sx"
  refine puts_list hb ⟨by decide, by simp⟩ ?_
  wtm_at "sx"
  have h0 : a.fmod (many : Int) = ((a.fmod many).toNat : Int) := by
    have := Int.fmod_nonneg_of_pos a (show (0 : Int) < many by omega)
    omega
  rw [h0]
  refine q _ _ ?_ ((Eff.refl [1] h).set (Or.inl (by simp)) _) ⟨a.fdiv many, b, r, get_set_eq hb⟩ (set1_len _)
  have := Int.fmod_lt_of_pos a (show (0 : Int) < many by omega)
  have := Int.fmod_nonneg_of_pos a (show (0 : Int) < many by omega)
  omega
theorem c_pull {many : Nat} (hb : BagOk h) (hm : 0 < many) (hm2 : many < 2 ^ 63) (q : ∀ (g : Nat) h', g < many → Eff [1] h h' → BagOk h' → h'.length = h.length → Q (.int g) h') : WC (n + 1) 28 [.loc 1, .int many] h Q := by
  obtain ⟨a, b, r, hb⟩ := hb
  wtm_at "fn"
  have fin : ∀ (h1 : H) (a' b' : Int) (r' : List Int) x2 x3, h1[1]? = some (.list ((a' :: b' :: r').map .int)) → Eff [1] h h1 → h1.length = h.length → WS n (f_law_pull_b.drop 1) [some (.loc 1), some (.int many), x2, x3] h1 (kR Q) := fun h1 a' b' r' x2 x3 e1 e2 e3 =>
    pull_tail e1 hm hm2 (fun g h' c1 c2 c3 c4 => q g h' c1 (e2.trans c2) c3 (c4.trans e3))
  by_cases c : a = 0
  · refine br_t (decide_eq_true c) ?_
    wtm_at "sx"
    cases r with
    | nil =>
      refine br_f (decide_eq_false (by simp)) ?_
      wtm_at "sx"
      refine puts_list hb ⟨by decide, by simp⟩ ?_
      wtm_at "sx"
      have hb2 : (h.set 1 (.list ((a :: (b * 69069 + 12345).fmod 4294967296 :: []).map V.int)))[1]? = some (.list ((a :: (b * 69069 + 12345).fmod 4294967296 :: []).map V.int)) := get_set_eq hb
      refine puts_list hb2 ⟨by decide, by simp⟩ ?_
      refine kS_next ?_
      refine ws_nil ?_
      refine kS_next ?_
      refine ws_nil ?_
      refine kS_next ?_
      refine fin _ (((b * 69069 + 12345).fmod 4294967296).fdiv 16) ((b * 69069 + 12345).fmod 4294967296) [] _ _ (get_set_eq hb2) (((Eff.refl [1] h).set (Or.inl (by simp)) _).set (Or.inl (by simp)) _) (by rw [List.length_set, List.length_set])
    | cons d r =>
      refine br_t (decide_eq_true (by simp; omega)) ?_
      wtm_at "sx"
      refine wm_popi hb (by decide) rfl ?_
      have hb2 : (h.set 1 (.list ((a :: b :: r).map V.int)))[1]? = some (.list ((a :: b :: r).map V.int)) := get_set_eq hb
      refine nrm_mk (by dsimp only [List.set]) ?_
      show WS n [_] _ (h.set 1 (.list ((a :: b :: r).map V.int))) _
      have fin2 : ∀ y : Int, WS n (f_law_pull_b.drop 1) [some (.loc 1), some (.int many), some (.int d), none] ((h.set 1 (.list ((a :: b :: r).map V.int))).set 1 (.list ((y :: b :: r).map V.int))) (kR Q) := fun y =>
        fin _ y b r _ _ (get_set_eq hb2) (((Eff.refl [1] h).set (Or.inl (by simp)) _).set (Or.inl (by simp)) _) (by rw [List.length_set, List.length_set])
      wtm_at "sx"
      by_cases cd : d ≥ 0
      · refine br_t (decide_eq_true cd) ?_
        wtm_at "sx"
        refine puts_list hb2 ⟨by decide, by simp⟩ ?_
        refine kS_next ?_
        refine ws_nil ?_
        refine kS_next ?_
        refine ws_nil ?_
        exact fin2 (2 * d)
      · refine br_f (decide_eq_false cd) ?_
        wtm_at "sx"
        refine puts_list hb2 ⟨by decide, by simp⟩ ?_
        refine kS_next ?_
        refine ws_nil ?_
        refine kS_next ?_
        refine ws_nil ?_
        exact fin2 (-2 * d - 1)
  · refine br_f (decide_eq_false c) ?_
    refine ws_nil ?_
    exact fin h a b r _ _ hb (Eff.refl _ _) rfl
end
end
section
noncomputable def wholeLv (k : Nat) : Lv := ⟨wd k, [⟨wd k, k, none, .at 0⟩]⟩
theorem wholeLv_ok {k : Nat} (hk : k < 3) : (wholeLv k).ok := by
  have := wd_le k
  refine ⟨fun p hp => ?_, rfl, by show 1 ≤ 2; decide, by show wd k ≤ 10; lia⟩
  have hp : p ∈ [Part.mk (wd k) k none (.at 0)] := hp
  rw [List.mem_singleton] at hp
  subst hp
  exact ⟨by show 1 ≤ wd k; lia, this.2, by show k < 4; lia, Or.inl ⟨rfl, hk⟩, trivial⟩
section
variable {n : Nat} {m : Loc} {h : H} {Q : V → H → Prop} {R : Fl → Loc → H → Prop}
theorem pow_small {w : Nat} (hw : w ≤ 10) : 1 <<< w < 2 ^ 63 ∧ 0 < 1 <<< w := by
  rw [Nat.shiftLeft_eq, Nat.one_mul]
  exact ⟨Nat.pow_lt_pow_right (by decide) (by lia), Nat.two_pow_pos w⟩
theorem c_constant {w : Nat} (hb : BagOk h) (hw : 1 ≤ w ∧ w ≤ 10) (q : ∀ (a b : Nat) h', a < 2 ^ w → b < 2 ^ w → Eff [1] h h' → BagOk h' → h'.length = h.length → Q (E.const w a b).v h') : WC (n + 2) 29 [.loc 1, .int w] h Q := by
  have ps := pow_small hw.2
  have sh : ∀ a : Nat, a < 1 <<< w → a < 2 ^ w := fun a ha => by rw [Nat.shiftLeft_eq, Nat.one_mul] at ha; exact ha
  wtm_at "fn"
  refine c_pull (many := 4) hb (by decide) (by decide) ?_
  intro g h1 hg e1 b1 l1
  wtm_at "sx"
  -- the second draw
  have rest : ∀ (b : Nat) (h2 : H), b < 2 ^ w → Eff [1] h h2 → BagOk h2 → h2.length = h.length → WS (n + 1) (f_law_constant_b.drop 1) [some (.loc 1), some (.int w), some (.int b)] h2 (kR Q) := fun b h2 hb2 e2 b2 l2 => by
    wtm_at "sx"
    refine bop_shl_nat (a := 1) (by decide) (by lia) ?_
    wtm_at "sx"
    refine c_pull b2 ps.2 ps.1 ?_
    intro a h3 ha e3 b3 l3
    wtm_at "sx"
    exact q a b h3 (sh a ha) hb2 (e2.trans e3) b3 (l3.trans l2)
  by_cases c : (g : Int) = 0
  · refine br_t (decide_eq_true c) ?_
    wtm_at "sx"
    refine bop_shl_nat (a := 1) (by decide) (by lia) ?_
    wtm_at "sx"
    refine c_pull b1 ps.2 ps.1 ?_
    intro b h2 hb2 e2 b2 l2
    exact ⟨rest b h2 (sh b hb2) (e1.trans e2) b2 (l2.trans l1)⟩
  · refine br_f (decide_eq_false c) ?_
    refine wx_int ?_
    exact ⟨rest 0 h1 (Nat.two_pow_pos w) e1 b1 l1⟩
theorem c_variable {k : Nat} (hk : k < 3) (q : Q (E.sig k).v h) : WC (n + 1) 30 [.int k] h Q := by
  have hk3 : k = 0 ∨ k = 1 ∨ k = 2 := by lia
  wtm_at "fn"
  rcases hk3 with rfl | rfl | rfl
  · refine br_t (decide_eq_true rfl) ?_
    wtm_at "sx"
    exact q
  · refine br_f (decide_eq_false (by decide)) ?_
    wtm_at "sx"
    exact q
  · refine br_f (decide_eq_false (by decide)) ?_
    wtm_at "sx"
    exact q
theorem c_wholeLv {k : Nat} (hk : k < 3) (q : Q (wholeLv k).v h) : WC (n + 1) 31 [.int k] h Q := by
  have hk3 : k = 0 ∨ k = 1 ∨ k = 2 := by lia
  wtm_at "fn"
  rcases hk3 with rfl | rfl | rfl
  · refine br_t (decide_eq_true rfl) ?_
    wtm_at "sx"
    exact q
  · refine br_f (decide_eq_false (by decide)) ?_
    wtm_at "sx"
    exact q
  · refine br_f (decide_eq_false (by decide)) ?_
    wtm_at "sx"
    exact q
noncomputable def targetB : List S := forB (f_law_target_b.getD 2 .bad)
theorem target_loop {l : Nat} (hl : h.length ≤ l) (hl1 : 2 ≤ h.length) : ∀ (vs : List V) (acc : List Part) (h1 : H) (x3 x4 x5 x6 x7 x8 : Option V), (∀ p ∈ acc, p.ok ∧ p.w ≤ 3) → acc.length + vs.length ≤ 2 → Eff [1] h h1 → BagOk h1 → h1[l]? = some (.list (acc.map Part.v)) →
    (∀ h' acc' x3 x4 x5 x6 x7 x8, (∀ p ∈ acc', Part.ok p ∧ p.w ≤ 3) → acc'.length = acc.length + vs.length → Eff [1] h h' → BagOk h' → h'[l]? = some (.list (acc'.map Part.v)) → R .next [some (.loc 1), some (.loc l), some (.int (sumW acc' : Nat)), x3, x4, x5, x6, x7, x8] h') →
    WF (n + 3) (.name 3) targetB vs [some (.loc 1), some (.loc l), some (.int (sumW acc : Nat)), x3, x4, x5, x6, x7, x8] h1 R := by
  intro vs
  induction vs with
  | nil =>
    intro acc  h1  x3  x4  x5  x6  x7  x8  hp  hn  e1  b1  g1  q
    exact wf_nil (q h1 acc _ _ _ _ _ _ hp rfl e1 b1 g1)
  | cons v vs IH =>
    intro acc  h1  x3  x4  x5  x6  x7  x8  hp  hn  e1  b1  g1  q
    have hn2 : acc.length + (vs.length + 1) ≤ 2 := hn
    have hl0 : l ≠ 1 := by lia
    refine wf_cons ?_
    wtm_at "sx"
    refine c_pull (many := 4) b1 (by decide) (by decide) ?_
    intro j h2 hj e2 b2 l2
    wtm_at "sx"
    refine c_pull (many := 3) b2 (by decide) (by decide) ?_
    intro w0 h3 hw e3 b3 l3
    wtm_at "sx"
    rw [show (1 : Int) + (w0 : Int) = ((1 + w0 : Nat) : Int) by lia]
    have e13 : Eff [1] h1 h3 := e2.trans e3
    -- from the place on
    have fin : ∀ (wo : Option (E × Bool)) (wh : Wh) (h5 : H) (x8 : Option V), Eff [1] h1 h5 → BagOk h5 → ((wo = none ∧ j < 3) ∨ ∃ e s, wo = some (e, s) ∧ j = 3 ∧ E.ok e) → wh.ok →
        WS (n + 3) (targetB.drop 6) [some (.loc 1), some (.loc l), some (.int (sumW acc : Nat)), some v, some (.int j), some (.int (1 + w0 : Nat)), some (woV wo), some wh.v, x8] h5 (kF (fun m h => WF (n + 3) (.name 3) targetB vs m h R) R) := fun wo wh h5 x8 e5 b5 hwo hwh => by
      have g5 := e5.eq _ _ (by rw [List.mem_singleton]; exact hl0) g1
      wtm_at "sx"
      refine wm_append g5 (by rw [List.length_map]; lia) ?_
      wtm_at "sx"
      refine w1_aug rfl (fun z => by simp only [List.set_cons_zero, List.set_cons_succ] <;> rfl) ?_
      wtm_at "sx"
      have ok : (Part.mk (1 + w0) j wo wh).ok := ⟨by show 1 ≤ 1 + w0; lia, by show 1 + w0 ≤ 4; lia, hj, hwo, hwh⟩
      have sw : ∀ (ps : List Part) (p : Part), sumW (ps ++ [p]) = sumW ps + p.w := fun ps p => by
        induction ps with
        | nil => show p.w + 0 = 0 + p.w; lia
        | cons a r ih => show a.w + sumW (r ++ [p]) = a.w + sumW r + p.w; rw [ih]; lia
      have es : ((sumW acc : Nat) : Int) + ((1 + w0 : Nat) : Int) = ((sumW (acc ++ [⟨1 + w0, j, wo, wh⟩]) : Nat) : Int) := by rw [sw]; show _ = ((sumW acc + (1 + w0) : Nat) : Int); lia
      rw [es]
      have ev : List.map Part.v acc ++ [V.tup [.str 1, .int (1 + w0 : Nat), .int j, woV wo, wh.v]] = (acc ++ [(⟨1 + w0, j, wo, wh⟩ : Part)]).map Part.v := by rw [List.map_append]; rfl
      rw [ev]
      refine IH (acc ++ [⟨1 + w0, j, wo, wh⟩]) _ _ _ _ _ _ _ (fun p hp' => ?_) (by rw [List.length_append]; show acc.length + 1 + _ ≤ 2; lia) ((e1.trans e5).set (Or.inr hl) _) ?_ (get_set_eq g5) (fun h' acc' y3 y4 y5 y6 y7 y8 hp' hl' => q h' acc' y3 y4 y5 y6 y7 y8 hp' (by rw [hl', List.length_append]; show acc.length + 1 + vs.length = acc.length + (vs.length + 1); lia))
      · rcases List.mem_append.mp hp' with hp' | hp'
        · exact hp p hp'
        · rw [List.mem_singleton] at hp'; subst hp'
          exact ⟨ok, by show 1 + w0 ≤ 3; lia⟩
      · obtain ⟨a, b, r, hb⟩ := b5
        exact ⟨a, b, r, get_set_ne hb hl0⟩
    -- from the word on
    have tail : ∀ (wo : Option (E × Bool)) (h4 : H), Eff [1] h1 h4 → BagOk h4 → ((wo = none ∧ j < 3) ∨ ∃ e s, wo = some (e, s) ∧ j = 3 ∧ E.ok e) →
        WS (n + 3) (targetB.drop 4) [some (.loc 1), some (.loc l), some (.int (sumW acc : Nat)), some v, some (.int j), some (.int (1 + w0 : Nat)), some (woV wo), x7, x8] h4 (kF (fun m h => WF (n + 3) (.name 3) targetB vs m h R) R) := fun wo h4 e4 b4 hwo => by
      wtm_at "sx"
      refine c_pull (many := 5) b4 (by decide) (by decide) ?_
      intro lo h5 _ e5 b5 l5
      wtm_at "sx"
      refine c_pull (many := 3) b5 (by decide) (by decide) ?_
      intro c h6 _ e6 b6 l6
      wtm_at "sx"
      have e46 := e4.trans (e5.trans e6)
      by_cases hc : (c : Int) = 0
      · refine br_t (decide_eq_true hc) ?_
        wtm_at "sx"
        refine c_pull (many := 3) b6 (by decide) (by decide) ?_
        intro k h7 hk e7 b7 l7
        wtm_at "sx"
        refine c_variable hk ?_
        wtm_at "sx"
        refine c_pull (many := 2) b7 (by decide) (by decide) ?_
        intro s h8 _ e8 b8 l8
        wtm_at "sx"
        refine c_pull (many := 3) b8 (by decide) (by decide) ?_
        intro f h9 _ e9 b9 l9
        wtm_at "sx"
        refine c_pull (many := 2) b9 (by decide) (by decide) ?_
        intro st h10 hst e10 b10 l10
        iterate 6 wtm_at "s1"
        wtm_at "s1"
        refine ws_nil ?_
        refine kS_next ?_
        exact fin wo (.pick k (decide ((s : Int) = 0)) f (1 - 2 * st)) h10 _ (e46.trans (e7.trans (e8.trans (e9.trans e10)))) b10 hwo ⟨hk, by lia⟩
      · refine br_f (decide_eq_false hc) ?_
        refine ws_nil ?_
        exact fin wo (.at (lo - 1)) h6 _ e46 b6 hwo trivial
    by_cases hj3 : (j : Int) = 3
    · have hj3' : j = 3 := by lia
      subst hj3'
      refine br_t (decide_eq_true hj3) ?_
      wtm_at "sx"
      refine c_pull (many := 2) b3 (by decide) (by decide) ?_
      intro s h4 _ e4 b4 l4
      wtm_at "sx"
      refine c_pull (many := 3) b4 (by decide) (by decide) ?_
      intro c h5 _ e5 b5 l5
      wtm_at "sx"
      have e15 := e13.trans (e4.trans e5)
      by_cases hc : (c : Int) = 0
      · refine br_t (decide_eq_true hc) ?_
        wtm_at "sx"
        refine c_constant (w := 3) b5 (by decide) ?_
        intro a b h6 ha hb e6 b6 l6
        wtm_at "sx"
        refine c_pull (many := 2) b6 (by decide) (by decide) ?_
        intro s2 h7 _ e7 b7 l7
        iterate 5 wtm_at "s1"
        refine ws_nil ?_
        refine kS_next ?_
        refine ws_nil ?_
        exact tail (some (.const 3 a b, decide ((s2 : Int) = 0))) h7 (e15.trans (e6.trans e7)) b7 (Or.inr ⟨_, _, rfl, rfl, by decide, by decide, ha, hb⟩)
      · refine br_f (decide_eq_false hc) ?_
        refine ws_nil ?_
        refine kS_next ?_
        refine ws_nil ?_
        exact tail (some (.sig 2, decide ((s : Int) = 0))) h5 e15 b5 (Or.inr ⟨_, _, rfl, rfl, by show 2 < 3; decide⟩)
    · refine br_f (decide_eq_false hj3) ?_
      refine ws_nil ?_
      exact tail none h3 e13 b3 (Or.inl ⟨rfl, by lia⟩)
theorem sumW_le : ∀ (ps : List Part), (∀ p ∈ ps, p.w ≤ 3) → sumW ps ≤ 3 * ps.length := by
  intro ps
  induction ps with
  | nil =>
    intro _
    exact Nat.le_refl _
  | cons p ps IH =>
    intro h
    have := IH (fun q hq => h q (List.mem_cons_of_mem _ hq))
    have := h p (List.mem_cons_self ..)
    show p.w + sumW ps ≤ 3 * (ps.length + 1)
    lia
theorem sumW_ge : ∀ (ps : List Part), (∀ p ∈ ps, Part.ok p) → ps.length ≤ sumW ps := by
  intro ps
  induction ps with
  | nil =>
    intro _
    exact Nat.le_refl _
  | cons p ps IH =>
    intro h
    have := IH (fun q hq => h q (List.mem_cons_of_mem _ hq))
    have := (h p (List.mem_cons_self ..)).w1
    show ps.length + 1 ≤ p.w + sumW ps
    lia
theorem c_target (hb : BagOk h) (hl1 : 2 ≤ h.length) (q : ∀ (lv : Lv) h', lv.ok → 1 ≤ lv.W → Eff [1] h h' → BagOk h' → Q lv.v h') : WC (n + 4) 32 [.loc 1] h Q := by
  wtm_at "fn"
  obtain ⟨a, b, r, hb0⟩ := hb
  refine c_pull (many := 2) ⟨a, b, r, get_app hb0⟩ (by decide) (by decide) ?_
  intro g h1 hg e1 b1 l1
  wtm_at "sx"
  refine wb_range ⟨by lia, by lia⟩ ?_
  refine ⟨_, by rw [show (1 : Int) + (g : Int) = ((1 + g : Nat) : Int) by lia]; exact rng_vals _, ?_⟩
  have g1 : h1[h.length]? = some (.list (([] : List Part).map Part.v)) := e1.eq _ _ (by rw [List.mem_singleton]; lia) get_last
  refine target_loop (h := h) (l := h.length) (Nat.le_refl _) hl1 _ [] h1 none none none none none none (by simp) (by simp; lia) (Eff.trans ((Eff.refl [1] h).app _) e1) b1 g1 ?_
  intro h2 acc x3 x4 x5 x6 x7 x8 hp hn e2 b2 g2
  wtm_at "sx"
  refine wb_tuple (by simp only [listOf, g2]; rfl) ?_
  wtm_at "sx"
  have hn2 : acc.length = 1 + g := by rw [hn, List.length_map, List.length_range]; simp
  have := sumW_ge acc (fun p hp' => (hp p hp').1)
  refine q ⟨sumW acc, acc⟩ h2 ⟨fun p hp' => (hp p hp').1, rfl, by show acc.length ≤ 2; lia, ?_⟩ (by show 1 ≤ sumW acc; lia) e2 b2
  have := sumW_le acc (fun p hp' => (hp p hp').2)
  show sumW acc ≤ 10
  lia
theorem c_deed (hb : BagOk h) (hl1 : 2 ≤ h.length) (q : ∀ (x : Deed) h', x.ok → Eff [1] h h' → BagOk h' → Q x.v h') : WC (n + 5) 33 [.loc 1] h Q := by
  wtm_at "fn"
  refine c_target hb hl1 ?_
  intro lv0 h1 hlv0 hW0 e1 b1
  wtm_at "sx"
  refine c_pull (many := 4) b1 (by decide) (by decide) ?_
  intro g h2 hg e2 b2 l2
  wtm_at "sx"
  -- from the target on
  have tail : ∀ (lv : Lv) (h3 : H), lv.ok → 1 ≤ lv.W → Eff [1] h h3 → BagOk h3 → WS (n + 4) (f_law_deed_b.drop 2) [some (.loc 1), some (.tup [.str 26, .int lv.W, .tup (lv.ps.map Part.v)]), none, none] h3 (kR Q) := fun lv h3 hlv hW e3 b3 => by
    have W2 := hlv.W2
    wtm_at "sx"
    refine c_constant b3 ⟨hW, W2⟩ ?_
    intro a b h4 ha hb e4 b4 l4
    wtm_at "sx"
    refine c_pull (many := 2) b4 (by decide) (by decide) ?_
    intro g h5 hg e5 b5 l5
    wtm_at "sx"
    have e35 := e3.trans (e4.trans e5)
    have fin : ∀ (e : E) (h6 : H), e.ok → e.w = lv.W → Eff [1] h h6 → BagOk h6 → WS (n + 4) (f_law_deed_b.drop 4) [some (.loc 1), some (.tup [.str 26, .int lv.W, .tup (lv.ps.map Part.v)]), some e.v, none] h6 (kR Q) := fun e h6 he hew e6 b6 => by
      wtm_at "sx"
      refine c_pull (many := 4) b6 (by decide) (by decide) ?_
      intro k h7 hk e7 b7 l7
      have e07 := e6.trans e7
      wtm_at "sx"
      by_cases k0 : (k : Int) = 0
      · refine br_t (decide_eq_true k0) ?_
        wtm_at "sx"
        exact q ⟨lv, e, none⟩ h7 ⟨hlv, he, hew, fun y hy => by cases hy⟩ e07 b7
      · refine br_f (decide_eq_false k0) ?_
        wtm_at "sx"
        by_cases k1 : (k : Int) = 1
        · refine br_t (decide_eq_true k1) ?_
          wtm_at "sx"
          exact q ⟨lv, e, some none⟩ h7 ⟨hlv, he, hew, fun y hy => by cases hy⟩ e07 b7
        · refine br_f (decide_eq_false k1) ?_
          wtm_at "sx"
          by_cases k2 : (k : Int) = 2
          · refine br_t (decide_eq_true k2) ?_
            wtm_at "sx"
            refine c_variable (k := 2) (by decide) ?_
            wtm_at "sx"
            exact q ⟨lv, e, some (some (.sig 2))⟩ h7 ⟨hlv, he, hew, fun y hy => by cases hy; show 2 < 3; decide⟩ e07 b7
          · refine br_f (decide_eq_false k2) ?_
            wtm_at "sx"
            refine c_constant (w := 2) b7 (by decide) ?_
            intro a b h8 ha hb e8 b8 l8
            wtm_at "sx"
            exact q ⟨lv, e, some (some (.const 2 a b))⟩ h8 ⟨hlv, he, hew, fun y hy => by cases hy; exact ⟨by decide, by decide, ha, hb⟩⟩ (e07.trans e8) b8
    by_cases c : (g : Int) = 0
    · refine br_t (decide_eq_true c) ?_
      wtm_at "sx"
      refine c_pull (many := 3) b5 (by decide) (by decide) ?_
      intro k h6 hk e6 b6 l6
      wtm_at "sx"
      refine c_variable hk ?_
      wtm_at "sx"
      refine c_pull (many := 2) b6 (by decide) (by decide) ?_
      intro s h7 _ e7 b7 l7
      iterate 4 wtm_at "s1"
      wtm_at "s1"
      refine ws_nil ?_
      refine kS_next ?_
      exact fin (.ext lv.W k (decide ((s : Int) = 0))) h7 ⟨hW, W2, hk⟩ rfl (e35.trans (e6.trans e7)) b7
    · refine br_f (decide_eq_false c) ?_
      refine ws_nil ?_
      exact fin (.const lv.W a b) h5 ⟨hW, W2, ha, hb⟩ rfl e35 b5
  by_cases c : (g : Int) = 0
  · refine br_t (decide_eq_true c) ?_
    wtm_at "sx"
    refine c_wholeLv (k := 2) (by decide) ?_
    wtm_at "s1"
    refine ws_nil ?_
    refine kS_next ?_
    exact tail (wholeLv 2) h2 (wholeLv_ok (by decide)) (by decide) (e1.trans e2) b2
  · refine br_f (decide_eq_false c) ?_
    refine ws_nil ?_
    exact tail lv0 h2 hlv0 hW0 (e1.trans e2) b2
noncomputable def bitLv : Lv := ⟨1, [⟨1, 0, none, .pick 2 false 0 1⟩]⟩
noncomputable def fixedDs : List Deed := [⟨wholeLv 0, .const 4 0 0, none⟩, ⟨wholeLv 2, .const 3 1 0, none⟩, ⟨bitLv, .const 1 1 0, some none⟩, ⟨wholeLv 2, .const 3 2 0, none⟩, ⟨wholeLv 1, .ext 3 2 false, some (some (.const 3 5 4))⟩]
theorem bitLv_ok : bitLv.ok := by
  refine ⟨fun p hp => ?_, rfl, by decide, by decide⟩
  have hp : p ∈ [Part.mk 1 0 none (.pick 2 false 0 1)] := hp
  rw [List.mem_singleton] at hp
  subst hp
  exact ⟨by decide, by decide, by decide, Or.inl ⟨rfl, by decide⟩, by decide, Or.inl rfl⟩
theorem fixedDs_ok : ∀ x ∈ fixedDs, x.ok := by
  intro x hx
  have hx : x ∈ [(⟨wholeLv 0, .const 4 0 0, none⟩ : Deed), ⟨wholeLv 2, .const 3 1 0, none⟩, ⟨bitLv, .const 1 1 0, some none⟩, ⟨wholeLv 2, .const 3 2 0, none⟩, ⟨wholeLv 1, .ext 3 2 false, some (some (.const 3 5 4))⟩] := hx
  simp only [List.mem_cons, List.not_mem_nil, or_false] at hx
  rcases hx with rfl | rfl | rfl | rfl | rfl
  · exact ⟨wholeLv_ok (by decide), ⟨by decide, by decide, by decide, by decide⟩, rfl, fun y hy => by cases hy⟩
  · exact ⟨wholeLv_ok (by decide), ⟨by decide, by decide, by decide, by decide⟩, rfl, fun y hy => by cases hy⟩
  · exact ⟨bitLv_ok, ⟨by decide, by decide, by decide, by decide⟩, rfl, fun y hy => by cases hy⟩
  · exact ⟨wholeLv_ok (by decide), ⟨by decide, by decide, by decide, by decide⟩, rfl, fun y hy => by cases hy⟩
  · exact ⟨wholeLv_ok (by decide), ⟨by decide, by decide, by decide⟩, rfl, fun y hy => by cases hy; exact ⟨by decide, by decide, by decide, by decide⟩⟩
theorem c_fixed (q : Q (.loc h.length) (h ++ [.list (fixedDs.map Deed.v)])) : WC (n + 2) 34 [] h Q := by
  wtm_at "fn"
  refine c_wholeLv (k := 0) (by decide) ?_
  wtm_at "sx"
  refine c_wholeLv (k := 2) (by decide) ?_
  wtm_at "sx"
  refine c_wholeLv (k := 2) (by decide) ?_
  wtm_at "sx"
  refine c_wholeLv (k := 1) (by decide) ?_
  wtm_at "sx"
  exact q
end
end
section
section
variable {n : Nat} {m : Loc} {h : H} {R : Fl → Loc → H → Prop} {Q : H → Prop}
theorem set_app {x y : O} {t : H} : (h ++ x :: t).set h.length y = h ++ y :: t := by
  rw [List.set_append_right _ _ (Nat.le_refl _), Nat.sub_self, List.set_cons_zero]
theorem app1 {x : O} {t s : H} : (h ++ x :: t) ++ s = h ++ x :: (t ++ s) := by rw [List.append_assoc, List.cons_append]
theorem ws_init {C k : Nat} {fs : List (Nat × V)} {t : H} {e : X} {r : List S} (hm : m[0]? = some (some (.loc h.length))) (hc : clsMeth C k = none) (hl : fs.length < 100)
    (w : WX n e m (h ++ .inst C fs :: t) fun v h1 => ∃ t', h1 = h ++ .inst C fs :: t' ∧ WS n r m (h ++ .inst C (setF fs k v) :: t') R) : WS n (.asg (.attr (.var 0) k) e :: r) m (h ++ .inst C fs :: t) R := by
  refine ws_cons (w1_asg (w.mono ?_))
  rintro v _ ⟨t', rfl, w'⟩
  refine wt_attr (wx_var hm (isLoc ⟨C, fs, ?_, ⟨hc, hl⟩, ?_⟩))
  · rw [List.getElem?_append_right (Nat.le_refl _), Nat.sub_self]; rfl
  · rw [set_app]; exact kS_next w'
theorem c_sig {k w m1 : Int} {p : Nat} (q : Q (h ++ [.inst 0 (sigF k p w m1 .non .non)])) : WC (n + 1) 43 [.loc h.length, .int k, .str p, .str 30, .int w, .bool false, .int m1, .int 0] (h ++ [.inst 0 []]) (fun r h2 => r = .non ∧ Q h2) := by
  refine wc_fn rfl rfl (by decide) (by simp only [List.map_cons, List.map_nil, Nat.reduceSub, List.replicate_succ, List.replicate_zero, List.cons_append, List.nil_append, List.append_nil] <;> rfl) ?_
  repeat (wtm_at "- ws_init:rrl_"; first | (first | wtm_at "- wx_var:r_ wx_non wx_int wx_bool" | (wtm_at "- wx_neg"; wtm_at "- wx_int"; wtm_at "- isInt")); refine ⟨_, rfl, ?_⟩ | (first | (wtm_at "- wx_list"; wtm_at "- wxs_nil"; wtm_at "- And.intro:d_") | wtm_at "- wx_dict0"); refine ⟨_, app1, ?_⟩)
  refine ws_nil ?_
  refine kR_next ?_
  exact ⟨rfl, q⟩
theorem c_store {s : Nat} (q : Q (h ++ [.inst 3 [(4, .loc s), (55, .loc (h.length + 1)), (56, .loc (h.length + 2)), (57, .int 1)], .dict [], .dict []])) : WC (n + 1) 55 [.loc h.length, .loc s] (h ++ [.inst 3 []]) (fun r h2 => r = .non ∧ Q h2) := by
  refine wc_fn rfl rfl (by decide) (by simp only [List.map_cons, List.map_nil, Nat.reduceSub, List.replicate_succ, List.replicate_zero, List.cons_append, List.nil_append, List.append_nil] <;> rfl) ?_
  repeat (wtm_at "- ws_init:rrl_"; first | (first | wtm_at "- wx_var:r_ wx_non wx_int wx_bool" | (wtm_at "- wx_neg"; wtm_at "- wx_int"; wtm_at "- isInt")); refine ⟨_, rfl, ?_⟩ | (first | (wtm_at "- wx_list"; wtm_at "- wxs_nil"; wtm_at "- And.intro:d_") | wtm_at "- wx_dict0"); refine ⟨_, app1, ?_⟩)
  refine ws_nil ?_
  refine kR_next ?_
  refine ⟨rfl, ?_⟩
  simp only [List.length_append, List.length_cons, List.length_nil, List.nil_append, List.cons_append]
  exact q
theorem c_queue (q : Q (h ++ [.inst 1 [(24, .int 0), (35, .loc (h.length + 1)), (36, .int 0), (37, .loc (h.length + 2)), (38, .loc (h.length + 3)), (39, .loc (h.length + 4)), (40, .loc (h.length + 5))], .list [], .list [], .list [], .list [], .dict []])) : WC (n + 1) 47 [.loc h.length] (h ++ [.inst 1 []]) (fun r h2 => r = .non ∧ Q h2) := by
  refine wc_fn rfl rfl (by decide) (by simp only [List.map_cons, List.map_nil, Nat.reduceSub, List.replicate_succ, List.replicate_zero, List.cons_append, List.nil_append, List.append_nil] <;> rfl) ?_
  repeat (wtm_at "- ws_init:rrl_"; first | (first | wtm_at "- wx_var:r_ wx_non wx_int wx_bool" | (wtm_at "- wx_neg"; wtm_at "- wx_int"; wtm_at "- isInt")); refine ⟨_, rfl, ?_⟩ | (first | (wtm_at "- wx_list"; wtm_at "- wxs_nil"; wtm_at "- And.intro:d_") | wtm_at "- wx_dict0"); refine ⟨_, app1, ?_⟩)
  refine ws_nil ?_
  refine kR_next ?_
  refine ⟨rfl, ?_⟩
  simp only [List.length_append, List.length_cons, List.length_nil, List.nil_append, List.cons_append]
  exact q
theorem c_thread {k : Int} {a b s : Nat} (q : Q (h ++ [.inst 2 [(43, .int k), (44, .loc a), (45, .int 0), (2, .loc b), (26, .str s), (46, .loc (h.length + 1)), (47, .loc (h.length + 2)), (48, .int (-1)), (49, .loc (h.length + 3)), (50, .bool false), (51, .non), (52, .int 0), (53, .bool false), (54, .bool false)], .list [], .list [], .dict []])) : WC (n + 1) 54 [.loc h.length, .int k, .loc a, .int 0, .loc b, .str s] (h ++ [.inst 2 []]) (fun r h2 => r = .non ∧ Q h2) := by
  refine wc_fn rfl rfl (by decide) (by simp only [List.map_cons, List.map_nil, Nat.reduceSub, List.replicate_succ, List.replicate_zero, List.cons_append, List.nil_append, List.append_nil] <;> rfl) ?_
  repeat (wtm_at "- ws_init:rrl_"; first | (first | wtm_at "- wx_var:r_ wx_non wx_int wx_bool" | (wtm_at "- wx_neg"; wtm_at "- wx_int"; wtm_at "- isInt")); refine ⟨_, rfl, ?_⟩ | (first | (wtm_at "- wx_list"; wtm_at "- wxs_nil"; wtm_at "- And.intro:d_") | wtm_at "- wx_dict0"); refine ⟨_, app1, ?_⟩)
  refine ws_nil ?_
  refine kR_next ?_
  refine ⟨rfl, ?_⟩
  simp only [List.length_append, List.length_cons, List.length_nil, List.nil_append, List.cons_append]
  exact q
end
section
variable {n : Nat} {m : Loc} {h : H} {Q : V → H → Prop} {R : Fl → Loc → H → Prop}
theorem bag_lit {o0 o1 : O} {r h' : H} (e : Eff [1] (o0 :: o1 :: r) h') (b : BagOk h') (l : h'.length = (o0 :: o1 :: r).length) : ∃ (a b : Int) (s : List Int), h' = o0 :: .list ((a :: b :: s).map .int) :: r := by
  obtain ⟨a, b, s, hb⟩ := b
  refine ⟨a, b, s, ?_⟩
  apply List.ext_getElem?
  intro i
  by_cases h1 : i = 1
  · subst h1; rw [hb]; rfl
  · by_cases hi : i < (o0 :: o1 :: r).length
    · have e1 := e.eq i _ (by rw [List.mem_singleton]; exact h1) (List.getElem?_eq_getElem hi)
      rw [e1, ← List.getElem?_eq_getElem hi]
      match i, h1 with
      | 0, _ => rfl
      | i + 2, _ => rfl
    · rw [List.getElem?_eq_none (by lia), List.getElem?_eq_none (by simp only [List.length_cons] at hi ⊢; lia)]
noncomputable def bagB : List S := forB (f_law_bag_b.getD 1 .bad)
theorem bag_loop {x0 : Option V} {vs0 : List V} : ∀ (vs : List Int) (a b : Int) (r : List Int) (x2 : Option V), r.length + vs.length ≤ 100 →
    (∀ a b r x2, R .next [x0, some (.loc 1), x2] [.tab [], .list ((a :: b :: r).map .int), .list vs0, .dead]) →
    WF n (.name 2) bagB (vs.map .int) [x0, some (.loc 1), x2] [.tab [], .list ((a :: b :: r).map .int), .list vs0, .dead] R := by
  intro vs
  induction vs with
  | nil =>
    intro a  b  r  x2  _  q
    exact wf_nil (q a b r x2)
  | cons v vs IH =>
    intro a  b  r  x2  hl  q
    have hl2 : r.length + (vs.length + 1) ≤ 100 := hl
    rw [List.map_cons]
    refine wf_cons ?_
    have g1 : ([.tab [], .list ((a :: b :: r).map .int), .list vs0, .dead] : H)[1]? = some (.list ((a :: b :: r).map .int)) := rfl
    wtm_at "sx"
    refine wm_append g1 (by simp; lia) ?_
    simp only [List.set_cons_zero, List.set_cons_succ]
    have ev : List.map V.int (a :: b :: r) ++ [V.int v] = (a :: b :: (r ++ [v])).map V.int := by simp
    rw [ev]
    have g2 : ([.tab [], .list ((a :: b :: (r ++ [v])).map .int), .list vs0, .dead] : H)[1]? = some (.list ((a :: b :: (r ++ [v])).map .int)) := rfl
    wtm_at "sx"
    refine puts_list g2 ⟨by decide, by simp⟩ ?_
    simp only [List.set_cons_zero, List.set_cons_succ]
    wtm_at "sx"
    exact IH a ((b * 31 + v.fmod 9973 + 1).fmod 1000003) (r ++ [v]) _ (by rw [List.length_append]; show r.length + 1 + _ ≤ _; lia) q
theorem c_bag {vs : List Int} (q : ∀ a b r, Q (.loc 1) [.tab [], .list ((a :: b :: r).map .int), .list (vs.map .int), .dead]) : WC (n + 1) 27 [.lst (vs.map .int)] [.tab []] Q := by
  refine wc_fn rfl rfl (by decide) (by dsimp only [List.map, Nat.reduceSub, List.replicate, List.append, List.cons_append, List.nil_append, List.append_nil]) ?_
  iterate 13 wtm_at "s1"
  refine wb_list rfl ?_
  wtm_at "sx"
  refine ⟨vs.map .int, rfl, by decide, ?_⟩
  wtm_at "sx"
  refine ⟨_, rfl, ?_⟩
  refine ⟨_, rfl, ?_⟩
  rw [← List.map_take]
  refine bag_loop (x0 := some (.lst (vs.map .int))) (vs0 := vs.map .int) (vs.take (Int.toNat 20)) 0 1 [] none (by simp; lia) ?_
  intro a b r x2
  wtm_at "sx"
  exact q a b r
end
end
section
/-! ### the law: the first part -/
noncomputable def σ0 (j : Nat) : Pl := (mk (wd j), mk (wd j))
theorem put_whole {W x p : Nat} (hx : x < 2 ^ W) (hp : p < 2 ^ W) (hW : 0 < W) : put W x 0 W p = p := by
  apply Nat.eq_of_testBit_eq
  intro i
  rw [tb_put hx (by lia) (by lia)]
  by_cases hi : i < W
  · rw [if_pos ⟨by lia, by lia, hi⟩]; congr 1
  · rw [if_neg (fun c => hi c.2.2), Nat.testBit_lt_two_pow (Nat.lt_of_lt_of_le hx (Nat.pow_le_pow_right (by decide) (by lia))), Nat.testBit_lt_two_pow (Nat.lt_of_lt_of_le hp (Nat.pow_le_pow_right (by decide) (by lia)))]
theorem wr_whole {j : Nat} {x p : Pl} (hx : x.1 < 2 ^ wd j ∧ x.2 < 2 ^ wd j) (hp : p.1 < 2 ^ wd j ∧ p.2 < 2 ^ wd j) : wr j 0 (wd j) x p = p := by
  have := (wd_le j).1
  unfold wr
  rw [put_whole hx.1 hp.1 (by lia), put_whole hx.2 hp.2 (by lia)]
theorem getKV_off {l : List Int} {f : Int → Int} {s : Int} (hs : s ∉ l) : getKV (heldOn l f) s = none := by
  induction l with
  | nil => rfl
  | cons a r ih =>
    show getKV ((a, V.int (f a)) :: heldOn r f) s = none
    rw [getKV_cons, if_neg (fun e => hs (by rw [← e]; exact List.mem_cons_self ..))]
    exact ih (fun c => hs (List.mem_cons_of_mem _ c))
theorem heldOn_add {l : List Int} {f : Int → Int} {s v : Int} (hs : s ∉ l) : setKV (heldOn l f) s (.int v) = heldOn (l ++ [s]) (updI f s v) := by
  unfold setKV
  rw [any_getKV, getKV_off hs]
  simp only [Option.isSome_none, Bool.false_eq_true, if_false]
  unfold heldOn
  rw [List.map_append]
  congr 1
  · refine List.map_congr_left fun a ha => ?_
    have : a ≠ s := fun e => hs (e ▸ ha)
    simp [updI, this]
  · simp [updI]
noncomputable def keyB : List S := forB (f_law_b.getD 9 .bad)
noncomputable def keyC : List S := forB (keyB.getD 3 .bad)
noncomputable def wordB : List S := forB (f_law_b.getD 10 .bad)
noncomputable def blk (j i k : Nat) : List Int := (List.range' i k).map fun i => ((base j + i : Nat) : Int)
section
variable {n : Nat} {m : Loc} {h : H} {Q : V → H → Prop} {R : Fl → Loc → H → Prop}
variable {F d : Int} {x0 x2 x4 x8 x11 x12 x13 x14 x15 x16 x17 x18 x19 x20 x21 x22 x23 x24 x25 x26 : Option V}
theorem c_codes_cx {w a b : Nat} {x1 : V} (hw : w ≤ 100) (q : Q (.loc h.length) (h ++ [.list ((codesOf w (a, b)).map .int)])) : WC (n + 1) 35 [.tup [.str 0, .int w, .int a, .int b], x1] h Q := by
  wtm_at "fn"
  refine comp_rng (w := w) (fun _ => true) (fun i => .int (cdI (a, b) i)) (by lia) ?_ ?_ ?_ ?_
  · wtm_at "sx"
    refine wb_range ⟨by lia, by lia⟩ ⟨rfl, rfl⟩
  · intro i hi acc
    wtm_at "sx"
    exact ⟨rfl, rfl⟩
  · intro i hi _ acc
    simp only [List.set_cons_zero, List.set_cons_succ]
    wtm_at "sx"
    refine ⟨rfl, ?_⟩
    rw [fdiv_bit, fdiv_bit]
    exact congrArg _ (cdI_eq (a, b) i)
  · rw [all_true, codes_v]
    wtm_at "sx"
    exact q
theorem key_loop {j w : Nat} {x : Pl} (hj : j < 3) (hw : w ≤ 4) : ∀ (k i : Nat) (l : List Int) (f : Int → Int) (h : H) (x10 : Option V), i + k = w → h[13]? = some (.dict (heldOn l f)) → l.length + k ≤ 100 → (∀ i', i ≤ i' → i' < w → ((base j + i' : Nat) : Int) ∉ l) →
    (∀ h' f' x10, Eff [13] h h' → h'.length = h.length → h'[13]? = some (.dict (heldOn (l ++ blk j i k) f')) → (∀ s ∈ l, f' s = f s) → (∀ i', i ≤ i' → i' < w → f' ((base j + i' : Nat) : Int) = cdI x i') →
      R .next [x0, some (.loc 1), x2, some (.loc 4), x4, some (.loc 10), some (.loc 13), some (.int j), x8, some (.lst ((codesOf w x).map .int)), x10, x11, x12, x13, x14, x15, x16, x17, x18, x19, x20, x21, x22, x23, x24, x25, x26] h') →
    WF n (.name 10) keyC ((List.range' i k).map fun (i : Nat) => V.int i) [x0, some (.loc 1), x2, some (.loc 4), x4, some (.loc 10), some (.loc 13), some (.int j), x8, some (.lst ((codesOf w x).map .int)), x10, x11, x12, x13, x14, x15, x16, x17, x18, x19, x20, x21, x22, x23, x24, x25, x26] h R
  | 0, i, l, f, h, x10, hi, hd, _, _, q => wf_nil (q h f x10 (Eff.refl _ _) rfl (by show _ = some (O.dict (heldOn (l ++ []) f)); rw [List.append_nil]; exact hd) (fun _ _ => rfl) (fun i' h1 h2 => by lia))
  | k + 1, i, l, f, h, x10, hi, hd, hl, hn, q => by
    have hiw : i < w := by lia
    have it : seqItem ((codesOf w x).map V.int) (i : Int) = some (.int (cdI x i)) := by
      unfold seqItem
      rw [if_pos (by lia), Int.toNat_natCast, List.getElem?_map, codesOf_get hiw]; rfl
    have ns := hn i (Nat.le_refl _) hiw
    have es : (j : Int) * 100 + (i : Int) = ((base j + i : Nat) : Int) := by unfold base; rw [if_pos hj]; lia
    rw [List.range'_succ, List.map_cons]
    refine wf_cons ?_
    wtm_at "sx"
    refine sub_lst it ?_
    wtm_at "sx"
    rw [es]
    refine puts_dict hd (by unfold heldOn; rw [List.length_map]; lia) ?_
    wtm_at "sx"
    rw [heldOn_add ns]
    refine key_loop (x := x) hj hw k (i + 1) (l ++ [((base j + i : Nat) : Int)]) _ _ _ (by lia) (get_set_eq hd) (by rw [List.length_append]; show l.length + 1 + k ≤ 100; lia) (fun i' h1 h2 c => ?_) ?_
    · rcases List.mem_append.mp c with c | c
      · exact hn i' (by lia) h2 c
      · rw [List.mem_singleton] at c; lia
    · intro h' f' y10 e1 l1 d1 p1 p2
      refine q h' f' y10 (((Eff.refl _ _).set (Or.inl (by simp)) _).trans e1) (by rw [l1, List.length_set]) ?_ ?_ ?_
      · rw [d1, List.append_assoc]; unfold blk; rw [List.range'_succ]; rfl
      · intro s hs
        rw [p1 s (List.mem_append_left _ hs)]
        unfold updI
        rw [if_neg (fun c : s = ((base j + i : Nat) : Int) => ns (by rw [← c]; exact hs))]
      · intro i' h1 h2
        rcases Nat.eq_or_lt_of_le h1 with c | c
        · subst c
          rw [p1 _ (by simp)]
          unfold updI; rw [if_pos rfl]
        · exact p2 i' c h2
theorem Fx.effL {h h' : H} {S : List Nat} (f : Fx h F d) (e : Eff S h h') (hS : ∀ y, 4 ≤ y → y ≤ 10 → y ∉ S) : Fx h' F d :=
  ⟨f.dd, e.eq _ _ (hS _ (by decide) (by decide)) f.nm, e.eq _ _ (hS _ (by decide) (by decide)) f.s0, e.eq _ _ (hS _ (by decide) (by decide)) f.s1, e.eq _ _ (hS _ (by decide) (by decide)) f.s2, e.eq _ _ (hS _ (by decide) (by decide)) f.s3, e.eq _ _ (hS _ (by decide) (by decide)) f.sg, e.eq _ _ (hS _ (by decide) (by decide)) f.st⟩
theorem BagOk.eff {h h' : H} {S : List Nat} (b : BagOk h) (e : Eff S h h') (hS : 1 ∉ S) : BagOk h' := by
  obtain ⟨a, c, r, g⟩ := b
  exact ⟨a, c, r, e.eq _ _ hS g⟩
theorem key_step {j : Nat} {l : List Int} {f : Int → Int} {σ : Nat → Pl} {x9 x10 : Option V} (hj : j < 3) (fx : Fx h F d) (s : Sto h σ none) (hb : BagOk h) (h0 : h[0]? = some (.tab [])) (hl : h.length = 14 + j) (hd : h[13]? = some (.dict (heldOn l f))) (hll : l.length ≤ 50) (hn : ∀ i, i < wd j → ((base j + i : Nat) : Int) ∉ l)
    (q : ∀ h' f' x x8 x9 x10, Fx h' F d → Sto h' (upd σ j x) none → BagOk h' → h'[0]? = some (.tab []) → h'.length = 15 + j → h'[13]? = some (.dict (heldOn (l ++ blk j 0 (wd j)) f')) → (∀ s ∈ l, f' s = f s) → (∀ i, i < wd j → f' ((base j + i : Nat) : Int) = cdI x i) →
      R .next [x0, some (.loc 1), x2, some (.loc 4), x4, some (.loc 10), some (.loc 13), some (.int j), x8, x9, x10, x11, x12, x13, x14, x15, x16, x17, x18, x19, x20, x21, x22, x23, x24, x25, x26] h') :
    WS (n + 6) keyB [x0, some (.loc 1), x2, some (.loc 4), x4, some (.loc 10), some (.loc 13), some (.int j), x8, x9, x10, x11, x12, x13, x14, x15, x16, x17, x18, x19, x20, x21, x22, x23, x24, x25, x26] h R := by
  have wl := wd_le j
  have st := fx.st
  have tw : ([V.int 4, .int 3, .int 3] : List V)[(j : Int).toNat]? = some (.int (wd j)) := by
    rw [Int.toNat_natCast]
    have : j = 0 ∨ j = 1 ∨ j = 2 := by lia
    rcases this with rfl | rfl | rfl <;> rfl
  wtm_at "sx"
  refine sub_tup tw (by lia) ?_
  wtm_at "sx"
  refine c_constant hb ⟨by lia, by lia⟩ ?_
  intro a b h1 ha hbb e1 b1 l1
  have n1 : ∀ y, 4 ≤ y → y ≤ 10 → y ∉ ([1] : List Nat) := fun y h1 h2 hm => by rw [List.mem_singleton] at hm; lia
  have fx1 := fx.effL e1 n1
  have s1 : Sto h1 σ none := s.eff e1 (fun y hy hm => by rw [List.mem_singleton] at hy; subst hy; revert hm; decide)
  have hd1 := e1.eq _ _ (by decide) hd
  have h01 := e1.eq _ _ (by decide) h0
  have st1 := fx1.st
  refine nrm_mk (by dsimp only [List.set]) ?_
  show WS (n + 6) _ [_, _, _, _, _, _, _, _, some (.tup [.str 0, .int (wd j), .int a, .int b]), _, _, _, _, _, _, _, _, _, _, _, _, _, _, _, _, _, _] _ _
  wtm_at "sx"
  refine c_set_key (n := n + 2) (lo := 0) (w := wd j) (p := a) (p' := b) fx1 s1 hj (by lia) (by lia) (by lia) (by lia) ?_
  intro h2 e2 l2 s2
  rw [wr_whole (s1.bd j) ⟨ha, hbb⟩] at s2
  wtm_at "sx"
  refine c_codes_cx (n := n + 5) (by lia) ?_
  wtm_at "sx"
  refine frz_last ?_
  wtm_at "sx"
  refine wb_range ⟨by lia, by lia⟩ ?_
  refine ⟨_, rng_vals _, ?_⟩
  rw [List.range_eq_range']
  have e3 : Eff [] h2 (h2 ++ [O.dead]) := (Eff.refl _ _).app _
  have hd2 : (h2 ++ [O.dead])[13]? = some (.dict (heldOn l f)) := get_app (e2.eq _ _ (by decide) hd1)
  refine key_loop (x := (a, b)) hj wl.2 (wd j) 0 l f (h2 ++ [O.dead]) x10 (by lia) hd2 (by lia) (fun i' _ h2 => hn i' h2) ?_
  intro h4 f' y10 e4 l4 d4 p1 p2
  have e24 : Eff [13] h2 h4 := (e3.sub (by simp)).trans e4
  have b4 : BagOk h4 := (b1.eff e2 (by decide)).eff e24 (by decide)
  have fx4 : Fx h4 F d := (fx1.effL e2 (fun y h1 h2 hm => by rw [List.mem_singleton] at hm; lia)).effL e24 (fun y h1 h2 hm => by rw [List.mem_singleton] at hm; lia)
  have s4 : Sto h4 (upd σ j (a, b)) none := s2.eff e24 (fun y hy hm => by rw [List.mem_singleton] at hy; subst hy; revert hm; decide)
  refine kS_next ?_
  refine ws_nil ?_
  exact q h4 f' (a, b) _ _ y10 fx4 s4 b4 (e24.eq _ _ (by decide) (e2.eq _ _ (by decide) h01)) (by rw [l4, List.length_append, l2, l1, hl]; show 14 + j + 1 = 15 + j; lia) d4 p1 (fun i hi => p2 i (Nat.zero_le _) hi)
theorem word_step {p : Nat} {l : List Int} {f : Int → Int} {x7 x8 x9 x10 : Option V} (hp : p < 3) (hd : h[13]? = some (.dict (heldOn l f))) (hll : l.length ≤ 50) (hn : ∀ i, i < 2 → ((base (3 + p) + i : Nat) : Int) ∉ l)
    (q : ∀ h' f', Eff [13] h h' → h'.length = h.length → h'[13]? = some (.dict (heldOn (l ++ blk (3 + p) 0 2) f')) → (∀ s ∈ l, f' s = f s) → (∀ i, i < 2 → f' ((base (3 + p) + i : Nat) : Int) = 3) →
      R .next [x0, some (.loc 1), x2, some (.loc 4), x4, some (.loc 10), some (.loc 13), x7, x8, x9, x10, some (.int p), x12, x13, x14, x15, x16, x17, x18, x19, x20, x21, x22, x23, x24, x25, x26] h') :
    WS n wordB [x0, some (.loc 1), x2, some (.loc 4), x4, some (.loc 10), some (.loc 13), x7, x8, x9, x10, some (.int p), x12, x13, x14, x15, x16, x17, x18, x19, x20, x21, x22, x23, x24, x25, x26] h R := by
  have b0 : base (3 + p) = 300 + 10 * p := by unfold base; rw [if_neg (by lia)]; lia
  have n0 := hn 0 (by decide)
  have n1 := hn 1 (by decide)
  rw [Nat.add_zero] at n0
  wtm_at "sx"
  rw [show (300 : Int) + 10 * (p : Int) = ((base (3 + p) : Nat) : Int) by lia]
  refine puts_dict hd (by unfold heldOn; rw [List.length_map]; lia) ?_
  wtm_at "sx"
  rw [heldOn_add n0]
  rw [show (301 : Int) + 10 * (p : Int) = ((base (3 + p) + 1 : Nat) : Int) by lia]
  have hd2 : (h.set 13 (.dict (heldOn (l ++ [((base (3 + p) : Nat) : Int)]) (updI f ((base (3 + p) : Nat) : Int) 3))))[13]? = some (.dict (heldOn (l ++ [((base (3 + p) : Nat) : Int)]) (updI f ((base (3 + p) : Nat) : Int) 3))) := get_set_eq hd
  refine puts_dict hd2 (by unfold heldOn; rw [List.length_map, List.length_append]; show l.length + 1 < _; lia) ?_
  wtm_at "sx"
  have n1' : ((base (3 + p) + 1 : Nat) : Int) ∉ l ++ [((base (3 + p) : Nat) : Int)] := fun c => by
    rcases List.mem_append.mp c with c | c
    · exact n1 c
    · rw [List.mem_singleton] at c; lia
  rw [heldOn_add n1']
  refine q _ _ (((Eff.refl [13] h).set (Or.inl (by simp)) _).set (Or.inl (by simp)) _) (by rw [List.length_set, List.length_set]) (by rw [get_set_eq hd2, List.append_assoc]; rfl) (fun s hs => ?_) (fun i hi => ?_)
  · unfold updI
    rw [if_neg (fun c : s = ((base (3 + p) + 1 : Nat) : Int) => n1 (by rw [← c]; exact hs)), if_neg (fun c : s = ((base (3 + p) : Nat) : Int) => n0 (by rw [← c]; exact hs))]
  · unfold updI
    have : i = 0 ∨ i = 1 := by lia
    rcases this with rfl | rfl
    · rw [if_neg (by lia), if_pos (by lia)]
    · rw [if_pos rfl]
end
end
section
local macro_rules | `(tactic| wtm_at "hp") => `(tactic| wtm_at "- rfl:")
noncomputable def σ1 (x y z : Pl) (j : Nat) : Pl := upd (upd (upd σ0 0 x) 1 y) 2 z j
theorem agree1 {x y z : Pl} {f : Int → Int} (h0 : ∀ i, i < wd 0 → f ((base 0 + i : Nat) : Int) = cdI x i) (h1 : ∀ i, i < wd 1 → f ((base 1 + i : Nat) : Int) = cdI y i) (h2 : ∀ i, i < wd 2 → f ((base 2 + i : Nat) : Int) = cdI z i) (h3 : ∀ p, p < 3 → ∀ i, i < 2 → f ((base (3 + p) + i : Nat) : Int) = 3) : Agree (σ1 x y z) f := by
  intro j i hj hi
  have hj6 : j = 0 ∨ j = 1 ∨ j = 2 ∨ j = 3 + 0 ∨ j = 3 + 1 ∨ j = 3 + 2 := by lia
  have c3 : ∀ p, p < 3 → ∀ i, i < 2 → f ((base (3 + p) + i : Nat) : Int) = cdI (mk 2, mk 2) i := fun p hp i hi => by
    rw [h3 p hp i hi]
    have : i = 0 ∨ i = 1 := by lia
    rcases this with rfl | rfl <;> rfl
  rcases hj6 with rfl | rfl | rfl | rfl | rfl | rfl
  · exact h0 i hi
  · exact h1 i hi
  · exact h2 i hi
  · exact c3 0 (by decide) i hi
  · exact c3 1 (by decide) i hi
  · exact c3 2 (by decide) i hi
section
variable {n : Nat} {m : Loc} {h : H} {Q : V → H → Prop} {R : Fl → Loc → H → Prop}
variable {F d : Int}
theorem law3 {x0 x2 : Option V} (fx : Fx h F d) (s : Sto h σ0 none) (hb : BagOk h) (h0 : h[0]? = some (.tab [])) (hl : h.length = 14) (hd : h[13]? = some (.dict []))
    (q : ∀ h' x y z f x7 x8 x9 x10 x11, Fx h' F d → Sto h' (σ1 x y z) none → BagOk h' → h'[0]? = some (.tab []) → h'.length = 17 → Held h' f → Agree (σ1 x y z) f →
      WS (n + 6) (f_law_b.drop 11) [x0, some (.loc 1), x2, some (.loc 4), some (.loc 9), some (.loc 10), some (.loc 13), x7, x8, x9, x10, x11, none, none, none, none, none, none, none, none, none, none, none, none, none, none, none] h' (kR Q)) :
    WS (n + 6) (f_law_b.drop 9) [x0, some (.loc 1), x2, some (.loc 4), some (.loc 9), some (.loc 10), some (.loc 13), none, none, none, none, none, none, none, none, none, none, none, none, none, none, none, none, none, none, none, none] h (kR Q) := by
  have hd0 : h[13]? = some (.dict (heldOn [] (fun _ => 0))) := hd
  refine ws_cons ?_
  refine w1_for ?_
  refine wx_bi rfl ?_
  refine wxs_cons ?_
  refine wx_int ?_
  refine wxs_nil ?_
  refine wb_range (by decide) ?_
  refine ⟨_, rfl, ?_⟩
  refine wf_cons ?_
  refine wt_name (by simp only [List.length_cons, List.length_nil]; decide) rfl ?_
  refine key_step (j := 0) (by decide) fx s hb h0 hl hd0 (by decide) (by decide) ?_
  intro h1 f1 x y8 y9 y10 fx1 s1 b1 t1 l1 d1 p1 c1
  refine kF_next ?_
  refine wf_cons ?_
  refine wt_name (by simp only [List.length_cons, List.length_nil]; decide) rfl ?_
  refine key_step (j := 1) (by decide) fx1 s1 b1 t1 l1 d1 (by decide) (by decide) ?_
  intro h2 f2 y z8 z9 z10 fx2 s2 b2 t2 l2 d2 p2 c2
  refine kF_next ?_
  refine wf_cons ?_
  refine wt_name (by simp only [List.length_cons, List.length_nil]; decide) rfl ?_
  refine key_step (j := 2) (by decide) fx2 s2 b2 t2 l2 d2 (by decide) (by decide) ?_
  intro h3 f3 z u8 u9 u10 fx3 s3 b3 t3 l3 d3 p3 c3
  refine kF_next ?_
  refine wf_nil ?_
  refine kS_next ?_
  refine ws_cons ?_
  refine w1_for ?_
  refine wx_bi rfl ?_
  refine wxs_cons ?_
  refine wx_int ?_
  refine wxs_nil ?_
  refine wb_range (by decide) ?_
  refine ⟨_, rfl, ?_⟩
  refine wf_cons ?_
  refine wt_name (by simp only [List.length_cons, List.length_nil]; decide) rfl ?_
  refine word_step (p := 0) (by decide) d3 (by decide) (by decide) ?_
  intro h4 f4 e4 l4 d4 p4 c4
  refine kF_next ?_
  refine wf_cons ?_
  refine wt_name (by simp only [List.length_cons, List.length_nil]; decide) rfl ?_
  refine word_step (p := 1) (by decide) d4 (by decide) (by decide) ?_
  intro h5 f5 e5 l5 d5 p5 c5
  refine kF_next ?_
  refine wf_cons ?_
  refine wt_name (by simp only [List.length_cons, List.length_nil]; decide) rfl ?_
  refine word_step (p := 2) (by decide) d5 (by decide) (by decide) ?_
  intro h6 f6 e6 l6 d6 p6 c6
  refine kF_next ?_
  refine wf_nil ?_
  refine kS_next ?_
  have e36 : Eff [13] h3 h6 := e4.trans (e5.trans e6)
  have k6 : ∀ s, s ∈ [] ++ blk 0 0 (wd 0) ++ blk 1 0 (wd 1) ++ blk 2 0 (wd 2) → f6 s = f3 s := fun s hs => by
    rw [p6 s (List.mem_append_left _ (List.mem_append_left _ hs)), p5 s (List.mem_append_left _ hs), p4 s hs]
  refine q h6 x y z f6 _ _ _ _ _ (fx3.effL e36 (fun y h1 h2 hm => by rw [List.mem_singleton] at hm; lia)) (s3.eff e36 (fun y hy hm => by rw [List.mem_singleton] at hy; subst hy; revert hm; decide)) (b3.eff e36 (by decide)) (e36.eq _ _ (by decide) t3) (by lia) d6 (agree1 (fun i hi => ?_) (fun i hi => ?_) (fun i hi => ?_) (fun p hp i hi => ?_))
  · have m0 : ∀ i, i < wd 0 → ((base 0 + i : Nat) : Int) ∈ ([] ++ blk 0 0 (wd 0) : List Int) := by decide
    rw [k6 _ (List.mem_append_left _ (List.mem_append_left _ (m0 i hi))), p3 _ (List.mem_append_left _ (m0 i hi)), p2 _ (m0 i hi)]
    exact c1 i hi
  · have m1 : ∀ i, i < wd 1 → ((base 1 + i : Nat) : Int) ∈ ([] ++ blk 0 0 (wd 0) ++ blk 1 0 (wd 1) : List Int) := by decide
    rw [k6 _ (List.mem_append_left _ (m1 i hi)), p3 _ (m1 i hi)]
    exact c2 i hi
  · have m2 : ∀ i, i < wd 2 → ((base 2 + i : Nat) : Int) ∈ ([] ++ blk 0 0 (wd 0) ++ blk 1 0 (wd 1) ++ blk 2 0 (wd 2) : List Int) := by decide
    rw [k6 _ (m2 i hi)]
    exact c3 i hi
  · have hp3 : p = 0 ∨ p = 1 ∨ p = 2 := by lia
    rcases hp3 with rfl | rfl | rfl
    · have m3 : ∀ i, i < 2 → ((base (3 + 0) + i : Nat) : Int) ∈ ([] ++ blk 0 0 (wd 0) ++ blk 1 0 (wd 1) ++ blk 2 0 (wd 2) ++ blk (3 + 0) 0 2 : List Int) := by decide
      rw [p6 _ (List.mem_append_left _ (m3 i hi)), p5 _ (m3 i hi)]
      exact c4 i hi
    · have m4 : ∀ i, i < 2 → ((base (3 + 1) + i : Nat) : Int) ∈ ([] ++ blk 0 0 (wd 0) ++ blk 1 0 (wd 1) ++ blk 2 0 (wd 2) ++ blk (3 + 0) 0 2 ++ blk (3 + 1) 0 2 : List Int) := by decide
      rw [p6 _ (m4 i hi)]
      exact c5 i hi
    · exact c6 i hi
theorem sto0 {h : H} (h11 : h[11]? = some (.dict [])) (h12 : h[12]? = some (.dict [])) : Sto h σ0 none := by
  refine ⟨fun j => ⟨mk_lt _, mk_lt _⟩, ⟨[], h11, by decide, fun j hj => Or.inr ⟨rfl, rfl⟩⟩, h12, fun j hj => ?_⟩
  have : j = 0 ∨ j = 1 ∨ j = 2 := by lia
  rcases this with rfl | rfl | rfl <;> rfl
theorem law2 {x0 x2 : Option V} {vs : List V} {a b : Int} {r : List Int} (dd : d = 1 ∨ d = -1)
    (q : ∀ h, Fx h F d → Sto h σ0 none → BagOk h → h[0]? = some (.tab []) → h.length = 14 → h[13]? = some (.dict []) →
      WS (n + 6) (f_law_b.drop 9) [x0, some (.loc 1), x2, some (.loc 4), some (.loc 9), some (.loc 10), some (.loc 13), none, none, none, none, none, none, none, none, none, none, none, none, none, none, none, none, none, none, none, none] h (kR Q)) :
    WS (n + 6) (f_law_b.drop 4) [x0, some (.loc 1), x2, some (.loc 4), none, none, none, none, none, none, none, none, none, none, none, none, none, none, none, none, none, none, none, none, none, none, none] [.tab [], .list ((a :: b :: r).map .int), .list vs, .dead, .list [.int F, .int (F + d), .int (F + 2 * d)]] (kR Q) := by
  wtm_at "sx"
  refine c_sig ?_
  wtm_at "sx"
  refine c_sig ?_
  wtm_at "sx"
  refine c_sig ?_
  wtm_at "sx"
  refine c_sig ?_
  wtm_at "sx"
  refine c_store ?_
  refine nrm_mk (by dsimp only [List.set]) ?_
  iterate 3 wtm_at "s1"
  refine q _ ⟨dd, rfl, rfl, rfl, rfl, rfl, rfl, rfl⟩ (sto0 rfl rfl) ⟨a, b, r, rfl⟩ rfl rfl rfl
theorem law2x {x0 x2 : Option V} {vs : List V} {a b F1 F2 F3 : Int} {r : List Int} {l4 : Nat} (d : Int) (dd : d = 1 ∨ d = -1) (e2 : F2 = F1 + d) (e3 : F3 = F1 + 2 * d) (e4 : l4 = 4)
    (q : ∀ h F d, Fx h F d → Sto h σ0 none → BagOk h → h[0]? = some (.tab []) → h.length = 14 → h[13]? = some (.dict []) →
      WS (n + 6) (f_law_b.drop 9) [x0, some (.loc 1), x2, some (.loc 4), some (.loc 9), some (.loc 10), some (.loc 13), none, none, none, none, none, none, none, none, none, none, none, none, none, none, none, none, none, none, none, none] h (kR Q)) :
    WS (n + 6) (f_law_b.drop 4) [x0, some (.loc 1), x2, some (.loc l4), none, none, none, none, none, none, none, none, none, none, none, none, none, none, none, none, none, none, none, none, none, none, none] [.tab [], .list ((a :: b :: r).map .int), .list vs, .dead, .list [.int F1, .int F2, .int F3]] (kR Q) := by
  subst e2 e3 e4
  exact law2 dd (fun h => q h F1 d)
theorem c_law0 {vs : List Int} (q : ∀ h F d x2, Fx h F d → Sto h σ0 none → BagOk h → h[0]? = some (.tab []) → h.length = 14 → h[13]? = some (.dict []) →
      WS (n + 6) (f_law_b.drop 9) [some (.lst (vs.map .int)), some (.loc 1), x2, some (.loc 4), some (.loc 9), some (.loc 10), some (.loc 13), none, none, none, none, none, none, none, none, none, none, none, none, none, none, none, none, none, none, none, none] h (kR Q)) :
    WC (n + 7) 42 [.lst (vs.map .int)] [.tab []] Q := by
  wtm_at "fn"
  refine c_bag ?_
  intro a b r
  wtm_at "sx"
  refine c_pull (many := 4) ⟨a, b, r, rfl⟩ (by decide) (by decide) ?_
  intro g h1 hg e1 b1 l1
  obtain ⟨a1, b1', r1, rfl⟩ := bag_lit e1 b1 l1
  wtm_at "sx"
  refine c_pull (many := 2) ⟨a1, b1', r1, rfl⟩ (by decide) (by decide) ?_
  intro g2 h2 hg2 e2 b2 l2
  obtain ⟨a2, b2', r2, rfl⟩ := bag_lit e2 b2 l2
  wtm_at "sx"
  by_cases c : (g2 : Int) = 1
  · refine br_t (decide_eq_true c) ?_
    refine ws_expr ?_
    refine wx_meth ?_
    refine wx_var rfl ?_
    refine gm_list (xs := [V.int ((g : Int) - 1), V.int ((g : Int) - 1 + 1), V.int ((g : Int) - 1 + 2)]) rfl rfl rfl ?_
    refine wxs_nil ?_
    refine wm_reverse (xs := [V.int ((g : Int) - 1), V.int ((g : Int) - 1 + 1), V.int ((g : Int) - 1 + 2)]) rfl ?_
    refine ws_nil ?_
    refine kS_next ?_
    exact law2x (F1 := (g : Int) - 1 + 2) (F2 := (g : Int) - 1 + 1) (F3 := (g : Int) - 1) (-1) (Or.inr rfl) (by lia) (by lia) rfl (fun h F d => q h F d _)
  · refine br_f (decide_eq_false c) ?_
    refine ws_nil ?_
    exact law2x (F1 := (g : Int) - 1) (F2 := (g : Int) - 1 + 1) (F3 := (g : Int) - 1 + 2) 1 (Or.inl rfl) (by lia) (by lia) rfl (fun h F d => q h F d _)
end
end
section
theorem at_app {h t : H} {l N : Nat} {o : O} (hl : h.length = N) (hN : N ≤ l) (e : t[l - N]? = some o) : (h ++ t)[l]? = some o := by
  subst hl
  rw [List.getElem?_append_right hN, e]
local macro_rules | `(tactic| wtm_at "hp") => `(tactic| wtm_at "- at_app:ndr")
section
variable {n : Nat} {m : Loc} {h : H} {Q : V → H → Prop} {R : Fl → Loc → H → Prop}
variable {F d : Int}
theorem c_host (h0 : h[0]? = some (.tab [])) (hl : h.length = 18) (q : ∀ h', (∃ l, h'[0]? = some (O.tab l)) → h'.length = 30 → Eff [0] h h' → h'[20]? = some (.inst 2 hostF) → h'[24]? = some (.inst 1 (qf 0 25 0 27 28)) → h'[25]? = some (.list []) → h'[26]? = some (.list []) → h'[27]? = some (.list []) → h'[28]? = some (.list []) → h'[29]? = some (.dict []) → Q (.loc 20) h') :
    WC (n + 2) 40 [.loc 10, .loc 17] h Q := by
  refine wc_fn rfl rfl (by decide) (by simp only [List.map_cons, List.map_nil, Nat.reduceSub, List.replicate_succ, List.replicate_zero, List.cons_append, List.nil_append, List.append_nil] <;> rfl) ?_
  refine ws_cons ?_
  refine w1_defn h0 rfl ⟨by simp only [List.length_cons, List.length_nil]; decide, by decide⟩ ?_
  refine kS_next ?_
  refine ws_cons ?_
  refine w1_defn (get_set_eq h0) rfl ⟨by simp only [List.length_set, List.length_cons, List.length_nil]; decide, by decide⟩ ?_
  refine kS_next ?_
  refine ws_cons ?_
  refine w1_defn (get_set_eq (get_set_eq h0)) rfl ⟨by simp only [List.length_set, List.length_cons, List.length_nil]; decide, by decide⟩ ?_
  refine kS_next ?_
  refine ws_cons ?_
  refine w1_defn (get_set_eq (get_set_eq (get_set_eq h0))) rfl ⟨by simp only [List.length_set, List.length_cons, List.length_nil]; decide, by decide⟩ ?_
  refine kS_next ?_
  rw [List.set_set, List.set_set, List.set_set]
  simp only [List.set_cons_zero, List.set_cons_succ]
  have e1 : Eff [0] h (h.set 0 (.tab ([] ++ [(808, 4)] ++ [(811, 4)] ++ [(814, 4)] ++ [(817, 4)]))) := (Eff.refl _ _).set (Or.inl (by simp)) _
  have l1 : (h.set 0 (.tab ([] ++ [(808, 4)] ++ [(811, 4)] ++ [(814, 4)] ++ [(817, 4)]))).length = 18 := by rw [List.length_set]; exact hl
  have tb1 : (h.set 0 (.tab ([] ++ [(808, 4)] ++ [(811, 4)] ++ [(814, 4)] ++ [(817, 4)])))[0]? = some (.tab ([] ++ [(808, 4)] ++ [(811, 4)] ++ [(814, 4)] ++ [(817, 4)])) := get_set_eq h0
  generalize h.set 0 (.tab ([] ++ [(808, 4)] ++ [(811, 4)] ++ [(814, 4)] ++ [(817, 4)])) = h1 at e1 l1 tb1 ⊢
  wtm_at "sx"
  refine c_thread ?_
  simp only [List.append_assoc, List.cons_append, List.nil_append, List.length_append, List.length_cons, List.length_nil, l1, Nat.reduceAdd]
  wtm_at "sx"
  refine c_queue ?_
  simp only [List.append_assoc, List.cons_append, List.nil_append, List.length_append, List.length_cons, List.length_nil, l1, Nat.reduceAdd]
  wtm_at "sx"
  have at1 : ∀ (t : H) l o, 18 ≤ l → t[l - 18]? = some o → (h1 ++ t)[l]? = some o := fun t l o hN e => at_app l1 hN e
  refine q _ ⟨_, get_set_ne (get_set_ne (get_set_ne (get_set_ne (get_set_ne (get_app tb1) (by decide)) (by decide)) (by decide)) (by decide)) (by decide)⟩ ?_ ?_ ?_ ?_ ?_ ?_ ?_ ?_ ?_
  · simp only [List.length_set, List.length_append, List.length_cons, List.length_nil, l1]
  · exact (((((e1.app _).set (Or.inr (by lia)) _).set (Or.inr (by lia)) _).set (Or.inr (by lia)) _).set (Or.inr (by lia)) _).set (Or.inr (by lia)) _
  · exact get_set_eq (get_set_eq (get_set_eq (get_set_eq (get_set_eq (at1 _ _ _ (by decide) rfl)))))
  · exact get_set_ne (get_set_ne (get_set_ne (get_set_ne (get_set_ne (at1 _ _ _ (by decide) rfl) (by decide)) (by decide)) (by decide)) (by decide)) (by decide)
  · exact get_set_ne (get_set_ne (get_set_ne (get_set_ne (get_set_ne (at1 _ _ _ (by decide) rfl) (by decide)) (by decide)) (by decide)) (by decide)) (by decide)
  · exact get_set_ne (get_set_ne (get_set_ne (get_set_ne (get_set_ne (at1 _ _ _ (by decide) rfl) (by decide)) (by decide)) (by decide)) (by decide)) (by decide)
  · exact get_set_ne (get_set_ne (get_set_ne (get_set_ne (get_set_ne (at1 _ _ _ (by decide) rfl) (by decide)) (by decide)) (by decide)) (by decide)) (by decide)
  · exact get_set_ne (get_set_ne (get_set_ne (get_set_ne (get_set_ne (at1 _ _ _ (by decide) rfl) (by decide)) (by decide)) (by decide)) (by decide)) (by decide)
  · exact get_set_ne (get_set_ne (get_set_ne (get_set_ne (get_set_ne (at1 _ _ _ (by decide) rfl) (by decide)) (by decide)) (by decide)) (by decide)) (by decide)
end
end
section
noncomputable def turnB : List S := forB (f_law_b.getD 16 .bad)
section
variable {n : Nat} {m : Loc} {h : H} {Q : V → H → Prop} {R : Fl → Loc → H → Prop}
variable {F d : Int} {x0 x2 x4 x5 x6 x7 x8 x9 x10 x11 x12 x13 x14 x15 x17 x18 x19 x20 x21 x22 x23 x24 x25 x26 : Option V}
theorem turn_loop : ∀ (vs : List V) (bs : List (List Deed)) (h1 : H) (x17 : Option V), (∀ ds ∈ bs, ds.length ≤ 5 ∧ ∀ x ∈ ds, x.ok) → bs.length + vs.length ≤ 10 → 38 ≤ h.length → Eff [1, 37] h h1 → BagOk h1 → h1[37]? = some (.list (bs.map bV)) →
    (∀ h' (bs' : List (List Deed)) x17, (∀ ds ∈ bs', ds.length ≤ 5 ∧ ∀ x ∈ ds, Deed.ok x) → bs'.length = bs.length + vs.length → Eff [1, 37] h h' → BagOk h' → h'[37]? = some (.list (bs'.map bV)) →
      R .next [x0, some (.loc 1), x2, some (.loc 4), x4, x5, x6, x7, x8, x9, x10, x11, x12, x13, x14, x15, some (.loc 37), x17, x18, x19, x20, x21, x22, x23, x24, x25, x26] h') →
    WF (n + 5) (.name 17) turnB vs [x0, some (.loc 1), x2, some (.loc 4), x4, x5, x6, x7, x8, x9, x10, x11, x12, x13, x14, x15, some (.loc 37), x17, x18, x19, x20, x21, x22, x23, x24, x25, x26] h1 R := by
  intro vs
  induction vs with
  | nil =>
    intro bs  h1  x17  hb  hn  hl  e1  b1  g1  q
    exact wf_nil (q h1 bs x17 hb rfl e1 b1 g1)
  | cons v vs IH =>
    intro bs  h1  x17  hb  hn  hl  e1  b1  g1  q
    have hn2 : bs.length + (vs.length + 1) ≤ 10 := hn
    refine wf_cons ?_
    wtm_at "sx"
    refine wx_compI ?_
    wtm_at "sx"
    refine c_pull (many := 2) b1 (by decide) (by decide) ?_
    intro g h2 hg e2 b2 l2
    wtm_at "sx"
    refine wb_range ⟨by lia, by lia⟩ ?_
    have hl2 : 38 ≤ h2.length := Nat.le_trans hl (Nat.le_trans e1.len e2.len)
    refine ⟨_, by rw [show (1 : Int) + (g : Int) = ((1 + g : Nat) : Int) by lia]; exact rng_vals _, by simp; lia, fun r acc h3 => ∃ ds : List Deed, acc = ds.map Deed.v ∧ (∀ x ∈ ds, x.ok) ∧ ds.length + r.length ≤ 2 ∧ Eff [1] h2 h3 ∧ BagOk h3 ∧ h3[h2.length]? = some (.list acc), ?_, ?_, ?_⟩
    · refine ⟨[], rfl, by simp, by simp; lia, (Eff.refl _ _).app _, ?_, get_last⟩
      obtain ⟨a, b, r, hb0⟩ := b2
      exact ⟨a, b, r, get_app hb0⟩
    · rintro x r acc h3 ⟨ds, rfl, ok, hd, e3, b3, g3⟩ _
      have hd2 : ds.length + (r.length + 1) ≤ 2 := hd
      simp only [List.set_cons_zero, List.set_cons_succ]
      wtm_at "sx"
      refine c_deed b3 (by have := get_lt g3; lia) ?_
      intro y h4 oky e4 b4
      have g4 := e4.eq _ _ (by rw [List.mem_singleton]; lia) g3
      refine ⟨g4, ds ++ [y], by rw [List.map_append]; rfl, fun z hz => ?_, by rw [List.length_append]; show ds.length + 1 + r.length ≤ 2; lia, (e3.trans e4).set (Or.inr (Nat.le_refl _)) _, ?_, ?_⟩
      · rcases List.mem_append.mp hz with hz | hz
        · exact ok z hz
        · rw [List.mem_singleton] at hz; subst hz; exact oky
      · obtain ⟨a, b, r', hb0⟩ := b4
        exact ⟨a, b, r', get_set_ne hb0 (by lia)⟩
      · rw [get_set_eq g4]
    · rintro acc h3 ⟨ds, rfl, ok, hd, e3, b3, g3⟩
      refine isLoc ?_
      refine ⟨_, g3, ?_⟩
      have g37 : (h3.set h2.length O.dead)[37]? = some (.list (bs.map bV)) := get_set_ne (e3.eq _ _ (by decide) (e2.eq _ _ (by decide) g1)) (by lia)
      wtm_at "sx"
      refine wm_append g37 (by rw [List.length_map]; lia) ?_
      wtm_at "sx"
      have ev : bs.map bV ++ [V.lst (ds.map Deed.v)] = (bs ++ [ds]).map bV := by rw [List.map_append]; rfl
      rw [ev]
      have e13 : Eff [1, 37] h ((h3.set h2.length O.dead).set 37 (.list ((bs ++ [ds]).map bV))) :=
        ((e1.trans ((e2.trans e3).sub (fun y hy => by rw [List.mem_singleton] at hy; subst hy; exact List.mem_cons_self ..))).set (Or.inr (Nat.le_trans e1.len e2.len)) _).set (Or.inl (by simp)) _
      refine IH (bs ++ [ds]) _ _ (fun ds' hd' => ?_) (by rw [List.length_append]; show bs.length + 1 + _ ≤ 10; lia) hl e13 ?_ (get_set_eq g37) (fun h' bs' y17 p1 p2 => q h' bs' y17 p1 (by rw [p2, List.length_append]; show bs.length + 1 + vs.length = bs.length + (vs.length + 1); lia))
      · rcases List.mem_append.mp hd' with hd' | hd'
        · exact hb ds' hd'
        · rw [List.mem_singleton] at hd'; subst hd'
          have hd0 : ds'.length + 0 ≤ 2 := hd
          exact ⟨by lia, ok⟩
      · obtain ⟨a, b, r', hb0⟩ := b3
        exact ⟨a, b, r', get_set_ne (get_set_ne hb0 (by lia)) (by decide)⟩
theorem mu_le : ∀ (bs : List (List Deed)), (∀ ds ∈ bs, ds.length ≤ 5) → mu bs ≤ 6 * bs.length ∧ tot bs ≤ 5 * bs.length := by
  intro bs
  induction bs with
  | nil =>
    intro _
    exact ⟨Nat.le_refl _, Nat.le_refl _⟩
  | cons ds bs IH =>
    intro h
    have h1 := IH (fun x hx => h x (List.mem_cons_of_mem _ hx))
    have h2 := h ds (List.mem_cons_self ..)
    refine ⟨?_, ?_⟩
    · show 1 + ds.length + mu bs ≤ 6 * (bs.length + 1); lia
    · show ds.length + tot bs ≤ 5 * (bs.length + 1); lia
theorem law4 {x y z : Pl} {f : Int → Int} (fx : Fx h F d) (s : Sto h (σ1 x y z) none) (hb : BagOk h) (h0 : h[0]? = some (.tab [])) (hl : h.length = 17) (hf : Held h f) (ha : Agree (σ1 x y z) f) (q : ∀ h', (∃ l, h'[0]? = some (O.tab l)) → Q (.bool true) h') :
    WS (n + 11) (f_law_b.drop 11) [x0, some (.loc 1), x2, some (.loc 4), some (.loc 9), some (.loc 10), some (.loc 13), x7, x8, x9, x10, x11, none, none, none, none, none, none, none, none, none, none, none, none, none, none, none] h (kR Q) := by
  wtm_at "sx"
  rw [hl]
  refine c_host (n := n + 9) (get_app h0) (by rw [List.length_append, hl]; rfl) ?_
  intro h1 tb1 l1 e1 ho q24 l25 l26 l27 l28 d29
  wtm_at "sx"
  refine c_thread ?_
  simp only [List.append_assoc, List.cons_append, List.nil_append, List.length_append, List.length_cons, List.length_nil, l1, Nat.reduceAdd]
  have at1 : ∀ (t : H) l o, 30 ≤ l → t[l - 30]? = some o → (h1 ++ t)[l]? = some o := fun t l o hN e => at_app l1 hN e
  have th2 : (h1 ++ [O.list [], O.list [], O.inst 2 [(43, V.int 0), (44, V.loc 30), (45, V.int 0), (2, V.loc 31), (26, V.str 34), (46, V.loc 33), (47, V.loc 34), (48, V.int (-1)), (49, V.loc 35), (50, V.bool false), (51, V.non), (52, V.int 0), (53, V.bool false), (54, V.bool false)], O.list [], O.list [], O.dict []])[32]? = some (.inst 2 thrF) := at1 _ _ _ (by decide) rfl
  have l2 : (h1 ++ [O.list [], O.list [], O.inst 2 [(43, V.int 0), (44, V.loc 30), (45, V.int 0), (2, V.loc 31), (26, V.str 34), (46, V.loc 33), (47, V.loc 34), (48, V.int (-1)), (49, V.loc 35), (50, V.bool false), (51, V.non), (52, V.int 0), (53, V.bool false), (54, V.bool false)], O.list [], O.list [], O.dict []]).length = 36 := by rw [List.length_append, l1]; rfl
  have e2 : Eff [] h1 (h1 ++ [O.list [], O.list [], O.inst 2 [(43, V.int 0), (44, V.loc 30), (45, V.int 0), (2, V.loc 31), (26, V.str 34), (46, V.loc 33), (47, V.loc 34), (48, V.int (-1)), (49, V.loc 35), (50, V.bool false), (51, V.non), (52, V.int 0), (53, V.bool false), (54, V.bool false)], O.list [], O.list [], O.dict []]) := (Eff.refl _ _).app _
  generalize (h1 ++ [O.list [], O.list [], O.inst 2 [(43, V.int 0), (44, V.loc 30), (45, V.int 0), (2, V.loc 31), (26, V.str 34), (46, V.loc 33), (47, V.loc 34), (48, V.int (-1)), (49, V.loc 35), (50, V.bool false), (51, V.non), (52, V.int 0), (53, V.bool false), (54, V.bool false)], O.list [], O.list [], O.dict []]) = h2 at th2 l2 e2 ⊢
  wtm_at "sx"
  refine c_fixed ?_
  wtm_at "sx"
  refine frz_last ?_
  iterate 3 wtm_at "s1"
  simp only [List.append_assoc, List.cons_append, List.nil_append, List.length_append, List.length_cons, List.length_nil, l2, Nat.reduceAdd]
  have bu3 : (h2 ++ [O.dead, O.list [V.lst (fixedDs.map Deed.v)]])[37]? = some (.list ([fixedDs].map bV)) := at_app l2 (by decide) rfl
  have l3 : (h2 ++ [O.dead, O.list [V.lst (fixedDs.map Deed.v)]]).length = 38 := by rw [List.length_append, l2]; rfl
  have e3 : Eff [] h2 (h2 ++ [O.dead, O.list [V.lst (fixedDs.map Deed.v)]]) := (Eff.refl _ _).app _
  generalize (h2 ++ [O.dead, O.list [V.lst (fixedDs.map Deed.v)]]) = h3 at bu3 l3 e3 ⊢
  have e0 : Eff [] h (h ++ [O.list []]) := (Eff.refl _ _).app _
  have to0 : (h ++ [O.list []])[17]? = some (.list []) := at_app hl (by decide) rfl
  have e13 : Eff [] h1 h3 := e2.trans e3
  have b3 : BagOk h3 := ((hb.eff e0 (by decide)).eff e1 (by decide)).eff e13 (by decide)
  refine ws_cons ?_
  refine w1_for ?_
  refine wx_bi rfl ?_
  refine wxs_cons ?_
  refine wx_int ?_
  refine wxs_nil ?_
  refine wb_range (by decide) ?_
  refine ⟨_, rfl, ?_⟩
  refine turn_loop (n := n + 6) (h := h3) _ [fixedDs] h3 none (fun ds hd => ?_) (by decide) (by lia) (Eff.refl _ _) b3 bu3 ?_
  · rw [List.mem_singleton] at hd; subst hd
    exact ⟨by decide, fixedDs_ok⟩
  intro h4 bs y17 ok lb e4 b4 bu4
  have lb4 : bs.length = 4 := lb
  refine kS_next ?_
  iterate 8 wtm_at "s1"
  have wa5 : (h4 ++ [O.list []])[h4.length]? = some (.list (([] : List (Int × Up)).map waV)) := get_last
  have e5 : Eff [] h4 (h4 ++ [O.list []]) := (Eff.refl _ _).app _
  have W38 : 38 ≤ h4.length := by have := e4.len; lia
  have n37 : ∀ y, y ≠ 1 → y ≠ 37 → y ∉ ([1, 37] : List Nat) := fun y a b c => by simp at c; lia
  generalize (h4 ++ [O.list []]) = h5 at wa5 e5 ⊢
  generalize h4.length = W at wa5 W38 ⊢
  have e15 : Eff [1, 37] h1 h5 := (e13.sub (by simp)).trans (e4.trans (e5.sub (by simp)))
  have e05 : Eff [0, 1, 37] h h5 := ((e0.sub (by simp)).trans (e1.sub (by simp))).trans (e15.sub (by simp))
  have n5 : ∀ y, 2 ≤ y → y ≠ 37 → y ∉ ([0, 1, 37] : List Nat) := fun y a b c => by simp at c; lia
  have g := mu_le bs (fun ds hd => (ok ds hd).1)
  refine ws_cons ?_
  refine w1_whil ?_
  refine main_loop (n := n + 1) (F := F) (d := d) (fun m h' tb => ?_) 40 bs (σ1 x y z) f none 0 [] W 0 h5 none none none none none none ?_ (fun ds hd => (ok ds hd).2) (by lia) (fun h => by rw [h] at lb4; cases lb4) (by show mu bs + 0 < 40; lia)
  · exact q _ tb
  · refine ⟨⟨fx.effL e05 (fun y a b => n5 y (by lia) (by lia)), e15.eq _ _ (by decide) ho, e5.eq _ _ (by simp) (e4.eq _ _ (by decide) (e3.eq _ _ (by simp) th2)), by obtain ⟨l, tb⟩ := tb1; exact ⟨l, e15.eq _ _ (by decide) tb⟩⟩, s.eff e05 (fun y hy hm => ?_), e05.eq _ _ (by decide) hf, ha, e15.eq _ _ (by decide) (e1.eq _ _ (by decide) to0), wa5, e5.eq _ _ (by simp) bu4, ⟨25, 27, 28, [], ?_⟩, W38, by simp, by decide, by simp⟩
    · simp only [List.mem_cons, List.not_mem_nil, or_false] at hy
      rcases hy with rfl | rfl | rfl <;> (revert hm; decide)
    · exact ⟨e15.eq _ _ (by decide) q24, e15.eq _ _ (by decide) l25, e15.eq _ _ (by decide) l26, e15.eq _ _ (by decide) l27, e15.eq _ _ (by decide) l28, e15.eq _ _ (by decide) d29, by simp, fun T hT => absurd (by unfold POf evs; split <;> rfl) hT, by decide, fun y hy => by
        have hy' : y = 25 ∨ y = 27 ∨ y = 28 := by simpa using hy
        exact ⟨by lia, by lia⟩, by simp, by simp⟩
/-- the law gives True -/
theorem c_law {vs : List Int} (q : ∀ h', (∃ l, h'[0]? = some (O.tab l)) → Q (.bool true) h') : WC (n + 12) 42 [.lst (vs.map .int)] [.tab []] Q := by
  refine c_law0 (n := n + 5) ?_
  intro h F d x2 fx s hb h0 hl hd
  refine law3 (n := n + 5) fx s hb h0 hl hd ?_
  intro h1 x y z f x7 x8 x9 x10 x11 fx1 s1 b1 t1 l1 hf ha
  exact law4 fx1 s1 b1 t1 l1 hf ha q
theorem law_true (vs : List Int) : ∃ h' l, callF kind meTab clsMeth fns 12 42 [.lst (vs.map .int)] [.tab []] = some (V.bool true, h') ∧ h'[0]? = some (O.tab l) := by
  obtain ⟨v, h', e, rfl, l, hl⟩ := (c_law (n := 0) (vs := vs) (Q := fun v h' => v = V.bool true ∧ ∃ l, h'[0]? = some (O.tab l)) (fun _ hl => ⟨rfl, hl⟩)).ex
  exact ⟨h', l, e, hl⟩
end
end
end Mine.L
end

section
set_option maxRecDepth 10000
namespace Mine
open PySem PySem.W PySem.Calls PyProof.Rows
theorem fnAddr_law {K : Frag} {h : Heap} {mg : Str → Option Value} {fa : Addr} (X : K.In h) (G : h.Ns mainGlobals mg) (hm : mg (Str.ofString "law") = some (.ref fa)) (hi : (fnAddr K 42).isSome = true) : fnAddr K 42 = some fa := by
  obtain ⟨f, e⟩ := Option.isSome_iff_exists.mp hi
  have e1 : fnAddr K 42 = onS (gval K 42) fun v => vRef v some := rfl
  refine e.trans (onS_el (e1.symm.trans e) fun v g e => vRef_el e fun a q e => ?_)
  have g2 : (nsIn K mainGlobals (Str.ofString "law")).join = some v := g
  have z : nsIn K mainGlobals (Str.ofString "law") = some (some v) := by
    cases y : nsIn K mainGlobals (Str.ofString "law") with
    | none => rw [y] at g2; exact nn g2
    | some w => rw [y] at g2; exact congrArg some g2
  have g' := mg_of X G z
  rw [hm, q] at g'
  cases g'
  exact e.symm
theorem relL_of {x : Cx} {ok : FdOk} {ρ : Rho} {h : H} {hp : Heap} {vs : List Value} {is : List Int} (hI : IntsAre vs is) : RelL x ok ρ h hp (is.map .int) vs := by
  induction hI with
  | nil => rfl
  | cons n t _ ih => exact ⟨_, _, rfl, ⟨t, rfl⟩, ih⟩
theorem obj_of_well {P : Params} {h : Heap} {l : Addr} {xs : List WData} {vs : List Value} (W : Well P h (.ref l) (.list xs)) (hL : h.IsList l vs.toArray) : IsL h l vs.toArray 0 := by
  cases W with
  | list ha wa =>
    obtain ⟨o, ho, _, n, hd⟩ := hL
    rw [ha] at ho
    cases ho
    obtain ⟨e, _⟩ := Data.seq.inj hd
    rw [← e]
    exact ha
theorem law_join {prog : Program} {p : Program} {w : World} {K : Frag} {s₁ : Shared} {loose : List Str} {mean : ExcName → Option Value} {mg mb : Str → Option Value}
    (c1 : (List.range 70).all (kOne K) = true) (c2 : (List.range 70).all (kFn K) = true) (c3 : (List.range 5).all (kCls K) = true) (hK : noTabs K = true) (hi : (fnAddr K 42).isSome = true) (him : importsNone p = true)
    (KX : K.In s₁.heap) (T : Top p loose mean mg mb s₁.heap) (hT : TabsAt [(889, 885)] s₁.heap) (hg : s₁.gens = #[]) {P : Params} {l : Addr} {vs : List Value} {is : List Int}
    (hL : s₁.heap.IsList l vs.toArray) (hW : Well P s₁.heap (.ref l) (ofPy (PyData.list (is.map PyData.int)))) (hI : IntsAre vs is) (hlen : is.length ≤ 63) {fa : Addr} (hm : mg (Str.ofString "law") = some (.ref fa)) :
    codeAny (model prog w) callerA (.call (.ref fa) { pos := [.ref l] }) (fun r s' => r = .ok (.ret (.bool true)) ∧ (∀ b o, (ghostOf s₁.heap [(889, 885)]).get? b = some o → s'.heap.get? b = some o) ∧ s'.os = s₁.os ∧ s'.gens = #[] ∧ GrownAll [(889, 885)] s'.heap) s₁ := by
  let x : Cx := ⟨prog, w, K, ghostOf s₁.heap [(889, 885)]⟩
  have hT1 := hT (889, 885) (List.mem_singleton.mpr rfl)
  have GT := ghost_top hT T
  have ns : ∀ {b : Addr} {mm : Str → Option Value}, s₁.heap.Ns b mm → (ghostOf s₁.heap [(889, 885)]).Ns b mm := fun q => ghost_ns hT q
  have hx : CxOk7 x := by
    refine cx7_of c1 c2 c3 (ghost_K hT KX hK) ⟨_, _, _, _, topRead_of GT⟩ ?_ (ghost_code hT).1 ?_
    · obtain ⟨mm, ⟨o, _, _, ho, _⟩, _⟩ := (T.seer him).mods
      exact ⟨o, ghost_ne ho (by decide)⟩
    · intro mg' h'
      have e : mg' = mg := h'.eq_nsMap.trans GT.g.eq_nsMap.symm
      subst e
      obtain ⟨bm, ob, a1, a2, a3, a4, a5, a6⟩ := GT.bmain
      exact ⟨bm, ob, a1, a2, a3, a4, a5, a6⟩
  have hown : ∀ b, owned ⟨[(885, 885)], []⟩ [O.tab []] b → b = 885 := by
    rintro b ⟨i, q, o, e1, e2, _, e3⟩
    cases i with
    | zero => cases e1; rcases e3 with e3 | e3 <;> exact e3
    | succ i => cases e1
  have g885 : (ghostOf s₁.heap [(889, 885)]).get? 885 = none := hideAll_none _ (List.mem_singleton.mpr rfl)
  have S : Sim x okF ⟨[(885, 885)], []⟩ [O.tab []] s₁.heap := {
    len := rfl
    obj := fun i q o e1 e2 => by
      cases i with
      | zero =>
        cases e1; cases e2
        exact ⟨[], hT1.2, rfl, rfl⟩
      | succ i => cases e1
    disj := fun i j q r o o' hij e1 e2 => by
      cases i with
      | zero => cases j with
        | zero => exact absurd rfl hij
        | succ j => cases e2
      | succ i => cases e1
    lt := fun i q e1 => by
      cases i with
      | zero => cases e1; exact ⟨Heap.lt_size hT1.2, Heap.lt_size hT1.2⟩
      | succ i => cases e1
    clt := fun c hc => by cases hc
    static := fun b o e => ⟨of_hideAll _ e, fun hb => by
      rw [hown b hb] at e
      have e' : (ghostOf s₁.heap [(889, 885)]).get? 885 = some o := e
      rw [g885] at e'; cases e'⟩ }
  obtain ⟨h', tl, ev, htl⟩ := L.law_true is
  have hobj := obj_of_well (xs := _) hW hL
  have ra : RelL x okF ⟨[(885, 885)], []⟩ [O.tab []] s₁.heap [V.lst (is.map .int)] [.ref l] := by
    refine ⟨.ref l, [], rfl, ⟨l, vs, 0, rfl, hobj, fun hb => ?_, ?_, relL_of hI⟩, rfl⟩
    · rw [hown l hb] at hobj
      have e2 : s₁.heap.get? 885 = _ := hT1.2
      rw [hobj] at e2
      cases e2
    · rw [List.length_map]; unfold lenB; lia
  have R : RoomC (11 + 1) callerA := ⟨rfl, by decide, by decide⟩
  refine codeAny_mono (call_entry hx R S ev (fnAddr_law KX T.g hm hi) ra) ?_
  rintro r s' ⟨v, ρ', hp, t, rfl, rfl, pre, S', rv⟩
  have rv' : v = .bool true := rv
  subst rv'
  refine ⟨rfl, fun b o e => (S'.static b o e).1, rfl, hg, ⟨?_, trivial⟩⟩
  have p0 : ρ'.o[0]? = some (885, 885) := by
    obtain ⟨t, ht⟩ := pre
    rw [← ht]; rfl
  obtain ⟨cs, e1, _, _⟩ := S'.obj 0 _ _ p0 htl
  exact ⟨_, e1⟩
end Mine
end

namespace Mine.holds
theorem tw4697274023024753579 : True := trivial
theorem tw14584876229100427160 : True := trivial
theorem tw12657093848384798476 : True := trivial
theorem tw4853776891905718434 : True := trivial
theorem tw16315053957116525436 : True := trivial
theorem tw4422276619278600727 : True := trivial
theorem tw11896979934692212325 : True := trivial
theorem tw2682973687022302978 : True := trivial
theorem tw16568243084613897719 : True := trivial
theorem tw16900590462404453081 : True := trivial
theorem tw11759793716441912868 : True := trivial
theorem tw3259964661353284909 : True := trivial
theorem tw12811986133187580173 : True := trivial
theorem tw2435697834123945266 : True := trivial
theorem tw8754180013910929173 : True := trivial
theorem tw1327240825893404017 : True := trivial
theorem tw3964553439336064567 : True := trivial
theorem tw7454310139219270035 : True := trivial
theorem tw5606170894147618297 : True := trivial
theorem tw14374762386000251392 : True := trivial
theorem tw10846422607668537096 : True := trivial
theorem tw11379536335273661636 : True := trivial
theorem tw2936799095737714382 : True := trivial
theorem tw8564859838321607590 : True := trivial
theorem tw11342428682859919049 : True := trivial
theorem tw5698002777990276889 : True := trivial
theorem tw8551410553514715252 : True := trivial
theorem tw3325302716571603560 : True := trivial
theorem tw4998001990490953706 : True := trivial
theorem tw12736823529576279204 : True := trivial
theorem tw9101416567709711282 : True := trivial
theorem tw945861476033566700 : True := trivial
theorem tw185807328385624810 : True := trivial
theorem tw11612728935029869629 : True := trivial
theorem tw7873036012977236159 : True := trivial
theorem tw6735552807121987811 : True := trivial
theorem tw5194594231098649917 : True := trivial
theorem tw8571184235532366510 : True := trivial
theorem tw17516818768086975123 : True := trivial
theorem tw15464432741802594518 : True := trivial
theorem tw3280128972450656526 : True := trivial
theorem tw17779192219718171531 : True := trivial
theorem tw16500857126356320474 : True := trivial
theorem tw3092724735428445279 : True := trivial
theorem tw17845740096274255462 : True := trivial
theorem tw18428999135246889709 : True := trivial
theorem tw1569810199879761147 : True := trivial
theorem tw9430090754398894584 : True := trivial
theorem tw6489310206099298910 : True := trivial
theorem tw9160933379109621080 : True := trivial
theorem tw15319253261952174844 : True := trivial
theorem tw5046306585264764695 : True := trivial
theorem tw13651502964188933756 : True := trivial
theorem tw15356600547250028879 : True := trivial
theorem tw12467034654032377186 : True := trivial
theorem tw4475622257904601326 : True := trivial
theorem tw4197124852483764760 : True := trivial
theorem tw3279077582325829838 : True := trivial
theorem tw10954607271099289585 : True := trivial
theorem tw7145057240379410032 : True := trivial
theorem tw6817751937963910627 : True := trivial
theorem tw4772410448533662562 : True := trivial
theorem tw11568272619759294016 : True := trivial
theorem tw6072511530176384962 : True := trivial
theorem tw14027143162585244968 : True := trivial
theorem tw4532548537324856634 : True := trivial
theorem tw7459122314025714673 : True := trivial
theorem tw2370105137638165564 : True := trivial
theorem tw7752820645730282312 : True := trivial
theorem tw14456359579513077766 : True := trivial
theorem tw1477864382951527211 : True := trivial
theorem tw6323047411617294506 : True := trivial
theorem tw14506719115837055750 : True := trivial
theorem tw1672651397029140864 : True := trivial
theorem tw15663057623668237757 : True := trivial
theorem tw11320635365256861639 : True := trivial
theorem tw12420228327803669747 : True := trivial
theorem tw18076910122471374375 : True := trivial
theorem tw4485590747672999114 : True := trivial
theorem tw7798976556582896058 : True := trivial
theorem tw9866653766423218390 : True := trivial
theorem tw12802907566657418599 : True := trivial
theorem tw4320952357017371039 : True := trivial
theorem tw2796529661445839640 : True := trivial
theorem tw14638587884836417943 : True := trivial
theorem tw7235909688915465346 : True := trivial
theorem tw10705761992013847755 : True := trivial
theorem tw98196739984318054 : True := trivial
theorem tw2026074157514601029 : True := trivial
theorem tw3579648750931130658 : True := trivial
theorem tw6987649320729488474 : True := trivial
theorem tw10467584912128312105 : True := trivial
theorem tw12322914241283428633 : True := trivial
theorem tw16339685495627315695 : True := trivial
theorem tw17585196194217108160 : True := trivial
theorem tw9441326970708011783 : True := trivial
theorem tw18306687941130998258 : True := trivial
theorem tw3912065897935574273 : True := trivial
theorem tw14751579383510745608 : True := trivial
theorem tw6140873895240759604 : True := trivial
theorem tw7368830758635557627 : True := trivial
theorem tw17294395744611713098 : True := trivial
theorem tw12629177860411813126 : True := trivial
theorem tw13656326972539208745 : True := trivial
theorem tw17154429820679262023 : True := trivial
theorem tw12762722769849151566 : True := trivial
theorem tw14083834280242248106 : True := trivial
theorem tw6396523623945614605 : True := trivial
theorem tw8102643725754146565 : True := trivial
theorem tw5857794014393010482 : True := trivial
theorem tw3210078786618844196 : True := trivial
theorem tw5350216910946226995 : True := trivial
theorem tw17450472940649059298 : True := trivial
theorem tw14404905868111484630 : True := trivial
theorem tw8684541073956307770 : True := trivial
theorem tw5915465848944024539 : True := trivial
theorem tw10292701021901942622 : True := trivial
theorem tw13899955331829678731 : True := trivial
theorem tw1954415657849012658 : True := trivial
theorem tw16509688237979914955 : True := trivial
theorem tw2003794701753356343 : True := trivial
theorem tw4247038368700228457 : True := trivial
theorem tw632647553328814510 : True := trivial
theorem tw17148229171239856432 : True := trivial
theorem tw4496467784121089108 : True := trivial
theorem tw16075053759526825020 : True := trivial
theorem tw12393906311096897308 : True := trivial
theorem tw7810582327123544015 : True := trivial
theorem tw4252685499439207924 : True := trivial
theorem tw15919173128261314395 : True := trivial
theorem tw10028576996824322293 : True := trivial
theorem tw244612440521699123 : True := trivial
theorem tw11378972443561828832 : True := trivial
theorem tw9245723823536211039 : True := trivial
theorem tw6816380694822836728 : True := trivial
theorem tw5065072626821882738 : True := trivial
theorem tw17647985033660283594 : True := trivial
theorem tw10817008591213730988 : True := trivial
theorem tw2322420239649074934 : True := trivial
theorem tw2511256036297951264 : True := trivial
theorem tw13676757877788619591 : True := trivial
theorem tw16801115162389100519 : True := trivial
theorem tw3198498235788789335 : True := trivial
theorem tw10677865647760817919 : True := trivial
theorem tw16478504620199068264 : True := trivial
theorem tw9327718836232418737 : True := trivial
theorem tw11251396491423821662 : True := trivial
theorem tw854715265852234644 : True := trivial
theorem tw12004703523718567385 : True := trivial
theorem tw10637851664137882224 : True := trivial
theorem tw16275521931939539341 : True := trivial
theorem tw438103235379743935 : True := trivial
theorem tw16986704738630991174 : True := trivial
theorem tw4700713122064472571 : True := trivial
theorem tw4381757428849502282 : True := trivial
theorem tw1974762919298152056 : True := trivial
theorem tw8365977135183407358 : True := trivial
theorem tw11866763835798034582 : True := trivial
theorem tw10679687220464918932 : True := trivial
theorem tw11341941285841758863 : True := trivial
theorem tw14271935136423247726 : True := trivial
theorem tw17836369818011005632 : True := trivial
theorem tw7221694943082674061 : True := trivial
theorem tw9250495785965993271 : True := trivial
theorem tw11502601298335438083 : True := trivial
theorem tw10494946348260405530 : True := trivial
theorem tw1066124834946963746 : True := trivial
theorem tw6027180799015181879 : True := trivial
theorem tw17305823854243098232 : True := trivial
theorem tw13219762378693318442 : True := trivial
theorem tw6852311561904566080 : True := trivial
theorem tw11413208387583891290 : True := trivial
theorem tw722385531181317529 : True := trivial
theorem tw5550945554117203131 : True := trivial
theorem tw1180276462324527112 : True := trivial
theorem tw13942211991455542721 : True := trivial
theorem tw16338696359196860668 : True := trivial
theorem tw14400433609042604536 : True := trivial
theorem tw3117193011312037209 : True := trivial
theorem tw5082999880386992228 : True := trivial
theorem tw17076291190057227869 : True := trivial
theorem tw12803259320963881043 : True := trivial
theorem tw768570372175400934 : True := trivial
theorem tw11932019790582256995 : True := trivial
theorem tw10840139340582571922 : True := trivial
theorem tw9458989268892848673 : True := trivial
theorem tw15985840036639034899 : True := trivial
theorem tw4079574721724423606 : True := trivial
theorem tw16286308178466712102 : True := trivial
theorem tw3349518531870832243 : True := trivial
theorem tw4565384855192621650 : True := trivial
theorem tw12098404996450287289 : True := trivial
theorem tw3589964763223657672 : True := trivial
theorem tw13035808574602941562 : True := trivial
theorem tw1342200453600437244 : True := trivial
theorem tw7766415108573184305 : True := trivial
theorem tw9518972631687950247 : True := trivial
theorem tw13563289320671947111 : True := trivial
theorem tw10876536743886354276 : True := trivial
theorem tw2835070418663256649 : True := trivial
theorem tw15733542881966949079 : True := trivial
theorem tw14411328915609312922 : True := trivial
theorem tw3050561863661609479 : True := trivial
theorem tw3765845486045053717 : True := trivial
theorem tw17180457848445815676 : True := trivial
theorem tw12799896031356618963 : True := trivial
theorem tw5898628582698610718 : True := trivial
theorem tw14040500308302212198 : True := trivial
theorem tw3378769572067720374 : True := trivial
theorem tw15326264675407861456 : True := trivial
theorem tw16725066886706607050 : True := trivial
theorem tw15270729048626237958 : True := trivial
theorem tw820486334897136409 : True := trivial
theorem tw8163853742193369449 : True := trivial
theorem tw7791430327242384495 : True := trivial
theorem tw17549760099613038055 : True := trivial
theorem tw9284948610034456067 : True := trivial
theorem tw13760989111850281533 : True := trivial
theorem tw15318030485348112285 : True := trivial
theorem tw4796666493748621973 : True := trivial
theorem tw8336353537208430648 : True := trivial
theorem tw1868492410679024872 : True := trivial
theorem tw2691182800312180423 : True := trivial
theorem tw16307742377514257941 : True := trivial
theorem tw12354433232887552844 : True := trivial
theorem tw7998808928282977731 : True := trivial
theorem tw8267156744941353195 : True := trivial
theorem tw4952593789767209597 : True := trivial
theorem tw4137054072099604216 : True := trivial
theorem tw2277698456845511444 : True := trivial
theorem tw7058599786907716777 : True := trivial
theorem tw8440079175239025714 : True := trivial
theorem tw16717973427065403112 : True := trivial
theorem tw11366613891026932653 : True := trivial
theorem tw14064534554856164141 : True := trivial
theorem tw12091882185175152326 : True := trivial
theorem tw17040301576142915119 : True := trivial
theorem tw10009309266167291388 : True := trivial
theorem tw9107170298555381705 : True := trivial
theorem tw2697976716319701033 : True := trivial
theorem tw1508545211966159021 : True := trivial
theorem tw5830490794043118638 : True := trivial
theorem tw5959074840488112208 : True := trivial
theorem tw8067858942452583622 : True := trivial
theorem tw7877780744568003191 : True := trivial
theorem tw2167384251425162797 : True := trivial
theorem tw16497969686579978388 : True := trivial
theorem tw14747351113905286367 : True := trivial
theorem tw12461706298059298081 : True := trivial
theorem tw7365562674294520451 : True := trivial
theorem tw7885888744534978006 : True := trivial
theorem tw15216533652830951187 : True := trivial
theorem tw151567797773009622 : True := trivial
theorem tw954759294903293345 : True := trivial
theorem tw4695128735345963622 : True := trivial
theorem tw12095597400677081514 : True := trivial
theorem tw6305404595935261976 : True := trivial
theorem tw11472876989420892731 : True := trivial
theorem tw16697607604324151607 : True := trivial
theorem tw10807475332292939257 : True := trivial
theorem tw14856189802965030758 : True := trivial
theorem tw15599714736264371672 : True := trivial
theorem tw12828038907145807738 : True := trivial
theorem tw11566098377363298415 : True := trivial
theorem tw10726778698580467152 : True := trivial
theorem tw16034146489351607153 : True := trivial
theorem tw5531990279233569197 : True := trivial
theorem tw17087466662150396210 : True := trivial
theorem tw5619219577263525582 : True := trivial
theorem tw14012504350828624960 : True := trivial
theorem tw8991559151991917937 : True := trivial
theorem tw9541010698263467177 : True := trivial
theorem tw5323918697378788693 : True := trivial
theorem tw8454650750101055009 : True := trivial
theorem tw16461013251600362008 : True := trivial
theorem tw14777700561071354170 : True := trivial
theorem tw7398177500901678427 : True := trivial
theorem tw5145322182839607373 : True := trivial
theorem tw3937861406571306486 : True := trivial
theorem tw14341210406198164329 : True := trivial
theorem tw16281141667863336784 : True := trivial
theorem tw5583946556138506119 : True := trivial
theorem tw13416111870119765123 : True := trivial
theorem tw13306226422529918579 : True := trivial
theorem tw4408763645494598628 : True := trivial
theorem tw7580357766596436714 : True := trivial
theorem tw6278366128872770721 : True := trivial
theorem tw4659233104850659043 : True := trivial
theorem tw3969078344035082030 : True := trivial
theorem tw5768289875352899849 : True := trivial
theorem tw8827755016177155863 : True := trivial
theorem tw303617358959260456 : True := trivial
theorem tw150268843892594924 : True := trivial
theorem tw13108245259352980691 : True := trivial
theorem tw8253004272172430988 : True := trivial
theorem tw17888041645453997434 : True := trivial
theorem tw1438057683635843531 : True := trivial
theorem tw11021121815585206722 : True := trivial
theorem tw2395783193375807797 : True := trivial
theorem tw10066566674380323332 : True := trivial
theorem tw2296293446034493066 : True := trivial
theorem tw17955251653903534588 : True := trivial
theorem tw4648945120126745877 : True := trivial
theorem tw5635654813233479639 : True := trivial
theorem tw12870647732520690006 : True := trivial
theorem tw2720468260678641542 : True := trivial
theorem tw17629714610472425511 : True := trivial
theorem tw15349486494167490861 : True := trivial
theorem tw4529002996912422141 : True := trivial
theorem tw6242798391323511791 : True := trivial
theorem tw6654929391614583909 : True := trivial
theorem tw9367411864662104596 : True := trivial
theorem tw1884008505450799693 : True := trivial
theorem tw2562329033357795767 : True := trivial
theorem tw1389151227800987198 : True := trivial
theorem tw142377125942736700 : True := trivial
theorem tw11210861575573996130 : True := trivial
theorem tw17533166617710000329 : True := trivial
theorem tw7840918076549728228 : True := trivial
theorem tw6270666701200070447 : True := trivial
theorem tw12343754954083223990 : True := trivial
theorem tw138917058343750897 : True := trivial
theorem tw4043779546988386903 : True := trivial
theorem tw7405762614669717487 : True := trivial
theorem tw5588498093969417903 : True := trivial
theorem tw1466284255255076664 : True := trivial
theorem tw10595842591828190984 : True := trivial
theorem tw7118747031804142146 : True := trivial
theorem tw11899092608841805274 : True := trivial
theorem tw1686462557126633389 : True := trivial
theorem tw10280545108713110612 : True := trivial
theorem tw13130249910395747862 : True := trivial
theorem tw8393340031374782525 : True := trivial
theorem tw3587991164115205208 : True := trivial
theorem tw3339025504875072537 : True := trivial
theorem tw2422663375537807432 : True := trivial
theorem tw5006882278849481289 : True := trivial
theorem tw8006095370074002437 : True := trivial
theorem tw8709608639225018423 : True := trivial
theorem tw7074641181814816541 : True := trivial
theorem tw9636209304261665903 : True := trivial
theorem tw14869886272290788767 : True := trivial
theorem tw3083665863380995925 : True := trivial
theorem tw13602253286356535353 : True := trivial
theorem tw13060694101666355058 : True := trivial
theorem tw4837283352154931363 : True := trivial
theorem tw1316056555746827224 : True := trivial
theorem tw12135579543755162760 : True := trivial
theorem tw12528141070781557109 : True := trivial
theorem tw13069951337775981229 : True := trivial
theorem tw4157549862880800291 : True := trivial
theorem tw10576265454180977796 : True := trivial
theorem tw12883100574787851859 : True := trivial
theorem tw14481039436429509627 : True := trivial
theorem tw4638248667903330817 : True := trivial
theorem tw18202751451028033538 : True := trivial
theorem tw5865623049191206495 : True := trivial
theorem tw5857869478962280401 : True := trivial
theorem tw2045681113551912190 : True := trivial
theorem tw15969937429085165904 : True := trivial
theorem tw10634055019105834221 : True := trivial
theorem tw14325652797173081869 : True := trivial
theorem tw4500180452004054980 : True := trivial
theorem tw8868040359437915812 : True := trivial
theorem tw17642598502550569490 : True := trivial
theorem tw3393808461323943489 : True := trivial
theorem tw17988741175759917587 : True := trivial
theorem tw7753079526450916859 : True := trivial
theorem tw9541374612494854641 : True := trivial
theorem tw17631178891982236634 : True := trivial
theorem tw2781561513384061212 : True := trivial
theorem tw12540800736699631050 : True := trivial
theorem tw3844988812921704102 : True := trivial
theorem tw3667296734252672382 : True := trivial
theorem tw2661161477798328453 : True := trivial
theorem tw14394845925615563878 : True := trivial
theorem tw14263331781698699780 : True := trivial
theorem tw11394987932868277362 : True := trivial
theorem tw14642846902033847964 : True := trivial
theorem tw10238092577321643331 : True := trivial
theorem tw4753448620645791293 : True := trivial
theorem tw9573620641467853373 : True := trivial
theorem tw8715153415118720431 : True := trivial
theorem tw15681240381570490794 : True := trivial
theorem tw4397353207691548035 : True := trivial
theorem tw16139409775219458943 : True := trivial
theorem tw25128007106566912 : True := trivial
theorem tw8186637812631136355 : True := trivial
theorem tw840278733503548893 : True := trivial
theorem tw9309047703646887916 : True := trivial
theorem tw15234514527192182573 : True := trivial
theorem tw8324913547053779211 : True := trivial
theorem tw143733397751180983 : True := trivial
theorem tw6987646167637998250 : True := trivial
theorem tw17765825090018352961 : True := trivial
theorem tw759334954848157859 : True := trivial
theorem tw12370703938092414502 : True := trivial
theorem tw3378624336152846145 : True := trivial
theorem tw8930301468638573109 : True := trivial
theorem tw187104208977503339 : True := trivial
theorem tw16405250981985728351 : True := trivial
theorem tw14015465597193498493 : True := trivial
theorem tw11635385377250757057 : True := trivial
theorem tw8201850095220326943 : True := trivial
theorem tw10531532615022067580 : True := trivial
theorem tw4302478151189881795 : True := trivial
theorem tw960582308587345451 : True := trivial
theorem tw16438637452659292861 : True := trivial
theorem tw3529921767576855348 : True := trivial
theorem tw3440516207279462431 : True := trivial
theorem tw11619669790576578751 : True := trivial
theorem tw3521771025164786240 : True := trivial
theorem tw16939745714101447976 : True := trivial
theorem tw17751544043737166181 : True := trivial
theorem tw6533376258080325180 : True := trivial
theorem tw16878984735049331645 : True := trivial
theorem tw15573729904360925794 : True := trivial
theorem tw10828986214106111531 : True := trivial
theorem tw8260078842695283502 : True := trivial
theorem tw10953125311028157021 : True := trivial
theorem tw13338651292558784369 : True := trivial
theorem tw9039863090174473464 : True := trivial
theorem tw14083959995102712966 : True := trivial
theorem tw14145908162538725807 : True := trivial
theorem tw8944343764007091065 : True := trivial
theorem tw10255086910947774711 : True := trivial
theorem tw5504749867601889013 : True := trivial
theorem tw1357696155403014326 : True := trivial
theorem tw16920389981729717209 : True := trivial
theorem tw14247145606103189434 : True := trivial
theorem tw8239031253751857358 : True := trivial
theorem tw4698078265318845332 : True := trivial
theorem tw1311399786705062619 : True := trivial
theorem tw13995109926203733070 : True := trivial
theorem tw4071159065629566091 : True := trivial
theorem tw10894570999934473159 : True := trivial
theorem tw8903297777125119442 : True := trivial
theorem tw16040225322677750662 : True := trivial
theorem tw3864012138097595758 : True := trivial
theorem tw9160814584890018001 : True := trivial
theorem tw4636335402390110268 : True := trivial
theorem tw17698789649397450121 : True := trivial
theorem tw7553091538727811119 : True := trivial
theorem tw8413133151647880539 : True := trivial
theorem tw3232270311777372273 : True := trivial
theorem tw1357463484097335404 : True := trivial
theorem tw14781169843320478655 : True := trivial
theorem tw5948040445239067262 : True := trivial
theorem tw17551835440721493442 : True := trivial
theorem tw2451063411067222376 : True := trivial
theorem tw15027879205694222834 : True := trivial
theorem tw11021402016762074336 : True := trivial
theorem tw10540872416556608339 : True := trivial
theorem tw5860552524368599662 : True := trivial
theorem tw11322816463052944642 : True := trivial
theorem tw17144610094948777349 : True := trivial
theorem tw1639197193820686003 : True := trivial
theorem tw2787305314026857967 : True := trivial
theorem tw1092734292537931370 : True := trivial
theorem tw5768325706252814819 : True := trivial
theorem tw3914980098763439061 : True := trivial
theorem tw7991519602905016326 : True := trivial
theorem tw8276148420849259419 : True := trivial
theorem tw13208604148985916543 : True := trivial
theorem tw8500683849737753401 : True := trivial
theorem tw5498966250228494579 : True := trivial
theorem tw3937267528351423324 : True := trivial
theorem tw15566814792845459997 : True := trivial
theorem tw7072470231402172264 : True := trivial
theorem tw16492970923048177823 : True := trivial
theorem tw10240100896771907615 : True := trivial
theorem tw10853043219271619230 : True := trivial
theorem tw6549915499844065949 : True := trivial
theorem tw4717937361131159733 : True := trivial
theorem tw707885073954110949 : True := trivial
theorem tw16049930973857864354 : True := trivial
theorem tw6848487089051665640 : True := trivial
theorem tw9486143321106344294 : True := trivial
theorem tw820627826665183454 : True := trivial
theorem tw17856180979147524769 : True := trivial
theorem tw6339512806697972703 : True := trivial
theorem tw5020977762268055686 : True := trivial
theorem tw1833173380454153921 : True := trivial
theorem tw4046193847619289583 : True := trivial
theorem tw8868445881999480663 : True := trivial
theorem tw12774209864397607762 : True := trivial
theorem tw8217837808669207805 : True := trivial
theorem tw12468101337765408714 : True := trivial
theorem tw15987345220168432620 : True := trivial
theorem tw8501281891715751146 : True := trivial
theorem tw7944191787301449481 : True := trivial
theorem tw3626213265524300766 : True := trivial
theorem tw15493915963290111440 : True := trivial
theorem tw1714096750540956960 : True := trivial
theorem tw16179787414501680475 : True := trivial
theorem tw9572162887998638646 : True := trivial
theorem tw2815148716436586704 : True := trivial
theorem tw13342100529233674250 : True := trivial
theorem tw96072713605637463 : True := trivial
theorem tw15762835226273150572 : True := trivial
theorem tw9143120035062812437 : True := trivial
theorem tw1118671588950128205 : True := trivial
theorem tw9732041140710341944 : True := trivial
theorem tw4480811336153992742 : True := trivial
theorem tw1577146010547175755 : True := trivial
theorem tw10061326939861387809 : True := trivial
theorem tw16740147826971877517 : True := trivial
theorem tw12808162357026388105 : True := trivial
theorem tw1272921112123746405 : True := trivial
theorem tw7614240834612533913 : True := trivial
theorem tw16818068004342704306 : True := trivial
theorem tw16451975095625300501 : True := trivial
theorem tw13851224978691574800 : True := trivial
theorem tw9766128667603022514 : True := trivial
theorem tw10491065262344570346 : True := trivial
theorem tw3591643451295285226 : True := trivial
theorem tw13934561362821362623 : True := trivial
theorem tw12039203186867382747 : True := trivial
theorem tw1095465085569150570 : True := trivial
theorem tw8801499457356032720 : True := trivial
theorem tw18145382148040430673 : True := trivial
theorem tw114758814716574784 : True := trivial
theorem tw4954732016240277505 : True := trivial
theorem tw6357344898813262543 : True := trivial
theorem tw4065146272016792997 : True := trivial
theorem tw2693575011054576931 : True := trivial
theorem tw17500814259130102135 : True := trivial
theorem tw3579776383272448420 : True := trivial
theorem tw14691085348537605332 : True := trivial
theorem tw6995637125483106052 : True := trivial
theorem tw1085116229181452980 : True := trivial
theorem tw2180479604254433311 : True := trivial
theorem tw3184581556216392744 : True := trivial
theorem tw9523873602847724419 : True := trivial
theorem tw10824115321126796680 : True := trivial
theorem tw13356387430892511905 : True := trivial
theorem tw15815842588268232306 : True := trivial
theorem tw2170955613840884034 : True := trivial
theorem tw17027350548333183925 : True := trivial
theorem tw18263738317455877889 : True := trivial
theorem tw7033360832409044607 : True := trivial
theorem tw12031874703400117858 : True := trivial
theorem tw4057953776094532316 : True := trivial
theorem tw15395134090581100920 : True := trivial
theorem tw1882270145967814011 : True := trivial
theorem tw4876135695594978501 : True := trivial
theorem tw15737458098272848843 : True := trivial
theorem tw15043986215568586124 : True := trivial
theorem tw2298022174073133013 : True := trivial
theorem tw15136828946037461428 : True := trivial
theorem tw13794718551069701317 : True := trivial
theorem tw15044018224587446200 : True := trivial
theorem tw14786066558164337950 : True := trivial
theorem tw17822619038779606285 : True := trivial
theorem tw6166532556598395850 : True := trivial
theorem tw11319453509113102234 : True := trivial
theorem tw14062913937729191461 : True := trivial
theorem tw2335221107431800076 : True := trivial
theorem tw13306687922162142720 : True := trivial
theorem tw10645105620128953169 : True := trivial
theorem tw12179329788657368842 : True := trivial
theorem tw1621136399060944247 : True := trivial
theorem tw15305512045591798990 : True := trivial
theorem tw16260029586006496120 : True := trivial
theorem tw14222940496449047865 : True := trivial
theorem tw12084871131945615253 : True := trivial
theorem tw5964785641998049897 : True := trivial
theorem tw11237496202790982473 : True := trivial
theorem tw5923573193019433623 : True := trivial
theorem tw12632932662738783937 : True := trivial
theorem tw18148179280279774915 : True := trivial
theorem tw14205006904943715905 : True := trivial
theorem tw11037822914523747621 : True := trivial
theorem tw2160012875989923789 : True := trivial
theorem tw12885456215103715144 : True := trivial
theorem tw14533596452844920548 : True := trivial
theorem tw6786515118028813453 : True := trivial
theorem tw14607219995997415800 : True := trivial
theorem tw7943873644019274615 : True := trivial
theorem tw13390067322875170909 : True := trivial
theorem tw12515132750305970602 : True := trivial
theorem tw2972900019843275892 : True := trivial
theorem tw2946744036017948005 : True := trivial
theorem tw14786868411472786527 : True := trivial
theorem tw10447927361281507451 : True := trivial
theorem tw10705619171732726748 : True := trivial
theorem tw14387954076880322906 : True := trivial
theorem tw4286360187039589740 : True := trivial
theorem tw16760418933842767799 : True := trivial
theorem tw16955119412671694080 : True := trivial
theorem tw16719641618999485920 : True := trivial
theorem tw3093010850272755244 : True := trivial
theorem tw8326223695736924558 : True := trivial
theorem tw18159871531285016133 : True := trivial
theorem tw12840991994722114650 : True := trivial
theorem tw2963349702327202441 : True := trivial
theorem tw16526392495010931895 : True := trivial
theorem tw2084331650109322480 : True := trivial
theorem tw4905061745869718969 : True := trivial
theorem tw13370180491053348 : True := trivial
theorem tw11623250428353690138 : True := trivial
theorem tw17858152450515298520 : True := trivial
theorem tw13341946137322399123 : True := trivial
theorem tw13963158057122002454 : True := trivial
theorem tw14085268106739128817 : True := trivial
theorem tw2041457743892144894 : True := trivial
theorem tw11311999394344832113 : True := trivial
theorem tw2331653303103277471 : True := trivial
theorem tw7047203234742669986 : True := trivial
theorem tw10973056549479156102 : True := trivial
theorem tw249549322783861432 : True := trivial
theorem tw4583756282420477746 : True := trivial
theorem tw12788872388335264594 : True := trivial
theorem tw17686823529366144999 : True := trivial
theorem tw12004910477815969792 : True := trivial
theorem tw6118206324766035986 : True := trivial
theorem tw11818566221774970091 : True := trivial
theorem tw1699496654472425960 : True := trivial
theorem tw8277820557490507997 : True := trivial
theorem tw8512429452129088584 : True := trivial
theorem tw4018041982718015684 : True := trivial
theorem tw9259533211598610082 : True := trivial
theorem tw2929439407932294337 : True := trivial
theorem tw414146962427189552 : True := trivial
theorem tw3906943341852370832 : True := trivial
theorem tw17779774989671706653 : True := trivial
theorem tw11223116819087169764 : True := trivial
theorem tw5990180441110522300 : True := trivial
theorem tw14666957617077880877 : True := trivial
theorem tw9188266559522036927 : True := trivial
theorem tw12633084752571091873 : True := trivial
theorem tw10859938921441162988 : True := trivial
theorem tw2667925813562934949 : True := trivial
theorem tw2642592217982111355 : True := trivial
theorem tw17973240255108071979 : True := trivial
theorem tw17804031047071762117 : True := trivial
theorem tw11111472982789046935 : True := trivial
theorem tw1748184903109754316 : True := trivial
theorem tw4307185281782297411 : True := trivial
theorem tw8218819101457601776 : True := trivial
theorem tw17476224472650253806 : True := trivial
theorem tw2990895676391025561 : True := trivial
theorem tw12733908048491186811 : True := trivial
theorem tw3256209041318659551 : True := trivial
theorem tw11775407622660791982 : True := trivial
theorem tw7119377499074729706 : True := trivial
theorem tw7398792987819827216 : True := trivial
theorem tw7797081563098230675 : True := trivial
theorem tw17333008956687886300 : True := trivial
theorem tw5763553328388235881 : True := trivial
theorem tw11252122248351282842 : True := trivial
theorem tw12368517589529891483 : True := trivial
theorem tw2538446115941346844 : True := trivial
theorem tw7882509031788189477 : True := trivial
theorem tw8451429660923938374 : True := trivial
theorem tw13281364814482169325 : True := trivial
theorem tw4381346726385406224 : True := trivial
theorem tw12929723366055764138 : True := trivial
theorem tw3874528156674345177 : True := trivial
theorem tw4702539438339769474 : True := trivial
theorem tw15203487316939043196 : True := trivial
theorem tw2585008018627690749 : True := trivial
theorem tw5078402968320093544 : True := trivial
theorem tw16682935309838494251 : True := trivial
theorem tw11284957654470035344 : True := trivial
theorem tw17871827197684104998 : True := trivial
theorem tw14012497318314112844 : True := trivial
theorem tw10981351503976158137 : True := trivial
theorem tw9260842090827677427 : True := trivial
theorem tw15398626621386718237 : True := trivial
theorem tw15580662879708500073 : True := trivial
theorem tw15402825562841796884 : True := trivial
theorem tw11723004889028688699 : True := trivial
theorem tw15477653585598255317 : True := trivial
theorem tw4399152324972305773 : True := trivial
theorem tw2980642449514264586 : True := trivial
theorem tw6424660084863691381 : True := trivial
theorem tw15962101105364567198 : True := trivial
theorem tw129196079805174044 : True := trivial
theorem tw5887078386916838634 : True := trivial
theorem tw10176819019813888522 : True := trivial
theorem tw17096001632197288867 : True := trivial
theorem tw15172879773585053777 : True := trivial
theorem tw2395109189467087578 : True := trivial
theorem tw13758948915013449397 : True := trivial
theorem tw7154447938429058438 : True := trivial
theorem tw9179076619674111515 : True := trivial
theorem tw15483027778438257147 : True := trivial
theorem tw14054693376921006050 : True := trivial
theorem tw17848630932409850240 : True := trivial
theorem tw12158838097934144204 : True := trivial
theorem tw8789113547377566482 : True := trivial
theorem tw9930548314228155742 : True := trivial
theorem tw7258431392514884226 : True := trivial
theorem tw2490583276235294983 : True := trivial
theorem tw2406459529592591507 : True := trivial
theorem tw6120885642358782293 : True := trivial
theorem tw18020473825885896052 : True := trivial
theorem tw10675174832548182787 : True := trivial
theorem tw1349225773494744244 : True := trivial
theorem tw14453804969608289915 : True := trivial
theorem tw7399101569421298396 : True := trivial
theorem tw6395224867365064139 : True := trivial
theorem tw18193256452927958525 : True := trivial
theorem tw17301085495529702629 : True := trivial
theorem tw14146095236536434788 : True := trivial
theorem tw15942494369296127945 : True := trivial
theorem tw7350330377624401328 : True := trivial
theorem tw6307330118970589470 : True := trivial
theorem tw3101148707280403237 : True := trivial
theorem tw13526204058760582534 : True := trivial
theorem tw11647182259668861994 : True := trivial
theorem tw609593979267148766 : True := trivial
theorem tw8070350036930755802 : True := trivial
theorem tw949623864930693503 : True := trivial
theorem tw16141144775947785660 : True := trivial
theorem tw5506139502277114011 : True := trivial
theorem tw10520202591518659360 : True := trivial
theorem tw12193430542910085222 : True := trivial
theorem tw6330134614895140133 : True := trivial
theorem tw8143335708233088440 : True := trivial
theorem tw11822188140940861840 : True := trivial
theorem tw5274472226630626454 : True := trivial
theorem tw10587580826675096554 : True := trivial
theorem tw3886397583452890388 : True := trivial
theorem tw6545324650690627985 : True := trivial
theorem tw12160635655254385198 : True := trivial
theorem tw5599412692616142259 : True := trivial
theorem tw9451202372093027117 : True := trivial
theorem tw13606275585875862381 : True := trivial
theorem tw13926404443759844560 : True := trivial
theorem tw17453241218497372113 : True := trivial
theorem tw15653146226815964750 : True := trivial
theorem tw12941468149822085856 : True := trivial
theorem tw13200177327426563521 : True := trivial
theorem tw10271908862932475985 : True := trivial
theorem tw9816476011544392670 : True := trivial
theorem tw7442186320969616419 : True := trivial
theorem tw4758407346467626144 : True := trivial
theorem tw8583004682187828996 : True := trivial
theorem tw9825822386377846996 : True := trivial
theorem tw13757568721421367004 : True := trivial
theorem tw9647410926604887880 : True := trivial
theorem tw1823548288077909227 : True := trivial
theorem tw17254660705983429885 : True := trivial
theorem tw16527965534346479843 : True := trivial
theorem tw6077952519532572301 : True := trivial
theorem tw5252246860307943348 : True := trivial
theorem tw6107281658776505229 : True := trivial
theorem tw7925820919135066463 : True := trivial
theorem tw15665992811038445102 : True := trivial
theorem tw13384883100587833847 : True := trivial
theorem tw6153587431502396178 : True := trivial
theorem tw18078616723997116376 : True := trivial
theorem tw7794074229983474189 : True := trivial
theorem tw7548614866355832645 : True := trivial
theorem tw14795748159217239652 : True := trivial
theorem tw8943767207682116370 : True := trivial
theorem tw18366657443248667141 : True := trivial
theorem tw9204624228502610083 : True := trivial
theorem tw7923702915469573346 : True := trivial
theorem tw17129278960223170533 : True := trivial
theorem tw1211747854080251252 : True := trivial
theorem tw6216033271563703469 : True := trivial
theorem tw5015485144833937494 : True := trivial
theorem tw8778671856527934898 : True := trivial
theorem tw5031978486770369989 : True := trivial
theorem tw12099403028437411319 : True := trivial
theorem tw8403075241119356948 : True := trivial
theorem tw15462992800728643659 : True := trivial
theorem tw154871700347349385 : True := trivial
theorem tw13299747515739239509 : True := trivial
theorem tw5791938023122869331 : True := trivial
theorem tw7389893730484166007 : True := trivial
theorem tw18119562065370568691 : True := trivial
theorem tw10274680400919065884 : True := trivial
theorem tw915018914566706432 : True := trivial
theorem tw16124510186991490168 : True := trivial
theorem tw1876284267304334591 : True := trivial
theorem tw11968577826497805164 : True := trivial
theorem tw13150661809386230508 : True := trivial
theorem tw18173914834931495973 : True := trivial
theorem tw14977296931134136204 : True := trivial
theorem tw16898140867199733807 : True := trivial
theorem tw13945929957867325323 : True := trivial
theorem tw7072537936409012915 : True := trivial
theorem tw4990343992934813274 : True := trivial
theorem tw8105830805119860317 : True := trivial
theorem tw1562249421467397710 : True := trivial
theorem tw9232459349045140238 : True := trivial
theorem tw1213666046027356511 : True := trivial
theorem tw4257035514978150896 : True := trivial
theorem tw9114018109745100730 : True := trivial
theorem tw4847722943968633838 : True := trivial
theorem tw7366336091430424897 : True := trivial
theorem tw11450275943994455990 : True := trivial
theorem tw6417658556168297412 : True := trivial
theorem tw4837763867591130413 : True := trivial
theorem tw17714467908841036005 : True := trivial
theorem tw17417429595627488627 : True := trivial
theorem tw3811385743445658432 : True := trivial
theorem tw14314133134477209284 : True := trivial
theorem tw12947342387834907416 : True := trivial
theorem tw15814798929938293467 : True := trivial
theorem tw18137404814466565647 : True := trivial
theorem tw9784731065822230439 : True := trivial
theorem tw2669110664802000394 : True := trivial
theorem tw2207817973478938216 : True := trivial
theorem tw16532224993992427823 : True := trivial
theorem tw5259053182002985842 : True := trivial
theorem tw9370115536473471133 : True := trivial
theorem tw18224010420261798391 : True := trivial
theorem tw10698829266838348154 : True := trivial
theorem tw5274829272982666545 : True := trivial
theorem tw11937027079205856637 : True := trivial
theorem tw10269081998898121243 : True := trivial
theorem tw12306811582311103309 : True := trivial
theorem tw5471403574791894133 : True := trivial
theorem tw1552857426587298226 : True := trivial
theorem tw10178290135220734976 : True := trivial
theorem tw4638280614687871961 : True := trivial
theorem tw9925129770185513386 : True := trivial
theorem tw11750193621415288269 : True := trivial
theorem tw9157471666820141079 : True := trivial
theorem tw9211439859435937815 : True := trivial
theorem tw16189116650847989039 : True := trivial
theorem tw17274456146704370614 : True := trivial
theorem tw8229771903181695673 : True := trivial
end Mine.holds
namespace Mine
open PySem PySem.W PySem.Calls PyProof.Rows
theorem k_post (args : List WData) : PySem.Challenge.rw_sj0063_01.row.claim.post args (.bool true) args = true := by
  refine postW_of (r := PySem.Challenge.rw_sj0063_01.row.toRowW) (X := true) rfl ?_ rfl
  show WTm.value [] (.eq .res (.lit (.bool true))) _ = _
  simp only [WTm.value]
  exact congrArg (fun b => some (WData.bool b)) (same_self _)
end Mine
open PySem PySem.W PySem.Calls PyProof.Rows
set_option maxRecDepth 100000
set_option maxHeartbeats 0
set_option Elab.async true in
theorem Mine.holds : PySem.Challenge.rw_sj0063_01.Holds := by
  w_on
  o_law
  k_head
  (case hw => w_witness2)
  k_fill
  intro w s₀ s₁ mg mb G Y fa o pm cd doc dV kV ho hd hcd hD hmg hg args vals as hpre hlay hrd hwl hlo
  have hm : mg (Str.ofString "law") = some (.ref fa) := hmg
  have KX := km_in_of Y
  km_tabs Y
  have X := (Ground.X G).1
  have V := (Ground.X G).2
  refine Ground.open G ?_
  intro T B D TE TW
  try (refine guard_noD D (by decide +kernel) ?_; clear D)
  km_lay T hmg ho hd cd
  clear hmg
  wrow_args hpre hlay hrd hwl hlo
  (first | refine callC_kw (enter_call ?_) | refine enter_call ?_)
  w_top on
  kn_posts
  refine codeAny_mono (Mine.law_join (by kernel_rfl) (by kernel_rfl) (by kernel_rfl) (by kernel_rfl) (by kernel_rfl) (by kernel_rfl) KX T (by assumption) hg (by assumption) (by assumption) (by assumption) (by omega) hm) ?_
  rintro r s' ⟨rfl, hk, hos, hgn, hgr⟩
  exact ⟨⟨Or.inl ⟨.bool true, .bool true, [], rfl, fun _ => rfl, .bool true, Mine.k_post _, fun _ => ⟨List.nodup_nil, fun a ha => nomatch ha⟩⟩, hk, hos, hgn⟩, hgr⟩
theorem PySem.Challenge.cw_sj0063_01_holds : PySem.Challenge.rw_sj0063_01.Holds :=
  Mine.holds
