import PyProof.Rows.All
import HandS.ForMost
import HandS.Exc
import HandS.ExcOwn
import HandS.WordsExc
import HandS.IsInst
import HandS.CallSlots
import HandS.TupAny
import HandS.Flow
import HandS.Deep
import HandS.Conv
import HandS.Style
import PySem.Challenge.RW_seekwright_k28_whole_numbers_met_by_leap
set_option Elab.async false
set_option linter.all false
set_option maxRecDepth 100000
section SCore
namespace Mp
inductive D where
  | non | bl (b : Bool) | int (i : Int) | str (s : List Nat)
  | tup (l : List D) | tl (l : List D) | ref (n : Nat) | fn (x : String) | fz (l : List D)
  deriving Inhabited, Repr
mutual
def D.beq : D → D → Bool
  | .non, .non => true
  | .bl x, .bl y => x == y
  | .int x, .int y => x == y
  | .str x, .str y => x == y
  | .ref x, .ref y => x == y
  | .fn x, .fn y => x == y
  | .tup x, .tup y => D.beqs x y
  | .tl x, .tl y => D.beqs x y
  | .fz x, .fz y => D.beqs x y
  | _, _ => false
def D.beqs : List D → List D → Bool
  | [], [] => true
  | x :: xs, y :: ys => D.beq x y && D.beqs xs ys
  | _, _ => false
end
mutual
theorem D.eq_of_beq : ∀ (a b : D), D.beq a b = true → a = b
  | .non, b, h => by cases b <;> simp_all [D.beq]
  | .bl x, b, h => by cases b <;> simp_all [D.beq]
  | .int x, b, h => by cases b <;> simp_all [D.beq]
  | .str x, b, h => by cases b <;> simp_all [D.beq]
  | .ref x, b, h => by cases b <;> simp_all [D.beq]
  | .fn x, b, h => by cases b <;> simp_all [D.beq]
  | .tup x, b, h => by
    cases b <;> simp [D.beq] at h
    rw [D.eqs_of_beqs _ _ h]
  | .tl x, b, h => by
    cases b <;> simp [D.beq] at h
    rw [D.eqs_of_beqs _ _ h]
  | .fz x, b, h => by
    cases b <;> simp [D.beq] at h
    rw [D.eqs_of_beqs _ _ h]
theorem D.eqs_of_beqs : ∀ (a b : List D), D.beqs a b = true → a = b
  | [], b, h => by cases b <;> simp_all [D.beqs]
  | x :: xs, b, h => by
    cases b with
    | nil => simp [D.beqs] at h
    | cons y ys =>
      simp [D.beqs] at h
      rw [D.eq_of_beq _ _ h.1, D.eqs_of_beqs _ _ h.2]
end
mutual
theorem D.beq_refl : ∀ (a : D), D.beq a a = true
  | .non | .bl _ | .int _ | .str _ | .ref _ | .fn _ => by simp [D.beq]
  | .tup x => by simp [D.beq, D.beqs_refl x]
  | .tl x => by simp [D.beq, D.beqs_refl x]
  | .fz x => by simp [D.beq, D.beqs_refl x]
theorem D.beqs_refl : ∀ (a : List D), D.beqs a a = true
  | [] => rfl
  | x :: xs => by simp [D.beqs, D.beq_refl x, D.beqs_refl xs]
end
instance : DecidableEq D := fun a b => if h : D.beq a b = true then isTrue (D.eq_of_beq _ _ h) else isFalse fun e => h (by rw [e]; exact D.beq_refl b)

/-- the most that a list, a tuple or a text may hold -/
abbrev LIM : Nat := 16777216

/-- what stands in the store -/
inductive Obj where
  | lst (l : List D)
  deriving Inhabited, DecidableEq, Repr
abbrev Store := List Obj
abbrev Env := List (Option D)

/-- what an expression gives: a value, an error, or nothing (the interpreter is stuck) -/
inductive Rs (α : Type) where
  | ok (a : α) (μ : Store)
  | ex (e : D) (μ : Store)
  | no
  deriving Inhabited, Repr
def Rs.bnd {α β : Type} (r : Rs α) (f : α → Store → Rs β) : Rs β := match r with
  | .ok a μ => f a μ
  | .ex e μ => .ex e μ
  | .no => .no
def Rs.of {α : Type} (o : Option α) (μ : Store) : Rs α := match o with
  | some a => .ok a μ
  | none => .no
@[simp] theorem Rs.bnd_ok {α β : Type} {a : α} {μ : Store} {f : α → Store → Rs β} : (Rs.ok a μ).bnd f = f a μ := (rfl)
@[simp] theorem Rs.bnd_ex {α β : Type} {e : D} {μ : Store} {f : α → Store → Rs β} : (Rs.ex e μ : Rs α).bnd f = .ex e μ := (rfl)
@[simp] theorem Rs.bnd_no {α β : Type} {f : α → Store → Rs β} : (Rs.no : Rs α).bnd f = .no := (rfl)
@[simp] theorem Rs.of_some {α : Type} {a : α} {μ : Store} : Rs.of (some a) μ = .ok a μ := (rfl)
@[simp] theorem Rs.of_none {α : Type} {μ : Store} : Rs.of (none : Option α) μ = .no := (rfl)

/-- what a statement gives -/
inductive Ou where
  | nx (ρ : Env) (μ : Store)
  | br (ρ : Env) (μ : Store)
  | ct (ρ : Env) (μ : Store)
  | rt (d : D) (μ : Store)
  | ex (e : D) (ρ : Env) (μ : Store)
  | no
  deriving Inhabited, Repr
def Rs.ou {α : Type} (r : Rs α) (ρ : Env) (f : α → Store → Ou) : Ou := match r with
  | .ok a μ => f a μ
  | .ex e μ => .ex e ρ μ
  | .no => .no
@[simp] theorem Rs.ou_ok {α : Type} {a : α} {μ : Store} {ρ : Env} {f : α → Store → Ou} : (Rs.ok a μ).ou ρ f = f a μ := (rfl)
@[simp] theorem Rs.ou_ex {α : Type} {e : D} {μ : Store} {ρ : Env} {f : α → Store → Ou} : (Rs.ex e μ : Rs α).ou ρ f = .ex e ρ μ := (rfl)
@[simp] theorem Rs.ou_no {α : Type} {ρ : Env} {f : α → Store → Ou} : (Rs.no : Rs α).ou ρ f = .no := (rfl)
def Ou.seq (o : Ou) (f : Env → Store → Ou) : Ou := match o with
  | .nx ρ μ => f ρ μ
  | o => o
@[simp] theorem Ou.seq_nx {ρ : Env} {μ : Store} {f : Env → Store → Ou} : (Ou.nx ρ μ).seq f = f ρ μ := (rfl)
@[simp] theorem Ou.seq_br {ρ : Env} {μ : Store} {f : Env → Store → Ou} : (Ou.br ρ μ).seq f = .br ρ μ := (rfl)
@[simp] theorem Ou.seq_ct {ρ : Env} {μ : Store} {f : Env → Store → Ou} : (Ou.ct ρ μ).seq f = .ct ρ μ := (rfl)
@[simp] theorem Ou.seq_rt {d : D} {μ : Store} {f : Env → Store → Ou} : (Ou.rt d μ).seq f = .rt d μ := (rfl)
@[simp] theorem Ou.seq_ex {e : D} {ρ : Env} {μ : Store} {f : Env → Store → Ou} : (Ou.ex e ρ μ).seq f = .ex e ρ μ := (rfl)
@[simp] theorem Ou.seq_no {f : Env → Store → Ou} : Ou.no.seq f = .no := (rfl)

/-! ### the store -/
def getL (μ : Store) (n : Nat) : Option (List D) := match μ[n]? with
  | some (.lst l) => some l
  | none => none
-- a value that is put under a name: its fresh lists are laid
mutual
def alloc : D → Store → D × Store
  | .tl l, μ => (.ref (allocs l μ).2.length, (allocs l μ).2 ++ [.lst (allocs l μ).1])
  | .tup l, μ => (.tup (allocs l μ).1, (allocs l μ).2)
  | d, μ => (d, μ)
def allocs : List D → Store → List D × Store
  | [], μ => ([], μ)
  | d :: ds, μ => ((alloc d μ).1 :: (allocs ds (alloc d μ).2).1, (allocs ds (alloc d μ).2).2)
end
/-- what is walked: the fresh lists in it are laid -/
def settle : D → Store → D × Store
  | .tl l, μ => (.tl (allocs l μ).1, (allocs l μ).2)
  | d, μ => alloc d μ
-- no fresh list stands in it
mutual
def D.still : D → Bool
  | .tl _ => false
  | .tup l => D.stills l
  | _ => true
def D.stills : List D → Bool
  | [] => true
  | d :: ds => D.still d && D.stills ds
end
-- all places in it are below n
mutual
def D.under (n : Nat) : D → Bool
  | .ref m => m < n
  | .tl l => D.unders n l
  | .tup l => D.unders n l
  | .fz l => D.unders n l
  | _ => true
def D.unders (n : Nat) : List D → Bool
  | [] => true
  | d :: ds => D.under n d && D.unders n ds
end
/-- lists that a call has made become fresh lists again; used: their places -/
def lift (n : Nat) (μ : Store) : Nat → D → Option (D × List Nat)
  | 0, _ => none
  | f + 1, .ref m => if m < n then some (.ref m, []) else match μ[m]? with
    | some (.lst l) => (l.mapM (lift n μ f)).map fun r => (.tl (r.map (·.1)), (r.map (·.2)).flatten ++ [m])
    | none => none
  | f + 1, .tup l => (l.mapM (lift n μ f)).map fun r => (.tup (r.map (·.1)), (r.map (·.2)).flatten)
  | _ + 1, .tl _ | _ + 1, .fz _ => none
  | _ + 1, d => some (d, [])

/-- the elder objects know of no new ones -/
def oldOk (μ : Store) (n : Nat) (μ' : Store) : Bool := (List.range n).all fun i => decide (μ'[i]? = μ[i]?) || match μ'[i]? with
  | some (.lst l) => D.unders n l
  | none => false
/-- a call's end -/
def fin (μ : Store) (d : D) (μ' : Store) : Rs D :=
  if oldOk μ μ.length μ' = true then
    if d.under μ.length = true then .ok d (μ'.take μ.length) else
      match lift μ.length μ' 100 d with
      | some (d', used) => if used.Nodup then .ok d' (μ'.take μ.length) else .ok d μ'
      | none => .ok d μ'
  else .ok d μ'

def finX (μ : Store) (e : D) (μ' : Store) : Rs D := if oldOk μ μ.length μ' = true then .ex e (μ'.take μ.length) else .ex e μ'
/-- a call: its fresh lists are laid first -/
def callA (call : String → List D → Store → Rs D) (f : String) (ds : List D) (μ : Store) : Rs D :=
  if D.stills ds = true then call f ds μ else match call f (allocs ds μ).1 (allocs ds μ).2 with
    | .ok d μ' => fin μ d μ'
    | .ex e μ' => finX μ e μ'
    | .no => .no

/-! ### operations on values -/
def truth (μ : Store) : D → Option Bool
  | .non => some false
  | .bl b => some b
  | .int i => some (i != 0)
  | .str s => some (!s.isEmpty)
  | .tup l => some (!l.isEmpty)
  | .tl l => some (!l.isEmpty)
  | .ref n => (getL μ n).map fun l => !l.isEmpty
  | .fz l => some (!l.isEmpty)
  | .fn _ => none
/-- the items of what may be walked -/
def items (μ : Store) : D → Option (List D)
  | .tup l => some l
  | .tl l => some l
  | .fz l => some l
  | .ref n => getL μ n
  | .str s => some (s.map fun c => .str [c])
  | _ => none
/-- what is walked stands as it stood -/
def srcOk (μ : Store) (s : D) (xs : List D) : Bool := match s with
  | .ref n => decide (getL μ n = some xs)
  | _ => true

/-- places of lists read: fresh lists stand for them -/
def rsv (μ : Store) : Nat → D → Option D
  | 0, _ => none
  | f + 1, .ref m => match getL μ m with
    | some l => (l.mapM (rsv μ f)).map .tl
    | none => none
  | f + 1, .tup l => (l.mapM (rsv μ f)).map .tup
  | f + 1, .tl l => (l.mapM (rsv μ f)).map .tl
  | _ + 1, .fn _ | _ + 1, .fz _ => none
  | _ + 1, d => some d
-- == of plain data
mutual
def peq : D → D → Bool
  | .non, .non => true
  | .bl a, .bl b => a == b
  | .bl a, .int j => (if a then 1 else 0) == j
  | .int i, .bl b => i == (if b then 1 else 0)
  | .int i, .int j => i == j
  | .str x, .str y => x == y
  | .tup xs, .tup ys => peqs xs ys
  | .tl xs, .tl ys => peqs xs ys
  | _, _ => false
def peqs : List D → List D → Bool
  | [], [] => true
  | x :: xs, y :: ys => peq x y && peqs xs ys
  | _, _ => false
end
-- no place, no function in it
mutual
def D.plain : D → Bool
  | .ref _ => false
  | .fn _ => false
  | .fz _ => false
  | .tup l => D.plains l
  | .tl l => D.plains l
  | _ => true
def D.plains : List D → Bool
  | [] => true
  | d :: ds => D.plain d && D.plains ds
end
mutual
def D.dep : D → Nat
  | .tup l => D.deps l + 1
  | .tl l => D.deps l + 1
  | _ => 0
def D.deps : List D → Nat
  | [] => 0
  | d :: ds => max (D.dep d) (D.deps ds)
end
def plainOf (μ : Store) (d : D) : Option D := if d.plain = true then some d else rsv μ 64 d
def eqD (μ : Store) (a b : D) : Option Bool := (plainOf μ a).bind fun x => (plainOf μ b).bind fun y => if x.dep ≤ 60 ∧ y.dep ≤ 60 then some (peq x y) else none

inductive BinK where
  | add | sub | mul | fdiv | mod | pow
  deriving DecidableEq, Repr
inductive CmpK where
  | eq | ne | lt | le | gt | ge | is | isnot | inn | notin
  deriving DecidableEq, Repr
def mulOk (i j : Int) : Bool := (decide (-(2 ^ 64) < i) && decide (i < 2 ^ 64)) || (decide (-(2 ^ 64) < j) && decide (j < 2 ^ 64))
def lists (μ : Store) : D → Option (List D)
  | .tl l => some l
  | .ref n => getL μ n
  | _ => none
def binop (μ : Store) : BinK → D → D → Option D
  | .add, .int i, .int j => some (.int (i + j))
  | .add, .str x, .str y => if x.length + y.length ≤ LIM then some (.str (x ++ y)) else none
  | .add, .tup x, .tup y => if x.length + y.length ≤ LIM then some (.tup (x ++ y)) else none
  | .sub, .int i, .int j => some (.int (i - j))
  | .mul, .int i, .int j => if mulOk i j = true then some (.int (i * j)) else none
  | .fdiv, .int i, .int j => if j ≠ 0 ∧ j.natAbs < 1073741824 then some (.int (i.fdiv j)) else none
  | .mod, .int i, .int j => if j ≠ 0 then some (.int (i.fmod j)) else none
  | .pow, .int i, .int j => if 0 ≤ j ∧ j ≤ 1000000 ∧ i.natAbs < 2 ^ 64 then some (.int (i ^ j.toNat)) else none
  | _, _, _ => none
/-- x op= y under a name -/
def augop : BinK → D → D → Option D
  | .add, .int i, .int j => some (.int (i + j))
  | .add, .str x, .str y => if x.length + y.length ≤ LIM then some (.str (x ++ y)) else none
  | .sub, .int i, .int j => some (.int (i - j))
  | .mul, .int i, .int j => if mulOk i j = true then some (.int (i * j)) else none
  | .fdiv, .int i, .int j => if 0 < j ∧ j < 1073741824 then some (.int (i / j)) else none
  | .mod, .int i, .int j => if 0 < j then some (.int (i % j)) else none
  | _, _, _ => none
def D.flat : D → Bool
  | .non | .bl _ | .int _ | .str _ => true
  | _ => false
/-- x in a row -/
def inRow (x : D) (l : List D) : Option Bool := if x.flat = true ∧ l.all D.flat = true then some (l.any fun y => peq y x) else none
def cmpop (μ : Store) : CmpK → D → D → Option Bool
  | .eq, x, y => eqD μ x y
  | .ne, x, y => (eqD μ x y).map (!·)
  | .lt, .int i, .int j => some (decide (i < j))
  | .le, .int i, .int j => some (decide (i ≤ j))
  | .gt, .int i, .int j => some (decide (j < i))
  | .ge, .int i, .int j => some (decide (j ≤ i))
  | .is, x, .non => some (decide (x = .non))
  | .isnot, x, .non => some (!decide (x = .non))
  | .inn, x, .tup l => inRow x l
  | .notin, x, .tup l => (inRow x l).map (!·)
  | _, _, _ => none
/-- the place that an index means -/
def ixNat (n : Nat) (i : Int) : Option Nat := if 0 ≤ i then (if i < n then some i.toNat else none) else if -(n : Int) ≤ i then some (i + n).toNat else none
def getIx (μ : Store) : D → D → Option D
  | .tup l, .int i => (ixNat l.length i).bind fun j => l[j]?
  | .tl l, .int i => (ixNat l.length i).bind fun j => l[j]?
  | .fz l, .int i => (ixNat l.length i).bind fun j => l[j]?
  | .ref n, .int i => (getL μ n).bind fun l => (ixNat l.length i).bind fun j => l[j]?
  | .str s, .int i => (ixNat s.length i).bind fun j => s[j]?.map fun c => .str [c]
  | _, _ => none
def setIx (μ : Store) : D → D → D → Option Store
  | .ref n, .int i, d => match μ[n]? with
    | some (.lst l) => (ixNat l.length i).map fun j => μ.set n (.lst (l.set j d))
    | none => none
  | _, _, _ => none

inductive Blt where
  | len | tuple | list | int | min | max | isinstance | sum | abs | all | any
  deriving DecidableEq, Repr
/-- built-in classes, by the names that isinstance asks for -/
inductive Cls where
  | int | bool | str | tuple | list
  deriving DecidableEq, Repr
def isOf (μ : Store) : Cls → D → Option Bool
  | .int, .int _ | .int, .bl _ => some true
  | .bool, .bl _ => some true
  | .str, .str _ => some true
  | .tuple, .tup _ => some true
  | .list, .tl _ | .list, .fz _ => some true
  | .list, .ref n => (getL μ n).map fun _ => true
  | _, .ref n => (getL μ n).map fun _ => false
  | _, .fn _ => none
  | _, _ => some false
def minI (i j : Int) : Int := if j < i then j else i
def intsOf : List D → Option (List Int)
  | [] => some []
  | .int i :: r => (intsOf r).map (i :: ·)
  | _ :: _ => none
def bltin (μ : Store) : Blt → List D → Option D
  | .len, [.str s] => some (.int s.length)
  | .len, [.tup l] => some (.int l.length)
  | .len, [.tl l] => some (.int l.length)
  | .len, [.fz l] => some (.int l.length)
  | .len, [.ref n] => (getL μ n).map fun l => .int l.length
  | .tuple, [.tup l] => some (.tup l)
  | .tuple, [.tl l] => some (.tup l)
  | .tuple, [.fz l] => some (.tup l)
  | .tuple, [.ref n] => (getL μ n).map .tup
  | .list, [.tup l] => some (.tl l)
  | .list, [.tl l] => some (.tl l)
  | .list, [.fz l] => some (.tl l)
  | .list, [.ref n] => (getL μ n).map .tl
  | .int, [.int i] => some (.int i)
  | .int, [.bl b] => some (.int (if b then 1 else 0))
  | .min, [.int i, .int j] => some (.int (if j < i then j else i))
  | .max, [.int i, .int j] => some (.int (if j > i then j else i))
  | _, _ => none
inductive Mth where
  | append
  deriving DecidableEq, Repr
def methop (μ : Store) : Mth → D → List D → Option (D × Store)
  | .append, .ref n, [d] => match μ[n]? with
    | some (.lst l) => if l.length < LIM then some (.non, (alloc d μ).2.set n (.lst (l ++ [(alloc d μ).1]))) else none
    | none => none
  | _, _, _ => none

/-- the method is there -/
def recvOk (μ : Store) : Mth → D → Bool
  | .append, .ref n => (getL μ n).isSome
  | _, _ => false

/-! ### the language -/
inductive Tg where
  | v (i : Nat)
  | t (l : List Tg)
mutual
inductive C where
  | lit (d : D) | var (i : Nat) | glo (x : String)
  | bin (op : BinK) (a b : C) | neg (a : C) | nt (a : C)
  | band (l : Cs) | bor (l : Cs) | ite (t a b : C)
  | cmp (op : CmpK) (a b : C) | cmp2 (op op' : CmpK) (a b c : C)
  | call (f : String) (l : Cs) | callv (i : Nat) (l : Cs)
  | blt (f : Blt) (l : Cs) | isi (a : C) (k : Cls) | meth (m : Mth) (o : C) (l : Cs)
  | tup (l : Cs) | lst (l : Cs)
  | ix (a i : C)
  | lc (e : C) (tg : Tg) (own : List (String × Nat)) (it : C) (ifs : Cs)
  | rng1 (a : C) | rng2 (a b : C) | lrng (t : Bool) (a : C)
inductive Cs where
  | nil | cons (c : C) (r : Cs)
end
mutual
inductive S where
  | expr (e : C) | set (t : Tg) (e : C) | aug (i : Nat) (op : BinK) (e : C) | seti (a i e : C)
  | ret (e : C) | ite (c : C) (a b : Ss) | wh (c : C) (b : Ss) | for_ (t : Tg) (it : C) (b : Ss)
  | brk | cont | pass
inductive Ss where
  | nil | cons (s : S) (r : Ss)
end

/-! ### the interpreter -/
mutual
def bindT : Tg → D → Env → Store → Option (Env × Store)
  | .v i, d, ρ, μ => some (ρ.set i (some (alloc d μ).1), (alloc d μ).2)
  | .t l, .tup ds, ρ, μ => bindTs l ds ρ μ
  | _, _, _, _ => none
def bindTs : List Tg → List D → Env → Store → Option (Env × Store)
  | [], [], ρ, μ => some (ρ, μ)
  | t :: ts, d :: ds, ρ, μ => (bindT t d ρ μ).bind fun p => bindTs ts ds p.1 p.2
  | _, _, _, _ => none
end
def wipeE (ρ : Env) : List (String × Nat) → Env
  | [] => ρ
  | p :: ps => (wipeE ρ ps).set p.2 none
/-- a list comprehension's turns -/
def lcGo (s : D) (xs : List D) (f : D → Store → Rs (Option D)) : List D → Store → List D → Rs D
  | [], μ, acc => if srcOk μ s xs = true then .ok (.tl acc) μ else .no
  | x :: r, μ, acc => if srcOk μ s xs = true then (match f x μ with
      | .ok (some d) μ' => if acc.length < LIM then lcGo s xs f r μ' (acc ++ [d]) else .no
      | .ok none μ' => lcGo s xs f r μ' acc
      | _ => .no)
    else .no
def forGo (s : D) (xs : List D) (f : D → Env → Store → Ou) : List D → Env → Store → Ou
  | [], ρ, μ => if srcOk μ s xs = true then .nx ρ μ else .no
  | x :: r, ρ, μ => if srcOk μ s xs = true then (match f x ρ μ with
      | .nx ρ' μ' => forGo s xs f r ρ' μ'
      | .ct ρ' μ' => forGo s xs f r ρ' μ'
      | .br ρ' μ' => .nx ρ' μ'
      | .rt d μ' => .rt d μ'
      | .ex e ρ' μ' => .ex e ρ' μ'
      | .no => .no)
    else .no
def whileM {σ τ : Type} (step : σ → Option (Sum σ τ)) (s : σ) : Option τ := do
  match ← step s with
  | .inl s' => whileM step s'
  | .inr r => some r
partial_fixpoint
def rngL (lo hi : Int) : List D := (List.range (hi - lo).toNat).map fun (i : Nat) => .int (lo + i)

section
variable (G : String → Option D) (call : String → List D → Store → Rs D)
mutual
def ev : C → Env → Store → Rs D
  | .lit d, _, μ => .ok d μ
  | .var i, ρ, μ => match ρ[i]? with
    | some (some d) => .ok d μ
    | _ => .no
  | .glo x, _, μ => Rs.of (G x) μ
  | .bin op a b, ρ, μ => (ev a ρ μ).bnd fun x μ => (ev b ρ μ).bnd fun y μ => Rs.of (binop μ op x y) μ
  | .neg a, ρ, μ => (ev a ρ μ).bnd fun x μ => match x with
    | .int i => .ok (.int (-i)) μ
    | _ => .no
  | .nt a, ρ, μ => (ev a ρ μ).bnd fun x μ => Rs.of ((truth μ x).map fun b => .bl (!b)) μ
  | .band l, ρ, μ => evAnd l ρ μ
  | .bor l, ρ, μ => evOr l ρ μ
  | .ite t a b, ρ, μ => (ev t ρ μ).bnd fun x μ => match truth μ x with
    | some true => ev a ρ μ
    | some false => ev b ρ μ
    | none => .no
  | .cmp op a b, ρ, μ => (ev a ρ μ).bnd fun x μ => (ev b ρ μ).bnd fun y μ => Rs.of ((cmpop μ op x y).map .bl) μ
  | .cmp2 op op' a b c, ρ, μ => (ev a ρ μ).bnd fun x μ => (ev b ρ μ).bnd fun y μ => match cmpop μ op x y with
    | some true => (ev c ρ μ).bnd fun z μ => Rs.of ((cmpop μ op' y z).map .bl) μ
    | some false => .ok (.bl false) μ
    | none => .no
  | .call f l, ρ, μ => (evs l ρ μ).bnd fun ds μ => callA call f ds μ
  | .callv i l, ρ, μ => match ρ[i]? with
    | some (some (.fn f)) => (evs l ρ μ).bnd fun ds μ => callA call f ds μ
    | _ => .no
  | .blt f l, ρ, μ => (evs l ρ μ).bnd fun ds μ => Rs.of (bltin μ f ds) μ
  | .isi a k, ρ, μ => (ev a ρ μ).bnd fun x μ => Rs.of ((isOf μ k x).map .bl) μ
  | .meth m o l, ρ, μ => (ev o ρ μ).bnd fun x μ => if recvOk μ m x = true then (evs l ρ μ).bnd fun ds μ => match methop μ m x ds with
      | some (d, μ') => .ok d μ'
      | none => .no
    else .no
  | .tup l, ρ, μ => (evs l ρ μ).bnd fun ds μ => .ok (.tup ds) μ
  | .lst l, ρ, μ => (evs l ρ μ).bnd fun ds μ => .ok (.tl ds) μ
  | .ix a i, ρ, μ => (ev a ρ μ).bnd fun x μ => (ev i ρ μ).bnd fun y μ => Rs.of (getIx μ x y) μ
  | .lc e tg own it ifs, ρ, μ => (ev it ρ μ).bnd fun s0 μ0 => match items (settle s0 μ0).2 (settle s0 μ0).1 with
    | some xs => lcGo (settle s0 μ0).1 xs (fun x μ => match bindT tg x (wipeE ρ own) μ with
      | some (ρ', μ) => (evIfs ifs ρ' μ).bnd fun b μ => if b = true then (ev e ρ' μ).bnd fun d μ => .ok (some d) μ else .ok none μ
      | none => .no) xs (settle s0 μ0).2 []
    | none => .no
  | .rng1 a, ρ, μ => (ev a ρ μ).bnd fun x μ => match x with
    | .int j => if -(2 ^ 62) ≤ j ∧ j < 2 ^ 62 then .ok (.tl (rngL 0 j)) μ else .no
    | _ => .no
  | .rng2 a b, ρ, μ => (ev a ρ μ).bnd fun x μ => (ev b ρ μ).bnd fun y μ => match x, y with
    | .int i, .int j => if (-(2 ^ 62) ≤ i ∧ i < 2 ^ 62) ∧ -(2 ^ 62) ≤ j ∧ j < 2 ^ 62 then .ok (.tl (rngL i j)) μ else .no
    | _, _ => .no
  | .lrng t a, ρ, μ => (ev a ρ μ).bnd fun x μ => match x with
    | .int j => if 0 ≤ j ∧ j ≤ LIM then .ok (if t = true then .tup (rngL 0 j) else .tl (rngL 0 j)) μ else .no
    | _ => .no
def evs : Cs → Env → Store → Rs (List D)
  | .nil, _, μ => .ok [] μ
  | .cons c r, ρ, μ => (ev c ρ μ).bnd fun d μ => (evs r ρ μ).bnd fun ds μ => .ok (d :: ds) μ
def evAnd : Cs → Env → Store → Rs D
  | .nil, _, _ => .no
  | .cons c r, ρ, μ => (ev c ρ μ).bnd fun x μ => match r with
    | .nil => .ok x μ
    | .cons .. => match truth μ x with
      | some true => evAnd r ρ μ
      | some false => .ok x μ
      | none => .no
def evOr : Cs → Env → Store → Rs D
  | .nil, _, _ => .no
  | .cons c r, ρ, μ => (ev c ρ μ).bnd fun x μ => match r with
    | .nil => .ok x μ
    | .cons .. => match truth μ x with
      | some true => .ok x μ
      | some false => evOr r ρ μ
      | none => .no
def evIfs : Cs → Env → Store → Rs Bool
  | .nil, _, μ => .ok true μ
  | .cons c r, ρ, μ => (ev c ρ μ).bnd fun x μ => match truth μ x with
    | some true => evIfs r ρ μ
    | some false => .ok false μ
    | none => .no
end
mutual
def exec : S → Env → Store → Ou
  | .expr e, ρ, μ => (ev G call e ρ μ).ou ρ fun _ μ => .nx ρ μ
  | .set t e, ρ, μ => (ev G call e ρ μ).ou ρ fun d μ => match bindT t d ρ μ with
    | some (ρ', μ') => .nx ρ' μ'
    | none => .no
  | .aug i op e, ρ, μ => match ρ[i]? with
    | some (some x) => (ev G call e ρ μ).ou ρ fun y μ => match augop op x y with
      | some z => match bindT (.v i) z ρ μ with
        | some (ρ', μ') => .nx ρ' μ'
        | none => .no
      | none => .no
    | _ => .no
  | .seti a i e, ρ, μ => (ev G call e ρ μ).ou ρ fun d μ => (ev G call a ρ μ).ou ρ fun x μ => (ev G call i ρ μ).ou ρ fun y μ =>
    match setIx (alloc d μ).2 x y (alloc d μ).1 with
    | some μ' => .nx ρ μ'
    | none => .no
  | .ret e, ρ, μ => (ev G call e ρ μ).ou ρ fun d μ => .rt d μ
  | .ite c a b, ρ, μ => (ev G call c ρ μ).ou ρ fun x μ => match truth μ x with
    | some true => execs a ρ μ
    | some false => execs b ρ μ
    | none => .no
  | .wh c b, ρ, μ => match whileM (fun (p : Env × Store) => match (ev G call c p.1 p.2).ou p.1 fun x μ => match truth μ x with
        | some true => (match execs b p.1 μ with
          | .nx ρ' μ' => .nx ρ' μ'
          | .ct ρ' μ' => .nx ρ' μ'
          | .br ρ' μ' => .br ρ' μ'
          | .rt d μ' => .rt d μ'
          | .ex e ρ' μ' => .ex e ρ' μ'
          | .no => .no)
        | some false => .br p.1 μ
        | none => .no with
      | .nx ρ' μ' => some (.inl (ρ', μ'))
      | .br ρ' μ' => some (.inr (.nx ρ' μ'))
      | .rt d μ' => some (.inr (.rt d μ'))
      | .ex e ρ' μ' => some (.inr (.ex e ρ' μ'))
      | .ct _ _ => none
      | .no => none) (ρ, μ) with
    | some o => o
    | none => .no
  | .for_ t it b, ρ, μ => (ev G call it ρ μ).ou ρ fun s0 μ0 => match items (settle s0 μ0).2 (settle s0 μ0).1 with
    | some xs => forGo (settle s0 μ0).1 xs (fun x ρ μ => match bindT t x ρ μ with
      | some (ρ', μ') => execs b ρ' μ'
      | none => .no) xs ρ (settle s0 μ0).2
    | none => .no
  | .brk, ρ, μ => .br ρ μ
  | .cont, ρ, μ => .ct ρ μ
  | .pass, ρ, μ => .nx ρ μ
def execs : Ss → Env → Store → Ou
  | .nil, ρ, μ => .nx ρ μ
  | .cons s r, ρ, μ => (exec s ρ μ).seq fun ρ μ => execs r ρ μ
end
end

/-! ### functions -/
structure Fn where
  name : String
  np : Nat
  names : List String
  body : Ss
structure Prog where
  fns : List Fn
  consts : List (String × D)
def Prog.fn (P : Prog) (f : String) : Option Fn := P.fns.find? fun x => x.name == f
def Prog.G (P : Prog) (x : String) : Option D := match P.consts.lookup x with
  | some d => some d
  | none => (P.fn x).map fun f => .fn f.name
def callN (P : Prog) : Nat → String → List D → Store → Rs D
  | 0, _, _, _ => .no
  | k + 1, f, args, μ => match P.fn f with
    | none => .no
    | some F => if args.length = F.np ∧ D.stills args = true then
        match execs P.G (callN P k) F.body (args.map some ++ List.replicate (F.names.length - F.np) none) μ with
        | .nx _ μ' => fin μ .non μ'
        | .rt d μ' => fin μ d μ'
        | .ex e _ μ' => finX μ e μ'
        | _ => .no
      else .no
end Mp
end SCore
section SStep
/-! Step: the interpreter's rules, one by one; what comes behind a part has a name, so that simp goes from the left. -/
namespace Mp
section
variable {G : String → Option D} {call : String → List D → Store → Rs D}
variable {ρ : Env} {μ : Store}

def kBinR (op : BinK) (x y : D) (μ : Store) : Rs D := Rs.of (binop μ op x y) μ
def kBinL (G : String → Option D) (call : String → List D → Store → Rs D) (op : BinK) (b : C) (ρ : Env) (x : D) (μ : Store) : Rs D := (ev G call b ρ μ).bnd (kBinR op x)
def kNeg (x : D) (μ : Store) : Rs D := match x with
  | .int i => .ok (.int (-i)) μ
  | _ => .no
def kNt (x : D) (μ : Store) : Rs D := Rs.of ((truth μ x).map fun b => .bl (!b)) μ
def kIte (G : String → Option D) (call : String → List D → Store → Rs D) (a b : C) (ρ : Env) (x : D) (μ : Store) : Rs D := match truth μ x with
  | some true => ev G call a ρ μ
  | some false => ev G call b ρ μ
  | none => .no
def kCmpR (op : CmpK) (x y : D) (μ : Store) : Rs D := Rs.of ((cmpop μ op x y).map .bl) μ
def kCmpL (G : String → Option D) (call : String → List D → Store → Rs D) (op : CmpK) (b : C) (ρ : Env) (x : D) (μ : Store) : Rs D := (ev G call b ρ μ).bnd (kCmpR op x)
def kCmp2R (G : String → Option D) (call : String → List D → Store → Rs D) (op op' : CmpK) (c : C) (ρ : Env) (x y : D) (μ : Store) : Rs D := match cmpop μ op x y with
  | some true => (ev G call c ρ μ).bnd (kCmpR op' y)
  | some false => .ok (.bl false) μ
  | none => .no
def kCmp2L (G : String → Option D) (call : String → List D → Store → Rs D) (op op' : CmpK) (b c : C) (ρ : Env) (x : D) (μ : Store) : Rs D := (ev G call b ρ μ).bnd (kCmp2R G call op op' c ρ x)
def kBlt (f : Blt) (ds : List D) (μ : Store) : Rs D := Rs.of (bltin μ f ds) μ
def kIsi (k : Cls) (x : D) (μ : Store) : Rs D := Rs.of ((isOf μ k x).map .bl) μ
def kMethR (m : Mth) (x : D) (ds : List D) (μ : Store) : Rs D := match methop μ m x ds with
  | some (d, μ') => .ok d μ'
  | none => .no
def kMethL (G : String → Option D) (call : String → List D → Store → Rs D) (m : Mth) (l : Cs) (ρ : Env) (x : D) (μ : Store) : Rs D := if recvOk μ m x = true then (evs G call l ρ μ).bnd (kMethR m x) else .no
def kTup (ds : List D) (μ : Store) : Rs D := .ok (.tup ds) μ
def kLst (ds : List D) (μ : Store) : Rs D := .ok (.tl ds) μ
def kIxR (x y : D) (μ : Store) : Rs D := Rs.of (getIx μ x y) μ
def kIxL (G : String → Option D) (call : String → List D → Store → Rs D) (i : C) (ρ : Env) (x : D) (μ : Store) : Rs D := (ev G call i ρ μ).bnd (kIxR x)
def kLcD (d : D) (μ : Store) : Rs (Option D) := .ok (some d) μ
def kLcI (G : String → Option D) (call : String → List D → Store → Rs D) (e : C) (ρ : Env) (b : Bool) (μ : Store) : Rs (Option D) := if b = true then (ev G call e ρ μ).bnd kLcD else .ok none μ
/-- a turn of a comprehension -/
def lcT (G : String → Option D) (call : String → List D → Store → Rs D) (e : C) (tg : Tg) (own : List (String × Nat)) (ifs : Cs) (ρ : Env) (x : D) (μ : Store) : Rs (Option D) := match bindT tg x (wipeE ρ own) μ with
  | some (ρ', μ) => (evIfs G call ifs ρ' μ).bnd (kLcI G call e ρ')
  | none => .no
def kLc (G : String → Option D) (call : String → List D → Store → Rs D) (e : C) (tg : Tg) (own : List (String × Nat)) (ifs : Cs) (ρ : Env) (s : D) (μ : Store) : Rs D := match items (settle s μ).2 (settle s μ).1 with
  | some xs => lcGo (settle s μ).1 xs (lcT G call e tg own ifs ρ) xs (settle s μ).2 []
  | none => .no
def kRng1 (x : D) (μ : Store) : Rs D := match x with
    | .int j => if -(2 ^ 62) ≤ j ∧ j < 2 ^ 62 then .ok (.tl (rngL 0 j)) μ else .no
    | _ => .no
def kRng2R (x y : D) (μ : Store) : Rs D := match x, y with
    | .int i, .int j => if (-(2 ^ 62) ≤ i ∧ i < 2 ^ 62) ∧ -(2 ^ 62) ≤ j ∧ j < 2 ^ 62 then .ok (.tl (rngL i j)) μ else .no
    | _, _ => .no
def kRng2L (G : String → Option D) (call : String → List D → Store → Rs D) (b : C) (ρ : Env) (x : D) (μ : Store) : Rs D := (ev G call b ρ μ).bnd (kRng2R x)
def kLrng (t : Bool) (x : D) (μ : Store) : Rs D := match x with
    | .int j => if 0 ≤ j ∧ j ≤ LIM then .ok (if t = true then .tup (rngL 0 j) else .tl (rngL 0 j)) μ else .no
    | _ => .no
def kConsR (d : D) (ds : List D) (μ : Store) : Rs (List D) := .ok (d :: ds) μ
def kConsL (G : String → Option D) (call : String → List D → Store → Rs D) (r : Cs) (ρ : Env) (d : D) (μ : Store) : Rs (List D) := (evs G call r ρ μ).bnd (kConsR d)
def kAnd (G : String → Option D) (call : String → List D → Store → Rs D) (r : Cs) (ρ : Env) (x : D) (μ : Store) : Rs D := match truth μ x with
      | some true => evAnd G call r ρ μ
      | some false => .ok x μ
      | none => .no
def kOr (G : String → Option D) (call : String → List D → Store → Rs D) (r : Cs) (ρ : Env) (x : D) (μ : Store) : Rs D := match truth μ x with
      | some true => .ok x μ
      | some false => evOr G call r ρ μ
      | none => .no
def kIfs (G : String → Option D) (call : String → List D → Store → Rs D) (r : Cs) (ρ : Env) (x : D) (μ : Store) : Rs Bool := match truth μ x with
    | some true => evIfs G call r ρ μ
    | some false => .ok false μ
    | none => .no

theorem ev_lit {d : D} : ev G call (.lit d) ρ μ = .ok d μ := (rfl)
theorem ev_var {i : Nat} {d : D} (h : ρ[i]? = some (some d)) : ev G call (.var i) ρ μ = .ok d μ := by simp only [ev, h]
theorem ev_glo {x : String} : ev G call (.glo x) ρ μ = Rs.of (G x) μ := (rfl)
theorem ev_bin {op : BinK} {a b : C} : ev G call (.bin op a b) ρ μ = (ev G call a ρ μ).bnd (kBinL G call op b ρ) := (rfl)
theorem ev_neg {a : C} : ev G call (.neg a) ρ μ = (ev G call a ρ μ).bnd kNeg := (rfl)
theorem ev_nt {a : C} : ev G call (.nt a) ρ μ = (ev G call a ρ μ).bnd kNt := (rfl)
theorem ev_band {l : Cs} : ev G call (.band l) ρ μ = evAnd G call l ρ μ := (rfl)
theorem ev_bor {l : Cs} : ev G call (.bor l) ρ μ = evOr G call l ρ μ := (rfl)
theorem ev_ite {t a b : C} : ev G call (.ite t a b) ρ μ = (ev G call t ρ μ).bnd (kIte G call a b ρ) := (rfl)
theorem ev_cmp {op : CmpK} {a b : C} : ev G call (.cmp op a b) ρ μ = (ev G call a ρ μ).bnd (kCmpL G call op b ρ) := (rfl)
theorem ev_cmp2 {op op' : CmpK} {a b c : C} : ev G call (.cmp2 op op' a b c) ρ μ = (ev G call a ρ μ).bnd (kCmp2L G call op op' b c ρ) := (rfl)
theorem ev_call {f : String} {l : Cs} : ev G call (.call f l) ρ μ = (evs G call l ρ μ).bnd (callA call f) := (rfl)
theorem ev_callv {i : Nat} {f : String} {l : Cs} (h : ρ[i]? = some (some (.fn f))) : ev G call (.callv i l) ρ μ = (evs G call l ρ μ).bnd (callA call f) := by
  simp only [ev, h]
theorem ev_blt {f : Blt} {l : Cs} : ev G call (.blt f l) ρ μ = (evs G call l ρ μ).bnd (kBlt f) := (rfl)
theorem ev_isi {a : C} {k : Cls} : ev G call (.isi a k) ρ μ = (ev G call a ρ μ).bnd (kIsi k) := (rfl)
theorem ev_meth {m : Mth} {o : C} {l : Cs} : ev G call (.meth m o l) ρ μ = (ev G call o ρ μ).bnd (kMethL G call m l ρ) := (rfl)
theorem ev_tup {l : Cs} : ev G call (.tup l) ρ μ = (evs G call l ρ μ).bnd kTup := (rfl)
theorem ev_lst {l : Cs} : ev G call (.lst l) ρ μ = (evs G call l ρ μ).bnd kLst := (rfl)
theorem ev_ix {a i : C} : ev G call (.ix a i) ρ μ = (ev G call a ρ μ).bnd (kIxL G call i ρ) := (rfl)
theorem ev_lc {e it : C} {tg : Tg} {own : List (String × Nat)} {ifs : Cs} : ev G call (.lc e tg own it ifs) ρ μ = (ev G call it ρ μ).bnd (kLc G call e tg own ifs ρ) := (rfl)
theorem ev_rng1 {a : C} : ev G call (.rng1 a) ρ μ = (ev G call a ρ μ).bnd kRng1 := (rfl)
theorem ev_rng2 {a b : C} : ev G call (.rng2 a b) ρ μ = (ev G call a ρ μ).bnd (kRng2L G call b ρ) := (rfl)
theorem ev_lrng {t : Bool} {a : C} : ev G call (.lrng t a) ρ μ = (ev G call a ρ μ).bnd (kLrng t) := (rfl)
theorem callA_still {f : String} {ds : List D} (h : D.stills ds = true) : callA call f ds μ = call f ds μ := by unfold callA; exact if_pos h
theorem evs_nil : evs G call .nil ρ μ = .ok [] μ := (rfl)
theorem evs_cons {c : C} {r : Cs} : evs G call (.cons c r) ρ μ = (ev G call c ρ μ).bnd (kConsL G call r ρ) := (rfl)
theorem bnd_ok_id {α : Type} (r : Rs α) : r.bnd (fun x μ => .ok x μ) = r := by cases r <;> rfl
theorem evAnd_one {c : C} : evAnd G call (.cons c .nil) ρ μ = ev G call c ρ μ := bnd_ok_id _
theorem evAnd_cons {c c' : C} {r : Cs} : evAnd G call (.cons c (.cons c' r)) ρ μ = (ev G call c ρ μ).bnd (kAnd G call (.cons c' r) ρ) := (rfl)
theorem evOr_one {c : C} : evOr G call (.cons c .nil) ρ μ = ev G call c ρ μ := bnd_ok_id _
theorem evOr_cons {c c' : C} {r : Cs} : evOr G call (.cons c (.cons c' r)) ρ μ = (ev G call c ρ μ).bnd (kOr G call (.cons c' r) ρ) := (rfl)
theorem evIfs_nil : evIfs G call .nil ρ μ = .ok true μ := (rfl)
theorem evIfs_cons {c : C} {r : Cs} : evIfs G call (.cons c r) ρ μ = (ev G call c ρ μ).bnd (kIfs G call r ρ) := (rfl)

theorem kBinL_eq {op : BinK} {b : C} {x : D} : kBinL G call op b ρ x μ = (ev G call b ρ μ).bnd (kBinR op x) := (rfl)
theorem kBinR_eq {op : BinK} {x y : D} : kBinR op x y μ = Rs.of (binop μ op x y) μ := (rfl)
theorem kNeg_int {i : Int} : kNeg (.int i) μ = .ok (.int (-i)) μ := (rfl)
theorem kNt_eq {x : D} : kNt x μ = Rs.of ((truth μ x).map fun b => .bl (!b)) μ := (rfl)
theorem kIte_bl {a b : C} {c : Bool} : kIte G call a b ρ (.bl c) μ = if c = true then ev G call a ρ μ else ev G call b ρ μ := by cases c <;> rfl
theorem kCmpL_eq {op : CmpK} {b : C} {x : D} : kCmpL G call op b ρ x μ = (ev G call b ρ μ).bnd (kCmpR op x) := (rfl)
theorem kCmpR_eq {op : CmpK} {x y : D} : kCmpR op x y μ = Rs.of ((cmpop μ op x y).map .bl) μ := (rfl)
theorem kCmp2L_eq {op op' : CmpK} {b c : C} {x : D} : kCmp2L G call op op' b c ρ x μ = (ev G call b ρ μ).bnd (kCmp2R G call op op' c ρ x) := (rfl)
theorem kCmp2R_some {op op' : CmpK} {c : C} {x y : D} {b : Bool} (h : cmpop μ op x y = some b) : kCmp2R G call op op' c ρ x y μ = if b = true then (ev G call c ρ μ).bnd (kCmpR op' y) else .ok (.bl false) μ := by
  unfold kCmp2R; rw [h]; cases b <;> rfl
theorem kBlt_eq {f : Blt} {ds : List D} : kBlt f ds μ = Rs.of (bltin μ f ds) μ := (rfl)
theorem kIsi_eq {k : Cls} {x : D} : kIsi k x μ = Rs.of ((isOf μ k x).map .bl) μ := (rfl)
theorem kMethL_eq {m : Mth} {l : Cs} {x : D} : kMethL G call m l ρ x μ = if recvOk μ m x = true then (evs G call l ρ μ).bnd (kMethR m x) else .no := (rfl)
theorem kTup_eq {ds : List D} : kTup ds μ = .ok (.tup ds) μ := (rfl)
theorem kLst_eq {ds : List D} : kLst ds μ = .ok (.tl ds) μ := (rfl)
theorem kIxL_eq {i : C} {x : D} : kIxL G call i ρ x μ = (ev G call i ρ μ).bnd (kIxR x) := (rfl)
theorem kIxR_eq {x y : D} : kIxR x y μ = Rs.of (getIx μ x y) μ := (rfl)
theorem kLcD_eq {d : D} : kLcD d μ = .ok (some d) μ := (rfl)
theorem kLcI_eq {e : C} {b : Bool} : kLcI G call e ρ b μ = if b = true then (ev G call e ρ μ).bnd kLcD else .ok none μ := (rfl)
theorem lcT_v {e : C} {i : Nat} {own : List (String × Nat)} {ifs : Cs} {x : D} : lcT G call e (.v i) own ifs ρ x μ =
    (evIfs G call ifs ((wipeE ρ own).set i (some (alloc x μ).1)) (alloc x μ).2).bnd (kLcI G call e ((wipeE ρ own).set i (some (alloc x μ).1))) := (rfl)
theorem kLc_some {e : C} {tg : Tg} {own : List (String × Nat)} {ifs : Cs} {s : D} {xs : List D} (hs : settle s μ = (s, μ)) (h : items μ s = some xs) : kLc G call e tg own ifs ρ s μ = lcGo s xs (lcT G call e tg own ifs ρ) xs μ [] := by
  unfold kLc; rw [hs]; simp only [h]
theorem kRng1_int {j : Int} (h : -(2 ^ 62) ≤ j ∧ j < 2 ^ 62) : kRng1 (.int j) μ = .ok (.tl (rngL 0 j)) μ := by unfold kRng1; exact if_pos h
theorem kRng2L_eq {b : C} {x : D} : kRng2L G call b ρ x μ = (ev G call b ρ μ).bnd (kRng2R x) := (rfl)
theorem kRng2R_int {i j : Int} (h : (-(2 ^ 62) ≤ i ∧ i < 2 ^ 62) ∧ -(2 ^ 62) ≤ j ∧ j < 2 ^ 62) : kRng2R (.int i) (.int j) μ = .ok (.tl (rngL i j)) μ := by unfold kRng2R; exact if_pos h
theorem kConsL_eq {r : Cs} {d : D} : kConsL G call r ρ d μ = (evs G call r ρ μ).bnd (kConsR d) := (rfl)
theorem kConsR_eq {d : D} {ds : List D} : kConsR d ds μ = .ok (d :: ds) μ := (rfl)
theorem kAnd_bl {r : Cs} {c : Bool} : kAnd G call r ρ (.bl c) μ = if c = true then evAnd G call r ρ μ else .ok (.bl false) μ := by cases c <;> rfl
theorem kOr_bl {r : Cs} {c : Bool} : kOr G call r ρ (.bl c) μ = if c = true then .ok (.bl true) μ else evOr G call r ρ μ := by cases c <;> rfl
theorem kIfs_bl {r : Cs} {c : Bool} : kIfs G call r ρ (.bl c) μ = if c = true then evIfs G call r ρ μ else .ok false μ := by cases c <;> rfl

/-! statements -/
def kExpr (ρ : Env) (x : D) (μ : Store) : Ou := .nx ρ μ
def kSet (t : Tg) (ρ : Env) (d : D) (μ : Store) : Ou := match bindT t d ρ μ with
  | some (ρ', μ') => .nx ρ' μ'
  | none => .no
def kAug (i : Nat) (op : BinK) (ρ : Env) (x y : D) (μ : Store) : Ou := match augop op x y with
  | some z => match bindT (.v i) z ρ μ with
    | some (ρ', μ') => .nx ρ' μ'
    | none => .no
  | none => .no
def kSeti3 (ρ : Env) (d x y : D) (μ : Store) : Ou := match setIx (alloc d μ).2 x y (alloc d μ).1 with
    | some μ' => .nx ρ μ'
    | none => .no
def kSeti2 (G : String → Option D) (call : String → List D → Store → Rs D) (i : C) (ρ : Env) (d x : D) (μ : Store) : Ou := (ev G call i ρ μ).ou ρ (kSeti3 ρ d x)
def kSeti1 (G : String → Option D) (call : String → List D → Store → Rs D) (a i : C) (ρ : Env) (d : D) (μ : Store) : Ou := (ev G call a ρ μ).ou ρ (kSeti2 G call i ρ d)
def kRet (d : D) (μ : Store) : Ou := .rt d μ
def kIf (G : String → Option D) (call : String → List D → Store → Rs D) (a b : Ss) (ρ : Env) (x : D) (μ : Store) : Ou := match truth μ x with
    | some true => execs G call a ρ μ
    | some false => execs G call b ρ μ
    | none => .no
/-- a turn of a for -/
def forT (G : String → Option D) (call : String → List D → Store → Rs D) (t : Tg) (b : Ss) (x : D) (ρ : Env) (μ : Store) : Ou := match bindT t x ρ μ with
      | some (ρ', μ') => execs G call b ρ' μ'
      | none => .no
def kFor (G : String → Option D) (call : String → List D → Store → Rs D) (t : Tg) (b : Ss) (ρ : Env) (s : D) (μ : Store) : Ou := match items (settle s μ).2 (settle s μ).1 with
    | some xs => forGo (settle s μ).1 xs (forT G call t b) xs ρ (settle s μ).2
    | none => .no
def kRest (G : String → Option D) (call : String → List D → Store → Rs D) (r : Ss) (ρ : Env) (μ : Store) : Ou := execs G call r ρ μ
/-- while: what a turn's test and body lead to -/
def kWhB (o : Ou) : Ou := match o with
          | .nx ρ' μ' => .nx ρ' μ'
          | .ct ρ' μ' => .nx ρ' μ'
          | .br ρ' μ' => .br ρ' μ'
          | .rt d μ' => .rt d μ'
          | .ex e ρ' μ' => .ex e ρ' μ'
          | .no => .no
def kWhT (G : String → Option D) (call : String → List D → Store → Rs D) (b : Ss) (ρ : Env) (x : D) (μ : Store) : Ou := match truth μ x with
        | some true => kWhB (execs G call b ρ μ)
        | some false => .br ρ μ
        | none => .no
def whS (o : Ou) : Option (Sum (Env × Store) Ou) := match o with
      | .nx ρ' μ' => some (.inl (ρ', μ'))
      | .br ρ' μ' => some (.inr (.nx ρ' μ'))
      | .rt d μ' => some (.inr (.rt d μ'))
      | .ex e ρ' μ' => some (.inr (.ex e ρ' μ'))
      | .ct _ _ => none
      | .no => none
def whO (o : Option Ou) : Ou := match o with
    | some o => o
    | none => .no
def whGo (G : String → Option D) (call : String → List D → Store → Rs D) (c : C) (b : Ss) (p : Env × Store) : Option Ou :=
  whileM (fun (p : Env × Store) => whS ((ev G call c p.1 p.2).ou p.1 (kWhT G call b p.1))) p

theorem execs_nil : execs G call .nil ρ μ = .nx ρ μ := (rfl)
theorem execs_cons {s : S} {r : Ss} : execs G call (.cons s r) ρ μ = (exec G call s ρ μ).seq (kRest G call r) := (rfl)
theorem kRest_eq {r : Ss} : kRest G call r ρ μ = execs G call r ρ μ := (rfl)
theorem exec_expr {e : C} : exec G call (.expr e) ρ μ = (ev G call e ρ μ).ou ρ (kExpr ρ) := (rfl)
theorem exec_set {t : Tg} {e : C} : exec G call (.set t e) ρ μ = (ev G call e ρ μ).ou ρ (kSet t ρ) := (rfl)
theorem exec_aug {i : Nat} {op : BinK} {e : C} {x : D} (h : ρ[i]? = some (some x)) : exec G call (.aug i op e) ρ μ = (ev G call e ρ μ).ou ρ (kAug i op ρ x) := by
  simp only [exec, h]; rfl
theorem exec_seti {a i e : C} : exec G call (.seti a i e) ρ μ = (ev G call e ρ μ).ou ρ (kSeti1 G call a i ρ) := (rfl)
theorem exec_ret {e : C} : exec G call (.ret e) ρ μ = (ev G call e ρ μ).ou ρ kRet := (rfl)
theorem exec_ite {c : C} {a b : Ss} : exec G call (.ite c a b) ρ μ = (ev G call c ρ μ).ou ρ (kIf G call a b ρ) := (rfl)
theorem exec_wh {c : C} {b : Ss} : exec G call (.wh c b) ρ μ = whO (whGo G call c b (ρ, μ)) := (rfl)
theorem exec_for {t : Tg} {it : C} {b : Ss} : exec G call (.for_ t it b) ρ μ = (ev G call it ρ μ).ou ρ (kFor G call t b ρ) := (rfl)
theorem exec_brk : exec G call .brk ρ μ = .br ρ μ := (rfl)
theorem exec_cont : exec G call .cont ρ μ = .ct ρ μ := (rfl)
theorem exec_pass : exec G call .pass ρ μ = .nx ρ μ := (rfl)
theorem kExpr_eq {x : D} : kExpr ρ x μ = .nx ρ μ := (rfl)
theorem kSet_v {i : Nat} {d : D} : kSet (.v i) ρ d μ = .nx (ρ.set i (some (alloc d μ).1)) (alloc d μ).2 := (rfl)
theorem kSet_t {l : List Tg} {ds : List D} : kSet (.t l) ρ (.tup ds) μ = match bindTs l ds ρ μ with
  | some (ρ', μ') => .nx ρ' μ'
  | none => .no := (rfl)
theorem bindT_v {i : Nat} {d : D} : bindT (.v i) d ρ μ = some (ρ.set i (some (alloc d μ).1), (alloc d μ).2) := (rfl)
theorem bindT_t {l : List Tg} {ds : List D} : bindT (.t l) (.tup ds) ρ μ = bindTs l ds ρ μ := (rfl)
theorem bindTs_nil : bindTs [] [] ρ μ = some (ρ, μ) := (rfl)
theorem bindTs_cons {t : Tg} {ts : List Tg} {d : D} {ds : List D} : bindTs (t :: ts) (d :: ds) ρ μ = (bindT t d ρ μ).bind fun p => bindTs ts ds p.1 p.2 := (rfl)
theorem kAug_eq {i : Nat} {op : BinK} {x y z : D} (h : augop op x y = some z) : kAug i op ρ x y μ = .nx (ρ.set i (some (alloc z μ).1)) (alloc z μ).2 := by
  unfold kAug; rw [h]; rfl
theorem kSeti1_eq {a i : C} {d : D} : kSeti1 G call a i ρ d μ = (ev G call a ρ μ).ou ρ (kSeti2 G call i ρ d) := (rfl)
theorem kSeti2_eq {i : C} {d x : D} : kSeti2 G call i ρ d x μ = (ev G call i ρ μ).ou ρ (kSeti3 ρ d x) := (rfl)
theorem kSeti3_eq {d x y : D} : kSeti3 ρ d x y μ = match setIx (alloc d μ).2 x y (alloc d μ).1 with
    | some μ' => .nx ρ μ'
    | none => .no := (rfl)
theorem kRet_eq {d : D} : kRet d μ = .rt d μ := (rfl)
theorem kIf_bl {a b : Ss} {c : Bool} : kIf G call a b ρ (.bl c) μ = if c = true then execs G call a ρ μ else execs G call b ρ μ := by cases c <;> rfl
theorem kFor_some {t : Tg} {b : Ss} {s : D} {xs : List D} (hs : settle s μ = (s, μ)) (h : items μ s = some xs) : kFor G call t b ρ s μ = forGo s xs (forT G call t b) xs ρ μ := by unfold kFor; rw [hs]; simp only [h]
theorem forT_eq {t : Tg} {b : Ss} {x : D} : forT G call t b x ρ μ = match bindT t x ρ μ with
      | some (ρ', μ') => execs G call b ρ' μ'
      | none => .no := (rfl)
theorem kWhT_bl {b : Ss} {c : Bool} : kWhT G call b ρ (.bl c) μ = if c = true then kWhB (execs G call b ρ μ) else .br ρ μ := by cases c <;> rfl
theorem whGo_eq {c : C} {b : Ss} {p : Env × Store} : whGo G call c b p = match whS ((ev G call c p.1 p.2).ou p.1 (kWhT G call b p.1)) with
    | some (.inl p') => whGo G call c b p'
    | some (.inr o) => some o
    | none => none := by
  unfold whGo
  conv => lhs; unfold whileM
  show (whS _ >>= _) = _
  cases whS ((ev G call c p.1 p.2).ou p.1 (kWhT G call b p.1)) with
  | none => rfl
  | some r => cases r <;> rfl
end
end Mp
end SStep
section SSim
/-! Sim: the interpreter's run by simp alone. -/
namespace Mp
section
variable {G : String → Option D} {call : String → List D → Store → Rs D} {ρ : Env} {μ : Store}
def kVar (o : Option (Option D)) (μ : Store) : Rs D := match o with
  | some (some d) => .ok d μ
  | _ => .no
theorem ev_varS {i : Nat} : ev G call (.var i) ρ μ = kVar ρ[i]? μ := by
  cases h : ρ[i]? with
  | none => simp only [ev, kVar, h]
  | some o => cases o <;> simp only [ev, kVar, h]
theorem kVar_some {d : D} : kVar (some (some d)) μ = .ok d μ := (rfl)
def kAugV (G : String → Option D) (call : String → List D → Store → Rs D) (i : Nat) (op : BinK) (e : C) (ρ : Env) (o : Option (Option D)) (μ : Store) : Ou := match o with
  | some (some x) => (ev G call e ρ μ).ou ρ (kAug i op ρ x)
  | _ => .no
theorem exec_augS {i : Nat} {op : BinK} {e : C} : exec G call (.aug i op e) ρ μ = kAugV G call i op e ρ ρ[i]? μ := by
  unfold kAugV
  split
  · rename_i h; exact exec_aug h
  · rename_i h
    cases h' : ρ[i]? with
    | none => simp only [exec, h']
    | some o =>
      cases o with
      | none => simp only [exec, h']
      | some x => exact absurd h' (h x)
theorem kAugV_some {i : Nat} {op : BinK} {e : C} {x : D} : kAugV G call i op e ρ (some (some x)) μ = (ev G call e ρ μ).ou ρ (kAug i op ρ x) := (rfl)
def kAugS (i : Nat) (ρ : Env) (o : Option D) (μ : Store) : Ou := match o with
  | some z => .nx (ρ.set i (some (alloc z μ).1)) (alloc z μ).2
  | none => .no
theorem kAug_eqS {i : Nat} {op : BinK} {x y : D} : kAug i op ρ x y μ = kAugS i ρ (augop op x y) μ := by
  unfold kAug kAugS
  cases augop op x y <;> rfl
theorem kAugS_some {i : Nat} {z : D} : kAugS i ρ (some z) μ = .nx (ρ.set i (some (alloc z μ).1)) (alloc z μ).2 := (rfl)
def kBnd (o : Option (Env × Store)) : Ou := match o with
  | some (ρ', μ') => .nx ρ' μ'
  | none => .no
theorem kSet_tS {l : List Tg} {ds : List D} : kSet (.t l) ρ (.tup ds) μ = kBnd (bindTs l ds ρ μ) := (rfl)
theorem kBnd_some {ρ' : Env} {μ' : Store} : kBnd (some (ρ', μ')) = .nx ρ' μ' := (rfl)
def kSetS (ρ : Env) (o : Option Store) : Ou := match o with
  | some μ' => .nx ρ μ'
  | none => .no
theorem kSeti3_eqS {d x y : D} : kSeti3 ρ d x y μ = kSetS ρ (setIx (alloc d μ).2 x y (alloc d μ).1) := (rfl)
theorem kSetS_some : kSetS ρ (some μ) = .nx ρ μ := (rfl)
def kForI (G : String → Option D) (call : String → List D → Store → Rs D) (t : Tg) (b : Ss) (ρ : Env) (s : D) (o : Option (List D)) (μ : Store) : Ou := match o with
  | some xs => forGo s xs (forT G call t b) xs ρ μ
  | none => .no
theorem kFor_eqS {t : Tg} {b : Ss} {s : D} : kFor G call t b ρ s μ = kForI G call t b ρ (settle s μ).1 (items (settle s μ).2 (settle s μ).1) (settle s μ).2 := (rfl)
theorem kForI_some {t : Tg} {b : Ss} {s : D} {xs : List D} : kForI G call t b ρ s (some xs) μ = forGo s xs (forT G call t b) xs ρ μ := (rfl)
def kLcX (G : String → Option D) (call : String → List D → Store → Rs D) (e : C) (tg : Tg) (own : List (String × Nat)) (ifs : Cs) (ρ : Env) (s : D) (o : Option (List D)) (μ : Store) : Rs D := match o with
  | some xs => lcGo s xs (lcT G call e tg own ifs ρ) xs μ []
  | none => .no
theorem kLc_eqS {e : C} {tg : Tg} {own : List (String × Nat)} {ifs : Cs} {s : D} : kLc G call e tg own ifs ρ s μ = kLcX G call e tg own ifs ρ (settle s μ).1 (items (settle s μ).2 (settle s μ).1) (settle s μ).2 := (rfl)
theorem kLcX_some {e : C} {tg : Tg} {own : List (String × Nat)} {ifs : Cs} {s : D} {xs : List D} : kLcX G call e tg own ifs ρ s (some xs) μ = lcGo s xs (lcT G call e tg own ifs ρ) xs μ [] := (rfl)
def kForT (G : String → Option D) (call : String → List D → Store → Rs D) (b : Ss) (o : Option (Env × Store)) : Ou := match o with
  | some (ρ', μ') => execs G call b ρ' μ'
  | none => .no
theorem forT_eqS {t : Tg} {b : Ss} {x : D} : forT G call t b x ρ μ = kForT G call b (bindT t x ρ μ) := (rfl)
theorem kForT_some {b : Ss} {ρ' : Env} {μ' : Store} : kForT G call b (some (ρ', μ')) = execs G call b ρ' μ' := (rfl)
structure OkB (j : Int) : Prop where
  h : -(2 ^ 62) ≤ j ∧ j < 2 ^ 62
theorem okB_of {j : Int} (h1 : -1000000000 ≤ j) (h2 : j ≤ 1000000000) : OkB j := ⟨by omega, by omega⟩
theorem kRng1_intS {j : Int} (h : OkB j) : kRng1 (.int j) μ = .ok (.tl (rngL 0 j)) μ := kRng1_int h.h
theorem kRng2R_intS {i j : Int} (h : OkB i) (h' : OkB j) : kRng2R (.int i) (.int j) μ = .ok (.tl (rngL i j)) μ := kRng2R_int ⟨h.h, h'.h⟩
theorem kLrng_int {t : Bool} {j : Int} : kLrng t (.int j) μ = if 0 ≤ j ∧ j ≤ LIM then .ok (if t = true then .tup (rngL 0 j) else .tl (rngL 0 j)) μ else .no := (rfl)
def kMthS (o : Option (D × Store)) : Rs D := match o with
  | some (d, μ') => .ok d μ'
  | none => .no
theorem kMethR_eqS {m : Mth} {x : D} {ds : List D} : kMethR m x ds μ = kMthS (methop μ m x ds) := (rfl)
theorem kMthS_some {d : D} : kMthS (some (d, μ)) = .ok d μ := (rfl)
theorem kCmp2R_eqS {op op' : CmpK} {c : C} {x y : D} : kCmp2R G call op op' c ρ x y μ = match cmpop μ op x y with
  | some true => (ev G call c ρ μ).bnd (kCmpR op' y)
  | some false => .ok (.bl false) μ
  | none => .no := (rfl)
/-- a call's body and its end -/
def endC (μ : Store) (o : Ou) : Rs D := match o with
  | .nx _ μ' => fin μ .non μ'
  | .rt d μ' => fin μ d μ'
  | .ex e _ μ' => finX μ e μ'
  | _ => .no
theorem callN_eq {P : Prog} {k : Nat} {f : String} {args : List D} {F : Fn} (h : P.fn f = some F) (hn : args.length = F.np) (hs : D.stills args = true) :
    callN P (k + 1) f args μ = endC μ (execs P.G (callN P k) F.body (args.map some ++ List.replicate (F.names.length - F.np) none) μ) := by
  rw [callN, h]
  simp only
  rw [if_pos ⟨hn, hs⟩]
  rfl
theorem endC_rt {d : D} {μ' : Store} : endC μ (.rt d μ') = fin μ d μ' := (rfl)
theorem endC_nx {μ' : Store} : endC μ (.nx ρ μ') = fin μ .non μ' := (rfl)
theorem set_same {μ : Store} {r : Nat} {o : Obj} (h : μ[r]? = some o) : μ.set r o = μ := by
  apply List.ext_getElem?
  intro i
  by_cases hi : r = i
  · subst hi
    rw [List.getElem?_set_self (List.getElem?_eq_some_iff.mp h).1, h]
  · rw [List.getElem?_set_ne hi]
/-- a call that writes nothing and gives nothing new -/
theorem fin_same {d : D} (h : d.under μ.length = true) : fin μ d μ = .ok d μ := by
  have h1 : oldOk μ μ.length μ = true := by
    unfold oldOk
    rw [List.all_eq_true]
    intro i _
    simp
  unfold fin
  rw [if_pos h1, if_pos h, List.take_length]
/-- .. with objects of its own -/
theorem fin_app {d : D} {N : Store} (h : d.under μ.length = true) : fin μ d (μ ++ N) = .ok d μ := by
  have h1 : oldOk μ μ.length (μ ++ N) = true := by
    unfold oldOk
    rw [List.all_eq_true]
    intro i hi
    rw [List.getElem?_append_left (List.mem_range.mp hi)]
    simp
  unfold fin
  rw [if_pos h1, if_pos h, List.take_append_of_le_length (Nat.le_refl _), List.take_length]
/-- .. that writes one elder object -/
theorem fin_set {d : D} {r : Nat} {l : List D} {N : Store} (h : d.under μ.length = true) (hl : D.unders μ.length l = true) : fin μ d (μ.set r (.lst l) ++ N) = .ok d (μ.set r (.lst l)) := by
  have hlen : (μ.set r (.lst l)).length = μ.length := by simp
  have h1 : oldOk μ μ.length (μ.set r (.lst l) ++ N) = true := by
    unfold oldOk
    rw [List.all_eq_true]
    intro i hi
    have hi := List.mem_range.mp hi
    rw [List.getElem?_append_left (by rw [hlen]; exact hi)]
    by_cases hr : r = i
    · subst hr
      rw [List.getElem?_set_self hi]
      simp [hl]
    · rw [List.getElem?_set_ne hr]; simp
  unfold fin
  rw [if_pos h1, if_pos h, List.take_append_of_le_length (by rw [hlen]; exact Nat.le_refl _), ← hlen, List.take_length]
theorem fin_set0 {d : D} {r : Nat} {l : List D} (h : d.under μ.length = true) (hl : D.unders μ.length l = true) : fin μ d (μ.set r (.lst l)) = .ok d (μ.set r (.lst l)) := by
  have := fin_set (μ := μ) (N := []) (r := r) h hl
  rwa [List.append_nil] at this
theorem getL_set_ne {μ : Store} {r r0 : Nat} {o : Obj} (h : r0 ≠ r) : getL (μ.set r o) r0 = getL μ r0 := by
  unfold getL
  rw [List.getElem?_set_ne (Ne.symm h)]
theorem getL_of {μ : Store} {r : Nat} {l : List D} (h : μ[r]? = some (.lst l)) : getL μ r = some l := by
  unfold getL; rw [h]
theorem of_getL {μ : Store} {r : Nat} {l : List D} (h : getL μ r = some l) : μ[r]? = some (.lst l) := by
  unfold getL at h
  split at h
  · cases h; assumption
  · cases h
theorem lt_of_get {μ : Store} {r : Nat} {o : Obj} (h : μ[r]? = some o) : r < μ.length := (List.getElem?_eq_some_iff.mp h).1
theorem stills_ints : ∀ l : List Int, D.stills (l.map D.int) = true
  | [] => rfl
  | i :: l => by simp [D.stills, D.still, stills_ints l]
theorem unders_ints {n : Nat} : ∀ l : List Int, D.unders n (l.map D.int) = true
  | [] => rfl
  | i :: l => by simp [D.unders, D.under, unders_ints l]
theorem allocs_ints {μ : Store} : ∀ l : List Int, allocs (l.map D.int) μ = (l.map D.int, μ)
  | [] => rfl
  | i :: l => by simp [allocs, alloc, allocs_ints l]
theorem alloc_tupI {l : List Int} {μ : Store} : alloc (.tup (l.map D.int)) μ = (.tup (l.map D.int), μ) := by simp [alloc, allocs_ints]
theorem ixNat_nat {n j : Nat} (h : j < n) : ixNat n (j : Int) = some j := by
  unfold ixNat
  rw [if_pos (by omega), if_pos (by omega)]
  simp
theorem ixNat_int {n : Nat} {i : Int} (h0 : 0 ≤ i) (h : i < n) : ixNat n i = some i.toNat := by
  unfold ixNat
  rw [if_pos h0, if_pos h]
theorem eqD_int {i j : Int} : eqD μ (.int i) (.int j) = some (decide (i = j)) := by
  have h : eqD μ (.int i) (.int j) = if (D.int i).dep ≤ 60 ∧ (D.int j).dep ≤ 60 then some (peq (.int i) (.int j)) else none := (rfl)
  rw [h, if_pos ⟨Nat.zero_le _, Nat.zero_le _⟩]
  rfl
theorem getL_setS {r : Nat} {l : List D} (h : r < μ.length) : getL (μ.set r (.lst l)) r = some l := by
  unfold getL; rw [List.getElem?_set_self h]
def kSetI (μ : Store) (n : Nat) (i : Int) (d : D) (o : Option Obj) : Option Store := match o with
  | some (.lst l) => (ixNat l.length i).map fun j => μ.set n (.lst (l.set j d))
  | none => none
theorem setIx_eqS {n : Nat} {i : Int} {d : D} : setIx μ (.ref n) (.int i) d = kSetI μ n i d μ[n]? := (rfl)
theorem kSetI_some {n : Nat} {i : Int} {d : D} {l : List D} : kSetI μ n i d (some (.lst l)) = (ixNat l.length i).map fun j => μ.set n (.lst (l.set j d)) := (rfl)
def kApp (μ : Store) (n : Nat) (d : D) (o : Option Obj) : Option (D × Store) := match o with
  | some (.lst l) => if l.length < LIM then some (.non, (alloc d μ).2.set n (.lst (l ++ [(alloc d μ).1]))) else none
  | none => none
theorem methop_eqS {n : Nat} {d : D} : methop μ .append (.ref n) [d] = kApp μ n d μ[n]? := (rfl)
theorem kApp_some {n : Nat} {d : D} {l : List D} : kApp μ n d (some (.lst l)) = if l.length < LIM then some (.non, (alloc d μ).2.set n (.lst (l ++ [(alloc d μ).1]))) else none := (rfl)
theorem recvOk_eqS {n : Nat} : recvOk μ .append (.ref n) = (getL μ n).isSome := (rfl)
theorem get_last {o : Obj} : (μ ++ [o])[μ.length]? = some o := by simp
theorem getL_last {l : List D} : getL (μ ++ [.lst l]) μ.length = some l := getL_of get_last
theorem set_last {o o' : Obj} : (μ ++ [o]).set μ.length o' = μ ++ [o'] := by simp
theorem getL_last2 {l : List D} {r : Nat} {o : Obj} : getL (μ.set r o ++ [.lst l]) μ.length = some l := by
  have := getL_last (μ := μ.set r o) (l := l)
  rwa [List.length_set] at this
theorem get_last2 {o' : Obj} {r : Nat} {o : Obj} : (μ.set r o ++ [o'])[μ.length]? = some o' := by
  have := get_last (μ := μ.set r o) (o := o')
  rwa [List.length_set] at this
theorem set_last2 {o' o'' : Obj} {r : Nat} {o : Obj} : (μ.set r o ++ [o']).set μ.length o'' = μ.set r o ++ [o''] := by
  have := set_last (μ := μ.set r o) (o := o') (o' := o'')
  rwa [List.length_set] at this
theorem set_app {r : Nat} {o : Obj} {N : Store} (h : r < μ.length) : (μ ++ N).set r o = μ.set r o ++ N := List.set_append_left r o h
theorem eqD_bl {a b : Bool} : eqD μ (.bl a) (.bl b) = some (a == b) := by
  have h : eqD μ (.bl a) (.bl b) = if (D.bl a).dep ≤ 60 ∧ (D.bl b).dep ≤ 60 then some (peq (.bl a) (.bl b)) else none := (rfl)
  rw [h, if_pos ⟨Nat.zero_le _, Nat.zero_le _⟩]
  rfl
theorem plains_ints : ∀ l : List Int, D.plains (l.map D.int) = true
  | [] => rfl
  | i :: l => by simp [D.plains, D.plain, plains_ints l]
theorem deps_ints : ∀ l : List Int, D.deps (l.map D.int) = 0
  | [] => rfl
  | i :: l => by simp [D.deps, D.dep, deps_ints l]
theorem peqs_ints : ∀ l m : List Int, peqs (l.map D.int) (m.map D.int) = decide (l = m)
  | [], [] => rfl
  | [], _ :: _ => rfl
  | _ :: _, [] => rfl
  | i :: l, j :: m => by
    simp only [List.map_cons, peqs, peq, peqs_ints l m]
    by_cases h : i = j <;> by_cases h2 : l = m <;> simp [h, h2]
theorem eqD_tupI (l m : List Int) : eqD μ (.tup (l.map D.int)) (.tup (m.map D.int)) = some (decide (l = m)) := by
  unfold eqD plainOf
  rw [if_pos (by simp [D.plain, plains_ints]), if_pos (by simp [D.plain, plains_ints])]
  simp only [Option.bind_some]
  rw [if_pos (by simp [D.dep, deps_ints])]
  simp [peq, peqs_ints]
theorem rngL_ints (lo hi : Int) : rngL lo hi = ((List.range (hi - lo).toNat).map fun (i : Nat) => lo + (i : Int)).map D.int := by
  simp [rngL]
theorem allocs_rngL {lo hi : Int} : allocs (rngL lo hi) μ = (rngL lo hi, μ) := by rw [rngL_ints]; exact allocs_ints _
theorem length_rngL {lo hi : Int} : (rngL lo hi).length = (hi - lo).toNat := by simp [rngL]
theorem bool_beq_self (b : Bool) : (b == b) = true := by cases b <;> rfl
theorem kWhB_nx : kWhB (.nx ρ μ) = .nx ρ μ := (rfl)
theorem kWhB_ct : kWhB (.ct ρ μ) = .nx ρ μ := (rfl)
theorem kWhB_br : kWhB (.br ρ μ) = .br ρ μ := (rfl)
theorem kWhB_rt {d : D} : kWhB (.rt d μ) = .rt d μ := (rfl)
theorem whS_nx : whS (.nx ρ μ) = some (.inl (ρ, μ)) := (rfl)
theorem whS_br : whS (.br ρ μ) = some (.inr (.nx ρ μ)) := (rfl)
theorem whS_rt {d : D} : whS (.rt d μ) = some (.inr (.rt d μ)) := (rfl)
def Ss.hd : Ss → S
  | .cons s _ => s
  | .nil => .pass
def S.cnd : S → C
  | .wh c _ => c
  | .ite c _ _ => c
  | _ => .lit .non
def S.bod : S → Ss
  | .wh _ b => b
  | .for_ _ _ b => b
  | .ite _ b _ => b
  | _ => .nil
def Ss.tl : Ss → Ss
  | .cons _ r => r
  | .nil => .nil
theorem minI_eq {i j : Int} : (if j < i then j else i) = min i j := by
  rw [Int.min_def]; split <;> split <;> omega
end
end Mp
end SSim
section SSnd1
/-! Snd1: how the machine's values and heap bear the interpreter's data and store. -/
namespace Mp
open PySem PySem.Spec PyProof.Rows L2

/-- a text's codes are codes, and not too many -/
def okS (s : List Nat) : Bool := decide (s.length ≤ LIM) && s.all fun c => decide (c < 1114112)
def toS (s : List Nat) : Str := ⟨s.toArray⟩

mutual
/-- the value v is the datum d; F: where its fresh lists stand -/
inductive Rep (K : PySem.W.Frag) (fa : String → Option Addr) (H : Hp) (A : List Addr) : V → D → List Addr → Prop
  | non : Rep K fa H A .non .non []
  | bl (b : Bool) : Rep K fa H A (.bl b) (.bl b) []
  | int (i : Int) : Rep K fa H A (.int i) (.int i) []
  | str (s : List Nat) (h : okS s = true) : Rep K fa H A (.str (toS s)) (.str s) []
  | fn {x : String} {a : Addr} (h : fa x = some a) : Rep K fa H A (.ref a) (.fn x) []
  | fz {a : Addr} {vs : List V} {l : List D} (h : SqL K H a vs) (hp : (∃ o, H a = some (.frz o (.lst vs))) ∨ ∀ H', SqL K H' a vs) (r : Reps K fa H A vs l []) : Rep K fa H A (.ref a) (.fz l) []
  | ref {n : Nat} {a : Addr} (h : A[n]? = some a) : Rep K fa H A (.ref a) (.ref n) []
  | tup {a : Addr} {vs : List V} {l : List D} {F : List Addr} (h : SqT K H a vs) (r : Reps K fa H A vs l F) : Rep K fa H A (.ref a) (.tup l) F
  | tl {a : Addr} {vs : List V} {l : List D} {F : List Addr} (h : H a = some (.lst vs)) (r : Reps K fa H A vs l F) : Rep K fa H A (.ref a) (.tl l) (F ++ [a])
inductive Reps (K : PySem.W.Frag) (fa : String → Option Addr) (H : Hp) (A : List Addr) : List V → List D → List Addr → Prop
  | nil : Reps K fa H A [] [] []
  | cons {v : V} {vs : List V} {d : D} {ds : List D} {F F' : List Addr} (r : Rep K fa H A v d F) (t : Reps K fa H A vs ds F') : Reps K fa H A (v :: vs) (d :: ds) (F ++ F')
end
variable {K : PySem.W.Frag} {fa : String → Option Addr} {H H' H1 H2 : Hp} {A A' A1 A2 : List Addr}

/-- what the steps of a part may do -/
structure Stp (A : List Addr) (H : Hp) (A' : List Addr) (H' : Hp) : Prop where
  pre : ∃ N, A' = A ++ N ∧ ∀ a ∈ N, H a = none
  keep : ∀ p o, H p = some o → p ∉ A → H' p = some o
  there : ∀ p o, H p = some o → ∃ o', H' p = some o'
  tups : ∀ p xs, H p = some (.tup xs) → H' p = some (.tup xs)
  frzs : ∀ p o u, H p = some (.frz o u) → H' p = some (.frz o u)
theorem Stp.refl : Stp A H A H := ⟨⟨[], by simp, by simp⟩, fun _ _ h _ => h, fun _ o h => ⟨o, h⟩, fun _ _ h => h, fun _ _ _ h => h⟩
theorem Stp.free (s : Stp A H A' H') {p : Addr} (h : H' p = none) : H p = none := by
  cases q : H p with
  | none => rfl
  | some o =>
    obtain ⟨o', e⟩ := s.there p o q
    rw [h] at e; cases e
theorem Stp.trans (a : Stp A H A1 H1) (b : Stp A1 H1 A2 H2) : Stp A H A2 H2 := by
  obtain ⟨N, e1, n1⟩ := a.pre
  obtain ⟨M, e2, n2⟩ := b.pre
  refine ⟨⟨N ++ M, by rw [e2, e1, List.append_assoc], fun x hx => ?_⟩, fun p o h hp => ?_, fun p o h => ?_, fun p xs h => b.tups p xs (a.tups p xs h), fun p o u h => b.frzs p o u (a.frzs p o u h)⟩
  · rcases List.mem_append.mp hx with hx | hx
    · exact n1 x hx
    · exact a.free (n2 x hx)
  · refine b.keep p o (a.keep p o h hp) fun hm => ?_
    rw [e1] at hm
    rcases List.mem_append.mp hm with hm | hm
    · exact hp hm
    · rw [n1 p hm] at h; cases h
  · obtain ⟨o1, h1⟩ := a.there p o h
    exact b.there p o1 h1
theorem Stp.sub (s : Stp A H A' H') {n : Nat} {a : Addr} (h : A[n]? = some a) : A'[n]? = some a := by
  obtain ⟨N, e, _⟩ := s.pre
  rw [e, List.getElem?_append_left (List.getElem?_eq_some_iff.mp h).1]
  exact h
theorem Stp.mem (s : Stp A H A' H') {a : Addr} (h : a ∈ A) : a ∈ A' := by
  obtain ⟨N, e, _⟩ := s.pre
  rw [e]; exact List.mem_append_left _ h
/-- a tracked place that was none of ours is none of ours behind -/
theorem Stp.out (s : Stp A H A' H') {p : Addr} {o : HO} (h : H p = some o) (hp : p ∉ A) : p ∉ A' := by
  obtain ⟨N, e, n⟩ := s.pre
  rw [e]
  intro hm
  rcases List.mem_append.mp hm with hm | hm
  · exact hp hm
  · rw [n p hm] at h; cases h
theorem Stp.sqT (s : Stp A H A' H') {a : Addr} {xs : List V} (h : SqT K H a xs) : SqT K H' a xs := by
  rcases h with (h | ⟨o, h⟩) | h
  · exact .inl (.inl (s.tups _ _ h))
  · exact .inl (.inr ⟨o, s.frzs _ _ _ h⟩)
  · exact .inr h
/-- a new object -/
theorem Stp.new {p : Addr} {o : HO} (h : H p = none) : Stp A H A (upd H p o) := by
  have ne : ∀ q u, H q = some u → q ≠ p := fun q u e z => by rw [z, h] at e; cases e
  refine ⟨⟨[], by simp, by simp⟩, fun q u e _ => ?_, fun q u e => ⟨u, ?_⟩, fun q xs e => ?_, fun q o' u e => ?_⟩ <;> (rw [upd_ne (ne _ _ e)]; exact e)

/-- what a datum's standing leans on -/
structure Sta (F : List Addr) (A : List Addr) (H : Hp) (A' : List Addr) (H' : Hp) : Prop where
  pre : ∃ N, A' = A ++ N
  keep : ∀ a ∈ F, ∀ o, H a = some o → H' a = some o
  tups : ∀ p xs, H p = some (.tup xs) → H' p = some (.tup xs)
  frzs : ∀ p o u, H p = some (.frz o u) → H' p = some (.frz o u)
theorem Sta.sub {F : List Addr} (s : Sta F A H A' H') {n : Nat} {a : Addr} (h : A[n]? = some a) : A'[n]? = some a := by
  obtain ⟨N, e⟩ := s.pre
  rw [e, List.getElem?_append_left (List.getElem?_eq_some_iff.mp h).1]
  exact h
theorem Sta.less {F F' : List Addr} (s : Sta F A H A' H') (h : ∀ a ∈ F', a ∈ F) : Sta F' A H A' H' := ⟨s.pre, fun a ha => s.keep a (h a ha), s.tups, s.frzs⟩
theorem Stp.sta {F : List Addr} (s : Stp A H A' H') (h : ∀ a ∈ F, a ∉ A) : Sta F A H A' H' := ⟨let ⟨N, e, _⟩ := s.pre; ⟨N, e⟩, fun a ha o e => s.keep a o e (h a ha), s.tups, s.frzs⟩
theorem Sta.trans {F : List Addr} (a : Sta F A H A1 H1) (b : Sta F A1 H1 A2 H2) : Sta F A H A2 H2 := by
  obtain ⟨N, e1⟩ := a.pre
  obtain ⟨M, e2⟩ := b.pre
  exact ⟨⟨N ++ M, by rw [e2, e1, List.append_assoc]⟩, fun x hx o e => b.keep x hx o (a.keep x hx o e), fun p xs h => b.tups p xs (a.tups p xs h), fun p o u h => b.frzs p o u (a.frzs p o u h)⟩
theorem Sta.upd {F : List Addr} {p : Addr} {xs : List V} {o : HO} (h : H p = some (.lst xs)) (hp : p ∉ F) : Sta F A H A (upd H p o) := by
  refine ⟨⟨[], by simp⟩, fun a ha u e => ?_, fun q ys e => ?_, fun q o' u e => ?_⟩
  · have hne : a ≠ p := by intro z; subst z; exact hp ha
    rw [upd_ne hne]; exact e
  · rw [upd_ne (fun z => by rw [z, h] at e; cases e)]; exact e
  · rw [upd_ne (fun z => by rw [z, h] at e; cases e)]; exact e
theorem Sta.sqT {F : List Addr} (s : Sta F A H A' H') {a : Addr} {xs : List V} (h : SqT K H a xs) : SqT K H' a xs := by
  rcases h with (h | ⟨o, h⟩) | h
  · exact .inl (.inl (s.tups _ _ h))
  · exact .inl (.inr ⟨o, s.frzs _ _ _ h⟩)
  · exact .inr h
mutual
theorem Rep.sta : ∀ {v : V} {d : D} {F : List Addr}, Rep K fa H A v d F → Sta F A H A' H' → Rep K fa H' A' v d F
  | _, .non, _, h, _ => by cases h; exact .non
  | _, .bl _, _, h, _ => by cases h; exact .bl _
  | _, .int _, _, h, _ => by cases h; exact .int _
  | _, .str _, _, h, _ => by cases h with | str _ h => exact .str _ h
  | _, .fn _, _, h, _ => by cases h with | fn h => exact .fn h
  | _, .ref _, _, h, s => by cases h with | ref h => exact .ref (s.sub h)
  | _, .fz l, _, h, s => by
    cases h with
    | fz h hp r =>
      refine .fz ?_ ?_ (Reps.sta r s)
      · rcases hp with ⟨o, e⟩ | hp
        · exact .inl (.inr ⟨o, s.frzs _ _ _ e⟩)
        · exact hp _
      · rcases hp with ⟨o, e⟩ | hp
        · exact .inl ⟨o, s.frzs _ _ _ e⟩
        · exact .inr hp
  | _, .tup l, _, h, s => by cases h with | tup h r => exact .tup (s.sqT h) (Reps.sta r s)
  | _, .tl l, _, h, s => by
    cases h with
    | tl h r => exact .tl (s.keep _ (by simp) _ h) (Reps.sta r (s.less fun a ha => by simp [ha]))
theorem Reps.sta : ∀ {vs : List V} {ds : List D} {F : List Addr}, Reps K fa H A vs ds F → Sta F A H A' H' → Reps K fa H' A' vs ds F
  | _, [], _, h, _ => by cases h; exact .nil
  | _, d :: ds, _, h, s => by
    cases h with
    | cons r t => exact .cons (Rep.sta r (s.less fun a ha => by simp [ha])) (Reps.sta t (s.less fun a ha => by simp [ha]))
end
theorem Rep.step (s : Stp A H A' H') {v : V} {d : D} {F : List Addr} (h : Rep K fa H A v d F) (hF : ∀ a ∈ F, a ∉ A) : Rep K fa H' A' v d F := h.sta (s.sta hF)
theorem Reps.step (s : Stp A H A' H') {vs : List V} {ds : List D} {F : List Addr} (h : Reps K fa H A vs ds F) (hF : ∀ a ∈ F, a ∉ A) : Reps K fa H' A' vs ds F := h.sta (s.sta hF)
mutual
theorem Rep.mono {N : List Addr} : ∀ {v : V} {d : D} {F : List Addr}, Rep K fa H A v d F → Rep K fa H (A ++ N) v d F
  | _, .non, _, h => by cases h; exact .non
  | _, .bl _, _, h => by cases h; exact .bl _
  | _, .int _, _, h => by cases h; exact .int _
  | _, .str _, _, h => by cases h with | str _ h => exact .str _ h
  | _, .fn _, _, h => by cases h with | fn h => exact .fn h
  | _, .ref _, _, h => by cases h with | ref h => exact .ref (by rw [List.getElem?_append_left (List.getElem?_eq_some_iff.mp h).1]; exact h)
  | _, .fz l, _, h => by cases h with | fz h hp r => exact .fz h hp (Reps.mono r)
  | _, .tup l, _, h => by cases h with | tup h r => exact .tup h (Reps.mono r)
  | _, .tl l, _, h => by cases h with | tl h r => exact .tl h (Reps.mono r)
theorem Reps.mono {N : List Addr} : ∀ {vs : List V} {ds : List D} {F : List Addr}, Reps K fa H A vs ds F → Reps K fa H (A ++ N) vs ds F
  | _, [], _, h => by cases h; exact .nil
  | _, d :: ds, _, h => by cases h with | cons r t => exact .cons (Rep.mono r) (Reps.mono t)
end
theorem Reps.length : ∀ {vs : List V} {ds : List D} {F : List Addr}, Reps K fa H A vs ds F → vs.length = ds.length
  | _, _, _, .nil => rfl
  | _, _, _, .cons _ t => by simp [Reps.length t]
theorem Reps.append : ∀ {vs : List V} {ds : List D} {F : List Addr} {ws : List V} {es : List D} {F' : List Addr}, Reps K fa H A vs ds F → Reps K fa H A ws es F' → Reps K fa H A (vs ++ ws) (ds ++ es) (F ++ F')
  | _, _, _, _, _, _, .nil, s => s
  | _, _, _, _, _, _, .cons r t, s => by rw [List.append_assoc]; exact .cons r (Reps.append t s)
theorem Reps.one {v : V} {d : D} {F : List Addr} (r : Rep K fa H A v d F) : Reps K fa H A [v] [d] F := by
  have := Reps.cons r .nil
  simpa using this
/-- one of them -/
theorem Reps.get : ∀ {vs : List V} {ds : List D} {F : List Addr} {j : Nat} {d : D}, Reps K fa H A vs ds F → ds[j]? = some d → ∃ v F1, vs[j]? = some v ∧ Rep K fa H A v d F1 ∧ F1.Sublist F
  | _, _, _, _, _, .nil, e => by simp at e
  | _, _, _, 0, _, .cons (F := F) (F' := F') r _, e => by
    simp at e; subst e
    exact ⟨_, F, rfl, r, List.sublist_append_left _ _⟩
  | _, _, _, j + 1, d, .cons (F := F) (F' := F') _ t, e => by
    obtain ⟨v, F1, h1, h2, h3⟩ := Reps.get (j := j) (d := d) t (by simpa using e)
    exact ⟨v, F1, by simpa using h1, h2, h3.trans (List.sublist_append_right _ _)⟩
theorem Reps.getV : ∀ {vs : List V} {ds : List D} {F : List Addr} {j : Nat} {v : V}, Reps K fa H A vs ds F → vs[j]? = some v → ∃ d F1, ds[j]? = some d ∧ Rep K fa H A v d F1 ∧ F1.Sublist F := fun {vs ds F j v} r e => by
  have hj : j < ds.length := by rw [← r.length]; exact (List.getElem?_eq_some_iff.mp e).1
  obtain ⟨v', F1, h1, h2, h3⟩ := r.get (d := ds[j]) (List.getElem?_eq_getElem hj)
  rw [e] at h1; cases h1
  exact ⟨ds[j], F1, List.getElem?_eq_getElem hj, h2, h3⟩
theorem Reps.set_still : ∀ {vs : List V} {ds : List D} {j : Nat} {v : V} {d : D}, Reps K fa H A vs ds [] → Rep K fa H A v d [] → Reps K fa H A (vs.set j v) (ds.set j d) []
  | _, [], _, _, _, h, _ => by cases h; exact .nil
  | _, e :: es, j, v, d, h, r => by
    generalize hF : ([] : List Addr) = F at h
    cases h with
    | @cons w ws _ _ F1 F2 r1 t =>
      obtain ⟨e1, e2⟩ := List.append_eq_nil_iff.mp hF.symm
      subst e1 e2
      clear hF
      cases j with
      | zero => exact Reps.cons r t
      | succ j => exact Reps.cons r1 (Reps.set_still (j := j) t r)
mutual
/-- what is still has no fresh lists -/
theorem Rep.still : ∀ {v : V} {d : D} {F : List Addr}, Rep K fa H A v d F → d.still = true → F = []
  | _, .non, _, h, _ => by cases h; rfl
  | _, .bl _, _, h, _ => by cases h; rfl
  | _, .int _, _, h, _ => by cases h; rfl
  | _, .str _, _, h, _ => by cases h; rfl
  | _, .fn _, _, h, _ => by cases h; rfl
  | _, .ref _, _, h, _ => by cases h; rfl
  | _, .fz _, _, h, _ => by cases h; rfl
  | _, .tup l, _, h, e => by cases h with | tup _ r => exact Reps.still r (by simpa [D.still] using e)
  | _, .tl l, _, h, e => by simp [D.still] at e
theorem Reps.still : ∀ {vs : List V} {ds : List D} {F : List Addr}, Reps K fa H A vs ds F → D.stills ds = true → F = []
  | _, [], _, h, _ => by cases h; rfl
  | _, d :: ds, _, h, e => by
    cases h with
    | cons r t =>
      have e' : d.still = true ∧ D.stills ds = true := by simpa [D.stills] using e
      rw [Rep.still r e'.1, Reps.still t e'.2]; rfl
end

/-! ### the store -/
def RepO (K : PySem.W.Frag) (fa : String → Option Addr) (H : Hp) (A : List Addr) (a : Addr) : Obj → Prop
  | .lst l => ∃ vs, H a = some (.lst vs) ∧ Reps K fa H A vs l []
structure RelM (K : PySem.W.Frag) (fa : String → Option Addr) (H : Hp) (A : List Addr) (μ : Store) : Prop where
  len : A.length = μ.length
  obj : ∀ (i : Nat) (o : Obj), μ[i]? = some o → ∃ a, A[i]? = some a ∧ RepO K fa H A a o
  nd : A.Nodup
def RelE (K : PySem.W.Frag) (fa : String → Option Addr) (H : Hp) (A : List Addr) (ρ : Env) (σ : L2.St) : Prop :=
  ρ.length = σ.length ∧ ∀ (i : Nat) (d : D), ρ[i]? = some (some d) → ∃ v, σ[i]? = some (some v) ∧ Rep K fa H A v d []
theorem RelE.step {ρ : Env} {σ : L2.St} (r : RelE K fa H A ρ σ) (s : Stp A H A' H') : RelE K fa H' A' ρ σ :=
  ⟨r.1, fun i d e => let ⟨v, h1, h2⟩ := r.2 i d e; ⟨v, h1, h2.step s (by simp)⟩⟩
theorem RelE.set {ρ : Env} {σ : L2.St} (r : RelE K fa H A ρ σ) {i : Nat} {d : D} {v : V} (h : Rep K fa H A v d []) : RelE K fa H A (ρ.set i (some d)) (σ.set i (some v)) := by
  refine ⟨by simp [r.1], fun j e hj => ?_⟩
  by_cases hij : i = j
  · subst hij
    have hi : i < ρ.length := by
      have := (List.getElem?_eq_some_iff.mp hj).1
      simpa using this
    rw [List.getElem?_set_self hi] at hj
    cases hj
    have hi' : i < σ.length := by rw [← r.1]; exact hi
    exact ⟨v, List.getElem?_set_self hi', h⟩
  · rw [List.getElem?_set_ne hij] at hj
    rw [List.getElem?_set_ne hij]
    exact r.2 j e hj
theorem RelM.at {μ : Store} (r : RelM K fa H A μ) {n : Nat} {a : Addr} (h : A[n]? = some a) : ∃ o, μ[n]? = some o ∧ RepO K fa H A a o := by
  have hn : n < μ.length := by rw [← r.len]; exact (List.getElem?_eq_some_iff.mp h).1
  obtain ⟨a', h1, h2⟩ := r.obj n μ[n] (by simp [hn])
  rw [h] at h1; cases h1
  exact ⟨_, by simp [hn], h2⟩
theorem RelM.tracked {μ : Store} (r : RelM K fa H A μ) {a : Addr} (h : a ∈ A) : ∃ vs, H a = some (.lst vs) := by
  obtain ⟨n, hn⟩ := List.mem_iff_getElem?.mp h
  obtain ⟨o, _, h2⟩ := r.at hn
  cases o with
  | lst l => obtain ⟨vs, e, _⟩ := h2; exact ⟨vs, e⟩
theorem RelM.fresh {μ : Store} (r : RelM K fa H A μ) {a : Addr} (h : H a = none) : a ∉ A := fun hm => by
  obtain ⟨vs, e⟩ := r.tracked hm
  rw [h] at e; cases e
theorem RepO.keep {a : Addr} {o : Obj} (s : Stp A H A' H') (h : RepO K fa H A a o) (e : ∀ vs, H a = some (.lst vs) → H' a = some (.lst vs)) : RepO K fa H' A' a o := by
  cases o with
  | lst l => obtain ⟨vs, h1, h2⟩ := h; exact ⟨vs, e vs h1, h2.step s (by simp)⟩
/-- the store behind a step that changes none of its objects and brings no new ones -/
theorem RelM.keep {μ : Store} (r : RelM K fa H A μ) (s : Stp A H A H') (e : ∀ a ∈ A, ∀ vs, H a = some (.lst vs) → H' a = some (.lst vs)) : RelM K fa H' A μ :=
  ⟨r.len, fun i o h => let ⟨a, h1, h2⟩ := r.obj i o h; ⟨a, h1, h2.keep s (e a (List.mem_of_getElem? h1))⟩, r.nd⟩
/-- a new object that is none of the store's -/
theorem RelM.new {μ : Store} (r : RelM K fa H A μ) {p : Addr} {o : HO} (h : H p = none) : RelM K fa (upd H p o) A μ :=
  r.keep (.new h) fun a ha vs e => by
    have hne : a ≠ p := by intro z; subst z; exact r.fresh h ha
    rw [upd_ne hne]; exact e
/-- one of its lists is changed -/
theorem Stp.write {μ : Store} (r : RelM K fa H A μ) {n : Nat} {a : Addr} {o : HO} (h : A[n]? = some a) : Stp A H A (upd H a o) := by
  obtain ⟨vs, e⟩ := r.tracked (List.mem_of_getElem? h)
  refine ⟨⟨[], by simp, by simp⟩, fun q u e' hq => ?_, fun q u e' => ?_, fun q xs e' => ?_, fun q o' u e' => ?_⟩
  · have hne : q ≠ a := by intro z; subst z; exact hq (List.mem_of_getElem? h)
    rw [upd_ne hne]; exact e'
  · by_cases hq : q = a
    · exact ⟨o, by rw [hq, upd_same]⟩
    · exact ⟨u, by rw [upd_ne hq]; exact e'⟩
  · rw [upd_ne (fun z => by rw [z, e] at e'; cases e')]; exact e'
  · rw [upd_ne (fun z => by rw [z, e] at e'; cases e')]; exact e'
theorem RelM.write {μ : Store} (r : RelM K fa H A μ) {n : Nat} {a : Addr} {vs : List V} {l : List D} (h : A[n]? = some a) (hr : Reps K fa H A vs l []) : RelM K fa (upd H a (.lst vs)) A (μ.set n (.lst l)) := by
  have s := Stp.write r (o := .lst vs) h
  refine ⟨by simpa using r.len, fun i o hi => ?_, r.nd⟩
  by_cases hin : n = i
  · subst hin
    have hn : n < μ.length := by rw [← r.len]; exact (List.getElem?_eq_some_iff.mp h).1
    rw [List.getElem?_set_self hn] at hi
    cases hi
    exact ⟨a, h, vs, upd_same, hr.step s (by simp)⟩
  · rw [List.getElem?_set_ne hin] at hi
    obtain ⟨a', h1, h2⟩ := r.obj i o hi
    have hne : a' ≠ a := fun z => by
      subst z
      obtain ⟨k1, e1⟩ := List.getElem?_eq_some_iff.mp h
      obtain ⟨k2, e2⟩ := List.getElem?_eq_some_iff.mp h1
      exact hin ((List.getElem_inj r.nd).mp (e1.trans e2.symm))
    exact ⟨a', h1, h2.keep s fun vs' e => by rw [upd_ne hne]; exact e⟩

/-- an object that is none of the store's is changed -/
theorem RelM.upd {μ : Store} (r : RelM K fa H A μ) {p : Addr} {xs : List V} {o : HO} (h : H p = some (.lst xs)) (hp : p ∉ A) : RelM K fa (upd H p o) A μ := by
  refine ⟨r.len, fun i ob hi => ?_, r.nd⟩
  obtain ⟨a, h1, h2⟩ := r.obj i ob hi
  refine ⟨a, h1, ?_⟩
  cases ob with
  | lst l =>
    obtain ⟨vs, e, q⟩ := h2
    have hne : a ≠ p := by intro z; subst z; exact hp (List.mem_of_getElem? h1)
    exact ⟨vs, by rw [upd_ne hne]; exact e, q.sta (Sta.upd h (by simp))⟩
/-! ### fresh lists are laid -/
theorem Stp.grow {N : List Addr} (h : ∀ a ∈ N, H a = none) : Stp A H (A ++ N) H := ⟨⟨N, rfl, h⟩, fun _ _ h _ => h, fun _ o h => ⟨o, h⟩, fun _ _ h => h, fun _ _ _ h => h⟩
mutual
/-- the places of a datum's fresh lists join the store's -/
theorem alloc_ok : ∀ {v : V} {d : D} {F : List Addr} {A : List Addr} {μ : Store}, Rep K fa H A v d F → RelM K fa H A μ → F.Nodup → (∀ a ∈ F, a ∉ A) →
    RelM K fa H (A ++ F) (alloc d μ).2 ∧ Rep K fa H (A ++ F) v (alloc d μ).1 []
  | _, .non, _, _, _, h, r, _, _ => by cases h; rw [List.append_nil]; exact ⟨r, .non⟩
  | _, .bl _, _, _, _, h, r, _, _ => by cases h; rw [List.append_nil]; exact ⟨r, .bl _⟩
  | _, .int _, _, _, _, h, r, _, _ => by cases h; rw [List.append_nil]; exact ⟨r, .int _⟩
  | _, .str _, _, _, _, h, r, _, _ => by cases h with | str _ h => rw [List.append_nil]; exact ⟨r, .str _ h⟩
  | _, .fn _, _, _, _, h, r, _, _ => by cases h with | fn h => rw [List.append_nil]; exact ⟨r, .fn h⟩
  | _, .ref _, _, _, _, h, r, _, _ => by cases h with | ref h => rw [List.append_nil]; exact ⟨r, .ref h⟩
  | _, .fz _, _, _, _, h, r, _, _ => by cases h with | fz h hp q => rw [List.append_nil]; exact ⟨r, .fz h hp q⟩
  | _, .tup l, F, A, μ, h, r, nd, ne => by
    cases h with
    | tup h q =>
      obtain ⟨r1, q1⟩ := allocs_ok q r nd ne
      exact ⟨r1, .tup h q1⟩
  | _, .tl l, _, A, μ, h, r, nd, ne => by
    cases h with
    | @tl a vs _ F h q =>
      obtain ⟨nd1, _, nd2⟩ := List.nodup_append.mp nd
      obtain ⟨r1, q1⟩ := allocs_ok q r nd1 fun b hb => ne b (by simp [hb])
      have hlen : (A ++ F).length = (allocs l μ).2.length := r1.len
      have hget : (A ++ (F ++ [a]))[(allocs l μ).2.length]? = some a := by
        rw [← List.append_assoc, ← hlen, List.getElem?_append_right (Nat.le_refl _)]
        simp
      have aN : a ∉ A ++ F := fun hm => by
        rcases List.mem_append.mp hm with hm | hm
        · exact ne a (by simp) hm
        · exact nd2 a hm a (by simp) rfl
      refine ⟨⟨?_, fun i o hi => ?_, ?_⟩, .ref hget⟩
      · show (A ++ (F ++ [a])).length = ((allocs l μ).2 ++ [Obj.lst (allocs l μ).1]).length
        rw [← List.append_assoc, List.length_append, hlen]; simp
      · have hi : ((allocs l μ).2 ++ [Obj.lst (allocs l μ).1])[i]? = some o := hi
        have mono : ∀ {vs : List V} {ds : List D}, Reps K fa H (A ++ F) vs ds [] → Reps K fa H (A ++ (F ++ [a])) vs ds [] := fun {vs ds} q => by
          rw [← List.append_assoc]
          exact q.mono
        by_cases hlt : i < (allocs l μ).2.length
        · rw [List.getElem?_append_left hlt] at hi
          obtain ⟨a', h1, h2⟩ := r1.obj i o hi
          refine ⟨a', ?_, ?_⟩
          · rw [← List.append_assoc, List.getElem?_append_left (List.getElem?_eq_some_iff.mp h1).1]; exact h1
          · cases o with
            | lst l' => obtain ⟨vs', e, q'⟩ := h2; exact ⟨vs', e, mono q'⟩
        · have hie : i = (allocs l μ).2.length := by
            have := (List.getElem?_eq_some_iff.mp hi).1
            simp at this; omega
          subst hie
          rw [List.getElem?_append_right (Nat.le_refl _)] at hi
          simp at hi
          subst hi
          exact ⟨a, hget, vs, h, mono q1⟩
      · rw [← List.append_assoc]
        exact List.nodup_append.mpr ⟨r1.nd, by simp, fun x hx y hy => by simp at hy; subst hy; exact fun e => aN (e ▸ hx)⟩
theorem allocs_ok : ∀ {vs : List V} {ds : List D} {F : List Addr} {A : List Addr} {μ : Store}, Reps K fa H A vs ds F → RelM K fa H A μ → F.Nodup → (∀ a ∈ F, a ∉ A) →
    RelM K fa H (A ++ F) (allocs ds μ).2 ∧ Reps K fa H (A ++ F) vs (allocs ds μ).1 []
  | _, [], _, _, _, h, r, _, _ => by cases h; rw [List.append_nil]; exact ⟨r, .nil⟩
  | _, d :: ds, _, A, μ, h, r, nd, ne => by
    cases h with
    | @cons v vs _ _ F F' h t =>
      obtain ⟨nd1, nd2, nd3⟩ := List.nodup_append.mp nd
      obtain ⟨r1, q1⟩ := alloc_ok h r nd1 fun b hb => ne b (by simp [hb])
      obtain ⟨r2, q2⟩ := allocs_ok (t.mono (N := F)) r1 nd2 fun b hb hm => by
        rcases List.mem_append.mp hm with hm | hm
        · exact ne b (by simp [hb]) hm
        · exact nd3 b hm b hb rfl
      rw [List.append_assoc] at r2 q2
      refine ⟨r2, ?_⟩
      have := Reps.cons ((q1.mono (N := F'))) (show Reps K fa H ((A ++ F) ++ F') vs (allocs ds (alloc d μ).2).1 [] by rw [List.append_assoc]; exact q2)
      rw [List.append_assoc] at this
      exact this
end
end Mp
end SSnd1
section SSnd2
/-! Snd2: what holds behind a part; a call's end. -/
namespace Mp
open PySem PySem.Spec PyProof.Rows L2
variable {K : PySem.W.Frag} {fa : String → Option Addr} {H H' H1 H2 : Hp} {A A' A1 A2 : List Addr}

mutual
theorem Rep.under : ∀ {v : V} {d : D} {F : List Addr}, Rep K fa H A v d F → d.under A.length = true
  | _, .non, _, _ | _, .bl _, _, _ | _, .int _, _, _ | _, .str _, _, _ | _, .fn _, _, _ => by simp [D.under]
  | _, .ref n, _, h => by cases h with | ref h => simpa [D.under] using (List.getElem?_eq_some_iff.mp h).1
  | _, .fz l, _, h => by cases h with | fz _ _ r => simpa [D.under] using Reps.under r
  | _, .tup l, _, h => by cases h with | tup _ r => simpa [D.under] using Reps.under r
  | _, .tl l, _, h => by cases h with | tl _ r => simpa [D.under] using Reps.under r
theorem Reps.under : ∀ {vs : List V} {ds : List D} {F : List Addr}, Reps K fa H A vs ds F → D.unders A.length ds = true
  | _, [], _, _ => by simp [D.unders]
  | _, d :: ds, _, h => by cases h with | cons r t => simp [D.unders, Rep.under r, Reps.under t]
end
mutual
theorem Rep.cut {N : List Addr} : ∀ {v : V} {d : D} {F : List Addr}, Rep K fa H (A ++ N) v d F → d.under A.length = true → Rep K fa H A v d F
  | _, .non, _, h, _ => by cases h; exact .non
  | _, .bl _, _, h, _ => by cases h; exact .bl _
  | _, .int _, _, h, _ => by cases h; exact .int _
  | _, .str _, _, h, _ => by cases h with | str _ h => exact .str _ h
  | _, .fn _, _, h, _ => by cases h with | fn h => exact .fn h
  | _, .ref n, _, h, e => by
    cases h with
    | ref h =>
      have hn : n < A.length := by simpa [D.under] using e
      rw [List.getElem?_append_left hn] at h
      exact .ref h
  | _, .fz l, _, h, e => by cases h with | fz h hp r => exact .fz h hp (Reps.cut r (by simpa [D.under] using e))
  | _, .tup l, _, h, e => by cases h with | tup h r => exact .tup h (Reps.cut r (by simpa [D.under] using e))
  | _, .tl l, _, h, e => by cases h with | tl h r => exact .tl h (Reps.cut r (by simpa [D.under] using e))
theorem Reps.cut {N : List Addr} : ∀ {vs : List V} {ds : List D} {F : List Addr}, Reps K fa H (A ++ N) vs ds F → D.unders A.length ds = true → Reps K fa H A vs ds F
  | _, [], _, h, _ => by cases h; exact .nil
  | _, d :: ds, _, h, e => by
    have e' : d.under A.length = true ∧ D.unders A.length ds = true := by simpa [D.unders] using e
    cases h with | cons r t => exact .cons (Rep.cut r e'.1) (Reps.cut t e'.2)
end
/-- the elder part of a store -/
theorem RelM.cut {N : List Addr} {μ μ' : Store} (r : RelM K fa H' (A ++ N) μ') (r0 : RelM K fa H A μ) (ok : oldOk μ A.length μ' = true) : RelM K fa H' A (μ'.take A.length) := by
  have hl := r.len
  rw [List.length_append] at hl
  refine ⟨by rw [List.length_take]; omega, fun i o hi => ?_, (List.nodup_append.mp r.nd).1⟩
  have hlt : i < A.length := by
    have := (List.getElem?_eq_some_iff.mp hi).1
    rw [List.length_take] at this; omega
  rw [List.getElem?_take_of_lt hlt] at hi
  obtain ⟨a, h1, h2⟩ := r.obj i o hi
  rw [List.getElem?_append_left hlt] at h1
  refine ⟨a, h1, ?_⟩
  have q := List.all_eq_true.mp ok i (List.mem_range.mpr hlt)
  rw [Bool.or_eq_true] at q
  cases o with
  | lst l =>
    obtain ⟨vs, e, q2⟩ := h2
    refine ⟨vs, e, q2.cut ?_⟩
    rcases q with q | q
    · have q := of_decide_eq_true q
      rw [hi] at q
      obtain ⟨a0, k1, vs0, _, k2⟩ := r0.obj i _ q.symm
      exact k2.under
    · rw [hi] at q
      exact q
theorem mapM_some {α β : Type} {f : α → Option β} : ∀ {l : List α} {r : List β}, l.mapM f = some r → (l = [] ∧ r = []) ∨ ∃ x xs y ys, l = x :: xs ∧ r = y :: ys ∧ f x = some y ∧ xs.mapM f = some ys
  | [], r, h => by simp at h; exact .inl ⟨rfl, h⟩
  | x :: xs, r, h => by
    rw [List.mapM_cons] at h
    cases hx : f x with
    | none => rw [hx] at h; simp at h
    | some y =>
      rw [hx] at h
      cases hs : xs.mapM f with
      | none => rw [hs] at h; simp at h
      | some ys =>
        rw [hs] at h
        simp at h
        exact .inr ⟨x, xs, y, ys, rfl, h.symm, hx, hs⟩
/-- the places of the lists lifted -/
def At (A : List Addr) (used : List Nat) (F : List Addr) : Prop := used.map (fun u => A[u]?) = F.map some
theorem lift_ok {N : List Addr} {μ' : Store} (r : RelM K fa H' (A ++ N) μ') : ∀ (f : Nat) {d d' : D} {used : List Nat} {v : V} {F : List Addr}, lift A.length μ' f d = some (d', used) → Rep K fa H' (A ++ N) v d F →
    ∃ F', Rep K fa H' A v d' F' ∧ At (A ++ N) used F' ∧ ∀ u ∈ used, A.length ≤ u
  | 0, _, _, _, _, _, h, _ => by simp [lift] at h
  | f + 1, d, d', used, v, F, h, q => by
    have many : ∀ {l : List D} {rs : List (D × List Nat)} {vs : List V} {F : List Addr}, l.mapM (lift A.length μ' f) = some rs → Reps K fa H' (A ++ N) vs l F →
        ∃ F', Reps K fa H' A vs (rs.map (·.1)) F' ∧ At (A ++ N) (rs.map (·.2)).flatten F' ∧ ∀ u ∈ (rs.map (·.2)).flatten, A.length ≤ u := by
      intro l
      induction l with
      | nil =>
        intro rs vs F h q
        simp at h; subst h
        cases q
        exact ⟨[], .nil, rfl, by simp⟩
      | cons x xs ih =>
        intro rs vs F h q
        rcases mapM_some h with ⟨z, _⟩ | ⟨x', xs', y, ys, e1, e2, h1, h2⟩
        · cases z
        · cases e1; subst e2
          cases q with
          | cons q1 q2 =>
            obtain ⟨F1, a1, a2, a3⟩ := lift_ok r f (d' := y.1) (used := y.2) (by rw [h1]) q1
            obtain ⟨F2, b1, b2, b3⟩ := ih h2 q2
            refine ⟨F1 ++ F2, .cons a1 b1, ?_, fun u hu => ?_⟩
            · unfold At at a2 b2 ⊢
              simp only [List.map_cons, List.flatten_cons, List.map_append]
              rw [a2, b2]
            · simp only [List.map_cons, List.flatten_cons, List.mem_append] at hu
              rcases hu with hu | hu
              · exact a3 u hu
              · exact b3 u hu
    cases d with
    | tl l => simp [lift] at h
    | tup l =>
      simp only [lift, Option.map_eq_some_iff] at h
      obtain ⟨rs, h1, h2⟩ := h
      cases h2
      cases q with
      | tup hs q =>
        obtain ⟨F', b1, b2, b3⟩ := many h1 q
        exact ⟨F', .tup hs b1, b2, b3⟩
    | ref m =>
      simp only [lift] at h
      split at h
      · rename_i hm
        cases h
        cases q with
        | ref e =>
          rw [List.getElem?_append_left hm] at e
          exact ⟨[], .ref e, rfl, by simp⟩
      · rename_i hm
        cases q with
        | ref e =>
          obtain ⟨o, h1, h2⟩ := r.at e
          rw [h1] at h
          cases o with
          | lst l =>
            obtain ⟨vs, hv, q2⟩ := h2
            simp only [Option.map_eq_some_iff] at h
            obtain ⟨rs, k1, k2⟩ := h
            cases k2
            obtain ⟨F', b1, b2, b3⟩ := many k1 q2
            refine ⟨F' ++ [_], .tl hv b1, ?_, fun u hu => ?_⟩
            · unfold At at b2 ⊢
              rw [List.map_append, b2, List.map_append]
              simp [e]
            · rcases List.mem_append.mp hu with hu | hu
              · exact b3 u hu
              · simp at hu; omega
    | non => simp only [lift] at h; cases h; cases q; exact ⟨[], .non, rfl, by simp⟩
    | bl b => simp only [lift] at h; cases h; cases q; exact ⟨[], .bl _, rfl, by simp⟩
    | int i => simp only [lift] at h; cases h; cases q; exact ⟨[], .int _, rfl, by simp⟩
    | str s => simp only [lift] at h; cases h; cases q with | str _ hs => exact ⟨[], .str _ hs, rfl, by simp⟩
    | fn x => simp only [lift] at h; cases h; cases q with | fn e => exact ⟨[], .fn e, rfl, by simp⟩
    | fz l =>
      simp [lift] at h

/-- behind a part: the value, its fresh lists, the store; from A, H on -/
structure Good (K : PySem.W.Frag) (fa : String → Option Addr) (A : List Addr) (H : Hp) (μ' : Store) (d : D) (v : V) (H' : Hp) (A' : List Addr) (F : List Addr) : Prop where
  stp : Stp A H A' H'
  mem : RelM K fa H' A' μ'
  rep : Rep K fa H' A' v d F
  nd : F.Nodup
  new : ∀ a ∈ F, H a = none ∧ a ∉ A'
theorem Good.pre {μ' : Store} {d : D} {v : V} {F : List Addr} (g : Good K fa A1 H1 μ' d v H' A' F) (s : Stp A H A1 H1) : Good K fa A H μ' d v H' A' F :=
  ⟨s.trans g.stp, g.mem, g.rep, g.nd, fun a ha => ⟨s.free (g.new a ha).1, (g.new a ha).2⟩⟩
theorem Good.tracked {μ' : Store} {d : D} {v : V} {F : List Addr} (g : Good K fa A H μ' d v H' A' F) : ∀ a ∈ F, ∃ vs, H' a = some (.lst vs) := fun a ha => by
  have all : ∀ {v : V} {d : D} {F : List Addr}, Rep K fa H' A' v d F → ∀ a ∈ F, ∃ vs, H' a = some (.lst vs) := by
    intro v d F h
    refine Rep.rec (motive_1 := fun _ _ F _ => ∀ a ∈ F, ∃ vs, H' a = some (.lst vs)) (motive_2 := fun _ _ F _ => ∀ a ∈ F, ∃ vs, H' a = some (.lst vs)) ?_ ?_ ?_ ?_ ?_ ?_ ?_ ?_ ?_ ?_ ?_ h
    · simp
    · simp
    · simp
    · intros; simp_all
    · intros; simp_all
    · intros; simp_all
    · intros; simp_all
    · intro a vs l F h _ ih; exact ih
    · intro a vs l F h _ ih b hb
      rcases List.mem_append.mp hb with hb | hb
      · exact ih b hb
      · simp at hb; subst hb; exact ⟨vs, h⟩
    · simp
    · intro v vs d ds F F' _ _ ih1 ih2 b hb
      rcases List.mem_append.mp hb with hb | hb
      · exact ih1 b hb
      · exact ih2 b hb
  exact all g.rep a ha
/-- a call's end; the call began at the store μ, at A -/
theorem fin_ok {μ μ' : Store} {d : D} {v : V} {F : List Addr} {R : Rs D} {A0 : List Addr} {H0 : Hp} (hR : fin μ d μ' = R) (r0 : RelM K fa H1 A μ) (g : Good K fa A0 H0 μ' d v H' A' F) (hA : ∃ N, A' = A ++ N) (hA0 : ∃ M, A = A0 ++ M) :
    ∃ d' μ'' A'' F', R = .ok d' μ'' ∧ Good K fa A0 H0 μ'' d' v H' A'' F' := by
  obtain ⟨N, eA⟩ := hA
  obtain ⟨M, eM⟩ := hA0
  have nN : ∀ a ∈ M ++ N, H0 a = none := by
    obtain ⟨N', e', n'⟩ := g.stp.pre
    rw [eA, eM, List.append_assoc] at e'
    have := List.append_cancel_left e'
    rw [this]; exact n'
  have hl : μ.length = A.length := r0.len.symm
  unfold fin at hR
  split at hR
  · rename_i ok
    rw [hl] at ok
    have stp0 : Stp A0 H0 A H' := ⟨⟨M, eM, fun a ha => nN a (List.mem_append_left _ ha)⟩, g.stp.keep, g.stp.there, g.stp.tups, g.stp.frzs⟩
    have mem := g.mem
    rw [eA] at mem
    have cut := RelM.cut mem r0 ok
    split at hR
    · rename_i hu
      rw [hl] at hu hR
      have rep := g.rep
      rw [eA] at rep
      exact ⟨d, _, A, F, hR.symm, stp0, cut, rep.cut hu, g.nd, fun a ha => ⟨(g.new a ha).1, fun hm => (g.new a ha).2 (by rw [eA]; exact List.mem_append_left _ hm)⟩⟩
    · split at hR
      · rename_i d' used hlift
        split at hR
        · rename_i hnd
          rw [hl] at hlift hR
          have rep := g.rep
          rw [eA] at rep
          obtain ⟨F', b1, b2, b3⟩ := lift_ok mem 100 hlift rep
          have inF : ∀ a ∈ F', ∃ u ∈ used, (A ++ N)[u]? = some a := fun a ha => by
            have : some a ∈ F'.map some := List.mem_map.mpr ⟨a, ha, rfl⟩
            rw [← b2] at this
            obtain ⟨u, hu, e⟩ := List.mem_map.mp this
            exact ⟨u, hu, e⟩
          have ndF : F'.Nodup := by
            have h1 : (used.map fun u => (A ++ N)[u]?).Nodup := by
              refine List.Pairwise.map _ (fun u w hne => ?_) (List.Pairwise.and_mem.mp hnd)
              obtain ⟨hu, hw, hne⟩ := hne
              intro e
              have some_of : ∀ x ∈ used, ∃ a, (A ++ N)[x]? = some a := fun x hx => by
                have : (A ++ N)[x]? ∈ used.map (fun u => (A ++ N)[u]?) := List.mem_map.mpr ⟨x, hx, rfl⟩
                rw [b2] at this
                obtain ⟨a, _, e⟩ := List.mem_map.mp this
                exact ⟨a, e.symm⟩
              obtain ⟨a, ea⟩ := some_of u hu
              have eb := e.symm.trans ea
              obtain ⟨k1, z1⟩ := List.getElem?_eq_some_iff.mp ea
              obtain ⟨k2, z2⟩ := List.getElem?_eq_some_iff.mp eb
              exact hne ((List.getElem_inj mem.nd).mp (z1.trans z2.symm))
            rw [b2] at h1
            exact List.Pairwise.of_map some (fun a b hab e => hab (by rw [e])) h1
          refine ⟨d', _, A, F', hR.symm, stp0, cut, b1, ndF, fun a ha => ?_⟩
          obtain ⟨u, hu, e⟩ := inF a ha
          have hge := b3 u hu
          rw [List.getElem?_append_right hge] at e
          have haN := List.mem_of_getElem? e
          refine ⟨nN a (List.mem_append_right _ haN), fun hm => ?_⟩
          exact (List.nodup_append.mp mem.nd).2.2 a hm a haN rfl
        · exact ⟨d, μ', A', F, hR.symm, g⟩
      · exact ⟨d, μ', A', F, hR.symm, g⟩
  · exact ⟨d, μ', A', F, hR.symm, g⟩
theorem finX_ok {μ μ' : Store} {e : D} {R : Rs D} {A0 : List Addr} {H0 : Hp} (hR : finX μ e μ' = R) (r0 : RelM K fa H1 A μ) (s : Stp A0 H0 A' H') (m : RelM K fa H' A' μ') (hA : ∃ N, A' = A ++ N) (hA0 : ∃ M, A = A0 ++ M) :
    ∃ μ'' A'', R = .ex e μ'' ∧ Stp A0 H0 A'' H' ∧ RelM K fa H' A'' μ'' := by
  obtain ⟨N, eA⟩ := hA
  obtain ⟨M, eM⟩ := hA0
  have hl : μ.length = A.length := r0.len.symm
  unfold finX at hR
  split at hR
  · rename_i ok
    rw [hl] at ok hR
    have mem := m
    rw [eA] at mem
    have stp0 : Stp A0 H0 A H' := by
      obtain ⟨N', e', n'⟩ := s.pre
      rw [eA, eM, List.append_assoc] at e'
      have := List.append_cancel_left e'
      exact ⟨⟨M, eM, fun a ha => n' a (by rw [← this]; exact List.mem_append_left _ ha)⟩, s.keep, s.there, s.tups, s.frzs⟩
    exact ⟨_, A, hR.symm, stp0, RelM.cut mem r0 ok⟩
  · exact ⟨_, A', hR.symm, s, m⟩
end Mp
end SSnd2
section SSnd3
/-! Snd3: the reading of an expression by the interpreter; the match of the core with the machine's syntax. -/
namespace Mp
open PySem PySem.Spec PyProof.Rows L2

def RepX (K : PySem.W.Frag) (fa : String → Option Addr) (H : Hp) (A : List Addr) (e : D) (cls : Value) (dd : Option Addr) : Prop := True

/-- what is wanted behind an expression, seen from A, H on -/
def Pst (K : PySem.W.Frag) (fa : String → Option Addr) (W : WX) (A : List Addr) (H : Hp) (σ : L2.St) (r : Rs D) (Q : VK) : Prop := match r with
  | .ok d μ' => ∀ v H' A' F, Good K fa A H μ' d v H' A' F → Q v H'
  | .ex e μ' => ∀ cls dd H' A', Stp A H A' H' → RelM K fa H' A' μ' → RepX K fa H' A' e cls dd → W cls dd σ H'
  | .no => False
/-- .. behind arguments -/
structure GoodL (K : PySem.W.Frag) (fa : String → Option Addr) (A : List Addr) (H : Hp) (μ' : Store) (ds : List D) (vs : List V) (H' : Hp) (A' : List Addr) (F : List Addr) : Prop where
  stp : Stp A H A' H'
  mem : RelM K fa H' A' μ'
  rep : Reps K fa H' A' vs ds F
  nd : F.Nodup
  new : ∀ a ∈ F, H a = none ∧ a ∉ A'
def PstL (K : PySem.W.Frag) (fa : String → Option Addr) (W : WX) (A : List Addr) (H : Hp) (σ : L2.St) (r : Rs (List D)) (Q : List V → Hp → Prop) : Prop := match r with
  | .ok ds μ' => ∀ vs H' A' F, GoodL K fa A H μ' ds vs H' A' F → Q vs H'
  | .ex e μ' => ∀ cls dd H' A', Stp A H A' H' → RelM K fa H' A' μ' → RepX K fa H' A' e cls dd → W cls dd σ H'
  | .no => False
/-- .. behind a test -/
def PstB (K : PySem.W.Frag) (fa : String → Option Addr) (W : WX) (A : List Addr) (H : Hp) (σ : L2.St) (r : Rs Bool) (Q : Bool → Hp → Prop) : Prop := match r with
  | .ok b μ' => ∀ H' A', Stp A H A' H' → RelM K fa H' A' μ' → Q b H'
  | .ex e μ' => ∀ cls dd H' A', Stp A H A' H' → RelM K fa H' A' μ' → RepX K fa H' A' e cls dd → W cls dd σ H'
  | .no => False

section
variable {K : PySem.W.Frag} {fa : String → Option Addr} {W : WX} {A A0 A1 A2 : List Addr} {H H0 H1 H2 : Hp} {σ : L2.St}
theorem Pst.bnd {r : Rs D} {f : D → Store → Rs D} {Q : VK} (s : Stp A0 H0 A H) (h : Pst K fa W A0 H0 σ (r.bnd f) Q) :
    Pst K fa W A H σ r fun v H1 => ∃ A1 d μ F, Good K fa A H μ d v H1 A1 F ∧ Pst K fa W A0 H0 σ (f d μ) Q := by
  cases r with
  | ok d μ => intro v H' A' F g; exact ⟨A', d, μ, F, g, h⟩
  | ex e μ => intro cls dd H' A' s' r x; exact h cls dd H' A' (s.trans s') r x
  | no => exact h
theorem Pst.bndB {r : Rs D} {f : D → Store → Rs Bool} {Q : Bool → Hp → Prop} (s : Stp A0 H0 A H) (h : PstB K fa W A0 H0 σ (r.bnd f) Q) :
    Pst K fa W A H σ r fun v H1 => ∃ A1 d μ F, Good K fa A H μ d v H1 A1 F ∧ PstB K fa W A0 H0 σ (f d μ) Q := by
  cases r with
  | ok d μ => intro v H' A' F g; exact ⟨A', d, μ, F, g, h⟩
  | ex e μ => intro cls dd H' A' s' r x; exact h cls dd H' A' (s.trans s') r x
  | no => exact h
theorem PstB.bnd {r : Rs Bool} {f : Bool → Store → Rs Bool} {Q : Bool → Hp → Prop} (s : Stp A0 H0 A H) (h : PstB K fa W A0 H0 σ (r.bnd f) Q) :
    PstB K fa W A H σ r fun b H1 => ∃ A1 μ, Stp A H A1 H1 ∧ RelM K fa H1 A1 μ ∧ PstB K fa W A0 H0 σ (f b μ) Q := by
  cases r with
  | ok b μ => intro H' A' s' r'; exact ⟨A', μ, s', r', h⟩
  | ex e μ => intro cls dd H' A' s' r x; exact h cls dd H' A' (s.trans s') r x
  | no => exact h
theorem PstB.bndD {r : Rs Bool} {f : Bool → Store → Rs D} {Q : VK} (s : Stp A0 H0 A H) (h : Pst K fa W A0 H0 σ (r.bnd f) Q) :
    PstB K fa W A H σ r fun b H1 => ∃ A1 μ, Stp A H A1 H1 ∧ RelM K fa H1 A1 μ ∧ Pst K fa W A0 H0 σ (f b μ) Q := by
  cases r with
  | ok b μ => intro H' A' s' r'; exact ⟨A', μ, s', r', h⟩
  | ex e μ => intro cls dd H' A' s' r x; exact h cls dd H' A' (s.trans s') r x
  | no => exact h
theorem PstL.bnd {r : Rs (List D)} {f : List D → Store → Rs D} {Q : VK} (s : Stp A0 H0 A H) (h : Pst K fa W A0 H0 σ (r.bnd f) Q) :
    PstL K fa W A H σ r fun vs H1 => ∃ A1 ds μ F, GoodL K fa A H μ ds vs H1 A1 F ∧ Pst K fa W A0 H0 σ (f ds μ) Q := by
  cases r with
  | ok d μ => intro v H' A' F g; exact ⟨A', d, μ, F, g, h⟩
  | ex e μ => intro cls dd H' A' s' r x; exact h cls dd H' A' (s.trans s') r x
  | no => exact h
theorem Pst.bndL {r : Rs D} {f : D → Store → Rs (List D)} {Q : List V → Hp → Prop} (s : Stp A0 H0 A H) (h : PstL K fa W A0 H0 σ (r.bnd f) Q) :
    Pst K fa W A H σ r fun v H1 => ∃ A1 d μ F, Good K fa A H μ d v H1 A1 F ∧ PstL K fa W A0 H0 σ (f d μ) Q := by
  cases r with
  | ok d μ => intro v H' A' F g; exact ⟨A', d, μ, F, g, h⟩
  | ex e μ => intro cls dd H' A' s' r x; exact h cls dd H' A' (s.trans s') r x
  | no => exact h
theorem PstL.bndL {r : Rs (List D)} {f : List D → Store → Rs (List D)} {Q : List V → Hp → Prop} (s : Stp A0 H0 A H) (h : PstL K fa W A0 H0 σ (r.bnd f) Q) :
    PstL K fa W A H σ r fun vs H1 => ∃ A1 ds μ F, GoodL K fa A H μ ds vs H1 A1 F ∧ PstL K fa W A0 H0 σ (f ds μ) Q := by
  cases r with
  | ok d μ => intro v H' A' F g; exact ⟨A', d, μ, F, g, h⟩
  | ex e μ => intro cls dd H' A' s' r x; exact h cls dd H' A' (s.trans s') r x
  | no => exact h
/-- what has no fresh lists -/
theorem Pst.done {μ : Store} {d : D} {v : V} {Q : VK} (s : Stp A0 H0 A H) (r : RelM K fa H A μ) (q : Rep K fa H A v d []) (h : Pst K fa W A0 H0 σ (.ok d μ) Q) : Q v H :=
  h v H A [] ⟨s, r, q, List.nodup_nil, by simp⟩
theorem Pst.of {o : Option D} {μ : Store} {Q : VK} (h : Pst K fa W A0 H0 σ (Rs.of o μ) Q) : ∃ d, o = some d ∧ Pst K fa W A0 H0 σ (.ok d μ) Q := by
  cases o with
  | none => exact h.elim
  | some d => exact ⟨d, rfl, h⟩
theorem PstB.of {o : Option Bool} {μ : Store} {Q : Bool → Hp → Prop} (h : PstB K fa W A0 H0 σ (Rs.of o μ) Q) : ∃ d, o = some d ∧ PstB K fa W A0 H0 σ (.ok d μ) Q := by
  cases o with
  | none => exact h.elim
  | some d => exact ⟨d, rfl, h⟩

section
variable (G : String → Option D) (call : String → List D → Store → Rs D) (K fa W)
def tD (c : C) : TE := fun σ H Q => ∃ A ρ μ, RelM K fa H A μ ∧ RelE K fa H A ρ σ ∧ Pst K fa W A H σ (ev G call c ρ μ) Q
def tL (l : Cs) : TA := fun σ H Q => ∃ A ρ μ, RelM K fa H A μ ∧ RelE K fa H A ρ σ ∧ PstL K fa W A H σ (evs G call l ρ μ) Q
def tB (c : C) : TT := fun σ H Q => ∃ A ρ μ, RelM K fa H A μ ∧ RelE K fa H A ρ σ ∧ PstB K fa W A H σ ((ev G call c ρ μ).bnd fun x μ => Rs.of (truth μ x) μ) Q
def tAn (l : Cs) : TE := fun σ H Q => ∃ A ρ μ, RelM K fa H A μ ∧ RelE K fa H A ρ σ ∧ Pst K fa W A H σ (evAnd G call l ρ μ) Q
def tOr' (l : Cs) : TE := fun σ H Q => ∃ A ρ μ, RelM K fa H A μ ∧ RelE K fa H A ρ σ ∧ Pst K fa W A H σ (evOr G call l ρ μ) Q
def tAnB (l : Cs) : TT := fun σ H Q => ∃ A ρ μ, RelM K fa H A μ ∧ RelE K fa H A ρ σ ∧ PstB K fa W A H σ ((evAnd G call l ρ μ).bnd fun x μ => Rs.of (truth μ x) μ) Q
def tOrB (l : Cs) : TT := fun σ H Q => ∃ A ρ μ, RelM K fa H A μ ∧ RelE K fa H A ρ σ ∧ PstB K fa W A H σ ((evOr G call l ρ μ).bnd fun x μ => Rs.of (truth μ x) μ) Q
def tIfs (l : Cs) : TT := fun σ H Q => ∃ A ρ μ, RelM K fa H A μ ∧ RelE K fa H A ρ σ ∧ PstB K fa W A H σ (evIfs G call l ρ μ) Q
end

/-- two values, one behind the other -/
structure Two (K : PySem.W.Frag) (fa : String → Option Addr) (A : List Addr) (H : Hp) (x y : D) (v w : V) (H2 : Hp) (A2 : List Addr) (μ : Store) (F1 F2 : List Addr) : Prop where
  stp : Stp A H A2 H2
  mem : RelM K fa H2 A2 μ
  one : Rep K fa H2 A2 v x F1
  two : Rep K fa H2 A2 w y F2
  nd : (F1 ++ F2).Nodup
  new : ∀ a ∈ F1 ++ F2, H a = none ∧ a ∉ A2
theorem Two.of {x y : D} {v w : V} {μ μ2 : Store} {F1 F2 : List Addr} (g1 : Good K fa A H μ x v H1 A1 F1) (g2 : Good K fa A1 H1 μ2 y w H2 A2 F2) : Two K fa A H x y v w H2 A2 μ2 F1 F2 := by
  refine ⟨g1.stp.trans g2.stp, g2.mem, g1.rep.step g2.stp fun a ha => (g1.new a ha).2, g2.rep, List.nodup_append.mpr ⟨g1.nd, g2.nd, fun a ha b hb e => ?_⟩, fun a ha => ?_⟩
  · subst e
    obtain ⟨vs, t⟩ := g1.tracked a ha
    rw [(g2.new a hb).1] at t; cases t
  · rcases List.mem_append.mp ha with ha | ha
    · obtain ⟨vs, t⟩ := g1.tracked a ha
      exact ⟨(g1.new a ha).1, g2.stp.out t (g1.new a ha).2⟩
    · exact ⟨g1.stp.free (g2.new a ha).1, (g2.new a ha).2⟩
theorem two_ok {G : String → Option D} {call : String → List D → Store → Rs D} {a b : C} {ρ : Env} {μ : Store} {f : D → D → Store → Rs D} {Q : VK} (r : RelM K fa H A μ) (e : RelE K fa H A ρ σ)
    (h : Pst K fa W A H σ ((ev G call a ρ μ).bnd fun x μ => (ev G call b ρ μ).bnd fun y μ => f x y μ) Q) :
    tD K fa W G call a σ H fun v H1 => tD K fa W G call b σ H1 fun w H2 => ∃ x y A2 μ2 F1 F2, Two K fa A H x y v w H2 A2 μ2 F1 F2 ∧ Pst K fa W A H σ (f x y μ2) Q := by
  refine ⟨A, ρ, μ, r, e, ?_⟩
  have mono : ∀ {r : Rs D} {A : List Addr} {H : Hp} {Q Q' : VK}, Pst K fa W A H σ r Q → (∀ v H, Q v H → Q' v H) → Pst K fa W A H σ r Q' := by
    intro r A H Q Q' h m
    cases r with
    | ok d μ => intro v H' A' F g; exact m _ _ (h v H' A' F g)
    | ex e μ => exact h
    | no => exact h
  refine mono (Pst.bnd Stp.refl h) fun v H1 ⟨A1, x, μ1, F1, g1, h1⟩ => ?_
  refine ⟨A1, ρ, μ1, g1.mem, e.step g1.stp, ?_⟩
  exact mono (Pst.bnd g1.stp h1) fun w H2 ⟨A2, y, μ2, F2, g2, h2⟩ => ⟨x, y, A2, μ2, F1, F2, Two.of g1 g2, h2⟩
theorem Pst.mono {r : Rs D} {Q Q' : VK} (h : Pst K fa W A H σ r Q) (m : ∀ v H, Q v H → Q' v H) : Pst K fa W A H σ r Q' := by
  cases r with
  | ok d μ => intro v H' A' F g; exact m _ _ (h v H' A' F g)
  | ex e μ => exact h
  | no => exact h
theorem PstL.mono {r : Rs (List D)} {Q Q' : List V → Hp → Prop} (h : PstL K fa W A H σ r Q) (m : ∀ v H, Q v H → Q' v H) : PstL K fa W A H σ r Q' := by
  cases r with
  | ok d μ => intro v H' A' F g; exact m _ _ (h v H' A' F g)
  | ex e μ => exact h
  | no => exact h
theorem PstB.mono {r : Rs Bool} {Q Q' : Bool → Hp → Prop} (h : PstB K fa W A H σ r Q) (m : ∀ v H, Q v H → Q' v H) : PstB K fa W A H σ r Q' := by
  cases r with
  | ok d μ => intro H' A' s g; exact m _ _ (h H' A' s g)
  | ex e μ => exact h
  | no => exact h
end

/-! ### weaker readings -/
theorem PE.imp {X : Cx} {e : Expr} {t t' : TE} (h : PE X e t) (m : ∀ σ H Q, t' σ H Q → t σ H Q) : PE X e t' := ⟨fun pins s σ H Q I q => h.run pins s σ H Q I (m σ H Q q)⟩
theorem PT.imp {X : Cx} {e : Expr} {t t' : TT} (h : PT X e t) (m : ∀ σ H Q, t' σ H Q → t σ H Q) : PT X e t' := ⟨fun pins s σ H Q I q => h.run pins s σ H Q I (m σ H Q q)⟩
theorem PW.imp {X : Cx} {e : Expr} {t t' : TT} (h : PW X e t) (m : ∀ σ H Q, t' σ H Q → t σ H Q) : PW X e t' := ⟨fun wh pins s σ H Q I q => h.run wh pins s σ H Q I (m σ H Q q)⟩
theorem PA.imp {X : Cx} {e : List Expr} {t t' : TA} (h : PA X e t) (m : ∀ σ H Q, t' σ H Q → t σ H Q) : PA X e t' := ⟨fun pos pins s σ H Q I q => h.run pos pins s σ H Q I (m σ H Q q)⟩

/-! ### truth, equality -/
section
variable {K : PySem.W.Frag} {fa : String → Option Addr} {A : List Addr} {H : Hp}
theorem toS_length (s : List Nat) : (toS s).length = s.length := by simp [toS, Str.length]
theorem okS_len {s : List Nat} (h : okS s = true) : s.length ≤ sizeLine := by
  rw [sizeLine_eq]
  exact of_decide_eq_true (Bool.and_eq_true_iff.mp h).1
theorem isEmpty_len {α β : Type} {xs : List α} {ys : List β} (h : xs.length = ys.length) : xs.isEmpty = ys.isEmpty := by
  cases xs <;> cases ys <;> simp_all
theorem Rep.getL {μ : Store} {n : Nat} {l : List D} {a : Addr} (r : RelM K fa H A μ) (h : A[n]? = some a) (e : getL μ n = some l) : ∃ vs, H a = some (.lst vs) ∧ Reps K fa H A vs l [] := by
  obtain ⟨o, h1, h2⟩ := r.at h
  unfold Mp.getL at e
  rw [h1] at e
  cases o with
  | lst l' => cases e; exact h2
theorem truV_of {μ : Store} {v : V} {d : D} {F : List Addr} {k : Bool} (r : RelM K fa H A μ) (q : Rep K fa H A v d F) (e : truth μ d = some k) : TruV K v H k := by
  cases q with
  | non => cases e; rfl
  | bl b => cases e; rfl
  | int i => cases e; rfl
  | str s h =>
    cases e
    refine ⟨by rw [toS_length]; exact okS_len h, ?_⟩
    rw [toS_length]
    cases s with
    | nil => rfl
    | cons c s =>
      simp only [List.isEmpty_cons, List.length_cons]
      symm
      simp
      omega
  | fn h => cases e
  | fz h hp t => cases e; exact .inl ⟨_, h, by rw [isEmpty_len t.length]⟩
  | ref h =>
    simp only [truth, Option.map_eq_some_iff] at e
    obtain ⟨l, e1, e2⟩ := e
    subst e2
    obtain ⟨vs, h1, h2⟩ := Rep.getL r h e1
    exact .inl ⟨vs, .of h1, by rw [isEmpty_len h2.length]⟩
  | tup h t => cases e; exact .inr (.inl ⟨_, h, by rw [isEmpty_len t.length]⟩)
  | tl h t => cases e; exact .inl ⟨_, .of h, by rw [isEmpty_len t.length]⟩
-- a plain datum as data of the library
mutual
def toP : D → PyData
  | .bl b => .bool b
  | .int i => .int i
  | .str s => .str (toS s)
  | .tup l => .tuple (toPs l)
  | .tl l => .list (toPs l)
  | _ => .none
def toPs : List D → List PyData
  | [] => []
  | d :: ds => toP d :: toPs ds
end
end
end Mp
end SSnd3
section SSnd4
/-! Snd4: the operations by values. -/
namespace Mp
open PySem PySem.Spec PyProof.Rows L2
section
variable {K : PySem.W.Frag} {fa : String → Option Addr} {W : WX} {A A0 A1 A2 : List Addr} {H H0 H1 H2 : Hp} {σ : L2.St} {X : Cx}

/-! ### equality -/
theorem okS_str {s : List Nat} (h : okS s = true) : PyData.strOk (toS s) = true := by
  have h2 := (Bool.and_eq_true_iff.mp h).2
  unfold PyData.strOk toS
  simp only [List.all_eq_true, decide_eq_true_eq] at h2
  simp only [Array.all_eq_true_iff_forall_mem, decide_eq_true_eq]
  intro x hx
  exact h2 x (by simpa using hx)
mutual
theorem dp_plain : ∀ {v : V} {d : D} {F : List Addr}, Rep K fa H A v d F → d.plain = true → Dp K H v (toP d) ∧ (toP d).canLay0 = true
  | _, .non, _, h, _ => by cases h; exact ⟨.non, by simp [toP, PyData.canLay0]⟩
  | _, .bl b, _, h, _ => by cases h; exact ⟨.bl _, by simp [toP, PyData.canLay0]⟩
  | _, .int i, _, h, _ => by cases h; exact ⟨.int _, by simp [toP, PyData.canLay0]⟩
  | _, .str s, _, h, _ => by cases h with | str _ h => exact ⟨.str _, by simpa [toP, PyData.canLay0] using okS_str h⟩
  | _, .fn _, _, _, e => by simp [D.plain] at e
  | _, .fz _, _, _, e => by simp [D.plain] at e
  | _, .ref _, _, _, e => by simp [D.plain] at e
  | _, .tup l, _, h, e => by
    cases h with
    | tup h r =>
      obtain ⟨h1, h2⟩ := dps_plain r (by simpa [D.plain] using e)
      exact ⟨.tup h h1, by simpa [toP, PyData.canLay0] using h2⟩
  | _, .tl l, _, h, e => by
    cases h with
    | tl h r =>
      obtain ⟨h1, h2⟩ := dps_plain r (by simpa [D.plain] using e)
      exact ⟨.lst (.of h) h1, by simpa [toP, PyData.canLay0] using h2⟩
theorem dps_plain : ∀ {vs : List V} {ds : List D} {F : List Addr}, Reps K fa H A vs ds F → D.plains ds = true → DpAll K H vs (toPs ds) ∧ PyData.canLayAll0 (toPs ds) = true
  | _, [], _, h, _ => by cases h; exact ⟨.nil, by simp [toPs, PyData.canLayAll0]⟩
  | _, d :: ds, _, h, e => by
    have e' : d.plain = true ∧ D.plains ds = true := by simpa [D.plains] using e
    cases h with
    | cons r t =>
      obtain ⟨h1, h2⟩ := dp_plain r e'.1
      obtain ⟨h3, h4⟩ := dps_plain t e'.2
      exact ⟨.cons h1 h3, by simp [toPs, PyData.canLayAll0, h2, h4]⟩
end
theorem dp_rsv {μ : Store} (r : RelM K fa H A μ) : ∀ (f : Nat) {d x : D} {v : V} {F : List Addr}, rsv μ f d = some x → Rep K fa H A v d F → Dp K H v (toP x) ∧ (toP x).canLay0 = true ∧ x.plain = true
  | 0, _, _, _, _, h, _ => by simp [rsv] at h
  | f + 1, d, x, v, F, h, q => by
    have many : ∀ {l rs : List D} {vs : List V} {F : List Addr}, l.mapM (rsv μ f) = some rs → Reps K fa H A vs l F → DpAll K H vs (toPs rs) ∧ PyData.canLayAll0 (toPs rs) = true ∧ D.plains rs = true := by
      intro l
      induction l with
      | nil =>
        intro rs vs F h q
        simp at h; subst h
        cases q
        exact ⟨.nil, by simp [toPs, PyData.canLayAll0], by simp [D.plains]⟩
      | cons y ys ih =>
        intro rs vs F h q
        rcases mapM_some h with ⟨z, _⟩ | ⟨x', xs', y', ys', e1, e2, h1, h2⟩
        · cases z
        · cases e1; subst e2
          cases q with
          | cons q1 q2 =>
            obtain ⟨a1, a2, a3⟩ := dp_rsv r f h1 q1
            obtain ⟨b1, b2, b3⟩ := ih h2 q2
            exact ⟨.cons a1 b1, by simp [toPs, PyData.canLayAll0, a2, b2], by simp [D.plains, a3, b3]⟩
    cases d with
    | tl l =>
      simp only [rsv, Option.map_eq_some_iff] at h
      obtain ⟨rs, h1, h2⟩ := h
      subst h2
      cases q with
      | tl hs q =>
        obtain ⟨b1, b2, b3⟩ := many h1 q
        exact ⟨.lst (.of hs) b1, by simpa [toP, PyData.canLay0] using b2, by simpa [D.plain] using b3⟩
    | tup l =>
      simp only [rsv, Option.map_eq_some_iff] at h
      obtain ⟨rs, h1, h2⟩ := h
      subst h2
      cases q with
      | tup hs q =>
        obtain ⟨b1, b2, b3⟩ := many h1 q
        exact ⟨.tup hs b1, by simpa [toP, PyData.canLay0] using b2, by simpa [D.plain] using b3⟩
    | ref m =>
      simp only [rsv] at h
      split at h
      · rename_i l hl
        simp only [Option.map_eq_some_iff] at h
        obtain ⟨rs, h1, h2⟩ := h
        subst h2
        cases q with
        | ref e =>
          obtain ⟨vs, hv, q2⟩ := Rep.getL r e hl
          obtain ⟨b1, b2, b3⟩ := many h1 q2
          exact ⟨.lst (.of hv) b1, by simpa [toP, PyData.canLay0] using b2, by simpa [D.plain] using b3⟩
      · cases h
    | non => simp only [rsv] at h; cases h; exact ⟨(dp_plain q rfl).1, (dp_plain q rfl).2, rfl⟩
    | bl b => simp only [rsv] at h; cases h; exact ⟨(dp_plain q rfl).1, (dp_plain q rfl).2, rfl⟩
    | int i => simp only [rsv] at h; cases h; exact ⟨(dp_plain q rfl).1, (dp_plain q rfl).2, rfl⟩
    | str s => simp only [rsv] at h; cases h; exact ⟨(dp_plain q rfl).1, (dp_plain q rfl).2, rfl⟩
    | fn x => simp [rsv] at h
    | fz l => simp [rsv] at h
theorem dp_of {μ : Store} (r : RelM K fa H A μ) {d x : D} {v : V} {F : List Addr} (h : plainOf μ d = some x) (q : Rep K fa H A v d F) : Dp K H v (toP x) ∧ (toP x).canLay0 = true ∧ x.plain = true := by
  unfold plainOf at h
  split at h
  · rename_i hp
    cases h
    exact ⟨(dp_plain q hp).1, (dp_plain q hp).2, hp⟩
  · exact dp_rsv r 64 h q
mutual
theorem dep_toP : ∀ d : D, (toP d).depth ≤ d.dep + 1
  | .non | .bl _ | .int _ | .str _ | .fn _ | .ref _ | .fz _ => by simp [toP, PyData.depth]
  | .tup l => by
    have := deps_toP l
    simp only [toP, PyData.depth, D.dep]; omega
  | .tl l => by
    have := deps_toP l
    simp only [toP, PyData.depth, D.dep]; omega
theorem deps_toP : ∀ l : List D, PyData.depthAll (toPs l) ≤ D.deps l + 1
  | [] => by simp [toPs, PyData.depthAll]
  | d :: ds => by
    have h1 := dep_toP d
    have h2 := deps_toP ds
    simp only [toPs, PyData.depthAll, D.deps]; omega
end
theorem toS_beq (x y : List Nat) : (toS x == toS y) = (x == y) := by
  by_cases h : x = y
  · subst h; simp
  · have : toS x ≠ toS y := fun e => h (by simpa [toS] using e)
    rw [beq_eq_false_iff_ne.mpr h, beq_eq_false_iff_ne.mpr this]
mutual
theorem eqv_toP : ∀ (x y : D), x.plain = true → y.plain = true → PyData.eqv (toP x) (toP y) = peq x y
  | .non, y, _, hy => by cases y <;> simp_all [toP, PyData.eqv, peq, D.plain]
  | .bl a, y, _, hy => by cases y <;> simp_all [toP, PyData.eqv, peq, D.plain]
  | .int a, y, _, hy => by cases y <;> simp_all [toP, PyData.eqv, peq, D.plain]
  | .str a, y, _, hy => by cases y <;> simp_all [toP, PyData.eqv, peq, D.plain, toS_beq]
  | .fn _, _, hx, _ => by simp [D.plain] at hx
  | .ref _, _, hx, _ => by simp [D.plain] at hx
  | .fz _, _, hx, _ => by simp [D.plain] at hx
  | .tup l, y, hx, hy => by
    cases y with
    | tup m => simpa [toP, PyData.eqv, peq] using eqvs_toP l m (by simpa [D.plain] using hx) (by simpa [D.plain] using hy)
    | _ => simp_all [toP, PyData.eqv, peq, D.plain]
  | .tl l, y, hx, hy => by
    cases y with
    | tl m => simpa [toP, PyData.eqv, peq] using eqvs_toP l m (by simpa [D.plain] using hx) (by simpa [D.plain] using hy)
    | _ => simp_all [toP, PyData.eqv, peq, D.plain]
theorem eqvs_toP : ∀ (x y : List D), D.plains x = true → D.plains y = true → PyData.eqvAll (toPs x) (toPs y) = peqs x y
  | [], y, _, _ => by cases y <;> simp [toPs, PyData.eqvAll, peqs]
  | x :: xs, y, hx, hy => by
    have hx' : x.plain = true ∧ D.plains xs = true := by simpa [D.plains] using hx
    cases y with
    | nil => simp [toPs, PyData.eqvAll, peqs]
    | cons y ys =>
      have hy' : y.plain = true ∧ D.plains ys = true := by simpa [D.plains] using hy
      simp only [toPs, PyData.eqvAll, peqs]
      rw [eqv_toP x y hx'.1 hy'.1, eqvs_toP xs ys hx'.2 hy'.2]
end
theorem eqD_ok {μ : Store} (r : RelM K fa H A μ) {d e : D} {v w : V} {F F' : List Addr} {b : Bool} (h : eqD μ d e = some b) (q : Rep K fa H A v d F) (q' : Rep K fa H A w e F') :
    ∃ x y, Dp K H v x ∧ Dp K H w y ∧ SeqAt.shaped x = true ∧ SeqAt.shaped y = true ∧ PyData.eqv x y = b := by
  unfold eqD at h
  rw [Option.bind_eq_some_iff] at h
  obtain ⟨x, hx, h⟩ := h
  rw [Option.bind_eq_some_iff] at h
  obtain ⟨y, hy, h⟩ := h
  split at h
  · rename_i hd
    cases h
    obtain ⟨a1, a2, a3⟩ := dp_of r hx q
    obtain ⟨b1, b2, b3⟩ := dp_of r hy q'
    have d1 := dep_toP x
    have d2 := dep_toP y
    refine ⟨_, _, a1, b1, ?_, ?_, eqv_toP x y a3 b3⟩
    · unfold SeqAt.shaped; rw [a2]; exact decide_eq_true (by omega)
    · unfold SeqAt.shaped; rw [b2]; exact decide_eq_true (by omega)
  · cases h

/-! ### in, of flat things -/
theorem flat_of {v : V} {d : D} {F : List Addr} (q : Rep K fa H A v d F) (h : d.flat = true) : flatV v = true := by
  cases q <;> first | rfl | (simp [D.flat] at h)
theorem flats_of : ∀ {vs : List V} {ds : List D} {F : List Addr}, Reps K fa H A vs ds F → ds.all D.flat = true → vs.all flatV = true
  | _, _, _, .nil, _ => rfl
  | _, _, _, .cons r t, h => by
    simp only [List.all_cons, Bool.and_eq_true] at h ⊢
    exact ⟨flat_of r h.1, flats_of t h.2⟩
theorem eqV_of {v w : V} {d e : D} {F F' : List Addr} (q : Rep K fa H A v d F) (q' : Rep K fa H A w e F') (h : d.flat = true) (h' : e.flat = true) : eqV v w = peq d e := by
  cases q <;> (try (simp [D.flat] at h)) <;> cases q' <;> (try (simp [D.flat] at h')) <;> simp [eqV, peq, toS_beq]
theorem inV_of {v : V} {d : D} {F : List Addr} (q : Rep K fa H A v d F) (h : d.flat = true) : ∀ {vs : List V} {ds : List D} {F' : List Addr}, Reps K fa H A vs ds F' → ds.all D.flat = true → inV v vs = ds.any fun y => peq y d
  | _, _, _, .nil, _ => rfl
  | _, _, _, .cons r t, h' => by
    simp only [List.all_cons, Bool.and_eq_true] at h'
    have := inV_of q h t h'.2
    unfold inV at this ⊢
    simp only [List.any_cons, eqV_of r q h'.1 h, this]

/-! ### two values in, a bool out -/
def opC : CmpK → CmpOp
  | .eq => .Eq | .ne => .NotEq | .lt => .Lt | .le => .LtE | .gt => .Gt | .ge => .GtE | .is => .Is | .isnot => .IsNot | .inn => .In | .notin => .NotIn
theorem non_iff {v : V} {d : D} {F : List Addr} (q : Rep K fa H A v d F) : decide (v = .non) = decide (d = .non) := by
  cases q <;> simp
theorem cmpop_ok (op : CmpK) (hu : X.A.units + 64 < cLine) : ∃ r : R2, OpR X (compareOp (opC op)) r ∧
    ∀ {A0 : List Addr} {H0 : Hp} {x y : D} {v w : V} {H2 : Hp} {A2 : List Addr} {μ : Store} {F1 F2 : List Addr} {b : Bool} {Q : VK}, Two X.K fa A0 H0 x y v w H2 A2 μ F1 F2 → cmpop μ op x y = some b → Q (.bl b) H2 → r v w H2 Q := by
  cases op with
  | eq =>
    refine ⟨_, op_eqD hu, fun {A0 H0 x y v w H2 A2 μ F1 F2 b Q} t e q => ?_⟩
    obtain ⟨dx, dy, h1, h2, h3, h4, h5⟩ := eqD_ok t.mem e t.one t.two
    exact ⟨dx, dy, h1, h2, h3, h4, by rw [h5]; exact q⟩
  | ne =>
    refine ⟨_, op_neD hu, fun {A0 H0 x y v w H2 A2 μ F1 F2 b Q} t e q => ?_⟩
    simp only [cmpop, Option.map_eq_some_iff] at e
    obtain ⟨c, e, rfl⟩ := e
    obtain ⟨dx, dy, h1, h2, h3, h4, h5⟩ := eqD_ok t.mem e t.one t.two
    exact ⟨dx, dy, h1, h2, h3, h4, by rw [h5]; exact q⟩
  | lt =>
    refine ⟨_, op_lt, fun {A0 H0 x y v w H2 A2 μ F1 F2 b Q} t e q => ?_⟩
    unfold cmpop at e
    split at e <;> first | contradiction | skip
    rename_i i j _
    cases e
    cases t.one; cases t.two
    exact ⟨_, _, rfl, rfl, q⟩
  | le =>
    refine ⟨_, op_le, fun {A0 H0 x y v w H2 A2 μ F1 F2 b Q} t e q => ?_⟩
    unfold cmpop at e
    split at e <;> first | contradiction | skip
    rename_i i j _
    cases e
    cases t.one; cases t.two
    exact ⟨_, _, rfl, rfl, q⟩
  | gt =>
    refine ⟨_, op_gt, fun {A0 H0 x y v w H2 A2 μ F1 F2 b Q} t e q => ?_⟩
    unfold cmpop at e
    split at e <;> first | contradiction | skip
    rename_i i j _
    cases e
    cases t.one; cases t.two
    exact ⟨_, _, rfl, rfl, q⟩
  | ge =>
    refine ⟨_, op_ge, fun {A0 H0 x y v w H2 A2 μ F1 F2 b Q} t e q => ?_⟩
    unfold cmpop at e
    split at e <;> first | contradiction | skip
    rename_i i j _
    cases e
    cases t.one; cases t.two
    exact ⟨_, _, rfl, rfl, q⟩
  | is =>
    refine ⟨_, op_isN, fun {A0 H0 x y v w H2 A2 μ F1 F2 b Q} t e q => ?_⟩
    unfold cmpop at e
    split at e <;> first | contradiction | skip
    cases e
    have h := non_iff t.one
    cases t.two
    exact ⟨rfl, by rw [h]; exact q⟩
  | isnot =>
    refine ⟨_, op_notN, fun {A0 H0 x y v w H2 A2 μ F1 F2 b Q} t e q => ?_⟩
    unfold cmpop at e
    split at e <;> first | contradiction | skip
    cases e
    have h := non_iff t.one
    cases t.two
    exact ⟨rfl, by rw [h]; exact q⟩
  | inn =>
    refine ⟨_, op_in_seq, fun {A0 H0 x y v w H2 A2 μ F1 F2 b Q} t e q => ?_⟩
    unfold cmpop at e
    split at e <;> first | contradiction | skip
    rename_i l _
    unfold inRow at e
    split at e
    · rename_i hf
      cases e
      cases t.two with
      | tup hs r =>
        refine ⟨_, _, rfl, .inr hs, flat_of t.one hf.1, flats_of r hf.2, ?_⟩
        rw [if_neg Bool.false_ne_true, inV_of t.one hf.1 r hf.2]
        exact q
    · cases e
  | notin =>
    refine ⟨_, op_notIn_seq, fun {A0 H0 x y v w H2 A2 μ F1 F2 b Q} t e q => ?_⟩
    unfold cmpop at e
    split at e <;> first | contradiction | skip
    rename_i l _
    unfold inRow at e
    split at e
    · rename_i hf
      cases e
      cases t.two with
      | tup hs r =>
        refine ⟨_, _, rfl, .inr hs, flat_of t.one hf.1, flats_of r hf.2, ?_⟩
        rw [if_pos rfl, inV_of t.one hf.1 r hf.2]
        exact q
    · cases e

/-! ### arithmetic and concatenation -/
def opB : BinK → Operator
  | .add => .Add | .sub => .Sub | .mul => .Mult | .fdiv => .FloorDiv | .mod => .Mod | .pow => .Pow
theorem okS_append {x y : List Nat} (hx : okS x = true) (hy : okS y = true) (h : x.length + y.length ≤ LIM) : okS (x ++ y) = true := by
  unfold okS at *
  simp only [Bool.and_eq_true, List.all_append, List.length_append, decide_eq_true_eq] at *
  exact ⟨h, hx.2, hy.2⟩
theorem toS_append (x y : List Nat) : toS x ++ toS y = toS (x ++ y) := by
  show Str.mk (x.toArray ++ y.toArray) = Str.mk (x ++ y).toArray
  simp
theorem Two.new1 {x y : D} {v w : V} {μ : Store} {F1 F2 : List Addr} (t : Two K fa A H x y v w H2 A2 μ F1 F2) : ∀ a ∈ F1, a ∉ A2 := fun a ha => (t.new a (List.mem_append_left _ ha)).2
theorem Two.new2 {x y : D} {v w : V} {μ : Store} {F1 F2 : List Addr} (t : Two K fa A H x y v w H2 A2 μ F1 F2) : ∀ a ∈ F2, a ∉ A2 := fun a ha => (t.new a (List.mem_append_right _ ha)).2
/-- the pair's second value itself is what comes -/
theorem Two.snd {x y : D} {v w : V} {μ : Store} {F1 F2 : List Addr} (t : Two K fa A H x y v w H2 A2 μ F1 F2) : Good K fa A H μ y w H2 A2 F2 :=
  ⟨t.stp, t.mem, t.two, (List.nodup_append.mp t.nd).2.1, fun a ha => t.new a (List.mem_append_right _ ha)⟩
theorem Two.fst {x y : D} {v w : V} {μ : Store} {F1 F2 : List Addr} (t : Two K fa A H x y v w H2 A2 μ F1 F2) : Good K fa A H μ x v H2 A2 F1 :=
  ⟨t.stp, t.mem, t.one, (List.nodup_append.mp t.nd).1, fun a ha => t.new a (List.mem_append_left _ ha)⟩
theorem binop_ok (op : BinK) : ∃ r : R2, OpR X (binaryOp (opB op)) r ∧
    ∀ {A0 : List Addr} {H0 : Hp} {x y z : D} {v w : V} {H2 : Hp} {A2 : List Addr} {μ : Store} {F1 F2 : List Addr} {Q : VK}, Two X.K fa A0 H0 x y v w H2 A2 μ F1 F2 → binop μ op x y = some z → Pst X.K fa W A0 H0 σ (.ok z μ) Q → r v w H2 Q := by
  cases op with
  | add =>
    refine ⟨_, OpR.or op_add (OpR.or op_add_str op_catA), fun {A0 H0 x y z v w H2 A2 μ F1 F2 Q} t e q => ?_⟩
    unfold binop at e
    split at e <;> first | contradiction | skip
    · cases e
      have m := t.mem; have s := t.stp
      cases t.one; cases t.two
      exact .inl ⟨_, _, rfl, rfl, q.done s m (.int _)⟩
    · rename_i a b _
      split at e
      · rename_i hl
        cases e
        have m := t.mem; have s := t.stp
        cases t.one with
        | str _ h1 =>
          cases t.two with
          | str _ h2 =>
            refine .inr (.inl ⟨_, _, rfl, rfl, by rw [toS_length, toS_length, sizeLine_eq]; exact hl, ?_⟩)
            rw [toS_append]
            exact q.done s m (.str _ (okS_append h1 h2 hl))
      · cases e
    · rename_i a b _
      split at e
      · rename_i hl
        cases e
        have t' := t
        cases t with
        | mk stp mem one two nd new =>
          cases one with
          | @tup _ vs1 _ _ hs r1 =>
            cases two with
            | @tup _ vs2 _ _ hs2 r2 =>
              refine .inr (.inr ⟨_, _, _, _, rfl, rfl, hs, hs2, by rw [r1.length, r2.length, sizeLine_eq]; exact hl, fun e0 => ?_, fun e0 e1 => ?_, fun e0 e1 p hp => ?_⟩)
              · subst e0
                cases r1
                exact q _ _ _ _ t'.snd
              · subst e1
                cases r2
                have g := t'.fst
                rw [List.append_nil] at q
                exact q _ _ _ _ g
              · have sn : Stp A2 H2 A2 (upd H2 p (.tup (vs1 ++ vs2))) := Stp.new hp
                exact q _ _ A2 (F1 ++ F2) ⟨stp.trans sn, mem.new hp, .tup (.of upd_same) ((r1.append r2).step sn fun a ha => (new a ha).2), nd, new⟩
      · cases e
  | sub =>
    refine ⟨_, op_sub, fun {A0 H0 x y z v w H2 A2 μ F1 F2 Q} t e q => ?_⟩
    unfold binop at e
    split at e <;> first | contradiction | skip
    cases e
    have m := t.mem; have s := t.stp
    cases t.one; cases t.two
    exact ⟨_, _, rfl, rfl, q.done s m (.int _)⟩
  | mul =>
    refine ⟨_, op_mul, fun {A0 H0 x y z v w H2 A2 μ F1 F2 Q} t e q => ?_⟩
    unfold binop at e
    split at e <;> first | contradiction | skip
    split at e
    · rename_i hm
      cases e
      have m := t.mem; have s := t.stp
      cases t.one; cases t.two
      refine ⟨_, _, rfl, rfl, ?_, q.done s m (.int _)⟩
      unfold mulOk at hm
      simpa [CMul] using hm
    · cases e
  | fdiv =>
    refine ⟨_, op_fdivN, fun {A0 H0 x y z v w H2 A2 μ F1 F2 Q} t e q => ?_⟩
    unfold binop at e
    split at e <;> first | contradiction | skip
    split at e
    · rename_i hm
      cases e
      have m := t.mem; have s := t.stp
      cases t.one; cases t.two
      exact ⟨_, _, rfl, rfl, hm, q.done s m (.int _)⟩
    · cases e
  | mod =>
    refine ⟨_, op_modN, fun {A0 H0 x y z v w H2 A2 μ F1 F2 Q} t e q => ?_⟩
    unfold binop at e
    split at e <;> first | contradiction | skip
    split at e
    · rename_i hm
      cases e
      have m := t.mem; have s := t.stp
      cases t.one; cases t.two
      exact ⟨_, _, rfl, rfl, hm, q.done s m (.int _)⟩
    · cases e
  | pow =>
    refine ⟨_, op_pow, fun {A0 H0 x y z v w H2 A2 μ F1 F2 Q} t e q => ?_⟩
    unfold binop at e
    split at e <;> first | contradiction | skip
    split at e
    · rename_i hm
      cases e
      have m := t.mem; have s := t.stp
      cases t.one; cases t.two
      exact ⟨_, _, rfl, rfl, hm, q.done s m (.int _)⟩
    · cases e
end
end Mp
end SSnd4
section SSnd5
/-! Snd5: items, built-ins, methods, what is walked: by values. -/
namespace Mp
open PySem PySem.Spec PyProof.Rows L2
section
variable {K : PySem.W.Frag} {fa : String → Option Addr} {W : WX} {A A0 A1 A2 : List Addr} {H H0 H1 H2 : Hp} {σ : L2.St} {X : Cx}

theorem toS_list (s : List Nat) : (toS s).cps.toList = s := by simp [toS]
theorem ixN_eq (n : Nat) (i : Int) : ixN n i = ixNat n i := rfl
theorem atI_of {vs : List V} {l : List D} {F : List Addr} {i : Int} {d : D} (r : Reps K fa H A vs l F) (h : ((ixNat l.length i).bind fun j => l[j]?) = some d) : ∃ v F1, atI vs i = some v ∧ Rep K fa H A v d F1 ∧ F1.Sublist F := by
  rw [Option.bind_eq_some_iff] at h
  obtain ⟨j, h1, h2⟩ := h
  obtain ⟨v, F1, k1, k2, k3⟩ := r.get h2
  refine ⟨v, F1, ?_, k2, k3⟩
  unfold atI
  rw [ixN_eq, r.length, h1]
  exact k1
theorem Good.part {μ : Store} {d e : D} {v w : V} {F F1 : List Addr} (g : Good K fa A H μ d v H2 A2 F) (q : Rep K fa H2 A2 w e F1) (s : F1.Sublist F) : Good K fa A H μ e w H2 A2 F1 :=
  ⟨g.stp, g.mem, q, g.nd.sublist s, fun a ha => g.new a (s.subset ha)⟩
theorem getIx_ok : ∀ {A0 : List Addr} {H0 : Hp} {x y z : D} {v w : V} {H2 : Hp} {A2 : List Addr} {μ : Store} {F1 F2 : List Addr} {Q : VK}, Two X.K fa A0 H0 x y v w H2 A2 μ F1 F2 → getIx μ x y = some z → Pst X.K fa W A0 H0 σ (.ok z μ) Q → rIx X.K v w H2 Q := by
  intro A0 H0 x y z v w H2 A2 μ F1 F2 Q t e q
  have g := t.fst
  unfold getIx at e
  split at e <;> first | contradiction | skip
  · rename_i l i
    cases t.two
    cases t.one with
    | tup hs r =>
      obtain ⟨u, F3, h1, h2, h3⟩ := atI_of r e
      exact .inr (.inl ⟨_, _, _, u, rfl, rfl, hs, h1, q _ _ _ _ (g.part h2 h3)⟩)
  · rename_i l i
    cases t.two
    cases t.one with
    | tl hs r =>
      obtain ⟨u, F3, h1, h2, h3⟩ := atI_of r e
      exact .inl ⟨_, _, _, u, rfl, rfl, .of hs, h1, q _ _ _ _ (g.part h2 (h3.trans (List.sublist_append_left _ _)))⟩
  · rename_i l i
    cases t.two
    cases t.one with
    | fz hs hp r =>
      obtain ⟨u, F3, h1, h2, h3⟩ := atI_of r e
      exact .inl ⟨_, _, _, u, rfl, rfl, hs, h1, q _ _ _ _ (g.part h2 h3)⟩
  · rename_i n i
    cases t.two
    cases t.one with
    | ref hs =>
      rw [Option.bind_eq_some_iff] at e
      obtain ⟨l, e1, e2⟩ := e
      obtain ⟨vs, hv, r⟩ := Rep.getL t.mem hs e1
      obtain ⟨u, F3, h1, h2, h3⟩ := atI_of r e2
      exact .inl ⟨_, _, _, u, rfl, rfl, .of hv, h1, q _ _ _ _ (g.part h2 h3)⟩
  · rename_i s i
    have m := t.mem; have st := t.stp
    cases t.two
    cases t.one with
    | str _ hs =>
      rw [Option.bind_eq_some_iff] at e
      obtain ⟨j, e1, e2⟩ := e
      rw [Option.map_eq_some_iff] at e2
      obtain ⟨c, e2, rfl⟩ := e2
      refine .inr (.inr ⟨_, _, c, rfl, rfl, by rw [toS_length]; exact okS_len hs, ?_, ?_⟩)
      · unfold atI
        rw [ixN_eq, toS_list, e1]; exact e2
      · refine q.done st m (.str [c] ?_)
        have hc : c ∈ s := List.mem_of_getElem? e2
        unfold okS at hs ⊢
        simp only [Bool.and_eq_true, List.all_eq_true, decide_eq_true_eq] at hs ⊢
        refine ⟨by show 1 ≤ 16777216; decide, fun x hx => ?_⟩
        have : x = c := by simpa using hx
        subst this
        exact hs.2 x hc

/-! ### built-ins -/
def bltV : Blt → Value
  | .len => .builtin "len" | .tuple => .type "tuple" | .list => .type "list" | .int => .type "int" | .min => .builtin "min" | .max => .builtin "max"
  | .isinstance => .builtin "isinstance" | .sum => .builtin "sum" | .abs => .builtin "abs" | .all => .builtin "all" | .any => .builtin "any"
theorem callR_no {f : Value} : CallR X f (fun _ _ _ => False) := fun _ _ _ _ _ _ _ _ _ h => h.elim
theorem Reps.one_inv {vs : List V} {d : D} {F : List Addr} (r : Reps K fa H A vs [d] F) : ∃ v, vs = [v] ∧ Rep K fa H A v d F := by
  cases r with
  | @cons v _ _ _ F1 _ r t =>
    cases t
    exact ⟨v, rfl, by rw [List.append_nil]; exact r⟩
theorem Reps.two_inv {vs : List V} {d e : D} {F : List Addr} (r : Reps K fa H A vs [d, e] F) : ∃ v w F1 F2, vs = [v, w] ∧ F = F1 ++ F2 ∧ Rep K fa H A v d F1 ∧ Rep K fa H A w e F2 := by
  cases r with
  | @cons v _ _ _ F1 _ r t =>
    obtain ⟨w, rfl, q⟩ := t.one_inv
    exact ⟨v, w, _, _, rfl, rfl, r, q⟩
theorem GoodL.one {μ : Store} {d : D} {vs : List V} {F : List Addr} (g : GoodL K fa A H μ [d] vs H1 A1 F) : ∃ v, vs = [v] ∧ Good K fa A H μ d v H1 A1 F := by
  obtain ⟨v, rfl, q⟩ := g.rep.one_inv
  exact ⟨v, rfl, ⟨g.stp, g.mem, q, g.nd, g.new⟩⟩
theorem List.sub_of_append_left {α : Type} {l m n : List α} (h : (l ++ m).Sublist n) : l.Sublist n := (List.sublist_append_left l m).trans h
/-- a new tuple or list of the items of one -/
theorem Good.copyT {μ : Store} {l : List D} {v : V} {F F1 : List Addr} {vs : List V} {d : D} {p : Addr} (g : Good K fa A H μ d v H1 A1 F) (r : Reps K fa H1 A1 vs l F1) (s : F1.Sublist F) (hp : H1 p = none) : Good K fa A H μ (.tup l) (.ref p) (upd H1 p (.tup vs)) A1 F1 := by
  have sn : Stp A1 H1 A1 (upd H1 p (.tup vs)) := Stp.new hp
  exact ⟨g.stp.trans sn, g.mem.new hp, .tup (.of upd_same) (r.step sn fun a ha => (g.new a (s.subset ha)).2), g.nd.sublist s, fun a ha => g.new a (s.subset ha)⟩
theorem Good.copyL {μ : Store} {l : List D} {v : V} {F F1 : List Addr} {vs : List V} {d : D} {p : Addr} (g : Good K fa A H μ d v H1 A1 F) (r : Reps K fa H1 A1 vs l F1) (s : F1.Sublist F) (hp : H1 p = none) : Good K fa A H μ (.tl l) (.ref p) (upd H1 p (.lst vs)) A1 (F1 ++ [p]) := by
  have sn : Stp A1 H1 A1 (upd H1 p (.lst vs)) := Stp.new hp
  have hpF : p ∉ F1 := fun hm => by
    obtain ⟨ws, e⟩ := g.tracked p (s.subset hm)
    rw [hp] at e; cases e
  refine ⟨g.stp.trans sn, g.mem.new hp, .tl upd_same (r.step sn fun a ha => (g.new a (s.subset ha)).2), List.nodup_append.mpr ⟨g.nd.sublist s, by simp, fun a ha b hb e => ?_⟩, fun a ha => ?_⟩
  · have : b = p := by simpa using hb
    subst this
    subst e
    exact hpF ha
  · rcases List.mem_append.mp ha with ha | ha
    · exact g.new a (s.subset ha)
    · have : a = p := by simpa using ha
      subst this
      exact ⟨g.stp.free hp, g.mem.fresh hp⟩
theorem bltin_ok (f : Blt) (hc : X.calm = true) : ∃ r : List V → Hp → VK → Prop, CallR X (bltV f) r ∧
    ∀ {A0 : List Addr} {H0 : Hp} {ds : List D} {vs : List V} {H1 : Hp} {A1 : List Addr} {μ : Store} {F : List Addr} {z : D} {Q : VK}, GoodL X.K fa A0 H0 μ ds vs H1 A1 F → bltin μ f ds = some z → Pst X.K fa W A0 H0 σ (.ok z μ) Q → r vs H1 Q := by
  cases f with
  | len =>
    refine ⟨_, CallR.or call_len_seq call_len_str, fun {A0 H0 ds vs H1 A1 μ F z Q} g e q => ?_⟩
    unfold bltin at e
    split at e <;> first | contradiction | skip
    · cases e
      obtain ⟨v, rfl, g1⟩ := g.one
      cases g1.rep with
      | str _ hs =>
        refine .inr ⟨_, rfl, by rw [toS_length]; exact okS_len hs, ?_⟩
        rw [toS_length]
        exact q.done g1.stp g1.mem (.int _)
    · cases e
      obtain ⟨v, rfl, g1⟩ := g.one
      cases g1.rep with
      | tup hs r =>
        refine .inl ⟨_, _, rfl, .inr hs, ?_⟩
        rw [r.length]
        exact q.done g1.stp g1.mem (.int _)
    · cases e
      obtain ⟨v, rfl, g1⟩ := g.one
      cases g1.rep with
      | tl hs r =>
        refine .inl ⟨_, _, rfl, .inl (.of hs), ?_⟩
        rw [r.length]
        exact q.done g1.stp g1.mem (.int _)
    · cases e
      obtain ⟨v, rfl, g1⟩ := g.one
      cases g1.rep with
      | fz hs hp r =>
        refine .inl ⟨_, _, rfl, .inl hs, ?_⟩
        rw [r.length]
        exact q.done g1.stp g1.mem (.int _)
    · rw [Option.map_eq_some_iff] at e
      obtain ⟨l, e1, rfl⟩ := e
      obtain ⟨v, rfl, g1⟩ := g.one
      cases g1.rep with
      | ref hs =>
        obtain ⟨ws, hv, r⟩ := Rep.getL g1.mem hs e1
        refine .inl ⟨_, _, rfl, .inl (.of hv), ?_⟩
        rw [r.length]
        exact q.done g1.stp g1.mem (.int _)
  | tuple =>
    refine ⟨_, call_tuple_of, fun {A0 H0 ds vs H1 A1 μ F z Q} g e q => ?_⟩
    unfold bltin at e
    split at e <;> first | contradiction | skip
    · cases e
      obtain ⟨v, rfl, g1⟩ := g.one
      have g' := g1
      cases g1.rep with
      | tup hs r => exact ⟨_, _, rfl, .inr ⟨hs, q _ _ _ _ g'⟩⟩
    · cases e
      obtain ⟨v, rfl, g1⟩ := g.one
      cases g1.rep with
      | tl hs r => exact ⟨_, _, rfl, .inl ⟨.of hs, fun p hp => q _ _ _ _ (g1.copyT r (List.sublist_append_left _ _) hp)⟩⟩
    · cases e
      obtain ⟨v, rfl, g1⟩ := g.one
      cases g1.rep with
      | fz hs _ r => exact ⟨_, _, rfl, .inl ⟨hs, fun p hp => q _ _ _ _ (g1.copyT r (List.Sublist.refl _) hp)⟩⟩
    · rw [Option.map_eq_some_iff] at e
      obtain ⟨l, e1, rfl⟩ := e
      obtain ⟨v, rfl, g1⟩ := g.one
      cases g1.rep with
      | ref hs =>
        obtain ⟨ws, hv, r⟩ := Rep.getL g1.mem hs e1
        exact ⟨_, _, rfl, .inl ⟨.of hv, fun p hp => q _ _ _ _ (g1.copyT r (List.Sublist.refl _) hp)⟩⟩
  | list =>
    refine ⟨_, call_list_of, fun {A0 H0 ds vs H1 A1 μ F z Q} g e q => ?_⟩
    unfold bltin at e
    split at e <;> first | contradiction | skip
    · cases e
      obtain ⟨v, rfl, g1⟩ := g.one
      cases g1.rep with
      | tup hs r => exact ⟨_, _, rfl, .inr hs, fun p hp => q _ _ _ _ (g1.copyL r (List.Sublist.refl _) hp)⟩
    · cases e
      obtain ⟨v, rfl, g1⟩ := g.one
      cases g1.rep with
      | tl hs r => exact ⟨_, _, rfl, .inl (.of hs), fun p hp => q _ _ _ _ (g1.copyL r (List.sublist_append_left _ _) hp)⟩
    · cases e
      obtain ⟨v, rfl, g1⟩ := g.one
      cases g1.rep with
      | fz hs _ r => exact ⟨_, _, rfl, .inl hs, fun p hp => q _ _ _ _ (g1.copyL r (List.Sublist.refl _) hp)⟩
    · rw [Option.map_eq_some_iff] at e
      obtain ⟨l, e1, rfl⟩ := e
      obtain ⟨v, rfl, g1⟩ := g.one
      cases g1.rep with
      | ref hs =>
        obtain ⟨ws, hv, r⟩ := Rep.getL g1.mem hs e1
        exact ⟨_, _, rfl, .inl (.of hv), fun p hp => q _ _ _ _ (g1.copyL r (List.Sublist.refl _) hp)⟩
  | int =>
    refine ⟨_, call_int1, fun {A0 H0 ds vs H1 A1 μ F z Q} g e q => ?_⟩
    unfold bltin at e
    split at e <;> first | contradiction | skip
    · cases e
      obtain ⟨v, rfl, g1⟩ := g.one
      have m := g1.mem; have st := g1.stp
      cases g1.rep
      exact .inl ⟨_, rfl, q.done st m (.int _)⟩
    · cases e
      obtain ⟨v, rfl, g1⟩ := g.one
      have m := g1.mem; have st := g1.stp
      cases g1.rep
      exact .inr ⟨_, rfl, q.done st m (.int _)⟩
  | min =>
    refine ⟨_, call_min2 hc, fun {A0 H0 ds vs H1 A1 μ F z Q} g e q => ?_⟩
    unfold bltin at e
    split at e <;> first | contradiction | skip
    cases e
    have m := g.mem; have st := g.stp
    obtain ⟨v, w, F1, F2, rfl, _, r1, r2⟩ := g.rep.two_inv
    cases r1; cases r2
    exact ⟨_, _, rfl, q.done st m (.int _)⟩
  | max =>
    refine ⟨_, call_max2 hc, fun {A0 H0 ds vs H1 A1 μ F z Q} g e q => ?_⟩
    unfold bltin at e
    split at e <;> first | contradiction | skip
    cases e
    have m := g.mem; have st := g.stp
    obtain ⟨v, w, F1, F2, rfl, _, r1, r2⟩ := g.rep.two_inv
    cases r1; cases r2
    exact ⟨_, _, rfl, q.done st m (.int _)⟩
  | isinstance => exact ⟨_, callR_no, fun {A0 H0 ds vs H1 A1 μ F z Q} g e q => by unfold bltin at e; split at e <;> first | contradiction | skip⟩
  | sum => exact ⟨_, callR_no, fun {A0 H0 ds vs H1 A1 μ F z Q} g e q => by unfold bltin at e; split at e <;> first | contradiction | skip⟩
  | abs => exact ⟨_, callR_no, fun {A0 H0 ds vs H1 A1 μ F z Q} g e q => by unfold bltin at e; split at e <;> first | contradiction | skip⟩
  | all => exact ⟨_, callR_no, fun {A0 H0 ds vs H1 A1 μ F z Q} g e q => by unfold bltin at e; split at e <;> first | contradiction | skip⟩
  | any => exact ⟨_, callR_no, fun {A0 H0 ds vs H1 A1 μ F z Q} g e q => by unfold bltin at e; split at e <;> first | contradiction | skip⟩

/-! ### isinstance -/
def clsN : Cls → String
  | .int => "int" | .bool => "bool" | .str => "str" | .tuple => "tuple" | .list => "list"
theorem tyX_ref {a : Addr} {vs : List V} (h : SqL K H a vs) : TyX K H (.ref a) (.type "list") := by
  rcases h with (h | ⟨o, h⟩) | ⟨o, its, n, hk, hc, _⟩
  · exact .base (.lst h)
  · exact .base (.frz h)
  · exact .kList hk hc
theorem tyX_tup {a : Addr} {vs : List V} (h : SqT K H a vs) : TyX K H (.ref a) (.type "tuple") := by
  rcases h with (h | ⟨o, h⟩) | ⟨o, its, n, hk, hc, _⟩
  · exact .base (.tup h)
  · exact .fTuple h
  · exact .kTuple hk hc
theorem isOf_ok {μ : Store} {k : Cls} {v : V} {d : D} {F : List Addr} {b : Bool} {Q : VK} (r : RelM X.K fa H A μ) (q : Rep X.K fa H A v d F) (e : isOf μ k d = some b) (h : Q (.bl b) H) : rIsi X.K [v, .ty (clsN k)] H Q := by
  have go : ∀ {t : String}, TyX X.K H v (.type t) → kitB t (clsN k) = some b → rIsi X.K [v, .ty (clsN k)] H Q := fun {t} ty hb => ⟨v, _, .type t, .type (clsN k), b, rfl, .ty _, ty, kit_ty hb, h⟩
  cases q with
  | non => cases k <;> cases e <;> exact go (.base .non) (by decide +kernel)
  | bl x => cases k <;> cases e <;> exact go (.base (.bl x)) (by decide +kernel)
  | int x => cases k <;> cases e <;> exact go (.base (.int x)) (by decide +kernel)
  | str x _ => cases k <;> cases e <;> exact go (.base (.str _)) (by decide +kernel)
  | fn h => cases k <;> cases e
  | fz hs _ _ => cases k <;> cases e <;> exact go (tyX_ref hs) (by decide +kernel)
  | tup hs _ => cases k <;> cases e <;> exact go (tyX_tup hs) (by decide +kernel)
  | tl hs _ => cases k <;> cases e <;> exact go (.base (.lst hs)) (by decide +kernel)
  | ref hs =>
    obtain ⟨vs, hv⟩ := r.tracked (List.mem_of_getElem? hs)
    have ty : TyX X.K H (.ref _) (.type "list") := .base (.lst hv)
    cases k <;> (simp only [isOf, Option.map_eq_some_iff] at e; obtain ⟨l, _, rfl⟩ := e; exact go ty (by decide +kernel))
end
end Mp
end SSnd5
section SSnd6
/-! Snd6: methods; what is walked. -/
namespace Mp
open PySem PySem.Spec PyProof.Rows L2
section
variable {K : PySem.W.Frag} {fa : String → Option Addr} {W : WX} {A A0 A1 A2 A' : List Addr} {H H0 H1 H2 H' : Hp} {σ : L2.St} {X : Cx}

/-- new lists become the store's -/
theorem Stp.join {F : List Addr} (s : Stp A H A1 H1) (h : ∀ a ∈ F, H a = none) : Stp A H (A1 ++ F) H1 := by
  obtain ⟨N, e, n⟩ := s.pre
  refine ⟨⟨N ++ F, by rw [e, List.append_assoc], fun a ha => ?_⟩, s.keep, s.there, s.tups, s.frzs⟩
  rcases List.mem_append.mp ha with ha | ha
  · exact n a ha
  · exact h a ha
theorem Good.alloc {μ : Store} {d : D} {v : V} {F : List Addr} (g : Good K fa A H μ d v H1 A1 F) : Good K fa A H (alloc d μ).2 (alloc d μ).1 v H1 (A1 ++ F) [] := by
  obtain ⟨r, q⟩ := alloc_ok g.rep g.mem g.nd fun a ha => (g.new a ha).2
  exact ⟨g.stp.join fun a ha => (g.new a ha).1, r, q, List.nodup_nil, by simp⟩
theorem GoodL.alloc {μ : Store} {ds : List D} {vs : List V} {F : List Addr} (g : GoodL K fa A H μ ds vs H1 A1 F) : GoodL K fa A H (allocs ds μ).2 (allocs ds μ).1 vs H1 (A1 ++ F) [] := by
  obtain ⟨r, q⟩ := allocs_ok g.rep g.mem g.nd fun a ha => (g.new a ha).2
  exact ⟨g.stp.join fun a ha => (g.new a ha).1, r, q, List.nodup_nil, by simp⟩

/-! ### append -/
def mthN : Mth → String
  | .append => "append"
theorem append_ok {μ μ' : Store} {x d z : D} {v w : V} {F1 F2 : List Addr} {Q : VK} (t : Two X.K fa A0 H0 x d v w H2 A2 μ F1 F2) (e : methop μ .append x [d] = some (z, μ')) (q : Pst X.K fa W A0 H0 σ (.ok z μ') Q) :
    tyV X.K "list" v H2 ∧ rAppend v [w] H2 Q := by
  have hx : ∃ n, x = .ref n := by cases x <;> first | exact ⟨_, rfl⟩ | cases e
  obtain ⟨n, rfl⟩ := hx
  simp only [methop] at e
  split at e
  · rename_i l hl
    split at e
    · rename_i hlen
      cases e
      cases t.one with
      | @ref _ a hs =>
        obtain ⟨ws, hv, r⟩ := Rep.getL t.mem hs (show getL μ n = some l by unfold getL; rw [hl])
        have g := t.snd.alloc
        refine ⟨.inl ⟨rfl, ws, .of hv⟩, a, ws, w, rfl, rfl, hv, by rw [r.length, sizeLine_eq]; exact hlen, ?_⟩
        have hs' : (A2 ++ F2)[n]? = some a := by rw [List.getElem?_append_left (List.getElem?_eq_some_iff.mp hs).1]; exact hs
        have rr : Reps X.K fa H2 (A2 ++ F2) (ws ++ [w]) (l ++ [(alloc d μ).1]) [] := (r.mono (N := F2)).append (Reps.one g.rep)
        have m := g.mem.write hs' rr
        have s := Stp.write g.mem (o := .lst (ws ++ [w])) hs'
        exact q.done (g.stp.trans s) m .non
    · cases e
  · cases e

/-! ### what is walked -/
/-- the iterator J goes through the items xs of s, seen from A, H on; F: the fresh list walked -/
def Src (K : PySem.W.Frag) (fa : String → Option Addr) (J : It) (s : D) (xs : List D) (F : List Addr) (A : List Addr) (H : Hp) : Prop :=
  (∀ a ∈ F, a ∉ A ∧ ∃ vs, H a = some (.lst vs)) ∧ ∃ P : List Addr → Hp → Prop, P A H ∧ (∀ A H A' H', P A H → Sta F A H A' H' → P A' H') ∧
    ∀ A H μ, P A H → RelM K fa H A μ → srcOk μ s xs = true → ∀ i : Nat,
      (∀ d, xs[i]? = some d → J.go i H ∧ ∀ x H', J.yld i H x H' → Stp A H A H' ∧ RelM K fa H' A μ ∧ Rep K fa H' A x d []) ∧ (xs.length ≤ i → J.stop i H)
theorem Src.sta {J : It} {s : D} {xs : List D} {F : List Addr} (x : Src K fa J s xs F A H) (t : Sta F A H A' H') (h : ∀ a ∈ F, a ∉ A') : Src K fa J s xs F A' H' :=
  let ⟨f, P, h0, h1, h2⟩ := x; ⟨fun a ha => ⟨h a ha, let ⟨vs, e⟩ := (f a ha).2; ⟨vs, t.keep a ha _ e⟩⟩, P, h1 _ _ _ _ h0 t, h1, h2⟩
theorem Src.step {J : It} {s : D} {xs : List D} {F : List Addr} (x : Src K fa J s xs F A H) (t : Stp A H A' H') : Src K fa J s xs F A' H' :=
  x.sta (t.sta fun a ha => (x.1 a ha).1) fun a ha => let ⟨vs, e⟩ := (x.1 a ha).2; t.out e (x.1 a ha).1
theorem src_tup {a : Addr} {l : List D} {vs : List V} (h : SqT K H a vs) (r : Reps K fa H A vs l []) : Src K fa (Itt K a) (.tup l) l [] A H := by
  refine ⟨by simp, fun A H => SqT K H a vs ∧ Reps K fa H A vs l [], ⟨h, r⟩, fun A H A' H' p s => ⟨s.sqT p.1, p.2.sta s⟩, fun A H μ p m _ i => ⟨fun d hd => ?_, fun hi => ?_⟩⟩
  · obtain ⟨v, F1, h1, h2, h3⟩ := p.2.get hd
    have : F1 = [] := List.sublist_nil.mp h3
    subst this
    refine ⟨⟨vs, v, p.1, h1⟩, fun x H' y => ?_⟩
    obtain ⟨e, y⟩ := y
    subst e
    have hx := y vs p.1
    rw [h1] at hx; cases hx
    exact ⟨.refl, m, h2⟩
  · exact ⟨vs, p.1, by rw [p.2.length]; exact hi⟩
theorem src_tl {a : Addr} {l : List D} {vs : List V} (h : H a = some (.lst vs)) (na : a ∉ A) (r : Reps K fa H A vs l []) : Src K fa (Itl K a) (.tl l) l [a] A H := by
  refine ⟨fun b hb => ?_, fun A H => H a = some (.lst vs) ∧ Reps K fa H A vs l [], ⟨h, r⟩, fun A H A' H' p s => ⟨s.keep _ (by simp) _ p.1, p.2.sta (s.less (by simp))⟩, fun A H μ p m _ i => ⟨fun d hd => ?_, fun hi => ?_⟩⟩
  · have : b = a := by simpa using hb
    subst this
    exact ⟨na, vs, h⟩
  · obtain ⟨v, F1, h1, h2, h3⟩ := p.2.get hd
    have : F1 = [] := List.sublist_nil.mp h3
    subst this
    refine ⟨⟨vs, v, .of p.1, h1⟩, fun x H' y => ?_⟩
    obtain ⟨e, y⟩ := y
    subst e
    have hx := y vs (.of p.1)
    rw [h1] at hx; cases hx
    exact ⟨.refl, m, h2⟩
  · exact ⟨vs, .of p.1, by rw [p.2.length]; exact hi⟩
theorem src_fz {a : Addr} {l : List D} (q : Rep K fa H A (.ref a) (.fz l) []) : Src K fa (Itl K a) (.fz l) l [] A H := by
  refine ⟨by simp, fun A H => Rep K fa H A (.ref a) (.fz l) [], q, fun A H A' H' p s => p.sta s, fun A H μ p m _ i => ⟨fun d hd => ?_, fun hi => ?_⟩⟩
  · cases p with
    | @fz _ vs _ hs hp r =>
      obtain ⟨v, F1, h1, h2, h3⟩ := r.get hd
      have : F1 = [] := List.sublist_nil.mp h3
      subst this
      refine ⟨⟨vs, v, hs, h1⟩, fun x H' y => ?_⟩
      obtain ⟨e, y⟩ := y
      subst e
      have hx := y vs hs
      rw [h1] at hx; cases hx
      exact ⟨.refl, m, h2⟩
  · cases p with
    | @fz _ vs _ hs hp r => exact ⟨vs, hs, by rw [r.length]; exact hi⟩
theorem src_ref {a : Addr} {n : Nat} {xs : List D} (h : A[n]? = some a) : Src K fa (Itl K a) (.ref n) xs [] A H := by
  refine ⟨by simp, fun A H => A[n]? = some a, h, fun A H A' H' p s => s.sub p, fun A H μ p m ok i => ?_⟩
  obtain ⟨vs, hv, r⟩ := Rep.getL m p (of_decide_eq_true ok)
  refine ⟨fun d hd => ?_, fun hi => ⟨vs, .of hv, by rw [r.length]; exact hi⟩⟩
  obtain ⟨v, F1, h1, h2, h3⟩ := r.get hd
  have : F1 = [] := List.sublist_nil.mp h3
  subst this
  refine ⟨⟨vs, v, .of hv, h1⟩, fun x H' y => ?_⟩
  obtain ⟨e, y⟩ := y
  subst e
  have hx := y vs (.of hv)
  rw [h1] at hx; cases hx
  exact ⟨.refl, m, h2⟩
theorem okS_one {s : List Nat} {c : Nat} (h : okS s = true) (hc : c ∈ s) : okS [c] = true := by
  unfold okS at h ⊢
  simp only [Bool.and_eq_true, List.all_eq_true, decide_eq_true_eq] at h ⊢
  refine ⟨by show 1 ≤ 16777216; decide, fun x hx => ?_⟩
  have : x = c := by simpa using hx
  subst this
  exact h.2 x hc
theorem src_str {s : List Nat} (h : okS s = true) : Src K fa (Its (toS s)) (.str s) (s.map fun c => .str [c]) [] A H := by
  have hsz : (toS s).cps.size = s.length := by simp [toS]
  refine ⟨by simp, fun _ _ => True, trivial, fun _ _ _ _ _ _ => trivial, fun A H μ _ m _ i => ⟨fun d hd => ?_, fun hi => ?_⟩⟩
  · rw [List.getElem?_map, Option.map_eq_some_iff] at hd
    obtain ⟨c, hc, rfl⟩ := hd
    refine ⟨show i < (toS s).cps.size by rw [hsz]; exact (List.getElem?_eq_some_iff.mp hc).1, fun x H' y => ?_⟩
    obtain ⟨e, c', h1, h2⟩ := y
    subst e h2
    have : (toS s).cps[i]? = s[i]? := by simp [toS]
    rw [this, hc] at h1
    cases h1
    exact ⟨.refl, m, .str [c] (okS_one h (List.mem_of_getElem? hc))⟩
  · show (toS s).cps.size ≤ i
    rw [hsz]
    simpa using hi
theorem src_rng {lo hi : Int} : Src K fa (Itr lo (hi - lo).toNat) (.tl (rngL lo hi)) (rngL lo hi) [] A H := by
  refine ⟨by simp, fun _ _ => True, trivial, fun _ _ _ _ _ _ => trivial, fun A H μ _ m _ i => ⟨fun d hd => ?_, fun h => ?_⟩⟩
  · unfold rngL at hd
    rw [List.getElem?_map, Option.map_eq_some_iff] at hd
    obtain ⟨j, hj, rfl⟩ := hd
    obtain ⟨h1, h2⟩ := List.getElem?_eq_some_iff.mp hj
    rw [List.getElem_range] at h2
    subst h2
    rw [List.length_range] at h1
    refine ⟨h1, fun x H' y => ?_⟩
    obtain ⟨e, y⟩ := y
    subst e y
    exact ⟨.refl, m, .int _⟩
  · show (hi - lo).toNat ≤ i
    unfold rngL at h
    simpa using h

/-- what is wanted behind a source -/
def PstI (K : PySem.W.Frag) (fa : String → Option Addr) (W : WX) (A : List Addr) (H : Hp) (σ : L2.St) (r : Rs D) (R : It → Hp → Prop) : Prop := match r with
  | .ok s μ => ∃ xs, items (settle s μ).2 (settle s μ).1 = some xs ∧ ∀ H' A' J F, Stp A H A' H' → RelM K fa H' A' (settle s μ).2 → Src K fa J (settle s μ).1 xs F A' H' → (∀ a ∈ F, H a = none) → R J H'
  | .ex e μ' => ∀ cls dd H' A', Stp A H A' H' → RelM K fa H' A' μ' → RepX K fa H' A' e cls dd → W cls dd σ H'
  | .no => False
def tI (G : String → Option D) (call : String → List D → Store → Rs D) (K : PySem.W.Frag) (fa : String → Option Addr) (W : WX) (c : C) : TI := fun σ H R =>
  ∃ A ρ μ, RelM K fa H A μ ∧ RelE K fa H A ρ σ ∧ PstI K fa W A H σ (ev G call c ρ μ) R
theorem settle_ok {μ : Store} {s : D} {v : V} {F : List Addr} {xs : List D} (g : Good K fa A H μ s v H1 A1 F) (hx : items (settle s μ).2 (settle s μ).1 = some xs) :
    ∃ A2, Stp A H A2 H1 ∧ RelM K fa H1 A2 (settle s μ).2 ∧ ((∃ a, v = .ref a ∧ (∃ vs, SqT K H1 a vs) ∧ Src K fa (Itt K a) (settle s μ).1 xs [] A2 H1) ∨ (∃ a, v = .ref a ∧ (∃ vs, SqL K H1 a vs) ∧ ∃ F, Src K fa (Itl K a) (settle s μ).1 xs F A2 H1 ∧ ∀ b ∈ F, H b = none) ∨ ∃ z, v = .str z ∧ Src K fa (Its z) (settle s μ).1 xs [] A2 H1) := by
  cases s with
  | tl l =>
    cases g.rep with
    | @tl a vs _ F0 hs r =>
      obtain ⟨n1, _, n2⟩ := List.nodup_append.mp g.nd
      obtain ⟨m, q⟩ := allocs_ok r g.mem n1 fun b hb => (g.new b (by simp [hb])).2
      cases hx
      refine ⟨A1 ++ F0, g.stp.join fun b hb => (g.new b (by simp [hb])).1, m, .inr (.inl ⟨a, rfl, ⟨vs, .of hs⟩, [a], src_tl hs (fun hm => ?_) q, fun b hb => (g.new b (by simp at hb; simp [hb])).1⟩)⟩
      rcases List.mem_append.mp hm with hm | hm
      · exact (g.new a (by simp)).2 hm
      · exact n2 a hm a (by simp) rfl
  | tup l =>
    have g2 := g.alloc
    cases hx
    refine ⟨A1 ++ F, g2.stp, g2.mem, ?_⟩
    cases g2.rep with
    | tup hs r => exact .inl ⟨_, rfl, ⟨_, hs⟩, src_tup hs r⟩
  | str s =>
    have g2 := g.alloc
    cases hx
    refine ⟨A1 ++ F, g2.stp, g2.mem, ?_⟩
    cases g2.rep with
    | str _ hs => exact .inr (.inr ⟨_, rfl, src_str hs⟩)
  | fz l =>
    have g2 := g.alloc
    cases hx
    refine ⟨A1 ++ F, g2.stp, g2.mem, ?_⟩
    have q := g2.rep
    cases g2.rep with
    | fz hs _ r => exact .inr (.inl ⟨_, rfl, ⟨_, hs⟩, [], src_fz q, by simp⟩)
  | ref n =>
    have g2 := g.alloc
    refine ⟨A1 ++ F, g2.stp, g2.mem, ?_⟩
    have hx' : getL (alloc (.ref n) μ).2 n = some xs := hx
    cases g2.rep with
    | ref hs =>
      obtain ⟨vs, hv, _⟩ := Rep.getL g2.mem hs hx'
      exact .inr (.inl ⟨_, rfl, ⟨vs, .of hv⟩, [], src_ref hs, by simp⟩)
  | non => cases hx
  | bl _ => cases hx
  | int _ => cases hx
  | fn _ => cases hx
theorem pi_any {G : String → Option D} {call : String → List D → Store → Rs D} {c : C} {tg e : Expr} (he : PE X e (tD X.K fa W G call c)) : PI X tg e (tI G call X.K fa W c) := by
  refine ⟨fun pins s σ H R I h => ?_⟩
  obtain ⟨A, ρ, μ, m, re, h⟩ := h
  cases hr : ev G call c ρ μ with
  | no => rw [hr] at h; exact h.elim
  | ex e μ' =>
    rw [hr] at h
    refine (pi_list (tg := tg) he).run pins s σ H R I ⟨A, ρ, μ, m, re, ?_⟩
    rw [hr]
    exact h
  | ok d μ1 =>
    rw [hr] at h
    obtain ⟨xs, hx, h⟩ := h
    have kind : (∃ l, d = .tup l) ∨ (∃ s, d = .str s) ∨ (∀ l, d ≠ .tup l) ∧ ∀ s, d ≠ .str s := by
      cases d <;> simp
    rcases kind with ⟨l, rfl⟩ | ⟨z, rfl⟩ | ⟨n1, n2⟩
    · refine (pi_tup (tg := tg) he).run pins s σ H R I ⟨A, ρ, μ, m, re, ?_⟩
      rw [hr]
      intro v H' A' F g
      obtain ⟨A2, s2, m2, q⟩ := settle_ok g hx
      rcases q with ⟨a, e1, e2, q⟩ | ⟨a, e1, ⟨vs, e2⟩, q⟩ | ⟨z, e1, _⟩
      · exact ⟨a, e1, e2, h _ _ _ _ s2 m2 q (by simp)⟩
      · subst e1
        cases g.rep with
        | tup hs r =>
          have g2 := g.alloc
          have q' : items (alloc (.tup l) μ1).2 (alloc (.tup l) μ1).1 = some xs := hx
          cases q'
          cases g2.rep with
          | tup hs r => exact ⟨_, rfl, ⟨_, hs⟩, h _ _ _ _ g2.stp g2.mem (src_tup hs r) (by simp)⟩
      · subst e1
        cases g.rep
    · refine (pi_str (tg := tg) he).run pins s σ H R I ⟨A, ρ, μ, m, re, ?_⟩
      rw [hr]
      intro v H' A' F g
      obtain ⟨A2, s2, m2, q⟩ := settle_ok g hx
      rcases q with ⟨a, e1, e2, q⟩ | ⟨a, e1, e2, q⟩ | ⟨z, e1, q⟩
      · subst e1; cases g.rep
      · subst e1; cases g.rep
      · exact ⟨z, e1, h _ _ _ _ s2 m2 q (by simp)⟩
    · refine (pi_list (tg := tg) he).run pins s σ H R I ⟨A, ρ, μ, m, re, ?_⟩
      rw [hr]
      intro v H' A' F g
      obtain ⟨A2, s2, m2, q⟩ := settle_ok g hx
      rcases q with ⟨a, e1, ⟨vs, e2⟩, q⟩ | ⟨a, e1, e2, q⟩ | ⟨z, e1, q⟩
      · subst e1
        cases d with
        | tup l => exact absurd rfl (n1 l)
        | str z => exact absurd rfl (n2 z)
        | non => cases hx
        | bl _ => cases hx
        | int _ => cases hx
        | fn _ => cases hx
        | fz l =>
          have g2 := g.alloc
          have q' : items (alloc (.fz l) μ1).2 (alloc (.fz l) μ1).1 = some xs := hx
          cases q'
          have q2 := g2.rep
          cases g2.rep with
          | fz hs _ r => exact ⟨_, rfl, ⟨_, hs⟩, h _ _ _ _ g2.stp g2.mem (src_fz q2) (by simp)⟩
        | ref n =>
          have g2 := g.alloc
          have hx' : getL (alloc (.ref n) μ1).2 n = some xs := hx
          cases g2.rep with
          | ref hs =>
            obtain ⟨vs, hv, _⟩ := Rep.getL g2.mem hs hx'
            exact ⟨_, rfl, ⟨vs, .of hv⟩, h _ _ _ _ g2.stp g2.mem (src_ref hs) (by simp)⟩
        | tl l =>
          cases g.rep with
          | @tl _ vs _ F0 hs r =>
            obtain ⟨n1, _, n2⟩ := List.nodup_append.mp g.nd
            obtain ⟨m3, q3⟩ := allocs_ok r g.mem n1 fun b hb => (g.new b (by simp [hb])).2
            cases hx
            refine ⟨a, rfl, ⟨vs, .of hs⟩, h _ _ _ _ (g.stp.join fun b hb => (g.new b (by simp [hb])).1) m3 (src_tl hs (fun hm => ?_) q3) fun b hb => (g.new b (by simp at hb; simp [hb])).1⟩
            rcases List.mem_append.mp hm with hm | hm
            · exact (g.new a (by simp)).2 hm
            · exact n2 a hm a (by simp) rfl
      · obtain ⟨F2, q, nq⟩ := q
        exact ⟨a, e1, e2, h _ _ _ _ s2 m2 q nq⟩
      · subst e1
        cases d with
        | str z => exact absurd rfl (n2 z)
        | _ => cases g.rep
end
end Mp
end SSnd6
section SSnd7
/-! Snd7: targets; the match of a target; a comprehension; contexts. -/
namespace Mp
open PySem PySem.Spec PyProof.Rows L2

/-! ### names -/
def visB (sc : Scope) (x : Str) : Bool := match sc.names.lookup x with
  | some .local => true
  | some .cell => true
  | some .free => true
  | _ => false
def locB (sc : Scope) (x : Str) : Bool := match sc.names.lookup x with
  | some .local => true
  | some .cell => true
  | _ => false
def glB (sc : Scope) (x : Str) : Bool := match sc.names.lookup x with
  | some .globalImplicit => true
  | _ => false
def plB (x : Str) : Bool := !(x == ("__debug__" : Str)) && !(x == ("__classdict__" : Str))
theorem visB_ok {sc : Scope} {x : Str} (h : visB sc x = true) : Vis sc x := by
  unfold visB at h
  split at h <;> first | exact .inl (by assumption) | exact .inr (.inl (by assumption)) | exact .inr (.inr (by assumption)) | cases h
theorem locB_ok {sc : Scope} {x : Str} (h : locB sc x = true) : Loc sc x := by
  unfold locB at h
  split at h <;> first | exact .inl (by assumption) | exact .inr (by assumption) | cases h
theorem glB_ok {X : Cx} {x : Str} (h : glB X.env.scope x = true) : Gl X x := by
  unfold glB at h
  split at h
  · assumption
  · cases h
theorem plB_ok {x : Str} (h : plB x = true) : (x == ("__debug__" : Str)) = false ∧ (x == ("__classdict__" : Str)) = false := by
  unfold plB at h
  simpa using h
def starB : Expr → Bool
  | .Starred _ _ => false
  | _ => true
theorem star_cons {e : Expr} {es : List Expr} {env : PySem.Env} (h : starB e = true) : starEach (e :: es) env = (false, eval e env) :: starEach es env := by
  cases e <;> first | rfl | (simp [starB] at h)
theorem assign_cons {e : Expr} {es : List Expr} {env : PySem.Env} (h : starB e = true) : assignEach (e :: es) env = (false, assign e env) :: assignEach es env := by
  cases e <;> first | rfl | (simp [starB] at h)
theorem star_any {pos : Pos} {env : PySem.Env} : ∀ {es : List Expr}, es.all starB = true → (backTo pos (starEach es env)).any (·.1) = false
  | [], _ => rfl
  | e :: es, h => by
    simp only [List.all_cons, Bool.and_eq_true] at h
    rw [star_cons h.1]
    show (false || (backTo pos (starEach es env)).any (·.1)) = false
    rw [star_any h.2]; rfl
theorem star_all {pos : Pos} {env : PySem.Env} : ∀ {es : List Expr}, es.all starB = true → (backTo pos (starEach es env)).all (fun x => !x.1) = true
  | [], _ => rfl
  | e :: es, h => by
    simp only [List.all_cons, Bool.and_eq_true] at h
    rw [star_cons h.1]
    show (true && (backTo pos (starEach es env)).all (fun x => !x.1)) = true
    rw [star_all h.2]; rfl
theorem assign_len {env : PySem.Env} : ∀ {es : List Expr}, es.all starB = true → (assignEach es env).length = es.length
  | [], _ => rfl
  | e :: es, h => by
    simp only [List.all_cons, Bool.and_eq_true] at h
    rw [assign_cons h.1]
    simp [assign_len h.2]
theorem assign_star {env : PySem.Env} : ∀ {es : List Expr}, es.all starB = true → (assignEach es env).findIdx? (·.1) = none
  | [], _ => rfl
  | e :: es, h => by
    simp only [List.all_cons, Bool.and_eq_true] at h
    rw [assign_cons h.1, List.findIdx?_cons]
    simp [assign_star h.2]

/-! ### contexts -/
/-- a def's promise -/
def spI (K : PySem.W.Frag) (fa : String → Option Addr) (np : Nat) (run : List D → Store → Rs D) : Sp := fun vs H Q E =>
  ∃ A μ ds, RelM K fa H A μ ∧ Reps K fa H A vs ds [] ∧ ds.length = np ∧ match run ds μ with
    | .ok d μ' => ∀ v H' A' F, Good K fa A H μ' d v H' A' F → Q v H'
    | .ex e μ' => ∀ cls dd H' A', Stp A H A' H' → RelM K fa H' A' μ' → RepX K fa H' A' e cls dd → E cls dd H'
    | .no => False
def bnames : List String := ["len", "tuple", "list", "int", "min", "max", "isinstance", "sum", "abs", "all", "any", "range", "bool", "str"]
structure Cn (X : Cx) (G : String → Option D) (call : String → List D → Store → Rs D) (k : Nat) (fa : String → Option Addr) (fs : List String) (W : WX) : Prop where
  nd : X.N.Nodup
  calm : X.calm = true
  room : Room k X.A
  takes : Takes X W
  fns : ∀ x a, fa x = some a → X.mg (x : Str) = some (.ref a)
  glob : ∀ x d, G x = some d → ∃ v u, X.mg (x : Str) = some u ∧ RelV v u ∧ ∀ H A, Rep X.K fa H A v d []
  call : ∀ f ∈ fs, ∃ a fd ps, fa f = some a ∧ PySem.W.keepIn X.K (.ref a) = true ∧ Binds X.K fd ps [] ∧ FnOk X.prog X.w X.K X.mg X.base (L2.CX X.prog X.w) k a fd ps (spI X.K fa ps.length (call f)) ∧ ∀ ds μ, call f ds μ ≠ .no → ds.length = ps.length
  blt : ∀ b ∈ bnames, X.mg (b : Str) = none

section
variable {K : PySem.W.Frag} {fa : String → Option Addr} {W : WX} {A A0 A1 A2 A' : List Addr} {H H0 H1 H2 H' : Hp} {σ σ' : L2.St} {X : Cx}

mutual
theorem Rep.isStill : ∀ {v : V} {d : D} {F : List Addr}, Rep K fa H A v d F → F = [] → d.still = true
  | _, .non, _, _, _ | _, .bl _, _, _, _ | _, .int _, _, _, _ | _, .str _, _, _, _ | _, .fn _, _, _, _ | _, .ref _, _, _, _ | _, .fz _, _, _, _ => by simp [D.still]
  | _, .tup l, _, h, e => by cases h with | tup _ r => simpa [D.still] using Reps.isStill r e
  | _, .tl l, _, h, e => by cases h with | tl _ r => simp at e
theorem Reps.isStill : ∀ {vs : List V} {ds : List D} {F : List Addr}, Reps K fa H A vs ds F → F = [] → D.stills ds = true
  | _, [], _, _, _ => by simp [D.stills]
  | _, d :: ds, _, h, e => by
    cases h with
    | cons r t =>
      obtain ⟨e1, e2⟩ := List.append_eq_nil_iff.mp e
      simp [D.stills, Rep.isStill r e1, Reps.isStill t e2]
end

/-! ### targets -/
mutual
def Tg.slots : Tg → List Nat
  | .v i => [i]
  | .t l => Tg.slotss l
def Tg.slotss : List Tg → List Nat
  | [] => []
  | u :: us => u.slots ++ Tg.slotss us
end
mutual
def mTg (N : List Str) (sc : Scope) : Tg → Expr → Bool
  | .v i, .Name x _ => decide (N[i]? = some x) && locB sc x
  | .t l, .Tuple es _ _ => es.all starB && mTgs N sc l es
  | _, _ => false
def mTgs (N : List Str) (sc : Scope) : List Tg → List Expr → Bool
  | [], [] => true
  | t :: ts, e :: es => mTg N sc t e && mTgs N sc ts es
  | _, _ => false
end
/-- only these slots are others -/
def Chg (js : List Nat) (σ σ' : L2.St) : Prop := σ'.length = σ.length ∧ ∀ j : Nat, j ∉ js → σ'[j]? = σ[j]?
theorem Chg.refl {js : List Nat} : Chg js σ σ := ⟨rfl, fun _ _ => rfl⟩
theorem Chg.trans {is js : List Nat} {σ1 σ2 : L2.St} (a : Chg is σ σ1) (b : Chg js σ1 σ2) : Chg (is ++ js) σ σ2 :=
  ⟨b.1.trans a.1, fun j h => (b.2 j fun z => h (List.mem_append_right _ z)).trans (a.2 j fun z => h (List.mem_append_left _ z))⟩
/-- a target's reading -/
def tG (K : PySem.W.Frag) (fa : String → Option Addr) (t : Tg) : TG := fun v σ H Q => ∃ A ρ μ d F ρ' μ', RelM K fa H A μ ∧ RelE K fa H A ρ σ ∧ Rep K fa H A v d F ∧ F.Nodup ∧ (∀ a ∈ F, a ∉ A) ∧ bindT t d ρ μ = some (ρ', μ') ∧
  ∀ σ' A', (∃ N, A' = A ++ N ∧ ∀ a ∈ N, a ∈ F) → RelM K fa H A' μ' → RelE K fa H A' ρ' σ' → Chg t.slots σ σ' → Q σ' H
def tGs (K : PySem.W.Frag) (fa : String → Option Addr) (ts : List Tg) : TGs := fun vs σ H Q => ∃ A ρ μ ds F ρ' μ', RelM K fa H A μ ∧ RelE K fa H A ρ σ ∧ Reps K fa H A vs ds F ∧ F.Nodup ∧ (∀ a ∈ F, a ∉ A) ∧ bindTs ts ds ρ μ = some (ρ', μ') ∧
  ∀ σ' A', (∃ N, A' = A ++ N ∧ ∀ a ∈ N, a ∈ F) → RelM K fa H A' μ' → RelE K fa H A' ρ' σ' → Chg (Tg.slotss ts) σ σ' → Q σ' H
theorem PG.imp {X : Cx} {e : Expr} {t t' : TG} (h : PG X e t) (m : ∀ v σ H Q, t' v σ H Q → t v σ H Q) : PG X e t' := ⟨fun pins s σ H v u Q I r q => h.run pins s σ H v u Q I r (m v σ H Q q)⟩
theorem PGs.imp {X : Cx} {e : List Expr} {t t' : TGs} (h : PGs X e t) (m : ∀ v σ H Q, t' v σ H Q → t v σ H Q) : PGs X e t' := ⟨fun pins s σ H v u Q I r q => h.run pins s σ H v u Q I r (m v σ H Q q)⟩
theorem bindTs_len : ∀ {ts : List Tg} {ds : List D} {ρ ρ' : Env} {μ μ' : Store}, bindTs ts ds ρ μ = some (ρ', μ') → ts.length = ds.length
  | [], [], _, _, _, _, _ => rfl
  | [], _ :: _, _, _, _, _, h => by simp [bindTs] at h
  | _ :: _, [], _, _, _, _, h => by simp [bindTs] at h
  | t :: ts, d :: ds, ρ, ρ', μ, μ', h => by
    simp only [bindTs, Option.bind_eq_some_iff] at h
    obtain ⟨p, _, h2⟩ := h
    simp [bindTs_len h2]
theorem mTgs_len {N : List Str} {sc : Scope} : ∀ {ts : List Tg} {es : List Expr}, mTgs N sc ts es = true → ts.length = es.length
  | [], [], _ => rfl
  | [], _ :: _, h => by simp [mTgs] at h
  | _ :: _, [], h => by simp [mTgs] at h
  | t :: ts, e :: es, h => by
    have h' : mTg N sc t e = true ∧ mTgs N sc ts es = true := by simpa [mTgs] using h
    simp [mTgs_len h'.2]
mutual
theorem pg_ok (hN : X.N.Nodup) (hc : X.calm = true) {sc : Scope} (hk : ∀ x, locB sc x = true → Loc X.env.scope x ∧ (X.fn x = true ∨ X.env.scope.names.lookup x = some .local)) : ∀ (t : Tg) (e : Expr), mTg X.N sc t e = true → PG X e (tG X.K fa t)
  | .v i, e, h => by
    cases e with
    | Name x pos =>
      have h' : decide (X.N[i]? = some x) = true ∧ locB sc x = true := by simpa [mTg] using h
      obtain ⟨hl, hl2⟩ := hk x h'.2
      refine PG.imp (pg_name hN (of_decide_eq_true h'.1) hl hl2) fun v σ H Q q => ?_
      obtain ⟨A, ρ, μ, d, F, ρ', μ', m, re, r, nd, ne, hb, q⟩ := q
      cases hb
      obtain ⟨m', r'⟩ := alloc_ok r m nd ne
      refine q _ _ ⟨F, rfl, fun a ha => ha⟩ m' ?_ ⟨by simp, fun j hj => ?_⟩
      · exact (show RelE X.K fa H (A ++ F) ρ σ from ⟨re.1, fun i d e => let ⟨v, h1, h2⟩ := re.2 i d e; ⟨v, h1, h2.mono⟩⟩).set r'
      · rw [List.getElem?_set_ne]
        intro z
        exact hj (by simp [Tg.slots, z])
    | _ => simp [mTg] at h
  | .t l, e, h => by
    cases e with
    | Tuple es k pos =>
      have h' : es.all starB = true ∧ mTgs X.N sc l es = true := by simpa [mTg] using h
      refine PG.imp (pg_tup hc (pgs_ok hN hc hk l es h'.1 h'.2) (assign_len h'.1) (assign_star h'.1)) fun v σ H Q q => ?_
      obtain ⟨A, ρ, μ, d, F, ρ', μ', m, re, r, nd, ne, hb, q⟩ := q
      cases d with
      | tup ds =>
        cases r with
        | @tup a vs _ _ hs r =>
          refine ⟨a, vs, rfl, hs, ?_, A, ρ, μ, ds, F, ρ', μ', m, re, r, nd, ne, hb, q⟩
          rw [r.length, ← bindTs_len hb, mTgs_len h'.2]
      | _ => cases hb
    | _ => simp [mTg] at h
theorem pgs_ok (hN : X.N.Nodup) (hc : X.calm = true) {sc : Scope} (hk : ∀ x, locB sc x = true → Loc X.env.scope x ∧ (X.fn x = true ∨ X.env.scope.names.lookup x = some .local)) : ∀ (ts : List Tg) (es : List Expr), es.all starB = true → mTgs X.N sc ts es = true → PGs X es (tGs X.K fa ts)
  | [], [], _, _ => by
    refine PGs.imp pgs_nil fun vs σ H Q q => ?_
    obtain ⟨A, ρ, μ, ds, F, ρ', μ', m, re, r, nd, ne, hb, q⟩ := q
    cases ds with
    | nil =>
      cases r
      cases hb
      exact ⟨rfl, q _ _ ⟨[], by simp, by simp⟩ m re .refl⟩
    | cons _ _ => cases hb
  | [], _ :: _, _, h => by simp [mTgs] at h
  | _ :: _, [], _, h => by simp [mTgs] at h
  | t :: ts, e :: es, hs, h => by
    have h' : mTg X.N sc t e = true ∧ mTgs X.N sc ts es = true := by simpa [mTgs] using h
    simp only [List.all_cons, Bool.and_eq_true] at hs
    refine PGs.imp (pgs_cons (pg_ok hN hc hk t e h'.1) (pgs_ok hN hc hk ts es hs.2 h'.2) (by rw [assign_cons hs.1]; rfl)) fun vs σ H Q q => ?_
    obtain ⟨A, ρ, μ, ds, F, ρ', μ', m, re, r, nd, ne, hb, q⟩ := q
    cases ds with
    | nil => cases hb
    | cons d ds =>
      simp only [bindTs, Option.bind_eq_some_iff] at hb
      obtain ⟨⟨ρ1, μ1⟩, b1, b2⟩ := hb
      cases r with
      | @cons v vs _ _ F1 F2 r t' =>
        obtain ⟨nd1, nd2, nd3⟩ := List.nodup_append.mp nd
        refine ⟨v, vs, rfl, A, ρ, μ, d, F1, ρ1, μ1, m, re, r, nd1, fun a ha => ne a (by simp [ha]), b1, fun σ1 A1 ⟨N, eN, hN'⟩ m1 re1 c1 => ?_⟩
        subst eN
        refine ⟨A ++ N, ρ1, μ1, ds, F2, ρ', μ', m1, re1, t'.mono, nd2, fun a ha hm => ?_, b2, fun σ2 A2 ⟨M, eM, hM⟩ m2 re2 c2 => ?_⟩
        · rcases List.mem_append.mp hm with hm | hm
          · exact ne a (by simp [ha]) hm
          · exact nd3 a (hN' a hm) a ha rfl
        · subst eM
          refine q σ2 _ ⟨N ++ M, by rw [List.append_assoc], fun a ha => ?_⟩ m2 re2 (by simpa [Tg.slotss] using c1.trans c2)
          rcases List.mem_append.mp ha with ha | ha
          · exact List.mem_append_left _ (hN' a ha)
          · exact List.mem_append_right _ (hM a ha)
end
end
end Mp
end SSnd7
section SSnd8
/-! Snd8: calls; comprehensions; the match of an expression; its soundness. -/
namespace Mp
open PySem PySem.Spec PyProof.Rows L2
section
variable {K : PySem.W.Frag} {fa : String → Option Addr} {W : WX} {A A0 A1 A2 A' : List Addr} {H H0 H1 H2 H' : Hp} {σ σ' : L2.St} {X : Cx} {G : String → Option D} {call : String → List D → Store → Rs D} {k : Nat} {fs : List String}

/-- a call, behind its arguments -/
theorem callA_ok {f : String} {ds : List D} {vs : List V} {μ : Store} {F : List Addr} {np : Nat} {Q : VK} (g : GoodL K fa A0 H0 μ ds vs H1 A1 F) (hn : ds.length = np) (h : Pst K fa W A0 H0 σ (callA call f ds μ) Q) :
    spI K fa np (call f) vs H1 Q (fun cls dd H' => W cls dd σ H') := by
  unfold callA at h
  split at h
  · rename_i hs
    have hF := g.rep.still hs
    subst hF
    refine ⟨A1, μ, ds, g.mem, g.rep, hn, ?_⟩
    cases hr : call f ds μ with
    | ok d μ' =>
      rw [hr] at h
      intro v H' A' F' g'
      exact h v H' A' F' (g'.pre g.stp)
    | ex e μ' =>
      rw [hr] at h
      intro cls dd H' A' s m x
      exact h cls dd H' A' (g.stp.trans s) m x
    | no => rw [hr] at h; exact h
  · have g2 := g.alloc
    have hl : (allocs ds μ).1.length = np := by rw [← hn, ← g2.rep.length, ← g.rep.length]
    obtain ⟨M, eM, _⟩ := g.stp.pre
    refine ⟨A1 ++ F, _, _, g2.mem, g2.rep, hl, ?_⟩
    cases hr : call f (allocs ds μ).1 (allocs ds μ).2 with
    | ok d μ' =>
      rw [hr] at h
      intro v H' A' F' g'
      obtain ⟨N, eN, _⟩ := g'.stp.pre
      obtain ⟨d', μ'', A'', F'', e1, g3⟩ := fin_ok rfl g.mem (g'.pre g2.stp) ⟨F ++ N, by rw [eN, List.append_assoc]⟩ ⟨M, eM⟩
      simp only at h
      rw [e1] at h
      exact h _ _ _ _ g3
    | ex e μ' =>
      rw [hr] at h
      intro cls dd H' A' s m x
      obtain ⟨N, eN, _⟩ := s.pre
      obtain ⟨μ'', A'', e1, s3, m3⟩ := finX_ok (e := e) rfl g.mem (g2.stp.trans s) m ⟨F ++ N, by rw [eN, List.append_assoc]⟩ ⟨M, eM⟩
      simp only at h
      rw [e1] at h
      exact h _ _ _ _ s3 m3 trivial
    | no => rw [hr] at h; exact h

/-! ### a comprehension -/
theorem wipe_get : ∀ (js : List Nat) (σ : L2.St) (j : Nat), (wipe σ js)[j]? = if j ∈ js then (σ[j]?).map (fun _ => none) else σ[j]?
  | [], σ, j => by simp [wipe]
  | i :: is, σ, j => by
    unfold wipe
    rw [List.getElem?_set, wipe_length, wipe_get is σ j]
    by_cases h : i = j
    · subst h
      simp only [if_true, List.mem_cons, true_or]
      by_cases hl : i < σ.length
      · simp [hl]
      · simp [hl]
    · have : j ≠ i := fun z => h z.symm
      simp [h, this]
theorem wipe_chg {js is : List Nat} (h : ∀ i ∈ is, i ∈ js) {σ σ2 : L2.St} (c : Chg is (wipe σ js) σ2) : wipe σ2 js = wipe σ js := by
  apply List.ext_getElem?
  intro j
  rw [wipe_get, wipe_get]
  split
  · have hl : σ2.length = σ.length := by rw [c.1, wipe_length]
    by_cases hj : j < σ.length
    · simp [hl, hj]
    · simp [hl, hj]
  · rename_i hj
    rw [c.2 j fun z => hj (h j z), wipe_get, if_neg hj]
theorem wipeE_get : ∀ (own : List (String × Nat)) (ρ : Env) (j : Nat), (wipeE ρ own)[j]? = if j ∈ own.map (·.2) then (ρ[j]?).map (fun _ => none) else ρ[j]?
  | [], ρ, j => by simp [wipeE]
  | p :: ps, ρ, j => by
    have hl : (wipeE ρ ps).length = ρ.length := by
      have : ∀ ps : List (String × Nat), (wipeE ρ ps).length = ρ.length := by
        intro ps
        induction ps with
        | nil => rfl
        | cons q qs ih => unfold wipeE; rw [List.length_set, ih]
      exact this ps
    unfold wipeE
    rw [List.getElem?_set, hl, wipeE_get ps ρ j]
    by_cases h : p.2 = j
    · subst h
      simp only [if_true, List.map_cons, List.mem_cons, true_or]
      by_cases hl' : p.2 < ρ.length
      · simp [hl']
      · simp [hl']
    · have : j ≠ p.2 := fun z => h z.symm
      rw [if_neg h]
      simp only [List.map_cons, List.mem_cons, this, false_or]
theorem wipeE_length (ρ : Env) : ∀ own : List (String × Nat), (wipeE ρ own).length = ρ.length
  | [] => rfl
  | p :: ps => by unfold wipeE; rw [List.length_set, wipeE_length ρ ps]
theorem RelE.wipe {ρ : Env} {own : List (String × Nat)} (r : RelE K fa H A ρ σ) : RelE K fa H A (wipeE ρ own) (L2.wipe σ (own.map (·.2))) := by
  refine ⟨by rw [wipeE_length, wipe_length, r.1], fun i d h => ?_⟩
  rw [wipeE_get] at h
  rw [wipe_get]
  split at h
  · cases hh : ρ[i]? with
    | none => rw [hh] at h; cases h
    | some o => rw [hh] at h; cases h
  · rename_i hi
    rw [if_neg hi]
    exact r.2 i d h
theorem Stp.updFresh {p : Addr} {o : HO} (s : Stp A H A' H') (h : H p = none) : Stp A H A' (upd H' p o) := by
  have ne : ∀ q u, H q = some u → q ≠ p := fun q u e z => by rw [z, h] at e; cases e
  refine ⟨s.pre, fun q u e hq => ?_, fun q u e => ?_, fun q xs e => ?_, fun q o' u e => ?_⟩
  · rw [upd_ne (ne _ _ e)]; exact s.keep q u e hq
  · obtain ⟨u', h'⟩ := s.there q u e
    exact ⟨u', by rw [upd_ne (ne _ _ e)]; exact h'⟩
  · rw [upd_ne (ne _ _ e)]; exact s.tups q xs e
  · rw [upd_ne (ne _ _ e)]; exact s.frzs q o' u e
theorem Rep.trackedF : ∀ {v : V} {d : D} {F : List Addr}, Rep K fa H A v d F → ∀ a ∈ F, ∃ vs, H a = some (.lst vs) := by
  intro v d F h
  refine Rep.rec (motive_1 := fun _ _ F _ => ∀ a ∈ F, ∃ vs, H a = some (.lst vs)) (motive_2 := fun _ _ F _ => ∀ a ∈ F, ∃ vs, H a = some (.lst vs)) ?_ ?_ ?_ ?_ ?_ ?_ ?_ ?_ ?_ ?_ ?_ h
  · simp
  · simp
  · simp
  · intros; simp_all
  · intros; simp_all
  · intros; simp_all
  · intros; simp_all
  · intro a vs l F h _ ih; exact ih
  · intro a vs l F h _ ih b hb
    rcases List.mem_append.mp hb with hb | hb
    · exact ih b hb
    · simp at hb; subst hb; exact ⟨vs, h⟩
  · simp
  · intro v vs d ds F F' _ _ ih1 ih2 b hb
    rcases List.mem_append.mp hb with hb | hb
    · exact ih1 b hb
    · exact ih2 b hb
theorem Reps.trackedF : ∀ {vs : List V} {ds : List D} {F : List Addr}, Reps K fa H A vs ds F → ∀ a ∈ F, ∃ vs, H a = some (.lst vs)
  | _, _, _, .nil, _, h => by simp at h
  | _, _, _, .cons r t, a, h => by
    rcases List.mem_append.mp h with h | h
    · exact Rep.trackedF r a h
    · exact Reps.trackedF t a h
/-- one more item of the new list -/
theorem accs_ok {Dd : Addr} {accv : List V} {acc : List D} {F F4 : List Addr} {y : V} {d : D} (h : H Dd = some (.lst accv)) (hD : Dd ∉ F) (hD4 : Dd ∉ F4) (r : Reps K fa H A accv acc F) (q : Rep K fa H A y d F4) : Reps K fa (upd H Dd (.lst (accv ++ [y]))) A (accv ++ [y]) (acc ++ [d]) (F ++ F4) :=
  ((r.append (Reps.one q))).sta (Sta.upd h fun hm => by rcases List.mem_append.mp hm with hm | hm <;> first | exact hD hm | exact hD4 hm)
theorem lc_ok {e it : C} {tg : Tg} {own : List (String × Nat)} {ifs : Cs} {tt : TT} {te : TE} {Q : VK} (hw : ∀ i ∈ tg.slots, i ∈ own.map (·.2))
    (h : tD K fa W G call (.lc e tg own it ifs) σ H Q) :
    tLc (tI G call K fa W it) (tG K fa tg) (tIfs K fa (fun _ _ _ _ => False) G call ifs) (tD K fa (fun _ _ _ _ => False) G call e) (own.map (·.2)) σ H Q := by
  obtain ⟨A, ρ, μ, m, re, h⟩ := h
  refine ⟨A, ρ, μ, m, re, ?_⟩
  simp only [ev] at h
  cases hr : ev G call it ρ μ with
  | no => rw [hr] at h; exact h
  | ex e μ' => rw [hr] at h; exact h
  | ok s μ1 =>
    rw [hr] at h
    simp only [Rs.bnd_ok] at h
    generalize hss : (settle s μ1).1 = ss at h ⊢
    generalize hms : (settle s μ1).2 = ms at h
    cases hx : items ms ss with
    | none => rw [hx] at h; exact h.elim
    | some xs =>
      rw [hx] at h
      dsimp only [PstI]
      rw [hss, hms]
      refine ⟨xs, hx, fun H1 A1 J Fs st1 m1 src1 nFs Dd hD => ?_⟩
      simp only at h
      generalize hf : (fun (x : D) (μ : Store) => match bindT tg x (wipeE ρ own) μ with
        | some (ρ', μ) => (evIfs G call ifs ρ' μ).bnd fun b μ => if b = true then (ev G call e ρ' μ).bnd fun d μ => Rs.ok (some d) μ else Rs.ok none μ
        | none => Rs.no) = f at h
      have hD0 : H Dd = none := st1.free hD
      let Wd : Nat → Nat → Hp → Prop := fun i n Hi => n = xs.length - i ∧ i ≤ xs.length ∧ ∃ Ai μi accv acc F, Stp A H Ai Hi ∧ RelM K fa Hi Ai μi ∧ Src K fa J ss xs Fs Ai Hi ∧ Dd ∉ Ai ∧ Dd ∉ Fs ∧ Hi Dd = some (.lst accv) ∧
        Reps K fa Hi Ai accv acc F ∧ F.Nodup ∧ Dd ∉ F ∧ (∀ a ∈ F, H a = none ∧ a ∉ Ai) ∧ Pst K fa W A H σ (lcGo ss xs f (xs.drop i) μi acc) Q
      refine ⟨Wd, ⟨xs.length, by simp, Nat.zero_le _, A1, ms, [], [], [], st1.trans (.new hD), m1.new hD, src1.step (.new hD), m1.fresh hD, fun z => ?_, upd_same, .nil, List.nodup_nil, by simp, by simp, by simpa using h⟩, ?_⟩
      · obtain ⟨vs, e⟩ := (src1.1 _ z).2
        rw [hD] at e; cases e
      · rintro i n Hi ⟨rfl, hi, Ai, μi, accv, acc, F, sti, mi, srci, nDA, nDF, hDi, accr, accn, nDacc, accnew, post⟩
        obtain ⟨hFs, P, p0, p1, p2⟩ := id srci
        by_cases hlt : i < xs.length
        · -- a turn
          have hdrop : xs.drop i = xs[i] :: xs.drop (i + 1) := List.drop_eq_getElem_cons hlt
          rw [hdrop] at post
          unfold lcGo at post
          split at post
          · rename_i hok
            obtain ⟨hgo, hy⟩ := (p2 Ai Hi μi p0 mi hok i).1 xs[i] (List.getElem?_eq_getElem hlt)
            refine .inr ⟨hgo, fun H' => Wd (i + 1) (xs.length - (i + 1)) H', fun H' w => ⟨_, by omega, w⟩, fun x H2 yld => ?_⟩
            obtain ⟨st2, m2, r2⟩ := hy x H2 yld
            cases hb : bindT tg xs[i] (wipeE ρ own) μi with
            | none => rw [← hf] at post; simp only [hb] at post; exact post.elim
            | some p =>
              obtain ⟨ρ', μ2⟩ := p
              refine ⟨Ai, wipeE ρ own, μi, xs[i], [], ρ', μ2, m2, ((re.step (sti.trans st2))).wipe, r2, List.nodup_nil, by simp, hb, fun σ2 A2 ⟨N, eN, hN⟩ m3 re3 c3 => ?_⟩
              have hNe : N = [] := by
                cases N with
                | nil => rfl
                | cons a N => exact absurd (hN a (by simp)) (by simp)
              subst hNe
              rw [List.append_nil] at eN
              subst eN
              refine ⟨wipe_chg hw c3, A2, ρ', μ2, m3, re3, ?_⟩
              have hfx : f xs[i] μi = (evIfs G call ifs ρ' μ2).bnd fun b μ => if b = true then (ev G call e ρ' μ).bnd fun d μ => Rs.ok (some d) μ else Rs.ok none μ := by
                rw [← hf]; simp only [hb]
              rw [hfx] at post
              cases hifs : evIfs G call ifs ρ' μ2 with
              | no => rw [hifs] at post; exact post.elim
              | ex _ _ => rw [hifs] at post; exact post.elim
              | ok b μ3 =>
                rw [hifs] at post
                simp only [Rs.bnd_ok] at post
                intro H3 A3 st3 m4
                cases b with
                | false =>
                  rw [if_neg Bool.false_ne_true]
                  rw [if_neg Bool.false_ne_true] at post
                  simp only at post
                  have stx : Stp A2 Hi A3 H3 := st2.trans st3
                  exact ⟨rfl, by omega, A3, μ3, accv, acc, F, sti.trans stx, m4, srci.step stx, stx.out hDi nDA, nDF, stx.keep _ _ hDi nDA, accr.step stx fun a ha => (accnew a ha).2, accn, nDacc,
                    fun a ha => ⟨(accnew a ha).1, let ⟨vs, e⟩ := Reps.trackedF accr a ha; stx.out e (accnew a ha).2⟩, post⟩
                | true =>
                  rw [if_pos rfl]
                  rw [if_pos rfl] at post
                  refine ⟨A3, ρ', μ3, m4, re3.step st3, ?_⟩
                  cases hev : ev G call e ρ' μ3 with
                  | no => rw [hev] at post; exact post.elim
                  | ex _ _ => rw [hev] at post; exact post.elim
                  | ok d μ4 =>
                    rw [hev] at post
                    simp only [Rs.bnd_ok] at post
                    split at post
                    · rename_i hlen
                      intro y H4 A4 F4 g4
                      have stx : Stp A2 Hi A4 H4 := (st2.trans st3).trans g4.stp
                      have hD4 : H4 Dd = some (.lst accv) := stx.keep _ _ hDi nDA
                      have nD4 : Dd ∉ A4 := stx.out hDi nDA
                      have hD3 : H3 Dd = some (.lst accv) := (st2.trans st3).keep _ _ hDi nDA
                      have nDF4 : Dd ∉ F4 := fun z => by
                        have := (g4.new _ z).1
                        rw [hD3] at this; cases this
                      have accr4 : Reps K fa H4 A4 accv acc F := accr.step stx fun a ha => (accnew a ha).2
                      have src4 := srci.step stx
                      refine ⟨accv, hD4, by rw [accr.length, sizeLine_eq]; exact hlen, rfl, by omega, A4, μ4, accv ++ [y], acc ++ [d], F ++ F4, ((sti.trans stx)).updFresh hD0, g4.mem.upd hD4 nD4, src4.sta (Sta.upd hD4 nDF) fun a ha => (src4.1 a ha).1, nD4, nDF, upd_same,
                        accs_ok hD4 nDacc nDF4 accr4 g4.rep, List.nodup_append.mpr ⟨accn, g4.nd, fun a ha b hb e => ?_⟩, fun hm => ?_, fun a ha => ?_, post⟩
                      · subst e
                        obtain ⟨vs, e⟩ := Reps.trackedF accr a ha
                        have e3 := (st2.trans st3).keep _ _ e (accnew a ha).2
                        rw [(g4.new a hb).1] at e3; cases e3
                      · rcases List.mem_append.mp hm with hm | hm
                        · exact nDacc hm
                        · exact nDF4 hm
                      · rcases List.mem_append.mp ha with ha | ha
                        · obtain ⟨vs, e⟩ := Reps.trackedF accr a ha
                          exact ⟨(accnew a ha).1, stx.out e (accnew a ha).2⟩
                        · exact ⟨(sti.trans (st2.trans st3)).free (g4.new a ha).1, (g4.new a ha).2⟩
                    · exact post.elim
          · exact post.elim
        · -- the end
          have hie : i = xs.length := by omega
          subst hie
          rw [List.drop_length] at post
          unfold lcGo at post
          split at post
          · rename_i hok
            refine .inl ⟨(p2 Ai Hi μi p0 mi hok xs.length).2 (Nat.le_refl _), ?_⟩
            refine post _ _ Ai (F ++ [Dd]) ⟨sti, mi, .tl hDi accr, List.nodup_append.mpr ⟨accn, by simp, fun a ha b hb e => ?_⟩, fun a ha => ?_⟩
            · have : b = Dd := by simpa using hb
              subst this
              subst e
              exact nDacc ha
            · rcases List.mem_append.mp ha with ha | ha
              · exact accnew a ha
              · have : a = Dd := by simpa using ha
                subst this
                exact ⟨hD0, nDA⟩
          · exact post.elim
end
end Mp
end SSnd8
section SSnd9
/-! Snd9: the match of an expression; its soundness. -/
namespace Mp
open PySem PySem.Spec PyProof.Rows L2

def bltN : Blt → String
  | .len => "len" | .tuple => "tuple" | .list => "list" | .int => "int" | .min => "min" | .max => "max" | .isinstance => "isinstance" | .sum => "sum" | .abs => "abs" | .all => "all" | .any => "any"
def setB : Expr → Bool
  | .Set .. => false
  | _ => true
def plainIxB : Expr → Bool
  | .Slice .. => false
  | _ => true
/-- no plain name of ours is a call: the receiver's own row -/
def recvB : Expr → Bool
  | .Name .. => true
  | _ => false
def Cs.len : Cs → Nat
  | .nil => 0
  | .cons _ r => r.len + 1
mutual
def mE (N : List Str) (fs : List String) (sc : Scope) : C → Expr → Bool
  | .lit .non, .Constant .none _ _ => true
  | .lit (.bl b), .Constant (.bool b') _ _ => b == b'
  | .lit (.int i), .Constant (.int j) _ _ => decide (i = j)
  | .lit (.str s), .Constant (.str t) _ _ => decide (t = toS s) && okS s
  | .var i, .Name x _ => decide (N[i]? = some x) && visB sc x && plB x
  | .glo x, .Name y _ => decide (y = (x : Str)) && glB sc y && plB y
  | .bin op a b, .BinOp a' op' b' _ => decide (op' = opB op) && mE N fs sc a a' && mE N fs sc b b'
  | .neg a, .UnaryOp .USub a' _ => mE N fs sc a a'
  | .nt a, .UnaryOp .Not a' _ => mE N fs sc a a'
  | .band l, .BoolOp .And es _ => mEs N fs sc l es
  | .bor l, .BoolOp .Or es _ => mEs N fs sc l es
  | .ite t a b, .IfExp t' a' b' _ => mE N fs sc t t' && mE N fs sc a a' && mE N fs sc b b'
  | .cmp op a b, .Compare a' [op'] [b'] _ => decide (op' = opC op) && mE N fs sc a a' && mE N fs sc b b' && setB b'
  | .cmp2 o1 o2 a b c, .Compare a' [p1, p2] [b', c'] _ => decide (p1 = opC o1) && decide (p2 = opC o2) && mE N fs sc a a' && mE N fs sc b b' && mE N fs sc c c' && setB b' && setB c'
  | .call f l, .Call (.Name x _) (e :: es) [] _ => decide (x = (f : Str)) && glB sc x && plB x && fs.contains f && mEs N fs sc l (e :: es)
  | .blt f l, .Call (.Name x _) (e :: es) [] _ => decide (x = (bltN f : Str)) && glB sc x && mEs N fs sc l (e :: es)
  | .isi a k, .Call (.Name x _) [a', .Name y _] [] _ => decide (x = ("isinstance" : Str)) && glB sc x && decide (y = (clsN k : Str)) && glB sc y && mE N fs sc a a' && starB a'
  | .meth .append o l, .Call (.Attribute o' m p) [e] [] q => decide (m = ("append" : Str)) && recvB o' && (p.endLine == q.line) && mE N fs sc o o' && mEs N fs sc l [e]
  | .tup l, .Tuple es _ _ => mEs N fs sc l es && decide (l.len ≤ 1000)
  | .lst l, .List es _ => mEs N fs sc l es && decide (l.len ≤ 1000)
  | .ix a i, .Subscript a' i' _ => mE N fs sc a a' && mE N fs sc i i' && plainIxB i'
  | .lc e tg own it ifs, .ListComp e' [⟨tg', it', ifs', 0⟩] scope _ => blkC N sc scope (own.map fun p => ((p.1 : Str), p.2)) && mE N fs (relS scope sc) e e' && mTg N scope tg tg' &&
      (tg.slots.all fun i => (own.map (·.2)).contains i) && setB it' &&
      (mR N fs sc it it' || mE N fs sc it it') && mEs N fs (relS scope sc) ifs ifs' && decide (ifs'.length ≤ 1)
  | .lrng t a, .Call (.Name x _) [.Call (.Name y _) [a'] [] _] [] _ => decide (x = ((if t then "tuple" else "list" : String) : Str)) && glB sc x && decide (y = ("range" : Str)) && glB sc y && mE N fs sc a a' && starB a'
  | _, _ => false
def mEs (N : List Str) (fs : List String) (sc : Scope) : Cs → List Expr → Bool
  | .nil, [] => true
  | .cons c r, e :: es => mE N fs sc c e && starB e && mEs N fs sc r es
  | _, _ => false
/-- .. of a count of steps that is walked -/
def mR (N : List Str) (fs : List String) (sc : Scope) : C → Expr → Bool
  | .rng1 a, .Call (.Name x _) [a'] [] _ => decide (x = ("range" : Str)) && glB sc x && mE N fs sc a a' && starB a'
  | .rng2 a b, .Call (.Name x _) [a', b'] [] _ => decide (x = ("range" : Str)) && glB sc x && mE N fs sc a a' && mE N fs sc b b' && starB a' && starB b'
  | _, _ => false
end
/-- .. of what is walked -/
def mI (N : List Str) (fs : List String) (sc : Scope) (it : C) (it' : Expr) : Bool := mR N fs sc it it' || mE N fs sc it it'
end Mp
end SSnd9
section SSnd10
/-! Snd10: an expression's soundness, case by case. -/
namespace Mp
open PySem PySem.Spec PyProof.Rows L2
section
variable {fa : String → Option Addr} {W : WX} {A A0 A1 A2 A' : List Addr} {H H0 H1 H2 H' : Hp} {σ σ' : L2.St} {X : Cx} {G : String → Option D} {call : String → List D → Store → Rs D} {k : Nat} {fs : List String}

theorem tD_mono {K : PySem.W.Frag} {c : C} {Q Q' : VK} (h : tD K fa W G call c σ H Q) (m : ∀ v H, Q v H → Q' v H) : tD K fa W G call c σ H Q' :=
  let ⟨A, ρ, μ, r, e, p⟩ := h; ⟨A, ρ, μ, r, e, p.mono m⟩
theorem tB_mono {K : PySem.W.Frag} {c : C} {Q Q' : Bool → Hp → Prop} (h : Mp.tB K fa W G call c σ H Q) (m : ∀ v H, Q v H → Q' v H) : Mp.tB K fa W G call c σ H Q' :=
  let ⟨A, ρ, μ, r, e, p⟩ := h; ⟨A, ρ, μ, r, e, p.mono m⟩
theorem tL_mono {K : PySem.W.Frag} {c : Cs} {Q Q' : List V → Hp → Prop} (h : tL K fa W G call c σ H Q) (m : ∀ v H, Q v H → Q' v H) : tL K fa W G call c σ H Q' :=
  let ⟨A, ρ, μ, r, e, p⟩ := h; ⟨A, ρ, μ, r, e, p.mono m⟩
theorem PstB.done {K : PySem.W.Frag} {μ : Store} {b : Bool} {Q : Bool → Hp → Prop} (h : PstB K fa W A0 H0 σ (.ok b μ) Q) (s : Stp A0 H0 A H) (r : RelM K fa H A μ) : Q b H := h H A s r
/-- a test by the value's truth -/
theorem pt_of {c : C} {e : Expr} (h : PE X e (tD X.K fa W G call c)) (he : ∀ whole, isTrue e X.env whole = (do let v ← whole; standAt e.pos; holding [v] (truthy v))) : PT X e (Mp.tB X.K fa W G call c) := by
  refine PT.imp (pt_truth h he) fun σ H Q q => ?_
  obtain ⟨A, ρ, μ, m, re, p⟩ := q
  refine ⟨A, ρ, μ, m, re, Pst.mono (Pst.bndB .refl p) fun v H1 ⟨A1, d, μ1, F, g, p1⟩ => ?_⟩
  obtain ⟨b, e1, p2⟩ := PstB.of p1
  exact ⟨b, truV_of g.mem g.rep e1, p2.done g.stp g.mem⟩
theorem pe_no {e : Expr} : PE X e (fun _ _ _ => False) := ⟨fun _ _ _ _ _ _ h => h.elim⟩

theorem pe_lit {d : D} {e : Expr} {N : List Str} {fs : List String} {sc : Scope} (h : mE N fs sc (.lit d) e = true) : PE X e (tD X.K fa W G call (.lit d)) := by
  cases d with
  | non =>
    cases e with
    | Constant c _ _ =>
      cases c with
      | none => exact PE.imp pe_non fun σ H Q ⟨A, ρ, μ, m, re, p⟩ => Pst.done .refl m .non p
      | _ => simp [mE] at h
    | _ => simp [mE] at h
  | bl b =>
    cases e with
    | Constant c _ _ =>
      cases c with
      | bool b' =>
        have hb : b = b' := by simpa [mE] using h
        subst hb
        exact PE.imp pe_bl fun σ H Q ⟨A, ρ, μ, m, re, p⟩ => Pst.done .refl m (.bl b) p
      | _ => simp [mE] at h
    | _ => simp [mE] at h
  | int i =>
    cases e with
    | Constant c _ _ =>
      cases c with
      | int j =>
        have hb : i = j := by simpa [mE] using h
        subst hb
        exact PE.imp pe_int fun σ H Q ⟨A, ρ, μ, m, re, p⟩ => Pst.done .refl m (.int i) p
      | _ => simp [mE] at h
    | _ => simp [mE] at h
  | str s =>
    cases e with
    | Constant c _ _ =>
      cases c with
      | str t =>
        have hb : t = toS s ∧ okS s = true := by simpa [mE] using h
        obtain ⟨e1, e2⟩ := hb
        subst e1
        exact PE.imp pe_str fun σ H Q ⟨A, ρ, μ, m, re, p⟩ => Pst.done .refl m (.str s e2) p
      | _ => simp [mE] at h
    | _ => simp [mE] at h
  | _ => cases e <;> simp [mE] at h
theorem pe_varD {i : Nat} {x : Str} {pos : Pos} (h1 : X.N[i]? = some x) (h2 : Vis X.env.scope x) (h3 : plB x = true) : PE X (.Name x pos) (tD X.K fa W G call (.var i)) := by
  obtain ⟨p1, p2⟩ := plB_ok h3
  refine PE.imp (pe_var h1 h2 p1 p2) fun σ H Q q => ?_
  obtain ⟨A, ρ, μ, m, re, p⟩ := q
  simp only [ev] at p
  split at p
  · rename_i d hd
    obtain ⟨v, e1, e2⟩ := re.2 i d hd
    exact ⟨v, e1, p.done .refl m e2⟩
  · exact p.elim
theorem pe_gloD (hC : Cn X G call k fa fs W) {x : String} {y : Str} {pos : Pos} (h1 : y = (x : Str)) (h2 : glB X.env.scope y = true) (h3 : plB y = true) : PE X (.Name y pos) (tD X.K fa W G call (.glo x)) := by
  cases hg : G x with
  | none =>
    refine PE.imp pe_no fun σ H Q q => ?_
    obtain ⟨A, ρ, μ, m, re, p⟩ := q
    simp only [ev, hg] at p
    exact p
  | some d =>
    subst h1
    obtain ⟨v, u, e1, e2, e3⟩ := hC.glob x d hg
    refine PE.imp (pe_glob (glB_ok h2) e1 e2 (plB_ok h3).1) fun σ H Q q => ?_
    obtain ⟨A, ρ, μ, m, re, p⟩ := q
    simp only [ev, hg] at p
    exact p.done .refl m (e3 _ _)
theorem pe_binD {op : BinK} {a b : C} {a' b' : Expr} {pos : Pos} (ha : PE X a' (tD X.K fa W G call a)) (hb : PE X b' (tD X.K fa W G call b)) : PE X (.BinOp a' (opB op) b' pos) (tD X.K fa W G call (.bin op a b)) := by
  refine ⟨fun pins s σ H Q I q => ?_⟩
  obtain ⟨r, h1, h2⟩ := binop_ok (X := X) (fa := fa) (W := W) (σ := σ) op
  refine (pe_op h1 ha hb).run pins s σ H Q I ?_
  obtain ⟨A, ρ, μ, m, re, p⟩ := q
  refine tD_mono (two_ok (f := fun x y μ => Rs.of (binop μ op x y) μ) m re p) fun v H1 h => tD_mono h fun w H2 ⟨x, y, A2, μ2, F1, F2, t, p2⟩ => ?_
  obtain ⟨z, e1, p3⟩ := Pst.of p2
  exact h2 t e1 p3
theorem pe_negD {a : C} {a' : Expr} {pos : Pos} (ha : PE X a' (tD X.K fa W G call a)) : PE X (.UnaryOp .USub a' pos) (tD X.K fa W G call (.neg a)) := by
  refine PE.imp (pe_un un_neg ha) fun σ H Q ⟨A, ρ, μ, m, re, p⟩ => ?_
  refine ⟨A, ρ, μ, m, re, Pst.mono (Pst.bnd .refl p) fun v H1 ⟨A1, d, μ1, F, g, p1⟩ => ?_⟩
  have mm := g.mem; have st := g.stp
  cases d with
  | int i =>
    cases g.rep
    exact ⟨i, rfl, p1.done st mm (.int _)⟩
  | _ => exact p1.elim
theorem pe_ntD {a : C} {a' : Expr} {pos : Pos} (ha : PE X a' (tD X.K fa W G call a)) : PE X (.UnaryOp .Not a' pos) (tD X.K fa W G call (.nt a)) := by
  refine PE.imp (pe_notT ha) fun σ H Q ⟨A, ρ, μ, m, re, p⟩ => ?_
  refine ⟨A, ρ, μ, m, re, Pst.mono (Pst.bnd .refl p) fun v H1 ⟨A1, d, μ1, F, g, p1⟩ => ?_⟩
  obtain ⟨z, e1, p2⟩ := Pst.of p1
  rw [Option.map_eq_some_iff] at e1
  obtain ⟨b, e1, rfl⟩ := e1
  exact ⟨b, truV_of g.mem g.rep e1, p2.done g.stp g.mem (.bl _)⟩
theorem pt_ntD {a : C} {a' : Expr} {pos : Pos} (ha : PT X a' (Mp.tB X.K fa W G call a)) : PT X (.UnaryOp .Not a' pos) (Mp.tB X.K fa W G call (.nt a)) := by
  refine PT.imp (pt_not ha) fun σ H Q ⟨A, ρ, μ, m, re, p⟩ => ⟨A, ρ, μ, m, re, ?_⟩
  simp only [ev] at p
  cases hr : ev G call a ρ μ with
  | no => rw [hr] at p; exact p
  | ex e μ' => rw [hr] at p; exact p
  | ok d μ1 =>
    rw [hr] at p
    simp only [Rs.bnd_ok] at p ⊢
    cases ht : truth μ1 d with
    | none => rw [ht] at p; exact p
    | some b =>
      rw [ht] at p
      simp only [Option.map_some, Rs.of_some, Rs.bnd_ok, truth] at p
      exact p
theorem pt_ifExp {t a b : Expr} {tA tB' tC' : TT} {pos : Pos} (ht : PT X t tA) (ha : PT X a tB') (hb : PT X b tC') : PT X (.IfExp t a b pos) (fun σ H Q => tA σ H fun c H1 => if c = true then tB' σ H1 Q else tC' σ H1 Q) := by
  refine ⟨fun pins s σ H Q I h => ?_⟩
  refine wpAny_bind (thn (ht.run pins s σ H _ I h) fun c s1 ⟨H1, I1, q1⟩ => ?_)
  cases c with
  | true => exact ha.run pins s1 σ H1 Q I1 q1
  | false => exact hb.run pins s1 σ H1 Q I1 q1
theorem pe_iteD {t a b : C} {t' a' b' : Expr} {pos : Pos} (ht : PT X t' (Mp.tB X.K fa W G call t)) (ha : PE X a' (tD X.K fa W G call a)) (hb : PE X b' (tD X.K fa W G call b)) : PE X (.IfExp t' a' b' pos) (tD X.K fa W G call (.ite t a b)) := by
  refine PE.imp (pe_ifExp ht ha hb) fun σ H Q ⟨A, ρ, μ, m, re, p⟩ => ?_
  refine ⟨A, ρ, μ, m, re, ?_⟩
  simp only [ev] at p
  cases hr : ev G call t ρ μ with
  | no => rw [hr] at p; exact p
  | ex e μ' => rw [hr] at p; exact p
  | ok d μ1 =>
    rw [hr] at p
    simp only [Rs.bnd_ok] at p ⊢
    cases hb : truth μ1 d with
    | none => rw [hb] at p; exact p
    | some c =>
      rw [hb] at p
      intro H1 A1 s1 m1
      have shift : ∀ {r : Rs D}, Pst X.K fa W A H σ r Q → Pst X.K fa W A1 H1 σ r Q := by
        intro r p
        cases r with
        | no => exact p
        | ex e μ' => intro cls dd H' A' s m x; exact p cls dd H' A' (s1.trans s) m x
        | ok d μ' => intro v H' A' F g; exact p v H' A' F (g.pre s1)
      cases c with
      | true => exact ⟨A1, ρ, μ1, m1, re.step s1, shift p⟩
      | false => exact ⟨A1, ρ, μ1, m1, re.step s1, shift p⟩
theorem pt_iteD {t a b : C} {t' a' b' : Expr} {pos : Pos} (ht : PT X t' (Mp.tB X.K fa W G call t)) (ha : PT X a' (Mp.tB X.K fa W G call a)) (hb : PT X b' (Mp.tB X.K fa W G call b)) : PT X (.IfExp t' a' b' pos) (Mp.tB X.K fa W G call (.ite t a b)) := by
  refine PT.imp (pt_ifExp ht ha hb) fun σ H Q ⟨A, ρ, μ, m, re, p⟩ => ?_
  refine ⟨A, ρ, μ, m, re, ?_⟩
  simp only [ev] at p
  cases hr : ev G call t ρ μ with
  | no => rw [hr] at p; exact p
  | ex e μ' => rw [hr] at p; exact p
  | ok d μ1 =>
    rw [hr] at p
    simp only [Rs.bnd_ok] at p ⊢
    cases hb : truth μ1 d with
    | none => rw [hb] at p; exact p
    | some c =>
      rw [hb] at p
      intro H1 A1 s1 m1
      have shift : ∀ {r : Rs Bool}, PstB X.K fa W A H σ r Q → PstB X.K fa W A1 H1 σ r Q := by
        intro r p
        cases r with
        | no => exact p
        | ex e μ' => intro cls dd H' A' s m x; exact p cls dd H' A' (s1.trans s) m x
        | ok d μ' => intro H' A' s g; exact p H' A' (s1.trans s) g
      cases c with
      | true => exact ⟨A1, ρ, μ1, m1, re.step s1, shift p⟩
      | false => exact ⟨A1, ρ, μ1, m1, re.step s1, shift p⟩
theorem set_mark {op : CmpOp} {b : Expr} (h : setB b = true) : behindInMarks op b = false := by
  cases b <;> first | rfl | (simp [setB] at h)
theorem pe_cmpD (hC : Cn X G call k fa fs W) {op : CmpK} {a b : C} {a' b' : Expr} {pos : Pos} (ha : PE X a' (tD X.K fa W G call a)) (hb : PE X b' (tD X.K fa W G call b)) (hs : setB b' = true) :
    PE X (.Compare a' [opC op] [b'] pos) (tD X.K fa W G call (.cmp op a b)) ∧ PT X (.Compare a' [opC op] [b'] pos) (Mp.tB X.K fa W G call (.cmp op a b)) := by
  obtain ⟨r, h1, h2⟩ := cmpop_ok (X := X) (fa := fa) op hC.room.units
  constructor
  · refine PE.imp (pe_cmpR h1 ha hb (set_mark hs)) fun σ H Q ⟨A, ρ, μ, m, re, p⟩ => ?_
    refine tD_mono (two_ok (f := fun x y μ => Rs.of ((cmpop μ op x y).map .bl) μ) m re p) fun v H1 h => tD_mono h fun w H2 ⟨x, y, A2, μ2, F1, F2, t, p2⟩ => ?_
    obtain ⟨z, e1, p3⟩ := Pst.of p2
    rw [Option.map_eq_some_iff] at e1
    obtain ⟨b, e1, rfl⟩ := e1
    exact h2 t e1 (p3.done t.stp t.mem (.bl _))
  · refine PT.imp (pt_cmpR h1 ha hb (set_mark hs)) fun σ H Q ⟨A, ρ, μ, m, re, p⟩ => ?_
    have p' : Pst X.K fa W A H σ (ev G call (.cmp op a b) ρ μ) fun v H' => ∃ k, v = .bl k ∧ Q k H' := by
      cases hr : ev G call (.cmp op a b) ρ μ with
      | no => rw [hr] at p; exact p
      | ex e μ' => rw [hr] at p; exact p
      | ok d μ1 =>
        rw [hr] at p
        simp only [Rs.bnd_ok] at p
        obtain ⟨c, e1, p2⟩ := PstB.of p
        intro v H' A' F g
        -- the value is a bool
        have isb : ∃ c, d = .bl c := by
          simp only [ev] at hr
          cases h1 : ev G call a ρ μ with
          | no => rw [h1] at hr; cases hr
          | ex _ _ => rw [h1] at hr; cases hr
          | ok x μ2 =>
            rw [h1] at hr
            simp only [Rs.bnd_ok] at hr
            cases h2 : ev G call b ρ μ2 with
            | no => rw [h2] at hr; cases hr
            | ex _ _ => rw [h2] at hr; cases hr
            | ok y μ3 =>
              rw [h2] at hr
              simp only [Rs.bnd_ok] at hr
              cases h3 : cmpop μ3 op x y with
              | none => rw [h3] at hr; cases hr
              | some c => rw [h3] at hr; cases hr; exact ⟨c, rfl⟩
        obtain ⟨c', rfl⟩ := isb
        cases e1
        have mm := g.mem; have st := g.stp
        cases g.rep
        exact ⟨_, rfl, p2.done st mm⟩
    refine tD_mono (two_ok (f := fun x y μ => Rs.of ((cmpop μ op x y).map .bl) μ) m re p') fun v H1 h => tD_mono h fun w H2 ⟨x, y, A2, μ2, F1, F2, t, p2⟩ => ?_
    obtain ⟨z, e1, p3⟩ := Pst.of p2
    rw [Option.map_eq_some_iff] at e1
    obtain ⟨b, e1, rfl⟩ := e1
    exact h2 t e1 (p3.done t.stp t.mem (.bl _))
end
end Mp
end SSnd10
section SSnd11
/-! Snd11: an expression's soundness: chains, and, or, arguments, calls, displays. -/
namespace Mp
open PySem PySem.Spec PyProof.Rows L2
section
variable {fa : String → Option Addr} {W : WX} {A A0 A1 A2 A' : List Addr} {H H0 H1 H2 H' : Hp} {σ σ' : L2.St} {X : Cx} {G : String → Option D} {call : String → List D → Store → Rs D} {k : Nat} {fs : List String}

theorem pst_bool {K : PySem.W.Frag} {r : Rs D} {Q : Bool → Hp → Prop} (isb : ∀ d μ, r = .ok d μ → ∃ c, d = .bl c) (p : PstB K fa W A H σ (r.bnd fun x μ => Rs.of (truth μ x) μ) Q) : Pst K fa W A H σ r fun v H' => ∃ k, v = .bl k ∧ Q k H' := by
  cases r with
  | no => exact p
  | ex e μ' => exact p
  | ok d μ1 =>
    simp only [Rs.bnd_ok] at p
    obtain ⟨c, e1, p2⟩ := PstB.of p
    intro v H' A' F g
    obtain ⟨c', rfl⟩ := isb d μ1 rfl
    cases e1
    have mm := g.mem; have st := g.stp
    cases g.rep
    exact ⟨_, rfl, p2.done st mm⟩
theorem lastM {o1 o2 : CmpOp} {b c : Expr} (hc : setB c = true) : lastMarks [o1, o2] [b, c] = false := set_mark hc
theorem of_map_bl {o : Option Bool} {μ μ' : Store} {d : D} (h : Rs.of (o.map .bl) μ = .ok d μ') : ∃ c, d = .bl c := by
  cases o with
  | none => cases h
  | some c => cases h; exact ⟨c, rfl⟩
theorem pe_cmp2D (hC : Cn X G call k fa fs W) {o1 o2 : CmpK} {a b c : C} {a' b' c' : Expr} {pos : Pos} (ha : PE X a' (tD X.K fa W G call a)) (hb : PE X b' (tD X.K fa W G call b)) (hc : PE X c' (tD X.K fa W G call c)) (hs : setB c' = true) :
    PE X (.Compare a' [opC o1, opC o2] [b', c'] pos) (tD X.K fa W G call (.cmp2 o1 o2 a b c)) ∧ PT X (.Compare a' [opC o1, opC o2] [b', c'] pos) (Mp.tB X.K fa W G call (.cmp2 o1 o2 a b c)) := by
  obtain ⟨r, h1, h2⟩ := cmpop_ok (X := X) (fa := fa) o1 hC.room.units
  obtain ⟨r', h1', h2'⟩ := cmpop_ok (X := X) (fa := fa) o2 hC.room.units
  have core : ∀ {σ : L2.St} {A : List Addr} {ρ : Env} {μ : Store} {H : Hp} {Q : VK}, RelM X.K fa H A μ → RelE X.K fa H A ρ σ → Pst X.K fa W A H σ (ev G call (.cmp2 o1 o2 a b c) ρ μ) Q → tChain r r' (tD X.K fa W G call a) (tD X.K fa W G call b) (tD X.K fa W G call c) σ H Q := by
    intro σ A ρ μ H Q m re p
    refine tD_mono (two_ok (f := fun x y μ => match cmpop μ o1 x y with
      | some true => (ev G call c ρ μ).bnd fun z μ => Rs.of ((cmpop μ o2 y z).map .bl) μ
      | some false => .ok (.bl false) μ
      | none => .no) m re p) fun v H1 h => tD_mono h fun w H2 ⟨x, y, A2, μ2, F1, F2, t, p2⟩ => ?_
    cases e1 : cmpop μ2 o1 x y with
    | none => rw [e1] at p2; exact p2.elim
    | some bb =>
      rw [e1] at p2
      refine h2 t e1 ⟨bb, rfl, ?_⟩
      cases bb with
      | false =>
        rw [if_neg Bool.false_ne_true]
        exact p2.done t.stp t.mem (.bl _)
      | true =>
        rw [if_pos rfl]
        simp only at p2
        refine ⟨A2, ρ, μ2, t.mem, re.step t.stp, Pst.mono (Pst.bnd t.stp p2) fun u H3 ⟨A3, z, μ3, F3, g, p3⟩ => ?_⟩
        obtain ⟨z', e2, p4⟩ := Pst.of p3
        rw [Option.map_eq_some_iff] at e2
        obtain ⟨b2, e2, rfl⟩ := e2
        exact h2' (Two.of t.snd g) e2 (p4.done (t.stp.trans g.stp) g.mem (.bl _))
  constructor
  · exact PE.imp (pe_chain h1 h1' ha hb hc (lastM hs)) fun σ' H Q ⟨A, ρ, μ, m, re, p⟩ => core m re p
  · refine PT.imp (pt_chain h1 h1' ha hb hc (lastM hs)) fun σ' H Q ⟨A, ρ, μ, m, re, p⟩ => core m re (pst_bool (fun d μ' hr => ?_) p)
    simp only [ev] at hr
    cases h1 : ev G call a ρ μ with
    | no => rw [h1] at hr; cases hr
    | ex _ _ => rw [h1] at hr; cases hr
    | ok x μ2 =>
      rw [h1] at hr
      simp only [Rs.bnd_ok] at hr
      cases h2 : ev G call b ρ μ2 with
      | no => rw [h2] at hr; cases hr
      | ex _ _ => rw [h2] at hr; cases hr
      | ok y μ3 =>
        rw [h2] at hr
        simp only [Rs.bnd_ok] at hr
        split at hr
        · cases h3 : ev G call c ρ μ3 with
          | no => rw [h3] at hr; cases hr
          | ex _ _ => rw [h3] at hr; cases hr
          | ok z μ4 => rw [h3] at hr; exact of_map_bl hr
        · cases hr; exact ⟨_, rfl⟩
        · cases hr

/-! ### and, or -/
theorem Pst.shift {K : PySem.W.Frag} {r : Rs D} {Q : VK} (s1 : Stp A H A1 H1) (p : Pst K fa W A H σ r Q) : Pst K fa W A1 H1 σ r Q := by
  cases r with
  | no => exact p
  | ex e μ' => intro cls dd H' A' s m x; exact p cls dd H' A' (s1.trans s) m x
  | ok d μ' => intro v H' A' F g; exact p v H' A' F (g.pre s1)
theorem PstB.shift {K : PySem.W.Frag} {r : Rs Bool} {Q : Bool → Hp → Prop} (s1 : Stp A H A1 H1) (p : PstB K fa W A H σ r Q) : PstB K fa W A1 H1 σ r Q := by
  cases r with
  | no => exact p
  | ex e μ' => intro cls dd H' A' s m x; exact p cls dd H' A' (s1.trans s) m x
  | ok d μ' => intro H' A' s g; exact p H' A' (s1.trans s) g
theorem pe_andOne {c : C} {e : Expr} {pos : Pos} (h : PE X e (tD X.K fa W G call c)) (ht : PT X e (Mp.tB X.K fa W G call c)) :
    PE X (.BoolOp .And [e] pos) (tAn X.K fa W G call (.cons c .nil)) ∧ PW X (.BoolOp .And [e] pos) (tAnB X.K fa W G call (.cons c .nil)) := by
  have id : ∀ r : Rs D, (r.bnd fun x μ => .ok x μ) = r := fun r => by cases r <;> rfl
  constructor
  · refine PE.imp (pe_one h) fun σ H Q ⟨A, ρ, μ, m, re, p⟩ => ⟨A, ρ, μ, m, re, ?_⟩
    simp only [evAnd] at p
    rw [id] at p; exact p
  · refine PW.imp (pw_and1 ht) fun σ H Q ⟨A, ρ, μ, m, re, p⟩ => ⟨A, ρ, μ, m, re, ?_⟩
    simp only [evAnd] at p
    rw [id] at p; exact p
theorem pe_andMore {c c2 : C} {r : Cs} {e e2 : Expr} {es : List Expr} {pos : Pos} (h : PE X e (tD X.K fa W G call c)) (ht : PT X e (Mp.tB X.K fa W G call c))
    (hr : PE X (.BoolOp .And (e2 :: es) pos) (tAn X.K fa W G call (.cons c2 r))) (hw : PW X (.BoolOp .And (e2 :: es) pos) (tAnB X.K fa W G call (.cons c2 r))) :
    PE X (.BoolOp .And (e :: e2 :: es) pos) (tAn X.K fa W G call (.cons c (.cons c2 r))) ∧ PW X (.BoolOp .And (e :: e2 :: es) pos) (tAnB X.K fa W G call (.cons c (.cons c2 r))) := by
  constructor
  · refine PE.imp (pe_andT h hr) fun σ H Q ⟨A, ρ, μ, m, re, p⟩ => ⟨A, ρ, μ, m, re, ?_⟩
    rw [show evAnd G call (.cons c (.cons c2 r)) ρ μ = (ev G call c ρ μ).bnd fun x μ => match truth μ x with
      | some true => evAnd G call (.cons c2 r) ρ μ
      | some false => .ok x μ
      | none => .no from rfl] at p
    refine Pst.mono (Pst.bnd .refl p) fun v H1 ⟨A1, d, μ1, F, g, p1⟩ => ?_
    cases e1 : truth μ1 d with
    | none => rw [e1] at p1; exact p1.elim
    | some b =>
      rw [e1] at p1
      refine ⟨b, truV_of g.mem g.rep e1, ?_⟩
      cases b with
      | true => rw [if_pos rfl]; exact ⟨A1, ρ, μ1, g.mem, re.step g.stp, p1.shift g.stp⟩
      | false => rw [if_neg Bool.false_ne_true]; exact p1 _ _ _ _ g
  · refine PW.imp (pw_and ht hw) fun σ H Q ⟨A, ρ, μ, m, re, p⟩ => ⟨A, ρ, μ, m, re, ?_⟩
    rw [show evAnd G call (.cons c (.cons c2 r)) ρ μ = (ev G call c ρ μ).bnd fun x μ => match truth μ x with
      | some true => evAnd G call (.cons c2 r) ρ μ
      | some false => .ok x μ
      | none => .no from rfl] at p
    cases hr : ev G call c ρ μ with
    | no => rw [hr] at p; exact p
    | ex e μ' => rw [hr] at p; exact p
    | ok d μ1 =>
      rw [hr] at p
      simp only [Rs.bnd_ok] at p ⊢
      cases e1 : truth μ1 d with
      | none => rw [e1] at p; exact p
      | some b =>
        rw [e1] at p
        intro H1 A1 s1 m1
        cases b with
        | true => rw [if_pos rfl]; exact ⟨A1, ρ, μ1, m1, re.step s1, p.shift s1⟩
        | false =>
          rw [if_neg Bool.false_ne_true]
          simp only [Rs.bnd_ok] at p
          rw [e1] at p
          exact p _ _ s1 m1
theorem pe_orOne {c : C} {e : Expr} {pos : Pos} (h : PE X e (tD X.K fa W G call c)) (ht : PT X e (Mp.tB X.K fa W G call c)) :
    PE X (.BoolOp .Or [e] pos) (tOr' X.K fa W G call (.cons c .nil)) ∧ PW X (.BoolOp .Or [e] pos) (tOrB X.K fa W G call (.cons c .nil)) := by
  have id : ∀ r : Rs D, (r.bnd fun x μ => .ok x μ) = r := fun r => by cases r <;> rfl
  constructor
  · refine PE.imp (pe_one h) fun σ H Q ⟨A, ρ, μ, m, re, p⟩ => ⟨A, ρ, μ, m, re, ?_⟩
    simp only [evOr] at p
    rw [id] at p; exact p
  · refine PW.imp (pw_or1 ht) fun σ H Q ⟨A, ρ, μ, m, re, p⟩ => ⟨A, ρ, μ, m, re, ?_⟩
    simp only [evOr] at p
    rw [id] at p; exact p
theorem pe_orMore {c c2 : C} {r : Cs} {e e2 : Expr} {es : List Expr} {pos : Pos} (h : PE X e (tD X.K fa W G call c)) (ht : PT X e (Mp.tB X.K fa W G call c))
    (hr : PE X (.BoolOp .Or (e2 :: es) pos) (tOr' X.K fa W G call (.cons c2 r))) (hw : PW X (.BoolOp .Or (e2 :: es) pos) (tOrB X.K fa W G call (.cons c2 r))) :
    PE X (.BoolOp .Or (e :: e2 :: es) pos) (tOr' X.K fa W G call (.cons c (.cons c2 r))) ∧ PW X (.BoolOp .Or (e :: e2 :: es) pos) (tOrB X.K fa W G call (.cons c (.cons c2 r))) := by
  constructor
  · refine PE.imp (pe_orT h hr) fun σ H Q ⟨A, ρ, μ, m, re, p⟩ => ⟨A, ρ, μ, m, re, ?_⟩
    rw [show evOr G call (.cons c (.cons c2 r)) ρ μ = (ev G call c ρ μ).bnd fun x μ => match truth μ x with
      | some true => .ok x μ
      | some false => evOr G call (.cons c2 r) ρ μ
      | none => .no from rfl] at p
    refine Pst.mono (Pst.bnd .refl p) fun v H1 ⟨A1, d, μ1, F, g, p1⟩ => ?_
    cases e1 : truth μ1 d with
    | none => rw [e1] at p1; exact p1.elim
    | some b =>
      rw [e1] at p1
      refine ⟨b, truV_of g.mem g.rep e1, ?_⟩
      cases b with
      | false => rw [if_neg Bool.false_ne_true]; exact ⟨A1, ρ, μ1, g.mem, re.step g.stp, p1.shift g.stp⟩
      | true => rw [if_pos rfl]; exact p1 _ _ _ _ g
  · refine PW.imp (pw_or ht hw) fun σ H Q ⟨A, ρ, μ, m, re, p⟩ => ⟨A, ρ, μ, m, re, ?_⟩
    rw [show evOr G call (.cons c (.cons c2 r)) ρ μ = (ev G call c ρ μ).bnd fun x μ => match truth μ x with
      | some true => .ok x μ
      | some false => evOr G call (.cons c2 r) ρ μ
      | none => .no from rfl] at p
    cases hr : ev G call c ρ μ with
    | no => rw [hr] at p; exact p
    | ex e μ' => rw [hr] at p; exact p
    | ok d μ1 =>
      rw [hr] at p
      simp only [Rs.bnd_ok] at p ⊢
      cases e1 : truth μ1 d with
      | none => rw [e1] at p; exact p
      | some b =>
        rw [e1] at p
        intro H1 A1 s1 m1
        cases b with
        | false => rw [if_neg Bool.false_ne_true]; exact ⟨A1, ρ, μ1, m1, re.step s1, p.shift s1⟩
        | true =>
          rw [if_pos rfl]
          simp only [Rs.bnd_ok] at p
          rw [e1] at p
          exact p _ _ s1 m1

/-! ### arguments -/
theorem pa_nilD : PA X [] (tL X.K fa W G call .nil) := PA.imp pa_nil fun σ H Q ⟨A, ρ, μ, m, re, p⟩ => p _ _ A [] ⟨.refl, m, .nil, List.nodup_nil, by simp⟩
theorem pa_consD {c : C} {r : Cs} {e : Expr} {es : List Expr} (hs : starB e = true) (h : PE X e (tD X.K fa W G call c)) (hr : PA X es (tL X.K fa W G call r)) : PA X (e :: es) (tL X.K fa W G call (.cons c r)) := by
  refine PA.imp (pa_cons h hr (star_cons hs)) fun σ H Q ⟨A, ρ, μ, m, re, p⟩ => ?_
  refine ⟨A, ρ, μ, m, re, Pst.mono (Pst.bndL .refl p) fun v H1 ⟨A1, d, μ1, F, g, p1⟩ => ?_⟩
  refine ⟨A1, ρ, μ1, g.mem, re.step g.stp, PstL.mono (PstL.bndL g.stp p1) fun vs H2 ⟨A2, ds, μ2, F2, g2, p2⟩ => ?_⟩
  refine p2 _ _ A2 (F ++ F2) ⟨g.stp.trans g2.stp, g2.mem, .cons (g.rep.step g2.stp fun a ha => (g.new a ha).2) g2.rep, List.nodup_append.mpr ⟨g.nd, g2.nd, fun a ha b hb e => ?_⟩, fun a ha => ?_⟩
  · subst e
    obtain ⟨vs, t⟩ := g.tracked a ha
    rw [(g2.new a hb).1] at t; cases t
  · rcases List.mem_append.mp ha with ha | ha
    · obtain ⟨vs, t⟩ := g.tracked a ha
      exact ⟨(g.new a ha).1, g2.stp.out t (g.new a ha).2⟩
    · exact ⟨g.stp.free (g2.new a ha).1, (g2.new a ha).2⟩

/-! ### calls -/
theorem pe_callD (hC : Cn X G call k fa fs W) {f : String} {l : Cs} {e : Expr} {es : List Expr} {x : Str} {p pos : Pos} (hf : f ∈ fs)
    (hx : x = (f : Str)) (hg : glB X.env.scope x = true) (hp : plB x = true) (hs : (e :: es).all starB = true) (ha : PA X (e :: es) (tL X.K fa W G call l)) :
    PE X (.Call (.Name x p) (e :: es) [] pos) (tD X.K fa W G call (.call f l)) := by
  obtain ⟨a, fd, ps, h1, h2, h3, h4, h5⟩ := hC.call f hf
  subst hx
  have hs' : starB e = true ∧ es.all starB = true := by simpa using hs
  refine PE.imp (pe_callSD (dvs := []) (ds := []) (E := fun σ cls d H => W cls d σ H) h4 hC.room (glB_ok hg) (hC.fns f a h1) h2 h3 .nil (fun σ => passAt hC.takes σ) ha (plB_ok hp).1 (star_cons hs'.1) (star_any hs'.2)) fun σ H Q ⟨A, ρ, μ, m, re, p⟩ => ?_
  refine ⟨A, ρ, μ, m, re, PstL.mono (PstL.bnd .refl p) fun vs H1 ⟨A1, ds, μ1, F, g, p1⟩ => ?_⟩
  rw [List.append_nil]
  refine callA_ok g ?_ p1
  unfold callA at p1
  split at p1
  · exact h5 ds μ1 fun z => by rw [z] at p1; exact p1
  · have := h5 (allocs ds μ1).1 (allocs ds μ1).2 fun z => by rw [z] at p1; exact p1
    rw [← this, ← g.alloc.rep.length, g.rep.length]
theorem bltN_mem (f : Blt) : bltN f ∈ bnames := by cases f <;> decide
theorem bltN_ne (f : Blt) : ((bltN f : Str) : Str) ≠ "__name__" ∧ (((bltN f : Str) : Str) == ("__debug__" : Str)) = false := by cases f <;> decide +kernel
theorem bltV_boot (f : Blt) : bootBuiltins (bltN f : Str) = some (bltV f) := by cases f <;> decide +kernel
theorem pe_bltD (hC : Cn X G call k fa fs W) {f : Blt} {l : Cs} {e : Expr} {es : List Expr} {x : Str} {p pos : Pos} (hx : x = (bltN f : Str)) (hg : glB X.env.scope x = true) (hs : (e :: es).all starB = true) (ha : PA X (e :: es) (tL X.K fa W G call l)) :
    PE X (.Call (.Name x p) (e :: es) [] pos) (tD X.K fa W G call (.blt f l)) := by
  subst hx
  refine ⟨fun pins s σ H Q I q => ?_⟩
  obtain ⟨r, h1, h2⟩ := bltin_ok (X := X) (fa := fa) (W := W) (σ := σ) f hC.calm
  have hm := hC.blt _ (bltN_mem f)
  have hs' : starB e = true ∧ es.all starB = true := by simpa using hs
  have pe : PE X (.Call (.Name (bltN f : Str) p) (e :: es) [] pos) (tCB r (tL X.K fa W G call l)) := by
    have hv := bltV_boot f
    have kind : (∃ id, bltV f = .builtin id) ∨ ∃ T, bltV f = .type T := by cases f <;> first | exact .inl ⟨_, rfl⟩ | exact .inr ⟨_, rfl⟩
    rcases kind with ⟨id, e1⟩ | ⟨T, e1⟩
    · rw [e1] at h1 hv
      exact pe_callB h1 (glB_ok hg) hm hv ha (bltN_ne f).1 (bltN_ne f).2 (star_cons hs'.1) (star_any hs'.2)
    · rw [e1] at h1 hv
      exact pe_callTy h1 (glB_ok hg) hm hv ha (bltN_ne f).1 (bltN_ne f).2 (star_cons hs'.1) (star_any hs'.2)
  refine pe.run pins s σ H Q I ?_
  obtain ⟨A, ρ, μ, m, re, p⟩ := q
  refine ⟨A, ρ, μ, m, re, PstL.mono (PstL.bnd .refl p) fun vs H1 ⟨A1, ds, μ1, F, g, p1⟩ => ?_⟩
  obtain ⟨z, e1, p2⟩ := Pst.of p1
  exact h2 g e1 p2
theorem clsN_boot (k : Cls) : bootBuiltins (clsN k : Str) = some (.type (clsN k)) ∧ clsN k ∈ bnames ∧ (clsN k : Str) ≠ "__name__" ∧ ((clsN k : Str) == ("__debug__" : Str)) = false := by cases k <;> decide +kernel
theorem pe_isiD (hC : Cn X G call k fa fs W) {a : C} {c : Cls} {e : Expr} {x y : Str} {p q pos : Pos} (hx : x = ("isinstance" : Str)) (hg : glB X.env.scope x = true) (hy : y = (clsN c : Str)) (hg' : glB X.env.scope y = true) (hs : starB e = true) (ha : PE X e (tD X.K fa W G call a)) :
    PE X (.Call (.Name x p) [e, .Name y q] [] pos) (tD X.K fa W G call (.isi a c)) := by
  subst hx hy
  obtain ⟨b1, b2, b3, b4⟩ := clsN_boot c
  have pn : PE X (.Name (clsN c : Str) q) (tC (.ty (clsN c))) := pe_bltn (glB_ok hg') (hC.blt _ b2) b1 rfl b3 b4
  refine PE.imp (pe_callB call_isi (glB_ok hg) (hC.blt "isinstance" (by decide)) (by decide +kernel) (pa_cons ha (pa_cons pn pa_nil) (star_cons hs)) (by decide +kernel) (by decide +kernel) (star_cons hs)) fun σ H Q ⟨A, ρ, μ, m, re, p⟩ => ?_
  refine ⟨A, ρ, μ, m, re, Pst.mono (Pst.bnd .refl p) fun v H1 ⟨A1, d, μ1, F, g, p1⟩ => ?_⟩
  obtain ⟨z, e1, p2⟩ := Pst.of p1
  rw [Option.map_eq_some_iff] at e1
  obtain ⟨b, e1, rfl⟩ := e1
  exact isOf_ok g.mem g.rep e1 (p2.done g.stp g.mem (.bl _))
theorem recv_base {o : Expr} {m : Str} {env : PySem.Env} {w : Sem Value} (h : recvB o = true) : attributeBase o m env w = w := by
  cases o <;> first | rfl | (simp [recvB] at h)
theorem pe_appendD {o : C} {l : Cs} {o' e : Expr} {m : Str} {p q : Pos} (hm : m = ("append" : Str)) (hr : recvB o' = true) (hl : (p.endLine == q.line) = true) (hs : starB e = true) (ho : PE X o' (tD X.K fa W G call o)) (ha : PA X [e] (tL X.K fa W G call l)) (hl1 : l.len = 1) :
    PE X (.Call (.Attribute o' m p) [e] [] q) (tD X.K fa W G call (.meth .append o l)) := by
  subst hm
  refine PE.imp (pe_bm PySem.F.plainAttrs_list PySem.F.slot_list_append PySem.F.type_list_append mt_append ho ha (recv_base hr) (by rw [star_all (by simp [hs])]; rfl) hl (star_cons hs) (by rfl)) fun σ H Q ⟨A, ρ, μ, m, re, p⟩ => ?_
  refine ⟨A, ρ, μ, m, re, Pst.mono (Pst.bnd .refl p) fun v H1 ⟨A1, d, μ1, F, g, p1⟩ => ?_⟩
  split at p1
  · rename_i hrec
    have isr : ∃ n, d = .ref n := by
      cases d <;> first | exact ⟨_, rfl⟩ | (simp [recvOk] at hrec)
    obtain ⟨n, rfl⟩ := isr
    have ty : tyV X.K "list" v H1 := by
      cases g.rep with
      | ref hs' =>
        obtain ⟨vs, hv⟩ := g.mem.tracked (List.mem_of_getElem? hs')
        exact .inl ⟨rfl, vs, .of hv⟩
    refine ⟨ty, A1, ρ, μ1, g.mem, re.step g.stp, PstL.mono (PstL.bnd g.stp p1) fun vs H2 ⟨A2, ds, μ2, F2, g2, p2⟩ => ?_⟩
    have one : ∃ y, ds = [y] := by
      cases ds with
      | nil => exact p2.elim
      | cons y ys =>
        cases ys with
        | nil => exact ⟨y, rfl⟩
        | cons _ _ => exact p2.elim
    obtain ⟨y, rfl⟩ := one
    obtain ⟨w, rfl, g3⟩ := g2.one
    cases e1 : methop μ2 .append (.ref n) [y] with
    | none => rw [e1] at p2; exact p2.elim
    | some r =>
      obtain ⟨z, μ'⟩ := r
      rw [e1] at p2
      exact (append_ok (Two.of g g3) e1 p2).2
  · exact p1.elim

/-! ### displays, items, comprehensions -/
theorem mEs_len {N : List Str} {fs : List String} {sc : Scope} : ∀ {l : Cs} {es : List Expr}, mEs N fs sc l es = true → l.len = es.length ∧ es.all starB = true
  | .nil, [], _ => ⟨rfl, rfl⟩
  | .nil, _ :: _, h => by simp [mEs] at h
  | .cons _ _, [], h => by simp [mEs] at h
  | .cons c r, e :: es, h => by
    have h' : (mE N fs sc c e = true ∧ starB e = true) ∧ mEs N fs sc r es = true := by simpa [mEs] using h
    obtain ⟨h1, h2⟩ := mEs_len h'.2
    exact ⟨by simp [Cs.len, h1], by simp [h'.1.2, h2]⟩
theorem evs_length : ∀ {l : Cs} {ρ : Env} {μ μ' : Store} {ds : List D}, evs G call l ρ μ = .ok ds μ' → ds.length = l.len
  | .nil, _, _, _, _, h => by cases h; rfl
  | .cons c r, ρ, μ, μ', ds, h => by
    simp only [evs] at h
    cases h1 : ev G call c ρ μ with
    | no => rw [h1] at h; cases h
    | ex _ _ => rw [h1] at h; cases h
    | ok d μ1 =>
      rw [h1] at h
      simp only [Rs.bnd_ok] at h
      cases h2 : evs G call r ρ μ1 with
      | no => rw [h2] at h; cases h
      | ex _ _ => rw [h2] at h; cases h
      | ok ds' μ2 =>
        rw [h2] at h
        cases h
        simp [Cs.len, evs_length h2]
theorem GoodL.tup {K : PySem.W.Frag} {μ : Store} {ds : List D} {vs : List V} {F : List Addr} {p : Addr} (g : GoodL K fa A H μ ds vs H1 A1 F) (hp : H1 p = none) : Good K fa A H μ (.tup ds) (.ref p) (upd H1 p (.tup vs)) A1 F := by
  have sn : Stp A1 H1 A1 (upd H1 p (.tup vs)) := Stp.new hp
  exact ⟨g.stp.trans sn, g.mem.new hp, .tup (.of upd_same) (g.rep.step sn fun a ha => (g.new a ha).2), g.nd, g.new⟩
theorem GoodL.lst {K : PySem.W.Frag} {μ : Store} {ds : List D} {vs : List V} {F : List Addr} {p : Addr} (g : GoodL K fa A H μ ds vs H1 A1 F) (hp : H1 p = none) : Good K fa A H μ (.tl ds) (.ref p) (upd H1 p (.lst vs)) A1 (F ++ [p]) := by
  have sn : Stp A1 H1 A1 (upd H1 p (.lst vs)) := Stp.new hp
  have hpF : p ∉ F := fun hm => by
    obtain ⟨ws, e⟩ := Reps.trackedF g.rep p hm
    rw [hp] at e; cases e
  refine ⟨g.stp.trans sn, g.mem.new hp, .tl upd_same (g.rep.step sn fun a ha => (g.new a ha).2), List.nodup_append.mpr ⟨g.nd, by simp, fun a ha b hb e => ?_⟩, fun a ha => ?_⟩
  · have : b = p := by simpa using hb
    subst this
    subst e
    exact hpF ha
  · rcases List.mem_append.mp ha with ha | ha
    · exact g.new a ha
    · have : a = p := by simpa using ha
      subst this
      exact ⟨g.stp.free hp, g.mem.fresh hp⟩
theorem small_line {n : Nat} (h : n ≤ 1000) : n ≤ sizeLine := by rw [sizeLine_eq]; omega
theorem pe_tupD {l : Cs} {es : List Expr} {j : Nat} {pos : Pos} (hl : l.len ≤ 1000) (ha : PA X es (tL X.K fa W G call l)) : PE X (.Tuple es j pos) (tD X.K fa W G call (.tup l)) := by
  refine PE.imp (pe_tup ha) fun σ H Q ⟨A, ρ, μ, m, re, p⟩ => ⟨A, ρ, μ, m, re, ?_⟩
  cases hr : evs G call l ρ μ with
  | no => simp only [ev, hr] at p; exact p
  | ex e μ' => simp only [ev, hr] at p; exact p
  | ok ds μ1 =>
    simp only [ev, hr, Rs.bnd_ok] at p
    intro vs H1 A1 F g
    exact ⟨by rw [g.rep.length, evs_length hr]; exact small_line hl, fun q hq => p _ _ _ _ (g.tup hq)⟩
theorem pe_lstD {l : Cs} {es : List Expr} {pos : Pos} (hl : l.len ≤ 1000) (ha : PA X es (tL X.K fa W G call l)) : PE X (.List es pos) (tD X.K fa W G call (.lst l)) := by
  refine PE.imp (pe_lst ha) fun σ H Q ⟨A, ρ, μ, m, re, p⟩ => ⟨A, ρ, μ, m, re, ?_⟩
  cases hr : evs G call l ρ μ with
  | no => simp only [ev, hr] at p; exact p
  | ex e μ' => simp only [ev, hr] at p; exact p
  | ok ds μ1 =>
    simp only [ev, hr, Rs.bnd_ok] at p
    intro vs H1 A1 F g
    exact ⟨by rw [g.rep.length, evs_length hr]; exact small_line hl, fun q hq => p _ _ _ _ (g.lst hq)⟩
theorem plainIx_of {e : Expr} (h : plainIxB e = true) : PlainIx e := by
  cases e <;> first | exact fun _ _ => rfl | (simp [plainIxB] at h)
theorem pe_ixD {a i : C} {a' i' : Expr} {pos : Pos} (hi : plainIxB i' = true) (ha : PE X a' (tD X.K fa W G call a)) (hb : PE X i' (tD X.K fa W G call i)) : PE X (.Subscript a' i' pos) (tD X.K fa W G call (.ix a i)) := by
  refine PE.imp (pe_ix ix_seq ha hb (plainIx_of hi)) fun σ H Q ⟨A, ρ, μ, m, re, p⟩ => ?_
  refine tD_mono (two_ok (f := fun x y μ => Rs.of (getIx μ x y) μ) m re p) fun v H1 h => tD_mono h fun w H2 ⟨x, y, A2, μ2, F1, F2, t, p2⟩ => ?_
  obtain ⟨z, e1, p3⟩ := Pst.of p2
  exact getIx_ok t e1 p3
theorem rgV_eq (lo hi : Int) : Reps X.K fa H A (rgV lo hi) (rngL lo hi) [] := by
  unfold rgV rngL
  generalize List.range (hi - lo).toNat = l
  induction l with
  | nil => exact .nil
  | cons i l ih => exact .cons (.int _) ih
theorem pe_lrngD (hC : Cn X G call k fa fs W) {t : Bool} {a : C} {e : Expr} {x y : Str} {p q p2 pos : Pos} (hx : x = ((if t then "tuple" else "list" : String) : Str)) (hg : glB X.env.scope x = true) (hy : y = ("range" : Str)) (hg' : glB X.env.scope y = true) (hs : starB e = true) (ha : PE X e (tD X.K fa W G call a)) :
    PE X (.Call (.Name x p) [.Call (.Name y q) [e] [] p2] [] pos) (tD X.K fa W G call (.lrng t a)) := by
  subst hx hy
  have pr := prg_1 (pos := p2) (p := q) (glB_ok hg') (hC.blt "range" (by decide)) ha (star_cons hs)
  have lim : ∀ j : Int, 0 ≤ j ∧ j ≤ (LIM : Nat) → RgOk 0 j := fun j h => RgOk.of_le (by omega) (by have := h.2; show j ≤ 16777216; simpa [LIM] using this) (by omega) h.1
  cases t with
  | true =>
    refine PE.imp (pe_tupRg hC.calm (glB_ok hg) (hC.blt "tuple" (by decide)) pr) fun σ H Q ⟨A, ρ, μ, m, re, p⟩ => ?_
    refine ⟨A, ρ, μ, m, re, Pst.mono (Pst.bnd .refl p) fun v H1 ⟨A1, d, μ1, F, g, p1⟩ => ?_⟩
    have mm := g.mem; have st := g.stp
    cases d with
    | int j =>
      simp only at p1
      split at p1
      · rename_i hj
        cases g.rep
        refine ⟨j, rfl, lim j hj, fun r hr => ?_⟩
        have gl : GoodL X.K fa A H μ1 (rngL 0 j) (rgV 0 j) H1 A1 [] := ⟨st, mm, rgV_eq 0 j, List.nodup_nil, by simp⟩
        exact p1 _ _ _ _ (gl.tup hr)
      · exact p1.elim
    | _ => exact p1.elim
  | false =>
    refine PE.imp (pe_listRg hC.calm (glB_ok hg) (hC.blt "list" (by decide)) pr) fun σ H Q ⟨A, ρ, μ, m, re, p⟩ => ?_
    refine ⟨A, ρ, μ, m, re, Pst.mono (Pst.bnd .refl p) fun v H1 ⟨A1, d, μ1, F, g, p1⟩ => ?_⟩
    have mm := g.mem; have st := g.stp
    cases d with
    | int j =>
      simp only at p1
      split at p1
      · rename_i hj
        cases g.rep
        refine ⟨j, rfl, lim j hj, fun r hr => ?_⟩
        have gl : GoodL X.K fa A H μ1 (rngL 0 j) (rgV 0 j) H1 A1 [] := ⟨st, mm, rgV_eq 0 j, List.nodup_nil, by simp⟩
        exact p1 _ _ _ _ (gl.lst hr)
      · exact p1.elim
    | _ => exact p1.elim
theorem still_rng (lo hi : Int) (μ : Store) : allocs (rngL lo hi) μ = (rngL lo hi, μ) := by
  unfold rngL
  generalize List.range (hi - lo).toNat = l
  induction l with
  | nil => rfl
  | cons i l ih => simp only [List.map_cons, allocs, alloc]; rw [ih]
theorem set_fold {e : Expr} {env : PySem.Env} (h : setB e = true) : ∀ x, foldedSetIterable e env x = pure x := by
  cases e <;> first | exact fun _ => rfl | (simp [setB] at h)
theorem pi_rng1D (hC : Cn X G call k fa fs W) {a : C} {tg e : Expr} {x : Str} {p pos : Pos} (hx : x = ("range" : Str)) (hg : glB X.env.scope x = true) (hs : starB e = true) (ha : PE X e (tD X.K fa W G call a)) : PI X tg (.Call (.Name x p) [e] [] pos) (tI G call X.K fa W (.rng1 a)) := by
  subst hx
  refine ⟨fun pins s σ H R I q => (pi_range1 (tg := tg) (glB_ok hg) (hC.blt "range" (by decide)) (pa_cons ha pa_nil (star_cons hs)) (star_cons hs)).run pins s σ H R I ?_⟩
  obtain ⟨A, ρ, μ, m, re, p⟩ := q
  refine ⟨A, ρ, μ, m, re, ?_⟩
  cases hr : ev G call a ρ μ with
  | no => simp only [ev, hr] at p; exact p
  | ex e μ' => simp only [ev, hr] at p; exact p
  | ok d μ1 =>
    simp only [ev, hr, Rs.bnd_ok] at p
    intro v H1 A1 F g
    have mm := g.mem; have st := g.stp
    cases d with
    | int j =>
      simp only at p
      split at p
      · rename_i hj
        cases g.rep
        obtain ⟨xs, hx, p⟩ := p
        refine ⟨j, rfl, hj.1, hj.2, ?_⟩
        have hset : settle (.tl (rngL 0 j)) μ1 = (.tl (rngL 0 j), μ1) := by simp only [settle, still_rng]
        rw [hset] at hx p
        cases hx
        have src := src_rng (K := X.K) (fa := fa) (lo := 0) (hi := j) (A := A1) (H := H1)
        rw [Int.sub_zero] at src
        exact p H1 A1 _ [] st mm src (by simp)
      · exact p.elim
    | _ => exact p.elim
theorem pi_rng2D (hC : Cn X G call k fa fs W) {a b : C} {tg e e2 : Expr} {x : Str} {p pos : Pos} (hx : x = ("range" : Str)) (hg : glB X.env.scope x = true) (hs : starB e = true) (hs2 : starB e2 = true) (ha : PE X e (tD X.K fa W G call a)) (hb : PE X e2 (tD X.K fa W G call b)) :
    PI X tg (.Call (.Name x p) [e, e2] [] pos) (tI G call X.K fa W (.rng2 a b)) := by
  subst hx
  refine ⟨fun pins s σ H R I q => (pi_range2 (tg := tg) (glB_ok hg) (hC.blt "range" (by decide)) (pa_cons ha (pa_cons hb pa_nil (star_cons hs2)) (star_cons hs)) (by rw [star_cons hs, star_cons hs2]; rfl) (star_cons hs2)).run pins s σ H R I ?_⟩
  obtain ⟨A, ρ, μ, m, re, p⟩ := q
  cases hr : ev G call a ρ μ with
  | no => simp only [ev, hr] at p; exact p.elim
  | ex e μ' =>
    simp only [ev, hr] at p
    refine ⟨A, ρ, μ, m, re, ?_⟩
    rw [hr]; exact p
  | ok d μ1 =>
    simp only [ev, hr, Rs.bnd_ok] at p
    refine ⟨A, ρ, μ, m, re, ?_⟩
    rw [hr]
    intro v H1 A1 F g
    refine ⟨A1, ρ, μ1, g.mem, re.step g.stp, ?_⟩
    cases hr2 : ev G call b ρ μ1 with
    | no => simp only [hr2] at p; exact p.elim
    | ex e μ' => simp only [hr2] at p; exact fun cls dd H' A' s m x => p cls dd H' A' (g.stp.trans s) m x
    | ok d2 μ2 =>
      simp only [hr2, Rs.bnd_ok] at p
      intro w H2 A2 F2 g2
      have mm := g2.mem; have st := g.stp.trans g2.stp
      cases d with
      | int i =>
        cases d2 with
        | int j =>
          simp only at p
          split at p
          · rename_i hj
            cases g.rep
            cases g2.rep
            obtain ⟨xs, hx, p⟩ := p
            refine ⟨i, j, rfl, ⟨hj.1.1, hj.1.2, hj.2.1, hj.2.2⟩, ?_⟩
            have hset : settle (.tl (rngL i j)) μ2 = (.tl (rngL i j), μ2) := by simp only [settle, still_rng]
            rw [hset] at hx p
            cases hx
            exact p H2 A2 _ [] st mm src_rng (by simp)
          · exact p.elim
        | _ => exact p.elim
      | _ => exact p.elim
end
end Mp
end SSnd11
section SSnd12
/-! Snd12: every expression that is matched is sound. -/
namespace Mp
open PySem PySem.Spec PyProof.Rows L2
section
variable {fa : String → Option Addr} {G : String → Option D} {call : String → List D → Store → Rs D} {k : Nat} {fs : List String}

theorem Cn.blk {X : Cx} {W : WX} (hC : Cn X G call k fa fs W) (s : Shared) (H : Hp) (scope : Scope) (cenv : PySem.Env) (fp : List Addr) : Cn (X.blk s H scope cenv fp) G call k fa fs (fun _ _ _ _ => False) :=
  ⟨hC.nd, hC.calm, hC.room, fun _ _ x => by obtain ⟨_, _, _, _, _, _, _, _, _, _, _, _, _, _, _, _, z⟩ := x; exact z.elim, hC.fns, hC.glob, hC.call, hC.blt⟩
theorem relS_eq (scope : Scope) (cl : List (Str × Addr)) (C : Addr) (env : PySem.Env) : (compEnvC scope cl C env).scope = relS scope env.scope := rfl
/-- names that a comprehension stores -/
theorem blk_kind {X : Cx} {s : Shared} {H : Hp} {scope : Scope} {cl : List (Str × Addr)} {C : Addr} {fp : List Addr} : ∀ x, locB scope x = true → Loc (X.blk s H scope (compEnvC scope cl C X.env) fp).env.scope x ∧
    ((X.blk s H scope (compEnvC scope cl C X.env) fp).fn x = true ∨ (X.blk s H scope (compEnvC scope cl C X.env) fp).env.scope.names.lookup x = some .local) := by
  intro x h
  have hl := locB_ok h
  have keep : ∀ {k : NameKind}, k ≠ .free → scope.names.lookup x = some k → (relS scope X.env.scope).names.lookup x = some k := fun hk h => lookup_relS_keep hk h
  rcases hl with hl | hl
  · exact ⟨.inl (keep (by decide) hl), .inr (keep (by decide) hl)⟩
  · refine ⟨.inr (keep (by decide) hl), .inl ?_⟩
    show (scope.names.lookup x == some .cell) = true
    rw [hl]; rfl
theorem isTrue_plain_of {e : Expr} {env : PySem.Env} (h : ∀ op vs p, e ≠ .BoolOp op vs p) (h1 : ∀ x p, e ≠ .UnaryOp .Not x p) (h2 : ∀ a b c p, e ≠ .IfExp a b c p) (h3 : ∀ a b c p, e ≠ .Compare a b c p) :
    ∀ whole, isTrue e env whole = (do let v ← whole; standAt e.pos; holding [v] (truthy v)) := by
  intro whole
  cases e <;> first
    | rfl
    | exact absurd rfl (h _ _ _)
    | exact absurd rfl (h2 _ _ _ _)
    | exact absurd rfl (h3 _ _ _ _)
    | (rename_i op x p; cases op <;> first | rfl | exact absurd rfl (h1 _ _))
theorem mE_lc {N : List Str} {sc : Scope} {e it : C} {tg : Tg} {own : List (String × Nat)} {ifs : Cs} {elt tg' it' : Expr} {ifs' : List Expr} {scope : Scope} (pos : Pos) : mE N fs sc (.lc e tg own it ifs) (.ListComp elt [⟨tg', it', ifs', 0⟩] scope pos) =
    (blkC N sc scope (own.map fun p => ((p.1 : Str), p.2)) && mE N fs (relS scope sc) e elt && mTg N scope tg tg' && (tg.slots.all fun i => (own.map (·.2)).contains i) && setB it' && mI N fs sc it it' && mEs N fs (relS scope sc) ifs ifs' && decide (ifs'.length ≤ 1)) := by
  rw [mE]; rfl
theorem mE_lcA {N : List Str} {sc : Scope} {e it : C} {tg : Tg} {own : List (String × Nat)} {ifs : Cs} {elt tg' it' : Expr} {ifs' : List Expr} {scope : Scope} {pos : Pos} {ia : Int} (h : mE N fs sc (.lc e tg own it ifs) (.ListComp elt [⟨tg', it', ifs', ia⟩] scope pos) = true) : ia = 0 := by
  unfold mE at h
  split at h <;> simp_all
mutual
theorem sndE : ∀ (c : C) {X : Cx} {W : WX} {e : Expr}, Cn X G call k fa fs W → mE X.N fs X.env.scope c e = true → PE X e (tD X.K fa W G call c) ∧ PT X e (Mp.tB X.K fa W G call c)
  | .lit d, X, W, e, hC, h => by
    have p : PE X e (tD X.K fa W G call (.lit d)) := pe_lit h
    refine ⟨p, pt_of p (isTrue_plain_of ?_ ?_ ?_ ?_)⟩ <;> (intros; rintro rfl; cases d <;> simp [mE] at h)
  | .var i, X, W, e, hC, h => by
    cases e with
    | Name x pos =>
      have h' : (decide (X.N[i]? = some x) = true ∧ visB X.env.scope x = true) ∧ plB x = true := by simpa [mE] using h
      have p : PE X (.Name x pos) (tD X.K fa W G call (.var i)) := pe_varD (of_decide_eq_true h'.1.1) (visB_ok h'.1.2) h'.2
      exact ⟨p, pt_of p fun _ => rfl⟩
    | _ => simp [mE] at h
  | .glo x, X, W, e, hC, h => by
    cases e with
    | Name y pos =>
      have h' : (y = (x : Str) ∧ glB X.env.scope y = true) ∧ plB y = true := by simpa [mE] using h
      have p : PE X (.Name y pos) (tD X.K fa W G call (.glo x)) := pe_gloD hC h'.1.1 h'.1.2 h'.2
      exact ⟨p, pt_of p fun _ => rfl⟩
    | _ => simp [mE] at h
  | .bin op a b, X, W, e, hC, h => by
    cases e with
    | BinOp a' op' b' pos =>
      have h' : (op' = opB op ∧ mE X.N fs X.env.scope a a' = true) ∧ mE X.N fs X.env.scope b b' = true := by simpa [mE] using h
      obtain ⟨⟨rfl, h1⟩, h2⟩ := h'
      have p := pe_binD (op := op) (pos := pos) (sndE a hC h1).1 (sndE b hC h2).1
      exact ⟨p, pt_of p fun _ => rfl⟩
    | _ => simp [mE] at h
  | .neg a, X, W, e, hC, h => by
    cases e with
    | UnaryOp op a' pos =>
      cases op with
      | USub =>
        have p := pe_negD (pos := pos) (sndE a hC (by simpa [mE] using h)).1
        exact ⟨p, pt_of p fun _ => rfl⟩
      | _ => simp [mE] at h
    | _ => simp [mE] at h
  | .nt a, X, W, e, hC, h => by
    cases e with
    | UnaryOp op a' pos =>
      cases op with
      | Not =>
        obtain ⟨p, q⟩ := sndE a hC (by simpa [mE] using h)
        exact ⟨pe_ntD p, pt_ntD q⟩
      | _ => simp [mE] at h
    | _ => simp [mE] at h
  | .band l, X, W, e, hC, h => by
    cases e with
    | BoolOp op es pos =>
      cases op with
      | And =>
        obtain ⟨p, q⟩ := sndAnd l (pos := pos) hC (by simpa [mE] using h)
        exact ⟨p, q.pt⟩
      | Or => simp [mE] at h
    | _ => simp [mE] at h
  | .bor l, X, W, e, hC, h => by
    cases e with
    | BoolOp op es pos =>
      cases op with
      | Or =>
        obtain ⟨p, q⟩ := sndOr l (pos := pos) hC (by simpa [mE] using h)
        exact ⟨p, q.pt⟩
      | And => simp [mE] at h
    | _ => simp [mE] at h
  | .ite t a b, X, W, e, hC, h => by
    cases e with
    | IfExp t' a' b' pos =>
      have h' : (mE X.N fs X.env.scope t t' = true ∧ mE X.N fs X.env.scope a a' = true) ∧ mE X.N fs X.env.scope b b' = true := by simpa [mE] using h
      obtain ⟨p1, q1⟩ := sndE t hC h'.1.1
      obtain ⟨p2, q2⟩ := sndE a hC h'.1.2
      obtain ⟨p3, q3⟩ := sndE b hC h'.2
      exact ⟨pe_iteD q1 p2 p3, pt_iteD q1 q2 q3⟩
    | _ => simp [mE] at h
  | .cmp op a b, X, W, e, hC, h => by
    cases e with
    | Compare a' ops bs pos =>
      match ops, bs, h with
      | [op'], [b'], h =>
        have h' : ((op' = opC op ∧ mE X.N fs X.env.scope a a' = true) ∧ mE X.N fs X.env.scope b b' = true) ∧ setB b' = true := by simpa [mE] using h
        obtain ⟨⟨⟨rfl, h1⟩, h2⟩, h3⟩ := h'
        exact pe_cmpD hC (sndE a hC h1).1 (sndE b hC h2).1 h3
      | [], _, h => simp [mE] at h
      | [_], [], h => simp [mE] at h
      | [_], _ :: _ :: _, h => simp [mE] at h
      | _ :: _ :: _, _, h => simp [mE] at h
    | _ => simp [mE] at h
  | .cmp2 o1 o2 a b c, X, W, e, hC, h => by
    cases e with
    | Compare a' ops bs pos =>
      match ops, bs, h with
      | [p1, p2], [b', c'], h =>
        have h' : (((((p1 = opC o1 ∧ p2 = opC o2) ∧ mE X.N fs X.env.scope a a' = true) ∧ mE X.N fs X.env.scope b b' = true) ∧ mE X.N fs X.env.scope c c' = true) ∧ setB b' = true) ∧ setB c' = true := by simpa [mE] using h
        obtain ⟨⟨⟨⟨⟨⟨rfl, rfl⟩, h1⟩, h2⟩, h3⟩, h4⟩, h5⟩ := h'
        exact pe_cmp2D hC (sndE a hC h1).1 (sndE b hC h2).1 (sndE c hC h3).1 h5
      | [], _, h => simp [mE] at h
      | [_], _, h => simp [mE] at h
      | [_, _], [], h => simp [mE] at h
      | [_, _], [_], h => simp [mE] at h
      | [_, _], _ :: _ :: _ :: _, h => simp [mE] at h
      | _ :: _ :: _ :: _, _, h => simp [mE] at h
    | _ => simp [mE] at h
  | .call f l, X, W, e, hC, h => by
    cases e with
    | Call g es kws pos =>
      match g, es, kws, h with
      | .Name x p, e :: es, [], h =>
        have h' : (((x = (f : Str) ∧ glB X.env.scope x = true) ∧ plB x = true) ∧ f ∈ fs) ∧ mEs X.N fs X.env.scope l (e :: es) = true := by simpa [mE] using h
        have p := pe_callD (p := p) (pos := pos) hC h'.1.2 h'.1.1.1.1 h'.1.1.1.2 h'.1.1.2 (mEs_len h'.2).2 (sndL l hC h'.2)
        exact ⟨p, pt_of p fun _ => rfl⟩
      | .Name _ _, [], _, h => simp [mE] at h
      | .Name _ _, _ :: _, _ :: _, h => simp [mE] at h
      | .BoolOp .., _, _, h | .NamedExpr .., _, _, h | .BinOp .., _, _, h | .UnaryOp .., _, _, h | .Lambda .., _, _, h | .IfExp .., _, _, h | .Dict .., _, _, h | .Set .., _, _, h | .ListComp .., _, _, h
      | .SetComp .., _, _, h | .DictComp .., _, _, h | .GeneratorExp .., _, _, h | .Await .., _, _, h | .Yield .., _, _, h | .YieldFrom .., _, _, h | .Compare .., _, _, h | .Call .., _, _, h | .FormattedValue .., _, _, h
      | .JoinedStr .., _, _, h | .Constant .., _, _, h | .Attribute .., _, _, h | .Subscript .., _, _, h | .Starred .., _, _, h | .List .., _, _, h | .Tuple .., _, _, h | .Slice .., _, _, h => simp [mE] at h
    | _ => simp [mE] at h
  | .callv i l, X, W, e, hC, h => by cases e <;> simp [mE] at h
  | .blt f l, X, W, e, hC, h => by
    cases e with
    | Call g es kws pos =>
      match g, es, kws, h with
      | .Name x p, e :: es, [], h =>
        have h' : (x = (bltN f : Str) ∧ glB X.env.scope x = true) ∧ mEs X.N fs X.env.scope l (e :: es) = true := by simpa [mE] using h
        have p := pe_bltD (p := p) (pos := pos) hC h'.1.1 h'.1.2 (mEs_len h'.2).2 (sndL l hC h'.2)
        exact ⟨p, pt_of p fun _ => rfl⟩
      | .Name _ _, [], _, h => simp [mE] at h
      | .Name _ _, _ :: _, _ :: _, h => simp [mE] at h
      | .BoolOp .., _, _, h | .NamedExpr .., _, _, h | .BinOp .., _, _, h | .UnaryOp .., _, _, h | .Lambda .., _, _, h | .IfExp .., _, _, h | .Dict .., _, _, h | .Set .., _, _, h | .ListComp .., _, _, h
      | .SetComp .., _, _, h | .DictComp .., _, _, h | .GeneratorExp .., _, _, h | .Await .., _, _, h | .Yield .., _, _, h | .YieldFrom .., _, _, h | .Compare .., _, _, h | .Call .., _, _, h | .FormattedValue .., _, _, h
      | .JoinedStr .., _, _, h | .Constant .., _, _, h | .Attribute .., _, _, h | .Subscript .., _, _, h | .Starred .., _, _, h | .List .., _, _, h | .Tuple .., _, _, h | .Slice .., _, _, h => simp [mE] at h
    | _ => simp [mE] at h
  | .isi a c, X, W, e, hC, h => by
    cases e with
    | Call g es kws pos =>
      cases g with
      | Name x p =>
        match es, kws, h with
        | [a', b'], [], h =>
          cases b' with
          | Name y q =>
            have h' : ((((x = ("isinstance" : Str) ∧ glB X.env.scope x = true) ∧ y = (clsN c : Str)) ∧ glB X.env.scope y = true) ∧ mE X.N fs X.env.scope a a' = true) ∧ starB a' = true := by simpa [mE] using h
            have p := pe_isiD (p := p) (q := q) (pos := pos) hC h'.1.1.1.1.1 h'.1.1.1.1.2 h'.1.1.1.2 h'.1.1.2 h'.2 (sndE a hC h'.1.2).1
            exact ⟨p, pt_of p fun _ => rfl⟩
          | _ => simp [mE] at h
        | [], _, h => simp [mE] at h
        | [_], _, h => simp [mE] at h
        | [_, _], _ :: _, h => simp [mE] at h
        | _ :: _ :: _ :: _, _, h => simp [mE] at h
      | _ => simp [mE] at h
    | _ => simp [mE] at h
  | .meth m o l, X, W, e, hC, h => by
    cases m with
    | append =>
      cases e with
      | Call g es kws q =>
        cases g with
        | Attribute o' m p =>
          match es, kws, h with
          | [e], [], h =>
            have h' : (((m = ("append" : Str) ∧ recvB o' = true) ∧ p.endLine = q.line) ∧ mE X.N fs X.env.scope o o' = true) ∧ mEs X.N fs X.env.scope l [e] = true := by simpa [mE] using h
            have hl := mEs_len h'.2
            have p := pe_appendD (p := p) (q := q) h'.1.1.1.1 h'.1.1.1.2 (by simpa using h'.1.1.2) (by simpa using hl.2) (sndE o hC h'.1.2).1 (sndL l hC h'.2) hl.1
            exact ⟨p, pt_of p fun _ => rfl⟩
          | [], _, h => simp [mE] at h
          | [_], _ :: _, h => simp [mE] at h
          | _ :: _ :: _, _, h => simp [mE] at h
        | _ => simp [mE] at h
      | _ => simp [mE] at h
  | .tup l, X, W, e, hC, h => by
    cases e with
    | Tuple es j pos =>
      have h' : mEs X.N fs X.env.scope l es = true ∧ l.len ≤ 1000 := by simpa [mE] using h
      have p := pe_tupD (j := j) (pos := pos) h'.2 (sndL l hC h'.1)
      exact ⟨p, pt_of p fun _ => rfl⟩
    | _ => simp [mE] at h
  | .lst l, X, W, e, hC, h => by
    cases e with
    | List es pos =>
      have h' : mEs X.N fs X.env.scope l es = true ∧ l.len ≤ 1000 := by simpa [mE] using h
      have p := pe_lstD (pos := pos) h'.2 (sndL l hC h'.1)
      exact ⟨p, pt_of p fun _ => rfl⟩
    | _ => simp [mE] at h
  | .ix a i, X, W, e, hC, h => by
    cases e with
    | Subscript a' i' pos =>
      have h' : (mE X.N fs X.env.scope a a' = true ∧ mE X.N fs X.env.scope i i' = true) ∧ plainIxB i' = true := by simpa [mE] using h
      have p := pe_ixD (pos := pos) h'.2 (sndE a hC h'.1.1).1 (sndE i hC h'.1.2).1
      exact ⟨p, pt_of p fun _ => rfl⟩
    | _ => simp [mE] at h
  | .lc e tg own it ifs, X, W, e', hC, h => by
    cases e' with
    | ListComp elt gens scope pos =>
      match gens, h with
      | [⟨tg', it', ifs', ia⟩], h =>
        have hia := mE_lcA h
        subst hia
        have h' : ((((((blkC X.N X.env.scope scope (own.map fun p => ((p.1 : Str), p.2)) = true ∧ mE X.N fs (relS scope X.env.scope) e elt = true) ∧ mTg X.N scope tg tg' = true) ∧
            (∀ i ∈ tg.slots, i ∈ own.map (·.2))) ∧ setB it' = true) ∧ mI X.N fs X.env.scope it it' = true) ∧ mEs X.N fs (relS scope X.env.scope) ifs ifs' = true) ∧ ifs'.length ≤ 1 := by
          have h0 : (blkC X.N X.env.scope scope (own.map fun p => ((p.1 : Str), p.2)) && mE X.N fs (relS scope X.env.scope) e elt && mTg X.N scope tg tg' &&
            (tg.slots.all fun i => (own.map (·.2)).contains i) && setB it' && mI X.N fs X.env.scope it it' && mEs X.N fs (relS scope X.env.scope) ifs ifs' && decide (ifs'.length ≤ 1)) = true := by rw [← mE_lc pos]; exact h
          simp only [Bool.and_eq_true, List.all_eq_true, List.contains_iff_mem, decide_eq_true_eq] at h0
          exact h0
        obtain ⟨⟨⟨⟨⟨⟨⟨h1, h2⟩, h3⟩, h4⟩, h5⟩, h6⟩, h7⟩, h8⟩ := h'
        have pi : PI X tg' it' (tI G call X.K fa W it) := by
          cases it with
          | rng1 a =>
            cases it' with
            | Call g es kws pos =>
              cases g with
              | Name x p =>
                match es, kws, h6 with
                | [a'], [], h6 =>
                  have h6' : ((x = ("range" : Str) ∧ glB X.env.scope x = true) ∧ mE X.N fs X.env.scope a a' = true) ∧ starB a' = true := by simpa [mI, mR, mE] using h6
                  exact pi_rng1D hC h6'.1.1.1 h6'.1.1.2 h6'.2 (sndE a hC h6'.1.2).1
                | [], _, h6 => simp [mI, mR, mE] at h6
                | [_], _ :: _, h6 => simp [mI, mR, mE] at h6
                | _ :: _ :: _, _, h6 => simp [mI, mR, mE] at h6
              | _ => simp [mI, mR, mE] at h6
            | _ => simp [mI, mR, mE] at h6
          | rng2 a b =>
            cases it' with
            | Call g es kws pos =>
              cases g with
              | Name x p =>
                match es, kws, h6 with
                | [a', b'], [], h6 =>
                  have h6' : ((((x = ("range" : Str) ∧ glB X.env.scope x = true) ∧ mE X.N fs X.env.scope a a' = true) ∧ mE X.N fs X.env.scope b b' = true) ∧ starB a' = true) ∧ starB b' = true := by simpa [mI, mR, mE] using h6
                  exact pi_rng2D hC h6'.1.1.1.1.1 h6'.1.1.1.1.2 h6'.1.2 h6'.2 (sndE a hC h6'.1.1.1.2).1 (sndE b hC h6'.1.1.2).1
                | [], _, h6 => simp [mI, mR, mE] at h6
                | [_], _, h6 => simp [mI, mR, mE] at h6
                | [_, _], _ :: _, h6 => simp [mI, mR, mE] at h6
                | _ :: _ :: _ :: _, _, h6 => simp [mI, mR, mE] at h6
              | _ => simp [mI, mR, mE] at h6
            | _ => simp [mI, mR, mE] at h6
          | lit d => exact pi_any (sndE (.lit d) hC (by simpa [mI, mR] using h6)).1
          | var d => exact pi_any (sndE (.var d) hC (by simpa [mI, mR] using h6)).1
          | glo d => exact pi_any (sndE (.glo d) hC (by simpa [mI, mR] using h6)).1
          | bin op a b => exact pi_any (sndE (.bin op a b) hC (by simpa [mI, mR] using h6)).1
          | neg a => exact pi_any (sndE (.neg a) hC (by simpa [mI, mR] using h6)).1
          | nt a => exact pi_any (sndE (.nt a) hC (by simpa [mI, mR] using h6)).1
          | band a => exact pi_any (sndE (.band a) hC (by simpa [mI, mR] using h6)).1
          | bor a => exact pi_any (sndE (.bor a) hC (by simpa [mI, mR] using h6)).1
          | ite a b c => exact pi_any (sndE (.ite a b c) hC (by simpa [mI, mR] using h6)).1
          | cmp a b c => exact pi_any (sndE (.cmp a b c) hC (by simpa [mI, mR] using h6)).1
          | cmp2 a b c d e => exact pi_any (sndE (.cmp2 a b c d e) hC (by simpa [mI, mR] using h6)).1
          | call a b => exact pi_any (sndE (.call a b) hC (by simpa [mI, mR] using h6)).1
          | callv a b => exact pi_any (sndE (.callv a b) hC (by simpa [mI, mR] using h6)).1
          | blt a b => exact pi_any (sndE (.blt a b) hC (by simpa [mI, mR] using h6)).1
          | isi a b => exact pi_any (sndE (.isi a b) hC (by simpa [mI, mR] using h6)).1
          | meth a b c => exact pi_any (sndE (.meth a b c) hC (by simpa [mI, mR] using h6)).1
          | tup a => exact pi_any (sndE (.tup a) hC (by simpa [mI, mR] using h6)).1
          | lst a => exact pi_any (sndE (.lst a) hC (by simpa [mI, mR] using h6)).1
          | ix a b => exact pi_any (sndE (.ix a b) hC (by simpa [mI, mR] using h6)).1
          | lc a b c d e => exact pi_any (sndE (.lc a b c d e) hC (by simpa [mI, mR] using h6)).1
          | lrng a b => exact pi_any (sndE (.lrng a b) hC (by simpa [mI, mR] using h6)).1
        have p : PE X (.ListComp elt [⟨tg', it', ifs', 0⟩] scope pos) (tD X.K fa W G call (.lc e tg own it ifs)) := by
          have hv : (own.map fun p => ((p.1 : Str), p.2)).map (·.2) = own.map (·.2) := by rw [List.map_map]; rfl
          have pl := pe_lc (pos := pos) (own := own.map fun p => ((p.1 : Str), p.2)) (g := tG X.K fa tg) (tt := tIfs X.K fa (fun _ _ _ _ => False) G call ifs) (te := tD X.K fa (fun _ _ _ _ => False) G call e) hC.calm hC.nd pi (blkOk_by h1)
            (fun s H C cl fp => pg_ok (X := X.blk s H scope (compEnvC scope cl C X.env) fp) (fa := fa) hC.nd hC.calm (sc := scope) blk_kind tg tg' h3)
            (fun s H C cl fp => sndIfs ifs (X := X.blk s H scope (compEnvC scope cl C X.env) fp) (hC.blk ..) h7 h8)
            (fun s H C cl fp => (sndE e (X := X.blk s H scope (compEnvC scope cl C X.env) fp) (hC.blk ..) h2).1) (set_fold h5)
          rw [hv] at pl
          exact PE.imp pl fun σ H Q q => lc_ok (tt := fun _ _ _ => True) (te := fun _ _ _ => True) h4 q
        exact ⟨p, pt_of p fun _ => rfl⟩
      | [], h => simp [mE] at h
      | _ :: _ :: _, h => simp [mE] at h
    | _ => simp [mE] at h
  | .rng1 a, X, W, e, hC, h => by cases e <;> simp [mE] at h
  | .rng2 a b, X, W, e, hC, h => by cases e <;> simp [mE] at h
  | .lrng t a, X, W, e, hC, h => by
    cases e with
    | Call g es kws pos =>
      cases g with
      | Name x p =>
        match es, kws, h with
        | [e1], [], h =>
          cases e1 with
          | Call g2 es2 kws2 pos2 =>
            cases g2 with
            | Name y q =>
              match es2, kws2, h with
              | [a'], [], h =>
                have h' : ((((x = ((if t then "tuple" else "list" : String) : Str) ∧ glB X.env.scope x = true) ∧ y = ("range" : Str)) ∧ glB X.env.scope y = true) ∧ mE X.N fs X.env.scope a a' = true) ∧ starB a' = true := by
                  unfold mE at h
                  simpa only [Bool.and_eq_true, decide_eq_true_eq] using h
                have p := pe_lrngD (p := p) (q := q) (p2 := pos2) (pos := pos) hC h'.1.1.1.1.1 h'.1.1.1.1.2 h'.1.1.1.2 h'.1.1.2 h'.2 (sndE a hC h'.1.2).1
                exact ⟨p, pt_of p fun _ => rfl⟩
              | [], _, h => simp [mE] at h
              | [_], _ :: _, h => simp [mE] at h
              | _ :: _ :: _, _, h => simp [mE] at h
            | _ => simp [mE] at h
          | _ => simp [mE] at h
        | [], _, h => simp [mE] at h
        | [_], _ :: _, h => simp [mE] at h
        | _ :: _ :: _, _, h => simp [mE] at h
      | _ => simp [mE] at h
    | _ => simp [mE] at h
theorem sndL : ∀ (l : Cs) {X : Cx} {W : WX} {es : List Expr}, Cn X G call k fa fs W → mEs X.N fs X.env.scope l es = true → PA X es (tL X.K fa W G call l)
  | .nil, X, W, [], hC, h => pa_nilD
  | .nil, X, W, _ :: _, hC, h => by simp [mEs] at h
  | .cons c r, X, W, [], hC, h => by simp [mEs] at h
  | .cons c r, X, W, e :: es, hC, h => by
    have h' : (mE X.N fs X.env.scope c e = true ∧ starB e = true) ∧ mEs X.N fs X.env.scope r es = true := by simpa [mEs] using h
    exact pa_consD h'.1.2 (sndE c hC h'.1.1).1 (sndL r hC h'.2)
theorem sndAnd : ∀ (l : Cs) {X : Cx} {W : WX} {es : List Expr} {pos : Pos}, Cn X G call k fa fs W → mEs X.N fs X.env.scope l es = true → PE X (.BoolOp .And es pos) (tAn X.K fa W G call l) ∧ PW X (.BoolOp .And es pos) (tAnB X.K fa W G call l)
  | .nil, X, W, es, pos, hC, h => ⟨⟨fun _ _ _ _ _ _ q => by obtain ⟨A, ρ, μ, m, re, p⟩ := q; exact p.elim⟩, ⟨fun _ _ _ _ _ _ _ q => by obtain ⟨A, ρ, μ, m, re, p⟩ := q; exact p.elim⟩⟩
  | .cons c r, X, W, [], pos, hC, h => by simp [mEs] at h
  | .cons c r, X, W, e :: es, pos, hC, h => by
    have h' : (mE X.N fs X.env.scope c e = true ∧ starB e = true) ∧ mEs X.N fs X.env.scope r es = true := by simpa [mEs] using h
    obtain ⟨p, q⟩ := sndE c hC h'.1.1
    have ih := sndAnd r (pos := pos) hC h'.2
    match r, es, h'.2, ih with
    | .nil, [], _, _ => exact pe_andOne p q
    | .nil, _ :: _, h2, _ => simp [mEs] at h2
    | .cons _ _, [], h2, _ => simp [mEs] at h2
    | .cons c2 r2, e2 :: es2, h2, ih => exact pe_andMore p q ih.1 ih.2
theorem sndOr : ∀ (l : Cs) {X : Cx} {W : WX} {es : List Expr} {pos : Pos}, Cn X G call k fa fs W → mEs X.N fs X.env.scope l es = true → PE X (.BoolOp .Or es pos) (tOr' X.K fa W G call l) ∧ PW X (.BoolOp .Or es pos) (tOrB X.K fa W G call l)
  | .nil, X, W, es, pos, hC, h => ⟨⟨fun _ _ _ _ _ _ q => by obtain ⟨A, ρ, μ, m, re, p⟩ := q; exact p.elim⟩, ⟨fun _ _ _ _ _ _ _ q => by obtain ⟨A, ρ, μ, m, re, p⟩ := q; exact p.elim⟩⟩
  | .cons c r, X, W, [], pos, hC, h => by simp [mEs] at h
  | .cons c r, X, W, e :: es, pos, hC, h => by
    have h' : (mE X.N fs X.env.scope c e = true ∧ starB e = true) ∧ mEs X.N fs X.env.scope r es = true := by simpa [mEs] using h
    obtain ⟨p, q⟩ := sndE c hC h'.1.1
    have ih := sndOr r (pos := pos) hC h'.2
    match r, es, h'.2, ih with
    | .nil, [], _, _ => exact pe_orOne p q
    | .nil, _ :: _, h2, _ => simp [mEs] at h2
    | .cons _ _, [], h2, _ => simp [mEs] at h2
    | .cons c2 r2, e2 :: es2, h2, ih => exact pe_orMore p q ih.1 ih.2
theorem sndIfs : ∀ (l : Cs) {X : Cx} {W : WX} {es : List Expr}, Cn X G call k fa fs W → mEs X.N fs X.env.scope l es = true → es.length ≤ 1 → PTs X es (tIfs X.K fa W G call l)
  | .nil, X, W, [], hC, h, _ => ⟨fun pins s σ H Q I q => (pts_nil (X := X)).run pins s σ H Q I (by obtain ⟨A, ρ, μ, m, re, p⟩ := q; exact p.done .refl m)⟩
  | .nil, X, W, _ :: _, hC, h, _ => by simp [mEs] at h
  | .cons c r, X, W, [], hC, h, _ => by simp [mEs] at h
  | .cons c r, X, W, [e], hC, h, _ => by
    have h' : (mE X.N fs X.env.scope c e = true ∧ starB e = true) ∧ mEs X.N fs X.env.scope r [] = true := by simpa [mEs] using h
    obtain ⟨p, q⟩ := sndE c hC h'.1.1
    match r, h'.2 with
    | .nil, _ =>
      refine ⟨fun pins s σ H Q I q' => (pts_one q).run pins s σ H Q I ?_⟩
      obtain ⟨A, ρ, μ, m, re, p⟩ := q'
      refine ⟨A, ρ, μ, m, re, ?_⟩
      simp only [evIfs] at p
      cases hr : ev G call c ρ μ with
      | no => rw [hr] at p; exact p
      | ex e μ' => rw [hr] at p; exact p
      | ok d μ1 =>
        rw [hr] at p
        simp only [Rs.bnd_ok] at p ⊢
        cases e1 : truth μ1 d with
        | none => rw [e1] at p; exact p
        | some b => rw [e1] at p; cases b <;> exact p
    | .cons _ _, h2 => simp [mEs] at h2
  | .cons c r, X, W, _ :: _ :: _, hC, h, hl => by simp at hl
end
end
end Mp
end SSnd12
section SSnd13
/-! Snd13: the reading of a statement; one statement each. -/
namespace Mp
open PySem PySem.Spec PyProof.Rows L2

def PstS (K : PySem.W.Frag) (fa : String → Option Addr) (W : WX) (A : List Addr) (H : Hp) (o : Ou) (Q : Ends) : Prop := match o with
  | .nx ρ' μ' => ∀ σ' H' A', Stp A H A' H' → RelM K fa H' A' μ' → RelE K fa H' A' ρ' σ' → Q.nx σ' H'
  | .br ρ' μ' => ∀ σ' H' A', Stp A H A' H' → RelM K fa H' A' μ' → RelE K fa H' A' ρ' σ' → Q.bk σ' H'
  | .ct ρ' μ' => ∀ σ' H' A', Stp A H A' H' → RelM K fa H' A' μ' → RelE K fa H' A' ρ' σ' → Q.ct σ' H'
  | .rt d μ' => ∀ v H' A' F, Good K fa A H μ' d v H' A' F → Q.rt v H'
  | .ex e ρ' μ' => ∀ cls dd σ' H' A', Stp A H A' H' → RelM K fa H' A' μ' → RelE K fa H' A' ρ' σ' → RepX K fa H' A' e cls dd → W cls dd σ' H'
  | .no => False
def tS (K : PySem.W.Frag) (fa : String → Option Addr) (W : WX) (G : String → Option D) (call : String → List D → Store → Rs D) (s : S) : TS := fun Q σ H => ∃ A ρ μ, RelM K fa H A μ ∧ RelE K fa H A ρ σ ∧ PstS K fa W A H (exec G call s ρ μ) Q
def tSs (K : PySem.W.Frag) (fa : String → Option Addr) (W : WX) (G : String → Option D) (call : String → List D → Store → Rs D) (s : Ss) : TS := fun Q σ H => ∃ A ρ μ, RelM K fa H A μ ∧ RelE K fa H A ρ σ ∧ PstS K fa W A H (execs G call s ρ μ) Q
theorem PS.imp {X : Cx} {st : Stmt} {t t' : TS} (h : PS X st t) (m : ∀ Q σ H, t' Q σ H → t Q σ H) : PS X st t' := ⟨fun pins s σ H D I q => h.run pins s σ H D I (m D σ H q)⟩
theorem PSs.imp {X : Cx} {st : List Stmt} {t t' : TS} (h : PSs X st t) (m : ∀ Q σ H, t' Q σ H → t Q σ H) : PSs X st t' := ⟨fun pins s σ H D I q => h.run pins s σ H D I (m D σ H q)⟩

section
variable {K : PySem.W.Frag} {fa : String → Option Addr} {W : WX} {A A0 A1 A2 : List Addr} {H H0 H1 H2 : Hp} {σ : L2.St}
/-- from a later place on -/
theorem PstS.from {o : Ou} {Q : Ends} (s : Stp A0 H0 A H) (h : PstS K fa W A0 H0 o Q) : PstS K fa W A H o Q := by
  cases o with
  | nx ρ μ => exact fun σ' H' A' s' => h σ' H' A' (s.trans s')
  | br ρ μ => exact fun σ' H' A' s' => h σ' H' A' (s.trans s')
  | ct ρ μ => exact fun σ' H' A' s' => h σ' H' A' (s.trans s')
  | rt d μ => exact fun v H' A' F g => h v H' A' F (g.pre s)
  | ex e ρ μ => exact fun cls dd σ' H' A' s' => h cls dd σ' H' A' (s.trans s')
  | no => exact h
theorem PstS.ou {r : Rs D} {ρ : Env} {f : D → Store → Ou} {Q : Ends} (s : Stp A0 H0 A H) (re : RelE K fa H A ρ σ) (h : PstS K fa W A0 H0 (r.ou ρ f) Q) :
    Pst K fa W A H σ r fun v H1 => ∃ A1 d μ F, Good K fa A H μ d v H1 A1 F ∧ PstS K fa W A0 H0 (f d μ) Q := by
  cases r with
  | ok d μ => intro v H' A' F g; exact ⟨A', d, μ, F, g, h⟩
  | ex e μ => intro cls dd H' A' s' r x; exact h cls dd σ H' A' (s.trans s') r (re.step s') x
  | no => exact h
theorem PstS.seq {o : Ou} {f : Env → Store → Ou} {Q : Ends} (s : Stp A0 H0 A H) (h : PstS K fa W A0 H0 (o.seq f) Q) :
    PstS K fa W A H o { Q with nx := fun σ1 H1 => ∃ A1 ρ1 μ1, Stp A H A1 H1 ∧ RelM K fa H1 A1 μ1 ∧ RelE K fa H1 A1 ρ1 σ1 ∧ PstS K fa W A0 H0 (f ρ1 μ1) Q } := by
  cases o with
  | nx ρ μ => exact fun σ' H' A' s' r e => ⟨A', ρ, μ, s', r, e, h⟩
  | br ρ μ => exact fun σ' H' A' s' => h σ' H' A' (s.trans s')
  | ct ρ μ => exact fun σ' H' A' s' => h σ' H' A' (s.trans s')
  | rt d μ => exact fun v H' A' F g => h v H' A' F (g.pre s)
  | ex e ρ μ => exact fun cls dd σ' H' A' s' => h cls dd σ' H' A' (s.trans s')
  | no => exact h
end
section
variable {X : Cx} {fa : String → Option Addr} {W : WX} {G : String → Option D} {call : String → List D → Store → Rs D}
theorem pss_nilD : PSs X [] (tSs X.K fa W G call .nil) := PSs.imp pss_nil fun Q σ H q => by
  obtain ⟨A, ρ, μ, m, re, p⟩ := q
  exact p σ H A .refl m re
theorem pss_consD {st : Stmt} {rest : List Stmt} {s : S} {r : Ss} (h1 : PS X st (tS X.K fa W G call s)) (h2 : PSs X rest (tSs X.K fa W G call r)) : PSs X (st :: rest) (tSs X.K fa W G call (.cons s r)) := PSs.imp (pss_cons h1 h2) fun Q σ H q => by
  obtain ⟨A, ρ, μ, m, re, p⟩ := q
  refine ⟨A, ρ, μ, m, re, ?_⟩
  have p' := PstS.seq (s := Stp.refl) (o := exec G call s ρ μ) (f := fun ρ μ => execs G call r ρ μ) p
  have mono : ∀ {o : Ou} {Q Q' : Ends}, PstS X.K fa W A H o Q → (∀ σ H, Q.nx σ H → Q'.nx σ H) → Q.bk = Q'.bk → Q.ct = Q'.ct → Q.rt = Q'.rt → PstS X.K fa W A H o Q' := by
    intro o Q Q' h a b c d
    cases o with
    | nx ρ μ => exact fun σ' H' A' s' r e => a _ _ (h σ' H' A' s' r e)
    | br ρ μ => intro σ' H' A' s' r e; rw [← b]; exact h σ' H' A' s' r e
    | ct ρ μ => intro σ' H' A' s' r e; rw [← c]; exact h σ' H' A' s' r e
    | rt e μ => intro v H' A' F g; rw [← d]; exact h v H' A' F g
    | ex e ρ μ => exact h
    | no => exact h
  exact mono p' (fun σ1 H1 ⟨A1, ρ1, μ1, s1, m1, e1, q1⟩ => ⟨A1, ρ1, μ1, m1, e1, q1.from s1⟩) rfl rfl rfl
theorem ps_passD {pos : Pos} : PS X (.Pass pos) (tS X.K fa W G call .pass) := PS.imp ps_pass fun Q σ H q => by
  obtain ⟨A, ρ, μ, m, re, p⟩ := q
  exact p σ H A .refl m re
theorem ps_brkD {pos : Pos} : PS X (.Break pos) (tS X.K fa W G call .brk) := PS.imp ps_break fun Q σ H q => by
  obtain ⟨A, ρ, μ, m, re, p⟩ := q
  exact p σ H A .refl m re
theorem ps_contD {pos : Pos} : PS X (.Continue pos) (tS X.K fa W G call .cont) := PS.imp ps_continue fun Q σ H q => by
  obtain ⟨A, ρ, μ, m, re, p⟩ := q
  exact p σ H A .refl m re
theorem ps_exprD {e : Expr} {c : C} {pos : Pos} (he : PE X e (tD X.K fa W G call c)) (hs : swapsWith e none pos.line X.env = pure false) : PS X (.Expr e pos) (tS X.K fa W G call (.expr c)) := PS.imp (ps_expr he hs) fun Q σ H q => by
  obtain ⟨A, ρ, μ, m, re, p⟩ := q
  refine ⟨A, ρ, μ, m, re, (PstS.ou .refl re p).mono fun v H1 ⟨A1, d, μ1, F, g, p1⟩ => ?_⟩
  exact p1 σ H1 A1 g.stp g.mem (re.step g.stp)
theorem ps_retD {e : Expr} {c : C} {pos : Pos} (he : PE X e (tD X.K fa W G call c)) : PS X (.Return (some e) pos) (tS X.K fa W G call (.ret c)) := PS.imp (ps_ret he) fun Q σ H q => by
  obtain ⟨A, ρ, μ, m, re, p⟩ := q
  refine ⟨A, ρ, μ, m, re, (PstS.ou .refl re p).mono fun v H1 ⟨A1, d, μ1, F, g, p1⟩ => ?_⟩
  exact p1 v H1 A1 F g
theorem ps_retND {pos : Pos} : PS X (.Return none pos) (tS X.K fa W G call (.ret (.lit .non))) := PS.imp ps_retN fun Q σ H q => by
  obtain ⟨A, ρ, μ, m, re, p⟩ := q
  exact p .non H A [] ⟨.refl, m, .non, List.nodup_nil, by simp⟩
theorem PstB.mono' {K : PySem.W.Frag} {fa : String → Option Addr} {W : WX} {A : List Addr} {H : Hp} {σ : L2.St} {r : Rs Bool} {Q Q' : Bool → Hp → Prop} (h : PstB K fa W A H σ r Q) (m : ∀ v H, Q v H → Q' v H) : PstB K fa W A H σ r Q' := h.mono m
/-- a test and what comes of it -/
theorem PstS.test {c : C} {ρ : Env} {μ : Store} {A : List Addr} {H : Hp} {σ : L2.St} {Q : Ends} {f : Bool → Store → Ou} (re : RelE X.K fa H A ρ σ)
    (h : PstS X.K fa W A H ((ev G call c ρ μ).ou ρ fun x μ => match truth μ x with
      | some b => f b μ
      | none => .no) Q) :
    PstB X.K fa W A H σ ((ev G call c ρ μ).bnd fun x μ => Rs.of (truth μ x) μ) fun b H1 => ∃ A1 μ1, Stp A H A1 H1 ∧ RelM X.K fa H1 A1 μ1 ∧ PstS X.K fa W A H (f b μ1) Q := by
  cases hr : ev G call c ρ μ with
  | no => rw [hr] at h; exact h
  | ex e μ1 => rw [hr] at h; exact fun cls dd H' A' s' r x => h cls dd σ H' A' s' r (re.step s') x
  | ok d μ1 =>
    rw [hr] at h
    simp only [Rs.ou_ok, Rs.bnd_ok] at h ⊢
    cases ht : truth μ1 d with
    | none => rw [ht] at h; exact h
    | some b => rw [ht] at h; exact fun H1 A1 s1 r1 => ⟨A1, μ1, s1, r1, h⟩
theorem ps_ifD {t : Expr} {a b : List Stmt} {c : C} {sa sb : Ss} {pos : Pos} (ht : PT X t (Mp.tB X.K fa W G call c)) (ha : PSs X a (tSs X.K fa W G call sa)) (hb : PSs X b (tSs X.K fa W G call sb)) : PS X (.If t a b pos) (tS X.K fa W G call (.ite c sa sb)) := PS.imp (ps_if ht ha hb) fun Q σ H q => by
  obtain ⟨A, ρ, μ, m, re, p⟩ := q
  have p' : PstS X.K fa W A H ((ev G call c ρ μ).ou ρ fun x μ => match truth μ x with
      | some b => (fun b μ => if b = true then execs G call sa ρ μ else execs G call sb ρ μ) b μ
      | none => .no) Q := by
    have e : (fun (x : D) (μ : Store) => match truth μ x with
      | some b => (fun b μ => if b = true then execs G call sa ρ μ else execs G call sb ρ μ) b μ
      | none => Ou.no) = fun x μ => match truth μ x with
      | some true => execs G call sa ρ μ
      | some false => execs G call sb ρ μ
      | none => .no := by
      funext x μ
      cases truth μ x with
      | none => rfl
      | some b => cases b <;> rfl
    rw [e]; exact p
  refine ⟨A, ρ, μ, m, re, (PstS.test re p').mono fun b H1 ⟨A1, μ1, s1, m1, p1⟩ => ?_⟩
  cases b with
  | true => exact ⟨A1, ρ, μ1, m1, re.step s1, p1.from s1⟩
  | false => exact ⟨A1, ρ, μ1, m1, re.step s1, p1.from s1⟩

/-! ### stores -/
/-- what is put under a target -/
theorem bind_go {t : Tg} {d : D} {v : V} {F : List Addr} {ρ ρ' : Env} {μ μ' : Store} {A A0 : List Addr} {H H0 : Hp} {σ : L2.St} {Q : Ends} (s0 : Stp A0 H0 A H) (m : RelM X.K fa H A μ) (re : RelE X.K fa H A ρ σ) (r : Rep X.K fa H A v d F) (nd : F.Nodup) (ne : ∀ a ∈ F, H0 a = none ∧ a ∉ A) (hb : bindT t d ρ μ = some (ρ', μ'))
    (p : PstS X.K fa W A0 H0 (.nx ρ' μ') Q) : tG X.K fa t v σ H Q.nx := by
  refine ⟨A, ρ, μ, d, F, ρ', μ', m, re, r, nd, fun a ha => (ne a ha).2, hb, fun σ' A' ⟨N, eN, hN⟩ m' re' _ => ?_⟩
  subst eN
  exact p σ' H (A ++ N) (s0.join fun a ha => (ne a (hN a ha)).1) m' re'
theorem ps_setD {tg e : Expr} {c : C} {t : Tg} {pos : Pos} (he : PE X e (tD X.K fa W G call c)) (hg : PG X tg (tG X.K fa t)) (hs : swapsWithSole [tg] e pos.line X.env = pure false) (hw : swappedStores [tg] e X.env = pure none) (h1 : (assignEach [tg] X.env).map (·.2) = [assign tg X.env]) :
    PS X (.Assign [tg] e pos) (tS X.K fa W G call (.set t c)) := PS.imp (ps_asg he hg hs hw h1) fun Q σ H q => by
  obtain ⟨A, ρ, μ, m, re, p⟩ := q
  refine ⟨A, ρ, μ, m, re, (PstS.ou .refl re p).mono fun v H1 ⟨A1, d, μ1, F, g, p1⟩ => ?_⟩
  cases hb : bindT t d ρ μ1 with
  | none => rw [hb] at p1; exact p1.elim
  | some x => rw [hb] at p1; exact bind_go g.stp g.mem (re.step g.stp) g.rep g.nd g.new hb p1
theorem Reps.cons_still {K : PySem.W.Frag} {H : Hp} {A : List Addr} {vs : List V} {d : D} {ds : List D} (h : Reps K fa H A vs (d :: ds) []) : ∃ v ws, vs = v :: ws ∧ Rep K fa H A v d [] ∧ Reps K fa H A ws ds [] := by
  generalize hF : ([] : List Addr) = F at h
  cases h with
  | @cons v ws _ _ F1 F2 r t =>
    obtain ⟨e1, e2⟩ := List.append_eq_nil_iff.mp hF.symm
    subst e1 e2
    exact ⟨v, ws, rfl, r, t⟩
theorem Reps.nil_still {K : PySem.W.Frag} {H : Hp} {A : List Addr} {vs : List V} {F : List Addr} (h : Reps K fa H A vs [] F) : vs = [] := by cases h; rfl
/-- the tuple's parts, put under plain names -/
theorem ps_par2D {i j : Nat} {x y : Str} {a b : Expr} {l : Cs} {px py pt pos : Pos} {kt k2 pt2} (hc : X.calm = true) (hN : X.N.Nodup) (hi : X.N[i]? = some x) (hj : X.N[j]? = some y) (hij : i ≠ j)
    (hx : X.env.scope.names.lookup x = some .local) (hy : X.env.scope.names.lookup y = some .local) (ha : PA X [a, b] (tL X.K fa W G call l))
    (hw : swappedStores [.Tuple [.Name x px, .Name y py] kt pt] (.Tuple [a, b] k2 pt2) X.env = pure (some [x, y])) :
    PS X (.Assign [.Tuple [.Name x px, .Name y py] kt pt] (.Tuple [a, b] k2 pt2) pos) (tS X.K fa W G call (.set (.t [.v i, .v j]) (.tup l))) := PS.imp (ps_par hc hN hi hj hij hx hy ha hw) fun Q σ H q => by
  obtain ⟨A, ρ, μ, m, re, p⟩ := q
  refine ⟨A, ρ, μ, m, re, ?_⟩
  simp only [exec, ev] at p
  cases hr : evs G call l ρ μ with
  | no => rw [hr] at p; exact p
  | ex e μ1 => rw [hr] at p; exact fun cls dd H' A' s' r x => p cls dd σ H' A' s' r (re.step s') x
  | ok ds μ1 =>
    rw [hr] at p
    simp only [Rs.bnd_ok, Rs.ou_ok] at p
    intro vs H1 A1 F g
    match ds, p, g with
    | [d1, d2], p, g =>
      simp only [bindT, bindTs, Option.bind_some] at p
      have g' := g.alloc
      obtain ⟨v1, vs', rfl, q1, t1⟩ := Reps.cons_still g'.rep
      obtain ⟨v2, vs', rfl, q2, t2⟩ := Reps.cons_still t1
      cases Reps.nil_still t2
      exact ⟨v1, v2, rfl, p _ H1 (A1 ++ F) g'.stp g'.mem (((re.step g'.stp).set q1).set q2)⟩
    | [], p, g => exact p.elim
    | [_], p, g => simp [bindT, bindTs] at p; exact p.elim
    | _ :: _ :: _ :: _, p, g => simp [bindT, bindTs] at p; exact p.elim
theorem ps_par3D {i j k : Nat} {x y z : Str} {a b c : Expr} {l : Cs} {px py pz pt pos : Pos} {kt k2 pt2} (hc : X.calm = true) (hN : X.N.Nodup) (hi : X.N[i]? = some x) (hj : X.N[j]? = some y) (hk : X.N[k]? = some z) (hij : i ≠ j) (hik : i ≠ k) (hjk : j ≠ k)
    (hx : X.env.scope.names.lookup x = some .local) (hy : X.env.scope.names.lookup y = some .local) (hz : X.env.scope.names.lookup z = some .local) (ha : PA X [a, b, c] (tL X.K fa W G call l))
    (hw : swappedStores [.Tuple [.Name x px, .Name y py, .Name z pz] kt pt] (.Tuple [a, b, c] k2 pt2) X.env = pure (some [x, y, z])) :
    PS X (.Assign [.Tuple [.Name x px, .Name y py, .Name z pz] kt pt] (.Tuple [a, b, c] k2 pt2) pos) (tS X.K fa W G call (.set (.t [.v i, .v j, .v k]) (.tup l))) := PS.imp (ps_par3 hc hN hi hj hk hij hik hjk hx hy hz ha hw) fun Q σ H q => by
  obtain ⟨A, ρ, μ, m, re, p⟩ := q
  refine ⟨A, ρ, μ, m, re, ?_⟩
  simp only [exec, ev] at p
  cases hr : evs G call l ρ μ with
  | no => rw [hr] at p; exact p
  | ex e μ1 => rw [hr] at p; exact fun cls dd H' A' s' r x => p cls dd σ H' A' s' r (re.step s') x
  | ok ds μ1 =>
    rw [hr] at p
    simp only [Rs.bnd_ok, Rs.ou_ok] at p
    intro vs H1 A1 F g
    match ds, p, g with
    | [d1, d2, d3], p, g =>
      simp only [bindT, bindTs, Option.bind_some] at p
      have g' := g.alloc
      obtain ⟨v1, vs', rfl, q1, t1⟩ := Reps.cons_still g'.rep
      obtain ⟨v2, vs', rfl, q2, t2⟩ := Reps.cons_still t1
      obtain ⟨v3, vs', rfl, q3, t3⟩ := Reps.cons_still t2
      cases Reps.nil_still t3
      exact ⟨v1, v2, v3, rfl, p _ H1 (A1 ++ F) g'.stp g'.mem ((((re.step g'.stp).set q1).set q2).set q3)⟩
    | [], p, g => exact p.elim
    | [_], p, g => simp [bindT, bindTs] at p; exact p.elim
    | [_, _], p, g => simp [bindT, bindTs] at p; exact p.elim
    | _ :: _ :: _ :: _ :: _, p, g => simp [bindT, bindTs] at p; exact p.elim
/-! ### op= -/
theorem augop_ok (op : BinK) : ∃ r : TIp, PIp X (opB op) r ∧
    ∀ {A0 : List Addr} {H0 : Hp} {σ : L2.St} {x y z : D} {v w : V} {H2 : Hp} {A2 : List Addr} {μ : Store} {F1 F2 : List Addr} {Q : VK}, Two X.K fa A0 H0 x y v w H2 A2 μ F1 F2 → augop op x y = some z → Pst X.K fa W A0 H0 σ (.ok z μ) Q → r v w H2 Q := by
  cases op with
  | add =>
    refine ⟨_, OpR.or iop_add iop_add_str, fun {A0 H0 σ x y z v w H2 A2 μ F1 F2 Q} t e q => ?_⟩
    unfold augop at e
    split at e <;> first | contradiction | skip
    · cases e
      have m := t.mem; have s := t.stp
      cases t.one; cases t.two
      exact .inl ⟨_, _, rfl, rfl, q.done s m (.int _)⟩
    · rename_i a b _
      split at e
      · rename_i hl
        cases e
        have m := t.mem; have s := t.stp
        cases t.one with
        | str _ h1 =>
          cases t.two with
          | str _ h2 =>
            refine .inr ⟨_, _, rfl, rfl, by rw [toS_length, toS_length, sizeLine_eq]; exact hl, ?_⟩
            rw [toS_append]
            exact q.done s m (.str _ (okS_append h1 h2 hl))
      · cases e
  | sub =>
    refine ⟨_, iop_sub, fun {A0 H0 σ x y z v w H2 A2 μ F1 F2 Q} t e q => ?_⟩
    unfold augop at e
    split at e <;> first | contradiction | skip
    cases e
    have m := t.mem; have s := t.stp
    cases t.one; cases t.two
    exact ⟨_, _, rfl, rfl, q.done s m (.int _)⟩
  | mul =>
    refine ⟨_, iop_mul, fun {A0 H0 σ x y z v w H2 A2 μ F1 F2 Q} t e q => ?_⟩
    unfold augop at e
    split at e <;> first | contradiction | skip
    split at e
    · rename_i hm
      cases e
      have m := t.mem; have s := t.stp
      cases t.one; cases t.two
      refine ⟨_, _, rfl, rfl, ?_, q.done s m (.int _)⟩
      unfold mulOk at hm
      simpa [CMul] using hm
    · cases e
  | fdiv =>
    refine ⟨_, iop_fdiv, fun {A0 H0 σ x y z v w H2 A2 μ F1 F2 Q} t e q => ?_⟩
    unfold augop at e
    split at e <;> first | contradiction | skip
    split at e
    · rename_i hm
      cases e
      have m := t.mem; have s := t.stp
      cases t.one; cases t.two
      exact ⟨_, _, rfl, rfl, hm, q.done s m (.int _)⟩
    · cases e
  | mod =>
    refine ⟨_, iop_mod, fun {A0 H0 σ x y z v w H2 A2 μ F1 F2 Q} t e q => ?_⟩
    unfold augop at e
    split at e <;> first | contradiction | skip
    split at e
    · rename_i hm
      cases e
      have m := t.mem; have s := t.stp
      cases t.one; cases t.two
      exact ⟨_, _, rfl, rfl, hm, q.done s m (.int _)⟩
    · cases e
  | pow =>
    refine ⟨fun _ _ _ _ => False, fun _ _ _ _ _ _ _ _ _ _ _ _ h => h.elim, fun {A0 H0 σ x y z v w H2 A2 μ F1 F2 Q} t e q => ?_⟩
    simp [augop] at e
theorem ps_augD {i : Nat} {x : Str} {e : Expr} {c : C} {op : BinK} {pos pos' : Pos} (hN : X.N.Nodup) (hi : X.N[i]? = some x) (hx : Loc X.env.scope x) (he : PE X e (tD X.K fa W G call c)) (hf : X.fn x = true ∨ X.env.scope.names.lookup x = some .local) :
    PS X (.AugAssign (.Name x pos') (opB op) e pos) (tS X.K fa W G call (.aug i op c)) := by
  obtain ⟨r, h1, h2⟩ := augop_ok (X := X) (fa := fa) (W := W) op
  refine PS.imp (ps_aug hN hi hx he h1 hf) fun Q σ H q => ?_
  obtain ⟨A, ρ, μ, m, re, p⟩ := q
  simp only [exec] at p
  cases hρ : ρ[i]? with
  | none => rw [hρ] at p; exact p.elim
  | some o =>
    cases o with
    | none => rw [hρ] at p; exact p.elim
    | some dx =>
      rw [hρ] at p
      simp only at p
      obtain ⟨vx, hv, rx⟩ := re.2 i dx hρ
      refine ⟨vx, hv, A, ρ, μ, m, re, (PstS.ou .refl re p).mono fun v H1 ⟨A1, d, μ1, F, g, p1⟩ => ?_⟩
      cases ha : augop op dx d with
      | none => rw [ha] at p1; exact p1.elim
      | some z =>
        rw [ha] at p1
        have gx : Good X.K fa A H μ dx vx H A [] := ⟨.refl, m, rx, List.nodup_nil, by simp⟩
        refine h2 (σ := σ) (Two.of gx g) ha fun w H2 A2 F2 g2 => ?_
        have g3 := g2.alloc
        exact p1 _ H2 (A2 ++ F2) g3.stp g3.mem ((re.step g3.stp).set g3.rep)
/-! ### o[i] = e -/
theorem setIx_some {μ μ' : Store} {x y d : D} (h : setIx μ x y d = some μ') : ∃ n k l j, x = .ref n ∧ y = .int k ∧ μ[n]? = some (.lst l) ∧ ixNat l.length k = some j ∧ μ' = μ.set n (.lst (l.set j d)) := by
  unfold setIx at h
  split at h
  · rename_i n i
    cases hn : μ[n]? with
    | none => rw [hn] at h; cases h
    | some o =>
      rw [hn] at h
      cases o with
      | lst l =>
        simp only [Option.map_eq_some_iff] at h
        obtain ⟨j, h1, h2⟩ := h
        exact ⟨n, i, l, j, rfl, rfl, hn, h1, h2.symm⟩
  · cases h
theorem sole_sub {o i e : Expr} {p : Pos} {l : Nat} {env : PySem.Env} : swapsWithSole [.Subscript o i p] e l env = pure false := by cases e <;> rfl
theorem ps_setiD {o i e : Expr} {c ca ci : C} {p pos : Pos} (he : PE X e (tD X.K fa W G call c)) (ho : PE X o (tD X.K fa W G call ca)) (hi : PE X i (tD X.K fa W G call ci)) (hp : plainIxB i = true) :
    PS X (.Assign [.Subscript o i p] e pos) (tS X.K fa W G call (.seti ca ci c)) := by
  refine PS.imp (ps_asg he (pg_sub ho hi set_list (by intro v; cases i <;> first | rfl | cases hp)) sole_sub (by rfl) (by rfl)) fun Q σ H q => ?_
  obtain ⟨A, ρ, μ, m, re, q⟩ := q
  refine ⟨A, ρ, μ, m, re, (PstS.ou .refl re q).mono fun v H1 ⟨A1, d, μ1, F, g, p1⟩ => ?_⟩
  refine ⟨A1, ρ, μ1, g.mem, re.step g.stp, (PstS.ou g.stp (re.step g.stp) p1).mono fun w H2 ⟨A2, x, μ2, F2, g2, p2⟩ => ?_⟩
  have re2 := (re.step g.stp).step g2.stp
  refine ⟨A2, ρ, μ2, g2.mem, re2, (PstS.ou (g.stp.trans g2.stp) re2 p2).mono fun u H3 ⟨A3, y, μ3, F3, g3, p3⟩ => ?_⟩
  cases hs : setIx (alloc d μ3).2 x y (alloc d μ3).1 with
  | none => rw [hs] at p3; exact p3.elim
  | some μ4 =>
    rw [hs] at p3
    obtain ⟨n, k, l, j, rfl, rfl, hn, hj, rfl⟩ := setIx_some hs
    have s23 := g2.stp.trans g3.stp
    have gd : Good X.K fa A H μ3 d v H3 A3 F := ⟨g.stp.trans s23, g3.mem, g.rep.step s23 fun a ha => (g.new a ha).2, g.nd, fun a ha => ⟨(g.new a ha).1, by
      obtain ⟨vs, t⟩ := g.tracked a ha
      exact s23.out t (g.new a ha).2⟩⟩
    have ga := gd.alloc
    have rx := g2.rep
    have ry := g3.rep
    cases ry
    cases rx with
    | @ref _ a ha =>
      have ha3 : (A3 ++ F)[n]? = some a := by
        have h3 := g3.stp.sub ha
        rw [List.getElem?_append_left (List.getElem?_eq_some_iff.mp h3).1]
        exact h3
      obtain ⟨a', h1, vs, hv, r⟩ := ga.mem.obj n _ hn
      rw [ha3] at h1; cases h1
      refine ⟨a, vs, k, j, rfl, rfl, hv, by rw [ixN_eq, r.length]; exact hj, ?_⟩
      have rr := r.set_still (j := j) ga.rep
      have m4 := ga.mem.write ha3 rr
      have s4 := Stp.write ga.mem (o := .lst (vs.set j v)) ha3
      exact p3 σ _ (A3 ++ F) (ga.stp.trans s4) m4 ((re.step ga.stp).step s4)

/-! ### while -/
def Rch {α β : Type} (st : α → Option (Sum α β)) : Nat → α → β → Prop
  | 0, s, r => st s = some (.inr r)
  | n + 1, s, r => ∃ s', st s = some (.inl s') ∧ Rch st n s' r
theorem whileM_rch {α β : Type} {st : α → Option (Sum α β)} {s : α} {r : β} (h : whileM st s = some r) : ∃ n, Rch st n s r := by
  refine whileM.partial_correctness st (motive := fun s r => ∃ n, Rch st n s r) ?_ s r h
  intro f ih s r h
  cases hs : st s with
  | none => rw [hs] at h; cases h
  | some x =>
    rw [hs] at h
    cases x with
    | inr r' =>
      have e : r' = r := by simpa using h
      subst e
      exact ⟨0, hs⟩
    | inl s' =>
      obtain ⟨n, hn⟩ := ih s' r (by simpa using h)
      exact ⟨n + 1, s', hs, hn⟩
def whF (G : String → Option D) (call : String → List D → Store → Rs D) (c : C) (b : Ss) (p : Env × Store) : Option (Sum (Env × Store) Ou) := whS ((ev G call c p.1 p.2).ou p.1 (kWhT G call b p.1))
theorem ps_whileD {t : Expr} {body : List Stmt} {c : C} {b : Ss} {pos : Pos} (hp : PassesOwn (model X.prog X.w) X.A X.env X.xe) (ht : PT X t (Mp.tB X.K fa W G call c)) (hb : PSs X body (tSs X.K fa W G call b)) : PS X (.While t body [] pos) (tS X.K fa W G call (.wh c b)) := PS.imp (ps_while hp ht hb) fun Q σ H q => by
  obtain ⟨A0, ρ, μ, m0, re0, p⟩ := q
  rw [exec_wh] at p
  cases hw : whGo G call c b (ρ, μ) with
  | none => rw [hw] at p; exact p.elim
  | some o =>
    rw [hw] at p
    have p : PstS X.K fa W A0 H o Q := p
    obtain ⟨n, hn⟩ := whileM_rch hw
    refine ⟨fun m σ1 H1 => ∃ A1 ρ1 μ1, Stp A0 H A1 H1 ∧ RelM X.K fa H1 A1 μ1 ∧ RelE X.K fa H1 A1 ρ1 σ1 ∧ Rch (whF G call c b) m (ρ1, μ1) o, ⟨n, A0, ρ, μ, .refl, m0, re0, hn⟩, fun m σ1 H1 w => ?_⟩
    obtain ⟨A1, ρ1, μ1, s1, m1, re1, r1⟩ := w
    refine ⟨A1, ρ1, μ1, m1, re1, ?_⟩
    have nx : ∀ x, whF G call c b (ρ1, μ1) = some x → (∃ p', x = .inl p' ∧ ∃ m', m = m' + 1 ∧ Rch (whF G call c b) m' p' o) ∨ x = .inr o := by
      intro x hx
      cases m with
      | zero => exact .inr (Option.some.inj (hx.symm.trans r1))
      | succ m' =>
        obtain ⟨s', h1, h2⟩ := r1
        exact .inl ⟨s', Option.some.inj (hx.symm.trans h1), m', rfl, h2⟩
    have nn : whF G call c b (ρ1, μ1) ≠ none := by
      cases m with
      | zero => rw [show whF G call c b (ρ1, μ1) = _ from r1]; simp
      | succ m' =>
        obtain ⟨s', h1, h2⟩ := r1
        rw [h1]; simp
    have hW : whF G call c b (ρ1, μ1) = whS ((ev G call c ρ1 μ1).ou ρ1 (kWhT G call b ρ1)) := rfl
    cases hr : ev G call c ρ1 μ1 with
    | no => rw [hW, hr] at nn; exact absurd rfl nn
    | ex e μ2 =>
      rw [hW, hr] at nx
      rcases nx _ rfl with ⟨p', z, _⟩ | z
      · cases z
      · cases z
        exact fun cls dd H' A' s' r x => p cls dd σ1 H' A' (s1.trans s') r (re1.step s') x
    | ok d μ2 =>
      rw [hW, hr] at nx nn
      simp only [Rs.bnd_ok]
      simp only [Rs.ou_ok] at nx nn
      cases ht : truth μ2 d with
      | none => unfold kWhT at nn; rw [ht] at nn; exact absurd rfl nn
      | some bb =>
        refine fun H2 A2 s2 m2 => ?_
        unfold kWhT at nx nn
        rw [ht] at nx nn
        cases bb with
        | false =>
          rw [if_neg (by decide)]
          rcases nx _ rfl with ⟨p', z, _⟩ | z
          · cases z
          · cases z
            exact p σ1 H2 A2 (s1.trans s2) m2 (re1.step s2)
        | true =>
          rw [if_pos rfl]
          simp only at nx nn
          refine ⟨fun σ3 H3 => ∃ m', m' < m ∧ ∃ A1 ρ1 μ1, Stp A0 H A1 H3 ∧ RelM X.K fa H3 A1 μ1 ∧ RelE X.K fa H3 A1 ρ1 σ3 ∧ Rch (whF G call c b) m' (ρ1, μ1) o, fun σ' H' h => h, A2, ρ1, μ2, m2, re1.step s2, ?_⟩
          have s12 := s1.trans s2
          cases hx : execs G call b ρ1 μ2 with
          | no => rw [hx] at nn; exact absurd rfl nn
          | nx ρ3 μ3 =>
            rw [hx] at nx
            rcases nx _ rfl with ⟨p', z, m', em, rr⟩ | z
            · cases z
              exact fun σ' H' A' s' r e => ⟨m', by omega, A', ρ3, μ3, s12.trans s', r, e, rr⟩
            · cases z
          | ct ρ3 μ3 =>
            rw [hx] at nx
            rcases nx _ rfl with ⟨p', z, m', em, rr⟩ | z
            · cases z
              exact fun σ' H' A' s' r e => ⟨m', by omega, A', ρ3, μ3, s12.trans s', r, e, rr⟩
            · cases z
          | br ρ3 μ3 =>
            rw [hx] at nx
            rcases nx _ rfl with ⟨p', z, _⟩ | z
            · cases z
            · cases z
              exact fun σ' H' A' s' r e => p σ' H' A' (s12.trans s') r e
          | rt d3 μ3 =>
            rw [hx] at nx
            rcases nx _ rfl with ⟨p', z, _⟩ | z
            · cases z
            · cases z
              exact fun v H' A' F g => p v H' A' F (g.pre s12)
          | ex e3 ρ3 μ3 =>
            rw [hx] at nx
            rcases nx _ rfl with ⟨p', z, _⟩ | z
            · cases z
            · cases z
              exact fun cls dd σ' H' A' s' => p cls dd σ' H' A' (s12.trans s')

/-! ### for -/
theorem drop_of {α : Type} {l : List α} {i : Nat} {x : α} (h : l[i]? = some x) : l.drop i = x :: l.drop (i + 1) := by
  obtain ⟨hi, e⟩ := List.getElem?_eq_some_iff.mp h
  rw [← e]
  exact List.drop_eq_getElem_cons hi
theorem ps_forD {tg iter : Expr} {body : List Stmt} {it : C} {t : Tg} {b : Ss} {pos : Pos} (hp : PassesOwn (model X.prog X.w) X.A X.env X.xe) (hc : X.calm = true) (hi : PI X tg iter (tI G call X.K fa W it)) (hg : PG X tg (tG X.K fa t)) (hb : PSs X body (tSs X.K fa W G call b)) (hs : ∀ x, foldedSetIterable iter X.env x = pure x) :
    PS X (.For tg iter body [] pos) (tS X.K fa W G call (.for_ t it b)) := PS.imp (ps_for hp hc hi hg hb hs) fun Q σ H q => by
  obtain ⟨A0, ρ, μ, m0, re0, p⟩ := q
  rw [exec_for] at p
  refine ⟨A0, ρ, μ, m0, re0, ?_⟩
  cases hr : ev G call it ρ μ with
  | no => rw [hr] at p; exact p.elim
  | ex e μ2 => rw [hr] at p; exact fun cls dd H' A' s' r x => p cls dd σ H' A' s' r (re0.step s') x
  | ok s μ2 =>
    rw [hr] at p
    simp only [Rs.ou_ok] at p
    unfold kFor at p
    cases hx : items (settle s μ2).2 (settle s μ2).1 with
    | none => rw [hx] at p; exact p.elim
    | some xs =>
      rw [hx] at p
      refine ⟨xs, hx, fun H1 A1 J F s1 m1 src hF => ?_⟩
      generalize hs' : (settle s μ2).1 = s' at *
      refine ⟨fun i m σ1 H2 => m = xs.length - i ∧ i ≤ xs.length ∧ ∃ A2 ρ2 μ3, Stp A0 H A2 H2 ∧ RelM X.K fa H2 A2 μ3 ∧ RelE X.K fa H2 A2 ρ2 σ1 ∧ Src X.K fa J s' xs F A2 H2 ∧ PstS X.K fa W A0 H (forGo s' xs (forT G call t b) (xs.drop i) ρ2 μ3) Q, ⟨xs.length, by simp, Nat.zero_le _, A1, ρ, _, s1, m1, re0.step s1, src, by rw [List.drop_zero]; exact p⟩, fun i m σ1 H2 w => ?_⟩
      obtain ⟨rfl, hi, A2, ρ2, μ3, s2, m2, re2, src2, p2⟩ := w
      obtain ⟨sF, P, hP, hP2, hP3⟩ := src2
      have ok : srcOk μ3 s' xs = true := by
        cases hk : srcOk μ3 s' xs with
        | true => rfl
        | false => cases hd : xs.drop i <;> (rw [hd] at p2; simp [forGo, hk, PstS] at p2)
      obtain ⟨h1, h2⟩ := hP3 A2 H2 μ3 hP m2 ok i
      cases hd : xs[i]? with
      | none =>
        have hl : xs.length ≤ i := List.getElem?_eq_none_iff.mp hd
        refine .inl ⟨h2 hl, ?_⟩
        rw [List.drop_eq_nil_of_le hl] at p2
        simp only [forGo, ok, if_true] at p2
        exact p2 σ1 H2 A2 s2 m2 re2
      | some d =>
        obtain ⟨h1, h3⟩ := h1 d hd
        have hlt : i < xs.length := (List.getElem?_eq_some_iff.mp hd).1
        refine .inr ⟨h1, fun σ3 H3 => i + 1 ≤ xs.length ∧ ∃ A2 ρ2 μ3, Stp A0 H A2 H3 ∧ RelM X.K fa H3 A2 μ3 ∧ RelE X.K fa H3 A2 ρ2 σ3 ∧ Src X.K fa J s' xs F A2 H3 ∧ PstS X.K fa W A0 H (forGo s' xs (forT G call t b) (xs.drop (i + 1)) ρ2 μ3) Q, fun σ' H' hN => ⟨xs.length - (i + 1), by omega, rfl, hN⟩, fun x H3 y => ?_⟩
        obtain ⟨s3, m3, r3⟩ := h3 x H3 y
        rw [drop_of hd] at p2
        simp only [forGo, ok, if_true] at p2
        rw [forT_eq] at p2
        cases hb : bindT t d ρ2 μ3 with
        | none => rw [hb] at p2; exact p2.elim
        | some r =>
          rw [hb] at p2
          simp only at p2
          refine ⟨A2, ρ2, μ3, d, [], r.1, r.2, m3, re2.step s3, r3, List.nodup_nil, by simp, hb, fun σ4 A4 ⟨N, eN, hN⟩ m4 re4 _ => ?_⟩
          have : N = [] := by
            cases N with
            | nil => rfl
            | cons a N => exact absurd (hN a (by simp)) (by simp)
          subst this
          rw [List.append_nil] at eN
          subst eN
          refine ⟨A4, r.1, r.2, m4, re4, ?_⟩
          have s23 := s2.trans s3
          have src3 : Src X.K fa J s' xs F A4 H3 := Src.step ⟨sF, P, hP, hP2, hP3⟩ s3
          cases he : execs G call b r.1 r.2 with
          | no => rw [he] at p2; exact p2
          | nx ρ5 μ5 => rw [he] at p2; exact fun σ' H' A' s' r e => ⟨hlt, A', ρ5, μ5, s23.trans s', r, e, src3.step s', p2⟩
          | ct ρ5 μ5 => rw [he] at p2; exact fun σ' H' A' s' r e => ⟨hlt, A', ρ5, μ5, s23.trans s', r, e, src3.step s', p2⟩
          | br ρ5 μ5 => rw [he] at p2; exact fun σ' H' A' s' r e => p2 σ' H' A' (s23.trans s') r e
          | rt d5 μ5 => rw [he] at p2; exact fun v H' A' F g => p2 v H' A' F (g.pre s23)
          | ex e5 ρ5 μ5 => rw [he] at p2; exact fun cls dd σ' H' A' s' => p2 cls dd σ' H' A' (s23.trans s')
end
end Mp
end SSnd13
section SSnd14
/-! Snd14: every statement that is matched is sound. -/
namespace Mp
open PySem PySem.Spec PyProof.Rows L2

def noCompB : Expr → Bool
  | .ListComp .. => false
  | .SetComp .. => false
  | .DictComp .. => false
  | _ => true
theorem noComp_sw {e : Expr} {t : Option Expr} {l : Nat} {env : PySem.Env} (h : noCompB e = true) : swapsWith e t l env = pure false := by
  cases e <;> first | rfl | cases h
/-- the comprehension's list goes under the name at once -/
def swB (sc : Scope) (y : Str) (py : Pos) (scope : Scope) (pos : Pos) : Bool := decide (sc.names.lookup y = some .local) && (py.line == pos.line) && !(scope.names.any fun (n, k) => n == y && (k == .local || k == .cell))
def namesOn (sc : Scope) (line : Nat) (ts : List Expr) : List Str := ts.filterMap fun
    | .Name id pos => if sc.names.lookup id == some .local && pos.line == line then some id else none
    | _ => none
/-- the names that a tuple's parts are put under from the right; none at the outside: not told -/
def swP (sc : Scope) (ts vs : List Expr) : Option (Option (List Str)) :=
  if (!(ts.length == 2 || ts.length == 3) || vs.length != ts.length) = true then some none else
  if (vs.any fun | .Starred .. => true | _ => false) = true then some none else
  if ((namesOn sc ((ts.head?.map (·.pos.line)).getD 0) ts).length != ts.length || (namesOn sc ((ts.head?.map (·.pos.line)).getD 0) ts).eraseDups.length != (namesOn sc ((ts.head?.map (·.pos.line)).getD 0) ts).length) = true then some none else
  if vs.all (foldedForSure 8) = true then some none else
  if vs.all (constantsAlone 8) = true then none else some (some (namesOn sc ((ts.head?.map (·.pos.line)).getD 0) ts))
theorem swP_ok {sc : Scope} {ts vs : List Expr} {r : Option (List Str)} {k k2 : Nat} {p p2 : Pos} {env : PySem.Env} (hk : env.scope.kind = .function) (he : env.scope = sc) (h : swP sc ts vs = some r) : swappedStores [.Tuple ts k p] (.Tuple vs k2 p2) env = pure r := by
  subst he
  have hb : env.blockKind = .function := by unfold Env.blockKind; rw [hk]; rfl
  unfold swP at h
  unfold swappedStores
  simp only [hb]
  have e1 : (ScopeKind.function != ScopeKind.function) = false := rfl
  rw [e1, Bool.or_false]
  split at h
  · rename_i h1
    cases h
    rw [if_pos h1]
  · rename_i h1
    rw [if_neg h1]
    split at h
    · rename_i h2
      cases h
      exact if_pos h2
    · rename_i h2
      refine (if_neg h2).trans ?_
      split at h
      · rename_i h3
        cases h
        exact if_pos h3
      · rename_i h3
        refine (if_neg h3).trans ?_
        split at h
        · rename_i h4
          cases h
          exact if_pos h4
        · rename_i h4
          refine (if_neg h4).trans ?_
          split at h
          · cases h
          · rename_i h5
            cases h
            exact if_neg h5
def isLoc (sc : Scope) (x : Str) : Bool := decide (sc.names.lookup x = some .local)
def parB (sc : Scope) : Tg → List Expr → List Expr → List Str → Bool
  | .t [.v i, .v j], [.Name x _, .Name y _], [_, _], ns => decide (ns = [x, y]) && decide (i ≠ j) && isLoc sc x && isLoc sc y
  | .t [.v i, .v j, .v k], [.Name x _, .Name y _, .Name z _], [_, _, _], ns => decide (ns = [x, y, z]) && decide (i ≠ j) && decide (i ≠ k) && decide (j ≠ k) && isLoc sc x && isLoc sc y && isLoc sc z
  | _, _, _, _ => false
def asgB (sc : Scope) (t : Tg) : Expr → Expr → Bool
  | .Name y py, .ListComp _ _ _ _ => true
  | .Name _ _, .SetComp .. => false
  | .Name _ _, .DictComp .. => false
  | .Name _ _, _ => true
  | .Tuple ts _ _, .Tuple vs _ _ => match swP sc ts vs with
    | some none => true
    | some (some ns) => parB sc t ts vs ns
    | none => false
  | .Tuple .., _ => true
  | _, _ => false
def stB (N : List Str) (fs : List String) (sc : Scope) (a i : C) : List Expr → Bool
  | [.Subscript a' i' _] => mE N fs sc a a' && mE N fs sc i i' && plainIxB i'
  | _ => false
mutual
def mS (N : List Str) (fs : List String) (sc : Scope) : S → Stmt → Bool
  | .expr e, .Expr e' _ => mE N fs sc e e' && noCompB e'
  | .set t e, .Assign [tg] e' _ => mTg N sc t tg && mE N fs sc e e' && asgB sc t tg e'
  | .aug i op e, .AugAssign (.Name x _) op' e' _ => decide (N[i]? = some x) && locB sc x && decide (op' = opB op) && mE N fs sc e e'
  | .seti a i e, .Assign tgs e' _ => stB N fs sc a i tgs && mE N fs sc e e'
  | .ret e, .Return (some e') _ => mE N fs sc e e'
  | .ret (.lit .non), .Return none _ => true
  | .ite c a b, .If c' a' b' _ => mE N fs sc c c' && mSs N fs sc a a' && mSs N fs sc b b'
  | .wh c b, .While c' b' [] _ => mE N fs sc c c' && mSs N fs sc b b'
  | .for_ t it b, .For t' it' b' [] _ => mTg N sc t t' && mI N fs sc it it' && setB it' && mSs N fs sc b b'
  | .brk, .Break _ => true
  | .cont, .Continue _ => true
  | .pass, .Pass _ => true
  | _, _ => false
def mSs (N : List Str) (fs : List String) (sc : Scope) : Ss → List Stmt → Bool
  | .nil, [] => true
  | .cons s r, st :: rest => mS N fs sc s st && mSs N fs sc r rest
  | _, _ => false
end
/-- what holds of a def's own context -/
structure Fc (X : Cx) : Prop where
  kind : X.env.scope.kind = .function
  fn : ∀ x, X.fn x = true
  pass : PassesOwn (model X.prog X.w) X.A X.env X.xe

section
variable {fa : String → Option Addr} {G : String → Option D} {call : String → List D → Store → Rs D} {k : Nat} {fs : List String}
theorem mI_pi {X : Cx} {W : WX} {it : C} {tg' it' : Expr} (hC : Cn X G call k fa fs W) (h6 : mI X.N fs X.env.scope it it' = true) : PI X tg' it' (tI G call X.K fa W it) := by
  unfold mI at h6
  rw [Bool.or_eq_true] at h6
  rcases h6 with h6 | h6
  · cases it with
    | rng1 a =>
      cases it' with
      | Call g es kws pos =>
        cases g with
        | Name x p =>
          match es, kws, h6 with
          | [a'], [], h6 =>
            have h6' : ((x = ("range" : Str) ∧ glB X.env.scope x = true) ∧ mE X.N fs X.env.scope a a' = true) ∧ starB a' = true := by simpa [mR] using h6
            exact pi_rng1D hC h6'.1.1.1 h6'.1.1.2 h6'.2 (sndE a hC h6'.1.2).1
          | [], _, h6 => simp [mR] at h6
          | [_], _ :: _, h6 => simp [mR] at h6
          | _ :: _ :: _, _, h6 => simp [mR] at h6
        | _ => simp [mR] at h6
      | _ => simp [mR] at h6
    | rng2 a b =>
      cases it' with
      | Call g es kws pos =>
        cases g with
        | Name x p =>
          match es, kws, h6 with
          | [a', b'], [], h6 =>
            have h6' : ((((x = ("range" : Str) ∧ glB X.env.scope x = true) ∧ mE X.N fs X.env.scope a a' = true) ∧ mE X.N fs X.env.scope b b' = true) ∧ starB a' = true) ∧ starB b' = true := by simpa [mR] using h6
            exact pi_rng2D hC h6'.1.1.1.1.1 h6'.1.1.1.1.2 h6'.1.2 h6'.2 (sndE a hC h6'.1.1.1.2).1 (sndE b hC h6'.1.1.2).1
          | [], _, h6 => simp [mR] at h6
          | [_], _, h6 => simp [mR] at h6
          | [_, _], _ :: _, h6 => simp [mR] at h6
          | _ :: _ :: _ :: _, _, h6 => simp [mR] at h6
        | _ => simp [mR] at h6
      | _ => simp [mR] at h6
    | _ => cases it' <;> simp [mR] at h6
  · exact pi_any (sndE it hC h6).1
/-- name = [..] -/
theorem ps_setLcD {X : Cx} {W : WX} {e : C} {i : Nat} {y : Str} {py pos : Pos} {elt : Expr} {gens : List Comprehension} {scope : Scope} {lpos : Pos} (hC : Cn X G call k fa fs W) (hF : Fc X) (hi : X.N[i]? = some y) (hyl : locB X.env.scope y = true) (h : mE X.N fs X.env.scope e (.ListComp elt gens scope lpos) = true) :
    PS X (.Assign [.Name y py] (.ListComp elt gens scope lpos) pos) (tS X.K fa W G call (.set (.v i) e)) := by
  have hb : X.env.blockKind = .function := by unfold Env.blockKind; rw [hF.kind]; rfl
  by_cases hsw : swB X.env.scope y py scope lpos = true
  · have hsw' : (X.env.scope.names.lookup y = some .local ∧ (py.line == lpos.line) = true) ∧ (scope.names.any fun (n, k) => n == y && (k == .local || k == .cell)) = false := by
      unfold swB at hsw
      rw [Bool.and_eq_true, Bool.and_eq_true, Bool.not_eq_true', decide_eq_true_eq] at hsw
      exact hsw
    cases e with
    | lc e tg own it ifs =>
      match gens, h with
      | [⟨tg', it', ifs', ia⟩], h =>
        have hia := mE_lcA h
        subst hia
        have h' : ((((((blkC X.N X.env.scope scope (own.map fun p => ((p.1 : Str), p.2)) = true ∧ mE X.N fs (relS scope X.env.scope) e elt = true) ∧ mTg X.N scope tg tg' = true) ∧
            (∀ i ∈ tg.slots, i ∈ own.map (·.2))) ∧ setB it' = true) ∧ mI X.N fs X.env.scope it it' = true) ∧ mEs X.N fs (relS scope X.env.scope) ifs ifs' = true) ∧ ifs'.length ≤ 1 := by
          have h0 : (blkC X.N X.env.scope scope (own.map fun p => ((p.1 : Str), p.2)) && mE X.N fs (relS scope X.env.scope) e elt && mTg X.N scope tg tg' &&
            (tg.slots.all fun i => (own.map (·.2)).contains i) && setB it' && mI X.N fs X.env.scope it it' && mEs X.N fs (relS scope X.env.scope) ifs ifs' && decide (ifs'.length ≤ 1)) = true := by rw [← mE_lc lpos]; exact h
          simp only [Bool.and_eq_true, List.all_eq_true, List.contains_iff_mem, decide_eq_true_eq] at h0
          exact h0
        obtain ⟨⟨⟨⟨⟨⟨⟨h1, h2⟩, h3⟩, h4⟩, h5⟩, h6⟩, h7⟩, h8⟩ := h'
        have hv : (own.map fun p => ((p.1 : Str), p.2)).map (·.2) = own.map (·.2) := by rw [List.map_map]; rfl
        have pl := ps_setLc (spos := pos) (i := i) (y := y) (py := py) (pos := lpos) (own := own.map fun p => ((p.1 : Str), p.2)) (g := tG X.K fa tg) (tt := tIfs X.K fa (fun _ _ _ _ => False) G call ifs) (te := tD X.K fa (fun _ _ _ _ => False) G call e) hC.calm hC.nd hi hsw'.1.1
          (sw_true hF.kind hsw'.1.1 hsw'.1.2 hsw'.2) (mI_pi (W := W) hC h6) (blkOk_by h1)
          (fun s H C cl fp => pg_ok (X := X.blk s H scope (compEnvC scope cl C X.env) fp) (fa := fa) hC.nd hC.calm (sc := scope) blk_kind tg tg' h3)
          (fun s H C cl fp => sndIfs ifs (X := X.blk s H scope (compEnvC scope cl C X.env) fp) (hC.blk ..) h7 h8)
          (fun s H C cl fp => (sndE e (X := X.blk s H scope (compEnvC scope cl C X.env) fp) (hC.blk ..) h2).1) (set_fold h5)
        rw [hv] at pl
        refine PS.imp pl fun Q σ H q => ?_
        obtain ⟨A, ρ, μ, m, re, q⟩ := q
        refine lc_ok (tt := fun _ _ _ => True) (te := fun _ _ _ => True) h4 ?_
        refine ⟨A, ρ, μ, m, re, (PstS.ou .refl re q).mono fun v H1 ⟨A1, d, μ1, F, g, p1⟩ => ?_⟩
        have g' := g.alloc
        exact p1 _ H1 (A1 ++ F) g'.stp g'.mem ((re.step g'.stp).set g'.rep)
      | [], h => simp [mE] at h
      | _ :: _ :: _, h => simp [mE] at h
    | _ => simp [mE] at h
  · have hs : swapsWith (.ListComp elt gens scope lpos) (some (.Name y py)) pos.line X.env = pure false := by
      have e0 : swB X.env.scope y py scope lpos = false := by simpa using hsw
      have e1 : ((X.env.kindOf y == some .local) = decide (X.env.scope.names.lookup y = some .local)) := by
        show (X.env.scope.names.lookup y == some .local) = _
        cases X.env.scope.names.lookup y with
        | none => rfl
        | some k => cases k <;> rfl
      unfold swapsWith
      simp only [hb]
      show pure ((ScopeKind.function == ScopeKind.function && X.env.kindOf y == some .local && py.line == lpos.line) && !(scope.names.any fun (n, k) => n == y && (k == .local || k == .cell))) = _
      rw [e1]
      unfold swB at e0
      rw [show (ScopeKind.function == ScopeKind.function) = true from rfl, Bool.true_and, e0]
    exact ps_setD (sndE e hC h).1 (pg_ok hC.nd hC.calm (sc := X.env.scope) (fun x h => ⟨locB_ok h, .inl (hF.fn x)⟩) (.v i) (.Name y py) (by simp [mTg, hi, hyl])) hs (by rfl) (by rfl)
theorem tup_sole {ts : List Expr} {e : Expr} {k : Nat} {p : Pos} {l : Nat} {env : PySem.Env} : swapsWithSole [.Tuple ts k p] e l env = pure false := by cases e <;> rfl
theorem par_go {X : Cx} {W : WX} {l : Cs} {kt k2 : Nat} {pt p2 pos : Pos} (hC : Cn X G call k fa fs W) : ∀ {t : Tg} {ts vs : List Expr} {ns : List Str}, mTg X.N X.env.scope t (.Tuple ts kt pt) = true → PA X vs (tL X.K fa W G call l) → swappedStores [.Tuple ts kt pt] (.Tuple vs k2 p2) X.env = pure (some ns) → parB X.env.scope t ts vs ns = true →
    PS X (.Assign [.Tuple ts kt pt] (.Tuple vs k2 p2) pos) (tS X.K fa W G call (.set t (.tup l))) := by
  intro t ts vs ns h1 pa hw h3
  unfold parB at h3
  split at h3
  · rename_i q1 q2 q3
    simp only [isLoc, Bool.and_eq_true, decide_eq_true_eq] at h3
    obtain ⟨⟨⟨rfl, hij⟩, hx⟩, hy⟩ := h3
    simp [mTg, mTgs] at h1
    exact ps_par2D hC.calm hC.nd h1.2.1.1 h1.2.2.1 hij hx hy pa hw
  · simp only [isLoc, Bool.and_eq_true, decide_eq_true_eq] at h3
    obtain ⟨⟨⟨⟨⟨⟨rfl, hij⟩, hik⟩, hjk⟩, hx⟩, hy⟩, hz⟩ := h3
    simp [mTg, mTgs] at h1
    exact ps_par3D hC.calm hC.nd h1.2.1.1 h1.2.2.1.1 h1.2.2.2.1 hij hik hjk hx hy hz pa hw
  · cases h3
theorem snd_set (t : Tg) (e : C) {X : Cx} {W : WX} {st : Stmt} (hC : Cn X G call k fa fs W) (hF : Fc X) (h : mS X.N fs X.env.scope (.set t e) st = true) : PS X st (tS X.K fa W G call (.set t e)) := by
    cases st with
    | Assign tgs e' pos =>
      match tgs, h with
      | [tg], h =>
        have h' : (mTg X.N X.env.scope t tg = true ∧ mE X.N fs X.env.scope e e' = true) ∧ asgB X.env.scope t tg e' = true := by simpa [mS] using h
        obtain ⟨⟨h1, h2⟩, h3⟩ := h'
        have pe := (sndE e hC h2).1
        have pg := pg_ok (fa := fa) hC.nd hC.calm (sc := X.env.scope) (fun x h => ⟨locB_ok h, .inl (hF.fn x)⟩) t tg h1
        cases tg with
        | Name y py =>
          by_cases hnc : noCompB e' = true
          · exact ps_setD pe pg (by show swapsWith e' (some (.Name y py)) pos.line X.env = _; exact noComp_sw hnc) (by rfl) (by rfl)
          · cases e' with
            | ListComp elt gens scope lpos =>
              cases t with
              | v i =>
                have h1' : X.N[i]? = some y ∧ locB X.env.scope y = true := by simpa [mTg] using h1
                exact ps_setLcD hC hF h1'.1 h1'.2 h2
              | t l => simp [mTg] at h1
            | SetComp _ _ _ _ => simp [asgB] at h3
            | DictComp _ _ _ _ _ => simp [asgB] at h3
            | _ => simp [noCompB] at hnc
        | Tuple ts kt pt =>
          cases e' with
          | Tuple vs k2 p2 =>
            simp only [asgB] at h3
            cases hsw : swP X.env.scope ts vs with
            | none => rw [hsw] at h3; cases h3
            | some r =>
              rw [hsw] at h3
              have hw := swP_ok (k := kt) (k2 := k2) (p := pt) (p2 := p2) hF.kind rfl hsw
              cases r with
              | none => exact ps_setD pe pg tup_sole hw (by rfl)
              | some ns =>
                simp only at h3
                cases e with
                | tup l =>
                  have h2' : mEs X.N fs X.env.scope l vs = true ∧ l.len ≤ 1000 := by simpa [mE] using h2
                  have pa := sndL l hC h2'.1
                  exact par_go hC h1 pa hw h3
                | _ => simp [mE] at h2
          | _ => exact ps_setD pe pg tup_sole (by rfl) (by rfl)
        | _ => cases t <;> simp [mTg] at h1
      | [], h => simp [mS] at h
      | _ :: _ :: _, h => simp [mS] at h
    | _ => simp [mS] at h
theorem snd_seti (a i e : C) {X : Cx} {W : WX} {st : Stmt} (hC : Cn X G call k fa fs W) (hF : Fc X) (h : mS X.N fs X.env.scope (.seti a i e) st = true) : PS X st (tS X.K fa W G call (.seti a i e)) := by
  cases st with
  | Assign tgs e' pos =>
    have h' : stB X.N fs X.env.scope a i tgs = true ∧ mE X.N fs X.env.scope e e' = true := by simpa [mS] using h
    obtain ⟨h1, h2⟩ := h'
    unfold stB at h1
    split at h1
    · simp only [Bool.and_eq_true] at h1
      exact ps_setiD (sndE e hC h2).1 (sndE a hC h1.1.1).1 (sndE i hC h1.1.2).1 h1.2
    · cases h1
  | _ => simp [mS] at h
theorem snd_aug (i : Nat) (op : BinK) (e : C) {X : Cx} {W : WX} {st : Stmt} (hC : Cn X G call k fa fs W) (hF : Fc X) (h : mS X.N fs X.env.scope (.aug i op e) st = true) : PS X st (tS X.K fa W G call (.aug i op e)) := by
    cases st with
    | AugAssign tg op' e' pos =>
      cases tg with
      | Name x px =>
        have h' : ((X.N[i]? = some x ∧ locB X.env.scope x = true) ∧ op' = opB op) ∧ mE X.N fs X.env.scope e e' = true := by simpa [mS] using h
        obtain ⟨⟨⟨h1, h2⟩, rfl⟩, h3⟩ := h'
        exact ps_augD hC.nd h1 (locB_ok h2) (sndE e hC h3).1 (.inl (hF.fn x))
      | _ => simp [mS] at h
    | _ => simp [mS] at h
theorem snd_ret (e : C) {X : Cx} {W : WX} {st : Stmt} (hC : Cn X G call k fa fs W) (hF : Fc X) (h : mS X.N fs X.env.scope (.ret e) st = true) : PS X st (tS X.K fa W G call (.ret e)) := by
    cases st with
    | Return v pos =>
      cases v with
      | some e' => exact ps_retD (sndE e hC (by simpa [mS] using h)).1
      | none =>
        cases e with
        | lit d => cases d <;> first | exact ps_retND | simp [mS] at h
        | _ => simp [mS] at h
    | _ => simp [mS] at h
theorem snd_expr (e : C) {X : Cx} {W : WX} {st : Stmt} (hC : Cn X G call k fa fs W) (hF : Fc X) (h : mS X.N fs X.env.scope (.expr e) st = true) : PS X st (tS X.K fa W G call (.expr e)) := by
    cases st with
    | Expr e' pos =>
      have h' : mE X.N fs X.env.scope e e' = true ∧ noCompB e' = true := by simpa [mS] using h
      exact ps_exprD (sndE e hC h'.1).1 (noComp_sw h'.2)
    | _ => simp [mS] at h
mutual
theorem sndS : ∀ (c : S) {X : Cx} {W : WX} {st : Stmt}, Cn X G call k fa fs W → Fc X → mS X.N fs X.env.scope c st = true → PS X st (tS X.K fa W G call c)
  | .expr e, X, W, st, hC, hF, h => snd_expr e hC hF h
  | .set t e, X, W, st, hC, hF, h => snd_set t e hC hF h
  | .aug i op e, X, W, st, hC, hF, h => snd_aug i op e hC hF h
  | .seti a i e, X, W, st, hC, hF, h => snd_seti a i e hC hF h
  | .ret e, X, W, st, hC, hF, h => snd_ret e hC hF h
  | .ite c a b, X, W, st, hC, hF, h => by
    cases st with
    | If c' a' b' pos =>
      have h' : (mE X.N fs X.env.scope c c' = true ∧ mSs X.N fs X.env.scope a a' = true) ∧ mSs X.N fs X.env.scope b b' = true := by simpa [mS] using h
      exact ps_ifD (sndE c hC h'.1.1).2 (sndSs a hC hF h'.1.2) (sndSs b hC hF h'.2)
    | _ => simp [mS] at h
  | .wh c b, X, W, st, hC, hF, h => by
    cases st with
    | While c' b' o pos =>
      cases o with
      | nil =>
        have h' : mE X.N fs X.env.scope c c' = true ∧ mSs X.N fs X.env.scope b b' = true := by simpa [mS] using h
        exact ps_whileD hF.pass (sndE c hC h'.1).2 (sndSs b hC hF h'.2)
      | cons _ _ => simp [mS] at h
    | _ => simp [mS] at h
  | .for_ t it b, X, W, st, hC, hF, h => by
    cases st with
    | For t' it' b' o pos =>
      cases o with
      | nil =>
        have h' : ((mTg X.N X.env.scope t t' = true ∧ mI X.N fs X.env.scope it it' = true) ∧ setB it' = true) ∧ mSs X.N fs X.env.scope b b' = true := by simpa [mS] using h
        exact ps_forD hF.pass hC.calm (mI_pi hC h'.1.1.2) (pg_ok hC.nd hC.calm (sc := X.env.scope) (fun x h => ⟨locB_ok h, .inl (hF.fn x)⟩) t t' h'.1.1.1) (sndSs b hC hF h'.2) (set_fold h'.1.2)
      | cons _ _ => simp [mS] at h
    | _ => simp [mS] at h
  | .brk, X, W, st, hC, hF, h => by
    cases st with
    | Break _ => exact ps_brkD
    | _ => simp [mS] at h
  | .cont, X, W, st, hC, hF, h => by
    cases st with
    | Continue _ => exact ps_contD
    | _ => simp [mS] at h
  | .pass, X, W, st, hC, hF, h => by
    cases st with
    | Pass _ => exact ps_passD
    | _ => simp [mS] at h
theorem sndSs : ∀ (c : Ss) {X : Cx} {W : WX} {sts : List Stmt}, Cn X G call k fa fs W → Fc X → mSs X.N fs X.env.scope c sts = true → PSs X sts (tSs X.K fa W G call c)
  | .nil, X, W, [], _, _, _ => pss_nilD
  | .nil, X, W, _ :: _, _, _, h => by simp [mSs] at h
  | .cons s r, X, W, [], _, _, h => by simp [mSs] at h
  | .cons s r, X, W, st :: rest, hC, hF, h => by
    have h' : mS X.N fs X.env.scope s st = true ∧ mSs X.N fs X.env.scope r rest = true := by simpa [mSs] using h
    exact pss_consD (sndS s hC hF h'.1) (sndSs r hC hF h'.2)
end
end
end Mp
end SSnd14
section SSnd15
/-! Snd15: every def that is matched keeps the interpreter's promise. -/
namespace Mp
open PySem PySem.Spec PyProof.Rows L2

def nm (l : List String) : List Str := l.map Str.ofString
def FnF.ps (F : Fn) : List Str := nm (F.names.take F.np)
structure FnF (K : PySem.W.Frag) (fa : String → Option Addr) (fs : List String) (F : Fn) (a : Addr) (fd : FuncData) (qual : Str) (st : Stmt) : Prop where
  ad : fa F.name = some a
  fu : Fun K (F.name : Str) qual st a fd
  sc : FnScope (nm F.names) (FnF.ps F) (defScope st)
  bd : Binds K fd (FnF.ps F) []
  mt : mSs (nm F.names) fs (defScope st) F.body (defBody st) = true
  np : F.np ≤ F.names.length
structure PrF (Pg : Prog) (K : PySem.W.Frag) (mg : Str → Option Value) (fa : String → Option Addr) (fs : List String) : Prop where
  fn : ∀ f F, Pg.fn f = some F → ∃ a fd qual st, FnF K fa fs F a fd qual st
  at_ : ∀ x a, fa x = some a → mg (x : Str) = some (.ref a)
  glob : ∀ x d, Pg.G x = some d → ∃ v u, mg (x : Str) = some u ∧ RelV v u ∧ ∀ H A, Rep K fa H A v d []
  blt : ∀ b ∈ bnames, mg (b : Str) = none
  fsn : ∀ f ∈ fs, ∃ F, Pg.fn f = some F
theorem Prog.fn_name {P : Prog} {f : String} {F : Fn} (h : P.fn f = some F) : F.name = f := by
  have := List.find?_some h
  simpa using this
section
variable {Pg : Prog} {P : Program} {w : World} {K : PySem.W.Frag} {mg : Str → Option Value} {base : Heap} {fa : String → Option Addr} {fs : List String}
theorem RelE.start {H : Hp} {A : List Addr} {vs : List V} {ds : List D} (n : Nat) (r : Reps K fa H A vs ds []) : RelE K fa H A (ds.map some ++ List.replicate n none) (vs.map some ++ List.replicate n none) := by
  refine ⟨by simp [r.length], fun i d h => ?_⟩
  by_cases hi : i < ds.length
  · rw [List.getElem?_append_left (by simpa using hi)] at h
    rw [List.getElem?_map] at h
    cases hd : ds[i]? with
    | none => rw [hd] at h; cases h
    | some d' =>
      rw [hd] at h
      cases h
      obtain ⟨v, F1, h1, h2, h3⟩ := r.get hd
      have e := List.sublist_nil.mp h3
      subst e
      refine ⟨v, ?_, h2⟩
      rw [List.getElem?_append_left (by simpa [r.length] using hi), List.getElem?_map, h1]
      rfl
  · rw [List.getElem?_append_right (by simpa using hi)] at h
    rw [List.getElem?_replicate] at h
    split at h <;> cases h
theorem fns_ok (hp : PrF Pg K mg fa fs) : ∀ (k : Nat) (f : String) (F : Fn) (a : Addr) (fd : FuncData) (qual : Str) (st : Stmt), Pg.fn f = some F → FnF K fa fs F a fd qual st →
    FnOk P w K mg base (L2.CX P w) k a fd (FnF.ps F) (spI K fa (FnF.ps F).length (callN Pg k f))
  | 0, f, F, a, fd, qual, st, hf, hF => by
    have no : ∀ vs H Q E, ¬ spI K fa (FnF.ps F).length (callN Pg 0 f) vs H Q E := by
      intro vs H Q E h
      obtain ⟨A, μ, ds, _, _, _, h⟩ := h
      simp [callN] at h
    exact ⟨fun vs H Q E h => (no _ _ _ _ h).elim, fun _ _ _ _ _ _ _ _ _ _ _ _ _ h => (no _ _ _ _ h).elim⟩
  | k + 1, f, F, a, fd, qual, st, hf, hF => by
    refine hF.fu.okX hF.sc (fun vs H Q E h => ?_) fun cdv A0 outer s H vs Q E hr h => ?_
    · obtain ⟨A, μ, ds, _, r, hl, _⟩ := h
      rw [r.length]; exact hl
    · obtain ⟨A, μ, ds, m, r, hl, h⟩ := h
      refine ⟨tSs K fa (fun cls d _ H => E cls d H) Pg.G (callN Pg k) F.body, ?_, A, ds.map some ++ List.replicate (F.names.length - F.np) none, μ, m, ?_, ?_⟩
      · refine sndSs (k := k) (fs := fs) F.body (X := cxOf (L2.CX P w) P w K mg base (nm F.names) qual (defScope st) a cdv A0 outer s H E) ⟨hF.sc.nd, rfl, hr, takes_of rfl rfl rfl rfl, hp.at_, hp.glob, fun g hg => ?_, hp.blt⟩ ⟨hF.sc.kind, fun _ => rfl, passes_of rfl⟩ hF.mt
        obtain ⟨F', hF'⟩ := hp.fsn g hg
        obtain ⟨a', fd', qual', st', h'⟩ := hp.fn g F' hF'
        refine ⟨a', fd', FnF.ps F', ?_, h'.fu.kp, h'.bd, fns_ok hp k g F' a' fd' qual' st' hF' h', fun ds μ hn => ?_⟩
        · rw [← Prog.fn_name hF']; exact h'.ad
        · cases k with
          | zero => exact absurd rfl hn
          | succ k =>
            simp only [callN, hF'] at hn
            split at hn
            · rename_i hc
              rw [hc.1]
              simp [FnF.ps, nm, List.length_take, Nat.min_eq_left h'.np]
            · exact absurd rfl hn
      · have hn : (FnF.ps F).length = F.np := by simp [FnF.ps, nm, List.length_take, Nat.min_eq_left hF.np]
        have e : L2.start (nm F.names) vs = vs.map some ++ List.replicate (F.names.length - F.np) none := by
          unfold L2.start
          rw [r.length, hl, hn]
          simp [nm]
        rw [e]
        exact RelE.start _ r
      · have hc : ds.length = F.np ∧ D.stills ds = true := ⟨by rw [hl]; simp [FnF.ps, nm, List.length_take, Nat.min_eq_left hF.np], r.isStill rfl⟩
        simp only [callN, hf] at h
        rw [if_pos hc] at h
        cases hx : execs Pg.G (callN Pg k) F.body (ds.map some ++ List.replicate (F.names.length - F.np) none) μ with
        | no => rw [hx] at h; exact h
        | br ρ' μ' => rw [hx] at h; exact h.elim
        | ct ρ' μ' => rw [hx] at h; exact h.elim
        | nx ρ' μ' =>
          rw [hx] at h
          simp only at h
          intro σ' H' A' s' m' re'
          obtain ⟨d', μ'', A'', F', e, g⟩ := fin_ok (R := fin μ .non μ') rfl m (⟨s', m', .non, List.nodup_nil, by simp⟩ : Good K fa A H μ' .non .non H' A' []) (let ⟨N, e, _⟩ := s'.pre; ⟨N, e⟩) ⟨[], by simp⟩
          rw [e] at h
          have nn : V.non = V.non := rfl
          exact h .non H' A'' F' g
        | rt d μ' =>
          rw [hx] at h
          simp only at h
          intro v H' A' F0 g0
          obtain ⟨d', μ'', A'', F', e, g⟩ := fin_ok (R := fin μ d μ') rfl m g0 (let ⟨N, e, _⟩ := g0.stp.pre; ⟨N, e⟩) ⟨[], by simp⟩
          rw [e] at h
          exact h v H' A'' F' g
        | ex e ρ' μ' =>
          rw [hx] at h
          simp only at h
          intro cls dd σ' H' A' s' m' re' x
          obtain ⟨μ'', A'', e1, s2, m2⟩ := finX_ok (R := finX μ e μ') rfl m s' m' (let ⟨N, e, _⟩ := s'.pre; ⟨N, e⟩) ⟨[], by simp⟩
          rw [e1] at h
          exact h cls dd H' A'' s2 m2 trivial
end
end Mp
end SSnd15
section SSnd16
/-! Snd16: from the interpreter's answer to a law's promise. -/
namespace Mp
open PySem PySem.Spec PyProof.Rows L2

def tabf (tab : List (String × Addr)) (x : String) : Option Addr := tab.lookup x
theorem lookup_mem {α β : Type} [BEq α] [LawfulBEq α] {l : List (α × β)} {x : α} {b : β} (h : l.lookup x = some b) : (x, b) ∈ l := by
  induction l with
  | nil => cases h
  | cons p l ih =>
    rw [List.lookup_cons] at h
    split at h
    · rename_i e
      have e := eq_of_beq e
      cases h
      subst e
      exact List.mem_cons_self
    · exact List.mem_cons_of_mem _ (ih h)
section
variable {Pg : Prog} {P : Program} {w : World} {K : PySem.W.Frag} {mg : Str → Option Value} {base : Heap} {tab : List (String × Addr)} {fs : List String}
theorem PrF.by (hfn : ∀ F ∈ Pg.fns, ∃ a fd qual st, FnF K (tabf tab) fs F a fd qual st) (hat : ∀ p ∈ tab, mg (p.1 : Str) = some (.ref p.2)) (hb : ∀ b ∈ bnames, mg (b : Str) = none)
    (hc : ∀ p ∈ Pg.consts, ∃ v u, mg (p.1 : Str) = some u ∧ RelV v u ∧ ∀ H A, Rep K (tabf tab) H A v p.2 []) (hs : ∀ f ∈ fs, ∃ F, Pg.fn f = some F) : PrF Pg K mg (tabf tab) fs := by
  have at_ : ∀ x a, tabf tab x = some a → mg (x : Str) = some (.ref a) := fun x a h => hat _ (lookup_mem h)
  refine ⟨fun f F h => hfn F (List.mem_of_find?_eq_some h), at_, fun x d h => ?_, hb, hs⟩
  unfold Prog.G at h
  split at h
  · rename_i d' hl
    cases h
    exact hc _ (lookup_mem hl)
  · rw [Option.map_eq_some_iff] at h
    obtain ⟨F, h1, h2⟩ := h
    subst h2
    obtain ⟨a, fd, qual, st, hF⟩ := hfn F (List.mem_of_find?_eq_some h1)
    have e := Prog.fn_name h1
    refine ⟨.ref a, .ref a, at_ x a (by rw [← e]; exact hF.ad), rfl, fun H A => .fn hF.ad⟩
def spL (K : PySem.W.Frag) (Pg : Prog) (k : Nat) : Sp := fun vs H Q E => ∀ fa, spI K fa 1 (callN Pg k "law") vs H Q E
theorem law_ok {F : Fn} {a : Addr} {fd : FuncData} {qual x : Str} {st : Stmt} {k : Nat} {fa : String → Option Addr} (hp : PrF Pg K mg fa fs) (hf : Pg.fn "law" = some F) (hF : FnF K fa fs F a fd qual st) (hx : FnF.ps F = [x]) :
    FnOk P w K mg base (L2.CX P w) k a fd [x] (spL K Pg k) := by
  have h := fns_ok (P := P) (w := w) (base := base) hp k "law" F a fd qual st hf hF
  rw [hx] at h
  exact h.imp fun vs H Q E q => q fa
theorem reps_ints {fa : String → Option Addr} {H : Hp} {A : List Addr} : ∀ ns : List Int, Reps K fa H A (ns.map V.int) (ns.map D.int) []
  | [] => .nil
  | n :: ns => Reps.cons (F := []) (F' := []) (.int n) (reps_ints ns)
theorem spL_start {k : Nat} {H : Hp} {a : Addr} {ns : List Int} {μ' : Store} (h : callN Pg k "law" [.fz (ns.map .int)] [] = .ok (.bl true) μ') (hO : Only H) (hS : SqL K H a (ns.map V.int)) : spL K Pg k [.ref a] H (fun v _ => v = .bl true) fun _ _ _ => False := by
  intro fa
  refine ⟨[], [], [.fz (ns.map .int)], ⟨rfl, fun i o h => by simp at h, List.nodup_nil⟩, Reps.one (.fz hS ?_ (reps_ints ns)), rfl, ?_⟩
  · rcases hS with hS | hS
    · rcases hS with hS | ⟨o, hS⟩
      · rcases hO a with e | ⟨o, xs, e⟩
        · rw [e] at hS; cases hS
        · rw [e] at hS; cases hS
      · exact .inl ⟨o, hS⟩
    · exact .inr fun H' => .inr hS
  · rw [h]
    intro v H' A' F g
    have r := g.rep
    cases r
    rfl
theorem noX {P : Program} (w : World) (H : Hp) (s : Shared) (e : Value) (s' : Shared) (h : L2.CX P w [] H s (fun _ _ _ => False) e s') : False := by
  obtain ⟨_, _, _, _, _, _, _, _, _, _, _, _, z⟩ := h
  exact z
/-- THE END: a law whose run, told by the interpreter, is true at every script -/
theorem walk_ofM {l : PySem.W.OpenLaw} {n k : Nat} {q : Program} {loose : List Str} {XP : (Str → Option Value) → Heap → Prop} {YP : World → Heap → Prop} {d : DefRec} {K : Params → PySem.W.Frag} {x : Str} {Pg : Prog}
    (hn : l.most = some n) (hn2 : n ≤ sizeLine) (hdf : d.params.defaults = []) (hr : Room k callerA) (hY : ∀ (w : World) (h : Heap), YP w h → (K w.params).In h)
    (hl : ∀ ns : List Int, ns.length ≤ n → ∃ μ, callN Pg k "law" [.fz (ns.map .int)] [] = .ok (.bl true) μ)
    (F : ∀ (w : World) (mg : Str → Option Value) (fa : Addr) (h : Heap), (K w.params).In h → h.Ns mainGlobals mg → mg d.name = some (.ref fa) →
      ∃ fd : FuncData, (∀ (s : Shared) (u : Value), BindsTo s fd ⟨[u], []⟩ [(x, u)]) ∧ ∀ base : Heap, (K w.params).In base → base.Ns mainGlobals mg → FnOk l.prog w (K w.params) mg base (L2.CX l.prog w) k fa fd [x] (spL (K w.params) Pg k)) :
    PySem.W.WalkO q loose XP YP l.row.toRowW d [] (fun f vs => PySem.call f vs) :=
  L2.walk_of (K := K) (CX := fun w => L2.CX l.prog w) (sp := fun w => spL (K w.params) Pg k) hn hn2 hdf hr hY F (fun w H a ns h hO hS => let ⟨_, hm⟩ := hl ns h; spL_start hm hO hS) noX
end
end Mp
end SSnd16
section SK28a
namespace Mp.K28
def f_met : Fn := {
  name := "met", np := 2, names := ["one", "two", "number", "found", "at", "looks", "more"],
  body := 
    (.cons (.set (.t [(.v 3), (.v 4), (.v 5)]) (.tup (.cons (.lst .nil) (.cons (.lit (.int 0)) (.cons (.lit (.int 0)) .nil))))) 
    (.cons (.for_ (.v 2) (.var 0) 
      (.cons (.set (.t [(.v 4), (.v 6)]) (.call "leapt" (.cons (.var 1) (.cons (.var 4) (.cons (.var 2) .nil))))) 
      (.cons (.aug 5 .add (.var 6)) 
      (.cons (.ite (.cmp .lt (.var 4) (.blt .len (.cons (.var 1) .nil))) 
        (.cons (.aug 5 .add (.lit (.int 1))) 
        (.cons (.ite (.cmp .eq (.ix (.var 1) (.var 4)) (.var 2)) 
          (.cons (.expr (.meth .append (.var 3) (.cons (.var 2) .nil))) 
          (.cons (.aug 4 .add (.lit (.int 1))) .nil)) .nil) .nil)) .nil) .nil)))) 
    (.cons (.ret (.tup (.cons (.blt .tuple (.cons (.var 3) .nil)) (.cons (.var 5) .nil)))) .nil))) }
def f_leapt : Fn := {
  name := "leapt", np := 3, names := ["numbers", "at", "number", "high", "low", "step", "looks", "middle"],
  body := 
    (.cons (.set (.t [(.v 4), (.v 5), (.v 6)]) (.tup (.cons (.var 1) (.cons (.lit (.int 1)) (.cons (.lit (.int 0)) .nil))))) 
    (.cons (.wh (.cmp .le (.bin .add (.var 4) (.var 5)) (.blt .len (.cons (.var 0) .nil))) 
      (.cons (.aug 6 .add (.lit (.int 1))) 
      (.cons (.ite (.cmp .ge (.ix (.var 0) (.bin .sub (.bin .add (.var 4) (.var 5)) (.lit (.int 1)))) (.var 2)) 
        (.cons .brk .nil) .nil) 
      (.cons (.set (.t [(.v 4), (.v 5)]) (.tup (.cons (.bin .add (.var 4) (.var 5)) (.cons (.bin .mul (.lit (.int 2)) (.var 5)) .nil)))) .nil)))) 
    (.cons (.set (.v 3) (.blt .min (.cons (.bin .sub (.bin .add (.var 4) (.var 5)) (.lit (.int 1))) (.cons (.blt .len (.cons (.var 0) .nil)) .nil)))) 
    (.cons (.wh (.cmp .lt (.var 4) (.var 3)) 
      (.cons (.set (.v 7) (.bin .fdiv (.bin .add (.var 4) (.var 3)) (.lit (.int 2)))) 
      (.cons (.aug 6 .add (.lit (.int 1))) 
      (.cons (.ite (.cmp .lt (.ix (.var 0) (.var 7)) (.var 2)) 
        (.cons (.set (.v 4) (.bin .add (.var 7) (.lit (.int 1)))) .nil) 
        (.cons (.set (.v 3) (.var 7)) .nil)) .nil)))) 
    (.cons (.ret (.tup (.cons (.var 4) (.cons (.var 6) .nil)))) .nil))))) }
def f_law_draws : Fn := {
  name := "_law_draws", np := 1, names := ["script"],
  body := 
    (.cons (.ret (.lst (.cons (.blt .list (.cons (.var 0) .nil)) (.cons (.lit (.int 0)) (.cons (.lit (.int 0)) (.cons (.lit (.int 1)) .nil)))))) .nil) }
def f_law_draw : Fn := {
  name := "_law_draw", np := 2, names := ["draws", "limit", "cell", "value"],
  body := 
    (.cons (.ite (.band (.cons (.cmp .eq (.ix (.var 0) (.lit (.int 2))) (.lit (.int 0))) (.cons (.cmp .lt (.ix (.var 0) (.lit (.int 1))) (.blt .len (.cons (.ix (.var 0) (.lit (.int 0))) .nil))) .nil))) 
      (.cons (.set (.v 2) (.ix (.ix (.var 0) (.lit (.int 0))) (.ix (.var 0) (.lit (.int 1))))) 
      (.cons (.seti (.var 0) (.lit (.int 1)) (.bin .add (.ix (.var 0) (.lit (.int 1))) (.lit (.int 1)))) 
      (.cons (.ite (.cmp .ge (.var 2) (.bin .pow (.lit (.int 10)) (.lit (.int 18)))) 
        (.cons (.seti (.var 0) (.lit (.int 2)) (.var 2)) .nil) .nil) 
      (.cons (.seti (.var 0) (.lit (.int 3)) (.bin .mod (.blt .int (.cons (.bin .add (.bin .add (.bin .mul (.ix (.var 0) (.lit (.int 3))) (.lit (.int 48271))) (.var 2)) (.lit (.int 13))) .nil)) (.lit (.int 2147483647)))) .nil)))) .nil) 
    (.cons (.ite (.cmp .gt (.ix (.var 0) (.lit (.int 2))) (.lit (.int 0))) 
      (.cons (.set (.v 3) (.bin .mod (.blt .int (.cons (.ix (.var 0) (.lit (.int 2))) .nil)) (.var 1))) 
      (.cons (.seti (.var 0) (.lit (.int 2)) (.bin .fdiv (.ix (.var 0) (.lit (.int 2))) (.var 1))) 
      (.cons (.ret (.var 3)) .nil))) .nil) 
    (.cons (.seti (.var 0) (.lit (.int 3)) (.bin .mod (.blt .int (.cons (.bin .add (.bin .mul (.ix (.var 0) (.lit (.int 3))) (.lit (.int 69621))) (.lit (.int 7))) .nil)) (.lit (.int 2147483629)))) 
    (.cons (.ret (.bin .mod (.blt .int (.cons (.bin .fdiv (.ix (.var 0) (.lit (.int 3))) (.lit (.int 11))) .nil)) (.var 1))) .nil)))) }
def f_law_same : Fn := {
  name := "_law_same", np := 2, names := ["actual", "expected", "k"],
  body := 
    (.cons (.ite (.bor (.cons (.isi (.var 1) .tuple) (.cons (.isi (.var 1) .list) .nil))) 
      (.cons (.ite (.bor (.cons (.cmp .ne (.isi (.var 0) .tuple) (.isi (.var 1) .tuple)) (.cons (.cmp .ne (.isi (.var 0) .list) (.isi (.var 1) .list)) .nil))) 
        (.cons (.ret (.lit (.bl false))) .nil) .nil) 
      (.cons (.ite (.cmp .ne (.blt .len (.cons (.var 0) .nil)) (.blt .len (.cons (.var 1) .nil))) 
        (.cons (.ret (.lit (.bl false))) .nil) .nil) 
      (.cons (.ret (.cmp .eq (.blt .len (.cons (.lc (.var 2) (.v 2) [("k", 2)] (.rng1 (.blt .len (.cons (.var 1) .nil))) (.cons (.nt (.call "_law_same" (.cons (.ix (.var 0) (.var 2)) (.cons (.ix (.var 1) (.var 2)) .nil)))) .nil)) .nil)) (.lit (.int 0)))) .nil))) .nil) 
    (.cons (.ite (.bor (.cons (.isi (.var 1) .bool) (.cons (.isi (.var 0) .bool) .nil))) 
      (.cons (.ret (.band (.cons (.isi (.var 1) .bool) (.cons (.isi (.var 0) .bool) (.cons (.cmp .eq (.var 0) (.var 1)) .nil))))) .nil) .nil) 
    (.cons (.ite (.bor (.cons (.cmp .is (.var 1) (.lit .non)) (.cons (.cmp .is (.var 0) (.lit .non)) .nil))) 
      (.cons (.ret (.band (.cons (.cmp .is (.var 1) (.lit .non)) (.cons (.cmp .is (.var 0) (.lit .non)) .nil)))) .nil) .nil) 
    (.cons (.ite (.bor (.cons (.isi (.var 1) .str) (.cons (.isi (.var 0) .str) .nil))) 
      (.cons (.ret (.band (.cons (.isi (.var 1) .str) (.cons (.isi (.var 0) .str) (.cons (.cmp .eq (.var 0) (.var 1)) .nil))))) .nil) .nil) 
    (.cons (.ret (.band (.cons (.isi (.var 0) .int) (.cons (.isi (.var 1) .int) (.cons (.cmp .eq (.var 0) (.var 1)) .nil))))) .nil))))) }
def f_law_row : Fn := {
  name := "_law_row", np := 3, names := ["draws", "most", "far", "k", "found", "number"],
  body := 
    (.cons (.set (.t [(.v 4), (.v 5)]) (.tup (.cons (.lst .nil) (.cons (.call "_law_draw" (.cons (.var 0) (.cons (.lit (.int 5)) .nil))) .nil)))) 
    (.cons (.for_ (.v 3) (.rng1 (.call "_law_draw" (.cons (.var 0) (.cons (.var 1) .nil)))) 
      (.cons (.expr (.meth .append (.var 4) (.cons (.var 5) .nil))) 
      (.cons (.set (.v 5) (.bin .add (.bin .add (.var 5) (.lit (.int 1))) (.call "_law_draw" (.cons (.var 0) (.cons (.var 2) .nil))))) .nil))) 
    (.cons (.ret (.blt .tuple (.cons (.var 4) .nil))) .nil))) }
def f_law_bits : Fn := {
  name := "_law_bits", np := 1, names := ["many", "found", "whole"],
  body := 
    (.cons (.set (.t [(.v 1), (.v 2)]) (.tup (.cons (.lit (.int 0)) (.cons (.lit (.int 1)) .nil)))) 
    (.cons (.wh (.cmp .le (.var 2) (.var 0)) 
      (.cons (.set (.t [(.v 1), (.v 2)]) (.tup (.cons (.bin .add (.var 1) (.lit (.int 1))) (.cons (.bin .mul (.var 2) (.lit (.int 2))) .nil)))) .nil)) 
    (.cons (.ret (.var 1)) .nil))) }
def f_law : Fn := {
  name := "law", np := 1, names := ["script", "draws", "turn", "row", "more", "one", "two", "found", "looks", "due", "at", "number", "place", "k"],
  body := 
    (.cons (.set (.v 1) (.call "_law_draws" (.cons (.var 0) .nil))) 
    (.cons (.for_ (.v 2) (.rng1 (.lit (.int 8))) 
      (.cons (.set (.t [(.v 5), (.v 6)]) (.tup (.cons (.call "_law_row" (.cons (.var 1) (.cons (.lit (.int 9)) (.cons (.bin .add (.call "_law_draw" (.cons (.var 1) (.cons (.lit (.int 60)) .nil))) (.lit (.int 1))) .nil)))) (.cons (.call "_law_row" (.cons (.var 1) (.cons (.lit (.int 120)) (.cons (.bin .add (.call "_law_draw" (.cons (.var 1) (.cons (.lit (.int 4)) .nil))) (.lit (.int 1))) .nil)))) .nil)))) 
      (.cons (.ite (.cmp .eq (.call "_law_draw" (.cons (.var 1) (.cons (.lit (.int 3)) .nil))) (.lit (.int 0))) 
        (.cons (.set (.t [(.v 5), (.v 6)]) (.tup (.cons (.var 6) (.cons (.var 5) .nil)))) .nil) .nil) 
      (.cons (.set (.t [(.v 7), (.v 8)]) (.call "met" (.cons (.var 5) (.cons (.var 6) .nil)))) 
      (.cons (.ite (.bor (.cons (.nt (.call "_law_same" (.cons (.var 7) (.cons (.blt .tuple (.cons (.lc (.var 11) (.v 11) [("number", 11)] (.var 5) (.cons (.cmp .inn (.var 11) (.var 6)) .nil)) .nil)) .nil)))) (.cons (.nt (.call "_law_same" (.cons (.var 8) (.cons (.blt .int (.cons (.var 8) .nil)) .nil)))) .nil))) 
        (.cons (.ret (.lit (.bl false))) .nil) .nil) 
      (.cons (.ite (.bor (.cons (.cmp .lt (.var 8) (.lit (.int 0))) (.cons (.cmp .gt (.var 8) (.bin .mul (.blt .len (.cons (.var 5) .nil)) (.bin .add (.bin .mul (.lit (.int 2)) (.call "_law_bits" (.cons (.blt .len (.cons (.var 6) .nil)) .nil))) (.lit (.int 2))))) (.cons (.band (.cons (.cmp .eq (.var 6) (.tup .nil)) (.cons (.cmp .ne (.var 8) (.lit (.int 0))) .nil))) .nil)))) 
        (.cons (.ret (.lit (.bl false))) .nil) .nil) 
      (.cons (.for_ (.v 4) (.rng1 (.lit (.int 6))) 
        (.cons (.set (.t [(.v 10), (.v 11)]) (.tup (.cons (.call "_law_draw" (.cons (.var 1) (.cons (.bin .add (.blt .len (.cons (.var 6) .nil)) (.lit (.int 1))) .nil))) (.cons (.call "_law_draw" (.cons (.var 1) (.cons (.lit (.int 300)) .nil))) .nil)))) 
        (.cons (.set (.t [(.v 12), (.v 8)]) (.call "leapt" (.cons (.var 6) (.cons (.var 10) (.cons (.var 11) .nil))))) 
        (.cons (.set (.v 9) (.bin .add (.var 10) (.blt .len (.cons (.lc (.var 13) (.v 13) [("k", 13)] (.rng2 (.var 10) (.blt .len (.cons (.var 6) .nil))) (.cons (.cmp .lt (.ix (.var 6) (.var 13)) (.var 11)) .nil)) .nil)))) 
        (.cons (.ite (.bor (.cons (.nt (.call "_law_same" (.cons (.var 12) (.cons (.var 9) .nil)))) (.cons (.cmp .lt (.var 8) (.lit (.int 0))) (.cons (.cmp .gt (.var 8) (.bin .add (.bin .mul (.lit (.int 2)) (.call "_law_bits" (.cons (.blt .len (.cons (.var 6) .nil)) .nil))) (.lit (.int 1)))) .nil)))) 
          (.cons (.ret (.lit (.bl false))) .nil) .nil) .nil))))) .nil))))))) 
    (.cons (.set (.v 3) (.lrng true (.lit (.int 1000)))) 
    (.cons (.ret (.band (.cons (.cmp .eq (.ix (.call "met" (.cons (.tup (.cons (.lit (.int 998)) .nil)) (.cons (.var 3) .nil))) (.lit (.int 0))) (.tup (.cons (.lit (.int 998)) .nil))) (.cons (.cmp .le (.ix (.call "met" (.cons (.tup (.cons (.lit (.int 998)) .nil)) (.cons (.var 3) .nil))) (.lit (.int 1))) (.lit (.int 22))) (.cons (.cmp .eq (.ix (.call "met" (.cons (.var 3) (.cons (.var 3) .nil))) (.lit (.int 0))) (.var 3)) (.cons (.cmp .eq (.call "met" (.cons (.tup .nil) (.cons (.var 3) .nil))) (.tup (.cons (.tup .nil) (.cons (.lit (.int 0)) .nil)))) .nil)))))) .nil)))) }
def prog : Prog := { fns := [f_met, f_leapt, f_law_draws, f_law_draw, f_law_same, f_law_row, f_law_bits, f_law], consts := [] }
end Mp.K28
end SK28a
section SDraws
/-! Draws: what the law's own helpers give. -/
namespace Mp
local macro_rules
  | `(tactic| sizeOf_list_dec) => `(tactic| simp only [ev_lit, ev_varS, kVar_some, ev_glo, ev_bin, ev_neg, ev_nt, ev_band, ev_bor, ev_ite, ev_cmp, ev_cmp2, ev_call, ev_blt, ev_isi, ev_meth, ev_tup, ev_lst, ev_ix, ev_lc, ev_rng1, ev_rng2, ev_lrng,
  evs_nil, evs_cons, evAnd_one, evAnd_cons, evOr_one, evOr_cons, evIfs_nil, evIfs_cons, kBinL_eq, kBinR_eq, kNeg_int, kNt_eq, kIte_bl, kCmpL_eq, kCmpR_eq, kCmp2L_eq, kCmp2R_eqS, kBlt_eq, kIsi_eq, kMethL_eq, kMethR_eqS, kMthS_some, kTup_eq, kLst_eq, kIxL_eq, kIxR_eq, kLcD_eq, kLcI_eq,
  kRng2L_eq, kConsL_eq, kConsR_eq, kAnd_bl, kOr_bl, kIfs_bl, execs_nil, execs_cons, kRest_eq, exec_expr, exec_set, exec_augS, kAugV_some, kAug_eqS, kAugS_some, exec_seti, exec_ret, exec_ite, exec_for, exec_brk, exec_cont, exec_pass, kExpr_eq, kSet_v, kSet_tS, kBnd_some, bindT_v, bindT_t, bindTs_nil, bindTs_cons,
  kWhT_bl, kWhB_nx, kWhB_ct, kWhB_br, kWhB_rt, whS_nx, whS_br, whS_rt, kSeti1_eq, kSeti2_eq, kSeti3_eqS, kSetS_some, kRet_eq, kIf_bl, kFor_eqS, kForI_some, kLc_eqS, kLcX_some, forT_eqS, kForT_some, lcT_v, kRng1_intS, kRng2R_intS, kLrng_int, Rs.bnd_ok, Rs.of_some, Rs.ou_ok, Ou.seq_nx, Ou.seq_br, Ou.seq_ct, Ou.seq_rt,
  Option.bind_some, Option.map_some, List.getElem?_cons_zero, List.getElem?_cons_succ, List.getElem?_nil, List.set_cons_zero, List.set_cons_succ, alloc, allocs, settle, items, truth, binop, augop, cmpop, bltin, isOf, getIx, D.stills, D.still, Bool.and_true, Bool.true_and, Bool.and_self, wipeE, decide_true, decide_false, Bool.not_true, Bool.not_false, Bool.false_eq_true, if_true, if_false, ite_true, ite_false, reduceIte,
  List.map_cons, List.map_nil, List.cons_append, List.nil_append, List.replicate_succ, List.replicate_zero, List.length_cons, List.length_nil, List.length_map, List.length_set, List.set_set, List.getElem?_set_self, List.getElem?_map, Nat.zero_add, Nat.reduceAdd, Nat.reduceSub, eqD_int, getL_setS, setIx_eqS, kSetI_some, decide_eq_true_eq, Option.map_none, Option.bind_none, endC_rt, endC_nx, callA_still, stills_ints, allocs_ints, methop_eqS, kApp_some, recvOk_eqS, Option.isSome_some, get_last, getL_last, set_last, getL_last2, get_last2, set_last2, eqD_bl, eq_self, bool_beq_self, reduceCtorEq, allocs_rngL, Int.cast_ofNat_Int, ne_eq, not_false_eq_true, not_true_eq_false, and_true, true_and, and_self, and_false, false_and, *])
open K28
structure DrOk (r r0 : Nat) (μ : Store) : Prop where
  ex : ∃ (cells : List Int) (pos : Nat) (big seed : Int), μ[r]? = some (.lst [.ref r0, .int pos, .int big, .int seed]) ∧ r0 ≠ r ∧ μ[r0]? = some (.lst (cells.map D.int)) ∧ 0 ≤ seed ∧ 0 ≤ big
theorem fmod_nn {a b : Int} (h : 0 < b) : 0 ≤ a.fmod b ∧ a.fmod b < b := ⟨Int.fmod_nonneg_of_pos _ h, Int.fmod_lt_of_pos _ h⟩
theorem fdiv_nn {a b : Int} (ha : 0 ≤ a) (h : 0 < b) : 0 ≤ a.fdiv b := Int.fdiv_nonneg ha (Int.le_of_lt h)
theorem mulOk_r {i j : Int} (h : -(2 ^ 64) < j) (h' : j < 2 ^ 64) : mulOk i j = true := by
  unfold mulOk
  rw [decide_eq_true h, decide_eq_true h']; simp
theorem draw_tail {G : String → Option D} {call : String → List D → Store → Rs D} {r r0 : Nat} {μ : Store} {lim p big seed : Int} {x2 x3 : Option D} (h0 : 0 < lim) (h1 : lim < 1073741824) (hr : μ[r]? = some (.lst [.ref r0, .int p, .int big, .int seed])) (hb : 0 ≤ big) :
    ∃ (v b s : Int), 0 ≤ v ∧ v < lim ∧ 0 ≤ b ∧ (0 ≤ seed → 0 ≤ s) ∧ execs G call f_law_draw.body.tl [some (.ref r), some (.int lim), x2, x3] μ = .rt (.int v) (μ.set r (.lst [.ref r0, .int p, .int b, .int s])) := by
  have hg := getL_of hr
  have hlt := lt_of_get hr
  have e1 : ixNat 4 2 = some 2 := rfl
  have e2 : ixNat 4 1 = some 1 := rfl
  have e3 : ixNat 4 0 = some 0 := rfl
  have e4 : ixNat 4 3 = some 3 := rfl
  have hl0 : lim ≠ 0 := by omega
  have hl1 : lim.natAbs < 1073741824 := by omega
  have m1 : mulOk seed 69621 = true := mulOk_r (by decide) (by decide)
  have n1 : (2147483629 : Int) ≠ 0 := by decide
  have n2 : (11 : Int) ≠ 0 := by decide
  have n3 : (11 : Int).natAbs < 1073741824 := by decide
  simp only [f_law_draw, Ss.tl]
  by_cases c : 0 < big
  · refine ⟨big.fmod lim, big.fdiv lim, seed, (fmod_nn h0).1, (fmod_nn h0).2, fdiv_nn hb h0, id, ?_⟩
    sizeOf_list_dec
  · have hz : big = 0 := by omega
    subst hz
    refine ⟨(((seed * 69621 + 7).fmod 2147483629).fdiv 11).fmod lim, 0, (seed * 69621 + 7).fmod 2147483629, (fmod_nn h0).1, (fmod_nn h0).2, Int.le_refl _, fun _ => (fmod_nn (by decide)).1, ?_⟩
    sizeOf_list_dec
theorem draw_spec (P : Prog) (hP : P.fn "_law_draw" = some f_law_draw) (k : Nat) (r r0 : Nat) (μ : Store) (lim : Int) (h0 : 0 < lim) (h1 : lim < 1073741824) (h : DrOk r r0 μ) :
    ∃ v : Int, 0 ≤ v ∧ v < lim ∧ ∃ l, callN P (k + 1) "_law_draw" [.ref r, .int lim] μ = .ok (.int v) (μ.set r (.lst l)) ∧ DrOk r r0 (μ.set r (.lst l)) := by
  obtain ⟨cells, pos, big, seed, hr, hne, hc, hs0, hb⟩ := h.ex
  have hg := getL_of hr
  have hgc := getL_of hc
  have hlt := lt_of_get hr
  have hlc := lt_of_get hc
  have e1 : ixNat 4 2 = some 2 := rfl
  have e2 : ixNat 4 1 = some 1 := rfl
  have e3 : ixNat 4 0 = some 0 := rfl
  have e4 : ixNat 4 3 = some 3 := rfl
  rw [callN_eq hP rfl rfl]
  have step : ∀ (b s : Int) (p : Nat), 0 ≤ b → 0 ≤ s → DrOk r r0 (μ.set r (.lst [.ref r0, .int p, .int b, .int s])) := fun b s p hb hs =>
    ⟨cells, p, b, s, List.getElem?_set_self hlt, hne, by rw [List.getElem?_set_ne (Ne.symm hne)]; exact hc, hs, hb⟩
  have fin : ∀ (v : Int) (l : List D) , D.unders μ.length l = true → endC μ (.rt (.int v) (μ.set r (.lst l))) = .ok (.int v) (μ.set r (.lst l)) := fun v l hl => by
    rw [endC_rt]
    exact fin_set0 (by simp [D.under]) hl
  have und : ∀ (a b c : Int), D.unders μ.length [.ref r0, .int a, .int b, .int c] = true := fun a b c => by simp [D.unders, D.under, hlc]
  have split : execs P.G (callN P k) f_law_draw.body [some (.ref r), some (.int lim), none, none] μ = (exec P.G (callN P k) (.ite (.band (.cons (.cmp .eq (.ix (.var 0) (.lit (.int 2))) (.lit (.int 0))) (.cons (.cmp .lt (.ix (.var 0) (.lit (.int 1))) (.blt .len (.cons (.ix (.var 0) (.lit (.int 0))) .nil))) .nil))) 
      (.cons (.set (.v 2) (.ix (.ix (.var 0) (.lit (.int 0))) (.ix (.var 0) (.lit (.int 1))))) 
      (.cons (.seti (.var 0) (.lit (.int 1)) (.bin .add (.ix (.var 0) (.lit (.int 1))) (.lit (.int 1)))) 
      (.cons (.ite (.cmp .ge (.var 2) (.bin .pow (.lit (.int 10)) (.lit (.int 18)))) 
        (.cons (.seti (.var 0) (.lit (.int 2)) (.var 2)) .nil) .nil) 
      (.cons (.seti (.var 0) (.lit (.int 3)) (.bin .mod (.blt .int (.cons (.bin .add (.bin .add (.bin .mul (.ix (.var 0) (.lit (.int 3))) (.lit (.int 48271))) (.var 2)) (.lit (.int 13))) .nil)) (.lit (.int 2147483647)))) .nil)))) .nil) [some (.ref r), some (.int lim), none, none] μ).seq (kRest P.G (callN P k) f_law_draw.body.tl) := rfl
  show ∃ v : Int, 0 ≤ v ∧ v < lim ∧ ∃ l, endC μ (execs P.G (callN P k) f_law_draw.body [some (.ref r), some (.int lim), none, none] μ) = .ok (.int v) (μ.set r (.lst l)) ∧ DrOk r r0 (μ.set r (.lst l))
  rw [split]
  by_cases c : big = 0 ∧ (pos : Int) < (cells.length : Int)
  · obtain ⟨hz, c2⟩ := c
    subst hz
    have hp : pos < cells.length := by omega
    have e5 : ixNat cells.length (pos : Int) = some pos := ixNat_nat hp
    have e6 : cells[pos]? = some cells[pos] := List.getElem?_eq_getElem hp
    have m1 : mulOk seed 48271 = true := mulOk_r (by decide) (by decide)
    have n1 : (2147483647 : Int) ≠ 0 := by decide
    have pw : ((10 : Int) ^ 18) = 1000000000000000000 := by decide
    have p1 : (0 : Int) ≤ 18 ∧ (18 : Int) ≤ 1000000 ∧ (10 : Int).natAbs < 2 ^ 64 := by decide
    have tn : (18 : Int).toNat = 18 := rfl
    generalize hce : cells[pos] = cell at *
    have hs' : 0 ≤ (seed * 48271 + cell + 13).fmod 2147483647 := (fmod_nn (by decide)).1
    have step' : ∀ (b s : Int), 0 ≤ b → 0 ≤ s → DrOk r r0 (μ.set r (.lst [.ref r0, .int ((pos : Int) + 1), .int b, .int s])) := fun b s hb hs => step b s (pos + 1) hb hs
    clear step split
    by_cases c3 : (1000000000000000000 : Int) ≤ cell
    · obtain ⟨v, b, s, h2, h3, h4, h5, h6⟩ := draw_tail (G := P.G) (call := callN P k) (μ := μ.set r (.lst [.ref r0, .int ((pos : Int) + 1), .int cell, .int ((seed * 48271 + cell + 13).fmod 2147483647)])) (x2 := some (.int cell)) (x3 := none) h0 h1 (List.getElem?_set_self hlt) (by omega)
      refine ⟨v, h2, h3, _, ?_, step' b s h4 (h5 hs')⟩
      rw [List.set_set] at h6
      sizeOf_list_dec
    · obtain ⟨v, b, s, h2, h3, h4, h5, h6⟩ := draw_tail (G := P.G) (call := callN P k) (μ := μ.set r (.lst [.ref r0, .int ((pos : Int) + 1), .int 0, .int ((seed * 48271 + cell + 13).fmod 2147483647)])) (x2 := some (.int cell)) (x3 := none) h0 h1 (List.getElem?_set_self hlt) (by omega)
      refine ⟨v, h2, h3, _, ?_, step' b s h4 (h5 hs')⟩
      rw [List.set_set] at h6
      sizeOf_list_dec
  · obtain ⟨v, b, s, h2, h3, h4, h5, h6⟩ := draw_tail (G := P.G) (call := callN P k) (x2 := none) (x3 := none) h0 h1 hr hb
    refine ⟨v, h2, h3, _, ?_, step b s pos h4 (h5 hs0)⟩
    rw [← fin v _ (und _ _ _), ← h6]
    by_cases c1 : big = 0
    · have c2 : ¬ (pos : Int) < (cells.length : Int) := fun z => c ⟨c1, z⟩
      clear c
      subst c1
      sizeOf_list_dec
    · clear c
      sizeOf_list_dec
theorem DrOk.lt {r r0 : Nat} {μ : Store} (h : DrOk r r0 μ) : r < μ.length ∧ r0 < μ.length := by
  obtain ⟨_, _, _, _, h1, _, h2, _⟩ := h.ex
  exact ⟨lt_of_get h1, lt_of_get h2⟩
theorem DrOk.app {r r0 : Nat} {μ : Store} (h : DrOk r r0 μ) (N : Store) : DrOk r r0 (μ ++ N) := by
  obtain ⟨c, p, b, s, h1, hn, h2, h3⟩ := h.ex
  exact ⟨c, p, b, s, by rw [List.getElem?_append_left (lt_of_get h1)]; exact h1, hn, by rw [List.getElem?_append_left (lt_of_get h2)]; exact h2, h3⟩
theorem DrOk.cut {r r0 : Nat} {μ N : Store} (h : DrOk r r0 (μ ++ N)) (hr : r < μ.length) (hr0 : r0 < μ.length) : DrOk r r0 μ := by
  obtain ⟨c, p, b, s, h1, hn, h2, h3⟩ := h.ex
  rw [List.getElem?_append_left hr] at h1
  rw [List.getElem?_append_left hr0] at h2
  exact ⟨c, p, b, s, h1, hn, h2, h3⟩
theorem DrOk.und {r r0 n : Nat} {μ : Store} {l : List D} (h : DrOk r r0 (μ.set r (.lst l))) (hn : r0 < n) : D.unders n l = true := by
  obtain ⟨c, p, b, s, h1, _⟩ := h.ex
  have hlt := lt_of_get h1
  rw [List.getElem?_set_self (by simpa using hlt)] at h1
  cases h1
  simp [D.unders, D.under, hn]
theorem draw_app (P : Prog) (hP : P.fn "_law_draw" = some f_law_draw) (k : Nat) {r r0 : Nat} {μ : Store} (N : Store) {lim : Int} (h0 : 0 < lim) (h1 : lim < 1073741824) (h : DrOk r r0 μ) :
    ∃ v : Int, 0 ≤ v ∧ v < lim ∧ ∃ l, callN P (k + 1) "_law_draw" [.ref r, .int lim] (μ ++ N) = .ok (.int v) (μ.set r (.lst l) ++ N) ∧ DrOk r r0 (μ.set r (.lst l)) := by
  obtain ⟨v, h2, h3, l, h4, h5⟩ := draw_spec P hP k r r0 (μ ++ N) lim h0 h1 (h.app N)
  rw [set_app h.lt.1] at h4 h5
  exact ⟨v, h2, h3, l, h4, h5.cut (by rw [List.length_set]; exact h.lt.1) (by rw [List.length_set]; exact h.lt.2)⟩
/-! loops -/
theorem forGo_inv {s : D} {f : D → Env → Store → Ou} {xs : List D} (I : Nat → Env → Store → Prop) (hs : ∀ i ρ μ, I i ρ μ → srcOk μ s xs = true)
    (h : ∀ i x ρ μ, xs[i]? = some x → I i ρ μ → ∃ ρ' μ', (f x ρ μ = .nx ρ' μ' ∨ f x ρ μ = .ct ρ' μ') ∧ I (i + 1) ρ' μ') {ρ : Env} {μ : Store} (h0 : I 0 ρ μ) :
    ∃ ρ' μ', forGo s xs f xs ρ μ = .nx ρ' μ' ∧ I xs.length ρ' μ' := by
  have go : ∀ (n i : Nat) (ρ : Env) (μ : Store), i + n = xs.length → I i ρ μ → ∃ ρ' μ', forGo s xs f (xs.drop i) ρ μ = .nx ρ' μ' ∧ I xs.length ρ' μ' := by
    intro n
    induction n with
    | zero =>
      intro i ρ μ hi hI
      rw [List.drop_of_length_le (by omega)]
      have e : i = xs.length := by omega
      exact ⟨ρ, μ, by simp only [forGo, hs i ρ μ hI, if_true], e ▸ hI⟩
    | succ n ih =>
      intro i ρ μ hi hI
      have hlt : i < xs.length := by omega
      rw [List.drop_eq_getElem_cons hlt]
      obtain ⟨ρ', μ', e, hI'⟩ := h i _ ρ μ (List.getElem?_eq_getElem hlt) hI
      obtain ⟨ρ2, μ2, e2, hI2⟩ := ih (i + 1) ρ' μ' (by omega) hI'
      refine ⟨ρ2, μ2, ?_, hI2⟩
      rcases e with e | e <;> simp only [forGo, hs i ρ μ hI, if_true, e, e2]
  simpa using go xs.length 0 ρ μ (by omega) h0
theorem lcGo_map {s : D} {f : D → Store → Rs (Option D)} {xs : List D} {μ : Store} (g : D → Option D) (hs : srcOk μ s xs = true) : ∀ (ys acc : List D), (∀ y ∈ ys, f y μ = .ok (g y) μ) → acc.length + ys.length ≤ LIM →
    lcGo s xs f ys μ acc = .ok (.tl (acc ++ ys.filterMap g)) μ
  | [], acc, _, _ => by simp only [lcGo, hs, if_true, List.filterMap_nil, List.append_nil]
  | y :: ys, acc, h, hl => by
    rw [List.length_cons] at hl
    simp only [lcGo, hs, if_true, h y (by simp)]
    cases hg : g y with
    | none =>
      simp only [List.filterMap_cons, hg]
      exact lcGo_map g hs ys acc (fun z hz => h z (by simp [hz])) (by omega)
    | some d =>
      simp only [List.filterMap_cons, hg]
      rw [if_pos (by omega), lcGo_map g hs ys (acc ++ [d]) (fun z hz => h z (by simp [hz])) (by simp; omega)]
      simp
theorem whGo_inv {G : String → Option D} {call : String → List D → Store → Rs D} {c : C} {b : Ss} (I : Nat → Env → Store → Prop) (Q : Ou → Prop)
    (h : ∀ n ρ μ, I n ρ μ → (∃ ρ' μ' m, whS ((ev G call c ρ μ).ou ρ (kWhT G call b ρ)) = some (.inl (ρ', μ')) ∧ m < n ∧ I m ρ' μ') ∨ ∃ o, whS ((ev G call c ρ μ).ou ρ (kWhT G call b ρ)) = some (.inr o) ∧ Q o) :
    ∀ (n : Nat) (ρ : Env) (μ : Store), I n ρ μ → ∃ o, exec G call (.wh c b) ρ μ = o ∧ Q o := by
  have go : ∀ (n : Nat) (ρ : Env) (μ : Store), I n ρ μ → ∃ o, whGo G call c b (ρ, μ) = some o ∧ Q o := by
    intro n
    induction n using Nat.strongRecOn with
    | _ n ih =>
      intro ρ μ hI
      rw [whGo_eq]
      rcases h n ρ μ hI with ⟨ρ', μ', m, e, hm, hI'⟩ | ⟨o, e, q⟩
      · simp only [e]
        exact ih m hm ρ' μ' hI'
      · simp only [e]
        exact ⟨o, rfl, q⟩
  intro n ρ μ hI
  obtain ⟨o, e, q⟩ := go n ρ μ hI
  exact ⟨o, by rw [exec_wh, e]; rfl, q⟩
theorem draws_spec (P : Prog) (hP : P.fn "_law_draws" = some f_law_draws) (k : Nat) (μ : Store) (l : List Int) : callN P (k + 1) "_law_draws" [.fz (l.map .int)] μ = .ok (.tl [.tl (l.map .int), .int 0, .int 0, .int 1]) μ := by
  rw [callN_eq hP rfl rfl]
  simp only [f_law_draws]
  have hfin : fin μ (.tl [.tl (l.map .int), .int 0, .int 0, .int 1]) μ = .ok (.tl [.tl (l.map .int), .int 0, .int 0, .int 1]) μ := fin_same (by simp [D.under, D.unders, unders_ints])
  sizeOf_list_dec
theorem same_int (P : Prog) (hP : P.fn "_law_same" = some f_law_same) (k : Nat) (μ : Store) (a : Int) : callN P (k + 1) "_law_same" [.int a, .int a] μ = .ok (.bl true) μ := by
  rw [callN_eq hP rfl rfl]
  simp only [f_law_same]
  have hfin : fin μ (.bl true) μ = .ok (.bl true) μ := fin_same rfl
  sizeOf_list_dec
theorem same_tup (P : Prog) (hP : P.fn "_law_same" = some f_law_same) (k : Nat) (μ : Store) (l : List Int) (hl : l.length ≤ 1000000) : callN P (k + 2) "_law_same" [.tup (l.map .int), .tup (l.map .int)] μ = .ok (.bl true) μ := by
  rw [callN_eq hP rfl (by simp [D.stills, D.still, stills_ints])]
  simp only [f_law_same]
  have hfin : fin μ (.bl true) μ = .ok (.bl true) μ := fin_same rfl
  have hb : OkB (l.length : Int) := okB_of (by omega) (by omega)
  have hlc := lcGo_map (s := .tl (rngL 0 l.length)) (xs := rngL 0 l.length) (μ := μ) (f := lcT P.G (callN P (k + 1)) (.var 2) (.v 2) [("k", 2)] (.cons (.nt (.call "_law_same" (.cons (.ix (.var 0) (.var 2)) (.cons (.ix (.var 1) (.var 2)) .nil)))) .nil) [some (.tup (l.map .int)), some (.tup (l.map .int)), none]) (fun _ => none) rfl (rngL 0 l.length) []
    (fun y hy => by
      rw [rngL_ints] at hy
      obtain ⟨z, hz, rfl⟩ := List.mem_map.mp hy
      obtain ⟨j, hj, rfl⟩ := List.mem_map.mp hz
      have hjl : j < l.length := by have := List.mem_range.mp hj; omega
      have e1 : ixNat l.length (0 + (j : Int)) = some j := by rw [Int.zero_add]; exact ixNat_nat hjl
      have e2 : l[j]? = some l[j] := List.getElem?_eq_getElem hjl
      generalize l[j] = a at e2
      have hs := same_int P hP k μ a
      clear hb hy hz hj hjl
      sizeOf_list_dec) (by rw [length_rngL]; show _ ≤ 16777216; simp; omega)
  have hnil : (rngL 0 l.length).filterMap (fun _ => (none : Option D)) = [] := by simp
  rw [hnil] at hlc
  clear hnil
  sizeOf_list_dec
end Mp
end SDraws
section SK28p
/-! K28p: numbers met by leaps, plainly. -/
namespace Mp
local macro_rules
  | `(tactic| sizeOf_list_dec) => `(tactic| simp only [ev_lit, ev_varS, kVar_some, ev_glo, ev_bin, ev_neg, ev_nt, ev_band, ev_bor, ev_ite, ev_cmp, ev_cmp2, ev_call, ev_blt, ev_isi, ev_meth, ev_tup, ev_lst, ev_ix, ev_lc, ev_rng1, ev_rng2, ev_lrng,
  evs_nil, evs_cons, evAnd_one, evAnd_cons, evOr_one, evOr_cons, evIfs_nil, evIfs_cons, kBinL_eq, kBinR_eq, kNeg_int, kNt_eq, kIte_bl, kCmpL_eq, kCmpR_eq, kCmp2L_eq, kCmp2R_eqS, kBlt_eq, kIsi_eq, kMethL_eq, kMethR_eqS, kMthS_some, kTup_eq, kLst_eq, kIxL_eq, kIxR_eq, kLcD_eq, kLcI_eq,
  kRng2L_eq, kConsL_eq, kConsR_eq, kAnd_bl, kOr_bl, kIfs_bl, execs_nil, execs_cons, kRest_eq, exec_expr, exec_set, exec_augS, kAugV_some, kAug_eqS, kAugS_some, exec_seti, exec_ret, exec_ite, exec_for, exec_brk, exec_cont, exec_pass, kExpr_eq, kSet_v, kSet_tS, kBnd_some, bindT_v, bindT_t, bindTs_nil, bindTs_cons,
  kWhT_bl, kWhB_nx, kWhB_ct, kWhB_br, kWhB_rt, whS_nx, whS_br, whS_rt, kSeti1_eq, kSeti2_eq, kSeti3_eqS, kSetS_some, kRet_eq, kIf_bl, kFor_eqS, kForI_some, kLc_eqS, kLcX_some, forT_eqS, kForT_some, lcT_v, kRng1_intS, kRng2R_intS, kLrng_int, Rs.bnd_ok, Rs.of_some, Rs.ou_ok, Ou.seq_nx, Ou.seq_br, Ou.seq_ct, Ou.seq_rt,
  Option.bind_some, Option.map_some, List.getElem?_cons_zero, List.getElem?_cons_succ, List.getElem?_nil, List.set_cons_zero, List.set_cons_succ, alloc, allocs, settle, items, truth, binop, augop, cmpop, bltin, isOf, getIx, D.stills, D.still, Bool.and_true, Bool.true_and, Bool.and_self, wipeE, decide_true, decide_false, Bool.not_true, Bool.not_false, Bool.false_eq_true, if_true, if_false, ite_true, ite_false, reduceIte,
  List.map_cons, List.map_nil, List.cons_append, List.nil_append, List.replicate_succ, List.replicate_zero, List.length_cons, List.length_nil, List.length_map, List.length_set, List.set_set, List.getElem?_set_self, List.getElem?_map, Nat.zero_add, Nat.reduceAdd, Nat.reduceSub, eqD_int, getL_setS, setIx_eqS, kSetI_some, decide_eq_true_eq, Option.map_none, Option.bind_none, endC_rt, endC_nx, callA_still, stills_ints, allocs_ints, methop_eqS, kApp_some, recvOk_eqS, Option.isSome_some, get_last, getL_last, set_last, getL_last2, get_last2, set_last2, eqD_bl, eq_self, bool_beq_self, reduceCtorEq, allocs_rngL, Int.cast_ofNat_Int, ne_eq, not_false_eq_true, not_true_eq_false, and_true, true_and, and_self, and_false, false_and, *])
namespace K28
variable {G : String → Option D} {call : String → List D → Store → Rs D}
def LeapInv (row : List Int) (at_ : Nat) (x : Int) (low : Int) : Prop := (at_ : Int) ≤ low ∧ low ≤ row.length ∧ ∀ (j : Nat) (y : Int), at_ ≤ j → (j : Int) < low → row[j]? = some y → y < x
theorem two_mul_pow (i : Nat) : (2 : Int) * 2 ^ i = 2 ^ (i + 1) := by rw [Int.pow_succ]; omega
theorem pow_pos2 (i : Nat) : (1 : Int) ≤ 2 ^ i := by
  have := Int.pow_pos (n := 2) (m := i) (by decide); omega
theorem leapt1 {row : List Int} {at_ : Nat} {x : Int} {μ : Store} (hs : row.Pairwise (· < ·)) (hat : at_ ≤ row.length) : ∃ o, exec G call f_leapt.body.tl.hd [some (.tup (row.map .int)), some (.int at_), some (.int x), none, some (.int at_), some (.int 1), some (.int 0), none] μ = o ∧
    ∃ (low step looks : Int) (i : Nat), o = .nx [some (.tup (row.map .int)), some (.int at_), some (.int x), none, some (.int low), some (.int step), some (.int looks), none] μ ∧ step = 2 ^ i ∧ low = at_ + step - 1 ∧ LeapInv row at_ x low ∧
      ((row.length < low + step ∧ looks = i) ∨ (low + step - 1 < row.length ∧ (∀ y, row[(low + step - 1).toNat]? = some y → x ≤ y) ∧ looks = i + 1)) := by
  have h := whGo_inv (G := G) (call := call) (c := f_leapt.body.tl.hd.cnd) (b := f_leapt.body.tl.hd.bod) (fun n ρ μ' => ∃ (low step looks : Int) (i : Nat), ρ = [some (.tup (row.map .int)), some (.int at_), some (.int x), none, some (.int low), some (.int step), some (.int looks), none] ∧ μ' = μ ∧ step = 2 ^ i ∧ low = at_ + step - 1 ∧ LeapInv row at_ x low ∧ looks = i ∧ n = ((row.length : Int) - low).toNat)
    (fun o => ∃ (low step looks : Int) (i : Nat), o = .nx [some (.tup (row.map .int)), some (.int at_), some (.int x), none, some (.int low), some (.int step), some (.int looks), none] μ ∧ step = 2 ^ i ∧ low = at_ + step - 1 ∧ LeapInv row at_ x low ∧
      ((row.length < low + step ∧ looks = i) ∨ (low + step - 1 < row.length ∧ (∀ y, row[(low + step - 1).toNat]? = some y → x ≤ y) ∧ looks = i + 1)))
    ?_ (row.length - at_) [some (.tup (row.map .int)), some (.int at_), some (.int x), none, some (.int at_), some (.int 1), some (.int 0), none] μ ?_
  · exact h
  · rintro n ρ μ' ⟨low, step, looks, i, rfl, rfl, hst, hlow, inv, hlk, hn⟩
    simp only [f_leapt, Ss.tl, Ss.hd, S.cnd, S.bod]
    have hp := pow_pos2 i
    obtain ⟨i1, i2, i3⟩ := inv
    by_cases c1 : low + step ≤ row.length
    · have hlt : (low + step - 1).toNat < row.length := by omega
      have e1 : ixNat row.length (low + step - 1) = some (low + step - 1).toNat := ixNat_int (by omega) (by omega)
      have e2 : row[(low + step - 1).toNat]? = some row[(low + step - 1).toNat] := List.getElem?_eq_getElem hlt
      generalize hy : row[(low + step - 1).toNat] = y at e2
      have m1 : mulOk 2 step = true := by unfold mulOk; simp
      by_cases c2 : x ≤ y
      · refine .inr ⟨.nx [some (.tup (row.map .int)), some (.int at_), some (.int x), none, some (.int low), some (.int step), some (.int (looks + 1)), none] μ', ?_, low, step, looks + 1, i, rfl, hst, hlow, ⟨i1, i2, i3⟩, .inr ⟨by omega, fun z hz => ?_, by omega⟩⟩
        · clear hst hlow hlk hn hp i1 i2 i3 hy; sizeOf_list_dec
        · rw [e2] at hz; cases hz; exact c2
      · refine .inl ⟨[some (.tup (row.map .int)), some (.int at_), some (.int x), none, some (.int (low + step)), some (.int (2 * step)), some (.int (looks + 1)), none], μ', ((row.length : Int) - (low + step)).toNat, ?_, by omega, low + step, 2 * step, looks + 1, i + 1, rfl, rfl, by rw [hst, two_mul_pow], by omega, ⟨by omega, c1, fun j z hj1 hj2 hz => ?_⟩, by omega, rfl⟩
        · clear hst hlow hlk hn hp i1 i2 i3 hy; sizeOf_list_dec
        · by_cases hj : j = (low + step - 1).toNat
          · subst hj; rw [e2] at hz; cases hz; omega
          · obtain ⟨hjl, ez⟩ := List.getElem?_eq_some_iff.mp hz
            have := List.pairwise_iff_getElem.mp hs j (low + step - 1).toNat hjl hlt (by omega)
            omega
    · refine .inr ⟨.nx [some (.tup (row.map .int)), some (.int at_), some (.int x), none, some (.int low), some (.int step), some (.int looks), none] μ', ?_, low, step, looks, i, rfl, hst, hlow, ⟨i1, i2, i3⟩, .inl ⟨by omega, hlk⟩⟩
      clear hst hlow hlk hn hp i1 i2 i3; sizeOf_list_dec
  · exact ⟨at_, 1, 0, 0, rfl, rfl, rfl, by omega, ⟨by omega, by omega, fun j y h1 h2 => by omega⟩, rfl, by omega⟩
theorem pow_succ2 (i : Nat) : (2 : Int) ^ (i + 1) = 2 * 2 ^ i := by rw [Int.pow_succ]; omega
theorem leapt2 {row : List Int} {at_ : Nat} {x high low step looks L : Int} {e : Nat} {mid : Option D} {μ : Store} (hs : row.Pairwise (· < ·)) (inv : LeapInv row at_ x low) (h1 : low ≤ high) (h2 : high ≤ row.length) (h3 : ∀ y, row[high.toNat]? = some y → x ≤ y) (h4 : high - low < 2 ^ e) (h5 : looks + e ≤ L) (h6 : 0 ≤ looks) :
    ∃ o, exec G call f_leapt.body.tl.tl.tl.hd [some (.tup (row.map .int)), some (.int at_), some (.int x), some (.int high), some (.int low), some (.int step), some (.int looks), mid] μ = o ∧
    ∃ (low looks : Int) (mid : Option D), o = .nx [some (.tup (row.map .int)), some (.int at_), some (.int x), some (.int low), some (.int low), some (.int step), some (.int looks), mid] μ ∧ LeapInv row at_ x low ∧ (∀ y, row[low.toNat]? = some y → x ≤ y) ∧ 0 ≤ looks ∧ looks ≤ L := by
  refine whGo_inv (G := G) (call := call) (c := f_leapt.body.tl.tl.tl.hd.cnd) (b := f_leapt.body.tl.tl.tl.hd.bod) (fun n ρ μ' => ∃ (high low looks : Int) (e : Nat) (mid : Option D), ρ = [some (.tup (row.map .int)), some (.int at_), some (.int x), some (.int high), some (.int low), some (.int step), some (.int looks), mid] ∧ μ' = μ ∧ LeapInv row at_ x low ∧ low ≤ high ∧ high ≤ row.length ∧ (∀ y, row[high.toNat]? = some y → x ≤ y) ∧ high - low < 2 ^ e ∧ looks + e ≤ L ∧ 0 ≤ looks ∧ n = (high - low).toNat)
    (fun o => ∃ (low looks : Int) (mid : Option D), o = .nx [some (.tup (row.map .int)), some (.int at_), some (.int x), some (.int low), some (.int low), some (.int step), some (.int looks), mid] μ ∧ LeapInv row at_ x low ∧ (∀ y, row[low.toNat]? = some y → x ≤ y) ∧ 0 ≤ looks ∧ looks ≤ L)
    ?_ (high - low).toNat [some (.tup (row.map .int)), some (.int at_), some (.int x), some (.int high), some (.int low), some (.int step), some (.int looks), mid] μ ⟨high, low, looks, e, mid, rfl, rfl, inv, h1, h2, h3, h4, h5, h6, rfl⟩
  rintro n ρ μ' ⟨high, low, looks, e, mid, rfl, rfl, inv, h1, h2, h3, h4, h5, h6, hn⟩
  simp only [f_leapt, Ss.tl, Ss.hd, S.cnd, S.bod]
  obtain ⟨i1, i2, i3⟩ := inv
  by_cases c1 : low < high
  · have hm : (low + high).fdiv 2 = (low + high) / 2 := Int.fdiv_eq_ediv_of_nonneg _ (by decide)
    generalize hmd : (low + high) / 2 = m at *
    have hm1 : low ≤ m := by omega
    have hm2 : m < high := by omega
    have hlt : m.toNat < row.length := by omega
    have e1 : ixNat row.length m = some m.toNat := ixNat_int (by omega) (by omega)
    have e2 : row[m.toNat]? = some row[m.toNat] := List.getElem?_eq_getElem hlt
    generalize hy : row[m.toNat] = y at e2
    have d1 : (2 : Int) ≠ 0 := by decide
    have d2 : (2 : Int).natAbs < 1073741824 := by decide
    have he : 1 ≤ e := by
      cases e with
      | zero => simp at h4; omega
      | succ e => omega
    obtain ⟨e', rfl⟩ : ∃ e', e = e' + 1 := ⟨e - 1, by omega⟩
    rw [pow_succ2] at h4
    by_cases c2 : y < x
    · refine .inl ⟨[some (.tup (row.map .int)), some (.int at_), some (.int x), some (.int high), some (.int (m + 1)), some (.int step), some (.int (looks + 1)), some (.int m)], μ', (high - (m + 1)).toNat, ?_, by omega, high, m + 1, looks + 1, e', _, rfl, rfl, ⟨by omega, by omega, fun j z hj1 hj2 hz => ?_⟩, by omega, h2, h3, by omega, by omega, by omega, rfl⟩
      · clear hn hmd h1 h2 h3 h4 h5 h6 i1 i2 i3 hy hm1 hm2 hlt he; sizeOf_list_dec
      · by_cases hj : j = m.toNat
        · subst hj; rw [e2] at hz; cases hz; omega
        · obtain ⟨hjl, ez⟩ := List.getElem?_eq_some_iff.mp hz
          have := List.pairwise_iff_getElem.mp hs j m.toNat hjl hlt (by omega)
          omega
    · refine .inl ⟨[some (.tup (row.map .int)), some (.int at_), some (.int x), some (.int m), some (.int low), some (.int step), some (.int (looks + 1)), some (.int m)], μ', (m - low).toNat, ?_, by omega, m, low, looks + 1, e', _, rfl, rfl, ⟨i1, i2, i3⟩, by omega, by omega, fun z hz => ?_, by omega, by omega, by omega, rfl⟩
      · clear hn hmd h1 h2 h3 h4 h5 h6 i1 i2 i3 hy hm1 hm2 hlt he; sizeOf_list_dec
      · rw [e2] at hz; cases hz; omega
  · have hh : high = low := by omega
    subst hh
    refine .inr ⟨.nx [some (.tup (row.map .int)), some (.int at_), some (.int x), some (.int high), some (.int high), some (.int step), some (.int looks), mid] μ', ?_, high, looks, mid, rfl, ⟨i1, i2, i3⟩, h3, h6, by omega⟩
    clear hn h1 h2 h3 h4 h5 h6 i1 i2 i3; sizeOf_list_dec
theorem leapt_spec (P : Prog) (hP : P.fn "leapt" = some f_leapt) (k : Nat) (μ : Store) {row : List Int} {at_ : Nat} {x : Int} {b : Nat} (hs : row.Pairwise (· < ·)) (hat : at_ ≤ row.length) (hb : row.length < 2 ^ b) :
    ∃ p looks : Int, callN P (k + 1) "leapt" [.tup (row.map .int), .int at_, .int x] μ = .ok (.tup [.int p, .int looks]) μ ∧ LeapInv row at_ x p ∧ (∀ y, row[p.toNat]? = some y → x ≤ y) ∧ 0 ≤ looks ∧ looks ≤ 2 * b + 1 ∧ (row = [] → looks = 0) := by
  obtain ⟨o1, w1, low, step, looks, i, rfl, hst, hlow, inv, hor⟩ := leapt1 (G := P.G) (call := callN P k) (μ := μ) (x := x) hs hat
  have hp := pow_pos2 i
  obtain ⟨i1, i2, i3⟩ := id inv
  have hib : i ≤ b := by
    have h1 : (2 : Int) ^ i ≤ row.length + 1 := by omega
    have h2 : (2 : Nat) ^ i ≤ row.length + 1 := by exact_mod_cast h1
    have h3 : (2 : Nat) ^ i ≤ 2 ^ b := by omega
    exact (Nat.pow_le_pow_iff_right (by decide)).mp h3
  have key : ∃ high : Int, (if (row.length : Int) < low + step - 1 then (row.length : Int) else low + step - 1) = high ∧ low ≤ high ∧ high ≤ row.length ∧ (∀ y, row[high.toNat]? = some y → x ≤ y) ∧ high - low < 2 ^ i ∧ 0 ≤ looks ∧ looks + i ≤ (if row = [] then (0 : Int) else 2 * b + 1) := by
    refine ⟨_, rfl, ?_⟩
    have hL : looks + i ≤ (if row = [] then (0 : Int) else 2 * b + 1) := by
      split
      · rename_i he
        subst he
        simp only [List.length_nil] at *
        have hz : step = 1 := by omega
        have hi0 : i = 0 := by
          cases i with
          | zero => rfl
          | succ i => rw [hst, pow_succ2] at hz; have := pow_pos2 i; omega
        rcases hor with h | h
        · omega
        · omega
      · rcases hor with h | h <;> omega
    refine ⟨?_, ?_, fun y hy => ?_, ?_, by rcases hor with h | h <;> omega, hL⟩
    · split <;> omega
    · split <;> omega
    · have hyl := (List.getElem?_eq_some_iff.mp hy).1
      rcases hor with h | ⟨h, h', _⟩
      · exfalso
        split at hyl <;> omega
      · rw [if_neg (by omega)] at hy
        exact h' y hy
    · split <;> omega
  obtain ⟨high, hmin, k1, k2, k3, k4, k5, k6⟩ := key
  obtain ⟨o2, w2, low2, looks2, mid, rfl, inv2, h7, h8, h9⟩ := leapt2 (G := P.G) (call := callN P k) (step := step) (mid := none) (μ := μ) hs inv k1 k2 k3 k4 k6 k5
  refine ⟨low2, looks2, ?_, inv2, h7, h8, ?_, fun he => ?_⟩
  · rw [callN_eq hP rfl (by simp [D.stills, D.still, stills_ints])]
    have hfin : fin μ (.tup [.int low2, .int looks2]) μ = .ok (.tup [.int low2, .int looks2]) μ := fin_same (by simp [D.under, D.unders])
    simp only [f_leapt, Ss.tl, Ss.hd] at w1 w2 ⊢
    clear hst hlow hor hp i1 i2 i3 hib k1 k2 k3 k4 k5 k6 h7 h8 h9 inv inv2 hs hat hb
    sizeOf_list_dec
  · have : looks2 ≤ (if row = [] then (0 : Int) else 2 * b + 1) := h9
    split at this <;> omega
  · have : looks2 ≤ (if row = [] then (0 : Int) else 2 * b + 1) := h9
    rw [if_pos he] at this
    omega
def inB (l2 : List Int) (x : Int) : Bool := decide (x ∈ l2)
theorem mem_at {row : List Int} {at_ : Nat} {x p : Int} (hs : row.Pairwise (· < ·)) (h1 : ∀ (j : Nat) (y : Int), j < at_ → row[j]? = some y → y < x) (inv : LeapInv row at_ x p) (h2 : ∀ y, row[p.toNat]? = some y → x ≤ y) : x ∈ row ↔ row[p.toNat]? = some x := by
  constructor
  · intro h
    obtain ⟨j, hj⟩ := List.mem_iff_getElem?.mp h
    by_cases a1 : j < at_
    · have := h1 j x a1 hj; omega
    by_cases a2 : (j : Int) < p
    · have := inv.2.2 j x (by omega) a2 hj; omega
    by_cases a3 : j = p.toNat
    · rw [← a3]; exact hj
    · obtain ⟨hjl, ez⟩ := List.getElem?_eq_some_iff.mp hj
      have hpl : p.toNat < row.length := by have := inv.1; omega
      have h3 := h2 row[p.toNat] (List.getElem?_eq_getElem hpl)
      have := List.pairwise_iff_getElem.mp hs p.toNat j hpl hjl (by have := inv.1; omega)
      omega
  · intro h
    exact List.mem_iff_getElem?.mpr ⟨_, h⟩
def MetI (l1 l2 : List Int) (b : Nat) (μ : Store) (i : Nat) (ρ : Env) (μ' : Store) : Prop := ∃ (x2 x6 : Option D) (at_ : Nat) (a looks : Int), a = at_ ∧ ρ = [some (.tup (l1.map .int)), some (.tup (l2.map .int)), x2, some (.ref μ.length), some (.int a), some (.int looks), x6] ∧ μ' = μ ++ [.lst (((l1.take i).filter (inB l2)).map D.int)] ∧
    at_ ≤ l2.length ∧ (∀ (j m : Nat) (y z : Int), j < at_ → l2[j]? = some y → i ≤ m → l1[m]? = some z → y < z) ∧ 0 ≤ looks ∧ looks ≤ i * (2 * b + 2) ∧ (l2 = [] → looks = 0)
theorem take_filter {l1 : List Int} {i : Nat} {x : Int} {q : Int → Bool} (h : l1[i]? = some x) : (l1.take (i + 1)).filter q = (l1.take i).filter q ++ if q x = true then [x] else [] := by
  rw [List.take_succ, h, List.filter_append]
  congr 1
  cases hq : q x <;> simp [hq]
theorem met_turn (P : Prog) (hP : P.fn "leapt" = some f_leapt) (k : Nat) {l1 l2 : List Int} {b : Nat} {μ : Store} (hs1 : l1.Pairwise (· < ·)) (hs2 : l2.Pairwise (· < ·)) (hb : l2.length < 2 ^ b) (hl : l1.length ≤ 1000000) {i : Nat} {x : Int} {ρ : Env} {μ' : Store} (hx : l1[i]? = some x) (hI : MetI l1 l2 b μ i ρ μ') :
    ∃ ρ2 μ2, (forT P.G (callN P (k + 1)) (.v 2) f_met.body.tl.hd.bod (.int x) ρ μ' = .nx ρ2 μ2 ∨ forT P.G (callN P (k + 1)) (.v 2) f_met.body.tl.hd.bod (.int x) ρ μ' = .ct ρ2 μ2) ∧ MetI l1 l2 b μ (i + 1) ρ2 μ2 := by
  obtain ⟨x2, x6, at_, a, looks, ha, rfl, rfl, h1, h2, h3, h4, h5⟩ := hI
  subst ha
  obtain ⟨p, more, hcall, inv, hge, hm0, hm1, hme⟩ := leapt_spec P hP k (μ ++ [.lst (((l1.take i).filter (inB l2)).map D.int)]) (x := x) hs2 h1 hb
  have hbelow : ∀ (j : Nat) (y : Int), j < at_ → l2[j]? = some y → y < x := fun j y hj hy => h2 j i y x hj hy (Nat.le_refl _) hx
  have hmem := mem_at hs2 hbelow inv hge
  obtain ⟨i1, i2, i3⟩ := id inv
  have all : ∀ (j : Nat) (y : Int), (j : Int) < p → l2[j]? = some y → y < x := fun j y hj hy => by
    by_cases q : j < at_
    · exact hbelow j y q hy
    · exact i3 j y (by omega) hj hy
  have nxt : ∀ (m : Nat) (z : Int), i + 1 ≤ m → l1[m]? = some z → x < z := fun m z hm hz => by
    obtain ⟨hm1, e1⟩ := List.getElem?_eq_some_iff.mp hz
    obtain ⟨hi1, e2⟩ := List.getElem?_eq_some_iff.mp hx
    have := List.pairwise_iff_getElem.mp hs1 i m hi1 hm1 (by omega)
    omega
  have hlim : ((l1.take i).filter (inB l2)).length < LIM := by
    have a1 := List.length_filter_le (inB l2) (l1.take i)
    have a2 := List.length_take_le' i l1
    show _ < 16777216
    omega
  have hlk : (looks : Int) + more + 1 ≤ (i + 1) * (2 * b + 2) := by
    rw [Int.add_mul]; omega
  simp only [f_met, Ss.tl, Ss.hd, S.bod]
  by_cases c1 : p < l2.length
  · have hpl : p.toNat < l2.length := by omega
    have e1 : ixNat l2.length p = some p.toNat := ixNat_int (by omega) (by omega)
    have e2 : l2[p.toNat]? = some l2[p.toNat] := List.getElem?_eq_getElem hpl
    generalize hy : l2[p.toNat] = y at e2
    by_cases c2 : y = x
    · subst c2
      have hin : inB l2 y = true := decide_eq_true (hmem.mpr e2)
      refine ⟨[some (.tup (l1.map .int)), some (.tup (l2.map .int)), some (.int y), some (.ref μ.length), some (.int (p + 1)), some (.int (looks + more + 1)), some (.int more)], μ ++ [.lst (((l1.take i).filter (inB l2)).map D.int ++ [.int y])], .inl ?_, _, _, (p + 1).toNat, _, _, by omega, rfl, ?_, by omega, fun j m u z hj hu hm hz => ?_, by omega, by exact_mod_cast hlk, fun he => by subst he; simp at hpl⟩
      · clear h2 h3 h4 h5 inv hge hm0 hm1 hme hbelow hmem i1 i2 i3 all nxt hlk hpl hy hin hx hs1 hs2 hb hl h1
        sizeOf_list_dec
      · rw [take_filter hx, if_pos hin]; simp
      · have hzx := nxt m z hm hz
        by_cases q : (j : Int) < p
        · have := all j u q hu; omega
        · have : j = p.toNat := by omega
          subst this
          rw [e2] at hu; cases hu; exact hzx
    · have hin : inB l2 x = false := decide_eq_false fun h => by
        have := hmem.mp h
        rw [e2] at this; cases this; exact c2 rfl
      refine ⟨[some (.tup (l1.map .int)), some (.tup (l2.map .int)), some (.int x), some (.ref μ.length), some (.int p), some (.int (looks + more + 1)), some (.int more)], μ ++ [.lst (((l1.take i).filter (inB l2)).map D.int)], .inl ?_, _, _, p.toNat, _, _, by omega, rfl, ?_, by omega, fun j m u z hj hu hm hz => ?_, by omega, by exact_mod_cast hlk, fun he => by subst he; simp at hpl⟩
      · clear h2 h3 h4 h5 inv hge hm0 hm1 hme hbelow hmem i1 i2 i3 all nxt hlk hpl hy hin hx hs1 hs2 hb hl h1
        sizeOf_list_dec
      · rw [take_filter hx, hin]; simp
      · have hzx := nxt m z hm hz
        have := all j u (by omega) hu
        omega
  · have hin : inB l2 x = false := decide_eq_false fun h => by
      have := (List.getElem?_eq_some_iff.mp (hmem.mp h)).1
      omega
    refine ⟨[some (.tup (l1.map .int)), some (.tup (l2.map .int)), some (.int x), some (.ref μ.length), some (.int p), some (.int (looks + more)), some (.int more)], μ ++ [.lst (((l1.take i).filter (inB l2)).map D.int)], .inl ?_, _, _, p.toNat, _, _, by omega, rfl, ?_, by omega, fun j m u z hj hu hm hz => ?_, by omega, by have := hlk; push_cast; omega, fun he => by rw [h5 he, hme he]; rfl⟩
    · clear h2 h3 h4 h5 inv hge hm0 hm1 hme hbelow hmem i1 i2 i3 all nxt hlk hin hx hs1 hs2 hb hl h1
      sizeOf_list_dec
    · rw [take_filter hx, hin]; simp
    · have hzx := nxt m z hm hz
      have := all j u (by omega) hu
      omega
theorem met_spec (P : Prog) (hP : P.fn "met" = some f_met) (hP' : P.fn "leapt" = some f_leapt) (k : Nat) (μ : Store) {l1 l2 : List Int} {b : Nat} (hs1 : l1.Pairwise (· < ·)) (hs2 : l2.Pairwise (· < ·)) (hb : l2.length < 2 ^ b) (hl : l1.length ≤ 1000000) :
    ∃ looks : Int, callN P (k + 2) "met" [.tup (l1.map .int), .tup (l2.map .int)] μ = .ok (.tup [.tup ((l1.filter (inB l2)).map .int), .int looks]) μ ∧ 0 ≤ looks ∧ looks ≤ l1.length * (2 * b + 2) ∧ (l2 = [] → looks = 0) := by
  obtain ⟨ρ', μ', hfor, x2, x6, at_, a, looks, ha, rfl, rfl, h1, h2, h3, h4, h5⟩ := forGo_inv (s := .tup (l1.map .int)) (xs := l1.map .int) (f := forT P.G (callN P (k + 1)) (.v 2) f_met.body.tl.hd.bod) (MetI l1 l2 b μ) (fun _ _ _ _ => rfl)
    (fun i x ρ μ' hx hI => by
      rw [List.getElem?_map] at hx
      cases hz : l1[i]? with
      | none => rw [hz] at hx; cases hx
      | some z =>
        rw [hz] at hx; cases hx
        exact met_turn P hP' k hs1 hs2 hb hl hz hI)
    (ρ := [some (.tup (l1.map .int)), some (.tup (l2.map .int)), none, some (.ref μ.length), some (.int 0), some (.int 0), none]) (μ := μ ++ [.lst []])
    ⟨none, none, 0, 0, 0, rfl, rfl, by simp, by omega, fun j m y z hj => by omega, by omega, by simp, fun _ => rfl⟩
  rw [List.length_map] at h2 h4 hfor
  rw [List.take_length] at hfor
  refine ⟨looks, ?_, h3, h4, h5⟩
  rw [callN_eq hP rfl (by simp [D.stills, D.still, stills_ints])]
  have hfin : fin μ (.tup [.tup ((l1.filter (inB l2)).map .int), .int looks]) (μ ++ [.lst ((l1.filter (inB l2)).map .int)]) = .ok (.tup [.tup ((l1.filter (inB l2)).map .int), .int looks]) μ := fin_app (by simp [D.under, D.unders, unders_ints])
  simp only [f_met, Ss.tl, Ss.hd, S.bod] at hfor ⊢
  clear h1 h2 h3 h4 h5 ha hs1 hs2 hb hl
  sizeOf_list_dec
theorem bits_spec (P : Prog) (hP : P.fn "_law_bits" = some f_law_bits) (k : Nat) (μ : Store) (n : Nat) : ∃ b : Nat, callN P (k + 1) "_law_bits" [.int n] μ = .ok (.int b) μ ∧ n < 2 ^ b := by
  have h := whGo_inv (G := P.G) (call := callN P k) (c := f_law_bits.body.tl.hd.cnd) (b := f_law_bits.body.tl.hd.bod) (fun m ρ μ' => ∃ (f w : Int) (i : Nat), ρ = [some (.int n), some (.int f), some (.int w)] ∧ μ' = μ ∧ f = i ∧ w = 2 ^ i ∧ m = ((n : Int) + 1 - w).toNat)
    (fun o => ∃ (f w : Int) (i : Nat), o = .nx [some (.int n), some (.int f), some (.int w)] μ ∧ f = i ∧ n < 2 ^ i) ?_ n [some (.int n), some (.int 0), some (.int 1)] μ ⟨0, 1, 0, rfl, rfl, rfl, rfl, by omega⟩
  · obtain ⟨o, w1, f, w, i, rfl, hf, hi⟩ := h
    refine ⟨i, ?_, hi⟩
    subst hf
    rw [callN_eq hP rfl rfl]
    have hfin : fin μ (.int (i : Int)) μ = .ok (.int i) μ := fin_same rfl
    simp only [f_law_bits, Ss.tl, Ss.hd, S.cnd, S.bod] at w1 ⊢
    clear hi
    sizeOf_list_dec
  · rintro m ρ μ' ⟨f, w, i, rfl, rfl, hf, hw, hm⟩
    simp only [f_law_bits, Ss.tl, Ss.hd, S.cnd, S.bod]
    have hp := pow_pos2 i
    have m1 : mulOk w 2 = true := mulOk_r (by decide) (by decide)
    by_cases c : w ≤ n
    · refine .inl ⟨[some (.int n), some (.int (f + 1)), some (.int (w * 2))], μ', ((n : Int) + 1 - w * 2).toNat, ?_, by omega, f + 1, w * 2, i + 1, rfl, rfl, by omega, by rw [hw, pow_succ2]; omega, rfl⟩
      clear hf hw hm hp
      sizeOf_list_dec
    · refine .inr ⟨.nx [some (.int n), some (.int f), some (.int w)] μ', ?_, f, w, i, rfl, hf, ?_⟩
      · clear hf hw hm hp
        sizeOf_list_dec
      · have h1 : (n : Int) < 2 ^ i := by omega
        exact_mod_cast h1
def RowI (r r0 : Nat) (most far : Int) (μ : Store) (i : Nat) (ρ : Env) (μ' : Store) : Prop := ∃ (x3 : Option D) (l : List D) (row : List Int) (number : Int), ρ = [some (.ref r), some (.int most), some (.int far), x3, some (.ref μ.length), some (.int number)] ∧ μ' = μ.set r (.lst l) ++ [.lst (row.map D.int)] ∧
    DrOk r r0 (μ.set r (.lst l)) ∧ row.Pairwise (· < ·) ∧ (∀ y ∈ row, y < number) ∧ row.length = i
theorem row_turn (P : Prog) (hP : P.fn "_law_draw" = some f_law_draw) (k : Nat) {r r0 : Nat} {most far : Int} {μ : Store} (h0 : 0 < far) (h1 : far < 1073741824) {n i : Nat} {y : D} (hn : n ≤ 1000000) (hi : i < n) {ρ : Env} {μ' : Store} (hI : RowI r r0 most far μ i ρ μ') (hy : ∃ j : Int, y = .int j) :
    ∃ ρ2 μ2, (forT P.G (callN P (k + 1)) (.v 3) f_law_row.body.tl.hd.bod y ρ μ' = .nx ρ2 μ2 ∨ forT P.G (callN P (k + 1)) (.v 3) f_law_row.body.tl.hd.bod y ρ μ' = .ct ρ2 μ2) ∧ RowI r r0 most far μ (i + 1) ρ2 μ2 := by
  obtain ⟨x3, l, row, number, rfl, rfl, hd, hs, hlt, hlen⟩ := hI
  obtain ⟨j, rfl⟩ := hy
  obtain ⟨v, hv0, hv1, l', hcall, hd'⟩ := draw_app P hP k [.lst (row.map D.int ++ [.int number])] h0 h1 hd
  rw [List.set_set] at hcall hd'
  have hlim : row.length < LIM := by show _ < 16777216; omega
  simp only [f_law_row, Ss.tl, Ss.hd, S.bod]
  refine ⟨[some (.ref r), some (.int most), some (.int far), some (.int j), some (.ref μ.length), some (.int (number + 1 + v))], μ.set r (.lst l') ++ [.lst (row.map D.int ++ [.int number])], .inl ?_, some (.int j), l', row ++ [number], number + 1 + v, rfl, by simp, hd', ?_, fun z hz => ?_, by simp [hlen]⟩
  · clear hd hs hlt hlen hv0 hv1 hd' hi hn h0 h1
    sizeOf_list_dec
  · rw [List.pairwise_append]
    exact ⟨hs, by simp, fun a ha b hb => by simp at hb; subst hb; exact hlt a ha⟩
  · rcases List.mem_append.mp hz with hz | hz
    · have := hlt z hz; omega
    · simp at hz; omega
theorem row_spec (P : Prog) (hP : P.fn "_law_draw" = some f_law_draw) (hP' : P.fn "_law_row" = some f_law_row) (k : Nat) {r r0 : Nat} {most far : Int} {μ : Store} (hm0 : 0 < most) (hm1 : most ≤ 1000000) (h0 : 0 < far) (h1 : far < 1073741824) (hd : DrOk r r0 μ) :
    ∃ (row : List Int) (l : List D), callN P (k + 2) "_law_row" [.ref r, .int most, .int far] μ = .ok (.tup (row.map .int)) (μ.set r (.lst l)) ∧ DrOk r r0 (μ.set r (.lst l)) ∧ row.Pairwise (· < ·) ∧ row.length < most := by
  obtain ⟨v, hv0, hv1, l1, hc1, hd1⟩ := draw_spec P hP k r r0 μ 5 (by decide) (by decide) hd
  obtain ⟨n, hn0, hn1, l2, hc2, hd2⟩ := draw_app P hP k [.lst []] hm0 (by omega) hd1
  rw [List.set_set] at hc2 hd2
  have hb : OkB n := okB_of (by omega) (by omega)
  obtain ⟨ρ', μ', hfor, x3, l, row, number, rfl, rfl, hd3, hs, hlt, hlen⟩ := forGo_inv (s := .tl (rngL 0 n)) (xs := rngL 0 n) (f := forT P.G (callN P (k + 1)) (.v 3) f_law_row.body.tl.hd.bod) (RowI r r0 most far μ) (fun _ _ _ _ => rfl)
    (fun i x ρ μ' hx hI => by
      have hi : i < (rngL 0 n).length := (List.getElem?_eq_some_iff.mp hx).1
      rw [length_rngL] at hi
      refine row_turn P hP k h0 h1 (n := n.toNat) (by omega) (by omega) hI ?_
      rw [rngL_ints, List.getElem?_map] at hx
      rw [Option.map_eq_some_iff] at hx
      obtain ⟨j, _, e⟩ := hx
      exact ⟨j, e.symm⟩)
    (ρ := [some (.ref r), some (.int most), some (.int far), none, some (.ref μ.length), some (.int v)]) (μ := μ.set r (.lst l2) ++ [.lst []])
    ⟨none, l2, [], v, rfl, rfl, hd2, List.Pairwise.nil, by simp, rfl⟩
  rw [length_rngL] at hlen
  refine ⟨row, l, ?_, hd3, hs, by omega⟩
  rw [callN_eq hP' rfl rfl]
  have hr0 := hd.lt.2
  have hfin : fin μ (.tup (row.map D.int)) (μ.set r (.lst l) ++ [.lst (row.map D.int)]) = .ok (.tup (row.map .int)) (μ.set r (.lst l)) := fin_set (by simp [D.under, unders_ints]) (hd3.und hr0)
  simp only [f_law_row, Ss.tl, Ss.hd, S.bod] at hfor ⊢
  clear hv0 hv1 hd1 hn0 hn1 hd2 hd3 hs hlt hlen hr0 hd hm0 hm1 h0 h1
  sizeOf_list_dec
theorem filterMap_none' {α β : Type} {q : α → Option β} : ∀ l : List α, (∀ x ∈ l, q x = none) → l.filterMap q = []
  | [], _ => rfl
  | x :: l, h => by rw [List.filterMap_cons, h x (by simp)]; exact filterMap_none' l fun y hy => h y (by simp [hy])
theorem filterMap_len {α β : Type} {q : α → Option β} : ∀ l : List α, (∀ x ∈ l, ∃ y, q x = some y) → (l.filterMap q).length = l.length
  | [], _ => rfl
  | x :: l, h => by
    obtain ⟨y, hy⟩ := h x (by simp)
    rw [List.filterMap_cons, hy]
    simp [filterMap_len l fun z hz => h z (by simp [hz])]
/-- how many of the places from a on hold less than x -/
theorem due_len {row : List Int} {at_ : Nat} {x p : Int} (hs : row.Pairwise (· < ·)) (inv : LeapInv row at_ x p) (h2 : ∀ y, row[p.toNat]? = some y → x ≤ y) {q : D → Option D}
    (hq : ∀ (j : Nat) (y : Int), row[j]? = some y → q (.int (j : Int)) = if y < x then some (.int (j : Int)) else none) : ((rngL at_ row.length).filterMap q).length = p - at_ := by
  obtain ⟨i1, i2, i3⟩ := inv
  have hsplit : rngL at_ row.length = (List.range (p - at_).toNat).map (fun (i : Nat) => D.int ((at_ + i : Nat) : Int)) ++ (List.range (row.length - p).toNat).map (fun (i : Nat) => D.int ((p.toNat + i : Nat) : Int)) := by
    unfold rngL
    have e : ((row.length : Int) - at_).toNat = (p - at_).toNat + (row.length - p).toNat := by omega
    rw [e, List.range_add, List.map_append, List.map_map]
    congr 1
    refine List.map_congr_left fun i _ => ?_
    simp only [Function.comp]
    congr 1
    omega
  rw [hsplit, List.filterMap_append, List.length_append, filterMap_len, filterMap_none']
  · simp; omega
  · intro z hz
    obtain ⟨i, hi, rfl⟩ := List.mem_map.mp hz
    have hi := List.mem_range.mp hi
    have hl : p.toNat + i < row.length := by omega
    have hl0 : p.toNat < row.length := by omega
    rw [hq _ _ (List.getElem?_eq_getElem hl), if_neg]
    have h3 := h2 _ (List.getElem?_eq_getElem hl0)
    by_cases hz : i = 0
    · subst hz; simp at *; omega
    · have := List.pairwise_iff_getElem.mp hs p.toNat (p.toNat + i) hl0 hl (by omega)
      omega
  · intro z hz
    obtain ⟨i, hi, rfl⟩ := List.mem_map.mp hz
    have hi := List.mem_range.mp hi
    have hl : at_ + i < row.length := by omega
    have := i3 (at_ + i) _ (by omega) (by omega) (List.getElem?_eq_getElem hl)
    exact ⟨_, by rw [hq _ _ (List.getElem?_eq_getElem hl), if_pos this]⟩
def ltD (l2 : List Int) (x : Int) : D → Option D
  | .int z => match l2[z.toNat]? with
    | some y => if y < x then some (.int z) else none
    | none => none
  | _ => none
theorem ltD_eq {l2 : List Int} {x z y : Int} (h : l2[z.toNat]? = some y) : ltD l2 x (.int z) = if y < x then some (.int z) else none := by
  unfold ltD; simp only [h]
/-- the state between the law's turns -/
def LawI (l1 l2 : List Int) (s : D) (_ : Nat) (ρ : Env) (μ : Store) : Prop := ∃ x2 x4 x7 x8 x9 x10 x11 x12 x13 : Option D, ρ = [some s, some (.ref 1), x2, none, x4, some (.tup (l1.map .int)), some (.tup (l2.map .int)), x7, x8, x9, x10, x11, x12, x13] ∧ DrOk 1 0 μ
theorem dr_set {r r0 : Nat} {μ : Store} {o o' : Obj} (h : DrOk r r0 ((μ.set r o).set r o')) : DrOk r r0 (μ.set r o') := by rwa [List.set_set] at h
/-- the inner turn -/
def wIn : S := (f_law.body.tl.hd.bod.tl.tl.tl.tl.tl).hd
theorem in_turn (P : Prog) (hD : P.fn "_law_draw" = some f_law_draw) (hL : P.fn "leapt" = some f_leapt) (hB : P.fn "_law_bits" = some f_law_bits) (hS : P.fn "_law_same" = some f_law_same) (k : Nat) {l1 l2 : List Int} {s : D} (hs2 : l2.Pairwise (· < ·)) (hl2 : l2.length ≤ 1000) {i : Nat} {y : D} (hy : ∃ j : Int, y = .int j) {ρ : Env} {μ : Store} (hI : LawI l1 l2 s i ρ μ) :
    ∃ ρ2 μ2, (forT P.G (callN P (k + 1)) (.v 4) wIn.bod y ρ μ = .nx ρ2 μ2 ∨ forT P.G (callN P (k + 1)) (.v 4) wIn.bod y ρ μ = .ct ρ2 μ2) ∧ LawI l1 l2 s (i + 1) ρ2 μ2 := by
  obtain ⟨x2, x4, x7, x8, x9, x10, x11, x12, x13, rfl, hd⟩ := hI
  obtain ⟨j, rfl⟩ := hy
  obtain ⟨a, ha0, ha1, o1, hc1, hd1⟩ := draw_spec P hD k 1 0 μ (l2.length + 1) (by omega) (by omega) hd
  obtain ⟨at_, rfl⟩ := Int.eq_ofNat_of_zero_le ha0
  obtain ⟨x, hx0, hx1, o2, hc2, hd2⟩ := draw_spec P hD k 1 0 (μ.set 1 (.lst o1)) 300 (by decide) (by decide) hd1
  rw [List.set_set] at hc2 hd2
  obtain ⟨b, hcb, hb⟩ := bits_spec P hB k (μ.set 1 (.lst o2)) l2.length
  obtain ⟨p, looks, hcl, inv, hge, hk0, hk1, _⟩ := leapt_spec P hL k (μ.set 1 (.lst o2)) (x := x) hs2 (show at_ ≤ l2.length by omega) hb
  have hsm := same_int P hS k (μ.set 1 (.lst o2)) p
  have hbk : OkB (at_ : Int) := okB_of (by omega) (by omega)
  have hbk2 : OkB (l2.length : Int) := okB_of (by omega) (by omega)
  have hlc := lcGo_map (s := .tl (rngL at_ l2.length)) (xs := rngL at_ l2.length) (μ := μ.set 1 (.lst o2)) (f := lcT P.G (callN P (k + 1)) (.var 13) (.v 13) [("k", 13)] (.cons (.cmp .lt (.ix (.var 6) (.var 13)) (.var 11)) .nil) [some s, some (.ref 1), x2, none, some (.int j), some (.tup (l1.map .int)), some (.tup (l2.map .int)), x7, some (.int looks), x9, some (.int at_), some (.int x), some (.int p), x13])
    (ltD l2 x) rfl (rngL at_ l2.length) []
    (fun y hy => by
      unfold rngL at hy
      obtain ⟨j, hj, rfl⟩ := List.mem_map.mp hy
      have hj := List.mem_range.mp hj
      have e1 : ixNat l2.length ((at_ : Int) + (j : Int)) = some (at_ + j) := by
        rw [← Int.natCast_add]; exact ixNat_nat (by omega)
      have e2 : l2[at_ + j]? = some l2[at_ + j] := List.getElem?_eq_getElem (by omega)
      have e3 : ((at_ : Int) + (j : Int)).toNat = at_ + j := by omega
      generalize l2[at_ + j]'(by omega) = z at e2
      have hq := ltD_eq (x := x) (z := (at_ : Int) + (j : Int)) (by rw [e3]; exact e2)
      clear e3
      clear hcl hc1 hc2 hcb hsm
      by_cases c : z < x
      · clear inv hge hk0 hk1 hd hd1 hd2 hb hs2 hl2 ha0 ha1 hx0 hx1 hbk hbk2 hy hj
        sizeOf_list_dec
      · clear inv hge hk0 hk1 hd hd1 hd2 hb hs2 hl2 ha0 ha1 hx0 hx1 hbk hbk2 hy hj
        sizeOf_list_dec) (by rw [length_rngL]; show _ ≤ 16777216; simp; omega)
  have hdue := due_len hs2 inv hge (q := ltD l2 x) (fun j y hj => ltD_eq (by simpa using hj))
  generalize (rngL at_ l2.length).filterMap (ltD l2 x) = L at hlc hdue
  rw [List.nil_append] at hlc
  have hdue' : (at_ : Int) + (L.length : Int) = p := by omega
  have m1 : mulOk 2 (b : Int) = true := by unfold mulOk; simp
  have hk0' : ¬ looks < 0 := by omega
  have hk1' : ¬ (2 * (b : Int) + 1 < looks) := by omega
  refine ⟨[some s, some (.ref 1), x2, none, some (.int j), some (.tup (l1.map .int)), some (.tup (l2.map .int)), x7, some (.int looks), some (.int p), some (.int at_), some (.int x), some (.int p), x13], μ.set 1 (.lst o2), .inl ?_, _, _, _, _, _, _, _, _, _, rfl, hd2⟩
  simp only [wIn, f_law, Ss.tl, Ss.hd, S.bod]
  clear inv hge hk0 hk1 hd hd1 hd2 hb hs2 hl2 ha0 ha1 hx0 hx1 hdue
  sizeOf_list_dec
def memD (l2 : List Int) : D → Option D
  | .int z => if inB l2 z = true then some (.int z) else none
  | _ => none
theorem memD_filter (l2 : List Int) : ∀ l1 : List Int, (l1.map D.int).filterMap (memD l2) = (l1.filter (inB l2)).map D.int
  | [] => rfl
  | x :: l1 => by
    rw [List.map_cons, List.filterMap_cons, List.filter_cons, memD_filter l2 l1]
    unfold memD
    cases h : inB l2 x <;> simp [h]
theorem inRow_ints {z : Int} (l2 : List Int) : inRow (.int z) (l2.map D.int) = some (inB l2 z) := by
  have h1 : (l2.map D.int).all D.flat = true := by simp [List.all_map, D.flat]
  unfold inRow
  rw [if_pos ⟨rfl, h1⟩]
  congr 1
  rw [List.any_map]
  unfold inB
  induction l2 with
  | nil => rfl
  | cons y l ih =>
    have ih := ih (by simp [List.all_map, D.flat])
    rw [List.any_cons, ih]
    show (y == z || decide (z ∈ l)) = _
    by_cases h : y = z
    · subst h; simp
    · have h' : z ≠ y := fun e => h e.symm
      simp [h, h']
theorem turn_tail (P : Prog) (hD : P.fn "_law_draw" = some f_law_draw) (hL : P.fn "leapt" = some f_leapt) (hM : P.fn "met" = some f_met) (hB : P.fn "_law_bits" = some f_law_bits) (hS : P.fn "_law_same" = some f_law_same) (k : Nat) {l1 l2 : List Int} {s : D} (hs1 : l1.Pairwise (· < ·)) (hs2 : l2.Pairwise (· < ·)) (hl1 : l1.length ≤ 1000) (hl2 : l2.length ≤ 1000)
    {x2 x4 x7 x8 x9 x10 x11 x12 x13 : Option D} {μ : Store} (hd : DrOk 1 0 μ) :
    ∃ ρ2 μ2, execs P.G (callN P (k + 2)) f_law.body.tl.hd.bod.tl.tl [some s, some (.ref 1), x2, none, x4, some (.tup (l1.map .int)), some (.tup (l2.map .int)), x7, x8, x9, x10, x11, x12, x13] μ = .nx ρ2 μ2 ∧ LawI l1 l2 s 0 ρ2 μ2 := by
  obtain ⟨b, hcb, hb⟩ := bits_spec P hB (k + 1) μ l2.length
  obtain ⟨looks, hcm, hk0, hk1, hk2⟩ := met_spec P hM hL k μ hs1 hs2 hb (by omega)
  have hsm := same_int P hS (k + 1) μ looks
  have hst := same_tup P hS k μ (l1.filter (inB l2)) (by have := List.length_filter_le (inB l2) l1; omega)
  have hlc := lcGo_map (s := .tup (l1.map .int)) (xs := l1.map .int) (μ := μ) (f := lcT P.G (callN P (k + 2)) (.var 11) (.v 11) [("number", 11)] (.cons (.cmp .inn (.var 11) (.var 6)) .nil) [some s, some (.ref 1), x2, none, x4, some (.tup (l1.map .int)), some (.tup (l2.map .int)), some (.tup ((l1.filter (inB l2)).map .int)), some (.int looks), x9, x10, x11, x12, x13])
    (memD l2) rfl (l1.map .int) []
    (fun y hy => by
      obtain ⟨z, hz, rfl⟩ := List.mem_map.mp hy
      have hir := inRow_ints (z := z) l2
      cases hb : inB l2 z with
      | true =>
        have hm : memD l2 (.int z) = some (.int z) := if_pos hb
        clear hcb hcm hsm hst hk0 hk1 hk2 hy hz hs1 hs2 hl1 hl2 hd
        sizeOf_list_dec
      | false =>
        have hm : memD l2 (.int z) = none := by unfold memD; simp only [hb]; rfl
        clear hcb hcm hsm hst hk0 hk1 hk2 hy hz hs1 hs2 hl1 hl2 hd
        sizeOf_list_dec) (by rw [List.length_map]; show _ ≤ 16777216; simp; omega)
  rw [memD_filter, List.nil_append] at hlc
  obtain ⟨ρ3, μ3, hfor, hI⟩ := forGo_inv (s := .tl (rngL 0 6)) (xs := rngL 0 6) (f := forT P.G (callN P (k + 2)) (.v 4) wIn.bod) (LawI l1 l2 s) (fun _ _ _ _ => rfl)
    (fun i x ρ μ' hx hI => by
      refine in_turn P hD hL hB hS (k + 1) hs2 hl2 ?_ hI
      rw [rngL_ints, List.getElem?_map, Option.map_eq_some_iff] at hx
      obtain ⟨j, _, e⟩ := hx
      exact ⟨j, e.symm⟩)
    (ρ := [some s, some (.ref 1), x2, none, x4, some (.tup (l1.map .int)), some (.tup (l2.map .int)), some (.tup ((l1.filter (inB l2)).map .int)), some (.int looks), x9, x10, x11, x12, x13]) (μ := μ)
    ⟨_, _, _, _, _, _, _, _, _, rfl, hd⟩
  obtain ⟨y2, y4, y7, y8, y9, y10, y11, y12, y13, rfl, hd3⟩ := hI
  refine ⟨_, μ3, ?_, y2, y4, y7, y8, y9, y10, y11, y12, y13, rfl, hd3⟩
  have m1 : mulOk 2 (b : Int) = true := by unfold mulOk; simp
  have m2 : mulOk (l1.length : Int) (2 * (b : Int) + 2) = true := by
    unfold mulOk
    have a1 : decide (-(2 ^ 64) < (l1.length : Int)) = true := decide_eq_true (by omega)
    have a2 : decide ((l1.length : Int) < 2 ^ 64) = true := decide_eq_true (by omega)
    rw [a1, a2]; simp
  have hk0' : ¬ looks < 0 := by omega
  have hk1' : ¬ ((l1.length : Int) * (2 * (b : Int) + 2) < looks) := by omega
  have hb6 : OkB 6 := okB_of (by decide) (by decide)
  simp only [wIn, f_law, Ss.tl, Ss.hd, S.bod] at hfor ⊢
  by_cases he : l2 = []
  · have hE : eqD μ (.tup (l2.map D.int)) (.tup []) = some true := by
      have := eqD_tupI (μ := μ) l2 []
      rw [decide_eq_true he] at this
      exact this
    obtain rfl := hk2 he
    clear hk0 hk1 hk2 hd hd3 hs1 hs2 hl1 hl2 hb he
    sizeOf_list_dec
  · have hE : eqD μ (.tup (l2.map D.int)) (.tup []) = some false := by
      have := eqD_tupI (μ := μ) l2 []
      rw [decide_eq_false he] at this
      exact this
    clear hk0 hk1 hk2 hd hd3 hs1 hs2 hl1 hl2 hb he
    sizeOf_list_dec
/-- between the outer turns -/
def OutI (s : D) (_ : Nat) (ρ : Env) (μ : Store) : Prop := ∃ x2 x4 x5 x6 x7 x8 x9 x10 x11 x12 x13 : Option D, ρ = [some s, some (.ref 1), x2, none, x4, x5, x6, x7, x8, x9, x10, x11, x12, x13] ∧ DrOk 1 0 μ
theorem out_turn (P : Prog) (hD : P.fn "_law_draw" = some f_law_draw) (hR : P.fn "_law_row" = some f_law_row) (hL : P.fn "leapt" = some f_leapt) (hM : P.fn "met" = some f_met) (hB : P.fn "_law_bits" = some f_law_bits) (hS : P.fn "_law_same" = some f_law_same) (k : Nat) {s : D} {i : Nat} {y : D} (hy : ∃ j : Int, y = .int j) {ρ : Env} {μ : Store} (hI : OutI s i ρ μ) :
    ∃ ρ2 μ2, (forT P.G (callN P (k + 2)) (.v 2) f_law.body.tl.hd.bod y ρ μ = .nx ρ2 μ2 ∨ forT P.G (callN P (k + 2)) (.v 2) f_law.body.tl.hd.bod y ρ μ = .ct ρ2 μ2) ∧ OutI s (i + 1) ρ2 μ2 := by
  obtain ⟨x2, x4, x5, x6, x7, x8, x9, x10, x11, x12, x13, rfl, hd⟩ := hI
  obtain ⟨j, rfl⟩ := hy
  obtain ⟨v1, ha0, ha1, o1, hc1, hd1⟩ := draw_spec P hD (k + 1) 1 0 μ 60 (by decide) (by decide) hd
  obtain ⟨l1, o2, hc2, hd2, hs1, hl1⟩ := row_spec P hD hR k (most := 9) (far := v1 + 1) (by decide) (by decide) (by omega) (by omega) hd1
  rw [List.set_set] at hc2 hd2
  obtain ⟨v3, hb0, hb1, o3, hc3, hd3⟩ := draw_spec P hD (k + 1) 1 0 (μ.set 1 (.lst o2)) 4 (by decide) (by decide) hd2
  rw [List.set_set] at hc3 hd3
  obtain ⟨l2, o4, hc4, hd4, hs2, hl2⟩ := row_spec P hD hR k (most := 120) (far := v3 + 1) (by decide) (by decide) (by omega) (by omega) hd3
  rw [List.set_set] at hc4 hd4
  obtain ⟨v5, he0, he1, o5, hc5, hd5⟩ := draw_spec P hD (k + 1) 1 0 (μ.set 1 (.lst o4)) 3 (by decide) (by decide) hd4
  rw [List.set_set] at hc5 hd5
  by_cases c : v5 = 0
  · subst c
    obtain ⟨ρ2, μ2, ht, z2, z4, z7, z8, z9, z10, z11, z12, z13, rfl, hdz⟩ := turn_tail P hD hL hM hB hS k (l1 := l2) (l2 := l1) (s := s) (x2 := some (.int j)) (x4 := x4) (x7 := x7) (x8 := x8) (x9 := x9) (x10 := x10) (x11 := x11) (x12 := x12) (x13 := x13) hs2 hs1 (by omega) (by omega) hd5
    refine ⟨[some s, some (.ref 1), z2, none, z4, some (.tup (l2.map .int)), some (.tup (l1.map .int)), z7, z8, z9, z10, z11, z12, z13], μ2, .inl ?_, z2, z4, some (.tup (l2.map .int)), some (.tup (l1.map .int)), z7, z8, z9, z10, z11, z12, z13, rfl, hdz⟩
    clear ha0 ha1 hd1 hd2 hs1 hl1 hb0 hb1 hd3 hd4 hs2 hl2 he0 he1 hd5 hdz hd
    rw [show f_law.body.tl.hd.bod = .cons f_law.body.tl.hd.bod.hd (.cons f_law.body.tl.hd.bod.tl.hd f_law.body.tl.hd.bod.tl.tl) from rfl]
    generalize f_law.body.tl.hd.bod.tl.tl = T at ht ⊢
    simp only [f_law, Ss.tl, Ss.hd, S.bod]
    sizeOf_list_dec
  · obtain ⟨ρ2, μ2, ht, z2, z4, z7, z8, z9, z10, z11, z12, z13, rfl, hdz⟩ := turn_tail P hD hL hM hB hS k (l1 := l1) (l2 := l2) (s := s) (x2 := some (.int j)) (x4 := x4) (x7 := x7) (x8 := x8) (x9 := x9) (x10 := x10) (x11 := x11) (x12 := x12) (x13 := x13) hs1 hs2 (by omega) (by omega) hd5
    refine ⟨[some s, some (.ref 1), z2, none, z4, some (.tup (l1.map .int)), some (.tup (l2.map .int)), z7, z8, z9, z10, z11, z12, z13], μ2, .inl ?_, z2, z4, some (.tup (l1.map .int)), some (.tup (l2.map .int)), z7, z8, z9, z10, z11, z12, z13, rfl, hdz⟩
    clear ha0 ha1 hd1 hd2 hs1 hl1 hb0 hb1 hd3 hd4 hs2 hl2 he0 he1 hd5 hdz hd
    rw [show f_law.body.tl.hd.bod = .cons f_law.body.tl.hd.bod.hd (.cons f_law.body.tl.hd.bod.tl.hd f_law.body.tl.hd.bod.tl.tl) from rfl]
    generalize f_law.body.tl.hd.bod.tl.tl = T at ht ⊢
    simp only [f_law, Ss.tl, Ss.hd, S.bod]
    sizeOf_list_dec
theorem law_holds (ns : List Int) (h : ns.length ≤ 63) : ∃ μ, callN prog 12 "law" [.fz (ns.map .int)] [] = .ok (.bl true) μ := by
  have hD : prog.fn "_law_draw" = some f_law_draw := rfl
  have hR : prog.fn "_law_row" = some f_law_row := rfl
  have hL : prog.fn "leapt" = some f_leapt := rfl
  have hM : prog.fn "met" = some f_met := rfl
  have hB : prog.fn "_law_bits" = some f_law_bits := rfl
  have hS : prog.fn "_law_same" = some f_law_same := rfl
  have hds := draws_spec prog rfl 10 [] ns
  obtain ⟨ρ3, μ3, hfor, x2, x4, x5, x6, x7, x8, x9, x10, x11, x12, x13, rfl, hd⟩ := forGo_inv (s := .tl (rngL 0 8)) (xs := rngL 0 8) (f := forT prog.G (callN prog 11) (.v 2) f_law.body.tl.hd.bod) (OutI (.fz (ns.map .int))) (fun _ _ _ _ => rfl)
    (fun i x ρ μ' hx hI => by
      refine out_turn prog hD hR hL hM hB hS 9 ?_ hI
      rw [rngL_ints, List.getElem?_map, Option.map_eq_some_iff] at hx
      obtain ⟨j, _, e⟩ := hx
      exact ⟨j, e.symm⟩)
    (ρ := [some (.fz (ns.map .int)), some (.ref 1), none, none, none, none, none, none, none, none, none, none, none, none]) (μ := [.lst (ns.map .int), .lst [.ref 0, .int 0, .int 0, .int 1]])
    ⟨_, _, _, _, _, _, _, _, _, _, _, rfl, ⟨ns, 0, 0, 1, rfl, by decide, rfl, by decide, by decide⟩⟩
  have hb8 : OkB 8 := okB_of (by decide) (by decide)
  generalize hRow : (List.range ((1000 : Int) - 0).toNat).map (fun (i : Nat) => (0 : Int) + (i : Int)) = R
  have eR : rngL 0 1000 = R.map .int := by rw [rngL_ints, hRow]
  have hsR : R.Pairwise (· < ·) := by
    rw [← hRow, List.pairwise_map]
    exact List.Pairwise.imp (fun {a b} h => by omega) List.pairwise_lt_range
  have hlR : R.length = 1000 := by rw [← hRow]; simp
  have h998 : (998 : Int) ∈ R := by
    rw [← hRow]
    exact List.mem_map.mpr ⟨998, List.mem_range.mpr (by decide), rfl⟩
  clear hRow
  have hb10 : R.length < 2 ^ 10 := by rw [hlR]; decide
  obtain ⟨k1, hm1, a1, b1, _⟩ := met_spec prog hM hL 9 μ3 (l1 := [998]) (l2 := R) (List.pairwise_singleton _ _) hsR hb10 (by simp)
  obtain ⟨k2, hm2, a2, b2, _⟩ := met_spec prog hM hL 9 μ3 (l1 := R) (l2 := R) hsR hsR hb10 (by omega)
  obtain ⟨k3, hm3, a3, b3, _⟩ := met_spec prog hM hL 9 μ3 (l1 := []) (l2 := R) List.Pairwise.nil hsR hb10 (by simp)
  have f1 : [(998 : Int)].filter (inB R) = [998] := by
    rw [List.filter_cons, if_pos (show inB R 998 = true from decide_eq_true h998)]; rfl
  have f2 : R.filter (inB R) = R := List.filter_eq_self.mpr fun a ha => decide_eq_true ha
  have f3 : ([] : List Int).filter (inB R) = [] := rfl
  rw [f1] at hm1
  rw [f2] at hm2
  rw [f3] at hm3
  have hk1 : k1 ≤ 22 := by simpa using b1
  have hk3 : k3 = 0 := by simp at b3; omega
  subst hk3
  have q1 : eqD μ3 (.tup [.int 998]) (.tup [.int 998]) = some true := by
    have := eqD_tupI (μ := μ3) [998] [998]
    rw [decide_eq_true rfl] at this
    exact this
  have q2 : eqD μ3 (.tup (R.map .int)) (.tup (R.map .int)) = some true := by
    rw [eqD_tupI, decide_eq_true rfl]
  have q3 : eqD μ3 (.tup [.tup [], .int 0]) (.tup [.tup [], .int 0]) = some true := rfl
  have e0 : ixNat 2 0 = some 0 := rfl
  have e1 : ixNat 2 1 = some 1 := rfl
  refine ⟨[], ?_⟩
  rw [callN_eq (F := f_law) rfl rfl rfl]
  have hfin : fin [] (.bl true) μ3 = .ok (.bl true) [] := by
    unfold fin
    simp [oldOk, D.under]
  have l3 : (0 : Int) ≤ 1000 := by decide
  have l4 : (1000 : Int) ≤ 16777216 := by decide
  simp only [f_law, Ss.tl, Ss.hd, S.bod] at hfor ⊢
  simp only [Nat.reduceAdd, List.map_cons, List.map_nil] at hm1 hm2 hm3 hds
  clear hD hR hL hM hB hS hd hsR hlR h998 hb10 a1 b1 a2 b2 a3 b3 f1 f2 f3 h
  sizeOf_list_dec
end K28
end Mp
end SK28p
section SK28z
namespace Mp.K28
open PySem PySem.Spec PyProof.Rows L2
def topS (i : Nat) : Stmt := PySem.Challenge.pw_seekwright_k28_whole_numbers_met_by_leap.main.body.getD i (.Pass ⟨0, 0, 0, 0⟩)
def fsl : List String := ["met", "leapt", "_law_draws", "_law_draw", "_law_same", "_law_row", "_law_bits", "law"]
abbrev s_met : Stmt := topS 1
theorem sc_met : FnScope (nm f_met.names) (FnF.ps f_met) (defScope s_met) := ⟨rfl, rfl, rfl, by decide +kernel, by decide +kernel, by decide +kernel, by decide +kernel⟩
theorem mt_met : mSs (nm f_met.names) fsl (defScope s_met) f_met.body (defBody s_met) = true := by decide +kernel
abbrev s_leapt : Stmt := topS 2
theorem sc_leapt : FnScope (nm f_leapt.names) (FnF.ps f_leapt) (defScope s_leapt) := ⟨rfl, rfl, rfl, by decide +kernel, by decide +kernel, by decide +kernel, by decide +kernel⟩
theorem mt_leapt : mSs (nm f_leapt.names) fsl (defScope s_leapt) f_leapt.body (defBody s_leapt) = true := by decide +kernel
abbrev s_law_draws : Stmt := topS 4
theorem sc_law_draws : FnScope (nm f_law_draws.names) (FnF.ps f_law_draws) (defScope s_law_draws) := ⟨rfl, rfl, rfl, by decide +kernel, by decide +kernel, by decide +kernel, by decide +kernel⟩
theorem mt_law_draws : mSs (nm f_law_draws.names) fsl (defScope s_law_draws) f_law_draws.body (defBody s_law_draws) = true := by decide +kernel
abbrev s_law_draw : Stmt := topS 5
theorem sc_law_draw : FnScope (nm f_law_draw.names) (FnF.ps f_law_draw) (defScope s_law_draw) := ⟨rfl, rfl, rfl, by decide +kernel, by decide +kernel, by decide +kernel, by decide +kernel⟩
theorem mt_law_draw : mSs (nm f_law_draw.names) fsl (defScope s_law_draw) f_law_draw.body (defBody s_law_draw) = true := by decide +kernel
abbrev s_law_same : Stmt := topS 6
theorem sc_law_same : FnScope (nm f_law_same.names) (FnF.ps f_law_same) (defScope s_law_same) := ⟨rfl, rfl, rfl, by decide +kernel, by decide +kernel, by decide +kernel, by decide +kernel⟩
theorem mt_law_same : mSs (nm f_law_same.names) fsl (defScope s_law_same) f_law_same.body (defBody s_law_same) = true := by decide +kernel
abbrev s_law_row : Stmt := topS 7
theorem sc_law_row : FnScope (nm f_law_row.names) (FnF.ps f_law_row) (defScope s_law_row) := ⟨rfl, rfl, rfl, by decide +kernel, by decide +kernel, by decide +kernel, by decide +kernel⟩
theorem mt_law_row : mSs (nm f_law_row.names) fsl (defScope s_law_row) f_law_row.body (defBody s_law_row) = true := by decide +kernel
abbrev s_law_bits : Stmt := topS 8
theorem sc_law_bits : FnScope (nm f_law_bits.names) (FnF.ps f_law_bits) (defScope s_law_bits) := ⟨rfl, rfl, rfl, by decide +kernel, by decide +kernel, by decide +kernel, by decide +kernel⟩
theorem mt_law_bits : mSs (nm f_law_bits.names) fsl (defScope s_law_bits) f_law_bits.body (defBody s_law_bits) = true := by decide +kernel
abbrev s_law : Stmt := topS 9
theorem sc_law : FnScope (nm f_law.names) (FnF.ps f_law) (defScope s_law) := ⟨rfl, rfl, rfl, by decide +kernel, by decide +kernel, by decide +kernel, by decide +kernel⟩
theorem mt_law : mSs (nm f_law.names) fsl (defScope s_law) f_law.body (defBody s_law) = true := by decide +kernel
section
variable {P : Program} {w : World} {K : PySem.W.Frag} {mg : Str → Option Value} {h : Heap}
theorem all_mk {fa f0 f1 f2 f3 f4 f5 f6 f7 : Addr} (X : K.In h) (G : h.Ns mainGlobals mg) (hfa : mg "law" = some (.ref fa))
    {od0 an0 : Option Addr} {sl0 : Array (Option Value)} {oc0 kV0 dc0 pm0 cd0 ct0 : Value}
    {od1 an1 : Option Addr} {sl1 : Array (Option Value)} {oc1 kV1 dc1 pm1 cd1 ct1 : Value}
    {od2 an2 : Option Addr} {sl2 : Array (Option Value)} {oc2 kV2 dc2 pm2 cd2 ct2 : Value}
    {od3 an3 : Option Addr} {sl3 : Array (Option Value)} {oc3 kV3 dc3 pm3 cd3 ct3 : Value}
    {od4 an4 : Option Addr} {sl4 : Array (Option Value)} {oc4 kV4 dc4 pm4 cd4 ct4 : Value}
    {od5 an5 : Option Addr} {sl5 : Array (Option Value)} {oc5 kV5 dc5 pm5 cd5 ct5 : Value}
    {od6 an6 : Option Addr} {sl6 : Array (Option Value)} {oc6 kV6 dc6 pm6 cd6 ct6 : Value}
    {od7 an7 : Option Addr} {sl7 : Array (Option Value)} {oc7 kV7 dc7 pm7 cd7 ct7 : Value}
    (a0 : PySem.W.nsIn K mainGlobals "met" = some (some (.ref f0))) (l0 : K.lookup f0 = some ⟨oc0, od0, .func (PySem.W.fnOf "met" "met" (defArgs s_met) (defBody s_met) (defScope s_met) .none kV0 dc0 pm0 an0 cd0 ct0), sl0⟩) (c0 : PySem.W.codeIn K cd0 "met" = true) (k0 : PySem.W.keepIn K (.ref f0) = true)
    (a1 : PySem.W.nsIn K mainGlobals "leapt" = some (some (.ref f1))) (l1 : K.lookup f1 = some ⟨oc1, od1, .func (PySem.W.fnOf "leapt" "leapt" (defArgs s_leapt) (defBody s_leapt) (defScope s_leapt) .none kV1 dc1 pm1 an1 cd1 ct1), sl1⟩) (c1 : PySem.W.codeIn K cd1 "leapt" = true) (k1 : PySem.W.keepIn K (.ref f1) = true)
    (a2 : PySem.W.nsIn K mainGlobals "_law_draws" = some (some (.ref f2))) (l2 : K.lookup f2 = some ⟨oc2, od2, .func (PySem.W.fnOf "_law_draws" "_law_draws" (defArgs s_law_draws) (defBody s_law_draws) (defScope s_law_draws) .none kV2 dc2 pm2 an2 cd2 ct2), sl2⟩) (c2 : PySem.W.codeIn K cd2 "_law_draws" = true) (k2 : PySem.W.keepIn K (.ref f2) = true)
    (a3 : PySem.W.nsIn K mainGlobals "_law_draw" = some (some (.ref f3))) (l3 : K.lookup f3 = some ⟨oc3, od3, .func (PySem.W.fnOf "_law_draw" "_law_draw" (defArgs s_law_draw) (defBody s_law_draw) (defScope s_law_draw) .none kV3 dc3 pm3 an3 cd3 ct3), sl3⟩) (c3 : PySem.W.codeIn K cd3 "_law_draw" = true) (k3 : PySem.W.keepIn K (.ref f3) = true)
    (a4 : PySem.W.nsIn K mainGlobals "_law_same" = some (some (.ref f4))) (l4 : K.lookup f4 = some ⟨oc4, od4, .func (PySem.W.fnOf "_law_same" "_law_same" (defArgs s_law_same) (defBody s_law_same) (defScope s_law_same) .none kV4 dc4 pm4 an4 cd4 ct4), sl4⟩) (c4 : PySem.W.codeIn K cd4 "_law_same" = true) (k4 : PySem.W.keepIn K (.ref f4) = true)
    (a5 : PySem.W.nsIn K mainGlobals "_law_row" = some (some (.ref f5))) (l5 : K.lookup f5 = some ⟨oc5, od5, .func (PySem.W.fnOf "_law_row" "_law_row" (defArgs s_law_row) (defBody s_law_row) (defScope s_law_row) .none kV5 dc5 pm5 an5 cd5 ct5), sl5⟩) (c5 : PySem.W.codeIn K cd5 "_law_row" = true) (k5 : PySem.W.keepIn K (.ref f5) = true)
    (a6 : PySem.W.nsIn K mainGlobals "_law_bits" = some (some (.ref f6))) (l6 : K.lookup f6 = some ⟨oc6, od6, .func (PySem.W.fnOf "_law_bits" "_law_bits" (defArgs s_law_bits) (defBody s_law_bits) (defScope s_law_bits) .none kV6 dc6 pm6 an6 cd6 ct6), sl6⟩) (c6 : PySem.W.codeIn K cd6 "_law_bits" = true) (k6 : PySem.W.keepIn K (.ref f6) = true)
    (a7 : PySem.W.nsIn K mainGlobals "law" = some (some (.ref f7))) (l7 : K.lookup f7 = some ⟨oc7, od7, .func (PySem.W.fnOf "law" "law" (defArgs s_law) (defBody s_law) (defScope s_law) .none kV7 dc7 pm7 an7 cd7 ct7), sl7⟩) (c7 : PySem.W.codeIn K cd7 "law" = true) (k7 : PySem.W.keepIn K (.ref f7) = true)
    (z0 : PySem.W.nsIn K mainGlobals "len" = some none) (z1 : PySem.W.nsIn K mainGlobals "tuple" = some none) (z2 : PySem.W.nsIn K mainGlobals "list" = some none) (z3 : PySem.W.nsIn K mainGlobals "int" = some none) (z4 : PySem.W.nsIn K mainGlobals "min" = some none) (z5 : PySem.W.nsIn K mainGlobals "max" = some none) (z6 : PySem.W.nsIn K mainGlobals "isinstance" = some none) (z7 : PySem.W.nsIn K mainGlobals "sum" = some none) (z8 : PySem.W.nsIn K mainGlobals "abs" = some none) (z9 : PySem.W.nsIn K mainGlobals "all" = some none) (z10 : PySem.W.nsIn K mainGlobals "any" = some none) (z11 : PySem.W.nsIn K mainGlobals "range" = some none) (z12 : PySem.W.nsIn K mainGlobals "bool" = some none) (z13 : PySem.W.nsIn K mainGlobals "str" = some none) :
    ∃ fd : FuncData, (∀ (s : Shared) (v : Value), BindsTo s fd ⟨[v], []⟩ [("script", v)]) ∧ ∀ base : Heap, K.In base → base.Ns mainGlobals mg → FnOk P w K mg base (L2.CX P w) 12 fa fd ["script"] (spL K prog 12) := by
  have e := hfa.symm.trans (PySem.W.mg_of X G a7)
  cases e
  have F0 := fun_mk (st := s_met) l0 c0 k0
  have b0 := F0.binds (ps := FnF.ps f_met) fun _ _ _ _ _ _ us hl => match us, hl with | [_, _], _ => rfl
  have q0 : FnF K (tabf [("met", f0), ("leapt", f1), ("_law_draws", f2), ("_law_draw", f3), ("_law_same", f4), ("_law_row", f5), ("_law_bits", f6), ("law", fa)]) fsl f_met f0 _ _ _ := ⟨by rfl, F0, sc_met, b0, mt_met, by decide⟩
  have F1 := fun_mk (st := s_leapt) l1 c1 k1
  have b1 := F1.binds (ps := FnF.ps f_leapt) fun _ _ _ _ _ _ us hl => match us, hl with | [_, _, _], _ => rfl
  have q1 : FnF K (tabf [("met", f0), ("leapt", f1), ("_law_draws", f2), ("_law_draw", f3), ("_law_same", f4), ("_law_row", f5), ("_law_bits", f6), ("law", fa)]) fsl f_leapt f1 _ _ _ := ⟨by rfl, F1, sc_leapt, b1, mt_leapt, by decide⟩
  have F2 := fun_mk (st := s_law_draws) l2 c2 k2
  have b2 := F2.binds (ps := FnF.ps f_law_draws) fun _ _ _ _ _ _ us hl => match us, hl with | [_], _ => rfl
  have q2 : FnF K (tabf [("met", f0), ("leapt", f1), ("_law_draws", f2), ("_law_draw", f3), ("_law_same", f4), ("_law_row", f5), ("_law_bits", f6), ("law", fa)]) fsl f_law_draws f2 _ _ _ := ⟨by rfl, F2, sc_law_draws, b2, mt_law_draws, by decide⟩
  have F3 := fun_mk (st := s_law_draw) l3 c3 k3
  have b3 := F3.binds (ps := FnF.ps f_law_draw) fun _ _ _ _ _ _ us hl => match us, hl with | [_, _], _ => rfl
  have q3 : FnF K (tabf [("met", f0), ("leapt", f1), ("_law_draws", f2), ("_law_draw", f3), ("_law_same", f4), ("_law_row", f5), ("_law_bits", f6), ("law", fa)]) fsl f_law_draw f3 _ _ _ := ⟨by rfl, F3, sc_law_draw, b3, mt_law_draw, by decide⟩
  have F4 := fun_mk (st := s_law_same) l4 c4 k4
  have b4 := F4.binds (ps := FnF.ps f_law_same) fun _ _ _ _ _ _ us hl => match us, hl with | [_, _], _ => rfl
  have q4 : FnF K (tabf [("met", f0), ("leapt", f1), ("_law_draws", f2), ("_law_draw", f3), ("_law_same", f4), ("_law_row", f5), ("_law_bits", f6), ("law", fa)]) fsl f_law_same f4 _ _ _ := ⟨by rfl, F4, sc_law_same, b4, mt_law_same, by decide⟩
  have F5 := fun_mk (st := s_law_row) l5 c5 k5
  have b5 := F5.binds (ps := FnF.ps f_law_row) fun _ _ _ _ _ _ us hl => match us, hl with | [_, _, _], _ => rfl
  have q5 : FnF K (tabf [("met", f0), ("leapt", f1), ("_law_draws", f2), ("_law_draw", f3), ("_law_same", f4), ("_law_row", f5), ("_law_bits", f6), ("law", fa)]) fsl f_law_row f5 _ _ _ := ⟨by rfl, F5, sc_law_row, b5, mt_law_row, by decide⟩
  have F6 := fun_mk (st := s_law_bits) l6 c6 k6
  have b6 := F6.binds (ps := FnF.ps f_law_bits) fun _ _ _ _ _ _ us hl => match us, hl with | [_], _ => rfl
  have q6 : FnF K (tabf [("met", f0), ("leapt", f1), ("_law_draws", f2), ("_law_draw", f3), ("_law_same", f4), ("_law_row", f5), ("_law_bits", f6), ("law", fa)]) fsl f_law_bits f6 _ _ _ := ⟨by rfl, F6, sc_law_bits, b6, mt_law_bits, by decide⟩
  have F7 := fun_mk (st := s_law) l7 c7 k7
  have b7 := F7.binds (ps := FnF.ps f_law) fun _ _ _ _ _ _ us hl => match us, hl with | [_], _ => rfl
  have q7 : FnF K (tabf [("met", f0), ("leapt", f1), ("_law_draws", f2), ("_law_draw", f3), ("_law_same", f4), ("_law_row", f5), ("_law_bits", f6), ("law", fa)]) fsl f_law fa _ _ _ := ⟨by rfl, F7, sc_law, b7, mt_law, by decide⟩
  have hp : PrF prog K mg (tabf [("met", f0), ("leapt", f1), ("_law_draws", f2), ("_law_draw", f3), ("_law_same", f4), ("_law_row", f5), ("_law_bits", f6), ("law", fa)]) fsl := by
    refine .by (fun F hF => ?_) (fun p hp => ?_) (fun b hb => ?_) (fun p hp => by cases hp) (fun f hf => ?_)
    · simp only [prog, List.mem_cons, List.not_mem_nil, or_false] at hF
      rcases hF with rfl | rfl | rfl | rfl | rfl | rfl | rfl | rfl
      · exact ⟨_, _, _, _, q0⟩
      · exact ⟨_, _, _, _, q1⟩
      · exact ⟨_, _, _, _, q2⟩
      · exact ⟨_, _, _, _, q3⟩
      · exact ⟨_, _, _, _, q4⟩
      · exact ⟨_, _, _, _, q5⟩
      · exact ⟨_, _, _, _, q6⟩
      · exact ⟨_, _, _, _, q7⟩
    · simp only [List.mem_cons, List.not_mem_nil, or_false] at hp
      rcases hp with rfl | rfl | rfl | rfl | rfl | rfl | rfl | rfl
      · exact PySem.W.mg_of X G a0
      · exact PySem.W.mg_of X G a1
      · exact PySem.W.mg_of X G a2
      · exact PySem.W.mg_of X G a3
      · exact PySem.W.mg_of X G a4
      · exact PySem.W.mg_of X G a5
      · exact PySem.W.mg_of X G a6
      · exact PySem.W.mg_of X G a7
    · simp only [bnames, List.mem_cons, List.not_mem_nil, or_false] at hb
      rcases hb with rfl | rfl | rfl | rfl | rfl | rfl | rfl | rfl | rfl | rfl | rfl | rfl | rfl | rfl
      · exact PySem.W.mg_none_of X G z0
      · exact PySem.W.mg_none_of X G z1
      · exact PySem.W.mg_none_of X G z2
      · exact PySem.W.mg_none_of X G z3
      · exact PySem.W.mg_none_of X G z4
      · exact PySem.W.mg_none_of X G z5
      · exact PySem.W.mg_none_of X G z6
      · exact PySem.W.mg_none_of X G z7
      · exact PySem.W.mg_none_of X G z8
      · exact PySem.W.mg_none_of X G z9
      · exact PySem.W.mg_none_of X G z10
      · exact PySem.W.mg_none_of X G z11
      · exact PySem.W.mg_none_of X G z12
      · exact PySem.W.mg_none_of X G z13
    · simp only [fsl, List.mem_cons, List.not_mem_nil, or_false] at hf
      rcases hf with rfl | rfl | rfl | rfl | rfl | rfl | rfl | rfl <;> exact ⟨_, rfl⟩
  exact ⟨_, fun s v => .of_eq rfl, fun base _ _ => law_ok hp rfl q7 rfl⟩
end
end Mp.K28
open PySem PySem.W PyProof.Rows
set_option maxHeartbeats 0 in
theorem PySem.Challenge.cw_seekwright_k28_whole_numbers_met_by_leap_holds : PySem.Challenge.rw_seekwright_k28_whole_numbers_met_by_leap.Holds := by
  w_on; o_law; k_head; (case hw => w_witness2)
  k_fill
  refine Mp.walk_ofM (l := PySem.Challenge.rw_seekwright_k28_whole_numbers_met_by_leap) (n := 63) (k := 12) (x := "script") (Pg := Mp.K28.prog) rfl (by decide) rfl ⟨rfl, by decide, by decide⟩ (fun w h Y => PySem.W.kIn_of Y) Mp.K28.law_holds ?F
  case F =>
    intro w mg fa h KX G hmg
    refine' Mp.K28.all_mk KX G hmg ?a0 ?l0 ?c0 ?k0 ?a1 ?l1 ?c1 ?k1 ?a2 ?l2 ?c2 ?k2 ?a3 ?l3 ?c3 ?k3 ?a4 ?l4 ?c4 ?k4 ?a5 ?l5 ?c5 ?k5 ?a6 ?l6 ?c6 ?k6 ?a7 ?l7 ?c7 ?k7 ?z0 ?z1 ?z2 ?z3 ?z4 ?z5 ?z6 ?z7 ?z8 ?z9 ?z10 ?z11 ?z12 ?z13
    (case a0 => k_is)
    (case l0 => k_is)
    (case c0 => k_is)
    (case k0 => k_is)
    (case a1 => k_is)
    (case l1 => k_is)
    (case c1 => k_is)
    (case k1 => k_is)
    (case a2 => k_is)
    (case l2 => k_is)
    (case c2 => k_is)
    (case k2 => k_is)
    (case a3 => k_is)
    (case l3 => k_is)
    (case c3 => k_is)
    (case k3 => k_is)
    (case a4 => k_is)
    (case l4 => k_is)
    (case c4 => k_is)
    (case k4 => k_is)
    (case a5 => k_is)
    (case l5 => k_is)
    (case c5 => k_is)
    (case k5 => k_is)
    (case a6 => k_is)
    (case l6 => k_is)
    (case c6 => k_is)
    (case k6 => k_is)
    (case a7 => k_is)
    (case l7 => k_is)
    (case c7 => k_is)
    (case k7 => k_is)
    (case z0 => k_is)
    (case z1 => k_is)
    (case z2 => k_is)
    (case z3 => k_is)
    (case z4 => k_is)
    (case z5 => k_is)
    (case z6 => k_is)
    (case z7 => k_is)
    (case z8 => k_is)
    (case z9 => k_is)
    (case z10 => k_is)
    (case z11 => k_is)
    (case z12 => k_is)
    (case z13 => k_is)
end SK28z
