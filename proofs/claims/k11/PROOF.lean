import PyProof.Rows.All
import Wide.All
import OpenK.AllK
import Wide.FinOn
import HandS.ForMost
import HandS.TupAny
import HandS.ForExc
import HandS.CallSlots
import HandS.Wide
import HandS.WideBits
import HandS.IsInst
import HandS.Flow
import PyProof.NeKinds
import HandS.Style
import HandS.NoneIn
import PySem.Challenge.RW_oneincommon_k11_names_of_anything
set_option Elab.async false
set_option linter.all false
set_option maxRecDepth 100000
/-! Mi1: a small machine for the part of Python that the laws use: values, the store, what each operation does. Nothing of the big model here but its texts and its data. -/
namespace Mi
open PySem

/-- a value; tuples are values here, lists and dicts and instances stand in the store -/
inductive W where
  | non
  | bl (b : Bool)
  | int (i : Int)
  | str (x : Str)
  | tup (xs : List W)
  /-- a list that nobody can change (the script) -/
  | frl (xs : List W)
  | loc (n : Nat)
  /-- a def or a class of the module, by its number -/
  | glb (i : Nat)
  deriving Inhabited

mutual
def W.beq : W → W → Bool
  | .non, .non => true
  | .bl a, .bl b => a == b
  | .int a, .int b => a == b
  | .str a, .str b => a == b
  | .tup a, .tup b => W.beqs a b
  | .frl a, .frl b => W.beqs a b
  | .loc a, .loc b => a == b
  | .glb a, .glb b => a == b
  | _, _ => false
def W.beqs : List W → List W → Bool
  | [], [] => true
  | a :: r, b :: s => W.beq a b && W.beqs r s
  | _, _ => false
end
mutual
theorem W.beq_eq : ∀ a b : W, W.beq a b = true → a = b
  | .non, b, h => by cases b <;> simp_all [W.beq]
  | .bl _, b, h => by cases b <;> simp_all [W.beq]
  | .int _, b, h => by cases b <;> simp_all [W.beq]
  | .str _, b, h => by cases b <;> simp_all [W.beq]
  | .tup a, b, h => by
    cases b <;> simp only [W.beq, Bool.false_eq_true] at h
    rw [W.beqs_eq a _ h]
  | .frl a, b, h => by
    cases b <;> simp only [W.beq, Bool.false_eq_true] at h
    rw [W.beqs_eq a _ h]
  | .loc _, b, h => by cases b <;> simp_all [W.beq]
  | .glb _, b, h => by cases b <;> simp_all [W.beq]
theorem W.beqs_eq : ∀ a b : List W, W.beqs a b = true → a = b
  | [], b, h => by cases b <;> simp_all [W.beqs]
  | a :: r, b, h => by
    cases b with
    | nil => simp [W.beqs] at h
    | cons c s =>
      simp only [W.beqs, Bool.and_eq_true] at h
      rw [W.beq_eq a c h.1, W.beqs_eq r s h.2]
end
mutual
theorem W.beq_refl : ∀ a : W, W.beq a a = true
  | .non => rfl
  | .bl _ => by simp [W.beq]
  | .int _ => by simp [W.beq]
  | .str _ => by simp [W.beq]
  | .tup a => by simp only [W.beq]; exact W.beqs_refl a
  | .frl a => by simp only [W.beq]; exact W.beqs_refl a
  | .loc _ => by simp [W.beq]
  | .glb _ => by simp [W.beq]
theorem W.beqs_refl : ∀ a : List W, W.beqs a a = true
  | [] => rfl
  | a :: r => by simp only [W.beqs, W.beq_refl a, W.beqs_refl r, Bool.and_self]
end
instance : DecidableEq W := fun a b =>
  if h : W.beq a b = true then .isTrue (W.beq_eq a b h) else .isFalse fun e => h (e ▸ W.beq_refl a)

/-- what stands in the store -/
inductive SO where
  | lst (ws : List W)
  | dct (kvs : List (W × W))
  | ins (c : Nat) (fs : List (Str × W))
  deriving DecidableEq
abbrev Sto := List SO
/-- an exception: its class, its fields -/
structure Exc where
  cls : Nat
  fs : List (Str × W)
inductive Res (α : Type) where
  | ok (a : α) (s : Sto)
  | exc (x : Exc) (s : Sto)
  | stuck
abbrev M (α : Type) := Sto → Res α
@[reducible] def ret {α : Type} (a : α) : M α := fun s => .ok a s
@[reducible] def bad {α : Type} : M α := fun _ => .stuck
def Res.bind {α β : Type} (r : Res α) (f : α → M β) : Res β := match r with
  | .ok a s => f a s
  | .exc x s => .exc x s
  | .stuck => .stuck
@[reducible] def bnd {α β : Type} (m : M α) (f : α → M β) : M β := fun s => (m s).bind f
@[simp] theorem bind_ok {α β : Type} (a : α) (s : Sto) (f : α → M β) : (Res.ok a s).bind f = f a s := rfl
@[simp] theorem bind_exc {α β : Type} (x : Exc) (s : Sto) (f : α → M β) : (Res.exc x s : Res α).bind f = .exc x s := rfl
@[simp] theorem bind_stuck {α β : Type} (f : α → M β) : (Res.stuck : Res α).bind f = .stuck := rfl
/-- what an answer is wanted for -/
def wp {α : Type} (r : Res α) (Q : α → Sto → Prop) (E : Exc → Sto → Prop := fun _ _ => False) : Prop := match r with
  | .ok a s => Q a s
  | .exc x s => E x s
  | .stuck => False
theorem wp_bind {α β : Type} (r : Res α) (f : α → M β) (Q : β → Sto → Prop) (E : Exc → Sto → Prop) : wp (r.bind f) Q E = wp r (fun a s => wp (f a s) Q E) E := by cases r <;> rfl
theorem wp_mono {α : Type} {r : Res α} {Q Q' : α → Sto → Prop} {E E' : Exc → Sto → Prop} (h : wp r Q E) (hq : ∀ a s, Q a s → Q' a s) (he : ∀ x s, E x s → E' x s) : wp r Q' E' := by
  cases r with
  | ok a s => exact hq a s h
  | exc x s => exact he x s h
  | stuck => exact h
def ofOpt {α : Type} (o : Option α) : M α := match o with
  | some a => ret a
  | none => bad
def lay (o : SO) : M W := fun s => .ok (.loc s.length) (s ++ [o])

/-- the most that a list or a text holds here -/
abbrev SZ : Nat := 16777216

/-! ### data -/
/-- a value as data, lists and dicts read at the store; n: how deep -/
def toD : Nat → Sto → W → Option PyData
  | 0, _, _ => none
  | _ + 1, _, .non => some .none
  | _ + 1, _, .bl b => some (.bool b)
  | _ + 1, _, .int i => some (.int i)
  | _ + 1, _, .str x => some (.str x)
  | n + 1, s, .tup xs => (xs.mapM (toD n s)).map .tuple
  | n + 1, s, .frl xs => (xs.mapM (toD n s)).map .list
  | n + 1, s, .loc l => match s[l]? with
    | some (.lst xs) => (xs.mapM (toD n s)).map .list
    | some (.dct kvs) => match (kvs.map (·.1)).mapM (toD n s), (kvs.map (·.2)).mapM (toD n s) with
      | some ks, some vs => some (.dict (ks.zip vs))
      | _, _ => none
    | _ => none
  | _ + 1, _, .glb _ => none
/-- how deep data is read -/
abbrev DEEP : Nat := 60
def dat (s : Sto) (w : W) : Option PyData := toD DEEP s w

/-! ### operations -/
inductive Bop where
  | add | sub | mul | mod | fdiv | pow
  deriving DecidableEq
inductive Cop where
  | lt | le | gt | ge | eq | ne | isin | notin | is | isnot
  deriving DecidableEq

def isLst (s : Sto) : W → Option (List W)
  | .frl xs => some xs
  | .loc n => match s[n]? with
    | some (.lst xs) => some xs
    | _ => none
  | _ => none
/-- a list's or a tuple's items -/
def isSeq (s : Sto) : W → Option (List W)
  | .tup xs => some xs
  | w => isLst s w

def truW (s : Sto) : W → Option Bool
  | .non => some false
  | .bl b => some b
  | .int i => some (i != 0)
  | .str x => if x.length ≤ SZ then some ((x.length : Int) != 0) else none
  | .tup xs => some (!xs.isEmpty)
  | .frl xs => some (!xs.isEmpty)
  | .loc n => match s[n]? with
    | some (.lst xs) => some (!xs.isEmpty)
    | some (.dct kvs) => some (!kvs.isEmpty)
    | _ => none
  | .glb _ => none
def tru (w : W) : M Bool := fun s => match truW s w with
  | some b => .ok b s
  | none => .stuck

def lenW (s : Sto) : W → Option Nat
  | .str x => if x.length ≤ SZ then some x.length else none
  | .tup xs => some xs.length
  | .frl xs => some xs.length
  | .loc n => match s[n]? with
    | some (.lst xs) => some xs.length
    | some (.dct kvs) => some kvs.length
    | _ => none
  | _ => none

def binop : Bop → W → W → M W
  | .add, .int i, .int j => ret (.int (i + j))
  | .add, .str x, .str y => if x.length + y.length ≤ SZ then ret (.str (x ++ y)) else bad
  | .add, .tup x, .tup y => if x.length + y.length ≤ SZ then ret (.tup (x ++ y)) else bad
  | .add, .loc a, .loc b => fun s => match s[a]?, s[b]? with
    | some (.lst x), some (.lst y) => if x.length + y.length ≤ SZ then lay (.lst (x ++ y)) s else .stuck
    | _, _ => .stuck
  | .sub, .int i, .int j => ret (.int (i - j))
  | .mul, .int i, .int j => if i.natAbs.log2 + j.natAbs.log2 < 1000000 then ret (.int (i * j)) else bad
  | .mul, .loc a, .int k => fun s => match s[a]? with
    | some (.lst x) => if -(2 ^ 63) ≤ k ∧ k < 2 ^ 63 ∧ x.length * k.toNat ≤ SZ then lay (.lst (List.replicate k.toNat x).flatten) s else .stuck
    | _ => .stuck
  | .mod, .int i, .int j => if 0 < j then ret (.int (i % j)) else bad
  | .fdiv, .int i, .int j => if 0 < j ∧ j.natAbs.log2 < 9000 then ret (.int (i / j)) else bad
  | .pow, .int i, .int j => if 0 ≤ j ∧ j ≤ 1000000 ∧ i.natAbs < 2 ^ 64 then ret (.int (i ^ j.toNat)) else bad
  | _, _, _ => bad

def flatW : W → Bool
  | .non => true
  | .bl _ => true
  | .int _ => true
  | .str _ => true
  | _ => false
def eqF : W → W → Bool
  | .non, .non => true
  | .bl a, .bl b => a == b
  | .bl a, .int b => (if a then 1 else 0) == b
  | .int a, .bl b => a == (if b then 1 else 0)
  | .int a, .int b => a == b
  | .str a, .str b => a == b
  | _, _ => false
/-- two scalars, but a truth and a number -/
def sameW : W → W → Bool
  | .non, .non => true
  | .non, .int _ => true
  | .int _, .non => true
  | .non, .bl _ => true
  | .bl _, .non => true
  | .non, .str _ => true
  | .str _, .non => true
  | .bl _, .bl _ => true
  | .int _, .int _ => true
  | .str _, .str _ => true
  | .int _, .str _ => true
  | .str _, .int _ => true
  | .bl _, .str _ => true
  | .str _, .bl _ => true
  | _, _ => false
def isTupW : W → Option (List W)
  | .tup xs => some xs
  | _ => none
/-- two tuples one of which is empty, two lists of unlike lengths or both empty: no item is looked at -/
def eqE (s : Sto) (a b : W) : Option Bool :=
  match isTupW a, isTupW b with
  | some xs, some ys => if xs.isEmpty || ys.isEmpty then some (xs.isEmpty && ys.isEmpty) else none
  | _, _ => match isLst s a, isLst s b with
    | some xs, some ys => if xs.length ≠ ys.length then some false else if xs.isEmpty then some true else none
    | _, _ => none
/-- are two values equal, by their data -/
def eqW (s : Sto) (a b : W) : Option Bool :=
  if sameW a b then some (decide (a = b))
  else match eqE s a b with
    | some r => some r
    | none => match dat s a, dat s b with
      | some d, some e => if SeqAt.shaped d && SeqAt.shaped e then some (PyData.eqv d e) else none
      | _, _ => none

def cmpB : Cop → W → W → Sto → Option Bool
  | .lt, .int i, .int j, _ => some (decide (i < j))
  | .le, .int i, .int j, _ => some (decide (i ≤ j))
  | .gt, .int i, .int j, _ => some (decide (j < i))
  | .ge, .int i, .int j, _ => some (decide (j ≤ i))
  | .lt, .str i, .str j, _ => some (decide (i.cps.toList < j.cps.toList))
  | .le, .str i, .str j, _ => some (!decide (j.cps.toList < i.cps.toList))
  | .eq, a, b, s => eqW s a b
  | .ne, a, b, s => (eqW s a b).map (!·)
  | .isin, .str x, .str y, _ => if x.cps.size = 1 then some (decide (x.cps.getD 0 0 ∈ y.cps.toList)) else none
  | .notin, .str x, .str y, _ => if x.cps.size = 1 then some (!decide (x.cps.getD 0 0 ∈ y.cps.toList)) else none
  | .isin, x, y, s => match isSeq s y with
    | some ys => if flatW x && ys.all flatW then some (ys.any fun z => eqF z x) else none
    | none => none
  | .notin, x, y, s => match isSeq s y with
    | some ys => if flatW x && ys.all flatW then some (!ys.any fun z => eqF z x) else none
    | none => none
  | .is, .glb _, _, _ => none
  | .isnot, .glb _, _, _ => none
  | .is, x, .non, _ => some (decide (x = .non))
  | .isnot, x, .non, _ => some (!decide (x = .non))
  | _, _, _, _ => none
def cmpop (o : Cop) (a b : W) : M W := fun s => match cmpB o a b s with
  | some t => .ok (.bl t) s
  | none => .stuck

/-- o[i] -/
def idxW (o i : W) : M W := fun s => match o, i with
  | .str z, .int k => if 0 ≤ k ∧ k < 2 ^ 63 then (match z.cps[k.toNat]? with
      | some c => .ok (.str ⟨#[c]⟩) s
      | none => .stuck) else .stuck
  | .loc n, k => match s[n]? with
    | some (.lst xs) => (match k with
      | .int k => (match L2.atI xs k with
        | some w => .ok w s
        | none => .stuck)
      | _ => .stuck)
    | _ => .stuck
  | .tup xs, .int k => (match L2.atI xs k with
      | some w => .ok w s
      | none => .stuck)
  | .frl xs, .int k => (match L2.atI xs k with
      | some w => .ok w s
      | none => .stuck)
  | _, _ => .stuck
def cut {α : Type} (xs : List α) (lo hi : Option Int) : List α := (xs.drop (HT.sIx xs.length 0 lo)).take (HT.sIx xs.length xs.length hi - HT.sIx xs.length 0 lo)
/-- a part of a slice -/
def part : W → Option (Option Int)
  | .int i => some (some i)
  | _ => none
def slcW (o : W) (lo hi : Option Int) : M W := fun s => match o with
  | .str z => if z.length ≤ SZ then .ok (.str (L2.cutS z lo hi)) s else .stuck
  | .tup xs => .ok (.tup (cut xs lo hi)) s
  | .frl xs => lay (.lst (cut xs lo hi)) s
  | .loc n => match s[n]? with
    | some (.lst xs) => lay (.lst (cut xs lo hi)) s
    | _ => .stuck
  | _ => .stuck
/-- o[i] = v -/
def setW (o i v : W) : M Unit := fun s => match o, i with
  | .loc n, .int k => match s[n]? with
    | some (.lst xs) => (match L2.ixN xs.length k with
      | some j => .ok () (s.set n (.lst (xs.set j v)))
      | none => .stuck)
    | _ => .stuck
  | _, _ => .stuck

/-- what a for walks: the items, and the list that has to stay as it is -/
def itemsW (s : Sto) : W → Option (List W × Option Nat)
  | .tup xs => some (xs, none)
  | .frl xs => some (xs, none)
  | .str x => some (x.cps.toList.map fun c => .str ⟨#[c]⟩, none)
  | .loc n => match s[n]? with
    | some (.lst xs) => some (xs, some n)
    | _ => none
  | _ => none

/-! ### built-in functions, methods -/
inductive Blt where
  | len | abs | max | min | divmod | all | any | repr | tuple | list | str | int
  deriving DecidableEq
def blt : Blt → List W → M W
  | .len, [x] => fun s => match lenW s x with
    | some n => .ok (.int n) s
    | none => .stuck
  | .abs, [.int i] => ret (.int (if i < 0 then -i else i))
  | .max, [.int i, .int j] => ret (.int (if j > i then j else i))
  | .min, [.int i, .int j] => ret (.int (if j < i then j else i))
  | .divmod, [.int i, .int j] => if 0 < j ∧ j.natAbs.log2 < 9000 then ret (.tup [.int (i / j), .int (i % j)]) else bad
  | .all, [x] => fun s => match isLst s x with
    | some ws => if ws.all (fun w => match w with | .bl _ => true | _ => false) then .ok (.bl (ws.all fun w => decide (w = .bl true))) s else .stuck
    | none => .stuck
  | .any, [x] => fun s => match isLst s x with
    | some ws => if ws.all (fun w => match w with | .bl _ => true | _ => false) then .ok (.bl (ws.any fun w => decide (w = .bl true))) s else .stuck
    | none => .stuck
  | .repr, [x] => fun s => match dat s x with
    | some d => if d.showable && decide (d.shown.length ≤ SZ) && decide (d.depth ≤ 60) then .ok (.str d.shown) s else .stuck
    | none => .stuck
  | .tuple, [.tup xs] => ret (.tup xs)
  | .tuple, [x] => fun s => match isLst s x with
    | some ws => .ok (.tup ws) s
    | none => .stuck
  | .list, [x] => fun s => match isSeq s x with
    | some ws => lay (.lst ws) s
    | none => .stuck
  | .str, [.int i] => if i.natAbs.log2 < 1920 then ret (.str (toString i)) else bad
  | .int, [.str x] => if x.length ≤ 640 then (match PySem.intText? x with
      | some n => ret (.int n)
      | none => bad) else bad
  | _, _ => bad

inductive Met where
  | join | append | pop
  deriving DecidableEq
def strsOf : List W → Option (List Str)
  | [] => some []
  | .str x :: r => (strsOf r).map (x :: ·)
  | _ :: _ => none
def met : Met → W → List W → M W
  | .join, .str a, [x] => fun s => match isSeq s x with
    | some ws => (match strsOf ws with
      | some ys => if (ys.map fun y => y.length).sum + ys.length * a.length ≤ SZ then .ok (.str (Txt.join a ys)) s else .stuck
      | none => .stuck)
    | none => .stuck
  | .append, .loc n, [w] => fun s => match s[n]? with
    | some (.lst xs) => if xs.length < SZ then .ok .non (s.set n (.lst (xs ++ [w]))) else .stuck
    | _ => .stuck
  | .pop, .loc n, [] => fun s => match s[n]? with
    | some (.lst xs) => (match xs[xs.length - 1]? with
      | some w => .ok w (s.set n (.lst xs.dropLast))
      | none => .stuck)
    | _ => .stuck
  | _, _, _ => bad

/-- is it a thing that has the method -/
def metOk (s : Sto) : Met → W → Bool
  | .join, .str _ => true
  | .append, .loc n => match s[n]? with
    | some (.lst _) => true
    | _ => false
  | .pop, .loc n => match s[n]? with
    | some (.lst _) => true
    | _ => false
  | _, _ => false
/-- the kinds that isinstance asks of -/
inductive Ty where
  | int | bool | str | tuple | list | dict | own (c : Nat)
  deriving DecidableEq
/-- is it one? (own classes stand for themselves alone) -/
def isTy (s : Sto) : W → Ty → Option Bool
  | .non, t => some false
  | .bl _, t => some (t == .bool || t == .int)
  | .int _, t => some (t == .int)
  | .str _, t => some (t == .str)
  | .tup _, t => some (t == .tuple)
  | .frl _, t => none
  | .loc n, t => match s[n]? with
    | some (.lst _) => some (t == .list)
    | some (.dct _) => some (t == .dict)
    | _ => none
  | .glb _, _ => none

/-! ### dicts -/
/-- a key: a number or a text -/
def isKey : W → Bool
  | .int _ => true
  | .str _ => true
  | _ => false
/-- a written dict: its keys and values in turns; unlike keys -/
def pairUp : List W → Option (List (W × W))
  | [] => some []
  | k :: v :: r => (pairUp r).map ((k, v) :: ·)
  | [_] => none
def dctOf (ws : List W) : M W := fun s => match pairUp ws with
  | some kvs => if kvs.all (fun p => isKey p.1) && decide ((kvs.map (·.1)).Nodup) && decide (kvs.length ≤ 15) then lay (.dct kvs) s else .stuck
  | none => .stuck
end Mi

/-! Mi2: the small machine's texts (E, T, S) and what they do. -/
namespace Mi
open PySem

/-- how a for's source is made of its parts: a value; range of one, of two; enumerate; zip of two -/
inductive Ik where
  | val | rng1 | rng2 | enum | zip
  deriving DecidableEq
/-- a comprehension's target -/
inductive Tn where
  | nm (i : Nat)
  | tp (is : List Nat)
  deriving DecidableEq
inductive E where
  | cst (w : W)
  | var (i : Nat)
  | tup (es : List E)
  | lst (es : List E)
  /-- a written dict: keys and values in turns -/
  | dct (es : List E)
  | bin (op : Bop) (a b : E)
  | neg (a : E)
  | not (a : E)
  | cmp (op : Cop) (a b : E)
  | cmp2 (op op' : Cop) (a b c : E)
  | and (es : List E)
  | or (es : List E)
  | ite (c a b : E)
  | idx (a b : E)
  | slc (a : E) (lo hi : List E)
  /-- f(positional, keywords), the values put in the parameters' order -/
  | call (f : Nat) (es : List E) (ds : List W) (ord : List Nat)
  | blt (b : Blt) (es : List E)
  | met (m : Met) (o : E) (es : List E)
  | isi (a : E) (ts : List Ty)
  | lc (elt : E) (tg : Tn) (own : List Nat) (k : Ik) (its : List E) (cond : List E)
  /-- what a for walks, and nothing else: range(..), enumerate(..), zip(..) -/
  | it (k : Ik) (es : List E)

abbrev Env := List (Option W)
def wipe (ρ : Env) : List Nat → Env
  | [] => ρ
  | v :: vs => (wipe ρ vs).set v none
def setAll : List Nat → List W → Env → Env
  | i :: r, w :: ws, ρ => setAll r ws (ρ.set i (some w))
  | _, _, ρ => ρ
def bindT (t : Tn) (w : W) (ρ : Env) : Option Env := match t with
  | .nm i => some (ρ.set i (some w))
  | .tp is => match w with
    | .tup ws => if ws.length = is.length then some (setAll is ws ρ) else none
    | _ => none

/-- the items of a for, and the list that has to stay -/
def iter (k : Ik) (vs : List W) : M (List W × Option Nat) := fun s => match k, vs with
  | .val, [v] => match itemsW s v with
    | some (ws, n) => if ws.length ≤ SZ then .ok (ws, n) s else .stuck
    | none => .stuck
  | .rng1, [.int j] => if j ≤ SZ ∧ -(2 ^ 62) ≤ j then .ok ((List.range j.toNat).map fun k : Nat => W.int (k : Int), none) s else .stuck
  | .rng2, [.int i, .int j] => if -(2 ^ 62) ≤ i ∧ i < 2 ^ 62 ∧ -(2 ^ 62) ≤ j ∧ j < 2 ^ 62 ∧ j - i ≤ SZ then .ok ((List.range (j - i).toNat).map fun k : Nat => W.int (i + (k : Int)), none) s else .stuck
  | _, _ => .stuck
def stays (s : Sto) (n : Option Nat) (ws : List W) : Bool := match n with
  | none => true
  | some n => decide (s[n]? = some (.lst ws))

def lcGo (elt : Env → M W) (cond : Env → M Bool) (tg : Tn) (ρ : Env) (chk : Sto → Bool) : List W → M (List W)
  | [] => fun s => if chk s then .ok [] s else .stuck
  | w :: r => fun s => if chk s then (match bindT tg w ρ with
      | none => .stuck
      | some ρ1 => (cond ρ1 s).bind fun b => if b then bnd (elt ρ1) (fun y => bnd (lcGo elt cond tg ρ chk r) fun ys => ret (y :: ys)) else lcGo elt cond tg ρ chk r)
    else .stuck
/-- what raises is not told of -/
def noExc {α : Type} (m : M α) : M α := fun s => match m s with
  | .ok a s' => .ok a s'
  | _ => .stuck

section
variable (φ : Nat → List W → M W)
mutual
def den : E → Env → M W
  | .cst w, _ => ret w
  | .var i, ρ => fun s => match ρ[i]? with
    | some (some w) => .ok w s
    | _ => .stuck
  | .tup es, ρ => bnd (dens es ρ) fun ws => if ws.length ≤ SZ then ret (.tup ws) else bad
  | .lst es, ρ => bnd (dens es ρ) fun ws => if ws.length ≤ SZ then lay (.lst ws) else bad
  | .dct es, ρ => bnd (dens es ρ) fun ws => dctOf ws
  | .bin op a b, ρ => bnd (den a ρ) fun x => bnd (den b ρ) fun y => binop op x y
  | .neg a, ρ => bnd (den a ρ) fun x => match x with
    | .int i => ret (.int (-i))
    | _ => bad
  | .not a, ρ => bnd (den a ρ) fun x => bnd (tru x) fun b => ret (.bl !b)
  | .cmp op a b, ρ => bnd (den a ρ) fun x => bnd (den b ρ) fun y => cmpop op x y
  | .cmp2 op op' a b c, ρ => bnd (den a ρ) fun x => bnd (den b ρ) fun y => bnd (cmpop op x y) fun z => match z with
    | .bl true => bnd (den c ρ) fun u => cmpop op' y u
    | .bl false => ret (.bl false)
    | _ => bad
  | .and es, ρ => denAnd es ρ
  | .or es, ρ => denOr es ρ
  | .ite c a b, ρ => bnd (den c ρ) fun x => bnd (tru x) fun t => if t then den a ρ else den b ρ
  | .idx a b, ρ => bnd (den a ρ) fun x => bnd (den b ρ) fun y => idxW x y
  | .slc a lo hi, ρ => bnd (den a ρ) fun x => bnd (denPart lo ρ) fun l => bnd (denPart hi ρ) fun h => slcW x l h
  | .call f es ds ord, ρ => bnd (dens es ρ) fun ws => match ord.mapM fun i => (ws ++ ds)[i]? with
    | some as => φ f as
    | none => bad
  | .blt b es, ρ => bnd (dens es ρ) fun ws => blt b ws
  | .met m o es, ρ => bnd (den o ρ) fun x => fun s => if metOk s m x then (bnd (dens es ρ) fun ws => met m x ws) s else .stuck
  | .isi a ts, ρ => bnd (den a ρ) fun x => fun s => match ts.mapM fun t => isTy s x t with
    | some bs => .ok (.bl (bs.any id)) s
    | none => .stuck
  | .lc elt tg own k its cond, ρ => bnd (dens its ρ) fun vs => bnd (iter k vs) fun it =>
      bnd (noExc (lcGo (fun ρ' => den elt ρ') (fun ρ' => denC cond ρ') tg (wipe ρ own) (fun s => stays s it.2 it.1) it.1)) fun ys => lay (.lst ys)
  | .it _ _, _ => bad
def dens : List E → Env → M (List W)
  | [], _ => ret []
  | e :: es, ρ => bnd (den e ρ) fun w => bnd (dens es ρ) fun ws => ret (w :: ws)
def denAnd : List E → Env → M W
  | [], _ => bad
  | e :: es, ρ => match es with
    | [] => den e ρ
    | _ :: _ => bnd (den e ρ) fun x => bnd (tru x) fun t => if t then denAnd es ρ else ret x
def denOr : List E → Env → M W
  | [], _ => bad
  | e :: es, ρ => match es with
    | [] => den e ρ
    | _ :: _ => bnd (den e ρ) fun x => bnd (tru x) fun t => if t then ret x else denOr es ρ
def denC : List E → Env → M Bool
  | [], _ => ret true
  | e :: es, ρ => bnd (den e ρ) fun x => bnd (tru x) fun t => if t then denC es ρ else ret false
def denPart : List E → Env → M (Option Int)
  | [], _ => ret none
  | e :: _, ρ => bnd (den e ρ) fun x => match x with
    | .int i => ret (some i)
    | _ => bad
end
end

/-! ### statements -/
inductive T where
  | nm (i : Nat)
  | tp (ts : List T)
  | sub (o i : E)
inductive Flow where
  | nxt | rtn (w : W) | brk | cnt
inductive ResS where
  | ok (f : Flow) (ρ : Env) (s : Sto)
  | exc (x : Exc) (ρ : Env) (s : Sto)
  | stuck
inductive S where
  | exp (e : E)
  | set (t : T) (e : E)
  | rtn (e : E)
  | rtn0
  | ite (c : E) (a b : List S)
  | for (t : T) (k : Ik) (its : List E) (b : List S)
  | whl (c : E) (b : List S)
  | rse (cls : Nat) (es : List E)
  | try (b : List S) (cls : Nat) (slot : Option Nat) (h : List S)
  | brk
  | cnt
  | pss
def wpS (r : ResS) (Q : Flow → Env → Sto → Prop) (X : Exc → Env → Sto → Prop := fun _ _ _ => False) : Prop := match r with
  | .ok f ρ s => Q f ρ s
  | .exc x ρ s => X x ρ s
  | .stuck => False
theorem wpS_mono {r : ResS} {Q Q' : Flow → Env → Sto → Prop} {X X' : Exc → Env → Sto → Prop} (h : wpS r Q X) (hq : ∀ f ρ s, Q f ρ s → Q' f ρ s) (hx : ∀ x ρ s, X x ρ s → X' x ρ s) : wpS r Q' X' := by
  cases r with
  | ok f ρ s => exact hq f ρ s h
  | exc x ρ s => exact hx x ρ s h
  | stuck => exact h
/-- an expression, then the rest -/
def withE {α : Type} (r : Res α) (ρ : Env) (f : α → Sto → ResS) : ResS := match r with
  | .ok a s => f a s
  | .exc x s => .exc x ρ s
  | .stuck => .stuck
theorem wpS_withE {α : Type} (r : Res α) (ρ : Env) (f : α → Sto → ResS) (Q : Flow → Env → Sto → Prop) (X : Exc → Env → Sto → Prop) : wpS (withE r ρ f) Q X = wp r (fun a s => wpS (f a s) Q X) (fun x s => X x ρ s) := by cases r <;> rfl
/-- one block, then another where the first goes on -/
def ResS.seq (r : ResS) (f : Env → Sto → ResS) : ResS := match r with
  | .ok .nxt ρ s => f ρ s
  | r => r
theorem wpS_seq (r : ResS) (f : Env → Sto → ResS) (Q : Flow → Env → Sto → Prop) (X : Exc → Env → Sto → Prop) :
    wpS (r.seq f) Q X = wpS r (fun fl ρ s => match fl with | .nxt => wpS (f ρ s) Q X | fl => Q fl ρ s) X := by
  cases r with
  | ok fl ρ s => cases fl <;> rfl
  | exc x ρ s => rfl
  | stuck => rfl
def forGo (bind : W → Env → Sto → Res Env) (body : Env → Sto → ResS) (chk : Sto → Bool) : List W → Env → Sto → ResS
  | [], ρ, s => if chk s then .ok .nxt ρ s else .stuck
  | w :: r, ρ, s => if chk s then (match bind w ρ s with
      | .ok ρ1 s1 => (match body ρ1 s1 with
        | .ok .nxt ρ2 s2 => forGo bind body chk r ρ2 s2
        | .ok .cnt ρ2 s2 => forGo bind body chk r ρ2 s2
        | .ok .brk ρ2 s2 => .ok .nxt ρ2 s2
        | .ok (.rtn v) ρ2 s2 => .ok (.rtn v) ρ2 s2
        | .exc x ρ2 s2 => .exc x ρ2 s2
        | .stuck => .stuck)
      | _ => .stuck) else .stuck
def whlGo (test : Env → M Bool) (body : Env → Sto → ResS) : Nat → Env → Sto → ResS
  | 0, _, _ => .stuck
  | n + 1, ρ, s => withE (test ρ s) ρ fun t s1 => if t then (match body ρ s1 with
      | .ok .nxt ρ2 s2 => whlGo test body n ρ2 s2
      | .ok .cnt ρ2 s2 => whlGo test body n ρ2 s2
      | .ok .brk ρ2 s2 => .ok .nxt ρ2 s2
      | .ok (.rtn v) ρ2 s2 => .ok (.rtn v) ρ2 s2
      | .exc x ρ2 s2 => .exc x ρ2 s2
      | .stuck => .stuck) else .ok .nxt ρ s1

section
variable (φ : Nat → List W → M W)
mutual
def asg : T → W → Env → M Env
  | .nm i, w, ρ => ret (ρ.set i (some w))
  | .tp ts, w, ρ => fun s => match isSeq s w with
    | some ws => if ws.length = ts.length then asgs ts ws ρ s else .stuck
    | none => .stuck
  | .sub o i, w, ρ => noExc (bnd (den φ o ρ) fun ov => bnd (den φ i ρ) fun iv => bnd (setW ov iv w) fun _ => ret ρ)
def asgs : List T → List W → Env → M Env
  | [], _, ρ => ret ρ
  | t :: ts, ws, ρ => match ws with
    | w :: ws => bnd (asg t w ρ) fun ρ1 => asgs ts ws ρ1
    | [] => bad
end
/-- C(..) raised: what is made of the arguments is told by the classes' table ψ -/
def test (c : E) (ρ : Env) : M Bool := bnd (den φ c ρ) fun x => tru x
variable (N : Nat) (ψ : Nat → List W → Option (List (Str × W)))
mutual
def exec : S → Env → Sto → ResS
  | .exp e, ρ, s => withE (den φ e ρ s) ρ fun _ s1 => .ok .nxt ρ s1
  | .set t e, ρ, s => withE (den φ e ρ s) ρ fun w s1 => match asg φ t w ρ s1 with
    | .ok ρ1 s2 => .ok .nxt ρ1 s2
    | _ => .stuck
  | .rtn e, ρ, s => withE (den φ e ρ s) ρ fun w s1 => .ok (.rtn w) ρ s1
  | .rtn0, ρ, s => .ok (.rtn .non) ρ s
  | .ite c a b, ρ, s => withE (test φ c ρ s) ρ fun t s1 => if t then execs a ρ s1 else execs b ρ s1
  | .for t k its b, ρ, s => withE (bnd (dens φ its ρ) (iter k) s) ρ fun it s1 => forGo (fun w ρ => asg φ t w ρ) (fun ρ s => execs b ρ s) (fun s => stays s it.2 it.1) it.1 ρ s1
  | .whl c b, ρ, s => whlGo (test φ c) (fun ρ s => execs b ρ s) N ρ s
  | .rse cls es, ρ, s => withE (dens φ es ρ s) ρ fun ws s1 => match ψ cls ws with
    | some fs => .exc ⟨cls, fs⟩ ρ s1
    | none => .stuck
  | .try b cls slot h, ρ, s => .stuck
  | .brk, ρ, s => .ok .brk ρ s
  | .cnt, ρ, s => .ok .cnt ρ s
  | .pss, ρ, s => .ok .nxt ρ s
def execs : List S → Env → Sto → ResS
  | [], ρ, s => .ok .nxt ρ s
  | st :: r, ρ, s => (exec st ρ s).seq fun ρ1 s1 => execs r ρ1 s1
end
end

/-- a def: how many parameters, how many names, its body -/
structure FD where
  ar : Nat
  sl : Nat
  body : List S
/-- what a body's end is to the caller -/
def bodyRes : ResS → Res W
  | .ok (.rtn w) _ s => .ok w s
  | .ok .nxt _ s => .ok .non s
  | .exc x _ s => .exc x s
  | _ => .stuck
/-- what a def does, k calls deep -/
def fsem (N : Nat) (ψ : Nat → List W → Option (List (Str × W))) (ds : List FD) : Nat → Nat → List W → M W
  | 0, _, _ => bad
  | k + 1, f, ws => fun s => match ds[f]? with
    | some d => if ws.length = d.ar then bodyRes (execs (fsem N ψ ds k) N ψ d.body (ws.map some ++ List.replicate (d.sl - d.ar) none) s) else .stuck
    | none => .stuck
end Mi

/-! Mi3: how the small machine's values and store stand in the hand layer's heap. -/
namespace Mi
open PySem L2

/-- what stands for good: the written part, the module's values by number, the classes' addresses -/
structure Gs where
  K : PySem.W.Frag
  gl : Nat → Option V
  ca : Nat → Option Addr
/-- a list of the written part -/
def KL (K : PySem.W.Frag) (a : Addr) (xs : List V) : Prop :=
  ∃ (o : Obj) (its : Array Value) (n : Nat), K.lookup a = some o ∧ o.cls = .type "list" ∧ o.dict = none ∧ o.data = .seq its n ∧ its.size ≤ sizeLine ∧ Vals xs its.toList

section
variable (G : Gs)
mutual
def Rep (H : Hp) (μ : List Addr) : W → V → Prop
  | .non, v => v = .non
  | .bl b, v => v = .bl b
  | .int i, v => v = .int i
  | .str x, v => v = .str x
  | .tup ws, v => ∃ a vs, v = .ref a ∧ SqT G.K H a vs ∧ Reps H μ ws vs
  | .frl ws, v => ∃ a vs, v = .ref a ∧ ((∃ o, H a = some (.frz o (.lst vs))) ∨ KL G.K a vs) ∧ Reps H μ ws vs
  | .loc n, v => ∃ a, v = .ref a ∧ μ[n]? = some a
  | .glb i, v => G.gl i = some v
def Reps (H : Hp) (μ : List Addr) : List W → List V → Prop
  | [], vs => vs = []
  | w :: ws, vs => ∃ v r, vs = v :: r ∧ Rep H μ w v ∧ Reps H μ ws r
end
def kW : Key → W
  | .inl i => .int i
  | .inr x => .str x
def RepO (H : Hp) (μ : List Addr) (a : Addr) : SO → Prop
  | .lst ws => ∃ vs, H a = some (.lst vs) ∧ Reps G H μ ws vs
  | .dct kvs => ∃ kv : List (Key × V), H a = some (.dK kv) ∧ kvs.map (·.1) = kv.map (fun p => kW p.1) ∧ Reps G H μ (kvs.map (·.2)) (kv.map (·.2))
  | .ins c fs => ∃ C dx fv, G.ca c = some C ∧ H a = some (.ins C dx fv) ∧ fs.map (·.1) = fv.map (·.1) ∧ Reps G H μ (fs.map (·.2)) (fv.map (·.2))
structure SR (H : Hp) (μ : List Addr) (st : Sto) : Prop where
  len : μ.length = st.length
  nd : μ.Nodup
  ob : ∀ (n : Nat) (a : Addr) (o : SO), μ[n]? = some a → st[n]? = some o → RepO G H μ a o
end
/-- the heap grows: what isn't one of the store's stands -/
structure Grow (H H' : Hp) (μ μ' : List Addr) : Prop where
  mu : ∃ r, μ' = μ ++ r ∧ ∀ a ∈ r, H a = none
  keep : ∀ a o, H a = some o → a ∉ μ → H' a = some o
  stay : ∀ a, H' a = none → H a = none

theorem Grow.refl {H : Hp} {μ : List Addr} : Grow H H μ μ := ⟨⟨[], by simp, by simp⟩, fun _ _ h _ => h, fun _ h => h⟩
theorem Grow.trans {H H1 H2 : Hp} {μ μ1 μ2 : List Addr} (a : Grow H H1 μ μ1) (b : Grow H1 H2 μ1 μ2) : Grow H H2 μ μ2 := by
  obtain ⟨r, e, hr⟩ := a.mu
  obtain ⟨r', e', hr'⟩ := b.mu
  refine ⟨⟨r ++ r', by rw [e', e, List.append_assoc], fun p hp => ?_⟩, fun p o h hp => ?_, fun p h => a.stay p (b.stay p h)⟩
  · rcases List.mem_append.mp hp with h | h
    · exact hr p h
    · exact a.stay p (hr' p h)
  · refine b.keep p o (a.keep p o h hp) fun hm => ?_
    rw [e] at hm
    rcases List.mem_append.mp hm with h' | h'
    · exact hp h'
    · rw [hr p h'] at h; cases h

variable {G : Gs} {H H' : Hp} {μ μ' : List Addr} {st : Sto}

theorem Reps.length : ∀ {ws : List W} {vs : List V}, Reps G H μ ws vs → ws.length = vs.length
  | [], vs, h => by simp only [Reps] at h; rw [h]; rfl
  | w :: ws, vs, h => by
    simp only [Reps] at h
    obtain ⟨v, r, rfl, _, h2⟩ := h
    simp only [List.length_cons, Reps.length h2]
theorem Reps.nil_ : Reps G H μ [] [] := by simp only [Reps]
theorem Reps.cons_ {w : W} {ws : List W} {v : V} {vs : List V} (h : Rep G H μ w v) (r : Reps G H μ ws vs) : Reps G H μ (w :: ws) (v :: vs) := by
  simp only [Reps]; exact ⟨v, vs, rfl, h, r⟩
theorem Reps.cons_inv {w : W} {ws : List W} {v : V} {vs : List V} (h : Reps G H μ (w :: ws) (v :: vs)) : Rep G H μ w v ∧ Reps G H μ ws vs := by
  simp only [Reps] at h
  obtain ⟨v', r, e, h1, h2⟩ := h
  cases e
  exact ⟨h1, h2⟩
theorem Reps.nil_inv {vs : List V} (h : Reps G H μ [] vs) : vs = [] := by simpa only [Reps] using h
theorem Reps.get : ∀ {ws : List W} {vs : List V} (i : Nat) {w : W}, Reps G H μ ws vs → ws[i]? = some w → ∃ v, vs[i]? = some v ∧ Rep G H μ w v
  | [], _, _, _, _, e => by simp at e
  | x :: ws, vs, i, w, h, e => by
    simp only [Reps] at h
    obtain ⟨v, r, rfl, h1, h2⟩ := h
    cases i with
    | zero => simp at e; subst e; exact ⟨v, by simp, h1⟩
    | succ i =>
      obtain ⟨u, a, b⟩ := Reps.get i h2 (by simpa using e)
      exact ⟨u, by simpa using a, b⟩
theorem Reps.append_ : ∀ {ws us : List W} {vs xs : List V}, Reps G H μ ws vs → Reps G H μ us xs → Reps G H μ (ws ++ us) (vs ++ xs)
  | [], us, vs, xs, h, h' => by rw [h.nil_inv]; exact h'
  | w :: ws, us, vs, xs, h, h' => by
    simp only [Reps] at h
    obtain ⟨v, r, rfl, h1, h2⟩ := h
    exact (h2.append_ h').cons_ h1
theorem Reps.drop_ : ∀ {ws : List W} {vs : List V} (n : Nat), Reps G H μ ws vs → Reps G H μ (ws.drop n) (vs.drop n)
  | _, _, 0, h => by simpa using h
  | [], vs, n + 1, h => by rw [h.nil_inv]; exact Reps.nil_
  | w :: ws, vs, n + 1, h => by
    simp only [Reps] at h
    obtain ⟨v, r, rfl, h1, h2⟩ := h
    simpa using Reps.drop_ n h2
theorem Reps.take_ : ∀ {ws : List W} {vs : List V} (n : Nat), Reps G H μ ws vs → Reps G H μ (ws.take n) (vs.take n)
  | _, _, 0, h => by simpa using Reps.nil_
  | [], vs, n + 1, h => by rw [h.nil_inv]; exact Reps.nil_
  | w :: ws, vs, n + 1, h => by
    simp only [Reps] at h
    obtain ⟨v, r, rfl, h1, h2⟩ := h
    simpa using (Reps.take_ n h2).cons_ h1
theorem Reps.set_ : ∀ {ws : List W} {vs : List V} (n : Nat) {w : W} {v : V}, Reps G H μ ws vs → Rep G H μ w v → Reps G H μ (ws.set n w) (vs.set n v)
  | [], vs, n, w, v, h, _ => by rw [h.nil_inv]; exact Reps.nil_
  | x :: ws, vs, 0, w, v, h, h' => by
    simp only [Reps] at h
    obtain ⟨y, r, rfl, h1, h2⟩ := h
    exact h2.cons_ h'
  | x :: ws, vs, n + 1, w, v, h, h' => by
    simp only [Reps] at h
    obtain ⟨y, r, rfl, h1, h2⟩ := h
    exact (Reps.set_ n h2 h').cons_ h1
theorem Reps.rep_ {ws : List W} {vs : List V} (h : Reps G H μ ws vs) : ∀ n, Reps G H μ (List.replicate n ws).flatten (List.replicate n vs).flatten
  | 0 => by simpa using Reps.nil_
  | n + 1 => by
    simp only [List.replicate_succ, List.flatten_cons]
    exact h.append_ (h.rep_ n)

theorem RepO.some {a : Addr} {o : SO} (h : RepO G H μ a o) : ∃ u, H a = some u ∧ Mut (some u) := by
  cases o with
  | lst ws => obtain ⟨vs, e, _⟩ := h; exact ⟨_, e, trivial⟩
  | dct kvs => obtain ⟨kv, e, _⟩ := h; exact ⟨_, e, trivial⟩
  | ins c fs => obtain ⟨C, dx, fv, _, e, _⟩ := h; exact ⟨_, e, trivial⟩
/-- an address of the store -/
theorem SR.mut (s : SR G H μ st) {a : Addr} (h : a ∈ μ) : ∃ u, H a = some u ∧ Mut (some u) := by
  obtain ⟨n, hn, e⟩ := List.mem_iff_getElem.mp h
  have hl : n < st.length := by rw [← s.len]; exact hn
  exact (s.ob n a st[n] (by rw [List.getElem?_eq_getElem hn, e]) (List.getElem?_eq_getElem hl)).some
theorem SR.fresh (s : SR G H μ st) {p : Addr} (h : H p = none) : p ∉ μ := fun hm => by
  obtain ⟨u, e, _⟩ := s.mut hm
  rw [h] at e; cases e
theorem SR.notMut (s : SR G H μ st) {p : Addr} {o : HO} (h : H p = some o) (hm : ¬ Mut (some o)) : p ∉ μ := fun hp => by
  obtain ⟨u, e, m⟩ := s.mut hp
  rw [h] at e; cases e; exact hm m

/-! ### what stands goes on standing -/
theorem SqT.grow (s : SR G H μ st) (g : Grow H H' μ μ') {a : Addr} {xs : List V} (h : SqT G.K H a xs) : SqT G.K H' a xs := by
  rcases h with (h | ⟨o, h⟩) | h
  · exact .inl (.inl (g.keep _ _ h (s.notMut h fun z => z)))
  · exact .inl (.inr ⟨o, g.keep _ _ h (s.notMut h fun z => z)⟩)
  · exact .inr h
theorem Grow.loc (g : Grow H H' μ μ') {n : Nat} {a : Addr} (h : μ[n]? = some a) : μ'[n]? = some a := by
  obtain ⟨r, e, _⟩ := g.mu
  rw [e, List.getElem?_append_left (List.getElem?_eq_some_iff.mp h).1]; exact h
mutual
theorem Rep.grow (s : SR G H μ st) (g : Grow H H' μ μ') : ∀ {w : W} {v : V}, Rep G H μ w v → Rep G H' μ' w v
  | .non, _, h => by simpa only [Rep] using h
  | .bl _, _, h => by simpa only [Rep] using h
  | .int _, _, h => by simpa only [Rep] using h
  | .str _, _, h => by simpa only [Rep] using h
  | .tup ws, _, h => by
    simp only [Rep] at h ⊢
    obtain ⟨a, vs, e, hs, hr⟩ := h
    exact ⟨a, vs, e, SqT.grow s g hs, Reps.grow s g hr⟩
  | .frl ws, _, h => by
    simp only [Rep] at h ⊢
    obtain ⟨a, vs, e, hs, hr⟩ := h
    refine ⟨a, vs, e, ?_, Reps.grow s g hr⟩
    rcases hs with ⟨o, q⟩ | q
    · exact .inl ⟨o, g.keep _ _ q (s.notMut q fun z => z)⟩
    · exact .inr q
  | .loc n, _, h => by
    simp only [Rep] at h ⊢
    obtain ⟨a, e, hm⟩ := h
    exact ⟨a, e, g.loc hm⟩
  | .glb _, _, h => by simpa only [Rep] using h
theorem Reps.grow (s : SR G H μ st) (g : Grow H H' μ μ') : ∀ {ws : List W} {vs : List V}, Reps G H μ ws vs → Reps G H' μ' ws vs
  | [], _, h => by simpa only [Reps] using h
  | w :: ws, _, h => by
    simp only [Reps] at h ⊢
    obtain ⟨v, r, e, h1, h2⟩ := h
    exact ⟨v, r, e, Rep.grow s g h1, Reps.grow s g h2⟩
end

/-- a new object that the store doesn't tell of -/
theorem SR.temp (s : SR G H μ st) {p : Addr} {o : HO} (h : H p = none) : Grow H (upd H p o) μ μ ∧ SR G (upd H p o) μ st := by
  have g : Grow H (upd H p o) μ μ := ⟨⟨[], by simp, by simp⟩, fun a u e _ => by rw [upd_ne (ne_of_none e h)]; exact e, fun a e => by
    by_cases q : a = p
    · subst q; exact h
    · rw [upd_ne q] at e; exact e⟩
  refine ⟨g, s.len, s.nd, fun n a u hm ho => ?_⟩
  have q := s.ob n a u hm ho
  have ne : a ≠ p := fun z => s.fresh h (z ▸ List.mem_of_getElem? hm)
  cases u with
  | lst ws => obtain ⟨vs, e, r⟩ := q; exact ⟨vs, by rw [upd_ne ne]; exact e, r.grow s g⟩
  | dct kvs => obtain ⟨kv, e, e2, r⟩ := q; exact ⟨kv, by rw [upd_ne ne]; exact e, e2, r.grow s g⟩
  | ins c fs => obtain ⟨C, dx, fv, e0, e, e2, r⟩ := q; exact ⟨C, dx, fv, e0, by rw [upd_ne ne]; exact e, e2, r.grow s g⟩
mutual
theorem Rep.more (r : List Addr) : ∀ {w : W} {v : V}, Rep G H μ w v → Rep G H (μ ++ r) w v
  | .non, _, h => by simpa only [Rep] using h
  | .bl _, _, h => by simpa only [Rep] using h
  | .int _, _, h => by simpa only [Rep] using h
  | .str _, _, h => by simpa only [Rep] using h
  | .tup ws, _, h => by
    simp only [Rep] at h ⊢
    obtain ⟨a, vs, e, hs, hr⟩ := h
    exact ⟨a, vs, e, hs, Reps.more r hr⟩
  | .frl ws, _, h => by
    simp only [Rep] at h ⊢
    obtain ⟨a, vs, e, hs, hr⟩ := h
    exact ⟨a, vs, e, hs, Reps.more r hr⟩
  | .loc n, _, h => by
    simp only [Rep] at h ⊢
    obtain ⟨a, e, hm⟩ := h
    exact ⟨a, e, by rw [List.getElem?_append_left (List.getElem?_eq_some_iff.mp hm).1]; exact hm⟩
  | .glb _, _, h => by simpa only [Rep] using h
theorem Reps.more (r : List Addr) : ∀ {ws : List W} {vs : List V}, Reps G H μ ws vs → Reps G H (μ ++ r) ws vs
  | [], _, h => by simpa only [Reps] using h
  | w :: ws, _, h => by
    simp only [Reps] at h ⊢
    obtain ⟨v, q, e, h1, h2⟩ := h
    exact ⟨v, q, e, Rep.more r h1, Reps.more r h2⟩
end
theorem RepO.more (r : List Addr) {a : Addr} {o : SO} (h : RepO G H μ a o) : RepO G H (μ ++ r) a o := by
  cases o with
  | lst ws => obtain ⟨vs, e, q⟩ := h; exact ⟨vs, e, q.more r⟩
  | dct kvs => obtain ⟨kv, e, e2, q⟩ := h; exact ⟨kv, e, e2, q.more r⟩
  | ins c fs => obtain ⟨C, dx, fv, e0, e, e2, q⟩ := h; exact ⟨C, dx, fv, e0, e, e2, q.more r⟩
/-- a thing that stands, untold till now, becomes one of the store's -/
theorem SR.adopt (s : SR G H μ st) {p : Addr} {o : SO} (hp : p ∉ μ) (r : RepO G H (μ ++ [p]) p o) : SR G H (μ ++ [p]) (st ++ [o]) := by
  refine ⟨by simp [s.len], List.nodup_append.mpr ⟨s.nd, by simp, fun a ha b hb => ?_⟩, fun n a u hm ho => ?_⟩
  · simp at hb; subst hb; exact fun z => hp (z ▸ ha)
  · by_cases hn : n < μ.length
    · rw [List.getElem?_append_left hn] at hm
      rw [List.getElem?_append_left (by rw [← s.len]; exact hn)] at ho
      exact (s.ob n a u hm ho).more [p]
    · rw [List.getElem?_append_right (by omega)] at hm
      rw [List.getElem?_append_right (by rw [← s.len]; omega)] at ho
      have e : n - μ.length = 0 := by
        have := (List.getElem?_eq_some_iff.mp hm).1
        simp at this; omega
      have e' : n - st.length = 0 := by rw [← s.len]; exact e
      rw [e] at hm; rw [e'] at ho
      simp at hm ho
      subst hm; subst ho; exact r
theorem RepO.lift {a : Addr} {o : SO} (h : RepO G H μ a o) (e : H' a = H a) (f : ∀ {ws : List W} {vs : List V}, Reps G H μ ws vs → Reps G H' μ' ws vs) : RepO G H' μ' a o := by
  cases o with
  | lst ws => obtain ⟨vs, e1, q⟩ := h; exact ⟨vs, e.trans e1, f q⟩
  | dct kvs => obtain ⟨kv, e1, e2, q⟩ := h; exact ⟨kv, e.trans e1, e2, f q⟩
  | ins c fs => obtain ⟨C, dx, fv, e0, e1, e2, q⟩ := h; exact ⟨C, dx, fv, e0, e.trans e1, e2, f q⟩
/-- a new list -/
theorem SR.lay (s : SR G H μ st) {p : Addr} {vs : List V} {ws : List W} (h : H p = none) (r : Reps G H μ ws vs) :
    Grow H (upd H p (.lst vs)) μ (μ ++ [p]) ∧ SR G (upd H p (.lst vs)) (μ ++ [p]) (st ++ [.lst ws]) ∧ Rep G (upd H p (.lst vs)) (μ ++ [p]) (.loc st.length) (.ref p) := by
  obtain ⟨g, s1⟩ := s.temp (o := .lst vs) h
  refine ⟨⟨⟨[p], rfl, by simpa using h⟩, g.keep, g.stay⟩, s1.adopt (s.fresh h) ⟨vs, upd_same, (r.grow s g).more [p]⟩, ?_⟩
  simp only [Rep]
  exact ⟨p, rfl, by rw [← s.len]; simp⟩
/-- one of the store's objects is changed -/
theorem SR.put (s : SR G H μ st) {n : Nat} {a : Addr} {o' : HO} {u : SO} (hm : μ[n]? = some a) (mo : Mut (some o')) (r : ∀ {H' : Hp}, Grow H H' μ μ → H' a = some o' → RepO G H' μ a u) :
    Grow H (upd H a o') μ μ ∧ SR G (upd H a o') μ (st.set n u) := by
  have ha : a ∈ μ := List.mem_of_getElem? hm
  obtain ⟨u0, e0, _⟩ := s.mut ha
  have g : Grow H (upd H a o') μ μ := ⟨⟨[], by simp, by simp⟩, fun b o e hb => by rw [upd_ne (fun z : b = a => hb (by rw [z]; exact ha))]; exact e, fun b e => by
    by_cases q : b = a
    · subst q; rw [upd_same] at e; cases e
    · rw [upd_ne q] at e; exact e⟩
  refine ⟨g, by simp [s.len], s.nd, fun k b v hk hv => ?_⟩
  by_cases e : k = n
  · subst e
    rw [hm] at hk; cases hk
    have hl : k < st.length := by rw [← s.len]; exact (List.getElem?_eq_some_iff.mp hm).1
    rw [List.getElem?_set_self hl] at hv; cases hv
    exact r g upd_same
  · rw [List.getElem?_set_ne (fun z => e z.symm)] at hv
    have nb : b ≠ a := fun z => by
      subst z
      exact e ((List.getElem?_inj (List.getElem?_eq_some_iff.mp hk).1 s.nd).mp (hk.trans hm.symm))
    exact (s.ob k b v hk hv).lift (upd_ne nb) fun q => q.grow s g

/-! ### what an answer asks of the hand layer -/
/-- an exception as the hand layer has it -/
def ExcR (G : Gs) (H : Hp) (μ : List Addr) (x : Exc) (cls : Value) (d : Option Addr) : Prop :=
  ∃ C, G.ca x.cls = some C ∧ cls = .ref C ∧ match x.fs, d with
    | [], none => True
    | f :: fs, some dx => ∃ fv : List (Str × V), H dx = some (.xd fv) ∧ (∀ n, ((f :: fs).lookup n).isSome = (fv.lookup n).isSome) ∧ ∀ n w v, (f :: fs).lookup n = some w → fv.lookup n = some v → Rep G H μ w v
    | _, _ => False

def PostR {α β : Type} (G : Gs) (R : Hp → List Addr → α → β → Prop) (X : Value → Option Addr → Hp → Prop) (H : Hp) (μ : List Addr) (r : Res α) (Q : β → Hp → Prop) : Prop := match r with
  | .ok a st => ∀ b H' μ', Grow H H' μ μ' → SR G H' μ' st → R H' μ' a b → Q b H'
  | .exc x st => ∀ cls d H' μ', Grow H H' μ μ' → SR G H' μ' st → ExcR G H' μ' x cls d → X cls d H'
  | .stuck => False
theorem PostR.shift {α β : Type} {R : Hp → List Addr → α → β → Prop} {X : Value → Option Addr → Hp → Prop} {H1 : Hp} {μ1 : List Addr} {r : Res α} {Q : β → Hp → Prop} (g : Grow H H1 μ μ1) (h : PostR G R X H μ r Q) : PostR G R X H1 μ1 r Q := by
  cases r with
  | ok a s => exact fun b H' μ' g' sr ra => h b H' μ' (g.trans g') sr ra
  | exc x s => exact fun c d H' μ' g' sr e => h c d H' μ' (g.trans g') sr e
  | stuck => exact h
theorem PostR.mono {α β : Type} {R : Hp → List Addr → α → β → Prop} {X X' : Value → Option Addr → Hp → Prop} {r : Res α} {Q Q' : β → Hp → Prop} (h : PostR G R X H μ r Q) (hq : ∀ b H', Q b H' → Q' b H') (hx : ∀ c d H', X c d H' → X' c d H') : PostR G R X' H μ r Q' := by
  cases r with
  | ok a s => exact fun b H' μ' g' sr ra => hq _ _ (h b H' μ' g' sr ra)
  | exc x s => exact fun c d H' μ' g' sr e => hx _ _ _ (h c d H' μ' g' sr e)
  | stuck => exact h
/-- one, then another -/
theorem PostR.bind {α β γ δ : Type} {R : Hp → List Addr → γ → δ → Prop} {R1 : Hp → List Addr → α → β → Prop} {X : Value → Option Addr → Hp → Prop} {r : Res α} {f : α → M γ} {Q : δ → Hp → Prop} (h : PostR G R X H μ (r.bind f) Q) :
    PostR G R1 X H μ r fun b H1 => ∃ μ1 st1 a, Grow H H1 μ μ1 ∧ SR G H1 μ1 st1 ∧ R1 H1 μ1 a b ∧ PostR G R X H1 μ1 (f a st1) Q := by
  cases r with
  | ok a s => exact fun b H' μ' g sr ra => ⟨μ', s, a, g, sr, ra, PostR.shift g h⟩
  | exc x s => exact h
  | stuck => exact h
abbrev RB : Hp → List Addr → Bool → Bool → Prop := fun _ _ a b => a = b
abbrev Post (G : Gs) := PostR G (Rep G)
abbrev PostL (G : Gs) := PostR G (Reps G)
abbrev PostB (G : Gs) := PostR G RB
/-- the slots hold what the small machine's names hold -/
structure EnvR (G : Gs) (H : Hp) (μ : List Addr) (ρ : Env) (σ : St) : Prop where
  len : ρ.length = σ.length
  at_ : ∀ (i : Nat) (w : W), ρ[i]? = some (some w) → ∃ v, σ[i]? = some (some v) ∧ Rep G H μ w v
theorem EnvR.grow {ρ : Env} {σ : St} (s : SR G H μ st) (g : Grow H H' μ μ') (e : EnvR G H μ ρ σ) : EnvR G H' μ' ρ σ :=
  ⟨e.len, fun i w h => let ⟨v, a, b⟩ := e.at_ i w h; ⟨v, a, b.grow s g⟩⟩
theorem EnvR.set {ρ : Env} {σ : St} (e : EnvR G H μ ρ σ) (i : Nat) {w : W} {v : V} (h : Rep G H μ w v) : EnvR G H μ (ρ.set i (some w)) (σ.set i (some v)) := by
  refine ⟨by simp [e.len], fun j u hj => ?_⟩
  by_cases q : i = j
  · subst q
    by_cases hl : i < ρ.length
    · rw [List.getElem?_set_self hl] at hj; cases hj
      exact ⟨v, by rw [List.getElem?_set_self (by rw [← e.len]; exact hl)], h⟩
    · rw [List.getElem?_eq_none (by simpa using hl)] at hj; cases hj
  · rw [List.getElem?_set_ne q] at hj
    obtain ⟨x, a, b⟩ := e.at_ j u hj
    exact ⟨x, by rw [List.getElem?_set_ne q]; exact a, b⟩

/-- a wish about exceptions that hangs on the slots -/
def tM (G : Gs) (Wh : WX) (m : Env → M W) : TE := fun σ H Q => ∃ ρ μ st, EnvR G H μ ρ σ ∧ SR G H μ st ∧ Post G (fun c d => Wh c d σ) H μ (m ρ st) Q
def tML (G : Gs) (Wh : WX) (m : Env → M (List W)) : TA := fun σ H Q => ∃ ρ μ st, EnvR G H μ ρ σ ∧ SR G H μ st ∧ PostL G (fun c d => Wh c d σ) H μ (m ρ st) Q
def tMB (G : Gs) (Wh : WX) (m : Env → M Bool) : TT := fun σ H Q => ∃ ρ μ st, EnvR G H μ ρ σ ∧ SR G H μ st ∧ PostB G (fun c d => Wh c d σ) H μ (m ρ st) Q

theorem peImp {X : Cx} {e : Expr} {t t' : TE} (h : PE X e t) (i : ∀ σ H Q, t' σ H Q → t σ H Q) : PE X e t' := ⟨fun p s σ H Q I q => h.run p s σ H Q I (i σ H Q q)⟩
theorem ptImp {X : Cx} {e : Expr} {t t' : TT} (h : PT X e t) (i : ∀ σ H Q, t' σ H Q → t σ H Q) : PT X e t' := ⟨fun p s σ H Q I q => h.run p s σ H Q I (i σ H Q q)⟩
theorem pwImp {X : Cx} {e : Expr} {t t' : TT} (h : PW X e t) (i : ∀ σ H Q, t' σ H Q → t σ H Q) : PW X e t' := ⟨fun wh p s σ H Q I q => h.run wh p s σ H Q I (i σ H Q q)⟩
theorem paImp {X : Cx} {e : List Expr} {t t' : TA} (h : PA X e t) (i : ∀ σ H Q, t' σ H Q → t σ H Q) : PA X e t' := ⟨fun p pins s σ H Q I q => h.run p pins s σ H Q I (i σ H Q q)⟩
theorem psImp {X : Cx} {e : Stmt} {t t' : TS} (h : PS X e t) (i : ∀ D σ H, t' D σ H → t D σ H) : PS X e t' := ⟨fun p s σ H D I q => h.run p s σ H D I (i D σ H q)⟩
theorem pssImp {X : Cx} {e : List Stmt} {t t' : TS} (h : PSs X e t) (i : ∀ D σ H, t' D σ H → t D σ H) : PSs X e t' := ⟨fun p s σ H D I q => h.run p s σ H D I (i D σ H q)⟩

/-- an expression ahead, the rest behind: what is left is told at the new heap -/
theorem tM_bind {Wh : WX} {m : Env → M W} {ρ : Env} {f : W → M W} {σ : St} {Q : VK} (er : EnvR G H μ ρ σ) (sr : SR G H μ st) (h : Post G (fun c d => Wh c d σ) H μ ((m ρ st).bind f) Q) :
    tM G Wh m σ H fun x H1 => ∃ μ1 st1 w, EnvR G H1 μ1 ρ σ ∧ SR G H1 μ1 st1 ∧ Grow H H1 μ μ1 ∧ Rep G H1 μ1 w x ∧ Post G (fun c d => Wh c d σ) H1 μ1 (f w st1) Q :=
  ⟨ρ, μ, st, er, sr, (PostR.bind (R1 := Rep G) h).mono (fun _ _ ⟨μ1, st1, a, g, s1, r1, p⟩ => ⟨μ1, st1, a, er.grow sr g, s1, g, r1, p⟩) fun _ _ _ z => z⟩
theorem TE.mono_of {X : Cx} {e : Expr} {t : TE} (h : PE X e t) : True := trivial
end Mi

/-! Mi4: each operation of the small machine is what the hand layer's rule asks. -/
namespace Mi
open PySem L2
variable {G : Gs} {H H' : Hp} {μ μ' : List Addr} {st : Sto}

theorem SZ_le {n : Nat} (h : n ≤ SZ) : n ≤ sizeLine := by rw [sizeLine_eq]; exact h
theorem SZ_lt {n : Nat} (h : n < SZ) : n < sizeLine := by rw [sizeLine_eq]; exact h
/-- the operation does what r asks -/
def OpIs (G : Gs) (r : R2) (op : W → W → M W) : Prop := ∀ (H : Hp) (μ : List Addr) (st : Sto) (x y : V) (wx wy : W) (X : Value → Option Addr → Hp → Prop) (Q : VK), SR G H μ st → Rep G H μ wx x → Rep G H μ wy y →
  Post G X H μ (op wx wy st) Q → r x y H Q
abbrev rOr (r r' : R2) : R2 := fun x y H Q => r x y H Q ∨ r' x y H Q

theorem Rep.tup_new (sr : SR G H μ st) {p : Addr} {ws : List W} {vs : List V} (h : H p = none) (r : Reps G H μ ws vs) :
    Grow H (upd H p (.tup vs)) μ μ ∧ SR G (upd H p (.tup vs)) μ st ∧ Rep G (upd H p (.tup vs)) μ (.tup ws) (.ref p) := by
  obtain ⟨g, s1⟩ := sr.temp (o := .tup vs) h
  refine ⟨g, s1, ?_⟩
  simp only [Rep]
  exact ⟨p, vs, rfl, .inl (.inl upd_same), r.grow sr g⟩
theorem Rep.int_inv {i : Int} {v : V} (h : Rep G H μ (.int i) v) : v = .int i := by simpa only [Rep] using h
theorem Rep.str_inv {x : Str} {v : V} (h : Rep G H μ (.str x) v) : v = .str x := by simpa only [Rep] using h
theorem Rep.bl_inv {x : Bool} {v : V} (h : Rep G H μ (.bl x) v) : v = .bl x := by simpa only [Rep] using h
theorem Rep.non_inv {v : V} (h : Rep G H μ .non v) : v = .non := by simpa only [Rep] using h
theorem Rep.tup_inv {ws : List W} {v : V} (h : Rep G H μ (.tup ws) v) : ∃ a vs, v = .ref a ∧ SqT G.K H a vs ∧ Reps G H μ ws vs := by simpa only [Rep] using h
theorem Rep.frl_inv {ws : List W} {v : V} (h : Rep G H μ (.frl ws) v) : ∃ a vs, v = .ref a ∧ SqL G.K H a vs ∧ Reps G H μ ws vs := by
  simp only [Rep] at h
  obtain ⟨a, vs, e, q, r⟩ := h
  refine ⟨a, vs, e, ?_, r⟩
  rcases q with ⟨o, q⟩ | q
  · exact .inl (.inr ⟨o, q⟩)
  · exact .inr q
theorem Rep.loc_inv {n : Nat} {v : V} (h : Rep G H μ (.loc n) v) : ∃ a, v = .ref a ∧ μ[n]? = some a := by simpa only [Rep] using h
theorem Rep.int_ {i : Int} : Rep G H μ (.int i) (.int i) := by simp only [Rep]
theorem Rep.str_ {i : Str} : Rep G H μ (.str i) (.str i) := by simp only [Rep]
theorem Rep.bl_ {i : Bool} : Rep G H μ (.bl i) (.bl i) := by simp only [Rep]
theorem Rep.non_ : Rep G H μ .non .non := by simp only [Rep]
/-- a list of the store -/
theorem Rep.lst (sr : SR G H μ st) {n : Nat} {v : V} {ws : List W} (h : Rep G H μ (.loc n) v) (e : st[n]? = some (.lst ws)) : ∃ a vs, v = .ref a ∧ μ[n]? = some a ∧ H a = some (.lst vs) ∧ Reps G H μ ws vs := by
  obtain ⟨a, rfl, hm⟩ := h.loc_inv
  obtain ⟨vs, e1, r⟩ := sr.ob n a _ hm e
  exact ⟨a, vs, rfl, hm, e1, r⟩

theorem is_int2 {op : W → W → M W} {C : Int → Int → Prop} {g : Int → Int → W} {g' : Int → Int → V} (hg : ∀ (i j : Int) (H : Hp) (μ : List Addr), Rep G H μ (g i j) (g' i j))
    (h : ∀ wx wy st, (∃ i j, wx = .int i ∧ wy = .int j ∧ C i j ∧ op wx wy st = .ok (g i j) st) ∨ op wx wy st = .stuck) : OpIs G (rI C g') op := by
  intro H μ st x y wx wy X Q sr hx hy q
  rcases h wx wy st with ⟨i, j, rfl, rfl, c, e⟩ | e
  · rw [e] at q
    exact ⟨i, j, hx.int_inv, hy.int_inv, c, q _ H μ .refl sr (hg i j H μ)⟩
  · rw [e] at q; exact q.elim
/-- what the sum asks -/
abbrev rAddAll (K : PySem.W.Frag) : R2 := rOr (rI0 fun i j => .int (i + j)) (rOr (fun x y H Q => ∃ i j, x = .str i ∧ y = .str j ∧ i.length + j.length ≤ sizeLine ∧ Q (.str (i ++ j)) H) (rOr (rCatA K) rCat))
theorem is_add : OpIs G (rAddAll G.K) (binop .add) := by
  intro H μ st x y wx wy X Q sr hx hy q
  cases wx <;> cases wy <;> first | exact False.elim q | skip
  case int.int => exact .inl ⟨_, _, hx.int_inv, hy.int_inv, q _ H μ .refl sr Rep.int_⟩
  case str.str i j =>
    by_cases hl : i.length + j.length ≤ SZ
    · simp only [binop, if_pos hl] at q
      exact .inr (.inl ⟨_, _, hx.str_inv, hy.str_inv, SZ_le hl, q _ H μ .refl sr Rep.str_⟩)
    · simp only [binop, if_neg hl] at q
      exact q.elim
  case tup.tup xs ys =>
    by_cases hl : xs.length + ys.length ≤ SZ
    · simp only [binop, if_pos hl] at q
      obtain ⟨a, vs, rfl, sa, ra⟩ := hx.tup_inv
      obtain ⟨b, us, rfl, sb, rb⟩ := hy.tup_inv
      refine .inr (.inr (.inl ⟨a, b, vs, us, rfl, rfl, sa, sb, ?_, fun e => ?_, fun _ e => ?_, fun _ _ p hp => ?_⟩))
      · rw [← ra.length, ← rb.length]; exact SZ_le hl
      · subst e
        have := ra.length
        have ex : xs = [] := List.eq_nil_of_length_eq_zero (by simpa using this)
        subst ex
        exact q _ H μ .refl sr (by simpa using hy)
      · subst e
        have := rb.length
        have ey : ys = [] := List.eq_nil_of_length_eq_zero (by simpa using this)
        subst ey
        exact q _ H μ .refl sr (by simpa using hx)
      · obtain ⟨g, s1, r1⟩ := Rep.tup_new sr hp (ra.append_ rb)
        exact q _ _ μ g s1 r1
    · simp only [binop, if_neg hl] at q
      exact q.elim
  case loc.loc m n =>
    simp only [binop] at q
    split at q
    · rename_i e1 e2
      split at q
      · rename_i hl
        obtain ⟨a, vs, rfl, _, ha, ra⟩ := Rep.lst sr hx e1
        obtain ⟨b, us, rfl, _, hb, rb⟩ := Rep.lst sr hy e2
        refine .inr (.inr (.inr ⟨a, b, vs, us, rfl, rfl, ha, hb, ?_, fun p hp => ?_⟩))
        · rw [← ra.length, ← rb.length]; exact SZ_le hl
        · obtain ⟨g, s1, r1⟩ := sr.lay hp (ra.append_ rb)
          exact q _ _ _ g s1 r1
      · exact q.elim
    · exact q.elim
theorem is_sub : OpIs G (rI0 fun i j => .int (i - j)) (binop .sub) := by
  intro H μ st x y wx wy X Q sr hx hy q
  cases wx <;> cases wy <;> first | exact False.elim q | skip
  exact ⟨_, _, hx.int_inv, hy.int_inv, q _ H μ .refl sr Rep.int_⟩
theorem is_mul : OpIs G (rOr (rI CMulW fun i j => .int (i * j)) rRep) (binop .mul) := by
  intro H μ st x y wx wy X Q sr hx hy q
  cases wx <;> cases wy <;> first | exact False.elim q | skip
  case int.int i j =>
    by_cases hl : i.natAbs.log2 + j.natAbs.log2 < 1000000
    · simp only [binop, if_pos hl] at q
      exact .inl ⟨_, _, hx.int_inv, hy.int_inv, hl, q _ H μ .refl sr Rep.int_⟩
    · simp only [binop, if_neg hl] at q
      exact q.elim
  case loc.int n k =>
    simp only [binop] at q
    split at q
    · rename_i e1
      split at q
      · rename_i hl
        obtain ⟨a, vs, rfl, _, ha, ra⟩ := Rep.lst sr hx e1
        refine .inr ⟨a, k, vs, rfl, hy.int_inv, ha, hl.1, hl.2.1, ?_, fun p hp => ?_⟩
        · rw [← ra.length]; exact SZ_le hl.2.2
        · obtain ⟨g, s1, r1⟩ := sr.lay hp (ra.rep_ k.toNat)
          exact q _ _ _ g s1 r1
      · exact q.elim
    · exact q.elim
theorem is_mod : OpIs G (rI (fun _ j => 0 < j) fun i j => .int (i % j)) (binop .mod) := by
  intro H μ st x y wx wy X Q sr hx hy q
  cases wx <;> cases wy <;> first | exact False.elim q | skip
  case int.int i j =>
    by_cases hl : 0 < j
    · simp only [binop, if_pos hl] at q
      exact ⟨_, _, hx.int_inv, hy.int_inv, hl, q _ H μ .refl sr Rep.int_⟩
    · simp only [binop, if_neg hl] at q
      exact q.elim
theorem is_fdiv : OpIs G (rI CDivW fun i j => .int (i / j)) (binop .fdiv) := by
  intro H μ st x y wx wy X Q sr hx hy q
  cases wx <;> cases wy <;> first | exact False.elim q | skip
  case int.int i j =>
    by_cases hl : 0 < j ∧ j.natAbs.log2 < 9000
    · simp only [binop, if_pos hl] at q
      exact ⟨_, _, hx.int_inv, hy.int_inv, hl, q _ H μ .refl sr Rep.int_⟩
    · simp only [binop, if_neg hl] at q
      exact q.elim
theorem is_pow : OpIs G (rI CPow fun i j => .int (i ^ j.toNat)) (binop .pow) := by
  intro H μ st x y wx wy X Q sr hx hy q
  cases wx <;> cases wy <;> first | exact False.elim q | skip
  case int.int i j =>
    by_cases hl : 0 ≤ j ∧ j ≤ 1000000 ∧ i.natAbs < 2 ^ 64
    · simp only [binop, if_pos hl] at q
      exact ⟨_, _, hx.int_inv, hy.int_inv, hl, q _ H μ .refl sr Rep.int_⟩
    · simp only [binop, if_neg hl] at q
      exact q.elim

/-! ### data -/
mutual
theorem toD_dp (sr : SR G H μ st) : ∀ (n : Nat) {w : W} {d : PyData} {v : V}, toD n st w = some d → d.canLay0 = true → Rep G H μ w v → Dp G.K H v d
  | 0, _, _, _, h, _, _ => by simp [toD] at h
  | n + 1, .non, _, _, h, _, r => by simp [toD] at h; subst h; rw [r.non_inv]; exact .non
  | n + 1, .bl _, _, _, h, _, r => by simp [toD] at h; subst h; rw [r.bl_inv]; exact .bl _
  | n + 1, .int _, _, _, h, _, r => by simp [toD] at h; subst h; rw [r.int_inv]; exact .int _
  | n + 1, .str _, _, _, h, _, r => by simp [toD] at h; subst h; rw [r.str_inv]; exact .str _
  | n + 1, .tup ws, d, v, h, c, r => by
    simp only [toD, Option.map_eq_some_iff] at h
    obtain ⟨ds, h, rfl⟩ := h
    obtain ⟨a, vs, rfl, q, rs⟩ := r.tup_inv
    exact .tup q (toDs_dp sr n h (by simpa only [PyData.canLay0] using c) rs)
  | n + 1, .frl ws, d, v, h, c, r => by
    simp only [toD, Option.map_eq_some_iff] at h
    obtain ⟨ds, h, rfl⟩ := h
    obtain ⟨a, vs, rfl, q, rs⟩ := r.frl_inv
    exact .lst q (toDs_dp sr n h (by simpa only [PyData.canLay0] using c) rs)
  | n + 1, .loc l, d, v, h, c, r => by
    simp only [toD] at h
    split at h
    · rename_i xs e
      simp only [Option.map_eq_some_iff] at h
      obtain ⟨ds, h, rfl⟩ := h
      obtain ⟨a, vs, rfl, _, q, rs⟩ := Rep.lst sr r e
      exact .lst (SqL.of q) (toDs_dp sr n h (by simpa only [PyData.canLay0] using c) rs)
    · split at h
      · cases h; simp [PyData.canLay0] at c
      · cases h
    · cases h
  | n + 1, .glb _, _, _, h, _, _ => by simp [toD] at h
theorem toDs_dp (sr : SR G H μ st) : ∀ (n : Nat) {ws : List W} {ds : List PyData} {vs : List V}, ws.mapM (toD n st) = some ds → PyData.canLayAll0 ds = true → Reps G H μ ws vs → DpAll G.K H vs ds
  | n, [], ds, vs, h, _, r => by
    simp at h; subst h
    rw [r.nil_inv]; exact .nil
  | n, w :: ws, ds, vs, h, c, r => by
    rw [List.mapM_cons] at h
    simp only [Option.pure_def, Option.bind_eq_bind, Option.bind_eq_some_iff, Option.some.injEq] at h
    obtain ⟨d, h1, es, h2, rfl⟩ := h
    simp only [PyData.canLayAll0, Bool.and_eq_true] at c
    simp only [Reps] at r
    obtain ⟨v, vr, rfl, r1, r2⟩ := r
    exact .cons (toD_dp sr n h1 c.1 r1) (toDs_dp sr n h2 c.2 r2)
end
end Mi

/-! Mi5: comparisons, places, slices, built-in functions of the small machine. -/
namespace Mi
open PySem L2
variable {G : Gs} {H H' : Hp} {μ μ' : List Addr} {st : Sto}

/-- a scalar as the hand layer has it -/
def vF : W → V
  | .bl b => .bl b
  | .int i => .int i
  | .str x => .str x
  | _ => .non
theorem Rep.flat {w : W} {v : V} (h : Rep G H μ w v) (f : flatW w = true) : v = vF w := by
  cases w <;> simp [flatW] at f <;> simp only [Rep] at h <;> exact h
theorem flat_vF {w : W} : flatV (vF w) = true := by cases w <;> rfl
theorem eqV_vF {a b : W} (ha : flatW a = true) (hb : flatW b = true) : eqV (vF a) (vF b) = eqF a b := by
  cases a <;> simp [flatW] at ha <;> cases b <;> simp [flatW] at hb <;> rfl
theorem same_flat {a b : W} (h : sameW a b = true) : flatW a = true ∧ flatW b = true := by
  cases a <;> cases b <;> simp [sameW] at h <;> exact ⟨rfl, rfl⟩
theorem same_scal {a b : W} (h : sameW a b = true) : scal (vF a) (vF b) = true := by
  cases a <;> cases b <;> simp [sameW] at h <;> rfl
theorem same_dec {a b : W} (h : sameW a b = true) : decide (vF a = vF b) = decide (a = b) := by
  cases a <;> cases b <;> simp [sameW] at h <;> simp [vF]

/-- a seq of the small machine is one of the hand layer's -/
theorem isLst_of (sr : SR G H μ st) {w : W} {v : V} {ws : List W} (r : Rep G H μ w v) (e : isLst st w = some ws) : ∃ a vs, v = .ref a ∧ SqL G.K H a vs ∧ Reps G H μ ws vs := by
  cases w <;> simp only [isLst, reduceCtorEq, Option.some.injEq] at e
  · subst e; exact r.frl_inv
  · split at e
    · rename_i n xs h
      cases e
      obtain ⟨a, vs, e, _, h', rs⟩ := Rep.lst sr r h
      exact ⟨a, vs, e, SqL.of h', rs⟩
    · cases e
theorem isSeq_of (sr : SR G H μ st) {w : W} {v : V} {ws : List W} (r : Rep G H μ w v) (e : isSeq st w = some ws) : ∃ a vs, v = .ref a ∧ (SqL G.K H a vs ∨ SqT G.K H a vs) ∧ Reps G H μ ws vs := by
  by_cases ht : ∃ xs, w = .tup xs
  · obtain ⟨xs, rfl⟩ := ht
    simp only [isSeq, Option.some.injEq] at e
    subst e
    obtain ⟨a, vs, e, q, rs⟩ := r.tup_inv
    exact ⟨a, vs, e, .inr q, rs⟩
  · have e' : isLst st w = some ws := by cases w <;> first | exact e | exact absurd ⟨_, rfl⟩ ht
    obtain ⟨a, vs, e, q, rs⟩ := isLst_of sr r e'
    exact ⟨a, vs, e, .inl q, rs⟩
/-- two sequences that are told apart, or alike, by their lengths alone -/
def rEmp (K : PySem.W.Frag) (neg : Bool) : R2 := fun x y H Q => ∃ p q xs ys, x = .ref p ∧ y = .ref q ∧
  ((SqT K H p xs ∧ SqT K H q ys ∧ (xs = [] ∨ ys = []) ∧ Q (.bl ((xs.isEmpty && ys.isEmpty) != neg)) H) ∨ (SqL K H p xs ∧ SqL K H q ys ∧ ((xs.length ≠ ys.length ∧ Q (.bl (false != neg)) H) ∨ (xs = [] ∧ ys = [] ∧ Q (.bl (true != neg)) H))))
theorem empty_of {ws : List W} {vs : List V} (r : Reps G H μ ws vs) : ws.isEmpty = vs.isEmpty := by
  have := r.length
  cases ws <;> cases vs <;> simp_all
theorem is_emp (sr : SR G H μ st) {wx wy : W} {x y : V} {b neg : Bool} {X : Value → Option Addr → Hp → Prop} {Q : VK} (hx : Rep G H μ wx x) (hy : Rep G H μ wy y) (e : eqE st wx wy = some b) (q : Post G X H μ (.ok (.bl (b != neg)) st) Q) : rEmp G.K neg x y H Q := by
  have q := q _ H μ .refl sr Rep.bl_
  unfold eqE at e
  split at e
  · rename_i xs ys e1 e2
    have e1 : wx = .tup xs := by cases wx <;> simp [isTupW] at e1; rw [e1]
    have e2 : wy = .tup ys := by cases wy <;> simp [isTupW] at e2; rw [e2]
    subst e1 e2
    obtain ⟨a, vs, rfl, ha, ra⟩ := hx.tup_inv
    obtain ⟨c, us, rfl, hc, rc⟩ := hy.tup_inv
    split at e
    · rename_i h
      cases e
      rw [empty_of ra, empty_of rc] at h q
      refine ⟨a, c, vs, us, rfl, rfl, .inl ⟨ha, hc, ?_, q⟩⟩
      rw [Bool.or_eq_true, List.isEmpty_iff, List.isEmpty_iff] at h
      exact h
    · cases e
  · split at e
    · rename_i xs ys e1 e2
      obtain ⟨a, vs, rfl, ha, ra⟩ := isLst_of sr hx e1
      obtain ⟨c, us, rfl, hc, rc⟩ := isLst_of sr hy e2
      split at e
      · rename_i h
        cases e
        rw [ra.length, rc.length] at h
        exact ⟨a, c, vs, us, rfl, rfl, .inr ⟨ha, hc, .inl ⟨h, q⟩⟩⟩
      · rename_i h
        split at e
        · rename_i h2
          cases e
          rw [empty_of ra, List.isEmpty_iff] at h2
          subst h2
          have : us = [] := by
            have h : xs.length = ys.length := Decidable.not_not.mp h
            rw [ra.length, rc.length] at h
            exact List.eq_nil_of_length_eq_zero (by simpa using h.symm)
          subst this
          exact ⟨a, c, [], [], rfl, rfl, .inr ⟨ha, hc, .inr ⟨rfl, rfl, q⟩⟩⟩
        · cases e
    · cases e
theorem is_eq : OpIs G (rOr rEq (rOr (rEmp G.K false) (rEqD G.K))) (cmpop .eq) := by
  intro H μ st x y wx wy X Q sr hx hy q
  have q : Post G X H μ (match eqW st wx wy with | some r => .ok (.bl r) st | none => .stuck) Q := by
    cases wx <;> cases wy <;> exact q
  unfold eqW at q
  by_cases h : sameW wx wy = true
  · rw [if_pos h] at q
    obtain ⟨fx, fy⟩ := same_flat h
    rw [hx.flat fx, hy.flat fy]
    refine .inl ⟨same_scal h, q _ H μ .refl sr ?_⟩
    rw [same_dec h]; exact Rep.bl_
  · rw [if_neg h] at q
    cases em : eqE st wx wy with
    | some r =>
      rw [em] at q
      exact .inr (.inl (is_emp (neg := false) sr hx hy em (by simpa using q)))
    | none =>
    rw [em] at q
    dsimp only at q
    split at q
    · rename_i r e
      split at e
      · rename_i d d' e1 e2
        split at e
        · rename_i hs
          cases e
          rw [Bool.and_eq_true] at hs
          exact .inr (.inr ⟨d, d', toD_dp sr _ e1 (SeqAt.canLay_of_shaped hs.1) hx, toD_dp sr _ e2 (SeqAt.canLay_of_shaped hs.2) hy, hs.1, hs.2, q _ H μ .refl sr Rep.bl_⟩)
        · cases e
      · cases e
    · exact q.elim
theorem is_ne : OpIs G (rOr rNe (rOr (rEmp G.K true) (rNeD G.K))) (cmpop .ne) := by
  intro H μ st x y wx wy X Q sr hx hy q
  have q : Post G X H μ (match (eqW st wx wy).map (!·) with | some r => .ok (.bl r) st | none => .stuck) Q := by
    cases wx <;> cases wy <;> exact q
  unfold eqW at q
  by_cases h : sameW wx wy = true
  · rw [if_pos h] at q
    obtain ⟨fx, fy⟩ := same_flat h
    rw [hx.flat fx, hy.flat fy]
    refine .inl ⟨same_scal h, q _ H μ .refl sr ?_⟩
    rw [same_dec h]; exact Rep.bl_
  · rw [if_neg h] at q
    cases em : eqE st wx wy with
    | some r =>
      rw [em] at q
      exact .inr (.inl (is_emp (neg := true) sr hx hy em (by simpa using q)))
    | none =>
    rw [em] at q
    dsimp only at q
    split at q
    · rename_i r e
      rw [Option.map_eq_some_iff] at e
      obtain ⟨r0, e, rfl⟩ := e
      split at e
      · rename_i d d' e1 e2
        split at e
        · rename_i hs
          cases e
          rw [Bool.and_eq_true] at hs
          exact .inr (.inr ⟨d, d', toD_dp sr _ e1 (SeqAt.canLay_of_shaped hs.1) hx, toD_dp sr _ e2 (SeqAt.canLay_of_shaped hs.2) hy, hs.1, hs.2, q _ H μ .refl sr Rep.bl_⟩)
        · cases e
      · cases e
    · exact q.elim
theorem is_lt : OpIs G (rOr (rI0 fun i j => .bl (decide (i < j))) (fun x y H Q => ∃ i j, x = .str i ∧ y = .str j ∧ Q (.bl (decide (i.cps.toList < j.cps.toList))) H)) (cmpop .lt) := by
  intro H μ st x y wx wy X Q sr hx hy q
  cases wx <;> cases wy <;> first | exact False.elim q | skip
  · exact .inl ⟨_, _, hx.int_inv, hy.int_inv, q _ H μ .refl sr Rep.bl_⟩
  · exact .inr ⟨_, _, hx.str_inv, hy.str_inv, q _ H μ .refl sr Rep.bl_⟩
theorem is_le : OpIs G (rOr (rI0 fun i j => .bl (decide (i ≤ j))) (fun x y H Q => ∃ i j, x = .str i ∧ y = .str j ∧ Q (.bl (!decide (j.cps.toList < i.cps.toList))) H)) (cmpop .le) := by
  intro H μ st x y wx wy X Q sr hx hy q
  cases wx <;> cases wy <;> first | exact False.elim q | skip
  · exact .inl ⟨_, _, hx.int_inv, hy.int_inv, q _ H μ .refl sr Rep.bl_⟩
  · exact .inr ⟨_, _, hx.str_inv, hy.str_inv, q _ H μ .refl sr Rep.bl_⟩
theorem is_gt : OpIs G (rI0 fun i j => .bl (decide (j < i))) (cmpop .gt) := by
  intro H μ st x y wx wy X Q sr hx hy q
  cases wx <;> cases wy <;> first | exact False.elim q | skip
  exact ⟨_, _, hx.int_inv, hy.int_inv, q _ H μ .refl sr Rep.bl_⟩
theorem is_ge : OpIs G (rI0 fun i j => .bl (decide (j ≤ i))) (cmpop .ge) := by
  intro H μ st x y wx wy X Q sr hx hy q
  cases wx <;> cases wy <;> first | exact False.elim q | skip
  exact ⟨_, _, hx.int_inv, hy.int_inv, q _ H μ .refl sr Rep.bl_⟩
theorem Reps.flats : ∀ {ws : List W} {vs : List V}, Reps G H μ ws vs → ws.all flatW = true → vs = ws.map vF
  | [], _, r, _ => by rw [r.nil_inv]; rfl
  | w :: ws, _, r, h => by
    simp only [Reps] at r
    obtain ⟨v, vr, rfl, r1, r2⟩ := r
    simp only [List.all_cons, Bool.and_eq_true] at h
    rw [List.map_cons, r1.flat h.1, Reps.flats r2 h.2]
theorem any_vF {x : W} (hx : flatW x = true) : ∀ {ws : List W}, ws.all flatW = true → inV (vF x) (ws.map vF) = ws.any fun z => eqF z x
  | [], _ => rfl
  | w :: ws, h => by
    simp only [List.all_cons, Bool.and_eq_true] at h
    have := any_vF hx h.2
    unfold inV at this ⊢
    rw [List.map_cons, List.any_cons, List.any_cons, this, eqV_vF h.1 hx]
theorem all_vF {ws : List W} : (ws.map vF).all flatV = true := by
  rw [List.all_eq_true]; intro y hy
  obtain ⟨w, _, rfl⟩ := List.mem_map.mp hy
  exact flat_vF
abbrev rInSign (neg : Bool) : R2 := fun x y H Q => ∃ (c : Nat) (z : Str), x = .str ⟨#[c]⟩ ∧ y = .str z ∧ Q (.bl (if neg then !decide (c ∈ z.cps.toList) else decide (c ∈ z.cps.toList))) H
theorem one_sign {x : Str} (h : x.cps.size = 1) : x = ⟨#[x.cps.getD 0 0]⟩ := by
  obtain ⟨a⟩ := x
  congr 1
  apply Array.ext
  · simpa using h
  · intro i h1 h2
    have : i = 0 := by simp at h2; exact h2
    subst this
    simp [Array.getD, h1]
theorem is_in : OpIs G (rOr (rInSign false) (rIn G.K false)) (cmpop .isin) := by
  intro H μ st x y wx wy X Q sr hx hy q
  by_cases hs : ∃ a b, wx = .str a ∧ wy = .str b
  · obtain ⟨a, b, rfl, rfl⟩ := hs
    simp only [cmpop, cmpB] at q
    by_cases h1 : a.cps.size = 1
    · rw [if_pos h1] at q
      refine .inl ⟨a.cps.getD 0 0, b, by rw [hx.str_inv]; congr 1; exact one_sign h1, hy.str_inv, q _ H μ .refl sr ?_⟩
      exact Rep.bl_
    · rw [if_neg h1] at q; exact q.elim
  · have q : Post G X H μ (match (match isSeq st wy with | some ys => if flatW wx && ys.all flatW then some (ys.any fun z => eqF z wx) else none | none => none) with | some t => .ok (.bl t) st | none => .stuck) Q := by
      cases wx <;> cases wy <;> first | exact q | exact absurd ⟨_, _, rfl, rfl⟩ hs
    cases e : isSeq st wy with
    | none => rw [e] at q; exact q.elim
    | some ys =>
      rw [e] at q
      dsimp only at q
      by_cases hf : (flatW wx && ys.all flatW) = true
      · rw [if_pos hf] at q
        rw [Bool.and_eq_true] at hf
        obtain ⟨a, vs, rfl, hq, rs⟩ := isSeq_of sr hy e
        have e1 := rs.flats hf.2
        subst e1
        refine .inr ⟨a, _, rfl, hq, by rw [hx.flat hf.1]; exact flat_vF, all_vF, q _ H μ .refl sr ?_⟩
        rw [hx.flat hf.1, any_vF hf.1 hf.2]; exact Rep.bl_
      · rw [if_neg hf] at q; exact q.elim
theorem is_notin : OpIs G (rOr (rInSign true) (rIn G.K true)) (cmpop .notin) := by
  intro H μ st x y wx wy X Q sr hx hy q
  by_cases hs : ∃ a b, wx = .str a ∧ wy = .str b
  · obtain ⟨a, b, rfl, rfl⟩ := hs
    simp only [cmpop, cmpB] at q
    by_cases h1 : a.cps.size = 1
    · rw [if_pos h1] at q
      refine .inl ⟨a.cps.getD 0 0, b, by rw [hx.str_inv]; congr 1; exact one_sign h1, hy.str_inv, q _ H μ .refl sr ?_⟩
      exact Rep.bl_
    · rw [if_neg h1] at q; exact q.elim
  · have q : Post G X H μ (match (match isSeq st wy with | some ys => if flatW wx && ys.all flatW then some (!ys.any fun z => eqF z wx) else none | none => none) with | some t => .ok (.bl t) st | none => .stuck) Q := by
      cases wx <;> cases wy <;> first | exact q | exact absurd ⟨_, _, rfl, rfl⟩ hs
    cases e : isSeq st wy with
    | none => rw [e] at q; exact q.elim
    | some ys =>
      rw [e] at q
      dsimp only at q
      by_cases hf : (flatW wx && ys.all flatW) = true
      · rw [if_pos hf] at q
        rw [Bool.and_eq_true] at hf
        obtain ⟨a, vs, rfl, hq, rs⟩ := isSeq_of sr hy e
        have e1 := rs.flats hf.2
        subst e1
        refine .inr ⟨a, _, rfl, hq, by rw [hx.flat hf.1]; exact flat_vF, all_vF, q _ H μ .refl sr ?_⟩
        rw [hx.flat hf.1, any_vF hf.1 hf.2]; exact Rep.bl_
      · rw [if_neg hf] at q; exact q.elim
theorem non_iff {w : W} {v : V} (h : Rep G H μ w v) (hg : ∀ i, w ≠ .glb i) : decide (v = .non) = decide (w = .non) := by
  cases w <;> simp only [Rep] at h
  · subst h; rfl
  · subst h; rfl
  · subst h; rfl
  · subst h; rfl
  · obtain ⟨a, vs, rfl, _⟩ := h; rfl
  · obtain ⟨a, vs, rfl, _⟩ := h; rfl
  · obtain ⟨a, rfl, _⟩ := h; rfl
  · exact absurd rfl (hg _)
theorem is_is : OpIs G (fun x y H Q => y = .non ∧ Q (.bl (decide (x = .non))) H) (cmpop .is) := by
  intro H μ st x y wx wy X Q sr hx hy q
  have key : ∀ (h : wy = .non) (hg : ∀ i, wx ≠ .glb i), Post G X H μ (.ok (.bl (decide (wx = .non))) st) Q → y = .non ∧ Q (.bl (decide (x = .non))) H := by
    rintro rfl hg q
    refine ⟨hy.non_inv, q _ H μ .refl sr ?_⟩
    rw [non_iff hx hg]; exact Rep.bl_
  cases wx <;> cases wy <;> first | exact False.elim q | exact key rfl (fun _ => by simp) q
theorem is_isnot : OpIs G (fun x y H Q => y = .non ∧ Q (.bl (!decide (x = .non))) H) (cmpop .isnot) := by
  intro H μ st x y wx wy X Q sr hx hy q
  have key : ∀ (h : wy = .non) (hg : ∀ i, wx ≠ .glb i), Post G X H μ (.ok (.bl (!decide (wx = .non))) st) Q → y = .non ∧ Q (.bl (!decide (x = .non))) H := by
    rintro rfl hg q
    refine ⟨hy.non_inv, q _ H μ .refl sr ?_⟩
    rw [non_iff hx hg]; exact Rep.bl_
  cases wx <;> cases wy <;> first | exact False.elim q | exact key rfl (fun _ => by simp) q

/-! ### places, slices -/
theorem Reps.atI {ws : List W} {vs : List V} {k : Int} {w : W} (r : Reps G H μ ws vs) (e : L2.atI ws k = some w) : ∃ v, L2.atI vs k = some v ∧ Rep G H μ w v := by
  unfold L2.atI at e ⊢
  rw [← r.length]
  cases q : ixN ws.length k with
  | none => rw [q] at e; cases e
  | some j =>
    rw [q] at e
    simp only [Option.bind_some] at e ⊢
    exact r.get j e
abbrev rIxS : R2 := fun x y H Q => ∃ (z : Str) (i : Int) (c : Nat), x = .str z ∧ y = .int i ∧ 0 ≤ i ∧ i < 2 ^ 63 ∧ i < z.length ∧ z.cps[i.toNat]? = some c ∧ Q (.str ⟨#[c]⟩) H
theorem is_idx : OpIs G (rOr rIxS (rOr (rIxT G.K) (rIxL G.K))) idxW := by
  intro H μ st x y wx wy X Q sr hx hy q
  cases wx with
  | str z =>
    cases wy <;> first | exact False.elim q | skip
    rename_i k
    simp only [idxW] at q
    split at q
    · rename_i h1
      split at q
      · rename_i c e
        refine .inl ⟨z, k, c, hx.str_inv, hy.int_inv, h1.1, h1.2, ?_, e, q _ H μ .refl sr Rep.str_⟩
        have := (Array.getElem?_eq_some_iff.mp e).1
        show k < ((z.cps.size : Nat) : Int)
        omega
      · exact q.elim
    · exact q.elim
  | tup xs =>
    cases wy <;> first | exact False.elim q | skip
    rename_i k
    simp only [idxW] at q
    split at q
    · rename_i w e
      obtain ⟨a, vs, rfl, hq, rs⟩ := hx.tup_inv
      obtain ⟨v, e2, rv⟩ := rs.atI e
      exact .inr (.inl ⟨a, vs, k, v, rfl, hy.int_inv, hq, e2, q _ H μ .refl sr rv⟩)
    · exact q.elim
  | frl xs =>
    cases wy <;> first | exact False.elim q | skip
    rename_i k
    simp only [idxW] at q
    split at q
    · rename_i w e
      obtain ⟨a, vs, rfl, hq, rs⟩ := hx.frl_inv
      obtain ⟨v, e2, rv⟩ := rs.atI e
      exact .inr (.inr ⟨a, vs, k, v, rfl, hy.int_inv, hq, e2, q _ H μ .refl sr rv⟩)
    · exact q.elim
  | loc n =>
    simp only [idxW] at q
    split at q
    · rename_i xs e0
      split at q
      · rename_i k
        split at q
        · rename_i w e
          obtain ⟨a, vs, rfl, _, hq, rs⟩ := Rep.lst sr hx e0
          obtain ⟨v, e2, rv⟩ := rs.atI e
          exact .inr (.inr ⟨a, vs, k, v, rfl, hy.int_inv, SqL.of hq, e2, q _ H μ .refl sr rv⟩)
        · exact q.elim
      · exact q.elim
    · exact q.elim
  | non => exact q.elim
  | bl _ => exact q.elim
  | int _ => exact q.elim
  | glb _ => exact q.elim
abbrev SlT := V → Option Int → Option Int → Hp → VK → Prop
theorem Reps.cut_ {ws : List W} {vs : List V} (r : Reps G H μ ws vs) (lo hi : Option Int) : Reps G H μ (cut ws lo hi) (cutV vs lo hi) := by
  unfold cut cutV
  rw [← r.length]
  exact (r.drop_ _).take_ _
theorem cut_whole {ws : List W} {lo hi : Option Int} (h : HT.sIx ws.length 0 lo = 0 ∧ HT.sIx ws.length ws.length hi = ws.length) : cut ws lo hi = ws := by
  unfold cut; rw [h.1, h.2]; simp
theorem is_slc {x : V} {w : W} {lo hi : Option Int} {X : Value → Option Addr → Hp → Prop} {Q : VK} (sr : SR G H μ st) (hx : Rep G H μ w x) (q : Post G X H μ (slcW w lo hi st) Q) :
    rSlS x lo hi H Q ∨ rSlA G.K x lo hi H Q ∨ rSlL G.K x lo hi H Q := by
  cases w with
  | str z =>
    simp only [slcW] at q
    split at q
    · rename_i h1
      exact .inl ⟨z, hx.str_inv, SZ_le h1, q _ H μ .refl sr Rep.str_⟩
    · exact q.elim
  | tup xs =>
    obtain ⟨a, vs, rfl, hq, rs⟩ := hx.tup_inv
    refine .inr (.inl ⟨a, vs, rfl, hq, fun h => ?_, fun _ p hp => ?_⟩)
    · rw [← rs.length] at h
      have e := cut_whole h
      have q' : Post G X H μ (.ok (.tup (cut xs lo hi)) st) Q := q
      rw [e] at q'
      exact q' _ H μ .refl sr hx
    · obtain ⟨g, s1, r1⟩ := Rep.tup_new sr hp (rs.cut_ lo hi)
      exact q _ _ μ g s1 r1
  | frl xs =>
    obtain ⟨a, vs, rfl, hq, rs⟩ := hx.frl_inv
    refine .inr (.inr ⟨a, vs, rfl, hq, fun p hp => ?_⟩)
    obtain ⟨g, s1, r1⟩ := sr.lay hp (rs.cut_ lo hi)
    exact q _ _ _ g s1 r1
  | loc n =>
    simp only [slcW] at q
    split at q
    · rename_i xs e
      obtain ⟨a, vs, rfl, _, hq, rs⟩ := Rep.lst sr hx e
      refine .inr (.inr ⟨a, vs, rfl, SqL.of hq, fun p hp => ?_⟩)
      obtain ⟨g, s1, r1⟩ := sr.lay hp (rs.cut_ lo hi)
      exact q _ _ _ g s1 r1
    · exact q.elim
  | non => exact q.elim
  | bl _ => exact q.elim
  | int _ => exact q.elim
  | glb _ => exact q.elim

/-! ### truth, length -/
theorem is_tru (sr : SR G H μ st) {w : W} {v : V} {b : Bool} (r : Rep G H μ w v) (e : truW st w = some b) : TruV G.K v H b := by
  cases w <;> simp only [truW, reduceCtorEq, Option.some.injEq] at e
  · subst e; rw [r.non_inv]; rfl
  · subst e; rw [r.bl_inv]; rfl
  · subst e; rw [r.int_inv]; rfl
  · split at e
    · rename_i h; cases e; rw [r.str_inv]; exact ⟨SZ_le h, rfl⟩
    · cases e
  · subst e
    obtain ⟨a, vs, rfl, hq, rs⟩ := r.tup_inv
    refine .inr (.inl ⟨vs, hq, ?_⟩)
    rename_i xs
    have := rs.length
    cases xs <;> cases vs <;> simp_all
  · subst e
    obtain ⟨a, vs, rfl, hq, rs⟩ := r.frl_inv
    refine .inl ⟨vs, hq, ?_⟩
    rename_i xs
    have := rs.length
    cases xs <;> cases vs <;> simp_all
  · split at e
    · rename_i n xs h
      cases e
      obtain ⟨a, vs, rfl, _, hq, rs⟩ := Rep.lst sr r h
      refine .inl ⟨vs, SqL.of hq, ?_⟩
      have := rs.length
      cases xs <;> cases vs <;> simp_all
    · rename_i m n kvs h
      cases e
      obtain ⟨a, rfl, hm⟩ := r.loc_inv
      obtain ⟨kv, e1, e2, _⟩ := sr.ob _ a _ hm h
      refine .inr (.inr ⟨kv, e1, ?_⟩)
      cases kvs <;> cases kv <;> simp_all
    · cases e

/-! ### isinstance -/
def tyV' : Ty → Option String
  | .int => some "int"
  | .bool => some "bool"
  | .str => some "str"
  | .tuple => some "tuple"
  | .list => some "list"
  | .dict => some "dict"
  | .own _ => none
/-- the kind of a value, as the hand layer tells it; of the kinds that isinstance asks of -/
theorem is_ty (sr : SR G H μ st) {w : W} {v : V} {t : Ty} {n : String} {b : Bool} (r : Rep G H μ w v) (e : isTy st w t = some b) (ht : tyV' t = some n) : ∃ u, TyX G.K H v u ∧ PySem.W.kitOne G.K u (.type n) = some b := by
  have go : ∀ (T : String) (c : Bool), TyX G.K H v (.type T) → kitB T n = some c → c = b → ∃ u, TyX G.K H v u ∧ PySem.W.kitOne G.K u (.type n) = some b := fun T c h1 h2 h3 => ⟨_, h1, by rw [← h3]; exact kit_ty h2⟩
  have all : ∀ (T : String) (k : Ty → Bool), TyX G.K H v (.type T) → (∀ t n, tyV' t = some n → kitB T n = some (k t)) → k t = b → ∃ u, TyX G.K H v u ∧ PySem.W.kitOne G.K u (.type n) = some b := fun T k h1 h2 h3 => go T (k t) h1 (h2 t n ht) h3
  cases w <;> simp only [isTy, reduceCtorEq, Option.some.injEq] at e
  case non =>
    obtain rfl := r.non_inv
    exact all "NoneType" (fun _ => false) (.base .non) (by intro t n h; cases t <;> simp only [tyV', reduceCtorEq, Option.some.injEq] at h <;> subst h <;> decide +kernel) e
  case bl x =>
    obtain rfl := r.bl_inv
    exact all "bool" (fun t => t == .bool || t == .int) (.base (.bl _)) (by intro t n h; cases t <;> simp only [tyV', reduceCtorEq, Option.some.injEq] at h <;> subst h <;> decide +kernel) e
  case int x =>
    obtain rfl := r.int_inv
    exact all "int" (fun t => t == .int) (.base (.int _)) (by intro t n h; cases t <;> simp only [tyV', reduceCtorEq, Option.some.injEq] at h <;> subst h <;> decide +kernel) e
  case str x =>
    obtain rfl := r.str_inv
    exact all "str" (fun t => t == .str) (.base (.str _)) (by intro t n h; cases t <;> simp only [tyV', reduceCtorEq, Option.some.injEq] at h <;> subst h <;> decide +kernel) e
  case tup xs =>
    obtain ⟨a, vs, rfl, hq, rs⟩ := r.tup_inv
    have tx : TyX G.K H (.ref a) (.type "tuple") := by
      rcases hq with (hq | ⟨o, hq⟩) | ⟨o, its, n, h1, h2, h3⟩
      · exact .base (.tup hq)
      · exact .fTuple hq
      · exact .kTuple h1 h2
    exact all "tuple" (fun t => t == .tuple) tx (by intro t n h; cases t <;> simp only [tyV', reduceCtorEq, Option.some.injEq] at h <;> subst h <;> decide +kernel) e
  case loc m =>
    split at e
    · rename_i xs h
      obtain ⟨a, vs, rfl, _, hq, rs⟩ := Rep.lst sr r h
      exact all "list" (fun t => t == .list) (.base (.lst hq)) (by intro t n h; cases t <;> simp only [tyV', reduceCtorEq, Option.some.injEq] at h <;> subst h <;> decide +kernel) (by simpa using e)
    · rename_i kvs h
      obtain ⟨a, rfl, hm⟩ := r.loc_inv
      obtain ⟨kv, e1, e2, _⟩ := sr.ob m a _ hm h
      exact all "dict" (fun t => t == .dict) (.base (.dK e1)) (by intro t n h; cases t <;> simp only [tyV', reduceCtorEq, Option.some.injEq] at h <;> subst h <;> decide +kernel) (by simpa using e)
    · cases e
end Mi

/-! Mi6: data of any depth shown (repr), the built-in functions. -/
namespace Mi
open PySem L2
variable {G : Gs} {H H' : Hp} {μ μ' : List Addr} {st : Sto}

/-- sys.modules stands in the ground -/
def SysM (base : Heap) : Prop := ∃ m, base.Ns sysModules m

section
variable {X : Cx} {pins : List (Addr × Obj)} {σ : L2.St} {s : Shared}
theorem not_sys_trk (I : Inv X pins σ H s) (hs : SysM X.base) {a : Addr} {o : HO} (h : H a = some o) : a ≠ sysModules := fun e => by
  obtain ⟨m, ob, es, ep, q, _⟩ := hs
  have := (I.bs _ _ q).2
  rw [← e, h] at this; cases this
theorem not_sys_kl (I : Inv X pins σ H s) (hs : SysM X.base) {a : Addr} {vs : List V} (h : KL X.K a vs) : a ≠ sysModules := fun e => by
  obtain ⟨m, ob, es, ep, q, hd, _⟩ := hs
  obtain ⟨o, its, n, hk, _, _, hd', _⟩ := h
  have := I.ok.mod.kin a o hk
  rw [e, q] at this; cases this
  rw [hd] at hd'; cases hd'
theorem keys_read {h : Heap} {P : Program} {w : World} : ∀ {es : List DictEntry} {vs : List (Key × Value)}, PySem.Pairs (mixKind P w) es vs → ∃ as, ReadsAll h (es.map (·.key)) (vs.map fun p => match p.1 with | .inl i => PyData.int i | .inr x => PyData.str x) as ∧ as = []
  | _, _, .nil => ⟨_, .nil, rfl⟩
  | e :: es, kv :: vs, .cons h1 h2 h3 => by
    obtain ⟨as, r, rfl⟩ := keys_read h3
    rcases keyIs_shape h1 with ⟨i, t, e1, e2⟩ | ⟨x, t, e1, e2⟩
    · refine ⟨[] ++ [], ?_, rfl⟩
      simp only [List.map_cons, e1, e2]
      exact .cons (.int _ _) r
    · refine ⟨[] ++ [], ?_, rfl⟩
      simp only [List.map_cons, e1, e2]
      exact .cons (.str _ _) r
theorem pairs_vals {P : Program} {w : World} : ∀ {es : List DictEntry} {vs : List (Key × Value)}, PySem.Pairs (mixKind P w) es vs → es.map (·.val) = vs.map (·.2)
  | _, _, .nil => rfl
  | e :: es, kv :: vs, .cons _ h2 h3 => by simp [h2, pairs_vals h3]
theorem kv_split : ∀ {kv : List (Key × V)} {vs : List (Key × Value)}, KV kv vs → kv.map (·.1) = vs.map (·.1) ∧ Vals (kv.map (·.2)) (vs.map (·.2))
  | _, _, .nil => ⟨rfl, .nil⟩
  | _, _, .cons ⟨h1, h2⟩ t => by
    obtain ⟨a, b⟩ := kv_split t
    exact ⟨by simp [h1, a], .cons h2 b⟩
theorem kW_data (n : Nat) (st : Sto) : ∀ (ks : List Key), (ks.map kW).mapM (toD (n + 1) st) = some (ks.map fun p => match p with | .inl i => PyData.int i | .inr x => PyData.str x)
  | [] => by simp
  | k :: ks => by
    rw [List.map_cons, List.mapM_cons, kW_data n st ks]
    cases k <;> simp [kW, toD]
theorem zip_fst {α β : Type} : ∀ {a : List α} {b : List β}, a.length = b.length → (a.zip b).map (·.1) = a
  | [], [], _ => rfl
  | a :: r, b :: t, h => by simp [zip_fst (a := r) (b := t) (by simpa using h)]
theorem zip_snd {α β : Type} : ∀ {a : List α} {b : List β}, a.length = b.length → (a.zip b).map (·.2) = b
  | [], [], _ => rfl
  | a :: r, b :: t, h => by simp [zip_snd (a := r) (b := t) (by simpa using h)]
theorem mapM_len {α β : Type} {f : α → Option β} : ∀ {l : List α} {r : List β}, l.mapM f = some r → l.length = r.length
  | [], r, h => by simp at h; subst h; rfl
  | a :: l, r, h => by
    rw [List.mapM_cons] at h
    simp only [Option.pure_def, Option.bind_eq_bind, Option.bind_eq_some_iff, Option.some.injEq] at h
    obtain ⟨d, _, es, h2, rfl⟩ := h
    simp [mapM_len h2]
mutual
theorem toD_reads (I : Inv X pins σ H s) (hK : G.K = X.K) (hs : SysM X.base) (sr : SR G H μ st) : ∀ (n : Nat) {w : W} {d : PyData} {v : V} {u : Value}, toD n st w = some d → Rep G H μ w v → RelV v u → ∃ as, Reads s.heap u d as ∧ sysModules ∉ as
  | 0, _, _, _, _, h, _, _ => by simp [toD] at h
  | n + 1, .non, _, _, _, h, r, q => by simp [toD] at h; subst h; rw [r.non_inv] at q; cases q; exact ⟨_, .none, by simp⟩
  | n + 1, .bl _, _, _, _, h, r, q => by simp [toD] at h; subst h; rw [r.bl_inv] at q; cases q; exact ⟨_, .bool _, by simp⟩
  | n + 1, .int _, _, _, _, h, r, q => by simp [toD] at h; subst h; rw [r.int_inv] at q; obtain ⟨t, rfl⟩ := q; exact ⟨_, .int _ _, by simp⟩
  | n + 1, .str _, _, _, _, h, r, q => by simp [toD] at h; subst h; rw [r.str_inv] at q; obtain ⟨t, rfl⟩ := q; exact ⟨_, .str _ _, by simp⟩
  | n + 1, .tup ws, d, v, u, h, r, q => by
    simp only [toD, Option.map_eq_some_iff] at h
    obtain ⟨ds, h, rfl⟩ := h
    obtain ⟨a, vs, rfl, hq, rs⟩ := r.tup_inv
    rw [hK] at hq
    obtain ⟨its, rv, ⟨o, ho, hc, m, hd⟩, _⟩ := I.tuple hq
    cases q
    obtain ⟨as, ra, na⟩ := toDs_reads I hK hs sr n h rs rv
    exact ⟨as, Reads.tuple ho hc hd (by simpa using ra), na⟩
  | n + 1, .frl ws, d, v, u, h, r, q => by
    simp only [toD, Option.map_eq_some_iff] at h
    obtain ⟨ds, h, rfl⟩ := h
    obtain ⟨a, vs, rfl, hq, rs⟩ := r.frl_inv
    have na : a ≠ sysModules := by
      simp only [Rep] at r
      obtain ⟨a', vs', e, hq', _⟩ := r
      cases e
      rcases hq' with ⟨o, q⟩ | q
      · exact not_sys_trk I hs q
      · exact not_sys_kl I hs (hK ▸ q)
    rw [hK] at hq
    obtain ⟨its, rv, ⟨o, m, ho, hc, _, hd⟩, _⟩ := I.list hq
    cases q
    obtain ⟨as, ra, nas⟩ := toDs_reads I hK hs sr n h rs rv
    exact ⟨a :: as, Reads.list ho hc hd (by simpa using ra), by simp [nas]; exact fun e => na e.symm⟩
  | n + 1, .loc l, d, v, u, h, r, q => by
    simp only [toD] at h
    split at h
    · rename_i xs e
      simp only [Option.map_eq_some_iff] at h
      obtain ⟨ds, h, rfl⟩ := h
      obtain ⟨a, vs, rfl, _, hq, rs⟩ := Rep.lst sr r e
      obtain ⟨its, rv, ⟨o, m, ho, hc, _, hd⟩, _⟩ := I.list (SqL.of hq)
      cases q
      obtain ⟨as, ra, nas⟩ := toDs_reads I hK hs sr n h rs rv
      exact ⟨a :: as, Reads.list ho hc hd (by simpa using ra), by simp [nas]; exact fun e => not_sys_trk I hs hq e.symm⟩
    · rename_i kvs e
      split at h
      · rename_i ks vs e1 e2
        cases h
        obtain ⟨a, rfl, hm⟩ := r.loc_inv
        obtain ⟨kv, hq, ek, rs⟩ := sr.ob _ a _ hm e
        obtain ⟨_, _, vv, hv, o, es, ep, ho, hx, hd, _, hp, _⟩ := I.hok a _ hq
        obtain ⟨s1, s2⟩ := kv_split hv
        obtain ⟨as, ra, nas⟩ := toDs_reads I hK hs sr n e2 rs s2
        obtain ⟨bs, rb, rfl⟩ := keys_read (h := s.heap) hp
        cases q
        have hk : ks = (vv.map fun p => match p.1 with | .inl i => PyData.int i | .inr x => PyData.str x) := by
          have e3 : kvs.map (·.1) = (vv.map (·.1)).map kW := by rw [ek, ← s1, List.map_map]; rfl
          cases n with
          | zero =>
            cases kvs with
            | nil =>
              simp at e1; subst e1
              simp at e3
              subst e3
              rfl
            | cons _ _ => simp [toD, List.mapM_cons] at e1
          | succ n =>
            rw [e3, kW_data n st] at e1
            cases e1
            rw [List.map_map]; rfl
        have hl : ks.length = vs.length := by
          rw [← mapM_len e1, ← mapM_len e2]; simp
        refine ⟨a :: [] ++ as, Reads.dict ho hx.1 hd (as := []) (bs := as) ?_ ?_, ?_⟩
        · rw [zip_fst hl, hk]; exact rb
        · rw [zip_snd hl, pairs_vals hp]; exact ra
        · simp [nas]; exact fun e => not_sys_trk I hs hq e.symm
      · cases h
    · cases h
  | n + 1, .glb _, _, _, _, h, _, _ => by simp [toD] at h
theorem toDs_reads (I : Inv X pins σ H s) (hK : G.K = X.K) (hs : SysM X.base) (sr : SR G H μ st) : ∀ (n : Nat) {ws : List W} {ds : List PyData} {vs : List V} {us : List Value}, ws.mapM (toD n st) = some ds → Reps G H μ ws vs → Vals vs us → ∃ as, ReadsAll s.heap us ds as ∧ sysModules ∉ as
  | n, [], ds, vs, us, h, r, q => by
    simp at h; subst h
    rw [r.nil_inv] at q; cases q
    exact ⟨_, .nil, by simp⟩
  | n, w :: ws, ds, vs, us, h, r, q => by
    rw [List.mapM_cons] at h
    simp only [Option.pure_def, Option.bind_eq_bind, Option.bind_eq_some_iff, Option.some.injEq] at h
    obtain ⟨d, h1, es, h2, rfl⟩ := h
    simp only [Reps] at r
    obtain ⟨v, vr, rfl, r1, r2⟩ := r
    cases q with
    | cons q1 q2 =>
      obtain ⟨as, ra, na⟩ := toD_reads I hK hs sr n h1 r1 q1
      obtain ⟨bs, rb, nb⟩ := toDs_reads I hK hs sr n h2 r2 q2
      exact ⟨as ++ bs, .cons ra rb, by simp [na, nb]⟩
end
end

/-! ### repr -/
def rRepr (G : Gs) : List V → Hp → VK → Prop := fun xs H Q => ∃ (μ : List Addr) (st : Sto) (w : W) (x : V) (d : PyData), xs = [x] ∧ SR G H μ st ∧ Rep G H μ w x ∧ dat st w = some d ∧ d.showable = true ∧ d.shown.length ≤ SZ ∧ d.depth ≤ 60 ∧ Q (.str d.shown) H
theorem call_reprD {X : Cx} (hK : G.K = X.K) (hs : SysM X.base) (hg : X.A.guards = some []) (hu : X.A.units + 64 < cLine) : CallR X (.builtin "repr") (rRepr G) := by
  intro pins s σ H xs us Q I r h
  obtain ⟨μ, st, w, x, d, rfl, sr, rw_, hd, h1, h2, h3, q⟩ := h
  obtain ⟨u, rfl, ru⟩ := vals1 r
  obtain ⟨as, ra, na⟩ := toD_reads I hK hs sr DEEP hd rw_ ru
  have fin : ∀ (t : Tok) (s' : Shared), Inv X pins σ H s' → EP X pins σ Q (.str d.shown t) s' := fun t s' I' => ⟨.str d.shown, H, I', ⟨t, rfl⟩, q⟩
  cases ra with
  | none => exact PySem.P.repr_of_none (by simpa [PyData.shown] using fin _ _ (I.tok _))
  | bool b => exact PySem.P.repr_of_bool (by simpa [PyData.shown] using fin _ _ (I.tok _))
  | int i t => exact PySem.P.repr_of_int (by simpa [PyData.showable] using h1) (by simpa [PyData.shown] using fin _ _ (I.tok _))
  | str y t => exact PySem.P.repr_of_str (by simpa [PyData.shown] using fin _ _ (I.tok _)) (by simpa [PyData.shown] using SZ_le h2)
  | list e1 e2 e3 e4 => exact repr_of_reads' (.list e1 e2 e3 e4) h1 (fun _ => na) hg (by omega) (fun _ _ e => e) (fun h' t tk hk => fin _ _ (I.kept (t' := tk) hk)) (SZ_le h2)
  | tuple e1 e2 e3 e4 => exact repr_of_reads' (.tuple e1 e2 e3 e4) h1 (fun _ => na) hg (by omega) (fun _ _ e => e) (fun h' t tk hk => fin _ _ (I.kept (t' := tk) hk)) (SZ_le h2)
  | dict e1 e2 e3 e4 e5 => exact repr_of_reads' (.dict e1 e2 e3 e4 e5) h1 (fun _ => na) hg (by omega) (fun _ _ e => e) (fun h' t tk hk => fin _ _ (I.kept (t' := tk) hk)) (SZ_le h2)

/-! ### built-in functions -/
def CallIs (G : Gs) (r : List V → Hp → VK → Prop) (f : List W → M W) : Prop := ∀ (H : Hp) (μ : List Addr) (st : Sto) (vs : List V) (ws : List W) (X : Value → Option Addr → Hp → Prop) (Q : VK), SR G H μ st → Reps G H μ ws vs →
  Post G X H μ (f ws st) Q → r vs H Q
theorem Reps.one {w : W} {vs : List V} (r : Reps G H μ [w] vs) : ∃ v, vs = [v] ∧ Rep G H μ w v := by
  simp only [Reps] at r
  obtain ⟨v, vr, rfl, h, rfl⟩ := r
  exact ⟨v, rfl, h⟩
theorem Reps.two {w u : W} {vs : List V} (r : Reps G H μ [w, u] vs) : ∃ v y, vs = [v, y] ∧ Rep G H μ w v ∧ Rep G H μ u y := by
  simp only [Reps] at r
  obtain ⟨v, vr, rfl, h, y, yr, rfl, h2, rfl⟩ := r
  exact ⟨v, y, rfl, h, h2⟩
abbrev rLen (K : PySem.W.Frag) : List V → Hp → VK → Prop := fun xs H Q => (∃ x n, xs = [x] ∧ LenV K x H n ∧ Q (.int n) H) ∨ ∃ a kvs, xs = [V.ref a] ∧ H a = some (.dK kvs) ∧ Q (.int kvs.length) H
theorem is_len : CallIs G (rLen G.K) (blt .len) := by
  intro H μ st vs ws X Q sr r q
  match ws, q with
  | [w], q =>
    obtain ⟨v, rfl, r1⟩ := r.one
    simp only [blt] at q
    split at q
    · rename_i n e
      have fin : ∀ m : Nat, m = n → Q (.int m) H := fun m e => by subst e; exact q _ H μ .refl sr Rep.int_
      cases w <;> simp only [lenW, reduceCtorEq, Option.some.injEq] at e
      · split at e
        · rename_i h; cases e
          exact .inl ⟨v, _, rfl, by rw [r1.str_inv]; exact ⟨SZ_le h, rfl⟩, fin _ rfl⟩
        · cases e
      · obtain ⟨a, vs, rfl, hq, rs⟩ := r1.tup_inv
        exact .inl ⟨_, _, rfl, .inr ⟨vs, hq, rfl⟩, fin _ (by rw [← rs.length]; exact e)⟩
      · obtain ⟨a, vs, rfl, hq, rs⟩ := r1.frl_inv
        exact .inl ⟨_, _, rfl, .inl ⟨vs, hq, rfl⟩, fin _ (by rw [← rs.length]; exact e)⟩
      · split at e
        · rename_i xs h
          cases e
          obtain ⟨a, vs, rfl, _, hq, rs⟩ := Rep.lst sr r1 h
          exact .inl ⟨_, _, rfl, .inl ⟨vs, SqL.of hq, rfl⟩, fin _ (by rw [← rs.length])⟩
        · rename_i kvs h
          cases e
          obtain ⟨a, rfl, hm⟩ := r1.loc_inv
          obtain ⟨kv, e1, e2, _⟩ := sr.ob _ a _ hm h
          refine .inr ⟨a, kv, rfl, e1, fin _ ?_⟩
          have := congrArg List.length e2
          simpa using this.symm
        · cases e
    · exact q.elim
  | [], q => exact q.elim
  | _ :: _ :: _, q => exact q.elim
theorem is_abs : CallIs G (fun xs H Q => ∃ i, xs = [.int i] ∧ Q (.int (if i < 0 then -i else i)) H) (blt .abs) := by
  intro H μ st vs ws X Q sr r q
  match ws, q with
  | [.int i], q =>
    obtain ⟨v, rfl, r1⟩ := r.one
    exact ⟨i, by rw [r1.int_inv], q _ H μ .refl sr Rep.int_⟩
theorem is_max : CallIs G (fun xs H Q => ∃ i j, xs = [.int i, .int j] ∧ Q (.int (if j > i then j else i)) H) (blt .max) := by
  intro H μ st vs ws X Q sr r q
  match ws, q with
  | [.int i, .int j], q =>
    obtain ⟨v, y, rfl, r1, r2⟩ := r.two
    exact ⟨i, j, by rw [r1.int_inv, r2.int_inv], q _ H μ .refl sr Rep.int_⟩
theorem is_min : CallIs G (fun xs H Q => ∃ i j, xs = [.int i, .int j] ∧ Q (.int (if j < i then j else i)) H) (blt .min) := by
  intro H μ st vs ws X Q sr r q
  match ws, q with
  | [.int i, .int j], q =>
    obtain ⟨v, y, rfl, r1, r2⟩ := r.two
    exact ⟨i, j, by rw [r1.int_inv, r2.int_inv], q _ H μ .refl sr Rep.int_⟩
theorem is_divmod : CallIs G (fun xs H Q => ∃ i j, xs = [.int i, .int j] ∧ CDivP i j ∧ ∀ p, H p = none → Q (.ref p) (upd H p (.tup [.int (i / j), .int (i % j)]))) (blt .divmod) := by
  intro H μ st vs ws X Q sr r q
  match ws, q with
  | [.int i, .int j], q =>
    obtain ⟨v, y, rfl, r1, r2⟩ := r.two
    simp only [blt] at q
    split at q
    · rename_i h
      refine ⟨i, j, by rw [r1.int_inv, r2.int_inv], ⟨h.1, PyProof.noPylong_of_log2 h.2⟩, fun p hp => ?_⟩
      obtain ⟨g, s1, r1⟩ := Rep.tup_new (ws := [.int (i / j), .int (i % j)]) sr hp (Reps.nil_.cons_ Rep.int_ |>.cons_ Rep.int_)
      exact q _ _ μ g s1 r1
    · exact q.elim
theorem Reps.bools : ∀ {ws : List W} {vs : List V}, Reps G H μ ws vs → ws.all (fun w => match w with | .bl _ => true | _ => false) = true → vs = (ws.map fun w => decide (w = .bl true)).map V.bl
  | [], _, r, _ => by rw [r.nil_inv]; rfl
  | w :: ws, _, r, h => by
    simp only [Reps] at r
    obtain ⟨v, vr, rfl, r1, r2⟩ := r
    simp only [List.all_cons, Bool.and_eq_true] at h
    rw [List.map_cons, List.map_cons, ← Reps.bools r2 h.2]
    cases w <;> simp at h
    rw [r1.bl_inv]; simp
theorem is_all : CallIs G (rAll G.K) (blt .all) := by
  intro H μ st vs ws X Q sr r q
  match ws, q with
  | [w], q =>
    obtain ⟨v, rfl, r1⟩ := r.one
    simp only [blt] at q
    split at q
    · rename_i xs e
      split at q
      · rename_i hb
        obtain ⟨a, vs, rfl, hq, rs⟩ := isLst_of sr r1 e
        have e1 := rs.bools hb
        subst e1
        refine ⟨a, _, rfl, hq, q _ H μ .refl sr ?_⟩
        simp only [List.all_map, Function.comp_def, id]; exact Rep.bl_
      · exact q.elim
    · exact q.elim
  | [], q => exact q.elim
  | _ :: _ :: _, q => exact q.elim
theorem is_any : CallIs G (rAny G.K) (blt .any) := by
  intro H μ st vs ws X Q sr r q
  match ws, q with
  | [w], q =>
    obtain ⟨v, rfl, r1⟩ := r.one
    simp only [blt] at q
    split at q
    · rename_i xs e
      split at q
      · rename_i hb
        obtain ⟨a, vs, rfl, hq, rs⟩ := isLst_of sr r1 e
        have e1 := rs.bools hb
        subst e1
        refine ⟨a, _, rfl, hq, q _ H μ .refl sr ?_⟩
        simp only [List.any_map, Function.comp_def, id]; exact Rep.bl_
      · exact q.elim
    · exact q.elim
  | [], q => exact q.elim
  | _ :: _ :: _, q => exact q.elim
theorem is_repr : CallIs G (rRepr G) (blt .repr) := by
  intro H μ st vs ws X Q sr r q
  match ws, q with
  | [w], q =>
    obtain ⟨v, rfl, r1⟩ := r.one
    simp only [blt] at q
    split at q
    · rename_i d e
      split at q
      · rename_i hb
        simp only [Bool.and_eq_true, decide_eq_true_eq] at hb
        exact ⟨μ, st, w, v, d, rfl, sr, r1, e, hb.1.1, hb.1.2, hb.2, q _ H μ .refl sr Rep.str_⟩
      · exact q.elim
    · exact q.elim
  | [], q => exact q.elim
  | _ :: _ :: _, q => exact q.elim
theorem is_tuple : CallIs G (fun xs H Q => ∃ p ys, xs = [.ref p] ∧ ((SqL G.K H p ys ∧ ∀ l, H l = none → Q (.ref l) (upd H l (.tup ys))) ∨ (SqT G.K H p ys ∧ Q (.ref p) H))) (blt .tuple) := by
  intro H μ st vs ws X Q sr r q
  match ws, q with
  | [w], q =>
    obtain ⟨v, rfl, r1⟩ := r.one
    by_cases ht : ∃ xs, w = .tup xs
    · obtain ⟨xs, rfl⟩ := ht
      obtain ⟨a, vs, rfl, hq, rs⟩ := r1.tup_inv
      exact ⟨a, vs, rfl, .inr ⟨hq, q _ H μ .refl sr r1⟩⟩
    · have q : Post G X H μ (match isLst st w with | some ws => .ok (.tup ws) st | none => .stuck) Q := by cases w <;> first | exact q | exact absurd ⟨_, rfl⟩ ht
      split at q
      · rename_i xs e
        obtain ⟨a, vs, rfl, hq, rs⟩ := isLst_of sr r1 e
        refine ⟨a, vs, rfl, .inl ⟨hq, fun p hp => ?_⟩⟩
        obtain ⟨g, s1, r1⟩ := Rep.tup_new sr hp rs
        exact q _ _ μ g s1 r1
      · exact q.elim
  | [], q => exact q.elim
  | w :: _ :: _, q => cases w <;> exact False.elim q
theorem is_list : CallIs G (fun xs H Q => ∃ p ys, xs = [.ref p] ∧ (SqL G.K H p ys ∨ SqT G.K H p ys) ∧ ∀ l, H l = none → Q (.ref l) (upd H l (.lst ys))) (blt .list) := by
  intro H μ st vs ws X Q sr r q
  match ws, q with
  | [w], q =>
    obtain ⟨v, rfl, r1⟩ := r.one
    simp only [blt] at q
    split at q
    · rename_i xs e
      obtain ⟨a, vs, rfl, hq, rs⟩ := isSeq_of sr r1 e
      refine ⟨a, vs, rfl, hq, fun p hp => ?_⟩
      obtain ⟨g, s1, r1⟩ := sr.lay hp rs
      exact q _ _ _ g s1 r1
    · exact q.elim
  | [], q => exact q.elim
  | _ :: _ :: _, q => exact q.elim
theorem is_str : CallIs G (fun xs H Q => ∃ i, xs = [.int i] ∧ i.natAbs.log2 < 1920 ∧ Q (.str (toString i)) H) (blt .str) := by
  intro H μ st vs ws X Q sr r q
  match ws, q with
  | [.int i], q =>
    obtain ⟨v, rfl, r1⟩ := r.one
    simp only [blt] at q
    split at q
    · rename_i h
      exact ⟨i, by rw [r1.int_inv], h, q _ H μ .refl sr Rep.str_⟩
    · exact q.elim
theorem is_int : CallIs G (fun xs H Q => ∃ a n, xs = [.str a] ∧ PySem.intText? a = some n ∧ a.length ≤ 640 ∧ Q (.int n) H) (blt .int) := by
  intro H μ st vs ws X Q sr r q
  match ws, q with
  | [.str i], q =>
    obtain ⟨v, rfl, r1⟩ := r.one
    by_cases h : i.length ≤ 640
    · simp only [blt, if_pos h] at q
      cases e : PySem.intText? i with
      | none => rw [e] at q; exact q.elim
      | some n => rw [e] at q; exact ⟨i, n, by rw [r1.str_inv], e, h, q _ H μ .refl sr Rep.int_⟩
    · simp only [blt, if_neg h] at q
      exact q.elim
end Mi

/-! Mi7: from the program's text to the small machine's. -/
namespace Mi
open PySem L2

/-- how a def may be called: so many by place, these by name; the defaults' values; which of all of them each parameter takes -/
structure Shape where
  np : Nat
  ks : List Str
  ds : List W
  ord : List Nat
/-- what a global name stands for -/
inductive GE where
  | cst (w : W)
  | fn (i : Nat) (shapes : List Shape)
  | blt
/-- where a text stands: the def's names by slot, the block's scope, the module's names -/
structure CC where
  N : List Str
  sc : Scope
  gt : List (Str × GE)

def okName (x : Str) : Bool := !(x == ("__debug__" : Str)) && !(x == ("__classdict__" : Str)) && !(x == ("__name__" : Str))
def isVis : Option NameKind → Bool
  | some .local => true
  | some .cell => true
  | some .free => true
  | _ => false
def isLoc : Option NameKind → Bool
  | some .local => true
  | some .cell => true
  | _ => false
def isGlb : Option NameKind → Bool
  | some .globalImplicit => true
  | _ => false
def CC.vis (C : CC) (x : Str) : Option Nat := if okName x && isVis (C.sc.names.lookup x) then C.N.findIdx? (· == x) else none
def CC.loc (C : CC) (x : Str) : Option Nat := if okName x && isLoc (C.sc.names.lookup x) then C.N.findIdx? (· == x) else none
def CC.glb (C : CC) (x : Str) : Option GE := if okName x && isGlb (C.sc.names.lookup x) then C.gt.lookup x else none
def CC.isBlt (C : CC) (x : Str) : Bool := match C.glb x with
  | some .blt => true
  | _ => false

def bopOf : Operator → Option Bop
  | .Add => some .add
  | .Sub => some .sub
  | .Mult => some .mul
  | .Mod => some .mod
  | .FloorDiv => some .fdiv
  | .Pow => some .pow
  | _ => none
def copOf : CmpOp → Option Cop
  | .Lt => some .lt
  | .LtE => some .le
  | .Gt => some .gt
  | .GtE => some .ge
  | .Eq => some .eq
  | .NotEq => some .ne
  | .In => some .isin
  | .NotIn => some .notin
  | .Is => some .is
  | .IsNot => some .isnot
def constOf : Const → Option W
  | .none => some .non
  | .bool b => some (.bl b)
  | .int i => some (.int i)
  | .str x => some (.str x)
  | _ => none
def bltOf (x : Str) : Option Blt :=
  if x = "len" then some .len else if x = "abs" then some .abs else if x = "max" then some .max else if x = "min" then some .min else
  if x = "divmod" then some .divmod else if x = "all" then some .all else if x = "any" then some .any else if x = "repr" then some .repr else none
def bltTy (x : Str) : Option Blt :=
  if x = "tuple" then some .tuple else if x = "list" then some .list else if x = "str" then some .str else if x = "int" then some .int else none
def tyOf (x : Str) : Option Ty :=
  if x = "int" then some .int else if x = "bool" then some .bool else if x = "str" then some .str else if x = "tuple" then some .tuple else
  if x = "list" then some .list else if x = "dict" then some .dict else none
def metOf (x : Str) (n : Nat) : Option Met :=
  if x = "join" ∧ n = 1 then some .join else if x = "append" ∧ n = 1 then some .append else if x = "pop" ∧ n = 0 then some .pop else none
/-- no call without arguments: attribute's base is plain -/
def plainBase : Expr → Bool
  | .Call _ _ _ _ => false
  | _ => true
def tnOf (C : CC) : Expr → Option Tn
  | .Name x _ => (C.loc x).map .nm
  | .Tuple es _ _ => (es.mapM fun (e : Expr) => match e with | .Name x _ => C.loc x | _ => none).map .tp
  | _ => none
def srcOf : E → Ik × List E
  | .it k es => (k, es)
  | e => (.val, [e])
def ownOf (N : List Str) (scope : Scope) : List (Str × Nat) := scope.names.filterMap fun p => if isLoc (some p.2) then (N.findIdx? (· == p.1)).map fun i => (p.1, i) else none
def tnIn (t : Tn) (l : List Nat) : Bool := match t with
  | .nm i => l.contains i
  | .tp is => is.all l.contains
def isIt : E → Bool
  | .it _ _ => true
  | _ => false

def comp : Nat → CC → Expr → Option E
  | 0, _, _ => none
  | n + 1, C, e => match e with
    | .Constant c _ _ => (constOf c).map .cst
    | .Name x _ => match C.vis x with
      | some i => some (.var i)
      | none => match C.glb x with
        | some (.cst w) => some (.cst w)
        | some (.fn i _) => some (.cst (.glb i))
        | _ => none
    | .Tuple es _ _ => (es.mapM (comp n C)).map .tup
    | .List es _ => (es.mapM (comp n C)).map .lst
    | .Dict keys values _ => (keys.mapM id).bind fun ks => if ks.length = values.length ∧ ks.length ≤ 15 then
        (ks.mapM (comp n C)).bind fun Ks => (values.mapM (comp n C)).map fun Vs => .dct ((Ks.zip Vs).flatMap fun p => [p.1, p.2]) else none
    | .BinOp a op b _ => (bopOf op).bind fun o => (comp n C a).bind fun x => (comp n C b).map fun y => .bin o x y
    | .UnaryOp .Not a _ => (comp n C a).map .not
    | .UnaryOp .USub a _ => (comp n C a).map .neg
    | .Compare a [op] [b] _ => (copOf op).bind fun o => (comp n C a).bind fun x => (comp n C b).map fun y => .cmp o x y
    | .Compare a [op, op'] [b, c] _ => (copOf op).bind fun o => (copOf op').bind fun o' => (comp n C a).bind fun x => (comp n C b).bind fun y => (comp n C c).map fun z => .cmp2 o o' x y z
    | .BoolOp .And es _ => (es.mapM (comp n C)).map .and
    | .BoolOp .Or es _ => (es.mapM (comp n C)).map .or
    | .IfExp c a b _ => (comp n C c).bind fun x => (comp n C a).bind fun y => (comp n C b).map fun z => .ite x y z
    | .Subscript a (.Slice lo hi none _) _ => (comp n C a).bind fun x => (match lo with | none => some [] | some l => (comp n C l).map fun y => [y]).bind fun l =>
        (match hi with | none => some [] | some h => (comp n C h).map fun y => [y]).map fun h => .slc x l h
    | .Subscript a b _ => (comp n C a).bind fun x => (comp n C b).map fun y => .idx x y
    | .Call (.Name x _) as ks _ => match C.glb x with
      | some (.fn i shapes) => (shapes.find? fun sh => sh.np == as.length && sh.ks == ks.filterMap (·.arg) && ks.all (fun k => k.arg.isSome)).bind fun sh =>
          (as.mapM (comp n C)).bind fun us => (ks.mapM fun k => comp n C k.value).map fun ws => .call i (us ++ ws) sh.ds sh.ord
      | some .blt => match ks with
        | [] => if x = "isinstance" then (match as with
            | [a, .Name t _] => (tyOf t).bind fun ty => if C.isBlt t then (comp n C a).map fun y => .isi y [ty] else none
            | _ => none)
          else if x = "range" then (match as with
            | [a] => (comp n C a).map fun y => .it .rng1 [y]
            | [a, b] => (comp n C a).bind fun y => (comp n C b).map fun z => .it .rng2 [y, z]
            | _ => none)
          else match as with
            | [] => none
            | _ :: _ => (match bltOf x with
              | some b => some b
              | none => bltTy x).bind fun b => (as.mapM (comp n C)).map fun us => .blt b us
        | _ => none
      | _ => none
    | .Call (.Attribute o m apos) as [] pos => if plainBase o && apos.endLine == pos.line then
        (metOf m as.length).bind fun mm => (comp n C o).bind fun x => (as.mapM (comp n C)).map fun us => .met mm x us else none
    | .ListComp elt gs scope _ => match gs with
      | [g] =>
        let own := ownOf C.N scope
        let D : CC := { C with sc := relS scope C.sc }
        if g.is_async == 0 && (blkC C.N C.sc scope own && decide (g.ifs.length ≤ 1)) then
          (comp n C g.iter).bind fun src => ((tnOf D g.target).filter fun t => tnIn t (own.map (·.2))).bind fun t => (comp n D elt).bind fun x => (g.ifs.mapM (comp n D)).map fun cs => .lc x t (own.map (·.2)) (srcOf src).1 (srcOf src).2 cs
        else none
      | _ => none
    | _ => none
end Mi

/-! Mi8: what stands around a text; a def's promise; the steps by which an expression is sound. -/
namespace Mi
open PySem L2

/-- what a def promises, where no repr is under way -/
structure FnG (P : Program) (w : World) (K : PySem.W.Frag) (mg : Str → Option Value) (base : Heap) (k : Nat) (f : Addr) (fd : FuncData) (ps : List Str) (sp : Sp) : Prop where
  len : ∀ vs H Q E, sp vs H Q E → vs.length = ps.length
  run : ∀ (A : Around) (outer : List PySem.Env) (s : Shared) (H : Hp) (args : Args) (us : List Value) (vs : List V) (Q : VK) (E : XK), A.guards = some [] → Room k A → Env0 P w K mg base A outer s H → BindsTo s fd args (ps.zip us) → Vals vs us → sp vs H Q E →
    codeAny (model P w) A (.call (.ref f) args) (CR (L2.CX P w) outer P w H s Q E) s
/-- the promise that the small machine's def is kept -/
def spF (G : Gs) (m : List W → M W) (ar : Nat) : Sp := fun vs H Q E => vs.length = ar ∧ ∃ μ st ws, SR G H μ st ∧ Reps G H μ ws vs ∧ Post G E H μ (m ws st) Q
/-- a way to call a def -/
def ShapeOk (G : Gs) (fd : FuncData) (ps : List Str) (sh : Shape) : Prop :=
  ∃ (dus : List Value) (dvs : List V), Vals dvs dus ∧ (∀ H μ, Reps G H μ sh.ds dvs) ∧ sh.ord.length = ps.length ∧
    ∀ (s : Shared) (us ws zs : List Value), G.K.In s.heap → us.length = sh.np → ws.length = sh.ks.length → sh.ord.mapM (fun i => (us ++ ws ++ dus)[i]?) = some zs → BindsTo s fd ⟨us, sh.ks.zip ws⟩ (ps.zip zs)
def GtOk (G : Gs) (φ : Nat → List W → M W) (k : Nat) (X : Cx) (x : Str) : GE → Prop
  | .cst w => ∃ u v, X.mg x = some u ∧ RelV v u ∧ ∀ H μ, Rep G H μ w v
  | .blt => X.mg x = none
  | .fn i shapes => ∃ f fd ps, X.mg x = some (.ref f) ∧ G.gl i = some (.ref f) ∧ PySem.W.keepIn X.K (.ref f) = true ∧ FnG X.prog X.w X.K X.mg X.base k f fd ps (spF G (φ i) ps.length) ∧ ∀ sh ∈ shapes, ShapeOk G fd ps sh
structure Ctx (G : Gs) (φ : Nat → List W → M W) (k : Nat) (C : CC) (X : Cx) (Wh : WX) : Prop where
  K : G.K = X.K
  N : X.N = C.N
  sc : X.env.scope = C.sc
  nd : X.N.Nodup
  calm : X.calm = true
  guards : X.A.guards = some []
  room : Room k X.A
  sysm : SysM X.base
  gt : ∀ x e, C.gt.lookup x = some e → GtOk G φ k X x e
  tk : Takes X Wh

variable {G : Gs} {φ : Nat → List W → M W} {k : Nat} {C : CC} {X : Cx} {Wh : WX}

/-! ### names -/
theorem findIdx_get {x : Str} {N : List Str} {i : Nat} (h : N.findIdx? (· == x) = some i) : N[i]? = some x := by
  rw [List.findIdx?_eq_some_iff_getElem] at h
  obtain ⟨hi, e, _⟩ := h
  rw [List.getElem?_eq_getElem hi]
  simpa using e
theorem okName_of {x : Str} (h : okName x = true) : (x == ("__debug__" : Str)) = false ∧ (x == ("__classdict__" : Str)) = false ∧ x ≠ "__name__" := by
  unfold okName at h
  simp only [Bool.and_eq_true, Bool.not_eq_true'] at h
  exact ⟨h.1.1, h.1.2, fun e => by have := h.2; rw [e] at this; simp at this⟩
theorem vis_of (c : Ctx G φ k C X Wh) {x : Str} {i : Nat} (h : C.vis x = some i) : X.N[i]? = some x ∧ Vis X.env.scope x ∧ okName x = true := by
  unfold CC.vis at h
  split at h
  · rename_i hv
    rw [Bool.and_eq_true] at hv
    refine ⟨by rw [c.N]; exact findIdx_get h, ?_, hv.1⟩
    have h2 := hv.2
    rw [← c.sc] at h2
    unfold isVis at h2
    unfold Vis
    split at h2
    · rename_i e; exact .inl e
    · rename_i e; exact .inr (.inl e)
    · rename_i e; exact .inr (.inr e)
    · cases h2
  · cases h
theorem loc_of (c : Ctx G φ k C X Wh) {x : Str} {i : Nat} (h : C.loc x = some i) : X.N[i]? = some x ∧ L2.Loc X.env.scope x ∧ okName x = true := by
  unfold CC.loc at h
  split at h
  · rename_i hv
    rw [Bool.and_eq_true] at hv
    refine ⟨by rw [c.N]; exact findIdx_get h, ?_, hv.1⟩
    have h2 := hv.2
    rw [← c.sc] at h2
    unfold isLoc at h2
    unfold L2.Loc
    split at h2
    · rename_i e; exact .inl e
    · rename_i e; exact .inr e
    · cases h2
  · cases h
theorem glb_of (c : Ctx G φ k C X Wh) {x : Str} {g : GE} (h : C.glb x = some g) : Gl X x ∧ okName x = true ∧ GtOk G φ k X x g := by
  unfold CC.glb at h
  split at h
  · rename_i hv
    rw [Bool.and_eq_true] at hv
    refine ⟨?_, hv.1, c.gt _ _ h⟩
    have h2 := hv.2
    rw [← c.sc] at h2
    unfold isGlb at h2
    show X.env.scope.names.lookup x = some .globalImplicit
    split at h2
    · rename_i e; exact e
    · cases h2
  · cases h
theorem blt_of (c : Ctx G φ k C X Wh) {x : Str} (h : C.isBlt x = true) : Gl X x ∧ okName x = true ∧ X.mg x = none := by
  unfold CC.isBlt at h
  split at h
  · rename_i e; exact glb_of c e
  · cases h

/-! ### syntax -/
def noStar : Expr → Bool
  | .Starred _ _ => false
  | _ => true
theorem star_cons {e : Expr} (es : List Expr) (env : PySem.Env) (h : noStar e = true) : starEach (e :: es) env = (false, eval e env) :: starEach es env := by
  cases e <;> first | rfl | cases h
theorem star_plain (env : PySem.Env) (pos : Pos) : ∀ {es : List Expr}, (∀ e ∈ es, noStar e = true) → (backTo pos (starEach es env)).any (·.1) = false
  | [], _ => rfl
  | e :: es, h => by
    rw [star_cons es env (h e List.mem_cons_self)]
    show (false || (backTo pos (starEach es env)).any (·.1)) = false
    rw [star_plain env pos fun e' he => h e' (List.mem_cons_of_mem _ he)]; rfl
theorem star_all (env : PySem.Env) (pos : Pos) : ∀ {es : List Expr}, (∀ e ∈ es, noStar e = true) → (backTo pos (starEach es env)).all (fun x => !x.1) = true
  | [], _ => rfl
  | e :: es, h => by
    rw [star_cons es env (h e List.mem_cons_self)]
    show (true && (backTo pos (starEach es env)).all (fun x => !x.1)) = true
    rw [star_all env pos fun e' he => h e' (List.mem_cons_of_mem _ he)]; rfl
theorem star_len (env : PySem.Env) : ∀ {es : List Expr}, (starEach es env).length = es.length
  | [] => rfl
  | e :: es => by
    cases e <;> simp [starEach, star_len env (es := es)]
theorem comp_noStar {n : Nat} {e : Expr} {E : Mi.E} (h : comp n C e = some E) : noStar e = true := by
  cases n with
  | zero => simp [comp] at h
  | succ n => cases e <;> first | rfl | (simp [comp] at h)
theorem comps_noStar {n : Nat} : ∀ {es : List Expr} {Es : List Mi.E}, es.mapM (comp n C) = some Es → ∀ e ∈ es, noStar e = true
  | [], _, _ => by simp
  | e :: es, Es, h => by
    rw [List.mapM_cons] at h
    simp only [Option.pure_def, Option.bind_eq_bind, Option.bind_eq_some_iff, Option.some.injEq] at h
    obtain ⟨d, h1, ds, h2, _⟩ := h
    intro e' he
    rcases List.mem_cons.mp he with rfl | he
    · exact comp_noStar h1
    · exact comps_noStar h2 e' he
theorem comp_noSlice {n : Nat} {e : Expr} {E : Mi.E} (h : comp n C e = some E) : PlainIx e ∧ PlainIxT e ∧ (∀ op, behindInMarks op e = false) := by
  cases n with
  | zero => simp [comp] at h
  | succ n => cases e <;> first | exact ⟨fun _ _ => rfl, fun _ _ => rfl, fun _ => rfl⟩ | (simp [comp] at h)

/-! ### steps -/
theorem tM.mono {m : Env → M W} {σ : L2.St} {H : Hp} {Q Q' : VK} (h : tM G Wh m σ H Q) (hq : ∀ v H', Q v H' → Q' v H') : tM G Wh m σ H Q' := by
  obtain ⟨ρ, μ, st, er, sr, p⟩ := h
  exact ⟨ρ, μ, st, er, sr, p.mono hq fun _ _ _ z => z⟩
theorem tML.mono {m : Env → M (List W)} {σ : L2.St} {H : Hp} {Q Q' : List V → Hp → Prop} (h : tML G Wh m σ H Q) (hq : ∀ v H', Q v H' → Q' v H') : tML G Wh m σ H Q' := by
  obtain ⟨ρ, μ, st, er, sr, p⟩ := h
  exact ⟨ρ, μ, st, er, sr, p.mono hq fun _ _ _ z => z⟩
theorem tMB.mono {m : Env → M Bool} {σ : L2.St} {H : Hp} {Q Q' : Bool → Hp → Prop} (h : tMB G Wh m σ H Q) (hq : ∀ v H', Q v H' → Q' v H') : tMB G Wh m σ H Q' := by
  obtain ⟨ρ, μ, st, er, sr, p⟩ := h
  exact ⟨ρ, μ, st, er, sr, p.mono hq fun _ _ _ z => z⟩
section
variable {H : Hp} {μ : List Addr} {st : Sto} {ρ : Env} {σ : L2.St}
/-- an expression ahead of anything -/
theorem ahead {γ δ : Type} {R : Hp → List Addr → γ → δ → Prop} {m : Env → M W} {f : W → M γ} {Q : δ → Hp → Prop} (er : EnvR G H μ ρ σ) (sr : SR G H μ st) (h : PostR G R (fun c d => Wh c d σ) H μ ((m ρ st).bind f) Q) :
    tM G Wh m σ H fun x H1 => ∃ μ1 st1 w, EnvR G H1 μ1 ρ σ ∧ SR G H1 μ1 st1 ∧ Grow H H1 μ μ1 ∧ Rep G H1 μ1 w x ∧ PostR G R (fun c d => Wh c d σ) H1 μ1 (f w st1) Q :=
  ⟨ρ, μ, st, er, sr, (PostR.bind (R1 := Rep G) h).mono (fun _ _ ⟨μ1, st1, a, g, s1, r1, p⟩ => ⟨μ1, st1, a, er.grow sr g, s1, g, r1, p⟩) fun _ _ _ z => z⟩
theorem aheadL {γ δ : Type} {R : Hp → List Addr → γ → δ → Prop} {m : Env → M (List W)} {f : List W → M γ} {Q : δ → Hp → Prop} (er : EnvR G H μ ρ σ) (sr : SR G H μ st) (h : PostR G R (fun c d => Wh c d σ) H μ ((m ρ st).bind f) Q) :
    tML G Wh m σ H fun x H1 => ∃ μ1 st1 w, EnvR G H1 μ1 ρ σ ∧ SR G H1 μ1 st1 ∧ Grow H H1 μ μ1 ∧ Reps G H1 μ1 w x ∧ PostR G R (fun c d => Wh c d σ) H1 μ1 (f w st1) Q :=
  ⟨ρ, μ, st, er, sr, (PostR.bind (R1 := Reps G) h).mono (fun _ _ ⟨μ1, st1, a, g, s1, r1, p⟩ => ⟨μ1, st1, a, er.grow sr g, s1, g, r1, p⟩) fun _ _ _ z => z⟩
theorem aheadB {γ δ : Type} {R : Hp → List Addr → γ → δ → Prop} {m : Env → M Bool} {f : Bool → M γ} {Q : δ → Hp → Prop} (er : EnvR G H μ ρ σ) (sr : SR G H μ st) (h : PostR G R (fun c d => Wh c d σ) H μ ((m ρ st).bind f) Q) :
    tMB G Wh m σ H fun x H1 => ∃ μ1 st1, EnvR G H1 μ1 ρ σ ∧ SR G H1 μ1 st1 ∧ Grow H H1 μ μ1 ∧ PostR G R (fun c d => Wh c d σ) H1 μ1 (f x st1) Q :=
  ⟨ρ, μ, st, er, sr, (PostR.bind (R1 := RB) h).mono (fun _ _ ⟨μ1, st1, a, g, s1, r1, p⟩ => by cases r1; exact ⟨μ1, st1, er.grow sr g, s1, g, p⟩) fun _ _ _ z => z⟩
end
theorem PostR.okR {α β : Type} {R : Hp → List Addr → α → β → Prop} {Xx : Value → Option Addr → Hp → Prop} {H : Hp} {μ : List Addr} {st : Sto} {a : α} {b : β} {Q : β → Hp → Prop} (h : PostR G R Xx H μ (.ok a st) Q) (sr : SR G H μ st) (r : R H μ a b) : Q b H := h b H μ .refl sr r

/-- two expressions and an operation -/
theorem snd_op {a b : Mi.E} {op : W → W → M W} {r : R2} {σ : L2.St} {H : Hp} {Q : VK} (ho : OpIs G r op) (h : tM G Wh (fun ρ => bnd (den φ a ρ) fun x => bnd (den φ b ρ) fun y => op x y) σ H Q) :
    tOp r (tM G Wh (den φ a)) (tM G Wh (den φ b)) σ H Q := by
  obtain ⟨ρ, μ, st, er, sr, p⟩ := h
  refine (ahead er sr p).mono fun x H1 ⟨μ1, st1, w, er1, sr1, g1, rx, p1⟩ => ?_
  refine (ahead er1 sr1 p1).mono fun y H2 ⟨μ2, st2, u, er2, sr2, g2, ry, p2⟩ => ?_
  exact ho H2 μ2 st2 x y w u _ Q sr2 (rx.grow sr1 g2) ry p2
/-- an argument list -/
theorem snd_args {n : Nat} (ih : ∀ e E, comp n C e = some E → PE X e (tM G Wh (den φ E))) : ∀ {es : List Expr} {Es : List Mi.E}, es.mapM (comp n C) = some Es → PA X es (tML G Wh (dens φ Es))
  | [], Es, h => by
    simp at h; subst h
    refine paImp pa_nil fun σ H Q h => ?_
    obtain ⟨ρ, μ, st, er, sr, p⟩ := h
    exact p.okR sr Reps.nil_
  | e :: es, Es, h => by
    have hs := comps_noStar h e List.mem_cons_self
    rw [List.mapM_cons] at h
    simp only [Option.pure_def, Option.bind_eq_bind, Option.bind_eq_some_iff, Option.some.injEq] at h
    obtain ⟨E, h1, Es', h2, rfl⟩ := h
    refine paImp (pa_cons (ih e E h1) (snd_args ih h2) (star_cons es X.env hs)) fun σ H Q h => ?_
    obtain ⟨ρ, μ, st, er, sr, p⟩ := h
    refine (ahead er sr p).mono fun x H1 ⟨μ1, st1, w, er1, sr1, g1, rx, p1⟩ => ?_
    refine (aheadL er1 sr1 p1).mono fun y H2 ⟨μ2, st2, u, er2, sr2, g2, ry, p2⟩ => ?_
    exact p2.okR sr2 (ry.cons_ (rx.grow sr1 g2))
end Mi

/-! Mi9: the call of a def. -/
namespace Mi
open PySem L2
variable {G : Gs} {φ : Nat → List W → M W} {k : Nat} {C : CC} {X : Cx} {Wh : WX}

theorem kw_names (env : PySem.Env) (pos : Pos) : ∀ (ks : List Keyword), (backToKw pos (keywordEach ks env)).filterMap (·.1) = ks.filterMap (·.arg)
  | [] => rfl
  | ⟨n, e, p⟩ :: ks => by
    show (_ :: backToKw pos (keywordEach ks env)).filterMap (·.1) = _
    rw [List.filterMap_cons, List.filterMap_cons, kw_names env pos ks]
theorem kw_all (env : PySem.Env) (pos : Pos) : ∀ (ks : List Keyword), (backToKw pos (keywordEach ks env)).all (·.1.isSome) = ks.all fun k => k.arg.isSome
  | [] => rfl
  | ⟨n, e, p⟩ :: ks => by
    show (_ :: backToKw pos (keywordEach ks env)).all (·.1.isSome) = _
    rw [List.all_cons, List.all_cons, kw_all env pos ks]
theorem kw_any (env : PySem.Env) (pos : Pos) : ∀ (ks : List Keyword), (ks.all fun k => k.arg.isSome) = true → (backToKw pos (keywordEach ks env)).any (·.1.isNone) = false
  | [], _ => rfl
  | ⟨n, e, p⟩ :: ks, h => by
    rw [List.all_cons, Bool.and_eq_true] at h
    show (_ :: backToKw pos (keywordEach ks env)).any (·.1.isNone) = _
    rw [List.any_cons, kw_any env pos ks h.2]
    have : n.isSome = true := h.1
    cases n
    · simp at this
    · rfl
theorem pkImp {kws : List Keyword} {t t' : TA} (h : PK X kws t) (i : ∀ σ H Q, t' σ H Q → t σ H Q) : PK X kws t' := ⟨fun p pins s σ H Q I q => h.run p pins s σ H Q I (i σ H Q q)⟩
theorem snd_kws {n : Nat} (ih : ∀ e E, comp n C e = some E → PE X e (tM G Wh (den φ E))) : ∀ {ks : List Keyword} {Es : List Mi.E}, ks.mapM (fun k => comp n C k.value) = some Es → PK X ks (tML G Wh (dens φ Es))
  | [], Es, h => by
    simp at h; subst h
    refine pkImp pk_nil fun σ H Q h => ?_
    obtain ⟨ρ, μ, st, er, sr, p⟩ := h
    exact p.okR sr Reps.nil_
  | ⟨nm, e, kp⟩ :: ks, Es, h => by
    rw [List.mapM_cons] at h
    simp only [Option.pure_def, Option.bind_eq_bind, Option.bind_eq_some_iff, Option.some.injEq] at h
    obtain ⟨E, h1, Es', h2, rfl⟩ := h
    refine pkImp (pk_cons (ih e E h1) (snd_kws ih h2)) fun σ H Q h => ?_
    obtain ⟨ρ, μ, st, er, sr, p⟩ := h
    refine (ahead er sr p).mono fun x H1 ⟨μ1, st1, w, er1, sr1, g1, rx, p1⟩ => ?_
    refine (aheadL er1 sr1 p1).mono fun y H2 ⟨μ2, st2, u, er2, sr2, g2, ry, p2⟩ => ?_
    exact p2.okR sr2 (ry.cons_ (rx.grow sr1 g2))
theorem bind_assoc {α β γ : Type} (r : Res α) (f : α → M β) (g : β → M γ) : (r.bind f).bind g = r.bind fun a s => (f a s).bind g := by cases r <;> rfl
theorem bind_congr {α β : Type} (r : Res α) {f g : α → M β} (h : ∀ a s, f a s = g a s) : r.bind f = r.bind g := by
  cases r with
  | ok a s => exact h a s
  | exc x s => rfl
  | stuck => rfl
theorem dens_append (φ : Nat → List W → M W) (ρ : Env) : ∀ (us ws : List Mi.E) (s : Sto), dens φ (us ++ ws) ρ s = ((dens φ us ρ s).bind fun a => bnd (dens φ ws ρ) fun b => ret (a ++ b))
  | [], ws, s => by
    simp only [List.nil_append, dens]
    show _ = (dens φ ws ρ s).bind fun b => ret b
    cases dens φ ws ρ s <;> rfl
  | u :: us, ws, s => by
    simp only [List.cons_append, dens]
    show (den φ u ρ s).bind (fun w => bnd (dens φ (us ++ ws) ρ) fun ws => ret (w :: ws)) = ((den φ u ρ s).bind (fun w => bnd (dens φ us ρ) fun ws => ret (w :: ws))).bind _
    rw [bind_assoc]
    refine bind_congr _ fun w s1 => ?_
    show (dens φ (us ++ ws) ρ s1).bind _ = ((dens φ us ρ s1).bind _).bind _
    rw [dens_append φ ρ us ws s1, bind_assoc, bind_assoc]
    refine bind_congr _ fun a s2 => ?_
    show ((dens φ ws ρ s2).bind _).bind _ = (dens φ ws ρ s2).bind _
    rw [bind_assoc]
    exact bind_congr _ fun b s3 => rfl
theorem bind_ok_inv {α β : Type} {r : Res α} {f : α → M β} {b : β} {s : Sto} (h : r.bind f = .ok b s) : ∃ a s1, r = .ok a s1 ∧ f a s1 = .ok b s := by
  cases r with
  | ok a s1 => exact ⟨a, s1, rfl, h⟩
  | exc x s1 => cases h
  | stuck => cases h
theorem dens_len (φ : Nat → List W → M W) (ρ : Env) : ∀ {es : List Mi.E} {s s' : Sto} {ws : List W}, dens φ es ρ s = .ok ws s' → ws.length = es.length
  | [], s, s', ws, h => by simp only [dens] at h; cases h; rfl
  | e :: es, s, s', ws, h => by
    simp only [dens] at h
    obtain ⟨a, s1, _, h⟩ := bind_ok_inv h
    obtain ⟨as, s2, h2, h⟩ := bind_ok_inv h
    cases h
    simp [dens_len φ ρ h2]
/-- an argument list ahead, its length known -/
theorem aheadD {H : Hp} {μ : List Addr} {st : Sto} {ρ : Env} {σ : L2.St} {γ δ : Type} {R : Hp → List Addr → γ → δ → Prop} {es : List Mi.E} {f : List W → M γ} {Q : δ → Hp → Prop} (er : EnvR G H μ ρ σ) (sr : SR G H μ st)
    (h : PostR G R (fun c d => Wh c d σ) H μ ((dens φ es ρ st).bind f) Q) :
    tML G Wh (dens φ es) σ H fun x H1 => x.length = es.length ∧ ∃ μ1 st1 w, EnvR G H1 μ1 ρ σ ∧ SR G H1 μ1 st1 ∧ Grow H H1 μ μ1 ∧ Reps G H1 μ1 w x ∧ PostR G R (fun c d => Wh c d σ) H1 μ1 (f w st1) Q := by
  refine ⟨ρ, μ, st, er, sr, ?_⟩
  cases e : dens φ es ρ st with
  | ok a s =>
    rw [e] at h
    exact fun x H1 μ1 g1 sr1 r1 => ⟨by rw [← r1.length]; exact dens_len φ ρ e, μ1, s, a, er.grow sr g1, sr1, g1, r1, PostR.shift g1 h⟩
  | exc x s => rw [e] at h; exact h
  | stuck => rw [e] at h; exact h
/-- the parameters' values, picked among those that are handed in -/
theorem picks {H : Hp} {μ : List Addr} {ws : List W} {vs : List V} {us : List Value} (r : Reps G H μ ws vs) (q : Vals vs us) : ∀ {ord : List Nat} {as : List W}, ord.mapM (fun i => ws[i]?) = some as →
    ∃ (bs : List V) (zs : List Value), ord.mapM (fun i => us[i]?) = some zs ∧ Reps G H μ as bs ∧ Vals bs zs ∧ zs.length = ord.length
  | [], as, h => by
    simp at h; subst h
    exact ⟨[], [], by simp, Reps.nil_, .nil, rfl⟩
  | i :: ord, as, h => by
    rw [List.mapM_cons] at h
    simp only [Option.pure_def, Option.bind_eq_bind, Option.bind_eq_some_iff, Option.some.injEq] at h
    obtain ⟨w, h1, as', h2, rfl⟩ := h
    obtain ⟨v, e1, r1⟩ := r.get i h1
    obtain ⟨u, e2, r2⟩ := Vals.get q e1
    obtain ⟨bs, zs, e3, r3, q3, l3⟩ := picks r q h2
    refine ⟨v :: bs, u :: zs, ?_, r3.cons_ r1, .cons r2 q3, by simp [l3]⟩
    rw [List.mapM_cons, e2, e3]; rfl
theorem paired_len {α β : Type} {F : α → β → Prop} : ∀ {l : List α} {r : List β}, Paired F l r → l.length = r.length := fun h => Paired.length h
theorem Vals.len {xs : List V} {us : List Value} (r : Vals xs us) : xs.length = us.length := Paired.length r
/-- f(..) -/
theorem snd_call (c : Ctx G φ k C X Wh) {n : Nat} {x : Str} {i : Nat} {shapes : List Shape} {sh : Shape} {as : List Expr} {kws : List Keyword} {p pos : Pos} {us ws : List Mi.E} (hg : C.glb x = some (.fn i shapes)) (hsh : sh ∈ shapes)
    (hnp : sh.np = as.length) (hks : sh.ks = kws.filterMap (·.arg)) (hall : (kws.all fun k => k.arg.isSome) = true) (hns : ∀ e ∈ as, noStar e = true) (ha : PA X as (tML G Wh (dens φ us))) (hk : PK X kws (tML G Wh (dens φ ws))) (hlu : us.length = as.length) (hlw : ws.length = kws.length) :
    PE X (.Call (.Name x p) as kws pos) (tM G Wh (den φ (.call i (us ++ ws) sh.ds sh.ord))) := by
  refine ⟨fun pins s σ H Q I h => ?_⟩
  obtain ⟨gl, ok, f, fd, ps, hm, hgl, hkp, F, hshapes⟩ := glb_of c hg
  obtain ⟨ok1, ok2, ok3⟩ := okName_of ok
  obtain ⟨dus, dvs, rdv, rds, hord, hbind⟩ := hshapes sh hsh
  obtain ⟨ρ, μ, st, er, sr, p0⟩ := h
  -- what the arguments' values have to give
  have step : tML G Wh (dens φ us) σ H fun vs H1 => vs.length = us.length ∧ tML G Wh (dens φ ws) σ H1 fun zs H2 => zs.length = ws.length ∧ ∃ μ st aw, SR G H2 μ st ∧ Reps G H2 μ aw (vs ++ zs) ∧
      Post G (fun c d => Wh c d σ) H2 μ ((match sh.ord.mapM fun i => (aw ++ sh.ds)[i]? with | some as => φ i as | none => bad) st) Q := by
    have p1 : Post G (fun c d => Wh c d σ) H μ ((dens φ us ρ st).bind fun a => bnd (dens φ ws ρ) fun b => match sh.ord.mapM fun i => (a ++ b ++ sh.ds)[i]? with | some as => φ i as | none => bad) Q := by
      have e : den φ (.call i (us ++ ws) sh.ds sh.ord) ρ st = ((dens φ us ρ st).bind fun a => bnd (dens φ ws ρ) fun b => match sh.ord.mapM fun i => (a ++ b ++ sh.ds)[i]? with | some as => φ i as | none => bad) := by
        simp only [den]
        show (dens φ (us ++ ws) ρ st).bind _ = _
        rw [dens_append, bind_assoc]
        refine bind_congr _ fun a s1 => ?_
        show ((dens φ ws ρ s1).bind _).bind _ = (dens φ ws ρ s1).bind _
        rw [bind_assoc]
        exact bind_congr _ fun b s3 => rfl
      rw [e] at p0; exact p0
    refine (aheadD er sr p1).mono fun vs H1 ⟨l1, μ1, st1, aw, er1, sr1, g1, ra, p2⟩ => ⟨l1, ?_⟩
    refine (aheadD er1 sr1 p2).mono fun zs H2 ⟨l2, μ2, st2, bw, er2, sr2, g2, rb, p3⟩ => ⟨l2, ?_⟩
    exact ⟨μ2, st2, aw ++ bw, sr2, (ra.grow sr1 g2).append_ rb, p3⟩
  -- the call itself
  have go : ∀ (s2 : Shared) (H2 : Hp) (uv wv : List Value) (vs zs : List V), Inv X pins σ H2 s2 → Vals vs uv → Vals zs wv → uv.length = sh.np → wv.length = sh.ks.length →
      (∃ μ st aw, SR G H2 μ st ∧ Reps G H2 μ aw (vs ++ zs) ∧ Post G (fun c d => Wh c d σ) H2 μ ((match sh.ord.mapM fun i => (aw ++ sh.ds)[i]? with | some as => φ i as | none => bad) st) Q) →
      wpAny (model X.prog X.w) X.A (call (.ref f) uv (sh.ks.zip wv)) (EP X pins σ Q) X.xe s2 := by
    intro s2 H2 uv wv vs zs I2 rv rz l1 l2 ⟨μ, st, aw, sr2, ra, pp⟩
    have hor : ∃ as, sh.ord.mapM (fun i => (aw ++ sh.ds)[i]?) = some as := by
      cases q : sh.ord.mapM (fun i => (aw ++ sh.ds)[i]?) with
      | some as => exact ⟨as, rfl⟩
      | none => rw [q] at pp; exact pp.elim
    obtain ⟨as, hor⟩ := hor
    rw [hor] at pp
    obtain ⟨bs, us', e3, r3, q3, l3⟩ := picks (ra.append_ (rds H2 μ)) ((rv.append rz).append rdv) hor
    have hb := hbind s2 uv wv us' (by rw [c.K]; exact I2.kIn) l1 l2 e3
    have lb : bs.length = ps.length := by rw [Vals.len q3, l3, hord]
    refine wpAny_call (codeAny_mono (F.run X.A X.stack s2 H2 ⟨uv, sh.ks.zip wv⟩ us' bs Q (fun c d => Wh c d σ) c.guards c.room I2.env0 hb q3 ⟨lb, μ, st, as, sr2, r3, pp⟩) fun r s' hq => ?_)
    cases r with
    | error e => exact passAt c.tk σ pins H2 s2 e s' I2 hq
    | ok fl =>
      cases fl with
      | ret u => exact I2.after hq
      | next => exact False.elim hq
      | brk => exact False.elim hq
      | cont => exact False.elim hq
  have hkl : ∀ {wv : List Value} {zs : List V}, wv.length = kws.length → wv.length = sh.ks.length := fun {wv zs} e => by
    rw [e, hks]
    have : ∀ (l : List Keyword), (l.all fun k => k.arg.isSome) = true → l.length = (l.filterMap (·.arg)).length := by
      intro l
      induction l with
      | nil => intro _; rfl
      | cons a l ih =>
        intro h
        rw [List.all_cons, Bool.and_eq_true] at h
        obtain ⟨n, hn⟩ := Option.isSome_iff_exists.mp h.1
        rw [List.filterMap_cons, hn]
        simp [ih h.2]
    exact this kws hall
  refine wpAny_Call_Name_kw (ld_glob I gl hm ?_ ok1)
  have hall' : (backToKw pos (keywordEach kws X.env)).all (·.1.isSome) = true := by rw [kw_all]; exact hall
  cases as with
  | nil =>
    have us0 : us = [] := List.eq_nil_of_length_eq_zero (by simpa using hlu)
    subst us0
    refine PySem.W.callWith_KW0 I.kIn hkp hall' ?_ (by rw [kw_any _ _ _ hall]; rfl)
    obtain ⟨ρ', μ', st', er', sr', p'⟩ := step
    have p2 := (p'.okR sr' Reps.nil_).2
    refine thn (hk.run pos pins s σ H _ I p2) fun wv s2 ⟨zs, H2, I2, rz, lz, q2⟩ => ⟨I2.kIn, ?_⟩
    rw [kw_names, ← hks]
    exact go s2 H2 [] wv [] zs I2 .nil rz (by simp [hnp]) (hkl (zs := zs) (by rw [← Vals.len rz, lz, hlw])) q2
  | cons e as =>
    have he := star_cons as X.env (hns e List.mem_cons_self)
    refine PySem.W.callWith_KW I.kIn hkp hall' (thn (ha.run pos pins s σ H _ I step) fun uv s1 ⟨vs, H1, I1, r1, l1, q1⟩ => ?_) (by rw [star_plain _ _ hns, kw_any _ _ _ hall]; rfl) he
    refine thn (hk.run pos pins s1 σ H1 _ I1 q1) fun wv s2 ⟨zs, H2, I2, rz, lz, q2⟩ => ⟨I2.kIn, ?_⟩
    rw [kw_names, ← hks]
    exact go s2 H2 uv wv vs zs I2 r1 rz (by rw [← Vals.len r1, l1, hlu, hnp]) (hkl (zs := zs) (by rw [← Vals.len rz, lz, hlw])) q2
end Mi

/-! Mi10: what is walked; list comprehensions. -/
namespace Mi
open PySem L2
variable {G : Gs} {φ : Nat → List W → M W} {k : Nat} {C : CC} {X : Cx} {Wh : WX}

/-- the hand layer's turns J are the items ws -/
structure ItOk (G : Gs) (J : It) (ws : List W) (n : Option Nat) (src : List (W × V)) : Prop where
  turn : ∀ (H : Hp) (μ : List Addr) (st : Sto) (i : Nat) (w : W), SR G H μ st → stays st n ws = true → (∀ p ∈ src, Rep G H μ p.1 p.2) → ws[i]? = some w →
    J.go i H ∧ ∀ x H', J.yld i H x H' → Grow H H' μ μ ∧ SR G H' μ st ∧ Rep G H' μ w x
  stop : ∀ (H : Hp) (μ : List Addr) (st : Sto), SR G H μ st → stays st n ws = true → (∀ p ∈ src, Rep G H μ p.1 p.2) → J.stop ws.length H
def IR (G : Gs) (H : Hp) (μ : List Addr) (a : List W × Option Nat) (J : It) : Prop := a.1.length ≤ SZ ∧ ∃ src, ItOk G J a.1 a.2 src ∧ ∀ p ∈ src, Rep G H μ p.1 p.2
def tMI (G : Gs) (Wh : WX) (m : Env → M (List W × Option Nat)) : TI := fun σ H R => ∃ ρ μ st, EnvR G H μ ρ σ ∧ SR G H μ st ∧ PostR G (IR G) (fun c d => Wh c d σ) H μ (m ρ st) R
theorem piImp {X : Cx} {tg e : Expr} {t t' : TI} (h : PI X tg e t) (i : ∀ σ H Q, t' σ H Q → t σ H Q) : PI X tg e t' := ⟨fun p s σ H Q I q => h.run p s σ H Q I (i σ H Q q)⟩
theorem piOr {X : Cx} {tg e : Expr} {t t' : TI} (h : PI X tg e t) (h' : PI X tg e t') : PI X tg e (fun σ H R => t σ H R ∨ t' σ H R) := ⟨fun p s σ H Q I q => by
  rcases q with q | q
  · exact h.run p s σ H Q I q
  · exact h'.run p s σ H Q I q⟩
theorem srcs {H H' : Hp} {μ μ' : List Addr} {st : Sto} {src : List (W × V)} (sr : SR G H μ st) (g : Grow H H' μ μ') (h : ∀ p ∈ src, Rep G H μ p.1 p.2) : ∀ p ∈ src, Rep G H' μ' p.1 p.2 := fun p hp => (h p hp).grow sr g
theorem it_tup {ws : List W} {a : Addr} : ItOk G (Itt G.K a) ws none [(.tup ws, .ref a)] := by
  refine ⟨fun H μ st i w sr _ hs e => ?_, fun H μ st sr _ hs => ?_⟩
  · obtain ⟨a', vs, e1, hq, rs⟩ := (hs _ List.mem_cons_self).tup_inv
    cases e1
    obtain ⟨v, e2, rv⟩ := rs.get i e
    refine ⟨⟨vs, v, hq, e2⟩, fun x H' ⟨e3, q⟩ => ?_⟩
    subst e3
    have := q vs hq
    rw [e2] at this; cases this
    exact ⟨.refl, sr, rv⟩
  · obtain ⟨a', vs, e1, hq, rs⟩ := (hs _ List.mem_cons_self).tup_inv
    cases e1
    exact ⟨vs, hq, by rw [rs.length]; exact Nat.le_refl _⟩
theorem it_frl {ws : List W} {a : Addr} : ItOk G (Itl G.K a) ws none [(.frl ws, .ref a)] := by
  refine ⟨fun H μ st i w sr _ hs e => ?_, fun H μ st sr _ hs => ?_⟩
  · obtain ⟨a', vs, e1, hq, rs⟩ := (hs _ List.mem_cons_self).frl_inv
    cases e1
    obtain ⟨v, e2, rv⟩ := rs.get i e
    refine ⟨⟨vs, v, hq, e2⟩, fun x H' ⟨e3, q⟩ => ?_⟩
    subst e3
    have := q vs hq
    rw [e2] at this; cases this
    exact ⟨.refl, sr, rv⟩
  · obtain ⟨a', vs, e1, hq, rs⟩ := (hs _ List.mem_cons_self).frl_inv
    cases e1
    exact ⟨vs, hq, by rw [rs.length]; exact Nat.le_refl _⟩
theorem it_lst {ws : List W} {n : Nat} {a : Addr} : ItOk G (Itl G.K a) ws (some n) [(.loc n, .ref a)] := by
  refine ⟨fun H μ st i w sr ht hs e => ?_, fun H μ st sr ht hs => ?_⟩
  · simp only [stays, decide_eq_true_eq] at ht
    obtain ⟨a', vs, e1, _, hq, rs⟩ := Rep.lst sr (hs _ List.mem_cons_self) ht
    cases e1
    obtain ⟨v, e2, rv⟩ := rs.get i e
    refine ⟨⟨vs, v, SqL.of hq, e2⟩, fun x H' ⟨e3, q⟩ => ?_⟩
    subst e3
    have := q vs (SqL.of hq)
    rw [e2] at this; cases this
    exact ⟨.refl, sr, rv⟩
  · simp only [stays, decide_eq_true_eq] at ht
    obtain ⟨a', vs, e1, _, hq, rs⟩ := Rep.lst sr (hs _ List.mem_cons_self) ht
    cases e1
    exact ⟨vs, SqL.of hq, by rw [rs.length]; exact Nat.le_refl _⟩
theorem it_str {x : Str} : ItOk G (Its x) (x.cps.toList.map fun c => .str ⟨#[c]⟩) none [] := by
  refine ⟨fun H μ st i w sr ht hs e => ?_, fun H μ st sr ht hs => by show x.cps.size ≤ _; simp⟩
  rw [List.getElem?_map, Option.map_eq_some_iff] at e
  obtain ⟨c, e, rfl⟩ := e
  rw [Array.getElem?_toList] at e
  refine ⟨(Array.getElem?_eq_some_iff.mp e).1, fun v H' ⟨e3, c', e4, e5⟩ => ?_⟩
  subst e3 e5
  rw [e] at e4; cases e4
  exact ⟨.refl, sr, Rep.str_⟩
theorem it_rng {lo : Int} {n : Nat} : ItOk G (Itr lo n) ((List.range n).map fun k : Nat => W.int (lo + (k : Int))) none [] := by
  refine ⟨fun H μ st i w sr ht hs e => ?_, fun H μ st sr ht hs => by show n ≤ _; simp⟩
  rw [List.getElem?_map, Option.map_eq_some_iff] at e
  obtain ⟨c, e, rfl⟩ := e
  have hi : i < n := by
    have := (List.getElem?_eq_some_iff.mp e).1
    simpa using this
  rw [List.getElem?_range hi] at e
  cases e
  refine ⟨hi, fun v H' ⟨e3, e4⟩ => ?_⟩
  subst e3 e4
  exact ⟨.refl, sr, Rep.int_⟩
/-- a value that is walked -/
theorem snd_val (c : Ctx G φ k C X Wh) {tg e : Expr} {E : Mi.E} (h : PE X e (tM G Wh (den φ E))) : PI X tg e (tMI G Wh fun ρ => bnd (dens φ [E] ρ) (iter .val)) := by
  refine piImp (piOr (piOr (pi_tup h) (pi_list h)) (pi_str h)) fun σ H R q => ?_
  obtain ⟨ρ, μ, st, er, sr, p⟩ := q
  have p1 : PostR G (IR G) (fun c d => Wh c d σ) H μ ((den φ E ρ st).bind fun w s => iter .val [w] s) R := by
    have e1 : (bnd (dens φ [E] ρ) (iter .val)) st = (den φ E ρ st).bind fun w s => iter .val [w] s := by
      simp only [dens]
      show ((den φ E ρ st).bind _).bind _ = _
      rw [bind_assoc]
      rfl
    rw [← e1]; exact p
  -- which kind it is shows when it is reckoned
  cases hd : den φ E ρ st with
  | stuck => rw [hd] at p1; exact p1.elim
  | exc x s1 =>
    rw [hd] at p1
    refine .inl (.inl ⟨ρ, μ, st, er, sr, ?_⟩)
    rw [hd]; exact p1
  | ok w s1 =>
    rw [hd] at p1
    simp only [bind_ok, iter] at p1
    have mk : ∀ {Q : VK}, (∀ x H1 μ1, Grow H H1 μ μ1 → SR G H1 μ1 s1 → Rep G H1 μ1 w x → Q x H1) → tM G Wh (den φ E) σ H Q := fun hq => ⟨ρ, μ, st, er, sr, by rw [hd]; exact fun x H1 μ1 g s r => hq x H1 μ1 g s r⟩
    cases hi : itemsW s1 w with
    | none => rw [hi] at p1; exact p1.elim
    | some a =>
      obtain ⟨ws, n⟩ := a
      rw [hi] at p1
      dsimp only at p1
      split at p1
      · rename_i hz
        cases w <;> simp only [itemsW, reduceCtorEq, Option.some.injEq, Prod.mk.injEq] at hi
        · obtain ⟨rfl, rfl⟩ := hi
          refine .inr (mk fun x H1 μ1 g s r => ⟨_, r.str_inv, ?_⟩)
          exact p1 _ H1 μ1 g s ⟨hz, [], it_str, by simp⟩
        · obtain ⟨rfl, rfl⟩ := hi
          refine .inl (.inl (mk fun x H1 μ1 g s r => ?_))
          obtain ⟨a, vs, rfl, hq, rs⟩ := r.tup_inv
          exact ⟨a, rfl, ⟨vs, c.K ▸ hq⟩, c.K ▸ p1 _ H1 μ1 g s ⟨hz, _, it_tup, fun p hp => by simp at hp; subst hp; exact r⟩⟩
        · obtain ⟨rfl, rfl⟩ := hi
          refine .inl (.inr (mk fun x H1 μ1 g s r => ?_))
          obtain ⟨a, vs, rfl, hq, rs⟩ := r.frl_inv
          exact ⟨a, rfl, ⟨vs, c.K ▸ hq⟩, c.K ▸ p1 _ H1 μ1 g s ⟨hz, _, it_frl, fun p hp => by simp at hp; subst hp; exact r⟩⟩
        · split at hi
          · rename_i m xs e
            simp only [Option.some.injEq, Prod.mk.injEq] at hi
            obtain ⟨rfl, rfl⟩ := hi
            refine .inl (.inr (mk fun x H1 μ1 g s r => ?_))
            obtain ⟨a, vs, rfl, _, hq, rs⟩ := Rep.lst s r e
            exact ⟨a, rfl, ⟨vs, SqL.of hq⟩, c.K ▸ p1 _ H1 μ1 g s ⟨hz, _, it_lst, fun p hp => by simp at hp; subst hp; exact r⟩⟩
          · cases hi
      · exact p1.elim

/-! ### range -/
theorem snd_rng1 (c : Ctx G φ k C X Wh) {tg a : Expr} {E : Mi.E} {p pos : Pos} (hs : noStar a = true) (hg : Gl X "range") (hm : X.mg "range" = none) (ha : PA X [a] (tML G Wh (dens φ [E]))) : PI X tg (.Call (.Name "range" p) [a] [] pos) (tMI G Wh fun ρ => bnd (dens φ [E] ρ) (iter .rng1)) := by
  refine piImp (pi_range1 hg hm ha (by rw [star_cons _ _ hs]; rfl)) fun σ H R q => ?_
  obtain ⟨ρ, μ, st, er, sr, p⟩ := q
  refine (aheadL er sr p).mono fun vs H1 ⟨μ1, st1, ws, er1, sr1, g1, r1, p1⟩ => ?_
  match ws, p1, r1 with
  | [.int j], p1, r1 =>
    obtain ⟨v, rfl, r2⟩ := r1.one
    simp only [iter] at p1
    split at p1
    · rename_i hz
      refine ⟨j, by rw [r2.int_inv], hz.2, ?_, ?_⟩
      · have := hz.1
        simp only [SZ] at this
        omega
      · have e : (List.range j.toNat).map (fun k : Nat => W.int (k : Int)) = (List.range j.toNat).map fun k : Nat => W.int (0 + (k : Int)) := by simp
        rw [e] at p1
        refine p1.okR sr1 ⟨?_, [], it_rng, by simp⟩
        have := hz.1
        simp only [List.length_map, List.length_range, SZ] at this ⊢
        omega
    · exact p1.elim
theorem snd_rng2 (c : Ctx G φ k C X Wh) {tg a b : Expr} {E F : Mi.E} {p pos : Pos} (hs : noStar a = true) (hs2 : noStar b = true) (hg : Gl X "range") (hm : X.mg "range" = none) (ha : PA X [a, b] (tML G Wh (dens φ [E, F]))) : PI X tg (.Call (.Name "range" p) [a, b] [] pos) (tMI G Wh fun ρ => bnd (dens φ [E, F] ρ) (iter .rng2)) := by
  refine piImp (pi_range2 hg hm ha (by rw [star_cons _ _ hs, star_cons _ _ hs2]; rfl) (by rw [star_cons _ _ hs2]; rfl)) fun σ H R q => ?_
  obtain ⟨ρ, μ, st, er, sr, p⟩ := q
  refine (aheadL er sr p).mono fun vs H1 ⟨μ1, st1, ws, er1, sr1, g1, r1, p1⟩ => ?_
  match ws, p1, r1 with
  | [.int i, .int j], p1, r1 =>
    obtain ⟨v, y, rfl, r2, r3⟩ := r1.two
    simp only [iter] at p1
    split at p1
    · rename_i hz
      refine ⟨i, j, by rw [r2.int_inv, r3.int_inv], ⟨hz.1, hz.2.1, hz.2.2.1, hz.2.2.2.1⟩, ?_⟩
      refine p1.okR sr1 ⟨?_, [], it_rng, by simp⟩
      have := hz.2.2.2.2
      simp only [List.length_map, List.length_range, SZ] at this ⊢
      omega
    · exact p1.elim

/-! ### list comprehensions -/
theorem EnvR.drop {H : Hp} {μ : List Addr} {ρ : Env} {σ : L2.St} (e : EnvR G H μ ρ σ) (i : Nat) : EnvR G H μ (ρ.set i none) (σ.set i none) := by
  refine ⟨by simp [e.len], fun j w h => ?_⟩
  by_cases q : i = j
  · subst q
    by_cases hl : i < ρ.length
    · rw [List.getElem?_set_self hl] at h; cases h
    · rw [List.getElem?_eq_none (by simpa using hl)] at h; cases h
  · rw [List.getElem?_set_ne q] at h
    obtain ⟨v, a, b⟩ := e.at_ j w h
    exact ⟨v, by rw [List.getElem?_set_ne q]; exact a, b⟩
theorem EnvR.wiped {H : Hp} {μ : List Addr} {ρ : Env} {σ : L2.St} (e : EnvR G H μ ρ σ) : ∀ vs, EnvR G H μ (Mi.wipe ρ vs) (L2.wipe σ vs)
  | [] => e
  | v :: vs => (e.wiped vs).drop v
theorem wipe_comm {α : Type} (l : List (Option α)) (i j : Nat) (x : Option α) (h : i ≠ j) : (l.set i x).set j none = (l.set j none).set i x := List.set_comm _ _ h
theorem wipe_set_ne {σ : L2.St} {i : Nat} {v : Option V} : ∀ {vs : List Nat}, i ∉ vs → L2.wipe (σ.set i v) vs = (L2.wipe σ vs).set i v
  | [], _ => rfl
  | j :: vs, h => by
    simp only [List.mem_cons, not_or] at h
    simp only [L2.wipe]
    rw [wipe_set_ne h.2, List.set_comm _ _ h.1]
theorem wipe_in {σ : L2.St} {i : Nat} {v : Option V} : ∀ {vs : List Nat}, i ∈ vs → L2.wipe (σ.set i v) vs = L2.wipe σ vs
  | j :: vs, h => by
    simp only [L2.wipe]
    by_cases hm : i ∈ vs
    · rw [wipe_in hm]
    · rcases List.mem_cons.mp h with rfl | h
      · rw [wipe_set_ne hm]; simp
      · exact absurd h hm
theorem wipe_wipe {σ : L2.St} : ∀ (vs : List Nat), L2.wipe (L2.wipe σ vs) vs = L2.wipe σ vs := by
  have key : ∀ (us vs : List Nat), (∀ i ∈ us, i ∈ vs) → ∀ τ : L2.St, L2.wipe (L2.wipe τ us) vs = L2.wipe τ vs := by
    intro us
    induction us with
    | nil => intro vs _ τ; rfl
    | cons i us ih =>
      intro vs h τ
      simp only [L2.wipe]
      rw [wipe_in (h i List.mem_cons_self)]
      exact ih vs (fun j hj => h j (List.mem_cons_of_mem _ hj)) τ
  exact fun vs => key vs vs (fun _ h => h) σ
/-- a comprehension's target -/
def gTn (K : PySem.W.Frag) : Tn → TG
  | .nm i => gName i
  | .tp is => gTup K is.length (is.foldr (fun i t => gCons (gName i) t) gNil)
theorem sets_ok {H : Hp} {μ : List Addr} {Q : L2.St → Hp → Prop} : ∀ {is : List Nat} {ws : List W} {vs : List V} {ρ : Env} {σ : L2.St}, ws.length = is.length → Reps G H μ ws vs → EnvR G H μ ρ σ →
    (∀ σ', EnvR G H μ (setAll is ws ρ) σ' → (∀ l : List Nat, (∀ i ∈ is, i ∈ l) → L2.wipe σ' l = L2.wipe σ l) → Q σ' H) → (is.foldr (fun i t => gCons (gName i) t) gNil) vs σ H Q
  | [], [], vs, ρ, σ, _, r, e, q => by
    refine ⟨r.nil_inv, q σ e fun _ _ => rfl⟩
  | i :: is, w :: ws, vs, ρ, σ, hl, r, e, q => by
    simp only [Reps] at r
    obtain ⟨v, vr, rfl, r1, r2⟩ := r
    refine ⟨v, vr, rfl, ?_⟩
    refine sets_ok (by simpa using hl) r2 (e.set i r1) fun σ' e' hw => q σ' e' fun l hl => ?_
    rw [hw l fun j hj => hl j (List.mem_cons_of_mem _ hj), wipe_in (hl i List.mem_cons_self)]
theorem gTn_ok {H : Hp} {μ : List Addr} {t : Tn} {w : W} {v : V} {ρ ρ1 : Env} {σ : L2.St} {l : List Nat} {Q : L2.St → Hp → Prop} (e : EnvR G H μ ρ σ) (r : Rep G H μ w v) (hb : bindT t w ρ = some ρ1) (ht : tnIn t l = true)
    (q : ∀ σ', EnvR G H μ ρ1 σ' → L2.wipe σ' l = L2.wipe σ l → Q σ' H) : gTn G.K t v σ H Q := by
  cases t with
  | nm i =>
    simp only [bindT, Option.some.injEq] at hb
    subst hb
    exact q _ (e.set i r) (wipe_in (by simpa [tnIn] using ht))
  | tp is =>
    simp only [bindT] at hb
    cases w <;> simp only [reduceCtorEq] at hb
    split at hb
    · rename_i hl
      cases hb
      obtain ⟨a, vs, rfl, hq, rs⟩ := r.tup_inv
      refine ⟨a, vs, rfl, hq, by rw [← rs.length]; exact hl, ?_⟩
      refine sets_ok hl rs e fun σ' e' hw => q σ' e' (hw l fun i hi => ?_)
      simp only [tnIn, List.all_eq_true] at ht
      simpa using ht i hi
    · cases hb
theorem noExc_inv {α β : Type} {m : M α} {f : α → M β} {s : Sto} {R : Hp → List Addr → β → V → Prop} {Xx : Value → Option Addr → Hp → Prop} {H : Hp} {μ : List Addr} {Q : V → Hp → Prop} (h : PostR G R Xx H μ ((noExc m s).bind f) Q) : ∃ a s1, m s = .ok a s1 ∧ PostR G R Xx H μ (f a s1) Q := by
  unfold noExc at h
  cases e : m s with
  | ok a s1 => rw [e] at h; exact ⟨a, s1, rfl, h⟩
  | exc x s1 => rw [e] at h; exact h.elim
  | stuck => rw [e] at h; exact h.elim
/-- tuples, and lists that nobody changes -/
def TF : HO → Prop
  | .tup _ => True
  | .frz _ _ => True
  | _ => False
mutual
theorem Rep.keepTF {H H' : Hp} {μ : List Addr} (h : ∀ a u, H a = some u → TF u → H' a = some u) : ∀ {w : W} {v : V}, Rep G H μ w v → Rep G H' μ w v
  | .non, _, r => by simpa only [Rep] using r
  | .bl _, _, r => by simpa only [Rep] using r
  | .int _, _, r => by simpa only [Rep] using r
  | .str _, _, r => by simpa only [Rep] using r
  | .tup ws, _, r => by
    simp only [Rep] at r ⊢
    obtain ⟨a, vs, e, hs, hr⟩ := r
    refine ⟨a, vs, e, ?_, Reps.keepTF h hr⟩
    rcases hs with (q | ⟨o, q⟩) | q
    · exact .inl (.inl (h _ _ q trivial))
    · exact .inl (.inr ⟨o, h _ _ q trivial⟩)
    · exact .inr q
  | .frl ws, _, r => by
    simp only [Rep] at r ⊢
    obtain ⟨a, vs, e, hs, hr⟩ := r
    refine ⟨a, vs, e, ?_, Reps.keepTF h hr⟩
    rcases hs with ⟨o, q⟩ | q
    · exact .inl ⟨o, h _ _ q trivial⟩
    · exact .inr q
  | .loc n, _, r => by simpa only [Rep] using r
  | .glb _, _, r => by simpa only [Rep] using r
theorem Reps.keepTF {H H' : Hp} {μ : List Addr} (h : ∀ a u, H a = some u → TF u → H' a = some u) : ∀ {ws : List W} {vs : List V}, Reps G H μ ws vs → Reps G H' μ ws vs
  | [], _, r => by simpa only [Reps] using r
  | w :: ws, _, r => by
    simp only [Reps] at r ⊢
    obtain ⟨v, q, e, h1, h2⟩ := r
    exact ⟨v, q, e, Rep.keepTF h h1, Reps.keepTF h h2⟩
end
/-- a thing that the store doesn't tell of is changed -/
theorem SR.touch {H : Hp} {μ : List Addr} {st : Sto} (s : SR G H μ st) {p : Addr} {o : HO} (hp : p ∉ μ) {us : List V} (hl : H p = some (.lst us)) :
    (∀ {ws : List W} {vs : List V}, Reps G H μ ws vs → Reps G (upd H p o) μ ws vs) ∧ SR G (upd H p o) μ st := by
  have key : ∀ {ws : List W} {vs : List V}, Reps G H μ ws vs → Reps G (upd H p o) μ ws vs := fun r => r.keepTF fun a u e h => by
    rw [upd_ne]
    · exact e
    · intro z
      rw [z, hl] at e
      cases e
      exact h
  refine ⟨key, s.len, s.nd, fun n a u hm ho => ?_⟩
  have q := s.ob n a u hm ho
  have ne : a ≠ p := fun z => hp (z ▸ List.mem_of_getElem? hm)
  exact q.lift (upd_ne ne) key
theorem Grow.touch {H H1 : Hp} {μ μ1 : List Addr} {p : Addr} {o : HO} (g : Grow H H1 μ μ1) (hp : H p = none) : Grow H (upd H1 p o) μ μ1 := by
  refine ⟨g.mu, fun a u e ha => ?_, fun a e => ?_⟩
  · rw [upd_ne (ne_of_none e hp)]; exact g.keep a u e ha
  · by_cases q : a = p
    · subst q; exact hp
    · rw [upd_ne q] at e; exact g.stay a e
/-- a comprehension at its i-th turn -/
def LcInv (G : Gs) (φ : Nat → List W → M W) (elt : Mi.E) (cond : List Mi.E) (t : Tn) (ρw : Env) (ws : List W) (nn : Option Nat) (ys : List W) (stF : Sto) (H1 : Hp) (μ1 : List Addr) (D : Addr) (i : Nat) (H : Hp) : Prop :=
  ∃ (μ2 : List Addr) (st2 : Sto) (ys0 : List W) (acc : List V) (yr : List W), Grow H1 H μ1 μ2 ∧ SR G H μ2 st2 ∧ H D = some (.lst acc) ∧ D ∉ μ2 ∧ Reps G H μ2 ys0 acc ∧ acc.length ≤ i ∧
    lcGo (fun ρ' => den φ elt ρ') (fun ρ' => denC φ cond ρ') t ρw (fun s => stays s nn ws) (ws.drop i) st2 = .ok yr stF ∧ ys = ys0 ++ yr
abbrev WF : WX := fun _ _ _ _ => False
/-- the comprehension's reading, from the small machine's -/
theorem lc_ok {elt : Mi.E} {cond : List Mi.E} {t : Tn} {own : List Nat} {ik : Ik} {its : List Mi.E} {σ : L2.St} {H : Hp} {Q : VK} (ht : tnIn t own = true) (h : tM G Wh (den φ (.lc elt t own ik its cond)) σ H Q) :
    tLc (tMI G Wh fun ρ => bnd (dens φ its ρ) (iter ik)) (gTn G.K t) (tMB G WF fun ρ => denC φ cond ρ) (tM G WF (den φ elt)) own σ H Q := by
  obtain ⟨ρ, μ, st, er, sr, p⟩ := h
  have p : Post G (fun c d => Wh c d σ) H μ (((bnd (dens φ its ρ) (iter ik)) st).bind fun it => bnd (noExc (lcGo (fun ρ' => den φ elt ρ') (fun ρ' => denC φ cond ρ') t (Mi.wipe ρ own) (fun s => stays s it.2 it.1) it.1)) fun ys => lay (.lst ys)) Q := by
    simp only [den] at p
    show Post G _ H μ (((dens φ its ρ st).bind (iter ik)).bind _) Q
    rw [bind_assoc]
    exact p
  refine ⟨ρ, μ, st, er, sr, (PostR.bind (R1 := IR G) p).mono ?_ fun _ _ _ z => z⟩
  rintro J H1 ⟨μ1, st1, ⟨ws, nn⟩, g1, sr1, ⟨hz, src, hit, hsrc⟩, p1⟩ D hD
  obtain ⟨ys, stF, hgo, p2⟩ := noExc_inv p1
  dsimp only at hgo hz hit hsrc
  obtain ⟨gD, srD⟩ := sr1.temp (o := .lst []) hD
  have er1 := er.grow sr g1
  have start : LcInv G φ elt cond t (Mi.wipe ρ own) ws nn ys stF H1 μ1 D 0 (upd H1 D (.lst [])) := ⟨μ1, st1, [], [], ys, gD, srD, upd_same, sr1.fresh hD, Reps.nil_, Nat.le_refl _, by simpa using hgo, rfl⟩
  refine ⟨fun i m H => m = ws.length - i ∧ i ≤ ws.length ∧ LcInv G φ elt cond t (Mi.wipe ρ own) ws nn ys stF H1 μ1 D i H, ⟨ws.length, by simp, Nat.zero_le _, start⟩, ?_⟩
  rintro i m H2 ⟨rfl, hi, μ2, st2, ys0, acc, yr, g2, sr2, hD2, nD, racc, hacc, hgo2, hys⟩
  have hsrc2 := srcs sr1 g2 hsrc
  by_cases hlt : i < ws.length
  · refine .inr ?_
    rw [List.drop_eq_getElem_cons hlt] at hgo2
    simp only [lcGo] at hgo2
    split at hgo2
    · rename_i hchk
      cases hb : bindT t ws[i] (Mi.wipe ρ own) with
      | none => rw [hb] at hgo2; cases hgo2
      | some ρ1 =>
        rw [hb] at hgo2
        dsimp only at hgo2
        obtain ⟨b, s3, hcond, hgo3⟩ := bind_ok_inv hgo2
        obtain ⟨jgo, jy⟩ := hit.turn H2 μ2 st2 i ws[i] sr2 hchk hsrc2 (List.getElem?_eq_getElem hlt)
        refine ⟨jgo, LcInv G φ elt cond t (Mi.wipe ρ own) ws nn ys stF H1 μ1 D (i + 1), fun H' hN => ⟨ws.length - (i + 1), by omega, rfl, hlt, hN⟩, fun x H3 hy => ?_⟩
        obtain ⟨g3, sr3, rx⟩ := jy x H3 hy
        have erw : EnvR G H3 μ2 (Mi.wipe ρ own) (L2.wipe σ own) := (((er1.grow sr1 g2).grow sr2 g3).wiped own)
        refine gTn_ok (l := own) erw rx hb ht fun σ2 er2 hw => ⟨by rw [hw, wipe_wipe], ρ1, μ2, st2, er2, sr3, ?_⟩
        show PostB G _ H3 μ2 (denC φ cond ρ1 st2) _
        rw [hcond]
        intro b' H4 μ4 g4 sr4 hbb
        cases hbb
        have gg := (g2.trans g3).trans g4
        have hD4 : H4 D = some (.lst acc) := g4.keep _ _ (g3.keep _ _ hD2 nD) nD
        have nD4 : D ∉ μ4 := by
          obtain ⟨r, e, hr⟩ := g4.mu
          rw [e]
          intro hm
          rcases List.mem_append.mp hm with h | h
          · exact nD h
          · have := hr D h
            rw [g3.keep _ _ hD2 nD] at this; cases this
        have racc4 := (racc.grow sr2 g3).grow sr3 g4
        cases b with
        | true =>
          rw [if_pos rfl] at hgo3
          obtain ⟨y, s5, hy5, hgo4⟩ := bind_ok_inv hgo3
          obtain ⟨yr', s6, hgo5, e6⟩ := bind_ok_inv hgo4
          cases e6
          rw [if_pos rfl]
          refine ⟨ρ1, μ4, s3, er2.grow sr3 g4, sr4, ?_⟩
          rw [hy5]
          intro v H5 μ5 g5 sr5 rv
          have hD5 : H5 D = some (.lst acc) := g5.keep _ _ hD4 nD4
          have nD5 : D ∉ μ5 := by
            obtain ⟨r, e, hr⟩ := g5.mu
            rw [e]
            intro hm
            rcases List.mem_append.mp hm with h | h
            · exact nD4 h
            · have := hr D h
              rw [hD4] at this; cases this
          obtain ⟨gU, srU⟩ := sr5.touch (p := D) (o := .lst (acc ++ [v])) nD5 hD5
          refine ⟨acc, hD5, SZ_lt (by omega), μ5, s5, ys0 ++ [y], acc ++ [v], yr', (gg.trans g5).touch hD, srU, upd_same, nD5, ?_, by simp; omega, hgo5, by rw [hys]; simp⟩
          exact gU (((racc4.grow sr4 g5).append_ (Reps.nil_.cons_ rv)))
        | false =>
          rw [if_neg (by decide)] at hgo3 ⊢
          exact ⟨μ4, s3, ys0, acc, yr, gg, sr4, hD4, nD4, racc4, by omega, hgo3, hys⟩
    · cases hgo2
  · refine .inl ?_
    have e : i = ws.length := by omega
    subst e
    rw [List.drop_length] at hgo2
    simp only [lcGo] at hgo2
    split at hgo2
    · rename_i hchk
      cases hgo2
      refine ⟨hit.stop H2 μ2 _ sr2 hchk hsrc2, ?_⟩
      have e2 : ys = ys0 := by simpa using hys
      subst e2
      refine p2 (.ref D) H2 (μ2 ++ [D]) ?_ (sr2.adopt nD ⟨acc, hD2, racc.more [D]⟩) ?_
      · obtain ⟨⟨r, e, hr⟩, h1, h2⟩ := g2
        refine ⟨⟨r ++ [D], by rw [e, List.append_assoc], fun a ha => ?_⟩, h1, h2⟩
        rcases List.mem_append.mp ha with h | h
        · exact hr a h
        · simp at h; subst h; exact hD
      · simp only [Rep]
        exact ⟨D, rfl, by rw [← sr2.len]; simp⟩
    · cases hgo2
end Mi

/-! Mi11: an expression of the text does what the small machine's does. -/
namespace Mi
open PySem L2
variable {G : Gs} {φ : Nat → List W → M W} {k : Nat} {C : CC} {X : Cx} {Wh : WX}

structure SndE (G : Gs) (φ : Nat → List W → M W) (X : Cx) (Wh : WX) (e : Expr) (E : Mi.E) : Prop where
  pe : PE X e (tM G Wh (den φ E))
  pt : PT X e (tMB G Wh fun ρ => bnd (den φ E ρ) tru)
  pi : ∀ tg, PI X tg e (tMI G Wh fun ρ => bnd (dens φ (srcOf E).2 ρ) (iter (srcOf E).1))

theorem pt_of (c : Ctx G φ k C X Wh) {e : Expr} {m : Env → M W} (h : PE X e (tM G Wh m)) (ht : ∀ whole, isTrue e X.env whole = (do let v ← whole; standAt e.pos; holding [v] (truthy v))) : PT X e (tMB G Wh fun ρ => bnd (m ρ) tru) := by
  refine ptImp (pt_truth h ht) fun σ H Q q => ?_
  obtain ⟨ρ, μ, st, er, sr, p⟩ := q
  refine (ahead er sr p).mono fun x H1 ⟨μ1, st1, w, er1, sr1, g1, rx, p1⟩ => ?_
  unfold tru at p1
  cases e : truW st1 w with
  | none => rw [e] at p1; exact p1.elim
  | some b =>
    rw [e] at p1
    exact ⟨b, c.K ▸ is_tru sr1 rx e, p1.okR sr1 rfl⟩
theorem mk (c : Ctx G φ k C X Wh) {e : Expr} {E : Mi.E} (h : PE X e (tM G Wh (den φ E))) (hi : isIt E = false) (ht : ∀ whole, isTrue e X.env whole = (do let v ← whole; standAt e.pos; holding [v] (truthy v))) : SndE G φ X Wh e E := by
  refine ⟨h, pt_of c h ht, fun tg => ?_⟩
  have : srcOf E = (.val, [E]) := by cases E <;> first | rfl | cases hi
  rw [this]
  exact snd_val c h
theorem mkPT (c : Ctx G φ k C X Wh) {e : Expr} {E : Mi.E} (h : PE X e (tM G Wh (den φ E))) (hi : isIt E = false) (ht : PT X e (tMB G Wh fun ρ => bnd (den φ E ρ) tru)) : SndE G φ X Wh e E := by
  refine ⟨h, ht, fun tg => ?_⟩
  have : srcOf E = (.val, [E]) := by cases E <;> first | rfl | cases hi
  rw [this]
  exact snd_val c h
theorem mkIt {e : Expr} {ik : Ik} {es : List Mi.E} (h : ∀ tg, PI X tg e (tMI G Wh fun ρ => bnd (dens φ es ρ) (iter ik))) : SndE G φ X Wh e (.it ik es) := by
  refine ⟨⟨fun _ _ _ _ _ _ q => ?_⟩, ⟨fun _ _ _ _ _ _ q => ?_⟩, h⟩
  · obtain ⟨ρ, μ, st, er, sr, p⟩ := q
    simp only [den] at p; exact p.elim
  · obtain ⟨ρ, μ, st, er, sr, p⟩ := q
    simp only [den] at p; exact p.elim

/-! ### operators -/
theorem bop_ok (c : Ctx G φ k C X Wh) {op : Operator} {o : Bop} (h : bopOf op = some o) : ∃ r, OpR X (binaryOp op) r ∧ OpIs G r (binop o) := by
  cases op <;> simp only [bopOf, reduceCtorEq, Option.some.injEq] at h <;> subst h
  · refine ⟨_, ?_, is_add⟩
    rw [c.K]
    exact op_add.or (op_add_str.or (op_catA.or op_cat))
  · exact ⟨_, op_sub, is_sub⟩
  · exact ⟨_, op_mulW.or op_rep, is_mul⟩
  · exact ⟨_, op_mod, is_mod⟩
  · exact ⟨_, op_pow, is_pow⟩
  · exact ⟨_, op_fdivW, is_fdiv⟩
theorem list_is (I : L2.Inv X pins σ H s) {a : Addr} {vs : List V} (h : SqL X.K H a vs) : ∃ its : List Value, its.length = vs.length ∧ s.heap.IsList a its.toArray := by
  obtain ⟨its, rv, ⟨o, n, ho, hc, _, hd⟩, _⟩ := I.list h
  exact ⟨its, (Paired.length rv).symm, o, ho, hc, n, hd⟩
theorem tup_is (I : L2.Inv X pins σ H s) {a : Addr} {vs : List V} (h : SqT X.K H a vs) : ∃ its : List Value, its.length = vs.length ∧ s.heap.IsTuple a its.toArray := by
  obtain ⟨its, rv, ⟨o, ho, hc, n, hd⟩, _⟩ := I.tuple h
  exact ⟨its, (Paired.length rv).symm, o, ho, hc, n, hd⟩
theorem op_emp (hu : X.A.units < cLine) : OpR X (compareOp .Eq) (rEmp X.K false) := by
  intro pins s σ H x y v u Q I rx ry h
  obtain ⟨p, q, xs, ys, rfl, rfl, h⟩ := h
  cases rx
  cases ry
  have fin : ∀ b : Bool, Q (.bl b) H → EP X pins σ Q (.bool b) s := fun b q => ⟨.bl b, H, I, rfl, q⟩
  rcases h with ⟨h1, h2, he, qq⟩ | ⟨h1, h2, ⟨hl, qq⟩ | ⟨rfl, rfl, qq⟩⟩
  · obtain ⟨i1, l1, t1⟩ := tup_is I h1
    obtain ⟨i2, l2, t2⟩ := tup_is I h2
    refine SeqAt.eq_tupleAt (e := fun _ => true) t1 t2 hu (fun j a b => ?_) ?_
    · rcases he with rfl | rfl
      · simp [l1] at a
      · simp [l2] at b
    · have e : ((List.range (min i1.toArray.size i2.toArray.size)).all (fun _ => true) && i1.toArray.size == i2.toArray.size) = ((xs.isEmpty && ys.isEmpty) != false) := by
        rcases he with rfl | rfl
        · cases ys <;> simp_all
        · cases xs <;> simp_all
      rw [e]; exact fin _ qq
  · obtain ⟨i1, l1, t1⟩ := list_is I h1
    obtain ⟨i2, l2, t2⟩ := list_is I h2
    exact SeqAt.eq_list_lengthsAt t1 t2 (by simp [l1, l2, hl]) hu (fin _ qq)
  · obtain ⟨i1, l1, t1⟩ := list_is I h1
    obtain ⟨i2, l2, t2⟩ := list_is I h2
    refine SeqAt.eq_listAt (e := fun _ => true) t1 t2 (by simp [l1, l2]) hu (fun j a b => ?_) ?_
    · simp [l1] at a
    · have e : (List.range i1.toArray.size).all (fun _ => true) = (true != false) := by simp
      rw [e]; exact fin _ qq
theorem op_empN (hu : X.A.units < cLine) : OpR X (compareOp .NotEq) (rEmp X.K true) := by
  intro pins s σ H x y v u Q I rx ry h
  obtain ⟨p, q, xs, ys, rfl, rfl, h⟩ := h
  cases rx
  cases ry
  have fin : ∀ b : Bool, Q (.bl b) H → EP X pins σ Q (.bool b) s := fun b q => ⟨.bl b, H, I, rfl, q⟩
  rcases h with ⟨h1, h2, he, qq⟩ | ⟨h1, h2, ⟨hl, qq⟩ | ⟨rfl, rfl, qq⟩⟩
  · obtain ⟨i1, l1, t1⟩ := tup_is I h1
    obtain ⟨i2, l2, t2⟩ := tup_is I h2
    refine SeqAt.RcNeAt.tuples (e := fun _ => true) t1 t2 hu (fun j a b => ?_) X.prog X.w X.xe _ ?_
    · rcases he with rfl | rfl
      · simp [l1] at a
      · simp [l2] at b
    · have e : (!((List.range (min i1.toArray.size i2.toArray.size)).all (fun _ => true) && i1.toArray.size == i2.toArray.size)) = ((xs.isEmpty && ys.isEmpty) != true) := by
        rcases he with rfl | rfl
        · cases ys <;> simp_all
        · cases xs <;> simp_all
      rw [e]; exact fin _ qq
  · obtain ⟨i1, l1, t1⟩ := list_is I h1
    obtain ⟨i2, l2, t2⟩ := list_is I h2
    exact SeqAt.RcNeAt.lists_lengths t1 t2 (by simp [l1, l2, hl]) hu X.prog X.w X.xe _ (fin _ qq)
  · obtain ⟨i1, l1, t1⟩ := list_is I h1
    obtain ⟨i2, l2, t2⟩ := list_is I h2
    refine SeqAt.RcNeAt.lists (e := fun _ => true) t1 t2 (by simp [l1, l2]) hu (fun j a b => ?_) X.prog X.w X.xe _ ?_
    · simp [l1] at a
    · have e : (!(List.range i1.toArray.size).all (fun _ => true)) = (true != true) := by simp
      rw [e]; exact fin _ qq
theorem op_notin_sign : OpR X (compareOp .NotIn) (rInSign true) := by
  intro pins s σ H x y v u Q I rx ry h
  obtain ⟨c, z, rfl, rfl, q⟩ := h
  exact op_notIn_sign pins s σ H _ _ v u Q I rx ry ⟨c, z, rfl, rfl, by simpa using q⟩
theorem op_isin_sign : OpR X (compareOp .In) (rInSign false) := by
  intro pins s σ H x y v u Q I rx ry h
  obtain ⟨c, z, rfl, rfl, q⟩ := h
  exact op_in_sign pins s σ H _ _ v u Q I rx ry ⟨c, z, rfl, rfl, by simpa using q⟩
theorem cop_ok (c : Ctx G φ k C X Wh) {op : CmpOp} {o : Cop} (h : copOf op = some o) : ∃ r, OpR X (compareOp op) r ∧ OpIs G r (cmpop o) := by
  have hu := c.room.units
  cases op <;> simp only [copOf, reduceCtorEq, Option.some.injEq] at h <;> subst h
  · refine ⟨_, ?_, is_eq⟩
    rw [c.K]; exact op_eq.or ((op_emp (by omega)).or (op_eqD hu))
  · refine ⟨_, ?_, is_ne⟩
    rw [c.K]; exact op_ne.or ((op_empN (by omega)).or (op_neD hu))
  · exact ⟨_, op_lt.or op_lt_str, is_lt⟩
  · exact ⟨_, op_le.or op_le_str, is_le⟩
  · exact ⟨_, op_gt, is_gt⟩
  · exact ⟨_, op_ge, is_ge⟩
  · exact ⟨_, op_isN, is_is⟩
  · exact ⟨_, op_notN, is_isnot⟩
  · refine ⟨_, ?_, is_in⟩
    rw [c.K]; exact op_isin_sign.or op_in_seq
  · refine ⟨_, ?_, is_notin⟩
    rw [c.K]; exact op_notin_sign.or op_notIn_seq
/-- a comparison answers with a truth -/
theorem cmp_bl (o : Cop) (a b : W) (st : Sto) : (∃ t, cmpop o a b st = .ok (.bl t) st) ∨ cmpop o a b st = .stuck := by
  unfold cmpop
  cases cmpB o a b st with
  | none => exact .inr rfl
  | some t => exact .inl ⟨t, rfl⟩

/-! ### the cases -/
theorem snd_tup {n : Nat} {es : List Expr} {Es : List Mi.E} {kk : Nat} {pos : Pos} (ha : PA X es (tML G Wh (dens φ Es))) : PE X (.Tuple es kk pos) (tM G Wh (den φ (.tup Es))) := by
  refine peImp (pe_tup ha) fun σ H Q q => ?_
  obtain ⟨ρ, μ, st, er, sr, p⟩ := q
  simp only [den] at p
  refine (aheadL er sr p).mono fun x H1 ⟨μ1, st1, w, er1, sr1, g1, rx, p1⟩ => ?_
  split at p1
  · rename_i h
    refine ⟨by rw [← rx.length]; exact SZ_le h, fun q hq => ?_⟩
    obtain ⟨g, s1, r1⟩ := Rep.tup_new sr1 hq rx
    exact p1 _ _ μ1 g s1 r1
  · exact p1.elim
theorem snd_lst {n : Nat} {es : List Expr} {Es : List Mi.E} {pos : Pos} (ha : PA X es (tML G Wh (dens φ Es))) : PE X (.List es pos) (tM G Wh (den φ (.lst Es))) := by
  refine peImp (pe_lst ha) fun σ H Q q => ?_
  obtain ⟨ρ, μ, st, er, sr, p⟩ := q
  simp only [den] at p
  refine (aheadL er sr p).mono fun x H1 ⟨μ1, st1, w, er1, sr1, g1, rx, p1⟩ => ?_
  split at p1
  · rename_i h
    refine ⟨by rw [← rx.length]; exact SZ_le h, fun q hq => ?_⟩
    obtain ⟨g, s1, r1⟩ := sr1.lay hq rx
    exact p1 _ _ _ g s1 r1
  · exact p1.elim
theorem snd_not (c : Ctx G φ k C X Wh) {a : Expr} {A : Mi.E} {pos : Pos} (h : SndE G φ X Wh a A) : SndE G φ X Wh (.UnaryOp .Not a pos) (.not A) := by
  refine mkPT c (peImp (pe_notT h.pe) fun σ H Q q => ?_) rfl (ptImp (pt_not h.pt) fun σ H Q q => ?_)
  · obtain ⟨ρ, μ, st, er, sr, p⟩ := q
    simp only [den] at p
    refine (ahead er sr p).mono fun x H1 ⟨μ1, st1, w, er1, sr1, g1, rx, p1⟩ => ?_
    unfold tru at p1
    cases e : truW st1 w with
    | none =>
      have p1 : Post G (fun c d => Wh c d σ) H1 μ1 (Res.bind (match truW st1 w with | some b => .ok b st1 | none => .stuck) _) Q := p1
      rw [e] at p1; exact p1.elim
    | some b =>
      have p1 : Post G (fun c d => Wh c d σ) H1 μ1 (Res.bind (match truW st1 w with | some b => .ok b st1 | none => .stuck) fun b => ret (.bl !b)) Q := p1
      rw [e] at p1
      exact ⟨b, c.K ▸ is_tru sr1 rx e, p1.okR sr1 Rep.bl_⟩
  · obtain ⟨ρ, μ, st, er, sr, p⟩ := q
    have e : (bnd (den φ (.not A) ρ) tru) st = (bnd (den φ A ρ) tru st).bind fun b => ret !b := by
      simp only [den]
      show ((den φ A ρ st).bind _).bind _ = ((den φ A ρ st).bind _).bind _
      rw [bind_assoc, bind_assoc]
      refine bind_congr _ fun w s => ?_
      show (((tru w) s).bind _).bind _ = _
      rw [bind_assoc]
      exact bind_congr _ fun b s => rfl
    have p : PostB G (fun c d => Wh c d σ) H μ ((bnd (den φ A ρ) tru st).bind fun b => ret !b) Q := e ▸ p
    exact (aheadB (m := fun ρ => bnd (den φ A ρ) tru) er sr p).mono fun b H1 ⟨μ1, st1, er1, sr1, g1, p1⟩ => p1.okR sr1 rfl
theorem snd_neg {a : Expr} {A : Mi.E} {pos : Pos} (h : PE X a (tM G Wh (den φ A))) : PE X (.UnaryOp .USub a pos) (tM G Wh (den φ (.neg A))) := by
  refine peImp (pe_un un_neg h) fun σ H Q q => ?_
  obtain ⟨ρ, μ, st, er, sr, p⟩ := q
  simp only [den] at p
  refine (ahead er sr p).mono fun x H1 ⟨μ1, st1, w, er1, sr1, g1, rx, p1⟩ => ?_
  cases w <;> first | exact p1.elim | skip
  exact ⟨_, rx.int_inv, p1.okR sr1 Rep.int_⟩
/-- an answer that is a truth, as a test -/
theorem bool_post {r : Res W} {Xx : Value → Option Addr → Hp → Prop} {H : Hp} {μ : List Addr} {Q : Bool → Hp → Prop} (hb : ∀ w s', r = .ok w s' → ∃ t, w = .bl t) (p : PostB G Xx H μ (r.bind tru) Q) : Post G Xx H μ r fun x H' => ∃ k, x = .bl k ∧ Q k H' := by
  cases r with
  | stuck => exact p
  | exc x s1 => exact p
  | ok w s1 =>
    obtain ⟨t, rfl⟩ := hb w s1 rfl
    exact fun v H' μ' g s r => ⟨t, r.bl_inv, p _ H' μ' g s rfl⟩
theorem cmp_isbl {o : Cop} {a b w : W} {s s' : Sto} (h : cmpop o a b s = .ok w s') : ∃ t, w = .bl t := by
  rcases cmp_bl o a b s with ⟨t, e⟩ | e
  · rw [e] at h; cases h; exact ⟨t, rfl⟩
  · rw [e] at h; cases h
theorem snd_cmp (c : Ctx G φ k C X Wh) {a b : Expr} {A B : Mi.E} {op : CmpOp} {o : Cop} {pos : Pos} (ho : copOf op = some o) (hm : behindInMarks op b = false) (ha : SndE G φ X Wh a A) (hb : SndE G φ X Wh b B) : SndE G φ X Wh (.Compare a [op] [b] pos) (.cmp o A B) := by
  obtain ⟨r, h1, h2⟩ := cop_ok c ho
  refine mkPT c (peImp (pe_cmpR h1 ha.pe hb.pe hm) fun σ H Q q => ?_) rfl (ptImp (pt_cmpR h1 ha.pe hb.pe hm) fun σ H Q q => ?_)
  · exact snd_op h2 (by simpa only [den] using q)
  · obtain ⟨ρ, μ, st, er, sr, p⟩ := q
    refine snd_op h2 (Wh := Wh) ⟨ρ, μ, st, er, sr, ?_⟩
    refine bool_post (fun w s' e => ?_) (by simpa only [den] using p)
    obtain ⟨x, s2, _, q2⟩ := bind_ok_inv e
    obtain ⟨y, s3, _, q3⟩ := bind_ok_inv q2
    exact cmp_isbl q3
theorem snd_cmp2 (c : Ctx G φ k C X Wh) {a b d : Expr} {A B D : Mi.E} {op op' : CmpOp} {o o' : Cop} {pos : Pos} (ho : copOf op = some o) (ho' : copOf op' = some o') (hm : behindInMarks op' d = false) (ha : SndE G φ X Wh a A) (hb : SndE G φ X Wh b B) (hd : SndE G φ X Wh d D) :
    SndE G φ X Wh (.Compare a [op, op'] [b, d] pos) (.cmp2 o o' A B D) := by
  obtain ⟨r, h1, h2⟩ := cop_ok c ho
  obtain ⟨r', h1', h2'⟩ := cop_ok c ho'
  have hl : lastMarks [op, op'] [b, d] = false := hm
  have core : ∀ {σ : L2.St} {H : Hp} {Q : VK}, tM G Wh (den φ (.cmp2 o o' A B D)) σ H Q → tChain r r' (tM G Wh (den φ A)) (tM G Wh (den φ B)) (tM G Wh (den φ D)) σ H Q := by
    intro σ H Q q
    obtain ⟨ρ, μ, st, er, sr, p⟩ := q
    simp only [den] at p
    refine (ahead er sr p).mono fun x H1 ⟨μ1, st1, w, er1, sr1, g1, rx, p1⟩ => ?_
    refine (ahead er1 sr1 p1).mono fun y H2 ⟨μ2, st2, u, er2, sr2, g2, ry, p2⟩ => ?_
    have rx2 := rx.grow sr1 g2
    refine h2 H2 μ2 st2 x y w u (fun c d => Wh c d σ) _ sr2 rx2 ry ?_
    rcases cmp_bl o w u st2 with ⟨t, q4⟩ | q4
    · have p2 : Post G (fun c d => Wh c d σ) H2 μ2 (Res.bind (cmpop o w u st2) _) Q := p2
      rw [q4] at p2 ⊢
      intro v H3 μ3 g3 sr3 rv
      refine ⟨t, rv.bl_inv, ?_⟩
      cases t with
      | true =>
        rw [if_pos rfl]
        have p3 := PostR.shift g3 p2
        refine (ahead (er2.grow sr2 g3) sr3 p3).mono fun z H4 ⟨μ4, st4, t, er4, sr4, g4, rz, p4⟩ => ?_
        exact h2' H4 μ4 st4 y z u t _ Q sr4 ((ry.grow sr2 g3).grow sr3 g4) rz p4
      | false =>
        rw [if_neg (by decide)]
        have p3 := PostR.shift g3 p2
        exact p3.okR sr3 Rep.bl_
    · have p2 : Post G (fun c d => Wh c d σ) H2 μ2 (Res.bind (cmpop o w u st2) _) Q := p2
      rw [q4] at p2
      exact p2.elim
  refine mkPT c (peImp (pe_chain h1 h1' ha.pe hb.pe hd.pe hl) fun σ H Q q => core q) rfl (ptImp (pt_chain h1 h1' ha.pe hb.pe hd.pe hl) fun σ H Q q => core ?_)
  obtain ⟨ρ, μ, st, er, sr, p⟩ := q
  refine ⟨ρ, μ, st, er, sr, bool_post (fun w s' e => ?_) p⟩
  simp only [den] at e
  obtain ⟨x, s2, _, q2⟩ := bind_ok_inv e
  obtain ⟨y, s3, _, q3⟩ := bind_ok_inv q2
  obtain ⟨z, s4, _, q4⟩ := bind_ok_inv q3
  split at q4
  · obtain ⟨u, s5, _, q5⟩ := bind_ok_inv q4
    exact cmp_isbl q5
  · cases q4; exact ⟨_, rfl⟩
  · cases q4

theorem denAnd_cons (ρ : Env) (e f : Mi.E) (es : List Mi.E) : denAnd φ (e :: f :: es) ρ = bnd (den φ e ρ) fun x => bnd (tru x) fun t => if t then denAnd φ (f :: es) ρ else ret x := by simp only [denAnd]
theorem denOr_cons (ρ : Env) (e f : Mi.E) (es : List Mi.E) : denOr φ (e :: f :: es) ρ = bnd (den φ e ρ) fun x => bnd (tru x) fun t => if t then ret x else denOr φ (f :: es) ρ := by simp only [denOr]
/-- the truth of a value, and how it is known -/
theorem tru_post {γ δ : Type} {R : Hp → List Addr → γ → δ → Prop} {Xx : Value → Option Addr → Hp → Prop} {H : Hp} {μ : List Addr} {st : Sto} {w : W} {f : Bool → M γ} {Q : δ → Hp → Prop} (p : PostR G R Xx H μ (bnd (tru w) f st) Q) : ∃ b, truW st w = some b ∧ PostR G R Xx H μ (f b st) Q := by
  have p : PostR G R Xx H μ (Res.bind (match truW st w with | some b => .ok b st | none => .stuck) f) Q := p
  cases e : truW st w with
  | none => rw [e] at p; exact p.elim
  | some b => rw [e] at p; exact ⟨b, rfl, p⟩
theorem tru_of {s : Sto} {w : W} {b : Bool} (e : truW s w = some b) : tru w s = .ok b s := by unfold tru; rw [e]
/-- and, as a value and as a test -/
theorem snd_ands (c : Ctx G φ k C X Wh) {n : Nat} (ih : ∀ e E, comp n C e = some E → SndE G φ X Wh e E) {pos : Pos} : ∀ {es : List Expr} {Es : List Mi.E}, es.mapM (comp n C) = some Es →
    (es ≠ [] → PE X (.BoolOp .And es pos) (tM G Wh fun ρ => denAnd φ Es ρ) ∧ PW X (.BoolOp .And es pos) (tMB G Wh fun ρ => bnd (denAnd φ Es ρ) tru))
  | [], _, _ => fun h => absurd rfl h
  | [e], Es, h => fun _ => by
    rw [List.mapM_cons] at h
    simp only [Option.pure_def, Option.bind_eq_bind, Option.bind_eq_some_iff, Option.some.injEq, List.mapM_nil] at h
    obtain ⟨E, h1, _, rfl, rfl⟩ := h
    have s := ih e E h1
    exact ⟨by simpa only [denAnd] using pe_one s.pe, by simpa only [denAnd] using pw_and1 s.pt⟩
  | e :: f :: es, Es, h => fun _ => by
    rw [List.mapM_cons] at h
    simp only [Option.pure_def, Option.bind_eq_bind, Option.bind_eq_some_iff, Option.some.injEq] at h
    obtain ⟨E, h1, Es', h2, rfl⟩ := h
    have s := ih e E h1
    obtain ⟨i1, i2⟩ := snd_ands c ih (pos := pos) h2 (by simp)
    have hne : ∃ F Fs, Es' = F :: Fs := by
      rw [List.mapM_cons] at h2
      simp only [Option.pure_def, Option.bind_eq_bind, Option.bind_eq_some_iff, Option.some.injEq] at h2
      obtain ⟨F, _, Fs, _, e⟩ := h2
      exact ⟨F, Fs, e.symm⟩
    obtain ⟨F, Fs, rfl⟩ := hne
    refine ⟨peImp (pe_andT s.pe i1) fun σ H Q q => ?_, pwImp (pw_and s.pt i2) fun σ H Q q => ?_⟩
    · obtain ⟨ρ, μ, st, er, sr, p⟩ := q
      simp only [denAnd_cons] at p
      refine (ahead er sr p).mono fun x H1 ⟨μ1, st1, w, er1, sr1, g1, rx, p1⟩ => ?_
      obtain ⟨b, eb, p2⟩ := tru_post p1
      refine ⟨b, c.K ▸ is_tru sr1 rx eb, ?_⟩
      cases b with
      | true => rw [if_pos rfl] at p2 ⊢; exact ⟨ρ, μ1, st1, er1, sr1, p2⟩
      | false => rw [if_neg (by decide)] at p2 ⊢; exact p2.okR sr1 rx
    · obtain ⟨ρ, μ, st, er, sr, p⟩ := q
      simp only [denAnd_cons] at p
      have e : ∀ s, (bnd (bnd (den φ E ρ) fun x => bnd (tru x) fun t => if t then denAnd φ (F :: Fs) ρ else ret x) tru) s = ((bnd (den φ E ρ) tru) s).bind fun t => if t then bnd (denAnd φ (F :: Fs) ρ) tru else ret false := by
        intro s
        show ((den φ E ρ s).bind _).bind _ = ((den φ E ρ s).bind _).bind _
        rw [bind_assoc, bind_assoc]
        refine bind_congr _ fun w s1 => ?_
        show ((tru w s1).bind _).bind _ = (tru w s1).bind _
        cases et : truW s1 w with
        | none => unfold tru; rw [et]; rfl
        | some b =>
          rw [tru_of et]
          cases b with
          | true => rfl
          | false => exact tru_of et
      have p : PostB G (fun c d => Wh c d σ) H μ (((bnd (den φ E ρ) tru) st).bind fun t => if t then bnd (denAnd φ (F :: Fs) ρ) tru else ret false) Q := by rw [← e]; exact p
      refine (aheadB (m := fun ρ => bnd (den φ E ρ) tru) er sr p).mono fun b H1 ⟨μ1, st1, er1, sr1, g1, p1⟩ => ?_
      cases b with
      | true => rw [if_pos rfl] at p1 ⊢; exact ⟨ρ, μ1, st1, er1, sr1, p1⟩
      | false => rw [if_neg (by decide)] at p1 ⊢; exact p1.okR sr1 rfl
/-- or -/
theorem snd_ors (c : Ctx G φ k C X Wh) {n : Nat} (ih : ∀ e E, comp n C e = some E → SndE G φ X Wh e E) {pos : Pos} : ∀ {es : List Expr} {Es : List Mi.E}, es.mapM (comp n C) = some Es →
    (es ≠ [] → PE X (.BoolOp .Or es pos) (tM G Wh fun ρ => denOr φ Es ρ) ∧ PW X (.BoolOp .Or es pos) (tMB G Wh fun ρ => bnd (denOr φ Es ρ) tru))
  | [], _, _ => fun h => absurd rfl h
  | [e], Es, h => fun _ => by
    rw [List.mapM_cons] at h
    simp only [Option.pure_def, Option.bind_eq_bind, Option.bind_eq_some_iff, Option.some.injEq, List.mapM_nil] at h
    obtain ⟨E, h1, _, rfl, rfl⟩ := h
    have s := ih e E h1
    exact ⟨by simpa only [denOr] using pe_one s.pe, by simpa only [denOr] using pw_or1 s.pt⟩
  | e :: f :: es, Es, h => fun _ => by
    rw [List.mapM_cons] at h
    simp only [Option.pure_def, Option.bind_eq_bind, Option.bind_eq_some_iff, Option.some.injEq] at h
    obtain ⟨E, h1, Es', h2, rfl⟩ := h
    have s := ih e E h1
    obtain ⟨i1, i2⟩ := snd_ors c ih (pos := pos) h2 (by simp)
    have hne : ∃ F Fs, Es' = F :: Fs := by
      rw [List.mapM_cons] at h2
      simp only [Option.pure_def, Option.bind_eq_bind, Option.bind_eq_some_iff, Option.some.injEq] at h2
      obtain ⟨F, _, Fs, _, e⟩ := h2
      exact ⟨F, Fs, e.symm⟩
    obtain ⟨F, Fs, rfl⟩ := hne
    refine ⟨peImp (pe_orT s.pe i1) fun σ H Q q => ?_, pwImp (pw_or s.pt i2) fun σ H Q q => ?_⟩
    · obtain ⟨ρ, μ, st, er, sr, p⟩ := q
      simp only [denOr_cons] at p
      refine (ahead er sr p).mono fun x H1 ⟨μ1, st1, w, er1, sr1, g1, rx, p1⟩ => ?_
      obtain ⟨b, eb, p2⟩ := tru_post p1
      refine ⟨b, c.K ▸ is_tru sr1 rx eb, ?_⟩
      cases b with
      | true => rw [if_pos rfl] at p2 ⊢; exact p2.okR sr1 rx
      | false => rw [if_neg (by decide)] at p2 ⊢; exact ⟨ρ, μ1, st1, er1, sr1, p2⟩
    · obtain ⟨ρ, μ, st, er, sr, p⟩ := q
      simp only [denOr_cons] at p
      have e : ∀ s, (bnd (bnd (den φ E ρ) fun x => bnd (tru x) fun t => if t then ret x else denOr φ (F :: Fs) ρ) tru) s = ((bnd (den φ E ρ) tru) s).bind fun t => if t then ret true else bnd (denOr φ (F :: Fs) ρ) tru := by
        intro s
        show ((den φ E ρ s).bind _).bind _ = ((den φ E ρ s).bind _).bind _
        rw [bind_assoc, bind_assoc]
        refine bind_congr _ fun w s1 => ?_
        show ((tru w s1).bind _).bind _ = (tru w s1).bind _
        cases et : truW s1 w with
        | none => unfold tru; rw [et]; rfl
        | some b =>
          rw [tru_of et]
          cases b with
          | false => rfl
          | true => exact tru_of et
      have p : PostB G (fun c d => Wh c d σ) H μ (((bnd (den φ E ρ) tru) st).bind fun t => if t then ret true else bnd (denOr φ (F :: Fs) ρ) tru) Q := by rw [← e]; exact p
      refine (aheadB (m := fun ρ => bnd (den φ E ρ) tru) er sr p).mono fun b H1 ⟨μ1, st1, er1, sr1, g1, p1⟩ => ?_
      cases b with
      | true => rw [if_pos rfl] at p1 ⊢; exact p1.okR sr1 rfl
      | false => rw [if_neg (by decide)] at p1 ⊢; exact ⟨ρ, μ1, st1, er1, sr1, p1⟩
end Mi

/-! Mi12: the rest of the expressions; the theorem about all of them. -/
namespace Mi
open PySem L2
variable {G : Gs} {φ : Nat → List W → M W} {k : Nat} {C : CC} {X : Cx} {Wh : WX}

theorem snd_ite (c : Ctx G φ k C X Wh) {d a b : Expr} {D A B : Mi.E} {pos : Pos} (hd : SndE G φ X Wh d D) (ha : SndE G φ X Wh a A) (hb : SndE G φ X Wh b B) : SndE G φ X Wh (.IfExp d a b pos) (.ite D A B) := by
  have assoc : ∀ ρ st, (bnd (den φ (.ite D A B) ρ) tru) st = ((bnd (den φ D ρ) tru) st).bind fun t => if t then bnd (den φ A ρ) tru else bnd (den φ B ρ) tru := by
    intro ρ st
    simp only [den]
    show ((den φ D ρ st).bind _).bind _ = ((den φ D ρ st).bind _).bind _
    rw [bind_assoc, bind_assoc]
    refine bind_congr _ fun w s1 => ?_
    show ((tru w s1).bind _).bind _ = (tru w s1).bind _
    rw [bind_assoc]
    refine bind_congr _ fun b s2 => ?_
    cases b <;> rfl
  refine mkPT c (peImp (pe_ifExp hd.pt ha.pe hb.pe) fun σ H Q q => ?_) rfl ⟨fun pins s σ H Q I q => ?_⟩
  · obtain ⟨ρ, μ, st, er, sr, p⟩ := q
    have e : den φ (.ite D A B) ρ st = ((bnd (den φ D ρ) tru) st).bind fun t => if t then den φ A ρ else den φ B ρ := by
      simp only [den]
      show (den φ D ρ st).bind _ = ((den φ D ρ st).bind _).bind _
      rw [bind_assoc]
    rw [e] at p
    refine (aheadB (m := fun ρ => bnd (den φ D ρ) tru) er sr p).mono fun t H1 ⟨μ1, st1, er1, sr1, g1, p1⟩ => ?_
    cases t with
    | true => rw [if_pos rfl] at p1 ⊢; exact ⟨ρ, μ1, st1, er1, sr1, p1⟩
    | false => rw [if_neg (by decide)] at p1 ⊢; exact ⟨ρ, μ1, st1, er1, sr1, p1⟩
  · obtain ⟨ρ, μ, st, er, sr, p⟩ := q
    have p : PostB G (fun c d => Wh c d σ) H μ (((bnd (den φ D ρ) tru) st).bind fun t => if t then bnd (den φ A ρ) tru else bnd (den φ B ρ) tru) Q := by rw [← assoc]; exact p
    show wpAny _ _ (do if ← isTrue d X.env (eval d X.env) then isTrue a X.env (eval a X.env) else isTrue b X.env (eval b X.env)) _ _ s
    refine wpAny_bind (thn (hd.pt.run pins s σ H _ I (aheadB (m := fun ρ => bnd (den φ D ρ) tru) er sr p)) fun t s1 ⟨H1, I1, μ1, st1, er1, sr1, g1, p1⟩ => ?_)
    cases t with
    | true =>
      rw [if_pos rfl] at p1 ⊢
      exact ha.pt.run pins s1 σ H1 Q I1 ⟨ρ, μ1, st1, er1, sr1, p1⟩
    | false =>
      rw [if_neg (by decide)] at p1 ⊢
      exact hb.pt.run pins s1 σ H1 Q I1 ⟨ρ, μ1, st1, er1, sr1, p1⟩
theorem peOr {e : Expr} {t t' : TE} (h : PE X e t) (h' : PE X e t') : PE X e (fun σ H Q => t σ H Q ∨ t' σ H Q) := ⟨fun p s σ H Q I q => by
  rcases q with q | q
  · exact h.run p s σ H Q I q
  · exact h'.run p s σ H Q I q⟩
/-- two rules of one subscript, by what the values are -/
theorem IxR.or {r r' : R2} (h : IxR X r) (h' : IxR X r') : IxR X (rOr r r') := fun value slice pins s σ H x y v u Q I rx ry q hs => by
  rcases q with q | q
  · exact h value slice pins s σ H x y v u Q I rx ry q hs
  · exact h' value slice pins s σ H x y v u Q I rx ry q hs
open PySem.Spec PyProof.Rows in
theorem ix_str : IxR X rIxS := by
  intro value slice pins s σ H x y v u Q I rx ry h hs
  obtain ⟨z, i, c, rfl, rfl, h0, h63, h1, hc, q⟩ := h
  obtain ⟨t, rfl⟩ := rx
  obtain ⟨t', rfl⟩ := ry
  have e : seqIndex? i z.length = some i.toNat := PySem.StrLaws.seqIndex_nonneg h0 h1
  refine PyProof.Rows.tail_any (typeIs_str s z t) slot_str_getitem.lookup (getItem_str (c := c) ?_ (by rw [e]; exact hc) ⟨.str ⟨#[c]⟩, H, I.tok _, ⟨_, rfl⟩, q⟩) hs
  have e1 : decide (i < -(2 ^ 63 : Int)) = false := decide_eq_false (by omega)
  have e2 : decide (i ≥ 2 ^ 63) = false := decide_eq_false (by omega)
  rw [e1, e2] <;> rfl
theorem snd_idx (c : Ctx G φ k C X Wh) {a b : Expr} {A B : Mi.E} {pos : Pos} (hp : PlainIx b) (ha : PE X a (tM G Wh (den φ A))) (hb : PE X b (tM G Wh (den φ B))) : PE X (.Subscript a b pos) (tM G Wh (den φ (.idx A B))) := by
  have hr : IxR X (rOr rIxS (rOr (rIxT G.K) (rIxL G.K))) := by
    rw [c.K]; exact IxR.or ix_str (IxR.or ix_tup ix_list)
  refine peImp (pe_ix hr ha hb hp) fun σ H Q q => snd_op is_idx (by simpa only [den] using q)
theorem SlR.or {r r' : SlT} (h : L2.SlR X r) (h' : L2.SlR X r') : L2.SlR X (fun x lo hi H Q => r x lo hi H Q ∨ r' x lo hi H Q) := fun pins s σ H x v vl vu lo hi sl Q I rx hs p1 p2 q => by
  rcases q with q | q
  · exact h pins s σ H x v vl vu lo hi sl Q I rx hs p1 p2 q
  · exact h' pins s σ H x v vl vu lo hi sl Q I rx hs p1 p2 q
/-- a slice's part -/
abbrev RO : Hp → List Addr → Option Int → Option Int → Prop := fun _ _ a b => a = b
def tMO (G : Gs) (Wh : WX) (m : Env → M (Option Int)) : L2.St → Hp → (Option Int → Hp → Prop) → Prop := fun σ H Q => ∃ ρ μ st, EnvR G H μ ρ σ ∧ SR G H μ st ∧ PostR G RO (fun c d => Wh c d σ) H μ (m ρ st) Q
theorem snd_part0 : PO X none (tMO G Wh fun ρ => denPart φ [] ρ) := ⟨fun pins s σ H Q I q => by
  obtain ⟨ρ, μ, st, er, sr, p⟩ := q
  simp only [denPart] at p
  exact po_none.run pins s σ H Q I (p.okR sr rfl)⟩
theorem snd_part1 {e : Expr} {E : Mi.E} (h : PE X e (tM G Wh (den φ E))) : PO X (some e) (tMO G Wh fun ρ => denPart φ [E] ρ) := ⟨fun pins s σ H Q I q => by
  refine (po_some h).run pins s σ H Q I ?_
  obtain ⟨ρ, μ, st, er, sr, p⟩ := q
  simp only [denPart] at p
  refine (ahead er sr p).mono fun x H1 ⟨μ1, st1, w, er1, sr1, g1, rx, p1⟩ => ?_
  cases w <;> first | exact p1.elim | skip
  exact ⟨_, rx.int_inv, p1.okR sr1 rfl⟩⟩
theorem aheadO {H : Hp} {μ : List Addr} {st : Sto} {ρ : Env} {σ : L2.St} {γ δ : Type} {R : Hp → List Addr → γ → δ → Prop} {m : Env → M (Option Int)} {f : Option Int → M γ} {Q : δ → Hp → Prop} (er : EnvR G H μ ρ σ) (sr : SR G H μ st)
    (h : PostR G R (fun c d => Wh c d σ) H μ ((m ρ st).bind f) Q) {Q' : Option Int → Hp → Prop} (hq : ∀ o H1 μ1 st1, EnvR G H1 μ1 ρ σ → SR G H1 μ1 st1 → Grow H H1 μ μ1 → PostR G R (fun c d => Wh c d σ) H1 μ1 (f o st1) Q → Q' o H1) : tMO G Wh m σ H Q' :=
  ⟨ρ, μ, st, er, sr, (PostR.bind (R1 := RO) h).mono (fun _ _ ⟨μ1, st1, a, g, s1, r1, p⟩ => by cases r1; exact hq _ _ μ1 st1 (er.grow sr g) s1 g p) fun _ _ _ z => z⟩
theorem snd_slc (c : Ctx G φ k C X Wh) {a : Expr} {lo hi : Option Expr} {A : Mi.E} {Lo Hi : List Mi.E} {pos p2 : Pos} (ha : PE X a (tM G Wh (den φ A))) (hl : PO X lo (tMO G Wh fun ρ => denPart φ Lo ρ)) (hh : PO X hi (tMO G Wh fun ρ => denPart φ Hi ρ)) :
    PE X (.Subscript a (.Slice lo hi none p2) pos) (tM G Wh (den φ (.slc A Lo Hi))) := by
  have hr : L2.SlR X (fun x lo hi H Q => rSlS x lo hi H Q ∨ rSlA G.K x lo hi H Q ∨ rSlL G.K x lo hi H Q) := by
    rw [c.K]; exact SlR.or sl_str (SlR.or sl_tupA sl_list)
  refine peImp (pe_slice hr ha hl hh) fun σ H Q q => ?_
  obtain ⟨ρ, μ, st, er, sr, p⟩ := q
  simp only [den] at p
  refine (ahead er sr p).mono fun x H1 ⟨μ1, st1, w, er1, sr1, g1, rx, p1⟩ => ?_
  refine aheadO (m := fun ρ => denPart φ Lo ρ) er1 sr1 p1 fun l H2 μ2 st2 er2 sr2 g2 p2 => ?_
  refine aheadO (m := fun ρ => denPart φ Hi ρ) er2 sr2 p2 fun h H3 μ3 st3 er3 sr3 g3 p3 => ?_
  exact is_slc sr3 ((rx.grow sr1 g2).grow sr2 g3) p3

/-! ### built-in functions -/
def idOf : Blt → String
  | .len => "len" | .abs => "abs" | .max => "max" | .min => "min" | .divmod => "divmod" | .all => "all" | .any => "any" | .repr => "repr"
  | .tuple => "tuple" | .list => "list" | .str => "str" | .int => "int"
theorem blt_tab {x : Str} {b : Blt} (h : bltOf x = some b) : bootBuiltins x = some (.builtin (idOf b)) ∧ (b, idOf b) ∈ [(Blt.len, "len"), (.abs, "abs"), (.max, "max"), (.min, "min"), (.divmod, "divmod"), (.all, "all"), (.any, "any"), (.repr, "repr")] := by
  unfold bltOf at h
  split at h
  · rename_i e; subst e; cases h; exact ⟨by decide +kernel, by simp [idOf]⟩
  split at h
  · rename_i e; subst e; cases h; exact ⟨by decide +kernel, by simp [idOf]⟩
  split at h
  · rename_i e; subst e; cases h; exact ⟨by decide +kernel, by simp [idOf]⟩
  split at h
  · rename_i e; subst e; cases h; exact ⟨by decide +kernel, by simp [idOf]⟩
  split at h
  · rename_i e; subst e; cases h; exact ⟨by decide +kernel, by simp [idOf]⟩
  split at h
  · rename_i e; subst e; cases h; exact ⟨by decide +kernel, by simp [idOf]⟩
  split at h
  · rename_i e; subst e; cases h; exact ⟨by decide +kernel, by simp [idOf]⟩
  split at h
  · rename_i e; subst e; cases h; exact ⟨by decide +kernel, by simp [idOf]⟩
  · cases h
theorem blt_tabT {x : Str} {b : Blt} (h : bltTy x = some b) : bootBuiltins x = some (.type (idOf b)) ∧ (b, idOf b) ∈ [(Blt.tuple, "tuple"), (.list, "list"), (.str, "str"), (.int, "int")] := by
  unfold bltTy at h
  split at h
  · rename_i e; subst e; cases h; exact ⟨by decide +kernel, by simp [idOf]⟩
  split at h
  · rename_i e; subst e; cases h; exact ⟨by decide +kernel, by simp [idOf]⟩
  split at h
  · rename_i e; subst e; cases h; exact ⟨by decide +kernel, by simp [idOf]⟩
  split at h
  · rename_i e; subst e; cases h; exact ⟨by decide +kernel, by simp [idOf]⟩
  · cases h
theorem blt_ok (c : Ctx G φ k C X Wh) {b : Blt} {id : String} (h : (b, id) ∈ [(Blt.len, "len"), (.abs, "abs"), (.max, "max"), (.min, "min"), (.divmod, "divmod"), (.all, "all"), (.any, "any"), (.repr, "repr")]) : ∃ r, CallR X (.builtin id) r ∧ CallIs G r (blt b) := by
  simp only [List.mem_cons, Prod.mk.injEq, List.mem_nil_iff, or_false] at h
  rcases h with ⟨rfl, rfl⟩ | ⟨rfl, rfl⟩ | ⟨rfl, rfl⟩ | ⟨rfl, rfl⟩ | ⟨rfl, rfl⟩ | ⟨rfl, rfl⟩ | ⟨rfl, rfl⟩ | ⟨rfl, rfl⟩
  · refine ⟨_, ?_, is_len⟩
    rw [c.K]; exact call_len.or call_lenD
  · exact ⟨_, call_abs, is_abs⟩
  · exact ⟨_, call_max2 c.calm, is_max⟩
  · exact ⟨_, call_min2 c.calm, is_min⟩
  · exact ⟨_, call_divmodW, is_divmod⟩
  · refine ⟨_, ?_, is_all⟩
    rw [c.K]; exact cr_all c.calm
  · refine ⟨_, ?_, is_any⟩
    rw [c.K]; exact cr_any c.calm
  · exact ⟨_, call_reprD c.K c.sysm c.guards c.room.units, is_repr⟩
theorem blt_okT (c : Ctx G φ k C X Wh) {b : Blt} {id : String} (h : (b, id) ∈ [(Blt.tuple, "tuple"), (.list, "list"), (.str, "str"), (.int, "int")]) : ∃ r, CallR X (.type id) r ∧ CallIs G r (blt b) := by
  simp only [List.mem_cons, Prod.mk.injEq, List.mem_nil_iff, or_false] at h
  rcases h with ⟨rfl, rfl⟩ | ⟨rfl, rfl⟩ | ⟨rfl, rfl⟩ | ⟨rfl, rfl⟩
  · refine ⟨_, ?_, is_tuple⟩
    rw [c.K]; exact call_tuple_of
  · refine ⟨_, ?_, is_list⟩
    rw [c.K]; exact call_list_of
  · exact ⟨_, call_str_int, is_str⟩
  · exact ⟨_, call_int_str, is_int⟩
theorem snd_callB {r : List V → Hp → VK → Prop} {f : List W → M W} {es : List Mi.E} {σ : L2.St} {H : Hp} {Q : VK} (hc : CallIs G r f) (q : tM G Wh (fun ρ => bnd (dens φ es ρ) fun ws => f ws) σ H Q) : tCB r (tML G Wh (dens φ es)) σ H Q := by
  obtain ⟨ρ, μ, st, er, sr, p⟩ := q
  exact (aheadL er sr p).mono fun x H1 ⟨μ1, st1, w, er1, sr1, g1, rx, p1⟩ => hc H1 μ1 st1 x w _ Q sr1 rx p1
theorem snd_blt (c : Ctx G φ k C X Wh) {x : Str} {b : Blt} {e : Expr} {es : List Expr} {Es : List Mi.E} {p pos : Pos} (hx : C.glb x = some .blt) (hb : (match bltOf x with | some b => some b | none => bltTy x) = some b) (hn : ∀ e' ∈ e :: es, noStar e' = true) (ha : PA X (e :: es) (tML G Wh (dens φ Es))) :
    PE X (.Call (.Name x p) (e :: es) [] pos) (tM G Wh (den φ (.blt b Es))) := by
  obtain ⟨gl, ok, hm⟩ := glb_of c hx
  obtain ⟨ok1, ok2, ok3⟩ := okName_of ok
  have hs := star_cons es X.env (hn e List.mem_cons_self)
  have hp := star_plain X.env pos (es := es) fun e' h => hn e' (List.mem_cons_of_mem _ h)
  split at hb
  · rename_i b' e'
    cases hb
    obtain ⟨h1, h2⟩ := blt_tab e'
    obtain ⟨r, h3, h4⟩ := blt_ok c h2
    exact peImp (pe_callB h3 gl hm h1 ha ok3 ok1 hs hp) fun σ H Q q => snd_callB h4 (by simpa only [den] using q)
  · obtain ⟨h1, h2⟩ := blt_tabT hb
    obtain ⟨r, h3, h4⟩ := blt_okT c h2
    exact peImp (pe_callTy h3 gl hm h1 ha ok3 ok1 hs hp) fun σ H Q q => snd_callB h4 (by simpa only [den] using q)
def tyId : Ty → String
  | .int => "int" | .bool => "bool" | .str => "str" | .tuple => "tuple" | .list => "list" | .dict => "dict" | .own _ => ""
theorem ty_tab {x : Str} {t : Ty} (h : tyOf x = some t) : bootBuiltins x = some (.type (tyId t)) ∧ tyV' t = some (tyId t) := by
  unfold tyOf at h
  split at h
  · rename_i e; subst e; cases h; exact ⟨by decide +kernel, rfl⟩
  split at h
  · rename_i e; subst e; cases h; exact ⟨by decide +kernel, rfl⟩
  split at h
  · rename_i e; subst e; cases h; exact ⟨by decide +kernel, rfl⟩
  split at h
  · rename_i e; subst e; cases h; exact ⟨by decide +kernel, rfl⟩
  split at h
  · rename_i e; subst e; cases h; exact ⟨by decide +kernel, rfl⟩
  split at h
  · rename_i e; subst e; cases h; exact ⟨by decide +kernel, rfl⟩
  · cases h
theorem snd_isi (c : Ctx G φ k C X Wh) {a : Expr} {A : Mi.E} {x : Str} {ty : Ty} {p p2 pos : Pos} (hf : C.glb "isinstance" = some .blt) (ht : tyOf x = some ty) (hx : C.isBlt x = true) (hn : noStar a = true) (ha : PE X a (tM G Wh (den φ A))) :
    PE X (.Call (.Name "isinstance" p) [a, .Name x p2] [] pos) (tM G Wh (den φ (.isi A [ty]))) := by
  obtain ⟨gl, ok, hm⟩ := glb_of c hf
  obtain ⟨ok1, ok2, ok3⟩ := okName_of ok
  obtain ⟨gl2, ok', hm2⟩ := blt_of c hx
  obtain ⟨ok1', ok2', ok3'⟩ := okName_of ok'
  obtain ⟨hb, hn2⟩ := ty_tab ht
  have hs := star_cons [.Name x p2] X.env hn
  refine peImp (pe_callB call_isi gl hm (by decide +kernel) (pa_cons ha (pa_cons (pe_bltn (v := .ty (tyId ty)) gl2 hm2 hb rfl ok3' ok1') pa_nil) hs) ok3 ok1 hs rfl) fun σ H Q q => ?_
  obtain ⟨ρ, μ, st, er, sr, p⟩ := q
  simp only [den] at p
  refine (ahead er sr p).mono fun y H1 ⟨μ1, st1, w, er1, sr1, g1, rx, p1⟩ => ?_
  have p1 : Post G (fun c d => Wh c d σ) H1 μ1 (match [ty].mapM fun t => isTy st1 w t with | some bs => .ok (.bl (bs.any id)) st1 | none => .stuck) Q := p1
  rw [List.mapM_cons] at p1
  cases e : isTy st1 w ty with
  | none => rw [e] at p1; exact p1.elim
  | some b =>
    rw [e] at p1
    obtain ⟨u, tx, hk⟩ := is_ty sr1 rx e hn2
    exact ⟨y, .ty (tyId ty), u, .type (tyId ty), b, rfl, .ty (tyId ty), c.K ▸ tx, c.K ▸ hk, (p1.okR sr1 (by simpa using Rep.bl_))⟩
end Mi

/-! Mi13: methods of built-in things; the theorem about all expressions. -/
namespace Mi
open PySem L2
variable {G : Gs} {φ : Nat → List W → M W} {k : Nat} {C : CC} {X : Cx} {Wh : WX}

theorem strs_of {H : Hp} {μ : List Addr} : ∀ {ws : List W} {vs : List V} {ys : List Str}, Reps G H μ ws vs → strsOf ws = some ys → vs = ys.map V.str
  | [], _, ys, r, h => by simp [strsOf] at h; subst h; rw [r.nil_inv]; rfl
  | w :: ws, _, ys, r, h => by
    simp only [Reps] at r
    obtain ⟨v, vr, rfl, r1, r2⟩ := r
    cases w <;> simp only [strsOf, reduceCtorEq, Option.map_eq_some_iff] at h
    obtain ⟨zs, h1, rfl⟩ := h
    rw [List.map_cons, r1.str_inv, strs_of r2 h1]
theorem base_plain {e : Expr} {m : Str} {env : PySem.Env} (h : plainBase e = true) : attributeBase e m env (eval e env) = eval e env := by
  cases e <;> first | rfl | cases h
/-- what a method's reading wants, from the small machine's method -/
def MetIs (G : Gs) (r : V → List V → Hp → VK → Prop) (m : Met) : Prop := ∀ (H : Hp) (μ : List Addr) (st : Sto) (x : V) (wx : W) (vs : List V) (ws : List W) (X : Value → Option Addr → Hp → Prop) (Q : VK), SR G H μ st → Rep G H μ wx x → Reps G H μ ws vs →
  Post G X H μ (met m wx ws st) Q → r x vs H Q
theorem is_join : MetIs G (fun x xs H Q => ∃ a p, ∃ ys : List Str, x = .str a ∧ xs = [.ref p] ∧ (SqL G.K H p (ys.map V.str) ∨ SqT G.K H p (ys.map V.str)) ∧ (ys.map (·.length)).sum + ys.length * a.length ≤ 16777216 ∧ Q (.str (Txt.join a ys)) H) .join := by
  intro H μ st x wx vs ws X Q sr rx rs p
  cases wx <;> first | exact False.elim p | skip
  rename_i a
  match ws, p, rs with
  | [y], p, rs =>
    obtain ⟨v, rfl, r1⟩ := rs.one
    simp only [met] at p
    cases e : isSeq st y with
    | none => rw [e] at p; exact p.elim
    | some ws =>
      rw [e] at p
      dsimp only at p
      cases e2 : strsOf ws with
      | none => rw [e2] at p; exact p.elim
      | some ys =>
        rw [e2] at p
        dsimp only at p
        split at p
        · rename_i hz
          obtain ⟨ad, us, rfl, hq, rq⟩ := isSeq_of sr r1 e
          have e3 := strs_of rq e2
          subst e3
          exact ⟨a, ad, ys, rx.str_inv, rfl, hq, hz, p.okR sr Rep.str_⟩
        · exact p.elim
  | [], p, rs => exact False.elim p
  | _ :: _ :: _, p, rs => exact False.elim p
theorem is_append : MetIs G rAppend .append := by
  intro H μ st x wx vs ws X Q sr rx rs p
  cases wx <;> first | exact False.elim p | skip
  rename_i n
  match ws, p, rs with
  | [y], p, rs =>
    obtain ⟨v, rfl, r1⟩ := rs.one
    simp only [met] at p
    split at p
    · rename_i xs e
      split at p
      · rename_i hz
        obtain ⟨a, us, rfl, hm, hq, rq⟩ := Rep.lst sr rx e
        refine ⟨a, us, v, rfl, rfl, hq, by rw [← rq.length]; exact SZ_lt hz, ?_⟩
        obtain ⟨g, s1⟩ := sr.put (o' := .lst (us ++ [v])) (u := .lst (xs ++ [y])) hm trivial fun g e' => ⟨_, e', (rq.append_ (Reps.nil_.cons_ r1)).grow sr g⟩
        exact p _ _ μ g s1 Rep.non_
      · exact p.elim
    · exact p.elim
  | [], p, rs => exact False.elim p
  | _ :: _ :: _, p, rs => exact False.elim p
theorem last_rep {H : Hp} {μ : List Addr} {ws : List W} {vs : List V} (r : Reps G H μ ws vs) : Reps G H μ ws.dropLast vs.dropLast := by
  rw [List.dropLast_eq_take, List.dropLast_eq_take, r.length]
  exact r.take_ _
theorem is_pop : MetIs G rPop .pop := by
  intro H μ st x wx vs ws X Q sr rx rs p
  cases wx <;> first | exact False.elim p | skip
  rename_i n
  match ws, p, rs with
  | [], p, rs =>
    have := rs.nil_inv
    subst this
    simp only [met] at p
    split at p
    · rename_i xs e
      split at p
      · rename_i w e2
        obtain ⟨a, us, rfl, hm, hq, rq⟩ := Rep.lst sr rx e
        obtain ⟨v, e3, rv⟩ := rq.get _ e2
        refine ⟨a, us, v, rfl, rfl, hq, by rw [← rq.length]; exact e3, ?_⟩
        obtain ⟨g, s1⟩ := sr.put (o' := .lst us.dropLast) (u := .lst xs.dropLast) hm trivial fun g e' => ⟨_, e', (last_rep rq).grow sr g⟩
        exact p _ _ μ g s1 (rv.grow sr g)
      · exact p.elim
    · exact p.elim
  | _ :: _, p, rs => exact False.elim p

theorem met_split {m : Met} {O : Mi.E} {Es : List Mi.E} {σ : L2.St} {H : Hp} {Q : VK} (q : tM G Wh (den φ (.met m O Es)) σ H Q) {R : V → Hp → Prop}
    (h : ∀ x H1 μ1 st1 w ρ, EnvR G H1 μ1 ρ σ → SR G H1 μ1 st1 → Rep G H1 μ1 w x → metOk st1 m w = true → Post G (fun c d => Wh c d σ) H1 μ1 (bnd (dens φ Es ρ) (fun ws => met m w ws) st1) Q → R x H1) : tM G Wh (den φ O) σ H R := by
  obtain ⟨ρ, μ, st, er, sr, p⟩ := q
  simp only [den] at p
  refine (ahead er sr p).mono fun x H1 ⟨μ1, st1, w, er1, sr1, g1, rx, p1⟩ => ?_
  split at p1
  · rename_i hm
    exact h x H1 μ1 st1 w ρ er1 sr1 rx hm p1
  · exact p1.elim
theorem ok_str {st : Sto} {w : W} {H : Hp} {μ : List Addr} {x : V} (h : metOk st .join w = true) (r : Rep G H μ w x) : ∃ a, x = .str a := by
  cases w <;> simp [metOk] at h
  exact ⟨_, r.str_inv⟩
theorem ok_lst {st : Sto} {m : Met} {w : W} {H : Hp} {μ : List Addr} {x : V} (sr : SR G H μ st) (hm : m = .append ∨ m = .pop) (h : metOk st m w = true) (r : Rep G H μ w x) : tyV G.K "list" x H := by
  rcases hm with rfl | rfl <;> cases w <;> simp only [metOk, Bool.false_eq_true] at h <;> split at h
  · rename_i n ws e
    obtain ⟨a, vs, rfl, _, hq, _⟩ := Rep.lst sr r e
    exact .inl ⟨rfl, vs, SqL.of hq⟩
  · cases h
  · rename_i n ws e
    obtain ⟨a, vs, rfl, _, hq, _⟩ := Rep.lst sr r e
    exact .inl ⟨rfl, vs, SqL.of hq⟩
  · cases h
theorem dens_one (ρ : Env) (E : Mi.E) (f : List W → M W) (s : Sto) : bnd (dens φ [E] ρ) f s = (den φ E ρ s).bind fun y => f [y] := by
  simp only [dens]
  show ((den φ E ρ s).bind _).bind _ = _
  rw [bind_assoc]; rfl
theorem snd_join (c : Ctx G φ k C X Wh) {o e : Expr} {O E : Mi.E} {apos pos : Pos} (hb : plainBase o = true) (hl : (apos.endLine == pos.line) = true) (hn : noStar e = true) (ho : PE X o (tM G Wh (den φ O))) (he : PE X e (tM G Wh (den φ E))) :
    PE X (.Call (.Attribute o "join" apos) [e] [] pos) (tM G Wh (den φ (.met .join O [E]))) := by
  have hj := is_join (G := G)
  rw [c.K] at hj
  refine peImp (pe_m1 PySem.F.slot_str_join PySem.F.type_str_join mt_join ho he (by rw [star_cons _ _ hn]; rfl) (base_plain hb) hl) fun σ H Q q => met_split q fun x H1 μ1 st1 w ρ er1 sr1 rx hm p1 => ⟨ok_str hm rx, ?_⟩
  rw [dens_one] at p1
  exact (ahead er1 sr1 p1).mono fun y H2 ⟨μ2, st2, u, er2, sr2, g2, ry, p2⟩ => hj H2 μ2 st2 x w [y] [u] _ Q sr2 (rx.grow sr1 g2) (Reps.nil_.cons_ ry) p2
theorem snd_append (c : Ctx G φ k C X Wh) {o e : Expr} {O E : Mi.E} {apos pos : Pos} (hb : plainBase o = true) (hl : (apos.endLine == pos.line) = true) (hn : noStar e = true) (ho : PE X o (tM G Wh (den φ O))) (he : PA X [e] (tML G Wh (dens φ [E]))) :
    PE X (.Call (.Attribute o "append" apos) [e] [] pos) (tM G Wh (den φ (.met .append O [E]))) := by
  refine peImp (pe_bm PySem.F.plainAttrs_list PySem.F.slot_list_append PySem.F.type_list_append mt_append ho he (base_plain hb) (by rw [star_cons _ _ hn]; rfl) hl (star_cons _ _ hn) rfl) fun σ H Q q => met_split q fun x H1 μ1 st1 w ρ er1 sr1 rx hm p1 => ⟨c.K ▸ ok_lst sr1 (.inl rfl) hm rx, ?_⟩
  exact (aheadL er1 sr1 p1).mono fun y H2 ⟨μ2, st2, u, er2, sr2, g2, ry, p2⟩ => is_append H2 μ2 st2 x w y u _ Q sr2 (rx.grow sr1 g2) ry p2
theorem snd_pop (c : Ctx G φ k C X Wh) {o : Expr} {O : Mi.E} {apos pos : Pos} (hb : plainBase o = true) (hl : (apos.endLine == pos.line) = true) (ho : PE X o (tM G Wh (den φ O))) :
    PE X (.Call (.Attribute o "pop" apos) [] [] pos) (tM G Wh (den φ (.met .pop O []))) := by
  refine peImp (pe_bm0 PySem.F.plainAttrs_list PySem.F.slot_list_pop PySem.F.type_list_pop mt_pop ho (base_plain hb) hl) fun σ H Q q => met_split q fun x H1 μ1 st1 w ρ er1 sr1 rx hm p1 => ⟨c.K ▸ ok_lst sr1 (.inr rfl) hm rx, ?_⟩
  have p1 : Post G (fun c d => Wh c d σ) H1 μ1 (met .pop w [] st1) Q := by simp only [dens] at p1; exact p1
  exact is_pop H1 μ1 st1 x w [] [] _ Q sr1 rx Reps.nil_ p1
theorem met_tab {x : Str} {n : Nat} {m : Met} (h : metOf x n = some m) : (x = "join" ∧ n = 1 ∧ m = .join) ∨ (x = "append" ∧ n = 1 ∧ m = .append) ∨ (x = "pop" ∧ n = 0 ∧ m = .pop) := by
  unfold metOf at h
  split at h
  · rename_i e; cases h; exact .inl ⟨e.1, e.2, rfl⟩
  split at h
  · rename_i e; cases h; exact .inr (.inl ⟨e.1, e.2, rfl⟩)
  split at h
  · rename_i e; cases h; exact .inr (.inr ⟨e.1, e.2, rfl⟩)
  · cases h

/-! ### comprehensions -/
theorem relabel_rel (scope : Scope) (env : PySem.Env) : relabel scope env = relS scope env.scope := rfl
theorem Ctx.blk (c : Ctx G φ k C X Wh) (s : Shared) (H : Hp) (scope : Scope) (Ca : Addr) (cl : List (Str × Addr)) (fp : List Addr) : Ctx G φ k { C with sc := relS scope C.sc } (X.blk s H scope (compEnvC scope cl Ca X.env) fp) WF :=
  ⟨c.K, c.N, by rw [← c.sc]; rfl, c.nd, c.calm, c.guards, c.room, c.sysm, fun x e h => by
    have := c.gt x e h
    cases e with
    | cst w => exact this
    | fn i sh => exact this
    | blt => exact this, takes0⟩
def tnHas : Tn → Nat → Prop
  | .nm i, j => j = i
  | .tp is, j => j ∈ is
theorem pg_tn (c : Ctx G φ k C X Wh) {tg : Expr} {t : Tn} (h : tnOf C tg = some t) (hf : ∀ x i, X.N[i]? = some x → tnHas t i → L2.Loc X.env.scope x → X.fn x = true ∨ X.env.scope.names.lookup x = some .local) : PG X tg (gTn G.K t) := by
  cases tg <;> simp only [tnOf, reduceCtorEq, Option.map_eq_some_iff] at h
  · obtain ⟨i, h1, rfl⟩ := h
    obtain ⟨a, b, _⟩ := loc_of c h1
    exact pg_name c.nd a b (hf _ _ a rfl b)
  · rename_i es kk pos
    obtain ⟨is, h1, rfl⟩ := h
    have key : ∀ {es : List Expr} {js : List Nat}, (es.mapM fun (e : Expr) => match e with | .Name x _ => C.loc x | _ => none) = some js → (∀ i ∈ js, i ∈ is) → PGs X es (js.foldr (fun i t => gCons (gName i) t) gNil) ∧ (assignEach es X.env).length = js.length ∧ (assignEach es X.env).findIdx? (·.1) = none := by
      intro es
      induction es with
      | nil => intro js h _; simp at h; subst h; exact ⟨pgs_nil, rfl, rfl⟩
      | cons e es ih =>
        intro js h hm
        rw [List.mapM_cons] at h
        simp only [Option.pure_def, Option.bind_eq_bind, Option.bind_eq_some_iff, Option.some.injEq] at h
        obtain ⟨i, h1, is', h2, rfl⟩ := h
        cases e <;> simp only [reduceCtorEq] at h1
        obtain ⟨a, b, _⟩ := loc_of c h1
        obtain ⟨q1, q2, q3⟩ := ih h2 fun j hj => hm j (List.mem_cons_of_mem _ hj)
        refine ⟨pgs_cons (pg_name c.nd a b (hf _ _ a (hm _ List.mem_cons_self) b)) q1 rfl, ?_, ?_⟩
        · show (assignEach es X.env).length + 1 = is'.length + 1
          rw [q2]
        · show List.findIdx? (·.1) ((false, _) :: assignEach es X.env) = none
          rw [List.findIdx?_cons]
          simp [q3]
    obtain ⟨q1, q2, q3⟩ := key h1 fun _ h => h
    have := pg_tup (pos := pos) (k := kk) c.calm q1 q2 q3
    rw [c.K]
    exact this
theorem pts_of (c : Ctx G φ k C X Wh) {n : Nat} (ih : ∀ e E, comp n C e = some E → SndE G φ X Wh e E) {ifs : List Expr} {cs : List Mi.E} (hl : ifs.length ≤ 1) (h : ifs.mapM (comp n C) = some cs) : PTs X ifs (tMB G Wh fun ρ => denC φ cs ρ) := by
  match ifs, hl, h with
  | [], _, h =>
    simp at h; subst h
    refine ⟨fun pins s σ H Q I q => ?_⟩
    obtain ⟨ρ, μ, st, er, sr, p⟩ := q
    simp only [denC] at p
    exact pts_nil.run pins s σ H Q I (p.okR sr rfl)
  | [e], _, h =>
    rw [List.mapM_cons] at h
    simp only [Option.pure_def, Option.bind_eq_bind, Option.bind_eq_some_iff, Option.some.injEq, List.mapM_nil] at h
    obtain ⟨E, h1, _, rfl, rfl⟩ := h
    refine ⟨fun pins s σ H Q I q => (pts_one (ih e E h1).pt).run pins s σ H Q I ?_⟩
    obtain ⟨ρ, μ, st, er, sr, p⟩ := q
    refine ⟨ρ, μ, st, er, sr, ?_⟩
    have e1 : denC φ [E] ρ = bnd (den φ E ρ) tru := by
      simp only [denC]
      funext s
      refine bind_congr _ fun x s1 => ?_
      show (tru x s1).bind _ = tru x s1
      cases et : truW s1 x with
      | none => unfold tru; rw [et]; rfl
      | some b => rw [tru_of et]; cases b <;> rfl
    simp only [e1] at p
    exact p
theorem lc_parts (c : Ctx G φ k C X Wh) {n : Nat} (ih : ∀ (C : CC) (X : Cx) (Wh : WX), Ctx G φ k C X Wh → ∀ e E, comp n C e = some E → SndE G φ X Wh e E) {elt tg itr : Expr} {ifs : List Expr} {scope : Scope} {src x : Mi.E} {t : Tn} {cs : List Mi.E}
    (hb : blkC C.N C.sc scope (ownOf C.N scope) = true) (hl : ifs.length ≤ 1) (h1 : comp n C itr = some src) (h2 : tnOf { C with sc := relS scope C.sc } tg = some t) (ht : tnIn t ((ownOf C.N scope).map (·.2)) = true) (h3 : comp n { C with sc := relS scope C.sc } elt = some x)
    (h4 : ifs.mapM (comp n { C with sc := relS scope C.sc }) = some cs) :
    PI X tg itr (tMI G Wh fun ρ => bnd (dens φ (srcOf src).2 ρ) (iter (srcOf src).1)) ∧ BlkOk X.N X.env.scope scope (ownOf C.N scope) ∧
    (∀ (s : Shared) (H : Hp) (Ca : Addr) (cl : List (Str × Addr)) (fp : List Addr), PG (X.blk s H scope (compEnvC scope cl Ca X.env) fp) tg (gTn G.K t)) ∧
    (∀ (s : Shared) (H : Hp) (Ca : Addr) (cl : List (Str × Addr)) (fp : List Addr), PTs (X.blk s H scope (compEnvC scope cl Ca X.env) fp) ifs (tMB G WF fun ρ => denC φ cs ρ)) ∧
    (∀ (s : Shared) (H : Hp) (Ca : Addr) (cl : List (Str × Addr)) (fp : List Addr), PE (X.blk s H scope (compEnvC scope cl Ca X.env) fp) elt (tM G WF (den φ x))) := by
  have hok : BlkOk X.N X.env.scope scope (ownOf C.N scope) := by rw [c.N, c.sc]; exact blkOk_by hb
  refine ⟨(ih C X Wh c itr src h1).pi tg, hok, fun s H Ca cl fp => ?_, fun s H Ca cl fp => pts_of (c.blk s H scope Ca cl fp) (ih _ _ _ (c.blk s H scope Ca cl fp)) hl h4, fun s H Ca cl fp => (ih _ _ _ (c.blk s H scope Ca cl fp) elt x h3).pe⟩
  refine pg_tn (c.blk s H scope Ca cl fp) h2 fun y i hN hi hy => ?_
  have hin : i ∈ (ownOf C.N scope).map (·.2) := by
    cases t with
    | nm j => have e : i = j := hi; subst e; simpa [tnIn] using ht
    | tp is => simp only [tnIn, List.all_eq_true] at ht; simpa using ht i hi
  obtain ⟨⟨z, j⟩, hz, e⟩ := List.mem_map.mp hin
  dsimp only at e
  subst e
  have hNz := hok.ix _ hz
  have hN' : X.N[j]? = some y := hN
  rw [hN'] at hNz
  cases hNz
  unfold ownOf at hz
  obtain ⟨⟨z, kk⟩, hm, e⟩ := List.mem_filterMap.mp hz
  dsimp only at e
  split at e
  · rename_i hk
    rw [Option.map_eq_some_iff] at e
    obtain ⟨_, _, e⟩ := e
    cases e
    have hu := hok.uniq _ hm
    dsimp only at hu
    cases kk <;> simp [isLoc] at hk
    · right
      exact PySem.lookup_relabel_local hu
    · left
      exact beq_iff_eq.mpr hu
  · cases e

theorem snd_lc (c : Ctx G φ k C X Wh) {n : Nat} (ih : ∀ (C : CC) (X : Cx) (Wh : WX), Ctx G φ k C X Wh → ∀ e E, comp n C e = some E → SndE G φ X Wh e E) {elt tg itr : Expr} {ifs : List Expr} {scope : Scope} {pos : Pos} {src x : Mi.E} {t : Tn} {cs : List Mi.E}
    (hb : blkC C.N C.sc scope (ownOf C.N scope) = true) (hl : ifs.length ≤ 1) (h1 : comp n C itr = some src) (h2 : tnOf { C with sc := relS scope C.sc } tg = some t) (ht : tnIn t ((ownOf C.N scope).map (·.2)) = true) (h3 : comp n { C with sc := relS scope C.sc } elt = some x)
    (h4 : ifs.mapM (comp n { C with sc := relS scope C.sc }) = some cs) (hset : ∀ v, foldedSetIterable itr X.env v = pure v) :
    PE X (.ListComp elt [⟨tg, itr, ifs, 0⟩] scope pos) (tM G Wh (den φ (.lc x t ((ownOf C.N scope).map (·.2)) (srcOf src).1 (srcOf src).2 cs))) := by
  obtain ⟨w1, w2, w3, w4, w5⟩ := lc_parts c ih hb hl h1 h2 ht h3 h4
  exact peImp (pe_lc c.calm c.nd w1 w2 w3 w4 w5 hset) fun σ H Q q => lc_ok ht q

/-! ### written dicts -/
theorem mapM_id_some {α : Type} : ∀ {l : List (Option α)} {r : List α}, l.mapM id = some r → l = r.map some
  | [], r, h => by simp at h; subst h; rfl
  | x :: l, r, h => by
    rw [List.mapM_cons] at h
    simp only [Option.pure_def, Option.bind_eq_bind, Option.bind_eq_some_iff, Option.some.injEq, id] at h
    obtain ⟨a, rfl, b, h2, rfl⟩ := h
    rw [List.map_cons, mapM_id_some h2]
def flat2 {α : Type} (l : List (α × α)) : List α := l.flatMap fun p => [p.1, p.2]
@[simp] theorem flat2_nil {α : Type} : flat2 ([] : List (α × α)) = [] := rfl
@[simp] theorem flat2_cons {α : Type} (p : α × α) (l : List (α × α)) : flat2 (p :: l) = p.1 :: p.2 :: flat2 l := rfl
theorem pps_of {n : Nat} {pos : Pos} (ih : ∀ e E, comp n C e = some E → PE X e (tM G Wh (den φ E))) : ∀ {ks vs : List Expr} {Ks Vs : List Mi.E}, ks.mapM (comp n C) = some Ks → vs.mapM (comp n C) = some Vs → ks.length = vs.length →
    PPs X pos (ks.map some) vs ((Ks.zip Vs).map fun p => (tM G Wh (den φ p.1), tM G Wh (den φ p.2)))
  | [], [], Ks, Vs, h1, h2, hl => by
    simp at h1 h2; subst h1; subst h2
    exact pps_nil
  | k :: ks, v :: vs, Ks, Vs, h1, h2, hl => by
    rw [List.mapM_cons] at h1 h2
    simp only [Option.pure_def, Option.bind_eq_bind, Option.bind_eq_some_iff, Option.some.injEq] at h1 h2
    obtain ⟨K, k1, Ks', k2, rfl⟩ := h1
    obtain ⟨U, u1, Vs', u2, rfl⟩ := h2
    exact pps_cons (ih k K k1) (ih v U u1) (pps_of ih k2 u2 (by simpa using hl))
  | [], _ :: _, _, _, _, _, hl => by simp at hl
  | _ :: _, [], _, _, _, _, hl => by simp at hl
theorem tPairs_of : ∀ (ps : List (Mi.E × Mi.E)) {σ : L2.St} {H : Hp} {R : List (V × V) → Hp → Prop}, tML G Wh (dens φ (flat2 ps)) σ H (fun l H' => ∀ q, l = flat2 q → R q H') →
    tPairs (ps.map fun p => (tM G Wh (den φ p.1), tM G Wh (den φ p.2))) σ H R
  | [], σ, H, R, h => by
    obtain ⟨ρ, μ, st, er, sr, p⟩ := h
    exact p.okR sr Reps.nil_ [] rfl
  | (a, b) :: ps, σ, H, R, h => by
    obtain ⟨ρ, μ, st, er, sr, p⟩ := h
    simp only [flat2_cons, dens] at p
    refine (ahead er sr p).mono fun x H1 ⟨μ1, st1, w, er1, sr1, g1, rx, p1⟩ => ?_
    have p1 : PostL G (fun c d => Wh c d σ) H1 μ1 (((den φ b ρ st1).bind fun w => bnd (dens φ (flat2 ps) ρ) fun ws => ret (w :: ws)).bind fun ws => ret (w :: ws)) (fun l H' => ∀ q, l = flat2 q → R q H') := p1
    rw [bind_assoc] at p1
    refine (ahead er1 sr1 p1).mono fun y H2 ⟨μ2, st2, u, er2, sr2, g2, ry, p2⟩ => ?_
    have p2 : PostL G (fun c d => Wh c d σ) H2 μ2 (((dens φ (flat2 ps) ρ st2).bind fun ws => ret (u :: ws)).bind fun ws => ret (w :: ws)) (fun l H' => ∀ q, l = flat2 q → R q H') := p2
    rw [bind_assoc] at p2
    refine tPairs_of ps ((aheadL er2 sr2 p2).mono fun z H3 ⟨μ3, st3, t, er3, sr3, g3, rz, p3⟩ => ?_)
    have f := p3.okR sr3 ((rz.cons_ (ry.grow sr2 g3)).cons_ ((rx.grow sr1 g2).grow sr2 g3))
    exact fun q e => f ((x, y) :: q) (by rw [e]; rfl)
theorem pair_reps {H : Hp} {μ : List Addr} : ∀ {q : List (V × V)} {ws : List W} {kvs : List (W × W)}, pairUp ws = some kvs → Reps G H μ ws (flat2 q) → Reps G H μ (kvs.map (·.1)) (q.map (·.1)) ∧ Reps G H μ (kvs.map (·.2)) (q.map (·.2))
  | [], ws, kvs, h, r => by
    cases ws with
    | nil => simp [pairUp] at h; subst h; exact ⟨Reps.nil_, Reps.nil_⟩
    | cons w ws => simp only [Reps] at r; obtain ⟨_, _, e, _⟩ := r; simp at e
  | (x, y) :: q, ws, kvs, h, r => by
    match ws, h, r with
    | [], h, r => have := r.nil_inv; simp at this
    | [w], h, r => simp [pairUp] at h
    | a :: b :: ws, h, r =>
      simp only [pairUp, Option.map_eq_some_iff] at h
      obtain ⟨kvs', h1, rfl⟩ := h
      obtain ⟨ra, r⟩ := r.cons_inv
      obtain ⟨rb, r⟩ := r.cons_inv
      obtain ⟨i1, i2⟩ := pair_reps h1 r
      exact ⟨i1.cons_ ra, i2.cons_ rb⟩
theorem keys_of {H : Hp} {μ : List Addr} : ∀ {kvs : List (W × W)} {q : List (V × V)}, kvs.all (fun p => isKey p.1) = true → Reps G H μ (kvs.map (·.1)) (q.map (·.1)) →
    ∃ kv : List (Key × V), q = kv.map (fun p => (kV p.1, p.2)) ∧ kvs.map (·.1) = kv.map fun p => kW p.1
  | [], q, _, r => by
    have := r.nil_inv
    rw [List.map_eq_nil_iff] at this
    subst this
    exact ⟨[], rfl, rfl⟩
  | (a, b) :: kvs, q, h, r => by
    match q, r with
    | [], r => simp only [List.map_cons, Reps] at r; obtain ⟨_, _, e, _⟩ := r; simp at e
    | (x, y) :: q, r =>
      rw [List.all_cons, Bool.and_eq_true] at h
      obtain ⟨ra, r⟩ := Reps.cons_inv r
      obtain ⟨kv, rfl, e⟩ := keys_of h.2 r
      have h1 := h.1
      cases a with
      | int i => exact ⟨(.inl i, y) :: kv, by rw [List.map_cons, show x = V.int i from Rep.int_inv ra]; rfl, by rw [List.map_cons, List.map_cons, e]; rfl⟩
      | str i => exact ⟨(.inr i, y) :: kv, by rw [List.map_cons, show x = V.str i from Rep.str_inv ra]; rfl, by rw [List.map_cons, List.map_cons, e]; rfl⟩
      | _ => cases h1
theorem merge_new : ∀ (more acc : List (Key × V)), ((acc ++ more).map (·.1)).Nodup → mergeK acc more = acc ++ more
  | [], acc, _ => by simp [mergeK]
  | (k, v) :: more, acc, h => by
    have hn : (acc.any fun kv => decide (kv.1 = k)) = false := by
      rw [List.any_eq_false]
      intro p hp e
      rw [List.map_append, List.nodup_append] at h
      exact h.2.2 p.1 (List.mem_map_of_mem hp) k (by simp) (by simpa using e)
    show mergeK (putK acc k v) more = _
    have : putK acc k v = acc ++ [(k, v)] := by unfold putK; rw [if_neg (by rw [hn]; exact Bool.false_ne_true)]
    rw [this, merge_new more (acc ++ [(k, v)]) (by simpa using h)]
    simp
theorem kW_inj {a b : Key} (h : kW a = kW b) : a = b := by
  cases a <;> cases b <;> simp [kW] at h <;> rw [h]
theorem snd_dct {n : Nat} {ks vs : List Expr} {Ks Vs : List Mi.E} {pos : Pos} (ih : ∀ e E, comp n C e = some E → PE X e (tM G Wh (den φ E))) (h1 : ks.mapM (comp n C) = some Ks) (h2 : vs.mapM (comp n C) = some Vs) (hl : ks.length = vs.length) (h15 : ks.length ≤ 15) :
    PE X (.Dict (ks.map some) vs pos) (tM G Wh (den φ (.dct (flat2 (Ks.zip Vs))))) := by
  by_cases h0 : ks = []
  · subst h0
    have : vs = [] := List.eq_nil_of_length_eq_zero (by simpa using hl.symm)
    subst this
    simp at h1 h2; subst h1; subst h2
    refine peImp pe_dnewK fun σ H Q q p hp => ?_
    obtain ⟨ρ, μ, st, er, sr, pp⟩ := q
    have pp : Post G (fun c d => Wh c d σ) H μ (.ok (.loc st.length) (st ++ [.dct []])) Q := pp
    obtain ⟨g, s1⟩ := sr.temp (o := .dK []) hp
    exact pp _ _ (μ ++ [p]) ⟨⟨[p], rfl, by simpa using hp⟩, g.keep, g.stay⟩ (s1.adopt (sr.fresh hp) ⟨[], upd_same, rfl, Reps.nil_⟩) (by simp only [Rep]; exact ⟨p, rfl, by rw [← sr.len]; simp⟩)
  · refine peImp (pe_disp (pps_of ih h1 h2 hl) (by simp) (by simpa using hl) (by simpa using h0) (by simpa using h15)) fun σ H Q q p hp => ?_
    obtain ⟨ρ, μ, st, er, sr, pp⟩ := q
    simp only [den] at pp
    obtain ⟨g, s1⟩ := sr.temp (o := .dK []) hp
    have er1 := er.grow sr g
    refine tPairs_of (Ks.zip Vs) ⟨ρ, μ, st, er1, s1, ?_⟩
    have p1 : Post G (fun c d => Wh c d σ) H μ ((dens φ (flat2 (Ks.zip Vs)) ρ st).bind fun ws => dctOf ws) Q := pp
    cases e0 : dens φ (flat2 (Ks.zip Vs)) ρ st with
    | stuck => rw [e0] at p1; exact p1
    | exc x s => rw [e0] at p1; exact fun c d H' μ' g' sr' xr => p1 c d H' μ' (g.trans g') sr' xr
    | ok ws st1 =>
    rw [e0] at p1
    rintro l H1 μ1 g2 sr2 rl q rfl
    have hnot : p ∉ μ := sr.fresh hp
    have hp1 : H1 p = some (.dK []) := g2.keep p _ upd_same hnot
    refine ⟨hp1, ?_⟩
    rw [bind_ok] at p1
    simp only [dctOf] at p1
    split at p1
    · rename_i kvs e
      split at p1
      · rename_i hk
        simp only [Bool.and_eq_true, decide_eq_true_eq] at hk
        obtain ⟨⟨k1, k2⟩, k3⟩ := hk
        obtain ⟨r1, r2⟩ := pair_reps e rl
        obtain ⟨kv, rfl, e2⟩ := keys_of k1 r1
        have hnd : (kv.map (·.1)).Nodup := by
          rw [e2] at k2
          have : (kv.map fun p => kW p.1) = (kv.map (·.1)).map kW := by simp
          rw [this] at k2
          exact (List.pairwise_map.mp k2).imp fun hab z => hab (by rw [z])
        have hlen : kv.length ≤ 15 := by have := congrArg List.length e2; simp at this; omega
        refine ⟨kv, rfl, hlen, ?_⟩
        rw [merge_new kv [] (by simpa using hnd), List.nil_append]
        obtain ⟨r, er', hr⟩ := g2.mu
        have hp2 : p ∉ μ1 := by
          rw [er', List.mem_append]
          rintro (z | z)
          · exact hnot z
          · have := hr p z; rw [upd_same] at this; cases this
        have ad : SR G H1 (μ1 ++ [p]) (st1 ++ [.dct []]) := sr2.adopt hp2 ⟨[], hp1, rfl, Reps.nil_⟩
        have hidx : (μ1 ++ [p])[st1.length]? = some p := by rw [← sr2.len]; simp
        obtain ⟨g3, s3⟩ := ad.put (o' := .dK kv) (u := .dct kvs) hidx trivial fun g e' => ⟨kv, e', e2, by
          have := (r2.more [p]).grow ad g
          rw [List.map_map] at this
          exact this⟩
        have hs : (st1 ++ [SO.dct []]).set st1.length (.dct kvs) = st1 ++ [.dct kvs] := by simp
        rw [hs] at s3
        refine p1 _ _ (μ1 ++ [p]) ?_ s3 (by simp only [Rep]; exact ⟨p, rfl, hidx⟩)
        refine ⟨⟨r ++ [p], by rw [er', List.append_assoc], fun a ha => ?_⟩, fun a o e hm => ?_, fun a e => ?_⟩
        · rcases List.mem_append.mp ha with z | z
          · exact g.stay a (hr a z)
          · rw [List.mem_singleton.mp z]; exact hp
        · have ne : a ≠ p := ne_of_none e hp
          rw [upd_ne ne]
          exact g2.keep a o (by rw [upd_ne ne]; exact e) hm
        · by_cases ne : a = p
          · rw [ne]; exact hp
          · rw [upd_ne ne] at e
            have := g2.stay a e
            rwa [upd_ne ne] at this
      · exact p1.elim
    · exact p1.elim

/-! ### all expressions -/
theorem mapM_ne {n : Nat} {es : List Expr} {Es : List Mi.E} (h : es.mapM (comp n C) = some Es) : es.length = Es.length := mapM_len h
theorem set_no {n : Nat} {e : Expr} {E : Mi.E} {env : PySem.Env} (h : comp n C e = some E) : ∀ v, foldedSetIterable e env v = pure v := by
  cases n with
  | zero => simp [comp] at h
  | succ n => cases e <;> first | exact fun _ => rfl | (simp [comp] at h)
theorem kw_mapM {n : Nat} {ks : List Keyword} {ws : List Mi.E} (h : ks.mapM (fun k => comp n C k.value) = some ws) : ks.length = ws.length := mapM_len h
theorem sound : ∀ (n : Nat) (C : CC) (X : Cx) (Wh : WX), Ctx G φ k C X Wh → ∀ e E, comp n C e = some E → SndE G φ X Wh e E := by
  intro n
  induction n with
  | zero => intro C X Wh c e E h; simp [comp] at h
  | succ n ih =>
    intro C X Wh c e E h
    have ihC : ∀ e E, comp n C e = some E → SndE G φ X Wh e E := ih C X Wh c
    have ihP : ∀ e E, comp n C e = some E → PE X e (tM G Wh (den φ E)) := fun e E h => (ihC e E h).pe
    cases e with
    | Constant v kk pos =>
      simp only [comp, Option.map_eq_some_iff] at h
      obtain ⟨w, h, rfl⟩ := h
      have fin : ∀ {w : W} {v : V} {e : Expr}, PE X e (tC v) → (∀ H μ, Rep G H μ w v) → (∀ whole, isTrue e X.env whole = (do let v ← whole; standAt e.pos; holding [v] (truthy v))) → SndE G φ X Wh e (.cst w) := fun hp hr ht =>
        mk c (peImp hp fun σ H Q q => by
          obtain ⟨ρ, μ, st, er, sr, p⟩ := q
          simp only [den] at p
          exact p.okR sr (hr _ _)) rfl ht
      cases v <;> simp only [constOf, reduceCtorEq, Option.some.injEq] at h <;> subst h
      · exact fin pe_non (fun _ _ => Rep.non_) fun _ => rfl
      · exact fin pe_bl (fun _ _ => Rep.bl_) fun _ => rfl
      · exact fin pe_int (fun _ _ => Rep.int_) fun _ => rfl
      · exact fin pe_str (fun _ _ => Rep.str_) fun _ => rfl
    | Name x pos =>
      simp only [comp] at h
      split at h
      · rename_i i hv
        cases h
        obtain ⟨hN, hvis, ok⟩ := vis_of c hv
        obtain ⟨ok1, ok2, ok3⟩ := okName_of ok
        refine mk c (peImp (pe_var hN hvis ok1 ok2) fun σ H Q q => ?_) rfl fun _ => rfl
        obtain ⟨ρ, μ, st, er, sr, p⟩ := q
        simp only [den] at p
        split at p
        · rename_i w hw
          obtain ⟨v, e1, r⟩ := er.at_ i w hw
          exact ⟨v, e1, p.okR sr r⟩
        · exact p.elim
      · split at h
        · rename_i w hg
          cases h
          obtain ⟨gl, ok, u, v, hm, rv, hr⟩ := glb_of c hg
          obtain ⟨ok1, ok2, ok3⟩ := okName_of ok
          refine mk c (peImp (pe_glob gl hm rv ok1) fun σ H Q q => ?_) rfl fun _ => rfl
          obtain ⟨ρ, μ, st, er, sr, p⟩ := q
          simp only [den] at p
          exact p.okR sr (hr _ _)
        · rename_i i sh hg
          cases h
          obtain ⟨gl, ok, f, fd, ps, hm, hgl, _⟩ := glb_of c hg
          obtain ⟨ok1, ok2, ok3⟩ := okName_of ok
          refine mk c (peImp (pe_glob (v := .ref f) gl hm rfl ok1) fun σ H Q q => ?_) rfl fun _ => rfl
          obtain ⟨ρ, μ, st, er, sr, p⟩ := q
          simp only [den] at p
          exact p.okR sr (by simp only [Rep]; exact hgl)
        · cases h
    | Tuple es kk pos =>
      simp only [comp, Option.map_eq_some_iff] at h
      obtain ⟨Es, h, rfl⟩ := h
      exact mk c (snd_tup (n := n) (snd_args ihP h)) rfl fun _ => rfl
    | List es pos =>
      simp only [comp, Option.map_eq_some_iff] at h
      obtain ⟨Es, h, rfl⟩ := h
      exact mk c (snd_lst (n := n) (snd_args ihP h)) rfl fun _ => rfl
    | Dict keys values pos =>
      simp only [comp, Option.bind_eq_some_iff] at h
      obtain ⟨ks, hk, h⟩ := h
      split at h
      · rename_i hc
        simp only [Option.bind_eq_some_iff, Option.map_eq_some_iff] at h
        obtain ⟨Ks, h1, Vs, h2, rfl⟩ := h
        rw [mapM_id_some hk]
        exact mk c (snd_dct ihP h1 h2 hc.1 hc.2) rfl fun _ => rfl
      · cases h
    | BinOp a op b pos =>
      simp only [comp, Option.bind_eq_some_iff, Option.map_eq_some_iff] at h
      obtain ⟨o, h1, A, h2, B, h3, rfl⟩ := h
      obtain ⟨r, q1, q2⟩ := bop_ok c h1
      exact mk c (peImp (pe_op q1 (ihP a A h2) (ihP b B h3)) fun σ H Q q => snd_op q2 (by simpa only [den] using q)) rfl fun _ => rfl
    | UnaryOp op a pos =>
      cases op <;> simp only [comp, reduceCtorEq, Option.map_eq_some_iff] at h
      · obtain ⟨A, h, rfl⟩ := h
        exact snd_not c (ihC a A h)
      · obtain ⟨A, h, rfl⟩ := h
        exact mk c (snd_neg (ihP a A h)) rfl fun _ => rfl
    | Compare a ops bs pos =>
      match ops, bs, h with
      | [op], [b], h =>
        simp only [comp, Option.bind_eq_some_iff, Option.map_eq_some_iff] at h
        obtain ⟨o, h1, A, h2, B, h3, rfl⟩ := h
        exact snd_cmp c h1 ((comp_noSlice h3).2.2 op) (ihC a A h2) (ihC b B h3)
      | [op, op'], [b, d], h =>
        simp only [comp, Option.bind_eq_some_iff, Option.map_eq_some_iff] at h
        obtain ⟨o, h1, o', h1', A, h2, B, h3, D, h4, rfl⟩ := h
        exact snd_cmp2 c h1 h1' ((comp_noSlice h4).2.2 op') (ihC a A h2) (ihC b B h3) (ihC d D h4)
      | [], _, h => simp [comp] at h
      | [_], [], h => simp [comp] at h
      | [_], _ :: _ :: _, h => simp [comp] at h
      | [_, _], [], h => simp [comp] at h
      | [_, _], [_], h => simp [comp] at h
      | [_, _], _ :: _ :: _ :: _, h => simp [comp] at h
      | _ :: _ :: _ :: _, _, h => simp [comp] at h
    | BoolOp op es pos =>
      cases op <;> simp only [comp, Option.map_eq_some_iff] at h
      · obtain ⟨Es, h, rfl⟩ := h
        by_cases he : es = []
        · subst he
          simp at h; subst h
          have bd : ∀ ρ, den φ (.and []) ρ = bad := fun ρ => by simp only [den, denAnd]
          refine mkPT c ⟨fun _ _ _ _ _ _ q => ?_⟩ rfl ⟨fun _ _ _ _ _ _ q => ?_⟩
          · obtain ⟨ρ, μ, st, er, sr, p⟩ := q
            rw [bd] at p; exact p.elim
          · obtain ⟨ρ, μ, st, er, sr, p⟩ := q
            simp only [bd] at p; exact p.elim
        · obtain ⟨q1, q2⟩ := snd_ands c ihC (pos := pos) h he
          have e1 : (fun ρ => denAnd φ Es ρ) = den φ (.and Es) := by funext ρ; simp only [den]
          refine mkPT c (e1 ▸ q1) rfl ?_
          have := q2.pt
          simpa only [den] using this
      · obtain ⟨Es, h, rfl⟩ := h
        by_cases he : es = []
        · subst he
          simp at h; subst h
          have bd : ∀ ρ, den φ (.or []) ρ = bad := fun ρ => by simp only [den, denOr]
          refine mkPT c ⟨fun _ _ _ _ _ _ q => ?_⟩ rfl ⟨fun _ _ _ _ _ _ q => ?_⟩
          · obtain ⟨ρ, μ, st, er, sr, p⟩ := q
            rw [bd] at p; exact p.elim
          · obtain ⟨ρ, μ, st, er, sr, p⟩ := q
            simp only [bd] at p; exact p.elim
        · obtain ⟨q1, q2⟩ := snd_ors c ihC (pos := pos) h he
          have e1 : (fun ρ => denOr φ Es ρ) = den φ (.or Es) := by funext ρ; simp only [den]
          refine mkPT c (e1 ▸ q1) rfl ?_
          have := q2.pt
          simpa only [den] using this
    | IfExp d a b pos =>
      simp only [comp, Option.bind_eq_some_iff, Option.map_eq_some_iff] at h
      obtain ⟨D, h1, A, h2, B, h3, rfl⟩ := h
      exact snd_ite c (ihC d D h1) (ihC a A h2) (ihC b B h3)
    | Subscript a b pos =>
      by_cases hs : ∃ lo hi p2, b = .Slice lo hi none p2
      · obtain ⟨lo, hi, p2, rfl⟩ := hs
        simp only [comp, Option.bind_eq_some_iff, Option.map_eq_some_iff] at h
        obtain ⟨A, h1, Lo, h2, Hi, h3, rfl⟩ := h
        have pl : PO X lo (tMO G Wh fun ρ => denPart φ Lo ρ) := by
          cases lo with
          | none => cases h2; exact snd_part0
          | some l =>
            simp only [Option.map_eq_some_iff] at h2
            obtain ⟨L, h2, rfl⟩ := h2
            exact snd_part1 (ihP l L h2)
        have ph : PO X hi (tMO G Wh fun ρ => denPart φ Hi ρ) := by
          cases hi with
          | none => cases h3; exact snd_part0
          | some l =>
            simp only [Option.map_eq_some_iff] at h3
            obtain ⟨L, h3, rfl⟩ := h3
            exact snd_part1 (ihP l L h3)
        exact mk c (snd_slc c (ihP a A h1) pl ph) rfl fun _ => rfl
      · have h : ((comp n C a).bind fun x => (comp n C b).map fun y => Mi.E.idx x y) = some E := by
          have e : comp (n + 1) C (.Subscript a b pos) = (comp n C a).bind fun x => (comp n C b).map fun y => Mi.E.idx x y := by
            cases b <;> first | rfl | skip
            rename_i lo hi st p2
            cases st with
            | none => exact absurd ⟨_, _, _, rfl⟩ hs
            | some s => rfl
          rw [← e]; exact h
        simp only [Option.bind_eq_some_iff, Option.map_eq_some_iff] at h
        obtain ⟨A, h1, B, h2, rfl⟩ := h
        exact mk c (snd_idx c (comp_noSlice h2).1 (ihP a A h1) (ihP b B h2)) rfl fun _ => rfl
    | Call f as ks pos =>
      cases f <;> first | (simp [comp] at h; done) | skip
      · -- an attribute: a method
        rename_i o m apos
        cases ks with
        | cons _ _ => simp [comp] at h
        | nil =>
          simp only [comp] at h
          split at h
          · rename_i hb
            rw [Bool.and_eq_true] at hb
            simp only [Option.bind_eq_some_iff, Option.map_eq_some_iff] at h
            obtain ⟨mm, h1, O, h2, Es, h3, rfl⟩ := h
            have hl := mapM_len h3
            have hn := comps_noStar h3
            have ha := snd_args ihP h3
            rcases met_tab h1 with ⟨rfl, e2, rfl⟩ | ⟨rfl, e2, rfl⟩ | ⟨rfl, e2, rfl⟩
            · match as, Es, e2, hl, h3, hn with
              | [e], [E'], _, _, h3, hn =>
                rw [List.mapM_cons] at h3
                simp only [Option.pure_def, Option.bind_eq_bind, Option.bind_eq_some_iff, Option.some.injEq, List.mapM_nil] at h3
                obtain ⟨F, h4, _, rfl, h5⟩ := h3
                cases h5
                exact mk c (snd_join c hb.1 hb.2 (hn e List.mem_cons_self) (ihP o O h2) (ihP e E' h4)) rfl fun _ => rfl
            · match as, Es, e2, hl, ha, hn with
              | [e], [E'], _, _, ha, hn => exact mk c (snd_append c hb.1 hb.2 (hn e List.mem_cons_self) (ihP o O h2) ha) rfl fun _ => rfl
            · match as, Es, e2, hl with
              | [], [], _, _ => exact mk c (snd_pop c hb.1 hb.2 (ihP o O h2)) rfl fun _ => rfl
          · cases h
      · -- a name
        rename_i x p
        simp only [comp] at h
        split at h
        · rename_i i shapes hg
          simp only [Option.bind_eq_some_iff, Option.map_eq_some_iff] at h
          obtain ⟨sh, h1, us, h2, ws, h3, rfl⟩ := h
          have hm := List.mem_of_find?_eq_some h1
          have hp := List.find?_some h1
          simp only [Bool.and_eq_true, beq_iff_eq] at hp
          exact mk c (snd_call c (n := n) hg hm hp.1.1 hp.1.2 hp.2 (comps_noStar h2) (snd_args ihP h2) (snd_kws ihP h3) (mapM_len h2).symm (mapM_len h3).symm) rfl fun _ => rfl
        · rename_i hg
          cases ks with
          | cons _ _ => simp at h
          | nil =>
            simp only at h
            split at h
            · rename_i e1
              subst e1
              split at h
              · rename_i a t p2
                simp only [Option.bind_eq_some_iff] at h
                obtain ⟨ty, h1, h⟩ := h
                split at h
                · rename_i hb
                  simp only [Option.map_eq_some_iff] at h
                  obtain ⟨A, h2, rfl⟩ := h
                  exact mk c (snd_isi c hg h1 hb (comp_noStar h2) (ihP a A h2)) rfl fun _ => rfl
                · cases h
              · cases h
            · split at h
              · rename_i e1
                subst e1
                obtain ⟨gl, ok, hm⟩ := glb_of c hg
                split at h
                · rename_i a
                  simp only [Option.map_eq_some_iff] at h
                  obtain ⟨A, h2, rfl⟩ := h
                  exact mkIt fun tg => snd_rng1 c (comp_noStar h2) gl hm (snd_args ihP (es := [a]) (by rw [List.mapM_cons, h2]; rfl))
                · rename_i a b
                  simp only [Option.bind_eq_some_iff, Option.map_eq_some_iff] at h
                  obtain ⟨A, h2, B, h3, rfl⟩ := h
                  exact mkIt fun tg => snd_rng2 c (comp_noStar h2) (comp_noStar h3) gl hm (snd_args ihP (es := [a, b]) (by rw [List.mapM_cons, h2, List.mapM_cons, h3]; rfl))
                · cases h
              · split at h
                · cases h
                · rename_i e es _
                  simp only [Option.bind_eq_some_iff, Option.map_eq_some_iff] at h
                  obtain ⟨b, h1, Es, h2, rfl⟩ := h
                  exact mk c (snd_blt c hg h1 (comps_noStar h2) (snd_args ihP h2)) rfl fun _ => rfl
        · cases h
    | ListComp elt gs scope pos =>
      simp only [comp] at h
      split at h
      · rename_i g
        obtain ⟨tg, itr, ifs, asy⟩ := g
        split at h
        · rename_i hb
          rw [Bool.and_eq_true, Bool.and_eq_true, decide_eq_true_eq, beq_iff_eq] at hb
          simp only [Option.bind_eq_some_iff, Option.map_eq_some_iff, Option.filter_eq_some_iff] at h
          obtain ⟨src, h1, t, ⟨h2, h2'⟩, x, h3, cs, h4, rfl⟩ := h
          obtain ⟨e0, e1, e2⟩ := hb
          dsimp only at e0 e2
          subst e0
          exact mk c (snd_lc c ih e1 e2 h1 h2 h2' h3 h4 (set_no h1)) rfl fun _ => rfl
        · cases h
      · cases h
    | _ => simp [comp] at h
end Mi

/-! Mi14: statements, from the text to the small machine, and that they do the same. -/
namespace Mi
open PySem L2
variable {G : Gs} {φ : Nat → List W → M W} {k : Nat} {C : CC} {X : Cx} {Wh : WX} {N : Nat} {ψ : Nat → List W → Option (List (Str × W))}

def isComp : Expr → Bool
  | .ListComp _ _ _ _ => true
  | .SetComp _ _ _ _ => true
  | .DictComp _ _ _ _ _ => true
  | _ => false
/-- a name that is the block's own, no cell -/
def isOwn : Option NameKind → Bool
  | some .local => true
  | _ => false
def CC.own (C : CC) (x : Str) : Option Nat := if okName x && isOwn (C.sc.names.lookup x) then C.N.findIdx? (· == x) else none
def isName : Expr → Bool
  | .Name _ _ => true
  | _ => false
def nameLine : Expr → Nat
  | .Name _ p => p.line
  | _ => 0
/-- a target -/
def ctgt : Nat → CC → Expr → Option T
  | 0, _, _ => none
  | n + 1, C, e => match e with
    | .Name x _ => (C.loc x).map .nm
    | .Tuple es _ _ => (es.mapM (ctgt n C)).map .tp
    | .Subscript o i _ => (comp n C o).bind fun x => (comp n C i).map fun y => .sub x y
    | _ => none
/-- is it a comprehension that is stored at once -/
def atOnce (C : CC) (y : Str) (py : Pos) : Expr → Bool
  | .ListComp _ _ scope pos => isOwn (C.sc.names.lookup y) && py.line == pos.line && !(scope.names.any fun (n, k) => n == y && (k == .local || k == .cell))
  | _ => false
def lcName : Expr → Expr → Option (Str × Pos)
  | .Name y py, .ListComp _ _ _ _ => some (y, py)
  | _, _ => none
def parNm : Expr → Expr → Option (Str × Pos × Str × Pos × Expr × Expr)
  | .Tuple [.Name x px, .Name y py] _ _, .Tuple [a, b] _ _ => some (x, px, y, py, a, b)
  | _, _ => none
def allNm : Expr → Expr → Bool
  | .Tuple ts _ _, .Tuple _ _ _ => ts.all isName
  | _, _ => false
def cstmt : Nat → CC → Stmt → Option S
  | 0, _, _ => none
  | n + 1, C, st => match st with
    | .Expr e _ => if isComp e then none else (comp n C e).map .exp
    | .Assign [t] e pos => match lcName t e with
      | some (y, py) => if atOnce C y py e then (C.loc y).bind fun i => (comp n C e).map fun x => .set (.nm i) x else none
      | none => match parNm t e with
        | some (x, px, y, py, a, b) =>
          if px.line == py.line && !(x == y) && !([a, b].all (foldedForSure 8)) && !([a, b].all (constantsAlone 8)) then
            (C.own x).bind fun i => (C.own y).bind fun j => ([a, b].mapM (comp n C)).map fun es => .set (.tp [.nm i, .nm j]) (.tup es)
          else none
        | none => if allNm t e || isComp e then none else (ctgt n C t).bind fun tt => (comp n C e).map fun x => .set tt x
    | .Return (some e) _ => (comp n C e).map .rtn
    | .Return none _ => some .rtn0
    | .If c a b _ => (comp n C c).bind fun x => (a.mapM (cstmt n C)).bind fun y => (b.mapM (cstmt n C)).map fun z => .ite x y z
    | .For tg it body [] _ => (comp n C it).bind fun src => (ctgt n C tg).bind fun t => (body.mapM (cstmt n C)).map fun b => .for t (srcOf src).1 (srcOf src).2 b
    | .While c body [] _ => (comp n C c).bind fun x => (body.mapM (cstmt n C)).map fun b => .whl x b
    | .Pass _ => some .pss
    | .Break _ => some .brk
    | .Continue _ => some .cnt
    | _ => none

/-- where statements stand -/
structure CtxS (G : Gs) (φ : Nat → List W → M W) (k : Nat) (C : CC) (X : Cx) (Wh : WX) : Prop extends Ctx G φ k C X Wh where
  own : PassesOwn (model X.prog X.w) X.A X.env X.xe
  fn : ∀ x, X.fn x = true
  kind : X.env.scope.kind = .function
/-- what is wanted behind a statement, at what the small machine answers -/
def PostF (G : Gs) (D : Ends) (σ' : L2.St) (H' : Hp) (μ' : List Addr) : Flow → Prop
  | .nxt => D.nx σ' H'
  | .rtn w => ∀ v, Rep G H' μ' w v → D.rt v H'
  | .brk => D.bk σ' H'
  | .cnt => D.ct σ' H'
def PostS (G : Gs) (Wh : WX) (D : Ends) (H : Hp) (μ : List Addr) : ResS → Prop
  | .ok f ρ st => ∀ σ' H' μ', Grow H H' μ μ' → SR G H' μ' st → EnvR G H' μ' ρ σ' → PostF G D σ' H' μ' f
  | .exc x ρ st => ∀ cls d σ' H' μ', Grow H H' μ μ' → SR G H' μ' st → EnvR G H' μ' ρ σ' → ExcR G H' μ' x cls d → Wh cls d σ' H'
  | .stuck => False
def tS (G : Gs) (Wh : WX) (m : Env → Sto → ResS) : TS := fun D σ H => ∃ ρ μ st, EnvR G H μ ρ σ ∧ SR G H μ st ∧ PostS G Wh D H μ (m ρ st)
theorem PostS.shift {D : Ends} {H H1 : Hp} {μ μ1 : List Addr} {r : ResS} (g : Grow H H1 μ μ1) (h : PostS G Wh D H μ r) : PostS G Wh D H1 μ1 r := by
  cases r with
  | ok f ρ s => exact fun σ' H' μ' g' sr e => h σ' H' μ' (g.trans g') sr e
  | exc x ρ s => exact fun c d σ' H' μ' g' sr e x => h c d σ' H' μ' (g.trans g') sr e x
  | stuck => exact h
/-- an expression ahead of a statement's rest -/
theorem aheadS {H : Hp} {μ : List Addr} {st : Sto} {ρ : Env} {σ : L2.St} {D : Ends} {m : Env → M W} {f : W → Sto → ResS} (er : EnvR G H μ ρ σ) (sr : SR G H μ st) (h : PostS G Wh D H μ (withE (m ρ st) ρ f)) :
    tM G Wh m σ H fun x H1 => ∃ μ1 st1 w, EnvR G H1 μ1 ρ σ ∧ SR G H1 μ1 st1 ∧ Grow H H1 μ μ1 ∧ Rep G H1 μ1 w x ∧ PostS G Wh D H1 μ1 (f w st1) := by
  refine ⟨ρ, μ, st, er, sr, ?_⟩
  cases e : m ρ st with
  | ok a s =>
    rw [e] at h
    exact fun x H1 μ1 g1 sr1 r1 => ⟨μ1, s, a, er.grow sr g1, sr1, g1, r1, PostS.shift g1 h⟩
  | exc x s => rw [e] at h; exact fun c d H1 μ1 g1 sr1 xr => h c d σ H1 μ1 g1 sr1 (er.grow sr g1) xr
  | stuck => rw [e] at h; exact h
theorem aheadSB {H : Hp} {μ : List Addr} {st : Sto} {ρ : Env} {σ : L2.St} {D : Ends} {m : Env → M Bool} {f : Bool → Sto → ResS} (er : EnvR G H μ ρ σ) (sr : SR G H μ st) (h : PostS G Wh D H μ (withE (m ρ st) ρ f)) :
    tMB G Wh m σ H fun x H1 => ∃ μ1 st1, EnvR G H1 μ1 ρ σ ∧ SR G H1 μ1 st1 ∧ Grow H H1 μ μ1 ∧ PostS G Wh D H1 μ1 (f x st1) := by
  refine ⟨ρ, μ, st, er, sr, ?_⟩
  cases e : m ρ st with
  | ok a s =>
    rw [e] at h
    exact fun x H1 μ1 g1 sr1 r1 => by cases r1; exact ⟨μ1, s, er.grow sr g1, sr1, g1, PostS.shift g1 h⟩
  | exc x s => rw [e] at h; exact fun c d H1 μ1 g1 sr1 xr => h c d σ H1 μ1 g1 sr1 (er.grow sr g1) xr
  | stuck => rw [e] at h; exact h
theorem PostS.okN {D : Ends} {H : Hp} {μ : List Addr} {st : Sto} {ρ : Env} {σ : L2.St} (h : PostS G Wh D H μ (.ok .nxt ρ st)) (sr : SR G H μ st) (er : EnvR G H μ ρ σ) : D.nx σ H := h σ H μ .refl sr er

/-! ### targets -/
def PostG (G : Gs) (H : Hp) (μ : List Addr) (r : Res Env) (Q : L2.St → Hp → Prop) : Prop := match r with
  | .ok ρ st => ∀ σ' H' μ', Grow H H' μ μ' → SR G H' μ' st → EnvR G H' μ' ρ σ' → Q σ' H'
  | _ => False
def tG (G : Gs) (m : W → Env → M Env) : TG := fun v σ H Q => ∃ ρ μ st w, EnvR G H μ ρ σ ∧ SR G H μ st ∧ Rep G H μ w v ∧ PostG G H μ (m w ρ st) Q
theorem PostG.shift {H H1 : Hp} {μ μ1 : List Addr} {r : Res Env} {Q : L2.St → Hp → Prop} (g : Grow H H1 μ μ1) (h : PostG G H μ r Q) : PostG G H1 μ1 r Q := by
  cases r with
  | ok ρ s => exact fun σ' H' μ' g' sr e => h σ' H' μ' (g.trans g') sr e
  | exc x s => exact h
  | stuck => exact h
theorem pgImp {tg : Expr} {t t' : TG} (h : PG X tg t) (i : ∀ v σ H Q, t' v σ H Q → t v σ H Q) : PG X tg t' := ⟨fun p s σ H v u Q I r q => h.run p s σ H v u Q I r (i v σ H Q q)⟩
theorem pgOr {tg : Expr} {t t' : TG} (h : PG X tg t) (h' : PG X tg t') : PG X tg (fun v σ H Q => t v σ H Q ∨ t' v σ H Q) := ⟨fun p s σ H v u Q I r q => q.elim (h.run p s σ H v u Q I r) (h'.run p s σ H v u Q I r)⟩
theorem pgsImp {tg : List Expr} {t t' : TGs} (h : PGs X tg t) (i : ∀ v σ H Q, t' v σ H Q → t v σ H Q) : PGs X tg t' := ⟨fun p s σ H v u Q I r q => h.run p s σ H v u Q I r (i v σ H Q q)⟩
/-- o[i] = v, of a list of the store -/
theorem is_set {H : Hp} {μ : List Addr} {st : Sto} {o i v : V} {wo wi wv : W} {Q : Unit → Sto → Prop} {P : Hp → Prop} (sr : SR G H μ st) (ro : Rep G H μ wo o) (ri : Rep G H μ wi i) (rv : Rep G H μ wv v) {s' : Sto} (h : setW wo wi wv st = .ok () s')
    (hp : ∀ H', Grow H H' μ μ → SR G H' μ s' → P H') : rSetL o i v H P := by
  cases wo <;> cases wi <;> simp only [setW, reduceCtorEq] at h
  rename_i n kk
  split at h
  · rename_i xs e
    split at h
    · rename_i j e2
      cases h
      obtain ⟨a, vs, rfl, hm, hq, rs⟩ := Rep.lst sr ro e
      refine ⟨a, vs, kk, j, rfl, ri.int_inv, hq, by rw [← rs.length]; exact e2, ?_⟩
      obtain ⟨g, s1⟩ := sr.put (o' := .lst (vs.set j v)) (u := .lst (xs.set j wv)) hm trivial fun g e' => ⟨_, e', (rs.set_ j rv).grow sr g⟩
      exact hp _ g s1
    · cases h
  · cases h
theorem noExc_ok {α : Type} {m : M α} {s s' : Sto} {a : α} (h : noExc m s = .ok a s') : m s = .ok a s' := by
  unfold noExc at h
  split at h
  · rename_i b s1 e; cases h; exact e
  · cases h
/-- a target: what the small machine's does -/
theorem snd_tgt (c : CtxS G φ k C X Wh) : ∀ (n : Nat) (e : Expr) (t : T), ctgt n C e = some t → PG X e (tG G (asg φ t)) := by
  intro n
  induction n with
  | zero => intro e t h; simp [ctgt] at h
  | succ n ih =>
    intro e t h
    cases e with
    | Name x pos =>
      simp only [ctgt, Option.map_eq_some_iff] at h
      obtain ⟨i, h1, rfl⟩ := h
      obtain ⟨a, b, _⟩ := loc_of c.toCtx h1
      refine pgImp (pg_name c.nd a b (.inl (c.fn x))) fun v σ H Q q => ?_
      obtain ⟨ρ, μ, st, w, er, sr, r, p⟩ := q
      simp only [asg] at p
      exact p _ H μ .refl sr (er.set i r)
    | Tuple es kk pos =>
      simp only [ctgt, Option.map_eq_some_iff] at h
      obtain ⟨ts, h1, rfl⟩ := h
      have key : ∀ {es : List Expr} {ts : List T}, es.mapM (ctgt n C) = some ts →
          PGs X es (fun vs σ H Q => ∃ ρ μ st ws, EnvR G H μ ρ σ ∧ SR G H μ st ∧ Reps G H μ ws vs ∧ ws.length = ts.length ∧ PostG G H μ (asgs φ ts ws ρ st) Q) ∧ (assignEach es X.env).length = ts.length ∧ (assignEach es X.env).findIdx? (·.1) = none := by
        intro es
        induction es with
        | nil =>
          intro ts h; simp at h; subst h
          refine ⟨pgsImp pgs_nil fun v σ H Q q => ?_, rfl, rfl⟩
          obtain ⟨ρ, μ, st, ws, er, sr, r, hl, p⟩ := q
          have : ws = [] := List.eq_nil_of_length_eq_zero (by simpa using hl)
          subst this
          simp only [asgs] at p
          exact ⟨r.nil_inv, p _ H μ .refl sr er⟩
        | cons e es ih2 =>
          intro ts h
          rw [List.mapM_cons] at h
          simp only [Option.pure_def, Option.bind_eq_bind, Option.bind_eq_some_iff, Option.some.injEq] at h
          obtain ⟨t, h1, ts', h2, rfl⟩ := h
          obtain ⟨q1, q2, q3⟩ := ih2 h2
          have hns : (assignEach (e :: es) X.env) = (false, assign e X.env) :: assignEach es X.env := by
            cases n with
            | zero => simp [ctgt] at h1
            | succ n => cases e <;> first | rfl | (simp [ctgt] at h1)
          refine ⟨pgsImp (pgs_cons (ih e t h1) q1 (by rw [hns]; rfl)) fun vs σ H Q q => ?_, by rw [hns]; simp [q2], by rw [hns, List.findIdx?_cons]; simp [q3]⟩
          obtain ⟨ρ, μ, st, ws, er, sr, r, hl, p⟩ := q
          match ws, hl, r, p with
          | w :: ws, hl, r, p =>
            simp only [Reps] at r
            obtain ⟨v, vr, rfl, r1, r2⟩ := r
            refine ⟨v, vr, rfl, ρ, μ, st, w, er, sr, r1, ?_⟩
            simp only [asgs] at p
            have p : PostG G H μ ((asg φ t w ρ st).bind fun ρ1 => asgs φ ts' ws ρ1) Q := p
            cases e1 : asg φ t w ρ st with
            | ok ρ1 s1 =>
              rw [e1] at p
              exact fun σ' H' μ' g sr' er' => ⟨ρ1, μ', s1, ws, er', sr', r2.grow sr g, by simpa using hl, PostG.shift g p⟩
            | exc x s1 => rw [e1] at p; exact p
            | stuck => rw [e1] at p; exact p
      obtain ⟨q1, q2, q3⟩ := key h1
      have pT := pg_tup (pos := pos) (k := kk) c.calm q1 q2 q3
      have pL := pg_unl (pos := pos) (k := kk) c.calm q1 q2 q3
      refine pgImp (pgOr pT pL) fun v σ H Q q => ?_
      obtain ⟨ρ, μ, st, w, er, sr, r, p⟩ := q
      simp only [asg] at p
      split at p
      · rename_i ws e
        split at p
        · rename_i hl
          obtain ⟨a, vs, rfl, hq, rs⟩ := isSeq_of sr r e
          rcases hq with hq | hq
          · exact .inr ⟨a, vs, rfl, c.K ▸ hq, by rw [← rs.length]; exact hl, ρ, μ, st, ws, er, sr, rs, hl, p⟩
          · exact .inl ⟨a, vs, rfl, c.K ▸ hq, by rw [← rs.length]; exact hl, ρ, μ, st, ws, er, sr, rs, hl, p⟩
        · exact p.elim
      · exact p.elim
    | Subscript o i pos =>
      simp only [ctgt, Option.bind_eq_some_iff, Option.map_eq_some_iff] at h
      obtain ⟨O, h1, I, h2, rfl⟩ := h
      have p1 := (sound n C X Wh c.toCtx o O h1).pe
      have p2 := (sound n C X Wh c.toCtx i I h2).pe
      refine pgImp (pg_sub p1 p2 set_list (by
        have := comp_noStar h2
        cases n with
        | zero => simp [comp] at h2
        | succ n => cases i <;> first | (intro _; rfl) | (simp [comp] at h2))) fun v σ H Q q => ?_
      obtain ⟨ρ, μ, st, w, er, sr, r, p⟩ := q
      simp only [asg] at p
      cases e : noExc (bnd (den φ O ρ) fun ov => bnd (den φ I ρ) fun iv => bnd (setW ov iv w) fun _ => ret ρ) st with
      | stuck => rw [e] at p; exact p.elim
      | exc x s => rw [e] at p; exact p.elim
      | ok ρ1 s1 =>
        rw [e] at p
        obtain ⟨ov, s2, e1, e2⟩ := bind_ok_inv (noExc_ok e)
        obtain ⟨iv, s3, e3, e4⟩ := bind_ok_inv e2
        obtain ⟨u, s4, e5, e6⟩ := bind_ok_inv e4
        cases e6
        refine ⟨ρ, μ, st, er, sr, ?_⟩
        rw [e1]
        intro x H1 μ1 g1 sr1 r1
        refine ⟨ρ, μ1, s2, er.grow sr g1, sr1, ?_⟩
        rw [e3]
        intro y H2 μ2 g2 sr2 r2
        refine is_set (Q := fun _ _ => True) sr2 (r1.grow sr1 g2) r2 ((r.grow sr g1).grow sr1 g2) e5 fun H3 g3 sr3 => ?_
        exact p σ H3 μ2 ((g1.trans g2).trans g3) sr3 (((er.grow sr g1).grow sr1 g2).grow sr2 g3)
    | _ => simp [ctgt] at h
end Mi

/-! Mi15: all statements. -/
namespace Mi
open PySem L2
variable {G : Gs} {φ : Nat → List W → M W} {k : Nat} {C : CC} {X : Cx} {Wh : WX} {N : Nat} {ψ : Nat → List W → Option (List (Str × W))}

theorem swap_no {e : Expr} {t : Option Expr} {l : Nat} {env : PySem.Env} (h : isComp e = false) : swapsWith e t l env = pure false := by
  cases e <;> first | rfl | cases h
theorem swapSole_no {e t : Expr} {l : Nat} {env : PySem.Env} (h : isComp e = false) : swapsWithSole [t] e l env = pure false := swap_no h
theorem names_lt {f : Expr → Option Str} (hf : ∀ e, isName e = false → f e = none) : ∀ {ts : List Expr}, ts.all isName = false → (ts.filterMap f).length < ts.length
  | [], h => by simp at h
  | t :: ts, h => by
    rw [List.filterMap_cons]
    cases e : isName t with
    | false =>
      rw [hf t e]
      exact Nat.lt_succ_of_le (List.length_filterMap_le f ts)
    | true =>
      rw [List.all_cons, e, Bool.true_and] at h
      have := names_lt hf h
      cases q : f t with
      | none => simp only [List.length_cons]; omega
      | some y => simp only [List.length_cons]; omega
theorem stored_none {t e : Expr} {env : PySem.Env} (h : (∀ ts a b vs c d, t = .Tuple ts a b → e = .Tuple vs c d → ts.all isName = false) ∧ (∀ ts b, t ≠ .List ts b)) : swappedStores [t] e env = pure none := by
  by_cases ht : ∃ ts a b, t = .Tuple ts a b
  · obtain ⟨ts, a, b, rfl⟩ := ht
    by_cases he : ∃ vs c d, e = .Tuple vs c d
    · obtain ⟨vs, c, d, rfl⟩ := he
      have hn := h.1 ts a b vs c d rfl rfl
      unfold swappedStores
      dsimp only
      split
      · rfl
      · split
        · rfl
        · have := names_lt (f := fun e => match e with | .Name id pos => if env.kindOf id == some .local && pos.line == (ts.head?.map (·.pos.line)).getD 0 then some id else none | _ => none) (fun e he => by cases e <;> first | rfl | cases he) hn
          rw [if_pos]
          rw [Bool.or_eq_true]
          left
          exact bne_iff_ne.mpr (Nat.ne_of_lt this)
    · unfold swappedStores
      cases e <;> first | rfl | exact absurd ⟨_, _, _, rfl⟩ he
  · unfold swappedStores
    cases t <;> first | rfl | exact absurd ⟨_, _, _, rfl⟩ ht | exact absurd rfl (h.2 _ _)

theorem stored_two {x y : Str} {px py pt p2 : Pos} {kt k2 : Nat} {a b : Expr} {env : PySem.Env} (hk : env.scope.kind = .function) (hx : env.scope.names.lookup x = some .local) (hy : env.scope.names.lookup y = some .local) (hl : px.line = py.line) (hxy : ¬ x = y)
    (ha : noStar a = true) (hb : noStar b = true) (h1 : [a, b].all (foldedForSure 8) = false) (h2 : [a, b].all (constantsAlone 8) = false) : swappedStores [.Tuple [.Name x px, .Name y py] kt pt] (.Tuple [a, b] k2 p2) env = pure (some [x, y]) := by
  have hbk : env.blockKind = .function := by unfold Env.blockKind; rw [hk]; rfl
  have e1 : env.kindOf x = some .local := hx
  have e2 : env.kindOf y = some .local := hy
  unfold swappedStores
  simp only [hbk, List.length_cons, List.length_nil]
  rw [if_neg (by decide)]
  refine (if_neg ?_).trans ?_
  · intro h
    simp only [List.any_cons, List.any_nil, Bool.or_false, Bool.or_eq_true] at h
    rcases h with h | h
    · cases a <;> first | (cases ha; done) | (cases h; done)
    · cases b <;> first | (cases hb; done) | (cases h; done)
  have l1 : ([Expr.Name x px, Expr.Name y py].head?.map (·.pos.line)).getD 0 = px.line := rfl
  simp only [List.filterMap_cons, e1, e2, l1, hl, beq_self_eq_true, Bool.and_self, if_true, List.filterMap_nil]
  have ed : ([x, y] : List Str).eraseDups = [x, y] := by
    have : (x == y) = false := beq_eq_false_iff_ne.mpr hxy
    have h2 : (y == x) = false := beq_eq_false_iff_ne.mpr fun e => hxy e.symm
    simp [List.eraseDups_cons, this, h2]
  rw [ed]
  rw [if_neg (by simp), h1, if_neg (by decide), h2, if_neg (by decide)]

/-! ### loops -/
theorem srcs' {H H' : Hp} {μ μ' : List Addr} {st : Sto} {src : List (W × V)} (sr : SR G H μ st) (g : Grow H H' μ μ') (h : ∀ p ∈ src, Rep G H μ p.1 p.2) : ∀ p ∈ src, Rep G H' μ' p.1 p.2 := srcs sr g h
/-- behind a loop's body -/
abbrev loopE (D : Ends) (Nn : L2.St → Hp → Prop) : Ends := { D with nx := Nn, ct := Nn, bk := D.nx }
theorem for_ok {t : T} {ik : Ik} {its : List Mi.E} {b : List S} {σ : L2.St} {H : Hp} {D : Ends} (h : tS G Wh (exec φ N ψ (.for t ik its b)) D σ H) :
    tFor (tMI G Wh fun ρ => bnd (dens φ its ρ) (iter ik)) (tG G (asg φ t)) (tS G Wh (execs φ N ψ b)) D σ H := by
  obtain ⟨ρ, μ, st, er, sr, p⟩ := h
  simp only [exec] at p
  refine ⟨ρ, μ, st, er, sr, ?_⟩
  show PostR G (IR G) (fun c d => Wh c d σ) H μ ((bnd (dens φ its ρ) (iter ik)) st) _
  cases e : (bnd (dens φ its ρ) (iter ik)) st with
  | stuck => rw [e] at p; exact p
  | exc x s =>
    rw [e] at p
    exact fun c d H1 μ1 g1 sr1 xr => p c d σ H1 μ1 g1 sr1 (er.grow sr g1) xr
  | ok it s1 =>
    rw [e] at p
    obtain ⟨ws, nn⟩ := it
    intro J H1 μ1 g1 sr1 ⟨hz, src, hit, hsrc⟩
    dsimp only at hz hit hsrc
    have p : PostS G Wh D H μ (forGo (fun w ρ => asg φ t w ρ) (fun ρ s => execs φ N ψ b ρ s) (fun s => stays s nn ws) ws ρ s1) := p
    refine ⟨fun i m σ H => m = ws.length - i ∧ i ≤ ws.length ∧ ∃ ρ2 μ2 st2, EnvR G H μ2 ρ2 σ ∧ SR G H μ2 st2 ∧ (∀ p ∈ src, Rep G H μ2 p.1 p.2) ∧ PostS G Wh D H μ2 (forGo (fun w ρ => asg φ t w ρ) (fun ρ s => execs φ N ψ b ρ s) (fun s => stays s nn ws) (ws.drop i) ρ2 st2),
      ⟨ws.length, by simp, Nat.zero_le _, ρ, μ1, s1, er.grow sr g1, sr1, hsrc, by simpa using PostS.shift g1 p⟩, ?_⟩
    rintro i m σ2 H2 ⟨rfl, hi, ρ2, μ2, st2, er2, sr2, hsrc2, p2⟩
    by_cases hlt : i < ws.length
    · refine .inr ?_
      rw [List.drop_eq_getElem_cons hlt] at p2
      simp only [forGo] at p2
      split at p2
      · rename_i hchk
        obtain ⟨jgo, jy⟩ := hit.turn H2 μ2 st2 i ws[i] sr2 hchk hsrc2 (List.getElem?_eq_getElem hlt)
        refine ⟨jgo, fun σ' H' => ∃ ρ2 μ2 st2, EnvR G H' μ2 ρ2 σ' ∧ SR G H' μ2 st2 ∧ (∀ p ∈ src, Rep G H' μ2 p.1 p.2) ∧ PostS G Wh D H' μ2 (forGo (fun w ρ => asg φ t w ρ) (fun ρ s => execs φ N ψ b ρ s) (fun s => stays s nn ws) (ws.drop (i + 1)) ρ2 st2),
          fun σ' H' hN => ⟨ws.length - (i + 1), by omega, rfl, hlt, hN⟩, fun x H3 hy => ?_⟩
        obtain ⟨g3, sr3, rx⟩ := jy x H3 hy
        refine ⟨ρ2, μ2, st2, ws[i], er2.grow sr2 g3, sr3, rx, ?_⟩
        have p3 := PostS.shift g3 p2
        cases e3 : asg φ t ws[i] ρ2 st2 with
        | stuck => rw [e3] at p3; exact p3
        | exc x s => rw [e3] at p3; exact p3.elim
        | ok ρ3 st3 =>
          rw [e3] at p3
          intro σ4 H4 μ4 g4 sr4 er4
          refine ⟨ρ3, μ4, st3, er4, sr4, ?_⟩
          have p4 := PostS.shift g4 p3
          have hsrc4 := srcs sr3 g4 (srcs sr2 g3 hsrc2)
          dsimp only at p4
          cases e4 : execs φ N ψ b ρ3 st3 with
          | stuck => rw [e4] at p4; exact p4
          | exc x ρ5 s5 => rw [e4] at p4; exact p4
          | ok f ρ5 s5 =>
            rw [e4] at p4
            intro σ5 H5 μ5 g5 sr5 er5
            have p5 := PostS.shift g5 p4
            cases f with
            | nxt => exact ⟨ρ5, μ5, s5, er5, sr5, srcs sr4 g5 hsrc4, p5⟩
            | cnt => exact ⟨ρ5, μ5, s5, er5, sr5, srcs sr4 g5 hsrc4, p5⟩
            | brk => exact p5 σ5 H5 μ5 .refl sr5 er5
            | rtn w => exact p5 σ5 H5 μ5 .refl sr5 er5
      · exact p2.elim
    · refine .inl ?_
      have ei : i = ws.length := by omega
      subst ei
      rw [List.drop_length] at p2
      simp only [forGo] at p2
      split at p2
      · rename_i hchk
        exact ⟨hit.stop H2 μ2 st2 sr2 hchk hsrc2, p2 σ2 H2 μ2 .refl sr2 er2⟩
      · exact p2.elim
theorem whl_ok {c : Mi.E} {b : List S} {σ : L2.St} {H : Hp} {D : Ends} (h : tS G Wh (exec φ N ψ (.whl c b)) D σ H) : tWhile (tMB G Wh fun ρ => bnd (den φ c ρ) tru) (tS G Wh (execs φ N ψ b)) D σ H := by
  obtain ⟨ρ, μ, st, er, sr, p⟩ := h
  simp only [exec] at p
  refine ⟨fun m σ H => ∃ ρ μ st, EnvR G H μ ρ σ ∧ SR G H μ st ∧ PostS G Wh D H μ (whlGo (test φ c) (fun ρ s => execs φ N ψ b ρ s) m ρ st), ⟨N, ρ, μ, st, er, sr, p⟩, ?_⟩
  rintro m σ2 H2 ⟨ρ2, μ2, st2, er2, sr2, p2⟩
  cases m with
  | zero => exact p2.elim
  | succ m =>
    simp only [whlGo] at p2
    refine (aheadSB (m := fun ρ => bnd (den φ c ρ) tru) er2 sr2 p2).mono fun t H3 ⟨μ3, st3, er3, sr3, g3, p3⟩ => ?_
    cases t with
    | false =>
      rw [if_neg (by decide)] at p3 ⊢
      exact p3.okN sr3 er3
    | true =>
      rw [if_pos rfl] at p3 ⊢
      refine ⟨fun σ' H' => ∃ ρ μ st, EnvR G H' μ ρ σ' ∧ SR G H' μ st ∧ PostS G Wh D H' μ (whlGo (test φ c) (fun ρ s => execs φ N ψ b ρ s) m ρ st), fun σ' H' hN => ⟨m, Nat.lt_succ_self _, hN⟩, ρ2, μ3, st3, er3, sr3, ?_⟩
      cases e4 : execs φ N ψ b ρ2 st3 with
      | stuck => rw [e4] at p3; exact p3
      | exc x ρ5 s5 => rw [e4] at p3; exact p3
      | ok f ρ5 s5 =>
        rw [e4] at p3
        intro σ5 H5 μ5 g5 sr5 er5
        have p5 := PostS.shift g5 p3
        cases f with
        | nxt => exact ⟨ρ5, μ5, s5, er5, sr5, p5⟩
        | cnt => exact ⟨ρ5, μ5, s5, er5, sr5, p5⟩
        | brk => exact p5 σ5 H5 μ5 .refl sr5 er5
        | rtn w => exact p5 σ5 H5 μ5 .refl sr5 er5
/-- a block, from its statements -/
theorem snd_block {n : Nat} (ih : ∀ st s, cstmt n C st = some s → PS X st (tS G Wh (exec φ N ψ s))) : ∀ {sts : List Stmt} {ss : List S}, sts.mapM (cstmt n C) = some ss → PSs X sts (tS G Wh (execs φ N ψ ss))
  | [], ss, h => by
    simp at h; subst h
    refine pssImp pss_nil fun D σ H q => ?_
    obtain ⟨ρ, μ, st, er, sr, p⟩ := q
    simp only [execs] at p
    exact p.okN sr er
  | s :: sts, ss, h => by
    rw [List.mapM_cons] at h
    simp only [Option.pure_def, Option.bind_eq_bind, Option.bind_eq_some_iff, Option.some.injEq] at h
    obtain ⟨a, h1, as, h2, rfl⟩ := h
    refine pssImp (pss_cons (ih s a h1) (snd_block ih h2)) fun D σ H q => ?_
    obtain ⟨ρ, μ, st, er, sr, p⟩ := q
    simp only [execs] at p
    refine ⟨ρ, μ, st, er, sr, ?_⟩
    cases e : exec φ N ψ a ρ st with
    | stuck => rw [e] at p; exact p
    | exc x ρ5 s5 => rw [e] at p; exact p
    | ok f ρ5 s5 =>
      rw [e] at p
      intro σ5 H5 μ5 g5 sr5 er5
      have p5 := PostS.shift g5 p
      cases f with
      | nxt => exact ⟨ρ5, μ5, s5, er5, sr5, p5⟩
      | cnt => exact p5 σ5 H5 μ5 .refl sr5 er5
      | brk => exact p5 σ5 H5 μ5 .refl sr5 er5
      | rtn w => exact p5 σ5 H5 μ5 .refl sr5 er5
theorem own_of (c : Ctx G φ k C X Wh) {x : Str} {i : Nat} (h : C.own x = some i) : X.N[i]? = some x ∧ X.env.scope.names.lookup x = some .local ∧ okName x = true := by
  unfold CC.own at h
  split at h
  · rename_i hv
    rw [Bool.and_eq_true] at hv
    refine ⟨by rw [c.N]; exact findIdx_get h, ?_, hv.1⟩
    have h2 := hv.2
    rw [← c.sc] at h2
    unfold isOwn at h2
    split at h2
    · rename_i e; exact e
    · cases h2
  · cases h
/-- target = value -/
theorem snd_set {te : TE} {t : T} {E : Mi.E} {σ : L2.St} {H : Hp} {D : Ends} (hte : ∀ (Q : VK), tM G Wh (den φ E) σ H Q → te σ H Q) (q : tS G Wh (exec φ N ψ (.set t E)) D σ H) : tAsg te (tG G (asg φ t)) D σ H := by
  obtain ⟨ρ, μ, st, er, sr, p⟩ := q
  simp only [exec] at p
  refine hte _ ((aheadS er sr p).mono fun x H1 ⟨μ1, st1, w, er1, sr1, g1, rx, p1⟩ => ⟨ρ, μ1, st1, w, er1, sr1, rx, ?_⟩)
  cases e : asg φ t w ρ st1 with
  | stuck => rw [e] at p1; exact p1
  | exc x s => rw [e] at p1; exact p1.elim
  | ok ρ2 s2 => rw [e] at p1; exact fun σ' H' μ' g' sr' er' => p1 σ' H' μ' g' sr' er'

theorem par_ok {i j : Nat} {es : List Mi.E} {σ : L2.St} {H : Hp} {D : Ends} (hl : es.length = 2) (q : tS G Wh (exec φ N ψ (.set (.tp [.nm i, .nm j]) (.tup es))) D σ H) : tPar i j (tML G Wh (dens φ es)) D σ H := by
  obtain ⟨ρ, μ, st, er, sr, p⟩ := q
  simp only [exec, den] at p
  refine ⟨ρ, μ, st, er, sr, ?_⟩
  cases e : dens φ es ρ st with
  | stuck =>
    have p : PostS G Wh D H μ (withE ((dens φ es ρ st).bind _) ρ _) := p
    rw [e] at p; exact p
  | exc x s =>
    have p : PostS G Wh D H μ (withE ((dens φ es ρ st).bind _) ρ _) := p
    rw [e] at p
    exact fun c d H1 μ1 g1 sr1 xr => p c d σ H1 μ1 g1 sr1 (er.grow sr g1) xr
  | ok ws s1 =>
    have p : PostS G Wh D H μ (withE ((dens φ es ρ st).bind fun ws => if ws.length ≤ SZ then ret (.tup ws) else bad) ρ fun w s1 => match asg φ (.tp [.nm i, .nm j]) w ρ s1 with | .ok ρ1 s2 => .ok .nxt ρ1 s2 | _ => .stuck) := p
    rw [e] at p
    have l2 := dens_len φ ρ e
    rw [hl] at l2
    match ws, l2, p with
    | [a, b], _, p =>
      intro vs H1 μ1 g1 sr1 rs
      obtain ⟨v, y, rfl, r1, r2⟩ := rs.two
      refine ⟨v, y, rfl, ?_⟩
      have hz : ([a, b] : List W).length ≤ SZ := by simp [SZ]
      rw [bind_ok, if_pos hz] at p
      have p : PostS G Wh D H μ (.ok .nxt ((ρ.set i (some a)).set j (some b)) s1) := by
        simpa only [withE, asg, asgs, isSeq, List.length_cons, List.length_nil, if_true, bind_ok] using p
      exact p _ H1 μ1 g1 sr1 (((er.grow sr g1).set i r1).set j r2)
theorem cblock {n : Nat} {l : List Stmt} {r : List S} (h : l.mapM (cstmt n C) = some r) : l.mapM (cstmt n C) = some r := h
/-- statements: the text's do what the small machine's do -/
theorem soundS (c : CtxS G φ k C X Wh) : ∀ (n : Nat) (st : Stmt) (s : S), cstmt n C st = some s → PS X st (tS G Wh (exec φ N ψ s)) := by
  intro n
  induction n with
  | zero => intro st s h; simp [cstmt] at h
  | succ n ih =>
    intro st s h
    have ihE : ∀ e E, comp n C e = some E → SndE G φ X Wh e E := sound n C X Wh c.toCtx
    cases st with
    | Expr e pos =>
      simp only [cstmt] at h
      split at h
      · cases h
      · rename_i hc
        simp only [Option.map_eq_some_iff] at h
        obtain ⟨E, h1, rfl⟩ := h
        refine psImp (ps_expr (ihE e E h1).pe (swap_no (by simpa using hc))) fun D σ H q => ?_
        obtain ⟨ρ, μ, st, er, sr, p⟩ := q
        simp only [exec] at p
        exact (aheadS er sr p).mono fun x H1 ⟨μ1, st1, w, er1, sr1, g1, rx, p1⟩ => p1.okN sr1 er1
    | Assign ts e pos =>
      rcases ts with _ | ⟨t, _ | ⟨_, _⟩⟩
      · simp [cstmt] at h
      · -- the three ways
        have plain : isComp e = false → swappedStores [t] e X.env = pure none → ∀ tt x, ctgt n C t = some tt → comp n C e = some x → s = .set tt x → PS X (.Assign [t] e pos) (tS G Wh (exec φ N ψ s)) := by
          rintro hc hsw tt x h1 h2 rfl
          have h1' : (assignEach [t] X.env).map (·.2) = [assign t X.env] := by
            cases n with
            | zero => simp [ctgt] at h1
            | succ n => cases t <;> first | rfl | (simp [ctgt] at h1)
          exact psImp (ps_asg (ihE e x h2).pe (snd_tgt c n t tt h1) (swapSole_no hc) hsw h1') fun D σ H q => snd_set (fun Q q => q) q
        simp only [cstmt] at h
        split at h
        · rename_i y py hlc
          have : ∃ a b cc d, t = .Name y py ∧ e = .ListComp a b cc d := by
            unfold lcName at hlc
            split at hlc
            · cases hlc; exact ⟨_, _, _, _, rfl, rfl⟩
            · cases hlc
          obtain ⟨a, gs, scope, cpos, rfl, rfl⟩ := this
          split at h
          · rename_i hao
            simp only [Option.bind_eq_some_iff, Option.map_eq_some_iff] at h
            obtain ⟨i, h1, x, h2, rfl⟩ := h
            obtain ⟨l1, l2, l3⟩ := loc_of c.toCtx h1
            simp only [atOnce, Bool.and_eq_true, Bool.not_eq_true'] at hao
            have hyl : X.env.scope.names.lookup y = some .local := by
              rw [c.sc]
              have := hao.1.1
              unfold isOwn at this
              split at this
              · rename_i e; exact e
              · cases this
            have hsw : swapsWith (.ListComp a gs scope cpos) (some (.Name y py)) pos.line X.env = pure true := sw_true c.kind hyl hao.1.2 hao.2
            cases n with
            | zero => simp [comp] at h2
            | succ n =>
              simp only [comp] at h2
              split at h2
              · rename_i g
                obtain ⟨tg, itr, ifs, asy⟩ := g
                split at h2
                · rename_i hb
                  rw [Bool.and_eq_true, Bool.and_eq_true, decide_eq_true_eq, beq_iff_eq] at hb
                  simp only [Option.bind_eq_some_iff, Option.map_eq_some_iff, Option.filter_eq_some_iff] at h2
                  obtain ⟨src, g1, t, ⟨g2, g2'⟩, x, g3, cs, g4, rfl⟩ := h2
                  obtain ⟨e0, e1, e2⟩ := hb
                  dsimp only at e0 e2
                  subst e0
                  obtain ⟨w1, w2, w3, w4, w5⟩ := lc_parts c.toCtx (fun C X Wh c e E h => sound n C X Wh c e E h) e1 e2 g1 g2 g2' g3 g4
                  exact psImp (ps_setLc c.calm c.nd l1 hyl hsw w1 w2 w3 w4 w5 (set_no g1)) fun D σ H q => by
                    obtain ⟨ρ, μ, st, er, sr, p⟩ := q
                    simp only [exec] at p
                    exact lc_ok g2' ((aheadS er sr p).mono fun x H1 ⟨μ1, st1, w, er1, sr1, g1, rx, p1⟩ => by
                      simp only [asg] at p1
                      exact p1 _ H1 μ1 .refl sr1 (er1.set i rx))
                · cases h2
              · cases h2
          · cases h
        · split at h
          · rename_i x px y py a b hpr
            have : ∃ kt pt k2 p2, t = .Tuple [.Name x px, .Name y py] kt pt ∧ e = .Tuple [a, b] k2 p2 := by
              unfold parNm at hpr
              split at hpr
              · cases hpr; exact ⟨_, _, _, _, rfl, rfl⟩
              · cases hpr
            obtain ⟨kt, pt, k2, p2, rfl, rfl⟩ := this
            split at h
            · rename_i hao
              simp only [Bool.and_eq_true, Bool.not_eq_true', beq_iff_eq] at hao
              simp only [Option.bind_eq_some_iff, Option.map_eq_some_iff] at h
              obtain ⟨i, h1, j, h2, es, h3, rfl⟩ := h
              obtain ⟨a1, a2, a3⟩ := own_of c.toCtx h1
              obtain ⟨b1, b2, b3⟩ := own_of c.toCtx h2
              have hns := comps_noStar h3
              have hxy : ¬ x = y := by have := hao.1.1.2; simpa using this
              have hij : i ≠ j := fun e => by subst e; rw [a1] at b1; cases b1; exact hxy rfl
              exact psImp (ps_par c.calm c.nd a1 b1 hij a2 b2 (snd_args (fun e E h => (ihE e E h).pe) h3) (stored_two c.kind a2 b2 hao.1.1.1 hxy (hns a (by simp)) (hns b (by simp)) hao.1.2 hao.2) rfl) fun D σ H q => par_ok (mapM_len h3).symm q
            · cases h
          · split at h
            · cases h
            · rename_i hc
              simp only [Bool.or_eq_true, not_or, Bool.not_eq_true] at hc
              simp only [Option.bind_eq_some_iff, Option.map_eq_some_iff] at h
              obtain ⟨tt, h1, x, h2, rfl⟩ := h
              refine plain hc.2 (stored_none ⟨fun ts a b vs c' d' e1 e2 => ?_, fun ts b e1 => ?_⟩) tt x h1 h2 rfl
              · subst e1 e2; exact hc.1
              · subst e1
                cases n <;> simp [ctgt] at h1
      · simp [cstmt] at h
    | Return v pos =>
      cases v with
      | none =>
        simp only [cstmt, Option.some.injEq] at h
        subst h
        refine psImp ps_retN fun D σ H q => ?_
        obtain ⟨ρ, μ, st, er, sr, p⟩ := q
        simp only [exec] at p
        exact p σ H μ .refl sr er .non Rep.non_
      | some e =>
        simp only [cstmt, Option.map_eq_some_iff] at h
        obtain ⟨E, h1, rfl⟩ := h
        refine psImp (ps_ret (ihE e E h1).pe) fun D σ H q => ?_
        obtain ⟨ρ, μ, st, er, sr, p⟩ := q
        simp only [exec] at p
        exact (aheadS er sr p).mono fun x H1 ⟨μ1, st1, w, er1, sr1, g1, rx, p1⟩ => p1 σ H1 μ1 .refl sr1 er1 x rx
    | If d a b pos =>
      simp only [cstmt, Option.bind_eq_some_iff, Option.map_eq_some_iff] at h
      obtain ⟨Dd, h1, A, h2, B, h3, rfl⟩ := h
      refine psImp (ps_if (ihE d Dd h1).pt (snd_block ih h2) (snd_block ih h3)) fun D σ H q => ?_
      obtain ⟨ρ, μ, st, er, sr, p⟩ := q
      simp only [exec] at p
      refine (aheadSB (m := fun ρ => bnd (den φ Dd ρ) tru) er sr p).mono fun t H1 ⟨μ1, st1, er1, sr1, g1, p1⟩ => ?_
      cases t with
      | true => rw [if_pos rfl] at p1 ⊢; exact ⟨ρ, μ1, st1, er1, sr1, p1⟩
      | false => rw [if_neg (by decide)] at p1 ⊢; exact ⟨ρ, μ1, st1, er1, sr1, p1⟩
    | For tg it body orelse pos =>
      cases orelse with
      | cons _ _ => simp [cstmt] at h
      | nil =>
        simp only [cstmt, Option.bind_eq_some_iff, Option.map_eq_some_iff] at h
        obtain ⟨src, h1, t, h2, b, h3, rfl⟩ := h
        exact psImp (ps_for c.own c.calm ((ihE it src h1).pi tg) (snd_tgt c n tg t h2) (snd_block ih h3) (set_no h1)) fun D σ H q => for_ok q
    | While d body orelse pos =>
      cases orelse with
      | cons _ _ => simp [cstmt] at h
      | nil =>
        simp only [cstmt, Option.bind_eq_some_iff, Option.map_eq_some_iff] at h
        obtain ⟨Dd, h1, b, h3, rfl⟩ := h
        exact psImp (ps_while c.own (ihE d Dd h1).pt (snd_block ih h3)) fun D σ H q => whl_ok q
    | Pass pos =>
      simp only [cstmt, Option.some.injEq] at h
      subst h
      refine psImp ps_pass fun D σ H q => ?_
      obtain ⟨ρ, μ, st, er, sr, p⟩ := q
      simp only [exec] at p
      exact p.okN sr er
    | Break pos =>
      simp only [cstmt, Option.some.injEq] at h
      subst h
      refine psImp ps_break fun D σ H q => ?_
      obtain ⟨ρ, μ, st, er, sr, p⟩ := q
      simp only [exec] at p
      exact p σ H μ .refl sr er
    | Continue pos =>
      simp only [cstmt, Option.some.injEq] at h
      subst h
      refine psImp ps_continue fun D σ H q => ?_
      obtain ⟨ρ, μ, st, er, sr, p⟩ := q
      simp only [exec] at p
      exact p σ H μ .refl sr er
    | _ => simp [cstmt] at h
end Mi

/-! Mi16: defs. -/
namespace Mi
open PySem L2
variable {G : Gs} {N : Nat} {ψ : Nat → List W → Option (List (Str × W))}

theorem start_env {H : Hp} {μ : List Addr} {ws : List W} {vs : List V} (r : Reps G H μ ws vs) (n m : Nat) (h : m = n) : EnvR G H μ (ws.map some ++ List.replicate n none) (vs.map some ++ List.replicate m none) := by
  subst h
  refine ⟨by simp [r.length], fun i w e => ?_⟩
  by_cases hi : i < ws.length
  · rw [List.getElem?_append_left (by simpa using hi), List.getElem?_map, Option.map_eq_some_iff] at e
    obtain ⟨w', e, e2⟩ := e
    cases e2
    obtain ⟨v, e3, rv⟩ := r.get i e
    exact ⟨v, by rw [List.getElem?_append_left (by rw [List.length_map, ← r.length]; exact hi), List.getElem?_map, e3]; rfl, rv⟩
  · rw [List.getElem?_append_right (by simpa using hi), List.getElem?_replicate] at e
    split at e <;> cases e
/-- a def keeps the promise that the small machine's def makes, one call deeper than those that it calls -/
theorem fnG_of {P : Program} {w : World} {K : PySem.W.Frag} {mg : Str → Option Value} {base : Heap} {k : Nat} {φ : Nat → List W → M W} {gt : List (Str × GE)} {x qual : Str} {st : Stmt} {f : Addr} {fd : FuncData} {Nn ps : List Str} {n : Nat} {body : List S} {m : List W → M W}
    (hK : G.K = K) (F : Fun K x qual st f fd) (Sc : FnScope Nn ps (defScope st)) (hs : SysM base) (hb : (defBody st).mapM (cstmt n ⟨Nn, defScope st, gt⟩) = some body)
    (hgt : ∀ X : Cx, X.prog = P → X.w = w → X.K = K → X.mg = mg → X.base = base → ∀ x e, gt.lookup x = some e → GtOk G φ k X x e)
    (hm : ∀ ws s, ws.length = ps.length → m ws s = bodyRes (execs φ N ψ body (ws.map some ++ List.replicate (Nn.length - ps.length) none) s)) :
    FnG P w K mg base (k + 1) f fd ps (spF G m ps.length) := by
  obtain ⟨oc, od, kV, doc, pm, an, cdv, ct, osl, rfl, lk, hcd⟩ := F.ex
  refine ⟨fun vs H Q E h => h.1, fun A outer s H args us vs Q E hg hr e0 hbd r hsp => ?_⟩
  obtain ⟨hl, μ, sto, ws, sr, rs, pp⟩ := hsp
  have KX : K.In s.heap := e0.mod.kin.keeps fun b o e => (e0.bs b o e).1
  have lim : s.heap.NoLimit := e0.mod.nolimit.keeps fun b o e => (e0.bs b o e).1
  have hkind : ∀ y ∈ ps.zip us, (defScope st).names.lookup y.1 = some .local ∨ ((defScope st).names.lookup y.1 = some .cell ∧ ((cellsFrom (s.heap.objs.size + 1) (defScope st).names []).lookup y.1).isSome = true) := by
    rintro ⟨nm, v⟩ hy
    rcases Sc.par nm (List.of_mem_zip hy).1 with q | q
    · exact .inl q
    · exact .inr ⟨q, PySem.W.cellsFrom_some _ _ _ (.inl q)⟩
  refine codeAny_call_function hr.depth (KX _ _ lk) rfl Sc.co Sc.gen rfl (PySem.W.codeRec_of KX hcd) (hbd _ _ _ _ (wpAny_newFunctionEnv_cells Sc.kind hkind ?_))
  rintro env rfl s1 x1
  refine ⟨lim.keeps x1.toInCall.keep, codeAny_func ?_⟩
  let X : Cx := cxOf (L2.CX P w) P w K mg base Nn qual (defScope st) f cdv A outer s H E
  have I : Inv X [] (start Nn vs) H s1 := inv_start Sc hr.hd e0 hl r x1
  have tk : Takes X (fun c d _ H' => E c d H') := takes_of rfl rfl rfl rfl
  have cx : CtxS G φ k ⟨Nn, defScope st, gt⟩ X (fun c d _ H' => E c d H') :=
    { K := hK, N := rfl, sc := rfl, nd := Sc.nd, calm := rfl, guards := hg, room := hr.deeper _, sysm := hs, gt := hgt X rfl rfl rfl rfl rfl, tk := tk, own := passes_of rfl, fn := fun _ => rfl, kind := Sc.kind }
  have pss : PSs X (defBody st) (tS G (fun c d _ H' => E c d H') (execs φ N ψ body)) := snd_block (soundS cx n) hb
  have lw : ws.length = ps.length := by rw [rs.length]; exact hl
  have hpl : ps.length ≤ Nn.length := by have := congrArg List.length Sc.pre; rw [List.length_take] at this; omega
  have er : EnvR G H μ (ws.map some ++ List.replicate (Nn.length - ps.length) none) (start Nn vs) := start_env rs _ _ (by rw [hl])
  have fin : ∀ {σ' : L2.St} {H' : Hp} {v : V} {u : Value} {s' : Shared}, Inv X [] σ' H' s' → RelV v u → Q v H' → CE outer P w H s Q u s' := fun J rv q => ⟨_, _, J.os, J.bare, J.base, J.hok, rv, q⟩
  refine wpAny_mono (pss.run [] s1 (start Nn vs) H { nx := fun _ H' => Q .non H', rt := Q } I ⟨_, μ, sto, er, sr, ?_⟩) (fun fl s' hq => ?_) fun e s' hq => hq
  · have pp : Post G E H μ (m ws sto) Q := pp
    rw [hm ws sto lw] at pp
    cases e : execs φ N ψ body (ws.map some ++ List.replicate (Nn.length - ps.length) none) sto with
    | stuck => rw [e] at pp; exact pp
    | exc x ρ s5 => rw [e] at pp; exact fun c d σ' H' μ' g s r x => pp c d H' μ' g s x
    | ok fl ρ s5 =>
      rw [e] at pp
      intro σ' H' μ' g' sr' er'
      cases fl with
      | nxt => exact pp .non H' μ' g' sr' Rep.non_
      | rtn w => exact fun v rv => pp v H' μ' g' sr' rv
      | brk => exact pp.elim
      | cnt => exact pp.elim
  · cases fl with
    | ret u =>
      obtain ⟨v, σ', H', J, rv, q⟩ := hq
      exact fin J rv q
    | next =>
      obtain ⟨σ', H', J, q⟩ := hq
      exact fin (v := V.non) (u := Value.none) J rfl q
    | brk =>
      obtain ⟨_, _, _, q⟩ := hq
      exact q.elim
    | cont =>
      obtain ⟨_, _, _, q⟩ := hq
      exact q.elim

/-! ### all defs -/
/-- a name of the module, as the top has left it -/
def StatOk (G : Gs) (mg : Str → Option Value) (gt : List (Str × GE)) (ds : List FD) (x : Str) : GE → Prop
  | .cst w => ∃ u v, mg x = some u ∧ RelV v u ∧ ∀ H μ, Rep G H μ w v
  | .blt => mg x = none
  | .fn i shapes => ∃ f fd qual st Nn ps n body, mg x = some (.ref f) ∧ G.gl i = some (.ref f) ∧ Fun G.K x qual st f fd ∧ FnScope Nn ps (defScope st) ∧ ds[i]? = some ⟨ps.length, Nn.length, body⟩ ∧
      (defBody st).mapM (cstmt n ⟨Nn, defScope st, gt⟩) = some body ∧ ∀ sh ∈ shapes, ShapeOk G fd ps sh
theorem levels {P : Program} {w : World} {mg : Str → Option Value} {base : Heap} {gt : List (Str × GE)} {ds : List FD} (hs : SysM base) (h : ∀ x e, gt.lookup x = some e → StatOk G mg gt ds x e) :
    ∀ (k : Nat) (X : Cx), X.prog = P → X.w = w → X.K = G.K → X.mg = mg → X.base = base → ∀ x e, gt.lookup x = some e → GtOk G (fsem N ψ ds k) k X x e := by
  intro k
  induction k with
  | zero =>
    rintro X rfl rfl hK rfl rfl x e he
    have q := h x e he
    cases e with
    | cst w => exact q
    | blt => exact q
    | fn i shapes =>
      obtain ⟨f, fd, qual, st, Nn, ps, n, body, h1, h2, h3, h4, h5, h6, h7⟩ := q
      refine ⟨f, fd, ps, h1, h2, hK ▸ h3.kp, ⟨fun vs H Q E h => h.1, fun A outer s H args us vs Q E _ _ _ _ _ hsp => ?_⟩, h7⟩
      obtain ⟨_, μ, sto, ws, _, _, pp⟩ := hsp
      exact (show False from pp).elim
  | succ k ih =>
    rintro X rfl rfl hK rfl rfl x e he
    have q := h x e he
    cases e with
    | cst w => exact q
    | blt => exact q
    | fn i shapes =>
      obtain ⟨f, fd, qual, st, Nn, ps, n, body, h1, h2, h3, h4, h5, h6, h7⟩ := q
      refine ⟨f, fd, ps, h1, h2, hK ▸ h3.kp, ?_, h7⟩
      refine fnG_of (φ := fsem N ψ ds k) (N := N) (ψ := ψ) hK.symm (hK ▸ h3) h4 hs h6 (fun Y a b c d e => ih Y a b (c.trans hK) d e) fun ws s hl => ?_
      simp only [fsem, h5, hl, if_true]
end Mi

/-! Mi17: the law's own call. -/
namespace Mi
open PySem L2 PyProof.Rows
variable {G : Gs} {N : Nat} {ψ : Nat → List W → Option (List (Str × W))}

/-- what the law's call has to end in -/
abbrev Done (s₁ : Shared) (r : Result) (s' : Shared) : Prop := r = .ok (.ret (.bool true)) ∧ OldK s₁.heap s'.heap ∧ s'.os = s₁.os ∧ AllBare s'.gens
/-- nothing is tracked but at most the script, which is known to the object -/
theorem call_at {P : Program} {w : World} {mg mb : Str → Option Value} {k : Nat} {fa a : Addr} {fd : FuncData} {ps : List Str} {m : List W → M W} {s₁ : Shared} {ns : List Int} {H : Hp}
    (KX : G.K.In s₁.heap) (hns : s₁.heap.Ns mainGlobals mg) (hb : s₁.heap.Ns builtinsNs mb) (hbb : ∀ x : Str, x ≠ "__name__" → mb x = bootBuiltins x) (hlim : s₁.heap.NoLimit) (hsys : SysM s₁.heap) (hg : s₁.gens = #[])
    (hr : Room k callerA) (hH : ∀ b u, H b = some u → b = a ∧ (∃ o, u = .frz o (.lst (ns.map V.int))) ∧ (∃ o, s₁.heap.get? b = some o ∧ ∀ es ep, o.data ≠ .dict es ep) ∧ G.K.lookup b = none) (hok : HOk P w H s₁.heap)
    (hrep : Rep G H [] (.frl (ns.map W.int)) (.ref a))
    (F : ∀ base : Heap, G.K.In base → SysM base → FnG P w G.K mg base k fa fd ps (spF G m ps.length)) (hps : ps.length = 1) (hbind : BindsTo s₁ fd ⟨[.ref a], []⟩ (ps.zip [.ref a]))
    (hm : wp (m [.frl (ns.map W.int)] []) fun w _ => w = .bl true) : codeAny (model P w) callerA (.call (.ref fa) ⟨[.ref a], []⟩) (Done s₁) s₁ := by
  have noD : ∀ {b : Addr} {o : Obj} {es : Array DictEntry} {ep : Nat}, s₁.heap.get? b = some o → o.data = .dict es ep → H b = none := fun {b o es ep} e d => by
    cases q : H b with
    | none => rfl
    | some u =>
      obtain ⟨_, _, ⟨o', e', hd⟩, _⟩ := hH b u q
      rw [e] at e'; cases e'
      exact absurd d (hd es ep)
  have nsK : ∀ {b : Addr} {f : Str → Option Value}, s₁.heap.Ns b f → (hidT s₁.heap H).Ns b f := fun {b f} ⟨o, es, ep, e, d, r⟩ => ⟨o, es, ep, hidT_get e (noD e d), d, r⟩
  have hKb : G.K.In (hidT s₁.heap H) := fun b o e => hidT_get (KX b o e) (by
    cases q : H b with
    | none => rfl
    | some u =>
      obtain ⟨_, _, _, z⟩ := hH b u q
      rw [e] at z; cases z)
  obtain ⟨ms, hms⟩ := hsys
  have hM : Mod G.K mg (hidT s₁.heap H) := ⟨hKb, nsK hns, ⟨mb, nsK hb, hbb⟩, by obtain ⟨mc, h1, h2⟩ := hlim; exact ⟨mc, nsK h1, h2⟩⟩
  have e0 : Env0 P w G.K mg (hidT s₁.heap H) callerA [] s₁ H := ⟨rfl, hM, fun b o e => of_hidT e, Nat.le_of_eq (hidT_size _ _), trivial, fun b hb => (by cases hb), hok, .of_eq hg⟩
  have sr : SR G H [] [] := ⟨rfl, List.nodup_nil, fun n a o h => by simp at h⟩
  have post : Post G (fun _ _ _ => False) H [] (m [.frl (ns.map W.int)] []) fun v _ => v = .bl true := by
    cases e : m [.frl (ns.map W.int)] [] with
    | stuck => rw [e] at hm; exact hm
    | exc x s => rw [e] at hm; exact hm.elim
    | ok w s =>
      rw [e] at hm
      have hw : w = .bl true := hm
      subst hw
      exact fun v H' μ' g sr' r => r.bl_inv
  refine codeAny_mono ((F _ hKb ⟨ms, nsK hms⟩).run callerA [] s₁ H ⟨[.ref a], []⟩ [.ref a] [.ref a] (fun v _ => v = .bl true) (fun _ _ _ => False) rfl hr e0 hbind (.cons rfl .nil) ⟨hps.symm, [], [], [.frl (ns.map W.int)], sr, Reps.nil_.cons_ hrep, post⟩) fun r s' h => ?_
  cases r with
  | error e =>
    obtain ⟨_, _, _, _, _, _, _, _, _, _, _, _, z⟩ := h
    exact z.elim
  | ok fl =>
    cases fl with
    | next => exact False.elim h
    | brk => exact False.elim h
    | cont => exact False.elim h
    | ret u =>
      obtain ⟨v, H', os, bare, un, hok', r', q⟩ := h
      have q' : v = .bl true := q
      subst q'
      obtain rfl : u = Value.bool true := r'
      refine ⟨rfl, OldK.of_keep fun b o e => ?_, os, bare⟩
      cases q : H b with
      | none => exact un.keep b o e q (fun z => by cases z) (fun z => by cases z)
      | some u =>
        obtain ⟨_, ⟨ob, rfl⟩, _, _⟩ := hH b u q
        obtain ⟨e1, _⟩ := hok b _ q
        obtain ⟨e2, _⟩ := hok' b _ (un.frzs b ob _ q)
        rw [e] at e1; cases e1
        exact e2
theorem int_reps {H : Hp} {μ : List Addr} : ∀ (ns : List Int), Reps G H μ (ns.map W.int) (ns.map V.int)
  | [] => Reps.nil_
  | n :: ns => (int_reps ns).cons_ Rep.int_
theorem law_at {P : Program} {w : World} {mg mb : Str → Option Value} {k : Nat} {fa a : Addr} {fd : FuncData} {ps : List Str} {m : List W → M W} {s₁ : Shared} {vs : List Value} {ns : List Int}
    (KX : G.K.In s₁.heap) (hns : s₁.heap.Ns mainGlobals mg) (hb : s₁.heap.Ns builtinsNs mb) (hbb : ∀ x : Str, x ≠ "__name__" → mb x = bootBuiltins x) (hlim : s₁.heap.NoLimit) (hsys : SysM s₁.heap) (hg : s₁.gens = #[])
    (ha : s₁.heap.get? a = some { cls := .type "list", data := .seq vs.toArray }) (hi : IntsAre vs ns) (hl : ns.length ≤ sizeLine) (hr : Room k callerA)
    (F : ∀ base : Heap, G.K.In base → SysM base → FnG P w G.K mg base k fa fd ps (spF G m ps.length)) (hps : ps.length = 1) (hbind : BindsTo s₁ fd ⟨[.ref a], []⟩ (ps.zip [.ref a]))
    (hm : wp (m [.frl (ns.map W.int)] []) fun w _ => w = .bl true) : codeAny (model P w) callerA (.call (.ref fa) ⟨[.ref a], []⟩) (Done s₁) s₁ := by
  have rv := vals_ints hi
  have lenV := hi.length
  cases hk : G.K.lookup a with
  | some o =>
    have e := KX a o hk
    rw [ha] at e
    cases e
    refine call_at (H := fun _ => none) (a := a) (ns := ns) KX hns hb hbb hlim hsys hg hr (fun b u z => (by cases z)) (fun b u z => (by cases z)) ?_ F hps hbind hm
    simp only [Rep]
    exact ⟨a, ns.map V.int, rfl, .inr ⟨_, vs.toArray, _, hk, rfl, rfl, rfl, by rw [List.size_toArray, lenV]; exact hl, by simpa using rv⟩, int_reps ns⟩
  | none =>
    have hH : ∀ b u, (fun b => if b = a then some (HO.frz { cls := .type "list", data := .seq vs.toArray } (.lst (ns.map V.int))) else none) b = some u → b = a ∧ u = .frz { cls := .type "list", data := .seq vs.toArray } (.lst (ns.map V.int)) := by
      intro b u z
      dsimp only at z
      split at z
      · rename_i e; cases z; exact ⟨e, rfl⟩
      · cases z
    refine call_at (H := fun b => if b = a then some (.frz { cls := .type "list", data := .seq vs.toArray } (.lst (ns.map V.int))) else none) (a := a) (ns := ns) KX hns hb hbb hlim hsys hg hr (fun b u z => ?_) (fun b u z => ?_) ?_ F hps hbind hm
    · obtain ⟨rfl, rfl⟩ := hH b u z
      exact ⟨rfl, ⟨_, rfl⟩, ⟨_, ha, fun es ep => by simp⟩, hk⟩
    · obtain ⟨rfl, rfl⟩ := hH b u z
      exact ⟨ha, by rw [List.length_map]; exact hl, vs, _, rv, ha⟩
    · simp only [Rep]
      exact ⟨a, ns.map V.int, rfl, .inl ⟨_, if_pos rfl⟩, int_reps ns⟩
/-- the law is called with its script -/
abbrev lawShape : Shape := ⟨1, [], [], [0]⟩
/-- the goal that the head leaves: from what each name of the module stands for, and the small machine's run of the law -/
theorem walkG {l : PySem.W.OpenLaw} {n k : Nat} {q : Program} {loose : List Str} {XP : (Str → Option Value) → Heap → Prop} {YP : World → Heap → Prop} {d : DefRec} {K : Params → PySem.W.Frag} {gt : List (Str × GE)} {ds : List FD} {iL : Nat} {shL : List Shape} {body : List S} {sl : Nat}
    (hn : l.most = some n) (hn2 : n ≤ sizeLine) (hdf : d.params.defaults = []) (hr : Room k callerA) (hq : importsNone q = true) (hY : ∀ (w : World) (h : Heap), YP w h → (K w.params).In h) (hL : gt.lookup d.name = some (.fn iL shL)) (hsh : lawShape ∈ shL) (hd1 : ds[iL]? = some ⟨1, sl, body⟩)
    (hm : ∀ ns : List Int, ns.length ≤ n → wp (fsem N ψ ds k iL [.frl (ns.map W.int)] []) fun w _ => w = .bl true)
    (F : ∀ (w : World) (mg : Str → Option Value) (h : Heap), (K w.params).In h → h.Ns mainGlobals mg → ∃ G : Gs, G.K = K w.params ∧ ∀ x e, gt.lookup x = some e → StatOk G mg gt ds x e) :
    PySem.W.WalkO q loose XP YP l.row.toRowW d [] (fun f vs => PySem.call f vs) := by
  refine Att.attach_call hn hdf fun w s₀ s₁ mg mb fa o pm cd doc a vs ns Gr Y ho hd hcd hmg hobj hints hlen hg => ?_
  have KX := hY w _ Y
  obtain ⟨G, hGK, hst⟩ := F w mg _ KX Gr.T.g
  rw [← hGK] at KX
  have hsys : SysM s₁.heap := by
    obtain ⟨mm, h, _⟩ := (Gr.T.seer hq).mods
    exact ⟨mm, h⟩
  obtain ⟨f, fd, qual, st, Nn, ps, nn, body', h1, h2, h3, h4, h5, h6, h7⟩ := hst _ _ hL
  rw [hd1] at h5
  have hps : ps.length = 1 := by
    have := Option.some.inj h5
    injection this with e
    exact e.symm
  obtain rfl : fa = f := by
    rw [hmg] at h1
    cases h1; rfl
  obtain ⟨dus, dvs, _, rds, _, hb⟩ := h7 _ hsh
  have hbind : BindsTo s₁ fd ⟨[.ref a], []⟩ (ps.zip [.ref a]) := hb s₁ [.ref a] [] [.ref a] KX rfl rfl (by simp)
  refine law_at (m := fsem N ψ ds k iL) KX Gr.T.g Gr.T.b Gr.T.builtins Gr.T.nolimit hsys hg hobj hints (Nat.le_trans hlen hn2) hr (fun base hB hS => ?_) hps hbind (hm ns hlen)
  -- a context to read the def's promise off
  cases k with
  | zero =>
    refine ⟨fun vs H Q E h => h.1, fun A outer s H args us vs Q E _ _ _ _ _ hsp => ?_⟩
    obtain ⟨_, μ, sto, ws, _, _, pp⟩ := hsp
    exact (show False from pp).elim
  | succ k =>
    refine fnG_of (φ := fsem N ψ ds k) (N := N) (ψ := ψ) rfl h3 h4 hS h6 (fun Y a b c d e => levels (hs := hS) hst k Y a b c d e) fun ws s hl => ?_
    have e2 : ds[iL]? = some ⟨ps.length, Nn.length, body'⟩ := by rw [hd1, h5]
    simp only [fsem, e2, hl, if_true]
end Mi

/-! Mi18: what the top has left behind a name, from the facts of the head. -/
namespace Mi
open PySem L2
variable {G : Gs} {mg : Str → Option Value} {gt : List (Str × GE)} {ds : List FD} {h : Heap} {K : PySem.W.Frag}

theorem stat_fn {x : Str} {st : Stmt} {f : Addr} {oc : Value} {od an : Option Addr} {osl : Array (Option Value)} {kV doc pm cdv ct : Value} {i n : Nat} {Nn ps : List Str} {body : List S} {shapes : List Shape}
    (X : K.In h) (Gn : h.Ns mainGlobals mg) (hg : G.K = K)
    (a : PySem.W.nsIn K mainGlobals x = some (some (.ref f))) (l : K.lookup f = some ⟨oc, od, .func (PySem.W.fnOf x x (defArgs st) (defBody st) (defScope st) .none kV doc pm an cdv ct), osl⟩) (c : PySem.W.codeIn K cdv x = true) (k : PySem.W.keepIn K (.ref f) = true)
    (gl : G.gl i = some (.ref f)) (sc : FnScope Nn ps (defScope st)) (hd : ds[i]? = some ⟨ps.length, Nn.length, body⟩) (hb : (defBody st).mapM (cstmt n ⟨Nn, defScope st, gt⟩) = some body)
    (hs : ∀ (kV doc pm cdv ct : Value) (an : Option Addr), ∀ sh ∈ shapes, ShapeOk G (PySem.W.fnOf x x (defArgs st) (defBody st) (defScope st) .none kV doc pm an cdv ct) ps sh) : StatOk G mg gt ds x (.fn i shapes) :=
  ⟨f, _, x, st, Nn, ps, n, body, PySem.W.mg_of X Gn a, gl, hg ▸ fun_mk l c k, sc, hd, hb, hs _ _ _ _ _ _⟩
theorem stat_blt {x : Str} (X : K.In h) (Gn : h.Ns mainGlobals mg) (z : PySem.W.nsIn K mainGlobals x = some none) : StatOk G mg gt ds x .blt := PySem.W.mg_none_of X Gn z
theorem stat_str {x y : Str} {t : Tok} (X : K.In h) (Gn : h.Ns mainGlobals mg) (z : PySem.W.nsIn K mainGlobals x = some (some (.str y t))) : StatOk G mg gt ds x (.cst (.str y)) :=
  ⟨_, .str y, PySem.W.mg_of X Gn z, ⟨t, rfl⟩, fun _ _ => Rep.str_⟩
theorem stat_int {x : Str} {y : Int} {t : Tok} (X : K.In h) (Gn : h.Ns mainGlobals mg) (z : PySem.W.nsIn K mainGlobals x = some (some (.int y t))) : StatOk G mg gt ds x (.cst (.int y)) :=
  ⟨_, .int y, PySem.W.mg_of X Gn z, ⟨t, rfl⟩, fun _ _ => Rep.int_⟩
theorem stat_all (l : List (Str × GE)) (hl : ∀ p ∈ l, StatOk G mg gt ds p.1 p.2) : ∀ x e, l.lookup x = some e → StatOk G mg gt ds x e := by
  induction l with
  | nil => intro x e h; cases h
  | cons p l ih =>
    intro x e h
    rw [List.lookup_cons] at h
    split at h
    · rename_i hx
      cases h
      rw [beq_iff_eq] at hx
      subst hx
      exact hl _ List.mem_cons_self
    · exact ih (fun q hq => hl q (List.mem_cons_of_mem _ hq)) x e h
theorem shape_mk {fd : FuncData} {ps : List Str} {np : Nat} {ks : List Str} {ord : List Nat} (hl : ord.length = ps.length)
    (hb : ∀ (us ws zs : List Value), us.length = np → ws.length = ks.length → ord.mapM (fun i => (us ++ ws)[i]?) = some zs → bindArgs fd ⟨us, ks.zip ws⟩ = pure (ps.zip zs)) : ShapeOk G fd ps ⟨np, ks, [], ord⟩ :=
  ⟨[], [], .nil, fun _ _ => Reps.nil_, hl, fun s us ws zs _ h1 h2 h3 => .of_eq (hb us ws zs h1 h2 (by simpa using h3))⟩
end Mi

namespace Mi
open PySem hiding Env exec execs
open L2
/-! ### the machine's steps -/
section
variable (φ : Nat → List W → M W) (ρ : Env) (s : Sto)
theorem x_cst (w : W) : den φ (.cst w) ρ s = .ok w s := by rw [den]
theorem x_var (i : Nat) : den φ (.var i) ρ s = match ρ[i]? with | some (some w) => .ok w s | _ => .stuck := by rw [den] <;> rfl
theorem x_tup (es : List E) : den φ (.tup es) ρ s = (dens φ es ρ s).bind fun ws => if ws.length ≤ SZ then Mi.ret (.tup ws) else bad := by rw [den]
theorem x_lst (es : List E) : den φ (.lst es) ρ s = (dens φ es ρ s).bind fun ws => if ws.length ≤ SZ then lay (.lst ws) else bad := by rw [den]
theorem x_dct (es : List E) : den φ (.dct es) ρ s = (dens φ es ρ s).bind fun ws => dctOf ws := by rw [den]
theorem x_bin (op : Bop) (a b : E) : den φ (.bin op a b) ρ s = (den φ a ρ s).bind fun x s1 => (den φ b ρ s1).bind fun y => binop op x y := by rw [den]
theorem x_neg (a : E) : den φ (.neg a) ρ s = (den φ a ρ s).bind fun x => match x with | .int i => Mi.ret (.int (-i)) | _ => bad := by rw [den] <;> rfl
theorem x_not (a : E) : den φ (.not a) ρ s = (den φ a ρ s).bind fun x s1 => (tru x s1).bind fun b => Mi.ret (.bl !b) := by rw [den]
theorem x_cmp (op : Cop) (a b : E) : den φ (.cmp op a b) ρ s = (den φ a ρ s).bind fun x s1 => (den φ b ρ s1).bind fun y => cmpop op x y := by rw [den]
theorem x_cmp2 (op op' : Cop) (a b c : E) : den φ (.cmp2 op op' a b c) ρ s = (den φ a ρ s).bind fun x s1 => (den φ b ρ s1).bind fun y s2 => (cmpop op x y s2).bind fun z s3 => match z with
    | .bl true => (den φ c ρ s3).bind fun u => cmpop op' y u
    | .bl false => .ok (.bl false) s3
    | _ => .stuck := by
  rw [den]
  show ((den φ a ρ s).bind _) = _
  congr 1; funext x s1
  show ((den φ b ρ s1).bind _) = _
  congr 1; funext y s2
  show ((cmpop op x y s2).bind _) = _
  congr 1; funext z s3
  cases z <;> try rfl
  rename_i b
  cases b <;> rfl
theorem x_and1 (e : E) : den φ (.and [e]) ρ s = den φ e ρ s := by rw [den, denAnd]
theorem x_and (e e' : E) (es : List E) : den φ (.and (e :: e' :: es)) ρ s = (den φ e ρ s).bind fun x s1 => (tru x s1).bind fun t s2 => if t then den φ (.and (e' :: es)) ρ s2 else .ok x s2 := by
  rw [den, denAnd]
  show ((den φ e ρ s).bind _) = _
  congr 1; funext x s1
  show ((tru x s1).bind _) = _
  congr 1; funext t s2
  cases t
  · rfl
  · show denAnd φ (e' :: es) ρ s2 = den φ (.and (e' :: es)) ρ s2
    rw [den]
theorem x_or1 (e : E) : den φ (.or [e]) ρ s = den φ e ρ s := by rw [den, denOr]
theorem x_or (e e' : E) (es : List E) : den φ (.or (e :: e' :: es)) ρ s = (den φ e ρ s).bind fun x s1 => (tru x s1).bind fun t s2 => if t then .ok x s2 else den φ (.or (e' :: es)) ρ s2 := by
  rw [den, denOr]
  show ((den φ e ρ s).bind _) = _
  congr 1; funext x s1
  show ((tru x s1).bind _) = _
  congr 1; funext t s2
  cases t
  · show denOr φ (e' :: es) ρ s2 = den φ (.or (e' :: es)) ρ s2
    rw [den]
  · rfl
theorem x_ite (c a b : E) : den φ (.ite c a b) ρ s = (den φ c ρ s).bind fun x s1 => (tru x s1).bind fun t s2 => if t then den φ a ρ s2 else den φ b ρ s2 := by
  rw [den]
  show ((den φ c ρ s).bind _) = _
  congr 1; funext x s1
  show ((tru x s1).bind _) = _
  congr 1; funext t s2
  cases t <;> rfl
theorem x_idx (a b : E) : den φ (.idx a b) ρ s = (den φ a ρ s).bind fun x s1 => (den φ b ρ s1).bind fun y => idxW x y := by rw [den]
theorem x_slc (a : E) (lo hi : List E) : den φ (.slc a lo hi) ρ s = (den φ a ρ s).bind fun x s1 => (denPart φ lo ρ s1).bind fun l s2 => (denPart φ hi ρ s2).bind fun h => slcW x l h := by rw [den]
theorem x_call (f : Nat) (es : List E) (ds : List W) (ord : List Nat) : den φ (.call f es ds ord) ρ s = (dens φ es ρ s).bind fun ws s1 => match ord.mapM fun i => (ws ++ ds)[i]? with
    | some as => φ f as s1
    | none => .stuck := by
  rw [den]
  show ((dens φ es ρ s).bind _) = _
  congr 1; funext ws s1
  cases ord.mapM fun i => (ws ++ ds)[i]? <;> rfl
theorem x_blt (b : Blt) (es : List E) : den φ (.blt b es) ρ s = (dens φ es ρ s).bind fun ws => blt b ws := by rw [den]
theorem x_met (m : Met) (o : E) (es : List E) : den φ (.met m o es) ρ s = (den φ o ρ s).bind fun x s1 => if metOk s1 m x then (dens φ es ρ s1).bind (fun ws => met m x ws) else .stuck := by rw [den]
theorem x_isi (a : E) (ts : List Ty) : den φ (.isi a ts) ρ s = (den φ a ρ s).bind fun x s1 => match ts.mapM fun t => isTy s1 x t with
    | some bs => .ok (.bl (bs.any id)) s1
    | none => .stuck := by rw [den] <;> rfl
theorem x_nil : dens φ [] ρ s = .ok [] s := by rw [dens]
theorem x_cons (e : E) (es : List E) : dens φ (e :: es) ρ s = (den φ e ρ s).bind fun w s1 => (dens φ es ρ s1).bind fun ws s2 => .ok (w :: ws) s2 := by rw [dens]
theorem x_c0 : denC φ [] ρ s = .ok true s := by rw [denC]
theorem x_c1 (e : E) : denC φ [e] ρ s = (den φ e ρ s).bind fun x s1 => (tru x s1).bind fun t s2 => .ok t s2 := by
  rw [denC]
  show ((den φ e ρ s).bind _) = _
  congr 1; funext x s1
  show ((tru x s1).bind _) = _
  congr 1; funext t s2
  cases t
  · rfl
  · show denC φ [] ρ s2 = _
    rw [denC]
theorem x_p0 : denPart φ [] ρ s = .ok none s := by rw [denPart]
theorem x_p1 (e : E) (es : List E) : denPart φ (e :: es) ρ s = (den φ e ρ s).bind fun x s1 => match x with | .int i => .ok (some i) s1 | _ => .stuck := by
  rw [denPart]
  show ((den φ e ρ s).bind _) = _
  congr 1; funext x s1
  cases x <;> rfl
variable (N : Nat) (ψ : Nat → List W → Option (List (Str × W)))
theorem y_nil : execs φ N ψ [] ρ s = .ok .nxt ρ s := by rw [execs]
theorem y_cons (st : S) (r : List S) : execs φ N ψ (st :: r) ρ s = (exec φ N ψ st ρ s).seq fun ρ1 s1 => execs φ N ψ r ρ1 s1 := by rw [execs]
theorem y_set (t : T) (e : E) : exec φ N ψ (.set t e) ρ s = withE (den φ e ρ s) ρ fun w s1 => match asg φ t w ρ s1 with
    | .ok ρ1 s2 => .ok .nxt ρ1 s2
    | _ => .stuck := by rw [exec] <;> rfl
theorem y_rtn (e : E) : exec φ N ψ (.rtn e) ρ s = withE (den φ e ρ s) ρ fun w s1 => .ok (.rtn w) ρ s1 := by rw [exec]
theorem y_ite (c : E) (a b : List S) : exec φ N ψ (.ite c a b) ρ s = withE ((den φ c ρ s).bind fun x => tru x) ρ fun t s1 => if t then execs φ N ψ a ρ s1 else execs φ N ψ b ρ s1 := by rw [exec] <;> rfl
theorem w_ok {α : Type} (a : α) (f : α → Sto → ResS) : withE (.ok a s) ρ f = f a s := rfl
theorem q_nxt (f : Env → Sto → ResS) : (ResS.ok .nxt ρ s).seq f = f ρ s := rfl
theorem q_rtn (w : W) (f : Env → Sto → ResS) : (ResS.ok (.rtn w) ρ s).seq f = .ok (.rtn w) ρ s := rfl
theorem b_rtn (w : W) : bodyRes (.ok (.rtn w) ρ s) = .ok w s := rfl
theorem t_bl (b : Bool) : tru (.bl b) s = .ok b s := rfl
theorem r_ret {α : Type} (a : α) : Mi.ret a s = .ok a s := rfl
theorem c_int (op : Cop) (w w' : W) (b : Bool) (h : cmpB op w w' s = some b) : cmpop op w w' s = .ok (.bl b) s := by unfold cmpop; rw [h]
theorem a_nm (i : Nat) (w : W) : asg φ (.nm i) w ρ s = .ok (ρ.set i (some w)) s := by rw [asg]
end
/-! ### lists made of a walk -/
/-- a comprehension over items, whose element and condition add to the store at most -/
theorem lc_walk (elt : Env → M W) (cond : Env → M Bool) (tg : Tn) (ρ : Env) (chk : Sto → Bool) (f : W → W) (g : W → Bool) (s : Sto) (hc : ∀ t, chk (s ++ t) = true) :
    ∀ (ws : List W), (∀ w ∈ ws, ∃ ρ1, bindT tg w ρ = some ρ1 ∧ (∀ t, ∃ t', cond ρ1 (s ++ t) = .ok (g w) (s ++ t')) ∧ (g w = true → ∀ t, ∃ t', elt ρ1 (s ++ t) = .ok (f w) (s ++ t'))) →
      ∀ t, ∃ t', lcGo elt cond tg ρ chk ws (s ++ t) = .ok ((ws.filter g).map f) (s ++ t')
  | [], _, t => ⟨t, by simp [lcGo, hc]⟩
  | w :: ws, h, t => by
    obtain ⟨ρ1, e1, e2, e3⟩ := h w List.mem_cons_self
    have ih := lc_walk elt cond tg ρ chk f g s hc ws fun w hw => h w (List.mem_cons_of_mem _ hw)
    obtain ⟨t1, e2⟩ := e2 t
    simp only [lcGo, hc, if_true, e1, e2, bind_ok]
    cases hg : g w with
    | false =>
      obtain ⟨t2, e⟩ := ih t1
      exact ⟨t2, by simp [hg, bnd, e]⟩
    | true =>
      obtain ⟨t2, e4⟩ := e3 hg t1
      obtain ⟨t3, e5⟩ := ih t2
      exact ⟨t3, by simp [hg, bnd, e4, e5, Mi.ret]⟩
theorem den_lc {φ : Nat → List W → M W} {elt : E} {tg : Tn} {own : List Nat} {k : Ik} {its cond : List E} {ρ : Env} {s : Sto} {ws vs : List W} {n : Option Nat} (f : W → W) (g : W → Bool)
    (h1 : dens φ its ρ s = .ok vs s) (h2 : iter k vs s = .ok (ws, n) s) (hc : ∀ t, stays (s ++ t) n ws = true)
    (hw : ∀ w ∈ ws, ∃ ρ1, bindT tg w (wipe ρ own) = some ρ1 ∧ (∀ t, ∃ t', denC φ cond ρ1 (s ++ t) = .ok (g w) (s ++ t')) ∧ (g w = true → ∀ t, ∃ t', den φ elt ρ1 (s ++ t) = .ok (f w) (s ++ t'))) :
    ∃ t, den φ (.lc elt tg own k its cond) ρ s = .ok (.loc (s ++ t).length) (s ++ t ++ [.lst ((ws.filter g).map f)]) := by
  obtain ⟨t, e⟩ := lc_walk (fun ρ' => den φ elt ρ') (fun ρ' => denC φ cond ρ') tg (wipe ρ own) (fun s => stays s n ws) f g s hc ws hw []
  rw [List.append_nil] at e
  refine ⟨t, ?_⟩
  rw [den]
  simp only [bnd, h1, h2, bind_ok, noExc, e, lay]
/-- no condition -/
theorem den_lc1 {φ : Nat → List W → M W} {elt : E} {tg : Tn} {own : List Nat} {k : Ik} {its : List E} {ρ : Env} {s : Sto} {ws vs : List W} {n : Option Nat} (f : W → W)
    (h1 : dens φ its ρ s = .ok vs s) (h2 : iter k vs s = .ok (ws, n) s) (hc : ∀ t, stays (s ++ t) n ws = true)
    (hw : ∀ w ∈ ws, ∃ ρ1, bindT tg w (wipe ρ own) = some ρ1 ∧ ∀ t, ∃ t', den φ elt ρ1 (s ++ t) = .ok (f w) (s ++ t')) :
    ∃ t, den φ (.lc elt tg own k its []) ρ s = .ok (.loc (s ++ t).length) (s ++ t ++ [SO.lst (ws.map f)]) := by
  obtain ⟨t, e⟩ := den_lc (cond := []) f (fun _ => true) h1 h2 hc fun w hw' => by
    obtain ⟨ρ1, a, b⟩ := hw w hw'
    exact ⟨ρ1, a, fun t => ⟨t, x_c0 ..⟩, fun _ => b⟩
  exact ⟨t, by rw [e, List.filter_eq_self.mpr (by simp)]⟩
section
variable (s : Sto)
theorem c_lt (i j : Int) : cmpop .lt (.int i) (.int j) s = .ok (.bl (decide (i < j))) s := rfl
theorem c_le (i j : Int) : cmpop .le (.int i) (.int j) s = .ok (.bl (decide (i ≤ j))) s := rfl
theorem c_gt (i j : Int) : cmpop .gt (.int i) (.int j) s = .ok (.bl (decide (j < i))) s := rfl
theorem c_ge (i j : Int) : cmpop .ge (.int i) (.int j) s = .ok (.bl (decide (j ≤ i))) s := rfl
theorem c_eqi (i j : Int) : cmpop .eq (.int i) (.int j) s = .ok (.bl (decide (i = j))) s := by
  unfold cmpop
  simp [cmpB, eqW, sameW]
theorem c_eqs (i j : Str) : cmpop .eq (.str i) (.str j) s = .ok (.bl (decide (i = j))) s := by
  unfold cmpop
  simp [cmpB, eqW, sameW]
theorem c_nes (i j : Str) : cmpop .ne (.str i) (.str j) s = .ok (.bl (!decide (i = j))) s := by
  unfold cmpop
  simp [cmpB, eqW, sameW]
/-- a tuple against () -/
theorem c_eq0 (ws : List W) : cmpop .eq (.tup ws) (.tup []) s = .ok (.bl ws.isEmpty) s := by
  unfold cmpop
  simp [cmpB, eqW, sameW, eqE, isTupW]
theorem c_ne0 (ws : List W) : cmpop .ne (.tup ws) (.tup []) s = .ok (.bl (!ws.isEmpty)) s := by
  unfold cmpop
  simp [cmpB, eqW, sameW, eqE, isTupW]
theorem c_in2 (x a b : Str) : cmpop .isin (.str x) (.tup [.str a, .str b]) s = .ok (.bl (decide (x = a) || decide (x = b))) s := by
  have h : cmpB .isin (.str x) (.tup [.str a, .str b]) s = some (eqF (.str a) (.str x) || (eqF (.str b) (.str x) || false)) := rfl
  have e : ∀ u v : Str, eqF (.str u) (.str v) = decide (v = u) := fun u v => by
    show (u == v) = _
    rw [Bool.eq_iff_iff, beq_iff_eq, decide_eq_true_eq]; exact eq_comm
  unfold cmpop
  rw [h, e, e, Bool.or_false]
theorem c_les (i j : Str) : cmpop .le (.str i) (.str j) s = .ok (.bl (!decide (j.cps.toList < i.cps.toList))) s := rfl
theorem b_list (ws : List W) : blt .list [.tup ws] s = .ok (.loc s.length) (s ++ [SO.lst ws]) := rfl
theorem l_lay (o : SO) : lay o s = .ok (.loc s.length) (s ++ [o]) := rfl
theorem b_lens (x : Str) (h : x.length ≤ SZ) : blt .len [.str x] s = .ok (.int x.length) s := by simp only [blt, lenW, if_pos h]
theorem b_lent (ws : List W) : blt .len [.tup ws] s = .ok (.int ws.length) s := by simp only [blt, lenW]
theorem i_tup (ws : List W) (i : Int) : idxW (.tup ws) (.int i) s = match L2.atI ws i with | some w => .ok w s | none => .stuck := rfl
end
theorem z0 {α : Type} (x y : α) : (if ([] : List W).length ≤ SZ then x else y) = x := if_pos (by simp [SZ])
theorem z1 {α : Type} (a : W) (x y : α) : (if ([a] : List W).length ≤ SZ then x else y) = x := if_pos (by simp [SZ])
theorem z2 {α : Type} (a b : W) (x y : α) : (if ([a, b] : List W).length ≤ SZ then x else y) = x := if_pos (by simp [SZ])
theorem z3 {α : Type} (a b c : W) (x y : α) : (if ([a, b, c] : List W).length ≤ SZ then x else y) = x := if_pos (by simp [SZ])
theorem z4 {α : Type} (a b c d : W) (x y : α) : (if ([a, b, c, d] : List W).length ≤ SZ then x else y) = x := if_pos (by simp [SZ])
theorem z5 {α : Type} (a b c d e : W) (x y : α) : (if ([a, b, c, d, e] : List W).length ≤ SZ then x else y) = x := if_pos (by simp [SZ])
theorem z6 {α : Type} (a b c d e f : W) (x y : α) : (if ([a, b, c, d, e, f] : List W).length ≤ SZ then x else y) = x := if_pos (by simp [SZ])
theorem z7 {α : Type} (a b c d e f g : W) (x y : α) : (if ([a, b, c, d, e, f, g] : List W).length ≤ SZ then x else y) = x := if_pos (by simp [SZ])
theorem z8 {α : Type} (a b c d e f g h : W) (x y : α) : (if ([a, b, c, d, e, f, g, h] : List W).length ≤ SZ then x else y) = x := if_pos (by simp [SZ])
theorem y_for (φ : Nat → List W → M W) (ρ : Env) (s : Sto) (N : Nat) (ψ : Nat → List W → Option (List (Str × W))) (t : T) (k : Ik) (its : List E) (b : List S) : exec φ N ψ (.for t k its b) ρ s = withE ((dens φ its ρ s).bind fun vs => iter k vs) ρ fun it s1 => forGo (fun w ρ => asg φ t w ρ) (fun ρ s => execs φ N ψ b ρ s) (fun s => stays s it.2 it.1) it.1 ρ s1 := by rw [exec]
theorem y_exp (φ : Nat → List W → M W) (ρ : Env) (s : Sto) (N : Nat) (ψ : Nat → List W → Option (List (Str × W))) (e : E) : exec φ N ψ (.exp e) ρ s = withE (den φ e ρ s) ρ fun _ s1 => .ok .nxt ρ s1 := by rw [exec]
theorem i_rng1 (n : Nat) (s : Sto) (h : n ≤ SZ) : iter .rng1 [.int (n : Int)] s = .ok ((List.range n).map fun k : Nat => W.int (k : Int), none) s := by
  have h1 : (n : Int) ≤ ((SZ : Nat) : Int) ∧ -(2 ^ 62) ≤ (n : Int) := ⟨by omega, by have : (-(2 ^ 62) : Int) ≤ 0 := by decide
                                                                                    omega⟩
  simp only [iter]
  rw [if_pos h1]
  simp only [Int.toNat_natCast]
theorem f_step {bind : W → Env → Sto → Res Env} {body : Env → Sto → ResS} {chk : Sto → Bool} {w : W} {r : List W} {ρ ρ1 ρ2 : Env} {s s1 s2 : Sto} (hc : chk s = true) (hb : bind w ρ s = .ok ρ1 s1) (h : body ρ1 s1 = .ok .nxt ρ2 s2) : forGo bind body chk (w :: r) ρ s = forGo bind body chk r ρ2 s2 := by
  simp only [forGo, hc, if_true, hb, h]
theorem f_end {bind : W → Env → Sto → Res Env} {body : Env → Sto → ResS} {chk : Sto → Bool} {ρ : Env} {s : Sto} (hc : chk s = true) : forGo bind body chk [] ρ s = .ok .nxt ρ s := by
  simp only [forGo, hc, if_true]
theorem add_lists (S : Sto) (x y : List W) (h : x.length + y.length ≤ SZ) : binop .add (.loc S.length) (.loc (S ++ [SO.lst x]).length) (S ++ [SO.lst x] ++ [SO.lst y]) = .ok (.loc (S ++ [SO.lst x] ++ [SO.lst y]).length) (S ++ [SO.lst x] ++ [SO.lst y] ++ [SO.lst (x ++ y)]) := by
  have h1 : (S ++ [SO.lst x] ++ [SO.lst y])[S.length]? = some (.lst x) := by
    rw [List.getElem?_append_left (by simp)]; simp
  have h2 : (S ++ [SO.lst x] ++ [SO.lst y])[(S ++ [SO.lst x]).length]? = some (.lst y) := by simp
  simp only [binop, h1, h2, if_pos h, lay]
section
variable (s : Sto)
theorem o_add (i j : Int) : binop .add (.int i) (.int j) s = .ok (.int (i + j)) s := rfl
theorem o_sub (i j : Int) : binop .sub (.int i) (.int j) s = .ok (.int (i - j)) s := rfl
theorem o_mul (i j : Int) (h : i.natAbs.log2 + j.natAbs.log2 < 1000000) : binop .mul (.int i) (.int j) s = .ok (.int (i * j)) s := by simp only [binop, if_pos h]
theorem o_mod (i j : Int) (h : 0 < j) : binop .mod (.int i) (.int j) s = .ok (.int (i % j)) s := by simp only [binop, if_pos h]
theorem o_fdiv (i j : Int) (h : 0 < j ∧ j.natAbs.log2 < 9000) : binop .fdiv (.int i) (.int j) s = .ok (.int (i / j)) s := by simp only [binop, if_pos h]
theorem o_pow (i : Int) (j : Nat) (h : j ≤ 1000000 ∧ i.natAbs < 2 ^ 64) : binop .pow (.int i) (.int (j : Int)) s = .ok (.int (i ^ j)) s := by
  have : 0 ≤ (j : Int) ∧ (j : Int) ≤ 1000000 ∧ i.natAbs < 2 ^ 64 := ⟨by omega, by omega, h.2⟩
  simp only [binop, if_pos this]; rfl
theorem o_tup (x y : List W) (h : x.length + y.length ≤ SZ) : binop .add (.tup x) (.tup y) s = .ok (.tup (x ++ y)) s := by simp only [binop, if_pos h]
theorem b_divmod (i j : Int) (h : 0 < j ∧ j.natAbs.log2 < 9000) : blt .divmod [.int i, .int j] s = .ok (.tup [.int (i / j), .int (i % j)]) s := by simp only [blt, if_pos h]
theorem b_abs (i : Int) : blt .abs [.int i] s = .ok (.int (if i < 0 then -i else i)) s := rfl
theorem b_max (i j : Int) : blt .max [.int i, .int j] s = .ok (.int (if j > i then j else i)) s := rfl
theorem b_min (i j : Int) : blt .min [.int i, .int j] s = .ok (.int (if j < i then j else i)) s := rfl
theorem b_lenl (l : Nat) (xs : List W) (h : s[l]? = some (.lst xs)) : blt .len [.loc l] s = .ok (.int xs.length) s := by simp only [blt, lenW, h]
theorem b_tupl (l : Nat) (xs : List W) (h : s[l]? = some (.lst xs)) : blt .tuple [.loc l] s = .ok (.tup xs) s := by
  show (match isLst s (.loc l) with | some ws => Res.ok (W.tup ws) s | none => .stuck) = _
  simp only [isLst, h]
theorem i_loc (l : Nat) (xs : List W) (i : Int) (w : W) (h : s[l]? = some (.lst xs)) (e : L2.atI xs i = some w) : idxW (.loc l) (.int i) s = .ok w s := by simp only [idxW, h, e]
theorem at_nat (xs : List W) (i : Nat) : L2.atI xs (i : Int) = xs[i]? := by
  unfold L2.atI L2.ixN
  by_cases h : i < xs.length
  · rw [if_pos (by omega), if_pos (by omega)]; simp
  · rw [if_pos (by omega), if_neg (by omega), List.getElem?_eq_none (by omega)]; rfl
theorem log_lt {i : Int} {n : Nat} (h : i.natAbs < 2 ^ n) : i.natAbs.log2 ≤ n := by
  by_cases h0 : i.natAbs = 0
  · rw [h0]; simp
  · exact Nat.le_of_lt ((Nat.log2_lt h0).mpr h)
end
theorem a_sub {φ : Nat → List W → M W} {ρ : Env} {s s' : Sto} {o i : E} {w ow iw : W} (h1 : den φ o ρ s = .ok ow s) (h2 : den φ i ρ s = .ok iw s) (h3 : setW ow iw w s = .ok () s') : asg φ (.sub o i) w ρ s = .ok ρ s' := by
  rw [asg]
  simp only [noExc, bnd, h1, h2, h3, bind_ok, Mi.ret]
theorem set_loc {s : Sto} {l : Nat} {xs : List W} {j : Nat} {v : W} (h : s[l]? = some (.lst xs)) (hj : j < xs.length) : setW (.loc l) (.int (j : Int)) v s = .ok () (s.set l (.lst (xs.set j v))) := by
  have : L2.ixN xs.length (j : Int) = some j := by unfold L2.ixN; rw [if_pos (by omega), if_pos (by omega)]; rfl
  simp only [setW, h, this]
/-- a walk that makes a list, the store changing -/
theorem lc_inv {elt : Env → M W} {cond : Env → M Bool} {tg : Tn} {ρ : Env} {chk : Sto → Bool} (I : Sto → Prop) (R : W → Prop) (hc : ∀ s, chk s = true) (hcond : ∀ ρ s, cond ρ s = .ok true s) : ∀ (ws : List W),
    (∀ w ∈ ws, ∃ ρ1, bindT tg w ρ = some ρ1 ∧ ∀ s, I s → ∃ x s', elt ρ1 s = .ok x s' ∧ I s' ∧ R x) → ∀ s, I s → ∃ ys s', lcGo elt cond tg ρ chk ws s = .ok ys s' ∧ I s' ∧ ys.length = ws.length ∧ ∀ y ∈ ys, R y
  | [], _, s, h => ⟨[], s, by simp only [lcGo, hc, if_true], h, rfl, by simp⟩
  | w :: ws, hw, s, h => by
    obtain ⟨ρ1, e1, q⟩ := hw w List.mem_cons_self
    obtain ⟨x, s1, e2, i1, r1⟩ := q s h
    obtain ⟨ys, s2, e3, i2, l2, r2⟩ := lc_inv I R hc hcond ws (fun w h => hw w (List.mem_cons_of_mem _ h)) s1 i1
    refine ⟨x :: ys, s2, ?_, i2, by simp [l2], fun y hy => ?_⟩
    · simp only [lcGo, hc, if_true, e1, hcond, bind_ok, bnd, e2, e3, Mi.ret]
    · rcases List.mem_cons.mp hy with rfl | hy
      · exact r1
      · exact r2 y hy
theorem den_lci {φ : Nat → List W → M W} {elt : E} {tg : Tn} {own : List Nat} {k : Ik} {its : List E} {ρ : Env} {s s0 : Sto} {ws vs : List W} (I : Sto → Prop) (R : W → Prop)
    (h1 : dens φ its ρ s = .ok vs s0) (h2 : iter k vs s0 = .ok (ws, none) s0) (h0 : I s0)
    (hw : ∀ w ∈ ws, ∃ ρ1, bindT tg w (wipe ρ own) = some ρ1 ∧ ∀ s, I s → ∃ x s', den φ elt ρ1 s = .ok x s' ∧ I s' ∧ R x) :
    ∃ ys s', den φ (.lc elt tg own k its []) ρ s = .ok (.loc s'.length) (s' ++ [SO.lst ys]) ∧ I s' ∧ ys.length = ws.length ∧ ∀ y ∈ ys, R y := by
  obtain ⟨ys, s', e, i, l, r⟩ := lc_inv (elt := fun ρ' => den φ elt ρ') (cond := fun ρ' => denC φ [] ρ') (tg := tg) (ρ := wipe ρ own) (chk := fun s => stays s none ws) I R (fun _ => rfl) (fun ρ s => x_c0 ..) ws hw s0 h0
  refine ⟨ys, s', ?_, i, l, r⟩
  rw [den]
  simp only [bnd, h1, h2, bind_ok, noExc, e, lay]
/-- a walk that keeps something -/
theorem for_inv {bind : W → Env → Sto → Res Env} {body : Env → Sto → ResS} {chk : Sto → Bool} (P : Env → Sto → Prop) (hc : ∀ s, chk s = true) : ∀ (ws : List W) (ρ : Env) (s : Sto),
    (∀ w ∈ ws, ∀ ρ s, P ρ s → ∃ ρ1, bind w ρ s = .ok ρ1 s ∧ wpS (body ρ1 s) fun f ρ' s' => f = .nxt ∧ P ρ' s') → P ρ s → wpS (forGo bind body chk ws ρ s) fun f ρ' s' => f = .nxt ∧ P ρ' s'
  | [], ρ, s, _, h => by simp only [forGo, hc, if_true]; exact ⟨rfl, h⟩
  | w :: ws, ρ, s, hb, h => by
    obtain ⟨ρ1, e, q⟩ := hb w List.mem_cons_self ρ s h
    simp only [forGo, hc, if_true, e]
    cases e2 : body ρ1 s with
    | stuck => rw [e2] at q; exact q.elim
    | exc x ρ s => rw [e2] at q; exact q.elim
    | ok f ρ2 s2 =>
      rw [e2] at q
      obtain ⟨rfl, q⟩ := q
      exact for_inv P hc ws ρ2 s2 (fun w hw => hb w (List.mem_cons_of_mem _ hw)) q
theorem a_tp3 (φ : Nat → List W → M W) (ρ : Env) (s : Sto) (i j k l : Nat) (a b c : W) (h : s[l]? = some (.lst [a, b, c])) : asg φ (.tp [.nm i, .nm j, .nm k]) (.loc l) ρ s = .ok (((ρ.set i (some a)).set j (some b)).set k (some c)) s := by
  simp [asg, asgs, isSeq, isLst, h, bnd, Mi.ret]
theorem a_tp2 (φ : Nat → List W → M W) (ρ : Env) (s : Sto) (i j l : Nat) (a b : W) (h : s[l]? = some (.lst [a, b])) : asg φ (.tp [.nm i, .nm j]) (.loc l) ρ s = .ok ((ρ.set i (some a)).set j (some b)) s := by
  simp [asg, asgs, isSeq, isLst, h, bnd, Mi.ret]
theorem a_tp2t (φ : Nat → List W → M W) (ρ : Env) (s : Sto) (i j : Nat) (a b : W) : asg φ (.tp [.nm i, .nm j]) (.tup [a, b]) ρ s = .ok ((ρ.set i (some a)).set j (some b)) s := by
  simp [asg, asgs, isSeq, bnd, Mi.ret]
theorem all_made {s t : Sto} (ws : List W) (f : W → Bool) : blt .all [.loc (s ++ t).length] (s ++ t ++ [SO.lst (ws.map fun w => .bl (f w))]) = .ok (.bl (ws.all f)) (s ++ (t ++ [SO.lst (ws.map fun w => .bl (f w))])) := by
  have hl : isLst (s ++ t ++ [SO.lst (ws.map fun w => .bl (f w))]) (.loc (s ++ t).length) = some (ws.map fun w => .bl (f w)) := by simp [isLst]
  simp only [blt, hl]
  rw [if_pos (by simp)]
  rw [List.append_assoc, List.all_map]
  congr 2
  simp [Function.comp_def]
theorem empty_made {s t : Sto} (ws : List W) (f : W → W) (g : W → Bool) : cmpop .eq (.loc (s ++ t).length) (.loc (s ++ t ++ [SO.lst ((ws.filter g).map f)]).length) (s ++ t ++ [SO.lst ((ws.filter g).map f)] ++ [SO.lst []]) = .ok (.bl (ws.all fun w => !g w)) (s ++ (t ++ [SO.lst ((ws.filter g).map f)] ++ [SO.lst []])) := by
  have h1 : isLst (s ++ t ++ [SO.lst ((ws.filter g).map f)] ++ [SO.lst []]) (.loc (s ++ t).length) = some ((ws.filter g).map f) := by
    simp only [isLst]
    rw [List.getElem?_append_left (by simp)]
    simp
  have h2 : isLst (s ++ t ++ [SO.lst ((ws.filter g).map f)] ++ [SO.lst []]) (.loc (s ++ t ++ [SO.lst ((ws.filter g).map f)]).length) = some [] := by simp [isLst]
  have h3 : eqW (s ++ t ++ [SO.lst ((ws.filter g).map f)] ++ [SO.lst []]) (.loc (s ++ t).length) (.loc (s ++ t ++ [SO.lst ((ws.filter g).map f)]).length) = some (ws.filter g).isEmpty := by
    simp only [eqW, sameW, eqE, isTupW, h1, h2]
    cases ws.filter g <;> simp
  have h4 : (ws.filter g).isEmpty = ws.all fun w => !g w := by
    rw [Bool.eq_iff_iff]
    simp [List.filter_eq_nil_iff]
  simp only [cmpop, cmpB, h3, h4]
  simp only [List.append_assoc]
end Mi

namespace K11
open PySem L2 Mi
def top (i : Nat) : Stmt := PySem.Challenge.pw_oneincommon_k11_names_of_anything.main.body.getD i (.Pass ⟨0, 0, 0, 0⟩)
def gt : List (Str × GE) := [⟨"LETTERS", .cst (.str "abcdefghijklmnopqrstuvwxyz")⟩,
  ⟨"MOST_LETTERS", .cst (.int 8)⟩,
  ⟨"THREAD", .cst (.str "thread")⟩,
  ⟨"LINE", .cst (.str "line")⟩,
  ⟨"LOCKER", .cst (.str "locker")⟩,
  ⟨"KEY", .cst (.str "key")⟩,
  ⟨"is_whole", .fn 0 [⟨1, [], [], [0]⟩]⟩,
  ⟨"is_from_one", .fn 1 [⟨1, [], [], [0]⟩]⟩,
  ⟨"is_name", .fn 2 [⟨1, [], [], [0]⟩, ⟨0, ["thing"], [], [0]⟩]⟩,
  ⟨"is_thread", .fn 3 [⟨1, [], [], [0]⟩, ⟨0, ["thing"], [], [0]⟩]⟩,
  ⟨"is_worded", .fn 4 [⟨3, [], [], [0, 1, 2]⟩]⟩,
  ⟨"is_made_one", .fn 5 [⟨2, [], [], [0, 1]⟩]⟩,
  ⟨"is_line", .fn 6 [⟨1, [], [], [0]⟩, ⟨0, ["thing"], [], [0]⟩]⟩,
  ⟨"is_locker", .fn 7 [⟨1, [], [], [0]⟩, ⟨0, ["thing"], [], [0]⟩]⟩,
  ⟨"is_point", .fn 8 [⟨1, [], [], [0]⟩, ⟨0, ["thing"], [], [0]⟩]⟩,
  ⟨"is_edge", .fn 9 [⟨1, [], [], [0]⟩, ⟨0, ["thing"], [], [0]⟩]⟩,
  ⟨"_law_pot", .fn 10 [⟨2, [], [], [0, 1]⟩]⟩,
  ⟨"_law_take", .fn 11 [⟨2, [], [], [0, 1]⟩]⟩,
  ⟨"_law_among", .fn 12 [⟨2, [], [], [0, 1]⟩]⟩,
  ⟨"_law_name", .fn 13 [⟨1, [], [], [0]⟩]⟩,
  ⟨"_law_number", .fn 14 [⟨1, [], [], [0]⟩]⟩,
  ⟨"_law_thread", .fn 15 [⟨1, [], [], [0]⟩]⟩,
  ⟨"_law_point", .fn 16 [⟨1, [], [], [0]⟩]⟩,
  ⟨"_law_thing", .fn 17 [⟨2, [], [], [0, 1]⟩]⟩,
  ⟨"_law_odd", .fn 18 [⟨1, [], [], [0]⟩]⟩,
  ⟨"_law_spoilt", .fn 19 [⟨2, [], [], [0, 1]⟩]⟩,
  ⟨"_law_are_letters", .fn 20 [⟨1, [], [], [0]⟩]⟩,
  ⟨"_law_is_number", .fn 21 [⟨1, [], [], [0]⟩]⟩,
  ⟨"_law_parts", .fn 22 [⟨2, [], [], [0, 1]⟩]⟩,
  ⟨"_law_sort", .fn 23 [⟨1, [], [], [0]⟩]⟩,
  ⟨"_law_right", .fn 24 [⟨1, [], [], [0]⟩]⟩,
  ⟨"law", .fn 25 [⟨1, [], [], [0]⟩]⟩,
  ⟨"abs", .blt⟩,
  ⟨"all", .blt⟩,
  ⟨"bool", .blt⟩,
  ⟨"divmod", .blt⟩,
  ⟨"int", .blt⟩,
  ⟨"isinstance", .blt⟩,
  ⟨"len", .blt⟩,
  ⟨"list", .blt⟩,
  ⟨"max", .blt⟩,
  ⟨"min", .blt⟩,
  ⟨"range", .blt⟩,
  ⟨"repr", .blt⟩,
  ⟨"str", .blt⟩,
  ⟨"tuple", .blt⟩]
def N0 : List Str := ["thing"]
def N1 : List Str := ["thing"]
def N2 : List Str := ["thing", "sign"]
def N3 : List Str := ["thing", "number"]
def N4 : List Str := ["thing", "word", "size"]
def N5 : List Str := ["thing", "word"]
def N6 : List Str := ["thing"]
def N7 : List Str := ["thing"]
def N8 : List Str := ["thing"]
def N9 : List Str := ["thing"]
def N10 : List Str := ["script", "k", "cell"]
def N11 : List Str := ["pot", "many", "digit"]
def N12 : List Str := ["pot", "some"]
def N13 : List Str := ["pot", "letters", "k"]
def N14 : List Str := ["pot"]
def N15 : List Str := ["pot", "many", "k"]
def N16 : List Str := ["pot"]
def N17 : List Str := ["pot", "kind", "locker"]
def N18 : List Str := ["pot", "some"]
def N19 : List Str := ["pot", "stuff", "at", "way", "found", "other"]
def N20 : List Str := ["stuff", "sign"]
def N21 : List Str := ["stuff"]
def N22 : List Str := ["stuff", "size"]
def N23 : List Str := ["stuff", "word", "maker", "number", "inner", "part"]
def N24 : List Str := ["stuff", "due", "turn", "sort", "shown", "told"]
def N25 : List Str := ["script", "k", "own", "pot", "stuff", "turn", "spoils", "kind"]
/-- is_whole -/
def b0 : List S := [
    (.rtn (.and [(.isi (.var 0) [.int]), (.not (.isi (.var 0) [.bool]))]))]
/-- is_from_one -/
def b1 : List S := [
    (.rtn (.and [(.call 0 [(.var 0)] [] [0]), (.cmp .gt (.var 0) (.cst (.int 0)))]))]
/-- is_name -/
def b2 : List S := [
    (.ite (.or [(.not (.isi (.var 0) [.str])), (.not (.cmp2 .le .le (.cst (.int 1)) (.blt .len [(.var 0)]) (.cst (.int 8))))]) [(.rtn (.cst (.bl false)))] []),
    (.rtn (.blt .all [(.lc (.cmp .isin (.var 1) (.cst (.str "abcdefghijklmnopqrstuvwxyz"))) (.nm 1) [1] .val [(.var 0)] [])]))]
/-- is_thread -/
def b3 : List S := [
    (.ite (.or [(.not (.isi (.var 0) [.tuple])), (.cmp .eq (.blt .len [(.var 0)]) (.cst (.int 0)))]) [(.rtn (.cst (.bl false)))] []),
    (.rtn (.and [(.call 2 [(.idx (.var 0) (.cst (.int 0)))] [] [0]), (.blt .all [(.lc (.call 1 [(.var 1)] [] [0]) (.nm 1) [1] .val [(.slc (.var 0) [(.cst (.int 1))] [])] [])])]))]
/-- is_worded -/
def b4 : List S := [
    (.rtn (.and [(.isi (.var 0) [.tuple]), (.cmp .eq (.blt .len [(.var 0)]) (.var 2)), (.isi (.idx (.var 0) (.cst (.int 0))) [.str]), (.cmp .eq (.idx (.var 0) (.cst (.int 0))) (.var 1))]))]
/-- is_made_one -/
def b5 : List S := [
    (.rtn (.and [(.call 4 [(.var 0), (.var 1), (.cst (.int 3))] [] [0, 1, 2]), (.call 3 [(.idx (.var 0) (.cst (.int 1)))] [] [0]), (.call 1 [(.idx (.var 0) (.cst (.int 2)))] [] [0])]))]
/-- is_line -/
def b6 : List S := [
    (.rtn (.call 5 [(.var 0), (.cst (.str "line"))] [] [0, 1]))]
/-- is_locker -/
def b7 : List S := [
    (.rtn (.call 5 [(.var 0), (.cst (.str "locker"))] [] [0, 1]))]
/-- is_point -/
def b8 : List S := [
    (.rtn (.or [(.call 7 [(.var 0)] [] [0]), (.and [(.call 4 [(.var 0), (.cst (.str "thread")), (.cst (.int 2))] [] [0, 1, 2]), (.call 3 [(.idx (.var 0) (.cst (.int 1)))] [] [0])])]))]
/-- is_edge -/
def b9 : List S := [
    (.rtn (.or [(.call 6 [(.var 0)] [] [0]), (.and [(.call 4 [(.var 0), (.cst (.str "key")), (.cst (.int 3))] [] [0, 1, 2]), (.call 7 [(.idx (.var 0) (.cst (.int 1)))] [] [0]), (.call 8 [(.idx (.var 0) (.cst (.int 2)))] [] [0])])]))]
/-- _law_pot -/
def b10 : List S := [
    (.set (.nm 2) (.cst (.int 0))),
    (.ite (.cmp .lt (.var 1) (.blt .len [(.var 0)])) [(.set (.nm 2) (.blt .abs [(.idx (.var 0) (.var 1))]))] []),
    (.rtn (.lst [(.blt .max [(.cst (.int 0)), (.bin .sub (.var 2) (.bin .pow (.cst (.int 10)) (.cst (.int 18))))]), (.bin .add (.bin .mod (.bin .pow (.bin .add (.bin .add (.bin .mod (.var 2) (.cst (.int 2147483563))) (.bin .mul (.cst (.int 307)) (.var 1))) (.cst (.int 5))) (.cst (.int 2))) (.cst (.int 2147483549))) (.cst (.int 1)))]))]
/-- _law_take -/
def b11 : List S := [
    (.ite (.cmp .gt (.idx (.var 0) (.cst (.int 0))) (.cst (.int 0))) [(.set (.tp [(.sub (.var 0) (.cst (.int 0))), (.nm 2)]) (.blt .divmod [(.idx (.var 0) (.cst (.int 0))), (.var 1)])), (.rtn (.var 2))] []),
    (.set (.sub (.var 0) (.cst (.int 1))) (.bin .mod (.bin .add (.bin .mul (.idx (.var 0) (.cst (.int 1))) (.cst (.int 48271))) (.cst (.int 30011))) (.cst (.int 2147483587)))),
    (.rtn (.bin .mod (.bin .fdiv (.bin .mod (.bin .mul (.idx (.var 0) (.cst (.int 1))) (.idx (.var 0) (.cst (.int 1)))) (.cst (.int 2147483543))) (.cst (.int 7))) (.var 1)))]
/-- _law_among -/
def b12 : List S := [
    (.rtn (.idx (.var 1) (.call 11 [(.var 0), (.blt .len [(.var 1)])] [] [0, 1])))]
/-- _law_name -/
def b13 : List S := [
    (.ite (.cmp .eq (.call 11 [(.var 0), (.cst (.int 4))] [] [0, 1]) (.cst (.int 0))) [(.rtn (.call 12 [(.var 0), (.lst [(.cst (.str "thread")), (.cst (.str "line")), (.cst (.str "locker")), (.cst (.str "key")), (.cst (.str "slot")), (.cst (.str "in")), (.cst (.str "end")), (.cst (.str "dead"))])] [] [0, 1]))] []),
    (.set (.nm 1) (.cst (.str "abcdefghijklmnopqrstuvwxyz"))),
    (.rtn (.met .join (.cst (.str "")) [(.lc (.idx (.var 1) (.call 11 [(.var 0), (.cst (.int 26))] [] [0, 1])) (.nm 2) [2] .rng1 [(.bin .add (.cst (.int 1)) (.call 11 [(.var 0), (.cst (.int 8))] [] [0, 1]))] [])]))]
/-- _law_number -/
def b14 : List S := [
    (.rtn (.bin .add (.cst (.int 1)) (.call 11 [(.var 0), (.idx (.lst [(.cst (.int 1)), (.cst (.int 9)), (.cst (.int 100)), (.bin .sub (.bin .pow (.cst (.int 10)) (.cst (.int 30))) (.cst (.int 1)))]) (.call 11 [(.var 0), (.cst (.int 4))] [] [0, 1]))] [] [0, 1])))]
/-- _law_thread -/
def b15 : List S := [
    (.set (.nm 1) (.idx (.lst [(.call 11 [(.var 0), (.cst (.int 5))] [] [0, 1]), (.call 11 [(.var 0), (.cst (.int 5))] [] [0, 1]), (.call 11 [(.var 0), (.cst (.int 5))] [] [0, 1]), (.bin .add (.cst (.int 9)) (.call 11 [(.var 0), (.cst (.int 4))] [] [0, 1])), (.cst (.int 200))]) (.call 11 [(.var 0), (.cst (.int 5))] [] [0, 1]))),
    (.rtn (.bin .add (.tup [(.call 13 [(.var 0)] [] [0])]) (.blt .tuple [(.lc (.call 14 [(.var 0)] [] [0]) (.nm 2) [2] .rng1 [(.var 1)] [])])))]
/-- _law_point -/
def b16 : List S := [
    (.ite (.cmp .eq (.call 11 [(.var 0), (.cst (.int 2))] [] [0, 1]) (.cst (.int 0))) [(.rtn (.tup [(.cst (.str "thread")), (.call 15 [(.var 0)] [] [0])]))] []),
    (.rtn (.tup [(.cst (.str "locker")), (.call 15 [(.var 0)] [] [0]), (.call 14 [(.var 0)] [] [0])]))]
/-- _law_thing -/
def b17 : List S := [
    (.ite (.cmp .eq (.var 1) (.cst (.int 0))) [(.rtn (.call 13 [(.var 0)] [] [0]))] []),
    (.ite (.cmp .eq (.var 1) (.cst (.int 1))) [(.rtn (.call 15 [(.var 0)] [] [0]))] []),
    (.ite (.cmp .lt (.var 1) (.cst (.int 4))) [(.rtn (.tup [(.idx (.lst [(.cst (.str "line")), (.cst (.str "locker"))]) (.bin .sub (.var 1) (.cst (.int 2)))), (.call 15 [(.var 0)] [] [0]), (.call 14 [(.var 0)] [] [0])]))] []),
    (.ite (.cmp .eq (.var 1) (.cst (.int 4))) [(.rtn (.call 16 [(.var 0)] [] [0]))] []),
    (.set (.nm 2) (.tup [(.cst (.str "locker")), (.call 15 [(.var 0)] [] [0]), (.call 14 [(.var 0)] [] [0])])),
    (.rtn (.tup [(.cst (.str "key")), (.var 2), (.ite (.cmp .eq (.call 11 [(.var 0), (.cst (.int 6))] [] [0, 1]) (.cst (.int 0))) (.var 2) (.call 16 [(.var 0)] [] [0]))]))]
/-- _law_odd -/
def b18 : List S := [
    (.set (.nm 1) (.lst [(.cst .non), (.cst (.bl true)), (.cst (.bl false)), (.cst (.int 0)), (.cst (.int 1)), (.neg (.cst (.int 1))), (.cst (.str "")), (.cst (.str "a")), (.cst (.str "A")), (.cst (.str "ab1")), (.cst (.str "abcdefgh")), (.cst (.str "abcdefghi")), (.cst (.str "a b")), (.lst []), (.tup []), (.dct []), (.lst [(.cst (.str "a"))]), (.tup [(.cst (.str "a"))])])),
    (.set (.nm 1) (.bin .add (.var 1) (.lst [(.tup [(.cst (.str "a")), (.cst (.int 1))]), (.tup [(.cst (.str "a")), (.cst (.int 0))]), (.lst [(.cst (.str "thread")), (.tup [(.cst (.str "a"))])]), (.dct [(.cst (.str "a")), (.cst (.int 1))]), (.cst (.str "thread")), (.cst (.str "Line")), (.tup [(.cst (.str "key"))]), (.tup [(.cst (.str "thread")), (.tup [(.cst (.str "a"))])])]))),
    (.rtn (.call 12 [(.var 0), (.var 1)] [] [0, 1]))]
/-- _law_spoilt -/
def b19 : List S := [
    (.ite (.or [(.not (.isi (.var 1) [.tuple])), (.cmp .eq (.var 1) (.tup [])), (.cmp .eq (.call 11 [(.var 0), (.cst (.int 6))] [] [0, 1]) (.cst (.int 0)))]) [(.rtn (.call 18 [(.var 0)] [] [0]))] []),
    (.set (.tp [(.nm 2), (.nm 3)]) (.tup [(.call 11 [(.var 0), (.blt .len [(.var 1)])] [] [0, 1]), (.call 11 [(.var 0), (.cst (.int 8))] [] [0, 1])])),
    (.ite (.cmp .lt (.var 3) (.cst (.int 3))) [(.rtn (.bin .add (.bin .add (.slc (.var 1) [] [(.var 2)]) (.tup [(.call 19 [(.var 0), (.idx (.var 1) (.var 2))] [] [0, 1])])) (.slc (.var 1) [(.bin .add (.var 2) (.cst (.int 1)))] [])))] []),
    (.ite (.cmp .eq (.var 3) (.cst (.int 3))) [(.rtn (.bin .add (.slc (.var 1) [] [(.var 2)]) (.slc (.var 1) [(.bin .add (.var 2) (.cst (.int 1)))] [])))] []),
    (.ite (.cmp .eq (.var 3) (.cst (.int 4))) [(.rtn (.bin .add (.bin .add (.slc (.var 1) [] [(.var 2)]) (.tup [(.idx (.var 1) (.var 2))])) (.slc (.var 1) [(.var 2)] [])))] []),
    (.ite (.cmp .eq (.var 3) (.cst (.int 5))) [(.set (.tp [(.nm 4), (.nm 5)]) (.tup [(.blt .list [(.var 1)]), (.call 11 [(.var 0), (.blt .len [(.var 1)])] [] [0, 1])])), (.set (.tp [(.sub (.var 4) (.var 2)), (.sub (.var 4) (.var 5))]) (.tup [(.idx (.var 4) (.var 5)), (.idx (.var 4) (.var 2))])), (.rtn (.blt .tuple [(.var 4)]))] []),
    (.ite (.cmp .eq (.var 3) (.cst (.int 6))) [(.rtn (.blt .list [(.var 1)]))] []),
    (.rtn (.bin .add (.bin .add (.slc (.var 1) [] [(.var 2)]) (.tup [(.call 18 [(.var 0)] [] [0])])) (.slc (.var 1) [(.bin .add (.var 2) (.cst (.int 1)))] [])))]
/-- _law_are_letters -/
def b20 : List S := [
    (.ite (.not (.isi (.var 0) [.str])) [(.rtn (.cst (.bl false)))] []),
    (.rtn (.and [(.cmp2 .lt .lt (.cst (.int 0)) (.blt .len [(.var 0)]) (.cst (.int 9))), (.cmp .eq (.lc (.var 1) (.nm 1) [1] .val [(.var 0)] [(.not (.cmp2 .le .le (.cst (.str "a")) (.var 1) (.cst (.str "z"))))]) (.lst []))]))]
/-- _law_is_number -/
def b21 : List S := [
    (.rtn (.and [(.isi (.var 0) [.int]), (.not (.isi (.var 0) [.bool])), (.cmp .ge (.var 0) (.cst (.int 1)))]))]
/-- _law_parts -/
def b22 : List S := [
    (.rtn (.ite (.and [(.isi (.var 0) [.tuple]), (.cmp .eq (.blt .len [(.var 0)]) (.var 1))]) (.blt .list [(.var 0)]) (.bin .mul (.lst [(.cst .non)]) (.var 1))))]
/-- _law_sort -/
def b23 : List S := [
    (.ite (.and [(.isi (.var 0) [.tuple]), (.cmp .ne (.var 0) (.tup [])), (.call 20 [(.idx (.var 0) (.cst (.int 0)))] [] [0])]) [(.ite (.cmp .eq (.lc (.var 5) (.nm 5) [5] .val [(.slc (.var 0) [(.cst (.int 1))] [])] [(.not (.call 21 [(.var 5)] [] [0]))]) (.lst [])) [(.rtn (.cst (.str "thread")))] [])] []),
    (.set (.tp [(.nm 1), (.nm 2), (.nm 3)]) (.call 22 [(.var 0), (.cst (.int 3))] [] [0, 1])),
    (.ite (.and [(.isi (.var 1) [.str]), (.cmp .isin (.var 1) (.tup [(.cst (.str "line")), (.cst (.str "locker"))])), (.cmp .eq (.call 23 [(.var 2)] [] [0]) (.cst (.str "thread"))), (.call 21 [(.var 3)] [] [0])]) [(.rtn (.var 1))] []),
    (.ite (.and [(.isi (.var 1) [.str]), (.cmp .eq (.var 1) (.cst (.str "key"))), (.cmp .eq (.call 23 [(.var 2)] [] [0]) (.cst (.str "locker")))]) [(.ite (.cmp .isin (.call 23 [(.var 3)] [] [0]) (.tup [(.cst (.str "point")), (.cst (.str "locker"))])) [(.rtn (.cst (.str "key")))] [])] []),
    (.set (.tp [(.nm 1), (.nm 4)]) (.call 22 [(.var 0), (.cst (.int 2))] [] [0, 1])),
    (.ite (.and [(.isi (.var 1) [.str]), (.cmp .eq (.var 1) (.cst (.str "thread"))), (.cmp .eq (.call 23 [(.var 4)] [] [0]) (.cst (.str "thread")))]) [(.rtn (.cst (.str "point")))] []),
    (.rtn (.cst (.str "none")))]
/-- _law_right -/
def b24 : List S := [
    (.set (.tp [(.nm 3), (.nm 4)]) (.tup [(.call 23 [(.var 0)] [] [0]), (.blt .repr [(.var 0)])])),
    (.set (.nm 1) (.lst [(.call 20 [(.var 0)] [] [0]), (.cmp .eq (.var 3) (.cst (.str "thread"))), (.cmp .eq (.var 3) (.cst (.str "line"))), (.cmp .eq (.var 3) (.cst (.str "locker")))])),
    (.set (.nm 1) (.bin .add (.var 1) (.lst [(.cmp .isin (.var 3) (.tup [(.cst (.str "point")), (.cst (.str "locker"))])), (.cmp .isin (.var 3) (.tup [(.cst (.str "line")), (.cst (.str "key"))]))]))),
    (.for (.nm 2) .rng1 [(.cst (.int 2))] [(.set (.nm 5) (.lst [(.call 2 [(.var 0)] [] [0]), (.call 3 [(.var 0)] [] [0]), (.call 6 [(.var 0)] [] [0]), (.call 7 [(.var 0)] [] [0]), (.call 8 [(.var 0)] [] [0]), (.call 9 [(.var 0)] [] [0])])), (.ite (.or [(.cmp .ne (.blt .repr [(.var 5)]) (.blt .repr [(.var 1)])), (.cmp .ne (.blt .repr [(.var 0)]) (.var 4))]) [(.rtn (.cst (.bl false)))] [])]),
    (.rtn (.cst (.bl true)))]
/-- law -/
def b25 : List S := [
    (.for (.nm 1) .rng1 [(.blt .max [(.cst (.int 1)), (.blt .min [(.cst (.int 16)), (.blt .len [(.var 0)])])])] [(.set (.nm 3) (.call 10 [(.var 0), (.var 1)] [] [0, 1])), (.set (.tp [(.nm 6), (.nm 7)]) (.tup [(.idx (.lst [(.cst (.int 0)), (.cst (.int 0)), (.cst (.int 1)), (.cst (.int 1)), (.cst (.int 2))]) (.call 11 [(.var 3), (.cst (.int 5))] [] [0, 1])), (.call 11 [(.var 3), (.cst (.int 6))] [] [0, 1])])), (.set (.nm 4) (.call 17 [(.var 3), (.var 7)] [] [0, 1])), (.ite (.not (.call 24 [(.var 4)] [] [0])) [(.rtn (.cst (.bl false)))] []), (.for (.nm 5) .rng1 [(.var 6)] [(.set (.nm 4) (.call 19 [(.var 3), (.var 4)] [] [0, 1]))]), (.ite (.or [(.not (.call 24 [(.var 4)] [] [0])), (.not (.call 24 [(.call 18 [(.var 3)] [] [0])] [] [0]))]) [(.rtn (.cst (.bl false)))] [])]),
    (.set (.nm 2) (.tup [(.cst (.str "locker")), (.tup [(.cst (.str "ann")), (.cst (.int 2)), (.cst (.int 1))]), (.cst (.int 3))])),
    (.ite (.or [(.not (.call 7 [(.var 2)] [] [0])), (.not (.call 8 [(.var 2)] [] [0])), (.call 6 [(.var 2)] [] [0])]) [(.rtn (.cst (.bl false)))] []),
    (.rtn (.and [(.call 2 [(.cst (.str "ann"))] [] [0]), (.call 3 [(.tup [(.cst (.str "ann")), (.cst (.int 2)), (.cst (.int 1))])] [] [0]), (.not (.call 9 [(.tup [(.cst (.str "ann")), (.cst (.int 2)), (.cst (.int 1))])] [] [0]))]))]
def ds : List FD := [⟨1, 1, b0⟩, ⟨1, 1, b1⟩, ⟨1, 2, b2⟩, ⟨1, 2, b3⟩, ⟨3, 3, b4⟩, ⟨2, 2, b5⟩, ⟨1, 1, b6⟩, ⟨1, 1, b7⟩, ⟨1, 1, b8⟩, ⟨1, 1, b9⟩, ⟨2, 3, b10⟩, ⟨2, 3, b11⟩, ⟨2, 2, b12⟩, ⟨1, 3, b13⟩, ⟨1, 1, b14⟩, ⟨1, 3, b15⟩, ⟨1, 1, b16⟩, ⟨2, 3, b17⟩, ⟨1, 2, b18⟩, ⟨2, 6, b19⟩, ⟨1, 2, b20⟩, ⟨1, 1, b21⟩, ⟨2, 2, b22⟩, ⟨1, 6, b23⟩, ⟨1, 6, b24⟩, ⟨1, 8, b25⟩]
theorem c0 : (defBody (top 7)).mapM (cstmt 60 ⟨N0, defScope (top 7), gt⟩) = some b0 := by kernel_rfl
theorem s0 : FnScope N0 ["thing"] (defScope (top 7)) := ⟨rfl, rfl, rfl, by decide +kernel, rfl, by decide +kernel, by decide +kernel⟩
theorem c1 : (defBody (top 8)).mapM (cstmt 60 ⟨N1, defScope (top 8), gt⟩) = some b1 := by kernel_rfl
theorem s1 : FnScope N1 ["thing"] (defScope (top 8)) := ⟨rfl, rfl, rfl, by decide +kernel, rfl, by decide +kernel, by decide +kernel⟩
theorem c2 : (defBody (top 9)).mapM (cstmt 60 ⟨N2, defScope (top 9), gt⟩) = some b2 := by kernel_rfl
theorem s2 : FnScope N2 ["thing"] (defScope (top 9)) := ⟨rfl, rfl, rfl, by decide +kernel, rfl, by decide +kernel, by decide +kernel⟩
theorem c3 : (defBody (top 10)).mapM (cstmt 60 ⟨N3, defScope (top 10), gt⟩) = some b3 := by kernel_rfl
theorem s3 : FnScope N3 ["thing"] (defScope (top 10)) := ⟨rfl, rfl, rfl, by decide +kernel, rfl, by decide +kernel, by decide +kernel⟩
theorem c4 : (defBody (top 11)).mapM (cstmt 60 ⟨N4, defScope (top 11), gt⟩) = some b4 := by kernel_rfl
theorem s4 : FnScope N4 ["thing", "word", "size"] (defScope (top 11)) := ⟨rfl, rfl, rfl, by decide +kernel, rfl, by decide +kernel, by decide +kernel⟩
theorem c5 : (defBody (top 12)).mapM (cstmt 60 ⟨N5, defScope (top 12), gt⟩) = some b5 := by kernel_rfl
theorem s5 : FnScope N5 ["thing", "word"] (defScope (top 12)) := ⟨rfl, rfl, rfl, by decide +kernel, rfl, by decide +kernel, by decide +kernel⟩
theorem c6 : (defBody (top 13)).mapM (cstmt 60 ⟨N6, defScope (top 13), gt⟩) = some b6 := by kernel_rfl
theorem s6 : FnScope N6 ["thing"] (defScope (top 13)) := ⟨rfl, rfl, rfl, by decide +kernel, rfl, by decide +kernel, by decide +kernel⟩
theorem c7 : (defBody (top 14)).mapM (cstmt 60 ⟨N7, defScope (top 14), gt⟩) = some b7 := by kernel_rfl
theorem s7 : FnScope N7 ["thing"] (defScope (top 14)) := ⟨rfl, rfl, rfl, by decide +kernel, rfl, by decide +kernel, by decide +kernel⟩
theorem c8 : (defBody (top 15)).mapM (cstmt 60 ⟨N8, defScope (top 15), gt⟩) = some b8 := by kernel_rfl
theorem s8 : FnScope N8 ["thing"] (defScope (top 15)) := ⟨rfl, rfl, rfl, by decide +kernel, rfl, by decide +kernel, by decide +kernel⟩
theorem c9 : (defBody (top 16)).mapM (cstmt 60 ⟨N9, defScope (top 16), gt⟩) = some b9 := by kernel_rfl
theorem s9 : FnScope N9 ["thing"] (defScope (top 16)) := ⟨rfl, rfl, rfl, by decide +kernel, rfl, by decide +kernel, by decide +kernel⟩
theorem c10 : (defBody (top 18)).mapM (cstmt 60 ⟨N10, defScope (top 18), gt⟩) = some b10 := by kernel_rfl
theorem s10 : FnScope N10 ["script", "k"] (defScope (top 18)) := ⟨rfl, rfl, rfl, by decide +kernel, rfl, by decide +kernel, by decide +kernel⟩
theorem c11 : (defBody (top 19)).mapM (cstmt 60 ⟨N11, defScope (top 19), gt⟩) = some b11 := by kernel_rfl
theorem s11 : FnScope N11 ["pot", "many"] (defScope (top 19)) := ⟨rfl, rfl, rfl, by decide +kernel, rfl, by decide +kernel, by decide +kernel⟩
theorem c12 : (defBody (top 20)).mapM (cstmt 60 ⟨N12, defScope (top 20), gt⟩) = some b12 := by kernel_rfl
theorem s12 : FnScope N12 ["pot", "some"] (defScope (top 20)) := ⟨rfl, rfl, rfl, by decide +kernel, rfl, by decide +kernel, by decide +kernel⟩
theorem c13 : (defBody (top 21)).mapM (cstmt 60 ⟨N13, defScope (top 21), gt⟩) = some b13 := by kernel_rfl
theorem s13 : FnScope N13 ["pot"] (defScope (top 21)) := ⟨rfl, rfl, rfl, by decide +kernel, rfl, by decide +kernel, by decide +kernel⟩
theorem c14 : (defBody (top 22)).mapM (cstmt 60 ⟨N14, defScope (top 22), gt⟩) = some b14 := by kernel_rfl
theorem s14 : FnScope N14 ["pot"] (defScope (top 22)) := ⟨rfl, rfl, rfl, by decide +kernel, rfl, by decide +kernel, by decide +kernel⟩
theorem c15 : (defBody (top 23)).mapM (cstmt 60 ⟨N15, defScope (top 23), gt⟩) = some b15 := by kernel_rfl
theorem s15 : FnScope N15 ["pot"] (defScope (top 23)) := ⟨rfl, rfl, rfl, by decide +kernel, rfl, by decide +kernel, by decide +kernel⟩
theorem c16 : (defBody (top 24)).mapM (cstmt 60 ⟨N16, defScope (top 24), gt⟩) = some b16 := by kernel_rfl
theorem s16 : FnScope N16 ["pot"] (defScope (top 24)) := ⟨rfl, rfl, rfl, by decide +kernel, rfl, by decide +kernel, by decide +kernel⟩
theorem c17 : (defBody (top 25)).mapM (cstmt 60 ⟨N17, defScope (top 25), gt⟩) = some b17 := by kernel_rfl
theorem s17 : FnScope N17 ["pot", "kind"] (defScope (top 25)) := ⟨rfl, rfl, rfl, by decide +kernel, rfl, by decide +kernel, by decide +kernel⟩
theorem c18 : (defBody (top 26)).mapM (cstmt 60 ⟨N18, defScope (top 26), gt⟩) = some b18 := by kernel_rfl
theorem s18 : FnScope N18 ["pot"] (defScope (top 26)) := ⟨rfl, rfl, rfl, by decide +kernel, rfl, by decide +kernel, by decide +kernel⟩
theorem c19 : (defBody (top 27)).mapM (cstmt 60 ⟨N19, defScope (top 27), gt⟩) = some b19 := by kernel_rfl
theorem s19 : FnScope N19 ["pot", "stuff"] (defScope (top 27)) := ⟨rfl, rfl, rfl, by decide +kernel, rfl, by decide +kernel, by decide +kernel⟩
theorem c20 : (defBody (top 28)).mapM (cstmt 60 ⟨N20, defScope (top 28), gt⟩) = some b20 := by kernel_rfl
theorem s20 : FnScope N20 ["stuff"] (defScope (top 28)) := ⟨rfl, rfl, rfl, by decide +kernel, rfl, by decide +kernel, by decide +kernel⟩
theorem c21 : (defBody (top 29)).mapM (cstmt 60 ⟨N21, defScope (top 29), gt⟩) = some b21 := by kernel_rfl
theorem s21 : FnScope N21 ["stuff"] (defScope (top 29)) := ⟨rfl, rfl, rfl, by decide +kernel, rfl, by decide +kernel, by decide +kernel⟩
theorem c22 : (defBody (top 30)).mapM (cstmt 60 ⟨N22, defScope (top 30), gt⟩) = some b22 := by kernel_rfl
theorem s22 : FnScope N22 ["stuff", "size"] (defScope (top 30)) := ⟨rfl, rfl, rfl, by decide +kernel, rfl, by decide +kernel, by decide +kernel⟩
theorem c23 : (defBody (top 31)).mapM (cstmt 60 ⟨N23, defScope (top 31), gt⟩) = some b23 := by kernel_rfl
theorem s23 : FnScope N23 ["stuff"] (defScope (top 31)) := ⟨rfl, rfl, rfl, by decide +kernel, rfl, by decide +kernel, by decide +kernel⟩
theorem c24 : (defBody (top 32)).mapM (cstmt 60 ⟨N24, defScope (top 32), gt⟩) = some b24 := by kernel_rfl
theorem s24 : FnScope N24 ["stuff"] (defScope (top 32)) := ⟨rfl, rfl, rfl, by decide +kernel, rfl, by decide +kernel, by decide +kernel⟩
theorem c25 : (defBody (top 33)).mapM (cstmt 60 ⟨N25, defScope (top 33), gt⟩) = some b25 := by kernel_rfl
theorem s25 : FnScope N25 ["script"] (defScope (top 33)) := ⟨rfl, rfl, rfl, by decide +kernel, rfl, by decide +kernel, by decide +kernel⟩
theorem h0 (G : Gs) (kV doc pm cdv ct : Value) (an : Option Addr) : ∀ sh ∈ ([⟨1, [], [], [0]⟩] : List Shape), ShapeOk G (PySem.W.fnOf "is_whole" "is_whole" (defArgs (top 7)) (defBody (top 7)) (defScope (top 7)) .none kV doc pm an cdv ct) ["thing"] sh := by
  intro sh hsh
  cases List.mem_singleton.mp hsh
  exact shape_mk rfl fun us ws zs h1 h2 h3 => match us, ws, h1, h2, h3 with | [_], [], _, _, h3 => by cases h3; rfl
theorem h1 (G : Gs) (kV doc pm cdv ct : Value) (an : Option Addr) : ∀ sh ∈ ([⟨1, [], [], [0]⟩] : List Shape), ShapeOk G (PySem.W.fnOf "is_from_one" "is_from_one" (defArgs (top 8)) (defBody (top 8)) (defScope (top 8)) .none kV doc pm an cdv ct) ["thing"] sh := by
  intro sh hsh
  cases List.mem_singleton.mp hsh
  exact shape_mk rfl fun us ws zs h1 h2 h3 => match us, ws, h1, h2, h3 with | [_], [], _, _, h3 => by cases h3; rfl
theorem h2 (G : Gs) (kV doc pm cdv ct : Value) (an : Option Addr) : ∀ sh ∈ ([⟨1, [], [], [0]⟩, ⟨0, ["thing"], [], [0]⟩] : List Shape), ShapeOk G (PySem.W.fnOf "is_name" "is_name" (defArgs (top 9)) (defBody (top 9)) (defScope (top 9)) .none kV doc pm an cdv ct) ["thing"] sh := by
  intro sh hsh
  simp only [List.mem_cons, List.not_mem_nil, or_false] at hsh
  rcases hsh with rfl | rfl
  · exact shape_mk rfl fun us ws zs h1 h2 h3 => match us, ws, h1, h2, h3 with | [_], [], _, _, h3 => by cases h3; rfl
  · exact shape_mk rfl fun us ws zs h1 h2 h3 => match us, ws, h1, h2, h3 with | [], [_], _, _, h3 => by cases h3; rfl
theorem h3 (G : Gs) (kV doc pm cdv ct : Value) (an : Option Addr) : ∀ sh ∈ ([⟨1, [], [], [0]⟩, ⟨0, ["thing"], [], [0]⟩] : List Shape), ShapeOk G (PySem.W.fnOf "is_thread" "is_thread" (defArgs (top 10)) (defBody (top 10)) (defScope (top 10)) .none kV doc pm an cdv ct) ["thing"] sh := by
  intro sh hsh
  simp only [List.mem_cons, List.not_mem_nil, or_false] at hsh
  rcases hsh with rfl | rfl
  · exact shape_mk rfl fun us ws zs h1 h2 h3 => match us, ws, h1, h2, h3 with | [_], [], _, _, h3 => by cases h3; rfl
  · exact shape_mk rfl fun us ws zs h1 h2 h3 => match us, ws, h1, h2, h3 with | [], [_], _, _, h3 => by cases h3; rfl
theorem h4 (G : Gs) (kV doc pm cdv ct : Value) (an : Option Addr) : ∀ sh ∈ ([⟨3, [], [], [0, 1, 2]⟩] : List Shape), ShapeOk G (PySem.W.fnOf "is_worded" "is_worded" (defArgs (top 11)) (defBody (top 11)) (defScope (top 11)) .none kV doc pm an cdv ct) ["thing", "word", "size"] sh := by
  intro sh hsh
  cases List.mem_singleton.mp hsh
  exact shape_mk rfl fun us ws zs h1 h2 h3 => match us, ws, h1, h2, h3 with | [_, _, _], [], _, _, h3 => by cases h3; rfl
theorem h5 (G : Gs) (kV doc pm cdv ct : Value) (an : Option Addr) : ∀ sh ∈ ([⟨2, [], [], [0, 1]⟩] : List Shape), ShapeOk G (PySem.W.fnOf "is_made_one" "is_made_one" (defArgs (top 12)) (defBody (top 12)) (defScope (top 12)) .none kV doc pm an cdv ct) ["thing", "word"] sh := by
  intro sh hsh
  cases List.mem_singleton.mp hsh
  exact shape_mk rfl fun us ws zs h1 h2 h3 => match us, ws, h1, h2, h3 with | [_, _], [], _, _, h3 => by cases h3; rfl
theorem h6 (G : Gs) (kV doc pm cdv ct : Value) (an : Option Addr) : ∀ sh ∈ ([⟨1, [], [], [0]⟩, ⟨0, ["thing"], [], [0]⟩] : List Shape), ShapeOk G (PySem.W.fnOf "is_line" "is_line" (defArgs (top 13)) (defBody (top 13)) (defScope (top 13)) .none kV doc pm an cdv ct) ["thing"] sh := by
  intro sh hsh
  simp only [List.mem_cons, List.not_mem_nil, or_false] at hsh
  rcases hsh with rfl | rfl
  · exact shape_mk rfl fun us ws zs h1 h2 h3 => match us, ws, h1, h2, h3 with | [_], [], _, _, h3 => by cases h3; rfl
  · exact shape_mk rfl fun us ws zs h1 h2 h3 => match us, ws, h1, h2, h3 with | [], [_], _, _, h3 => by cases h3; rfl
theorem h7 (G : Gs) (kV doc pm cdv ct : Value) (an : Option Addr) : ∀ sh ∈ ([⟨1, [], [], [0]⟩, ⟨0, ["thing"], [], [0]⟩] : List Shape), ShapeOk G (PySem.W.fnOf "is_locker" "is_locker" (defArgs (top 14)) (defBody (top 14)) (defScope (top 14)) .none kV doc pm an cdv ct) ["thing"] sh := by
  intro sh hsh
  simp only [List.mem_cons, List.not_mem_nil, or_false] at hsh
  rcases hsh with rfl | rfl
  · exact shape_mk rfl fun us ws zs h1 h2 h3 => match us, ws, h1, h2, h3 with | [_], [], _, _, h3 => by cases h3; rfl
  · exact shape_mk rfl fun us ws zs h1 h2 h3 => match us, ws, h1, h2, h3 with | [], [_], _, _, h3 => by cases h3; rfl
theorem h8 (G : Gs) (kV doc pm cdv ct : Value) (an : Option Addr) : ∀ sh ∈ ([⟨1, [], [], [0]⟩, ⟨0, ["thing"], [], [0]⟩] : List Shape), ShapeOk G (PySem.W.fnOf "is_point" "is_point" (defArgs (top 15)) (defBody (top 15)) (defScope (top 15)) .none kV doc pm an cdv ct) ["thing"] sh := by
  intro sh hsh
  simp only [List.mem_cons, List.not_mem_nil, or_false] at hsh
  rcases hsh with rfl | rfl
  · exact shape_mk rfl fun us ws zs h1 h2 h3 => match us, ws, h1, h2, h3 with | [_], [], _, _, h3 => by cases h3; rfl
  · exact shape_mk rfl fun us ws zs h1 h2 h3 => match us, ws, h1, h2, h3 with | [], [_], _, _, h3 => by cases h3; rfl
theorem h9 (G : Gs) (kV doc pm cdv ct : Value) (an : Option Addr) : ∀ sh ∈ ([⟨1, [], [], [0]⟩, ⟨0, ["thing"], [], [0]⟩] : List Shape), ShapeOk G (PySem.W.fnOf "is_edge" "is_edge" (defArgs (top 16)) (defBody (top 16)) (defScope (top 16)) .none kV doc pm an cdv ct) ["thing"] sh := by
  intro sh hsh
  simp only [List.mem_cons, List.not_mem_nil, or_false] at hsh
  rcases hsh with rfl | rfl
  · exact shape_mk rfl fun us ws zs h1 h2 h3 => match us, ws, h1, h2, h3 with | [_], [], _, _, h3 => by cases h3; rfl
  · exact shape_mk rfl fun us ws zs h1 h2 h3 => match us, ws, h1, h2, h3 with | [], [_], _, _, h3 => by cases h3; rfl
theorem h10 (G : Gs) (kV doc pm cdv ct : Value) (an : Option Addr) : ∀ sh ∈ ([⟨2, [], [], [0, 1]⟩] : List Shape), ShapeOk G (PySem.W.fnOf "_law_pot" "_law_pot" (defArgs (top 18)) (defBody (top 18)) (defScope (top 18)) .none kV doc pm an cdv ct) ["script", "k"] sh := by
  intro sh hsh
  cases List.mem_singleton.mp hsh
  exact shape_mk rfl fun us ws zs h1 h2 h3 => match us, ws, h1, h2, h3 with | [_, _], [], _, _, h3 => by cases h3; rfl
theorem h11 (G : Gs) (kV doc pm cdv ct : Value) (an : Option Addr) : ∀ sh ∈ ([⟨2, [], [], [0, 1]⟩] : List Shape), ShapeOk G (PySem.W.fnOf "_law_take" "_law_take" (defArgs (top 19)) (defBody (top 19)) (defScope (top 19)) .none kV doc pm an cdv ct) ["pot", "many"] sh := by
  intro sh hsh
  cases List.mem_singleton.mp hsh
  exact shape_mk rfl fun us ws zs h1 h2 h3 => match us, ws, h1, h2, h3 with | [_, _], [], _, _, h3 => by cases h3; rfl
theorem h12 (G : Gs) (kV doc pm cdv ct : Value) (an : Option Addr) : ∀ sh ∈ ([⟨2, [], [], [0, 1]⟩] : List Shape), ShapeOk G (PySem.W.fnOf "_law_among" "_law_among" (defArgs (top 20)) (defBody (top 20)) (defScope (top 20)) .none kV doc pm an cdv ct) ["pot", "some"] sh := by
  intro sh hsh
  cases List.mem_singleton.mp hsh
  exact shape_mk rfl fun us ws zs h1 h2 h3 => match us, ws, h1, h2, h3 with | [_, _], [], _, _, h3 => by cases h3; rfl
theorem h13 (G : Gs) (kV doc pm cdv ct : Value) (an : Option Addr) : ∀ sh ∈ ([⟨1, [], [], [0]⟩] : List Shape), ShapeOk G (PySem.W.fnOf "_law_name" "_law_name" (defArgs (top 21)) (defBody (top 21)) (defScope (top 21)) .none kV doc pm an cdv ct) ["pot"] sh := by
  intro sh hsh
  cases List.mem_singleton.mp hsh
  exact shape_mk rfl fun us ws zs h1 h2 h3 => match us, ws, h1, h2, h3 with | [_], [], _, _, h3 => by cases h3; rfl
theorem h14 (G : Gs) (kV doc pm cdv ct : Value) (an : Option Addr) : ∀ sh ∈ ([⟨1, [], [], [0]⟩] : List Shape), ShapeOk G (PySem.W.fnOf "_law_number" "_law_number" (defArgs (top 22)) (defBody (top 22)) (defScope (top 22)) .none kV doc pm an cdv ct) ["pot"] sh := by
  intro sh hsh
  cases List.mem_singleton.mp hsh
  exact shape_mk rfl fun us ws zs h1 h2 h3 => match us, ws, h1, h2, h3 with | [_], [], _, _, h3 => by cases h3; rfl
theorem h15 (G : Gs) (kV doc pm cdv ct : Value) (an : Option Addr) : ∀ sh ∈ ([⟨1, [], [], [0]⟩] : List Shape), ShapeOk G (PySem.W.fnOf "_law_thread" "_law_thread" (defArgs (top 23)) (defBody (top 23)) (defScope (top 23)) .none kV doc pm an cdv ct) ["pot"] sh := by
  intro sh hsh
  cases List.mem_singleton.mp hsh
  exact shape_mk rfl fun us ws zs h1 h2 h3 => match us, ws, h1, h2, h3 with | [_], [], _, _, h3 => by cases h3; rfl
theorem h16 (G : Gs) (kV doc pm cdv ct : Value) (an : Option Addr) : ∀ sh ∈ ([⟨1, [], [], [0]⟩] : List Shape), ShapeOk G (PySem.W.fnOf "_law_point" "_law_point" (defArgs (top 24)) (defBody (top 24)) (defScope (top 24)) .none kV doc pm an cdv ct) ["pot"] sh := by
  intro sh hsh
  cases List.mem_singleton.mp hsh
  exact shape_mk rfl fun us ws zs h1 h2 h3 => match us, ws, h1, h2, h3 with | [_], [], _, _, h3 => by cases h3; rfl
theorem h17 (G : Gs) (kV doc pm cdv ct : Value) (an : Option Addr) : ∀ sh ∈ ([⟨2, [], [], [0, 1]⟩] : List Shape), ShapeOk G (PySem.W.fnOf "_law_thing" "_law_thing" (defArgs (top 25)) (defBody (top 25)) (defScope (top 25)) .none kV doc pm an cdv ct) ["pot", "kind"] sh := by
  intro sh hsh
  cases List.mem_singleton.mp hsh
  exact shape_mk rfl fun us ws zs h1 h2 h3 => match us, ws, h1, h2, h3 with | [_, _], [], _, _, h3 => by cases h3; rfl
theorem h18 (G : Gs) (kV doc pm cdv ct : Value) (an : Option Addr) : ∀ sh ∈ ([⟨1, [], [], [0]⟩] : List Shape), ShapeOk G (PySem.W.fnOf "_law_odd" "_law_odd" (defArgs (top 26)) (defBody (top 26)) (defScope (top 26)) .none kV doc pm an cdv ct) ["pot"] sh := by
  intro sh hsh
  cases List.mem_singleton.mp hsh
  exact shape_mk rfl fun us ws zs h1 h2 h3 => match us, ws, h1, h2, h3 with | [_], [], _, _, h3 => by cases h3; rfl
theorem h19 (G : Gs) (kV doc pm cdv ct : Value) (an : Option Addr) : ∀ sh ∈ ([⟨2, [], [], [0, 1]⟩] : List Shape), ShapeOk G (PySem.W.fnOf "_law_spoilt" "_law_spoilt" (defArgs (top 27)) (defBody (top 27)) (defScope (top 27)) .none kV doc pm an cdv ct) ["pot", "stuff"] sh := by
  intro sh hsh
  cases List.mem_singleton.mp hsh
  exact shape_mk rfl fun us ws zs h1 h2 h3 => match us, ws, h1, h2, h3 with | [_, _], [], _, _, h3 => by cases h3; rfl
theorem h20 (G : Gs) (kV doc pm cdv ct : Value) (an : Option Addr) : ∀ sh ∈ ([⟨1, [], [], [0]⟩] : List Shape), ShapeOk G (PySem.W.fnOf "_law_are_letters" "_law_are_letters" (defArgs (top 28)) (defBody (top 28)) (defScope (top 28)) .none kV doc pm an cdv ct) ["stuff"] sh := by
  intro sh hsh
  cases List.mem_singleton.mp hsh
  exact shape_mk rfl fun us ws zs h1 h2 h3 => match us, ws, h1, h2, h3 with | [_], [], _, _, h3 => by cases h3; rfl
theorem h21 (G : Gs) (kV doc pm cdv ct : Value) (an : Option Addr) : ∀ sh ∈ ([⟨1, [], [], [0]⟩] : List Shape), ShapeOk G (PySem.W.fnOf "_law_is_number" "_law_is_number" (defArgs (top 29)) (defBody (top 29)) (defScope (top 29)) .none kV doc pm an cdv ct) ["stuff"] sh := by
  intro sh hsh
  cases List.mem_singleton.mp hsh
  exact shape_mk rfl fun us ws zs h1 h2 h3 => match us, ws, h1, h2, h3 with | [_], [], _, _, h3 => by cases h3; rfl
theorem h22 (G : Gs) (kV doc pm cdv ct : Value) (an : Option Addr) : ∀ sh ∈ ([⟨2, [], [], [0, 1]⟩] : List Shape), ShapeOk G (PySem.W.fnOf "_law_parts" "_law_parts" (defArgs (top 30)) (defBody (top 30)) (defScope (top 30)) .none kV doc pm an cdv ct) ["stuff", "size"] sh := by
  intro sh hsh
  cases List.mem_singleton.mp hsh
  exact shape_mk rfl fun us ws zs h1 h2 h3 => match us, ws, h1, h2, h3 with | [_, _], [], _, _, h3 => by cases h3; rfl
theorem h23 (G : Gs) (kV doc pm cdv ct : Value) (an : Option Addr) : ∀ sh ∈ ([⟨1, [], [], [0]⟩] : List Shape), ShapeOk G (PySem.W.fnOf "_law_sort" "_law_sort" (defArgs (top 31)) (defBody (top 31)) (defScope (top 31)) .none kV doc pm an cdv ct) ["stuff"] sh := by
  intro sh hsh
  cases List.mem_singleton.mp hsh
  exact shape_mk rfl fun us ws zs h1 h2 h3 => match us, ws, h1, h2, h3 with | [_], [], _, _, h3 => by cases h3; rfl
theorem h24 (G : Gs) (kV doc pm cdv ct : Value) (an : Option Addr) : ∀ sh ∈ ([⟨1, [], [], [0]⟩] : List Shape), ShapeOk G (PySem.W.fnOf "_law_right" "_law_right" (defArgs (top 32)) (defBody (top 32)) (defScope (top 32)) .none kV doc pm an cdv ct) ["stuff"] sh := by
  intro sh hsh
  cases List.mem_singleton.mp hsh
  exact shape_mk rfl fun us ws zs h1 h2 h3 => match us, ws, h1, h2, h3 with | [_], [], _, _, h3 => by cases h3; rfl
theorem h25 (G : Gs) (kV doc pm cdv ct : Value) (an : Option Addr) : ∀ sh ∈ ([⟨1, [], [], [0]⟩] : List Shape), ShapeOk G (PySem.W.fnOf "law" "law" (defArgs (top 33)) (defBody (top 33)) (defScope (top 33)) .none kV doc pm an cdv ct) ["script"] sh := by
  intro sh hsh
  cases List.mem_singleton.mp hsh
  exact shape_mk rfl fun us ws zs h1 h2 h3 => match us, ws, h1, h2, h3 with | [_], [], _, _, h3 => by cases h3; rfl
theorem all_mk {K : PySem.W.Frag} {h : Heap} {mg : Str → Option Value} (X : K.In h) (Gn : h.Ns mainGlobals mg)
    {f0 f1 f2 f3 f4 f5 f6 f7 f8 f9 f10 f11 f12 f13 f14 f15 f16 f17 f18 f19 f20 f21 f22 f23 f24 f25 : Addr}
    {oc0 kV0 dc0 pm0 cd0 ct0 : Value} {od0 an0 : Option Addr} {sl0 : Array (Option Value)}
    {oc1 kV1 dc1 pm1 cd1 ct1 : Value} {od1 an1 : Option Addr} {sl1 : Array (Option Value)}
    {oc2 kV2 dc2 pm2 cd2 ct2 : Value} {od2 an2 : Option Addr} {sl2 : Array (Option Value)}
    {oc3 kV3 dc3 pm3 cd3 ct3 : Value} {od3 an3 : Option Addr} {sl3 : Array (Option Value)}
    {oc4 kV4 dc4 pm4 cd4 ct4 : Value} {od4 an4 : Option Addr} {sl4 : Array (Option Value)}
    {oc5 kV5 dc5 pm5 cd5 ct5 : Value} {od5 an5 : Option Addr} {sl5 : Array (Option Value)}
    {oc6 kV6 dc6 pm6 cd6 ct6 : Value} {od6 an6 : Option Addr} {sl6 : Array (Option Value)}
    {oc7 kV7 dc7 pm7 cd7 ct7 : Value} {od7 an7 : Option Addr} {sl7 : Array (Option Value)}
    {oc8 kV8 dc8 pm8 cd8 ct8 : Value} {od8 an8 : Option Addr} {sl8 : Array (Option Value)}
    {oc9 kV9 dc9 pm9 cd9 ct9 : Value} {od9 an9 : Option Addr} {sl9 : Array (Option Value)}
    {oc10 kV10 dc10 pm10 cd10 ct10 : Value} {od10 an10 : Option Addr} {sl10 : Array (Option Value)}
    {oc11 kV11 dc11 pm11 cd11 ct11 : Value} {od11 an11 : Option Addr} {sl11 : Array (Option Value)}
    {oc12 kV12 dc12 pm12 cd12 ct12 : Value} {od12 an12 : Option Addr} {sl12 : Array (Option Value)}
    {oc13 kV13 dc13 pm13 cd13 ct13 : Value} {od13 an13 : Option Addr} {sl13 : Array (Option Value)}
    {oc14 kV14 dc14 pm14 cd14 ct14 : Value} {od14 an14 : Option Addr} {sl14 : Array (Option Value)}
    {oc15 kV15 dc15 pm15 cd15 ct15 : Value} {od15 an15 : Option Addr} {sl15 : Array (Option Value)}
    {oc16 kV16 dc16 pm16 cd16 ct16 : Value} {od16 an16 : Option Addr} {sl16 : Array (Option Value)}
    {oc17 kV17 dc17 pm17 cd17 ct17 : Value} {od17 an17 : Option Addr} {sl17 : Array (Option Value)}
    {oc18 kV18 dc18 pm18 cd18 ct18 : Value} {od18 an18 : Option Addr} {sl18 : Array (Option Value)}
    {oc19 kV19 dc19 pm19 cd19 ct19 : Value} {od19 an19 : Option Addr} {sl19 : Array (Option Value)}
    {oc20 kV20 dc20 pm20 cd20 ct20 : Value} {od20 an20 : Option Addr} {sl20 : Array (Option Value)}
    {oc21 kV21 dc21 pm21 cd21 ct21 : Value} {od21 an21 : Option Addr} {sl21 : Array (Option Value)}
    {oc22 kV22 dc22 pm22 cd22 ct22 : Value} {od22 an22 : Option Addr} {sl22 : Array (Option Value)}
    {oc23 kV23 dc23 pm23 cd23 ct23 : Value} {od23 an23 : Option Addr} {sl23 : Array (Option Value)}
    {oc24 kV24 dc24 pm24 cd24 ct24 : Value} {od24 an24 : Option Addr} {sl24 : Array (Option Value)}
    {oc25 kV25 dc25 pm25 cd25 ct25 : Value} {od25 an25 : Option Addr} {sl25 : Array (Option Value)}
    {t0 : Tok} (z0 : PySem.W.nsIn K mainGlobals "LETTERS" = some (some (.str "abcdefghijklmnopqrstuvwxyz" t0)))
    {t1 : Tok} (z1 : PySem.W.nsIn K mainGlobals "MOST_LETTERS" = some (some (.int 8 t1)))
    {t2 : Tok} (z2 : PySem.W.nsIn K mainGlobals "THREAD" = some (some (.str "thread" t2)))
    {t3 : Tok} (z3 : PySem.W.nsIn K mainGlobals "LINE" = some (some (.str "line" t3)))
    {t4 : Tok} (z4 : PySem.W.nsIn K mainGlobals "LOCKER" = some (some (.str "locker" t4)))
    {t5 : Tok} (z5 : PySem.W.nsIn K mainGlobals "KEY" = some (some (.str "key" t5)))
    (a0 : PySem.W.nsIn K mainGlobals "is_whole" = some (some (.ref f0))) (l0 : K.lookup f0 = some ⟨oc0, od0, .func (PySem.W.fnOf "is_whole" "is_whole" (defArgs (top 7)) (defBody (top 7)) (defScope (top 7)) .none kV0 dc0 pm0 an0 cd0 ct0), sl0⟩) (e0 : PySem.W.codeIn K cd0 "is_whole" = true) (k0 : PySem.W.keepIn K (.ref f0) = true)
    (a1 : PySem.W.nsIn K mainGlobals "is_from_one" = some (some (.ref f1))) (l1 : K.lookup f1 = some ⟨oc1, od1, .func (PySem.W.fnOf "is_from_one" "is_from_one" (defArgs (top 8)) (defBody (top 8)) (defScope (top 8)) .none kV1 dc1 pm1 an1 cd1 ct1), sl1⟩) (e1 : PySem.W.codeIn K cd1 "is_from_one" = true) (k1 : PySem.W.keepIn K (.ref f1) = true)
    (a2 : PySem.W.nsIn K mainGlobals "is_name" = some (some (.ref f2))) (l2 : K.lookup f2 = some ⟨oc2, od2, .func (PySem.W.fnOf "is_name" "is_name" (defArgs (top 9)) (defBody (top 9)) (defScope (top 9)) .none kV2 dc2 pm2 an2 cd2 ct2), sl2⟩) (e2 : PySem.W.codeIn K cd2 "is_name" = true) (k2 : PySem.W.keepIn K (.ref f2) = true)
    (a3 : PySem.W.nsIn K mainGlobals "is_thread" = some (some (.ref f3))) (l3 : K.lookup f3 = some ⟨oc3, od3, .func (PySem.W.fnOf "is_thread" "is_thread" (defArgs (top 10)) (defBody (top 10)) (defScope (top 10)) .none kV3 dc3 pm3 an3 cd3 ct3), sl3⟩) (e3 : PySem.W.codeIn K cd3 "is_thread" = true) (k3 : PySem.W.keepIn K (.ref f3) = true)
    (a4 : PySem.W.nsIn K mainGlobals "is_worded" = some (some (.ref f4))) (l4 : K.lookup f4 = some ⟨oc4, od4, .func (PySem.W.fnOf "is_worded" "is_worded" (defArgs (top 11)) (defBody (top 11)) (defScope (top 11)) .none kV4 dc4 pm4 an4 cd4 ct4), sl4⟩) (e4 : PySem.W.codeIn K cd4 "is_worded" = true) (k4 : PySem.W.keepIn K (.ref f4) = true)
    (a5 : PySem.W.nsIn K mainGlobals "is_made_one" = some (some (.ref f5))) (l5 : K.lookup f5 = some ⟨oc5, od5, .func (PySem.W.fnOf "is_made_one" "is_made_one" (defArgs (top 12)) (defBody (top 12)) (defScope (top 12)) .none kV5 dc5 pm5 an5 cd5 ct5), sl5⟩) (e5 : PySem.W.codeIn K cd5 "is_made_one" = true) (k5 : PySem.W.keepIn K (.ref f5) = true)
    (a6 : PySem.W.nsIn K mainGlobals "is_line" = some (some (.ref f6))) (l6 : K.lookup f6 = some ⟨oc6, od6, .func (PySem.W.fnOf "is_line" "is_line" (defArgs (top 13)) (defBody (top 13)) (defScope (top 13)) .none kV6 dc6 pm6 an6 cd6 ct6), sl6⟩) (e6 : PySem.W.codeIn K cd6 "is_line" = true) (k6 : PySem.W.keepIn K (.ref f6) = true)
    (a7 : PySem.W.nsIn K mainGlobals "is_locker" = some (some (.ref f7))) (l7 : K.lookup f7 = some ⟨oc7, od7, .func (PySem.W.fnOf "is_locker" "is_locker" (defArgs (top 14)) (defBody (top 14)) (defScope (top 14)) .none kV7 dc7 pm7 an7 cd7 ct7), sl7⟩) (e7 : PySem.W.codeIn K cd7 "is_locker" = true) (k7 : PySem.W.keepIn K (.ref f7) = true)
    (a8 : PySem.W.nsIn K mainGlobals "is_point" = some (some (.ref f8))) (l8 : K.lookup f8 = some ⟨oc8, od8, .func (PySem.W.fnOf "is_point" "is_point" (defArgs (top 15)) (defBody (top 15)) (defScope (top 15)) .none kV8 dc8 pm8 an8 cd8 ct8), sl8⟩) (e8 : PySem.W.codeIn K cd8 "is_point" = true) (k8 : PySem.W.keepIn K (.ref f8) = true)
    (a9 : PySem.W.nsIn K mainGlobals "is_edge" = some (some (.ref f9))) (l9 : K.lookup f9 = some ⟨oc9, od9, .func (PySem.W.fnOf "is_edge" "is_edge" (defArgs (top 16)) (defBody (top 16)) (defScope (top 16)) .none kV9 dc9 pm9 an9 cd9 ct9), sl9⟩) (e9 : PySem.W.codeIn K cd9 "is_edge" = true) (k9 : PySem.W.keepIn K (.ref f9) = true)
    (a10 : PySem.W.nsIn K mainGlobals "_law_pot" = some (some (.ref f10))) (l10 : K.lookup f10 = some ⟨oc10, od10, .func (PySem.W.fnOf "_law_pot" "_law_pot" (defArgs (top 18)) (defBody (top 18)) (defScope (top 18)) .none kV10 dc10 pm10 an10 cd10 ct10), sl10⟩) (e10 : PySem.W.codeIn K cd10 "_law_pot" = true) (k10 : PySem.W.keepIn K (.ref f10) = true)
    (a11 : PySem.W.nsIn K mainGlobals "_law_take" = some (some (.ref f11))) (l11 : K.lookup f11 = some ⟨oc11, od11, .func (PySem.W.fnOf "_law_take" "_law_take" (defArgs (top 19)) (defBody (top 19)) (defScope (top 19)) .none kV11 dc11 pm11 an11 cd11 ct11), sl11⟩) (e11 : PySem.W.codeIn K cd11 "_law_take" = true) (k11 : PySem.W.keepIn K (.ref f11) = true)
    (a12 : PySem.W.nsIn K mainGlobals "_law_among" = some (some (.ref f12))) (l12 : K.lookup f12 = some ⟨oc12, od12, .func (PySem.W.fnOf "_law_among" "_law_among" (defArgs (top 20)) (defBody (top 20)) (defScope (top 20)) .none kV12 dc12 pm12 an12 cd12 ct12), sl12⟩) (e12 : PySem.W.codeIn K cd12 "_law_among" = true) (k12 : PySem.W.keepIn K (.ref f12) = true)
    (a13 : PySem.W.nsIn K mainGlobals "_law_name" = some (some (.ref f13))) (l13 : K.lookup f13 = some ⟨oc13, od13, .func (PySem.W.fnOf "_law_name" "_law_name" (defArgs (top 21)) (defBody (top 21)) (defScope (top 21)) .none kV13 dc13 pm13 an13 cd13 ct13), sl13⟩) (e13 : PySem.W.codeIn K cd13 "_law_name" = true) (k13 : PySem.W.keepIn K (.ref f13) = true)
    (a14 : PySem.W.nsIn K mainGlobals "_law_number" = some (some (.ref f14))) (l14 : K.lookup f14 = some ⟨oc14, od14, .func (PySem.W.fnOf "_law_number" "_law_number" (defArgs (top 22)) (defBody (top 22)) (defScope (top 22)) .none kV14 dc14 pm14 an14 cd14 ct14), sl14⟩) (e14 : PySem.W.codeIn K cd14 "_law_number" = true) (k14 : PySem.W.keepIn K (.ref f14) = true)
    (a15 : PySem.W.nsIn K mainGlobals "_law_thread" = some (some (.ref f15))) (l15 : K.lookup f15 = some ⟨oc15, od15, .func (PySem.W.fnOf "_law_thread" "_law_thread" (defArgs (top 23)) (defBody (top 23)) (defScope (top 23)) .none kV15 dc15 pm15 an15 cd15 ct15), sl15⟩) (e15 : PySem.W.codeIn K cd15 "_law_thread" = true) (k15 : PySem.W.keepIn K (.ref f15) = true)
    (a16 : PySem.W.nsIn K mainGlobals "_law_point" = some (some (.ref f16))) (l16 : K.lookup f16 = some ⟨oc16, od16, .func (PySem.W.fnOf "_law_point" "_law_point" (defArgs (top 24)) (defBody (top 24)) (defScope (top 24)) .none kV16 dc16 pm16 an16 cd16 ct16), sl16⟩) (e16 : PySem.W.codeIn K cd16 "_law_point" = true) (k16 : PySem.W.keepIn K (.ref f16) = true)
    (a17 : PySem.W.nsIn K mainGlobals "_law_thing" = some (some (.ref f17))) (l17 : K.lookup f17 = some ⟨oc17, od17, .func (PySem.W.fnOf "_law_thing" "_law_thing" (defArgs (top 25)) (defBody (top 25)) (defScope (top 25)) .none kV17 dc17 pm17 an17 cd17 ct17), sl17⟩) (e17 : PySem.W.codeIn K cd17 "_law_thing" = true) (k17 : PySem.W.keepIn K (.ref f17) = true)
    (a18 : PySem.W.nsIn K mainGlobals "_law_odd" = some (some (.ref f18))) (l18 : K.lookup f18 = some ⟨oc18, od18, .func (PySem.W.fnOf "_law_odd" "_law_odd" (defArgs (top 26)) (defBody (top 26)) (defScope (top 26)) .none kV18 dc18 pm18 an18 cd18 ct18), sl18⟩) (e18 : PySem.W.codeIn K cd18 "_law_odd" = true) (k18 : PySem.W.keepIn K (.ref f18) = true)
    (a19 : PySem.W.nsIn K mainGlobals "_law_spoilt" = some (some (.ref f19))) (l19 : K.lookup f19 = some ⟨oc19, od19, .func (PySem.W.fnOf "_law_spoilt" "_law_spoilt" (defArgs (top 27)) (defBody (top 27)) (defScope (top 27)) .none kV19 dc19 pm19 an19 cd19 ct19), sl19⟩) (e19 : PySem.W.codeIn K cd19 "_law_spoilt" = true) (k19 : PySem.W.keepIn K (.ref f19) = true)
    (a20 : PySem.W.nsIn K mainGlobals "_law_are_letters" = some (some (.ref f20))) (l20 : K.lookup f20 = some ⟨oc20, od20, .func (PySem.W.fnOf "_law_are_letters" "_law_are_letters" (defArgs (top 28)) (defBody (top 28)) (defScope (top 28)) .none kV20 dc20 pm20 an20 cd20 ct20), sl20⟩) (e20 : PySem.W.codeIn K cd20 "_law_are_letters" = true) (k20 : PySem.W.keepIn K (.ref f20) = true)
    (a21 : PySem.W.nsIn K mainGlobals "_law_is_number" = some (some (.ref f21))) (l21 : K.lookup f21 = some ⟨oc21, od21, .func (PySem.W.fnOf "_law_is_number" "_law_is_number" (defArgs (top 29)) (defBody (top 29)) (defScope (top 29)) .none kV21 dc21 pm21 an21 cd21 ct21), sl21⟩) (e21 : PySem.W.codeIn K cd21 "_law_is_number" = true) (k21 : PySem.W.keepIn K (.ref f21) = true)
    (a22 : PySem.W.nsIn K mainGlobals "_law_parts" = some (some (.ref f22))) (l22 : K.lookup f22 = some ⟨oc22, od22, .func (PySem.W.fnOf "_law_parts" "_law_parts" (defArgs (top 30)) (defBody (top 30)) (defScope (top 30)) .none kV22 dc22 pm22 an22 cd22 ct22), sl22⟩) (e22 : PySem.W.codeIn K cd22 "_law_parts" = true) (k22 : PySem.W.keepIn K (.ref f22) = true)
    (a23 : PySem.W.nsIn K mainGlobals "_law_sort" = some (some (.ref f23))) (l23 : K.lookup f23 = some ⟨oc23, od23, .func (PySem.W.fnOf "_law_sort" "_law_sort" (defArgs (top 31)) (defBody (top 31)) (defScope (top 31)) .none kV23 dc23 pm23 an23 cd23 ct23), sl23⟩) (e23 : PySem.W.codeIn K cd23 "_law_sort" = true) (k23 : PySem.W.keepIn K (.ref f23) = true)
    (a24 : PySem.W.nsIn K mainGlobals "_law_right" = some (some (.ref f24))) (l24 : K.lookup f24 = some ⟨oc24, od24, .func (PySem.W.fnOf "_law_right" "_law_right" (defArgs (top 32)) (defBody (top 32)) (defScope (top 32)) .none kV24 dc24 pm24 an24 cd24 ct24), sl24⟩) (e24 : PySem.W.codeIn K cd24 "_law_right" = true) (k24 : PySem.W.keepIn K (.ref f24) = true)
    (a25 : PySem.W.nsIn K mainGlobals "law" = some (some (.ref f25))) (l25 : K.lookup f25 = some ⟨oc25, od25, .func (PySem.W.fnOf "law" "law" (defArgs (top 33)) (defBody (top 33)) (defScope (top 33)) .none kV25 dc25 pm25 an25 cd25 ct25), sl25⟩) (e25 : PySem.W.codeIn K cd25 "law" = true) (k25 : PySem.W.keepIn K (.ref f25) = true)
    (y0 : PySem.W.nsIn K mainGlobals "abs" = some none)
    (y1 : PySem.W.nsIn K mainGlobals "all" = some none)
    (y2 : PySem.W.nsIn K mainGlobals "bool" = some none)
    (y3 : PySem.W.nsIn K mainGlobals "divmod" = some none)
    (y4 : PySem.W.nsIn K mainGlobals "int" = some none)
    (y5 : PySem.W.nsIn K mainGlobals "isinstance" = some none)
    (y6 : PySem.W.nsIn K mainGlobals "len" = some none)
    (y7 : PySem.W.nsIn K mainGlobals "list" = some none)
    (y8 : PySem.W.nsIn K mainGlobals "max" = some none)
    (y9 : PySem.W.nsIn K mainGlobals "min" = some none)
    (y10 : PySem.W.nsIn K mainGlobals "range" = some none)
    (y11 : PySem.W.nsIn K mainGlobals "repr" = some none)
    (y12 : PySem.W.nsIn K mainGlobals "str" = some none)
    (y13 : PySem.W.nsIn K mainGlobals "tuple" = some none)
    : ∃ G : Gs, G.K = K ∧ ∀ x e, gt.lookup x = some e → StatOk G mg gt ds x e := by
  refine ⟨⟨K, fun i => ([f0, f1, f2, f3, f4, f5, f6, f7, f8, f9, f10, f11, f12, f13, f14, f15, f16, f17, f18, f19, f20, f21, f22, f23, f24, f25][i]?).map V.ref, fun _ => none⟩, rfl, stat_all gt ?_⟩
  unfold gt
  refine List.forall_mem_cons.mpr ⟨stat_str X Gn z0, ?_⟩
  refine List.forall_mem_cons.mpr ⟨stat_int X Gn z1, ?_⟩
  refine List.forall_mem_cons.mpr ⟨stat_str X Gn z2, ?_⟩
  refine List.forall_mem_cons.mpr ⟨stat_str X Gn z3, ?_⟩
  refine List.forall_mem_cons.mpr ⟨stat_str X Gn z4, ?_⟩
  refine List.forall_mem_cons.mpr ⟨stat_str X Gn z5, ?_⟩
  refine List.forall_mem_cons.mpr ⟨stat_fn X Gn rfl a0 l0 e0 k0 rfl s0 rfl c0 (h0 _), ?_⟩
  refine List.forall_mem_cons.mpr ⟨stat_fn X Gn rfl a1 l1 e1 k1 rfl s1 rfl c1 (h1 _), ?_⟩
  refine List.forall_mem_cons.mpr ⟨stat_fn X Gn rfl a2 l2 e2 k2 rfl s2 rfl c2 (h2 _), ?_⟩
  refine List.forall_mem_cons.mpr ⟨stat_fn X Gn rfl a3 l3 e3 k3 rfl s3 rfl c3 (h3 _), ?_⟩
  refine List.forall_mem_cons.mpr ⟨stat_fn X Gn rfl a4 l4 e4 k4 rfl s4 rfl c4 (h4 _), ?_⟩
  refine List.forall_mem_cons.mpr ⟨stat_fn X Gn rfl a5 l5 e5 k5 rfl s5 rfl c5 (h5 _), ?_⟩
  refine List.forall_mem_cons.mpr ⟨stat_fn X Gn rfl a6 l6 e6 k6 rfl s6 rfl c6 (h6 _), ?_⟩
  refine List.forall_mem_cons.mpr ⟨stat_fn X Gn rfl a7 l7 e7 k7 rfl s7 rfl c7 (h7 _), ?_⟩
  refine List.forall_mem_cons.mpr ⟨stat_fn X Gn rfl a8 l8 e8 k8 rfl s8 rfl c8 (h8 _), ?_⟩
  refine List.forall_mem_cons.mpr ⟨stat_fn X Gn rfl a9 l9 e9 k9 rfl s9 rfl c9 (h9 _), ?_⟩
  refine List.forall_mem_cons.mpr ⟨stat_fn X Gn rfl a10 l10 e10 k10 rfl s10 rfl c10 (h10 _), ?_⟩
  refine List.forall_mem_cons.mpr ⟨stat_fn X Gn rfl a11 l11 e11 k11 rfl s11 rfl c11 (h11 _), ?_⟩
  refine List.forall_mem_cons.mpr ⟨stat_fn X Gn rfl a12 l12 e12 k12 rfl s12 rfl c12 (h12 _), ?_⟩
  refine List.forall_mem_cons.mpr ⟨stat_fn X Gn rfl a13 l13 e13 k13 rfl s13 rfl c13 (h13 _), ?_⟩
  refine List.forall_mem_cons.mpr ⟨stat_fn X Gn rfl a14 l14 e14 k14 rfl s14 rfl c14 (h14 _), ?_⟩
  refine List.forall_mem_cons.mpr ⟨stat_fn X Gn rfl a15 l15 e15 k15 rfl s15 rfl c15 (h15 _), ?_⟩
  refine List.forall_mem_cons.mpr ⟨stat_fn X Gn rfl a16 l16 e16 k16 rfl s16 rfl c16 (h16 _), ?_⟩
  refine List.forall_mem_cons.mpr ⟨stat_fn X Gn rfl a17 l17 e17 k17 rfl s17 rfl c17 (h17 _), ?_⟩
  refine List.forall_mem_cons.mpr ⟨stat_fn X Gn rfl a18 l18 e18 k18 rfl s18 rfl c18 (h18 _), ?_⟩
  refine List.forall_mem_cons.mpr ⟨stat_fn X Gn rfl a19 l19 e19 k19 rfl s19 rfl c19 (h19 _), ?_⟩
  refine List.forall_mem_cons.mpr ⟨stat_fn X Gn rfl a20 l20 e20 k20 rfl s20 rfl c20 (h20 _), ?_⟩
  refine List.forall_mem_cons.mpr ⟨stat_fn X Gn rfl a21 l21 e21 k21 rfl s21 rfl c21 (h21 _), ?_⟩
  refine List.forall_mem_cons.mpr ⟨stat_fn X Gn rfl a22 l22 e22 k22 rfl s22 rfl c22 (h22 _), ?_⟩
  refine List.forall_mem_cons.mpr ⟨stat_fn X Gn rfl a23 l23 e23 k23 rfl s23 rfl c23 (h23 _), ?_⟩
  refine List.forall_mem_cons.mpr ⟨stat_fn X Gn rfl a24 l24 e24 k24 rfl s24 rfl c24 (h24 _), ?_⟩
  refine List.forall_mem_cons.mpr ⟨stat_fn X Gn rfl a25 l25 e25 k25 rfl s25 rfl c25 (h25 _), ?_⟩
  refine List.forall_mem_cons.mpr ⟨stat_blt X Gn y0, ?_⟩
  refine List.forall_mem_cons.mpr ⟨stat_blt X Gn y1, ?_⟩
  refine List.forall_mem_cons.mpr ⟨stat_blt X Gn y2, ?_⟩
  refine List.forall_mem_cons.mpr ⟨stat_blt X Gn y3, ?_⟩
  refine List.forall_mem_cons.mpr ⟨stat_blt X Gn y4, ?_⟩
  refine List.forall_mem_cons.mpr ⟨stat_blt X Gn y5, ?_⟩
  refine List.forall_mem_cons.mpr ⟨stat_blt X Gn y6, ?_⟩
  refine List.forall_mem_cons.mpr ⟨stat_blt X Gn y7, ?_⟩
  refine List.forall_mem_cons.mpr ⟨stat_blt X Gn y8, ?_⟩
  refine List.forall_mem_cons.mpr ⟨stat_blt X Gn y9, ?_⟩
  refine List.forall_mem_cons.mpr ⟨stat_blt X Gn y10, ?_⟩
  refine List.forall_mem_cons.mpr ⟨stat_blt X Gn y11, ?_⟩
  refine List.forall_mem_cons.mpr ⟨stat_blt X Gn y12, ?_⟩
  refine List.forall_mem_cons.mpr ⟨stat_blt X Gn y13, ?_⟩
  exact fun _ h => nomatch h
end K11

namespace K11
open PySem hiding Env exec execs
open L2 Mi
abbrev ψ0 : Nat → List W → Option (List (Str × W)) := fun _ _ => none
abbrev ph (k : Nat) : Nat → List W → M W := fsem 0 ψ0 ds k
theorem call_eq {k f : Nat} {ws : List W} {s : Sto} {d : FD} (h : ds[f]? = some d) (hl : ws.length = d.ar) : ph (k + 1) f ws s = bodyRes (execs (ph k) 0 ψ0 d.body (ws.map some ++ List.replicate (d.sl - d.ar) none) s) := by
  show fsem 0 ψ0 ds (k + 1) f ws s = _
  simp only [fsem, h, hl, if_true]

/-! ### good values -/
def All2 {α β : Type} (R : α → β → Prop) : List α → List β → Prop
  | [], [] => True
  | a :: as, b :: bs => R a b ∧ All2 R as bs
  | _, _ => False
/-- a value that is good data: how deep, how long its text is at most -/
def GV (s : Sto) : Nat → Nat → W → Prop
  | 0, _, _ => False
  | n + 1, m, w => (140 ≤ m ∧ m ≤ SZ) ∧ match w with
    | .non => True
    | .bl _ => True
    | .int i => i.natAbs < 10 ^ 31
    | .str x => x.length ≤ 12 ∧ ∀ c ∈ x.cps.toList, c < 16 ^ 8
    | .tup ws => ∃ g, All2 (GV s n) g ws ∧ g.sum + 2 * ws.length + 140 ≤ m
    | .loc l => (∃ ws g, s[l]? = some (.lst ws) ∧ All2 (GV s n) g ws ∧ g.sum + 2 * ws.length + 140 ≤ m) ∨ s[l]? = some (.dct []) ∨ (1 ≤ n ∧ s[l]? = some (.dct [(.str "a", .int 1)]))
    | _ => False
def wholeB : W → Bool
  | .int _ => true
  | _ => false
def oneB : W → Bool
  | .int i => decide (0 < i)
  | _ => false
def letters : Str := "abcdefghijklmnopqrstuvwxyz"
def nameB : W → Bool
  | .str x => decide (1 ≤ x.length) && decide (x.length ≤ 8) && x.cps.toList.all fun c => decide (c ∈ letters.cps.toList)
  | _ => false
def threadB : W → Bool
  | .tup (x :: xs) => nameB x && xs.all oneB
  | _ => false
def wordedB (word : Str) (size : Nat) : W → Bool
  | .tup (.str x :: r) => decide (r.length + 1 = size) && decide (x = word)
  | _ => false
def madeB (word : Str) : W → Bool
  | .tup [.str x, m, n] => decide (x = word) && (threadB m && oneB n)
  | _ => false
abbrev lineB := madeB "line"
abbrev lockerB := madeB "locker"
def pointB (w : W) : Bool := lockerB w || match w with
  | .tup [.str x, m] => decide (x = "thread") && threadB m
  | _ => false
def edgeB (w : W) : Bool := lineB w || match w with
  | .tup [.str x, m, n] => decide (x = "key") && (lockerB m && pointB n)
  | _ => false
def isB : Ty → W → Bool
  | .int, .int _ => true
  | .int, .bl _ => true
  | .bool, .bl _ => true
  | .str, .str _ => true
  | .tuple, .tup _ => true
  | _, _ => false
theorem GV.isTy {s : Sto} {n m : Nat} {w : W} (h : GV s n m w) {t : Ty} (ht : t = .int ∨ t = .bool ∨ t = .str ∨ t = .tuple) : isTy s w t = some (isB t w) := by
  cases n with
  | zero => exact h.elim
  | succ n =>
    obtain ⟨_, h⟩ := h
    cases w <;> try exact h.elim
    all_goals try (rcases ht with rfl | rfl | rfl | rfl <;> rfl; done)
    rename_i l
    rcases h with ⟨ws, g, e, _⟩ | e | ⟨_, e⟩ <;> rcases ht with rfl | rfl | rfl | rfl <;> simp [Mi.isTy, e, isB]
theorem GV.tInt {s : Sto} {n m : Nat} {w : W} (h : GV s n m w) : Mi.isTy s w .int = some (isB .int w) := h.isTy (.inl rfl)
theorem GV.tBool {s : Sto} {n m : Nat} {w : W} (h : GV s n m w) : Mi.isTy s w .bool = some (isB .bool w) := h.isTy (.inr (.inl rfl))
theorem GV.tStr {s : Sto} {n m : Nat} {w : W} (h : GV s n m w) : Mi.isTy s w .str = some (isB .str w) := h.isTy (.inr (.inr (.inl rfl)))
theorem GV.tTup {s : Sto} {n m : Nat} {w : W} (h : GV s n m w) : Mi.isTy s w .tuple = some (isB .tuple w) := h.isTy (.inr (.inr (.inr rfl)))
/-- a bigger store -/
theorem All2.imp {α β : Type} {R R' : α → β → Prop} (h : ∀ a b, R a b → R' a b) : ∀ {as : List α} {bs : List β}, All2 R as bs → All2 R' as bs
  | [], [], _ => trivial
  | _ :: _, _ :: _, ⟨a, b⟩ => ⟨h _ _ a, All2.imp h b⟩
  | [], _ :: _, h => h.elim
  | _ :: _, [], h => h.elim
def Sub (s s' : Sto) : Prop := ∀ (l : Nat) (o : SO), s[l]? = some o → (∀ c fs, o ≠ .ins c fs) → s'[l]? = some o
theorem GV.sub {s s' : Sto} (h : Sub s s') : ∀ {n m : Nat} {w : W}, GV s n m w → GV s' n m w := by
  intro n
  induction n with
  | zero => intro m w g; exact g
  | succ n ih =>
    intro m w g
    obtain ⟨g0, g⟩ := g
    refine ⟨g0, ?_⟩
    cases w <;> try exact g
    · obtain ⟨g1, g2, g3⟩ := g
      exact ⟨g1, g2.imp fun a b => ih, g3⟩
    · rcases g with ⟨ws, g1, e, g2, g3⟩ | e | ⟨e0, e⟩
      · exact .inl ⟨ws, g1, h _ _ e (by simp), g2.imp fun a b => ih, g3⟩
      · exact .inr (.inl (h _ _ e (by simp)))
      · exact .inr (.inr ⟨e0, h _ _ e (by simp)⟩)
theorem sub_app (s t : Sto) : Sub s (s ++ t) := fun l o e _ => by
  rw [List.getElem?_append_left (List.getElem?_eq_some_iff.mp e).1]; exact e
theorem GV.app {s : Sto} {n m : Nat} {w : W} (h : GV s n m w) (t : Sto) : GV (s ++ t) n m w := h.sub (sub_app s t)
/-- an item of a tuple -/
theorem all2_get {α β : Type} {R : α → β → Prop} : ∀ {as : List α} {bs : List β} {b : β}, All2 R as bs → b ∈ bs → ∃ a, R a b
  | [], [], _, _, h => by simp at h
  | a :: as, c :: bs, b, ⟨h1, h2⟩, h => by
    rcases List.mem_cons.mp h with rfl | h
    · exact ⟨a, h1⟩
    · exact all2_get h2 h
  | [], _ :: _, _, h, _ => h.elim
  | _ :: _, [], _, h, _ => h.elim
theorem GV.item {s : Sto} {n m : Nat} {ws : List W} {w : W} (h : GV s n m (.tup ws)) (hw : w ∈ ws) : ∃ n' m', n = n' + 1 ∧ GV s n' m' w := by
  cases n with
  | zero => exact h.elim
  | succ n =>
    obtain ⟨_, g, g1, _⟩ := h
    obtain ⟨a, ha⟩ := all2_get g1 hw
    exact ⟨n, a, rfl, ha⟩
theorem GV.strlen {s : Sto} {n m : Nat} {x : Str} (h : GV s n m (.str x)) : x.length ≤ SZ := by
  cases n with
  | zero => exact h.elim
  | succ n => exact Nat.le_trans h.2.1 (by decide)
theorem GV.tuplen : ∀ {α : Type} {as : List Nat} {bs : List α} {R : Nat → α → Prop}, All2 R as bs → as.length = bs.length
  | _, [], [], _, _ => rfl
  | _, _ :: _, _ :: _, _, ⟨_, h⟩ => by simp [GV.tuplen h]
  | _, [], _ :: _, _, h => h.elim
  | _, _ :: _, [], _, h => h.elim

theorem GV.len {s : Sto} {n m : Nat} {ws : List W} (h : GV s n m (.tup ws)) : ws.length ≤ SZ := by
  cases n with
  | zero => exact h.elim
  | succ n => obtain ⟨⟨_, h1⟩, g, _, h2⟩ := h; exact Nat.le_trans (by omega) h1
theorem GV.len1 {s : Sto} {n m : Nat} {x : W} {ws : List W} (h : GV s n m (.tup (x :: ws))) : ws.length ≤ SZ := Nat.le_trans (Nat.le_succ _) h.len
/-! ### the program's looks -/
theorem is_whole {k n m : Nat} {s : Sto} {w : W} (h : GV s n m w) : ph (k + 1) 0 [w] s = .ok (.bl (wholeB w)) s := by
  rw [call_eq (d := ⟨1, 1, b0⟩) rfl rfl]
  simp only [b0, h.tInt, h.tBool, x_cst, x_var, x_tup, x_lst, x_bin, x_neg, x_not, x_cmp, x_cmp2, x_and1, x_and, x_or1, x_or, x_ite, x_idx, x_slc, x_call, x_blt, x_met, x_isi, x_nil, x_cons, x_c0, x_c1, x_p0, x_p1, y_nil, y_cons, y_set, y_rtn, y_ite, y_exp, decide_true, w_ok, q_nxt, q_rtn, b_rtn, t_bl, r_ret, a_nm, c_lt, c_le, c_gt, c_ge, c_eqi, c_eqs, c_nes, c_eq0, c_ne0, c_in2, z0, z1, z2, z3, z4, z5, z6, z7, z8, c_les, b_list, l_lay, b_lent, i_tup, bind_ok, List.getElem?_cons_zero, List.getElem?_cons_succ, List.map_cons, List.map_nil, List.replicate, Nat.sub_zero, Nat.reduceSub, List.cons_append, List.nil_append, List.append_nil, List.mapM_cons, List.mapM_nil, Option.pure_def, Option.bind_eq_bind, Option.bind_some, List.any_cons, List.any_nil, id, Bool.or_false, Bool.not_true, Bool.not_false, if_true, if_false, Bool.false_eq_true, reduceIte, List.set_cons_zero, List.set_cons_succ]
  cases w <;> rfl
theorem is_one {k n m : Nat} {s : Sto} {w : W} (h : GV s n m w) : ph (k + 2) 1 [w] s = .ok (.bl (oneB w)) s := by
  rw [call_eq (d := ⟨1, 1, b1⟩) rfl rfl]
  simp only [b1, is_whole h, x_cst, x_var, x_tup, x_lst, x_bin, x_neg, x_not, x_cmp, x_cmp2, x_and1, x_and, x_or1, x_or, x_ite, x_idx, x_slc, x_call, x_blt, x_met, x_isi, x_nil, x_cons, x_c0, x_c1, x_p0, x_p1, y_nil, y_cons, y_set, y_rtn, y_ite, y_exp, decide_true, w_ok, q_nxt, q_rtn, b_rtn, t_bl, r_ret, a_nm, c_lt, c_le, c_gt, c_ge, c_eqi, c_eqs, c_nes, c_eq0, c_ne0, c_in2, z0, z1, z2, z3, z4, z5, z6, z7, z8, c_les, b_list, l_lay, b_lent, i_tup, bind_ok, List.getElem?_cons_zero, List.getElem?_cons_succ, List.map_cons, List.map_nil, List.replicate, Nat.sub_zero, Nat.reduceSub, List.cons_append, List.nil_append, List.append_nil, List.mapM_cons, List.mapM_nil, Option.pure_def, Option.bind_eq_bind, Option.bind_some, List.any_cons, List.any_nil, id, Bool.or_false, Bool.not_true, Bool.not_false, if_true, if_false, Bool.false_eq_true, reduceIte, List.set_cons_zero, List.set_cons_succ]
  cases w <;> rfl
theorem law_num {k n m : Nat} {s : Sto} {w : W} (h : GV s n m w) : ph (k + 1) 21 [w] s = .ok (.bl (oneB w)) s := by
  rw [call_eq (d := ⟨1, 1, b21⟩) rfl rfl]
  simp only [b21, h.tInt, h.tBool, x_cst, x_var, x_tup, x_lst, x_bin, x_neg, x_not, x_cmp, x_cmp2, x_and1, x_and, x_or1, x_or, x_ite, x_idx, x_slc, x_call, x_blt, x_met, x_isi, x_nil, x_cons, x_c0, x_c1, x_p0, x_p1, y_nil, y_cons, y_set, y_rtn, y_ite, y_exp, decide_true, w_ok, q_nxt, q_rtn, b_rtn, t_bl, r_ret, a_nm, c_lt, c_le, c_gt, c_ge, c_eqi, c_eqs, c_nes, c_eq0, c_ne0, c_in2, z0, z1, z2, z3, z4, z5, z6, z7, z8, c_les, b_list, l_lay, b_lent, i_tup, bind_ok, List.getElem?_cons_zero, List.getElem?_cons_succ, List.map_cons, List.map_nil, List.replicate, Nat.sub_zero, Nat.reduceSub, List.cons_append, List.nil_append, List.append_nil, List.mapM_cons, List.mapM_nil, Option.pure_def, Option.bind_eq_bind, Option.bind_some, List.any_cons, List.any_nil, id, Bool.or_false, Bool.not_true, Bool.not_false, if_true, if_false, Bool.false_eq_true, reduceIte, List.set_cons_zero, List.set_cons_succ]
  cases w <;> rfl
theorem is_name {k n m : Nat} {s : Sto} {w : W} (h : GV s n m w) : ∃ t, ph (k + 1) 2 [w] s = .ok (.bl (nameB w)) (s ++ t) := by
  rw [call_eq (d := ⟨1, 2, b2⟩) rfl rfl]
  cases w
  case str x =>
    have hx2 : x.length ≤ SZ := h.strlen
    obtain ⟨t, e⟩ := den_lc1 (φ := ph k) (elt := .cmp .isin (.var 1) (.cst (.str "abcdefghijklmnopqrstuvwxyz"))) (tg := .nm 1) (own := [1]) (k := .val) (its := [.var 0]) (ρ := [some (.str x), none]) (s := s) (n := none) (vs := [.str x]) (ws := x.cps.toList.map fun c => .str ⟨#[c]⟩)
      (fun w => .bl (match w with | .str y => decide (y.cps.getD 0 0 ∈ letters.cps.toList) | _ => false)) (by simp only [x_cst, x_var, x_tup, x_lst, x_bin, x_neg, x_not, x_cmp, x_cmp2, x_and1, x_and, x_or1, x_or, x_ite, x_idx, x_slc, x_call, x_blt, x_met, x_isi, x_nil, x_cons, x_c0, x_c1, x_p0, x_p1, y_nil, y_cons, y_set, y_rtn, y_ite, y_exp, decide_true, w_ok, q_nxt, q_rtn, b_rtn, t_bl, r_ret, a_nm, c_lt, c_le, c_gt, c_ge, c_eqi, c_eqs, c_nes, c_eq0, c_ne0, c_in2, z0, z1, z2, z3, z4, z5, z6, z7, z8, c_les, b_list, l_lay, b_lent, i_tup, bind_ok, List.getElem?_cons_zero, List.getElem?_cons_succ, List.map_cons, List.map_nil, List.replicate, Nat.sub_zero, Nat.reduceSub, List.cons_append, List.nil_append, List.append_nil, List.mapM_cons, List.mapM_nil, Option.pure_def, Option.bind_eq_bind, Option.bind_some, List.any_cons, List.any_nil, id, Bool.or_false, Bool.not_true, Bool.not_false, if_true, if_false, Bool.false_eq_true, reduceIte, List.set_cons_zero, List.set_cons_succ]) (by
        simp only [iter, itemsW]
        rw [if_pos (by rw [List.length_map]; exact hx2)]) (fun t => rfl) (fun w hw => by
        rw [List.mem_map] at hw
        obtain ⟨c, _, rfl⟩ := hw
        refine ⟨[some (.str x), some (.str ⟨#[c]⟩)], rfl, fun t => ⟨t, ?_⟩⟩
        simp only [x_cst, x_var, x_tup, x_lst, x_bin, x_neg, x_not, x_cmp, x_cmp2, x_and1, x_and, x_or1, x_or, x_ite, x_idx, x_slc, x_call, x_blt, x_met, x_isi, x_nil, x_cons, x_c0, x_c1, x_p0, x_p1, y_nil, y_cons, y_set, y_rtn, y_ite, y_exp, decide_true, w_ok, q_nxt, q_rtn, b_rtn, t_bl, r_ret, a_nm, c_lt, c_le, c_gt, c_ge, c_eqi, c_eqs, c_nes, c_eq0, c_ne0, c_in2, z0, z1, z2, z3, z4, z5, z6, z7, z8, c_les, b_list, l_lay, b_lent, i_tup, bind_ok, List.getElem?_cons_zero, List.getElem?_cons_succ, List.map_cons, List.map_nil, List.replicate, Nat.sub_zero, Nat.reduceSub, List.cons_append, List.nil_append, List.append_nil, List.mapM_cons, List.mapM_nil, Option.pure_def, Option.bind_eq_bind, Option.bind_some, List.any_cons, List.any_nil, id, Bool.or_false, Bool.not_true, Bool.not_false, if_true, if_false, Bool.false_eq_true, reduceIte, List.set_cons_zero, List.set_cons_succ]; rfl)
    simp only [b2, h.tStr, isB, ↓e, x_cst, x_var, x_tup, x_lst, x_bin, x_neg, x_not, x_cmp, x_cmp2, x_and1, x_and, x_or1, x_or, x_ite, x_idx, x_slc, x_call, x_blt, x_met, x_isi, x_nil, x_cons, x_c0, x_c1, x_p0, x_p1, y_nil, y_cons, y_set, y_rtn, y_ite, y_exp, decide_true, w_ok, q_nxt, q_rtn, b_rtn, t_bl, r_ret, a_nm, c_lt, c_le, c_gt, c_ge, c_eqi, c_eqs, c_nes, c_eq0, c_ne0, c_in2, z0, z1, z2, z3, z4, z5, z6, z7, z8, c_les, b_list, l_lay, b_lent, i_tup, bind_ok, List.getElem?_cons_zero, List.getElem?_cons_succ, List.map_cons, List.map_nil, List.replicate, Nat.sub_zero, Nat.reduceSub, List.cons_append, List.nil_append, List.append_nil, List.mapM_cons, List.mapM_nil, Option.pure_def, Option.bind_eq_bind, Option.bind_some, List.any_cons, List.any_nil, id, Bool.or_false, Bool.not_true, Bool.not_false, if_true, if_false, Bool.false_eq_true, reduceIte, List.set_cons_zero, List.set_cons_succ]
    simp only [b_lens _ x hx2, c_le, x_cst, x_var, x_tup, x_lst, x_bin, x_neg, x_not, x_cmp, x_cmp2, x_and1, x_and, x_or1, x_or, x_ite, x_idx, x_slc, x_call, x_blt, x_met, x_isi, x_nil, x_cons, x_c0, x_c1, x_p0, x_p1, y_nil, y_cons, y_set, y_rtn, y_ite, y_exp, decide_true, w_ok, q_nxt, q_rtn, b_rtn, t_bl, r_ret, a_nm, c_lt, c_le, c_gt, c_ge, c_eqi, c_eqs, c_nes, c_eq0, c_ne0, c_in2, z0, z1, z2, z3, z4, z5, z6, z7, z8, c_les, b_list, l_lay, b_lent, i_tup, bind_ok, List.getElem?_cons_zero, List.getElem?_cons_succ, List.map_cons, List.map_nil, List.replicate, Nat.sub_zero, Nat.reduceSub, List.cons_append, List.nil_append, List.append_nil, List.mapM_cons, List.mapM_nil, Option.pure_def, Option.bind_eq_bind, Option.bind_some, List.any_cons, List.any_nil, id, Bool.or_false, Bool.not_true, Bool.not_false, if_true, if_false, Bool.false_eq_true, reduceIte, List.set_cons_zero, List.set_cons_succ]
    cases e1 : decide ((1 : Int) ≤ (x.length : Int)) with
    | false =>
      refine ⟨[], ?_⟩
      simp only [x_cst, x_var, x_tup, x_lst, x_bin, x_neg, x_not, x_cmp, x_cmp2, x_and1, x_and, x_or1, x_or, x_ite, x_idx, x_slc, x_call, x_blt, x_met, x_isi, x_nil, x_cons, x_c0, x_c1, x_p0, x_p1, y_nil, y_cons, y_set, y_rtn, y_ite, y_exp, decide_true, w_ok, q_nxt, q_rtn, b_rtn, t_bl, r_ret, a_nm, c_lt, c_le, c_gt, c_ge, c_eqi, c_eqs, c_nes, c_eq0, c_ne0, c_in2, z0, z1, z2, z3, z4, z5, z6, z7, z8, c_les, b_list, l_lay, b_lent, i_tup, bind_ok, List.getElem?_cons_zero, List.getElem?_cons_succ, List.map_cons, List.map_nil, List.replicate, Nat.sub_zero, Nat.reduceSub, List.cons_append, List.nil_append, List.append_nil, List.mapM_cons, List.mapM_nil, Option.pure_def, Option.bind_eq_bind, Option.bind_some, List.any_cons, List.any_nil, id, Bool.or_false, Bool.not_true, Bool.not_false, if_true, if_false, Bool.false_eq_true, reduceIte, List.set_cons_zero, List.set_cons_succ]
      have : nameB (.str x) = false := by
        have : ¬ (1 ≤ x.length) := by have := of_decide_eq_false e1; omega
        simp only [nameB, decide_eq_false this, Bool.false_and]
      rw [this]
    | true =>
      simp only [b_lens _ x hx2, c_le, x_cst, x_var, x_tup, x_lst, x_bin, x_neg, x_not, x_cmp, x_cmp2, x_and1, x_and, x_or1, x_or, x_ite, x_idx, x_slc, x_call, x_blt, x_met, x_isi, x_nil, x_cons, x_c0, x_c1, x_p0, x_p1, y_nil, y_cons, y_set, y_rtn, y_ite, y_exp, decide_true, w_ok, q_nxt, q_rtn, b_rtn, t_bl, r_ret, a_nm, c_lt, c_le, c_gt, c_ge, c_eqi, c_eqs, c_nes, c_eq0, c_ne0, c_in2, z0, z1, z2, z3, z4, z5, z6, z7, z8, c_les, b_list, l_lay, b_lent, i_tup, bind_ok, List.getElem?_cons_zero, List.getElem?_cons_succ, List.map_cons, List.map_nil, List.replicate, Nat.sub_zero, Nat.reduceSub, List.cons_append, List.nil_append, List.append_nil, List.mapM_cons, List.mapM_nil, Option.pure_def, Option.bind_eq_bind, Option.bind_some, List.any_cons, List.any_nil, id, Bool.or_false, Bool.not_true, Bool.not_false, if_true, if_false, Bool.false_eq_true, reduceIte, List.set_cons_zero, List.set_cons_succ]
      cases e2 : decide ((x.length : Int) ≤ 8) with
      | false =>
        refine ⟨[], ?_⟩
        simp only [x_cst, x_var, x_tup, x_lst, x_bin, x_neg, x_not, x_cmp, x_cmp2, x_and1, x_and, x_or1, x_or, x_ite, x_idx, x_slc, x_call, x_blt, x_met, x_isi, x_nil, x_cons, x_c0, x_c1, x_p0, x_p1, y_nil, y_cons, y_set, y_rtn, y_ite, y_exp, decide_true, w_ok, q_nxt, q_rtn, b_rtn, t_bl, r_ret, a_nm, c_lt, c_le, c_gt, c_ge, c_eqi, c_eqs, c_nes, c_eq0, c_ne0, c_in2, z0, z1, z2, z3, z4, z5, z6, z7, z8, c_les, b_list, l_lay, b_lent, i_tup, bind_ok, List.getElem?_cons_zero, List.getElem?_cons_succ, List.map_cons, List.map_nil, List.replicate, Nat.sub_zero, Nat.reduceSub, List.cons_append, List.nil_append, List.append_nil, List.mapM_cons, List.mapM_nil, Option.pure_def, Option.bind_eq_bind, Option.bind_some, List.any_cons, List.any_nil, id, Bool.or_false, Bool.not_true, Bool.not_false, if_true, if_false, Bool.false_eq_true, reduceIte, List.set_cons_zero, List.set_cons_succ]
        have : nameB (.str x) = false := by
          have : ¬ (x.length ≤ 8) := by have := of_decide_eq_false e2; omega
          simp only [nameB, decide_eq_false this, Bool.false_and, Bool.and_false]
        rw [this]
      | true =>
        refine ⟨t ++ [SO.lst ((x.cps.toList.map fun c => W.str ⟨#[c]⟩).map fun w => .bl (match w with | .str y => decide (y.cps.getD 0 0 ∈ letters.cps.toList) | _ => false))], ?_⟩
        simp only [↓e, all_made, x_cst, x_var, x_tup, x_lst, x_bin, x_neg, x_not, x_cmp, x_cmp2, x_and1, x_and, x_or1, x_or, x_ite, x_idx, x_slc, x_call, x_blt, x_met, x_isi, x_nil, x_cons, x_c0, x_c1, x_p0, x_p1, y_nil, y_cons, y_set, y_rtn, y_ite, y_exp, decide_true, w_ok, q_nxt, q_rtn, b_rtn, t_bl, r_ret, a_nm, c_lt, c_le, c_gt, c_ge, c_eqi, c_eqs, c_nes, c_eq0, c_ne0, c_in2, z0, z1, z2, z3, z4, z5, z6, z7, z8, c_les, b_list, l_lay, b_lent, i_tup, bind_ok, List.getElem?_cons_zero, List.getElem?_cons_succ, List.map_cons, List.map_nil, List.replicate, Nat.sub_zero, Nat.reduceSub, List.cons_append, List.nil_append, List.append_nil, List.mapM_cons, List.mapM_nil, Option.pure_def, Option.bind_eq_bind, Option.bind_some, List.any_cons, List.any_nil, id, Bool.or_false, Bool.not_true, Bool.not_false, if_true, if_false, Bool.false_eq_true, reduceIte, List.set_cons_zero, List.set_cons_succ]
        have h1 : (1 ≤ x.length) := by have := of_decide_eq_true e1; omega
        have h2 : (x.length ≤ 8) := by have := of_decide_eq_true e2; omega
        simp only [nameB, decide_eq_true h1, decide_eq_true h2, Bool.true_and, List.all_map]
        rfl
  all_goals exact ⟨[], by simp only [b2, h.tStr, isB, x_cst, x_var, x_tup, x_lst, x_bin, x_neg, x_not, x_cmp, x_cmp2, x_and1, x_and, x_or1, x_or, x_ite, x_idx, x_slc, x_call, x_blt, x_met, x_isi, x_nil, x_cons, x_c0, x_c1, x_p0, x_p1, y_nil, y_cons, y_set, y_rtn, y_ite, y_exp, decide_true, w_ok, q_nxt, q_rtn, b_rtn, t_bl, r_ret, a_nm, c_lt, c_le, c_gt, c_ge, c_eqi, c_eqs, c_nes, c_eq0, c_ne0, c_in2, z0, z1, z2, z3, z4, z5, z6, z7, z8, c_les, b_list, l_lay, b_lent, i_tup, bind_ok, List.getElem?_cons_zero, List.getElem?_cons_succ, List.map_cons, List.map_nil, List.replicate, Nat.sub_zero, Nat.reduceSub, List.cons_append, List.nil_append, List.append_nil, List.mapM_cons, List.mapM_nil, Option.pure_def, Option.bind_eq_bind, Option.bind_some, List.any_cons, List.any_nil, id, Bool.or_false, Bool.not_true, Bool.not_false, if_true, if_false, Bool.false_eq_true, reduceIte, List.set_cons_zero, List.set_cons_succ]; rfl⟩
theorem at0 (x : W) (xs : List W) : L2.atI (x :: xs) 0 = some x := by simp [L2.atI, L2.ixN]
theorem at1 (x y : W) (xs : List W) : L2.atI (x :: y :: xs) 1 = some y := by
  have : (1 : Int) < ((x :: y :: xs).length : Int) := by simp only [List.length_cons]; omega
  simp only [L2.atI, L2.ixN, if_pos this]; rfl
theorem at2 (x y z : W) (xs : List W) : L2.atI (x :: y :: z :: xs) 2 = some z := by
  have : (2 : Int) < ((x :: y :: z :: xs).length : Int) := by simp only [List.length_cons]; omega
  simp only [L2.atI, L2.ixN, if_pos this]; rfl
theorem cut1 (x : W) (xs : List W) (s : Sto) : slcW (.tup (x :: xs)) (some 1) none s = .ok (.tup xs) s := by simp [slcW, cut, HT.sIx]
theorem is_thread {k n m : Nat} {s : Sto} {w : W} (h : GV s n m w) : ∃ t, ph (k + 3) 3 [w] s = .ok (.bl (threadB w)) (s ++ t) := by
  rw [call_eq (d := ⟨1, 2, b3⟩) rfl rfl]
  cases w
  case tup ws =>
    match ws, h with
    | [], h => exact ⟨[], by simp only [b3, h.tTup, isB, x_cst, x_var, x_tup, x_lst, x_bin, x_neg, x_not, x_cmp, x_cmp2, x_and1, x_and, x_or1, x_or, x_ite, x_idx, x_slc, x_call, x_blt, x_met, x_isi, x_nil, x_cons, x_c0, x_c1, x_p0, x_p1, y_nil, y_cons, y_set, y_rtn, y_ite, y_exp, decide_true, w_ok, q_nxt, q_rtn, b_rtn, t_bl, r_ret, a_nm, c_lt, c_le, c_gt, c_ge, c_eqi, c_eqs, c_nes, c_eq0, c_ne0, c_in2, z0, z1, z2, z3, z4, z5, z6, z7, z8, c_les, b_list, l_lay, b_lent, i_tup, bind_ok, List.getElem?_cons_zero, List.getElem?_cons_succ, List.map_cons, List.map_nil, List.replicate, Nat.sub_zero, Nat.reduceSub, List.cons_append, List.nil_append, List.append_nil, List.mapM_cons, List.mapM_nil, Option.pure_def, Option.bind_eq_bind, Option.bind_some, List.any_cons, List.any_nil, id, Bool.or_false, Bool.not_true, Bool.not_false, if_true, if_false, Bool.false_eq_true, reduceIte, List.set_cons_zero, List.set_cons_succ]; rfl⟩
    | x :: xs, h =>
      obtain ⟨nx, mx, _, hx⟩ := h.item List.mem_cons_self
      obtain ⟨t, e⟩ := is_name (k := k + 1) hx
      have hne : decide (((x :: xs).length : Int) = 0) = false := decide_eq_false (by simp only [List.length_cons]; omega)
      simp only [b3, h.tTup, isB, hne, at0, e, x_cst, x_var, x_tup, x_lst, x_bin, x_neg, x_not, x_cmp, x_cmp2, x_and1, x_and, x_or1, x_or, x_ite, x_idx, x_slc, x_call, x_blt, x_met, x_isi, x_nil, x_cons, x_c0, x_c1, x_p0, x_p1, y_nil, y_cons, y_set, y_rtn, y_ite, y_exp, decide_true, w_ok, q_nxt, q_rtn, b_rtn, t_bl, r_ret, a_nm, c_lt, c_le, c_gt, c_ge, c_eqi, c_eqs, c_nes, c_eq0, c_ne0, c_in2, z0, z1, z2, z3, z4, z5, z6, z7, z8, c_les, b_list, l_lay, b_lent, i_tup, bind_ok, List.getElem?_cons_zero, List.getElem?_cons_succ, List.map_cons, List.map_nil, List.replicate, Nat.sub_zero, Nat.reduceSub, List.cons_append, List.nil_append, List.append_nil, List.mapM_cons, List.mapM_nil, Option.pure_def, Option.bind_eq_bind, Option.bind_some, List.any_cons, List.any_nil, id, Bool.or_false, Bool.not_true, Bool.not_false, if_true, if_false, Bool.false_eq_true, reduceIte, List.set_cons_zero, List.set_cons_succ]
      cases en : nameB x with
      | false =>
        refine ⟨t, ?_⟩
        simp only [x_cst, x_var, x_tup, x_lst, x_bin, x_neg, x_not, x_cmp, x_cmp2, x_and1, x_and, x_or1, x_or, x_ite, x_idx, x_slc, x_call, x_blt, x_met, x_isi, x_nil, x_cons, x_c0, x_c1, x_p0, x_p1, y_nil, y_cons, y_set, y_rtn, y_ite, y_exp, decide_true, w_ok, q_nxt, q_rtn, b_rtn, t_bl, r_ret, a_nm, c_lt, c_le, c_gt, c_ge, c_eqi, c_eqs, c_nes, c_eq0, c_ne0, c_in2, z0, z1, z2, z3, z4, z5, z6, z7, z8, c_les, b_list, l_lay, b_lent, i_tup, bind_ok, List.getElem?_cons_zero, List.getElem?_cons_succ, List.map_cons, List.map_nil, List.replicate, Nat.sub_zero, Nat.reduceSub, List.cons_append, List.nil_append, List.append_nil, List.mapM_cons, List.mapM_nil, Option.pure_def, Option.bind_eq_bind, Option.bind_some, List.any_cons, List.any_nil, id, Bool.or_false, Bool.not_true, Bool.not_false, if_true, if_false, Bool.false_eq_true, reduceIte, List.set_cons_zero, List.set_cons_succ, threadB, en, Bool.false_and]
      | true =>
        obtain ⟨t2, e2⟩ := den_lc1 (φ := ph (k + 2)) (elt := .call 1 [(.var 1)] [] [0]) (tg := .nm 1) (own := [1]) (k := .val) (its := [(.slc (.var 0) [(.cst (.int 1))] [])]) (ρ := [some (.tup (x :: xs)), none]) (s := s ++ t) (n := none) (vs := [.tup xs]) (ws := xs)
          (fun w => .bl (oneB w)) (by simp only [cut1, x_cst, x_var, x_tup, x_lst, x_bin, x_neg, x_not, x_cmp, x_cmp2, x_and1, x_and, x_or1, x_or, x_ite, x_idx, x_slc, x_call, x_blt, x_met, x_isi, x_nil, x_cons, x_c0, x_c1, x_p0, x_p1, y_nil, y_cons, y_set, y_rtn, y_ite, y_exp, decide_true, w_ok, q_nxt, q_rtn, b_rtn, t_bl, r_ret, a_nm, c_lt, c_le, c_gt, c_ge, c_eqi, c_eqs, c_nes, c_eq0, c_ne0, c_in2, z0, z1, z2, z3, z4, z5, z6, z7, z8, c_les, b_list, l_lay, b_lent, i_tup, bind_ok, List.getElem?_cons_zero, List.getElem?_cons_succ, List.map_cons, List.map_nil, List.replicate, Nat.sub_zero, Nat.reduceSub, List.cons_append, List.nil_append, List.append_nil, List.mapM_cons, List.mapM_nil, Option.pure_def, Option.bind_eq_bind, Option.bind_some, List.any_cons, List.any_nil, id, Bool.or_false, Bool.not_true, Bool.not_false, if_true, if_false, Bool.false_eq_true, reduceIte, List.set_cons_zero, List.set_cons_succ]) (by
            simp only [iter, itemsW]
            rw [if_pos h.len1]) (fun t => rfl) (fun w hw => by
            obtain ⟨nw, mw, _, hw'⟩ := h.item (List.mem_cons_of_mem _ hw)
            refine ⟨[some (.tup (x :: xs)), some w], rfl, fun t' => ⟨t', ?_⟩⟩
            simp only [is_one ((hw'.app t).app t'), x_cst, x_var, x_tup, x_lst, x_bin, x_neg, x_not, x_cmp, x_cmp2, x_and1, x_and, x_or1, x_or, x_ite, x_idx, x_slc, x_call, x_blt, x_met, x_isi, x_nil, x_cons, x_c0, x_c1, x_p0, x_p1, y_nil, y_cons, y_set, y_rtn, y_ite, y_exp, decide_true, w_ok, q_nxt, q_rtn, b_rtn, t_bl, r_ret, a_nm, c_lt, c_le, c_gt, c_ge, c_eqi, c_eqs, c_nes, c_eq0, c_ne0, c_in2, z0, z1, z2, z3, z4, z5, z6, z7, z8, c_les, b_list, l_lay, b_lent, i_tup, bind_ok, List.getElem?_cons_zero, List.getElem?_cons_succ, List.map_cons, List.map_nil, List.replicate, Nat.sub_zero, Nat.reduceSub, List.cons_append, List.nil_append, List.append_nil, List.mapM_cons, List.mapM_nil, Option.pure_def, Option.bind_eq_bind, Option.bind_some, List.any_cons, List.any_nil, id, Bool.or_false, Bool.not_true, Bool.not_false, if_true, if_false, Bool.false_eq_true, reduceIte, List.set_cons_zero, List.set_cons_succ])
        refine ⟨t ++ (t2 ++ [SO.lst (xs.map fun w => .bl (oneB w))]), ?_⟩
        simp only [↓e2, all_made, x_cst, x_var, x_tup, x_lst, x_bin, x_neg, x_not, x_cmp, x_cmp2, x_and1, x_and, x_or1, x_or, x_ite, x_idx, x_slc, x_call, x_blt, x_met, x_isi, x_nil, x_cons, x_c0, x_c1, x_p0, x_p1, y_nil, y_cons, y_set, y_rtn, y_ite, y_exp, decide_true, w_ok, q_nxt, q_rtn, b_rtn, t_bl, r_ret, a_nm, c_lt, c_le, c_gt, c_ge, c_eqi, c_eqs, c_nes, c_eq0, c_ne0, c_in2, z0, z1, z2, z3, z4, z5, z6, z7, z8, c_les, b_list, l_lay, b_lent, i_tup, bind_ok, List.getElem?_cons_zero, List.getElem?_cons_succ, List.map_cons, List.map_nil, List.replicate, Nat.sub_zero, Nat.reduceSub, List.cons_append, List.nil_append, List.append_nil, List.mapM_cons, List.mapM_nil, Option.pure_def, Option.bind_eq_bind, Option.bind_some, List.any_cons, List.any_nil, id, Bool.or_false, Bool.not_true, Bool.not_false, if_true, if_false, Bool.false_eq_true, reduceIte, List.set_cons_zero, List.set_cons_succ]
        simp only [threadB, en, Bool.true_and, List.append_assoc]
  all_goals exact ⟨[], by simp only [b3, h.tTup, isB, x_cst, x_var, x_tup, x_lst, x_bin, x_neg, x_not, x_cmp, x_cmp2, x_and1, x_and, x_or1, x_or, x_ite, x_idx, x_slc, x_call, x_blt, x_met, x_isi, x_nil, x_cons, x_c0, x_c1, x_p0, x_p1, y_nil, y_cons, y_set, y_rtn, y_ite, y_exp, decide_true, w_ok, q_nxt, q_rtn, b_rtn, t_bl, r_ret, a_nm, c_lt, c_le, c_gt, c_ge, c_eqi, c_eqs, c_nes, c_eq0, c_ne0, c_in2, z0, z1, z2, z3, z4, z5, z6, z7, z8, c_les, b_list, l_lay, b_lent, i_tup, bind_ok, List.getElem?_cons_zero, List.getElem?_cons_succ, List.map_cons, List.map_nil, List.replicate, Nat.sub_zero, Nat.reduceSub, List.cons_append, List.nil_append, List.append_nil, List.mapM_cons, List.mapM_nil, Option.pure_def, Option.bind_eq_bind, Option.bind_some, List.any_cons, List.any_nil, id, Bool.or_false, Bool.not_true, Bool.not_false, if_true, if_false, Bool.false_eq_true, reduceIte, List.set_cons_zero, List.set_cons_succ]; rfl⟩
theorem str0 (s : Sto) (x : W) : (∃ y, x = .str y) ∨ (isB .str x = false) := by cases x <;> simp [isB]
theorem is_worded {k n m : Nat} {s : Sto} {w : W} (h : GV s n m w) (word : Str) (j : Nat) : ph (k + 1) 4 [w, .str word, .int ((j : Nat) + 1 : Int)] s = .ok (.bl (wordedB word (j + 1) w)) s := by
  rw [call_eq (d := ⟨3, 3, b4⟩) rfl rfl]
  cases w
  case tup ws =>
    match ws, h with
    | [], h =>
      have : decide ((([] : List W).length : Int) = (j : Int) + 1) = false := decide_eq_false (by simp only [List.length_nil]; omega)
      simp only [b4, h.tTup, isB, this, x_cst, x_var, x_tup, x_lst, x_bin, x_neg, x_not, x_cmp, x_cmp2, x_and1, x_and, x_or1, x_or, x_ite, x_idx, x_slc, x_call, x_blt, x_met, x_isi, x_nil, x_cons, x_c0, x_c1, x_p0, x_p1, y_nil, y_cons, y_set, y_rtn, y_ite, y_exp, decide_true, w_ok, q_nxt, q_rtn, b_rtn, t_bl, r_ret, a_nm, c_lt, c_le, c_gt, c_ge, c_eqi, c_eqs, c_nes, c_eq0, c_ne0, c_in2, z0, z1, z2, z3, z4, z5, z6, z7, z8, c_les, b_list, l_lay, b_lent, i_tup, bind_ok, List.getElem?_cons_zero, List.getElem?_cons_succ, List.map_cons, List.map_nil, List.replicate, Nat.sub_zero, Nat.reduceSub, List.cons_append, List.nil_append, List.append_nil, List.mapM_cons, List.mapM_nil, Option.pure_def, Option.bind_eq_bind, Option.bind_some, List.any_cons, List.any_nil, id, Bool.or_false, Bool.not_true, Bool.not_false, if_true, if_false, Bool.false_eq_true, reduceIte, List.set_cons_zero, List.set_cons_succ]; rfl
    | x :: xs, h =>
      obtain ⟨nx, mx, _, hx⟩ := h.item List.mem_cons_self
      simp only [b4, h.tTup, isB, x_cst, x_var, x_tup, x_lst, x_bin, x_neg, x_not, x_cmp, x_cmp2, x_and1, x_and, x_or1, x_or, x_ite, x_idx, x_slc, x_call, x_blt, x_met, x_isi, x_nil, x_cons, x_c0, x_c1, x_p0, x_p1, y_nil, y_cons, y_set, y_rtn, y_ite, y_exp, decide_true, w_ok, q_nxt, q_rtn, b_rtn, t_bl, r_ret, a_nm, c_lt, c_le, c_gt, c_ge, c_eqi, c_eqs, c_nes, c_eq0, c_ne0, c_in2, z0, z1, z2, z3, z4, z5, z6, z7, z8, c_les, b_list, l_lay, b_lent, i_tup, bind_ok, List.getElem?_cons_zero, List.getElem?_cons_succ, List.map_cons, List.map_nil, List.replicate, Nat.sub_zero, Nat.reduceSub, List.cons_append, List.nil_append, List.append_nil, List.mapM_cons, List.mapM_nil, Option.pure_def, Option.bind_eq_bind, Option.bind_some, List.any_cons, List.any_nil, id, Bool.or_false, Bool.not_true, Bool.not_false, if_true, if_false, Bool.false_eq_true, reduceIte, List.set_cons_zero, List.set_cons_succ]
      cases e : decide (((x :: xs).length : Int) = (j : Int) + 1) with
      | false =>
        have e' : decide (xs.length + 1 = j + 1) = false := decide_eq_false (by have := of_decide_eq_false e; simp only [List.length_cons] at this; omega)
        simp only [x_cst, x_var, x_tup, x_lst, x_bin, x_neg, x_not, x_cmp, x_cmp2, x_and1, x_and, x_or1, x_or, x_ite, x_idx, x_slc, x_call, x_blt, x_met, x_isi, x_nil, x_cons, x_c0, x_c1, x_p0, x_p1, y_nil, y_cons, y_set, y_rtn, y_ite, y_exp, decide_true, w_ok, q_nxt, q_rtn, b_rtn, t_bl, r_ret, a_nm, c_lt, c_le, c_gt, c_ge, c_eqi, c_eqs, c_nes, c_eq0, c_ne0, c_in2, z0, z1, z2, z3, z4, z5, z6, z7, z8, c_les, b_list, l_lay, b_lent, i_tup, bind_ok, List.getElem?_cons_zero, List.getElem?_cons_succ, List.map_cons, List.map_nil, List.replicate, Nat.sub_zero, Nat.reduceSub, List.cons_append, List.nil_append, List.append_nil, List.mapM_cons, List.mapM_nil, Option.pure_def, Option.bind_eq_bind, Option.bind_some, List.any_cons, List.any_nil, id, Bool.or_false, Bool.not_true, Bool.not_false, if_true, if_false, Bool.false_eq_true, reduceIte, List.set_cons_zero, List.set_cons_succ]
        cases x <;> simp only [wordedB, e', Bool.false_and]
      | true =>
        have e' : decide (xs.length + 1 = j + 1) = true := decide_eq_true (by have := of_decide_eq_true e; simp only [List.length_cons] at this; omega)
        simp only [at0, hx.tStr, x_cst, x_var, x_tup, x_lst, x_bin, x_neg, x_not, x_cmp, x_cmp2, x_and1, x_and, x_or1, x_or, x_ite, x_idx, x_slc, x_call, x_blt, x_met, x_isi, x_nil, x_cons, x_c0, x_c1, x_p0, x_p1, y_nil, y_cons, y_set, y_rtn, y_ite, y_exp, decide_true, w_ok, q_nxt, q_rtn, b_rtn, t_bl, r_ret, a_nm, c_lt, c_le, c_gt, c_ge, c_eqi, c_eqs, c_nes, c_eq0, c_ne0, c_in2, z0, z1, z2, z3, z4, z5, z6, z7, z8, c_les, b_list, l_lay, b_lent, i_tup, bind_ok, List.getElem?_cons_zero, List.getElem?_cons_succ, List.map_cons, List.map_nil, List.replicate, Nat.sub_zero, Nat.reduceSub, List.cons_append, List.nil_append, List.append_nil, List.mapM_cons, List.mapM_nil, Option.pure_def, Option.bind_eq_bind, Option.bind_some, List.any_cons, List.any_nil, id, Bool.or_false, Bool.not_true, Bool.not_false, if_true, if_false, Bool.false_eq_true, reduceIte, List.set_cons_zero, List.set_cons_succ]
        cases x <;> simp only [isB, wordedB, e', Bool.true_and, at0, x_cst, x_var, x_tup, x_lst, x_bin, x_neg, x_not, x_cmp, x_cmp2, x_and1, x_and, x_or1, x_or, x_ite, x_idx, x_slc, x_call, x_blt, x_met, x_isi, x_nil, x_cons, x_c0, x_c1, x_p0, x_p1, y_nil, y_cons, y_set, y_rtn, y_ite, y_exp, decide_true, w_ok, q_nxt, q_rtn, b_rtn, t_bl, r_ret, a_nm, c_lt, c_le, c_gt, c_ge, c_eqi, c_eqs, c_nes, c_eq0, c_ne0, c_in2, z0, z1, z2, z3, z4, z5, z6, z7, z8, c_les, b_list, l_lay, b_lent, i_tup, bind_ok, List.getElem?_cons_zero, List.getElem?_cons_succ, List.map_cons, List.map_nil, List.replicate, Nat.sub_zero, Nat.reduceSub, List.cons_append, List.nil_append, List.append_nil, List.mapM_cons, List.mapM_nil, Option.pure_def, Option.bind_eq_bind, Option.bind_some, List.any_cons, List.any_nil, id, Bool.or_false, Bool.not_true, Bool.not_false, if_true, if_false, Bool.false_eq_true, reduceIte, List.set_cons_zero, List.set_cons_succ]
  all_goals (simp only [b4, h.tTup, isB, x_cst, x_var, x_tup, x_lst, x_bin, x_neg, x_not, x_cmp, x_cmp2, x_and1, x_and, x_or1, x_or, x_ite, x_idx, x_slc, x_call, x_blt, x_met, x_isi, x_nil, x_cons, x_c0, x_c1, x_p0, x_p1, y_nil, y_cons, y_set, y_rtn, y_ite, y_exp, decide_true, w_ok, q_nxt, q_rtn, b_rtn, t_bl, r_ret, a_nm, c_lt, c_le, c_gt, c_ge, c_eqi, c_eqs, c_nes, c_eq0, c_ne0, c_in2, z0, z1, z2, z3, z4, z5, z6, z7, z8, c_les, b_list, l_lay, b_lent, i_tup, bind_ok, List.getElem?_cons_zero, List.getElem?_cons_succ, List.map_cons, List.map_nil, List.replicate, Nat.sub_zero, Nat.reduceSub, List.cons_append, List.nil_append, List.append_nil, List.mapM_cons, List.mapM_nil, Option.pure_def, Option.bind_eq_bind, Option.bind_some, List.any_cons, List.any_nil, id, Bool.or_false, Bool.not_true, Bool.not_false, if_true, if_false, Bool.false_eq_true, reduceIte, List.set_cons_zero, List.set_cons_succ]; rfl)
theorem worded3 {word : Str} {w : W} (h : wordedB word 3 w = true) : ∃ m n, w = .tup [.str word, m, n] := by
  match w, h with
  | .tup [.str x, m, n], h => simp [wordedB] at h; exact ⟨m, n, by rw [h]⟩
  | .tup (.str x :: a :: b :: c :: r), h => simp [wordedB] at h
  | .tup [.str x, a], h => simp [wordedB] at h
  | .tup [.str x], h => simp [wordedB] at h
theorem worded2 {word : Str} {w : W} (h : wordedB word 2 w = true) : ∃ m, w = .tup [.str word, m] := by
  match w, h with
  | .tup [.str x, m], h => simp [wordedB] at h; exact ⟨m, by rw [h]⟩
  | .tup (.str x :: a :: b :: r), h => simp [wordedB] at h
  | .tup [.str x], h => simp [wordedB] at h
theorem made_no {word : Str} {w : W} (h : wordedB word 3 w = false) : madeB word w = false := by
  unfold madeB
  split
  · rename_i x m n
    simp [wordedB] at h
    simp [h]
  · rfl
theorem is_made {k n m : Nat} {s : Sto} {w : W} (h : GV s n m w) (word : Str) : ∃ t, ph (k + 4) 5 [w, .str word] s = .ok (.bl (madeB word w)) (s ++ t) := by
  rw [call_eq (d := ⟨2, 2, b5⟩) rfl rfl]
  have e1 := is_worded (k := k + 2) h word 2
  have e1 : ph (k + 3) 4 [w, .str word, .int 3] s = .ok (.bl (wordedB word 3 w)) s := e1
  simp only [b5, e1, x_cst, x_var, x_tup, x_lst, x_bin, x_neg, x_not, x_cmp, x_cmp2, x_and1, x_and, x_or1, x_or, x_ite, x_idx, x_slc, x_call, x_blt, x_met, x_isi, x_nil, x_cons, x_c0, x_c1, x_p0, x_p1, y_nil, y_cons, y_set, y_rtn, y_ite, y_exp, decide_true, w_ok, q_nxt, q_rtn, b_rtn, t_bl, r_ret, a_nm, c_lt, c_le, c_gt, c_ge, c_eqi, c_eqs, c_nes, c_eq0, c_ne0, c_in2, z0, z1, z2, z3, z4, z5, z6, z7, z8, c_les, b_list, l_lay, b_lent, i_tup, bind_ok, List.getElem?_cons_zero, List.getElem?_cons_succ, List.map_cons, List.map_nil, List.replicate, Nat.sub_zero, Nat.reduceSub, List.cons_append, List.nil_append, List.append_nil, List.mapM_cons, List.mapM_nil, Option.pure_def, Option.bind_eq_bind, Option.bind_some, List.any_cons, List.any_nil, id, Bool.or_false, Bool.not_true, Bool.not_false, if_true, if_false, Bool.false_eq_true, reduceIte, List.set_cons_zero, List.set_cons_succ]
  cases e : wordedB word 3 w with
  | false => exact ⟨[], by simp only [x_cst, x_var, x_tup, x_lst, x_bin, x_neg, x_not, x_cmp, x_cmp2, x_and1, x_and, x_or1, x_or, x_ite, x_idx, x_slc, x_call, x_blt, x_met, x_isi, x_nil, x_cons, x_c0, x_c1, x_p0, x_p1, y_nil, y_cons, y_set, y_rtn, y_ite, y_exp, decide_true, w_ok, q_nxt, q_rtn, b_rtn, t_bl, r_ret, a_nm, c_lt, c_le, c_gt, c_ge, c_eqi, c_eqs, c_nes, c_eq0, c_ne0, c_in2, z0, z1, z2, z3, z4, z5, z6, z7, z8, c_les, b_list, l_lay, b_lent, i_tup, bind_ok, List.getElem?_cons_zero, List.getElem?_cons_succ, List.map_cons, List.map_nil, List.replicate, Nat.sub_zero, Nat.reduceSub, List.cons_append, List.nil_append, List.append_nil, List.mapM_cons, List.mapM_nil, Option.pure_def, Option.bind_eq_bind, Option.bind_some, List.any_cons, List.any_nil, id, Bool.or_false, Bool.not_true, Bool.not_false, if_true, if_false, Bool.false_eq_true, reduceIte, List.set_cons_zero, List.set_cons_succ, made_no e]⟩
  | true =>
    obtain ⟨a, b, rfl⟩ := worded3 e
    obtain ⟨_, _, _, ha⟩ := h.item (w := a) (by simp)
    obtain ⟨_, _, _, hb⟩ := h.item (w := b) (by simp)
    obtain ⟨t, e2⟩ := is_thread (k := k) ha
    refine ⟨t, ?_⟩
    simp only [at1, e2, x_cst, x_var, x_tup, x_lst, x_bin, x_neg, x_not, x_cmp, x_cmp2, x_and1, x_and, x_or1, x_or, x_ite, x_idx, x_slc, x_call, x_blt, x_met, x_isi, x_nil, x_cons, x_c0, x_c1, x_p0, x_p1, y_nil, y_cons, y_set, y_rtn, y_ite, y_exp, decide_true, w_ok, q_nxt, q_rtn, b_rtn, t_bl, r_ret, a_nm, c_lt, c_le, c_gt, c_ge, c_eqi, c_eqs, c_nes, c_eq0, c_ne0, c_in2, z0, z1, z2, z3, z4, z5, z6, z7, z8, c_les, b_list, l_lay, b_lent, i_tup, bind_ok, List.getElem?_cons_zero, List.getElem?_cons_succ, List.map_cons, List.map_nil, List.replicate, Nat.sub_zero, Nat.reduceSub, List.cons_append, List.nil_append, List.append_nil, List.mapM_cons, List.mapM_nil, Option.pure_def, Option.bind_eq_bind, Option.bind_some, List.any_cons, List.any_nil, id, Bool.or_false, Bool.not_true, Bool.not_false, if_true, if_false, Bool.false_eq_true, reduceIte, List.set_cons_zero, List.set_cons_succ]
    cases e3 : threadB a with
    | false => simp only [x_cst, x_var, x_tup, x_lst, x_bin, x_neg, x_not, x_cmp, x_cmp2, x_and1, x_and, x_or1, x_or, x_ite, x_idx, x_slc, x_call, x_blt, x_met, x_isi, x_nil, x_cons, x_c0, x_c1, x_p0, x_p1, y_nil, y_cons, y_set, y_rtn, y_ite, y_exp, decide_true, w_ok, q_nxt, q_rtn, b_rtn, t_bl, r_ret, a_nm, c_lt, c_le, c_gt, c_ge, c_eqi, c_eqs, c_nes, c_eq0, c_ne0, c_in2, z0, z1, z2, z3, z4, z5, z6, z7, z8, c_les, b_list, l_lay, b_lent, i_tup, bind_ok, List.getElem?_cons_zero, List.getElem?_cons_succ, List.map_cons, List.map_nil, List.replicate, Nat.sub_zero, Nat.reduceSub, List.cons_append, List.nil_append, List.append_nil, List.mapM_cons, List.mapM_nil, Option.pure_def, Option.bind_eq_bind, Option.bind_some, List.any_cons, List.any_nil, id, Bool.or_false, Bool.not_true, Bool.not_false, if_true, if_false, Bool.false_eq_true, reduceIte, List.set_cons_zero, List.set_cons_succ, madeB, e3, decide_true, Bool.true_and, Bool.false_and]
    | true => simp only [at2, is_one (k := k + 1) (hb.app t), x_cst, x_var, x_tup, x_lst, x_bin, x_neg, x_not, x_cmp, x_cmp2, x_and1, x_and, x_or1, x_or, x_ite, x_idx, x_slc, x_call, x_blt, x_met, x_isi, x_nil, x_cons, x_c0, x_c1, x_p0, x_p1, y_nil, y_cons, y_set, y_rtn, y_ite, y_exp, decide_true, w_ok, q_nxt, q_rtn, b_rtn, t_bl, r_ret, a_nm, c_lt, c_le, c_gt, c_ge, c_eqi, c_eqs, c_nes, c_eq0, c_ne0, c_in2, z0, z1, z2, z3, z4, z5, z6, z7, z8, c_les, b_list, l_lay, b_lent, i_tup, bind_ok, List.getElem?_cons_zero, List.getElem?_cons_succ, List.map_cons, List.map_nil, List.replicate, Nat.sub_zero, Nat.reduceSub, List.cons_append, List.nil_append, List.append_nil, List.mapM_cons, List.mapM_nil, Option.pure_def, Option.bind_eq_bind, Option.bind_some, List.any_cons, List.any_nil, id, Bool.or_false, Bool.not_true, Bool.not_false, if_true, if_false, Bool.false_eq_true, reduceIte, List.set_cons_zero, List.set_cons_succ, madeB, e3, decide_true, Bool.true_and]
theorem is_line {k n m : Nat} {s : Sto} {w : W} (h : GV s n m w) : ∃ t, ph (k + 5) 6 [w] s = .ok (.bl (lineB w)) (s ++ t) := by
  rw [call_eq (d := ⟨1, 1, b6⟩) rfl rfl]
  obtain ⟨t, e⟩ := is_made (k := k) h "line"
  exact ⟨t, by simp only [b6, e, x_cst, x_var, x_tup, x_lst, x_bin, x_neg, x_not, x_cmp, x_cmp2, x_and1, x_and, x_or1, x_or, x_ite, x_idx, x_slc, x_call, x_blt, x_met, x_isi, x_nil, x_cons, x_c0, x_c1, x_p0, x_p1, y_nil, y_cons, y_set, y_rtn, y_ite, y_exp, decide_true, w_ok, q_nxt, q_rtn, b_rtn, t_bl, r_ret, a_nm, c_lt, c_le, c_gt, c_ge, c_eqi, c_eqs, c_nes, c_eq0, c_ne0, c_in2, z0, z1, z2, z3, z4, z5, z6, z7, z8, c_les, b_list, l_lay, b_lent, i_tup, bind_ok, List.getElem?_cons_zero, List.getElem?_cons_succ, List.map_cons, List.map_nil, List.replicate, Nat.sub_zero, Nat.reduceSub, List.cons_append, List.nil_append, List.append_nil, List.mapM_cons, List.mapM_nil, Option.pure_def, Option.bind_eq_bind, Option.bind_some, List.any_cons, List.any_nil, id, Bool.or_false, Bool.not_true, Bool.not_false, if_true, if_false, Bool.false_eq_true, reduceIte, List.set_cons_zero, List.set_cons_succ]⟩
theorem is_locker {k n m : Nat} {s : Sto} {w : W} (h : GV s n m w) : ∃ t, ph (k + 5) 7 [w] s = .ok (.bl (lockerB w)) (s ++ t) := by
  rw [call_eq (d := ⟨1, 1, b7⟩) rfl rfl]
  obtain ⟨t, e⟩ := is_made (k := k) h "locker"
  exact ⟨t, by simp only [b7, e, x_cst, x_var, x_tup, x_lst, x_bin, x_neg, x_not, x_cmp, x_cmp2, x_and1, x_and, x_or1, x_or, x_ite, x_idx, x_slc, x_call, x_blt, x_met, x_isi, x_nil, x_cons, x_c0, x_c1, x_p0, x_p1, y_nil, y_cons, y_set, y_rtn, y_ite, y_exp, decide_true, w_ok, q_nxt, q_rtn, b_rtn, t_bl, r_ret, a_nm, c_lt, c_le, c_gt, c_ge, c_eqi, c_eqs, c_nes, c_eq0, c_ne0, c_in2, z0, z1, z2, z3, z4, z5, z6, z7, z8, c_les, b_list, l_lay, b_lent, i_tup, bind_ok, List.getElem?_cons_zero, List.getElem?_cons_succ, List.map_cons, List.map_nil, List.replicate, Nat.sub_zero, Nat.reduceSub, List.cons_append, List.nil_append, List.append_nil, List.mapM_cons, List.mapM_nil, Option.pure_def, Option.bind_eq_bind, Option.bind_some, List.any_cons, List.any_nil, id, Bool.or_false, Bool.not_true, Bool.not_false, if_true, if_false, Bool.false_eq_true, reduceIte, List.set_cons_zero, List.set_cons_succ]⟩
theorem point_no {w : W} (h1 : lockerB w = false) (h : wordedB "thread" 2 w = false) : pointB w = false := by
  unfold pointB
  rw [h1, Bool.false_or]
  split
  · rename_i x m
    simp [wordedB] at h
    simp [h]
  · rfl
theorem is_point {k n m : Nat} {s : Sto} {w : W} (h : GV s n m w) : ∃ t, ph (k + 6) 8 [w] s = .ok (.bl (pointB w)) (s ++ t) := by
  rw [call_eq (d := ⟨1, 1, b8⟩) rfl rfl]
  obtain ⟨t, e⟩ := is_locker (k := k) h
  simp only [b8, e, x_cst, x_var, x_tup, x_lst, x_bin, x_neg, x_not, x_cmp, x_cmp2, x_and1, x_and, x_or1, x_or, x_ite, x_idx, x_slc, x_call, x_blt, x_met, x_isi, x_nil, x_cons, x_c0, x_c1, x_p0, x_p1, y_nil, y_cons, y_set, y_rtn, y_ite, y_exp, decide_true, w_ok, q_nxt, q_rtn, b_rtn, t_bl, r_ret, a_nm, c_lt, c_le, c_gt, c_ge, c_eqi, c_eqs, c_nes, c_eq0, c_ne0, c_in2, z0, z1, z2, z3, z4, z5, z6, z7, z8, c_les, b_list, l_lay, b_lent, i_tup, bind_ok, List.getElem?_cons_zero, List.getElem?_cons_succ, List.map_cons, List.map_nil, List.replicate, Nat.sub_zero, Nat.reduceSub, List.cons_append, List.nil_append, List.append_nil, List.mapM_cons, List.mapM_nil, Option.pure_def, Option.bind_eq_bind, Option.bind_some, List.any_cons, List.any_nil, id, Bool.or_false, Bool.not_true, Bool.not_false, if_true, if_false, Bool.false_eq_true, reduceIte, List.set_cons_zero, List.set_cons_succ]
  cases e0 : lockerB w with
  | true => exact ⟨t, by simp only [x_cst, x_var, x_tup, x_lst, x_bin, x_neg, x_not, x_cmp, x_cmp2, x_and1, x_and, x_or1, x_or, x_ite, x_idx, x_slc, x_call, x_blt, x_met, x_isi, x_nil, x_cons, x_c0, x_c1, x_p0, x_p1, y_nil, y_cons, y_set, y_rtn, y_ite, y_exp, decide_true, w_ok, q_nxt, q_rtn, b_rtn, t_bl, r_ret, a_nm, c_lt, c_le, c_gt, c_ge, c_eqi, c_eqs, c_nes, c_eq0, c_ne0, c_in2, z0, z1, z2, z3, z4, z5, z6, z7, z8, c_les, b_list, l_lay, b_lent, i_tup, bind_ok, List.getElem?_cons_zero, List.getElem?_cons_succ, List.map_cons, List.map_nil, List.replicate, Nat.sub_zero, Nat.reduceSub, List.cons_append, List.nil_append, List.append_nil, List.mapM_cons, List.mapM_nil, Option.pure_def, Option.bind_eq_bind, Option.bind_some, List.any_cons, List.any_nil, id, Bool.or_false, Bool.not_true, Bool.not_false, if_true, if_false, Bool.false_eq_true, reduceIte, List.set_cons_zero, List.set_cons_succ, pointB, e0, Bool.true_or]⟩
  | false =>
    have e1 : ph (k + 5) 4 [w, .str "thread", .int 2] (s ++ t) = .ok (.bl (wordedB "thread" 2 w)) (s ++ t) := is_worded (k := k + 4) (h.app t) "thread" 1
    simp only [e1, x_cst, x_var, x_tup, x_lst, x_bin, x_neg, x_not, x_cmp, x_cmp2, x_and1, x_and, x_or1, x_or, x_ite, x_idx, x_slc, x_call, x_blt, x_met, x_isi, x_nil, x_cons, x_c0, x_c1, x_p0, x_p1, y_nil, y_cons, y_set, y_rtn, y_ite, y_exp, decide_true, w_ok, q_nxt, q_rtn, b_rtn, t_bl, r_ret, a_nm, c_lt, c_le, c_gt, c_ge, c_eqi, c_eqs, c_nes, c_eq0, c_ne0, c_in2, z0, z1, z2, z3, z4, z5, z6, z7, z8, c_les, b_list, l_lay, b_lent, i_tup, bind_ok, List.getElem?_cons_zero, List.getElem?_cons_succ, List.map_cons, List.map_nil, List.replicate, Nat.sub_zero, Nat.reduceSub, List.cons_append, List.nil_append, List.append_nil, List.mapM_cons, List.mapM_nil, Option.pure_def, Option.bind_eq_bind, Option.bind_some, List.any_cons, List.any_nil, id, Bool.or_false, Bool.not_true, Bool.not_false, if_true, if_false, Bool.false_eq_true, reduceIte, List.set_cons_zero, List.set_cons_succ]
    cases e2 : wordedB "thread" 2 w with
    | false => exact ⟨t, by simp only [x_cst, x_var, x_tup, x_lst, x_bin, x_neg, x_not, x_cmp, x_cmp2, x_and1, x_and, x_or1, x_or, x_ite, x_idx, x_slc, x_call, x_blt, x_met, x_isi, x_nil, x_cons, x_c0, x_c1, x_p0, x_p1, y_nil, y_cons, y_set, y_rtn, y_ite, y_exp, decide_true, w_ok, q_nxt, q_rtn, b_rtn, t_bl, r_ret, a_nm, c_lt, c_le, c_gt, c_ge, c_eqi, c_eqs, c_nes, c_eq0, c_ne0, c_in2, z0, z1, z2, z3, z4, z5, z6, z7, z8, c_les, b_list, l_lay, b_lent, i_tup, bind_ok, List.getElem?_cons_zero, List.getElem?_cons_succ, List.map_cons, List.map_nil, List.replicate, Nat.sub_zero, Nat.reduceSub, List.cons_append, List.nil_append, List.append_nil, List.mapM_cons, List.mapM_nil, Option.pure_def, Option.bind_eq_bind, Option.bind_some, List.any_cons, List.any_nil, id, Bool.or_false, Bool.not_true, Bool.not_false, if_true, if_false, Bool.false_eq_true, reduceIte, List.set_cons_zero, List.set_cons_succ, point_no e0 e2]⟩
    | true =>
      obtain ⟨a, rfl⟩ := worded2 e2
      obtain ⟨_, _, _, ha⟩ := h.item (w := a) (by simp)
      obtain ⟨t2, e3⟩ := is_thread (k := k + 2) (ha.app t)
      refine ⟨t ++ t2, ?_⟩
      simp only [at1, e3, x_cst, x_var, x_tup, x_lst, x_bin, x_neg, x_not, x_cmp, x_cmp2, x_and1, x_and, x_or1, x_or, x_ite, x_idx, x_slc, x_call, x_blt, x_met, x_isi, x_nil, x_cons, x_c0, x_c1, x_p0, x_p1, y_nil, y_cons, y_set, y_rtn, y_ite, y_exp, decide_true, w_ok, q_nxt, q_rtn, b_rtn, t_bl, r_ret, a_nm, c_lt, c_le, c_gt, c_ge, c_eqi, c_eqs, c_nes, c_eq0, c_ne0, c_in2, z0, z1, z2, z3, z4, z5, z6, z7, z8, c_les, b_list, l_lay, b_lent, i_tup, bind_ok, List.getElem?_cons_zero, List.getElem?_cons_succ, List.map_cons, List.map_nil, List.replicate, Nat.sub_zero, Nat.reduceSub, List.cons_append, List.nil_append, List.append_nil, List.mapM_cons, List.mapM_nil, Option.pure_def, Option.bind_eq_bind, Option.bind_some, List.any_cons, List.any_nil, id, Bool.or_false, Bool.not_true, Bool.not_false, if_true, if_false, Bool.false_eq_true, reduceIte, List.set_cons_zero, List.set_cons_succ, pointB, e0, Bool.false_or, decide_true, Bool.true_and, List.append_assoc]
theorem edge_no {w : W} (h1 : lineB w = false) (h : wordedB "key" 3 w = false) : edgeB w = false := by
  unfold edgeB
  rw [h1, Bool.false_or]
  split
  · rename_i x m n
    simp [wordedB] at h
    simp [h]
  · rfl
theorem is_edge {k n m : Nat} {s : Sto} {w : W} (h : GV s n m w) : ∃ t, ph (k + 7) 9 [w] s = .ok (.bl (edgeB w)) (s ++ t) := by
  rw [call_eq (d := ⟨1, 1, b9⟩) rfl rfl]
  obtain ⟨t, e⟩ := is_line (k := k + 1) h
  simp only [b9, e, x_cst, x_var, x_tup, x_lst, x_bin, x_neg, x_not, x_cmp, x_cmp2, x_and1, x_and, x_or1, x_or, x_ite, x_idx, x_slc, x_call, x_blt, x_met, x_isi, x_nil, x_cons, x_c0, x_c1, x_p0, x_p1, y_nil, y_cons, y_set, y_rtn, y_ite, y_exp, decide_true, w_ok, q_nxt, q_rtn, b_rtn, t_bl, r_ret, a_nm, c_lt, c_le, c_gt, c_ge, c_eqi, c_eqs, c_nes, c_eq0, c_ne0, c_in2, z0, z1, z2, z3, z4, z5, z6, z7, z8, c_les, b_list, l_lay, b_lent, i_tup, bind_ok, List.getElem?_cons_zero, List.getElem?_cons_succ, List.map_cons, List.map_nil, List.replicate, Nat.sub_zero, Nat.reduceSub, List.cons_append, List.nil_append, List.append_nil, List.mapM_cons, List.mapM_nil, Option.pure_def, Option.bind_eq_bind, Option.bind_some, List.any_cons, List.any_nil, id, Bool.or_false, Bool.not_true, Bool.not_false, if_true, if_false, Bool.false_eq_true, reduceIte, List.set_cons_zero, List.set_cons_succ]
  cases e0 : lineB w with
  | true => exact ⟨t, by simp only [x_cst, x_var, x_tup, x_lst, x_bin, x_neg, x_not, x_cmp, x_cmp2, x_and1, x_and, x_or1, x_or, x_ite, x_idx, x_slc, x_call, x_blt, x_met, x_isi, x_nil, x_cons, x_c0, x_c1, x_p0, x_p1, y_nil, y_cons, y_set, y_rtn, y_ite, y_exp, decide_true, w_ok, q_nxt, q_rtn, b_rtn, t_bl, r_ret, a_nm, c_lt, c_le, c_gt, c_ge, c_eqi, c_eqs, c_nes, c_eq0, c_ne0, c_in2, z0, z1, z2, z3, z4, z5, z6, z7, z8, c_les, b_list, l_lay, b_lent, i_tup, bind_ok, List.getElem?_cons_zero, List.getElem?_cons_succ, List.map_cons, List.map_nil, List.replicate, Nat.sub_zero, Nat.reduceSub, List.cons_append, List.nil_append, List.append_nil, List.mapM_cons, List.mapM_nil, Option.pure_def, Option.bind_eq_bind, Option.bind_some, List.any_cons, List.any_nil, id, Bool.or_false, Bool.not_true, Bool.not_false, if_true, if_false, Bool.false_eq_true, reduceIte, List.set_cons_zero, List.set_cons_succ, edgeB, e0, Bool.true_or]⟩
  | false =>
    have e1 : ph (k + 6) 4 [w, .str "key", .int 3] (s ++ t) = .ok (.bl (wordedB "key" 3 w)) (s ++ t) := is_worded (k := k + 5) (h.app t) "key" 2
    simp only [e1, x_cst, x_var, x_tup, x_lst, x_bin, x_neg, x_not, x_cmp, x_cmp2, x_and1, x_and, x_or1, x_or, x_ite, x_idx, x_slc, x_call, x_blt, x_met, x_isi, x_nil, x_cons, x_c0, x_c1, x_p0, x_p1, y_nil, y_cons, y_set, y_rtn, y_ite, y_exp, decide_true, w_ok, q_nxt, q_rtn, b_rtn, t_bl, r_ret, a_nm, c_lt, c_le, c_gt, c_ge, c_eqi, c_eqs, c_nes, c_eq0, c_ne0, c_in2, z0, z1, z2, z3, z4, z5, z6, z7, z8, c_les, b_list, l_lay, b_lent, i_tup, bind_ok, List.getElem?_cons_zero, List.getElem?_cons_succ, List.map_cons, List.map_nil, List.replicate, Nat.sub_zero, Nat.reduceSub, List.cons_append, List.nil_append, List.append_nil, List.mapM_cons, List.mapM_nil, Option.pure_def, Option.bind_eq_bind, Option.bind_some, List.any_cons, List.any_nil, id, Bool.or_false, Bool.not_true, Bool.not_false, if_true, if_false, Bool.false_eq_true, reduceIte, List.set_cons_zero, List.set_cons_succ]
    cases e2 : wordedB "key" 3 w with
    | false => exact ⟨t, by simp only [x_cst, x_var, x_tup, x_lst, x_bin, x_neg, x_not, x_cmp, x_cmp2, x_and1, x_and, x_or1, x_or, x_ite, x_idx, x_slc, x_call, x_blt, x_met, x_isi, x_nil, x_cons, x_c0, x_c1, x_p0, x_p1, y_nil, y_cons, y_set, y_rtn, y_ite, y_exp, decide_true, w_ok, q_nxt, q_rtn, b_rtn, t_bl, r_ret, a_nm, c_lt, c_le, c_gt, c_ge, c_eqi, c_eqs, c_nes, c_eq0, c_ne0, c_in2, z0, z1, z2, z3, z4, z5, z6, z7, z8, c_les, b_list, l_lay, b_lent, i_tup, bind_ok, List.getElem?_cons_zero, List.getElem?_cons_succ, List.map_cons, List.map_nil, List.replicate, Nat.sub_zero, Nat.reduceSub, List.cons_append, List.nil_append, List.append_nil, List.mapM_cons, List.mapM_nil, Option.pure_def, Option.bind_eq_bind, Option.bind_some, List.any_cons, List.any_nil, id, Bool.or_false, Bool.not_true, Bool.not_false, if_true, if_false, Bool.false_eq_true, reduceIte, List.set_cons_zero, List.set_cons_succ, edge_no e0 e2]⟩
    | true =>
      obtain ⟨a, b, rfl⟩ := worded3 e2
      obtain ⟨_, _, _, ha⟩ := h.item (w := a) (by simp)
      obtain ⟨_, _, _, hb⟩ := h.item (w := b) (by simp)
      obtain ⟨t2, e3⟩ := is_locker (k := k + 1) (ha.app t)
      simp only [at1, e3, x_cst, x_var, x_tup, x_lst, x_bin, x_neg, x_not, x_cmp, x_cmp2, x_and1, x_and, x_or1, x_or, x_ite, x_idx, x_slc, x_call, x_blt, x_met, x_isi, x_nil, x_cons, x_c0, x_c1, x_p0, x_p1, y_nil, y_cons, y_set, y_rtn, y_ite, y_exp, decide_true, w_ok, q_nxt, q_rtn, b_rtn, t_bl, r_ret, a_nm, c_lt, c_le, c_gt, c_ge, c_eqi, c_eqs, c_nes, c_eq0, c_ne0, c_in2, z0, z1, z2, z3, z4, z5, z6, z7, z8, c_les, b_list, l_lay, b_lent, i_tup, bind_ok, List.getElem?_cons_zero, List.getElem?_cons_succ, List.map_cons, List.map_nil, List.replicate, Nat.sub_zero, Nat.reduceSub, List.cons_append, List.nil_append, List.append_nil, List.mapM_cons, List.mapM_nil, Option.pure_def, Option.bind_eq_bind, Option.bind_some, List.any_cons, List.any_nil, id, Bool.or_false, Bool.not_true, Bool.not_false, if_true, if_false, Bool.false_eq_true, reduceIte, List.set_cons_zero, List.set_cons_succ]
      cases e4 : lockerB a with
      | false =>
        refine ⟨t ++ t2, ?_⟩
        simp only [x_cst, x_var, x_tup, x_lst, x_bin, x_neg, x_not, x_cmp, x_cmp2, x_and1, x_and, x_or1, x_or, x_ite, x_idx, x_slc, x_call, x_blt, x_met, x_isi, x_nil, x_cons, x_c0, x_c1, x_p0, x_p1, y_nil, y_cons, y_set, y_rtn, y_ite, y_exp, decide_true, w_ok, q_nxt, q_rtn, b_rtn, t_bl, r_ret, a_nm, c_lt, c_le, c_gt, c_ge, c_eqi, c_eqs, c_nes, c_eq0, c_ne0, c_in2, z0, z1, z2, z3, z4, z5, z6, z7, z8, c_les, b_list, l_lay, b_lent, i_tup, bind_ok, List.getElem?_cons_zero, List.getElem?_cons_succ, List.map_cons, List.map_nil, List.replicate, Nat.sub_zero, Nat.reduceSub, List.cons_append, List.nil_append, List.append_nil, List.mapM_cons, List.mapM_nil, Option.pure_def, Option.bind_eq_bind, Option.bind_some, List.any_cons, List.any_nil, id, Bool.or_false, Bool.not_true, Bool.not_false, if_true, if_false, Bool.false_eq_true, reduceIte, List.set_cons_zero, List.set_cons_succ, edgeB, e0, e4, Bool.false_or, decide_true, Bool.true_and, Bool.false_and, List.append_assoc]
      | true =>
        obtain ⟨t3, e5⟩ := is_point (k := k) ((hb.app t).app t2)
        refine ⟨t ++ t2 ++ t3, ?_⟩
        simp only [at2, e5, x_cst, x_var, x_tup, x_lst, x_bin, x_neg, x_not, x_cmp, x_cmp2, x_and1, x_and, x_or1, x_or, x_ite, x_idx, x_slc, x_call, x_blt, x_met, x_isi, x_nil, x_cons, x_c0, x_c1, x_p0, x_p1, y_nil, y_cons, y_set, y_rtn, y_ite, y_exp, decide_true, w_ok, q_nxt, q_rtn, b_rtn, t_bl, r_ret, a_nm, c_lt, c_le, c_gt, c_ge, c_eqi, c_eqs, c_nes, c_eq0, c_ne0, c_in2, z0, z1, z2, z3, z4, z5, z6, z7, z8, c_les, b_list, l_lay, b_lent, i_tup, bind_ok, List.getElem?_cons_zero, List.getElem?_cons_succ, List.map_cons, List.map_nil, List.replicate, Nat.sub_zero, Nat.reduceSub, List.cons_append, List.nil_append, List.append_nil, List.mapM_cons, List.mapM_nil, Option.pure_def, Option.bind_eq_bind, Option.bind_some, List.any_cons, List.any_nil, id, Bool.or_false, Bool.not_true, Bool.not_false, if_true, if_false, Bool.false_eq_true, reduceIte, List.set_cons_zero, List.set_cons_succ]
        simp only [edgeB, e0, e4, Bool.false_or, decide_true, Bool.true_and, List.append_assoc]
end K11

namespace K11
open PySem hiding Env exec execs
open L2 Mi
theorem letters_list : letters.cps.toList = (List.range 26).map (· + 97) := by decide +kernel
theorem lt_one (a b : Nat) : ([a] < [b] : Prop) ↔ a < b := by rw [List.cons_lt_cons_iff]; simp
theorem in_letters (c : Nat) : decide (c ∈ letters.cps.toList) = (!decide ([c] < [97]) && !decide ([122] < [c])) := by
  rw [letters_list, Bool.eq_iff_iff]
  simp [lt_one]
  constructor
  · rintro ⟨a, h, rfl⟩; omega
  · rintro ⟨h1, h2⟩; exact ⟨c - 97, by omega, by omega⟩
theorem law_letters {k n m : Nat} {s : Sto} {w : W} (h : GV s n m w) : ∃ t, ph (k + 1) 20 [w] s = .ok (.bl (nameB w)) (s ++ t) := by
  rw [call_eq (d := ⟨1, 2, b20⟩) rfl rfl]
  cases w
  case str x =>
    have hx2 : x.length ≤ SZ := h.strlen
    obtain ⟨t, e⟩ := den_lc (φ := ph k) (elt := .var 1) (tg := .nm 1) (own := [1]) (k := .val) (its := [.var 0]) (cond := [(.not (.cmp2 .le .le (.cst (.str "a")) (.var 1) (.cst (.str "z"))))]) (ρ := [some (.str x), none]) (s := s) (n := none) (vs := [.str x]) (ws := x.cps.toList.map fun c => .str ⟨#[c]⟩)
      (fun w => w) (fun w => match w with | .str y => !(!decide (y.cps.toList < [97]) && !decide ([122] < y.cps.toList)) | _ => false) (by simp only [x_cst, x_var, x_tup, x_lst, x_bin, x_neg, x_not, x_cmp, x_cmp2, x_and1, x_and, x_or1, x_or, x_ite, x_idx, x_slc, x_call, x_blt, x_met, x_isi, x_nil, x_cons, x_c0, x_c1, x_p0, x_p1, y_nil, y_cons, y_set, y_rtn, y_ite, y_exp, decide_true, w_ok, q_nxt, q_rtn, b_rtn, t_bl, r_ret, a_nm, c_lt, c_le, c_gt, c_ge, c_eqi, c_eqs, c_nes, c_eq0, c_ne0, c_in2, z0, z1, z2, z3, z4, z5, z6, z7, z8, c_les, b_list, l_lay, b_lent, i_tup, bind_ok, List.getElem?_cons_zero, List.getElem?_cons_succ, List.map_cons, List.map_nil, List.replicate, Nat.sub_zero, Nat.reduceSub, List.cons_append, List.nil_append, List.append_nil, List.mapM_cons, List.mapM_nil, Option.pure_def, Option.bind_eq_bind, Option.bind_some, List.any_cons, List.any_nil, id, Bool.or_false, Bool.not_true, Bool.not_false, if_true, if_false, Bool.false_eq_true, reduceIte, List.set_cons_zero, List.set_cons_succ]) (by
        simp only [iter, itemsW]
        rw [if_pos (by rw [List.length_map]; exact hx2)]) (fun t => rfl) (fun w hw => by
        rw [List.mem_map] at hw
        obtain ⟨c, _, rfl⟩ := hw
        refine ⟨[some (.str x), some (.str ⟨#[c]⟩)], rfl, fun t => ⟨t, ?_⟩, fun _ t => ⟨t, ?_⟩⟩
        · have ea : (Str.ofString "a").cps.toList = [97] := by decide +kernel
          have ez : (Str.ofString "z").cps.toList = [122] := by decide +kernel
          simp only [x_cst, x_var, x_tup, x_lst, x_bin, x_neg, x_not, x_cmp, x_cmp2, x_and1, x_and, x_or1, x_or, x_ite, x_idx, x_slc, x_call, x_blt, x_met, x_isi, x_nil, x_cons, x_c0, x_c1, x_p0, x_p1, y_nil, y_cons, y_set, y_rtn, y_ite, y_exp, decide_true, w_ok, q_nxt, q_rtn, b_rtn, t_bl, r_ret, a_nm, c_lt, c_le, c_gt, c_ge, c_eqi, c_eqs, c_nes, c_eq0, c_ne0, c_in2, z0, z1, z2, z3, z4, z5, z6, z7, z8, c_les, b_list, l_lay, b_lent, i_tup, bind_ok, List.getElem?_cons_zero, List.getElem?_cons_succ, List.map_cons, List.map_nil, List.replicate, Nat.sub_zero, Nat.reduceSub, List.cons_append, List.nil_append, List.append_nil, List.mapM_cons, List.mapM_nil, Option.pure_def, Option.bind_eq_bind, Option.bind_some, List.any_cons, List.any_nil, id, Bool.or_false, Bool.not_true, Bool.not_false, if_true, if_false, Bool.false_eq_true, reduceIte, List.set_cons_zero, List.set_cons_succ, ea, ez]
          cases e1 : decide ([c] < [97]) <;> simp only [e1, ez, x_cst, x_var, x_tup, x_lst, x_bin, x_neg, x_not, x_cmp, x_cmp2, x_and1, x_and, x_or1, x_or, x_ite, x_idx, x_slc, x_call, x_blt, x_met, x_isi, x_nil, x_cons, x_c0, x_c1, x_p0, x_p1, y_nil, y_cons, y_set, y_rtn, y_ite, y_exp, decide_true, w_ok, q_nxt, q_rtn, b_rtn, t_bl, r_ret, a_nm, c_lt, c_le, c_gt, c_ge, c_eqi, c_eqs, c_nes, c_eq0, c_ne0, c_in2, z0, z1, z2, z3, z4, z5, z6, z7, z8, c_les, b_list, l_lay, b_lent, i_tup, bind_ok, List.getElem?_cons_zero, List.getElem?_cons_succ, List.map_cons, List.map_nil, List.replicate, Nat.sub_zero, Nat.reduceSub, List.cons_append, List.nil_append, List.append_nil, List.mapM_cons, List.mapM_nil, Option.pure_def, Option.bind_eq_bind, Option.bind_some, List.any_cons, List.any_nil, id, Bool.or_false, Bool.not_true, Bool.not_false, if_true, if_false, Bool.false_eq_true, reduceIte, List.set_cons_zero, List.set_cons_succ] <;> simp
        · simp only [x_cst, x_var, x_tup, x_lst, x_bin, x_neg, x_not, x_cmp, x_cmp2, x_and1, x_and, x_or1, x_or, x_ite, x_idx, x_slc, x_call, x_blt, x_met, x_isi, x_nil, x_cons, x_c0, x_c1, x_p0, x_p1, y_nil, y_cons, y_set, y_rtn, y_ite, y_exp, decide_true, w_ok, q_nxt, q_rtn, b_rtn, t_bl, r_ret, a_nm, c_lt, c_le, c_gt, c_ge, c_eqi, c_eqs, c_nes, c_eq0, c_ne0, c_in2, z0, z1, z2, z3, z4, z5, z6, z7, z8, c_les, b_list, l_lay, b_lent, i_tup, bind_ok, List.getElem?_cons_zero, List.getElem?_cons_succ, List.map_cons, List.map_nil, List.replicate, Nat.sub_zero, Nat.reduceSub, List.cons_append, List.nil_append, List.append_nil, List.mapM_cons, List.mapM_nil, Option.pure_def, Option.bind_eq_bind, Option.bind_some, List.any_cons, List.any_nil, id, Bool.or_false, Bool.not_true, Bool.not_false, if_true, if_false, Bool.false_eq_true, reduceIte, List.set_cons_zero, List.set_cons_succ])
    simp only [b20, h.tStr, isB, x_cst, x_var, x_tup, x_lst, x_bin, x_neg, x_not, x_cmp, x_cmp2, x_and1, x_and, x_or1, x_or, x_ite, x_idx, x_slc, x_call, x_blt, x_met, x_isi, x_nil, x_cons, x_c0, x_c1, x_p0, x_p1, y_nil, y_cons, y_set, y_rtn, y_ite, y_exp, decide_true, w_ok, q_nxt, q_rtn, b_rtn, t_bl, r_ret, a_nm, c_lt, c_le, c_gt, c_ge, c_eqi, c_eqs, c_nes, c_eq0, c_ne0, c_in2, z0, z1, z2, z3, z4, z5, z6, z7, z8, c_les, b_list, l_lay, b_lent, i_tup, bind_ok, List.getElem?_cons_zero, List.getElem?_cons_succ, List.map_cons, List.map_nil, List.replicate, Nat.sub_zero, Nat.reduceSub, List.cons_append, List.nil_append, List.append_nil, List.mapM_cons, List.mapM_nil, Option.pure_def, Option.bind_eq_bind, Option.bind_some, List.any_cons, List.any_nil, id, Bool.or_false, Bool.not_true, Bool.not_false, if_true, if_false, Bool.false_eq_true, reduceIte, List.set_cons_zero, List.set_cons_succ]
    simp only [b_lens _ x hx2, x_cst, x_var, x_tup, x_lst, x_bin, x_neg, x_not, x_cmp, x_cmp2, x_and1, x_and, x_or1, x_or, x_ite, x_idx, x_slc, x_call, x_blt, x_met, x_isi, x_nil, x_cons, x_c0, x_c1, x_p0, x_p1, y_nil, y_cons, y_set, y_rtn, y_ite, y_exp, decide_true, w_ok, q_nxt, q_rtn, b_rtn, t_bl, r_ret, a_nm, c_lt, c_le, c_gt, c_ge, c_eqi, c_eqs, c_nes, c_eq0, c_ne0, c_in2, z0, z1, z2, z3, z4, z5, z6, z7, z8, c_les, b_list, l_lay, b_lent, i_tup, bind_ok, List.getElem?_cons_zero, List.getElem?_cons_succ, List.map_cons, List.map_nil, List.replicate, Nat.sub_zero, Nat.reduceSub, List.cons_append, List.nil_append, List.append_nil, List.mapM_cons, List.mapM_nil, Option.pure_def, Option.bind_eq_bind, Option.bind_some, List.any_cons, List.any_nil, id, Bool.or_false, Bool.not_true, Bool.not_false, if_true, if_false, Bool.false_eq_true, reduceIte, List.set_cons_zero, List.set_cons_succ]
    cases e1 : decide ((0 : Int) < (x.length : Int)) with
    | false =>
      refine ⟨[], ?_⟩
      simp only [x_cst, x_var, x_tup, x_lst, x_bin, x_neg, x_not, x_cmp, x_cmp2, x_and1, x_and, x_or1, x_or, x_ite, x_idx, x_slc, x_call, x_blt, x_met, x_isi, x_nil, x_cons, x_c0, x_c1, x_p0, x_p1, y_nil, y_cons, y_set, y_rtn, y_ite, y_exp, decide_true, w_ok, q_nxt, q_rtn, b_rtn, t_bl, r_ret, a_nm, c_lt, c_le, c_gt, c_ge, c_eqi, c_eqs, c_nes, c_eq0, c_ne0, c_in2, z0, z1, z2, z3, z4, z5, z6, z7, z8, c_les, b_list, l_lay, b_lent, i_tup, bind_ok, List.getElem?_cons_zero, List.getElem?_cons_succ, List.map_cons, List.map_nil, List.replicate, Nat.sub_zero, Nat.reduceSub, List.cons_append, List.nil_append, List.append_nil, List.mapM_cons, List.mapM_nil, Option.pure_def, Option.bind_eq_bind, Option.bind_some, List.any_cons, List.any_nil, id, Bool.or_false, Bool.not_true, Bool.not_false, if_true, if_false, Bool.false_eq_true, reduceIte, List.set_cons_zero, List.set_cons_succ]
      have : nameB (.str x) = false := by
        have : ¬ (1 ≤ x.length) := by have := of_decide_eq_false e1; omega
        simp only [nameB, decide_eq_false this, Bool.false_and]
      rw [this]
    | true =>
      simp only [x_cst, x_var, x_tup, x_lst, x_bin, x_neg, x_not, x_cmp, x_cmp2, x_and1, x_and, x_or1, x_or, x_ite, x_idx, x_slc, x_call, x_blt, x_met, x_isi, x_nil, x_cons, x_c0, x_c1, x_p0, x_p1, y_nil, y_cons, y_set, y_rtn, y_ite, y_exp, decide_true, w_ok, q_nxt, q_rtn, b_rtn, t_bl, r_ret, a_nm, c_lt, c_le, c_gt, c_ge, c_eqi, c_eqs, c_nes, c_eq0, c_ne0, c_in2, z0, z1, z2, z3, z4, z5, z6, z7, z8, c_les, b_list, l_lay, b_lent, i_tup, bind_ok, List.getElem?_cons_zero, List.getElem?_cons_succ, List.map_cons, List.map_nil, List.replicate, Nat.sub_zero, Nat.reduceSub, List.cons_append, List.nil_append, List.append_nil, List.mapM_cons, List.mapM_nil, Option.pure_def, Option.bind_eq_bind, Option.bind_some, List.any_cons, List.any_nil, id, Bool.or_false, Bool.not_true, Bool.not_false, if_true, if_false, Bool.false_eq_true, reduceIte, List.set_cons_zero, List.set_cons_succ]
      cases e2 : decide ((x.length : Int) < 9) with
      | false =>
        refine ⟨[], ?_⟩
        simp only [x_cst, x_var, x_tup, x_lst, x_bin, x_neg, x_not, x_cmp, x_cmp2, x_and1, x_and, x_or1, x_or, x_ite, x_idx, x_slc, x_call, x_blt, x_met, x_isi, x_nil, x_cons, x_c0, x_c1, x_p0, x_p1, y_nil, y_cons, y_set, y_rtn, y_ite, y_exp, decide_true, w_ok, q_nxt, q_rtn, b_rtn, t_bl, r_ret, a_nm, c_lt, c_le, c_gt, c_ge, c_eqi, c_eqs, c_nes, c_eq0, c_ne0, c_in2, z0, z1, z2, z3, z4, z5, z6, z7, z8, c_les, b_list, l_lay, b_lent, i_tup, bind_ok, List.getElem?_cons_zero, List.getElem?_cons_succ, List.map_cons, List.map_nil, List.replicate, Nat.sub_zero, Nat.reduceSub, List.cons_append, List.nil_append, List.append_nil, List.mapM_cons, List.mapM_nil, Option.pure_def, Option.bind_eq_bind, Option.bind_some, List.any_cons, List.any_nil, id, Bool.or_false, Bool.not_true, Bool.not_false, if_true, if_false, Bool.false_eq_true, reduceIte, List.set_cons_zero, List.set_cons_succ]
        have : nameB (.str x) = false := by
          have : ¬ (x.length ≤ 8) := by have := of_decide_eq_false e2; omega
          simp only [nameB, decide_eq_false this, Bool.false_and, Bool.and_false]
        rw [this]
      | true =>
        refine ⟨t ++ [SO.lst (((x.cps.toList.map fun c => W.str ⟨#[c]⟩).filter (fun w => match w with | .str y => !(!decide (y.cps.toList < [97]) && !decide ([122] < y.cps.toList)) | _ => false)).map fun w => w)] ++ [SO.lst []], ?_⟩
        simp only [↓e, empty_made, x_cst, x_var, x_tup, x_lst, x_bin, x_neg, x_not, x_cmp, x_cmp2, x_and1, x_and, x_or1, x_or, x_ite, x_idx, x_slc, x_call, x_blt, x_met, x_isi, x_nil, x_cons, x_c0, x_c1, x_p0, x_p1, y_nil, y_cons, y_set, y_rtn, y_ite, y_exp, decide_true, w_ok, q_nxt, q_rtn, b_rtn, t_bl, r_ret, a_nm, c_lt, c_le, c_gt, c_ge, c_eqi, c_eqs, c_nes, c_eq0, c_ne0, c_in2, z0, z1, z2, z3, z4, z5, z6, z7, z8, c_les, b_list, l_lay, b_lent, i_tup, bind_ok, List.getElem?_cons_zero, List.getElem?_cons_succ, List.map_cons, List.map_nil, List.replicate, Nat.sub_zero, Nat.reduceSub, List.cons_append, List.nil_append, List.append_nil, List.mapM_cons, List.mapM_nil, Option.pure_def, Option.bind_eq_bind, Option.bind_some, List.any_cons, List.any_nil, id, Bool.or_false, Bool.not_true, Bool.not_false, if_true, if_false, Bool.false_eq_true, reduceIte, List.set_cons_zero, List.set_cons_succ]
        have h1 : (1 ≤ x.length) := by have := of_decide_eq_true e1; omega
        have h2 : (x.length ≤ 8) := by have := of_decide_eq_true e2; omega
        have e3 : (x.cps.toList.map fun c => W.str ⟨#[c]⟩).all (fun w => !(match w with | .str y => !(!decide (y.cps.toList < [97]) && !decide ([122] < y.cps.toList)) | _ => false)) = x.cps.toList.all fun c => decide (c ∈ letters.cps.toList) := by
          rw [List.all_map]
          congr 1; funext c
          rw [in_letters]
          simp
        simp only [nameB, decide_eq_true h1, decide_eq_true h2, Bool.true_and, e3]
  all_goals exact ⟨[], by simp only [b20, h.tStr, isB, x_cst, x_var, x_tup, x_lst, x_bin, x_neg, x_not, x_cmp, x_cmp2, x_and1, x_and, x_or1, x_or, x_ite, x_idx, x_slc, x_call, x_blt, x_met, x_isi, x_nil, x_cons, x_c0, x_c1, x_p0, x_p1, y_nil, y_cons, y_set, y_rtn, y_ite, y_exp, decide_true, w_ok, q_nxt, q_rtn, b_rtn, t_bl, r_ret, a_nm, c_lt, c_le, c_gt, c_ge, c_eqi, c_eqs, c_nes, c_eq0, c_ne0, c_in2, z0, z1, z2, z3, z4, z5, z6, z7, z8, c_les, b_list, l_lay, b_lent, i_tup, bind_ok, List.getElem?_cons_zero, List.getElem?_cons_succ, List.map_cons, List.map_nil, List.replicate, Nat.sub_zero, Nat.reduceSub, List.cons_append, List.nil_append, List.append_nil, List.mapM_cons, List.mapM_nil, Option.pure_def, Option.bind_eq_bind, Option.bind_some, List.any_cons, List.any_nil, id, Bool.or_false, Bool.not_true, Bool.not_false, if_true, if_false, Bool.false_eq_true, reduceIte, List.set_cons_zero, List.set_cons_succ]; rfl⟩
def partsB (size : Nat) (w : W) : List W := match w with
  | .tup ws => if ws.length = size then ws else List.replicate size .non
  | _ => List.replicate size .non
theorem law_parts {k n m : Nat} {s : Sto} {w : W} (h : GV s n m w) (j : Nat) (hj : j ≤ 9) : ∃ t l, ph (k + 1) 22 [w, .int (j : Int)] s = .ok (.loc l) (s ++ t) ∧ (s ++ t)[l]? = some (.lst (partsB j w)) := by
  rw [call_eq (d := ⟨2, 2, b22⟩) rfl rfl]
  simp only [List.map_cons, List.map_nil, List.replicate, List.append_nil, Nat.sub_self]
  have no : binop Bop.mul (.loc s.length) (W.int (j : Int)) (s ++ [SO.lst [W.non]]) = .ok (.loc (s.length + 1)) (s ++ [SO.lst [.non]] ++ [SO.lst (List.replicate j .non)]) := by
    have e : (s ++ [SO.lst [W.non]])[s.length]? = some (SO.lst [W.non]) := by simp
    have h63 : (9 : Int) < 2 ^ 63 := by decide
    simp only [binop, e]
    rw [if_pos ⟨by have : (-(2 ^ 63) : Int) ≤ 0 := by decide
                   omega, by omega, by show ([W.non] : List W).length * (j : Int).toNat ≤ SZ; simp only [List.length_singleton, Int.toNat_natCast, SZ]; omega⟩]
    simp only [Int.toNat_natCast, lay, List.length_append, List.length_singleton]
    congr 3
    have : ∀ i : Nat, (List.replicate i [W.non]).flatten = List.replicate i W.non := by
      intro i
      induction i with
      | zero => rfl
      | succ i ih => rw [List.replicate_succ, List.flatten_cons, ih]; rfl
    rw [this]
  have fin : ∀ w', partsB j w' = List.replicate j .non → ∃ t l, (Res.ok (W.loc (s.length + 1)) (s ++ [SO.lst [.non]] ++ [SO.lst (List.replicate j .non)])) = Res.ok (.loc l) (s ++ t) ∧ (s ++ t)[l]? = some (.lst (partsB j w')) := fun w' e => ⟨[SO.lst [.non]] ++ [SO.lst (List.replicate j .non)], s.length + 1, by rw [List.append_assoc], by rw [e]; simp⟩
  cases w
  case tup ws =>
    simp only [b22, h.tTup, isB, x_cst, x_var, x_tup, x_lst, x_bin, x_neg, x_not, x_cmp, x_cmp2, x_and1, x_and, x_or1, x_or, x_ite, x_idx, x_slc, x_call, x_blt, x_met, x_isi, x_nil, x_cons, x_c0, x_c1, x_p0, x_p1, y_nil, y_cons, y_set, y_rtn, y_ite, y_exp, decide_true, w_ok, q_nxt, q_rtn, b_rtn, t_bl, r_ret, a_nm, c_lt, c_le, c_gt, c_ge, c_eqi, c_eqs, c_nes, c_eq0, c_ne0, c_in2, z0, z1, z2, z3, z4, z5, z6, z7, z8, c_les, b_list, l_lay, b_lent, i_tup, bind_ok, List.getElem?_cons_zero, List.getElem?_cons_succ, List.map_cons, List.map_nil, List.replicate, Nat.sub_zero, Nat.reduceSub, List.cons_append, List.nil_append, List.append_nil, List.mapM_cons, List.mapM_nil, Option.pure_def, Option.bind_eq_bind, Option.bind_some, List.any_cons, List.any_nil, id, Bool.or_false, Bool.not_true, Bool.not_false, if_true, if_false, Bool.false_eq_true, reduceIte, List.set_cons_zero, List.set_cons_succ]
    by_cases e : ws.length = j
    · have e1 : decide ((ws.length : Int) = (j : Int)) = true := decide_eq_true (by omega)
      simp only [e1, x_cst, x_var, x_tup, x_lst, x_bin, x_neg, x_not, x_cmp, x_cmp2, x_and1, x_and, x_or1, x_or, x_ite, x_idx, x_slc, x_call, x_blt, x_met, x_isi, x_nil, x_cons, x_c0, x_c1, x_p0, x_p1, y_nil, y_cons, y_set, y_rtn, y_ite, y_exp, decide_true, w_ok, q_nxt, q_rtn, b_rtn, t_bl, r_ret, a_nm, c_lt, c_le, c_gt, c_ge, c_eqi, c_eqs, c_nes, c_eq0, c_ne0, c_in2, z0, z1, z2, z3, z4, z5, z6, z7, z8, c_les, b_list, l_lay, b_lent, i_tup, bind_ok, List.getElem?_cons_zero, List.getElem?_cons_succ, List.map_cons, List.map_nil, List.replicate, Nat.sub_zero, Nat.reduceSub, List.cons_append, List.nil_append, List.append_nil, List.mapM_cons, List.mapM_nil, Option.pure_def, Option.bind_eq_bind, Option.bind_some, List.any_cons, List.any_nil, id, Bool.or_false, Bool.not_true, Bool.not_false, if_true, if_false, Bool.false_eq_true, reduceIte, List.set_cons_zero, List.set_cons_succ]
      exact ⟨[SO.lst ws], s.length, rfl, by simp [partsB, e]⟩
    · have e1 : decide ((ws.length : Int) = (j : Int)) = false := decide_eq_false (by omega)
      simp only [e1, no, x_cst, x_var, x_tup, x_lst, x_bin, x_neg, x_not, x_cmp, x_cmp2, x_and1, x_and, x_or1, x_or, x_ite, x_idx, x_slc, x_call, x_blt, x_met, x_isi, x_nil, x_cons, x_c0, x_c1, x_p0, x_p1, y_nil, y_cons, y_set, y_rtn, y_ite, y_exp, decide_true, w_ok, q_nxt, q_rtn, b_rtn, t_bl, r_ret, a_nm, c_lt, c_le, c_gt, c_ge, c_eqi, c_eqs, c_nes, c_eq0, c_ne0, c_in2, z0, z1, z2, z3, z4, z5, z6, z7, z8, c_les, b_list, l_lay, b_lent, i_tup, bind_ok, List.getElem?_cons_zero, List.getElem?_cons_succ, List.map_cons, List.map_nil, List.replicate, Nat.sub_zero, Nat.reduceSub, List.cons_append, List.nil_append, List.append_nil, List.mapM_cons, List.mapM_nil, Option.pure_def, Option.bind_eq_bind, Option.bind_some, List.any_cons, List.any_nil, id, Bool.or_false, Bool.not_true, Bool.not_false, if_true, if_false, Bool.false_eq_true, reduceIte, List.set_cons_zero, List.set_cons_succ]
      exact fin (.tup ws) (by simp [partsB, e])
  all_goals
    simp only [b22, h.tTup, isB, no, x_cst, x_var, x_tup, x_lst, x_bin, x_neg, x_not, x_cmp, x_cmp2, x_and1, x_and, x_or1, x_or, x_ite, x_idx, x_slc, x_call, x_blt, x_met, x_isi, x_nil, x_cons, x_c0, x_c1, x_p0, x_p1, y_nil, y_cons, y_set, y_rtn, y_ite, y_exp, decide_true, w_ok, q_nxt, q_rtn, b_rtn, t_bl, r_ret, a_nm, c_lt, c_le, c_gt, c_ge, c_eqi, c_eqs, c_nes, c_eq0, c_ne0, c_in2, z0, z1, z2, z3, z4, z5, z6, z7, z8, c_les, b_list, l_lay, b_lent, i_tup, bind_ok, List.getElem?_cons_zero, List.getElem?_cons_succ, List.map_cons, List.map_nil, List.replicate, Nat.sub_zero, Nat.reduceSub, List.cons_append, List.nil_append, List.append_nil, List.mapM_cons, List.mapM_nil, Option.pure_def, Option.bind_eq_bind, Option.bind_some, List.any_cons, List.any_nil, id, Bool.or_false, Bool.not_true, Bool.not_false, if_true, if_false, Bool.false_eq_true, reduceIte, List.set_cons_zero, List.set_cons_succ]
    first | exact fin .non rfl | exact fin (.bl _) rfl | exact fin (.int _) rfl | exact fin (.str _) rfl | exact fin (.frl _) rfl | exact fin (.loc _) rfl | exact fin (.glb _) rfl
/-- what the law's reading tells -/
def keyB (w : W) : Bool := match w with
  | .tup [.str x, m, n] => decide (x = "key") && (lockerB m && pointB n)
  | _ => false
def pt2B (w : W) : Bool := match w with
  | .tup [.str x, m] => decide (x = "thread") && threadB m
  | _ => false
def sortOf (w : W) : Str := if threadB w then "thread" else if lineB w then "line" else if lockerB w then "locker" else if keyB w then "key" else if pt2B w then "point" else "none"
theorem made_thread {word : Str} {w : W} (h : madeB word w = true) : threadB w = false := by
  match w, h with
  | .tup [.str x, m, n], h =>
    simp [madeB] at h
    have hm := h.2.1
    simp only [threadB]
    have : oneB m = false := by
      cases m <;> simp [threadB] at hm ⊢ <;> rfl
    simp [this]
theorem made_word {u v : Str} {w : W} (h : madeB u w = true) (hn : u ≠ v) : madeB v w = false := by
  match w, h with
  | .tup [.str x, m, n], h =>
    simp [madeB] at h
    simp [madeB, h.1, hn]
theorem key_tup {w : W} (h : keyB w = true) : ∃ m n, w = .tup [.str "key", m, n] ∧ lockerB m = true ∧ pointB n = true := by
  unfold keyB at h
  split at h
  · rename_i x m n
    simp at h
    exact ⟨m, n, by rw [h.1], h.2.1, h.2.2⟩
  · cases h
theorem locker_tup {word : Str} {w : W} (h : madeB word w = true) : ∃ m n, w = .tup [.str word, m, n] ∧ threadB m = true ∧ oneB n = true := by
  unfold madeB at h
  split at h
  · rename_i x m n
    simp at h
    exact ⟨m, n, by rw [h.1], h.2.1, h.2.2⟩
  · cases h
theorem pt2_tup {w : W} (h : pt2B w = true) : ∃ m, w = .tup [.str "thread", m] ∧ threadB m = true := by
  unfold pt2B at h
  split at h
  · rename_i x m
    simp at h
    exact ⟨m, by rw [h.1], h.2⟩
  · cases h
theorem ns1 : ("line" : Str) ≠ "thread" := by decide +kernel
theorem ns2 : ("locker" : Str) ≠ "thread" := by decide +kernel
theorem ns3 : ("key" : Str) ≠ "thread" := by decide +kernel
theorem ns4 : ("point" : Str) ≠ "thread" := by decide +kernel
theorem ns5 : ("none" : Str) ≠ "thread" := by decide +kernel
theorem ns6 : ("thread" : Str) ≠ "locker" := by decide +kernel
theorem ns7 : ("line" : Str) ≠ "locker" := by decide +kernel
theorem ns8 : ("key" : Str) ≠ "locker" := by decide +kernel
theorem ns9 : ("point" : Str) ≠ "locker" := by decide +kernel
theorem ns10 : ("none" : Str) ≠ "locker" := by decide +kernel
theorem ns11 : ("thread" : Str) ≠ "line" := by decide +kernel
theorem ns12 : ("locker" : Str) ≠ "line" := by decide +kernel
theorem ns13 : ("key" : Str) ≠ "line" := by decide +kernel
theorem ns14 : ("point" : Str) ≠ "line" := by decide +kernel
theorem ns15 : ("none" : Str) ≠ "line" := by decide +kernel
theorem ns16 : ("thread" : Str) ≠ "key" := by decide +kernel
theorem ns17 : ("line" : Str) ≠ "key" := by decide +kernel
theorem ns18 : ("locker" : Str) ≠ "key" := by decide +kernel
theorem ns19 : ("point" : Str) ≠ "key" := by decide +kernel
theorem ns20 : ("none" : Str) ≠ "key" := by decide +kernel
theorem ns21 : ("thread" : Str) ≠ "point" := by decide +kernel
theorem ns22 : ("line" : Str) ≠ "point" := by decide +kernel
theorem ns23 : ("locker" : Str) ≠ "point" := by decide +kernel
theorem ns24 : ("key" : Str) ≠ "point" := by decide +kernel
theorem ns25 : ("none" : Str) ≠ "point" := by decide +kernel
theorem not_one {a : W} (h : threadB a = true) : oneB a = false := by cases a <;> simp [threadB] at h ⊢ <;> rfl
theorem not_one2 {word : Str} {a : W} (h : madeB word a = true) : oneB a = false := by
  obtain ⟨_, _, rfl, _⟩ := locker_tup h; rfl
theorem key_not {w : W} (h : keyB w = true) : threadB w = false ∧ lineB w = false ∧ lockerB w = false := by
  obtain ⟨m, n, rfl, h1, h2⟩ := key_tup h
  refine ⟨?_, ?_, ?_⟩
  · simp [threadB, not_one2 h1]
  · simp [madeB, ns13]
  · simp [madeB, ns8]
theorem pt2_not {w : W} (h : pt2B w = true) : threadB w = false ∧ lineB w = false ∧ lockerB w = false ∧ keyB w = false := by
  obtain ⟨m, rfl, h1⟩ := pt2_tup h
  exact ⟨by simp [threadB, not_one h1], rfl, rfl, rfl⟩
theorem sort_thread (w : W) : decide (sortOf w = "thread") = threadB w := by
  unfold sortOf
  cases h1 : threadB w <;> cases h2 : lineB w <;> cases h3 : lockerB w <;> cases h4 : keyB w <;> cases h5 : pt2B w <;> simp [ns1, ns2, ns3, ns4, ns5]
theorem sort_line (w : W) : decide (sortOf w = "line") = lineB w := by
  unfold sortOf
  cases h2 : lineB w with
  | true => rw [made_thread h2]; simp
  | false => cases h1 : threadB w <;> cases h3 : lockerB w <;> cases h4 : keyB w <;> cases h5 : pt2B w <;> simp [ns11, ns12, ns13, ns14, ns15]
theorem sort_locker (w : W) : decide (sortOf w = "locker") = lockerB w := by
  unfold sortOf
  cases h3 : lockerB w with
  | true => rw [made_thread h3, show lineB w = false from made_word h3 ns12]; simp
  | false => cases h1 : threadB w <;> cases h2 : lineB w <;> cases h4 : keyB w <;> cases h5 : pt2B w <;> simp [ns6, ns7, ns8, ns9, ns10]
theorem sort_key (w : W) : decide (sortOf w = "key") = keyB w := by
  unfold sortOf
  cases h4 : keyB w with
  | true => obtain ⟨a, b, c⟩ := key_not h4; rw [a, b, c]; simp
  | false => cases h1 : threadB w <;> cases h2 : lineB w <;> cases h3 : lockerB w <;> cases h5 : pt2B w <;> simp [ns16, ns17, ns18, ns19, ns20]
theorem sort_point (w : W) : decide (sortOf w = "point") = pt2B w := by
  unfold sortOf
  cases h5 : pt2B w with
  | true => obtain ⟨a, b, c, d⟩ := pt2_not h5; rw [a, b, c, d]; simp
  | false => cases h1 : threadB w <;> cases h2 : lineB w <;> cases h3 : lockerB w <;> cases h4 : keyB w <;> simp [ns21, ns22, ns23, ns24, ns25]
theorem point_eq (w : W) : pointB w = (pt2B w || lockerB w) := by rw [Bool.or_comm]; rfl
theorem edge_eq (w : W) : edgeB w = (lineB w || keyB w) := rfl
end K11

namespace K11
open PySem hiding Env exec execs
open L2 Mi
abbrev r1 (w : W) : Env := [some w, none, none, none, none, none]
theorem sort1 {k n m : Nat} {s : Sto} {w : W} (h : GV s n m w) : ∃ t, exec (ph (k + 1)) 0 ψ0 (b23[0]) (r1 w) s = (if threadB w then .ok (.rtn (.str "thread")) (r1 w) (s ++ t) else .ok .nxt (r1 w) (s ++ t)) := by
  simp only [b23, List.getElem_cons_zero]
  cases w
  case tup ws =>
    match ws, h with
    | [], h => exact ⟨[], by simp only [h.tTup, isB, x_cst, x_var, x_tup, x_lst, x_bin, x_neg, x_not, x_cmp, x_cmp2, x_and1, x_and, x_or1, x_or, x_ite, x_idx, x_slc, x_call, x_blt, x_met, x_isi, x_nil, x_cons, x_c0, x_c1, x_p0, x_p1, y_nil, y_cons, y_set, y_rtn, y_ite, y_exp, decide_true, w_ok, q_nxt, q_rtn, b_rtn, t_bl, r_ret, a_nm, c_lt, c_le, c_gt, c_ge, c_eqi, c_eqs, c_nes, c_eq0, c_ne0, c_in2, z0, z1, z2, z3, z4, z5, z6, z7, z8, c_les, b_list, l_lay, b_lent, i_tup, bind_ok, List.getElem?_cons_zero, List.getElem?_cons_succ, List.map_cons, List.map_nil, List.replicate, Nat.sub_zero, Nat.reduceSub, List.cons_append, List.nil_append, List.append_nil, List.mapM_cons, List.mapM_nil, Option.pure_def, Option.bind_eq_bind, Option.bind_some, List.any_cons, List.any_nil, id, Bool.or_false, Bool.not_true, Bool.not_false, if_true, if_false, Bool.false_eq_true, reduceIte, List.set_cons_zero, List.set_cons_succ]; rfl⟩
    | x :: xs, h =>
      obtain ⟨nx, mx, _, hx⟩ := h.item List.mem_cons_self
      obtain ⟨t, e⟩ := law_letters (k := k) hx
      simp only [h.tTup, isB, at0, e, List.isEmpty_cons, x_cst, x_var, x_tup, x_lst, x_bin, x_neg, x_not, x_cmp, x_cmp2, x_and1, x_and, x_or1, x_or, x_ite, x_idx, x_slc, x_call, x_blt, x_met, x_isi, x_nil, x_cons, x_c0, x_c1, x_p0, x_p1, y_nil, y_cons, y_set, y_rtn, y_ite, y_exp, decide_true, w_ok, q_nxt, q_rtn, b_rtn, t_bl, r_ret, a_nm, c_lt, c_le, c_gt, c_ge, c_eqi, c_eqs, c_nes, c_eq0, c_ne0, c_in2, z0, z1, z2, z3, z4, z5, z6, z7, z8, c_les, b_list, l_lay, b_lent, i_tup, bind_ok, List.getElem?_cons_zero, List.getElem?_cons_succ, List.map_cons, List.map_nil, List.replicate, Nat.sub_zero, Nat.reduceSub, List.cons_append, List.nil_append, List.append_nil, List.mapM_cons, List.mapM_nil, Option.pure_def, Option.bind_eq_bind, Option.bind_some, List.any_cons, List.any_nil, id, Bool.or_false, Bool.not_true, Bool.not_false, if_true, if_false, Bool.false_eq_true, reduceIte, List.set_cons_zero, List.set_cons_succ]
      cases en : nameB x with
      | false =>
        refine ⟨t, ?_⟩
        simp only [x_cst, x_var, x_tup, x_lst, x_bin, x_neg, x_not, x_cmp, x_cmp2, x_and1, x_and, x_or1, x_or, x_ite, x_idx, x_slc, x_call, x_blt, x_met, x_isi, x_nil, x_cons, x_c0, x_c1, x_p0, x_p1, y_nil, y_cons, y_set, y_rtn, y_ite, y_exp, decide_true, w_ok, q_nxt, q_rtn, b_rtn, t_bl, r_ret, a_nm, c_lt, c_le, c_gt, c_ge, c_eqi, c_eqs, c_nes, c_eq0, c_ne0, c_in2, z0, z1, z2, z3, z4, z5, z6, z7, z8, c_les, b_list, l_lay, b_lent, i_tup, bind_ok, List.getElem?_cons_zero, List.getElem?_cons_succ, List.map_cons, List.map_nil, List.replicate, Nat.sub_zero, Nat.reduceSub, List.cons_append, List.nil_append, List.append_nil, List.mapM_cons, List.mapM_nil, Option.pure_def, Option.bind_eq_bind, Option.bind_some, List.any_cons, List.any_nil, id, Bool.or_false, Bool.not_true, Bool.not_false, if_true, if_false, Bool.false_eq_true, reduceIte, List.set_cons_zero, List.set_cons_succ, threadB, en, Bool.false_and]
      | true =>
        obtain ⟨t2, e2⟩ := den_lc (φ := ph (k + 1)) (elt := .var 5) (tg := .nm 5) (own := [5]) (k := .val) (its := [(.slc (.var 0) [(.cst (.int 1))] [])]) (cond := [(.not (.call 21 [(.var 5)] [] [0]))]) (ρ := r1 (.tup (x :: xs))) (s := s ++ t) (n := none) (vs := [.tup xs]) (ws := xs)
          (fun w => w) (fun w => !oneB w) (by simp only [cut1, x_cst, x_var, x_tup, x_lst, x_bin, x_neg, x_not, x_cmp, x_cmp2, x_and1, x_and, x_or1, x_or, x_ite, x_idx, x_slc, x_call, x_blt, x_met, x_isi, x_nil, x_cons, x_c0, x_c1, x_p0, x_p1, y_nil, y_cons, y_set, y_rtn, y_ite, y_exp, decide_true, w_ok, q_nxt, q_rtn, b_rtn, t_bl, r_ret, a_nm, c_lt, c_le, c_gt, c_ge, c_eqi, c_eqs, c_nes, c_eq0, c_ne0, c_in2, z0, z1, z2, z3, z4, z5, z6, z7, z8, c_les, b_list, l_lay, b_lent, i_tup, bind_ok, List.getElem?_cons_zero, List.getElem?_cons_succ, List.map_cons, List.map_nil, List.replicate, Nat.sub_zero, Nat.reduceSub, List.cons_append, List.nil_append, List.append_nil, List.mapM_cons, List.mapM_nil, Option.pure_def, Option.bind_eq_bind, Option.bind_some, List.any_cons, List.any_nil, id, Bool.or_false, Bool.not_true, Bool.not_false, if_true, if_false, Bool.false_eq_true, reduceIte, List.set_cons_zero, List.set_cons_succ]) (by
            simp only [iter, itemsW]
            rw [if_pos h.len1]) (fun t => rfl) (fun w hw => by
            obtain ⟨nw, mw, _, hw'⟩ := h.item (List.mem_cons_of_mem _ hw)
            refine ⟨[some (.tup (x :: xs)), none, none, none, none, some w], rfl, fun t' => ⟨t', ?_⟩, fun _ t' => ⟨t', ?_⟩⟩
            · simp only [law_num (k := k) ((hw'.app t).app t'), x_cst, x_var, x_tup, x_lst, x_bin, x_neg, x_not, x_cmp, x_cmp2, x_and1, x_and, x_or1, x_or, x_ite, x_idx, x_slc, x_call, x_blt, x_met, x_isi, x_nil, x_cons, x_c0, x_c1, x_p0, x_p1, y_nil, y_cons, y_set, y_rtn, y_ite, y_exp, decide_true, w_ok, q_nxt, q_rtn, b_rtn, t_bl, r_ret, a_nm, c_lt, c_le, c_gt, c_ge, c_eqi, c_eqs, c_nes, c_eq0, c_ne0, c_in2, z0, z1, z2, z3, z4, z5, z6, z7, z8, c_les, b_list, l_lay, b_lent, i_tup, bind_ok, List.getElem?_cons_zero, List.getElem?_cons_succ, List.map_cons, List.map_nil, List.replicate, Nat.sub_zero, Nat.reduceSub, List.cons_append, List.nil_append, List.append_nil, List.mapM_cons, List.mapM_nil, Option.pure_def, Option.bind_eq_bind, Option.bind_some, List.any_cons, List.any_nil, id, Bool.or_false, Bool.not_true, Bool.not_false, if_true, if_false, Bool.false_eq_true, reduceIte, List.set_cons_zero, List.set_cons_succ]
            · simp only [x_cst, x_var, x_tup, x_lst, x_bin, x_neg, x_not, x_cmp, x_cmp2, x_and1, x_and, x_or1, x_or, x_ite, x_idx, x_slc, x_call, x_blt, x_met, x_isi, x_nil, x_cons, x_c0, x_c1, x_p0, x_p1, y_nil, y_cons, y_set, y_rtn, y_ite, y_exp, decide_true, w_ok, q_nxt, q_rtn, b_rtn, t_bl, r_ret, a_nm, c_lt, c_le, c_gt, c_ge, c_eqi, c_eqs, c_nes, c_eq0, c_ne0, c_in2, z0, z1, z2, z3, z4, z5, z6, z7, z8, c_les, b_list, l_lay, b_lent, i_tup, bind_ok, List.getElem?_cons_zero, List.getElem?_cons_succ, List.map_cons, List.map_nil, List.replicate, Nat.sub_zero, Nat.reduceSub, List.cons_append, List.nil_append, List.append_nil, List.mapM_cons, List.mapM_nil, Option.pure_def, Option.bind_eq_bind, Option.bind_some, List.any_cons, List.any_nil, id, Bool.or_false, Bool.not_true, Bool.not_false, if_true, if_false, Bool.false_eq_true, reduceIte, List.set_cons_zero, List.set_cons_succ])
        refine ⟨t ++ (t2 ++ [SO.lst ((xs.filter fun w => !oneB w).map fun w => w)] ++ [SO.lst []]), ?_⟩
        simp only [↓e2, empty_made, x_cst, x_var, x_tup, x_lst, x_bin, x_neg, x_not, x_cmp, x_cmp2, x_and1, x_and, x_or1, x_or, x_ite, x_idx, x_slc, x_call, x_blt, x_met, x_isi, x_nil, x_cons, x_c0, x_c1, x_p0, x_p1, y_nil, y_cons, y_set, y_rtn, y_ite, y_exp, decide_true, w_ok, q_nxt, q_rtn, b_rtn, t_bl, r_ret, a_nm, c_lt, c_le, c_gt, c_ge, c_eqi, c_eqs, c_nes, c_eq0, c_ne0, c_in2, z0, z1, z2, z3, z4, z5, z6, z7, z8, c_les, b_list, l_lay, b_lent, i_tup, bind_ok, List.getElem?_cons_zero, List.getElem?_cons_succ, List.map_cons, List.map_nil, List.replicate, Nat.sub_zero, Nat.reduceSub, List.cons_append, List.nil_append, List.append_nil, List.mapM_cons, List.mapM_nil, Option.pure_def, Option.bind_eq_bind, Option.bind_some, List.any_cons, List.any_nil, id, Bool.or_false, Bool.not_true, Bool.not_false, if_true, if_false, Bool.false_eq_true, reduceIte, List.set_cons_zero, List.set_cons_succ]
        have e3 : (xs.all fun w => !!oneB w) = xs.all oneB := by congr 1; funext w; simp
        simp only [e3, threadB, en, Bool.true_and, x_cst, x_var, x_tup, x_lst, x_bin, x_neg, x_not, x_cmp, x_cmp2, x_and1, x_and, x_or1, x_or, x_ite, x_idx, x_slc, x_call, x_blt, x_met, x_isi, x_nil, x_cons, x_c0, x_c1, x_p0, x_p1, y_nil, y_cons, y_set, y_rtn, y_ite, y_exp, decide_true, w_ok, q_nxt, q_rtn, b_rtn, t_bl, r_ret, a_nm, c_lt, c_le, c_gt, c_ge, c_eqi, c_eqs, c_nes, c_eq0, c_ne0, c_in2, z0, z1, z2, z3, z4, z5, z6, z7, z8, c_les, b_list, l_lay, b_lent, i_tup, bind_ok, List.getElem?_cons_zero, List.getElem?_cons_succ, List.map_cons, List.map_nil, List.replicate, Nat.sub_zero, Nat.reduceSub, List.cons_append, List.nil_append, List.append_nil, List.mapM_cons, List.mapM_nil, Option.pure_def, Option.bind_eq_bind, Option.bind_some, List.any_cons, List.any_nil, id, Bool.or_false, Bool.not_true, Bool.not_false, if_true, if_false, Bool.false_eq_true, reduceIte, List.set_cons_zero, List.set_cons_succ]
        cases xs.all oneB <;> simp only [List.append_assoc, x_cst, x_var, x_tup, x_lst, x_bin, x_neg, x_not, x_cmp, x_cmp2, x_and1, x_and, x_or1, x_or, x_ite, x_idx, x_slc, x_call, x_blt, x_met, x_isi, x_nil, x_cons, x_c0, x_c1, x_p0, x_p1, y_nil, y_cons, y_set, y_rtn, y_ite, y_exp, decide_true, w_ok, q_nxt, q_rtn, b_rtn, t_bl, r_ret, a_nm, c_lt, c_le, c_gt, c_ge, c_eqi, c_eqs, c_nes, c_eq0, c_ne0, c_in2, z0, z1, z2, z3, z4, z5, z6, z7, z8, c_les, b_list, l_lay, b_lent, i_tup, bind_ok, List.getElem?_cons_zero, List.getElem?_cons_succ, List.map_cons, List.map_nil, List.replicate, Nat.sub_zero, Nat.reduceSub, List.cons_append, List.nil_append, List.append_nil, List.mapM_cons, List.mapM_nil, Option.pure_def, Option.bind_eq_bind, Option.bind_some, List.any_cons, List.any_nil, id, Bool.or_false, Bool.not_true, Bool.not_false, if_true, if_false, Bool.false_eq_true, reduceIte, List.set_cons_zero, List.set_cons_succ]
  all_goals exact ⟨[], by simp only [h.tTup, isB, x_cst, x_var, x_tup, x_lst, x_bin, x_neg, x_not, x_cmp, x_cmp2, x_and1, x_and, x_or1, x_or, x_ite, x_idx, x_slc, x_call, x_blt, x_met, x_isi, x_nil, x_cons, x_c0, x_c1, x_p0, x_p1, y_nil, y_cons, y_set, y_rtn, y_ite, y_exp, decide_true, w_ok, q_nxt, q_rtn, b_rtn, t_bl, r_ret, a_nm, c_lt, c_le, c_gt, c_ge, c_eqi, c_eqs, c_nes, c_eq0, c_ne0, c_in2, z0, z1, z2, z3, z4, z5, z6, z7, z8, c_les, b_list, l_lay, b_lent, i_tup, bind_ok, List.getElem?_cons_zero, List.getElem?_cons_succ, List.map_cons, List.map_nil, List.replicate, Nat.sub_zero, Nat.reduceSub, List.cons_append, List.nil_append, List.append_nil, List.mapM_cons, List.mapM_nil, Option.pure_def, Option.bind_eq_bind, Option.bind_some, List.any_cons, List.any_nil, id, Bool.or_false, Bool.not_true, Bool.not_false, if_true, if_false, Bool.false_eq_true, reduceIte, List.set_cons_zero, List.set_cons_succ]; rfl⟩
/-- three parts: a word ahead, or nothing that is one -/
theorem parts3 {n m : Nat} {s : Sto} {w : W} (h : GV s n m w) : (∃ x b c, w = .tup [.str x, b, c]) ∨ ∃ a b c, partsB 3 w = [a, b, c] ∧ (∀ t, Mi.isTy (s ++ t) a .str = some false) ∧ lineB w = false ∧ lockerB w = false ∧ keyB w = false := by
  have no : ∀ {w}, partsB 3 w = [.non, .non, .non] → lineB w = false → lockerB w = false → keyB w = false → ∃ a b c, partsB 3 w = [a, b, c] ∧ (∀ t, Mi.isTy (s ++ t) a .str = some false) ∧ lineB w = false ∧ lockerB w = false ∧ keyB w = false := fun e h1 h2 h3 => ⟨.non, .non, .non, e, fun _ => rfl, h1, h2, h3⟩
  cases w
  case tup ws =>
    match ws, h with
    | [a, b, c], h =>
      obtain ⟨_, _, _, ha⟩ := h.item (w := a) (by simp)
      cases a
      case str x => exact .inl ⟨x, b, c, rfl⟩
      all_goals exact .inr ⟨_, b, c, rfl, fun t => (ha.app t).tStr, rfl, rfl, rfl⟩
    | [], h => exact .inr (no rfl rfl rfl rfl)
    | [a], h => exact .inr (no rfl (by cases a <;> rfl) (by cases a <;> rfl) (by cases a <;> rfl))
    | [a, b], h => exact .inr (no rfl (by cases a <;> rfl) (by cases a <;> rfl) (by cases a <;> rfl))
    | a :: b :: c :: d :: r, h => exact .inr (no (by simp [partsB]) (by cases a <;> rfl) (by cases a <;> rfl) (by cases a <;> rfl))
  all_goals exact .inr (no rfl rfl rfl rfl)
theorem parts2 {n m : Nat} {s : Sto} {w : W} (h : GV s n m w) : (∃ x b, w = .tup [.str x, b]) ∨ ∃ a b, partsB 2 w = [a, b] ∧ (∀ t, Mi.isTy (s ++ t) a .str = some false) ∧ pt2B w = false := by
  have no : ∀ {w}, partsB 2 w = [.non, .non] → pt2B w = false → ∃ a b, partsB 2 w = [a, b] ∧ (∀ t, Mi.isTy (s ++ t) a .str = some false) ∧ pt2B w = false := fun e h1 => ⟨.non, .non, e, fun _ => rfl, h1⟩
  cases w
  case tup ws =>
    match ws, h with
    | [a, b], h =>
      obtain ⟨_, _, _, ha⟩ := h.item (w := a) (by simp)
      cases a
      case str x => exact .inl ⟨x, b, rfl⟩
      all_goals exact .inr ⟨_, b, rfl, fun t => (ha.app t).tStr, rfl⟩
    | [], h => exact .inr (no rfl rfl)
    | [a], h => exact .inr (no rfl (by cases a <;> rfl))
    | a :: b :: c :: r, h => exact .inr (no (by simp [partsB]) (by cases a <;> rfl))
  all_goals exact .inr (no rfl rfl)
/-- the recursion's promise -/
def SortAt (k n : Nat) : Prop := ∀ s m w, GV s n m w → ∃ t, ph (k + n + 8) 23 [w] s = .ok (.str (sortOf w)) (s ++ t)
theorem sort3 {k n m : Nat} {s : Sto} {w a b c : W} (h : GV s (n + 1) m w) (ih : SortAt k n) (hp : partsB 3 w = [a, b, c]) (ht : threadB w = false) :
    ∃ t, exec (ph (k + n + 8)) 0 ψ0 (b23[2]) [some w, some a, some b, some c, none, none] s = (if lineB w || lockerB w then .ok (.rtn (.str (sortOf w))) [some w, some a, some b, some c, none, none] (s ++ t) else .ok .nxt [some w, some a, some b, some c, none, none] (s ++ t)) := by
  simp only [b23, List.getElem_cons_succ, List.getElem_cons_zero]
  rcases parts3 h with ⟨x, b', c', rfl⟩ | ⟨a', b', c', e, hs, h1, h2, h3⟩
  · have e : [W.str x, b', c'] = [a, b, c] := hp
    simp only [List.cons.injEq, and_true] at e
    obtain ⟨rfl, rfl, rfl⟩ := e
    obtain ⟨_, _, e1, hb⟩ := h.item (w := b') (by simp)
    obtain ⟨_, _, e2, hc⟩ := h.item (w := c') (by simp)
    cases e1; cases e2
    simp only [Mi.isTy, x_cst, x_var, x_tup, x_lst, x_bin, x_neg, x_not, x_cmp, x_cmp2, x_and1, x_and, x_or1, x_or, x_ite, x_idx, x_slc, x_call, x_blt, x_met, x_isi, x_nil, x_cons, x_c0, x_c1, x_p0, x_p1, y_nil, y_cons, y_set, y_rtn, y_ite, y_exp, decide_true, w_ok, q_nxt, q_rtn, b_rtn, t_bl, r_ret, a_nm, c_lt, c_le, c_gt, c_ge, c_eqi, c_eqs, c_nes, c_eq0, c_ne0, c_in2, z0, z1, z2, z3, z4, z5, z6, z7, z8, c_les, b_list, l_lay, b_lent, i_tup, bind_ok, List.getElem?_cons_zero, List.getElem?_cons_succ, List.map_cons, List.map_nil, List.replicate, Nat.sub_zero, Nat.reduceSub, List.cons_append, List.nil_append, List.append_nil, List.mapM_cons, List.mapM_nil, Option.pure_def, Option.bind_eq_bind, Option.bind_some, List.any_cons, List.any_nil, id, Bool.or_false, Bool.not_true, Bool.not_false, if_true, if_false, Bool.false_eq_true, reduceIte, List.set_cons_zero, List.set_cons_succ]
    cases ex : (decide (x = "line") || decide (x = "locker")) with
    | false =>
      refine ⟨[], ?_⟩
      simp only [Bool.or_eq_false_iff, decide_eq_false_iff_not] at ex
      have e1 : lineB (.tup [.str x, b', c']) = false := by simp [madeB, ex.1]
      have e2 : lockerB (.tup [.str x, b', c']) = false := by simp [madeB, ex.2]
      simp only [e1, e2, beq_self_eq_true, x_cst, x_var, x_tup, x_lst, x_bin, x_neg, x_not, x_cmp, x_cmp2, x_and1, x_and, x_or1, x_or, x_ite, x_idx, x_slc, x_call, x_blt, x_met, x_isi, x_nil, x_cons, x_c0, x_c1, x_p0, x_p1, y_nil, y_cons, y_set, y_rtn, y_ite, y_exp, decide_true, w_ok, q_nxt, q_rtn, b_rtn, t_bl, r_ret, a_nm, c_lt, c_le, c_gt, c_ge, c_eqi, c_eqs, c_nes, c_eq0, c_ne0, c_in2, z0, z1, z2, z3, z4, z5, z6, z7, z8, c_les, b_list, l_lay, b_lent, i_tup, bind_ok, List.getElem?_cons_zero, List.getElem?_cons_succ, List.map_cons, List.map_nil, List.replicate, Nat.sub_zero, Nat.reduceSub, List.cons_append, List.nil_append, List.append_nil, List.mapM_cons, List.mapM_nil, Option.pure_def, Option.bind_eq_bind, Option.bind_some, List.any_cons, List.any_nil, id, Bool.or_false, Bool.not_true, Bool.not_false, if_true, if_false, Bool.false_eq_true, reduceIte, List.set_cons_zero, List.set_cons_succ]
    | true =>
      obtain ⟨t, e3⟩ := ih s _ b' hb
      have hw : (lineB (.tup [.str x, b', c']) || lockerB (.tup [.str x, b', c'])) = (threadB b' && oneB c') := by
        simp only [Bool.or_eq_true, decide_eq_true_eq] at ex
        rcases ex with rfl | rfl
        · simp [madeB, ns7]
        · simp [madeB, ns12]
      have hv : (threadB b' && oneB c') = true → sortOf (.tup [.str x, b', c']) = x := by
        intro hh
        simp only [Bool.or_eq_true, decide_eq_true_eq] at ex
        rcases ex with rfl | rfl
        · exact of_decide_eq_true (by rw [sort_line]; simp only [madeB, decide_true, Bool.true_and]; exact hh)
        · exact of_decide_eq_true (by rw [sort_locker]; simp only [madeB, decide_true, Bool.true_and]; exact hh)
      simp only [e3, sort_thread, beq_self_eq_true, x_cst, x_var, x_tup, x_lst, x_bin, x_neg, x_not, x_cmp, x_cmp2, x_and1, x_and, x_or1, x_or, x_ite, x_idx, x_slc, x_call, x_blt, x_met, x_isi, x_nil, x_cons, x_c0, x_c1, x_p0, x_p1, y_nil, y_cons, y_set, y_rtn, y_ite, y_exp, decide_true, w_ok, q_nxt, q_rtn, b_rtn, t_bl, r_ret, a_nm, c_lt, c_le, c_gt, c_ge, c_eqi, c_eqs, c_nes, c_eq0, c_ne0, c_in2, z0, z1, z2, z3, z4, z5, z6, z7, z8, c_les, b_list, l_lay, b_lent, i_tup, bind_ok, List.getElem?_cons_zero, List.getElem?_cons_succ, List.map_cons, List.map_nil, List.replicate, Nat.sub_zero, Nat.reduceSub, List.cons_append, List.nil_append, List.append_nil, List.mapM_cons, List.mapM_nil, Option.pure_def, Option.bind_eq_bind, Option.bind_some, List.any_cons, List.any_nil, id, Bool.or_false, Bool.not_true, Bool.not_false, if_true, if_false, Bool.false_eq_true, reduceIte, List.set_cons_zero, List.set_cons_succ]
      rw [hw]
      cases et : threadB b' with
      | false => exact ⟨t, by simp only [Bool.false_and, x_cst, x_var, x_tup, x_lst, x_bin, x_neg, x_not, x_cmp, x_cmp2, x_and1, x_and, x_or1, x_or, x_ite, x_idx, x_slc, x_call, x_blt, x_met, x_isi, x_nil, x_cons, x_c0, x_c1, x_p0, x_p1, y_nil, y_cons, y_set, y_rtn, y_ite, y_exp, decide_true, w_ok, q_nxt, q_rtn, b_rtn, t_bl, r_ret, a_nm, c_lt, c_le, c_gt, c_ge, c_eqi, c_eqs, c_nes, c_eq0, c_ne0, c_in2, z0, z1, z2, z3, z4, z5, z6, z7, z8, c_les, b_list, l_lay, b_lent, i_tup, bind_ok, List.getElem?_cons_zero, List.getElem?_cons_succ, List.map_cons, List.map_nil, List.replicate, Nat.sub_zero, Nat.reduceSub, List.cons_append, List.nil_append, List.append_nil, List.mapM_cons, List.mapM_nil, Option.pure_def, Option.bind_eq_bind, Option.bind_some, List.any_cons, List.any_nil, id, Bool.or_false, Bool.not_true, Bool.not_false, if_true, if_false, Bool.false_eq_true, reduceIte, List.set_cons_zero, List.set_cons_succ]⟩
      | true =>
        simp only [law_num (k := k + n + 7) (hc.app t), Bool.true_and, x_cst, x_var, x_tup, x_lst, x_bin, x_neg, x_not, x_cmp, x_cmp2, x_and1, x_and, x_or1, x_or, x_ite, x_idx, x_slc, x_call, x_blt, x_met, x_isi, x_nil, x_cons, x_c0, x_c1, x_p0, x_p1, y_nil, y_cons, y_set, y_rtn, y_ite, y_exp, decide_true, w_ok, q_nxt, q_rtn, b_rtn, t_bl, r_ret, a_nm, c_lt, c_le, c_gt, c_ge, c_eqi, c_eqs, c_nes, c_eq0, c_ne0, c_in2, z0, z1, z2, z3, z4, z5, z6, z7, z8, c_les, b_list, l_lay, b_lent, i_tup, bind_ok, List.getElem?_cons_zero, List.getElem?_cons_succ, List.map_cons, List.map_nil, List.replicate, Nat.sub_zero, Nat.reduceSub, List.cons_append, List.nil_append, List.append_nil, List.mapM_cons, List.mapM_nil, Option.pure_def, Option.bind_eq_bind, Option.bind_some, List.any_cons, List.any_nil, id, Bool.or_false, Bool.not_true, Bool.not_false, if_true, if_false, Bool.false_eq_true, reduceIte, List.set_cons_zero, List.set_cons_succ]
        cases eo : oneB c' with
        | false => exact ⟨t, by simp only [x_cst, x_var, x_tup, x_lst, x_bin, x_neg, x_not, x_cmp, x_cmp2, x_and1, x_and, x_or1, x_or, x_ite, x_idx, x_slc, x_call, x_blt, x_met, x_isi, x_nil, x_cons, x_c0, x_c1, x_p0, x_p1, y_nil, y_cons, y_set, y_rtn, y_ite, y_exp, decide_true, w_ok, q_nxt, q_rtn, b_rtn, t_bl, r_ret, a_nm, c_lt, c_le, c_gt, c_ge, c_eqi, c_eqs, c_nes, c_eq0, c_ne0, c_in2, z0, z1, z2, z3, z4, z5, z6, z7, z8, c_les, b_list, l_lay, b_lent, i_tup, bind_ok, List.getElem?_cons_zero, List.getElem?_cons_succ, List.map_cons, List.map_nil, List.replicate, Nat.sub_zero, Nat.reduceSub, List.cons_append, List.nil_append, List.append_nil, List.mapM_cons, List.mapM_nil, Option.pure_def, Option.bind_eq_bind, Option.bind_some, List.any_cons, List.any_nil, id, Bool.or_false, Bool.not_true, Bool.not_false, if_true, if_false, Bool.false_eq_true, reduceIte, List.set_cons_zero, List.set_cons_succ]⟩
        | true => exact ⟨t, by simp only [hv (by rw [et, eo]; rfl), x_cst, x_var, x_tup, x_lst, x_bin, x_neg, x_not, x_cmp, x_cmp2, x_and1, x_and, x_or1, x_or, x_ite, x_idx, x_slc, x_call, x_blt, x_met, x_isi, x_nil, x_cons, x_c0, x_c1, x_p0, x_p1, y_nil, y_cons, y_set, y_rtn, y_ite, y_exp, decide_true, w_ok, q_nxt, q_rtn, b_rtn, t_bl, r_ret, a_nm, c_lt, c_le, c_gt, c_ge, c_eqi, c_eqs, c_nes, c_eq0, c_ne0, c_in2, z0, z1, z2, z3, z4, z5, z6, z7, z8, c_les, b_list, l_lay, b_lent, i_tup, bind_ok, List.getElem?_cons_zero, List.getElem?_cons_succ, List.map_cons, List.map_nil, List.replicate, Nat.sub_zero, Nat.reduceSub, List.cons_append, List.nil_append, List.append_nil, List.mapM_cons, List.mapM_nil, Option.pure_def, Option.bind_eq_bind, Option.bind_some, List.any_cons, List.any_nil, id, Bool.or_false, Bool.not_true, Bool.not_false, if_true, if_false, Bool.false_eq_true, reduceIte, List.set_cons_zero, List.set_cons_succ]⟩
  · rw [hp] at e
    simp only [List.cons.injEq, and_true] at e
    obtain ⟨rfl, rfl, rfl⟩ := e
    have hs := hs []
    rw [List.append_nil] at hs
    exact ⟨[], by simp only [hs, h1, h2, x_cst, x_var, x_tup, x_lst, x_bin, x_neg, x_not, x_cmp, x_cmp2, x_and1, x_and, x_or1, x_or, x_ite, x_idx, x_slc, x_call, x_blt, x_met, x_isi, x_nil, x_cons, x_c0, x_c1, x_p0, x_p1, y_nil, y_cons, y_set, y_rtn, y_ite, y_exp, decide_true, w_ok, q_nxt, q_rtn, b_rtn, t_bl, r_ret, a_nm, c_lt, c_le, c_gt, c_ge, c_eqi, c_eqs, c_nes, c_eq0, c_ne0, c_in2, z0, z1, z2, z3, z4, z5, z6, z7, z8, c_les, b_list, l_lay, b_lent, i_tup, bind_ok, List.getElem?_cons_zero, List.getElem?_cons_succ, List.map_cons, List.map_nil, List.replicate, Nat.sub_zero, Nat.reduceSub, List.cons_append, List.nil_append, List.append_nil, List.mapM_cons, List.mapM_nil, Option.pure_def, Option.bind_eq_bind, Option.bind_some, List.any_cons, List.any_nil, id, Bool.or_false, Bool.not_true, Bool.not_false, if_true, if_false, Bool.false_eq_true, reduceIte, List.set_cons_zero, List.set_cons_succ]⟩
theorem sort4 {k n m : Nat} {s : Sto} {w a b c : W} (h : GV s (n + 1) m w) (ih : SortAt k n) (hp : partsB 3 w = [a, b, c]) :
    ∃ t, exec (ph (k + n + 8)) 0 ψ0 (b23[3]) [some w, some a, some b, some c, none, none] s = (if keyB w then .ok (.rtn (.str "key")) [some w, some a, some b, some c, none, none] (s ++ t) else .ok .nxt [some w, some a, some b, some c, none, none] (s ++ t)) := by
  simp only [b23, List.getElem_cons_succ, List.getElem_cons_zero]
  rcases parts3 h with ⟨x, b', c', rfl⟩ | ⟨a', b', c', e, hs, h1, h2, h3⟩
  · have e : [W.str x, b', c'] = [a, b, c] := hp
    simp only [List.cons.injEq, and_true] at e
    obtain ⟨rfl, rfl, rfl⟩ := e
    obtain ⟨_, _, e1, hb⟩ := h.item (w := b') (by simp)
    obtain ⟨_, _, e2, hc⟩ := h.item (w := c') (by simp)
    cases e1; cases e2
    simp only [Mi.isTy, keyB, beq_self_eq_true, x_cst, x_var, x_tup, x_lst, x_bin, x_neg, x_not, x_cmp, x_cmp2, x_and1, x_and, x_or1, x_or, x_ite, x_idx, x_slc, x_call, x_blt, x_met, x_isi, x_nil, x_cons, x_c0, x_c1, x_p0, x_p1, y_nil, y_cons, y_set, y_rtn, y_ite, y_exp, decide_true, w_ok, q_nxt, q_rtn, b_rtn, t_bl, r_ret, a_nm, c_lt, c_le, c_gt, c_ge, c_eqi, c_eqs, c_nes, c_eq0, c_ne0, c_in2, z0, z1, z2, z3, z4, z5, z6, z7, z8, c_les, b_list, l_lay, b_lent, i_tup, bind_ok, List.getElem?_cons_zero, List.getElem?_cons_succ, List.map_cons, List.map_nil, List.replicate, Nat.sub_zero, Nat.reduceSub, List.cons_append, List.nil_append, List.append_nil, List.mapM_cons, List.mapM_nil, Option.pure_def, Option.bind_eq_bind, Option.bind_some, List.any_cons, List.any_nil, id, Bool.or_false, Bool.not_true, Bool.not_false, if_true, if_false, Bool.false_eq_true, reduceIte, List.set_cons_zero, List.set_cons_succ]
    by_cases hx : x = "key"
    case neg =>
      have ex : decide (x = "key") = false := decide_eq_false hx
      exact ⟨[], by simp only [ex, Bool.false_and, x_cst, x_var, x_tup, x_lst, x_bin, x_neg, x_not, x_cmp, x_cmp2, x_and1, x_and, x_or1, x_or, x_ite, x_idx, x_slc, x_call, x_blt, x_met, x_isi, x_nil, x_cons, x_c0, x_c1, x_p0, x_p1, y_nil, y_cons, y_set, y_rtn, y_ite, y_exp, decide_true, w_ok, q_nxt, q_rtn, b_rtn, t_bl, r_ret, a_nm, c_lt, c_le, c_gt, c_ge, c_eqi, c_eqs, c_nes, c_eq0, c_ne0, c_in2, z0, z1, z2, z3, z4, z5, z6, z7, z8, c_les, b_list, l_lay, b_lent, i_tup, bind_ok, List.getElem?_cons_zero, List.getElem?_cons_succ, List.map_cons, List.map_nil, List.replicate, Nat.sub_zero, Nat.reduceSub, List.cons_append, List.nil_append, List.append_nil, List.mapM_cons, List.mapM_nil, Option.pure_def, Option.bind_eq_bind, Option.bind_some, List.any_cons, List.any_nil, id, Bool.or_false, Bool.not_true, Bool.not_false, if_true, if_false, Bool.false_eq_true, reduceIte, List.set_cons_zero, List.set_cons_succ]⟩
    case pos =>
      have ex : decide (x = "key") = true := decide_eq_true hx
      simp only [ex, x_cst, x_var, x_tup, x_lst, x_bin, x_neg, x_not, x_cmp, x_cmp2, x_and1, x_and, x_or1, x_or, x_ite, x_idx, x_slc, x_call, x_blt, x_met, x_isi, x_nil, x_cons, x_c0, x_c1, x_p0, x_p1, y_nil, y_cons, y_set, y_rtn, y_ite, y_exp, decide_true, w_ok, q_nxt, q_rtn, b_rtn, t_bl, r_ret, a_nm, c_lt, c_le, c_gt, c_ge, c_eqi, c_eqs, c_nes, c_eq0, c_ne0, c_in2, z0, z1, z2, z3, z4, z5, z6, z7, z8, c_les, b_list, l_lay, b_lent, i_tup, bind_ok, List.getElem?_cons_zero, List.getElem?_cons_succ, List.map_cons, List.map_nil, List.replicate, Nat.sub_zero, Nat.reduceSub, List.cons_append, List.nil_append, List.append_nil, List.mapM_cons, List.mapM_nil, Option.pure_def, Option.bind_eq_bind, Option.bind_some, List.any_cons, List.any_nil, id, Bool.or_false, Bool.not_true, Bool.not_false, if_true, if_false, Bool.false_eq_true, reduceIte, List.set_cons_zero, List.set_cons_succ]
      obtain ⟨t, e3⟩ := ih s _ b' hb
      simp only [e3, sort_locker, x_cst, x_var, x_tup, x_lst, x_bin, x_neg, x_not, x_cmp, x_cmp2, x_and1, x_and, x_or1, x_or, x_ite, x_idx, x_slc, x_call, x_blt, x_met, x_isi, x_nil, x_cons, x_c0, x_c1, x_p0, x_p1, y_nil, y_cons, y_set, y_rtn, y_ite, y_exp, decide_true, w_ok, q_nxt, q_rtn, b_rtn, t_bl, r_ret, a_nm, c_lt, c_le, c_gt, c_ge, c_eqi, c_eqs, c_nes, c_eq0, c_ne0, c_in2, z0, z1, z2, z3, z4, z5, z6, z7, z8, c_les, b_list, l_lay, b_lent, i_tup, bind_ok, List.getElem?_cons_zero, List.getElem?_cons_succ, List.map_cons, List.map_nil, List.replicate, Nat.sub_zero, Nat.reduceSub, List.cons_append, List.nil_append, List.append_nil, List.mapM_cons, List.mapM_nil, Option.pure_def, Option.bind_eq_bind, Option.bind_some, List.any_cons, List.any_nil, id, Bool.or_false, Bool.not_true, Bool.not_false, if_true, if_false, Bool.false_eq_true, reduceIte, List.set_cons_zero, List.set_cons_succ]
      cases et : lockerB b' with
      | false => exact ⟨t, by simp only [Bool.false_and, Bool.and_false, x_cst, x_var, x_tup, x_lst, x_bin, x_neg, x_not, x_cmp, x_cmp2, x_and1, x_and, x_or1, x_or, x_ite, x_idx, x_slc, x_call, x_blt, x_met, x_isi, x_nil, x_cons, x_c0, x_c1, x_p0, x_p1, y_nil, y_cons, y_set, y_rtn, y_ite, y_exp, decide_true, w_ok, q_nxt, q_rtn, b_rtn, t_bl, r_ret, a_nm, c_lt, c_le, c_gt, c_ge, c_eqi, c_eqs, c_nes, c_eq0, c_ne0, c_in2, z0, z1, z2, z3, z4, z5, z6, z7, z8, c_les, b_list, l_lay, b_lent, i_tup, bind_ok, List.getElem?_cons_zero, List.getElem?_cons_succ, List.map_cons, List.map_nil, List.replicate, Nat.sub_zero, Nat.reduceSub, List.cons_append, List.nil_append, List.append_nil, List.mapM_cons, List.mapM_nil, Option.pure_def, Option.bind_eq_bind, Option.bind_some, List.any_cons, List.any_nil, id, Bool.or_false, Bool.not_true, Bool.not_false, if_true, if_false, Bool.false_eq_true, reduceIte, List.set_cons_zero, List.set_cons_succ]⟩
      | true =>
        obtain ⟨t2, e4⟩ := ih (s ++ t) _ c' (hc.app t)
        simp only [e4, sort_locker, sort_point, ← point_eq, Bool.true_and, x_cst, x_var, x_tup, x_lst, x_bin, x_neg, x_not, x_cmp, x_cmp2, x_and1, x_and, x_or1, x_or, x_ite, x_idx, x_slc, x_call, x_blt, x_met, x_isi, x_nil, x_cons, x_c0, x_c1, x_p0, x_p1, y_nil, y_cons, y_set, y_rtn, y_ite, y_exp, decide_true, w_ok, q_nxt, q_rtn, b_rtn, t_bl, r_ret, a_nm, c_lt, c_le, c_gt, c_ge, c_eqi, c_eqs, c_nes, c_eq0, c_ne0, c_in2, z0, z1, z2, z3, z4, z5, z6, z7, z8, c_les, b_list, l_lay, b_lent, i_tup, bind_ok, List.getElem?_cons_zero, List.getElem?_cons_succ, List.map_cons, List.map_nil, List.replicate, Nat.sub_zero, Nat.reduceSub, List.cons_append, List.nil_append, List.append_nil, List.mapM_cons, List.mapM_nil, Option.pure_def, Option.bind_eq_bind, Option.bind_some, List.any_cons, List.any_nil, id, Bool.or_false, Bool.not_true, Bool.not_false, if_true, if_false, Bool.false_eq_true, reduceIte, List.set_cons_zero, List.set_cons_succ]
        refine ⟨t ++ t2, ?_⟩
        rw [← List.append_assoc]
        cases pointB c' <;> simp only [x_cst, x_var, x_tup, x_lst, x_bin, x_neg, x_not, x_cmp, x_cmp2, x_and1, x_and, x_or1, x_or, x_ite, x_idx, x_slc, x_call, x_blt, x_met, x_isi, x_nil, x_cons, x_c0, x_c1, x_p0, x_p1, y_nil, y_cons, y_set, y_rtn, y_ite, y_exp, decide_true, w_ok, q_nxt, q_rtn, b_rtn, t_bl, r_ret, a_nm, c_lt, c_le, c_gt, c_ge, c_eqi, c_eqs, c_nes, c_eq0, c_ne0, c_in2, z0, z1, z2, z3, z4, z5, z6, z7, z8, c_les, b_list, l_lay, b_lent, i_tup, bind_ok, List.getElem?_cons_zero, List.getElem?_cons_succ, List.map_cons, List.map_nil, List.replicate, Nat.sub_zero, Nat.reduceSub, List.cons_append, List.nil_append, List.append_nil, List.mapM_cons, List.mapM_nil, Option.pure_def, Option.bind_eq_bind, Option.bind_some, List.any_cons, List.any_nil, id, Bool.or_false, Bool.not_true, Bool.not_false, if_true, if_false, Bool.false_eq_true, reduceIte, List.set_cons_zero, List.set_cons_succ]
  · rw [hp] at e
    simp only [List.cons.injEq, and_true] at e
    obtain ⟨rfl, rfl, rfl⟩ := e
    have hs := hs []
    rw [List.append_nil] at hs
    exact ⟨[], by simp only [hs, h3, x_cst, x_var, x_tup, x_lst, x_bin, x_neg, x_not, x_cmp, x_cmp2, x_and1, x_and, x_or1, x_or, x_ite, x_idx, x_slc, x_call, x_blt, x_met, x_isi, x_nil, x_cons, x_c0, x_c1, x_p0, x_p1, y_nil, y_cons, y_set, y_rtn, y_ite, y_exp, decide_true, w_ok, q_nxt, q_rtn, b_rtn, t_bl, r_ret, a_nm, c_lt, c_le, c_gt, c_ge, c_eqi, c_eqs, c_nes, c_eq0, c_ne0, c_in2, z0, z1, z2, z3, z4, z5, z6, z7, z8, c_les, b_list, l_lay, b_lent, i_tup, bind_ok, List.getElem?_cons_zero, List.getElem?_cons_succ, List.map_cons, List.map_nil, List.replicate, Nat.sub_zero, Nat.reduceSub, List.cons_append, List.nil_append, List.append_nil, List.mapM_cons, List.mapM_nil, Option.pure_def, Option.bind_eq_bind, Option.bind_some, List.any_cons, List.any_nil, id, Bool.or_false, Bool.not_true, Bool.not_false, if_true, if_false, Bool.false_eq_true, reduceIte, List.set_cons_zero, List.set_cons_succ]⟩
theorem sort6 {k n m : Nat} {s : Sto} {w a b c d : W} (h : GV s (n + 1) m w) (ih : SortAt k n) (hp : partsB 2 w = [a, b]) :
    ∃ t, exec (ph (k + n + 8)) 0 ψ0 (b23[5]) [some w, some a, some c, some d, some b, none] s = (if pt2B w then .ok (.rtn (.str "point")) [some w, some a, some c, some d, some b, none] (s ++ t) else .ok .nxt [some w, some a, some c, some d, some b, none] (s ++ t)) := by
  simp only [b23, List.getElem_cons_succ, List.getElem_cons_zero]
  rcases parts2 h with ⟨x, b', rfl⟩ | ⟨a', b', e, hs, h1⟩
  · have e : [W.str x, b'] = [a, b] := hp
    simp only [List.cons.injEq, and_true] at e
    obtain ⟨rfl, rfl⟩ := e
    obtain ⟨_, _, e1, hb⟩ := h.item (w := b') (by simp)
    cases e1
    simp only [Mi.isTy, pt2B, beq_self_eq_true, x_cst, x_var, x_tup, x_lst, x_bin, x_neg, x_not, x_cmp, x_cmp2, x_and1, x_and, x_or1, x_or, x_ite, x_idx, x_slc, x_call, x_blt, x_met, x_isi, x_nil, x_cons, x_c0, x_c1, x_p0, x_p1, y_nil, y_cons, y_set, y_rtn, y_ite, y_exp, decide_true, w_ok, q_nxt, q_rtn, b_rtn, t_bl, r_ret, a_nm, c_lt, c_le, c_gt, c_ge, c_eqi, c_eqs, c_nes, c_eq0, c_ne0, c_in2, z0, z1, z2, z3, z4, z5, z6, z7, z8, c_les, b_list, l_lay, b_lent, i_tup, bind_ok, List.getElem?_cons_zero, List.getElem?_cons_succ, List.map_cons, List.map_nil, List.replicate, Nat.sub_zero, Nat.reduceSub, List.cons_append, List.nil_append, List.append_nil, List.mapM_cons, List.mapM_nil, Option.pure_def, Option.bind_eq_bind, Option.bind_some, List.any_cons, List.any_nil, id, Bool.or_false, Bool.not_true, Bool.not_false, if_true, if_false, Bool.false_eq_true, reduceIte, List.set_cons_zero, List.set_cons_succ]
    by_cases hx : x = "thread"
    case neg =>
      have ex : decide (x = "thread") = false := decide_eq_false hx
      exact ⟨[], by simp only [ex, Bool.false_and, x_cst, x_var, x_tup, x_lst, x_bin, x_neg, x_not, x_cmp, x_cmp2, x_and1, x_and, x_or1, x_or, x_ite, x_idx, x_slc, x_call, x_blt, x_met, x_isi, x_nil, x_cons, x_c0, x_c1, x_p0, x_p1, y_nil, y_cons, y_set, y_rtn, y_ite, y_exp, decide_true, w_ok, q_nxt, q_rtn, b_rtn, t_bl, r_ret, a_nm, c_lt, c_le, c_gt, c_ge, c_eqi, c_eqs, c_nes, c_eq0, c_ne0, c_in2, z0, z1, z2, z3, z4, z5, z6, z7, z8, c_les, b_list, l_lay, b_lent, i_tup, bind_ok, List.getElem?_cons_zero, List.getElem?_cons_succ, List.map_cons, List.map_nil, List.replicate, Nat.sub_zero, Nat.reduceSub, List.cons_append, List.nil_append, List.append_nil, List.mapM_cons, List.mapM_nil, Option.pure_def, Option.bind_eq_bind, Option.bind_some, List.any_cons, List.any_nil, id, Bool.or_false, Bool.not_true, Bool.not_false, if_true, if_false, Bool.false_eq_true, reduceIte, List.set_cons_zero, List.set_cons_succ]⟩
    case pos =>
      have ex : decide (x = "thread") = true := decide_eq_true hx
      simp only [ex, x_cst, x_var, x_tup, x_lst, x_bin, x_neg, x_not, x_cmp, x_cmp2, x_and1, x_and, x_or1, x_or, x_ite, x_idx, x_slc, x_call, x_blt, x_met, x_isi, x_nil, x_cons, x_c0, x_c1, x_p0, x_p1, y_nil, y_cons, y_set, y_rtn, y_ite, y_exp, decide_true, w_ok, q_nxt, q_rtn, b_rtn, t_bl, r_ret, a_nm, c_lt, c_le, c_gt, c_ge, c_eqi, c_eqs, c_nes, c_eq0, c_ne0, c_in2, z0, z1, z2, z3, z4, z5, z6, z7, z8, c_les, b_list, l_lay, b_lent, i_tup, bind_ok, List.getElem?_cons_zero, List.getElem?_cons_succ, List.map_cons, List.map_nil, List.replicate, Nat.sub_zero, Nat.reduceSub, List.cons_append, List.nil_append, List.append_nil, List.mapM_cons, List.mapM_nil, Option.pure_def, Option.bind_eq_bind, Option.bind_some, List.any_cons, List.any_nil, id, Bool.or_false, Bool.not_true, Bool.not_false, if_true, if_false, Bool.false_eq_true, reduceIte, List.set_cons_zero, List.set_cons_succ]
      obtain ⟨t, e3⟩ := ih s _ b' hb
      simp only [e3, sort_thread, Bool.true_and, x_cst, x_var, x_tup, x_lst, x_bin, x_neg, x_not, x_cmp, x_cmp2, x_and1, x_and, x_or1, x_or, x_ite, x_idx, x_slc, x_call, x_blt, x_met, x_isi, x_nil, x_cons, x_c0, x_c1, x_p0, x_p1, y_nil, y_cons, y_set, y_rtn, y_ite, y_exp, decide_true, w_ok, q_nxt, q_rtn, b_rtn, t_bl, r_ret, a_nm, c_lt, c_le, c_gt, c_ge, c_eqi, c_eqs, c_nes, c_eq0, c_ne0, c_in2, z0, z1, z2, z3, z4, z5, z6, z7, z8, c_les, b_list, l_lay, b_lent, i_tup, bind_ok, List.getElem?_cons_zero, List.getElem?_cons_succ, List.map_cons, List.map_nil, List.replicate, Nat.sub_zero, Nat.reduceSub, List.cons_append, List.nil_append, List.append_nil, List.mapM_cons, List.mapM_nil, Option.pure_def, Option.bind_eq_bind, Option.bind_some, List.any_cons, List.any_nil, id, Bool.or_false, Bool.not_true, Bool.not_false, if_true, if_false, Bool.false_eq_true, reduceIte, List.set_cons_zero, List.set_cons_succ]
      refine ⟨t, ?_⟩
      cases threadB b' <;> simp only [x_cst, x_var, x_tup, x_lst, x_bin, x_neg, x_not, x_cmp, x_cmp2, x_and1, x_and, x_or1, x_or, x_ite, x_idx, x_slc, x_call, x_blt, x_met, x_isi, x_nil, x_cons, x_c0, x_c1, x_p0, x_p1, y_nil, y_cons, y_set, y_rtn, y_ite, y_exp, decide_true, w_ok, q_nxt, q_rtn, b_rtn, t_bl, r_ret, a_nm, c_lt, c_le, c_gt, c_ge, c_eqi, c_eqs, c_nes, c_eq0, c_ne0, c_in2, z0, z1, z2, z3, z4, z5, z6, z7, z8, c_les, b_list, l_lay, b_lent, i_tup, bind_ok, List.getElem?_cons_zero, List.getElem?_cons_succ, List.map_cons, List.map_nil, List.replicate, Nat.sub_zero, Nat.reduceSub, List.cons_append, List.nil_append, List.append_nil, List.mapM_cons, List.mapM_nil, Option.pure_def, Option.bind_eq_bind, Option.bind_some, List.any_cons, List.any_nil, id, Bool.or_false, Bool.not_true, Bool.not_false, if_true, if_false, Bool.false_eq_true, reduceIte, List.set_cons_zero, List.set_cons_succ]
  · rw [hp] at e
    simp only [List.cons.injEq, and_true] at e
    obtain ⟨rfl, rfl⟩ := e
    have hs := hs []
    rw [List.append_nil] at hs
    exact ⟨[], by simp only [hs, h1, x_cst, x_var, x_tup, x_lst, x_bin, x_neg, x_not, x_cmp, x_cmp2, x_and1, x_and, x_or1, x_or, x_ite, x_idx, x_slc, x_call, x_blt, x_met, x_isi, x_nil, x_cons, x_c0, x_c1, x_p0, x_p1, y_nil, y_cons, y_set, y_rtn, y_ite, y_exp, decide_true, w_ok, q_nxt, q_rtn, b_rtn, t_bl, r_ret, a_nm, c_lt, c_le, c_gt, c_ge, c_eqi, c_eqs, c_nes, c_eq0, c_ne0, c_in2, z0, z1, z2, z3, z4, z5, z6, z7, z8, c_les, b_list, l_lay, b_lent, i_tup, bind_ok, List.getElem?_cons_zero, List.getElem?_cons_succ, List.map_cons, List.map_nil, List.replicate, Nat.sub_zero, Nat.reduceSub, List.cons_append, List.nil_append, List.append_nil, List.mapM_cons, List.mapM_nil, Option.pure_def, Option.bind_eq_bind, Option.bind_some, List.any_cons, List.any_nil, id, Bool.or_false, Bool.not_true, Bool.not_false, if_true, if_false, Bool.false_eq_true, reduceIte, List.set_cons_zero, List.set_cons_succ]⟩
theorem parts3_len (w : W) : ∃ a b c, partsB 3 w = [a, b, c] := by
  have : (partsB 3 w).length = 3 := by
    unfold partsB
    split
    · split <;> simp [*]
    · simp
  match h : partsB 3 w, this with
  | [a, b, c], _ => exact ⟨a, b, c, rfl⟩
theorem parts2_len (w : W) : ∃ a b, partsB 2 w = [a, b] := by
  have : (partsB 2 w).length = 2 := by
    unfold partsB
    split
    · split <;> simp [*]
    · simp
  match h : partsB 2 w, this with
  | [a, b], _ => exact ⟨a, b, rfl⟩
theorem b23_eq : b23 = [b23[0], b23[1], b23[2], b23[3], b23[4], b23[5], b23[6]] := rfl
theorem sort2 {k n m : Nat} {s : Sto} {w a b c : W} (h : GV s n m w) (hp : partsB 3 w = [a, b, c]) : ∃ t, exec (ph (k + 1)) 0 ψ0 (b23[1]) (r1 w) s = .ok .nxt [some w, some a, some b, some c, none, none] (s ++ t) := by
  simp only [b23, List.getElem_cons_succ, List.getElem_cons_zero]
  obtain ⟨t, l, e, el⟩ := law_parts (k := k) h 3 (by decide)
  have e : ph (k + 1) 22 [w, .int 3] s = .ok (.loc l) (s ++ t) := e
  rw [hp] at el
  exact ⟨t, by simp only [e, a_tp3 _ _ _ _ _ _ _ _ _ _ el, x_cst, x_var, x_tup, x_lst, x_bin, x_neg, x_not, x_cmp, x_cmp2, x_and1, x_and, x_or1, x_or, x_ite, x_idx, x_slc, x_call, x_blt, x_met, x_isi, x_nil, x_cons, x_c0, x_c1, x_p0, x_p1, y_nil, y_cons, y_set, y_rtn, y_ite, y_exp, decide_true, w_ok, q_nxt, q_rtn, b_rtn, t_bl, r_ret, a_nm, c_lt, c_le, c_gt, c_ge, c_eqi, c_eqs, c_nes, c_eq0, c_ne0, c_in2, z0, z1, z2, z3, z4, z5, z6, z7, z8, c_les, b_list, l_lay, b_lent, i_tup, bind_ok, List.getElem?_cons_zero, List.getElem?_cons_succ, List.map_cons, List.map_nil, List.replicate, Nat.sub_zero, Nat.reduceSub, List.cons_append, List.nil_append, List.append_nil, List.mapM_cons, List.mapM_nil, Option.pure_def, Option.bind_eq_bind, Option.bind_some, List.any_cons, List.any_nil, id, Bool.or_false, Bool.not_true, Bool.not_false, if_true, if_false, Bool.false_eq_true, reduceIte, List.set_cons_zero, List.set_cons_succ]⟩
theorem sort5 {k n m : Nat} {s : Sto} {w a b c a' b' : W} (h : GV s n m w) (hp : partsB 2 w = [a', b']) : ∃ t, exec (ph (k + 1)) 0 ψ0 (b23[4]) [some w, some a, some b, some c, none, none] s = .ok .nxt [some w, some a', some b, some c, some b', none] (s ++ t) := by
  simp only [b23, List.getElem_cons_succ, List.getElem_cons_zero]
  obtain ⟨t, l, e, el⟩ := law_parts (k := k) h 2 (by decide)
  have e : ph (k + 1) 22 [w, .int 2] s = .ok (.loc l) (s ++ t) := e
  rw [hp] at el
  exact ⟨t, by simp only [e, a_tp2 _ _ _ _ _ _ _ _ el, x_cst, x_var, x_tup, x_lst, x_bin, x_neg, x_not, x_cmp, x_cmp2, x_and1, x_and, x_or1, x_or, x_ite, x_idx, x_slc, x_call, x_blt, x_met, x_isi, x_nil, x_cons, x_c0, x_c1, x_p0, x_p1, y_nil, y_cons, y_set, y_rtn, y_ite, y_exp, decide_true, w_ok, q_nxt, q_rtn, b_rtn, t_bl, r_ret, a_nm, c_lt, c_le, c_gt, c_ge, c_eqi, c_eqs, c_nes, c_eq0, c_ne0, c_in2, z0, z1, z2, z3, z4, z5, z6, z7, z8, c_les, b_list, l_lay, b_lent, i_tup, bind_ok, List.getElem?_cons_zero, List.getElem?_cons_succ, List.map_cons, List.map_nil, List.replicate, Nat.sub_zero, Nat.reduceSub, List.cons_append, List.nil_append, List.append_nil, List.mapM_cons, List.mapM_nil, Option.pure_def, Option.bind_eq_bind, Option.bind_some, List.any_cons, List.any_nil, id, Bool.or_false, Bool.not_true, Bool.not_false, if_true, if_false, Bool.false_eq_true, reduceIte, List.set_cons_zero, List.set_cons_succ]⟩
theorem law_sort (k : Nat) : ∀ n, SortAt k n := by
  intro n
  induction n with
  | zero => exact fun s m w h => h.elim
  | succ n ih =>
    intro s m w h
    obtain ⟨a, b, c, h3⟩ := parts3_len w
    obtain ⟨a', b', h2⟩ := parts2_len w
    show ∃ t, ph (k + n + 8 + 1) 23 [w] s = _
    rw [call_eq (d := ⟨1, 6, b23⟩) rfl rfl]
    show ∃ t, bodyRes (execs (ph (k + n + 8)) 0 ψ0 b23 (r1 w) s) = _
    rw [b23_eq]
    obtain ⟨t1, e1⟩ := sort1 (k := k + n + 7) h
    simp only [y_cons, e1]
    cases ht : threadB w with
    | true => exact ⟨t1, by simp only [ht, sortOf, x_cst, x_var, x_tup, x_lst, x_bin, x_neg, x_not, x_cmp, x_cmp2, x_and1, x_and, x_or1, x_or, x_ite, x_idx, x_slc, x_call, x_blt, x_met, x_isi, x_nil, x_cons, x_c0, x_c1, x_p0, x_p1, y_nil, y_cons, y_set, y_rtn, y_ite, y_exp, decide_true, w_ok, q_nxt, q_rtn, b_rtn, t_bl, r_ret, a_nm, c_lt, c_le, c_gt, c_ge, c_eqi, c_eqs, c_nes, c_eq0, c_ne0, c_in2, z0, z1, z2, z3, z4, z5, z6, z7, z8, c_les, b_list, l_lay, b_lent, i_tup, bind_ok, List.getElem?_cons_zero, List.getElem?_cons_succ, List.map_cons, List.map_nil, List.replicate, Nat.sub_zero, Nat.reduceSub, List.cons_append, List.nil_append, List.append_nil, List.mapM_cons, List.mapM_nil, Option.pure_def, Option.bind_eq_bind, Option.bind_some, List.any_cons, List.any_nil, id, Bool.or_false, Bool.not_true, Bool.not_false, if_true, if_false, Bool.false_eq_true, reduceIte, List.set_cons_zero, List.set_cons_succ]⟩
    | false =>
      obtain ⟨t2, e2⟩ := sort2 (k := k + n + 7) (h.app t1) h3
      obtain ⟨t3, e3⟩ := sort3 ((h.app t1).app t2) ih h3 ht
      simp only [e2, e3, x_cst, x_var, x_tup, x_lst, x_bin, x_neg, x_not, x_cmp, x_cmp2, x_and1, x_and, x_or1, x_or, x_ite, x_idx, x_slc, x_call, x_blt, x_met, x_isi, x_nil, x_cons, x_c0, x_c1, x_p0, x_p1, y_nil, y_cons, y_set, y_rtn, y_ite, y_exp, decide_true, w_ok, q_nxt, q_rtn, b_rtn, t_bl, r_ret, a_nm, c_lt, c_le, c_gt, c_ge, c_eqi, c_eqs, c_nes, c_eq0, c_ne0, c_in2, z0, z1, z2, z3, z4, z5, z6, z7, z8, c_les, b_list, l_lay, b_lent, i_tup, bind_ok, List.getElem?_cons_zero, List.getElem?_cons_succ, List.map_cons, List.map_nil, List.replicate, Nat.sub_zero, Nat.reduceSub, List.cons_append, List.nil_append, List.append_nil, List.mapM_cons, List.mapM_nil, Option.pure_def, Option.bind_eq_bind, Option.bind_some, List.any_cons, List.any_nil, id, Bool.or_false, Bool.not_true, Bool.not_false, if_true, if_false, Bool.false_eq_true, reduceIte, List.set_cons_zero, List.set_cons_succ]
      cases h12 : (lineB w || lockerB w) with
      | true => exact ⟨t1 ++ t2 ++ t3, by simp only [x_cst, x_var, x_tup, x_lst, x_bin, x_neg, x_not, x_cmp, x_cmp2, x_and1, x_and, x_or1, x_or, x_ite, x_idx, x_slc, x_call, x_blt, x_met, x_isi, x_nil, x_cons, x_c0, x_c1, x_p0, x_p1, y_nil, y_cons, y_set, y_rtn, y_ite, y_exp, decide_true, w_ok, q_nxt, q_rtn, b_rtn, t_bl, r_ret, a_nm, c_lt, c_le, c_gt, c_ge, c_eqi, c_eqs, c_nes, c_eq0, c_ne0, c_in2, z0, z1, z2, z3, z4, z5, z6, z7, z8, c_les, b_list, l_lay, b_lent, i_tup, bind_ok, List.getElem?_cons_zero, List.getElem?_cons_succ, List.map_cons, List.map_nil, List.replicate, Nat.sub_zero, Nat.reduceSub, List.cons_append, List.nil_append, List.append_nil, List.mapM_cons, List.mapM_nil, Option.pure_def, Option.bind_eq_bind, Option.bind_some, List.any_cons, List.any_nil, id, Bool.or_false, Bool.not_true, Bool.not_false, if_true, if_false, Bool.false_eq_true, reduceIte, List.set_cons_zero, List.set_cons_succ]; simp only [List.append_assoc]⟩
      | false =>
        rw [Bool.or_eq_false_iff] at h12
        obtain ⟨t4, e4⟩ := sort4 (((h.app t1).app t2).app t3) ih h3
        simp only [e4, x_cst, x_var, x_tup, x_lst, x_bin, x_neg, x_not, x_cmp, x_cmp2, x_and1, x_and, x_or1, x_or, x_ite, x_idx, x_slc, x_call, x_blt, x_met, x_isi, x_nil, x_cons, x_c0, x_c1, x_p0, x_p1, y_nil, y_cons, y_set, y_rtn, y_ite, y_exp, decide_true, w_ok, q_nxt, q_rtn, b_rtn, t_bl, r_ret, a_nm, c_lt, c_le, c_gt, c_ge, c_eqi, c_eqs, c_nes, c_eq0, c_ne0, c_in2, z0, z1, z2, z3, z4, z5, z6, z7, z8, c_les, b_list, l_lay, b_lent, i_tup, bind_ok, List.getElem?_cons_zero, List.getElem?_cons_succ, List.map_cons, List.map_nil, List.replicate, Nat.sub_zero, Nat.reduceSub, List.cons_append, List.nil_append, List.append_nil, List.mapM_cons, List.mapM_nil, Option.pure_def, Option.bind_eq_bind, Option.bind_some, List.any_cons, List.any_nil, id, Bool.or_false, Bool.not_true, Bool.not_false, if_true, if_false, Bool.false_eq_true, reduceIte, List.set_cons_zero, List.set_cons_succ]
        cases hk : keyB w with
        | true => exact ⟨t1 ++ t2 ++ t3 ++ t4, by simp only [sortOf, ht, h12.1, h12.2, hk, x_cst, x_var, x_tup, x_lst, x_bin, x_neg, x_not, x_cmp, x_cmp2, x_and1, x_and, x_or1, x_or, x_ite, x_idx, x_slc, x_call, x_blt, x_met, x_isi, x_nil, x_cons, x_c0, x_c1, x_p0, x_p1, y_nil, y_cons, y_set, y_rtn, y_ite, y_exp, decide_true, w_ok, q_nxt, q_rtn, b_rtn, t_bl, r_ret, a_nm, c_lt, c_le, c_gt, c_ge, c_eqi, c_eqs, c_nes, c_eq0, c_ne0, c_in2, z0, z1, z2, z3, z4, z5, z6, z7, z8, c_les, b_list, l_lay, b_lent, i_tup, bind_ok, List.getElem?_cons_zero, List.getElem?_cons_succ, List.map_cons, List.map_nil, List.replicate, Nat.sub_zero, Nat.reduceSub, List.cons_append, List.nil_append, List.append_nil, List.mapM_cons, List.mapM_nil, Option.pure_def, Option.bind_eq_bind, Option.bind_some, List.any_cons, List.any_nil, id, Bool.or_false, Bool.not_true, Bool.not_false, if_true, if_false, Bool.false_eq_true, reduceIte, List.set_cons_zero, List.set_cons_succ]; simp only [List.append_assoc]⟩
        | false =>
          obtain ⟨t5, e5⟩ := sort5 (k := k + n + 7) (a := a) (b := b) (c := c) ((((h.app t1).app t2).app t3).app t4) h2
          obtain ⟨t6, e6⟩ := sort6 (c := b) (d := c) (((((h.app t1).app t2).app t3).app t4).app t5) ih h2
          simp only [e5, e6, x_cst, x_var, x_tup, x_lst, x_bin, x_neg, x_not, x_cmp, x_cmp2, x_and1, x_and, x_or1, x_or, x_ite, x_idx, x_slc, x_call, x_blt, x_met, x_isi, x_nil, x_cons, x_c0, x_c1, x_p0, x_p1, y_nil, y_cons, y_set, y_rtn, y_ite, y_exp, decide_true, w_ok, q_nxt, q_rtn, b_rtn, t_bl, r_ret, a_nm, c_lt, c_le, c_gt, c_ge, c_eqi, c_eqs, c_nes, c_eq0, c_ne0, c_in2, z0, z1, z2, z3, z4, z5, z6, z7, z8, c_les, b_list, l_lay, b_lent, i_tup, bind_ok, List.getElem?_cons_zero, List.getElem?_cons_succ, List.map_cons, List.map_nil, List.replicate, Nat.sub_zero, Nat.reduceSub, List.cons_append, List.nil_append, List.append_nil, List.mapM_cons, List.mapM_nil, Option.pure_def, Option.bind_eq_bind, Option.bind_some, List.any_cons, List.any_nil, id, Bool.or_false, Bool.not_true, Bool.not_false, if_true, if_false, Bool.false_eq_true, reduceIte, List.set_cons_zero, List.set_cons_succ]
          cases hq : pt2B w with
          | true => exact ⟨t1 ++ t2 ++ t3 ++ t4 ++ t5 ++ t6, by simp only [sortOf, ht, h12.1, h12.2, hk, hq, x_cst, x_var, x_tup, x_lst, x_bin, x_neg, x_not, x_cmp, x_cmp2, x_and1, x_and, x_or1, x_or, x_ite, x_idx, x_slc, x_call, x_blt, x_met, x_isi, x_nil, x_cons, x_c0, x_c1, x_p0, x_p1, y_nil, y_cons, y_set, y_rtn, y_ite, y_exp, decide_true, w_ok, q_nxt, q_rtn, b_rtn, t_bl, r_ret, a_nm, c_lt, c_le, c_gt, c_ge, c_eqi, c_eqs, c_nes, c_eq0, c_ne0, c_in2, z0, z1, z2, z3, z4, z5, z6, z7, z8, c_les, b_list, l_lay, b_lent, i_tup, bind_ok, List.getElem?_cons_zero, List.getElem?_cons_succ, List.map_cons, List.map_nil, List.replicate, Nat.sub_zero, Nat.reduceSub, List.cons_append, List.nil_append, List.append_nil, List.mapM_cons, List.mapM_nil, Option.pure_def, Option.bind_eq_bind, Option.bind_some, List.any_cons, List.any_nil, id, Bool.or_false, Bool.not_true, Bool.not_false, if_true, if_false, Bool.false_eq_true, reduceIte, List.set_cons_zero, List.set_cons_succ]; simp only [List.append_assoc]⟩
          | false => exact ⟨t1 ++ t2 ++ t3 ++ t4 ++ t5 ++ t6, by simp only [sortOf, ht, h12.1, h12.2, hk, hq, b23, List.getElem_cons_succ, List.getElem_cons_zero, x_cst, x_var, x_tup, x_lst, x_bin, x_neg, x_not, x_cmp, x_cmp2, x_and1, x_and, x_or1, x_or, x_ite, x_idx, x_slc, x_call, x_blt, x_met, x_isi, x_nil, x_cons, x_c0, x_c1, x_p0, x_p1, y_nil, y_cons, y_set, y_rtn, y_ite, y_exp, decide_true, w_ok, q_nxt, q_rtn, b_rtn, t_bl, r_ret, a_nm, c_lt, c_le, c_gt, c_ge, c_eqi, c_eqs, c_nes, c_eq0, c_ne0, c_in2, z0, z1, z2, z3, z4, z5, z6, z7, z8, c_les, b_list, l_lay, b_lent, i_tup, bind_ok, List.getElem?_cons_zero, List.getElem?_cons_succ, List.map_cons, List.map_nil, List.replicate, Nat.sub_zero, Nat.reduceSub, List.cons_append, List.nil_append, List.append_nil, List.mapM_cons, List.mapM_nil, Option.pure_def, Option.bind_eq_bind, Option.bind_some, List.any_cons, List.any_nil, id, Bool.or_false, Bool.not_true, Bool.not_false, if_true, if_false, Bool.false_eq_true, reduceIte, List.set_cons_zero, List.set_cons_succ]; simp only [List.append_assoc]⟩
end K11

namespace K11
open PySem hiding Env exec execs
open L2 Mi
/-! ### texts of values -/
theorem mapM_imp {α β : Type} {f g : α → Option β} : ∀ {l : List α} {r : List β}, (∀ a b, f a = some b → g a = some b) → l.mapM f = some r → l.mapM g = some r
  | [], r, _, h => by simpa using h
  | a :: l, r, i, h => by
    rw [List.mapM_cons] at h ⊢
    simp only [Option.pure_def, Option.bind_eq_bind, Option.bind_eq_some_iff, Option.some.injEq] at h ⊢
    obtain ⟨b, h1, r', h2, rfl⟩ := h
    exact ⟨b, i _ _ h1, r', mapM_imp i h2, rfl⟩
theorem toD_grow {s u : Sto} (hs : Sub s u) : ∀ (n n' : Nat) (w : W) (d : PyData), n ≤ n' → toD n s w = some d → toD n' u w = some d := by
  intro n
  induction n with
  | zero => intro n' w d _ h; simp [toD] at h
  | succ n ih =>
    intro n' w d hn h
    cases n' with
    | zero => omega
    | succ n' =>
    have hn : n ≤ n' := by omega
    have im : ∀ a b, toD n s a = some b → toD n' u a = some b := fun a b => ih n' a b hn
    cases w <;> simp only [toD, reduceCtorEq] at h ⊢ <;> try exact h
    · rw [Option.map_eq_some_iff] at h ⊢
      obtain ⟨r, h, e⟩ := h
      exact ⟨r, mapM_imp im h, e⟩
    · rw [Option.map_eq_some_iff] at h ⊢
      obtain ⟨r, h, e⟩ := h
      exact ⟨r, mapM_imp im h, e⟩
    · rename_i l
      split at h
      · rename_i xs e
        rw [hs _ _ e (by simp)]
        simp only
        rw [Option.map_eq_some_iff] at h ⊢
        obtain ⟨r, h, e⟩ := h
        exact ⟨r, mapM_imp im h, e⟩
      · rename_i kvs e
        rw [hs _ _ e (by simp)]
        simp only
        split at h
        · rename_i ks vs e1 e2
          rw [mapM_imp im e1, mapM_imp im e2]
          exact h
        · cases h
      · cases h
/-- the data of a good value -/
structure Shows (s : Sto) (n m : Nat) (w : W) (d : PyData) : Prop where
  td : toD n s w = some d
  sh : d.showable = true
  ln : d.shown.length ≤ m
  dp : d.depth ≤ n
theorem all2_shows {s : Sto} {n : Nat} (ih : ∀ m w, GV s n m w → ∃ d, Shows s n m w d) : ∀ {g : List Nat} {ws : List W}, All2 (GV s n) g ws →
    ∃ ds, ws.mapM (toD n s) = some ds ∧ PyData.showableAll ds = true ∧ ((PyData.shownAll ds).map (·.length)).sum ≤ g.sum ∧ PyData.depthAll ds ≤ n ∧ (PyData.shownAll ds).length = ws.length
  | [], [], _ => ⟨[], rfl, rfl, Nat.le_refl _, Nat.zero_le _, rfl⟩
  | a :: g, w :: ws, ⟨h1, h2⟩ => by
    obtain ⟨d, hd⟩ := ih a w h1
    obtain ⟨ds, e1, e2, e3, e4, e5⟩ := all2_shows ih h2
    refine ⟨d :: ds, ?_, ?_, ?_, ?_, ?_⟩
    · rw [List.mapM_cons, hd.td, e1]; rfl
    · simp only [PyData.showableAll, hd.sh, e2, Bool.and_self]
    · simp only [PyData.shownAll, List.map_cons, List.sum_cons]
      have := hd.ln
      omega
    · simp only [PyData.depthAll]
      have := hd.dp
      omega
    · simp only [PyData.shownAll, List.length_cons, e5]
  | [], _ :: _, h => h.elim
  | _ :: _, [], h => h.elim
theorem log_of {i : Int} (h : i.natAbs < 10 ^ 31) : i.natAbs.log2 < 1920 := by
  by_cases h0 : i.natAbs = 0
  · rw [h0]; decide
  · rw [Nat.log2_lt h0]
    exact Nat.lt_trans h (by decide +kernel)
theorem GV.shows {s : Sto} : ∀ {n m : Nat} {w : W}, GV s n m w → ∃ d, Shows s n m w d := by
  intro n
  induction n with
  | zero => intro m w h; exact h.elim
  | succ n ih =>
    intro m w h
    obtain ⟨⟨h0, hm⟩, h⟩ := h
    cases w <;> try exact h.elim
    · exact ⟨.none, rfl, rfl, Nat.le_trans (show (4 : Nat) ≤ 140 by decide) h0, Nat.zero_le _⟩
    · rename_i b
      refine ⟨.bool b, rfl, rfl, Nat.le_trans ?_ h0, Nat.zero_le _⟩
      cases b <;> (simp only [PyData.shown]; decide +kernel)
    · rename_i i
      refine ⟨.int i, rfl, by simp [PyData.showable, log_of h], ?_, Nat.zero_le _⟩
      have e : (toString i).length ≤ 32 := int_text_length_le10 (k := 31) (by decide) h
      have : (PyData.shown (.int i)).length ≤ 32 := by
        show (Str.ofString (toString i)).length ≤ 32
        rw [ofString_length]; exact e
      omega
    · rename_i x
      obtain ⟨h1, h2⟩ := h
      refine ⟨.str x, rfl, rfl, ?_, Nat.zero_le _⟩
      have := PyData.shown_le 8 (by decide) (.str x) (by simp only [PyData.leavesShort, List.all_eq_true, decide_eq_true_eq]; exact h2)
      have e : PyData.weight (.str x) = x.length := rfl
      rw [e] at this
      have : 10 * x.length ≤ 120 := by omega
      omega
    · rename_i ws
      obtain ⟨g, h1, h2⟩ := h
      obtain ⟨ds, e1, e2, e3, e4, e5⟩ := all2_shows (fun m w => ih) h1
      refine ⟨.tuple ds, by simp only [toD, e1, Option.map_some], by simpa only [PyData.showable] using e2, ?_, by simp only [PyData.depth]; omega⟩
      have := tupleText_len_le (PyData.shownAll ds)
      simp only [PyData.shown]
      omega
    · rename_i l
      rcases h with ⟨ws, g, e, h1, h2⟩ | e | ⟨e0, e⟩
      · obtain ⟨ds, e1, e2, e3, e4, e5⟩ := all2_shows (fun m w => ih) h1
        refine ⟨.list ds, by simp only [toD, e, e1, Option.map_some], by simpa only [PyData.showable] using e2, ?_, by simp only [PyData.depth]; omega⟩
        have := listText_len_le (PyData.shownAll ds)
        simp only [PyData.shown]
        omega
      · exact ⟨.dict [], by simp [toD, e], rfl, Nat.le_trans (by simp only [PyData.shown, PyData.shownKv]; decide +kernel) h0, by simp only [PyData.depth, PyData.depthKv]; omega⟩
      · cases n with
        | zero => omega
        | succ n => exact ⟨.dict [(.str "a", .int 1)], by simp [toD, e], by decide +kernel, Nat.le_trans (by decide +kernel) h0, by simp only [PyData.depth, PyData.depthKv]; omega⟩
/-- its text, the same in every bigger store -/
theorem GV.text {s : Sto} {n m : Nat} {w : W} (h : GV s n m w) (hn : n ≤ 60) : ∃ x : Str, ∀ u, Sub s u → blt .repr [w] u = .ok (.str x) u := by
  obtain ⟨d, hd⟩ := h.shows
  refine ⟨d.shown, fun u hu => ?_⟩
  have hm : m ≤ SZ := by cases n with | zero => exact h.elim | succ n => exact h.1.2
  have e : dat u w = some d := toD_grow hu n 60 w d hn hd.td
  have h1 : (d.showable && decide (d.shown.length ≤ SZ) && decide (d.depth ≤ 60)) = true := by
    rw [hd.sh, decide_eq_true (Nat.le_trans hd.ln hm), decide_eq_true (Nat.le_trans hd.dp hn)]; rfl
  simp only [blt, e, h1, if_true]
theorem text_bools {s : Sto} {l : Nat} (a b c d e f : Bool) (h : s[l]? = some (.lst [.bl a, .bl b, .bl c, .bl d, .bl e, .bl f])) : blt .repr [.loc l] s = .ok (.str (PyData.shown (.list [.bool a, .bool b, .bool c, .bool d, .bool e, .bool f]))) s := by
  have e0 : dat s (.loc l) = some (.list [.bool a, .bool b, .bool c, .bool d, .bool e, .bool f]) := by
    simp [dat, DEEP, toD, h]
  have h0 : ∀ b : Bool, (PyData.shown (.bool b)).length ≤ 5 := by intro b; cases b <;> (simp only [PyData.shown]; decide +kernel)
  have hl : (PyData.shown (.list [.bool a, .bool b, .bool c, .bool d, .bool e, .bool f])).length ≤ SZ := by
    have := listText_len_le (PyData.shownAll [.bool a, .bool b, .bool c, .bool d, .bool e, .bool f])
    simp only [PyData.shownAll, List.map_cons, List.map_nil, List.sum_cons, List.sum_nil, List.length_cons, List.length_nil] at this
    have := h0 a; have := h0 b; have := h0 c; have := h0 d; have := h0 e; have := h0 f
    simp only [PyData.shown, PyData.shownAll, SZ] at *
    omega
  have h1 : (PyData.showable (.list [.bool a, .bool b, .bool c, .bool d, .bool e, .bool f]) && decide ((PyData.shown (.list [.bool a, .bool b, .bool c, .bool d, .bool e, .bool f])).length ≤ SZ) && decide (PyData.depth (.list [.bool a, .bool b, .bool c, .bool d, .bool e, .bool f]) ≤ 60)) = true := by
    rw [decide_eq_true hl]; rfl
  simp only [blt, e0, h1, if_true]
end K11

namespace K11
open PySem hiding Env exec execs
open L2 Mi
abbrev dueL (w : W) : List W := [.bl (nameB w), .bl (threadB w), .bl (lineB w), .bl (lockerB w), .bl (pointB w), .bl (edgeB w)]
abbrev bodyR : List S := [(.set (.nm 5) (.lst [(.call 2 [(.var 0)] [] [0]), (.call 3 [(.var 0)] [] [0]), (.call 6 [(.var 0)] [] [0]), (.call 7 [(.var 0)] [] [0]), (.call 8 [(.var 0)] [] [0]), (.call 9 [(.var 0)] [] [0])])), (.ite (.or [(.cmp .ne (.blt .repr [(.var 5)]) (.blt .repr [(.var 1)])), (.cmp .ne (.blt .repr [(.var 0)]) (.var 4))]) [(.rtn (.cst (.bl false)))] [])]
theorem ne_self (x : Str) : (!decide (x = x)) = false := by simp
theorem right_turn {k n m : Nat} {s : Sto} {w : W} (h : GV s n m w) (ld : Nat) (turn : W) (sort : Str) (shown : Str) (told : Option W) (hx : ∀ u, Sub s u → blt .repr [w] u = .ok (.str shown) u) (hd : s[ld]? = some (.lst (dueL w))) :
    ∃ t told', execs (ph (k + 7)) 0 ψ0 bodyR [some w, some (.loc ld), some turn, some (.str sort), some (.str shown), told] s = .ok .nxt [some w, some (.loc ld), some turn, some (.str sort), some (.str shown), told'] (s ++ t) := by
  obtain ⟨t1, e1⟩ := is_name (k := k + 6) h
  obtain ⟨t2, e2⟩ := is_thread (k := k + 4) (h.app t1)
  obtain ⟨t3, e3⟩ := is_line (k := k + 2) ((h.app t1).app t2)
  obtain ⟨t4, e4⟩ := is_locker (k := k + 2) (((h.app t1).app t2).app t3)
  obtain ⟨t5, e5⟩ := is_point (k := k + 1) ((((h.app t1).app t2).app t3).app t4)
  obtain ⟨t6, e6⟩ := is_edge (k := k) (((((h.app t1).app t2).app t3).app t4).app t5)
  let S6 := s ++ t1 ++ t2 ++ t3 ++ t4 ++ t5 ++ t6
  have e7 : blt .repr [.loc S6.length] (S6 ++ [SO.lst (dueL w)]) = .ok (.str (PyData.shown (.list [.bool (nameB w), .bool (threadB w), .bool (lineB w), .bool (lockerB w), .bool (pointB w), .bool (edgeB w)]))) (S6 ++ [SO.lst (dueL w)]) := text_bools _ _ _ _ _ _ (by simp)
  have e8 : blt .repr [.loc ld] (S6 ++ [SO.lst (dueL w)]) = .ok (.str (PyData.shown (.list [.bool (nameB w), .bool (threadB w), .bool (lineB w), .bool (lockerB w), .bool (pointB w), .bool (edgeB w)]))) (S6 ++ [SO.lst (dueL w)]) := by
    refine text_bools _ _ _ _ _ _ ?_
    have := sub_app s (t1 ++ t2 ++ t3 ++ t4 ++ t5 ++ t6 ++ [SO.lst (dueL w)]) ld _ hd (by simp)
    simpa only [S6, List.append_assoc] using this
  have e9 : blt .repr [w] (S6 ++ [SO.lst (dueL w)]) = .ok (.str shown) (S6 ++ [SO.lst (dueL w)]) := hx _ (by
    have := sub_app s (t1 ++ t2 ++ t3 ++ t4 ++ t5 ++ t6 ++ [SO.lst (dueL w)])
    simpa only [S6, List.append_assoc] using this)
  refine ⟨t1 ++ t2 ++ t3 ++ t4 ++ t5 ++ t6 ++ [SO.lst (dueL w)], some (.loc S6.length), ?_⟩
  simp only [S6] at e7 e8 e9 ⊢
  simp only [e1, e2, e3, e4, e5, e6, e7, e8, e9, x_cst, x_var, x_tup, x_lst, x_bin, x_neg, x_not, x_cmp, x_cmp2, x_and1, x_and, x_or1, x_or, x_ite, x_idx, x_slc, x_call, x_blt, x_met, x_isi, x_nil, x_cons, x_c0, x_c1, x_p0, x_p1, y_nil, y_cons, y_set, y_rtn, y_ite, y_exp, decide_true, w_ok, q_nxt, q_rtn, b_rtn, t_bl, r_ret, a_nm, c_lt, c_le, c_gt, c_ge, c_eqi, c_eqs, c_nes, c_eq0, c_ne0, c_in2, z0, z1, z2, z3, z4, z5, z6, z7, z8, c_les, b_list, l_lay, b_lent, i_tup, bind_ok, List.getElem?_cons_zero, List.getElem?_cons_succ, List.map_cons, List.map_nil, List.replicate, Nat.sub_zero, Nat.reduceSub, List.cons_append, List.nil_append, List.append_nil, List.mapM_cons, List.mapM_nil, Option.pure_def, Option.bind_eq_bind, Option.bind_some, List.any_cons, List.any_nil, id, Bool.or_false, Bool.not_true, Bool.not_false, if_true, if_false, Bool.false_eq_true, reduceIte, List.set_cons_zero, List.set_cons_succ]
  simp only [List.append_assoc]
theorem law_right {k n m : Nat} {s : Sto} {w : W} (h : GV s n m w) (hn : n ≤ 60) : ∃ t, ph (k + n + 9) 24 [w] s = .ok (.bl true) (s ++ t) := by
  rw [call_eq (d := ⟨1, 6, b24⟩) rfl rfl]
  obtain ⟨x, hx⟩ := h.text hn
  obtain ⟨t1, e1⟩ := law_sort k n s m w h
  have e2 := hx (s ++ t1) (sub_app s t1)
  obtain ⟨t3, e3⟩ := law_letters (k := k + n + 7) (h.app t1)
  simp only [b24, e1, e2, e3, a_tp2t, sort_thread, sort_line, sort_locker, sort_point, sort_key, ← point_eq, ← edge_eq, x_cst, x_var, x_tup, x_lst, x_bin, x_neg, x_not, x_cmp, x_cmp2, x_and1, x_and, x_or1, x_or, x_ite, x_idx, x_slc, x_call, x_blt, x_met, x_isi, x_nil, x_cons, x_c0, x_c1, x_p0, x_p1, y_nil, y_cons, y_set, y_rtn, y_ite, y_exp, decide_true, w_ok, q_nxt, q_rtn, b_rtn, t_bl, r_ret, a_nm, c_lt, c_le, c_gt, c_ge, c_eqi, c_eqs, c_nes, c_eq0, c_ne0, c_in2, z0, z1, z2, z3, z4, z5, z6, z7, z8, c_les, b_list, l_lay, b_lent, i_tup, bind_ok, List.getElem?_cons_zero, List.getElem?_cons_succ, List.map_cons, List.map_nil, List.replicate, Nat.sub_zero, Nat.reduceSub, List.cons_append, List.nil_append, List.append_nil, List.mapM_cons, List.mapM_nil, Option.pure_def, Option.bind_eq_bind, Option.bind_some, List.any_cons, List.any_nil, id, Bool.or_false, Bool.not_true, Bool.not_false, if_true, if_false, Bool.false_eq_true, reduceIte, List.set_cons_zero, List.set_cons_succ]
  rw [add_lists (s ++ t1 ++ t3) [W.bl (nameB w), W.bl (threadB w), W.bl (lineB w), W.bl (lockerB w)] [W.bl (pointB w), W.bl (edgeB w)] (show (4 : Nat) + 2 ≤ SZ by decide)]
  simp only [x_cst, x_var, x_tup, x_lst, x_bin, x_neg, x_not, x_cmp, x_cmp2, x_and1, x_and, x_or1, x_or, x_ite, x_idx, x_slc, x_call, x_blt, x_met, x_isi, x_nil, x_cons, x_c0, x_c1, x_p0, x_p1, y_nil, y_cons, y_set, y_rtn, y_ite, y_exp, decide_true, w_ok, q_nxt, q_rtn, b_rtn, t_bl, r_ret, a_nm, c_lt, c_le, c_gt, c_ge, c_eqi, c_eqs, c_nes, c_eq0, c_ne0, c_in2, z0, z1, z2, z3, z4, z5, z6, z7, z8, c_les, b_list, l_lay, b_lent, i_tup, bind_ok, List.getElem?_cons_zero, List.getElem?_cons_succ, List.map_cons, List.map_nil, List.replicate, Nat.sub_zero, Nat.reduceSub, List.cons_append, List.nil_append, List.append_nil, List.mapM_cons, List.mapM_nil, Option.pure_def, Option.bind_eq_bind, Option.bind_some, List.any_cons, List.any_nil, id, Bool.or_false, Bool.not_true, Bool.not_false, if_true, if_false, Bool.false_eq_true, reduceIte, List.set_cons_zero, List.set_cons_succ]
  let T := t1 ++ t3 ++ [SO.lst [W.bl (nameB w), W.bl (threadB w), W.bl (lineB w), W.bl (lockerB w)]] ++ [SO.lst [W.bl (pointB w), W.bl (edgeB w)]] ++ [SO.lst (dueL w)]
  have hT : s ++ t1 ++ t3 ++ [SO.lst [W.bl (nameB w), W.bl (threadB w), W.bl (lineB w), W.bl (lockerB w)]] ++ [SO.lst [W.bl (pointB w), W.bl (edgeB w)]] ++ [SO.lst (dueL w)] = s ++ T := by
    simp only [T, List.append_assoc]
  have hx' : ∀ t u, Sub (s ++ t) u → blt .repr [w] u = .ok (.str x) u := fun t u hu => hx u fun l o e i => hu l o (sub_app s t l o e i) i
  have hd : (s ++ T)[(s ++ t1 ++ t3 ++ [SO.lst [W.bl (nameB w), W.bl (threadB w), W.bl (lineB w), W.bl (lockerB w)]] ++ [SO.lst [W.bl (pointB w), W.bl (edgeB w)]]).length]? = some (.lst (dueL w)) := by
    rw [← hT, List.getElem?_append_right (Nat.le_refl _), Nat.sub_self]; rfl
  generalize hld : (s ++ t1 ++ t3 ++ [SO.lst [W.bl (nameB w), W.bl (threadB w), W.bl (lineB w), W.bl (lockerB w)]] ++ [SO.lst [W.bl (pointB w), W.bl (edgeB w)]]).length = ld at hd ⊢
  rw [show s ++ t1 ++ t3 ++ [SO.lst [W.bl (nameB w), W.bl (threadB w), W.bl (lineB w), W.bl (lockerB w)]] ++ [SO.lst [W.bl (pointB w), W.bl (edgeB w)]] ++ [SO.lst [W.bl (nameB w), W.bl (threadB w), W.bl (lineB w), W.bl (lockerB w), W.bl (pointB w), W.bl (edgeB w)]] = s ++ T from hT]
  obtain ⟨t4, o4, e4⟩ := right_turn (k := k + n + 1) (h.app T) ld (.int ((0 : Nat) : Int)) (sortOf w) x none (hx' T) hd
  obtain ⟨t5, o5, e5⟩ := right_turn (k := k + n + 1) ((h.app T).app t4) ld (.int ((1 : Nat) : Int)) (sortOf w) x o4 (fun u hu => hx' T u fun l o e i => hu l o (sub_app _ t4 l o e i) i) (sub_app _ t4 _ _ hd (by simp))
  refine ⟨T ++ t4 ++ t5, ?_⟩
  simp only [y_for, x_cons, x_nil, x_cst, bind_ok]
  rw [show iter .rng1 [.int 2] (s ++ T) = _ from i_rng1 2 (s ++ T) (by decide), w_ok]
  rw [show (List.range 2).map (fun k : Nat => W.int (k : Int)) = [.int ((0 : Nat) : Int), .int ((1 : Nat) : Int)] from rfl]
  rw [f_step (ρ1 := [some w, some (.loc ld), some (.int ((0 : Nat) : Int)), some (.str (sortOf w)), some (.str x), none]) (s1 := s ++ T) rfl (by simp only [x_cst, x_var, x_tup, x_lst, x_bin, x_neg, x_not, x_cmp, x_cmp2, x_and1, x_and, x_or1, x_or, x_ite, x_idx, x_slc, x_call, x_blt, x_met, x_isi, x_nil, x_cons, x_c0, x_c1, x_p0, x_p1, y_nil, y_cons, y_set, y_rtn, y_ite, y_exp, decide_true, w_ok, q_nxt, q_rtn, b_rtn, t_bl, r_ret, a_nm, c_lt, c_le, c_gt, c_ge, c_eqi, c_eqs, c_nes, c_eq0, c_ne0, c_in2, z0, z1, z2, z3, z4, z5, z6, z7, z8, c_les, b_list, l_lay, b_lent, i_tup, bind_ok, List.getElem?_cons_zero, List.getElem?_cons_succ, List.map_cons, List.map_nil, List.replicate, Nat.sub_zero, Nat.reduceSub, List.cons_append, List.nil_append, List.append_nil, List.mapM_cons, List.mapM_nil, Option.pure_def, Option.bind_eq_bind, Option.bind_some, List.any_cons, List.any_nil, id, Bool.or_false, Bool.not_true, Bool.not_false, if_true, if_false, Bool.false_eq_true, reduceIte, List.set_cons_zero, List.set_cons_succ]) e4]
  rw [f_step (ρ1 := [some w, some (.loc ld), some (.int ((1 : Nat) : Int)), some (.str (sortOf w)), some (.str x), o4]) (s1 := s ++ T ++ t4) rfl (by simp only [x_cst, x_var, x_tup, x_lst, x_bin, x_neg, x_not, x_cmp, x_cmp2, x_and1, x_and, x_or1, x_or, x_ite, x_idx, x_slc, x_call, x_blt, x_met, x_isi, x_nil, x_cons, x_c0, x_c1, x_p0, x_p1, y_nil, y_cons, y_set, y_rtn, y_ite, y_exp, decide_true, w_ok, q_nxt, q_rtn, b_rtn, t_bl, r_ret, a_nm, c_lt, c_le, c_gt, c_ge, c_eqi, c_eqs, c_nes, c_eq0, c_ne0, c_in2, z0, z1, z2, z3, z4, z5, z6, z7, z8, c_les, b_list, l_lay, b_lent, i_tup, bind_ok, List.getElem?_cons_zero, List.getElem?_cons_succ, List.map_cons, List.map_nil, List.replicate, Nat.sub_zero, Nat.reduceSub, List.cons_append, List.nil_append, List.append_nil, List.mapM_cons, List.mapM_nil, Option.pure_def, Option.bind_eq_bind, Option.bind_some, List.any_cons, List.any_nil, id, Bool.or_false, Bool.not_true, Bool.not_false, if_true, if_false, Bool.false_eq_true, reduceIte, List.set_cons_zero, List.set_cons_succ]) e5]
  rw [f_end rfl]
  simp only [x_cst, x_var, x_tup, x_lst, x_bin, x_neg, x_not, x_cmp, x_cmp2, x_and1, x_and, x_or1, x_or, x_ite, x_idx, x_slc, x_call, x_blt, x_met, x_isi, x_nil, x_cons, x_c0, x_c1, x_p0, x_p1, y_nil, y_cons, y_set, y_rtn, y_ite, y_exp, decide_true, w_ok, q_nxt, q_rtn, b_rtn, t_bl, r_ret, a_nm, c_lt, c_le, c_gt, c_ge, c_eqi, c_eqs, c_nes, c_eq0, c_ne0, c_in2, z0, z1, z2, z3, z4, z5, z6, z7, z8, c_les, b_list, l_lay, b_lent, i_tup, bind_ok, List.getElem?_cons_zero, List.getElem?_cons_succ, List.map_cons, List.map_nil, List.replicate, Nat.sub_zero, Nat.reduceSub, List.cons_append, List.nil_append, List.append_nil, List.mapM_cons, List.mapM_nil, Option.pure_def, Option.bind_eq_bind, Option.bind_some, List.any_cons, List.any_nil, id, Bool.or_false, Bool.not_true, Bool.not_false, if_true, if_false, Bool.false_eq_true, reduceIte, List.set_cons_zero, List.set_cons_succ]
  simp only [List.append_assoc]
end K11

namespace K11
open PySem hiding Env exec execs
open L2 Mi
/-! ### the pot, and what stays beside it -/
def Pot (p : Nat) (s : Sto) : Prop := ∃ a b : Int, 0 ≤ a ∧ 0 ≤ b ∧ b < 2 ^ 31 ∧ s[p]? = some (.lst [.int a, .int b])
def SubP (p : Nat) (s s' : Sto) : Prop := ∀ (l : Nat) (o : SO), l ≠ p → s[l]? = some o → (∀ c fs, o ≠ .ins c fs) → s'[l]? = some o
def mask (p : Nat) (s : Sto) : Sto := s.set p (.ins 0 [])
theorem SubP.rfl' {p : Nat} {s : Sto} : SubP p s s := fun _ _ _ h _ => h
theorem SubP.trans {p : Nat} {s t u : Sto} (a : SubP p s t) (b : SubP p t u) : SubP p s u := fun l o n h i => b l o n (a l o n h i) i
theorem mask_get {p l : Nat} {s : Sto} (h : l ≠ p) : (mask p s)[l]? = s[l]? := by unfold mask; rw [List.getElem?_set_ne (fun e => h e.symm)]
theorem mask_at {p : Nat} {s : Sto} {o : SO} (h : (mask p s)[p]? = some o) : o = .ins 0 [] := by
  unfold mask at h
  rw [List.getElem?_set] at h
  simp at h
  exact h.2.symm
theorem SubP.mask {p : Nat} {s s' : Sto} (h : SubP p s s') : Sub (mask p s) (mask p s') := fun l o e i => by
  by_cases n : l = p
  · subst n; exact absurd (mask_at e) (i _ _)
  · rw [mask_get n] at e ⊢; exact h l o n e i
theorem mask_sub (p : Nat) (s : Sto) : Sub (mask p s) s := fun l o e i => by
  by_cases n : l = p
  · subst n; exact absurd (mask_at e) (i _ _)
  · rw [mask_get n] at e; exact e
theorem SubP.set (p : Nat) (s : Sto) (o : SO) : SubP p s (s.set p o) := fun l o' n h _ => by rw [List.getElem?_set_ne (fun e => n e.symm)]; exact h
theorem SubP.app (p : Nat) (s t : Sto) : SubP p s (s ++ t) := fun l o _ h i => sub_app s t l o h i
theorem Pot.app {p : Nat} {s : Sto} (h : Pot p s) (t : Sto) : Pot p (s ++ t) := by
  obtain ⟨a, b, h1, h2, h3, h4⟩ := h
  exact ⟨a, b, h1, h2, h3, sub_app s t _ _ h4 (by simp)⟩
theorem Pot.lt {p : Nat} {s : Sto} (h : Pot p s) : p < s.length := by
  obtain ⟨a, b, _, _, _, h4⟩ := h
  exact (List.getElem?_eq_some_iff.mp h4).1
theorem set_at {s : Sto} {p : Nat} {o : SO} (h : p < s.length) : (s.set p o)[p]? = some o := by rw [List.getElem?_set_self h]
/-- good beside the pot -/
abbrev GP (p : Nat) (s : Sto) (n m : Nat) (w : W) : Prop := GV (mask p s) n m w
theorem GV.keep {p : Nat} {s s' : Sto} {n m : Nat} {w : W} (h : GP p s n m w) (e : SubP p s s') : GP p s' n m w := h.sub e.mask
theorem GV.un {p : Nat} {s : Sto} {n m : Nat} {w : W} (h : GP p s n m w) : GV s n m w := h.sub (mask_sub p s)
/-- drawn -/
theorem take_ok {k p : Nat} {s : Sto} (h : Pot p s) (many : Int) (hm : 0 < many) (hb : many.natAbs.log2 < 9000) : ∃ r s', ph (k + 1) 11 [.loc p, .int many] s = .ok (.int r) s' ∧ 0 ≤ r ∧ r < many ∧ Pot p s' ∧ SubP p s s' := by
  have hlt := h.lt
  obtain ⟨a, b, ha', hb0, hb1, e⟩ := h
  rw [call_eq (d := ⟨2, 3, b11⟩) rfl rfl]
  have e0 : idxW (.loc p) (.int 0) s = .ok (.int a) s := i_loc _ _ _ _ _ e rfl
  have e1 : idxW (.loc p) (.int 1) s = .ok (.int b) s := i_loc _ _ _ _ _ e rfl
  by_cases hp : 0 < a
  · have hd : decide (0 < a) = true := decide_eq_true hp
    have hs : setW (.loc p) (.int ((0 : Nat) : Int)) (.int (a / many)) s = .ok () (s.set p (.lst [.int (a / many), .int b])) := set_loc e (by simp)
    refine ⟨a % many, s.set p (.lst [.int (a / many), .int b]), ?_, Int.emod_nonneg _ (by omega), Int.emod_lt_of_pos _ hm, ⟨a / many, b, Int.ediv_nonneg ha' (by omega), hb0, hb1, set_at hlt⟩, SubP.set _ _ _⟩
    have ha : asg (ph k) (.tp [(.sub (.var 0) (.cst (.int 0))), (.nm 2)]) (.tup [.int (a / many), .int (a % many)]) [some (.loc p), some (.int many), none] s = .ok [some (.loc p), some (.int many), some (.int (a % many))] (s.set p (.lst [.int (a / many), .int b])) := by
      rw [asg]
      simp only [isSeq, asgs, bnd, List.length_cons, List.length_nil, if_true]
      rw [a_sub (ow := .loc p) (iw := .int ((0 : Nat) : Int)) (by simp only [x_cst, x_var, x_tup, x_lst, x_bin, x_neg, x_not, x_cmp, x_cmp2, x_and1, x_and, x_or1, x_or, x_ite, x_idx, x_slc, x_call, x_blt, x_met, x_isi, x_nil, x_cons, x_c0, x_c1, x_p0, x_p1, y_nil, y_cons, y_set, y_rtn, y_ite, y_exp, decide_true, w_ok, q_nxt, q_rtn, b_rtn, t_bl, r_ret, a_nm, c_lt, c_le, c_gt, c_ge, c_eqi, c_eqs, c_nes, c_eq0, c_ne0, c_in2, z0, z1, z2, z3, z4, z5, z6, z7, z8, c_les, b_list, l_lay, b_lent, i_tup, bind_ok, List.getElem?_cons_zero, List.getElem?_cons_succ, List.map_cons, List.map_nil, List.replicate, Nat.sub_zero, Nat.reduceSub, List.cons_append, List.nil_append, List.append_nil, List.mapM_cons, List.mapM_nil, Option.pure_def, Option.bind_eq_bind, Option.bind_some, List.any_cons, List.any_nil, id, Bool.or_false, Bool.not_true, Bool.not_false, if_true, if_false, Bool.false_eq_true, reduceIte, List.set_cons_zero, List.set_cons_succ]) (by simp only [x_cst, x_var, x_tup, x_lst, x_bin, x_neg, x_not, x_cmp, x_cmp2, x_and1, x_and, x_or1, x_or, x_ite, x_idx, x_slc, x_call, x_blt, x_met, x_isi, x_nil, x_cons, x_c0, x_c1, x_p0, x_p1, y_nil, y_cons, y_set, y_rtn, y_ite, y_exp, decide_true, w_ok, q_nxt, q_rtn, b_rtn, t_bl, r_ret, a_nm, c_lt, c_le, c_gt, c_ge, c_eqi, c_eqs, c_nes, c_eq0, c_ne0, c_in2, z0, z1, z2, z3, z4, z5, z6, z7, z8, c_les, b_list, l_lay, b_lent, i_tup, bind_ok, List.getElem?_cons_zero, List.getElem?_cons_succ, List.map_cons, List.map_nil, List.replicate, Nat.sub_zero, Nat.reduceSub, List.cons_append, List.nil_append, List.append_nil, List.mapM_cons, List.mapM_nil, Option.pure_def, Option.bind_eq_bind, Option.bind_some, List.any_cons, List.any_nil, id, Bool.or_false, Bool.not_true, Bool.not_false, if_true, if_false, Bool.false_eq_true, reduceIte, List.set_cons_zero, List.set_cons_succ]; rfl) hs]
      simp only [bnd, asgs, x_cst, x_var, x_tup, x_lst, x_bin, x_neg, x_not, x_cmp, x_cmp2, x_and1, x_and, x_or1, x_or, x_ite, x_idx, x_slc, x_call, x_blt, x_met, x_isi, x_nil, x_cons, x_c0, x_c1, x_p0, x_p1, y_nil, y_cons, y_set, y_rtn, y_ite, y_exp, decide_true, w_ok, q_nxt, q_rtn, b_rtn, t_bl, r_ret, a_nm, c_lt, c_le, c_gt, c_ge, c_eqi, c_eqs, c_nes, c_eq0, c_ne0, c_in2, z0, z1, z2, z3, z4, z5, z6, z7, z8, c_les, b_list, l_lay, b_lent, i_tup, bind_ok, List.getElem?_cons_zero, List.getElem?_cons_succ, List.map_cons, List.map_nil, List.replicate, Nat.sub_zero, Nat.reduceSub, List.cons_append, List.nil_append, List.append_nil, List.mapM_cons, List.mapM_nil, Option.pure_def, Option.bind_eq_bind, Option.bind_some, List.any_cons, List.any_nil, id, Bool.or_false, Bool.not_true, Bool.not_false, if_true, if_false, Bool.false_eq_true, reduceIte, List.set_cons_zero, List.set_cons_succ]
    simp only [b11, e0, hd, b_divmod _ _ _ ⟨hm, hb⟩, ha, x_cst, x_var, x_tup, x_lst, x_bin, x_neg, x_not, x_cmp, x_cmp2, x_and1, x_and, x_or1, x_or, x_ite, x_idx, x_slc, x_call, x_blt, x_met, x_isi, x_nil, x_cons, x_c0, x_c1, x_p0, x_p1, y_nil, y_cons, y_set, y_rtn, y_ite, y_exp, decide_true, w_ok, q_nxt, q_rtn, b_rtn, t_bl, r_ret, a_nm, c_lt, c_le, c_gt, c_ge, c_eqi, c_eqs, c_nes, c_eq0, c_ne0, c_in2, z0, z1, z2, z3, z4, z5, z6, z7, z8, c_les, b_list, l_lay, b_lent, i_tup, bind_ok, List.getElem?_cons_zero, List.getElem?_cons_succ, List.map_cons, List.map_nil, List.replicate, Nat.sub_zero, Nat.reduceSub, List.cons_append, List.nil_append, List.append_nil, List.mapM_cons, List.mapM_nil, Option.pure_def, Option.bind_eq_bind, Option.bind_some, List.any_cons, List.any_nil, id, Bool.or_false, Bool.not_true, Bool.not_false, if_true, if_false, Bool.false_eq_true, reduceIte, List.set_cons_zero, List.set_cons_succ]
  · have hd : decide (0 < a) = false := decide_eq_false hp
    have m1 : (b * 48271 + 30011) % 2147483587 < 2147483587 := Int.emod_lt_of_pos _ (by decide)
    have m0 : 0 ≤ (b * 48271 + 30011) % 2147483587 := Int.emod_nonneg _ (by decide)
    generalize hc : (b * 48271 + 30011) % 2147483587 = c at m0 m1
    have hs : setW (.loc p) (.int ((1 : Nat) : Int)) (.int c) s = .ok () (s.set p (.lst [.int a, .int c])) := set_loc e (by simp)
    have e2 : idxW (.loc p) (.int 1) (s.set p (.lst [.int a, .int c])) = .ok (.int c) (s.set p (.lst [.int a, .int c])) := i_loc _ _ _ _ _ (set_at hlt) rfl
    have l1 : b.natAbs.log2 + (48271 : Int).natAbs.log2 < 1000000 := by
      have e31 : (2 : Int) ^ 31 = ((2 ^ 31 : Nat) : Int) := by decide
      have : b.natAbs.log2 ≤ 31 := log_lt (by omega)
      have : (48271 : Int).natAbs.log2 ≤ 16 := log_lt (by decide)
      omega
    have l2 : c.natAbs.log2 + c.natAbs.log2 < 1000000 := by
      have e31 : (2 : Nat) ^ 31 = 2147483648 := by decide
      have : c.natAbs.log2 ≤ 31 := log_lt (by omega)
      omega
    have ha : asg (ph k) (.sub (.var 0) (.cst (.int 1))) (.int c) [some (.loc p), some (.int many), none] s = .ok [some (.loc p), some (.int many), none] (s.set p (.lst [.int a, .int c])) :=
      a_sub (ow := .loc p) (iw := .int ((1 : Nat) : Int)) (by simp only [x_cst, x_var, x_tup, x_lst, x_bin, x_neg, x_not, x_cmp, x_cmp2, x_and1, x_and, x_or1, x_or, x_ite, x_idx, x_slc, x_call, x_blt, x_met, x_isi, x_nil, x_cons, x_c0, x_c1, x_p0, x_p1, y_nil, y_cons, y_set, y_rtn, y_ite, y_exp, decide_true, w_ok, q_nxt, q_rtn, b_rtn, t_bl, r_ret, a_nm, c_lt, c_le, c_gt, c_ge, c_eqi, c_eqs, c_nes, c_eq0, c_ne0, c_in2, z0, z1, z2, z3, z4, z5, z6, z7, z8, c_les, b_list, l_lay, b_lent, i_tup, bind_ok, List.getElem?_cons_zero, List.getElem?_cons_succ, List.map_cons, List.map_nil, List.replicate, Nat.sub_zero, Nat.reduceSub, List.cons_append, List.nil_append, List.append_nil, List.mapM_cons, List.mapM_nil, Option.pure_def, Option.bind_eq_bind, Option.bind_some, List.any_cons, List.any_nil, id, Bool.or_false, Bool.not_true, Bool.not_false, if_true, if_false, Bool.false_eq_true, reduceIte, List.set_cons_zero, List.set_cons_succ]) (by simp only [x_cst, x_var, x_tup, x_lst, x_bin, x_neg, x_not, x_cmp, x_cmp2, x_and1, x_and, x_or1, x_or, x_ite, x_idx, x_slc, x_call, x_blt, x_met, x_isi, x_nil, x_cons, x_c0, x_c1, x_p0, x_p1, y_nil, y_cons, y_set, y_rtn, y_ite, y_exp, decide_true, w_ok, q_nxt, q_rtn, b_rtn, t_bl, r_ret, a_nm, c_lt, c_le, c_gt, c_ge, c_eqi, c_eqs, c_nes, c_eq0, c_ne0, c_in2, z0, z1, z2, z3, z4, z5, z6, z7, z8, c_les, b_list, l_lay, b_lent, i_tup, bind_ok, List.getElem?_cons_zero, List.getElem?_cons_succ, List.map_cons, List.map_nil, List.replicate, Nat.sub_zero, Nat.reduceSub, List.cons_append, List.nil_append, List.append_nil, List.mapM_cons, List.mapM_nil, Option.pure_def, Option.bind_eq_bind, Option.bind_some, List.any_cons, List.any_nil, id, Bool.or_false, Bool.not_true, Bool.not_false, if_true, if_false, Bool.false_eq_true, reduceIte, List.set_cons_zero, List.set_cons_succ]; rfl) hs
    refine ⟨c * c % 2147483543 / 7 % many, s.set p (.lst [.int a, .int c]), ?_, Int.emod_nonneg _ (by omega), Int.emod_lt_of_pos _ hm, ⟨a, c, ha', m0, by omega, set_at hlt⟩, SubP.set _ _ _⟩
    simp only [b11, e0, e1, hd, o_mul _ _ _ l1, o_add, o_mod _ _ _ (show (0 : Int) < 2147483587 by decide), hc, ha, e2, o_mul _ _ _ l2, o_mod _ _ _ (show (0 : Int) < 2147483543 by decide), o_fdiv _ _ _ (show (0 : Int) < 7 ∧ (7 : Int).natAbs.log2 < 9000 by decide), o_mod _ _ _ hm, x_cst, x_var, x_tup, x_lst, x_bin, x_neg, x_not, x_cmp, x_cmp2, x_and1, x_and, x_or1, x_or, x_ite, x_idx, x_slc, x_call, x_blt, x_met, x_isi, x_nil, x_cons, x_c0, x_c1, x_p0, x_p1, y_nil, y_cons, y_set, y_rtn, y_ite, y_exp, decide_true, w_ok, q_nxt, q_rtn, b_rtn, t_bl, r_ret, a_nm, c_lt, c_le, c_gt, c_ge, c_eqi, c_eqs, c_nes, c_eq0, c_ne0, c_in2, z0, z1, z2, z3, z4, z5, z6, z7, z8, c_les, b_list, l_lay, b_lent, i_tup, bind_ok, List.getElem?_cons_zero, List.getElem?_cons_succ, List.map_cons, List.map_nil, List.replicate, Nat.sub_zero, Nat.reduceSub, List.cons_append, List.nil_append, List.append_nil, List.mapM_cons, List.mapM_nil, Option.pure_def, Option.bind_eq_bind, Option.bind_some, List.any_cons, List.any_nil, id, Bool.or_false, Bool.not_true, Bool.not_false, if_true, if_false, Bool.false_eq_true, reduceIte, List.set_cons_zero, List.set_cons_succ]
/-- what a builder does: the pot goes on, the rest stays, the result is as wanted -/
def Mk (p : Nat) (s : Sto) (r : Res W) (R : Sto → W → Prop) : Prop := ∃ w s', r = .ok w s' ∧ Pot p s' ∧ SubP p s s' ∧ R s' w
theorem small_log {i : Int} (h : i.natAbs < 2 ^ 120) : i.natAbs.log2 < 9000 := by have := log_lt h; omega
theorem among_ok {k p q : Nat} {s : Sto} {xs : List W} (h : Pot p s) (hq : s[q]? = some (.lst xs)) (hne : q ≠ p) (h0 : 0 < xs.length) (h1 : xs.length < 100) : ∃ r s', ph (k + 2) 12 [.loc p, .loc q] s = .ok r s' ∧ r ∈ xs ∧ Pot p s' ∧ SubP p s s' := by
  rw [call_eq (d := ⟨2, 2, b12⟩) rfl rfl]
  obtain ⟨r, s', e, r0, r1, hp, hs⟩ := take_ok (k := k) h (xs.length : Int) (by omega) (small_log (by omega))
  have hq' : s'[q]? = some (.lst xs) := hs q _ hne hq (by simp)
  obtain ⟨i, rfl⟩ : ∃ i : Nat, r = i := ⟨r.toNat, by omega⟩
  have hr : i < xs.length := by omega
  have hi : idxW (.loc q) (.int (i : Int)) s' = .ok xs[i] s' := i_loc _ _ _ _ _ hq' (by rw [at_nat, List.getElem?_eq_getElem hr])
  refine ⟨xs[i], s', ?_, List.getElem_mem _, hp, hs⟩
  simp only [b12, b_lenl _ _ _ hq, e, hi, x_cst, x_var, x_tup, x_lst, x_bin, x_neg, x_not, x_cmp, x_cmp2, x_and1, x_and, x_or1, x_or, x_ite, x_idx, x_slc, x_call, x_blt, x_met, x_isi, x_nil, x_cons, x_c0, x_c1, x_p0, x_p1, y_nil, y_cons, y_set, y_rtn, y_ite, y_exp, decide_true, w_ok, q_nxt, q_rtn, b_rtn, t_bl, r_ret, a_nm, c_lt, c_le, c_gt, c_ge, c_eqi, c_eqs, c_nes, c_eq0, c_ne0, c_in2, z0, z1, z2, z3, z4, z5, z6, z7, z8, c_les, b_list, l_lay, b_lent, i_tup, bind_ok, List.getElem?_cons_zero, List.getElem?_cons_succ, List.map_cons, List.map_nil, List.replicate, Nat.sub_zero, Nat.reduceSub, List.cons_append, List.nil_append, List.append_nil, List.mapM_cons, List.mapM_nil, Option.pure_def, Option.bind_eq_bind, Option.bind_some, List.any_cons, List.any_nil, id, Bool.or_false, Bool.not_true, Bool.not_false, if_true, if_false, Bool.false_eq_true, reduceIte, List.set_cons_zero, List.set_cons_succ]
theorem gv_str {s : Sto} {n : Nat} {x : Str} (h : x.length ≤ 12) (hc : ∀ c ∈ x.cps.toList, c < 16 ^ 8) : GV s (n + 1) 140 (.str x) := ⟨⟨Nat.le_refl _, by decide⟩, h, hc⟩
theorem all2_mono {α β : Type} {R : α → β → Prop} {as : List α} {bs : List β} (h : All2 R as bs) : as.length = bs.length := by
  induction as generalizing bs with
  | nil => cases bs with | nil => rfl | cons => exact h.elim
  | cons a as ih => cases bs with | nil => exact h.elim | cons b bs => simp [ih h.2]
theorem GV.up {s : Sto} : ∀ {n n' m m' : Nat} {w : W}, GV s n m w → n ≤ n' → m ≤ m' → m' ≤ SZ → GV s n' m' w := by
  intro n
  induction n with
  | zero => intro n' m m' w h; exact h.elim
  | succ n ih =>
    intro n' m m' w h hn hm hz
    cases n' with
    | zero => omega
    | succ n' =>
    obtain ⟨⟨h0, h1⟩, h⟩ := h
    refine ⟨⟨by omega, hz⟩, ?_⟩
    have up : ∀ {a : Nat} {w : W}, GV s n a w → GV s n' a w := fun {a w} h => ih h (by omega) (Nat.le_refl _) (by cases n with | zero => exact h.elim | succ n => exact h.1.2)
    cases w <;> try exact h
    · obtain ⟨g, g1, g2⟩ := h
      exact ⟨g, g1.imp fun a b => up, by omega⟩
    · rcases h with ⟨ws, g, e, g1, g2⟩ | e | ⟨e0, e⟩
      · exact .inl ⟨ws, g, e, g1.imp fun a b => up, by omega⟩
      · exact .inr (.inl e)
      · exact .inr (.inr ⟨by omega, e⟩)
theorem all2_same {s : Sto} {n m : Nat} : ∀ {ws : List W}, (∀ w ∈ ws, GV s n m w) → All2 (GV s n) (List.replicate ws.length m) ws
  | [], _ => trivial
  | w :: ws, h => ⟨h w List.mem_cons_self, all2_same fun w hw => h w (List.mem_cons_of_mem _ hw)⟩
theorem sum_rep (n m : Nat) : (List.replicate n m).sum = n * m := by
  induction n with
  | zero => simp
  | succ n ih => rw [List.replicate_succ, List.sum_cons, ih, Nat.succ_mul]; omega
theorem tup_same {s : Sto} {n m m' : Nat} {ws : List W} (h : ∀ w ∈ ws, GV s n m w) (hm : ws.length * m + 2 * ws.length + 140 ≤ m') (hz : m' ≤ SZ) : GV s (n + 1) m' (.tup ws) :=
  ⟨⟨by omega, hz⟩, _, all2_same h, by rw [sum_rep]; exact hm⟩
abbrev okS (x : Str) : Prop := x.length ≤ 12 ∧ ∀ c ∈ x.cps.toList, c < 16 ^ 8
theorem lit_ok (x : Str) (h : (decide (x.length ≤ 12) && x.cps.toList.all fun c => decide (c < 16 ^ 8)) = true) : okS x := by
  rw [Bool.and_eq_true, decide_eq_true_eq, List.all_eq_true] at h
  exact ⟨h.1, fun c hc => of_decide_eq_true (h.2 c hc)⟩
theorem join_ok : ∀ (ys : List W), (∀ y ∈ ys, ∃ c, y = .str ⟨#[c]⟩ ∧ c < 16 ^ 8) → ∃ zs : List Str, strsOf ys = some zs ∧ zs.length = ys.length ∧ (zs.map fun y => y.length).sum = ys.length ∧ (Str.join "" zs).length = ys.length ∧ ∀ c ∈ (Str.join "" zs).cps.toList, c < 16 ^ 8
  | [], _ => ⟨[], rfl, rfl, rfl, rfl, by
    intro c hc
    have e : (Str.join "" []).cps.toList = [] := by decide +kernel
    rw [e] at hc; cases hc⟩
  | [y], h => by
    obtain ⟨c, rfl, hc⟩ := h y List.mem_cons_self
    refine ⟨[⟨#[c]⟩], rfl, rfl, rfl, rfl, fun d hd => ?_⟩
    simp [Str.join] at hd
    omega
  | y :: y' :: ys, h => by
    obtain ⟨c, rfl, hc⟩ := h y List.mem_cons_self
    obtain ⟨zs, e1, e2, e3, e4, e5⟩ := join_ok (y' :: ys) fun w hw => h w (List.mem_cons_of_mem _ hw)
    match zs, e1, e2, e3, e4, e5 with
    | z :: zs, e1, e2, e3, e4, e5 =>
      have ej : Str.join "" (⟨#[c]⟩ :: z :: zs) = ⟨#[c]⟩ ++ "" ++ Str.join "" (z :: zs) := rfl
      have el : (("" : Str)).length = 0 := rfl
      have ec : (⟨#[c]⟩ : Str).length = 1 := rfl
      refine ⟨⟨#[c]⟩ :: z :: zs, ?_, by simp [e2], ?_, ?_, ?_⟩
      · show (strsOf (y' :: ys)).map (⟨#[c]⟩ :: ·) = _
        rw [e1]; rfl
      · rw [List.map_cons, List.sum_cons, e3, ec]; simp only [List.length_cons]; omega
      · rw [ej, strLen_append, strLen_append, e4, el, ec]; simp only [List.length_cons]; omega
      · intro d hd
        rw [ej] at hd
        have this : d ∈ ((⟨#[c]⟩ : Str).cps ++ ("" : Str).cps ++ (Str.join "" (z :: zs)).cps).toList := hd
        rw [Array.toList_append, Array.toList_append] at this
        rw [List.mem_append, List.mem_append] at this
        rcases this with (h | h) | h
        · simp at h; omega
        · have e0 : ("" : Str).cps.toList = [] := by decide +kernel
          rw [e0] at h; cases h
        · exact e5 d h
end K11

namespace K11
open PySem hiding Env exec execs
open L2 Mi
theorem i_rng (j : Int) (n : Nat) (s : Sto) (e : j = (n : Int)) (h : n ≤ SZ) : iter .rng1 [.int j] s = .ok ((List.range n).map fun k : Nat => W.int (k : Int), none) s := by subst e; exact i_rng1 n s h
theorem get_mem {s : Sto} {q : Nat} {xs : List W} (hq : s[q]? = some (.lst xs)) (i : Nat) (hi : i < xs.length) : ∃ x ∈ xs, idxW (.loc q) (.int (i : Int)) s = .ok x s :=
  ⟨xs[i], List.getElem_mem _, i_loc _ _ _ _ _ hq (by rw [at_nat, List.getElem?_eq_getElem hi])⟩
theorem take_nat {k p : Nat} {s : Sto} (h : Pot p s) (many : Int) (hm : 0 < many) (hb : many.natAbs.log2 < 9000) : ∃ (r : Nat) (s' : Sto), ph (k + 1) 11 [.loc p, .int many] s = .ok (.int (r : Int)) s' ∧ (r : Int) < many ∧ Pot p s' ∧ SubP p s s' := by
  obtain ⟨r, s', e, r0, r1, hp, hs⟩ := take_ok (k := k) h many hm hb
  obtain ⟨i, rfl⟩ : ∃ i : Nat, r = i := ⟨r.toNat, by omega⟩
  exact ⟨i, s', e, r1, hp, hs⟩
theorem dec0 (r : Nat) : decide ((r : Int) = 0) = decide (r = 0) := by rw [Bool.eq_iff_iff]; simp
theorem letter_at (i : Nat) (h : i < 26) (s : Sto) : ∃ c, c < 16 ^ 8 ∧ idxW (.str "abcdefghijklmnopqrstuvwxyz") (.int (i : Int)) s = .ok (.str ⟨#[c]⟩) s := by
  have e : ∀ i : Fin 26, (Str.ofString "abcdefghijklmnopqrstuvwxyz").cps[i.1]? = some (97 + i.1) := by decide +kernel
  refine ⟨97 + i, by omega, ?_⟩
  simp only [idxW, Int.toNat_natCast, e ⟨i, h⟩]
  rw [if_pos (by omega)]
theorem elt13 {φ : Nat → List W → M W} {p : Nat} {L w c r : W} {u u' : Sto} (e : φ 11 [.loc p, .int 26] u = .ok r u') (ec : idxW L r u' = .ok c u') : den φ (.idx (.var 1) (.call 11 [(.var 0), (.cst (.int 26))] [] [0, 1])) [some (.loc p), some L, some w] u = .ok c u' := by
  simp only [e, ec, x_cst, x_var, x_tup, x_lst, x_bin, x_neg, x_not, x_cmp, x_cmp2, x_and1, x_and, x_or1, x_or, x_ite, x_idx, x_slc, x_call, x_blt, x_met, x_isi, x_nil, x_cons, x_c0, x_c1, x_p0, x_p1, y_nil, y_cons, y_set, y_rtn, y_ite, y_exp, decide_true, w_ok, q_nxt, q_rtn, b_rtn, t_bl, r_ret, a_nm, c_lt, c_le, c_gt, c_ge, c_eqi, c_eqs, c_nes, c_eq0, c_ne0, c_in2, z0, z1, z2, z3, z4, z5, z6, z7, z8, c_les, b_list, l_lay, b_lent, i_tup, bind_ok, List.getElem?_cons_zero, List.getElem?_cons_succ, List.map_cons, List.map_nil, List.replicate, Nat.sub_zero, Nat.reduceSub, List.cons_append, List.nil_append, List.append_nil, List.mapM_cons, List.mapM_nil, Option.pure_def, Option.bind_eq_bind, Option.bind_some, List.any_cons, List.any_nil, id, Bool.or_false, Bool.not_true, Bool.not_false, if_true, if_false, Bool.false_eq_true, reduceIte, List.set_cons_zero, List.set_cons_succ]
theorem name_ok {k p : Nat} {s : Sto} (h : Pot p s) : ∃ x s', ph (k + 3) 13 [.loc p] s = .ok (.str x) s' ∧ okS x ∧ Pot p s' ∧ SubP p s s' := by
  rw [call_eq (d := ⟨1, 3, b13⟩) rfl rfl]
  obtain ⟨r, s1, e1, r1, p1, b1⟩ := take_nat (k := k + 1) h 4 (by decide) (by decide)
  cases hr : decide (r = 0) with
  | true =>
    let L : List W := [.str "thread", .str "line", .str "locker", .str "key", .str "slot", .str "in", .str "end", .str "dead"]
    have hq : (s1 ++ [SO.lst L])[s1.length]? = some (.lst L) := by simp
    obtain ⟨x, s2, e2, m2, p2, b2⟩ := among_ok (k := k) (p1.app [SO.lst L]) hq (by have := p1.lt; omega) (by decide) (by decide)
    have ho : ∃ y, x = .str y ∧ okS y := by
      simp only [L, List.mem_cons, List.not_mem_nil, or_false] at m2
      rcases m2 with rfl | rfl | rfl | rfl | rfl | rfl | rfl | rfl <;> exact ⟨_, rfl, lit_ok _ (by decide +kernel)⟩
    obtain ⟨y, rfl, hy⟩ := ho
    refine ⟨y, s2, ?_, hy, p2, (b1.trans (SubP.app _ _ _)).trans b2⟩
    simp only [L] at e2
    simp only [b13, e1, dec0, hr, e2, x_cst, x_var, x_tup, x_lst, x_bin, x_neg, x_not, x_cmp, x_cmp2, x_and1, x_and, x_or1, x_or, x_ite, x_idx, x_slc, x_call, x_blt, x_met, x_isi, x_nil, x_cons, x_c0, x_c1, x_p0, x_p1, y_nil, y_cons, y_set, y_rtn, y_ite, y_exp, decide_true, w_ok, q_nxt, q_rtn, b_rtn, t_bl, r_ret, a_nm, c_lt, c_le, c_gt, c_ge, c_eqi, c_eqs, c_nes, c_eq0, c_ne0, c_in2, z0, z1, z2, z3, z4, z5, z6, z7, z8, c_les, b_list, l_lay, b_lent, i_tup, bind_ok, List.getElem?_cons_zero, List.getElem?_cons_succ, List.map_cons, List.map_nil, List.replicate, Nat.sub_zero, Nat.reduceSub, List.cons_append, List.nil_append, List.append_nil, List.mapM_cons, List.mapM_nil, Option.pure_def, Option.bind_eq_bind, Option.bind_some, List.any_cons, List.any_nil, id, Bool.or_false, Bool.not_true, Bool.not_false, if_true, if_false, Bool.false_eq_true, reduceIte, List.set_cons_zero, List.set_cons_succ]
  | false =>
    obtain ⟨r2, s2, e2, r2b, p2, b2⟩ := take_nat (k := k + 1) p1 8 (by decide) (by decide)
    have d1 : dens (ph (k + 2)) [(.bin .add (.cst (.int 1)) (.call 11 [(.var 0), (.cst (.int 8))] [] [0, 1]))] [some (.loc p), some (.str "abcdefghijklmnopqrstuvwxyz"), none] s1 = .ok [.int (1 + (r2 : Int))] s2 := by
      simp only [e2, o_add, x_cst, x_var, x_tup, x_lst, x_bin, x_neg, x_not, x_cmp, x_cmp2, x_and1, x_and, x_or1, x_or, x_ite, x_idx, x_slc, x_call, x_blt, x_met, x_isi, x_nil, x_cons, x_c0, x_c1, x_p0, x_p1, y_nil, y_cons, y_set, y_rtn, y_ite, y_exp, decide_true, w_ok, q_nxt, q_rtn, b_rtn, t_bl, r_ret, a_nm, c_lt, c_le, c_gt, c_ge, c_eqi, c_eqs, c_nes, c_eq0, c_ne0, c_in2, z0, z1, z2, z3, z4, z5, z6, z7, z8, c_les, b_list, l_lay, b_lent, i_tup, bind_ok, List.getElem?_cons_zero, List.getElem?_cons_succ, List.map_cons, List.map_nil, List.replicate, Nat.sub_zero, Nat.reduceSub, List.cons_append, List.nil_append, List.append_nil, List.mapM_cons, List.mapM_nil, Option.pure_def, Option.bind_eq_bind, Option.bind_some, List.any_cons, List.any_nil, id, Bool.or_false, Bool.not_true, Bool.not_false, if_true, if_false, Bool.false_eq_true, reduceIte, List.set_cons_zero, List.set_cons_succ]
    obtain ⟨ys, s3, e3, ⟨p3, b3⟩, l3, q3⟩ := den_lci (φ := ph (k + 2)) (elt := .idx (.var 1) (.call 11 [(.var 0), (.cst (.int 26))] [] [0, 1])) (tg := .nm 2) (own := [2]) (k := .rng1) (fun u => Pot p u ∧ SubP p s2 u) (fun y => ∃ c, y = .str ⟨#[c]⟩ ∧ c < 16 ^ 8) d1 (i_rng _ (1 + r2) s2 (by omega) (by simp only [SZ]; omega)) ⟨p2, SubP.rfl'⟩ (fun w hw => by
      refine ⟨[some (.loc p), some (.str "abcdefghijklmnopqrstuvwxyz"), some w], rfl, fun u ⟨hu, hb⟩ => ?_⟩
      obtain ⟨r, u', e, rb, pu, bu⟩ := take_nat (k := k + 1) hu 26 (by decide) (by decide)
      obtain ⟨c, hc, ec⟩ := letter_at r (by omega) u'
      exact ⟨.str ⟨#[c]⟩, u', elt13 e ec, ⟨pu, hb.trans bu⟩, c, rfl, hc⟩)
    obtain ⟨zs, j1, j2, j3, j4, j5⟩ := join_ok ys q3
    have lr : ys.length = 1 + r2 := by rw [l3]; simp
    have hj : met .join (.str "") [.loc s3.length] (s3 ++ [SO.lst ys]) = .ok (.str (Str.join "" zs)) (s3 ++ [SO.lst ys]) := by
      have h1 : isSeq (s3 ++ [SO.lst ys]) (.loc s3.length) = some ys := by simp [isSeq, isLst]
      have el : (("" : Str)).length = 0 := rfl
      have hz : (zs.map fun y => y.length).sum + zs.length * ("" : Str).length ≤ SZ := by rw [j3, el]; simp only [SZ]; omega
      simp only [met, h1, j1, if_pos hz]
      rw [TL.join_eq]
    refine ⟨Str.join "" zs, s3 ++ [SO.lst ys], ?_, ⟨by omega, j5⟩, p3.app _, (b1.trans b2).trans (b3.trans (SubP.app _ _ _))⟩
    have hm : metOk s1 .join (.str "") = true := rfl
    simp only [b13, e1, dec0, hr, hm, e3, hj, x_cst, x_var, x_tup, x_lst, x_bin, x_neg, x_not, x_cmp, x_cmp2, x_and1, x_and, x_or1, x_or, x_ite, x_idx, x_slc, x_call, x_blt, x_met, x_isi, x_nil, x_cons, x_c0, x_c1, x_p0, x_p1, y_nil, y_cons, y_set, y_rtn, y_ite, y_exp, decide_true, w_ok, q_nxt, q_rtn, b_rtn, t_bl, r_ret, a_nm, c_lt, c_le, c_gt, c_ge, c_eqi, c_eqs, c_nes, c_eq0, c_ne0, c_in2, z0, z1, z2, z3, z4, z5, z6, z7, z8, c_les, b_list, l_lay, b_lent, i_tup, bind_ok, List.getElem?_cons_zero, List.getElem?_cons_succ, List.map_cons, List.map_nil, List.replicate, Nat.sub_zero, Nat.reduceSub, List.cons_append, List.nil_append, List.append_nil, List.mapM_cons, List.mapM_nil, Option.pure_def, Option.bind_eq_bind, Option.bind_some, List.any_cons, List.any_nil, id, Bool.or_false, Bool.not_true, Bool.not_false, if_true, if_false, Bool.false_eq_true, reduceIte, List.set_cons_zero, List.set_cons_succ]
end K11

namespace K11
open PySem hiding Env exec execs
open L2 Mi
theorem num_ok {k p : Nat} {s : Sto} (h : Pot p s) : ∃ i s', ph (k + 2) 14 [.loc p] s = .ok (.int i) s' ∧ i.natAbs < 10 ^ 31 ∧ Pot p s' ∧ SubP p s s' := by
  rw [call_eq (d := ⟨1, 1, b14⟩) rfl rfl]
  have ep : ∀ s, binop .pow (.int 10) (.int 30) s = .ok (.int (10 ^ 30)) s := fun s => o_pow s 10 30 (by decide)
  let B : List W := [.int 1, .int 9, .int 100, .int (10 ^ 30 - 1)]
  have hq : (s ++ [SO.lst B])[s.length]? = some (.lst B) := by simp
  obtain ⟨r, s1, e1, r1, p1, b1⟩ := take_nat (k := k) (h.app [SO.lst B]) 4 (by decide) (by decide)
  have hq1 : s1[s.length]? = some (.lst B) := b1 _ _ (by have := h.lt; omega) hq (by simp)
  obtain ⟨x, hx, e2⟩ := get_mem hq1 r (by show r < 4; omega)
  have hx' : ∃ j : Int, x = .int j ∧ 0 < j ∧ j < 10 ^ 30 := by
    simp only [B, List.mem_cons, List.not_mem_nil, or_false] at hx
    rcases hx with rfl | rfl | rfl | rfl <;> exact ⟨_, rfl, by decide, by decide⟩
  obtain ⟨j, rfl, j0, j1⟩ := hx'
  have c1 : ((2 : Nat) ^ 120 : Nat) = 1329227995784915872903807060280344576 := by decide
  have c2 : ((10 : Int) ^ 30 : Int) = 1000000000000000000000000000000 := by decide
  have hlog : j.natAbs.log2 < 9000 := small_log (by omega)
  obtain ⟨r2, s2, e3, r2b, p2, b2⟩ := take_nat (k := k) p1 j j0 hlog
  refine ⟨1 + (r2 : Int), s2, ?_, ?_, p2, ((SubP.app _ _ _).trans b1).trans b2⟩
  · simp only [B] at e1 e2
    simp only [b14, ep, o_sub, e1, e2, e3, o_add, x_cst, x_var, x_tup, x_lst, x_bin, x_neg, x_not, x_cmp, x_cmp2, x_and1, x_and, x_or1, x_or, x_ite, x_idx, x_slc, x_call, x_blt, x_met, x_isi, x_nil, x_cons, x_c0, x_c1, x_p0, x_p1, y_nil, y_cons, y_set, y_rtn, y_ite, y_exp, decide_true, w_ok, q_nxt, q_rtn, b_rtn, t_bl, r_ret, a_nm, c_lt, c_le, c_gt, c_ge, c_eqi, c_eqs, c_nes, c_eq0, c_ne0, c_in2, z0, z1, z2, z3, z4, z5, z6, z7, z8, c_les, b_list, l_lay, b_lent, i_tup, bind_ok, List.getElem?_cons_zero, List.getElem?_cons_succ, List.map_cons, List.map_nil, List.replicate, Nat.sub_zero, Nat.reduceSub, List.cons_append, List.nil_append, List.append_nil, List.mapM_cons, List.mapM_nil, Option.pure_def, Option.bind_eq_bind, Option.bind_some, List.any_cons, List.any_nil, id, Bool.or_false, Bool.not_true, Bool.not_false, if_true, if_false, Bool.false_eq_true, reduceIte, List.set_cons_zero, List.set_cons_succ]
  · have e1 : ((10 : Nat) ^ 31 : Nat) = 10000000000000000000000000000000 := by decide
    have e2 : ((10 : Int) ^ 30 : Int) = 1000000000000000000000000000000 := by decide
    omega
theorem gv_int {s : Sto} {n : Nat} {i : Int} (h : i.natAbs < 10 ^ 31) : GV s (n + 1) 140 (.int i) := ⟨⟨Nat.le_refl _, by decide⟩, h⟩
theorem gv_s {s : Sto} {n : Nat} {x : Str} (h : okS x) : GV s (n + 1) 140 (.str x) := gv_str h.1 h.2
theorem thread_ok {k p : Nat} {s : Sto} (h : Pot p s) : ∃ w s', ph (k + 4) 15 [.loc p] s = .ok w s' ∧ (∀ u, GV u 2 30000 w) ∧ Pot p s' ∧ SubP p s s' := by
  rw [call_eq (d := ⟨1, 3, b15⟩) rfl rfl]
  obtain ⟨a1, s1, e1, l1, p1, b1⟩ := take_nat (k := k + 2) h 5 (by decide) (by decide)
  obtain ⟨a2, s2, e2, l2, p2, b2⟩ := take_nat (k := k + 2) p1 5 (by decide) (by decide)
  obtain ⟨a3, s3, e3, l3, p3, b3⟩ := take_nat (k := k + 2) p2 5 (by decide) (by decide)
  obtain ⟨a4, s4, e4, l4, p4, b4⟩ := take_nat (k := k + 2) p3 4 (by decide) (by decide)
  let B : List W := [.int a1, .int a2, .int a3, .int (9 + (a4 : Int)), .int 200]
  have hq : (s4 ++ [SO.lst B])[s4.length]? = some (.lst B) := by simp
  obtain ⟨a5, s5, e5, l5, p5, b5⟩ := take_nat (k := k + 2) (p4.app [SO.lst B]) 5 (by decide) (by decide)
  have hq1 : s5[s4.length]? = some (.lst B) := b5 _ _ (by have := p4.lt; omega) hq (by simp)
  obtain ⟨x, hx, e6⟩ := get_mem hq1 a5 (by show a5 < 5; omega)
  have hx' : ∃ j : Nat, x = .int j ∧ j ≤ 200 := by
    simp only [B, List.mem_cons, List.not_mem_nil, or_false] at hx
    rcases hx with rfl | rfl | rfl | rfl | rfl
    · exact ⟨a1, rfl, by omega⟩
    · exact ⟨a2, rfl, by omega⟩
    · exact ⟨a3, rfl, by omega⟩
    · exact ⟨9 + a4, by simp, by omega⟩
    · exact ⟨200, rfl, by omega⟩
  obtain ⟨j, rfl, hj⟩ := hx'
  obtain ⟨y, s6, e7, oy, p6, b6⟩ := name_ok (k := k) p5
  have d1 : dens (ph (k + 3)) [(.var 1)] [some (.loc p), some (.int (j : Int)), none] s6 = .ok [.int (j : Int)] s6 := by simp only [x_cst, x_var, x_tup, x_lst, x_bin, x_neg, x_not, x_cmp, x_cmp2, x_and1, x_and, x_or1, x_or, x_ite, x_idx, x_slc, x_call, x_blt, x_met, x_isi, x_nil, x_cons, x_c0, x_c1, x_p0, x_p1, y_nil, y_cons, y_set, y_rtn, y_ite, y_exp, decide_true, w_ok, q_nxt, q_rtn, b_rtn, t_bl, r_ret, a_nm, c_lt, c_le, c_gt, c_ge, c_eqi, c_eqs, c_nes, c_eq0, c_ne0, c_in2, z0, z1, z2, z3, z4, z5, z6, z7, z8, c_les, b_list, l_lay, b_lent, i_tup, bind_ok, List.getElem?_cons_zero, List.getElem?_cons_succ, List.map_cons, List.map_nil, List.replicate, Nat.sub_zero, Nat.reduceSub, List.cons_append, List.nil_append, List.append_nil, List.mapM_cons, List.mapM_nil, Option.pure_def, Option.bind_eq_bind, Option.bind_some, List.any_cons, List.any_nil, id, Bool.or_false, Bool.not_true, Bool.not_false, if_true, if_false, Bool.false_eq_true, reduceIte, List.set_cons_zero, List.set_cons_succ]
  obtain ⟨ys, s7, e8, ⟨p7, b7⟩, l8, q8⟩ := den_lci (φ := ph (k + 3)) (elt := .call 14 [(.var 0)] [] [0]) (tg := .nm 2) (own := [2]) (k := .rng1) (fun u => Pot p u ∧ SubP p s6 u) (fun y => ∃ i : Int, y = .int i ∧ i.natAbs < 10 ^ 31) d1 (i_rng1 j s6 (by simp only [SZ]; omega)) ⟨p6, SubP.rfl'⟩ (fun w hw => by
    refine ⟨[some (.loc p), some (.int (j : Int)), some w], rfl, fun u ⟨hu, hb⟩ => ?_⟩
    obtain ⟨i, u', e, ri, pu, bu⟩ := num_ok (k := k + 1) hu
    exact ⟨.int i, u', by simp only [e, x_cst, x_var, x_tup, x_lst, x_bin, x_neg, x_not, x_cmp, x_cmp2, x_and1, x_and, x_or1, x_or, x_ite, x_idx, x_slc, x_call, x_blt, x_met, x_isi, x_nil, x_cons, x_c0, x_c1, x_p0, x_p1, y_nil, y_cons, y_set, y_rtn, y_ite, y_exp, decide_true, w_ok, q_nxt, q_rtn, b_rtn, t_bl, r_ret, a_nm, c_lt, c_le, c_gt, c_ge, c_eqi, c_eqs, c_nes, c_eq0, c_ne0, c_in2, z0, z1, z2, z3, z4, z5, z6, z7, z8, c_les, b_list, l_lay, b_lent, i_tup, bind_ok, List.getElem?_cons_zero, List.getElem?_cons_succ, List.map_cons, List.map_nil, List.replicate, Nat.sub_zero, Nat.reduceSub, List.cons_append, List.nil_append, List.append_nil, List.mapM_cons, List.mapM_nil, Option.pure_def, Option.bind_eq_bind, Option.bind_some, List.any_cons, List.any_nil, id, Bool.or_false, Bool.not_true, Bool.not_false, if_true, if_false, Bool.false_eq_true, reduceIte, List.set_cons_zero, List.set_cons_succ], ⟨pu, hb.trans bu⟩, i, rfl, ri⟩)
  have e9 : blt .tuple [.loc s7.length] (s7 ++ [SO.lst ys]) = .ok (.tup ys) (s7 ++ [SO.lst ys]) := b_tupl _ _ _ (by simp)
  have ly : ys.length = j := by rw [l8]; simp
  refine ⟨.tup (.str y :: ys), s7 ++ [SO.lst ys], ?_, fun u => ?_, p7.app _, ((((((b1.trans b2).trans b3).trans b4).trans (SubP.app _ _ _)).trans b5).trans b6).trans (b7.trans (SubP.app _ _ _))⟩
  · simp only [B] at e5 e6
    simp only [b15, e1, e2, e3, e4, e5, e6, e7, e8, e9, o_add, o_tup _ [W.str y] ys (by simp only [List.length_singleton, SZ]; omega), x_cst, x_var, x_tup, x_lst, x_bin, x_neg, x_not, x_cmp, x_cmp2, x_and1, x_and, x_or1, x_or, x_ite, x_idx, x_slc, x_call, x_blt, x_met, x_isi, x_nil, x_cons, x_c0, x_c1, x_p0, x_p1, y_nil, y_cons, y_set, y_rtn, y_ite, y_exp, decide_true, w_ok, q_nxt, q_rtn, b_rtn, t_bl, r_ret, a_nm, c_lt, c_le, c_gt, c_ge, c_eqi, c_eqs, c_nes, c_eq0, c_ne0, c_in2, z0, z1, z2, z3, z4, z5, z6, z7, z8, c_les, b_list, l_lay, b_lent, i_tup, bind_ok, List.getElem?_cons_zero, List.getElem?_cons_succ, List.map_cons, List.map_nil, List.replicate, Nat.sub_zero, Nat.reduceSub, List.cons_append, List.nil_append, List.append_nil, List.mapM_cons, List.mapM_nil, Option.pure_def, Option.bind_eq_bind, Option.bind_some, List.any_cons, List.any_nil, id, Bool.or_false, Bool.not_true, Bool.not_false, if_true, if_false, Bool.false_eq_true, reduceIte, List.set_cons_zero, List.set_cons_succ]
  · refine tup_same (n := 1) (m := 140) (fun w hw => ?_) (by simp only [List.length_cons]; omega) (by decide)
    rcases List.mem_cons.mp hw with rfl | hw
    · exact gv_s oy
    · obtain ⟨i, rfl, hi⟩ := q8 w hw
      exact gv_int hi
theorem gv2 {u : Sto} {n a b m : Nat} {x y : W} (h1 : GV u n a x) (h2 : GV u n b y) (hm : a + b + 4 + 140 ≤ m) (hz : m ≤ SZ) : GV u (n + 1) m (.tup [x, y]) :=
  ⟨⟨by omega, hz⟩, [a, b], ⟨h1, h2, trivial⟩, by simp only [List.sum_cons, List.sum_nil, List.length_cons, List.length_nil]; omega⟩
theorem gv3 {u : Sto} {n a b c m : Nat} {x y z : W} (h1 : GV u n a x) (h2 : GV u n b y) (h3 : GV u n c z) (hm : a + b + c + 6 + 140 ≤ m) (hz : m ≤ SZ) : GV u (n + 1) m (.tup [x, y, z]) :=
  ⟨⟨by omega, hz⟩, [a, b, c], ⟨h1, h2, h3, trivial⟩, by simp only [List.sum_cons, List.sum_nil, List.length_cons, List.length_nil]; omega⟩
theorem ok_thread : okS "thread" := lit_ok _ (by decide +kernel)
theorem ok_locker : okS "locker" := lit_ok _ (by decide +kernel)
theorem ok_line : okS "line" := lit_ok _ (by decide +kernel)
theorem ok_key : okS "key" := lit_ok _ (by decide +kernel)
theorem point_ok {k p : Nat} {s : Sto} (h : Pot p s) : ∃ w s', ph (k + 5) 16 [.loc p] s = .ok w s' ∧ (∀ u, GV u 3 31000 w) ∧ Pot p s' ∧ SubP p s s' := by
  rw [call_eq (d := ⟨1, 1, b16⟩) rfl rfl]
  obtain ⟨r, s1, e1, r1, p1, b1⟩ := take_nat (k := k + 3) h 2 (by decide) (by decide)
  obtain ⟨x, s2, e2, g2, p2, b2⟩ := thread_ok (k := k) p1
  cases hr : decide (r = 0) with
  | true =>
    refine ⟨.tup [.str "thread", x], s2, ?_, fun u => gv2 (gv_s ok_thread) (g2 u) (by omega) (by decide), p2, b1.trans b2⟩
    simp only [b16, e1, dec0, hr, e2, x_cst, x_var, x_tup, x_lst, x_bin, x_neg, x_not, x_cmp, x_cmp2, x_and1, x_and, x_or1, x_or, x_ite, x_idx, x_slc, x_call, x_blt, x_met, x_isi, x_nil, x_cons, x_c0, x_c1, x_p0, x_p1, y_nil, y_cons, y_set, y_rtn, y_ite, y_exp, decide_true, w_ok, q_nxt, q_rtn, b_rtn, t_bl, r_ret, a_nm, c_lt, c_le, c_gt, c_ge, c_eqi, c_eqs, c_nes, c_eq0, c_ne0, c_in2, z0, z1, z2, z3, z4, z5, z6, z7, z8, c_les, b_list, l_lay, b_lent, i_tup, bind_ok, List.getElem?_cons_zero, List.getElem?_cons_succ, List.map_cons, List.map_nil, List.replicate, Nat.sub_zero, Nat.reduceSub, List.cons_append, List.nil_append, List.append_nil, List.mapM_cons, List.mapM_nil, Option.pure_def, Option.bind_eq_bind, Option.bind_some, List.any_cons, List.any_nil, id, Bool.or_false, Bool.not_true, Bool.not_false, if_true, if_false, Bool.false_eq_true, reduceIte, List.set_cons_zero, List.set_cons_succ]
  | false =>
    obtain ⟨i, s3, e3, hi, p3, b3⟩ := num_ok (k := k + 2) p2
    refine ⟨.tup [.str "locker", x, .int i], s3, ?_, fun u => gv3 (gv_s ok_locker) (g2 u) (gv_int hi) (by omega) (by decide), p3, (b1.trans b2).trans b3⟩
    simp only [b16, e1, dec0, hr, e2, e3, x_cst, x_var, x_tup, x_lst, x_bin, x_neg, x_not, x_cmp, x_cmp2, x_and1, x_and, x_or1, x_or, x_ite, x_idx, x_slc, x_call, x_blt, x_met, x_isi, x_nil, x_cons, x_c0, x_c1, x_p0, x_p1, y_nil, y_cons, y_set, y_rtn, y_ite, y_exp, decide_true, w_ok, q_nxt, q_rtn, b_rtn, t_bl, r_ret, a_nm, c_lt, c_le, c_gt, c_ge, c_eqi, c_eqs, c_nes, c_eq0, c_ne0, c_in2, z0, z1, z2, z3, z4, z5, z6, z7, z8, c_les, b_list, l_lay, b_lent, i_tup, bind_ok, List.getElem?_cons_zero, List.getElem?_cons_succ, List.map_cons, List.map_nil, List.replicate, Nat.sub_zero, Nat.reduceSub, List.cons_append, List.nil_append, List.append_nil, List.mapM_cons, List.mapM_nil, Option.pure_def, Option.bind_eq_bind, Option.bind_some, List.any_cons, List.any_nil, id, Bool.or_false, Bool.not_true, Bool.not_false, if_true, if_false, Bool.false_eq_true, reduceIte, List.set_cons_zero, List.set_cons_succ]
end K11

namespace K11
open PySem hiding Env exec execs
open L2 Mi
theorem thing_ok {k p : Nat} {s : Sto} (h : Pot p s) (kind : Nat) (hk : kind < 6) : ∃ w s', ph (k + 6) 17 [.loc p, .int (kind : Int)] s = .ok w s' ∧ (∀ u, GV u 4 63000 w) ∧ Pot p s' ∧ SubP p s s' := by
  rw [call_eq (d := ⟨2, 3, b17⟩) rfl rfl]
  have up : ∀ {n m w u}, GV u n m w → n ≤ 4 → m ≤ 63000 → GV u 4 63000 w := fun h a b => h.up a b (by decide)
  match kind, hk with
  | 0, _ =>
    obtain ⟨x, s1, e1, g1, p1, b1⟩ := name_ok (k := k + 2) h
    refine ⟨.str x, s1, ?_, fun u => up (gv_s (n := 0) g1) (by omega) (by omega), p1, b1⟩
    simp only [b17, show decide (((0 : Nat) : Int) = 0) = true from rfl, e1, x_cst, x_var, x_tup, x_lst, x_bin, x_neg, x_not, x_cmp, x_cmp2, x_and1, x_and, x_or1, x_or, x_ite, x_idx, x_slc, x_call, x_blt, x_met, x_isi, x_nil, x_cons, x_c0, x_c1, x_p0, x_p1, y_nil, y_cons, y_set, y_rtn, y_ite, y_exp, decide_true, w_ok, q_nxt, q_rtn, b_rtn, t_bl, r_ret, a_nm, c_lt, c_le, c_gt, c_ge, c_eqi, c_eqs, c_nes, c_eq0, c_ne0, c_in2, z0, z1, z2, z3, z4, z5, z6, z7, z8, c_les, b_list, l_lay, b_lent, i_tup, bind_ok, List.getElem?_cons_zero, List.getElem?_cons_succ, List.map_cons, List.map_nil, List.replicate, Nat.sub_zero, Nat.reduceSub, List.cons_append, List.nil_append, List.append_nil, List.mapM_cons, List.mapM_nil, Option.pure_def, Option.bind_eq_bind, Option.bind_some, List.any_cons, List.any_nil, id, Bool.or_false, Bool.not_true, Bool.not_false, if_true, if_false, Bool.false_eq_true, reduceIte, List.set_cons_zero, List.set_cons_succ]
  | 1, _ =>
    obtain ⟨x, s1, e1, g1, p1, b1⟩ := thread_ok (k := k + 1) h
    refine ⟨x, s1, ?_, fun u => up (g1 u) (by omega) (by omega), p1, b1⟩
    simp only [b17, show decide (((1 : Nat) : Int) = 0) = false from rfl, show decide (((1 : Nat) : Int) = 1) = true from rfl, e1, x_cst, x_var, x_tup, x_lst, x_bin, x_neg, x_not, x_cmp, x_cmp2, x_and1, x_and, x_or1, x_or, x_ite, x_idx, x_slc, x_call, x_blt, x_met, x_isi, x_nil, x_cons, x_c0, x_c1, x_p0, x_p1, y_nil, y_cons, y_set, y_rtn, y_ite, y_exp, decide_true, w_ok, q_nxt, q_rtn, b_rtn, t_bl, r_ret, a_nm, c_lt, c_le, c_gt, c_ge, c_eqi, c_eqs, c_nes, c_eq0, c_ne0, c_in2, z0, z1, z2, z3, z4, z5, z6, z7, z8, c_les, b_list, l_lay, b_lent, i_tup, bind_ok, List.getElem?_cons_zero, List.getElem?_cons_succ, List.map_cons, List.map_nil, List.replicate, Nat.sub_zero, Nat.reduceSub, List.cons_append, List.nil_append, List.append_nil, List.mapM_cons, List.mapM_nil, Option.pure_def, Option.bind_eq_bind, Option.bind_some, List.any_cons, List.any_nil, id, Bool.or_false, Bool.not_true, Bool.not_false, if_true, if_false, Bool.false_eq_true, reduceIte, List.set_cons_zero, List.set_cons_succ]
  | 2, _ =>
    obtain ⟨x, s1, e1, g1, p1, b1⟩ := thread_ok (k := k + 1) (h.app [SO.lst [W.str "line", W.str "locker"]])
    obtain ⟨i, s2, e2, hi, p2, b2⟩ := num_ok (k := k + 3) p1
    have e0 : idxW (.loc s.length) (.int (((2 : Nat) : Int) - 2)) (s ++ [SO.lst [W.str "line", W.str "locker"]]) = .ok (.str "line") (s ++ [SO.lst [W.str "line", W.str "locker"]]) := i_loc _ _ [W.str "line", W.str "locker"] _ _ (by simp) rfl
    refine ⟨.tup [.str "line", x, .int i], s2, ?_, fun u => up (gv3 (gv_s ok_line) (g1 u) (gv_int hi) (Nat.le_refl _) (by decide)) (by omega) (by omega), p2, ((SubP.app _ _ _).trans b1).trans b2⟩
    simp only [b17, show decide (((2 : Nat) : Int) = 0) = false from rfl, show decide (((2 : Nat) : Int) = 1) = false from rfl, show decide (((2 : Nat) : Int) < 4) = true from rfl, o_sub, e0, e1, e2, x_cst, x_var, x_tup, x_lst, x_bin, x_neg, x_not, x_cmp, x_cmp2, x_and1, x_and, x_or1, x_or, x_ite, x_idx, x_slc, x_call, x_blt, x_met, x_isi, x_nil, x_cons, x_c0, x_c1, x_p0, x_p1, y_nil, y_cons, y_set, y_rtn, y_ite, y_exp, decide_true, w_ok, q_nxt, q_rtn, b_rtn, t_bl, r_ret, a_nm, c_lt, c_le, c_gt, c_ge, c_eqi, c_eqs, c_nes, c_eq0, c_ne0, c_in2, z0, z1, z2, z3, z4, z5, z6, z7, z8, c_les, b_list, l_lay, b_lent, i_tup, bind_ok, List.getElem?_cons_zero, List.getElem?_cons_succ, List.map_cons, List.map_nil, List.replicate, Nat.sub_zero, Nat.reduceSub, List.cons_append, List.nil_append, List.append_nil, List.mapM_cons, List.mapM_nil, Option.pure_def, Option.bind_eq_bind, Option.bind_some, List.any_cons, List.any_nil, id, Bool.or_false, Bool.not_true, Bool.not_false, if_true, if_false, Bool.false_eq_true, reduceIte, List.set_cons_zero, List.set_cons_succ]
  | 3, _ =>
    obtain ⟨x, s1, e1, g1, p1, b1⟩ := thread_ok (k := k + 1) (h.app [SO.lst [W.str "line", W.str "locker"]])
    obtain ⟨i, s2, e2, hi, p2, b2⟩ := num_ok (k := k + 3) p1
    have e0 : idxW (.loc s.length) (.int (((3 : Nat) : Int) - 2)) (s ++ [SO.lst [W.str "line", W.str "locker"]]) = .ok (.str "locker") (s ++ [SO.lst [W.str "line", W.str "locker"]]) := i_loc _ _ [W.str "line", W.str "locker"] _ _ (by simp) rfl
    refine ⟨.tup [.str "locker", x, .int i], s2, ?_, fun u => up (gv3 (gv_s ok_locker) (g1 u) (gv_int hi) (Nat.le_refl _) (by decide)) (by omega) (by omega), p2, ((SubP.app _ _ _).trans b1).trans b2⟩
    simp only [b17, show decide (((3 : Nat) : Int) = 0) = false from rfl, show decide (((3 : Nat) : Int) = 1) = false from rfl, show decide (((3 : Nat) : Int) < 4) = true from rfl, o_sub, e0, e1, e2, x_cst, x_var, x_tup, x_lst, x_bin, x_neg, x_not, x_cmp, x_cmp2, x_and1, x_and, x_or1, x_or, x_ite, x_idx, x_slc, x_call, x_blt, x_met, x_isi, x_nil, x_cons, x_c0, x_c1, x_p0, x_p1, y_nil, y_cons, y_set, y_rtn, y_ite, y_exp, decide_true, w_ok, q_nxt, q_rtn, b_rtn, t_bl, r_ret, a_nm, c_lt, c_le, c_gt, c_ge, c_eqi, c_eqs, c_nes, c_eq0, c_ne0, c_in2, z0, z1, z2, z3, z4, z5, z6, z7, z8, c_les, b_list, l_lay, b_lent, i_tup, bind_ok, List.getElem?_cons_zero, List.getElem?_cons_succ, List.map_cons, List.map_nil, List.replicate, Nat.sub_zero, Nat.reduceSub, List.cons_append, List.nil_append, List.append_nil, List.mapM_cons, List.mapM_nil, Option.pure_def, Option.bind_eq_bind, Option.bind_some, List.any_cons, List.any_nil, id, Bool.or_false, Bool.not_true, Bool.not_false, if_true, if_false, Bool.false_eq_true, reduceIte, List.set_cons_zero, List.set_cons_succ]
  | 4, _ =>
    obtain ⟨x, s1, e1, g1, p1, b1⟩ := point_ok (k := k) h
    refine ⟨x, s1, ?_, fun u => up (g1 u) (by omega) (by omega), p1, b1⟩
    simp only [b17, show decide (((4 : Nat) : Int) = 0) = false from rfl, show decide (((4 : Nat) : Int) = 1) = false from rfl, show decide (((4 : Nat) : Int) < 4) = false from rfl, show decide (((4 : Nat) : Int) = 4) = true from rfl, e1, x_cst, x_var, x_tup, x_lst, x_bin, x_neg, x_not, x_cmp, x_cmp2, x_and1, x_and, x_or1, x_or, x_ite, x_idx, x_slc, x_call, x_blt, x_met, x_isi, x_nil, x_cons, x_c0, x_c1, x_p0, x_p1, y_nil, y_cons, y_set, y_rtn, y_ite, y_exp, decide_true, w_ok, q_nxt, q_rtn, b_rtn, t_bl, r_ret, a_nm, c_lt, c_le, c_gt, c_ge, c_eqi, c_eqs, c_nes, c_eq0, c_ne0, c_in2, z0, z1, z2, z3, z4, z5, z6, z7, z8, c_les, b_list, l_lay, b_lent, i_tup, bind_ok, List.getElem?_cons_zero, List.getElem?_cons_succ, List.map_cons, List.map_nil, List.replicate, Nat.sub_zero, Nat.reduceSub, List.cons_append, List.nil_append, List.append_nil, List.mapM_cons, List.mapM_nil, Option.pure_def, Option.bind_eq_bind, Option.bind_some, List.any_cons, List.any_nil, id, Bool.or_false, Bool.not_true, Bool.not_false, if_true, if_false, Bool.false_eq_true, reduceIte, List.set_cons_zero, List.set_cons_succ]
  | 5, _ =>
    obtain ⟨x, s1, e1, g1, p1, b1⟩ := thread_ok (k := k + 1) h
    obtain ⟨i, s2, e2, hi, p2, b2⟩ := num_ok (k := k + 3) p1
    obtain ⟨r, s3, e3, r3, p3, b3⟩ := take_nat (k := k + 4) p2 6 (by decide) (by decide)
    have gl : ∀ u, GV u 3 31000 (.tup [.str "locker", x, .int i]) := fun u => gv3 (gv_s ok_locker) (g1 u) (gv_int hi) (by omega) (by decide)
    cases hr : decide (r = 0) with
    | true =>
      refine ⟨.tup [.str "key", .tup [.str "locker", x, .int i], .tup [.str "locker", x, .int i]], s3, ?_, fun u => gv3 (gv_s ok_key) (gl u) (gl u) (by omega) (by decide), p3, (b1.trans b2).trans b3⟩
      simp only [b17, show decide (((5 : Nat) : Int) = 0) = false from rfl, show decide (((5 : Nat) : Int) = 1) = false from rfl, show decide (((5 : Nat) : Int) < 4) = false from rfl, show decide (((5 : Nat) : Int) = 4) = false from rfl, e1, e2, e3, dec0, hr, x_cst, x_var, x_tup, x_lst, x_bin, x_neg, x_not, x_cmp, x_cmp2, x_and1, x_and, x_or1, x_or, x_ite, x_idx, x_slc, x_call, x_blt, x_met, x_isi, x_nil, x_cons, x_c0, x_c1, x_p0, x_p1, y_nil, y_cons, y_set, y_rtn, y_ite, y_exp, decide_true, w_ok, q_nxt, q_rtn, b_rtn, t_bl, r_ret, a_nm, c_lt, c_le, c_gt, c_ge, c_eqi, c_eqs, c_nes, c_eq0, c_ne0, c_in2, z0, z1, z2, z3, z4, z5, z6, z7, z8, c_les, b_list, l_lay, b_lent, i_tup, bind_ok, List.getElem?_cons_zero, List.getElem?_cons_succ, List.map_cons, List.map_nil, List.replicate, Nat.sub_zero, Nat.reduceSub, List.cons_append, List.nil_append, List.append_nil, List.mapM_cons, List.mapM_nil, Option.pure_def, Option.bind_eq_bind, Option.bind_some, List.any_cons, List.any_nil, id, Bool.or_false, Bool.not_true, Bool.not_false, if_true, if_false, Bool.false_eq_true, reduceIte, List.set_cons_zero, List.set_cons_succ]
    | false =>
      obtain ⟨y, s4, e4, g4, p4, b4⟩ := point_ok (k := k) p3
      refine ⟨.tup [.str "key", .tup [.str "locker", x, .int i], y], s4, ?_, fun u => gv3 (gv_s ok_key) (gl u) (g4 u) (by omega) (by decide), p4, ((b1.trans b2).trans b3).trans b4⟩
      simp only [b17, show decide (((5 : Nat) : Int) = 0) = false from rfl, show decide (((5 : Nat) : Int) = 1) = false from rfl, show decide (((5 : Nat) : Int) < 4) = false from rfl, show decide (((5 : Nat) : Int) = 4) = false from rfl, e1, e2, e3, e4, dec0, hr, x_cst, x_var, x_tup, x_lst, x_bin, x_neg, x_not, x_cmp, x_cmp2, x_and1, x_and, x_or1, x_or, x_ite, x_idx, x_slc, x_call, x_blt, x_met, x_isi, x_nil, x_cons, x_c0, x_c1, x_p0, x_p1, y_nil, y_cons, y_set, y_rtn, y_ite, y_exp, decide_true, w_ok, q_nxt, q_rtn, b_rtn, t_bl, r_ret, a_nm, c_lt, c_le, c_gt, c_ge, c_eqi, c_eqs, c_nes, c_eq0, c_ne0, c_in2, z0, z1, z2, z3, z4, z5, z6, z7, z8, c_les, b_list, l_lay, b_lent, i_tup, bind_ok, List.getElem?_cons_zero, List.getElem?_cons_succ, List.map_cons, List.map_nil, List.replicate, Nat.sub_zero, Nat.reduceSub, List.cons_append, List.nil_append, List.append_nil, List.mapM_cons, List.mapM_nil, Option.pure_def, Option.bind_eq_bind, Option.bind_some, List.any_cons, List.any_nil, id, Bool.or_false, Bool.not_true, Bool.not_false, if_true, if_false, Bool.false_eq_true, reduceIte, List.set_cons_zero, List.set_cons_succ]
theorem z18 {α : Type} (a0 a1 a2 a3 a4 a5 a6 a7 a8 a9 a10 a11 a12 a13 a14 a15 a16 a17 : W) (x y : α) : (if ([a0, a1, a2, a3, a4, a5, a6, a7, a8, a9, a10, a11, a12, a13, a14, a15, a16, a17] : List W).length ≤ SZ then x else y) = x := if_pos (by simp [SZ])
theorem d_0 (s : Sto) : dctOf [] s = .ok (.loc s.length) (s ++ [SO.dct []]) := rfl
theorem d_1 (s : Sto) : dctOf [.str "a", .int 1] s = .ok (.loc s.length) (s ++ [SO.dct [(.str "a", .int 1)]]) := by
  simp [dctOf, pairUp, isKey, lay]
theorem add_l {s : Sto} {a b : Nat} {x y : List W} (h1 : s[a]? = some (.lst x)) (h2 : s[b]? = some (.lst y)) (h : x.length + y.length ≤ SZ) : binop .add (.loc a) (.loc b) s = .ok (.loc s.length) (s ++ [SO.lst (x ++ y)]) := by
  simp only [binop, h1, h2, if_pos h, lay]
theorem ok_l (x : Str) (h : (decide (x.length ≤ 12) && x.cps.toList.all fun c => decide (c < 16 ^ 8)) = true) (u : Sto) : GV u 3 1000 (.str x) := (gv_s (n := 0) (lit_ok x h)).up (by omega) (by omega) (by decide)
theorem ok_i (i : Int) (h : i.natAbs < 10 ^ 31) (u : Sto) : GV u 3 1000 (.int i) := (gv_int (n := 0) h).up (by omega) (by omega) (by decide)
theorem odd_ok {k p : Nat} {s : Sto} (h : Pot p s) : ∃ w s', ph (k + 3) 18 [.loc p] s = .ok w s' ∧ GP p s' 3 1000 w ∧ Pot p s' ∧ SubP p s s' := by
  rw [call_eq (d := ⟨1, 2, b18⟩) rfl rfl]
  let S1 := s ++ [SO.lst []]
  let S2 := S1 ++ [SO.dct []]
  let S3 := S2 ++ [SO.lst [.str "a"]]
  let L1 : List W := [.non, .bl true, .bl false, .int 0, .int 1, .int (-1), .str "", .str "a", .str "A", .str "ab1", .str "abcdefgh", .str "abcdefghi", .str "a b", .loc s.length, .tup [], .loc S1.length, .loc S2.length, .tup [.str "a"]]
  let S4 := S3 ++ [SO.lst L1]
  let S5 := S4 ++ [SO.lst [.str "thread", .tup [.str "a"]]]
  let S6 := S5 ++ [SO.dct [(.str "a", .int 1)]]
  let L2 : List W := [.tup [.str "a", .int 1], .tup [.str "a", .int 0], .loc S4.length, .loc S5.length, .str "thread", .str "Line", .tup [.str "key"], .tup [.str "thread", .tup [.str "a"]]]
  let S7 := S6 ++ [SO.lst L2]
  let S8 := S7 ++ [SO.lst (L1 ++ L2)]
  have hs8 : S8 = s ++ [SO.lst [], SO.dct [], SO.lst [.str "a"], SO.lst L1, SO.lst [.str "thread", .tup [.str "a"]], SO.dct [(.str "a", .int 1)], SO.lst L2, SO.lst (L1 ++ L2)] := by
    simp only [S8, S7, S6, S5, S4, S3, S2, S1, List.append_assoc, List.cons_append, List.nil_append]
  have ea : binop .add (.loc S3.length) (.loc S6.length) S7 = .ok (.loc S7.length) S8 := by
    refine add_l ?_ ?_ (show 18 + 8 ≤ SZ by decide)
    · have : S7 = S3 ++ ([SO.lst L1] ++ [SO.lst [.str "thread", .tup [.str "a"]]] ++ [SO.dct [(.str "a", .int 1)]] ++ [SO.lst L2]) := by simp only [S7, S6, S5, S4, List.append_assoc]
      rw [this, List.getElem?_append_right (Nat.le_refl _), Nat.sub_self]; rfl
    · show (S6 ++ [SO.lst L2])[S6.length]? = _
      rw [List.getElem?_append_right (Nat.le_refl _), Nat.sub_self]; rfl
  have p8 : Pot p S8 := by rw [hs8]; exact h.app _
  have hlt := h.lt
  have l7 : S7.length = s.length + 7 := by simp [S7, S6, S5, S4, S3, S2, S1]
  have h8 : S8[S7.length]? = some (.lst (L1 ++ L2)) := by
    show (S7 ++ [SO.lst (L1 ++ L2)])[S7.length]? = _
    rw [List.getElem?_append_right (Nat.le_refl _), Nat.sub_self]; rfl
  obtain ⟨w, s', e, hm, p9, b9⟩ := among_ok (k := k) p8 h8 (by omega) (by show 0 < 26; decide) (by show 26 < 100; decide)
  refine ⟨w, s', ?_, ?_, p9, (by rw [hs8] at b9; exact (SubP.app _ _ _).trans b9)⟩
  · simp only [S8, S7, S6, S5, S4, S3, S2, S1, L1, L2, List.cons_append, List.nil_append] at e ea
    simp only [b18, x_dct, d_0, d_1, z18, ea, e, x_cst, x_var, x_tup, x_lst, x_bin, x_neg, x_not, x_cmp, x_cmp2, x_and1, x_and, x_or1, x_or, x_ite, x_idx, x_slc, x_call, x_blt, x_met, x_isi, x_nil, x_cons, x_c0, x_c1, x_p0, x_p1, y_nil, y_cons, y_set, y_rtn, y_ite, y_exp, decide_true, w_ok, q_nxt, q_rtn, b_rtn, t_bl, r_ret, a_nm, c_lt, c_le, c_gt, c_ge, c_eqi, c_eqs, c_nes, c_eq0, c_ne0, c_in2, z0, z1, z2, z3, z4, z5, z6, z7, z8, c_les, b_list, l_lay, b_lent, i_tup, bind_ok, List.getElem?_cons_zero, List.getElem?_cons_succ, List.map_cons, List.map_nil, List.replicate, Nat.sub_zero, Nat.reduceSub, List.cons_append, List.nil_append, List.append_nil, List.mapM_cons, List.mapM_nil, Option.pure_def, Option.bind_eq_bind, Option.bind_some, List.any_cons, List.any_nil, id, Bool.or_false, Bool.not_true, Bool.not_false, if_true, if_false, Bool.false_eq_true, reduceIte, List.set_cons_zero, List.set_cons_succ]
  · have gt : ∀ (j : Nat) (o : SO), [SO.lst [], SO.dct [], SO.lst [.str "a"], SO.lst L1, SO.lst [.str "thread", .tup [.str "a"]], SO.dct [(.str "a", .int 1)], SO.lst L2, SO.lst (L1 ++ L2)][j]? = some o → (∀ c fs, o ≠ .ins c fs) → (mask p s')[s.length + j]? = some o := by
      intro j o ho hi
      rw [mask_get (by omega)]
      refine b9 _ _ (by omega) ?_ hi
      rw [hs8, List.getElem?_append_right (by omega), show s.length + j - s.length = j by omega]
      exact ho
    have l1 : S1.length = s.length + 1 := by simp [S1]
    have l2 : S2.length = s.length + 2 := by simp [S2, S1]
    have l4 : S4.length = s.length + 4 := by simp [S4, S3, S2, S1]
    have l5 : S5.length = s.length + 5 := by simp [S5, S4, S3, S2, S1]
    have z1 : 1000 ≤ SZ := by decide
    have ga : GV (mask p s') 1 140 (.str "a") := gv_s (lit_ok _ (by decide +kernel))
    have gta : GV (mask p s') 2 282 (.tup [.str "a"]) := ⟨⟨by decide, by decide⟩, [140], ⟨ga, trivial⟩, by decide⟩
    have ga2 : GV (mask p s') 2 140 (.str "thread") := gv_s ok_thread
    have k0 : GV (mask p s') 3 1000 (.loc s.length) := ⟨⟨by decide, z1⟩, .inl ⟨[], [], gt 0 _ rfl (by simp), trivial, by decide⟩⟩
    have k1 : GV (mask p s') 3 1000 (.loc S1.length) := ⟨⟨by decide, z1⟩, .inr (.inl (by rw [l1]; exact gt 1 _ rfl (by simp)))⟩
    have k2 : GV (mask p s') 3 1000 (.loc S2.length) := ⟨⟨by decide, z1⟩, .inl ⟨[.str "a"], [140], by rw [l2]; exact gt 2 _ rfl (by simp), ⟨gv_s (lit_ok _ (by decide +kernel)), trivial⟩, by decide⟩⟩
    have k4 : GV (mask p s') 3 1000 (.loc S4.length) := ⟨⟨by decide, z1⟩, .inl ⟨[.str "thread", .tup [.str "a"]], [140, 282], by rw [l4]; exact gt 4 _ rfl (by simp), ⟨ga2, gta, trivial⟩, by decide⟩⟩
    have k5 : GV (mask p s') 3 1000 (.loc S5.length) := ⟨⟨by decide, z1⟩, .inr (.inr ⟨by decide, by rw [l5]; exact gt 5 _ rfl (by simp)⟩)⟩
    have u1 : ∀ x, GV (mask p s') 1 140 x → GV (mask p s') 3 1000 (.tup [x]) := fun x hx => ⟨⟨by decide, z1⟩, [140], ⟨hx.up (by decide) (by decide) (by decide), trivial⟩, by show [140].sum + 2 * 1 + 140 ≤ 1000; decide⟩
    have u2 : ∀ x y, GV (mask p s') 2 300 x → GV (mask p s') 2 300 y → GV (mask p s') 3 1000 (.tup [x, y]) := fun x y hx hy => gv2 hx hy (by decide) z1
    have ga3 : GV (mask p s') 2 300 (.str "a") := ga.up (by decide) (by decide) (by decide)
    simp only [L1, L2, List.cons_append, List.nil_append, List.mem_cons, List.not_mem_nil, or_false] at hm
    rcases hm with rfl | rfl | rfl | rfl | rfl | rfl | rfl | rfl | rfl | rfl | rfl | rfl | rfl | rfl | rfl | rfl | rfl | rfl | rfl | rfl | rfl | rfl | rfl | rfl | rfl | rfl
    · exact ⟨⟨by decide, z1⟩, trivial⟩
    · exact ⟨⟨by decide, z1⟩, trivial⟩
    · exact ⟨⟨by decide, z1⟩, trivial⟩
    · exact ok_i _ (by decide) _
    · exact ok_i _ (by decide) _
    · exact ok_i _ (by decide) _
    · exact ok_l _ (by decide +kernel) _
    · exact ok_l _ (by decide +kernel) _
    · exact ok_l _ (by decide +kernel) _
    · exact ok_l _ (by decide +kernel) _
    · exact ok_l _ (by decide +kernel) _
    · exact ok_l _ (by decide +kernel) _
    · exact ok_l _ (by decide +kernel) _
    · exact k0
    · exact ⟨⟨by decide, z1⟩, [], trivial, by decide⟩
    · exact k1
    · exact k2
    · exact u1 _ ga
    · exact u2 _ _ ga3 ((gv_int (n := 1) (i := 1) (by decide)).up (by decide) (by decide) (by decide))
    · exact u2 _ _ ga3 ((gv_int (n := 1) (i := 0) (by decide)).up (by decide) (by decide) (by decide))
    · exact k4
    · exact k5
    · exact ok_l _ (by decide +kernel) _
    · exact ok_l _ (by decide +kernel) _
    · exact u1 _ (gv_s ok_key)
    · exact u2 _ _ (ga2.up (by decide) (by decide) (by decide)) (gta.up (by decide) (by decide) (by decide))
end K11

namespace K11
open PySem hiding Env exec execs
open L2 Mi
theorem all2_app {α β : Type} {R : α → β → Prop} : ∀ {as as' : List α} {bs bs' : List β}, All2 R as bs → All2 R as' bs' → All2 R (as ++ as') (bs ++ bs')
  | [], _, [], _, _, h => h
  | _ :: _, _, _ :: _, _, ⟨a, b⟩, h => ⟨a, all2_app b h⟩
  | [], _, _ :: _, _, h, _ => h.elim
  | _ :: _, _, [], _, h, _ => h.elim
theorem all2_split {R : Nat → W → Prop} : ∀ {g : List Nat} {ws : List W} (i : Nat), All2 R g ws → (hi : i < ws.length) → ∃ g1 a g2, g.sum = g1.sum + a + g2.sum ∧ All2 R g1 (ws.take i) ∧ R a ws[i] ∧ All2 R g2 (ws.drop (i + 1))
  | [], w :: ws, _, h, _ => h.elim
  | a :: g, w :: ws, 0, ⟨h1, h2⟩, _ => ⟨[], a, g, by simp, trivial, h1, h2⟩
  | a :: g, w :: ws, i + 1, ⟨h1, h2⟩, hi => by
    obtain ⟨g1, b, g2, e, q1, q2, q3⟩ := all2_split i h2 (by simpa using hi)
    exact ⟨a :: g1, b, g2, by simp only [List.sum_cons]; omega, ⟨h1, q1⟩, by simpa using q2, by simpa using q3⟩
  | _, [], _, _, hi => by simp at hi
theorem all2_set {R : Nat → W → Prop} {b : Nat} {x : W} (hb : R b x) : ∀ {g : List Nat} {ws : List W} (i : Nat), All2 R g ws → ∃ g', All2 R g' (ws.set i x) ∧ g'.sum ≤ g.sum + b
  | [], [], _, _ => ⟨[], trivial, by simp⟩
  | a :: g, w :: ws, 0, ⟨h1, h2⟩ => ⟨b :: g, ⟨hb, h2⟩, by simp only [List.sum_cons]; omega⟩
  | a :: g, w :: ws, i + 1, ⟨h1, h2⟩ => by
    obtain ⟨g', q1, q2⟩ := all2_set hb i h2
    exact ⟨a :: g', ⟨h1, q1⟩, by simp only [List.sum_cons]; omega⟩
  | [], _ :: _, _, h => h.elim
  | _ :: _, [], _, h => h.elim
theorem tup_mid {u : Sto} {n m b : Nat} {g1 g2 : List Nat} {xs ys : List W} {x : W} (h1 : All2 (GV u n) g1 xs) (h2 : GV u n b x) (h3 : All2 (GV u n) g2 ys) (hm : g1.sum + b + g2.sum + 2 * (xs.length + 1 + ys.length) + 140 ≤ m) (hz : m ≤ SZ) : GV u (n + 1) m (.tup (xs ++ [x] ++ ys)) :=
  ⟨⟨by omega, hz⟩, g1 ++ [b] ++ g2, all2_app (all2_app h1 ⟨h2, trivial⟩) h3, by simp only [List.sum_append, List.sum_cons, List.sum_nil, List.length_append, List.length_cons, List.length_nil]; omega⟩
theorem cut_to (ws : List W) (i : Nat) (s : Sto) (h : i ≤ ws.length) : slcW (.tup ws) none (some (i : Int)) s = .ok (.tup (ws.take i)) s := by
  have h0 : ¬ ((i : Int) < 0) := by omega
  simp only [slcW, cut, HT.sIx]
  simp [h, h0]
theorem cut_from (ws : List W) (i : Nat) (s : Sto) (h : i ≤ ws.length) : slcW (.tup ws) (some (i : Int)) none s = .ok (.tup (ws.drop i)) s := by
  have h0 : ¬ ((i : Int) < 0) := by omega
  simp only [slcW, cut, HT.sIx]
  simp [h, h0]
  exact List.take_of_length_le (by simp)
theorem at_tup (ws : List W) (i : Nat) (h : i < ws.length) (s : Sto) : idxW (.tup ws) (.int (i : Int)) s = .ok ws[i] s := by
  rw [i_tup, at_nat, List.getElem?_eq_getElem h]
theorem plus1 (i : Nat) : (i : Int) + 1 = ((i + 1 : Nat) : Int) := by omega
theorem d_lt (a b : Nat) : decide ((a : Int) < (b : Int)) = decide (a < b) := by rw [Bool.eq_iff_iff]; simp
theorem d_eq (a b : Nat) : decide ((a : Int) = (b : Int)) = decide (a = b) := by rw [Bool.eq_iff_iff]; simp; omega
theorem lst_swap {k q i j : Nat} {s : Sto} {ws : List W} {v1 v2 v3 : W} (hq : s[q]? = some (.lst ws)) (hi : i < ws.length) (hj : j < ws.length) (a b : W) :
    asg (ph k) (.tp [(.sub (.var 4) (.var 2)), (.sub (.var 4) (.var 5))]) (.tup [a, b]) [some v1, some v2, some (.int (i : Int)), some v3, some (.loc q), some (.int (j : Int))] s = .ok [some v1, some v2, some (.int (i : Int)), some v3, some (.loc q), some (.int (j : Int))] (s.set q (.lst ((ws.set i a).set j b))) := by
  have hl : q < s.length := (List.getElem?_eq_some_iff.mp hq).1
  have h1 := set_loc (v := a) hq hi
  have hq2 : (s.set q (.lst (ws.set i a)))[q]? = some (.lst (ws.set i a)) := set_at hl
  have h2 := set_loc (j := j) (v := b) hq2 (by simpa using hj)
  rw [List.set_set] at h2
  rw [asg]
  simp only [isSeq, asgs, bnd, List.length_cons, List.length_nil, if_true]
  rw [a_sub (ow := .loc q) (iw := .int (i : Int)) (by simp only [x_cst, x_var, x_tup, x_lst, x_bin, x_neg, x_not, x_cmp, x_cmp2, x_and1, x_and, x_or1, x_or, x_ite, x_idx, x_slc, x_call, x_blt, x_met, x_isi, x_nil, x_cons, x_c0, x_c1, x_p0, x_p1, y_nil, y_cons, y_set, y_rtn, y_ite, y_exp, decide_true, w_ok, q_nxt, q_rtn, b_rtn, t_bl, r_ret, a_nm, c_lt, c_le, c_gt, c_ge, c_eqi, c_eqs, c_nes, c_eq0, c_ne0, c_in2, z0, z1, z2, z3, z4, z5, z6, z7, z8, c_les, b_list, l_lay, b_lent, i_tup, bind_ok, List.getElem?_cons_zero, List.getElem?_cons_succ, List.map_cons, List.map_nil, List.replicate, Nat.sub_zero, Nat.reduceSub, List.cons_append, List.nil_append, List.append_nil, List.mapM_cons, List.mapM_nil, Option.pure_def, Option.bind_eq_bind, Option.bind_some, List.any_cons, List.any_nil, id, Bool.or_false, Bool.not_true, Bool.not_false, if_true, if_false, Bool.false_eq_true, reduceIte, List.set_cons_zero, List.set_cons_succ]) (by simp only [x_cst, x_var, x_tup, x_lst, x_bin, x_neg, x_not, x_cmp, x_cmp2, x_and1, x_and, x_or1, x_or, x_ite, x_idx, x_slc, x_call, x_blt, x_met, x_isi, x_nil, x_cons, x_c0, x_c1, x_p0, x_p1, y_nil, y_cons, y_set, y_rtn, y_ite, y_exp, decide_true, w_ok, q_nxt, q_rtn, b_rtn, t_bl, r_ret, a_nm, c_lt, c_le, c_gt, c_ge, c_eqi, c_eqs, c_nes, c_eq0, c_ne0, c_in2, z0, z1, z2, z3, z4, z5, z6, z7, z8, c_les, b_list, l_lay, b_lent, i_tup, bind_ok, List.getElem?_cons_zero, List.getElem?_cons_succ, List.map_cons, List.map_nil, List.replicate, Nat.sub_zero, Nat.reduceSub, List.cons_append, List.nil_append, List.append_nil, List.mapM_cons, List.mapM_nil, Option.pure_def, Option.bind_eq_bind, Option.bind_some, List.any_cons, List.any_nil, id, Bool.or_false, Bool.not_true, Bool.not_false, if_true, if_false, Bool.false_eq_true, reduceIte, List.set_cons_zero, List.set_cons_succ]) h1]
  simp only [bnd, asgs, bind_ok]
  rw [a_sub (ow := .loc q) (iw := .int (j : Int)) (by simp only [x_cst, x_var, x_tup, x_lst, x_bin, x_neg, x_not, x_cmp, x_cmp2, x_and1, x_and, x_or1, x_or, x_ite, x_idx, x_slc, x_call, x_blt, x_met, x_isi, x_nil, x_cons, x_c0, x_c1, x_p0, x_p1, y_nil, y_cons, y_set, y_rtn, y_ite, y_exp, decide_true, w_ok, q_nxt, q_rtn, b_rtn, t_bl, r_ret, a_nm, c_lt, c_le, c_gt, c_ge, c_eqi, c_eqs, c_nes, c_eq0, c_ne0, c_in2, z0, z1, z2, z3, z4, z5, z6, z7, z8, c_les, b_list, l_lay, b_lent, i_tup, bind_ok, List.getElem?_cons_zero, List.getElem?_cons_succ, List.map_cons, List.map_nil, List.replicate, Nat.sub_zero, Nat.reduceSub, List.cons_append, List.nil_append, List.append_nil, List.mapM_cons, List.mapM_nil, Option.pure_def, Option.bind_eq_bind, Option.bind_some, List.any_cons, List.any_nil, id, Bool.or_false, Bool.not_true, Bool.not_false, if_true, if_false, Bool.false_eq_true, reduceIte, List.set_cons_zero, List.set_cons_succ]) (by simp only [x_cst, x_var, x_tup, x_lst, x_bin, x_neg, x_not, x_cmp, x_cmp2, x_and1, x_and, x_or1, x_or, x_ite, x_idx, x_slc, x_call, x_blt, x_met, x_isi, x_nil, x_cons, x_c0, x_c1, x_p0, x_p1, y_nil, y_cons, y_set, y_rtn, y_ite, y_exp, decide_true, w_ok, q_nxt, q_rtn, b_rtn, t_bl, r_ret, a_nm, c_lt, c_le, c_gt, c_ge, c_eqi, c_eqs, c_nes, c_eq0, c_ne0, c_in2, z0, z1, z2, z3, z4, z5, z6, z7, z8, c_les, b_list, l_lay, b_lent, i_tup, bind_ok, List.getElem?_cons_zero, List.getElem?_cons_succ, List.map_cons, List.map_nil, List.replicate, Nat.sub_zero, Nat.reduceSub, List.cons_append, List.nil_append, List.append_nil, List.mapM_cons, List.mapM_nil, Option.pure_def, Option.bind_eq_bind, Option.bind_some, List.any_cons, List.any_nil, id, Bool.or_false, Bool.not_true, Bool.not_false, if_true, if_false, Bool.false_eq_true, reduceIte, List.set_cons_zero, List.set_cons_succ]) h2]
  simp only [bind_ok, Mi.ret]
def Spoilt (k p n : Nat) : Prop := ∀ s m w, Pot p s → GP p s n m w → m ≤ 1000000 → ∃ w' s', ph (k + n + 4) 19 [.loc p, w] s = .ok w' s' ∧ GP p s' (n + 3) (3 * m + 1000) w' ∧ Pot p s' ∧ SubP p s s'
theorem spoilt_ok (k p : Nat) : ∀ n, Spoilt k p n := by
  intro n
  induction n with
  | zero => exact fun s m w _ h _ => h.elim
  | succ n ih =>
    intro s m w hp h hm
    have hz : 3 * m + 1000 ≤ SZ := by simp only [SZ]; omega
    have h140 : 140 ≤ m := h.1.1
    show ∃ w' s', ph (k + n + 4 + 1) 19 [.loc p, w] s = _ ∧ _
    rw [call_eq (d := ⟨2, 6, b19⟩) rfl rfl]
    have odd : ∀ s1, Pot p s1 → SubP p s s1 → ∃ w' s', ph (k + n + 4) 18 [.loc p] s1 = .ok w' s' ∧ GP p s' (n + 1 + 3) (3 * m + 1000) w' ∧ Pot p s' ∧ SubP p s s' := fun s1 p1 b1 => by
      obtain ⟨w', s', e, g, p2, b2⟩ := odd_ok (k := k + n + 1) p1
      exact ⟨w', s', e, g.up (by omega) (by omega) hz, p2, b1.trans b2⟩
    by_cases ht : isB .tuple w = false
    · obtain ⟨w', s', e, r⟩ := odd s hp SubP.rfl'
      exact ⟨w', s', by simp only [b19, h.un.tTup, ht, e, x_cst, x_var, x_tup, x_lst, x_bin, x_neg, x_not, x_cmp, x_cmp2, x_and1, x_and, x_or1, x_or, x_ite, x_idx, x_slc, x_call, x_blt, x_met, x_isi, x_nil, x_cons, x_c0, x_c1, x_p0, x_p1, y_nil, y_cons, y_set, y_rtn, y_ite, y_exp, decide_true, w_ok, q_nxt, q_rtn, b_rtn, t_bl, r_ret, a_nm, c_lt, c_le, c_gt, c_ge, c_eqi, c_eqs, c_nes, c_eq0, c_ne0, c_in2, z0, z1, z2, z3, z4, z5, z6, z7, z8, c_les, b_list, l_lay, b_lent, i_tup, bind_ok, List.getElem?_cons_zero, List.getElem?_cons_succ, List.map_cons, List.map_nil, List.replicate, Nat.sub_zero, Nat.reduceSub, List.cons_append, List.nil_append, List.append_nil, List.mapM_cons, List.mapM_nil, Option.pure_def, Option.bind_eq_bind, Option.bind_some, List.any_cons, List.any_nil, id, Bool.or_false, Bool.not_true, Bool.not_false, if_true, if_false, Bool.false_eq_true, reduceIte, List.set_cons_zero, List.set_cons_succ], r⟩
    · cases w <;> try exact absurd rfl ht
      rename_i ws
      by_cases hne : ws = []
      · subst hne
        obtain ⟨w', s', e, r⟩ := odd s hp SubP.rfl'
        exact ⟨w', s', by simp only [b19, h.un.tTup, isB, e, List.isEmpty_nil, x_cst, x_var, x_tup, x_lst, x_bin, x_neg, x_not, x_cmp, x_cmp2, x_and1, x_and, x_or1, x_or, x_ite, x_idx, x_slc, x_call, x_blt, x_met, x_isi, x_nil, x_cons, x_c0, x_c1, x_p0, x_p1, y_nil, y_cons, y_set, y_rtn, y_ite, y_exp, decide_true, w_ok, q_nxt, q_rtn, b_rtn, t_bl, r_ret, a_nm, c_lt, c_le, c_gt, c_ge, c_eqi, c_eqs, c_nes, c_eq0, c_ne0, c_in2, z0, z1, z2, z3, z4, z5, z6, z7, z8, c_les, b_list, l_lay, b_lent, i_tup, bind_ok, List.getElem?_cons_zero, List.getElem?_cons_succ, List.map_cons, List.map_nil, List.replicate, Nat.sub_zero, Nat.reduceSub, List.cons_append, List.nil_append, List.append_nil, List.mapM_cons, List.mapM_nil, Option.pure_def, Option.bind_eq_bind, Option.bind_some, List.any_cons, List.any_nil, id, Bool.or_false, Bool.not_true, Bool.not_false, if_true, if_false, Bool.false_eq_true, reduceIte, List.set_cons_zero, List.set_cons_succ], r⟩
      · have he : ws.isEmpty = false := by cases ws with | nil => exact absurd rfl hne | cons => rfl
        have h0 : 0 < ws.length := by cases ws with | nil => exact absurd rfl hne | cons => simp
        obtain ⟨r1, s1, e1, rb1, p1, b1⟩ := take_nat (k := k + n + 3) hp 6 (by decide) (by decide)
        cases hr : decide (r1 = 0) with
        | true =>
          obtain ⟨w', s', e, r⟩ := odd s1 p1 b1
          exact ⟨w', s', by simp only [b19, h.un.tTup, isB, e1, dec0, hr, e, he, x_cst, x_var, x_tup, x_lst, x_bin, x_neg, x_not, x_cmp, x_cmp2, x_and1, x_and, x_or1, x_or, x_ite, x_idx, x_slc, x_call, x_blt, x_met, x_isi, x_nil, x_cons, x_c0, x_c1, x_p0, x_p1, y_nil, y_cons, y_set, y_rtn, y_ite, y_exp, decide_true, w_ok, q_nxt, q_rtn, b_rtn, t_bl, r_ret, a_nm, c_lt, c_le, c_gt, c_ge, c_eqi, c_eqs, c_nes, c_eq0, c_ne0, c_in2, z0, z1, z2, z3, z4, z5, z6, z7, z8, c_les, b_list, l_lay, b_lent, i_tup, bind_ok, List.getElem?_cons_zero, List.getElem?_cons_succ, List.map_cons, List.map_nil, List.replicate, Nat.sub_zero, Nat.reduceSub, List.cons_append, List.nil_append, List.append_nil, List.mapM_cons, List.mapM_nil, Option.pure_def, Option.bind_eq_bind, Option.bind_some, List.any_cons, List.any_nil, id, Bool.or_false, Bool.not_true, Bool.not_false, if_true, if_false, Bool.false_eq_true, reduceIte, List.set_cons_zero, List.set_cons_succ], r⟩
        | false =>
          have hlen : ws.length < 2 ^ 120 := Nat.lt_of_le_of_lt h.len (by decide)
          obtain ⟨i, s2, e2, ib, p2, b2⟩ := take_nat (k := k + n + 3) p1 (ws.length : Int) (by omega) (small_log (by omega))
          obtain ⟨j, s3, e3, jb, p3, b3⟩ := take_nat (k := k + n + 3) p2 8 (by decide) (by decide)
          have hi : i < ws.length := by omega
          have B3 := (b1.trans b2).trans b3
          obtain ⟨_, g, hg, hs⟩ := h
          obtain ⟨g1, a, g2, es, q1, q2, q3⟩ := all2_split i hg hi
          have hlt : (ws.take i).length = i := by simp; omega
          have hld : (ws.drop (i + 1)).length = ws.length - (i + 1) := by simp
          have am : a ≤ m := by omega
          have keep : ∀ {u : Sto} {g : List Nat} {xs : List W}, SubP p s u → All2 (GV (mask p s) n) g xs → All2 (GV (mask p u) (n + 3)) g xs := fun b hh => hh.imp fun c w z => GV.up (GV.keep (p := p) z b) (by omega) (Nat.le_refl _) (by cases n with | zero => exact z.elim | succ n => exact z.1.2)
          have keep1 : ∀ {u : Sto} {c : Nat} {x : W}, SubP p s u → GV (mask p s) n c x → GV (mask p u) (n + 3) c x := fun b z => GV.up (GV.keep (p := p) z b) (by omega) (Nat.le_refl _) (by cases n with | zero => exact z.elim | succ n => exact z.1.2)
          have c1 : ∀ u, slcW (.tup ws) none (some (i : Int)) u = .ok (.tup (ws.take i)) u := fun u => cut_to ws i u (by omega)
          have c2 : ∀ u, slcW (.tup ws) (some ((i : Int) + 1)) none u = .ok (.tup (ws.drop (i + 1))) u := fun u => by rw [plus1]; exact cut_from ws (i + 1) u (by omega)
          have c3 : ∀ u, slcW (.tup ws) (some (i : Int)) none u = .ok (.tup (ws.drop i)) u := fun u => cut_from ws i u (by omega)
          have c4 : ∀ u, idxW (.tup ws) (.int (i : Int)) u = .ok ws[i] u := fun u => at_tup ws i hi u
          have hL : ws.length ≤ SZ := by omega
          have t1 : ∀ (x : W) u, binop .add (.tup (ws.take i)) (.tup [x]) u = .ok (.tup (ws.take i ++ [x])) u := fun x u => o_tup u _ _ (by rw [hlt]; simp only [List.length_singleton]; omega)
          have t2 : ∀ (x : W) u, binop .add (.tup (ws.take i ++ [x])) (.tup (ws.drop (i + 1))) u = .ok (.tup (ws.take i ++ [x] ++ ws.drop (i + 1))) u := fun x u => o_tup u _ _ (by rw [List.length_append, hlt, hld]; simp only [List.length_singleton]; omega)
          have t3 : ∀ u, binop .add (.tup (ws.take i)) (.tup (ws.drop (i + 1))) u = .ok (.tup (ws.take i ++ ws.drop (i + 1))) u := fun u => o_tup u _ _ (by rw [hlt, hld]; omega)
          have hdi : ws.drop i = ws[i] :: ws.drop (i + 1) := List.drop_eq_getElem_cons hi
          have t4 : ∀ (x : W) u, binop .add (.tup (ws.take i ++ [x])) (.tup (ws.drop i)) u = .ok (.tup (ws.take i ++ [x] ++ ws.drop i)) u := fun x u => o_tup u _ _ (by rw [List.length_append, hlt, List.length_drop]; simp only [List.length_singleton, SZ] at *; omega)
          have w2 : ∀ u, GV (mask p s) (n + 1) m (.tup ws) := fun _ => ⟨⟨h140, by omega⟩, g, hg, hs⟩
          have ty : Mi.isTy s (.tup ws) .tuple = some true := rfl
          by_cases j3 : j < 3
          · have d3 : decide ((j : Int) < 3) = true := decide_eq_true (by omega)
            obtain ⟨x, s4, e4, gx, p4, b4⟩ := ih s3 a ws[i] p3 (GV.keep (p := p) q2 B3) (by omega)
            refine ⟨.tup (ws.take i ++ [x] ++ ws.drop (i + 1)), s4, ?_, tup_mid (keep (B3.trans b4) q1) gx (keep (B3.trans b4) q3) (by rw [hlt, hld]; omega) hz, p4, B3.trans b4⟩
            simp only [b19, ty, e1, dec0, hr, he, e2, e3, a_tp2t, d3, c1, c2, c4, o_add, e4, t1, t2, x_cst, x_var, x_tup, x_lst, x_bin, x_neg, x_not, x_cmp, x_cmp2, x_and1, x_and, x_or1, x_or, x_ite, x_idx, x_slc, x_call, x_blt, x_met, x_isi, x_nil, x_cons, x_c0, x_c1, x_p0, x_p1, y_nil, y_cons, y_set, y_rtn, y_ite, y_exp, decide_true, w_ok, q_nxt, q_rtn, b_rtn, t_bl, r_ret, a_nm, c_lt, c_le, c_gt, c_ge, c_eqi, c_eqs, c_nes, c_eq0, c_ne0, c_in2, z0, z1, z2, z3, z4, z5, z6, z7, z8, c_les, b_list, l_lay, b_lent, i_tup, bind_ok, List.getElem?_cons_zero, List.getElem?_cons_succ, List.map_cons, List.map_nil, List.replicate, Nat.sub_zero, Nat.reduceSub, List.cons_append, List.nil_append, List.append_nil, List.mapM_cons, List.mapM_nil, Option.pure_def, Option.bind_eq_bind, Option.bind_some, List.any_cons, List.any_nil, id, Bool.or_false, Bool.not_true, Bool.not_false, if_true, if_false, Bool.false_eq_true, reduceIte, List.set_cons_zero, List.set_cons_succ]
          · have d3 : decide ((j : Int) < 3) = false := decide_eq_false (by omega)
            by_cases j4 : j = 3
            · have d4 : decide ((j : Int) = 3) = true := decide_eq_true (by omega)
              refine ⟨.tup (ws.take i ++ ws.drop (i + 1)), s3, ?_, ⟨⟨by omega, hz⟩, g1 ++ g2, all2_app (keep B3 q1) (keep B3 q3), by rw [List.sum_append, List.length_append, hlt, hld]; omega⟩, p3, B3⟩
              simp only [b19, ty, e1, dec0, hr, he, e2, e3, a_tp2t, d3, d4, c1, c2, c4, o_add, t3, x_cst, x_var, x_tup, x_lst, x_bin, x_neg, x_not, x_cmp, x_cmp2, x_and1, x_and, x_or1, x_or, x_ite, x_idx, x_slc, x_call, x_blt, x_met, x_isi, x_nil, x_cons, x_c0, x_c1, x_p0, x_p1, y_nil, y_cons, y_set, y_rtn, y_ite, y_exp, decide_true, w_ok, q_nxt, q_rtn, b_rtn, t_bl, r_ret, a_nm, c_lt, c_le, c_gt, c_ge, c_eqi, c_eqs, c_nes, c_eq0, c_ne0, c_in2, z0, z1, z2, z3, z4, z5, z6, z7, z8, c_les, b_list, l_lay, b_lent, i_tup, bind_ok, List.getElem?_cons_zero, List.getElem?_cons_succ, List.map_cons, List.map_nil, List.replicate, Nat.sub_zero, Nat.reduceSub, List.cons_append, List.nil_append, List.append_nil, List.mapM_cons, List.mapM_nil, Option.pure_def, Option.bind_eq_bind, Option.bind_some, List.any_cons, List.any_nil, id, Bool.or_false, Bool.not_true, Bool.not_false, if_true, if_false, Bool.false_eq_true, reduceIte, List.set_cons_zero, List.set_cons_succ]
            · have d4 : decide ((j : Int) = 3) = false := decide_eq_false (by omega)
              by_cases j5 : j = 4
              · have d5 : decide ((j : Int) = 4) = true := decide_eq_true (by omega)
                refine ⟨.tup (ws.take i ++ [ws[i]] ++ ws.drop i), s3, ?_, tup_mid (g2 := a :: g2) (keep B3 q1) (keep1 B3 q2) (by rw [hdi]; exact ⟨keep1 B3 q2, keep B3 q3⟩) (by rw [hlt, List.length_drop, List.sum_cons]; omega) hz, p3, B3⟩
                simp only [b19, ty, e1, dec0, hr, he, e2, e3, a_tp2t, d3, d4, d5, c1, c3, c4, o_add, t1, t4, x_cst, x_var, x_tup, x_lst, x_bin, x_neg, x_not, x_cmp, x_cmp2, x_and1, x_and, x_or1, x_or, x_ite, x_idx, x_slc, x_call, x_blt, x_met, x_isi, x_nil, x_cons, x_c0, x_c1, x_p0, x_p1, y_nil, y_cons, y_set, y_rtn, y_ite, y_exp, decide_true, w_ok, q_nxt, q_rtn, b_rtn, t_bl, r_ret, a_nm, c_lt, c_le, c_gt, c_ge, c_eqi, c_eqs, c_nes, c_eq0, c_ne0, c_in2, z0, z1, z2, z3, z4, z5, z6, z7, z8, c_les, b_list, l_lay, b_lent, i_tup, bind_ok, List.getElem?_cons_zero, List.getElem?_cons_succ, List.map_cons, List.map_nil, List.replicate, Nat.sub_zero, Nat.reduceSub, List.cons_append, List.nil_append, List.append_nil, List.mapM_cons, List.mapM_nil, Option.pure_def, Option.bind_eq_bind, Option.bind_some, List.any_cons, List.any_nil, id, Bool.or_false, Bool.not_true, Bool.not_false, if_true, if_false, Bool.false_eq_true, reduceIte, List.set_cons_zero, List.set_cons_succ]
              · have d5 : decide ((j : Int) = 4) = false := decide_eq_false (by omega)
                by_cases j6 : j = 5
                · have d6 : decide ((j : Int) = 5) = true := decide_eq_true (by omega)
                  have hp3 := p3.lt
                  obtain ⟨o, s5, e5, ob, p5, b5⟩ := take_nat (k := k + n + 3) (p3.app [SO.lst ws]) (ws.length : Int) (by omega) (small_log (by omega))
                  have ho : o < ws.length := by omega
                  have hq : s5[s3.length]? = some (.lst ws) := b5 _ _ (by omega) (by simp) (by simp)
                  have hql : s3.length < s5.length := (List.getElem?_eq_some_iff.mp hq).1
                  have i1 : idxW (.loc s3.length) (.int (o : Int)) s5 = .ok ws[o] s5 := i_loc _ _ _ _ _ hq (by rw [at_nat, List.getElem?_eq_getElem ho])
                  have i2 : idxW (.loc s3.length) (.int (i : Int)) s5 = .ok ws[i] s5 := i_loc _ _ _ _ _ hq (by rw [at_nat, List.getElem?_eq_getElem hi])
                  have sw := lst_swap (k := k + n + 4) (v1 := .loc p) (v2 := .tup ws) (v3 := .int (j : Int)) hq hi ho ws[o] ws[i]
                  have bt : blt .tuple [.loc s3.length] (s5.set s3.length (.lst ((ws.set i ws[o]).set o ws[i]))) = .ok (.tup ((ws.set i ws[o]).set o ws[i])) (s5.set s3.length (.lst ((ws.set i ws[o]).set o ws[i]))) := b_tupl _ _ _ (set_at hql)
                  have B6 : SubP p s (s5.set s3.length (.lst ((ws.set i ws[o]).set o ws[i]))) := fun l u hl hu hi => by
                    have h3 := B3 l u hl hu hi
                    have : l < s3.length := (List.getElem?_eq_some_iff.mp h3).1
                    rw [List.getElem?_set_ne (by omega)]
                    exact b5 l u hl (sub_app _ _ _ _ h3 hi) hi
                  have p6 : Pot p (s5.set s3.length (.lst ((ws.set i ws[o]).set o ws[i]))) := by
                    obtain ⟨x, y, x1, x2, x3, x4⟩ := p5
                    exact ⟨x, y, x1, x2, x3, by rw [List.getElem?_set_ne (by omega)]; exact x4⟩
                  obtain ⟨_, a', _, es', _, q2', _⟩ := all2_split o hg ho
                  obtain ⟨g5, k1, k2⟩ := all2_set (keep1 B6 q2') i (keep B6 hg)
                  obtain ⟨g6, k3, k4⟩ := all2_set (keep1 B6 q2) o k1
                  refine ⟨.tup ((ws.set i ws[o]).set o ws[i]), _, ?_, ⟨⟨by omega, hz⟩, g6, k3, by rw [List.length_set, List.length_set]; omega⟩, p6, B6⟩
                  simp only [b19, ty, e1, dec0, hr, he, e2, e3, a_tp2t, d3, d4, d5, d6, e5, i1, i2, sw, bt, x_cst, x_var, x_tup, x_lst, x_bin, x_neg, x_not, x_cmp, x_cmp2, x_and1, x_and, x_or1, x_or, x_ite, x_idx, x_slc, x_call, x_blt, x_met, x_isi, x_nil, x_cons, x_c0, x_c1, x_p0, x_p1, y_nil, y_cons, y_set, y_rtn, y_ite, y_exp, decide_true, w_ok, q_nxt, q_rtn, b_rtn, t_bl, r_ret, a_nm, c_lt, c_le, c_gt, c_ge, c_eqi, c_eqs, c_nes, c_eq0, c_ne0, c_in2, z0, z1, z2, z3, z4, z5, z6, z7, z8, c_les, b_list, l_lay, b_lent, i_tup, bind_ok, List.getElem?_cons_zero, List.getElem?_cons_succ, List.map_cons, List.map_nil, List.replicate, Nat.sub_zero, Nat.reduceSub, List.cons_append, List.nil_append, List.append_nil, List.mapM_cons, List.mapM_nil, Option.pure_def, Option.bind_eq_bind, Option.bind_some, List.any_cons, List.any_nil, id, Bool.or_false, Bool.not_true, Bool.not_false, if_true, if_false, Bool.false_eq_true, reduceIte, List.set_cons_zero, List.set_cons_succ]
                · have d6 : decide ((j : Int) = 5) = false := decide_eq_false (by omega)
                  by_cases j7 : j = 6
                  · have d7 : decide ((j : Int) = 6) = true := decide_eq_true (by omega)
                    have hp3 := p3.lt
                    have hg3 : (mask p (s3 ++ [SO.lst ws]))[s3.length]? = some (.lst ws) := by rw [mask_get (by omega)]; simp
                    refine ⟨.loc s3.length, s3 ++ [SO.lst ws], ?_, ⟨⟨by omega, hz⟩, .inl ⟨ws, g, hg3, keep (B3.trans (SubP.app _ _ _)) hg, by omega⟩⟩, p3.app _, B3.trans (SubP.app _ _ _)⟩
                    simp only [b19, ty, e1, dec0, hr, he, e2, e3, a_tp2t, d3, d4, d5, d6, d7, c1, c2, c4, o_add, x_cst, x_var, x_tup, x_lst, x_bin, x_neg, x_not, x_cmp, x_cmp2, x_and1, x_and, x_or1, x_or, x_ite, x_idx, x_slc, x_call, x_blt, x_met, x_isi, x_nil, x_cons, x_c0, x_c1, x_p0, x_p1, y_nil, y_cons, y_set, y_rtn, y_ite, y_exp, decide_true, w_ok, q_nxt, q_rtn, b_rtn, t_bl, r_ret, a_nm, c_lt, c_le, c_gt, c_ge, c_eqi, c_eqs, c_nes, c_eq0, c_ne0, c_in2, z0, z1, z2, z3, z4, z5, z6, z7, z8, c_les, b_list, l_lay, b_lent, i_tup, bind_ok, List.getElem?_cons_zero, List.getElem?_cons_succ, List.map_cons, List.map_nil, List.replicate, Nat.sub_zero, Nat.reduceSub, List.cons_append, List.nil_append, List.append_nil, List.mapM_cons, List.mapM_nil, Option.pure_def, Option.bind_eq_bind, Option.bind_some, List.any_cons, List.any_nil, id, Bool.or_false, Bool.not_true, Bool.not_false, if_true, if_false, Bool.false_eq_true, reduceIte, List.set_cons_zero, List.set_cons_succ]
                  · have d7 : decide ((j : Int) = 6) = false := decide_eq_false (by omega)
                    obtain ⟨x, s4, e4, gx, p4, b4⟩ := odd_ok (k := k + n + 1) p3
                    refine ⟨.tup (ws.take i ++ [x] ++ ws.drop (i + 1)), s4, ?_, tup_mid (keep (B3.trans b4) q1) (gx.up (by omega) (Nat.le_refl _) (by decide)) (keep (B3.trans b4) q3) (by rw [hlt, hld]; omega) hz, p4, B3.trans b4⟩
                    simp only [b19, ty, e1, dec0, hr, he, e2, e3, a_tp2t, d3, d4, d5, d6, d7, c1, c2, c4, o_add, e4, t1, t2, x_cst, x_var, x_tup, x_lst, x_bin, x_neg, x_not, x_cmp, x_cmp2, x_and1, x_and, x_or1, x_or, x_ite, x_idx, x_slc, x_call, x_blt, x_met, x_isi, x_nil, x_cons, x_c0, x_c1, x_p0, x_p1, y_nil, y_cons, y_set, y_rtn, y_ite, y_exp, decide_true, w_ok, q_nxt, q_rtn, b_rtn, t_bl, r_ret, a_nm, c_lt, c_le, c_gt, c_ge, c_eqi, c_eqs, c_nes, c_eq0, c_ne0, c_in2, z0, z1, z2, z3, z4, z5, z6, z7, z8, c_les, b_list, l_lay, b_lent, i_tup, bind_ok, List.getElem?_cons_zero, List.getElem?_cons_succ, List.map_cons, List.map_nil, List.replicate, Nat.sub_zero, Nat.reduceSub, List.cons_append, List.nil_append, List.append_nil, List.mapM_cons, List.mapM_nil, Option.pure_def, Option.bind_eq_bind, Option.bind_some, List.any_cons, List.any_nil, id, Bool.or_false, Bool.not_true, Bool.not_false, if_true, if_false, Bool.false_eq_true, reduceIte, List.set_cons_zero, List.set_cons_succ]
end K11

namespace K11
open PySem hiding Env exec execs
open L2 Mi
theorem b_lenf (ws : List W) (s : Sto) : blt .len [.frl ws] s = .ok (.int ws.length) s := by simp only [blt, lenW]
theorem pot_ok {k : Nat} {s : Sto} {xs : List W} (hx : ∀ x ∈ xs, ∃ i : Int, x = .int i) (j : Nat) (hj : j < 16) : ∃ a b : Int, 0 ≤ a ∧ 0 ≤ b ∧ b < 2 ^ 31 ∧ ph (k + 1) 10 [.frl xs, .int (j : Int)] s = .ok (.loc s.length) (s ++ [SO.lst [.int a, .int b]]) := by
  rw [call_eq (d := ⟨2, 3, b10⟩) rfl rfl]
  have ep : ∀ s, binop .pow (.int 10) (.int 18) s = .ok (.int (10 ^ 18)) s := fun s => o_pow s 10 18 (by decide)
  have tail : ∀ c : Int, 0 ≤ c → ∃ a b : Int, 0 ≤ a ∧ 0 ≤ b ∧ b < 2 ^ 31 ∧ ∀ x : Option W, exec (ph k) 0 ψ0 (b10[2]) [some (.frl xs), some (.int (j : Int)), some (.int c)] s = .ok (.rtn (.loc s.length)) [some (.frl xs), some (.int (j : Int)), some (.int c)] (s ++ [SO.lst [.int a, .int b]]) := by
    intro c hc
    have m0 : 0 ≤ c % 2147483563 := Int.emod_nonneg _ (by decide)
    have m1 : c % 2147483563 < 2147483563 := Int.emod_lt_of_pos _ (by decide)
    generalize hd : c % 2147483563 = d at m0 m1
    have hm : (307 : Int).natAbs.log2 + (j : Int).natAbs.log2 < 1000000 := by
      have : (307 : Int).natAbs.log2 ≤ 9 := log_lt (by decide)
      have : (j : Int).natAbs.log2 ≤ 4 := log_lt (by omega)
      omega
    have hp : ∀ s, binop .pow (.int (d + 307 * (j : Int) + 5)) (.int 2) s = .ok (.int ((d + 307 * (j : Int) + 5) ^ 2)) s := fun s => o_pow s (d + 307 * (j : Int) + 5) 2 ⟨by decide, by
      have : (2 : Nat) ^ 64 = 18446744073709551616 := by decide
      omega⟩
    have q0 : 0 ≤ (d + 307 * (j : Int) + 5) ^ 2 % 2147483549 := Int.emod_nonneg _ (by decide)
    have q1 : (d + 307 * (j : Int) + 5) ^ 2 % 2147483549 < 2147483549 := Int.emod_lt_of_pos _ (by decide)
    have c31 : (2 : Int) ^ 31 = 2147483648 := by decide
    refine ⟨if c - 10 ^ 18 > 0 then c - 10 ^ 18 else 0, (d + 307 * (j : Int) + 5) ^ 2 % 2147483549 + 1, by split <;> omega, by omega, by omega, fun x => ?_⟩
    simp only [b10, List.getElem_cons_succ, List.getElem_cons_zero, ep, o_sub, b_max, o_mod _ _ _ (show (0 : Int) < 2147483563 by decide), hd, o_mul _ _ _ hm, o_add, hp, o_mod _ _ _ (show (0 : Int) < 2147483549 by decide), x_cst, x_var, x_tup, x_lst, x_bin, x_neg, x_not, x_cmp, x_cmp2, x_and1, x_and, x_or1, x_or, x_ite, x_idx, x_slc, x_call, x_blt, x_met, x_isi, x_nil, x_cons, x_c0, x_c1, x_p0, x_p1, y_nil, y_cons, y_set, y_rtn, y_ite, y_exp, decide_true, w_ok, q_nxt, q_rtn, b_rtn, t_bl, r_ret, a_nm, c_lt, c_le, c_gt, c_ge, c_eqi, c_eqs, c_nes, c_eq0, c_ne0, c_in2, z0, z1, z2, z3, z4, z5, z6, z7, z8, c_les, b_list, l_lay, b_lent, i_tup, bind_ok, List.getElem?_cons_zero, List.getElem?_cons_succ, List.map_cons, List.map_nil, List.replicate, Nat.sub_zero, Nat.reduceSub, List.cons_append, List.nil_append, List.append_nil, List.mapM_cons, List.mapM_nil, Option.pure_def, Option.bind_eq_bind, Option.bind_some, List.any_cons, List.any_nil, id, Bool.or_false, Bool.not_true, Bool.not_false, if_true, if_false, Bool.false_eq_true, reduceIte, List.set_cons_zero, List.set_cons_succ]
  have e10 : b10 = [b10[0], b10[1], b10[2]] := rfl
  have s0 : ∀ c, exec (ph k) 0 ψ0 (b10[0]) [some (.frl xs), some (.int (j : Int)), c] s = .ok .nxt [some (.frl xs), some (.int (j : Int)), some (.int 0)] s := fun c => by simp only [b10, List.getElem_cons_zero, x_cst, x_var, x_tup, x_lst, x_bin, x_neg, x_not, x_cmp, x_cmp2, x_and1, x_and, x_or1, x_or, x_ite, x_idx, x_slc, x_call, x_blt, x_met, x_isi, x_nil, x_cons, x_c0, x_c1, x_p0, x_p1, y_nil, y_cons, y_set, y_rtn, y_ite, y_exp, decide_true, w_ok, q_nxt, q_rtn, b_rtn, t_bl, r_ret, a_nm, c_lt, c_le, c_gt, c_ge, c_eqi, c_eqs, c_nes, c_eq0, c_ne0, c_in2, z0, z1, z2, z3, z4, z5, z6, z7, z8, c_les, b_list, l_lay, b_lent, i_tup, bind_ok, List.getElem?_cons_zero, List.getElem?_cons_succ, List.map_cons, List.map_nil, List.replicate, Nat.sub_zero, Nat.reduceSub, List.cons_append, List.nil_append, List.append_nil, List.mapM_cons, List.mapM_nil, Option.pure_def, Option.bind_eq_bind, Option.bind_some, List.any_cons, List.any_nil, id, Bool.or_false, Bool.not_true, Bool.not_false, if_true, if_false, Bool.false_eq_true, reduceIte, List.set_cons_zero, List.set_cons_succ]
  have s1 : ∃ c : Int, 0 ≤ c ∧ exec (ph k) 0 ψ0 (b10[1]) [some (.frl xs), some (.int (j : Int)), some (.int 0)] s = .ok .nxt [some (.frl xs), some (.int (j : Int)), some (.int c)] s := by
    by_cases h : j < xs.length
    · obtain ⟨v, hv⟩ := hx xs[j] (List.getElem_mem _)
      have e1 : idxW (.frl xs) (.int (j : Int)) s = .ok (.int v) s := by
        show (match L2.atI xs (j : Int) with | some w => Res.ok w s | none => .stuck) = _
        rw [at_nat, List.getElem?_eq_getElem h, hv]
      have d1 : decide ((j : Int) < (xs.length : Int)) = true := decide_eq_true (by omega)
      refine ⟨if v < 0 then -v else v, by split <;> omega, ?_⟩
      simp only [b10, List.getElem_cons_succ, List.getElem_cons_zero, b_lenf, d1, e1, b_abs, x_cst, x_var, x_tup, x_lst, x_bin, x_neg, x_not, x_cmp, x_cmp2, x_and1, x_and, x_or1, x_or, x_ite, x_idx, x_slc, x_call, x_blt, x_met, x_isi, x_nil, x_cons, x_c0, x_c1, x_p0, x_p1, y_nil, y_cons, y_set, y_rtn, y_ite, y_exp, decide_true, w_ok, q_nxt, q_rtn, b_rtn, t_bl, r_ret, a_nm, c_lt, c_le, c_gt, c_ge, c_eqi, c_eqs, c_nes, c_eq0, c_ne0, c_in2, z0, z1, z2, z3, z4, z5, z6, z7, z8, c_les, b_list, l_lay, b_lent, i_tup, bind_ok, List.getElem?_cons_zero, List.getElem?_cons_succ, List.map_cons, List.map_nil, List.replicate, Nat.sub_zero, Nat.reduceSub, List.cons_append, List.nil_append, List.append_nil, List.mapM_cons, List.mapM_nil, Option.pure_def, Option.bind_eq_bind, Option.bind_some, List.any_cons, List.any_nil, id, Bool.or_false, Bool.not_true, Bool.not_false, if_true, if_false, Bool.false_eq_true, reduceIte, List.set_cons_zero, List.set_cons_succ]
    · have d1 : decide ((j : Int) < (xs.length : Int)) = false := decide_eq_false (by omega)
      refine ⟨0, by omega, ?_⟩
      simp only [b10, List.getElem_cons_succ, List.getElem_cons_zero, b_lenf, d1, x_cst, x_var, x_tup, x_lst, x_bin, x_neg, x_not, x_cmp, x_cmp2, x_and1, x_and, x_or1, x_or, x_ite, x_idx, x_slc, x_call, x_blt, x_met, x_isi, x_nil, x_cons, x_c0, x_c1, x_p0, x_p1, y_nil, y_cons, y_set, y_rtn, y_ite, y_exp, decide_true, w_ok, q_nxt, q_rtn, b_rtn, t_bl, r_ret, a_nm, c_lt, c_le, c_gt, c_ge, c_eqi, c_eqs, c_nes, c_eq0, c_ne0, c_in2, z0, z1, z2, z3, z4, z5, z6, z7, z8, c_les, b_list, l_lay, b_lent, i_tup, bind_ok, List.getElem?_cons_zero, List.getElem?_cons_succ, List.map_cons, List.map_nil, List.replicate, Nat.sub_zero, Nat.reduceSub, List.cons_append, List.nil_append, List.append_nil, List.mapM_cons, List.mapM_nil, Option.pure_def, Option.bind_eq_bind, Option.bind_some, List.any_cons, List.any_nil, id, Bool.or_false, Bool.not_true, Bool.not_false, if_true, if_false, Bool.false_eq_true, reduceIte, List.set_cons_zero, List.set_cons_succ]
  obtain ⟨c, hc, s1⟩ := s1
  obtain ⟨a, b, h1, h2, h3, s2⟩ := tail c hc
  refine ⟨a, b, h1, h2, h3, ?_⟩
  show bodyRes (execs (ph k) 0 ψ0 b10 [some (.frl xs), some (.int (j : Int)), none] s) = _
  rw [e10]
  simp only [y_cons, s0, s1, s2 none, x_cst, x_var, x_tup, x_lst, x_bin, x_neg, x_not, x_cmp, x_cmp2, x_and1, x_and, x_or1, x_or, x_ite, x_idx, x_slc, x_call, x_blt, x_met, x_isi, x_nil, x_cons, x_c0, x_c1, x_p0, x_p1, y_nil, y_cons, y_set, y_rtn, y_ite, y_exp, decide_true, w_ok, q_nxt, q_rtn, b_rtn, t_bl, r_ret, a_nm, c_lt, c_le, c_gt, c_ge, c_eqi, c_eqs, c_nes, c_eq0, c_ne0, c_in2, z0, z1, z2, z3, z4, z5, z6, z7, z8, c_les, b_list, l_lay, b_lent, i_tup, bind_ok, List.getElem?_cons_zero, List.getElem?_cons_succ, List.map_cons, List.map_nil, List.replicate, Nat.sub_zero, Nat.reduceSub, List.cons_append, List.nil_append, List.append_nil, List.mapM_cons, List.mapM_nil, Option.pure_def, Option.bind_eq_bind, Option.bind_some, List.any_cons, List.any_nil, id, Bool.or_false, Bool.not_true, Bool.not_false, if_true, if_false, Bool.false_eq_true, reduceIte, List.set_cons_zero, List.set_cons_succ]
abbrev bodyS : List S := [(.set (.nm 4) (.call 19 [(.var 3), (.var 4)] [] [0, 1]))]
abbrev bodyL : List S := [(.set (.nm 3) (.call 10 [(.var 0), (.var 1)] [] [0, 1])), (.set (.tp [(.nm 6), (.nm 7)]) (.tup [(.idx (.lst [(.cst (.int 0)), (.cst (.int 0)), (.cst (.int 1)), (.cst (.int 1)), (.cst (.int 2))]) (.call 11 [(.var 3), (.cst (.int 5))] [] [0, 1])), (.call 11 [(.var 3), (.cst (.int 6))] [] [0, 1])])), (.set (.nm 4) (.call 17 [(.var 3), (.var 7)] [] [0, 1])), (.ite (.not (.call 24 [(.var 4)] [] [0])) [(.rtn (.cst (.bl false)))] []), (.for (.nm 5) .rng1 [(.var 6)] [(.set (.nm 4) (.call 19 [(.var 3), (.var 4)] [] [0, 1]))]), (.ite (.or [(.not (.call 24 [(.var 4)] [] [0])), (.not (.call 24 [(.call 18 [(.var 3)] [] [0])] [] [0]))]) [(.rtn (.cst (.bl false)))] [])]
/-- up to two spoilings -/
theorem spoils_ok {k p sp : Nat} (hsp : sp ≤ 2) {s : Sto} {w a b c d : W} {x : Option W} (h : Pot p s) (g : GP p s 4 63000 w) :
    ∃ w' s' y, exec (ph (k + 20)) 0 ψ0 (.for (.nm 5) .rng1 [(.var 6)] bodyS) [some a, some b, none, some (.loc p), some w, x, some (.int (sp : Int)), some d] s = .ok .nxt [some a, some b, none, some (.loc p), some w', y, some (.int (sp : Int)), some d] s' ∧ Pot p s' ∧ GP p s' 10 600000 w' := by
  have step : ∀ (n m : Nat) (s : Sto) (w : W) (i : Nat) (x : Option W), Pot p s → GP p s n m w → n ≤ 16 → m ≤ 1000000 → ∃ w' s', execs (ph (k + 20)) 0 ψ0 bodyS [some a, some b, none, some (.loc p), some w, some (.int (i : Int)), some (.int (sp : Int)), some d] s = .ok .nxt [some a, some b, none, some (.loc p), some w', some (.int (i : Int)), some (.int (sp : Int)), some d] s' ∧ Pot p s' ∧ GP p s' (n + 3) (3 * m + 1000) w' := by
    intro n m s w i x hp hg hn hm
    obtain ⟨w', s', e, g', p', _⟩ := spoilt_ok (k + 16 - n) p n s m w hp hg hm
    rw [show k + 16 - n + n + 4 = k + 20 by omega] at e
    exact ⟨w', s', by simp only [e, x_cst, x_var, x_tup, x_lst, x_bin, x_neg, x_not, x_cmp, x_cmp2, x_and1, x_and, x_or1, x_or, x_ite, x_idx, x_slc, x_call, x_blt, x_met, x_isi, x_nil, x_cons, x_c0, x_c1, x_p0, x_p1, y_nil, y_cons, y_set, y_rtn, y_ite, y_exp, decide_true, w_ok, q_nxt, q_rtn, b_rtn, t_bl, r_ret, a_nm, c_lt, c_le, c_gt, c_ge, c_eqi, c_eqs, c_nes, c_eq0, c_ne0, c_in2, z0, z1, z2, z3, z4, z5, z6, z7, z8, c_les, b_list, l_lay, b_lent, i_tup, bind_ok, List.getElem?_cons_zero, List.getElem?_cons_succ, List.map_cons, List.map_nil, List.replicate, Nat.sub_zero, Nat.reduceSub, List.cons_append, List.nil_append, List.append_nil, List.mapM_cons, List.mapM_nil, Option.pure_def, Option.bind_eq_bind, Option.bind_some, List.any_cons, List.any_nil, id, Bool.or_false, Bool.not_true, Bool.not_false, if_true, if_false, Bool.false_eq_true, reduceIte, List.set_cons_zero, List.set_cons_succ], p', g'⟩
  have hr : iter .rng1 [.int (sp : Int)] s = .ok ((List.range sp).map fun k : Nat => W.int (k : Int), none) s := i_rng1 sp s (by simp only [SZ]; omega)
  rcases (show sp = 0 ∨ sp = 1 ∨ sp = 2 by omega) with rfl | rfl | rfl
  case inl =>
    refine ⟨w, s, x, ?_, h, g.up (by omega) (by omega) (by decide)⟩
    simp only [y_for, x_cons, x_nil, x_var, List.getElem?_cons_succ, List.getElem?_cons_zero, bind_ok, hr, w_ok]
    exact f_end rfl
  case inr.inl =>
    obtain ⟨w1, s1, e1, p1, g1⟩ := step 4 63000 s w 0 x h g (by omega) (by omega)
    refine ⟨w1, s1, some (.int ((0 : Nat) : Int)), ?_, p1, g1.up (by omega) (by omega) (by decide)⟩
    simp only [y_for, x_cons, x_nil, x_var, List.getElem?_cons_succ, List.getElem?_cons_zero, bind_ok, hr, w_ok]
    rw [show (List.range 1).map (fun k : Nat => W.int (k : Int)) = [.int ((0 : Nat) : Int)] from rfl]
    rw [f_step (ρ1 := [some a, some b, none, some (.loc p), some w, some (.int ((0 : Nat) : Int)), some (.int ((1 : Nat) : Int)), some d]) (s1 := s) rfl (by simp only [x_cst, x_var, x_tup, x_lst, x_bin, x_neg, x_not, x_cmp, x_cmp2, x_and1, x_and, x_or1, x_or, x_ite, x_idx, x_slc, x_call, x_blt, x_met, x_isi, x_nil, x_cons, x_c0, x_c1, x_p0, x_p1, y_nil, y_cons, y_set, y_rtn, y_ite, y_exp, decide_true, w_ok, q_nxt, q_rtn, b_rtn, t_bl, r_ret, a_nm, c_lt, c_le, c_gt, c_ge, c_eqi, c_eqs, c_nes, c_eq0, c_ne0, c_in2, z0, z1, z2, z3, z4, z5, z6, z7, z8, c_les, b_list, l_lay, b_lent, i_tup, bind_ok, List.getElem?_cons_zero, List.getElem?_cons_succ, List.map_cons, List.map_nil, List.replicate, Nat.sub_zero, Nat.reduceSub, List.cons_append, List.nil_append, List.append_nil, List.mapM_cons, List.mapM_nil, Option.pure_def, Option.bind_eq_bind, Option.bind_some, List.any_cons, List.any_nil, id, Bool.or_false, Bool.not_true, Bool.not_false, if_true, if_false, Bool.false_eq_true, reduceIte, List.set_cons_zero, List.set_cons_succ]) e1, f_end rfl]
  case inr.inr =>
    obtain ⟨w1, s1, e1, p1, g1⟩ := step 4 63000 s w 0 x h g (by omega) (by omega)
    obtain ⟨w2, s2, e2, p2, g2⟩ := step 7 190000 s1 w1 1 x p1 (g1.up (by omega) (by omega) (by decide)) (by omega) (by omega)
    refine ⟨w2, s2, some (.int ((1 : Nat) : Int)), ?_, p2, g2.up (by omega) (by omega) (by decide)⟩
    simp only [y_for, x_cons, x_nil, x_var, List.getElem?_cons_succ, List.getElem?_cons_zero, bind_ok, hr, w_ok]
    rw [show (List.range 2).map (fun k : Nat => W.int (k : Int)) = [.int ((0 : Nat) : Int), .int ((1 : Nat) : Int)] from rfl]
    rw [f_step (ρ1 := [some a, some b, none, some (.loc p), some w, some (.int ((0 : Nat) : Int)), some (.int ((2 : Nat) : Int)), some d]) (s1 := s) rfl (by simp only [x_cst, x_var, x_tup, x_lst, x_bin, x_neg, x_not, x_cmp, x_cmp2, x_and1, x_and, x_or1, x_or, x_ite, x_idx, x_slc, x_call, x_blt, x_met, x_isi, x_nil, x_cons, x_c0, x_c1, x_p0, x_p1, y_nil, y_cons, y_set, y_rtn, y_ite, y_exp, decide_true, w_ok, q_nxt, q_rtn, b_rtn, t_bl, r_ret, a_nm, c_lt, c_le, c_gt, c_ge, c_eqi, c_eqs, c_nes, c_eq0, c_ne0, c_in2, z0, z1, z2, z3, z4, z5, z6, z7, z8, c_les, b_list, l_lay, b_lent, i_tup, bind_ok, List.getElem?_cons_zero, List.getElem?_cons_succ, List.map_cons, List.map_nil, List.replicate, Nat.sub_zero, Nat.reduceSub, List.cons_append, List.nil_append, List.append_nil, List.mapM_cons, List.mapM_nil, Option.pure_def, Option.bind_eq_bind, Option.bind_some, List.any_cons, List.any_nil, id, Bool.or_false, Bool.not_true, Bool.not_false, if_true, if_false, Bool.false_eq_true, reduceIte, List.set_cons_zero, List.set_cons_succ]) e1]
    rw [f_step (ρ1 := [some a, some b, none, some (.loc p), some w1, some (.int ((1 : Nat) : Int)), some (.int ((2 : Nat) : Int)), some d]) (s1 := s1) rfl (by simp only [x_cst, x_var, x_tup, x_lst, x_bin, x_neg, x_not, x_cmp, x_cmp2, x_and1, x_and, x_or1, x_or, x_ite, x_idx, x_slc, x_call, x_blt, x_met, x_isi, x_nil, x_cons, x_c0, x_c1, x_p0, x_p1, y_nil, y_cons, y_set, y_rtn, y_ite, y_exp, decide_true, w_ok, q_nxt, q_rtn, b_rtn, t_bl, r_ret, a_nm, c_lt, c_le, c_gt, c_ge, c_eqi, c_eqs, c_nes, c_eq0, c_ne0, c_in2, z0, z1, z2, z3, z4, z5, z6, z7, z8, c_les, b_list, l_lay, b_lent, i_tup, bind_ok, List.getElem?_cons_zero, List.getElem?_cons_succ, List.map_cons, List.map_nil, List.replicate, Nat.sub_zero, Nat.reduceSub, List.cons_append, List.nil_append, List.append_nil, List.mapM_cons, List.mapM_nil, Option.pure_def, Option.bind_eq_bind, Option.bind_some, List.any_cons, List.any_nil, id, Bool.or_false, Bool.not_true, Bool.not_false, if_true, if_false, Bool.false_eq_true, reduceIte, List.set_cons_zero, List.set_cons_succ]) e2, f_end rfl]
end K11

namespace K11
open PySem hiding Env exec execs
open L2 Mi
abbrev envL (xs : List W) (a b c d e f : Option W) : Env := [some (.frl xs), a, none, b, c, d, e, f]
/-- one turn of the law's walk -/
theorem turn_ok {xs : List W} (hx : ∀ x ∈ xs, ∃ i : Int, x = .int i) (j : Nat) (hj : j < 16) (b c d e f : Option W) (s : Sto) :
    ∃ b' c' d' e' f' s', execs (ph 59) 0 ψ0 bodyL (envL xs (some (.int (j : Int))) b c d e f) s = .ok .nxt (envL xs (some (.int (j : Int))) b' c' d' e' f') s' := by
  obtain ⟨pa, pb, h1, h2, h3, e1⟩ := pot_ok (k := 58) (s := s) hx j hj
  have P1 : Pot s.length (s ++ [SO.lst [.int pa, .int pb]]) := ⟨pa, pb, h1, h2, h3, by simp⟩
  generalize s.length = p at e1 P1
  generalize s ++ [SO.lst [.int pa, .int pb]] = s1 at e1 P1
  obtain ⟨r, s2, e2, rb, p2, b2⟩ := take_nat (k := 58) (P1.app [SO.lst [.int 0, .int 0, .int 1, .int 1, .int 2]]) 5 (by decide) (by decide)
  have hq : s2[s1.length]? = some (.lst [.int 0, .int 0, .int 1, .int 1, .int 2]) := b2 _ _ (by have := P1.lt; omega) (by simp) (by simp)
  obtain ⟨x, hx', e3⟩ := get_mem hq r (by show r < 5; omega)
  have hsp : ∃ sp : Nat, sp ≤ 2 ∧ x = .int (sp : Int) := by
    simp only [List.mem_cons, List.not_mem_nil, or_false] at hx'
    rcases hx' with rfl | rfl | rfl | rfl | rfl
    · exact ⟨0, by omega, rfl⟩
    · exact ⟨0, by omega, rfl⟩
    · exact ⟨1, by omega, rfl⟩
    · exact ⟨1, by omega, rfl⟩
    · exact ⟨2, by omega, rfl⟩
  obtain ⟨sp, hsp, rfl⟩ := hsp
  obtain ⟨kind, s3, e4, kb, p3, b3⟩ := take_nat (k := 58) p2 6 (by decide) (by decide)
  obtain ⟨w, s4, e5, gw, p4, b4⟩ := thing_ok (k := 53) p3 kind (by omega)
  obtain ⟨t5, e6⟩ := law_right (k := 46) (gw s4) (by decide)
  obtain ⟨w', s6, y, e7, p6, g6⟩ := spoils_ok (k := 39) (sp := sp) hsp (w := w) (a := .frl xs) (b := .int (j : Int)) (c := .non) (d := .int (kind : Int)) (x := d) (p4.app t5) (gw _)
  obtain ⟨t7, e8⟩ := law_right (k := 40) g6.un (by decide)
  obtain ⟨o, s8, e9, g8, p8, b8⟩ := odd_ok (k := 56) (p6.app t7)
  obtain ⟨t9, e10⟩ := law_right (k := 47) g8.un (by decide)
  refine ⟨some (.loc p), some w', y, some (.int (sp : Int)), some (.int (kind : Int)), s8 ++ t9, ?_⟩
  simp only [envL, e1, e2, e3, e4, e5, e6, e7, e8, e9, e10, a_tp2t, x_cst, x_var, x_tup, x_lst, x_bin, x_neg, x_not, x_cmp, x_cmp2, x_and1, x_and, x_or1, x_or, x_ite, x_idx, x_slc, x_call, x_blt, x_met, x_isi, x_nil, x_cons, x_c0, x_c1, x_p0, x_p1, y_nil, y_cons, y_set, y_rtn, y_ite, y_exp, decide_true, w_ok, q_nxt, q_rtn, b_rtn, t_bl, r_ret, a_nm, c_lt, c_le, c_gt, c_ge, c_eqi, c_eqs, c_nes, c_eq0, c_ne0, c_in2, z0, z1, z2, z3, z4, z5, z6, z7, z8, c_les, b_list, l_lay, b_lent, i_tup, bind_ok, List.getElem?_cons_zero, List.getElem?_cons_succ, List.map_cons, List.map_nil, List.replicate, Nat.sub_zero, Nat.reduceSub, List.cons_append, List.nil_append, List.append_nil, List.mapM_cons, List.mapM_nil, Option.pure_def, Option.bind_eq_bind, Option.bind_some, List.any_cons, List.any_nil, id, Bool.or_false, Bool.not_true, Bool.not_false, if_true, if_false, Bool.false_eq_true, reduceIte, List.set_cons_zero, List.set_cons_succ]
theorem own_is : lockerB (.tup [.str "locker", .tup [.str "ann", .int 2, .int 1], .int 3]) = true := by decide +kernel
theorem own_pt : pointB (.tup [.str "locker", .tup [.str "ann", .int 2, .int 1], .int 3]) = true := by decide +kernel
theorem own_ln : lineB (.tup [.str "locker", .tup [.str "ann", .int 2, .int 1], .int 3]) = false := by decide +kernel
theorem ann_nm : nameB (.str "ann") = true := by decide +kernel
theorem ann_th : threadB (.tup [.str "ann", .int 2, .int 1]) = true := by decide +kernel
theorem ann_ed : edgeB (.tup [.str "ann", .int 2, .int 1]) = false := by decide +kernel
abbrev KK : Nat := 60
theorem run (ns : List Int) (h : ns.length ≤ 63) : wp (ph KK 25 [.frl (ns.map W.int)] []) fun w _ => w = .bl true := by
  rw [call_eq (k := 59) (d := ⟨1, 8, b25⟩) rfl rfl]
  have hx : ∀ x ∈ ns.map W.int, ∃ i : Int, x = .int i := fun x hx => by
    obtain ⟨i, _, rfl⟩ := List.mem_map.mp hx
    exact ⟨i, rfl⟩
  generalize ns.map W.int = xs at hx
  have hb : b25 = (.for (.nm 1) .rng1 [(.blt .max [(.cst (.int 1)), (.blt .min [(.cst (.int 16)), (.blt .len [(.var 0)])])])] bodyL) :: b25.tail := rfl
  -- how many turns
  have hn : ∃ n : Nat, n ≤ 16 ∧ (if (if (xs.length : Int) < 16 then (xs.length : Int) else 16) > 1 then (if (xs.length : Int) < 16 then (xs.length : Int) else 16) else 1) = (n : Int) := by
    by_cases h1 : (xs.length : Int) < 16
    · rw [if_pos h1]
      by_cases h2 : (xs.length : Int) > 1
      · rw [if_pos h2]; exact ⟨xs.length, by omega, rfl⟩
      · rw [if_neg h2]; exact ⟨1, by omega, rfl⟩
    · rw [if_neg h1]; exact ⟨16, by omega, rfl⟩
  obtain ⟨n, n16, hn⟩ := hn
  have hd : dens (ph 59) [(.blt .max [(.cst (.int 1)), (.blt .min [(.cst (.int 16)), (.blt .len [(.var 0)])])])] (envL xs none none none none none none) [] = .ok [.int (n : Int)] [] := by
    simp only [envL, b_lenf, b_min, b_max, hn, x_cst, x_var, x_tup, x_lst, x_bin, x_neg, x_not, x_cmp, x_cmp2, x_and1, x_and, x_or1, x_or, x_ite, x_idx, x_slc, x_call, x_blt, x_met, x_isi, x_nil, x_cons, x_c0, x_c1, x_p0, x_p1, y_nil, y_cons, y_set, y_rtn, y_ite, y_exp, decide_true, w_ok, q_nxt, q_rtn, b_rtn, t_bl, r_ret, a_nm, c_lt, c_le, c_gt, c_ge, c_eqi, c_eqs, c_nes, c_eq0, c_ne0, c_in2, z0, z1, z2, z3, z4, z5, z6, z7, z8, c_les, b_list, l_lay, b_lent, i_tup, bind_ok, List.getElem?_cons_zero, List.getElem?_cons_succ, List.map_cons, List.map_nil, List.replicate, Nat.sub_zero, Nat.reduceSub, List.cons_append, List.nil_append, List.append_nil, List.mapM_cons, List.mapM_nil, Option.pure_def, Option.bind_eq_bind, Option.bind_some, List.any_cons, List.any_nil, id, Bool.or_false, Bool.not_true, Bool.not_false, if_true, if_false, Bool.false_eq_true, reduceIte, List.set_cons_zero, List.set_cons_succ]
  have loop := for_inv (bind := fun w ρ => asg (ph 59) (.nm 1) w ρ) (body := fun ρ s => execs (ph 59) 0 ψ0 bodyL ρ s) (chk := fun s => stays s none ((List.range n).map fun k : Nat => W.int (k : Int)))
    (fun ρ _ => ∃ a b c d e f, ρ = envL xs a b c d e f) (fun _ => rfl) ((List.range n).map fun k : Nat => W.int (k : Int)) (envL xs none none none none none none) [] (fun w hw ρ s hP => by
      obtain ⟨j, hj, rfl⟩ := List.mem_map.mp hw
      obtain ⟨a, b, c, d, e, f, rfl⟩ := hP
      have hj : j < n := List.mem_range.mp hj
      obtain ⟨b', c', d', e', f', s', q⟩ := turn_ok hx j (by omega) b c d e f s
      refine ⟨envL xs (some (.int (j : Int))) b c d e f, by simp only [envL, x_cst, x_var, x_tup, x_lst, x_bin, x_neg, x_not, x_cmp, x_cmp2, x_and1, x_and, x_or1, x_or, x_ite, x_idx, x_slc, x_call, x_blt, x_met, x_isi, x_nil, x_cons, x_c0, x_c1, x_p0, x_p1, y_nil, y_cons, y_set, y_rtn, y_ite, y_exp, decide_true, w_ok, q_nxt, q_rtn, b_rtn, t_bl, r_ret, a_nm, c_lt, c_le, c_gt, c_ge, c_eqi, c_eqs, c_nes, c_eq0, c_ne0, c_in2, z0, z1, z2, z3, z4, z5, z6, z7, z8, c_les, b_list, l_lay, b_lent, i_tup, bind_ok, List.getElem?_cons_zero, List.getElem?_cons_succ, List.map_cons, List.map_nil, List.replicate, Nat.sub_zero, Nat.reduceSub, List.cons_append, List.nil_append, List.append_nil, List.mapM_cons, List.mapM_nil, Option.pure_def, Option.bind_eq_bind, Option.bind_some, List.any_cons, List.any_nil, id, Bool.or_false, Bool.not_true, Bool.not_false, if_true, if_false, Bool.false_eq_true, reduceIte, List.set_cons_zero, List.set_cons_succ], ?_⟩
      show wpS (execs (ph 59) 0 ψ0 bodyL _ s) _
      rw [q]
      exact ⟨rfl, _, _, _, _, _, _, rfl⟩) ⟨_, _, _, _, _, _, rfl⟩
  show wp (bodyRes (execs (ph 59) 0 ψ0 b25 (envL xs none none none none none none) [])) _
  rw [hb, y_cons, y_for, hd, bind_ok, i_rng1 n [] (by simp only [SZ]; omega), w_ok]
  cases e : forGo (fun w ρ => asg (ph 59) (.nm 1) w ρ) (fun ρ s => execs (ph 59) 0 ψ0 bodyL ρ s) (fun s => stays s none ((List.range n).map fun k : Nat => W.int (k : Int))) ((List.range n).map fun k : Nat => W.int (k : Int)) (envL xs none none none none none none) [] with
  | stuck => rw [e] at loop; exact loop.elim
  | exc x ρ s => rw [e] at loop; exact loop.elim
  | ok fl ρ s =>
    rw [e] at loop
    obtain ⟨rfl, a, b, c, d, f, g, rfl⟩ := loop
    show wp (bodyRes (ResS.seq (.ok .nxt (envL xs a b c d f g) s) _)) _
    rw [q_nxt]
    have gann : ∀ u, GV u 1 140 (.str "ann") := fun u => gv_s (lit_ok _ (by decide +kernel))
    have gth : ∀ u, GV u 2 1000 (.tup [.str "ann", .int 2, .int 1]) := fun u => gv3 (gann u) (gv_int (by decide)) (gv_int (by decide)) (by decide) (by decide)
    have gown : ∀ u, GV u 3 2000 (.tup [.str "locker", .tup [.str "ann", .int 2, .int 1], .int 3]) := fun u => gv3 (gv_s ok_locker) (gth u) (gv_int (by decide)) (by decide) (by decide)
    obtain ⟨t1, e1⟩ := is_locker (k := 54) (gown s)
    obtain ⟨t2, e2⟩ := is_point (k := 53) (gown (s ++ t1))
    obtain ⟨t3, e3⟩ := is_line (k := 54) (gown (s ++ t1 ++ t2))
    obtain ⟨t4, e4⟩ := is_name (k := 58) (gann (s ++ t1 ++ t2 ++ t3))
    obtain ⟨t5, e5⟩ := is_thread (k := 56) (gth (s ++ t1 ++ t2 ++ t3 ++ t4))
    obtain ⟨t6, e6⟩ := is_edge (k := 52) (gth (s ++ t1 ++ t2 ++ t3 ++ t4 ++ t5))
    rw [own_is] at e1
    rw [own_pt] at e2
    rw [own_ln] at e3
    rw [ann_nm] at e4
    rw [ann_th] at e5
    rw [ann_ed] at e6
    have fin : bodyRes (execs (ph 59) 0 ψ0 b25.tail (envL xs a b c d f g) s) = .ok (.bl true) (s ++ t1 ++ t2 ++ t3 ++ t4 ++ t5 ++ t6) := by
      simp only [b25, List.tail_cons, envL, e1, e2, e3, e4, e5, e6, x_cst, x_var, x_tup, x_lst, x_bin, x_neg, x_not, x_cmp, x_cmp2, x_and1, x_and, x_or1, x_or, x_ite, x_idx, x_slc, x_call, x_blt, x_met, x_isi, x_nil, x_cons, x_c0, x_c1, x_p0, x_p1, y_nil, y_cons, y_set, y_rtn, y_ite, y_exp, decide_true, w_ok, q_nxt, q_rtn, b_rtn, t_bl, r_ret, a_nm, c_lt, c_le, c_gt, c_ge, c_eqi, c_eqs, c_nes, c_eq0, c_ne0, c_in2, z0, z1, z2, z3, z4, z5, z6, z7, z8, c_les, b_list, l_lay, b_lent, i_tup, bind_ok, List.getElem?_cons_zero, List.getElem?_cons_succ, List.map_cons, List.map_nil, List.replicate, Nat.sub_zero, Nat.reduceSub, List.cons_append, List.nil_append, List.append_nil, List.mapM_cons, List.mapM_nil, Option.pure_def, Option.bind_eq_bind, Option.bind_some, List.any_cons, List.any_nil, id, Bool.or_false, Bool.not_true, Bool.not_false, if_true, if_false, Bool.false_eq_true, reduceIte, List.set_cons_zero, List.set_cons_succ]
    rw [fin]
    exact rfl
end K11

namespace K11
open PySem hiding Env exec execs
open L2 Mi PyProof.Rows
theorem walk {l : PySem.W.OpenLaw} {q : Program} {loose : List Str} {XP : (Str → Option Value) → Heap → Prop} {YP : World → Heap → Prop} {d : DefRec} {K : Params → PySem.W.Frag} (hn : l.most = some 63) (hdf : d.params.defaults = []) (hq : importsNone q = true) (hd : d.name = "law")
    (hY : ∀ (w : World) (h : Heap), YP w h → (K w.params).In h)
    (F : ∀ (w : World) (mg : Str → Option Value) (h : Heap), (K w.params).In h → h.Ns mainGlobals mg → ∃ G : Gs, G.K = K w.params ∧ ∀ x e, gt.lookup x = some e → StatOk G mg gt ds x e) :
    PySem.W.WalkO q loose XP YP l.row.toRowW d [] (fun f vs => PySem.call f vs) :=
  walkG (N := 0) (ψ := ψ0) (n := 63) (k := KK) (iL := 25) (ds := ds) (gt := gt) (shL := [lawShape]) hn (by decide) hdf ⟨rfl, by decide, by decide⟩ hq hY (by rw [hd]; rfl) (by simp) rfl run F
end K11
open PySem PySem.W PyProof.Rows in
set_option maxRecDepth 100000 in
set_option maxHeartbeats 0 in
theorem PySem.Challenge.cw_oneincommon_k11_names_of_anything_holds : PySem.Challenge.rw_oneincommon_k11_names_of_anything.Holds := by
  w_on; o_law; k_head; (case hw => w_witness2)
  k_fill
  refine K11.walk (l := PySem.Challenge.rw_oneincommon_k11_names_of_anything) rfl rfl rfl rfl (fun w h Y => PySem.W.kIn_of Y) ?F
  case F =>
    intro w mg h KX Gn
    refine' K11.all_mk KX Gn ?z0 ?z1 ?z2 ?z3 ?z4 ?z5 ?a0 ?l0 ?e0 ?k0 ?a1 ?l1 ?e1 ?k1 ?a2 ?l2 ?e2 ?k2 ?a3 ?l3 ?e3 ?k3 ?a4 ?l4 ?e4 ?k4 ?a5 ?l5 ?e5 ?k5 ?a6 ?l6 ?e6 ?k6 ?a7 ?l7 ?e7 ?k7 ?a8 ?l8 ?e8 ?k8 ?a9 ?l9 ?e9 ?k9 ?a10 ?l10 ?e10 ?k10 ?a11 ?l11 ?e11 ?k11 ?a12 ?l12 ?e12 ?k12 ?a13 ?l13 ?e13 ?k13 ?a14 ?l14 ?e14 ?k14 ?a15 ?l15 ?e15 ?k15 ?a16 ?l16 ?e16 ?k16 ?a17 ?l17 ?e17 ?k17 ?a18 ?l18 ?e18 ?k18 ?a19 ?l19 ?e19 ?k19 ?a20 ?l20 ?e20 ?k20 ?a21 ?l21 ?e21 ?k21 ?a22 ?l22 ?e22 ?k22 ?a23 ?l23 ?e23 ?k23 ?a24 ?l24 ?e24 ?k24 ?a25 ?l25 ?e25 ?k25 ?y0 ?y1 ?y2 ?y3 ?y4 ?y5 ?y6 ?y7 ?y8 ?y9 ?y10 ?y11 ?y12 ?y13
    (case z0 => k_is)
    (case z1 => k_is)
    (case z2 => k_is)
    (case z3 => k_is)
    (case z4 => k_is)
    (case z5 => k_is)
    (case a0 => k_is)
    (case l0 => k_is)
    (case e0 => k_is)
    (case k0 => k_is)
    (case a1 => k_is)
    (case l1 => k_is)
    (case e1 => k_is)
    (case k1 => k_is)
    (case a2 => k_is)
    (case l2 => k_is)
    (case e2 => k_is)
    (case k2 => k_is)
    (case a3 => k_is)
    (case l3 => k_is)
    (case e3 => k_is)
    (case k3 => k_is)
    (case a4 => k_is)
    (case l4 => k_is)
    (case e4 => k_is)
    (case k4 => k_is)
    (case a5 => k_is)
    (case l5 => k_is)
    (case e5 => k_is)
    (case k5 => k_is)
    (case a6 => k_is)
    (case l6 => k_is)
    (case e6 => k_is)
    (case k6 => k_is)
    (case a7 => k_is)
    (case l7 => k_is)
    (case e7 => k_is)
    (case k7 => k_is)
    (case a8 => k_is)
    (case l8 => k_is)
    (case e8 => k_is)
    (case k8 => k_is)
    (case a9 => k_is)
    (case l9 => k_is)
    (case e9 => k_is)
    (case k9 => k_is)
    (case a10 => k_is)
    (case l10 => k_is)
    (case e10 => k_is)
    (case k10 => k_is)
    (case a11 => k_is)
    (case l11 => k_is)
    (case e11 => k_is)
    (case k11 => k_is)
    (case a12 => k_is)
    (case l12 => k_is)
    (case e12 => k_is)
    (case k12 => k_is)
    (case a13 => k_is)
    (case l13 => k_is)
    (case e13 => k_is)
    (case k13 => k_is)
    (case a14 => k_is)
    (case l14 => k_is)
    (case e14 => k_is)
    (case k14 => k_is)
    (case a15 => k_is)
    (case l15 => k_is)
    (case e15 => k_is)
    (case k15 => k_is)
    (case a16 => k_is)
    (case l16 => k_is)
    (case e16 => k_is)
    (case k16 => k_is)
    (case a17 => k_is)
    (case l17 => k_is)
    (case e17 => k_is)
    (case k17 => k_is)
    (case a18 => k_is)
    (case l18 => k_is)
    (case e18 => k_is)
    (case k18 => k_is)
    (case a19 => k_is)
    (case l19 => k_is)
    (case e19 => k_is)
    (case k19 => k_is)
    (case a20 => k_is)
    (case l20 => k_is)
    (case e20 => k_is)
    (case k20 => k_is)
    (case a21 => k_is)
    (case l21 => k_is)
    (case e21 => k_is)
    (case k21 => k_is)
    (case a22 => k_is)
    (case l22 => k_is)
    (case e22 => k_is)
    (case k22 => k_is)
    (case a23 => k_is)
    (case l23 => k_is)
    (case e23 => k_is)
    (case k23 => k_is)
    (case a24 => k_is)
    (case l24 => k_is)
    (case e24 => k_is)
    (case k24 => k_is)
    (case a25 => k_is)
    (case l25 => k_is)
    (case e25 => k_is)
    (case k25 => k_is)
    (case y0 => k_is)
    (case y1 => k_is)
    (case y2 => k_is)
    (case y3 => k_is)
    (case y4 => k_is)
    (case y5 => k_is)
    (case y6 => k_is)
    (case y7 => k_is)
    (case y8 => k_is)
    (case y9 => k_is)
    (case y10 => k_is)
    (case y11 => k_is)
    (case y12 => k_is)
    (case y13 => k_is)
