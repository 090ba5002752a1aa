import PyProof.Rows.All
import Wide.All
import OpenK.AllK
import Wide.FinOn
import HandS.ForMost
import HandS.TupAny
import HandS.StrMore
import HandS.Zip
import HandS.SetFor
import HandS.Conv
import HandS.NoneIn
import HandS.WideBits
import KE.GoesMore
import KE.GoesEnum
import KE.KUnpackStar
import HandS.DictComp
import HandS.RevRange
import HandS.Small
import HandS.Defaults
import HandS.ForExc
import HandS.CallSlots
import HandS.Wide
import HandS.IsInst
import HandS.Flow
import PyProof.NeKinds
import HandS.Style
import PySem.Challenge.RW_oneincommon_k52_skip_and_again
set_option Elab.async false
set_option linter.all false
set_option maxRecDepth 100000
/-! Mi1: a small machine for the part of Python that the laws use: values, the store, what each operation does. Nothing of the big model here but its texts and its data. -/
namespace Mi
open PySem

/-- a value; tuples are values here, lists and dicts and instances stand in the store -/
inductive W where
  | non
  | bl (b : Bool)
  | int (i : Int)
  | str (x : Str)
  | tup (xs : List W)
  /-- a list that nobody can change (the script) -/
  | frl (xs : List W)
  | loc (n : Nat)
  /-- a def or a class of the module, by its number -/
  | glb (i : Nat)
  /-- a written dict of the module (text keys) -/
  | frd (ks : List Str) (vs : List W)
  deriving Inhabited

mutual
def W.beq : W → W → Bool
  | .non, .non => true
  | .bl a, .bl b => a == b
  | .int a, .int b => a == b
  | .str a, .str b => a == b
  | .tup a, .tup b => W.beqs a b
  | .frl a, .frl b => W.beqs a b
  | .loc a, .loc b => a == b
  | .glb a, .glb b => a == b
  | .frd a b, .frd c d => a == c && W.beqs b d
  | _, _ => false
def W.beqs : List W → List W → Bool
  | [], [] => true
  | a :: r, b :: s => W.beq a b && W.beqs r s
  | _, _ => false
end
mutual
theorem W.beq_eq : ∀ a b : W, W.beq a b = true → a = b
  | .non, b, h => by cases b <;> simp_all [W.beq]
  | .bl _, b, h => by cases b <;> simp_all [W.beq]
  | .int _, b, h => by cases b <;> simp_all [W.beq]
  | .str _, b, h => by cases b <;> simp_all [W.beq]
  | .tup a, b, h => by
    cases b <;> simp only [W.beq, Bool.false_eq_true] at h
    rw [W.beqs_eq a _ h]
  | .frl a, b, h => by
    cases b <;> simp only [W.beq, Bool.false_eq_true] at h
    rw [W.beqs_eq a _ h]
  | .loc _, b, h => by cases b <;> simp_all [W.beq]
  | .glb _, b, h => by cases b <;> simp_all [W.beq]
  | .frd a c, b, h => by
    cases b <;> simp only [W.beq, Bool.false_eq_true, Bool.and_eq_true, beq_iff_eq] at h
    rw [h.1, W.beqs_eq c _ h.2]
theorem W.beqs_eq : ∀ a b : List W, W.beqs a b = true → a = b
  | [], b, h => by cases b <;> simp_all [W.beqs]
  | a :: r, b, h => by
    cases b with
    | nil => simp [W.beqs] at h
    | cons c s =>
      simp only [W.beqs, Bool.and_eq_true] at h
      rw [W.beq_eq a c h.1, W.beqs_eq r s h.2]
end
mutual
theorem W.beq_refl : ∀ a : W, W.beq a a = true
  | .non => rfl
  | .bl _ => by simp [W.beq]
  | .int _ => by simp [W.beq]
  | .str _ => by simp [W.beq]
  | .tup a => by simp only [W.beq]; exact W.beqs_refl a
  | .frl a => by simp only [W.beq]; exact W.beqs_refl a
  | .loc _ => by simp [W.beq]
  | .glb _ => by simp [W.beq]
  | .frd a c => by simp only [W.beq, W.beqs_refl c, beq_self_eq_true, Bool.and_self]
theorem W.beqs_refl : ∀ a : List W, W.beqs a a = true
  | [] => rfl
  | a :: r => by simp only [W.beqs, W.beq_refl a, W.beqs_refl r, Bool.and_self]
end
instance : DecidableEq W := fun a b =>
  if h : W.beq a b = true then .isTrue (W.beq_eq a b h) else .isFalse fun e => h (e ▸ W.beq_refl a)

/-- what stands in the store -/
inductive SO where
  | lst (ws : List W)
  | dct (kvs : List (W × W))
  | ins (c : Nat) (fs : List (Str × W))
  deriving DecidableEq
abbrev Sto := List SO
/-- an exception: its class, its fields -/
structure Exc where
  cls : Nat
  fs : List (Str × W)
inductive Res (α : Type) where
  | ok (a : α) (s : Sto)
  | exc (x : Exc) (s : Sto)
  | stuck
abbrev M (α : Type) := Sto → Res α
@[reducible] def ret {α : Type} (a : α) : M α := fun s => .ok a s
@[reducible] def bad {α : Type} : M α := fun _ => .stuck
def Res.bind {α β : Type} (r : Res α) (f : α → M β) : Res β := match r with
  | .ok a s => f a s
  | .exc x s => .exc x s
  | .stuck => .stuck
@[reducible] def bnd {α β : Type} (m : M α) (f : α → M β) : M β := fun s => (m s).bind f
@[simp] theorem bind_ok {α β : Type} (a : α) (s : Sto) (f : α → M β) : (Res.ok a s).bind f = f a s := rfl
@[simp] theorem bind_exc {α β : Type} (x : Exc) (s : Sto) (f : α → M β) : (Res.exc x s : Res α).bind f = .exc x s := rfl
@[simp] theorem bind_stuck {α β : Type} (f : α → M β) : (Res.stuck : Res α).bind f = .stuck := rfl
/-- what an answer is wanted for -/
def wp {α : Type} (r : Res α) (Q : α → Sto → Prop) (E : Exc → Sto → Prop := fun _ _ => False) : Prop := match r with
  | .ok a s => Q a s
  | .exc x s => E x s
  | .stuck => False
theorem wp_bind {α β : Type} (r : Res α) (f : α → M β) (Q : β → Sto → Prop) (E : Exc → Sto → Prop) : wp (r.bind f) Q E = wp r (fun a s => wp (f a s) Q E) E := by cases r <;> rfl
theorem wp_mono {α : Type} {r : Res α} {Q Q' : α → Sto → Prop} {E E' : Exc → Sto → Prop} (h : wp r Q E) (hq : ∀ a s, Q a s → Q' a s) (he : ∀ x s, E x s → E' x s) : wp r Q' E' := by
  cases r with
  | ok a s => exact hq a s h
  | exc x s => exact he x s h
  | stuck => exact h
def ofOpt {α : Type} (o : Option α) : M α := match o with
  | some a => ret a
  | none => bad
def lay (o : SO) : M W := fun s => .ok (.loc s.length) (s ++ [o])

/-- the most that a list or a text holds here -/
abbrev SZ : Nat := 16777216

/-! ### data -/
/-- a value as data, lists and dicts read at the store; n: how deep -/
def toD : Nat → Sto → W → Option PyData
  | 0, _, _ => none
  | _ + 1, _, .non => some .none
  | _ + 1, _, .bl b => some (.bool b)
  | _ + 1, _, .int i => some (.int i)
  | _ + 1, _, .str x => some (.str x)
  | n + 1, s, .tup xs => (xs.mapM (toD n s)).map .tuple
  | n + 1, s, .frl xs => (xs.mapM (toD n s)).map .list
  | n + 1, s, .loc l => match s[l]? with
    | some (.lst xs) => (xs.mapM (toD n s)).map .list
    | some (.dct kvs) => match (kvs.map (·.1)).mapM (toD n s), (kvs.map (·.2)).mapM (toD n s) with
      | some ks, some vs => some (.dict (ks.zip vs))
      | _, _ => none
    | _ => none
  | _ + 1, _, .glb _ => none
  | _ + 1, _, .frd _ _ => none
/-- how deep data is read -/
abbrev DEEP : Nat := 60
def dat (s : Sto) (w : W) : Option PyData := toD DEEP s w

/-! ### operations -/
inductive Bop where
  | add | sub | mul | mod | fdiv | pow
  deriving DecidableEq
inductive Cop where
  | lt | le | gt | ge | eq | ne | isin | notin | is | isnot
  deriving DecidableEq

def isLst (s : Sto) : W → Option (List W)
  | .frl xs => some xs
  | .loc n => match s[n]? with
    | some (.lst xs) => some xs
    | _ => none
  | _ => none
/-- a key: a number or a text -/
def isKey : W → Bool
  | .int _ => true
  | .str _ => true
  | _ => false
/-- a dict's pairs -/
def dctAt (s : Sto) : W → Option (List (W × W))
  | .loc n => match s[n]? with
    | some (.dct kvs) => some kvs
    | _ => none
  | _ => none
def dLook (kvs : List (W × W)) (k : W) : Option W := (kvs.find? fun p => decide (p.1 = k)).map (·.2)
def isStrW : W → Bool
  | .str _ => true
  | _ => false
/-- is it among a dict's keys -/
def inDct (s : Sto) (x : W) : W → Option Bool
  | .frd ks vs => if isStrW x then some (dLook ((ks.map W.str).zip vs) x).isSome else none
  | y => match dctAt s y with
    | some kvs => if isKey x then some (dLook kvs x).isSome else none
    | none => none
/-- a list's or a tuple's items -/
def isSeq (s : Sto) : W → Option (List W)
  | .tup xs => some xs
  | w => isLst s w

def truW (s : Sto) : W → Option Bool
  | .non => some false
  | .bl b => some b
  | .int i => some (i != 0)
  | .str x => if x.length ≤ SZ then some ((x.length : Int) != 0) else none
  | .tup xs => some (!xs.isEmpty)
  | .frl xs => some (!xs.isEmpty)
  | .loc n => match s[n]? with
    | some (.lst xs) => some (!xs.isEmpty)
    | some (.dct kvs) => some (!kvs.isEmpty)
    | _ => none
  | .glb _ => none
  | .frd _ _ => none
def tru (w : W) : M Bool := fun s => match truW s w with
  | some b => .ok b s
  | none => .stuck

def lenW (s : Sto) : W → Option Nat
  | .str x => if x.length ≤ SZ then some x.length else none
  | .tup xs => some xs.length
  | .frl xs => some xs.length
  | .loc n => match s[n]? with
    | some (.lst xs) => some xs.length
    | some (.dct kvs) => some kvs.length
    | _ => none
  | _ => none

def binop : Bop → W → W → M W
  | .add, .int i, .int j => ret (.int (i + j))
  | .add, .str x, .str y => if x.length + y.length ≤ SZ then ret (.str (x ++ y)) else bad
  | .add, .tup x, .tup y => if x.length + y.length ≤ SZ then ret (.tup (x ++ y)) else bad
  | .add, .loc a, .loc b => fun s => match s[a]?, s[b]? with
    | some (.lst x), some (.lst y) => if x.length + y.length ≤ SZ then lay (.lst (x ++ y)) s else .stuck
    | _, _ => .stuck
  | .sub, .int i, .int j => ret (.int (i - j))
  | .mul, .int i, .int j => if i.natAbs.log2 + j.natAbs.log2 < 1000000 then ret (.int (i * j)) else bad
  | .mul, .loc a, .int k => fun s => match s[a]? with
    | some (.lst x) => if -(2 ^ 63) ≤ k ∧ k < 2 ^ 63 ∧ x.length * k.toNat ≤ SZ then lay (.lst (List.replicate k.toNat x).flatten) s else .stuck
    | _ => .stuck
  | .mod, .int i, .int j => if 0 < j then ret (.int (i % j)) else bad
  | .fdiv, .int i, .int j => if 0 < j ∧ j.natAbs.log2 < 9000 then ret (.int (i / j)) else bad
  | .pow, .int i, .int j => if 0 ≤ j ∧ j ≤ 1000000 ∧ i.natAbs < 2 ^ 64 then ret (.int (i ^ j.toNat)) else bad
  | _, _, _ => bad

def flatW : W → Bool
  | .non => true
  | .bl _ => true
  | .int _ => true
  | .str _ => true
  | _ => false
def eqF : W → W → Bool
  | .non, .non => true
  | .bl a, .bl b => a == b
  | .bl a, .int b => (if a then 1 else 0) == b
  | .int a, .bl b => a == (if b then 1 else 0)
  | .int a, .int b => a == b
  | .str a, .str b => a == b
  | _, _ => false
/-- two scalars, but a truth and a number -/
def sameW : W → W → Bool
  | .non, .non => true
  | .non, .int _ => true
  | .int _, .non => true
  | .non, .bl _ => true
  | .bl _, .non => true
  | .non, .str _ => true
  | .str _, .non => true
  | .bl _, .bl _ => true
  | .int _, .int _ => true
  | .str _, .str _ => true
  | .int _, .str _ => true
  | .str _, .int _ => true
  | .bl _, .str _ => true
  | .str _, .bl _ => true
  | _, _ => false
def isTupW : W → Option (List W)
  | .tup xs => some xs
  | _ => none
/-- two tuples one of which is empty, two lists of unlike lengths or both empty: no item is looked at -/
def eqE (s : Sto) (a b : W) : Option Bool :=
  match isTupW a, isTupW b with
  | some xs, some ys => if xs.isEmpty || ys.isEmpty then some (xs.isEmpty && ys.isEmpty) else none
  | _, _ => match isLst s a, isLst s b with
    | some xs, some ys => if xs.length ≠ ys.length then some false else if xs.isEmpty then some true else none
    | _, _ => none
/-- are two values equal, by their data -/
def eqW (s : Sto) (a b : W) : Option Bool :=
  if sameW a b then some (decide (a = b))
  else match eqE s a b with
    | some r => some r
    | none => match dat s a, dat s b with
      | some d, some e => if SeqAt.shaped d && SeqAt.shaped e then some (PyData.eqv d e) else none
      | _, _ => none

def cmpB : Cop → W → W → Sto → Option Bool
  | .lt, .int i, .int j, _ => some (decide (i < j))
  | .le, .int i, .int j, _ => some (decide (i ≤ j))
  | .gt, .int i, .int j, _ => some (decide (j < i))
  | .ge, .int i, .int j, _ => some (decide (j ≤ i))
  | .lt, .str i, .str j, _ => some (decide (i.cps.toList < j.cps.toList))
  | .le, .str i, .str j, _ => some (!decide (j.cps.toList < i.cps.toList))
  | .eq, a, b, s => eqW s a b
  | .ne, a, b, s => (eqW s a b).map (!·)
  | .isin, .str x, .str y, _ => if x.cps.size = 1 then some (decide (x.cps.getD 0 0 ∈ y.cps.toList)) else none
  | .notin, .str x, .str y, _ => if x.cps.size = 1 then some (!decide (x.cps.getD 0 0 ∈ y.cps.toList)) else none
  | .isin, x, y, s => match isSeq s y with
    | some ys => if flatW x && ys.all flatW then some (ys.any fun z => eqF z x) else none
    | none => inDct s x y
  | .notin, x, y, s => match isSeq s y with
    | some ys => if flatW x && ys.all flatW then some (!ys.any fun z => eqF z x) else none
    | none => (inDct s x y).map (!·)
  | .is, .glb _, _, _ => none
  | .isnot, .glb _, _, _ => none
  | .is, x, .non, _ => some (decide (x = .non))
  | .isnot, x, .non, _ => some (!decide (x = .non))
  | _, _, _, _ => none
def cmpop (o : Cop) (a b : W) : M W := fun s => match cmpB o a b s with
  | some t => .ok (.bl t) s
  | none => .stuck

/-- o[i] -/
def idxW (o i : W) : M W := fun s => match o, i with
  | .str z, .int k => if 0 ≤ k ∧ k < 2 ^ 63 then (match z.cps[k.toNat]? with
      | some c => .ok (.str ⟨#[c]⟩) s
      | none => .stuck) else .stuck
  | .loc n, k => match s[n]? with
    | some (.lst xs) => (match k with
      | .int k => (match L2.atI xs k with
        | some w => .ok w s
        | none => .stuck)
      | _ => .stuck)
    | some (.dct kvs) => if isKey k then (match dLook kvs k with
        | some w => .ok w s
        | none => .stuck) else .stuck
    | _ => .stuck
  | .frd ks vs, .str x => (match dLook ((ks.map W.str).zip vs) (.str x) with
      | some w => .ok w s
      | none => .stuck)
  | .tup xs, .int k => (match L2.atI xs k with
      | some w => .ok w s
      | none => .stuck)
  | .frl xs, .int k => (match L2.atI xs k with
      | some w => .ok w s
      | none => .stuck)
  | _, _ => .stuck
def cut {α : Type} (xs : List α) (lo hi : Option Int) : List α := (xs.drop (HT.sIx xs.length 0 lo)).take (HT.sIx xs.length xs.length hi - HT.sIx xs.length 0 lo)
/-- a part of a slice -/
def part : W → Option (Option Int)
  | .int i => some (some i)
  | _ => none
def slcW (o : W) (lo hi : Option Int) : M W := fun s => match o with
  | .str z => if z.length ≤ SZ then .ok (.str (L2.cutS z lo hi)) s else .stuck
  | .tup xs => .ok (.tup (cut xs lo hi)) s
  | .frl xs => lay (.lst (cut xs lo hi)) s
  | .loc n => match s[n]? with
    | some (.lst xs) => lay (.lst (cut xs lo hi)) s
    | _ => .stuck
  | _ => .stuck
/-- a pair is put into a dict -/
def putW (kvs : List (W × W)) (k v : W) : List (W × W) :=
  if (kvs.any fun p => decide (p.1 = k)) = true then kvs.map (fun p => if p.1 = k then (p.1, v) else p) else kvs ++ [(k, v)]
def mergeW (acc more : List (W × W)) : List (W × W) := more.foldl (fun a p => putW a p.1 p.2) acc
/-- o[i] = v -/
def setW (o i v : W) : M Unit := fun s => match o with
  | .loc n => match s[n]? with
    | some (.lst xs) => (match i with
      | .int k => (match L2.ixN xs.length k with
        | some j => .ok () (s.set n (.lst (xs.set j v)))
        | none => .stuck)
      | _ => .stuck)
    | some (.dct kvs) => if isKey i = true ∧ kvs.length < SZ then .ok () (s.set n (.dct (putW kvs i v))) else .stuck
    | _ => .stuck
  | _ => .stuck
/-! ### instances -/
def putFW (f : Str) (v : W) : List (Str × W) → List (Str × W)
  | [] => [(f, v)]
  | (g, x) :: r => if g = f then (g, v) :: r else (g, x) :: putFW f v r
/-- x.f, x of one of the classes cs -/
def fldW (cs : List Nat) (f : Str) (x : W) : M W := fun s => match x with
  | .loc n => match s[n]? with
    | some (.ins c fs) => if cs.contains c = true then (match fs.lookup f with
      | some w => .ok w s
      | none => .stuck) else .stuck
    | _ => .stuck
  | _ => .stuck
/-- x.f = v -/
def setFW (cs : List Nat) (f : Str) (x v : W) : M Unit := fun s => match x with
  | .loc n => match s[n]? with
    | some (.ins c fs) => if cs.contains c = true ∧ fs.length < 1000 then .ok () (s.set n (.ins c (putFW f v fs))) else .stuck
    | _ => .stuck
  | _ => .stuck
/-- classes, and what each one's method is: a def, defaults, an order -/
abbrev MTab := List (Nat × Nat × List W × List Nat)
def mthW (s : Sto) (x : W) (m : Str) (tb : MTab) : Option (Nat × List W × List Nat) := match x with
  | .loc n => match s[n]? with
    | some (.ins c fs) => if (fs.lookup m).isNone = true then tb.lookup c else none
    | _ => none
  | _ => none

/-- what a for walks: the items, and the lists that have to stay as they are -/
def itemsW (s : Sto) : W → Option (List W × List (Nat × List W))
  | .tup xs => some (xs, [])
  | .frl xs => some (xs, [])
  | .str x => some (x.cps.toList.map fun c => .str ⟨#[c]⟩, [])
  | .loc n => match s[n]? with
    | some (.lst xs) => some (xs, [(n, xs)])
    | _ => none
  | _ => none

/-! ### built-in functions, methods -/
/-- a list of pairs -/
def pairsOf : List W → Option (List (W × W))
  | [] => some []
  | .tup [k, v] :: r => (pairsOf r).map ((k, v) :: ·)
  | _ => none
inductive Blt where
  | len | abs | max | min | divmod | all | any | repr | tuple | list | str | int | dict
  deriving DecidableEq
def blt : Blt → List W → M W
  | .len, [x] => fun s => match lenW s x with
    | some n => .ok (.int n) s
    | none => .stuck
  | .abs, [.int i] => ret (.int (if i < 0 then -i else i))
  | .max, [.int i, .int j] => ret (.int (if j > i then j else i))
  | .min, [.int i, .int j] => ret (.int (if j < i then j else i))
  | .divmod, [.int i, .int j] => if 0 < j ∧ j.natAbs.log2 < 9000 then ret (.tup [.int (i / j), .int (i % j)]) else bad
  | .all, [x] => fun s => match isLst s x with
    | some ws => if ws.all (fun w => match w with | .bl _ => true | _ => false) then .ok (.bl (ws.all fun w => decide (w = .bl true))) s else .stuck
    | none => .stuck
  | .any, [x] => fun s => match isLst s x with
    | some ws => if ws.all (fun w => match w with | .bl _ => true | _ => false) then .ok (.bl (ws.any fun w => decide (w = .bl true))) s else .stuck
    | none => .stuck
  | .repr, [x] => fun s => match dat s x with
    | some d => if d.showable && decide (d.shown.length ≤ SZ) && decide (d.depth ≤ 60) then .ok (.str d.shown) s else .stuck
    | none => .stuck
  | .tuple, [.tup xs] => ret (.tup xs)
  | .tuple, [x] => fun s => match isLst s x with
    | some ws => .ok (.tup ws) s
    | none => .stuck
  | .list, [x] => fun s => match isSeq s x with
    | some ws => lay (.lst ws) s
    | none => match dctAt s x with
      | some kvs => lay (.lst (kvs.map (·.1))) s
      | none => .stuck
  | .str, [.int i] => if i.natAbs.log2 < 1920 then ret (.str (toString i)) else bad
  | .int, [.str x] => if x.length ≤ 640 then (match PySem.intText? x with
      | some n => ret (.int n)
      | none => bad) else bad
  | .int, [.bl b] => ret (.int (if b then 1 else 0))
  | .dict, [x] => fun s => match dctAt s x with
    | some kvs => lay (.dct kvs) s
    | none => match isLst s x with
      | some ws => (match pairsOf ws with
        | some kvs => if kvs.all (fun p => isKey p.1) = true ∧ kvs.length ≤ SZ then lay (.dct (mergeW [] kvs)) s else .stuck
        | none => .stuck)
      | none => .stuck
  | _, _ => bad

inductive Met where
  | join | append | pop | popi | count | rev | index | upd
  deriving DecidableEq
def strsOf : List W → Option (List Str)
  | [] => some []
  | .str x :: r => (strsOf r).map (x :: ·)
  | _ :: _ => none
def intsOf : List W → Option (List Int)
  | [] => some []
  | .int i :: r => (intsOf r).map (i :: ·)
  | _ :: _ => none
/-- how many unlike ones -/
def lset (w : W) : M W := match w with
  | .tup xs => match intsOf xs with
    | some ns => if ns.length ≤ 4000 then ret (.int ns.eraseDups.length) else bad
    | none => bad
  | _ => bad
def met : Met → W → List W → M W
  | .join, .str a, [x] => fun s => match isSeq s x with
    | some ws => (match strsOf ws with
      | some ys => if (ys.map fun y => y.length).sum + ys.length * a.length ≤ SZ then .ok (.str (Txt.join a ys)) s else .stuck
      | none => .stuck)
    | none => .stuck
  | .append, .loc n, [w] => fun s => match s[n]? with
    | some (.lst xs) => if xs.length < SZ then .ok .non (s.set n (.lst (xs ++ [w]))) else .stuck
    | _ => .stuck
  | .pop, .loc n, [] => fun s => match s[n]? with
    | some (.lst xs) => (match xs[xs.length - 1]? with
      | some w => .ok w (s.set n (.lst xs.dropLast))
      | none => .stuck)
    | _ => .stuck
  | .popi, .loc n, [.int i] => fun s => match s[n]? with
    | some (.lst xs) => if -(2 ^ 63) ≤ i ∧ i < 2 ^ 63 then (match L2.ixN xs.length i with
      | some k => (match xs[k]? with
        | some w => .ok w (s.set n (.lst (xs.eraseIdx k)))
        | none => .stuck)
      | none => .stuck) else .stuck
    | _ => .stuck
  | .count, .tup xs, [.int k] => match intsOf xs with
    | some ns => ret (.int (ns.count k))
    | none => bad
  | .rev, .loc n, [] => fun s => match s[n]? with
    | some (.lst xs) => .ok .non (s.set n (.lst xs.reverse))
    | _ => .stuck
  | .index, .str a, [.str b] => match Txt.index0 a b with
    | some k => ret (.int (k : Nat))
    | none => bad
  | .upd, .loc n, [.loc m] => fun s => match s[n]?, s[m]? with
    | some (.dct a), some (.dct b) => if n ≠ m ∧ a.length + b.length ≤ SZ then .ok .non (s.set n (.dct (mergeW a b))) else .stuck
    | _, _ => .stuck
  | _, _, _ => bad

/-- is it a thing that has the method -/
def metOk (s : Sto) : Met → W → Bool
  | .join, .str _ => true
  | .append, .loc n => match s[n]? with
    | some (.lst _) => true
    | _ => false
  | .pop, .loc n => match s[n]? with
    | some (.lst _) => true
    | _ => false
  | .popi, .loc n => match s[n]? with
    | some (.lst _) => true
    | _ => false
  | .count, .tup _ => true
  | .rev, .loc n => match s[n]? with
    | some (.lst _) => true
    | _ => false
  | .index, .str _ => true
  | .upd, .loc n => match s[n]? with
    | some (.dct _) => true
    | _ => false
  | _, _ => false
/-- the kinds that isinstance asks of -/
inductive Ty where
  | int | bool | str | tuple | list | dict | own (c : Nat)
  deriving DecidableEq
/-- is it one? (own classes stand for themselves alone) -/
def isTy (s : Sto) : W → Ty → Option Bool
  | .non, t => some false
  | .bl _, t => some (t == .bool || t == .int)
  | .int _, t => some (t == .int)
  | .str _, t => some (t == .str)
  | .tup _, t => some (t == .tuple)
  | .frl _, t => none
  | .loc n, t => match s[n]? with
    | some (.lst _) => some (t == .list)
    | some (.dct _) => some (t == .dict)
    | _ => none
  | .glb _, _ => none
  | .frd _ _, _ => none

/-! ### dicts -/
/-- a written dict: its keys and values in turns; unlike keys -/
def pairUp : List W → Option (List (W × W))
  | [] => some []
  | k :: v :: r => (pairUp r).map ((k, v) :: ·)
  | [_] => none
def dctOf (ws : List W) : M W := fun s => match pairUp ws with
  | some kvs => if kvs.all (fun p => isKey p.1) && decide ((kvs.map (·.1)).Nodup) && decide (kvs.length ≤ 15) then lay (.dct kvs) s else .stuck
  | none => .stuck
end Mi

/-! Mi2: the small machine's texts (E, T, S) and what they do. -/
namespace Mi
open PySem

/-- how a for's source is made of its parts: a value; range of one, of two; enumerate; zip of two -/
inductive Ik where
  | val | rng1 | rng2 | enum | zip | rrng
  deriving DecidableEq
/-- a comprehension's target -/
inductive Tn where
  | nm (i : Nat)
  | tp (is : List Nat)
  deriving DecidableEq
inductive E where
  | cst (w : W)
  | var (i : Nat)
  | tup (es : List E)
  | lst (es : List E)
  /-- a written dict: keys and values in turns -/
  | dct (es : List E)
  | bin (op : Bop) (a b : E)
  | neg (a : E)
  | not (a : E)
  | cmp (op : Cop) (a b : E)
  | cmp2 (op op' : Cop) (a b c : E)
  | and (es : List E)
  | or (es : List E)
  | ite (c a b : E)
  | idx (a b : E)
  | slc (a : E) (lo hi : List E)
  /-- f(positional, keywords), the values put in the parameters' order -/
  | call (f : Nat) (es : List E) (ds : List W) (ord : List Nat)
  /-- the def that the slot holds, one of fs -/
  | callv (i : Nat) (fs : List Nat) (es : List E)
  /-- len(set(a)) -/
  | lset (a : E)
  | blt (b : Blt) (es : List E)
  | met (m : Met) (o : E) (es : List E)
  | isi (a : E) (ts : List Ty)
  | lc (elt : E) (tg : Tn) (own : List Nat) (k : Ik) (its : List E) (cond : List E)
  /-- what a for walks, and nothing else: range(..), enumerate(..), zip(..) -/
  | it (k : Ik) (es : List E)
  /-- a.f, a of one of the classes cs -/
  | fld (a : E) (f : Str) (cs : List Nat)
  /-- o.m(..), by o's class -/
  | mth (o : E) (m : Str) (tb : MTab) (es : List E)
  /-- C(..): the class, its __init__ -/
  | mk (c f : Nat) (es : List E) (ds : List W) (ord : List Nat)
  /-- {k: v for ..} -/
  | dc (k v : E) (tg : Tn) (own : List Nat) (ik : Ik) (its : List E) (cond : List E)

abbrev Env := List (Option W)
def wipe (ρ : Env) : List Nat → Env
  | [] => ρ
  | v :: vs => (wipe ρ vs).set v none
def setAll : List Nat → List W → Env → Env
  | i :: r, w :: ws, ρ => setAll r ws (ρ.set i (some w))
  | _, _, ρ => ρ
def bindT (t : Tn) (w : W) (ρ : Env) : Option Env := match t with
  | .nm i => some (ρ.set i (some w))
  | .tp is => match w with
    | .tup ws => if ws.length = is.length then some (setAll is ws ρ) else none
    | _ => none

/-- the items of a for, and the lists that have to stay -/
def iter (k : Ik) (vs : List W) : M (List W × List (Nat × List W)) := fun s => match k, vs with
  | .val, [v] => match itemsW s v with
    | some (ws, n) => if ws.length ≤ SZ then .ok (ws, n) s else .stuck
    | none => .stuck
  | .rng1, [.int j] => if j ≤ SZ ∧ -(2 ^ 62) ≤ j then .ok ((List.range j.toNat).map fun k : Nat => W.int (k : Int), []) s else .stuck
  | .rng2, [.int i, .int j] => if -(2 ^ 62) ≤ i ∧ i < 2 ^ 62 ∧ -(2 ^ 62) ≤ j ∧ j < 2 ^ 62 ∧ j - i ≤ SZ then .ok ((List.range (j - i).toNat).map fun k : Nat => W.int (i + (k : Int)), []) s else .stuck
  | .zip, [v, u] => match itemsW s v, itemsW s u with
    | some (xs, a), some (ys, b) => if xs.length ≤ SZ ∧ ys.length ≤ SZ then .ok ((xs.zip ys).map fun p => .tup [p.1, p.2], a ++ b) s else .stuck
    | _, _ => .stuck
  | .rrng, [.int j] => if j ≤ SZ ∧ -(2 ^ 62) ≤ j then .ok ((List.range j.toNat).map fun k : Nat => W.int (((j.toNat : Nat) : Int) - 1 - (k : Int)), []) s else .stuck
  | _, _ => .stuck
def stays (s : Sto) (l : List (Nat × List W)) : Bool := l.all fun p => decide (s[p.1]? = some (.lst p.2))

def lcGo {α : Type} (elt : Env → M α) (cond : Env → M Bool) (tg : Tn) (ρ : Env) (chk : Sto → Bool) : List W → M (List α)
  | [] => fun s => if chk s then .ok [] s else .stuck
  | w :: r => fun s => if chk s then (match bindT tg w ρ with
      | none => .stuck
      | some ρ1 => (cond ρ1 s).bind fun b => if b then bnd (elt ρ1) (fun y => bnd (lcGo elt cond tg ρ chk r) fun ys => ret (y :: ys)) else lcGo elt cond tg ρ chk r)
    else .stuck
/-- what raises is not told of -/
def noExc {α : Type} (m : M α) : M α := fun s => match m s with
  | .ok a s' => .ok a s'
  | _ => .stuck

section
variable (φ : Nat → List W → M W)
mutual
def den : E → Env → M W
  | .cst w, _ => ret w
  | .var i, ρ => fun s => match ρ[i]? with
    | some (some w) => .ok w s
    | _ => .stuck
  | .tup es, ρ => bnd (dens es ρ) fun ws => if ws.length ≤ SZ then ret (.tup ws) else bad
  | .lst es, ρ => bnd (dens es ρ) fun ws => if ws.length ≤ SZ then lay (.lst ws) else bad
  | .dct es, ρ => bnd (dens es ρ) fun ws => dctOf ws
  | .bin op a b, ρ => bnd (den a ρ) fun x => bnd (den b ρ) fun y => binop op x y
  | .neg a, ρ => bnd (den a ρ) fun x => match x with
    | .int i => ret (.int (-i))
    | _ => bad
  | .not a, ρ => bnd (den a ρ) fun x => bnd (tru x) fun b => ret (.bl !b)
  | .cmp op a b, ρ => bnd (den a ρ) fun x => bnd (den b ρ) fun y => cmpop op x y
  | .cmp2 op op' a b c, ρ => bnd (den a ρ) fun x => bnd (den b ρ) fun y => bnd (cmpop op x y) fun z => match z with
    | .bl true => bnd (den c ρ) fun u => cmpop op' y u
    | .bl false => ret (.bl false)
    | _ => bad
  | .and es, ρ => denAnd es ρ
  | .or es, ρ => denOr es ρ
  | .ite c a b, ρ => bnd (den c ρ) fun x => bnd (tru x) fun t => if t then den a ρ else den b ρ
  | .idx a b, ρ => bnd (den a ρ) fun x => bnd (den b ρ) fun y => idxW x y
  | .slc a lo hi, ρ => bnd (den a ρ) fun x => bnd (denPart lo ρ) fun l => bnd (denPart hi ρ) fun h => slcW x l h
  | .call f es ds ord, ρ => bnd (dens es ρ) fun ws => match ord.mapM fun i => (ws ++ ds)[i]? with
    | some as => φ f as
    | none => bad
  | .callv i fs es, ρ => fun s => match ρ[i]? with
    | some (some (.glb f)) => if fs.contains f then (bnd (dens es ρ) fun ws => φ f ws) s else .stuck
    | _ => .stuck
  | .lset a, ρ => bnd (den a ρ) fun x => lset x
  | .blt b es, ρ => bnd (dens es ρ) fun ws => blt b ws
  | .met m o es, ρ => bnd (den o ρ) fun x => fun s => if metOk s m x then (bnd (dens es ρ) fun ws => met m x ws) s else .stuck
  | .isi a ts, ρ => bnd (den a ρ) fun x => fun s => match ts.mapM fun t => isTy s x t with
    | some bs => .ok (.bl (bs.any id)) s
    | none => .stuck
  | .lc elt tg own k its cond, ρ => bnd (dens its ρ) fun vs => bnd (iter k vs) fun it =>
      bnd (noExc (lcGo (fun ρ' => den elt ρ') (fun ρ' => denC cond ρ') tg (wipe ρ own) (fun s => stays s it.2) it.1)) fun ys => lay (.lst ys)
  | .it _ _, _ => bad
  | .fld a f cs, ρ => bnd (den a ρ) fun x => fldW cs f x
  | .mth o m tb es, ρ => bnd (den o ρ) fun x => fun s => match mthW s x m tb with
    | some (f, ds, ord) => (bnd (dens es ρ) fun ws => match ord.mapM fun i => (x :: ws ++ ds)[i]? with
      | some as => φ f as
      | none => bad) s
    | none => .stuck
  | .mk c f es ds ord, ρ => bnd (dens es ρ) fun ws => fun s => match ord.mapM fun i => (W.loc s.length :: ws ++ ds)[i]? with
    | some as => (φ f as (s ++ [.ins c []])).bind fun r => if r = .non then ret (.loc s.length) else bad
    | none => .stuck
  | .dc k v tg own ik its cond, ρ => bnd (dens its ρ) fun vs => bnd (iter ik vs) fun it =>
      bnd (noExc (lcGo (fun ρ' => bnd (den k ρ') fun x => bnd (den v ρ') fun y => if isKey x = true then ret (x, y) else bad) (fun ρ' => denC cond ρ') tg (wipe ρ own) (fun s => stays s it.2) it.1)) fun kvs => lay (.dct (mergeW [] kvs))
def dens : List E → Env → M (List W)
  | [], _ => ret []
  | e :: es, ρ => bnd (den e ρ) fun w => bnd (dens es ρ) fun ws => ret (w :: ws)
def denAnd : List E → Env → M W
  | [], _ => bad
  | e :: es, ρ => match es with
    | [] => den e ρ
    | _ :: _ => bnd (den e ρ) fun x => bnd (tru x) fun t => if t then denAnd es ρ else ret x
def denOr : List E → Env → M W
  | [], _ => bad
  | e :: es, ρ => match es with
    | [] => den e ρ
    | _ :: _ => bnd (den e ρ) fun x => bnd (tru x) fun t => if t then ret x else denOr es ρ
def denC : List E → Env → M Bool
  | [], _ => ret true
  | e :: es, ρ => bnd (den e ρ) fun x => bnd (tru x) fun t => if t then denC es ρ else ret false
def denPart : List E → Env → M (Option Int)
  | [], _ => ret none
  | e :: _, ρ => bnd (den e ρ) fun x => match x with
    | .int i => ret (some i)
    | _ => bad
end
end

/-! ### statements -/
inductive T where
  | nm (i : Nat)
  | tp (ts : List T)
  /-- names, and a name for the rest -/
  | st (is : List Nat) (i : Nat)
  | sub (o i : E)
inductive Flow where
  | nxt | rtn (w : W) | brk | cnt
inductive ResS where
  | ok (f : Flow) (ρ : Env) (s : Sto)
  | exc (x : Exc) (ρ : Env) (s : Sto)
  | stuck
inductive S where
  | exp (e : E)
  | set (t : T) (e : E)
  | rtn (e : E)
  | rtn0
  | ite (c : E) (a b : List S)
  | for (t : T) (k : Ik) (its : List E) (b : List S)
  | whl (c : E) (b : List S)
  | rse (cls : Nat) (es : List E)
  | try (b : List S) (cls : Nat) (slot : Option Nat) (h : List S)
  | brk
  | cnt
  | pss
  /-- o.f = e -/
  | fset (o : E) (f : Str) (cs : List Nat) (e : E)
  /-- o.f op= e -/
  | faug (o : E) (f : Str) (cs : List Nat) (op : Bop) (e : E)
  /-- what nobody comes to -/
  | bad
def wpS (r : ResS) (Q : Flow → Env → Sto → Prop) (X : Exc → Env → Sto → Prop := fun _ _ _ => False) : Prop := match r with
  | .ok f ρ s => Q f ρ s
  | .exc x ρ s => X x ρ s
  | .stuck => False
theorem wpS_mono {r : ResS} {Q Q' : Flow → Env → Sto → Prop} {X X' : Exc → Env → Sto → Prop} (h : wpS r Q X) (hq : ∀ f ρ s, Q f ρ s → Q' f ρ s) (hx : ∀ x ρ s, X x ρ s → X' x ρ s) : wpS r Q' X' := by
  cases r with
  | ok f ρ s => exact hq f ρ s h
  | exc x ρ s => exact hx x ρ s h
  | stuck => exact h
/-- an expression, then the rest -/
def withE {α : Type} (r : Res α) (ρ : Env) (f : α → Sto → ResS) : ResS := match r with
  | .ok a s => f a s
  | .exc x s => .exc x ρ s
  | .stuck => .stuck
theorem wpS_withE {α : Type} (r : Res α) (ρ : Env) (f : α → Sto → ResS) (Q : Flow → Env → Sto → Prop) (X : Exc → Env → Sto → Prop) : wpS (withE r ρ f) Q X = wp r (fun a s => wpS (f a s) Q X) (fun x s => X x ρ s) := by cases r <;> rfl
/-- one block, then another where the first goes on -/
def ResS.seq (r : ResS) (f : Env → Sto → ResS) : ResS := match r with
  | .ok .nxt ρ s => f ρ s
  | r => r
theorem wpS_seq (r : ResS) (f : Env → Sto → ResS) (Q : Flow → Env → Sto → Prop) (X : Exc → Env → Sto → Prop) :
    wpS (r.seq f) Q X = wpS r (fun fl ρ s => match fl with | .nxt => wpS (f ρ s) Q X | fl => Q fl ρ s) X := by
  cases r with
  | ok fl ρ s => cases fl <;> rfl
  | exc x ρ s => rfl
  | stuck => rfl
def forGo (bind : W → Env → Sto → Res Env) (body : Env → Sto → ResS) (chk : Sto → Bool) : List W → Env → Sto → ResS
  | [], ρ, s => if chk s then .ok .nxt ρ s else .stuck
  | w :: r, ρ, s => if chk s then (match bind w ρ s with
      | .ok ρ1 s1 => (match body ρ1 s1 with
        | .ok .nxt ρ2 s2 => forGo bind body chk r ρ2 s2
        | .ok .cnt ρ2 s2 => forGo bind body chk r ρ2 s2
        | .ok .brk ρ2 s2 => .ok .nxt ρ2 s2
        | .ok (.rtn v) ρ2 s2 => .ok (.rtn v) ρ2 s2
        | .exc x ρ2 s2 => .exc x ρ2 s2
        | .stuck => .stuck)
      | _ => .stuck) else .stuck
def whlGo (test : Env → M Bool) (body : Env → Sto → ResS) : Nat → Env → Sto → ResS
  | 0, _, _ => .stuck
  | n + 1, ρ, s => withE (test ρ s) ρ fun t s1 => if t then (match body ρ s1 with
      | .ok .nxt ρ2 s2 => whlGo test body n ρ2 s2
      | .ok .cnt ρ2 s2 => whlGo test body n ρ2 s2
      | .ok .brk ρ2 s2 => .ok .nxt ρ2 s2
      | .ok (.rtn v) ρ2 s2 => .ok (.rtn v) ρ2 s2
      | .exc x ρ2 s2 => .exc x ρ2 s2
      | .stuck => .stuck) else .ok .nxt ρ s1

/-- the class of an instance -/
def clsOf (s : Sto) (x : W) : Option Nat := match x with
  | .loc n => match s[n]? with
    | some (.ins c _) => some c
    | _ => none
  | _ => none
/-- op= of numbers -/
def augW : Bop → W → W → M W
  | .add, .int i, .int j => ret (.int (i + j))
  | .sub, .int i, .int j => ret (.int (i - j))
  | _, _, _ => bad
section
variable (φ : Nat → List W → M W)
mutual
def asg : T → W → Env → M Env
  | .nm i, w, ρ => ret (ρ.set i (some w))
  | .tp ts, w, ρ => fun s => match isSeq s w with
    | some ws => if ws.length = ts.length then asgs ts ws ρ s else .stuck
    | none => .stuck
  | .st is i, w, ρ => fun s => match isSeq s w with
    | some ws => if is.length ≤ ws.length then .ok ((setAll is (ws.take is.length) ρ).set i (some (.loc s.length))) (s ++ [.lst (ws.drop is.length)]) else .stuck
    | none => .stuck
  | .sub o i, w, ρ => noExc (bnd (den φ o ρ) fun ov => bnd (den φ i ρ) fun iv => bnd (setW ov iv w) fun _ => ret ρ)
def asgs : List T → List W → Env → M Env
  | [], _, ρ => ret ρ
  | t :: ts, ws, ρ => match ws with
    | w :: ws => bnd (asg t w ρ) fun ρ1 => asgs ts ws ρ1
    | [] => bad
end
/-- C(..) raised: what is made of the arguments is told by the classes' table ψ -/
def test (c : E) (ρ : Env) : M Bool := bnd (den φ c ρ) fun x => tru x
variable (N : Nat) (ψ : Nat → List W → Option (List (Str × W)))
mutual
def exec : S → Env → Sto → ResS
  | .exp e, ρ, s => withE (den φ e ρ s) ρ fun _ s1 => .ok .nxt ρ s1
  | .set t e, ρ, s => withE (den φ e ρ s) ρ fun w s1 => match asg φ t w ρ s1 with
    | .ok ρ1 s2 => .ok .nxt ρ1 s2
    | _ => .stuck
  | .rtn e, ρ, s => withE (den φ e ρ s) ρ fun w s1 => .ok (.rtn w) ρ s1
  | .rtn0, ρ, s => .ok (.rtn .non) ρ s
  | .ite c a b, ρ, s => withE (test φ c ρ s) ρ fun t s1 => if t then execs a ρ s1 else execs b ρ s1
  | .for t k its b, ρ, s => withE (bnd (dens φ its ρ) (iter k) s) ρ fun it s1 => forGo (fun w ρ => asg φ t w ρ) (fun ρ s => execs b ρ s) (fun s => stays s it.2) it.1 ρ s1
  | .whl c b, ρ, s => whlGo (test φ c) (fun ρ s => execs b ρ s) N ρ s
  | .rse cls es, ρ, s => withE (dens φ es ρ s) ρ fun ws s1 => match ψ cls ws with
    | some fs => .exc ⟨cls, fs⟩ ρ s1
    | none => .stuck
  | .try b cls slot h, ρ, s => .stuck
  | .brk, ρ, s => .ok .brk ρ s
  | .cnt, ρ, s => .ok .cnt ρ s
  | .pss, ρ, s => .ok .nxt ρ s
  | .fset o f cs e, ρ, s => withE (bnd (den φ e ρ) (fun w => bnd (den φ o ρ) fun x => setFW cs f x w) s) ρ fun _ s1 => .ok .nxt ρ s1
  | .faug o f cs op e, ρ, s => withE (bnd (den φ o ρ) (fun x s0 => (bnd (fldW cs f x) fun w => bnd (den φ e ρ) fun y => bnd (augW op w y) fun z s1 => if clsOf s0 x = clsOf s1 x then setFW cs f x z s1 else .stuck) s0) s) ρ fun _ s1 => .ok .nxt ρ s1
  | .bad, ρ, s => .stuck
def execs : List S → Env → Sto → ResS
  | [], ρ, s => .ok .nxt ρ s
  | st :: r, ρ, s => (exec st ρ s).seq fun ρ1 s1 => execs r ρ1 s1
end
end

/-- a def: how many parameters, how many names, its body -/
structure FD where
  ar : Nat
  sl : Nat
  body : List S
/-- what a body's end is to the caller -/
def bodyRes : ResS → Res W
  | .ok (.rtn w) _ s => .ok w s
  | .ok .nxt _ s => .ok .non s
  | .exc x _ s => .exc x s
  | _ => .stuck
/-- what a def does, k calls deep -/
def fsem (N : Nat) (ψ : Nat → List W → Option (List (Str × W))) (ds : List FD) : Nat → Nat → List W → M W
  | 0, _, _ => bad
  | k + 1, f, ws => fun s => match ds[f]? with
    | some d => if ws.length = d.ar then bodyRes (execs (fsem N ψ ds k) N ψ d.body (ws.map some ++ List.replicate (d.sl - d.ar) none) s) else .stuck
    | none => .stuck
end Mi

/-! MiR: rules of the hand layer that were lacking: zip of lists, tuples and texts in any mix; a, *b = ..; len(set(..)) of a tuple of numbers; count of a tuple. -/
namespace MiR
open PySem PySem.Spec PyProof.Rows L2
open PySem.Sem (wp)

/-- the object at a has no dict -/
def NoD (K : PySem.W.Frag) (H : Hp) (a : Addr) : Prop := (∃ o u, H a = some (.frz o u) ∧ o.dict = none) ∨ ∃ o, K.lookup a = some o ∧ o.dict = none
/-! ### new tuples, known to the object -/
abbrev obT (us : List Value) : Obj := { cls := .type "tuple", data := .seq us.toArray }
/-- a new tuple: its object has no dict -/
def NewT (H : Hp) (xs : List V) (Q : VK) : Prop := ∀ (p : Addr) (o : Obj), H p = none → o.dict = none → Q (.ref p) (upd H p (.frz o (.tup xs)))
section
variable {X : Cx} {pins : List (Addr × Obj)} {σ : L2.St} {H : Hp} {s : Shared}
theorem new_tup {h' : Heap} {t' : Nat} {xs : List V} {us : List Value} {Q : VK} (I : Inv X pins σ H { s with heap := h' }) (r : Vals xs us) (hz : xs.length ≤ sizeLine) (q : NewT H xs Q) : EP X pins σ Q (.ref h'.objs.size) { s with heap := h'.push (obT us), toks := t' } :=
  ⟨.ref h'.objs.size, _, I.laid (t' := t') (o := .frz (obT us) (.tup xs)) (fun b u e => Heap.get?_push_of_some _ e) (Nat.le_refl _) ⟨Heap.get?_push_size _ rfl, hz, us, r, ⟨_, Heap.get?_push_size _ rfl, rfl, _, rfl⟩⟩, rfl, q _ _ (I.hok.fresh (Nat.le_refl _)) rfl⟩
def tTupF (t : TA) : TE := fun σ H Q => t σ H fun xs H1 => xs.length ≤ sizeLine ∧ NewT H1 xs Q
theorem pe_tupF {es : List Expr} {t : TA} {x1 : Nat} {pos : Pos} (h : PA X es t) : PE X (.Tuple es x1 pos) (tTupF t) := by
  refine ⟨fun pins s σ H Q I hq => ?_⟩
  exact wpAny_Tuple_spliced (thn (h.run pos pins s σ H _ I hq) fun us s1 ⟨xs, H1, I1, r, z, q⟩ => ⟨by rw [← r.length]; exact z, new_tup (s := s1) (h' := s1.heap) (t' := s1.toks) I1 r z q⟩)
def rCatF (K : PySem.W.Frag) : R2 := fun x y H Q => ∃ a b xs ys, x = .ref a ∧ y = .ref b ∧ SqT K H a xs ∧ SqT K H b ys ∧ xs.length + ys.length ≤ sizeLine ∧
  (xs = [] → Q (.ref b) H) ∧ (xs ≠ [] → ys = [] → Q (.ref a) H) ∧ (xs ≠ [] → ys ≠ [] → NewT H (xs ++ ys) Q)
theorem op_catF : OpR X (binaryOp .Add) (rCatF X.K) := by
  intro pins s σ H x y v u Q I rx ry h
  obtain ⟨a, b, xs, ys, rfl, rfl, ha, hb, hz, q0, q1, q2⟩ := h
  cases rx
  cases ry
  obtain ⟨its, r1, p1, _⟩ := I.tuple ha
  obtain ⟨its2, r2, p2, _⟩ := I.tuple hb
  by_cases hx : xs = []
  · subst hx
    cases r1
    exact cat_tup0 p1 p2 ⟨.ref b, H, I, rfl, q0 rfl⟩
  · refine HT.cat_tup p1 p2 (fun z => hx (r1.nil_iff.mp z)) (fun z => ⟨.ref a, H, I, rfl, q1 hx (r2.nil_iff.mp z)⟩) (fun z => ?_) (by rw [← r1.length, ← r2.length]; exact hz)
    exact new_tup (s := s) (h' := s.heap) (t' := s.toks) I (r1.append r2) (by rw [List.length_append]; exact hz) (q2 hx fun w => z (r2.nil_iff.mpr w))
def rSlF (K : PySem.W.Frag) : V → Option Int → Option Int → Hp → VK → Prop := fun x lo hi H Q => ∃ a xs, x = .ref a ∧ SqT K H a xs ∧
  (HT.sIx xs.length 0 lo = 0 ∧ HT.sIx xs.length xs.length hi = xs.length → Q (.ref a) H) ∧ (¬ (HT.sIx xs.length 0 lo = 0 ∧ HT.sIx xs.length xs.length hi = xs.length) → NewT H (cutV xs lo hi) Q)
theorem sl_tupF : L2.SlR X (rSlF X.K) := by
  intro pins s σ H x v vl vu lo hi sl Q I rx hs pl pu h
  obtain ⟨a, xs, rfl, hx, q1, q2⟩ := h
  cases rx
  obtain ⟨its, r, ht, hz⟩ := I.tuple hx
  have hlen : its.toArray.size = xs.length := by rw [List.size_toArray]; exact r.length.symm
  refine ⟨"tuple", _, PyProof.Rows.slot_tuple_getitem.lookup, ht.typeIs, ?_⟩
  by_cases hw : HT.sIx xs.length 0 lo = 0 ∧ HT.sIx xs.length xs.length hi = xs.length
  · exact getItem_tuple_whole ht hs pl pu (by rw [hlen]; exact hw) ⟨.ref a, H, I, rfl, q1 hw⟩
  · refine HT.getItem_tuple_cut ht hs pl pu (by rw [hlen]; exact hw) ?_ (by rw [hlen]; exact hz)
    rw [hlen]
    exact new_tup (s := s) (h' := s.heap) (t' := s.toks) I ((r.drop (HT.sIx xs.length 0 lo)).take (HT.sIx xs.length xs.length hi - HT.sIx xs.length 0 lo)) (Nat.le_trans (cutV_length xs lo hi) hz) (q2 hw)
theorem call_tupleF : CallR X (.type "tuple") (fun xs H Q => ∃ p ys, xs = [.ref p] ∧ ((SqL X.K H p ys ∧ NewT H ys Q) ∨ (SqT X.K H p ys ∧ Q (.ref p) H))) := by
  intro pins s σ H xs us Q I r h
  obtain ⟨p, ys, rfl, h⟩ := h
  obtain ⟨u, rfl, rx⟩ := vals1 r
  cases rx
  rcases h with ⟨hq, q⟩ | ⟨hq, q⟩
  · obtain ⟨its, r', pl, hz⟩ := I.list hq
    have hlen := r'.length
    refine call_tuple_list pl.isList (fun h' kp => ?_) (by simp only [List.size_toArray] <;> omega)
    have I1 : Inv X pins σ H { s with heap := h' } := I.kept (t' := s.toks) kp
    exact new_tup (s := s) (h' := h') (t' := s.toks) I1 r' hz q
  · obtain ⟨its, r', pl, hz⟩ := I.tuple hq
    exact call_tuple_same pl ⟨.ref p, H, I, rfl, q⟩
theorem call_divmodF : CallR X (.builtin "divmod") (fun xs H Q => ∃ i j, xs = [.int i, .int j] ∧ CDivP i j ∧ NewT H [.int (i / j), .int (i % j)] Q) := by
  intro pins s σ H xs us Q I r h
  obtain ⟨i, j, rfl, ⟨h1, h2⟩, q⟩ := h
  obtain ⟨u, w', rfl, ⟨t, rfl⟩, ⟨t', rfl⟩⟩ := vals2 r
  refine divmod_int (by omega) ?_ (.inl h2)
  rw [Int.fdiv_eq_ediv_of_nonneg i (by omega), Int.fmod_eq_emod_of_nonneg i (by omega)]
  exact new_tup (s := s) (h' := s.heap) (xs := [.int (i / j), .int (i % j)]) (us := [.int (i / j) s.toks, .int (i % j) (s.toks + 1)]) I (.cons ⟨_, rfl⟩ (.cons ⟨_, rfl⟩ .nil)) (by simp only [List.length_cons, List.length_nil]; rw [sizeLine_eq]; decide) q
end

/-! ### zip -/
/-- what one side of a zip walks -/
inductive Zs where
  | lst (a : Addr)
  | tup (a : Addr)
  | txt (x : Str)
/-- so many items -/
def Zs.cnt (K : PySem.W.Frag) (H : Hp) : Zs → Nat → Prop
  | .lst a, n => ∃ xs, SqL K H a xs ∧ xs.length = n
  | .tup a, n => ∃ xs, SqT K H a xs ∧ xs.length = n
  | .txt x, n => x.cps.size = n
def Zs.at (K : PySem.W.Frag) (H : Hp) : Zs → Nat → V → Prop
  | .lst a, i, v => ∀ xs, SqL K H a xs → xs[i]? = some v
  | .tup a, i, v => ∀ xs, SqT K H a xs → xs[i]? = some v
  | .txt x, i, v => ∃ c, x.cps[i]? = some c ∧ v = .str ⟨#[c]⟩
def Zs.is : Zs → V → Prop
  | .lst a, v => v = .ref a
  | .tup a, v => v = .ref a
  | .txt x, v => v = .str x
def Zs.it (h : Heap) (I : Addr) : Zs → Nat → Prop
  | .lst a, i => h.IsListIter I a i
  | .tup a, i => h.IsTupleIter I a i
  | .txt x, i => ∃ t, h.IsStrIter I (strIterType x) x t i
def Zs.rest : Zs → List Addr
  | .lst a => [a]
  | .tup a => [a]
  | .txt _ => []
abbrev Zs.fp (I : Addr) (p : Zs) : List Addr := I :: p.rest
theorem Zs.it_at {h h' : Heap} {I : Addr} {p : Zs} {i : Nat} (x : p.it h I i) (k : ∀ o, h.get? I = some o → h'.get? I = some o) : p.it h' I i := by
  cases p with
  | lst a => exact Heap.IsListIter.at x k
  | tup a => exact Heap.IsTupleIter.at x k
  | txt y => obtain ⟨t, o, e, r⟩ := x; exact ⟨t, o, k o e, r⟩
theorem Zs.it_ob {h : Heap} {I : Addr} {p : Zs} {i : Nat} (x : p.it h I i) : ∃ o, h.get? I = some o ∧ ∀ v, o.data ≠ .cell v := by
  cases p with
  | lst a => obtain ⟨o, e, _, d⟩ := x; exact ⟨o, e, fun v q => by rw [d] at q; cases q⟩
  | tup a => obtain ⟨o, e, _, d⟩ := x; exact ⟨o, e, fun v q => by rw [d] at q; cases q⟩
  | txt y => obtain ⟨t, o, e, _, d⟩ := x; exact ⟨o, e, fun v q => by rw [d] at q; cases q⟩
theorem Vals.get' {xs : List V} {us : List Value} {i : Nat} {u : Value} (r : Vals xs us) (h : us[i]? = some u) : ∃ x, xs[i]? = some x ∧ RelV x u := by
  have hl := Paired.length r
  have hi : i < xs.length := by rw [hl]; exact (List.getElem?_eq_some_iff.mp h).1
  obtain ⟨u', e, q⟩ := Vals.get r (List.getElem?_eq_getElem hi)
  rw [h] at e; cases e
  exact ⟨_, List.getElem?_eq_getElem hi, q⟩
section
variable {X : Cx} {pins : List (Addr × Obj)} {σ : L2.St} {H : Hp} {s : Shared}
/-- what an iterator of it draws -/
theorem Zs.draw (I : Inv X pins σ H s) {A : Around} (hh : A.handled = none) {p : Zs} {n i : Nat} {it : Addr} (hc : p.cnt X.K H n) (st : p.it s.heap it i) (hn : ∀ a, (p = .lst a ∨ p = .tup a) → a ≠ it) :
    ∃ P St, Draws X.prog X.w A it (p.fp it) n P St ∧ St i s.heap ∧ (∀ v, P i v → ∃ x, RelV x v ∧ p.at X.K H i x) ∧ ∀ j h, St j h → p.it h it j := by
  cases p with
  | lst a =>
    obtain ⟨xs, hq, rfl⟩ := hc
    obtain ⟨its, rv, pl, _⟩ := I.list hq
    have hl : its.toArray.size = xs.length := by rw [List.size_toArray, ← Paired.length rv]
    refine ⟨_, _, hl ▸ Draws.list hh it a (hn a (.inl rfl)) its.toArray, ⟨st, pl.isList⟩, fun v hv => ?_, fun j h q => q.1⟩
    obtain ⟨x, hx, rx⟩ := MiR.Vals.get' rv (by simpa using hv)
    exact ⟨x, rx, fun ys hy => by rw [I.list_inj hy hq]; exact hx⟩
  | tup a =>
    obtain ⟨xs, hq, rfl⟩ := hc
    obtain ⟨its, rv, pl, _⟩ := I.tuple hq
    have hl : its.toArray.size = xs.length := by rw [List.size_toArray, ← Paired.length rv]
    refine ⟨_, _, hl ▸ Draws.tuple hh it a (hn a (.inr rfl)) its.toArray, ⟨st, pl⟩, fun v hv => ?_, fun j h q => q.1⟩
    obtain ⟨x, hx, rx⟩ := MiR.Vals.get' rv (by simpa using hv)
    exact ⟨x, rx, fun ys hy => by rw [I.tuple_inj hy hq]; exact hx⟩
  | txt y =>
    obtain rfl : y.cps.size = n := hc
    obtain ⟨t, st⟩ := st
    refine ⟨_, _, Draws.text hh it y t, st, fun v hv => ?_, fun j h q => ⟨t, q⟩⟩
    obtain ⟨c, u, e, rfl⟩ := hv
    exact ⟨.str ⟨#[c]⟩, ⟨u, rfl⟩, c, e, rfl⟩
end
/-- the sides' items in new pairs -/
def Itq (K : PySem.W.Frag) (p q : Zs) : It :=
  ⟨fun i H => ∃ m n, p.cnt K H m ∧ q.cnt K H n ∧ i < m ∧ i < n,
    fun i H v H' => ∃ T x y u u2, v = .ref T ∧ H T = none ∧ H' = upd H T (.frz (obT [u, u2]) (.tup [x, y])) ∧ p.at K H i x ∧ q.at K H i y,
    fun i H => ∃ m n, p.cnt K H m ∧ q.cnt K H n ∧ i ≤ m ∧ i ≤ n ∧ (i = m ∨ i = n)⟩
theorem turn_zipQ {P : Program} {w : World} {K : PySem.W.Frag} {elts : List Expr} {kk : Nat} {tpos : Pos} {p q : Zs} {z TI TO i1 i2 : Addr} (D : ZipSep2 z TI TO i1 i2 (p.fp i1) (q.fp i2))
    (d1 : ∀ a, (p = .lst a ∨ p = .tup a) → a ≠ i1) (d2 : ∀ a, (q = .lst a ∨ q = .tup a) → a ≠ i2) :
    Turn P w K (.Tuple elts kk tpos) (Itq K p q) [z, TI, TO, i1, i2] z (fun i h => IsZip h z TI TO .none ∧ IsTupOf2 h TI (.ref i1) (.ref i2) ∧ (∃ x y, IsTupOf2 h TO x y) ∧ p.it h i1 i ∧ q.it h i2 i) where
  mem := by simp
  obj := fun i h st c hc => by
    obtain ⟨hz, hTI, ⟨x, y, hTO⟩, h1, h2⟩ := st
    have e' : c = z ∨ c = TI ∨ c = TO ∨ c = i1 ∨ c = i2 := by simpa using hc
    rcases e' with q | q | q | q | q
    · rw [q]; exact ⟨_, hz, fun v q => nomatch q⟩
    · rw [q]; exact ⟨_, hTI, fun v q => nomatch q⟩
    · rw [q]; exact ⟨_, hTO, fun v q => nomatch q⟩
    · rw [q]; exact Zs.it_ob h1
    · rw [q]; exact Zs.it_ob h2
  keep := fun i h h' st k => by
    obtain ⟨hz, hTI, ⟨x, y, hTO⟩, h1, h2⟩ := st
    exact ⟨k z (by simp) _ hz, k TI (by simp) _ hTI, ⟨x, y, k TO (by simp) _ hTO⟩, Zs.it_at h1 fun o q => k i1 (by simp) o q, Zs.it_at h2 fun o q => k i2 (by simp) o q⟩
  item := by
    intro X hP hw hK hc i pins s σ H E I hf st hg
    subst hP hw hK
    obtain ⟨hz, hTI, ⟨x0, y0, hTO⟩, h1, h2⟩ := st
    obtain ⟨m, n, c1, c2, l1, l2⟩ := hg
    have hh : X.A.in1.handled = none := I.ok.hd hc
    obtain ⟨P1, St1, D1, st1, a1, b1⟩ := Zs.draw I hh c1 h1 d1
    obtain ⟨P2, St2, D2, st2, a2, b2⟩ := Zs.draw I hh c2 h2 d2
    have hzl : z < s.heap.objs.size := Heap.lt_size hz
    refine wpAny_pyNext_zipD2_item D D1 D2 hz hTI hTO st1 st2 l1 l2 fun u u2 h' tk pu pu2 z' TO' s1' s2' hT hsz hk => ?_
    obtain ⟨x, ru, ax⟩ := a1 u pu
    obtain ⟨y, ru2, ay⟩ := a2 u2 pu2
    refine ⟨_, rfl, wpAny_letOwnedTupleGo_zip (s := { s with heap := h', toks := tk }) z' fun h'' z'' sb => ?_⟩
    have hT2 : h''.get? s.heap.objs.size = some { cls := .type "tuple", data := .seq #[u, u2] } := (sb.2 _ (Nat.ne_of_gt hzl)).trans hT
    have new : ObjOk X.prog X.w (upd H s.heap.objs.size (.frz (obT [u, u2]) (.tup [x, y]))) h'' s.heap.objs.size (.frz (obT [u, u2]) (.tup [x, y])) :=
      ⟨hT2, by show 2 ≤ sizeLine; decide, [u, u2], .cons ru (.cons ru2 .nil), ⟨_, hT2, rfl, _, rfl⟩⟩
    have I1 : Inv X pins σ (upd H s.heap.objs.size (.frz (obT [u, u2]) (.tup [x, y]))) { s with heap := h'', toks := tk } :=
      I.turnedNew (t' := tk) (ch := [z, TI, TO, i1, i2]) (fun c o hb q => (sb.2 c (fun q' => hb (by simp [q']))).trans (hk c o (fun q' => hb (by simp [q'])) (fun q' => hb (by simp [q'])) (fun q' => hb (by simp [q'])) (fun q' => hb (by simp [q'])) q)) hf (Nat.le_refl _) new
    refine ⟨.ref s.heap.objs.size, _, I1, rfl, ⟨_, x, y, u, u2, rfl, I.hok.fresh (Nat.le_refl _), rfl, ax, ay⟩, ⟨z'', ?_, ⟨u, u2, ?_⟩, ?_, ?_⟩, fun c hcm => ?_⟩
    · exact (sb.2 _ D.TIz).trans (hk _ _ D.TIz D.TITO D.TIi1 D.TIi2 hTI)
    · exact (sb.2 _ D.TOz).trans TO'
    · exact Zs.it_at (b1 _ _ s1') fun o q => (sb.2 _ (fun e => D.zi1 e.symm)).trans q
    · exact Zs.it_at (b2 _ _ s2') fun o q => (sb.2 _ (fun e => D.zi2 e.symm)).trans q
    · have hlt : c < s.heap.objs.size := by
        have e' : c = z ∨ c = TI ∨ c = TO ∨ c = i1 ∨ c = i2 := by simpa using hcm
        rcases e' with q | q | q | q | q
        · rw [q]; exact hzl
        · rw [q]; exact Heap.lt_size hTI
        · rw [q]; exact Heap.lt_size hTO
        · rw [q]; obtain ⟨_, e1, _⟩ := Zs.it_ob h1; exact Heap.lt_size e1
        · rw [q]; obtain ⟨_, e2, _⟩ := Zs.it_ob h2; exact Heap.lt_size e2
      rw [upd_ne (Nat.ne_of_lt hlt)]
      exact (hf c hcm).1
  done := by
    intro X hP hw hK hc i pins s σ H E I hf st hg
    subst hP hw hK
    obtain ⟨hz, hTI, ⟨x0, y0, hTO⟩, h1, h2⟩ := st
    obtain ⟨m, n, c1, c2, l1, l2, he⟩ := hg
    have hh : X.A.in1.handled = none := I.ok.hd hc
    obtain ⟨P1, St1, D1, st1, a1, b1⟩ := Zs.draw I hh c1 h1 d1
    obtain ⟨P2, St2, D2, st2, a2, b2⟩ := Zs.draw I hh c2 h2 d2
    exact wpAny_pyNext_zipD2_end D D1 D2 hz hTI hTO st1 st2 l1 l2 he fun h' tk hk => ⟨rfl, I.turnedL (t' := tk) (ch := [z, TI, TO, i1, i2]) (fun c o hb q =>
      hk c o (fun q' => hb (by simp [q'])) (fun q' => hb (by simp [q'])) (fun q' => hb (by simp [q'])) (fun q' => hb (by simp [q'])) q) hf⟩
  self := fun A i s Q E st h => wpAny_pyIter_zip st.1 h
def Zs.ok (K : PySem.W.Frag) (H : Hp) (p : Zs) (v : V) : Prop := p.is v ∧ ∃ n, p.cnt K H n
theorem Zs.begins {X : Cx} {pins : List (Addr × Obj)} {σ : L2.St} {H : Hp} {s : Shared} (I : Inv X pins σ H s) {p : Zs} {v : V} {u : Value} (ok : p.ok X.K H v) (r : RelV v u) :
    (∀ a, (p = .lst a ∨ p = .tup a) → a < s.heap.objs.size) ∧ ∃ o Hh, Begins u o Hh ∧ Hh s.heap ∧ ∀ (h' : Heap) (it : Addr), h'.get? it = some o → p.it h' it 0 := by
  obtain ⟨hi, n, hc⟩ := ok
  cases p with
  | lst a =>
    obtain rfl : v = .ref a := hi
    cases r
    obtain ⟨xs, hq, rfl⟩ := hc
    obtain ⟨its, rv, pl, _⟩ := I.list hq
    refine ⟨fun b hb => ?_, _, _, begins_list a its.toArray, pl.isList, fun h' it e => ⟨_, e, rfl, rfl⟩⟩
    rcases hb with hb | hb <;> cases hb
    exact pl.lt
  | tup a =>
    obtain rfl : v = .ref a := hi
    cases r
    obtain ⟨xs, hq, rfl⟩ := hc
    obtain ⟨its, rv, pl, _⟩ := I.tuple hq
    refine ⟨fun b hb => ?_, _, _, begins_tuple a its.toArray, pl, fun h' it e => ⟨_, e, rfl, rfl⟩⟩
    rcases hb with hb | hb <;> cases hb
    obtain ⟨o, e, _⟩ := pl
    exact Heap.lt_size e
  | txt y =>
    obtain rfl : v = .str y := hi
    obtain ⟨t, rfl⟩ := r
    exact ⟨fun b hb => (by rcases hb with hb | hb <;> cases hb), _, _, begins_text y t, trivial, fun h' it e => ⟨t, _, e, rfl, rfl⟩⟩
def iZipQ (K : PySem.W.Frag) (ta : TA) : TI := fun σ H R => ta σ H fun vs H1 => ∃ v1 v2 p q, vs = [v1, v2] ∧ p.ok K H1 v1 ∧ q.ok K H1 v2 ∧ R (Itq K p q) H1
theorem pi_zipQ {X : Cx} {e e2 : Expr} {ta : TA} {p pos tpos : Pos} {elts : List Expr} {kk : Nat} (hg : Gl X "zip") (hm : X.mg "zip" = none) (ha : PA X [e, e2] ta)
    (hs : starEach [e, e2] X.env = (false, eval e X.env) :: starEach [e2] X.env) (hpl : (backTo pos (starEach [e2] X.env)).any (·.1) = false) :
    PI X (.Tuple elts kk tpos) (.Call (.Name "zip" p) [e, e2] [] pos) (iZipQ X.K ta) := by
  refine ⟨fun pins s σ H R I h => ?_⟩
  refine Call_ (ld_blt I hg hm PyProof.Rows.boot_zip (PyProof.Rows.callWith_type1 (thn (ha.run pos pins s σ H _ I h) fun us s1 ⟨vs, H1, I1, r1, q1⟩ => ?_) hs hpl))
  obtain ⟨v1, v2, p, q, ex, k1, k2, qq⟩ := q1
  subst ex
  cases r1 with
  | cons r rr =>
    cases rr with
    | cons r' rr =>
      cases rr
      obtain ⟨n1, o1, H1', B1, b1, w1⟩ := Zs.begins I1 k1 r
      obtain ⟨n2, o2, H2', B2, b2, w2⟩ := Zs.begins I1 k2 r'
      refine zip_begins2 B1 B2 b1 b2 fun h' hz hTI hTO g1 g2 hsz hk => wpAny_pyIter_zip hz ?_
      have I2 : Inv X pins σ H1 { s1 with heap := h' } := I1.kept (t' := s1.toks) hk
      have mem1 : ∀ (p : Zs) (n : ∀ a, (p = .lst a ∨ p = .tup a) → a < s1.heap.objs.size), ∀ b ∈ p.rest, b < s1.heap.objs.size := by
        intro p n b hb
        cases p with
        | lst a => rw [List.mem_singleton.mp hb]; exact n a (.inl rfl)
        | tup a => rw [List.mem_singleton.mp hb]; exact n a (.inr rfl)
        | txt y => cases hb
      have D : ZipSep2 (s1.heap.objs.size + 4) (s1.heap.objs.size + 2) (s1.heap.objs.size + 3) s1.heap.objs.size (s1.heap.objs.size + 1) (p.fp s1.heap.objs.size) (q.fp (s1.heap.objs.size + 1)) := zip_sep2 (mem1 p n1) (mem1 q n2)
      refine ⟨s1.heap.objs.size + 4, [s1.heap.objs.size + 4, s1.heap.objs.size + 2, s1.heap.objs.size + 3, s1.heap.objs.size, s1.heap.objs.size + 1], _, _, H1, rfl, I2, turn_zipQ D (fun a ha => Nat.ne_of_lt (n1 a ha)) (fun a ha => Nat.ne_of_lt (Nat.lt_succ_of_lt (n2 a ha))), ⟨hz, hTI, ⟨_, _, hTO⟩, w1 _ _ g1, w2 _ _ g2⟩, fun c hcm => ?_, qq⟩
      have e' : c = s1.heap.objs.size + 4 ∨ c = s1.heap.objs.size + 2 ∨ c = s1.heap.objs.size + 3 ∨ c = s1.heap.objs.size ∨ c = s1.heap.objs.size + 1 := by simpa using hcm
      have hle : s1.heap.objs.size ≤ c := by
        rcases e' with z | z | z | z | z
        · rw [z]; exact Nat.le_add_right _ _
        · rw [z]; exact Nat.le_add_right _ _
        · rw [z]; exact Nat.le_add_right _ _
        · rw [z]; exact Nat.le_refl _
        · rw [z]; exact Nat.le_add_right _ _
      exact I1.fpOk hle (I1.hok.fresh hle)

/-! ### a, *b = .. -/
section
variable {prog : Program} {w : World} {A : Around} {E : Value → Shared → Prop} {s : Shared}
theorem star_tail {l : Addr} {items : Array Value} {i : Nat} {Q : List Value → Shared → Prop} (hl : IsTup s.heap l items ∨ s.heap.IsList l items) (hh : A.handled = none) (hi : i ≤ items.size) (hz : items.size ≤ sizeLine)
    (h : ∀ (h' : Heap) (tk : Nat), (∀ b o, s.heap.get? b = some o → h'.get? b = some o) → Q (items.toList.take i ++ [.ref h'.objs.size]) { s with heap := h'.push { cls := .type "list", data := .seq (items.toList.drop i).toArray }, toks := tk }) :
    wpAny (model prog w) A (unpackItems (.ref l) (i + 1) (some i)) Q E s := by
  rcases hl with hl | hl
  · have hlt : l ≠ s.heap.objs.size := by obtain ⟨o, ho, _⟩ := hl; exact Nat.ne_of_lt (Heap.lt_size ho)
    unfold unpackItems
    refine wpAny_bind ?_
    unfold notIterableAtAll
    refine wpAny_bind (wpAny_specialOf hl.typeIs slot_tuple_iter.lookup ?_)
    refine wpAny_pure ?_
    simp only [Bool.false_eq_true, if_false]
    refine wpAny_bind (wpAny_holding (iter_tuple hl ?_))
    refine wpAny_bind (wpAny_holding (draw_tuple hlt i 0 _ _ ⟨_, Heap.get?_push_size _ rfl, rfl, rfl⟩ (hl.push _) (by omega) fun h₁ hit₁ hs₁ => ?_))
    have hl₁ : IsTup h₁ l items := (hl.push _).extBut hs₁.extBut hlt
    rw [Nat.zero_add] at hit₁
    have hit₁' := hit₁
    obtain ⟨oi, hoi, _⟩ := hit₁'
    have hl₁' := hl₁
    obtain ⟨ol, hol, _⟩ := hl₁'
    rw [List.drop_zero]
    have hfl : (items.toList.take i).length = i := by rw [List.length_take, Array.length_toList]; omega
    rw [if_neg (show ¬ ((items.toList.take i).length < i) by rw [hfl]; omega)]
    refine wpAny_bind (wpAny_holding (PySem.W.kun_collect (s := { s with heap := h₁ }) (T := "tuple_iterator") (.inr (.inr (.inr rfl))) (Walks.tuple (A := A.in1) hh s.heap.objs.size l hlt items) (fun j u st => st.1.typeIs) (k := i) (by omega) ⟨hit₁, hl₁⟩ (Heap.lt_size hoi) (Heap.lt_size hol) (fun h₂ tk hk => ?_) hz))
    have hrl : (items.toList.drop i).length = items.size - i := by rw [List.length_drop, Array.length_toList]
    show wpAny _ _ (if (items.toList.drop i).length < i + 1 - 1 - i then _ else _) _ _ _
    rw [if_neg (by omega)]
    show wpAny _ _ (newList ((items.toList.drop i).take ((items.toList.drop i).length - (i + 1 - 1 - i))) >>= fun d => pure (items.toList.take i ++ [d] ++ (items.toList.drop i).drop ((items.toList.drop i).length - (i + 1 - 1 - i)))) _ _ _
    have e0 : (items.toList.drop i).length - (i + 1 - 1 - i) = (items.toList.drop i).length := by omega
    rw [e0, List.take_length, List.drop_length]
    refine wpAny_bind (wpAny_newList (wpAny_pure ?_) (by rw [hrl]; omega))
    rw [List.append_nil]
    exact h h₂ tk (fun b o e => hk b o (Nat.ne_of_lt (Heap.lt_size e)) (hs₁.extBut b o (Nat.ne_of_lt (Heap.lt_size e)) (Heap.get?_push_of_some _ e)))
  · have hlt : l ≠ s.heap.objs.size := by obtain ⟨o, ho, _⟩ := hl; exact Nat.ne_of_lt (Heap.lt_size ho)
    unfold unpackItems
    refine wpAny_bind ?_
    unfold notIterableAtAll
    refine wpAny_bind (wpAny_specialOf hl.typeIs slot_list_iter.lookup ?_)
    refine wpAny_pure ?_
    simp only [Bool.false_eq_true, if_false]
    refine wpAny_bind (wpAny_holding (wpAny_pyIter_list hl ?_))
    refine wpAny_bind (wpAny_holding (PySem.W.kun_draw hlt i 0 _ _ ⟨_, Heap.get?_push_size _ rfl, rfl, rfl⟩ (hl.push _) (by omega) fun h₁ hit₁ hs₁ => ?_))
    have hl₁ : h₁.IsList l items := (hl.push _).extBut hs₁.extBut hlt
    rw [Nat.zero_add] at hit₁
    have hit₁' := hit₁
    obtain ⟨oi, hoi, _⟩ := hit₁'
    have hl₁' := hl₁
    obtain ⟨ol, hol, _⟩ := hl₁'
    rw [List.drop_zero]
    have hfl : (items.toList.take i).length = i := by rw [List.length_take, Array.length_toList]; omega
    rw [if_neg (show ¬ ((items.toList.take i).length < i) by rw [hfl]; omega)]
    refine wpAny_bind (wpAny_holding (PySem.W.kun_collect (s := { s with heap := h₁ }) (T := "list_iterator") (.inr (.inr (.inl rfl))) (Walks.list (A := A.in1) hh s.heap.objs.size l hlt items) (fun j u st => st.1.typeIs) (k := i) (by omega) ⟨hit₁, hl₁⟩ (Heap.lt_size hoi) (Heap.lt_size hol) (fun h₂ tk hk => ?_) hz))
    have hrl : (items.toList.drop i).length = items.size - i := by rw [List.length_drop, Array.length_toList]
    show wpAny _ _ (if (items.toList.drop i).length < i + 1 - 1 - i then _ else _) _ _ _
    rw [if_neg (by omega)]
    show wpAny _ _ (newList ((items.toList.drop i).take ((items.toList.drop i).length - (i + 1 - 1 - i))) >>= fun d => pure (items.toList.take i ++ [d] ++ (items.toList.drop i).drop ((items.toList.drop i).length - (i + 1 - 1 - i)))) _ _ _
    have e0 : (items.toList.drop i).length - (i + 1 - 1 - i) = (items.toList.drop i).length := by omega
    rw [e0, List.take_length, List.drop_length]
    refine wpAny_bind (wpAny_newList (wpAny_pure ?_) (by rw [hrl]; omega))
    rw [List.append_nil]
    exact h h₂ tk (fun b o e => hk b o (Nat.ne_of_lt (Heap.lt_size e)) (hs₁.extBut b o (Nat.ne_of_lt (Heap.lt_size e)) (Heap.get?_push_of_some _ e)))
end
/-- a, b, *c = v: the names i.., the rest in a new list at the name r -/
def gStar (K : PySem.W.Frag) (n : Nat) (t : TGs) : TG := fun v σ H Q => ∃ a xs, v = .ref a ∧ (SqT K H a xs ∨ SqL K H a xs) ∧ n ≤ xs.length ∧ ∀ p, H p = none → t (xs.take n ++ [.ref p]) σ (upd H p (.lst (xs.drop n))) Q
theorem pg_star {X : Cx} {pos : Pos} {es : List Expr} {k : Nat} {t : TGs} {n : Nat} (hc : X.calm = true) (h : PGs X es t)
    (hn : (assignEach es X.env).length = n + 1) (hst : (assignEach es X.env).findIdx? (·.1) = some n) : PG X (.Tuple es k pos) (gStar X.K n t) := by
  refine ⟨fun pins s σ H v u Q I r hw => ?_⟩
  obtain ⟨a, xs, e1, hq, hl, hw⟩ := hw
  subst e1
  cases r
  have hq' : ∃ its : List Value, Vals xs its ∧ (IsTup s.heap a its.toArray ∨ s.heap.IsList a its.toArray) ∧ xs.length ≤ sizeLine := by
    rcases hq with hq | hq
    · obtain ⟨its, rv, pl, hz⟩ := I.tuple hq
      exact ⟨its, rv, .inl pl, hz⟩
    · obtain ⟨its, rv, pl, hz⟩ := I.list hq
      exact ⟨its, rv, .inr pl.isList, hz⟩
  obtain ⟨its, rv, pl, hz⟩ := hq'
  have hlen : its.toArray.size = xs.length := by rw [List.size_toArray, ← Paired.length rv]
  rw [PyProof.Rows.assign_Tuple]
  refine wpAny_bind (wpAny_standAt ?_)
  unfold unpack
  rw [hn, hst]
  refine wpAny_bind (wpAny_holding (star_tail pl (I.ok.hd hc) (by rw [hlen]; exact hl) (by rw [hlen]; exact hz) fun h' tk hk => ?_))
  have I1 : Inv X pins σ H { s with heap := h', toks := tk } := I.kept (t' := tk) hk
  have hf : H h'.objs.size = none := I1.hok.fresh (Nat.le_refl _)
  have I2 : Inv X pins σ (upd H h'.objs.size (.lst (xs.drop n))) { s with heap := h'.push { cls := .type "list", data := .seq (its.drop n).toArray }, toks := tk } :=
    I1.laid (t' := tk) (fun b o e => Heap.get?_push_of_some _ e) (Nat.le_refl _) (show ObjOk X.prog X.w _ _ _ (.lst (xs.drop n)) from ⟨by rw [List.length_drop]; omega, its.drop n, 0, rv.drop n, Heap.get?_push_size _ rfl⟩)
  exact h.run pins _ σ _ _ _ Q I2 (by simpa using (rv.take n).append (Paired.cons (show RelV (.ref h'.objs.size) (.ref h'.objs.size) from rfl) .nil)) (hw _ hf)

/-! ### len(set(t)) of a tuple of numbers -/
theorem mem_len {l r : List Int} (hl : l.Nodup) (hr : r.Nodup) (h : ∀ x, x ∈ l ↔ x ∈ r) : l.length = r.length :=
  List.Perm.length_eq ((List.perm_ext_iff_of_nodup hl hr).mpr h)
theorem nodup_dups : ∀ (n : Nat) (l : List Int), l.length ≤ n → l.eraseDups.Nodup
  | _, [], _ => by simp
  | n + 1, a :: l, h => by
    rw [List.eraseDups_cons, List.nodup_cons]
    refine ⟨fun hm => ?_, nodup_dups n _ (Nat.le_trans (List.length_filter_le _ _) (by simpa using h))⟩
    rw [List.mem_eraseDups, List.mem_filter] at hm
    simp at hm
def tLenSetT (K : PySem.W.Frag) (ta : TE) : TE := fun σ H Q => ta σ H fun x H1 => ∃ (l : Addr) (ns : List Int), x = .ref l ∧ SqT K H1 l (ns.map V.int) ∧ ns.length ≤ 4000 ∧ Q (.int (ns.eraseDups.length : Nat)) H1
theorem pe_lenSetT {X : Cx} {a : Expr} {ta : TE} {p p2 q pos : Pos} (hg : Gl X "len") (hm : X.mg "len" = none) (hg2 : Gl X "set") (hm2 : X.mg "set" = none) (ha : PE X a ta) (hc : X.calm = true)
    (na : starEach [a] X.env = (false, eval a X.env) :: starEach [] X.env) : PE X (.Call (.Name "len" p) [.Call (.Name "set" p2) [a] [] q] [] pos) (tLenSetT X.K ta) := by
  refine ⟨fun pins s σ H Q I h => ?_⟩
  refine Call_ (ld_blt I hg hm boot_len ?_)
  refine PyProof.Rows.callWith_builtin1 (PyProof.Rows.args_cons ?_ rfl) rfl rfl
  refine Call_ (ld_blt I hg2 hm2 boot_set ?_)
  refine PyProof.Rows.callWith_type1 (PyProof.Rows.args_cons (thn (ha.run pins s σ H _ I h) fun v s1 ⟨x, H1, I1, r1, q1⟩ => PyProof.Rows.args_nil ?_) na) na rfl
  obtain ⟨l, ns, rfl, hq, hl, q1⟩ := q1
  cases r1
  obtain ⟨its, r, pl, hz⟩ := I1.tuple hq
  refine call_set_tupI ns (I1.ok.hd hc) pl (by simpa using RZ.intsAre_vals r) (by unfold scanBound; omega) fun h' tk c hS hcl hk => ?_
  refine PyProof.Rows.args_nil ?_
  obtain ⟨o, es, ep, t, ho, hex, hd, hge, hnd, hmem, _, hf, hn, _⟩ := hS
  have I2 : Inv X pins σ H1 { s1 with heap := h', toks := tk } := I1.kept fun b o e => hk b o e
  have hlen : es.size = ns.eraseDups.length := by
    rw [← Array.length_toList, ← List.length_map (f := keyOf)]
    refine mem_len hnd (nodup_dups _ ns (Nat.le_refl _)) fun x => ?_
    rw [← hmem x, decide_eq_true_iff, List.mem_eraseDups]
  exact call_len_set ho hex hd hf (by rw [hn] <;> omega) ⟨.int ns.eraseDups.length, H1, I2.tok _, ⟨_, by rw [hlen]⟩, q1⟩

/-! ### t.count(n) of a tuple of numbers -/
def rCntT (K : PySem.W.Frag) : V → List V → Hp → VK → Prop := fun x xs H Q => ∃ (p : Addr) (ns : List Int) (k : Int), x = .ref p ∧ xs = [.int k] ∧ SqT K H p (ns.map V.int) ∧ Q (.int (ns.count k : Nat)) H
theorem mt_tcount {X : Cx} : MtR X "tuple.count" (rCntT X.K) := by
  intro pins s σ H x xs v us Q I rx rxs h
  obtain ⟨p, ns, k, rfl, rfl, hs, q⟩ := h
  cases rx
  obtain ⟨u, rfl, ru⟩ := rxs.one
  obtain ⟨t, rfl⟩ := ru
  obtain ⟨its, rv, ⟨⟨cls, dd, data, sl⟩, ho, hc, n, hd⟩, hlen⟩ := I.tuple hs
  simp only at hc hd
  subst hc hd
  have hi := ints_of_vals rv
  refine call_meets PySem.F.slot_tuple_count ⟨_, ho, rfl⟩ PySem.F.entry_tuple_count (PySem.F.args_tuple_count_2 _ _)
    (SeqAt.tuple_countAt p its.toArray n dd sl (.int k t) (eqk k)) ⟨ho, fun y hy => (eqk_gives hi y (by simpa using hy)).at _ _, ?_⟩
  have ec : its.toArray.toList.countP (eqk k) = ns.count k := eqk_count hi
  refine ⟨.int (ns.count k : Nat), H, I.tok _, ⟨s.toks, ?_⟩, q⟩
  show Value.int ((its.toArray.toList.countP (eqk k) : Nat) : Int) s.toks = Value.int ((ns.count k : Nat) : Int) s.toks
  rw [ec]
def tBMT (K : PySem.W.Frag) (r : V → List V → Hp → VK → Prop) (to : TE) (t : TA) : TE := fun σ H Q => to σ H fun x H1 => (∃ a xs, x = .ref a ∧ SqT K H1 a xs ∧ NoD K H1 a) ∧ t σ H1 fun xs H2 => r x xs H2 Q
/-- t.m(e, ..) of a tuple -/
theorem pe_bmT {X : Cx} {o e : Expr} {es : List Expr} {to : TE} {t : TA} {name : Str} {apos cpos : Pos} {id : String} {r : V → List V → Hp → VK → Prop} (pa : PlainAttrs "tuple") (slot : Slot "tuple" name id) (hty : typeOf (.builtin id) = pure (.type "method_descriptor")) (hm : MtR X id r) (ho : PE X o to) (ha : PA X (e :: es) t)
    (hbase : attributeBase o name X.env (eval o X.env) = eval o X.env)
    (hfew : ((backTo cpos (starEach (e :: es) X.env)).all (fun x => !x.1) && (backToKw cpos (keywordEach [] X.env)).all (fun x => x.1.isSome)
      && decide ((e :: es).length + ([] : List Keyword).length + (if ([] : List Keyword).isEmpty then 0 else 1) < 30)) = true)
    (hline : (apos.endLine == cpos.line) = true) (hs : starEach (e :: es) X.env = (false, eval e X.env) :: starEach es X.env) (hplain : (backTo cpos (starEach es X.env)).any (·.1) = false) :
    PE X (.Call (.Attribute o name apos) (e :: es) [] cpos) (tBMT X.K r to t) := by
  refine ⟨fun pins s σ H Q I h => ?_⟩
  refine wpAny_Call_method_late hbase hfew hline rfl (thn (ho.run pins s σ H _ I h) fun v s1 ⟨x, H1, I1, r1, ⟨a, xs, ex, hq, hd⟩, q1⟩ => ?_)
  subst ex
  cases r1
  obtain ⟨its, rv, pl, hz⟩ := I1.tuple hq
  have h2 : ∀ b, Value.ref a = .ref b → ∃ ob, s1.heap.get? b = some ob ∧ ob.dict = none := by
    intro b e
    cases e
    rcases hd with ⟨o, u, e1, e2⟩ | ⟨o, e1, e2⟩
    · exact ⟨o, (I1.hok _ _ e1).1, e2⟩
    · exact ⟨o, I1.kIn _ o e1, e2⟩
  refine ⟨"tuple", id, pa, slot, hty, pl.typeIs, h2, ?_⟩
  have hA := ha.run cpos pins s1 σ H1 _ I1 q1
  rw [hs] at hA ⊢
  refine Calls.callWith_builtin (by show (false || (backTo cpos (starEach es X.env)).any (·.1)) = false; rw [hplain] <;> rfl) (Calls.evalArgs_plain ?_)
  exact thn hA fun us s2 ⟨vs, H2, I2, r2, q2⟩ => hm pins s2 σ H2 (.ref a) vs (.ref a) us Q I2 rfl r2 q2
end MiR

/-! MiS: more rules over the hand layer: the call of a method of an own class, with keywords; dict.update; str.index. -/
namespace MiR
open PySem PySem.Spec PyProof.Rows L2
section
variable {prog : Program} {w : World} {A : Around} {E : Value → Shared → Prop} {s : Shared} {env : PySem.Env}
theorem call_meth_own {o : Expr} {name : Str} {apos pos : Pos} {args : List Expr} {kws : List Keyword} {Q : Value → Shared → Prop}
    (hbase : attributeBase o name env (eval o env) = eval o env)
    (hform : methodCallForm (args.length + kws.length) (backTo pos (starEach args env)) (backToKw pos (keywordEach kws env)) = true)
    (hline : (apos.endLine == pos.line) = true)
    (h : wpAny (model prog w) A (eval o env) (fun ov s₁ => wpAny (model prog w) A (getMethod ov name (do return (← importBound o env).getD true)) (fun fx s₂ => wpAny (model prog w) A (callWith pos fx.1 fx.2 (backTo pos (starEach args env)) (backToKw pos (keywordEach kws env))) Q E s₂) E s₁) E s) :
    wpAny (model prog w) A (eval (.Call (.Attribute o name apos) args kws pos) env) Q E s := by
  rw [arm_eval_Call, hbase]
  refine wpAny_bind (wpAny_mono h (fun ov s₁ h₁ => ?_) fun _ _ e => e)
  refine wpAny_bind (wpAny_standAt ?_)
  have hpos : methodCallPos true o env apos pos = pure pos := by unfold methodCallPos; simp [hline]
  unfold methodCall
  rw [hform]
  refine wpAny_bind (wpAny_holding ?_)
  show wpAny _ _ (getMethod ov name (do return (← importBound o env).getD true)) _ _ s₁
  exact wpAny_mono h₁ (fun fx s₂ h₂ => wpAny_bind (wpAny_of_eq hpos h₂)) fun _ _ e => e
end
section
variable {X : Cx}
def rDUpd : V → List V → Hp → VK → Prop := fun x xs H Q => ∃ (a b : Addr) (kv more : List (Key × V)), x = .ref a ∧ xs = [.ref b] ∧ a ≠ b ∧ H a = some (.dK kv) ∧ H b = some (.dK more) ∧ kv.length + more.length ≤ sizeLine ∧ Q .non (upd H a (.dK (mergeK kv more)))
theorem mt_dupd : MtR X "dict.update" rDUpd := by
  intro pins s σ H x xs v us Q I rx rxs h
  obtain ⟨a, b, kv, more, rfl, rfl, hab, ha, hb, hz, q⟩ := h
  cases rx
  obtain ⟨u, rfl, ru⟩ := rxs.one
  cases ru
  obtain ⟨z1, hd1, vs1, rel1, dd1⟩ := dk_of I.hok ha
  obtain ⟨z2, hd2, vs2, rel2, dd2⟩ := dk_of I.hok hb
  refine call_meetsIn PySem.F.slot_dict_update dd1.typeIs PySem.F.entry_dict_update (PySem.F.args_dict_update_2 _ _) (meets_dict_update _ a b hab hd2)
    ⟨vs1, vs2, dd1, dd2, by rw [← rel1.length, ← rel2.length]; exact hz, fun h' dd' _ hs => ?_⟩
  have he : ∃ q, h'.get? a = some q := let ⟨q, _, _, hq, _⟩ := dd'; ⟨q, hq⟩
  have hl : (mergeK kv more).length ≤ sizeLine := Nat.le_trans (length_mergeK more kv) hz
  exact ⟨.non, _, d_write (t' := s.toks) I (by rw [ha]; exact True.intro) hs he (dk_new hl hd1 (KV.merge rel2 rel1) dd'), rfl, q⟩
def rIndex0 : V → List V → Hp → VK → Prop := fun x xs H Q => ∃ (a b : Str) (k : Nat), x = .str a ∧ xs = [.str b] ∧ Txt.index0 a b = some k ∧ Q (.int (k : Nat)) H
theorem mt_index0 : MtR X "str.index" rIndex0 := by
  intro pins s σ H x xs v us Q I rx rs h
  obtain ⟨a, b, k, rfl, rfl, hk, w⟩ := h
  obtain ⟨t, rfl⟩ := rx
  obtain ⟨u, rfl, ru⟩ := rs.one
  obtain ⟨t2, rfl⟩ := ru
  cases q : Builtin.Str.occurrences a b 0 a.length 1 with
  | nil => unfold Txt.index0 at hk; rw [q] at hk; cases hk
  | cons k' rest =>
    unfold Txt.index0 at hk
    rw [q] at hk
    cases hk
    exact PySem.SC.index q ⟨.int (k : Nat), H, I.tok _, ⟨_, rfl⟩, w⟩
end
end MiR

/-! Mi3: how the small machine's values and store stand in the hand layer's heap. -/
namespace Mi
open PySem L2

/-- what stands for good: the written part, the module's values by number, the classes' addresses -/
structure Gs where
  K : PySem.W.Frag
  gl : Nat → Option V
  ca : Nat → Option Addr
  prm : Params
/-- a list of the written part -/
def KL (K : PySem.W.Frag) (a : Addr) (xs : List V) : Prop :=
  ∃ (o : Obj) (its : Array Value) (n : Nat), K.lookup a = some o ∧ o.cls = .type "list" ∧ o.dict = none ∧ o.data = .seq its n ∧ its.size ≤ sizeLine ∧ Vals xs its.toList

/-- a written dict of the module, its keys texts -/
def KFrd (K : PySem.W.Frag) (P : Params) (a : Addr) (ks : List Str) (us : List Value) : Prop :=
  ∃ es n, K.lookup a = some ⟨.type "dict", none, .dict es n, #[]⟩ ∧ PySem.W.KeysLit P es.toList ∧ (a == sysModules) = false ∧ ks.length = us.length ∧ ∀ x : Str, PySem.W.nsIn K a x = some ((ks.zip us).lookup x)

section
variable (G : Gs)
mutual
def Rep (H : Hp) (μ : List Addr) : W → V → Prop
  | .non, v => v = .non
  | .bl b, v => v = .bl b
  | .int i, v => v = .int i
  | .str x, v => v = .str x
  | .tup ws, v => ∃ a vs, v = .ref a ∧ (SqT G.K H a vs ∧ MiR.NoD G.K H a) ∧ Reps H μ ws vs
  | .frl ws, v => ∃ a vs, v = .ref a ∧ ((∃ o, H a = some (.frz o (.lst vs))) ∨ KL G.K a vs) ∧ Reps H μ ws vs
  | .loc n, v => ∃ a, v = .ref a ∧ μ[n]? = some a
  | .glb i, v => G.gl i = some v
  | .frd ks ws, v => ∃ a us vs, v = .ref a ∧ KFrd G.K G.prm a ks us ∧ Vals vs us ∧ Reps H μ ws vs
def Reps (H : Hp) (μ : List Addr) : List W → List V → Prop
  | [], vs => vs = []
  | w :: ws, vs => ∃ v r, vs = v :: r ∧ Rep H μ w v ∧ Reps H μ ws r
end
def kW : Key → W
  | .inl i => .int i
  | .inr x => .str x
def RepO (H : Hp) (μ : List Addr) (a : Addr) : SO → Prop
  | .lst ws => ∃ vs, H a = some (.lst vs) ∧ Reps G H μ ws vs
  | .dct kvs => ∃ kv : List (Key × V), H a = some (.dK kv) ∧ kvs.map (·.1) = kv.map (fun p => kW p.1) ∧ Reps G H μ (kvs.map (·.2)) (kv.map (·.2))
  | .ins c fs => ∃ C dx fv, G.ca c = some C ∧ H a = some (.ins C dx fv) ∧ fs.map (·.1) = fv.map (·.1) ∧ Reps G H μ (fs.map (·.2)) (fv.map (·.2))
structure SR (H : Hp) (μ : List Addr) (st : Sto) : Prop where
  len : μ.length = st.length
  nd : μ.Nodup
  ob : ∀ (n : Nat) (a : Addr) (o : SO), μ[n]? = some a → st[n]? = some o → RepO G H μ a o
end
/-- the heap grows: what isn't one of the store's stands -/
structure Grow (H H' : Hp) (μ μ' : List Addr) : Prop where
  mu : ∃ r, μ' = μ ++ r ∧ ∀ a ∈ r, H a = none
  keep : ∀ a o, H a = some o → a ∉ μ → H' a = some o
  stay : ∀ a, H' a = none → H a = none

theorem Grow.refl {H : Hp} {μ : List Addr} : Grow H H μ μ := ⟨⟨[], by simp, by simp⟩, fun _ _ h _ => h, fun _ h => h⟩
theorem Grow.trans {H H1 H2 : Hp} {μ μ1 μ2 : List Addr} (a : Grow H H1 μ μ1) (b : Grow H1 H2 μ1 μ2) : Grow H H2 μ μ2 := by
  obtain ⟨r, e, hr⟩ := a.mu
  obtain ⟨r', e', hr'⟩ := b.mu
  refine ⟨⟨r ++ r', by rw [e', e, List.append_assoc], fun p hp => ?_⟩, fun p o h hp => ?_, fun p h => a.stay p (b.stay p h)⟩
  · rcases List.mem_append.mp hp with h | h
    · exact hr p h
    · exact a.stay p (hr' p h)
  · refine b.keep p o (a.keep p o h hp) fun hm => ?_
    rw [e] at hm
    rcases List.mem_append.mp hm with h' | h'
    · exact hp h'
    · rw [hr p h'] at h; cases h

variable {G : Gs} {H H' : Hp} {μ μ' : List Addr} {st : Sto}

theorem Reps.length : ∀ {ws : List W} {vs : List V}, Reps G H μ ws vs → ws.length = vs.length
  | [], vs, h => by simp only [Reps] at h; rw [h]; rfl
  | w :: ws, vs, h => by
    simp only [Reps] at h
    obtain ⟨v, r, rfl, _, h2⟩ := h
    simp only [List.length_cons, Reps.length h2]
theorem Reps.nil_ : Reps G H μ [] [] := by simp only [Reps]
theorem Reps.cons_ {w : W} {ws : List W} {v : V} {vs : List V} (h : Rep G H μ w v) (r : Reps G H μ ws vs) : Reps G H μ (w :: ws) (v :: vs) := by
  simp only [Reps]; exact ⟨v, vs, rfl, h, r⟩
theorem Reps.cons_inv {w : W} {ws : List W} {v : V} {vs : List V} (h : Reps G H μ (w :: ws) (v :: vs)) : Rep G H μ w v ∧ Reps G H μ ws vs := by
  simp only [Reps] at h
  obtain ⟨v', r, e, h1, h2⟩ := h
  cases e
  exact ⟨h1, h2⟩
theorem Reps.nil_inv {vs : List V} (h : Reps G H μ [] vs) : vs = [] := by simpa only [Reps] using h
theorem Reps.get : ∀ {ws : List W} {vs : List V} (i : Nat) {w : W}, Reps G H μ ws vs → ws[i]? = some w → ∃ v, vs[i]? = some v ∧ Rep G H μ w v
  | [], _, _, _, _, e => by simp at e
  | x :: ws, vs, i, w, h, e => by
    simp only [Reps] at h
    obtain ⟨v, r, rfl, h1, h2⟩ := h
    cases i with
    | zero => simp at e; subst e; exact ⟨v, by simp, h1⟩
    | succ i =>
      obtain ⟨u, a, b⟩ := Reps.get i h2 (by simpa using e)
      exact ⟨u, by simpa using a, b⟩
theorem Reps.append_ : ∀ {ws us : List W} {vs xs : List V}, Reps G H μ ws vs → Reps G H μ us xs → Reps G H μ (ws ++ us) (vs ++ xs)
  | [], us, vs, xs, h, h' => by rw [h.nil_inv]; exact h'
  | w :: ws, us, vs, xs, h, h' => by
    simp only [Reps] at h
    obtain ⟨v, r, rfl, h1, h2⟩ := h
    exact (h2.append_ h').cons_ h1
theorem Reps.drop_ : ∀ {ws : List W} {vs : List V} (n : Nat), Reps G H μ ws vs → Reps G H μ (ws.drop n) (vs.drop n)
  | _, _, 0, h => by simpa using h
  | [], vs, n + 1, h => by rw [h.nil_inv]; exact Reps.nil_
  | w :: ws, vs, n + 1, h => by
    simp only [Reps] at h
    obtain ⟨v, r, rfl, h1, h2⟩ := h
    simpa using Reps.drop_ n h2
theorem Reps.take_ : ∀ {ws : List W} {vs : List V} (n : Nat), Reps G H μ ws vs → Reps G H μ (ws.take n) (vs.take n)
  | _, _, 0, h => by simpa using Reps.nil_
  | [], vs, n + 1, h => by rw [h.nil_inv]; exact Reps.nil_
  | w :: ws, vs, n + 1, h => by
    simp only [Reps] at h
    obtain ⟨v, r, rfl, h1, h2⟩ := h
    simpa using (Reps.take_ n h2).cons_ h1
theorem Reps.set_ : ∀ {ws : List W} {vs : List V} (n : Nat) {w : W} {v : V}, Reps G H μ ws vs → Rep G H μ w v → Reps G H μ (ws.set n w) (vs.set n v)
  | [], vs, n, w, v, h, _ => by rw [h.nil_inv]; exact Reps.nil_
  | x :: ws, vs, 0, w, v, h, h' => by
    simp only [Reps] at h
    obtain ⟨y, r, rfl, h1, h2⟩ := h
    exact h2.cons_ h'
  | x :: ws, vs, n + 1, w, v, h, h' => by
    simp only [Reps] at h
    obtain ⟨y, r, rfl, h1, h2⟩ := h
    exact (Reps.set_ n h2 h').cons_ h1
theorem Reps.rep_ {ws : List W} {vs : List V} (h : Reps G H μ ws vs) : ∀ n, Reps G H μ (List.replicate n ws).flatten (List.replicate n vs).flatten
  | 0 => by simpa using Reps.nil_
  | n + 1 => by
    simp only [List.replicate_succ, List.flatten_cons]
    exact h.append_ (h.rep_ n)

theorem RepO.some {a : Addr} {o : SO} (h : RepO G H μ a o) : ∃ u, H a = some u ∧ Mut (some u) := by
  cases o with
  | lst ws => obtain ⟨vs, e, _⟩ := h; exact ⟨_, e, trivial⟩
  | dct kvs => obtain ⟨kv, e, _⟩ := h; exact ⟨_, e, trivial⟩
  | ins c fs => obtain ⟨C, dx, fv, _, e, _⟩ := h; exact ⟨_, e, trivial⟩
/-- an address of the store -/
theorem SR.mut (s : SR G H μ st) {a : Addr} (h : a ∈ μ) : ∃ u, H a = some u ∧ Mut (some u) := by
  obtain ⟨n, hn, e⟩ := List.mem_iff_getElem.mp h
  have hl : n < st.length := by rw [← s.len]; exact hn
  exact (s.ob n a st[n] (by rw [List.getElem?_eq_getElem hn, e]) (List.getElem?_eq_getElem hl)).some
theorem SR.fresh (s : SR G H μ st) {p : Addr} (h : H p = none) : p ∉ μ := fun hm => by
  obtain ⟨u, e, _⟩ := s.mut hm
  rw [h] at e; cases e
theorem SR.notMut (s : SR G H μ st) {p : Addr} {o : HO} (h : H p = some o) (hm : ¬ Mut (some o)) : p ∉ μ := fun hp => by
  obtain ⟨u, e, m⟩ := s.mut hp
  rw [h] at e; cases e; exact hm m

/-! ### what stands goes on standing -/
theorem SqT.grow (s : SR G H μ st) (g : Grow H H' μ μ') {a : Addr} {xs : List V} (h : SqT G.K H a xs) : SqT G.K H' a xs := by
  rcases h with (h | ⟨o, h⟩) | h
  · exact .inl (.inl (g.keep _ _ h (s.notMut h fun z => z)))
  · exact .inl (.inr ⟨o, g.keep _ _ h (s.notMut h fun z => z)⟩)
  · exact .inr h
theorem NoD.grow (s : SR G H μ st) (g : Grow H H' μ μ') {a : Addr} (h : MiR.NoD G.K H a) : MiR.NoD G.K H' a := by
  rcases h with ⟨o, u, h, d⟩ | h
  · exact .inl ⟨o, u, g.keep _ _ h (s.notMut h fun z => z), d⟩
  · exact .inr h
theorem Grow.loc (g : Grow H H' μ μ') {n : Nat} {a : Addr} (h : μ[n]? = some a) : μ'[n]? = some a := by
  obtain ⟨r, e, _⟩ := g.mu
  rw [e, List.getElem?_append_left (List.getElem?_eq_some_iff.mp h).1]; exact h
mutual
theorem Rep.grow (s : SR G H μ st) (g : Grow H H' μ μ') : ∀ {w : W} {v : V}, Rep G H μ w v → Rep G H' μ' w v
  | .non, _, h => by simpa only [Rep] using h
  | .bl _, _, h => by simpa only [Rep] using h
  | .int _, _, h => by simpa only [Rep] using h
  | .str _, _, h => by simpa only [Rep] using h
  | .tup ws, _, h => by
    simp only [Rep] at h ⊢
    obtain ⟨a, vs, e, hs, hr⟩ := h
    exact ⟨a, vs, e, ⟨SqT.grow s g hs.1, NoD.grow s g hs.2⟩, Reps.grow s g hr⟩
  | .frl ws, _, h => by
    simp only [Rep] at h ⊢
    obtain ⟨a, vs, e, hs, hr⟩ := h
    refine ⟨a, vs, e, ?_, Reps.grow s g hr⟩
    rcases hs with ⟨o, q⟩ | q
    · exact .inl ⟨o, g.keep _ _ q (s.notMut q fun z => z)⟩
    · exact .inr q
  | .loc n, _, h => by
    simp only [Rep] at h ⊢
    obtain ⟨a, e, hm⟩ := h
    exact ⟨a, e, g.loc hm⟩
  | .glb _, _, h => by simpa only [Rep] using h
  | .frd _ _, _, h => by
    simp only [Rep] at h ⊢
    obtain ⟨a, us, vs, e, k, q, hr⟩ := h
    exact ⟨a, us, vs, e, k, q, Reps.grow s g hr⟩
theorem Reps.grow (s : SR G H μ st) (g : Grow H H' μ μ') : ∀ {ws : List W} {vs : List V}, Reps G H μ ws vs → Reps G H' μ' ws vs
  | [], _, h => by simpa only [Reps] using h
  | w :: ws, _, h => by
    simp only [Reps] at h ⊢
    obtain ⟨v, r, e, h1, h2⟩ := h
    exact ⟨v, r, e, Rep.grow s g h1, Reps.grow s g h2⟩
end

/-- a new object that the store doesn't tell of -/
theorem SR.temp (s : SR G H μ st) {p : Addr} {o : HO} (h : H p = none) : Grow H (upd H p o) μ μ ∧ SR G (upd H p o) μ st := by
  have g : Grow H (upd H p o) μ μ := ⟨⟨[], by simp, by simp⟩, fun a u e _ => by rw [upd_ne (ne_of_none e h)]; exact e, fun a e => by
    by_cases q : a = p
    · subst q; exact h
    · rw [upd_ne q] at e; exact e⟩
  refine ⟨g, s.len, s.nd, fun n a u hm ho => ?_⟩
  have q := s.ob n a u hm ho
  have ne : a ≠ p := fun z => s.fresh h (z ▸ List.mem_of_getElem? hm)
  cases u with
  | lst ws => obtain ⟨vs, e, r⟩ := q; exact ⟨vs, by rw [upd_ne ne]; exact e, r.grow s g⟩
  | dct kvs => obtain ⟨kv, e, e2, r⟩ := q; exact ⟨kv, by rw [upd_ne ne]; exact e, e2, r.grow s g⟩
  | ins c fs => obtain ⟨C, dx, fv, e0, e, e2, r⟩ := q; exact ⟨C, dx, fv, e0, by rw [upd_ne ne]; exact e, e2, r.grow s g⟩
mutual
theorem Rep.more (r : List Addr) : ∀ {w : W} {v : V}, Rep G H μ w v → Rep G H (μ ++ r) w v
  | .non, _, h => by simpa only [Rep] using h
  | .bl _, _, h => by simpa only [Rep] using h
  | .int _, _, h => by simpa only [Rep] using h
  | .str _, _, h => by simpa only [Rep] using h
  | .tup ws, _, h => by
    simp only [Rep] at h ⊢
    obtain ⟨a, vs, e, hs, hr⟩ := h
    exact ⟨a, vs, e, hs, Reps.more r hr⟩
  | .frl ws, _, h => by
    simp only [Rep] at h ⊢
    obtain ⟨a, vs, e, hs, hr⟩ := h
    exact ⟨a, vs, e, hs, Reps.more r hr⟩
  | .loc n, _, h => by
    simp only [Rep] at h ⊢
    obtain ⟨a, e, hm⟩ := h
    exact ⟨a, e, by rw [List.getElem?_append_left (List.getElem?_eq_some_iff.mp hm).1]; exact hm⟩
  | .glb _, _, h => by simpa only [Rep] using h
  | .frd _ _, _, h => by
    simp only [Rep] at h ⊢
    obtain ⟨a, us, vs, e, k, q, hr⟩ := h
    exact ⟨a, us, vs, e, k, q, Reps.more r hr⟩
theorem Reps.more (r : List Addr) : ∀ {ws : List W} {vs : List V}, Reps G H μ ws vs → Reps G H (μ ++ r) ws vs
  | [], _, h => by simpa only [Reps] using h
  | w :: ws, _, h => by
    simp only [Reps] at h ⊢
    obtain ⟨v, q, e, h1, h2⟩ := h
    exact ⟨v, q, e, Rep.more r h1, Reps.more r h2⟩
end
theorem RepO.more (r : List Addr) {a : Addr} {o : SO} (h : RepO G H μ a o) : RepO G H (μ ++ r) a o := by
  cases o with
  | lst ws => obtain ⟨vs, e, q⟩ := h; exact ⟨vs, e, q.more r⟩
  | dct kvs => obtain ⟨kv, e, e2, q⟩ := h; exact ⟨kv, e, e2, q.more r⟩
  | ins c fs => obtain ⟨C, dx, fv, e0, e, e2, q⟩ := h; exact ⟨C, dx, fv, e0, e, e2, q.more r⟩
/-- a thing that stands, untold till now, becomes one of the store's -/
theorem SR.adopt (s : SR G H μ st) {p : Addr} {o : SO} (hp : p ∉ μ) (r : RepO G H (μ ++ [p]) p o) : SR G H (μ ++ [p]) (st ++ [o]) := by
  refine ⟨by simp [s.len], List.nodup_append.mpr ⟨s.nd, by simp, fun a ha b hb => ?_⟩, fun n a u hm ho => ?_⟩
  · simp at hb; subst hb; exact fun z => hp (z ▸ ha)
  · by_cases hn : n < μ.length
    · rw [List.getElem?_append_left hn] at hm
      rw [List.getElem?_append_left (by rw [← s.len]; exact hn)] at ho
      exact (s.ob n a u hm ho).more [p]
    · rw [List.getElem?_append_right (by omega)] at hm
      rw [List.getElem?_append_right (by rw [← s.len]; omega)] at ho
      have e : n - μ.length = 0 := by
        have := (List.getElem?_eq_some_iff.mp hm).1
        simp at this; omega
      have e' : n - st.length = 0 := by rw [← s.len]; exact e
      rw [e] at hm; rw [e'] at ho
      simp at hm ho
      subst hm; subst ho; exact r
theorem RepO.lift {a : Addr} {o : SO} (h : RepO G H μ a o) (e : H' a = H a) (f : ∀ {ws : List W} {vs : List V}, Reps G H μ ws vs → Reps G H' μ' ws vs) : RepO G H' μ' a o := by
  cases o with
  | lst ws => obtain ⟨vs, e1, q⟩ := h; exact ⟨vs, e.trans e1, f q⟩
  | dct kvs => obtain ⟨kv, e1, e2, q⟩ := h; exact ⟨kv, e.trans e1, e2, f q⟩
  | ins c fs => obtain ⟨C, dx, fv, e0, e1, e2, q⟩ := h; exact ⟨C, dx, fv, e0, e.trans e1, e2, f q⟩
/-- a new list -/
theorem SR.lay (s : SR G H μ st) {p : Addr} {vs : List V} {ws : List W} (h : H p = none) (r : Reps G H μ ws vs) :
    Grow H (upd H p (.lst vs)) μ (μ ++ [p]) ∧ SR G (upd H p (.lst vs)) (μ ++ [p]) (st ++ [.lst ws]) ∧ Rep G (upd H p (.lst vs)) (μ ++ [p]) (.loc st.length) (.ref p) := by
  obtain ⟨g, s1⟩ := s.temp (o := .lst vs) h
  refine ⟨⟨⟨[p], rfl, by simpa using h⟩, g.keep, g.stay⟩, s1.adopt (s.fresh h) ⟨vs, upd_same, (r.grow s g).more [p]⟩, ?_⟩
  simp only [Rep]
  exact ⟨p, rfl, by rw [← s.len]; simp⟩
/-- one of the store's objects is changed -/
theorem SR.put (s : SR G H μ st) {n : Nat} {a : Addr} {o' : HO} {u : SO} (hm : μ[n]? = some a) (mo : Mut (some o')) (r : ∀ {H' : Hp}, Grow H H' μ μ → H' a = some o' → RepO G H' μ a u) :
    Grow H (upd H a o') μ μ ∧ SR G (upd H a o') μ (st.set n u) := by
  have ha : a ∈ μ := List.mem_of_getElem? hm
  obtain ⟨u0, e0, _⟩ := s.mut ha
  have g : Grow H (upd H a o') μ μ := ⟨⟨[], by simp, by simp⟩, fun b o e hb => by rw [upd_ne (fun z : b = a => hb (by rw [z]; exact ha))]; exact e, fun b e => by
    by_cases q : b = a
    · subst q; rw [upd_same] at e; cases e
    · rw [upd_ne q] at e; exact e⟩
  refine ⟨g, by simp [s.len], s.nd, fun k b v hk hv => ?_⟩
  by_cases e : k = n
  · subst e
    rw [hm] at hk; cases hk
    have hl : k < st.length := by rw [← s.len]; exact (List.getElem?_eq_some_iff.mp hm).1
    rw [List.getElem?_set_self hl] at hv; cases hv
    exact r g upd_same
  · rw [List.getElem?_set_ne (fun z => e z.symm)] at hv
    have nb : b ≠ a := fun z => by
      subst z
      exact e ((List.getElem?_inj (List.getElem?_eq_some_iff.mp hk).1 s.nd).mp (hk.trans hm.symm))
    exact (s.ob k b v hk hv).lift (upd_ne nb) fun q => q.grow s g

/-! ### what an answer asks of the hand layer -/
/-- an exception as the hand layer has it -/
def ExcR (G : Gs) (H : Hp) (μ : List Addr) (x : Exc) (cls : Value) (d : Option Addr) : Prop :=
  ∃ C, G.ca x.cls = some C ∧ cls = .ref C ∧ match x.fs, d with
    | [], none => True
    | f :: fs, some dx => ∃ fv : List (Str × V), H dx = some (.xd fv) ∧ (∀ n, ((f :: fs).lookup n).isSome = (fv.lookup n).isSome) ∧ ∀ n w v, (f :: fs).lookup n = some w → fv.lookup n = some v → Rep G H μ w v
    | _, _ => False

def PostR {α β : Type} (G : Gs) (R : Hp → List Addr → α → β → Prop) (X : Value → Option Addr → Hp → Prop) (H : Hp) (μ : List Addr) (r : Res α) (Q : β → Hp → Prop) : Prop := match r with
  | .ok a st => ∀ b H' μ', Grow H H' μ μ' → SR G H' μ' st → R H' μ' a b → Q b H'
  | .exc x st => ∀ cls d H' μ', Grow H H' μ μ' → SR G H' μ' st → ExcR G H' μ' x cls d → X cls d H'
  | .stuck => False
theorem PostR.shift {α β : Type} {R : Hp → List Addr → α → β → Prop} {X : Value → Option Addr → Hp → Prop} {H1 : Hp} {μ1 : List Addr} {r : Res α} {Q : β → Hp → Prop} (g : Grow H H1 μ μ1) (h : PostR G R X H μ r Q) : PostR G R X H1 μ1 r Q := by
  cases r with
  | ok a s => exact fun b H' μ' g' sr ra => h b H' μ' (g.trans g') sr ra
  | exc x s => exact fun c d H' μ' g' sr e => h c d H' μ' (g.trans g') sr e
  | stuck => exact h
theorem PostR.mono {α β : Type} {R : Hp → List Addr → α → β → Prop} {X X' : Value → Option Addr → Hp → Prop} {r : Res α} {Q Q' : β → Hp → Prop} (h : PostR G R X H μ r Q) (hq : ∀ b H', Q b H' → Q' b H') (hx : ∀ c d H', X c d H' → X' c d H') : PostR G R X' H μ r Q' := by
  cases r with
  | ok a s => exact fun b H' μ' g' sr ra => hq _ _ (h b H' μ' g' sr ra)
  | exc x s => exact fun c d H' μ' g' sr e => hx _ _ _ (h c d H' μ' g' sr e)
  | stuck => exact h
/-- one, then another -/
theorem PostR.bind {α β γ δ : Type} {R : Hp → List Addr → γ → δ → Prop} {R1 : Hp → List Addr → α → β → Prop} {X : Value → Option Addr → Hp → Prop} {r : Res α} {f : α → M γ} {Q : δ → Hp → Prop} (h : PostR G R X H μ (r.bind f) Q) :
    PostR G R1 X H μ r fun b H1 => ∃ μ1 st1 a, Grow H H1 μ μ1 ∧ SR G H1 μ1 st1 ∧ R1 H1 μ1 a b ∧ PostR G R X H1 μ1 (f a st1) Q := by
  cases r with
  | ok a s => exact fun b H' μ' g sr ra => ⟨μ', s, a, g, sr, ra, PostR.shift g h⟩
  | exc x s => exact h
  | stuck => exact h
abbrev RB : Hp → List Addr → Bool → Bool → Prop := fun _ _ a b => a = b
abbrev Post (G : Gs) := PostR G (Rep G)
abbrev PostL (G : Gs) := PostR G (Reps G)
abbrev PostB (G : Gs) := PostR G RB
/-- the slots hold what the small machine's names hold -/
structure EnvR (G : Gs) (H : Hp) (μ : List Addr) (ρ : Env) (σ : St) : Prop where
  len : ρ.length = σ.length
  at_ : ∀ (i : Nat) (w : W), ρ[i]? = some (some w) → ∃ v, σ[i]? = some (some v) ∧ Rep G H μ w v
theorem EnvR.grow {ρ : Env} {σ : St} (s : SR G H μ st) (g : Grow H H' μ μ') (e : EnvR G H μ ρ σ) : EnvR G H' μ' ρ σ :=
  ⟨e.len, fun i w h => let ⟨v, a, b⟩ := e.at_ i w h; ⟨v, a, b.grow s g⟩⟩
theorem EnvR.set {ρ : Env} {σ : St} (e : EnvR G H μ ρ σ) (i : Nat) {w : W} {v : V} (h : Rep G H μ w v) : EnvR G H μ (ρ.set i (some w)) (σ.set i (some v)) := by
  refine ⟨by simp [e.len], fun j u hj => ?_⟩
  by_cases q : i = j
  · subst q
    by_cases hl : i < ρ.length
    · rw [List.getElem?_set_self hl] at hj; cases hj
      exact ⟨v, by rw [List.getElem?_set_self (by rw [← e.len]; exact hl)], h⟩
    · rw [List.getElem?_eq_none (by simpa using hl)] at hj; cases hj
  · rw [List.getElem?_set_ne q] at hj
    obtain ⟨x, a, b⟩ := e.at_ j u hj
    exact ⟨x, by rw [List.getElem?_set_ne q]; exact a, b⟩

/-- a wish about exceptions that hangs on the slots -/
def tM (G : Gs) (Wh : WX) (m : Env → M W) : TE := fun σ H Q => ∃ ρ μ st, EnvR G H μ ρ σ ∧ SR G H μ st ∧ Post G (fun c d => Wh c d σ) H μ (m ρ st) Q
def tML (G : Gs) (Wh : WX) (m : Env → M (List W)) : TA := fun σ H Q => ∃ ρ μ st, EnvR G H μ ρ σ ∧ SR G H μ st ∧ PostL G (fun c d => Wh c d σ) H μ (m ρ st) Q
def tMB (G : Gs) (Wh : WX) (m : Env → M Bool) : TT := fun σ H Q => ∃ ρ μ st, EnvR G H μ ρ σ ∧ SR G H μ st ∧ PostB G (fun c d => Wh c d σ) H μ (m ρ st) Q

theorem peImp {X : Cx} {e : Expr} {t t' : TE} (h : PE X e t) (i : ∀ σ H Q, t' σ H Q → t σ H Q) : PE X e t' := ⟨fun p s σ H Q I q => h.run p s σ H Q I (i σ H Q q)⟩
theorem ptImp {X : Cx} {e : Expr} {t t' : TT} (h : PT X e t) (i : ∀ σ H Q, t' σ H Q → t σ H Q) : PT X e t' := ⟨fun p s σ H Q I q => h.run p s σ H Q I (i σ H Q q)⟩
theorem pwImp {X : Cx} {e : Expr} {t t' : TT} (h : PW X e t) (i : ∀ σ H Q, t' σ H Q → t σ H Q) : PW X e t' := ⟨fun wh p s σ H Q I q => h.run wh p s σ H Q I (i σ H Q q)⟩
theorem paImp {X : Cx} {e : List Expr} {t t' : TA} (h : PA X e t) (i : ∀ σ H Q, t' σ H Q → t σ H Q) : PA X e t' := ⟨fun p pins s σ H Q I q => h.run p pins s σ H Q I (i σ H Q q)⟩
theorem psImp {X : Cx} {e : Stmt} {t t' : TS} (h : PS X e t) (i : ∀ D σ H, t' D σ H → t D σ H) : PS X e t' := ⟨fun p s σ H D I q => h.run p s σ H D I (i D σ H q)⟩
theorem pssImp {X : Cx} {e : List Stmt} {t t' : TS} (h : PSs X e t) (i : ∀ D σ H, t' D σ H → t D σ H) : PSs X e t' := ⟨fun p s σ H D I q => h.run p s σ H D I (i D σ H q)⟩

/-- an expression ahead, the rest behind: what is left is told at the new heap -/
theorem tM_bind {Wh : WX} {m : Env → M W} {ρ : Env} {f : W → M W} {σ : St} {Q : VK} (er : EnvR G H μ ρ σ) (sr : SR G H μ st) (h : Post G (fun c d => Wh c d σ) H μ ((m ρ st).bind f) Q) :
    tM G Wh m σ H fun x H1 => ∃ μ1 st1 w, EnvR G H1 μ1 ρ σ ∧ SR G H1 μ1 st1 ∧ Grow H H1 μ μ1 ∧ Rep G H1 μ1 w x ∧ Post G (fun c d => Wh c d σ) H1 μ1 (f w st1) Q :=
  ⟨ρ, μ, st, er, sr, (PostR.bind (R1 := Rep G) h).mono (fun _ _ ⟨μ1, st1, a, g, s1, r1, p⟩ => ⟨μ1, st1, a, er.grow sr g, s1, g, r1, p⟩) fun _ _ _ z => z⟩
theorem TE.mono_of {X : Cx} {e : Expr} {t : TE} (h : PE X e t) : True := trivial
end Mi

/-! Mi4: each operation of the small machine is what the hand layer's rule asks. -/
namespace Mi
open PySem L2
variable {G : Gs} {H H' : Hp} {μ μ' : List Addr} {st : Sto}

theorem SZ_le {n : Nat} (h : n ≤ SZ) : n ≤ sizeLine := by rw [sizeLine_eq]; exact h
theorem SZ_lt {n : Nat} (h : n < SZ) : n < sizeLine := by rw [sizeLine_eq]; exact h
/-- the operation does what r asks -/
def OpIs (G : Gs) (r : R2) (op : W → W → M W) : Prop := ∀ (H : Hp) (μ : List Addr) (st : Sto) (x y : V) (wx wy : W) (X : Value → Option Addr → Hp → Prop) (Q : VK), SR G H μ st → Rep G H μ wx x → Rep G H μ wy y →
  Post G X H μ (op wx wy st) Q → r x y H Q
abbrev rOr (r r' : R2) : R2 := fun x y H Q => r x y H Q ∨ r' x y H Q

theorem Rep.tup_new (sr : SR G H μ st) {p : Addr} {o : Obj} {ws : List W} {vs : List V} (h : H p = none) (ho : o.dict = none) (r : Reps G H μ ws vs) :
    Grow H (upd H p (.frz o (.tup vs))) μ μ ∧ SR G (upd H p (.frz o (.tup vs))) μ st ∧ Rep G (upd H p (.frz o (.tup vs))) μ (.tup ws) (.ref p) := by
  obtain ⟨g, s1⟩ := sr.temp (o := .frz o (.tup vs)) h
  refine ⟨g, s1, ?_⟩
  simp only [Rep]
  exact ⟨p, vs, rfl, ⟨.inl (.inr ⟨o, upd_same⟩), .inl ⟨o, _, upd_same, ho⟩⟩, r.grow sr g⟩
theorem Rep.int_inv {i : Int} {v : V} (h : Rep G H μ (.int i) v) : v = .int i := by simpa only [Rep] using h
theorem Rep.str_inv {x : Str} {v : V} (h : Rep G H μ (.str x) v) : v = .str x := by simpa only [Rep] using h
theorem Rep.bl_inv {x : Bool} {v : V} (h : Rep G H μ (.bl x) v) : v = .bl x := by simpa only [Rep] using h
theorem Rep.non_inv {v : V} (h : Rep G H μ .non v) : v = .non := by simpa only [Rep] using h
theorem Rep.tup_inv' {ws : List W} {v : V} (h : Rep G H μ (.tup ws) v) : ∃ a vs, v = .ref a ∧ (SqT G.K H a vs ∧ MiR.NoD G.K H a) ∧ Reps G H μ ws vs := by simpa only [Rep] using h
theorem Rep.tup_inv {ws : List W} {v : V} (h : Rep G H μ (.tup ws) v) : ∃ a vs, v = .ref a ∧ SqT G.K H a vs ∧ Reps G H μ ws vs := by
  obtain ⟨a, vs, e, q, r⟩ := h.tup_inv'
  exact ⟨a, vs, e, q.1, r⟩
theorem Rep.frl_inv {ws : List W} {v : V} (h : Rep G H μ (.frl ws) v) : ∃ a vs, v = .ref a ∧ SqL G.K H a vs ∧ Reps G H μ ws vs := by
  simp only [Rep] at h
  obtain ⟨a, vs, e, q, r⟩ := h
  refine ⟨a, vs, e, ?_, r⟩
  rcases q with ⟨o, q⟩ | q
  · exact .inl (.inr ⟨o, q⟩)
  · exact .inr q
theorem Rep.loc_inv {n : Nat} {v : V} (h : Rep G H μ (.loc n) v) : ∃ a, v = .ref a ∧ μ[n]? = some a := by simpa only [Rep] using h
theorem Rep.int_ {i : Int} : Rep G H μ (.int i) (.int i) := by simp only [Rep]
theorem Rep.str_ {i : Str} : Rep G H μ (.str i) (.str i) := by simp only [Rep]
theorem Rep.bl_ {i : Bool} : Rep G H μ (.bl i) (.bl i) := by simp only [Rep]
theorem Rep.non_ : Rep G H μ .non .non := by simp only [Rep]
/-- a list of the store -/
theorem Rep.lst (sr : SR G H μ st) {n : Nat} {v : V} {ws : List W} (h : Rep G H μ (.loc n) v) (e : st[n]? = some (.lst ws)) : ∃ a vs, v = .ref a ∧ μ[n]? = some a ∧ H a = some (.lst vs) ∧ Reps G H μ ws vs := by
  obtain ⟨a, rfl, hm⟩ := h.loc_inv
  obtain ⟨vs, e1, r⟩ := sr.ob n a _ hm e
  exact ⟨a, vs, rfl, hm, e1, r⟩

theorem is_int2 {op : W → W → M W} {C : Int → Int → Prop} {g : Int → Int → W} {g' : Int → Int → V} (hg : ∀ (i j : Int) (H : Hp) (μ : List Addr), Rep G H μ (g i j) (g' i j))
    (h : ∀ wx wy st, (∃ i j, wx = .int i ∧ wy = .int j ∧ C i j ∧ op wx wy st = .ok (g i j) st) ∨ op wx wy st = .stuck) : OpIs G (rI C g') op := by
  intro H μ st x y wx wy X Q sr hx hy q
  rcases h wx wy st with ⟨i, j, rfl, rfl, c, e⟩ | e
  · rw [e] at q
    exact ⟨i, j, hx.int_inv, hy.int_inv, c, q _ H μ .refl sr (hg i j H μ)⟩
  · rw [e] at q; exact q.elim
/-- what the sum asks -/
abbrev rAddAll (K : PySem.W.Frag) : R2 := rOr (rI0 fun i j => .int (i + j)) (rOr (fun x y H Q => ∃ i j, x = .str i ∧ y = .str j ∧ i.length + j.length ≤ sizeLine ∧ Q (.str (i ++ j)) H) (rOr (MiR.rCatF K) rCat))
theorem is_add : OpIs G (rAddAll G.K) (binop .add) := by
  intro H μ st x y wx wy X Q sr hx hy q
  cases wx <;> cases wy <;> first | exact False.elim q | skip
  case int.int => exact .inl ⟨_, _, hx.int_inv, hy.int_inv, q _ H μ .refl sr Rep.int_⟩
  case str.str i j =>
    by_cases hl : i.length + j.length ≤ SZ
    · simp only [binop, if_pos hl] at q
      exact .inr (.inl ⟨_, _, hx.str_inv, hy.str_inv, SZ_le hl, q _ H μ .refl sr Rep.str_⟩)
    · simp only [binop, if_neg hl] at q
      exact q.elim
  case tup.tup xs ys =>
    by_cases hl : xs.length + ys.length ≤ SZ
    · simp only [binop, if_pos hl] at q
      obtain ⟨a, vs, rfl, sa, ra⟩ := hx.tup_inv
      obtain ⟨b, us, rfl, sb, rb⟩ := hy.tup_inv
      refine .inr (.inr (.inl ⟨a, b, vs, us, rfl, rfl, sa, sb, ?_, fun e => ?_, fun _ e => ?_, fun _ _ p o hp ho => ?_⟩))
      · rw [← ra.length, ← rb.length]; exact SZ_le hl
      · subst e
        have := ra.length
        have ex : xs = [] := List.eq_nil_of_length_eq_zero (by simpa using this)
        subst ex
        exact q _ H μ .refl sr (by simpa using hy)
      · subst e
        have := rb.length
        have ey : ys = [] := List.eq_nil_of_length_eq_zero (by simpa using this)
        subst ey
        exact q _ H μ .refl sr (by simpa using hx)
      · obtain ⟨g, s1, r1⟩ := Rep.tup_new sr hp ho (ra.append_ rb)
        exact q _ _ μ g s1 r1
    · simp only [binop, if_neg hl] at q
      exact q.elim
  case loc.loc m n =>
    simp only [binop] at q
    split at q
    · rename_i e1 e2
      split at q
      · rename_i hl
        obtain ⟨a, vs, rfl, _, ha, ra⟩ := Rep.lst sr hx e1
        obtain ⟨b, us, rfl, _, hb, rb⟩ := Rep.lst sr hy e2
        refine .inr (.inr (.inr ⟨a, b, vs, us, rfl, rfl, ha, hb, ?_, fun p hp => ?_⟩))
        · rw [← ra.length, ← rb.length]; exact SZ_le hl
        · obtain ⟨g, s1, r1⟩ := sr.lay hp (ra.append_ rb)
          exact q _ _ _ g s1 r1
      · exact q.elim
    · exact q.elim
theorem is_sub : OpIs G (rI0 fun i j => .int (i - j)) (binop .sub) := by
  intro H μ st x y wx wy X Q sr hx hy q
  cases wx <;> cases wy <;> first | exact False.elim q | skip
  exact ⟨_, _, hx.int_inv, hy.int_inv, q _ H μ .refl sr Rep.int_⟩
theorem is_mul : OpIs G (rOr (rI CMulW fun i j => .int (i * j)) rRep) (binop .mul) := by
  intro H μ st x y wx wy X Q sr hx hy q
  cases wx <;> cases wy <;> first | exact False.elim q | skip
  case int.int i j =>
    by_cases hl : i.natAbs.log2 + j.natAbs.log2 < 1000000
    · simp only [binop, if_pos hl] at q
      exact .inl ⟨_, _, hx.int_inv, hy.int_inv, hl, q _ H μ .refl sr Rep.int_⟩
    · simp only [binop, if_neg hl] at q
      exact q.elim
  case loc.int n k =>
    simp only [binop] at q
    split at q
    · rename_i e1
      split at q
      · rename_i hl
        obtain ⟨a, vs, rfl, _, ha, ra⟩ := Rep.lst sr hx e1
        refine .inr ⟨a, k, vs, rfl, hy.int_inv, ha, hl.1, hl.2.1, ?_, fun p hp => ?_⟩
        · rw [← ra.length]; exact SZ_le hl.2.2
        · obtain ⟨g, s1, r1⟩ := sr.lay hp (ra.rep_ k.toNat)
          exact q _ _ _ g s1 r1
      · exact q.elim
    · exact q.elim
theorem is_mod : OpIs G (rI (fun _ j => 0 < j) fun i j => .int (i % j)) (binop .mod) := by
  intro H μ st x y wx wy X Q sr hx hy q
  cases wx <;> cases wy <;> first | exact False.elim q | skip
  case int.int i j =>
    by_cases hl : 0 < j
    · simp only [binop, if_pos hl] at q
      exact ⟨_, _, hx.int_inv, hy.int_inv, hl, q _ H μ .refl sr Rep.int_⟩
    · simp only [binop, if_neg hl] at q
      exact q.elim
theorem is_fdiv : OpIs G (rI CDivW fun i j => .int (i / j)) (binop .fdiv) := by
  intro H μ st x y wx wy X Q sr hx hy q
  cases wx <;> cases wy <;> first | exact False.elim q | skip
  case int.int i j =>
    by_cases hl : 0 < j ∧ j.natAbs.log2 < 9000
    · simp only [binop, if_pos hl] at q
      exact ⟨_, _, hx.int_inv, hy.int_inv, hl, q _ H μ .refl sr Rep.int_⟩
    · simp only [binop, if_neg hl] at q
      exact q.elim
theorem is_pow : OpIs G (rI CPow fun i j => .int (i ^ j.toNat)) (binop .pow) := by
  intro H μ st x y wx wy X Q sr hx hy q
  cases wx <;> cases wy <;> first | exact False.elim q | skip
  case int.int i j =>
    by_cases hl : 0 ≤ j ∧ j ≤ 1000000 ∧ i.natAbs < 2 ^ 64
    · simp only [binop, if_pos hl] at q
      exact ⟨_, _, hx.int_inv, hy.int_inv, hl, q _ H μ .refl sr Rep.int_⟩
    · simp only [binop, if_neg hl] at q
      exact q.elim

/-! ### data -/
mutual
theorem toD_dp (sr : SR G H μ st) : ∀ (n : Nat) {w : W} {d : PyData} {v : V}, toD n st w = some d → d.canLay0 = true → Rep G H μ w v → Dp G.K H v d
  | 0, _, _, _, h, _, _ => by simp [toD] at h
  | n + 1, .non, _, _, h, _, r => by simp [toD] at h; subst h; rw [r.non_inv]; exact .non
  | n + 1, .bl _, _, _, h, _, r => by simp [toD] at h; subst h; rw [r.bl_inv]; exact .bl _
  | n + 1, .int _, _, _, h, _, r => by simp [toD] at h; subst h; rw [r.int_inv]; exact .int _
  | n + 1, .str _, _, _, h, _, r => by simp [toD] at h; subst h; rw [r.str_inv]; exact .str _
  | n + 1, .tup ws, d, v, h, c, r => by
    simp only [toD, Option.map_eq_some_iff] at h
    obtain ⟨ds, h, rfl⟩ := h
    obtain ⟨a, vs, rfl, q, rs⟩ := r.tup_inv
    exact .tup q (toDs_dp sr n h (by simpa only [PyData.canLay0] using c) rs)
  | n + 1, .frl ws, d, v, h, c, r => by
    simp only [toD, Option.map_eq_some_iff] at h
    obtain ⟨ds, h, rfl⟩ := h
    obtain ⟨a, vs, rfl, q, rs⟩ := r.frl_inv
    exact .lst q (toDs_dp sr n h (by simpa only [PyData.canLay0] using c) rs)
  | n + 1, .loc l, d, v, h, c, r => by
    simp only [toD] at h
    split at h
    · rename_i xs e
      simp only [Option.map_eq_some_iff] at h
      obtain ⟨ds, h, rfl⟩ := h
      obtain ⟨a, vs, rfl, _, q, rs⟩ := Rep.lst sr r e
      exact .lst (SqL.of q) (toDs_dp sr n h (by simpa only [PyData.canLay0] using c) rs)
    · split at h
      · cases h; simp [PyData.canLay0] at c
      · cases h
    · cases h
  | n + 1, .glb _, _, _, h, _, _ => by simp [toD] at h
  | n + 1, .frd _ _, _, _, h, _, _ => by simp [toD] at h
theorem toDs_dp (sr : SR G H μ st) : ∀ (n : Nat) {ws : List W} {ds : List PyData} {vs : List V}, ws.mapM (toD n st) = some ds → PyData.canLayAll0 ds = true → Reps G H μ ws vs → DpAll G.K H vs ds
  | n, [], ds, vs, h, _, r => by
    simp at h; subst h
    rw [r.nil_inv]; exact .nil
  | n, w :: ws, ds, vs, h, c, r => by
    rw [List.mapM_cons] at h
    simp only [Option.pure_def, Option.bind_eq_bind, Option.bind_eq_some_iff, Option.some.injEq] at h
    obtain ⟨d, h1, es, h2, rfl⟩ := h
    simp only [PyData.canLayAll0, Bool.and_eq_true] at c
    simp only [Reps] at r
    obtain ⟨v, vr, rfl, r1, r2⟩ := r
    exact .cons (toD_dp sr n h1 c.1 r1) (toDs_dp sr n h2 c.2 r2)
end
end Mi

/-! Mi5: comparisons, places, slices, built-in functions of the small machine. -/
namespace Mi
open PySem L2
variable {G : Gs} {H H' : Hp} {μ μ' : List Addr} {st : Sto}

/-- a scalar as the hand layer has it -/
def vF : W → V
  | .bl b => .bl b
  | .int i => .int i
  | .str x => .str x
  | _ => .non
theorem Rep.flat {w : W} {v : V} (h : Rep G H μ w v) (f : flatW w = true) : v = vF w := by
  cases w <;> simp [flatW] at f <;> simp only [Rep] at h <;> exact h
theorem flat_vF {w : W} : flatV (vF w) = true := by cases w <;> rfl
theorem eqV_vF {a b : W} (ha : flatW a = true) (hb : flatW b = true) : eqV (vF a) (vF b) = eqF a b := by
  cases a <;> simp [flatW] at ha <;> cases b <;> simp [flatW] at hb <;> rfl
theorem same_flat {a b : W} (h : sameW a b = true) : flatW a = true ∧ flatW b = true := by
  cases a <;> cases b <;> simp [sameW] at h <;> exact ⟨rfl, rfl⟩
theorem same_scal {a b : W} (h : sameW a b = true) : scal (vF a) (vF b) = true := by
  cases a <;> cases b <;> simp [sameW] at h <;> rfl
theorem same_dec {a b : W} (h : sameW a b = true) : decide (vF a = vF b) = decide (a = b) := by
  cases a <;> cases b <;> simp [sameW] at h <;> simp [vF]

/-- a seq of the small machine is one of the hand layer's -/
theorem isLst_of (sr : SR G H μ st) {w : W} {v : V} {ws : List W} (r : Rep G H μ w v) (e : isLst st w = some ws) : ∃ a vs, v = .ref a ∧ SqL G.K H a vs ∧ Reps G H μ ws vs := by
  cases w <;> simp only [isLst, reduceCtorEq, Option.some.injEq] at e
  · subst e; exact r.frl_inv
  · split at e
    · rename_i n xs h
      cases e
      obtain ⟨a, vs, e, _, h', rs⟩ := Rep.lst sr r h
      exact ⟨a, vs, e, SqL.of h', rs⟩
    · cases e
theorem isSeq_of (sr : SR G H μ st) {w : W} {v : V} {ws : List W} (r : Rep G H μ w v) (e : isSeq st w = some ws) : ∃ a vs, v = .ref a ∧ (SqL G.K H a vs ∨ SqT G.K H a vs) ∧ Reps G H μ ws vs := by
  by_cases ht : ∃ xs, w = .tup xs
  · obtain ⟨xs, rfl⟩ := ht
    simp only [isSeq, Option.some.injEq] at e
    subst e
    obtain ⟨a, vs, e, q, rs⟩ := r.tup_inv
    exact ⟨a, vs, e, .inr q, rs⟩
  · have e' : isLst st w = some ws := by cases w <;> first | exact e | exact absurd ⟨_, rfl⟩ ht
    obtain ⟨a, vs, e, q, rs⟩ := isLst_of sr r e'
    exact ⟨a, vs, e, .inl q, rs⟩
/-- two sequences that are told apart, or alike, by their lengths alone -/
def rEmp (K : PySem.W.Frag) (neg : Bool) : R2 := fun x y H Q => ∃ p q xs ys, x = .ref p ∧ y = .ref q ∧
  ((SqT K H p xs ∧ SqT K H q ys ∧ (xs = [] ∨ ys = []) ∧ Q (.bl ((xs.isEmpty && ys.isEmpty) != neg)) H) ∨ (SqL K H p xs ∧ SqL K H q ys ∧ ((xs.length ≠ ys.length ∧ Q (.bl (false != neg)) H) ∨ (xs = [] ∧ ys = [] ∧ Q (.bl (true != neg)) H))))
theorem empty_of {ws : List W} {vs : List V} (r : Reps G H μ ws vs) : ws.isEmpty = vs.isEmpty := by
  have := r.length
  cases ws <;> cases vs <;> simp_all
theorem is_emp (sr : SR G H μ st) {wx wy : W} {x y : V} {b neg : Bool} {X : Value → Option Addr → Hp → Prop} {Q : VK} (hx : Rep G H μ wx x) (hy : Rep G H μ wy y) (e : eqE st wx wy = some b) (q : Post G X H μ (.ok (.bl (b != neg)) st) Q) : rEmp G.K neg x y H Q := by
  have q := q _ H μ .refl sr Rep.bl_
  unfold eqE at e
  split at e
  · rename_i xs ys e1 e2
    have e1 : wx = .tup xs := by cases wx <;> simp [isTupW] at e1; rw [e1]
    have e2 : wy = .tup ys := by cases wy <;> simp [isTupW] at e2; rw [e2]
    subst e1 e2
    obtain ⟨a, vs, rfl, ha, ra⟩ := hx.tup_inv
    obtain ⟨c, us, rfl, hc, rc⟩ := hy.tup_inv
    split at e
    · rename_i h
      cases e
      rw [empty_of ra, empty_of rc] at h q
      refine ⟨a, c, vs, us, rfl, rfl, .inl ⟨ha, hc, ?_, q⟩⟩
      rw [Bool.or_eq_true, List.isEmpty_iff, List.isEmpty_iff] at h
      exact h
    · cases e
  · split at e
    · rename_i xs ys e1 e2
      obtain ⟨a, vs, rfl, ha, ra⟩ := isLst_of sr hx e1
      obtain ⟨c, us, rfl, hc, rc⟩ := isLst_of sr hy e2
      split at e
      · rename_i h
        cases e
        rw [ra.length, rc.length] at h
        exact ⟨a, c, vs, us, rfl, rfl, .inr ⟨ha, hc, .inl ⟨h, q⟩⟩⟩
      · rename_i h
        split at e
        · rename_i h2
          cases e
          rw [empty_of ra, List.isEmpty_iff] at h2
          subst h2
          have : us = [] := by
            have h : xs.length = ys.length := Decidable.not_not.mp h
            rw [ra.length, rc.length] at h
            exact List.eq_nil_of_length_eq_zero (by simpa using h.symm)
          subst this
          exact ⟨a, c, [], [], rfl, rfl, .inr ⟨ha, hc, .inr ⟨rfl, rfl, q⟩⟩⟩
        · cases e
    · cases e
theorem is_eq : OpIs G (rOr rEq (rOr (rEmp G.K false) (rEqD G.K))) (cmpop .eq) := by
  intro H μ st x y wx wy X Q sr hx hy q
  have q : Post G X H μ (match eqW st wx wy with | some r => .ok (.bl r) st | none => .stuck) Q := by
    cases wx <;> cases wy <;> exact q
  unfold eqW at q
  by_cases h : sameW wx wy = true
  · rw [if_pos h] at q
    obtain ⟨fx, fy⟩ := same_flat h
    rw [hx.flat fx, hy.flat fy]
    refine .inl ⟨same_scal h, q _ H μ .refl sr ?_⟩
    rw [same_dec h]; exact Rep.bl_
  · rw [if_neg h] at q
    cases em : eqE st wx wy with
    | some r =>
      rw [em] at q
      exact .inr (.inl (is_emp (neg := false) sr hx hy em (by simpa using q)))
    | none =>
    rw [em] at q
    dsimp only at q
    split at q
    · rename_i r e
      split at e
      · rename_i d d' e1 e2
        split at e
        · rename_i hs
          cases e
          rw [Bool.and_eq_true] at hs
          exact .inr (.inr ⟨d, d', toD_dp sr _ e1 (SeqAt.canLay_of_shaped hs.1) hx, toD_dp sr _ e2 (SeqAt.canLay_of_shaped hs.2) hy, hs.1, hs.2, q _ H μ .refl sr Rep.bl_⟩)
        · cases e
      · cases e
    · exact q.elim
theorem is_ne : OpIs G (rOr rNe (rOr (rEmp G.K true) (rNeD G.K))) (cmpop .ne) := by
  intro H μ st x y wx wy X Q sr hx hy q
  have q : Post G X H μ (match (eqW st wx wy).map (!·) with | some r => .ok (.bl r) st | none => .stuck) Q := by
    cases wx <;> cases wy <;> exact q
  unfold eqW at q
  by_cases h : sameW wx wy = true
  · rw [if_pos h] at q
    obtain ⟨fx, fy⟩ := same_flat h
    rw [hx.flat fx, hy.flat fy]
    refine .inl ⟨same_scal h, q _ H μ .refl sr ?_⟩
    rw [same_dec h]; exact Rep.bl_
  · rw [if_neg h] at q
    cases em : eqE st wx wy with
    | some r =>
      rw [em] at q
      exact .inr (.inl (is_emp (neg := true) sr hx hy em (by simpa using q)))
    | none =>
    rw [em] at q
    dsimp only at q
    split at q
    · rename_i r e
      rw [Option.map_eq_some_iff] at e
      obtain ⟨r0, e, rfl⟩ := e
      split at e
      · rename_i d d' e1 e2
        split at e
        · rename_i hs
          cases e
          rw [Bool.and_eq_true] at hs
          exact .inr (.inr ⟨d, d', toD_dp sr _ e1 (SeqAt.canLay_of_shaped hs.1) hx, toD_dp sr _ e2 (SeqAt.canLay_of_shaped hs.2) hy, hs.1, hs.2, q _ H μ .refl sr Rep.bl_⟩)
        · cases e
      · cases e
    · exact q.elim
theorem is_lt : OpIs G (rOr (rI0 fun i j => .bl (decide (i < j))) (fun x y H Q => ∃ i j, x = .str i ∧ y = .str j ∧ Q (.bl (decide (i.cps.toList < j.cps.toList))) H)) (cmpop .lt) := by
  intro H μ st x y wx wy X Q sr hx hy q
  cases wx <;> cases wy <;> first | exact False.elim q | skip
  · exact .inl ⟨_, _, hx.int_inv, hy.int_inv, q _ H μ .refl sr Rep.bl_⟩
  · exact .inr ⟨_, _, hx.str_inv, hy.str_inv, q _ H μ .refl sr Rep.bl_⟩
theorem is_le : OpIs G (rOr (rI0 fun i j => .bl (decide (i ≤ j))) (fun x y H Q => ∃ i j, x = .str i ∧ y = .str j ∧ Q (.bl (!decide (j.cps.toList < i.cps.toList))) H)) (cmpop .le) := by
  intro H μ st x y wx wy X Q sr hx hy q
  cases wx <;> cases wy <;> first | exact False.elim q | skip
  · exact .inl ⟨_, _, hx.int_inv, hy.int_inv, q _ H μ .refl sr Rep.bl_⟩
  · exact .inr ⟨_, _, hx.str_inv, hy.str_inv, q _ H μ .refl sr Rep.bl_⟩
theorem is_gt : OpIs G (rI0 fun i j => .bl (decide (j < i))) (cmpop .gt) := by
  intro H μ st x y wx wy X Q sr hx hy q
  cases wx <;> cases wy <;> first | exact False.elim q | skip
  exact ⟨_, _, hx.int_inv, hy.int_inv, q _ H μ .refl sr Rep.bl_⟩
theorem is_ge : OpIs G (rI0 fun i j => .bl (decide (j ≤ i))) (cmpop .ge) := by
  intro H μ st x y wx wy X Q sr hx hy q
  cases wx <;> cases wy <;> first | exact False.elim q | skip
  exact ⟨_, _, hx.int_inv, hy.int_inv, q _ H μ .refl sr Rep.bl_⟩
theorem Reps.flats : ∀ {ws : List W} {vs : List V}, Reps G H μ ws vs → ws.all flatW = true → vs = ws.map vF
  | [], _, r, _ => by rw [r.nil_inv]; rfl
  | w :: ws, _, r, h => by
    simp only [Reps] at r
    obtain ⟨v, vr, rfl, r1, r2⟩ := r
    simp only [List.all_cons, Bool.and_eq_true] at h
    rw [List.map_cons, r1.flat h.1, Reps.flats r2 h.2]
theorem any_vF {x : W} (hx : flatW x = true) : ∀ {ws : List W}, ws.all flatW = true → inV (vF x) (ws.map vF) = ws.any fun z => eqF z x
  | [], _ => rfl
  | w :: ws, h => by
    simp only [List.all_cons, Bool.and_eq_true] at h
    have := any_vF hx h.2
    unfold inV at this ⊢
    rw [List.map_cons, List.any_cons, List.any_cons, this, eqV_vF h.1 hx]
theorem all_vF {ws : List W} : (ws.map vF).all flatV = true := by
  rw [List.all_eq_true]; intro y hy
  obtain ⟨w, _, rfl⟩ := List.mem_map.mp hy
  exact flat_vF
abbrev rInSign (neg : Bool) : R2 := fun x y H Q => ∃ (c : Nat) (z : Str), x = .str ⟨#[c]⟩ ∧ y = .str z ∧ Q (.bl (if neg then !decide (c ∈ z.cps.toList) else decide (c ∈ z.cps.toList))) H
theorem one_sign {x : Str} (h : x.cps.size = 1) : x = ⟨#[x.cps.getD 0 0]⟩ := by
  obtain ⟨a⟩ := x
  congr 1
  apply Array.ext
  · simpa using h
  · intro i h1 h2
    have : i = 0 := by simp at h2; exact h2
    subst this
    simp [Array.getD, h1]
theorem non_iff {w : W} {v : V} (h : Rep G H μ w v) (hg : ∀ i, w ≠ .glb i) : decide (v = .non) = decide (w = .non) := by
  cases w <;> simp only [Rep] at h
  · subst h; rfl
  · subst h; rfl
  · subst h; rfl
  · subst h; rfl
  · obtain ⟨a, vs, rfl, _⟩ := h; rfl
  · obtain ⟨a, vs, rfl, _⟩ := h; rfl
  · obtain ⟨a, rfl, _⟩ := h; rfl
  · exact absurd rfl (hg _)
  · obtain ⟨a, us, vs, rfl, _⟩ := h; rfl
theorem is_is : OpIs G (fun x y H Q => y = .non ∧ Q (.bl (decide (x = .non))) H) (cmpop .is) := by
  intro H μ st x y wx wy X Q sr hx hy q
  have key : ∀ (h : wy = .non) (hg : ∀ i, wx ≠ .glb i), Post G X H μ (.ok (.bl (decide (wx = .non))) st) Q → y = .non ∧ Q (.bl (decide (x = .non))) H := by
    rintro rfl hg q
    refine ⟨hy.non_inv, q _ H μ .refl sr ?_⟩
    rw [non_iff hx hg]; exact Rep.bl_
  cases wx <;> cases wy <;> first | exact False.elim q | exact key rfl (fun _ => by simp) q
theorem is_isnot : OpIs G (fun x y H Q => y = .non ∧ Q (.bl (!decide (x = .non))) H) (cmpop .isnot) := by
  intro H μ st x y wx wy X Q sr hx hy q
  have key : ∀ (h : wy = .non) (hg : ∀ i, wx ≠ .glb i), Post G X H μ (.ok (.bl (!decide (wx = .non))) st) Q → y = .non ∧ Q (.bl (!decide (x = .non))) H := by
    rintro rfl hg q
    refine ⟨hy.non_inv, q _ H μ .refl sr ?_⟩
    rw [non_iff hx hg]; exact Rep.bl_
  cases wx <;> cases wy <;> first | exact False.elim q | exact key rfl (fun _ => by simp) q

/-! ### places, slices -/
theorem Reps.atI {ws : List W} {vs : List V} {k : Int} {w : W} (r : Reps G H μ ws vs) (e : L2.atI ws k = some w) : ∃ v, L2.atI vs k = some v ∧ Rep G H μ w v := by
  unfold L2.atI at e ⊢
  rw [← r.length]
  cases q : ixN ws.length k with
  | none => rw [q] at e; cases e
  | some j =>
    rw [q] at e
    simp only [Option.bind_some] at e ⊢
    exact r.get j e
abbrev rIxS : R2 := fun x y H Q => ∃ (z : Str) (i : Int) (c : Nat), x = .str z ∧ y = .int i ∧ 0 ≤ i ∧ i < 2 ^ 63 ∧ i < z.length ∧ z.cps[i.toNat]? = some c ∧ Q (.str ⟨#[c]⟩) H
/-- d[y] of a tracked dict -/
def rDG : R2 := fun x y H Q => ∃ a v, x = .ref a ∧ DGet H a y (some v) ∧ Q v H
theorem keyW {w : W} (h : isKey w = true) : ∃ k : Key, w = kW k := by
  cases w <;> simp only [isKey, Bool.false_eq_true] at h
  · exact ⟨.inl _, rfl⟩
  · exact ⟨.inr _, rfl⟩
theorem kW_eq {a b : Key} : kW a = kW b ↔ a = b := by
  cases a <;> cases b <;> simp [kW]
theorem kW_rep {H : Hp} {μ : List Addr} {k : Key} {v : V} (h : Rep G H μ (kW k) v) : v = kV k := by
  cases k with
  | inl i => exact h.int_inv
  | inr x => exact h.str_inv
theorem dlook_of {H : Hp} {μ : List Addr} {k : Key} : ∀ {kvs : List (W × W)} {kv : List (Key × V)}, kvs.map (·.1) = kv.map (fun p => kW p.1) → Reps G H μ (kvs.map (·.2)) (kv.map (·.2)) →
    (∀ w, dLook kvs (kW k) = some w → ∃ v, valV kv k = some v ∧ Rep G H μ w v) ∧ (dLook kvs (kW k) = none → valV kv k = none)
  | [], [], _, _ => ⟨fun w h => (by cases h), fun _ => rfl⟩
  | (a, w0) :: kvs, (b, v0) :: kv, e, r => by
    simp only [List.map_cons, List.cons.injEq] at e
    obtain ⟨r1, r2⟩ := Reps.cons_inv r
    obtain ⟨i1, i2⟩ := dlook_of (k := k) e.2 r2
    have ea : a = kW b := e.1
    subst ea
    unfold dLook valV at i1 i2 ⊢
    simp only [List.find?_cons]
    by_cases hb : b = k
    · subst hb
      simp only [decide_true, Option.map_some, Option.some.injEq]
      exact ⟨fun w h => ⟨v0, rfl, h ▸ r1⟩, fun h => (by cases h)⟩
    · have n1 : decide (kW b = kW k) = false := decide_eq_false fun z => hb (kW_eq.mp z)
      have n2 : decide (b = k) = false := decide_eq_false hb
      simp only [n1, n2]
      exact ⟨i1, i2⟩
  | [], _ :: _, e, _ => by simp at e
  | _ :: _, [], e, _ => by simp at e
theorem Rep.dct {H : Hp} {μ : List Addr} {st : Sto} {n : Nat} {v : V} {kvs : List (W × W)} (sr : SR G H μ st) (h : Rep G H μ (.loc n) v) (e : st[n]? = some (.dct kvs)) :
    ∃ a kv, v = .ref a ∧ μ[n]? = some a ∧ H a = some (.dK kv) ∧ kvs.map (·.1) = kv.map (fun p => kW p.1) ∧ Reps G H μ (kvs.map (·.2)) (kv.map (·.2)) := by
  simp only [Rep] at h
  obtain ⟨a, rfl, hm⟩ := h
  obtain ⟨kv, h1, h2, h3⟩ := sr.ob n a _ hm e
  exact ⟨a, kv, rfl, hm, h1, h2, h3⟩
/-- a text among the keys of a written dict -/
def rInK (G : Gs) (neg : Bool) : R2 := fun x y H Q => ∃ (z : Str) (p : Addr) (ks : List Str) (us : List Value), x = .str z ∧ y = .ref p ∧ KFrd G.K G.prm p ks us ∧ Q (.bl (((ks.zip us).lookup z).isSome != neg)) H
/-- among the keys of a dict -/
def rInD (neg : Bool) : R2 := fun x y H Q => ∃ (p : Addr) (o : Option V), y = .ref p ∧ DGet H p x o ∧ Q (.bl (o.isSome != neg)) H
theorem frd_look {ks : List Str} {us : List Value} {ws : List W} {vs : List V} {z : Str} (hl : ks.length = us.length) (r : Vals vs us) (h : Reps G H μ ws vs) :
    (∀ w, dLook ((ks.map W.str).zip ws) (.str z) = some w → ∃ u v, (ks.zip us).lookup z = some u ∧ RelV v u ∧ Rep G H μ w v) ∧ (dLook ((ks.map W.str).zip ws) (.str z) = none → (ks.zip us).lookup z = none) := by
  induction ks generalizing us ws vs with
  | nil => exact ⟨fun w e => (by cases e), fun _ => rfl⟩
  | cons k ks ih =>
    cases r with
    | nil => simp at hl
    | @cons v u vs us r1 r2 =>
    match ws, h with
    | [], h => have := h.nil_inv; cases this
    | w :: ws, h =>
      obtain ⟨h1, h2⟩ := Reps.cons_inv h
      obtain ⟨i1, i2⟩ := ih (by simpa using hl) r2 h2
      unfold dLook at i1 i2 ⊢
      simp only [List.map_cons, List.zip_cons_cons, List.find?_cons, List.lookup_cons]
      by_cases hb : z = k
      · subst hb
        simp only [decide_true, Option.map_some, Option.some.injEq, beq_self_eq_true]
        exact ⟨fun w' e => ⟨u, v, rfl, r1, e ▸ h1⟩, fun e => (by cases e)⟩
      · have n1 : decide (W.str k = W.str z) = false := decide_eq_false fun e => hb (W.str.inj e).symm
        have n2 : (z == k) = false := beq_eq_false_iff_ne.mpr hb
        simp only [n1, n2]
        exact ⟨i1, i2⟩
theorem Rep.frd_inv {ks : List Str} {ws : List W} {v : V} (h : Rep G H μ (.frd ks ws) v) : ∃ a us vs, v = .ref a ∧ KFrd G.K G.prm a ks us ∧ Vals vs us ∧ Reps G H μ ws vs := by simpa only [Rep] using h
theorem frd_some {ks : List Str} {us : List Value} {ws : List W} {vs : List V} {z : Str} (hl : ks.length = us.length) (r : Vals vs us) (h : Reps G H μ ws vs) : (dLook ((ks.map W.str).zip ws) (.str z)).isSome = ((ks.zip us).lookup z).isSome := by
  obtain ⟨a, b⟩ := frd_look (z := z) hl r h
  cases e : dLook ((ks.map W.str).zip ws) (.str z) with
  | none => rw [b e]; rfl
  | some w => obtain ⟨u, v, e2, _⟩ := a w e; rw [e2]; rfl
theorem is_inD (sr : SR G H μ st) {wx wy : W} {x y : V} {b neg : Bool} {X : Value → Option Addr → Hp → Prop} {Q : VK} (hx : Rep G H μ wx x) (hy : Rep G H μ wy y) (e : inDct st wx wy = some b) (q : Post G X H μ (.ok (.bl (b != neg)) st) Q) : rInD neg x y H Q ∨ rInK G neg x y H Q := by
  have q := q _ H μ .refl sr Rep.bl_
  cases wy with
  | frd ks ws =>
    simp only [inDct] at e
    split at e
    · rename_i hk
      cases wx <;> simp only [isStrW, Bool.false_eq_true] at hk
      cases e
      obtain ⟨a, us, vs, rfl, hf, hv, hr⟩ := hy.frd_inv
      have hl : ks.length = us.length := by obtain ⟨_, _, _, _, _, h, _⟩ := hf; exact h
      rw [frd_some hl hv hr] at q
      exact .inr ⟨_, a, ks, us, hx.str_inv, rfl, hf, q⟩
    · cases e
  | loc n =>
    simp only [inDct, dctAt] at e
    split at e
    · rename_i kvs h
      split at e
      · rename_i hk
        cases e
        split at h
        · rename_i kvs' h0
          cases h
          obtain ⟨k, rfl⟩ := keyW hk
          obtain ⟨a, kv, rfl, _, h1, h2, h3⟩ := Rep.dct sr hy h0
          refine .inl ⟨a, valV kv k, rfl, .inl ⟨kv, k, .inl h1, kW_rep hx, rfl⟩, ?_⟩
          have := dlook_of (k := k) h2 h3
          cases e : dLook kvs (kW k) with
          | none => rw [this.2 e]; rw [e] at q; exact q
          | some w => obtain ⟨v, e2, _⟩ := this.1 w e; rw [e2]; rw [e] at q; exact q
        · cases h
      · cases e
    · cases e
  | _ => cases e
theorem is_in : OpIs G (rOr (rOr (rInSign false) (rIn G.K false)) (rOr (rInD false) (rInK G false))) (cmpop .isin) := by
  intro H μ st x y wx wy X Q sr hx hy q
  by_cases hs : ∃ a b, wx = .str a ∧ wy = .str b
  · obtain ⟨a, b, rfl, rfl⟩ := hs
    simp only [cmpop, cmpB] at q
    by_cases h1 : a.cps.size = 1
    · rw [if_pos h1] at q
      refine .inl <| .inl ⟨a.cps.getD 0 0, b, by rw [hx.str_inv]; congr 1; exact one_sign h1, hy.str_inv, q _ H μ .refl sr ?_⟩
      exact Rep.bl_
    · rw [if_neg h1] at q; exact q.elim
  · have q : Post G X H μ (match (match isSeq st wy with | some ys => if flatW wx && ys.all flatW then some (ys.any fun z => eqF z wx) else none | none => inDct st wx wy) with | some t => .ok (.bl t) st | none => .stuck) Q := by
      cases wx <;> cases wy <;> first | exact q | exact absurd ⟨_, _, rfl, rfl⟩ hs
    cases e : isSeq st wy with
    | none =>
      rw [e] at q
      dsimp only at q
      cases e2 : inDct st wx wy with
      | none => rw [e2] at q; exact q.elim
      | some b => rw [e2] at q; exact .inr (is_inD (neg := false) sr hx hy e2 (by simpa using q))
    | some ys =>
      rw [e] at q
      dsimp only at q
      by_cases hf : (flatW wx && ys.all flatW) = true
      · rw [if_pos hf] at q
        rw [Bool.and_eq_true] at hf
        obtain ⟨a, vs, rfl, hq, rs⟩ := isSeq_of sr hy e
        have e1 := rs.flats hf.2
        subst e1
        refine .inl <| .inr ⟨a, _, rfl, hq, by rw [hx.flat hf.1]; exact flat_vF, all_vF, q _ H μ .refl sr ?_⟩
        rw [hx.flat hf.1, any_vF hf.1 hf.2]; exact Rep.bl_
      · rw [if_neg hf] at q; exact q.elim
theorem is_notin : OpIs G (rOr (rOr (rInSign true) (rIn G.K true)) (rOr (rInD true) (rInK G true))) (cmpop .notin) := by
  intro H μ st x y wx wy X Q sr hx hy q
  by_cases hs : ∃ a b, wx = .str a ∧ wy = .str b
  · obtain ⟨a, b, rfl, rfl⟩ := hs
    simp only [cmpop, cmpB] at q
    by_cases h1 : a.cps.size = 1
    · rw [if_pos h1] at q
      refine .inl <| .inl ⟨a.cps.getD 0 0, b, by rw [hx.str_inv]; congr 1; exact one_sign h1, hy.str_inv, q _ H μ .refl sr ?_⟩
      exact Rep.bl_
    · rw [if_neg h1] at q; exact q.elim
  · have q : Post G X H μ (match (match isSeq st wy with | some ys => if flatW wx && ys.all flatW then some (!ys.any fun z => eqF z wx) else none | none => (inDct st wx wy).map (!·)) with | some t => .ok (.bl t) st | none => .stuck) Q := by
      cases wx <;> cases wy <;> first | exact q | exact absurd ⟨_, _, rfl, rfl⟩ hs
    cases e : isSeq st wy with
    | none =>
      rw [e] at q
      dsimp only at q
      cases e2 : inDct st wx wy with
      | none => rw [e2] at q; exact q.elim
      | some b => rw [e2] at q; exact .inr (is_inD (neg := true) sr hx hy e2 (by simpa using q))
    | some ys =>
      rw [e] at q
      dsimp only at q
      by_cases hf : (flatW wx && ys.all flatW) = true
      · rw [if_pos hf] at q
        rw [Bool.and_eq_true] at hf
        obtain ⟨a, vs, rfl, hq, rs⟩ := isSeq_of sr hy e
        have e1 := rs.flats hf.2
        subst e1
        refine .inl <| .inr ⟨a, _, rfl, hq, by rw [hx.flat hf.1]; exact flat_vF, all_vF, q _ H μ .refl sr ?_⟩
        rw [hx.flat hf.1, any_vF hf.1 hf.2]; exact Rep.bl_
      · rw [if_neg hf] at q; exact q.elim
/-- d[z] of a written dict -/
def rIxK (G : Gs) : R2 := fun x y H Q => ∃ (p : Addr) (z : Str) (ks : List Str) (us : List Value) (u : Value) (v : V), x = .ref p ∧ y = .str z ∧ KFrd G.K G.prm p ks us ∧ (ks.zip us).lookup z = some u ∧ RelV v u ∧ Q v H
theorem is_idx : OpIs G (rOr (rOr (rOr rIxS (rOr (rIxT G.K) (rIxL G.K))) rDG) (rIxK G)) idxW := by
  intro H μ st x y wx wy X Q sr hx hy q
  cases wx with
  | str z =>
    cases wy <;> first | exact False.elim q | skip
    rename_i k
    simp only [idxW] at q
    split at q
    · rename_i h1
      split at q
      · rename_i c e
        refine .inl <| .inl <| .inl ⟨z, k, c, hx.str_inv, hy.int_inv, h1.1, h1.2, ?_, e, q _ H μ .refl sr Rep.str_⟩
        have := (Array.getElem?_eq_some_iff.mp e).1
        show k < ((z.cps.size : Nat) : Int)
        omega
      · exact q.elim
    · exact q.elim
  | tup xs =>
    cases wy <;> first | exact False.elim q | skip
    rename_i k
    simp only [idxW] at q
    split at q
    · rename_i w e
      obtain ⟨a, vs, rfl, hq, rs⟩ := hx.tup_inv
      obtain ⟨v, e2, rv⟩ := rs.atI e
      exact .inl <| .inl <| .inr (.inl ⟨a, vs, k, v, rfl, hy.int_inv, hq, e2, q _ H μ .refl sr rv⟩)
    · exact q.elim
  | frl xs =>
    cases wy <;> first | exact False.elim q | skip
    rename_i k
    simp only [idxW] at q
    split at q
    · rename_i w e
      obtain ⟨a, vs, rfl, hq, rs⟩ := hx.frl_inv
      obtain ⟨v, e2, rv⟩ := rs.atI e
      exact .inl <| .inl <| .inr (.inr ⟨a, vs, k, v, rfl, hy.int_inv, hq, e2, q _ H μ .refl sr rv⟩)
    · exact q.elim
  | loc n =>
    simp only [idxW] at q
    split at q
    · rename_i xs e0
      split at q
      · rename_i k
        split at q
        · rename_i w e
          obtain ⟨a, vs, rfl, _, hq, rs⟩ := Rep.lst sr hx e0
          obtain ⟨v, e2, rv⟩ := rs.atI e
          exact .inl <| .inl <| .inr (.inr ⟨a, vs, k, v, rfl, hy.int_inv, SqL.of hq, e2, q _ H μ .refl sr rv⟩)
        · exact q.elim
      · exact q.elim
    · rename_i kvs e0
      split at q
      · rename_i hk
        split at q
        · rename_i w e
          obtain ⟨k, rfl⟩ := keyW hk
          obtain ⟨a, kv, rfl, _, h1, h2, h3⟩ := Rep.dct sr hx e0
          obtain ⟨v, e2, rv⟩ := (dlook_of h2 h3).1 w e
          exact .inl <| .inr ⟨a, v, rfl, .inl ⟨kv, k, .inl h1, kW_rep hy, e2.symm⟩, q _ H μ .refl sr rv⟩
        · exact q.elim
      · exact q.elim
    · exact q.elim
  | frd ks ws =>
    cases wy <;> first | exact False.elim q | skip
    rename_i z
    simp only [idxW] at q
    split at q
    · rename_i w e
      obtain ⟨a, us, vs, rfl, hf, hv, hr⟩ := hx.frd_inv
      have hl : ks.length = us.length := by obtain ⟨_, _, _, _, _, h, _⟩ := hf; exact h
      obtain ⟨u, v, e2, r1, r2⟩ := (frd_look hl hv hr).1 w e
      exact .inr ⟨a, z, ks, us, u, v, rfl, hy.str_inv, hf, e2, r1, q _ H μ .refl sr r2⟩
    · exact q.elim
  | non => exact q.elim
  | bl _ => exact q.elim
  | int _ => exact q.elim
  | glb _ => exact q.elim
abbrev SlT := V → Option Int → Option Int → Hp → VK → Prop
theorem Reps.cut_ {ws : List W} {vs : List V} (r : Reps G H μ ws vs) (lo hi : Option Int) : Reps G H μ (cut ws lo hi) (cutV vs lo hi) := by
  unfold cut cutV
  rw [← r.length]
  exact (r.drop_ _).take_ _
theorem cut_whole {ws : List W} {lo hi : Option Int} (h : HT.sIx ws.length 0 lo = 0 ∧ HT.sIx ws.length ws.length hi = ws.length) : cut ws lo hi = ws := by
  unfold cut; rw [h.1, h.2]; simp
theorem is_slc {x : V} {w : W} {lo hi : Option Int} {X : Value → Option Addr → Hp → Prop} {Q : VK} (sr : SR G H μ st) (hx : Rep G H μ w x) (q : Post G X H μ (slcW w lo hi st) Q) :
    rSlS x lo hi H Q ∨ MiR.rSlF G.K x lo hi H Q ∨ rSlL G.K x lo hi H Q := by
  cases w with
  | str z =>
    simp only [slcW] at q
    split at q
    · rename_i h1
      exact .inl ⟨z, hx.str_inv, SZ_le h1, q _ H μ .refl sr Rep.str_⟩
    · exact q.elim
  | tup xs =>
    obtain ⟨a, vs, rfl, hq, rs⟩ := hx.tup_inv
    refine .inr (.inl ⟨a, vs, rfl, hq, fun h => ?_, fun _ p o hp ho => ?_⟩)
    · rw [← rs.length] at h
      have e := cut_whole h
      have q' : Post G X H μ (.ok (.tup (cut xs lo hi)) st) Q := q
      rw [e] at q'
      exact q' _ H μ .refl sr hx
    · obtain ⟨g, s1, r1⟩ := Rep.tup_new sr hp ho (rs.cut_ lo hi)
      exact q _ _ μ g s1 r1
  | frl xs =>
    obtain ⟨a, vs, rfl, hq, rs⟩ := hx.frl_inv
    refine .inr (.inr ⟨a, vs, rfl, hq, fun p hp => ?_⟩)
    obtain ⟨g, s1, r1⟩ := sr.lay hp (rs.cut_ lo hi)
    exact q _ _ _ g s1 r1
  | loc n =>
    simp only [slcW] at q
    split at q
    · rename_i xs e
      obtain ⟨a, vs, rfl, _, hq, rs⟩ := Rep.lst sr hx e
      refine .inr (.inr ⟨a, vs, rfl, SqL.of hq, fun p hp => ?_⟩)
      obtain ⟨g, s1, r1⟩ := sr.lay hp (rs.cut_ lo hi)
      exact q _ _ _ g s1 r1
    · exact q.elim
  | non => exact q.elim
  | frd _ _ => exact q.elim
  | bl _ => exact q.elim
  | int _ => exact q.elim
  | glb _ => exact q.elim

/-! ### truth, length -/
theorem is_tru (sr : SR G H μ st) {w : W} {v : V} {b : Bool} (r : Rep G H μ w v) (e : truW st w = some b) : TruV G.K v H b := by
  cases w <;> simp only [truW, reduceCtorEq, Option.some.injEq] at e
  · subst e; rw [r.non_inv]; rfl
  · subst e; rw [r.bl_inv]; rfl
  · subst e; rw [r.int_inv]; rfl
  · split at e
    · rename_i h; cases e; rw [r.str_inv]; exact ⟨SZ_le h, rfl⟩
    · cases e
  · subst e
    obtain ⟨a, vs, rfl, hq, rs⟩ := r.tup_inv
    refine .inr (.inl ⟨vs, hq, ?_⟩)
    rename_i xs
    have := rs.length
    cases xs <;> cases vs <;> simp_all
  · subst e
    obtain ⟨a, vs, rfl, hq, rs⟩ := r.frl_inv
    refine .inl ⟨vs, hq, ?_⟩
    rename_i xs
    have := rs.length
    cases xs <;> cases vs <;> simp_all
  · split at e
    · rename_i n xs h
      cases e
      obtain ⟨a, vs, rfl, _, hq, rs⟩ := Rep.lst sr r h
      refine .inl ⟨vs, SqL.of hq, ?_⟩
      have := rs.length
      cases xs <;> cases vs <;> simp_all
    · rename_i m n kvs h
      cases e
      obtain ⟨a, rfl, hm⟩ := r.loc_inv
      obtain ⟨kv, e1, e2, _⟩ := sr.ob _ a _ hm h
      refine .inr (.inr ⟨kv, e1, ?_⟩)
      cases kvs <;> cases kv <;> simp_all
    · cases e

/-! ### isinstance -/
def tyV' : Ty → Option String
  | .int => some "int"
  | .bool => some "bool"
  | .str => some "str"
  | .tuple => some "tuple"
  | .list => some "list"
  | .dict => some "dict"
  | .own _ => none
/-- the kind of a value, as the hand layer tells it; of the kinds that isinstance asks of -/
theorem is_ty (sr : SR G H μ st) {w : W} {v : V} {t : Ty} {n : String} {b : Bool} (r : Rep G H μ w v) (e : isTy st w t = some b) (ht : tyV' t = some n) : ∃ u, TyX G.K H v u ∧ PySem.W.kitOne G.K u (.type n) = some b := by
  have go : ∀ (T : String) (c : Bool), TyX G.K H v (.type T) → kitB T n = some c → c = b → ∃ u, TyX G.K H v u ∧ PySem.W.kitOne G.K u (.type n) = some b := fun T c h1 h2 h3 => ⟨_, h1, by rw [← h3]; exact kit_ty h2⟩
  have all : ∀ (T : String) (k : Ty → Bool), TyX G.K H v (.type T) → (∀ t n, tyV' t = some n → kitB T n = some (k t)) → k t = b → ∃ u, TyX G.K H v u ∧ PySem.W.kitOne G.K u (.type n) = some b := fun T k h1 h2 h3 => go T (k t) h1 (h2 t n ht) h3
  cases w <;> simp only [isTy, reduceCtorEq, Option.some.injEq] at e
  case non =>
    obtain rfl := r.non_inv
    exact all "NoneType" (fun _ => false) (.base .non) (by intro t n h; cases t <;> simp only [tyV', reduceCtorEq, Option.some.injEq] at h <;> subst h <;> decide +kernel) e
  case bl x =>
    obtain rfl := r.bl_inv
    exact all "bool" (fun t => t == .bool || t == .int) (.base (.bl _)) (by intro t n h; cases t <;> simp only [tyV', reduceCtorEq, Option.some.injEq] at h <;> subst h <;> decide +kernel) e
  case int x =>
    obtain rfl := r.int_inv
    exact all "int" (fun t => t == .int) (.base (.int _)) (by intro t n h; cases t <;> simp only [tyV', reduceCtorEq, Option.some.injEq] at h <;> subst h <;> decide +kernel) e
  case str x =>
    obtain rfl := r.str_inv
    exact all "str" (fun t => t == .str) (.base (.str _)) (by intro t n h; cases t <;> simp only [tyV', reduceCtorEq, Option.some.injEq] at h <;> subst h <;> decide +kernel) e
  case tup xs =>
    obtain ⟨a, vs, rfl, hq, rs⟩ := r.tup_inv
    have tx : TyX G.K H (.ref a) (.type "tuple") := by
      rcases hq with (hq | ⟨o, hq⟩) | ⟨o, its, n, h1, h2, h3⟩
      · exact .base (.tup hq)
      · exact .fTuple hq
      · exact .kTuple h1 h2
    exact all "tuple" (fun t => t == .tuple) tx (by intro t n h; cases t <;> simp only [tyV', reduceCtorEq, Option.some.injEq] at h <;> subst h <;> decide +kernel) e
  case loc m =>
    split at e
    · rename_i xs h
      obtain ⟨a, vs, rfl, _, hq, rs⟩ := Rep.lst sr r h
      exact all "list" (fun t => t == .list) (.base (.lst hq)) (by intro t n h; cases t <;> simp only [tyV', reduceCtorEq, Option.some.injEq] at h <;> subst h <;> decide +kernel) (by simpa using e)
    · rename_i kvs h
      obtain ⟨a, rfl, hm⟩ := r.loc_inv
      obtain ⟨kv, e1, e2, _⟩ := sr.ob m a _ hm h
      exact all "dict" (fun t => t == .dict) (.base (.dK e1)) (by intro t n h; cases t <;> simp only [tyV', reduceCtorEq, Option.some.injEq] at h <;> subst h <;> decide +kernel) (by simpa using e)
    · cases e
end Mi

/-! Mi6: data of any depth shown (repr), the built-in functions. -/
namespace Mi
open PySem L2
variable {G : Gs} {H H' : Hp} {μ μ' : List Addr} {st : Sto}

/-- sys.modules stands in the ground -/
def SysM (base : Heap) : Prop := ∃ m, base.Ns sysModules m

section
variable {X : Cx} {pins : List (Addr × Obj)} {σ : L2.St} {s : Shared}
theorem not_sys_trk (I : Inv X pins σ H s) (hs : SysM X.base) {a : Addr} {o : HO} (h : H a = some o) : a ≠ sysModules := fun e => by
  obtain ⟨m, ob, es, ep, q, _⟩ := hs
  have := (I.bs _ _ q).2
  rw [← e, h] at this; cases this
theorem not_sys_kl (I : Inv X pins σ H s) (hs : SysM X.base) {a : Addr} {vs : List V} (h : KL X.K a vs) : a ≠ sysModules := fun e => by
  obtain ⟨m, ob, es, ep, q, hd, _⟩ := hs
  obtain ⟨o, its, n, hk, _, _, hd', _⟩ := h
  have := I.ok.mod.kin a o hk
  rw [e, q] at this; cases this
  rw [hd] at hd'; cases hd'
theorem keys_read {h : Heap} {P : Program} {w : World} : ∀ {es : List DictEntry} {vs : List (Key × Value)}, PySem.Pairs (mixKind P w) es vs → ∃ as, ReadsAll h (es.map (·.key)) (vs.map fun p => match p.1 with | .inl i => PyData.int i | .inr x => PyData.str x) as ∧ as = []
  | _, _, .nil => ⟨_, .nil, rfl⟩
  | e :: es, kv :: vs, .cons h1 h2 h3 => by
    obtain ⟨as, r, rfl⟩ := keys_read h3
    rcases keyIs_shape h1 with ⟨i, t, e1, e2⟩ | ⟨x, t, e1, e2⟩
    · refine ⟨[] ++ [], ?_, rfl⟩
      simp only [List.map_cons, e1, e2]
      exact .cons (.int _ _) r
    · refine ⟨[] ++ [], ?_, rfl⟩
      simp only [List.map_cons, e1, e2]
      exact .cons (.str _ _) r
theorem pairs_vals {P : Program} {w : World} : ∀ {es : List DictEntry} {vs : List (Key × Value)}, PySem.Pairs (mixKind P w) es vs → es.map (·.val) = vs.map (·.2)
  | _, _, .nil => rfl
  | e :: es, kv :: vs, .cons _ h2 h3 => by simp [h2, pairs_vals h3]
theorem kv_split : ∀ {kv : List (Key × V)} {vs : List (Key × Value)}, KV kv vs → kv.map (·.1) = vs.map (·.1) ∧ Vals (kv.map (·.2)) (vs.map (·.2))
  | _, _, .nil => ⟨rfl, .nil⟩
  | _, _, .cons ⟨h1, h2⟩ t => by
    obtain ⟨a, b⟩ := kv_split t
    exact ⟨by simp [h1, a], .cons h2 b⟩
theorem kW_data (n : Nat) (st : Sto) : ∀ (ks : List Key), (ks.map kW).mapM (toD (n + 1) st) = some (ks.map fun p => match p with | .inl i => PyData.int i | .inr x => PyData.str x)
  | [] => by simp
  | k :: ks => by
    rw [List.map_cons, List.mapM_cons, kW_data n st ks]
    cases k <;> simp [kW, toD]
theorem zip_fst {α β : Type} : ∀ {a : List α} {b : List β}, a.length = b.length → (a.zip b).map (·.1) = a
  | [], [], _ => rfl
  | a :: r, b :: t, h => by simp [zip_fst (a := r) (b := t) (by simpa using h)]
theorem zip_snd {α β : Type} : ∀ {a : List α} {b : List β}, a.length = b.length → (a.zip b).map (·.2) = b
  | [], [], _ => rfl
  | a :: r, b :: t, h => by simp [zip_snd (a := r) (b := t) (by simpa using h)]
theorem mapM_len {α β : Type} {f : α → Option β} : ∀ {l : List α} {r : List β}, l.mapM f = some r → l.length = r.length
  | [], r, h => by simp at h; subst h; rfl
  | a :: l, r, h => by
    rw [List.mapM_cons] at h
    simp only [Option.pure_def, Option.bind_eq_bind, Option.bind_eq_some_iff, Option.some.injEq] at h
    obtain ⟨d, _, es, h2, rfl⟩ := h
    simp [mapM_len h2]
mutual
theorem toD_reads (I : Inv X pins σ H s) (hK : G.K = X.K) (hs : SysM X.base) (sr : SR G H μ st) : ∀ (n : Nat) {w : W} {d : PyData} {v : V} {u : Value}, toD n st w = some d → Rep G H μ w v → RelV v u → ∃ as, Reads s.heap u d as ∧ sysModules ∉ as
  | 0, _, _, _, _, h, _, _ => by simp [toD] at h
  | n + 1, .non, _, _, _, h, r, q => by simp [toD] at h; subst h; rw [r.non_inv] at q; cases q; exact ⟨_, .none, by simp⟩
  | n + 1, .bl _, _, _, _, h, r, q => by simp [toD] at h; subst h; rw [r.bl_inv] at q; cases q; exact ⟨_, .bool _, by simp⟩
  | n + 1, .int _, _, _, _, h, r, q => by simp [toD] at h; subst h; rw [r.int_inv] at q; obtain ⟨t, rfl⟩ := q; exact ⟨_, .int _ _, by simp⟩
  | n + 1, .str _, _, _, _, h, r, q => by simp [toD] at h; subst h; rw [r.str_inv] at q; obtain ⟨t, rfl⟩ := q; exact ⟨_, .str _ _, by simp⟩
  | n + 1, .tup ws, d, v, u, h, r, q => by
    simp only [toD, Option.map_eq_some_iff] at h
    obtain ⟨ds, h, rfl⟩ := h
    obtain ⟨a, vs, rfl, hq, rs⟩ := r.tup_inv
    rw [hK] at hq
    obtain ⟨its, rv, ⟨o, ho, hc, m, hd⟩, _⟩ := I.tuple hq
    cases q
    obtain ⟨as, ra, na⟩ := toDs_reads I hK hs sr n h rs rv
    exact ⟨as, Reads.tuple ho hc hd (by simpa using ra), na⟩
  | n + 1, .frl ws, d, v, u, h, r, q => by
    simp only [toD, Option.map_eq_some_iff] at h
    obtain ⟨ds, h, rfl⟩ := h
    obtain ⟨a, vs, rfl, hq, rs⟩ := r.frl_inv
    have na : a ≠ sysModules := by
      simp only [Rep] at r
      obtain ⟨a', vs', e, hq', _⟩ := r
      cases e
      rcases hq' with ⟨o, q⟩ | q
      · exact not_sys_trk I hs q
      · exact not_sys_kl I hs (hK ▸ q)
    rw [hK] at hq
    obtain ⟨its, rv, ⟨o, m, ho, hc, _, hd⟩, _⟩ := I.list hq
    cases q
    obtain ⟨as, ra, nas⟩ := toDs_reads I hK hs sr n h rs rv
    exact ⟨a :: as, Reads.list ho hc hd (by simpa using ra), by simp [nas]; exact fun e => na e.symm⟩
  | n + 1, .loc l, d, v, u, h, r, q => by
    simp only [toD] at h
    split at h
    · rename_i xs e
      simp only [Option.map_eq_some_iff] at h
      obtain ⟨ds, h, rfl⟩ := h
      obtain ⟨a, vs, rfl, _, hq, rs⟩ := Rep.lst sr r e
      obtain ⟨its, rv, ⟨o, m, ho, hc, _, hd⟩, _⟩ := I.list (SqL.of hq)
      cases q
      obtain ⟨as, ra, nas⟩ := toDs_reads I hK hs sr n h rs rv
      exact ⟨a :: as, Reads.list ho hc hd (by simpa using ra), by simp [nas]; exact fun e => not_sys_trk I hs hq e.symm⟩
    · rename_i kvs e
      split at h
      · rename_i ks vs e1 e2
        cases h
        obtain ⟨a, rfl, hm⟩ := r.loc_inv
        obtain ⟨kv, hq, ek, rs⟩ := sr.ob _ a _ hm e
        obtain ⟨_, _, vv, hv, o, es, ep, ho, hx, hd, _, hp, _⟩ := I.hok a _ hq
        obtain ⟨s1, s2⟩ := kv_split hv
        obtain ⟨as, ra, nas⟩ := toDs_reads I hK hs sr n e2 rs s2
        obtain ⟨bs, rb, rfl⟩ := keys_read (h := s.heap) hp
        cases q
        have hk : ks = (vv.map fun p => match p.1 with | .inl i => PyData.int i | .inr x => PyData.str x) := by
          have e3 : kvs.map (·.1) = (vv.map (·.1)).map kW := by rw [ek, ← s1, List.map_map]; rfl
          cases n with
          | zero =>
            cases kvs with
            | nil =>
              simp at e1; subst e1
              simp at e3
              subst e3
              rfl
            | cons _ _ => simp [toD, List.mapM_cons] at e1
          | succ n =>
            rw [e3, kW_data n st] at e1
            cases e1
            rw [List.map_map]; rfl
        have hl : ks.length = vs.length := by
          rw [← mapM_len e1, ← mapM_len e2]; simp
        refine ⟨a :: [] ++ as, Reads.dict ho hx.1 hd (as := []) (bs := as) ?_ ?_, ?_⟩
        · rw [zip_fst hl, hk]; exact rb
        · rw [zip_snd hl, pairs_vals hp]; exact ra
        · simp [nas]; exact fun e => not_sys_trk I hs hq e.symm
      · cases h
    · cases h
  | n + 1, .glb _, _, _, _, h, _, _ => by simp [toD] at h
  | n + 1, .frd _ _, _, _, _, h, _, _ => by simp [toD] at h
theorem toDs_reads (I : Inv X pins σ H s) (hK : G.K = X.K) (hs : SysM X.base) (sr : SR G H μ st) : ∀ (n : Nat) {ws : List W} {ds : List PyData} {vs : List V} {us : List Value}, ws.mapM (toD n st) = some ds → Reps G H μ ws vs → Vals vs us → ∃ as, ReadsAll s.heap us ds as ∧ sysModules ∉ as
  | n, [], ds, vs, us, h, r, q => by
    simp at h; subst h
    rw [r.nil_inv] at q; cases q
    exact ⟨_, .nil, by simp⟩
  | n, w :: ws, ds, vs, us, h, r, q => by
    rw [List.mapM_cons] at h
    simp only [Option.pure_def, Option.bind_eq_bind, Option.bind_eq_some_iff, Option.some.injEq] at h
    obtain ⟨d, h1, es, h2, rfl⟩ := h
    simp only [Reps] at r
    obtain ⟨v, vr, rfl, r1, r2⟩ := r
    cases q with
    | cons q1 q2 =>
      obtain ⟨as, ra, na⟩ := toD_reads I hK hs sr n h1 r1 q1
      obtain ⟨bs, rb, nb⟩ := toDs_reads I hK hs sr n h2 r2 q2
      exact ⟨as ++ bs, .cons ra rb, by simp [na, nb]⟩
end
end

/-! ### repr -/
def rRepr (G : Gs) : List V → Hp → VK → Prop := fun xs H Q => ∃ (μ : List Addr) (st : Sto) (w : W) (x : V) (d : PyData), xs = [x] ∧ SR G H μ st ∧ Rep G H μ w x ∧ dat st w = some d ∧ d.showable = true ∧ d.shown.length ≤ SZ ∧ d.depth ≤ 60 ∧ Q (.str d.shown) H
theorem call_reprD {X : Cx} (hK : G.K = X.K) (hs : SysM X.base) (hg : X.A.guards = some []) (hu : X.A.units + 64 < cLine) : CallR X (.builtin "repr") (rRepr G) := by
  intro pins s σ H xs us Q I r h
  obtain ⟨μ, st, w, x, d, rfl, sr, rw_, hd, h1, h2, h3, q⟩ := h
  obtain ⟨u, rfl, ru⟩ := vals1 r
  obtain ⟨as, ra, na⟩ := toD_reads I hK hs sr DEEP hd rw_ ru
  have fin : ∀ (t : Tok) (s' : Shared), Inv X pins σ H s' → EP X pins σ Q (.str d.shown t) s' := fun t s' I' => ⟨.str d.shown, H, I', ⟨t, rfl⟩, q⟩
  cases ra with
  | none => exact PySem.P.repr_of_none (by simpa [PyData.shown] using fin _ _ (I.tok _))
  | bool b => exact PySem.P.repr_of_bool (by simpa [PyData.shown] using fin _ _ (I.tok _))
  | int i t => exact PySem.P.repr_of_int (by simpa [PyData.showable] using h1) (by simpa [PyData.shown] using fin _ _ (I.tok _))
  | str y t => exact PySem.P.repr_of_str (by simpa [PyData.shown] using fin _ _ (I.tok _)) (by simpa [PyData.shown] using SZ_le h2)
  | list e1 e2 e3 e4 => exact repr_of_reads' (.list e1 e2 e3 e4) h1 (fun _ => na) hg (by omega) (fun _ _ e => e) (fun h' t tk hk => fin _ _ (I.kept (t' := tk) hk)) (SZ_le h2)
  | tuple e1 e2 e3 e4 => exact repr_of_reads' (.tuple e1 e2 e3 e4) h1 (fun _ => na) hg (by omega) (fun _ _ e => e) (fun h' t tk hk => fin _ _ (I.kept (t' := tk) hk)) (SZ_le h2)
  | dict e1 e2 e3 e4 e5 => exact repr_of_reads' (.dict e1 e2 e3 e4 e5) h1 (fun _ => na) hg (by omega) (fun _ _ e => e) (fun h' t tk hk => fin _ _ (I.kept (t' := tk) hk)) (SZ_le h2)

/-! ### built-in functions -/
def CallIs (G : Gs) (r : List V → Hp → VK → Prop) (f : List W → M W) : Prop := ∀ (H : Hp) (μ : List Addr) (st : Sto) (vs : List V) (ws : List W) (X : Value → Option Addr → Hp → Prop) (Q : VK), SR G H μ st → Reps G H μ ws vs →
  Post G X H μ (f ws st) Q → r vs H Q
theorem Reps.one {w : W} {vs : List V} (r : Reps G H μ [w] vs) : ∃ v, vs = [v] ∧ Rep G H μ w v := by
  simp only [Reps] at r
  obtain ⟨v, vr, rfl, h, rfl⟩ := r
  exact ⟨v, rfl, h⟩
theorem Reps.two {w u : W} {vs : List V} (r : Reps G H μ [w, u] vs) : ∃ v y, vs = [v, y] ∧ Rep G H μ w v ∧ Rep G H μ u y := by
  simp only [Reps] at r
  obtain ⟨v, vr, rfl, h, y, yr, rfl, h2, rfl⟩ := r
  exact ⟨v, y, rfl, h, h2⟩
abbrev rLen (K : PySem.W.Frag) : List V → Hp → VK → Prop := fun xs H Q => (∃ x n, xs = [x] ∧ LenV K x H n ∧ Q (.int n) H) ∨ ∃ a kvs, xs = [V.ref a] ∧ H a = some (.dK kvs) ∧ Q (.int kvs.length) H
theorem is_len : CallIs G (rLen G.K) (blt .len) := by
  intro H μ st vs ws X Q sr r q
  match ws, q with
  | [w], q =>
    obtain ⟨v, rfl, r1⟩ := r.one
    simp only [blt] at q
    split at q
    · rename_i n e
      have fin : ∀ m : Nat, m = n → Q (.int m) H := fun m e => by subst e; exact q _ H μ .refl sr Rep.int_
      cases w <;> simp only [lenW, reduceCtorEq, Option.some.injEq] at e
      · split at e
        · rename_i h; cases e
          exact .inl ⟨v, _, rfl, by rw [r1.str_inv]; exact ⟨SZ_le h, rfl⟩, fin _ rfl⟩
        · cases e
      · obtain ⟨a, vs, rfl, hq, rs⟩ := r1.tup_inv
        exact .inl ⟨_, _, rfl, .inr ⟨vs, hq, rfl⟩, fin _ (by rw [← rs.length]; exact e)⟩
      · obtain ⟨a, vs, rfl, hq, rs⟩ := r1.frl_inv
        exact .inl ⟨_, _, rfl, .inl ⟨vs, hq, rfl⟩, fin _ (by rw [← rs.length]; exact e)⟩
      · split at e
        · rename_i xs h
          cases e
          obtain ⟨a, vs, rfl, _, hq, rs⟩ := Rep.lst sr r1 h
          exact .inl ⟨_, _, rfl, .inl ⟨vs, SqL.of hq, rfl⟩, fin _ (by rw [← rs.length])⟩
        · rename_i kvs h
          cases e
          obtain ⟨a, rfl, hm⟩ := r1.loc_inv
          obtain ⟨kv, e1, e2, _⟩ := sr.ob _ a _ hm h
          refine .inr ⟨a, kv, rfl, e1, fin _ ?_⟩
          have := congrArg List.length e2
          simpa using this.symm
        · cases e
    · exact q.elim
  | [], q => exact q.elim
  | _ :: _ :: _, q => exact q.elim
theorem is_abs : CallIs G (fun xs H Q => ∃ i, xs = [.int i] ∧ Q (.int (if i < 0 then -i else i)) H) (blt .abs) := by
  intro H μ st vs ws X Q sr r q
  match ws, q with
  | [.int i], q =>
    obtain ⟨v, rfl, r1⟩ := r.one
    exact ⟨i, by rw [r1.int_inv], q _ H μ .refl sr Rep.int_⟩
theorem is_max : CallIs G (fun xs H Q => ∃ i j, xs = [.int i, .int j] ∧ Q (.int (if j > i then j else i)) H) (blt .max) := by
  intro H μ st vs ws X Q sr r q
  match ws, q with
  | [.int i, .int j], q =>
    obtain ⟨v, y, rfl, r1, r2⟩ := r.two
    exact ⟨i, j, by rw [r1.int_inv, r2.int_inv], q _ H μ .refl sr Rep.int_⟩
theorem is_min : CallIs G (fun xs H Q => ∃ i j, xs = [.int i, .int j] ∧ Q (.int (if j < i then j else i)) H) (blt .min) := by
  intro H μ st vs ws X Q sr r q
  match ws, q with
  | [.int i, .int j], q =>
    obtain ⟨v, y, rfl, r1, r2⟩ := r.two
    exact ⟨i, j, by rw [r1.int_inv, r2.int_inv], q _ H μ .refl sr Rep.int_⟩
theorem is_divmod : CallIs G (fun xs H Q => ∃ i j, xs = [.int i, .int j] ∧ CDivP i j ∧ MiR.NewT H [.int (i / j), .int (i % j)] Q) (blt .divmod) := by
  intro H μ st vs ws X Q sr r q
  match ws, q with
  | [.int i, .int j], q =>
    obtain ⟨v, y, rfl, r1, r2⟩ := r.two
    simp only [blt] at q
    split at q
    · rename_i h
      refine ⟨i, j, by rw [r1.int_inv, r2.int_inv], ⟨h.1, PyProof.noPylong_of_log2 h.2⟩, fun p o hp ho => ?_⟩
      obtain ⟨g, s1, r1⟩ := Rep.tup_new (ws := [.int (i / j), .int (i % j)]) sr hp ho (Reps.nil_.cons_ Rep.int_ |>.cons_ Rep.int_)
      exact q _ _ μ g s1 r1
    · exact q.elim
theorem Reps.bools : ∀ {ws : List W} {vs : List V}, Reps G H μ ws vs → ws.all (fun w => match w with | .bl _ => true | _ => false) = true → vs = (ws.map fun w => decide (w = .bl true)).map V.bl
  | [], _, r, _ => by rw [r.nil_inv]; rfl
  | w :: ws, _, r, h => by
    simp only [Reps] at r
    obtain ⟨v, vr, rfl, r1, r2⟩ := r
    simp only [List.all_cons, Bool.and_eq_true] at h
    rw [List.map_cons, List.map_cons, ← Reps.bools r2 h.2]
    cases w <;> simp at h
    rw [r1.bl_inv]; simp
theorem is_all : CallIs G (rAll G.K) (blt .all) := by
  intro H μ st vs ws X Q sr r q
  match ws, q with
  | [w], q =>
    obtain ⟨v, rfl, r1⟩ := r.one
    simp only [blt] at q
    split at q
    · rename_i xs e
      split at q
      · rename_i hb
        obtain ⟨a, vs, rfl, hq, rs⟩ := isLst_of sr r1 e
        have e1 := rs.bools hb
        subst e1
        refine ⟨a, _, rfl, hq, q _ H μ .refl sr ?_⟩
        simp only [List.all_map, Function.comp_def, id]; exact Rep.bl_
      · exact q.elim
    · exact q.elim
  | [], q => exact q.elim
  | _ :: _ :: _, q => exact q.elim
theorem is_any : CallIs G (rAny G.K) (blt .any) := by
  intro H μ st vs ws X Q sr r q
  match ws, q with
  | [w], q =>
    obtain ⟨v, rfl, r1⟩ := r.one
    simp only [blt] at q
    split at q
    · rename_i xs e
      split at q
      · rename_i hb
        obtain ⟨a, vs, rfl, hq, rs⟩ := isLst_of sr r1 e
        have e1 := rs.bools hb
        subst e1
        refine ⟨a, _, rfl, hq, q _ H μ .refl sr ?_⟩
        simp only [List.any_map, Function.comp_def, id]; exact Rep.bl_
      · exact q.elim
    · exact q.elim
  | [], q => exact q.elim
  | _ :: _ :: _, q => exact q.elim
theorem is_repr : CallIs G (rRepr G) (blt .repr) := by
  intro H μ st vs ws X Q sr r q
  match ws, q with
  | [w], q =>
    obtain ⟨v, rfl, r1⟩ := r.one
    simp only [blt] at q
    split at q
    · rename_i d e
      split at q
      · rename_i hb
        simp only [Bool.and_eq_true, decide_eq_true_eq] at hb
        exact ⟨μ, st, w, v, d, rfl, sr, r1, e, hb.1.1, hb.1.2, hb.2, q _ H μ .refl sr Rep.str_⟩
      · exact q.elim
    · exact q.elim
  | [], q => exact q.elim
  | _ :: _ :: _, q => exact q.elim
theorem is_tuple : CallIs G (fun xs H Q => ∃ p ys, xs = [.ref p] ∧ ((SqL G.K H p ys ∧ MiR.NewT H ys Q) ∨ (SqT G.K H p ys ∧ Q (.ref p) H))) (blt .tuple) := by
  intro H μ st vs ws X Q sr r q
  match ws, q with
  | [w], q =>
    obtain ⟨v, rfl, r1⟩ := r.one
    by_cases ht : ∃ xs, w = .tup xs
    · obtain ⟨xs, rfl⟩ := ht
      obtain ⟨a, vs, rfl, hq, rs⟩ := r1.tup_inv
      exact ⟨a, vs, rfl, .inr ⟨hq, q _ H μ .refl sr r1⟩⟩
    · have q : Post G X H μ (match isLst st w with | some ws => .ok (.tup ws) st | none => .stuck) Q := by cases w <;> first | exact q | exact absurd ⟨_, rfl⟩ ht
      split at q
      · rename_i xs e
        obtain ⟨a, vs, rfl, hq, rs⟩ := isLst_of sr r1 e
        refine ⟨a, vs, rfl, .inl ⟨hq, fun p o hp ho => ?_⟩⟩
        obtain ⟨g, s1, r1⟩ := Rep.tup_new sr hp ho rs
        exact q _ _ μ g s1 r1
      · exact q.elim
  | [], q => exact q.elim
  | w :: _ :: _, q => cases w <;> exact False.elim q
theorem is_list : CallIs G (fun xs H Q => (∃ p ys, xs = [.ref p] ∧ (SqL G.K H p ys ∨ SqT G.K H p ys) ∧ ∀ l, H l = none → Q (.ref l) (upd H l (.lst ys))) ∨ rListD xs H Q) (blt .list) := by
  intro H μ st vs ws X Q sr r q
  match ws, q with
  | [w], q =>
    obtain ⟨v, rfl, r1⟩ := r.one
    simp only [blt] at q
    split at q
    · rename_i xs e
      obtain ⟨a, vs, rfl, hq, rs⟩ := isSeq_of sr r1 e
      refine .inl ⟨a, vs, rfl, hq, fun p hp => ?_⟩
      obtain ⟨g, s1, r1⟩ := sr.lay hp rs
      exact q _ _ _ g s1 r1
    · split at q
      · rename_i kvs e
        cases w <;> simp only [dctAt, reduceCtorEq] at e
        split at e
        · rename_i kvs' e0
          cases e
          obtain ⟨a, kv, rfl, _, h1, h2, h3⟩ := Rep.dct sr r1 e0
          refine .inr ⟨a, kv, rfl, h1, fun p hp => ?_⟩
          have rk : Reps G H μ (kvs.map (·.1)) (kv.map fun p => kV p.1) := by
            rw [h2]
            clear h1 h2 h3
            induction kv with
            | nil => exact Reps.nil_
            | cons p kv ih =>
              obtain ⟨k, v⟩ := p
              refine ih.cons_ ?_
              cases k
              · exact Rep.int_
              · exact Rep.str_
          obtain ⟨g, s1, r1⟩ := sr.lay hp rk
          exact q _ _ _ g s1 r1
        · cases e
      · exact q.elim
  | [], q => exact q.elim
  | _ :: _ :: _, q => exact q.elim
theorem is_str : CallIs G (fun xs H Q => ∃ i, xs = [.int i] ∧ i.natAbs.log2 < 1920 ∧ Q (.str (toString i)) H) (blt .str) := by
  intro H μ st vs ws X Q sr r q
  match ws, q with
  | [.int i], q =>
    obtain ⟨v, rfl, r1⟩ := r.one
    simp only [blt] at q
    split at q
    · rename_i h
      exact ⟨i, by rw [r1.int_inv], h, q _ H μ .refl sr Rep.str_⟩
    · exact q.elim
theorem is_int : CallIs G (fun xs H Q => (∃ a n, xs = [.str a] ∧ PySem.intText? a = some n ∧ a.length ≤ 640 ∧ Q (.int n) H) ∨ ((∃ i, xs = [.int i] ∧ Q (.int i) H) ∨ ∃ k, xs = [.bl k] ∧ Q (.int (if k then 1 else 0)) H)) (blt .int) := by
  intro H μ st vs ws X Q sr r q
  match ws, q with
  | [.str i], q =>
    obtain ⟨v, rfl, r1⟩ := r.one
    by_cases h : i.length ≤ 640
    · simp only [blt, if_pos h] at q
      cases e : PySem.intText? i with
      | none => rw [e] at q; exact q.elim
      | some n => rw [e] at q; exact .inl ⟨i, n, by rw [r1.str_inv], e, h, q _ H μ .refl sr Rep.int_⟩
    · simp only [blt, if_neg h] at q
      exact q.elim
  | [.bl b], q =>
    obtain ⟨v, rfl, r1⟩ := r.one
    simp only [blt] at q
    exact .inr (.inr ⟨b, by rw [r1.bl_inv], q _ H μ .refl sr Rep.int_⟩)
/-! ### dicts that grow -/
/-- pairs, as the hand layer has them -/
def DRel (G : Gs) (H : Hp) (μ : List Addr) (kvs : List (W × W)) (kv : List (Key × V)) : Prop := kvs.map (·.1) = kv.map (fun p => kW p.1) ∧ Reps G H μ (kvs.map (·.2)) (kv.map (·.2))
theorem DRel.nil_ {H : Hp} {μ : List Addr} : DRel G H μ [] [] := ⟨rfl, Reps.nil_⟩
theorem DRel.cons_ {H : Hp} {μ : List Addr} {kvs : List (W × W)} {kv : List (Key × V)} {k : Key} {w : W} {v : V} (r : Rep G H μ w v) (h : DRel G H μ kvs kv) : DRel G H μ ((kW k, w) :: kvs) ((k, v) :: kv) :=
  ⟨by simp only [List.map_cons, h.1], by simp only [List.map_cons]; exact h.2.cons_ r⟩
theorem DRel.inv {H : Hp} {μ : List Addr} {a : W × W} {kvs : List (W × W)} {kv : List (Key × V)} (h : DRel G H μ (a :: kvs) kv) : ∃ k v r, kv = (k, v) :: r ∧ a.1 = kW k ∧ Rep G H μ a.2 v ∧ DRel G H μ kvs r := by
  match kv, h with
  | [], h => have := h.1; simp at this
  | (k, v) :: r, h =>
    obtain ⟨h1, h2⟩ := h
    simp only [List.map_cons, List.cons.injEq] at h1
    obtain ⟨r1, r2⟩ := Reps.cons_inv h2
    exact ⟨k, v, r, rfl, h1.1, r1, h1.2, r2⟩
theorem DRel.nil_inv {H : Hp} {μ : List Addr} {kv : List (Key × V)} (h : DRel G H μ [] kv) : kv = [] := by
  have := h.1
  simpa using this.symm
theorem DRel.length {H : Hp} {μ : List Addr} {kvs : List (W × W)} {kv : List (Key × V)} (h : DRel G H μ kvs kv) : kvs.length = kv.length := by
  have := congrArg List.length h.1
  simpa using this
theorem DRel.any_ {H : Hp} {μ : List Addr} {k : Key} : ∀ {kvs : List (W × W)} {kv : List (Key × V)}, DRel G H μ kvs kv → (kvs.any fun p => decide (p.1 = kW k)) = kv.any fun p => decide (p.1 = k)
  | [], kv, h => by rw [h.nil_inv]; rfl
  | (a, w) :: kvs, kv, h => by
    obtain ⟨b, v, r, rfl, e, r1, h2⟩ := h.inv
    dsimp only at e
    subst e
    simp only [List.any_cons, h2.any_]
    congr 1
    by_cases z : b = k
    · subst z; simp
    · rw [decide_eq_false z, decide_eq_false fun q => z (kW_eq.mp q)]
theorem DRel.app {H : Hp} {μ : List Addr} {kvs ms : List (W × W)} {kv mv : List (Key × V)} (h : DRel G H μ kvs kv) (h' : DRel G H μ ms mv) : DRel G H μ (kvs ++ ms) (kv ++ mv) :=
  ⟨by simp only [List.map_append, h.1, h'.1], by simp only [List.map_append]; exact h.2.append_ h'.2⟩
theorem DRel.subst_ {H : Hp} {μ : List Addr} {k : Key} {w : W} {v : V} (r : Rep G H μ w v) : ∀ {kvs : List (W × W)} {kv : List (Key × V)}, DRel G H μ kvs kv →
    DRel G H μ (kvs.map fun p => if p.1 = kW k then (p.1, w) else p) (kv.map fun p => if p.1 = k then (p.1, v) else p)
  | [], kv, h => by rw [h.nil_inv]; exact .nil_
  | (a, u) :: kvs, kv, h => by
    obtain ⟨b, x, q, rfl, e, r1, h2⟩ := h.inv
    dsimp only at e r1
    subst e
    simp only [List.map_cons]
    by_cases z : b = k
    · subst z
      rw [if_pos rfl, if_pos rfl]
      exact (DRel.subst_ r h2).cons_ r
    · rw [if_neg z, if_neg fun q => z (kW_eq.mp q)]
      exact (DRel.subst_ r h2).cons_ r1
theorem DRel.put {H : Hp} {μ : List Addr} {kvs : List (W × W)} {kv : List (Key × V)} {k : Key} {w : W} {v : V} (h : DRel G H μ kvs kv) (r : Rep G H μ w v) : DRel G H μ (putW kvs (kW k) w) (putK kv k v) := by
  unfold putW putK
  rw [h.any_]
  by_cases z : (kv.any fun p => decide (p.1 = k)) = true
  · rw [if_pos z, if_pos z]; exact h.subst_ r
  · rw [if_neg z, if_neg z]; exact h.app (DRel.nil_.cons_ r)
theorem DRel.merge {H : Hp} {μ : List Addr} : ∀ {ms kvs : List (W × W)} {mv kv : List (Key × V)}, DRel G H μ ms mv → DRel G H μ kvs kv → DRel G H μ (mergeW kvs ms) (mergeK kv mv)
  | [], kvs, mv, kv, hm, h => by rw [hm.nil_inv]; exact h
  | (a, w) :: ms, kvs, mv, kv, hm, h => by
    obtain ⟨b, v, r, rfl, e, r1, h2⟩ := hm.inv
    dsimp only at e r1
    subst e
    show DRel G H μ (mergeW (putW kvs (kW b) w) ms) (mergeK (putK kv b v) r)
    exact DRel.merge h2 (h.put r1)
theorem DRel.grow {H H' : Hp} {μ μ' : List Addr} {st : Sto} (s : SR G H μ st) (g : Grow H H' μ μ') {kvs : List (W × W)} {kv : List (Key × V)} (h : DRel G H μ kvs kv) : DRel G H' μ' kvs kv := ⟨h.1, h.2.grow s g⟩
theorem DRel.more {H : Hp} {μ : List Addr} (r : List Addr) {kvs : List (W × W)} {kv : List (Key × V)} (h : DRel G H μ kvs kv) : DRel G H (μ ++ r) kvs kv := ⟨h.1, h.2.more r⟩
/-- a new dict -/
theorem SR.layD {H : Hp} {μ : List Addr} {st : Sto} (s : SR G H μ st) {p : Addr} {kv : List (Key × V)} {kvs : List (W × W)} (h : H p = none) (r : DRel G H μ kvs kv) :
    Grow H (upd H p (.dK kv)) μ (μ ++ [p]) ∧ SR G (upd H p (.dK kv)) (μ ++ [p]) (st ++ [.dct kvs]) ∧ Rep G (upd H p (.dK kv)) (μ ++ [p]) (.loc st.length) (.ref p) := by
  obtain ⟨g, s1⟩ := s.temp (o := .dK kv) h
  refine ⟨⟨⟨[p], rfl, by simpa using h⟩, g.keep, g.stay⟩, s1.adopt (s.fresh h) ⟨kv, upd_same, r.1, (r.2.grow s g).more [p]⟩, ?_⟩
  simp only [Rep]
  exact ⟨p, rfl, by rw [← s.len]; simp⟩
theorem pairs_rep {H : Hp} {μ : List Addr} : ∀ {ws : List W} {vs : List V} {kvs : List (W × W)}, Reps G H μ ws vs → pairsOf ws = some kvs → kvs.all (fun p => isKey p.1) = true →
    ∃ (ps : List Addr) (kv : List (Key × V)), vs = ps.map V.ref ∧ Paired (fun p kv => SqT G.K H p [kV kv.1, kv.2]) ps kv ∧ DRel G H μ kvs kv
  | [], vs, kvs, r, h, _ => by
    simp [pairsOf] at h; subst h
    rw [r.nil_inv]
    exact ⟨[], [], rfl, .nil, .nil_⟩
  | w :: ws, vs, kvs, r, h, ha => by
    simp only [Reps] at r
    obtain ⟨v, vr, rfl, r1, r2⟩ := r
    unfold pairsOf at h
    split at h
    · rename_i heq; cases heq
    · rename_i k x ws' heq
      cases heq
      simp only [Option.map_eq_some_iff] at h
      obtain ⟨kvs', h1, rfl⟩ := h
      rw [List.all_cons, Bool.and_eq_true] at ha
      obtain ⟨ps, kv, rfl, hp, hd⟩ := pairs_rep r2 h1 ha.2
      obtain ⟨k', rfl⟩ := keyW ha.1
      obtain ⟨a, us, rfl, hs, rs⟩ := r1.tup_inv
      obtain ⟨y, z, rfl, q1, q2⟩ := (show ∃ y z, us = [y, z] ∧ Rep G H μ (kW k') y ∧ Rep G H μ x z by
        obtain ⟨y, us, rfl, q1, q⟩ := (by simpa only [Reps] using rs : ∃ v r, us = v :: r ∧ Rep G H μ (kW k') v ∧ ∃ v' r', r = v' :: r' ∧ Rep G H μ x v' ∧ r' = [])
        obtain ⟨z, r', rfl, q2, rfl⟩ := q
        exact ⟨y, z, rfl, q1, q2⟩)
      rw [kW_rep q1] at hs
      exact ⟨a :: ps, (k', z) :: kv, rfl, .cons hs hp, hd.cons_ q2⟩
    · cases h
theorem is_dict : CallIs G (fun xs H Q => (∃ (a : Addr) (kvs : List (Key × V)), xs = [.ref a] ∧ Rd H a (.dK kvs) ∧ ∀ p, H p = none → Q (.ref p) (upd H p (.dK kvs))) ∨
    (∃ (a : Addr) (ps : List Addr) (kvs : List (Key × V)), xs = [.ref a] ∧ SqL G.K H a (ps.map V.ref) ∧ Paired (fun p kv => SqT G.K H p [kV kv.1, kv.2]) ps kvs ∧ ∀ p, H p = none → Q (.ref p) (upd H p (.dK (mergeK [] kvs))))) (blt .dict) := by
  intro H μ st vs ws X Q sr r q
  match ws, q with
  | [w], q =>
    obtain ⟨v, rfl, r1⟩ := r.one
    simp only [blt] at q
    split at q
    · rename_i kvs e
      cases w <;> simp only [dctAt, reduceCtorEq] at e
      split at e
      · rename_i kvs' e0
        cases e
        obtain ⟨a, kv, rfl, _, h1, h2, h3⟩ := Rep.dct sr r1 e0
        refine .inl ⟨a, kv, rfl, .inl h1, fun p hp => ?_⟩
        obtain ⟨g, s1, r1⟩ := sr.layD hp ⟨h2, h3⟩
        exact q _ _ _ g s1 r1
      · cases e
    · split at q
      · rename_i xs e
        split at q
        · rename_i kvs e2
          split at q
          · rename_i hk
            obtain ⟨a, vs, rfl, hq, rs⟩ := isLst_of sr r1 e
            obtain ⟨ps, kv, rfl, hp, hd⟩ := pairs_rep rs e2 hk.1
            refine .inr ⟨a, ps, kv, rfl, hq, hp, fun p hn => ?_⟩
            obtain ⟨g, s1, r1⟩ := sr.layD hn (hd.merge .nil_)
            exact q _ _ _ g s1 r1
          · exact q.elim
        · exact q.elim
      · exact q.elim
  | [], q => exact q.elim
  | _ :: _ :: _, q => exact q.elim
end Mi

/-! Mi7: from the program's text to the small machine's. -/
namespace Mi
open PySem L2

/-- how a def may be called: so many by place, these by name; the defaults' values; which of all of them each parameter takes -/
structure Shape where
  np : Nat
  ks : List Str
  ds : List W
  ord : List Nat
/-- a class: its number, its __init__'s def and the ways to call it (the instance counts), its fields, its methods -/
structure CD where
  c : Nat
  ini : Nat
  shapes : List Shape
  flds : List Str
  mths : List (Str × Nat × List Shape)
/-- what a global name stands for -/
inductive GE where
  | cst (w : W)
  | fn (i : Nat) (shapes : List Shape)
  | blt
  | cls (d : CD)
/-- where a text stands: the def's names by slot, the block's scope, the module's names -/
structure CC where
  N : List Str
  sc : Scope
  gt : List (Str × GE)

def okName (x : Str) : Bool := !(x == ("__debug__" : Str)) && !(x == ("__classdict__" : Str)) && !(x == ("__name__" : Str))
def isVis : Option NameKind → Bool
  | some .local => true
  | some .cell => true
  | some .free => true
  | _ => false
def isLoc : Option NameKind → Bool
  | some .local => true
  | some .cell => true
  | _ => false
def isGlb : Option NameKind → Bool
  | some .globalImplicit => true
  | _ => false
def CC.vis (C : CC) (x : Str) : Option Nat := if okName x && isVis (C.sc.names.lookup x) then C.N.findIdx? (· == x) else none
def CC.loc (C : CC) (x : Str) : Option Nat := if okName x && isLoc (C.sc.names.lookup x) then C.N.findIdx? (· == x) else none
def CC.glb (C : CC) (x : Str) : Option GE := if okName x && isGlb (C.sc.names.lookup x) then C.gt.lookup x else none
def CC.isBlt (C : CC) (x : Str) : Bool := match C.glb x with
  | some .blt => true
  | _ => false

def bopOf : Operator → Option Bop
  | .Add => some .add
  | .Sub => some .sub
  | .Mult => some .mul
  | .Mod => some .mod
  | .FloorDiv => some .fdiv
  | .Pow => some .pow
  | _ => none
def copOf : CmpOp → Option Cop
  | .Lt => some .lt
  | .LtE => some .le
  | .Gt => some .gt
  | .GtE => some .ge
  | .Eq => some .eq
  | .NotEq => some .ne
  | .In => some .isin
  | .NotIn => some .notin
  | .Is => some .is
  | .IsNot => some .isnot
def constOf : Const → Option W
  | .none => some .non
  | .bool b => some (.bl b)
  | .int i => some (.int i)
  | .str x => some (.str x)
  | _ => none
def bltOf (x : Str) : Option Blt :=
  if x = "len" then some .len else if x = "abs" then some .abs else if x = "max" then some .max else if x = "min" then some .min else
  if x = "divmod" then some .divmod else if x = "all" then some .all else if x = "any" then some .any else if x = "repr" then some .repr else none
def bltTy (x : Str) : Option Blt :=
  if x = "tuple" then some .tuple else if x = "list" then some .list else if x = "str" then some .str else if x = "int" then some .int else if x = "dict" then some .dict else none
def tyOf (x : Str) : Option Ty :=
  if x = "int" then some .int else if x = "bool" then some .bool else if x = "str" then some .str else if x = "tuple" then some .tuple else
  if x = "list" then some .list else if x = "dict" then some .dict else none
def metOf (x : Str) (n : Nat) : Option Met :=
  if x = "join" ∧ n = 1 then some .join else if x = "append" ∧ n = 1 then some .append else if x = "pop" ∧ n = 0 then some .pop else
  if x = "pop" ∧ n = 1 then some .popi else if x = "count" ∧ n = 1 then some .count else if x = "reverse" ∧ n = 0 then some .rev else
  if x = "index" ∧ n = 1 then some .index else if x = "update" ∧ n = 1 then some .upd else none
/-- no call without arguments: attribute's base is plain -/
def plainBase : Expr → Bool
  | .Call _ _ _ _ => false
  | _ => true
def tnOf (C : CC) : Expr → Option Tn
  | .Name x _ => (C.loc x).map .nm
  | .Tuple es _ _ => (es.mapM fun (e : Expr) => match e with | .Name x _ => C.loc x | _ => none).map .tp
  | _ => none
def srcOf : E → Ik × List E
  | .it k es => (k, es)
  | e => (.val, [e])
def ownOf (N : List Str) (scope : Scope) : List (Str × Nat) := scope.names.filterMap fun p => if isLoc (some p.2) then (N.findIdx? (· == p.1)).map fun i => (p.1, i) else none
def tnIn (t : Tn) (l : List Nat) : Bool := match t with
  | .nm i => l.contains i
  | .tp is => is.all l.contains
def isIt : E → Bool
  | .it _ _ => true
  | _ => false

/-- can the target take what comes (zip: new pairs, two names) -/
def okTg : E → Expr → Bool
  | .it .zip _, .Tuple _ _ _ => true
  | .it .zip _, _ => false
  | _, _ => true
/-- the defs that can be called with so many by place, and nothing else -/
def plainFns (gt : List (Str × GE)) (n : Nat) : List Nat := gt.filterMap fun p => match p.2 with
  | .fn i shapes => if shapes.any fun sh => sh.np == n && sh.ks.isEmpty && sh.ds.isEmpty && (sh.ord == List.range n) then some i else none
  | _ => none
/-- set(a) -/
def setArg (C : CC) : List Expr → Option Expr
  | [.Call (.Name x _) [a] [] _] => if x = "set" ∧ C.isBlt x = true then some a else none
  | _ => none

/-- isinstance(a, T) -/
def isiArg (C : CC) : List Expr → Option (Expr × Ty)
  | [a, .Name t _] => (tyOf t).bind fun ty => if C.isBlt t = true then some (a, ty) else none
  | _ => none
def rngOf : List E → Option E
  | [y] => some (.it .rng1 [y])
  | [y, z] => some (.it .rng2 [y, z])
  | _ => none
def zipOf : List E → Option E
  | [y, z] => some (.it .zip [y, z])
  | _ => none
def bltAny (x : Str) : Option Blt := match bltOf x with
  | some b => some b
  | none => bltTy x
/-- a call of what a name of the block holds -/
def callvI (C : CC) (x : Str) (as : List Expr) (ks : List Keyword) : Option Nat := if ks.isEmpty = true ∧ as.isEmpty = false then C.vis x else none

/-- a way to call that fits -/
def pickSh (l : List Shape) (np : Nat) (ks : List Str) : Option Shape := l.find? fun sh => sh.np == np && sh.ks == ks
/-- the classes that have the field -/
def fldCs (gt : List (Str × GE)) (f : Str) : List Nat := gt.filterMap fun p => match p.2 with
  | .cls d => if d.flds.contains f then some d.c else none
  | _ => none
/-- the classes that have the method, and what it is -/
def mthTb (gt : List (Str × GE)) (m : Str) (np : Nat) (ks : List Str) : MTab := gt.filterMap fun p => match p.2 with
  | .cls d => (d.mths.lookup m).bind fun q => (pickSh q.2 np ks).map fun sh => (d.c, q.1, sh.ds, sh.ord)
  | _ => none
/-- range(e) -/
def rngArg (C : CC) : List Expr → Option Expr
  | [.Call (.Name x _) [a] [] _] => if x = "range" ∧ C.isBlt x = true then some a else none
  | _ => none

def comp : Nat → CC → Expr → Option E
  | 0, _, _ => none
  | n + 1, C, e => match e with
    | .Constant c _ _ => (constOf c).map .cst
    | .Name x _ => match C.vis x with
      | some i => some (.var i)
      | none => match C.glb x with
        | some (.cst w) => some (.cst w)
        | some (.fn i _) => some (.cst (.glb i))
        | _ => none
    | .Tuple es _ _ => (es.mapM (comp n C)).map .tup
    | .List es _ => (es.mapM (comp n C)).map .lst
    | .Dict keys values _ => (keys.mapM id).bind fun ks => if ks.length = values.length ∧ ks.length ≤ 15 then
        (ks.mapM (comp n C)).bind fun Ks => (values.mapM (comp n C)).map fun Vs => .dct ((Ks.zip Vs).flatMap fun p => [p.1, p.2]) else none
    | .BinOp a op b _ => (bopOf op).bind fun o => (comp n C a).bind fun x => (comp n C b).map fun y => .bin o x y
    | .UnaryOp .Not a _ => (comp n C a).map .not
    | .UnaryOp .USub a _ => (comp n C a).map .neg
    | .Compare a [op] [b] _ => (copOf op).bind fun o => (comp n C a).bind fun x => (comp n C b).map fun y => .cmp o x y
    | .Compare a [op, op'] [b, c] _ => (copOf op).bind fun o => (copOf op').bind fun o' => (comp n C a).bind fun x => (comp n C b).bind fun y => (comp n C c).map fun z => .cmp2 o o' x y z
    | .BoolOp .And es _ => (es.mapM (comp n C)).map .and
    | .BoolOp .Or es _ => (es.mapM (comp n C)).map .or
    | .IfExp c a b _ => (comp n C c).bind fun x => (comp n C a).bind fun y => (comp n C b).map fun z => .ite x y z
    | .Subscript a (.Slice lo hi none _) _ => (comp n C a).bind fun x => (match lo with | none => some [] | some l => (comp n C l).map fun y => [y]).bind fun l =>
        (match hi with | none => some [] | some h => (comp n C h).map fun y => [y]).map fun h => .slc x l h
    | .Subscript a b _ => (comp n C a).bind fun x => (comp n C b).map fun y => .idx x y
    | .Call (.Name x _) as ks _ => match C.glb x with
      | some (.fn i shapes) => (shapes.find? fun sh => sh.np == as.length && sh.ks == ks.filterMap (·.arg) && ks.all (fun k => k.arg.isSome)).bind fun sh =>
          (as.mapM (comp n C)).bind fun us => (ks.mapM fun k => comp n C k.value).map fun ws => .call i (us ++ ws) sh.ds sh.ord
      | some .blt => if ks.isEmpty = true then
          if x = "isinstance" then (isiArg C as).bind fun p => (comp n C p.1).map fun y => .isi y [p.2]
          else if x = "range" then (as.mapM (comp n C)).bind rngOf
          else if x = "zip" then (as.mapM (comp n C)).bind zipOf
          else if x = "reversed" then (rngArg C as).bind fun a => (comp n C a).map fun y => .it .rrng [y]
          else if x = "len" ∧ (setArg C as).isSome = true then (setArg C as).bind fun a => (comp n C a).map .lset
          else if as.isEmpty = true then none else (bltAny x).bind fun b => (as.mapM (comp n C)).map fun us => .blt b us
        else none
      | none => (callvI C x as ks).bind fun i => (as.mapM (comp n C)).map fun us => .callv i (plainFns C.gt us.length) us
      | some (.cls d) => if ks.all (fun k => k.arg.isSome) = true then (pickSh d.shapes (as.length + 1) (ks.filterMap (·.arg))).bind fun sh =>
          (as.mapM (comp n C)).bind fun us => (ks.mapM fun k => comp n C k.value).map fun ws => .mk d.c d.ini (us ++ ws) sh.ds sh.ord else none
      | _ => none
    | .Call (.Attribute o m apos) as ks pos => if plainBase o && apos.endLine == pos.line then
        match (if ks.isEmpty = true then metOf m as.length else none) with
        | some mm => (comp n C o).bind fun x => (as.mapM (comp n C)).map fun us => .met mm x us
        | none => if ks.all (fun k => k.arg.isSome) = true ∧ as.length + ks.length < 29 ∧ (mthTb C.gt m (as.length + 1) (ks.filterMap (·.arg))).isEmpty = false then
            (comp n C o).bind fun x => (as.mapM (comp n C)).bind fun us => (ks.mapM fun k => comp n C k.value).map fun ws => .mth x m (mthTb C.gt m (as.length + 1) (ks.filterMap (·.arg))) (us ++ ws) else none
        else none
    | .Attribute a f _ => if plainBase a = true ∧ (fldCs C.gt f).isEmpty = false then (comp n C a).map fun x => .fld x f (fldCs C.gt f) else none
    | .DictComp ke ve gs scope _ => match gs with
      | [g] =>
        let own := ownOf C.N scope
        let D : CC := { C with sc := relS scope C.sc }
        if g.is_async == 0 && (blkC C.N C.sc scope own && decide (g.ifs.length ≤ 1)) then
          ((comp n C g.iter).filter fun src => okTg src g.target).bind fun src => ((tnOf D g.target).filter fun t => tnIn t (own.map (·.2))).bind fun t => (comp n D ke).bind fun x => (comp n D ve).bind fun y => (g.ifs.mapM (comp n D)).map fun cs => .dc x y t (own.map (·.2)) (srcOf src).1 (srcOf src).2 cs
        else none
      | _ => none
    | .ListComp elt gs scope _ => match gs with
      | [g] =>
        let own := ownOf C.N scope
        let D : CC := { C with sc := relS scope C.sc }
        if g.is_async == 0 && (blkC C.N C.sc scope own && decide (g.ifs.length ≤ 1)) then
          ((comp n C g.iter).filter fun src => okTg src g.target).bind fun src => ((tnOf D g.target).filter fun t => tnIn t (own.map (·.2))).bind fun t => (comp n D elt).bind fun x => (g.ifs.mapM (comp n D)).map fun cs => .lc x t (own.map (·.2)) (srcOf src).1 (srcOf src).2 cs
        else none
      | _ => none
    | _ => none
end Mi

/-! Mi8: what stands around a text; a def's promise; the steps by which an expression is sound. -/
namespace Mi
open PySem L2

/-- what a def promises, where no repr is under way -/
structure FnG (P : Program) (w : World) (K : PySem.W.Frag) (mg : Str → Option Value) (base : Heap) (k : Nat) (f : Addr) (fd : FuncData) (ps : List Str) (sp : Sp) : Prop where
  len : ∀ vs H Q E, sp vs H Q E → vs.length = ps.length
  run : ∀ (A : Around) (outer : List PySem.Env) (s : Shared) (H : Hp) (args : Args) (us : List Value) (vs : List V) (Q : VK) (E : XK), A.guards = some [] → Room (2 * k) A → Env0 P w K mg base A outer s H → BindsTo s fd args (ps.zip us) → Vals vs us → sp vs H Q E →
    codeAny (model P w) A (.call (.ref f) args) (CR (L2.CX P w) outer P w H s Q E) s
/-- the promise that the small machine's def is kept -/
def spF (G : Gs) (m : List W → M W) (ar : Nat) : Sp := fun vs H Q E => vs.length = ar ∧ ∃ μ st ws, SR G H μ st ∧ Reps G H μ ws vs ∧ Post G E H μ (m ws st) Q
/-- a way to call a def -/
def ShapeOk (G : Gs) (fd : FuncData) (ps : List Str) (sh : Shape) : Prop :=
  ∃ (dus : List Value) (dvs : List V), Vals dvs dus ∧ (∀ H μ, Reps G H μ sh.ds dvs) ∧ sh.ord.length = ps.length ∧
    ∀ (s : Shared) (us ws zs : List Value), G.K.In s.heap → us.length = sh.np → ws.length = sh.ks.length → sh.ord.mapM (fun i => (us ++ ws ++ dus)[i]?) = some zs → BindsTo s fd ⟨us, sh.ks.zip ws⟩ (ps.zip zs)
/-- a class and its defs, each of which keeps its promise -/
structure ClsG (G : Gs) (φ : Nat → List W → M W) (k : Nat) (X : Cx) (d : CD) (C : Addr) : Prop where
  ca : G.ca d.c = some C
  cls : Cls X.K C
  flds : ∀ f ∈ d.flds, NoAttr X.K C f
  ini : d.shapes = [] ∨ ∃ fI fd ps, Mk X.K C fI ∧ FnG X.prog X.w X.K X.mg X.base k fI fd ps (spF G (φ d.ini) ps.length) ∧ ∀ sh ∈ d.shapes, ShapeOk G fd ps sh
  mths : ∀ m ∈ d.mths, ∃ f fd ps, Meth X.K C m.1 f ∧ FnG X.prog X.w X.K X.mg X.base k f fd ps (spF G (φ m.2.1) ps.length) ∧ ∀ sh ∈ m.2.2, ShapeOk G fd ps sh
def GtOk (G : Gs) (φ : Nat → List W → M W) (k : Nat) (X : Cx) (x : Str) : GE → Prop
  | .cst w => ∃ u v, X.mg x = some u ∧ RelV v u ∧ ∀ H μ, Rep G H μ w v
  | .blt => X.mg x = none
  | .fn i shapes => ∃ f fd ps, X.mg x = some (.ref f) ∧ G.gl i = some (.ref f) ∧ PySem.W.keepIn X.K (.ref f) = true ∧ FnG X.prog X.w X.K X.mg X.base k f fd ps (spF G (φ i) ps.length) ∧ ∀ sh ∈ shapes, ShapeOk G fd ps sh
  | .cls d => ∃ C, X.mg x = some (.ref C) ∧ ClsG G φ k X d C
structure Ctx (G : Gs) (φ : Nat → List W → M W) (k : Nat) (C : CC) (X : Cx) (Wh : WX) : Prop where
  K : G.K = X.K
  N : X.N = C.N
  sc : X.env.scope = C.sc
  nd : X.N.Nodup
  calm : X.calm = true
  guards : X.A.guards = some []
  room : Room (2 * k + 1) X.A
  sysm : SysM X.base
  prm : G.prm = X.w.params
  gt : ∀ x e, C.gt.lookup x = some e → GtOk G φ k X x e
  gtm : ∀ x e, (x, e) ∈ C.gt → GtOk G φ k X x e
  tk : Takes X Wh

variable {G : Gs} {φ : Nat → List W → M W} {k : Nat} {C : CC} {X : Cx} {Wh : WX}

/-! ### names -/
theorem findIdx_get {x : Str} {N : List Str} {i : Nat} (h : N.findIdx? (· == x) = some i) : N[i]? = some x := by
  rw [List.findIdx?_eq_some_iff_getElem] at h
  obtain ⟨hi, e, _⟩ := h
  rw [List.getElem?_eq_getElem hi]
  simpa using e
theorem okName_of {x : Str} (h : okName x = true) : (x == ("__debug__" : Str)) = false ∧ (x == ("__classdict__" : Str)) = false ∧ x ≠ "__name__" := by
  unfold okName at h
  simp only [Bool.and_eq_true, Bool.not_eq_true'] at h
  exact ⟨h.1.1, h.1.2, fun e => by have := h.2; rw [e] at this; simp at this⟩
theorem vis_of (c : Ctx G φ k C X Wh) {x : Str} {i : Nat} (h : C.vis x = some i) : X.N[i]? = some x ∧ Vis X.env.scope x ∧ okName x = true := by
  unfold CC.vis at h
  split at h
  · rename_i hv
    rw [Bool.and_eq_true] at hv
    refine ⟨by rw [c.N]; exact findIdx_get h, ?_, hv.1⟩
    have h2 := hv.2
    rw [← c.sc] at h2
    unfold isVis at h2
    unfold Vis
    split at h2
    · rename_i e; exact .inl e
    · rename_i e; exact .inr (.inl e)
    · rename_i e; exact .inr (.inr e)
    · cases h2
  · cases h
theorem loc_of (c : Ctx G φ k C X Wh) {x : Str} {i : Nat} (h : C.loc x = some i) : X.N[i]? = some x ∧ L2.Loc X.env.scope x ∧ okName x = true := by
  unfold CC.loc at h
  split at h
  · rename_i hv
    rw [Bool.and_eq_true] at hv
    refine ⟨by rw [c.N]; exact findIdx_get h, ?_, hv.1⟩
    have h2 := hv.2
    rw [← c.sc] at h2
    unfold isLoc at h2
    unfold L2.Loc
    split at h2
    · rename_i e; exact .inl e
    · rename_i e; exact .inr e
    · cases h2
  · cases h
theorem glb_of (c : Ctx G φ k C X Wh) {x : Str} {g : GE} (h : C.glb x = some g) : Gl X x ∧ okName x = true ∧ GtOk G φ k X x g := by
  unfold CC.glb at h
  split at h
  · rename_i hv
    rw [Bool.and_eq_true] at hv
    refine ⟨?_, hv.1, c.gt _ _ h⟩
    have h2 := hv.2
    rw [← c.sc] at h2
    unfold isGlb at h2
    show X.env.scope.names.lookup x = some .globalImplicit
    split at h2
    · rename_i e; exact e
    · cases h2
  · cases h
theorem blt_of (c : Ctx G φ k C X Wh) {x : Str} (h : C.isBlt x = true) : Gl X x ∧ okName x = true ∧ X.mg x = none := by
  unfold CC.isBlt at h
  split at h
  · rename_i e; exact glb_of c e
  · cases h

/-! ### syntax -/
def noStar : Expr → Bool
  | .Starred _ _ => false
  | _ => true
theorem star_cons {e : Expr} (es : List Expr) (env : PySem.Env) (h : noStar e = true) : starEach (e :: es) env = (false, eval e env) :: starEach es env := by
  cases e <;> first | rfl | cases h
theorem star_plain (env : PySem.Env) (pos : Pos) : ∀ {es : List Expr}, (∀ e ∈ es, noStar e = true) → (backTo pos (starEach es env)).any (·.1) = false
  | [], _ => rfl
  | e :: es, h => by
    rw [star_cons es env (h e List.mem_cons_self)]
    show (false || (backTo pos (starEach es env)).any (·.1)) = false
    rw [star_plain env pos fun e' he => h e' (List.mem_cons_of_mem _ he)]; rfl
theorem star_all (env : PySem.Env) (pos : Pos) : ∀ {es : List Expr}, (∀ e ∈ es, noStar e = true) → (backTo pos (starEach es env)).all (fun x => !x.1) = true
  | [], _ => rfl
  | e :: es, h => by
    rw [star_cons es env (h e List.mem_cons_self)]
    show (true && (backTo pos (starEach es env)).all (fun x => !x.1)) = true
    rw [star_all env pos fun e' he => h e' (List.mem_cons_of_mem _ he)]; rfl
theorem star_len (env : PySem.Env) : ∀ {es : List Expr}, (starEach es env).length = es.length
  | [] => rfl
  | e :: es => by
    cases e <;> simp [starEach, star_len env (es := es)]
theorem comp_noStar {n : Nat} {e : Expr} {E : Mi.E} (h : comp n C e = some E) : noStar e = true := by
  cases n with
  | zero => simp [comp] at h
  | succ n => cases e <;> first | rfl | (simp [comp] at h)
theorem comps_noStar {n : Nat} : ∀ {es : List Expr} {Es : List Mi.E}, es.mapM (comp n C) = some Es → ∀ e ∈ es, noStar e = true
  | [], _, _ => by simp
  | e :: es, Es, h => by
    rw [List.mapM_cons] at h
    simp only [Option.pure_def, Option.bind_eq_bind, Option.bind_eq_some_iff, Option.some.injEq] at h
    obtain ⟨d, h1, ds, h2, _⟩ := h
    intro e' he
    rcases List.mem_cons.mp he with rfl | he
    · exact comp_noStar h1
    · exact comps_noStar h2 e' he
theorem comp_noSlice {n : Nat} {e : Expr} {E : Mi.E} (h : comp n C e = some E) : PlainIx e ∧ PlainIxT e ∧ (∀ op, behindInMarks op e = false) := by
  cases n with
  | zero => simp [comp] at h
  | succ n => cases e <;> first | exact ⟨fun _ _ => rfl, fun _ _ => rfl, fun _ => rfl⟩ | (simp [comp] at h)

/-! ### steps -/
theorem tM.mono {m : Env → M W} {σ : L2.St} {H : Hp} {Q Q' : VK} (h : tM G Wh m σ H Q) (hq : ∀ v H', Q v H' → Q' v H') : tM G Wh m σ H Q' := by
  obtain ⟨ρ, μ, st, er, sr, p⟩ := h
  exact ⟨ρ, μ, st, er, sr, p.mono hq fun _ _ _ z => z⟩
theorem tML.mono {m : Env → M (List W)} {σ : L2.St} {H : Hp} {Q Q' : List V → Hp → Prop} (h : tML G Wh m σ H Q) (hq : ∀ v H', Q v H' → Q' v H') : tML G Wh m σ H Q' := by
  obtain ⟨ρ, μ, st, er, sr, p⟩ := h
  exact ⟨ρ, μ, st, er, sr, p.mono hq fun _ _ _ z => z⟩
theorem tMB.mono {m : Env → M Bool} {σ : L2.St} {H : Hp} {Q Q' : Bool → Hp → Prop} (h : tMB G Wh m σ H Q) (hq : ∀ v H', Q v H' → Q' v H') : tMB G Wh m σ H Q' := by
  obtain ⟨ρ, μ, st, er, sr, p⟩ := h
  exact ⟨ρ, μ, st, er, sr, p.mono hq fun _ _ _ z => z⟩
section
variable {H : Hp} {μ : List Addr} {st : Sto} {ρ : Env} {σ : L2.St}
/-- an expression ahead of anything -/
theorem ahead {γ δ : Type} {R : Hp → List Addr → γ → δ → Prop} {m : Env → M W} {f : W → M γ} {Q : δ → Hp → Prop} (er : EnvR G H μ ρ σ) (sr : SR G H μ st) (h : PostR G R (fun c d => Wh c d σ) H μ ((m ρ st).bind f) Q) :
    tM G Wh m σ H fun x H1 => ∃ μ1 st1 w, EnvR G H1 μ1 ρ σ ∧ SR G H1 μ1 st1 ∧ Grow H H1 μ μ1 ∧ Rep G H1 μ1 w x ∧ PostR G R (fun c d => Wh c d σ) H1 μ1 (f w st1) Q :=
  ⟨ρ, μ, st, er, sr, (PostR.bind (R1 := Rep G) h).mono (fun _ _ ⟨μ1, st1, a, g, s1, r1, p⟩ => ⟨μ1, st1, a, er.grow sr g, s1, g, r1, p⟩) fun _ _ _ z => z⟩
theorem aheadL {γ δ : Type} {R : Hp → List Addr → γ → δ → Prop} {m : Env → M (List W)} {f : List W → M γ} {Q : δ → Hp → Prop} (er : EnvR G H μ ρ σ) (sr : SR G H μ st) (h : PostR G R (fun c d => Wh c d σ) H μ ((m ρ st).bind f) Q) :
    tML G Wh m σ H fun x H1 => ∃ μ1 st1 w, EnvR G H1 μ1 ρ σ ∧ SR G H1 μ1 st1 ∧ Grow H H1 μ μ1 ∧ Reps G H1 μ1 w x ∧ PostR G R (fun c d => Wh c d σ) H1 μ1 (f w st1) Q :=
  ⟨ρ, μ, st, er, sr, (PostR.bind (R1 := Reps G) h).mono (fun _ _ ⟨μ1, st1, a, g, s1, r1, p⟩ => ⟨μ1, st1, a, er.grow sr g, s1, g, r1, p⟩) fun _ _ _ z => z⟩
theorem aheadB {γ δ : Type} {R : Hp → List Addr → γ → δ → Prop} {m : Env → M Bool} {f : Bool → M γ} {Q : δ → Hp → Prop} (er : EnvR G H μ ρ σ) (sr : SR G H μ st) (h : PostR G R (fun c d => Wh c d σ) H μ ((m ρ st).bind f) Q) :
    tMB G Wh m σ H fun x H1 => ∃ μ1 st1, EnvR G H1 μ1 ρ σ ∧ SR G H1 μ1 st1 ∧ Grow H H1 μ μ1 ∧ PostR G R (fun c d => Wh c d σ) H1 μ1 (f x st1) Q :=
  ⟨ρ, μ, st, er, sr, (PostR.bind (R1 := RB) h).mono (fun _ _ ⟨μ1, st1, a, g, s1, r1, p⟩ => by cases r1; exact ⟨μ1, st1, er.grow sr g, s1, g, p⟩) fun _ _ _ z => z⟩
end
theorem PostR.okR {α β : Type} {R : Hp → List Addr → α → β → Prop} {Xx : Value → Option Addr → Hp → Prop} {H : Hp} {μ : List Addr} {st : Sto} {a : α} {b : β} {Q : β → Hp → Prop} (h : PostR G R Xx H μ (.ok a st) Q) (sr : SR G H μ st) (r : R H μ a b) : Q b H := h b H μ .refl sr r

/-- two expressions and an operation -/
theorem snd_op {a b : Mi.E} {op : W → W → M W} {r : R2} {σ : L2.St} {H : Hp} {Q : VK} (ho : OpIs G r op) (h : tM G Wh (fun ρ => bnd (den φ a ρ) fun x => bnd (den φ b ρ) fun y => op x y) σ H Q) :
    tOp r (tM G Wh (den φ a)) (tM G Wh (den φ b)) σ H Q := by
  obtain ⟨ρ, μ, st, er, sr, p⟩ := h
  refine (ahead er sr p).mono fun x H1 ⟨μ1, st1, w, er1, sr1, g1, rx, p1⟩ => ?_
  refine (ahead er1 sr1 p1).mono fun y H2 ⟨μ2, st2, u, er2, sr2, g2, ry, p2⟩ => ?_
  exact ho H2 μ2 st2 x y w u _ Q sr2 (rx.grow sr1 g2) ry p2
/-- an argument list -/
theorem snd_args {n : Nat} (ih : ∀ e E, comp n C e = some E → PE X e (tM G Wh (den φ E))) : ∀ {es : List Expr} {Es : List Mi.E}, es.mapM (comp n C) = some Es → PA X es (tML G Wh (dens φ Es))
  | [], Es, h => by
    simp at h; subst h
    refine paImp pa_nil fun σ H Q h => ?_
    obtain ⟨ρ, μ, st, er, sr, p⟩ := h
    exact p.okR sr Reps.nil_
  | e :: es, Es, h => by
    have hs := comps_noStar h e List.mem_cons_self
    rw [List.mapM_cons] at h
    simp only [Option.pure_def, Option.bind_eq_bind, Option.bind_eq_some_iff, Option.some.injEq] at h
    obtain ⟨E, h1, Es', h2, rfl⟩ := h
    refine paImp (pa_cons (ih e E h1) (snd_args ih h2) (star_cons es X.env hs)) fun σ H Q h => ?_
    obtain ⟨ρ, μ, st, er, sr, p⟩ := h
    refine (ahead er sr p).mono fun x H1 ⟨μ1, st1, w, er1, sr1, g1, rx, p1⟩ => ?_
    refine (aheadL er1 sr1 p1).mono fun y H2 ⟨μ2, st2, u, er2, sr2, g2, ry, p2⟩ => ?_
    exact p2.okR sr2 (ry.cons_ (rx.grow sr1 g2))
end Mi

/-! Mi9: the call of a def. -/
namespace Mi
open PySem L2
variable {G : Gs} {φ : Nat → List W → M W} {k : Nat} {C : CC} {X : Cx} {Wh : WX}

theorem kw_names (env : PySem.Env) (pos : Pos) : ∀ (ks : List Keyword), (backToKw pos (keywordEach ks env)).filterMap (·.1) = ks.filterMap (·.arg)
  | [] => rfl
  | ⟨n, e, p⟩ :: ks => by
    show (_ :: backToKw pos (keywordEach ks env)).filterMap (·.1) = _
    rw [List.filterMap_cons, List.filterMap_cons, kw_names env pos ks]
theorem kw_all (env : PySem.Env) (pos : Pos) : ∀ (ks : List Keyword), (backToKw pos (keywordEach ks env)).all (·.1.isSome) = ks.all fun k => k.arg.isSome
  | [] => rfl
  | ⟨n, e, p⟩ :: ks => by
    show (_ :: backToKw pos (keywordEach ks env)).all (·.1.isSome) = _
    rw [List.all_cons, List.all_cons, kw_all env pos ks]
theorem kw_any (env : PySem.Env) (pos : Pos) : ∀ (ks : List Keyword), (ks.all fun k => k.arg.isSome) = true → (backToKw pos (keywordEach ks env)).any (·.1.isNone) = false
  | [], _ => rfl
  | ⟨n, e, p⟩ :: ks, h => by
    rw [List.all_cons, Bool.and_eq_true] at h
    show (_ :: backToKw pos (keywordEach ks env)).any (·.1.isNone) = _
    rw [List.any_cons, kw_any env pos ks h.2]
    have : n.isSome = true := h.1
    cases n
    · simp at this
    · rfl
theorem pkImp {kws : List Keyword} {t t' : TA} (h : PK X kws t) (i : ∀ σ H Q, t' σ H Q → t σ H Q) : PK X kws t' := ⟨fun p pins s σ H Q I q => h.run p pins s σ H Q I (i σ H Q q)⟩
theorem snd_kws {n : Nat} (ih : ∀ e E, comp n C e = some E → PE X e (tM G Wh (den φ E))) : ∀ {ks : List Keyword} {Es : List Mi.E}, ks.mapM (fun k => comp n C k.value) = some Es → PK X ks (tML G Wh (dens φ Es))
  | [], Es, h => by
    simp at h; subst h
    refine pkImp pk_nil fun σ H Q h => ?_
    obtain ⟨ρ, μ, st, er, sr, p⟩ := h
    exact p.okR sr Reps.nil_
  | ⟨nm, e, kp⟩ :: ks, Es, h => by
    rw [List.mapM_cons] at h
    simp only [Option.pure_def, Option.bind_eq_bind, Option.bind_eq_some_iff, Option.some.injEq] at h
    obtain ⟨E, h1, Es', h2, rfl⟩ := h
    refine pkImp (pk_cons (ih e E h1) (snd_kws ih h2)) fun σ H Q h => ?_
    obtain ⟨ρ, μ, st, er, sr, p⟩ := h
    refine (ahead er sr p).mono fun x H1 ⟨μ1, st1, w, er1, sr1, g1, rx, p1⟩ => ?_
    refine (aheadL er1 sr1 p1).mono fun y H2 ⟨μ2, st2, u, er2, sr2, g2, ry, p2⟩ => ?_
    exact p2.okR sr2 (ry.cons_ (rx.grow sr1 g2))
theorem bind_assoc {α β γ : Type} (r : Res α) (f : α → M β) (g : β → M γ) : (r.bind f).bind g = r.bind fun a s => (f a s).bind g := by cases r <;> rfl
theorem bind_congr {α β : Type} (r : Res α) {f g : α → M β} (h : ∀ a s, f a s = g a s) : r.bind f = r.bind g := by
  cases r with
  | ok a s => exact h a s
  | exc x s => rfl
  | stuck => rfl
theorem dens_append (φ : Nat → List W → M W) (ρ : Env) : ∀ (us ws : List Mi.E) (s : Sto), dens φ (us ++ ws) ρ s = ((dens φ us ρ s).bind fun a => bnd (dens φ ws ρ) fun b => ret (a ++ b))
  | [], ws, s => by
    simp only [List.nil_append, dens]
    show _ = (dens φ ws ρ s).bind fun b => ret b
    cases dens φ ws ρ s <;> rfl
  | u :: us, ws, s => by
    simp only [List.cons_append, dens]
    show (den φ u ρ s).bind (fun w => bnd (dens φ (us ++ ws) ρ) fun ws => ret (w :: ws)) = ((den φ u ρ s).bind (fun w => bnd (dens φ us ρ) fun ws => ret (w :: ws))).bind _
    rw [bind_assoc]
    refine bind_congr _ fun w s1 => ?_
    show (dens φ (us ++ ws) ρ s1).bind _ = ((dens φ us ρ s1).bind _).bind _
    rw [dens_append φ ρ us ws s1, bind_assoc, bind_assoc]
    refine bind_congr _ fun a s2 => ?_
    show ((dens φ ws ρ s2).bind _).bind _ = (dens φ ws ρ s2).bind _
    rw [bind_assoc]
    exact bind_congr _ fun b s3 => rfl
theorem bind_ok_inv {α β : Type} {r : Res α} {f : α → M β} {b : β} {s : Sto} (h : r.bind f = .ok b s) : ∃ a s1, r = .ok a s1 ∧ f a s1 = .ok b s := by
  cases r with
  | ok a s1 => exact ⟨a, s1, rfl, h⟩
  | exc x s1 => cases h
  | stuck => cases h
theorem dens_len (φ : Nat → List W → M W) (ρ : Env) : ∀ {es : List Mi.E} {s s' : Sto} {ws : List W}, dens φ es ρ s = .ok ws s' → ws.length = es.length
  | [], s, s', ws, h => by simp only [dens] at h; cases h; rfl
  | e :: es, s, s', ws, h => by
    simp only [dens] at h
    obtain ⟨a, s1, _, h⟩ := bind_ok_inv h
    obtain ⟨as, s2, h2, h⟩ := bind_ok_inv h
    cases h
    simp [dens_len φ ρ h2]
/-- an argument list ahead, its length known -/
theorem aheadD {H : Hp} {μ : List Addr} {st : Sto} {ρ : Env} {σ : L2.St} {γ δ : Type} {R : Hp → List Addr → γ → δ → Prop} {es : List Mi.E} {f : List W → M γ} {Q : δ → Hp → Prop} (er : EnvR G H μ ρ σ) (sr : SR G H μ st)
    (h : PostR G R (fun c d => Wh c d σ) H μ ((dens φ es ρ st).bind f) Q) :
    tML G Wh (dens φ es) σ H fun x H1 => x.length = es.length ∧ ∃ μ1 st1 w, EnvR G H1 μ1 ρ σ ∧ SR G H1 μ1 st1 ∧ Grow H H1 μ μ1 ∧ Reps G H1 μ1 w x ∧ PostR G R (fun c d => Wh c d σ) H1 μ1 (f w st1) Q := by
  refine ⟨ρ, μ, st, er, sr, ?_⟩
  cases e : dens φ es ρ st with
  | ok a s =>
    rw [e] at h
    exact fun x H1 μ1 g1 sr1 r1 => ⟨by rw [← r1.length]; exact dens_len φ ρ e, μ1, s, a, er.grow sr g1, sr1, g1, r1, PostR.shift g1 h⟩
  | exc x s => rw [e] at h; exact h
  | stuck => rw [e] at h; exact h
/-- the parameters' values, picked among those that are handed in -/
theorem picks {H : Hp} {μ : List Addr} {ws : List W} {vs : List V} {us : List Value} (r : Reps G H μ ws vs) (q : Vals vs us) : ∀ {ord : List Nat} {as : List W}, ord.mapM (fun i => ws[i]?) = some as →
    ∃ (bs : List V) (zs : List Value), ord.mapM (fun i => us[i]?) = some zs ∧ Reps G H μ as bs ∧ Vals bs zs ∧ zs.length = ord.length
  | [], as, h => by
    simp at h; subst h
    exact ⟨[], [], by simp, Reps.nil_, .nil, rfl⟩
  | i :: ord, as, h => by
    rw [List.mapM_cons] at h
    simp only [Option.pure_def, Option.bind_eq_bind, Option.bind_eq_some_iff, Option.some.injEq] at h
    obtain ⟨w, h1, as', h2, rfl⟩ := h
    obtain ⟨v, e1, r1⟩ := r.get i h1
    obtain ⟨u, e2, r2⟩ := Vals.get q e1
    obtain ⟨bs, zs, e3, r3, q3, l3⟩ := picks r q h2
    refine ⟨v :: bs, u :: zs, ?_, r3.cons_ r1, .cons r2 q3, by simp [l3]⟩
    rw [List.mapM_cons, e2, e3]; rfl
theorem paired_len {α β : Type} {F : α → β → Prop} : ∀ {l : List α} {r : List β}, Paired F l r → l.length = r.length := fun h => Paired.length h
theorem Vals.len {xs : List V} {us : List Value} (r : Vals xs us) : xs.length = us.length := Paired.length r
theorem kwl_len : ∀ (l : List Keyword), (l.all fun k => k.arg.isSome) = true → l.length = (l.filterMap (·.arg)).length
  | [], _ => rfl
  | a :: l, h => by
    rw [List.all_cons, Bool.and_eq_true] at h
    obtain ⟨n, hn⟩ := Option.isSome_iff_exists.mp h.1
    rw [List.filterMap_cons, hn]
    simp [kwl_len l h.2]
/-- a call, its arguments evaluated -/
theorem call_go (c : Ctx G φ k C X Wh) {f : Addr} {fd : FuncData} {ps : List Str} {i : Nat} {sh : Shape} (F : FnG X.prog X.w X.K X.mg X.base k f fd ps (spF G (φ i) ps.length)) (hsh : ShapeOk G fd ps sh) {pins : List (Addr × Obj)} {σ : L2.St} {Q : VK}
    (s2 : Shared) (H2 : Hp) (uv wv : List Value) (vs zs : List V) (I2 : Inv X pins σ H2 s2) (rv : Vals vs uv) (rz : Vals zs wv) (l1 : uv.length = sh.np) (l2 : wv.length = sh.ks.length)
    (h : ∃ μ st aw, SR G H2 μ st ∧ Reps G H2 μ aw (vs ++ zs) ∧ Post G (fun c d => Wh c d σ) H2 μ ((match sh.ord.mapM fun i => (aw ++ sh.ds)[i]? with | some as => φ i as | none => bad) st) Q) :
    wpAny (model X.prog X.w) X.A (call (.ref f) uv (sh.ks.zip wv)) (EP X pins σ Q) X.xe s2 := by
  obtain ⟨μ, st, aw, sr2, ra, pp⟩ := h
  obtain ⟨dus, dvs, rdv, rds, hord, hbind⟩ := hsh
  have hor : ∃ as, sh.ord.mapM (fun i => (aw ++ sh.ds)[i]?) = some as := by
    cases q : sh.ord.mapM (fun i => (aw ++ sh.ds)[i]?) with
    | some as => exact ⟨as, rfl⟩
    | none => rw [q] at pp; exact pp.elim
  obtain ⟨as, hor⟩ := hor
  rw [hor] at pp
  obtain ⟨bs, us', e3, r3, q3, l3⟩ := picks (ra.append_ (rds H2 μ)) ((rv.append rz).append rdv) hor
  have hb := hbind s2 uv wv us' (by rw [c.K]; exact I2.kIn) l1 l2 e3
  have lb : bs.length = ps.length := by rw [Vals.len q3, l3, hord]
  refine wpAny_call (codeAny_mono (F.run X.A X.stack s2 H2 ⟨uv, sh.ks.zip wv⟩ us' bs Q (fun c d => Wh c d σ) c.guards (c.room.mono (by omega)) I2.env0 hb q3 ⟨lb, μ, st, as, sr2, r3, pp⟩) fun r s' hq => ?_)
  cases r with
  | error e => exact passAt c.tk σ pins H2 s2 e s' I2 hq
  | ok fl =>
    cases fl with
    | ret u => exact I2.after hq
    | next => exact False.elim hq
    | brk => exact False.elim hq
    | cont => exact False.elim hq
/-- a new instance, its arguments evaluated -/
theorem mk_go (c : Ctx G φ k C X Wh) {cN : Nat} {C0 f : Addr} {fd : FuncData} {ps : List Str} {i : Nat} {sh : Shape} (M : Mk X.K C0 f) (hca : G.ca cN = some C0) (F : FnG X.prog X.w X.K X.mg X.base k f fd ps (spF G (φ i) ps.length)) (hsh : ShapeOk G fd ps sh)
    {pins : List (Addr × Obj)} {σ : L2.St} {Q : VK} (s2 : Shared) (H2 : Hp) (uv wv : List Value) (vs zs : List V) (I2 : Inv X pins σ H2 s2) (rv : Vals vs uv) (rz : Vals zs wv) (l1 : uv.length + 1 = sh.np) (l2 : wv.length = sh.ks.length)
    (h : ∃ μ st aw, SR G H2 μ st ∧ Reps G H2 μ aw (vs ++ zs) ∧ Post G (fun c d => Wh c d σ) H2 μ (match sh.ord.mapM fun i => (W.loc st.length :: aw ++ sh.ds)[i]? with
      | some as => (φ i as (st ++ [.ins cN []])).bind fun r => if r = .non then ret (.loc st.length) else bad
      | none => .stuck) Q) :
    wpAny (model X.prog X.w) X.A (call (.ref C0) uv (sh.ks.zip wv)) (EP X pins σ Q) X.xe s2 := by
  obtain ⟨μ, st, aw, sr2, ra, pp⟩ := h
  obtain ⟨dus, dvs, rdv, rds, hord, hbind⟩ := hsh
  have hor : ∃ as, sh.ord.mapM (fun i => (W.loc st.length :: aw ++ sh.ds)[i]?) = some as := by
    cases q : sh.ord.mapM (fun i => (W.loc st.length :: aw ++ sh.ds)[i]?) with
    | some as => exact ⟨as, rfl⟩
    | none => rw [q] at pp; exact pp.elim
  obtain ⟨as, hor⟩ := hor
  rw [hor] at pp
  dsimp only at pp
  -- the new instance and its dict
  generalize hx : s2.heap.objs.size + 1 = x at *
  have nx : H2 x = none := I2.hok.fresh (by omega)
  have nd : H2 s2.heap.objs.size = none := I2.hok.fresh (Nat.le_refl _)
  have ne : s2.heap.objs.size ≠ x := by omega
  have I3 := Inv.made (C := C0) I2
  rw [hx] at I3
  obtain ⟨g1, s1⟩ := sr2.temp (o := .own x) nd
  have nx1 : (upd H2 s2.heap.objs.size (.own x)) x = none := by rw [upd_ne (Ne.symm ne)]; exact nx
  obtain ⟨g2, s3⟩ := s1.temp (o := .ins C0 s2.heap.objs.size []) nx1
  have gAll := g1.trans g2
  have hfr : x ∉ μ := sr2.fresh nx
  have s4 : SR G (upd (upd H2 s2.heap.objs.size (.own x)) x (.ins C0 s2.heap.objs.size [])) (μ ++ [x]) (st ++ [.ins cN []]) := s3.adopt hfr ⟨C0, _, [], hca, upd_same, rfl, Reps.nil_⟩
  have gA : Grow H2 (upd (upd H2 s2.heap.objs.size (.own x)) x (.ins C0 s2.heap.objs.size [])) μ (μ ++ [x]) := ⟨⟨[x], rfl, by simpa using nx⟩, gAll.keep, gAll.stay⟩
  have rx : Rep G (upd (upd H2 s2.heap.objs.size (.own x)) x (.ins C0 s2.heap.objs.size [])) (μ ++ [x]) (.loc st.length) (.ref x) := by
    simp only [Rep]; exact ⟨x, rfl, by rw [← sr2.len]; simp⟩
  have ra' := (ra.grow sr2 gA).cons_ rx
  have rva : Vals (V.ref x :: (vs ++ zs)) (Value.ref x :: (uv ++ wv)) := .cons rfl (rv.append rz)
  obtain ⟨bs, us', e3, r3, q3, l3⟩ := picks (ws := (W.loc st.length :: aw) ++ sh.ds) (ra'.append_ (rds _ (μ ++ [x]))) (rva.append rdv) hor
  have hb := hbind ({ s2 with heap := (s2.heap.push PySem.W.emptyDict).push (PySem.W.instObj C0 s2.heap.objs.size) } : Shared) (Value.ref x :: uv) wv us' (by rw [c.K]; exact I3.kIn) (by simpa using l1) l2 (by simpa using e3)
  have lb : bs.length = ps.length := by rw [Vals.len q3, l3, hord]
  have post : Post G (fun c d => Wh c d σ) (upd (upd H2 s2.heap.objs.size (.own x)) x (.ins C0 s2.heap.objs.size [])) (μ ++ [x]) (φ i as (st ++ [.ins cN []])) (fun v H3 => v = .non ∧ Q (.ref x) H3) := by
    refine (PostR.bind (R1 := Rep G) (PostR.shift gA pp)).mono ?_ fun _ _ _ z => z
    rintro v H3 ⟨μ3, st3, a, g3, sr3, ra3, p3⟩
    split at p3
    · rename_i ea
      subst ea
      exact ⟨ra3.non_inv, p3.okR sr3 (rx.grow s4 g3)⟩
    · exact p3.elim
  have hb' : BindsTo ({ s2 with heap := (s2.heap.push PySem.W.emptyDict).push (PySem.W.instObj C0 s2.heap.objs.size) } : Shared) fd ⟨Value.ref (s2.heap.objs.size + 1) :: uv, sh.ks.zip wv⟩ (ps.zip us') := by rw [hx]; exact hb
  refine wpAny_call (make_map (f := f) I2.kIn M.makes M.init (beq_iff_eq.mp M.fn) (codeAny_mono (F.run (X.A.under (.builtin "type.__call__" ⟨.ref C0 :: uv, sh.ks.zip wv⟩)) X.stack _ _ ⟨Value.ref (s2.heap.objs.size + 1) :: uv, sh.ks.zip wv⟩ us' bs _ (fun c d => Wh c d σ) c.guards (c.room.make C0 uv _) (I3.env0.make C0 uv _) hb' q3 ⟨lb, μ ++ [x], st ++ [.ins cN []], as, s4, r3, post⟩) fun r s' hq => ?_))
  cases r with
  | error e => exact passAt c.tk σ pins _ _ e s' I3 hq
  | ok fl =>
    cases fl with
    | ret u =>
      obtain ⟨v, H', I4, rv', ev, q4⟩ := I3.after hq
      subst ev
      exact ⟨rv', ⟨V.ref x, H', I4, by rw [hx]; rfl, q4⟩⟩
    | next => exact False.elim hq
    | brk => exact False.elim hq
    | cont => exact False.elim hq
/-- arguments by place, then by name, then what comes of them -/
theorem args_step {us ws : List Mi.E} {ρ : Env} {σ : L2.St} {H : Hp} {μ : List Addr} {st : Sto} {Q : VK} {f : List W → M W} (er : EnvR G H μ ρ σ) (sr : SR G H μ st) (p : Post G (fun c d => Wh c d σ) H μ ((bnd (dens φ (us ++ ws) ρ) f) st) Q) :
    tML G Wh (dens φ us) σ H fun vs H1 => vs.length = us.length ∧ tML G Wh (dens φ ws) σ H1 fun zs H2 => zs.length = ws.length ∧ ∃ μ2 st2 aw, SR G H2 μ2 st2 ∧ Grow H H2 μ μ2 ∧ Reps G H2 μ2 aw (vs ++ zs) ∧ Post G (fun c d => Wh c d σ) H2 μ2 (f aw st2) Q := by
  have p1 : Post G (fun c d => Wh c d σ) H μ ((dens φ us ρ st).bind fun a => bnd (dens φ ws ρ) fun b => f (a ++ b)) Q := by
    have e : (bnd (dens φ (us ++ ws) ρ) f) st = ((dens φ us ρ st).bind fun a => bnd (dens φ ws ρ) fun b => f (a ++ b)) := by
      show (dens φ (us ++ ws) ρ st).bind _ = _
      rw [dens_append, bind_assoc]
      refine bind_congr _ fun a s1 => ?_
      show ((dens φ ws ρ s1).bind _).bind _ = (dens φ ws ρ s1).bind _
      rw [bind_assoc]
      exact bind_congr _ fun b s3 => rfl
    rw [e] at p; exact p
  refine (aheadD er sr p1).mono fun vs H1 ⟨l1, μ1, st1, aw, er1, sr1, g1, ra, p2⟩ => ⟨l1, ?_⟩
  refine (aheadD er1 sr1 p2).mono fun zs H2 ⟨l2, μ2, st2, bw, er2, sr2, g2, rb, p3⟩ => ⟨l2, ?_⟩
  exact ⟨μ2, st2, aw ++ bw, sr2, g1.trans g2, (ra.grow sr1 g2).append_ rb, p3⟩
/-- a call with arguments by place and by name: first: what stands ahead (the instance) -/
theorem callWith_go {f : Value} {first : List Value} {as : List Expr} {kws : List Keyword} {pos : Pos} {us ws : List Mi.E} {pins : List (Addr × Obj)} {s : Shared} {σ : L2.St} {H : Hp} {Q : Value → Shared → Prop} {R : List V → List V → Hp → Prop}
    (hkp : PySem.W.keepIn X.K f = true) (hall : (kws.all fun k => k.arg.isSome) = true) (hns : ∀ e ∈ as, noStar e = true) (ha : PA X as (tML G Wh (dens φ us))) (hk : PK X kws (tML G Wh (dens φ ws))) (hlu : us.length = as.length) (hlw : ws.length = kws.length)
    (I : Inv X pins σ H s) (step : tML G Wh (dens φ us) σ H fun vs H1 => vs.length = us.length ∧ tML G Wh (dens φ ws) σ H1 fun zs H2 => zs.length = ws.length ∧ R vs zs H2)
    (go : ∀ (s2 : Shared) (H2 : Hp) (uv wv : List Value) (vs zs : List V), Inv X pins σ H2 s2 → Vals vs uv → Vals zs wv → uv.length = as.length → wv.length = (kws.filterMap (·.arg)).length → R vs zs H2 →
      wpAny (model X.prog X.w) X.A (call f (first ++ uv) ((kws.filterMap (·.arg)).zip wv)) Q X.xe s2) :
    wpAny (model X.prog X.w) X.A (callWith pos f first (backTo pos (starEach as X.env)) (backToKw pos (keywordEach kws X.env))) Q X.xe s := by
  have hall' : (backToKw pos (keywordEach kws X.env)).all (·.1.isSome) = true := by rw [kw_all]; exact hall
  cases as with
  | nil =>
    have us0 : us = [] := List.eq_nil_of_length_eq_zero (by simpa using hlu)
    subst us0
    refine PySem.W.callWith_KW0 I.kIn hkp hall' ?_ (by rw [kw_any _ _ _ hall]; rfl)
    obtain ⟨ρ', μ', st', er', sr', p'⟩ := step
    have p2 := (p'.okR sr' Reps.nil_).2
    refine thn (hk.run pos pins s σ H _ I p2) fun wv s2 ⟨zs, H2, I2, rz, lz, q2⟩ => ⟨I2.kIn, ?_⟩
    rw [kw_names]
    exact go s2 H2 [] wv [] zs I2 .nil rz rfl (by rw [← kwl_len kws hall, ← hlw, ← lz, Vals.len rz]) q2
  | cons e as =>
    have he := star_cons as X.env (hns e List.mem_cons_self)
    refine PySem.W.callWith_KW I.kIn hkp hall' (thn (ha.run pos pins s σ H _ I step) fun uv s1 ⟨vs, H1, I1, r1, l1, q1⟩ => ?_) (by rw [star_plain _ _ hns, kw_any _ _ _ hall]; rfl) he
    refine thn (hk.run pos pins s1 σ H1 _ I1 q1) fun wv s2 ⟨zs, H2, I2, rz, lz, q2⟩ => ⟨I2.kIn, ?_⟩
    rw [kw_names]
    exact go s2 H2 uv wv vs zs I2 r1 rz (by rw [← Vals.len r1, l1, hlu]) (by rw [← kwl_len kws hall, ← hlw, ← lz, Vals.len rz]) q2
/-- f(..) -/
theorem snd_call (c : Ctx G φ k C X Wh) {n : Nat} {x : Str} {i : Nat} {shapes : List Shape} {sh : Shape} {as : List Expr} {kws : List Keyword} {p pos : Pos} {us ws : List Mi.E} (hg : C.glb x = some (.fn i shapes)) (hsh : sh ∈ shapes)
    (hnp : sh.np = as.length) (hks : sh.ks = kws.filterMap (·.arg)) (hall : (kws.all fun k => k.arg.isSome) = true) (hns : ∀ e ∈ as, noStar e = true) (ha : PA X as (tML G Wh (dens φ us))) (hk : PK X kws (tML G Wh (dens φ ws))) (hlu : us.length = as.length) (hlw : ws.length = kws.length) :
    PE X (.Call (.Name x p) as kws pos) (tM G Wh (den φ (.call i (us ++ ws) sh.ds sh.ord))) := by
  refine ⟨fun pins s σ H Q I h => ?_⟩
  obtain ⟨gl, ok, f, fd, ps, hm, hgl, hkp, F, hshapes⟩ := glb_of c hg
  obtain ⟨ok1, ok2, ok3⟩ := okName_of ok
  obtain ⟨ρ, μ, st, er, sr, p0⟩ := h
  simp only [den] at p0
  refine wpAny_Call_Name_kw (ld_glob I gl hm ?_ ok1)
  refine callWith_go hkp hall hns ha hk hlu hlw I (args_step er sr p0) fun s2 H2 uv wv vs zs I2 rv rz l1 l2 ⟨μ2, st2, aw, sr2, g2, ra, pp⟩ => ?_
  rw [List.nil_append, ← hks]
  exact call_go c F (hshapes sh hsh) s2 H2 uv wv vs zs I2 rv rz (by rw [l1, hnp]) (by rw [l2, hks]) ⟨μ2, st2, aw, sr2, ra, pp⟩
theorem pickSh_of {l : List Shape} {np : Nat} {ks : List Str} {sh : Shape} (h : pickSh l np ks = some sh) : sh ∈ l ∧ sh.np = np ∧ sh.ks = ks := by
  have hp := List.find?_some h
  simp only [Bool.and_eq_true, beq_iff_eq] at hp
  exact ⟨List.mem_of_find?_eq_some h, hp.1, hp.2⟩
/-- C(..) -/
theorem snd_mk (c : Ctx G φ k C X Wh) {x : Str} {d : CD} {sh : Shape} {as : List Expr} {kws : List Keyword} {p pos : Pos} {us ws : List Mi.E} (hg : C.glb x = some (.cls d)) (hsh : pickSh d.shapes (as.length + 1) (kws.filterMap (·.arg)) = some sh)
    (hall : (kws.all fun k => k.arg.isSome) = true) (hns : ∀ e ∈ as, noStar e = true) (ha : PA X as (tML G Wh (dens φ us))) (hk : PK X kws (tML G Wh (dens φ ws))) (hlu : us.length = as.length) (hlw : ws.length = kws.length) :
    PE X (.Call (.Name x p) as kws pos) (tM G Wh (den φ (.mk d.c d.ini (us ++ ws) sh.ds sh.ord))) := by
  refine ⟨fun pins s σ H Q I h => ?_⟩
  obtain ⟨gl, ok, C0, hm, cg⟩ := glb_of c hg
  obtain ⟨ok1, ok2, ok3⟩ := okName_of ok
  obtain ⟨hmem, hnp, hks⟩ := pickSh_of hsh
  rcases cg.ini with e0 | ⟨fI, fd, ps, M, F, hshapes⟩
  · rw [e0] at hmem; cases hmem
  obtain ⟨ρ, μ, st, er, sr, p0⟩ := h
  simp only [den] at p0
  refine wpAny_Call_Name_kw (ld_glob I gl hm ?_ ok1)
  refine callWith_go M.kp hall hns ha hk hlu hlw I (args_step er sr p0) fun s2 H2 uv wv vs zs I2 rv rz l1 l2 ⟨μ2, st2, aw, sr2, g2, ra, pp⟩ => ?_
  rw [List.nil_append, ← hks]
  exact mk_go c M cg.ca F (hshapes sh hmem) s2 H2 uv wv vs zs I2 rv rz (by rw [l1, hnp]) (by rw [l2, hks]) ⟨μ2, st2, aw, sr2, ra, pp⟩
theorem lookup_mem2 {α β : Type} [BEq α] [LawfulBEq α] {l : List (α × β)} {x : α} {e : β} (h : l.lookup x = some e) : (x, e) ∈ l := by
  induction l with
  | nil => cases h
  | cons p l ih =>
    rw [List.lookup_cons] at h
    split at h
    · rename_i hx
      cases h
      rw [beq_iff_eq] at hx
      subst hx
      exact List.mem_cons_self
    · exact List.mem_cons_of_mem _ (ih h)
theorem mthW_of {st : Sto} {x : W} {m : Str} {tb : MTab} {r : Nat × List W × List Nat} (h : mthW st x m tb = some r) : ∃ n c fs, x = .loc n ∧ st[n]? = some (.ins c fs) ∧ fs.lookup m = none ∧ (c, r) ∈ tb := by
  unfold mthW at h
  split at h
  · rename_i n
    split at h
    · rename_i c fs e
      split at h
      · rename_i hl
        exact ⟨n, c, fs, rfl, e, Option.isNone_iff_eq_none.mp hl, lookup_mem2 h⟩
      · cases h
    · cases h
  · cases h
theorem mthTb_of {gt : List (Str × GE)} {m : Str} {np : Nat} {ks : List Str} {c : Nat} {r : Nat × List W × List Nat} (h : (c, r) ∈ mthTb gt m np ks) : ∃ y d i shs sh, (y, GE.cls d) ∈ gt ∧ c = d.c ∧ (m, i, shs) ∈ d.mths ∧ sh ∈ shs ∧ sh.np = np ∧ sh.ks = ks ∧ r = (i, sh.ds, sh.ord) := by
  unfold mthTb at h
  obtain ⟨⟨y, ge⟩, hmem, hf⟩ := List.mem_filterMap.mp h
  cases ge <;> simp only [reduceCtorEq] at hf
  rename_i d
  simp only [Option.bind_eq_some_iff, Option.map_eq_some_iff] at hf
  obtain ⟨⟨i, shs⟩, h1, sh, h2, h3⟩ := hf
  obtain ⟨q1, q2, q3⟩ := pickSh_of h2
  cases h3
  exact ⟨y, d, i, shs, sh, hmem, rfl, lookup_mem2 h1, q1, q2, q3, rfl⟩
theorem lookup_none_of {α : Type} {fs : List (Str × W)} {fv : List (Str × α)} {m : Str} (h : fs.map (·.1) = fv.map (·.1)) (e : fs.lookup m = none) : fv.lookup m = none := by
  induction fs generalizing fv with
  | nil => cases fv with
    | nil => rfl
    | cons p l => simp at h
  | cons p l ih => cases fv with
    | nil => simp at h
    | cons q r =>
      simp only [List.map_cons, List.cons.injEq] at h
      rw [List.lookup_cons] at e ⊢
      rw [← h.1]
      cases hx : m == p.1 with
      | true => rw [hx] at e; cases e
      | false => rw [hx] at e; exact ih h.2 e
theorem base_plain {e : Expr} {m : Str} {env : PySem.Env} (h : plainBase e = true) : attributeBase e m env (eval e env) = eval e env := by
  cases e <;> first | rfl | cases h
theorem form_ok (env : PySem.Env) (pos : Pos) {as : List Expr} {kws : List Keyword} (hns : ∀ e ∈ as, noStar e = true) (hall : (kws.all fun k => k.arg.isSome) = true) (hf : as.length + kws.length < 29) :
    methodCallForm (as.length + kws.length) (backTo pos (starEach as env)) (backToKw pos (keywordEach kws env)) = true := by
  unfold methodCallForm
  rw [star_all env pos hns, kw_all, hall]
  simp only [Bool.true_and, decide_eq_true_eq]
  split <;> omega
/-- an instance of the store -/
theorem Rep.ins {H : Hp} {μ : List Addr} {st : Sto} {n c : Nat} {fs : List (Str × W)} {v : V} (sr : SR G H μ st) (h : Rep G H μ (.loc n) v) (e : st[n]? = some (.ins c fs)) :
    ∃ a C0 dx fv, v = .ref a ∧ μ[n]? = some a ∧ G.ca c = some C0 ∧ H a = some (.ins C0 dx fv) ∧ fs.map (·.1) = fv.map (·.1) ∧ Reps G H μ (fs.map (·.2)) (fv.map (·.2)) := by
  simp only [Rep] at h
  obtain ⟨a, rfl, hm⟩ := h
  obtain ⟨C0, dx, fv, h0, h1, h2, h3⟩ := sr.ob n a _ hm e
  exact ⟨a, C0, dx, fv, rfl, hm, h0, h1, h2, h3⟩
/-- o.m(..) of an own class -/
theorem snd_mth (c : Ctx G φ k C X Wh) {o : Expr} {O : Mi.E} {m : Str} {as : List Expr} {kws : List Keyword} {apos pos : Pos} {us ws : List Mi.E} (hb : plainBase o = true) (hline : (apos.endLine == pos.line) = true) (hfew : as.length + kws.length < 29)
    (hall : (kws.all fun k => k.arg.isSome) = true) (hns : ∀ e ∈ as, noStar e = true) (ho : PE X o (tM G Wh (den φ O))) (ha : PA X as (tML G Wh (dens φ us))) (hk : PK X kws (tML G Wh (dens φ ws))) (hlu : us.length = as.length) (hlw : ws.length = kws.length) :
    PE X (.Call (.Attribute o m apos) as kws pos) (tM G Wh (den φ (.mth O m (mthTb C.gt m (as.length + 1) (kws.filterMap (·.arg))) (us ++ ws)))) := by
  refine ⟨fun pins s σ H Q I h => ?_⟩
  obtain ⟨ρ, μ, st, er, sr, p0⟩ := h
  simp only [den] at p0
  refine MiR.call_meth_own (base_plain hb) (form_ok X.env pos hns hall hfew) hline ?_
  refine thn (ho.run pins s σ H _ I (ahead er sr p0)) fun u s1 ⟨x, H1, I1, r1, μ1, st1, w, er1, sr1, g1, rx, p1⟩ => ?_
  cases e : mthW st1 w m (mthTb C.gt m (as.length + 1) (kws.filterMap (·.arg))) with
  | none => rw [e] at p1; exact p1.elim
  | some r =>
    rw [e] at p1
    obtain ⟨n, cN, fs, rfl, es, hl, hmem⟩ := mthW_of e
    obtain ⟨y, d, i, shs, sh, hgt, rfl, hmm, hsh, hnp, hks, rfl⟩ := mthTb_of hmem
    dsimp only at p1
    obtain ⟨C1, hm1, cg⟩ := c.gtm _ _ hgt
    obtain ⟨f, fd, ps, hmeth, F, hshapes⟩ := cg.mths _ hmm
    obtain ⟨a, C0, dx, fv, rfl, hμ, hca, hH, hk1, hk2⟩ := Rep.ins sr1 rx es
    have eC : C0 = C1 := by have := cg.ca; rw [hca] at this; exact Option.some.inj this
    subst eC
    obtain rfl : u = Value.ref a := r1
    refine getmeth_ok I1 hH cg.cls hmeth (lookup_none_of hk1 hl) ?_
    refine callWith_go (first := [.ref a]) hmeth.kp hall hns ha hk hlu hlw I1 (args_step er1 sr1 p1) fun s2 H2 uv wv vs zs I2 rv rz l1 l2 ⟨μ2, st2, aw, sr2, g2, ra, pp⟩ => ?_
    rw [← hks]
    exact call_go c F (hshapes sh hsh) s2 H2 (.ref a :: uv) wv (.ref a :: vs) zs I2 (.cons rfl rv) rz (by rw [List.length_cons, l1, hnp]) (by rw [l2, hks]) ⟨μ2, st2, .loc n :: aw, sr2, ra.cons_ (rx.grow sr1 g2), pp⟩
/-- o.f -/
theorem fldCs_of {gt : List (Str × GE)} {f : Str} {c : Nat} (h : (fldCs gt f).contains c = true) : ∃ y d, (y, GE.cls d) ∈ gt ∧ c = d.c ∧ f ∈ d.flds := by
  obtain ⟨⟨y, ge⟩, hmem, hf⟩ := List.mem_filterMap.mp (List.contains_iff_mem.mp h)
  cases ge <;> simp only [reduceCtorEq] at hf
  rename_i d
  split at hf
  · rename_i hd
    cases hf
    exact ⟨y, d, hmem, rfl, List.contains_iff_mem.mp hd⟩
  · cases hf
theorem look_fld {H : Hp} {μ : List Addr} {f : Str} {w : W} : ∀ {fs : List (Str × W)} {fv : List (Str × V)}, fs.map (·.1) = fv.map (·.1) → Reps G H μ (fs.map (·.2)) (fv.map (·.2)) → fs.lookup f = some w → ∃ v, fv.lookup f = some v ∧ Rep G H μ w v
  | [], fv, _, _, e => by cases e
  | p :: fs, [], h, _, _ => by simp at h
  | p :: fs, q :: fv, h, r, e => by
    simp only [List.map_cons, List.cons.injEq] at h
    obtain ⟨r1, r2⟩ := Reps.cons_inv r
    rw [List.lookup_cons] at e ⊢
    rw [← h.1]
    cases hx : f == p.1 with
    | true => rw [hx] at e; cases e; exact ⟨_, rfl, r1⟩
    | false => rw [hx] at e; exact look_fld h.2 r2 e
theorem fldW_of {st : Sto} {cs : List Nat} {f : Str} {x w : W} {s' : Sto} (h : fldW cs f x st = .ok w s') : s' = st ∧ ∃ n c fs, x = .loc n ∧ st[n]? = some (.ins c fs) ∧ cs.contains c = true ∧ fs.lookup f = some w := by
  unfold fldW at h
  split at h
  · rename_i n
    split at h
    · rename_i c fs e
      split at h
      · rename_i hc
        split at h
        · rename_i w' e2
          cases h
          exact ⟨rfl, n, c, fs, rfl, e, hc, e2⟩
        · cases h
      · cases h
    · cases h
  · cases h
theorem fldW_stuck {st : Sto} {cs : List Nat} {f : Str} {x : W} : (∃ w, fldW cs f x st = .ok w st) ∨ fldW cs f x st = .stuck := by
  unfold fldW
  split
  · split
    · split
      · split
        · exact .inl ⟨_, rfl⟩
        · exact .inr rfl
      · exact .inr rfl
    · exact .inr rfl
  · exact .inr rfl
/-- what the field's read asks of the hand layer -/
theorem fld_at (c : Ctx G φ k C X Wh) {H : Hp} {μ : List Addr} {st : Sto} {f : Str} {x w : W} {v : V} (sr : SR G H μ st) (rx : Rep G H μ x v) (h : fldW (fldCs C.gt f) f x st = .ok w st) :
    ∃ a C0 dx fs u, v = .ref a ∧ H a = some (.ins C0 dx fs) ∧ Cls X.K C0 ∧ NoAttr X.K C0 f ∧ fs.lookup f = some u ∧ Rep G H μ w u := by
  obtain ⟨_, n, cN, fs, rfl, es, hc, hl⟩ := fldW_of h
  obtain ⟨y, d, hgt, rfl, hf⟩ := fldCs_of hc
  obtain ⟨C1, hm1, cg⟩ := c.gtm _ _ hgt
  obtain ⟨a, C0, dx, fv, rfl, hμ, hca, hH, hk1, hk2⟩ := Rep.ins sr rx es
  have eC : C0 = C1 := by have := cg.ca; rw [hca] at this; exact Option.some.inj this
  subst eC
  obtain ⟨u, e1, r1⟩ := look_fld hk1 hk2 hl
  exact ⟨a, C0, dx, fv, u, rfl, hH, cg.cls, cg.flds f hf, e1, r1⟩
theorem snd_fld (c : Ctx G φ k C X Wh) {o : Expr} {O : Mi.E} {f : Str} {pos : Pos} (hb : plainBase o = true) (ho : PE X o (tM G Wh (den φ O))) : PE X (.Attribute o f pos) (tM G Wh (den φ (.fld O f (fldCs C.gt f)))) := by
  refine peImp (pe_fld ho (base_plain hb)) fun σ H Q q => ?_
  obtain ⟨ρ, μ, st, er, sr, p⟩ := q
  simp only [den] at p
  refine (ahead er sr p).mono fun x H1 ⟨μ1, st1, w, er1, sr1, g1, rx, p1⟩ => ?_
  rcases fldW_stuck (st := st1) (cs := fldCs C.gt f) (f := f) (x := w) with ⟨z, e⟩ | e
  · rw [e] at p1
    obtain ⟨a, C0, dx, fs, u, rfl, hH, hc, hn, hl, r⟩ := fld_at c sr1 rx e
    exact ⟨a, C0, dx, fs, u, rfl, hH, hc, hn, hl, p1.okR sr1 r⟩
  · rw [e] at p1; exact p1.elim
end Mi

/-! Mi10: what is walked; list comprehensions. -/
namespace Mi
open PySem L2
variable {G : Gs} {φ : Nat → List W → M W} {k : Nat} {C : CC} {X : Cx} {Wh : WX}

/-- the hand layer's turns J are the items ws -/
structure ItOk (G : Gs) (J : It) (ws : List W) (n : List (Nat × List W)) (src : List (W × V)) : Prop where
  turn : ∀ (H : Hp) (μ : List Addr) (st : Sto) (i : Nat) (w : W), SR G H μ st → stays st n = true → (∀ p ∈ src, Rep G H μ p.1 p.2) → ws[i]? = some w →
    J.go i H ∧ ∀ x H', J.yld i H x H' → Grow H H' μ μ ∧ SR G H' μ st ∧ Rep G H' μ w x
  stop : ∀ (H : Hp) (μ : List Addr) (st : Sto), SR G H μ st → stays st n = true → (∀ p ∈ src, Rep G H μ p.1 p.2) → J.stop ws.length H
def IR (G : Gs) (H : Hp) (μ : List Addr) (a : List W × List (Nat × List W)) (J : It) : Prop := a.1.length ≤ SZ ∧ ∃ src, ItOk G J a.1 a.2 src ∧ ∀ p ∈ src, Rep G H μ p.1 p.2
def tMI (G : Gs) (Wh : WX) (m : Env → M (List W × List (Nat × List W))) : TI := fun σ H R => ∃ ρ μ st, EnvR G H μ ρ σ ∧ SR G H μ st ∧ PostR G (IR G) (fun c d => Wh c d σ) H μ (m ρ st) R
theorem piImp {X : Cx} {tg e : Expr} {t t' : TI} (h : PI X tg e t) (i : ∀ σ H Q, t' σ H Q → t σ H Q) : PI X tg e t' := ⟨fun p s σ H Q I q => h.run p s σ H Q I (i σ H Q q)⟩
theorem piOr {X : Cx} {tg e : Expr} {t t' : TI} (h : PI X tg e t) (h' : PI X tg e t') : PI X tg e (fun σ H R => t σ H R ∨ t' σ H R) := ⟨fun p s σ H Q I q => by
  rcases q with q | q
  · exact h.run p s σ H Q I q
  · exact h'.run p s σ H Q I q⟩
theorem srcs {H H' : Hp} {μ μ' : List Addr} {st : Sto} {src : List (W × V)} (sr : SR G H μ st) (g : Grow H H' μ μ') (h : ∀ p ∈ src, Rep G H μ p.1 p.2) : ∀ p ∈ src, Rep G H' μ' p.1 p.2 := fun p hp => (h p hp).grow sr g
theorem it_tup {ws : List W} {a : Addr} : ItOk G (Itt G.K a) ws [] [(.tup ws, .ref a)] := by
  refine ⟨fun H μ st i w sr _ hs e => ?_, fun H μ st sr _ hs => ?_⟩
  · obtain ⟨a', vs, e1, hq, rs⟩ := (hs _ List.mem_cons_self).tup_inv
    cases e1
    obtain ⟨v, e2, rv⟩ := rs.get i e
    refine ⟨⟨vs, v, hq, e2⟩, fun x H' ⟨e3, q⟩ => ?_⟩
    subst e3
    have := q vs hq
    rw [e2] at this; cases this
    exact ⟨.refl, sr, rv⟩
  · obtain ⟨a', vs, e1, hq, rs⟩ := (hs _ List.mem_cons_self).tup_inv
    cases e1
    exact ⟨vs, hq, by rw [rs.length]; exact Nat.le_refl _⟩
theorem it_frl {ws : List W} {a : Addr} : ItOk G (Itl G.K a) ws [] [(.frl ws, .ref a)] := by
  refine ⟨fun H μ st i w sr _ hs e => ?_, fun H μ st sr _ hs => ?_⟩
  · obtain ⟨a', vs, e1, hq, rs⟩ := (hs _ List.mem_cons_self).frl_inv
    cases e1
    obtain ⟨v, e2, rv⟩ := rs.get i e
    refine ⟨⟨vs, v, hq, e2⟩, fun x H' ⟨e3, q⟩ => ?_⟩
    subst e3
    have := q vs hq
    rw [e2] at this; cases this
    exact ⟨.refl, sr, rv⟩
  · obtain ⟨a', vs, e1, hq, rs⟩ := (hs _ List.mem_cons_self).frl_inv
    cases e1
    exact ⟨vs, hq, by rw [rs.length]; exact Nat.le_refl _⟩
theorem it_lst {ws : List W} {n : Nat} {a : Addr} : ItOk G (Itl G.K a) ws [(n, ws)] [(.loc n, .ref a)] := by
  refine ⟨fun H μ st i w sr ht hs e => ?_, fun H μ st sr ht hs => ?_⟩
  · simp only [stays, List.all_cons, List.all_nil, Bool.and_true, decide_eq_true_eq] at ht
    obtain ⟨a', vs, e1, _, hq, rs⟩ := Rep.lst sr (hs _ List.mem_cons_self) ht
    cases e1
    obtain ⟨v, e2, rv⟩ := rs.get i e
    refine ⟨⟨vs, v, SqL.of hq, e2⟩, fun x H' ⟨e3, q⟩ => ?_⟩
    subst e3
    have := q vs (SqL.of hq)
    rw [e2] at this; cases this
    exact ⟨.refl, sr, rv⟩
  · simp only [stays, List.all_cons, List.all_nil, Bool.and_true, decide_eq_true_eq] at ht
    obtain ⟨a', vs, e1, _, hq, rs⟩ := Rep.lst sr (hs _ List.mem_cons_self) ht
    cases e1
    exact ⟨vs, SqL.of hq, by rw [rs.length]; exact Nat.le_refl _⟩
theorem it_str {x : Str} : ItOk G (Its x) (x.cps.toList.map fun c => .str ⟨#[c]⟩) [] [] := by
  refine ⟨fun H μ st i w sr ht hs e => ?_, fun H μ st sr ht hs => by show x.cps.size ≤ _; simp⟩
  rw [List.getElem?_map, Option.map_eq_some_iff] at e
  obtain ⟨c, e, rfl⟩ := e
  rw [Array.getElem?_toList] at e
  refine ⟨(Array.getElem?_eq_some_iff.mp e).1, fun v H' ⟨e3, c', e4, e5⟩ => ?_⟩
  subst e3 e5
  rw [e] at e4; cases e4
  exact ⟨.refl, sr, Rep.str_⟩
theorem it_rng {lo : Int} {n : Nat} : ItOk G (Itr lo n) ((List.range n).map fun k : Nat => W.int (lo + (k : Int))) [] [] := by
  refine ⟨fun H μ st i w sr ht hs e => ?_, fun H μ st sr ht hs => by show n ≤ _; simp⟩
  rw [List.getElem?_map, Option.map_eq_some_iff] at e
  obtain ⟨c, e, rfl⟩ := e
  have hi : i < n := by
    have := (List.getElem?_eq_some_iff.mp e).1
    simpa using this
  rw [List.getElem?_range hi] at e
  cases e
  refine ⟨hi, fun v H' ⟨e3, e4⟩ => ?_⟩
  subst e3 e4
  exact ⟨.refl, sr, Rep.int_⟩
theorem it_rrng {n : Nat} : ItOk G (Itc ((n : Int) - 1) (-1) n) ((List.range n).map fun k : Nat => W.int ((n : Int) - 1 - (k : Int))) [] [] := by
  refine ⟨fun H μ st i w sr ht hs e => ?_, fun H μ st sr ht hs => by show n ≤ _; simp⟩
  rw [List.getElem?_map, Option.map_eq_some_iff] at e
  obtain ⟨c, e, rfl⟩ := e
  have hi : i < n := by
    have := (List.getElem?_eq_some_iff.mp e).1
    simpa using this
  rw [List.getElem?_range hi] at e
  cases e
  refine ⟨hi, fun v H' ⟨e3, e4⟩ => ?_⟩
  subst e3 e4
  refine ⟨.refl, sr, ?_⟩
  have : (n : Int) - 1 + (i : Nat) * (-1) = (n : Int) - 1 - (i : Int) := by omega
  rw [this]
  exact Rep.int_
/-- a value that is walked -/
theorem snd_val (c : Ctx G φ k C X Wh) {tg e : Expr} {E : Mi.E} (h : PE X e (tM G Wh (den φ E))) : PI X tg e (tMI G Wh fun ρ => bnd (dens φ [E] ρ) (iter .val)) := by
  refine piImp (piOr (piOr (pi_tup h) (pi_list h)) (pi_str h)) fun σ H R q => ?_
  obtain ⟨ρ, μ, st, er, sr, p⟩ := q
  have p1 : PostR G (IR G) (fun c d => Wh c d σ) H μ ((den φ E ρ st).bind fun w s => iter .val [w] s) R := by
    have e1 : (bnd (dens φ [E] ρ) (iter .val)) st = (den φ E ρ st).bind fun w s => iter .val [w] s := by
      simp only [dens]
      show ((den φ E ρ st).bind _).bind _ = _
      rw [bind_assoc]
      rfl
    rw [← e1]; exact p
  -- which kind it is shows when it is reckoned
  cases hd : den φ E ρ st with
  | stuck => rw [hd] at p1; exact p1.elim
  | exc x s1 =>
    rw [hd] at p1
    refine .inl (.inl ⟨ρ, μ, st, er, sr, ?_⟩)
    rw [hd]; exact p1
  | ok w s1 =>
    rw [hd] at p1
    simp only [bind_ok, iter] at p1
    have mk : ∀ {Q : VK}, (∀ x H1 μ1, Grow H H1 μ μ1 → SR G H1 μ1 s1 → Rep G H1 μ1 w x → Q x H1) → tM G Wh (den φ E) σ H Q := fun hq => ⟨ρ, μ, st, er, sr, by rw [hd]; exact fun x H1 μ1 g s r => hq x H1 μ1 g s r⟩
    cases hi : itemsW s1 w with
    | none => rw [hi] at p1; exact p1.elim
    | some a =>
      obtain ⟨ws, n⟩ := a
      rw [hi] at p1
      dsimp only at p1
      split at p1
      · rename_i hz
        cases w <;> simp only [itemsW, reduceCtorEq, Option.some.injEq, Prod.mk.injEq] at hi
        · obtain ⟨rfl, rfl⟩ := hi
          refine .inr (mk fun x H1 μ1 g s r => ⟨_, r.str_inv, ?_⟩)
          exact p1 _ H1 μ1 g s ⟨hz, [], it_str, by simp⟩
        · obtain ⟨rfl, rfl⟩ := hi
          refine .inl (.inl (mk fun x H1 μ1 g s r => ?_))
          obtain ⟨a, vs, rfl, hq, rs⟩ := r.tup_inv
          exact ⟨a, rfl, ⟨vs, c.K ▸ hq⟩, c.K ▸ p1 _ H1 μ1 g s ⟨hz, _, it_tup, fun p hp => by simp at hp; subst hp; exact r⟩⟩
        · obtain ⟨rfl, rfl⟩ := hi
          refine .inl (.inr (mk fun x H1 μ1 g s r => ?_))
          obtain ⟨a, vs, rfl, hq, rs⟩ := r.frl_inv
          exact ⟨a, rfl, ⟨vs, c.K ▸ hq⟩, c.K ▸ p1 _ H1 μ1 g s ⟨hz, _, it_frl, fun p hp => by simp at hp; subst hp; exact r⟩⟩
        · split at hi
          · rename_i m xs e
            simp only [Option.some.injEq, Prod.mk.injEq] at hi
            obtain ⟨rfl, rfl⟩ := hi
            refine .inl (.inr (mk fun x H1 μ1 g s r => ?_))
            obtain ⟨a, vs, rfl, _, hq, rs⟩ := Rep.lst s r e
            exact ⟨a, rfl, ⟨vs, SqL.of hq⟩, c.K ▸ p1 _ H1 μ1 g s ⟨hz, _, it_lst, fun p hp => by simp at hp; subst hp; exact r⟩⟩
          · cases hi
      · exact p1.elim

/-! ### range -/
theorem snd_rng1 (c : Ctx G φ k C X Wh) {tg a : Expr} {E : Mi.E} {p pos : Pos} (hs : noStar a = true) (hg : Gl X "range") (hm : X.mg "range" = none) (ha : PA X [a] (tML G Wh (dens φ [E]))) : PI X tg (.Call (.Name "range" p) [a] [] pos) (tMI G Wh fun ρ => bnd (dens φ [E] ρ) (iter .rng1)) := by
  refine piImp (pi_range1 hg hm ha (by rw [star_cons _ _ hs]; rfl)) fun σ H R q => ?_
  obtain ⟨ρ, μ, st, er, sr, p⟩ := q
  refine (aheadL er sr p).mono fun vs H1 ⟨μ1, st1, ws, er1, sr1, g1, r1, p1⟩ => ?_
  match ws, p1, r1 with
  | [.int j], p1, r1 =>
    obtain ⟨v, rfl, r2⟩ := r1.one
    simp only [iter] at p1
    split at p1
    · rename_i hz
      refine ⟨j, by rw [r2.int_inv], hz.2, ?_, ?_⟩
      · have := hz.1
        simp only [SZ] at this
        omega
      · have e : (List.range j.toNat).map (fun k : Nat => W.int (k : Int)) = (List.range j.toNat).map fun k : Nat => W.int (0 + (k : Int)) := by simp
        rw [e] at p1
        refine p1.okR sr1 ⟨?_, [], it_rng, by simp⟩
        have := hz.1
        simp only [List.length_map, List.length_range, SZ] at this ⊢
        omega
    · exact p1.elim
theorem snd_rrng (c : Ctx G φ k C X Wh) {tg a : Expr} {E : Mi.E} {p p2 pos pos2 : Pos} (hs : noStar a = true) (hgv : Gl X "reversed") (hmv : X.mg "reversed" = none) (hg : Gl X "range") (hm : X.mg "range" = none) (ha : PE X a (tM G Wh (den φ E))) :
    PI X tg (.Call (.Name "reversed" p) [.Call (.Name "range" p2) [a] [] pos2] [] pos) (tMI G Wh fun ρ => bnd (dens φ [E] ρ) (iter .rrng)) := by
  refine piImp (pi_revR hgv hmv (prg_1 hg hm ha (star_cons [] X.env hs)) rfl) fun σ H R q => ?_
  obtain ⟨ρ, μ, st, er, sr, p⟩ := q
  have p0 : PostR G (IR G) (fun c d => Wh c d σ) H μ ((den φ E ρ st).bind fun w s => iter .rrng [w] s) R := by
    have e : (bnd (dens φ [E] ρ) (iter .rrng)) st = ((den φ E ρ st).bind fun w s => iter .rrng [w] s) := by
      simp only [dens]
      show ((den φ E ρ st).bind _).bind _ = _
      rw [bind_assoc]; rfl
    rw [← e]; exact p
  refine (ahead er sr p0).mono fun x H1 ⟨μ1, st1, w, er1, sr1, g1, r1, p1⟩ => ?_
  cases w <;> first | exact p1.elim | skip
  rename_i j
  simp only [iter] at p1
  split at p1
  · rename_i hz
    have hz1 := hz.1
    simp only [SZ] at hz1
    refine ⟨j, r1.int_inv, by omega, by omega, hz.2, by omega, ?_⟩
    have e1 : (0 : Int) + ((j - 0).toNat : Nat) - 1 = ((j.toNat : Nat) : Int) - 1 := by
      have : j - 0 = j := by omega
      rw [this]; omega
    have e2 : (j - 0).toNat = j.toNat := by
      have : j - 0 = j := by omega
      rw [this]
    rw [e1, e2]
    refine p1.okR sr1 ⟨?_, [], it_rrng, by simp⟩
    simp only [List.length_map, List.length_range, SZ] at hz1 ⊢
    omega
  · exact p1.elim
theorem snd_rng2 (c : Ctx G φ k C X Wh) {tg a b : Expr} {E F : Mi.E} {p pos : Pos} (hs : noStar a = true) (hs2 : noStar b = true) (hg : Gl X "range") (hm : X.mg "range" = none) (ha : PA X [a, b] (tML G Wh (dens φ [E, F]))) : PI X tg (.Call (.Name "range" p) [a, b] [] pos) (tMI G Wh fun ρ => bnd (dens φ [E, F] ρ) (iter .rng2)) := by
  refine piImp (pi_range2 hg hm ha (by rw [star_cons _ _ hs, star_cons _ _ hs2]; rfl) (by rw [star_cons _ _ hs2]; rfl)) fun σ H R q => ?_
  obtain ⟨ρ, μ, st, er, sr, p⟩ := q
  refine (aheadL er sr p).mono fun vs H1 ⟨μ1, st1, ws, er1, sr1, g1, r1, p1⟩ => ?_
  match ws, p1, r1 with
  | [.int i, .int j], p1, r1 =>
    obtain ⟨v, y, rfl, r2, r3⟩ := r1.two
    simp only [iter] at p1
    split at p1
    · rename_i hz
      refine ⟨i, j, by rw [r2.int_inv, r3.int_inv], ⟨hz.1, hz.2.1, hz.2.2.1, hz.2.2.2.1⟩, ?_⟩
      refine p1.okR sr1 ⟨?_, [], it_rng, by simp⟩
      have := hz.2.2.2.2
      simp only [List.length_map, List.length_range, SZ] at this ⊢
      omega
    · exact p1.elim

/-! ### zip -/
theorem zs_of {H : Hp} {μ : List Addr} {st : Sto} {w : W} {v : V} {xs : List W} {l : List (Nat × List W)} (sr : SR G H μ st) (r : Rep G H μ w v) (e : itemsW st w = some (xs, l)) :
    ∃ p : MiR.Zs, p.ok G.K H v ∧ ∀ (H' : Hp) (μ' : List Addr) (st' : Sto), SR G H' μ' st' → stays st' l = true → Rep G H' μ' w v → p.cnt G.K H' xs.length ∧ ∀ (i : Nat) (x : V) (w' : W), p.at G.K H' i x → xs[i]? = some w' → Rep G H' μ' w' x := by
  cases w <;> simp only [itemsW, reduceCtorEq, Option.some.injEq, Prod.mk.injEq] at e
  case str y =>
    obtain ⟨rfl, rfl⟩ := e
    refine ⟨.txt y, ⟨r.str_inv, _, rfl⟩, fun H' μ' st' sr' _ r' => ⟨by show y.cps.size = _; simp, fun i x w' hx hw => ?_⟩⟩
    obtain ⟨c, h1, rfl⟩ := hx
    rw [List.getElem?_map, Array.getElem?_toList, h1] at hw
    cases hw
    exact Rep.str_
  case tup ws =>
    obtain ⟨rfl, rfl⟩ := e
    obtain ⟨a, vs, rfl, hq, rs⟩ := r.tup_inv
    refine ⟨.tup a, ⟨rfl, _, vs, hq, rfl⟩, fun H' μ' st' sr' _ r' => ?_⟩
    obtain ⟨a', vs', e1, hq', rs'⟩ := r'.tup_inv
    cases e1
    refine ⟨⟨vs', hq', rs'.length.symm⟩, fun i x w' hx hw => ?_⟩
    obtain ⟨u, e2, ru⟩ := rs'.get i hw
    have := hx vs' hq'
    rw [e2] at this; cases this
    exact ru
  case frl ws =>
    obtain ⟨rfl, rfl⟩ := e
    obtain ⟨a, vs, rfl, hq, rs⟩ := r.frl_inv
    refine ⟨.lst a, ⟨rfl, _, vs, hq, rfl⟩, fun H' μ' st' sr' _ r' => ?_⟩
    obtain ⟨a', vs', e1, hq', rs'⟩ := r'.frl_inv
    cases e1
    refine ⟨⟨vs', hq', rs'.length.symm⟩, fun i x w' hx hw => ?_⟩
    obtain ⟨u, e2, ru⟩ := rs'.get i hw
    have := hx vs' hq'
    rw [e2] at this; cases this
    exact ru
  case loc n =>
    split at e
    · rename_i ws e0
      simp only [Option.some.injEq, Prod.mk.injEq] at e
      obtain ⟨rfl, rfl⟩ := e
      obtain ⟨a, vs, rfl, _, hq, rs⟩ := Rep.lst sr r e0
      refine ⟨.lst a, ⟨rfl, _, vs, SqL.of hq, rfl⟩, fun H' μ' st' sr' ht r' => ?_⟩
      simp only [stays, List.all_cons, List.all_nil, Bool.and_true, decide_eq_true_eq] at ht
      obtain ⟨a', vs', e1, _, hq', rs'⟩ := Rep.lst sr' r' ht
      cases e1
      refine ⟨⟨vs', SqL.of hq', rs'.length.symm⟩, fun i x w' hx hw => ?_⟩
      obtain ⟨u, e2, ru⟩ := rs'.get i hw
      have := hx vs' (SqL.of hq')
      rw [e2] at this; cases this
      exact ru
    · cases e
theorem stays_app {s : Sto} {a b : List (Nat × List W)} (h : stays s (a ++ b) = true) : stays s a = true ∧ stays s b = true := by
  unfold stays at h ⊢
  rw [List.all_append, Bool.and_eq_true] at h
  exact h
theorem zip_len {α β : Type} (xs : List α) (ys : List β) : (xs.zip ys).length = xs.length ∨ (xs.zip ys).length = ys.length := by
  rw [List.length_zip]; omega
theorem snd_zip (c : Ctx G φ k C X Wh) {elts : List Expr} {kk : Nat} {tpos : Pos} {a b : Expr} {E F : Mi.E} {p pos : Pos} (hs : noStar a = true) (hs2 : noStar b = true) (hg : Gl X "zip") (hm : X.mg "zip" = none) (ha : PA X [a, b] (tML G Wh (dens φ [E, F]))) :
    PI X (.Tuple elts kk tpos) (.Call (.Name "zip" p) [a, b] [] pos) (tMI G Wh fun ρ => bnd (dens φ [E, F] ρ) (iter .zip)) := by
  refine piImp (MiR.pi_zipQ hg hm ha (by rw [star_cons _ _ hs]) (by rw [star_cons _ _ hs2]; rfl)) fun σ H R q => ?_
  obtain ⟨ρ, μ, st, er, sr, p⟩ := q
  refine (aheadL er sr p).mono fun vs H1 ⟨μ1, st1, ws, er1, sr1, g1, r1, p1⟩ => ?_
  match ws, p1, r1 with
  | [], p1, r1 => exact p1.elim
  | [w], p1, r1 => exact p1.elim
  | w :: u :: _ :: _, p1, r1 => exact p1.elim
  | [w, u], p1, r1 =>
    obtain ⟨v, y, rfl, rw1, ru1⟩ := r1.two
    simp only [iter] at p1
    split at p1
    · rename_i xs la ys lb e1 e2
      split at p1
      · rename_i hz
        obtain ⟨P, okP, hP⟩ := zs_of sr1 rw1 e1
        obtain ⟨Qq, okQ, hQ⟩ := zs_of sr1 ru1 e2
        refine ⟨v, y, P, Qq, rfl, c.K ▸ okP, c.K ▸ okQ, ?_⟩
        rw [← c.K]
        refine p1.okR sr1 ⟨?_, [(w, v), (u, y)], ⟨fun H' μ' st' i ww sr' ht hsrc e => ?_, fun H' μ' st' sr' ht hsrc => ?_⟩, fun p hp => ?_⟩
        · simp only [List.length_map]
          rcases zip_len xs ys with h | h <;> omega
        · obtain ⟨t1, t2⟩ := stays_app ht
          obtain ⟨cP, aP⟩ := hP H' μ' st' sr' t1 (hsrc (w, v) List.mem_cons_self)
          obtain ⟨cQ, aQ⟩ := hQ H' μ' st' sr' t2 (hsrc (u, y) (List.mem_cons_of_mem _ List.mem_cons_self))
          rw [List.getElem?_map, Option.map_eq_some_iff] at e
          obtain ⟨⟨x1, y1⟩, e, rfl⟩ := e
          rw [List.getElem?_zip_eq_some] at e
          refine ⟨⟨_, _, cP, cQ, (List.getElem?_eq_some_iff.mp e.1).1, (List.getElem?_eq_some_iff.mp e.2).1⟩, fun x H'' ⟨T, x2, y2, u2, u3, ex, hT, eH, h1, h2⟩ => ?_⟩
          subst ex eH
          have r2 : Reps G H' μ' [x1, y1] [x2, y2] := (Reps.nil_.cons_ (aQ i y2 y1 h2 e.2)).cons_ (aP i x2 x1 h1 e.1)
          exact Rep.tup_new sr' hT rfl r2
        · obtain ⟨t1, t2⟩ := stays_app ht
          obtain ⟨cP, aP⟩ := hP H' μ' st' sr' t1 (hsrc (w, v) List.mem_cons_self)
          obtain ⟨cQ, aQ⟩ := hQ H' μ' st' sr' t2 (hsrc (u, y) (List.mem_cons_of_mem _ List.mem_cons_self))
          rw [List.length_map, List.length_zip]
          exact ⟨_, _, cP, cQ, by omega, by omega, by omega⟩
        · simp only [List.mem_cons, List.not_mem_nil, or_false] at hp
          rcases hp with rfl | rfl
          · exact rw1
          · exact ru1
      · exact p1.elim
    · exact p1.elim

/-! ### list comprehensions -/
theorem EnvR.drop {H : Hp} {μ : List Addr} {ρ : Env} {σ : L2.St} (e : EnvR G H μ ρ σ) (i : Nat) : EnvR G H μ (ρ.set i none) (σ.set i none) := by
  refine ⟨by simp [e.len], fun j w h => ?_⟩
  by_cases q : i = j
  · subst q
    by_cases hl : i < ρ.length
    · rw [List.getElem?_set_self hl] at h; cases h
    · rw [List.getElem?_eq_none (by simpa using hl)] at h; cases h
  · rw [List.getElem?_set_ne q] at h
    obtain ⟨v, a, b⟩ := e.at_ j w h
    exact ⟨v, by rw [List.getElem?_set_ne q]; exact a, b⟩
theorem EnvR.wiped {H : Hp} {μ : List Addr} {ρ : Env} {σ : L2.St} (e : EnvR G H μ ρ σ) : ∀ vs, EnvR G H μ (Mi.wipe ρ vs) (L2.wipe σ vs)
  | [] => e
  | v :: vs => (e.wiped vs).drop v
theorem wipe_comm {α : Type} (l : List (Option α)) (i j : Nat) (x : Option α) (h : i ≠ j) : (l.set i x).set j none = (l.set j none).set i x := List.set_comm _ _ h
theorem wipe_set_ne {σ : L2.St} {i : Nat} {v : Option V} : ∀ {vs : List Nat}, i ∉ vs → L2.wipe (σ.set i v) vs = (L2.wipe σ vs).set i v
  | [], _ => rfl
  | j :: vs, h => by
    simp only [List.mem_cons, not_or] at h
    simp only [L2.wipe]
    rw [wipe_set_ne h.2, List.set_comm _ _ h.1]
theorem wipe_in {σ : L2.St} {i : Nat} {v : Option V} : ∀ {vs : List Nat}, i ∈ vs → L2.wipe (σ.set i v) vs = L2.wipe σ vs
  | j :: vs, h => by
    simp only [L2.wipe]
    by_cases hm : i ∈ vs
    · rw [wipe_in hm]
    · rcases List.mem_cons.mp h with rfl | h
      · rw [wipe_set_ne hm]; simp
      · exact absurd h hm
theorem wipe_wipe {σ : L2.St} : ∀ (vs : List Nat), L2.wipe (L2.wipe σ vs) vs = L2.wipe σ vs := by
  have key : ∀ (us vs : List Nat), (∀ i ∈ us, i ∈ vs) → ∀ τ : L2.St, L2.wipe (L2.wipe τ us) vs = L2.wipe τ vs := by
    intro us
    induction us with
    | nil => intro vs _ τ; rfl
    | cons i us ih =>
      intro vs h τ
      simp only [L2.wipe]
      rw [wipe_in (h i List.mem_cons_self)]
      exact ih vs (fun j hj => h j (List.mem_cons_of_mem _ hj)) τ
  exact fun vs => key vs vs (fun _ h => h) σ
/-- a comprehension's target -/
def gTn (K : PySem.W.Frag) : Tn → TG
  | .nm i => gName i
  | .tp is => gTup K is.length (is.foldr (fun i t => gCons (gName i) t) gNil)
theorem sets_ok {H : Hp} {μ : List Addr} {Q : L2.St → Hp → Prop} : ∀ {is : List Nat} {ws : List W} {vs : List V} {ρ : Env} {σ : L2.St}, ws.length = is.length → Reps G H μ ws vs → EnvR G H μ ρ σ →
    (∀ σ', EnvR G H μ (setAll is ws ρ) σ' → (∀ l : List Nat, (∀ i ∈ is, i ∈ l) → L2.wipe σ' l = L2.wipe σ l) → Q σ' H) → (is.foldr (fun i t => gCons (gName i) t) gNil) vs σ H Q
  | [], [], vs, ρ, σ, _, r, e, q => by
    refine ⟨r.nil_inv, q σ e fun _ _ => rfl⟩
  | i :: is, w :: ws, vs, ρ, σ, hl, r, e, q => by
    simp only [Reps] at r
    obtain ⟨v, vr, rfl, r1, r2⟩ := r
    refine ⟨v, vr, rfl, ?_⟩
    refine sets_ok (by simpa using hl) r2 (e.set i r1) fun σ' e' hw => q σ' e' fun l hl => ?_
    rw [hw l fun j hj => hl j (List.mem_cons_of_mem _ hj), wipe_in (hl i List.mem_cons_self)]
theorem gTn_ok {H : Hp} {μ : List Addr} {t : Tn} {w : W} {v : V} {ρ ρ1 : Env} {σ : L2.St} {l : List Nat} {Q : L2.St → Hp → Prop} (e : EnvR G H μ ρ σ) (r : Rep G H μ w v) (hb : bindT t w ρ = some ρ1) (ht : tnIn t l = true)
    (q : ∀ σ', EnvR G H μ ρ1 σ' → L2.wipe σ' l = L2.wipe σ l → Q σ' H) : gTn G.K t v σ H Q := by
  cases t with
  | nm i =>
    simp only [bindT, Option.some.injEq] at hb
    subst hb
    exact q _ (e.set i r) (wipe_in (by simpa [tnIn] using ht))
  | tp is =>
    simp only [bindT] at hb
    cases w <;> simp only [reduceCtorEq] at hb
    split at hb
    · rename_i hl
      cases hb
      obtain ⟨a, vs, rfl, hq, rs⟩ := r.tup_inv
      refine ⟨a, vs, rfl, hq, by rw [← rs.length]; exact hl, ?_⟩
      refine sets_ok hl rs e fun σ' e' hw => q σ' e' (hw l fun i hi => ?_)
      simp only [tnIn, List.all_eq_true] at ht
      simpa using ht i hi
    · cases hb
theorem noExc_inv {α β : Type} {m : M α} {f : α → M β} {s : Sto} {R : Hp → List Addr → β → V → Prop} {Xx : Value → Option Addr → Hp → Prop} {H : Hp} {μ : List Addr} {Q : V → Hp → Prop} (h : PostR G R Xx H μ ((noExc m s).bind f) Q) : ∃ a s1, m s = .ok a s1 ∧ PostR G R Xx H μ (f a s1) Q := by
  unfold noExc at h
  cases e : m s with
  | ok a s1 => rw [e] at h; exact ⟨a, s1, rfl, h⟩
  | exc x s1 => rw [e] at h; exact h.elim
  | stuck => rw [e] at h; exact h.elim
/-- tuples, and lists that nobody changes -/
def TF : HO → Prop
  | .tup _ => True
  | .frz _ _ => True
  | _ => False
mutual
theorem Rep.keepTF {H H' : Hp} {μ : List Addr} (h : ∀ a u, H a = some u → TF u → H' a = some u) : ∀ {w : W} {v : V}, Rep G H μ w v → Rep G H' μ w v
  | .non, _, r => by simpa only [Rep] using r
  | .bl _, _, r => by simpa only [Rep] using r
  | .int _, _, r => by simpa only [Rep] using r
  | .str _, _, r => by simpa only [Rep] using r
  | .tup ws, _, r => by
    simp only [Rep] at r ⊢
    obtain ⟨a, vs, e, hs, hr⟩ := r
    refine ⟨a, vs, e, ⟨?_, ?_⟩, Reps.keepTF h hr⟩
    · rcases hs.1 with (q | ⟨o, q⟩) | q
      · exact .inl (.inl (h _ _ q trivial))
      · exact .inl (.inr ⟨o, h _ _ q trivial⟩)
      · exact .inr q
    · rcases hs.2 with ⟨o, u, q, d⟩ | q
      · exact .inl ⟨o, u, h _ _ q trivial, d⟩
      · exact .inr q
  | .frl ws, _, r => by
    simp only [Rep] at r ⊢
    obtain ⟨a, vs, e, hs, hr⟩ := r
    refine ⟨a, vs, e, ?_, Reps.keepTF h hr⟩
    rcases hs with ⟨o, q⟩ | q
    · exact .inl ⟨o, h _ _ q trivial⟩
    · exact .inr q
  | .loc n, _, r => by simpa only [Rep] using r
  | .glb _, _, r => by simpa only [Rep] using r
  | .frd _ _, _, r => by
    simp only [Rep] at r ⊢
    obtain ⟨a, us, vs, e, k, q, hr⟩ := r
    exact ⟨a, us, vs, e, k, q, Reps.keepTF h hr⟩
theorem Reps.keepTF {H H' : Hp} {μ : List Addr} (h : ∀ a u, H a = some u → TF u → H' a = some u) : ∀ {ws : List W} {vs : List V}, Reps G H μ ws vs → Reps G H' μ ws vs
  | [], _, r => by simpa only [Reps] using r
  | w :: ws, _, r => by
    simp only [Reps] at r ⊢
    obtain ⟨v, q, e, h1, h2⟩ := r
    exact ⟨v, q, e, Rep.keepTF h h1, Reps.keepTF h h2⟩
end
/-- a thing that the store doesn't tell of is changed -/
theorem SR.touch {H : Hp} {μ : List Addr} {st : Sto} (s : SR G H μ st) {p : Addr} {o : HO} (hp : p ∉ μ) {us : List V} (hl : H p = some (.lst us)) :
    (∀ {ws : List W} {vs : List V}, Reps G H μ ws vs → Reps G (upd H p o) μ ws vs) ∧ SR G (upd H p o) μ st := by
  have key : ∀ {ws : List W} {vs : List V}, Reps G H μ ws vs → Reps G (upd H p o) μ ws vs := fun r => r.keepTF fun a u e h => by
    rw [upd_ne]
    · exact e
    · intro z
      rw [z, hl] at e
      cases e
      exact h
  refine ⟨key, s.len, s.nd, fun n a u hm ho => ?_⟩
  have q := s.ob n a u hm ho
  have ne : a ≠ p := fun z => hp (z ▸ List.mem_of_getElem? hm)
  exact q.lift (upd_ne ne) key
theorem Grow.touch {H H1 : Hp} {μ μ1 : List Addr} {p : Addr} {o : HO} (g : Grow H H1 μ μ1) (hp : H p = none) : Grow H (upd H1 p o) μ μ1 := by
  refine ⟨g.mu, fun a u e ha => ?_, fun a e => ?_⟩
  · rw [upd_ne (ne_of_none e hp)]; exact g.keep a u e ha
  · by_cases q : a = p
    · subst q; exact hp
    · rw [upd_ne q] at e; exact g.stay a e
/-- a comprehension at its i-th turn -/
def LcInv (G : Gs) (φ : Nat → List W → M W) (elt : Mi.E) (cond : List Mi.E) (t : Tn) (ρw : Env) (ws : List W) (nn : List (Nat × List W)) (ys : List W) (stF : Sto) (H1 : Hp) (μ1 : List Addr) (D : Addr) (i : Nat) (H : Hp) : Prop :=
  ∃ (μ2 : List Addr) (st2 : Sto) (ys0 : List W) (acc : List V) (yr : List W), Grow H1 H μ1 μ2 ∧ SR G H μ2 st2 ∧ H D = some (.lst acc) ∧ D ∉ μ2 ∧ Reps G H μ2 ys0 acc ∧ acc.length ≤ i ∧
    lcGo (fun ρ' => den φ elt ρ') (fun ρ' => denC φ cond ρ') t ρw (fun s => stays s nn) (ws.drop i) st2 = .ok yr stF ∧ ys = ys0 ++ yr
abbrev WF : WX := fun _ _ _ _ => False
/-- the comprehension's reading, from the small machine's -/
theorem lc_ok {elt : Mi.E} {cond : List Mi.E} {t : Tn} {own : List Nat} {ik : Ik} {its : List Mi.E} {σ : L2.St} {H : Hp} {Q : VK} (ht : tnIn t own = true) (h : tM G Wh (den φ (.lc elt t own ik its cond)) σ H Q) :
    tLc (tMI G Wh fun ρ => bnd (dens φ its ρ) (iter ik)) (gTn G.K t) (tMB G WF fun ρ => denC φ cond ρ) (tM G WF (den φ elt)) own σ H Q := by
  obtain ⟨ρ, μ, st, er, sr, p⟩ := h
  have p : Post G (fun c d => Wh c d σ) H μ (((bnd (dens φ its ρ) (iter ik)) st).bind fun it => bnd (noExc (lcGo (fun ρ' => den φ elt ρ') (fun ρ' => denC φ cond ρ') t (Mi.wipe ρ own) (fun s => stays s it.2) it.1)) fun ys => lay (.lst ys)) Q := by
    simp only [den] at p
    show Post G _ H μ (((dens φ its ρ st).bind (iter ik)).bind _) Q
    rw [bind_assoc]
    exact p
  refine ⟨ρ, μ, st, er, sr, (PostR.bind (R1 := IR G) p).mono ?_ fun _ _ _ z => z⟩
  rintro J H1 ⟨μ1, st1, ⟨ws, nn⟩, g1, sr1, ⟨hz, src, hit, hsrc⟩, p1⟩ D hD
  obtain ⟨ys, stF, hgo, p2⟩ := noExc_inv p1
  dsimp only at hgo hz hit hsrc
  obtain ⟨gD, srD⟩ := sr1.temp (o := .lst []) hD
  have er1 := er.grow sr g1
  have start : LcInv G φ elt cond t (Mi.wipe ρ own) ws nn ys stF H1 μ1 D 0 (upd H1 D (.lst [])) := ⟨μ1, st1, [], [], ys, gD, srD, upd_same, sr1.fresh hD, Reps.nil_, Nat.le_refl _, by simpa using hgo, rfl⟩
  refine ⟨fun i m H => m = ws.length - i ∧ i ≤ ws.length ∧ LcInv G φ elt cond t (Mi.wipe ρ own) ws nn ys stF H1 μ1 D i H, ⟨ws.length, by simp, Nat.zero_le _, start⟩, ?_⟩
  rintro i m H2 ⟨rfl, hi, μ2, st2, ys0, acc, yr, g2, sr2, hD2, nD, racc, hacc, hgo2, hys⟩
  have hsrc2 := srcs sr1 g2 hsrc
  by_cases hlt : i < ws.length
  · refine .inr ?_
    rw [List.drop_eq_getElem_cons hlt] at hgo2
    simp only [lcGo] at hgo2
    split at hgo2
    · rename_i hchk
      cases hb : bindT t ws[i] (Mi.wipe ρ own) with
      | none => rw [hb] at hgo2; cases hgo2
      | some ρ1 =>
        rw [hb] at hgo2
        dsimp only at hgo2
        obtain ⟨b, s3, hcond, hgo3⟩ := bind_ok_inv hgo2
        obtain ⟨jgo, jy⟩ := hit.turn H2 μ2 st2 i ws[i] sr2 hchk hsrc2 (List.getElem?_eq_getElem hlt)
        refine ⟨jgo, LcInv G φ elt cond t (Mi.wipe ρ own) ws nn ys stF H1 μ1 D (i + 1), fun H' hN => ⟨ws.length - (i + 1), by omega, rfl, hlt, hN⟩, fun x H3 hy => ?_⟩
        obtain ⟨g3, sr3, rx⟩ := jy x H3 hy
        have erw : EnvR G H3 μ2 (Mi.wipe ρ own) (L2.wipe σ own) := (((er1.grow sr1 g2).grow sr2 g3).wiped own)
        refine gTn_ok (l := own) erw rx hb ht fun σ2 er2 hw => ⟨by rw [hw, wipe_wipe], ρ1, μ2, st2, er2, sr3, ?_⟩
        show PostB G _ H3 μ2 (denC φ cond ρ1 st2) _
        rw [hcond]
        intro b' H4 μ4 g4 sr4 hbb
        cases hbb
        have gg := (g2.trans g3).trans g4
        have hD4 : H4 D = some (.lst acc) := g4.keep _ _ (g3.keep _ _ hD2 nD) nD
        have nD4 : D ∉ μ4 := by
          obtain ⟨r, e, hr⟩ := g4.mu
          rw [e]
          intro hm
          rcases List.mem_append.mp hm with h | h
          · exact nD h
          · have := hr D h
            rw [g3.keep _ _ hD2 nD] at this; cases this
        have racc4 := (racc.grow sr2 g3).grow sr3 g4
        cases b with
        | true =>
          rw [if_pos rfl] at hgo3
          obtain ⟨y, s5, hy5, hgo4⟩ := bind_ok_inv hgo3
          obtain ⟨yr', s6, hgo5, e6⟩ := bind_ok_inv hgo4
          cases e6
          rw [if_pos rfl]
          refine ⟨ρ1, μ4, s3, er2.grow sr3 g4, sr4, ?_⟩
          rw [hy5]
          intro v H5 μ5 g5 sr5 rv
          have hD5 : H5 D = some (.lst acc) := g5.keep _ _ hD4 nD4
          have nD5 : D ∉ μ5 := by
            obtain ⟨r, e, hr⟩ := g5.mu
            rw [e]
            intro hm
            rcases List.mem_append.mp hm with h | h
            · exact nD4 h
            · have := hr D h
              rw [hD4] at this; cases this
          obtain ⟨gU, srU⟩ := sr5.touch (p := D) (o := .lst (acc ++ [v])) nD5 hD5
          refine ⟨acc, hD5, SZ_lt (by omega), μ5, s5, ys0 ++ [y], acc ++ [v], yr', (gg.trans g5).touch hD, srU, upd_same, nD5, ?_, by simp; omega, hgo5, by rw [hys]; simp⟩
          exact gU (((racc4.grow sr4 g5).append_ (Reps.nil_.cons_ rv)))
        | false =>
          rw [if_neg (by decide)] at hgo3 ⊢
          exact ⟨μ4, s3, ys0, acc, yr, gg, sr4, hD4, nD4, racc4, by omega, hgo3, hys⟩
    · cases hgo2
  · refine .inl ?_
    have e : i = ws.length := by omega
    subst e
    rw [List.drop_length] at hgo2
    simp only [lcGo] at hgo2
    split at hgo2
    · rename_i hchk
      cases hgo2
      refine ⟨hit.stop H2 μ2 _ sr2 hchk hsrc2, ?_⟩
      have e2 : ys = ys0 := by simpa using hys
      subst e2
      refine p2 (.ref D) H2 (μ2 ++ [D]) ?_ (sr2.adopt nD ⟨acc, hD2, racc.more [D]⟩) ?_
      · obtain ⟨⟨r, e, hr⟩, h1, h2⟩ := g2
        refine ⟨⟨r ++ [D], by rw [e, List.append_assoc], fun a ha => ?_⟩, h1, h2⟩
        rcases List.mem_append.mp ha with h | h
        · exact hr a h
        · simp at h; subst h; exact hD
      · simp only [Rep]
        exact ⟨D, rfl, by rw [← sr2.len]; simp⟩
    · cases hgo2
/-- a dict comprehension at its i-th turn -/
def DcInv (G : Gs) (φ : Nat → List W → M W) (ke ve : Mi.E) (cond : List Mi.E) (t : Tn) (ρw : Env) (ws : List W) (nn : List (Nat × List W)) (ys : List (W × W)) (stF : Sto) (H1 : Hp) (μ1 : List Addr) (D : Addr) (i : Nat) (H : Hp) : Prop :=
  ∃ (μ2 : List Addr) (st2 : Sto) (ys0 : List (W × W)) (acc : List (Key × V)) (yr : List (W × W)), Grow H1 H μ1 μ2 ∧ SR G H μ2 st2 ∧ H D = some (.dK acc) ∧ D ∉ μ2 ∧ DRel G H μ2 (mergeW [] ys0) acc ∧ acc.length ≤ i ∧
    lcGo (fun ρ' => bnd (den φ ke ρ') fun x => bnd (den φ ve ρ') fun y => if isKey x = true then ret (x, y) else bad) (fun ρ' => denC φ cond ρ') t ρw (fun s => stays s nn) (ws.drop i) st2 = .ok yr stF ∧ ys = ys0 ++ yr
theorem SR.touchD {H : Hp} {μ : List Addr} {st : Sto} (s : SR G H μ st) {p : Addr} {o : HO} (hp : p ∉ μ) {us : List (Key × V)} (hl : H p = some (.dK us)) :
    (∀ {ws : List W} {vs : List V}, Reps G H μ ws vs → Reps G (upd H p o) μ ws vs) ∧ SR G (upd H p o) μ st := by
  have key : ∀ {ws : List W} {vs : List V}, Reps G H μ ws vs → Reps G (upd H p o) μ ws vs := fun r => r.keepTF fun a u e h => by
    rw [upd_ne]
    · exact e
    · intro z
      rw [z, hl] at e
      cases e
      exact h
  refine ⟨key, s.len, s.nd, fun n a u hm ho => ?_⟩
  have q := s.ob n a u hm ho
  have ne : a ≠ p := fun z => hp (z ▸ List.mem_of_getElem? hm)
  exact q.lift (upd_ne ne) key
theorem not_mem_grow {H H' : Hp} {μ μ' : List Addr} {D : Addr} {o : HO} (g : Grow H H' μ μ') (n : D ∉ μ) (h : H D = some o) : D ∉ μ' := by
  obtain ⟨r, e, hr⟩ := g.mu
  rw [e]
  intro hm
  rcases List.mem_append.mp hm with h' | h'
  · exact n h'
  · have := hr D h'
    rw [h] at this; cases this
theorem putK_len {kvs : List (Key × V)} {k : Key} {v : V} : (putK kvs k v).length ≤ kvs.length + 1 := length_putK kvs k v
theorem mergeW_snoc (a b : List (W × W)) (p : W × W) : mergeW a (b ++ [p]) = putW (mergeW a b) p.1 p.2 := by
  unfold mergeW
  rw [List.foldl_append]
  rfl
theorem dc_ok {ke ve : Mi.E} {cond : List Mi.E} {t : Tn} {own : List Nat} {ik : Ik} {its : List Mi.E} {σ : L2.St} {H : Hp} {Q : VK} (ht : tnIn t own = true) (h : tM G Wh (den φ (.dc ke ve t own ik its cond)) σ H Q) :
    tDc (tMI G Wh fun ρ => bnd (dens φ its ρ) (iter ik)) (gTn G.K t) (tMB G WF fun ρ => denC φ cond ρ) (tM G WF (den φ ke)) (tM G WF (den φ ve)) own σ H Q := by
  obtain ⟨ρ, μ, st, er, sr, p⟩ := h
  have p : Post G (fun c d => Wh c d σ) H μ (((bnd (dens φ its ρ) (iter ik)) st).bind fun it => bnd (noExc (lcGo (fun ρ' => bnd (den φ ke ρ') fun x => bnd (den φ ve ρ') fun y => if isKey x = true then ret (x, y) else bad) (fun ρ' => denC φ cond ρ') t (Mi.wipe ρ own) (fun s => stays s it.2) it.1)) fun kvs => lay (.dct (mergeW [] kvs))) Q := by
    simp only [den] at p
    show Post G _ H μ (((dens φ its ρ st).bind (iter ik)).bind _) Q
    rw [bind_assoc]
    exact p
  refine ⟨ρ, μ, st, er, sr, (PostR.bind (R1 := IR G) p).mono ?_ fun _ _ _ z => z⟩
  rintro J H1 ⟨μ1, st1, ⟨ws, nn⟩, g1, sr1, ⟨hz, src, hit, hsrc⟩, p1⟩ D hD
  obtain ⟨ys, stF, hgo, p2⟩ := noExc_inv p1
  dsimp only at hgo hz hit hsrc
  obtain ⟨gD, srD⟩ := sr1.temp (o := .dK []) hD
  have er1 := er.grow sr g1
  have start : DcInv G φ ke ve cond t (Mi.wipe ρ own) ws nn ys stF H1 μ1 D 0 (upd H1 D (.dK [])) := ⟨μ1, st1, [], [], ys, gD, srD, upd_same, sr1.fresh hD, .nil_, Nat.le_refl _, by simpa using hgo, rfl⟩
  refine ⟨fun i m H => m = ws.length - i ∧ i ≤ ws.length ∧ DcInv G φ ke ve cond t (Mi.wipe ρ own) ws nn ys stF H1 μ1 D i H, ⟨ws.length, by simp, Nat.zero_le _, start⟩, ?_⟩
  rintro i m H2 ⟨rfl, hi, μ2, st2, ys0, acc, yr, g2, sr2, hD2, nD, racc, hacc, hgo2, hys⟩
  have hsrc2 := srcs sr1 g2 hsrc
  by_cases hlt : i < ws.length
  · refine .inr ?_
    rw [List.drop_eq_getElem_cons hlt] at hgo2
    simp only [lcGo] at hgo2
    split at hgo2
    · rename_i hchk
      cases hb : bindT t ws[i] (Mi.wipe ρ own) with
      | none => rw [hb] at hgo2; cases hgo2
      | some ρ1 =>
        rw [hb] at hgo2
        dsimp only at hgo2
        obtain ⟨b, s3, hcond, hgo3⟩ := bind_ok_inv hgo2
        obtain ⟨jgo, jy⟩ := hit.turn H2 μ2 st2 i ws[i] sr2 hchk hsrc2 (List.getElem?_eq_getElem hlt)
        refine ⟨jgo, DcInv G φ ke ve cond t (Mi.wipe ρ own) ws nn ys stF H1 μ1 D (i + 1), fun H' hN => ⟨ws.length - (i + 1), by omega, rfl, hlt, hN⟩, fun x H3 hy => ?_⟩
        obtain ⟨g3, sr3, rx⟩ := jy x H3 hy
        have erw : EnvR G H3 μ2 (Mi.wipe ρ own) (L2.wipe σ own) := (((er1.grow sr1 g2).grow sr2 g3).wiped own)
        refine gTn_ok (l := own) erw rx hb ht fun σ2 er2 hw => ⟨by rw [hw, wipe_wipe], ρ1, μ2, st2, er2, sr3, ?_⟩
        show PostB G _ H3 μ2 (denC φ cond ρ1 st2) _
        rw [hcond]
        intro b' H4 μ4 g4 sr4 hbb
        cases hbb
        have gg := (g2.trans g3).trans g4
        have hD3 : H3 D = some (.dK acc) := g3.keep _ _ hD2 nD
        have hD4 : H4 D = some (.dK acc) := g4.keep _ _ hD3 nD
        have nD4 : D ∉ μ4 := not_mem_grow g4 nD hD3
        have racc4 := (racc.grow sr2 g3).grow sr3 g4
        cases b with
        | true =>
          rw [if_pos rfl] at hgo3
          obtain ⟨kv, s5, hkv, hgo4⟩ := bind_ok_inv hgo3
          obtain ⟨yr', s6, hgo5, e6⟩ := bind_ok_inv hgo4
          cases e6
          obtain ⟨kx, sk, hk5, hkv⟩ := bind_ok_inv hkv
          obtain ⟨vy, sv, hv5, hkv⟩ := bind_ok_inv hkv
          split at hkv
          · rename_i hkey
            cases hkv
            obtain ⟨k', rfl⟩ := keyW hkey
            rw [if_pos rfl]
            refine ⟨ρ1, μ4, s3, er2.grow sr3 g4, sr4, ?_⟩
            rw [hk5]
            intro kk H5 μ5 g5 sr5 rk
            have hD5 : H5 D = some (.dK acc) := g5.keep _ _ hD4 nD4
            have nD5 : D ∉ μ5 := not_mem_grow g5 nD4 hD4
            refine ⟨ρ1, μ5, sk, (er2.grow sr3 g4).grow sr4 g5, sr5, ?_⟩
            rw [hv5]
            intro vv H6 μ6 g6 sr6 rv
            have hD6 : H6 D = some (.dK acc) := g6.keep _ _ hD5 nD5
            have nD6 : D ∉ μ6 := not_mem_grow g6 nD5 hD5
            obtain ⟨gU, srU⟩ := sr6.touchD (p := D) (o := .dK (putK acc k' vv)) nD6 hD6
            have r6 := ((racc4.grow sr4 g5).grow sr5 g6).put (k := k') rv
            refine ⟨acc, k', kW_rep rk, hD6, SZ_lt (by omega), μ6, s5, ys0 ++ [(kW k', vy)], putK acc k' vv, yr', ((gg.trans g5).trans g6).touch hD, srU, upd_same, nD6, ?_, by have := putK_len (kvs := acc) (k := k') (v := vv); omega, hgo5, by rw [hys]; simp⟩
            rw [mergeW_snoc]
            exact ⟨r6.1, gU r6.2⟩
          · cases hkv
        | false =>
          rw [if_neg (by decide)] at hgo3 ⊢
          exact ⟨μ4, s3, ys0, acc, yr, gg, sr4, hD4, nD4, racc4, by omega, hgo3, hys⟩
    · cases hgo2
  · refine .inl ?_
    have e : i = ws.length := by omega
    subst e
    rw [List.drop_length] at hgo2
    simp only [lcGo] at hgo2
    split at hgo2
    · rename_i hchk
      cases hgo2
      refine ⟨hit.stop H2 μ2 _ sr2 hchk hsrc2, ?_⟩
      have e2 : ys = ys0 := by simpa using hys
      subst e2
      refine p2 (.ref D) H2 (μ2 ++ [D]) ?_ (sr2.adopt nD ⟨acc, hD2, racc.1, racc.2.more [D]⟩) ?_
      · obtain ⟨⟨r, e, hr⟩, h1, h2⟩ := g2
        refine ⟨⟨r ++ [D], by rw [e, List.append_assoc], fun a ha => ?_⟩, h1, h2⟩
        rcases List.mem_append.mp ha with h | h
        · exact hr a h
        · simp at h; subst h; exact hD
      · simp only [Rep]
        exact ⟨D, rfl, by rw [← sr2.len]; simp⟩
    · cases hgo2
end Mi

/-! Mi11: an expression of the text does what the small machine's does. -/
namespace Mi
open PySem L2
variable {G : Gs} {φ : Nat → List W → M W} {k : Nat} {C : CC} {X : Cx} {Wh : WX}

structure SndE (G : Gs) (φ : Nat → List W → M W) (X : Cx) (Wh : WX) (e : Expr) (E : Mi.E) : Prop where
  pe : PE X e (tM G Wh (den φ E))
  pt : PT X e (tMB G Wh fun ρ => bnd (den φ E ρ) tru)
  pi : ∀ tg, okTg E tg = true → PI X tg e (tMI G Wh fun ρ => bnd (dens φ (srcOf E).2 ρ) (iter (srcOf E).1))

theorem pt_of (c : Ctx G φ k C X Wh) {e : Expr} {m : Env → M W} (h : PE X e (tM G Wh m)) (ht : ∀ whole, isTrue e X.env whole = (do let v ← whole; standAt e.pos; holding [v] (truthy v))) : PT X e (tMB G Wh fun ρ => bnd (m ρ) tru) := by
  refine ptImp (pt_truth h ht) fun σ H Q q => ?_
  obtain ⟨ρ, μ, st, er, sr, p⟩ := q
  refine (ahead er sr p).mono fun x H1 ⟨μ1, st1, w, er1, sr1, g1, rx, p1⟩ => ?_
  unfold tru at p1
  cases e : truW st1 w with
  | none => rw [e] at p1; exact p1.elim
  | some b =>
    rw [e] at p1
    exact ⟨b, c.K ▸ is_tru sr1 rx e, p1.okR sr1 rfl⟩
theorem mk (c : Ctx G φ k C X Wh) {e : Expr} {E : Mi.E} (h : PE X e (tM G Wh (den φ E))) (hi : isIt E = false) (ht : ∀ whole, isTrue e X.env whole = (do let v ← whole; standAt e.pos; holding [v] (truthy v))) : SndE G φ X Wh e E := by
  refine ⟨h, pt_of c h ht, fun tg _ => ?_⟩
  have : srcOf E = (.val, [E]) := by cases E <;> first | rfl | cases hi
  rw [this]
  exact snd_val c h
theorem mkPT (c : Ctx G φ k C X Wh) {e : Expr} {E : Mi.E} (h : PE X e (tM G Wh (den φ E))) (hi : isIt E = false) (ht : PT X e (tMB G Wh fun ρ => bnd (den φ E ρ) tru)) : SndE G φ X Wh e E := by
  refine ⟨h, ht, fun tg _ => ?_⟩
  have : srcOf E = (.val, [E]) := by cases E <;> first | rfl | cases hi
  rw [this]
  exact snd_val c h
theorem mkIt {e : Expr} {ik : Ik} {es : List Mi.E} (h : ∀ tg, okTg (.it ik es) tg = true → PI X tg e (tMI G Wh fun ρ => bnd (dens φ es ρ) (iter ik))) : SndE G φ X Wh e (.it ik es) := by
  refine ⟨⟨fun _ _ _ _ _ _ q => ?_⟩, ⟨fun _ _ _ _ _ _ q => ?_⟩, h⟩
  · obtain ⟨ρ, μ, st, er, sr, p⟩ := q
    simp only [den] at p; exact p.elim
  · obtain ⟨ρ, μ, st, er, sr, p⟩ := q
    simp only [den] at p; exact p.elim

/-! ### operators -/
theorem bop_ok (c : Ctx G φ k C X Wh) {op : Operator} {o : Bop} (h : bopOf op = some o) : ∃ r, OpR X (binaryOp op) r ∧ OpIs G r (binop o) := by
  cases op <;> simp only [bopOf, reduceCtorEq, Option.some.injEq] at h <;> subst h
  · refine ⟨_, ?_, is_add⟩
    rw [c.K]
    exact op_add.or (op_add_str.or (MiR.op_catF.or op_cat))
  · exact ⟨_, op_sub, is_sub⟩
  · exact ⟨_, op_mulW.or op_rep, is_mul⟩
  · exact ⟨_, op_mod, is_mod⟩
  · exact ⟨_, op_pow, is_pow⟩
  · exact ⟨_, op_fdivW, is_fdiv⟩
theorem list_is (I : L2.Inv X pins σ H s) {a : Addr} {vs : List V} (h : SqL X.K H a vs) : ∃ its : List Value, its.length = vs.length ∧ s.heap.IsList a its.toArray := by
  obtain ⟨its, rv, ⟨o, n, ho, hc, _, hd⟩, _⟩ := I.list h
  exact ⟨its, (Paired.length rv).symm, o, ho, hc, n, hd⟩
theorem tup_is (I : L2.Inv X pins σ H s) {a : Addr} {vs : List V} (h : SqT X.K H a vs) : ∃ its : List Value, its.length = vs.length ∧ s.heap.IsTuple a its.toArray := by
  obtain ⟨its, rv, ⟨o, ho, hc, n, hd⟩, _⟩ := I.tuple h
  exact ⟨its, (Paired.length rv).symm, o, ho, hc, n, hd⟩
theorem op_emp (hu : X.A.units < cLine) : OpR X (compareOp .Eq) (rEmp X.K false) := by
  intro pins s σ H x y v u Q I rx ry h
  obtain ⟨p, q, xs, ys, rfl, rfl, h⟩ := h
  cases rx
  cases ry
  have fin : ∀ b : Bool, Q (.bl b) H → EP X pins σ Q (.bool b) s := fun b q => ⟨.bl b, H, I, rfl, q⟩
  rcases h with ⟨h1, h2, he, qq⟩ | ⟨h1, h2, ⟨hl, qq⟩ | ⟨rfl, rfl, qq⟩⟩
  · obtain ⟨i1, l1, t1⟩ := tup_is I h1
    obtain ⟨i2, l2, t2⟩ := tup_is I h2
    refine SeqAt.eq_tupleAt (e := fun _ => true) t1 t2 hu (fun j a b => ?_) ?_
    · rcases he with rfl | rfl
      · simp [l1] at a
      · simp [l2] at b
    · have e : ((List.range (min i1.toArray.size i2.toArray.size)).all (fun _ => true) && i1.toArray.size == i2.toArray.size) = ((xs.isEmpty && ys.isEmpty) != false) := by
        rcases he with rfl | rfl
        · cases ys <;> simp_all
        · cases xs <;> simp_all
      rw [e]; exact fin _ qq
  · obtain ⟨i1, l1, t1⟩ := list_is I h1
    obtain ⟨i2, l2, t2⟩ := list_is I h2
    exact SeqAt.eq_list_lengthsAt t1 t2 (by simp [l1, l2, hl]) hu (fin _ qq)
  · obtain ⟨i1, l1, t1⟩ := list_is I h1
    obtain ⟨i2, l2, t2⟩ := list_is I h2
    refine SeqAt.eq_listAt (e := fun _ => true) t1 t2 (by simp [l1, l2]) hu (fun j a b => ?_) ?_
    · simp [l1] at a
    · have e : (List.range i1.toArray.size).all (fun _ => true) = (true != false) := by simp
      rw [e]; exact fin _ qq
theorem op_empN (hu : X.A.units < cLine) : OpR X (compareOp .NotEq) (rEmp X.K true) := by
  intro pins s σ H x y v u Q I rx ry h
  obtain ⟨p, q, xs, ys, rfl, rfl, h⟩ := h
  cases rx
  cases ry
  have fin : ∀ b : Bool, Q (.bl b) H → EP X pins σ Q (.bool b) s := fun b q => ⟨.bl b, H, I, rfl, q⟩
  rcases h with ⟨h1, h2, he, qq⟩ | ⟨h1, h2, ⟨hl, qq⟩ | ⟨rfl, rfl, qq⟩⟩
  · obtain ⟨i1, l1, t1⟩ := tup_is I h1
    obtain ⟨i2, l2, t2⟩ := tup_is I h2
    refine SeqAt.RcNeAt.tuples (e := fun _ => true) t1 t2 hu (fun j a b => ?_) X.prog X.w X.xe _ ?_
    · rcases he with rfl | rfl
      · simp [l1] at a
      · simp [l2] at b
    · have e : (!((List.range (min i1.toArray.size i2.toArray.size)).all (fun _ => true) && i1.toArray.size == i2.toArray.size)) = ((xs.isEmpty && ys.isEmpty) != true) := by
        rcases he with rfl | rfl
        · cases ys <;> simp_all
        · cases xs <;> simp_all
      rw [e]; exact fin _ qq
  · obtain ⟨i1, l1, t1⟩ := list_is I h1
    obtain ⟨i2, l2, t2⟩ := list_is I h2
    exact SeqAt.RcNeAt.lists_lengths t1 t2 (by simp [l1, l2, hl]) hu X.prog X.w X.xe _ (fin _ qq)
  · obtain ⟨i1, l1, t1⟩ := list_is I h1
    obtain ⟨i2, l2, t2⟩ := list_is I h2
    refine SeqAt.RcNeAt.lists (e := fun _ => true) t1 t2 (by simp [l1, l2]) hu (fun j a b => ?_) X.prog X.w X.xe _ ?_
    · simp [l1] at a
    · have e : (!(List.range i1.toArray.size).all (fun _ => true)) = (true != true) := by simp
      rw [e]; exact fin _ qq
theorem op_notin_sign : OpR X (compareOp .NotIn) (rInSign true) := by
  intro pins s σ H x y v u Q I rx ry h
  obtain ⟨c, z, rfl, rfl, q⟩ := h
  exact op_notIn_sign pins s σ H _ _ v u Q I rx ry ⟨c, z, rfl, rfl, by simpa using q⟩
theorem op_isin_sign : OpR X (compareOp .In) (rInSign false) := by
  intro pins s σ H x y v u Q I rx ry h
  obtain ⟨c, z, rfl, rfl, q⟩ := h
  exact op_in_sign pins s σ H _ _ v u Q I rx ry ⟨c, z, rfl, rfl, by simpa using q⟩
theorem op_inD (hu : X.A.units + 1 < cLine) : OpR X (compareOp .In) (rInD false) := by
  intro pins s σ H x y v u Q I rx ry h
  obtain ⟨p, o, rfl, g, q⟩ := h
  cases ry
  exact d_in hu I g rx fun s' I' => ⟨.bl o.isSome, H, I', rfl, by simpa using q⟩
theorem op_notinD (hu : X.A.units + 1 < cLine) : OpR X (compareOp .NotIn) (rInD true) := by
  intro pins s σ H x y v u Q I rx ry h
  obtain ⟨p, o, rfl, g, q⟩ := h
  cases ry
  exact d_notIn hu I g rx fun s' I' => ⟨.bl !o.isSome, H, I', rfl, by cases o <;> simpa using q⟩
theorem op_inK (hK : G.K = X.K) (hP : G.prm = X.w.params) : OpR X (compareOp .In) (rInK G false) := by
  intro pins s σ H x y v u Q I rx ry h
  obtain ⟨z, p, ks, us, rfl, rfl, ⟨es, n, hl, hk, lo, _, hn⟩, q⟩ := h
  rw [hK] at hl hn
  rw [hP] at hk
  exact op_in_kd (es := es) (n := n) ⟨hl, hk, lo⟩ pins s σ H _ _ v u Q I rx ry ⟨z, _, rfl, rfl, hn z, by simpa using q⟩
theorem op_notinK (hK : G.K = X.K) (hP : G.prm = X.w.params) : OpR X (compareOp .NotIn) (rInK G true) := by
  intro pins s σ H x y v u Q I rx ry h
  obtain ⟨z, p, ks, us, rfl, rfl, ⟨es, n, hl, hk, lo, _, hn⟩, q⟩ := h
  rw [hK] at hl hn
  rw [hP] at hk
  refine op_notIn_kd (es := es) (n := n) ⟨hl, hk, lo⟩ pins s σ H _ _ v u Q I rx ry ⟨z, _, rfl, rfl, hn z, ?_⟩
  cases e : (ks.zip us).lookup z <;> rw [e] at q <;> simpa using q
theorem cop_ok (c : Ctx G φ k C X Wh) {op : CmpOp} {o : Cop} (h : copOf op = some o) : ∃ r, OpR X (compareOp op) r ∧ OpIs G r (cmpop o) := by
  have hu := c.room.units
  cases op <;> simp only [copOf, reduceCtorEq, Option.some.injEq] at h <;> subst h
  · refine ⟨_, ?_, is_eq⟩
    rw [c.K]; exact op_eq.or ((op_emp (by omega)).or (op_eqD hu))
  · refine ⟨_, ?_, is_ne⟩
    rw [c.K]; exact op_ne.or ((op_empN (by omega)).or (op_neD hu))
  · exact ⟨_, op_lt.or op_lt_str, is_lt⟩
  · exact ⟨_, op_le.or op_le_str, is_le⟩
  · exact ⟨_, op_gt, is_gt⟩
  · exact ⟨_, op_ge, is_ge⟩
  · exact ⟨_, op_isN, is_is⟩
  · exact ⟨_, op_notN, is_isnot⟩
  · refine ⟨_, ?_, is_in⟩
    exact (op_isin_sign.or (c.K ▸ op_in_seq)).or ((op_inD (by omega)).or (op_inK c.K c.prm))
  · refine ⟨_, ?_, is_notin⟩
    exact (op_notin_sign.or (c.K ▸ op_notIn_seq)).or ((op_notinD (by omega)).or (op_notinK c.K c.prm))
/-- a comparison answers with a truth -/
theorem cmp_bl (o : Cop) (a b : W) (st : Sto) : (∃ t, cmpop o a b st = .ok (.bl t) st) ∨ cmpop o a b st = .stuck := by
  unfold cmpop
  cases cmpB o a b st with
  | none => exact .inr rfl
  | some t => exact .inl ⟨t, rfl⟩

/-! ### the cases -/
theorem snd_tup {n : Nat} {es : List Expr} {Es : List Mi.E} {kk : Nat} {pos : Pos} (ha : PA X es (tML G Wh (dens φ Es))) : PE X (.Tuple es kk pos) (tM G Wh (den φ (.tup Es))) := by
  refine peImp (MiR.pe_tupF ha) fun σ H Q q => ?_
  obtain ⟨ρ, μ, st, er, sr, p⟩ := q
  simp only [den] at p
  refine (aheadL er sr p).mono fun x H1 ⟨μ1, st1, w, er1, sr1, g1, rx, p1⟩ => ?_
  split at p1
  · rename_i h
    refine ⟨by rw [← rx.length]; exact SZ_le h, fun q o hq ho => ?_⟩
    obtain ⟨g, s1, r1⟩ := Rep.tup_new sr1 hq ho rx
    exact p1 _ _ μ1 g s1 r1
  · exact p1.elim
theorem snd_lst {n : Nat} {es : List Expr} {Es : List Mi.E} {pos : Pos} (ha : PA X es (tML G Wh (dens φ Es))) : PE X (.List es pos) (tM G Wh (den φ (.lst Es))) := by
  refine peImp (pe_lst ha) fun σ H Q q => ?_
  obtain ⟨ρ, μ, st, er, sr, p⟩ := q
  simp only [den] at p
  refine (aheadL er sr p).mono fun x H1 ⟨μ1, st1, w, er1, sr1, g1, rx, p1⟩ => ?_
  split at p1
  · rename_i h
    refine ⟨by rw [← rx.length]; exact SZ_le h, fun q hq => ?_⟩
    obtain ⟨g, s1, r1⟩ := sr1.lay hq rx
    exact p1 _ _ _ g s1 r1
  · exact p1.elim
theorem snd_not (c : Ctx G φ k C X Wh) {a : Expr} {A : Mi.E} {pos : Pos} (h : SndE G φ X Wh a A) : SndE G φ X Wh (.UnaryOp .Not a pos) (.not A) := by
  refine mkPT c (peImp (pe_notT h.pe) fun σ H Q q => ?_) rfl (ptImp (pt_not h.pt) fun σ H Q q => ?_)
  · obtain ⟨ρ, μ, st, er, sr, p⟩ := q
    simp only [den] at p
    refine (ahead er sr p).mono fun x H1 ⟨μ1, st1, w, er1, sr1, g1, rx, p1⟩ => ?_
    unfold tru at p1
    cases e : truW st1 w with
    | none =>
      have p1 : Post G (fun c d => Wh c d σ) H1 μ1 (Res.bind (match truW st1 w with | some b => .ok b st1 | none => .stuck) _) Q := p1
      rw [e] at p1; exact p1.elim
    | some b =>
      have p1 : Post G (fun c d => Wh c d σ) H1 μ1 (Res.bind (match truW st1 w with | some b => .ok b st1 | none => .stuck) fun b => ret (.bl !b)) Q := p1
      rw [e] at p1
      exact ⟨b, c.K ▸ is_tru sr1 rx e, p1.okR sr1 Rep.bl_⟩
  · obtain ⟨ρ, μ, st, er, sr, p⟩ := q
    have e : (bnd (den φ (.not A) ρ) tru) st = (bnd (den φ A ρ) tru st).bind fun b => ret !b := by
      simp only [den]
      show ((den φ A ρ st).bind _).bind _ = ((den φ A ρ st).bind _).bind _
      rw [bind_assoc, bind_assoc]
      refine bind_congr _ fun w s => ?_
      show (((tru w) s).bind _).bind _ = _
      rw [bind_assoc]
      exact bind_congr _ fun b s => rfl
    have p : PostB G (fun c d => Wh c d σ) H μ ((bnd (den φ A ρ) tru st).bind fun b => ret !b) Q := e ▸ p
    exact (aheadB (m := fun ρ => bnd (den φ A ρ) tru) er sr p).mono fun b H1 ⟨μ1, st1, er1, sr1, g1, p1⟩ => p1.okR sr1 rfl
theorem snd_neg {a : Expr} {A : Mi.E} {pos : Pos} (h : PE X a (tM G Wh (den φ A))) : PE X (.UnaryOp .USub a pos) (tM G Wh (den φ (.neg A))) := by
  refine peImp (pe_un un_neg h) fun σ H Q q => ?_
  obtain ⟨ρ, μ, st, er, sr, p⟩ := q
  simp only [den] at p
  refine (ahead er sr p).mono fun x H1 ⟨μ1, st1, w, er1, sr1, g1, rx, p1⟩ => ?_
  cases w <;> first | exact p1.elim | skip
  exact ⟨_, rx.int_inv, p1.okR sr1 Rep.int_⟩
/-- an answer that is a truth, as a test -/
theorem bool_post {r : Res W} {Xx : Value → Option Addr → Hp → Prop} {H : Hp} {μ : List Addr} {Q : Bool → Hp → Prop} (hb : ∀ w s', r = .ok w s' → ∃ t, w = .bl t) (p : PostB G Xx H μ (r.bind tru) Q) : Post G Xx H μ r fun x H' => ∃ k, x = .bl k ∧ Q k H' := by
  cases r with
  | stuck => exact p
  | exc x s1 => exact p
  | ok w s1 =>
    obtain ⟨t, rfl⟩ := hb w s1 rfl
    exact fun v H' μ' g s r => ⟨t, r.bl_inv, p _ H' μ' g s rfl⟩
theorem cmp_isbl {o : Cop} {a b w : W} {s s' : Sto} (h : cmpop o a b s = .ok w s') : ∃ t, w = .bl t := by
  rcases cmp_bl o a b s with ⟨t, e⟩ | e
  · rw [e] at h; cases h; exact ⟨t, rfl⟩
  · rw [e] at h; cases h
theorem snd_cmp (c : Ctx G φ k C X Wh) {a b : Expr} {A B : Mi.E} {op : CmpOp} {o : Cop} {pos : Pos} (ho : copOf op = some o) (hm : behindInMarks op b = false) (ha : SndE G φ X Wh a A) (hb : SndE G φ X Wh b B) : SndE G φ X Wh (.Compare a [op] [b] pos) (.cmp o A B) := by
  obtain ⟨r, h1, h2⟩ := cop_ok c ho
  refine mkPT c (peImp (pe_cmpR h1 ha.pe hb.pe hm) fun σ H Q q => ?_) rfl (ptImp (pt_cmpR h1 ha.pe hb.pe hm) fun σ H Q q => ?_)
  · exact snd_op h2 (by simpa only [den] using q)
  · obtain ⟨ρ, μ, st, er, sr, p⟩ := q
    refine snd_op h2 (Wh := Wh) ⟨ρ, μ, st, er, sr, ?_⟩
    refine bool_post (fun w s' e => ?_) (by simpa only [den] using p)
    obtain ⟨x, s2, _, q2⟩ := bind_ok_inv e
    obtain ⟨y, s3, _, q3⟩ := bind_ok_inv q2
    exact cmp_isbl q3
theorem snd_cmp2 (c : Ctx G φ k C X Wh) {a b d : Expr} {A B D : Mi.E} {op op' : CmpOp} {o o' : Cop} {pos : Pos} (ho : copOf op = some o) (ho' : copOf op' = some o') (hm : behindInMarks op' d = false) (ha : SndE G φ X Wh a A) (hb : SndE G φ X Wh b B) (hd : SndE G φ X Wh d D) :
    SndE G φ X Wh (.Compare a [op, op'] [b, d] pos) (.cmp2 o o' A B D) := by
  obtain ⟨r, h1, h2⟩ := cop_ok c ho
  obtain ⟨r', h1', h2'⟩ := cop_ok c ho'
  have hl : lastMarks [op, op'] [b, d] = false := hm
  have core : ∀ {σ : L2.St} {H : Hp} {Q : VK}, tM G Wh (den φ (.cmp2 o o' A B D)) σ H Q → tChain r r' (tM G Wh (den φ A)) (tM G Wh (den φ B)) (tM G Wh (den φ D)) σ H Q := by
    intro σ H Q q
    obtain ⟨ρ, μ, st, er, sr, p⟩ := q
    simp only [den] at p
    refine (ahead er sr p).mono fun x H1 ⟨μ1, st1, w, er1, sr1, g1, rx, p1⟩ => ?_
    refine (ahead er1 sr1 p1).mono fun y H2 ⟨μ2, st2, u, er2, sr2, g2, ry, p2⟩ => ?_
    have rx2 := rx.grow sr1 g2
    refine h2 H2 μ2 st2 x y w u (fun c d => Wh c d σ) _ sr2 rx2 ry ?_
    rcases cmp_bl o w u st2 with ⟨t, q4⟩ | q4
    · have p2 : Post G (fun c d => Wh c d σ) H2 μ2 (Res.bind (cmpop o w u st2) _) Q := p2
      rw [q4] at p2 ⊢
      intro v H3 μ3 g3 sr3 rv
      refine ⟨t, rv.bl_inv, ?_⟩
      cases t with
      | true =>
        rw [if_pos rfl]
        have p3 := PostR.shift g3 p2
        refine (ahead (er2.grow sr2 g3) sr3 p3).mono fun z H4 ⟨μ4, st4, t, er4, sr4, g4, rz, p4⟩ => ?_
        exact h2' H4 μ4 st4 y z u t _ Q sr4 ((ry.grow sr2 g3).grow sr3 g4) rz p4
      | false =>
        rw [if_neg (by decide)]
        have p3 := PostR.shift g3 p2
        exact p3.okR sr3 Rep.bl_
    · have p2 : Post G (fun c d => Wh c d σ) H2 μ2 (Res.bind (cmpop o w u st2) _) Q := p2
      rw [q4] at p2
      exact p2.elim
  refine mkPT c (peImp (pe_chain h1 h1' ha.pe hb.pe hd.pe hl) fun σ H Q q => core q) rfl (ptImp (pt_chain h1 h1' ha.pe hb.pe hd.pe hl) fun σ H Q q => core ?_)
  obtain ⟨ρ, μ, st, er, sr, p⟩ := q
  refine ⟨ρ, μ, st, er, sr, bool_post (fun w s' e => ?_) p⟩
  simp only [den] at e
  obtain ⟨x, s2, _, q2⟩ := bind_ok_inv e
  obtain ⟨y, s3, _, q3⟩ := bind_ok_inv q2
  obtain ⟨z, s4, _, q4⟩ := bind_ok_inv q3
  split at q4
  · obtain ⟨u, s5, _, q5⟩ := bind_ok_inv q4
    exact cmp_isbl q5
  · cases q4; exact ⟨_, rfl⟩
  · cases q4

theorem denAnd_cons (ρ : Env) (e f : Mi.E) (es : List Mi.E) : denAnd φ (e :: f :: es) ρ = bnd (den φ e ρ) fun x => bnd (tru x) fun t => if t then denAnd φ (f :: es) ρ else ret x := by simp only [denAnd]
theorem denOr_cons (ρ : Env) (e f : Mi.E) (es : List Mi.E) : denOr φ (e :: f :: es) ρ = bnd (den φ e ρ) fun x => bnd (tru x) fun t => if t then ret x else denOr φ (f :: es) ρ := by simp only [denOr]
/-- the truth of a value, and how it is known -/
theorem tru_post {γ δ : Type} {R : Hp → List Addr → γ → δ → Prop} {Xx : Value → Option Addr → Hp → Prop} {H : Hp} {μ : List Addr} {st : Sto} {w : W} {f : Bool → M γ} {Q : δ → Hp → Prop} (p : PostR G R Xx H μ (bnd (tru w) f st) Q) : ∃ b, truW st w = some b ∧ PostR G R Xx H μ (f b st) Q := by
  have p : PostR G R Xx H μ (Res.bind (match truW st w with | some b => .ok b st | none => .stuck) f) Q := p
  cases e : truW st w with
  | none => rw [e] at p; exact p.elim
  | some b => rw [e] at p; exact ⟨b, rfl, p⟩
theorem tru_of {s : Sto} {w : W} {b : Bool} (e : truW s w = some b) : tru w s = .ok b s := by unfold tru; rw [e]
/-- and, as a value and as a test -/
theorem snd_ands (c : Ctx G φ k C X Wh) {n : Nat} (ih : ∀ e E, comp n C e = some E → SndE G φ X Wh e E) {pos : Pos} : ∀ {es : List Expr} {Es : List Mi.E}, es.mapM (comp n C) = some Es →
    (es ≠ [] → PE X (.BoolOp .And es pos) (tM G Wh fun ρ => denAnd φ Es ρ) ∧ PW X (.BoolOp .And es pos) (tMB G Wh fun ρ => bnd (denAnd φ Es ρ) tru))
  | [], _, _ => fun h => absurd rfl h
  | [e], Es, h => fun _ => by
    rw [List.mapM_cons] at h
    simp only [Option.pure_def, Option.bind_eq_bind, Option.bind_eq_some_iff, Option.some.injEq, List.mapM_nil] at h
    obtain ⟨E, h1, _, rfl, rfl⟩ := h
    have s := ih e E h1
    exact ⟨by simpa only [denAnd] using pe_one s.pe, by simpa only [denAnd] using pw_and1 s.pt⟩
  | e :: f :: es, Es, h => fun _ => by
    rw [List.mapM_cons] at h
    simp only [Option.pure_def, Option.bind_eq_bind, Option.bind_eq_some_iff, Option.some.injEq] at h
    obtain ⟨E, h1, Es', h2, rfl⟩ := h
    have s := ih e E h1
    obtain ⟨i1, i2⟩ := snd_ands c ih (pos := pos) h2 (by simp)
    have hne : ∃ F Fs, Es' = F :: Fs := by
      rw [List.mapM_cons] at h2
      simp only [Option.pure_def, Option.bind_eq_bind, Option.bind_eq_some_iff, Option.some.injEq] at h2
      obtain ⟨F, _, Fs, _, e⟩ := h2
      exact ⟨F, Fs, e.symm⟩
    obtain ⟨F, Fs, rfl⟩ := hne
    refine ⟨peImp (pe_andT s.pe i1) fun σ H Q q => ?_, pwImp (pw_and s.pt i2) fun σ H Q q => ?_⟩
    · obtain ⟨ρ, μ, st, er, sr, p⟩ := q
      simp only [denAnd_cons] at p
      refine (ahead er sr p).mono fun x H1 ⟨μ1, st1, w, er1, sr1, g1, rx, p1⟩ => ?_
      obtain ⟨b, eb, p2⟩ := tru_post p1
      refine ⟨b, c.K ▸ is_tru sr1 rx eb, ?_⟩
      cases b with
      | true => rw [if_pos rfl] at p2 ⊢; exact ⟨ρ, μ1, st1, er1, sr1, p2⟩
      | false => rw [if_neg (by decide)] at p2 ⊢; exact p2.okR sr1 rx
    · obtain ⟨ρ, μ, st, er, sr, p⟩ := q
      simp only [denAnd_cons] at p
      have e : ∀ s, (bnd (bnd (den φ E ρ) fun x => bnd (tru x) fun t => if t then denAnd φ (F :: Fs) ρ else ret x) tru) s = ((bnd (den φ E ρ) tru) s).bind fun t => if t then bnd (denAnd φ (F :: Fs) ρ) tru else ret false := by
        intro s
        show ((den φ E ρ s).bind _).bind _ = ((den φ E ρ s).bind _).bind _
        rw [bind_assoc, bind_assoc]
        refine bind_congr _ fun w s1 => ?_
        show ((tru w s1).bind _).bind _ = (tru w s1).bind _
        cases et : truW s1 w with
        | none => unfold tru; rw [et]; rfl
        | some b =>
          rw [tru_of et]
          cases b with
          | true => rfl
          | false => exact tru_of et
      have p : PostB G (fun c d => Wh c d σ) H μ (((bnd (den φ E ρ) tru) st).bind fun t => if t then bnd (denAnd φ (F :: Fs) ρ) tru else ret false) Q := by rw [← e]; exact p
      refine (aheadB (m := fun ρ => bnd (den φ E ρ) tru) er sr p).mono fun b H1 ⟨μ1, st1, er1, sr1, g1, p1⟩ => ?_
      cases b with
      | true => rw [if_pos rfl] at p1 ⊢; exact ⟨ρ, μ1, st1, er1, sr1, p1⟩
      | false => rw [if_neg (by decide)] at p1 ⊢; exact p1.okR sr1 rfl
/-- or -/
theorem snd_ors (c : Ctx G φ k C X Wh) {n : Nat} (ih : ∀ e E, comp n C e = some E → SndE G φ X Wh e E) {pos : Pos} : ∀ {es : List Expr} {Es : List Mi.E}, es.mapM (comp n C) = some Es →
    (es ≠ [] → PE X (.BoolOp .Or es pos) (tM G Wh fun ρ => denOr φ Es ρ) ∧ PW X (.BoolOp .Or es pos) (tMB G Wh fun ρ => bnd (denOr φ Es ρ) tru))
  | [], _, _ => fun h => absurd rfl h
  | [e], Es, h => fun _ => by
    rw [List.mapM_cons] at h
    simp only [Option.pure_def, Option.bind_eq_bind, Option.bind_eq_some_iff, Option.some.injEq, List.mapM_nil] at h
    obtain ⟨E, h1, _, rfl, rfl⟩ := h
    have s := ih e E h1
    exact ⟨by simpa only [denOr] using pe_one s.pe, by simpa only [denOr] using pw_or1 s.pt⟩
  | e :: f :: es, Es, h => fun _ => by
    rw [List.mapM_cons] at h
    simp only [Option.pure_def, Option.bind_eq_bind, Option.bind_eq_some_iff, Option.some.injEq] at h
    obtain ⟨E, h1, Es', h2, rfl⟩ := h
    have s := ih e E h1
    obtain ⟨i1, i2⟩ := snd_ors c ih (pos := pos) h2 (by simp)
    have hne : ∃ F Fs, Es' = F :: Fs := by
      rw [List.mapM_cons] at h2
      simp only [Option.pure_def, Option.bind_eq_bind, Option.bind_eq_some_iff, Option.some.injEq] at h2
      obtain ⟨F, _, Fs, _, e⟩ := h2
      exact ⟨F, Fs, e.symm⟩
    obtain ⟨F, Fs, rfl⟩ := hne
    refine ⟨peImp (pe_orT s.pe i1) fun σ H Q q => ?_, pwImp (pw_or s.pt i2) fun σ H Q q => ?_⟩
    · obtain ⟨ρ, μ, st, er, sr, p⟩ := q
      simp only [denOr_cons] at p
      refine (ahead er sr p).mono fun x H1 ⟨μ1, st1, w, er1, sr1, g1, rx, p1⟩ => ?_
      obtain ⟨b, eb, p2⟩ := tru_post p1
      refine ⟨b, c.K ▸ is_tru sr1 rx eb, ?_⟩
      cases b with
      | true => rw [if_pos rfl] at p2 ⊢; exact p2.okR sr1 rx
      | false => rw [if_neg (by decide)] at p2 ⊢; exact ⟨ρ, μ1, st1, er1, sr1, p2⟩
    · obtain ⟨ρ, μ, st, er, sr, p⟩ := q
      simp only [denOr_cons] at p
      have e : ∀ s, (bnd (bnd (den φ E ρ) fun x => bnd (tru x) fun t => if t then ret x else denOr φ (F :: Fs) ρ) tru) s = ((bnd (den φ E ρ) tru) s).bind fun t => if t then ret true else bnd (denOr φ (F :: Fs) ρ) tru := by
        intro s
        show ((den φ E ρ s).bind _).bind _ = ((den φ E ρ s).bind _).bind _
        rw [bind_assoc, bind_assoc]
        refine bind_congr _ fun w s1 => ?_
        show ((tru w s1).bind _).bind _ = (tru w s1).bind _
        cases et : truW s1 w with
        | none => unfold tru; rw [et]; rfl
        | some b =>
          rw [tru_of et]
          cases b with
          | false => rfl
          | true => exact tru_of et
      have p : PostB G (fun c d => Wh c d σ) H μ (((bnd (den φ E ρ) tru) st).bind fun t => if t then ret true else bnd (denOr φ (F :: Fs) ρ) tru) Q := by rw [← e]; exact p
      refine (aheadB (m := fun ρ => bnd (den φ E ρ) tru) er sr p).mono fun b H1 ⟨μ1, st1, er1, sr1, g1, p1⟩ => ?_
      cases b with
      | true => rw [if_pos rfl] at p1 ⊢; exact p1.okR sr1 rfl
      | false => rw [if_neg (by decide)] at p1 ⊢; exact ⟨ρ, μ1, st1, er1, sr1, p1⟩
end Mi

/-! Mi12: the rest of the expressions; the theorem about all of them. -/
namespace Mi
open PySem L2
variable {G : Gs} {φ : Nat → List W → M W} {k : Nat} {C : CC} {X : Cx} {Wh : WX}

theorem snd_ite (c : Ctx G φ k C X Wh) {d a b : Expr} {D A B : Mi.E} {pos : Pos} (hd : SndE G φ X Wh d D) (ha : SndE G φ X Wh a A) (hb : SndE G φ X Wh b B) : SndE G φ X Wh (.IfExp d a b pos) (.ite D A B) := by
  have assoc : ∀ ρ st, (bnd (den φ (.ite D A B) ρ) tru) st = ((bnd (den φ D ρ) tru) st).bind fun t => if t then bnd (den φ A ρ) tru else bnd (den φ B ρ) tru := by
    intro ρ st
    simp only [den]
    show ((den φ D ρ st).bind _).bind _ = ((den φ D ρ st).bind _).bind _
    rw [bind_assoc, bind_assoc]
    refine bind_congr _ fun w s1 => ?_
    show ((tru w s1).bind _).bind _ = (tru w s1).bind _
    rw [bind_assoc]
    refine bind_congr _ fun b s2 => ?_
    cases b <;> rfl
  refine mkPT c (peImp (pe_ifExp hd.pt ha.pe hb.pe) fun σ H Q q => ?_) rfl ⟨fun pins s σ H Q I q => ?_⟩
  · obtain ⟨ρ, μ, st, er, sr, p⟩ := q
    have e : den φ (.ite D A B) ρ st = ((bnd (den φ D ρ) tru) st).bind fun t => if t then den φ A ρ else den φ B ρ := by
      simp only [den]
      show (den φ D ρ st).bind _ = ((den φ D ρ st).bind _).bind _
      rw [bind_assoc]
    rw [e] at p
    refine (aheadB (m := fun ρ => bnd (den φ D ρ) tru) er sr p).mono fun t H1 ⟨μ1, st1, er1, sr1, g1, p1⟩ => ?_
    cases t with
    | true => rw [if_pos rfl] at p1 ⊢; exact ⟨ρ, μ1, st1, er1, sr1, p1⟩
    | false => rw [if_neg (by decide)] at p1 ⊢; exact ⟨ρ, μ1, st1, er1, sr1, p1⟩
  · obtain ⟨ρ, μ, st, er, sr, p⟩ := q
    have p : PostB G (fun c d => Wh c d σ) H μ (((bnd (den φ D ρ) tru) st).bind fun t => if t then bnd (den φ A ρ) tru else bnd (den φ B ρ) tru) Q := by rw [← assoc]; exact p
    show wpAny _ _ (do if ← isTrue d X.env (eval d X.env) then isTrue a X.env (eval a X.env) else isTrue b X.env (eval b X.env)) _ _ s
    refine wpAny_bind (thn (hd.pt.run pins s σ H _ I (aheadB (m := fun ρ => bnd (den φ D ρ) tru) er sr p)) fun t s1 ⟨H1, I1, μ1, st1, er1, sr1, g1, p1⟩ => ?_)
    cases t with
    | true =>
      rw [if_pos rfl] at p1 ⊢
      exact ha.pt.run pins s1 σ H1 Q I1 ⟨ρ, μ1, st1, er1, sr1, p1⟩
    | false =>
      rw [if_neg (by decide)] at p1 ⊢
      exact hb.pt.run pins s1 σ H1 Q I1 ⟨ρ, μ1, st1, er1, sr1, p1⟩
theorem peOr {e : Expr} {t t' : TE} (h : PE X e t) (h' : PE X e t') : PE X e (fun σ H Q => t σ H Q ∨ t' σ H Q) := ⟨fun p s σ H Q I q => by
  rcases q with q | q
  · exact h.run p s σ H Q I q
  · exact h'.run p s σ H Q I q⟩
/-- two rules of one subscript, by what the values are -/
theorem IxR.or {r r' : R2} (h : IxR X r) (h' : IxR X r') : IxR X (rOr r r') := fun value slice pins s σ H x y v u Q I rx ry q hs => by
  rcases q with q | q
  · exact h value slice pins s σ H x y v u Q I rx ry q hs
  · exact h' value slice pins s σ H x y v u Q I rx ry q hs
open PySem.Spec PyProof.Rows in
theorem ix_str : IxR X rIxS := by
  intro value slice pins s σ H x y v u Q I rx ry h hs
  obtain ⟨z, i, c, rfl, rfl, h0, h63, h1, hc, q⟩ := h
  obtain ⟨t, rfl⟩ := rx
  obtain ⟨t', rfl⟩ := ry
  have e : seqIndex? i z.length = some i.toNat := PySem.StrLaws.seqIndex_nonneg h0 h1
  refine PyProof.Rows.tail_any (typeIs_str s z t) slot_str_getitem.lookup (getItem_str (c := c) ?_ (by rw [e]; exact hc) ⟨.str ⟨#[c]⟩, H, I.tok _, ⟨_, rfl⟩, q⟩) hs
  have e1 : decide (i < -(2 ^ 63 : Int)) = false := decide_eq_false (by omega)
  have e2 : decide (i ≥ 2 ^ 63) = false := decide_eq_false (by omega)
  rw [e1, e2] <;> rfl
theorem ix_dct (hu : X.A.units + 1 < cLine) : IxR X rDG := by
  intro value slice pins s σ H x y v u Q I rx ry h hs
  obtain ⟨a, r, rfl, g, q⟩ := h
  obtain rfl : v = Value.ref a := rx
  exact PyProof.Rows.tail_any (dict_typeIs I g) PySem.F.slot_dict_getitem.lookup (d_getItem hu I g ry fun w' s3 I3 rw' => ⟨r, H, I3, rw', q⟩) hs
theorem ix_frd (hK : G.K = X.K) (hP : G.prm = X.w.params) : IxR X (rIxK G) := by
  intro value slice pins s σ H x y v u Q I rx ry h hs
  obtain ⟨p, z, ks, us, u0, v0, rfl, rfl, ⟨es, n, hl, hk, lo, _, hn⟩, e, r, q⟩ := h
  rw [hK] at hl hn
  rw [hP] at hk
  exact ix_kdict value slice pins s σ H _ _ v u Q I rx ry ⟨p, z, v0, rfl, rfl, ⟨es, n, u0, hl, hk, by rw [hn z, e], r⟩, q⟩ hs
theorem snd_idx (c : Ctx G φ k C X Wh) {a b : Expr} {A B : Mi.E} {pos : Pos} (hp : PlainIx b) (ha : PE X a (tM G Wh (den φ A))) (hb : PE X b (tM G Wh (den φ B))) : PE X (.Subscript a b pos) (tM G Wh (den φ (.idx A B))) := by
  have hr : IxR X (rOr (rOr (rOr rIxS (rOr (rIxT G.K) (rIxL G.K))) rDG) (rIxK G)) := by
    refine IxR.or ?_ (ix_frd c.K c.prm)
    rw [c.K]; exact IxR.or (IxR.or ix_str (IxR.or ix_tup ix_list)) (ix_dct (by have := c.room.units; omega))
  refine peImp (pe_ix hr ha hb hp) fun σ H Q q => snd_op is_idx (by simpa only [den] using q)
theorem SlR.or {r r' : SlT} (h : L2.SlR X r) (h' : L2.SlR X r') : L2.SlR X (fun x lo hi H Q => r x lo hi H Q ∨ r' x lo hi H Q) := fun pins s σ H x v vl vu lo hi sl Q I rx hs p1 p2 q => by
  rcases q with q | q
  · exact h pins s σ H x v vl vu lo hi sl Q I rx hs p1 p2 q
  · exact h' pins s σ H x v vl vu lo hi sl Q I rx hs p1 p2 q
/-- a slice's part -/
abbrev RO : Hp → List Addr → Option Int → Option Int → Prop := fun _ _ a b => a = b
def tMO (G : Gs) (Wh : WX) (m : Env → M (Option Int)) : L2.St → Hp → (Option Int → Hp → Prop) → Prop := fun σ H Q => ∃ ρ μ st, EnvR G H μ ρ σ ∧ SR G H μ st ∧ PostR G RO (fun c d => Wh c d σ) H μ (m ρ st) Q
theorem snd_part0 : PO X none (tMO G Wh fun ρ => denPart φ [] ρ) := ⟨fun pins s σ H Q I q => by
  obtain ⟨ρ, μ, st, er, sr, p⟩ := q
  simp only [denPart] at p
  exact po_none.run pins s σ H Q I (p.okR sr rfl)⟩
theorem snd_part1 {e : Expr} {E : Mi.E} (h : PE X e (tM G Wh (den φ E))) : PO X (some e) (tMO G Wh fun ρ => denPart φ [E] ρ) := ⟨fun pins s σ H Q I q => by
  refine (po_some h).run pins s σ H Q I ?_
  obtain ⟨ρ, μ, st, er, sr, p⟩ := q
  simp only [denPart] at p
  refine (ahead er sr p).mono fun x H1 ⟨μ1, st1, w, er1, sr1, g1, rx, p1⟩ => ?_
  cases w <;> first | exact p1.elim | skip
  exact ⟨_, rx.int_inv, p1.okR sr1 rfl⟩⟩
theorem aheadO {H : Hp} {μ : List Addr} {st : Sto} {ρ : Env} {σ : L2.St} {γ δ : Type} {R : Hp → List Addr → γ → δ → Prop} {m : Env → M (Option Int)} {f : Option Int → M γ} {Q : δ → Hp → Prop} (er : EnvR G H μ ρ σ) (sr : SR G H μ st)
    (h : PostR G R (fun c d => Wh c d σ) H μ ((m ρ st).bind f) Q) {Q' : Option Int → Hp → Prop} (hq : ∀ o H1 μ1 st1, EnvR G H1 μ1 ρ σ → SR G H1 μ1 st1 → Grow H H1 μ μ1 → PostR G R (fun c d => Wh c d σ) H1 μ1 (f o st1) Q → Q' o H1) : tMO G Wh m σ H Q' :=
  ⟨ρ, μ, st, er, sr, (PostR.bind (R1 := RO) h).mono (fun _ _ ⟨μ1, st1, a, g, s1, r1, p⟩ => by cases r1; exact hq _ _ μ1 st1 (er.grow sr g) s1 g p) fun _ _ _ z => z⟩
theorem snd_slc (c : Ctx G φ k C X Wh) {a : Expr} {lo hi : Option Expr} {A : Mi.E} {Lo Hi : List Mi.E} {pos p2 : Pos} (ha : PE X a (tM G Wh (den φ A))) (hl : PO X lo (tMO G Wh fun ρ => denPart φ Lo ρ)) (hh : PO X hi (tMO G Wh fun ρ => denPart φ Hi ρ)) :
    PE X (.Subscript a (.Slice lo hi none p2) pos) (tM G Wh (den φ (.slc A Lo Hi))) := by
  have hr : L2.SlR X (fun x lo hi H Q => rSlS x lo hi H Q ∨ MiR.rSlF G.K x lo hi H Q ∨ rSlL G.K x lo hi H Q) := by
    rw [c.K]; exact SlR.or sl_str (SlR.or MiR.sl_tupF sl_list)
  refine peImp (pe_slice hr ha hl hh) fun σ H Q q => ?_
  obtain ⟨ρ, μ, st, er, sr, p⟩ := q
  simp only [den] at p
  refine (ahead er sr p).mono fun x H1 ⟨μ1, st1, w, er1, sr1, g1, rx, p1⟩ => ?_
  refine aheadO (m := fun ρ => denPart φ Lo ρ) er1 sr1 p1 fun l H2 μ2 st2 er2 sr2 g2 p2 => ?_
  refine aheadO (m := fun ρ => denPart φ Hi ρ) er2 sr2 p2 fun h H3 μ3 st3 er3 sr3 g3 p3 => ?_
  exact is_slc sr3 ((rx.grow sr1 g2).grow sr2 g3) p3

/-! ### built-in functions -/
def idOf : Blt → String
  | .len => "len" | .abs => "abs" | .max => "max" | .min => "min" | .divmod => "divmod" | .all => "all" | .any => "any" | .repr => "repr"
  | .tuple => "tuple" | .list => "list" | .str => "str" | .int => "int" | .dict => "dict"
theorem blt_tab {x : Str} {b : Blt} (h : bltOf x = some b) : bootBuiltins x = some (.builtin (idOf b)) ∧ (b, idOf b) ∈ [(Blt.len, "len"), (.abs, "abs"), (.max, "max"), (.min, "min"), (.divmod, "divmod"), (.all, "all"), (.any, "any"), (.repr, "repr")] := by
  unfold bltOf at h
  split at h
  · rename_i e; subst e; cases h; exact ⟨by decide +kernel, by simp [idOf]⟩
  split at h
  · rename_i e; subst e; cases h; exact ⟨by decide +kernel, by simp [idOf]⟩
  split at h
  · rename_i e; subst e; cases h; exact ⟨by decide +kernel, by simp [idOf]⟩
  split at h
  · rename_i e; subst e; cases h; exact ⟨by decide +kernel, by simp [idOf]⟩
  split at h
  · rename_i e; subst e; cases h; exact ⟨by decide +kernel, by simp [idOf]⟩
  split at h
  · rename_i e; subst e; cases h; exact ⟨by decide +kernel, by simp [idOf]⟩
  split at h
  · rename_i e; subst e; cases h; exact ⟨by decide +kernel, by simp [idOf]⟩
  split at h
  · rename_i e; subst e; cases h; exact ⟨by decide +kernel, by simp [idOf]⟩
  · cases h
theorem blt_tabT {x : Str} {b : Blt} (h : bltTy x = some b) : bootBuiltins x = some (.type (idOf b)) ∧ (b, idOf b) ∈ [(Blt.tuple, "tuple"), (.list, "list"), (.str, "str"), (.int, "int"), (.dict, "dict")] := by
  unfold bltTy at h
  split at h
  · rename_i e; subst e; cases h; exact ⟨by decide +kernel, by simp [idOf]⟩
  split at h
  · rename_i e; subst e; cases h; exact ⟨by decide +kernel, by simp [idOf]⟩
  split at h
  · rename_i e; subst e; cases h; exact ⟨by decide +kernel, by simp [idOf]⟩
  split at h
  · rename_i e; subst e; cases h; exact ⟨by decide +kernel, by simp [idOf]⟩
  split at h
  · rename_i e; subst e; cases h; exact ⟨by decide +kernel, by simp [idOf]⟩
  · cases h
theorem blt_ok (c : Ctx G φ k C X Wh) {b : Blt} {id : String} (h : (b, id) ∈ [(Blt.len, "len"), (.abs, "abs"), (.max, "max"), (.min, "min"), (.divmod, "divmod"), (.all, "all"), (.any, "any"), (.repr, "repr")]) : ∃ r, CallR X (.builtin id) r ∧ CallIs G r (blt b) := by
  simp only [List.mem_cons, Prod.mk.injEq, List.mem_nil_iff, or_false] at h
  rcases h with ⟨rfl, rfl⟩ | ⟨rfl, rfl⟩ | ⟨rfl, rfl⟩ | ⟨rfl, rfl⟩ | ⟨rfl, rfl⟩ | ⟨rfl, rfl⟩ | ⟨rfl, rfl⟩ | ⟨rfl, rfl⟩
  · refine ⟨_, ?_, is_len⟩
    rw [c.K]; exact call_len.or call_lenD
  · exact ⟨_, call_abs, is_abs⟩
  · exact ⟨_, call_max2 c.calm, is_max⟩
  · exact ⟨_, call_min2 c.calm, is_min⟩
  · exact ⟨_, MiR.call_divmodF, is_divmod⟩
  · refine ⟨_, ?_, is_all⟩
    rw [c.K]; exact cr_all c.calm
  · refine ⟨_, ?_, is_any⟩
    rw [c.K]; exact cr_any c.calm
  · exact ⟨_, call_reprD c.K c.sysm c.guards c.room.units, is_repr⟩
theorem blt_okT (c : Ctx G φ k C X Wh) {b : Blt} {id : String} (h : (b, id) ∈ [(Blt.tuple, "tuple"), (.list, "list"), (.str, "str"), (.int, "int"), (.dict, "dict")]) : ∃ r, CallR X (.type id) r ∧ CallIs G r (blt b) := by
  simp only [List.mem_cons, Prod.mk.injEq, List.mem_nil_iff, or_false] at h
  rcases h with ⟨rfl, rfl⟩ | ⟨rfl, rfl⟩ | ⟨rfl, rfl⟩ | ⟨rfl, rfl⟩ | ⟨rfl, rfl⟩
  · refine ⟨_, ?_, is_tuple⟩
    rw [c.K]; exact MiR.call_tupleF
  · refine ⟨_, ?_, is_list⟩
    rw [c.K]; exact call_list_of.or (call_list_dK c.calm)
  · exact ⟨_, call_str_int, is_str⟩
  · exact ⟨_, call_int_str.or call_int1, is_int⟩
  · refine ⟨_, ?_, is_dict⟩
    rw [c.K]; exact call_dictD.or (call_dictP c.calm)
theorem snd_callB {r : List V → Hp → VK → Prop} {f : List W → M W} {es : List Mi.E} {σ : L2.St} {H : Hp} {Q : VK} (hc : CallIs G r f) (q : tM G Wh (fun ρ => bnd (dens φ es ρ) fun ws => f ws) σ H Q) : tCB r (tML G Wh (dens φ es)) σ H Q := by
  obtain ⟨ρ, μ, st, er, sr, p⟩ := q
  exact (aheadL er sr p).mono fun x H1 ⟨μ1, st1, w, er1, sr1, g1, rx, p1⟩ => hc H1 μ1 st1 x w _ Q sr1 rx p1
theorem snd_blt (c : Ctx G φ k C X Wh) {x : Str} {b : Blt} {e : Expr} {es : List Expr} {Es : List Mi.E} {p pos : Pos} (hx : C.glb x = some .blt) (hb : bltAny x = some b) (hn : ∀ e' ∈ e :: es, noStar e' = true) (ha : PA X (e :: es) (tML G Wh (dens φ Es))) :
    PE X (.Call (.Name x p) (e :: es) [] pos) (tM G Wh (den φ (.blt b Es))) := by
  obtain ⟨gl, ok, hm⟩ := glb_of c hx
  obtain ⟨ok1, ok2, ok3⟩ := okName_of ok
  have hs := star_cons es X.env (hn e List.mem_cons_self)
  have hp := star_plain X.env pos (es := es) fun e' h => hn e' (List.mem_cons_of_mem _ h)
  unfold bltAny at hb
  split at hb
  · rename_i b' e'
    cases hb
    obtain ⟨h1, h2⟩ := blt_tab e'
    obtain ⟨r, h3, h4⟩ := blt_ok c h2
    exact peImp (pe_callB h3 gl hm h1 ha ok3 ok1 hs hp) fun σ H Q q => snd_callB h4 (by simpa only [den] using q)
  · obtain ⟨h1, h2⟩ := blt_tabT hb
    obtain ⟨r, h3, h4⟩ := blt_okT c h2
    exact peImp (pe_callTy h3 gl hm h1 ha ok3 ok1 hs hp) fun σ H Q q => snd_callB h4 (by simpa only [den] using q)
def tyId : Ty → String
  | .int => "int" | .bool => "bool" | .str => "str" | .tuple => "tuple" | .list => "list" | .dict => "dict" | .own _ => ""
theorem ty_tab {x : Str} {t : Ty} (h : tyOf x = some t) : bootBuiltins x = some (.type (tyId t)) ∧ tyV' t = some (tyId t) := by
  unfold tyOf at h
  split at h
  · rename_i e; subst e; cases h; exact ⟨by decide +kernel, rfl⟩
  split at h
  · rename_i e; subst e; cases h; exact ⟨by decide +kernel, rfl⟩
  split at h
  · rename_i e; subst e; cases h; exact ⟨by decide +kernel, rfl⟩
  split at h
  · rename_i e; subst e; cases h; exact ⟨by decide +kernel, rfl⟩
  split at h
  · rename_i e; subst e; cases h; exact ⟨by decide +kernel, rfl⟩
  split at h
  · rename_i e; subst e; cases h; exact ⟨by decide +kernel, rfl⟩
  · cases h
theorem snd_isi (c : Ctx G φ k C X Wh) {a : Expr} {A : Mi.E} {x : Str} {ty : Ty} {p p2 pos : Pos} (hf : C.glb "isinstance" = some .blt) (ht : tyOf x = some ty) (hx : C.isBlt x = true) (hn : noStar a = true) (ha : PE X a (tM G Wh (den φ A))) :
    PE X (.Call (.Name "isinstance" p) [a, .Name x p2] [] pos) (tM G Wh (den φ (.isi A [ty]))) := by
  obtain ⟨gl, ok, hm⟩ := glb_of c hf
  obtain ⟨ok1, ok2, ok3⟩ := okName_of ok
  obtain ⟨gl2, ok', hm2⟩ := blt_of c hx
  obtain ⟨ok1', ok2', ok3'⟩ := okName_of ok'
  obtain ⟨hb, hn2⟩ := ty_tab ht
  have hs := star_cons [.Name x p2] X.env hn
  refine peImp (pe_callB call_isi gl hm (by decide +kernel) (pa_cons ha (pa_cons (pe_bltn (v := .ty (tyId ty)) gl2 hm2 hb rfl ok3' ok1') pa_nil) hs) ok3 ok1 hs rfl) fun σ H Q q => ?_
  obtain ⟨ρ, μ, st, er, sr, p⟩ := q
  simp only [den] at p
  refine (ahead er sr p).mono fun y H1 ⟨μ1, st1, w, er1, sr1, g1, rx, p1⟩ => ?_
  have p1 : Post G (fun c d => Wh c d σ) H1 μ1 (match [ty].mapM fun t => isTy st1 w t with | some bs => .ok (.bl (bs.any id)) st1 | none => .stuck) Q := p1
  rw [List.mapM_cons] at p1
  cases e : isTy st1 w ty with
  | none => rw [e] at p1; exact p1.elim
  | some b =>
    rw [e] at p1
    obtain ⟨u, tx, hk⟩ := is_ty sr1 rx e hn2
    exact ⟨y, .ty (tyId ty), u, .type (tyId ty), b, rfl, .ty (tyId ty), c.K ▸ tx, c.K ▸ hk, (p1.okR sr1 (by simpa using Rep.bl_))⟩
end Mi

/-! Mi13: methods of built-in things; the theorem about all expressions. -/
namespace Mi
open PySem L2
variable {G : Gs} {φ : Nat → List W → M W} {k : Nat} {C : CC} {X : Cx} {Wh : WX}

theorem range_pick {α : Type} (l : List α) : (List.range l.length).mapM (fun i => l[i]?) = some l := by
  have key : ∀ (l m : List α), (List.range' m.length l.length).mapM (fun i => (m ++ l)[i]?) = some l := by
    intro l
    induction l with
    | nil => intro m; rfl
    | cons a l ih =>
      intro m
      have := ih (m ++ [a])
      rw [List.length_cons, List.range'_succ, List.mapM_cons]
      have e : (m ++ a :: l)[m.length]? = some a := by simp
      rw [e]
      have e2 : m ++ a :: l = m ++ [a] ++ l := by simp
      have e3 : m.length + 1 = (m ++ [a]).length := by simp
      rw [e2, e3, this]
      rfl
  have := key l []
  rw [List.range_eq_range']
  simpa using this
theorem strs_of {H : Hp} {μ : List Addr} : ∀ {ws : List W} {vs : List V} {ys : List Str}, Reps G H μ ws vs → strsOf ws = some ys → vs = ys.map V.str
  | [], _, ys, r, h => by simp [strsOf] at h; subst h; rw [r.nil_inv]; rfl
  | w :: ws, _, ys, r, h => by
    simp only [Reps] at r
    obtain ⟨v, vr, rfl, r1, r2⟩ := r
    cases w <;> simp only [strsOf, reduceCtorEq, Option.map_eq_some_iff] at h
    obtain ⟨zs, h1, rfl⟩ := h
    rw [List.map_cons, r1.str_inv, strs_of r2 h1]
/-- what a method's reading wants, from the small machine's method -/
def MetIs (G : Gs) (r : V → List V → Hp → VK → Prop) (m : Met) : Prop := ∀ (H : Hp) (μ : List Addr) (st : Sto) (x : V) (wx : W) (vs : List V) (ws : List W) (X : Value → Option Addr → Hp → Prop) (Q : VK), SR G H μ st → Rep G H μ wx x → Reps G H μ ws vs →
  Post G X H μ (met m wx ws st) Q → r x vs H Q
theorem is_join : MetIs G (fun x xs H Q => ∃ a p, ∃ ys : List Str, x = .str a ∧ xs = [.ref p] ∧ (SqL G.K H p (ys.map V.str) ∨ SqT G.K H p (ys.map V.str)) ∧ (ys.map (·.length)).sum + ys.length * a.length ≤ 16777216 ∧ Q (.str (Txt.join a ys)) H) .join := by
  intro H μ st x wx vs ws X Q sr rx rs p
  cases wx <;> first | exact False.elim p | skip
  rename_i a
  match ws, p, rs with
  | [y], p, rs =>
    obtain ⟨v, rfl, r1⟩ := rs.one
    simp only [met] at p
    cases e : isSeq st y with
    | none => rw [e] at p; exact p.elim
    | some ws =>
      rw [e] at p
      dsimp only at p
      cases e2 : strsOf ws with
      | none => rw [e2] at p; exact p.elim
      | some ys =>
        rw [e2] at p
        dsimp only at p
        split at p
        · rename_i hz
          obtain ⟨ad, us, rfl, hq, rq⟩ := isSeq_of sr r1 e
          have e3 := strs_of rq e2
          subst e3
          exact ⟨a, ad, ys, rx.str_inv, rfl, hq, hz, p.okR sr Rep.str_⟩
        · exact p.elim
  | [], p, rs => exact False.elim p
  | _ :: _ :: _, p, rs => exact False.elim p
theorem is_append : MetIs G rAppend .append := by
  intro H μ st x wx vs ws X Q sr rx rs p
  cases wx <;> first | exact False.elim p | skip
  rename_i n
  match ws, p, rs with
  | [y], p, rs =>
    obtain ⟨v, rfl, r1⟩ := rs.one
    simp only [met] at p
    split at p
    · rename_i xs e
      split at p
      · rename_i hz
        obtain ⟨a, us, rfl, hm, hq, rq⟩ := Rep.lst sr rx e
        refine ⟨a, us, v, rfl, rfl, hq, by rw [← rq.length]; exact SZ_lt hz, ?_⟩
        obtain ⟨g, s1⟩ := sr.put (o' := .lst (us ++ [v])) (u := .lst (xs ++ [y])) hm trivial fun g e' => ⟨_, e', (rq.append_ (Reps.nil_.cons_ r1)).grow sr g⟩
        exact p _ _ μ g s1 Rep.non_
      · exact p.elim
    · exact p.elim
  | [], p, rs => exact False.elim p
  | _ :: _ :: _, p, rs => exact False.elim p
theorem last_rep {H : Hp} {μ : List Addr} {ws : List W} {vs : List V} (r : Reps G H μ ws vs) : Reps G H μ ws.dropLast vs.dropLast := by
  rw [List.dropLast_eq_take, List.dropLast_eq_take, r.length]
  exact r.take_ _
theorem is_pop : MetIs G rPop .pop := by
  intro H μ st x wx vs ws X Q sr rx rs p
  cases wx <;> first | exact False.elim p | skip
  rename_i n
  match ws, p, rs with
  | [], p, rs =>
    have := rs.nil_inv
    subst this
    simp only [met] at p
    split at p
    · rename_i xs e
      split at p
      · rename_i w e2
        obtain ⟨a, us, rfl, hm, hq, rq⟩ := Rep.lst sr rx e
        obtain ⟨v, e3, rv⟩ := rq.get _ e2
        refine ⟨a, us, v, rfl, rfl, hq, by rw [← rq.length]; exact e3, ?_⟩
        obtain ⟨g, s1⟩ := sr.put (o' := .lst us.dropLast) (u := .lst xs.dropLast) hm trivial fun g e' => ⟨_, e', (last_rep rq).grow sr g⟩
        exact p _ _ μ g s1 (rv.grow sr g)
      · exact p.elim
    · exact p.elim
  | _ :: _, p, rs => exact False.elim p

theorem Reps.eraseIdx_ {H : Hp} {μ : List Addr} : ∀ {ws : List W} {vs : List V} (n : Nat), Reps G H μ ws vs → Reps G H μ (ws.eraseIdx n) (vs.eraseIdx n)
  | [], vs, n, h => by rw [h.nil_inv]; exact Reps.nil_
  | w :: ws, vs, n, h => by
    simp only [Reps] at h
    obtain ⟨v, r, rfl, h1, h2⟩ := h
    cases n with
    | zero => simpa using h2
    | succ n => simpa using (Reps.eraseIdx_ n h2).cons_ h1
theorem is_popi : MetIs G rPopAt .popi := by
  intro H μ st x wx vs ws X Q sr rx rs p
  cases wx <;> first | exact False.elim p | skip
  rename_i n
  match ws, p, rs with
  | [.int i], p, rs =>
    obtain ⟨v, rfl, r1⟩ := rs.one
    simp only [met] at p
    split at p
    · rename_i xs e
      split at p
      · rename_i hi
        split at p
        · rename_i k ek
          split at p
          · rename_i w e2
            obtain ⟨a, us, rfl, hm, hq, rq⟩ := Rep.lst sr rx e
            obtain ⟨v, e3, rv⟩ := rq.get _ e2
            refine ⟨a, us, i, k, v, rfl, by rw [r1.int_inv], hq, hi.1, hi.2, by rw [← rq.length]; exact (ixN_seq ek).1, e3, ?_⟩
            obtain ⟨g, s1⟩ := sr.put (o' := .lst (us.eraseIdx k)) (u := .lst (xs.eraseIdx k)) hm trivial fun g e' => ⟨_, e', (rq.eraseIdx_ k).grow sr g⟩
            exact p _ _ μ g s1 (rv.grow sr g)
          · exact p.elim
        · exact p.elim
      · exact p.elim
    · exact p.elim
theorem ints_rep {H : Hp} {μ : List Addr} : ∀ {ws : List W} {vs : List V} {ns : List Int}, Reps G H μ ws vs → intsOf ws = some ns → vs = ns.map V.int
  | [], _, ns, r, h => by simp [intsOf] at h; subst h; rw [r.nil_inv]; rfl
  | w :: ws, _, ns, r, h => by
    simp only [Reps] at r
    obtain ⟨v, vr, rfl, r1, r2⟩ := r
    cases w <;> simp only [intsOf, reduceCtorEq, Option.map_eq_some_iff] at h
    obtain ⟨zs, h1, rfl⟩ := h
    rw [List.map_cons, r1.int_inv, ints_rep r2 h1]
theorem Reps.reverse_ {H : Hp} {μ : List Addr} : ∀ {ws : List W} {vs : List V}, Reps G H μ ws vs → Reps G H μ ws.reverse vs.reverse
  | [], vs, h => by rw [h.nil_inv]; exact Reps.nil_
  | w :: ws, vs, h => by
    simp only [Reps] at h
    obtain ⟨v, r, rfl, h1, h2⟩ := h
    rw [List.reverse_cons, List.reverse_cons]
    exact (Reps.reverse_ h2).append_ (Reps.nil_.cons_ h1)
theorem is_count : MetIs G (MiR.rCntT G.K) .count := by
  intro H μ st x wx vs ws X Q sr rx rs p
  cases wx <;> first | exact False.elim p | skip
  rename_i xs
  match ws, p, rs with
  | [.int k], p, rs =>
    obtain ⟨v, rfl, r1⟩ := rs.one
    simp only [met] at p
    cases e : intsOf xs with
    | none => rw [e] at p; exact p.elim
    | some ns =>
      rw [e] at p
      obtain ⟨a, us, rfl, hq, rq⟩ := rx.tup_inv
      have e2 := ints_rep rq e
      subst e2
      exact ⟨a, ns, k, rfl, by rw [r1.int_inv], hq, p _ H μ .refl sr Rep.int_⟩
theorem is_rev : MetIs G rReverse .rev := by
  intro H μ st x wx vs ws X Q sr rx rs p
  cases wx <;> first | exact False.elim p | skip
  rename_i n
  match ws, p, rs with
  | [], p, rs =>
    have := rs.nil_inv
    subst this
    simp only [met] at p
    split at p
    · rename_i xs e
      obtain ⟨a, us, rfl, hm, hq, rq⟩ := Rep.lst sr rx e
      refine ⟨a, us, rfl, rfl, hq, ?_⟩
      obtain ⟨g, s1⟩ := sr.put (o' := .lst us.reverse) (u := .lst xs.reverse) hm trivial fun g e' => ⟨_, e', (Reps.reverse_ rq).grow sr g⟩
      exact p _ _ μ g s1 Rep.non_
    · exact p.elim
  | _ :: _, p, rs => exact False.elim p
theorem is_index : MetIs G MiR.rIndex0 .index := by
  intro H μ st x wx vs ws X Q sr rx rs p
  cases wx <;> first | exact False.elim p | skip
  rename_i a
  match ws, p, rs with
  | [.str b], p, rs =>
    obtain ⟨v, rfl, r1⟩ := rs.one
    simp only [met] at p
    cases e : Txt.index0 a b with
    | none => rw [e] at p; exact p.elim
    | some k =>
      rw [e] at p
      exact ⟨a, b, k, rx.str_inv, by rw [r1.str_inv], e, p _ H μ .refl sr Rep.int_⟩
theorem is_upd : MetIs G MiR.rDUpd .upd := by
  intro H μ st x wx vs ws X Q sr rx rs p
  cases wx <;> first | exact False.elim p | skip
  rename_i n
  match ws, p, rs with
  | [.loc m], p, rs =>
    obtain ⟨v, rfl, r1⟩ := rs.one
    simp only [met] at p
    split at p
    · rename_i ka kb e1 e2
      split at p
      · rename_i hz
        obtain ⟨a, kv, rfl, hm, hq, h2, h3⟩ := Rep.dct sr rx e1
        obtain ⟨b, mv, rfl, hm', hq', h2', h3'⟩ := Rep.dct sr r1 e2
        have d1 : DRel G H μ ka kv := ⟨h2, h3⟩
        have d2 : DRel G H μ kb mv := ⟨h2', h3'⟩
        have hab : a ≠ b := fun z => by
          subst z
          have hl := (List.getElem?_eq_some_iff.mp hm).1
          exact hz.1 ((List.getElem?_inj hl sr.nd).mp (hm.trans hm'.symm))
        refine ⟨a, b, kv, mv, rfl, rfl, hab, hq, hq', by rw [← d1.length, ← d2.length]; exact SZ_le hz.2, ?_⟩
        obtain ⟨g, s1⟩ := sr.put (o' := .dK (mergeK kv mv)) (u := .dct (mergeW ka kb)) hm trivial fun g e' => ⟨_, e', (d2.merge d1).1, ((d2.merge d1).grow sr g).2⟩
        exact p _ _ μ g s1 Rep.non_
      · exact p.elim
    · exact p.elim
theorem met_split {m : Met} {O : Mi.E} {Es : List Mi.E} {σ : L2.St} {H : Hp} {Q : VK} (q : tM G Wh (den φ (.met m O Es)) σ H Q) {R : V → Hp → Prop}
    (h : ∀ x H1 μ1 st1 w ρ, EnvR G H1 μ1 ρ σ → SR G H1 μ1 st1 → Rep G H1 μ1 w x → metOk st1 m w = true → Post G (fun c d => Wh c d σ) H1 μ1 (bnd (dens φ Es ρ) (fun ws => met m w ws) st1) Q → R x H1) : tM G Wh (den φ O) σ H R := by
  obtain ⟨ρ, μ, st, er, sr, p⟩ := q
  simp only [den] at p
  refine (ahead er sr p).mono fun x H1 ⟨μ1, st1, w, er1, sr1, g1, rx, p1⟩ => ?_
  split at p1
  · rename_i hm
    exact h x H1 μ1 st1 w ρ er1 sr1 rx hm p1
  · exact p1.elim
theorem ok_str {st : Sto} {w : W} {H : Hp} {μ : List Addr} {x : V} (h : metOk st .join w = true) (r : Rep G H μ w x) : ∃ a, x = .str a := by
  cases w <;> simp [metOk] at h
  exact ⟨_, r.str_inv⟩
theorem ok_lst {st : Sto} {m : Met} {w : W} {H : Hp} {μ : List Addr} {x : V} (sr : SR G H μ st) (hm : m = .append ∨ m = .pop ∨ m = .popi ∨ m = .rev) (h : metOk st m w = true) (r : Rep G H μ w x) : tyV G.K "list" x H := by
  rcases hm with rfl | rfl | rfl | rfl <;> cases w <;> simp only [metOk, Bool.false_eq_true] at h <;> split at h
  · rename_i n ws e
    obtain ⟨a, vs, rfl, _, hq, _⟩ := Rep.lst sr r e
    exact .inl ⟨rfl, vs, SqL.of hq⟩
  · cases h
  · rename_i n ws e
    obtain ⟨a, vs, rfl, _, hq, _⟩ := Rep.lst sr r e
    exact .inl ⟨rfl, vs, SqL.of hq⟩
  · cases h
  · rename_i n ws e
    obtain ⟨a, vs, rfl, _, hq, _⟩ := Rep.lst sr r e
    exact .inl ⟨rfl, vs, SqL.of hq⟩
  · cases h
  · rename_i n ws e
    obtain ⟨a, vs, rfl, _, hq, _⟩ := Rep.lst sr r e
    exact .inl ⟨rfl, vs, SqL.of hq⟩
  · cases h
theorem ok_dct {st : Sto} {w : W} {H : Hp} {μ : List Addr} {x : V} (sr : SR G H μ st) (h : metOk st .upd w = true) (r : Rep G H μ w x) : tyV G.K "dict" x H := by
  cases w <;> simp only [metOk, Bool.false_eq_true] at h
  split at h
  · rename_i n kvs e
    obtain ⟨a, kv, rfl, _, hq, _⟩ := Rep.dct sr r e
    exact .inr (.inr (.inl ⟨rfl, .inl ⟨kv, hq⟩⟩))
  · cases h
theorem dens_one (ρ : Env) (E : Mi.E) (f : List W → M W) (s : Sto) : bnd (dens φ [E] ρ) f s = (den φ E ρ s).bind fun y => f [y] := by
  simp only [dens]
  show ((den φ E ρ s).bind _).bind _ = _
  rw [bind_assoc]; rfl
theorem snd_join (c : Ctx G φ k C X Wh) {o e : Expr} {O E : Mi.E} {apos pos : Pos} (hb : plainBase o = true) (hl : (apos.endLine == pos.line) = true) (hn : noStar e = true) (ho : PE X o (tM G Wh (den φ O))) (he : PE X e (tM G Wh (den φ E))) :
    PE X (.Call (.Attribute o "join" apos) [e] [] pos) (tM G Wh (den φ (.met .join O [E]))) := by
  have hj := is_join (G := G)
  rw [c.K] at hj
  refine peImp (pe_m1 PySem.F.slot_str_join PySem.F.type_str_join mt_join ho he (by rw [star_cons _ _ hn]; rfl) (base_plain hb) hl) fun σ H Q q => met_split q fun x H1 μ1 st1 w ρ er1 sr1 rx hm p1 => ⟨ok_str hm rx, ?_⟩
  rw [dens_one] at p1
  exact (ahead er1 sr1 p1).mono fun y H2 ⟨μ2, st2, u, er2, sr2, g2, ry, p2⟩ => hj H2 μ2 st2 x w [y] [u] _ Q sr2 (rx.grow sr1 g2) (Reps.nil_.cons_ ry) p2
theorem snd_append (c : Ctx G φ k C X Wh) {o e : Expr} {O E : Mi.E} {apos pos : Pos} (hb : plainBase o = true) (hl : (apos.endLine == pos.line) = true) (hn : noStar e = true) (ho : PE X o (tM G Wh (den φ O))) (he : PA X [e] (tML G Wh (dens φ [E]))) :
    PE X (.Call (.Attribute o "append" apos) [e] [] pos) (tM G Wh (den φ (.met .append O [E]))) := by
  refine peImp (pe_bm PySem.F.plainAttrs_list PySem.F.slot_list_append PySem.F.type_list_append mt_append ho he (base_plain hb) (by rw [star_cons _ _ hn]; rfl) hl (star_cons _ _ hn) rfl) fun σ H Q q => met_split q fun x H1 μ1 st1 w ρ er1 sr1 rx hm p1 => ⟨c.K ▸ ok_lst sr1 (.inl rfl) hm rx, ?_⟩
  exact (aheadL er1 sr1 p1).mono fun y H2 ⟨μ2, st2, u, er2, sr2, g2, ry, p2⟩ => is_append H2 μ2 st2 x w y u _ Q sr2 (rx.grow sr1 g2) ry p2
theorem snd_pop (c : Ctx G φ k C X Wh) {o : Expr} {O : Mi.E} {apos pos : Pos} (hb : plainBase o = true) (hl : (apos.endLine == pos.line) = true) (ho : PE X o (tM G Wh (den φ O))) :
    PE X (.Call (.Attribute o "pop" apos) [] [] pos) (tM G Wh (den φ (.met .pop O []))) := by
  refine peImp (pe_bm0 PySem.F.plainAttrs_list PySem.F.slot_list_pop PySem.F.type_list_pop mt_pop ho (base_plain hb) hl) fun σ H Q q => met_split q fun x H1 μ1 st1 w ρ er1 sr1 rx hm p1 => ⟨c.K ▸ ok_lst sr1 (.inr (.inl rfl)) hm rx, ?_⟩
  have p1 : Post G (fun c d => Wh c d σ) H1 μ1 (met .pop w [] st1) Q := by simp only [dens] at p1; exact p1
  exact is_pop H1 μ1 st1 x w [] [] _ Q sr1 rx Reps.nil_ p1
theorem snd_popi (c : Ctx G φ k C X Wh) {o e : Expr} {O E : Mi.E} {apos pos : Pos} (hb : plainBase o = true) (hl : (apos.endLine == pos.line) = true) (hn : noStar e = true) (ho : PE X o (tM G Wh (den φ O))) (he : PA X [e] (tML G Wh (dens φ [E]))) :
    PE X (.Call (.Attribute o "pop" apos) [e] [] pos) (tM G Wh (den φ (.met .popi O [E]))) := by
  refine peImp (pe_bm PySem.F.plainAttrs_list PySem.F.slot_list_pop PySem.F.type_list_pop mt_popAt ho he (base_plain hb) (by rw [star_cons _ _ hn]; rfl) hl (star_cons _ _ hn) rfl) fun σ H Q q => met_split q fun x H1 μ1 st1 w ρ er1 sr1 rx hm p1 => ⟨c.K ▸ ok_lst sr1 (.inr (.inr (.inl rfl))) hm rx, ?_⟩
  exact (aheadL er1 sr1 p1).mono fun y H2 ⟨μ2, st2, u, er2, sr2, g2, ry, p2⟩ => is_popi H2 μ2 st2 x w y u _ Q sr2 (rx.grow sr1 g2) ry p2
theorem snd_rev (c : Ctx G φ k C X Wh) {o : Expr} {O : Mi.E} {apos pos : Pos} (hb : plainBase o = true) (hl : (apos.endLine == pos.line) = true) (ho : PE X o (tM G Wh (den φ O))) :
    PE X (.Call (.Attribute o "reverse" apos) [] [] pos) (tM G Wh (den φ (.met .rev O []))) := by
  refine peImp (pe_bm0 PySem.F.plainAttrs_list PySem.F.slot_list_reverse PySem.F.type_list_reverse mt_reverse ho (base_plain hb) hl) fun σ H Q q => met_split q fun x H1 μ1 st1 w ρ er1 sr1 rx hm p1 => ⟨c.K ▸ ok_lst sr1 (.inr (.inr (.inr rfl))) hm rx, ?_⟩
  have p1 : Post G (fun c d => Wh c d σ) H1 μ1 (met .rev w [] st1) Q := by simp only [dens] at p1; exact p1
  exact is_rev H1 μ1 st1 x w [] [] _ Q sr1 rx Reps.nil_ p1
theorem snd_index (c : Ctx G φ k C X Wh) {o e : Expr} {O E : Mi.E} {apos pos : Pos} (hb : plainBase o = true) (hl : (apos.endLine == pos.line) = true) (hn : noStar e = true) (ho : PE X o (tM G Wh (den φ O))) (he : PA X [e] (tML G Wh (dens φ [E]))) :
    PE X (.Call (.Attribute o "index" apos) [e] [] pos) (tM G Wh (den φ (.met .index O [E]))) := by
  refine peImp (pe_bm PySem.F.plainAttrs_str PySem.F.slot_str_index PySem.F.type_str_index MiR.mt_index0 ho he (base_plain hb) (by rw [star_cons _ _ hn]; rfl) hl (star_cons _ _ hn) rfl) fun σ H Q q => met_split q fun x H1 μ1 st1 w ρ er1 sr1 rx hm p1 => ⟨?_, ?_⟩
  · cases w <;> simp [metOk] at hm
    rw [rx.str_inv]
    rfl
  · exact (aheadL er1 sr1 p1).mono fun y H2 ⟨μ2, st2, u, er2, sr2, g2, ry, p2⟩ => is_index H2 μ2 st2 x w y u _ Q sr2 (rx.grow sr1 g2) ry p2
theorem snd_upd (c : Ctx G φ k C X Wh) {o e : Expr} {O E : Mi.E} {apos pos : Pos} (hb : plainBase o = true) (hl : (apos.endLine == pos.line) = true) (hn : noStar e = true) (ho : PE X o (tM G Wh (den φ O))) (he : PA X [e] (tML G Wh (dens φ [E]))) :
    PE X (.Call (.Attribute o "update" apos) [e] [] pos) (tM G Wh (den φ (.met .upd O [E]))) := by
  refine peImp (pe_bm PySem.F.plainAttrs_dict PySem.F.slot_dict_update PySem.F.type_dict_update MiR.mt_dupd ho he (base_plain hb) (by rw [star_cons _ _ hn]; rfl) hl (star_cons _ _ hn) rfl) fun σ H Q q => met_split q fun x H1 μ1 st1 w ρ er1 sr1 rx hm p1 => ⟨c.K ▸ ok_dct sr1 hm rx, ?_⟩
  exact (aheadL er1 sr1 p1).mono fun y H2 ⟨μ2, st2, u, er2, sr2, g2, ry, p2⟩ => is_upd H2 μ2 st2 x w y u _ Q sr2 (rx.grow sr1 g2) ry p2
theorem snd_count (c : Ctx G φ k C X Wh) {o e : Expr} {O E : Mi.E} {apos pos : Pos} (hb : plainBase o = true) (hl : (apos.endLine == pos.line) = true) (hn : noStar e = true) (ho : PE X o (tM G Wh (den φ O))) (he : PA X [e] (tML G Wh (dens φ [E]))) :
    PE X (.Call (.Attribute o "count" apos) [e] [] pos) (tM G Wh (den φ (.met .count O [E]))) := by
  have hc := is_count (G := G)
  rw [c.K] at hc
  refine peImp (MiR.pe_bmT PySem.F.plainAttrs_tuple PySem.F.slot_tuple_count PySem.F.type_tuple_count MiR.mt_tcount ho he (base_plain hb) (by rw [star_cons _ _ hn]; rfl) hl (star_cons _ _ hn) rfl) fun σ H Q q => met_split q fun x H1 μ1 st1 w ρ er1 sr1 rx hm p1 => ⟨?_, ?_⟩
  · cases w <;> simp [metOk] at hm
    obtain ⟨a, vs, rfl, hq, rs⟩ := rx.tup_inv'
    rw [c.K] at hq
    exact ⟨a, vs, rfl, hq.1, hq.2⟩
  · exact (aheadL er1 sr1 p1).mono fun y H2 ⟨μ2, st2, u, er2, sr2, g2, ry, p2⟩ => hc H2 μ2 st2 x w y u _ Q sr2 (rx.grow sr1 g2) ry p2
theorem snd_lset (c : Ctx G φ k C X Wh) {a : Expr} {A : Mi.E} {p p2 q pos : Pos} (hf : C.glb "len" = some .blt) (hx : C.isBlt "set" = true) (hn : noStar a = true) (ha : PE X a (tM G Wh (den φ A))) :
    PE X (.Call (.Name "len" p) [.Call (.Name "set" p2) [a] [] q] [] pos) (tM G Wh (den φ (.lset A))) := by
  obtain ⟨gl, ok, hm⟩ := glb_of c hf
  obtain ⟨gl2, ok', hm2⟩ := blt_of c hx
  refine peImp (MiR.pe_lenSetT gl hm gl2 hm2 ha c.calm (star_cons [] X.env hn)) fun σ H Q q => ?_
  obtain ⟨ρ, μ, st, er, sr, p⟩ := q
  simp only [den] at p
  refine (ahead er sr p).mono fun x H1 ⟨μ1, st1, w, er1, sr1, g1, rx, p1⟩ => ?_
  cases w <;> first | exact p1.elim | skip
  rename_i xs
  simp only [lset] at p1
  cases e : intsOf xs with
  | none => rw [e] at p1; exact p1.elim
  | some ns =>
    rw [e] at p1
    by_cases hz : ns.length ≤ 4000
    · simp only [if_pos hz] at p1
      obtain ⟨b, vs, rfl, hq, rs⟩ := rx.tup_inv
      have e2 := ints_rep rs e
      subst e2
      exact ⟨b, ns, rfl, c.K ▸ hq, hz, p1.okR sr1 Rep.int_⟩
    · simp only [if_neg hz] at p1
      exact p1.elim
/-- the call of what a name of the block holds -/
theorem snd_callv (c : Ctx G φ k C X Wh) {x : Str} {i : Nat} {e : Expr} {es : List Expr} {us : List Mi.E} {p pos : Pos} (hv : C.vis x = some i) (hns : ∀ e' ∈ e :: es, noStar e' = true) (hl : us.length = (e :: es).length) (ha : PA X (e :: es) (tML G Wh (dens φ us))) :
    PE X (.Call (.Name x p) (e :: es) [] pos) (tM G Wh (den φ (.callv i (plainFns C.gt us.length) us))) := by
  obtain ⟨hN, hvis, ok⟩ := vis_of c hv
  obtain ⟨ok1, ok2, ok3⟩ := okName_of ok
  refine ⟨fun pins s σ H Q I h => ?_⟩
  obtain ⟨ρ, μ, st, er, sr, p0⟩ := h
  simp only [den] at p0
  split at p0
  · rename_i f hw
    split at p0
    · rename_i hf
      obtain ⟨v, hσ, rv⟩ := er.at_ i _ hw
      -- which def it is
      obtain ⟨⟨y, ge⟩, hmem, hfn⟩ := List.mem_filterMap.mp (List.contains_iff_mem.mp hf)
      have hge : ∃ shapes, ge = .fn f shapes ∧ ∃ sh ∈ shapes, sh.np = us.length ∧ sh.ks = [] ∧ sh.ds = [] ∧ sh.ord = List.range us.length := by
        dsimp only at hfn
        split at hfn
        · rename_i j shapes
          split at hfn
          · rename_i ha
            cases hfn
            obtain ⟨sh, hsh, hq⟩ := List.any_eq_true.mp ha
            simp only [Bool.and_eq_true, beq_iff_eq, List.isEmpty_iff] at hq
            exact ⟨shapes, rfl, sh, hsh, hq.1.1.1, hq.1.1.2, hq.1.2, hq.2⟩
          · cases hfn
        · cases hfn
      obtain ⟨shapes, rfl, sh, hsh, e1, e2, e3, e4⟩ := hge
      obtain ⟨fa, fd, ps, hm, hgl, hkp, F, hshapes⟩ := c.gtm _ _ hmem
      obtain ⟨dus, dvs, rdv, rds, hord, hbind⟩ := hshapes sh hsh
      have hva : v = .ref fa := by
        simp only [Rep] at rv
        rw [hgl] at rv
        exact (Option.some.inj rv).symm
      subst hva
      refine wpAny_Call_Name_kw (thn ((pe_var (pos := p) hN hvis ok1 ok2).run pins s σ H (fun v H1 => v = .ref fa ∧ H1 = H) I ⟨.ref fa, hσ, rfl, rfl⟩) fun u s1 ⟨v, H1, I1, r1, q1⟩ => ?_)
      obtain ⟨rfl, rfl⟩ := q1
      cases r1
      refine PySem.W.callWith_K (h₀ := X.base) I1.ok.mod.kin hkp (thn (ha.run pos pins s1 σ _ _ I1 (aheadD er sr p0)) fun uv s2 ⟨vs, H2, I2, rv2, lv, μ2, st2, aw, er2, sr2, g2, ra, pp⟩ => ⟨I2.kIn, ?_⟩) (star_cons es X.env (hns e List.mem_cons_self)) (star_plain _ _ fun e' h => hns e' (List.mem_cons_of_mem _ h))
      have ld : dus = [] := by
        have := rds H2 μ2
        rw [e3] at this
        have hz := this.nil_inv
        subst hz
        cases rdv; rfl
      subst ld
      have lu : uv.length = us.length := by rw [← Vals.len rv2, lv]
      have hor : sh.ord.mapM (fun i => (uv ++ [] ++ [])[i]?) = some uv := by
        rw [e4, List.append_nil, List.append_nil, ← lu]
        exact range_pick uv
      have lo : sh.ord.length = uv.length := by rw [e4, List.length_range, lu]
      have hb := hbind s2 uv [] uv (by rw [c.K]; exact I2.kIn) (by rw [e1, lu]) (by rw [e2]; rfl) hor
      rw [e2] at hb
      refine wpAny_call (codeAny_mono (F.run X.A X.stack s2 H2 ⟨uv, []⟩ uv vs Q (fun c d => Wh c d σ) c.guards (c.room.mono (by omega)) I2.env0 hb rv2 ⟨by rw [Vals.len rv2, ← lo, hord], μ2, st2, aw, sr2, ra, pp⟩) fun r s' hq => ?_)
      cases r with
      | error e => exact passAt c.tk σ pins H2 s2 e s' I2 hq
      | ok fl =>
        cases fl with
        | ret u => exact I2.after hq
        | next => exact False.elim hq
        | brk => exact False.elim hq
        | cont => exact False.elim hq
    · exact p0.elim
  · exact p0.elim
theorem met_tab {x : Str} {n : Nat} {m : Met} (h : metOf x n = some m) : (x = "join" ∧ n = 1 ∧ m = .join) ∨ (x = "append" ∧ n = 1 ∧ m = .append) ∨ (x = "pop" ∧ n = 0 ∧ m = .pop) ∨ (x = "pop" ∧ n = 1 ∧ m = .popi) ∨ (x = "count" ∧ n = 1 ∧ m = .count) ∨
    (x = "reverse" ∧ n = 0 ∧ m = .rev) ∨ (x = "index" ∧ n = 1 ∧ m = .index) ∨ (x = "update" ∧ n = 1 ∧ m = .upd) := by
  unfold metOf at h
  split at h
  · rename_i e; cases h; exact .inl ⟨e.1, e.2, rfl⟩
  split at h
  · rename_i e; cases h; exact .inr (.inl ⟨e.1, e.2, rfl⟩)
  split at h
  · rename_i e; cases h; exact .inr (.inr (.inl ⟨e.1, e.2, rfl⟩))
  split at h
  · rename_i e; cases h; exact .inr (.inr (.inr (.inl ⟨e.1, e.2, rfl⟩)))
  split at h
  · rename_i e; cases h; exact .inr (.inr (.inr (.inr (.inl ⟨e.1, e.2, rfl⟩))))
  split at h
  · rename_i e; cases h; exact .inr (.inr (.inr (.inr (.inr (.inl ⟨e.1, e.2, rfl⟩)))))
  split at h
  · rename_i e; cases h; exact .inr (.inr (.inr (.inr (.inr (.inr (.inl ⟨e.1, e.2, rfl⟩))))))
  split at h
  · rename_i e; cases h; exact .inr (.inr (.inr (.inr (.inr (.inr (.inr ⟨e.1, e.2, rfl⟩))))))
  · cases h

/-! ### comprehensions -/
theorem relabel_rel (scope : Scope) (env : PySem.Env) : relabel scope env = relS scope env.scope := rfl
theorem Ctx.blk (c : Ctx G φ k C X Wh) (s : Shared) (H : Hp) (scope : Scope) (Ca : Addr) (cl : List (Str × Addr)) (fp : List Addr) : Ctx G φ k { C with sc := relS scope C.sc } (X.blk s H scope (compEnvC scope cl Ca X.env) fp) WF :=
  ⟨c.K, c.N, by rw [← c.sc]; rfl, c.nd, c.calm, c.guards, c.room, c.sysm, c.prm, fun x e h => by
    have := c.gt x e h
    cases e with
    | cst w => exact this
    | fn i sh => exact this
    | cls d => obtain ⟨C0, h1, h2⟩ := this; exact ⟨C0, h1, ⟨h2.ca, h2.cls, h2.flds, h2.ini, h2.mths⟩⟩
    | blt => exact this, fun x e h => by
    have := c.gtm x e h
    cases e with
    | cst w => exact this
    | fn i sh => exact this
    | cls d => obtain ⟨C0, h1, h2⟩ := this; exact ⟨C0, h1, ⟨h2.ca, h2.cls, h2.flds, h2.ini, h2.mths⟩⟩
    | blt => exact this, takes0⟩
def tnHas : Tn → Nat → Prop
  | .nm i, j => j = i
  | .tp is, j => j ∈ is
theorem pg_tn (c : Ctx G φ k C X Wh) {tg : Expr} {t : Tn} (h : tnOf C tg = some t) (hf : ∀ x i, X.N[i]? = some x → tnHas t i → L2.Loc X.env.scope x → X.fn x = true ∨ X.env.scope.names.lookup x = some .local) : PG X tg (gTn G.K t) := by
  cases tg <;> simp only [tnOf, reduceCtorEq, Option.map_eq_some_iff] at h
  · obtain ⟨i, h1, rfl⟩ := h
    obtain ⟨a, b, _⟩ := loc_of c h1
    exact pg_name c.nd a b (hf _ _ a rfl b)
  · rename_i es kk pos
    obtain ⟨is, h1, rfl⟩ := h
    have key : ∀ {es : List Expr} {js : List Nat}, (es.mapM fun (e : Expr) => match e with | .Name x _ => C.loc x | _ => none) = some js → (∀ i ∈ js, i ∈ is) → PGs X es (js.foldr (fun i t => gCons (gName i) t) gNil) ∧ (assignEach es X.env).length = js.length ∧ (assignEach es X.env).findIdx? (·.1) = none := by
      intro es
      induction es with
      | nil => intro js h _; simp at h; subst h; exact ⟨pgs_nil, rfl, rfl⟩
      | cons e es ih =>
        intro js h hm
        rw [List.mapM_cons] at h
        simp only [Option.pure_def, Option.bind_eq_bind, Option.bind_eq_some_iff, Option.some.injEq] at h
        obtain ⟨i, h1, is', h2, rfl⟩ := h
        cases e <;> simp only [reduceCtorEq] at h1
        obtain ⟨a, b, _⟩ := loc_of c h1
        obtain ⟨q1, q2, q3⟩ := ih h2 fun j hj => hm j (List.mem_cons_of_mem _ hj)
        refine ⟨pgs_cons (pg_name c.nd a b (hf _ _ a (hm _ List.mem_cons_self) b)) q1 rfl, ?_, ?_⟩
        · show (assignEach es X.env).length + 1 = is'.length + 1
          rw [q2]
        · show List.findIdx? (·.1) ((false, _) :: assignEach es X.env) = none
          rw [List.findIdx?_cons]
          simp [q3]
    obtain ⟨q1, q2, q3⟩ := key h1 fun _ h => h
    have := pg_tup (pos := pos) (k := kk) c.calm q1 q2 q3
    rw [c.K]
    exact this
theorem pts_of (c : Ctx G φ k C X Wh) {n : Nat} (ih : ∀ e E, comp n C e = some E → SndE G φ X Wh e E) {ifs : List Expr} {cs : List Mi.E} (hl : ifs.length ≤ 1) (h : ifs.mapM (comp n C) = some cs) : PTs X ifs (tMB G Wh fun ρ => denC φ cs ρ) := by
  match ifs, hl, h with
  | [], _, h =>
    simp at h; subst h
    refine ⟨fun pins s σ H Q I q => ?_⟩
    obtain ⟨ρ, μ, st, er, sr, p⟩ := q
    simp only [denC] at p
    exact pts_nil.run pins s σ H Q I (p.okR sr rfl)
  | [e], _, h =>
    rw [List.mapM_cons] at h
    simp only [Option.pure_def, Option.bind_eq_bind, Option.bind_eq_some_iff, Option.some.injEq, List.mapM_nil] at h
    obtain ⟨E, h1, _, rfl, rfl⟩ := h
    refine ⟨fun pins s σ H Q I q => (pts_one (ih e E h1).pt).run pins s σ H Q I ?_⟩
    obtain ⟨ρ, μ, st, er, sr, p⟩ := q
    refine ⟨ρ, μ, st, er, sr, ?_⟩
    have e1 : denC φ [E] ρ = bnd (den φ E ρ) tru := by
      simp only [denC]
      funext s
      refine bind_congr _ fun x s1 => ?_
      show (tru x s1).bind _ = tru x s1
      cases et : truW s1 x with
      | none => unfold tru; rw [et]; rfl
      | some b => rw [tru_of et]; cases b <;> rfl
    simp only [e1] at p
    exact p
theorem lc_parts (c : Ctx G φ k C X Wh) {n : Nat} (ih : ∀ (C : CC) (X : Cx) (Wh : WX), Ctx G φ k C X Wh → ∀ e E, comp n C e = some E → SndE G φ X Wh e E) {elt tg itr : Expr} {ifs : List Expr} {scope : Scope} {src x : Mi.E} {t : Tn} {cs : List Mi.E}
    (hb : blkC C.N C.sc scope (ownOf C.N scope) = true) (hl : ifs.length ≤ 1) (h1 : comp n C itr = some src) (htg : okTg src tg = true) (h2 : tnOf { C with sc := relS scope C.sc } tg = some t) (ht : tnIn t ((ownOf C.N scope).map (·.2)) = true) (h3 : comp n { C with sc := relS scope C.sc } elt = some x)
    (h4 : ifs.mapM (comp n { C with sc := relS scope C.sc }) = some cs) :
    PI X tg itr (tMI G Wh fun ρ => bnd (dens φ (srcOf src).2 ρ) (iter (srcOf src).1)) ∧ BlkOk X.N X.env.scope scope (ownOf C.N scope) ∧
    (∀ (s : Shared) (H : Hp) (Ca : Addr) (cl : List (Str × Addr)) (fp : List Addr), PG (X.blk s H scope (compEnvC scope cl Ca X.env) fp) tg (gTn G.K t)) ∧
    (∀ (s : Shared) (H : Hp) (Ca : Addr) (cl : List (Str × Addr)) (fp : List Addr), PTs (X.blk s H scope (compEnvC scope cl Ca X.env) fp) ifs (tMB G WF fun ρ => denC φ cs ρ)) ∧
    (∀ (s : Shared) (H : Hp) (Ca : Addr) (cl : List (Str × Addr)) (fp : List Addr), PE (X.blk s H scope (compEnvC scope cl Ca X.env) fp) elt (tM G WF (den φ x))) := by
  have hok : BlkOk X.N X.env.scope scope (ownOf C.N scope) := by rw [c.N, c.sc]; exact blkOk_by hb
  refine ⟨(ih C X Wh c itr src h1).pi tg htg, hok, fun s H Ca cl fp => ?_, fun s H Ca cl fp => pts_of (c.blk s H scope Ca cl fp) (ih _ _ _ (c.blk s H scope Ca cl fp)) hl h4, fun s H Ca cl fp => (ih _ _ _ (c.blk s H scope Ca cl fp) elt x h3).pe⟩
  refine pg_tn (c.blk s H scope Ca cl fp) h2 fun y i hN hi hy => ?_
  have hin : i ∈ (ownOf C.N scope).map (·.2) := by
    cases t with
    | nm j => have e : i = j := hi; subst e; simpa [tnIn] using ht
    | tp is => simp only [tnIn, List.all_eq_true] at ht; simpa using ht i hi
  obtain ⟨⟨z, j⟩, hz, e⟩ := List.mem_map.mp hin
  dsimp only at e
  subst e
  have hNz := hok.ix _ hz
  have hN' : X.N[j]? = some y := hN
  rw [hN'] at hNz
  cases hNz
  unfold ownOf at hz
  obtain ⟨⟨z, kk⟩, hm, e⟩ := List.mem_filterMap.mp hz
  dsimp only at e
  split at e
  · rename_i hk
    rw [Option.map_eq_some_iff] at e
    obtain ⟨_, _, e⟩ := e
    cases e
    have hu := hok.uniq _ hm
    dsimp only at hu
    cases kk <;> simp [isLoc] at hk
    · right
      exact PySem.lookup_relabel_local hu
    · left
      exact beq_iff_eq.mpr hu
  · cases e

theorem snd_lc (c : Ctx G φ k C X Wh) {n : Nat} (ih : ∀ (C : CC) (X : Cx) (Wh : WX), Ctx G φ k C X Wh → ∀ e E, comp n C e = some E → SndE G φ X Wh e E) {elt tg itr : Expr} {ifs : List Expr} {scope : Scope} {pos : Pos} {src x : Mi.E} {t : Tn} {cs : List Mi.E}
    (hb : blkC C.N C.sc scope (ownOf C.N scope) = true) (hl : ifs.length ≤ 1) (h1 : comp n C itr = some src) (htg : okTg src tg = true) (h2 : tnOf { C with sc := relS scope C.sc } tg = some t) (ht : tnIn t ((ownOf C.N scope).map (·.2)) = true) (h3 : comp n { C with sc := relS scope C.sc } elt = some x)
    (h4 : ifs.mapM (comp n { C with sc := relS scope C.sc }) = some cs) (hset : ∀ v, foldedSetIterable itr X.env v = pure v) :
    PE X (.ListComp elt [⟨tg, itr, ifs, 0⟩] scope pos) (tM G Wh (den φ (.lc x t ((ownOf C.N scope).map (·.2)) (srcOf src).1 (srcOf src).2 cs))) := by
  obtain ⟨w1, w2, w3, w4, w5⟩ := lc_parts c ih hb hl h1 htg h2 ht h3 h4
  exact peImp (pe_lc c.calm c.nd w1 w2 w3 w4 w5 hset) fun σ H Q q => lc_ok ht q

theorem snd_dc (c : Ctx G φ k C X Wh) {n : Nat} (ih : ∀ (C : CC) (X : Cx) (Wh : WX), Ctx G φ k C X Wh → ∀ e E, comp n C e = some E → SndE G φ X Wh e E) {ke ve tg itr : Expr} {ifs : List Expr} {scope : Scope} {pos : Pos} {src x y : Mi.E} {t : Tn} {cs : List Mi.E}
    (hb : blkC C.N C.sc scope (ownOf C.N scope) = true) (hl : ifs.length ≤ 1) (h1 : comp n C itr = some src) (htg : okTg src tg = true) (h2 : tnOf { C with sc := relS scope C.sc } tg = some t) (ht : tnIn t ((ownOf C.N scope).map (·.2)) = true) (h3 : comp n { C with sc := relS scope C.sc } ke = some x)
    (h5 : comp n { C with sc := relS scope C.sc } ve = some y) (h4 : ifs.mapM (comp n { C with sc := relS scope C.sc }) = some cs) (hset : ∀ v, foldedSetIterable itr X.env v = pure v) :
    PE X (.DictComp ke ve [⟨tg, itr, ifs, 0⟩] scope pos) (tM G Wh (den φ (.dc x y t ((ownOf C.N scope).map (·.2)) (srcOf src).1 (srcOf src).2 cs))) := by
  obtain ⟨w1, w2, w3, w4, w5⟩ := lc_parts c ih hb hl h1 htg h2 ht h3 h4
  obtain ⟨_, _, _, _, w6⟩ := lc_parts c ih hb hl h1 htg h2 ht h5 h4
  exact peImp (pe_dc c.calm c.nd w1 w2 w3 w4 w5 w6 hset) fun σ H Q q => dc_ok ht q

/-! ### written dicts -/
theorem mapM_id_some {α : Type} : ∀ {l : List (Option α)} {r : List α}, l.mapM id = some r → l = r.map some
  | [], r, h => by simp at h; subst h; rfl
  | x :: l, r, h => by
    rw [List.mapM_cons] at h
    simp only [Option.pure_def, Option.bind_eq_bind, Option.bind_eq_some_iff, Option.some.injEq, id] at h
    obtain ⟨a, rfl, b, h2, rfl⟩ := h
    rw [List.map_cons, mapM_id_some h2]
def flat2 {α : Type} (l : List (α × α)) : List α := l.flatMap fun p => [p.1, p.2]
@[simp] theorem flat2_nil {α : Type} : flat2 ([] : List (α × α)) = [] := rfl
@[simp] theorem flat2_cons {α : Type} (p : α × α) (l : List (α × α)) : flat2 (p :: l) = p.1 :: p.2 :: flat2 l := rfl
theorem pps_of {n : Nat} {pos : Pos} (ih : ∀ e E, comp n C e = some E → PE X e (tM G Wh (den φ E))) : ∀ {ks vs : List Expr} {Ks Vs : List Mi.E}, ks.mapM (comp n C) = some Ks → vs.mapM (comp n C) = some Vs → ks.length = vs.length →
    PPs X pos (ks.map some) vs ((Ks.zip Vs).map fun p => (tM G Wh (den φ p.1), tM G Wh (den φ p.2)))
  | [], [], Ks, Vs, h1, h2, hl => by
    simp at h1 h2; subst h1; subst h2
    exact pps_nil
  | k :: ks, v :: vs, Ks, Vs, h1, h2, hl => by
    rw [List.mapM_cons] at h1 h2
    simp only [Option.pure_def, Option.bind_eq_bind, Option.bind_eq_some_iff, Option.some.injEq] at h1 h2
    obtain ⟨K, k1, Ks', k2, rfl⟩ := h1
    obtain ⟨U, u1, Vs', u2, rfl⟩ := h2
    exact pps_cons (ih k K k1) (ih v U u1) (pps_of ih k2 u2 (by simpa using hl))
  | [], _ :: _, _, _, _, _, hl => by simp at hl
  | _ :: _, [], _, _, _, _, hl => by simp at hl
theorem tPairs_of : ∀ (ps : List (Mi.E × Mi.E)) {σ : L2.St} {H : Hp} {R : List (V × V) → Hp → Prop}, tML G Wh (dens φ (flat2 ps)) σ H (fun l H' => ∀ q, l = flat2 q → R q H') →
    tPairs (ps.map fun p => (tM G Wh (den φ p.1), tM G Wh (den φ p.2))) σ H R
  | [], σ, H, R, h => by
    obtain ⟨ρ, μ, st, er, sr, p⟩ := h
    exact p.okR sr Reps.nil_ [] rfl
  | (a, b) :: ps, σ, H, R, h => by
    obtain ⟨ρ, μ, st, er, sr, p⟩ := h
    simp only [flat2_cons, dens] at p
    refine (ahead er sr p).mono fun x H1 ⟨μ1, st1, w, er1, sr1, g1, rx, p1⟩ => ?_
    have p1 : PostL G (fun c d => Wh c d σ) H1 μ1 (((den φ b ρ st1).bind fun w => bnd (dens φ (flat2 ps) ρ) fun ws => ret (w :: ws)).bind fun ws => ret (w :: ws)) (fun l H' => ∀ q, l = flat2 q → R q H') := p1
    rw [bind_assoc] at p1
    refine (ahead er1 sr1 p1).mono fun y H2 ⟨μ2, st2, u, er2, sr2, g2, ry, p2⟩ => ?_
    have p2 : PostL G (fun c d => Wh c d σ) H2 μ2 (((dens φ (flat2 ps) ρ st2).bind fun ws => ret (u :: ws)).bind fun ws => ret (w :: ws)) (fun l H' => ∀ q, l = flat2 q → R q H') := p2
    rw [bind_assoc] at p2
    refine tPairs_of ps ((aheadL er2 sr2 p2).mono fun z H3 ⟨μ3, st3, t, er3, sr3, g3, rz, p3⟩ => ?_)
    have f := p3.okR sr3 ((rz.cons_ (ry.grow sr2 g3)).cons_ ((rx.grow sr1 g2).grow sr2 g3))
    exact fun q e => f ((x, y) :: q) (by rw [e]; rfl)
theorem pair_reps {H : Hp} {μ : List Addr} : ∀ {q : List (V × V)} {ws : List W} {kvs : List (W × W)}, pairUp ws = some kvs → Reps G H μ ws (flat2 q) → Reps G H μ (kvs.map (·.1)) (q.map (·.1)) ∧ Reps G H μ (kvs.map (·.2)) (q.map (·.2))
  | [], ws, kvs, h, r => by
    cases ws with
    | nil => simp [pairUp] at h; subst h; exact ⟨Reps.nil_, Reps.nil_⟩
    | cons w ws => simp only [Reps] at r; obtain ⟨_, _, e, _⟩ := r; simp at e
  | (x, y) :: q, ws, kvs, h, r => by
    match ws, h, r with
    | [], h, r => have := r.nil_inv; simp at this
    | [w], h, r => simp [pairUp] at h
    | a :: b :: ws, h, r =>
      simp only [pairUp, Option.map_eq_some_iff] at h
      obtain ⟨kvs', h1, rfl⟩ := h
      obtain ⟨ra, r⟩ := r.cons_inv
      obtain ⟨rb, r⟩ := r.cons_inv
      obtain ⟨i1, i2⟩ := pair_reps h1 r
      exact ⟨i1.cons_ ra, i2.cons_ rb⟩
theorem keys_of {H : Hp} {μ : List Addr} : ∀ {kvs : List (W × W)} {q : List (V × V)}, kvs.all (fun p => isKey p.1) = true → Reps G H μ (kvs.map (·.1)) (q.map (·.1)) →
    ∃ kv : List (Key × V), q = kv.map (fun p => (kV p.1, p.2)) ∧ kvs.map (·.1) = kv.map fun p => kW p.1
  | [], q, _, r => by
    have := r.nil_inv
    rw [List.map_eq_nil_iff] at this
    subst this
    exact ⟨[], rfl, rfl⟩
  | (a, b) :: kvs, q, h, r => by
    match q, r with
    | [], r => simp only [List.map_cons, Reps] at r; obtain ⟨_, _, e, _⟩ := r; simp at e
    | (x, y) :: q, r =>
      rw [List.all_cons, Bool.and_eq_true] at h
      obtain ⟨ra, r⟩ := Reps.cons_inv r
      obtain ⟨kv, rfl, e⟩ := keys_of h.2 r
      have h1 := h.1
      cases a with
      | int i => exact ⟨(.inl i, y) :: kv, by rw [List.map_cons, show x = V.int i from Rep.int_inv ra]; rfl, by rw [List.map_cons, List.map_cons, e]; rfl⟩
      | str i => exact ⟨(.inr i, y) :: kv, by rw [List.map_cons, show x = V.str i from Rep.str_inv ra]; rfl, by rw [List.map_cons, List.map_cons, e]; rfl⟩
      | _ => cases h1
theorem merge_new : ∀ (more acc : List (Key × V)), ((acc ++ more).map (·.1)).Nodup → mergeK acc more = acc ++ more
  | [], acc, _ => by simp [mergeK]
  | (k, v) :: more, acc, h => by
    have hn : (acc.any fun kv => decide (kv.1 = k)) = false := by
      rw [List.any_eq_false]
      intro p hp e
      rw [List.map_append, List.nodup_append] at h
      exact h.2.2 p.1 (List.mem_map_of_mem hp) k (by simp) (by simpa using e)
    show mergeK (putK acc k v) more = _
    have : putK acc k v = acc ++ [(k, v)] := by unfold putK; rw [if_neg (by rw [hn]; exact Bool.false_ne_true)]
    rw [this, merge_new more (acc ++ [(k, v)]) (by simpa using h)]
    simp
theorem kW_inj {a b : Key} (h : kW a = kW b) : a = b := by
  cases a <;> cases b <;> simp [kW] at h <;> rw [h]
theorem snd_dct {n : Nat} {ks vs : List Expr} {Ks Vs : List Mi.E} {pos : Pos} (ih : ∀ e E, comp n C e = some E → PE X e (tM G Wh (den φ E))) (h1 : ks.mapM (comp n C) = some Ks) (h2 : vs.mapM (comp n C) = some Vs) (hl : ks.length = vs.length) (h15 : ks.length ≤ 15) :
    PE X (.Dict (ks.map some) vs pos) (tM G Wh (den φ (.dct (flat2 (Ks.zip Vs))))) := by
  by_cases h0 : ks = []
  · subst h0
    have : vs = [] := List.eq_nil_of_length_eq_zero (by simpa using hl.symm)
    subst this
    simp at h1 h2; subst h1; subst h2
    refine peImp pe_dnewK fun σ H Q q p hp => ?_
    obtain ⟨ρ, μ, st, er, sr, pp⟩ := q
    have pp : Post G (fun c d => Wh c d σ) H μ (.ok (.loc st.length) (st ++ [.dct []])) Q := pp
    obtain ⟨g, s1⟩ := sr.temp (o := .dK []) hp
    exact pp _ _ (μ ++ [p]) ⟨⟨[p], rfl, by simpa using hp⟩, g.keep, g.stay⟩ (s1.adopt (sr.fresh hp) ⟨[], upd_same, rfl, Reps.nil_⟩) (by simp only [Rep]; exact ⟨p, rfl, by rw [← sr.len]; simp⟩)
  · refine peImp (pe_disp (pps_of ih h1 h2 hl) (by simp) (by simpa using hl) (by simpa using h0) (by simpa using h15)) fun σ H Q q p hp => ?_
    obtain ⟨ρ, μ, st, er, sr, pp⟩ := q
    simp only [den] at pp
    obtain ⟨g, s1⟩ := sr.temp (o := .dK []) hp
    have er1 := er.grow sr g
    refine tPairs_of (Ks.zip Vs) ⟨ρ, μ, st, er1, s1, ?_⟩
    have p1 : Post G (fun c d => Wh c d σ) H μ ((dens φ (flat2 (Ks.zip Vs)) ρ st).bind fun ws => dctOf ws) Q := pp
    cases e0 : dens φ (flat2 (Ks.zip Vs)) ρ st with
    | stuck => rw [e0] at p1; exact p1
    | exc x s => rw [e0] at p1; exact fun c d H' μ' g' sr' xr => p1 c d H' μ' (g.trans g') sr' xr
    | ok ws st1 =>
    rw [e0] at p1
    rintro l H1 μ1 g2 sr2 rl q rfl
    have hnot : p ∉ μ := sr.fresh hp
    have hp1 : H1 p = some (.dK []) := g2.keep p _ upd_same hnot
    refine ⟨hp1, ?_⟩
    rw [bind_ok] at p1
    simp only [dctOf] at p1
    split at p1
    · rename_i kvs e
      split at p1
      · rename_i hk
        simp only [Bool.and_eq_true, decide_eq_true_eq] at hk
        obtain ⟨⟨k1, k2⟩, k3⟩ := hk
        obtain ⟨r1, r2⟩ := pair_reps e rl
        obtain ⟨kv, rfl, e2⟩ := keys_of k1 r1
        have hnd : (kv.map (·.1)).Nodup := by
          rw [e2] at k2
          have : (kv.map fun p => kW p.1) = (kv.map (·.1)).map kW := by simp
          rw [this] at k2
          exact (List.pairwise_map.mp k2).imp fun hab z => hab (by rw [z])
        have hlen : kv.length ≤ 15 := by have := congrArg List.length e2; simp at this; omega
        refine ⟨kv, rfl, hlen, ?_⟩
        rw [merge_new kv [] (by simpa using hnd), List.nil_append]
        obtain ⟨r, er', hr⟩ := g2.mu
        have hp2 : p ∉ μ1 := by
          rw [er', List.mem_append]
          rintro (z | z)
          · exact hnot z
          · have := hr p z; rw [upd_same] at this; cases this
        have ad : SR G H1 (μ1 ++ [p]) (st1 ++ [.dct []]) := sr2.adopt hp2 ⟨[], hp1, rfl, Reps.nil_⟩
        have hidx : (μ1 ++ [p])[st1.length]? = some p := by rw [← sr2.len]; simp
        obtain ⟨g3, s3⟩ := ad.put (o' := .dK kv) (u := .dct kvs) hidx trivial fun g e' => ⟨kv, e', e2, by
          have := (r2.more [p]).grow ad g
          rw [List.map_map] at this
          exact this⟩
        have hs : (st1 ++ [SO.dct []]).set st1.length (.dct kvs) = st1 ++ [.dct kvs] := by simp
        rw [hs] at s3
        refine p1 _ _ (μ1 ++ [p]) ?_ s3 (by simp only [Rep]; exact ⟨p, rfl, hidx⟩)
        refine ⟨⟨r ++ [p], by rw [er', List.append_assoc], fun a ha => ?_⟩, fun a o e hm => ?_, fun a e => ?_⟩
        · rcases List.mem_append.mp ha with z | z
          · exact g.stay a (hr a z)
          · rw [List.mem_singleton.mp z]; exact hp
        · have ne : a ≠ p := ne_of_none e hp
          rw [upd_ne ne]
          exact g2.keep a o (by rw [upd_ne ne]; exact e) hm
        · by_cases ne : a = p
          · rw [ne]; exact hp
          · rw [upd_ne ne] at e
            have := g2.stay a e
            rwa [upd_ne ne] at this
      · exact p1.elim
    · exact p1.elim

/-! ### all expressions -/
theorem mapM_ne {n : Nat} {es : List Expr} {Es : List Mi.E} (h : es.mapM (comp n C) = some Es) : es.length = Es.length := mapM_len h
theorem set_no {n : Nat} {e : Expr} {E : Mi.E} {env : PySem.Env} (h : comp n C e = some E) : ∀ v, foldedSetIterable e env v = pure v := by
  cases n with
  | zero => simp [comp] at h
  | succ n => cases e <;> first | exact fun _ => rfl | (simp [comp] at h)
theorem kw_mapM {n : Nat} {ks : List Keyword} {ws : List Mi.E} (h : ks.mapM (fun k => comp n C k.value) = some ws) : ks.length = ws.length := mapM_len h
theorem isi_arg {as : List Expr} {a : Expr} {ty : Ty} (h : isiArg C as = some (a, ty)) : ∃ t p, as = [a, .Name t p] ∧ tyOf t = some ty ∧ C.isBlt t = true := by
  unfold isiArg at h
  split at h
  · rename_i b t p
    rw [Option.bind_eq_some_iff] at h
    obtain ⟨y, h1, h2⟩ := h
    split at h2
    · cases h2; exact ⟨t, p, rfl, h1, by assumption⟩
    · cases h2
  · cases h
theorem set_arg {as : List Expr} {a : Expr} (h : setArg C as = some a) : ∃ p q, as = [.Call (.Name "set" p) [a] [] q] ∧ C.isBlt "set" = true := by
  unfold setArg at h
  split at h
  · rename_i x p b q
    split at h
    · rename_i hx
      cases h
      obtain ⟨rfl, hb⟩ := hx
      exact ⟨p, q, rfl, hb⟩
    · cases h
  · cases h
theorem rng_arg {as : List Expr} {a : Expr} (h : rngArg C as = some a) : ∃ p q, as = [.Call (.Name "range" p) [a] [] q] ∧ C.isBlt "range" = true := by
  unfold rngArg at h
  split at h
  · rename_i x p b q
    split at h
    · rename_i hx
      cases h
      obtain ⟨rfl, hb⟩ := hx
      exact ⟨p, q, rfl, hb⟩
    · cases h
  · cases h
theorem sound : ∀ (n : Nat) (C : CC) (X : Cx) (Wh : WX), Ctx G φ k C X Wh → ∀ e E, comp n C e = some E → SndE G φ X Wh e E := by
  intro n
  induction n with
  | zero => intro C X Wh c e E h; simp [comp] at h
  | succ n ih =>
    intro C X Wh c e E h
    have ihC : ∀ e E, comp n C e = some E → SndE G φ X Wh e E := ih C X Wh c
    have ihP : ∀ e E, comp n C e = some E → PE X e (tM G Wh (den φ E)) := fun e E h => (ihC e E h).pe
    cases e with
    | Constant v kk pos =>
      simp only [comp, Option.map_eq_some_iff] at h
      obtain ⟨w, h, rfl⟩ := h
      have fin : ∀ {w : W} {v : V} {e : Expr}, PE X e (tC v) → (∀ H μ, Rep G H μ w v) → (∀ whole, isTrue e X.env whole = (do let v ← whole; standAt e.pos; holding [v] (truthy v))) → SndE G φ X Wh e (.cst w) := fun hp hr ht =>
        mk c (peImp hp fun σ H Q q => by
          obtain ⟨ρ, μ, st, er, sr, p⟩ := q
          simp only [den] at p
          exact p.okR sr (hr _ _)) rfl ht
      cases v <;> simp only [constOf, reduceCtorEq, Option.some.injEq] at h <;> subst h
      · exact fin pe_non (fun _ _ => Rep.non_) fun _ => rfl
      · exact fin pe_bl (fun _ _ => Rep.bl_) fun _ => rfl
      · exact fin pe_int (fun _ _ => Rep.int_) fun _ => rfl
      · exact fin pe_str (fun _ _ => Rep.str_) fun _ => rfl
    | Name x pos =>
      simp only [comp] at h
      split at h
      · rename_i i hv
        cases h
        obtain ⟨hN, hvis, ok⟩ := vis_of c hv
        obtain ⟨ok1, ok2, ok3⟩ := okName_of ok
        refine mk c (peImp (pe_var hN hvis ok1 ok2) fun σ H Q q => ?_) rfl fun _ => rfl
        obtain ⟨ρ, μ, st, er, sr, p⟩ := q
        simp only [den] at p
        split at p
        · rename_i w hw
          obtain ⟨v, e1, r⟩ := er.at_ i w hw
          exact ⟨v, e1, p.okR sr r⟩
        · exact p.elim
      · split at h
        · rename_i w hg
          cases h
          obtain ⟨gl, ok, u, v, hm, rv, hr⟩ := glb_of c hg
          obtain ⟨ok1, ok2, ok3⟩ := okName_of ok
          refine mk c (peImp (pe_glob gl hm rv ok1) fun σ H Q q => ?_) rfl fun _ => rfl
          obtain ⟨ρ, μ, st, er, sr, p⟩ := q
          simp only [den] at p
          exact p.okR sr (hr _ _)
        · rename_i i sh hg
          cases h
          obtain ⟨gl, ok, f, fd, ps, hm, hgl, _⟩ := glb_of c hg
          obtain ⟨ok1, ok2, ok3⟩ := okName_of ok
          refine mk c (peImp (pe_glob (v := .ref f) gl hm rfl ok1) fun σ H Q q => ?_) rfl fun _ => rfl
          obtain ⟨ρ, μ, st, er, sr, p⟩ := q
          simp only [den] at p
          exact p.okR sr (by simp only [Rep]; exact hgl)
        · cases h
    | Tuple es kk pos =>
      simp only [comp, Option.map_eq_some_iff] at h
      obtain ⟨Es, h, rfl⟩ := h
      exact mk c (snd_tup (n := n) (snd_args ihP h)) rfl fun _ => rfl
    | List es pos =>
      simp only [comp, Option.map_eq_some_iff] at h
      obtain ⟨Es, h, rfl⟩ := h
      exact mk c (snd_lst (n := n) (snd_args ihP h)) rfl fun _ => rfl
    | Dict keys values pos =>
      simp only [comp, Option.bind_eq_some_iff] at h
      obtain ⟨ks, hk, h⟩ := h
      split at h
      · rename_i hc
        simp only [Option.bind_eq_some_iff, Option.map_eq_some_iff] at h
        obtain ⟨Ks, h1, Vs, h2, rfl⟩ := h
        rw [mapM_id_some hk]
        exact mk c (snd_dct ihP h1 h2 hc.1 hc.2) rfl fun _ => rfl
      · cases h
    | BinOp a op b pos =>
      simp only [comp, Option.bind_eq_some_iff, Option.map_eq_some_iff] at h
      obtain ⟨o, h1, A, h2, B, h3, rfl⟩ := h
      obtain ⟨r, q1, q2⟩ := bop_ok c h1
      exact mk c (peImp (pe_op q1 (ihP a A h2) (ihP b B h3)) fun σ H Q q => snd_op q2 (by simpa only [den] using q)) rfl fun _ => rfl
    | UnaryOp op a pos =>
      cases op <;> simp only [comp, reduceCtorEq, Option.map_eq_some_iff] at h
      · obtain ⟨A, h, rfl⟩ := h
        exact snd_not c (ihC a A h)
      · obtain ⟨A, h, rfl⟩ := h
        exact mk c (snd_neg (ihP a A h)) rfl fun _ => rfl
    | Compare a ops bs pos =>
      match ops, bs, h with
      | [op], [b], h =>
        simp only [comp, Option.bind_eq_some_iff, Option.map_eq_some_iff] at h
        obtain ⟨o, h1, A, h2, B, h3, rfl⟩ := h
        exact snd_cmp c h1 ((comp_noSlice h3).2.2 op) (ihC a A h2) (ihC b B h3)
      | [op, op'], [b, d], h =>
        simp only [comp, Option.bind_eq_some_iff, Option.map_eq_some_iff] at h
        obtain ⟨o, h1, o', h1', A, h2, B, h3, D, h4, rfl⟩ := h
        exact snd_cmp2 c h1 h1' ((comp_noSlice h4).2.2 op') (ihC a A h2) (ihC b B h3) (ihC d D h4)
      | [], _, h => simp [comp] at h
      | [_], [], h => simp [comp] at h
      | [_], _ :: _ :: _, h => simp [comp] at h
      | [_, _], [], h => simp [comp] at h
      | [_, _], [_], h => simp [comp] at h
      | [_, _], _ :: _ :: _ :: _, h => simp [comp] at h
      | _ :: _ :: _ :: _, _, h => simp [comp] at h
    | BoolOp op es pos =>
      cases op <;> simp only [comp, Option.map_eq_some_iff] at h
      · obtain ⟨Es, h, rfl⟩ := h
        by_cases he : es = []
        · subst he
          simp at h; subst h
          have bd : ∀ ρ, den φ (.and []) ρ = bad := fun ρ => by simp only [den, denAnd]
          refine mkPT c ⟨fun _ _ _ _ _ _ q => ?_⟩ rfl ⟨fun _ _ _ _ _ _ q => ?_⟩
          · obtain ⟨ρ, μ, st, er, sr, p⟩ := q
            rw [bd] at p; exact p.elim
          · obtain ⟨ρ, μ, st, er, sr, p⟩ := q
            simp only [bd] at p; exact p.elim
        · obtain ⟨q1, q2⟩ := snd_ands c ihC (pos := pos) h he
          have e1 : (fun ρ => denAnd φ Es ρ) = den φ (.and Es) := by funext ρ; simp only [den]
          refine mkPT c (e1 ▸ q1) rfl ?_
          have := q2.pt
          simpa only [den] using this
      · obtain ⟨Es, h, rfl⟩ := h
        by_cases he : es = []
        · subst he
          simp at h; subst h
          have bd : ∀ ρ, den φ (.or []) ρ = bad := fun ρ => by simp only [den, denOr]
          refine mkPT c ⟨fun _ _ _ _ _ _ q => ?_⟩ rfl ⟨fun _ _ _ _ _ _ q => ?_⟩
          · obtain ⟨ρ, μ, st, er, sr, p⟩ := q
            rw [bd] at p; exact p.elim
          · obtain ⟨ρ, μ, st, er, sr, p⟩ := q
            simp only [bd] at p; exact p.elim
        · obtain ⟨q1, q2⟩ := snd_ors c ihC (pos := pos) h he
          have e1 : (fun ρ => denOr φ Es ρ) = den φ (.or Es) := by funext ρ; simp only [den]
          refine mkPT c (e1 ▸ q1) rfl ?_
          have := q2.pt
          simpa only [den] using this
    | IfExp d a b pos =>
      simp only [comp, Option.bind_eq_some_iff, Option.map_eq_some_iff] at h
      obtain ⟨D, h1, A, h2, B, h3, rfl⟩ := h
      exact snd_ite c (ihC d D h1) (ihC a A h2) (ihC b B h3)
    | Subscript a b pos =>
      by_cases hs : ∃ lo hi p2, b = .Slice lo hi none p2
      · obtain ⟨lo, hi, p2, rfl⟩ := hs
        simp only [comp, Option.bind_eq_some_iff, Option.map_eq_some_iff] at h
        obtain ⟨A, h1, Lo, h2, Hi, h3, rfl⟩ := h
        have pl : PO X lo (tMO G Wh fun ρ => denPart φ Lo ρ) := by
          cases lo with
          | none => cases h2; exact snd_part0
          | some l =>
            simp only [Option.map_eq_some_iff] at h2
            obtain ⟨L, h2, rfl⟩ := h2
            exact snd_part1 (ihP l L h2)
        have ph : PO X hi (tMO G Wh fun ρ => denPart φ Hi ρ) := by
          cases hi with
          | none => cases h3; exact snd_part0
          | some l =>
            simp only [Option.map_eq_some_iff] at h3
            obtain ⟨L, h3, rfl⟩ := h3
            exact snd_part1 (ihP l L h3)
        exact mk c (snd_slc c (ihP a A h1) pl ph) rfl fun _ => rfl
      · have h : ((comp n C a).bind fun x => (comp n C b).map fun y => Mi.E.idx x y) = some E := by
          have e : comp (n + 1) C (.Subscript a b pos) = (comp n C a).bind fun x => (comp n C b).map fun y => Mi.E.idx x y := by
            cases b <;> first | rfl | skip
            rename_i lo hi st p2
            cases st with
            | none => exact absurd ⟨_, _, _, rfl⟩ hs
            | some s => rfl
          rw [← e]; exact h
        simp only [Option.bind_eq_some_iff, Option.map_eq_some_iff] at h
        obtain ⟨A, h1, B, h2, rfl⟩ := h
        exact mk c (snd_idx c (comp_noSlice h2).1 (ihP a A h1) (ihP b B h2)) rfl fun _ => rfl
    | Call f as ks pos =>
      cases f <;> first | (simp [comp] at h; done) | skip
      · -- an attribute: a method
        rename_i o m apos
        simp only [comp] at h
        split at h
        · rename_i hb
          rw [Bool.and_eq_true] at hb
          split at h
          · rename_i mm h1
            split at h1
            · rename_i hks
              rw [List.isEmpty_iff] at hks
              subst hks
              simp only [Option.bind_eq_some_iff, Option.map_eq_some_iff] at h
              obtain ⟨O, h2, Es, h3, rfl⟩ := h
              have hl := mapM_len h3
              have hn := comps_noStar h3
              have ha := snd_args ihP h3
              rcases met_tab h1 with ⟨rfl, e2, rfl⟩ | ⟨rfl, e2, rfl⟩ | ⟨rfl, e2, rfl⟩ | ⟨rfl, e2, rfl⟩ | ⟨rfl, e2, rfl⟩ | ⟨rfl, e2, rfl⟩ | ⟨rfl, e2, rfl⟩ | ⟨rfl, e2, rfl⟩
              · match as, Es, e2, hl, h3, hn with
                | [e], [E'], _, _, h3, hn =>
                  rw [List.mapM_cons] at h3
                  simp only [Option.pure_def, Option.bind_eq_bind, Option.bind_eq_some_iff, Option.some.injEq, List.mapM_nil] at h3
                  obtain ⟨F, h4, _, rfl, h5⟩ := h3
                  cases h5
                  exact mk c (snd_join c hb.1 hb.2 (hn e List.mem_cons_self) (ihP o O h2) (ihP e E' h4)) rfl fun _ => rfl
              · match as, Es, e2, hl, ha, hn with
                | [e], [E'], _, _, ha, hn => exact mk c (snd_append c hb.1 hb.2 (hn e List.mem_cons_self) (ihP o O h2) ha) rfl fun _ => rfl
              · match as, Es, e2, hl with
                | [], [], _, _ => exact mk c (snd_pop c hb.1 hb.2 (ihP o O h2)) rfl fun _ => rfl
              · match as, Es, e2, hl, ha, hn with
                | [e], [E'], _, _, ha, hn => exact mk c (snd_popi c hb.1 hb.2 (hn e List.mem_cons_self) (ihP o O h2) ha) rfl fun _ => rfl
              · match as, Es, e2, hl, ha, hn with
                | [e], [E'], _, _, ha, hn => exact mk c (snd_count c hb.1 hb.2 (hn e List.mem_cons_self) (ihP o O h2) ha) rfl fun _ => rfl
              · match as, Es, e2, hl with
                | [], [], _, _ => exact mk c (snd_rev c hb.1 hb.2 (ihP o O h2)) rfl fun _ => rfl
              · match as, Es, e2, hl, ha, hn with
                | [e], [E'], _, _, ha, hn => exact mk c (snd_index c hb.1 hb.2 (hn e List.mem_cons_self) (ihP o O h2) ha) rfl fun _ => rfl
              · match as, Es, e2, hl, ha, hn with
                | [e], [E'], _, _, ha, hn => exact mk c (snd_upd c hb.1 hb.2 (hn e List.mem_cons_self) (ihP o O h2) ha) rfl fun _ => rfl
            · cases h1
          · split at h
            · rename_i hc
              simp only [Option.bind_eq_some_iff, Option.map_eq_some_iff] at h
              obtain ⟨O, h2, us, h3, ws, h4, rfl⟩ := h
              exact mk c (snd_mth c hb.1 hb.2 hc.2.1 hc.1 (comps_noStar h3) (ihP o O h2) (snd_args ihP h3) (snd_kws ihP h4) (mapM_len h3).symm (mapM_len h4).symm) rfl fun _ => rfl
            · cases h
        · cases h
      · -- a name
        rename_i x p
        simp only [comp] at h
        split at h
        · rename_i i shapes hg
          simp only [Option.bind_eq_some_iff, Option.map_eq_some_iff] at h
          obtain ⟨sh, h1, us, h2, ws, h3, rfl⟩ := h
          have hm := List.mem_of_find?_eq_some h1
          have hp := List.find?_some h1
          simp only [Bool.and_eq_true, beq_iff_eq] at hp
          exact mk c (snd_call c (n := n) hg hm hp.1.1 hp.1.2 hp.2 (comps_noStar h2) (snd_args ihP h2) (snd_kws ihP h3) (mapM_len h2).symm (mapM_len h3).symm) rfl fun _ => rfl
        · rename_i hg
          split at h
          · rename_i hks
            rw [List.isEmpty_iff] at hks
            subst hks
            split at h
            · rename_i e1
              subst e1
              simp only [Option.bind_eq_some_iff, Option.map_eq_some_iff] at h
              obtain ⟨⟨a, ty⟩, h1, A, h2, rfl⟩ := h
              obtain ⟨t, p2, rfl, h3, hb⟩ := isi_arg h1
              exact mk c (snd_isi c hg h3 hb (comp_noStar h2) (ihP a A h2)) rfl fun _ => rfl
            split at h
            · rename_i e1
              subst e1
              obtain ⟨gl, ok, hm⟩ := glb_of c hg
              simp only [Option.bind_eq_some_iff] at h
              obtain ⟨us, h1, h2⟩ := h
              have hl := mapM_len h1
              have hn := comps_noStar h1
              have ha := snd_args ihP h1
              unfold rngOf at h2
              split at h2
              · cases h2
                match as, hl, hn, ha with
                | [a], _, hn, ha => exact mkIt fun tg _ => snd_rng1 c (hn a (by simp)) gl hm ha
              · cases h2
                match as, hl, hn, ha with
                | [a, b], _, hn, ha => exact mkIt fun tg _ => snd_rng2 c (hn a (by simp)) (hn b (by simp)) gl hm ha
              · cases h2
            split at h
            · rename_i e1
              subst e1
              obtain ⟨gl, ok, hm⟩ := glb_of c hg
              simp only [Option.bind_eq_some_iff] at h
              obtain ⟨us, h1, h2⟩ := h
              have hl := mapM_len h1
              have hn := comps_noStar h1
              have ha := snd_args ihP h1
              unfold zipOf at h2
              split at h2
              · cases h2
                match as, hl, hn, ha with
                | [a, b], _, hn, ha =>
                  refine mkIt fun tg htg => ?_
                  cases tg <;> first | cases htg | skip
                  exact snd_zip c (hn a (by simp)) (hn b (by simp)) gl hm ha
              · cases h2
            split at h
            · rename_i e1
              subst e1
              obtain ⟨gl, ok, hm⟩ := glb_of c hg
              simp only [Option.bind_eq_some_iff, Option.map_eq_some_iff] at h
              obtain ⟨a, h1, A, h2, rfl⟩ := h
              obtain ⟨p2, q, rfl, hb⟩ := rng_arg h1
              obtain ⟨gl2, ok2, hm2⟩ := blt_of c hb
              exact mkIt fun tg _ => snd_rrng c (comp_noStar h2) gl hm gl2 hm2 (ihP a A h2)
            split at h
            · rename_i e1
              obtain ⟨rfl, hs⟩ := e1
              simp only [Option.bind_eq_some_iff, Option.map_eq_some_iff] at h
              obtain ⟨a, h1, A, h2, rfl⟩ := h
              obtain ⟨p2, q, rfl, hb⟩ := set_arg h1
              exact mk c (snd_lset c hg hb (comp_noStar h2) (ihP a A h2)) rfl fun _ => rfl
            split at h
            · cases h
            · rename_i hne
              simp only [Option.bind_eq_some_iff, Option.map_eq_some_iff] at h
              obtain ⟨b, h1, Es, h2, rfl⟩ := h
              cases as with
              | nil => simp at hne
              | cons e es => exact mk c (snd_blt c hg h1 (comps_noStar h2) (snd_args ihP h2)) rfl fun _ => rfl
          · cases h
        · simp only [Option.bind_eq_some_iff, Option.map_eq_some_iff] at h
          obtain ⟨i, h1, us, h2, rfl⟩ := h
          unfold callvI at h1
          split at h1
          · rename_i hk
            obtain ⟨hk1, hk2⟩ := hk
            rw [List.isEmpty_iff] at hk1
            subst hk1
            cases as with
            | nil => simp at hk2
            | cons e es => exact mk c (snd_callv c h1 (comps_noStar h2) (mapM_len h2).symm (snd_args ihP h2)) rfl fun _ => rfl
          · cases h1
        · rename_i d hg
          split at h
          · rename_i hall
            simp only [Option.bind_eq_some_iff, Option.map_eq_some_iff] at h
            obtain ⟨sh, h1, us, h2, ws, h3, rfl⟩ := h
            exact mk c (snd_mk c hg h1 hall (comps_noStar h2) (snd_args ihP h2) (snd_kws ihP h3) (mapM_len h2).symm (mapM_len h3).symm) rfl fun _ => rfl
          · cases h
        · cases h
    | Attribute o f pos =>
      simp only [comp] at h
      split at h
      · rename_i hc
        simp only [Option.map_eq_some_iff] at h
        obtain ⟨O, h1, rfl⟩ := h
        exact mk c (snd_fld c hc.1 (ihP o O h1)) rfl fun _ => rfl
      · cases h
    | DictComp ke ve gs scope pos =>
      simp only [comp] at h
      split at h
      · rename_i g
        obtain ⟨tg, itr, ifs, asy⟩ := g
        split at h
        · rename_i hb
          rw [Bool.and_eq_true, Bool.and_eq_true, decide_eq_true_eq, beq_iff_eq] at hb
          simp only [Option.bind_eq_some_iff, Option.map_eq_some_iff, Option.filter_eq_some_iff] at h
          obtain ⟨src, ⟨h1, h1'⟩, t, ⟨h2, h2'⟩, x, h3, y, h5, cs, h4, rfl⟩ := h
          obtain ⟨e0, e1, e2⟩ := hb
          dsimp only at e0 e2
          subst e0
          exact mk c (snd_dc c ih e1 e2 h1 h1' h2 h2' h3 h5 h4 (set_no h1)) rfl fun _ => rfl
        · cases h
      · cases h
    | ListComp elt gs scope pos =>
      simp only [comp] at h
      split at h
      · rename_i g
        obtain ⟨tg, itr, ifs, asy⟩ := g
        split at h
        · rename_i hb
          rw [Bool.and_eq_true, Bool.and_eq_true, decide_eq_true_eq, beq_iff_eq] at hb
          simp only [Option.bind_eq_some_iff, Option.map_eq_some_iff, Option.filter_eq_some_iff] at h
          obtain ⟨src, ⟨h1, h1'⟩, t, ⟨h2, h2'⟩, x, h3, cs, h4, rfl⟩ := h
          obtain ⟨e0, e1, e2⟩ := hb
          dsimp only at e0 e2
          subst e0
          exact mk c (snd_lc c ih e1 e2 h1 h1' h2 h2' h3 h4 (set_no h1)) rfl fun _ => rfl
        · cases h
      · cases h
    | _ => simp [comp] at h
end Mi

/-! Mi14: statements, from the text to the small machine, and that they do the same. -/
namespace Mi
open PySem L2
variable {G : Gs} {φ : Nat → List W → M W} {k : Nat} {C : CC} {X : Cx} {Wh : WX} {N : Nat} {ψ : Nat → List W → Option (List (Str × W))}

def isComp : Expr → Bool
  | .ListComp _ _ _ _ => true
  | .SetComp _ _ _ _ => true
  | .DictComp _ _ _ _ _ => true
  | _ => false
/-- a name that is the block's own, no cell -/
def isOwn : Option NameKind → Bool
  | some .local => true
  | _ => false
def CC.own (C : CC) (x : Str) : Option Nat := if okName x && isOwn (C.sc.names.lookup x) then C.N.findIdx? (· == x) else none
def isName : Expr → Bool
  | .Name _ _ => true
  | _ => false
def nameLine : Expr → Nat
  | .Name _ p => p.line
  | _ => 0
/-- names, and a starred one last -/
def starOf (C : CC) : List Expr → Option (List Nat × Nat)
  | [.Starred (.Name x _) _] => (C.loc x).map fun i => ([], i)
  | .Name x _ :: r => (C.loc x).bind fun i => (starOf C r).map fun p => (i :: p.1, p.2)
  | _ => none
/-- o.f = e -/
def attrOf : Expr → Option (Expr × Str × Pos)
  | .Attribute o f p => some (o, f, p)
  | _ => none
/-- a target -/
def ctgt : Nat → CC → Expr → Option T
  | 0, _, _ => none
  | n + 1, C, e => match e with
    | .Name x _ => (C.loc x).map .nm
    | .Tuple es _ _ => match starOf C es with
      | some p => some (.st p.1 p.2)
      | none => (es.mapM (ctgt n C)).map .tp
    | .Subscript o i _ => (comp n C o).bind fun x => (comp n C i).map fun y => .sub x y
    | _ => none
/-- is it a comprehension that is stored at once -/
def atOnce (C : CC) (y : Str) (py : Pos) : Expr → Bool
  | .ListComp _ _ scope pos => isOwn (C.sc.names.lookup y) && py.line == pos.line && !(scope.names.any fun (n, k) => n == y && (k == .local || k == .cell))
  | _ => false
def lcName : Expr → Expr → Option (Str × Pos)
  | .Name y py, .ListComp _ _ _ _ => some (y, py)
  | _, _ => none
def parNm : Expr → Expr → Option (Str × Pos × Str × Pos × Expr × Expr)
  | .Tuple [.Name x px, .Name y py] _ _, .Tuple [a, b] _ _ => some (x, px, y, py, a, b)
  | _, _ => none
/-- three names, three values -/
def parNm3 : Expr → Expr → Option ((Str × Pos × Str × Pos × Str × Pos) × Expr × Expr × Expr)
  | .Tuple [.Name x px, .Name y py, .Name z pz] _ _, .Tuple [a, b, c] _ _ => some ((x, px, y, py, z, pz), a, b, c)
  | _, _ => none
def allNm : Expr → Expr → Bool
  | .Tuple ts _ _, .Tuple _ _ _ => ts.all isName
  | _, _ => false
def cstmt : Nat → CC → Stmt → Option S
  | 0, _, _ => none
  | n + 1, C, st => match st with
    | .Expr e _ => if isComp e then none else (comp n C e).map .exp
    | .Raise _ _ _ => some .bad
    | .AugAssign (.Attribute o f _) op e _ => if fldCs C.gt f = [] then none else (match op with | .Add => some Bop.add | .Sub => some Bop.sub | _ => none).bind fun b => (comp n C o).bind fun x => (comp n C e).map fun y => .faug x f (fldCs C.gt f) b y
    | .Assign [t] e pos => match attrOf t with
     | some (o, f, _) => if fldCs C.gt f = [] then none else (comp n C o).bind fun x => (comp n C e).map fun y => .fset x f (fldCs C.gt f) y
     | none => match lcName t e with
      | some (y, py) => if atOnce C y py e then (C.loc y).bind fun i => (comp n C e).map fun x => .set (.nm i) x else none
      | none => match parNm t e with
        | some (x, px, y, py, a, b) =>
          if (!isOwn (C.sc.names.lookup x) || !isOwn (C.sc.names.lookup y)) = true then
            (ctgt n C t).bind fun tt => (comp n C e).map fun x => .set tt x
          else if px.line == py.line && !(x == y) && !([a, b].all (foldedForSure 8)) && !([a, b].all (constantsAlone 8)) then
            (C.own x).bind fun i => (C.own y).bind fun j => ([a, b].mapM (comp n C)).map fun es => .set (.tp [.nm i, .nm j]) (.tup es)
          else none
        | none => match parNm3 t e with
         | some ((x, px, y, py, z, pz), a, b, c) =>
          if px.line == py.line && px.line == pz.line && !(x == y) && !(x == z) && !(y == z) && !([a, b, c].all (foldedForSure 8)) && !([a, b, c].all (constantsAlone 8)) then
            (C.own x).bind fun i => (C.own y).bind fun j => (C.own z).bind fun l => ([a, b, c].mapM (comp n C)).map fun es => .set (.tp [.nm i, .nm j, .nm l]) (.tup es)
          else none
         | none => if allNm t e || isComp e then none else (ctgt n C t).bind fun tt => (comp n C e).map fun x => .set tt x
    | .Return (some e) _ => (comp n C e).map .rtn
    | .Return none _ => some .rtn0
    | .If c a b _ => (comp n C c).bind fun x => (a.mapM (cstmt n C)).bind fun y => (b.mapM (cstmt n C)).map fun z => .ite x y z
    | .For tg it body [] _ => ((comp n C it).filter fun src => okTg src tg).bind fun src => (ctgt n C tg).bind fun t => (body.mapM (cstmt n C)).map fun b => .for t (srcOf src).1 (srcOf src).2 b
    | .While c body [] _ => (comp n C c).bind fun x => (body.mapM (cstmt n C)).map fun b => .whl x b
    | .Pass _ => some .pss
    | .Break _ => some .brk
    | .Continue _ => some .cnt
    | _ => none

/-- where statements stand -/
structure CtxS (G : Gs) (φ : Nat → List W → M W) (k : Nat) (C : CC) (X : Cx) (Wh : WX) : Prop extends Ctx G φ k C X Wh where
  own : PassesOwn (model X.prog X.w) X.A X.env X.xe
  fn : ∀ x, X.fn x = true
  kind : X.env.scope.kind = .function
/-- what is wanted behind a statement, at what the small machine answers -/
def PostF (G : Gs) (D : Ends) (σ' : L2.St) (H' : Hp) (μ' : List Addr) : Flow → Prop
  | .nxt => D.nx σ' H'
  | .rtn w => ∀ v, Rep G H' μ' w v → D.rt v H'
  | .brk => D.bk σ' H'
  | .cnt => D.ct σ' H'
def PostS (G : Gs) (Wh : WX) (D : Ends) (H : Hp) (μ : List Addr) : ResS → Prop
  | .ok f ρ st => ∀ σ' H' μ', Grow H H' μ μ' → SR G H' μ' st → EnvR G H' μ' ρ σ' → PostF G D σ' H' μ' f
  | .exc x ρ st => ∀ cls d σ' H' μ', Grow H H' μ μ' → SR G H' μ' st → EnvR G H' μ' ρ σ' → ExcR G H' μ' x cls d → Wh cls d σ' H'
  | .stuck => False
def tS (G : Gs) (Wh : WX) (m : Env → Sto → ResS) : TS := fun D σ H => ∃ ρ μ st, EnvR G H μ ρ σ ∧ SR G H μ st ∧ PostS G Wh D H μ (m ρ st)
theorem PostS.shift {D : Ends} {H H1 : Hp} {μ μ1 : List Addr} {r : ResS} (g : Grow H H1 μ μ1) (h : PostS G Wh D H μ r) : PostS G Wh D H1 μ1 r := by
  cases r with
  | ok f ρ s => exact fun σ' H' μ' g' sr e => h σ' H' μ' (g.trans g') sr e
  | exc x ρ s => exact fun c d σ' H' μ' g' sr e x => h c d σ' H' μ' (g.trans g') sr e x
  | stuck => exact h
/-- an expression ahead of a statement's rest -/
theorem aheadS {H : Hp} {μ : List Addr} {st : Sto} {ρ : Env} {σ : L2.St} {D : Ends} {m : Env → M W} {f : W → Sto → ResS} (er : EnvR G H μ ρ σ) (sr : SR G H μ st) (h : PostS G Wh D H μ (withE (m ρ st) ρ f)) :
    tM G Wh m σ H fun x H1 => ∃ μ1 st1 w, EnvR G H1 μ1 ρ σ ∧ SR G H1 μ1 st1 ∧ Grow H H1 μ μ1 ∧ Rep G H1 μ1 w x ∧ PostS G Wh D H1 μ1 (f w st1) := by
  refine ⟨ρ, μ, st, er, sr, ?_⟩
  cases e : m ρ st with
  | ok a s =>
    rw [e] at h
    exact fun x H1 μ1 g1 sr1 r1 => ⟨μ1, s, a, er.grow sr g1, sr1, g1, r1, PostS.shift g1 h⟩
  | exc x s => rw [e] at h; exact fun c d H1 μ1 g1 sr1 xr => h c d σ H1 μ1 g1 sr1 (er.grow sr g1) xr
  | stuck => rw [e] at h; exact h
theorem aheadSB {H : Hp} {μ : List Addr} {st : Sto} {ρ : Env} {σ : L2.St} {D : Ends} {m : Env → M Bool} {f : Bool → Sto → ResS} (er : EnvR G H μ ρ σ) (sr : SR G H μ st) (h : PostS G Wh D H μ (withE (m ρ st) ρ f)) :
    tMB G Wh m σ H fun x H1 => ∃ μ1 st1, EnvR G H1 μ1 ρ σ ∧ SR G H1 μ1 st1 ∧ Grow H H1 μ μ1 ∧ PostS G Wh D H1 μ1 (f x st1) := by
  refine ⟨ρ, μ, st, er, sr, ?_⟩
  cases e : m ρ st with
  | ok a s =>
    rw [e] at h
    exact fun x H1 μ1 g1 sr1 r1 => by cases r1; exact ⟨μ1, s, er.grow sr g1, sr1, g1, PostS.shift g1 h⟩
  | exc x s => rw [e] at h; exact fun c d H1 μ1 g1 sr1 xr => h c d σ H1 μ1 g1 sr1 (er.grow sr g1) xr
  | stuck => rw [e] at h; exact h
theorem PostS.okN {D : Ends} {H : Hp} {μ : List Addr} {st : Sto} {ρ : Env} {σ : L2.St} (h : PostS G Wh D H μ (.ok .nxt ρ st)) (sr : SR G H μ st) (er : EnvR G H μ ρ σ) : D.nx σ H := h σ H μ .refl sr er

/-! ### targets -/
def PostG (G : Gs) (H : Hp) (μ : List Addr) (r : Res Env) (Q : L2.St → Hp → Prop) : Prop := match r with
  | .ok ρ st => ∀ σ' H' μ', Grow H H' μ μ' → SR G H' μ' st → EnvR G H' μ' ρ σ' → Q σ' H'
  | _ => False
def tG (G : Gs) (m : W → Env → M Env) : TG := fun v σ H Q => ∃ ρ μ st w, EnvR G H μ ρ σ ∧ SR G H μ st ∧ Rep G H μ w v ∧ PostG G H μ (m w ρ st) Q
theorem PostG.shift {H H1 : Hp} {μ μ1 : List Addr} {r : Res Env} {Q : L2.St → Hp → Prop} (g : Grow H H1 μ μ1) (h : PostG G H μ r Q) : PostG G H1 μ1 r Q := by
  cases r with
  | ok ρ s => exact fun σ' H' μ' g' sr e => h σ' H' μ' (g.trans g') sr e
  | exc x s => exact h
  | stuck => exact h
theorem pgImp {tg : Expr} {t t' : TG} (h : PG X tg t) (i : ∀ v σ H Q, t' v σ H Q → t v σ H Q) : PG X tg t' := ⟨fun p s σ H v u Q I r q => h.run p s σ H v u Q I r (i v σ H Q q)⟩
theorem pgOr {tg : Expr} {t t' : TG} (h : PG X tg t) (h' : PG X tg t') : PG X tg (fun v σ H Q => t v σ H Q ∨ t' v σ H Q) := ⟨fun p s σ H v u Q I r q => q.elim (h.run p s σ H v u Q I r) (h'.run p s σ H v u Q I r)⟩
theorem pgsImp {tg : List Expr} {t t' : TGs} (h : PGs X tg t) (i : ∀ v σ H Q, t' v σ H Q → t v σ H Q) : PGs X tg t' := ⟨fun p s σ H v u Q I r q => h.run p s σ H v u Q I r (i v σ H Q q)⟩
/-- o[i] = v, of a list or a dict of the store -/
theorem is_set {H : Hp} {μ : List Addr} {st : Sto} {o i v : V} {wo wi wv : W} {Q : Unit → Sto → Prop} {P : Hp → Prop} (sr : SR G H μ st) (ro : Rep G H μ wo o) (ri : Rep G H μ wi i) (rv : Rep G H μ wv v) {s' : Sto} (h : setW wo wi wv st = .ok () s')
    (hp : ∀ H', Grow H H' μ μ → SR G H' μ s' → P H') : rSetL o i v H P ∨ rSetD o i v H P := by
  unfold setW at h
  split at h
  · rename_i n
    split at h
    · rename_i xs e
      split at h
      · rename_i kk
        split at h
        · rename_i j e2
          cases h
          obtain ⟨a, vs, rfl, hm, hq, rs⟩ := Rep.lst sr ro e
          refine .inl ⟨a, vs, kk, j, rfl, ri.int_inv, hq, by rw [← rs.length]; exact e2, ?_⟩
          obtain ⟨g, s1⟩ := sr.put (o' := .lst (vs.set j v)) (u := .lst (xs.set j wv)) hm trivial fun g e' => ⟨_, e', (rs.set_ j rv).grow sr g⟩
          exact hp _ g s1
        · cases h
      · cases h
    · rename_i kvs e
      split at h
      · rename_i hk
        cases h
        obtain ⟨a, kv, rfl, hm, hq, h2, h3⟩ := Rep.dct sr ro e
        have d : DRel G H μ kvs kv := ⟨h2, h3⟩
        obtain ⟨k', rfl⟩ := keyW hk.1
        have d2 := d.put (k := k') rv
        refine .inr ⟨a, _, rfl, .inl ⟨kv, k', hq, kW_rep ri, by rw [← d.length]; exact SZ_lt hk.2, rfl⟩, ?_⟩
        obtain ⟨g, s1⟩ := sr.put (o' := .dK (putK kv k' v)) (u := .dct (putW kvs (kW k') wv)) hm trivial fun g e' => ⟨_, e', d2.1, (d2.grow sr g).2⟩
        exact hp _ g s1
      · cases h
    · cases h
  · cases h
theorem psetOr {r r' : TSet} (h : PSet X r) (h' : PSet X r') : PSet X (fun o i v H P => r o i v H P ∨ r' o i v H P) := fun pins s σ H o i v ov iv u Q I ro ri rv q => by
  rcases q with q | q
  · exact h pins s σ H o i v ov iv u Q I ro ri rv q
  · exact h' pins s σ H o i v ov iv u Q I ro ri rv q
theorem noExc_ok {α : Type} {m : M α} {s s' : Sto} {a : α} (h : noExc m s = .ok a s') : m s = .ok a s' := by
  unfold noExc at h
  split at h
  · rename_i b s1 e; cases h; exact e
  · cases h
theorem pgs_last {x : Str} {px p : Pos} {t : TG} (h : PG X (.Name x px) t) : PGs X [.Starred (.Name x px) p] (gCons t gNil) := ⟨(pgs_cons h pgs_nil rfl).run⟩
theorem star_names (c : CtxS G φ k C X Wh) : ∀ {es : List Expr} {sp : List Nat × Nat}, starOf C es = some sp →
    PGs X es ((sp.1 ++ [sp.2]).foldr (fun i t => gCons (gName i) t) gNil) ∧ (assignEach es X.env).length = sp.1.length + 1 ∧ (assignEach es X.env).findIdx? (·.1) = some sp.1.length
  | [], sp, h => by simp [starOf] at h
  | e :: es, sp, h => by
    unfold starOf at h
    split at h
    · rename_i x px p heq
      cases heq
      simp only [Option.map_eq_some_iff] at h
      obtain ⟨i, h1, rfl⟩ := h
      obtain ⟨a, b, _⟩ := loc_of c.toCtx h1
      exact ⟨pgs_last (pg_name c.nd a b (.inl (c.fn x))), rfl, rfl⟩
    · rename_i x px r heq
      cases heq
      simp only [Option.bind_eq_some_iff, Option.map_eq_some_iff] at h
      obtain ⟨i, h1, q, h2, rfl⟩ := h
      obtain ⟨a, b, _⟩ := loc_of c.toCtx h1
      obtain ⟨q1, q2, q3⟩ := star_names c h2
      refine ⟨pgs_cons (pg_name c.nd a b (.inl (c.fn x))) q1 rfl, ?_, ?_⟩
      · show (assignEach es X.env).length + 1 = _
        rw [q2]; rfl
      · show List.findIdx? (·.1) ((false, _) :: assignEach es X.env) = _
        rw [List.findIdx?_cons]
        simp [q3]
    · cases h
theorem setAll_app : ∀ {is : List Nat} {ws : List W} {i : Nat} {w : W} {ρ : Env}, ws.length = is.length → setAll (is ++ [i]) (ws ++ [w]) ρ = (setAll is ws ρ).set i (some w)
  | [], [], _, _, _, _ => rfl
  | _ :: is, _ :: ws, _, _, _, h => setAll_app (is := is) (ws := ws) (by simpa using h)
/-- a, b, *c = .. -/
theorem snd_star (c : CtxS G φ k C X Wh) {es : List Expr} {sp : List Nat × Nat} {kk : Nat} {pos : Pos} (h : starOf C es = some sp) : PG X (.Tuple es kk pos) (tG G (asg φ (.st sp.1 sp.2))) := by
  obtain ⟨q1, q2, q3⟩ := star_names c h
  refine pgImp (MiR.pg_star (pos := pos) (k := kk) c.calm q1 q2 q3) fun v σ H Q q => ?_
  obtain ⟨ρ, μ, st, w, er, sr, r, p⟩ := q
  simp only [asg] at p
  split at p
  · rename_i ws e
    split at p
    · rename_i hl
      obtain ⟨a, vs, rfl, hq, rs⟩ := isSeq_of sr r e
      refine ⟨a, vs, rfl, c.K ▸ hq.symm, by rw [← rs.length]; exact hl, fun q hq => ?_⟩
      obtain ⟨g, s1, r1⟩ := sr.lay hq (rs.drop_ sp.1.length)
      have rr : Reps G (upd H q (.lst (vs.drop sp.1.length))) (μ ++ [q]) (ws.take sp.1.length ++ [.loc st.length]) (vs.take sp.1.length ++ [.ref q]) := ((rs.take_ sp.1.length).grow sr g).append_ (Reps.nil_.cons_ r1)
      refine sets_ok (ρ := ρ) (by simp [hl]) rr (er.grow sr g) fun σ' e' _ => ?_
      rw [setAll_app (by simp [hl])] at e'
      exact p _ _ _ g s1 e'
    · exact p.elim
  · exact p.elim
/-- a target: what the small machine's does -/
theorem snd_tgt (c : CtxS G φ k C X Wh) : ∀ (n : Nat) (e : Expr) (t : T), ctgt n C e = some t → PG X e (tG G (asg φ t)) := by
  intro n
  induction n with
  | zero => intro e t h; simp [ctgt] at h
  | succ n ih =>
    intro e t h
    cases e with
    | Name x pos =>
      simp only [ctgt, Option.map_eq_some_iff] at h
      obtain ⟨i, h1, rfl⟩ := h
      obtain ⟨a, b, _⟩ := loc_of c.toCtx h1
      refine pgImp (pg_name c.nd a b (.inl (c.fn x))) fun v σ H Q q => ?_
      obtain ⟨ρ, μ, st, w, er, sr, r, p⟩ := q
      simp only [asg] at p
      exact p _ H μ .refl sr (er.set i r)
    | Tuple es kk pos =>
      simp only [ctgt] at h
      split at h
      · rename_i sp hsp
        cases h
        exact snd_star c hsp
      rename_i hsp
      simp only [Option.map_eq_some_iff] at h
      obtain ⟨ts, h1, rfl⟩ := h
      have key : ∀ {es : List Expr} {ts : List T}, es.mapM (ctgt n C) = some ts →
          PGs X es (fun vs σ H Q => ∃ ρ μ st ws, EnvR G H μ ρ σ ∧ SR G H μ st ∧ Reps G H μ ws vs ∧ ws.length = ts.length ∧ PostG G H μ (asgs φ ts ws ρ st) Q) ∧ (assignEach es X.env).length = ts.length ∧ (assignEach es X.env).findIdx? (·.1) = none := by
        intro es
        induction es with
        | nil =>
          intro ts h; simp at h; subst h
          refine ⟨pgsImp pgs_nil fun v σ H Q q => ?_, rfl, rfl⟩
          obtain ⟨ρ, μ, st, ws, er, sr, r, hl, p⟩ := q
          have : ws = [] := List.eq_nil_of_length_eq_zero (by simpa using hl)
          subst this
          simp only [asgs] at p
          exact ⟨r.nil_inv, p _ H μ .refl sr er⟩
        | cons e es ih2 =>
          intro ts h
          rw [List.mapM_cons] at h
          simp only [Option.pure_def, Option.bind_eq_bind, Option.bind_eq_some_iff, Option.some.injEq] at h
          obtain ⟨t, h1, ts', h2, rfl⟩ := h
          obtain ⟨q1, q2, q3⟩ := ih2 h2
          have hns : (assignEach (e :: es) X.env) = (false, assign e X.env) :: assignEach es X.env := by
            cases n with
            | zero => simp [ctgt] at h1
            | succ n => cases e <;> first | rfl | (simp [ctgt] at h1)
          refine ⟨pgsImp (pgs_cons (ih e t h1) q1 (by rw [hns]; rfl)) fun vs σ H Q q => ?_, by rw [hns]; simp [q2], by rw [hns, List.findIdx?_cons]; simp [q3]⟩
          obtain ⟨ρ, μ, st, ws, er, sr, r, hl, p⟩ := q
          match ws, hl, r, p with
          | w :: ws, hl, r, p =>
            simp only [Reps] at r
            obtain ⟨v, vr, rfl, r1, r2⟩ := r
            refine ⟨v, vr, rfl, ρ, μ, st, w, er, sr, r1, ?_⟩
            simp only [asgs] at p
            have p : PostG G H μ ((asg φ t w ρ st).bind fun ρ1 => asgs φ ts' ws ρ1) Q := p
            cases e1 : asg φ t w ρ st with
            | ok ρ1 s1 =>
              rw [e1] at p
              exact fun σ' H' μ' g sr' er' => ⟨ρ1, μ', s1, ws, er', sr', r2.grow sr g, by simpa using hl, PostG.shift g p⟩
            | exc x s1 => rw [e1] at p; exact p
            | stuck => rw [e1] at p; exact p
      obtain ⟨q1, q2, q3⟩ := key h1
      have pT := pg_tup (pos := pos) (k := kk) c.calm q1 q2 q3
      have pL := pg_unl (pos := pos) (k := kk) c.calm q1 q2 q3
      refine pgImp (pgOr pT pL) fun v σ H Q q => ?_
      obtain ⟨ρ, μ, st, w, er, sr, r, p⟩ := q
      simp only [asg] at p
      split at p
      · rename_i ws e
        split at p
        · rename_i hl
          obtain ⟨a, vs, rfl, hq, rs⟩ := isSeq_of sr r e
          rcases hq with hq | hq
          · exact .inr ⟨a, vs, rfl, c.K ▸ hq, by rw [← rs.length]; exact hl, ρ, μ, st, ws, er, sr, rs, hl, p⟩
          · exact .inl ⟨a, vs, rfl, c.K ▸ hq, by rw [← rs.length]; exact hl, ρ, μ, st, ws, er, sr, rs, hl, p⟩
        · exact p.elim
      · exact p.elim
    | Subscript o i pos =>
      simp only [ctgt, Option.bind_eq_some_iff, Option.map_eq_some_iff] at h
      obtain ⟨O, h1, I, h2, rfl⟩ := h
      have p1 := (sound n C X Wh c.toCtx o O h1).pe
      have p2 := (sound n C X Wh c.toCtx i I h2).pe
      refine pgImp (pg_sub p1 p2 (psetOr set_list (set_dict (by have := c.room.units; omega))) (by
        have := comp_noStar h2
        cases n with
        | zero => simp [comp] at h2
        | succ n => cases i <;> first | (intro _; rfl) | (simp [comp] at h2))) fun v σ H Q q => ?_
      obtain ⟨ρ, μ, st, w, er, sr, r, p⟩ := q
      simp only [asg] at p
      cases e : noExc (bnd (den φ O ρ) fun ov => bnd (den φ I ρ) fun iv => bnd (setW ov iv w) fun _ => ret ρ) st with
      | stuck => rw [e] at p; exact p.elim
      | exc x s => rw [e] at p; exact p.elim
      | ok ρ1 s1 =>
        rw [e] at p
        obtain ⟨ov, s2, e1, e2⟩ := bind_ok_inv (noExc_ok e)
        obtain ⟨iv, s3, e3, e4⟩ := bind_ok_inv e2
        obtain ⟨u, s4, e5, e6⟩ := bind_ok_inv e4
        cases e6
        refine ⟨ρ, μ, st, er, sr, ?_⟩
        rw [e1]
        intro x H1 μ1 g1 sr1 r1
        refine ⟨ρ, μ1, s2, er.grow sr g1, sr1, ?_⟩
        rw [e3]
        intro y H2 μ2 g2 sr2 r2
        refine is_set (Q := fun _ _ => True) sr2 (r1.grow sr1 g2) r2 ((r.grow sr g1).grow sr1 g2) e5 fun H3 g3 sr3 => ?_
        exact p σ H3 μ2 ((g1.trans g2).trans g3) sr3 (((er.grow sr g1).grow sr1 g2).grow sr2 g3)
    | _ => simp [ctgt] at h
end Mi

/-! Mi15: all statements. -/
namespace Mi
open PySem L2
variable {G : Gs} {φ : Nat → List W → M W} {k : Nat} {C : CC} {X : Cx} {Wh : WX} {N : Nat} {ψ : Nat → List W → Option (List (Str × W))}

theorem swap_no {e : Expr} {t : Option Expr} {l : Nat} {env : PySem.Env} (h : isComp e = false) : swapsWith e t l env = pure false := by
  cases e <;> first | rfl | cases h
theorem swapSole_no {e t : Expr} {l : Nat} {env : PySem.Env} (h : isComp e = false) : swapsWithSole [t] e l env = pure false := swap_no h
theorem names_lt {f : Expr → Option Str} (hf : ∀ e, isName e = false → f e = none) : ∀ {ts : List Expr}, ts.all isName = false → (ts.filterMap f).length < ts.length
  | [], h => by simp at h
  | t :: ts, h => by
    rw [List.filterMap_cons]
    cases e : isName t with
    | false =>
      rw [hf t e]
      exact Nat.lt_succ_of_le (List.length_filterMap_le f ts)
    | true =>
      rw [List.all_cons, e, Bool.true_and] at h
      have := names_lt hf h
      cases q : f t with
      | none => simp only [List.length_cons]; omega
      | some y => simp only [List.length_cons]; omega
theorem stored_none {t e : Expr} {env : PySem.Env} (h : (∀ ts a b vs c d, t = .Tuple ts a b → e = .Tuple vs c d → ts.all isName = false) ∧ (∀ ts b, t ≠ .List ts b)) : swappedStores [t] e env = pure none := by
  by_cases ht : ∃ ts a b, t = .Tuple ts a b
  · obtain ⟨ts, a, b, rfl⟩ := ht
    by_cases he : ∃ vs c d, e = .Tuple vs c d
    · obtain ⟨vs, c, d, rfl⟩ := he
      have hn := h.1 ts a b vs c d rfl rfl
      unfold swappedStores
      dsimp only
      split
      · rfl
      · split
        · rfl
        · have := names_lt (f := fun e => match e with | .Name id pos => if env.kindOf id == some .local && pos.line == (ts.head?.map (·.pos.line)).getD 0 then some id else none | _ => none) (fun e he => by cases e <;> first | rfl | cases he) hn
          rw [if_pos]
          rw [Bool.or_eq_true]
          left
          exact bne_iff_ne.mpr (Nat.ne_of_lt this)
    · unfold swappedStores
      cases e <;> first | rfl | exact absurd ⟨_, _, _, rfl⟩ he
  · unfold swappedStores
    cases t <;> first | rfl | exact absurd ⟨_, _, _, rfl⟩ ht | exact absurd rfl (h.2 _ _)

theorem stored_two {x y : Str} {px py pt p2 : Pos} {kt k2 : Nat} {a b : Expr} {env : PySem.Env} (hk : env.scope.kind = .function) (hx : env.scope.names.lookup x = some .local) (hy : env.scope.names.lookup y = some .local) (hl : px.line = py.line) (hxy : ¬ x = y)
    (ha : noStar a = true) (hb : noStar b = true) (h1 : [a, b].all (foldedForSure 8) = false) (h2 : [a, b].all (constantsAlone 8) = false) : swappedStores [.Tuple [.Name x px, .Name y py] kt pt] (.Tuple [a, b] k2 p2) env = pure (some [x, y]) := by
  have hbk : env.blockKind = .function := by unfold Env.blockKind; rw [hk]; rfl
  have e1 : env.kindOf x = some .local := hx
  have e2 : env.kindOf y = some .local := hy
  unfold swappedStores
  simp only [hbk, List.length_cons, List.length_nil]
  rw [if_neg (by decide)]
  refine (if_neg ?_).trans ?_
  · intro h
    simp only [List.any_cons, List.any_nil, Bool.or_false, Bool.or_eq_true] at h
    rcases h with h | h
    · cases a <;> first | (cases ha; done) | (cases h; done)
    · cases b <;> first | (cases hb; done) | (cases h; done)
  have l1 : ([Expr.Name x px, Expr.Name y py].head?.map (·.pos.line)).getD 0 = px.line := rfl
  simp only [List.filterMap_cons, e1, e2, l1, hl, beq_self_eq_true, Bool.and_self, if_true, List.filterMap_nil]
  have ed : ([x, y] : List Str).eraseDups = [x, y] := by
    have : (x == y) = false := beq_eq_false_iff_ne.mpr hxy
    have h2 : (y == x) = false := beq_eq_false_iff_ne.mpr fun e => hxy e.symm
    simp [List.eraseDups_cons, this, h2]
  rw [ed]
  rw [if_neg (by simp), h1, if_neg (by decide), h2, if_neg (by decide)]

theorem stored_three {x y z : Str} {px py pz pt p2 : Pos} {kt k2 : Nat} {a b c : Expr} {env : PySem.Env} (hk : env.scope.kind = .function) (hx : env.scope.names.lookup x = some .local) (hy : env.scope.names.lookup y = some .local) (hz : env.scope.names.lookup z = some .local)
    (hl : px.line = py.line) (hl2 : px.line = pz.line) (hxy : ¬ x = y) (hxz : ¬ x = z) (hyz : ¬ y = z)
    (ha : noStar a = true) (hb : noStar b = true) (hc : noStar c = true) (h1 : [a, b, c].all (foldedForSure 8) = false) (h2 : [a, b, c].all (constantsAlone 8) = false) : swappedStores [.Tuple [.Name x px, .Name y py, .Name z pz] kt pt] (.Tuple [a, b, c] k2 p2) env = pure (some [x, y, z]) := by
  have hbk : env.blockKind = .function := by unfold Env.blockKind; rw [hk]; rfl
  have e1 : env.kindOf x = some .local := hx
  have e2 : env.kindOf y = some .local := hy
  have e3 : env.kindOf z = some .local := hz
  unfold swappedStores
  simp only [hbk, List.length_cons, List.length_nil]
  rw [if_neg (by decide)]
  refine (if_neg ?_).trans ?_
  · intro h
    simp only [List.any_cons, List.any_nil, Bool.or_false, Bool.or_eq_true] at h
    rcases h with h | h | h
    · cases a <;> first | (cases ha; done) | (cases h; done)
    · cases b <;> first | (cases hb; done) | (cases h; done)
    · cases c <;> first | (cases hc; done) | (cases h; done)
  have l1 : ([Expr.Name x px, Expr.Name y py, Expr.Name z pz].head?.map (·.pos.line)).getD 0 = px.line := rfl
  simp only [List.filterMap_cons, e1, e2, e3, l1, ← hl, ← hl2, beq_self_eq_true, Bool.and_self, if_true, List.filterMap_nil]
  have ed : ([x, y, z] : List Str).eraseDups = [x, y, z] := by
    have n1 : (y == x) = false := beq_eq_false_iff_ne.mpr fun e => hxy e.symm
    have n2 : (z == x) = false := beq_eq_false_iff_ne.mpr fun e => hxz e.symm
    have n3 : (z == y) = false := beq_eq_false_iff_ne.mpr fun e => hyz e.symm
    simp [List.eraseDups_cons, n1, n2, n3]
  rw [ed]
  rw [if_neg (by simp), h1, if_neg (by decide), h2, if_neg (by decide)]
theorem isOwn_of {k : Option NameKind} (h : isOwn k = false) : (k == some .local) = false := by
  unfold isOwn at h
  split at h
  · cases h
  · rename_i hn
    exact beq_eq_false_iff_ne.mpr fun e => hn e
theorem stored_cell {x y : Str} {px py pt p2 : Pos} {kt k2 : Nat} {a b : Expr} {env : PySem.Env} (h : (!isOwn (env.scope.names.lookup x) || !isOwn (env.scope.names.lookup y)) = true) (ha : noStar a = true) (hb : noStar b = true) :
    swappedStores [.Tuple [.Name x px, .Name y py] kt pt] (.Tuple [a, b] k2 p2) env = pure none := by
  unfold swappedStores
  dsimp only
  split
  · rfl
  · split
    · rfl
    · rw [if_pos]
      rw [Bool.or_eq_true]
      left
      have l1 : ([Expr.Name x px, Expr.Name y py].head?.map (·.pos.line)).getD 0 = px.line := rfl
      rw [Bool.or_eq_true, Bool.not_eq_true', Bool.not_eq_true'] at h
      have : ∀ l : Nat, (([Expr.Name x px, Expr.Name y py].filterMap fun | .Name id pos => if env.kindOf id == some .local && pos.line == l then some id else none | _ => none).length) < 2 := by
        intro l
        have kx : env.kindOf x = env.scope.names.lookup x := rfl
        have ky : env.kindOf y = env.scope.names.lookup y := rfl
        simp only [List.filterMap_cons, List.filterMap_nil, kx, ky]
        rcases h with h | h
        · rw [isOwn_of h]
          simp only [Bool.false_and, Bool.false_eq_true, if_false]
          split <;> simp
        · rw [isOwn_of h]
          simp only [Bool.false_and, Bool.false_eq_true, if_false]
          split <;> simp
      exact bne_iff_ne.mpr (Nat.ne_of_lt (this _))
/-! ### loops -/
theorem srcs' {H H' : Hp} {μ μ' : List Addr} {st : Sto} {src : List (W × V)} (sr : SR G H μ st) (g : Grow H H' μ μ') (h : ∀ p ∈ src, Rep G H μ p.1 p.2) : ∀ p ∈ src, Rep G H' μ' p.1 p.2 := srcs sr g h
/-- behind a loop's body -/
abbrev loopE (D : Ends) (Nn : L2.St → Hp → Prop) : Ends := { D with nx := Nn, ct := Nn, bk := D.nx }
theorem for_ok {t : T} {ik : Ik} {its : List Mi.E} {b : List S} {σ : L2.St} {H : Hp} {D : Ends} (h : tS G Wh (exec φ N ψ (.for t ik its b)) D σ H) :
    tFor (tMI G Wh fun ρ => bnd (dens φ its ρ) (iter ik)) (tG G (asg φ t)) (tS G Wh (execs φ N ψ b)) D σ H := by
  obtain ⟨ρ, μ, st, er, sr, p⟩ := h
  simp only [exec] at p
  refine ⟨ρ, μ, st, er, sr, ?_⟩
  show PostR G (IR G) (fun c d => Wh c d σ) H μ ((bnd (dens φ its ρ) (iter ik)) st) _
  cases e : (bnd (dens φ its ρ) (iter ik)) st with
  | stuck => rw [e] at p; exact p
  | exc x s =>
    rw [e] at p
    exact fun c d H1 μ1 g1 sr1 xr => p c d σ H1 μ1 g1 sr1 (er.grow sr g1) xr
  | ok it s1 =>
    rw [e] at p
    obtain ⟨ws, nn⟩ := it
    intro J H1 μ1 g1 sr1 ⟨hz, src, hit, hsrc⟩
    dsimp only at hz hit hsrc
    have p : PostS G Wh D H μ (forGo (fun w ρ => asg φ t w ρ) (fun ρ s => execs φ N ψ b ρ s) (fun s => stays s nn) ws ρ s1) := p
    refine ⟨fun i m σ H => m = ws.length - i ∧ i ≤ ws.length ∧ ∃ ρ2 μ2 st2, EnvR G H μ2 ρ2 σ ∧ SR G H μ2 st2 ∧ (∀ p ∈ src, Rep G H μ2 p.1 p.2) ∧ PostS G Wh D H μ2 (forGo (fun w ρ => asg φ t w ρ) (fun ρ s => execs φ N ψ b ρ s) (fun s => stays s nn) (ws.drop i) ρ2 st2),
      ⟨ws.length, by simp, Nat.zero_le _, ρ, μ1, s1, er.grow sr g1, sr1, hsrc, by simpa using PostS.shift g1 p⟩, ?_⟩
    rintro i m σ2 H2 ⟨rfl, hi, ρ2, μ2, st2, er2, sr2, hsrc2, p2⟩
    by_cases hlt : i < ws.length
    · refine .inr ?_
      rw [List.drop_eq_getElem_cons hlt] at p2
      simp only [forGo] at p2
      split at p2
      · rename_i hchk
        obtain ⟨jgo, jy⟩ := hit.turn H2 μ2 st2 i ws[i] sr2 hchk hsrc2 (List.getElem?_eq_getElem hlt)
        refine ⟨jgo, fun σ' H' => ∃ ρ2 μ2 st2, EnvR G H' μ2 ρ2 σ' ∧ SR G H' μ2 st2 ∧ (∀ p ∈ src, Rep G H' μ2 p.1 p.2) ∧ PostS G Wh D H' μ2 (forGo (fun w ρ => asg φ t w ρ) (fun ρ s => execs φ N ψ b ρ s) (fun s => stays s nn) (ws.drop (i + 1)) ρ2 st2),
          fun σ' H' hN => ⟨ws.length - (i + 1), by omega, rfl, hlt, hN⟩, fun x H3 hy => ?_⟩
        obtain ⟨g3, sr3, rx⟩ := jy x H3 hy
        refine ⟨ρ2, μ2, st2, ws[i], er2.grow sr2 g3, sr3, rx, ?_⟩
        have p3 := PostS.shift g3 p2
        cases e3 : asg φ t ws[i] ρ2 st2 with
        | stuck => rw [e3] at p3; exact p3
        | exc x s => rw [e3] at p3; exact p3.elim
        | ok ρ3 st3 =>
          rw [e3] at p3
          intro σ4 H4 μ4 g4 sr4 er4
          refine ⟨ρ3, μ4, st3, er4, sr4, ?_⟩
          have p4 := PostS.shift g4 p3
          have hsrc4 := srcs sr3 g4 (srcs sr2 g3 hsrc2)
          dsimp only at p4
          cases e4 : execs φ N ψ b ρ3 st3 with
          | stuck => rw [e4] at p4; exact p4
          | exc x ρ5 s5 => rw [e4] at p4; exact p4
          | ok f ρ5 s5 =>
            rw [e4] at p4
            intro σ5 H5 μ5 g5 sr5 er5
            have p5 := PostS.shift g5 p4
            cases f with
            | nxt => exact ⟨ρ5, μ5, s5, er5, sr5, srcs sr4 g5 hsrc4, p5⟩
            | cnt => exact ⟨ρ5, μ5, s5, er5, sr5, srcs sr4 g5 hsrc4, p5⟩
            | brk => exact p5 σ5 H5 μ5 .refl sr5 er5
            | rtn w => exact p5 σ5 H5 μ5 .refl sr5 er5
      · exact p2.elim
    · refine .inl ?_
      have ei : i = ws.length := by omega
      subst ei
      rw [List.drop_length] at p2
      simp only [forGo] at p2
      split at p2
      · rename_i hchk
        exact ⟨hit.stop H2 μ2 st2 sr2 hchk hsrc2, p2 σ2 H2 μ2 .refl sr2 er2⟩
      · exact p2.elim
theorem whl_ok {c : Mi.E} {b : List S} {σ : L2.St} {H : Hp} {D : Ends} (h : tS G Wh (exec φ N ψ (.whl c b)) D σ H) : tWhile (tMB G Wh fun ρ => bnd (den φ c ρ) tru) (tS G Wh (execs φ N ψ b)) D σ H := by
  obtain ⟨ρ, μ, st, er, sr, p⟩ := h
  simp only [exec] at p
  refine ⟨fun m σ H => ∃ ρ μ st, EnvR G H μ ρ σ ∧ SR G H μ st ∧ PostS G Wh D H μ (whlGo (test φ c) (fun ρ s => execs φ N ψ b ρ s) m ρ st), ⟨N, ρ, μ, st, er, sr, p⟩, ?_⟩
  rintro m σ2 H2 ⟨ρ2, μ2, st2, er2, sr2, p2⟩
  cases m with
  | zero => exact p2.elim
  | succ m =>
    simp only [whlGo] at p2
    refine (aheadSB (m := fun ρ => bnd (den φ c ρ) tru) er2 sr2 p2).mono fun t H3 ⟨μ3, st3, er3, sr3, g3, p3⟩ => ?_
    cases t with
    | false =>
      rw [if_neg (by decide)] at p3 ⊢
      exact p3.okN sr3 er3
    | true =>
      rw [if_pos rfl] at p3 ⊢
      refine ⟨fun σ' H' => ∃ ρ μ st, EnvR G H' μ ρ σ' ∧ SR G H' μ st ∧ PostS G Wh D H' μ (whlGo (test φ c) (fun ρ s => execs φ N ψ b ρ s) m ρ st), fun σ' H' hN => ⟨m, Nat.lt_succ_self _, hN⟩, ρ2, μ3, st3, er3, sr3, ?_⟩
      cases e4 : execs φ N ψ b ρ2 st3 with
      | stuck => rw [e4] at p3; exact p3
      | exc x ρ5 s5 => rw [e4] at p3; exact p3
      | ok f ρ5 s5 =>
        rw [e4] at p3
        intro σ5 H5 μ5 g5 sr5 er5
        have p5 := PostS.shift g5 p3
        cases f with
        | nxt => exact ⟨ρ5, μ5, s5, er5, sr5, p5⟩
        | cnt => exact ⟨ρ5, μ5, s5, er5, sr5, p5⟩
        | brk => exact p5 σ5 H5 μ5 .refl sr5 er5
        | rtn w => exact p5 σ5 H5 μ5 .refl sr5 er5
/-- a block, from its statements -/
theorem snd_block {n : Nat} (ih : ∀ st s, cstmt n C st = some s → PS X st (tS G Wh (exec φ N ψ s))) : ∀ {sts : List Stmt} {ss : List S}, sts.mapM (cstmt n C) = some ss → PSs X sts (tS G Wh (execs φ N ψ ss))
  | [], ss, h => by
    simp at h; subst h
    refine pssImp pss_nil fun D σ H q => ?_
    obtain ⟨ρ, μ, st, er, sr, p⟩ := q
    simp only [execs] at p
    exact p.okN sr er
  | s :: sts, ss, h => by
    rw [List.mapM_cons] at h
    simp only [Option.pure_def, Option.bind_eq_bind, Option.bind_eq_some_iff, Option.some.injEq] at h
    obtain ⟨a, h1, as, h2, rfl⟩ := h
    refine pssImp (pss_cons (ih s a h1) (snd_block ih h2)) fun D σ H q => ?_
    obtain ⟨ρ, μ, st, er, sr, p⟩ := q
    simp only [execs] at p
    refine ⟨ρ, μ, st, er, sr, ?_⟩
    cases e : exec φ N ψ a ρ st with
    | stuck => rw [e] at p; exact p
    | exc x ρ5 s5 => rw [e] at p; exact p
    | ok f ρ5 s5 =>
      rw [e] at p
      intro σ5 H5 μ5 g5 sr5 er5
      have p5 := PostS.shift g5 p
      cases f with
      | nxt => exact ⟨ρ5, μ5, s5, er5, sr5, p5⟩
      | cnt => exact p5 σ5 H5 μ5 .refl sr5 er5
      | brk => exact p5 σ5 H5 μ5 .refl sr5 er5
      | rtn w => exact p5 σ5 H5 μ5 .refl sr5 er5
theorem own_of (c : Ctx G φ k C X Wh) {x : Str} {i : Nat} (h : C.own x = some i) : X.N[i]? = some x ∧ X.env.scope.names.lookup x = some .local ∧ okName x = true := by
  unfold CC.own at h
  split at h
  · rename_i hv
    rw [Bool.and_eq_true] at hv
    refine ⟨by rw [c.N]; exact findIdx_get h, ?_, hv.1⟩
    have h2 := hv.2
    rw [← c.sc] at h2
    unfold isOwn at h2
    split at h2
    · rename_i e; exact e
    · cases h2
  · cases h
/-- target = value -/
theorem snd_set {te : TE} {t : T} {E : Mi.E} {σ : L2.St} {H : Hp} {D : Ends} (hte : ∀ (Q : VK), tM G Wh (den φ E) σ H Q → te σ H Q) (q : tS G Wh (exec φ N ψ (.set t E)) D σ H) : tAsg te (tG G (asg φ t)) D σ H := by
  obtain ⟨ρ, μ, st, er, sr, p⟩ := q
  simp only [exec] at p
  refine hte _ ((aheadS er sr p).mono fun x H1 ⟨μ1, st1, w, er1, sr1, g1, rx, p1⟩ => ⟨ρ, μ1, st1, w, er1, sr1, rx, ?_⟩)
  cases e : asg φ t w ρ st1 with
  | stuck => rw [e] at p1; exact p1
  | exc x s => rw [e] at p1; exact p1.elim
  | ok ρ2 s2 => rw [e] at p1; exact fun σ' H' μ' g' sr' er' => p1 σ' H' μ' g' sr' er'

theorem par_ok {i j : Nat} {es : List Mi.E} {σ : L2.St} {H : Hp} {D : Ends} (hl : es.length = 2) (q : tS G Wh (exec φ N ψ (.set (.tp [.nm i, .nm j]) (.tup es))) D σ H) : tPar i j (tML G Wh (dens φ es)) D σ H := by
  obtain ⟨ρ, μ, st, er, sr, p⟩ := q
  simp only [exec, den] at p
  refine ⟨ρ, μ, st, er, sr, ?_⟩
  cases e : dens φ es ρ st with
  | stuck =>
    have p : PostS G Wh D H μ (withE ((dens φ es ρ st).bind _) ρ _) := p
    rw [e] at p; exact p
  | exc x s =>
    have p : PostS G Wh D H μ (withE ((dens φ es ρ st).bind _) ρ _) := p
    rw [e] at p
    exact fun c d H1 μ1 g1 sr1 xr => p c d σ H1 μ1 g1 sr1 (er.grow sr g1) xr
  | ok ws s1 =>
    have p : PostS G Wh D H μ (withE ((dens φ es ρ st).bind fun ws => if ws.length ≤ SZ then ret (.tup ws) else bad) ρ fun w s1 => match asg φ (.tp [.nm i, .nm j]) w ρ s1 with | .ok ρ1 s2 => .ok .nxt ρ1 s2 | _ => .stuck) := p
    rw [e] at p
    have l2 := dens_len φ ρ e
    rw [hl] at l2
    match ws, l2, p with
    | [a, b], _, p =>
      intro vs H1 μ1 g1 sr1 rs
      obtain ⟨v, y, rfl, r1, r2⟩ := rs.two
      refine ⟨v, y, rfl, ?_⟩
      have hz : ([a, b] : List W).length ≤ SZ := by simp [SZ]
      rw [bind_ok, if_pos hz] at p
      have p : PostS G Wh D H μ (.ok .nxt ((ρ.set i (some a)).set j (some b)) s1) := by
        simpa only [withE, asg, asgs, isSeq, List.length_cons, List.length_nil, if_true, bind_ok] using p
      exact p _ H1 μ1 g1 sr1 (((er.grow sr g1).set i r1).set j r2)
/-! ### fields -/
theorem withE_bind {α β : Type} (r : Res α) (f : α → M β) (ρ : Env) (g : β → Sto → ResS) : withE (r.bind f) ρ g = withE r ρ fun a s => withE (f a s) ρ g := by cases r <;> rfl
theorem setFW_of {st : Sto} {cs : List Nat} {f : Str} {x w : W} {s' : Sto} (h : setFW cs f x w st = .ok () s') : ∃ n c fs, x = .loc n ∧ st[n]? = some (.ins c fs) ∧ cs.contains c = true ∧ fs.length < 1000 ∧ s' = st.set n (.ins c (putFW f w fs)) := by
  unfold setFW at h
  split at h
  · rename_i n
    split at h
    · rename_i c fs e
      split at h
      · rename_i hc
        cases h
        exact ⟨n, c, fs, rfl, e, hc.1, hc.2, rfl⟩
      · cases h
    · cases h
  · cases h
theorem setFW_or {st : Sto} {cs : List Nat} {f : Str} {x w : W} : (∃ s', setFW cs f x w st = .ok () s') ∨ setFW cs f x w st = .stuck := by
  unfold setFW
  split
  · split
    · split
      · exact .inl ⟨_, rfl⟩
      · exact .inr rfl
    · exact .inr rfl
  · exact .inr rfl
theorem putF_rel {H : Hp} {μ : List Addr} {f : Str} {w : W} {v : V} (r : Rep G H μ w v) : ∀ {fs : List (Str × W)} {fv : List (Str × V)}, fs.map (·.1) = fv.map (·.1) → Reps G H μ (fs.map (·.2)) (fv.map (·.2)) →
    (putFW f w fs).map (·.1) = (putF f v fv).map (·.1) ∧ Reps G H μ ((putFW f w fs).map (·.2)) ((putF f v fv).map (·.2))
  | [], [], _, _ => ⟨rfl, Reps.nil_.cons_ r⟩
  | [], _ :: _, h, _ => by simp at h
  | _ :: _, [], h, _ => by simp at h
  | (g, x) :: fs, (g', y) :: fv, h, rs => by
    simp only [List.map_cons, List.cons.injEq] at h
    obtain ⟨e, h2⟩ := h
    have e : g = g' := e
    subst e
    obtain ⟨r1, r2⟩ := Reps.cons_inv rs
    obtain ⟨i1, i2⟩ := putF_rel r h2 r2
    unfold putFW putF
    by_cases hg : g = f
    · rw [if_pos hg, if_pos hg]
      exact ⟨by simp [h2], r2.cons_ r⟩
    · rw [if_neg hg, if_neg hg]
      refine ⟨?_, i2.cons_ r1⟩
      rw [List.map_cons, List.map_cons, i1]
/-- what the field's write asks of the hand layer -/
theorem setf_at (c : Ctx G φ k C X Wh) {H : Hp} {μ : List Addr} {st s' : Sto} {f : Str} {x w : W} {v y : V} {P : Hp → Prop} (sr : SR G H μ st) (rx : Rep G H μ x v) (rw_ : Rep G H μ w y) (h : setFW (fldCs C.gt f) f x w st = .ok () s') (hp : ∀ H', Grow H H' μ μ → SR G H' μ s' → P H') :
    ∃ a C0 dx fs, v = .ref a ∧ H a = some (.ins C0 dx fs) ∧ Cls X.K C0 ∧ NoAttr X.K C0 f ∧ fs.length < 1000 ∧ P (upd H a (.ins C0 dx (putF f y fs))) := by
  obtain ⟨n, cN, fs, rfl, es, hc, hl, rfl⟩ := setFW_of h
  obtain ⟨z, d, hgt, rfl, hf⟩ := fldCs_of hc
  obtain ⟨C1, hm1, cg⟩ := c.gtm _ _ hgt
  obtain ⟨a, C0, dx, fv, rfl, hμ, hca, hH, hk1, hk2⟩ := Rep.ins sr rx es
  have eC : C0 = C1 := by have := cg.ca; rw [hca] at this; exact Option.some.inj this
  subst eC
  have hlen : fs.length = fv.length := by have := congrArg List.length hk1; simpa using this
  refine ⟨a, C0, dx, fv, rfl, hH, cg.cls, cg.flds f hf, by rw [← hlen]; exact hl, ?_⟩
  obtain ⟨q1, q2⟩ := putF_rel (f := f) rw_ hk1 hk2
  obtain ⟨g, s1⟩ := sr.put (o' := .ins C0 dx (putF f y fv)) (u := .ins d.c (putFW f w fs)) hμ trivial fun g e' => ⟨C0, dx, _, hca, e', q1, q2.grow sr g⟩
  exact hp _ g s1
theorem snd_fset (c : Ctx G φ k C X Wh) {o e : Expr} {O E : Mi.E} {f : Str} {pos pos' : Pos} (ho : PE X o (tM G Wh (den φ O))) (he : PE X e (tM G Wh (den φ E))) : PS X (.Assign [.Attribute o f pos'] e pos) (tS G Wh (exec φ N ψ (.fset O f (fldCs C.gt f) E))) := by
  refine psImp (ps_fld ho he (by cases e <;> rfl)) fun D σ H q => ?_
  obtain ⟨ρ, μ, st, er, sr, p⟩ := q
  simp only [exec] at p
  have p : PostS G Wh D H μ (withE ((den φ E ρ st).bind fun w => bnd (den φ O ρ) fun x => setFW (fldCs C.gt f) f x w) ρ fun _ s1 => .ok .nxt ρ s1) := p
  rw [withE_bind] at p
  refine (aheadS er sr p).mono fun y H1 ⟨μ1, st1, w, er1, sr1, g1, ry, p1⟩ => ?_
  have p1 : PostS G Wh D H1 μ1 (withE ((den φ O ρ st1).bind fun x => setFW (fldCs C.gt f) f x w) ρ fun _ s1 => .ok .nxt ρ s1) := p1
  rw [withE_bind] at p1
  refine (aheadS er1 sr1 p1).mono fun x H2 ⟨μ2, st2, u, er2, sr2, g2, rx, p2⟩ => ?_
  rcases setFW_or (st := st2) (cs := fldCs C.gt f) (f := f) (x := u) (w := w) with ⟨s', e⟩ | e
  · rw [e] at p2
    exact setf_at c sr2 rx (ry.grow sr1 g2) e fun H' g' sr' => p2 σ H' μ2 g' sr' (er2.grow sr2 g')
  · rw [e] at p2; exact p2.elim
theorem aug_tab {op : Operator} {b : Bop} (h : (match op with | .Add => some Bop.add | .Sub => some Bop.sub | _ => none) = some b) : (op = .Add ∧ b = .add) ∨ (op = .Sub ∧ b = .sub) := by
  cases op <;> simp at h
  · exact .inl ⟨rfl, h.symm⟩
  · exact .inr ⟨rfl, h.symm⟩
theorem augW_of {b : Bop} {w y z : W} {s s' : Sto} (h : augW b w y s = .ok z s') : s' = s ∧ ∃ i j, w = .int i ∧ y = .int j ∧ ((b = .add ∧ z = .int (i + j)) ∨ (b = .sub ∧ z = .int (i - j))) := by
  cases b <;> cases w <;> cases y <;> first | (cases h; done) | skip
  · cases h; exact ⟨rfl, _, _, rfl, rfl, .inl ⟨rfl, rfl⟩⟩
  · cases h; exact ⟨rfl, _, _, rfl, rfl, .inr ⟨rfl, rfl⟩⟩
theorem augW_or {b : Bop} {w y : W} {s : Sto} : (∃ z, augW b w y s = .ok z s) ∨ augW b w y s = .stuck := by
  cases b <;> cases w <;> cases y <;> first | exact .inr rfl | exact .inl ⟨_, rfl⟩
theorem snd_faug (c : Ctx G φ k C X Wh) {o e : Expr} {O E : Mi.E} {f : Str} {pos pos' : Pos} {op : Operator} {b : Bop} (hop : (op = .Add ∧ b = .add) ∨ (op = .Sub ∧ b = .sub)) (ho : PE X o (tM G Wh (den φ O))) (he : PE X e (tM G Wh (den φ E))) :
    PS X (.AugAssign (.Attribute o f pos') op e pos) (tS G Wh (exec φ N ψ (.faug O f (fldCs C.gt f) b E))) := by
  have key : ∀ {rd : V → V → Hp → VK → Prop}, (∀ i j z H Q, ((b = .add ∧ z = W.int (i + j)) ∨ (b = .sub ∧ z = .int (i - j))) → (∀ v, z = .int v → Q (.int v) H) → rd (.int i) (.int j) H Q) → InOp X op rd → PS X (.AugAssign (.Attribute o f pos') op e pos) (tS G Wh (exec φ N ψ (.faug O f (fldCs C.gt f) b E))) := by
    intro rd hrd hin
    refine psImp (ps_fldaug ho he hin) fun D σ H q => ?_
    obtain ⟨ρ, μ, st, er, sr, p⟩ := q
    simp only [exec] at p
    have p : PostS G Wh D H μ (withE ((den φ O ρ st).bind fun x => fun s0 => (bnd (fldW (fldCs C.gt f) f x) fun w => bnd (den φ E ρ) fun y => bnd (augW b w y) fun z s1 => if clsOf s0 x = clsOf s1 x then setFW (fldCs C.gt f) f x z s1 else .stuck) s0) ρ fun _ s1 => .ok .nxt ρ s1) := p
    rw [withE_bind] at p
    refine (aheadS er sr p).mono fun v H1 ⟨μ1, st1, x, er1, sr1, g1, rx, p1⟩ => ?_
    have p1 : PostS G Wh D H1 μ1 (withE ((fldW (fldCs C.gt f) f x st1).bind fun w => bnd (den φ E ρ) fun y => bnd (augW b w y) fun z s2 => if clsOf st1 x = clsOf s2 x then setFW (fldCs C.gt f) f x z s2 else .stuck) ρ fun _ s1 => .ok .nxt ρ s1) := p1
    rcases fldW_stuck (st := st1) (cs := fldCs C.gt f) (f := f) (x := x) with ⟨w, e1⟩ | e1
    · rw [e1, bind_ok] at p1
      obtain ⟨a, C0, dx, fs, u, rfl, hH, hc, hn, hl, ru⟩ := fld_at c sr1 rx e1
      refine ⟨a, C0, dx, fs, u, rfl, hH, hc, hn, hl, ?_⟩
      have p1 : PostS G Wh D H1 μ1 (withE ((den φ E ρ st1).bind fun y => bnd (augW b w y) fun z s2 => if clsOf st1 x = clsOf s2 x then setFW (fldCs C.gt f) f x z s2 else .stuck) ρ fun _ s1 => .ok .nxt ρ s1) := p1
      rw [withE_bind] at p1
      refine (aheadS er1 sr1 p1).mono fun y H2 ⟨μ2, st2, wy, er2, sr2, g2, ry, p2⟩ => ?_
      have p2 : PostS G Wh D H2 μ2 (withE ((augW b w wy st2).bind fun z s2 => if clsOf st1 x = clsOf s2 x then setFW (fldCs C.gt f) f x z s2 else .stuck) ρ fun _ s1 => .ok .nxt ρ s1) := p2
      rcases augW_or (b := b) (w := w) (y := wy) (s := st2) with ⟨z, e2⟩ | e2
      · rw [e2, bind_ok] at p2
        obtain ⟨_, i, j, rfl, rfl, hz⟩ := augW_of e2
        rw [ru.int_inv, ry.int_inv]
        refine hrd i j z H2 _ hz fun v hv => ?_
        subst hv
        by_cases hcl : clsOf st1 x = clsOf st2 x
        case neg => rw [if_neg hcl] at p2; exact p2.elim
        rw [if_pos hcl] at p2
        rcases setFW_or (st := st2) (cs := fldCs C.gt f) (f := f) (x := x) (w := .int v) with ⟨s', e3⟩ | e3
        · rw [e3] at p2
          obtain ⟨a', C', dx', fs', ea, h1, h2, h3, h4, h5⟩ := setf_at c (y := .int v) (P := fun H' => D.nx σ H') sr2 (rx.grow sr1 g2) Rep.int_ e3 fun H' g' sr' => p2 σ H' μ2 g' sr' (er2.grow sr2 g')
          cases ea
          have eC : C' = C0 := by
            obtain ⟨n, cN, fs0, rfl, es, _⟩ := setFW_of e3
            obtain ⟨_, n', cN', fs1, hx, es', _⟩ := fldW_of e1
            cases hx
            obtain ⟨a1, C1, dx1, fv1, q1, q2, q3, q4, _⟩ := Rep.ins sr1 rx es'
            cases q1
            rw [hH] at q4; cases q4
            obtain ⟨a2, C2, dx2, fv2, w1, w2, w3, w4, _⟩ := Rep.ins sr2 (rx.grow sr1 g2) es
            cases w1
            rw [h1] at w4; cases w4
            have hcs : cN = cN' := by
              simp only [clsOf, es', es] at hcl
              exact (Option.some.inj hcl).symm
            subst hcs
            rw [q3] at w3; exact (Option.some.inj w3).symm
          subst eC
          exact ⟨dx', fs', h1, h4, h5⟩
        · rw [e3] at p2; exact p2.elim
      · rw [e2] at p2; exact p2.elim
    · rw [e1] at p1; exact p1.elim
  rcases hop with ⟨rfl, rfl⟩ | ⟨rfl, rfl⟩
  · refine key (rd := rAdd) (fun i j z H Q hz hq => ?_) in_add
    rcases hz with ⟨_, rfl⟩ | ⟨h, _⟩
    · exact ⟨i, j, rfl, rfl, hq _ rfl⟩
    · cases h
  · refine key (rd := rSub) (fun i j z H Q hz hq => ?_) in_sub
    rcases hz with ⟨h, _⟩ | ⟨_, rfl⟩
    · cases h
    · exact ⟨i, j, rfl, rfl, hq _ rfl⟩
theorem par3_ok {i j l : Nat} {es : List Mi.E} {σ : L2.St} {H : Hp} {D : Ends} (hl : es.length = 3) (q : tS G Wh (exec φ N ψ (.set (.tp [.nm i, .nm j, .nm l]) (.tup es))) D σ H) : tPar3 i j l (tML G Wh (dens φ es)) D σ H := by
  obtain ⟨ρ, μ, st, er, sr, p⟩ := q
  simp only [exec, den] at p
  refine ⟨ρ, μ, st, er, sr, ?_⟩
  cases e : dens φ es ρ st with
  | stuck =>
    have p : PostS G Wh D H μ (withE ((dens φ es ρ st).bind _) ρ _) := p
    rw [e] at p; exact p
  | exc x s =>
    have p : PostS G Wh D H μ (withE ((dens φ es ρ st).bind _) ρ _) := p
    rw [e] at p
    exact fun c d H1 μ1 g1 sr1 xr => p c d σ H1 μ1 g1 sr1 (er.grow sr g1) xr
  | ok ws s1 =>
    have p : PostS G Wh D H μ (withE ((dens φ es ρ st).bind fun ws => if ws.length ≤ SZ then ret (.tup ws) else bad) ρ fun w s1 => match asg φ (.tp [.nm i, .nm j, .nm l]) w ρ s1 with | .ok ρ1 s2 => .ok .nxt ρ1 s2 | _ => .stuck) := p
    rw [e] at p
    have l2 := dens_len φ ρ e
    rw [hl] at l2
    match ws, l2, p with
    | [a, b, c], _, p =>
      intro vs H1 μ1 g1 sr1 rs
      obtain ⟨v, vs', rfl, r1, rs⟩ := (by simpa only [Reps] using rs : ∃ v r, vs = v :: r ∧ Rep G H1 μ1 a v ∧ ∃ v' r', r = v' :: r' ∧ Rep G H1 μ1 b v' ∧ ∃ v2 r2, r' = v2 :: r2 ∧ Rep G H1 μ1 c v2 ∧ r2 = [])
      obtain ⟨y, vs2, rfl, r2, z, vs3, rfl, r3, rfl⟩ := rs
      refine ⟨v, y, z, rfl, ?_⟩
      have hz : ([a, b, c] : List W).length ≤ SZ := by simp [SZ]
      rw [bind_ok, if_pos hz] at p
      have p : PostS G Wh D H μ (.ok .nxt (((ρ.set i (some a)).set j (some b)).set l (some c)) s1) := by
        simpa only [withE, asg, asgs, isSeq, List.length_cons, List.length_nil, if_true, bind_ok] using p
      exact p _ H1 μ1 g1 sr1 ((((er.grow sr g1).set i r1).set j r2).set l r3)
theorem cblock {n : Nat} {l : List Stmt} {r : List S} (h : l.mapM (cstmt n C) = some r) : l.mapM (cstmt n C) = some r := h
/-- statements: the text's do what the small machine's do -/
theorem soundS (c : CtxS G φ k C X Wh) : ∀ (n : Nat) (st : Stmt) (s : S), cstmt n C st = some s → PS X st (tS G Wh (exec φ N ψ s)) := by
  intro n
  induction n with
  | zero => intro st s h; simp [cstmt] at h
  | succ n ih =>
    intro st s h
    have ihE : ∀ e E, comp n C e = some E → SndE G φ X Wh e E := sound n C X Wh c.toCtx
    cases st with
    | Expr e pos =>
      simp only [cstmt] at h
      split at h
      · cases h
      · rename_i hc
        simp only [Option.map_eq_some_iff] at h
        obtain ⟨E, h1, rfl⟩ := h
        refine psImp (ps_expr (ihE e E h1).pe (swap_no (by simpa using hc))) fun D σ H q => ?_
        obtain ⟨ρ, μ, st, er, sr, p⟩ := q
        simp only [exec] at p
        exact (aheadS er sr p).mono fun x H1 ⟨μ1, st1, w, er1, sr1, g1, rx, p1⟩ => p1.okN sr1 er1
    | Raise a b pos =>
      simp only [cstmt, Option.some.injEq] at h
      subst h
      refine ⟨fun pins s σ H D I q => ?_⟩
      obtain ⟨ρ, μ, st, er, sr, p⟩ := q
      simp only [exec] at p
      exact p.elim
    | AugAssign t op e pos =>
      cases t <;> simp only [cstmt, reduceCtorEq] at h
      rename_i o f pos'
      split at h
      · cases h
      · simp only [Option.bind_eq_some_iff, Option.map_eq_some_iff] at h
        obtain ⟨b, h0, O, h1, E, h2, rfl⟩ := h
        exact snd_faug c.toCtx (aug_tab h0) (ihE o O h1).pe (ihE e E h2).pe
    | Assign ts e pos =>
      rcases ts with _ | ⟨t, _ | ⟨_, _⟩⟩
      · simp [cstmt] at h
      · -- the three ways
        have plain : isComp e = false → swappedStores [t] e X.env = pure none → ∀ tt x, ctgt n C t = some tt → comp n C e = some x → s = .set tt x → PS X (.Assign [t] e pos) (tS G Wh (exec φ N ψ s)) := by
          rintro hc hsw tt x h1 h2 rfl
          have h1' : (assignEach [t] X.env).map (·.2) = [assign t X.env] := by
            cases n with
            | zero => simp [ctgt] at h1
            | succ n => cases t <;> first | rfl | (simp [ctgt] at h1)
          exact psImp (ps_asg (ihE e x h2).pe (snd_tgt c n t tt h1) (swapSole_no hc) hsw h1') fun D σ H q => snd_set (fun Q q => q) q
        simp only [cstmt] at h
        split at h
        · rename_i o f pos' hat
          have ht : t = .Attribute o f pos' := by
            unfold attrOf at hat
            split at hat
            · cases hat; rfl
            · cases hat
          subst ht
          split at h
          · cases h
          · simp only [Option.bind_eq_some_iff, Option.map_eq_some_iff] at h
            obtain ⟨O, h1, E, h2, rfl⟩ := h
            exact snd_fset c.toCtx (ihE o O h1).pe (ihE e E h2).pe
        split at h
        · rename_i y py hlc
          have : ∃ a b cc d, t = .Name y py ∧ e = .ListComp a b cc d := by
            unfold lcName at hlc
            split at hlc
            · cases hlc; exact ⟨_, _, _, _, rfl, rfl⟩
            · cases hlc
          obtain ⟨a, gs, scope, cpos, rfl, rfl⟩ := this
          split at h
          · rename_i hao
            simp only [Option.bind_eq_some_iff, Option.map_eq_some_iff] at h
            obtain ⟨i, h1, x, h2, rfl⟩ := h
            obtain ⟨l1, l2, l3⟩ := loc_of c.toCtx h1
            simp only [atOnce, Bool.and_eq_true, Bool.not_eq_true'] at hao
            have hyl : X.env.scope.names.lookup y = some .local := by
              rw [c.sc]
              have := hao.1.1
              unfold isOwn at this
              split at this
              · rename_i e; exact e
              · cases this
            have hsw : swapsWith (.ListComp a gs scope cpos) (some (.Name y py)) pos.line X.env = pure true := sw_true c.kind hyl hao.1.2 hao.2
            cases n with
            | zero => simp [comp] at h2
            | succ n =>
              simp only [comp] at h2
              split at h2
              · rename_i g
                obtain ⟨tg, itr, ifs, asy⟩ := g
                split at h2
                · rename_i hb
                  rw [Bool.and_eq_true, Bool.and_eq_true, decide_eq_true_eq, beq_iff_eq] at hb
                  simp only [Option.bind_eq_some_iff, Option.map_eq_some_iff, Option.filter_eq_some_iff] at h2
                  obtain ⟨src, ⟨g1, g1'⟩, t, ⟨g2, g2'⟩, x, g3, cs, g4, rfl⟩ := h2
                  obtain ⟨e0, e1, e2⟩ := hb
                  dsimp only at e0 e2
                  subst e0
                  obtain ⟨w1, w2, w3, w4, w5⟩ := lc_parts c.toCtx (fun C X Wh c e E h => sound n C X Wh c e E h) e1 e2 g1 g1' g2 g2' g3 g4
                  exact psImp (ps_setLc c.calm c.nd l1 hyl hsw w1 w2 w3 w4 w5 (set_no g1)) fun D σ H q => by
                    obtain ⟨ρ, μ, st, er, sr, p⟩ := q
                    simp only [exec] at p
                    exact lc_ok g2' ((aheadS er sr p).mono fun x H1 ⟨μ1, st1, w, er1, sr1, g1, rx, p1⟩ => by
                      simp only [asg] at p1
                      exact p1 _ H1 μ1 .refl sr1 (er1.set i rx))
                · cases h2
              · cases h2
          · cases h
        · split at h
          · rename_i x px y py a b hpr
            have : ∃ kt pt k2 p2, t = .Tuple [.Name x px, .Name y py] kt pt ∧ e = .Tuple [a, b] k2 p2 := by
              unfold parNm at hpr
              split at hpr
              · cases hpr; exact ⟨_, _, _, _, rfl, rfl⟩
              · cases hpr
            obtain ⟨kt, pt, k2, p2, rfl, rfl⟩ := this
            split at h
            · rename_i hcell
              simp only [Option.bind_eq_some_iff, Option.map_eq_some_iff] at h
              obtain ⟨tt, h1, x', h2, rfl⟩ := h
              have hns : ∀ e ∈ [a, b], noStar e = true := by
                cases n with
                | zero => simp [comp] at h2
                | succ n =>
                  simp only [comp, Option.map_eq_some_iff] at h2
                  obtain ⟨Es, h3, _⟩ := h2
                  exact comps_noStar h3
              exact plain rfl (stored_cell (by rw [c.sc]; exact hcell) (hns a (by simp)) (hns b (by simp))) tt x' h1 h2 rfl
            split at h
            · rename_i hao
              simp only [Bool.and_eq_true, Bool.not_eq_true', beq_iff_eq] at hao
              simp only [Option.bind_eq_some_iff, Option.map_eq_some_iff] at h
              obtain ⟨i, h1, j, h2, es, h3, rfl⟩ := h
              obtain ⟨a1, a2, a3⟩ := own_of c.toCtx h1
              obtain ⟨b1, b2, b3⟩ := own_of c.toCtx h2
              have hns := comps_noStar h3
              have hxy : ¬ x = y := by have := hao.1.1.2; simpa using this
              have hij : i ≠ j := fun e => by subst e; rw [a1] at b1; cases b1; exact hxy rfl
              exact psImp (ps_par c.calm c.nd a1 b1 hij a2 b2 (snd_args (fun e E h => (ihE e E h).pe) h3) (stored_two c.kind a2 b2 hao.1.1.1 hxy (hns a (by simp)) (hns b (by simp)) hao.1.2 hao.2) rfl) fun D σ H q => par_ok (mapM_len h3).symm q
            · cases h
          · split at h
            · rename_i x px y py z pz a b cc hpr
              have : ∃ kt pt k2 p2, t = .Tuple [.Name x px, .Name y py, .Name z pz] kt pt ∧ e = .Tuple [a, b, cc] k2 p2 := by
                unfold parNm3 at hpr
                split at hpr
                · cases hpr; exact ⟨_, _, _, _, rfl, rfl⟩
                · cases hpr
              obtain ⟨kt, pt, k2, p2, rfl, rfl⟩ := this
              split at h
              · rename_i hao
                simp only [Bool.and_eq_true, Bool.not_eq_true', beq_iff_eq] at hao
                obtain ⟨⟨⟨⟨⟨⟨l1, l2⟩, x1⟩, x2⟩, x3⟩, f1⟩, f2⟩ := hao
                simp only [Option.bind_eq_some_iff, Option.map_eq_some_iff] at h
                obtain ⟨i, h1, j, h2, l, h0, es, h3, rfl⟩ := h
                obtain ⟨a1, a2, a3⟩ := own_of c.toCtx h1
                obtain ⟨b1, b2, b3⟩ := own_of c.toCtx h2
                obtain ⟨d1, d2, d3⟩ := own_of c.toCtx h0
                have hns := comps_noStar h3
                have hxy : ¬ x = y := by simpa using x1
                have hxz : ¬ x = z := by simpa using x2
                have hyz : ¬ y = z := by simpa using x3
                have hij : i ≠ j := fun e => by subst e; rw [a1] at b1; cases b1; exact hxy rfl
                have hil : i ≠ l := fun e => by subst e; rw [a1] at d1; cases d1; exact hxz rfl
                have hjl : j ≠ l := fun e => by subst e; rw [b1] at d1; cases d1; exact hyz rfl
                exact psImp (ps_par3 c.calm c.nd a1 b1 d1 hij hil hjl a2 b2 d2 (snd_args (fun e E h => (ihE e E h).pe) h3) (stored_three c.kind a2 b2 d2 l1 l2 hxy hxz hyz (hns a (by simp)) (hns b (by simp)) (hns _ (by simp)) f1 f2) rfl) fun D σ H q => par3_ok (mapM_len h3).symm q
              · cases h
            split at h
            · cases h
            · rename_i hc
              simp only [Bool.or_eq_true, not_or, Bool.not_eq_true] at hc
              simp only [Option.bind_eq_some_iff, Option.map_eq_some_iff] at h
              obtain ⟨tt, h1, x, h2, rfl⟩ := h
              refine plain hc.2 (stored_none ⟨fun ts a b vs c' d' e1 e2 => ?_, fun ts b e1 => ?_⟩) tt x h1 h2 rfl
              · subst e1 e2; exact hc.1
              · subst e1
                cases n <;> simp [ctgt] at h1
      · simp [cstmt] at h
    | Return v pos =>
      cases v with
      | none =>
        simp only [cstmt, Option.some.injEq] at h
        subst h
        refine psImp ps_retN fun D σ H q => ?_
        obtain ⟨ρ, μ, st, er, sr, p⟩ := q
        simp only [exec] at p
        exact p σ H μ .refl sr er .non Rep.non_
      | some e =>
        simp only [cstmt, Option.map_eq_some_iff] at h
        obtain ⟨E, h1, rfl⟩ := h
        refine psImp (ps_ret (ihE e E h1).pe) fun D σ H q => ?_
        obtain ⟨ρ, μ, st, er, sr, p⟩ := q
        simp only [exec] at p
        exact (aheadS er sr p).mono fun x H1 ⟨μ1, st1, w, er1, sr1, g1, rx, p1⟩ => p1 σ H1 μ1 .refl sr1 er1 x rx
    | If d a b pos =>
      simp only [cstmt, Option.bind_eq_some_iff, Option.map_eq_some_iff] at h
      obtain ⟨Dd, h1, A, h2, B, h3, rfl⟩ := h
      refine psImp (ps_if (ihE d Dd h1).pt (snd_block ih h2) (snd_block ih h3)) fun D σ H q => ?_
      obtain ⟨ρ, μ, st, er, sr, p⟩ := q
      simp only [exec] at p
      refine (aheadSB (m := fun ρ => bnd (den φ Dd ρ) tru) er sr p).mono fun t H1 ⟨μ1, st1, er1, sr1, g1, p1⟩ => ?_
      cases t with
      | true => rw [if_pos rfl] at p1 ⊢; exact ⟨ρ, μ1, st1, er1, sr1, p1⟩
      | false => rw [if_neg (by decide)] at p1 ⊢; exact ⟨ρ, μ1, st1, er1, sr1, p1⟩
    | For tg it body orelse pos =>
      cases orelse with
      | cons _ _ => simp [cstmt] at h
      | nil =>
        simp only [cstmt, Option.bind_eq_some_iff, Option.map_eq_some_iff, Option.filter_eq_some_iff] at h
        obtain ⟨src, ⟨h1, h1'⟩, t, h2, b, h3, rfl⟩ := h
        exact psImp (ps_for c.own c.calm ((ihE it src h1).pi tg h1') (snd_tgt c n tg t h2) (snd_block ih h3) (set_no h1)) fun D σ H q => for_ok q
    | While d body orelse pos =>
      cases orelse with
      | cons _ _ => simp [cstmt] at h
      | nil =>
        simp only [cstmt, Option.bind_eq_some_iff, Option.map_eq_some_iff] at h
        obtain ⟨Dd, h1, b, h3, rfl⟩ := h
        exact psImp (ps_while c.own (ihE d Dd h1).pt (snd_block ih h3)) fun D σ H q => whl_ok q
    | Pass pos =>
      simp only [cstmt, Option.some.injEq] at h
      subst h
      refine psImp ps_pass fun D σ H q => ?_
      obtain ⟨ρ, μ, st, er, sr, p⟩ := q
      simp only [exec] at p
      exact p.okN sr er
    | Break pos =>
      simp only [cstmt, Option.some.injEq] at h
      subst h
      refine psImp ps_break fun D σ H q => ?_
      obtain ⟨ρ, μ, st, er, sr, p⟩ := q
      simp only [exec] at p
      exact p σ H μ .refl sr er
    | Continue pos =>
      simp only [cstmt, Option.some.injEq] at h
      subst h
      refine psImp ps_continue fun D σ H q => ?_
      obtain ⟨ρ, μ, st, er, sr, p⟩ := q
      simp only [exec] at p
      exact p σ H μ .refl sr er
    | _ => simp [cstmt] at h
end Mi

/-! Mi16: defs. -/
namespace Mi
open PySem L2
variable {G : Gs} {N : Nat} {ψ : Nat → List W → Option (List (Str × W))}

theorem lookup_mem {gt : List (Str × GE)} {x : Str} {e : GE} (h : gt.lookup x = some e) : (x, e) ∈ gt := by
  induction gt with
  | nil => cases h
  | cons p l ih =>
    rw [List.lookup_cons] at h
    split at h
    · rename_i hx
      cases h
      rw [beq_iff_eq] at hx
      subst hx
      exact List.mem_cons_self
    · exact List.mem_cons_of_mem _ (ih h)
theorem start_env {H : Hp} {μ : List Addr} {ws : List W} {vs : List V} (r : Reps G H μ ws vs) (n m : Nat) (h : m = n) : EnvR G H μ (ws.map some ++ List.replicate n none) (vs.map some ++ List.replicate m none) := by
  subst h
  refine ⟨by simp [r.length], fun i w e => ?_⟩
  by_cases hi : i < ws.length
  · rw [List.getElem?_append_left (by simpa using hi), List.getElem?_map, Option.map_eq_some_iff] at e
    obtain ⟨w', e, e2⟩ := e
    cases e2
    obtain ⟨v, e3, rv⟩ := r.get i e
    exact ⟨v, by rw [List.getElem?_append_left (by rw [List.length_map, ← r.length]; exact hi), List.getElem?_map, e3]; rfl, rv⟩
  · rw [List.getElem?_append_right (by simpa using hi), List.getElem?_replicate] at e
    split at e <;> cases e
/-- a def keeps the promise that the small machine's def makes, one call deeper than those that it calls -/
theorem fnG_of {P : Program} {w : World} {K : PySem.W.Frag} {mg : Str → Option Value} {base : Heap} {k : Nat} {φ : Nat → List W → M W} {gt : List (Str × GE)} {x qual : Str} {st : Stmt} {f : Addr} {fd : FuncData} {Nn ps : List Str} {n : Nat} {body : List S} {m : List W → M W}
    (hK : G.K = K) (F : Fun K x qual st f fd) (Sc : FnScope Nn ps (defScope st)) (hs : SysM base) (hb : (defBody st).mapM (cstmt n ⟨Nn, defScope st, gt⟩) = some body)
    (hprm : G.prm = w.params) (hgt : ∀ X : Cx, X.prog = P → X.w = w → X.K = K → X.mg = mg → X.base = base → ∀ x e, (x, e) ∈ gt → GtOk G φ k X x e)
    (hm : ∀ ws s, ws.length = ps.length → m ws s = bodyRes (execs φ N ψ body (ws.map some ++ List.replicate (Nn.length - ps.length) none) s)) :
    FnG P w K mg base (k + 1) f fd ps (spF G m ps.length) := by
  obtain ⟨oc, od, kV, doc, pm, an, cdv, ct, osl, rfl, lk, hcd⟩ := F.ex
  refine ⟨fun vs H Q E h => h.1, fun A outer s H args us vs Q E hg hr e0 hbd r hsp => ?_⟩
  obtain ⟨hl, μ, sto, ws, sr, rs, pp⟩ := hsp
  have KX : K.In s.heap := e0.mod.kin.keeps fun b o e => (e0.bs b o e).1
  have lim : s.heap.NoLimit := e0.mod.nolimit.keeps fun b o e => (e0.bs b o e).1
  have hkind : ∀ y ∈ ps.zip us, (defScope st).names.lookup y.1 = some .local ∨ ((defScope st).names.lookup y.1 = some .cell ∧ ((cellsFrom (s.heap.objs.size + 1) (defScope st).names []).lookup y.1).isSome = true) := by
    rintro ⟨nm, v⟩ hy
    rcases Sc.par nm (List.of_mem_zip hy).1 with q | q
    · exact .inl q
    · exact .inr ⟨q, PySem.W.cellsFrom_some _ _ _ (.inl q)⟩
  refine codeAny_call_function hr.depth (KX _ _ lk) rfl Sc.co Sc.gen rfl (PySem.W.codeRec_of KX hcd) (hbd _ _ _ _ (wpAny_newFunctionEnv_cells Sc.kind hkind ?_))
  rintro env rfl s1 x1
  refine ⟨lim.keeps x1.toInCall.keep, codeAny_func ?_⟩
  let X : Cx := cxOf (L2.CX P w) P w K mg base Nn qual (defScope st) f cdv A outer s H E
  have I : Inv X [] (start Nn vs) H s1 := inv_start Sc hr.hd e0 hl r x1
  have tk : Takes X (fun c d _ H' => E c d H') := takes_of rfl rfl rfl rfl
  have cx : CtxS G φ k ⟨Nn, defScope st, gt⟩ X (fun c d _ H' => E c d H') :=
    { K := hK, N := rfl, sc := rfl, nd := Sc.nd, calm := rfl, guards := hg, room := (hr.mono (by omega : 2 * k + 1 + 1 ≤ 2 * (k + 1))).deeper _, sysm := hs, prm := hprm, gt := fun x e h => hgt X rfl rfl rfl rfl rfl x e (lookup_mem h), gtm := hgt X rfl rfl rfl rfl rfl, tk := tk, own := passes_of rfl, fn := fun _ => rfl, kind := Sc.kind }
  have pss : PSs X (defBody st) (tS G (fun c d _ H' => E c d H') (execs φ N ψ body)) := snd_block (soundS cx n) hb
  have lw : ws.length = ps.length := by rw [rs.length]; exact hl
  have hpl : ps.length ≤ Nn.length := by have := congrArg List.length Sc.pre; rw [List.length_take] at this; omega
  have er : EnvR G H μ (ws.map some ++ List.replicate (Nn.length - ps.length) none) (start Nn vs) := start_env rs _ _ (by rw [hl])
  have fin : ∀ {σ' : L2.St} {H' : Hp} {v : V} {u : Value} {s' : Shared}, Inv X [] σ' H' s' → RelV v u → Q v H' → CE outer P w H s Q u s' := fun J rv q => ⟨_, _, J.os, J.bare, J.base, J.hok, rv, q⟩
  refine wpAny_mono (pss.run [] s1 (start Nn vs) H { nx := fun _ H' => Q .non H', rt := Q } I ⟨_, μ, sto, er, sr, ?_⟩) (fun fl s' hq => ?_) fun e s' hq => hq
  · have pp : Post G E H μ (m ws sto) Q := pp
    rw [hm ws sto lw] at pp
    cases e : execs φ N ψ body (ws.map some ++ List.replicate (Nn.length - ps.length) none) sto with
    | stuck => rw [e] at pp; exact pp
    | exc x ρ s5 => rw [e] at pp; exact fun c d σ' H' μ' g s r x => pp c d H' μ' g s x
    | ok fl ρ s5 =>
      rw [e] at pp
      intro σ' H' μ' g' sr' er'
      cases fl with
      | nxt => exact pp .non H' μ' g' sr' Rep.non_
      | rtn w => exact fun v rv => pp v H' μ' g' sr' rv
      | brk => exact pp.elim
      | cnt => exact pp.elim
  · cases fl with
    | ret u =>
      obtain ⟨v, σ', H', J, rv, q⟩ := hq
      exact fin J rv q
    | next =>
      obtain ⟨σ', H', J, q⟩ := hq
      exact fin (v := V.non) (u := Value.none) J rfl q
    | brk =>
      obtain ⟨_, _, _, q⟩ := hq
      exact q.elim
    | cont =>
      obtain ⟨_, _, _, q⟩ := hq
      exact q.elim

/-! ### all defs -/
/-- a def, as the top has left it: the i-th of ds -/
def DefOk (G : Gs) (gt : List (Str × GE)) (ds : List FD) (i : Nat) (f : Addr) (shapes : List Shape) : Prop :=
  ∃ fd x qual st Nn ps n body, Fun G.K x qual st f fd ∧ FnScope Nn ps (defScope st) ∧ ds[i]? = some ⟨ps.length, Nn.length, body⟩ ∧ (defBody st).mapM (cstmt n ⟨Nn, defScope st, gt⟩) = some body ∧ ∀ sh ∈ shapes, ShapeOk G fd ps sh
/-- a name of the module, as the top has left it -/
def StatOk (G : Gs) (mg : Str → Option Value) (gt : List (Str × GE)) (ds : List FD) (x : Str) : GE → Prop
  | .cst w => ∃ u v, mg x = some u ∧ RelV v u ∧ ∀ H μ, Rep G H μ w v
  | .blt => mg x = none
  | .fn i shapes => ∃ f, mg x = some (.ref f) ∧ G.gl i = some (.ref f) ∧ DefOk G gt ds i f shapes
  | .cls d => ∃ C, mg x = some (.ref C) ∧ G.ca d.c = some C ∧ Cls G.K C ∧ (∀ f ∈ d.flds, NoAttr G.K C f) ∧ (d.shapes = [] ∨ ∃ f, Mk G.K C f ∧ DefOk G gt ds d.ini f d.shapes) ∧ ∀ m ∈ d.mths, ∃ f, Meth G.K C m.1 f ∧ DefOk G gt ds m.2.1 f m.2.2
theorem levels {P : Program} {w : World} {mg : Str → Option Value} {base : Heap} {gt : List (Str × GE)} {ds : List FD} (hs : SysM base) (hprm : G.prm = w.params) (h : ∀ x e, (x, e) ∈ gt → StatOk G mg gt ds x e) :
    ∀ (k : Nat) (X : Cx), X.prog = P → X.w = w → X.K = G.K → X.mg = mg → X.base = base → ∀ x e, (x, e) ∈ gt → GtOk G (fsem N ψ ds k) k X x e := by
  intro k
  have lift : (∀ i f shapes, DefOk G gt ds i f shapes → PySem.W.keepIn G.K (.ref f) = true ∧ ∃ fd ps, FnG P w G.K mg base k f fd ps (spF G (fsem N ψ ds k i) ps.length) ∧ ∀ sh ∈ shapes, ShapeOk G fd ps sh) →
      ∀ (X : Cx), X.prog = P → X.w = w → X.K = G.K → X.mg = mg → X.base = base → ∀ x e, (x, e) ∈ gt → GtOk G (fsem N ψ ds k) k X x e := by
    rintro L X rfl rfl hK rfl rfl x e he
    have q := h x e he
    cases e with
    | cst w => exact q
    | blt => exact q
    | fn i shapes =>
      obtain ⟨f, h1, h2, hd⟩ := q
      obtain ⟨hk, fd, ps, F, hsh⟩ := L i f shapes hd
      exact ⟨f, fd, ps, h1, h2, hK ▸ hk, hK ▸ F, hsh⟩
    | cls d =>
      obtain ⟨C0, h1, h2, h3, h4, h5, h6⟩ := q
      refine ⟨C0, h1, ⟨h2, hK ▸ h3, fun f hf => hK ▸ h4 f hf, ?_, fun m hm => ?_⟩⟩
      · rcases h5 with h5 | ⟨f, hM, hd⟩
        · exact .inl h5
        · obtain ⟨_, fd, ps, F, hsh⟩ := L d.ini f d.shapes hd
          exact .inr ⟨f, fd, ps, hK ▸ hM, hK ▸ F, hsh⟩
      · obtain ⟨f, hM, hd⟩ := h6 m hm
        obtain ⟨_, fd, ps, F, hsh⟩ := L m.2.1 f m.2.2 hd
        exact ⟨f, fd, ps, hK ▸ hM, hK ▸ F, hsh⟩
  induction k with
  | zero =>
    refine lift fun i f shapes hd => ?_
    obtain ⟨fd, x, qual, st, Nn, ps, n, body, h3, h4, h5, h6, h7⟩ := hd
    refine ⟨h3.kp, fd, ps, ⟨fun vs H Q E h => h.1, fun A outer s H args us vs Q E _ _ _ _ _ hsp => ?_⟩, h7⟩
    obtain ⟨_, μ, sto, ws, _, _, pp⟩ := hsp
    exact (show False from pp).elim
  | succ k ih =>
    have ih := ih (by
      rintro L X rfl rfl hK rfl rfl x e he
      have q := h x e he
      cases e with
      | cst w => exact q
      | blt => exact q
      | fn i shapes =>
        obtain ⟨f, h1, h2, hd⟩ := q
        obtain ⟨hk, fd, ps, F, hsh⟩ := L i f shapes hd
        exact ⟨f, fd, ps, h1, h2, hK ▸ hk, hK ▸ F, hsh⟩
      | cls d =>
        obtain ⟨C0, h1, h2, h3, h4, h5, h6⟩ := q
        refine ⟨C0, h1, ⟨h2, hK ▸ h3, fun f hf => hK ▸ h4 f hf, ?_, fun m hm => ?_⟩⟩
        · rcases h5 with h5 | ⟨f, hM, hd⟩
          · exact .inl h5
          · obtain ⟨_, fd, ps, F, hsh⟩ := L d.ini f d.shapes hd
            exact .inr ⟨f, fd, ps, hK ▸ hM, hK ▸ F, hsh⟩
        · obtain ⟨f, hM, hd⟩ := h6 m hm
          obtain ⟨_, fd, ps, F, hsh⟩ := L m.2.1 f m.2.2 hd
          exact ⟨f, fd, ps, hK ▸ hM, hK ▸ F, hsh⟩)
    refine lift fun i f shapes hd => ?_
    obtain ⟨fd, x, qual, st, Nn, ps, n, body, h3, h4, h5, h6, h7⟩ := hd
    refine ⟨h3.kp, fd, ps, ?_, h7⟩
    refine fnG_of (φ := fsem N ψ ds k) (N := N) (ψ := ψ) rfl h3 h4 hs h6 hprm (fun Y a b c d e => ih Y a b c d e) fun ws s hl => ?_
    simp only [fsem, h5, hl, if_true]
end Mi

/-! Mi17: the law's own call. -/
namespace Mi
open PySem L2 PyProof.Rows
variable {G : Gs} {N : Nat} {ψ : Nat → List W → Option (List (Str × W))}

/-- what the law's call has to end in -/
abbrev Done (s₁ : Shared) (r : Result) (s' : Shared) : Prop := r = .ok (.ret (.bool true)) ∧ OldK s₁.heap s'.heap ∧ s'.os = s₁.os ∧ AllBare s'.gens
/-- nothing is tracked but at most the script, which is known to the object -/
theorem call_at {P : Program} {w : World} {mg mb : Str → Option Value} {k : Nat} {fa a : Addr} {fd : FuncData} {ps : List Str} {m : List W → M W} {s₁ : Shared} {ns : List Int} {H : Hp}
    (KX : G.K.In s₁.heap) (hns : s₁.heap.Ns mainGlobals mg) (hb : s₁.heap.Ns builtinsNs mb) (hbb : ∀ x : Str, x ≠ "__name__" → mb x = bootBuiltins x) (hlim : s₁.heap.NoLimit) (hsys : SysM s₁.heap) (hg : s₁.gens = #[])
    (hr : Room (2 * k) callerA) (hH : ∀ b u, H b = some u → b = a ∧ (∃ o, u = .frz o (.lst (ns.map V.int))) ∧ (∃ o, s₁.heap.get? b = some o ∧ ∀ es ep, o.data ≠ .dict es ep) ∧ G.K.lookup b = none) (hok : HOk P w H s₁.heap)
    (hrep : Rep G H [] (.frl (ns.map W.int)) (.ref a))
    (F : ∀ base : Heap, G.K.In base → SysM base → FnG P w G.K mg base k fa fd ps (spF G m ps.length)) (hps : ps.length = 1) (hbind : BindsTo s₁ fd ⟨[.ref a], []⟩ (ps.zip [.ref a]))
    (hm : wp (m [.frl (ns.map W.int)] []) fun w _ => w = .bl true) : codeAny (model P w) callerA (.call (.ref fa) ⟨[.ref a], []⟩) (Done s₁) s₁ := by
  have noD : ∀ {b : Addr} {o : Obj} {es : Array DictEntry} {ep : Nat}, s₁.heap.get? b = some o → o.data = .dict es ep → H b = none := fun {b o es ep} e d => by
    cases q : H b with
    | none => rfl
    | some u =>
      obtain ⟨_, _, ⟨o', e', hd⟩, _⟩ := hH b u q
      rw [e] at e'; cases e'
      exact absurd d (hd es ep)
  have nsK : ∀ {b : Addr} {f : Str → Option Value}, s₁.heap.Ns b f → (hidT s₁.heap H).Ns b f := fun {b f} ⟨o, es, ep, e, d, r⟩ => ⟨o, es, ep, hidT_get e (noD e d), d, r⟩
  have hKb : G.K.In (hidT s₁.heap H) := fun b o e => hidT_get (KX b o e) (by
    cases q : H b with
    | none => rfl
    | some u =>
      obtain ⟨_, _, _, z⟩ := hH b u q
      rw [e] at z; cases z)
  obtain ⟨ms, hms⟩ := hsys
  have hM : Mod G.K mg (hidT s₁.heap H) := ⟨hKb, nsK hns, ⟨mb, nsK hb, hbb⟩, by obtain ⟨mc, h1, h2⟩ := hlim; exact ⟨mc, nsK h1, h2⟩⟩
  have e0 : Env0 P w G.K mg (hidT s₁.heap H) callerA [] s₁ H := ⟨rfl, hM, fun b o e => of_hidT e, Nat.le_of_eq (hidT_size _ _), trivial, fun b hb => (by cases hb), hok, .of_eq hg⟩
  have sr : SR G H [] [] := ⟨rfl, List.nodup_nil, fun n a o h => by simp at h⟩
  have post : Post G (fun _ _ _ => False) H [] (m [.frl (ns.map W.int)] []) fun v _ => v = .bl true := by
    cases e : m [.frl (ns.map W.int)] [] with
    | stuck => rw [e] at hm; exact hm
    | exc x s => rw [e] at hm; exact hm.elim
    | ok w s =>
      rw [e] at hm
      have hw : w = .bl true := hm
      subst hw
      exact fun v H' μ' g sr' r => r.bl_inv
  refine codeAny_mono ((F _ hKb ⟨ms, nsK hms⟩).run callerA [] s₁ H ⟨[.ref a], []⟩ [.ref a] [.ref a] (fun v _ => v = .bl true) (fun _ _ _ => False) rfl hr e0 hbind (.cons rfl .nil) ⟨hps.symm, [], [], [.frl (ns.map W.int)], sr, Reps.nil_.cons_ hrep, post⟩) fun r s' h => ?_
  cases r with
  | error e =>
    obtain ⟨_, _, _, _, _, _, _, _, _, _, _, _, z⟩ := h
    exact z.elim
  | ok fl =>
    cases fl with
    | next => exact False.elim h
    | brk => exact False.elim h
    | cont => exact False.elim h
    | ret u =>
      obtain ⟨v, H', os, bare, un, hok', r', q⟩ := h
      have q' : v = .bl true := q
      subst q'
      obtain rfl : u = Value.bool true := r'
      refine ⟨rfl, OldK.of_keep fun b o e => ?_, os, bare⟩
      cases q : H b with
      | none => exact un.keep b o e q (fun z => by cases z) (fun z => by cases z)
      | some u =>
        obtain ⟨_, ⟨ob, rfl⟩, _, _⟩ := hH b u q
        obtain ⟨e1, _⟩ := hok b _ q
        obtain ⟨e2, _⟩ := hok' b _ (un.frzs b ob _ q)
        rw [e] at e1; cases e1
        exact e2
theorem int_reps {H : Hp} {μ : List Addr} : ∀ (ns : List Int), Reps G H μ (ns.map W.int) (ns.map V.int)
  | [] => Reps.nil_
  | n :: ns => (int_reps ns).cons_ Rep.int_
theorem law_at {P : Program} {w : World} {mg mb : Str → Option Value} {k : Nat} {fa a : Addr} {fd : FuncData} {ps : List Str} {m : List W → M W} {s₁ : Shared} {vs : List Value} {ns : List Int}
    (KX : G.K.In s₁.heap) (hns : s₁.heap.Ns mainGlobals mg) (hb : s₁.heap.Ns builtinsNs mb) (hbb : ∀ x : Str, x ≠ "__name__" → mb x = bootBuiltins x) (hlim : s₁.heap.NoLimit) (hsys : SysM s₁.heap) (hg : s₁.gens = #[])
    (ha : s₁.heap.get? a = some { cls := .type "list", data := .seq vs.toArray }) (hi : IntsAre vs ns) (hl : ns.length ≤ sizeLine) (hr : Room (2 * k) callerA)
    (F : ∀ base : Heap, G.K.In base → SysM base → FnG P w G.K mg base k fa fd ps (spF G m ps.length)) (hps : ps.length = 1) (hbind : BindsTo s₁ fd ⟨[.ref a], []⟩ (ps.zip [.ref a]))
    (hm : wp (m [.frl (ns.map W.int)] []) fun w _ => w = .bl true) : codeAny (model P w) callerA (.call (.ref fa) ⟨[.ref a], []⟩) (Done s₁) s₁ := by
  have rv := vals_ints hi
  have lenV := hi.length
  cases hk : G.K.lookup a with
  | some o =>
    have e := KX a o hk
    rw [ha] at e
    cases e
    refine call_at (H := fun _ => none) (a := a) (ns := ns) KX hns hb hbb hlim hsys hg hr (fun b u z => (by cases z)) (fun b u z => (by cases z)) ?_ F hps hbind hm
    simp only [Rep]
    exact ⟨a, ns.map V.int, rfl, .inr ⟨_, vs.toArray, _, hk, rfl, rfl, rfl, by rw [List.size_toArray, lenV]; exact hl, by simpa using rv⟩, int_reps ns⟩
  | none =>
    have hH : ∀ b u, (fun b => if b = a then some (HO.frz { cls := .type "list", data := .seq vs.toArray } (.lst (ns.map V.int))) else none) b = some u → b = a ∧ u = .frz { cls := .type "list", data := .seq vs.toArray } (.lst (ns.map V.int)) := by
      intro b u z
      dsimp only at z
      split at z
      · rename_i e; cases z; exact ⟨e, rfl⟩
      · cases z
    refine call_at (H := fun b => if b = a then some (.frz { cls := .type "list", data := .seq vs.toArray } (.lst (ns.map V.int))) else none) (a := a) (ns := ns) KX hns hb hbb hlim hsys hg hr (fun b u z => ?_) (fun b u z => ?_) ?_ F hps hbind hm
    · obtain ⟨rfl, rfl⟩ := hH b u z
      exact ⟨rfl, ⟨_, rfl⟩, ⟨_, ha, fun es ep => by simp⟩, hk⟩
    · obtain ⟨rfl, rfl⟩ := hH b u z
      exact ⟨ha, by rw [List.length_map]; exact hl, vs, _, rv, ha⟩
    · simp only [Rep]
      exact ⟨a, ns.map V.int, rfl, .inl ⟨_, if_pos rfl⟩, int_reps ns⟩
/-- the law is called with its script -/
abbrev lawShape : Shape := ⟨1, [], [], [0]⟩
/-- the goal that the head leaves: from what each name of the module stands for, and the small machine's run of the law -/
theorem walkG {l : PySem.W.OpenLaw} {n k : Nat} {q : Program} {loose : List Str} {XP : (Str → Option Value) → Heap → Prop} {YP : World → Heap → Prop} {d : DefRec} {K : Params → PySem.W.Frag} {gt : List (Str × GE)} {ds : List FD} {iL : Nat} {shL : List Shape} {body : List S} {sl : Nat}
    (hn : l.most = some n) (hn2 : n ≤ sizeLine) (hdf : d.params.defaults = []) (hr : Room (2 * k) callerA) (hq : importsNone q = true) (hY : ∀ (w : World) (h : Heap), YP w h → (K w.params).In h) (hL : gt.lookup d.name = some (.fn iL shL)) (hsh : lawShape ∈ shL) (hd1 : ds[iL]? = some ⟨1, sl, body⟩)
    (hm : ∀ ns : List Int, ns.length ≤ n → wp (fsem N ψ ds k iL [.frl (ns.map W.int)] []) fun w _ => w = .bl true)
    (F : ∀ (w : World) (mg : Str → Option Value) (h : Heap), (K w.params).In h → h.Ns mainGlobals mg → ∃ G : Gs, G.K = K w.params ∧ G.prm = w.params ∧ ∀ x e, (x, e) ∈ gt → StatOk G mg gt ds x e) :
    PySem.W.WalkO q loose XP YP l.row.toRowW d [] (fun f vs => PySem.call f vs) := by
  refine Att.attach_call hn hdf fun w s₀ s₁ mg mb fa o pm cd doc a vs ns Gr Y ho hd hcd hmg hobj hints hlen hg => ?_
  have KX := hY w _ Y
  obtain ⟨G, hGK, hGP, hst⟩ := F w mg _ KX Gr.T.g
  rw [← hGK] at KX
  have hsys : SysM s₁.heap := by
    obtain ⟨mm, h, _⟩ := (Gr.T.seer hq).mods
    exact ⟨mm, h⟩
  obtain ⟨f, h1, h2, fd, xx, qual, st, Nn, ps, nn, body', h3, h4, h5, h6, h7⟩ := hst _ _ (lookup_mem hL)
  rw [hd1] at h5
  have hps : ps.length = 1 := by
    have := Option.some.inj h5
    injection this with e
    exact e.symm
  obtain rfl : fa = f := by
    rw [hmg] at h1
    cases h1; rfl
  obtain ⟨dus, dvs, _, rds, _, hb⟩ := h7 _ hsh
  have hbind : BindsTo s₁ fd ⟨[.ref a], []⟩ (ps.zip [.ref a]) := hb s₁ [.ref a] [] [.ref a] KX rfl rfl (by simp)
  refine law_at (m := fsem N ψ ds k iL) KX Gr.T.g Gr.T.b Gr.T.builtins Gr.T.nolimit hsys hg hobj hints (Nat.le_trans hlen hn2) hr (fun base hB hS => ?_) hps hbind (hm ns hlen)
  -- a context to read the def's promise off
  cases k with
  | zero =>
    refine ⟨fun vs H Q E h => h.1, fun A outer s H args us vs Q E _ _ _ _ _ hsp => ?_⟩
    obtain ⟨_, μ, sto, ws, _, _, pp⟩ := hsp
    exact (show False from pp).elim
  | succ k =>
    refine fnG_of (φ := fsem N ψ ds k) (N := N) (ψ := ψ) rfl h3 h4 hS h6 hGP (fun Y a b c d e => levels (hs := hS) hGP hst k Y a b c d e) fun ws s hl => ?_
    have e2 : ds[iL]? = some ⟨ps.length, Nn.length, body'⟩ := by rw [hd1, h5]
    simp only [fsem, e2, hl, if_true]
end Mi

/-! Mi18: what the top has left behind a name, from the facts of the head. -/
namespace Mi
open PySem L2
variable {G : Gs} {mg : Str → Option Value} {gt : List (Str × GE)} {ds : List FD} {h : Heap} {K : PySem.W.Frag}

theorem stat_fn {x : Str} {st : Stmt} {f : Addr} {oc : Value} {od an : Option Addr} {osl : Array (Option Value)} {kV doc pm cdv ct : Value} {i n : Nat} {Nn ps : List Str} {body : List S} {shapes : List Shape}
    (X : K.In h) (Gn : h.Ns mainGlobals mg) (hg : G.K = K)
    (a : PySem.W.nsIn K mainGlobals x = some (some (.ref f))) (l : K.lookup f = some ⟨oc, od, .func (PySem.W.fnOf x x (defArgs st) (defBody st) (defScope st) .none kV doc pm an cdv ct), osl⟩) (c : PySem.W.codeIn K cdv x = true) (k : PySem.W.keepIn K (.ref f) = true)
    (gl : G.gl i = some (.ref f)) (sc : FnScope Nn ps (defScope st)) (hd : ds[i]? = some ⟨ps.length, Nn.length, body⟩) (hb : (defBody st).mapM (cstmt n ⟨Nn, defScope st, gt⟩) = some body)
    (hs : ∀ (kV doc pm cdv ct : Value) (an : Option Addr), ∀ sh ∈ shapes, ShapeOk G (PySem.W.fnOf x x (defArgs st) (defBody st) (defScope st) .none kV doc pm an cdv ct) ps sh) : StatOk G mg gt ds x (.fn i shapes) :=
  ⟨f, PySem.W.mg_of X Gn a, gl, _, x, x, st, Nn, ps, n, body, hg ▸ fun_mk l c k, sc, hd, hb, hs _ _ _ _ _ _⟩
/-- a def of a class -/
theorem def_ok {x qual : Str} {st : Stmt} {f : Addr} {oc : Value} {od an : Option Addr} {osl : Array (Option Value)} {kV doc pm cdv ct : Value} {i n : Nat} {Nn ps : List Str} {body : List S} {shapes : List Shape} (hg : G.K = K)
    (l : K.lookup f = some ⟨oc, od, .func (PySem.W.fnOf x qual (defArgs st) (defBody st) (defScope st) .none kV doc pm an cdv ct), osl⟩) (c : PySem.W.codeIn K cdv qual = true) (k : PySem.W.keepIn K (.ref f) = true)
    (sc : FnScope Nn ps (defScope st)) (hd : ds[i]? = some ⟨ps.length, Nn.length, body⟩) (hb : (defBody st).mapM (cstmt n ⟨Nn, defScope st, gt⟩) = some body)
    (hs : ∀ sh ∈ shapes, ShapeOk G (PySem.W.fnOf x qual (defArgs st) (defBody st) (defScope st) .none kV doc pm an cdv ct) ps sh) : DefOk G gt ds i f shapes :=
  ⟨_, x, qual, st, Nn, ps, n, body, hg ▸ fun_mk l c k, sc, hd, hb, hs⟩
theorem mth_ok {C0 f : Addr} {m : Str} {i : Nat} {shapes : List Shape} (hg : G.K = K) (a : PySem.W.findIn K (.ref C0) m = some (some (.ref f))) (b : PySem.W.isFn K (.ref f) = true) (k : PySem.W.keepIn K (.ref f) = true) (h : DefOk G gt ds i f shapes) :
    ∃ f, Meth G.K C0 m f ∧ DefOk G gt ds i f shapes := ⟨f, hg ▸ ⟨a, b, k⟩, h⟩
theorem ini_ok {C0 f : Addr} {i : Nat} {shapes : List Shape} (hg : G.K = K) (m : PySem.W.makesIn K C0 = true) (a : PySem.W.findIn K (.ref C0) "__init__" = some (some (.ref f))) (b : PySem.W.isFn K (.ref f) = true) (k : PySem.W.keepIn K (.ref C0) = true) (h : DefOk G gt ds i f shapes) :
    shapes = [] ∨ ∃ f, Mk G.K C0 f ∧ DefOk G gt ds i f shapes := .inr ⟨f, hg ▸ ⟨m, a, b, k⟩, h⟩
theorem stat_cls {x : Str} {C0 : Addr} {d : CD} (X : K.In h) (Gn : h.Ns mainGlobals mg) (hg : G.K = K) (a : PySem.W.nsIn K mainGlobals x = some (some (.ref C0))) (gc : G.ca d.c = some C0)
    (c1 : PySem.W.plainGet K C0 Str.empty = true) (c2 : PySem.W.hasDictIn K C0 = true) (c3 : PySem.W.plainOver K C0 = true) (c4 : PySem.W.findIn K (.ref C0) "__setattr__" = some (some (.builtin "object.__setattr__")))
    (hf : ∀ f ∈ d.flds, PySem.W.findIn K (.ref C0) f = some none) (hi : d.shapes = [] ∨ ∃ f, Mk G.K C0 f ∧ DefOk G gt ds d.ini f d.shapes) (hm : ∀ m ∈ d.mths, ∃ f, Meth G.K C0 m.1 f ∧ DefOk G gt ds m.2.1 f m.2.2) : StatOk G mg gt ds x (.cls d) :=
  ⟨C0, PySem.W.mg_of X Gn a, gc, hg ▸ ⟨c1, c2, c3, c4⟩, fun f h => hg ▸ hf f h, hi, hm⟩
/-- the statements of a class -/
def clsBody : Stmt → List Stmt
  | .ClassDef _ _ _ body _ _ _ _ _ _ _ => body
  | _ => []
theorem stat_blt {x : Str} (X : K.In h) (Gn : h.Ns mainGlobals mg) (z : PySem.W.nsIn K mainGlobals x = some none) : StatOk G mg gt ds x .blt := PySem.W.mg_none_of X Gn z
theorem stat_str {x y : Str} {t : Tok} (X : K.In h) (Gn : h.Ns mainGlobals mg) (z : PySem.W.nsIn K mainGlobals x = some (some (.str y t))) : StatOk G mg gt ds x (.cst (.str y)) :=
  ⟨_, .str y, PySem.W.mg_of X Gn z, ⟨t, rfl⟩, fun _ _ => Rep.str_⟩
theorem stat_int {x : Str} {y : Int} {t : Tok} (X : K.In h) (Gn : h.Ns mainGlobals mg) (z : PySem.W.nsIn K mainGlobals x = some (some (.int y t))) : StatOk G mg gt ds x (.cst (.int y)) :=
  ⟨_, .int y, PySem.W.mg_of X Gn z, ⟨t, rfl⟩, fun _ _ => Rep.int_⟩
/-- a tuple of the module -/
theorem stat_tup {x : Str} {a : Addr} {its : Array Value} {n : Nat} {sl : Array (Option Value)} {ws : List W} {vs : List V} (X : K.In h) (Gn : h.Ns mainGlobals mg) (hg : G.K = K) (z : PySem.W.nsIn K mainGlobals x = some (some (.ref a)))
    (l : K.lookup a = some ⟨.type "tuple", none, .seq its n, sl⟩) (hz : its.size ≤ sizeLine) (hv : Vals vs its.toList) (hr : ∀ H μ, Reps G H μ ws vs) : StatOk G mg gt ds x (.cst (.tup ws)) :=
  ⟨_, .ref a, PySem.W.mg_of X Gn z, rfl, fun H μ => by
    simp only [Rep]
    exact ⟨a, vs, rfl, ⟨.inr ⟨_, its, n, by rw [hg]; exact l, rfl, rfl, hz, hv⟩, .inr ⟨_, by rw [hg]; exact l, rfl⟩⟩, hr H μ⟩⟩
/-- a written dict of the module: its entries -/
def frdEs (l : List (Int × Str × Tok × Value)) : List DictEntry := l.map fun e => ⟨e.1, .str e.2.1 e.2.2.1, e.2.2.2⟩
theorem frd_ns {K : PySem.W.Frag} {a : Addr} {n : Nat} {l : List (Int × Str × Tok × Value)} (h : K.lookup a = some ⟨.type "dict", none, .dict (frdEs l).toArray n, #[]⟩) (x : Str) : PySem.W.nsIn K a x = some (((l.map (·.2.1)).zip (l.map (·.2.2.2))).lookup x) := by
  have e1 : ∀ l : List (Int × Str × Tok × Value), ((frdEs l).find? (·.key.isStr x)).map (·.val) = ((l.map (·.2.1)).zip (l.map (·.2.2.2))).lookup x := by
    intro l
    induction l with
    | nil => rfl
    | cons e l ih =>
      have hk : (Value.str e.2.1 e.2.2.1).isStr x = (x == e.2.1) := by
        rw [PySem.W.isStr_of]
        by_cases h : x = e.2.1
        · subst h; simp [Value.isStrOf]
        · have : (x == e.2.1) = false := beq_eq_false_iff_ne.mpr h
          rw [this]
          simp [Value.isStrOf]
          exact fun z => h z.symm
      simp only [frdEs, List.map_cons, List.find?_cons, List.zip_cons_cons, List.lookup_cons, hk]
      cases hx : x == e.2.1 with
      | true => rfl
      | false => simpa [frdEs] using ih
  have e2 : (frdEs l).any (·.refKey) = false := by
    rw [List.any_eq_false]
    intro e he
    obtain ⟨q, _, rfl⟩ := List.mem_map.mp he
    simp [DictEntry.refKey]
  unfold PySem.W.nsIn
  rw [h]
  dsimp only
  show (match (frdEs l).find? (·.key.isStr x) with | some e => some (some e.val) | none => if (frdEs l).any (·.refKey) = true then none else some none) = _
  rw [← e1 l]
  cases (frdEs l).find? (·.key.isStr x) with
  | none => simp [e2]
  | some e => rfl
theorem stat_frd {x : Str} {a : Addr} {n : Nat} {P : Params} (l : List (Int × Str × Tok × Value)) {ks : List Str} {ws : List W} {vs : List V} (X : K.In h) (Gn : h.Ns mainGlobals mg) (hg : G.K = K) (hp : G.prm = P) (z : PySem.W.nsIn K mainGlobals x = some (some (.ref a)))
    (lk : K.lookup a = some ⟨.type "dict", none, .dict (frdEs l).toArray n, #[]⟩) (kl : PySem.W.KeysLit P (frdEs l)) (lo : (a == sysModules) = false) (hk : l.map (·.2.1) = ks) (hv : Vals vs (l.map (·.2.2.2))) (hr : ∀ H μ, Reps G H μ ws vs) : StatOk G mg gt ds x (.cst (.frd ks ws)) :=
  ⟨_, .ref a, PySem.W.mg_of X Gn z, rfl, fun H μ => by
    simp only [Rep]
    subst hg hp hk
    exact ⟨a, l.map (·.2.2.2), vs, rfl, ⟨(frdEs l).toArray, n, lk, by rw [List.toList_toArray]; exact kl, lo, by simp, fun x => frd_ns lk x⟩, hv, hr H μ⟩⟩
theorem stat_all (l : List (Str × GE)) (hl : ∀ p ∈ l, StatOk G mg gt ds p.1 p.2) : ∀ x e, (x, e) ∈ l → StatOk G mg gt ds x e := fun x e h => hl (x, e) h
theorem shape_mk {fd : FuncData} {ps : List Str} {np : Nat} {ks : List Str} {ord : List Nat} (hl : ord.length = ps.length)
    (hb : ∀ (us ws zs : List Value), us.length = np → ws.length = ks.length → ord.mapM (fun i => (us ++ ws)[i]?) = some zs → bindArgs fd ⟨us, ks.zip ws⟩ = pure (ps.zip zs)) : ShapeOk G fd ps ⟨np, ks, [], ord⟩ :=
  ⟨[], [], .nil, fun _ _ => Reps.nil_, hl, fun s us ws zs _ h1 h2 h3 => .of_eq (hb us ws zs h1 h2 (by simpa using h3))⟩
/-- keyword-only parameters that lack: their defaults stand in the dict at D -/
theorem shape_kw {fd : FuncData} {ps : List Str} {np : Nat} {ks : List Str} {ds : List W} {ord : List Nat} {D : Addr} (ms : List (Str × Value)) (dvs : List V) (hg : G.K = K) (hl : ord.length = ps.length) (hr : ∀ H μ, Reps G H μ ds dvs) (hv : Vals dvs (ms.map (·.2)))
    (hk : ∀ q ∈ ms, PySem.W.nsIn K D q.1 = some (some q.2))
    (hb : ∀ (us ws zs : List Value), us.length = np → ws.length = ks.length → ord.mapM (fun i => (us ++ ws ++ ms.map (·.2))[i]?) = some zs → KwChain D ms (bindArgs fd ⟨us, ks.zip ws⟩) (ps.zip zs)) : ShapeOk G fd ps ⟨np, ks, ds, ord⟩ :=
  ⟨ms.map (·.2), dvs, hv, hr, hl, fun s us ws zs X h1 h2 h3 => L2.BindsTo.of_looks fun M => KwChain.looks (K := K) (hg ▸ X) hk (hb us ws zs h1 h2 h3)⟩
end Mi

namespace Mi
open PySem hiding Env exec execs
open L2
/-! ### the machine's steps -/
section
variable (φ : Nat → List W → M W) (ρ : Env) (s : Sto)
theorem x_cst (w : W) : den φ (.cst w) ρ s = .ok w s := by rw [den]
theorem x_var (i : Nat) : den φ (.var i) ρ s = match ρ[i]? with | some (some w) => .ok w s | _ => .stuck := by rw [den] <;> rfl
theorem x_tup (es : List E) : den φ (.tup es) ρ s = (dens φ es ρ s).bind fun ws => if ws.length ≤ SZ then Mi.ret (.tup ws) else bad := by rw [den]
theorem x_lst (es : List E) : den φ (.lst es) ρ s = (dens φ es ρ s).bind fun ws => if ws.length ≤ SZ then lay (.lst ws) else bad := by rw [den]
theorem x_dct (es : List E) : den φ (.dct es) ρ s = (dens φ es ρ s).bind fun ws => dctOf ws := by rw [den]
theorem x_bin (op : Bop) (a b : E) : den φ (.bin op a b) ρ s = (den φ a ρ s).bind fun x s1 => (den φ b ρ s1).bind fun y => binop op x y := by rw [den]
theorem x_neg (a : E) : den φ (.neg a) ρ s = (den φ a ρ s).bind fun x => match x with | .int i => Mi.ret (.int (-i)) | _ => bad := by rw [den] <;> rfl
theorem x_not (a : E) : den φ (.not a) ρ s = (den φ a ρ s).bind fun x s1 => (tru x s1).bind fun b => Mi.ret (.bl !b) := by rw [den]
theorem x_cmp (op : Cop) (a b : E) : den φ (.cmp op a b) ρ s = (den φ a ρ s).bind fun x s1 => (den φ b ρ s1).bind fun y => cmpop op x y := by rw [den]
theorem x_cmp2 (op op' : Cop) (a b c : E) : den φ (.cmp2 op op' a b c) ρ s = (den φ a ρ s).bind fun x s1 => (den φ b ρ s1).bind fun y s2 => (cmpop op x y s2).bind fun z s3 => match z with
    | .bl true => (den φ c ρ s3).bind fun u => cmpop op' y u
    | .bl false => .ok (.bl false) s3
    | _ => .stuck := by
  rw [den]
  show ((den φ a ρ s).bind _) = _
  congr 1; funext x s1
  show ((den φ b ρ s1).bind _) = _
  congr 1; funext y s2
  show ((cmpop op x y s2).bind _) = _
  congr 1; funext z s3
  cases z <;> try rfl
  rename_i b
  cases b <;> rfl
theorem x_and1 (e : E) : den φ (.and [e]) ρ s = den φ e ρ s := by rw [den, denAnd]
theorem x_and (e e' : E) (es : List E) : den φ (.and (e :: e' :: es)) ρ s = (den φ e ρ s).bind fun x s1 => (tru x s1).bind fun t s2 => if t then den φ (.and (e' :: es)) ρ s2 else .ok x s2 := by
  rw [den, denAnd]
  show ((den φ e ρ s).bind _) = _
  congr 1; funext x s1
  show ((tru x s1).bind _) = _
  congr 1; funext t s2
  cases t
  · rfl
  · show denAnd φ (e' :: es) ρ s2 = den φ (.and (e' :: es)) ρ s2
    rw [den]
theorem x_or1 (e : E) : den φ (.or [e]) ρ s = den φ e ρ s := by rw [den, denOr]
theorem x_or (e e' : E) (es : List E) : den φ (.or (e :: e' :: es)) ρ s = (den φ e ρ s).bind fun x s1 => (tru x s1).bind fun t s2 => if t then .ok x s2 else den φ (.or (e' :: es)) ρ s2 := by
  rw [den, denOr]
  show ((den φ e ρ s).bind _) = _
  congr 1; funext x s1
  show ((tru x s1).bind _) = _
  congr 1; funext t s2
  cases t
  · show denOr φ (e' :: es) ρ s2 = den φ (.or (e' :: es)) ρ s2
    rw [den]
  · rfl
theorem x_ite (c a b : E) : den φ (.ite c a b) ρ s = (den φ c ρ s).bind fun x s1 => (tru x s1).bind fun t s2 => if t then den φ a ρ s2 else den φ b ρ s2 := by
  rw [den]
  show ((den φ c ρ s).bind _) = _
  congr 1; funext x s1
  show ((tru x s1).bind _) = _
  congr 1; funext t s2
  cases t <;> rfl
theorem x_idx (a b : E) : den φ (.idx a b) ρ s = (den φ a ρ s).bind fun x s1 => (den φ b ρ s1).bind fun y => idxW x y := by rw [den]
theorem x_slc (a : E) (lo hi : List E) : den φ (.slc a lo hi) ρ s = (den φ a ρ s).bind fun x s1 => (denPart φ lo ρ s1).bind fun l s2 => (denPart φ hi ρ s2).bind fun h => slcW x l h := by rw [den]
theorem x_call (f : Nat) (es : List E) (ds : List W) (ord : List Nat) : den φ (.call f es ds ord) ρ s = (dens φ es ρ s).bind fun ws s1 => match ord.mapM fun i => (ws ++ ds)[i]? with
    | some as => φ f as s1
    | none => .stuck := by
  rw [den]
  show ((dens φ es ρ s).bind _) = _
  congr 1; funext ws s1
  cases ord.mapM fun i => (ws ++ ds)[i]? <;> rfl
theorem x_blt (b : Blt) (es : List E) : den φ (.blt b es) ρ s = (dens φ es ρ s).bind fun ws => blt b ws := by rw [den]
theorem x_fld (a : E) (f : Str) (cs : List Nat) : den φ (.fld a f cs) ρ s = (den φ a ρ s).bind fun x => fldW cs f x := by rw [den]
theorem x_mth (o : E) (m : Str) (tb : MTab) (es : List E) : den φ (.mth o m tb es) ρ s = (den φ o ρ s).bind fun x s1 => match mthW s1 x m tb with
    | some (f, ds, ord) => (dens φ es ρ s1).bind fun ws s2 => (match ord.mapM fun i => (x :: ws ++ ds)[i]? with
      | some as => φ f as s2
      | none => .stuck)
    | none => .stuck := by
  rw [den]
  show ((den φ o ρ s).bind _) = _
  congr 1; funext x s1
  cases h : mthW s1 x m tb with
  | none => rfl
  | some r =>
    obtain ⟨f, ds, ord⟩ := r
    show ((dens φ es ρ s1).bind _) = _
    congr 1; funext ws s2
    cases h2 : ord.mapM fun i => (x :: ws ++ ds)[i]? <;> simp only [List.cons_append] at h2 <;> simp only [h2]
theorem x_mk (c f : Nat) (es : List E) (ds : List W) (ord : List Nat) : den φ (.mk c f es ds ord) ρ s = (dens φ es ρ s).bind fun ws s1 => match ord.mapM fun i => (W.loc s1.length :: ws ++ ds)[i]? with
    | some as => (φ f as (s1 ++ [.ins c []])).bind fun r => if r = .non then Mi.ret (.loc s1.length) else bad
    | none => .stuck := by
  rw [den] <;> rfl
theorem x_met (m : Met) (o : E) (es : List E) : den φ (.met m o es) ρ s = (den φ o ρ s).bind fun x s1 => if metOk s1 m x then (dens φ es ρ s1).bind (fun ws => met m x ws) else .stuck := by rw [den]
theorem x_isi (a : E) (ts : List Ty) : den φ (.isi a ts) ρ s = (den φ a ρ s).bind fun x s1 => match ts.mapM fun t => isTy s1 x t with
    | some bs => .ok (.bl (bs.any id)) s1
    | none => .stuck := by rw [den] <;> rfl
theorem x_callv (i : Nat) (fs : List Nat) (es : List E) : den φ (.callv i fs es) ρ s = match ρ[i]? with
    | some (some (.glb f)) => if fs.contains f then ((dens φ es ρ s).bind fun ws => φ f ws) else .stuck
    | _ => .stuck := by rw [den] <;> rfl
theorem x_lset (a : E) : den φ (.lset a) ρ s = (den φ a ρ s).bind fun x => lset x := by rw [den]
theorem x_nil : dens φ [] ρ s = .ok [] s := by rw [dens]
theorem x_cons (e : E) (es : List E) : dens φ (e :: es) ρ s = (den φ e ρ s).bind fun w s1 => (dens φ es ρ s1).bind fun ws s2 => .ok (w :: ws) s2 := by rw [dens]
theorem x_c0 : denC φ [] ρ s = .ok true s := by rw [denC]
theorem x_c1 (e : E) : denC φ [e] ρ s = (den φ e ρ s).bind fun x s1 => (tru x s1).bind fun t s2 => .ok t s2 := by
  rw [denC]
  show ((den φ e ρ s).bind _) = _
  congr 1; funext x s1
  show ((tru x s1).bind _) = _
  congr 1; funext t s2
  cases t
  · rfl
  · show denC φ [] ρ s2 = _
    rw [denC]
theorem x_p0 : denPart φ [] ρ s = .ok none s := by rw [denPart]
theorem x_p1 (e : E) (es : List E) : denPart φ (e :: es) ρ s = (den φ e ρ s).bind fun x s1 => match x with | .int i => .ok (some i) s1 | _ => .stuck := by
  rw [denPart]
  show ((den φ e ρ s).bind _) = _
  congr 1; funext x s1
  cases x <;> rfl
variable (N : Nat) (ψ : Nat → List W → Option (List (Str × W)))
theorem y_nil : execs φ N ψ [] ρ s = .ok .nxt ρ s := by rw [execs]
theorem y_cons (st : S) (r : List S) : execs φ N ψ (st :: r) ρ s = (exec φ N ψ st ρ s).seq fun ρ1 s1 => execs φ N ψ r ρ1 s1 := by rw [execs]
theorem y_set (t : T) (e : E) : exec φ N ψ (.set t e) ρ s = withE (den φ e ρ s) ρ fun w s1 => match asg φ t w ρ s1 with
    | .ok ρ1 s2 => .ok .nxt ρ1 s2
    | _ => .stuck := by rw [exec] <;> rfl
theorem y_rtn (e : E) : exec φ N ψ (.rtn e) ρ s = withE (den φ e ρ s) ρ fun w s1 => .ok (.rtn w) ρ s1 := by rw [exec]
theorem y_ite (c : E) (a b : List S) : exec φ N ψ (.ite c a b) ρ s = withE ((den φ c ρ s).bind fun x => tru x) ρ fun t s1 => if t then execs φ N ψ a ρ s1 else execs φ N ψ b ρ s1 := by rw [exec] <;> rfl
theorem w_ok {α : Type} (a : α) (f : α → Sto → ResS) : withE (.ok a s) ρ f = f a s := rfl
theorem q_nxt (f : Env → Sto → ResS) : (ResS.ok .nxt ρ s).seq f = f ρ s := rfl
theorem q_rtn (w : W) (f : Env → Sto → ResS) : (ResS.ok (.rtn w) ρ s).seq f = .ok (.rtn w) ρ s := rfl
theorem b_rtn (w : W) : bodyRes (.ok (.rtn w) ρ s) = .ok w s := rfl
theorem t_bl (b : Bool) : tru (.bl b) s = .ok b s := rfl
theorem r_ret {α : Type} (a : α) : Mi.ret a s = .ok a s := rfl
theorem c_int (op : Cop) (w w' : W) (b : Bool) (h : cmpB op w w' s = some b) : cmpop op w w' s = .ok (.bl b) s := by unfold cmpop; rw [h]
theorem a_nm (i : Nat) (w : W) : asg φ (.nm i) w ρ s = .ok (ρ.set i (some w)) s := by rw [asg]
end
/-! ### lists made of a walk -/
/-- a comprehension over items, whose element and condition add to the store at most -/
theorem lc_walk (elt : Env → M W) (cond : Env → M Bool) (tg : Tn) (ρ : Env) (chk : Sto → Bool) (f : W → W) (g : W → Bool) (s : Sto) (hc : ∀ t, chk (s ++ t) = true) :
    ∀ (ws : List W), (∀ w ∈ ws, ∃ ρ1, bindT tg w ρ = some ρ1 ∧ (∀ t, ∃ t', cond ρ1 (s ++ t) = .ok (g w) (s ++ t')) ∧ (g w = true → ∀ t, ∃ t', elt ρ1 (s ++ t) = .ok (f w) (s ++ t'))) →
      ∀ t, ∃ t', lcGo elt cond tg ρ chk ws (s ++ t) = .ok ((ws.filter g).map f) (s ++ t')
  | [], _, t => ⟨t, by simp [lcGo, hc]⟩
  | w :: ws, h, t => by
    obtain ⟨ρ1, e1, e2, e3⟩ := h w List.mem_cons_self
    have ih := lc_walk elt cond tg ρ chk f g s hc ws fun w hw => h w (List.mem_cons_of_mem _ hw)
    obtain ⟨t1, e2⟩ := e2 t
    simp only [lcGo, hc, if_true, e1, e2, bind_ok]
    cases hg : g w with
    | false =>
      obtain ⟨t2, e⟩ := ih t1
      exact ⟨t2, by simp [hg, bnd, e]⟩
    | true =>
      obtain ⟨t2, e4⟩ := e3 hg t1
      obtain ⟨t3, e5⟩ := ih t2
      exact ⟨t3, by simp [hg, bnd, e4, e5, Mi.ret]⟩
theorem den_lc {φ : Nat → List W → M W} {elt : E} {tg : Tn} {own : List Nat} {k : Ik} {its cond : List E} {ρ : Env} {s : Sto} {ws vs : List W} {n : List (Nat × List W)} (f : W → W) (g : W → Bool)
    (h1 : dens φ its ρ s = .ok vs s) (h2 : iter k vs s = .ok (ws, n) s) (hc : ∀ t, stays (s ++ t) n = true)
    (hw : ∀ w ∈ ws, ∃ ρ1, bindT tg w (wipe ρ own) = some ρ1 ∧ (∀ t, ∃ t', denC φ cond ρ1 (s ++ t) = .ok (g w) (s ++ t')) ∧ (g w = true → ∀ t, ∃ t', den φ elt ρ1 (s ++ t) = .ok (f w) (s ++ t'))) :
    ∃ t, den φ (.lc elt tg own k its cond) ρ s = .ok (.loc (s ++ t).length) (s ++ t ++ [.lst ((ws.filter g).map f)]) := by
  obtain ⟨t, e⟩ := lc_walk (fun ρ' => den φ elt ρ') (fun ρ' => denC φ cond ρ') tg (wipe ρ own) (fun s => stays s n) f g s hc ws hw []
  rw [List.append_nil] at e
  refine ⟨t, ?_⟩
  rw [den]
  simp only [bnd, h1, h2, bind_ok, noExc, e, lay]
/-- no condition -/
theorem den_lc1 {φ : Nat → List W → M W} {elt : E} {tg : Tn} {own : List Nat} {k : Ik} {its : List E} {ρ : Env} {s : Sto} {ws vs : List W} {n : List (Nat × List W)} (f : W → W)
    (h1 : dens φ its ρ s = .ok vs s) (h2 : iter k vs s = .ok (ws, n) s) (hc : ∀ t, stays (s ++ t) n = true)
    (hw : ∀ w ∈ ws, ∃ ρ1, bindT tg w (wipe ρ own) = some ρ1 ∧ ∀ t, ∃ t', den φ elt ρ1 (s ++ t) = .ok (f w) (s ++ t')) :
    ∃ t, den φ (.lc elt tg own k its []) ρ s = .ok (.loc (s ++ t).length) (s ++ t ++ [SO.lst (ws.map f)]) := by
  obtain ⟨t, e⟩ := den_lc (cond := []) f (fun _ => true) h1 h2 hc fun w hw' => by
    obtain ⟨ρ1, a, b⟩ := hw w hw'
    exact ⟨ρ1, a, fun t => ⟨t, x_c0 ..⟩, fun _ => b⟩
  exact ⟨t, by rw [e, List.filter_eq_self.mpr (by simp)]⟩
section
variable (s : Sto)
theorem c_lt (i j : Int) : cmpop .lt (.int i) (.int j) s = .ok (.bl (decide (i < j))) s := rfl
theorem c_le (i j : Int) : cmpop .le (.int i) (.int j) s = .ok (.bl (decide (i ≤ j))) s := rfl
theorem c_gt (i j : Int) : cmpop .gt (.int i) (.int j) s = .ok (.bl (decide (j < i))) s := rfl
theorem c_ge (i j : Int) : cmpop .ge (.int i) (.int j) s = .ok (.bl (decide (j ≤ i))) s := rfl
theorem c_eqi (i j : Int) : cmpop .eq (.int i) (.int j) s = .ok (.bl (decide (i = j))) s := by
  unfold cmpop
  simp [cmpB, eqW, sameW]
theorem c_eqs (i j : Str) : cmpop .eq (.str i) (.str j) s = .ok (.bl (decide (i = j))) s := by
  unfold cmpop
  simp [cmpB, eqW, sameW]
theorem c_nes (i j : Str) : cmpop .ne (.str i) (.str j) s = .ok (.bl (!decide (i = j))) s := by
  unfold cmpop
  simp [cmpB, eqW, sameW]
/-- a tuple against () -/
theorem c_eq0 (ws : List W) : cmpop .eq (.tup ws) (.tup []) s = .ok (.bl ws.isEmpty) s := by
  unfold cmpop
  simp [cmpB, eqW, sameW, eqE, isTupW]
theorem c_ne0 (ws : List W) : cmpop .ne (.tup ws) (.tup []) s = .ok (.bl (!ws.isEmpty)) s := by
  unfold cmpop
  simp [cmpB, eqW, sameW, eqE, isTupW]
theorem c_in2 (x a b : Str) : cmpop .isin (.str x) (.tup [.str a, .str b]) s = .ok (.bl (decide (x = a) || decide (x = b))) s := by
  have h : cmpB .isin (.str x) (.tup [.str a, .str b]) s = some (eqF (.str a) (.str x) || (eqF (.str b) (.str x) || false)) := rfl
  have e : ∀ u v : Str, eqF (.str u) (.str v) = decide (v = u) := fun u v => by
    show (u == v) = _
    rw [Bool.eq_iff_iff, beq_iff_eq, decide_eq_true_eq]; exact eq_comm
  unfold cmpop
  rw [h, e, e, Bool.or_false]
theorem c_les (i j : Str) : cmpop .le (.str i) (.str j) s = .ok (.bl (!decide (j.cps.toList < i.cps.toList))) s := rfl
theorem b_list (ws : List W) : blt .list [.tup ws] s = .ok (.loc s.length) (s ++ [SO.lst ws]) := rfl
theorem l_lay (o : SO) : lay o s = .ok (.loc s.length) (s ++ [o]) := rfl
theorem b_lens (x : Str) (h : x.length ≤ SZ) : blt .len [.str x] s = .ok (.int x.length) s := by simp only [blt, lenW, if_pos h]
theorem b_lent (ws : List W) : blt .len [.tup ws] s = .ok (.int ws.length) s := by simp only [blt, lenW]
theorem i_tup (ws : List W) (i : Int) : idxW (.tup ws) (.int i) s = match L2.atI ws i with | some w => .ok w s | none => .stuck := rfl
end
theorem z0 {α : Type} (x y : α) : (if ([] : List W).length ≤ SZ then x else y) = x := if_pos (by simp [SZ])
theorem z1 {α : Type} (a : W) (x y : α) : (if ([a] : List W).length ≤ SZ then x else y) = x := if_pos (by simp [SZ])
theorem z2 {α : Type} (a b : W) (x y : α) : (if ([a, b] : List W).length ≤ SZ then x else y) = x := if_pos (by simp [SZ])
theorem z3 {α : Type} (a b c : W) (x y : α) : (if ([a, b, c] : List W).length ≤ SZ then x else y) = x := if_pos (by simp [SZ])
theorem z4 {α : Type} (a b c d : W) (x y : α) : (if ([a, b, c, d] : List W).length ≤ SZ then x else y) = x := if_pos (by simp [SZ])
theorem z5 {α : Type} (a b c d e : W) (x y : α) : (if ([a, b, c, d, e] : List W).length ≤ SZ then x else y) = x := if_pos (by simp [SZ])
theorem z6 {α : Type} (a b c d e f : W) (x y : α) : (if ([a, b, c, d, e, f] : List W).length ≤ SZ then x else y) = x := if_pos (by simp [SZ])
theorem z7 {α : Type} (a b c d e f g : W) (x y : α) : (if ([a, b, c, d, e, f, g] : List W).length ≤ SZ then x else y) = x := if_pos (by simp [SZ])
theorem z8 {α : Type} (a b c d e f g h : W) (x y : α) : (if ([a, b, c, d, e, f, g, h] : List W).length ≤ SZ then x else y) = x := if_pos (by simp [SZ])
theorem y_for (φ : Nat → List W → M W) (ρ : Env) (s : Sto) (N : Nat) (ψ : Nat → List W → Option (List (Str × W))) (t : T) (k : Ik) (its : List E) (b : List S) : exec φ N ψ (.for t k its b) ρ s = withE ((dens φ its ρ s).bind fun vs => iter k vs) ρ fun it s1 => forGo (fun w ρ => asg φ t w ρ) (fun ρ s => execs φ N ψ b ρ s) (fun s => stays s it.2) it.1 ρ s1 := by rw [exec]
theorem y_fset (φ : Nat → List W → M W) (ρ : Env) (s : Sto) (N : Nat) (ψ : Nat → List W → Option (List (Str × W))) (o : E) (f : Str) (cs : List Nat) (e : E) : exec φ N ψ (.fset o f cs e) ρ s = withE ((den φ e ρ s).bind fun w s1 => (den φ o ρ s1).bind fun x => setFW cs f x w) ρ fun _ s1 => .ok .nxt ρ s1 := by rw [exec]
theorem y_faug (φ : Nat → List W → M W) (ρ : Env) (s : Sto) (N : Nat) (ψ : Nat → List W → Option (List (Str × W))) (o : E) (f : Str) (cs : List Nat) (op : Bop) (e : E) : exec φ N ψ (.faug o f cs op e) ρ s = withE ((den φ o ρ s).bind fun x s0 => (fldW cs f x s0).bind fun w s1 => (den φ e ρ s1).bind fun y s2 => (augW op w y s2).bind fun z s3 => if clsOf s0 x = clsOf s3 x then setFW cs f x z s3 else .stuck) ρ fun _ s1 => .ok .nxt ρ s1 := by rw [exec]
theorem y_whl (φ : Nat → List W → M W) (ρ : Env) (s : Sto) (N : Nat) (ψ : Nat → List W → Option (List (Str × W))) (c : E) (b : List S) : exec φ N ψ (.whl c b) ρ s = whlGo (test φ c) (fun ρ s => execs φ N ψ b ρ s) N ρ s := by rw [exec]
theorem fldW_at {s : Sto} {n c : Nat} {cs : List Nat} {f : Str} {fs : List (Str × W)} {w : W} (h : s[n]? = some (.ins c fs)) (hc : cs.contains c = true) (hl : fs.lookup f = some w) : fldW cs f (.loc n) s = .ok w s := by
  simp only [fldW, h, hc, hl, if_true]
theorem setFW_at {s : Sto} {n c : Nat} {cs : List Nat} {f : Str} {fs : List (Str × W)} {w : W} (h : s[n]? = some (.ins c fs)) (hc : cs.contains c = true) (hl : fs.length < 1000) : setFW cs f (.loc n) w s = .ok () (s.set n (.ins c (putFW f w fs))) := by
  simp only [setFW, h, hc, hl, and_self, if_true]
theorem mthW_at {s : Sto} {n c : Nat} {m : Str} {fs : List (Str × W)} {tb : MTab} (h : s[n]? = some (.ins c fs)) (hl : (fs.lookup m).isNone = true) : mthW s (.loc n) m tb = tb.lookup c := by
  simp only [mthW, h, hl, if_true]
theorem clsOf_at {s : Sto} {n c : Nat} {fs : List (Str × W)} (h : s[n]? = some (.ins c fs)) : clsOf s (.loc n) = some c := by simp only [clsOf, h]
theorem y_exp (φ : Nat → List W → M W) (ρ : Env) (s : Sto) (N : Nat) (ψ : Nat → List W → Option (List (Str × W))) (e : E) : exec φ N ψ (.exp e) ρ s = withE (den φ e ρ s) ρ fun _ s1 => .ok .nxt ρ s1 := by rw [exec]
theorem i_rng1 (n : Nat) (s : Sto) (h : n ≤ SZ) : iter .rng1 [.int (n : Int)] s = .ok ((List.range n).map fun k : Nat => W.int (k : Int), []) s := by
  have h1 : (n : Int) ≤ ((SZ : Nat) : Int) ∧ -(2 ^ 62) ≤ (n : Int) := ⟨by omega, by have : (-(2 ^ 62) : Int) ≤ 0 := by decide
                                                                                    omega⟩
  simp only [iter]
  rw [if_pos h1]
  simp only [Int.toNat_natCast]
theorem f_step {bind : W → Env → Sto → Res Env} {body : Env → Sto → ResS} {chk : Sto → Bool} {w : W} {r : List W} {ρ ρ1 ρ2 : Env} {s s1 s2 : Sto} (hc : chk s = true) (hb : bind w ρ s = .ok ρ1 s1) (h : body ρ1 s1 = .ok .nxt ρ2 s2) : forGo bind body chk (w :: r) ρ s = forGo bind body chk r ρ2 s2 := by
  simp only [forGo, hc, if_true, hb, h]
theorem f_end {bind : W → Env → Sto → Res Env} {body : Env → Sto → ResS} {chk : Sto → Bool} {ρ : Env} {s : Sto} (hc : chk s = true) : forGo bind body chk [] ρ s = .ok .nxt ρ s := by
  simp only [forGo, hc, if_true]
theorem add_lists (S : Sto) (x y : List W) (h : x.length + y.length ≤ SZ) : binop .add (.loc S.length) (.loc (S ++ [SO.lst x]).length) (S ++ [SO.lst x] ++ [SO.lst y]) = .ok (.loc (S ++ [SO.lst x] ++ [SO.lst y]).length) (S ++ [SO.lst x] ++ [SO.lst y] ++ [SO.lst (x ++ y)]) := by
  have h1 : (S ++ [SO.lst x] ++ [SO.lst y])[S.length]? = some (.lst x) := by
    rw [List.getElem?_append_left (by simp)]; simp
  have h2 : (S ++ [SO.lst x] ++ [SO.lst y])[(S ++ [SO.lst x]).length]? = some (.lst y) := by simp
  simp only [binop, h1, h2, if_pos h, lay]
section
variable (s : Sto)
theorem o_add (i j : Int) : binop .add (.int i) (.int j) s = .ok (.int (i + j)) s := rfl
theorem o_sub (i j : Int) : binop .sub (.int i) (.int j) s = .ok (.int (i - j)) s := rfl
theorem o_mul (i j : Int) (h : i.natAbs.log2 + j.natAbs.log2 < 1000000) : binop .mul (.int i) (.int j) s = .ok (.int (i * j)) s := by simp only [binop, if_pos h]
theorem o_mod (i j : Int) (h : 0 < j) : binop .mod (.int i) (.int j) s = .ok (.int (i % j)) s := by simp only [binop, if_pos h]
theorem o_fdiv (i j : Int) (h : 0 < j ∧ j.natAbs.log2 < 9000) : binop .fdiv (.int i) (.int j) s = .ok (.int (i / j)) s := by simp only [binop, if_pos h]
theorem o_pow (i : Int) (j : Nat) (h : j ≤ 1000000 ∧ i.natAbs < 2 ^ 64) : binop .pow (.int i) (.int (j : Int)) s = .ok (.int (i ^ j)) s := by
  have : 0 ≤ (j : Int) ∧ (j : Int) ≤ 1000000 ∧ i.natAbs < 2 ^ 64 := ⟨by omega, by omega, h.2⟩
  simp only [binop, if_pos this]; rfl
theorem o_tup (x y : List W) (h : x.length + y.length ≤ SZ) : binop .add (.tup x) (.tup y) s = .ok (.tup (x ++ y)) s := by simp only [binop, if_pos h]
theorem b_divmod (i j : Int) (h : 0 < j ∧ j.natAbs.log2 < 9000) : blt .divmod [.int i, .int j] s = .ok (.tup [.int (i / j), .int (i % j)]) s := by simp only [blt, if_pos h]
theorem b_abs (i : Int) : blt .abs [.int i] s = .ok (.int (if i < 0 then -i else i)) s := rfl
theorem b_max (i j : Int) : blt .max [.int i, .int j] s = .ok (.int (if j > i then j else i)) s := rfl
theorem b_min (i j : Int) : blt .min [.int i, .int j] s = .ok (.int (if j < i then j else i)) s := rfl
theorem b_lenl (l : Nat) (xs : List W) (h : s[l]? = some (.lst xs)) : blt .len [.loc l] s = .ok (.int xs.length) s := by simp only [blt, lenW, h]
theorem b_tupl (l : Nat) (xs : List W) (h : s[l]? = some (.lst xs)) : blt .tuple [.loc l] s = .ok (.tup xs) s := by
  show (match isLst s (.loc l) with | some ws => Res.ok (W.tup ws) s | none => .stuck) = _
  simp only [isLst, h]
theorem i_loc (l : Nat) (xs : List W) (i : Int) (w : W) (h : s[l]? = some (.lst xs)) (e : L2.atI xs i = some w) : idxW (.loc l) (.int i) s = .ok w s := by simp only [idxW, h, e]
theorem at_nat (xs : List W) (i : Nat) : L2.atI xs (i : Int) = xs[i]? := by
  unfold L2.atI L2.ixN
  by_cases h : i < xs.length
  · rw [if_pos (by omega), if_pos (by omega)]; simp
  · rw [if_pos (by omega), if_neg (by omega), List.getElem?_eq_none (by omega)]; rfl
theorem log_lt {i : Int} {n : Nat} (h : i.natAbs < 2 ^ n) : i.natAbs.log2 ≤ n := by
  by_cases h0 : i.natAbs = 0
  · rw [h0]; simp
  · exact Nat.le_of_lt ((Nat.log2_lt h0).mpr h)
end
theorem a_sub {φ : Nat → List W → M W} {ρ : Env} {s s' : Sto} {o i : E} {w ow iw : W} (h1 : den φ o ρ s = .ok ow s) (h2 : den φ i ρ s = .ok iw s) (h3 : setW ow iw w s = .ok () s') : asg φ (.sub o i) w ρ s = .ok ρ s' := by
  rw [asg]
  simp only [noExc, bnd, h1, h2, h3, bind_ok, Mi.ret]
theorem set_loc {s : Sto} {l : Nat} {xs : List W} {j : Nat} {v : W} (h : s[l]? = some (.lst xs)) (hj : j < xs.length) : setW (.loc l) (.int (j : Int)) v s = .ok () (s.set l (.lst (xs.set j v))) := by
  have : L2.ixN xs.length (j : Int) = some j := by unfold L2.ixN; rw [if_pos (by omega), if_pos (by omega)]; rfl
  simp only [setW, h, this]
/-- a walk that makes a list, the store changing -/
theorem lc_inv {elt : Env → M W} {cond : Env → M Bool} {tg : Tn} {ρ : Env} {chk : Sto → Bool} (I : Sto → Prop) (R : W → Prop) (hc : ∀ s, chk s = true) (hcond : ∀ ρ s, cond ρ s = .ok true s) : ∀ (ws : List W),
    (∀ w ∈ ws, ∃ ρ1, bindT tg w ρ = some ρ1 ∧ ∀ s, I s → ∃ x s', elt ρ1 s = .ok x s' ∧ I s' ∧ R x) → ∀ s, I s → ∃ ys s', lcGo elt cond tg ρ chk ws s = .ok ys s' ∧ I s' ∧ ys.length = ws.length ∧ ∀ y ∈ ys, R y
  | [], _, s, h => ⟨[], s, by simp only [lcGo, hc, if_true], h, rfl, by simp⟩
  | w :: ws, hw, s, h => by
    obtain ⟨ρ1, e1, q⟩ := hw w List.mem_cons_self
    obtain ⟨x, s1, e2, i1, r1⟩ := q s h
    obtain ⟨ys, s2, e3, i2, l2, r2⟩ := lc_inv I R hc hcond ws (fun w h => hw w (List.mem_cons_of_mem _ h)) s1 i1
    refine ⟨x :: ys, s2, ?_, i2, by simp [l2], fun y hy => ?_⟩
    · simp only [lcGo, hc, if_true, e1, hcond, bind_ok, bnd, e2, e3, Mi.ret]
    · rcases List.mem_cons.mp hy with rfl | hy
      · exact r1
      · exact r2 y hy
theorem den_lci {φ : Nat → List W → M W} {elt : E} {tg : Tn} {own : List Nat} {k : Ik} {its : List E} {ρ : Env} {s s0 : Sto} {ws vs : List W} (I : Sto → Prop) (R : W → Prop)
    (h1 : dens φ its ρ s = .ok vs s0) (h2 : iter k vs s0 = .ok (ws, []) s0) (h0 : I s0)
    (hw : ∀ w ∈ ws, ∃ ρ1, bindT tg w (wipe ρ own) = some ρ1 ∧ ∀ s, I s → ∃ x s', den φ elt ρ1 s = .ok x s' ∧ I s' ∧ R x) :
    ∃ ys s', den φ (.lc elt tg own k its []) ρ s = .ok (.loc s'.length) (s' ++ [SO.lst ys]) ∧ I s' ∧ ys.length = ws.length ∧ ∀ y ∈ ys, R y := by
  obtain ⟨ys, s', e, i, l, r⟩ := lc_inv (elt := fun ρ' => den φ elt ρ') (cond := fun ρ' => denC φ [] ρ') (tg := tg) (ρ := wipe ρ own) (chk := fun s => stays s []) I R (fun _ => rfl) (fun ρ s => x_c0 ..) ws hw s0 h0
  refine ⟨ys, s', ?_, i, l, r⟩
  rw [den]
  simp only [bnd, h1, h2, bind_ok, noExc, e, lay]
/-- a walk that keeps something -/
theorem for_inv {bind : W → Env → Sto → Res Env} {body : Env → Sto → ResS} {chk : Sto → Bool} (P : Env → Sto → Prop) (hc : ∀ s, chk s = true) : ∀ (ws : List W) (ρ : Env) (s : Sto),
    (∀ w ∈ ws, ∀ ρ s, P ρ s → ∃ ρ1, bind w ρ s = .ok ρ1 s ∧ wpS (body ρ1 s) fun f ρ' s' => f = .nxt ∧ P ρ' s') → P ρ s → wpS (forGo bind body chk ws ρ s) fun f ρ' s' => f = .nxt ∧ P ρ' s'
  | [], ρ, s, _, h => by simp only [forGo, hc, if_true]; exact ⟨rfl, h⟩
  | w :: ws, ρ, s, hb, h => by
    obtain ⟨ρ1, e, q⟩ := hb w List.mem_cons_self ρ s h
    simp only [forGo, hc, if_true, e]
    cases e2 : body ρ1 s with
    | stuck => rw [e2] at q; exact q.elim
    | exc x ρ s => rw [e2] at q; exact q.elim
    | ok f ρ2 s2 =>
      rw [e2] at q
      obtain ⟨rfl, q⟩ := q
      exact for_inv P hc ws ρ2 s2 (fun w hw => hb w (List.mem_cons_of_mem _ hw)) q
theorem a_tp3 (φ : Nat → List W → M W) (ρ : Env) (s : Sto) (i j k l : Nat) (a b c : W) (h : s[l]? = some (.lst [a, b, c])) : asg φ (.tp [.nm i, .nm j, .nm k]) (.loc l) ρ s = .ok (((ρ.set i (some a)).set j (some b)).set k (some c)) s := by
  simp [asg, asgs, isSeq, isLst, h, bnd, Mi.ret]
theorem a_tp2 (φ : Nat → List W → M W) (ρ : Env) (s : Sto) (i j l : Nat) (a b : W) (h : s[l]? = some (.lst [a, b])) : asg φ (.tp [.nm i, .nm j]) (.loc l) ρ s = .ok ((ρ.set i (some a)).set j (some b)) s := by
  simp [asg, asgs, isSeq, isLst, h, bnd, Mi.ret]
theorem a_tp2t (φ : Nat → List W → M W) (ρ : Env) (s : Sto) (i j : Nat) (a b : W) : asg φ (.tp [.nm i, .nm j]) (.tup [a, b]) ρ s = .ok ((ρ.set i (some a)).set j (some b)) s := by
  simp [asg, asgs, isSeq, bnd, Mi.ret]
theorem all_made {s t : Sto} (ws : List W) (f : W → Bool) : blt .all [.loc (s ++ t).length] (s ++ t ++ [SO.lst (ws.map fun w => .bl (f w))]) = .ok (.bl (ws.all f)) (s ++ (t ++ [SO.lst (ws.map fun w => .bl (f w))])) := by
  have hl : isLst (s ++ t ++ [SO.lst (ws.map fun w => .bl (f w))]) (.loc (s ++ t).length) = some (ws.map fun w => .bl (f w)) := by simp [isLst]
  simp only [blt, hl]
  rw [if_pos (by simp)]
  rw [List.append_assoc, List.all_map]
  congr 2
  simp [Function.comp_def]
theorem empty_made {s t : Sto} (ws : List W) (f : W → W) (g : W → Bool) : cmpop .eq (.loc (s ++ t).length) (.loc (s ++ t ++ [SO.lst ((ws.filter g).map f)]).length) (s ++ t ++ [SO.lst ((ws.filter g).map f)] ++ [SO.lst []]) = .ok (.bl (ws.all fun w => !g w)) (s ++ (t ++ [SO.lst ((ws.filter g).map f)] ++ [SO.lst []])) := by
  have h1 : isLst (s ++ t ++ [SO.lst ((ws.filter g).map f)] ++ [SO.lst []]) (.loc (s ++ t).length) = some ((ws.filter g).map f) := by
    simp only [isLst]
    rw [List.getElem?_append_left (by simp)]
    simp
  have h2 : isLst (s ++ t ++ [SO.lst ((ws.filter g).map f)] ++ [SO.lst []]) (.loc (s ++ t ++ [SO.lst ((ws.filter g).map f)]).length) = some [] := by simp [isLst]
  have h3 : eqW (s ++ t ++ [SO.lst ((ws.filter g).map f)] ++ [SO.lst []]) (.loc (s ++ t).length) (.loc (s ++ t ++ [SO.lst ((ws.filter g).map f)]).length) = some (ws.filter g).isEmpty := by
    simp only [eqW, sameW, eqE, isTupW, h1, h2]
    cases ws.filter g <;> simp
  have h4 : (ws.filter g).isEmpty = ws.all fun w => !g w := by
    rw [Bool.eq_iff_iff]
    simp [List.filter_eq_nil_iff]
  simp only [cmpop, cmpB, h3, h4]
  simp only [List.append_assoc]
end Mi

/-! MiL: what the laws have in common: good values, their texts, the pot. -/
namespace MiL
open PySem hiding Env exec execs
open L2 Mi
abbrev ψ0 : Nat → List W → Option (List (Str × W)) := fun _ _ => none
/-- turns of a while at most -/
abbrev NN : Nat := 400
abbrev ph (ds : List FD) (k : Nat) : Nat → List W → M W := fsem NN ψ0 ds k
theorem call_eq {ds : List FD} {k f : Nat} {ws : List W} {s : Sto} {d : FD} (h : ds[f]? = some d) (hl : ws.length = d.ar) : ph ds (k + 1) f ws s = bodyRes (execs (ph ds k) NN ψ0 d.body (ws.map some ++ List.replicate (d.sl - d.ar) none) s) := by
  show fsem NN ψ0 ds (k + 1) f ws s = _
  simp only [fsem, h, hl, if_true]

/-! ### good values -/
def All2 {α β : Type} (R : α → β → Prop) : List α → List β → Prop
  | [], [] => True
  | a :: as, b :: bs => R a b ∧ All2 R as bs
  | _, _ => False
/-- a value that is good data: how deep, how long its text is at most -/
def GV (s : Sto) : Nat → Nat → W → Prop
  | 0, _, _ => False
  | n + 1, m, w => (140 ≤ m ∧ m ≤ SZ) ∧ match w with
    | .non => True
    | .bl _ => True
    | .int i => i.natAbs < 10 ^ 31
    | .str x => x.length ≤ 12 ∧ ∀ c ∈ x.cps.toList, c < 16 ^ 8
    | .tup ws => ∃ g, All2 (GV s n) g ws ∧ g.sum + 2 * ws.length + 140 ≤ m
    | .loc l => (∃ ws g, s[l]? = some (.lst ws) ∧ All2 (GV s n) g ws ∧ g.sum + 2 * ws.length + 140 ≤ m) ∨ s[l]? = some (.dct []) ∨ (1 ≤ n ∧ s[l]? = some (.dct [(.str "a", .int 1)]))
    | _ => False
def isB : Ty → W → Bool
  | .int, .int _ => true
  | .int, .bl _ => true
  | .bool, .bl _ => true
  | .str, .str _ => true
  | .tuple, .tup _ => true
  | _, _ => false
theorem GV.isTy {s : Sto} {n m : Nat} {w : W} (h : GV s n m w) {t : Ty} (ht : t = .int ∨ t = .bool ∨ t = .str ∨ t = .tuple) : isTy s w t = some (isB t w) := by
  cases n with
  | zero => exact h.elim
  | succ n =>
    obtain ⟨_, h⟩ := h
    cases w <;> try exact h.elim
    all_goals try (rcases ht with rfl | rfl | rfl | rfl <;> rfl; done)
    rename_i l
    rcases h with ⟨ws, g, e, _⟩ | e | ⟨_, e⟩ <;> rcases ht with rfl | rfl | rfl | rfl <;> simp [Mi.isTy, e, isB]
theorem GV.tInt {s : Sto} {n m : Nat} {w : W} (h : GV s n m w) : Mi.isTy s w .int = some (isB .int w) := h.isTy (.inl rfl)
theorem GV.tBool {s : Sto} {n m : Nat} {w : W} (h : GV s n m w) : Mi.isTy s w .bool = some (isB .bool w) := h.isTy (.inr (.inl rfl))
theorem GV.tStr {s : Sto} {n m : Nat} {w : W} (h : GV s n m w) : Mi.isTy s w .str = some (isB .str w) := h.isTy (.inr (.inr (.inl rfl)))
theorem GV.tTup {s : Sto} {n m : Nat} {w : W} (h : GV s n m w) : Mi.isTy s w .tuple = some (isB .tuple w) := h.isTy (.inr (.inr (.inr rfl)))
/-- a bigger store -/
theorem All2.imp {α β : Type} {R R' : α → β → Prop} (h : ∀ a b, R a b → R' a b) : ∀ {as : List α} {bs : List β}, All2 R as bs → All2 R' as bs
  | [], [], _ => trivial
  | _ :: _, _ :: _, ⟨a, b⟩ => ⟨h _ _ a, All2.imp h b⟩
  | [], _ :: _, h => h.elim
  | _ :: _, [], h => h.elim
def Sub (s s' : Sto) : Prop := ∀ (l : Nat) (o : SO), s[l]? = some o → (∀ c fs, o ≠ .ins c fs) → s'[l]? = some o
theorem GV.sub {s s' : Sto} (h : Sub s s') : ∀ {n m : Nat} {w : W}, GV s n m w → GV s' n m w := by
  intro n
  induction n with
  | zero => intro m w g; exact g
  | succ n ih =>
    intro m w g
    obtain ⟨g0, g⟩ := g
    refine ⟨g0, ?_⟩
    cases w <;> try exact g
    · obtain ⟨g1, g2, g3⟩ := g
      exact ⟨g1, g2.imp fun a b => ih, g3⟩
    · rcases g with ⟨ws, g1, e, g2, g3⟩ | e | ⟨e0, e⟩
      · exact .inl ⟨ws, g1, h _ _ e (by simp), g2.imp fun a b => ih, g3⟩
      · exact .inr (.inl (h _ _ e (by simp)))
      · exact .inr (.inr ⟨e0, h _ _ e (by simp)⟩)
theorem sub_app (s t : Sto) : Sub s (s ++ t) := fun l o e _ => by
  rw [List.getElem?_append_left (List.getElem?_eq_some_iff.mp e).1]; exact e
theorem GV.app {s : Sto} {n m : Nat} {w : W} (h : GV s n m w) (t : Sto) : GV (s ++ t) n m w := h.sub (sub_app s t)
/-- an item of a tuple -/
theorem all2_get {α β : Type} {R : α → β → Prop} : ∀ {as : List α} {bs : List β} {b : β}, All2 R as bs → b ∈ bs → ∃ a, R a b
  | [], [], _, _, h => by simp at h
  | a :: as, c :: bs, b, ⟨h1, h2⟩, h => by
    rcases List.mem_cons.mp h with rfl | h
    · exact ⟨a, h1⟩
    · exact all2_get h2 h
  | [], _ :: _, _, h, _ => h.elim
  | _ :: _, [], _, h, _ => h.elim
theorem GV.item {s : Sto} {n m : Nat} {ws : List W} {w : W} (h : GV s n m (.tup ws)) (hw : w ∈ ws) : ∃ n' m', n = n' + 1 ∧ GV s n' m' w := by
  cases n with
  | zero => exact h.elim
  | succ n =>
    obtain ⟨_, g, g1, _⟩ := h
    obtain ⟨a, ha⟩ := all2_get g1 hw
    exact ⟨n, a, rfl, ha⟩
theorem GV.strlen {s : Sto} {n m : Nat} {x : Str} (h : GV s n m (.str x)) : x.length ≤ SZ := by
  cases n with
  | zero => exact h.elim
  | succ n => exact Nat.le_trans h.2.1 (by decide)
theorem GV.tuplen : ∀ {α : Type} {as : List Nat} {bs : List α} {R : Nat → α → Prop}, All2 R as bs → as.length = bs.length
  | _, [], [], _, _ => rfl
  | _, _ :: _, _ :: _, _, ⟨_, h⟩ => by simp [GV.tuplen h]
  | _, [], _ :: _, _, h => h.elim
  | _, _ :: _, [], _, h => h.elim

theorem GV.len {s : Sto} {n m : Nat} {ws : List W} (h : GV s n m (.tup ws)) : ws.length ≤ SZ := by
  cases n with
  | zero => exact h.elim
  | succ n => obtain ⟨⟨_, h1⟩, g, _, h2⟩ := h; exact Nat.le_trans (by omega) h1
theorem GV.len1 {s : Sto} {n m : Nat} {x : W} {ws : List W} (h : GV s n m (.tup (x :: ws))) : ws.length ≤ SZ := Nat.le_trans (Nat.le_succ _) h.len
theorem at0 (x : W) (xs : List W) : L2.atI (x :: xs) 0 = some x := by simp [L2.atI, L2.ixN]
theorem at1 (x y : W) (xs : List W) : L2.atI (x :: y :: xs) 1 = some y := by
  have : (1 : Int) < ((x :: y :: xs).length : Int) := by simp only [List.length_cons]; omega
  simp only [L2.atI, L2.ixN, if_pos this]; rfl
theorem at2 (x y z : W) (xs : List W) : L2.atI (x :: y :: z :: xs) 2 = some z := by
  have : (2 : Int) < ((x :: y :: z :: xs).length : Int) := by simp only [List.length_cons]; omega
  simp only [L2.atI, L2.ixN, if_pos this]; rfl
theorem cut1 (x : W) (xs : List W) (s : Sto) : slcW (.tup (x :: xs)) (some 1) none s = .ok (.tup xs) s := by simp [slcW, cut, HT.sIx]
def letters : Str := "abcdefghijklmnopqrstuvwxyz"
theorem letters_list : letters.cps.toList = (List.range 26).map (· + 97) := by decide +kernel
theorem lt_one (a b : Nat) : ([a] < [b] : Prop) ↔ a < b := by rw [List.cons_lt_cons_iff]; simp
theorem in_letters (c : Nat) : decide (c ∈ letters.cps.toList) = (!decide ([c] < [97]) && !decide ([122] < [c])) := by
  rw [letters_list, Bool.eq_iff_iff]
  simp [lt_one]
  constructor
  · rintro ⟨a, h, rfl⟩; omega
  · rintro ⟨h1, h2⟩; exact ⟨c - 97, by omega, by omega⟩
/-! ### texts of values -/
theorem mapM_imp {α β : Type} {f g : α → Option β} : ∀ {l : List α} {r : List β}, (∀ a b, f a = some b → g a = some b) → l.mapM f = some r → l.mapM g = some r
  | [], r, _, h => by simpa using h
  | a :: l, r, i, h => by
    rw [List.mapM_cons] at h ⊢
    simp only [Option.pure_def, Option.bind_eq_bind, Option.bind_eq_some_iff, Option.some.injEq] at h ⊢
    obtain ⟨b, h1, r', h2, rfl⟩ := h
    exact ⟨b, i _ _ h1, r', mapM_imp i h2, rfl⟩
theorem toD_grow {s u : Sto} (hs : Sub s u) : ∀ (n n' : Nat) (w : W) (d : PyData), n ≤ n' → toD n s w = some d → toD n' u w = some d := by
  intro n
  induction n with
  | zero => intro n' w d _ h; simp [toD] at h
  | succ n ih =>
    intro n' w d hn h
    cases n' with
    | zero => omega
    | succ n' =>
    have hn : n ≤ n' := by omega
    have im : ∀ a b, toD n s a = some b → toD n' u a = some b := fun a b => ih n' a b hn
    cases w <;> simp only [toD, reduceCtorEq] at h ⊢ <;> try exact h
    · rw [Option.map_eq_some_iff] at h ⊢
      obtain ⟨r, h, e⟩ := h
      exact ⟨r, mapM_imp im h, e⟩
    · rw [Option.map_eq_some_iff] at h ⊢
      obtain ⟨r, h, e⟩ := h
      exact ⟨r, mapM_imp im h, e⟩
    · rename_i l
      split at h
      · rename_i xs e
        rw [hs _ _ e (by simp)]
        simp only
        rw [Option.map_eq_some_iff] at h ⊢
        obtain ⟨r, h, e⟩ := h
        exact ⟨r, mapM_imp im h, e⟩
      · rename_i kvs e
        rw [hs _ _ e (by simp)]
        simp only
        split at h
        · rename_i ks vs e1 e2
          rw [mapM_imp im e1, mapM_imp im e2]
          exact h
        · cases h
      · cases h
/-- the data of a good value -/
structure Shows (s : Sto) (n m : Nat) (w : W) (d : PyData) : Prop where
  td : toD n s w = some d
  sh : d.showable = true
  ln : d.shown.length ≤ m
  dp : d.depth ≤ n
theorem all2_shows {s : Sto} {n : Nat} (ih : ∀ m w, GV s n m w → ∃ d, Shows s n m w d) : ∀ {g : List Nat} {ws : List W}, All2 (GV s n) g ws →
    ∃ ds, ws.mapM (toD n s) = some ds ∧ PyData.showableAll ds = true ∧ ((PyData.shownAll ds).map (·.length)).sum ≤ g.sum ∧ PyData.depthAll ds ≤ n ∧ (PyData.shownAll ds).length = ws.length
  | [], [], _ => ⟨[], rfl, rfl, Nat.le_refl _, Nat.zero_le _, rfl⟩
  | a :: g, w :: ws, ⟨h1, h2⟩ => by
    obtain ⟨d, hd⟩ := ih a w h1
    obtain ⟨ds, e1, e2, e3, e4, e5⟩ := all2_shows ih h2
    refine ⟨d :: ds, ?_, ?_, ?_, ?_, ?_⟩
    · rw [List.mapM_cons, hd.td, e1]; rfl
    · simp only [PyData.showableAll, hd.sh, e2, Bool.and_self]
    · simp only [PyData.shownAll, List.map_cons, List.sum_cons]
      have := hd.ln
      omega
    · simp only [PyData.depthAll]
      have := hd.dp
      omega
    · simp only [PyData.shownAll, List.length_cons, e5]
  | [], _ :: _, h => h.elim
  | _ :: _, [], h => h.elim
theorem log_of {i : Int} (h : i.natAbs < 10 ^ 31) : i.natAbs.log2 < 1920 := by
  by_cases h0 : i.natAbs = 0
  · rw [h0]; decide
  · rw [Nat.log2_lt h0]
    exact Nat.lt_trans h (by decide +kernel)
theorem GV.shows {s : Sto} : ∀ {n m : Nat} {w : W}, GV s n m w → ∃ d, Shows s n m w d := by
  intro n
  induction n with
  | zero => intro m w h; exact h.elim
  | succ n ih =>
    intro m w h
    obtain ⟨⟨h0, hm⟩, h⟩ := h
    cases w <;> try exact h.elim
    · exact ⟨.none, rfl, rfl, Nat.le_trans (show (4 : Nat) ≤ 140 by decide) h0, Nat.zero_le _⟩
    · rename_i b
      refine ⟨.bool b, rfl, rfl, Nat.le_trans ?_ h0, Nat.zero_le _⟩
      cases b <;> (simp only [PyData.shown]; decide +kernel)
    · rename_i i
      refine ⟨.int i, rfl, by simp [PyData.showable, log_of h], ?_, Nat.zero_le _⟩
      have e : (toString i).length ≤ 32 := int_text_length_le10 (k := 31) (by decide) h
      have : (PyData.shown (.int i)).length ≤ 32 := by
        show (Str.ofString (toString i)).length ≤ 32
        rw [ofString_length]; exact e
      omega
    · rename_i x
      obtain ⟨h1, h2⟩ := h
      refine ⟨.str x, rfl, rfl, ?_, Nat.zero_le _⟩
      have := PyData.shown_le 8 (by decide) (.str x) (by simp only [PyData.leavesShort, List.all_eq_true, decide_eq_true_eq]; exact h2)
      have e : PyData.weight (.str x) = x.length := rfl
      rw [e] at this
      have : 10 * x.length ≤ 120 := by omega
      omega
    · rename_i ws
      obtain ⟨g, h1, h2⟩ := h
      obtain ⟨ds, e1, e2, e3, e4, e5⟩ := all2_shows (fun m w => ih) h1
      refine ⟨.tuple ds, by simp only [toD, e1, Option.map_some], by simpa only [PyData.showable] using e2, ?_, by simp only [PyData.depth]; omega⟩
      have := tupleText_len_le (PyData.shownAll ds)
      simp only [PyData.shown]
      omega
    · rename_i l
      rcases h with ⟨ws, g, e, h1, h2⟩ | e | ⟨e0, e⟩
      · obtain ⟨ds, e1, e2, e3, e4, e5⟩ := all2_shows (fun m w => ih) h1
        refine ⟨.list ds, by simp only [toD, e, e1, Option.map_some], by simpa only [PyData.showable] using e2, ?_, by simp only [PyData.depth]; omega⟩
        have := listText_len_le (PyData.shownAll ds)
        simp only [PyData.shown]
        omega
      · exact ⟨.dict [], by simp [toD, e], rfl, Nat.le_trans (by simp only [PyData.shown, PyData.shownKv]; decide +kernel) h0, by simp only [PyData.depth, PyData.depthKv]; omega⟩
      · cases n with
        | zero => omega
        | succ n => exact ⟨.dict [(.str "a", .int 1)], by simp [toD, e], by decide +kernel, Nat.le_trans (by decide +kernel) h0, by simp only [PyData.depth, PyData.depthKv]; omega⟩
/-- its text, the same in every bigger store -/
theorem GV.text {s : Sto} {n m : Nat} {w : W} (h : GV s n m w) (hn : n ≤ 60) : ∃ x : Str, ∀ u, Sub s u → blt .repr [w] u = .ok (.str x) u := by
  obtain ⟨d, hd⟩ := h.shows
  refine ⟨d.shown, fun u hu => ?_⟩
  have hm : m ≤ SZ := by cases n with | zero => exact h.elim | succ n => exact h.1.2
  have e : dat u w = some d := toD_grow hu n 60 w d hn hd.td
  have h1 : (d.showable && decide (d.shown.length ≤ SZ) && decide (d.depth ≤ 60)) = true := by
    rw [hd.sh, decide_eq_true (Nat.le_trans hd.ln hm), decide_eq_true (Nat.le_trans hd.dp hn)]; rfl
  simp only [blt, e, h1, if_true]
/-! ### the pot, and what stays beside it -/
def Pot (p : Nat) (s : Sto) : Prop := ∃ a b : Int, 0 ≤ a ∧ 0 ≤ b ∧ b < 2 ^ 31 ∧ s[p]? = some (.lst [.int a, .int b])
def SubP (p : Nat) (s s' : Sto) : Prop := ∀ (l : Nat) (o : SO), l ≠ p → s[l]? = some o → (∀ c fs, o ≠ .ins c fs) → s'[l]? = some o
def mask (p : Nat) (s : Sto) : Sto := s.set p (.ins 0 [])
theorem SubP.rfl' {p : Nat} {s : Sto} : SubP p s s := fun _ _ _ h _ => h
theorem SubP.trans {p : Nat} {s t u : Sto} (a : SubP p s t) (b : SubP p t u) : SubP p s u := fun l o n h i => b l o n (a l o n h i) i
theorem mask_get {p l : Nat} {s : Sto} (h : l ≠ p) : (mask p s)[l]? = s[l]? := by unfold mask; rw [List.getElem?_set_ne (fun e => h e.symm)]
theorem mask_at {p : Nat} {s : Sto} {o : SO} (h : (mask p s)[p]? = some o) : o = .ins 0 [] := by
  unfold mask at h
  rw [List.getElem?_set] at h
  simp at h
  exact h.2.symm
theorem SubP.mask {p : Nat} {s s' : Sto} (h : SubP p s s') : Sub (mask p s) (mask p s') := fun l o e i => by
  by_cases n : l = p
  · subst n; exact absurd (mask_at e) (i _ _)
  · rw [mask_get n] at e ⊢; exact h l o n e i
theorem mask_sub (p : Nat) (s : Sto) : Sub (mask p s) s := fun l o e i => by
  by_cases n : l = p
  · subst n; exact absurd (mask_at e) (i _ _)
  · rw [mask_get n] at e; exact e
theorem SubP.set (p : Nat) (s : Sto) (o : SO) : SubP p s (s.set p o) := fun l o' n h _ => by rw [List.getElem?_set_ne (fun e => n e.symm)]; exact h
theorem SubP.app (p : Nat) (s t : Sto) : SubP p s (s ++ t) := fun l o _ h i => sub_app s t l o h i
theorem Pot.app {p : Nat} {s : Sto} (h : Pot p s) (t : Sto) : Pot p (s ++ t) := by
  obtain ⟨a, b, h1, h2, h3, h4⟩ := h
  exact ⟨a, b, h1, h2, h3, sub_app s t _ _ h4 (by simp)⟩
theorem Pot.lt {p : Nat} {s : Sto} (h : Pot p s) : p < s.length := by
  obtain ⟨a, b, _, _, _, h4⟩ := h
  exact (List.getElem?_eq_some_iff.mp h4).1
theorem set_at {s : Sto} {p : Nat} {o : SO} (h : p < s.length) : (s.set p o)[p]? = some o := by rw [List.getElem?_set_self h]
/-- good beside the pot -/
abbrev GP (p : Nat) (s : Sto) (n m : Nat) (w : W) : Prop := GV (mask p s) n m w
theorem GV.keep {p : Nat} {s s' : Sto} {n m : Nat} {w : W} (h : GP p s n m w) (e : SubP p s s') : GP p s' n m w := h.sub e.mask
theorem GV.un {p : Nat} {s : Sto} {n m : Nat} {w : W} (h : GP p s n m w) : GV s n m w := h.sub (mask_sub p s)
/-- drawn -/
abbrev bTake : List S := [
    (.ite (.cmp .gt (.idx (.var 0) (.cst (.int 0))) (.cst (.int 0))) [(.set (.tp [(.sub (.var 0) (.cst (.int 0))), (.nm 2)]) (.blt .divmod [(.idx (.var 0) (.cst (.int 0))), (.var 1)])), (.rtn (.var 2))] []),
    (.set (.sub (.var 0) (.cst (.int 1))) (.bin .mod (.bin .add (.bin .mul (.idx (.var 0) (.cst (.int 1))) (.cst (.int 48271))) (.cst (.int 30011))) (.cst (.int 2147483587)))),
    (.rtn (.bin .mod (.bin .fdiv (.bin .mod (.bin .mul (.idx (.var 0) (.cst (.int 1))) (.idx (.var 0) (.cst (.int 1)))) (.cst (.int 2147483543))) (.cst (.int 7))) (.var 1)))]
theorem take_ok {ds : List FD} {T : Nat} (hT : ds[T]? = some ⟨2, 3, bTake⟩) {k p : Nat} {s : Sto} (h : Pot p s) (many : Int) (hm : 0 < many) (hb : many.natAbs.log2 < 9000) : ∃ r s', ph ds (k + 1) T [.loc p, .int many] s = .ok (.int r) s' ∧ 0 ≤ r ∧ r < many ∧ Pot p s' ∧ SubP p s s' := by
  have hlt := h.lt
  obtain ⟨a, b, ha', hb0, hb1, e⟩ := h
  rw [call_eq hT rfl]
  have e0 : idxW (.loc p) (.int 0) s = .ok (.int a) s := i_loc _ _ _ _ _ e rfl
  have e1 : idxW (.loc p) (.int 1) s = .ok (.int b) s := i_loc _ _ _ _ _ e rfl
  by_cases hp : 0 < a
  · have hd : decide (0 < a) = true := decide_eq_true hp
    have hs : setW (.loc p) (.int ((0 : Nat) : Int)) (.int (a / many)) s = .ok () (s.set p (.lst [.int (a / many), .int b])) := set_loc e (by simp)
    refine ⟨a % many, s.set p (.lst [.int (a / many), .int b]), ?_, Int.emod_nonneg _ (by omega), Int.emod_lt_of_pos _ hm, ⟨a / many, b, Int.ediv_nonneg ha' (by omega), hb0, hb1, set_at hlt⟩, SubP.set _ _ _⟩
    have ha : asg (ph ds k) (.tp [(.sub (.var 0) (.cst (.int 0))), (.nm 2)]) (.tup [.int (a / many), .int (a % many)]) [some (.loc p), some (.int many), none] s = .ok [some (.loc p), some (.int many), some (.int (a % many))] (s.set p (.lst [.int (a / many), .int b])) := by
      rw [asg]
      simp only [isSeq, asgs, bnd, List.length_cons, List.length_nil, if_true]
      rw [a_sub (ow := .loc p) (iw := .int ((0 : Nat) : Int)) (by simp only [x_cst, x_var, x_tup, x_lst, x_bin, x_neg, x_not, x_cmp, x_cmp2, x_and1, x_and, x_or1, x_or, x_ite, x_idx, x_slc, x_call, x_blt, x_met, x_fld, x_mth, x_mk, y_fset, y_faug, x_isi, x_nil, x_cons, x_c0, x_c1, x_p0, x_p1, y_nil, y_cons, y_set, y_rtn, y_ite, y_exp, decide_true, w_ok, q_nxt, q_rtn, b_rtn, t_bl, r_ret, a_nm, c_lt, c_le, c_gt, c_ge, c_eqi, c_eqs, c_nes, c_eq0, c_ne0, c_in2, z0, z1, z2, z3, z4, z5, z6, z7, z8, c_les, b_list, l_lay, b_lent, i_tup, bind_ok, List.getElem?_cons_zero, List.getElem?_cons_succ, List.map_cons, List.map_nil, List.replicate, Nat.sub_zero, Nat.reduceSub, List.cons_append, List.nil_append, List.append_nil, List.mapM_cons, List.mapM_nil, Option.pure_def, Option.bind_eq_bind, Option.bind_some, List.any_cons, List.any_nil, id, Bool.or_false, Bool.not_true, Bool.not_false, if_true, if_false, Bool.false_eq_true, reduceIte, List.set_cons_zero, List.set_cons_succ]) (by simp only [x_cst, x_var, x_tup, x_lst, x_bin, x_neg, x_not, x_cmp, x_cmp2, x_and1, x_and, x_or1, x_or, x_ite, x_idx, x_slc, x_call, x_blt, x_met, x_fld, x_mth, x_mk, y_fset, y_faug, x_isi, x_nil, x_cons, x_c0, x_c1, x_p0, x_p1, y_nil, y_cons, y_set, y_rtn, y_ite, y_exp, decide_true, w_ok, q_nxt, q_rtn, b_rtn, t_bl, r_ret, a_nm, c_lt, c_le, c_gt, c_ge, c_eqi, c_eqs, c_nes, c_eq0, c_ne0, c_in2, z0, z1, z2, z3, z4, z5, z6, z7, z8, c_les, b_list, l_lay, b_lent, i_tup, bind_ok, List.getElem?_cons_zero, List.getElem?_cons_succ, List.map_cons, List.map_nil, List.replicate, Nat.sub_zero, Nat.reduceSub, List.cons_append, List.nil_append, List.append_nil, List.mapM_cons, List.mapM_nil, Option.pure_def, Option.bind_eq_bind, Option.bind_some, List.any_cons, List.any_nil, id, Bool.or_false, Bool.not_true, Bool.not_false, if_true, if_false, Bool.false_eq_true, reduceIte, List.set_cons_zero, List.set_cons_succ]; rfl) hs]
      simp only [bnd, asgs, x_cst, x_var, x_tup, x_lst, x_bin, x_neg, x_not, x_cmp, x_cmp2, x_and1, x_and, x_or1, x_or, x_ite, x_idx, x_slc, x_call, x_blt, x_met, x_fld, x_mth, x_mk, y_fset, y_faug, x_isi, x_nil, x_cons, x_c0, x_c1, x_p0, x_p1, y_nil, y_cons, y_set, y_rtn, y_ite, y_exp, decide_true, w_ok, q_nxt, q_rtn, b_rtn, t_bl, r_ret, a_nm, c_lt, c_le, c_gt, c_ge, c_eqi, c_eqs, c_nes, c_eq0, c_ne0, c_in2, z0, z1, z2, z3, z4, z5, z6, z7, z8, c_les, b_list, l_lay, b_lent, i_tup, bind_ok, List.getElem?_cons_zero, List.getElem?_cons_succ, List.map_cons, List.map_nil, List.replicate, Nat.sub_zero, Nat.reduceSub, List.cons_append, List.nil_append, List.append_nil, List.mapM_cons, List.mapM_nil, Option.pure_def, Option.bind_eq_bind, Option.bind_some, List.any_cons, List.any_nil, id, Bool.or_false, Bool.not_true, Bool.not_false, if_true, if_false, Bool.false_eq_true, reduceIte, List.set_cons_zero, List.set_cons_succ]
    simp only [bTake, e0, hd, b_divmod _ _ _ ⟨hm, hb⟩, ha, x_cst, x_var, x_tup, x_lst, x_bin, x_neg, x_not, x_cmp, x_cmp2, x_and1, x_and, x_or1, x_or, x_ite, x_idx, x_slc, x_call, x_blt, x_met, x_fld, x_mth, x_mk, y_fset, y_faug, x_isi, x_nil, x_cons, x_c0, x_c1, x_p0, x_p1, y_nil, y_cons, y_set, y_rtn, y_ite, y_exp, decide_true, w_ok, q_nxt, q_rtn, b_rtn, t_bl, r_ret, a_nm, c_lt, c_le, c_gt, c_ge, c_eqi, c_eqs, c_nes, c_eq0, c_ne0, c_in2, z0, z1, z2, z3, z4, z5, z6, z7, z8, c_les, b_list, l_lay, b_lent, i_tup, bind_ok, List.getElem?_cons_zero, List.getElem?_cons_succ, List.map_cons, List.map_nil, List.replicate, Nat.sub_zero, Nat.reduceSub, List.cons_append, List.nil_append, List.append_nil, List.mapM_cons, List.mapM_nil, Option.pure_def, Option.bind_eq_bind, Option.bind_some, List.any_cons, List.any_nil, id, Bool.or_false, Bool.not_true, Bool.not_false, if_true, if_false, Bool.false_eq_true, reduceIte, List.set_cons_zero, List.set_cons_succ]
  · have hd : decide (0 < a) = false := decide_eq_false hp
    have m1 : (b * 48271 + 30011) % 2147483587 < 2147483587 := Int.emod_lt_of_pos _ (by decide)
    have m0 : 0 ≤ (b * 48271 + 30011) % 2147483587 := Int.emod_nonneg _ (by decide)
    generalize hc : (b * 48271 + 30011) % 2147483587 = c at m0 m1
    have hs : setW (.loc p) (.int ((1 : Nat) : Int)) (.int c) s = .ok () (s.set p (.lst [.int a, .int c])) := set_loc e (by simp)
    have e2 : idxW (.loc p) (.int 1) (s.set p (.lst [.int a, .int c])) = .ok (.int c) (s.set p (.lst [.int a, .int c])) := i_loc _ _ _ _ _ (set_at hlt) rfl
    have l1 : b.natAbs.log2 + (48271 : Int).natAbs.log2 < 1000000 := by
      have e31 : (2 : Int) ^ 31 = ((2 ^ 31 : Nat) : Int) := by decide
      have : b.natAbs.log2 ≤ 31 := log_lt (by omega)
      have : (48271 : Int).natAbs.log2 ≤ 16 := log_lt (by decide)
      omega
    have l2 : c.natAbs.log2 + c.natAbs.log2 < 1000000 := by
      have e31 : (2 : Nat) ^ 31 = 2147483648 := by decide
      have : c.natAbs.log2 ≤ 31 := log_lt (by omega)
      omega
    have ha : asg (ph ds k) (.sub (.var 0) (.cst (.int 1))) (.int c) [some (.loc p), some (.int many), none] s = .ok [some (.loc p), some (.int many), none] (s.set p (.lst [.int a, .int c])) :=
      a_sub (ow := .loc p) (iw := .int ((1 : Nat) : Int)) (by simp only [x_cst, x_var, x_tup, x_lst, x_bin, x_neg, x_not, x_cmp, x_cmp2, x_and1, x_and, x_or1, x_or, x_ite, x_idx, x_slc, x_call, x_blt, x_met, x_fld, x_mth, x_mk, y_fset, y_faug, x_isi, x_nil, x_cons, x_c0, x_c1, x_p0, x_p1, y_nil, y_cons, y_set, y_rtn, y_ite, y_exp, decide_true, w_ok, q_nxt, q_rtn, b_rtn, t_bl, r_ret, a_nm, c_lt, c_le, c_gt, c_ge, c_eqi, c_eqs, c_nes, c_eq0, c_ne0, c_in2, z0, z1, z2, z3, z4, z5, z6, z7, z8, c_les, b_list, l_lay, b_lent, i_tup, bind_ok, List.getElem?_cons_zero, List.getElem?_cons_succ, List.map_cons, List.map_nil, List.replicate, Nat.sub_zero, Nat.reduceSub, List.cons_append, List.nil_append, List.append_nil, List.mapM_cons, List.mapM_nil, Option.pure_def, Option.bind_eq_bind, Option.bind_some, List.any_cons, List.any_nil, id, Bool.or_false, Bool.not_true, Bool.not_false, if_true, if_false, Bool.false_eq_true, reduceIte, List.set_cons_zero, List.set_cons_succ]) (by simp only [x_cst, x_var, x_tup, x_lst, x_bin, x_neg, x_not, x_cmp, x_cmp2, x_and1, x_and, x_or1, x_or, x_ite, x_idx, x_slc, x_call, x_blt, x_met, x_fld, x_mth, x_mk, y_fset, y_faug, x_isi, x_nil, x_cons, x_c0, x_c1, x_p0, x_p1, y_nil, y_cons, y_set, y_rtn, y_ite, y_exp, decide_true, w_ok, q_nxt, q_rtn, b_rtn, t_bl, r_ret, a_nm, c_lt, c_le, c_gt, c_ge, c_eqi, c_eqs, c_nes, c_eq0, c_ne0, c_in2, z0, z1, z2, z3, z4, z5, z6, z7, z8, c_les, b_list, l_lay, b_lent, i_tup, bind_ok, List.getElem?_cons_zero, List.getElem?_cons_succ, List.map_cons, List.map_nil, List.replicate, Nat.sub_zero, Nat.reduceSub, List.cons_append, List.nil_append, List.append_nil, List.mapM_cons, List.mapM_nil, Option.pure_def, Option.bind_eq_bind, Option.bind_some, List.any_cons, List.any_nil, id, Bool.or_false, Bool.not_true, Bool.not_false, if_true, if_false, Bool.false_eq_true, reduceIte, List.set_cons_zero, List.set_cons_succ]; rfl) hs
    refine ⟨c * c % 2147483543 / 7 % many, s.set p (.lst [.int a, .int c]), ?_, Int.emod_nonneg _ (by omega), Int.emod_lt_of_pos _ hm, ⟨a, c, ha', m0, by omega, set_at hlt⟩, SubP.set _ _ _⟩
    simp only [bTake, e0, e1, hd, o_mul _ _ _ l1, o_add, o_mod _ _ _ (show (0 : Int) < 2147483587 by decide), hc, ha, e2, o_mul _ _ _ l2, o_mod _ _ _ (show (0 : Int) < 2147483543 by decide), o_fdiv _ _ _ (show (0 : Int) < 7 ∧ (7 : Int).natAbs.log2 < 9000 by decide), o_mod _ _ _ hm, x_cst, x_var, x_tup, x_lst, x_bin, x_neg, x_not, x_cmp, x_cmp2, x_and1, x_and, x_or1, x_or, x_ite, x_idx, x_slc, x_call, x_blt, x_met, x_fld, x_mth, x_mk, y_fset, y_faug, x_isi, x_nil, x_cons, x_c0, x_c1, x_p0, x_p1, y_nil, y_cons, y_set, y_rtn, y_ite, y_exp, decide_true, w_ok, q_nxt, q_rtn, b_rtn, t_bl, r_ret, a_nm, c_lt, c_le, c_gt, c_ge, c_eqi, c_eqs, c_nes, c_eq0, c_ne0, c_in2, z0, z1, z2, z3, z4, z5, z6, z7, z8, c_les, b_list, l_lay, b_lent, i_tup, bind_ok, List.getElem?_cons_zero, List.getElem?_cons_succ, List.map_cons, List.map_nil, List.replicate, Nat.sub_zero, Nat.reduceSub, List.cons_append, List.nil_append, List.append_nil, List.mapM_cons, List.mapM_nil, Option.pure_def, Option.bind_eq_bind, Option.bind_some, List.any_cons, List.any_nil, id, Bool.or_false, Bool.not_true, Bool.not_false, if_true, if_false, Bool.false_eq_true, reduceIte, List.set_cons_zero, List.set_cons_succ]
/-- what a builder does: the pot goes on, the rest stays, the result is as wanted -/
def Mk (p : Nat) (s : Sto) (r : Res W) (R : Sto → W → Prop) : Prop := ∃ w s', r = .ok w s' ∧ Pot p s' ∧ SubP p s s' ∧ R s' w
theorem small_log {i : Int} (h : i.natAbs < 2 ^ 120) : i.natAbs.log2 < 9000 := by have := log_lt h; omega
abbrev bAmong (T : Nat) : List S := [(.rtn (.idx (.var 1) (.call T [(.var 0), (.blt .len [(.var 1)])] [] [0, 1])))]
theorem among_ok {ds : List FD} {T A : Nat} (hT : ds[T]? = some ⟨2, 3, bTake⟩) (hA : ds[A]? = some ⟨2, 2, bAmong T⟩) {k p q : Nat} {s : Sto} {xs : List W} (h : Pot p s) (hq : s[q]? = some (.lst xs)) (hne : q ≠ p) (h0 : 0 < xs.length) (h1 : xs.length < 100) : ∃ r s', ph ds (k + 2) A [.loc p, .loc q] s = .ok r s' ∧ r ∈ xs ∧ Pot p s' ∧ SubP p s s' := by
  rw [call_eq hA rfl]
  obtain ⟨r, s', e, r0, r1, hp, hs⟩ := take_ok hT (k := k) h (xs.length : Int) (by omega) (small_log (by omega))
  have hq' : s'[q]? = some (.lst xs) := hs q _ hne hq (by simp)
  obtain ⟨i, rfl⟩ : ∃ i : Nat, r = i := ⟨r.toNat, by omega⟩
  have hr : i < xs.length := by omega
  have hi : idxW (.loc q) (.int (i : Int)) s' = .ok xs[i] s' := i_loc _ _ _ _ _ hq' (by rw [at_nat, List.getElem?_eq_getElem hr])
  refine ⟨xs[i], s', ?_, List.getElem_mem _, hp, hs⟩
  simp only [bAmong, b_lenl _ _ _ hq, e, hi, x_cst, x_var, x_tup, x_lst, x_bin, x_neg, x_not, x_cmp, x_cmp2, x_and1, x_and, x_or1, x_or, x_ite, x_idx, x_slc, x_call, x_blt, x_met, x_fld, x_mth, x_mk, y_fset, y_faug, x_isi, x_nil, x_cons, x_c0, x_c1, x_p0, x_p1, y_nil, y_cons, y_set, y_rtn, y_ite, y_exp, decide_true, w_ok, q_nxt, q_rtn, b_rtn, t_bl, r_ret, a_nm, c_lt, c_le, c_gt, c_ge, c_eqi, c_eqs, c_nes, c_eq0, c_ne0, c_in2, z0, z1, z2, z3, z4, z5, z6, z7, z8, c_les, b_list, l_lay, b_lent, i_tup, bind_ok, List.getElem?_cons_zero, List.getElem?_cons_succ, List.map_cons, List.map_nil, List.replicate, Nat.sub_zero, Nat.reduceSub, List.cons_append, List.nil_append, List.append_nil, List.mapM_cons, List.mapM_nil, Option.pure_def, Option.bind_eq_bind, Option.bind_some, List.any_cons, List.any_nil, id, Bool.or_false, Bool.not_true, Bool.not_false, if_true, if_false, Bool.false_eq_true, reduceIte, List.set_cons_zero, List.set_cons_succ]
theorem gv_str {s : Sto} {n : Nat} {x : Str} (h : x.length ≤ 12) (hc : ∀ c ∈ x.cps.toList, c < 16 ^ 8) : GV s (n + 1) 140 (.str x) := ⟨⟨Nat.le_refl _, by decide⟩, h, hc⟩
theorem all2_mono {α β : Type} {R : α → β → Prop} {as : List α} {bs : List β} (h : All2 R as bs) : as.length = bs.length := by
  induction as generalizing bs with
  | nil => cases bs with | nil => rfl | cons => exact h.elim
  | cons a as ih => cases bs with | nil => exact h.elim | cons b bs => simp [ih h.2]
theorem GV.up {s : Sto} : ∀ {n n' m m' : Nat} {w : W}, GV s n m w → n ≤ n' → m ≤ m' → m' ≤ SZ → GV s n' m' w := by
  intro n
  induction n with
  | zero => intro n' m m' w h; exact h.elim
  | succ n ih =>
    intro n' m m' w h hn hm hz
    cases n' with
    | zero => omega
    | succ n' =>
    obtain ⟨⟨h0, h1⟩, h⟩ := h
    refine ⟨⟨by omega, hz⟩, ?_⟩
    have up : ∀ {a : Nat} {w : W}, GV s n a w → GV s n' a w := fun {a w} h => ih h (by omega) (Nat.le_refl _) (by cases n with | zero => exact h.elim | succ n => exact h.1.2)
    cases w <;> try exact h
    · obtain ⟨g, g1, g2⟩ := h
      exact ⟨g, g1.imp fun a b => up, by omega⟩
    · rcases h with ⟨ws, g, e, g1, g2⟩ | e | ⟨e0, e⟩
      · exact .inl ⟨ws, g, e, g1.imp fun a b => up, by omega⟩
      · exact .inr (.inl e)
      · exact .inr (.inr ⟨by omega, e⟩)
theorem all2_same {s : Sto} {n m : Nat} : ∀ {ws : List W}, (∀ w ∈ ws, GV s n m w) → All2 (GV s n) (List.replicate ws.length m) ws
  | [], _ => trivial
  | w :: ws, h => ⟨h w List.mem_cons_self, all2_same fun w hw => h w (List.mem_cons_of_mem _ hw)⟩
theorem sum_rep (n m : Nat) : (List.replicate n m).sum = n * m := by
  induction n with
  | zero => simp
  | succ n ih => rw [List.replicate_succ, List.sum_cons, ih, Nat.succ_mul]; omega
theorem tup_same {s : Sto} {n m m' : Nat} {ws : List W} (h : ∀ w ∈ ws, GV s n m w) (hm : ws.length * m + 2 * ws.length + 140 ≤ m') (hz : m' ≤ SZ) : GV s (n + 1) m' (.tup ws) :=
  ⟨⟨by omega, hz⟩, _, all2_same h, by rw [sum_rep]; exact hm⟩
abbrev okS (x : Str) : Prop := x.length ≤ 12 ∧ ∀ c ∈ x.cps.toList, c < 16 ^ 8
theorem lit_ok (x : Str) (h : (decide (x.length ≤ 12) && x.cps.toList.all fun c => decide (c < 16 ^ 8)) = true) : okS x := by
  rw [Bool.and_eq_true, decide_eq_true_eq, List.all_eq_true] at h
  exact ⟨h.1, fun c hc => of_decide_eq_true (h.2 c hc)⟩
theorem join_ok : ∀ (ys : List W), (∀ y ∈ ys, ∃ c, y = .str ⟨#[c]⟩ ∧ c < 16 ^ 8) → ∃ zs : List Str, strsOf ys = some zs ∧ zs.length = ys.length ∧ (zs.map fun y => y.length).sum = ys.length ∧ (Str.join "" zs).length = ys.length ∧ ∀ c ∈ (Str.join "" zs).cps.toList, c < 16 ^ 8
  | [], _ => ⟨[], rfl, rfl, rfl, rfl, by
    intro c hc
    have e : (Str.join "" []).cps.toList = [] := by decide +kernel
    rw [e] at hc; cases hc⟩
  | [y], h => by
    obtain ⟨c, rfl, hc⟩ := h y List.mem_cons_self
    refine ⟨[⟨#[c]⟩], rfl, rfl, rfl, rfl, fun d hd => ?_⟩
    simp [Str.join] at hd
    omega
  | y :: y' :: ys, h => by
    obtain ⟨c, rfl, hc⟩ := h y List.mem_cons_self
    obtain ⟨zs, e1, e2, e3, e4, e5⟩ := join_ok (y' :: ys) fun w hw => h w (List.mem_cons_of_mem _ hw)
    match zs, e1, e2, e3, e4, e5 with
    | z :: zs, e1, e2, e3, e4, e5 =>
      have ej : Str.join "" (⟨#[c]⟩ :: z :: zs) = ⟨#[c]⟩ ++ "" ++ Str.join "" (z :: zs) := rfl
      have el : (("" : Str)).length = 0 := rfl
      have ec : (⟨#[c]⟩ : Str).length = 1 := rfl
      refine ⟨⟨#[c]⟩ :: z :: zs, ?_, by simp [e2], ?_, ?_, ?_⟩
      · show (strsOf (y' :: ys)).map (⟨#[c]⟩ :: ·) = _
        rw [e1]; rfl
      · rw [List.map_cons, List.sum_cons, e3, ec]; simp only [List.length_cons]; omega
      · rw [ej, strLen_append, strLen_append, e4, el, ec]; simp only [List.length_cons]; omega
      · intro d hd
        rw [ej] at hd
        have this : d ∈ ((⟨#[c]⟩ : Str).cps ++ ("" : Str).cps ++ (Str.join "" (z :: zs)).cps).toList := hd
        rw [Array.toList_append, Array.toList_append] at this
        rw [List.mem_append, List.mem_append] at this
        rcases this with (h | h) | h
        · simp at h; omega
        · have e0 : ("" : Str).cps.toList = [] := by decide +kernel
          rw [e0] at h; cases h
        · exact e5 d h
theorem i_rng (j : Int) (n : Nat) (s : Sto) (e : j = (n : Int)) (h : n ≤ SZ) : iter .rng1 [.int j] s = .ok ((List.range n).map fun k : Nat => W.int (k : Int), []) s := by subst e; exact i_rng1 n s h
theorem get_mem {s : Sto} {q : Nat} {xs : List W} (hq : s[q]? = some (.lst xs)) (i : Nat) (hi : i < xs.length) : ∃ x ∈ xs, idxW (.loc q) (.int (i : Int)) s = .ok x s :=
  ⟨xs[i], List.getElem_mem _, i_loc _ _ _ _ _ hq (by rw [at_nat, List.getElem?_eq_getElem hi])⟩
theorem take_nat {ds : List FD} {T : Nat} (hT : ds[T]? = some ⟨2, 3, bTake⟩) {k p : Nat} {s : Sto} (h : Pot p s) (many : Int) (hm : 0 < many) (hb : many.natAbs.log2 < 9000) : ∃ (r : Nat) (s' : Sto), ph ds (k + 1) T [.loc p, .int many] s = .ok (.int (r : Int)) s' ∧ (r : Int) < many ∧ Pot p s' ∧ SubP p s s' := by
  obtain ⟨r, s', e, r0, r1, hp, hs⟩ := take_ok hT (k := k) h many hm hb
  obtain ⟨i, rfl⟩ : ∃ i : Nat, r = i := ⟨r.toNat, by omega⟩
  exact ⟨i, s', e, r1, hp, hs⟩
theorem dec0 (r : Nat) : decide ((r : Int) = 0) = decide (r = 0) := by rw [Bool.eq_iff_iff]; simp
theorem letter_at (i : Nat) (h : i < 26) (s : Sto) : ∃ c, c < 16 ^ 8 ∧ idxW (.str "abcdefghijklmnopqrstuvwxyz") (.int (i : Int)) s = .ok (.str ⟨#[c]⟩) s := by
  have e : ∀ i : Fin 26, (Str.ofString "abcdefghijklmnopqrstuvwxyz").cps[i.1]? = some (97 + i.1) := by decide +kernel
  refine ⟨97 + i, by omega, ?_⟩
  simp only [idxW, Int.toNat_natCast, e ⟨i, h⟩]
  rw [if_pos (by omega)]
theorem elt13 {φ : Nat → List W → M W} {p T : Nat} {L w c r : W} {u u' : Sto} (e : φ T [.loc p, .int 26] u = .ok r u') (ec : idxW L r u' = .ok c u') : den φ (.idx (.var 1) (.call T [(.var 0), (.cst (.int 26))] [] [0, 1])) [some (.loc p), some L, some w] u = .ok c u' := by
  simp only [e, ec, x_cst, x_var, x_tup, x_lst, x_bin, x_neg, x_not, x_cmp, x_cmp2, x_and1, x_and, x_or1, x_or, x_ite, x_idx, x_slc, x_call, x_blt, x_met, x_fld, x_mth, x_mk, y_fset, y_faug, x_isi, x_nil, x_cons, x_c0, x_c1, x_p0, x_p1, y_nil, y_cons, y_set, y_rtn, y_ite, y_exp, decide_true, w_ok, q_nxt, q_rtn, b_rtn, t_bl, r_ret, a_nm, c_lt, c_le, c_gt, c_ge, c_eqi, c_eqs, c_nes, c_eq0, c_ne0, c_in2, z0, z1, z2, z3, z4, z5, z6, z7, z8, c_les, b_list, l_lay, b_lent, i_tup, bind_ok, List.getElem?_cons_zero, List.getElem?_cons_succ, List.map_cons, List.map_nil, List.replicate, Nat.sub_zero, Nat.reduceSub, List.cons_append, List.nil_append, List.append_nil, List.mapM_cons, List.mapM_nil, Option.pure_def, Option.bind_eq_bind, Option.bind_some, List.any_cons, List.any_nil, id, Bool.or_false, Bool.not_true, Bool.not_false, if_true, if_false, Bool.false_eq_true, reduceIte, List.set_cons_zero, List.set_cons_succ]
theorem gv_int {s : Sto} {n : Nat} {i : Int} (h : i.natAbs < 10 ^ 31) : GV s (n + 1) 140 (.int i) := ⟨⟨Nat.le_refl _, by decide⟩, h⟩
theorem gv_s {s : Sto} {n : Nat} {x : Str} (h : okS x) : GV s (n + 1) 140 (.str x) := gv_str h.1 h.2
theorem gv2 {u : Sto} {n a b m : Nat} {x y : W} (h1 : GV u n a x) (h2 : GV u n b y) (hm : a + b + 4 + 140 ≤ m) (hz : m ≤ SZ) : GV u (n + 1) m (.tup [x, y]) :=
  ⟨⟨by omega, hz⟩, [a, b], ⟨h1, h2, trivial⟩, by simp only [List.sum_cons, List.sum_nil, List.length_cons, List.length_nil]; omega⟩
theorem gv3 {u : Sto} {n a b c m : Nat} {x y z : W} (h1 : GV u n a x) (h2 : GV u n b y) (h3 : GV u n c z) (hm : a + b + c + 6 + 140 ≤ m) (hz : m ≤ SZ) : GV u (n + 1) m (.tup [x, y, z]) :=
  ⟨⟨by omega, hz⟩, [a, b, c], ⟨h1, h2, h3, trivial⟩, by simp only [List.sum_cons, List.sum_nil, List.length_cons, List.length_nil]; omega⟩
theorem z18 {α : Type} (a0 a1 a2 a3 a4 a5 a6 a7 a8 a9 a10 a11 a12 a13 a14 a15 a16 a17 : W) (x y : α) : (if ([a0, a1, a2, a3, a4, a5, a6, a7, a8, a9, a10, a11, a12, a13, a14, a15, a16, a17] : List W).length ≤ SZ then x else y) = x := if_pos (by simp [SZ])
theorem d_0 (s : Sto) : dctOf [] s = .ok (.loc s.length) (s ++ [SO.dct []]) := rfl
theorem d_1 (s : Sto) : dctOf [.str "a", .int 1] s = .ok (.loc s.length) (s ++ [SO.dct [(.str "a", .int 1)]]) := by
  simp [dctOf, pairUp, isKey, lay]
theorem add_l {s : Sto} {a b : Nat} {x y : List W} (h1 : s[a]? = some (.lst x)) (h2 : s[b]? = some (.lst y)) (h : x.length + y.length ≤ SZ) : binop .add (.loc a) (.loc b) s = .ok (.loc s.length) (s ++ [SO.lst (x ++ y)]) := by
  simp only [binop, h1, h2, if_pos h, lay]
theorem ok_l (x : Str) (h : (decide (x.length ≤ 12) && x.cps.toList.all fun c => decide (c < 16 ^ 8)) = true) (u : Sto) : GV u 3 1000 (.str x) := (gv_s (n := 0) (lit_ok x h)).up (by omega) (by omega) (by decide)
theorem ok_i (i : Int) (h : i.natAbs < 10 ^ 31) (u : Sto) : GV u 3 1000 (.int i) := (gv_int (n := 0) h).up (by omega) (by omega) (by decide)
theorem b_lenf (ws : List W) (s : Sto) : blt .len [.frl ws] s = .ok (.int ws.length) s := by simp only [blt, lenW]
abbrev bPot : List S := [
    (.set (.nm 2) (.cst (.int 0))),
    (.ite (.cmp .lt (.var 1) (.blt .len [(.var 0)])) [(.set (.nm 2) (.blt .abs [(.idx (.var 0) (.var 1))]))] []),
    (.rtn (.lst [(.blt .max [(.cst (.int 0)), (.bin .sub (.var 2) (.bin .pow (.cst (.int 10)) (.cst (.int 18))))]), (.bin .add (.bin .mod (.bin .pow (.bin .add (.bin .add (.bin .mod (.var 2) (.cst (.int 2147483563))) (.bin .mul (.cst (.int 307)) (.var 1))) (.cst (.int 5))) (.cst (.int 2))) (.cst (.int 2147483549))) (.cst (.int 1)))]))]
theorem pot_ok {ds : List FD} {P : Nat} (hP : ds[P]? = some ⟨2, 3, bPot⟩) {k : Nat} {s : Sto} {xs : List W} (hx : ∀ x ∈ xs, ∃ i : Int, x = .int i) (j : Nat) (hj : j < 16) : ∃ a b : Int, 0 ≤ a ∧ 0 ≤ b ∧ b < 2 ^ 31 ∧ ph ds (k + 1) P [.frl xs, .int (j : Int)] s = .ok (.loc s.length) (s ++ [SO.lst [.int a, .int b]]) := by
  rw [call_eq hP rfl]
  have ep : ∀ s, binop .pow (.int 10) (.int 18) s = .ok (.int (10 ^ 18)) s := fun s => o_pow s 10 18 (by decide)
  have tail : ∀ c : Int, 0 ≤ c → ∃ a b : Int, 0 ≤ a ∧ 0 ≤ b ∧ b < 2 ^ 31 ∧ ∀ x : Option W, exec (ph ds k) NN ψ0 (bPot[2]) [some (.frl xs), some (.int (j : Int)), some (.int c)] s = .ok (.rtn (.loc s.length)) [some (.frl xs), some (.int (j : Int)), some (.int c)] (s ++ [SO.lst [.int a, .int b]]) := by
    intro c hc
    have m0 : 0 ≤ c % 2147483563 := Int.emod_nonneg _ (by decide)
    have m1 : c % 2147483563 < 2147483563 := Int.emod_lt_of_pos _ (by decide)
    generalize hd : c % 2147483563 = d at m0 m1
    have hm : (307 : Int).natAbs.log2 + (j : Int).natAbs.log2 < 1000000 := by
      have : (307 : Int).natAbs.log2 ≤ 9 := log_lt (by decide)
      have : (j : Int).natAbs.log2 ≤ 4 := log_lt (by omega)
      omega
    have hp : ∀ s, binop .pow (.int (d + 307 * (j : Int) + 5)) (.int 2) s = .ok (.int ((d + 307 * (j : Int) + 5) ^ 2)) s := fun s => o_pow s (d + 307 * (j : Int) + 5) 2 ⟨by decide, by
      have : (2 : Nat) ^ 64 = 18446744073709551616 := by decide
      omega⟩
    have q0 : 0 ≤ (d + 307 * (j : Int) + 5) ^ 2 % 2147483549 := Int.emod_nonneg _ (by decide)
    have q1 : (d + 307 * (j : Int) + 5) ^ 2 % 2147483549 < 2147483549 := Int.emod_lt_of_pos _ (by decide)
    have c31 : (2 : Int) ^ 31 = 2147483648 := by decide
    refine ⟨if c - 10 ^ 18 > 0 then c - 10 ^ 18 else 0, (d + 307 * (j : Int) + 5) ^ 2 % 2147483549 + 1, by split <;> omega, by omega, by omega, fun x => ?_⟩
    simp only [bPot, List.getElem_cons_succ, List.getElem_cons_zero, ep, o_sub, b_max, o_mod _ _ _ (show (0 : Int) < 2147483563 by decide), hd, o_mul _ _ _ hm, o_add, hp, o_mod _ _ _ (show (0 : Int) < 2147483549 by decide), x_cst, x_var, x_tup, x_lst, x_bin, x_neg, x_not, x_cmp, x_cmp2, x_and1, x_and, x_or1, x_or, x_ite, x_idx, x_slc, x_call, x_blt, x_met, x_fld, x_mth, x_mk, y_fset, y_faug, x_isi, x_nil, x_cons, x_c0, x_c1, x_p0, x_p1, y_nil, y_cons, y_set, y_rtn, y_ite, y_exp, decide_true, w_ok, q_nxt, q_rtn, b_rtn, t_bl, r_ret, a_nm, c_lt, c_le, c_gt, c_ge, c_eqi, c_eqs, c_nes, c_eq0, c_ne0, c_in2, z0, z1, z2, z3, z4, z5, z6, z7, z8, c_les, b_list, l_lay, b_lent, i_tup, bind_ok, List.getElem?_cons_zero, List.getElem?_cons_succ, List.map_cons, List.map_nil, List.replicate, Nat.sub_zero, Nat.reduceSub, List.cons_append, List.nil_append, List.append_nil, List.mapM_cons, List.mapM_nil, Option.pure_def, Option.bind_eq_bind, Option.bind_some, List.any_cons, List.any_nil, id, Bool.or_false, Bool.not_true, Bool.not_false, if_true, if_false, Bool.false_eq_true, reduceIte, List.set_cons_zero, List.set_cons_succ]
  have e10 : bPot = [bPot[0], bPot[1], bPot[2]] := rfl
  have s0 : ∀ c, exec (ph ds k) NN ψ0 (bPot[0]) [some (.frl xs), some (.int (j : Int)), c] s = .ok .nxt [some (.frl xs), some (.int (j : Int)), some (.int 0)] s := fun c => by simp only [bPot, List.getElem_cons_zero, x_cst, x_var, x_tup, x_lst, x_bin, x_neg, x_not, x_cmp, x_cmp2, x_and1, x_and, x_or1, x_or, x_ite, x_idx, x_slc, x_call, x_blt, x_met, x_fld, x_mth, x_mk, y_fset, y_faug, x_isi, x_nil, x_cons, x_c0, x_c1, x_p0, x_p1, y_nil, y_cons, y_set, y_rtn, y_ite, y_exp, decide_true, w_ok, q_nxt, q_rtn, b_rtn, t_bl, r_ret, a_nm, c_lt, c_le, c_gt, c_ge, c_eqi, c_eqs, c_nes, c_eq0, c_ne0, c_in2, z0, z1, z2, z3, z4, z5, z6, z7, z8, c_les, b_list, l_lay, b_lent, i_tup, bind_ok, List.getElem?_cons_zero, List.getElem?_cons_succ, List.map_cons, List.map_nil, List.replicate, Nat.sub_zero, Nat.reduceSub, List.cons_append, List.nil_append, List.append_nil, List.mapM_cons, List.mapM_nil, Option.pure_def, Option.bind_eq_bind, Option.bind_some, List.any_cons, List.any_nil, id, Bool.or_false, Bool.not_true, Bool.not_false, if_true, if_false, Bool.false_eq_true, reduceIte, List.set_cons_zero, List.set_cons_succ]
  have s1 : ∃ c : Int, 0 ≤ c ∧ exec (ph ds k) NN ψ0 (bPot[1]) [some (.frl xs), some (.int (j : Int)), some (.int 0)] s = .ok .nxt [some (.frl xs), some (.int (j : Int)), some (.int c)] s := by
    by_cases h : j < xs.length
    · obtain ⟨v, hv⟩ := hx xs[j] (List.getElem_mem _)
      have e1 : idxW (.frl xs) (.int (j : Int)) s = .ok (.int v) s := by
        show (match L2.atI xs (j : Int) with | some w => Res.ok w s | none => .stuck) = _
        rw [at_nat, List.getElem?_eq_getElem h, hv]
      have d1 : decide ((j : Int) < (xs.length : Int)) = true := decide_eq_true (by omega)
      refine ⟨if v < 0 then -v else v, by split <;> omega, ?_⟩
      simp only [bPot, List.getElem_cons_succ, List.getElem_cons_zero, b_lenf, d1, e1, b_abs, x_cst, x_var, x_tup, x_lst, x_bin, x_neg, x_not, x_cmp, x_cmp2, x_and1, x_and, x_or1, x_or, x_ite, x_idx, x_slc, x_call, x_blt, x_met, x_fld, x_mth, x_mk, y_fset, y_faug, x_isi, x_nil, x_cons, x_c0, x_c1, x_p0, x_p1, y_nil, y_cons, y_set, y_rtn, y_ite, y_exp, decide_true, w_ok, q_nxt, q_rtn, b_rtn, t_bl, r_ret, a_nm, c_lt, c_le, c_gt, c_ge, c_eqi, c_eqs, c_nes, c_eq0, c_ne0, c_in2, z0, z1, z2, z3, z4, z5, z6, z7, z8, c_les, b_list, l_lay, b_lent, i_tup, bind_ok, List.getElem?_cons_zero, List.getElem?_cons_succ, List.map_cons, List.map_nil, List.replicate, Nat.sub_zero, Nat.reduceSub, List.cons_append, List.nil_append, List.append_nil, List.mapM_cons, List.mapM_nil, Option.pure_def, Option.bind_eq_bind, Option.bind_some, List.any_cons, List.any_nil, id, Bool.or_false, Bool.not_true, Bool.not_false, if_true, if_false, Bool.false_eq_true, reduceIte, List.set_cons_zero, List.set_cons_succ]
    · have d1 : decide ((j : Int) < (xs.length : Int)) = false := decide_eq_false (by omega)
      refine ⟨0, by omega, ?_⟩
      simp only [bPot, List.getElem_cons_succ, List.getElem_cons_zero, b_lenf, d1, x_cst, x_var, x_tup, x_lst, x_bin, x_neg, x_not, x_cmp, x_cmp2, x_and1, x_and, x_or1, x_or, x_ite, x_idx, x_slc, x_call, x_blt, x_met, x_fld, x_mth, x_mk, y_fset, y_faug, x_isi, x_nil, x_cons, x_c0, x_c1, x_p0, x_p1, y_nil, y_cons, y_set, y_rtn, y_ite, y_exp, decide_true, w_ok, q_nxt, q_rtn, b_rtn, t_bl, r_ret, a_nm, c_lt, c_le, c_gt, c_ge, c_eqi, c_eqs, c_nes, c_eq0, c_ne0, c_in2, z0, z1, z2, z3, z4, z5, z6, z7, z8, c_les, b_list, l_lay, b_lent, i_tup, bind_ok, List.getElem?_cons_zero, List.getElem?_cons_succ, List.map_cons, List.map_nil, List.replicate, Nat.sub_zero, Nat.reduceSub, List.cons_append, List.nil_append, List.append_nil, List.mapM_cons, List.mapM_nil, Option.pure_def, Option.bind_eq_bind, Option.bind_some, List.any_cons, List.any_nil, id, Bool.or_false, Bool.not_true, Bool.not_false, if_true, if_false, Bool.false_eq_true, reduceIte, List.set_cons_zero, List.set_cons_succ]
  obtain ⟨c, hc, s1⟩ := s1
  obtain ⟨a, b, h1, h2, h3, s2⟩ := tail c hc
  refine ⟨a, b, h1, h2, h3, ?_⟩
  show bodyRes (execs (ph ds k) NN ψ0 bPot [some (.frl xs), some (.int (j : Int)), none] s) = _
  rw [e10]
  simp only [y_cons, s0, s1, s2 none, x_cst, x_var, x_tup, x_lst, x_bin, x_neg, x_not, x_cmp, x_cmp2, x_and1, x_and, x_or1, x_or, x_ite, x_idx, x_slc, x_call, x_blt, x_met, x_fld, x_mth, x_mk, y_fset, y_faug, x_isi, x_nil, x_cons, x_c0, x_c1, x_p0, x_p1, y_nil, y_cons, y_set, y_rtn, y_ite, y_exp, decide_true, w_ok, q_nxt, q_rtn, b_rtn, t_bl, r_ret, a_nm, c_lt, c_le, c_gt, c_ge, c_eqi, c_eqs, c_nes, c_eq0, c_ne0, c_in2, z0, z1, z2, z3, z4, z5, z6, z7, z8, c_les, b_list, l_lay, b_lent, i_tup, bind_ok, List.getElem?_cons_zero, List.getElem?_cons_succ, List.map_cons, List.map_nil, List.replicate, Nat.sub_zero, Nat.reduceSub, List.cons_append, List.nil_append, List.append_nil, List.mapM_cons, List.mapM_nil, Option.pure_def, Option.bind_eq_bind, Option.bind_some, List.any_cons, List.any_nil, id, Bool.or_false, Bool.not_true, Bool.not_false, if_true, if_false, Bool.false_eq_true, reduceIte, List.set_cons_zero, List.set_cons_succ]
theorem all2_app {α β : Type} {R : α → β → Prop} : ∀ {as as' : List α} {bs bs' : List β}, All2 R as bs → All2 R as' bs' → All2 R (as ++ as') (bs ++ bs')
  | [], _, [], _, _, h => h
  | _ :: _, _, _ :: _, _, ⟨a, b⟩, h => ⟨a, all2_app b h⟩
  | [], _, _ :: _, _, h, _ => h.elim
  | _ :: _, _, [], _, h, _ => h.elim
theorem all2_split {R : Nat → W → Prop} : ∀ {g : List Nat} {ws : List W} (i : Nat), All2 R g ws → (hi : i < ws.length) → ∃ g1 a g2, g.sum = g1.sum + a + g2.sum ∧ All2 R g1 (ws.take i) ∧ R a ws[i] ∧ All2 R g2 (ws.drop (i + 1))
  | [], w :: ws, _, h, _ => h.elim
  | a :: g, w :: ws, 0, ⟨h1, h2⟩, _ => ⟨[], a, g, by simp, trivial, h1, h2⟩
  | a :: g, w :: ws, i + 1, ⟨h1, h2⟩, hi => by
    obtain ⟨g1, b, g2, e, q1, q2, q3⟩ := all2_split i h2 (by simpa using hi)
    exact ⟨a :: g1, b, g2, by simp only [List.sum_cons]; omega, ⟨h1, q1⟩, by simpa using q2, by simpa using q3⟩
  | _, [], _, _, hi => by simp at hi
theorem all2_set {R : Nat → W → Prop} {b : Nat} {x : W} (hb : R b x) : ∀ {g : List Nat} {ws : List W} (i : Nat), All2 R g ws → ∃ g', All2 R g' (ws.set i x) ∧ g'.sum ≤ g.sum + b
  | [], [], _, _ => ⟨[], trivial, by simp⟩
  | a :: g, w :: ws, 0, ⟨h1, h2⟩ => ⟨b :: g, ⟨hb, h2⟩, by simp only [List.sum_cons]; omega⟩
  | a :: g, w :: ws, i + 1, ⟨h1, h2⟩ => by
    obtain ⟨g', q1, q2⟩ := all2_set hb i h2
    exact ⟨a :: g', ⟨h1, q1⟩, by simp only [List.sum_cons]; omega⟩
  | [], _ :: _, _, h => h.elim
  | _ :: _, [], _, h => h.elim
theorem tup_mid {u : Sto} {n m b : Nat} {g1 g2 : List Nat} {xs ys : List W} {x : W} (h1 : All2 (GV u n) g1 xs) (h2 : GV u n b x) (h3 : All2 (GV u n) g2 ys) (hm : g1.sum + b + g2.sum + 2 * (xs.length + 1 + ys.length) + 140 ≤ m) (hz : m ≤ SZ) : GV u (n + 1) m (.tup (xs ++ [x] ++ ys)) :=
  ⟨⟨by omega, hz⟩, g1 ++ [b] ++ g2, all2_app (all2_app h1 ⟨h2, trivial⟩) h3, by simp only [List.sum_append, List.sum_cons, List.sum_nil, List.length_append, List.length_cons, List.length_nil]; omega⟩
theorem cut_to (ws : List W) (i : Nat) (s : Sto) (h : i ≤ ws.length) : slcW (.tup ws) none (some (i : Int)) s = .ok (.tup (ws.take i)) s := by
  have h0 : ¬ ((i : Int) < 0) := by omega
  simp only [slcW, cut, HT.sIx]
  simp [h, h0]
theorem cut_from (ws : List W) (i : Nat) (s : Sto) (h : i ≤ ws.length) : slcW (.tup ws) (some (i : Int)) none s = .ok (.tup (ws.drop i)) s := by
  have h0 : ¬ ((i : Int) < 0) := by omega
  simp only [slcW, cut, HT.sIx]
  simp [h, h0]
  exact List.take_of_length_le (by simp)
theorem at_tup (ws : List W) (i : Nat) (h : i < ws.length) (s : Sto) : idxW (.tup ws) (.int (i : Int)) s = .ok ws[i] s := by
  rw [i_tup, at_nat, List.getElem?_eq_getElem h]
theorem plus1 (i : Nat) : (i : Int) + 1 = ((i + 1 : Nat) : Int) := by omega
theorem d_lt (a b : Nat) : decide ((a : Int) < (b : Int)) = decide (a < b) := by rw [Bool.eq_iff_iff]; simp
theorem d_eq (a b : Nat) : decide ((a : Int) = (b : Int)) = decide (a = b) := by rw [Bool.eq_iff_iff]; simp; omega
theorem lst_swap {φ : Nat → List W → M W} {q i j : Nat} {s : Sto} {ws : List W} {v1 v2 v3 : W} (hq : s[q]? = some (.lst ws)) (hi : i < ws.length) (hj : j < ws.length) (a b : W) :
    asg φ (.tp [(.sub (.var 4) (.var 2)), (.sub (.var 4) (.var 5))]) (.tup [a, b]) [some v1, some v2, some (.int (i : Int)), some v3, some (.loc q), some (.int (j : Int))] s = .ok [some v1, some v2, some (.int (i : Int)), some v3, some (.loc q), some (.int (j : Int))] (s.set q (.lst ((ws.set i a).set j b))) := by
  have hl : q < s.length := (List.getElem?_eq_some_iff.mp hq).1
  have h1 := set_loc (v := a) hq hi
  have hq2 : (s.set q (.lst (ws.set i a)))[q]? = some (.lst (ws.set i a)) := set_at hl
  have h2 := set_loc (j := j) (v := b) hq2 (by simpa using hj)
  rw [List.set_set] at h2
  rw [asg]
  simp only [isSeq, asgs, bnd, List.length_cons, List.length_nil, if_true]
  rw [a_sub (ow := .loc q) (iw := .int (i : Int)) (by simp only [x_cst, x_var, x_tup, x_lst, x_bin, x_neg, x_not, x_cmp, x_cmp2, x_and1, x_and, x_or1, x_or, x_ite, x_idx, x_slc, x_call, x_blt, x_met, x_fld, x_mth, x_mk, y_fset, y_faug, x_isi, x_nil, x_cons, x_c0, x_c1, x_p0, x_p1, y_nil, y_cons, y_set, y_rtn, y_ite, y_exp, decide_true, w_ok, q_nxt, q_rtn, b_rtn, t_bl, r_ret, a_nm, c_lt, c_le, c_gt, c_ge, c_eqi, c_eqs, c_nes, c_eq0, c_ne0, c_in2, z0, z1, z2, z3, z4, z5, z6, z7, z8, c_les, b_list, l_lay, b_lent, i_tup, bind_ok, List.getElem?_cons_zero, List.getElem?_cons_succ, List.map_cons, List.map_nil, List.replicate, Nat.sub_zero, Nat.reduceSub, List.cons_append, List.nil_append, List.append_nil, List.mapM_cons, List.mapM_nil, Option.pure_def, Option.bind_eq_bind, Option.bind_some, List.any_cons, List.any_nil, id, Bool.or_false, Bool.not_true, Bool.not_false, if_true, if_false, Bool.false_eq_true, reduceIte, List.set_cons_zero, List.set_cons_succ]) (by simp only [x_cst, x_var, x_tup, x_lst, x_bin, x_neg, x_not, x_cmp, x_cmp2, x_and1, x_and, x_or1, x_or, x_ite, x_idx, x_slc, x_call, x_blt, x_met, x_fld, x_mth, x_mk, y_fset, y_faug, x_isi, x_nil, x_cons, x_c0, x_c1, x_p0, x_p1, y_nil, y_cons, y_set, y_rtn, y_ite, y_exp, decide_true, w_ok, q_nxt, q_rtn, b_rtn, t_bl, r_ret, a_nm, c_lt, c_le, c_gt, c_ge, c_eqi, c_eqs, c_nes, c_eq0, c_ne0, c_in2, z0, z1, z2, z3, z4, z5, z6, z7, z8, c_les, b_list, l_lay, b_lent, i_tup, bind_ok, List.getElem?_cons_zero, List.getElem?_cons_succ, List.map_cons, List.map_nil, List.replicate, Nat.sub_zero, Nat.reduceSub, List.cons_append, List.nil_append, List.append_nil, List.mapM_cons, List.mapM_nil, Option.pure_def, Option.bind_eq_bind, Option.bind_some, List.any_cons, List.any_nil, id, Bool.or_false, Bool.not_true, Bool.not_false, if_true, if_false, Bool.false_eq_true, reduceIte, List.set_cons_zero, List.set_cons_succ]) h1]
  simp only [bnd, asgs, bind_ok]
  rw [a_sub (ow := .loc q) (iw := .int (j : Int)) (by simp only [x_cst, x_var, x_tup, x_lst, x_bin, x_neg, x_not, x_cmp, x_cmp2, x_and1, x_and, x_or1, x_or, x_ite, x_idx, x_slc, x_call, x_blt, x_met, x_fld, x_mth, x_mk, y_fset, y_faug, x_isi, x_nil, x_cons, x_c0, x_c1, x_p0, x_p1, y_nil, y_cons, y_set, y_rtn, y_ite, y_exp, decide_true, w_ok, q_nxt, q_rtn, b_rtn, t_bl, r_ret, a_nm, c_lt, c_le, c_gt, c_ge, c_eqi, c_eqs, c_nes, c_eq0, c_ne0, c_in2, z0, z1, z2, z3, z4, z5, z6, z7, z8, c_les, b_list, l_lay, b_lent, i_tup, bind_ok, List.getElem?_cons_zero, List.getElem?_cons_succ, List.map_cons, List.map_nil, List.replicate, Nat.sub_zero, Nat.reduceSub, List.cons_append, List.nil_append, List.append_nil, List.mapM_cons, List.mapM_nil, Option.pure_def, Option.bind_eq_bind, Option.bind_some, List.any_cons, List.any_nil, id, Bool.or_false, Bool.not_true, Bool.not_false, if_true, if_false, Bool.false_eq_true, reduceIte, List.set_cons_zero, List.set_cons_succ]) (by simp only [x_cst, x_var, x_tup, x_lst, x_bin, x_neg, x_not, x_cmp, x_cmp2, x_and1, x_and, x_or1, x_or, x_ite, x_idx, x_slc, x_call, x_blt, x_met, x_fld, x_mth, x_mk, y_fset, y_faug, x_isi, x_nil, x_cons, x_c0, x_c1, x_p0, x_p1, y_nil, y_cons, y_set, y_rtn, y_ite, y_exp, decide_true, w_ok, q_nxt, q_rtn, b_rtn, t_bl, r_ret, a_nm, c_lt, c_le, c_gt, c_ge, c_eqi, c_eqs, c_nes, c_eq0, c_ne0, c_in2, z0, z1, z2, z3, z4, z5, z6, z7, z8, c_les, b_list, l_lay, b_lent, i_tup, bind_ok, List.getElem?_cons_zero, List.getElem?_cons_succ, List.map_cons, List.map_nil, List.replicate, Nat.sub_zero, Nat.reduceSub, List.cons_append, List.nil_append, List.append_nil, List.mapM_cons, List.mapM_nil, Option.pure_def, Option.bind_eq_bind, Option.bind_some, List.any_cons, List.any_nil, id, Bool.or_false, Bool.not_true, Bool.not_false, if_true, if_false, Bool.false_eq_true, reduceIte, List.set_cons_zero, List.set_cons_succ]) h2]
  simp only [bind_ok, Mi.ret]
theorem GV.tail {s : Sto} {n m : Nat} {x : W} {ws : List W} (h : GV s n m (.tup (x :: ws))) : GV s n m (.tup ws) := by
  cases n with
  | zero => exact h.elim
  | succ n =>
    obtain ⟨⟨h0, h1⟩, g, g1, g2⟩ := h
    cases g with
    | nil => exact g1.elim
    | cons a g =>
      refine ⟨⟨h0, h1⟩, g, g1.2, ?_⟩
      simp only [List.sum_cons, List.length_cons] at g2
      omega
/-! ### more -/
theorem c_inS (x : Str) (l : List Str) (s : Sto) : cmpop .isin (.str x) (.tup (l.map W.str)) s = .ok (.bl (decide (x ∈ l))) s := by
  have e : ∀ u v : Str, eqF (.str u) (.str v) = decide (v = u) := fun u v => by
    show (u == v) = _
    rw [Bool.eq_iff_iff, beq_iff_eq, decide_eq_true_eq]; exact eq_comm
  have h1 : (l.map W.str).all flatW = true := by rw [List.all_map, List.all_eq_true]; intro a _; rfl
  have h2 : ((l.map W.str).any fun z => eqF z (.str x)) = decide (x ∈ l) := by
    rw [List.any_map]
    induction l with
    | nil => rfl
    | cons a l ih =>
      have ih := ih (by rw [List.all_map, List.all_eq_true]; intro a _; rfl)
      rw [List.any_cons, ih]
      show (eqF (.str a) (.str x) || _) = _
      rw [e, Bool.eq_iff_iff]
      simp [List.mem_cons]
  have h : cmpB .isin (.str x) (.tup (l.map W.str)) s = some (decide (x ∈ l)) := by
    show (match isSeq s (.tup (l.map W.str)) with | some ys => if flatW (.str x) && ys.all flatW then some (ys.any fun z => eqF z (.str x)) else none | none => inDct s (.str x) (.tup (l.map W.str))) = _
    simp only [isSeq, h1, h2, flatW, Bool.and_self, if_true]
  unfold cmpop
  rw [h]
theorem lookup_map {l : List (Str × Str)} (x : Str) : dLook (l.map fun p => (W.str p.1, W.str p.2)) (.str x) = (l.lookup x).map W.str := by
  induction l with
  | nil => rfl
  | cons p l ih =>
    unfold dLook at ih ⊢
    rw [List.map_cons, List.find?_cons, List.lookup_cons]
    by_cases h : x = p.1
    · subst h; simp
    · have h1 : decide (W.str p.1 = W.str x) = false := decide_eq_false fun e => h (W.str.inj e).symm
      have h2 : (x == p.1) = false := beq_eq_false_iff_ne.mpr h
      simp only [h1, h2]
      exact ih
theorem mem_lookup {α : Type} {l : List (Str × α)} {x : Str} {v : α} (h : l.lookup x = some v) : (x, v) ∈ l := by
  induction l with
  | nil => cases h
  | cons p l ih =>
    rw [List.lookup_cons] at h
    split at h
    · rename_i hx
      cases h
      rw [beq_iff_eq] at hx
      subst hx
      exact List.mem_cons_self
    · exact List.mem_cons_of_mem _ (ih h)
theorem a_st1 (φ : Nat → List W → M W) (ρ : Env) (s : Sto) (i j : Nat) (x : W) (r : List W) : asg φ (.st [i] j) (.tup (x :: r)) ρ s = .ok ((ρ.set i (some x)).set j (some (.loc s.length))) (s ++ [SO.lst r]) := by
  rw [asg]
  simp [isSeq, setAll]
/-- a list of the store and a text side by side -/
theorem i_zipl {s : Sto} {l : Nat} {r : List W} {f : Str} (h : s[l]? = some (.lst r)) (h1 : r.length ≤ SZ) (h2 : f.length ≤ SZ) : iter .zip [.loc l, .str f] s = .ok ((r.zip (f.cps.toList.map fun c => W.str ⟨#[c]⟩)).map fun p => W.tup [p.1, p.2], [(l, r)]) s := by
  have h3 : (f.cps.toList.map fun c => W.str ⟨#[c]⟩).length ≤ SZ := by rw [List.length_map]; exact h2
  simp only [iter, itemsW, h]
  rw [if_pos ⟨h1, h3⟩]
  simp only [List.append_nil]
theorem i_zipt {s : Sto} {r : List W} {f : Str} (h1 : r.length ≤ SZ) (h2 : f.length ≤ SZ) : iter .zip [.tup r, .str f] s = .ok ((r.zip (f.cps.toList.map fun c => W.str ⟨#[c]⟩)).map fun p => W.tup [p.1, p.2], []) s := by
  have h3 : (f.cps.toList.map fun c => W.str ⟨#[c]⟩).length ≤ SZ := by rw [List.length_map]; exact h2
  simp only [iter, itemsW]
  rw [if_pos ⟨h1, h3⟩]
  simp only [List.append_nil]
theorem stays_app {s : Sto} {l : Nat} {r : List W} (h : s[l]? = some (.lst r)) (t : Sto) : stays (s ++ t) [(l, r)] = true := by
  have : (s ++ t)[l]? = some (.lst r) := sub_app s t l _ h (by simp)
  simp [stays, this]
/-- is the value, a number, among the numbers -/
def inH (b : W) (hs : List W) : Bool := hs.any fun z => eqF z b
theorem c_inH {i : Int} {hs : List W} (h : hs.all flatW = true) (s : Sto) : cmpop .isin (.int i) (.tup hs) s = .ok (.bl (inH (.int i) hs)) s := by
  have e : cmpB .isin (.int i) (.tup hs) s = some (inH (.int i) hs) := by
    show (match isSeq s (.tup hs) with | some ys => if flatW (.int i) && ys.all flatW then some (ys.any fun z => eqF z (.int i)) else none | none => inDct s (.int i) (.tup hs)) = _
    simp only [isSeq, h, flatW, Bool.and_self, if_true, inH]
  unfold cmpop
  rw [e]
theorem c_ninH {i : Int} {hs : List W} (h : hs.all flatW = true) (s : Sto) : cmpop .notin (.int i) (.tup hs) s = .ok (.bl (!inH (.int i) hs)) s := by
  have e : cmpB .notin (.int i) (.tup hs) s = some (!inH (.int i) hs) := by
    show (match isSeq s (.tup hs) with | some ys => if flatW (.int i) && ys.all flatW then some (!ys.any fun z => eqF z (.int i)) else none | none => (inDct s (.int i) (.tup hs)).map (!·)) = _
    simp only [isSeq, h, flatW, Bool.and_self, if_true, inH]
  unfold cmpop
  rw [e]
theorem c_nei (i j : Int) (s : Sto) : cmpop .ne (.int i) (.int j) s = .ok (.bl (!decide (i = j))) s := by
  unfold cmpop
  simp [cmpB, eqW, sameW]
theorem join_okP {P : Nat → Prop} : ∀ (ys : List W), (∀ y ∈ ys, ∃ c, y = .str ⟨#[c]⟩ ∧ P c) → ∃ zs : List Str, strsOf ys = some zs ∧ zs.length = ys.length ∧ (zs.map fun y => y.length).sum = ys.length ∧ (Str.join "" zs).length = ys.length ∧ ∀ c ∈ (Str.join "" zs).cps.toList, P c
  | [], _ => ⟨[], rfl, rfl, rfl, rfl, by
    intro c hc
    have e : (Str.join "" []).cps.toList = [] := by decide +kernel
    rw [e] at hc; cases hc⟩
  | [y], h => by
    obtain ⟨c, rfl, hc⟩ := h y List.mem_cons_self
    refine ⟨[⟨#[c]⟩], rfl, rfl, rfl, rfl, fun d hd => ?_⟩
    simp [Str.join] at hd
    rw [hd]; exact hc
  | y :: y' :: ys, h => by
    obtain ⟨c, rfl, hc⟩ := h y List.mem_cons_self
    obtain ⟨zs, e1, e2, e3, e4, e5⟩ := join_okP (y' :: ys) fun w hw => h w (List.mem_cons_of_mem _ hw)
    match zs, e1, e2, e3, e4, e5 with
    | z :: zs, e1, e2, e3, e4, e5 =>
      have ej : Str.join "" (⟨#[c]⟩ :: z :: zs) = ⟨#[c]⟩ ++ "" ++ Str.join "" (z :: zs) := rfl
      have el : (("" : Str)).length = 0 := rfl
      have ec : (⟨#[c]⟩ : Str).length = 1 := rfl
      refine ⟨⟨#[c]⟩ :: z :: zs, ?_, by simp [e2], ?_, ?_, ?_⟩
      · show (strsOf (y' :: ys)).map (⟨#[c]⟩ :: ·) = _
        rw [e1]; rfl
      · rw [List.map_cons, List.sum_cons, e3, ec]; simp only [List.length_cons]; omega
      · rw [ej, strLen_append, strLen_append, e4, el, ec]; simp only [List.length_cons]; omega
      · intro d hd
        rw [ej] at hd
        have this : d ∈ ((⟨#[c]⟩ : Str).cps ++ ("" : Str).cps ++ (Str.join "" (z :: zs)).cps).toList := hd
        rw [Array.toList_append, Array.toList_append] at this
        rw [List.mem_append, List.mem_append] at this
        rcases this with (h | h) | h
        · simp at h; rw [h]; exact hc
        · have e0 : ("" : Str).cps.toList = [] := by decide +kernel
          rw [e0] at h; cases h
        · exact e5 d h
theorem letter_in (i : Nat) (h : i < 26) (s : Sto) : ∃ c, (c < 16 ^ 8 ∧ c ∈ letters.cps.toList) ∧ idxW (.str "abcdefghijklmnopqrstuvwxyz") (.int (i : Int)) s = .ok (.str ⟨#[c]⟩) s := by
  have e : ∀ i : Fin 26, (Str.ofString "abcdefghijklmnopqrstuvwxyz").cps[i.1]? = some (97 + i.1) := by decide +kernel
  refine ⟨97 + i, ⟨by omega, ?_⟩, ?_⟩
  · rw [letters_list, List.mem_map]
    exact ⟨i, List.mem_range.mpr h, by omega⟩
  · simp only [idxW, Int.toNat_natCast, e ⟨i, h⟩]
    rw [if_pos (by omega)]
theorem SubP.set_new {p a : Nat} {s0 s : Sto} {o : SO} (h : SubP p s0 s) (ha : s0.length ≤ a) : SubP p s0 (s.set a o) := fun l o' n e i => by
  have hl : l < s0.length := (List.getElem?_eq_some_iff.mp e).1
  rw [List.getElem?_set_ne (by omega)]
  exact h l o' n e i
/-- a walk, what holds told by the items gone -/
theorem for_ind {bind : W → Env → Sto → Res Env} {body : Env → Sto → ResS} {chk : Sto → Bool} (P : List W → Env → Sto → Prop) (all : List W) (hc : ∀ s, chk s = true)
    (hb : ∀ pre w post ρ s, all = pre ++ w :: post → P pre ρ s → ∃ ρ1, bind w ρ s = .ok ρ1 s ∧ wpS (body ρ1 s) fun f ρ' s' => f = .nxt ∧ P (pre ++ [w]) ρ' s') :
    ∀ (post pre : List W) (ρ : Env) (s : Sto), all = pre ++ post → P pre ρ s → wpS (forGo bind body chk post ρ s) fun f ρ' s' => f = .nxt ∧ P all ρ' s'
  | [], pre, ρ, s, e, h => by
    simp only [forGo, hc, if_true]
    rw [List.append_nil] at e
    subst e
    exact ⟨rfl, h⟩
  | w :: post, pre, ρ, s, e, h => by
    obtain ⟨ρ1, e1, q⟩ := hb pre w post ρ s e h
    simp only [forGo, hc, if_true, e1]
    cases e2 : body ρ1 s with
    | stuck => rw [e2] at q; exact q.elim
    | exc x ρ s => rw [e2] at q; exact q.elim
    | ok f ρ2 s2 =>
      rw [e2] at q
      obtain ⟨rfl, q⟩ := q
      exact for_ind P all hc hb post (pre ++ [w]) ρ2 s2 (by rw [e]; simp) q
theorem wpS_ok {r : ResS} {Q : Env → Sto → Prop} (h : wpS r fun f ρ s => f = .nxt ∧ Q ρ s) : ∃ ρ s, r = .ok .nxt ρ s ∧ Q ρ s := by
  cases r with
  | stuck => exact h.elim
  | exc x ρ s => exact h.elim
  | ok f ρ s => obtain ⟨rfl, q⟩ := h; exact ⟨ρ, s, rfl, q⟩
theorem ixn_nat {n i : Nat} (h : i < n) : L2.ixN n (i : Int) = some i := by
  unfold L2.ixN
  rw [if_pos (by omega), if_pos (by omega)]; simp
theorem m_popi {s : Sto} {l : Nat} {xs : List W} {i : Nat} (h : s[l]? = some (.lst xs)) (hi : i < xs.length) (hz : i < 2 ^ 62) : met .popi (.loc l) [.int (i : Int)] s = .ok xs[i] (s.set l (.lst (xs.eraseIdx i))) := by
  have hb : -(2 ^ 63) ≤ (i : Int) ∧ (i : Int) < 2 ^ 63 := by
    have e1 : (2 : Nat) ^ 62 = 4611686018427387904 := by decide
    have e2 : (2 : Int) ^ 63 = 9223372036854775808 := by decide
    omega
  simp only [met, h]
  rw [if_pos hb, ixn_nat hi]
  simp only [List.getElem?_eq_getElem hi]
theorem m_append {s : Sto} {l : Nat} {xs : List W} {w : W} (h : s[l]? = some (.lst xs)) (hz : xs.length < SZ) : met .append (.loc l) [w] s = .ok .non (s.set l (.lst (xs ++ [w]))) := by
  simp only [met, h, if_pos hz]
theorem ok_app {s : Sto} {l : Nat} {xs : List W} (h : s[l]? = some (.lst xs)) : metOk s .append (.loc l) = true := by simp only [metOk, h]
theorem ok_popi {s : Sto} {l : Nat} {xs : List W} (h : s[l]? = some (.lst xs)) : metOk s .popi (.loc l) = true := by simp only [metOk, h]
end MiL

set_option exponentiation.threshold 1000
/-! MiT: what laws about threads have in common: boxes as a dict, rows, how a thread goes (plainly), frames of the store. -/
namespace MiT
open PySem hiding Env exec execs
open L2 Mi MiL
/-! ### frames -/
/-- all but those of X stand -/
def Fr (X : List Nat) (s s' : Sto) : Prop := s.length ≤ s'.length ∧ ∀ (l : Nat) (o : SO), l ∉ X → s[l]? = some o → s'[l]? = some o
theorem Fr.rfl' {X : List Nat} {s : Sto} : Fr X s s := ⟨Nat.le_refl _, fun _ _ _ h => h⟩
theorem Fr.trans {X : List Nat} {s t u : Sto} (a : Fr X s t) (b : Fr X t u) : Fr X s u := ⟨Nat.le_trans a.1 b.1, fun l o n h => b.2 l o n (a.2 l o n h)⟩
theorem Fr.mono {X Y : List Nat} {s t : Sto} (a : Fr X s t) (h : ∀ x ∈ X, x ∈ Y) : Fr Y s t := ⟨a.1, fun l o n e => a.2 l o (fun m => n (h l m)) e⟩
theorem get_app {s t : Sto} {l : Nat} {o : SO} (e : s[l]? = some o) : (s ++ t)[l]? = some o := by
  rw [List.getElem?_append_left (List.getElem?_eq_some_iff.mp e).1]; exact e
theorem Fr.app (X : List Nat) (s t : Sto) : Fr X s (s ++ t) := ⟨by simp, fun l o _ e => get_app e⟩
theorem Fr.set {X : List Nat} {s : Sto} {l : Nat} {o : SO} (h : l ∈ X) : Fr X s (s.set l o) := ⟨by simp, fun k o' n e => by
  rw [List.getElem?_set_ne (fun z : l = k => n (by rw [← z]; exact h))]; exact e⟩
theorem Fr.none_ {s t : Sto} (a : Fr [] s t) (X : List Nat) : Fr X s t := a.mono fun _ h => nomatch h
/-- what was not there is free to change -/
theorem Fr.low {X Y : List Nat} {s t u : Sto} (a : Fr X s t) (b : Fr Y t u) (h : ∀ y ∈ Y, y ∈ X ∨ s.length ≤ y) : Fr X s u := ⟨Nat.le_trans a.1 b.1, fun l o n e => by
  refine b.2 l o (fun m => ?_) (a.2 l o n e)
  rcases h l m with q | q
  · exact n q
  · have := (List.getElem?_eq_some_iff.mp e).1; omega⟩
theorem get_lt {s : Sto} {l : Nat} {o : SO} (h : s[l]? = some o) : l < s.length := (List.getElem?_eq_some_iff.mp h).1
theorem get_end (s : Sto) (o : SO) : (s ++ [o])[s.length]? = some o := by simp
theorem get_set {s : Sto} {l : Nat} {o : SO} (h : l < s.length) : (s.set l o)[l]? = some o := by rw [List.getElem?_set_self h]
theorem get_ne {s : Sto} {l k : Nat} {o : SO} (h : k ≠ l) : (s.set l o)[k]? = s[k]? := by rw [List.getElem?_set_ne (fun z => h z.symm)]
/-! ### boxes -/
def lt (i : Nat) : Str := ⟨#[97 + i]⟩
abbrev ltW (i : Nat) : W := .str (lt i)
theorem lt_inj {i j : Nat} : (lt i = lt j) ↔ i = j := by unfold lt; simp
def bxF : Nat → List Int → List (W × W)
  | _, [] => []
  | i, x :: r => (ltW i, .int x) :: bxF (i + 1) r
abbrev bx (xs : List Int) : List (W × W) := bxF 0 xs
theorem ltW_dec (i j : Nat) : decide (ltW i = ltW j) = decide (i = j) := by
  rw [Bool.eq_iff_iff]; simp [lt_inj]
theorem bxF_len : ∀ (xs : List Int) (j : Nat), (bxF j xs).length = xs.length
  | [], _ => rfl
  | _ :: r, j => by simp [bxF, bxF_len r (j + 1)]
theorem dl_bxF : ∀ (xs : List Int) (j i : Nat), dLook (bxF j xs) (ltW (j + i)) = xs[i]?.map W.int
  | [], _, _ => rfl
  | x :: r, j, 0 => by
    unfold dLook
    simp only [bxF, List.find?_cons, Nat.add_zero, decide_true, Option.map_some, List.getElem?_cons_zero]
  | x :: r, j, i + 1 => by
    have ih := dl_bxF r (j + 1) i
    unfold dLook at ih ⊢
    have n : decide (ltW j = ltW (j + (i + 1))) = false := by rw [ltW_dec]; exact decide_eq_false (by omega)
    simp only [bxF, List.find?_cons, n, List.getElem?_cons_succ]
    rw [← ih]
    have : j + 1 + i = j + (i + 1) := by omega
    rw [this]
theorem dl_bx (xs : List Int) (i : Nat) : dLook (bx xs) (ltW i) = xs[i]?.map W.int := by
  have := dl_bxF xs 0 i
  rwa [Nat.zero_add] at this
theorem any_bxF : ∀ (xs : List Int) (j i : Nat), ((bxF j xs).any fun p => decide (p.1 = ltW (j + i))) = decide (i < xs.length)
  | [], j, i => by simp [bxF]
  | x :: r, j, 0 => by simp [bxF]
  | x :: r, j, i + 1 => by
    have ih := any_bxF r (j + 1) i
    have n : decide (ltW j = ltW (j + (i + 1))) = false := by rw [ltW_dec]; exact decide_eq_false (by omega)
    simp only [bxF, List.any_cons, n, Bool.false_or]
    have : j + 1 + i = j + (i + 1) := by omega
    rw [this] at ih
    rw [ih]
    simp
theorem map_bxF (v : Int) : ∀ (xs : List Int) (j i : Nat), ((bxF j xs).map fun p => if p.1 = ltW (j + i) then (p.1, W.int v) else p) = bxF j (xs.set i v)
  | [], _, _ => rfl
  | x :: r, j, 0 => by
    simp only [bxF, List.map_cons, Nat.add_zero, if_true, List.set_cons_zero]
    congr 1
    have : ∀ (r : List Int) (k : Nat), j < k → ((bxF k r).map fun p => if p.1 = ltW j then (p.1, W.int v) else p) = bxF k r := by
      intro r
      induction r with
      | nil => intro k _; rfl
      | cons y r ih =>
        intro k hk
        have n : ¬ (ltW k = ltW j) := fun e => by
          have := ltW_dec k j
          rw [decide_eq_true e] at this
          have := of_decide_eq_true this.symm
          omega
        simp only [bxF, List.map_cons, if_neg n, ih (k + 1) (by omega)]
    exact this r (j + 1) (by omega)
  | x :: r, j, i + 1 => by
    have ih := map_bxF v r (j + 1) i
    have n : ¬ (ltW j = ltW (j + (i + 1))) := fun e => by
      have := ltW_dec j (j + (i + 1))
      rw [decide_eq_true e] at this
      have := of_decide_eq_true this.symm
      omega
    simp only [bxF, List.map_cons, if_neg n, List.set_cons_succ]
    have : j + 1 + i = j + (i + 1) := by omega
    rw [this] at ih
    rw [ih]
theorem put_bx (xs : List Int) (i : Nat) (v : Int) (h : i < xs.length) : putW (bx xs) (ltW i) (.int v) = bx (xs.set i v) := by
  have h1 := any_bxF xs 0 i
  have h2 := map_bxF v xs 0 i
  rw [Nat.zero_add] at h1 h2
  unfold putW
  rw [h1, decide_eq_true h, if_pos rfl, h2]
/-- a box's number -/
theorem idx_bx {s : Sto} {b i : Nat} {xs : List Int} {x : Int} (h : s[b]? = some (.dct (bx xs))) (e : xs[i]? = some x) : idxW (.loc b) (ltW i) s = .ok (.int x) s := by
  have : dLook (bx xs) (ltW i) = some (.int x) := by rw [dl_bx, e]; rfl
  simp only [idxW, h, isKey, if_true, this]
theorem set_bx {s : Sto} {b i : Nat} {xs : List Int} {v : Int} (h : s[b]? = some (.dct (bx xs))) (hi : i < xs.length) (hl : xs.length < 100) : setW (.loc b) (ltW i) (.int v) s = .ok () (s.set b (.dct (bx (xs.set i v)))) := by
  have h2 : isKey (ltW i) = true ∧ (bx xs).length < SZ := ⟨rfl, by rw [bxF_len]; exact Nat.lt_trans hl (by decide)⟩
  simp only [setW, h, if_pos h2, put_bx xs i v hi]
/-! ### texts -/
theorem repr_of {s : Sto} {w : W} {d : PyData} (h : dat s w = some d) (h1 : d.showable = true) (h2 : d.leavesShort 400 = true) (h3 : d.bulk ≤ 1000) (h4 : d.depth ≤ 60) : blt .repr [w] s = .ok (.str d.shown) s := by
  have hl : d.shown.length ≤ SZ := by
    have := PyData.shown_le_bulk 400 (by decide) d h2
    have : (400 + 2) * d.bulk ≤ (400 + 2) * 1000 := Nat.mul_le_mul_left _ h3
    exact Nat.le_trans (by omega : d.shown.length ≤ 402400) (by decide)
  have hh : (d.showable && decide (d.shown.length ≤ SZ) && decide (d.depth ≤ 60)) = true := by rw [h1, decide_eq_true hl, decide_eq_true h4]; rfl
  simp only [blt, h, hh, if_true]
/-- small enough to be shown -/
abbrev Sm (i : Int) : Prop := i.natAbs < 10 ^ 200
theorem sm_log {i : Int} (h : Sm i) : i.natAbs.log2 < 1920 := by
  by_cases h0 : i.natAbs = 0
  · rw [h0]; decide
  · rw [Nat.log2_lt h0]
    exact Nat.lt_trans h (by decide +kernel)
theorem sm_show {i : Int} (h : Sm i) : PyData.showable (.int i) = true := by simp [PyData.showable, sm_log h]
theorem sm_leaf {i : Int} (h : Sm i) : PyData.leavesShort 400 (.int i) = true := by
  have e : (toString i).length ≤ 201 := int_text_length_le10 (k := 200) (by decide) h
  have : (PyData.shown (.int i)).length ≤ 201 := by
    show (Str.ofString (toString i)).length ≤ 201
    rw [ofString_length]; exact e
  simp only [PyData.leavesShort, decide_eq_true_eq]
  omega
def bxD : Nat → List Int → List (PyData × PyData)
  | _, [] => []
  | i, x :: r => (.str (lt i), .int x) :: bxD (i + 1) r
theorem bx_dat (s : Sto) (n : Nat) : ∀ (xs : List Int) (j : Nat), ((bxF j xs).map (·.1)).mapM (toD (n + 1) s) = some ((bxD j xs).map (·.1)) ∧ ((bxF j xs).map (·.2)).mapM (toD (n + 1) s) = some ((bxD j xs).map (·.2))
  | [], _ => ⟨rfl, rfl⟩
  | x :: r, j => by
    obtain ⟨h1, h2⟩ := bx_dat s n r (j + 1)
    refine ⟨?_, ?_⟩
    · simp only [bxF, bxD, List.map_cons, List.mapM_cons, h1]; rfl
    · simp only [bxF, bxD, List.map_cons, List.mapM_cons, h2]; rfl
theorem zip_bxD : ∀ (xs : List Int) (j : Nat), ((bxD j xs).map (·.1)).zip ((bxD j xs).map (·.2)) = bxD j xs
  | [], _ => rfl
  | x :: r, j => by simp [bxD, zip_bxD r (j + 1)]
theorem bx_good : ∀ (xs : List Int) (j : Nat), (∀ x ∈ xs, Sm x) → j + xs.length ≤ 26 → PyData.showableKv (bxD j xs) = true ∧ PyData.leavesShortKv 400 (bxD j xs) = true ∧ PyData.bulkKv (bxD j xs) ≤ 3 * xs.length ∧ PyData.depthKv (bxD j xs) ≤ 2
  | [], _, _, _ => ⟨rfl, rfl, Nat.le_refl _, Nat.zero_le _⟩
  | x :: r, j, h, hj => by
    simp only [List.length_cons] at hj
    obtain ⟨h1, h2, h3, h4⟩ := bx_good r (j + 1) (fun y hy => h y (List.mem_cons_of_mem _ hy)) (by omega)
    have hx := h x List.mem_cons_self
    have c : decide (97 + j < 16 ^ 8) = true := decide_eq_true (by omega)
    refine ⟨?_, ?_, ?_, ?_⟩
    · simp only [bxD, PyData.showableKv, h1, sm_show hx, Bool.and_true]; rfl
    · simp only [bxD, PyData.leavesShortKv, h2, sm_leaf hx, Bool.and_true]
      simp [PyData.leavesShort, lt, c]
    · simp only [bxD, PyData.bulkKv, PyData.bulk, List.length_cons, lt, List.size_toArray, List.length_nil]
      omega
    · simp only [bxD, PyData.depthKv, PyData.depth]
      omega
/-- the text of (a number, a number, boxes) hangs on nothing else -/
theorem text3 {a b : Int} {xs : List Int} (ha : Sm a) (hb : Sm b) (hx : ∀ x ∈ xs, Sm x) (hl : xs.length ≤ 26) : ∃ X : Str, ∀ (s : Sto) (l : Nat), s[l]? = some (.dct (bx xs)) → blt .repr [.tup [.int a, .int b, .loc l]] s = .ok (.str X) s := by
  obtain ⟨h1, h2, h3, h4⟩ := bx_good xs 0 hx (by omega)
  refine ⟨PyData.shown (.tuple [.int a, .int b, .dict (bxD 0 xs)]), fun s l h => repr_of ?_ ?_ ?_ ?_ ?_⟩
  · obtain ⟨e1, e2⟩ := bx_dat s 57 xs 0
    show ([W.int a, .int b, .loc l].mapM (toD 59 s)).map PyData.tuple = _
    have e3 : toD 59 s (.loc l) = some (.dict (bxD 0 xs)) := by
      simp only [toD, h, e1, e2, zip_bxD]
    simp only [List.mapM_cons, e3]
    rfl
  · simp only [PyData.showable, PyData.showableAll, h1, Bool.and_true]
    have := sm_show ha
    have := sm_show hb
    simp_all [PyData.showable]
  · simp only [PyData.leavesShort, PyData.leavesShortAll, h2, Bool.and_true]
    have := sm_leaf ha
    have := sm_leaf hb
    simp_all [PyData.leavesShort]
  · simp only [PyData.bulk, PyData.bulkAll]; omega
  · simp only [PyData.depth, PyData.depthAll]; omega
/-! ### rows, plainly -/
inductive Row where
  | skip (n b : Nat)
  | again (n b : Nat)
  | stop
  | set (b : Nat) (i : Int)
  | add (b c : Nat)
  | less (b c : Nat)
def Row.enc : Row → W
  | .skip n b => .tup [.str "skip", .int (n : Int), ltW b]
  | .again n b => .tup [.str "again", .int (n : Int), ltW b]
  | .stop => .tup [.str "stop"]
  | .set b i => .tup [.str "set", ltW b, .int i]
  | .add b c => .tup [.str "add", ltW b, ltW c]
  | .less b c => .tup [.str "less", ltW b, ltW c]
/-- as the row at k of many may be -/
def Row.ok (many k : Nat) : Row → Prop
  | .skip n b => 1 ≤ n ∧ k + 1 + n ≤ many ∧ b < 6
  | .again n b => 1 ≤ n ∧ n ≤ k ∧ b < 6
  | .stop => True
  | .set b i => b < 6 ∧ i.natAbs < 10 ^ 31
  | .add b c => b < 6 ∧ c < 6
  | .less b c => b < 6 ∧ c < 6
/-- what it does: the row behind, the boxes -/
def Row.go (many n : Nat) (xs : List Int) : Row → Nat × List Int
  | .skip m b => (if xs.getD b 0 = 0 then n + 1 + m else n + 1, xs)
  | .again m b => (if xs.getD b 0 = 0 then n + 1 else n - m, xs)
  | .stop => (many, xs)
  | .set b i => (n + 1, xs.set b i)
  | .add b c => (n + 1, xs.set b (xs.getD b 0 + xs.getD c 0))
  | .less b c => (n + 1, xs.set b (xs.getD b 0 - xs.getD c 0))
theorem go_le {many n : Nat} {xs : List Int} {r : Row} (h : r.ok many n) (hn : n < many) : (r.go many n xs).1 ≤ many := by
  cases r <;> simp only [Row.go, Row.ok] at h ⊢ <;> first | omega | skip
  · split <;> omega
  · split <;> omega
theorem getD_at {xs : List Int} {i : Nat} (h : i < xs.length) : xs[i]? = some (xs.getD i 0) := by
  rw [List.getD_eq_getElem?_getD, List.getElem?_eq_getElem h]; rfl
theorem go_len {many n : Nat} {xs : List Int} {r : Row} : (r.go many n xs).2.length = xs.length := by
  cases r <;> simp [Row.go]
/-- numbers below 2 ^ b -/
abbrev Bd (b : Nat) (xs : List Int) : Prop := ∀ x ∈ xs, x.natAbs < 2 ^ b
theorem bd_getD {b : Nat} {xs : List Int} (h : Bd b xs) (i : Nat) : (xs.getD i 0).natAbs < 2 ^ b := by
  rw [List.getD_eq_getElem?_getD]
  cases e : xs[i]? with
  | none => simpa using Nat.two_pow_pos b
  | some x => exact h x (List.mem_of_getElem? e)
theorem bd_set {b : Nat} {xs : List Int} (h : Bd b xs) {v : Int} (hv : v.natAbs < 2 ^ b) (i : Nat) : Bd b (xs.set i v) := fun x hx => by
  rcases List.mem_or_eq_of_mem_set hx with q | q
  · exact h x q
  · rw [q]; exact hv
theorem bd_up {b c : Nat} {xs : List Int} (h : Bd b xs) (hc : b ≤ c) : Bd c xs := fun x hx => Nat.lt_of_lt_of_le (h x hx) (Nat.pow_le_pow_right (by decide) hc)
theorem go_bd {many n b : Nat} {xs : List Int} {r : Row} (h : r.ok many n) (hb : Bd b xs) (h0 : 103 ≤ b) : Bd (b + 1) (r.go many n xs).2 := by
  have e : 2 ^ (b + 1) = 2 ^ b + 2 ^ b := by rw [Nat.pow_succ]; omega
  have up := bd_up hb (Nat.le_succ b)
  cases r with
  | skip m c => exact up
  | again m c => exact up
  | stop => exact up
  | set c i =>
    refine bd_set up ?_ c
    have h1 : i.natAbs < 10 ^ 31 := h.2
    have h2 : 10 ^ 31 ≤ 2 ^ 103 := by decide +kernel
    have h3 : 2 ^ 103 ≤ 2 ^ (b + 1) := Nat.pow_le_pow_right (by decide) (by omega)
    omega
  | add c d =>
    refine bd_set up ?_ c
    have h1 := bd_getD hb c
    have h2 := bd_getD hb d
    omega
  | less c d =>
    refine bd_set up ?_ c
    have h1 := bd_getD hb c
    have h2 := bd_getD hb d
    omega
theorem sm_of {b : Nat} {xs : List Int} (h : Bd b xs) (hb : b ≤ 600) : ∀ x ∈ xs, Sm x := fun x hx => by
  have h1 := h x hx
  have h2 : 2 ^ b ≤ 2 ^ 600 := Nat.pow_le_pow_right (by decide) hb
  have h3 : 2 ^ 600 ≤ 10 ^ 200 := by decide +kernel
  exact Nat.lt_of_lt_of_le h1 (Nat.le_trans h2 h3)
/-! ### words -/
theorem wd_skip_skip : decide (Str.ofString "skip" = Str.ofString "skip") = true := by decide +kernel
theorem wd_skip_again : decide (Str.ofString "skip" = Str.ofString "again") = false := by decide +kernel
theorem wd_skip_stop : decide (Str.ofString "skip" = Str.ofString "stop") = false := by decide +kernel
theorem wd_skip_set : decide (Str.ofString "skip" = Str.ofString "set") = false := by decide +kernel
theorem wd_skip_add : decide (Str.ofString "skip" = Str.ofString "add") = false := by decide +kernel
theorem wd_skip_less : decide (Str.ofString "skip" = Str.ofString "less") = false := by decide +kernel
theorem wd_again_skip : decide (Str.ofString "again" = Str.ofString "skip") = false := by decide +kernel
theorem wd_again_again : decide (Str.ofString "again" = Str.ofString "again") = true := by decide +kernel
theorem wd_again_stop : decide (Str.ofString "again" = Str.ofString "stop") = false := by decide +kernel
theorem wd_again_set : decide (Str.ofString "again" = Str.ofString "set") = false := by decide +kernel
theorem wd_again_add : decide (Str.ofString "again" = Str.ofString "add") = false := by decide +kernel
theorem wd_again_less : decide (Str.ofString "again" = Str.ofString "less") = false := by decide +kernel
theorem wd_stop_skip : decide (Str.ofString "stop" = Str.ofString "skip") = false := by decide +kernel
theorem wd_stop_again : decide (Str.ofString "stop" = Str.ofString "again") = false := by decide +kernel
theorem wd_stop_stop : decide (Str.ofString "stop" = Str.ofString "stop") = true := by decide +kernel
theorem wd_stop_set : decide (Str.ofString "stop" = Str.ofString "set") = false := by decide +kernel
theorem wd_stop_add : decide (Str.ofString "stop" = Str.ofString "add") = false := by decide +kernel
theorem wd_stop_less : decide (Str.ofString "stop" = Str.ofString "less") = false := by decide +kernel
theorem wd_set_skip : decide (Str.ofString "set" = Str.ofString "skip") = false := by decide +kernel
theorem wd_set_again : decide (Str.ofString "set" = Str.ofString "again") = false := by decide +kernel
theorem wd_set_stop : decide (Str.ofString "set" = Str.ofString "stop") = false := by decide +kernel
theorem wd_set_set : decide (Str.ofString "set" = Str.ofString "set") = true := by decide +kernel
theorem wd_set_add : decide (Str.ofString "set" = Str.ofString "add") = false := by decide +kernel
theorem wd_set_less : decide (Str.ofString "set" = Str.ofString "less") = false := by decide +kernel
theorem wd_add_skip : decide (Str.ofString "add" = Str.ofString "skip") = false := by decide +kernel
theorem wd_add_again : decide (Str.ofString "add" = Str.ofString "again") = false := by decide +kernel
theorem wd_add_stop : decide (Str.ofString "add" = Str.ofString "stop") = false := by decide +kernel
theorem wd_add_set : decide (Str.ofString "add" = Str.ofString "set") = false := by decide +kernel
theorem wd_add_add : decide (Str.ofString "add" = Str.ofString "add") = true := by decide +kernel
theorem wd_add_less : decide (Str.ofString "add" = Str.ofString "less") = false := by decide +kernel
theorem wd_less_skip : decide (Str.ofString "less" = Str.ofString "skip") = false := by decide +kernel
theorem wd_less_again : decide (Str.ofString "less" = Str.ofString "again") = false := by decide +kernel
theorem wd_less_stop : decide (Str.ofString "less" = Str.ofString "stop") = false := by decide +kernel
theorem wd_less_set : decide (Str.ofString "less" = Str.ofString "set") = false := by decide +kernel
theorem wd_less_add : decide (Str.ofString "less" = Str.ofString "add") = false := by decide +kernel
theorem wd_less_less : decide (Str.ofString "less" = Str.ofString "less") = true := by decide +kernel
/-! ### a thread -/
abbrev TF (rws : List W) (n : Nat) (air : Int) (b : Nat) : List (Str × W) := [("own_rows", .tup rws), ("own_number", .int (n : Int)), ("own_breath", .int air), ("own_boxes", .loc b)]
structure Th (s : Sto) (l b : Nat) (rws : List W) (n : Nat) (air : Int) (xs : List Int) : Prop where
  ob : s[l]? = some (.ins 0 (TF rws n air b))
  bo : s[b]? = some (.dct (bx xs))
  ne : l ≠ b
  len : xs.length = 6
section
variable {s : Sto} {l b n : Nat} {rws : List W} {a : Int} {xs : List Int}
theorem Th.rows (h : Th s l b rws n a xs) : fldW [0] "own_rows" (.loc l) s = .ok (.tup rws) s := fldW_at h.ob rfl rfl
theorem Th.num (h : Th s l b rws n a xs) : fldW [0] "own_number" (.loc l) s = .ok (.int (n : Int)) s := fldW_at h.ob rfl rfl
theorem Th.air (h : Th s l b rws n a xs) : fldW [0] "own_breath" (.loc l) s = .ok (.int a) s := fldW_at h.ob rfl rfl
theorem Th.box (h : Th s l b rws n a xs) : fldW [0] "own_boxes" (.loc l) s = .ok (.loc b) s := fldW_at h.ob rfl rfl
theorem Th.set_num (h : Th s l b rws n a xs) (m : Nat) : setFW [0] "own_number" (.loc l) (.int (m : Int)) s = .ok () (s.set l (.ins 0 (TF rws m a b))) := setFW_at h.ob rfl (show 4 < 1000 by decide)
theorem Th.set_air (h : Th s l b rws n a xs) (c : Int) : setFW [0] "own_breath" (.loc l) (.int c) s = .ok () (s.set l (.ins 0 (TF rws n c b))) := setFW_at h.ob rfl (show 4 < 1000 by decide)
theorem Th.mth (h : Th s l b rws n a xs) {m : Str} {tb : MTab} (hm : ((TF rws n a b).lookup m).isNone = true) : mthW s (.loc l) m tb = tb.lookup 0 := mthW_at h.ob hm
theorem Th.mth1 (h : Th s l b rws n a xs) {m : Str} {f : Nat} {dd : List W} {ord : List Nat} (hm : ((TF rws n a b).lookup m).isNone = true) : mthW s (.loc l) m [(0, f, dd, ord)] = some (f, dd, ord) := h.mth hm
theorem b_nxt (ρ : Env) (s : Sto) : bodyRes (.ok .nxt ρ s) = .ok .non s := rfl
theorem Th.cls (h : Th s l b rws n a xs) : clsOf s (.loc l) = some 0 := clsOf_at h.ob
theorem Th.fr {X : List Nat} {s' : Sto} (h : Th s l b rws n a xs) (f : Fr X s s') (h1 : l ∉ X) (h2 : b ∉ X) : Th s' l b rws n a xs := ⟨f.2 _ _ h1 h.ob, f.2 _ _ h2 h.bo, h.ne, h.len⟩
theorem Th.app (h : Th s l b rws n a xs) (t : Sto) : Th (s ++ t) l b rws n a xs := h.fr (Fr.app [] s t) (by simp) (by simp)
end
end MiT

namespace K52
open PySem L2 Mi
def top (i : Nat) : Stmt := PySem.Challenge.pw_oneincommon_k52_skip_and_again.main.body.getD i (.Pass ⟨0, 0, 0, 0⟩)
def kBOXES : W := .tup [(.str "a"), (.str "b"), (.str "c"), (.str "d"), (.str "e"), (.str "f")]
def kPLAIN : W := .tup [(.str "set"), (.str "add"), (.str "less"), (.str "skip"), (.str "again"), (.str "stop")]
def kFORMS : W := .frd ["set", "add", "less", "skip", "again", "stop", "meet", "locker", "drop", "open", "shut", "join"] [(.str "bn"), (.str "bb"), (.str "bb"), (.str "mb"), (.str "mb"), (.str ""), (.str "ssbb"), (.str "s"), (.str "s"), (.str "ssb"), (.str "ssb"), (.str "ss")]
def kLOOKS : W := .frd ["b", "s", "n", "m"] [(.glb 4), (.glb 5), (.glb 0), (.glb 2)]
def gt : List (Str × GE) := [⟨"LETTERS", .cst (.str "abcdefghijklmnopqrstuvwxyz")⟩,
  ⟨"MOST_LETTERS", .cst (.int 8)⟩,
  ⟨"LINE", .cst (.str "line")⟩,
  ⟨"KEY", .cst (.str "key")⟩,
  ⟨"SLOTS", .cst (.int 6)⟩,
  ⟨"MOST_HANDED", .cst (.int 5)⟩,
  ⟨"BEGET", .cst (.str "beget")⟩,
  ⟨"START_BOX", .cst (.str "a")⟩,
  ⟨"BOXES", .cst kBOXES⟩,
  ⟨"PLAIN", .cst kPLAIN⟩,
  ⟨"FORMS", .cst kFORMS⟩,
  ⟨"LOOKS", .cst kLOOKS⟩,
  ⟨"is_whole", .fn 0 [⟨1, [], [], [0]⟩]⟩,
  ⟨"is_count", .fn 1 [⟨1, [], [], [0]⟩]⟩,
  ⟨"is_from_one", .fn 2 [⟨1, [], [], [0]⟩]⟩,
  ⟨"is_name", .fn 3 [⟨1, [], [], [0]⟩]⟩,
  ⟨"is_box", .fn 4 [⟨1, [], [], [0]⟩]⟩,
  ⟨"is_slot", .fn 5 [⟨1, [], [], [0]⟩]⟩,
  ⟨"is_part", .fn 6 [⟨2, [], [], [0, 1]⟩]⟩,
  ⟨"are_handed", .fn 7 [⟨1, [], [], [0]⟩]⟩,
  ⟨"is_common", .fn 8 [⟨2, [], [], [0, 1]⟩]⟩,
  ⟨"is_beget", .fn 9 [⟨1, [], [], [0]⟩]⟩,
  ⟨"is_row", .fn 10 [⟨1, [], [], [0]⟩]⟩,
  ⟨"is_plain", .fn 11 [⟨1, [], [], [0]⟩]⟩,
  ⟨"_law_pot", .fn 12 [⟨2, [], [], [0, 1]⟩]⟩,
  ⟨"_law_take", .fn 13 [⟨2, [], [], [0, 1]⟩]⟩,
  ⟨"_law_number", .fn 14 [⟨1, [], [], [0]⟩]⟩,
  ⟨"_law_box", .fn 15 [⟨1, [], [], [0]⟩]⟩,
  ⟨"_law_plain", .fn 16 [⟨3, [], [], [0, 1, 2]⟩]⟩,
  ⟨"_law_counted", .fn 17 [⟨1, [], [], [0]⟩]⟩,
  ⟨"_law_walked", .fn 18 [⟨3, [], [], [0, 1, 2]⟩]⟩,
  ⟨"_law_stands", .fn 19 [⟨3, [], [], [0, 1, 2]⟩]⟩,
  ⟨"_law_start", .fn 20 [⟨1, [], [], [0]⟩]⟩,
  ⟨"_law_rows", .fn 21 [⟨1, [], [], [0]⟩]⟩,
  ⟨"_law_right", .fn 22 [⟨1, [], [], [0]⟩]⟩,
  ⟨"_law_count_right", .fn 23 [⟨1, [], [], [0]⟩]⟩,
  ⟨"law", .fn 24 [⟨1, [], [], [0]⟩]⟩,
  ⟨"Thread", .cls ⟨0, 25, [⟨2, ["breath", "start"], [], [0, 1, 2, 3]⟩], ["own_rows", "own_number", "own_breath", "own_boxes"], [("at_row", 26, [⟨1, [], [], [0]⟩]), ("is_over", 27, [⟨1, [], [], [0]⟩]), ("coming", 28, [⟨1, [], [], [0]⟩]), ("breath", 29, [⟨1, [], [], [0]⟩]), ("boxes", 30, [⟨1, [], [], [0]⟩]), ("put", 31, [⟨3, [], [], [0, 1, 2]⟩]), ("want_breath", 32, [⟨1, [], [], [0]⟩]), ("go_to", 33, [⟨2, [], [], [0, 1]⟩]), ("number_behind", 34, [⟨2, [], [], [0, 1]⟩]), ("step", 35, [⟨1, [], [], [0]⟩])]⟩⟩,
  ⟨"abs", .blt⟩,
  ⟨"all", .blt⟩,
  ⟨"bool", .blt⟩,
  ⟨"dict", .blt⟩,
  ⟨"divmod", .blt⟩,
  ⟨"int", .blt⟩,
  ⟨"isinstance", .blt⟩,
  ⟨"len", .blt⟩,
  ⟨"max", .blt⟩,
  ⟨"min", .blt⟩,
  ⟨"range", .blt⟩,
  ⟨"repr", .blt⟩,
  ⟨"reversed", .blt⟩,
  ⟨"set", .blt⟩,
  ⟨"str", .blt⟩,
  ⟨"tuple", .blt⟩,
  ⟨"zip", .blt⟩]
def N0 : List Str := ["thing"]
def N1 : List Str := ["thing"]
def N2 : List Str := ["thing"]
def N3 : List Str := ["thing", "sign"]
def N4 : List Str := ["thing"]
def N5 : List Str := ["thing"]
def N6 : List Str := ["thing", "mark", "look"]
def N7 : List Str := ["thing", "slot"]
def N8 : List Str := ["thing", "handed"]
def N9 : List Str := ["thing"]
def N10 : List Str := ["thing", "word", "parts", "part", "mark"]
def N11 : List Str := ["thing"]
def N12 : List Str := ["script", "k", "cell"]
def N13 : List Str := ["pot", "many", "digit"]
def N14 : List Str := ["pot", "far"]
def N15 : List Str := ["pot"]
def N16 : List Str := ["pot", "k", "many", "way"]
def N17 : List Str := ["pot", "middle", "many", "room", "k"]
def N18 : List Str := ["rows", "first", "air", "left", "boxes", "at", "found", "ahead", "word", "parts"]
def N19 : List Str := ["made", "rows", "due", "row", "number", "left", "boxes"]
def N20 : List Str := ["pot"]
def N21 : List Str := ["pot", "many", "k"]
def N22 : List Str := ["pot", "both", "dues", "made", "turn", "one", "two", "firsts", "airs", "k", "due"]
def N23 : List Str := ["pot", "made", "steps", "many", "rows", "room"]
def N24 : List Str := ["script", "k", "pot"]
def N25 : List Str := ["self", "rows", "breath", "start", "box"]
def N26 : List Str := ["self"]
def N27 : List Str := ["self"]
def N28 : List Str := ["self"]
def N29 : List Str := ["self"]
def N30 : List Str := ["self"]
def N31 : List Str := ["self", "box", "number"]
def N32 : List Str := ["self"]
def N33 : List Str := ["self", "number"]
def N34 : List Str := ["self", "row", "word", "parts"]
def N35 : List Str := ["self", "row", "number"]
/-- is_whole -/
def b0 : List S := [
    (.rtn (.and [(.isi (.var 0) [.int]), (.not (.isi (.var 0) [.bool]))]))]
/-- is_count -/
def b1 : List S := [
    (.rtn (.and [(.call 0 [(.var 0)] [] [0]), (.cmp .ge (.var 0) (.cst (.int 0)))]))]
/-- is_from_one -/
def b2 : List S := [
    (.rtn (.and [(.call 0 [(.var 0)] [] [0]), (.cmp .gt (.var 0) (.cst (.int 0)))]))]
/-- is_name -/
def b3 : List S := [
    (.ite (.or [(.not (.isi (.var 0) [.str])), (.not (.cmp2 .le .le (.cst (.int 1)) (.blt .len [(.var 0)]) (.cst (.int 8))))]) [(.rtn (.cst (.bl false)))] []),
    (.rtn (.blt .all [(.lc (.cmp .isin (.var 1) (.cst (.str "abcdefghijklmnopqrstuvwxyz"))) (.nm 1) [1] .val [(.var 0)] [])]))]
/-- is_box -/
def b4 : List S := [
    (.rtn (.and [(.isi (.var 0) [.str]), (.cmp .isin (.var 0) (.cst kBOXES))]))]
/-- is_slot -/
def b5 : List S := [
    (.rtn (.and [(.call 1 [(.var 0)] [] [0]), (.cmp .lt (.var 0) (.cst (.int 6)))]))]
/-- is_part -/
def b6 : List S := [
    (.set (.nm 2) (.idx (.cst kLOOKS) (.var 1))),
    (.rtn (.callv 2 [0, 1, 2, 3, 4, 5, 7, 9, 10, 11, 14, 15, 17, 20, 21, 22, 23, 24] [(.var 0)]))]
/-- are_handed -/
def b7 : List S := [
    (.ite (.or [(.not (.isi (.var 0) [.tuple])), (.cmp .gt (.blt .len [(.var 0)]) (.cst (.int 5))), (.not (.blt .all [(.lc (.call 5 [(.var 1)] [] [0]) (.nm 1) [1] .val [(.var 0)] [])]))]) [(.rtn (.cst (.bl false)))] []),
    (.rtn (.cmp .eq (.lset (.var 0)) (.blt .len [(.var 0)])))]
/-- is_common -/
def b8 : List S := [
    (.ite (.or [(.not (.isi (.var 0) [.tuple])), (.cmp .notin (.blt .len [(.var 0)]) (.tup [(.cst (.int 0)), (.cst (.int 2))]))]) [(.rtn (.cst (.bl false)))] []),
    (.ite (.cmp .eq (.blt .len [(.var 0)]) (.cst (.int 0))) [(.rtn (.cst (.bl true)))] []),
    (.rtn (.and [(.isi (.idx (.var 0) (.cst (.int 0))) [.str]), (.cmp .isin (.idx (.var 0) (.cst (.int 0))) (.tup [(.cst (.str "line")), (.cst (.str "key"))])), (.call 5 [(.idx (.var 0) (.cst (.int 1)))] [] [0]), (.cmp .notin (.idx (.var 0) (.cst (.int 1))) (.var 1))]))]
/-- is_beget -/
def b9 : List S := [
    (.ite (.or [(.cmp .ne (.blt .len [(.var 0)]) (.cst (.int 6))), (.not (.call 3 [(.idx (.var 0) (.cst (.int 1)))] [] [0])), (.not (.call 2 [(.idx (.var 0) (.cst (.int 2)))] [] [0])), (.not (.call 7 [(.idx (.var 0) (.cst (.int 3)))] [] [0]))]) [(.rtn (.cst (.bl false)))] []),
    (.rtn (.and [(.call 8 [(.idx (.var 0) (.cst (.int 4))), (.idx (.var 0) (.cst (.int 3)))] [] [0, 1]), (.call 4 [(.idx (.var 0) (.cst (.int 5)))] [] [0])]))]
/-- is_row -/
def b10 : List S := [
    (.ite (.or [(.not (.isi (.var 0) [.tuple])), (.cmp .eq (.blt .len [(.var 0)]) (.cst (.int 0))), (.not (.isi (.idx (.var 0) (.cst (.int 0))) [.str]))]) [(.rtn (.cst (.bl false)))] []),
    (.set (.st [1] 2) (.var 0)),
    (.ite (.cmp .eq (.var 1) (.cst (.str "beget"))) [(.rtn (.call 9 [(.var 0)] [] [0]))] []),
    (.ite (.or [(.cmp .notin (.var 1) (.cst kFORMS)), (.cmp .ne (.blt .len [(.var 2)]) (.blt .len [(.idx (.cst kFORMS) (.var 1))]))]) [(.rtn (.cst (.bl false)))] []),
    (.ite (.not (.blt .all [(.lc (.call 6 [(.var 3), (.var 4)] [] [0, 1]) (.tp [3, 4]) [3, 4] .zip [(.var 2), (.idx (.cst kFORMS) (.var 1))] [])])) [(.rtn (.cst (.bl false)))] []),
    (.rtn (.or [(.cmp .ne (.slc (.idx (.cst kFORMS) (.var 1)) [] [(.cst (.int 2))]) (.cst (.str "ss"))), (.cmp .ne (.idx (.var 2) (.cst (.int 0))) (.idx (.var 2) (.cst (.int 1))))]))]
/-- is_plain -/
def b11 : List S := [
    (.rtn (.and [(.call 10 [(.var 0)] [] [0]), (.cmp .isin (.idx (.var 0) (.cst (.int 0))) (.cst kPLAIN))]))]
/-- _law_pot -/
def b12 : List S := [
    (.set (.nm 2) (.cst (.int 0))),
    (.ite (.cmp .lt (.var 1) (.blt .len [(.var 0)])) [(.set (.nm 2) (.blt .abs [(.idx (.var 0) (.var 1))]))] []),
    (.rtn (.lst [(.blt .max [(.cst (.int 0)), (.bin .sub (.var 2) (.bin .pow (.cst (.int 10)) (.cst (.int 18))))]), (.bin .add (.bin .mod (.bin .pow (.bin .add (.bin .add (.bin .mod (.var 2) (.cst (.int 2147483563))) (.bin .mul (.cst (.int 307)) (.var 1))) (.cst (.int 5))) (.cst (.int 2))) (.cst (.int 2147483549))) (.cst (.int 1)))]))]
/-- _law_take -/
def b13 : List S := [
    (.ite (.cmp .gt (.idx (.var 0) (.cst (.int 0))) (.cst (.int 0))) [(.set (.tp [(.sub (.var 0) (.cst (.int 0))), (.nm 2)]) (.blt .divmod [(.idx (.var 0) (.cst (.int 0))), (.var 1)])), (.rtn (.var 2))] []),
    (.set (.sub (.var 0) (.cst (.int 1))) (.bin .mod (.bin .add (.bin .mul (.idx (.var 0) (.cst (.int 1))) (.cst (.int 48271))) (.cst (.int 30011))) (.cst (.int 2147483587)))),
    (.rtn (.bin .mod (.bin .fdiv (.bin .mod (.bin .mul (.idx (.var 0) (.cst (.int 1))) (.idx (.var 0) (.cst (.int 1)))) (.cst (.int 2147483543))) (.cst (.int 7))) (.var 1)))]
/-- _law_number -/
def b14 : List S := [
    (.set (.nm 1) (.bin .add (.bin .sub (.call 13 [(.var 0), (.bin .sub (.bin .mul (.cst (.int 2)) (.bin .pow (.cst (.int 10)) (.cst (.int 30)))) (.cst (.int 1)))] [] [0, 1]) (.bin .pow (.cst (.int 10)) (.cst (.int 30)))) (.cst (.int 1)))),
    (.rtn (.idx (.lst [(.cst (.int 0)), (.cst (.int 1)), (.neg (.cst (.int 1))), (.bin .sub (.call 13 [(.var 0), (.cst (.int 19))] [] [0, 1]) (.cst (.int 9))), (.var 1)]) (.call 13 [(.var 0), (.cst (.int 5))] [] [0, 1])))]
/-- _law_box -/
def b15 : List S := [
    (.rtn (.idx (.cst (.str "abcdef")) (.call 13 [(.var 0), (.idx (.lst [(.cst (.int 2)), (.cst (.int 6))]) (.call 13 [(.var 0), (.cst (.int 2))] [] [0, 1]))] [] [0, 1])))]
/-- _law_plain -/
def b16 : List S := [
    (.set (.nm 3) (.call 13 [(.var 0), (.cst (.int 8))] [] [0, 1])),
    (.ite (.and [(.cmp .lt (.var 3) (.cst (.int 2))), (.cmp .lt (.bin .add (.var 1) (.cst (.int 1))) (.var 2))]) [(.rtn (.tup [(.cst (.str "skip")), (.bin .add (.cst (.int 1)) (.call 13 [(.var 0), (.bin .sub (.bin .sub (.var 2) (.var 1)) (.cst (.int 1)))] [] [0, 1])), (.call 15 [(.var 0)] [] [0])]))] []),
    (.ite (.and [(.cmp .lt (.var 3) (.cst (.int 5))), (.cmp .gt (.var 3) (.cst (.int 1))), (.cmp .gt (.var 1) (.cst (.int 0)))]) [(.rtn (.tup [(.cst (.str "again")), (.bin .add (.cst (.int 1)) (.call 13 [(.var 0), (.var 1)] [] [0, 1])), (.call 15 [(.var 0)] [] [0])]))] []),
    (.ite (.and [(.cmp .eq (.var 3) (.cst (.int 5))), (.cmp .eq (.call 13 [(.var 0), (.cst (.int 3))] [] [0, 1]) (.cst (.int 0)))]) [(.rtn (.tup [(.cst (.str "stop"))]))] []),
    (.ite (.cmp .eq (.var 3) (.cst (.int 7))) [(.rtn (.tup [(.cst (.str "set")), (.call 15 [(.var 0)] [] [0]), (.call 14 [(.var 0)] [] [0])]))] []),
    (.rtn (.tup [(.idx (.lst [(.cst (.str "add")), (.cst (.str "less"))]) (.call 13 [(.var 0), (.cst (.int 2))] [] [0, 1])), (.call 15 [(.var 0)] [] [0]), (.call 15 [(.var 0)] [] [0])]))]
/-- _law_counted -/
def b17 : List S := [
    (.set (.tp [(.nm 2), (.nm 3)]) (.tup [(.call 13 [(.var 0), (.cst (.int 7))] [] [0, 1]), (.bin .add (.cst (.int 1)) (.call 13 [(.var 0), (.cst (.int 3))] [] [0, 1]))])),
    (.set (.nm 1) (.lc (.tup [(.cst (.str "add")), (.cst (.str "c")), (.cst (.str "b"))]) (.nm 4) [4] .rng1 [(.var 3)] [])),
    (.rtn (.tup [(.var 2), (.bin .add (.bin .add (.lst [(.tup [(.cst (.str "set")), (.cst (.str "b")), (.cst (.int 1))])]) (.var 1)) (.lst [(.tup [(.cst (.str "less")), (.cst (.str "a")), (.cst (.str "b"))]), (.tup [(.cst (.str "again")), (.bin .add (.var 3) (.cst (.int 1))), (.cst (.str "a"))]), (.tup [(.cst (.str "stop"))])])), (.var 3)]))]
/-- _law_walked -/
def b18 : List S := [
    (.set (.tp [(.nm 4), (.nm 5), (.nm 6)]) (.tup [(.dct [(.cst (.str "a")), (.var 1), (.cst (.str "b")), (.cst (.int 0)), (.cst (.str "c")), (.cst (.int 0)), (.cst (.str "d")), (.cst (.int 0)), (.cst (.str "e")), (.cst (.int 0)), (.cst (.str "f")), (.cst (.int 0))]), (.cst (.int 0)), (.lst [])])),
    (.for (.nm 3) .rrng [(.bin .add (.var 2) (.cst (.int 1)))] [(.exp (.met .append (.var 6) [(.tup [(.var 5), (.var 3), (.blt .dict [(.var 4)])])])), (.ite (.cmp .lt (.var 5) (.blt .len [(.var 0)])) [(.set (.tp [(.nm 8), (.nm 9)]) (.tup [(.idx (.idx (.var 0) (.var 5)) (.cst (.int 0))), (.slc (.idx (.var 0) (.var 5)) [(.cst (.int 1))] [])])), (.set (.nm 7) (.bin .add (.var 5) (.cst (.int 1)))), (.ite (.cmp .eq (.var 8) (.cst (.str "set"))) [(.set (.sub (.var 4) (.idx (.var 9) (.cst (.int 0)))) (.idx (.var 9) (.cst (.int 1))))] []), (.ite (.cmp .eq (.var 8) (.cst (.str "add"))) [(.set (.sub (.var 4) (.idx (.var 9) (.cst (.int 0)))) (.bin .add (.idx (.var 4) (.idx (.var 9) (.cst (.int 0)))) (.idx (.var 4) (.idx (.var 9) (.cst (.int 1))))))] []), (.ite (.cmp .eq (.var 8) (.cst (.str "less"))) [(.set (.sub (.var 4) (.idx (.var 9) (.cst (.int 0)))) (.bin .sub (.idx (.var 4) (.idx (.var 9) (.cst (.int 0)))) (.idx (.var 4) (.idx (.var 9) (.cst (.int 1))))))] []), (.ite (.cmp .eq (.var 8) (.cst (.str "skip"))) [(.set (.nm 7) (.bin .add (.var 7) (.bin .mul (.idx (.var 9) (.cst (.int 0))) (.blt .int [(.cmp .eq (.idx (.var 4) (.idx (.var 9) (.cst (.int 1)))) (.cst (.int 0)))]))))] []), (.ite (.cmp .eq (.var 8) (.cst (.str "again"))) [(.set (.nm 7) (.ite (.cmp .ne (.idx (.var 4) (.idx (.var 9) (.cst (.int 1)))) (.cst (.int 0))) (.bin .sub (.var 5) (.idx (.var 9) (.cst (.int 0)))) (.var 7)))] []), (.set (.nm 5) (.ite (.cmp .eq (.var 8) (.cst (.str "stop"))) (.blt .len [(.var 0)]) (.var 7)))] [(.rtn (.var 6))])]),
    (.rtn (.var 6))]
/-- _law_stands -/
def b19 : List S := [
    (.set (.tp [(.nm 4), (.nm 5), (.nm 6)]) (.var 2)),
    (.ite (.cmp .ne (.blt .repr [(.tup [(.mth (.var 0) "at_row" [(0, 26, [], [0])] []), (.mth (.var 0) "breath" [(0, 29, [], [0])] []), (.mth (.var 0) "boxes" [(0, 30, [], [0])] [])])]) (.blt .repr [(.tup [(.var 4), (.var 5), (.var 6)])])) [(.rtn (.cst (.bl false)))] []),
    (.set (.nm 3) (.ite (.cmp .lt (.var 4) (.blt .len [(.var 1)])) (.idx (.var 1) (.var 4)) (.cst .non))),
    (.rtn (.cmp .eq (.blt .repr [(.tup [(.mth (.var 0) "coming" [(0, 28, [], [0])] []), (.mth (.var 0) "is_over" [(0, 27, [], [0])] [])])]) (.blt .repr [(.tup [(.var 3), (.cmp .is (.var 3) (.cst .non))])])))]
/-- _law_start -/
def b20 : List S := [
    (.rtn (.idx (.lst [(.call 13 [(.var 0), (.cst (.int 5))] [] [0, 1]), (.call 14 [(.var 0)] [] [0])]) (.call 13 [(.var 0), (.cst (.int 2))] [] [0, 1])))]
/-- _law_rows -/
def b21 : List S := [
    (.set (.nm 1) (.idx (.lst [(.bin .add (.cst (.int 1)) (.call 13 [(.var 0), (.cst (.int 4))] [] [0, 1])), (.bin .add (.cst (.int 1)) (.call 13 [(.var 0), (.cst (.int 12))] [] [0, 1]))]) (.call 13 [(.var 0), (.cst (.int 2))] [] [0, 1]))),
    (.rtn (.lc (.call 16 [(.var 0), (.var 2), (.var 1)] [] [0, 1, 2]) (.nm 2) [2] .rng1 [(.var 1)] []))]
/-- _law_right -/
def b22 : List S := [
    (.set (.tp [(.nm 5), (.nm 6)]) (.tup [(.call 21 [(.var 0)] [] [0]), (.call 21 [(.var 0)] [] [0])])),
    (.set (.nm 1) (.lst [(.var 5), (.idx (.lst [(.var 5), (.var 6)]) (.call 13 [(.var 0), (.cst (.int 2))] [] [0, 1]))])),
    (.set (.tp [(.nm 7), (.nm 8)]) (.tup [(.lst [(.call 20 [(.var 0)] [] [0]), (.call 20 [(.var 0)] [] [0])]), (.lst [(.call 13 [(.var 0), (.cst (.int 41))] [] [0, 1]), (.call 13 [(.var 0), (.cst (.int 41))] [] [0, 1])])])),
    (.set (.nm 2) (.lc (.call 18 [(.idx (.var 1) (.var 9)), (.idx (.var 7) (.var 9)), (.idx (.var 8) (.var 9))] [] [0, 1, 2]) (.nm 9) [9] .rng1 [(.cst (.int 2))] [])),
    (.set (.nm 3) (.lc (.mk 0 25 [(.idx (.var 1) (.var 9)), (.idx (.var 8) (.var 9)), (.idx (.var 7) (.var 9))] [] [0, 1, 2, 3]) (.nm 9) [9] .rng1 [(.cst (.int 2))] [])),
    (.for (.nm 4) .rng1 [(.cst (.int 41))] [(.for (.nm 9) .rng1 [(.cst (.int 2))] [(.set (.nm 10) (.idx (.var 2) (.var 9))), (.ite (.not (.call 19 [(.idx (.var 3) (.var 9)), (.idx (.var 1) (.var 9)), (.idx (.var 10) (.blt .min [(.var 4), (.bin .sub (.blt .len [(.var 10)]) (.cst (.int 1)))]))] [] [0, 1, 2])) [(.rtn (.cst (.bl false)))] []), (.ite (.cmp .lt (.var 4) (.bin .sub (.blt .len [(.var 10)]) (.cst (.int 1)))) [(.exp (.mth (.idx (.var 3) (.var 9)) "step" [(0, 35, [], [0])] []))] [])])]),
    (.rtn (.cst (.bl true)))]
/-- _law_count_right -/
def b23 : List S := [
    (.set (.tp [(.nm 3), (.nm 4), (.nm 5)]) (.call 17 [(.var 0)] [] [0])),
    (.set (.nm 1) (.mk 0 25 [(.var 4), (.cst (.int 200)), (.bin .add (.var 3) (.cst (.int 1)))] [] [0, 1, 2, 3])),
    (.set (.nm 2) (.cst (.int 0))),
    (.whl (.and [(.not (.mth (.var 1) "is_over" [(0, 27, [], [0])] [])), (.cmp .lt (.var 2) (.cst (.int 200)))]) [(.exp (.mth (.var 1) "step" [(0, 35, [], [0])] [])), (.set (.nm 2) (.bin .add (.var 2) (.cst (.int 1))))]),
    (.rtn (.and [(.cmp .eq (.idx (.mth (.var 1) "boxes" [(0, 30, [], [0])] []) (.cst (.str "c"))) (.bin .mul (.var 5) (.bin .add (.var 3) (.cst (.int 1))))), (.cmp .eq (.idx (.mth (.var 1) "boxes" [(0, 30, [], [0])] []) (.cst (.str "a"))) (.cst (.int 0))), (.cmp .eq (.var 2) (.bin .add (.cst (.int 2)) (.bin .mul (.bin .add (.var 5) (.cst (.int 2))) (.bin .add (.var 3) (.cst (.int 1))))))]))]
/-- law -/
def b24 : List S := [
    (.for (.nm 1) .rng1 [(.blt .max [(.cst (.int 1)), (.blt .min [(.cst (.int 6)), (.blt .len [(.var 0)])])])] [(.set (.nm 2) (.call 12 [(.var 0), (.var 1)] [] [0, 1])), (.ite (.or [(.not (.call 22 [(.var 2)] [] [0])), (.not (.call 23 [(.var 2)] [] [0]))]) [(.rtn (.cst (.bl false)))] [])]),
    (.rtn (.cst (.bl true)))]
/-- Thread.__init__ -/
def b25 : List S := [
    (.fset (.var 0) "own_rows" [0] (.blt .tuple [(.var 1)])),
    (.fset (.var 0) "own_number" [0] (.cst (.int 0))),
    (.fset (.var 0) "own_breath" [0] (.var 2)),
    (.fset (.var 0) "own_boxes" [0] (.dc (.var 4) (.cst (.int 0)) (.nm 4) [4] .val [(.cst kBOXES)] [])),
    (.set (.sub (.fld (.var 0) "own_boxes" [0]) (.cst (.str "a"))) (.var 3))]
/-- Thread.at_row -/
def b26 : List S := [
    (.rtn (.fld (.var 0) "own_number" [0]))]
/-- Thread.is_over -/
def b27 : List S := [
    (.rtn (.cmp .eq (.fld (.var 0) "own_number" [0]) (.blt .len [(.fld (.var 0) "own_rows" [0])])))]
/-- Thread.coming -/
def b28 : List S := [
    (.ite (.mth (.var 0) "is_over" [(0, 27, [], [0])] []) [(.rtn (.cst .non))] []),
    (.rtn (.idx (.fld (.var 0) "own_rows" [0]) (.fld (.var 0) "own_number" [0])))]
/-- Thread.breath -/
def b29 : List S := [
    (.rtn (.fld (.var 0) "own_breath" [0]))]
/-- Thread.boxes -/
def b30 : List S := [
    (.rtn (.blt .dict [(.fld (.var 0) "own_boxes" [0])]))]
/-- Thread.put -/
def b31 : List S := [
    (.set (.sub (.fld (.var 0) "own_boxes" [0]) (.var 1)) (.var 2))]
/-- Thread.want_breath -/
def b32 : List S := [
    (.ite (.mth (.var 0) "is_over" [(0, 27, [], [0])] []) [.bad] []),
    (.ite (.cmp .eq (.fld (.var 0) "own_breath" [0]) (.cst (.int 0))) [.bad] [])]
/-- Thread.go_to -/
def b33 : List S := [
    (.fset (.var 0) "own_number" [0] (.var 1)),
    (.faug (.var 0) "own_breath" [0] .sub (.cst (.int 1)))]
/-- Thread.number_behind -/
def b34 : List S := [
    (.set (.st [2] 3) (.var 1)),
    (.ite (.and [(.cmp .eq (.var 2) (.cst (.str "skip"))), (.cmp .eq (.idx (.fld (.var 0) "own_boxes" [0]) (.idx (.var 3) (.cst (.int 1)))) (.cst (.int 0)))]) [(.rtn (.bin .add (.bin .add (.fld (.var 0) "own_number" [0]) (.cst (.int 1))) (.idx (.var 3) (.cst (.int 0)))))] []),
    (.ite (.and [(.cmp .eq (.var 2) (.cst (.str "again"))), (.cmp .ne (.idx (.fld (.var 0) "own_boxes" [0]) (.idx (.var 3) (.cst (.int 1)))) (.cst (.int 0)))]) [(.rtn (.bin .sub (.fld (.var 0) "own_number" [0]) (.idx (.var 3) (.cst (.int 0)))))] []),
    (.ite (.cmp .eq (.var 2) (.cst (.str "stop"))) [(.rtn (.blt .len [(.fld (.var 0) "own_rows" [0])]))] []),
    (.rtn (.bin .add (.fld (.var 0) "own_number" [0]) (.cst (.int 1))))]
/-- Thread.step -/
def b35 : List S := [
    (.exp (.mth (.var 0) "want_breath" [(0, 32, [], [0])] [])),
    (.set (.nm 1) (.mth (.var 0) "coming" [(0, 28, [], [0])] [])),
    (.ite (.not (.call 11 [(.var 1)] [] [0])) [.bad] []),
    (.set (.nm 2) (.mth (.var 0) "number_behind" [(0, 34, [], [0, 1])] [(.var 1)])),
    (.ite (.cmp .eq (.idx (.var 1) (.cst (.int 0))) (.cst (.str "set"))) [(.exp (.mth (.var 0) "put" [(0, 31, [], [0, 1, 2])] [(.idx (.var 1) (.cst (.int 1))), (.idx (.var 1) (.cst (.int 2)))]))] [(.ite (.cmp .eq (.idx (.var 1) (.cst (.int 0))) (.cst (.str "add"))) [(.exp (.mth (.var 0) "put" [(0, 31, [], [0, 1, 2])] [(.idx (.var 1) (.cst (.int 1))), (.bin .add (.idx (.fld (.var 0) "own_boxes" [0]) (.idx (.var 1) (.cst (.int 1)))) (.idx (.fld (.var 0) "own_boxes" [0]) (.idx (.var 1) (.cst (.int 2)))))]))] [(.ite (.cmp .eq (.idx (.var 1) (.cst (.int 0))) (.cst (.str "less"))) [(.exp (.mth (.var 0) "put" [(0, 31, [], [0, 1, 2])] [(.idx (.var 1) (.cst (.int 1))), (.bin .sub (.idx (.fld (.var 0) "own_boxes" [0]) (.idx (.var 1) (.cst (.int 1)))) (.idx (.fld (.var 0) "own_boxes" [0]) (.idx (.var 1) (.cst (.int 2)))))]))] [])])]),
    (.exp (.mth (.var 0) "go_to" [(0, 33, [], [0, 1])] [(.var 2)]))]
def ds : List FD := [⟨1, 1, b0⟩, ⟨1, 1, b1⟩, ⟨1, 1, b2⟩, ⟨1, 2, b3⟩, ⟨1, 1, b4⟩, ⟨1, 1, b5⟩, ⟨2, 3, b6⟩, ⟨1, 2, b7⟩, ⟨2, 2, b8⟩, ⟨1, 1, b9⟩, ⟨1, 5, b10⟩, ⟨1, 1, b11⟩, ⟨2, 3, b12⟩, ⟨2, 3, b13⟩, ⟨1, 2, b14⟩, ⟨1, 1, b15⟩, ⟨3, 4, b16⟩, ⟨1, 5, b17⟩, ⟨3, 10, b18⟩, ⟨3, 7, b19⟩, ⟨1, 1, b20⟩, ⟨1, 3, b21⟩, ⟨1, 11, b22⟩, ⟨1, 6, b23⟩, ⟨1, 3, b24⟩, ⟨4, 5, b25⟩, ⟨1, 1, b26⟩, ⟨1, 1, b27⟩, ⟨1, 1, b28⟩, ⟨1, 1, b29⟩, ⟨1, 1, b30⟩, ⟨3, 3, b31⟩, ⟨1, 1, b32⟩, ⟨2, 2, b33⟩, ⟨2, 4, b34⟩, ⟨1, 3, b35⟩]
theorem c0 : (defBody (top 10)).mapM (cstmt 60 ⟨N0, defScope (top 10), gt⟩) = some b0 := by kernel_rfl
theorem s0 : FnScope N0 ["thing"] (defScope (top 10)) := ⟨rfl, rfl, rfl, by decide +kernel, rfl, by decide +kernel, by decide +kernel⟩
theorem c1 : (defBody (top 11)).mapM (cstmt 60 ⟨N1, defScope (top 11), gt⟩) = some b1 := by kernel_rfl
theorem s1 : FnScope N1 ["thing"] (defScope (top 11)) := ⟨rfl, rfl, rfl, by decide +kernel, rfl, by decide +kernel, by decide +kernel⟩
theorem c2 : (defBody (top 12)).mapM (cstmt 60 ⟨N2, defScope (top 12), gt⟩) = some b2 := by kernel_rfl
theorem s2 : FnScope N2 ["thing"] (defScope (top 12)) := ⟨rfl, rfl, rfl, by decide +kernel, rfl, by decide +kernel, by decide +kernel⟩
theorem c3 : (defBody (top 13)).mapM (cstmt 60 ⟨N3, defScope (top 13), gt⟩) = some b3 := by kernel_rfl
theorem s3 : FnScope N3 ["thing"] (defScope (top 13)) := ⟨rfl, rfl, rfl, by decide +kernel, rfl, by decide +kernel, by decide +kernel⟩
theorem c4 : (defBody (top 21)).mapM (cstmt 60 ⟨N4, defScope (top 21), gt⟩) = some b4 := by kernel_rfl
theorem s4 : FnScope N4 ["thing"] (defScope (top 21)) := ⟨rfl, rfl, rfl, by decide +kernel, rfl, by decide +kernel, by decide +kernel⟩
theorem c5 : (defBody (top 22)).mapM (cstmt 60 ⟨N5, defScope (top 22), gt⟩) = some b5 := by kernel_rfl
theorem s5 : FnScope N5 ["thing"] (defScope (top 22)) := ⟨rfl, rfl, rfl, by decide +kernel, rfl, by decide +kernel, by decide +kernel⟩
theorem c6 : (defBody (top 24)).mapM (cstmt 60 ⟨N6, defScope (top 24), gt⟩) = some b6 := by kernel_rfl
theorem s6 : FnScope N6 ["thing", "mark"] (defScope (top 24)) := ⟨rfl, rfl, rfl, by decide +kernel, rfl, by decide +kernel, by decide +kernel⟩
theorem c7 : (defBody (top 25)).mapM (cstmt 60 ⟨N7, defScope (top 25), gt⟩) = some b7 := by kernel_rfl
theorem s7 : FnScope N7 ["thing"] (defScope (top 25)) := ⟨rfl, rfl, rfl, by decide +kernel, rfl, by decide +kernel, by decide +kernel⟩
theorem c8 : (defBody (top 26)).mapM (cstmt 60 ⟨N8, defScope (top 26), gt⟩) = some b8 := by kernel_rfl
theorem s8 : FnScope N8 ["thing", "handed"] (defScope (top 26)) := ⟨rfl, rfl, rfl, by decide +kernel, rfl, by decide +kernel, by decide +kernel⟩
theorem c9 : (defBody (top 27)).mapM (cstmt 60 ⟨N9, defScope (top 27), gt⟩) = some b9 := by kernel_rfl
theorem s9 : FnScope N9 ["thing"] (defScope (top 27)) := ⟨rfl, rfl, rfl, by decide +kernel, rfl, by decide +kernel, by decide +kernel⟩
theorem c10 : (defBody (top 28)).mapM (cstmt 60 ⟨N10, defScope (top 28), gt⟩) = some b10 := by kernel_rfl
theorem s10 : FnScope N10 ["thing"] (defScope (top 28)) := ⟨rfl, rfl, rfl, by decide +kernel, rfl, by decide +kernel, by decide +kernel⟩
theorem c11 : (defBody (top 29)).mapM (cstmt 60 ⟨N11, defScope (top 29), gt⟩) = some b11 := by kernel_rfl
theorem s11 : FnScope N11 ["thing"] (defScope (top 29)) := ⟨rfl, rfl, rfl, by decide +kernel, rfl, by decide +kernel, by decide +kernel⟩
theorem c12 : (defBody (top 34)).mapM (cstmt 60 ⟨N12, defScope (top 34), gt⟩) = some b12 := by kernel_rfl
theorem s12 : FnScope N12 ["script", "k"] (defScope (top 34)) := ⟨rfl, rfl, rfl, by decide +kernel, rfl, by decide +kernel, by decide +kernel⟩
theorem c13 : (defBody (top 35)).mapM (cstmt 60 ⟨N13, defScope (top 35), gt⟩) = some b13 := by kernel_rfl
theorem s13 : FnScope N13 ["pot", "many"] (defScope (top 35)) := ⟨rfl, rfl, rfl, by decide +kernel, rfl, by decide +kernel, by decide +kernel⟩
theorem c14 : (defBody (top 37)).mapM (cstmt 60 ⟨N14, defScope (top 37), gt⟩) = some b14 := by kernel_rfl
theorem s14 : FnScope N14 ["pot"] (defScope (top 37)) := ⟨rfl, rfl, rfl, by decide +kernel, rfl, by decide +kernel, by decide +kernel⟩
theorem c15 : (defBody (top 38)).mapM (cstmt 60 ⟨N15, defScope (top 38), gt⟩) = some b15 := by kernel_rfl
theorem s15 : FnScope N15 ["pot"] (defScope (top 38)) := ⟨rfl, rfl, rfl, by decide +kernel, rfl, by decide +kernel, by decide +kernel⟩
theorem c16 : (defBody (top 39)).mapM (cstmt 60 ⟨N16, defScope (top 39), gt⟩) = some b16 := by kernel_rfl
theorem s16 : FnScope N16 ["pot", "k", "many"] (defScope (top 39)) := ⟨rfl, rfl, rfl, by decide +kernel, rfl, by decide +kernel, by decide +kernel⟩
theorem c17 : (defBody (top 40)).mapM (cstmt 60 ⟨N17, defScope (top 40), gt⟩) = some b17 := by kernel_rfl
theorem s17 : FnScope N17 ["pot"] (defScope (top 40)) := ⟨rfl, rfl, rfl, by decide +kernel, rfl, by decide +kernel, by decide +kernel⟩
theorem c18 : (defBody (top 41)).mapM (cstmt 60 ⟨N18, defScope (top 41), gt⟩) = some b18 := by kernel_rfl
theorem s18 : FnScope N18 ["rows", "first", "air"] (defScope (top 41)) := ⟨rfl, rfl, rfl, by decide +kernel, rfl, by decide +kernel, by decide +kernel⟩
theorem c19 : (defBody (top 42)).mapM (cstmt 60 ⟨N19, defScope (top 42), gt⟩) = some b19 := by kernel_rfl
theorem s19 : FnScope N19 ["made", "rows", "due"] (defScope (top 42)) := ⟨rfl, rfl, rfl, by decide +kernel, rfl, by decide +kernel, by decide +kernel⟩
theorem c20 : (defBody (top 43)).mapM (cstmt 60 ⟨N20, defScope (top 43), gt⟩) = some b20 := by kernel_rfl
theorem s20 : FnScope N20 ["pot"] (defScope (top 43)) := ⟨rfl, rfl, rfl, by decide +kernel, rfl, by decide +kernel, by decide +kernel⟩
theorem c21 : (defBody (top 44)).mapM (cstmt 60 ⟨N21, defScope (top 44), gt⟩) = some b21 := by kernel_rfl
theorem s21 : FnScope N21 ["pot"] (defScope (top 44)) := ⟨rfl, rfl, rfl, by decide +kernel, rfl, by decide +kernel, by decide +kernel⟩
theorem c22 : (defBody (top 45)).mapM (cstmt 60 ⟨N22, defScope (top 45), gt⟩) = some b22 := by kernel_rfl
theorem s22 : FnScope N22 ["pot"] (defScope (top 45)) := ⟨rfl, rfl, rfl, by decide +kernel, rfl, by decide +kernel, by decide +kernel⟩
theorem c23 : (defBody (top 46)).mapM (cstmt 60 ⟨N23, defScope (top 46), gt⟩) = some b23 := by kernel_rfl
theorem s23 : FnScope N23 ["pot"] (defScope (top 46)) := ⟨rfl, rfl, rfl, by decide +kernel, rfl, by decide +kernel, by decide +kernel⟩
theorem c24 : (defBody (top 47)).mapM (cstmt 60 ⟨N24, defScope (top 47), gt⟩) = some b24 := by kernel_rfl
theorem s24 : FnScope N24 ["script"] (defScope (top 47)) := ⟨rfl, rfl, rfl, by decide +kernel, rfl, by decide +kernel, by decide +kernel⟩
theorem c25 : (defBody ((clsBody (top 32)).getD 0 (.Pass ⟨0, 0, 0, 0⟩))).mapM (cstmt 60 ⟨N25, defScope ((clsBody (top 32)).getD 0 (.Pass ⟨0, 0, 0, 0⟩)), gt⟩) = some b25 := by kernel_rfl
theorem s25 : FnScope N25 ["self", "rows", "breath", "start"] (defScope ((clsBody (top 32)).getD 0 (.Pass ⟨0, 0, 0, 0⟩))) := ⟨rfl, rfl, rfl, by decide +kernel, rfl, by decide +kernel, by decide +kernel⟩
theorem c26 : (defBody ((clsBody (top 32)).getD 2 (.Pass ⟨0, 0, 0, 0⟩))).mapM (cstmt 60 ⟨N26, defScope ((clsBody (top 32)).getD 2 (.Pass ⟨0, 0, 0, 0⟩)), gt⟩) = some b26 := by kernel_rfl
theorem s26 : FnScope N26 ["self"] (defScope ((clsBody (top 32)).getD 2 (.Pass ⟨0, 0, 0, 0⟩))) := ⟨rfl, rfl, rfl, by decide +kernel, rfl, by decide +kernel, by decide +kernel⟩
theorem c27 : (defBody ((clsBody (top 32)).getD 3 (.Pass ⟨0, 0, 0, 0⟩))).mapM (cstmt 60 ⟨N27, defScope ((clsBody (top 32)).getD 3 (.Pass ⟨0, 0, 0, 0⟩)), gt⟩) = some b27 := by kernel_rfl
theorem s27 : FnScope N27 ["self"] (defScope ((clsBody (top 32)).getD 3 (.Pass ⟨0, 0, 0, 0⟩))) := ⟨rfl, rfl, rfl, by decide +kernel, rfl, by decide +kernel, by decide +kernel⟩
theorem c28 : (defBody ((clsBody (top 32)).getD 4 (.Pass ⟨0, 0, 0, 0⟩))).mapM (cstmt 60 ⟨N28, defScope ((clsBody (top 32)).getD 4 (.Pass ⟨0, 0, 0, 0⟩)), gt⟩) = some b28 := by kernel_rfl
theorem s28 : FnScope N28 ["self"] (defScope ((clsBody (top 32)).getD 4 (.Pass ⟨0, 0, 0, 0⟩))) := ⟨rfl, rfl, rfl, by decide +kernel, rfl, by decide +kernel, by decide +kernel⟩
theorem c29 : (defBody ((clsBody (top 32)).getD 5 (.Pass ⟨0, 0, 0, 0⟩))).mapM (cstmt 60 ⟨N29, defScope ((clsBody (top 32)).getD 5 (.Pass ⟨0, 0, 0, 0⟩)), gt⟩) = some b29 := by kernel_rfl
theorem s29 : FnScope N29 ["self"] (defScope ((clsBody (top 32)).getD 5 (.Pass ⟨0, 0, 0, 0⟩))) := ⟨rfl, rfl, rfl, by decide +kernel, rfl, by decide +kernel, by decide +kernel⟩
theorem c30 : (defBody ((clsBody (top 32)).getD 6 (.Pass ⟨0, 0, 0, 0⟩))).mapM (cstmt 60 ⟨N30, defScope ((clsBody (top 32)).getD 6 (.Pass ⟨0, 0, 0, 0⟩)), gt⟩) = some b30 := by kernel_rfl
theorem s30 : FnScope N30 ["self"] (defScope ((clsBody (top 32)).getD 6 (.Pass ⟨0, 0, 0, 0⟩))) := ⟨rfl, rfl, rfl, by decide +kernel, rfl, by decide +kernel, by decide +kernel⟩
theorem c31 : (defBody ((clsBody (top 32)).getD 7 (.Pass ⟨0, 0, 0, 0⟩))).mapM (cstmt 60 ⟨N31, defScope ((clsBody (top 32)).getD 7 (.Pass ⟨0, 0, 0, 0⟩)), gt⟩) = some b31 := by kernel_rfl
theorem s31 : FnScope N31 ["self", "box", "number"] (defScope ((clsBody (top 32)).getD 7 (.Pass ⟨0, 0, 0, 0⟩))) := ⟨rfl, rfl, rfl, by decide +kernel, rfl, by decide +kernel, by decide +kernel⟩
theorem c32 : (defBody ((clsBody (top 32)).getD 8 (.Pass ⟨0, 0, 0, 0⟩))).mapM (cstmt 60 ⟨N32, defScope ((clsBody (top 32)).getD 8 (.Pass ⟨0, 0, 0, 0⟩)), gt⟩) = some b32 := by kernel_rfl
theorem s32 : FnScope N32 ["self"] (defScope ((clsBody (top 32)).getD 8 (.Pass ⟨0, 0, 0, 0⟩))) := ⟨rfl, rfl, rfl, by decide +kernel, rfl, by decide +kernel, by decide +kernel⟩
theorem c33 : (defBody ((clsBody (top 32)).getD 9 (.Pass ⟨0, 0, 0, 0⟩))).mapM (cstmt 60 ⟨N33, defScope ((clsBody (top 32)).getD 9 (.Pass ⟨0, 0, 0, 0⟩)), gt⟩) = some b33 := by kernel_rfl
theorem s33 : FnScope N33 ["self", "number"] (defScope ((clsBody (top 32)).getD 9 (.Pass ⟨0, 0, 0, 0⟩))) := ⟨rfl, rfl, rfl, by decide +kernel, rfl, by decide +kernel, by decide +kernel⟩
theorem c34 : (defBody ((clsBody (top 32)).getD 10 (.Pass ⟨0, 0, 0, 0⟩))).mapM (cstmt 60 ⟨N34, defScope ((clsBody (top 32)).getD 10 (.Pass ⟨0, 0, 0, 0⟩)), gt⟩) = some b34 := by kernel_rfl
theorem s34 : FnScope N34 ["self", "row"] (defScope ((clsBody (top 32)).getD 10 (.Pass ⟨0, 0, 0, 0⟩))) := ⟨rfl, rfl, rfl, by decide +kernel, rfl, by decide +kernel, by decide +kernel⟩
theorem c35 : (defBody ((clsBody (top 32)).getD 11 (.Pass ⟨0, 0, 0, 0⟩))).mapM (cstmt 60 ⟨N35, defScope ((clsBody (top 32)).getD 11 (.Pass ⟨0, 0, 0, 0⟩)), gt⟩) = some b35 := by kernel_rfl
theorem s35 : FnScope N35 ["self"] (defScope ((clsBody (top 32)).getD 11 (.Pass ⟨0, 0, 0, 0⟩))) := ⟨rfl, rfl, rfl, by decide +kernel, rfl, by decide +kernel, by decide +kernel⟩
theorem h0 (G : Gs) (kV doc pm cdv ct : Value) (an : Option Addr) : ∀ sh ∈ ([⟨1, [], [], [0]⟩] : List Shape), ShapeOk G (PySem.W.fnOf "is_whole" "is_whole" (defArgs (top 10)) (defBody (top 10)) (defScope (top 10)) .none kV doc pm an cdv ct) ["thing"] sh := by
  intro sh hsh
  cases List.mem_singleton.mp hsh
  exact shape_mk rfl fun us ws zs h1 h2 h3 => match us, ws, h1, h2, h3 with | [_], [], _, _, h3 => by cases h3; rfl
theorem h1 (G : Gs) (kV doc pm cdv ct : Value) (an : Option Addr) : ∀ sh ∈ ([⟨1, [], [], [0]⟩] : List Shape), ShapeOk G (PySem.W.fnOf "is_count" "is_count" (defArgs (top 11)) (defBody (top 11)) (defScope (top 11)) .none kV doc pm an cdv ct) ["thing"] sh := by
  intro sh hsh
  cases List.mem_singleton.mp hsh
  exact shape_mk rfl fun us ws zs h1 h2 h3 => match us, ws, h1, h2, h3 with | [_], [], _, _, h3 => by cases h3; rfl
theorem h2 (G : Gs) (kV doc pm cdv ct : Value) (an : Option Addr) : ∀ sh ∈ ([⟨1, [], [], [0]⟩] : List Shape), ShapeOk G (PySem.W.fnOf "is_from_one" "is_from_one" (defArgs (top 12)) (defBody (top 12)) (defScope (top 12)) .none kV doc pm an cdv ct) ["thing"] sh := by
  intro sh hsh
  cases List.mem_singleton.mp hsh
  exact shape_mk rfl fun us ws zs h1 h2 h3 => match us, ws, h1, h2, h3 with | [_], [], _, _, h3 => by cases h3; rfl
theorem h3 (G : Gs) (kV doc pm cdv ct : Value) (an : Option Addr) : ∀ sh ∈ ([⟨1, [], [], [0]⟩] : List Shape), ShapeOk G (PySem.W.fnOf "is_name" "is_name" (defArgs (top 13)) (defBody (top 13)) (defScope (top 13)) .none kV doc pm an cdv ct) ["thing"] sh := by
  intro sh hsh
  cases List.mem_singleton.mp hsh
  exact shape_mk rfl fun us ws zs h1 h2 h3 => match us, ws, h1, h2, h3 with | [_], [], _, _, h3 => by cases h3; rfl
theorem h4 (G : Gs) (kV doc pm cdv ct : Value) (an : Option Addr) : ∀ sh ∈ ([⟨1, [], [], [0]⟩] : List Shape), ShapeOk G (PySem.W.fnOf "is_box" "is_box" (defArgs (top 21)) (defBody (top 21)) (defScope (top 21)) .none kV doc pm an cdv ct) ["thing"] sh := by
  intro sh hsh
  cases List.mem_singleton.mp hsh
  exact shape_mk rfl fun us ws zs h1 h2 h3 => match us, ws, h1, h2, h3 with | [_], [], _, _, h3 => by cases h3; rfl
theorem h5 (G : Gs) (kV doc pm cdv ct : Value) (an : Option Addr) : ∀ sh ∈ ([⟨1, [], [], [0]⟩] : List Shape), ShapeOk G (PySem.W.fnOf "is_slot" "is_slot" (defArgs (top 22)) (defBody (top 22)) (defScope (top 22)) .none kV doc pm an cdv ct) ["thing"] sh := by
  intro sh hsh
  cases List.mem_singleton.mp hsh
  exact shape_mk rfl fun us ws zs h1 h2 h3 => match us, ws, h1, h2, h3 with | [_], [], _, _, h3 => by cases h3; rfl
theorem h6 (G : Gs) (kV doc pm cdv ct : Value) (an : Option Addr) : ∀ sh ∈ ([⟨2, [], [], [0, 1]⟩] : List Shape), ShapeOk G (PySem.W.fnOf "is_part" "is_part" (defArgs (top 24)) (defBody (top 24)) (defScope (top 24)) .none kV doc pm an cdv ct) ["thing", "mark"] sh := by
  intro sh hsh
  cases List.mem_singleton.mp hsh
  exact shape_mk rfl fun us ws zs h1 h2 h3 => match us, ws, h1, h2, h3 with | [_, _], [], _, _, h3 => by cases h3; rfl
theorem h7 (G : Gs) (kV doc pm cdv ct : Value) (an : Option Addr) : ∀ sh ∈ ([⟨1, [], [], [0]⟩] : List Shape), ShapeOk G (PySem.W.fnOf "are_handed" "are_handed" (defArgs (top 25)) (defBody (top 25)) (defScope (top 25)) .none kV doc pm an cdv ct) ["thing"] sh := by
  intro sh hsh
  cases List.mem_singleton.mp hsh
  exact shape_mk rfl fun us ws zs h1 h2 h3 => match us, ws, h1, h2, h3 with | [_], [], _, _, h3 => by cases h3; rfl
theorem h8 (G : Gs) (kV doc pm cdv ct : Value) (an : Option Addr) : ∀ sh ∈ ([⟨2, [], [], [0, 1]⟩] : List Shape), ShapeOk G (PySem.W.fnOf "is_common" "is_common" (defArgs (top 26)) (defBody (top 26)) (defScope (top 26)) .none kV doc pm an cdv ct) ["thing", "handed"] sh := by
  intro sh hsh
  cases List.mem_singleton.mp hsh
  exact shape_mk rfl fun us ws zs h1 h2 h3 => match us, ws, h1, h2, h3 with | [_, _], [], _, _, h3 => by cases h3; rfl
theorem h9 (G : Gs) (kV doc pm cdv ct : Value) (an : Option Addr) : ∀ sh ∈ ([⟨1, [], [], [0]⟩] : List Shape), ShapeOk G (PySem.W.fnOf "is_beget" "is_beget" (defArgs (top 27)) (defBody (top 27)) (defScope (top 27)) .none kV doc pm an cdv ct) ["thing"] sh := by
  intro sh hsh
  cases List.mem_singleton.mp hsh
  exact shape_mk rfl fun us ws zs h1 h2 h3 => match us, ws, h1, h2, h3 with | [_], [], _, _, h3 => by cases h3; rfl
theorem h10 (G : Gs) (kV doc pm cdv ct : Value) (an : Option Addr) : ∀ sh ∈ ([⟨1, [], [], [0]⟩] : List Shape), ShapeOk G (PySem.W.fnOf "is_row" "is_row" (defArgs (top 28)) (defBody (top 28)) (defScope (top 28)) .none kV doc pm an cdv ct) ["thing"] sh := by
  intro sh hsh
  cases List.mem_singleton.mp hsh
  exact shape_mk rfl fun us ws zs h1 h2 h3 => match us, ws, h1, h2, h3 with | [_], [], _, _, h3 => by cases h3; rfl
theorem h11 (G : Gs) (kV doc pm cdv ct : Value) (an : Option Addr) : ∀ sh ∈ ([⟨1, [], [], [0]⟩] : List Shape), ShapeOk G (PySem.W.fnOf "is_plain" "is_plain" (defArgs (top 29)) (defBody (top 29)) (defScope (top 29)) .none kV doc pm an cdv ct) ["thing"] sh := by
  intro sh hsh
  cases List.mem_singleton.mp hsh
  exact shape_mk rfl fun us ws zs h1 h2 h3 => match us, ws, h1, h2, h3 with | [_], [], _, _, h3 => by cases h3; rfl
theorem h12 (G : Gs) (kV doc pm cdv ct : Value) (an : Option Addr) : ∀ sh ∈ ([⟨2, [], [], [0, 1]⟩] : List Shape), ShapeOk G (PySem.W.fnOf "_law_pot" "_law_pot" (defArgs (top 34)) (defBody (top 34)) (defScope (top 34)) .none kV doc pm an cdv ct) ["script", "k"] sh := by
  intro sh hsh
  cases List.mem_singleton.mp hsh
  exact shape_mk rfl fun us ws zs h1 h2 h3 => match us, ws, h1, h2, h3 with | [_, _], [], _, _, h3 => by cases h3; rfl
theorem h13 (G : Gs) (kV doc pm cdv ct : Value) (an : Option Addr) : ∀ sh ∈ ([⟨2, [], [], [0, 1]⟩] : List Shape), ShapeOk G (PySem.W.fnOf "_law_take" "_law_take" (defArgs (top 35)) (defBody (top 35)) (defScope (top 35)) .none kV doc pm an cdv ct) ["pot", "many"] sh := by
  intro sh hsh
  cases List.mem_singleton.mp hsh
  exact shape_mk rfl fun us ws zs h1 h2 h3 => match us, ws, h1, h2, h3 with | [_, _], [], _, _, h3 => by cases h3; rfl
theorem h14 (G : Gs) (kV doc pm cdv ct : Value) (an : Option Addr) : ∀ sh ∈ ([⟨1, [], [], [0]⟩] : List Shape), ShapeOk G (PySem.W.fnOf "_law_number" "_law_number" (defArgs (top 37)) (defBody (top 37)) (defScope (top 37)) .none kV doc pm an cdv ct) ["pot"] sh := by
  intro sh hsh
  cases List.mem_singleton.mp hsh
  exact shape_mk rfl fun us ws zs h1 h2 h3 => match us, ws, h1, h2, h3 with | [_], [], _, _, h3 => by cases h3; rfl
theorem h15 (G : Gs) (kV doc pm cdv ct : Value) (an : Option Addr) : ∀ sh ∈ ([⟨1, [], [], [0]⟩] : List Shape), ShapeOk G (PySem.W.fnOf "_law_box" "_law_box" (defArgs (top 38)) (defBody (top 38)) (defScope (top 38)) .none kV doc pm an cdv ct) ["pot"] sh := by
  intro sh hsh
  cases List.mem_singleton.mp hsh
  exact shape_mk rfl fun us ws zs h1 h2 h3 => match us, ws, h1, h2, h3 with | [_], [], _, _, h3 => by cases h3; rfl
theorem h16 (G : Gs) (kV doc pm cdv ct : Value) (an : Option Addr) : ∀ sh ∈ ([⟨3, [], [], [0, 1, 2]⟩] : List Shape), ShapeOk G (PySem.W.fnOf "_law_plain" "_law_plain" (defArgs (top 39)) (defBody (top 39)) (defScope (top 39)) .none kV doc pm an cdv ct) ["pot", "k", "many"] sh := by
  intro sh hsh
  cases List.mem_singleton.mp hsh
  exact shape_mk rfl fun us ws zs h1 h2 h3 => match us, ws, h1, h2, h3 with | [_, _, _], [], _, _, h3 => by cases h3; rfl
theorem h17 (G : Gs) (kV doc pm cdv ct : Value) (an : Option Addr) : ∀ sh ∈ ([⟨1, [], [], [0]⟩] : List Shape), ShapeOk G (PySem.W.fnOf "_law_counted" "_law_counted" (defArgs (top 40)) (defBody (top 40)) (defScope (top 40)) .none kV doc pm an cdv ct) ["pot"] sh := by
  intro sh hsh
  cases List.mem_singleton.mp hsh
  exact shape_mk rfl fun us ws zs h1 h2 h3 => match us, ws, h1, h2, h3 with | [_], [], _, _, h3 => by cases h3; rfl
theorem h18 (G : Gs) (kV doc pm cdv ct : Value) (an : Option Addr) : ∀ sh ∈ ([⟨3, [], [], [0, 1, 2]⟩] : List Shape), ShapeOk G (PySem.W.fnOf "_law_walked" "_law_walked" (defArgs (top 41)) (defBody (top 41)) (defScope (top 41)) .none kV doc pm an cdv ct) ["rows", "first", "air"] sh := by
  intro sh hsh
  cases List.mem_singleton.mp hsh
  exact shape_mk rfl fun us ws zs h1 h2 h3 => match us, ws, h1, h2, h3 with | [_, _, _], [], _, _, h3 => by cases h3; rfl
theorem h19 (G : Gs) (kV doc pm cdv ct : Value) (an : Option Addr) : ∀ sh ∈ ([⟨3, [], [], [0, 1, 2]⟩] : List Shape), ShapeOk G (PySem.W.fnOf "_law_stands" "_law_stands" (defArgs (top 42)) (defBody (top 42)) (defScope (top 42)) .none kV doc pm an cdv ct) ["made", "rows", "due"] sh := by
  intro sh hsh
  cases List.mem_singleton.mp hsh
  exact shape_mk rfl fun us ws zs h1 h2 h3 => match us, ws, h1, h2, h3 with | [_, _, _], [], _, _, h3 => by cases h3; rfl
theorem h20 (G : Gs) (kV doc pm cdv ct : Value) (an : Option Addr) : ∀ sh ∈ ([⟨1, [], [], [0]⟩] : List Shape), ShapeOk G (PySem.W.fnOf "_law_start" "_law_start" (defArgs (top 43)) (defBody (top 43)) (defScope (top 43)) .none kV doc pm an cdv ct) ["pot"] sh := by
  intro sh hsh
  cases List.mem_singleton.mp hsh
  exact shape_mk rfl fun us ws zs h1 h2 h3 => match us, ws, h1, h2, h3 with | [_], [], _, _, h3 => by cases h3; rfl
theorem h21 (G : Gs) (kV doc pm cdv ct : Value) (an : Option Addr) : ∀ sh ∈ ([⟨1, [], [], [0]⟩] : List Shape), ShapeOk G (PySem.W.fnOf "_law_rows" "_law_rows" (defArgs (top 44)) (defBody (top 44)) (defScope (top 44)) .none kV doc pm an cdv ct) ["pot"] sh := by
  intro sh hsh
  cases List.mem_singleton.mp hsh
  exact shape_mk rfl fun us ws zs h1 h2 h3 => match us, ws, h1, h2, h3 with | [_], [], _, _, h3 => by cases h3; rfl
theorem h22 (G : Gs) (kV doc pm cdv ct : Value) (an : Option Addr) : ∀ sh ∈ ([⟨1, [], [], [0]⟩] : List Shape), ShapeOk G (PySem.W.fnOf "_law_right" "_law_right" (defArgs (top 45)) (defBody (top 45)) (defScope (top 45)) .none kV doc pm an cdv ct) ["pot"] sh := by
  intro sh hsh
  cases List.mem_singleton.mp hsh
  exact shape_mk rfl fun us ws zs h1 h2 h3 => match us, ws, h1, h2, h3 with | [_], [], _, _, h3 => by cases h3; rfl
theorem h23 (G : Gs) (kV doc pm cdv ct : Value) (an : Option Addr) : ∀ sh ∈ ([⟨1, [], [], [0]⟩] : List Shape), ShapeOk G (PySem.W.fnOf "_law_count_right" "_law_count_right" (defArgs (top 46)) (defBody (top 46)) (defScope (top 46)) .none kV doc pm an cdv ct) ["pot"] sh := by
  intro sh hsh
  cases List.mem_singleton.mp hsh
  exact shape_mk rfl fun us ws zs h1 h2 h3 => match us, ws, h1, h2, h3 with | [_], [], _, _, h3 => by cases h3; rfl
theorem h24 (G : Gs) (kV doc pm cdv ct : Value) (an : Option Addr) : ∀ sh ∈ ([⟨1, [], [], [0]⟩] : List Shape), ShapeOk G (PySem.W.fnOf "law" "law" (defArgs (top 47)) (defBody (top 47)) (defScope (top 47)) .none kV doc pm an cdv ct) ["script"] sh := by
  intro sh hsh
  cases List.mem_singleton.mp hsh
  exact shape_mk rfl fun us ws zs h1 h2 h3 => match us, ws, h1, h2, h3 with | [_], [], _, _, h3 => by cases h3; rfl
theorem h25 {K : PySem.W.Frag} (G : Gs) (hg : G.K = K) (kd : Addr) (kt0 : Tok) (kn0 : PySem.W.nsIn K kd "start" = some (some (.int 0 kt0))) (doc pm cdv ct : Value) (an : Option Addr) : ∀ sh ∈ ([⟨2, ["breath", "start"], [], [0, 1, 2, 3]⟩] : List Shape), ShapeOk G (PySem.W.fnOf "__init__" "Thread.__init__" (defArgs ((clsBody (top 32)).getD 0 (.Pass ⟨0, 0, 0, 0⟩))) (defBody ((clsBody (top 32)).getD 0 (.Pass ⟨0, 0, 0, 0⟩))) (defScope ((clsBody (top 32)).getD 0 (.Pass ⟨0, 0, 0, 0⟩))) .none (.ref kd) doc pm an cdv ct) ["self", "rows", "breath", "start"] sh := by
  intro sh hsh
  cases List.mem_singleton.mp hsh
  exact shape_mk rfl fun us ws zs h1 h2 h3 => match us, ws, h1, h2, h3 with | [_, _], [_, _], _, _, h3 => by cases h3; rfl
theorem h26 (G : Gs) (kV doc pm cdv ct : Value) (an : Option Addr) : ∀ sh ∈ ([⟨1, [], [], [0]⟩] : List Shape), ShapeOk G (PySem.W.fnOf "at_row" "Thread.at_row" (defArgs ((clsBody (top 32)).getD 2 (.Pass ⟨0, 0, 0, 0⟩))) (defBody ((clsBody (top 32)).getD 2 (.Pass ⟨0, 0, 0, 0⟩))) (defScope ((clsBody (top 32)).getD 2 (.Pass ⟨0, 0, 0, 0⟩))) .none kV doc pm an cdv ct) ["self"] sh := by
  intro sh hsh
  cases List.mem_singleton.mp hsh
  exact shape_mk rfl fun us ws zs h1 h2 h3 => match us, ws, h1, h2, h3 with | [_], [], _, _, h3 => by cases h3; rfl
theorem h27 (G : Gs) (kV doc pm cdv ct : Value) (an : Option Addr) : ∀ sh ∈ ([⟨1, [], [], [0]⟩] : List Shape), ShapeOk G (PySem.W.fnOf "is_over" "Thread.is_over" (defArgs ((clsBody (top 32)).getD 3 (.Pass ⟨0, 0, 0, 0⟩))) (defBody ((clsBody (top 32)).getD 3 (.Pass ⟨0, 0, 0, 0⟩))) (defScope ((clsBody (top 32)).getD 3 (.Pass ⟨0, 0, 0, 0⟩))) .none kV doc pm an cdv ct) ["self"] sh := by
  intro sh hsh
  cases List.mem_singleton.mp hsh
  exact shape_mk rfl fun us ws zs h1 h2 h3 => match us, ws, h1, h2, h3 with | [_], [], _, _, h3 => by cases h3; rfl
theorem h28 (G : Gs) (kV doc pm cdv ct : Value) (an : Option Addr) : ∀ sh ∈ ([⟨1, [], [], [0]⟩] : List Shape), ShapeOk G (PySem.W.fnOf "coming" "Thread.coming" (defArgs ((clsBody (top 32)).getD 4 (.Pass ⟨0, 0, 0, 0⟩))) (defBody ((clsBody (top 32)).getD 4 (.Pass ⟨0, 0, 0, 0⟩))) (defScope ((clsBody (top 32)).getD 4 (.Pass ⟨0, 0, 0, 0⟩))) .none kV doc pm an cdv ct) ["self"] sh := by
  intro sh hsh
  cases List.mem_singleton.mp hsh
  exact shape_mk rfl fun us ws zs h1 h2 h3 => match us, ws, h1, h2, h3 with | [_], [], _, _, h3 => by cases h3; rfl
theorem h29 (G : Gs) (kV doc pm cdv ct : Value) (an : Option Addr) : ∀ sh ∈ ([⟨1, [], [], [0]⟩] : List Shape), ShapeOk G (PySem.W.fnOf "breath" "Thread.breath" (defArgs ((clsBody (top 32)).getD 5 (.Pass ⟨0, 0, 0, 0⟩))) (defBody ((clsBody (top 32)).getD 5 (.Pass ⟨0, 0, 0, 0⟩))) (defScope ((clsBody (top 32)).getD 5 (.Pass ⟨0, 0, 0, 0⟩))) .none kV doc pm an cdv ct) ["self"] sh := by
  intro sh hsh
  cases List.mem_singleton.mp hsh
  exact shape_mk rfl fun us ws zs h1 h2 h3 => match us, ws, h1, h2, h3 with | [_], [], _, _, h3 => by cases h3; rfl
theorem h30 (G : Gs) (kV doc pm cdv ct : Value) (an : Option Addr) : ∀ sh ∈ ([⟨1, [], [], [0]⟩] : List Shape), ShapeOk G (PySem.W.fnOf "boxes" "Thread.boxes" (defArgs ((clsBody (top 32)).getD 6 (.Pass ⟨0, 0, 0, 0⟩))) (defBody ((clsBody (top 32)).getD 6 (.Pass ⟨0, 0, 0, 0⟩))) (defScope ((clsBody (top 32)).getD 6 (.Pass ⟨0, 0, 0, 0⟩))) .none kV doc pm an cdv ct) ["self"] sh := by
  intro sh hsh
  cases List.mem_singleton.mp hsh
  exact shape_mk rfl fun us ws zs h1 h2 h3 => match us, ws, h1, h2, h3 with | [_], [], _, _, h3 => by cases h3; rfl
theorem h31 (G : Gs) (kV doc pm cdv ct : Value) (an : Option Addr) : ∀ sh ∈ ([⟨3, [], [], [0, 1, 2]⟩] : List Shape), ShapeOk G (PySem.W.fnOf "put" "Thread.put" (defArgs ((clsBody (top 32)).getD 7 (.Pass ⟨0, 0, 0, 0⟩))) (defBody ((clsBody (top 32)).getD 7 (.Pass ⟨0, 0, 0, 0⟩))) (defScope ((clsBody (top 32)).getD 7 (.Pass ⟨0, 0, 0, 0⟩))) .none kV doc pm an cdv ct) ["self", "box", "number"] sh := by
  intro sh hsh
  cases List.mem_singleton.mp hsh
  exact shape_mk rfl fun us ws zs h1 h2 h3 => match us, ws, h1, h2, h3 with | [_, _, _], [], _, _, h3 => by cases h3; rfl
theorem h32 (G : Gs) (kV doc pm cdv ct : Value) (an : Option Addr) : ∀ sh ∈ ([⟨1, [], [], [0]⟩] : List Shape), ShapeOk G (PySem.W.fnOf "want_breath" "Thread.want_breath" (defArgs ((clsBody (top 32)).getD 8 (.Pass ⟨0, 0, 0, 0⟩))) (defBody ((clsBody (top 32)).getD 8 (.Pass ⟨0, 0, 0, 0⟩))) (defScope ((clsBody (top 32)).getD 8 (.Pass ⟨0, 0, 0, 0⟩))) .none kV doc pm an cdv ct) ["self"] sh := by
  intro sh hsh
  cases List.mem_singleton.mp hsh
  exact shape_mk rfl fun us ws zs h1 h2 h3 => match us, ws, h1, h2, h3 with | [_], [], _, _, h3 => by cases h3; rfl
theorem h33 (G : Gs) (kV doc pm cdv ct : Value) (an : Option Addr) : ∀ sh ∈ ([⟨2, [], [], [0, 1]⟩] : List Shape), ShapeOk G (PySem.W.fnOf "go_to" "Thread.go_to" (defArgs ((clsBody (top 32)).getD 9 (.Pass ⟨0, 0, 0, 0⟩))) (defBody ((clsBody (top 32)).getD 9 (.Pass ⟨0, 0, 0, 0⟩))) (defScope ((clsBody (top 32)).getD 9 (.Pass ⟨0, 0, 0, 0⟩))) .none kV doc pm an cdv ct) ["self", "number"] sh := by
  intro sh hsh
  cases List.mem_singleton.mp hsh
  exact shape_mk rfl fun us ws zs h1 h2 h3 => match us, ws, h1, h2, h3 with | [_, _], [], _, _, h3 => by cases h3; rfl
theorem h34 (G : Gs) (kV doc pm cdv ct : Value) (an : Option Addr) : ∀ sh ∈ ([⟨2, [], [], [0, 1]⟩] : List Shape), ShapeOk G (PySem.W.fnOf "number_behind" "Thread.number_behind" (defArgs ((clsBody (top 32)).getD 10 (.Pass ⟨0, 0, 0, 0⟩))) (defBody ((clsBody (top 32)).getD 10 (.Pass ⟨0, 0, 0, 0⟩))) (defScope ((clsBody (top 32)).getD 10 (.Pass ⟨0, 0, 0, 0⟩))) .none kV doc pm an cdv ct) ["self", "row"] sh := by
  intro sh hsh
  cases List.mem_singleton.mp hsh
  exact shape_mk rfl fun us ws zs h1 h2 h3 => match us, ws, h1, h2, h3 with | [_, _], [], _, _, h3 => by cases h3; rfl
theorem h35 (G : Gs) (kV doc pm cdv ct : Value) (an : Option Addr) : ∀ sh ∈ ([⟨1, [], [], [0]⟩] : List Shape), ShapeOk G (PySem.W.fnOf "step" "Thread.step" (defArgs ((clsBody (top 32)).getD 11 (.Pass ⟨0, 0, 0, 0⟩))) (defBody ((clsBody (top 32)).getD 11 (.Pass ⟨0, 0, 0, 0⟩))) (defScope ((clsBody (top 32)).getD 11 (.Pass ⟨0, 0, 0, 0⟩))) .none kV doc pm an cdv ct) ["self"] sh := by
  intro sh hsh
  cases List.mem_singleton.mp hsh
  exact shape_mk rfl fun us ws zs h1 h2 h3 => match us, ws, h1, h2, h3 with | [_], [], _, _, h3 => by cases h3; rfl
theorem all_mk {K : PySem.W.Frag} {P : Params} {h : Heap} {mg : Str → Option Value} (X : K.In h) (Gn : h.Ns mainGlobals mg)
    {f0 f1 f2 f3 f4 f5 f6 f7 f8 f9 f10 f11 f12 f13 f14 f15 f16 f17 f18 f19 f20 f21 f22 f23 f24 f25 f26 f27 f28 f29 f30 f31 f32 f33 f34 f35 : Addr}
    {C0 : Addr}
    {oc0 dc0 pm0 cd0 ct0 : Value} {kV0 : Value} {od0 an0 : Option Addr} {sl0 : Array (Option Value)}
    {oc1 dc1 pm1 cd1 ct1 : Value} {kV1 : Value} {od1 an1 : Option Addr} {sl1 : Array (Option Value)}
    {oc2 dc2 pm2 cd2 ct2 : Value} {kV2 : Value} {od2 an2 : Option Addr} {sl2 : Array (Option Value)}
    {oc3 dc3 pm3 cd3 ct3 : Value} {kV3 : Value} {od3 an3 : Option Addr} {sl3 : Array (Option Value)}
    {oc4 dc4 pm4 cd4 ct4 : Value} {kV4 : Value} {od4 an4 : Option Addr} {sl4 : Array (Option Value)}
    {oc5 dc5 pm5 cd5 ct5 : Value} {kV5 : Value} {od5 an5 : Option Addr} {sl5 : Array (Option Value)}
    {oc6 dc6 pm6 cd6 ct6 : Value} {kV6 : Value} {od6 an6 : Option Addr} {sl6 : Array (Option Value)}
    {oc7 dc7 pm7 cd7 ct7 : Value} {kV7 : Value} {od7 an7 : Option Addr} {sl7 : Array (Option Value)}
    {oc8 dc8 pm8 cd8 ct8 : Value} {kV8 : Value} {od8 an8 : Option Addr} {sl8 : Array (Option Value)}
    {oc9 dc9 pm9 cd9 ct9 : Value} {kV9 : Value} {od9 an9 : Option Addr} {sl9 : Array (Option Value)}
    {oc10 dc10 pm10 cd10 ct10 : Value} {kV10 : Value} {od10 an10 : Option Addr} {sl10 : Array (Option Value)}
    {oc11 dc11 pm11 cd11 ct11 : Value} {kV11 : Value} {od11 an11 : Option Addr} {sl11 : Array (Option Value)}
    {oc12 dc12 pm12 cd12 ct12 : Value} {kV12 : Value} {od12 an12 : Option Addr} {sl12 : Array (Option Value)}
    {oc13 dc13 pm13 cd13 ct13 : Value} {kV13 : Value} {od13 an13 : Option Addr} {sl13 : Array (Option Value)}
    {oc14 dc14 pm14 cd14 ct14 : Value} {kV14 : Value} {od14 an14 : Option Addr} {sl14 : Array (Option Value)}
    {oc15 dc15 pm15 cd15 ct15 : Value} {kV15 : Value} {od15 an15 : Option Addr} {sl15 : Array (Option Value)}
    {oc16 dc16 pm16 cd16 ct16 : Value} {kV16 : Value} {od16 an16 : Option Addr} {sl16 : Array (Option Value)}
    {oc17 dc17 pm17 cd17 ct17 : Value} {kV17 : Value} {od17 an17 : Option Addr} {sl17 : Array (Option Value)}
    {oc18 dc18 pm18 cd18 ct18 : Value} {kV18 : Value} {od18 an18 : Option Addr} {sl18 : Array (Option Value)}
    {oc19 dc19 pm19 cd19 ct19 : Value} {kV19 : Value} {od19 an19 : Option Addr} {sl19 : Array (Option Value)}
    {oc20 dc20 pm20 cd20 ct20 : Value} {kV20 : Value} {od20 an20 : Option Addr} {sl20 : Array (Option Value)}
    {oc21 dc21 pm21 cd21 ct21 : Value} {kV21 : Value} {od21 an21 : Option Addr} {sl21 : Array (Option Value)}
    {oc22 dc22 pm22 cd22 ct22 : Value} {kV22 : Value} {od22 an22 : Option Addr} {sl22 : Array (Option Value)}
    {oc23 dc23 pm23 cd23 ct23 : Value} {kV23 : Value} {od23 an23 : Option Addr} {sl23 : Array (Option Value)}
    {oc24 dc24 pm24 cd24 ct24 : Value} {kV24 : Value} {od24 an24 : Option Addr} {sl24 : Array (Option Value)}
    {oc25 dc25 pm25 cd25 ct25 : Value} {kd25 : Addr} {kt25_0 : Tok} {od25 an25 : Option Addr} {sl25 : Array (Option Value)}
    {oc26 dc26 pm26 cd26 ct26 : Value} {kV26 : Value} {od26 an26 : Option Addr} {sl26 : Array (Option Value)}
    {oc27 dc27 pm27 cd27 ct27 : Value} {kV27 : Value} {od27 an27 : Option Addr} {sl27 : Array (Option Value)}
    {oc28 dc28 pm28 cd28 ct28 : Value} {kV28 : Value} {od28 an28 : Option Addr} {sl28 : Array (Option Value)}
    {oc29 dc29 pm29 cd29 ct29 : Value} {kV29 : Value} {od29 an29 : Option Addr} {sl29 : Array (Option Value)}
    {oc30 dc30 pm30 cd30 ct30 : Value} {kV30 : Value} {od30 an30 : Option Addr} {sl30 : Array (Option Value)}
    {oc31 dc31 pm31 cd31 ct31 : Value} {kV31 : Value} {od31 an31 : Option Addr} {sl31 : Array (Option Value)}
    {oc32 dc32 pm32 cd32 ct32 : Value} {kV32 : Value} {od32 an32 : Option Addr} {sl32 : Array (Option Value)}
    {oc33 dc33 pm33 cd33 ct33 : Value} {kV33 : Value} {od33 an33 : Option Addr} {sl33 : Array (Option Value)}
    {oc34 dc34 pm34 cd34 ct34 : Value} {kV34 : Value} {od34 an34 : Option Addr} {sl34 : Array (Option Value)}
    {oc35 dc35 pm35 cd35 ct35 : Value} {kV35 : Value} {od35 an35 : Option Addr} {sl35 : Array (Option Value)}
    {t0 : Tok} (z0 : PySem.W.nsIn K mainGlobals "LETTERS" = some (some (.str "abcdefghijklmnopqrstuvwxyz" t0)))
    {t1 : Tok} (z1 : PySem.W.nsIn K mainGlobals "MOST_LETTERS" = some (some (.int 8 t1)))
    {t2 : Tok} (z2 : PySem.W.nsIn K mainGlobals "LINE" = some (some (.str "line" t2)))
    {t3 : Tok} (z3 : PySem.W.nsIn K mainGlobals "KEY" = some (some (.str "key" t3)))
    {t4 : Tok} (z4 : PySem.W.nsIn K mainGlobals "SLOTS" = some (some (.int 6 t4)))
    {t5 : Tok} (z5 : PySem.W.nsIn K mainGlobals "MOST_HANDED" = some (some (.int 5 t5)))
    {t6 : Tok} (z6 : PySem.W.nsIn K mainGlobals "BEGET" = some (some (.str "beget" t6)))
    {t7 : Tok} (z7 : PySem.W.nsIn K mainGlobals "START_BOX" = some (some (.str "a" t7)))
    {ta0 : Addr} {tn0 : Nat} {tsl0 : Array (Option Value)} {tu0_0 tu0_1 tu0_2 tu0_3 tu0_4 tu0_5 : Tok} (tz0 : PySem.W.nsIn K mainGlobals "BOXES" = some (some (.ref ta0))) (tl0 : K.lookup ta0 = some ⟨.type "tuple", none, .seq #[.str "a" tu0_0, .str "b" tu0_1, .str "c" tu0_2, .str "d" tu0_3, .str "e" tu0_4, .str "f" tu0_5] tn0, tsl0⟩)
    {ta1 : Addr} {tn1 : Nat} {tsl1 : Array (Option Value)} {tu1_0 tu1_1 tu1_2 tu1_3 tu1_4 tu1_5 : Tok} (tz1 : PySem.W.nsIn K mainGlobals "PLAIN" = some (some (.ref ta1))) (tl1 : K.lookup ta1 = some ⟨.type "tuple", none, .seq #[.str "set" tu1_0, .str "add" tu1_1, .str "less" tu1_2, .str "skip" tu1_3, .str "again" tu1_4, .str "stop" tu1_5] tn1, tsl1⟩)
    {da0 : Addr} {dn0 : Nat} {dh0_0 dh0_1 dh0_2 dh0_3 dh0_4 dh0_5 dh0_6 dh0_7 dh0_8 dh0_9 dh0_10 dh0_11 : Int} {dt0_0 du0_0 dt0_1 du0_1 dt0_2 du0_2 dt0_3 du0_3 dt0_4 du0_4 dt0_5 du0_5 dt0_6 du0_6 dt0_7 du0_7 dt0_8 du0_8 dt0_9 du0_9 dt0_10 du0_10 dt0_11 du0_11 : Tok} (dz0 : PySem.W.nsIn K mainGlobals "FORMS" = some (some (.ref da0))) (dl0 : K.lookup da0 = some ⟨.type "dict", none, .dict #[⟨dh0_0, .str "set" dt0_0, .str "bn" du0_0⟩, ⟨dh0_1, .str "add" dt0_1, .str "bb" du0_1⟩, ⟨dh0_2, .str "less" dt0_2, .str "bb" du0_2⟩, ⟨dh0_3, .str "skip" dt0_3, .str "mb" du0_3⟩, ⟨dh0_4, .str "again" dt0_4, .str "mb" du0_4⟩, ⟨dh0_5, .str "stop" dt0_5, .str "" du0_5⟩, ⟨dh0_6, .str "meet" dt0_6, .str "ssbb" du0_6⟩, ⟨dh0_7, .str "locker" dt0_7, .str "s" du0_7⟩, ⟨dh0_8, .str "drop" dt0_8, .str "s" du0_8⟩, ⟨dh0_9, .str "open" dt0_9, .str "ssb" du0_9⟩, ⟨dh0_10, .str "shut" dt0_10, .str "ssb" du0_10⟩, ⟨dh0_11, .str "join" dt0_11, .str "ss" du0_11⟩] dn0, #[]⟩) (dk0 : PySem.W.KeysLit P [⟨dh0_0, .str "set" dt0_0, .str "bn" du0_0⟩, ⟨dh0_1, .str "add" dt0_1, .str "bb" du0_1⟩, ⟨dh0_2, .str "less" dt0_2, .str "bb" du0_2⟩, ⟨dh0_3, .str "skip" dt0_3, .str "mb" du0_3⟩, ⟨dh0_4, .str "again" dt0_4, .str "mb" du0_4⟩, ⟨dh0_5, .str "stop" dt0_5, .str "" du0_5⟩, ⟨dh0_6, .str "meet" dt0_6, .str "ssbb" du0_6⟩, ⟨dh0_7, .str "locker" dt0_7, .str "s" du0_7⟩, ⟨dh0_8, .str "drop" dt0_8, .str "s" du0_8⟩, ⟨dh0_9, .str "open" dt0_9, .str "ssb" du0_9⟩, ⟨dh0_10, .str "shut" dt0_10, .str "ssb" du0_10⟩, ⟨dh0_11, .str "join" dt0_11, .str "ss" du0_11⟩]) (do0 : (da0 == sysModules) = false)
    {da1 : Addr} {dn1 : Nat} {dh1_0 dh1_1 dh1_2 dh1_3 : Int} {dt1_0 dt1_1 dt1_2 dt1_3 : Tok} (dz1 : PySem.W.nsIn K mainGlobals "LOOKS" = some (some (.ref da1))) (dl1 : K.lookup da1 = some ⟨.type "dict", none, .dict #[⟨dh1_0, .str "b" dt1_0, .ref f4⟩, ⟨dh1_1, .str "s" dt1_1, .ref f5⟩, ⟨dh1_2, .str "n" dt1_2, .ref f0⟩, ⟨dh1_3, .str "m" dt1_3, .ref f2⟩] dn1, #[]⟩) (dk1 : PySem.W.KeysLit P [⟨dh1_0, .str "b" dt1_0, .ref f4⟩, ⟨dh1_1, .str "s" dt1_1, .ref f5⟩, ⟨dh1_2, .str "n" dt1_2, .ref f0⟩, ⟨dh1_3, .str "m" dt1_3, .ref f2⟩]) (do1 : (da1 == sysModules) = false)
    (ca0 : PySem.W.nsIn K mainGlobals "Thread" = some (some (.ref C0))) (cg0 : PySem.W.plainGet K C0 Str.empty = true) (ch0 : PySem.W.hasDictIn K C0 = true) (co0 : PySem.W.plainOver K C0 = true) (cs0 : PySem.W.findIn K (.ref C0) "__setattr__" = some (some (.builtin "object.__setattr__"))) (cm0 : PySem.W.makesIn K C0 = true) (ck0 : PySem.W.keepIn K (.ref C0) = true)
    (cf0_0 : PySem.W.findIn K (.ref C0) "own_rows" = some none) (cf0_1 : PySem.W.findIn K (.ref C0) "own_number" = some none) (cf0_2 : PySem.W.findIn K (.ref C0) "own_breath" = some none) (cf0_3 : PySem.W.findIn K (.ref C0) "own_boxes" = some none)
    (a0 : PySem.W.nsIn K mainGlobals "is_whole" = some (some (.ref f0))) (l0 : K.lookup f0 = some ⟨oc0, od0, .func (PySem.W.fnOf "is_whole" "is_whole" (defArgs (top 10)) (defBody (top 10)) (defScope (top 10)) .none kV0 dc0 pm0 an0 cd0 ct0), sl0⟩) (e0 : PySem.W.codeIn K cd0 "is_whole" = true) (k0 : PySem.W.keepIn K (.ref f0) = true)
    (a1 : PySem.W.nsIn K mainGlobals "is_count" = some (some (.ref f1))) (l1 : K.lookup f1 = some ⟨oc1, od1, .func (PySem.W.fnOf "is_count" "is_count" (defArgs (top 11)) (defBody (top 11)) (defScope (top 11)) .none kV1 dc1 pm1 an1 cd1 ct1), sl1⟩) (e1 : PySem.W.codeIn K cd1 "is_count" = true) (k1 : PySem.W.keepIn K (.ref f1) = true)
    (a2 : PySem.W.nsIn K mainGlobals "is_from_one" = some (some (.ref f2))) (l2 : K.lookup f2 = some ⟨oc2, od2, .func (PySem.W.fnOf "is_from_one" "is_from_one" (defArgs (top 12)) (defBody (top 12)) (defScope (top 12)) .none kV2 dc2 pm2 an2 cd2 ct2), sl2⟩) (e2 : PySem.W.codeIn K cd2 "is_from_one" = true) (k2 : PySem.W.keepIn K (.ref f2) = true)
    (a3 : PySem.W.nsIn K mainGlobals "is_name" = some (some (.ref f3))) (l3 : K.lookup f3 = some ⟨oc3, od3, .func (PySem.W.fnOf "is_name" "is_name" (defArgs (top 13)) (defBody (top 13)) (defScope (top 13)) .none kV3 dc3 pm3 an3 cd3 ct3), sl3⟩) (e3 : PySem.W.codeIn K cd3 "is_name" = true) (k3 : PySem.W.keepIn K (.ref f3) = true)
    (a4 : PySem.W.nsIn K mainGlobals "is_box" = some (some (.ref f4))) (l4 : K.lookup f4 = some ⟨oc4, od4, .func (PySem.W.fnOf "is_box" "is_box" (defArgs (top 21)) (defBody (top 21)) (defScope (top 21)) .none kV4 dc4 pm4 an4 cd4 ct4), sl4⟩) (e4 : PySem.W.codeIn K cd4 "is_box" = true) (k4 : PySem.W.keepIn K (.ref f4) = true)
    (a5 : PySem.W.nsIn K mainGlobals "is_slot" = some (some (.ref f5))) (l5 : K.lookup f5 = some ⟨oc5, od5, .func (PySem.W.fnOf "is_slot" "is_slot" (defArgs (top 22)) (defBody (top 22)) (defScope (top 22)) .none kV5 dc5 pm5 an5 cd5 ct5), sl5⟩) (e5 : PySem.W.codeIn K cd5 "is_slot" = true) (k5 : PySem.W.keepIn K (.ref f5) = true)
    (a6 : PySem.W.nsIn K mainGlobals "is_part" = some (some (.ref f6))) (l6 : K.lookup f6 = some ⟨oc6, od6, .func (PySem.W.fnOf "is_part" "is_part" (defArgs (top 24)) (defBody (top 24)) (defScope (top 24)) .none kV6 dc6 pm6 an6 cd6 ct6), sl6⟩) (e6 : PySem.W.codeIn K cd6 "is_part" = true) (k6 : PySem.W.keepIn K (.ref f6) = true)
    (a7 : PySem.W.nsIn K mainGlobals "are_handed" = some (some (.ref f7))) (l7 : K.lookup f7 = some ⟨oc7, od7, .func (PySem.W.fnOf "are_handed" "are_handed" (defArgs (top 25)) (defBody (top 25)) (defScope (top 25)) .none kV7 dc7 pm7 an7 cd7 ct7), sl7⟩) (e7 : PySem.W.codeIn K cd7 "are_handed" = true) (k7 : PySem.W.keepIn K (.ref f7) = true)
    (a8 : PySem.W.nsIn K mainGlobals "is_common" = some (some (.ref f8))) (l8 : K.lookup f8 = some ⟨oc8, od8, .func (PySem.W.fnOf "is_common" "is_common" (defArgs (top 26)) (defBody (top 26)) (defScope (top 26)) .none kV8 dc8 pm8 an8 cd8 ct8), sl8⟩) (e8 : PySem.W.codeIn K cd8 "is_common" = true) (k8 : PySem.W.keepIn K (.ref f8) = true)
    (a9 : PySem.W.nsIn K mainGlobals "is_beget" = some (some (.ref f9))) (l9 : K.lookup f9 = some ⟨oc9, od9, .func (PySem.W.fnOf "is_beget" "is_beget" (defArgs (top 27)) (defBody (top 27)) (defScope (top 27)) .none kV9 dc9 pm9 an9 cd9 ct9), sl9⟩) (e9 : PySem.W.codeIn K cd9 "is_beget" = true) (k9 : PySem.W.keepIn K (.ref f9) = true)
    (a10 : PySem.W.nsIn K mainGlobals "is_row" = some (some (.ref f10))) (l10 : K.lookup f10 = some ⟨oc10, od10, .func (PySem.W.fnOf "is_row" "is_row" (defArgs (top 28)) (defBody (top 28)) (defScope (top 28)) .none kV10 dc10 pm10 an10 cd10 ct10), sl10⟩) (e10 : PySem.W.codeIn K cd10 "is_row" = true) (k10 : PySem.W.keepIn K (.ref f10) = true)
    (a11 : PySem.W.nsIn K mainGlobals "is_plain" = some (some (.ref f11))) (l11 : K.lookup f11 = some ⟨oc11, od11, .func (PySem.W.fnOf "is_plain" "is_plain" (defArgs (top 29)) (defBody (top 29)) (defScope (top 29)) .none kV11 dc11 pm11 an11 cd11 ct11), sl11⟩) (e11 : PySem.W.codeIn K cd11 "is_plain" = true) (k11 : PySem.W.keepIn K (.ref f11) = true)
    (a12 : PySem.W.nsIn K mainGlobals "_law_pot" = some (some (.ref f12))) (l12 : K.lookup f12 = some ⟨oc12, od12, .func (PySem.W.fnOf "_law_pot" "_law_pot" (defArgs (top 34)) (defBody (top 34)) (defScope (top 34)) .none kV12 dc12 pm12 an12 cd12 ct12), sl12⟩) (e12 : PySem.W.codeIn K cd12 "_law_pot" = true) (k12 : PySem.W.keepIn K (.ref f12) = true)
    (a13 : PySem.W.nsIn K mainGlobals "_law_take" = some (some (.ref f13))) (l13 : K.lookup f13 = some ⟨oc13, od13, .func (PySem.W.fnOf "_law_take" "_law_take" (defArgs (top 35)) (defBody (top 35)) (defScope (top 35)) .none kV13 dc13 pm13 an13 cd13 ct13), sl13⟩) (e13 : PySem.W.codeIn K cd13 "_law_take" = true) (k13 : PySem.W.keepIn K (.ref f13) = true)
    (a14 : PySem.W.nsIn K mainGlobals "_law_number" = some (some (.ref f14))) (l14 : K.lookup f14 = some ⟨oc14, od14, .func (PySem.W.fnOf "_law_number" "_law_number" (defArgs (top 37)) (defBody (top 37)) (defScope (top 37)) .none kV14 dc14 pm14 an14 cd14 ct14), sl14⟩) (e14 : PySem.W.codeIn K cd14 "_law_number" = true) (k14 : PySem.W.keepIn K (.ref f14) = true)
    (a15 : PySem.W.nsIn K mainGlobals "_law_box" = some (some (.ref f15))) (l15 : K.lookup f15 = some ⟨oc15, od15, .func (PySem.W.fnOf "_law_box" "_law_box" (defArgs (top 38)) (defBody (top 38)) (defScope (top 38)) .none kV15 dc15 pm15 an15 cd15 ct15), sl15⟩) (e15 : PySem.W.codeIn K cd15 "_law_box" = true) (k15 : PySem.W.keepIn K (.ref f15) = true)
    (a16 : PySem.W.nsIn K mainGlobals "_law_plain" = some (some (.ref f16))) (l16 : K.lookup f16 = some ⟨oc16, od16, .func (PySem.W.fnOf "_law_plain" "_law_plain" (defArgs (top 39)) (defBody (top 39)) (defScope (top 39)) .none kV16 dc16 pm16 an16 cd16 ct16), sl16⟩) (e16 : PySem.W.codeIn K cd16 "_law_plain" = true) (k16 : PySem.W.keepIn K (.ref f16) = true)
    (a17 : PySem.W.nsIn K mainGlobals "_law_counted" = some (some (.ref f17))) (l17 : K.lookup f17 = some ⟨oc17, od17, .func (PySem.W.fnOf "_law_counted" "_law_counted" (defArgs (top 40)) (defBody (top 40)) (defScope (top 40)) .none kV17 dc17 pm17 an17 cd17 ct17), sl17⟩) (e17 : PySem.W.codeIn K cd17 "_law_counted" = true) (k17 : PySem.W.keepIn K (.ref f17) = true)
    (a18 : PySem.W.nsIn K mainGlobals "_law_walked" = some (some (.ref f18))) (l18 : K.lookup f18 = some ⟨oc18, od18, .func (PySem.W.fnOf "_law_walked" "_law_walked" (defArgs (top 41)) (defBody (top 41)) (defScope (top 41)) .none kV18 dc18 pm18 an18 cd18 ct18), sl18⟩) (e18 : PySem.W.codeIn K cd18 "_law_walked" = true) (k18 : PySem.W.keepIn K (.ref f18) = true)
    (a19 : PySem.W.nsIn K mainGlobals "_law_stands" = some (some (.ref f19))) (l19 : K.lookup f19 = some ⟨oc19, od19, .func (PySem.W.fnOf "_law_stands" "_law_stands" (defArgs (top 42)) (defBody (top 42)) (defScope (top 42)) .none kV19 dc19 pm19 an19 cd19 ct19), sl19⟩) (e19 : PySem.W.codeIn K cd19 "_law_stands" = true) (k19 : PySem.W.keepIn K (.ref f19) = true)
    (a20 : PySem.W.nsIn K mainGlobals "_law_start" = some (some (.ref f20))) (l20 : K.lookup f20 = some ⟨oc20, od20, .func (PySem.W.fnOf "_law_start" "_law_start" (defArgs (top 43)) (defBody (top 43)) (defScope (top 43)) .none kV20 dc20 pm20 an20 cd20 ct20), sl20⟩) (e20 : PySem.W.codeIn K cd20 "_law_start" = true) (k20 : PySem.W.keepIn K (.ref f20) = true)
    (a21 : PySem.W.nsIn K mainGlobals "_law_rows" = some (some (.ref f21))) (l21 : K.lookup f21 = some ⟨oc21, od21, .func (PySem.W.fnOf "_law_rows" "_law_rows" (defArgs (top 44)) (defBody (top 44)) (defScope (top 44)) .none kV21 dc21 pm21 an21 cd21 ct21), sl21⟩) (e21 : PySem.W.codeIn K cd21 "_law_rows" = true) (k21 : PySem.W.keepIn K (.ref f21) = true)
    (a22 : PySem.W.nsIn K mainGlobals "_law_right" = some (some (.ref f22))) (l22 : K.lookup f22 = some ⟨oc22, od22, .func (PySem.W.fnOf "_law_right" "_law_right" (defArgs (top 45)) (defBody (top 45)) (defScope (top 45)) .none kV22 dc22 pm22 an22 cd22 ct22), sl22⟩) (e22 : PySem.W.codeIn K cd22 "_law_right" = true) (k22 : PySem.W.keepIn K (.ref f22) = true)
    (a23 : PySem.W.nsIn K mainGlobals "_law_count_right" = some (some (.ref f23))) (l23 : K.lookup f23 = some ⟨oc23, od23, .func (PySem.W.fnOf "_law_count_right" "_law_count_right" (defArgs (top 46)) (defBody (top 46)) (defScope (top 46)) .none kV23 dc23 pm23 an23 cd23 ct23), sl23⟩) (e23 : PySem.W.codeIn K cd23 "_law_count_right" = true) (k23 : PySem.W.keepIn K (.ref f23) = true)
    (a24 : PySem.W.nsIn K mainGlobals "law" = some (some (.ref f24))) (l24 : K.lookup f24 = some ⟨oc24, od24, .func (PySem.W.fnOf "law" "law" (defArgs (top 47)) (defBody (top 47)) (defScope (top 47)) .none kV24 dc24 pm24 an24 cd24 ct24), sl24⟩) (e24 : PySem.W.codeIn K cd24 "law" = true) (k24 : PySem.W.keepIn K (.ref f24) = true)
    (a25 : PySem.W.findIn K (.ref C0) "__init__" = some (some (.ref f25))) (i25 : PySem.W.isFn K (.ref f25) = true) (l25 : K.lookup f25 = some ⟨oc25, od25, .func (PySem.W.fnOf "__init__" "Thread.__init__" (defArgs ((clsBody (top 32)).getD 0 (.Pass ⟨0, 0, 0, 0⟩))) (defBody ((clsBody (top 32)).getD 0 (.Pass ⟨0, 0, 0, 0⟩))) (defScope ((clsBody (top 32)).getD 0 (.Pass ⟨0, 0, 0, 0⟩))) .none (.ref kd25) dc25 pm25 an25 cd25 ct25), sl25⟩) (e25 : PySem.W.codeIn K cd25 "Thread.__init__" = true) (k25 : PySem.W.keepIn K (.ref f25) = true)
    (kn25_0 : PySem.W.nsIn K kd25 "start" = some (some (.int 0 kt25_0)))
    (a26 : PySem.W.findIn K (.ref C0) "at_row" = some (some (.ref f26))) (i26 : PySem.W.isFn K (.ref f26) = true) (l26 : K.lookup f26 = some ⟨oc26, od26, .func (PySem.W.fnOf "at_row" "Thread.at_row" (defArgs ((clsBody (top 32)).getD 2 (.Pass ⟨0, 0, 0, 0⟩))) (defBody ((clsBody (top 32)).getD 2 (.Pass ⟨0, 0, 0, 0⟩))) (defScope ((clsBody (top 32)).getD 2 (.Pass ⟨0, 0, 0, 0⟩))) .none kV26 dc26 pm26 an26 cd26 ct26), sl26⟩) (e26 : PySem.W.codeIn K cd26 "Thread.at_row" = true) (k26 : PySem.W.keepIn K (.ref f26) = true)
    (a27 : PySem.W.findIn K (.ref C0) "is_over" = some (some (.ref f27))) (i27 : PySem.W.isFn K (.ref f27) = true) (l27 : K.lookup f27 = some ⟨oc27, od27, .func (PySem.W.fnOf "is_over" "Thread.is_over" (defArgs ((clsBody (top 32)).getD 3 (.Pass ⟨0, 0, 0, 0⟩))) (defBody ((clsBody (top 32)).getD 3 (.Pass ⟨0, 0, 0, 0⟩))) (defScope ((clsBody (top 32)).getD 3 (.Pass ⟨0, 0, 0, 0⟩))) .none kV27 dc27 pm27 an27 cd27 ct27), sl27⟩) (e27 : PySem.W.codeIn K cd27 "Thread.is_over" = true) (k27 : PySem.W.keepIn K (.ref f27) = true)
    (a28 : PySem.W.findIn K (.ref C0) "coming" = some (some (.ref f28))) (i28 : PySem.W.isFn K (.ref f28) = true) (l28 : K.lookup f28 = some ⟨oc28, od28, .func (PySem.W.fnOf "coming" "Thread.coming" (defArgs ((clsBody (top 32)).getD 4 (.Pass ⟨0, 0, 0, 0⟩))) (defBody ((clsBody (top 32)).getD 4 (.Pass ⟨0, 0, 0, 0⟩))) (defScope ((clsBody (top 32)).getD 4 (.Pass ⟨0, 0, 0, 0⟩))) .none kV28 dc28 pm28 an28 cd28 ct28), sl28⟩) (e28 : PySem.W.codeIn K cd28 "Thread.coming" = true) (k28 : PySem.W.keepIn K (.ref f28) = true)
    (a29 : PySem.W.findIn K (.ref C0) "breath" = some (some (.ref f29))) (i29 : PySem.W.isFn K (.ref f29) = true) (l29 : K.lookup f29 = some ⟨oc29, od29, .func (PySem.W.fnOf "breath" "Thread.breath" (defArgs ((clsBody (top 32)).getD 5 (.Pass ⟨0, 0, 0, 0⟩))) (defBody ((clsBody (top 32)).getD 5 (.Pass ⟨0, 0, 0, 0⟩))) (defScope ((clsBody (top 32)).getD 5 (.Pass ⟨0, 0, 0, 0⟩))) .none kV29 dc29 pm29 an29 cd29 ct29), sl29⟩) (e29 : PySem.W.codeIn K cd29 "Thread.breath" = true) (k29 : PySem.W.keepIn K (.ref f29) = true)
    (a30 : PySem.W.findIn K (.ref C0) "boxes" = some (some (.ref f30))) (i30 : PySem.W.isFn K (.ref f30) = true) (l30 : K.lookup f30 = some ⟨oc30, od30, .func (PySem.W.fnOf "boxes" "Thread.boxes" (defArgs ((clsBody (top 32)).getD 6 (.Pass ⟨0, 0, 0, 0⟩))) (defBody ((clsBody (top 32)).getD 6 (.Pass ⟨0, 0, 0, 0⟩))) (defScope ((clsBody (top 32)).getD 6 (.Pass ⟨0, 0, 0, 0⟩))) .none kV30 dc30 pm30 an30 cd30 ct30), sl30⟩) (e30 : PySem.W.codeIn K cd30 "Thread.boxes" = true) (k30 : PySem.W.keepIn K (.ref f30) = true)
    (a31 : PySem.W.findIn K (.ref C0) "put" = some (some (.ref f31))) (i31 : PySem.W.isFn K (.ref f31) = true) (l31 : K.lookup f31 = some ⟨oc31, od31, .func (PySem.W.fnOf "put" "Thread.put" (defArgs ((clsBody (top 32)).getD 7 (.Pass ⟨0, 0, 0, 0⟩))) (defBody ((clsBody (top 32)).getD 7 (.Pass ⟨0, 0, 0, 0⟩))) (defScope ((clsBody (top 32)).getD 7 (.Pass ⟨0, 0, 0, 0⟩))) .none kV31 dc31 pm31 an31 cd31 ct31), sl31⟩) (e31 : PySem.W.codeIn K cd31 "Thread.put" = true) (k31 : PySem.W.keepIn K (.ref f31) = true)
    (a32 : PySem.W.findIn K (.ref C0) "want_breath" = some (some (.ref f32))) (i32 : PySem.W.isFn K (.ref f32) = true) (l32 : K.lookup f32 = some ⟨oc32, od32, .func (PySem.W.fnOf "want_breath" "Thread.want_breath" (defArgs ((clsBody (top 32)).getD 8 (.Pass ⟨0, 0, 0, 0⟩))) (defBody ((clsBody (top 32)).getD 8 (.Pass ⟨0, 0, 0, 0⟩))) (defScope ((clsBody (top 32)).getD 8 (.Pass ⟨0, 0, 0, 0⟩))) .none kV32 dc32 pm32 an32 cd32 ct32), sl32⟩) (e32 : PySem.W.codeIn K cd32 "Thread.want_breath" = true) (k32 : PySem.W.keepIn K (.ref f32) = true)
    (a33 : PySem.W.findIn K (.ref C0) "go_to" = some (some (.ref f33))) (i33 : PySem.W.isFn K (.ref f33) = true) (l33 : K.lookup f33 = some ⟨oc33, od33, .func (PySem.W.fnOf "go_to" "Thread.go_to" (defArgs ((clsBody (top 32)).getD 9 (.Pass ⟨0, 0, 0, 0⟩))) (defBody ((clsBody (top 32)).getD 9 (.Pass ⟨0, 0, 0, 0⟩))) (defScope ((clsBody (top 32)).getD 9 (.Pass ⟨0, 0, 0, 0⟩))) .none kV33 dc33 pm33 an33 cd33 ct33), sl33⟩) (e33 : PySem.W.codeIn K cd33 "Thread.go_to" = true) (k33 : PySem.W.keepIn K (.ref f33) = true)
    (a34 : PySem.W.findIn K (.ref C0) "number_behind" = some (some (.ref f34))) (i34 : PySem.W.isFn K (.ref f34) = true) (l34 : K.lookup f34 = some ⟨oc34, od34, .func (PySem.W.fnOf "number_behind" "Thread.number_behind" (defArgs ((clsBody (top 32)).getD 10 (.Pass ⟨0, 0, 0, 0⟩))) (defBody ((clsBody (top 32)).getD 10 (.Pass ⟨0, 0, 0, 0⟩))) (defScope ((clsBody (top 32)).getD 10 (.Pass ⟨0, 0, 0, 0⟩))) .none kV34 dc34 pm34 an34 cd34 ct34), sl34⟩) (e34 : PySem.W.codeIn K cd34 "Thread.number_behind" = true) (k34 : PySem.W.keepIn K (.ref f34) = true)
    (a35 : PySem.W.findIn K (.ref C0) "step" = some (some (.ref f35))) (i35 : PySem.W.isFn K (.ref f35) = true) (l35 : K.lookup f35 = some ⟨oc35, od35, .func (PySem.W.fnOf "step" "Thread.step" (defArgs ((clsBody (top 32)).getD 11 (.Pass ⟨0, 0, 0, 0⟩))) (defBody ((clsBody (top 32)).getD 11 (.Pass ⟨0, 0, 0, 0⟩))) (defScope ((clsBody (top 32)).getD 11 (.Pass ⟨0, 0, 0, 0⟩))) .none kV35 dc35 pm35 an35 cd35 ct35), sl35⟩) (e35 : PySem.W.codeIn K cd35 "Thread.step" = true) (k35 : PySem.W.keepIn K (.ref f35) = true)
    (y0 : PySem.W.nsIn K mainGlobals "abs" = some none)
    (y1 : PySem.W.nsIn K mainGlobals "all" = some none)
    (y2 : PySem.W.nsIn K mainGlobals "bool" = some none)
    (y3 : PySem.W.nsIn K mainGlobals "dict" = some none)
    (y4 : PySem.W.nsIn K mainGlobals "divmod" = some none)
    (y5 : PySem.W.nsIn K mainGlobals "int" = some none)
    (y6 : PySem.W.nsIn K mainGlobals "isinstance" = some none)
    (y7 : PySem.W.nsIn K mainGlobals "len" = some none)
    (y8 : PySem.W.nsIn K mainGlobals "max" = some none)
    (y9 : PySem.W.nsIn K mainGlobals "min" = some none)
    (y10 : PySem.W.nsIn K mainGlobals "range" = some none)
    (y11 : PySem.W.nsIn K mainGlobals "repr" = some none)
    (y12 : PySem.W.nsIn K mainGlobals "reversed" = some none)
    (y13 : PySem.W.nsIn K mainGlobals "set" = some none)
    (y14 : PySem.W.nsIn K mainGlobals "str" = some none)
    (y15 : PySem.W.nsIn K mainGlobals "tuple" = some none)
    (y16 : PySem.W.nsIn K mainGlobals "zip" = some none)
    : ∃ G : Gs, G.K = K ∧ G.prm = P ∧ ∀ x e, (x, e) ∈ gt → StatOk G mg gt ds x e := by
  refine ⟨⟨K, fun i => ([f0, f1, f2, f3, f4, f5, f6, f7, f8, f9, f10, f11, f12, f13, f14, f15, f16, f17, f18, f19, f20, f21, f22, f23, f24, f25, f26, f27, f28, f29, f30, f31, f32, f33, f34, f35][i]?).map V.ref, fun i => ([C0] : List Addr)[i]?, P⟩, rfl, rfl, stat_all gt ?_⟩
  unfold gt
  refine List.forall_mem_cons.mpr ⟨stat_str X Gn z0, ?_⟩
  refine List.forall_mem_cons.mpr ⟨stat_int X Gn z1, ?_⟩
  refine List.forall_mem_cons.mpr ⟨stat_str X Gn z2, ?_⟩
  refine List.forall_mem_cons.mpr ⟨stat_str X Gn z3, ?_⟩
  refine List.forall_mem_cons.mpr ⟨stat_int X Gn z4, ?_⟩
  refine List.forall_mem_cons.mpr ⟨stat_int X Gn z5, ?_⟩
  refine List.forall_mem_cons.mpr ⟨stat_str X Gn z6, ?_⟩
  refine List.forall_mem_cons.mpr ⟨stat_str X Gn z7, ?_⟩
  refine List.forall_mem_cons.mpr ⟨stat_tup (vs := [.str "a", .str "b", .str "c", .str "d", .str "e", .str "f"]) X Gn rfl tz0 tl0 (by rw [sizeLine_eq]; show 6 ≤ 16777216; decide) (.cons ⟨_, rfl⟩ (.cons ⟨_, rfl⟩ (.cons ⟨_, rfl⟩ (.cons ⟨_, rfl⟩ (.cons ⟨_, rfl⟩ (.cons ⟨_, rfl⟩ .nil)))))) (fun _ _ => ((((((Reps.nil_.cons_ Rep.str_).cons_ Rep.str_).cons_ Rep.str_).cons_ Rep.str_).cons_ Rep.str_).cons_ Rep.str_)), ?_⟩
  refine List.forall_mem_cons.mpr ⟨stat_tup (vs := [.str "set", .str "add", .str "less", .str "skip", .str "again", .str "stop"]) X Gn rfl tz1 tl1 (by rw [sizeLine_eq]; show 6 ≤ 16777216; decide) (.cons ⟨_, rfl⟩ (.cons ⟨_, rfl⟩ (.cons ⟨_, rfl⟩ (.cons ⟨_, rfl⟩ (.cons ⟨_, rfl⟩ (.cons ⟨_, rfl⟩ .nil)))))) (fun _ _ => ((((((Reps.nil_.cons_ Rep.str_).cons_ Rep.str_).cons_ Rep.str_).cons_ Rep.str_).cons_ Rep.str_).cons_ Rep.str_)), ?_⟩
  refine List.forall_mem_cons.mpr ⟨stat_frd [(dh0_0, "set", dt0_0, .str "bn" du0_0), (dh0_1, "add", dt0_1, .str "bb" du0_1), (dh0_2, "less", dt0_2, .str "bb" du0_2), (dh0_3, "skip", dt0_3, .str "mb" du0_3), (dh0_4, "again", dt0_4, .str "mb" du0_4), (dh0_5, "stop", dt0_5, .str "" du0_5), (dh0_6, "meet", dt0_6, .str "ssbb" du0_6), (dh0_7, "locker", dt0_7, .str "s" du0_7), (dh0_8, "drop", dt0_8, .str "s" du0_8), (dh0_9, "open", dt0_9, .str "ssb" du0_9), (dh0_10, "shut", dt0_10, .str "ssb" du0_10), (dh0_11, "join", dt0_11, .str "ss" du0_11)] (vs := [.str "bn", .str "bb", .str "bb", .str "mb", .str "mb", .str "", .str "ssbb", .str "s", .str "s", .str "ssb", .str "ssb", .str "ss"]) X Gn rfl rfl dz0 dl0 dk0 do0 rfl (.cons ⟨_, rfl⟩ (.cons ⟨_, rfl⟩ (.cons ⟨_, rfl⟩ (.cons ⟨_, rfl⟩ (.cons ⟨_, rfl⟩ (.cons ⟨_, rfl⟩ (.cons ⟨_, rfl⟩ (.cons ⟨_, rfl⟩ (.cons ⟨_, rfl⟩ (.cons ⟨_, rfl⟩ (.cons ⟨_, rfl⟩ (.cons ⟨_, rfl⟩ .nil)))))))))))) (fun _ _ => ((((((((((((Reps.nil_.cons_ Rep.str_).cons_ Rep.str_).cons_ Rep.str_).cons_ Rep.str_).cons_ Rep.str_).cons_ Rep.str_).cons_ Rep.str_).cons_ Rep.str_).cons_ Rep.str_).cons_ Rep.str_).cons_ Rep.str_).cons_ Rep.str_)), ?_⟩
  refine List.forall_mem_cons.mpr ⟨stat_frd [(dh1_0, "b", dt1_0, .ref f4), (dh1_1, "s", dt1_1, .ref f5), (dh1_2, "n", dt1_2, .ref f0), (dh1_3, "m", dt1_3, .ref f2)] (vs := [.ref f4, .ref f5, .ref f0, .ref f2]) X Gn rfl rfl dz1 dl1 dk1 do1 rfl (.cons rfl (.cons rfl (.cons rfl (.cons rfl .nil)))) (fun _ _ => ((((Reps.nil_.cons_ (by simp only [Rep]; rfl)).cons_ (by simp only [Rep]; rfl)).cons_ (by simp only [Rep]; rfl)).cons_ (by simp only [Rep]; rfl))), ?_⟩
  refine List.forall_mem_cons.mpr ⟨stat_fn X Gn rfl a0 l0 e0 k0 rfl s0 rfl c0 (h0 _), ?_⟩
  refine List.forall_mem_cons.mpr ⟨stat_fn X Gn rfl a1 l1 e1 k1 rfl s1 rfl c1 (h1 _), ?_⟩
  refine List.forall_mem_cons.mpr ⟨stat_fn X Gn rfl a2 l2 e2 k2 rfl s2 rfl c2 (h2 _), ?_⟩
  refine List.forall_mem_cons.mpr ⟨stat_fn X Gn rfl a3 l3 e3 k3 rfl s3 rfl c3 (h3 _), ?_⟩
  refine List.forall_mem_cons.mpr ⟨stat_fn X Gn rfl a4 l4 e4 k4 rfl s4 rfl c4 (h4 _), ?_⟩
  refine List.forall_mem_cons.mpr ⟨stat_fn X Gn rfl a5 l5 e5 k5 rfl s5 rfl c5 (h5 _), ?_⟩
  refine List.forall_mem_cons.mpr ⟨stat_fn X Gn rfl a6 l6 e6 k6 rfl s6 rfl c6 (h6 _), ?_⟩
  refine List.forall_mem_cons.mpr ⟨stat_fn X Gn rfl a7 l7 e7 k7 rfl s7 rfl c7 (h7 _), ?_⟩
  refine List.forall_mem_cons.mpr ⟨stat_fn X Gn rfl a8 l8 e8 k8 rfl s8 rfl c8 (h8 _), ?_⟩
  refine List.forall_mem_cons.mpr ⟨stat_fn X Gn rfl a9 l9 e9 k9 rfl s9 rfl c9 (h9 _), ?_⟩
  refine List.forall_mem_cons.mpr ⟨stat_fn X Gn rfl a10 l10 e10 k10 rfl s10 rfl c10 (h10 _), ?_⟩
  refine List.forall_mem_cons.mpr ⟨stat_fn X Gn rfl a11 l11 e11 k11 rfl s11 rfl c11 (h11 _), ?_⟩
  refine List.forall_mem_cons.mpr ⟨stat_fn X Gn rfl a12 l12 e12 k12 rfl s12 rfl c12 (h12 _), ?_⟩
  refine List.forall_mem_cons.mpr ⟨stat_fn X Gn rfl a13 l13 e13 k13 rfl s13 rfl c13 (h13 _), ?_⟩
  refine List.forall_mem_cons.mpr ⟨stat_fn X Gn rfl a14 l14 e14 k14 rfl s14 rfl c14 (h14 _), ?_⟩
  refine List.forall_mem_cons.mpr ⟨stat_fn X Gn rfl a15 l15 e15 k15 rfl s15 rfl c15 (h15 _), ?_⟩
  refine List.forall_mem_cons.mpr ⟨stat_fn X Gn rfl a16 l16 e16 k16 rfl s16 rfl c16 (h16 _), ?_⟩
  refine List.forall_mem_cons.mpr ⟨stat_fn X Gn rfl a17 l17 e17 k17 rfl s17 rfl c17 (h17 _), ?_⟩
  refine List.forall_mem_cons.mpr ⟨stat_fn X Gn rfl a18 l18 e18 k18 rfl s18 rfl c18 (h18 _), ?_⟩
  refine List.forall_mem_cons.mpr ⟨stat_fn X Gn rfl a19 l19 e19 k19 rfl s19 rfl c19 (h19 _), ?_⟩
  refine List.forall_mem_cons.mpr ⟨stat_fn X Gn rfl a20 l20 e20 k20 rfl s20 rfl c20 (h20 _), ?_⟩
  refine List.forall_mem_cons.mpr ⟨stat_fn X Gn rfl a21 l21 e21 k21 rfl s21 rfl c21 (h21 _), ?_⟩
  refine List.forall_mem_cons.mpr ⟨stat_fn X Gn rfl a22 l22 e22 k22 rfl s22 rfl c22 (h22 _), ?_⟩
  refine List.forall_mem_cons.mpr ⟨stat_fn X Gn rfl a23 l23 e23 k23 rfl s23 rfl c23 (h23 _), ?_⟩
  refine List.forall_mem_cons.mpr ⟨stat_fn X Gn rfl a24 l24 e24 k24 rfl s24 rfl c24 (h24 _), ?_⟩
  refine List.forall_mem_cons.mpr ⟨stat_cls X Gn rfl ca0 rfl cg0 ch0 co0 cs0 (List.forall_mem_cons.mpr ⟨cf0_0, List.forall_mem_cons.mpr ⟨cf0_1, List.forall_mem_cons.mpr ⟨cf0_2, List.forall_mem_cons.mpr ⟨cf0_3, fun _ h => nomatch h⟩⟩⟩⟩) (ini_ok rfl cm0 a25 i25 ck0 (def_ok rfl l25 e25 k25 s25 rfl c25 (h25 _ rfl kd25 kt25_0 kn25_0 _ _ _ _ _))) (List.forall_mem_cons.mpr ⟨mth_ok rfl a26 i26 k26 (def_ok rfl l26 e26 k26 s26 rfl c26 (h26 _ _ _ _ _ _ _)), List.forall_mem_cons.mpr ⟨mth_ok rfl a27 i27 k27 (def_ok rfl l27 e27 k27 s27 rfl c27 (h27 _ _ _ _ _ _ _)), List.forall_mem_cons.mpr ⟨mth_ok rfl a28 i28 k28 (def_ok rfl l28 e28 k28 s28 rfl c28 (h28 _ _ _ _ _ _ _)), List.forall_mem_cons.mpr ⟨mth_ok rfl a29 i29 k29 (def_ok rfl l29 e29 k29 s29 rfl c29 (h29 _ _ _ _ _ _ _)), List.forall_mem_cons.mpr ⟨mth_ok rfl a30 i30 k30 (def_ok rfl l30 e30 k30 s30 rfl c30 (h30 _ _ _ _ _ _ _)), List.forall_mem_cons.mpr ⟨mth_ok rfl a31 i31 k31 (def_ok rfl l31 e31 k31 s31 rfl c31 (h31 _ _ _ _ _ _ _)), List.forall_mem_cons.mpr ⟨mth_ok rfl a32 i32 k32 (def_ok rfl l32 e32 k32 s32 rfl c32 (h32 _ _ _ _ _ _ _)), List.forall_mem_cons.mpr ⟨mth_ok rfl a33 i33 k33 (def_ok rfl l33 e33 k33 s33 rfl c33 (h33 _ _ _ _ _ _ _)), List.forall_mem_cons.mpr ⟨mth_ok rfl a34 i34 k34 (def_ok rfl l34 e34 k34 s34 rfl c34 (h34 _ _ _ _ _ _ _)), List.forall_mem_cons.mpr ⟨mth_ok rfl a35 i35 k35 (def_ok rfl l35 e35 k35 s35 rfl c35 (h35 _ _ _ _ _ _ _)), fun _ h => nomatch h⟩⟩⟩⟩⟩⟩⟩⟩⟩⟩), ?_⟩
  refine List.forall_mem_cons.mpr ⟨stat_blt X Gn y0, ?_⟩
  refine List.forall_mem_cons.mpr ⟨stat_blt X Gn y1, ?_⟩
  refine List.forall_mem_cons.mpr ⟨stat_blt X Gn y2, ?_⟩
  refine List.forall_mem_cons.mpr ⟨stat_blt X Gn y3, ?_⟩
  refine List.forall_mem_cons.mpr ⟨stat_blt X Gn y4, ?_⟩
  refine List.forall_mem_cons.mpr ⟨stat_blt X Gn y5, ?_⟩
  refine List.forall_mem_cons.mpr ⟨stat_blt X Gn y6, ?_⟩
  refine List.forall_mem_cons.mpr ⟨stat_blt X Gn y7, ?_⟩
  refine List.forall_mem_cons.mpr ⟨stat_blt X Gn y8, ?_⟩
  refine List.forall_mem_cons.mpr ⟨stat_blt X Gn y9, ?_⟩
  refine List.forall_mem_cons.mpr ⟨stat_blt X Gn y10, ?_⟩
  refine List.forall_mem_cons.mpr ⟨stat_blt X Gn y11, ?_⟩
  refine List.forall_mem_cons.mpr ⟨stat_blt X Gn y12, ?_⟩
  refine List.forall_mem_cons.mpr ⟨stat_blt X Gn y13, ?_⟩
  refine List.forall_mem_cons.mpr ⟨stat_blt X Gn y14, ?_⟩
  refine List.forall_mem_cons.mpr ⟨stat_blt X Gn y15, ?_⟩
  refine List.forall_mem_cons.mpr ⟨stat_blt X Gn y16, ?_⟩
  exact fun _ h => nomatch h
end K52

namespace K52
open PySem hiding Env exec execs
open L2 Mi MiL
/-! ### what the looks tell -/
def wholeB : W → Bool
  | .int _ => true
  | _ => false
def countB : W → Bool
  | .int i => decide (0 ≤ i)
  | _ => false
def oneB : W → Bool
  | .int i => decide (0 < i)
  | _ => false
def slotB : W → Bool
  | .int i => decide (0 ≤ i) && decide (i < 6)
  | _ => false
def boxes : List Str := ["a", "b", "c", "d", "e", "f"]
def boxB : W → Bool
  | .str x => decide (x ∈ boxes)
  | _ => false
def nameB : W → Bool
  | .str x => decide (1 ≤ x.length) && decide (x.length ≤ 8) && x.cps.toList.all fun c => decide (c ∈ letters.cps.toList)
  | _ => false
def fitK : Nat → W → Bool
  | 0 => boxB
  | 1 => slotB
  | 2 => wholeB
  | _ => oneB
def kindP (c : Nat) : Nat := if c = 98 then 0 else if c = 115 then 1 else if c = 110 then 2 else 3
def distB (ws : List W) : Bool := match intsOf ws with
  | some ns => decide (ns.eraseDups.length = ns.length)
  | none => false
def handedB : W → Bool
  | .tup ws => decide (ws.length ≤ 5) && (ws.all slotB && distB ws)
  | _ => false
def itemsT : W → List W
  | .tup ws => ws
  | _ => []
def commonB (hs : List W) : W → Bool
  | .tup [] => true
  | .tup [.str x, b] => (decide (x = "line") || decide (x = "key")) && (slotB b && !inH b hs)
  | _ => false
def begetB : List W → Bool
  | [a, b, c, d, e] => nameB a && (oneB b && (handedB c && (commonB (itemsT c) d && boxB e)))
  | _ => false
def tab : List (Str × Str × Str) := [("set", "bn", "bn"), ("add", "bb", "bb"), ("less", "bb", "bb"), ("skip", "mb", "mb"), ("again", "mb", "mb"), ("stop", "", ""), ("meet", "ssbb", "12bb"), ("locker", "s", "1"), ("drop", "s", "1"), ("open", "ssb", "12b"), ("shut", "ssb", "12b"), ("join", "ss", "12")]
def ssP (f : Str) : Bool := decide (L2.cutS f none (some 2) = "ss")
def neq01 : List W → Bool
  | .int i :: .int j :: _ => !decide (i = j)
  | _ => true
def rowT (r : List W) : Option (Str × Str) → Bool
  | none => false
  | some (f, _) => decide (r.length = f.length) && (((r.zip (f.cps.toList.map kindP)).all fun p => fitK p.2 p.1) && (!ssP f || neq01 r))
def rowB : W → Bool
  | .tup (.str x :: r) => if x = "beget" then begetB r else rowT r (tab.lookup x)
  | _ => false
/-! ### the program's looks -/
theorem is_whole {k n m : Nat} {s : Sto} {w : W} (h : GV s n m w) : ph ds (k + 1) 0 [w] s = .ok (.bl (wholeB w)) s := by
  rw [call_eq (d := ⟨1, 1, b0⟩) rfl rfl]
  simp only [b0, h.tInt, h.tBool, x_cst, x_var, x_tup, x_lst, x_bin, x_neg, x_not, x_cmp, x_cmp2, x_and1, x_and, x_or1, x_or, x_ite, x_idx, x_slc, x_call, x_blt, x_met, x_fld, x_mth, x_mk, y_fset, y_faug, x_isi, x_nil, x_cons, x_c0, x_c1, x_p0, x_p1, y_nil, y_cons, y_set, y_rtn, y_ite, y_exp, decide_true, w_ok, q_nxt, q_rtn, b_rtn, t_bl, r_ret, a_nm, c_lt, c_le, c_gt, c_ge, c_eqi, c_eqs, c_nes, c_eq0, c_ne0, c_in2, z0, z1, z2, z3, z4, z5, z6, z7, z8, c_les, b_list, l_lay, b_lent, i_tup, bind_ok, List.getElem?_cons_zero, List.getElem?_cons_succ, List.map_cons, List.map_nil, List.replicate, Nat.sub_zero, Nat.reduceSub, List.cons_append, List.nil_append, List.append_nil, List.mapM_cons, List.mapM_nil, Option.pure_def, Option.bind_eq_bind, Option.bind_some, List.any_cons, List.any_nil, id, Bool.or_false, Bool.not_true, Bool.not_false, if_true, if_false, Bool.false_eq_true, reduceIte, List.set_cons_zero, List.set_cons_succ]
  cases w <;> rfl
theorem is_count {k n m : Nat} {s : Sto} {w : W} (h : GV s n m w) : ph ds (k + 2) 1 [w] s = .ok (.bl (countB w)) s := by
  rw [call_eq (d := ⟨1, 1, b1⟩) rfl rfl]
  simp only [b1, is_whole h, x_cst, x_var, x_tup, x_lst, x_bin, x_neg, x_not, x_cmp, x_cmp2, x_and1, x_and, x_or1, x_or, x_ite, x_idx, x_slc, x_call, x_blt, x_met, x_fld, x_mth, x_mk, y_fset, y_faug, x_isi, x_nil, x_cons, x_c0, x_c1, x_p0, x_p1, y_nil, y_cons, y_set, y_rtn, y_ite, y_exp, decide_true, w_ok, q_nxt, q_rtn, b_rtn, t_bl, r_ret, a_nm, c_lt, c_le, c_gt, c_ge, c_eqi, c_eqs, c_nes, c_eq0, c_ne0, c_in2, z0, z1, z2, z3, z4, z5, z6, z7, z8, c_les, b_list, l_lay, b_lent, i_tup, bind_ok, List.getElem?_cons_zero, List.getElem?_cons_succ, List.map_cons, List.map_nil, List.replicate, Nat.sub_zero, Nat.reduceSub, List.cons_append, List.nil_append, List.append_nil, List.mapM_cons, List.mapM_nil, Option.pure_def, Option.bind_eq_bind, Option.bind_some, List.any_cons, List.any_nil, id, Bool.or_false, Bool.not_true, Bool.not_false, if_true, if_false, Bool.false_eq_true, reduceIte, List.set_cons_zero, List.set_cons_succ]
  cases w <;> rfl
theorem is_one {k n m : Nat} {s : Sto} {w : W} (h : GV s n m w) : ph ds (k + 2) 2 [w] s = .ok (.bl (oneB w)) s := by
  rw [call_eq (d := ⟨1, 1, b2⟩) rfl rfl]
  simp only [b2, is_whole h, x_cst, x_var, x_tup, x_lst, x_bin, x_neg, x_not, x_cmp, x_cmp2, x_and1, x_and, x_or1, x_or, x_ite, x_idx, x_slc, x_call, x_blt, x_met, x_fld, x_mth, x_mk, y_fset, y_faug, x_isi, x_nil, x_cons, x_c0, x_c1, x_p0, x_p1, y_nil, y_cons, y_set, y_rtn, y_ite, y_exp, decide_true, w_ok, q_nxt, q_rtn, b_rtn, t_bl, r_ret, a_nm, c_lt, c_le, c_gt, c_ge, c_eqi, c_eqs, c_nes, c_eq0, c_ne0, c_in2, z0, z1, z2, z3, z4, z5, z6, z7, z8, c_les, b_list, l_lay, b_lent, i_tup, bind_ok, List.getElem?_cons_zero, List.getElem?_cons_succ, List.map_cons, List.map_nil, List.replicate, Nat.sub_zero, Nat.reduceSub, List.cons_append, List.nil_append, List.append_nil, List.mapM_cons, List.mapM_nil, Option.pure_def, Option.bind_eq_bind, Option.bind_some, List.any_cons, List.any_nil, id, Bool.or_false, Bool.not_true, Bool.not_false, if_true, if_false, Bool.false_eq_true, reduceIte, List.set_cons_zero, List.set_cons_succ]
  cases w <;> rfl
theorem is_slot {k n m : Nat} {s : Sto} {w : W} (h : GV s n m w) : ph ds (k + 3) 5 [w] s = .ok (.bl (slotB w)) s := by
  rw [call_eq (d := ⟨1, 1, b5⟩) rfl rfl]
  simp only [b5, is_count h, x_cst, x_var, x_tup, x_lst, x_bin, x_neg, x_not, x_cmp, x_cmp2, x_and1, x_and, x_or1, x_or, x_ite, x_idx, x_slc, x_call, x_blt, x_met, x_fld, x_mth, x_mk, y_fset, y_faug, x_isi, x_nil, x_cons, x_c0, x_c1, x_p0, x_p1, y_nil, y_cons, y_set, y_rtn, y_ite, y_exp, decide_true, w_ok, q_nxt, q_rtn, b_rtn, t_bl, r_ret, a_nm, c_lt, c_le, c_gt, c_ge, c_eqi, c_eqs, c_nes, c_eq0, c_ne0, c_in2, z0, z1, z2, z3, z4, z5, z6, z7, z8, c_les, b_list, l_lay, b_lent, i_tup, bind_ok, List.getElem?_cons_zero, List.getElem?_cons_succ, List.map_cons, List.map_nil, List.replicate, Nat.sub_zero, Nat.reduceSub, List.cons_append, List.nil_append, List.append_nil, List.mapM_cons, List.mapM_nil, Option.pure_def, Option.bind_eq_bind, Option.bind_some, List.any_cons, List.any_nil, id, Bool.or_false, Bool.not_true, Bool.not_false, if_true, if_false, Bool.false_eq_true, reduceIte, List.set_cons_zero, List.set_cons_succ]
  cases w <;> try rfl
  rename_i i
  have e : slotB (.int i) = (countB (.int i) && decide (i < 6)) := rfl
  rw [e]
  cases countB (.int i) <;> simp only [Bool.true_and, Bool.false_and, x_cst, x_var, x_tup, x_lst, x_bin, x_neg, x_not, x_cmp, x_cmp2, x_and1, x_and, x_or1, x_or, x_ite, x_idx, x_slc, x_call, x_blt, x_met, x_fld, x_mth, x_mk, y_fset, y_faug, x_isi, x_nil, x_cons, x_c0, x_c1, x_p0, x_p1, y_nil, y_cons, y_set, y_rtn, y_ite, y_exp, decide_true, w_ok, q_nxt, q_rtn, b_rtn, t_bl, r_ret, a_nm, c_lt, c_le, c_gt, c_ge, c_eqi, c_eqs, c_nes, c_eq0, c_ne0, c_in2, z0, z1, z2, z3, z4, z5, z6, z7, z8, c_les, b_list, l_lay, b_lent, i_tup, bind_ok, List.getElem?_cons_zero, List.getElem?_cons_succ, List.map_cons, List.map_nil, List.replicate, Nat.sub_zero, Nat.reduceSub, List.cons_append, List.nil_append, List.append_nil, List.mapM_cons, List.mapM_nil, Option.pure_def, Option.bind_eq_bind, Option.bind_some, List.any_cons, List.any_nil, id, Bool.or_false, Bool.not_true, Bool.not_false, if_true, if_false, Bool.false_eq_true, reduceIte, List.set_cons_zero, List.set_cons_succ]
theorem in_BOXES (x : Str) (s : Sto) : cmpop .isin (.str x) kBOXES s = .ok (.bl (decide (x ∈ boxes))) s := c_inS x boxes s
theorem is_box {k n m : Nat} {s : Sto} {w : W} (h : GV s n m w) : ph ds (k + 1) 4 [w] s = .ok (.bl (boxB w)) s := by
  rw [call_eq (d := ⟨1, 1, b4⟩) rfl rfl]
  cases w
  case str x => simp only [b4, h.tStr, isB, in_BOXES, boxB, x_cst, x_var, x_tup, x_lst, x_bin, x_neg, x_not, x_cmp, x_cmp2, x_and1, x_and, x_or1, x_or, x_ite, x_idx, x_slc, x_call, x_blt, x_met, x_fld, x_mth, x_mk, y_fset, y_faug, x_isi, x_nil, x_cons, x_c0, x_c1, x_p0, x_p1, y_nil, y_cons, y_set, y_rtn, y_ite, y_exp, decide_true, w_ok, q_nxt, q_rtn, b_rtn, t_bl, r_ret, a_nm, c_lt, c_le, c_gt, c_ge, c_eqi, c_eqs, c_nes, c_eq0, c_ne0, c_in2, z0, z1, z2, z3, z4, z5, z6, z7, z8, c_les, b_list, l_lay, b_lent, i_tup, bind_ok, List.getElem?_cons_zero, List.getElem?_cons_succ, List.map_cons, List.map_nil, List.replicate, Nat.sub_zero, Nat.reduceSub, List.cons_append, List.nil_append, List.append_nil, List.mapM_cons, List.mapM_nil, Option.pure_def, Option.bind_eq_bind, Option.bind_some, List.any_cons, List.any_nil, id, Bool.or_false, Bool.not_true, Bool.not_false, if_true, if_false, Bool.false_eq_true, reduceIte, List.set_cons_zero, List.set_cons_succ]
  all_goals (simp only [b4, h.tStr, isB, x_cst, x_var, x_tup, x_lst, x_bin, x_neg, x_not, x_cmp, x_cmp2, x_and1, x_and, x_or1, x_or, x_ite, x_idx, x_slc, x_call, x_blt, x_met, x_fld, x_mth, x_mk, y_fset, y_faug, x_isi, x_nil, x_cons, x_c0, x_c1, x_p0, x_p1, y_nil, y_cons, y_set, y_rtn, y_ite, y_exp, decide_true, w_ok, q_nxt, q_rtn, b_rtn, t_bl, r_ret, a_nm, c_lt, c_le, c_gt, c_ge, c_eqi, c_eqs, c_nes, c_eq0, c_ne0, c_in2, z0, z1, z2, z3, z4, z5, z6, z7, z8, c_les, b_list, l_lay, b_lent, i_tup, bind_ok, List.getElem?_cons_zero, List.getElem?_cons_succ, List.map_cons, List.map_nil, List.replicate, Nat.sub_zero, Nat.reduceSub, List.cons_append, List.nil_append, List.append_nil, List.mapM_cons, List.mapM_nil, Option.pure_def, Option.bind_eq_bind, Option.bind_some, List.any_cons, List.any_nil, id, Bool.or_false, Bool.not_true, Bool.not_false, if_true, if_false, Bool.false_eq_true, reduceIte, List.set_cons_zero, List.set_cons_succ]; rfl)
theorem is_name {k n m : Nat} {s : Sto} {w : W} (h : GV s n m w) : ∃ t, ph ds (k + 1) 3 [w] s = .ok (.bl (nameB w)) (s ++ t) := by
  rw [call_eq (d := ⟨1, 2, b3⟩) rfl rfl]
  cases w
  case str x =>
    have hx2 : x.length ≤ SZ := h.strlen
    obtain ⟨t, e⟩ := den_lc1 (φ := ph ds k) (elt := .cmp .isin (.var 1) (.cst (.str "abcdefghijklmnopqrstuvwxyz"))) (tg := .nm 1) (own := [1]) (k := .val) (its := [.var 0]) (ρ := [some (.str x), none]) (s := s) (n := []) (vs := [.str x]) (ws := x.cps.toList.map fun c => .str ⟨#[c]⟩)
      (fun w => .bl (match w with | .str y => decide (y.cps.getD 0 0 ∈ letters.cps.toList) | _ => false)) (by simp only [x_cst, x_var, x_tup, x_lst, x_bin, x_neg, x_not, x_cmp, x_cmp2, x_and1, x_and, x_or1, x_or, x_ite, x_idx, x_slc, x_call, x_blt, x_met, x_fld, x_mth, x_mk, y_fset, y_faug, x_isi, x_nil, x_cons, x_c0, x_c1, x_p0, x_p1, y_nil, y_cons, y_set, y_rtn, y_ite, y_exp, decide_true, w_ok, q_nxt, q_rtn, b_rtn, t_bl, r_ret, a_nm, c_lt, c_le, c_gt, c_ge, c_eqi, c_eqs, c_nes, c_eq0, c_ne0, c_in2, z0, z1, z2, z3, z4, z5, z6, z7, z8, c_les, b_list, l_lay, b_lent, i_tup, bind_ok, List.getElem?_cons_zero, List.getElem?_cons_succ, List.map_cons, List.map_nil, List.replicate, Nat.sub_zero, Nat.reduceSub, List.cons_append, List.nil_append, List.append_nil, List.mapM_cons, List.mapM_nil, Option.pure_def, Option.bind_eq_bind, Option.bind_some, List.any_cons, List.any_nil, id, Bool.or_false, Bool.not_true, Bool.not_false, if_true, if_false, Bool.false_eq_true, reduceIte, List.set_cons_zero, List.set_cons_succ]) (by
        simp only [iter, itemsW]
        rw [if_pos (by rw [List.length_map]; exact hx2)]) (fun t => rfl) (fun w hw => by
        rw [List.mem_map] at hw
        obtain ⟨c, _, rfl⟩ := hw
        refine ⟨[some (.str x), some (.str ⟨#[c]⟩)], rfl, fun t => ⟨t, ?_⟩⟩
        simp only [x_cst, x_var, x_tup, x_lst, x_bin, x_neg, x_not, x_cmp, x_cmp2, x_and1, x_and, x_or1, x_or, x_ite, x_idx, x_slc, x_call, x_blt, x_met, x_fld, x_mth, x_mk, y_fset, y_faug, x_isi, x_nil, x_cons, x_c0, x_c1, x_p0, x_p1, y_nil, y_cons, y_set, y_rtn, y_ite, y_exp, decide_true, w_ok, q_nxt, q_rtn, b_rtn, t_bl, r_ret, a_nm, c_lt, c_le, c_gt, c_ge, c_eqi, c_eqs, c_nes, c_eq0, c_ne0, c_in2, z0, z1, z2, z3, z4, z5, z6, z7, z8, c_les, b_list, l_lay, b_lent, i_tup, bind_ok, List.getElem?_cons_zero, List.getElem?_cons_succ, List.map_cons, List.map_nil, List.replicate, Nat.sub_zero, Nat.reduceSub, List.cons_append, List.nil_append, List.append_nil, List.mapM_cons, List.mapM_nil, Option.pure_def, Option.bind_eq_bind, Option.bind_some, List.any_cons, List.any_nil, id, Bool.or_false, Bool.not_true, Bool.not_false, if_true, if_false, Bool.false_eq_true, reduceIte, List.set_cons_zero, List.set_cons_succ]; rfl)
    simp only [b3, h.tStr, isB, ↓e, x_cst, x_var, x_tup, x_lst, x_bin, x_neg, x_not, x_cmp, x_cmp2, x_and1, x_and, x_or1, x_or, x_ite, x_idx, x_slc, x_call, x_blt, x_met, x_fld, x_mth, x_mk, y_fset, y_faug, x_isi, x_nil, x_cons, x_c0, x_c1, x_p0, x_p1, y_nil, y_cons, y_set, y_rtn, y_ite, y_exp, decide_true, w_ok, q_nxt, q_rtn, b_rtn, t_bl, r_ret, a_nm, c_lt, c_le, c_gt, c_ge, c_eqi, c_eqs, c_nes, c_eq0, c_ne0, c_in2, z0, z1, z2, z3, z4, z5, z6, z7, z8, c_les, b_list, l_lay, b_lent, i_tup, bind_ok, List.getElem?_cons_zero, List.getElem?_cons_succ, List.map_cons, List.map_nil, List.replicate, Nat.sub_zero, Nat.reduceSub, List.cons_append, List.nil_append, List.append_nil, List.mapM_cons, List.mapM_nil, Option.pure_def, Option.bind_eq_bind, Option.bind_some, List.any_cons, List.any_nil, id, Bool.or_false, Bool.not_true, Bool.not_false, if_true, if_false, Bool.false_eq_true, reduceIte, List.set_cons_zero, List.set_cons_succ]
    simp only [b_lens _ x hx2, c_le, x_cst, x_var, x_tup, x_lst, x_bin, x_neg, x_not, x_cmp, x_cmp2, x_and1, x_and, x_or1, x_or, x_ite, x_idx, x_slc, x_call, x_blt, x_met, x_fld, x_mth, x_mk, y_fset, y_faug, x_isi, x_nil, x_cons, x_c0, x_c1, x_p0, x_p1, y_nil, y_cons, y_set, y_rtn, y_ite, y_exp, decide_true, w_ok, q_nxt, q_rtn, b_rtn, t_bl, r_ret, a_nm, c_lt, c_le, c_gt, c_ge, c_eqi, c_eqs, c_nes, c_eq0, c_ne0, c_in2, z0, z1, z2, z3, z4, z5, z6, z7, z8, c_les, b_list, l_lay, b_lent, i_tup, bind_ok, List.getElem?_cons_zero, List.getElem?_cons_succ, List.map_cons, List.map_nil, List.replicate, Nat.sub_zero, Nat.reduceSub, List.cons_append, List.nil_append, List.append_nil, List.mapM_cons, List.mapM_nil, Option.pure_def, Option.bind_eq_bind, Option.bind_some, List.any_cons, List.any_nil, id, Bool.or_false, Bool.not_true, Bool.not_false, if_true, if_false, Bool.false_eq_true, reduceIte, List.set_cons_zero, List.set_cons_succ]
    cases e1 : decide ((1 : Int) ≤ (x.length : Int)) with
    | false =>
      refine ⟨[], ?_⟩
      simp only [x_cst, x_var, x_tup, x_lst, x_bin, x_neg, x_not, x_cmp, x_cmp2, x_and1, x_and, x_or1, x_or, x_ite, x_idx, x_slc, x_call, x_blt, x_met, x_fld, x_mth, x_mk, y_fset, y_faug, x_isi, x_nil, x_cons, x_c0, x_c1, x_p0, x_p1, y_nil, y_cons, y_set, y_rtn, y_ite, y_exp, decide_true, w_ok, q_nxt, q_rtn, b_rtn, t_bl, r_ret, a_nm, c_lt, c_le, c_gt, c_ge, c_eqi, c_eqs, c_nes, c_eq0, c_ne0, c_in2, z0, z1, z2, z3, z4, z5, z6, z7, z8, c_les, b_list, l_lay, b_lent, i_tup, bind_ok, List.getElem?_cons_zero, List.getElem?_cons_succ, List.map_cons, List.map_nil, List.replicate, Nat.sub_zero, Nat.reduceSub, List.cons_append, List.nil_append, List.append_nil, List.mapM_cons, List.mapM_nil, Option.pure_def, Option.bind_eq_bind, Option.bind_some, List.any_cons, List.any_nil, id, Bool.or_false, Bool.not_true, Bool.not_false, if_true, if_false, Bool.false_eq_true, reduceIte, List.set_cons_zero, List.set_cons_succ]
      have : nameB (.str x) = false := by
        have : ¬ (1 ≤ x.length) := by have := of_decide_eq_false e1; omega
        simp only [nameB, decide_eq_false this, Bool.false_and]
      rw [this]
    | true =>
      simp only [b_lens _ x hx2, c_le, x_cst, x_var, x_tup, x_lst, x_bin, x_neg, x_not, x_cmp, x_cmp2, x_and1, x_and, x_or1, x_or, x_ite, x_idx, x_slc, x_call, x_blt, x_met, x_fld, x_mth, x_mk, y_fset, y_faug, x_isi, x_nil, x_cons, x_c0, x_c1, x_p0, x_p1, y_nil, y_cons, y_set, y_rtn, y_ite, y_exp, decide_true, w_ok, q_nxt, q_rtn, b_rtn, t_bl, r_ret, a_nm, c_lt, c_le, c_gt, c_ge, c_eqi, c_eqs, c_nes, c_eq0, c_ne0, c_in2, z0, z1, z2, z3, z4, z5, z6, z7, z8, c_les, b_list, l_lay, b_lent, i_tup, bind_ok, List.getElem?_cons_zero, List.getElem?_cons_succ, List.map_cons, List.map_nil, List.replicate, Nat.sub_zero, Nat.reduceSub, List.cons_append, List.nil_append, List.append_nil, List.mapM_cons, List.mapM_nil, Option.pure_def, Option.bind_eq_bind, Option.bind_some, List.any_cons, List.any_nil, id, Bool.or_false, Bool.not_true, Bool.not_false, if_true, if_false, Bool.false_eq_true, reduceIte, List.set_cons_zero, List.set_cons_succ]
      cases e2 : decide ((x.length : Int) ≤ 8) with
      | false =>
        refine ⟨[], ?_⟩
        simp only [x_cst, x_var, x_tup, x_lst, x_bin, x_neg, x_not, x_cmp, x_cmp2, x_and1, x_and, x_or1, x_or, x_ite, x_idx, x_slc, x_call, x_blt, x_met, x_fld, x_mth, x_mk, y_fset, y_faug, x_isi, x_nil, x_cons, x_c0, x_c1, x_p0, x_p1, y_nil, y_cons, y_set, y_rtn, y_ite, y_exp, decide_true, w_ok, q_nxt, q_rtn, b_rtn, t_bl, r_ret, a_nm, c_lt, c_le, c_gt, c_ge, c_eqi, c_eqs, c_nes, c_eq0, c_ne0, c_in2, z0, z1, z2, z3, z4, z5, z6, z7, z8, c_les, b_list, l_lay, b_lent, i_tup, bind_ok, List.getElem?_cons_zero, List.getElem?_cons_succ, List.map_cons, List.map_nil, List.replicate, Nat.sub_zero, Nat.reduceSub, List.cons_append, List.nil_append, List.append_nil, List.mapM_cons, List.mapM_nil, Option.pure_def, Option.bind_eq_bind, Option.bind_some, List.any_cons, List.any_nil, id, Bool.or_false, Bool.not_true, Bool.not_false, if_true, if_false, Bool.false_eq_true, reduceIte, List.set_cons_zero, List.set_cons_succ]
        have : nameB (.str x) = false := by
          have : ¬ (x.length ≤ 8) := by have := of_decide_eq_false e2; omega
          simp only [nameB, decide_eq_false this, Bool.false_and, Bool.and_false]
        rw [this]
      | true =>
        refine ⟨t ++ [SO.lst ((x.cps.toList.map fun c => W.str ⟨#[c]⟩).map fun w => .bl (match w with | .str y => decide (y.cps.getD 0 0 ∈ letters.cps.toList) | _ => false))], ?_⟩
        simp only [↓e, all_made, x_cst, x_var, x_tup, x_lst, x_bin, x_neg, x_not, x_cmp, x_cmp2, x_and1, x_and, x_or1, x_or, x_ite, x_idx, x_slc, x_call, x_blt, x_met, x_fld, x_mth, x_mk, y_fset, y_faug, x_isi, x_nil, x_cons, x_c0, x_c1, x_p0, x_p1, y_nil, y_cons, y_set, y_rtn, y_ite, y_exp, decide_true, w_ok, q_nxt, q_rtn, b_rtn, t_bl, r_ret, a_nm, c_lt, c_le, c_gt, c_ge, c_eqi, c_eqs, c_nes, c_eq0, c_ne0, c_in2, z0, z1, z2, z3, z4, z5, z6, z7, z8, c_les, b_list, l_lay, b_lent, i_tup, bind_ok, List.getElem?_cons_zero, List.getElem?_cons_succ, List.map_cons, List.map_nil, List.replicate, Nat.sub_zero, Nat.reduceSub, List.cons_append, List.nil_append, List.append_nil, List.mapM_cons, List.mapM_nil, Option.pure_def, Option.bind_eq_bind, Option.bind_some, List.any_cons, List.any_nil, id, Bool.or_false, Bool.not_true, Bool.not_false, if_true, if_false, Bool.false_eq_true, reduceIte, List.set_cons_zero, List.set_cons_succ]
        have h1 : (1 ≤ x.length) := by have := of_decide_eq_true e1; omega
        have h2 : (x.length ≤ 8) := by have := of_decide_eq_true e2; omega
        simp only [nameB, decide_eq_true h1, decide_eq_true h2, Bool.true_and, List.all_map]
        rfl
  all_goals exact ⟨[], by simp only [b3, h.tStr, isB, x_cst, x_var, x_tup, x_lst, x_bin, x_neg, x_not, x_cmp, x_cmp2, x_and1, x_and, x_or1, x_or, x_ite, x_idx, x_slc, x_call, x_blt, x_met, x_fld, x_mth, x_mk, y_fset, y_faug, x_isi, x_nil, x_cons, x_c0, x_c1, x_p0, x_p1, y_nil, y_cons, y_set, y_rtn, y_ite, y_exp, decide_true, w_ok, q_nxt, q_rtn, b_rtn, t_bl, r_ret, a_nm, c_lt, c_le, c_gt, c_ge, c_eqi, c_eqs, c_nes, c_eq0, c_ne0, c_in2, z0, z1, z2, z3, z4, z5, z6, z7, z8, c_les, b_list, l_lay, b_lent, i_tup, bind_ok, List.getElem?_cons_zero, List.getElem?_cons_succ, List.map_cons, List.map_nil, List.replicate, Nat.sub_zero, Nat.reduceSub, List.cons_append, List.nil_append, List.append_nil, List.mapM_cons, List.mapM_nil, Option.pure_def, Option.bind_eq_bind, Option.bind_some, List.any_cons, List.any_nil, id, Bool.or_false, Bool.not_true, Bool.not_false, if_true, if_false, Bool.false_eq_true, reduceIte, List.set_cons_zero, List.set_cons_succ]; rfl⟩
theorem look_eq (s : Sto) (x : Str) : idxW kLOOKS (.str x) s = match dLook ([(W.str "b", W.glb 4), (W.str "s", .glb 5), (W.str "n", .glb 0), (W.str "m", .glb 2)]) (.str x) with | some w => .ok w s | none => .stuck := rfl
theorem look_b (s : Sto) : idxW kLOOKS (.str ⟨#[98]⟩) s = .ok (.glb 4) s := by
  rw [look_eq, show dLook ([(W.str "b", W.glb 4), (W.str "s", .glb 5), (W.str "n", .glb 0), (W.str "m", .glb 2)]) (.str ⟨#[98]⟩) = some (.glb 4) by decide +kernel]
theorem look_s (s : Sto) : idxW kLOOKS (.str ⟨#[115]⟩) s = .ok (.glb 5) s := by
  rw [look_eq, show dLook ([(W.str "b", W.glb 4), (W.str "s", .glb 5), (W.str "n", .glb 0), (W.str "m", .glb 2)]) (.str ⟨#[115]⟩) = some (.glb 5) by decide +kernel]
theorem look_n (s : Sto) : idxW kLOOKS (.str ⟨#[110]⟩) s = .ok (.glb 0) s := by
  rw [look_eq, show dLook ([(W.str "b", W.glb 4), (W.str "s", .glb 5), (W.str "n", .glb 0), (W.str "m", .glb 2)]) (.str ⟨#[110]⟩) = some (.glb 0) by decide +kernel]
theorem look_m (s : Sto) : idxW kLOOKS (.str ⟨#[109]⟩) s = .ok (.glb 2) s := by
  rw [look_eq, show dLook ([(W.str "b", W.glb 4), (W.str "s", .glb 5), (W.str "n", .glb 0), (W.str "m", .glb 2)]) (.str ⟨#[109]⟩) = some (.glb 2) by decide +kernel]
def marks : List Nat := [98, 115, 110, 109]
theorem is_part {k n m c : Nat} {s : Sto} {w : W} (h : GV s n m w) (hc : c ∈ marks) : ph ds (k + 4) 6 [w, .str ⟨#[c]⟩] s = .ok (.bl (fitK (kindP c) w)) s := by
  rw [call_eq (d := ⟨2, 3, b6⟩) rfl rfl]
  simp only [marks, List.mem_cons, List.not_mem_nil, or_false] at hc
  rcases hc with rfl | rfl | rfl | rfl
  · simp only [b6, look_b, x_callv, List.contains_cons, is_box (k := k + 2) h, Nat.reduceBEq, Bool.or_true, Bool.true_or, x_cst, x_var, x_tup, x_lst, x_bin, x_neg, x_not, x_cmp, x_cmp2, x_and1, x_and, x_or1, x_or, x_ite, x_idx, x_slc, x_call, x_blt, x_met, x_fld, x_mth, x_mk, y_fset, y_faug, x_isi, x_nil, x_cons, x_c0, x_c1, x_p0, x_p1, y_nil, y_cons, y_set, y_rtn, y_ite, y_exp, decide_true, w_ok, q_nxt, q_rtn, b_rtn, t_bl, r_ret, a_nm, c_lt, c_le, c_gt, c_ge, c_eqi, c_eqs, c_nes, c_eq0, c_ne0, c_in2, z0, z1, z2, z3, z4, z5, z6, z7, z8, c_les, b_list, l_lay, b_lent, i_tup, bind_ok, List.getElem?_cons_zero, List.getElem?_cons_succ, List.map_cons, List.map_nil, List.replicate, Nat.sub_zero, Nat.reduceSub, List.cons_append, List.nil_append, List.append_nil, List.mapM_cons, List.mapM_nil, Option.pure_def, Option.bind_eq_bind, Option.bind_some, List.any_cons, List.any_nil, id, Bool.or_false, Bool.not_true, Bool.not_false, if_true, if_false, Bool.false_eq_true, reduceIte, List.set_cons_zero, List.set_cons_succ]; rfl
  · simp only [b6, look_s, x_callv, List.contains_cons, is_slot (k := k) h, Nat.reduceBEq, Bool.or_true, Bool.true_or, x_cst, x_var, x_tup, x_lst, x_bin, x_neg, x_not, x_cmp, x_cmp2, x_and1, x_and, x_or1, x_or, x_ite, x_idx, x_slc, x_call, x_blt, x_met, x_fld, x_mth, x_mk, y_fset, y_faug, x_isi, x_nil, x_cons, x_c0, x_c1, x_p0, x_p1, y_nil, y_cons, y_set, y_rtn, y_ite, y_exp, decide_true, w_ok, q_nxt, q_rtn, b_rtn, t_bl, r_ret, a_nm, c_lt, c_le, c_gt, c_ge, c_eqi, c_eqs, c_nes, c_eq0, c_ne0, c_in2, z0, z1, z2, z3, z4, z5, z6, z7, z8, c_les, b_list, l_lay, b_lent, i_tup, bind_ok, List.getElem?_cons_zero, List.getElem?_cons_succ, List.map_cons, List.map_nil, List.replicate, Nat.sub_zero, Nat.reduceSub, List.cons_append, List.nil_append, List.append_nil, List.mapM_cons, List.mapM_nil, Option.pure_def, Option.bind_eq_bind, Option.bind_some, List.any_cons, List.any_nil, id, Bool.or_false, Bool.not_true, Bool.not_false, if_true, if_false, Bool.false_eq_true, reduceIte, List.set_cons_zero, List.set_cons_succ]; rfl
  · simp only [b6, look_n, x_callv, List.contains_cons, is_whole (k := k + 2) h, Nat.reduceBEq, Bool.or_true, Bool.true_or, x_cst, x_var, x_tup, x_lst, x_bin, x_neg, x_not, x_cmp, x_cmp2, x_and1, x_and, x_or1, x_or, x_ite, x_idx, x_slc, x_call, x_blt, x_met, x_fld, x_mth, x_mk, y_fset, y_faug, x_isi, x_nil, x_cons, x_c0, x_c1, x_p0, x_p1, y_nil, y_cons, y_set, y_rtn, y_ite, y_exp, decide_true, w_ok, q_nxt, q_rtn, b_rtn, t_bl, r_ret, a_nm, c_lt, c_le, c_gt, c_ge, c_eqi, c_eqs, c_nes, c_eq0, c_ne0, c_in2, z0, z1, z2, z3, z4, z5, z6, z7, z8, c_les, b_list, l_lay, b_lent, i_tup, bind_ok, List.getElem?_cons_zero, List.getElem?_cons_succ, List.map_cons, List.map_nil, List.replicate, Nat.sub_zero, Nat.reduceSub, List.cons_append, List.nil_append, List.append_nil, List.mapM_cons, List.mapM_nil, Option.pure_def, Option.bind_eq_bind, Option.bind_some, List.any_cons, List.any_nil, id, Bool.or_false, Bool.not_true, Bool.not_false, if_true, if_false, Bool.false_eq_true, reduceIte, List.set_cons_zero, List.set_cons_succ]; rfl
  · simp only [b6, look_m, x_callv, List.contains_cons, is_one (k := k + 1) h, Nat.reduceBEq, Bool.or_true, Bool.true_or, x_cst, x_var, x_tup, x_lst, x_bin, x_neg, x_not, x_cmp, x_cmp2, x_and1, x_and, x_or1, x_or, x_ite, x_idx, x_slc, x_call, x_blt, x_met, x_fld, x_mth, x_mk, y_fset, y_faug, x_isi, x_nil, x_cons, x_c0, x_c1, x_p0, x_p1, y_nil, y_cons, y_set, y_rtn, y_ite, y_exp, decide_true, w_ok, q_nxt, q_rtn, b_rtn, t_bl, r_ret, a_nm, c_lt, c_le, c_gt, c_ge, c_eqi, c_eqs, c_nes, c_eq0, c_ne0, c_in2, z0, z1, z2, z3, z4, z5, z6, z7, z8, c_les, b_list, l_lay, b_lent, i_tup, bind_ok, List.getElem?_cons_zero, List.getElem?_cons_succ, List.map_cons, List.map_nil, List.replicate, Nat.sub_zero, Nat.reduceSub, List.cons_append, List.nil_append, List.append_nil, List.mapM_cons, List.mapM_nil, Option.pure_def, Option.bind_eq_bind, Option.bind_some, List.any_cons, List.any_nil, id, Bool.or_false, Bool.not_true, Bool.not_false, if_true, if_false, Bool.false_eq_true, reduceIte, List.set_cons_zero, List.set_cons_succ]; rfl
/-! ### handed -/
theorem slots_ints : ∀ {ws : List W}, ws.all slotB = true → ∃ ns, intsOf ws = some ns ∧ ns.length = ws.length ∧ ws.all flatW = true
  | [], _ => ⟨[], rfl, rfl, rfl⟩
  | w :: ws, h => by
    rw [List.all_cons, Bool.and_eq_true] at h
    obtain ⟨ns, e, l, f⟩ := slots_ints h.2
    cases w <;> try (simp [slotB] at h; done)
    rename_i i
    exact ⟨i :: ns, by simp [intsOf, e], by simp [l], by simp [flatW, f]⟩
theorem lset_ok {ws : List W} {ns : List Int} (h : intsOf ws = some ns) (hl : ns.length ≤ 4000) (s : Sto) : lset (.tup ws) s = .ok (.int ns.eraseDups.length) s := by
  simp only [lset, h, if_pos hl, Mi.ret]
theorem d_len (a b : Nat) : decide ((a : Int) = (b : Int)) = decide (a = b) := by rw [Bool.eq_iff_iff]; simp; omega
theorem are_handed {k n m : Nat} {s : Sto} {w : W} (h : GV s n m w) : ∃ t, ph ds (k + 4) 7 [w] s = .ok (.bl (handedB w)) (s ++ t) := by
  rw [call_eq (d := ⟨1, 2, b7⟩) rfl rfl]
  cases w
  case tup ws =>
    simp only [b7, h.tTup, isB, x_cst, x_var, x_tup, x_lst, x_bin, x_neg, x_not, x_cmp, x_cmp2, x_and1, x_and, x_or1, x_or, x_ite, x_idx, x_slc, x_call, x_blt, x_met, x_fld, x_mth, x_mk, y_fset, y_faug, x_isi, x_nil, x_cons, x_c0, x_c1, x_p0, x_p1, y_nil, y_cons, y_set, y_rtn, y_ite, y_exp, decide_true, w_ok, q_nxt, q_rtn, b_rtn, t_bl, r_ret, a_nm, c_lt, c_le, c_gt, c_ge, c_eqi, c_eqs, c_nes, c_eq0, c_ne0, c_in2, z0, z1, z2, z3, z4, z5, z6, z7, z8, c_les, b_list, l_lay, b_lent, i_tup, bind_ok, List.getElem?_cons_zero, List.getElem?_cons_succ, List.map_cons, List.map_nil, List.replicate, Nat.sub_zero, Nat.reduceSub, List.cons_append, List.nil_append, List.append_nil, List.mapM_cons, List.mapM_nil, Option.pure_def, Option.bind_eq_bind, Option.bind_some, List.any_cons, List.any_nil, id, Bool.or_false, Bool.not_true, Bool.not_false, if_true, if_false, Bool.false_eq_true, reduceIte, List.set_cons_zero, List.set_cons_succ]
    cases e1 : decide ((ws.length : Int) > 5) with
    | true =>
      refine ⟨[], ?_⟩
      have : decide (ws.length ≤ 5) = false := decide_eq_false (by have := of_decide_eq_true e1; omega)
      simp only [e1, handedB, this, Bool.false_and, x_cst, x_var, x_tup, x_lst, x_bin, x_neg, x_not, x_cmp, x_cmp2, x_and1, x_and, x_or1, x_or, x_ite, x_idx, x_slc, x_call, x_blt, x_met, x_fld, x_mth, x_mk, y_fset, y_faug, x_isi, x_nil, x_cons, x_c0, x_c1, x_p0, x_p1, y_nil, y_cons, y_set, y_rtn, y_ite, y_exp, decide_true, w_ok, q_nxt, q_rtn, b_rtn, t_bl, r_ret, a_nm, c_lt, c_le, c_gt, c_ge, c_eqi, c_eqs, c_nes, c_eq0, c_ne0, c_in2, z0, z1, z2, z3, z4, z5, z6, z7, z8, c_les, b_list, l_lay, b_lent, i_tup, bind_ok, List.getElem?_cons_zero, List.getElem?_cons_succ, List.map_cons, List.map_nil, List.replicate, Nat.sub_zero, Nat.reduceSub, List.cons_append, List.nil_append, List.append_nil, List.mapM_cons, List.mapM_nil, Option.pure_def, Option.bind_eq_bind, Option.bind_some, List.any_cons, List.any_nil, id, Bool.or_false, Bool.not_true, Bool.not_false, if_true, if_false, Bool.false_eq_true, reduceIte, List.set_cons_zero, List.set_cons_succ]
    | false =>
      have l5 : decide (ws.length ≤ 5) = true := decide_eq_true (by have := of_decide_eq_false e1; omega)
      obtain ⟨t, e⟩ := den_lc1 (φ := ph ds (k + 3)) (elt := .call 5 [(.var 1)] [] [0]) (tg := .nm 1) (own := [1]) (k := .val) (its := [.var 0]) (ρ := [some (.tup ws), none]) (s := s) (n := []) (vs := [.tup ws]) (ws := ws)
        (fun w => .bl (slotB w)) (by simp only [x_cst, x_var, x_tup, x_lst, x_bin, x_neg, x_not, x_cmp, x_cmp2, x_and1, x_and, x_or1, x_or, x_ite, x_idx, x_slc, x_call, x_blt, x_met, x_fld, x_mth, x_mk, y_fset, y_faug, x_isi, x_nil, x_cons, x_c0, x_c1, x_p0, x_p1, y_nil, y_cons, y_set, y_rtn, y_ite, y_exp, decide_true, w_ok, q_nxt, q_rtn, b_rtn, t_bl, r_ret, a_nm, c_lt, c_le, c_gt, c_ge, c_eqi, c_eqs, c_nes, c_eq0, c_ne0, c_in2, z0, z1, z2, z3, z4, z5, z6, z7, z8, c_les, b_list, l_lay, b_lent, i_tup, bind_ok, List.getElem?_cons_zero, List.getElem?_cons_succ, List.map_cons, List.map_nil, List.replicate, Nat.sub_zero, Nat.reduceSub, List.cons_append, List.nil_append, List.append_nil, List.mapM_cons, List.mapM_nil, Option.pure_def, Option.bind_eq_bind, Option.bind_some, List.any_cons, List.any_nil, id, Bool.or_false, Bool.not_true, Bool.not_false, if_true, if_false, Bool.false_eq_true, reduceIte, List.set_cons_zero, List.set_cons_succ]) (by
          simp only [iter, itemsW]
          rw [if_pos h.len]) (fun t => rfl) (fun w hw => by
          obtain ⟨nw, mw, _, hw'⟩ := h.item hw
          refine ⟨[some (.tup ws), some w], rfl, fun t => ⟨t, ?_⟩⟩
          simp only [is_slot (k := k) (hw'.app t), x_cst, x_var, x_tup, x_lst, x_bin, x_neg, x_not, x_cmp, x_cmp2, x_and1, x_and, x_or1, x_or, x_ite, x_idx, x_slc, x_call, x_blt, x_met, x_fld, x_mth, x_mk, y_fset, y_faug, x_isi, x_nil, x_cons, x_c0, x_c1, x_p0, x_p1, y_nil, y_cons, y_set, y_rtn, y_ite, y_exp, decide_true, w_ok, q_nxt, q_rtn, b_rtn, t_bl, r_ret, a_nm, c_lt, c_le, c_gt, c_ge, c_eqi, c_eqs, c_nes, c_eq0, c_ne0, c_in2, z0, z1, z2, z3, z4, z5, z6, z7, z8, c_les, b_list, l_lay, b_lent, i_tup, bind_ok, List.getElem?_cons_zero, List.getElem?_cons_succ, List.map_cons, List.map_nil, List.replicate, Nat.sub_zero, Nat.reduceSub, List.cons_append, List.nil_append, List.append_nil, List.mapM_cons, List.mapM_nil, Option.pure_def, Option.bind_eq_bind, Option.bind_some, List.any_cons, List.any_nil, id, Bool.or_false, Bool.not_true, Bool.not_false, if_true, if_false, Bool.false_eq_true, reduceIte, List.set_cons_zero, List.set_cons_succ])
      simp only [e1, ↓e, all_made, x_cst, x_var, x_tup, x_lst, x_bin, x_neg, x_not, x_cmp, x_cmp2, x_and1, x_and, x_or1, x_or, x_ite, x_idx, x_slc, x_call, x_blt, x_met, x_fld, x_mth, x_mk, y_fset, y_faug, x_isi, x_nil, x_cons, x_c0, x_c1, x_p0, x_p1, y_nil, y_cons, y_set, y_rtn, y_ite, y_exp, decide_true, w_ok, q_nxt, q_rtn, b_rtn, t_bl, r_ret, a_nm, c_lt, c_le, c_gt, c_ge, c_eqi, c_eqs, c_nes, c_eq0, c_ne0, c_in2, z0, z1, z2, z3, z4, z5, z6, z7, z8, c_les, b_list, l_lay, b_lent, i_tup, bind_ok, List.getElem?_cons_zero, List.getElem?_cons_succ, List.map_cons, List.map_nil, List.replicate, Nat.sub_zero, Nat.reduceSub, List.cons_append, List.nil_append, List.append_nil, List.mapM_cons, List.mapM_nil, Option.pure_def, Option.bind_eq_bind, Option.bind_some, List.any_cons, List.any_nil, id, Bool.or_false, Bool.not_true, Bool.not_false, if_true, if_false, Bool.false_eq_true, reduceIte, List.set_cons_zero, List.set_cons_succ]
      cases e2 : ws.all slotB with
      | false => exact ⟨_, by simp only [handedB, l5, e2, Bool.true_and, Bool.false_and, x_cst, x_var, x_tup, x_lst, x_bin, x_neg, x_not, x_cmp, x_cmp2, x_and1, x_and, x_or1, x_or, x_ite, x_idx, x_slc, x_call, x_blt, x_met, x_fld, x_mth, x_mk, y_fset, y_faug, x_isi, x_nil, x_cons, x_c0, x_c1, x_p0, x_p1, y_nil, y_cons, y_set, y_rtn, y_ite, y_exp, decide_true, w_ok, q_nxt, q_rtn, b_rtn, t_bl, r_ret, a_nm, c_lt, c_le, c_gt, c_ge, c_eqi, c_eqs, c_nes, c_eq0, c_ne0, c_in2, z0, z1, z2, z3, z4, z5, z6, z7, z8, c_les, b_list, l_lay, b_lent, i_tup, bind_ok, List.getElem?_cons_zero, List.getElem?_cons_succ, List.map_cons, List.map_nil, List.replicate, Nat.sub_zero, Nat.reduceSub, List.cons_append, List.nil_append, List.append_nil, List.mapM_cons, List.mapM_nil, Option.pure_def, Option.bind_eq_bind, Option.bind_some, List.any_cons, List.any_nil, id, Bool.or_false, Bool.not_true, Bool.not_false, if_true, if_false, Bool.false_eq_true, reduceIte, List.set_cons_zero, List.set_cons_succ]; rfl⟩
      | true =>
        obtain ⟨ns, e3, e4, e5⟩ := slots_ints e2
        have l5' := of_decide_eq_true l5
        refine ⟨t ++ [SO.lst (ws.map fun w => .bl (slotB w))], ?_⟩
        simp only [x_lset, lset_ok e3 (by omega), handedB, l5, e2, distB, e3, e4, d_len, Bool.true_and, x_cst, x_var, x_tup, x_lst, x_bin, x_neg, x_not, x_cmp, x_cmp2, x_and1, x_and, x_or1, x_or, x_ite, x_idx, x_slc, x_call, x_blt, x_met, x_fld, x_mth, x_mk, y_fset, y_faug, x_isi, x_nil, x_cons, x_c0, x_c1, x_p0, x_p1, y_nil, y_cons, y_set, y_rtn, y_ite, y_exp, decide_true, w_ok, q_nxt, q_rtn, b_rtn, t_bl, r_ret, a_nm, c_lt, c_le, c_gt, c_ge, c_eqi, c_eqs, c_nes, c_eq0, c_ne0, c_in2, z0, z1, z2, z3, z4, z5, z6, z7, z8, c_les, b_list, l_lay, b_lent, i_tup, bind_ok, List.getElem?_cons_zero, List.getElem?_cons_succ, List.map_cons, List.map_nil, List.replicate, Nat.sub_zero, Nat.reduceSub, List.cons_append, List.nil_append, List.append_nil, List.mapM_cons, List.mapM_nil, Option.pure_def, Option.bind_eq_bind, Option.bind_some, List.any_cons, List.any_nil, id, Bool.or_false, Bool.not_true, Bool.not_false, if_true, if_false, Bool.false_eq_true, reduceIte, List.set_cons_zero, List.set_cons_succ]
  all_goals exact ⟨[], by simp only [b7, h.tTup, isB, x_cst, x_var, x_tup, x_lst, x_bin, x_neg, x_not, x_cmp, x_cmp2, x_and1, x_and, x_or1, x_or, x_ite, x_idx, x_slc, x_call, x_blt, x_met, x_fld, x_mth, x_mk, y_fset, y_faug, x_isi, x_nil, x_cons, x_c0, x_c1, x_p0, x_p1, y_nil, y_cons, y_set, y_rtn, y_ite, y_exp, decide_true, w_ok, q_nxt, q_rtn, b_rtn, t_bl, r_ret, a_nm, c_lt, c_le, c_gt, c_ge, c_eqi, c_eqs, c_nes, c_eq0, c_ne0, c_in2, z0, z1, z2, z3, z4, z5, z6, z7, z8, c_les, b_list, l_lay, b_lent, i_tup, bind_ok, List.getElem?_cons_zero, List.getElem?_cons_succ, List.map_cons, List.map_nil, List.replicate, Nat.sub_zero, Nat.reduceSub, List.cons_append, List.nil_append, List.append_nil, List.mapM_cons, List.mapM_nil, Option.pure_def, Option.bind_eq_bind, Option.bind_some, List.any_cons, List.any_nil, id, Bool.or_false, Bool.not_true, Bool.not_false, if_true, if_false, Bool.false_eq_true, reduceIte, List.set_cons_zero, List.set_cons_succ]; rfl⟩
end K52

namespace K52
open PySem hiding Env exec execs
open L2 Mi MiL
theorem in02_far (n : Nat) : inH (.int ((n : Int) + 3)) [.int 0, .int 2] = false := by
  simp [inH, eqF]; omega
theorem len3 (a b c : W) (r : List W) : ((a :: b :: c :: r).length : Int) = (r.length : Int) + 3 := by simp only [List.length_cons]; omega
theorem is_common {k n m : Nat} {s : Sto} {w : W} {hs : List W} (h : GV s n m w) (hf : hs.all flatW = true) : ph ds (k + 4) 8 [w, .tup hs] s = .ok (.bl (commonB hs w)) s := by
  rw [call_eq (d := ⟨2, 2, b8⟩) rfl rfl]
  cases w
  case tup ws =>
    match ws, h with
    | [], h =>
      have e : inH (.int (([] : List W).length : Int)) [.int 0, .int 2] = true := rfl
      have e2 : decide ((([] : List W).length : Int) = 0) = true := rfl
      simp only [b8, h.tTup, isB, c_ninH (hs := [W.int 0, W.int 2]) rfl, e, e2, commonB, x_cst, x_var, x_tup, x_lst, x_bin, x_neg, x_not, x_cmp, x_cmp2, x_and1, x_and, x_or1, x_or, x_ite, x_idx, x_slc, x_call, x_blt, x_met, x_fld, x_mth, x_mk, y_fset, y_faug, x_isi, x_nil, x_cons, x_c0, x_c1, x_p0, x_p1, y_nil, y_cons, y_set, y_rtn, y_ite, y_exp, decide_true, w_ok, q_nxt, q_rtn, b_rtn, t_bl, r_ret, a_nm, c_lt, c_le, c_gt, c_ge, c_eqi, c_eqs, c_nes, c_eq0, c_ne0, c_in2, z0, z1, z2, z3, z4, z5, z6, z7, z8, c_les, b_list, l_lay, b_lent, i_tup, bind_ok, List.getElem?_cons_zero, List.getElem?_cons_succ, List.map_cons, List.map_nil, List.replicate, Nat.sub_zero, Nat.reduceSub, List.cons_append, List.nil_append, List.append_nil, List.mapM_cons, List.mapM_nil, Option.pure_def, Option.bind_eq_bind, Option.bind_some, List.any_cons, List.any_nil, id, Bool.or_false, Bool.not_true, Bool.not_false, if_true, if_false, Bool.false_eq_true, reduceIte, List.set_cons_zero, List.set_cons_succ]
    | [a], h =>
      have e : inH (.int (([a] : List W).length : Int)) [.int 0, .int 2] = false := rfl
      have e2 : commonB hs (.tup [a]) = false := by cases a <;> rfl
      simp only [b8, h.tTup, isB, c_ninH (hs := [W.int 0, W.int 2]) rfl, e, e2, x_cst, x_var, x_tup, x_lst, x_bin, x_neg, x_not, x_cmp, x_cmp2, x_and1, x_and, x_or1, x_or, x_ite, x_idx, x_slc, x_call, x_blt, x_met, x_fld, x_mth, x_mk, y_fset, y_faug, x_isi, x_nil, x_cons, x_c0, x_c1, x_p0, x_p1, y_nil, y_cons, y_set, y_rtn, y_ite, y_exp, decide_true, w_ok, q_nxt, q_rtn, b_rtn, t_bl, r_ret, a_nm, c_lt, c_le, c_gt, c_ge, c_eqi, c_eqs, c_nes, c_eq0, c_ne0, c_in2, z0, z1, z2, z3, z4, z5, z6, z7, z8, c_les, b_list, l_lay, b_lent, i_tup, bind_ok, List.getElem?_cons_zero, List.getElem?_cons_succ, List.map_cons, List.map_nil, List.replicate, Nat.sub_zero, Nat.reduceSub, List.cons_append, List.nil_append, List.append_nil, List.mapM_cons, List.mapM_nil, Option.pure_def, Option.bind_eq_bind, Option.bind_some, List.any_cons, List.any_nil, id, Bool.or_false, Bool.not_true, Bool.not_false, if_true, if_false, Bool.false_eq_true, reduceIte, List.set_cons_zero, List.set_cons_succ]
    | [a, b], h =>
      have e : inH (.int (([a, b] : List W).length : Int)) [.int 0, .int 2] = true := rfl
      have e2 : decide ((([a, b] : List W).length : Int) = 0) = false := rfl
      obtain ⟨_, _, _, ha⟩ := h.item (w := a) (by simp)
      obtain ⟨_, _, _, hb⟩ := h.item (w := b) (by simp)
      simp only [b8, h.tTup, isB, c_ninH (hs := [W.int 0, W.int 2]) rfl, e, e2, at0, ha.tStr, x_cst, x_var, x_tup, x_lst, x_bin, x_neg, x_not, x_cmp, x_cmp2, x_and1, x_and, x_or1, x_or, x_ite, x_idx, x_slc, x_call, x_blt, x_met, x_fld, x_mth, x_mk, y_fset, y_faug, x_isi, x_nil, x_cons, x_c0, x_c1, x_p0, x_p1, y_nil, y_cons, y_set, y_rtn, y_ite, y_exp, decide_true, w_ok, q_nxt, q_rtn, b_rtn, t_bl, r_ret, a_nm, c_lt, c_le, c_gt, c_ge, c_eqi, c_eqs, c_nes, c_eq0, c_ne0, c_in2, z0, z1, z2, z3, z4, z5, z6, z7, z8, c_les, b_list, l_lay, b_lent, i_tup, bind_ok, List.getElem?_cons_zero, List.getElem?_cons_succ, List.map_cons, List.map_nil, List.replicate, Nat.sub_zero, Nat.reduceSub, List.cons_append, List.nil_append, List.append_nil, List.mapM_cons, List.mapM_nil, Option.pure_def, Option.bind_eq_bind, Option.bind_some, List.any_cons, List.any_nil, id, Bool.or_false, Bool.not_true, Bool.not_false, if_true, if_false, Bool.false_eq_true, reduceIte, List.set_cons_zero, List.set_cons_succ]
      cases a
      case str x =>
        simp only [isB, at0, commonB, x_cst, x_var, x_tup, x_lst, x_bin, x_neg, x_not, x_cmp, x_cmp2, x_and1, x_and, x_or1, x_or, x_ite, x_idx, x_slc, x_call, x_blt, x_met, x_fld, x_mth, x_mk, y_fset, y_faug, x_isi, x_nil, x_cons, x_c0, x_c1, x_p0, x_p1, y_nil, y_cons, y_set, y_rtn, y_ite, y_exp, decide_true, w_ok, q_nxt, q_rtn, b_rtn, t_bl, r_ret, a_nm, c_lt, c_le, c_gt, c_ge, c_eqi, c_eqs, c_nes, c_eq0, c_ne0, c_in2, z0, z1, z2, z3, z4, z5, z6, z7, z8, c_les, b_list, l_lay, b_lent, i_tup, bind_ok, List.getElem?_cons_zero, List.getElem?_cons_succ, List.map_cons, List.map_nil, List.replicate, Nat.sub_zero, Nat.reduceSub, List.cons_append, List.nil_append, List.append_nil, List.mapM_cons, List.mapM_nil, Option.pure_def, Option.bind_eq_bind, Option.bind_some, List.any_cons, List.any_nil, id, Bool.or_false, Bool.not_true, Bool.not_false, if_true, if_false, Bool.false_eq_true, reduceIte, List.set_cons_zero, List.set_cons_succ]
        cases (decide (x = "line") || decide (x = "key")) with
        | false => simp only [Bool.false_and, x_cst, x_var, x_tup, x_lst, x_bin, x_neg, x_not, x_cmp, x_cmp2, x_and1, x_and, x_or1, x_or, x_ite, x_idx, x_slc, x_call, x_blt, x_met, x_fld, x_mth, x_mk, y_fset, y_faug, x_isi, x_nil, x_cons, x_c0, x_c1, x_p0, x_p1, y_nil, y_cons, y_set, y_rtn, y_ite, y_exp, decide_true, w_ok, q_nxt, q_rtn, b_rtn, t_bl, r_ret, a_nm, c_lt, c_le, c_gt, c_ge, c_eqi, c_eqs, c_nes, c_eq0, c_ne0, c_in2, z0, z1, z2, z3, z4, z5, z6, z7, z8, c_les, b_list, l_lay, b_lent, i_tup, bind_ok, List.getElem?_cons_zero, List.getElem?_cons_succ, List.map_cons, List.map_nil, List.replicate, Nat.sub_zero, Nat.reduceSub, List.cons_append, List.nil_append, List.append_nil, List.mapM_cons, List.mapM_nil, Option.pure_def, Option.bind_eq_bind, Option.bind_some, List.any_cons, List.any_nil, id, Bool.or_false, Bool.not_true, Bool.not_false, if_true, if_false, Bool.false_eq_true, reduceIte, List.set_cons_zero, List.set_cons_succ]
        | true =>
          simp only [at1, is_slot (k := k) hb, Bool.true_and, x_cst, x_var, x_tup, x_lst, x_bin, x_neg, x_not, x_cmp, x_cmp2, x_and1, x_and, x_or1, x_or, x_ite, x_idx, x_slc, x_call, x_blt, x_met, x_fld, x_mth, x_mk, y_fset, y_faug, x_isi, x_nil, x_cons, x_c0, x_c1, x_p0, x_p1, y_nil, y_cons, y_set, y_rtn, y_ite, y_exp, decide_true, w_ok, q_nxt, q_rtn, b_rtn, t_bl, r_ret, a_nm, c_lt, c_le, c_gt, c_ge, c_eqi, c_eqs, c_nes, c_eq0, c_ne0, c_in2, z0, z1, z2, z3, z4, z5, z6, z7, z8, c_les, b_list, l_lay, b_lent, i_tup, bind_ok, List.getElem?_cons_zero, List.getElem?_cons_succ, List.map_cons, List.map_nil, List.replicate, Nat.sub_zero, Nat.reduceSub, List.cons_append, List.nil_append, List.append_nil, List.mapM_cons, List.mapM_nil, Option.pure_def, Option.bind_eq_bind, Option.bind_some, List.any_cons, List.any_nil, id, Bool.or_false, Bool.not_true, Bool.not_false, if_true, if_false, Bool.false_eq_true, reduceIte, List.set_cons_zero, List.set_cons_succ]
          cases e3 : slotB b with
          | false => simp only [Bool.false_and, x_cst, x_var, x_tup, x_lst, x_bin, x_neg, x_not, x_cmp, x_cmp2, x_and1, x_and, x_or1, x_or, x_ite, x_idx, x_slc, x_call, x_blt, x_met, x_fld, x_mth, x_mk, y_fset, y_faug, x_isi, x_nil, x_cons, x_c0, x_c1, x_p0, x_p1, y_nil, y_cons, y_set, y_rtn, y_ite, y_exp, decide_true, w_ok, q_nxt, q_rtn, b_rtn, t_bl, r_ret, a_nm, c_lt, c_le, c_gt, c_ge, c_eqi, c_eqs, c_nes, c_eq0, c_ne0, c_in2, z0, z1, z2, z3, z4, z5, z6, z7, z8, c_les, b_list, l_lay, b_lent, i_tup, bind_ok, List.getElem?_cons_zero, List.getElem?_cons_succ, List.map_cons, List.map_nil, List.replicate, Nat.sub_zero, Nat.reduceSub, List.cons_append, List.nil_append, List.append_nil, List.mapM_cons, List.mapM_nil, Option.pure_def, Option.bind_eq_bind, Option.bind_some, List.any_cons, List.any_nil, id, Bool.or_false, Bool.not_true, Bool.not_false, if_true, if_false, Bool.false_eq_true, reduceIte, List.set_cons_zero, List.set_cons_succ]
          | true =>
            cases b <;> try (simp [slotB] at e3; done)
            simp only [at1, c_ninH hf, Bool.true_and, x_cst, x_var, x_tup, x_lst, x_bin, x_neg, x_not, x_cmp, x_cmp2, x_and1, x_and, x_or1, x_or, x_ite, x_idx, x_slc, x_call, x_blt, x_met, x_fld, x_mth, x_mk, y_fset, y_faug, x_isi, x_nil, x_cons, x_c0, x_c1, x_p0, x_p1, y_nil, y_cons, y_set, y_rtn, y_ite, y_exp, decide_true, w_ok, q_nxt, q_rtn, b_rtn, t_bl, r_ret, a_nm, c_lt, c_le, c_gt, c_ge, c_eqi, c_eqs, c_nes, c_eq0, c_ne0, c_in2, z0, z1, z2, z3, z4, z5, z6, z7, z8, c_les, b_list, l_lay, b_lent, i_tup, bind_ok, List.getElem?_cons_zero, List.getElem?_cons_succ, List.map_cons, List.map_nil, List.replicate, Nat.sub_zero, Nat.reduceSub, List.cons_append, List.nil_append, List.append_nil, List.mapM_cons, List.mapM_nil, Option.pure_def, Option.bind_eq_bind, Option.bind_some, List.any_cons, List.any_nil, id, Bool.or_false, Bool.not_true, Bool.not_false, if_true, if_false, Bool.false_eq_true, reduceIte, List.set_cons_zero, List.set_cons_succ]
      all_goals (simp only [isB, x_cst, x_var, x_tup, x_lst, x_bin, x_neg, x_not, x_cmp, x_cmp2, x_and1, x_and, x_or1, x_or, x_ite, x_idx, x_slc, x_call, x_blt, x_met, x_fld, x_mth, x_mk, y_fset, y_faug, x_isi, x_nil, x_cons, x_c0, x_c1, x_p0, x_p1, y_nil, y_cons, y_set, y_rtn, y_ite, y_exp, decide_true, w_ok, q_nxt, q_rtn, b_rtn, t_bl, r_ret, a_nm, c_lt, c_le, c_gt, c_ge, c_eqi, c_eqs, c_nes, c_eq0, c_ne0, c_in2, z0, z1, z2, z3, z4, z5, z6, z7, z8, c_les, b_list, l_lay, b_lent, i_tup, bind_ok, List.getElem?_cons_zero, List.getElem?_cons_succ, List.map_cons, List.map_nil, List.replicate, Nat.sub_zero, Nat.reduceSub, List.cons_append, List.nil_append, List.append_nil, List.mapM_cons, List.mapM_nil, Option.pure_def, Option.bind_eq_bind, Option.bind_some, List.any_cons, List.any_nil, id, Bool.or_false, Bool.not_true, Bool.not_false, if_true, if_false, Bool.false_eq_true, reduceIte, List.set_cons_zero, List.set_cons_succ]; rfl)
    | a :: b :: c :: r, h =>
      have e2 : commonB hs (.tup (a :: b :: c :: r)) = false := by cases a <;> rfl
      simp only [b8, h.tTup, isB, len3, c_ninH (hs := [W.int 0, W.int 2]) rfl, in02_far, e2, x_cst, x_var, x_tup, x_lst, x_bin, x_neg, x_not, x_cmp, x_cmp2, x_and1, x_and, x_or1, x_or, x_ite, x_idx, x_slc, x_call, x_blt, x_met, x_fld, x_mth, x_mk, y_fset, y_faug, x_isi, x_nil, x_cons, x_c0, x_c1, x_p0, x_p1, y_nil, y_cons, y_set, y_rtn, y_ite, y_exp, decide_true, w_ok, q_nxt, q_rtn, b_rtn, t_bl, r_ret, a_nm, c_lt, c_le, c_gt, c_ge, c_eqi, c_eqs, c_nes, c_eq0, c_ne0, c_in2, z0, z1, z2, z3, z4, z5, z6, z7, z8, c_les, b_list, l_lay, b_lent, i_tup, bind_ok, List.getElem?_cons_zero, List.getElem?_cons_succ, List.map_cons, List.map_nil, List.replicate, Nat.sub_zero, Nat.reduceSub, List.cons_append, List.nil_append, List.append_nil, List.mapM_cons, List.mapM_nil, Option.pure_def, Option.bind_eq_bind, Option.bind_some, List.any_cons, List.any_nil, id, Bool.or_false, Bool.not_true, Bool.not_false, if_true, if_false, Bool.false_eq_true, reduceIte, List.set_cons_zero, List.set_cons_succ]
  all_goals (simp only [b8, h.tTup, isB, x_cst, x_var, x_tup, x_lst, x_bin, x_neg, x_not, x_cmp, x_cmp2, x_and1, x_and, x_or1, x_or, x_ite, x_idx, x_slc, x_call, x_blt, x_met, x_fld, x_mth, x_mk, y_fset, y_faug, x_isi, x_nil, x_cons, x_c0, x_c1, x_p0, x_p1, y_nil, y_cons, y_set, y_rtn, y_ite, y_exp, decide_true, w_ok, q_nxt, q_rtn, b_rtn, t_bl, r_ret, a_nm, c_lt, c_le, c_gt, c_ge, c_eqi, c_eqs, c_nes, c_eq0, c_ne0, c_in2, z0, z1, z2, z3, z4, z5, z6, z7, z8, c_les, b_list, l_lay, b_lent, i_tup, bind_ok, List.getElem?_cons_zero, List.getElem?_cons_succ, List.map_cons, List.map_nil, List.replicate, Nat.sub_zero, Nat.reduceSub, List.cons_append, List.nil_append, List.append_nil, List.mapM_cons, List.mapM_nil, Option.pure_def, Option.bind_eq_bind, Option.bind_some, List.any_cons, List.any_nil, id, Bool.or_false, Bool.not_true, Bool.not_false, if_true, if_false, Bool.false_eq_true, reduceIte, List.set_cons_zero, List.set_cons_succ]; rfl)
theorem atk (ws : List W) (i : Nat) (w : W) (h : ws[i]? = some w) (s : Sto) : idxW (.tup ws) (.int (i : Int)) s = .ok w s := by
  rw [i_tup, at_nat, h]
theorem six {ws : List W} (h : ws.length = 6) : ∃ x a b c d e, ws = [x, a, b, c, d, e] := by
  match ws, h with
  | [x, a, b, c, d, e], _ => exact ⟨x, a, b, c, d, e, rfl⟩
theorem beget_no {r : List W} (h : ¬ r.length = 5) : begetB r = false := by
  match r, h with
  | [a, b, c, d, e], h => simp at h
  | [], _ => rfl
  | [a], _ => rfl
  | [a, b], _ => rfl
  | [a, b, c], _ => rfl
  | [a, b, c, d], _ => rfl
  | a :: b :: c :: d :: e :: f :: r, _ => rfl
theorem handed_flat {w : W} (h : handedB w = true) : ∃ hs, w = .tup hs ∧ hs.all slotB = true ∧ hs.all flatW = true := by
  cases w <;> try (simp [handedB] at h; done)
  rename_i hs
  simp only [handedB, Bool.and_eq_true] at h
  obtain ⟨ns, _, _, f⟩ := slots_ints h.2.1
  exact ⟨hs, rfl, h.2.1, f⟩
theorem is_beget {k n m : Nat} {s : Sto} {x : W} {r : List W} (h : GV s n m (.tup (x :: r))) : ∃ t, ph ds (k + 5) 9 [.tup (x :: r)] s = .ok (.bl (begetB r)) (s ++ t) := by
  rw [call_eq (d := ⟨1, 1, b9⟩) rfl rfl]
  by_cases hl : r.length = 5
  case neg =>
    have e : decide (((x :: r).length : Int) = 6) = false := decide_eq_false (by simp only [List.length_cons]; omega)
    exact ⟨[], by simp only [b9, c_nei, e, beget_no hl, x_cst, x_var, x_tup, x_lst, x_bin, x_neg, x_not, x_cmp, x_cmp2, x_and1, x_and, x_or1, x_or, x_ite, x_idx, x_slc, x_call, x_blt, x_met, x_fld, x_mth, x_mk, y_fset, y_faug, x_isi, x_nil, x_cons, x_c0, x_c1, x_p0, x_p1, y_nil, y_cons, y_set, y_rtn, y_ite, y_exp, decide_true, w_ok, q_nxt, q_rtn, b_rtn, t_bl, r_ret, a_nm, c_lt, c_le, c_gt, c_ge, c_eqi, c_eqs, c_nes, c_eq0, c_ne0, c_in2, z0, z1, z2, z3, z4, z5, z6, z7, z8, c_les, b_list, l_lay, b_lent, i_tup, bind_ok, List.getElem?_cons_zero, List.getElem?_cons_succ, List.map_cons, List.map_nil, List.replicate, Nat.sub_zero, Nat.reduceSub, List.cons_append, List.nil_append, List.append_nil, List.mapM_cons, List.mapM_nil, Option.pure_def, Option.bind_eq_bind, Option.bind_some, List.any_cons, List.any_nil, id, Bool.or_false, Bool.not_true, Bool.not_false, if_true, if_false, Bool.false_eq_true, reduceIte, List.set_cons_zero, List.set_cons_succ]⟩
  case pos =>
    obtain ⟨x', a, b, c, d, e, hw⟩ := six (ws := x :: r) (by simp [hl])
    simp only [List.cons.injEq] at hw
    obtain ⟨rfl, rfl⟩ := hw
    obtain ⟨_, _, _, ha⟩ := h.item (w := a) (by simp)
    obtain ⟨_, _, _, hb⟩ := h.item (w := b) (by simp)
    obtain ⟨_, _, _, hc⟩ := h.item (w := c) (by simp)
    obtain ⟨_, _, _, hd⟩ := h.item (w := d) (by simp)
    obtain ⟨_, _, _, he⟩ := h.item (w := e) (by simp)
    have e6 : decide ((([x, a, b, c, d, e] : List W).length : Int) = 6) = true := rfl
    have i1 : L2.atI [x, a, b, c, d, e] 1 = some a := rfl
    have i2 : L2.atI [x, a, b, c, d, e] 2 = some b := rfl
    have i3 : L2.atI [x, a, b, c, d, e] 3 = some c := rfl
    have i4 : L2.atI [x, a, b, c, d, e] 4 = some d := rfl
    have i5 : L2.atI [x, a, b, c, d, e] 5 = some e := rfl
    obtain ⟨t1, e1⟩ := is_name (k := k + 3) ha
    simp only [b9, c_nei, e6, begetB, i1, e1, x_cst, x_var, x_tup, x_lst, x_bin, x_neg, x_not, x_cmp, x_cmp2, x_and1, x_and, x_or1, x_or, x_ite, x_idx, x_slc, x_call, x_blt, x_met, x_fld, x_mth, x_mk, y_fset, y_faug, x_isi, x_nil, x_cons, x_c0, x_c1, x_p0, x_p1, y_nil, y_cons, y_set, y_rtn, y_ite, y_exp, decide_true, w_ok, q_nxt, q_rtn, b_rtn, t_bl, r_ret, a_nm, c_lt, c_le, c_gt, c_ge, c_eqi, c_eqs, c_nes, c_eq0, c_ne0, c_in2, z0, z1, z2, z3, z4, z5, z6, z7, z8, c_les, b_list, l_lay, b_lent, i_tup, bind_ok, List.getElem?_cons_zero, List.getElem?_cons_succ, List.map_cons, List.map_nil, List.replicate, Nat.sub_zero, Nat.reduceSub, List.cons_append, List.nil_append, List.append_nil, List.mapM_cons, List.mapM_nil, Option.pure_def, Option.bind_eq_bind, Option.bind_some, List.any_cons, List.any_nil, id, Bool.or_false, Bool.not_true, Bool.not_false, if_true, if_false, Bool.false_eq_true, reduceIte, List.set_cons_zero, List.set_cons_succ]
    cases q1 : nameB a with
    | false => exact ⟨t1, by simp only [Bool.false_and, x_cst, x_var, x_tup, x_lst, x_bin, x_neg, x_not, x_cmp, x_cmp2, x_and1, x_and, x_or1, x_or, x_ite, x_idx, x_slc, x_call, x_blt, x_met, x_fld, x_mth, x_mk, y_fset, y_faug, x_isi, x_nil, x_cons, x_c0, x_c1, x_p0, x_p1, y_nil, y_cons, y_set, y_rtn, y_ite, y_exp, decide_true, w_ok, q_nxt, q_rtn, b_rtn, t_bl, r_ret, a_nm, c_lt, c_le, c_gt, c_ge, c_eqi, c_eqs, c_nes, c_eq0, c_ne0, c_in2, z0, z1, z2, z3, z4, z5, z6, z7, z8, c_les, b_list, l_lay, b_lent, i_tup, bind_ok, List.getElem?_cons_zero, List.getElem?_cons_succ, List.map_cons, List.map_nil, List.replicate, Nat.sub_zero, Nat.reduceSub, List.cons_append, List.nil_append, List.append_nil, List.mapM_cons, List.mapM_nil, Option.pure_def, Option.bind_eq_bind, Option.bind_some, List.any_cons, List.any_nil, id, Bool.or_false, Bool.not_true, Bool.not_false, if_true, if_false, Bool.false_eq_true, reduceIte, List.set_cons_zero, List.set_cons_succ]⟩
    | true =>
      simp only [i2, is_one (k := k + 2) (hb.app t1), Bool.true_and, x_cst, x_var, x_tup, x_lst, x_bin, x_neg, x_not, x_cmp, x_cmp2, x_and1, x_and, x_or1, x_or, x_ite, x_idx, x_slc, x_call, x_blt, x_met, x_fld, x_mth, x_mk, y_fset, y_faug, x_isi, x_nil, x_cons, x_c0, x_c1, x_p0, x_p1, y_nil, y_cons, y_set, y_rtn, y_ite, y_exp, decide_true, w_ok, q_nxt, q_rtn, b_rtn, t_bl, r_ret, a_nm, c_lt, c_le, c_gt, c_ge, c_eqi, c_eqs, c_nes, c_eq0, c_ne0, c_in2, z0, z1, z2, z3, z4, z5, z6, z7, z8, c_les, b_list, l_lay, b_lent, i_tup, bind_ok, List.getElem?_cons_zero, List.getElem?_cons_succ, List.map_cons, List.map_nil, List.replicate, Nat.sub_zero, Nat.reduceSub, List.cons_append, List.nil_append, List.append_nil, List.mapM_cons, List.mapM_nil, Option.pure_def, Option.bind_eq_bind, Option.bind_some, List.any_cons, List.any_nil, id, Bool.or_false, Bool.not_true, Bool.not_false, if_true, if_false, Bool.false_eq_true, reduceIte, List.set_cons_zero, List.set_cons_succ]
      cases q2 : oneB b with
      | false => exact ⟨t1, by simp only [Bool.false_and, x_cst, x_var, x_tup, x_lst, x_bin, x_neg, x_not, x_cmp, x_cmp2, x_and1, x_and, x_or1, x_or, x_ite, x_idx, x_slc, x_call, x_blt, x_met, x_fld, x_mth, x_mk, y_fset, y_faug, x_isi, x_nil, x_cons, x_c0, x_c1, x_p0, x_p1, y_nil, y_cons, y_set, y_rtn, y_ite, y_exp, decide_true, w_ok, q_nxt, q_rtn, b_rtn, t_bl, r_ret, a_nm, c_lt, c_le, c_gt, c_ge, c_eqi, c_eqs, c_nes, c_eq0, c_ne0, c_in2, z0, z1, z2, z3, z4, z5, z6, z7, z8, c_les, b_list, l_lay, b_lent, i_tup, bind_ok, List.getElem?_cons_zero, List.getElem?_cons_succ, List.map_cons, List.map_nil, List.replicate, Nat.sub_zero, Nat.reduceSub, List.cons_append, List.nil_append, List.append_nil, List.mapM_cons, List.mapM_nil, Option.pure_def, Option.bind_eq_bind, Option.bind_some, List.any_cons, List.any_nil, id, Bool.or_false, Bool.not_true, Bool.not_false, if_true, if_false, Bool.false_eq_true, reduceIte, List.set_cons_zero, List.set_cons_succ]⟩
      | true =>
        obtain ⟨t2, e2⟩ := are_handed (k := k) (hc.app t1)
        simp only [i3, e2, Bool.true_and, x_cst, x_var, x_tup, x_lst, x_bin, x_neg, x_not, x_cmp, x_cmp2, x_and1, x_and, x_or1, x_or, x_ite, x_idx, x_slc, x_call, x_blt, x_met, x_fld, x_mth, x_mk, y_fset, y_faug, x_isi, x_nil, x_cons, x_c0, x_c1, x_p0, x_p1, y_nil, y_cons, y_set, y_rtn, y_ite, y_exp, decide_true, w_ok, q_nxt, q_rtn, b_rtn, t_bl, r_ret, a_nm, c_lt, c_le, c_gt, c_ge, c_eqi, c_eqs, c_nes, c_eq0, c_ne0, c_in2, z0, z1, z2, z3, z4, z5, z6, z7, z8, c_les, b_list, l_lay, b_lent, i_tup, bind_ok, List.getElem?_cons_zero, List.getElem?_cons_succ, List.map_cons, List.map_nil, List.replicate, Nat.sub_zero, Nat.reduceSub, List.cons_append, List.nil_append, List.append_nil, List.mapM_cons, List.mapM_nil, Option.pure_def, Option.bind_eq_bind, Option.bind_some, List.any_cons, List.any_nil, id, Bool.or_false, Bool.not_true, Bool.not_false, if_true, if_false, Bool.false_eq_true, reduceIte, List.set_cons_zero, List.set_cons_succ]
        cases q3 : handedB c with
        | false => exact ⟨t1 ++ t2, by simp only [Bool.false_and, List.append_assoc, x_cst, x_var, x_tup, x_lst, x_bin, x_neg, x_not, x_cmp, x_cmp2, x_and1, x_and, x_or1, x_or, x_ite, x_idx, x_slc, x_call, x_blt, x_met, x_fld, x_mth, x_mk, y_fset, y_faug, x_isi, x_nil, x_cons, x_c0, x_c1, x_p0, x_p1, y_nil, y_cons, y_set, y_rtn, y_ite, y_exp, decide_true, w_ok, q_nxt, q_rtn, b_rtn, t_bl, r_ret, a_nm, c_lt, c_le, c_gt, c_ge, c_eqi, c_eqs, c_nes, c_eq0, c_ne0, c_in2, z0, z1, z2, z3, z4, z5, z6, z7, z8, c_les, b_list, l_lay, b_lent, i_tup, bind_ok, List.getElem?_cons_zero, List.getElem?_cons_succ, List.map_cons, List.map_nil, List.replicate, Nat.sub_zero, Nat.reduceSub, List.cons_append, List.nil_append, List.append_nil, List.mapM_cons, List.mapM_nil, Option.pure_def, Option.bind_eq_bind, Option.bind_some, List.any_cons, List.any_nil, id, Bool.or_false, Bool.not_true, Bool.not_false, if_true, if_false, Bool.false_eq_true, reduceIte, List.set_cons_zero, List.set_cons_succ]⟩
        | true =>
          obtain ⟨hs, rfl, _, hf⟩ := handed_flat q3
          refine ⟨t1 ++ t2, ?_⟩
          simp only [i3, i4, is_common (k := k) ((hd.app t1).app t2) hf, itemsT, Bool.true_and, x_cst, x_var, x_tup, x_lst, x_bin, x_neg, x_not, x_cmp, x_cmp2, x_and1, x_and, x_or1, x_or, x_ite, x_idx, x_slc, x_call, x_blt, x_met, x_fld, x_mth, x_mk, y_fset, y_faug, x_isi, x_nil, x_cons, x_c0, x_c1, x_p0, x_p1, y_nil, y_cons, y_set, y_rtn, y_ite, y_exp, decide_true, w_ok, q_nxt, q_rtn, b_rtn, t_bl, r_ret, a_nm, c_lt, c_le, c_gt, c_ge, c_eqi, c_eqs, c_nes, c_eq0, c_ne0, c_in2, z0, z1, z2, z3, z4, z5, z6, z7, z8, c_les, b_list, l_lay, b_lent, i_tup, bind_ok, List.getElem?_cons_zero, List.getElem?_cons_succ, List.map_cons, List.map_nil, List.replicate, Nat.sub_zero, Nat.reduceSub, List.cons_append, List.nil_append, List.append_nil, List.mapM_cons, List.mapM_nil, Option.pure_def, Option.bind_eq_bind, Option.bind_some, List.any_cons, List.any_nil, id, Bool.or_false, Bool.not_true, Bool.not_false, if_true, if_false, Bool.false_eq_true, reduceIte, List.set_cons_zero, List.set_cons_succ]
          cases q4 : commonB hs d with
          | false => simp only [Bool.false_and, List.append_assoc, x_cst, x_var, x_tup, x_lst, x_bin, x_neg, x_not, x_cmp, x_cmp2, x_and1, x_and, x_or1, x_or, x_ite, x_idx, x_slc, x_call, x_blt, x_met, x_fld, x_mth, x_mk, y_fset, y_faug, x_isi, x_nil, x_cons, x_c0, x_c1, x_p0, x_p1, y_nil, y_cons, y_set, y_rtn, y_ite, y_exp, decide_true, w_ok, q_nxt, q_rtn, b_rtn, t_bl, r_ret, a_nm, c_lt, c_le, c_gt, c_ge, c_eqi, c_eqs, c_nes, c_eq0, c_ne0, c_in2, z0, z1, z2, z3, z4, z5, z6, z7, z8, c_les, b_list, l_lay, b_lent, i_tup, bind_ok, List.getElem?_cons_zero, List.getElem?_cons_succ, List.map_cons, List.map_nil, List.replicate, Nat.sub_zero, Nat.reduceSub, List.cons_append, List.nil_append, List.append_nil, List.mapM_cons, List.mapM_nil, Option.pure_def, Option.bind_eq_bind, Option.bind_some, List.any_cons, List.any_nil, id, Bool.or_false, Bool.not_true, Bool.not_false, if_true, if_false, Bool.false_eq_true, reduceIte, List.set_cons_zero, List.set_cons_succ]
          | true =>
            simp only [i5, is_box (k := k + 3) ((he.app t1).app t2), Bool.true_and, x_cst, x_var, x_tup, x_lst, x_bin, x_neg, x_not, x_cmp, x_cmp2, x_and1, x_and, x_or1, x_or, x_ite, x_idx, x_slc, x_call, x_blt, x_met, x_fld, x_mth, x_mk, y_fset, y_faug, x_isi, x_nil, x_cons, x_c0, x_c1, x_p0, x_p1, y_nil, y_cons, y_set, y_rtn, y_ite, y_exp, decide_true, w_ok, q_nxt, q_rtn, b_rtn, t_bl, r_ret, a_nm, c_lt, c_le, c_gt, c_ge, c_eqi, c_eqs, c_nes, c_eq0, c_ne0, c_in2, z0, z1, z2, z3, z4, z5, z6, z7, z8, c_les, b_list, l_lay, b_lent, i_tup, bind_ok, List.getElem?_cons_zero, List.getElem?_cons_succ, List.map_cons, List.map_nil, List.replicate, Nat.sub_zero, Nat.reduceSub, List.cons_append, List.nil_append, List.append_nil, List.mapM_cons, List.mapM_nil, Option.pure_def, Option.bind_eq_bind, Option.bind_some, List.any_cons, List.any_nil, id, Bool.or_false, Bool.not_true, Bool.not_false, if_true, if_false, Bool.false_eq_true, reduceIte, List.set_cons_zero, List.set_cons_succ]
            simp only [List.append_assoc]
/-! ### rows -/
theorem forms_eq : (([("set", "bn"), ("add", "bb"), ("less", "bb"), ("skip", "mb"), ("again", "mb"), ("stop", ""), ("meet", "ssbb"), ("locker", "s"), ("drop", "s"), ("open", "ssb"), ("shut", "ssb"), ("join", "ss")] : List (Str × Str))) = tab.map fun r => (r.1, r.2.1) := rfl
theorem lookup_tab (l : List (Str × Str × Str)) (x : Str) : (l.map fun r => (r.1, r.2.1)).lookup x = (l.lookup x).map (·.1) := by
  induction l with
  | nil => rfl
  | cons r l ih =>
    rw [List.map_cons, List.lookup_cons, List.lookup_cons]
    cases x == r.1 <;> simp [ih]
theorem FORMS_look (x : Str) : dLook ((["set", "add", "less", "skip", "again", "stop", "meet", "locker", "drop", "open", "shut", "join"] : List Str).map W.str |>.zip [W.str "bn", .str "bb", .str "bb", .str "mb", .str "mb", .str "", .str "ssbb", .str "s", .str "s", .str "ssb", .str "ssb", .str "ss"]) (.str x) = (tab.lookup x).map fun p => W.str p.1 := by
  have := lookup_map (l := tab.map fun r => (r.1, r.2.1)) x
  rw [lookup_tab, Option.map_map] at this
  exact this
theorem nin_FORMS (x : Str) (s : Sto) : cmpop .notin (.str x) kFORMS s = .ok (.bl !(tab.lookup x).isSome) s := by
  have e : cmpB .notin (.str x) kFORMS s = some (!(tab.lookup x).isSome) := by
    show (inDct s (.str x) kFORMS).map (!·) = _
    have : inDct s (.str x) kFORMS = some (tab.lookup x).isSome := by
      show some _ = _
      rw [FORMS_look]
      cases tab.lookup x <;> rfl
    rw [this]; rfl
  unfold cmpop
  rw [e]
theorem ix_FORMS {x f g : Str} (h : tab.lookup x = some (f, g)) (s : Sto) : idxW kFORMS (.str x) s = .ok (.str f) s := by
  show (match dLook _ (.str x) with | some w => Res.ok w s | none => .stuck) = _
  rw [FORMS_look, h]; rfl
theorem tab_ok : ∀ r ∈ tab, r.2.1.length ≤ 12 ∧ (∀ c ∈ r.2.1.cps.toList, c ∈ marks) ∧ (ssP r.2.1 = true → 2 ≤ r.2.1.length ∧ (r.2.1.cps.toList.map kindP).take 2 = [1, 1]) := by decide +kernel
theorem fit2 {r : List W} {ks : List Nat} (h : ((r.zip ks).all fun p => fitK p.2 p.1) = true) (h2 : ks.take 2 = [1, 1]) (hl : 2 ≤ r.length) : ∃ i j r', r = .int i :: .int j :: r' := by
  match r, ks, h2, hl, h with
  | a :: b :: r, 1 :: 1 :: ks, _, _, h =>
    simp only [List.zip_cons_cons, List.all_cons, Bool.and_eq_true] at h
    have h0 : slotB a = true := h.1
    have h1 : slotB b = true := h.2.1
    cases a <;> try (simp [slotB] at h0; done)
    cases b <;> try (simp [slotB] at h1; done)
    exact ⟨_, _, _, rfl⟩
  | a :: b :: r, x :: y :: ks, h2, _, h =>
    simp only [List.take_succ_cons, List.take_zero, List.cons.injEq, and_true] at h2
    obtain ⟨rfl, rfl⟩ := h2
    simp only [List.zip_cons_cons, List.all_cons, Bool.and_eq_true] at h
    have h0 : slotB a = true := h.1
    have h1 : slotB b = true := h.2.1
    cases a <;> try (simp [slotB] at h0; done)
    cases b <;> try (simp [slotB] at h1; done)
    exact ⟨_, _, _, rfl⟩
  | [], _, _, hl, _ => simp at hl
  | [_], _, _, hl, _ => simp at hl
  | _ :: _ :: _, [], h2, _, _ => simp at h2
  | _ :: _ :: _, [_], h2, _, _ => simp at h2
def fitE (F : Nat → W → Bool) : W → Bool
  | .tup [a, .str y] => F (y.cps.getD 0 0) a
  | _ => false
theorem zip_pairs (r : List W) (cs : List Nat) (F : Nat → W → Bool) : ((r.zip (cs.map fun c => W.str ⟨#[c]⟩)).map fun p => W.tup [p.1, p.2]).all (fitE F) = (r.zip cs).all fun p => F p.2 p.1 := by
  induction r generalizing cs with
  | nil => rfl
  | cons a r ih =>
    cases cs with
    | nil => rfl
    | cons c cs =>
      simp only [List.map_cons, List.zip_cons_cons, List.all_cons, ih]
      rfl
theorem zip_kinds (r : List W) (cs : List Nat) (K : Nat → Nat) : ((r.zip cs).all fun p => fitK (K p.2) p.1) = (r.zip (cs.map K)).all fun p => fitK p.2 p.1 := by
  induction r generalizing cs with
  | nil => rfl
  | cons a r ih =>
    cases cs with
    | nil => rfl
    | cons c cs => simp only [List.map_cons, List.zip_cons_cons, List.all_cons, ih]
theorem cut2 (f : Str) (s : Sto) (h : f.length ≤ SZ) : slcW (.str f) none (some 2) s = .ok (.str (L2.cutS f none (some 2))) s := by simp only [slcW, if_pos h]
end K52

namespace K52
open PySem hiding Env exec execs
open L2 Mi MiL
theorem len0 (x : W) (r : List W) : decide (((x :: r).length : Int) = 0) = false := decide_eq_false (by simp only [List.length_cons]; omega)
theorem b_lenL (l : Nat) (xs : List W) (s : Sto) (h : s[l]? = some (.lst xs)) : blt .len [.loc l] s = .ok (.int xs.length) s := by simp only [blt, lenW, h]
theorem size_len (f : Str) : (f.cps.toList.map kindP).length = f.length := by rw [List.length_map]; rfl
theorem ns_beget : decide (Str.ofString "beget" = Str.ofString "beget") = true := decide_eq_true rfl
theorem tab_beget : tab.lookup ("beget" : Str) = none := by decide +kernel
/-- the rest of is_row, behind the word -/
theorem row_rest {k n m : Nat} {s : Sto} {x : Str} {r : List W} (h : GV s n m (.tup (.str x :: r))) (hx : ¬ x = "beget") (l : Nat) (hl : s[l]? = some (.lst r)) :
    ∃ t, bodyRes (execs (ph ds (k + 5)) NN ψ0 (b10.drop 3) [some (.tup (.str x :: r)), some (.str x), some (.loc l), none, none] s) = .ok (.bl (rowB (.tup (.str x :: r)))) (s ++ t) := by
  simp only [b10, List.drop_succ_cons, List.drop_zero]
  have hrow : rowB (.tup (.str x :: r)) = rowT r (tab.lookup x) := if_neg hx
  rw [hrow]
  cases ht : tab.lookup x with
  | none =>
    refine ⟨[], ?_⟩
    have hn : cmpop .notin (.str x) kFORMS s = .ok (.bl true) s := by rw [nin_FORMS, ht]; rfl
    simp only [hn, rowT, x_cst, x_var, x_tup, x_lst, x_bin, x_neg, x_not, x_cmp, x_cmp2, x_and1, x_and, x_or1, x_or, x_ite, x_idx, x_slc, x_call, x_blt, x_met, x_fld, x_mth, x_mk, y_fset, y_faug, x_isi, x_nil, x_cons, x_c0, x_c1, x_p0, x_p1, y_nil, y_cons, y_set, y_rtn, y_ite, y_exp, decide_true, w_ok, q_nxt, q_rtn, b_rtn, t_bl, r_ret, a_nm, c_lt, c_le, c_gt, c_ge, c_eqi, c_eqs, c_nes, c_eq0, c_ne0, c_in2, z0, z1, z2, z3, z4, z5, z6, z7, z8, c_les, b_list, l_lay, b_lent, i_tup, bind_ok, List.getElem?_cons_zero, List.getElem?_cons_succ, List.map_cons, List.map_nil, List.replicate, Nat.sub_zero, Nat.reduceSub, List.cons_append, List.nil_append, List.append_nil, List.mapM_cons, List.mapM_nil, Option.pure_def, Option.bind_eq_bind, Option.bind_some, List.any_cons, List.any_nil, id, Bool.or_false, Bool.not_true, Bool.not_false, if_true, if_false, Bool.false_eq_true, reduceIte, List.set_cons_zero, List.set_cons_succ]
  | some fg =>
    obtain ⟨f, g⟩ := fg
    obtain ⟨f12, fm, fs⟩ := tab_ok _ (mem_lookup ht)
    dsimp only at f12 fm fs
    have fz : f.length ≤ SZ := Nat.le_trans f12 (by decide)
    have hn : cmpop .notin (.str x) kFORMS s = .ok (.bl false) s := by rw [nin_FORMS, ht]; rfl
    have hix := ix_FORMS ht
    simp only [hn, hix, b_lenL l r s hl, b_lens _ f fz, c_nei, d_len, x_cst, x_var, x_tup, x_lst, x_bin, x_neg, x_not, x_cmp, x_cmp2, x_and1, x_and, x_or1, x_or, x_ite, x_idx, x_slc, x_call, x_blt, x_met, x_fld, x_mth, x_mk, y_fset, y_faug, x_isi, x_nil, x_cons, x_c0, x_c1, x_p0, x_p1, y_nil, y_cons, y_set, y_rtn, y_ite, y_exp, decide_true, w_ok, q_nxt, q_rtn, b_rtn, t_bl, r_ret, a_nm, c_lt, c_le, c_gt, c_ge, c_eqi, c_eqs, c_nes, c_eq0, c_ne0, c_in2, z0, z1, z2, z3, z4, z5, z6, z7, z8, c_les, b_list, l_lay, b_lent, i_tup, bind_ok, List.getElem?_cons_zero, List.getElem?_cons_succ, List.map_cons, List.map_nil, List.replicate, Nat.sub_zero, Nat.reduceSub, List.cons_append, List.nil_append, List.append_nil, List.mapM_cons, List.mapM_nil, Option.pure_def, Option.bind_eq_bind, Option.bind_some, List.any_cons, List.any_nil, id, Bool.or_false, Bool.not_true, Bool.not_false, if_true, if_false, Bool.false_eq_true, reduceIte, List.set_cons_zero, List.set_cons_succ]
    cases e1 : decide (r.length = f.length) with
    | false => exact ⟨[], by simp only [rowT, e1, Bool.false_and, x_cst, x_var, x_tup, x_lst, x_bin, x_neg, x_not, x_cmp, x_cmp2, x_and1, x_and, x_or1, x_or, x_ite, x_idx, x_slc, x_call, x_blt, x_met, x_fld, x_mth, x_mk, y_fset, y_faug, x_isi, x_nil, x_cons, x_c0, x_c1, x_p0, x_p1, y_nil, y_cons, y_set, y_rtn, y_ite, y_exp, decide_true, w_ok, q_nxt, q_rtn, b_rtn, t_bl, r_ret, a_nm, c_lt, c_le, c_gt, c_ge, c_eqi, c_eqs, c_nes, c_eq0, c_ne0, c_in2, z0, z1, z2, z3, z4, z5, z6, z7, z8, c_les, b_list, l_lay, b_lent, i_tup, bind_ok, List.getElem?_cons_zero, List.getElem?_cons_succ, List.map_cons, List.map_nil, List.replicate, Nat.sub_zero, Nat.reduceSub, List.cons_append, List.nil_append, List.append_nil, List.mapM_cons, List.mapM_nil, Option.pure_def, Option.bind_eq_bind, Option.bind_some, List.any_cons, List.any_nil, id, Bool.or_false, Bool.not_true, Bool.not_false, if_true, if_false, Bool.false_eq_true, reduceIte, List.set_cons_zero, List.set_cons_succ]⟩
    | true =>
      have rl : r.length ≤ SZ := h.len1
      obtain ⟨t, e⟩ := den_lc1 (φ := ph ds (k + 5)) (elt := .call 6 [(.var 3), (.var 4)] [] [0, 1]) (tg := .tp [3, 4]) (own := [3, 4]) (k := .zip) (its := [(.var 2), (.idx (.cst kFORMS) (.var 1))]) (ρ := [some (.tup (.str x :: r)), some (.str x), some (.loc l), none, none]) (s := s) (n := [(l, r)]) (vs := [.loc l, .str f])
        (ws := (r.zip (f.cps.toList.map fun c => W.str ⟨#[c]⟩)).map fun p => W.tup [p.1, p.2])
        (fun w => .bl (fitE (fun c a => fitK (kindP c) a) w)) (by simp only [hix, x_cst, x_var, x_tup, x_lst, x_bin, x_neg, x_not, x_cmp, x_cmp2, x_and1, x_and, x_or1, x_or, x_ite, x_idx, x_slc, x_call, x_blt, x_met, x_fld, x_mth, x_mk, y_fset, y_faug, x_isi, x_nil, x_cons, x_c0, x_c1, x_p0, x_p1, y_nil, y_cons, y_set, y_rtn, y_ite, y_exp, decide_true, w_ok, q_nxt, q_rtn, b_rtn, t_bl, r_ret, a_nm, c_lt, c_le, c_gt, c_ge, c_eqi, c_eqs, c_nes, c_eq0, c_ne0, c_in2, z0, z1, z2, z3, z4, z5, z6, z7, z8, c_les, b_list, l_lay, b_lent, i_tup, bind_ok, List.getElem?_cons_zero, List.getElem?_cons_succ, List.map_cons, List.map_nil, List.replicate, Nat.sub_zero, Nat.reduceSub, List.cons_append, List.nil_append, List.append_nil, List.mapM_cons, List.mapM_nil, Option.pure_def, Option.bind_eq_bind, Option.bind_some, List.any_cons, List.any_nil, id, Bool.or_false, Bool.not_true, Bool.not_false, if_true, if_false, Bool.false_eq_true, reduceIte, List.set_cons_zero, List.set_cons_succ]) (i_zipl hl rl fz) (fun t => MiL.stays_app hl t) (fun w hw => by
        obtain ⟨⟨a, b⟩, hab, rfl⟩ := List.mem_map.mp hw
        obtain ⟨ha, hb⟩ := List.of_mem_zip hab
        obtain ⟨c, hc, rfl⟩ := List.mem_map.mp hb
        obtain ⟨_, _, _, ga⟩ := h.item (List.mem_cons_of_mem _ ha)
        refine ⟨[some (.tup (.str x :: r)), some (.str x), some (.loc l), some a, some (.str ⟨#[c]⟩)], rfl, fun t => ⟨t, ?_⟩⟩
        simp only [is_part (k := k + 1) (ga.app t) (fm c hc), x_cst, x_var, x_tup, x_lst, x_bin, x_neg, x_not, x_cmp, x_cmp2, x_and1, x_and, x_or1, x_or, x_ite, x_idx, x_slc, x_call, x_blt, x_met, x_fld, x_mth, x_mk, y_fset, y_faug, x_isi, x_nil, x_cons, x_c0, x_c1, x_p0, x_p1, y_nil, y_cons, y_set, y_rtn, y_ite, y_exp, decide_true, w_ok, q_nxt, q_rtn, b_rtn, t_bl, r_ret, a_nm, c_lt, c_le, c_gt, c_ge, c_eqi, c_eqs, c_nes, c_eq0, c_ne0, c_in2, z0, z1, z2, z3, z4, z5, z6, z7, z8, c_les, b_list, l_lay, b_lent, i_tup, bind_ok, List.getElem?_cons_zero, List.getElem?_cons_succ, List.map_cons, List.map_nil, List.replicate, Nat.sub_zero, Nat.reduceSub, List.cons_append, List.nil_append, List.append_nil, List.mapM_cons, List.mapM_nil, Option.pure_def, Option.bind_eq_bind, Option.bind_some, List.any_cons, List.any_nil, id, Bool.or_false, Bool.not_true, Bool.not_false, if_true, if_false, Bool.false_eq_true, reduceIte, List.set_cons_zero, List.set_cons_succ]
        rfl)
      simp only [↓e, all_made, zip_pairs r f.cps.toList fun c a => fitK (kindP c) a, zip_kinds r f.cps.toList kindP, Bool.true_and, x_cst, x_var, x_tup, x_lst, x_bin, x_neg, x_not, x_cmp, x_cmp2, x_and1, x_and, x_or1, x_or, x_ite, x_idx, x_slc, x_call, x_blt, x_met, x_fld, x_mth, x_mk, y_fset, y_faug, x_isi, x_nil, x_cons, x_c0, x_c1, x_p0, x_p1, y_nil, y_cons, y_set, y_rtn, y_ite, y_exp, decide_true, w_ok, q_nxt, q_rtn, b_rtn, t_bl, r_ret, a_nm, c_lt, c_le, c_gt, c_ge, c_eqi, c_eqs, c_nes, c_eq0, c_ne0, c_in2, z0, z1, z2, z3, z4, z5, z6, z7, z8, c_les, b_list, l_lay, b_lent, i_tup, bind_ok, List.getElem?_cons_zero, List.getElem?_cons_succ, List.map_cons, List.map_nil, List.replicate, Nat.sub_zero, Nat.reduceSub, List.cons_append, List.nil_append, List.append_nil, List.mapM_cons, List.mapM_nil, Option.pure_def, Option.bind_eq_bind, Option.bind_some, List.any_cons, List.any_nil, id, Bool.or_false, Bool.not_true, Bool.not_false, if_true, if_false, Bool.false_eq_true, reduceIte, List.set_cons_zero, List.set_cons_succ]
      obtain ⟨T, hT⟩ : ∃ T, t ++ [SO.lst (((r.zip (f.cps.toList.map fun c => W.str ⟨#[c]⟩)).map fun p => W.tup [p.1, p.2]).map fun w => .bl (fitE (fun c a => fitK (kindP c) a) w))] = T := ⟨_, rfl⟩
      rw [hT]
      cases e2 : ((r.zip (f.cps.toList.map kindP)).all fun p => fitK p.2 p.1) with
      | false => exact ⟨T, by simp only [rowT, e1, e2, Bool.true_and, Bool.false_and, x_cst, x_var, x_tup, x_lst, x_bin, x_neg, x_not, x_cmp, x_cmp2, x_and1, x_and, x_or1, x_or, x_ite, x_idx, x_slc, x_call, x_blt, x_met, x_fld, x_mth, x_mk, y_fset, y_faug, x_isi, x_nil, x_cons, x_c0, x_c1, x_p0, x_p1, y_nil, y_cons, y_set, y_rtn, y_ite, y_exp, decide_true, w_ok, q_nxt, q_rtn, b_rtn, t_bl, r_ret, a_nm, c_lt, c_le, c_gt, c_ge, c_eqi, c_eqs, c_nes, c_eq0, c_ne0, c_in2, z0, z1, z2, z3, z4, z5, z6, z7, z8, c_les, b_list, l_lay, b_lent, i_tup, bind_ok, List.getElem?_cons_zero, List.getElem?_cons_succ, List.map_cons, List.map_nil, List.replicate, Nat.sub_zero, Nat.reduceSub, List.cons_append, List.nil_append, List.append_nil, List.mapM_cons, List.mapM_nil, Option.pure_def, Option.bind_eq_bind, Option.bind_some, List.any_cons, List.any_nil, id, Bool.or_false, Bool.not_true, Bool.not_false, if_true, if_false, Bool.false_eq_true, reduceIte, List.set_cons_zero, List.set_cons_succ]⟩
      | true =>
        refine ⟨T, ?_⟩
        have hl' : (s ++ T)[l]? = some (.lst r) := sub_app s T l _ hl (by simp)
        have e3 : decide (L2.cutS f none (some 2) = "ss") = ssP f := rfl
        simp only [hix, cut2 f _ fz, e3, rowT, e1, e2, Bool.true_and, x_cst, x_var, x_tup, x_lst, x_bin, x_neg, x_not, x_cmp, x_cmp2, x_and1, x_and, x_or1, x_or, x_ite, x_idx, x_slc, x_call, x_blt, x_met, x_fld, x_mth, x_mk, y_fset, y_faug, x_isi, x_nil, x_cons, x_c0, x_c1, x_p0, x_p1, y_nil, y_cons, y_set, y_rtn, y_ite, y_exp, decide_true, w_ok, q_nxt, q_rtn, b_rtn, t_bl, r_ret, a_nm, c_lt, c_le, c_gt, c_ge, c_eqi, c_eqs, c_nes, c_eq0, c_ne0, c_in2, z0, z1, z2, z3, z4, z5, z6, z7, z8, c_les, b_list, l_lay, b_lent, i_tup, bind_ok, List.getElem?_cons_zero, List.getElem?_cons_succ, List.map_cons, List.map_nil, List.replicate, Nat.sub_zero, Nat.reduceSub, List.cons_append, List.nil_append, List.append_nil, List.mapM_cons, List.mapM_nil, Option.pure_def, Option.bind_eq_bind, Option.bind_some, List.any_cons, List.any_nil, id, Bool.or_false, Bool.not_true, Bool.not_false, if_true, if_false, Bool.false_eq_true, reduceIte, List.set_cons_zero, List.set_cons_succ]
        cases e4 : ssP f with
        | false => simp only [Bool.not_false, Bool.true_or, x_cst, x_var, x_tup, x_lst, x_bin, x_neg, x_not, x_cmp, x_cmp2, x_and1, x_and, x_or1, x_or, x_ite, x_idx, x_slc, x_call, x_blt, x_met, x_fld, x_mth, x_mk, y_fset, y_faug, x_isi, x_nil, x_cons, x_c0, x_c1, x_p0, x_p1, y_nil, y_cons, y_set, y_rtn, y_ite, y_exp, decide_true, w_ok, q_nxt, q_rtn, b_rtn, t_bl, r_ret, a_nm, c_lt, c_le, c_gt, c_ge, c_eqi, c_eqs, c_nes, c_eq0, c_ne0, c_in2, z0, z1, z2, z3, z4, z5, z6, z7, z8, c_les, b_list, l_lay, b_lent, i_tup, bind_ok, List.getElem?_cons_zero, List.getElem?_cons_succ, List.map_cons, List.map_nil, List.replicate, Nat.sub_zero, Nat.reduceSub, List.cons_append, List.nil_append, List.append_nil, List.mapM_cons, List.mapM_nil, Option.pure_def, Option.bind_eq_bind, Option.bind_some, List.any_cons, List.any_nil, id, Bool.or_false, Bool.not_true, Bool.not_false, if_true, if_false, Bool.false_eq_true, reduceIte, List.set_cons_zero, List.set_cons_succ]
        | true =>
          obtain ⟨q1, q2⟩ := fs e4
          obtain ⟨i, j, r', rfl⟩ := fit2 e2 q2 (by rw [of_decide_eq_true e1]; exact q1)
          have i0 : idxW (.loc l) (.int 0) (s ++ T) = .ok (.int i) (s ++ T) := i_loc _ _ _ _ _ hl' (at0 _ _)
          have i1 : idxW (.loc l) (.int 1) (s ++ T) = .ok (.int j) (s ++ T) := i_loc _ _ _ _ _ hl' (at1 _ _ _)
          simp only [i0, i1, c_nei, neq01, Bool.not_true, Bool.false_or, x_cst, x_var, x_tup, x_lst, x_bin, x_neg, x_not, x_cmp, x_cmp2, x_and1, x_and, x_or1, x_or, x_ite, x_idx, x_slc, x_call, x_blt, x_met, x_fld, x_mth, x_mk, y_fset, y_faug, x_isi, x_nil, x_cons, x_c0, x_c1, x_p0, x_p1, y_nil, y_cons, y_set, y_rtn, y_ite, y_exp, decide_true, w_ok, q_nxt, q_rtn, b_rtn, t_bl, r_ret, a_nm, c_lt, c_le, c_gt, c_ge, c_eqi, c_eqs, c_nes, c_eq0, c_ne0, c_in2, z0, z1, z2, z3, z4, z5, z6, z7, z8, c_les, b_list, l_lay, b_lent, i_tup, bind_ok, List.getElem?_cons_zero, List.getElem?_cons_succ, List.map_cons, List.map_nil, List.replicate, Nat.sub_zero, Nat.reduceSub, List.cons_append, List.nil_append, List.append_nil, List.mapM_cons, List.mapM_nil, Option.pure_def, Option.bind_eq_bind, Option.bind_some, List.any_cons, List.any_nil, id, Bool.or_false, Bool.not_true, Bool.not_false, if_true, if_false, Bool.false_eq_true, reduceIte, List.set_cons_zero, List.set_cons_succ]
theorem row_no {w : W} (h : ∀ x r, w ≠ .tup (.str x :: r)) : rowB w = false := by
  unfold rowB
  split
  · exact absurd rfl (h _ _)
  · rfl
theorem b10_eq : b10 = b10[0] :: b10[1] :: b10[2] :: b10.drop 3 := rfl
theorem is_row {k n m : Nat} {s : Sto} {w : W} (h : GV s n m w) : ∃ t, ph ds (k + 6) 10 [w] s = .ok (.bl (rowB w)) (s ++ t) := by
  rw [call_eq (d := ⟨1, 5, b10⟩) rfl rfl]
  cases w
  case tup ws =>
    match ws, h with
    | [], h => exact ⟨[], by simp only [b10, h.tTup, isB, x_cst, x_var, x_tup, x_lst, x_bin, x_neg, x_not, x_cmp, x_cmp2, x_and1, x_and, x_or1, x_or, x_ite, x_idx, x_slc, x_call, x_blt, x_met, x_fld, x_mth, x_mk, y_fset, y_faug, x_isi, x_nil, x_cons, x_c0, x_c1, x_p0, x_p1, y_nil, y_cons, y_set, y_rtn, y_ite, y_exp, decide_true, w_ok, q_nxt, q_rtn, b_rtn, t_bl, r_ret, a_nm, c_lt, c_le, c_gt, c_ge, c_eqi, c_eqs, c_nes, c_eq0, c_ne0, c_in2, z0, z1, z2, z3, z4, z5, z6, z7, z8, c_les, b_list, l_lay, b_lent, i_tup, bind_ok, List.getElem?_cons_zero, List.getElem?_cons_succ, List.map_cons, List.map_nil, List.replicate, Nat.sub_zero, Nat.reduceSub, List.cons_append, List.nil_append, List.append_nil, List.mapM_cons, List.mapM_nil, Option.pure_def, Option.bind_eq_bind, Option.bind_some, List.any_cons, List.any_nil, id, Bool.or_false, Bool.not_true, Bool.not_false, if_true, if_false, Bool.false_eq_true, reduceIte, List.set_cons_zero, List.set_cons_succ]; rfl⟩
    | a :: r, h =>
      obtain ⟨_, _, _, ha⟩ := h.item (w := a) (by simp)
      cases a
      case str x =>
        by_cases hx : x = "beget"
        · subst hx
          obtain ⟨t, e⟩ := is_beget (k := k) (h.app [SO.lst r])
          refine ⟨[SO.lst r] ++ t, ?_⟩
          have hr : rowB (.tup (.str "beget" :: r)) = begetB r := by
            show (if (Str.ofString "beget") = Str.ofString "beget" then begetB r else rowT r (tab.lookup (Str.ofString "beget"))) = _
            rw [if_pos rfl]
          rw [hr]
          simp only [b10, h.tTup, isB, len0, at0, ha.tStr, a_st1, e, ns_beget, List.append_assoc, x_cst, x_var, x_tup, x_lst, x_bin, x_neg, x_not, x_cmp, x_cmp2, x_and1, x_and, x_or1, x_or, x_ite, x_idx, x_slc, x_call, x_blt, x_met, x_fld, x_mth, x_mk, y_fset, y_faug, x_isi, x_nil, x_cons, x_c0, x_c1, x_p0, x_p1, y_nil, y_cons, y_set, y_rtn, y_ite, y_exp, decide_true, w_ok, q_nxt, q_rtn, b_rtn, t_bl, r_ret, a_nm, c_lt, c_le, c_gt, c_ge, c_eqi, c_eqs, c_nes, c_eq0, c_ne0, c_in2, z0, z1, z2, z3, z4, z5, z6, z7, z8, c_les, b_list, l_lay, b_lent, i_tup, bind_ok, List.getElem?_cons_zero, List.getElem?_cons_succ, List.map_cons, List.map_nil, List.replicate, Nat.sub_zero, Nat.reduceSub, List.cons_append, List.nil_append, List.append_nil, List.mapM_cons, List.mapM_nil, Option.pure_def, Option.bind_eq_bind, Option.bind_some, List.any_cons, List.any_nil, id, Bool.or_false, Bool.not_true, Bool.not_false, if_true, if_false, Bool.false_eq_true, reduceIte, List.set_cons_zero, List.set_cons_succ]
        · obtain ⟨t, e⟩ := row_rest (k := k) (h.app [SO.lst r]) hx s.length (by simp)
          refine ⟨[SO.lst r] ++ t, ?_⟩
          have d : decide (x = Str.ofString "beget") = false := decide_eq_false hx
          rw [b10_eq]
          rw [← List.append_assoc, ← e]
          simp only [y_cons]
          have e0 : exec (ph ds (k + 5)) NN ψ0 b10[0] [some (.tup (.str x :: r)), none, none, none, none] s = .ok .nxt [some (.tup (.str x :: r)), none, none, none, none] s := by
            simp only [b10, List.getElem_cons_zero, h.tTup, isB, len0, at0, ha.tStr, x_cst, x_var, x_tup, x_lst, x_bin, x_neg, x_not, x_cmp, x_cmp2, x_and1, x_and, x_or1, x_or, x_ite, x_idx, x_slc, x_call, x_blt, x_met, x_fld, x_mth, x_mk, y_fset, y_faug, x_isi, x_nil, x_cons, x_c0, x_c1, x_p0, x_p1, y_nil, y_cons, y_set, y_rtn, y_ite, y_exp, decide_true, w_ok, q_nxt, q_rtn, b_rtn, t_bl, r_ret, a_nm, c_lt, c_le, c_gt, c_ge, c_eqi, c_eqs, c_nes, c_eq0, c_ne0, c_in2, z0, z1, z2, z3, z4, z5, z6, z7, z8, c_les, b_list, l_lay, b_lent, i_tup, bind_ok, List.getElem?_cons_zero, List.getElem?_cons_succ, List.map_cons, List.map_nil, List.replicate, Nat.sub_zero, Nat.reduceSub, List.cons_append, List.nil_append, List.append_nil, List.mapM_cons, List.mapM_nil, Option.pure_def, Option.bind_eq_bind, Option.bind_some, List.any_cons, List.any_nil, id, Bool.or_false, Bool.not_true, Bool.not_false, if_true, if_false, Bool.false_eq_true, reduceIte, List.set_cons_zero, List.set_cons_succ]
          have e1 : exec (ph ds (k + 5)) NN ψ0 b10[1] [some (.tup (.str x :: r)), none, none, none, none] s = .ok .nxt [some (.tup (.str x :: r)), some (.str x), some (.loc s.length), none, none] (s ++ [SO.lst r]) := by
            simp only [b10, List.getElem_cons_succ, List.getElem_cons_zero, a_st1, x_cst, x_var, x_tup, x_lst, x_bin, x_neg, x_not, x_cmp, x_cmp2, x_and1, x_and, x_or1, x_or, x_ite, x_idx, x_slc, x_call, x_blt, x_met, x_fld, x_mth, x_mk, y_fset, y_faug, x_isi, x_nil, x_cons, x_c0, x_c1, x_p0, x_p1, y_nil, y_cons, y_set, y_rtn, y_ite, y_exp, decide_true, w_ok, q_nxt, q_rtn, b_rtn, t_bl, r_ret, a_nm, c_lt, c_le, c_gt, c_ge, c_eqi, c_eqs, c_nes, c_eq0, c_ne0, c_in2, z0, z1, z2, z3, z4, z5, z6, z7, z8, c_les, b_list, l_lay, b_lent, i_tup, bind_ok, List.getElem?_cons_zero, List.getElem?_cons_succ, List.map_cons, List.map_nil, List.replicate, Nat.sub_zero, Nat.reduceSub, List.cons_append, List.nil_append, List.append_nil, List.mapM_cons, List.mapM_nil, Option.pure_def, Option.bind_eq_bind, Option.bind_some, List.any_cons, List.any_nil, id, Bool.or_false, Bool.not_true, Bool.not_false, if_true, if_false, Bool.false_eq_true, reduceIte, List.set_cons_zero, List.set_cons_succ]
          have e2 : exec (ph ds (k + 5)) NN ψ0 b10[2] [some (.tup (.str x :: r)), some (.str x), some (.loc s.length), none, none] (s ++ [SO.lst r]) = .ok .nxt [some (.tup (.str x :: r)), some (.str x), some (.loc s.length), none, none] (s ++ [SO.lst r]) := by
            simp only [b10, List.getElem_cons_succ, List.getElem_cons_zero, d, x_cst, x_var, x_tup, x_lst, x_bin, x_neg, x_not, x_cmp, x_cmp2, x_and1, x_and, x_or1, x_or, x_ite, x_idx, x_slc, x_call, x_blt, x_met, x_fld, x_mth, x_mk, y_fset, y_faug, x_isi, x_nil, x_cons, x_c0, x_c1, x_p0, x_p1, y_nil, y_cons, y_set, y_rtn, y_ite, y_exp, decide_true, w_ok, q_nxt, q_rtn, b_rtn, t_bl, r_ret, a_nm, c_lt, c_le, c_gt, c_ge, c_eqi, c_eqs, c_nes, c_eq0, c_ne0, c_in2, z0, z1, z2, z3, z4, z5, z6, z7, z8, c_les, b_list, l_lay, b_lent, i_tup, bind_ok, List.getElem?_cons_zero, List.getElem?_cons_succ, List.map_cons, List.map_nil, List.replicate, Nat.sub_zero, Nat.reduceSub, List.cons_append, List.nil_append, List.append_nil, List.mapM_cons, List.mapM_nil, Option.pure_def, Option.bind_eq_bind, Option.bind_some, List.any_cons, List.any_nil, id, Bool.or_false, Bool.not_true, Bool.not_false, if_true, if_false, Bool.false_eq_true, reduceIte, List.set_cons_zero, List.set_cons_succ]
          show bodyRes ((exec (ph ds (k + 5)) NN ψ0 b10[0] [some (.tup (.str x :: r)), none, none, none, none] s).seq _) = _
          rw [e0, q_nxt, e1, q_nxt, e2, q_nxt]
      all_goals exact ⟨[], by simp only [b10, h.tTup, isB, len0, at0, ha.tStr, x_cst, x_var, x_tup, x_lst, x_bin, x_neg, x_not, x_cmp, x_cmp2, x_and1, x_and, x_or1, x_or, x_ite, x_idx, x_slc, x_call, x_blt, x_met, x_fld, x_mth, x_mk, y_fset, y_faug, x_isi, x_nil, x_cons, x_c0, x_c1, x_p0, x_p1, y_nil, y_cons, y_set, y_rtn, y_ite, y_exp, decide_true, w_ok, q_nxt, q_rtn, b_rtn, t_bl, r_ret, a_nm, c_lt, c_le, c_gt, c_ge, c_eqi, c_eqs, c_nes, c_eq0, c_ne0, c_in2, z0, z1, z2, z3, z4, z5, z6, z7, z8, c_les, b_list, l_lay, b_lent, i_tup, bind_ok, List.getElem?_cons_zero, List.getElem?_cons_succ, List.map_cons, List.map_nil, List.replicate, Nat.sub_zero, Nat.reduceSub, List.cons_append, List.nil_append, List.append_nil, List.mapM_cons, List.mapM_nil, Option.pure_def, Option.bind_eq_bind, Option.bind_some, List.any_cons, List.any_nil, id, Bool.or_false, Bool.not_true, Bool.not_false, if_true, if_false, Bool.false_eq_true, reduceIte, List.set_cons_zero, List.set_cons_succ]; rfl⟩
  all_goals exact ⟨[], by simp only [b10, h.tTup, isB, x_cst, x_var, x_tup, x_lst, x_bin, x_neg, x_not, x_cmp, x_cmp2, x_and1, x_and, x_or1, x_or, x_ite, x_idx, x_slc, x_call, x_blt, x_met, x_fld, x_mth, x_mk, y_fset, y_faug, x_isi, x_nil, x_cons, x_c0, x_c1, x_p0, x_p1, y_nil, y_cons, y_set, y_rtn, y_ite, y_exp, decide_true, w_ok, q_nxt, q_rtn, b_rtn, t_bl, r_ret, a_nm, c_lt, c_le, c_gt, c_ge, c_eqi, c_eqs, c_nes, c_eq0, c_ne0, c_in2, z0, z1, z2, z3, z4, z5, z6, z7, z8, c_les, b_list, l_lay, b_lent, i_tup, bind_ok, List.getElem?_cons_zero, List.getElem?_cons_succ, List.map_cons, List.map_nil, List.replicate, Nat.sub_zero, Nat.reduceSub, List.cons_append, List.nil_append, List.append_nil, List.mapM_cons, List.mapM_nil, Option.pure_def, Option.bind_eq_bind, Option.bind_some, List.any_cons, List.any_nil, id, Bool.or_false, Bool.not_true, Bool.not_false, if_true, if_false, Bool.false_eq_true, reduceIte, List.set_cons_zero, List.set_cons_succ]; rfl⟩
def plains : List Str := ["set", "add", "less", "skip", "again", "stop"]
def plainB : W → Bool
  | .tup (.str x :: r) => rowB (.tup (.str x :: r)) && decide (x ∈ plains)
  | _ => false
theorem in_PLAIN (x : Str) (s : Sto) : cmpop .isin (.str x) kPLAIN s = .ok (.bl (decide (x ∈ plains))) s := c_inS x plains s
theorem row_tup {w : W} (h : rowB w = true) : ∃ x r, w = .tup (.str x :: r) := by
  unfold rowB at h
  split at h
  · exact ⟨_, _, rfl⟩
  · cases h
theorem is_plain {k n m : Nat} {s : Sto} {w : W} (h : GV s n m w) : ∃ t, ph ds (k + 7) 11 [w] s = .ok (.bl (plainB w)) (s ++ t) := by
  rw [call_eq (d := ⟨1, 1, b11⟩) rfl rfl]
  obtain ⟨t, e⟩ := is_row (k := k) h
  refine ⟨t, ?_⟩
  simp only [b11, e, x_cst, x_var, x_tup, x_lst, x_bin, x_neg, x_not, x_cmp, x_cmp2, x_and1, x_and, x_or1, x_or, x_ite, x_idx, x_slc, x_call, x_blt, x_met, x_fld, x_mth, x_mk, y_fset, y_faug, x_isi, x_nil, x_cons, x_c0, x_c1, x_p0, x_p1, y_nil, y_cons, y_set, y_rtn, y_ite, y_exp, decide_true, w_ok, q_nxt, q_rtn, b_rtn, t_bl, r_ret, a_nm, c_lt, c_le, c_gt, c_ge, c_eqi, c_eqs, c_nes, c_eq0, c_ne0, c_in2, z0, z1, z2, z3, z4, z5, z6, z7, z8, c_les, b_list, l_lay, b_lent, i_tup, bind_ok, List.getElem?_cons_zero, List.getElem?_cons_succ, List.map_cons, List.map_nil, List.replicate, Nat.sub_zero, Nat.reduceSub, List.cons_append, List.nil_append, List.append_nil, List.mapM_cons, List.mapM_nil, Option.pure_def, Option.bind_eq_bind, Option.bind_some, List.any_cons, List.any_nil, id, Bool.or_false, Bool.not_true, Bool.not_false, if_true, if_false, Bool.false_eq_true, reduceIte, List.set_cons_zero, List.set_cons_succ]
  cases er : rowB w with
  | false =>
    have : plainB w = false := by
      unfold plainB
      split
      · rw [er, Bool.false_and]
      · rfl
    rw [this]
    simp only [x_cst, x_var, x_tup, x_lst, x_bin, x_neg, x_not, x_cmp, x_cmp2, x_and1, x_and, x_or1, x_or, x_ite, x_idx, x_slc, x_call, x_blt, x_met, x_fld, x_mth, x_mk, y_fset, y_faug, x_isi, x_nil, x_cons, x_c0, x_c1, x_p0, x_p1, y_nil, y_cons, y_set, y_rtn, y_ite, y_exp, decide_true, w_ok, q_nxt, q_rtn, b_rtn, t_bl, r_ret, a_nm, c_lt, c_le, c_gt, c_ge, c_eqi, c_eqs, c_nes, c_eq0, c_ne0, c_in2, z0, z1, z2, z3, z4, z5, z6, z7, z8, c_les, b_list, l_lay, b_lent, i_tup, bind_ok, List.getElem?_cons_zero, List.getElem?_cons_succ, List.map_cons, List.map_nil, List.replicate, Nat.sub_zero, Nat.reduceSub, List.cons_append, List.nil_append, List.append_nil, List.mapM_cons, List.mapM_nil, Option.pure_def, Option.bind_eq_bind, Option.bind_some, List.any_cons, List.any_nil, id, Bool.or_false, Bool.not_true, Bool.not_false, if_true, if_false, Bool.false_eq_true, reduceIte, List.set_cons_zero, List.set_cons_succ]
  | true =>
    obtain ⟨x, r, rfl⟩ := row_tup er
    simp only [at0, in_PLAIN, plainB, er, Bool.true_and, x_cst, x_var, x_tup, x_lst, x_bin, x_neg, x_not, x_cmp, x_cmp2, x_and1, x_and, x_or1, x_or, x_ite, x_idx, x_slc, x_call, x_blt, x_met, x_fld, x_mth, x_mk, y_fset, y_faug, x_isi, x_nil, x_cons, x_c0, x_c1, x_p0, x_p1, y_nil, y_cons, y_set, y_rtn, y_ite, y_exp, decide_true, w_ok, q_nxt, q_rtn, b_rtn, t_bl, r_ret, a_nm, c_lt, c_le, c_gt, c_ge, c_eqi, c_eqs, c_nes, c_eq0, c_ne0, c_in2, z0, z1, z2, z3, z4, z5, z6, z7, z8, c_les, b_list, l_lay, b_lent, i_tup, bind_ok, List.getElem?_cons_zero, List.getElem?_cons_succ, List.map_cons, List.map_nil, List.replicate, Nat.sub_zero, Nat.reduceSub, List.cons_append, List.nil_append, List.append_nil, List.mapM_cons, List.mapM_nil, Option.pure_def, Option.bind_eq_bind, Option.bind_some, List.any_cons, List.any_nil, id, Bool.or_false, Bool.not_true, Bool.not_false, if_true, if_false, Bool.false_eq_true, reduceIte, List.set_cons_zero, List.set_cons_succ]
end K52

namespace K52
open PySem hiding Env exec execs
open L2 Mi MiL MiT
/-! ### a thread's methods -/
section
variable {k l b n : Nat} {s : Sto} {rws : List W} {a : Int} {xs : List Int}
theorem at_row (h : Th s l b rws n a xs) : ph ds (k + 1) 26 [.loc l] s = .ok (.int (n : Int)) s := by
  rw [call_eq (d := ⟨1, 1, b26⟩) rfl rfl]
  simp only [b26, h.num, x_cst, x_var, x_tup, x_lst, x_bin, x_neg, x_not, x_cmp, x_cmp2, x_and1, x_and, x_or1, x_or, x_ite, x_idx, x_slc, x_call, x_blt, x_met, x_fld, x_mth, x_mk, y_fset, y_faug, x_isi, x_nil, x_cons, x_c0, x_c1, x_p0, x_p1, y_nil, y_cons, y_set, y_rtn, y_ite, y_exp, decide_true, w_ok, q_nxt, q_rtn, b_rtn, t_bl, r_ret, a_nm, c_lt, c_le, c_gt, c_ge, c_eqi, c_eqs, c_nes, c_eq0, c_ne0, c_in2, z0, z1, z2, z3, z4, z5, z6, z7, z8, c_les, b_list, l_lay, b_lent, i_tup, bind_ok, List.getElem?_cons_zero, List.getElem?_cons_succ, List.map_cons, List.map_nil, List.replicate, Nat.sub_zero, Nat.reduceSub, List.cons_append, List.nil_append, List.append_nil, List.mapM_cons, List.mapM_nil, Option.pure_def, Option.bind_eq_bind, Option.bind_some, List.any_cons, List.any_nil, id, Bool.or_false, Bool.not_true, Bool.not_false, if_true, if_false, Bool.false_eq_true, reduceIte, List.set_cons_zero, List.set_cons_succ]
theorem is_over (h : Th s l b rws n a xs) : ph ds (k + 1) 27 [.loc l] s = .ok (.bl (decide (n = rws.length))) s := by
  rw [call_eq (d := ⟨1, 1, b27⟩) rfl rfl]
  simp only [b27, h.num, h.rows, d_eq, x_cst, x_var, x_tup, x_lst, x_bin, x_neg, x_not, x_cmp, x_cmp2, x_and1, x_and, x_or1, x_or, x_ite, x_idx, x_slc, x_call, x_blt, x_met, x_fld, x_mth, x_mk, y_fset, y_faug, x_isi, x_nil, x_cons, x_c0, x_c1, x_p0, x_p1, y_nil, y_cons, y_set, y_rtn, y_ite, y_exp, decide_true, w_ok, q_nxt, q_rtn, b_rtn, t_bl, r_ret, a_nm, c_lt, c_le, c_gt, c_ge, c_eqi, c_eqs, c_nes, c_eq0, c_ne0, c_in2, z0, z1, z2, z3, z4, z5, z6, z7, z8, c_les, b_list, l_lay, b_lent, i_tup, bind_ok, List.getElem?_cons_zero, List.getElem?_cons_succ, List.map_cons, List.map_nil, List.replicate, Nat.sub_zero, Nat.reduceSub, List.cons_append, List.nil_append, List.append_nil, List.mapM_cons, List.mapM_nil, Option.pure_def, Option.bind_eq_bind, Option.bind_some, List.any_cons, List.any_nil, id, Bool.or_false, Bool.not_true, Bool.not_false, if_true, if_false, Bool.false_eq_true, reduceIte, List.set_cons_zero, List.set_cons_succ]
theorem breath (h : Th s l b rws n a xs) : ph ds (k + 1) 29 [.loc l] s = .ok (.int a) s := by
  rw [call_eq (d := ⟨1, 1, b29⟩) rfl rfl]
  simp only [b29, h.air, x_cst, x_var, x_tup, x_lst, x_bin, x_neg, x_not, x_cmp, x_cmp2, x_and1, x_and, x_or1, x_or, x_ite, x_idx, x_slc, x_call, x_blt, x_met, x_fld, x_mth, x_mk, y_fset, y_faug, x_isi, x_nil, x_cons, x_c0, x_c1, x_p0, x_p1, y_nil, y_cons, y_set, y_rtn, y_ite, y_exp, decide_true, w_ok, q_nxt, q_rtn, b_rtn, t_bl, r_ret, a_nm, c_lt, c_le, c_gt, c_ge, c_eqi, c_eqs, c_nes, c_eq0, c_ne0, c_in2, z0, z1, z2, z3, z4, z5, z6, z7, z8, c_les, b_list, l_lay, b_lent, i_tup, bind_ok, List.getElem?_cons_zero, List.getElem?_cons_succ, List.map_cons, List.map_nil, List.replicate, Nat.sub_zero, Nat.reduceSub, List.cons_append, List.nil_append, List.append_nil, List.mapM_cons, List.mapM_nil, Option.pure_def, Option.bind_eq_bind, Option.bind_some, List.any_cons, List.any_nil, id, Bool.or_false, Bool.not_true, Bool.not_false, if_true, if_false, Bool.false_eq_true, reduceIte, List.set_cons_zero, List.set_cons_succ]
theorem coming (h : Th s l b rws n a xs) (r : W) (hr : rws[n]? = some r) : ph ds (k + 2) 28 [.loc l] s = .ok r s := by
  rw [call_eq (d := ⟨1, 1, b28⟩) rfl rfl]
  have hn := (List.getElem?_eq_some_iff.mp hr).1
  have d : decide (n = rws.length) = false := decide_eq_false (by omega)
  have e := is_over (k := k) h
  rw [d] at e
  have ei : idxW (.tup rws) (.int (n : Int)) s = .ok r s := by rw [i_tup, at_nat, hr]
  have hm := h.mth1 (m := "is_over") (f := 27) (dd := []) (ord := [0]) rfl
  simp only [b28, hm, e, h.rows, h.num, ei, x_cst, x_var, x_tup, x_lst, x_bin, x_neg, x_not, x_cmp, x_cmp2, x_and1, x_and, x_or1, x_or, x_ite, x_idx, x_slc, x_call, x_blt, x_met, x_fld, x_mth, x_mk, y_fset, y_faug, x_isi, x_nil, x_cons, x_c0, x_c1, x_p0, x_p1, y_nil, y_cons, y_set, y_rtn, y_ite, y_exp, decide_true, w_ok, q_nxt, q_rtn, b_rtn, t_bl, r_ret, a_nm, c_lt, c_le, c_gt, c_ge, c_eqi, c_eqs, c_nes, c_eq0, c_ne0, c_in2, z0, z1, z2, z3, z4, z5, z6, z7, z8, c_les, b_list, l_lay, b_lent, i_tup, bind_ok, List.getElem?_cons_zero, List.getElem?_cons_succ, List.map_cons, List.map_nil, List.replicate, Nat.sub_zero, Nat.reduceSub, List.cons_append, List.nil_append, List.append_nil, List.mapM_cons, List.mapM_nil, Option.pure_def, Option.bind_eq_bind, Option.bind_some, List.any_cons, List.any_nil, id, Bool.or_false, Bool.not_true, Bool.not_false, if_true, if_false, Bool.false_eq_true, reduceIte, List.set_cons_zero, List.set_cons_succ]
theorem coming0 (h : Th s l b rws n a xs) (hr : n = rws.length) : ph ds (k + 2) 28 [.loc l] s = .ok .non s := by
  rw [call_eq (d := ⟨1, 1, b28⟩) rfl rfl]
  have d : decide (n = rws.length) = true := decide_eq_true hr
  have e := is_over (k := k) h
  rw [d] at e
  have hm := h.mth1 (m := "is_over") (f := 27) (dd := []) (ord := [0]) rfl
  simp only [b28, hm, e, x_cst, x_var, x_tup, x_lst, x_bin, x_neg, x_not, x_cmp, x_cmp2, x_and1, x_and, x_or1, x_or, x_ite, x_idx, x_slc, x_call, x_blt, x_met, x_fld, x_mth, x_mk, y_fset, y_faug, x_isi, x_nil, x_cons, x_c0, x_c1, x_p0, x_p1, y_nil, y_cons, y_set, y_rtn, y_ite, y_exp, decide_true, w_ok, q_nxt, q_rtn, b_rtn, t_bl, r_ret, a_nm, c_lt, c_le, c_gt, c_ge, c_eqi, c_eqs, c_nes, c_eq0, c_ne0, c_in2, z0, z1, z2, z3, z4, z5, z6, z7, z8, c_les, b_list, l_lay, b_lent, i_tup, bind_ok, List.getElem?_cons_zero, List.getElem?_cons_succ, List.map_cons, List.map_nil, List.replicate, Nat.sub_zero, Nat.reduceSub, List.cons_append, List.nil_append, List.append_nil, List.mapM_cons, List.mapM_nil, Option.pure_def, Option.bind_eq_bind, Option.bind_some, List.any_cons, List.any_nil, id, Bool.or_false, Bool.not_true, Bool.not_false, if_true, if_false, Bool.false_eq_true, reduceIte, List.set_cons_zero, List.set_cons_succ]
theorem b_dictc {s : Sto} {q : Nat} {kvs : List (W × W)} (h : s[q]? = some (.dct kvs)) : blt .dict [.loc q] s = .ok (.loc s.length) (s ++ [SO.dct kvs]) := by
  simp only [blt, dctAt, h, lay]
theorem boxes_of (h : Th s l b rws n a xs) : ph ds (k + 1) 30 [.loc l] s = .ok (.loc s.length) (s ++ [SO.dct (bx xs)]) := by
  rw [call_eq (d := ⟨1, 1, b30⟩) rfl rfl]
  simp only [b30, h.box, b_dictc h.bo, x_cst, x_var, x_tup, x_lst, x_bin, x_neg, x_not, x_cmp, x_cmp2, x_and1, x_and, x_or1, x_or, x_ite, x_idx, x_slc, x_call, x_blt, x_met, x_fld, x_mth, x_mk, y_fset, y_faug, x_isi, x_nil, x_cons, x_c0, x_c1, x_p0, x_p1, y_nil, y_cons, y_set, y_rtn, y_ite, y_exp, decide_true, w_ok, q_nxt, q_rtn, b_rtn, t_bl, r_ret, a_nm, c_lt, c_le, c_gt, c_ge, c_eqi, c_eqs, c_nes, c_eq0, c_ne0, c_in2, z0, z1, z2, z3, z4, z5, z6, z7, z8, c_les, b_list, l_lay, b_lent, i_tup, bind_ok, List.getElem?_cons_zero, List.getElem?_cons_succ, List.map_cons, List.map_nil, List.replicate, Nat.sub_zero, Nat.reduceSub, List.cons_append, List.nil_append, List.append_nil, List.mapM_cons, List.mapM_nil, Option.pure_def, Option.bind_eq_bind, Option.bind_some, List.any_cons, List.any_nil, id, Bool.or_false, Bool.not_true, Bool.not_false, if_true, if_false, Bool.false_eq_true, reduceIte, List.set_cons_zero, List.set_cons_succ]
theorem put_ok (h : Th s l b rws n a xs) {i : Nat} (hi : i < 6) (v : Int) : ∃ s', ph ds (k + 1) 31 [.loc l, ltW i, .int v] s = .ok .non s' ∧ Th s' l b rws n a (xs.set i v) ∧ Fr [l, b] s s' := by
  rw [call_eq (d := ⟨3, 3, b31⟩) rfl rfl]
  have hl := get_lt h.bo
  have hs := set_bx (v := v) h.bo (by rw [h.len]; exact hi) (by rw [h.len]; decide)
  refine ⟨s.set b (.dct (bx (xs.set i v))), ?_, ⟨by rw [get_ne h.ne]; exact h.ob, get_set hl, h.ne, by rw [List.length_set]; exact h.len⟩, Fr.set (by simp)⟩
  have ha : asg (ph ds k) (.sub (.fld (.var 0) "own_boxes" [0]) (.var 1)) (.int v) [some (.loc l), some (ltW i), some (.int v)] s = .ok [some (.loc l), some (ltW i), some (.int v)] (s.set b (.dct (bx (xs.set i v)))) :=
    a_sub (ow := .loc b) (iw := ltW i) (by simp only [h.box, x_cst, x_var, x_tup, x_lst, x_bin, x_neg, x_not, x_cmp, x_cmp2, x_and1, x_and, x_or1, x_or, x_ite, x_idx, x_slc, x_call, x_blt, x_met, x_fld, x_mth, x_mk, y_fset, y_faug, x_isi, x_nil, x_cons, x_c0, x_c1, x_p0, x_p1, y_nil, y_cons, y_set, y_rtn, y_ite, y_exp, decide_true, w_ok, q_nxt, q_rtn, b_rtn, t_bl, r_ret, a_nm, c_lt, c_le, c_gt, c_ge, c_eqi, c_eqs, c_nes, c_eq0, c_ne0, c_in2, z0, z1, z2, z3, z4, z5, z6, z7, z8, c_les, b_list, l_lay, b_lent, i_tup, bind_ok, List.getElem?_cons_zero, List.getElem?_cons_succ, List.map_cons, List.map_nil, List.replicate, Nat.sub_zero, Nat.reduceSub, List.cons_append, List.nil_append, List.append_nil, List.mapM_cons, List.mapM_nil, Option.pure_def, Option.bind_eq_bind, Option.bind_some, List.any_cons, List.any_nil, id, Bool.or_false, Bool.not_true, Bool.not_false, if_true, if_false, Bool.false_eq_true, reduceIte, List.set_cons_zero, List.set_cons_succ]) (by simp only [x_cst, x_var, x_tup, x_lst, x_bin, x_neg, x_not, x_cmp, x_cmp2, x_and1, x_and, x_or1, x_or, x_ite, x_idx, x_slc, x_call, x_blt, x_met, x_fld, x_mth, x_mk, y_fset, y_faug, x_isi, x_nil, x_cons, x_c0, x_c1, x_p0, x_p1, y_nil, y_cons, y_set, y_rtn, y_ite, y_exp, decide_true, w_ok, q_nxt, q_rtn, b_rtn, t_bl, r_ret, a_nm, c_lt, c_le, c_gt, c_ge, c_eqi, c_eqs, c_nes, c_eq0, c_ne0, c_in2, z0, z1, z2, z3, z4, z5, z6, z7, z8, c_les, b_list, l_lay, b_lent, i_tup, bind_ok, List.getElem?_cons_zero, List.getElem?_cons_succ, List.map_cons, List.map_nil, List.replicate, Nat.sub_zero, Nat.reduceSub, List.cons_append, List.nil_append, List.append_nil, List.mapM_cons, List.mapM_nil, Option.pure_def, Option.bind_eq_bind, Option.bind_some, List.any_cons, List.any_nil, id, Bool.or_false, Bool.not_true, Bool.not_false, if_true, if_false, Bool.false_eq_true, reduceIte, List.set_cons_zero, List.set_cons_succ]) hs
  simp only [b31, ha, b_nxt, x_cst, x_var, x_tup, x_lst, x_bin, x_neg, x_not, x_cmp, x_cmp2, x_and1, x_and, x_or1, x_or, x_ite, x_idx, x_slc, x_call, x_blt, x_met, x_fld, x_mth, x_mk, y_fset, y_faug, x_isi, x_nil, x_cons, x_c0, x_c1, x_p0, x_p1, y_nil, y_cons, y_set, y_rtn, y_ite, y_exp, decide_true, w_ok, q_nxt, q_rtn, b_rtn, t_bl, r_ret, a_nm, c_lt, c_le, c_gt, c_ge, c_eqi, c_eqs, c_nes, c_eq0, c_ne0, c_in2, z0, z1, z2, z3, z4, z5, z6, z7, z8, c_les, b_list, l_lay, b_lent, i_tup, bind_ok, List.getElem?_cons_zero, List.getElem?_cons_succ, List.map_cons, List.map_nil, List.replicate, Nat.sub_zero, Nat.reduceSub, List.cons_append, List.nil_append, List.append_nil, List.mapM_cons, List.mapM_nil, Option.pure_def, Option.bind_eq_bind, Option.bind_some, List.any_cons, List.any_nil, id, Bool.or_false, Bool.not_true, Bool.not_false, if_true, if_false, Bool.false_eq_true, reduceIte, List.set_cons_zero, List.set_cons_succ]
theorem want_ok (h : Th s l b rws n a xs) (hn : n < rws.length) (ha : 0 < a) : ph ds (k + 2) 32 [.loc l] s = .ok .non s := by
  rw [call_eq (d := ⟨1, 1, b32⟩) rfl rfl]
  have d : decide (n = rws.length) = false := decide_eq_false (by omega)
  have e := is_over (k := k) h
  rw [d] at e
  have d2 : decide (a = 0) = false := decide_eq_false (by omega)
  have hm := h.mth1 (m := "is_over") (f := 27) (dd := []) (ord := [0]) rfl
  simp only [b32, hm, e, h.air, d2, b_nxt, x_cst, x_var, x_tup, x_lst, x_bin, x_neg, x_not, x_cmp, x_cmp2, x_and1, x_and, x_or1, x_or, x_ite, x_idx, x_slc, x_call, x_blt, x_met, x_fld, x_mth, x_mk, y_fset, y_faug, x_isi, x_nil, x_cons, x_c0, x_c1, x_p0, x_p1, y_nil, y_cons, y_set, y_rtn, y_ite, y_exp, decide_true, w_ok, q_nxt, q_rtn, b_rtn, t_bl, r_ret, a_nm, c_lt, c_le, c_gt, c_ge, c_eqi, c_eqs, c_nes, c_eq0, c_ne0, c_in2, z0, z1, z2, z3, z4, z5, z6, z7, z8, c_les, b_list, l_lay, b_lent, i_tup, bind_ok, List.getElem?_cons_zero, List.getElem?_cons_succ, List.map_cons, List.map_nil, List.replicate, Nat.sub_zero, Nat.reduceSub, List.cons_append, List.nil_append, List.append_nil, List.mapM_cons, List.mapM_nil, Option.pure_def, Option.bind_eq_bind, Option.bind_some, List.any_cons, List.any_nil, id, Bool.or_false, Bool.not_true, Bool.not_false, if_true, if_false, Bool.false_eq_true, reduceIte, List.set_cons_zero, List.set_cons_succ]
theorem go_ok (h : Th s l b rws n a xs) (m : Nat) : ∃ s', ph ds (k + 1) 33 [.loc l, .int (m : Int)] s = .ok .non s' ∧ Th s' l b rws m (a - 1) xs ∧ Fr [l, b] s s' := by
  rw [call_eq (d := ⟨2, 2, b33⟩) rfl rfl]
  have hl := get_lt h.ob
  have h1 : Th (s.set l (.ins 0 (TF rws m a b))) l b rws m a xs := ⟨get_set hl, by rw [get_ne (Ne.symm h.ne)]; exact h.bo, h.ne, h.len⟩
  have h2 : Th ((s.set l (.ins 0 (TF rws m a b))).set l (.ins 0 (TF rws m (a - 1) b))) l b rws m (a - 1) xs := ⟨get_set (by simpa using hl), by rw [get_ne (Ne.symm h.ne), get_ne (Ne.symm h.ne)]; exact h.bo, h.ne, h.len⟩
  refine ⟨_, ?_, h2, (Fr.set (by simp)).trans (Fr.set (by simp))⟩
  simp only [b33, h.set_num m, h1.air, augW, h1.set_air, b_nxt, x_cst, x_var, x_tup, x_lst, x_bin, x_neg, x_not, x_cmp, x_cmp2, x_and1, x_and, x_or1, x_or, x_ite, x_idx, x_slc, x_call, x_blt, x_met, x_fld, x_mth, x_mk, y_fset, y_faug, x_isi, x_nil, x_cons, x_c0, x_c1, x_p0, x_p1, y_nil, y_cons, y_set, y_rtn, y_ite, y_exp, decide_true, w_ok, q_nxt, q_rtn, b_rtn, t_bl, r_ret, a_nm, c_lt, c_le, c_gt, c_ge, c_eqi, c_eqs, c_nes, c_eq0, c_ne0, c_in2, z0, z1, z2, z3, z4, z5, z6, z7, z8, c_les, b_list, l_lay, b_lent, i_tup, bind_ok, List.getElem?_cons_zero, List.getElem?_cons_succ, List.map_cons, List.map_nil, List.replicate, Nat.sub_zero, Nat.reduceSub, List.cons_append, List.nil_append, List.append_nil, List.mapM_cons, List.mapM_nil, Option.pure_def, Option.bind_eq_bind, Option.bind_some, List.any_cons, List.any_nil, id, Bool.or_false, Bool.not_true, Bool.not_false, if_true, if_false, Bool.false_eq_true, reduceIte, List.set_cons_zero, List.set_cons_succ]
end
end K52

namespace K52
open PySem hiding Env exec execs
open L2 Mi MiL MiT
section
variable {k l b n : Nat} {s : Sto} {rws : List W} {a : Int} {xs : List Int}
theorem Th.idx (h : Th s l b rws n a xs) {c : Nat} (hc : c < 6) : idxW (.loc b) (ltW c) s = .ok (.int (xs.getD c 0)) s := idx_bx h.bo (getD_at (by rw [h.len]; exact hc))
def Row.tail : Row → List W
  | .skip n b => [.int (n : Int), ltW b]
  | .again n b => [.int (n : Int), ltW b]
  | .stop => []
  | .set b i => [ltW b, .int i]
  | .add b c => [ltW b, ltW c]
  | .less b c => [ltW b, ltW c]
theorem behind_ok (h : Th s l b rws n a xs) {r : Row} (hr : r.ok rws.length n) : ph ds (k + 1) 34 [.loc l, r.enc] s = .ok (.int (((r.go rws.length n xs).1 : Nat) : Int)) (s ++ [SO.lst (Row.tail r)]) := by
  rw [call_eq (d := ⟨2, 4, b34⟩) rfl rfl]
  have h' := h.app [SO.lst (Row.tail r)]
  have t0 := h'.num
  have t1 := h'.rows
  have t2 := h'.box
  have it : ∀ (i : Nat) (w : W), (Row.tail r)[i]? = some w → idxW (.loc s.length) (.int (i : Int)) (s ++ [SO.lst (Row.tail r)]) = .ok w (s ++ [SO.lst (Row.tail r)]) := fun i w e => i_loc _ _ _ _ _ (get_end s _) (by rw [at_nat]; exact e)
  cases r with
  | skip m c =>
    have e0 : idxW (.loc s.length) (.int 0) _ = _ := it 0 _ rfl
    have e1 : idxW (.loc s.length) (.int 1) _ = _ := it 1 _ rfl
    have e2 := Th.idx h' (c := c) hr.2.2
    simp only [Row.tail, Row.enc, Row.go] at *
    by_cases hz : xs.getD c 0 = 0
    · have d : decide (xs.getD c 0 = 0) = true := decide_eq_true hz
      simp only [b34, a_st1, e0, e1, e2, t0, t1, t2, d, wd_skip_skip, wd_skip_again, wd_skip_stop, wd_skip_set, wd_skip_add, wd_skip_less, wd_again_skip, wd_again_again, wd_again_stop, wd_again_set, wd_again_add, wd_again_less, wd_stop_skip, wd_stop_again, wd_stop_stop, wd_stop_set, wd_stop_add, wd_stop_less, wd_set_skip, wd_set_again, wd_set_stop, wd_set_set, wd_set_add, wd_set_less, wd_add_skip, wd_add_again, wd_add_stop, wd_add_set, wd_add_add, wd_add_less, wd_less_skip, wd_less_again, wd_less_stop, wd_less_set, wd_less_add, wd_less_less, x_cst, x_var, x_tup, x_lst, x_bin, x_neg, x_not, x_cmp, x_cmp2, x_and1, x_and, x_or1, x_or, x_ite, x_idx, x_slc, x_call, x_blt, x_met, x_fld, x_mth, x_mk, y_fset, y_faug, x_isi, x_nil, x_cons, x_c0, x_c1, x_p0, x_p1, y_nil, y_cons, y_set, y_rtn, y_ite, y_exp, decide_true, w_ok, q_nxt, q_rtn, b_rtn, t_bl, r_ret, a_nm, c_lt, c_le, c_gt, c_ge, c_eqi, c_eqs, c_nes, c_eq0, c_ne0, c_in2, z0, z1, z2, z3, z4, z5, z6, z7, z8, c_les, b_list, l_lay, b_lent, i_tup, bind_ok, List.getElem?_cons_zero, List.getElem?_cons_succ, List.map_cons, List.map_nil, List.replicate, Nat.sub_zero, Nat.reduceSub, List.cons_append, List.nil_append, List.append_nil, List.mapM_cons, List.mapM_nil, Option.pure_def, Option.bind_eq_bind, Option.bind_some, List.any_cons, List.any_nil, id, Bool.or_false, Bool.not_true, Bool.not_false, if_true, if_false, Bool.false_eq_true, reduceIte, List.set_cons_zero, List.set_cons_succ, o_add, if_pos hz]
      congr 2
    · have d : decide (xs.getD c 0 = 0) = false := decide_eq_false hz
      simp only [b34, a_st1, e0, e1, e2, t0, t1, t2, d, wd_skip_skip, wd_skip_again, wd_skip_stop, wd_skip_set, wd_skip_add, wd_skip_less, wd_again_skip, wd_again_again, wd_again_stop, wd_again_set, wd_again_add, wd_again_less, wd_stop_skip, wd_stop_again, wd_stop_stop, wd_stop_set, wd_stop_add, wd_stop_less, wd_set_skip, wd_set_again, wd_set_stop, wd_set_set, wd_set_add, wd_set_less, wd_add_skip, wd_add_again, wd_add_stop, wd_add_set, wd_add_add, wd_add_less, wd_less_skip, wd_less_again, wd_less_stop, wd_less_set, wd_less_add, wd_less_less, x_cst, x_var, x_tup, x_lst, x_bin, x_neg, x_not, x_cmp, x_cmp2, x_and1, x_and, x_or1, x_or, x_ite, x_idx, x_slc, x_call, x_blt, x_met, x_fld, x_mth, x_mk, y_fset, y_faug, x_isi, x_nil, x_cons, x_c0, x_c1, x_p0, x_p1, y_nil, y_cons, y_set, y_rtn, y_ite, y_exp, decide_true, w_ok, q_nxt, q_rtn, b_rtn, t_bl, r_ret, a_nm, c_lt, c_le, c_gt, c_ge, c_eqi, c_eqs, c_nes, c_eq0, c_ne0, c_in2, z0, z1, z2, z3, z4, z5, z6, z7, z8, c_les, b_list, l_lay, b_lent, i_tup, bind_ok, List.getElem?_cons_zero, List.getElem?_cons_succ, List.map_cons, List.map_nil, List.replicate, Nat.sub_zero, Nat.reduceSub, List.cons_append, List.nil_append, List.append_nil, List.mapM_cons, List.mapM_nil, Option.pure_def, Option.bind_eq_bind, Option.bind_some, List.any_cons, List.any_nil, id, Bool.or_false, Bool.not_true, Bool.not_false, if_true, if_false, Bool.false_eq_true, reduceIte, List.set_cons_zero, List.set_cons_succ, o_add, if_neg hz]
      congr 2
  | again m c =>
    have e0 : idxW (.loc s.length) (.int 0) _ = _ := it 0 _ rfl
    have e1 : idxW (.loc s.length) (.int 1) _ = _ := it 1 _ rfl
    have e2 := Th.idx h' (c := c) hr.2.2
    have hm := hr.2.1
    simp only [Row.tail, Row.enc, Row.go] at *
    by_cases hz : xs.getD c 0 = 0
    · have d : decide (xs.getD c 0 = 0) = true := decide_eq_true hz
      simp only [b34, a_st1, e0, e1, e2, t0, t1, t2, d, c_nei, wd_skip_skip, wd_skip_again, wd_skip_stop, wd_skip_set, wd_skip_add, wd_skip_less, wd_again_skip, wd_again_again, wd_again_stop, wd_again_set, wd_again_add, wd_again_less, wd_stop_skip, wd_stop_again, wd_stop_stop, wd_stop_set, wd_stop_add, wd_stop_less, wd_set_skip, wd_set_again, wd_set_stop, wd_set_set, wd_set_add, wd_set_less, wd_add_skip, wd_add_again, wd_add_stop, wd_add_set, wd_add_add, wd_add_less, wd_less_skip, wd_less_again, wd_less_stop, wd_less_set, wd_less_add, wd_less_less, x_cst, x_var, x_tup, x_lst, x_bin, x_neg, x_not, x_cmp, x_cmp2, x_and1, x_and, x_or1, x_or, x_ite, x_idx, x_slc, x_call, x_blt, x_met, x_fld, x_mth, x_mk, y_fset, y_faug, x_isi, x_nil, x_cons, x_c0, x_c1, x_p0, x_p1, y_nil, y_cons, y_set, y_rtn, y_ite, y_exp, decide_true, w_ok, q_nxt, q_rtn, b_rtn, t_bl, r_ret, a_nm, c_lt, c_le, c_gt, c_ge, c_eqi, c_eqs, c_nes, c_eq0, c_ne0, c_in2, z0, z1, z2, z3, z4, z5, z6, z7, z8, c_les, b_list, l_lay, b_lent, i_tup, bind_ok, List.getElem?_cons_zero, List.getElem?_cons_succ, List.map_cons, List.map_nil, List.replicate, Nat.sub_zero, Nat.reduceSub, List.cons_append, List.nil_append, List.append_nil, List.mapM_cons, List.mapM_nil, Option.pure_def, Option.bind_eq_bind, Option.bind_some, List.any_cons, List.any_nil, id, Bool.or_false, Bool.not_true, Bool.not_false, if_true, if_false, Bool.false_eq_true, reduceIte, List.set_cons_zero, List.set_cons_succ, o_add, if_pos hz]
      congr 2
    · have d : decide (xs.getD c 0 = 0) = false := decide_eq_false hz
      simp only [b34, a_st1, e0, e1, e2, t0, t1, t2, d, c_nei, wd_skip_skip, wd_skip_again, wd_skip_stop, wd_skip_set, wd_skip_add, wd_skip_less, wd_again_skip, wd_again_again, wd_again_stop, wd_again_set, wd_again_add, wd_again_less, wd_stop_skip, wd_stop_again, wd_stop_stop, wd_stop_set, wd_stop_add, wd_stop_less, wd_set_skip, wd_set_again, wd_set_stop, wd_set_set, wd_set_add, wd_set_less, wd_add_skip, wd_add_again, wd_add_stop, wd_add_set, wd_add_add, wd_add_less, wd_less_skip, wd_less_again, wd_less_stop, wd_less_set, wd_less_add, wd_less_less, x_cst, x_var, x_tup, x_lst, x_bin, x_neg, x_not, x_cmp, x_cmp2, x_and1, x_and, x_or1, x_or, x_ite, x_idx, x_slc, x_call, x_blt, x_met, x_fld, x_mth, x_mk, y_fset, y_faug, x_isi, x_nil, x_cons, x_c0, x_c1, x_p0, x_p1, y_nil, y_cons, y_set, y_rtn, y_ite, y_exp, decide_true, w_ok, q_nxt, q_rtn, b_rtn, t_bl, r_ret, a_nm, c_lt, c_le, c_gt, c_ge, c_eqi, c_eqs, c_nes, c_eq0, c_ne0, c_in2, z0, z1, z2, z3, z4, z5, z6, z7, z8, c_les, b_list, l_lay, b_lent, i_tup, bind_ok, List.getElem?_cons_zero, List.getElem?_cons_succ, List.map_cons, List.map_nil, List.replicate, Nat.sub_zero, Nat.reduceSub, List.cons_append, List.nil_append, List.append_nil, List.mapM_cons, List.mapM_nil, Option.pure_def, Option.bind_eq_bind, Option.bind_some, List.any_cons, List.any_nil, id, Bool.or_false, Bool.not_true, Bool.not_false, if_true, if_false, Bool.false_eq_true, reduceIte, List.set_cons_zero, List.set_cons_succ, o_sub, if_neg hz]
      congr 2
      omega
  | stop =>
    simp only [Row.tail, Row.enc, Row.go] at *
    simp only [b34, a_st1, t0, t1, t2, wd_skip_skip, wd_skip_again, wd_skip_stop, wd_skip_set, wd_skip_add, wd_skip_less, wd_again_skip, wd_again_again, wd_again_stop, wd_again_set, wd_again_add, wd_again_less, wd_stop_skip, wd_stop_again, wd_stop_stop, wd_stop_set, wd_stop_add, wd_stop_less, wd_set_skip, wd_set_again, wd_set_stop, wd_set_set, wd_set_add, wd_set_less, wd_add_skip, wd_add_again, wd_add_stop, wd_add_set, wd_add_add, wd_add_less, wd_less_skip, wd_less_again, wd_less_stop, wd_less_set, wd_less_add, wd_less_less, x_cst, x_var, x_tup, x_lst, x_bin, x_neg, x_not, x_cmp, x_cmp2, x_and1, x_and, x_or1, x_or, x_ite, x_idx, x_slc, x_call, x_blt, x_met, x_fld, x_mth, x_mk, y_fset, y_faug, x_isi, x_nil, x_cons, x_c0, x_c1, x_p0, x_p1, y_nil, y_cons, y_set, y_rtn, y_ite, y_exp, decide_true, w_ok, q_nxt, q_rtn, b_rtn, t_bl, r_ret, a_nm, c_lt, c_le, c_gt, c_ge, c_eqi, c_eqs, c_nes, c_eq0, c_ne0, c_in2, z0, z1, z2, z3, z4, z5, z6, z7, z8, c_les, b_list, l_lay, b_lent, i_tup, bind_ok, List.getElem?_cons_zero, List.getElem?_cons_succ, List.map_cons, List.map_nil, List.replicate, Nat.sub_zero, Nat.reduceSub, List.cons_append, List.nil_append, List.append_nil, List.mapM_cons, List.mapM_nil, Option.pure_def, Option.bind_eq_bind, Option.bind_some, List.any_cons, List.any_nil, id, Bool.or_false, Bool.not_true, Bool.not_false, if_true, if_false, Bool.false_eq_true, reduceIte, List.set_cons_zero, List.set_cons_succ]
  | set c i =>
    simp only [Row.tail, Row.enc, Row.go] at *
    simp only [b34, a_st1, t0, t1, t2, wd_skip_skip, wd_skip_again, wd_skip_stop, wd_skip_set, wd_skip_add, wd_skip_less, wd_again_skip, wd_again_again, wd_again_stop, wd_again_set, wd_again_add, wd_again_less, wd_stop_skip, wd_stop_again, wd_stop_stop, wd_stop_set, wd_stop_add, wd_stop_less, wd_set_skip, wd_set_again, wd_set_stop, wd_set_set, wd_set_add, wd_set_less, wd_add_skip, wd_add_again, wd_add_stop, wd_add_set, wd_add_add, wd_add_less, wd_less_skip, wd_less_again, wd_less_stop, wd_less_set, wd_less_add, wd_less_less, x_cst, x_var, x_tup, x_lst, x_bin, x_neg, x_not, x_cmp, x_cmp2, x_and1, x_and, x_or1, x_or, x_ite, x_idx, x_slc, x_call, x_blt, x_met, x_fld, x_mth, x_mk, y_fset, y_faug, x_isi, x_nil, x_cons, x_c0, x_c1, x_p0, x_p1, y_nil, y_cons, y_set, y_rtn, y_ite, y_exp, decide_true, w_ok, q_nxt, q_rtn, b_rtn, t_bl, r_ret, a_nm, c_lt, c_le, c_gt, c_ge, c_eqi, c_eqs, c_nes, c_eq0, c_ne0, c_in2, z0, z1, z2, z3, z4, z5, z6, z7, z8, c_les, b_list, l_lay, b_lent, i_tup, bind_ok, List.getElem?_cons_zero, List.getElem?_cons_succ, List.map_cons, List.map_nil, List.replicate, Nat.sub_zero, Nat.reduceSub, List.cons_append, List.nil_append, List.append_nil, List.mapM_cons, List.mapM_nil, Option.pure_def, Option.bind_eq_bind, Option.bind_some, List.any_cons, List.any_nil, id, Bool.or_false, Bool.not_true, Bool.not_false, if_true, if_false, Bool.false_eq_true, reduceIte, List.set_cons_zero, List.set_cons_succ, o_add]
    congr 2
  | add c d =>
    simp only [Row.tail, Row.enc, Row.go] at *
    simp only [b34, a_st1, t0, t1, t2, wd_skip_skip, wd_skip_again, wd_skip_stop, wd_skip_set, wd_skip_add, wd_skip_less, wd_again_skip, wd_again_again, wd_again_stop, wd_again_set, wd_again_add, wd_again_less, wd_stop_skip, wd_stop_again, wd_stop_stop, wd_stop_set, wd_stop_add, wd_stop_less, wd_set_skip, wd_set_again, wd_set_stop, wd_set_set, wd_set_add, wd_set_less, wd_add_skip, wd_add_again, wd_add_stop, wd_add_set, wd_add_add, wd_add_less, wd_less_skip, wd_less_again, wd_less_stop, wd_less_set, wd_less_add, wd_less_less, x_cst, x_var, x_tup, x_lst, x_bin, x_neg, x_not, x_cmp, x_cmp2, x_and1, x_and, x_or1, x_or, x_ite, x_idx, x_slc, x_call, x_blt, x_met, x_fld, x_mth, x_mk, y_fset, y_faug, x_isi, x_nil, x_cons, x_c0, x_c1, x_p0, x_p1, y_nil, y_cons, y_set, y_rtn, y_ite, y_exp, decide_true, w_ok, q_nxt, q_rtn, b_rtn, t_bl, r_ret, a_nm, c_lt, c_le, c_gt, c_ge, c_eqi, c_eqs, c_nes, c_eq0, c_ne0, c_in2, z0, z1, z2, z3, z4, z5, z6, z7, z8, c_les, b_list, l_lay, b_lent, i_tup, bind_ok, List.getElem?_cons_zero, List.getElem?_cons_succ, List.map_cons, List.map_nil, List.replicate, Nat.sub_zero, Nat.reduceSub, List.cons_append, List.nil_append, List.append_nil, List.mapM_cons, List.mapM_nil, Option.pure_def, Option.bind_eq_bind, Option.bind_some, List.any_cons, List.any_nil, id, Bool.or_false, Bool.not_true, Bool.not_false, if_true, if_false, Bool.false_eq_true, reduceIte, List.set_cons_zero, List.set_cons_succ, o_add]
    congr 2
  | less c d =>
    simp only [Row.tail, Row.enc, Row.go] at *
    simp only [b34, a_st1, t0, t1, t2, wd_skip_skip, wd_skip_again, wd_skip_stop, wd_skip_set, wd_skip_add, wd_skip_less, wd_again_skip, wd_again_again, wd_again_stop, wd_again_set, wd_again_add, wd_again_less, wd_stop_skip, wd_stop_again, wd_stop_stop, wd_stop_set, wd_stop_add, wd_stop_less, wd_set_skip, wd_set_again, wd_set_stop, wd_set_set, wd_set_add, wd_set_less, wd_add_skip, wd_add_again, wd_add_stop, wd_add_set, wd_add_add, wd_add_less, wd_less_skip, wd_less_again, wd_less_stop, wd_less_set, wd_less_add, wd_less_less, x_cst, x_var, x_tup, x_lst, x_bin, x_neg, x_not, x_cmp, x_cmp2, x_and1, x_and, x_or1, x_or, x_ite, x_idx, x_slc, x_call, x_blt, x_met, x_fld, x_mth, x_mk, y_fset, y_faug, x_isi, x_nil, x_cons, x_c0, x_c1, x_p0, x_p1, y_nil, y_cons, y_set, y_rtn, y_ite, y_exp, decide_true, w_ok, q_nxt, q_rtn, b_rtn, t_bl, r_ret, a_nm, c_lt, c_le, c_gt, c_ge, c_eqi, c_eqs, c_nes, c_eq0, c_ne0, c_in2, z0, z1, z2, z3, z4, z5, z6, z7, z8, c_les, b_list, l_lay, b_lent, i_tup, bind_ok, List.getElem?_cons_zero, List.getElem?_cons_succ, List.map_cons, List.map_nil, List.replicate, Nat.sub_zero, Nat.reduceSub, List.cons_append, List.nil_append, List.append_nil, List.mapM_cons, List.mapM_nil, Option.pure_def, Option.bind_eq_bind, Option.bind_some, List.any_cons, List.any_nil, id, Bool.or_false, Bool.not_true, Bool.not_false, if_true, if_false, Bool.false_eq_true, reduceIte, List.set_cons_zero, List.set_cons_succ, o_add]
    congr 2
end
end K52

namespace K52
open PySem hiding Env exec execs
open L2 Mi MiL MiT
theorem lt_ok {b : Nat} (h : b < 6) : okS (lt b) := ⟨by show 1 ≤ 12; decide, fun c hc => by
  have : c = 97 + b := by simpa [lt] using hc
  have : (16 : Nat) ^ 8 = 4294967296 := by decide
  omega⟩
theorem box_lt {b : Nat} (h : b < 6) : boxB (ltW b) = true := by
  have : ∀ i : Fin 6, boxB (ltW i.1) = true := by decide +kernel
  exact this ⟨b, h⟩
theorem gv_lt {b : Nat} (h : b < 6) (s : Sto) (n : Nat) : GV s (n + 1) 140 (ltW b) := gv_s (lt_ok h)
theorem gv_w (x : Str) (h : (decide (x.length ≤ 12) && x.cps.toList.all fun c => decide (c < 16 ^ 8)) = true) (s : Sto) (n : Nat) : GV s (n + 1) 140 (.str x) := gv_s (lit_ok x h)
theorem gv_enc {r : Row} {many n : Nat} (h : r.ok many n) (hm : many ≤ 1000) (hn : n < many) (s : Sto) : GV s 2 700 r.enc := by
  have e31 : (10 : Nat) ^ 31 > 1000000 := by decide +kernel
  cases r with
  | skip m b => exact gv3 (gv_w _ (by decide +kernel) s 0) (gv_int (by have := h.2.1; omega)) (gv_lt h.2.2 s 0) (by decide) (by decide)
  | again m b => exact gv3 (gv_w _ (by decide +kernel) s 0) (gv_int (by have := h.2.1; omega)) (gv_lt h.2.2 s 0) (by decide) (by decide)
  | stop => exact ⟨⟨by decide, by decide⟩, [140], ⟨gv_w _ (by decide +kernel) s 0, trivial⟩, by decide⟩
  | set b i => exact gv3 (gv_w _ (by decide +kernel) s 0) (gv_lt h.1 s 0) (gv_int h.2) (by decide) (by decide)
  | add b c => exact gv3 (gv_w _ (by decide +kernel) s 0) (gv_lt h.1 s 0) (gv_lt h.2 s 0) (by decide) (by decide)
  | less b c => exact gv3 (gv_w _ (by decide +kernel) s 0) (gv_lt h.1 s 0) (gv_lt h.2 s 0) (by decide) (by decide)
theorem tl_skip : tab.lookup (Str.ofString "skip") = some (Str.ofString "mb", Str.ofString "mb") := by decide +kernel
theorem tl_again : tab.lookup (Str.ofString "again") = some (Str.ofString "mb", Str.ofString "mb") := by decide +kernel
theorem tl_stop : tab.lookup (Str.ofString "stop") = some (Str.ofString "", Str.ofString "") := by decide +kernel
theorem tl_set : tab.lookup (Str.ofString "set") = some (Str.ofString "bn", Str.ofString "bn") := by decide +kernel
theorem tl_add : tab.lookup (Str.ofString "add") = some (Str.ofString "bb", Str.ofString "bb") := by decide +kernel
theorem tl_less : tab.lookup (Str.ofString "less") = some (Str.ofString "bb", Str.ofString "bb") := by decide +kernel
theorem plain_mk {x f g : Str} {r : List W} {ks : List Nat} (h0 : ¬ x = "beget") (h1 : tab.lookup x = some (f, g)) (h2 : decide (r.length = f.length) = true) (h3 : f.cps.toList.map kindP = ks) (h4 : ((r.zip ks).all fun p => fitK p.2 p.1) = true) (h5 : ssP f = false) (h6 : decide (x ∈ plains) = true) : plainB (.tup (.str x :: r)) = true := by
  have e : rowB (.tup (.str x :: r)) = true := by
    show (if x = "beget" then begetB r else rowT r (tab.lookup x)) = true
    rw [if_neg h0, h1]
    show (decide (r.length = f.length) && (((r.zip (f.cps.toList.map kindP)).all fun p => fitK p.2 p.1) && (!ssP f || neq01 r))) = true
    rw [h2, h3, h4, h5]; rfl
  show (rowB (.tup (.str x :: r)) && decide (x ∈ plains)) = true
  rw [e, h6]; rfl
theorem plain_enc {r : Row} {many n : Nat} (h : r.ok many n) : plainB r.enc = true := by
  have one : ∀ {m : Nat}, 1 ≤ m → oneB (.int (m : Int)) = true := fun h => by
    show decide (0 < _) = true
    exact decide_eq_true (by omega)
  cases r with
  | skip m b => exact plain_mk (ks := [3, 0]) (by decide +kernel) tl_skip rfl (by decide +kernel) (by simp only [List.zip_cons_cons, List.all_cons, fitK, box_lt h.2.2, one h.1]; rfl) (by decide +kernel) (by decide +kernel)
  | again m b => exact plain_mk (ks := [3, 0]) (by decide +kernel) tl_again rfl (by decide +kernel) (by simp only [List.zip_cons_cons, List.all_cons, fitK, box_lt h.2.2, one h.1]; rfl) (by decide +kernel) (by decide +kernel)
  | stop => exact plain_mk (ks := []) (by decide +kernel) tl_stop rfl (by decide +kernel) rfl (by decide +kernel) (by decide +kernel)
  | set b i => exact plain_mk (ks := [0, 2]) (by decide +kernel) tl_set rfl (by decide +kernel) (by simp only [List.zip_cons_cons, List.all_cons, fitK, box_lt h.1]; rfl) (by decide +kernel) (by decide +kernel)
  | add b c => exact plain_mk (ks := [0, 0]) (by decide +kernel) tl_add rfl (by decide +kernel) (by simp only [List.zip_cons_cons, List.all_cons, fitK, box_lt h.1, box_lt h.2]; rfl) (by decide +kernel) (by decide +kernel)
  | less b c => exact plain_mk (ks := [0, 0]) (by decide +kernel) tl_less rfl (by decide +kernel) (by simp only [List.zip_cons_cons, List.all_cons, fitK, box_lt h.1, box_lt h.2]; rfl) (by decide +kernel) (by decide +kernel)
/-! ### a step -/
theorem b35_eq : b35 = [b35[0], b35[1], b35[2], b35[3], b35[4], b35[5]] := rfl
theorem step_ok {k l b n : Nat} {s : Sto} {rows : List Row} {a : Int} {xs : List Int} {r : Row} (h : Th s l b (rows.map Row.enc) n a xs) (hr : rows[n]? = some r) (hok : r.ok rows.length n) (hm : rows.length ≤ 1000) (ha : 0 < a) :
    ∃ s', ph ds (k + 8) 35 [.loc l] s = .ok .non s' ∧ Th s' l b (rows.map Row.enc) (r.go rows.length n xs).1 (a - 1) (r.go rows.length n xs).2 ∧ Fr [l, b] s s' := by
  have hn := (List.getElem?_eq_some_iff.mp hr).1
  have hl : (rows.map Row.enc).length = rows.length := List.length_map _
  rw [call_eq (d := ⟨1, 3, b35⟩) rfl rfl]
  -- the turns
  have e1 := want_ok (k := k + 5) h (by rw [hl]; exact hn) ha
  have e2 := coming (k := k + 5) h r.enc (by rw [List.getElem?_map, hr]; rfl)
  obtain ⟨t, e3⟩ := is_plain (k := k) (gv_enc hok hm hn s)
  rw [plain_enc hok] at e3
  have h1 := h.app t
  have e4 := behind_ok (k := k + 6) h1 (r := r) (by rw [hl]; exact hok)
  rw [hl] at e4
  have h2 := h1.app [SO.lst (Row.tail r)]
  have f2 : Fr [l, b] s (s ++ t ++ [SO.lst (Row.tail r)]) := (Fr.app _ s t).trans (Fr.app _ _ _)
  generalize s ++ t ++ [SO.lst (Row.tail r)] = s2 at e4 h2 f2
  have m1 := h.mth1 (m := "want_breath") (f := 32) (dd := []) (ord := [0]) rfl
  have m2 := h.mth1 (m := "coming") (f := 28) (dd := []) (ord := [0]) rfl
  have m3 := h1.mth1 (m := "number_behind") (f := 34) (dd := []) (ord := [0, 1]) rfl
  have s0 : exec (ph ds (k + 7)) NN ψ0 b35[0] [some (.loc l), none, none] s = .ok .nxt [some (.loc l), none, none] s := by
    simp only [b35, List.getElem_cons_zero, m1, e1, x_cst, x_var, x_tup, x_lst, x_bin, x_neg, x_not, x_cmp, x_cmp2, x_and1, x_and, x_or1, x_or, x_ite, x_idx, x_slc, x_call, x_blt, x_met, x_fld, x_mth, x_mk, y_fset, y_faug, x_isi, x_nil, x_cons, x_c0, x_c1, x_p0, x_p1, y_nil, y_cons, y_set, y_rtn, y_ite, y_exp, decide_true, w_ok, q_nxt, q_rtn, b_rtn, t_bl, r_ret, a_nm, c_lt, c_le, c_gt, c_ge, c_eqi, c_eqs, c_nes, c_eq0, c_ne0, c_in2, z0, z1, z2, z3, z4, z5, z6, z7, z8, c_les, b_list, l_lay, b_lent, i_tup, bind_ok, List.getElem?_cons_zero, List.getElem?_cons_succ, List.map_cons, List.map_nil, List.replicate, Nat.sub_zero, Nat.reduceSub, List.cons_append, List.nil_append, List.append_nil, List.mapM_cons, List.mapM_nil, Option.pure_def, Option.bind_eq_bind, Option.bind_some, List.any_cons, List.any_nil, id, Bool.or_false, Bool.not_true, Bool.not_false, if_true, if_false, Bool.false_eq_true, reduceIte, List.set_cons_zero, List.set_cons_succ]
  have s1 : exec (ph ds (k + 7)) NN ψ0 b35[1] [some (.loc l), none, none] s = .ok .nxt [some (.loc l), some r.enc, none] s := by
    simp only [b35, List.getElem_cons_succ, List.getElem_cons_zero, m2, e2, x_cst, x_var, x_tup, x_lst, x_bin, x_neg, x_not, x_cmp, x_cmp2, x_and1, x_and, x_or1, x_or, x_ite, x_idx, x_slc, x_call, x_blt, x_met, x_fld, x_mth, x_mk, y_fset, y_faug, x_isi, x_nil, x_cons, x_c0, x_c1, x_p0, x_p1, y_nil, y_cons, y_set, y_rtn, y_ite, y_exp, decide_true, w_ok, q_nxt, q_rtn, b_rtn, t_bl, r_ret, a_nm, c_lt, c_le, c_gt, c_ge, c_eqi, c_eqs, c_nes, c_eq0, c_ne0, c_in2, z0, z1, z2, z3, z4, z5, z6, z7, z8, c_les, b_list, l_lay, b_lent, i_tup, bind_ok, List.getElem?_cons_zero, List.getElem?_cons_succ, List.map_cons, List.map_nil, List.replicate, Nat.sub_zero, Nat.reduceSub, List.cons_append, List.nil_append, List.append_nil, List.mapM_cons, List.mapM_nil, Option.pure_def, Option.bind_eq_bind, Option.bind_some, List.any_cons, List.any_nil, id, Bool.or_false, Bool.not_true, Bool.not_false, if_true, if_false, Bool.false_eq_true, reduceIte, List.set_cons_zero, List.set_cons_succ]
  have s2' : exec (ph ds (k + 7)) NN ψ0 b35[2] [some (.loc l), some r.enc, none] s = .ok .nxt [some (.loc l), some r.enc, none] (s ++ t) := by
    simp only [b35, List.getElem_cons_succ, List.getElem_cons_zero, e3, x_cst, x_var, x_tup, x_lst, x_bin, x_neg, x_not, x_cmp, x_cmp2, x_and1, x_and, x_or1, x_or, x_ite, x_idx, x_slc, x_call, x_blt, x_met, x_fld, x_mth, x_mk, y_fset, y_faug, x_isi, x_nil, x_cons, x_c0, x_c1, x_p0, x_p1, y_nil, y_cons, y_set, y_rtn, y_ite, y_exp, decide_true, w_ok, q_nxt, q_rtn, b_rtn, t_bl, r_ret, a_nm, c_lt, c_le, c_gt, c_ge, c_eqi, c_eqs, c_nes, c_eq0, c_ne0, c_in2, z0, z1, z2, z3, z4, z5, z6, z7, z8, c_les, b_list, l_lay, b_lent, i_tup, bind_ok, List.getElem?_cons_zero, List.getElem?_cons_succ, List.map_cons, List.map_nil, List.replicate, Nat.sub_zero, Nat.reduceSub, List.cons_append, List.nil_append, List.append_nil, List.mapM_cons, List.mapM_nil, Option.pure_def, Option.bind_eq_bind, Option.bind_some, List.any_cons, List.any_nil, id, Bool.or_false, Bool.not_true, Bool.not_false, if_true, if_false, Bool.false_eq_true, reduceIte, List.set_cons_zero, List.set_cons_succ]
  have s3 : exec (ph ds (k + 7)) NN ψ0 b35[3] [some (.loc l), some r.enc, none] (s ++ t) = .ok .nxt [some (.loc l), some r.enc, some (.int (((r.go rows.length n xs).1 : Nat) : Int))] s2 := by
    simp only [b35, List.getElem_cons_succ, List.getElem_cons_zero, m3, e4, x_cst, x_var, x_tup, x_lst, x_bin, x_neg, x_not, x_cmp, x_cmp2, x_and1, x_and, x_or1, x_or, x_ite, x_idx, x_slc, x_call, x_blt, x_met, x_fld, x_mth, x_mk, y_fset, y_faug, x_isi, x_nil, x_cons, x_c0, x_c1, x_p0, x_p1, y_nil, y_cons, y_set, y_rtn, y_ite, y_exp, decide_true, w_ok, q_nxt, q_rtn, b_rtn, t_bl, r_ret, a_nm, c_lt, c_le, c_gt, c_ge, c_eqi, c_eqs, c_nes, c_eq0, c_ne0, c_in2, z0, z1, z2, z3, z4, z5, z6, z7, z8, c_les, b_list, l_lay, b_lent, i_tup, bind_ok, List.getElem?_cons_zero, List.getElem?_cons_succ, List.map_cons, List.map_nil, List.replicate, Nat.sub_zero, Nat.reduceSub, List.cons_append, List.nil_append, List.append_nil, List.mapM_cons, List.mapM_nil, Option.pure_def, Option.bind_eq_bind, Option.bind_some, List.any_cons, List.any_nil, id, Bool.or_false, Bool.not_true, Bool.not_false, if_true, if_false, Bool.false_eq_true, reduceIte, List.set_cons_zero, List.set_cons_succ]
  have s4 : ∃ s3, exec (ph ds (k + 7)) NN ψ0 b35[4] [some (.loc l), some r.enc, some (.int (((r.go rows.length n xs).1 : Nat) : Int))] s2 = .ok .nxt [some (.loc l), some r.enc, some (.int (((r.go rows.length n xs).1 : Nat) : Int))] s3 ∧ Th s3 l b (rows.map Row.enc) n a (r.go rows.length n xs).2 ∧ Fr [l, b] s2 s3 := by
    have mp := h2.mth1 (m := "put") (f := 31) (dd := []) (ord := [0, 1, 2]) rfl
    have tb := h2.box
    cases r with
    | skip m c => exact ⟨s2, by simp only [b35, List.getElem_cons_succ, List.getElem_cons_zero, Row.enc, at0, wd_skip_skip, wd_skip_again, wd_skip_stop, wd_skip_set, wd_skip_add, wd_skip_less, wd_again_skip, wd_again_again, wd_again_stop, wd_again_set, wd_again_add, wd_again_less, wd_stop_skip, wd_stop_again, wd_stop_stop, wd_stop_set, wd_stop_add, wd_stop_less, wd_set_skip, wd_set_again, wd_set_stop, wd_set_set, wd_set_add, wd_set_less, wd_add_skip, wd_add_again, wd_add_stop, wd_add_set, wd_add_add, wd_add_less, wd_less_skip, wd_less_again, wd_less_stop, wd_less_set, wd_less_add, wd_less_less, x_cst, x_var, x_tup, x_lst, x_bin, x_neg, x_not, x_cmp, x_cmp2, x_and1, x_and, x_or1, x_or, x_ite, x_idx, x_slc, x_call, x_blt, x_met, x_fld, x_mth, x_mk, y_fset, y_faug, x_isi, x_nil, x_cons, x_c0, x_c1, x_p0, x_p1, y_nil, y_cons, y_set, y_rtn, y_ite, y_exp, decide_true, w_ok, q_nxt, q_rtn, b_rtn, t_bl, r_ret, a_nm, c_lt, c_le, c_gt, c_ge, c_eqi, c_eqs, c_nes, c_eq0, c_ne0, c_in2, z0, z1, z2, z3, z4, z5, z6, z7, z8, c_les, b_list, l_lay, b_lent, i_tup, bind_ok, List.getElem?_cons_zero, List.getElem?_cons_succ, List.map_cons, List.map_nil, List.replicate, Nat.sub_zero, Nat.reduceSub, List.cons_append, List.nil_append, List.append_nil, List.mapM_cons, List.mapM_nil, Option.pure_def, Option.bind_eq_bind, Option.bind_some, List.any_cons, List.any_nil, id, Bool.or_false, Bool.not_true, Bool.not_false, if_true, if_false, Bool.false_eq_true, reduceIte, List.set_cons_zero, List.set_cons_succ], h2, Fr.rfl'⟩
    | again m c => exact ⟨s2, by simp only [b35, List.getElem_cons_succ, List.getElem_cons_zero, Row.enc, at0, wd_skip_skip, wd_skip_again, wd_skip_stop, wd_skip_set, wd_skip_add, wd_skip_less, wd_again_skip, wd_again_again, wd_again_stop, wd_again_set, wd_again_add, wd_again_less, wd_stop_skip, wd_stop_again, wd_stop_stop, wd_stop_set, wd_stop_add, wd_stop_less, wd_set_skip, wd_set_again, wd_set_stop, wd_set_set, wd_set_add, wd_set_less, wd_add_skip, wd_add_again, wd_add_stop, wd_add_set, wd_add_add, wd_add_less, wd_less_skip, wd_less_again, wd_less_stop, wd_less_set, wd_less_add, wd_less_less, x_cst, x_var, x_tup, x_lst, x_bin, x_neg, x_not, x_cmp, x_cmp2, x_and1, x_and, x_or1, x_or, x_ite, x_idx, x_slc, x_call, x_blt, x_met, x_fld, x_mth, x_mk, y_fset, y_faug, x_isi, x_nil, x_cons, x_c0, x_c1, x_p0, x_p1, y_nil, y_cons, y_set, y_rtn, y_ite, y_exp, decide_true, w_ok, q_nxt, q_rtn, b_rtn, t_bl, r_ret, a_nm, c_lt, c_le, c_gt, c_ge, c_eqi, c_eqs, c_nes, c_eq0, c_ne0, c_in2, z0, z1, z2, z3, z4, z5, z6, z7, z8, c_les, b_list, l_lay, b_lent, i_tup, bind_ok, List.getElem?_cons_zero, List.getElem?_cons_succ, List.map_cons, List.map_nil, List.replicate, Nat.sub_zero, Nat.reduceSub, List.cons_append, List.nil_append, List.append_nil, List.mapM_cons, List.mapM_nil, Option.pure_def, Option.bind_eq_bind, Option.bind_some, List.any_cons, List.any_nil, id, Bool.or_false, Bool.not_true, Bool.not_false, if_true, if_false, Bool.false_eq_true, reduceIte, List.set_cons_zero, List.set_cons_succ], h2, Fr.rfl'⟩
    | stop => exact ⟨s2, by simp only [b35, List.getElem_cons_succ, List.getElem_cons_zero, Row.enc, at0, wd_skip_skip, wd_skip_again, wd_skip_stop, wd_skip_set, wd_skip_add, wd_skip_less, wd_again_skip, wd_again_again, wd_again_stop, wd_again_set, wd_again_add, wd_again_less, wd_stop_skip, wd_stop_again, wd_stop_stop, wd_stop_set, wd_stop_add, wd_stop_less, wd_set_skip, wd_set_again, wd_set_stop, wd_set_set, wd_set_add, wd_set_less, wd_add_skip, wd_add_again, wd_add_stop, wd_add_set, wd_add_add, wd_add_less, wd_less_skip, wd_less_again, wd_less_stop, wd_less_set, wd_less_add, wd_less_less, x_cst, x_var, x_tup, x_lst, x_bin, x_neg, x_not, x_cmp, x_cmp2, x_and1, x_and, x_or1, x_or, x_ite, x_idx, x_slc, x_call, x_blt, x_met, x_fld, x_mth, x_mk, y_fset, y_faug, x_isi, x_nil, x_cons, x_c0, x_c1, x_p0, x_p1, y_nil, y_cons, y_set, y_rtn, y_ite, y_exp, decide_true, w_ok, q_nxt, q_rtn, b_rtn, t_bl, r_ret, a_nm, c_lt, c_le, c_gt, c_ge, c_eqi, c_eqs, c_nes, c_eq0, c_ne0, c_in2, z0, z1, z2, z3, z4, z5, z6, z7, z8, c_les, b_list, l_lay, b_lent, i_tup, bind_ok, List.getElem?_cons_zero, List.getElem?_cons_succ, List.map_cons, List.map_nil, List.replicate, Nat.sub_zero, Nat.reduceSub, List.cons_append, List.nil_append, List.append_nil, List.mapM_cons, List.mapM_nil, Option.pure_def, Option.bind_eq_bind, Option.bind_some, List.any_cons, List.any_nil, id, Bool.or_false, Bool.not_true, Bool.not_false, if_true, if_false, Bool.false_eq_true, reduceIte, List.set_cons_zero, List.set_cons_succ], h2, Fr.rfl'⟩
    | set c i =>
      obtain ⟨s3, q1, q2, q3⟩ := put_ok (k := k + 6) h2 (i := c) hok.1 i
      exact ⟨s3, by simp only [b35, List.getElem_cons_succ, List.getElem_cons_zero, Row.enc, at0, at1, at2, mp, q1, wd_skip_skip, wd_skip_again, wd_skip_stop, wd_skip_set, wd_skip_add, wd_skip_less, wd_again_skip, wd_again_again, wd_again_stop, wd_again_set, wd_again_add, wd_again_less, wd_stop_skip, wd_stop_again, wd_stop_stop, wd_stop_set, wd_stop_add, wd_stop_less, wd_set_skip, wd_set_again, wd_set_stop, wd_set_set, wd_set_add, wd_set_less, wd_add_skip, wd_add_again, wd_add_stop, wd_add_set, wd_add_add, wd_add_less, wd_less_skip, wd_less_again, wd_less_stop, wd_less_set, wd_less_add, wd_less_less, x_cst, x_var, x_tup, x_lst, x_bin, x_neg, x_not, x_cmp, x_cmp2, x_and1, x_and, x_or1, x_or, x_ite, x_idx, x_slc, x_call, x_blt, x_met, x_fld, x_mth, x_mk, y_fset, y_faug, x_isi, x_nil, x_cons, x_c0, x_c1, x_p0, x_p1, y_nil, y_cons, y_set, y_rtn, y_ite, y_exp, decide_true, w_ok, q_nxt, q_rtn, b_rtn, t_bl, r_ret, a_nm, c_lt, c_le, c_gt, c_ge, c_eqi, c_eqs, c_nes, c_eq0, c_ne0, c_in2, z0, z1, z2, z3, z4, z5, z6, z7, z8, c_les, b_list, l_lay, b_lent, i_tup, bind_ok, List.getElem?_cons_zero, List.getElem?_cons_succ, List.map_cons, List.map_nil, List.replicate, Nat.sub_zero, Nat.reduceSub, List.cons_append, List.nil_append, List.append_nil, List.mapM_cons, List.mapM_nil, Option.pure_def, Option.bind_eq_bind, Option.bind_some, List.any_cons, List.any_nil, id, Bool.or_false, Bool.not_true, Bool.not_false, if_true, if_false, Bool.false_eq_true, reduceIte, List.set_cons_zero, List.set_cons_succ], q2, q3⟩
    | add c d =>
      have i1 := Th.idx h2 (c := c) hok.1
      have i2 := Th.idx h2 (c := d) hok.2
      obtain ⟨s3, q1, q2, q3⟩ := put_ok (k := k + 6) h2 (i := c) hok.1 (xs.getD c 0 + xs.getD d 0)
      exact ⟨s3, by simp only [b35, List.getElem_cons_succ, List.getElem_cons_zero, Row.enc, at0, at1, at2, mp, tb, i1, i2, o_add, q1, wd_skip_skip, wd_skip_again, wd_skip_stop, wd_skip_set, wd_skip_add, wd_skip_less, wd_again_skip, wd_again_again, wd_again_stop, wd_again_set, wd_again_add, wd_again_less, wd_stop_skip, wd_stop_again, wd_stop_stop, wd_stop_set, wd_stop_add, wd_stop_less, wd_set_skip, wd_set_again, wd_set_stop, wd_set_set, wd_set_add, wd_set_less, wd_add_skip, wd_add_again, wd_add_stop, wd_add_set, wd_add_add, wd_add_less, wd_less_skip, wd_less_again, wd_less_stop, wd_less_set, wd_less_add, wd_less_less, x_cst, x_var, x_tup, x_lst, x_bin, x_neg, x_not, x_cmp, x_cmp2, x_and1, x_and, x_or1, x_or, x_ite, x_idx, x_slc, x_call, x_blt, x_met, x_fld, x_mth, x_mk, y_fset, y_faug, x_isi, x_nil, x_cons, x_c0, x_c1, x_p0, x_p1, y_nil, y_cons, y_set, y_rtn, y_ite, y_exp, decide_true, w_ok, q_nxt, q_rtn, b_rtn, t_bl, r_ret, a_nm, c_lt, c_le, c_gt, c_ge, c_eqi, c_eqs, c_nes, c_eq0, c_ne0, c_in2, z0, z1, z2, z3, z4, z5, z6, z7, z8, c_les, b_list, l_lay, b_lent, i_tup, bind_ok, List.getElem?_cons_zero, List.getElem?_cons_succ, List.map_cons, List.map_nil, List.replicate, Nat.sub_zero, Nat.reduceSub, List.cons_append, List.nil_append, List.append_nil, List.mapM_cons, List.mapM_nil, Option.pure_def, Option.bind_eq_bind, Option.bind_some, List.any_cons, List.any_nil, id, Bool.or_false, Bool.not_true, Bool.not_false, if_true, if_false, Bool.false_eq_true, reduceIte, List.set_cons_zero, List.set_cons_succ], q2, q3⟩
    | less c d =>
      have i1 := Th.idx h2 (c := c) hok.1
      have i2 := Th.idx h2 (c := d) hok.2
      obtain ⟨s3, q1, q2, q3⟩ := put_ok (k := k + 6) h2 (i := c) hok.1 (xs.getD c 0 - xs.getD d 0)
      exact ⟨s3, by simp only [b35, List.getElem_cons_succ, List.getElem_cons_zero, Row.enc, at0, at1, at2, mp, tb, i1, i2, o_sub, q1, wd_skip_skip, wd_skip_again, wd_skip_stop, wd_skip_set, wd_skip_add, wd_skip_less, wd_again_skip, wd_again_again, wd_again_stop, wd_again_set, wd_again_add, wd_again_less, wd_stop_skip, wd_stop_again, wd_stop_stop, wd_stop_set, wd_stop_add, wd_stop_less, wd_set_skip, wd_set_again, wd_set_stop, wd_set_set, wd_set_add, wd_set_less, wd_add_skip, wd_add_again, wd_add_stop, wd_add_set, wd_add_add, wd_add_less, wd_less_skip, wd_less_again, wd_less_stop, wd_less_set, wd_less_add, wd_less_less, x_cst, x_var, x_tup, x_lst, x_bin, x_neg, x_not, x_cmp, x_cmp2, x_and1, x_and, x_or1, x_or, x_ite, x_idx, x_slc, x_call, x_blt, x_met, x_fld, x_mth, x_mk, y_fset, y_faug, x_isi, x_nil, x_cons, x_c0, x_c1, x_p0, x_p1, y_nil, y_cons, y_set, y_rtn, y_ite, y_exp, decide_true, w_ok, q_nxt, q_rtn, b_rtn, t_bl, r_ret, a_nm, c_lt, c_le, c_gt, c_ge, c_eqi, c_eqs, c_nes, c_eq0, c_ne0, c_in2, z0, z1, z2, z3, z4, z5, z6, z7, z8, c_les, b_list, l_lay, b_lent, i_tup, bind_ok, List.getElem?_cons_zero, List.getElem?_cons_succ, List.map_cons, List.map_nil, List.replicate, Nat.sub_zero, Nat.reduceSub, List.cons_append, List.nil_append, List.append_nil, List.mapM_cons, List.mapM_nil, Option.pure_def, Option.bind_eq_bind, Option.bind_some, List.any_cons, List.any_nil, id, Bool.or_false, Bool.not_true, Bool.not_false, if_true, if_false, Bool.false_eq_true, reduceIte, List.set_cons_zero, List.set_cons_succ], q2, q3⟩
  obtain ⟨s3', s4, h3, f3⟩ := s4
  obtain ⟨s5, q1, q2, q3⟩ := go_ok (k := k + 6) h3 (r.go rows.length n xs).1
  have mg := h3.mth1 (m := "go_to") (f := 33) (dd := []) (ord := [0, 1]) rfl
  have s5' : exec (ph ds (k + 7)) NN ψ0 b35[5] [some (.loc l), some r.enc, some (.int (((r.go rows.length n xs).1 : Nat) : Int))] s3' = .ok .nxt [some (.loc l), some r.enc, some (.int (((r.go rows.length n xs).1 : Nat) : Int))] s5 := by
    simp only [b35, List.getElem_cons_succ, List.getElem_cons_zero, mg, q1, x_cst, x_var, x_tup, x_lst, x_bin, x_neg, x_not, x_cmp, x_cmp2, x_and1, x_and, x_or1, x_or, x_ite, x_idx, x_slc, x_call, x_blt, x_met, x_fld, x_mth, x_mk, y_fset, y_faug, x_isi, x_nil, x_cons, x_c0, x_c1, x_p0, x_p1, y_nil, y_cons, y_set, y_rtn, y_ite, y_exp, decide_true, w_ok, q_nxt, q_rtn, b_rtn, t_bl, r_ret, a_nm, c_lt, c_le, c_gt, c_ge, c_eqi, c_eqs, c_nes, c_eq0, c_ne0, c_in2, z0, z1, z2, z3, z4, z5, z6, z7, z8, c_les, b_list, l_lay, b_lent, i_tup, bind_ok, List.getElem?_cons_zero, List.getElem?_cons_succ, List.map_cons, List.map_nil, List.replicate, Nat.sub_zero, Nat.reduceSub, List.cons_append, List.nil_append, List.append_nil, List.mapM_cons, List.mapM_nil, Option.pure_def, Option.bind_eq_bind, Option.bind_some, List.any_cons, List.any_nil, id, Bool.or_false, Bool.not_true, Bool.not_false, if_true, if_false, Bool.false_eq_true, reduceIte, List.set_cons_zero, List.set_cons_succ]
  refine ⟨s5, ?_, q2, (f2.trans f3).trans q3⟩
  show bodyRes (execs (ph ds (k + 7)) NN ψ0 b35 [some (.loc l), none, none] s) = _
  rw [b35_eq]
  simp only [y_cons, y_nil, s0, s1, s2', s3, s4, s5', q_nxt, b_nxt]
end K52

namespace K52
open PySem hiding Env exec execs
open L2 Mi MiL MiT
theorem set_end (s : Sto) (o o' : SO) : (s ++ [o]).set s.length o' = s ++ [o'] := by simp
theorem set_end1 (s : Sto) (o p o' : SO) : (s ++ [o] ++ [p]).set s.length o' = s ++ [o'] ++ [p] := by simp
theorem get_end1 (s : Sto) (o p : SO) : (s ++ [o] ++ [p])[s.length]? = some o := by simp
theorem bx0 : mergeW [] [(W.str "a", W.int 0), (.str "b", .int 0), (.str "c", .int 0), (.str "d", .int 0), (.str "e", .int 0), (.str "f", .int 0)] = bx [0, 0, 0, 0, 0, 0] := by decide +kernel
theorem dc_boxes {φ : Nat → List W → M W} (x0 x1 x2 x3 x4 : Option W) (s : Sto) : den φ (.dc (.var 4) (.cst (.int 0)) (.nm 4) [4] .val [(.cst kBOXES)] []) [x0, x1, x2, x3, x4] s = .ok (.loc s.length) (s ++ [SO.dct (bx [0, 0, 0, 0, 0, 0])]) := by
  have e : lcGo (fun ρ' => bnd (den φ (.var 4) ρ') fun x => bnd (den φ (.cst (.int 0)) ρ') fun y => if isKey x = true then Mi.ret (x, y) else bad) (fun ρ' => denC φ [] ρ') (.nm 4) (Mi.wipe [x0, x1, x2, x3, x4] [4]) (fun s => stays s []) [.str "a", .str "b", .str "c", .str "d", .str "e", .str "f"] s = .ok [(W.str "a", W.int 0), (.str "b", .int 0), (.str "c", .int 0), (.str "d", .int 0), (.str "e", .int 0), (.str "f", .int 0)] s := by
    have st : ∀ s : Sto, stays s [] = true := fun _ => rfl
    simp only [lcGo, st, if_true, bindT, Mi.wipe, List.set_cons_succ, List.set_cons_zero, x_c0, bind_ok, bnd, x_var, x_cst, List.getElem?_cons_succ, List.getElem?_cons_zero, isKey, Mi.ret]
  have ei : iter .val [kBOXES] s = .ok ([.str "a", .str "b", .str "c", .str "d", .str "e", .str "f"], []) s := rfl
  have ed : dens φ [(.cst kBOXES)] [x0, x1, x2, x3, x4] s = .ok [kBOXES] s := by simp only [x_cons, x_nil, x_cst, bind_ok, Mi.ret]
  rw [den]
  simp only [bnd, ed, ei, bind_ok, noExc, e, bx0, lay]
theorem b25_eq : b25 = [b25[0], b25[1], b25[2], b25[3], b25[4]] := rfl
theorem make_ok {k r : Nat} {s : Sto} {rws : List W} (hr : s[r]? = some (.lst rws)) (air first : Int) :
    ph ds (k + 1) 25 [.loc s.length, .loc r, .int air, .int first] (s ++ [.ins 0 []]) = .ok .non (s ++ [SO.ins 0 (TF rws 0 air (s.length + 1))] ++ [SO.dct (bx [first, 0, 0, 0, 0, 0])]) := by
  rw [call_eq (d := ⟨4, 5, b25⟩) rfl rfl]
  have hlt := get_lt hr
  generalize hρ : ([some (.loc s.length), some (.loc r), some (.int air), some (.int first), none] : Env) = ρ
  have v0 : ρ[0]? = some (some (.loc s.length)) := by subst hρ; rfl
  have v1 : ρ[1]? = some (some (.loc r)) := by subst hρ; rfl
  have v2 : ρ[2]? = some (some (.int air)) := by subst hρ; rfl
  have v3 : ρ[3]? = some (some (.int first)) := by subst hρ; rfl
  have f1 : ∀ (fs : List (Str × W)) (f : Str) (w : W), fs.length < 10 → setFW [0] f (.loc s.length) w (s ++ [.ins 0 fs]) = .ok () (s ++ [.ins 0 (putFW f w fs)]) := fun fs f w h => by
    rw [setFW_at (get_end s _) rfl (by omega), set_end]
  have g1 : setFW [0] "own_rows" (.loc s.length) (.tup rws) (s ++ [.ins 0 []]) = .ok () (s ++ [.ins 0 [("own_rows", .tup rws)]]) := f1 [] "own_rows" (.tup rws) (by decide)
  have g2 : setFW [0] "own_number" (.loc s.length) (.int 0) (s ++ [.ins 0 [("own_rows", .tup rws)]]) = .ok () (s ++ [.ins 0 [("own_rows", .tup rws), ("own_number", .int 0)]]) := f1 [("own_rows", .tup rws)] "own_number" (.int 0) (show 1 < 10 by decide)
  have g3 : setFW [0] "own_breath" (.loc s.length) (.int air) (s ++ [.ins 0 [("own_rows", .tup rws), ("own_number", .int 0)]]) = .ok () (s ++ [.ins 0 [("own_rows", .tup rws), ("own_number", .int 0), ("own_breath", .int air)]]) := f1 [("own_rows", .tup rws), ("own_number", .int 0)] "own_breath" (.int air) (show 2 < 10 by decide)
  have t1 : blt .tuple [.loc r] (s ++ [.ins 0 []]) = .ok (.tup rws) (s ++ [.ins 0 []]) := b_tupl _ _ _ (get_app hr)
  have s0 : exec (ph ds k) NN ψ0 b25[0] ρ (s ++ [.ins 0 []]) = .ok .nxt ρ (s ++ [.ins 0 [("own_rows", .tup rws)]]) := by
    simp only [b25, List.getElem_cons_zero, v0, v1, t1, g1, x_cst, x_var, x_tup, x_lst, x_bin, x_neg, x_not, x_cmp, x_cmp2, x_and1, x_and, x_or1, x_or, x_ite, x_idx, x_slc, x_call, x_blt, x_met, x_fld, x_mth, x_mk, y_fset, y_faug, x_isi, x_nil, x_cons, x_c0, x_c1, x_p0, x_p1, y_nil, y_cons, y_set, y_rtn, y_ite, y_exp, decide_true, w_ok, q_nxt, q_rtn, b_rtn, t_bl, r_ret, a_nm, c_lt, c_le, c_gt, c_ge, c_eqi, c_eqs, c_nes, c_eq0, c_ne0, c_in2, z0, z1, z2, z3, z4, z5, z6, z7, z8, c_les, b_list, l_lay, b_lent, i_tup, bind_ok, List.getElem?_cons_zero, List.getElem?_cons_succ, List.map_cons, List.map_nil, List.replicate, Nat.sub_zero, Nat.reduceSub, List.cons_append, List.nil_append, List.append_nil, List.mapM_cons, List.mapM_nil, Option.pure_def, Option.bind_eq_bind, Option.bind_some, List.any_cons, List.any_nil, id, Bool.or_false, Bool.not_true, Bool.not_false, if_true, if_false, Bool.false_eq_true, reduceIte, List.set_cons_zero, List.set_cons_succ]
  have s1 : exec (ph ds k) NN ψ0 b25[1] ρ (s ++ [.ins 0 [("own_rows", .tup rws)]]) = .ok .nxt ρ (s ++ [.ins 0 [("own_rows", .tup rws), ("own_number", .int 0)]]) := by
    simp only [b25, List.getElem_cons_succ, List.getElem_cons_zero, v0, g2, x_cst, x_var, x_tup, x_lst, x_bin, x_neg, x_not, x_cmp, x_cmp2, x_and1, x_and, x_or1, x_or, x_ite, x_idx, x_slc, x_call, x_blt, x_met, x_fld, x_mth, x_mk, y_fset, y_faug, x_isi, x_nil, x_cons, x_c0, x_c1, x_p0, x_p1, y_nil, y_cons, y_set, y_rtn, y_ite, y_exp, decide_true, w_ok, q_nxt, q_rtn, b_rtn, t_bl, r_ret, a_nm, c_lt, c_le, c_gt, c_ge, c_eqi, c_eqs, c_nes, c_eq0, c_ne0, c_in2, z0, z1, z2, z3, z4, z5, z6, z7, z8, c_les, b_list, l_lay, b_lent, i_tup, bind_ok, List.getElem?_cons_zero, List.getElem?_cons_succ, List.map_cons, List.map_nil, List.replicate, Nat.sub_zero, Nat.reduceSub, List.cons_append, List.nil_append, List.append_nil, List.mapM_cons, List.mapM_nil, Option.pure_def, Option.bind_eq_bind, Option.bind_some, List.any_cons, List.any_nil, id, Bool.or_false, Bool.not_true, Bool.not_false, if_true, if_false, Bool.false_eq_true, reduceIte, List.set_cons_zero, List.set_cons_succ]
  have s2 : exec (ph ds k) NN ψ0 b25[2] ρ (s ++ [.ins 0 [("own_rows", .tup rws), ("own_number", .int 0)]]) = .ok .nxt ρ (s ++ [.ins 0 [("own_rows", .tup rws), ("own_number", .int 0), ("own_breath", .int air)]]) := by
    simp only [b25, List.getElem_cons_succ, List.getElem_cons_zero, v0, v2, g3, x_cst, x_var, x_tup, x_lst, x_bin, x_neg, x_not, x_cmp, x_cmp2, x_and1, x_and, x_or1, x_or, x_ite, x_idx, x_slc, x_call, x_blt, x_met, x_fld, x_mth, x_mk, y_fset, y_faug, x_isi, x_nil, x_cons, x_c0, x_c1, x_p0, x_p1, y_nil, y_cons, y_set, y_rtn, y_ite, y_exp, decide_true, w_ok, q_nxt, q_rtn, b_rtn, t_bl, r_ret, a_nm, c_lt, c_le, c_gt, c_ge, c_eqi, c_eqs, c_nes, c_eq0, c_ne0, c_in2, z0, z1, z2, z3, z4, z5, z6, z7, z8, c_les, b_list, l_lay, b_lent, i_tup, bind_ok, List.getElem?_cons_zero, List.getElem?_cons_succ, List.map_cons, List.map_nil, List.replicate, Nat.sub_zero, Nat.reduceSub, List.cons_append, List.nil_append, List.append_nil, List.mapM_cons, List.mapM_nil, Option.pure_def, Option.bind_eq_bind, Option.bind_some, List.any_cons, List.any_nil, id, Bool.or_false, Bool.not_true, Bool.not_false, if_true, if_false, Bool.false_eq_true, reduceIte, List.set_cons_zero, List.set_cons_succ]
  have s3 : exec (ph ds k) NN ψ0 b25[3] ρ (s ++ [.ins 0 [("own_rows", .tup rws), ("own_number", .int 0), ("own_breath", .int air)]]) = .ok .nxt ρ (s ++ [.ins 0 (TF rws 0 air (s.length + 1))] ++ [.dct (bx [0, 0, 0, 0, 0, 0])]) := by
    have e1 := dc_boxes (φ := ph ds k) (some (.loc s.length)) (some (.loc r)) (some (.int air)) (some (.int first)) none (s ++ [.ins 0 [("own_rows", .tup rws), ("own_number", .int 0), ("own_breath", .int air)]])
    rw [hρ] at e1
    have e2 : setFW [0] "own_boxes" (.loc s.length) (.loc (s ++ [SO.ins 0 [("own_rows", .tup rws), ("own_number", .int 0), ("own_breath", .int air)]]).length) (s ++ [.ins 0 [("own_rows", .tup rws), ("own_number", .int 0), ("own_breath", .int air)]] ++ [.dct (bx [0, 0, 0, 0, 0, 0])]) = .ok () (s ++ [.ins 0 (TF rws 0 air (s.length + 1))] ++ [.dct (bx [0, 0, 0, 0, 0, 0])]) := by
      rw [setFW_at (c := 0) (fs := [("own_rows", .tup rws), ("own_number", .int 0), ("own_breath", .int air)]) (get_end1 s _ _) rfl (show 3 < 1000 by decide), set_end1]
      simp only [List.length_append, List.length_cons, List.length_nil]
      rfl
    simp only [b25, List.getElem_cons_succ, List.getElem_cons_zero, v0, e1, e2, x_cst, x_var, x_tup, x_lst, x_bin, x_neg, x_not, x_cmp, x_cmp2, x_and1, x_and, x_or1, x_or, x_ite, x_idx, x_slc, x_call, x_blt, x_met, x_fld, x_mth, x_mk, y_fset, y_faug, x_isi, x_nil, x_cons, x_c0, x_c1, x_p0, x_p1, y_nil, y_cons, y_set, y_rtn, y_ite, y_exp, decide_true, w_ok, q_nxt, q_rtn, b_rtn, t_bl, r_ret, a_nm, c_lt, c_le, c_gt, c_ge, c_eqi, c_eqs, c_nes, c_eq0, c_ne0, c_in2, z0, z1, z2, z3, z4, z5, z6, z7, z8, c_les, b_list, l_lay, b_lent, i_tup, bind_ok, List.getElem?_cons_zero, List.getElem?_cons_succ, List.map_cons, List.map_nil, List.replicate, Nat.sub_zero, Nat.reduceSub, List.cons_append, List.nil_append, List.append_nil, List.mapM_cons, List.mapM_nil, Option.pure_def, Option.bind_eq_bind, Option.bind_some, List.any_cons, List.any_nil, id, Bool.or_false, Bool.not_true, Bool.not_false, if_true, if_false, Bool.false_eq_true, reduceIte, List.set_cons_zero, List.set_cons_succ]
  have h3 : Th (s ++ [.ins 0 (TF rws 0 air (s.length + 1))] ++ [.dct (bx [0, 0, 0, 0, 0, 0])]) s.length (s.length + 1) rws 0 air [0, 0, 0, 0, 0, 0] :=
    ⟨get_end1 s _ _, by simp, by omega, rfl⟩
  have s4 : exec (ph ds k) NN ψ0 b25[4] ρ (s ++ [.ins 0 (TF rws 0 air (s.length + 1))] ++ [.dct (bx [0, 0, 0, 0, 0, 0])]) = .ok .nxt ρ (s ++ [.ins 0 (TF rws 0 air (s.length + 1))] ++ [.dct (bx [first, 0, 0, 0, 0, 0])]) := by
    have hs := set_bx (i := 0) (v := first) h3.bo (by decide) (by decide)
    have e0 : ltW 0 = .str "a" := by decide +kernel
    rw [e0] at hs
    have el : (s ++ [SO.ins 0 (TF rws 0 air (s.length + 1))] ++ [SO.dct (bx [0, 0, 0, 0, 0, 0])]).set (s.length + 1) (.dct (bx ([0, 0, 0, 0, 0, 0].set 0 first))) = s ++ [.ins 0 (TF rws 0 air (s.length + 1))] ++ [.dct (bx [first, 0, 0, 0, 0, 0])] := by
      have := set_end (s ++ [SO.ins 0 (TF rws 0 air (s.length + 1))]) (SO.dct (bx [0, 0, 0, 0, 0, 0])) (.dct (bx ([0, 0, 0, 0, 0, 0].set 0 first)))
      simpa using this
    rw [el] at hs
    have ha : asg (ph ds k) (.sub (.fld (.var 0) "own_boxes" [0]) (.cst (.str "a"))) (.int first) ρ (s ++ [SO.ins 0 (TF rws 0 air (s.length + 1))] ++ [SO.dct (bx [0, 0, 0, 0, 0, 0])]) = .ok ρ (s ++ [.ins 0 (TF rws 0 air (s.length + 1))] ++ [.dct (bx [first, 0, 0, 0, 0, 0])]) :=
      a_sub (ow := .loc (s.length + 1)) (iw := .str "a") (by simp only [v0, h3.box, x_cst, x_var, x_tup, x_lst, x_bin, x_neg, x_not, x_cmp, x_cmp2, x_and1, x_and, x_or1, x_or, x_ite, x_idx, x_slc, x_call, x_blt, x_met, x_fld, x_mth, x_mk, y_fset, y_faug, x_isi, x_nil, x_cons, x_c0, x_c1, x_p0, x_p1, y_nil, y_cons, y_set, y_rtn, y_ite, y_exp, decide_true, w_ok, q_nxt, q_rtn, b_rtn, t_bl, r_ret, a_nm, c_lt, c_le, c_gt, c_ge, c_eqi, c_eqs, c_nes, c_eq0, c_ne0, c_in2, z0, z1, z2, z3, z4, z5, z6, z7, z8, c_les, b_list, l_lay, b_lent, i_tup, bind_ok, List.getElem?_cons_zero, List.getElem?_cons_succ, List.map_cons, List.map_nil, List.replicate, Nat.sub_zero, Nat.reduceSub, List.cons_append, List.nil_append, List.append_nil, List.mapM_cons, List.mapM_nil, Option.pure_def, Option.bind_eq_bind, Option.bind_some, List.any_cons, List.any_nil, id, Bool.or_false, Bool.not_true, Bool.not_false, if_true, if_false, Bool.false_eq_true, reduceIte, List.set_cons_zero, List.set_cons_succ]) (by simp only [x_cst, x_var, x_tup, x_lst, x_bin, x_neg, x_not, x_cmp, x_cmp2, x_and1, x_and, x_or1, x_or, x_ite, x_idx, x_slc, x_call, x_blt, x_met, x_fld, x_mth, x_mk, y_fset, y_faug, x_isi, x_nil, x_cons, x_c0, x_c1, x_p0, x_p1, y_nil, y_cons, y_set, y_rtn, y_ite, y_exp, decide_true, w_ok, q_nxt, q_rtn, b_rtn, t_bl, r_ret, a_nm, c_lt, c_le, c_gt, c_ge, c_eqi, c_eqs, c_nes, c_eq0, c_ne0, c_in2, z0, z1, z2, z3, z4, z5, z6, z7, z8, c_les, b_list, l_lay, b_lent, i_tup, bind_ok, List.getElem?_cons_zero, List.getElem?_cons_succ, List.map_cons, List.map_nil, List.replicate, Nat.sub_zero, Nat.reduceSub, List.cons_append, List.nil_append, List.append_nil, List.mapM_cons, List.mapM_nil, Option.pure_def, Option.bind_eq_bind, Option.bind_some, List.any_cons, List.any_nil, id, Bool.or_false, Bool.not_true, Bool.not_false, if_true, if_false, Bool.false_eq_true, reduceIte, List.set_cons_zero, List.set_cons_succ]) hs
    simp only [b25, List.getElem_cons_succ, List.getElem_cons_zero, v3, ha, x_cst, x_var, x_tup, x_lst, x_bin, x_neg, x_not, x_cmp, x_cmp2, x_and1, x_and, x_or1, x_or, x_ite, x_idx, x_slc, x_call, x_blt, x_met, x_fld, x_mth, x_mk, y_fset, y_faug, x_isi, x_nil, x_cons, x_c0, x_c1, x_p0, x_p1, y_nil, y_cons, y_set, y_rtn, y_ite, y_exp, decide_true, w_ok, q_nxt, q_rtn, b_rtn, t_bl, r_ret, a_nm, c_lt, c_le, c_gt, c_ge, c_eqi, c_eqs, c_nes, c_eq0, c_ne0, c_in2, z0, z1, z2, z3, z4, z5, z6, z7, z8, c_les, b_list, l_lay, b_lent, i_tup, bind_ok, List.getElem?_cons_zero, List.getElem?_cons_succ, List.map_cons, List.map_nil, List.replicate, Nat.sub_zero, Nat.reduceSub, List.cons_append, List.nil_append, List.append_nil, List.mapM_cons, List.mapM_nil, Option.pure_def, Option.bind_eq_bind, Option.bind_some, List.any_cons, List.any_nil, id, Bool.or_false, Bool.not_true, Bool.not_false, if_true, if_false, Bool.false_eq_true, reduceIte, List.set_cons_zero, List.set_cons_succ]
  show bodyRes (execs (ph ds k) NN ψ0 b25 [some (.loc s.length), some (.loc r), some (.int air), some (.int first), none] (s ++ [.ins 0 []])) = _
  rw [hρ, b25_eq]
  simp only [y_cons, y_nil, s0, s1, s2, s3, s4, q_nxt, b_nxt]
/-- Thread(..), all of it -/
theorem mk_ok {k r : Nat} {s : Sto} {rws : List W} {ρ : Env} {es : List Mi.E} (hr : s[r]? = some (.lst rws)) (air first : Int) (he : dens (ph ds (k + 1)) es ρ s = .ok [.loc r, .int air, .int first] s) :
    den (ph ds (k + 1)) (.mk 0 25 es [] [0, 1, 2, 3]) ρ s = .ok (.loc s.length) (s ++ [SO.ins 0 (TF rws 0 air (s.length + 1))] ++ [SO.dct (bx [first, 0, 0, 0, 0, 0])]) := by
  simp only [x_mk, he, bind_ok, List.mapM_cons, List.mapM_nil, Option.pure_def, Option.bind_eq_bind, List.cons_append, List.nil_append, List.append_nil, List.getElem?_cons_zero, List.getElem?_cons_succ, Option.bind_some, make_ok (k := k) hr air first, if_true, Mi.ret]
theorem th_new {s : Sto} {rws : List W} {air first : Int} : Th (s ++ [SO.ins 0 (TF rws 0 air (s.length + 1))] ++ [SO.dct (bx [first, 0, 0, 0, 0, 0])]) s.length (s.length + 1) rws 0 air [first, 0, 0, 0, 0, 0] :=
  ⟨get_end1 s _ _, by simp, by omega, rfl⟩
end K52

namespace K52
open PySem hiding Env exec execs
open L2 Mi MiL MiT
/-! ### the law's own walk -/
/-- a row, gone by the law -/
abbrev bG : List S := [(.set (.tp [(.nm 8), (.nm 9)]) (.tup [(.idx (.idx (.var 0) (.var 5)) (.cst (.int 0))), (.slc (.idx (.var 0) (.var 5)) [(.cst (.int 1))] [])])), (.set (.nm 7) (.bin .add (.var 5) (.cst (.int 1)))), (.ite (.cmp .eq (.var 8) (.cst (.str "set"))) [(.set (.sub (.var 4) (.idx (.var 9) (.cst (.int 0)))) (.idx (.var 9) (.cst (.int 1))))] []), (.ite (.cmp .eq (.var 8) (.cst (.str "add"))) [(.set (.sub (.var 4) (.idx (.var 9) (.cst (.int 0)))) (.bin .add (.idx (.var 4) (.idx (.var 9) (.cst (.int 0)))) (.idx (.var 4) (.idx (.var 9) (.cst (.int 1))))))] []), (.ite (.cmp .eq (.var 8) (.cst (.str "less"))) [(.set (.sub (.var 4) (.idx (.var 9) (.cst (.int 0)))) (.bin .sub (.idx (.var 4) (.idx (.var 9) (.cst (.int 0)))) (.idx (.var 4) (.idx (.var 9) (.cst (.int 1))))))] []), (.ite (.cmp .eq (.var 8) (.cst (.str "skip"))) [(.set (.nm 7) (.bin .add (.var 7) (.bin .mul (.idx (.var 9) (.cst (.int 0))) (.blt .int [(.cmp .eq (.idx (.var 4) (.idx (.var 9) (.cst (.int 1)))) (.cst (.int 0)))]))))] []), (.ite (.cmp .eq (.var 8) (.cst (.str "again"))) [(.set (.nm 7) (.ite (.cmp .ne (.idx (.var 4) (.idx (.var 9) (.cst (.int 1)))) (.cst (.int 0))) (.bin .sub (.var 5) (.idx (.var 9) (.cst (.int 0)))) (.var 7)))] []), (.set (.nm 5) (.ite (.cmp .eq (.var 8) (.cst (.str "stop"))) (.blt .len [(.var 0)]) (.var 7)))]
abbrev bW : List S := [(.exp (.met .append (.var 6) [(.tup [(.var 5), (.var 3), (.blt .dict [(.var 4)])])])), (.ite (.cmp .lt (.var 5) (.blt .len [(.var 0)])) bG [(.rtn (.var 6))])]
theorem b18_eq : b18 = [b18[0], .for (.nm 3) .rrng [(.bin .add (.var 2) (.cst (.int 1)))] bW, .rtn (.var 6)] := rfl
abbrev EW (r B F : Nat) (x1 x2 lf ah wd pt : Option W) (n : Nat) : Env := [some (.loc r), x1, x2, lf, some (.loc B), some (.int (n : Int)), some (.loc F), ah, wd, pt]
theorem mulz (a : Nat) : (a : Int) * 1 = (a : Int) := by omega

theorem b_intb (b : Bool) (s : Sto) : blt .int [.bl b] s = .ok (.int (if b then 1 else 0)) s := rfl
section
variable {k r B F n : Nat} {s : Sto} {rows : List Row} {xs : List Int} {x1 x2 lf ah wd pt : Option W}
theorem law_go (hr : s[r]? = some (.lst (rows.map Row.enc))) (hB : s[B]? = some (.dct (bx xs))) (hx : xs.length = 6) {q : Row} (hq : rows[n]? = some q) (hok : q.ok rows.length n) (hm : rows.length ≤ 1000) :
    ∃ ah wd pt s', execs (ph ds k) NN ψ0 bG (EW r B F x1 x2 lf ah0 wd0 pt0 n) s = .ok .nxt (EW r B F x1 x2 lf ah wd pt (q.go rows.length n xs).1) s' ∧ s'[B]? = some (.dct (bx (q.go rows.length n xs).2)) ∧ Fr [B] s s' := by
  have hl := get_lt hB
  have hn := (List.getElem?_eq_some_iff.mp hq).1
  have ir : idxW (.loc r) (.int (n : Int)) s = .ok q.enc s := i_loc _ _ _ _ _ hr (by rw [at_nat, List.getElem?_map, hq]; rfl)
  have hlen : blt .len [.loc r] s = .ok (.int (rows.length : Int)) s := by rw [b_lenl _ _ _ hr, List.length_map]
  have ib : ∀ {c : Nat}, c < 6 → idxW (.loc B) (ltW c) s = .ok (.int (xs.getD c 0)) s := fun hc => idx_bx hB (getD_at (by rw [hx]; exact hc))
  have sb : ∀ {c : Nat} (v : Int), c < 6 → setW (.loc B) (ltW c) (.int v) s = .ok () (s.set B (.dct (bx (xs.set c v)))) := fun v hc => set_bx hB (by rw [hx]; exact hc) (by rw [hx]; decide)
  cases q with
  | stop =>
    refine ⟨some (.int ((n : Int) + 1)), some (.str "stop"), some (.tup []), s, ?_, hB, Fr.rfl'⟩
    simp only [Row.enc, Row.go] at *
    simp only [bG, EW, ir, at0, cut1, a_tp2t, hlen, o_add, wd_skip_skip, wd_skip_again, wd_skip_stop, wd_skip_set, wd_skip_add, wd_skip_less, wd_again_skip, wd_again_again, wd_again_stop, wd_again_set, wd_again_add, wd_again_less, wd_stop_skip, wd_stop_again, wd_stop_stop, wd_stop_set, wd_stop_add, wd_stop_less, wd_set_skip, wd_set_again, wd_set_stop, wd_set_set, wd_set_add, wd_set_less, wd_add_skip, wd_add_again, wd_add_stop, wd_add_set, wd_add_add, wd_add_less, wd_less_skip, wd_less_again, wd_less_stop, wd_less_set, wd_less_add, wd_less_less, x_cst, x_var, x_tup, x_lst, x_bin, x_neg, x_not, x_cmp, x_cmp2, x_and1, x_and, x_or1, x_or, x_ite, x_idx, x_slc, x_call, x_blt, x_met, x_fld, x_mth, x_mk, y_fset, y_faug, x_isi, x_nil, x_cons, x_c0, x_c1, x_p0, x_p1, y_nil, y_cons, y_set, y_rtn, y_ite, y_exp, decide_true, w_ok, q_nxt, q_rtn, b_rtn, t_bl, r_ret, a_nm, c_lt, c_le, c_gt, c_ge, c_eqi, c_eqs, c_nes, c_eq0, c_ne0, c_in2, z0, z1, z2, z3, z4, z5, z6, z7, z8, c_les, b_list, l_lay, b_lent, i_tup, bind_ok, List.getElem?_cons_zero, List.getElem?_cons_succ, List.map_cons, List.map_nil, List.replicate, Nat.sub_zero, Nat.reduceSub, List.cons_append, List.nil_append, List.append_nil, List.mapM_cons, List.mapM_nil, Option.pure_def, Option.bind_eq_bind, Option.bind_some, List.any_cons, List.any_nil, id, Bool.or_false, Bool.not_true, Bool.not_false, if_true, if_false, Bool.false_eq_true, reduceIte, List.set_cons_zero, List.set_cons_succ]
  | skip m c =>
    have i1 := ib hok.2.2
    refine ⟨some (.int (((if xs.getD c 0 = 0 then n + 1 + m else n + 1) : Nat) : Int)), some (.str "skip"), some (.tup [.int (m : Int), ltW c]), s, ?_, hB, Fr.rfl'⟩
    simp only [Row.enc, Row.go] at *
    by_cases hz : xs.getD c 0 = 0
    · have d : decide (xs.getD c 0 = 0) = true := decide_eq_true hz
      have mu : binop .mul (.int (m : Int)) (.int 1) s = .ok (.int ((m : Int) * 1)) s := o_mul _ _ _ (by
        have h1 : (m : Int).natAbs.log2 ≤ 10 := log_lt (by have := hok.2.1; show m < 1024; omega)
        have h2 : (1 : Int).natAbs.log2 ≤ 1 := log_lt (by decide)
        omega)
      simp only [bG, EW, ir, at0, at1, cut1, a_tp2t, i1, d, b_intb, mu, o_add, wd_skip_skip, wd_skip_again, wd_skip_stop, wd_skip_set, wd_skip_add, wd_skip_less, wd_again_skip, wd_again_again, wd_again_stop, wd_again_set, wd_again_add, wd_again_less, wd_stop_skip, wd_stop_again, wd_stop_stop, wd_stop_set, wd_stop_add, wd_stop_less, wd_set_skip, wd_set_again, wd_set_stop, wd_set_set, wd_set_add, wd_set_less, wd_add_skip, wd_add_again, wd_add_stop, wd_add_set, wd_add_add, wd_add_less, wd_less_skip, wd_less_again, wd_less_stop, wd_less_set, wd_less_add, wd_less_less, x_cst, x_var, x_tup, x_lst, x_bin, x_neg, x_not, x_cmp, x_cmp2, x_and1, x_and, x_or1, x_or, x_ite, x_idx, x_slc, x_call, x_blt, x_met, x_fld, x_mth, x_mk, y_fset, y_faug, x_isi, x_nil, x_cons, x_c0, x_c1, x_p0, x_p1, y_nil, y_cons, y_set, y_rtn, y_ite, y_exp, decide_true, w_ok, q_nxt, q_rtn, b_rtn, t_bl, r_ret, a_nm, c_lt, c_le, c_gt, c_ge, c_eqi, c_eqs, c_nes, c_eq0, c_ne0, c_in2, z0, z1, z2, z3, z4, z5, z6, z7, z8, c_les, b_list, l_lay, b_lent, i_tup, bind_ok, List.getElem?_cons_zero, List.getElem?_cons_succ, List.map_cons, List.map_nil, List.replicate, Nat.sub_zero, Nat.reduceSub, List.cons_append, List.nil_append, List.append_nil, List.mapM_cons, List.mapM_nil, Option.pure_def, Option.bind_eq_bind, Option.bind_some, List.any_cons, List.any_nil, id, Bool.or_false, Bool.not_true, Bool.not_false, if_true, if_false, Bool.false_eq_true, reduceIte, List.set_cons_zero, List.set_cons_succ, if_pos hz]
      rw [show (n : Int) + 1 + (m : Int) * 1 = ((n + 1 + m : Nat) : Int) by omega]
    · have d : decide (xs.getD c 0 = 0) = false := decide_eq_false hz
      have mu : binop .mul (.int (m : Int)) (.int 0) s = .ok (.int ((m : Int) * 0)) s := o_mul _ _ _ (by
        have h1 : (m : Int).natAbs.log2 ≤ 10 := log_lt (by have := hok.2.1; show m < 1024; omega)
        have h2 : (0 : Int).natAbs.log2 ≤ 1 := log_lt (by decide)
        omega)
      simp only [bG, EW, ir, at0, at1, cut1, a_tp2t, i1, d, b_intb, mu, o_add, wd_skip_skip, wd_skip_again, wd_skip_stop, wd_skip_set, wd_skip_add, wd_skip_less, wd_again_skip, wd_again_again, wd_again_stop, wd_again_set, wd_again_add, wd_again_less, wd_stop_skip, wd_stop_again, wd_stop_stop, wd_stop_set, wd_stop_add, wd_stop_less, wd_set_skip, wd_set_again, wd_set_stop, wd_set_set, wd_set_add, wd_set_less, wd_add_skip, wd_add_again, wd_add_stop, wd_add_set, wd_add_add, wd_add_less, wd_less_skip, wd_less_again, wd_less_stop, wd_less_set, wd_less_add, wd_less_less, x_cst, x_var, x_tup, x_lst, x_bin, x_neg, x_not, x_cmp, x_cmp2, x_and1, x_and, x_or1, x_or, x_ite, x_idx, x_slc, x_call, x_blt, x_met, x_fld, x_mth, x_mk, y_fset, y_faug, x_isi, x_nil, x_cons, x_c0, x_c1, x_p0, x_p1, y_nil, y_cons, y_set, y_rtn, y_ite, y_exp, decide_true, w_ok, q_nxt, q_rtn, b_rtn, t_bl, r_ret, a_nm, c_lt, c_le, c_gt, c_ge, c_eqi, c_eqs, c_nes, c_eq0, c_ne0, c_in2, z0, z1, z2, z3, z4, z5, z6, z7, z8, c_les, b_list, l_lay, b_lent, i_tup, bind_ok, List.getElem?_cons_zero, List.getElem?_cons_succ, List.map_cons, List.map_nil, List.replicate, Nat.sub_zero, Nat.reduceSub, List.cons_append, List.nil_append, List.append_nil, List.mapM_cons, List.mapM_nil, Option.pure_def, Option.bind_eq_bind, Option.bind_some, List.any_cons, List.any_nil, id, Bool.or_false, Bool.not_true, Bool.not_false, if_true, if_false, Bool.false_eq_true, reduceIte, List.set_cons_zero, List.set_cons_succ, if_neg hz]
      congr 6 <;> omega
  | again m c =>
    have i1 := ib hok.2.2
    have hmn := hok.2.1
    refine ⟨some (.int (((if xs.getD c 0 = 0 then n + 1 else n - m) : Nat) : Int)), some (.str "again"), some (.tup [.int (m : Int), ltW c]), s, ?_, hB, Fr.rfl'⟩
    simp only [Row.enc, Row.go] at *
    by_cases hz : xs.getD c 0 = 0
    · have d : decide (xs.getD c 0 = 0) = true := decide_eq_true hz
      simp only [bG, EW, ir, at0, at1, cut1, a_tp2t, i1, d, c_nei, o_add, wd_skip_skip, wd_skip_again, wd_skip_stop, wd_skip_set, wd_skip_add, wd_skip_less, wd_again_skip, wd_again_again, wd_again_stop, wd_again_set, wd_again_add, wd_again_less, wd_stop_skip, wd_stop_again, wd_stop_stop, wd_stop_set, wd_stop_add, wd_stop_less, wd_set_skip, wd_set_again, wd_set_stop, wd_set_set, wd_set_add, wd_set_less, wd_add_skip, wd_add_again, wd_add_stop, wd_add_set, wd_add_add, wd_add_less, wd_less_skip, wd_less_again, wd_less_stop, wd_less_set, wd_less_add, wd_less_less, x_cst, x_var, x_tup, x_lst, x_bin, x_neg, x_not, x_cmp, x_cmp2, x_and1, x_and, x_or1, x_or, x_ite, x_idx, x_slc, x_call, x_blt, x_met, x_fld, x_mth, x_mk, y_fset, y_faug, x_isi, x_nil, x_cons, x_c0, x_c1, x_p0, x_p1, y_nil, y_cons, y_set, y_rtn, y_ite, y_exp, decide_true, w_ok, q_nxt, q_rtn, b_rtn, t_bl, r_ret, a_nm, c_lt, c_le, c_gt, c_ge, c_eqi, c_eqs, c_nes, c_eq0, c_ne0, c_in2, z0, z1, z2, z3, z4, z5, z6, z7, z8, c_les, b_list, l_lay, b_lent, i_tup, bind_ok, List.getElem?_cons_zero, List.getElem?_cons_succ, List.map_cons, List.map_nil, List.replicate, Nat.sub_zero, Nat.reduceSub, List.cons_append, List.nil_append, List.append_nil, List.mapM_cons, List.mapM_nil, Option.pure_def, Option.bind_eq_bind, Option.bind_some, List.any_cons, List.any_nil, id, Bool.or_false, Bool.not_true, Bool.not_false, if_true, if_false, Bool.false_eq_true, reduceIte, List.set_cons_zero, List.set_cons_succ, if_pos hz]
      congr 6 <;> omega
    · have d : decide (xs.getD c 0 = 0) = false := decide_eq_false hz
      simp only [bG, EW, ir, at0, at1, cut1, a_tp2t, i1, d, c_nei, o_add, o_sub, wd_skip_skip, wd_skip_again, wd_skip_stop, wd_skip_set, wd_skip_add, wd_skip_less, wd_again_skip, wd_again_again, wd_again_stop, wd_again_set, wd_again_add, wd_again_less, wd_stop_skip, wd_stop_again, wd_stop_stop, wd_stop_set, wd_stop_add, wd_stop_less, wd_set_skip, wd_set_again, wd_set_stop, wd_set_set, wd_set_add, wd_set_less, wd_add_skip, wd_add_again, wd_add_stop, wd_add_set, wd_add_add, wd_add_less, wd_less_skip, wd_less_again, wd_less_stop, wd_less_set, wd_less_add, wd_less_less, x_cst, x_var, x_tup, x_lst, x_bin, x_neg, x_not, x_cmp, x_cmp2, x_and1, x_and, x_or1, x_or, x_ite, x_idx, x_slc, x_call, x_blt, x_met, x_fld, x_mth, x_mk, y_fset, y_faug, x_isi, x_nil, x_cons, x_c0, x_c1, x_p0, x_p1, y_nil, y_cons, y_set, y_rtn, y_ite, y_exp, decide_true, w_ok, q_nxt, q_rtn, b_rtn, t_bl, r_ret, a_nm, c_lt, c_le, c_gt, c_ge, c_eqi, c_eqs, c_nes, c_eq0, c_ne0, c_in2, z0, z1, z2, z3, z4, z5, z6, z7, z8, c_les, b_list, l_lay, b_lent, i_tup, bind_ok, List.getElem?_cons_zero, List.getElem?_cons_succ, List.map_cons, List.map_nil, List.replicate, Nat.sub_zero, Nat.reduceSub, List.cons_append, List.nil_append, List.append_nil, List.mapM_cons, List.mapM_nil, Option.pure_def, Option.bind_eq_bind, Option.bind_some, List.any_cons, List.any_nil, id, Bool.or_false, Bool.not_true, Bool.not_false, if_true, if_false, Bool.false_eq_true, reduceIte, List.set_cons_zero, List.set_cons_succ, if_neg hz]
      rw [show (n : Int) - (m : Int) = ((n - m : Nat) : Int) by omega]
  | set c i =>
    refine ⟨some (.int ((n : Int) + 1)), some (.str "set"), some (.tup [ltW c, .int i]), s.set B (.dct (bx (xs.set c i))), ?_, get_set hl, Fr.set (by simp)⟩
    have sv := sb i hok.1
    simp only [Row.enc, Row.go] at *
    have ha : ∀ (x y : Option W), asg (ph ds k) (.sub (.var 4) (.idx (.var 9) (.cst (.int 0)))) (.int i) [some (.loc r), x1, x2, lf, some (.loc B), some (.int (n : Int)), some (.loc F), x, y, some (.tup [ltW c, .int i])] s = .ok [some (.loc r), x1, x2, lf, some (.loc B), some (.int (n : Int)), some (.loc F), x, y, some (.tup [ltW c, .int i])] (s.set B (.dct (bx (xs.set c i)))) := fun x y =>
      a_sub (ow := .loc B) (iw := ltW c) (by simp only [x_cst, x_var, x_tup, x_lst, x_bin, x_neg, x_not, x_cmp, x_cmp2, x_and1, x_and, x_or1, x_or, x_ite, x_idx, x_slc, x_call, x_blt, x_met, x_fld, x_mth, x_mk, y_fset, y_faug, x_isi, x_nil, x_cons, x_c0, x_c1, x_p0, x_p1, y_nil, y_cons, y_set, y_rtn, y_ite, y_exp, decide_true, w_ok, q_nxt, q_rtn, b_rtn, t_bl, r_ret, a_nm, c_lt, c_le, c_gt, c_ge, c_eqi, c_eqs, c_nes, c_eq0, c_ne0, c_in2, z0, z1, z2, z3, z4, z5, z6, z7, z8, c_les, b_list, l_lay, b_lent, i_tup, bind_ok, List.getElem?_cons_zero, List.getElem?_cons_succ, List.map_cons, List.map_nil, List.replicate, Nat.sub_zero, Nat.reduceSub, List.cons_append, List.nil_append, List.append_nil, List.mapM_cons, List.mapM_nil, Option.pure_def, Option.bind_eq_bind, Option.bind_some, List.any_cons, List.any_nil, id, Bool.or_false, Bool.not_true, Bool.not_false, if_true, if_false, Bool.false_eq_true, reduceIte, List.set_cons_zero, List.set_cons_succ]) (by simp only [at0, x_cst, x_var, x_tup, x_lst, x_bin, x_neg, x_not, x_cmp, x_cmp2, x_and1, x_and, x_or1, x_or, x_ite, x_idx, x_slc, x_call, x_blt, x_met, x_fld, x_mth, x_mk, y_fset, y_faug, x_isi, x_nil, x_cons, x_c0, x_c1, x_p0, x_p1, y_nil, y_cons, y_set, y_rtn, y_ite, y_exp, decide_true, w_ok, q_nxt, q_rtn, b_rtn, t_bl, r_ret, a_nm, c_lt, c_le, c_gt, c_ge, c_eqi, c_eqs, c_nes, c_eq0, c_ne0, c_in2, z0, z1, z2, z3, z4, z5, z6, z7, z8, c_les, b_list, l_lay, b_lent, i_tup, bind_ok, List.getElem?_cons_zero, List.getElem?_cons_succ, List.map_cons, List.map_nil, List.replicate, Nat.sub_zero, Nat.reduceSub, List.cons_append, List.nil_append, List.append_nil, List.mapM_cons, List.mapM_nil, Option.pure_def, Option.bind_eq_bind, Option.bind_some, List.any_cons, List.any_nil, id, Bool.or_false, Bool.not_true, Bool.not_false, if_true, if_false, Bool.false_eq_true, reduceIte, List.set_cons_zero, List.set_cons_succ]) sv
    simp only [bG, EW, ir, at0, at1, cut1, a_tp2t, ha, o_add, wd_skip_skip, wd_skip_again, wd_skip_stop, wd_skip_set, wd_skip_add, wd_skip_less, wd_again_skip, wd_again_again, wd_again_stop, wd_again_set, wd_again_add, wd_again_less, wd_stop_skip, wd_stop_again, wd_stop_stop, wd_stop_set, wd_stop_add, wd_stop_less, wd_set_skip, wd_set_again, wd_set_stop, wd_set_set, wd_set_add, wd_set_less, wd_add_skip, wd_add_again, wd_add_stop, wd_add_set, wd_add_add, wd_add_less, wd_less_skip, wd_less_again, wd_less_stop, wd_less_set, wd_less_add, wd_less_less, x_cst, x_var, x_tup, x_lst, x_bin, x_neg, x_not, x_cmp, x_cmp2, x_and1, x_and, x_or1, x_or, x_ite, x_idx, x_slc, x_call, x_blt, x_met, x_fld, x_mth, x_mk, y_fset, y_faug, x_isi, x_nil, x_cons, x_c0, x_c1, x_p0, x_p1, y_nil, y_cons, y_set, y_rtn, y_ite, y_exp, decide_true, w_ok, q_nxt, q_rtn, b_rtn, t_bl, r_ret, a_nm, c_lt, c_le, c_gt, c_ge, c_eqi, c_eqs, c_nes, c_eq0, c_ne0, c_in2, z0, z1, z2, z3, z4, z5, z6, z7, z8, c_les, b_list, l_lay, b_lent, i_tup, bind_ok, List.getElem?_cons_zero, List.getElem?_cons_succ, List.map_cons, List.map_nil, List.replicate, Nat.sub_zero, Nat.reduceSub, List.cons_append, List.nil_append, List.append_nil, List.mapM_cons, List.mapM_nil, Option.pure_def, Option.bind_eq_bind, Option.bind_some, List.any_cons, List.any_nil, id, Bool.or_false, Bool.not_true, Bool.not_false, if_true, if_false, Bool.false_eq_true, reduceIte, List.set_cons_zero, List.set_cons_succ]
    congr 6 <;> omega
  | add c d =>
    refine ⟨some (.int ((n : Int) + 1)), some (.str "add"), some (.tup [ltW c, ltW d]), s.set B (.dct (bx (xs.set c (xs.getD c 0 + xs.getD d 0)))), ?_, get_set hl, Fr.set (by simp)⟩
    have i1 := ib hok.1
    have i2 := ib hok.2
    have sv := sb (xs.getD c 0 + xs.getD d 0) hok.1
    simp only [Row.enc, Row.go] at *
    have ha : ∀ (x y : Option W), asg (ph ds k) (.sub (.var 4) (.idx (.var 9) (.cst (.int 0)))) (.int (xs.getD c 0 + xs.getD d 0)) [some (.loc r), x1, x2, lf, some (.loc B), some (.int (n : Int)), some (.loc F), x, y, some (.tup [ltW c, ltW d])] s = .ok [some (.loc r), x1, x2, lf, some (.loc B), some (.int (n : Int)), some (.loc F), x, y, some (.tup [ltW c, ltW d])] (s.set B (.dct (bx (xs.set c (xs.getD c 0 + xs.getD d 0))))) := fun x y =>
      a_sub (ow := .loc B) (iw := ltW c) (by simp only [x_cst, x_var, x_tup, x_lst, x_bin, x_neg, x_not, x_cmp, x_cmp2, x_and1, x_and, x_or1, x_or, x_ite, x_idx, x_slc, x_call, x_blt, x_met, x_fld, x_mth, x_mk, y_fset, y_faug, x_isi, x_nil, x_cons, x_c0, x_c1, x_p0, x_p1, y_nil, y_cons, y_set, y_rtn, y_ite, y_exp, decide_true, w_ok, q_nxt, q_rtn, b_rtn, t_bl, r_ret, a_nm, c_lt, c_le, c_gt, c_ge, c_eqi, c_eqs, c_nes, c_eq0, c_ne0, c_in2, z0, z1, z2, z3, z4, z5, z6, z7, z8, c_les, b_list, l_lay, b_lent, i_tup, bind_ok, List.getElem?_cons_zero, List.getElem?_cons_succ, List.map_cons, List.map_nil, List.replicate, Nat.sub_zero, Nat.reduceSub, List.cons_append, List.nil_append, List.append_nil, List.mapM_cons, List.mapM_nil, Option.pure_def, Option.bind_eq_bind, Option.bind_some, List.any_cons, List.any_nil, id, Bool.or_false, Bool.not_true, Bool.not_false, if_true, if_false, Bool.false_eq_true, reduceIte, List.set_cons_zero, List.set_cons_succ]) (by simp only [at0, x_cst, x_var, x_tup, x_lst, x_bin, x_neg, x_not, x_cmp, x_cmp2, x_and1, x_and, x_or1, x_or, x_ite, x_idx, x_slc, x_call, x_blt, x_met, x_fld, x_mth, x_mk, y_fset, y_faug, x_isi, x_nil, x_cons, x_c0, x_c1, x_p0, x_p1, y_nil, y_cons, y_set, y_rtn, y_ite, y_exp, decide_true, w_ok, q_nxt, q_rtn, b_rtn, t_bl, r_ret, a_nm, c_lt, c_le, c_gt, c_ge, c_eqi, c_eqs, c_nes, c_eq0, c_ne0, c_in2, z0, z1, z2, z3, z4, z5, z6, z7, z8, c_les, b_list, l_lay, b_lent, i_tup, bind_ok, List.getElem?_cons_zero, List.getElem?_cons_succ, List.map_cons, List.map_nil, List.replicate, Nat.sub_zero, Nat.reduceSub, List.cons_append, List.nil_append, List.append_nil, List.mapM_cons, List.mapM_nil, Option.pure_def, Option.bind_eq_bind, Option.bind_some, List.any_cons, List.any_nil, id, Bool.or_false, Bool.not_true, Bool.not_false, if_true, if_false, Bool.false_eq_true, reduceIte, List.set_cons_zero, List.set_cons_succ]) sv
    simp only [bG, EW, ir, at0, at1, cut1, a_tp2t, i1, i2, ha, o_add, wd_skip_skip, wd_skip_again, wd_skip_stop, wd_skip_set, wd_skip_add, wd_skip_less, wd_again_skip, wd_again_again, wd_again_stop, wd_again_set, wd_again_add, wd_again_less, wd_stop_skip, wd_stop_again, wd_stop_stop, wd_stop_set, wd_stop_add, wd_stop_less, wd_set_skip, wd_set_again, wd_set_stop, wd_set_set, wd_set_add, wd_set_less, wd_add_skip, wd_add_again, wd_add_stop, wd_add_set, wd_add_add, wd_add_less, wd_less_skip, wd_less_again, wd_less_stop, wd_less_set, wd_less_add, wd_less_less, x_cst, x_var, x_tup, x_lst, x_bin, x_neg, x_not, x_cmp, x_cmp2, x_and1, x_and, x_or1, x_or, x_ite, x_idx, x_slc, x_call, x_blt, x_met, x_fld, x_mth, x_mk, y_fset, y_faug, x_isi, x_nil, x_cons, x_c0, x_c1, x_p0, x_p1, y_nil, y_cons, y_set, y_rtn, y_ite, y_exp, decide_true, w_ok, q_nxt, q_rtn, b_rtn, t_bl, r_ret, a_nm, c_lt, c_le, c_gt, c_ge, c_eqi, c_eqs, c_nes, c_eq0, c_ne0, c_in2, z0, z1, z2, z3, z4, z5, z6, z7, z8, c_les, b_list, l_lay, b_lent, i_tup, bind_ok, List.getElem?_cons_zero, List.getElem?_cons_succ, List.map_cons, List.map_nil, List.replicate, Nat.sub_zero, Nat.reduceSub, List.cons_append, List.nil_append, List.append_nil, List.mapM_cons, List.mapM_nil, Option.pure_def, Option.bind_eq_bind, Option.bind_some, List.any_cons, List.any_nil, id, Bool.or_false, Bool.not_true, Bool.not_false, if_true, if_false, Bool.false_eq_true, reduceIte, List.set_cons_zero, List.set_cons_succ]
    congr 6 <;> omega
  | less c d =>
    refine ⟨some (.int ((n : Int) + 1)), some (.str "less"), some (.tup [ltW c, ltW d]), s.set B (.dct (bx (xs.set c (xs.getD c 0 - xs.getD d 0)))), ?_, get_set hl, Fr.set (by simp)⟩
    have i1 := ib hok.1
    have i2 := ib hok.2
    have sv := sb (xs.getD c 0 - xs.getD d 0) hok.1
    simp only [Row.enc, Row.go] at *
    have ha : ∀ (x y : Option W), asg (ph ds k) (.sub (.var 4) (.idx (.var 9) (.cst (.int 0)))) (.int (xs.getD c 0 - xs.getD d 0)) [some (.loc r), x1, x2, lf, some (.loc B), some (.int (n : Int)), some (.loc F), x, y, some (.tup [ltW c, ltW d])] s = .ok [some (.loc r), x1, x2, lf, some (.loc B), some (.int (n : Int)), some (.loc F), x, y, some (.tup [ltW c, ltW d])] (s.set B (.dct (bx (xs.set c (xs.getD c 0 - xs.getD d 0))))) := fun x y =>
      a_sub (ow := .loc B) (iw := ltW c) (by simp only [x_cst, x_var, x_tup, x_lst, x_bin, x_neg, x_not, x_cmp, x_cmp2, x_and1, x_and, x_or1, x_or, x_ite, x_idx, x_slc, x_call, x_blt, x_met, x_fld, x_mth, x_mk, y_fset, y_faug, x_isi, x_nil, x_cons, x_c0, x_c1, x_p0, x_p1, y_nil, y_cons, y_set, y_rtn, y_ite, y_exp, decide_true, w_ok, q_nxt, q_rtn, b_rtn, t_bl, r_ret, a_nm, c_lt, c_le, c_gt, c_ge, c_eqi, c_eqs, c_nes, c_eq0, c_ne0, c_in2, z0, z1, z2, z3, z4, z5, z6, z7, z8, c_les, b_list, l_lay, b_lent, i_tup, bind_ok, List.getElem?_cons_zero, List.getElem?_cons_succ, List.map_cons, List.map_nil, List.replicate, Nat.sub_zero, Nat.reduceSub, List.cons_append, List.nil_append, List.append_nil, List.mapM_cons, List.mapM_nil, Option.pure_def, Option.bind_eq_bind, Option.bind_some, List.any_cons, List.any_nil, id, Bool.or_false, Bool.not_true, Bool.not_false, if_true, if_false, Bool.false_eq_true, reduceIte, List.set_cons_zero, List.set_cons_succ]) (by simp only [at0, x_cst, x_var, x_tup, x_lst, x_bin, x_neg, x_not, x_cmp, x_cmp2, x_and1, x_and, x_or1, x_or, x_ite, x_idx, x_slc, x_call, x_blt, x_met, x_fld, x_mth, x_mk, y_fset, y_faug, x_isi, x_nil, x_cons, x_c0, x_c1, x_p0, x_p1, y_nil, y_cons, y_set, y_rtn, y_ite, y_exp, decide_true, w_ok, q_nxt, q_rtn, b_rtn, t_bl, r_ret, a_nm, c_lt, c_le, c_gt, c_ge, c_eqi, c_eqs, c_nes, c_eq0, c_ne0, c_in2, z0, z1, z2, z3, z4, z5, z6, z7, z8, c_les, b_list, l_lay, b_lent, i_tup, bind_ok, List.getElem?_cons_zero, List.getElem?_cons_succ, List.map_cons, List.map_nil, List.replicate, Nat.sub_zero, Nat.reduceSub, List.cons_append, List.nil_append, List.append_nil, List.mapM_cons, List.mapM_nil, Option.pure_def, Option.bind_eq_bind, Option.bind_some, List.any_cons, List.any_nil, id, Bool.or_false, Bool.not_true, Bool.not_false, if_true, if_false, Bool.false_eq_true, reduceIte, List.set_cons_zero, List.set_cons_succ]) sv
    simp only [bG, EW, ir, at0, at1, cut1, a_tp2t, i1, i2, ha, o_add, o_sub, wd_skip_skip, wd_skip_again, wd_skip_stop, wd_skip_set, wd_skip_add, wd_skip_less, wd_again_skip, wd_again_again, wd_again_stop, wd_again_set, wd_again_add, wd_again_less, wd_stop_skip, wd_stop_again, wd_stop_stop, wd_stop_set, wd_stop_add, wd_stop_less, wd_set_skip, wd_set_again, wd_set_stop, wd_set_set, wd_set_add, wd_set_less, wd_add_skip, wd_add_again, wd_add_stop, wd_add_set, wd_add_add, wd_add_less, wd_less_skip, wd_less_again, wd_less_stop, wd_less_set, wd_less_add, wd_less_less, x_cst, x_var, x_tup, x_lst, x_bin, x_neg, x_not, x_cmp, x_cmp2, x_and1, x_and, x_or1, x_or, x_ite, x_idx, x_slc, x_call, x_blt, x_met, x_fld, x_mth, x_mk, y_fset, y_faug, x_isi, x_nil, x_cons, x_c0, x_c1, x_p0, x_p1, y_nil, y_cons, y_set, y_rtn, y_ite, y_exp, decide_true, w_ok, q_nxt, q_rtn, b_rtn, t_bl, r_ret, a_nm, c_lt, c_le, c_gt, c_ge, c_eqi, c_eqs, c_nes, c_eq0, c_ne0, c_in2, z0, z1, z2, z3, z4, z5, z6, z7, z8, c_les, b_list, l_lay, b_lent, i_tup, bind_ok, List.getElem?_cons_zero, List.getElem?_cons_succ, List.map_cons, List.map_nil, List.replicate, Nat.sub_zero, Nat.reduceSub, List.cons_append, List.nil_append, List.append_nil, List.mapM_cons, List.mapM_nil, Option.pure_def, Option.bind_eq_bind, Option.bind_some, List.any_cons, List.any_nil, id, Bool.or_false, Bool.not_true, Bool.not_false, if_true, if_false, Bool.false_eq_true, reduceIte, List.set_cons_zero, List.set_cons_succ]
    congr 6 <;> omega
/-- what the law's list tells of a moment -/
def Due (s : Sto) (q : Nat × Nat × List Int) (w : W) : Prop := ∃ d, w = .tup [.int (q.1 : Int), .int (q.2.1 : Int), .loc d] ∧ s[d]? = some (.dct (bx q.2.2))
/-- all moments, from here on -/
def trace (rows : List Row) : Nat → Nat → List Int → List (Nat × Nat × List Int)
  | 0, n, xs => [(n, 0, xs)]
  | l + 1, n, xs => (n, l + 1, xs) :: (match rows[n]? with
    | some q => trace rows l (q.go rows.length n xs).1 (q.go rows.length n xs).2
    | none => [])
/-- the things that are told of lie beside B and F -/
def DueX (X : List Nat) (s : Sto) (q : Nat × Nat × List Int) (w : W) : Prop := ∃ d, w = .tup [.int (q.1 : Int), .int (q.2.1 : Int), .loc d] ∧ s[d]? = some (.dct (bx q.2.2)) ∧ d ∉ X
theorem DueX.fr {X : List Nat} {s s' : Sto} {q : Nat × Nat × List Int} {w : W} (h : DueX X s q w) (f : Fr X s s') : DueX X s' q w := by
  obtain ⟨d, e, h1, h2⟩ := h
  exact ⟨d, e, f.2 _ _ h2 h1, h2⟩
/-- one turn's first half -/
theorem walk_app {l : Nat} {acc : List W} (hB : s[B]? = some (.dct (bx xs))) (hF : s[F]? = some (.lst acc)) (ha : acc.length < 1000) :
    exec (ph ds k) NN ψ0 bW[0] (EW r B F x1 x2 (some (.int (l : Int))) ah wd pt n) s = .ok .nxt (EW r B F x1 x2 (some (.int (l : Int))) ah wd pt n) ((s ++ [SO.dct (bx xs)]).set F (.lst (acc ++ [.tup [.int (n : Int), .int (l : Int), .loc s.length]]))) := by
  have e1 := b_dictc hB
  have e2 := m_append (w := .tup [.int (n : Int), .int (l : Int), .loc s.length]) (get_app (t := [SO.dct (bx xs)]) hF) (Nat.lt_trans ha (by decide))
  have e3 := ok_app hF
  simp only [bW, EW, List.getElem_cons_zero, e1, e2, e3, x_cst, x_var, x_tup, x_lst, x_bin, x_neg, x_not, x_cmp, x_cmp2, x_and1, x_and, x_or1, x_or, x_ite, x_idx, x_slc, x_call, x_blt, x_met, x_fld, x_mth, x_mk, y_fset, y_faug, x_isi, x_nil, x_cons, x_c0, x_c1, x_p0, x_p1, y_nil, y_cons, y_set, y_rtn, y_ite, y_exp, decide_true, w_ok, q_nxt, q_rtn, b_rtn, t_bl, r_ret, a_nm, c_lt, c_le, c_gt, c_ge, c_eqi, c_eqs, c_nes, c_eq0, c_ne0, c_in2, z0, z1, z2, z3, z4, z5, z6, z7, z8, c_les, b_list, l_lay, b_lent, i_tup, bind_ok, List.getElem?_cons_zero, List.getElem?_cons_succ, List.map_cons, List.map_nil, List.replicate, Nat.sub_zero, Nat.reduceSub, List.cons_append, List.nil_append, List.append_nil, List.mapM_cons, List.mapM_nil, Option.pure_def, Option.bind_eq_bind, Option.bind_some, List.any_cons, List.any_nil, id, Bool.or_false, Bool.not_true, Bool.not_false, if_true, if_false, Bool.false_eq_true, reduceIte, List.set_cons_zero, List.set_cons_succ]
end
end K52

namespace K52
open PySem hiding Env exec execs
open L2 Mi MiL MiT
theorem bW_eq : bW = [bW[0], .ite (.cmp .lt (.var 5) (.blt .len [(.var 0)])) bG [(.rtn (.var 6))]] := rfl
section
variable {k r B F n : Nat} {s : Sto} {rows : List Row} {xs : List Int} {x1 x2 lf ah wd pt : Option W}
theorem turn_end {l : Nat} {acc : List W} (hr : s[r]? = some (.lst (rows.map Row.enc))) (hB : s[B]? = some (.dct (bx xs))) (hF : s[F]? = some (.lst acc)) (ha : acc.length < 1000) (hrF : r ≠ F) (hn : n = rows.length) :
    execs (ph ds k) NN ψ0 bW (EW r B F x1 x2 (some (.int (l : Int))) ah wd pt n) s = .ok (.rtn (.loc F)) (EW r B F x1 x2 (some (.int (l : Int))) ah wd pt n) ((s ++ [SO.dct (bx xs)]).set F (.lst (acc ++ [.tup [.int (n : Int), .int (l : Int), .loc s.length]]))) := by
  have h1 := walk_app (k := k) (r := r) (x1 := x1) (x2 := x2) (ah := ah) (wd := wd) (pt := pt) (n := n) (l := l) hB hF ha
  have hr1 : ((s ++ [SO.dct (bx xs)]).set F (.lst (acc ++ [.tup [.int (n : Int), .int (l : Int), .loc s.length]])))[r]? = some (.lst (rows.map Row.enc)) := by rw [get_ne hrF]; exact get_app hr
  have e1 := b_lenl _ _ _ hr1
  rw [List.length_map] at e1
  have d : decide ((n : Int) < (rows.length : Int)) = false := decide_eq_false (by omega)
  rw [bW_eq, y_cons, h1, q_nxt]
  simp only [EW, e1, d, x_cst, x_var, x_tup, x_lst, x_bin, x_neg, x_not, x_cmp, x_cmp2, x_and1, x_and, x_or1, x_or, x_ite, x_idx, x_slc, x_call, x_blt, x_met, x_fld, x_mth, x_mk, y_fset, y_faug, x_isi, x_nil, x_cons, x_c0, x_c1, x_p0, x_p1, y_nil, y_cons, y_set, y_rtn, y_ite, y_exp, decide_true, w_ok, q_nxt, q_rtn, b_rtn, t_bl, r_ret, a_nm, c_lt, c_le, c_gt, c_ge, c_eqi, c_eqs, c_nes, c_eq0, c_ne0, c_in2, z0, z1, z2, z3, z4, z5, z6, z7, z8, c_les, b_list, l_lay, b_lent, i_tup, bind_ok, List.getElem?_cons_zero, List.getElem?_cons_succ, List.map_cons, List.map_nil, List.replicate, Nat.sub_zero, Nat.reduceSub, List.cons_append, List.nil_append, List.append_nil, List.mapM_cons, List.mapM_nil, Option.pure_def, Option.bind_eq_bind, Option.bind_some, List.any_cons, List.any_nil, id, Bool.or_false, Bool.not_true, Bool.not_false, if_true, if_false, Bool.false_eq_true, reduceIte, List.set_cons_zero, List.set_cons_succ]
theorem turn_go {l : Nat} {acc : List W} (hr : s[r]? = some (.lst (rows.map Row.enc))) (hB : s[B]? = some (.dct (bx xs))) (hF : s[F]? = some (.lst acc)) (ha : acc.length < 1000) (hrF : r ≠ F) (hBF : B ≠ F) (hx : xs.length = 6) {q : Row} (hq : rows[n]? = some q) (hok : q.ok rows.length n) (hm : rows.length ≤ 1000) :
    ∃ ah' wd' pt' s', execs (ph ds k) NN ψ0 bW (EW r B F x1 x2 (some (.int (l : Int))) ah wd pt n) s = .ok .nxt (EW r B F x1 x2 (some (.int (l : Int))) ah' wd' pt' (q.go rows.length n xs).1) s' ∧
      s'[B]? = some (.dct (bx (q.go rows.length n xs).2)) ∧ Fr [B] ((s ++ [SO.dct (bx xs)]).set F (.lst (acc ++ [.tup [.int (n : Int), .int (l : Int), .loc s.length]]))) s' := by
  have h1 := walk_app (k := k) (r := r) (x1 := x1) (x2 := x2) (ah := ah) (wd := wd) (pt := pt) (n := n) (l := l) hB hF ha
  have hr1 : ((s ++ [SO.dct (bx xs)]).set F (.lst (acc ++ [.tup [.int (n : Int), .int (l : Int), .loc s.length]])))[r]? = some (.lst (rows.map Row.enc)) := by rw [get_ne hrF]; exact get_app hr
  have hB1 : ((s ++ [SO.dct (bx xs)]).set F (.lst (acc ++ [.tup [.int (n : Int), .int (l : Int), .loc s.length]])))[B]? = some (.dct (bx xs)) := by rw [get_ne hBF]; exact get_app hB
  obtain ⟨ah', wd', pt', s', e, e2, f⟩ := law_go (k := k) (F := F) (x1 := x1) (x2 := x2) (lf := some (.int (l : Int))) (ah0 := ah) (wd0 := wd) (pt0 := pt) hr1 hB1 hx hq hok hm
  have e1 := b_lenl _ _ _ hr1
  rw [List.length_map] at e1
  have hn := (List.getElem?_eq_some_iff.mp hq).1
  have d : decide ((n : Int) < (rows.length : Int)) = true := decide_eq_true (by omega)
  refine ⟨ah', wd', pt', s', ?_, e2, f⟩
  rw [bW_eq, y_cons, h1, q_nxt, y_cons, y_ite]
  have et : ((den (ph ds k) (.cmp .lt (.var 5) (.blt .len [(.var 0)])) (EW r B F x1 x2 (some (.int (l : Int))) ah wd pt n) ((s ++ [SO.dct (bx xs)]).set F (.lst (acc ++ [.tup [.int (n : Int), .int (l : Int), .loc s.length]])))).bind fun x => tru x) = .ok true ((s ++ [SO.dct (bx xs)]).set F (.lst (acc ++ [.tup [.int (n : Int), .int (l : Int), .loc s.length]]))) := by
    simp only [EW, e1, d, x_cst, x_var, x_tup, x_lst, x_bin, x_neg, x_not, x_cmp, x_cmp2, x_and1, x_and, x_or1, x_or, x_ite, x_idx, x_slc, x_call, x_blt, x_met, x_fld, x_mth, x_mk, y_fset, y_faug, x_isi, x_nil, x_cons, x_c0, x_c1, x_p0, x_p1, y_nil, y_cons, y_set, y_rtn, y_ite, y_exp, decide_true, w_ok, q_nxt, q_rtn, b_rtn, t_bl, r_ret, a_nm, c_lt, c_le, c_gt, c_ge, c_eqi, c_eqs, c_nes, c_eq0, c_ne0, c_in2, z0, z1, z2, z3, z4, z5, z6, z7, z8, c_les, b_list, l_lay, b_lent, i_tup, bind_ok, List.getElem?_cons_zero, List.getElem?_cons_succ, List.map_cons, List.map_nil, List.replicate, Nat.sub_zero, Nat.reduceSub, List.cons_append, List.nil_append, List.append_nil, List.mapM_cons, List.mapM_nil, Option.pure_def, Option.bind_eq_bind, Option.bind_some, List.any_cons, List.any_nil, id, Bool.or_false, Bool.not_true, Bool.not_false, if_true, if_false, Bool.false_eq_true, reduceIte, List.set_cons_zero, List.set_cons_succ]
  rw [et, w_ok, if_pos rfl, e, q_nxt, y_nil]
end
/-- the counts, from l down to 0 -/
def down : Nat → List W
  | 0 => [.int 0]
  | l + 1 => .int ((l + 1 : Nat) : Int) :: down l
theorem down_eq : ∀ l : Nat, ((List.range (l + 1)).map fun k : Nat => W.int (((l + 1 : Nat) : Int) - 1 - (k : Int))) = down l
  | 0 => rfl
  | l + 1 => by
    rw [List.range_succ_eq_map, List.map_cons, List.map_map]
    show _ = W.int ((l + 1 : Nat) : Int) :: down l
    rw [← down_eq l]
    congr 1
    · congr 1; omega
    · apply List.map_congr_left
      intro a _
      simp only [Function.comp]
      congr 1; omega
theorem down_len : ∀ l : Nat, (down l).length = l + 1
  | 0 => rfl
  | l + 1 => by simp [down, down_len l]
theorem trace_len : ∀ (rows : List Row) (l n : Nat) (xs : List Int), (trace rows l n xs).length ≤ l + 1
  | _, 0, _, _ => Nat.le_refl _
  | rows, l + 1, n, xs => by
    unfold trace
    split
    · have := trace_len rows l; simp only [List.length_cons]; have := this (Row.go rows.length n xs ‹_›).1 (Row.go rows.length n xs ‹_›).2; omega
    · simp
theorem walk_ind {k r B F : Nat} {rows : List Row} {x1 x2 : Option W} (hrB : r ≠ B) (hrF : r ≠ F) (hBF : B ≠ F) (hrows : ∀ (i : Nat) (q : Row), rows[i]? = some q → q.ok rows.length i) (hm : rows.length ≤ 1000) :
    ∀ (l n : Nat) (xs : List Int) (acc : List W) (qs : List (Nat × Nat × List Int)) (s : Sto) (lf ah wd pt : Option W), s[r]? = some (.lst (rows.map Row.enc)) → s[B]? = some (.dct (bx xs)) → s[F]? = some (.lst acc) → xs.length = 6 → n ≤ rows.length → acc.length + l + 1 ≤ 900 → All2 (DueX [B, F] s) qs acc →
    ∃ ρ s' fl acc', forGo (fun w ρ => asg (ph ds k) (.nm 3) w ρ) (fun ρ s => execs (ph ds k) NN ψ0 bW ρ s) (fun s => stays s []) (down l) (EW r B F x1 x2 lf ah wd pt n) s = .ok fl ρ s' ∧ ((fl = .nxt ∧ ρ[6]? = some (some (.loc F))) ∨ fl = .rtn (.loc F)) ∧
      s'[F]? = some (.lst acc') ∧ All2 (DueX [B, F] s') (qs ++ trace rows l n xs) acc' ∧ Fr [B, F] s s' := by
  intro l
  induction l with
  | zero =>
    intro n xs acc qs s lf ah wd pt hr hB hF hx hn ha hq
    have hc : stays s [] = true := rfl
    have hlF := get_lt hF
    have st0 : Fr [B, F] s ((s ++ [SO.dct (bx xs)]).set F (.lst (acc ++ [.tup [.int (n : Int), .int ((0 : Nat) : Int), .loc s.length]]))) := (Fr.app _ s _).trans (Fr.set (by simp))
    have due : All2 (DueX [B, F] ((s ++ [SO.dct (bx xs)]).set F (.lst (acc ++ [.tup [.int (n : Int), .int ((0 : Nat) : Int), .loc s.length]])))) (qs ++ trace rows 0 n xs) (acc ++ [.tup [.int (n : Int), .int ((0 : Nat) : Int), .loc s.length]]) :=
      all2_app (hq.imp fun _ _ h => h.fr st0) ⟨⟨s.length, rfl, by rw [get_ne (by omega)]; exact get_end s _, by have := get_lt hB; simp; omega⟩, trivial⟩
    by_cases he : n = rows.length
    · have e := turn_end (k := k) (x1 := x1) (x2 := x2) (ah := ah) (wd := wd) (pt := pt) (l := 0) hr hB hF (by omega) hrF he
      refine ⟨EW r B F x1 x2 (some (.int ((0 : Nat) : Int))) ah wd pt n, _, .rtn (.loc F), _, ?_, .inr rfl, get_set (by simp; omega), due, st0⟩
      show forGo _ _ _ (W.int ((0 : Nat) : Int) :: []) _ s = _
      simp only [forGo, hc, if_true, a_nm, EW, List.set_cons_succ, List.set_cons_zero]
      rw [e]
    · obtain ⟨q, hqn⟩ : ∃ q, rows[n]? = some q := ⟨_, List.getElem?_eq_getElem (by omega)⟩
      obtain ⟨ah', wd', pt', s', e, eB, f⟩ := turn_go (k := k) (x1 := x1) (x2 := x2) (ah := ah) (wd := wd) (pt := pt) (l := 0) hr hB hF (by omega) hrF hBF hx hqn (hrows n q hqn) hm
      have f2 : Fr [B, F] ((s ++ [SO.dct (bx xs)]).set F (.lst (acc ++ [.tup [.int (n : Int), .int ((0 : Nat) : Int), .loc s.length]]))) s' := f.mono (by simp)
      refine ⟨EW r B F x1 x2 (some (.int ((0 : Nat) : Int))) ah' wd' pt' (q.go rows.length n xs).1, s', .nxt, _, ?_, .inl ⟨rfl, ?_⟩, f.2 _ _ (by simpa using Ne.symm hBF) (get_set (by simp; omega)), due.imp fun _ _ h => h.fr f2, st0.trans f2⟩
      · show forGo _ _ _ (W.int ((0 : Nat) : Int) :: []) _ s = _
        simp only [forGo, hc, if_true, a_nm, EW, List.set_cons_succ, List.set_cons_zero]
        rw [e]
        simp only [forGo]
        rw [if_pos (show stays s' [] = true from rfl)]
      · rfl
  | succ l ih =>
    intro n xs acc qs s lf ah wd pt hr hB hF hx hn ha hq
    have hc : stays s [] = true := rfl
    have hlF := get_lt hF
    have st0 : Fr [B, F] s ((s ++ [SO.dct (bx xs)]).set F (.lst (acc ++ [.tup [.int (n : Int), .int ((l + 1 : Nat) : Int), .loc s.length]]))) := (Fr.app _ s _).trans (Fr.set (by simp))
    have due : All2 (DueX [B, F] ((s ++ [SO.dct (bx xs)]).set F (.lst (acc ++ [.tup [.int (n : Int), .int ((l + 1 : Nat) : Int), .loc s.length]])))) (qs ++ [(n, l + 1, xs)]) (acc ++ [.tup [.int (n : Int), .int ((l + 1 : Nat) : Int), .loc s.length]]) :=
      all2_app (hq.imp fun _ _ h => h.fr st0) ⟨⟨s.length, rfl, by rw [get_ne (by omega)]; exact get_end s _, by have := get_lt hB; simp; omega⟩, trivial⟩
    by_cases he : n = rows.length
    · have e := turn_end (k := k) (x1 := x1) (x2 := x2) (ah := ah) (wd := wd) (pt := pt) (l := l + 1) hr hB hF (by omega) hrF he
      have et : trace rows (l + 1) n xs = [(n, l + 1, xs)] := by
        unfold trace
        rw [List.getElem?_eq_none (by omega)]
      rw [et]
      refine ⟨EW r B F x1 x2 (some (.int ((l + 1 : Nat) : Int))) ah wd pt n, _, .rtn (.loc F), _, ?_, .inr rfl, get_set (by simp; omega), due, st0⟩
      simp only [down, forGo, hc, if_true, a_nm, EW, List.set_cons_succ, List.set_cons_zero]
      rw [e]
    · obtain ⟨q, hqn⟩ : ∃ q, rows[n]? = some q := ⟨_, List.getElem?_eq_getElem (by omega)⟩
      obtain ⟨ah', wd', pt', s', e, eB, f⟩ := turn_go (k := k) (x1 := x1) (x2 := x2) (ah := ah) (wd := wd) (pt := pt) (l := l + 1) hr hB hF (by omega) hrF hBF hx hqn (hrows n q hqn) hm
      have f2 : Fr [B, F] ((s ++ [SO.dct (bx xs)]).set F (.lst (acc ++ [.tup [.int (n : Int), .int ((l + 1 : Nat) : Int), .loc s.length]]))) s' := f.mono (by simp)
      have f3 := st0.trans f2
      have hF' := f.2 _ _ (by simpa using Ne.symm hBF) (get_set (s := s ++ [SO.dct (bx xs)]) (l := F) (o := .lst (acc ++ [.tup [.int (n : Int), .int ((l + 1 : Nat) : Int), .loc s.length]])) (by simp; omega))
      obtain ⟨ρ, s2, fl, acc', g1, g2, g3, g4, g5⟩ := ih (q.go rows.length n xs).1 (q.go rows.length n xs).2 _ (qs ++ [(n, l + 1, xs)]) s' (some (.int ((l + 1 : Nat) : Int))) ah' wd' pt' (f3.2 _ _ (by simp [hrB, hrF]) hr) eB hF' (by rw [go_len]; exact hx) (go_le (hrows n q hqn) (by omega)) (by simp; omega) (due.imp fun _ _ h => h.fr f2)
      have et : trace rows (l + 1) n xs = (n, l + 1, xs) :: trace rows l (q.go rows.length n xs).1 (q.go rows.length n xs).2 := by
        conv => lhs; unfold trace
        rw [hqn]
      rw [et]
      refine ⟨ρ, s2, fl, acc', ?_, g2, g3, by rw [List.append_assoc] at g4; exact g4, f3.trans g5⟩
      simp only [down, forGo, hc, if_true, a_nm, EW, List.set_cons_succ, List.set_cons_zero]
      rw [e]
      exact g1
end K52

namespace K52
open PySem hiding Env exec execs
open L2 Mi MiL MiT
theorem d_6 (f : Int) (s : Sto) : dctOf [.str "a", .int f, .str "b", .int 0, .str "c", .int 0, .str "d", .int 0, .str "e", .int 0, .str "f", .int 0] s = .ok (.loc s.length) (s ++ [SO.dct (bx [f, 0, 0, 0, 0, 0])]) := by
  have e1 : pairUp [.str "a", .int f, .str "b", .int 0, .str "c", .int 0, .str "d", .int 0, .str "e", .int 0, .str "f", .int 0] = some [(W.str "a", W.int f), (.str "b", .int 0), (.str "c", .int 0), (.str "d", .int 0), (.str "e", .int 0), (.str "f", .int 0)] := rfl
  have e2 : decide ((([(W.str "a", W.int f), (.str "b", .int 0), (.str "c", .int 0), (.str "d", .int 0), (.str "e", .int 0), (.str "f", .int 0)] : List (W × W)).map (·.1)).Nodup) = true := by
    show decide (([W.str "a", .str "b", .str "c", .str "d", .str "e", .str "f"] : List W).Nodup) = true
    decide +kernel
  have e3 : ([(W.str "a", W.int f), (.str "b", .int 0), (.str "c", .int 0), (.str "d", .int 0), (.str "e", .int 0), (.str "f", .int 0)] : List (W × W)) = bx [f, 0, 0, 0, 0, 0] := rfl
  unfold dctOf
  rw [e1]
  dsimp only
  rw [if_pos (by rw [e2]; rfl)]
  rw [e3]
  rfl
theorem down_iter (l : Nat) (s : Sto) (h : l ≤ 900) : iter .rrng [.int ((l : Int) + 1)] s = .ok (down l, []) s := by
  have h0 : (-(2 ^ 62) : Int) ≤ 0 := by decide
  have h1 : (l : Int) + 1 ≤ ((SZ : Nat) : Int) ∧ -(2 ^ 62) ≤ (l : Int) + 1 := ⟨by simp only [SZ]; omega, by omega⟩
  have h2 : ((l : Int) + 1).toNat = l + 1 := by omega
  simp only [iter]
  rw [if_pos h1, h2, down_eq]
theorem walked_ok {k r : Nat} {s : Sto} {rows : List Row} (hr : s[r]? = some (.lst (rows.map Row.enc))) (hrows : ∀ (i : Nat) (q : Row), rows[i]? = some q → q.ok rows.length i) (hm : rows.length ≤ 1000) (first : Int) (air : Nat) (ha : air ≤ 800) :
    ∃ F s' acc, ph ds (k + 1) 18 [.loc r, .int first, .int (air : Int)] s = .ok (.loc F) s' ∧ s'[F]? = some (.lst acc) ∧ All2 (Due s') (trace rows air 0 [first, 0, 0, 0, 0, 0]) acc ∧ Fr [] s s' := by
  rw [call_eq (d := ⟨3, 10, b18⟩) rfl rfl]
  have hlr := get_lt hr
  have s0 : exec (ph ds k) NN ψ0 b18[0] [some (.loc r), some (.int first), some (.int (air : Int)), none, none, none, none, none, none, none] s = .ok .nxt (EW r s.length (s.length + 1) (some (.int first)) (some (.int (air : Int))) none none none none 0) (s ++ [SO.dct (bx [first, 0, 0, 0, 0, 0])] ++ [SO.lst []]) := by
    have el : (s ++ [SO.dct (bx [first, 0, 0, 0, 0, 0])]).length = s.length + 1 := by simp
    simp only [b18, List.getElem_cons_zero, x_dct, d_6, EW, x_cst, x_var, x_tup, x_lst, x_bin, x_neg, x_not, x_cmp, x_cmp2, x_and1, x_and, x_or1, x_or, x_ite, x_idx, x_slc, x_call, x_blt, x_met, x_fld, x_mth, x_mk, y_fset, y_faug, x_isi, x_nil, x_cons, x_c0, x_c1, x_p0, x_p1, y_nil, y_cons, y_set, y_rtn, y_ite, y_exp, decide_true, w_ok, q_nxt, q_rtn, b_rtn, t_bl, r_ret, a_nm, c_lt, c_le, c_gt, c_ge, c_eqi, c_eqs, c_nes, c_eq0, c_ne0, c_in2, z0, z1, z2, z3, z4, z5, z6, z7, z8, c_les, b_list, l_lay, b_lent, i_tup, bind_ok, List.getElem?_cons_zero, List.getElem?_cons_succ, List.map_cons, List.map_nil, List.replicate, Nat.sub_zero, Nat.reduceSub, List.cons_append, List.nil_append, List.append_nil, List.mapM_cons, List.mapM_nil, Option.pure_def, Option.bind_eq_bind, Option.bind_some, List.any_cons, List.any_nil, id, Bool.or_false, Bool.not_true, Bool.not_false, if_true, if_false, Bool.false_eq_true, reduceIte, List.set_cons_zero, List.set_cons_succ, z3]
    simp only [asg, asgs, isSeq, bnd, Mi.ret, List.length_cons, List.length_nil, if_true, bind_ok, el]
    rfl
  obtain ⟨ρ, s2, fl, acc, g1, g2, g3, g4, g5⟩ := walk_ind (k := k) (r := r) (B := s.length) (F := s.length + 1) (x1 := some (.int first)) (x2 := some (.int (air : Int))) (by omega) (by omega) (by omega) hrows hm air 0 [first, 0, 0, 0, 0, 0] [] [] (s ++ [SO.dct (bx [first, 0, 0, 0, 0, 0])] ++ [SO.lst []]) none none none none
    (get_app (get_app hr)) (get_end1 s _ _) (by simp) rfl (Nat.zero_le _) (by simp; omega) trivial
  have s1 : exec (ph ds k) NN ψ0 (.for (.nm 3) .rrng [(.bin .add (.var 2) (.cst (.int 1)))] bW) (EW r s.length (s.length + 1) (some (.int first)) (some (.int (air : Int))) none none none none 0) (s ++ [SO.dct (bx [first, 0, 0, 0, 0, 0])] ++ [SO.lst []]) = .ok fl ρ s2 := by
    rw [y_for]
    have hd : dens (ph ds k) [(.bin .add (.var 2) (.cst (.int 1)))] (EW r s.length (s.length + 1) (some (.int first)) (some (.int (air : Int))) none none none none 0) (s ++ [SO.dct (bx [first, 0, 0, 0, 0, 0])] ++ [SO.lst []]) = .ok [.int ((air : Int) + 1)] (s ++ [SO.dct (bx [first, 0, 0, 0, 0, 0])] ++ [SO.lst []]) := by
      simp only [EW, o_add, x_cst, x_var, x_tup, x_lst, x_bin, x_neg, x_not, x_cmp, x_cmp2, x_and1, x_and, x_or1, x_or, x_ite, x_idx, x_slc, x_call, x_blt, x_met, x_fld, x_mth, x_mk, y_fset, y_faug, x_isi, x_nil, x_cons, x_c0, x_c1, x_p0, x_p1, y_nil, y_cons, y_set, y_rtn, y_ite, y_exp, decide_true, w_ok, q_nxt, q_rtn, b_rtn, t_bl, r_ret, a_nm, c_lt, c_le, c_gt, c_ge, c_eqi, c_eqs, c_nes, c_eq0, c_ne0, c_in2, z0, z1, z2, z3, z4, z5, z6, z7, z8, c_les, b_list, l_lay, b_lent, i_tup, bind_ok, List.getElem?_cons_zero, List.getElem?_cons_succ, List.map_cons, List.map_nil, List.replicate, Nat.sub_zero, Nat.reduceSub, List.cons_append, List.nil_append, List.append_nil, List.mapM_cons, List.mapM_nil, Option.pure_def, Option.bind_eq_bind, Option.bind_some, List.any_cons, List.any_nil, id, Bool.or_false, Bool.not_true, Bool.not_false, if_true, if_false, Bool.false_eq_true, reduceIte, List.set_cons_zero, List.set_cons_succ]
    rw [hd, bind_ok, down_iter air _ (by omega), w_ok]
    exact g1
  have fin : bodyRes (execs (ph ds k) NN ψ0 b18 [some (.loc r), some (.int first), some (.int (air : Int)), none, none, none, none, none, none, none] s) = .ok (.loc (s.length + 1)) s2 := by
    rw [b18_eq, y_cons, s0, q_nxt, y_cons, s1]
    rcases g2 with ⟨rfl, g2⟩ | rfl
    · rw [q_nxt, y_cons]
      simp only [g2, x_cst, x_var, x_tup, x_lst, x_bin, x_neg, x_not, x_cmp, x_cmp2, x_and1, x_and, x_or1, x_or, x_ite, x_idx, x_slc, x_call, x_blt, x_met, x_fld, x_mth, x_mk, y_fset, y_faug, x_isi, x_nil, x_cons, x_c0, x_c1, x_p0, x_p1, y_nil, y_cons, y_set, y_rtn, y_ite, y_exp, decide_true, w_ok, q_nxt, q_rtn, b_rtn, t_bl, r_ret, a_nm, c_lt, c_le, c_gt, c_ge, c_eqi, c_eqs, c_nes, c_eq0, c_ne0, c_in2, z0, z1, z2, z3, z4, z5, z6, z7, z8, c_les, b_list, l_lay, b_lent, i_tup, bind_ok, List.getElem?_cons_zero, List.getElem?_cons_succ, List.map_cons, List.map_nil, List.replicate, Nat.sub_zero, Nat.reduceSub, List.cons_append, List.nil_append, List.append_nil, List.mapM_cons, List.mapM_nil, Option.pure_def, Option.bind_eq_bind, Option.bind_some, List.any_cons, List.any_nil, id, Bool.or_false, Bool.not_true, Bool.not_false, if_true, if_false, Bool.false_eq_true, reduceIte, List.set_cons_zero, List.set_cons_succ]
    · rfl
  have fr : Fr [] s s2 := ((Fr.app [] s _).trans (Fr.app [] _ _)).low g5 (by simp)
  refine ⟨s.length + 1, s2, acc, fin, g3, ?_, fr⟩
  rw [List.nil_append] at g4
  exact g4.imp fun q w ⟨d, e1, e2, _⟩ => ⟨d, e1, e2⟩
end K52

namespace K52
open PySem hiding Env exec execs
open L2 Mi MiL MiT
theorem a_tp3t (φ : Nat → List W → M W) (ρ : Env) (s : Sto) (i j l : Nat) (a b c : W) : asg φ (.tp [.nm i, .nm j, .nm l]) (.tup [a, b, c]) ρ s = .ok (((ρ.set i (some a)).set j (some b)).set l (some c)) s := by
  simp [asg, asgs, isSeq, bnd, Mi.ret]
theorem gv_bl {s : Sto} {n : Nat} (b : Bool) : GV s (n + 1) 140 (.bl b) := ⟨⟨Nat.le_refl _, by decide⟩, trivial⟩
theorem gv_non {s : Sto} {n : Nat} : GV s (n + 1) 140 .non := ⟨⟨Nat.le_refl _, by decide⟩, trivial⟩
theorem b19_eq : b19 = [b19[0], b19[1], b19[2], b19[3]] := rfl
theorem dec_self (x : Str) : decide (x = x) = true := decide_eq_true rfl
theorem stands_ok {k l b r n d : Nat} {s : Sto} {rows : List Row} {left : Nat} {xs : List Int} (h : Th s l b (rows.map Row.enc) n (left : Int) xs) (hr : s[r]? = some (.lst (rows.map Row.enc))) (hd : s[d]? = some (.dct (bx xs))) (hn : n ≤ rows.length)
    (hrows : ∀ (i : Nat) (q : Row), rows[i]? = some q → q.ok rows.length i) (hm : rows.length ≤ 1000) (hl : left ≤ 1000) (hx : ∀ x ∈ xs, Sm x) :
    ∃ s', ph ds (k + 3) 19 [.loc l, .loc r, .tup [.int (n : Int), .int (left : Int), .loc d]] s = .ok (.bl true) s' ∧ Fr [] s s' := by
  rw [call_eq (d := ⟨3, 7, b19⟩) rfl rfl]
  have sm : ∀ m : Nat, m ≤ 1000 → Sm (m : Int) := fun m h => by
    have : (1001 : Nat) ≤ 10 ^ 200 := by decide +kernel
    show m < 10 ^ 200
    omega
  obtain ⟨X, hX⟩ := text3 (a := (n : Int)) (b := (left : Int)) (xs := xs) (sm n (by omega)) (sm left hl) hx (by rw [h.len]; decide)
  have h1 := h.app [SO.dct (bx xs)]
  have m1 := h.mth1 (m := "at_row") (f := 26) (dd := []) (ord := [0]) rfl
  have m2 := h.mth1 (m := "breath") (f := 29) (dd := []) (ord := [0]) rfl
  have m3 := h.mth1 (m := "boxes") (f := 30) (dd := []) (ord := [0]) rfl
  have m4 := h1.mth1 (m := "coming") (f := 28) (dd := []) (ord := [0]) rfl
  have m5 := h1.mth1 (m := "is_over") (f := 27) (dd := []) (ord := [0]) rfl
  have t1 := hX (s ++ [SO.dct (bx xs)]) s.length (get_end s _)
  have t2 := hX (s ++ [SO.dct (bx xs)]) d (get_app hd)
  have hr1 : (s ++ [SO.dct (bx xs)])[r]? = some (.lst (rows.map Row.enc)) := get_app hr
  have lr := b_lenl _ _ _ hr1
  rw [List.length_map] at lr
  have io := is_over (k := k + 1) h1
  rw [List.length_map] at io
  have s0 : exec (ph ds (k + 2)) NN ψ0 b19[0] [some (.loc l), some (.loc r), some (.tup [.int (n : Int), .int (left : Int), .loc d]), none, none, none, none] s = .ok .nxt [some (.loc l), some (.loc r), some (.tup [.int (n : Int), .int (left : Int), .loc d]), none, some (.int (n : Int)), some (.int (left : Int)), some (.loc d)] s := by
    simp only [b19, List.getElem_cons_zero, a_tp3t, x_cst, x_var, x_tup, x_lst, x_bin, x_neg, x_not, x_cmp, x_cmp2, x_and1, x_and, x_or1, x_or, x_ite, x_idx, x_slc, x_call, x_blt, x_met, x_fld, x_mth, x_mk, y_fset, y_faug, x_isi, x_nil, x_cons, x_c0, x_c1, x_p0, x_p1, y_nil, y_cons, y_set, y_rtn, y_ite, y_exp, decide_true, w_ok, q_nxt, q_rtn, b_rtn, t_bl, r_ret, a_nm, c_lt, c_le, c_gt, c_ge, c_eqi, c_eqs, c_nes, c_eq0, c_ne0, c_in2, z0, z1, z2, z3, z4, z5, z6, z7, z8, c_les, b_list, l_lay, b_lent, i_tup, bind_ok, List.getElem?_cons_zero, List.getElem?_cons_succ, List.map_cons, List.map_nil, List.replicate, Nat.sub_zero, Nat.reduceSub, List.cons_append, List.nil_append, List.append_nil, List.mapM_cons, List.mapM_nil, Option.pure_def, Option.bind_eq_bind, Option.bind_some, List.any_cons, List.any_nil, id, Bool.or_false, Bool.not_true, Bool.not_false, if_true, if_false, Bool.false_eq_true, reduceIte, List.set_cons_zero, List.set_cons_succ]
  have s1 : exec (ph ds (k + 2)) NN ψ0 b19[1] [some (.loc l), some (.loc r), some (.tup [.int (n : Int), .int (left : Int), .loc d]), none, some (.int (n : Int)), some (.int (left : Int)), some (.loc d)] s = .ok .nxt [some (.loc l), some (.loc r), some (.tup [.int (n : Int), .int (left : Int), .loc d]), none, some (.int (n : Int)), some (.int (left : Int)), some (.loc d)] (s ++ [SO.dct (bx xs)]) := by
    simp only [b19, List.getElem_cons_succ, List.getElem_cons_zero, m1, m2, m3, at_row (k := k + 1) h, breath (k := k + 1) h, boxes_of (k := k + 1) h, t1, t2, dec_self, x_cst, x_var, x_tup, x_lst, x_bin, x_neg, x_not, x_cmp, x_cmp2, x_and1, x_and, x_or1, x_or, x_ite, x_idx, x_slc, x_call, x_blt, x_met, x_fld, x_mth, x_mk, y_fset, y_faug, x_isi, x_nil, x_cons, x_c0, x_c1, x_p0, x_p1, y_nil, y_cons, y_set, y_rtn, y_ite, y_exp, decide_true, w_ok, q_nxt, q_rtn, b_rtn, t_bl, r_ret, a_nm, c_lt, c_le, c_gt, c_ge, c_eqi, c_eqs, c_nes, c_eq0, c_ne0, c_in2, z0, z1, z2, z3, z4, z5, z6, z7, z8, c_les, b_list, l_lay, b_lent, i_tup, bind_ok, List.getElem?_cons_zero, List.getElem?_cons_succ, List.map_cons, List.map_nil, List.replicate, Nat.sub_zero, Nat.reduceSub, List.cons_append, List.nil_append, List.append_nil, List.mapM_cons, List.mapM_nil, Option.pure_def, Option.bind_eq_bind, Option.bind_some, List.any_cons, List.any_nil, id, Bool.or_false, Bool.not_true, Bool.not_false, if_true, if_false, Bool.false_eq_true, reduceIte, List.set_cons_zero, List.set_cons_succ]
  refine ⟨s ++ [SO.dct (bx xs)], ?_, Fr.app [] _ _⟩
  show bodyRes (execs (ph ds (k + 2)) NN ψ0 b19 [some (.loc l), some (.loc r), some (.tup [.int (n : Int), .int (left : Int), .loc d]), none, none, none, none] s) = _
  rw [b19_eq, y_cons, s0, q_nxt, y_cons, s1, q_nxt]
  by_cases he : n = rows.length
  · have d1 : decide ((n : Int) < (rows.length : Int)) = false := decide_eq_false (by omega)
    have c0 := coming0 (k := k) h1 (by rw [List.length_map]; exact he)
    have d2 : decide (n = rows.length) = true := decide_eq_true he
    have ci : cmpop .is .non .non (s ++ [SO.dct (bx xs)]) = .ok (.bl true) (s ++ [SO.dct (bx xs)]) := rfl
    obtain ⟨Y, hY⟩ := (gv2 (gv_non (s := s ++ [SO.dct (bx xs)]) (n := 0)) (gv_bl true) (m := 500) (by decide) (by decide)).text (by decide)
    have t3 := hY _ (fun _ _ h _ => h)
    simp only [b19, List.getElem_cons_succ, List.getElem_cons_zero, lr, d1, m4, m5, c0, io, d2, ci, t3, dec_self, x_cst, x_var, x_tup, x_lst, x_bin, x_neg, x_not, x_cmp, x_cmp2, x_and1, x_and, x_or1, x_or, x_ite, x_idx, x_slc, x_call, x_blt, x_met, x_fld, x_mth, x_mk, y_fset, y_faug, x_isi, x_nil, x_cons, x_c0, x_c1, x_p0, x_p1, y_nil, y_cons, y_set, y_rtn, y_ite, y_exp, decide_true, w_ok, q_nxt, q_rtn, b_rtn, t_bl, r_ret, a_nm, c_lt, c_le, c_gt, c_ge, c_eqi, c_eqs, c_nes, c_eq0, c_ne0, c_in2, z0, z1, z2, z3, z4, z5, z6, z7, z8, c_les, b_list, l_lay, b_lent, i_tup, bind_ok, List.getElem?_cons_zero, List.getElem?_cons_succ, List.map_cons, List.map_nil, List.replicate, Nat.sub_zero, Nat.reduceSub, List.cons_append, List.nil_append, List.append_nil, List.mapM_cons, List.mapM_nil, Option.pure_def, Option.bind_eq_bind, Option.bind_some, List.any_cons, List.any_nil, id, Bool.or_false, Bool.not_true, Bool.not_false, if_true, if_false, Bool.false_eq_true, reduceIte, List.set_cons_zero, List.set_cons_succ]
  · obtain ⟨q, hq⟩ : ∃ q, rows[n]? = some q := ⟨_, List.getElem?_eq_getElem (by omega)⟩
    have d1 : decide ((n : Int) < (rows.length : Int)) = true := decide_eq_true (by omega)
    have c0 := coming (k := k) h1 q.enc (by rw [List.getElem?_map, hq]; rfl)
    have d2 : decide (n = rows.length) = false := decide_eq_false he
    have ci : cmpop .is q.enc .non (s ++ [SO.dct (bx xs)]) = .ok (.bl false) (s ++ [SO.dct (bx xs)]) := by cases q <;> rfl
    have ir : idxW (.loc r) (.int (n : Int)) (s ++ [SO.dct (bx xs)]) = .ok q.enc (s ++ [SO.dct (bx xs)]) := i_loc _ _ _ _ _ hr1 (by rw [at_nat, List.getElem?_map, hq]; rfl)
    obtain ⟨Y, hY⟩ := (gv2 (gv_enc (hrows n q hq) hm (by omega) (s ++ [SO.dct (bx xs)])) (gv_bl (n := 1) false) (m := 1000) (by decide) (by decide)).text (by decide)
    have t3 := hY _ (fun _ _ h _ => h)
    simp only [b19, List.getElem_cons_succ, List.getElem_cons_zero, lr, d1, ir, m4, m5, c0, io, d2, ci, t3, dec_self, x_cst, x_var, x_tup, x_lst, x_bin, x_neg, x_not, x_cmp, x_cmp2, x_and1, x_and, x_or1, x_or, x_ite, x_idx, x_slc, x_call, x_blt, x_met, x_fld, x_mth, x_mk, y_fset, y_faug, x_isi, x_nil, x_cons, x_c0, x_c1, x_p0, x_p1, y_nil, y_cons, y_set, y_rtn, y_ite, y_exp, decide_true, w_ok, q_nxt, q_rtn, b_rtn, t_bl, r_ret, a_nm, c_lt, c_le, c_gt, c_ge, c_eqi, c_eqs, c_nes, c_eq0, c_ne0, c_in2, z0, z1, z2, z3, z4, z5, z6, z7, z8, c_les, b_list, l_lay, b_lent, i_tup, bind_ok, List.getElem?_cons_zero, List.getElem?_cons_succ, List.map_cons, List.map_nil, List.replicate, Nat.sub_zero, Nat.reduceSub, List.cons_append, List.nil_append, List.append_nil, List.mapM_cons, List.mapM_nil, Option.pure_def, Option.bind_eq_bind, Option.bind_some, List.any_cons, List.any_nil, id, Bool.or_false, Bool.not_true, Bool.not_false, if_true, if_false, Bool.false_eq_true, reduceIte, List.set_cons_zero, List.set_cons_succ]
end K52

namespace K52
open PySem hiding Env exec execs
open L2 Mi MiL MiT
theorem hT : ds[13]? = some ⟨2, 3, bTake⟩ := rfl
theorem p10 (s : Sto) : binop .pow (.int 10) (.int 30) s = .ok (.int (10 ^ 30)) s := o_pow s 10 30 (by decide)
theorem lg10 : (2 : Int).natAbs.log2 + ((10 : Int) ^ 30).natAbs.log2 < 1000000 := by decide +kernel
theorem e10 : (10 : Int) ^ 30 = 1000000000000000000000000000000 := by decide
theorem e10n : (10 : Nat) ^ 31 = 10000000000000000000000000000000 := by decide
theorem num_ok {k p : Nat} {s : Sto} (h : Pot p s) : ∃ i s', ph ds (k + 2) 14 [.loc p] s = .ok (.int i) s' ∧ i.natAbs < 10 ^ 31 ∧ Pot p s' ∧ SubP p s s' := by
  rw [call_eq (d := ⟨1, 2, b14⟩) rfl rfl]
  have hm : (0 : Int) < 2 * 10 ^ 30 - 1 := by decide
  obtain ⟨r, s1, e1, r1, p1, b1⟩ := take_nat hT (k := k) h (2 * 10 ^ 30 - 1) hm (small_log (by decide +kernel))
  obtain ⟨r2, s2, e2, r2b, p2, b2⟩ := take_nat hT (k := k) p1 19 (by decide) (by decide)
  let B : List W := [.int 0, .int 1, .int (-1), .int ((r2 : Int) - 9), .int ((r : Int) - 10 ^ 30 + 1)]
  have hq : (s2 ++ [SO.lst B])[s2.length]? = some (.lst B) := by simp
  obtain ⟨r3, s3, e3, r3b, p3, b3⟩ := take_nat hT (k := k) (p2.app [SO.lst B]) 5 (by decide) (by decide)
  have hq1 : s3[s2.length]? = some (.lst B) := b3 _ _ (by have := p2.lt; omega) hq (by simp)
  obtain ⟨x, hx, e4⟩ := get_mem hq1 r3 (by show r3 < 5; omega)
  have hx' : ∃ j : Int, x = .int j ∧ j.natAbs < 10 ^ 31 := by
    have := e10
    have := e10n
    simp only [B, List.mem_cons, List.not_mem_nil, or_false] at hx
    rcases hx with rfl | rfl | rfl | rfl | rfl <;> exact ⟨_, rfl, by omega⟩
  obtain ⟨j, rfl, hj⟩ := hx'
  refine ⟨j, s3, ?_, hj, p3, ((b1.trans b2).trans (SubP.app _ _ _)).trans b3⟩
  simp only [B] at e3 e4
  simp only [b14, p10, o_mul _ _ _ lg10, o_sub, o_add, e1, e2, e3, e4, x_neg, x_cst, x_var, x_tup, x_lst, x_bin, x_neg, x_not, x_cmp, x_cmp2, x_and1, x_and, x_or1, x_or, x_ite, x_idx, x_slc, x_call, x_blt, x_met, x_fld, x_mth, x_mk, y_fset, y_faug, x_isi, x_nil, x_cons, x_c0, x_c1, x_p0, x_p1, y_nil, y_cons, y_set, y_rtn, y_ite, y_exp, decide_true, w_ok, q_nxt, q_rtn, b_rtn, t_bl, r_ret, a_nm, c_lt, c_le, c_gt, c_ge, c_eqi, c_eqs, c_nes, c_eq0, c_ne0, c_in2, z0, z1, z2, z3, z4, z5, z6, z7, z8, c_les, b_list, l_lay, b_lent, i_tup, bind_ok, List.getElem?_cons_zero, List.getElem?_cons_succ, List.map_cons, List.map_nil, List.replicate, Nat.sub_zero, Nat.reduceSub, List.cons_append, List.nil_append, List.append_nil, List.mapM_cons, List.mapM_nil, Option.pure_def, Option.bind_eq_bind, Option.bind_some, List.any_cons, List.any_nil, id, Bool.or_false, Bool.not_true, Bool.not_false, if_true, if_false, Bool.false_eq_true, reduceIte, List.set_cons_zero, List.set_cons_succ]
theorem six_at (i : Nat) (h : i < 6) (s : Sto) : idxW (.str "abcdef") (.int (i : Int)) s = .ok (ltW i) s := by
  have e : ∀ i : Fin 6, (Str.ofString "abcdef").cps[i.1]? = some (97 + i.1) := by decide +kernel
  simp only [idxW, Int.toNat_natCast, e ⟨i, h⟩]
  rw [if_pos (by omega)]
  rfl
theorem box_run {φ : Nat → List W → M W} {p : Nat} {L r c : W} {m m2 : Int} {s s1 s2 : Sto} (e1 : φ 13 [.loc p, .int 2] (s ++ [SO.lst [.int 2, .int 6]]) = .ok (.int m) s1) (e2 : idxW (.loc s.length) (.int m) s1 = .ok (.int m2) s1) (e3 : φ 13 [.loc p, .int m2] s1 = .ok r s2) (e4 : idxW L r s2 = .ok c s2) :
    den φ (.idx (.cst L) (.call 13 [(.var 0), (.idx (.lst [(.cst (.int 2)), (.cst (.int 6))]) (.call 13 [(.var 0), (.cst (.int 2))] [] [0, 1]))] [] [0, 1])) [some (.loc p)] s = .ok c s2 := by
  simp only [e1, e2, e3, e4, x_cst, x_var, x_tup, x_lst, x_bin, x_neg, x_not, x_cmp, x_cmp2, x_and1, x_and, x_or1, x_or, x_ite, x_idx, x_slc, x_call, x_blt, x_met, x_fld, x_mth, x_mk, y_fset, y_faug, x_isi, x_nil, x_cons, x_c0, x_c1, x_p0, x_p1, y_nil, y_cons, y_set, y_rtn, y_ite, y_exp, decide_true, w_ok, q_nxt, q_rtn, b_rtn, t_bl, r_ret, a_nm, c_lt, c_le, c_gt, c_ge, c_eqi, c_eqs, c_nes, c_eq0, c_ne0, c_in2, z0, z1, z2, z3, z4, z5, z6, z7, z8, c_les, b_list, l_lay, b_lent, i_tup, bind_ok, List.getElem?_cons_zero, List.getElem?_cons_succ, List.map_cons, List.map_nil, List.replicate, Nat.sub_zero, Nat.reduceSub, List.cons_append, List.nil_append, List.append_nil, List.mapM_cons, List.mapM_nil, Option.pure_def, Option.bind_eq_bind, Option.bind_some, List.any_cons, List.any_nil, id, Bool.or_false, Bool.not_true, Bool.not_false, if_true, if_false, Bool.false_eq_true, reduceIte, List.set_cons_zero, List.set_cons_succ]
theorem box_ok {k p : Nat} {s : Sto} (h : Pot p s) : ∃ i s', ph ds (k + 2) 15 [.loc p] s = .ok (ltW i) s' ∧ i < 6 ∧ Pot p s' ∧ SubP p s s' := by
  rw [call_eq (d := ⟨1, 1, b15⟩) rfl rfl]
  have hq : (s ++ [SO.lst [.int 2, .int 6]])[s.length]? = some (.lst [.int 2, .int 6]) := by simp
  obtain ⟨r1, s1, e1, r1b, p1, b1⟩ := take_nat hT (k := k) (h.app [SO.lst [.int 2, .int 6]]) 2 (by decide) (by decide)
  have hq1 : s1[s.length]? = some (.lst [.int 2, .int 6]) := b1 _ _ (by have := h.lt; omega) hq (by simp)
  obtain ⟨x, hx, e2⟩ := get_mem hq1 r1 (by show r1 < 2; omega)
  have hx' : ∃ m : Int, x = .int m ∧ 0 < m ∧ m ≤ 6 := by
    simp only [List.mem_cons, List.not_mem_nil, or_false] at hx
    rcases hx with rfl | rfl <;> exact ⟨_, rfl, by decide, by decide⟩
  obtain ⟨m, rfl, m0, m6⟩ := hx'
  obtain ⟨r2, s2, e3, r2b, p2, b2⟩ := take_nat hT (k := k) p1 m m0 (small_log (by
    have : (2 : Nat) ^ 120 > 6 := by decide
    omega))
  have hr2 : r2 < 6 := by omega
  refine ⟨r2, s2, ?_, hr2, p2, ((SubP.app _ _ _).trans b1).trans b2⟩
  have := box_run e1 e2 e3 (six_at r2 hr2 s2)
  show bodyRes (execs (ph ds (k + 1)) NN ψ0 b15 [some (.loc p)] s) = _
  unfold b15
  rw [y_cons, y_rtn, this]
  rfl
end K52

namespace K52
open PySem hiding Env exec execs
open L2 Mi MiL MiT
theorem b16_eq : b16 = [b16[0], b16[1], b16[2], b16[3], b16[4], b16[5]] := rfl
abbrev EP' (p i many w : Nat) : Env := [some (.loc p), some (.int (i : Int)), some (.int (many : Int)), some (.int (w : Int))]
section
variable {k p i many w : Nat} {s : Sto}
theorem p1_no (h : ¬ (w < 2 ∧ i + 1 < many)) : exec (ph ds k) NN ψ0 b16[1] (EP' p i many w) s = .ok .nxt (EP' p i many w) s := by
  by_cases h1 : w < 2
  · have d1 : decide ((w : Int) < 2) = true := decide_eq_true (by omega)
    have d2 : decide ((i : Int) + 1 < (many : Int)) = false := decide_eq_false (by omega)
    simp only [b16, List.getElem_cons_succ, List.getElem_cons_zero, EP', d1, d2, o_add, x_cst, x_var, x_tup, x_lst, x_bin, x_neg, x_not, x_cmp, x_cmp2, x_and1, x_and, x_or1, x_or, x_ite, x_idx, x_slc, x_call, x_blt, x_met, x_fld, x_mth, x_mk, y_fset, y_faug, x_isi, x_nil, x_cons, x_c0, x_c1, x_p0, x_p1, y_nil, y_cons, y_set, y_rtn, y_ite, y_exp, decide_true, w_ok, q_nxt, q_rtn, b_rtn, t_bl, r_ret, a_nm, c_lt, c_le, c_gt, c_ge, c_eqi, c_eqs, c_nes, c_eq0, c_ne0, c_in2, z0, z1, z2, z3, z4, z5, z6, z7, z8, c_les, b_list, l_lay, b_lent, i_tup, bind_ok, List.getElem?_cons_zero, List.getElem?_cons_succ, List.map_cons, List.map_nil, List.replicate, Nat.sub_zero, Nat.reduceSub, List.cons_append, List.nil_append, List.append_nil, List.mapM_cons, List.mapM_nil, Option.pure_def, Option.bind_eq_bind, Option.bind_some, List.any_cons, List.any_nil, id, Bool.or_false, Bool.not_true, Bool.not_false, if_true, if_false, Bool.false_eq_true, reduceIte, List.set_cons_zero, List.set_cons_succ]
  · have d1 : decide ((w : Int) < 2) = false := decide_eq_false (by omega)
    simp only [b16, List.getElem_cons_succ, List.getElem_cons_zero, EP', d1, x_cst, x_var, x_tup, x_lst, x_bin, x_neg, x_not, x_cmp, x_cmp2, x_and1, x_and, x_or1, x_or, x_ite, x_idx, x_slc, x_call, x_blt, x_met, x_fld, x_mth, x_mk, y_fset, y_faug, x_isi, x_nil, x_cons, x_c0, x_c1, x_p0, x_p1, y_nil, y_cons, y_set, y_rtn, y_ite, y_exp, decide_true, w_ok, q_nxt, q_rtn, b_rtn, t_bl, r_ret, a_nm, c_lt, c_le, c_gt, c_ge, c_eqi, c_eqs, c_nes, c_eq0, c_ne0, c_in2, z0, z1, z2, z3, z4, z5, z6, z7, z8, c_les, b_list, l_lay, b_lent, i_tup, bind_ok, List.getElem?_cons_zero, List.getElem?_cons_succ, List.map_cons, List.map_nil, List.replicate, Nat.sub_zero, Nat.reduceSub, List.cons_append, List.nil_append, List.append_nil, List.mapM_cons, List.mapM_nil, Option.pure_def, Option.bind_eq_bind, Option.bind_some, List.any_cons, List.any_nil, id, Bool.or_false, Bool.not_true, Bool.not_false, if_true, if_false, Bool.false_eq_true, reduceIte, List.set_cons_zero, List.set_cons_succ]
theorem p1_yes (h : Pot p s) (h1 : w < 2) (h2 : i + 1 < many) (hm : many ≤ 1000) : ∃ q s', exec (ph ds (k + 2)) NN ψ0 b16[1] (EP' p i many w) s = .ok (.rtn (Row.enc q)) (EP' p i many w) s' ∧ q.ok many i ∧ Pot p s' ∧ SubP p s s' := by
  have d1 : decide ((w : Int) < 2) = true := decide_eq_true (by omega)
  have d2 : decide ((i : Int) + 1 < (many : Int)) = true := decide_eq_true (by omega)
  obtain ⟨r, s1, e1, r1, p1, b1⟩ := take_nat hT (k := k + 1) h ((many : Int) - (i : Int) - 1) (by omega) (small_log (by
    have : (2 : Nat) ^ 120 > 1000 := by decide
    omega))
  obtain ⟨c, s2, e2, hc, p2, b2⟩ := box_ok (k := k) p1
  refine ⟨.skip (1 + r) c, s2, ?_, ⟨by omega, by omega, hc⟩, p2, b1.trans b2⟩
  have en : ((1 + r : Nat) : Int) = 1 + (r : Int) := by omega
  simp only [b16, List.getElem_cons_succ, List.getElem_cons_zero, EP', d1, d2, o_add, o_sub, e1, e2, Row.enc, en, x_cst, x_var, x_tup, x_lst, x_bin, x_neg, x_not, x_cmp, x_cmp2, x_and1, x_and, x_or1, x_or, x_ite, x_idx, x_slc, x_call, x_blt, x_met, x_fld, x_mth, x_mk, y_fset, y_faug, x_isi, x_nil, x_cons, x_c0, x_c1, x_p0, x_p1, y_nil, y_cons, y_set, y_rtn, y_ite, y_exp, decide_true, w_ok, q_nxt, q_rtn, b_rtn, t_bl, r_ret, a_nm, c_lt, c_le, c_gt, c_ge, c_eqi, c_eqs, c_nes, c_eq0, c_ne0, c_in2, z0, z1, z2, z3, z4, z5, z6, z7, z8, c_les, b_list, l_lay, b_lent, i_tup, bind_ok, List.getElem?_cons_zero, List.getElem?_cons_succ, List.map_cons, List.map_nil, List.replicate, Nat.sub_zero, Nat.reduceSub, List.cons_append, List.nil_append, List.append_nil, List.mapM_cons, List.mapM_nil, Option.pure_def, Option.bind_eq_bind, Option.bind_some, List.any_cons, List.any_nil, id, Bool.or_false, Bool.not_true, Bool.not_false, if_true, if_false, Bool.false_eq_true, reduceIte, List.set_cons_zero, List.set_cons_succ]
theorem p2_no (h : ¬ (w < 5 ∧ w > 1 ∧ i > 0)) : exec (ph ds k) NN ψ0 b16[2] (EP' p i many w) s = .ok .nxt (EP' p i many w) s := by
  by_cases h1 : w < 5
  · have d1 : decide ((w : Int) < 5) = true := decide_eq_true (by omega)
    by_cases h2 : w > 1
    · have d2 : decide (1 < (w : Int)) = true := decide_eq_true (by omega)
      have d3 : decide (0 < (i : Int)) = false := decide_eq_false (by omega)
      simp only [b16, List.getElem_cons_succ, List.getElem_cons_zero, EP', d1, d2, d3, x_cst, x_var, x_tup, x_lst, x_bin, x_neg, x_not, x_cmp, x_cmp2, x_and1, x_and, x_or1, x_or, x_ite, x_idx, x_slc, x_call, x_blt, x_met, x_fld, x_mth, x_mk, y_fset, y_faug, x_isi, x_nil, x_cons, x_c0, x_c1, x_p0, x_p1, y_nil, y_cons, y_set, y_rtn, y_ite, y_exp, decide_true, w_ok, q_nxt, q_rtn, b_rtn, t_bl, r_ret, a_nm, c_lt, c_le, c_gt, c_ge, c_eqi, c_eqs, c_nes, c_eq0, c_ne0, c_in2, z0, z1, z2, z3, z4, z5, z6, z7, z8, c_les, b_list, l_lay, b_lent, i_tup, bind_ok, List.getElem?_cons_zero, List.getElem?_cons_succ, List.map_cons, List.map_nil, List.replicate, Nat.sub_zero, Nat.reduceSub, List.cons_append, List.nil_append, List.append_nil, List.mapM_cons, List.mapM_nil, Option.pure_def, Option.bind_eq_bind, Option.bind_some, List.any_cons, List.any_nil, id, Bool.or_false, Bool.not_true, Bool.not_false, if_true, if_false, Bool.false_eq_true, reduceIte, List.set_cons_zero, List.set_cons_succ]
    · have d2 : decide (1 < (w : Int)) = false := decide_eq_false (by omega)
      simp only [b16, List.getElem_cons_succ, List.getElem_cons_zero, EP', d1, d2, x_cst, x_var, x_tup, x_lst, x_bin, x_neg, x_not, x_cmp, x_cmp2, x_and1, x_and, x_or1, x_or, x_ite, x_idx, x_slc, x_call, x_blt, x_met, x_fld, x_mth, x_mk, y_fset, y_faug, x_isi, x_nil, x_cons, x_c0, x_c1, x_p0, x_p1, y_nil, y_cons, y_set, y_rtn, y_ite, y_exp, decide_true, w_ok, q_nxt, q_rtn, b_rtn, t_bl, r_ret, a_nm, c_lt, c_le, c_gt, c_ge, c_eqi, c_eqs, c_nes, c_eq0, c_ne0, c_in2, z0, z1, z2, z3, z4, z5, z6, z7, z8, c_les, b_list, l_lay, b_lent, i_tup, bind_ok, List.getElem?_cons_zero, List.getElem?_cons_succ, List.map_cons, List.map_nil, List.replicate, Nat.sub_zero, Nat.reduceSub, List.cons_append, List.nil_append, List.append_nil, List.mapM_cons, List.mapM_nil, Option.pure_def, Option.bind_eq_bind, Option.bind_some, List.any_cons, List.any_nil, id, Bool.or_false, Bool.not_true, Bool.not_false, if_true, if_false, Bool.false_eq_true, reduceIte, List.set_cons_zero, List.set_cons_succ]
  · have d1 : decide ((w : Int) < 5) = false := decide_eq_false (by omega)
    simp only [b16, List.getElem_cons_succ, List.getElem_cons_zero, EP', d1, x_cst, x_var, x_tup, x_lst, x_bin, x_neg, x_not, x_cmp, x_cmp2, x_and1, x_and, x_or1, x_or, x_ite, x_idx, x_slc, x_call, x_blt, x_met, x_fld, x_mth, x_mk, y_fset, y_faug, x_isi, x_nil, x_cons, x_c0, x_c1, x_p0, x_p1, y_nil, y_cons, y_set, y_rtn, y_ite, y_exp, decide_true, w_ok, q_nxt, q_rtn, b_rtn, t_bl, r_ret, a_nm, c_lt, c_le, c_gt, c_ge, c_eqi, c_eqs, c_nes, c_eq0, c_ne0, c_in2, z0, z1, z2, z3, z4, z5, z6, z7, z8, c_les, b_list, l_lay, b_lent, i_tup, bind_ok, List.getElem?_cons_zero, List.getElem?_cons_succ, List.map_cons, List.map_nil, List.replicate, Nat.sub_zero, Nat.reduceSub, List.cons_append, List.nil_append, List.append_nil, List.mapM_cons, List.mapM_nil, Option.pure_def, Option.bind_eq_bind, Option.bind_some, List.any_cons, List.any_nil, id, Bool.or_false, Bool.not_true, Bool.not_false, if_true, if_false, Bool.false_eq_true, reduceIte, List.set_cons_zero, List.set_cons_succ]
theorem p2_yes (h : Pot p s) (h1 : w < 5) (h2 : w > 1) (h3 : i > 0) (hm : i ≤ 1000) : ∃ q s', exec (ph ds (k + 2)) NN ψ0 b16[2] (EP' p i many w) s = .ok (.rtn (Row.enc q)) (EP' p i many w) s' ∧ q.ok many i ∧ Pot p s' ∧ SubP p s s' := by
  have d1 : decide ((w : Int) < 5) = true := decide_eq_true (by omega)
  have d2 : decide (1 < (w : Int)) = true := decide_eq_true (by omega)
  have d3 : decide (0 < (i : Int)) = true := decide_eq_true (by omega)
  obtain ⟨r, s1, e1, r1, p1, b1⟩ := take_nat hT (k := k + 1) h (i : Int) (by omega) (small_log (by
    have : (2 : Nat) ^ 120 > 1000 := by decide
    omega))
  obtain ⟨c, s2, e2, hc, p2, b2⟩ := box_ok (k := k) p1
  refine ⟨.again (1 + r) c, s2, ?_, ⟨by omega, by omega, hc⟩, p2, b1.trans b2⟩
  have en : ((1 + r : Nat) : Int) = 1 + (r : Int) := by omega
  simp only [b16, List.getElem_cons_succ, List.getElem_cons_zero, EP', d1, d2, d3, o_add, o_sub, e1, e2, Row.enc, en, x_cst, x_var, x_tup, x_lst, x_bin, x_neg, x_not, x_cmp, x_cmp2, x_and1, x_and, x_or1, x_or, x_ite, x_idx, x_slc, x_call, x_blt, x_met, x_fld, x_mth, x_mk, y_fset, y_faug, x_isi, x_nil, x_cons, x_c0, x_c1, x_p0, x_p1, y_nil, y_cons, y_set, y_rtn, y_ite, y_exp, decide_true, w_ok, q_nxt, q_rtn, b_rtn, t_bl, r_ret, a_nm, c_lt, c_le, c_gt, c_ge, c_eqi, c_eqs, c_nes, c_eq0, c_ne0, c_in2, z0, z1, z2, z3, z4, z5, z6, z7, z8, c_les, b_list, l_lay, b_lent, i_tup, bind_ok, List.getElem?_cons_zero, List.getElem?_cons_succ, List.map_cons, List.map_nil, List.replicate, Nat.sub_zero, Nat.reduceSub, List.cons_append, List.nil_append, List.append_nil, List.mapM_cons, List.mapM_nil, Option.pure_def, Option.bind_eq_bind, Option.bind_some, List.any_cons, List.any_nil, id, Bool.or_false, Bool.not_true, Bool.not_false, if_true, if_false, Bool.false_eq_true, reduceIte, List.set_cons_zero, List.set_cons_succ]
theorem p3_ok (h : Pot p s) : ∃ s', Pot p s' ∧ SubP p s s' ∧ (exec (ph ds (k + 2)) NN ψ0 b16[3] (EP' p i many w) s = .ok .nxt (EP' p i many w) s' ∨ exec (ph ds (k + 2)) NN ψ0 b16[3] (EP' p i many w) s = .ok (.rtn (Row.enc .stop)) (EP' p i many w) s') := by
  by_cases h1 : w = 5
  · have d1 : decide ((w : Int) = 5) = true := decide_eq_true (by omega)
    obtain ⟨r, s1, e1, r1, p1, b1⟩ := take_nat hT (k := k + 1) h 3 (by decide) (by decide)
    refine ⟨s1, p1, b1, ?_⟩
    by_cases h2 : r = 0
    · have d2 : decide ((r : Int) = 0) = true := decide_eq_true (by omega)
      exact .inr (by simp only [b16, List.getElem_cons_succ, List.getElem_cons_zero, EP', d1, d2, e1, Row.enc, x_cst, x_var, x_tup, x_lst, x_bin, x_neg, x_not, x_cmp, x_cmp2, x_and1, x_and, x_or1, x_or, x_ite, x_idx, x_slc, x_call, x_blt, x_met, x_fld, x_mth, x_mk, y_fset, y_faug, x_isi, x_nil, x_cons, x_c0, x_c1, x_p0, x_p1, y_nil, y_cons, y_set, y_rtn, y_ite, y_exp, decide_true, w_ok, q_nxt, q_rtn, b_rtn, t_bl, r_ret, a_nm, c_lt, c_le, c_gt, c_ge, c_eqi, c_eqs, c_nes, c_eq0, c_ne0, c_in2, z0, z1, z2, z3, z4, z5, z6, z7, z8, c_les, b_list, l_lay, b_lent, i_tup, bind_ok, List.getElem?_cons_zero, List.getElem?_cons_succ, List.map_cons, List.map_nil, List.replicate, Nat.sub_zero, Nat.reduceSub, List.cons_append, List.nil_append, List.append_nil, List.mapM_cons, List.mapM_nil, Option.pure_def, Option.bind_eq_bind, Option.bind_some, List.any_cons, List.any_nil, id, Bool.or_false, Bool.not_true, Bool.not_false, if_true, if_false, Bool.false_eq_true, reduceIte, List.set_cons_zero, List.set_cons_succ])
    · have d2 : decide ((r : Int) = 0) = false := decide_eq_false (by omega)
      exact .inl (by simp only [b16, List.getElem_cons_succ, List.getElem_cons_zero, EP', d1, d2, e1, x_cst, x_var, x_tup, x_lst, x_bin, x_neg, x_not, x_cmp, x_cmp2, x_and1, x_and, x_or1, x_or, x_ite, x_idx, x_slc, x_call, x_blt, x_met, x_fld, x_mth, x_mk, y_fset, y_faug, x_isi, x_nil, x_cons, x_c0, x_c1, x_p0, x_p1, y_nil, y_cons, y_set, y_rtn, y_ite, y_exp, decide_true, w_ok, q_nxt, q_rtn, b_rtn, t_bl, r_ret, a_nm, c_lt, c_le, c_gt, c_ge, c_eqi, c_eqs, c_nes, c_eq0, c_ne0, c_in2, z0, z1, z2, z3, z4, z5, z6, z7, z8, c_les, b_list, l_lay, b_lent, i_tup, bind_ok, List.getElem?_cons_zero, List.getElem?_cons_succ, List.map_cons, List.map_nil, List.replicate, Nat.sub_zero, Nat.reduceSub, List.cons_append, List.nil_append, List.append_nil, List.mapM_cons, List.mapM_nil, Option.pure_def, Option.bind_eq_bind, Option.bind_some, List.any_cons, List.any_nil, id, Bool.or_false, Bool.not_true, Bool.not_false, if_true, if_false, Bool.false_eq_true, reduceIte, List.set_cons_zero, List.set_cons_succ])
  · have d1 : decide ((w : Int) = 5) = false := decide_eq_false (by omega)
    exact ⟨s, h, SubP.rfl', .inl (by simp only [b16, List.getElem_cons_succ, List.getElem_cons_zero, EP', d1, x_cst, x_var, x_tup, x_lst, x_bin, x_neg, x_not, x_cmp, x_cmp2, x_and1, x_and, x_or1, x_or, x_ite, x_idx, x_slc, x_call, x_blt, x_met, x_fld, x_mth, x_mk, y_fset, y_faug, x_isi, x_nil, x_cons, x_c0, x_c1, x_p0, x_p1, y_nil, y_cons, y_set, y_rtn, y_ite, y_exp, decide_true, w_ok, q_nxt, q_rtn, b_rtn, t_bl, r_ret, a_nm, c_lt, c_le, c_gt, c_ge, c_eqi, c_eqs, c_nes, c_eq0, c_ne0, c_in2, z0, z1, z2, z3, z4, z5, z6, z7, z8, c_les, b_list, l_lay, b_lent, i_tup, bind_ok, List.getElem?_cons_zero, List.getElem?_cons_succ, List.map_cons, List.map_nil, List.replicate, Nat.sub_zero, Nat.reduceSub, List.cons_append, List.nil_append, List.append_nil, List.mapM_cons, List.mapM_nil, Option.pure_def, Option.bind_eq_bind, Option.bind_some, List.any_cons, List.any_nil, id, Bool.or_false, Bool.not_true, Bool.not_false, if_true, if_false, Bool.false_eq_true, reduceIte, List.set_cons_zero, List.set_cons_succ])⟩
theorem p4_ok (h : Pot p s) : (exec (ph ds (k + 3)) NN ψ0 b16[4] (EP' p i many w) s = .ok .nxt (EP' p i many w) s) ∨ ∃ q s', exec (ph ds (k + 3)) NN ψ0 b16[4] (EP' p i many w) s = .ok (.rtn (Row.enc q)) (EP' p i many w) s' ∧ q.ok many i ∧ Pot p s' ∧ SubP p s s' := by
  by_cases h1 : w = 7
  · have d1 : decide ((w : Int) = 7) = true := decide_eq_true (by omega)
    obtain ⟨c, s1, e1, hc, p1, b1⟩ := box_ok (k := k + 1) h
    obtain ⟨j, s2, e2, hj, p2, b2⟩ := num_ok (k := k + 1) p1
    exact .inr ⟨.set c j, s2, by simp only [b16, List.getElem_cons_succ, List.getElem_cons_zero, EP', d1, e1, e2, Row.enc, x_cst, x_var, x_tup, x_lst, x_bin, x_neg, x_not, x_cmp, x_cmp2, x_and1, x_and, x_or1, x_or, x_ite, x_idx, x_slc, x_call, x_blt, x_met, x_fld, x_mth, x_mk, y_fset, y_faug, x_isi, x_nil, x_cons, x_c0, x_c1, x_p0, x_p1, y_nil, y_cons, y_set, y_rtn, y_ite, y_exp, decide_true, w_ok, q_nxt, q_rtn, b_rtn, t_bl, r_ret, a_nm, c_lt, c_le, c_gt, c_ge, c_eqi, c_eqs, c_nes, c_eq0, c_ne0, c_in2, z0, z1, z2, z3, z4, z5, z6, z7, z8, c_les, b_list, l_lay, b_lent, i_tup, bind_ok, List.getElem?_cons_zero, List.getElem?_cons_succ, List.map_cons, List.map_nil, List.replicate, Nat.sub_zero, Nat.reduceSub, List.cons_append, List.nil_append, List.append_nil, List.mapM_cons, List.mapM_nil, Option.pure_def, Option.bind_eq_bind, Option.bind_some, List.any_cons, List.any_nil, id, Bool.or_false, Bool.not_true, Bool.not_false, if_true, if_false, Bool.false_eq_true, reduceIte, List.set_cons_zero, List.set_cons_succ], ⟨hc, hj⟩, p2, b1.trans b2⟩
  · have d1 : decide ((w : Int) = 7) = false := decide_eq_false (by omega)
    exact .inl (by simp only [b16, List.getElem_cons_succ, List.getElem_cons_zero, EP', d1, x_cst, x_var, x_tup, x_lst, x_bin, x_neg, x_not, x_cmp, x_cmp2, x_and1, x_and, x_or1, x_or, x_ite, x_idx, x_slc, x_call, x_blt, x_met, x_fld, x_mth, x_mk, y_fset, y_faug, x_isi, x_nil, x_cons, x_c0, x_c1, x_p0, x_p1, y_nil, y_cons, y_set, y_rtn, y_ite, y_exp, decide_true, w_ok, q_nxt, q_rtn, b_rtn, t_bl, r_ret, a_nm, c_lt, c_le, c_gt, c_ge, c_eqi, c_eqs, c_nes, c_eq0, c_ne0, c_in2, z0, z1, z2, z3, z4, z5, z6, z7, z8, c_les, b_list, l_lay, b_lent, i_tup, bind_ok, List.getElem?_cons_zero, List.getElem?_cons_succ, List.map_cons, List.map_nil, List.replicate, Nat.sub_zero, Nat.reduceSub, List.cons_append, List.nil_append, List.append_nil, List.mapM_cons, List.mapM_nil, Option.pure_def, Option.bind_eq_bind, Option.bind_some, List.any_cons, List.any_nil, id, Bool.or_false, Bool.not_true, Bool.not_false, if_true, if_false, Bool.false_eq_true, reduceIte, List.set_cons_zero, List.set_cons_succ])
theorem p5_ok (h : Pot p s) : ∃ q s', exec (ph ds (k + 3)) NN ψ0 b16[5] (EP' p i many w) s = .ok (.rtn (Row.enc q)) (EP' p i many w) s' ∧ q.ok many i ∧ Pot p s' ∧ SubP p s s' := by
  have hq : (s ++ [SO.lst [.str "add", .str "less"]])[s.length]? = some (.lst [.str "add", .str "less"]) := by simp
  obtain ⟨r, s1, e1, r1, p1, b1⟩ := take_nat hT (k := k + 2) (h.app [SO.lst [.str "add", .str "less"]]) 2 (by decide) (by decide)
  have hq1 : s1[s.length]? = some (.lst [.str "add", .str "less"]) := b1 _ _ (by have := h.lt; omega) hq (by simp)
  obtain ⟨x, hx, e2⟩ := get_mem hq1 r (by show r < 2; omega)
  obtain ⟨c, s2, e3, hc, p2, b2⟩ := box_ok (k := k + 1) p1
  obtain ⟨d, s3, e4, hd, p3, b3⟩ := box_ok (k := k + 1) p2
  have bb := (((SubP.app p s [SO.lst [.str "add", .str "less"]]).trans b1).trans b2).trans b3
  simp only [List.mem_cons, List.not_mem_nil, or_false] at hx
  rcases hx with rfl | rfl
  · exact ⟨.add c d, s3, by simp only [b16, List.getElem_cons_succ, List.getElem_cons_zero, EP', e1, e2, e3, e4, Row.enc, x_cst, x_var, x_tup, x_lst, x_bin, x_neg, x_not, x_cmp, x_cmp2, x_and1, x_and, x_or1, x_or, x_ite, x_idx, x_slc, x_call, x_blt, x_met, x_fld, x_mth, x_mk, y_fset, y_faug, x_isi, x_nil, x_cons, x_c0, x_c1, x_p0, x_p1, y_nil, y_cons, y_set, y_rtn, y_ite, y_exp, decide_true, w_ok, q_nxt, q_rtn, b_rtn, t_bl, r_ret, a_nm, c_lt, c_le, c_gt, c_ge, c_eqi, c_eqs, c_nes, c_eq0, c_ne0, c_in2, z0, z1, z2, z3, z4, z5, z6, z7, z8, c_les, b_list, l_lay, b_lent, i_tup, bind_ok, List.getElem?_cons_zero, List.getElem?_cons_succ, List.map_cons, List.map_nil, List.replicate, Nat.sub_zero, Nat.reduceSub, List.cons_append, List.nil_append, List.append_nil, List.mapM_cons, List.mapM_nil, Option.pure_def, Option.bind_eq_bind, Option.bind_some, List.any_cons, List.any_nil, id, Bool.or_false, Bool.not_true, Bool.not_false, if_true, if_false, Bool.false_eq_true, reduceIte, List.set_cons_zero, List.set_cons_succ], ⟨hc, hd⟩, p3, bb⟩
  · exact ⟨.less c d, s3, by simp only [b16, List.getElem_cons_succ, List.getElem_cons_zero, EP', e1, e2, e3, e4, Row.enc, x_cst, x_var, x_tup, x_lst, x_bin, x_neg, x_not, x_cmp, x_cmp2, x_and1, x_and, x_or1, x_or, x_ite, x_idx, x_slc, x_call, x_blt, x_met, x_fld, x_mth, x_mk, y_fset, y_faug, x_isi, x_nil, x_cons, x_c0, x_c1, x_p0, x_p1, y_nil, y_cons, y_set, y_rtn, y_ite, y_exp, decide_true, w_ok, q_nxt, q_rtn, b_rtn, t_bl, r_ret, a_nm, c_lt, c_le, c_gt, c_ge, c_eqi, c_eqs, c_nes, c_eq0, c_ne0, c_in2, z0, z1, z2, z3, z4, z5, z6, z7, z8, c_les, b_list, l_lay, b_lent, i_tup, bind_ok, List.getElem?_cons_zero, List.getElem?_cons_succ, List.map_cons, List.map_nil, List.replicate, Nat.sub_zero, Nat.reduceSub, List.cons_append, List.nil_append, List.append_nil, List.mapM_cons, List.mapM_nil, Option.pure_def, Option.bind_eq_bind, Option.bind_some, List.any_cons, List.any_nil, id, Bool.or_false, Bool.not_true, Bool.not_false, if_true, if_false, Bool.false_eq_true, reduceIte, List.set_cons_zero, List.set_cons_succ], ⟨hc, hd⟩, p3, bb⟩
theorem plain_ok (h : Pot p s) (hi : i < many) (hm : many ≤ 1000) : ∃ q s', ph ds (k + 4) 16 [.loc p, .int (i : Int), .int (many : Int)] s = .ok (Row.enc q) s' ∧ q.ok many i ∧ Pot p s' ∧ SubP p s s' := by
  rw [call_eq (d := ⟨3, 4, b16⟩) rfl rfl]
  obtain ⟨w, s0, e0, w8, p0, b0⟩ := take_nat hT (k := k + 2) h 8 (by decide) (by decide)
  have t0 : exec (ph ds (k + 3)) NN ψ0 b16[0] [some (.loc p), some (.int (i : Int)), some (.int (many : Int)), none] s = .ok .nxt (EP' p i many w) s0 := by
    simp only [b16, List.getElem_cons_zero, EP', e0, x_cst, x_var, x_tup, x_lst, x_bin, x_neg, x_not, x_cmp, x_cmp2, x_and1, x_and, x_or1, x_or, x_ite, x_idx, x_slc, x_call, x_blt, x_met, x_fld, x_mth, x_mk, y_fset, y_faug, x_isi, x_nil, x_cons, x_c0, x_c1, x_p0, x_p1, y_nil, y_cons, y_set, y_rtn, y_ite, y_exp, decide_true, w_ok, q_nxt, q_rtn, b_rtn, t_bl, r_ret, a_nm, c_lt, c_le, c_gt, c_ge, c_eqi, c_eqs, c_nes, c_eq0, c_ne0, c_in2, z0, z1, z2, z3, z4, z5, z6, z7, z8, c_les, b_list, l_lay, b_lent, i_tup, bind_ok, List.getElem?_cons_zero, List.getElem?_cons_succ, List.map_cons, List.map_nil, List.replicate, Nat.sub_zero, Nat.reduceSub, List.cons_append, List.nil_append, List.append_nil, List.mapM_cons, List.mapM_nil, Option.pure_def, Option.bind_eq_bind, Option.bind_some, List.any_cons, List.any_nil, id, Bool.or_false, Bool.not_true, Bool.not_false, if_true, if_false, Bool.false_eq_true, reduceIte, List.set_cons_zero, List.set_cons_succ]
  have go : ∀ {r : ResS} {q : Row} {s' : Sto}, r = .ok (.rtn (Row.enc q)) (EP' p i many w) s' → ∀ f, bodyRes (r.seq f) = .ok (Row.enc q) s' := by rintro _ q s' rfl f; rfl
  have main : ∃ q s', bodyRes (execs (ph ds (k + 3)) NN ψ0 [b16[1], b16[2], b16[3], b16[4], b16[5]] (EP' p i many w) s0) = .ok (Row.enc q) s' ∧ q.ok many i ∧ Pot p s' ∧ SubP p s0 s' := by
    by_cases c1 : w < 2 ∧ i + 1 < many
    · obtain ⟨q, s', e, ok, pp, bb⟩ := p1_yes (k := k + 1) p0 c1.1 c1.2 hm
      exact ⟨q, s', by rw [y_cons]; exact go e _, ok, pp, bb⟩
    by_cases c2 : w < 5 ∧ w > 1 ∧ i > 0
    · obtain ⟨q, s', e, ok, pp, bb⟩ := p2_yes (k := k + 1) (many := many) p0 c2.1 c2.2.1 c2.2.2 (by omega)
      exact ⟨q, s', by rw [y_cons, p1_no c1, q_nxt, y_cons]; exact go e _, ok, pp, bb⟩
    obtain ⟨s1, p1, b1, e | e⟩ := p3_ok (k := k + 1) (i := i) (many := many) (w := w) p0
    · rcases p4_ok (k := k) (i := i) (many := many) (w := w) p1 with e4 | ⟨q, s', e4, ok, pp, bb⟩
      · obtain ⟨q, s', e5, ok, pp, bb⟩ := p5_ok (k := k) (i := i) (many := many) (w := w) p1
        exact ⟨q, s', by rw [y_cons, p1_no c1, q_nxt, y_cons, p2_no c2, q_nxt, y_cons, e, q_nxt, y_cons, e4, q_nxt, y_cons]; exact go e5 _, ok, pp, b1.trans bb⟩
      · exact ⟨q, s', by rw [y_cons, p1_no c1, q_nxt, y_cons, p2_no c2, q_nxt, y_cons, e, q_nxt, y_cons]; exact go e4 _, ok, pp, b1.trans bb⟩
    · exact ⟨.stop, s1, by rw [y_cons, p1_no c1, q_nxt, y_cons, p2_no c2, q_nxt, y_cons]; exact go e _, trivial, p1, b1⟩
  obtain ⟨q, s', e, ok, pp, bb⟩ := main
  refine ⟨q, s', ?_, ok, pp, b0.trans bb⟩
  show bodyRes (execs (ph ds (k + 3)) NN ψ0 b16 [some (.loc p), some (.int (i : Int)), some (.int (many : Int)), none] s) = _
  rw [b16_eq, y_cons, t0, q_nxt]
  exact e
end
end K52

namespace K52
open PySem hiding Env exec execs
open L2 Mi MiL MiT
theorem start_ok {k p : Nat} {s : Sto} (h : Pot p s) : ∃ i s', ph ds (k + 3) 20 [.loc p] s = .ok (.int i) s' ∧ i.natAbs < 10 ^ 31 ∧ Pot p s' ∧ SubP p s s' := by
  rw [call_eq (d := ⟨1, 1, b20⟩) rfl rfl]
  obtain ⟨r1, s1, e1, r1b, p1, b1⟩ := take_nat hT (k := k + 1) h 5 (by decide) (by decide)
  obtain ⟨j, s2, e2, hj, p2, b2⟩ := num_ok (k := k) p1
  have hq : (s2 ++ [SO.lst [.int (r1 : Int), .int j]])[s2.length]? = some (.lst [.int (r1 : Int), .int j]) := by simp
  obtain ⟨r3, s3, e3, r3b, p3, b3⟩ := take_nat hT (k := k + 1) (p2.app [SO.lst [.int (r1 : Int), .int j]]) 2 (by decide) (by decide)
  have hq1 : s3[s2.length]? = some (.lst [.int (r1 : Int), .int j]) := b3 _ _ (by have := p2.lt; omega) hq (by simp)
  obtain ⟨x, hx, e4⟩ := get_mem hq1 r3 (by show r3 < 2; omega)
  have hx' : ∃ m : Int, x = .int m ∧ m.natAbs < 10 ^ 31 := by
    have := e10n
    simp only [List.mem_cons, List.not_mem_nil, or_false] at hx
    rcases hx with rfl | rfl
    · exact ⟨_, rfl, by omega⟩
    · exact ⟨_, rfl, hj⟩
  obtain ⟨m, rfl, hm⟩ := hx'
  refine ⟨m, s3, ?_, hm, p3, ((b1.trans b2).trans (SubP.app _ _ _)).trans b3⟩
  simp only [b20, e1, e2, e3, e4, x_cst, x_var, x_tup, x_lst, x_bin, x_neg, x_not, x_cmp, x_cmp2, x_and1, x_and, x_or1, x_or, x_ite, x_idx, x_slc, x_call, x_blt, x_met, x_fld, x_mth, x_mk, y_fset, y_faug, x_isi, x_nil, x_cons, x_c0, x_c1, x_p0, x_p1, y_nil, y_cons, y_set, y_rtn, y_ite, y_exp, decide_true, w_ok, q_nxt, q_rtn, b_rtn, t_bl, r_ret, a_nm, c_lt, c_le, c_gt, c_ge, c_eqi, c_eqs, c_nes, c_eq0, c_ne0, c_in2, z0, z1, z2, z3, z4, z5, z6, z7, z8, c_les, b_list, l_lay, b_lent, i_tup, bind_ok, List.getElem?_cons_zero, List.getElem?_cons_succ, List.map_cons, List.map_nil, List.replicate, Nat.sub_zero, Nat.reduceSub, List.cons_append, List.nil_append, List.append_nil, List.mapM_cons, List.mapM_nil, Option.pure_def, Option.bind_eq_bind, Option.bind_some, List.any_cons, List.any_nil, id, Bool.or_false, Bool.not_true, Bool.not_false, if_true, if_false, Bool.false_eq_true, reduceIte, List.set_cons_zero, List.set_cons_succ]
/-- a walk that makes a list, item by item -/
theorem lc_each {elt : Env → M W} {cond : Env → M Bool} {tg : Tn} {ρ : Env} {chk : Sto → Bool} (I : Sto → Prop) (R : W → W → Prop) (hc : ∀ s, chk s = true) (hcond : ∀ ρ s, cond ρ s = .ok true s) : ∀ (ws : List W),
    (∀ w ∈ ws, ∃ ρ1, bindT tg w ρ = some ρ1 ∧ ∀ s, I s → ∃ x s', elt ρ1 s = .ok x s' ∧ I s' ∧ R w x) → ∀ s, I s → ∃ ys s', lcGo elt cond tg ρ chk ws s = .ok ys s' ∧ I s' ∧ All2 R ws ys
  | [], _, s, h => ⟨[], s, by simp only [lcGo, hc, if_true], h, trivial⟩
  | w :: ws, hw, s, h => by
    obtain ⟨ρ1, e1, q⟩ := hw w List.mem_cons_self
    obtain ⟨x, s1, e2, i1, r1⟩ := q s h
    obtain ⟨ys, s2, e3, i2, r2⟩ := lc_each I R hc hcond ws (fun w h => hw w (List.mem_cons_of_mem _ h)) s1 i1
    refine ⟨x :: ys, s2, ?_, i2, r1, r2⟩
    simp only [lcGo, hc, if_true, e1, hcond, bind_ok, bnd, e2, e3, Mi.ret]
theorem den_each {φ : Nat → List W → M W} {elt : E} {tg : Tn} {own : List Nat} {k : Ik} {its : List E} {ρ : Env} {s s0 : Sto} {ws vs : List W} (I : Sto → Prop) (R : W → W → Prop)
    (h1 : dens φ its ρ s = .ok vs s0) (h2 : iter k vs s0 = .ok (ws, []) s0) (h0 : I s0)
    (hw : ∀ w ∈ ws, ∃ ρ1, bindT tg w (wipe ρ own) = some ρ1 ∧ ∀ s, I s → ∃ x s', den φ elt ρ1 s = .ok x s' ∧ I s' ∧ R w x) :
    ∃ ys s', den φ (.lc elt tg own k its []) ρ s = .ok (.loc s'.length) (s' ++ [SO.lst ys]) ∧ I s' ∧ All2 R ws ys := by
  obtain ⟨ys, s', e, i, r⟩ := lc_each (elt := fun ρ' => den φ elt ρ') (cond := fun ρ' => denC φ [] ρ') (tg := tg) (ρ := wipe ρ own) (chk := fun s => stays s []) I R (fun _ => rfl) (fun ρ s => x_c0 ..) ws hw s0 h0
  refine ⟨ys, s', ?_, i, r⟩
  rw [den]
  simp only [bnd, h1, h2, bind_ok, noExc, e, lay]
theorem rows_of {many : Nat} : ∀ (m j : Nat) {ys : List W}, All2 (fun w x => ∀ i : Nat, w = .int (i : Int) → ∃ q : Row, x = q.enc ∧ q.ok many i) ((List.range' j m).map fun i : Nat => W.int (i : Int)) ys → ∃ rows : List Row, ys = rows.map Row.enc ∧ rows.length = m ∧ ∀ (i : Nat) (q : Row), rows[i]? = some q → q.ok many (j + i)
  | 0, j, ys, h => by
    cases ys with
    | nil => exact ⟨[], rfl, rfl, fun i q e => by simp at e⟩
    | cons y ys => exact h.elim
  | m + 1, j, ys, h => by
    rw [List.range'_succ, List.map_cons] at h
    cases ys with
    | nil => exact h.elim
    | cons y ys =>
      obtain ⟨q, rfl, hq⟩ := h.1 j rfl
      obtain ⟨rows, rfl, hl, hr⟩ := rows_of m (j + 1) h.2
      refine ⟨q :: rows, rfl, by simp [hl], fun i r e => ?_⟩
      cases i with
      | zero => simp at e; subst e; exact hq
      | succ i =>
        have := hr i r (by simpa using e)
        have e2 : j + 1 + i = j + (i + 1) := by omega
        rwa [e2] at this
theorem b21_eq : b21 = [b21[0], .rtn (.lc (.call 16 [(.var 0), (.var 2), (.var 1)] [] [0, 1, 2]) (.nm 2) [2] .rng1 [(.var 1)] [])] := rfl
theorem rows_ok {k p : Nat} {s : Sto} (h : Pot p s) : ∃ (rows : List Row) (r : Nat) (s' : Sto), ph ds (k + 5) 21 [.loc p] s = .ok (.loc r) s' ∧ s'[r]? = some (.lst (rows.map Row.enc)) ∧ r ≠ p ∧ rows.length ≤ 12 ∧ (∀ (i : Nat) (q : Row), rows[i]? = some q → q.ok rows.length i) ∧ Pot p s' ∧ SubP p s s' := by
  rw [call_eq (d := ⟨1, 3, b21⟩) rfl rfl]
  obtain ⟨r1, s1, e1, r1b, p1, b1⟩ := take_nat hT (k := k + 3) h 4 (by decide) (by decide)
  obtain ⟨r2, s2, e2, r2b, p2, b2⟩ := take_nat hT (k := k + 3) p1 12 (by decide) (by decide)
  have hq : (s2 ++ [SO.lst [.int (1 + (r1 : Int)), .int (1 + (r2 : Int))]])[s2.length]? = some (.lst [.int (1 + (r1 : Int)), .int (1 + (r2 : Int))]) := by simp
  obtain ⟨r3, s3, e3, r3b, p3, b3⟩ := take_nat hT (k := k + 3) (p2.app [SO.lst [.int (1 + (r1 : Int)), .int (1 + (r2 : Int))]]) 2 (by decide) (by decide)
  have hq1 : s3[s2.length]? = some (.lst [.int (1 + (r1 : Int)), .int (1 + (r2 : Int))]) := b3 _ _ (by have := p2.lt; omega) hq (by simp)
  obtain ⟨x, hx, e4⟩ := get_mem hq1 r3 (by show r3 < 2; omega)
  have hx' : ∃ m : Nat, x = .int (m : Int) ∧ m ≤ 12 := by
    simp only [List.mem_cons, List.not_mem_nil, or_false] at hx
    rcases hx with rfl | rfl
    · exact ⟨1 + r1, by congr 1, by omega⟩
    · exact ⟨1 + r2, by congr 1, by omega⟩
  obtain ⟨m, rfl, hm⟩ := hx'
  have bb := ((b1.trans b2).trans (SubP.app p _ [SO.lst [.int (1 + (r1 : Int)), .int (1 + (r2 : Int))]])).trans b3
  have t0 : exec (ph ds (k + 4)) NN ψ0 b21[0] [some (.loc p), none, none] s = .ok .nxt [some (.loc p), some (.int (m : Int)), none] s3 := by
    simp only [b21, List.getElem_cons_zero, e1, e2, e3, e4, o_add, x_cst, x_var, x_tup, x_lst, x_bin, x_neg, x_not, x_cmp, x_cmp2, x_and1, x_and, x_or1, x_or, x_ite, x_idx, x_slc, x_call, x_blt, x_met, x_fld, x_mth, x_mk, y_fset, y_faug, x_isi, x_nil, x_cons, x_c0, x_c1, x_p0, x_p1, y_nil, y_cons, y_set, y_rtn, y_ite, y_exp, decide_true, w_ok, q_nxt, q_rtn, b_rtn, t_bl, r_ret, a_nm, c_lt, c_le, c_gt, c_ge, c_eqi, c_eqs, c_nes, c_eq0, c_ne0, c_in2, z0, z1, z2, z3, z4, z5, z6, z7, z8, c_les, b_list, l_lay, b_lent, i_tup, bind_ok, List.getElem?_cons_zero, List.getElem?_cons_succ, List.map_cons, List.map_nil, List.replicate, Nat.sub_zero, Nat.reduceSub, List.cons_append, List.nil_append, List.append_nil, List.mapM_cons, List.mapM_nil, Option.pure_def, Option.bind_eq_bind, Option.bind_some, List.any_cons, List.any_nil, id, Bool.or_false, Bool.not_true, Bool.not_false, if_true, if_false, Bool.false_eq_true, reduceIte, List.set_cons_zero, List.set_cons_succ]
  obtain ⟨ys, s4, e5, ⟨p4, b4⟩, r4⟩ := den_each (φ := ph ds (k + 4)) (elt := .call 16 [(.var 0), (.var 2), (.var 1)] [] [0, 1, 2]) (tg := .nm 2) (own := [2]) (k := .rng1) (its := [(.var 1)]) (ρ := [some (.loc p), some (.int (m : Int)), none]) (s := s3) (s0 := s3) (vs := [.int (m : Int)])
    (ws := (List.range m).map fun i : Nat => W.int (i : Int)) (fun u => Pot p u ∧ SubP p s3 u) (fun w x => ∀ i : Nat, w = .int (i : Int) → ∃ q : Row, x = q.enc ∧ q.ok m i)
    (by simp only [x_cst, x_var, x_tup, x_lst, x_bin, x_neg, x_not, x_cmp, x_cmp2, x_and1, x_and, x_or1, x_or, x_ite, x_idx, x_slc, x_call, x_blt, x_met, x_fld, x_mth, x_mk, y_fset, y_faug, x_isi, x_nil, x_cons, x_c0, x_c1, x_p0, x_p1, y_nil, y_cons, y_set, y_rtn, y_ite, y_exp, decide_true, w_ok, q_nxt, q_rtn, b_rtn, t_bl, r_ret, a_nm, c_lt, c_le, c_gt, c_ge, c_eqi, c_eqs, c_nes, c_eq0, c_ne0, c_in2, z0, z1, z2, z3, z4, z5, z6, z7, z8, c_les, b_list, l_lay, b_lent, i_tup, bind_ok, List.getElem?_cons_zero, List.getElem?_cons_succ, List.map_cons, List.map_nil, List.replicate, Nat.sub_zero, Nat.reduceSub, List.cons_append, List.nil_append, List.append_nil, List.mapM_cons, List.mapM_nil, Option.pure_def, Option.bind_eq_bind, Option.bind_some, List.any_cons, List.any_nil, id, Bool.or_false, Bool.not_true, Bool.not_false, if_true, if_false, Bool.false_eq_true, reduceIte, List.set_cons_zero, List.set_cons_succ]) (i_rng1 m s3 (by simp only [SZ]; omega)) ⟨p3, SubP.rfl'⟩ (fun w hw => by
      obtain ⟨i, hi, rfl⟩ := List.mem_map.mp hw
      rw [List.mem_range] at hi
      refine ⟨[some (.loc p), some (.int (m : Int)), some (.int (i : Int))], by simp only [bindT, Mi.wipe, List.set_cons_succ, List.set_cons_zero], fun u ⟨pu, bu⟩ => ?_⟩
      obtain ⟨q, u', eq, ok, pu', bu'⟩ := plain_ok (k := k) pu hi (by omega : m ≤ 1000)
      refine ⟨q.enc, u', by simp only [eq, x_cst, x_var, x_tup, x_lst, x_bin, x_neg, x_not, x_cmp, x_cmp2, x_and1, x_and, x_or1, x_or, x_ite, x_idx, x_slc, x_call, x_blt, x_met, x_fld, x_mth, x_mk, y_fset, y_faug, x_isi, x_nil, x_cons, x_c0, x_c1, x_p0, x_p1, y_nil, y_cons, y_set, y_rtn, y_ite, y_exp, decide_true, w_ok, q_nxt, q_rtn, b_rtn, t_bl, r_ret, a_nm, c_lt, c_le, c_gt, c_ge, c_eqi, c_eqs, c_nes, c_eq0, c_ne0, c_in2, z0, z1, z2, z3, z4, z5, z6, z7, z8, c_les, b_list, l_lay, b_lent, i_tup, bind_ok, List.getElem?_cons_zero, List.getElem?_cons_succ, List.map_cons, List.map_nil, List.replicate, Nat.sub_zero, Nat.reduceSub, List.cons_append, List.nil_append, List.append_nil, List.mapM_cons, List.mapM_nil, Option.pure_def, Option.bind_eq_bind, Option.bind_some, List.any_cons, List.any_nil, id, Bool.or_false, Bool.not_true, Bool.not_false, if_true, if_false, Bool.false_eq_true, reduceIte, List.set_cons_zero, List.set_cons_succ], ⟨pu', bu.trans bu'⟩, fun i' hi' => ?_⟩
      have : i = i' := by injection hi' with z; exact Int.ofNat.inj z
      subst this
      exact ⟨q, rfl, ok⟩)
  rw [List.range_eq_range'] at r4
  obtain ⟨rows, rfl, hl, hr⟩ := rows_of m 0 r4
  have p5 := p4.app [SO.lst (rows.map Row.enc)]
  refine ⟨rows, s4.length, s4 ++ [SO.lst (rows.map Row.enc)], ?_, get_end s4 _, by have := p4.lt; omega, by omega, fun i q e => ?_, p5, (bb.trans b4).trans (SubP.app _ _ _)⟩
  · show bodyRes (execs (ph ds (k + 4)) NN ψ0 b21 [some (.loc p), none, none] s) = _
    rw [b21_eq, y_cons, t0, q_nxt, y_cons, y_rtn, e5]
    rfl
  · have := hr i q e
    rw [Nat.zero_add] at this
    rwa [hl]
end K52

namespace K52
open PySem hiding Env exec execs
open L2 Mi MiL MiT
/-! ### moments, plainly -/
theorem trace_ne (rows : List Row) (l n : Nat) (xs : List Int) : ∃ r, trace rows l n xs = (n, l, xs) :: r := by
  cases l with
  | zero => exact ⟨[], rfl⟩
  | succ l => unfold trace; exact ⟨_, rfl⟩
theorem trace_inv {rows : List Row} (hrows : ∀ (i : Nat) (q : Row), rows[i]? = some q → q.ok rows.length i) : ∀ (l n : Nat) (xs : List Int) (b i n' l' : Nat) (xs' : List Int), n ≤ rows.length → Bd b xs → 103 ≤ b → xs.length = 6 → (trace rows l n xs)[i]? = some (n', l', xs') →
    n' ≤ rows.length ∧ l' ≤ l ∧ xs'.length = 6 ∧ Bd (b + i) xs' := by
  intro l
  induction l with
  | zero =>
    intro n xs b i n' l' xs' hn hb h0 hx h
    cases i with
    | zero => simp [trace] at h; obtain ⟨rfl, rfl, rfl⟩ := h; exact ⟨hn, Nat.le_refl _, hx, hb⟩
    | succ i => simp [trace] at h
  | succ l ih =>
    intro n xs b i n' l' xs' hn hb h0 hx h
    unfold trace at h
    cases i with
    | zero => simp at h; obtain ⟨rfl, rfl, rfl⟩ := h; exact ⟨hn, Nat.le_refl _, hx, hb⟩
    | succ i =>
      rw [List.getElem?_cons_succ] at h
      split at h
      · rename_i q hq
        have ok := hrows n q hq
        have hlt := (List.getElem?_eq_some_iff.mp hq).1
        obtain ⟨h1, h2, h3, h4⟩ := ih _ _ (b + 1) i n' l' xs' (go_le ok hlt) (go_bd ok hb h0) (by omega) (by rw [go_len]; exact hx) h
        exact ⟨h1, by omega, h3, bd_up h4 (by omega)⟩
      · simp at h
theorem trace_step {rows : List Row} : ∀ (l n : Nat) (xs : List Int) (i n' l' : Nat) (xs' : List Int), i + 1 < (trace rows l n xs).length → (trace rows l n xs)[i]? = some (n', l', xs') →
    ∃ q m, l' = m + 1 ∧ rows[n']? = some q ∧ (trace rows l n xs)[i + 1]? = some ((q.go rows.length n' xs').1, m, (q.go rows.length n' xs').2) := by
  intro l
  induction l with
  | zero => intro n xs i n' l' xs' h; simp [trace] at h
  | succ l ih =>
    intro n xs i n' l' xs' h e
    unfold trace at h e ⊢
    cases hq : rows[n]? with
    | none => rw [hq] at h; simp at h
    | some q =>
      rw [hq] at h e
      dsimp only at h e ⊢
      cases i with
      | zero =>
        simp at e
        obtain ⟨rfl, rfl, rfl⟩ := e
        obtain ⟨r, er⟩ := trace_ne rows l (q.go rows.length n xs).1 (q.go rows.length n xs).2
        exact ⟨q, l, rfl, hq, by rw [List.getElem?_cons_succ, er]; rfl⟩
      | succ i =>
        rw [List.getElem?_cons_succ] at e ⊢
        simp only [List.length_cons] at h
        obtain ⟨q', m, h1, h2, h3⟩ := ih _ _ i n' l' xs' (by omega) e
        exact ⟨q', m, h1, h2, h3⟩
/-! ### one side of the law -/
/-- what stands for good: rows, moments -/
structure SideF (s : Sto) (r F : Nat) (rows : List Row) (air : Nat) (f : Int) (acc : List W) : Prop where
  hr : s[r]? = some (.lst (rows.map Row.enc))
  hF : s[F]? = some (.lst acc)
  due : All2 (Due s) (trace rows air 0 [f, 0, 0, 0, 0, 0]) acc
  ok : ∀ (i : Nat) (q : Row), rows[i]? = some q → q.ok rows.length i
  many : rows.length ≤ 12
  air40 : air ≤ 40
  far : f.natAbs < 10 ^ 31
theorem Due.fr {X : List Nat} {s s' : Sto} {q : Nat × Nat × List Int} {w : W} (h : Due s q w) (f : Fr X s s') (hX : ∀ x ∈ X, s.length ≤ x) : Due s' q w := by
  obtain ⟨d, e, h1⟩ := h
  exact ⟨d, e, f.2 _ _ (fun m => by have := hX d m; have := get_lt h1; omega) h1⟩
/-- kept by what changes new things only -/
theorem SideF.fr {X : List Nat} {s s' : Sto} {r F : Nat} {rows : List Row} {air : Nat} {f : Int} {acc : List W} (h : SideF s r F rows air f acc) (fr : Fr X s s') (hX : ∀ x ∈ X, s.length ≤ x) : SideF s' r F rows air f acc :=
  ⟨fr.2 _ _ (fun m => by have := hX r m; have := get_lt h.hr; omega) h.hr, fr.2 _ _ (fun m => by have := hX F m; have := get_lt h.hF; omega) h.hF, h.due.imp fun _ _ q => q.fr fr hX, h.ok, h.many, h.air40, h.far⟩
/-- the thread stands as the t-th moment tells -/
def SideT (u : Sto) (t l b : Nat) (rows : List Row) (air : Nat) (f : Int) : Prop :=
  ∃ n lf xs, (trace rows air 0 [f, 0, 0, 0, 0, 0])[min t ((trace rows air 0 [f, 0, 0, 0, 0, 0]).length - 1)]? = some (n, lf, xs) ∧ Th u l b (rows.map Row.enc) n (lf : Int) xs
theorem all2_at {R : Nat × Nat × List Int → W → Prop} : ∀ {as : List (Nat × Nat × List Int)} {bs : List W} {i : Nat} {a : Nat × Nat × List Int}, All2 R as bs → as[i]? = some a → ∃ b, bs[i]? = some b ∧ R a b
  | a :: as, b :: bs, 0, _, ⟨h1, _⟩, e => by simp at e; subst e; exact ⟨b, rfl, h1⟩
  | a :: as, b :: bs, i + 1, c, ⟨_, h2⟩, e => by
    obtain ⟨x, e1, r⟩ := all2_at h2 (by simpa using e)
    exact ⟨x, by simpa using e1, r⟩
  | [], [], _, _, _, e => by simp at e
  | [], _ :: _, _, _, h, _ => h.elim
  | _ :: _, [], _, _, h, _ => h.elim
theorem all2_length {R : Nat × Nat × List Int → W → Prop} : ∀ {as : List (Nat × Nat × List Int)} {bs : List W}, All2 R as bs → as.length = bs.length
  | [], [], _ => rfl
  | _ :: _, _ :: _, ⟨_, h⟩ => by simp [all2_length h]
  | [], _ :: _, h => h.elim
  | _ :: _, [], h => h.elim
theorem bd_first {f : Int} (h : f.natAbs < 10 ^ 31) : Bd 103 [f, 0, 0, 0, 0, 0] := fun x hx => by
  have h1 : 10 ^ 31 ≤ 2 ^ 103 := by decide +kernel
  simp only [List.mem_cons, List.not_mem_nil, or_false] at hx
  rcases hx with rfl | rfl | rfl | rfl | rfl | rfl <;> first | omega | exact Nat.two_pow_pos 103
end K52

namespace K52
open PySem hiding Env exec execs
open L2 Mi MiL MiT
abbrev bI : List S := [(.set (.nm 10) (.idx (.var 2) (.var 9))), (.ite (.not (.call 19 [(.idx (.var 3) (.var 9)), (.idx (.var 1) (.var 9)), (.idx (.var 10) (.blt .min [(.var 4), (.bin .sub (.blt .len [(.var 10)]) (.cst (.int 1)))]))] [] [0, 1, 2])) [(.rtn (.cst (.bl false)))] []), (.ite (.cmp .lt (.var 4) (.bin .sub (.blt .len [(.var 10)]) (.cst (.int 1)))) [(.exp (.mth (.idx (.var 3) (.var 9)) "step" [(0, 35, [], [0])] []))] [])]
abbrev ER (x0 : Option W) (lb ld lm : Nat) (x5 x6 x7 x8 t4 t9 t10 : Option W) : Env := [x0, some (.loc lb), some (.loc ld), some (.loc lm), t4, x5, x6, x7, x8, t9, t10]
theorem bI_eq : bI = [bI[0], bI[1], bI[2]] := rfl
section
variable {k lb ld lm r F l b kk t : Nat} {u : Sto} {x0 x5 x6 x7 x8 x10 : Option W} {B D M acc : List W} {rows : List Row} {air : Nat} {f : Int}
theorem side_turn (hB : u[lb]? = some (.lst B)) (hB2 : B[kk]? = some (.loc r)) (hD : u[ld]? = some (.lst D)) (hD2 : D[kk]? = some (.loc F)) (hM : u[lm]? = some (.lst M)) (hM2 : M[kk]? = some (.loc l)) (S : SideF u r F rows air f acc) (T : SideT u t l b rows air f) :
    ∃ u', execs (ph ds (k + 8)) NN ψ0 bI (ER x0 lb ld lm x5 x6 x7 x8 (some (.int (t : Int))) (some (.int (kk : Int))) x10) u = .ok .nxt (ER x0 lb ld lm x5 x6 x7 x8 (some (.int (t : Int))) (some (.int (kk : Int))) (some (.loc F))) u' ∧
      SideT u' (t + 1) l b rows air f ∧ Fr [l, b] u u' := by
  obtain ⟨n, lf, xs, ht, th⟩ := T
  obtain ⟨w, hw, d, rfl, hd⟩ := all2_at S.due ht
  dsimp only at hd
  have hL := all2_length S.due
  obtain ⟨rst, ne⟩ := trace_ne rows air 0 [f, 0, 0, 0, 0, 0]
  have hL1 : 1 ≤ (trace rows air 0 [f, 0, 0, 0, 0, 0]).length := by rw [ne]; simp
  obtain ⟨h1, h2, h3, h4⟩ := trace_inv S.ok air 0 _ 103 _ _ _ _ (Nat.zero_le _) (bd_first S.far) (Nat.le_refl _) rfl ht
  have hle := trace_len rows air 0 [f, 0, 0, 0, 0, 0]
  generalize hT : trace rows air 0 [f, 0, 0, 0, 0, 0] = T at *
  -- the reads
  have eB : idxW (.loc lb) (.int (kk : Int)) u = .ok (.loc r) u := i_loc _ _ _ _ _ hB (by rw [at_nat]; exact hB2)
  have eD : idxW (.loc ld) (.int (kk : Int)) u = .ok (.loc F) u := i_loc _ _ _ _ _ hD (by rw [at_nat]; exact hD2)
  have eM : idxW (.loc lm) (.int (kk : Int)) u = .ok (.loc l) u := i_loc _ _ _ _ _ hM (by rw [at_nat]; exact hM2)
  have lenF := b_lenl _ _ _ S.hF
  have em : (if (acc.length : Int) - 1 < (t : Int) then (acc.length : Int) - 1 else (t : Int)) = ((min t (T.length - 1) : Nat) : Int) := by
    rw [← hL]; split <;> omega
  have eW : idxW (.loc F) (.int ((min t (T.length - 1) : Nat) : Int)) u = .ok (.tup [.int (n : Int), .int (lf : Int), .loc d]) u := i_loc _ _ _ _ _ S.hF (by rw [at_nat]; exact hw)
  have hA := S.air40
  have hR := S.many
  obtain ⟨u1, es, fr1⟩ := stands_ok (k := k + 5) th S.hr hd h1 S.ok (by omega) (by omega) (sm_of h4 (by omega))
  have th1 := th.fr (X := []) fr1 (by simp) (by simp)
  have s0 : exec (ph ds (k + 8)) NN ψ0 bI[0] (ER x0 lb ld lm x5 x6 x7 x8 (some (.int (t : Int))) (some (.int (kk : Int))) x10) u = .ok .nxt (ER x0 lb ld lm x5 x6 x7 x8 (some (.int (t : Int))) (some (.int (kk : Int))) (some (.loc F))) u := by
    simp only [bI, List.getElem_cons_zero, ER, eD, x_cst, x_var, x_tup, x_lst, x_bin, x_neg, x_not, x_cmp, x_cmp2, x_and1, x_and, x_or1, x_or, x_ite, x_idx, x_slc, x_call, x_blt, x_met, x_fld, x_mth, x_mk, y_fset, y_faug, x_isi, x_nil, x_cons, x_c0, x_c1, x_p0, x_p1, y_nil, y_cons, y_set, y_rtn, y_ite, y_exp, decide_true, w_ok, q_nxt, q_rtn, b_rtn, t_bl, r_ret, a_nm, c_lt, c_le, c_gt, c_ge, c_eqi, c_eqs, c_nes, c_eq0, c_ne0, c_in2, z0, z1, z2, z3, z4, z5, z6, z7, z8, c_les, b_list, l_lay, b_lent, i_tup, bind_ok, List.getElem?_cons_zero, List.getElem?_cons_succ, List.map_cons, List.map_nil, List.replicate, Nat.sub_zero, Nat.reduceSub, List.cons_append, List.nil_append, List.append_nil, List.mapM_cons, List.mapM_nil, Option.pure_def, Option.bind_eq_bind, Option.bind_some, List.any_cons, List.any_nil, id, Bool.or_false, Bool.not_true, Bool.not_false, if_true, if_false, Bool.false_eq_true, reduceIte, List.set_cons_zero, List.set_cons_succ]
  have s1 : exec (ph ds (k + 8)) NN ψ0 bI[1] (ER x0 lb ld lm x5 x6 x7 x8 (some (.int (t : Int))) (some (.int (kk : Int))) (some (.loc F))) u = .ok .nxt (ER x0 lb ld lm x5 x6 x7 x8 (some (.int (t : Int))) (some (.int (kk : Int))) (some (.loc F))) u1 := by
    simp only [bI, List.getElem_cons_succ, List.getElem_cons_zero, ER, eB, eM, lenF, o_sub, b_min, em, eW, es, x_cst, x_var, x_tup, x_lst, x_bin, x_neg, x_not, x_cmp, x_cmp2, x_and1, x_and, x_or1, x_or, x_ite, x_idx, x_slc, x_call, x_blt, x_met, x_fld, x_mth, x_mk, y_fset, y_faug, x_isi, x_nil, x_cons, x_c0, x_c1, x_p0, x_p1, y_nil, y_cons, y_set, y_rtn, y_ite, y_exp, decide_true, w_ok, q_nxt, q_rtn, b_rtn, t_bl, r_ret, a_nm, c_lt, c_le, c_gt, c_ge, c_eqi, c_eqs, c_nes, c_eq0, c_ne0, c_in2, z0, z1, z2, z3, z4, z5, z6, z7, z8, c_les, b_list, l_lay, b_lent, i_tup, bind_ok, List.getElem?_cons_zero, List.getElem?_cons_succ, List.map_cons, List.map_nil, List.replicate, Nat.sub_zero, Nat.reduceSub, List.cons_append, List.nil_append, List.append_nil, List.mapM_cons, List.mapM_nil, Option.pure_def, Option.bind_eq_bind, Option.bind_some, List.any_cons, List.any_nil, id, Bool.or_false, Bool.not_true, Bool.not_false, if_true, if_false, Bool.false_eq_true, reduceIte, List.set_cons_zero, List.set_cons_succ]
  have hF1 := fr1.2 _ _ (by simp) S.hF
  have lenF1 := b_lenl _ _ _ hF1
  have eM1 : idxW (.loc lm) (.int (kk : Int)) u1 = .ok (.loc l) u1 := i_loc _ _ _ _ _ (fr1.2 _ _ (by simp) hM) (by rw [at_nat]; exact hM2)
  by_cases hlt : t < T.length - 1
  · have dc : decide ((t : Int) < (acc.length : Int) - 1) = true := decide_eq_true (by rw [← hL]; omega)
    have emin : min t (T.length - 1) = t := by omega
    rw [emin] at ht
    have ht' : (trace rows air 0 [f, 0, 0, 0, 0, 0])[t]? = some (n, lf, xs) := by rw [hT]; exact ht
    obtain ⟨q, m, rfl, hq, hnx⟩ := trace_step air 0 _ t n lf xs (by rw [hT]; omega) ht'
    rw [hT] at hnx
    obtain ⟨u2, e2, th2, fr2⟩ := step_ok (k := k) th1 hq (S.ok n q hq) (by omega) (by omega)
    have ms := th1.mth1 (m := "step") (f := 35) (dd := []) (ord := [0]) rfl
    refine ⟨u2, ?_, ⟨(q.go rows.length n xs).1, m, (q.go rows.length n xs).2, ?_, ?_⟩, (fr1.none_ [l, b]).trans fr2⟩
    · rw [bI_eq, y_cons, s0, q_nxt, y_cons, s1, q_nxt]
      simp only [bI, List.getElem_cons_succ, List.getElem_cons_zero, ER, lenF1, o_sub, dc, eM1, ms, e2, x_cst, x_var, x_tup, x_lst, x_bin, x_neg, x_not, x_cmp, x_cmp2, x_and1, x_and, x_or1, x_or, x_ite, x_idx, x_slc, x_call, x_blt, x_met, x_fld, x_mth, x_mk, y_fset, y_faug, x_isi, x_nil, x_cons, x_c0, x_c1, x_p0, x_p1, y_nil, y_cons, y_set, y_rtn, y_ite, y_exp, decide_true, w_ok, q_nxt, q_rtn, b_rtn, t_bl, r_ret, a_nm, c_lt, c_le, c_gt, c_ge, c_eqi, c_eqs, c_nes, c_eq0, c_ne0, c_in2, z0, z1, z2, z3, z4, z5, z6, z7, z8, c_les, b_list, l_lay, b_lent, i_tup, bind_ok, List.getElem?_cons_zero, List.getElem?_cons_succ, List.map_cons, List.map_nil, List.replicate, Nat.sub_zero, Nat.reduceSub, List.cons_append, List.nil_append, List.append_nil, List.mapM_cons, List.mapM_nil, Option.pure_def, Option.bind_eq_bind, Option.bind_some, List.any_cons, List.any_nil, id, Bool.or_false, Bool.not_true, Bool.not_false, if_true, if_false, Bool.false_eq_true, reduceIte, List.set_cons_zero, List.set_cons_succ]
    · rw [hT, show min (t + 1) (T.length - 1) = t + 1 by omega]; exact hnx
    · have : ((m + 1 : Nat) : Int) - 1 = (m : Int) := by omega
      rw [this] at th2
      exact th2
  · have dc : decide ((t : Int) < (acc.length : Int) - 1) = false := decide_eq_false (by rw [← hL]; omega)
    refine ⟨u1, ?_, ⟨n, lf, xs, ?_, th1⟩, fr1.none_ [l, b]⟩
    · rw [bI_eq, y_cons, s0, q_nxt, y_cons, s1, q_nxt]
      simp only [bI, List.getElem_cons_succ, List.getElem_cons_zero, ER, lenF1, o_sub, dc, x_cst, x_var, x_tup, x_lst, x_bin, x_neg, x_not, x_cmp, x_cmp2, x_and1, x_and, x_or1, x_or, x_ite, x_idx, x_slc, x_call, x_blt, x_met, x_fld, x_mth, x_mk, y_fset, y_faug, x_isi, x_nil, x_cons, x_c0, x_c1, x_p0, x_p1, y_nil, y_cons, y_set, y_rtn, y_ite, y_exp, decide_true, w_ok, q_nxt, q_rtn, b_rtn, t_bl, r_ret, a_nm, c_lt, c_le, c_gt, c_ge, c_eqi, c_eqs, c_nes, c_eq0, c_ne0, c_in2, z0, z1, z2, z3, z4, z5, z6, z7, z8, c_les, b_list, l_lay, b_lent, i_tup, bind_ok, List.getElem?_cons_zero, List.getElem?_cons_succ, List.map_cons, List.map_nil, List.replicate, Nat.sub_zero, Nat.reduceSub, List.cons_append, List.nil_append, List.append_nil, List.mapM_cons, List.mapM_nil, Option.pure_def, Option.bind_eq_bind, Option.bind_some, List.any_cons, List.any_nil, id, Bool.or_false, Bool.not_true, Bool.not_false, if_true, if_false, Bool.false_eq_true, reduceIte, List.set_cons_zero, List.set_cons_succ]
    · rw [hT, show min (t + 1) (T.length - 1) = min t (T.length - 1) by omega]; exact ht
end
end K52

namespace K52
open PySem hiding Env exec execs
open L2 Mi MiL MiT
/-- a walk over numbers that keeps something, told by how far it is -/
theorem for_count {bind : W → Env → Sto → Res Env} {body : Env → Sto → ResS} {chk : Sto → Bool} (P : Nat → Env → Sto → Prop) (hc : ∀ s, chk s = true)
    (hb : ∀ i ρ s, P i ρ s → ∃ ρ1, bind (.int (i : Int)) ρ s = .ok ρ1 s ∧ ∃ ρ' s', body ρ1 s = .ok .nxt ρ' s' ∧ P (i + 1) ρ' s') :
    ∀ (m j : Nat) (ρ : Env) (s : Sto), P j ρ s → ∃ ρ' s', forGo bind body chk ((List.range' j m).map fun i : Nat => W.int (i : Int)) ρ s = .ok .nxt ρ' s' ∧ P (j + m) ρ' s'
  | 0, j, ρ, s, h => ⟨ρ, s, by simp only [List.range'_zero, List.map_nil, forGo, hc, if_true], h⟩
  | m + 1, j, ρ, s, h => by
    obtain ⟨ρ1, e1, ρ2, s2, e2, h2⟩ := hb j ρ s h
    obtain ⟨ρ3, s3, e3, h3⟩ := for_count P hc hb m (j + 1) ρ2 s2 h2
    refine ⟨ρ3, s3, ?_, by rw [show j + (m + 1) = j + 1 + m by omega]; exact h3⟩
    rw [List.range'_succ, List.map_cons]
    simp only [forGo, hc, if_true, e1, e2]
    exact e3
/-- all that the loops look at -/
structure Two where
  lb : Nat
  ld : Nat
  lm : Nat
  r0 : Nat
  r1 : Nat
  F0 : Nat
  F1 : Nat
  l0 : Nat
  b0 : Nat
  l1 : Nat
  b1 : Nat
  rows0 : List Row
  rows1 : List Row
  air0 : Nat
  air1 : Nat
  f0 : Int
  f1 : Int
  acc0 : List W
  acc1 : List W
structure TwoF (z : Two) (s : Sto) : Prop where
  hB : s[z.lb]? = some (.lst [.loc z.r0, .loc z.r1])
  hD : s[z.ld]? = some (.lst [.loc z.F0, .loc z.F1])
  S0 : SideF s z.r0 z.F0 z.rows0 z.air0 z.f0 z.acc0
  S1 : SideF s z.r1 z.F1 z.rows1 z.air1 z.f1 z.acc1
abbrev Two.X (z : Two) : List Nat := [z.l0, z.b0, z.l1, z.b1]
structure TwoI (z : Two) (base : Sto) (t : Nat) (u : Sto) : Prop where
  fr : Fr z.X base u
  hM : u[z.lm]? = some (.lst [.loc z.l0, .loc z.l1])
  T0 : SideT u t z.l0 z.b0 z.rows0 z.air0 z.f0
  T1 : SideT u t z.l1 z.b1 z.rows1 z.air1 z.f1
theorem SideT.fr {X : List Nat} {u u' : Sto} {t l b : Nat} {rows : List Row} {air : Nat} {f : Int} (h : SideT u t l b rows air f) (fr : Fr X u u') (h1 : l ∉ X) (h2 : b ∉ X) : SideT u' t l b rows air f := by
  obtain ⟨n, lf, xs, e, th⟩ := h
  exact ⟨n, lf, xs, e, th.fr fr h1 h2⟩
theorem both_turn {k t : Nat} {z : Two} {base u : Sto} {x0 x5 x6 x7 x8 x9 x10 : Option W} (hf : TwoF z base) (hX : ∀ x ∈ z.X, base.length ≤ x) (hm : z.lm ∉ z.X) (d1 : z.l1 ≠ z.l0) (d2 : z.l1 ≠ z.b0) (d3 : z.b1 ≠ z.l0) (d4 : z.b1 ≠ z.b0) (I : TwoI z base t u) :
    ∃ u', forGo (fun w ρ => asg (ph ds (k + 8)) (.nm 9) w ρ) (fun ρ s => execs (ph ds (k + 8)) NN ψ0 bI ρ s) (fun s => stays s []) [.int 0, .int 1] (ER x0 z.lb z.ld z.lm x5 x6 x7 x8 (some (.int (t : Int))) x9 x10) u = .ok .nxt (ER x0 z.lb z.ld z.lm x5 x6 x7 x8 (some (.int (t : Int))) (some (.int 1)) (some (.loc z.F1))) u' ∧ TwoI z base (t + 1) u' := by
  have sc : ∀ s : Sto, stays s [] = true := fun _ => rfl
  have low : ∀ {l : Nat} {o : SO}, base[l]? = some o → ∀ {v : Sto}, Fr z.X base v → v[l]? = some o := fun {l o} h {v} f => f.2 _ _ (fun m => by have := hX l m; have := get_lt h; omega) h
  obtain ⟨u1, e1, T0, f1⟩ := side_turn (k := k) (kk := 0) (x0 := x0) (x5 := x5) (x6 := x6) (x7 := x7) (x8 := x8) (x10 := x10) (low hf.hB I.fr) rfl (low hf.hD I.fr) rfl I.hM rfl (hf.S0.fr I.fr hX) I.T0
  have f1' : Fr z.X u u1 := f1.mono (by simp [Two.X])
  have hM1 : u1[z.lm]? = some (.lst [.loc z.l0, .loc z.l1]) := f1'.2 _ _ hm I.hM
  have T1 : SideT u1 t z.l1 z.b1 z.rows1 z.air1 z.f1 := I.T1.fr f1 (by simp [d1, d2]) (by simp [d3, d4])
  have fr1 := I.fr.trans f1'
  obtain ⟨u2, e2, T1', f2⟩ := side_turn (k := k) (kk := 1) (x0 := x0) (x5 := x5) (x6 := x6) (x7 := x7) (x8 := x8) (x10 := some (.loc z.F0)) (low hf.hB fr1) rfl (low hf.hD fr1) rfl hM1 rfl (hf.S1.fr fr1 hX) T1
  have f2' : Fr z.X u1 u2 := f2.mono (by simp [Two.X])
  refine ⟨u2, ?_, ⟨fr1.trans f2', f2'.2 _ _ hm hM1, T0.fr f2 (by simp [Ne.symm d1, Ne.symm d3]) (by simp [Ne.symm d2, Ne.symm d4]), T1'⟩⟩
  have c0 : ((0 : Nat) : Int) = 0 := rfl
  have c1 : ((1 : Nat) : Int) = 1 := rfl
  rw [c0] at e1
  rw [c1] at e2
  simp only [forGo, sc, if_true, a_nm, ER, List.set_cons_succ, List.set_cons_zero]
  rw [e1]
  simp only [forGo, sc, if_true, a_nm, ER, List.set_cons_succ, List.set_cons_zero]
  rw [e2]
theorem all_turns {k : Nat} {z : Two} {base u : Sto} {x0 x4 x5 x6 x7 x8 x9 x10 : Option W} (hf : TwoF z base) (hX : ∀ x ∈ z.X, base.length ≤ x) (hm : z.lm ∉ z.X) (d1 : z.l1 ≠ z.l0) (d2 : z.l1 ≠ z.b0) (d3 : z.b1 ≠ z.l0) (d4 : z.b1 ≠ z.b0) (I : TwoI z base 0 u) :
    ∃ ρ u', exec (ph ds (k + 8)) NN ψ0 (.for (.nm 4) .rng1 [(.cst (.int 41))] [(.for (.nm 9) .rng1 [(.cst (.int 2))] bI)]) (ER x0 z.lb z.ld z.lm x5 x6 x7 x8 x4 x9 x10) u = .ok .nxt ρ u' ∧ TwoI z base 41 u' := by
  rw [y_for]
  have hd : dens (ph ds (k + 8)) [(.cst (.int 41))] (ER x0 z.lb z.ld z.lm x5 x6 x7 x8 x4 x9 x10) u = .ok [.int 41] u := by simp only [x_cst, x_var, x_tup, x_lst, x_bin, x_neg, x_not, x_cmp, x_cmp2, x_and1, x_and, x_or1, x_or, x_ite, x_idx, x_slc, x_call, x_blt, x_met, x_fld, x_mth, x_mk, y_fset, y_faug, x_isi, x_nil, x_cons, x_c0, x_c1, x_p0, x_p1, y_nil, y_cons, y_set, y_rtn, y_ite, y_exp, decide_true, w_ok, q_nxt, q_rtn, b_rtn, t_bl, r_ret, a_nm, c_lt, c_le, c_gt, c_ge, c_eqi, c_eqs, c_nes, c_eq0, c_ne0, c_in2, z0, z1, z2, z3, z4, z5, z6, z7, z8, c_les, b_list, l_lay, b_lent, i_tup, bind_ok, List.getElem?_cons_zero, List.getElem?_cons_succ, List.map_cons, List.map_nil, List.replicate, Nat.sub_zero, Nat.reduceSub, List.cons_append, List.nil_append, List.append_nil, List.mapM_cons, List.mapM_nil, Option.pure_def, Option.bind_eq_bind, Option.bind_some, List.any_cons, List.any_nil, id, Bool.or_false, Bool.not_true, Bool.not_false, if_true, if_false, Bool.false_eq_true, reduceIte, List.set_cons_zero, List.set_cons_succ]
  rw [hd, bind_ok, i_rng 41 41 u rfl (by decide), w_ok]
  have key := for_count (bind := fun w ρ => asg (ph ds (k + 8)) (.nm 4) w ρ) (body := fun ρ s => execs (ph ds (k + 8)) NN ψ0 [(.for (.nm 9) .rng1 [(.cst (.int 2))] bI)] ρ s) (chk := fun s => stays s [])
    (fun i ρ s => (∃ x4 x9 x10, ρ = ER x0 z.lb z.ld z.lm x5 x6 x7 x8 x4 x9 x10) ∧ TwoI z base i s) (fun _ => rfl) (fun i ρ s ⟨⟨x4, x9, x10, e⟩, I⟩ => by
      subst e
      refine ⟨ER x0 z.lb z.ld z.lm x5 x6 x7 x8 (some (.int (i : Int))) x9 x10, by simp only [a_nm, ER, List.set_cons_succ, List.set_cons_zero], ?_⟩
      obtain ⟨u', e1, I'⟩ := both_turn (k := k) (t := i) (x0 := x0) (x5 := x5) (x6 := x6) (x7 := x7) (x8 := x8) (x9 := x9) (x10 := x10) hf hX hm d1 d2 d3 d4 I
      refine ⟨ER x0 z.lb z.ld z.lm x5 x6 x7 x8 (some (.int (i : Int))) (some (.int 1)) (some (.loc z.F1)), u', ?_, ⟨_, _, _, rfl⟩, I'⟩
      have hd2 : dens (ph ds (k + 8)) [(.cst (.int 2))] (ER x0 z.lb z.ld z.lm x5 x6 x7 x8 (some (.int (i : Int))) x9 x10) s = .ok [.int 2] s := by simp only [x_cst, x_var, x_tup, x_lst, x_bin, x_neg, x_not, x_cmp, x_cmp2, x_and1, x_and, x_or1, x_or, x_ite, x_idx, x_slc, x_call, x_blt, x_met, x_fld, x_mth, x_mk, y_fset, y_faug, x_isi, x_nil, x_cons, x_c0, x_c1, x_p0, x_p1, y_nil, y_cons, y_set, y_rtn, y_ite, y_exp, decide_true, w_ok, q_nxt, q_rtn, b_rtn, t_bl, r_ret, a_nm, c_lt, c_le, c_gt, c_ge, c_eqi, c_eqs, c_nes, c_eq0, c_ne0, c_in2, z0, z1, z2, z3, z4, z5, z6, z7, z8, c_les, b_list, l_lay, b_lent, i_tup, bind_ok, List.getElem?_cons_zero, List.getElem?_cons_succ, List.map_cons, List.map_nil, List.replicate, Nat.sub_zero, Nat.reduceSub, List.cons_append, List.nil_append, List.append_nil, List.mapM_cons, List.mapM_nil, Option.pure_def, Option.bind_eq_bind, Option.bind_some, List.any_cons, List.any_nil, id, Bool.or_false, Bool.not_true, Bool.not_false, if_true, if_false, Bool.false_eq_true, reduceIte, List.set_cons_zero, List.set_cons_succ]
      rw [y_cons, y_for, hd2, bind_ok, i_rng 2 2 s rfl (by decide), w_ok]
      have er : ((List.range 2).map fun k : Nat => W.int (k : Int)) = [.int 0, .int 1] := rfl
      rw [er, e1, q_nxt, y_nil])
    41 0 (ER x0 z.lb z.ld z.lm x5 x6 x7 x8 x4 x9 x10) u ⟨⟨_, _, _, rfl⟩, I⟩
  obtain ⟨ρ, u', e, _, I'⟩ := key
  rw [List.range_eq_range']
  exact ⟨ρ, u', e, by simpa using I'⟩
end K52

namespace K52
open PySem hiding Env exec execs
open L2 Mi MiL MiT
theorem lc_two {φ : Nat → List W → M W} {elt : E} {i : Nat} {its : List E} {ρ : Env} {s s1 s2 : Sto} {x0 x1 : W} (hits : dens φ its ρ s = .ok [.int 2] s) (e0 : den φ elt ((Mi.wipe ρ [i]).set i (some (.int 0))) s = .ok x0 s1) (e1 : den φ elt ((Mi.wipe ρ [i]).set i (some (.int 1))) s1 = .ok x1 s2) :
    den φ (.lc elt (.nm i) [i] .rng1 its []) ρ s = .ok (.loc s2.length) (s2 ++ [SO.lst [x0, x1]]) := by
  have sc : ∀ s : Sto, stays s [] = true := fun _ => rfl
  have er : iter .rng1 [.int 2] s = .ok ([.int 0, .int 1], []) s := by
    rw [i_rng 2 2 s rfl (by decide)]; rfl
  have eg : lcGo (fun ρ' => den φ elt ρ') (fun ρ' => denC φ [] ρ') (.nm i) (Mi.wipe ρ [i]) (fun s => stays s []) [.int 0, .int 1] s = .ok [x0, x1] s2 := by
    simp only [lcGo, sc, if_true, bindT, x_c0, bind_ok, bnd, e0, e1, Mi.ret]
  rw [den]
  simp only [bnd, hits, er, bind_ok, noExc, eg, lay]
theorem elt18 {φ : Nat → List W → M W} {lb lf la : Nat} {i : Int} {x0 x2 x3 x4 x5 x6 x10 : Option W} {rw fw aw x : W} {s s' : Sto} (g3 : idxW (.loc lb) (.int i) s = .ok rw s) (g4 : idxW (.loc lf) (.int i) s = .ok fw s) (g5 : idxW (.loc la) (.int i) s = .ok aw s) (e : φ 18 [rw, fw, aw] s = .ok x s') :
    den φ (.call 18 [(.idx (.var 1) (.var 9)), (.idx (.var 7) (.var 9)), (.idx (.var 8) (.var 9))] [] [0, 1, 2]) [x0, some (.loc lb), x2, x3, x4, x5, x6, some (.loc lf), some (.loc la), some (.int i), x10] s = .ok x s' := by
  simp only [g3, g4, g5, e, x_cst, x_var, x_tup, x_lst, x_bin, x_neg, x_not, x_cmp, x_cmp2, x_and1, x_and, x_or1, x_or, x_ite, x_idx, x_slc, x_call, x_blt, x_met, x_fld, x_mth, x_mk, y_fset, y_faug, x_isi, x_nil, x_cons, x_c0, x_c1, x_p0, x_p1, y_nil, y_cons, y_set, y_rtn, y_ite, y_exp, decide_true, w_ok, q_nxt, q_rtn, b_rtn, t_bl, r_ret, a_nm, c_lt, c_le, c_gt, c_ge, c_eqi, c_eqs, c_nes, c_eq0, c_ne0, c_in2, z0, z1, z2, z3, z4, z5, z6, z7, z8, c_les, b_list, l_lay, b_lent, i_tup, bind_ok, List.getElem?_cons_zero, List.getElem?_cons_succ, List.map_cons, List.map_nil, List.replicate, Nat.sub_zero, Nat.reduceSub, List.cons_append, List.nil_append, List.append_nil, List.mapM_cons, List.mapM_nil, Option.pure_def, Option.bind_eq_bind, Option.bind_some, List.any_cons, List.any_nil, id, Bool.or_false, Bool.not_true, Bool.not_false, if_true, if_false, Bool.false_eq_true, reduceIte, List.set_cons_zero, List.set_cons_succ]
theorem b22_eq : b22 = [b22[0], b22[1], b22[2], b22[3], b22[4], .for (.nm 4) .rng1 [(.cst (.int 41))] [(.for (.nm 9) .rng1 [(.cst (.int 2))] bI)], .rtn (.cst (.bl true))] := rfl
theorem SideF.keep {s s' : Sto} {r F : Nat} {rows : List Row} {air : Nat} {f : Int} {acc : List W} (h : SideF s r F rows air f acc) (fr : Fr [] s s') : SideF s' r F rows air f acc := h.fr fr (by simp)
theorem right_ok {k p : Nat} {s : Sto} (h : Pot p s) : ∃ s', ph ds (k + 9) 22 [.loc p] s = .ok (.bl true) s' ∧ Pot p s' := by
  rw [call_eq (d := ⟨1, 11, b22⟩) rfl rfl]
  -- the draws
  obtain ⟨rows0, r0, s1, e1, h1, n1, m1, ok1, p1, b1⟩ := rows_ok (k := k + 3) h
  obtain ⟨rows1, r1, s2, e2, h2, n2, m2, ok2, p2, b2⟩ := rows_ok (k := k + 3) p1
  have h1' : s2[r0]? = some (.lst (rows0.map Row.enc)) := b2 _ _ n1 h1 (by simp)
  obtain ⟨c, s3, e3, c2, p3, b3⟩ := take_nat hT (k := k + 7) (p2.app [SO.lst [.loc r0, .loc r1]]) 2 (by decide) (by decide)
  have ls2 := p2.lt
  have hq : s3[s2.length]? = some (.lst [.loc r0, .loc r1]) := b3 _ _ (by omega) (get_end s2 _) (by simp)
  have h1'' : s3[r0]? = some (.lst (rows0.map Row.enc)) := b3 _ _ n1 (get_app h1') (by simp)
  have h2'' : s3[r1]? = some (.lst (rows1.map Row.enc)) := b3 _ _ n2 (get_app h2) (by simp)
  obtain ⟨rx, rowsx, ex, hx, nx, mx, okx⟩ : ∃ (rx : Nat) (rowsx : List Row), idxW (.loc s2.length) (.int (c : Int)) s3 = .ok (.loc rx) s3 ∧ s3[rx]? = some (.lst (rowsx.map Row.enc)) ∧ rx ≠ p ∧ rowsx.length ≤ 12 ∧ (∀ (i : Nat) (q : Row), rowsx[i]? = some q → q.ok rowsx.length i) := by
    rcases (show c = 0 ∨ c = 1 by omega) with rfl | rfl
    · exact ⟨r0, rows0, i_loc _ _ _ _ _ hq rfl, h1'', n1, m1, ok1⟩
    · exact ⟨r1, rows1, i_loc _ _ _ _ _ hq rfl, h2'', n2, m2, ok2⟩
  have p3' := p3.app [SO.lst [.loc r0, .loc rx]]
  have ls3 := p3.lt
  obtain ⟨f0, s4, e4, hf0, p4, b4⟩ := start_ok (k := k + 5) p3'
  obtain ⟨f1, s5, e5, hf1, p5, b5⟩ := start_ok (k := k + 5) p4
  obtain ⟨a0, s6, e6, ha0, p6, b6⟩ := take_nat hT (k := k + 7) (p5.app [SO.lst [.int f0, .int f1]]) 41 (by decide) (by decide)
  obtain ⟨a1, s7, e7, ha1, p7, b7⟩ := take_nat hT (k := k + 7) p6 41 (by decide) (by decide)
  have ls5 := p5.lt
  have B37 : SubP p (s3 ++ [SO.lst [.loc r0, .loc rx]]) s7 := (((b4.trans b5).trans (SubP.app _ _ _)).trans b6).trans b7
  have B57 : SubP p (s5 ++ [SO.lst [.int f0, .int f1]]) s7 := b6.trans b7
  -- the store behind the draws
  have p8 := p7.app [SO.lst [.int (a0 : Int), .int (a1 : Int)]]
  have q1 : (s7 ++ [SO.lst [.int (a0 : Int), .int (a1 : Int)]])[r0]? = some (.lst (rows0.map Row.enc)) := get_app (B37 _ _ n1 (get_app h1'') (by simp))
  have q2 : (s7 ++ [SO.lst [.int (a0 : Int), .int (a1 : Int)]])[rx]? = some (.lst (rowsx.map Row.enc)) := get_app (B37 _ _ nx (get_app hx) (by simp))
  have q3 : (s7 ++ [SO.lst [.int (a0 : Int), .int (a1 : Int)]])[s3.length]? = some (.lst [.loc r0, .loc rx]) := get_app (B37 _ _ (by omega) (get_end s3 _) (by simp))
  have q4 : (s7 ++ [SO.lst [.int (a0 : Int), .int (a1 : Int)]])[s5.length]? = some (.lst [.int f0, .int f1]) := get_app (B57 _ _ (by omega) (get_end s5 _) (by simp))
  have q5 : (s7 ++ [SO.lst [.int (a0 : Int), .int (a1 : Int)]])[s7.length]? = some (.lst [.int (a0 : Int), .int (a1 : Int)]) := get_end s7 _
  have t0 : exec (ph ds (k + 8)) NN ψ0 b22[0] [some (.loc p), none, none, none, none, none, none, none, none, none, none] s = .ok .nxt [some (.loc p), none, none, none, none, some (.loc r0), some (.loc r1), none, none, none, none] s2 := by
    simp only [b22, List.getElem_cons_zero, e1, e2, a_tp2t, x_cst, x_var, x_tup, x_lst, x_bin, x_neg, x_not, x_cmp, x_cmp2, x_and1, x_and, x_or1, x_or, x_ite, x_idx, x_slc, x_call, x_blt, x_met, x_fld, x_mth, x_mk, y_fset, y_faug, x_isi, x_nil, x_cons, x_c0, x_c1, x_p0, x_p1, y_nil, y_cons, y_set, y_rtn, y_ite, y_exp, decide_true, w_ok, q_nxt, q_rtn, b_rtn, t_bl, r_ret, a_nm, c_lt, c_le, c_gt, c_ge, c_eqi, c_eqs, c_nes, c_eq0, c_ne0, c_in2, z0, z1, z2, z3, z4, z5, z6, z7, z8, c_les, b_list, l_lay, b_lent, i_tup, bind_ok, List.getElem?_cons_zero, List.getElem?_cons_succ, List.map_cons, List.map_nil, List.replicate, Nat.sub_zero, Nat.reduceSub, List.cons_append, List.nil_append, List.append_nil, List.mapM_cons, List.mapM_nil, Option.pure_def, Option.bind_eq_bind, Option.bind_some, List.any_cons, List.any_nil, id, Bool.or_false, Bool.not_true, Bool.not_false, if_true, if_false, Bool.false_eq_true, reduceIte, List.set_cons_zero, List.set_cons_succ]
  have t1 : exec (ph ds (k + 8)) NN ψ0 b22[1] [some (.loc p), none, none, none, none, some (.loc r0), some (.loc r1), none, none, none, none] s2 = .ok .nxt [some (.loc p), some (.loc s3.length), none, none, none, some (.loc r0), some (.loc r1), none, none, none, none] (s3 ++ [SO.lst [.loc r0, .loc rx]]) := by
    simp only [b22, List.getElem_cons_succ, List.getElem_cons_zero, e3, ex, x_cst, x_var, x_tup, x_lst, x_bin, x_neg, x_not, x_cmp, x_cmp2, x_and1, x_and, x_or1, x_or, x_ite, x_idx, x_slc, x_call, x_blt, x_met, x_fld, x_mth, x_mk, y_fset, y_faug, x_isi, x_nil, x_cons, x_c0, x_c1, x_p0, x_p1, y_nil, y_cons, y_set, y_rtn, y_ite, y_exp, decide_true, w_ok, q_nxt, q_rtn, b_rtn, t_bl, r_ret, a_nm, c_lt, c_le, c_gt, c_ge, c_eqi, c_eqs, c_nes, c_eq0, c_ne0, c_in2, z0, z1, z2, z3, z4, z5, z6, z7, z8, c_les, b_list, l_lay, b_lent, i_tup, bind_ok, List.getElem?_cons_zero, List.getElem?_cons_succ, List.map_cons, List.map_nil, List.replicate, Nat.sub_zero, Nat.reduceSub, List.cons_append, List.nil_append, List.append_nil, List.mapM_cons, List.mapM_nil, Option.pure_def, Option.bind_eq_bind, Option.bind_some, List.any_cons, List.any_nil, id, Bool.or_false, Bool.not_true, Bool.not_false, if_true, if_false, Bool.false_eq_true, reduceIte, List.set_cons_zero, List.set_cons_succ]
  have t2 : exec (ph ds (k + 8)) NN ψ0 b22[2] [some (.loc p), some (.loc s3.length), none, none, none, some (.loc r0), some (.loc r1), none, none, none, none] (s3 ++ [SO.lst [.loc r0, .loc rx]]) = .ok .nxt [some (.loc p), some (.loc s3.length), none, none, none, some (.loc r0), some (.loc r1), some (.loc s5.length), some (.loc s7.length), none, none] (s7 ++ [SO.lst [.int (a0 : Int), .int (a1 : Int)]]) := by
    simp only [b22, List.getElem_cons_succ, List.getElem_cons_zero, e4, e5, e6, e7, a_tp2t, x_cst, x_var, x_tup, x_lst, x_bin, x_neg, x_not, x_cmp, x_cmp2, x_and1, x_and, x_or1, x_or, x_ite, x_idx, x_slc, x_call, x_blt, x_met, x_fld, x_mth, x_mk, y_fset, y_faug, x_isi, x_nil, x_cons, x_c0, x_c1, x_p0, x_p1, y_nil, y_cons, y_set, y_rtn, y_ite, y_exp, decide_true, w_ok, q_nxt, q_rtn, b_rtn, t_bl, r_ret, a_nm, c_lt, c_le, c_gt, c_ge, c_eqi, c_eqs, c_nes, c_eq0, c_ne0, c_in2, z0, z1, z2, z3, z4, z5, z6, z7, z8, c_les, b_list, l_lay, b_lent, i_tup, bind_ok, List.getElem?_cons_zero, List.getElem?_cons_succ, List.map_cons, List.map_nil, List.replicate, Nat.sub_zero, Nat.reduceSub, List.cons_append, List.nil_append, List.append_nil, List.mapM_cons, List.mapM_nil, Option.pure_def, Option.bind_eq_bind, Option.bind_some, List.any_cons, List.any_nil, id, Bool.or_false, Bool.not_true, Bool.not_false, if_true, if_false, Bool.false_eq_true, reduceIte, List.set_cons_zero, List.set_cons_succ]
  generalize hs8 : s7 ++ [SO.lst [.int (a0 : Int), .int (a1 : Int)]] = s8 at *
  -- the moments
  obtain ⟨F0, s9, acc0, e9, hF0, due0, fr0⟩ := walked_ok (k := k + 7) q1 ok1 (by omega) f0 a0 (by omega)
  obtain ⟨F1, s10, acc1, e10, hF1, due1, fr1⟩ := walked_ok (k := k + 7) (fr0.2 _ _ (by simp) q2) okx (by omega) f1 a1 (by omega)
  have fr01 := fr0.trans fr1
  have t3 : exec (ph ds (k + 8)) NN ψ0 b22[3] [some (.loc p), some (.loc s3.length), none, none, none, some (.loc r0), some (.loc r1), some (.loc s5.length), some (.loc s7.length), none, none] s8 = .ok .nxt [some (.loc p), some (.loc s3.length), some (.loc s10.length), none, none, some (.loc r0), some (.loc r1), some (.loc s5.length), some (.loc s7.length), none, none] (s10 ++ [SO.lst [.loc F0, .loc F1]]) := by
    have g3 : idxW (.loc s3.length) (.int 0) s8 = .ok (.loc r0) s8 := i_loc _ _ _ _ _ q3 rfl
    have g4 : idxW (.loc s5.length) (.int 0) s8 = .ok (.int f0) s8 := i_loc _ _ _ _ _ q4 rfl
    have g5 : idxW (.loc s7.length) (.int 0) s8 = .ok (.int (a0 : Int)) s8 := i_loc _ _ _ _ _ q5 rfl
    have k3 : idxW (.loc s3.length) (.int 1) s9 = .ok (.loc rx) s9 := i_loc _ _ _ _ _ (fr0.2 _ _ (by simp) q3) rfl
    have k4 : idxW (.loc s5.length) (.int 1) s9 = .ok (.int f1) s9 := i_loc _ _ _ _ _ (fr0.2 _ _ (by simp) q4) rfl
    have k5 : idxW (.loc s7.length) (.int 1) s9 = .ok (.int (a1 : Int)) s9 := i_loc _ _ _ _ _ (fr0.2 _ _ (by simp) q5) rfl
    have el := lc_two (φ := ph ds (k + 8)) (elt := .call 18 [(.idx (.var 1) (.var 9)), (.idx (.var 7) (.var 9)), (.idx (.var 8) (.var 9))] [] [0, 1, 2]) (i := 9) (its := [(.cst (.int 2))]) (ρ := [some (.loc p), some (.loc s3.length), none, none, none, some (.loc r0), some (.loc r1), some (.loc s5.length), some (.loc s7.length), none, none]) (s := s8) (s1 := s9) (s2 := s10) (x0 := .loc F0) (x1 := .loc F1)
      (by simp only [x_cst, x_var, x_tup, x_lst, x_bin, x_neg, x_not, x_cmp, x_cmp2, x_and1, x_and, x_or1, x_or, x_ite, x_idx, x_slc, x_call, x_blt, x_met, x_fld, x_mth, x_mk, y_fset, y_faug, x_isi, x_nil, x_cons, x_c0, x_c1, x_p0, x_p1, y_nil, y_cons, y_set, y_rtn, y_ite, y_exp, decide_true, w_ok, q_nxt, q_rtn, b_rtn, t_bl, r_ret, a_nm, c_lt, c_le, c_gt, c_ge, c_eqi, c_eqs, c_nes, c_eq0, c_ne0, c_in2, z0, z1, z2, z3, z4, z5, z6, z7, z8, c_les, b_list, l_lay, b_lent, i_tup, bind_ok, List.getElem?_cons_zero, List.getElem?_cons_succ, List.map_cons, List.map_nil, List.replicate, Nat.sub_zero, Nat.reduceSub, List.cons_append, List.nil_append, List.append_nil, List.mapM_cons, List.mapM_nil, Option.pure_def, Option.bind_eq_bind, Option.bind_some, List.any_cons, List.any_nil, id, Bool.or_false, Bool.not_true, Bool.not_false, if_true, if_false, Bool.false_eq_true, reduceIte, List.set_cons_zero, List.set_cons_succ]) (elt18 g3 g4 g5 e9) (elt18 k3 k4 k5 e10)
    simp only [b22, List.getElem_cons_succ, List.getElem_cons_zero, el, x_cst, x_var, x_tup, x_lst, x_bin, x_neg, x_not, x_cmp, x_cmp2, x_and1, x_and, x_or1, x_or, x_ite, x_idx, x_slc, x_call, x_blt, x_met, x_fld, x_mth, x_mk, y_fset, y_faug, x_isi, x_nil, x_cons, x_c0, x_c1, x_p0, x_p1, y_nil, y_cons, y_set, y_rtn, y_ite, y_exp, decide_true, w_ok, q_nxt, q_rtn, b_rtn, t_bl, r_ret, a_nm, c_lt, c_le, c_gt, c_ge, c_eqi, c_eqs, c_nes, c_eq0, c_ne0, c_in2, z0, z1, z2, z3, z4, z5, z6, z7, z8, c_les, b_list, l_lay, b_lent, i_tup, bind_ok, List.getElem?_cons_zero, List.getElem?_cons_succ, List.map_cons, List.map_nil, List.replicate, Nat.sub_zero, Nat.reduceSub, List.cons_append, List.nil_append, List.append_nil, List.mapM_cons, List.mapM_nil, Option.pure_def, Option.bind_eq_bind, Option.bind_some, List.any_cons, List.any_nil, id, Bool.or_false, Bool.not_true, Bool.not_false, if_true, if_false, Bool.false_eq_true, reduceIte, List.set_cons_zero, List.set_cons_succ]
  have fB : Fr [] s8 (s10 ++ [SO.lst [.loc F0, .loc F1]]) := fr01.trans (Fr.app [] _ _)
  generalize hbase : s10 ++ [SO.lst [.loc F0, .loc F1]] = base at *
  have pB : Pot p base := by
    obtain ⟨a, b, x1, x2, x3, x4⟩ := p8
    exact ⟨a, b, x1, x2, x3, fB.2 _ _ (by simp) x4⟩
  have hD : base[s10.length]? = some (.lst [.loc F0, .loc F1]) := by rw [← hbase]; exact get_end s10 _
  have f9B : Fr [] s9 base := by rw [← hbase]; exact fr1.trans (Fr.app [] _ _)
  have f10B : Fr [] s10 base := by rw [← hbase]; exact Fr.app [] _ _
  have S0 : SideF base r0 F0 rows0 a0 f0 acc0 := ⟨fB.2 _ _ (by simp) q1, f9B.2 _ _ (by simp) hF0, due0.imp fun _ _ q => q.fr f9B (by simp), ok1, m1, by omega, hf0⟩
  have S1 : SideF base rx F1 rowsx a1 f1 acc1 := ⟨fB.2 _ _ (by simp) q2, f10B.2 _ _ (by simp) hF1, due1.imp fun _ _ q => q.fr f10B (by simp), okx, mx, by omega, hf1⟩
  -- the threads
  have hlb := fB.2 _ _ (by simp) q3
  have hlf := fB.2 _ _ (by simp) q4
  have hla := fB.2 _ _ (by simp) q5
  have f2' : Fr [] base (base ++ [SO.ins 0 (TF (rows0.map Row.enc) 0 (a0 : Int) (base.length + 1))] ++ [SO.dct (bx [f0, 0, 0, 0, 0, 0])]) := (Fr.app [] _ _).trans (Fr.app [] _ _)
  have th0 : Th (base ++ [SO.ins 0 (TF (rows0.map Row.enc) 0 (a0 : Int) (base.length + 1))] ++ [SO.dct (bx [f0, 0, 0, 0, 0, 0])]) base.length (base.length + 1) (rows0.map Row.enc) 0 (a0 : Int) [f0, 0, 0, 0, 0, 0] := th_new
  have hl2 : (base ++ [SO.ins 0 (TF (rows0.map Row.enc) 0 (a0 : Int) (base.length + 1))] ++ [SO.dct (bx [f0, 0, 0, 0, 0, 0])]).length = base.length + 2 := by simp
  have mk0 : den (ph ds (k + 8)) (.mk 0 25 [(.idx (.var 1) (.var 9)), (.idx (.var 8) (.var 9)), (.idx (.var 7) (.var 9))] [] [0, 1, 2, 3]) [some (.loc p), some (.loc s3.length), some (.loc s10.length), none, none, some (.loc r0), some (.loc r1), some (.loc s5.length), some (.loc s7.length), some (.int 0), none] base = .ok (.loc base.length) (base ++ [SO.ins 0 (TF (rows0.map Row.enc) 0 (a0 : Int) (base.length + 1))] ++ [SO.dct (bx [f0, 0, 0, 0, 0, 0])]) := by
    have g3 : idxW (.loc s3.length) (.int 0) base = .ok (.loc r0) base := i_loc _ _ _ _ _ hlb rfl
    have g4 : idxW (.loc s5.length) (.int 0) base = .ok (.int f0) base := i_loc _ _ _ _ _ hlf rfl
    have g5 : idxW (.loc s7.length) (.int 0) base = .ok (.int (a0 : Int)) base := i_loc _ _ _ _ _ hla rfl
    exact mk_ok (k := k + 7) S0.hr (a0 : Int) f0 (by simp only [g3, g4, g5, x_cst, x_var, x_tup, x_lst, x_bin, x_neg, x_not, x_cmp, x_cmp2, x_and1, x_and, x_or1, x_or, x_ite, x_idx, x_slc, x_call, x_blt, x_met, x_fld, x_mth, x_mk, y_fset, y_faug, x_isi, x_nil, x_cons, x_c0, x_c1, x_p0, x_p1, y_nil, y_cons, y_set, y_rtn, y_ite, y_exp, decide_true, w_ok, q_nxt, q_rtn, b_rtn, t_bl, r_ret, a_nm, c_lt, c_le, c_gt, c_ge, c_eqi, c_eqs, c_nes, c_eq0, c_ne0, c_in2, z0, z1, z2, z3, z4, z5, z6, z7, z8, c_les, b_list, l_lay, b_lent, i_tup, bind_ok, List.getElem?_cons_zero, List.getElem?_cons_succ, List.map_cons, List.map_nil, List.replicate, Nat.sub_zero, Nat.reduceSub, List.cons_append, List.nil_append, List.append_nil, List.mapM_cons, List.mapM_nil, Option.pure_def, Option.bind_eq_bind, Option.bind_some, List.any_cons, List.any_nil, id, Bool.or_false, Bool.not_true, Bool.not_false, if_true, if_false, Bool.false_eq_true, reduceIte, List.set_cons_zero, List.set_cons_succ])
  generalize hb2 : base ++ [SO.ins 0 (TF (rows0.map Row.enc) 0 (a0 : Int) (base.length + 1))] ++ [SO.dct (bx [f0, 0, 0, 0, 0, 0])] = base2 at *
  have f3' : Fr [] base2 (base2 ++ [SO.ins 0 (TF (rowsx.map Row.enc) 0 (a1 : Int) (base2.length + 1))] ++ [SO.dct (bx [f1, 0, 0, 0, 0, 0])]) := (Fr.app [] _ _).trans (Fr.app [] _ _)
  have th1 : Th (base2 ++ [SO.ins 0 (TF (rowsx.map Row.enc) 0 (a1 : Int) (base2.length + 1))] ++ [SO.dct (bx [f1, 0, 0, 0, 0, 0])]) base2.length (base2.length + 1) (rowsx.map Row.enc) 0 (a1 : Int) [f1, 0, 0, 0, 0, 0] := th_new
  have hl3 : (base2 ++ [SO.ins 0 (TF (rowsx.map Row.enc) 0 (a1 : Int) (base2.length + 1))] ++ [SO.dct (bx [f1, 0, 0, 0, 0, 0])]).length = base2.length + 2 := by simp
  have mk1 : den (ph ds (k + 8)) (.mk 0 25 [(.idx (.var 1) (.var 9)), (.idx (.var 8) (.var 9)), (.idx (.var 7) (.var 9))] [] [0, 1, 2, 3]) [some (.loc p), some (.loc s3.length), some (.loc s10.length), none, none, some (.loc r0), some (.loc r1), some (.loc s5.length), some (.loc s7.length), some (.int 1), none] base2 = .ok (.loc base2.length) (base2 ++ [SO.ins 0 (TF (rowsx.map Row.enc) 0 (a1 : Int) (base2.length + 1))] ++ [SO.dct (bx [f1, 0, 0, 0, 0, 0])]) := by
    have g3 : idxW (.loc s3.length) (.int 1) base2 = .ok (.loc rx) base2 := i_loc _ _ _ _ _ (f2'.2 _ _ (by simp) hlb) rfl
    have g4 : idxW (.loc s5.length) (.int 1) base2 = .ok (.int f1) base2 := i_loc _ _ _ _ _ (f2'.2 _ _ (by simp) hlf) rfl
    have g5 : idxW (.loc s7.length) (.int 1) base2 = .ok (.int (a1 : Int)) base2 := i_loc _ _ _ _ _ (f2'.2 _ _ (by simp) hla) rfl
    exact mk_ok (k := k + 7) (f2'.2 _ _ (by simp) S1.hr) (a1 : Int) f1 (by simp only [g3, g4, g5, x_cst, x_var, x_tup, x_lst, x_bin, x_neg, x_not, x_cmp, x_cmp2, x_and1, x_and, x_or1, x_or, x_ite, x_idx, x_slc, x_call, x_blt, x_met, x_fld, x_mth, x_mk, y_fset, y_faug, x_isi, x_nil, x_cons, x_c0, x_c1, x_p0, x_p1, y_nil, y_cons, y_set, y_rtn, y_ite, y_exp, decide_true, w_ok, q_nxt, q_rtn, b_rtn, t_bl, r_ret, a_nm, c_lt, c_le, c_gt, c_ge, c_eqi, c_eqs, c_nes, c_eq0, c_ne0, c_in2, z0, z1, z2, z3, z4, z5, z6, z7, z8, c_les, b_list, l_lay, b_lent, i_tup, bind_ok, List.getElem?_cons_zero, List.getElem?_cons_succ, List.map_cons, List.map_nil, List.replicate, Nat.sub_zero, Nat.reduceSub, List.cons_append, List.nil_append, List.append_nil, List.mapM_cons, List.mapM_nil, Option.pure_def, Option.bind_eq_bind, Option.bind_some, List.any_cons, List.any_nil, id, Bool.or_false, Bool.not_true, Bool.not_false, if_true, if_false, Bool.false_eq_true, reduceIte, List.set_cons_zero, List.set_cons_succ])
  generalize hb3 : base2 ++ [SO.ins 0 (TF (rowsx.map Row.enc) 0 (a1 : Int) (base2.length + 1))] ++ [SO.dct (bx [f1, 0, 0, 0, 0, 0])] = base3 at *
  have t4 : exec (ph ds (k + 8)) NN ψ0 b22[4] [some (.loc p), some (.loc s3.length), some (.loc s10.length), none, none, some (.loc r0), some (.loc r1), some (.loc s5.length), some (.loc s7.length), none, none] base = .ok .nxt (ER (some (.loc p)) s3.length s10.length base3.length (some (.loc r0)) (some (.loc r1)) (some (.loc s5.length)) (some (.loc s7.length)) none none none) (base3 ++ [SO.lst [.loc base.length, .loc base2.length]]) := by
    have el := lc_two (φ := ph ds (k + 8)) (elt := .mk 0 25 [(.idx (.var 1) (.var 9)), (.idx (.var 8) (.var 9)), (.idx (.var 7) (.var 9))] [] [0, 1, 2, 3]) (i := 9) (its := [(.cst (.int 2))]) (ρ := [some (.loc p), some (.loc s3.length), some (.loc s10.length), none, none, some (.loc r0), some (.loc r1), some (.loc s5.length), some (.loc s7.length), none, none]) (s := base) (s1 := base2) (s2 := base3) (x0 := .loc base.length) (x1 := .loc base2.length)
      (by simp only [x_cst, x_var, x_tup, x_lst, x_bin, x_neg, x_not, x_cmp, x_cmp2, x_and1, x_and, x_or1, x_or, x_ite, x_idx, x_slc, x_call, x_blt, x_met, x_fld, x_mth, x_mk, y_fset, y_faug, x_isi, x_nil, x_cons, x_c0, x_c1, x_p0, x_p1, y_nil, y_cons, y_set, y_rtn, y_ite, y_exp, decide_true, w_ok, q_nxt, q_rtn, b_rtn, t_bl, r_ret, a_nm, c_lt, c_le, c_gt, c_ge, c_eqi, c_eqs, c_nes, c_eq0, c_ne0, c_in2, z0, z1, z2, z3, z4, z5, z6, z7, z8, c_les, b_list, l_lay, b_lent, i_tup, bind_ok, List.getElem?_cons_zero, List.getElem?_cons_succ, List.map_cons, List.map_nil, List.replicate, Nat.sub_zero, Nat.reduceSub, List.cons_append, List.nil_append, List.append_nil, List.mapM_cons, List.mapM_nil, Option.pure_def, Option.bind_eq_bind, Option.bind_some, List.any_cons, List.any_nil, id, Bool.or_false, Bool.not_true, Bool.not_false, if_true, if_false, Bool.false_eq_true, reduceIte, List.set_cons_zero, List.set_cons_succ]) (by simp only [Mi.wipe, List.set_cons_succ, List.set_cons_zero]; exact mk0) (by simp only [Mi.wipe, List.set_cons_succ, List.set_cons_zero]; exact mk1)
    simp only [b22, List.getElem_cons_succ, List.getElem_cons_zero, el, ER, x_cst, x_var, x_tup, x_lst, x_bin, x_neg, x_not, x_cmp, x_cmp2, x_and1, x_and, x_or1, x_or, x_ite, x_idx, x_slc, x_call, x_blt, x_met, x_fld, x_mth, x_mk, y_fset, y_faug, x_isi, x_nil, x_cons, x_c0, x_c1, x_p0, x_p1, y_nil, y_cons, y_set, y_rtn, y_ite, y_exp, decide_true, w_ok, q_nxt, q_rtn, b_rtn, t_bl, r_ret, a_nm, c_lt, c_le, c_gt, c_ge, c_eqi, c_eqs, c_nes, c_eq0, c_ne0, c_in2, z0, z1, z2, z3, z4, z5, z6, z7, z8, c_les, b_list, l_lay, b_lent, i_tup, bind_ok, List.getElem?_cons_zero, List.getElem?_cons_succ, List.map_cons, List.map_nil, List.replicate, Nat.sub_zero, Nat.reduceSub, List.cons_append, List.nil_append, List.append_nil, List.mapM_cons, List.mapM_nil, Option.pure_def, Option.bind_eq_bind, Option.bind_some, List.any_cons, List.any_nil, id, Bool.or_false, Bool.not_true, Bool.not_false, if_true, if_false, Bool.false_eq_true, reduceIte, List.set_cons_zero, List.set_cons_succ]
  -- the turns
  let z : Two := ⟨s3.length, s10.length, base3.length, r0, rx, F0, F1, base.length, base.length + 1, base2.length, base2.length + 1, rows0, rowsx, a0, a1, f0, f1, acc0, acc1⟩
  have zF : TwoF z base := ⟨hlb, hD, S0, S1⟩
  have fz : Fr z.X base (base3 ++ [SO.lst [.loc base.length, .loc base2.length]]) := ((f2'.trans f3').trans (Fr.app [] _ _)).none_ _
  have tr : ∀ (rows : List Row) (a : Nat) (xs : List Int), (trace rows a 0 xs)[min 0 ((trace rows a 0 xs).length - 1)]? = some (0, a, xs) := fun rows a xs => by
    obtain ⟨r, e⟩ := trace_ne rows a 0 xs
    rw [Nat.zero_min, e]; rfl
  have zI : TwoI z base 0 (base3 ++ [SO.lst [.loc base.length, .loc base2.length]]) := ⟨fz, get_end base3 _, ⟨0, a0, _, tr _ _ _, th0.fr (X := []) (f3'.trans (Fr.app [] _ _)) (by simp) (by simp)⟩, ⟨0, a1, _, tr _ _ _, th1.fr (X := []) (Fr.app [] _ _) (by simp) (by simp)⟩⟩
  obtain ⟨ρ, u, e11, I41⟩ := all_turns (k := k) (x0 := some (.loc p)) (x4 := none) (x5 := some (.loc r0)) (x6 := some (.loc r1)) (x7 := some (.loc s5.length)) (x8 := some (.loc s7.length)) (x9 := none) (x10 := none) zF (by simp [z, Two.X]; omega) (by simp [z, Two.X]; omega) (by show base2.length ≠ base.length; omega) (by show base2.length ≠ base.length + 1; omega) (by show base2.length + 1 ≠ base.length; omega) (by show base2.length + 1 ≠ base.length + 1; omega) zI
  refine ⟨u, ?_, ?_⟩
  · show bodyRes (execs (ph ds (k + 8)) NN ψ0 b22 [some (.loc p), none, none, none, none, none, none, none, none, none, none] s) = _
    rw [b22_eq, y_cons, t0, q_nxt, y_cons, t1, q_nxt, y_cons, t2, q_nxt, y_cons, t3, q_nxt, y_cons, t4, q_nxt, y_cons]
    have e11' : exec (ph ds (k + 8)) NN ψ0 (.for (.nm 4) .rng1 [(.cst (.int 41))] [(.for (.nm 9) .rng1 [(.cst (.int 2))] bI)]) (ER (some (.loc p)) s3.length s10.length base3.length (some (.loc r0)) (some (.loc r1)) (some (.loc s5.length)) (some (.loc s7.length)) none none none) (base3 ++ [SO.lst [.loc base.length, .loc base2.length]]) = .ok .nxt ρ u := e11
    rw [e11', q_nxt]
    simp only [x_cst, x_var, x_tup, x_lst, x_bin, x_neg, x_not, x_cmp, x_cmp2, x_and1, x_and, x_or1, x_or, x_ite, x_idx, x_slc, x_call, x_blt, x_met, x_fld, x_mth, x_mk, y_fset, y_faug, x_isi, x_nil, x_cons, x_c0, x_c1, x_p0, x_p1, y_nil, y_cons, y_set, y_rtn, y_ite, y_exp, decide_true, w_ok, q_nxt, q_rtn, b_rtn, t_bl, r_ret, a_nm, c_lt, c_le, c_gt, c_ge, c_eqi, c_eqs, c_nes, c_eq0, c_ne0, c_in2, z0, z1, z2, z3, z4, z5, z6, z7, z8, c_les, b_list, l_lay, b_lent, i_tup, bind_ok, List.getElem?_cons_zero, List.getElem?_cons_succ, List.map_cons, List.map_nil, List.replicate, Nat.sub_zero, Nat.reduceSub, List.cons_append, List.nil_append, List.append_nil, List.mapM_cons, List.mapM_nil, Option.pure_def, Option.bind_eq_bind, Option.bind_some, List.any_cons, List.any_nil, id, Bool.or_false, Bool.not_true, Bool.not_false, if_true, if_false, Bool.false_eq_true, reduceIte, List.set_cons_zero, List.set_cons_succ]
  · have hp := pB.lt
    obtain ⟨a, b, x1, x2, x3, x4⟩ := pB
    exact ⟨a, b, x1, x2, x3, I41.fr.2 _ _ (by simp [z, Two.X]; omega) x4⟩
end K52

namespace K52
open PySem hiding Env exec execs
open L2 Mi MiL MiT
/-! ### the loop that counts -/
def rowsC (room : Nat) : List Row := [.set 1 1] ++ List.replicate room (.add 2 1) ++ [.less 0 1, .again (room + 1) 0, .stop]
def okb (many k : Nat) : Row → Bool
  | .skip n b => decide (1 ≤ n) && (decide (k + 1 + n ≤ many) && decide (b < 6))
  | .again n b => decide (1 ≤ n) && (decide (n ≤ k) && decide (b < 6))
  | .stop => true
  | .set b i => decide (b < 6) && decide (i.natAbs < 10 ^ 31)
  | .add b c => decide (b < 6) && decide (c < 6)
  | .less b c => decide (b < 6) && decide (c < 6)
theorem okb_ok {many k : Nat} {q : Row} (h : okb many k q = true) : q.ok many k := by
  cases q <;> simp only [okb, Bool.and_eq_true, decide_eq_true_eq, Row.ok] at h ⊢ <;> exact h
def allOk (rows : List Row) : Bool := (List.range rows.length).all fun i => match rows[i]? with
  | some q => okb rows.length i q
  | none => true
theorem allOk_ok {rows : List Row} (h : allOk rows = true) (i : Nat) (q : Row) (e : rows[i]? = some q) : q.ok rows.length i := by
  unfold allOk at h
  rw [List.all_eq_true] at h
  have := h i (by rw [List.mem_range]; exact (List.getElem?_eq_some_iff.mp e).1)
  rw [e] at this
  exact okb_ok this
theorem rowsC_ok : ∀ r : Fin 3, allOk (rowsC (1 + r.1)) = true := by decide +kernel
/-- gone till it is over -/
def loopP (rows : List Row) : Nat → Nat → List Int → Nat → Option (List Int × Nat)
  | 0, n, xs, st => if n = rows.length then some (xs, st) else none
  | m + 1, n, xs, st => if n = rows.length then some (xs, st) else match rows[n]? with
    | some q => loopP rows m (q.go rows.length n xs).1 (q.go rows.length n xs).2 (st + 1)
    | none => none
def endB (a r : Nat) : Option (List Int × Nat) → Bool
  | some (xs, st) => decide (xs.getD 2 0 = ((1 + r : Nat) : Int) * ((a : Int) + 1)) && (decide (xs.getD 0 0 = 0) && decide (st = 2 + (1 + r + 2) * (a + 1)))
  | none => false
theorem loopP_all : ∀ (a : Fin 7) (r : Fin 3), endB a.1 r.1 (loopP (rowsC (1 + r.1)) 60 0 [(a.1 : Int) + 1, 0, 0, 0, 0, 0] 0) = true := by decide +kernel
abbrev bC : List S := [(.exp (.mth (.var 1) "step" [(0, 35, [], [0])] [])), (.set (.nm 2) (.bin .add (.var 2) (.cst (.int 1))))]
abbrev tC : E := .and [(.not (.mth (.var 1) "is_over" [(0, 27, [], [0])] [])), (.cmp .lt (.var 2) (.cst (.int 200)))]
abbrev EC (x0 : Option W) (l : Nat) (st : Nat) (x3 x4 x5 : Option W) : Env := [x0, some (.loc l), some (.int (st : Int)), x3, x4, x5]
section
variable {k l b : Nat} {x0 x3 x4 x5 : Option W} {rows : List Row}
theorem tC_over {n st : Nat} {a : Int} {xs : List Int} {s : Sto} (h : Th s l b (rows.map Row.enc) n a xs) (he : n = rows.length) : test (ph ds (k + 1)) tC (EC x0 l st x3 x4 x5) s = .ok false s := by
  have io := is_over (k := k) h
  rw [List.length_map, decide_eq_true he] at io
  have mi := h.mth1 (m := "is_over") (f := 27) (dd := []) (ord := [0]) rfl
  show ((den (ph ds (k + 1)) tC (EC x0 l st x3 x4 x5) s).bind fun x => tru x) = _
  simp only [tC, EC, mi, io, x_cst, x_var, x_tup, x_lst, x_bin, x_neg, x_not, x_cmp, x_cmp2, x_and1, x_and, x_or1, x_or, x_ite, x_idx, x_slc, x_call, x_blt, x_met, x_fld, x_mth, x_mk, y_fset, y_faug, x_isi, x_nil, x_cons, x_c0, x_c1, x_p0, x_p1, y_nil, y_cons, y_set, y_rtn, y_ite, y_exp, decide_true, w_ok, q_nxt, q_rtn, b_rtn, t_bl, r_ret, a_nm, c_lt, c_le, c_gt, c_ge, c_eqi, c_eqs, c_nes, c_eq0, c_ne0, c_in2, z0, z1, z2, z3, z4, z5, z6, z7, z8, c_les, b_list, l_lay, b_lent, i_tup, bind_ok, List.getElem?_cons_zero, List.getElem?_cons_succ, List.map_cons, List.map_nil, List.replicate, Nat.sub_zero, Nat.reduceSub, List.cons_append, List.nil_append, List.append_nil, List.mapM_cons, List.mapM_nil, Option.pure_def, Option.bind_eq_bind, Option.bind_some, List.any_cons, List.any_nil, id, Bool.or_false, Bool.not_true, Bool.not_false, if_true, if_false, Bool.false_eq_true, reduceIte, List.set_cons_zero, List.set_cons_succ]
theorem tC_on {n st : Nat} {a : Int} {xs : List Int} {s : Sto} (h : Th s l b (rows.map Row.enc) n a xs) (he : ¬ n = rows.length) (hs : st < 200) : test (ph ds (k + 1)) tC (EC x0 l st x3 x4 x5) s = .ok true s := by
  have io := is_over (k := k) h
  rw [List.length_map, decide_eq_false he] at io
  have mi := h.mth1 (m := "is_over") (f := 27) (dd := []) (ord := [0]) rfl
  have d : decide ((st : Int) < 200) = true := decide_eq_true (by omega)
  show ((den (ph ds (k + 1)) tC (EC x0 l st x3 x4 x5) s).bind fun x => tru x) = _
  simp only [tC, EC, mi, io, d, x_cst, x_var, x_tup, x_lst, x_bin, x_neg, x_not, x_cmp, x_cmp2, x_and1, x_and, x_or1, x_or, x_ite, x_idx, x_slc, x_call, x_blt, x_met, x_fld, x_mth, x_mk, y_fset, y_faug, x_isi, x_nil, x_cons, x_c0, x_c1, x_p0, x_p1, y_nil, y_cons, y_set, y_rtn, y_ite, y_exp, decide_true, w_ok, q_nxt, q_rtn, b_rtn, t_bl, r_ret, a_nm, c_lt, c_le, c_gt, c_ge, c_eqi, c_eqs, c_nes, c_eq0, c_ne0, c_in2, z0, z1, z2, z3, z4, z5, z6, z7, z8, c_les, b_list, l_lay, b_lent, i_tup, bind_ok, List.getElem?_cons_zero, List.getElem?_cons_succ, List.map_cons, List.map_nil, List.replicate, Nat.sub_zero, Nat.reduceSub, List.cons_append, List.nil_append, List.append_nil, List.mapM_cons, List.mapM_nil, Option.pure_def, Option.bind_eq_bind, Option.bind_some, List.any_cons, List.any_nil, id, Bool.or_false, Bool.not_true, Bool.not_false, if_true, if_false, Bool.false_eq_true, reduceIte, List.set_cons_zero, List.set_cons_succ]
theorem whl_run (hok : ∀ (i : Nat) (q : Row), rows[i]? = some q → q.ok rows.length i) (hm : rows.length ≤ 1000) : ∀ (m N n st : Nat) (xs xs' : List Int) (st' : Nat) (s : Sto), m < N → st + m < 200 → n ≤ rows.length → Th s l b (rows.map Row.enc) n (200 - (st : Int)) xs → loopP rows m n xs st = some (xs', st') →
    ∃ s' a', whlGo (test (ph ds (k + 8)) tC) (fun ρ s => execs (ph ds (k + 8)) NN ψ0 bC ρ s) N (EC x0 l st x3 x4 x5) s = .ok .nxt (EC x0 l st' x3 x4 x5) s' ∧ Th s' l b (rows.map Row.enc) rows.length a' xs' ∧ Fr [l, b] s s' := by
  intro m
  induction m with
  | zero =>
    intro N n st xs xs' st' s hN hst hn h e
    unfold loopP at e
    split at e
    · rename_i he
      cases e
      cases N with
      | zero => omega
      | succ N =>
        refine ⟨s, _, ?_, he ▸ h, Fr.rfl'⟩
        simp only [whlGo]
        rw [tC_over (k := k + 7) h he]
        rfl
    · cases e
  | succ m ih =>
    intro N n st xs xs' st' s hN hst hn h e
    unfold loopP at e
    cases N with
    | zero => omega
    | succ N =>
      split at e
      · rename_i he
        cases e
        refine ⟨s, _, ?_, he ▸ h, Fr.rfl'⟩
        simp only [whlGo]
        rw [tC_over (k := k + 7) h he]
        rfl
      · rename_i he
        split at e
        · rename_i q hq
          obtain ⟨s1, e1, h1, f1⟩ := step_ok (k := k) h hq (hok n q hq) hm (by omega)
          have ms := h.mth1 (m := "step") (f := 35) (dd := []) (ord := [0]) rfl
          have eb : execs (ph ds (k + 8)) NN ψ0 bC (EC x0 l st x3 x4 x5) s = .ok .nxt (EC x0 l (st + 1) x3 x4 x5) s1 := by
            have en : (st : Int) + 1 = ((st + 1 : Nat) : Int) := by omega
            simp only [bC, EC, ms, e1, o_add, en, x_cst, x_var, x_tup, x_lst, x_bin, x_neg, x_not, x_cmp, x_cmp2, x_and1, x_and, x_or1, x_or, x_ite, x_idx, x_slc, x_call, x_blt, x_met, x_fld, x_mth, x_mk, y_fset, y_faug, x_isi, x_nil, x_cons, x_c0, x_c1, x_p0, x_p1, y_nil, y_cons, y_set, y_rtn, y_ite, y_exp, decide_true, w_ok, q_nxt, q_rtn, b_rtn, t_bl, r_ret, a_nm, c_lt, c_le, c_gt, c_ge, c_eqi, c_eqs, c_nes, c_eq0, c_ne0, c_in2, z0, z1, z2, z3, z4, z5, z6, z7, z8, c_les, b_list, l_lay, b_lent, i_tup, bind_ok, List.getElem?_cons_zero, List.getElem?_cons_succ, List.map_cons, List.map_nil, List.replicate, Nat.sub_zero, Nat.reduceSub, List.cons_append, List.nil_append, List.append_nil, List.mapM_cons, List.mapM_nil, Option.pure_def, Option.bind_eq_bind, Option.bind_some, List.any_cons, List.any_nil, id, Bool.or_false, Bool.not_true, Bool.not_false, if_true, if_false, Bool.false_eq_true, reduceIte, List.set_cons_zero, List.set_cons_succ]
          have ea : (200 : Int) - (st : Int) - 1 = 200 - ((st + 1 : Nat) : Int) := by omega
          rw [ea] at h1
          obtain ⟨s2, a', e2, h2, f2⟩ := ih N _ (st + 1) _ xs' st' s1 (by omega) (by omega) (go_le (hok n q hq) (by omega)) h1 e
          refine ⟨s2, a', ?_, h2, f1.trans f2⟩
          simp only [whlGo]
          rw [tC_on (k := k + 7) h he (by omega), w_ok, if_pos rfl, eb]
          exact e2
        · cases e
end
end K52

namespace K52
open PySem hiding Env exec execs
open L2 Mi MiL MiT
theorem en_set : (W.tup [.str "set", .str "b", .int 1]) = Row.enc (.set 1 1) := by decide +kernel
theorem en_add : (W.tup [.str "add", .str "c", .str "b"]) = Row.enc (.add 2 1) := by decide +kernel
theorem en_less : (W.tup [.str "less", .str "a", .str "b"]) = Row.enc (.less 0 1) := by decide +kernel
theorem en_stop : (W.tup [.str "stop"]) = Row.enc .stop := rfl
theorem en_a : (W.str "a") = ltW 0 := by decide +kernel
theorem en_c : (W.str "c") = ltW 2 := by decide +kernel
theorem b17_eq : b17 = [b17[0], b17[1], b17[2]] := rfl
theorem counted_ok {k p : Nat} {s : Sto} (h : Pot p s) : ∃ (a r rr : Nat) (s' : Sto), a < 7 ∧ r < 3 ∧ ph ds (k + 2) 17 [.loc p] s = .ok (.tup [.int (a : Int), .loc rr, .int ((1 + r : Nat) : Int)]) s' ∧ s'[rr]? = some (.lst ((rowsC (1 + r)).map Row.enc)) := by
  rw [call_eq (d := ⟨1, 5, b17⟩) rfl rfl]
  obtain ⟨a, s1, e1, a7, p1, b1⟩ := take_nat hT (k := k) h 7 (by decide) (by decide)
  obtain ⟨r, s2, e2, r3, p2, b2⟩ := take_nat hT (k := k) p1 3 (by decide) (by decide)
  have en : (1 : Int) + (r : Int) = ((1 + r : Nat) : Int) := by omega
  have t0 : exec (ph ds (k + 1)) NN ψ0 b17[0] [some (.loc p), none, none, none, none] s = .ok .nxt [some (.loc p), none, some (.int (a : Int)), some (.int ((1 + r : Nat) : Int)), none] s2 := by
    simp only [b17, List.getElem_cons_zero, e1, e2, o_add, en, a_tp2t, x_cst, x_var, x_tup, x_lst, x_bin, x_neg, x_not, x_cmp, x_cmp2, x_and1, x_and, x_or1, x_or, x_ite, x_idx, x_slc, x_call, x_blt, x_met, x_fld, x_mth, x_mk, y_fset, y_faug, x_isi, x_nil, x_cons, x_c0, x_c1, x_p0, x_p1, y_nil, y_cons, y_set, y_rtn, y_ite, y_exp, decide_true, w_ok, q_nxt, q_rtn, b_rtn, t_bl, r_ret, a_nm, c_lt, c_le, c_gt, c_ge, c_eqi, c_eqs, c_nes, c_eq0, c_ne0, c_in2, z0, z1, z2, z3, z4, z5, z6, z7, z8, c_les, b_list, l_lay, b_lent, i_tup, bind_ok, List.getElem?_cons_zero, List.getElem?_cons_succ, List.map_cons, List.map_nil, List.replicate, Nat.sub_zero, Nat.reduceSub, List.cons_append, List.nil_append, List.append_nil, List.mapM_cons, List.mapM_nil, Option.pure_def, Option.bind_eq_bind, Option.bind_some, List.any_cons, List.any_nil, id, Bool.or_false, Bool.not_true, Bool.not_false, if_true, if_false, Bool.false_eq_true, reduceIte, List.set_cons_zero, List.set_cons_succ]
  obtain ⟨t, em⟩ := den_lc1 (φ := ph ds (k + 1)) (elt := .tup [(.cst (.str "add")), (.cst (.str "c")), (.cst (.str "b"))]) (tg := .nm 4) (own := [4]) (k := .rng1) (its := [(.var 3)]) (ρ := [some (.loc p), none, some (.int (a : Int)), some (.int ((1 + r : Nat) : Int)), none]) (s := s2) (ws := (List.range (1 + r)).map fun k : Nat => W.int (k : Int)) (vs := [.int ((1 + r : Nat) : Int)]) (n := []) (fun _ => Row.enc (.add 2 1))
    (by simp only [x_cst, x_var, x_tup, x_lst, x_bin, x_neg, x_not, x_cmp, x_cmp2, x_and1, x_and, x_or1, x_or, x_ite, x_idx, x_slc, x_call, x_blt, x_met, x_fld, x_mth, x_mk, y_fset, y_faug, x_isi, x_nil, x_cons, x_c0, x_c1, x_p0, x_p1, y_nil, y_cons, y_set, y_rtn, y_ite, y_exp, decide_true, w_ok, q_nxt, q_rtn, b_rtn, t_bl, r_ret, a_nm, c_lt, c_le, c_gt, c_ge, c_eqi, c_eqs, c_nes, c_eq0, c_ne0, c_in2, z0, z1, z2, z3, z4, z5, z6, z7, z8, c_les, b_list, l_lay, b_lent, i_tup, bind_ok, List.getElem?_cons_zero, List.getElem?_cons_succ, List.map_cons, List.map_nil, List.replicate, Nat.sub_zero, Nat.reduceSub, List.cons_append, List.nil_append, List.append_nil, List.mapM_cons, List.mapM_nil, Option.pure_def, Option.bind_eq_bind, Option.bind_some, List.any_cons, List.any_nil, id, Bool.or_false, Bool.not_true, Bool.not_false, if_true, if_false, Bool.false_eq_true, reduceIte, List.set_cons_zero, List.set_cons_succ]) (i_rng1 (1 + r) s2 (by simp only [SZ]; omega)) (fun _ => rfl) (fun w hw => by
      refine ⟨[some (.loc p), none, some (.int (a : Int)), some (.int ((1 + r : Nat) : Int)), some w], by simp only [bindT, Mi.wipe, List.set_cons_succ, List.set_cons_zero], fun t => ⟨t, ?_⟩⟩
      rw [← en_add]
      simp only [x_cst, x_var, x_tup, x_lst, x_bin, x_neg, x_not, x_cmp, x_cmp2, x_and1, x_and, x_or1, x_or, x_ite, x_idx, x_slc, x_call, x_blt, x_met, x_fld, x_mth, x_mk, y_fset, y_faug, x_isi, x_nil, x_cons, x_c0, x_c1, x_p0, x_p1, y_nil, y_cons, y_set, y_rtn, y_ite, y_exp, decide_true, w_ok, q_nxt, q_rtn, b_rtn, t_bl, r_ret, a_nm, c_lt, c_le, c_gt, c_ge, c_eqi, c_eqs, c_nes, c_eq0, c_ne0, c_in2, z0, z1, z2, z3, z4, z5, z6, z7, z8, c_les, b_list, l_lay, b_lent, i_tup, bind_ok, List.getElem?_cons_zero, List.getElem?_cons_succ, List.map_cons, List.map_nil, List.replicate, Nat.sub_zero, Nat.reduceSub, List.cons_append, List.nil_append, List.append_nil, List.mapM_cons, List.mapM_nil, Option.pure_def, Option.bind_eq_bind, Option.bind_some, List.any_cons, List.any_nil, id, Bool.or_false, Bool.not_true, Bool.not_false, if_true, if_false, Bool.false_eq_true, reduceIte, List.set_cons_zero, List.set_cons_succ])
  have er : ((List.range (1 + r)).map fun k : Nat => W.int (k : Int)).map (fun _ => Row.enc (.add 2 1)) = (List.replicate (1 + r) (Row.add 2 1)).map Row.enc := by
    rw [List.map_map]
    show List.map (fun _ => Row.enc (.add 2 1)) (List.range (1 + r)) = _
    rw [List.map_const', List.length_range, List.map_replicate]
  rw [er] at em
  have t1 : exec (ph ds (k + 1)) NN ψ0 b17[1] [some (.loc p), none, some (.int (a : Int)), some (.int ((1 + r : Nat) : Int)), none] s2 = .ok .nxt [some (.loc p), some (.loc (s2 ++ t).length), some (.int (a : Int)), some (.int ((1 + r : Nat) : Int)), none] (s2 ++ t ++ [SO.lst ((List.replicate (1 + r) (Row.add 2 1)).map Row.enc)]) := by
    simp only [b17, List.getElem_cons_succ, List.getElem_cons_zero, em, x_cst, x_var, x_tup, x_lst, x_bin, x_neg, x_not, x_cmp, x_cmp2, x_and1, x_and, x_or1, x_or, x_ite, x_idx, x_slc, x_call, x_blt, x_met, x_fld, x_mth, x_mk, y_fset, y_faug, x_isi, x_nil, x_cons, x_c0, x_c1, x_p0, x_p1, y_nil, y_cons, y_set, y_rtn, y_ite, y_exp, decide_true, w_ok, q_nxt, q_rtn, b_rtn, t_bl, r_ret, a_nm, c_lt, c_le, c_gt, c_ge, c_eqi, c_eqs, c_nes, c_eq0, c_ne0, c_in2, z0, z1, z2, z3, z4, z5, z6, z7, z8, c_les, b_list, l_lay, b_lent, i_tup, bind_ok, List.getElem?_cons_zero, List.getElem?_cons_succ, List.map_cons, List.map_nil, List.replicate, Nat.sub_zero, Nat.reduceSub, List.cons_append, List.nil_append, List.append_nil, List.mapM_cons, List.mapM_nil, Option.pure_def, Option.bind_eq_bind, Option.bind_some, List.any_cons, List.any_nil, id, Bool.or_false, Bool.not_true, Bool.not_false, if_true, if_false, Bool.false_eq_true, reduceIte, List.set_cons_zero, List.set_cons_succ]
  have hmid : (s2 ++ t ++ [SO.lst ((List.replicate (1 + r) (Row.add 2 1)).map Row.enc)])[(s2 ++ t).length]? = some (.lst ((List.replicate (1 + r) (Row.add 2 1)).map Row.enc)) := get_end _ _
  generalize (s2 ++ t).length = m at *
  generalize s2 ++ t ++ [SO.lst ((List.replicate (1 + r) (Row.add 2 1)).map Row.enc)] = S1 at *
  have a1 : binop .add (.loc S1.length) (.loc m) (S1 ++ [SO.lst [Row.enc (.set 1 1)]]) = .ok (.loc (S1 ++ [SO.lst [Row.enc (.set 1 1)]]).length) (S1 ++ [SO.lst [Row.enc (.set 1 1)]] ++ [SO.lst ([Row.enc (.set 1 1)] ++ (List.replicate (1 + r) (Row.add 2 1)).map Row.enc)]) := add_l (get_end _ _) (get_app hmid) (by simp [SZ]; omega)
  generalize hS2 : S1 ++ [SO.lst [Row.enc (.set 1 1)]] = S2 at *
  have a2 : binop .add (.loc S2.length) (.loc (S2 ++ [SO.lst ([Row.enc (.set 1 1)] ++ (List.replicate (1 + r) (Row.add 2 1)).map Row.enc)]).length) (S2 ++ [SO.lst ([Row.enc (.set 1 1)] ++ (List.replicate (1 + r) (Row.add 2 1)).map Row.enc)] ++ [SO.lst [Row.enc (.less 0 1), Row.enc (.again (1 + r + 1) 0), Row.enc .stop]]) =
      .ok (.loc (S2 ++ [SO.lst ([Row.enc (.set 1 1)] ++ (List.replicate (1 + r) (Row.add 2 1)).map Row.enc)] ++ [SO.lst [Row.enc (.less 0 1), Row.enc (.again (1 + r + 1) 0), Row.enc .stop]]).length) (S2 ++ [SO.lst ([Row.enc (.set 1 1)] ++ (List.replicate (1 + r) (Row.add 2 1)).map Row.enc)] ++ [SO.lst [Row.enc (.less 0 1), Row.enc (.again (1 + r + 1) 0), Row.enc .stop]] ++ [SO.lst (([Row.enc (.set 1 1)] ++ (List.replicate (1 + r) (Row.add 2 1)).map Row.enc) ++ [Row.enc (.less 0 1), Row.enc (.again (1 + r + 1) 0), Row.enc .stop])]) :=
    add_l (get_app (get_end _ _)) (get_end _ _) (by simp [SZ]; omega)
  have ec : (([Row.enc (.set 1 1)] ++ (List.replicate (1 + r) (Row.add 2 1)).map Row.enc) ++ [Row.enc (.less 0 1), Row.enc (.again (1 + r + 1) 0), Row.enc .stop]) = (rowsC (1 + r)).map Row.enc := by
    unfold rowsC
    simp only [List.map_append, List.map_cons, List.map_nil]
  rw [ec] at a2
  generalize [Row.enc (.set 1 1)] ++ (List.replicate (1 + r) (Row.add 2 1)).map Row.enc = Lh at *
  have ea : (W.tup [.str "again", .int (((1 + r : Nat) : Int) + 1), .str "a"]) = Row.enc (.again (1 + r + 1) 0) := by
    rw [en_a]; rfl
  refine ⟨a, r, (S2 ++ [SO.lst (Lh)] ++ [SO.lst [Row.enc (.less 0 1), Row.enc (.again (1 + r + 1) 0), Row.enc .stop]]).length, S2 ++ [SO.lst (Lh)] ++ [SO.lst [Row.enc (.less 0 1), Row.enc (.again (1 + r + 1) 0), Row.enc .stop]] ++ [SO.lst ((rowsC (1 + r)).map Row.enc)], by omega, by omega, ?_, get_end _ _⟩
  show bodyRes (execs (ph ds (k + 1)) NN ψ0 b17 [some (.loc p), none, none, none, none] s) = _
  rw [b17_eq, y_cons, t0, q_nxt, y_cons, t1, q_nxt]
  simp only [b17, List.getElem_cons_succ, List.getElem_cons_zero, en_set, en_less, en_stop, hS2, a1, o_add, ea, a2, x_cst, x_var, x_tup, x_lst, x_bin, x_neg, x_not, x_cmp, x_cmp2, x_and1, x_and, x_or1, x_or, x_ite, x_idx, x_slc, x_call, x_blt, x_met, x_fld, x_mth, x_mk, y_fset, y_faug, x_isi, x_nil, x_cons, x_c0, x_c1, x_p0, x_p1, y_nil, y_cons, y_set, y_rtn, y_ite, y_exp, decide_true, w_ok, q_nxt, q_rtn, b_rtn, t_bl, r_ret, a_nm, c_lt, c_le, c_gt, c_ge, c_eqi, c_eqs, c_nes, c_eq0, c_ne0, c_in2, z0, z1, z2, z3, z4, z5, z6, z7, z8, c_les, b_list, l_lay, b_lent, i_tup, bind_ok, List.getElem?_cons_zero, List.getElem?_cons_succ, List.map_cons, List.map_nil, List.replicate, Nat.sub_zero, Nat.reduceSub, List.cons_append, List.nil_append, List.append_nil, List.mapM_cons, List.mapM_nil, Option.pure_def, Option.bind_eq_bind, Option.bind_some, List.any_cons, List.any_nil, id, Bool.or_false, Bool.not_true, Bool.not_false, if_true, if_false, Bool.false_eq_true, reduceIte, List.set_cons_zero, List.set_cons_succ]
end K52

namespace K52
open PySem hiding Env exec execs
open L2 Mi MiL MiT
theorem b23_eq : b23 = [b23[0], b23[1], b23[2], .whl tC bC, b23[4]] := rfl
theorem count_ok {k p : Nat} {s : Sto} (h : Pot p s) : ∃ s', ph ds (k + 9) 23 [.loc p] s = .ok (.bl true) s' := by
  rw [call_eq (d := ⟨1, 6, b23⟩) rfl rfl]
  obtain ⟨a, r, rr, s1, a7, r3, e1, h1⟩ := counted_ok (k := k + 6) h
  have t0 : exec (ph ds (k + 8)) NN ψ0 b23[0] [some (.loc p), none, none, none, none, none] s = .ok .nxt [some (.loc p), none, none, some (.int (a : Int)), some (.loc rr), some (.int ((1 + r : Nat) : Int))] s1 := by
    simp only [b23, List.getElem_cons_zero, e1, a_tp3t, x_cst, x_var, x_tup, x_lst, x_bin, x_neg, x_not, x_cmp, x_cmp2, x_and1, x_and, x_or1, x_or, x_ite, x_idx, x_slc, x_call, x_blt, x_met, x_fld, x_mth, x_mk, y_fset, y_faug, x_isi, x_nil, x_cons, x_c0, x_c1, x_p0, x_p1, y_nil, y_cons, y_set, y_rtn, y_ite, y_exp, decide_true, w_ok, q_nxt, q_rtn, b_rtn, t_bl, r_ret, a_nm, c_lt, c_le, c_gt, c_ge, c_eqi, c_eqs, c_nes, c_eq0, c_ne0, c_in2, z0, z1, z2, z3, z4, z5, z6, z7, z8, c_les, b_list, l_lay, b_lent, i_tup, bind_ok, List.getElem?_cons_zero, List.getElem?_cons_succ, List.map_cons, List.map_nil, List.replicate, Nat.sub_zero, Nat.reduceSub, List.cons_append, List.nil_append, List.append_nil, List.mapM_cons, List.mapM_nil, Option.pure_def, Option.bind_eq_bind, Option.bind_some, List.any_cons, List.any_nil, id, Bool.or_false, Bool.not_true, Bool.not_false, if_true, if_false, Bool.false_eq_true, reduceIte, List.set_cons_zero, List.set_cons_succ]
  have em := mk_ok (k := k + 7) (ρ := [some (.loc p), none, none, some (.int (a : Int)), some (.loc rr), some (.int ((1 + r : Nat) : Int))]) (es := [(.var 4), (.cst (.int 200)), (.bin .add (.var 3) (.cst (.int 1)))]) h1 200 ((a : Int) + 1) (by simp only [o_add, x_cst, x_var, x_tup, x_lst, x_bin, x_neg, x_not, x_cmp, x_cmp2, x_and1, x_and, x_or1, x_or, x_ite, x_idx, x_slc, x_call, x_blt, x_met, x_fld, x_mth, x_mk, y_fset, y_faug, x_isi, x_nil, x_cons, x_c0, x_c1, x_p0, x_p1, y_nil, y_cons, y_set, y_rtn, y_ite, y_exp, decide_true, w_ok, q_nxt, q_rtn, b_rtn, t_bl, r_ret, a_nm, c_lt, c_le, c_gt, c_ge, c_eqi, c_eqs, c_nes, c_eq0, c_ne0, c_in2, z0, z1, z2, z3, z4, z5, z6, z7, z8, c_les, b_list, l_lay, b_lent, i_tup, bind_ok, List.getElem?_cons_zero, List.getElem?_cons_succ, List.map_cons, List.map_nil, List.replicate, Nat.sub_zero, Nat.reduceSub, List.cons_append, List.nil_append, List.append_nil, List.mapM_cons, List.mapM_nil, Option.pure_def, Option.bind_eq_bind, Option.bind_some, List.any_cons, List.any_nil, id, Bool.or_false, Bool.not_true, Bool.not_false, if_true, if_false, Bool.false_eq_true, reduceIte, List.set_cons_zero, List.set_cons_succ])
  have t1 : exec (ph ds (k + 8)) NN ψ0 b23[1] [some (.loc p), none, none, some (.int (a : Int)), some (.loc rr), some (.int ((1 + r : Nat) : Int))] s1 = .ok .nxt [some (.loc p), some (.loc s1.length), none, some (.int (a : Int)), some (.loc rr), some (.int ((1 + r : Nat) : Int))] (s1 ++ [SO.ins 0 (TF ((rowsC (1 + r)).map Row.enc) 0 200 (s1.length + 1))] ++ [SO.dct (bx [(a : Int) + 1, 0, 0, 0, 0, 0])]) := by
    simp only [b23, List.getElem_cons_succ, List.getElem_cons_zero, em, x_cst, x_var, x_tup, x_lst, x_bin, x_neg, x_not, x_cmp, x_cmp2, x_and1, x_and, x_or1, x_or, x_ite, x_idx, x_slc, x_call, x_blt, x_met, x_fld, x_mth, x_mk, y_fset, y_faug, x_isi, x_nil, x_cons, x_c0, x_c1, x_p0, x_p1, y_nil, y_cons, y_set, y_rtn, y_ite, y_exp, decide_true, w_ok, q_nxt, q_rtn, b_rtn, t_bl, r_ret, a_nm, c_lt, c_le, c_gt, c_ge, c_eqi, c_eqs, c_nes, c_eq0, c_ne0, c_in2, z0, z1, z2, z3, z4, z5, z6, z7, z8, c_les, b_list, l_lay, b_lent, i_tup, bind_ok, List.getElem?_cons_zero, List.getElem?_cons_succ, List.map_cons, List.map_nil, List.replicate, Nat.sub_zero, Nat.reduceSub, List.cons_append, List.nil_append, List.append_nil, List.mapM_cons, List.mapM_nil, Option.pure_def, Option.bind_eq_bind, Option.bind_some, List.any_cons, List.any_nil, id, Bool.or_false, Bool.not_true, Bool.not_false, if_true, if_false, Bool.false_eq_true, reduceIte, List.set_cons_zero, List.set_cons_succ]
  have th : Th (s1 ++ [SO.ins 0 (TF ((rowsC (1 + r)).map Row.enc) 0 200 (s1.length + 1))] ++ [SO.dct (bx [(a : Int) + 1, 0, 0, 0, 0, 0])]) s1.length (s1.length + 1) ((rowsC (1 + r)).map Row.enc) 0 200 [(a : Int) + 1, 0, 0, 0, 0, 0] := th_new
  generalize s1.length = l at *
  generalize s1 ++ [SO.ins 0 (TF ((rowsC (1 + r)).map Row.enc) 0 200 (l + 1))] ++ [SO.dct (bx [(a : Int) + 1, 0, 0, 0, 0, 0])] = s2 at *
  have t2 : exec (ph ds (k + 8)) NN ψ0 b23[2] [some (.loc p), some (.loc l), none, some (.int (a : Int)), some (.loc rr), some (.int ((1 + r : Nat) : Int))] s2 = .ok .nxt (EC (some (.loc p)) l 0 (some (.int (a : Int))) (some (.loc rr)) (some (.int ((1 + r : Nat) : Int)))) s2 := by
    simp only [b23, List.getElem_cons_succ, List.getElem_cons_zero, EC, x_cst, x_var, x_tup, x_lst, x_bin, x_neg, x_not, x_cmp, x_cmp2, x_and1, x_and, x_or1, x_or, x_ite, x_idx, x_slc, x_call, x_blt, x_met, x_fld, x_mth, x_mk, y_fset, y_faug, x_isi, x_nil, x_cons, x_c0, x_c1, x_p0, x_p1, y_nil, y_cons, y_set, y_rtn, y_ite, y_exp, decide_true, w_ok, q_nxt, q_rtn, b_rtn, t_bl, r_ret, a_nm, c_lt, c_le, c_gt, c_ge, c_eqi, c_eqs, c_nes, c_eq0, c_ne0, c_in2, z0, z1, z2, z3, z4, z5, z6, z7, z8, c_les, b_list, l_lay, b_lent, i_tup, bind_ok, List.getElem?_cons_zero, List.getElem?_cons_succ, List.map_cons, List.map_nil, List.replicate, Nat.sub_zero, Nat.reduceSub, List.cons_append, List.nil_append, List.append_nil, List.mapM_cons, List.mapM_nil, Option.pure_def, Option.bind_eq_bind, Option.bind_some, List.any_cons, List.any_nil, id, Bool.or_false, Bool.not_true, Bool.not_false, if_true, if_false, Bool.false_eq_true, reduceIte, List.set_cons_zero, List.set_cons_succ]
    rfl
  have hal := loopP_all ⟨a, a7⟩ ⟨r, r3⟩
  dsimp only at hal
  cases hlp : loopP (rowsC (1 + r)) 60 0 [(a : Int) + 1, 0, 0, 0, 0, 0] 0 with
  | none => rw [hlp] at hal; cases hal
  | some q =>
    obtain ⟨xs, st⟩ := q
    rw [hlp] at hal
    simp only [endB, Bool.and_eq_true, decide_eq_true_eq] at hal
    obtain ⟨q1, q2, q3⟩ := hal
    have hok : ∀ (i : Nat) (q : Row), (rowsC (1 + r))[i]? = some q → q.ok (rowsC (1 + r)).length i := allOk_ok (rowsC_ok ⟨r, r3⟩)
    have hlen : (rowsC (1 + r)).length ≤ 1000 := by unfold rowsC; simp; omega
    obtain ⟨s3, a', e3, th3, _⟩ := whl_run (k := k) (x0 := some (.loc p)) (x3 := some (.int (a : Int))) (x4 := some (.loc rr)) (x5 := some (.int ((1 + r : Nat) : Int))) hok hlen 60 NN 0 0 [(a : Int) + 1, 0, 0, 0, 0, 0] xs st s2 (by decide) (by decide) (Nat.zero_le _) th hlp
    have t3 : exec (ph ds (k + 8)) NN ψ0 (.whl tC bC) (EC (some (.loc p)) l 0 (some (.int (a : Int))) (some (.loc rr)) (some (.int ((1 + r : Nat) : Int)))) s2 = .ok .nxt (EC (some (.loc p)) l st (some (.int (a : Int))) (some (.loc rr)) (some (.int ((1 + r : Nat) : Int)))) s3 := by
      rw [y_whl]; exact e3
    have th4 := th3.app [SO.dct (bx xs)]
    have m1 := th3.mth1 (m := "boxes") (f := 30) (dd := []) (ord := [0]) rfl
    have m2 := th4.mth1 (m := "boxes") (f := 30) (dd := []) (ord := [0]) rfl
    have o1 := boxes_of (k := k + 7) th3
    have o2 := boxes_of (k := k + 7) th4
    have g2 : xs[2]? = some (xs.getD 2 0) := getD_at (by rw [th3.len]; decide)
    have g0 : xs[0]? = some (xs.getD 0 0) := getD_at (by rw [th3.len]; decide)
    have i1 : idxW (.loc s3.length) (.str "c") (s3 ++ [SO.dct (bx xs)]) = .ok (.int (xs.getD 2 0)) (s3 ++ [SO.dct (bx xs)]) := by rw [en_c]; exact idx_bx (get_end _ _) g2
    have i2 : idxW (.loc (s3 ++ [SO.dct (bx xs)]).length) (.str "a") (s3 ++ [SO.dct (bx xs)] ++ [SO.dct (bx xs)]) = .ok (.int (xs.getD 0 0)) (s3 ++ [SO.dct (bx xs)] ++ [SO.dct (bx xs)]) := by rw [en_a]; exact idx_bx (get_end _ _) g0
    have lg : ∀ (x y : Nat), x ≤ 100 → y ≤ 100 → (x : Int).natAbs.log2 + (y : Int).natAbs.log2 < 1000000 := fun x y hx hy => by
      have h1 : (x : Int).natAbs.log2 ≤ 7 := log_lt (by show x < 128; omega)
      have h2 : (y : Int).natAbs.log2 ≤ 7 := log_lt (by show y < 128; omega)
      omega
    have ea1 : (a : Int) + 1 = ((a + 1 : Nat) : Int) := by omega
    have er2 : ((1 + r : Nat) : Int) + 2 = ((1 + r + 2 : Nat) : Int) := by omega
    have u1 : ∀ s, binop .mul (.int ((1 + r : Nat) : Int)) (.int ((a + 1 : Nat) : Int)) s = .ok (.int (((1 + r : Nat) : Int) * ((a + 1 : Nat) : Int))) s := fun s => o_mul _ _ _ (lg _ _ (by omega) (by omega))
    have u2 : ∀ s, binop .mul (.int ((1 + r + 2 : Nat) : Int)) (.int ((a + 1 : Nat) : Int)) s = .ok (.int (((1 + r + 2 : Nat) : Int) * ((a + 1 : Nat) : Int))) s := fun s => o_mul _ _ _ (lg _ _ (by omega) (by omega))
    have d1 : decide (xs.getD 2 0 = ((1 + r : Nat) : Int) * ((a + 1 : Nat) : Int)) = true := decide_eq_true (by rw [q1, ea1])
    have d2 : decide (xs.getD 0 0 = 0) = true := decide_eq_true q2
    have d3 : decide ((st : Int) = 2 + ((1 + r + 2 : Nat) : Int) * ((a + 1 : Nat) : Int)) = true := decide_eq_true (by rw [q3]; push_cast; rfl)
    refine ⟨s3 ++ [SO.dct (bx xs)] ++ [SO.dct (bx xs)], ?_⟩
    show bodyRes (execs (ph ds (k + 8)) NN ψ0 b23 [some (.loc p), none, none, none, none, none] s) = _
    rw [b23_eq, y_cons, t0, q_nxt, y_cons, t1, q_nxt, y_cons, t2, q_nxt, y_cons, t3, q_nxt]
    simp only [b23, List.getElem_cons_succ, List.getElem_cons_zero, EC, m1, m2, o1, o2, i1, i2, o_add, ea1, er2, u1, u2, d1, d2, d3, x_cst, x_var, x_tup, x_lst, x_bin, x_neg, x_not, x_cmp, x_cmp2, x_and1, x_and, x_or1, x_or, x_ite, x_idx, x_slc, x_call, x_blt, x_met, x_fld, x_mth, x_mk, y_fset, y_faug, x_isi, x_nil, x_cons, x_c0, x_c1, x_p0, x_p1, y_nil, y_cons, y_set, y_rtn, y_ite, y_exp, decide_true, w_ok, q_nxt, q_rtn, b_rtn, t_bl, r_ret, a_nm, c_lt, c_le, c_gt, c_ge, c_eqi, c_eqs, c_nes, c_eq0, c_ne0, c_in2, z0, z1, z2, z3, z4, z5, z6, z7, z8, c_les, b_list, l_lay, b_lent, i_tup, bind_ok, List.getElem?_cons_zero, List.getElem?_cons_succ, List.map_cons, List.map_nil, List.replicate, Nat.sub_zero, Nat.reduceSub, List.cons_append, List.nil_append, List.append_nil, List.mapM_cons, List.mapM_nil, Option.pure_def, Option.bind_eq_bind, Option.bind_some, List.any_cons, List.any_nil, id, Bool.or_false, Bool.not_true, Bool.not_false, if_true, if_false, Bool.false_eq_true, reduceIte, List.set_cons_zero, List.set_cons_succ]
abbrev hP : ds[12]? = some ⟨2, 3, bPot⟩ := rfl
abbrev KK : Nat := 60
abbrev bodyL : List S := [(.set (.nm 2) (.call 12 [(.var 0), (.var 1)] [] [0, 1])), (.ite (.or [(.not (.call 22 [(.var 2)] [] [0])), (.not (.call 23 [(.var 2)] [] [0]))]) [(.rtn (.cst (.bl false)))] [])]
abbrev envL (xs : List W) (a b : Option W) : Env := [some (.frl xs), a, b]
theorem turn_ok {xs : List W} (hx : ∀ x ∈ xs, ∃ i : Int, x = .int i) (j : Nat) (hj : j < 16) (b : Option W) (s : Sto) :
    ∃ b' s', execs (ph ds 59) NN ψ0 bodyL (envL xs (some (.int (j : Int))) b) s = .ok .nxt (envL xs (some (.int (j : Int))) b') s' := by
  obtain ⟨pa, pb, h1, h2, h3, e1⟩ := pot_ok hP (k := 58) (s := s) hx j hj
  have P1 : Pot s.length (s ++ [SO.lst [.int pa, .int pb]]) := ⟨pa, pb, h1, h2, h3, by simp⟩
  generalize s.length = p at e1 P1
  generalize s ++ [SO.lst [.int pa, .int pb]] = s1 at e1 P1
  obtain ⟨s2, e2, P2⟩ := right_ok (k := 50) P1
  obtain ⟨s3, e3⟩ := count_ok (k := 50) P2
  exact ⟨some (.loc p), s3, by simp only [bodyL, envL, e1, e2, e3, x_cst, x_var, x_tup, x_lst, x_bin, x_neg, x_not, x_cmp, x_cmp2, x_and1, x_and, x_or1, x_or, x_ite, x_idx, x_slc, x_call, x_blt, x_met, x_fld, x_mth, x_mk, y_fset, y_faug, x_isi, x_nil, x_cons, x_c0, x_c1, x_p0, x_p1, y_nil, y_cons, y_set, y_rtn, y_ite, y_exp, decide_true, w_ok, q_nxt, q_rtn, b_rtn, t_bl, r_ret, a_nm, c_lt, c_le, c_gt, c_ge, c_eqi, c_eqs, c_nes, c_eq0, c_ne0, c_in2, z0, z1, z2, z3, z4, z5, z6, z7, z8, c_les, b_list, l_lay, b_lent, i_tup, bind_ok, List.getElem?_cons_zero, List.getElem?_cons_succ, List.map_cons, List.map_nil, List.replicate, Nat.sub_zero, Nat.reduceSub, List.cons_append, List.nil_append, List.append_nil, List.mapM_cons, List.mapM_nil, Option.pure_def, Option.bind_eq_bind, Option.bind_some, List.any_cons, List.any_nil, id, Bool.or_false, Bool.not_true, Bool.not_false, if_true, if_false, Bool.false_eq_true, reduceIte, List.set_cons_zero, List.set_cons_succ]⟩
theorem run (ns : List Int) (h : ns.length ≤ 63) : wp (ph ds KK 24 [.frl (ns.map W.int)] []) fun w _ => w = .bl true := by
  rw [call_eq (k := 59) (d := ⟨1, 3, b24⟩) rfl rfl]
  have hx : ∀ x ∈ ns.map W.int, ∃ i : Int, x = .int i := fun x hx => by
    obtain ⟨i, _, rfl⟩ := List.mem_map.mp hx
    exact ⟨i, rfl⟩
  generalize ns.map W.int = xs at hx
  have hb : b24 = (.for (.nm 1) .rng1 [(.blt .max [(.cst (.int 1)), (.blt .min [(.cst (.int 6)), (.blt .len [(.var 0)])])])] bodyL) :: b24.tail := rfl
  have hn : ∃ n : Nat, n ≤ 6 ∧ (if (if (xs.length : Int) < 6 then (xs.length : Int) else 6) > 1 then (if (xs.length : Int) < 6 then (xs.length : Int) else 6) else 1) = (n : Int) := by
    by_cases h1 : (xs.length : Int) < 6
    · rw [if_pos h1]
      by_cases h2 : (xs.length : Int) > 1
      · rw [if_pos h2]; exact ⟨xs.length, by omega, rfl⟩
      · rw [if_neg h2]; exact ⟨1, by omega, rfl⟩
    · rw [if_neg h1]; exact ⟨6, by omega, rfl⟩
  obtain ⟨n, n6, hn⟩ := hn
  have hd : dens (ph ds 59) [(.blt .max [(.cst (.int 1)), (.blt .min [(.cst (.int 6)), (.blt .len [(.var 0)])])])] (envL xs none none) [] = .ok [.int (n : Int)] [] := by
    simp only [envL, b_lenf, b_min, b_max, hn, x_cst, x_var, x_tup, x_lst, x_bin, x_neg, x_not, x_cmp, x_cmp2, x_and1, x_and, x_or1, x_or, x_ite, x_idx, x_slc, x_call, x_blt, x_met, x_fld, x_mth, x_mk, y_fset, y_faug, x_isi, x_nil, x_cons, x_c0, x_c1, x_p0, x_p1, y_nil, y_cons, y_set, y_rtn, y_ite, y_exp, decide_true, w_ok, q_nxt, q_rtn, b_rtn, t_bl, r_ret, a_nm, c_lt, c_le, c_gt, c_ge, c_eqi, c_eqs, c_nes, c_eq0, c_ne0, c_in2, z0, z1, z2, z3, z4, z5, z6, z7, z8, c_les, b_list, l_lay, b_lent, i_tup, bind_ok, List.getElem?_cons_zero, List.getElem?_cons_succ, List.map_cons, List.map_nil, List.replicate, Nat.sub_zero, Nat.reduceSub, List.cons_append, List.nil_append, List.append_nil, List.mapM_cons, List.mapM_nil, Option.pure_def, Option.bind_eq_bind, Option.bind_some, List.any_cons, List.any_nil, id, Bool.or_false, Bool.not_true, Bool.not_false, if_true, if_false, Bool.false_eq_true, reduceIte, List.set_cons_zero, List.set_cons_succ]
  have loop := for_inv (bind := fun w ρ => asg (ph ds 59) (.nm 1) w ρ) (body := fun ρ s => execs (ph ds 59) NN ψ0 bodyL ρ s) (chk := fun s => stays s [])
    (fun ρ _ => ∃ a b, ρ = envL xs a b) (fun _ => rfl) ((List.range n).map fun k : Nat => W.int (k : Int)) (envL xs none none) [] (fun w hw ρ s hP => by
      obtain ⟨j, hj, rfl⟩ := List.mem_map.mp hw
      obtain ⟨a, b, rfl⟩ := hP
      have hj : j < n := List.mem_range.mp hj
      obtain ⟨b', s', q⟩ := turn_ok hx j (by omega) b s
      refine ⟨envL xs (some (.int (j : Int))) b, by simp only [envL, x_cst, x_var, x_tup, x_lst, x_bin, x_neg, x_not, x_cmp, x_cmp2, x_and1, x_and, x_or1, x_or, x_ite, x_idx, x_slc, x_call, x_blt, x_met, x_fld, x_mth, x_mk, y_fset, y_faug, x_isi, x_nil, x_cons, x_c0, x_c1, x_p0, x_p1, y_nil, y_cons, y_set, y_rtn, y_ite, y_exp, decide_true, w_ok, q_nxt, q_rtn, b_rtn, t_bl, r_ret, a_nm, c_lt, c_le, c_gt, c_ge, c_eqi, c_eqs, c_nes, c_eq0, c_ne0, c_in2, z0, z1, z2, z3, z4, z5, z6, z7, z8, c_les, b_list, l_lay, b_lent, i_tup, bind_ok, List.getElem?_cons_zero, List.getElem?_cons_succ, List.map_cons, List.map_nil, List.replicate, Nat.sub_zero, Nat.reduceSub, List.cons_append, List.nil_append, List.append_nil, List.mapM_cons, List.mapM_nil, Option.pure_def, Option.bind_eq_bind, Option.bind_some, List.any_cons, List.any_nil, id, Bool.or_false, Bool.not_true, Bool.not_false, if_true, if_false, Bool.false_eq_true, reduceIte, List.set_cons_zero, List.set_cons_succ], ?_⟩
      show wpS (execs (ph ds 59) NN ψ0 bodyL _ s) _
      rw [q]
      exact ⟨rfl, _, _, rfl⟩) ⟨_, _, rfl⟩
  show wp (bodyRes (execs (ph ds 59) NN ψ0 b24 (envL xs none none) [])) _
  obtain ⟨ρ, s, e, a, b, rfl⟩ := wpS_ok loop
  rw [hb, y_cons, y_for, hd, bind_ok, i_rng1 n [] (by simp only [SZ]; omega), w_ok, e, q_nxt]
  have fin : bodyRes (execs (ph ds 59) NN ψ0 b24.tail (envL xs a b) s) = .ok (.bl true) s := by
    simp only [b24, List.tail_cons, envL, x_cst, x_var, x_tup, x_lst, x_bin, x_neg, x_not, x_cmp, x_cmp2, x_and1, x_and, x_or1, x_or, x_ite, x_idx, x_slc, x_call, x_blt, x_met, x_fld, x_mth, x_mk, y_fset, y_faug, x_isi, x_nil, x_cons, x_c0, x_c1, x_p0, x_p1, y_nil, y_cons, y_set, y_rtn, y_ite, y_exp, decide_true, w_ok, q_nxt, q_rtn, b_rtn, t_bl, r_ret, a_nm, c_lt, c_le, c_gt, c_ge, c_eqi, c_eqs, c_nes, c_eq0, c_ne0, c_in2, z0, z1, z2, z3, z4, z5, z6, z7, z8, c_les, b_list, l_lay, b_lent, i_tup, bind_ok, List.getElem?_cons_zero, List.getElem?_cons_succ, List.map_cons, List.map_nil, List.replicate, Nat.sub_zero, Nat.reduceSub, List.cons_append, List.nil_append, List.append_nil, List.mapM_cons, List.mapM_nil, Option.pure_def, Option.bind_eq_bind, Option.bind_some, List.any_cons, List.any_nil, id, Bool.or_false, Bool.not_true, Bool.not_false, if_true, if_false, Bool.false_eq_true, reduceIte, List.set_cons_zero, List.set_cons_succ]
  rw [fin]
  exact rfl
end K52

namespace K52
open PySem hiding Env exec execs
open L2 Mi MiL PyProof.Rows
theorem walk {l : PySem.W.OpenLaw} {q : Program} {loose : List Str} {XP : (Str → Option Value) → Heap → Prop} {YP : World → Heap → Prop} {d : DefRec} {K : Params → PySem.W.Frag} (hn : l.most = some 63) (hdf : d.params.defaults = []) (hq : importsNone q = true) (hd : d.name = "law")
    (hY : ∀ (w : World) (h : Heap), YP w h → (K w.params).In h)
    (F : ∀ (w : World) (mg : Str → Option Value) (h : Heap), (K w.params).In h → h.Ns mainGlobals mg → ∃ G : Gs, G.K = K w.params ∧ G.prm = w.params ∧ ∀ x e, (x, e) ∈ gt → StatOk G mg gt ds x e) :
    PySem.W.WalkO q loose XP YP l.row.toRowW d [] (fun f vs => PySem.call f vs) :=
  walkG (N := NN) (ψ := ψ0) (n := 63) (k := KK) (iL := 24) (ds := ds) (gt := gt) (shL := [lawShape]) hn (by decide) hdf ⟨rfl, by decide, by decide⟩ hq hY (by rw [hd]; rfl) (by simp) rfl run F
end K52
open PySem PySem.W PyProof.Rows in
set_option maxRecDepth 100000 in
set_option maxHeartbeats 0 in
theorem PySem.Challenge.cw_oneincommon_k52_skip_and_again_holds : PySem.Challenge.rw_oneincommon_k52_skip_and_again.Holds := by
  w_on; o_law; k_head; (case hw => w_witness2)
  k_fill
  refine K52.walk (l := PySem.Challenge.rw_oneincommon_k52_skip_and_again) rfl rfl rfl rfl (fun w h Y => PySem.W.kIn_of Y) ?F
  case F =>
    intro w mg h KX Gn
    refine' K52.all_mk (P := w.params) KX Gn ?z0 ?z1 ?z2 ?z3 ?z4 ?z5 ?z6 ?z7 ?tz0 ?tl0 ?tz1 ?tl1 ?dz0 ?dl0 ?dk0 ?do0 ?dz1 ?dl1 ?dk1 ?do1 ?ca0 ?cg0 ?ch0 ?co0 ?cs0 ?cm0 ?ck0 ?cf0_0 ?cf0_1 ?cf0_2 ?cf0_3 ?a0 ?l0 ?e0 ?k0 ?a1 ?l1 ?e1 ?k1 ?a2 ?l2 ?e2 ?k2 ?a3 ?l3 ?e3 ?k3 ?a4 ?l4 ?e4 ?k4 ?a5 ?l5 ?e5 ?k5 ?a6 ?l6 ?e6 ?k6 ?a7 ?l7 ?e7 ?k7 ?a8 ?l8 ?e8 ?k8 ?a9 ?l9 ?e9 ?k9 ?a10 ?l10 ?e10 ?k10 ?a11 ?l11 ?e11 ?k11 ?a12 ?l12 ?e12 ?k12 ?a13 ?l13 ?e13 ?k13 ?a14 ?l14 ?e14 ?k14 ?a15 ?l15 ?e15 ?k15 ?a16 ?l16 ?e16 ?k16 ?a17 ?l17 ?e17 ?k17 ?a18 ?l18 ?e18 ?k18 ?a19 ?l19 ?e19 ?k19 ?a20 ?l20 ?e20 ?k20 ?a21 ?l21 ?e21 ?k21 ?a22 ?l22 ?e22 ?k22 ?a23 ?l23 ?e23 ?k23 ?a24 ?l24 ?e24 ?k24 ?a25 ?i25 ?l25 ?e25 ?k25 ?kn25_0 ?a26 ?i26 ?l26 ?e26 ?k26 ?a27 ?i27 ?l27 ?e27 ?k27 ?a28 ?i28 ?l28 ?e28 ?k28 ?a29 ?i29 ?l29 ?e29 ?k29 ?a30 ?i30 ?l30 ?e30 ?k30 ?a31 ?i31 ?l31 ?e31 ?k31 ?a32 ?i32 ?l32 ?e32 ?k32 ?a33 ?i33 ?l33 ?e33 ?k33 ?a34 ?i34 ?l34 ?e34 ?k34 ?a35 ?i35 ?l35 ?e35 ?k35 ?y0 ?y1 ?y2 ?y3 ?y4 ?y5 ?y6 ?y7 ?y8 ?y9 ?y10 ?y11 ?y12 ?y13 ?y14 ?y15 ?y16
    (case z0 => k_is)
    (case z1 => k_is)
    (case z2 => k_is)
    (case z3 => k_is)
    (case z4 => k_is)
    (case z5 => k_is)
    (case z6 => k_is)
    (case z7 => k_is)
    (case tz0 => k_is)
    (case tl0 => k_is)
    (case tz1 => k_is)
    (case tl1 => k_is)
    (case dz0 => k_is)
    (case dl0 => k_is)
    (case dk0 => k_keys)
    (case do0 => decide)
    (case dz1 => k_is)
    (case dl1 => k_is)
    (case dk1 => k_keys)
    (case do1 => decide)
    (case ca0 => k_is)
    (case cg0 => k_is)
    (case ch0 => k_is)
    (case co0 => k_is)
    (case cs0 => k_is)
    (case cm0 => k_is)
    (case ck0 => k_is)
    (case cf0_0 => k_is)
    (case cf0_1 => k_is)
    (case cf0_2 => k_is)
    (case cf0_3 => k_is)
    (case a0 => k_is)
    (case l0 => k_is)
    (case e0 => k_is)
    (case k0 => k_is)
    (case a1 => k_is)
    (case l1 => k_is)
    (case e1 => k_is)
    (case k1 => k_is)
    (case a2 => k_is)
    (case l2 => k_is)
    (case e2 => k_is)
    (case k2 => k_is)
    (case a3 => k_is)
    (case l3 => k_is)
    (case e3 => k_is)
    (case k3 => k_is)
    (case a4 => k_is)
    (case l4 => k_is)
    (case e4 => k_is)
    (case k4 => k_is)
    (case a5 => k_is)
    (case l5 => k_is)
    (case e5 => k_is)
    (case k5 => k_is)
    (case a6 => k_is)
    (case l6 => k_is)
    (case e6 => k_is)
    (case k6 => k_is)
    (case a7 => k_is)
    (case l7 => k_is)
    (case e7 => k_is)
    (case k7 => k_is)
    (case a8 => k_is)
    (case l8 => k_is)
    (case e8 => k_is)
    (case k8 => k_is)
    (case a9 => k_is)
    (case l9 => k_is)
    (case e9 => k_is)
    (case k9 => k_is)
    (case a10 => k_is)
    (case l10 => k_is)
    (case e10 => k_is)
    (case k10 => k_is)
    (case a11 => k_is)
    (case l11 => k_is)
    (case e11 => k_is)
    (case k11 => k_is)
    (case a12 => k_is)
    (case l12 => k_is)
    (case e12 => k_is)
    (case k12 => k_is)
    (case a13 => k_is)
    (case l13 => k_is)
    (case e13 => k_is)
    (case k13 => k_is)
    (case a14 => k_is)
    (case l14 => k_is)
    (case e14 => k_is)
    (case k14 => k_is)
    (case a15 => k_is)
    (case l15 => k_is)
    (case e15 => k_is)
    (case k15 => k_is)
    (case a16 => k_is)
    (case l16 => k_is)
    (case e16 => k_is)
    (case k16 => k_is)
    (case a17 => k_is)
    (case l17 => k_is)
    (case e17 => k_is)
    (case k17 => k_is)
    (case a18 => k_is)
    (case l18 => k_is)
    (case e18 => k_is)
    (case k18 => k_is)
    (case a19 => k_is)
    (case l19 => k_is)
    (case e19 => k_is)
    (case k19 => k_is)
    (case a20 => k_is)
    (case l20 => k_is)
    (case e20 => k_is)
    (case k20 => k_is)
    (case a21 => k_is)
    (case l21 => k_is)
    (case e21 => k_is)
    (case k21 => k_is)
    (case a22 => k_is)
    (case l22 => k_is)
    (case e22 => k_is)
    (case k22 => k_is)
    (case a23 => k_is)
    (case l23 => k_is)
    (case e23 => k_is)
    (case k23 => k_is)
    (case a24 => k_is)
    (case l24 => k_is)
    (case e24 => k_is)
    (case k24 => k_is)
    (case a25 => k_is)
    (case i25 => k_is)
    (case l25 => k_is)
    (case e25 => k_is)
    (case k25 => k_is)
    (case kn25_0 => k_is)
    (case a26 => k_is)
    (case i26 => k_is)
    (case l26 => k_is)
    (case e26 => k_is)
    (case k26 => k_is)
    (case a27 => k_is)
    (case i27 => k_is)
    (case l27 => k_is)
    (case e27 => k_is)
    (case k27 => k_is)
    (case a28 => k_is)
    (case i28 => k_is)
    (case l28 => k_is)
    (case e28 => k_is)
    (case k28 => k_is)
    (case a29 => k_is)
    (case i29 => k_is)
    (case l29 => k_is)
    (case e29 => k_is)
    (case k29 => k_is)
    (case a30 => k_is)
    (case i30 => k_is)
    (case l30 => k_is)
    (case e30 => k_is)
    (case k30 => k_is)
    (case a31 => k_is)
    (case i31 => k_is)
    (case l31 => k_is)
    (case e31 => k_is)
    (case k31 => k_is)
    (case a32 => k_is)
    (case i32 => k_is)
    (case l32 => k_is)
    (case e32 => k_is)
    (case k32 => k_is)
    (case a33 => k_is)
    (case i33 => k_is)
    (case l33 => k_is)
    (case e33 => k_is)
    (case k33 => k_is)
    (case a34 => k_is)
    (case i34 => k_is)
    (case l34 => k_is)
    (case e34 => k_is)
    (case k34 => k_is)
    (case a35 => k_is)
    (case i35 => k_is)
    (case l35 => k_is)
    (case e35 => k_is)
    (case k35 => k_is)
    (case y0 => k_is)
    (case y1 => k_is)
    (case y2 => k_is)
    (case y3 => k_is)
    (case y4 => k_is)
    (case y5 => k_is)
    (case y6 => k_is)
    (case y7 => k_is)
    (case y8 => k_is)
    (case y9 => k_is)
    (case y10 => k_is)
    (case y11 => k_is)
    (case y12 => k_is)
    (case y13 => k_is)
    (case y14 => k_is)
    (case y15 => k_is)
    (case y16 => k_is)
