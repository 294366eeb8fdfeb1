import PyProof.Rows.All
import Wide.All
import OpenK.AllK
import Wide.FinOn
import HandS.ForMost
import HandS.Exc
import HandS.TryOnly
import HandS.ExcOwn
import HandS.WordsExc
import HandS.CallSlots
import HandS.Defaults
import HandS.IsInst
import HandS.HeadHook1
import HandS.HeadHook2
import HandS.Deep
import HandS.TupLen
import HandS.DictTup
import HandS.Ends
import HandS.Head0
import HandS.Head1
import HandS.Head2
import HandS.HeadEnd
import PySem.Challenge.RW_wholecloth_k18_counter
set_option Elab.async false
set_option linter.all false
set_option maxRecDepth 100000
set_option maxHeartbeats 0
/-! PyI: a small total interpreter over plain data: tuples are values, lists, dicts and instances are cells of a store. -/
namespace PyI

inductive Dat where
  | non | bl (b : Bool) | int (i : Int) | str (k : Nat) | tup (l : List Dat) | loc (n : Nat)
  deriving Inhabited

mutual
def Dat.same : Dat → Dat → Bool
  | .non, .non => true
  | .bl a, .bl b => a == b
  | .int a, .int b => a == b
  | .str a, .str b => a == b
  | .tup xs, .tup ys => Dat.sameL xs ys
  | .loc a, .loc b => a == b
  | _, _ => false
def Dat.sameL : List Dat → List Dat → Bool
  | [], [] => true
  | x :: xs, y :: ys => Dat.same x y && Dat.sameL xs ys
  | _, _ => false
end
mutual
theorem Dat.same_eq : ∀ {a b : Dat}, Dat.same a b = true → a = b := by
  intro a b h
  cases a <;> cases b <;> simp only [Dat.same, beq_iff_eq] at h <;> first | rfl | (subst h; rfl) | exact congrArg _ (Dat.sameL_eq h) | cases h
theorem Dat.sameL_eq : ∀ {a b : List Dat}, Dat.sameL a b = true → a = b := by
  intro a b h
  cases a <;> cases b <;> simp only [Dat.sameL, Bool.and_eq_true] at h
  · rfl
  · cases h
  · cases h
  · rw [Dat.same_eq h.1, Dat.sameL_eq h.2]
end
mutual
theorem Dat.same_rfl : ∀ a : Dat, Dat.same a a = true
  | .non => by simp [Dat.same]
  | .bl b => by simp [Dat.same]
  | .int i => by simp [Dat.same]
  | .str k => by simp [Dat.same]
  | .tup l => by simp only [Dat.same]; exact Dat.sameL_rfl l
  | .loc n => by simp [Dat.same]
theorem Dat.sameL_rfl : ∀ a : List Dat, Dat.sameL a a = true
  | [] => by simp [Dat.sameL]
  | x :: xs => by simp only [Dat.sameL, Bool.and_eq_true]; exact ⟨Dat.same_rfl x, Dat.sameL_rfl xs⟩
end
instance : DecidableEq Dat := fun a b => if h : Dat.same a b = true then isTrue (Dat.same_eq h) else isFalse (fun e => h (e ▸ Dat.same_rfl a))

inductive Cel where
  | lst (l : List Dat)
  | scr (l : List Dat)
  | dct (l : List (Dat × Dat))
  | ins (c : Nat) (fs : List (Nat × Dat))
abbrev Store := List Cel
abbrev Slots := List (Option Dat)

inductive Re (α : Type) where
  | ok (a : α) (S : Store)
  | exc (c : Nat) (S : Store)
  | bad
@[simp] def Re.bind {α β : Type} (r : Re α) (f : α → Store → Re β) : Re β := match r with
  | .ok a S => f a S
  | .exc c S => .exc c S
  | .bad => .bad
/-- exceptions count as bad -/
@[simp] def Re.nox {α : Type} : Re α → Re α
  | .ok a S => .ok a S
  | _ => .bad

def LIM : Nat := 16777216

inductive BinO where | add | sub | mul | fdiv | mod | pow
  deriving DecidableEq
inductive CmpO where | eq | ne | lt | le | gt | ge | is_ | isn | in_ | nin
  deriving DecidableEq
inductive Kd where | int | str | list | tuple | bool | dict
  deriving DecidableEq

/-! ### equality of Python -/
mutual
def deq : Dat → Dat → Bool
  | .bl a, .int j => (if a then 1 else 0) == j
  | .int i, .bl b => i == (if b then 1 else 0)
  | .tup xs, .tup ys => deqL xs ys
  | .non, .non => true
  | .bl a, .bl b => a == b
  | .int a, .int b => a == b
  | .str a, .str b => a == b
  | .loc a, .loc b => a == b
  | _, _ => false
def deqL : List Dat → List Dat → Bool
  | [], [] => true
  | x :: xs, y :: ys => deq x y && deqL xs ys
  | _, _ => false
end
mutual
/-- no store within, nested at most so deep -/
def lfd : Nat → Dat → Bool
  | _, .loc _ => false
  | 0, .tup _ => false
  | n + 1, .tup l => lfdL n l
  | _, .non => true
  | _, .bl _ => true
  | _, .int _ => true
  | _, .str _ => true
def lfdL : Nat → List Dat → Bool
  | _, [] => true
  | n, x :: xs => lfd n x && lfdL n xs
end
def shp (d : Dat) : Bool := lfd 60 d
def flatD : Dat → Bool
  | .tup _ => false
  | .loc _ => false
  | _ => true
/-- a dict's key: an int, a text, or a tuple of these -/
def key1 : Dat → Bool
  | .int _ => true
  | .str _ => true
  | _ => false
def keyT : Dat → Bool
  | .tup l => l.all key1
  | _ => false

/-! ### dicts -/
/-- the key is of the dict's kind -/
def kindOk (kvs : List (Dat × Dat)) (k : Dat) : Bool := match kvs with
  | [] => key1 k || keyT k
  | p :: _ => (key1 p.1 && key1 k) || (keyT p.1 && keyT k)
def dget : List (Dat × Dat) → Dat → Option Dat
  | [], _ => none
  | p :: r, k => if p.1 = k then some p.2 else dget r k
def dput (kvs : List (Dat × Dat)) (k v : Dat) : List (Dat × Dat) :=
  if (dget kvs k).isSome = true then kvs.map (fun p => if p.1 = k then (p.1, v) else p) else kvs ++ [(k, v)]
def ddel (kvs : List (Dat × Dat)) (k : Dat) : List (Dat × Dat) := kvs.filter fun p => decide (p.1 ≠ k)
theorem ddel_none {k : Dat} : ∀ {kvs : List (Dat × Dat)}, dget kvs k = none → ddel kvs k = kvs
  | [], _ => rfl
  | p :: r, h => by
    simp only [dget] at h
    split at h
    · cases h
    · rename_i hne
      have ih := ddel_none h
      unfold ddel at ih ⊢
      rw [List.filter_cons, if_pos (by simpa using hne), ih]
def fget : List (Nat × Dat) → Nat → Option Dat
  | [], _ => none
  | p :: r, k => if p.1 = k then some p.2 else fget r k
def fput : List (Nat × Dat) → Nat → Dat → List (Nat × Dat)
  | [], k, v => [(k, v)]
  | p :: r, k, v => if p.1 = k then (k, v) :: r else p :: fput r k v

/-! ### operators -/
def lok (S : Store) (d : Dat) : Option (List Dat) := match d with
  | .loc l => (match S[l]? with
    | some (.lst xs) => some xs
    | some (.scr xs) => some xs
    | _ => none)
  | .tup xs => some xs
  | _ => none

def big64 (i : Int) : Prop := -(2 ^ 64) < i ∧ i < 2 ^ 64
instance (i : Int) : Decidable (big64 i) := inferInstanceAs (Decidable (_ ∧ _))

def bop (o : BinO) (a b : Dat) (S : Store) : Re Dat := match o with
  | .add => (match a, b with
    | .int i, .int j => .ok (.int (i + j)) S
    | .tup xs, .tup ys => if xs.length + ys.length ≤ LIM ∧ xs ≠ [] ∧ ys ≠ [] then .ok (.tup (xs ++ ys)) S else .bad
    | .loc l, .loc k => (match S[l]?, S[k]? with
      | some (.lst xs), some (.lst ys) => if xs.length + ys.length ≤ LIM then .ok (.loc S.length) (S ++ [.lst (xs ++ ys)]) else .bad
      | _, _ => .bad)
    | _, _ => .bad)
  | .sub => (match a, b with
    | .int i, .int j => .ok (.int (i - j)) S
    | _, _ => .bad)
  | .mul => (match a, b with
    | .int i, .int j => if big64 i ∨ big64 j then .ok (.int (i * j)) S else .bad
    | _, _ => .bad)
  | .fdiv => (match a, b with
    | .int i, .int j => if 0 < j ∧ j < 1073741824 then .ok (.int (i / j)) S else .bad
    | _, _ => .bad)
  | .mod => (match a, b with
    | .int i, .int j => if 0 < j then .ok (.int (i % j)) S else .bad
    | _, _ => .bad)
  | .pow => (match a, b with
    | .int i, .int j => if 0 ≤ j ∧ j ≤ 1000000 ∧ i.natAbs < 2 ^ 64 then .ok (.int (i ^ j.toNat)) S else .bad
    | _, _ => .bad)

def memq (a : Dat) (xs : List Dat) : Bool := xs.any fun y => deq y a
/-- x in y -/
def memIn (S : Store) (a b : Dat) : Option Bool := match b with
  | .loc l => (match S[l]? with
    | some (.lst xs) => if shp a ∧ xs.all shp then some (memq a xs) else none
    | some (.dct kvs) => if kindOk kvs a = true then some (dget kvs a).isSome else none
    | _ => none)
  | .tup xs => if shp a ∧ xs.all shp then some (memq a xs) else none
  | _ => none
def obl (S : Store) : Option Bool → Re Dat
  | some b => .ok (.bl b) S
  | none => .bad

def cop (o : CmpO) (a b : Dat) (S : Store) : Re Dat := match o with
  | .eq => if shp a ∧ shp b then .ok (.bl (deq a b)) S else .bad
  | .ne => if shp a ∧ shp b then .ok (.bl (!deq a b)) S else .bad
  | .lt => (match a, b with | .int i, .int j => .ok (.bl (decide (i < j))) S | _, _ => .bad)
  | .le => (match a, b with | .int i, .int j => .ok (.bl (decide (i ≤ j))) S | _, _ => .bad)
  | .gt => (match a, b with | .int i, .int j => .ok (.bl (decide (j < i))) S | _, _ => .bad)
  | .ge => (match a, b with | .int i, .int j => .ok (.bl (decide (j ≤ i))) S | _, _ => .bad)
  | .is_ => if b = .non then .ok (.bl (decide (a = .non))) S else .bad
  | .isn => if b = .non then .ok (.bl (!decide (a = .non))) S else .bad
  | .in_ => obl S (memIn S a b)
  | .nin => obl S ((memIn S a b).map (!·))

/-- the truth of a value -/
def tru (S : Store) : Dat → Option Bool
  | .non => some false
  | .bl b => some b
  | .int i => some (i != 0)
  | .str _ => none
  | .tup xs => some (!xs.isEmpty)
  | .loc l => (match S[l]? with
    | some (.lst xs) => some (!xs.isEmpty)
    | some (.scr xs) => some (!xs.isEmpty)
    | some (.dct kvs) => if kvs.all (fun p => key1 p.1) = true then some (!kvs.isEmpty) else none
    | _ => none)

def toB (d : Dat) (S : Store) : Re Bool := match tru S d with
  | some k => .ok k S
  | none => .bad
def ixD (n : Nat) (i : Int) : Option Nat := if 0 ≤ i then (if i < n then some i.toNat else none) else if -(n : Int) ≤ i then some (i + n).toNat else none
def atD (xs : List Dat) (i : Int) : Option Dat := (ixD xs.length i).bind fun j => xs[j]?

/-- o[i] -/
def gidx (o i : Dat) (S : Store) : Re Dat := match o with
  | .tup xs => (match i with
    | .int k => (match atD xs k with | some d => .ok d S | none => .bad)
    | _ => .bad)
  | .loc l => (match S[l]? with
    | some (.lst xs) => (match i with
      | .int k => (match atD xs k with | some d => .ok d S | none => .bad)
      | _ => .bad)
    | some (.scr xs) => (match i with
      | .int k => (match atD xs k with | some d => .ok d S | none => .bad)
      | _ => .bad)
    | some (.dct kvs) => if kindOk kvs i = true then (match dget kvs i with | some d => .ok d S | none => .bad) else .bad
    | _ => .bad)
  | _ => .bad
/-- o[i] = v -/
def stidx (o i v : Dat) (S : Store) : Re Unit := match o with
  | .loc l => (match S[l]? with
    | some (.lst xs) => (match i with
      | .int k => (match ixD xs.length k with | some j => .ok () (S.set l (.lst (xs.set j v))) | none => .bad)
      | _ => .bad)
    | some (.dct kvs) => if kindOk kvs i = true ∧ kvs.length < LIM then .ok () (S.set l (.dct (dput kvs i v))) else .bad
    | _ => .bad)
  | _ => .bad
def sixD (n d : Nat) : Option Int → Nat
  | none => d
  | some v => if v < 0 then (v + (n : Int)).toNat else min v.toNat n
def cutL (xs : List Dat) (lo hi : Option Int) : List Dat := (xs.drop (sixD xs.length 0 lo)).take (sixD xs.length xs.length hi - sixD xs.length 0 lo)
/-- an optional part of a slice -/
def part (xs : List Dat) (S : Store) : Re (Option Int) := match xs with
  | [] => .ok none S
  | [.int i] => .ok (some i) S
  | _ => .bad
def gslice (o : Dat) (lo hi : Option Int) (S : Store) : Re Dat := match o with
  | .tup xs => if sixD xs.length 0 lo = 0 ∧ sixD xs.length xs.length hi = xs.length then .bad else .ok (.tup (cutL xs lo hi)) S
  | .loc l => (match S[l]? with
    | some (.lst xs) => .ok (.loc S.length) (S ++ [.lst (cutL xs lo hi)])
    | _ => .bad)
  | _ => .bad
def isTy (S : Store) (t : Kd) (d : Dat) : Option Bool := match d with
  | .non => some false
  | .bl _ => some (t == .bool || t == .int)
  | .int _ => some (t == .int)
  | .str _ => some (t == .str)
  | .tup _ => some (t == .tuple)
  | .loc l => (match S[l]? with
    | some (.lst _) => some (t == .list)
    | some (.dct _) => some (t == .dict)
    | _ => none)

/-! ### built-in functions and methods, by values -/
inductive Bi where | len | max2 | min2 | list | tuple | dict
  deriving DecidableEq
inductive Bm where | append | get1 | get2 | pop2
  deriving DecidableEq
def bcall (b : Bi) (as : List Dat) (S : Store) : Re Dat := match b with
  | .len => (match as with
    | [.tup xs] => .ok (.int xs.length) S
    | [.loc l] => (match S[l]? with
      | some (.lst xs) => .ok (.int xs.length) S
      | some (.scr xs) => .ok (.int xs.length) S
      | some (.dct kvs) => .ok (.int kvs.length) S
      | _ => .bad)
    | _ => .bad)
  | .max2 => (match as with
    | [.int i, .int j] => .ok (.int (if j > i then j else i)) S
    | _ => .bad)
  | .min2 => (match as with
    | [.int i, .int j] => .ok (.int (if j < i then j else i)) S
    | _ => .bad)
  | .list => (match as with
    | [.tup xs] => .ok (.loc S.length) (S ++ [.lst xs])
    | [.loc l] => (match S[l]? with
      | some (.lst xs) => .ok (.loc S.length) (S ++ [.lst xs])
      | _ => .bad)
    | _ => .bad)
  | .tuple => (match as with
    | [.tup xs] => .ok (.tup xs) S
    | [.loc l] => (match S[l]? with
      | some (.lst xs) => .ok (.tup xs) S
      | _ => .bad)
    | _ => .bad)
  | .dict => (match as with
    | [.loc l] => (match S[l]? with
      | some (.dct kvs) => if kvs.all (fun p => key1 p.1) = true then .ok (.loc S.length) (S ++ [.dct kvs]) else .bad
      | _ => .bad)
    | _ => .bad)
/-- the receiver may be asked for this method at all -/
def brecv (m : Bm) (o : Dat) (S : Store) : Bool := match o with
  | .loc l => (match S[l]?, m with
    | some (.lst _), .append => true
    | some (.dct _), .get1 => true
    | some (.dct _), .get2 => true
    | some (.dct _), .pop2 => true
    | _, _ => false)
  | _ => false
def bmeth (m : Bm) (o : Dat) (as : List Dat) (S : Store) : Re Dat := match o with
  | .loc l => (match m, S[l]?, as with
    | .append, some (.lst xs), [d] => if xs.length < LIM then .ok .non (S.set l (.lst (xs ++ [d]))) else .bad
    | .get1, some (.dct kvs), [k] => if kindOk kvs k = true then .ok ((dget kvs k).getD .non) S else .bad
    | .get2, some (.dct kvs), [k, d] => if kindOk kvs k = true then .ok ((dget kvs k).getD d) S else .bad
    | .pop2, some (.dct kvs), [k, d] => if kindOk kvs k = true then .ok ((dget kvs k).getD d) (S.set l (.dct (ddel kvs k))) else .bad
    | _, _, _ => .bad)
  | _ => .bad

/-! ### the syntax -/
mutual
inductive Ex where
  | var (i : Nat)
  | con (d : Dat)
  | glob (g : Nat)
  | bin (o : BinO) (a b : Ex)
  | neg (a : Ex)
  | cmp (o : CmpO) (a b : Ex)
  | chain (o o' : CmpO) (a b c : Ex)
  | andE (a b : Ex)
  | orE (a b : Ex)
  | notE (a : Ex)
  | ite (c a b : Ex)
  | tup (es : Exs)
  | lst (es : Exs)
  | dct0
  | idx (a i : Ex)
  | slice (a : Ex) (lo hi : Exs)
  | fld (o : Ex) (f : Nat)
  | isi (a : Ex) (t : Kd)
  | call (f : Nat) (es : Exs)
  | new (c : Nat) (es : Exs)
  | meth (o : Ex) (m : Nat) (es : Exs)
  | bi (b : Bi) (es : Exs)
  | bm (m : Bm) (o : Ex) (es : Exs)
inductive Exs where
  | nil
  | cons (e : Ex) (es : Exs)
end
/-- a name, or a row of names -/
inductive Tn where
  | one (i : Nat)
  | many (is : List Nat)
inductive Tg where
  | name (i : Nat)
  | tup (is : List Tn)
  | sub (o i : Ex)
  | fld (o : Ex) (f : Nat)
inductive Wk where
  | seq (e : Ex)
  | rng1 (e : Ex)
  | rng2 (a b : Ex)
mutual
inductive Stm where
  | expr (e : Ex)
  | asg (t : Tg) (e : Ex)
  | aug (i : Nat) (o : BinO) (e : Ex)
  | augF (o : Ex) (f : Nat) (op : BinO) (e : Ex)
  | ite (c : Ex) (a b : Stms)
  | whl (c : Ex) (b : Stms)
  | for_ (t : Tg) (it : Wk) (b : Stms)
  | ret (e : Ex)
  | retN
  | brk
  | cont
  | pass
inductive Stms where
  | nil
  | cons (s : Stm) (r : Stms)
end

structure DefI where
  np : Nat
  nv : Nat
  dfl : List Dat
  body : Stms
structure ClsI where
  init : Nat
  ms : List (Nat × Nat)
  flds : List Nat
structure Prog where
  defs : List DefI
  cls : List ClsI
  globs : List Dat
def mget (ms : List (Nat × Nat)) (m : Nat) : Option Nat := match ms with
  | [] => none
  | p :: r => if p.1 = m then some p.2 else mget r m

def clsOf (o : Dat) (S : Store) : Option Nat := match o with
  | .loc l => (match S[l]? with
    | some (.ins c _) => some c
    | _ => none)
  | _ => none
def hasF (P : Prog) (c f : Nat) : Bool := match P.cls[c]? with
  | some k => k.flds.contains f
  | none => false
/-- o.f -/
def gfld (P : Prog) (o : Dat) (f : Nat) (S : Store) : Re Dat := match o with
  | .loc l => (match S[l]? with
    | some (.ins c fs) => if hasF P c f = true then (match fget fs f with | some d => .ok d S | none => .bad) else .bad
    | _ => .bad)
  | _ => .bad
def sfld (P : Prog) (o : Dat) (f : Nat) (v : Dat) (S : Store) : Re Unit := match o with
  | .loc l => (match S[l]? with
    | some (.ins c fs) => if hasF P c f = true ∧ fs.length < 900 then .ok () (S.set l (.ins c (fput fs f v))) else .bad
    | _ => .bad)
  | _ => .bad
abbrev Fn := Nat → List Dat → Store → Re Dat
/-- the arguments, filled up by the defaults -/
def filled (P : Prog) (f : Nat) (as : List Dat) : Option (List Dat) := match P.defs[f]? with
  | some d => if as.length ≤ d.np ∧ d.np ≤ as.length + d.dfl.length then some (as ++ d.dfl.drop (as.length + d.dfl.length - d.np)) else none
  | none => none
def app (P : Prog) (fn : Fn) (f : Nat) (as : List Dat) (S : Store) : Re Dat := match filled P f as with
  | some full => fn f full S
  | none => .bad
/-- a method of the instance at o: the def -/
def recv (P : Prog) (o : Dat) (m : Nat) (S : Store) : Option Nat := match o with
  | .loc l => (match S[l]? with
    | some (.ins c fs) => (match fget fs m, P.cls[c]? with
      | none, some k => mget k.ms m
      | _, _ => none)
    | _ => none)
  | _ => none

/-! ### the meaning -/
section
variable (P : Prog) (fn mk : Fn)
mutual
def ev : Ex → Slots → Store → Re Dat
  | .var i, σ, S => (match σ[i]? with
    | some (some d) => .ok d S
    | _ => .bad)
  | .con d, _, S => .ok d S
  | .glob g, _, S => (match P.globs[g]? with
    | some d => .ok d S
    | none => .bad)
  | .bin o a b, σ, S => (ev a σ S).bind fun x S1 => (ev b σ S1).bind fun y S2 => bop o x y S2
  | .neg a, σ, S => (ev a σ S).bind fun x S1 => (match x with
    | .int i => .ok (.int (-i)) S1
    | _ => .bad)
  | .cmp o a b, σ, S => (ev a σ S).bind fun x S1 => (ev b σ S1).bind fun y S2 => cop o x y S2
  | .chain o o' a b c, σ, S => (ev a σ S).bind fun x S1 => (ev b σ S1).bind fun y S2 => (cop o x y S2).bind fun r S3 => (match r with
    | .bl true => (ev c σ S3).bind fun z S4 => cop o' y z S4
    | .bl false => .ok (.bl false) S3
    | _ => .bad)
  | .andE a b, σ, S => (ev a σ S).bind fun x S1 => (match x with
    | .bl true => ev b σ S1
    | .bl false => .ok (.bl false) S1
    | _ => .bad)
  | .orE a b, σ, S => (ev a σ S).bind fun x S1 => (match x with
    | .bl true => .ok (.bl true) S1
    | .bl false => ev b σ S1
    | _ => .bad)
  | .notE a, σ, S => (ev a σ S).bind fun x S1 => (match x with
    | .bl b => .ok (.bl (!b)) S1
    | _ => .bad)
  | .ite c a b, σ, S => (tst c σ S).bind fun k S1 => if k = true then ev a σ S1 else ev b σ S1
  | .tup es, σ, S => (evs es σ S).bind fun xs S1 => if xs.length ≤ LIM then .ok (.tup xs) S1 else .bad
  | .lst es, σ, S => (evs es σ S).bind fun xs S1 => if xs.length ≤ LIM then .ok (.loc S1.length) (S1 ++ [.lst xs]) else .bad
  | .dct0, _, S => .ok (.loc S.length) (S ++ [.dct []])
  | .idx a i, σ, S => (ev a σ S).bind fun x S1 => (ev i σ S1).bind fun y S2 => gidx x y S2
  | .slice a lo hi, σ, S => (ev a σ S).bind fun x S1 => ((evs lo σ S1).bind part).bind fun l S2 => ((evs hi σ S2).bind part).bind fun h S3 => gslice x l h S3
  | .fld o f, σ, S => (ev o σ S).bind fun x S1 => gfld P x f S1
  | .isi a t, σ, S => (ev a σ S).bind fun x S1 => obl S1 (isTy S1 t x)
  | .call f es, σ, S => (evs es σ S).bind fun xs S1 => app P fn f xs S1
  | .new c es, σ, S => (evs es σ S).bind fun xs S1 => (match P.cls[c]? with
    | some k => (app P mk k.init (.loc S1.length :: xs) (S1 ++ [.ins c []])).nox.bind fun r S2 => (match r with
      | .non => .ok (.loc S1.length) S2
      | _ => .bad)
    | none => .bad)
  | .meth o m es, σ, S => (ev o σ S).bind fun x S1 => (match recv P x m S1 with
    | some f => (evs es σ S1).bind fun xs S2 => app P fn f (x :: xs) S2
    | none => .bad)
  | .bi b es, σ, S => (evs es σ S).bind fun xs S1 => bcall b xs S1
  | .bm m o es, σ, S => (ev o σ S).bind fun x S1 => if brecv m x S1 = true then (evs es σ S1).bind fun xs S2 => bmeth m x xs S2 else .bad
def evs : Exs → Slots → Store → Re (List Dat)
  | .nil, _, S => .ok [] S
  | .cons e es, σ, S => (ev e σ S).bind fun x S1 => (evs es σ S1).bind fun xs S2 => .ok (x :: xs) S2
/-- as a test -/
def tst : Ex → Slots → Store → Re Bool
  | .andE a b, σ, S => (tst a σ S).bind fun k S1 => if k = true then tst b σ S1 else .ok false S1
  | .orE a b, σ, S => (tst a σ S).bind fun k S1 => if k = true then .ok true S1 else tst b σ S1
  | .notE a, σ, S => (tst a σ S).bind fun k S1 => .ok (!k) S1
  | e, σ, S => (ev e σ S).bind toB
end

/-- what a statement comes to -/
inductive SR where
  | nx (σ : Slots) (S : Store)
  | rt (d : Dat) (S : Store)
  | bk (σ : Slots) (S : Store)
  | ct (σ : Slots) (S : Store)
  | exc (c : Nat) (σ : Slots) (S : Store)
  | bad
@[simp] def Re.go {α : Type} (σ : Slots) (r : Re α) (f : α → Store → SR) : SR := match r with
  | .ok a S => f a S
  | .exc c S => .exc c σ S
  | .bad => .bad
@[simp] def SR.andThen (r : SR) (f : Slots → Store → SR) : SR := match r with
  | .nx σ S => f σ S
  | r => r
/-- a op= b -/
def augV (o : BinO) (a b : Dat) : Option Dat := match o, a, b with
  | .add, .int i, .int j => some (.int (i + j))
  | .sub, .int i, .int j => some (.int (i - j))
  | _, _, _ => none
/-- targets -/
def setNs : List Nat → List Dat → Slots → Option Slots
  | [], [], σ => some σ
  | i :: is, d :: ds, σ => setNs is ds (σ.set i (some d))
  | _, _, _ => none
def setAll : List Tn → List Dat → Slots → Option Slots
  | [], [], σ => some σ
  | .one i :: is, d :: ds, σ => setAll is ds (σ.set i (some d))
  | .many js :: is, .tup es :: ds, σ => (match setNs js es σ with
    | some σ' => setAll is ds σ'
    | none => none)
  | _, _, _ => none
def asg : Tg → Dat → Slots → Store → SR
  | .name i, d, σ, S => .nx (σ.set i (some d)) S
  | .tup is, d, σ, S => (match d with
    | .tup ds => (match setAll is ds σ with
      | some σ' => .nx σ' S
      | none => .bad)
    | _ => .bad)
  | .sub o i, d, σ, S => (ev P fn mk o σ S).go σ fun x S1 => (ev P fn mk i σ S1).go σ fun y S2 => (stidx x y d S2).go σ fun _ S3 => .nx σ S3
  | .fld o f, d, σ, S => (ev P fn mk o σ S).go σ fun x S1 => (sfld P x f d S1).go σ fun _ S2 => .nx σ S2
/-- a walk: the items, and what must stand as it stood -/
def walkOf : Wk → Slots → Store → Re (List Dat × Option (Nat × List Dat))
  | .seq e, σ, S => (ev P fn mk e σ S).bind fun x S1 => (match x with
    | .tup xs => .ok (xs, none) S1
    | .loc l => (match S1[l]? with
      | some (.lst xs) => .ok (xs, some (l, xs)) S1
      | some (.scr xs) => .ok (xs, some (l, xs)) S1
      | _ => .bad)
    | _ => .bad)
  | .rng1 e, σ, S => (ev P fn mk e σ S).bind fun x S1 => (match x with
    | .int n => if n < 2 ^ 62 ∧ -(2 ^ 62) ≤ n then .ok ((List.range n.toNat).map fun k => .int (k : Nat), none) S1 else .bad
    | _ => .bad)
  | .rng2 a b, σ, S => (ev P fn mk a σ S).bind fun x S1 => (ev P fn mk b σ S1).bind fun y S2 => (match x, y with
    | .int i, .int j => if -(2 ^ 62) ≤ i ∧ i < 2 ^ 62 ∧ -(2 ^ 62) ≤ j ∧ j < 2 ^ 62 then .ok ((List.range (j - i).toNat).map fun k => .int (i + (k : Nat)), none) S2 else .bad
    | _, _ => .bad)
def stillL (l : Nat) (xs : List Dat) (S : Store) : Bool := match S[l]? with
  | some (.lst ys) => Dat.sameL ys xs
  | some (.scr ys) => Dat.sameL ys xs
  | _ => false
def still (g : Option (Nat × List Dat)) (S : Store) : Bool := match g with
  | none => true
  | some (l, xs) => stillL l xs S
def forGo (t : Tg) (body : Slots → Store → SR) (g : Option (Nat × List Dat)) : List Dat → Slots → Store → SR
  | [], σ, S => if still g S = true then .nx σ S else .bad
  | x :: xs, σ, S => if still g S = true then (match asg P fn mk t x σ S with
    | .nx σ1 S1 => (match body σ1 S1 with
      | .nx σ2 S2 => forGo t body g xs σ2 S2
      | .ct σ2 S2 => forGo t body g xs σ2 S2
      | .bk σ2 S2 => .nx σ2 S2
      | r => r)
    | r => r) else .bad
def WF : Nat := 2 ^ 64
def whlGo (c : Slots → Store → Re Bool) (body : Slots → Store → SR) : Nat → Slots → Store → SR
  | 0, _, _ => .bad
  | n + 1, σ, S => (c σ S).go σ fun k S1 => if k = true then (match body σ S1 with
    | .nx σ2 S2 => whlGo c body n σ2 S2
    | .ct σ2 S2 => whlGo c body n σ2 S2
    | .bk σ2 S2 => .nx σ2 S2
    | r => r) else .nx σ S1
mutual
def ex : Stm → Slots → Store → SR
  | .expr e, σ, S => (ev P fn mk e σ S).go σ fun _ S1 => .nx σ S1
  | .asg t e, σ, S => (ev P fn mk e σ S).go σ fun d S1 => asg P fn mk t d σ S1
  | .aug i o e, σ, S => (match σ[i]? with
    | some (some x) => (ev P fn mk e σ S).go σ fun y S1 => (match augV o x y with
      | some z => .nx (σ.set i (some z)) S1
      | none => .bad)
    | _ => .bad)
  | .augF o f op e, σ, S => (ev P fn mk o σ S).go σ fun x S1 => (gfld P x f S1).go σ fun v S2 => (ev P fn mk e σ S2).go σ fun y S3 => (match augV op v y with
      | some z => if clsOf x S2 = clsOf x S3 then (sfld P x f z S3).go σ fun _ S4 => .nx σ S4 else .bad
      | none => .bad)
  | .ite c a b, σ, S => (tst P fn mk c σ S).go σ fun k S1 => if k = true then exs a σ S1 else exs b σ S1
  | .whl c b, σ, S => whlGo (tst P fn mk c) (exs b) WF σ S
  | .for_ t it b, σ, S => (walkOf P fn mk it σ S).go σ fun p S1 => forGo P fn mk t (exs b) p.2 p.1 σ S1
  | .ret e, σ, S => (ev P fn mk e σ S).go σ fun d S1 => .rt d S1
  | .retN, _, S => .rt .non S
  | .brk, σ, S => .bk σ S
  | .cont, σ, S => .ct σ S
  | .pass, σ, S => .nx σ S
def exs : Stms → Slots → Store → SR
  | .nil, σ, S => .nx σ S
  | .cons s r, σ, S => (ex s σ S).andThen fun σ1 S1 => exs r σ1 S1
end
end
def startE (nv : Nat) (as : List Dat) : Slots := as.map some ++ List.replicate (nv - as.length) none
def runBody (P : Prog) (fn mk : Fn) (f : Nat) (as : List Dat) (S : Store) : Re Dat := match P.defs[f]? with
  | none => .bad
  | some d => if as.length = d.np then (match exs P fn mk d.body (startE d.nv as) S with
    | .nx _ S1 => .ok .non S1
    | .rt v S1 => .ok v S1
    | .exc c _ S1 => .exc c S1
    | _ => .bad) else .bad
def noFn : Fn := fun _ _ _ => .bad
/-- the call of a def at so much depth -/
def callI (P : Prog) : Nat → Fn
  | 0 => noFn
  | 1 => runBody P noFn noFn
  | n + 2 => runBody P (callI P (n + 1)) (callI P n)
end PyI

/-! S1: how data and stores of PyI stand in the abstract heap. -/
namespace PyS
open PySem PySem.Spec PyProof.Rows L2 PyI
/-- what the module holds: the classes, its own lists -/
structure KC where
  at_ : Nat → Addr
  ks : Addr → List V → Prop
def ScrAt (C : KC) (H : Hp) (a : Addr) (xs : List V) : Prop := (∃ o, H a = some (.frz o (.lst xs))) ∨ C.ks a xs
/-- no script there -/
def NS (S : Store) (l : Nat) : Prop := ∀ ds, S[l]? ≠ some (.scr ds)
theorem NS.of {S : Store} {l : Nat} {c : Cel} (e : S[l]? = some c) (h : (match c with
  | .scr _ => false
  | _ => true) = true) : NS S l := fun ds z => by
  rw [e] at z; cases z; cases h

/-! ### data -/
section
variable (W : Nat → Str) (m : List Addr) (H : Hp)
mutual
def Rep : Dat → V → Prop
  | .non, v => v = .non
  | .bl b, v => v = .bl b
  | .int i, v => v = .int i
  | .str k, v => v = .str (W k)
  | .tup ds, v => ∃ a xs, v = .ref a ∧ H a = some (.tup xs) ∧ RepL ds xs
  | .loc l, v => ∃ a, m[l]? = some a ∧ v = .ref a
def RepL : List Dat → List V → Prop
  | [], vs => vs = []
  | d :: ds, vs => ∃ v vr, vs = v :: vr ∧ Rep d v ∧ RepL ds vr
end
def FRel : List (Nat × Dat) → List (Str × V) → Prop
  | [], [] => True
  | p :: r, q :: s => q.1 = W p.1 ∧ Rep W m H p.2 q.2 ∧ FRel r s
  | _, _ => False
def kOf : Dat → Key
  | .int i => .inl i
  | .str k => .inr (W k)
  | _ => .inl 0
def kTs : Dat → List Key
  | .tup l => l.map (kOf W)
  | _ => []
def DRelK : List (Dat × Dat) → List (Key × V) → Prop
  | [], [] => True
  | p :: r, q :: s => (key1 p.1 = true ∧ q.1 = kOf W p.1) ∧ Rep W m H p.2 q.2 ∧ DRelK r s
  | _, _ => False
def DRelT : List (Dat × Dat) → List (List Key × V) → Prop
  | [], [] => True
  | p :: r, q :: s => (keyT p.1 = true ∧ q.1 = kTs W p.1) ∧ Rep W m H p.2 q.2 ∧ DRelT r s
  | _, _ => False
def CelOk (C : KC) (c : Cel) (a : Addr) : Prop := match c with
  | .lst ds => ∃ xs, H a = some (.lst xs) ∧ RepL W m H ds xs
  | .scr ds => ∃ xs, ScrAt C H a xs ∧ RepL W m H ds xs
  | .dct kvs => (∃ ks, H a = some (.dK ks) ∧ DRelK W m H kvs ks) ∨ (∃ ks, H a = some (.dT ks) ∧ DRelT W m H kvs ks)
  | .ins c fs => ∃ dx fs', H a = some (.ins (C.at_ c) dx fs') ∧ FRel W m H fs fs'
structure HRel (C : KC) (S : Store) : Prop where
  len : m.length = S.length
  inj : ∀ (i j : Nat) (a : Addr), NS S i → NS S j → m[i]? = some a → m[j]? = some a → i = j
  cel : ∀ (l : Nat) (c : Cel), S[l]? = some c → ∃ a, m[l]? = some a ∧ CelOk W m H C c a
def SRel (σd : Slots) (σ : L2.St) : Prop := σ.length = σd.length ∧ ∀ (i : Nat) (d : Dat), σd[i]? = some (some d) → ∃ v, σ[i]? = some (some v) ∧ Rep W m H d v
end
/-- what stays -/
structure Ext (m : List Addr) (H : Hp) (m' : List Addr) (H' : Hp) : Prop where
  pre : ∀ (l : Nat) (a : Addr), m[l]? = some a → m'[l]? = some a
  tup : ∀ (a : Addr) (xs : List V), H a = some (.tup xs) → H' a = some (.tup xs)
section
variable {W : Nat → Str} {m m' m'' : List Addr} {H H' H'' : Hp}
theorem Ext.refl : Ext m H m H := ⟨fun _ _ e => e, fun _ _ e => e⟩
theorem Ext.trans (e : Ext m H m' H') (f : Ext m' H' m'' H'') : Ext m H m'' H'' := ⟨fun l a x => f.pre l a (e.pre l a x), fun a xs x => f.tup a xs (e.tup a xs x)⟩
mutual
theorem Rep.ext (e : Ext m H m' H') : ∀ {d : Dat} {v : V}, Rep W m H d v → Rep W m' H' d v
  | .non, v, h => by simp only [Rep] at h ⊢; exact h
  | .bl b, v, h => by simp only [Rep] at h ⊢; exact h
  | .int i, v, h => by simp only [Rep] at h ⊢; exact h
  | .str k, v, h => by simp only [Rep] at h ⊢; exact h
  | .tup ds, v, h => by
    simp only [Rep] at h ⊢
    obtain ⟨a, xs, e1, e2, h⟩ := h
    exact ⟨a, xs, e1, e.tup a xs e2, RepL.ext e h⟩
  | .loc l, v, h => by
    simp only [Rep] at h ⊢
    obtain ⟨a, e1, e2⟩ := h
    exact ⟨a, e.pre l a e1, e2⟩
theorem RepL.ext (e : Ext m H m' H') : ∀ {ds : List Dat} {vs : List V}, RepL W m H ds vs → RepL W m' H' ds vs
  | [], vs, h => by simp only [RepL] at h ⊢; exact h
  | d :: ds, vs, h => by
    simp only [RepL] at h ⊢
    obtain ⟨v, vr, e1, h1, h2⟩ := h
    exact ⟨v, vr, e1, Rep.ext e h1, RepL.ext e h2⟩
end
theorem RepL.nil : RepL W m H [] [] := by simp only [RepL]
theorem RepL.cons {d : Dat} {v : V} {ds : List Dat} {vs : List V} (h : Rep W m H d v) (t : RepL W m H ds vs) : RepL W m H (d :: ds) (v :: vs) := by
  simp only [RepL]
  exact ⟨v, vs, rfl, h, t⟩
theorem RepL.length : ∀ {ds : List Dat} {vs : List V}, RepL W m H ds vs → vs.length = ds.length
  | [], vs, h => by simp only [RepL] at h; rw [h]; rfl
  | d :: ds, vs, h => by
    simp only [RepL] at h
    obtain ⟨v, vr, rfl, _, h2⟩ := h
    rw [List.length_cons, List.length_cons, RepL.length h2]
theorem RepL.get : ∀ {ds : List Dat} {vs : List V} {i : Nat} {d : Dat}, RepL W m H ds vs → ds[i]? = some d → ∃ v, vs[i]? = some v ∧ Rep W m H d v
  | [], vs, i, d, h, e => by simp at e
  | d0 :: ds, vs, i, d, h, e => by
    simp only [RepL] at h
    obtain ⟨v, vr, rfl, h1, h2⟩ := h
    cases i with
    | zero => simp at e; subst e; exact ⟨v, by simp, h1⟩
    | succ i =>
      simp only [List.getElem?_cons_succ] at e ⊢
      exact RepL.get h2 e
theorem RepL.set : ∀ {ds : List Dat} {vs : List V} {d : Dat} {v : V} (i : Nat), RepL W m H ds vs → Rep W m H d v → RepL W m H (ds.set i d) (vs.set i v)
  | [], vs, d, v, i, h, r => by simp only [RepL] at h; rw [h]; simpa using RepL.nil
  | d0 :: ds, vs, d, v, i, h, r => by
    simp only [RepL] at h
    obtain ⟨w, vr, rfl, h1, h2⟩ := h
    cases i with
    | zero => exact RepL.cons r h2
    | succ i => exact RepL.cons h1 (RepL.set i h2 r)
theorem RepL.append : ∀ {ds es : List Dat} {vs us : List V}, RepL W m H ds vs → RepL W m H es us → RepL W m H (ds ++ es) (vs ++ us)
  | [], es, vs, us, h, r => by simp only [RepL] at h; rw [h]; exact r
  | d0 :: ds, es, vs, us, h, r => by
    simp only [RepL] at h
    obtain ⟨w, vr, rfl, h1, h2⟩ := h
    exact RepL.cons h1 (RepL.append h2 r)
theorem RepL.take : ∀ {ds : List Dat} {vs : List V} (n : Nat), RepL W m H ds vs → RepL W m H (ds.take n) (vs.take n)
  | [], vs, n, h => by simp only [RepL] at h; rw [h]; simpa using RepL.nil
  | d0 :: ds, vs, 0, h => by simpa using RepL.nil
  | d0 :: ds, vs, n + 1, h => by
    simp only [RepL] at h
    obtain ⟨w, vr, rfl, h1, h2⟩ := h
    exact RepL.cons h1 (RepL.take n h2)
theorem RepL.drop : ∀ {ds : List Dat} {vs : List V} (n : Nat), RepL W m H ds vs → RepL W m H (ds.drop n) (vs.drop n)
  | [], vs, n, h => by simp only [RepL] at h; rw [h]; simpa using RepL.nil
  | d0 :: ds, vs, 0, h => h
  | d0 :: ds, vs, n + 1, h => by
    simp only [RepL] at h
    obtain ⟨w, vr, rfl, h1, h2⟩ := h
    exact RepL.drop n h2
theorem RepL.isEmpty {ds : List Dat} {vs : List V} (h : RepL W m H ds vs) : vs.isEmpty = ds.isEmpty := by
  have := h.length
  cases ds <;> cases vs <;> simp_all
theorem FRel.ext (e : Ext m H m' H') : ∀ {fs : List (Nat × Dat)} {gs : List (Str × V)}, FRel W m H fs gs → FRel W m' H' fs gs
  | [], [], _ => trivial
  | p :: r, q :: s, h => by
    simp only [FRel] at h ⊢
    exact ⟨h.1, h.2.1.ext e, FRel.ext e h.2.2⟩
  | [], _ :: _, h => by simp [FRel] at h
  | _ :: _, [], h => by simp [FRel] at h
theorem DRelK.ext (e : Ext m H m' H') : ∀ {fs : List (Dat × Dat)} {gs : List (Key × V)}, DRelK W m H fs gs → DRelK W m' H' fs gs
  | [], [], _ => trivial
  | p :: r, q :: s, h => by
    simp only [DRelK] at h ⊢
    exact ⟨h.1, h.2.1.ext e, DRelK.ext e h.2.2⟩
  | [], _ :: _, h => by simp [DRelK] at h
  | _ :: _, [], h => by simp [DRelK] at h
theorem DRelT.ext (e : Ext m H m' H') : ∀ {fs : List (Dat × Dat)} {gs : List (List Key × V)}, DRelT W m H fs gs → DRelT W m' H' fs gs
  | [], [], _ => trivial
  | p :: r, q :: s, h => by
    simp only [DRelT] at h ⊢
    exact ⟨h.1, h.2.1.ext e, DRelT.ext e h.2.2⟩
  | [], _ :: _, h => by simp [DRelT] at h
  | _ :: _, [], h => by simp [DRelT] at h
variable {C : KC} {S : Store}
theorem CelOk.ext (e : Ext m H m' H') {c : Cel} {a : Addr} (h : CelOk W m H C c a) (ha : H' a = H a) : CelOk W m' H' C c a := by
  cases c with
  | lst ds => obtain ⟨xs, e1, h⟩ := h; exact ⟨xs, ha.trans e1, h.ext e⟩
  | scr ds =>
    obtain ⟨xs, e1, h⟩ := h
    refine ⟨xs, ?_, h.ext e⟩
    rcases e1 with ⟨o, e1⟩ | e1
    · exact .inl ⟨o, ha.trans e1⟩
    · exact .inr e1
  | dct kvs =>
    rcases h with ⟨ks, e1, h⟩ | ⟨ks, e1, h⟩
    · exact .inl ⟨ks, ha.trans e1, h.ext e⟩
    · exact .inr ⟨ks, ha.trans e1, h.ext e⟩
  | ins c fs => obtain ⟨dx, fs', e1, h⟩ := h; exact ⟨dx, fs', ha.trans e1, h.ext e⟩
theorem CelOk.some {c : Cel} {a : Addr} (h : CelOk W m H C c a) (ns : ∀ ds, c ≠ .scr ds) : ∃ o, H a = some o ∧ ∀ xs, o ≠ .tup xs := by
  cases c with
  | lst ds => obtain ⟨xs, e1, h⟩ := h; exact ⟨_, e1, fun _ z => by cases z⟩
  | scr ds => exact absurd rfl (ns ds)
  | dct kvs =>
    rcases h with ⟨ks, e1, h⟩ | ⟨ks, e1, h⟩
    · exact ⟨_, e1, fun _ z => by cases z⟩
    · exact ⟨_, e1, fun _ z => by cases z⟩
  | ins c fs => obtain ⟨dx, fs', e1, h⟩ := h; exact ⟨_, e1, fun _ z => by cases z⟩
/-- the heap moves elsewhere, or the script stays frozen -/
theorem CelOk.move (e : Ext m H m' H') {c : Cel} {a : Addr} (h : CelOk W m H C c a) (ha : (∀ ds, c ≠ .scr ds) → H' a = H a) (hf : ∀ o xs, H a = Option.some (.frz o xs) → H' a = Option.some (.frz o xs)) : CelOk W m' H' C c a := by
  by_cases hc : ∀ ds, c ≠ .scr ds
  · exact h.ext e (ha hc)
  · cases c with
    | scr ds =>
      obtain ⟨xs, e1, h⟩ := h
      refine ⟨xs, ?_, h.ext e⟩
      rcases e1 with ⟨o, e1⟩ | e1
      · exact .inl ⟨o, hf _ _ e1⟩
      · exact .inr e1
    | _ => exact absurd (fun _ z => by cases z) hc
/-- an object laid that is no cell -/
theorem Ext.laid {p : Addr} {o : HO} (hp : H p = none) : Ext m H m (upd H p o) := ⟨fun _ _ e => e, fun a xs e => by rw [upd_ne (ne_of_none e hp)]; exact e⟩
theorem HRel.laid {p : Addr} {o : HO} (R : HRel W m H C S) (hp : H p = none) : HRel W m (upd H p o) C S := ⟨R.len, R.inj, fun l c e => by
  obtain ⟨a, e1, h⟩ := R.cel l c e
  refine ⟨a, e1, h.move (Ext.laid hp) (fun hc => ?_) fun o xs z => ?_⟩
  · obtain ⟨u, e2, _⟩ := h.some hc
    exact upd_ne (ne_of_none e2 hp)
  · rw [upd_ne (ne_of_none z hp)]; exact z⟩
/-- a new cell -/
theorem Ext.new {p : Addr} {o : HO} (hp : H p = none) : Ext m H (m ++ [p]) (upd H p o) := ⟨fun l a e => by
  rw [List.getElem?_append_left (List.getElem?_eq_some_iff.mp e).1]; exact e, fun a xs e => by rw [upd_ne (ne_of_none e hp)]; exact e⟩
theorem HRel.notin (R : HRel W m H C S) {p : Addr} (hp : H p = none) : ∀ (l : Nat), NS S l → m[l]? ≠ some p := fun l ns e => by
  have hl : l < S.length := by rw [← R.len]; exact (List.getElem?_eq_some_iff.mp e).1
  obtain ⟨a, e1, h⟩ := R.cel l S[l] (List.getElem?_eq_getElem hl)
  rw [e] at e1; cases e1
  obtain ⟨u, e2, _⟩ := h.some fun ds z => ns ds (by rw [List.getElem?_eq_getElem hl, z])
  rw [hp] at e2; cases e2
theorem HRel.new {p : Addr} {o : HO} {c : Cel} (R : HRel W m H C S) (hp : H p = none) (h : CelOk W (m ++ [p]) (upd H p o) C c p) : HRel W (m ++ [p]) (upd H p o) C (S ++ [c]) := by
  refine ⟨by rw [List.length_append, List.length_append, R.len]; rfl, fun i j a n1 n2 e1 e2 => ?_, fun l c' e => ?_⟩
  · have lt : ∀ {i : Nat}, (m ++ [p])[i]? = some a → NS (S ++ [c]) i → (m[i]? = some a ∧ NS S i ∧ i < m.length) ∨ (a = p ∧ i = m.length) := fun {i} e n => by
      by_cases hi : i < m.length
      · rw [List.getElem?_append_left hi] at e
        refine .inl ⟨e, fun ds z => n ds ?_, hi⟩
        rw [List.getElem?_append_left (by rw [← R.len]; exact hi)]
        exact z
      · rw [List.getElem?_append_right (by omega)] at e
        by_cases hz : i - m.length = 0
        · rw [hz] at e; simp at e; exact .inr ⟨e.symm, by omega⟩
        · rw [List.getElem?_eq_none (by simp; omega)] at e; cases e
    rcases lt e1 n1 with ⟨a1, l0, l1⟩ | ⟨a1, l1⟩ <;> rcases lt e2 n2 with ⟨a2, l3, l2⟩ | ⟨a2, l2⟩
    · exact R.inj i j a l0 l3 a1 a2
    · exact absurd (a2 ▸ a1) (R.notin hp i l0)
    · exact absurd (a1 ▸ a2) (R.notin hp j l3)
    · omega
  · by_cases hl : l < S.length
    · rw [List.getElem?_append_left hl] at e
      obtain ⟨a, e1, h⟩ := R.cel l c' e
      refine ⟨a, (Ext.new (o := o) hp).pre l a e1, h.move (Ext.new hp) (fun hc => ?_) fun o xs z => ?_⟩
      · obtain ⟨u, e2, _⟩ := h.some hc
        exact upd_ne (ne_of_none e2 hp)
      · rw [upd_ne (ne_of_none z hp)]; exact z
    · rw [List.getElem?_append_right (by omega)] at e
      by_cases hz : l - S.length = 0
      · rw [hz] at e; simp at e; subst e
        have : l = m.length := by rw [R.len]; omega
        exact ⟨p, by rw [this, List.getElem?_append_right (Nat.le_refl _)]; simp, h⟩
      · rw [List.getElem?_eq_none (by simp; omega)] at e; cases e
/-- an object that may be written -/
def Wr (o : HO) : Prop := match o with
  | .tup _ => False
  | .frz _ _ => False
  | _ => True
/-- a cell changed -/
theorem Ext.wr {a : Addr} {o o' : HO} (ha : H a = some o') (ht : Wr o') : Ext m H m (upd H a o) := ⟨fun _ _ e => e, fun b xs e => by
  have : b ≠ a := fun z => by subst z; rw [ha] at e; cases e; exact ht
  rw [upd_ne this]; exact e⟩
theorem HRel.wr {l : Nat} {a : Addr} {o o' : HO} {c : Cel} (R : HRel W m H C S) (ns : NS S l) (hl : m[l]? = some a) (ha : H a = some o') (ht : Wr o') (hc : ∀ ds, c ≠ .scr ds) (h : CelOk W m (upd H a o) C c a) : HRel W m (upd H a o) C (S.set l c) := by
  have hlS : l < S.length := by rw [← R.len]; exact (List.getElem?_eq_some_iff.mp hl).1
  have nn : ∀ {i : Nat}, NS (S.set l c) i → NS S i := fun {i} n => by
    by_cases hi : i = l
    · subst hi; exact ns
    · intro ds z
      exact n ds (by rw [List.getElem?_set_ne (Ne.symm hi)]; exact z)
  refine ⟨by rw [List.length_set]; exact R.len, fun i j b n1 n2 => R.inj i j b (nn n1) (nn n2), fun k c' e => ?_⟩
  by_cases hk : k = l
  · subst hk
    rw [List.getElem?_set_self hlS] at e; cases e
    exact ⟨a, hl, h⟩
  · rw [List.getElem?_set_ne (Ne.symm hk)] at e
    obtain ⟨b, e1, h⟩ := R.cel k c' e
    refine ⟨b, e1, h.move (Ext.wr ha ht) (fun hc' => ?_) fun q xs z => ?_⟩
    · have : b ≠ a := fun z => hk (R.inj k l a (fun ds q => by rw [e] at q; cases q; exact hc' ds rfl) ns (z ▸ e1) hl)
      exact upd_ne this
    · have : b ≠ a := fun y => by subst y; rw [ha] at z; cases z; exact ht
      rw [upd_ne this]; exact z
/-- at a cell -/
theorem HRel.at_ {l : Nat} {c : Cel} {v : V} (R : HRel W m H C S) (r : Rep W m H (.loc l) v) (e : S[l]? = some c) : ∃ a, m[l]? = some a ∧ v = .ref a ∧ CelOk W m H C c a := by
  simp only [Rep] at r
  obtain ⟨a, e1, e2⟩ := r
  obtain ⟨b, e3, h⟩ := R.cel l c e
  rw [e1] at e3; cases e3
  exact ⟨a, e1, e2, h⟩
/-! slots -/
variable {σd : Slots} {σ : L2.St}
theorem SRel.ext (e : Ext m H m' H') (h : SRel W m H σd σ) : SRel W m' H' σd σ := ⟨h.1, fun i d x => let ⟨v, a, b⟩ := h.2 i d x; ⟨v, a, b.ext e⟩⟩
theorem SRel.set {d : Dat} {v : V} (h : SRel W m H σd σ) (r : Rep W m H d v) (i : Nat) : SRel W m H (σd.set i (some d)) (σ.set i (some v)) := by
  refine ⟨by rw [List.length_set, List.length_set]; exact h.1, fun j e x => ?_⟩
  by_cases hj : j = i
  · subst hj
    have hlt : j < σd.length := by
      by_cases q : j < σd.length
      · exact q
      · rw [List.getElem?_eq_none (by simpa using q)] at x; cases x
    rw [List.getElem?_set_self hlt] at x; cases x
    exact ⟨v, by rw [List.getElem?_set_self (by rw [h.1]; exact hlt)], r⟩
  · rw [List.getElem?_set_ne (Ne.symm hj)] at x ⊢
    exact h.2 j e x
/-- simple data -/
theorem Rep.non : Rep W m H .non .non := by simp only [Rep]
theorem Rep.bl {b : Bool} : Rep W m H (.bl b) (.bl b) := by simp only [Rep]
theorem Rep.int {i : Int} : Rep W m H (.int i) (.int i) := by simp only [Rep]
theorem Rep.str {k : Nat} : Rep W m H (.str k) (.str (W k)) := by simp only [Rep]
theorem Rep.int_inv {i : Int} {v : V} (r : Rep W m H (.int i) v) : v = .int i := by simpa only [Rep] using r
theorem Rep.bl_inv {i : Bool} {v : V} (r : Rep W m H (.bl i) v) : v = .bl i := by simpa only [Rep] using r
theorem Rep.non_inv {v : V} (r : Rep W m H .non v) : v = .non := by simpa only [Rep] using r
theorem Rep.str_inv {i : Nat} {v : V} (r : Rep W m H (.str i) v) : v = .str (W i) := by simpa only [Rep] using r
theorem Rep.tup_inv {l : List Dat} {v : V} (r : Rep W m H (.tup l) v) : ∃ a xs, v = .ref a ∧ H a = some (.tup xs) ∧ RepL W m H l xs := by simpa only [Rep] using r
theorem Rep.tup_laid {p : Addr} {l : List Dat} {xs : List V} (hp : H p = none) (r : RepL W m H l xs) : Rep W m (upd H p (.tup xs)) (.tup l) (.ref p) := by
  simp only [Rep]
  exact ⟨p, xs, rfl, upd_same, r.ext (Ext.laid hp)⟩
theorem Rep.loc_new {p : Addr} {o : HO} {S : Store} (hl : m.length = S.length) : Rep W (m ++ [p]) (upd H p o) (.loc S.length) (.ref p) := by
  simp only [Rep]
  exact ⟨p, by rw [← hl, List.getElem?_append_right (Nat.le_refl _)]; simp, rfl⟩
end

/-! ### dicts -/
section
variable {W : Nat → Str} {m : List Addr} {H : Hp} {C : KC}
theorem kOf_inj (hW : ∀ i j, W i = W j → i = j) {a b : Dat} (ha : key1 a = true) (hb : key1 b = true) (e : kOf W a = kOf W b) : a = b := by
  cases a <;> simp [key1] at ha <;> cases b <;> simp [key1] at hb <;> simp [kOf] at e
  · rw [e]
  · rw [hW _ _ e]
theorem kTs_inj (hW : ∀ i j, W i = W j → i = j) {a b : Dat} (ha : keyT a = true) (hb : keyT b = true) (e : kTs W a = kTs W b) : a = b := by
  cases a <;> simp only [keyT, Bool.false_eq_true] at ha
  cases b <;> simp only [keyT, Bool.false_eq_true] at hb
  rename_i l k
  simp only [kTs] at e
  congr 1
  induction l generalizing k with
  | nil => cases k with
    | nil => rfl
    | cons _ _ => simp at e
  | cons x l ih => cases k with
    | nil => simp at e
    | cons y k =>
      simp only [List.map_cons, List.cons.injEq] at e
      simp only [List.all_cons, Bool.and_eq_true] at ha hb
      rw [kOf_inj hW ha.1 hb.1 e.1, ih ha.2 k hb.2 e.2]
theorem kV_kOf {d : Dat} {v : V} (h : key1 d = true) (r : Rep W m H d v) : v = kV (kOf W d) := by
  cases d <;> simp [key1] at h
  · rw [r.int_inv]; rfl
  · rw [r.str_inv]; rfl
theorem kVs_kTs {l : List Dat} {xs : List V} (h : l.all key1 = true) (r : RepL W m H l xs) : xs = (l.map (kOf W)).map kV := by
  induction l generalizing xs with
  | nil => simp only [RepL] at r; rw [r]; rfl
  | cons d l ih =>
    simp only [RepL] at r
    obtain ⟨v, vr, rfl, h1, h2⟩ := r
    simp only [List.all_cons, Bool.and_eq_true] at h
    rw [List.map_cons, List.map_cons, ← kV_kOf h.1 h1, ih h.2 h2]
theorem dget_nil {k : Dat} : dget [] k = none := rfl
theorem DRelK.get (hW : ∀ i j, W i = W j → i = j) {k : Dat} (hk : key1 k = true) : ∀ {kvs : List (Dat × Dat)} {ks : List (Key × V)}, DRelK W m H kvs ks →
    (∀ d, dget kvs k = some d → ∃ v, valV ks (kOf W k) = some v ∧ Rep W m H d v) ∧ (dget kvs k = none → valV ks (kOf W k) = none)
  | [], [], _ => ⟨fun d e => by simp [dget] at e, fun _ => rfl⟩
  | [], _ :: _, h => by simp [DRelK] at h
  | _ :: _, [], h => by simp [DRelK] at h
  | p :: r, q :: s, h => by
    simp only [DRelK] at h
    obtain ⟨⟨h1, h2⟩, h3, h4⟩ := h
    have ih := DRelK.get hW hk h4
    by_cases e : p.1 = k
    · have e' : q.1 = kOf W k := by rw [h2, e]
      simp only [dget, if_pos e, valV_pos e']
      exact ⟨fun d z => by cases z; exact ⟨_, rfl, h3⟩, fun z => by cases z⟩
    · have e' : ¬ q.1 = kOf W k := fun z => e (kOf_inj hW h1 hk (h2.symm.trans z))
      simp only [dget, if_neg e, valV_neg e']
      exact ih
theorem DRelT.get (hW : ∀ i j, W i = W j → i = j) {k : Dat} (hk : keyT k = true) : ∀ {kvs : List (Dat × Dat)} {ks : List (List Key × V)}, DRelT W m H kvs ks →
    (∀ d, dget kvs k = some d → ∃ v, valV ks (kTs W k) = some v ∧ Rep W m H d v) ∧ (dget kvs k = none → valV ks (kTs W k) = none)
  | [], [], _ => ⟨fun d e => by simp [dget] at e, fun _ => rfl⟩
  | [], _ :: _, h => by simp [DRelT] at h
  | _ :: _, [], h => by simp [DRelT] at h
  | p :: r, q :: s, h => by
    simp only [DRelT] at h
    obtain ⟨⟨h1, h2⟩, h3, h4⟩ := h
    have ih := DRelT.get hW hk h4
    by_cases e : p.1 = k
    · have e' : q.1 = kTs W k := by rw [h2, e]
      simp only [dget, if_pos e, valV_pos e']
      exact ⟨fun d z => by cases z; exact ⟨_, rfl, h3⟩, fun z => by cases z⟩
    · have e' : ¬ q.1 = kTs W k := fun z => e (kTs_inj hW h1 hk (h2.symm.trans z))
      simp only [dget, if_neg e, valV_neg e']
      exact ih
theorem DRelK.length : ∀ {kvs : List (Dat × Dat)} {ks : List (Key × V)}, DRelK W m H kvs ks → ks.length = kvs.length
  | [], [], _ => rfl
  | [], _ :: _, h => by simp [DRelK] at h
  | _ :: _, [], h => by simp [DRelK] at h
  | p :: r, q :: s, h => by
    simp only [DRelK] at h
    simp [DRelK.length h.2.2]
theorem DRelT.length : ∀ {kvs : List (Dat × Dat)} {ks : List (List Key × V)}, DRelT W m H kvs ks → ks.length = kvs.length
  | [], [], _ => rfl
  | [], _ :: _, h => by simp [DRelT] at h
  | _ :: _, [], h => by simp [DRelT] at h
  | p :: r, q :: s, h => by
    simp only [DRelT] at h
    simp [DRelT.length h.2.2]
theorem DRelK.repl (hW : ∀ i j, W i = W j → i = j) {k d : Dat} {v : V} (hk : key1 k = true) (r : Rep W m H d v) : ∀ {kvs : List (Dat × Dat)} {ks : List (Key × V)}, DRelK W m H kvs ks →
    DRelK W m H (kvs.map fun p => if p.1 = k then (p.1, d) else p) (ks.map fun p => if p.1 = kOf W k then (p.1, v) else p)
  | [], [], _ => trivial
  | [], _ :: _, h => by simp [DRelK] at h
  | _ :: _, [], h => by simp [DRelK] at h
  | p :: t, q :: s, h => by
    simp only [DRelK] at h
    obtain ⟨⟨h1, h2⟩, h3, h4⟩ := h
    simp only [List.map_cons, DRelK]
    have ih := DRelK.repl hW hk r h4
    by_cases e : p.1 = k
    · have e' : q.1 = kOf W k := by rw [h2, e]
      rw [if_pos e, if_pos e']
      exact ⟨⟨h1, h2⟩, r, ih⟩
    · have e' : ¬ q.1 = kOf W k := fun z => e (kOf_inj hW h1 hk (h2.symm.trans z))
      rw [if_neg e, if_neg e']
      exact ⟨⟨h1, h2⟩, h3, ih⟩
theorem DRelT.repl (hW : ∀ i j, W i = W j → i = j) {k d : Dat} {v : V} (hk : keyT k = true) (r : Rep W m H d v) : ∀ {kvs : List (Dat × Dat)} {ks : List (List Key × V)}, DRelT W m H kvs ks →
    DRelT W m H (kvs.map fun p => if p.1 = k then (p.1, d) else p) (ks.map fun p => if p.1 = kTs W k then (p.1, v) else p)
  | [], [], _ => trivial
  | [], _ :: _, h => by simp [DRelT] at h
  | _ :: _, [], h => by simp [DRelT] at h
  | p :: t, q :: s, h => by
    simp only [DRelT] at h
    obtain ⟨⟨h1, h2⟩, h3, h4⟩ := h
    simp only [List.map_cons, DRelT]
    have ih := DRelT.repl hW hk r h4
    by_cases e : p.1 = k
    · have e' : q.1 = kTs W k := by rw [h2, e]
      rw [if_pos e, if_pos e']
      exact ⟨⟨h1, h2⟩, r, ih⟩
    · have e' : ¬ q.1 = kTs W k := fun z => e (kTs_inj hW h1 hk (h2.symm.trans z))
      rw [if_neg e, if_neg e']
      exact ⟨⟨h1, h2⟩, h3, ih⟩
theorem DRelK.snoc {k d : Dat} {v : V} (hk : key1 k = true) (r : Rep W m H d v) : ∀ {kvs : List (Dat × Dat)} {ks : List (Key × V)}, DRelK W m H kvs ks → DRelK W m H (kvs ++ [(k, d)]) (ks ++ [(kOf W k, v)])
  | [], [], _ => ⟨⟨hk, rfl⟩, r, trivial⟩
  | [], _ :: _, h => by simp [DRelK] at h
  | _ :: _, [], h => by simp [DRelK] at h
  | p :: t, q :: s, h => by
    simp only [DRelK] at h
    simp only [List.cons_append, DRelK]
    exact ⟨h.1, h.2.1, DRelK.snoc hk r h.2.2⟩
theorem DRelT.snoc {k d : Dat} {v : V} (hk : keyT k = true) (r : Rep W m H d v) : ∀ {kvs : List (Dat × Dat)} {ks : List (List Key × V)}, DRelT W m H kvs ks → DRelT W m H (kvs ++ [(k, d)]) (ks ++ [(kTs W k, v)])
  | [], [], _ => ⟨⟨hk, rfl⟩, r, trivial⟩
  | [], _ :: _, h => by simp [DRelT] at h
  | _ :: _, [], h => by simp [DRelT] at h
  | p :: t, q :: s, h => by
    simp only [DRelT] at h
    simp only [List.cons_append, DRelT]
    exact ⟨h.1, h.2.1, DRelT.snoc hk r h.2.2⟩
theorem DRelK.put (hW : ∀ i j, W i = W j → i = j) {k d : Dat} {v : V} (hk : key1 k = true) (r : Rep W m H d v) {kvs : List (Dat × Dat)} {ks : List (Key × V)} (h : DRelK W m H kvs ks) :
    DRelK W m H (dput kvs k d) (putK ks (kOf W k) v) := by
  have g := h.get hW hk
  unfold dput putK
  rw [valV_any]
  cases e : dget kvs k with
  | none =>
    rw [g.2 e]
    simp only [Option.isSome_none, Bool.false_eq_true, if_false]
    exact h.snoc hk r
  | some x =>
    obtain ⟨y, e1, _⟩ := g.1 x e
    rw [e1]
    simp only [Option.isSome_some, if_true]
    exact h.repl hW hk r
theorem DRelT.put (hW : ∀ i j, W i = W j → i = j) {k d : Dat} {v : V} (hk : keyT k = true) (r : Rep W m H d v) {kvs : List (Dat × Dat)} {ks : List (List Key × V)} (h : DRelT W m H kvs ks) :
    DRelT W m H (dput kvs k d) (putK ks (kTs W k) v) := by
  have g := h.get hW hk
  unfold dput putK
  rw [valV_any]
  cases e : dget kvs k with
  | none =>
    rw [g.2 e]
    simp only [Option.isSome_none, Bool.false_eq_true, if_false]
    exact h.snoc hk r
  | some x =>
    obtain ⟨y, e1, _⟩ := g.1 x e
    rw [e1]
    simp only [Option.isSome_some, if_true]
    exact h.repl hW hk r
theorem DRelK.del (hW : ∀ i j, W i = W j → i = j) {k : Dat} (hk : key1 k = true) : ∀ {kvs : List (Dat × Dat)} {ks : List (Key × V)}, DRelK W m H kvs ks → DRelK W m H (ddel kvs k) (dropK ks (kOf W k))
  | [], [], _ => trivial
  | [], _ :: _, h => by simp [DRelK] at h
  | _ :: _, [], h => by simp [DRelK] at h
  | p :: t, q :: s, h => by
    simp only [DRelK] at h
    obtain ⟨⟨h1, h2⟩, h3, h4⟩ := h
    have ih := DRelK.del hW hk h4
    unfold ddel dropK at ih ⊢
    rw [List.filter_cons, List.filter_cons]
    by_cases e : p.1 = k
    · have e' : q.1 = kOf W k := by rw [h2, e]
      simp only [e, e', ne_eq, not_true_eq_false, decide_false, Bool.false_eq_true, if_false]
      exact ih
    · have e' : ¬ q.1 = kOf W k := fun z => e (kOf_inj hW h1 hk (h2.symm.trans z))
      simp only [e, e', ne_eq, not_false_eq_true, decide_true, if_true, DRelK]
      exact ⟨⟨h1, h2⟩, h3, ih⟩
theorem DRelT.del (hW : ∀ i j, W i = W j → i = j) {k : Dat} (hk : keyT k = true) : ∀ {kvs : List (Dat × Dat)} {ks : List (List Key × V)}, DRelT W m H kvs ks → DRelT W m H (ddel kvs k) (dropK ks (kTs W k))
  | [], [], _ => trivial
  | [], _ :: _, h => by simp [DRelT] at h
  | _ :: _, [], h => by simp [DRelT] at h
  | p :: t, q :: s, h => by
    simp only [DRelT] at h
    obtain ⟨⟨h1, h2⟩, h3, h4⟩ := h
    have ih := DRelT.del hW hk h4
    unfold ddel dropK at ih ⊢
    rw [List.filter_cons, List.filter_cons]
    by_cases e : p.1 = k
    · have e' : q.1 = kTs W k := by rw [h2, e]
      simp only [e, e', ne_eq, not_true_eq_false, decide_false, Bool.false_eq_true, if_false]
      exact ih
    · have e' : ¬ q.1 = kTs W k := fun z => e (kTs_inj hW h1 hk (h2.symm.trans z))
      simp only [e, e', ne_eq, not_false_eq_true, decide_true, if_true, DRelT]
      exact ⟨⟨h1, h2⟩, h3, ih⟩
/-! fields -/
theorem FRel.get (hW : ∀ i j, W i = W j → i = j) {f : Nat} : ∀ {fs : List (Nat × Dat)} {gs : List (Str × V)}, FRel W m H fs gs →
    (∀ d, fget fs f = some d → ∃ v, gs.lookup (W f) = some v ∧ Rep W m H d v) ∧ (fget fs f = none → gs.lookup (W f) = none)
  | [], [], _ => ⟨fun d e => by simp [fget] at e, fun _ => rfl⟩
  | [], _ :: _, h => by simp [FRel] at h
  | _ :: _, [], h => by simp [FRel] at h
  | p :: r, q :: s, h => by
    simp only [FRel] at h
    obtain ⟨h1, h3, h4⟩ := h
    have ih := FRel.get hW (f := f) h4
    obtain ⟨qa, qb⟩ := q
    simp only at h1 h3
    by_cases e : p.1 = f
    · have e' : (W f == qa) = true := by rw [h1, e]; exact beq_self_eq_true _
      simp only [fget, if_pos e, List.lookup_cons, e']
      exact ⟨fun d z => by cases z; exact ⟨_, rfl, h3⟩, fun z => by cases z⟩
    · have e' : (W f == qa) = false := by
        rw [beq_eq_false_iff_ne]
        exact fun z => e (hW _ _ (h1.symm.trans z.symm))
      simp only [fget, if_neg e, List.lookup_cons, e']
      exact ih
theorem FRel.length : ∀ {fs : List (Nat × Dat)} {gs : List (Str × V)}, FRel W m H fs gs → gs.length = fs.length
  | [], [], _ => rfl
  | [], _ :: _, h => by simp [FRel] at h
  | _ :: _, [], h => by simp [FRel] at h
  | p :: r, q :: s, h => by
    simp only [FRel] at h
    simp [FRel.length h.2.2]
theorem FRel.put (hW : ∀ i j, W i = W j → i = j) {f : Nat} {d : Dat} {v : V} (r : Rep W m H d v) : ∀ {fs : List (Nat × Dat)} {gs : List (Str × V)}, FRel W m H fs gs → FRel W m H (fput fs f d) (putF (W f) v gs)
  | [], [], _ => ⟨rfl, r, trivial⟩
  | [], _ :: _, h => by simp [FRel] at h
  | _ :: _, [], h => by simp [FRel] at h
  | p :: t, (qa, qv) :: s, h => by
    simp only [FRel] at h
    obtain ⟨h1, h3, h4⟩ := h
    by_cases e : p.1 = f
    · have e' : qa = W f := by rw [h1, e]
      simp only [fput, putF, if_pos e, if_pos e', FRel]
      exact ⟨e', r, h4⟩
    · have e' : ¬ qa = W f := fun z => e (hW _ _ (h1.symm.trans z))
      simp only [fput, putF, if_neg e, if_neg e', FRel]
      exact ⟨h1, h3, FRel.put hW r h4⟩
end

/-! ### equality of data without a store -/
section
variable {W : Nat → Str} {m : List Addr} {H : Hp} {K : PySem.W.Frag}
mutual
def toPy (W : Nat → Str) : Dat → PyData
  | .non => .none
  | .bl b => .bool b
  | .int i => .int i
  | .str k => .str (W k)
  | .tup l => .tuple (toPyL W l)
  | .loc _ => .none
def toPyL (W : Nat → Str) : List Dat → List PyData
  | [] => []
  | d :: ds => toPy W d :: toPyL W ds
end
mutual
theorem deq_py (hW : ∀ i j, W i = W j → i = j) : ∀ (a b : Dat) (n k : Nat), lfd n a = true → lfd k b = true → PyData.eqv (toPy W a) (toPy W b) = deq a b := by
  intro a b n k ha hb
  cases a <;> cases b <;> simp only [toPy, PyData.eqv, deq] <;> first | rfl | skip
  all_goals first
    | (exfalso; revert ha; cases n <;> simp [lfd]; done)
    | (exfalso; revert hb; cases k <;> simp [lfd]; done)
    | (cases n <;> cases k <;> simp only [lfd, Bool.false_eq_true] at ha hb
       exact deqL_py hW _ _ _ _ ha hb)
    | (rename_i x y
       by_cases e : x = y
       · subst e; simp
       · rw [beq_eq_false_iff_ne.mpr e, beq_eq_false_iff_ne.mpr (fun z => e (hW _ _ z))])
theorem deqL_py (hW : ∀ i j, W i = W j → i = j) : ∀ (a b : List Dat) (n k : Nat), lfdL n a = true → lfdL k b = true → PyData.eqvAll (toPyL W a) (toPyL W b) = deqL a b := by
  intro a b n k ha hb
  cases a <;> cases b <;> simp only [toPyL, PyData.eqvAll, deqL]
  simp only [lfdL, Bool.and_eq_true] at ha hb
  rw [deq_py hW _ _ _ _ ha.1 hb.1, deqL_py hW _ _ _ _ ha.2 hb.2]
end
end
end PyS

/-! S2: what is known of the text; operators, subscripts, built-ins by values. -/
namespace PyS
open PySem PySem.Spec PyProof.Rows L2 PyI

structure Stat where
  P : Prog
  W : Nat → Str
  dd : Nat → He.DefD
  nm : Nat → List Str
  cn : Nat → Str
  xn : Nat → Str
  gn : Nat → Str
  fr : List Str
def Stat.fa (T : Stat) (K : PySem.W.Frag) (f : Nat) : Addr := He.fAd K (T.dd f).at_
def Stat.ca (T : Stat) (K : PySem.W.Frag) : KC := ⟨fun c => He.ga K (T.cn c), fun a xs => ∀ H, SqL K H a xs⟩
theorem ScrAt.sql {T : Stat} {K : PySem.W.Frag} {H : Hp} {a : Addr} {xs : List V} (h : ScrAt (T.ca K) H a xs) : SqL K H a xs := by
  rcases h with ⟨o, h⟩ | h
  · exact .inl (.inr ⟨o, h⟩)
  · exact h H
def Stat.xa (T : Stat) (K : PySem.W.Frag) (c : Nat) : Addr := He.ga K (T.xn c)
def Stat.ps (T : Stat) (f : Nat) : List Str := match T.P.defs[f]? with
  | some d => (T.nm f).take d.np
  | none => []

/-- what is wanted of an outcome -/
def Post (T : Stat) (K : PySem.W.Frag) {α : Type} (r : Re α) (m : List Addr) (H : Hp) (ok : α → Store → List Addr → Hp → Prop) (xx : Nat → Store → List Addr → Hp → Prop) : Prop := match r with
  | .ok a S' => ∀ m' H', Ext m H m' H' → HRel T.W m' H' (T.ca K) S' → ok a S' m' H'
  | .exc c S' => ∀ m' H', Ext m H m' H' → HRel T.W m' H' (T.ca K) S' → xx c S' m' H'
  | .bad => False
section
variable {T : Stat} {K : PySem.W.Frag} {α β : Type} {r : Re α} {f : α → Store → Re β} {m m1 : List Addr} {H H1 : Hp} {ok ok' : α → Store → List Addr → Hp → Prop} {okb : β → Store → List Addr → Hp → Prop} {xx : Nat → Store → List Addr → Hp → Prop}
theorem Post.mono (h : Post T K r m H ok xx) (e : Ext m H m1 H1) : Post T K r m1 H1 ok xx := by
  cases r with
  | ok a S => exact fun m' H' e' R => h m' H' (e.trans e') R
  | exc c S => exact fun m' H' e' R => h m' H' (e.trans e') R
  | bad => exact h
theorem Post.seq (h : Post T K (r.bind f) m H okb xx) (k : ∀ a S1 m1 H1, Ext m H m1 H1 → HRel T.W m1 H1 (T.ca K) S1 → Post T K (f a S1) m1 H1 okb xx → ok' a S1 m1 H1) : Post T K r m H ok' xx := by
  cases r with
  | ok a S =>
    have h : Post T K (f a S) m H okb xx := h
    exact fun m' H' e' R => k a S m' H' e' R (h.mono e')
  | exc c S => exact h
  | bad => exact h
theorem Post.imp (h : Post T K r m H ok xx) (k : ∀ a S1 m1 H1, Ext m H m1 H1 → HRel T.W m1 H1 (T.ca K) S1 → ok a S1 m1 H1 → ok' a S1 m1 H1) : Post T K r m H ok' xx := by
  cases r with
  | ok a S => exact fun m' H' e' R => k a S m' H' e' R (h m' H' e' R)
  | exc c S => exact h
  | bad => exact h
end
theorem Post.unnox {T : Stat} {K : PySem.W.Frag} {α : Type} {r : Re α} {m : List Addr} {H : Hp} {ok : α → Store → List Addr → Hp → Prop} {xx xx' : Nat → Store → List Addr → Hp → Prop} (h : Post T K r.nox m H ok xx) : Post T K r m H ok xx' := by
  cases r with
  | ok a S => exact h
  | exc c S => exact h.elim
  | bad => exact h
def okV (T : Stat) (Q : VK) : Dat → Store → List Addr → Hp → Prop := fun d _ m H => ∀ v, Rep T.W m H d v → Q v H
def okL (T : Stat) (Q : List V → Hp → Prop) : List Dat → Store → List Addr → Hp → Prop := fun d _ m H => ∀ v, RepL T.W m H d v → Q v H
def okB (Q : Bool → Hp → Prop) : Bool → Store → List Addr → Hp → Prop := fun d _ _ H => Q d H
section
variable {T : Stat} {K : PySem.W.Frag} {S : Store} {m : List Addr} {H : Hp} {Q : VK} {xx : Nat → Store → List Addr → Hp → Prop}
theorem okV.now {d : Dat} {v : V} (h : Post T K (.ok d S) m H (okV T Q) xx) (R : HRel T.W m H (T.ca K) S) (r : Rep T.W m H d v) : Q v H := h m H Ext.refl R v r
theorem okV.bl {d : Bool} (h : Post T K (.ok (.bl d) S) m H (okV T Q) xx) (R : HRel T.W m H (T.ca K) S) : Q (.bl d) H := okV.now h R Rep.bl
theorem okV.int {d : Int} (h : Post T K (.ok (.int d) S) m H (okV T Q) xx) (R : HRel T.W m H (T.ca K) S) : Q (.int d) H := okV.now h R Rep.int
/-- a new list -/
theorem okV.lst {ds : List Dat} {xs : List V} (h : Post T K (.ok (.loc S.length) (S ++ [.lst ds])) m H (okV T Q) xx) (R : HRel T.W m H (T.ca K) S) (r : RepL T.W m H ds xs) {p : Addr} (hp : H p = none) : Q (.ref p) (upd H p (.lst xs)) :=
  h (m ++ [p]) _ (Ext.new hp) (R.new hp ⟨xs, upd_same, r.ext (Ext.new hp)⟩) _ (Rep.loc_new R.len)
/-- a new tuple -/
theorem okV.tup {ds : List Dat} {xs : List V} (h : Post T K (.ok (.tup ds) S) m H (okV T Q) xx) (R : HRel T.W m H (T.ca K) S) (r : RepL T.W m H ds xs) {p : Addr} (hp : H p = none) : Q (.ref p) (upd H p (.tup xs)) :=
  h m _ (Ext.laid hp) (R.laid hp) _ (Rep.tup_laid hp r)
end

/-- the operators' names -/
def binP : BinO → Operator
  | .add => .Add
  | .sub => .Sub
  | .mul => .Mult
  | .fdiv => .FloorDiv
  | .mod => .Mod
  | .pow => .Pow
def cmpP : PyI.CmpO → CmpOp
  | .eq => .Eq
  | .ne => .NotEq
  | .lt => .Lt
  | .le => .LtE
  | .gt => .Gt
  | .ge => .GtE
  | .is_ => .Is
  | .isn => .IsNot
  | .in_ => .In
  | .nin => .NotIn

/-- all readings of values over a store -/
def rSt (T : Stat) (K : PySem.W.Frag) (f : Dat → Dat → Store → Re Dat) : R2 := fun x y H Q => ∃ m S a b xx, Rep T.W m H a x ∧ Rep T.W m H b y ∧ HRel T.W m H (T.ca K) S ∧ Post T K (f a b S) m H (okV T Q) xx
theorem limS : LIM = sizeLine := by rw [sizeLine_eq]; rfl

section
variable {T : Stat} {X : Cx} {C : KC}
theorem HRel.lstv {W : Nat → Str} {m : List Addr} {H : Hp} {S : Store} {l : Nat} {xs : List Dat} {v : V} (R : HRel W m H C S) (r : Rep W m H (.loc l) v) (e : S[l]? = some (.lst xs)) : ∃ a vs, m[l]? = some a ∧ v = .ref a ∧ H a = some (.lst vs) ∧ RepL W m H xs vs := by
  obtain ⟨a, h1, h2, vs, h3, h4⟩ := R.at_ r e
  exact ⟨a, vs, h1, h2, h3, h4⟩
theorem HRel.scrv {W : Nat → Str} {m : List Addr} {H : Hp} {S : Store} {l : Nat} {xs : List Dat} {v : V} (R : HRel W m H C S) (r : Rep W m H (.loc l) v) (e : S[l]? = some (.scr xs)) : ∃ a vs, m[l]? = some a ∧ v = .ref a ∧ ScrAt C H a vs ∧ RepL W m H xs vs := by
  obtain ⟨a, h1, h2, vs, h3, h4⟩ := R.at_ r e
  exact ⟨a, vs, h1, h2, h3, h4⟩
theorem op_bop (o : BinO) : OpR X (binaryOp (binP o)) (rSt T X.K (bop o)) := by
  intro pins s σ H x y v u Q I rx ry ⟨m, S, a, b, xx, ra, rb, R, hp⟩
  cases o <;> simp only [bop] at hp
  · -- add
    split at hp
    · rename_i i j
      cases ra.int_inv; cases rb.int_inv
      exact op_add pins s σ H _ _ v u Q I rx ry ⟨i, j, rfl, rfl, okV.int hp R⟩
    · rename_i ds es
      obtain ⟨p, xs, rfl, e1, r1⟩ := ra.tup_inv
      obtain ⟨q, ys, rfl, e2, r2⟩ := rb.tup_inv
      split at hp
      · rename_i hc
        obtain ⟨h1, h2, h3⟩ := hc
        have l1 := r1.length
        have l2 := r2.length
        refine op_catT pins s σ H _ _ v u Q I rx ry ⟨p, q, xs, ys, rfl, rfl, SqT.of e1, SqT.of e2, fun z => ?_, ?_, fun z => ?_, fun _ pp hpp => okV.tup hp R (r1.append r2) hpp⟩
        · rw [z] at l1; exact h2 (List.length_eq_zero_iff.mp l1.symm)
        · rw [l1, l2, ← limS]; exact h1
        · rw [z] at l2; exact absurd (List.length_eq_zero_iff.mp l2.symm) h3
      · exact hp.elim
    · rename_i l k
      split at hp
      · rename_i ds es e1 e2
        split at hp
        · rename_i hc
          obtain ⟨p, xs, _, rfl, h1, r1⟩ := R.lstv ra e1
          obtain ⟨q, ys, _, rfl, h2, r2⟩ := R.lstv rb e2
          refine op_cat pins s σ H _ _ v u Q I rx ry ⟨p, q, xs, ys, rfl, rfl, h1, h2, by rw [r1.length, r2.length, ← limS]; exact hc, fun pp hpp => okV.lst hp R (r1.append r2) hpp⟩
        · exact hp.elim
      · exact hp.elim
    · exact hp.elim
  · split at hp
    · rename_i i j
      cases ra.int_inv; cases rb.int_inv
      exact op_sub pins s σ H _ _ v u Q I rx ry ⟨i, j, rfl, rfl, okV.int hp R⟩
    · exact hp.elim
  · split at hp
    · rename_i i j
      cases ra.int_inv; cases rb.int_inv
      split at hp
      · rename_i hc
        exact op_mul pins s σ H _ _ v u Q I rx ry ⟨i, j, rfl, rfl, hc, okV.int hp R⟩
      · exact hp.elim
    · exact hp.elim
  · split at hp
    · rename_i i j
      cases ra.int_inv; cases rb.int_inv
      split at hp
      · rename_i hc
        exact op_fdiv pins s σ H _ _ v u Q I rx ry ⟨i, j, rfl, rfl, hc, okV.int hp R⟩
      · exact hp.elim
    · exact hp.elim
  · split at hp
    · rename_i i j
      cases ra.int_inv; cases rb.int_inv
      split at hp
      · rename_i hc
        exact op_mod pins s σ H _ _ v u Q I rx ry ⟨i, j, rfl, rfl, hc, okV.int hp R⟩
      · exact hp.elim
    · exact hp.elim
  · split at hp
    · rename_i i j
      cases ra.int_inv; cases rb.int_inv
      split at hp
      · rename_i hc
        exact op_pow pins s σ H _ _ v u Q I rx ry ⟨i, j, rfl, rfl, hc, okV.int hp R⟩
      · exact hp.elim
    · exact hp.elim

/-! ### data without a store -/
section
variable {W : Nat → Str} {m : List Addr} {H : Hp} {K : PySem.W.Frag}
mutual
theorem lfd_dp : ∀ {d : Dat} {n : Nat} {v : V}, lfd n d = true → Rep W m H d v → Dp K H v (toPy W d)
  | .non, n, v, _, r => by rw [r.non_inv]; exact Dp.non
  | .bl b, n, v, _, r => by rw [r.bl_inv]; exact Dp.bl b
  | .int i, n, v, _, r => by rw [r.int_inv]; exact Dp.int i
  | .str k, n, v, _, r => by rw [r.str_inv]; exact Dp.str _
  | .tup l, n, v, h, r => by
    obtain ⟨a, xs, rfl, e, r⟩ := r.tup_inv
    cases n with
    | zero => simp [lfd] at h
    | succ n =>
      simp only [lfd] at h
      exact Dp.tup (SqT.of e) (lfdL_dp h r)
  | .loc l, n, v, h, r => by cases n <;> simp [lfd] at h
theorem lfdL_dp : ∀ {d : List Dat} {n : Nat} {v : List V}, lfdL n d = true → RepL W m H d v → DpAll K H v (toPyL W d)
  | [], n, v, _, r => by simp only [RepL] at r; rw [r]; exact DpAll.nil
  | d :: ds, n, v, h, r => by
    simp only [RepL] at r
    obtain ⟨w, vr, rfl, h1, h2⟩ := r
    simp only [lfdL, Bool.and_eq_true] at h
    exact DpAll.cons (lfd_dp h.1 h1) (lfdL_dp h.2 h2)
end
mutual
theorem lfd_lay (hS : ∀ k, PyData.strOk (W k) = true) : ∀ {d : Dat} {n : Nat}, lfd n d = true → (toPy W d).canLay0 = true ∧ (toPy W d).depth ≤ n + 1
  | .non, n, _ => by simp [toPy, PyData.canLay0, PyData.depth]
  | .bl b, n, _ => by simp [toPy, PyData.canLay0, PyData.depth]
  | .int i, n, _ => by simp [toPy, PyData.canLay0, PyData.depth]
  | .str k, n, _ => by simp [toPy, PyData.canLay0, PyData.depth, hS]
  | .tup l, n, h => by
    cases n with
    | zero => simp [lfd] at h
    | succ n =>
      simp only [lfd] at h
      have := lfdL_lay hS h
      simp only [toPy, PyData.canLay0, PyData.depth]
      exact ⟨this.1, by have := this.2; omega⟩
  | .loc l, n, h => by cases n <;> simp [lfd] at h
theorem lfdL_lay (hS : ∀ k, PyData.strOk (W k) = true) : ∀ {d : List Dat} {n : Nat}, lfdL n d = true → PyData.canLayAll0 (toPyL W d) = true ∧ PyData.depthAll (toPyL W d) ≤ n + 1
  | [], n, _ => by simp [toPyL, PyData.canLayAll0, PyData.depthAll]
  | d :: ds, n, h => by
    simp only [lfdL, Bool.and_eq_true] at h
    have h1 := lfd_lay hS h.1
    have h2 := lfdL_lay hS h.2
    simp only [toPyL, PyData.canLayAll0, PyData.depthAll, Bool.and_eq_true]
    exact ⟨⟨h1.1, h2.1⟩, by have := h1.2; have := h2.2; omega⟩
end
end
end

section
variable {T : Stat} {X : Cx}
theorem shp_lay {W : Nat → Str} (hS : ∀ k, PyData.strOk (W k) = true) {d : Dat} (h : shp d = true) : SeqAt.shaped (toPy W d) = true := by
  have q := lfd_lay hS (n := 60) h
  unfold SeqAt.shaped
  rw [Bool.and_eq_true]
  exact ⟨q.1, decide_eq_true (by have := q.2; omega)⟩
theorem RelV.refI {a : Addr} {u : Value} (r : RelV (.ref a) u) : u = .ref a := r
/-- x in y -/
theorem memq_py {W : Nat → Str} (hW : ∀ i j, W i = W j → i = j) {x : Dat} (hx : shp x = true) : ∀ {ys : List Dat}, ys.all shp = true → (ys.map (toPy W)).any (fun y => PyData.eqv y (toPy W x)) = memq x ys
  | [], _ => rfl
  | y :: ys, h => by
    simp only [List.all_cons, Bool.and_eq_true] at h
    simp only [List.map_cons, List.any_cons, memq]
    rw [deq_py hW _ _ 60 60 h.1 hx]
    have := memq_py hW hx h.2
    unfold memq at this
    rw [this]
theorem Inv.retype {pins : List (Addr × Obj)} {σ : L2.St} {H : Hp} {s : Shared} {a : Addr} (I : Inv X pins σ H s) (e : H a = some (.dK [])) : Inv X pins σ (upd H a (.dT [])) s := by
  obtain ⟨z, hd, vs, rel, o, es, ep, h1, h2, h3, _, h4, h5⟩ := (show ObjOk X.prog X.w H s.heap a (.dK []) from I.hok a _ e)
  cases rel
  have h4 : es.toList = [] := by
    generalize es.toList = l at h4
    cases h4; rfl
  have := I.write (x := a) (e := a) (o := .dT []) (h' := s.heap) (t' := s.toks) (by rw [e]; exact True.intro) (.inl rfl) (fun _ _ _ q => q) ⟨o, h1⟩
    ⟨Nat.zero_le _, hd, [], .nil, o, es, ep, h1, h2, h3, by rw [h4]; rfl, List.nodup_nil⟩
  exact this

theorem lfdL_all {xs : List Dat} (h : xs.all shp = true) : lfdL 60 xs = true := by
  induction xs with
  | nil => rfl
  | cons x xs ih =>
    simp only [List.all_cons, Bool.and_eq_true] at h
    simp only [lfdL, Bool.and_eq_true]
    exact ⟨h.1, ih h.2⟩
theorem toPyL_map {W : Nat → Str} (xs : List Dat) : toPyL W xs = xs.map (toPy W) := by
  induction xs with
  | nil => rfl
  | cons x xs ih => simp only [toPyL, List.map_cons, ih]
theorem shaped_list {W : Nat → Str} (hS : ∀ k, PyData.strOk (W k) = true) {xs : List Dat} (h : xs.all shp = true) : SeqAt.shaped (.list (toPyL W xs)) = true := by
  have q := lfdL_lay hS (lfdL_all h)
  unfold SeqAt.shaped
  rw [Bool.and_eq_true]
  simp only [PyData.canLay0, PyData.depth]
  exact ⟨q.1, decide_eq_true (by have := q.2; omega)⟩
theorem shaped_tup {W : Nat → Str} (hS : ∀ k, PyData.strOk (W k) = true) {xs : List Dat} (h : xs.all shp = true) : SeqAt.shaped (.tuple (toPyL W xs)) = true := by
  have q := lfdL_lay hS (lfdL_all h)
  unfold SeqAt.shaped
  rw [Bool.and_eq_true]
  simp only [PyData.canLay0, PyData.depth]
  exact ⟨q.1, decide_eq_true (by have := q.2; omega)⟩

theorem Inv.retype2 {pins : List (Addr × Obj)} {σ : L2.St} {H : Hp} {s : Shared} {a : Addr} (I : Inv X pins σ H s) (e : H a = some (.dT [])) : Inv X pins σ (upd H a (.dK [])) s := by
  obtain ⟨z, hd, xs, rel, o, es, ep, h1, h2, h3, h4, h5⟩ := (show ObjOk X.prog X.w H s.heap a (.dT []) from I.hok a _ e)
  cases rel
  have h4 : es.toList = [] := by simpa using h4
  have h6 : es = #[] := by
    cases es
    simp at h4
    rw [h4]
  subst h6
  have := I.write (x := a) (e := a) (o := .dK []) (h' := s.heap) (t' := s.toks) (by rw [e]; exact True.intro) (.inl rfl) (fun _ _ _ q => q) ⟨o, h1⟩
    ⟨Nat.zero_le _, hd, [], .nil, o, #[], ep, h1, h2, h3, fun x hx => by simp at hx, .nil, List.nodup_nil⟩
  exact this
theorem set_same {S : Store} {l : Nat} {c : Cel} (e : S[l]? = some c) : S.set l c = S := by
  obtain ⟨h, rfl⟩ := List.getElem?_eq_some_iff.mp e
  exact List.set_getElem_self h
theorem dct_kind {C : KC} {W : Nat → Str} {m : List Addr} {H : Hp} {S : Store} {l : Nat} {kvs : List (Dat × Dat)} {k : Dat} {v : V} (R : HRel W m H C S) (e : S[l]? = some (.dct kvs)) (r : Rep W m H (.loc l) v) (hk : kindOk kvs k = true) :
    ∃ a H', v = .ref a ∧ m[l]? = some a ∧ (∀ (X : Cx) pins σ s, Inv X pins σ H s → Inv X pins σ H' s) ∧ Ext m H m H' ∧ HRel W m H' C S ∧
      ((key1 k = true ∧ ∃ ks, H' a = some (.dK ks) ∧ DRelK W m H' kvs ks) ∨ (keyT k = true ∧ ∃ ks, H' a = some (.dT ks) ∧ DRelT W m H' kvs ks)) := by
  obtain ⟨a, h1, h2, h3⟩ := R.at_ r e
  rcases h3 with ⟨ks, ea, rl⟩ | ⟨ks, ea, rl⟩
  · cases kvs with
    | nil =>
      cases ks with
      | cons _ _ => simp [DRelK] at rl
      | nil =>
        simp only [kindOk, Bool.or_eq_true] at hk
        rcases hk with hk | hk
        · exact ⟨a, H, h2, h1, fun _ _ _ _ I => I, Ext.refl, R, .inl ⟨hk, [], ea, trivial⟩⟩
        · have R' := R.wr (c := .dct []) (NS.of e rfl) h1 ea trivial (fun _ z => by cases z) (o := .dT []) (.inr ⟨[], upd_same, trivial⟩)
          rw [set_same e] at R'
          exact ⟨a, _, h2, h1, fun _ _ _ _ I => Inv.retype I ea, Ext.wr ea trivial, R', .inr ⟨hk, [], upd_same, trivial⟩⟩
    | cons p kvs =>
      cases ks with
      | nil => simp [DRelK] at rl
      | cons q ks =>
        simp only [kindOk, Bool.or_eq_true, Bool.and_eq_true] at hk
        have rl' := rl
        simp only [DRelK] at rl'
        have hp := rl'.1.1
        rcases hk with ⟨_, hk⟩ | ⟨hk, _⟩
        · exact ⟨a, H, h2, h1, fun _ _ _ _ I => I, Ext.refl, R, .inl ⟨hk, _, ea, rl⟩⟩
        · exfalso
          revert hp hk
          cases p.1 <;> simp [key1, keyT]
  · cases kvs with
    | nil =>
      cases ks with
      | cons _ _ => simp [DRelT] at rl
      | nil =>
        simp only [kindOk, Bool.or_eq_true] at hk
        rcases hk with hk | hk
        · have R' := R.wr (c := .dct []) (NS.of e rfl) h1 ea trivial (fun _ z => by cases z) (o := .dK []) (.inl ⟨[], upd_same, trivial⟩)
          rw [set_same e] at R'
          exact ⟨a, _, h2, h1, fun _ _ _ _ I => Inv.retype2 I ea, Ext.wr ea trivial, R', .inl ⟨hk, [], upd_same, trivial⟩⟩
        · exact ⟨a, H, h2, h1, fun _ _ _ _ I => I, Ext.refl, R, .inr ⟨hk, [], ea, trivial⟩⟩
    | cons p kvs =>
      cases ks with
      | nil => simp [DRelT] at rl
      | cons q ks =>
        simp only [kindOk, Bool.or_eq_true, Bool.and_eq_true] at hk
        have rl' := rl
        simp only [DRelT] at rl'
        have hp := rl'.1.1
        rcases hk with ⟨hk, _⟩ | ⟨_, hk⟩
        · exfalso
          revert hp hk
          cases p.1 <;> simp [key1, keyT]
        · exact ⟨a, H, h2, h1, fun _ _ _ _ I => I, Ext.refl, R, .inr ⟨hk, _, ea, rl⟩⟩
/-- asking a dict -/
theorem dct_get {C : KC} {W : Nat → Str} (hW : ∀ i j, W i = W j → i = j) {m : List Addr} {H : Hp} {kvs : List (Dat × Dat)} {k : Dat} {a : Addr} {y : V} (ry : Rep W m H k y)
    (h : (key1 k = true ∧ ∃ ks, H a = some (.dK ks) ∧ DRelK W m H kvs ks) ∨ (keyT k = true ∧ ∃ ks, H a = some (.dT ks) ∧ DRelT W m H kvs ks)) :
    ∃ o, DGet H a y o ∧ (∀ d, dget kvs k = some d → ∃ v, o = some v ∧ Rep W m H d v) ∧ (dget kvs k = none → o = none) := by
  rcases h with ⟨hk, ks, e, r⟩ | ⟨hk, ks, e, r⟩
  · have g := r.get hW hk
    rw [kV_kOf hk ry]
    exact ⟨_, DGet.k e, g.1, g.2⟩
  · have g := r.get hW hk
    cases k <;> simp only [keyT, Bool.false_eq_true] at hk
    rename_i l
    obtain ⟨b, xs, rfl, eb, rl⟩ := ry.tup_inv
    have ex := kVs_kTs hk rl
    exact ⟨_, DGet.t e (by rw [eb, ex]; rfl), g.1, g.2⟩
theorem dct_put {C : KC} {W : Nat → Str} (hW : ∀ i j, W i = W j → i = j) {m : List Addr} {H : Hp} {S : Store} {l : Nat} {kvs : List (Dat × Dat)} {k d : Dat} {a : Addr} {y v : V} (R : HRel W m H C S) (ns : NS S l) (hl : m[l]? = some a) (ry : Rep W m H k y) (rv : Rep W m H d v) (hz : kvs.length < LIM)
    (h : (key1 k = true ∧ ∃ ks, H a = some (.dK ks) ∧ DRelK W m H kvs ks) ∨ (keyT k = true ∧ ∃ ks, H a = some (.dT ks) ∧ DRelT W m H kvs ks)) :
    ∃ H', DPut H a y v H' ∧ Ext m H m H' ∧ HRel W m H' C (S.set l (.dct (dput kvs k d))) := by
  rcases h with ⟨hk, ks, e, r⟩ | ⟨hk, ks, e, r⟩
  · rw [kV_kOf hk ry]
    have ex : Ext m H m (upd H a (.dK (putK ks (kOf W k) v))) := Ext.wr e trivial
    exact ⟨_, DPut.k e (by rw [r.length, ← limS]; exact hz), ex, R.wr ns hl e trivial (fun _ z => by cases z) (.inl ⟨_, upd_same, (r.put hW hk rv).ext ex⟩)⟩
  · have hk' := hk
    cases k <;> simp only [keyT, Bool.false_eq_true] at hk
    rename_i q
    obtain ⟨b, xs, rfl, eb, rl⟩ := ry.tup_inv
    have ex := kVs_kTs hk rl
    have ex2 : Ext m H m (upd H a (.dT (putK ks (kTs W (.tup q)) v))) := Ext.wr e trivial
    exact ⟨_, DPut.t e (by rw [eb, ex]; rfl) (by rw [r.length, ← limS]; exact hz), ex2, R.wr ns hl e trivial (fun _ z => by cases z) (.inr ⟨_, upd_same, (r.put hW hk' rv).ext ex2⟩)⟩

/-! ### comparisons by values -/
theorem op_cop (hW : ∀ i j, T.W i = T.W j → i = j) (hS : ∀ k, PyData.strOk (T.W k) = true) (hu : X.A.units + 65 < cLine) (o : PyI.CmpO) : OpR X (compareOp (cmpP o)) (rSt T X.K (cop o)) := by
  intro pins s σ H x y v u Q I rx ry ⟨m, S, a, b, xx, ra, rb, R, hp⟩
  cases o <;> simp only [cop] at hp
  · split at hp
    · rename_i hc
      refine op_eqD (by omega) pins s σ H x y v u Q I rx ry ⟨toPy T.W a, toPy T.W b, lfd_dp hc.1 ra, lfd_dp hc.2 rb, shp_lay hS hc.1, shp_lay hS hc.2, ?_⟩
      rw [deq_py hW _ _ 60 60 hc.1 hc.2]
      exact okV.bl hp R
    · exact hp.elim
  · split at hp
    · rename_i hc
      refine op_neD (by omega) pins s σ H x y v u Q I rx ry ⟨toPy T.W a, toPy T.W b, lfd_dp hc.1 ra, lfd_dp hc.2 rb, shp_lay hS hc.1, shp_lay hS hc.2, ?_⟩
      rw [deq_py hW _ _ 60 60 hc.1 hc.2]
      exact okV.bl hp R
    · exact hp.elim
  · split at hp
    · cases ra.int_inv; cases rb.int_inv
      exact op_lt pins s σ H _ _ v u Q I rx ry ⟨_, _, rfl, rfl, okV.bl hp R⟩
    · exact hp.elim
  · split at hp
    · cases ra.int_inv; cases rb.int_inv
      exact op_le pins s σ H _ _ v u Q I rx ry ⟨_, _, rfl, rfl, okV.bl hp R⟩
    · exact hp.elim
  · split at hp
    · cases ra.int_inv; cases rb.int_inv
      exact op_gt pins s σ H _ _ v u Q I rx ry ⟨_, _, rfl, rfl, okV.bl hp R⟩
    · exact hp.elim
  · split at hp
    · cases ra.int_inv; cases rb.int_inv
      exact op_ge pins s σ H _ _ v u Q I rx ry ⟨_, _, rfl, rfl, okV.bl hp R⟩
    · exact hp.elim
  · split at hp
    · rename_i hb
      subst hb
      cases rb.non_inv
      refine op_isN pins s σ H _ _ v u Q I rx ry ⟨rfl, ?_⟩
      have e : decide (x = .non) = decide (a = .non) := by
        cases a <;> simp only [Rep] at ra <;> first | (subst ra; rfl) | (obtain ⟨_, _, rfl, _⟩ := ra; rfl) | (obtain ⟨_, _, rfl⟩ := ra; rfl)
      rw [e]
      exact okV.bl hp R
    · exact hp.elim
  · split at hp
    · rename_i hb
      subst hb
      cases rb.non_inv
      refine op_notN pins s σ H _ _ v u Q I rx ry ⟨rfl, ?_⟩
      have e : decide (x = .non) = decide (a = .non) := by
        cases a <;> simp only [Rep] at ra <;> first | (subst ra; rfl) | (obtain ⟨_, _, rfl, _⟩ := ra; rfl) | (obtain ⟨_, _, rfl⟩ := ra; rfl)
      rw [e]
      exact okV.bl hp R
    · exact hp.elim
  · simp only [memIn] at hp
    split at hp
    · rename_i l
      split at hp
      · rename_i ds e1
        split at hp
        · rename_i hc
          obtain ⟨p, xs, _, rfl, h1, r1⟩ := R.lstv rb e1
          refine op_inD hu pins s σ H _ _ v u Q I rx ry ⟨toPy T.W a, toPyL T.W ds, lfd_dp hc.1 ra, Dp.lst (SqL.of h1) (lfdL_dp (lfdL_all hc.2) r1), shp_lay hS hc.1, shaped_list hS hc.2, ?_⟩
          rw [toPyL_map, memq_py hW hc.1 hc.2]
          exact okV.bl hp R
        · exact hp.elim
      · rename_i kvs e1
        split at hp
        · rename_i hc
          obtain ⟨p, H', rfl, hl, hI, ex, R', hd⟩ := dct_kind R e1 rb hc
          obtain ⟨o, g, g1, g2⟩ := dct_get (C := T.ca X.K) hW (ra.ext ex) hd
          obtain rfl : u = Value.ref p := ry
          refine d_in (by omega) (hI _ _ _ _ I) g rx fun s' I' => ⟨.bl o.isSome, H', I', rfl, ?_⟩
          have e : o.isSome = (dget kvs a).isSome := by
            cases q : dget kvs a with
            | none => rw [g2 q]; rfl
            | some d => obtain ⟨w, h1, _⟩ := g1 d q; rw [h1]; rfl
          rw [e]
          exact okV.bl (hp.mono ex) R'
        · exact hp.elim
      · exact hp.elim
    · rename_i ds
      split at hp
      · rename_i hc
        obtain ⟨p, xs, rfl, h1, r1⟩ := rb.tup_inv
        obtain ⟨as, q1⟩ := Dp.reads I _ _ _ (lfd_dp (K := X.K) hc.1 ra) rx
        obtain ⟨bs, q2⟩ := Dp.reads I (.tuple (toPyL T.W ds)) _ _ (Dp.tup (SqT.of h1) (lfdL_dp (lfdL_all hc.2) r1)) ry
        refine SeqAt.in_tuple_reads q2 q1 (SeqAt.canLay_of_shaped (shaped_list hS hc.2)) (SeqAt.canLay_of_shaped (shp_lay hS hc.1)) ?_ ⟨.bl _, H, I, rfl, ?_⟩
        · have := SeqAt.depth_of_shaped (shp_lay hS hc.1)
          have : min (PyData.depthAll (toPyL T.W ds)) (toPy T.W a).depth ≤ 64 := Nat.le_trans (Nat.min_le_right _ _) this
          omega
        · rw [toPyL_map, memq_py hW hc.1 hc.2]
          exact okV.bl hp R
      · exact hp.elim
    · exact hp.elim
  · simp only [memIn] at hp
    split at hp
    · rename_i l
      split at hp
      · rename_i ds e1
        split at hp
        · rename_i hc
          obtain ⟨p, xs, _, rfl, h1, r1⟩ := R.lstv rb e1
          refine op_notInD hu pins s σ H _ _ v u Q I rx ry ⟨toPy T.W a, toPyL T.W ds, lfd_dp hc.1 ra, Dp.lst (SqL.of h1) (lfdL_dp (lfdL_all hc.2) r1), shp_lay hS hc.1, shaped_list hS hc.2, ?_⟩
          rw [toPyL_map, memq_py hW hc.1 hc.2]
          exact okV.bl hp R
        · exact hp.elim
      · rename_i kvs e1
        split at hp
        · rename_i hc
          obtain ⟨p, H', rfl, hl, hI, ex, R', hd⟩ := dct_kind R e1 rb hc
          obtain ⟨o, g, g1, g2⟩ := dct_get (C := T.ca X.K) hW (ra.ext ex) hd
          obtain rfl : u = Value.ref p := ry
          refine d_notIn (by omega) (hI _ _ _ _ I) g rx fun s' I' => ⟨.bl (!o.isSome), H', I', rfl, ?_⟩
          have e : o.isSome = (dget kvs a).isSome := by
            cases q : dget kvs a with
            | none => rw [g2 q]; rfl
            | some d => obtain ⟨w, h1, _⟩ := g1 d q; rw [h1]; rfl
          rw [e]
          exact okV.bl (hp.mono ex) R'
        · exact hp.elim
      · exact hp.elim
    · rename_i ds
      split at hp
      · rename_i hc
        obtain ⟨p, xs, rfl, h1, r1⟩ := rb.tup_inv
        obtain ⟨as, q1⟩ := Dp.reads I _ _ _ (lfd_dp (K := X.K) hc.1 ra) rx
        obtain ⟨bs, q2⟩ := Dp.reads I (.tuple (toPyL T.W ds)) _ _ (Dp.tup (SqT.of h1) (lfdL_dp (lfdL_all hc.2) r1)) ry
        refine SeqAt.notIn_tuple_reads q2 q1 (SeqAt.canLay_of_shaped (shaped_list hS hc.2)) (SeqAt.canLay_of_shaped (shp_lay hS hc.1)) ?_ ⟨.bl _, H, I, rfl, ?_⟩
        · have := SeqAt.depth_of_shaped (shp_lay hS hc.1)
          have : min (PyData.depthAll (toPyL T.W ds)) (toPy T.W a).depth ≤ 64 := Nat.le_trans (Nat.min_le_right _ _) this
          omega
        · rw [toPyL_map, memq_py hW hc.1 hc.2]
          exact okV.bl hp R
      · exact hp.elim
    · exact hp.elim
end
end PyS

/-! S3: subscripts, slices, fields, truth, isinstance, built-in calls and methods by values. -/
namespace PyS
open PySem PySem.Spec PyProof.Rows L2 PyI
section
variable {T : Stat} {X : Cx}
theorem atD_at {ds : List Dat} {vs : List V} {W : Nat → Str} {m : List Addr} {H : Hp} {i : Int} {d : Dat} (r : RepL W m H ds vs) (e : atD ds i = some d) : ∃ v, atI vs i = some v ∧ Rep W m H d v := by
  unfold atD at e
  unfold atI
  have hl := r.length
  rw [hl]
  have : L2.ixN ds.length i = ixD ds.length i := rfl
  rw [this]
  cases q : ixD ds.length i with
  | none => rw [q] at e; cases e
  | some j =>
    rw [q] at e
    exact r.get (show ds[j]? = some d from e)
theorem ix_gidx (hW : ∀ i j, T.W i = T.W j → i = j) (hu : X.A.units + 65 < cLine) : IxR X (rSt T X.K gidx) := by
  intro value slice pins s σ H x y v u Q I rx ry ⟨m, S, a, b, xx, ra, rb, R, hp⟩ hs
  simp only [gidx] at hp
  split at hp
  · rename_i ds
    split at hp
    · rename_i k
      cases rb.int_inv
      split at hp
      · rename_i d e
        obtain ⟨p, xs, rfl, h1, r1⟩ := ra.tup_inv
        obtain ⟨w, h2, r2⟩ := atD_at r1 e
        exact ix_tup value slice pins s σ H _ _ v u Q I rx ry ⟨p, xs, k, w, rfl, rfl, SqT.of h1, h2, okV.now hp R r2⟩ hs
      · exact hp.elim
    · exact hp.elim
  · rename_i l
    split at hp
    · rename_i ds e1
      split at hp
      · rename_i k
        cases rb.int_inv
        split at hp
        · rename_i d e
          obtain ⟨p, xs, _, rfl, h1, r1⟩ := R.lstv ra e1
          obtain ⟨w, h2, r2⟩ := atD_at r1 e
          exact ix_list value slice pins s σ H _ _ v u Q I rx ry ⟨p, xs, k, w, rfl, rfl, SqL.of h1, h2, okV.now hp R r2⟩ hs
        · exact hp.elim
      · exact hp.elim
    · rename_i ds e1
      split at hp
      · rename_i k
        cases rb.int_inv
        split at hp
        · rename_i d e
          obtain ⟨p, xs, _, rfl, h1, r1⟩ := R.scrv ra e1
          obtain ⟨w, h2, r2⟩ := atD_at r1 e
          exact ix_list value slice pins s σ H _ _ v u Q I rx ry ⟨p, xs, k, w, rfl, rfl, h1.sql, h2, okV.now hp R r2⟩ hs
        · exact hp.elim
      · exact hp.elim
    · rename_i kvs e1
      split at hp
      · rename_i hc
        split at hp
        · rename_i d e
          obtain ⟨p, H', rfl, hl, hI, ex, R', hd⟩ := dct_kind R e1 ra hc
          obtain ⟨o, g, g1, g2⟩ := dct_get (C := T.ca X.K) hW (rb.ext ex) hd
          obtain ⟨w, e2, r2⟩ := g1 d e
          subst e2
          obtain rfl : v = Value.ref p := rx
          have I' := hI _ _ _ _ I
          unfold subscriptTail
          refine wpAny_bind ?_
          rw [getitemInPython_of_ne (dict_typeIs I' g).not_modules]
          refine wpAny_bind (wpAny_specialOf (dict_typeIs I' g) PySem.F.slot_dict_getitem.lookup ?_)
          have fin : wpAny (model X.prog X.w) X.A (subscripted slice false (.ref p) u) (fun r s₃ => wpAny (model X.prog X.w) X.A (letTemporaryGo value (.ref p) r >>= fun _ => pure r) (EP X pins σ Q) X.xe s₃) X.xe s := by
            rw [hs]
            exact wpAny_operating (d_getItem (by omega) I' g ry fun w' s' I3 rw' => wpAny_bind (wpAny_letTemporaryGo (wpAny_pure ⟨w, H', I3, rw', okV.now (hp.mono ex) R' r2⟩)))
          first
            | exact wpAny_pure (wpAny_bind fin)
            | exact wpAny_bind (wpAny_pure (wpAny_bind fin))
            | exact wpAny_bind fin
        · exact hp.elim
      · exact hp.elim
    · exact hp.elim
  · exact hp.elim

/-! ### slices -/
theorem cutL_rep {ds : List Dat} {vs : List V} {W : Nat → Str} {m : List Addr} {H : Hp} {lo hi : Option Int} (r : RepL W m H ds vs) : RepL W m H (cutL ds lo hi) (cutV vs lo hi) := by
  have hs : ∀ n d o, PyI.sixD n d o = HT.sIx n d o := fun n d o => by cases o <;> rfl
  unfold cutL cutV
  rw [r.length, hs, hs]
  exact (r.drop _).take _
def rSl (T : Stat) (K : PySem.W.Frag) : V → Option Int → Option Int → Hp → VK → Prop := fun x lo hi H Q => ∃ m S a xx, Rep T.W m H a x ∧ HRel T.W m H (T.ca K) S ∧ Post T K (gslice a lo hi S) m H (okV T Q) xx
theorem sl_gslice : SlR X (rSl T X.K) := by
  intro pins s σ H x v vl vu lo hi sl Q I rx hs pl pu ⟨m, S, a, xx, ra, R, hp⟩
  cases a with
  | tup ds =>
    simp only [gslice] at hp
    obtain ⟨p, xs, rfl, h1, r1⟩ := ra.tup_inv
    split at hp
    · exact hp.elim
    · rename_i hw
      refine sl_tup pins s σ H _ v vl vu lo hi sl Q I rx hs pl pu ⟨p, xs, rfl, SqT.of h1, ?_, fun q hq => okV.tup hp R (cutL_rep r1) hq⟩
      have hs : ∀ n d o, PyI.sixD n d o = HT.sIx n d o := fun n d o => by cases o <;> rfl
      rw [hs, hs, ← r1.length] at hw
      exact hw
  | loc l =>
    simp only [gslice] at hp
    split at hp
    · rename_i ds e1
      obtain ⟨p, xs, _, rfl, h1, r1⟩ := R.lstv ra e1
      exact sl_list pins s σ H _ v vl vu lo hi sl Q I rx hs pl pu ⟨p, xs, rfl, SqL.of h1, fun q hq => okV.lst hp R (cutL_rep r1) hq⟩
    · exact hp.elim
  | _ => exact hp.elim

/-! ### truth -/
theorem allk_empty {W : Nat → Str} {m : List Addr} {H : Hp} {kvs : List (Dat × Dat)} {ks : List (List Key × V)} (h : kvs.all (fun p => key1 p.1) = true) (rl : DRelT W m H kvs ks) : kvs = [] ∧ ks = [] := by
  cases kvs with
  | nil => cases ks with
    | nil => exact ⟨rfl, rfl⟩
    | cons _ _ => simp [DRelT] at rl
  | cons q kvs =>
    exfalso
    cases ks with
    | nil => simp [DRelT] at rl
    | cons q' ks =>
      simp only [DRelT] at rl
      simp only [List.all_cons, Bool.and_eq_true] at h
      have h5 := rl.1.1
      have h6 := h.1
      revert h5 h6
      cases q.1 <;> simp [key1, keyT]
theorem tru_run {pins : List (Addr × Obj)} {σ : L2.St} {H : Hp} {s : Shared} {S : Store} {m : List Addr} {d : Dat} {v : V} {u : Value} {k : Bool} {Q : Bool → Hp → Prop} (I : Inv X pins σ H s) (rv : RelV v u) (R : HRel T.W m H (T.ca X.K) S) (r : Rep T.W m H d v) (h : tru S d = some k)
    (q : ∀ H', Ext m H m H' → HRel T.W m H' (T.ca X.K) S → Q k H') : wpAny (model X.prog X.w) X.A (truthy u) (TP X pins σ Q) X.xe s := by
  have q0 := q H Ext.refl R
  cases d with
  | non => cases r.non_inv; cases h; exact tru_ok pins s σ H _ u Q I rv ⟨_, rfl, q0⟩
  | bl b => cases r.bl_inv; cases h; exact tru_ok pins s σ H _ u Q I rv ⟨_, rfl, q0⟩
  | int i => cases r.int_inv; cases h; exact tru_ok pins s σ H _ u Q I rv ⟨_, rfl, q0⟩
  | str i => cases h
  | tup l =>
    obtain ⟨a, xs, rfl, e, rl⟩ := r.tup_inv
    cases h
    exact tru_ok pins s σ H _ u Q I rv ⟨_, .inr (.inl ⟨xs, SqT.of e, rfl⟩), by rw [rl.isEmpty]; exact q0⟩
  | loc l =>
    simp only [tru] at h
    split at h
    · rename_i ds e1
      obtain ⟨p, xs, _, rfl, h1, r1⟩ := R.lstv r e1
      cases h
      exact tru_ok pins s σ H _ u Q I rv ⟨_, .inl ⟨xs, SqL.of h1, rfl⟩, by rw [r1.isEmpty]; exact q0⟩
    · rename_i ds e1
      obtain ⟨p, xs, _, rfl, h1, r1⟩ := R.scrv r e1
      cases h
      exact tru_ok pins s σ H _ u Q I rv ⟨_, .inl ⟨xs, h1.sql, rfl⟩, by rw [r1.isEmpty]; exact q0⟩
    · rename_i kvs e1
      obtain ⟨p, h1, rfl, h3⟩ := R.at_ r e1
      split at h
      · rename_i hall
        cases h
        rcases h3 with ⟨ks, e, rl⟩ | ⟨ks, e, rl⟩
        · have he : ks.isEmpty = kvs.isEmpty := by cases kvs <;> cases ks <;> simp_all [DRelK]
          exact tru_ok pins s σ H _ u Q I rv ⟨_, .inr (.inr ⟨ks, e, rfl⟩), by rw [he]; exact q0⟩
        · obtain ⟨rfl, rfl⟩ := allk_empty hall rl
          have R' := R.wr (c := .dct []) (NS.of e1 rfl) h1 e trivial (fun _ z => by cases z) (o := .dK []) (.inl ⟨[], upd_same, trivial⟩)
          rw [set_same e1] at R'
          exact tru_ok pins s σ _ _ u Q (Inv.retype2 I e) rv ⟨_, .inr (.inr ⟨[], upd_same, rfl⟩), q _ (Ext.wr e trivial) R'⟩
      · cases h
    · cases h

/-! ### isinstance -/
def tyP : PyI.Kd → String
  | .int => "int"
  | .str => "str"
  | .list => "list"
  | .tuple => "tuple"
  | .bool => "bool"
  | .dict => "dict"
theorem isTy_v {W : Nat → Str} {C : KC} {m : List Addr} {H : Hp} {S : Store} {d : Dat} {v : V} {k : Bool} {t : PyI.Kd} {K : PySem.W.Frag} (R : HRel W m H C S) (r : Rep W m H d v) (h : isTy S t d = some k) :
    ∃ u, TyX K H v u ∧ PySem.W.kitOne K u (.type (tyP t)) = some k := by
  cases d with
  | non => cases r.non_inv; cases h; exact ⟨_, .base .non, kit_ty (by cases t <;> decide +kernel)⟩
  | bl b => cases r.bl_inv; cases h; exact ⟨_, .base (.bl b), kit_ty (by cases t <;> decide +kernel)⟩
  | int i => cases r.int_inv; cases h; exact ⟨_, .base (.int i), kit_ty (by cases t <;> decide +kernel)⟩
  | str i => cases r.str_inv; cases h; exact ⟨_, .base (.str _), kit_ty (by cases t <;> decide +kernel)⟩
  | tup l =>
    obtain ⟨a, xs, rfl, e, rl⟩ := r.tup_inv
    cases h
    exact ⟨_, .base (.tup e), kit_ty (by cases t <;> decide +kernel)⟩
  | loc l =>
    simp only [isTy] at h
    split at h
    · rename_i ds e1
      obtain ⟨p, xs, _, rfl, h1, r1⟩ := R.lstv r e1
      cases h
      exact ⟨_, .base (.lst h1), kit_ty (by cases t <;> decide +kernel)⟩
    · rename_i kvs e1
      obtain ⟨p, h1, rfl, h3⟩ := R.at_ r e1
      cases h
      rcases h3 with ⟨ks, e, rl⟩ | ⟨ks, e, rl⟩
      · exact ⟨_, .base (.dK e), kit_ty (by cases t <;> decide +kernel)⟩
      · exact ⟨_, .base (.dT e), kit_ty (by cases t <;> decide +kernel)⟩
    · cases h

/-! ### built-in functions -/
def rCl (T : Stat) (K : PySem.W.Frag) (f : List Dat → Store → Re Dat) : List V → Hp → VK → Prop := fun vs H Q => ∃ m S ds xx, RepL T.W m H ds vs ∧ HRel T.W m H (T.ca K) S ∧ Post T K (f ds S) m H (okV T Q) xx
def biF : PyI.Bi → Value
  | .len => .builtin "len"
  | .max2 => .builtin "max"
  | .min2 => .builtin "min"
  | .list => .type "list"
  | .tuple => .type "tuple"
  | .dict => .type "dict"
theorem RepL.inv1 {W : Nat → Str} {m : List Addr} {H : Hp} {d : Dat} {vs : List V} (r : RepL W m H [d] vs) : ∃ v, vs = [v] ∧ Rep W m H d v := by
  simp only [RepL] at r
  obtain ⟨v, vr, rfl, h, rfl⟩ := r
  exact ⟨v, rfl, h⟩
theorem RepL.inv2 {W : Nat → Str} {m : List Addr} {H : Hp} {d e : Dat} {vs : List V} (r : RepL W m H [d, e] vs) : ∃ v w, vs = [v, w] ∧ Rep W m H d v ∧ Rep W m H e w := by
  simp only [RepL] at r
  obtain ⟨v, vr, rfl, h, w, wr, rfl, h', rfl⟩ := r
  exact ⟨v, w, rfl, h, h'⟩
theorem cr_bcall (hc : X.calm = true) (b : PyI.Bi) : CallR X (biF b) (rCl T X.K (bcall b)) := by
  intro pins s σ H vs us Q I rv ⟨m, S, ds, xx, rd, R, hp⟩
  cases b <;> simp only [bcall] at hp
  · split at hp
    · rename_i xs
      obtain ⟨v, rfl, r⟩ := rd.inv1
      obtain ⟨p, ys, rfl, e, r1⟩ := r.tup_inv
      exact call_len_seq pins s σ H _ us Q I rv ⟨p, ys, rfl, .inr (SqT.of e), by rw [r1.length]; exact okV.int hp R⟩
    · rename_i l
      obtain ⟨v, rfl, r⟩ := rd.inv1
      split at hp
      · rename_i xs e1
        obtain ⟨p, ys, _, rfl, e, r1⟩ := R.lstv r e1
        exact call_len_seq pins s σ H _ us Q I rv ⟨p, ys, rfl, .inl (SqL.of e), by rw [r1.length]; exact okV.int hp R⟩
      · rename_i xs e1
        obtain ⟨p, ys, _, rfl, e, r1⟩ := R.scrv r e1
        exact call_len_seq pins s σ H _ us Q I rv ⟨p, ys, rfl, .inl (e.sql), by rw [r1.length]; exact okV.int hp R⟩
      · rename_i kvs e1
        obtain ⟨p, h1, rfl, h3⟩ := R.at_ r e1
        obtain ⟨u, rfl, ru⟩ := vals1 rv
        obtain rfl : u = Value.ref p := ru
        rcases h3 with ⟨ks, e, rl⟩ | ⟨ks, e, rl⟩
        · exact d_len I (.inl e) fun t s' I' => ⟨.int ks.length, H, I', ⟨t, rfl⟩, by rw [rl.length]; exact okV.int hp R⟩
        · exact call_len_dT pins s σ H [.ref p] [.ref p] Q I (.cons rfl .nil) ⟨p, ks, rfl, e, by rw [rl.length]; exact okV.int hp R⟩
      · exact hp.elim
    · exact hp.elim
  · split at hp
    · obtain ⟨v, w, rfl, r1, r2⟩ := rd.inv2
      cases r1.int_inv; cases r2.int_inv
      exact call_max2 hc pins s σ H _ us Q I rv ⟨_, _, rfl, okV.int hp R⟩
    · exact hp.elim
  · split at hp
    · obtain ⟨v, w, rfl, r1, r2⟩ := rd.inv2
      cases r1.int_inv; cases r2.int_inv
      exact call_min2 hc pins s σ H _ us Q I rv ⟨_, _, rfl, okV.int hp R⟩
    · exact hp.elim
  · split at hp
    · rename_i xs
      obtain ⟨v, rfl, r⟩ := rd.inv1
      obtain ⟨p, ys, rfl, e, r1⟩ := r.tup_inv
      exact call_list_of pins s σ H _ us Q I rv ⟨p, ys, rfl, .inr (SqT.of e), fun q hq => okV.lst hp R r1 hq⟩
    · rename_i l
      obtain ⟨v, rfl, r⟩ := rd.inv1
      split at hp
      · rename_i xs e1
        obtain ⟨p, ys, _, rfl, e, r1⟩ := R.lstv r e1
        exact call_list_of pins s σ H _ us Q I rv ⟨p, ys, rfl, .inl (SqL.of e), fun q hq => okV.lst hp R r1 hq⟩
      · exact hp.elim
    · exact hp.elim
  · split at hp
    · rename_i xs
      obtain ⟨v, rfl, r⟩ := rd.inv1
      have r0 := r
      obtain ⟨p, ys, rfl, e, r1⟩ := r.tup_inv
      exact call_tuple_of pins s σ H _ us Q I rv ⟨p, ys, rfl, .inr ⟨SqT.of e, okV.now hp R r0⟩⟩
    · rename_i l
      obtain ⟨v, rfl, r⟩ := rd.inv1
      split at hp
      · rename_i xs e1
        obtain ⟨p, ys, _, rfl, e, r1⟩ := R.lstv r e1
        exact call_tuple_of pins s σ H _ us Q I rv ⟨p, ys, rfl, .inl ⟨SqL.of e, fun q hq => okV.tup hp R r1 hq⟩⟩
      · exact hp.elim
    · exact hp.elim
  · split at hp
    · rename_i l
      obtain ⟨v, rfl, r⟩ := rd.inv1
      split at hp
      · rename_i kvs e1
        obtain ⟨p, h1, rfl, h3⟩ := R.at_ r e1
        obtain ⟨u, rfl, ru⟩ := vals1 rv
        obtain rfl : u = Value.ref p := ru
        split at hp
        · rename_i hall
          rcases h3 with ⟨ks, e, rl⟩ | ⟨ks, e, rl⟩
          · refine d_copyOf I (.inl e) fun q s' hq I' => ⟨.ref q, _, I', rfl, ?_⟩
            exact hp (m ++ [q]) _ (Ext.new hq) (R.new hq (.inl ⟨ks, upd_same, rl.ext (Ext.new hq)⟩)) _ (Rep.loc_new R.len)
          · obtain ⟨rfl, rfl⟩ := allk_empty hall rl
            have R' := R.wr (c := .dct []) (NS.of e1 rfl) h1 e trivial (fun _ z => by cases z) (o := .dK []) (.inl ⟨[], upd_same, trivial⟩)
            rw [set_same e1] at R'
            have ex : Ext m H m (upd H p (.dK [])) := Ext.wr e trivial
            refine d_copyOf (Inv.retype2 I e) (.inl upd_same) fun q s' hq I' => ⟨.ref q, _, I', rfl, ?_⟩
            exact (hp.mono ex) (m ++ [q]) _ (Ext.new hq) (R'.new hq (.inl ⟨[], upd_same, trivial⟩)) _ (Rep.loc_new R.len)
        · exact hp.elim
      · exact hp.elim
    · exact hp.elim

/-! ### built-in methods -/
def bmT : PyI.Bm → String
  | .append => "list"
  | _ => "dict"
def bmN : PyI.Bm → Str
  | .append => "append"
  | .get1 => "get"
  | .get2 => "get"
  | .pop2 => "pop"
def bmI : PyI.Bm → String
  | .append => "list.append"
  | .get1 => "dict.get"
  | .get2 => "dict.get"
  | .pop2 => "dict.pop"
def rBm (T : Stat) (K : PySem.W.Frag) (b : PyI.Bm) : V → List V → Hp → VK → Prop := fun x vs H Q => ∃ m S d ds xx, Rep T.W m H d x ∧ RepL T.W m H ds vs ∧ HRel T.W m H (T.ca K) S ∧ Post T K (bmeth b d ds S) m H (okV T Q) xx
theorem dT_pop2 {pins : List (Addr × Obj)} {σ : L2.St} {H : Hp} {s : Shared} {a b : Addr} {kvs : List (List Key × V)} {k : List Key} {z : V} {zv : Value} {Q : VK} (hu : X.A.units + 1 < cLine) (I : Inv X pins σ H s) (e : H a = some (.dT kvs)) (eb : H b = some (.tup (k.map kV))) (rz : RelV z zv)
    (h1 : ∀ v, valV kvs k = some v → Q v (upd H a (.dT (dropK kvs k)))) (h2 : valV kvs k = none → Q z H) : wpAny (model X.prog X.w) X.A (call (.builtin "dict.pop") [.ref a, .ref b, zv]) (EP X pins σ Q) X.xe s :=
  L2.DX.mt_popT hu pins s σ H (.ref a) [.ref b, z] (.ref a) [.ref b, zv] Q I rfl (.cons rfl (.cons rz .nil)) ⟨a, kvs, k, b, z, rfl, rfl, e, eb, h1, h2⟩
theorem mt_bm (hW : ∀ i j, T.W i = T.W j → i = j) (hu : X.A.units + 65 < cLine) (b : PyI.Bm) : MtR X (bmI b) (rBm T X.K b) := by
  intro pins s σ H x xs v us Q I rx rxs ⟨m, S, d, ds, xx, rd, rds, R, hp⟩
  cases d with
  | loc l =>
    simp only [bmeth] at hp
    split at hp
    · rename_i ys y e1
      split at hp
      · rename_i hz
        obtain ⟨p, zs, hl, rfl, e, r1⟩ := R.lstv rd e1
        obtain ⟨w, rfl, rw'⟩ := rds.inv1
        have ex : Ext m H m (upd H p (.lst (zs ++ [w]))) := Ext.wr e trivial
        refine mt_append pins s σ H _ _ v us Q I rx rxs ⟨p, zs, w, rfl, rfl, e, by rw [r1.length, ← limS]; exact hz, ?_⟩
        exact hp m _ ex (R.wr (NS.of e1 rfl) hl e trivial (fun _ z => by cases z) ⟨_, upd_same, (r1.append (RepL.cons rw' RepL.nil)).ext ex⟩) _ Rep.non
      · exact hp.elim
    · rename_i kvs k e1
      split at hp
      · rename_i hc
        obtain ⟨p, H', rfl, hl, hI, ex, R', hd⟩ := dct_kind R e1 rd hc
        obtain ⟨w, rfl, rw'⟩ := rds.inv1
        obtain ⟨o, g, g1, g2⟩ := dct_get (C := T.ca X.K) hW (rw'.ext ex) hd
        obtain rfl : v = Value.ref p := rx
        obtain ⟨u, rfl, ru⟩ := vals1 rxs
        refine d_get1 (by omega) (hI _ _ _ _ I) g ru fun w' s' I' rw2 => ⟨o.getD .non, H', I', rw2, ?_⟩
        have hp' := hp.mono ex
        cases q : dget kvs k with
        | none => rw [g2 q]; rw [q] at hp'; exact okV.now hp' R' Rep.non
        | some z =>
          obtain ⟨w2, h1, r2⟩ := g1 z q
          rw [h1]; rw [q] at hp'
          exact okV.now hp' R' r2
      · exact hp.elim
    · rename_i kvs k z e1
      split at hp
      · rename_i hc
        obtain ⟨p, H', rfl, hl, hI, ex, R', hd⟩ := dct_kind R e1 rd hc
        obtain ⟨w, wz, rfl, rw', rz⟩ := rds.inv2
        obtain ⟨o, g, g1, g2⟩ := dct_get (C := T.ca X.K) hW (rw'.ext ex) hd
        obtain rfl : v = Value.ref p := rx
        obtain ⟨u, uz, rfl, ru, ruz⟩ := vals2 rxs
        refine d_get2 (by omega) (hI _ _ _ _ I) g ru ruz fun w' s' I' rw2 => ⟨o.getD wz, H', I', rw2, ?_⟩
        have hp' := hp.mono ex
        cases q : dget kvs k with
        | none => rw [g2 q]; rw [q] at hp'; exact okV.now hp' R' (rz.ext ex)
        | some z =>
          obtain ⟨w2, h1, r2⟩ := g1 z q
          rw [h1]; rw [q] at hp'
          exact okV.now hp' R' r2
      · exact hp.elim
    · rename_i kvs k z e1
      split at hp
      · rename_i hc
        obtain ⟨p, H', rfl, hl, hI, ex, R', hd⟩ := dct_kind R e1 rd hc
        obtain ⟨w, wz, rfl, rw', rz⟩ := rds.inv2
        obtain rfl : v = Value.ref p := rx
        obtain ⟨u, uz, rfl, ru, ruz⟩ := vals2 rxs
        have I' := hI _ _ _ _ I
        have hp' := hp.mono ex
        have e1' : S[l]? = some (.dct kvs) := e1
        have gone : dget kvs k = none → S.set l (.dct (ddel kvs k)) = S := fun q => by
          rw [ddel_none q]
          exact set_same e1
        rcases hd with ⟨hk, ks, e, rl⟩ | ⟨hk, ks, e, rl⟩
        · have g := rl.get hW hk
          have ey := kV_kOf hk (rw'.ext ex)
          rw [ey] at ru
          have exd : Ext m H' m (upd H' p (.dK (dropK ks (kOf T.W k)))) := Ext.wr e trivial
          have Rd := R'.wr (NS.of e1 rfl) hl e trivial (hc := fun _ z => by cases z) (c := .dct (ddel kvs k)) (o := .dK (dropK ks (kOf T.W k))) (.inl ⟨_, upd_same, (rl.del hW hk).ext exd⟩)
          cases q : dget kvs k with
          | none =>
            rw [q] at hp'
            refine d_popD I' e ru (g.2 q) fun s' I2 => ⟨wz, H', I2, ruz, ?_⟩
            rw [gone q] at hp'
            exact okV.now hp' R' (rz.ext ex)
          | some zd =>
            obtain ⟨w2, h1, r2⟩ := g.1 zd q
            rw [q] at hp'
            exact d_pop I' e ru h1 (.inr ⟨uz, rfl⟩) fun w' s' I2 rw2 => ⟨w2, _, I2, rw2, hp' m _ exd Rd _ (r2.ext exd)⟩
        · have g := rl.get hW hk
          have exd : Ext m H' m (upd H' p (.dT (dropK ks (kTs T.W k)))) := Ext.wr e trivial
          have Rd := R'.wr (NS.of e1 rfl) hl e trivial (hc := fun _ z => by cases z) (c := .dct (ddel kvs k)) (o := .dT (dropK ks (kTs T.W k))) (.inr ⟨_, upd_same, (rl.del hW hk).ext exd⟩)
          have hk' := hk
          have rw2 := rw'.ext ex
          cases k <;> simp only [keyT, Bool.false_eq_true] at hk
          rename_i kl
          obtain ⟨b, xs, rfl, eb, rb⟩ := rw2.tup_inv
          have exx := kVs_kTs hk rb
          obtain rfl : u = Value.ref b := ru
          refine dT_pop2 (by omega) I' e (k := kTs T.W (.tup kl)) (by rw [eb, exx]; rfl) ruz (fun v2 h1 => ?_) (fun h1 => ?_)
          · cases q : dget kvs (.tup kl) with
            | none => rw [g.2 q] at h1; cases h1
            | some zd =>
              obtain ⟨w2, h2, r2⟩ := g.1 zd q
              rw [h2] at h1; cases h1
              rw [q] at hp'
              exact hp' m _ exd Rd _ (r2.ext exd)
          · cases q : dget kvs (.tup kl) with
            | some zd =>
              obtain ⟨w2, h2, r2⟩ := g.1 zd q
              rw [h2] at h1; cases h1
            | none =>
              rw [q] at hp'
              rw [gone q] at hp'
              exact okV.now hp' R' (rz.ext ex)
      · exact hp.elim
    · exact hp.elim
  | _ => exact hp.elim
end
end PyS

/-! S4: the text's facts, the look at an expression, and that its meaning is what it does. -/
namespace PyS
open PySem PySem.Spec PyProof.Rows L2 PyI

structure Facts (T : Stat) (K : PySem.W.Frag) (mg : Str → Option Value) : Prop where
  hW : ∀ i j, T.W i = T.W j → i = j
  hS : ∀ k, PyData.strOk (T.W k) = true
  glo : ∀ g d, T.P.globs[g]? = some d → ∃ u v, mg (T.gn g) = some u ∧ RelV v u ∧ ∀ m H, Rep T.W m H d v
  fn_ : ∀ f, f < T.P.defs.length → (T.dd f).at_.2 = none → mg (T.dd f).at_.1 = some (.ref (T.fa K f)) ∧ PySem.W.keepIn K (.ref (T.fa K f)) = true
  cls : ∀ c k, T.P.cls[c]? = some k → Cls K ((T.ca K).at_ c) ∧ mg (T.cn c) = some (.ref ((T.ca K).at_ c)) ∧ Mk K ((T.ca K).at_ c) (T.fa K k.init) ∧ (∀ p ∈ k.ms, Meth K ((T.ca K).at_ c) (T.W p.1) (T.fa K p.2)) ∧ ∀ f ∈ k.flds, NoAttr K ((T.ca K).at_ c) (T.W f)
  free : ∀ x ∈ T.fr, mg x = none

/-- what a def at its meaning promises -/
def Stat.sp (T : Stat) (K : PySem.W.Frag) (fn : Fn) (f : Nat) : Sp := fun vs H Q E => vs.length = (T.ps f).length ∧ ∃ m S ds, RepL T.W m H ds vs ∧ HRel T.W m H (T.ca K) S ∧
  Post T K (fn f ds S) m H (okV T Q) (fun c _ _ H' => E (.ref (T.xa K c)) none H')
structure CallOk (T : Stat) (X : Cx) (n : Nat) (fn : Fn) : Prop where
  ok : ∀ f d, T.P.defs[f]? = some d → (T.ps f).length = d.np ∧ ∃ fd dv, (∀ m H, RepL T.W m H d.dfl dv) ∧ (∀ j, j ≤ d.dfl.length → ∃ ds, Vals (dv.drop j) ds ∧ Binds X.K fd (T.ps f) ds) ∧
    FnOk X.prog X.w X.K X.mg X.base (L2.CX X.prog X.w) n (T.fa X.K f) fd (T.ps f) (T.sp X.K fn f)
structure XOk (T : Stat) (fn mk : Fn) (X : Cx) (sc : Scope) (N : List Str) : Prop where
  facts : Facts T X.K X.mg
  hN : X.N = N
  nd : N.Nodup
  sc : X.env.scope = sc
  calm : X.calm = true
  un : X.A.units + 100 < cLine
  own : PassesOwn (model X.prog X.w) X.A X.env X.xe
  call : ∃ n, Room n X.A ∧ CallOk T X n fn
  make : ∃ n, Room (n + 1) X.A ∧ CallOk T X n mk

/-! ### the weakest readings -/
def tw (X : Cx) (e : Expr) : TE := fun σ H Q => ∀ pins s, Inv X pins σ H s → wpAny (model X.prog X.w) X.A (eval e X.env) (EP X pins σ Q) X.xe s
def tt (X : Cx) (e : Expr) : TT := fun σ H Q => ∀ pins s, Inv X pins σ H s → wpAny (model X.prog X.w) X.A (isTrue e X.env (eval e X.env)) (TP X pins σ Q) X.xe s
def ta (X : Cx) (es : List Expr) : TA := fun σ H Q => match es with
  | [] => Q [] H
  | _ => ∀ pos pins s, Inv X pins σ H s → wpAny (model X.prog X.w) X.A (spliced (backTo pos (starEach es X.env))) (AP X pins σ Q) X.xe s
section
variable {X : Cx} {e : Expr} {es : List Expr} {σ : L2.St} {H : Hp}
theorem pe_tw : PE X e (tw X e) := ⟨fun pins s σ H Q I h => h pins s I⟩
theorem pt_tt : PT X e (tt X e) := ⟨fun pins s σ H Q I h => h pins s I⟩
theorem pa_ta : PA X es (ta X es) := ⟨fun pos pins s σ H Q I h => by
  cases es with
  | nil => exact Calls.spliced_nil ⟨[], H, I, .nil, h⟩
  | cons e es => exact h pos pins s I⟩
theorem tw_of {t : TE} {Q : VK} (h : PE X e t) (q : t σ H Q) : tw X e σ H Q := fun pins s I => h.run pins s σ H Q I q
theorem tt_of {t : TT} {Q : Bool → Hp → Prop} (h : PT X e t) (q : t σ H Q) : tt X e σ H Q := fun pins s I => h.run pins s σ H Q I q
theorem ta_of {t : TA} {Q : List V → Hp → Prop} (h : PA X (e :: es) t) (q : t σ H Q) : ta X (e :: es) σ H Q := fun pos pins s I => h.run pos pins s σ H Q I q
theorem tw_imp {Q Q' : VK} (h : tw X e σ H Q) (k : ∀ v H', Q v H' → Q' v H') : tw X e σ H Q' := fun pins s I => thn (h pins s I) fun u s' ⟨v, H', I', r, q⟩ => ⟨v, H', I', r, k v H' q⟩
end

/-! ### shapes -/
def noStar : Expr → Bool
  | .Starred _ _ => false
  | _ => true
def notCall0 : Expr → Bool
  | .Call (.Name _ _) [] [] _ => false
  | _ => true
def isPlain : Expr → Bool
  | .UnaryOp .Not _ _ => false
  | .BoolOp _ _ _ => false
  | .IfExp _ _ _ _ => false
  | .Compare _ _ _ _ => false
  | _ => true
def noSlice : Expr → Bool
  | .Slice _ _ _ _ => false
  | _ => true
section
variable {e : Expr} {es : List Expr} {env : Env} {pos : Pos}
theorem star_cons (h : noStar e = true) : starEach (e :: es) env = (false, eval e env) :: starEach es env := by
  cases e <;> first | rfl | cases h
theorem star_plain (h : es.all noStar = true) : (backTo pos (starEach es env)).any (·.1) = false := by
  induction es with
  | nil => rfl
  | cons e es ih =>
    simp only [List.all_cons, Bool.and_eq_true] at h
    rw [star_cons h.1]
    show (false || (backTo pos (starEach es env)).any (·.1)) = false
    rw [ih h.2]
    rfl
theorem base_of {f : Str} (h : notCall0 e = true) : attributeBase e f env (eval e env) = eval e env := by
  unfold attributeBase
  split
  · cases h
  · rfl
theorem plain_true (h : isPlain e = true) (whole : Sem Value) : isTrue e env whole = (do let v ← whole; standAt e.pos; holding [v] (truthy v)) := by
  cases e <;> first | rfl | (cases h; done) | skip
  rename_i op x p
  cases op <;> first | rfl | cases h
theorem noslice_ix (h : noSlice e = true) : PlainIx e := by
  intro o i
  cases e <;> first | rfl | cases h
theorem noslice_no (h : noSlice e = true) : NoSl e := by
  intro o i
  cases e <;> first | rfl | cases h
end

/-! ### the look -/
def gl (sc : Scope) (x : Str) : Bool := decide (sc.names.lookup x = some .globalImplicit) && !(x == ("__debug__" : Str))
def vis (sc : Scope) (x : Str) : Bool := (match sc.names.lookup x with
  | some .local => true
  | some .cell => true
  | some .free => true
  | _ => false) && !(x == ("__debug__" : Str)) && !(x == ("__classdict__" : Str))
def conB (T : Stat) : Dat → Const → Bool
  | .non, .none => true
  | .bl b, .bool c => b == c
  | .int i, .int j => i == j
  | .str k, .str s => decide (T.W k = s)
  | _, _ => false
def biN : PyI.Bi → Str
  | .len => "len"
  | .max2 => "max"
  | .min2 => "min"
  | .list => "list"
  | .tuple => "tuple"
  | .dict => "dict"
def biA : PyI.Bi → Nat
  | .max2 => 2
  | .min2 => 2
  | _ => 1
def bmA : PyI.Bm → Nat
  | .append => 1
  | .get1 => 1
  | .get2 => 2
  | .pop2 => 2
def tyN (t : PyI.Kd) : Str := tyP t
/-- an optional part of a slice -/
def optL : Option Expr → List Expr
  | none => []
  | some e => [e]
def okArgs (as : List Expr) : Bool := as.all noStar && decide (as.length < 29)
/-- may stand as a test -/
def okT : Ex → Bool
  | .andE a b => okT a && okT b
  | .orE a b => okT a && okT b
  | .notE a => okT a
  | .ite _ _ _ => false
  | _ => true
section
variable (T : Stat) (sc : Scope) (N : List Str)
mutual
def chkE : Ex → Expr → Bool
  | .var i, e => (match e with
    | .Name x _ => decide (N[i]? = some x) && vis sc x
    | _ => false)
  | .con d, e => (match e with
    | .Constant c _ _ => conB T d c
    | _ => false)
  | .glob g, e => (match e with
    | .Name x _ => decide (T.gn g = x) && gl sc x
    | _ => false)
  | .bin o a b, e => (match e with
    | .BinOp l op r _ => decide (binP o = op) && chkE a l && chkE b r
    | _ => false)
  | .neg a, e => (match e with
    | .UnaryOp .USub x _ => chkE a x
    | _ => false)
  | .cmp o a b, e => (match e with
    | .Compare l [op] [r] _ => decide (cmpP o = op) && chkE a l && chkE b r && !behindInMarks op r
    | _ => false)
  | .chain o o' a b c, e => (match e with
    | .Compare l [op, op'] [r, r'] _ => decide (cmpP o = op) && decide (cmpP o' = op') && chkE a l && chkE b r && chkE c r' && !behindInMarks op' r'
    | _ => false)
  | .andE a b, e => (match e with
    | .BoolOp .And (x :: y :: r) p => chkE a x && (match r with
      | [] => chkE b y
      | _ => chkE b (.BoolOp .And (y :: r) p))
    | _ => false)
  | .orE a b, e => (match e with
    | .BoolOp .Or (x :: y :: r) p => chkE a x && (match r with
      | [] => chkE b y
      | _ => chkE b (.BoolOp .Or (y :: r) p))
    | _ => false)
  | .notE a, e => (match e with
    | .UnaryOp .Not x _ => chkE a x
    | _ => false)
  | .ite c a b, e => (match e with
    | .IfExp t x y _ => okT c && chkE c t && chkE a x && chkE b y
    | _ => false)
  | .tup es, e => (match e with
    | .Tuple xs _ _ => xs.all noStar && chkEs es xs
    | _ => false)
  | .lst es, e => (match e with
    | .List xs _ => xs.all noStar && chkEs es xs
    | _ => false)
  | .dct0, e => (match e with
    | .Dict [] [] _ => true
    | _ => false)
  | .idx a i, e => (match e with
    | .Subscript x y _ => chkE a x && chkE i y && noSlice y
    | _ => false)
  | .slice a lo hi, e => (match e with
    | .Subscript x (.Slice l h none _) _ => chkE a x && chkEs lo (optL l) && chkEs hi (optL h)
    | _ => false)
  | .fld o f, e => (match e with
    | .Attribute x n _ => decide (T.W f = n) && notCall0 x && chkE o x
    | _ => false)
  | .isi a t, e => (match e with
    | .Call (.Name f _) [x, .Name y _] [] _ => decide (f = ("isinstance" : Str)) && decide (y = tyN t) && T.fr.contains ("isinstance" : Str) && T.fr.contains (tyN t) && gl sc f && gl sc y && noStar x && chkE a x
    | _ => false)
  | .call f es, e => (match e with
    | .Call (.Name x _) as [] _ => decide (f < T.P.defs.length) && decide ((T.dd f).at_ = (x, none)) && gl sc x && okArgs as && chkEs es as
    | _ => false)
  | .new c es, e => (match e with
    | .Call (.Name x _) as [] _ => (T.P.cls[c]?).isSome && decide (T.cn c = x) && gl sc x && okArgs as && chkEs es as
    | _ => false)
  | .meth o m es, e => (match e with
    | .Call (.Attribute x n ap) as [] p => decide (T.W m = n) && notCall0 x && (ap.endLine == p.line) && okArgs as && chkE o x && chkEs es as
    | _ => false)
  | .bi b es, e => (match e with
    | .Call (.Name x _) as [] _ => decide (biN b = x) && T.fr.contains x && gl sc x && okArgs as && decide (as.length = biA b) && chkEs es as
    | _ => false)
  | .bm m o es, e => (match e with
    | .Call (.Attribute x n ap) as [] p => decide (bmN m = n) && notCall0 x && (ap.endLine == p.line) && okArgs as && decide (as.length = bmA m) && chkE o x && chkEs es as
    | _ => false)
def chkEs : Exs → List Expr → Bool
  | .nil, [] => true
  | .cons e es, x :: xs => chkE e x && chkEs es xs
  | _, _ => false
end
end
end PyS

/-! S5: an expression's meaning is what it does. -/
namespace PyS
open PySem PySem.Spec PyProof.Rows L2 PyI
section
variable {T : Stat} {fn mk : Fn} {X : Cx} {sc : Scope} {N : List Str} {Wx : WX}
def XX (T : Stat) (X : Cx) (Wx : WX) (σ : L2.St) : Nat → Store → List Addr → Hp → Prop := fun c _ _ H' => Wx (.ref (T.xa X.K c)) none σ H'
theorem gl_gl {x : Str} (h : XOk T fn mk X sc N) (g : gl sc x = true) : Gl X x ∧ (x == ("__debug__" : Str)) = false := by
  unfold gl at g
  rw [Bool.and_eq_true] at g
  refine ⟨?_, by simpa using g.2⟩
  show X.env.scope.names.lookup x = _
  rw [h.sc]
  exact of_decide_eq_true g.1
theorem vis_vis {x : Str} (h : XOk T fn mk X sc N) (g : vis sc x = true) : Vis X.env.scope x ∧ (x == ("__debug__" : Str)) = false ∧ (x == ("__classdict__" : Str)) = false := by
  unfold vis at g
  simp only [Bool.and_eq_true, Bool.not_eq_true'] at g
  refine ⟨?_, g.1.2, g.2⟩
  show Vis X.env.scope x
  rw [h.sc]
  have q := g.1.1
  unfold Vis
  cases e : sc.names.lookup x with
  | none => rw [e] at q; cases q
  | some k => rw [e] at q; cases k <;> simp_all
/-- the callee runs: its defaults chosen when the arguments are known -/
theorem run_at {k : Nat} {f : Addr} {fd : FuncData} {ps : List Str} {sp : Sp} {pins : List (Addr × Obj)} {σ : L2.St} {H : Hp} {s : Shared} {Q : VK} {us ds : List Value} {vs dvs : List V} (F : FnOk X.prog X.w X.K X.mg X.base (L2.CX X.prog X.w) k f fd ps sp) (hr : Room k X.A) (hb : Binds X.K fd ps ds) (hd : Vals dvs ds)
    (tk : Takes X Wx) (I : Inv X pins σ H s) (r : Vals vs us) (h : sp (vs ++ dvs) H Q (WE Wx σ)) : wpAny (model X.prog X.w) X.A (call (.ref f) us) (EP X pins σ Q) X.xe s :=
  run_fnSD (E := WE Wx) F hr hb hd (passAt tk σ) I r h
/-- what a call wants, the arguments known -/
def Goes (X : Cx) (f : Addr) (vs : List V) (H : Hp) (Q : VK) (E : XK) : Prop := ∃ (k : Nat) (fd : FuncData) (ps : List Str) (sp : Sp) (dvs : List V) (ds : List Value), FnOk X.prog X.w X.K X.mg X.base (L2.CX X.prog X.w) k f fd ps sp ∧ Room k X.A ∧ Vals dvs ds ∧ Binds X.K fd ps ds ∧ sp (vs ++ dvs) H Q E
theorem run_goes {f : Addr} {pins : List (Addr × Obj)} {σ : L2.St} {H : Hp} {s : Shared} {Q : VK} {us : List Value} {vs : List V} (tk : Takes X Wx) (I : Inv X pins σ H s) (r : Vals vs us) (h : Goes X f vs H Q (WE Wx σ)) : wpAny (model X.prog X.w) X.A (call (.ref f) us) (EP X pins σ Q) X.xe s := by
  obtain ⟨k, fd, ps, sp, dvs, ds, F, hr, h1, h2, h3⟩ := h
  exact run_at F hr h2 h1 tk I r h3
/-- f(..) -/
theorem tw_call {f : Addr} {es : List Expr} {x : Str} {p pos : Pos} {σ : L2.St} {H : Hp} {Q : VK} (hg : Gl X x) (hdb : (x == ("__debug__" : Str)) = false) (hm : X.mg x = some (.ref f))
    (hk : PySem.W.keepIn X.K (.ref f) = true) (tk : Takes X Wx) (ns : es.all noStar = true) (h : ta X es σ H fun vs H1 => Goes X f vs H1 Q (WE Wx σ)) : tw X (.Call (.Name x p) es [] pos) σ H Q := by
  intro pins s I
  refine wpAny_Call_Name_kw (ld_glob I hg hm ?_ hdb)
  cases es with
  | nil => exact PySem.W.callWith_K0 I.kIn hk (run_goes tk I .nil h)
  | cons e es =>
    simp only [List.all_cons, Bool.and_eq_true] at ns
    refine PySem.W.callWith_K (h₀ := X.base) I.ok.mod.kin hk (thn (h pos pins s I) fun us s1 ⟨vs, H1, I1, r, h1⟩ => ⟨I1.kIn, ?_⟩) (star_cons ns.1) (star_plain ns.2)
    exact run_goes tk I1 r h1
/-- C(..) -/
theorem tw_new {f C : Addr} {es : List Expr} {x : Str} {p pos : Pos} {σ : L2.St} {H : Hp} {Q : VK} (M : Mk X.K C f) (hg : Gl X x) (hdb : (x == ("__debug__" : Str)) = false) (hm : X.mg x = some (.ref C))
    (ns : es.all noStar = true) (h : ta X es σ H fun vs H1 => ∃ (k : Nat) (fd : FuncData) (ps : List Str) (sp : Sp) (dvs : List V) (ds : List Value), FnOk X.prog X.w X.K X.mg X.base (L2.CX X.prog X.w) k f fd ps sp ∧ Room (k + 1) X.A ∧ Vals dvs ds ∧ Binds X.K fd ps ds ∧
      ∀ y dx, H1 y = none → H1 dx = none → dx ≠ y → sp (.ref y :: (vs ++ dvs)) (upd (upd H1 dx (.own y)) y (.ins C dx [])) (fun v H2 => v = .non ∧ Q (.ref y) H2) E0) : tw X (.Call (.Name x p) es [] pos) σ H Q := by
  intro pins s I
  have hx : Passes (L2.CX X.prog X.w) X E0 := passL
  refine wpAny_Call_Name_kw (ld_glob I hg hm ?_ hdb)
  cases es with
  | nil =>
    obtain ⟨k, fd, ps, sp, dvs, ds, F, hr, h1, h2, h3⟩ := h
    exact PySem.W.callWith_K0 I.kIn M.kp (run_make (us := []) M F hr h2 h1 hx I .nil h3)
  | cons e es =>
    simp only [List.all_cons, Bool.and_eq_true] at ns
    refine PySem.W.callWith_K (h₀ := X.base) I.ok.mod.kin M.kp (thn (h pos pins s I) fun us s1 ⟨vs, H1, I1, r, k, fd, ps, sp, dvs, ds, F, hr, h1, h2, h3⟩ => ⟨I1.kIn, ?_⟩) (star_cons ns.1) (star_plain ns.2)
    exact run_make M F hr h2 h1 hx I1 r h3
/-- how a method is looked up -/
theorem meth_eq {o : Expr} {m : Str} {es : List Expr} {ap p : Pos} {env : Env} (hb : attributeBase o m env (eval o env) = eval o env) (hl : (ap.endLine == p.line) = true) (ha : okArgs es = true) :
    eval (.Call (.Attribute o m ap) es [] p) env = (do
      let ov ← eval o env
      standAt ap.atName
      let fx ← holding [ov] (getMethod ov m (do return (← importBound o env).getD true))
      callWith p fx.1 fx.2 (backTo p (starEach es env)) (backToKw p (keywordEach [] env))) := by
  have hf : methodCallForm (es.length + 0) (backTo p (starEach es env)) (backToKw p (keywordEach [] env)) = true := by
    unfold okArgs at ha
    rw [Bool.and_eq_true] at ha
    have h2 := of_decide_eq_true ha.2
    have h3 : (backTo p (starEach es env)).all (fun x => !x.1) = true := by
      have h1 := ha.1
      clear h2 ha
      induction es with
      | nil => rfl
      | cons e es ih =>
        simp only [List.all_cons, Bool.and_eq_true] at h1
        rw [star_cons h1.1]
        show (!false && (backTo p (starEach es env)).all fun x => !x.1) = true
        rw [ih h1.2]
        rfl
    unfold methodCallForm
    rw [h3]
    show (true && true && decide (es.length + 0 + 0 < 30)) = true
    rw [decide_eq_true (by omega)]
    rfl
  have hp : methodCallPos true o env ap p = pure p := by
    unfold methodCallPos
    rw [hl]
    rfl
  show (do
      let ov ← attributeBase o m env (eval o env)
      standAt ap.atName
      methodCall o m ap p env ov (es.length + 0) (backTo p (starEach es env)) (backToKw p (keywordEach [] env))) = _
  rw [hb]
  unfold methodCall
  rw [hf, hp]
  simp only [calleeOf, if_true, pure_bind]
/-- o.m(..), a method of its own class -/
theorem tw_meth {es : List Expr} {o : Expr} {m : Str} {ap pos : Pos} {σ : L2.St} {H : Hp} {Q : VK} (hb : notCall0 o = true) (hl : (ap.endLine == pos.line) = true) (ha : okArgs es = true) (tk : Takes X Wx)
    (h : tw X o σ H fun x H1 => ∃ (f C a dx : Addr) (fs : List (Str × V)), Cls X.K C ∧ Meth X.K C m f ∧ x = .ref a ∧ H1 a = some (.ins C dx fs) ∧ fs.lookup m = none ∧ ta X es σ H1 fun vs H2 => Goes X f (x :: vs) H2 Q (WE Wx σ)) : tw X (.Call (.Attribute o m ap) es [] pos) σ H Q := by
  intro pins s I
  refine PySem.W.methodCall_KW (thn (h pins s I) fun u s1 ⟨x, H1, I1, rx, f, C, a, dx, fs, cl, hm, ex, ea, l, q⟩ => ?_) (meth_eq (base_of hb) hl ha)
  subst ex
  obtain rfl : u = Value.ref a := rx
  refine getmeth_ok I1 ea cl hm l ?_
  unfold okArgs at ha
  rw [Bool.and_eq_true] at ha
  have ns := ha.1
  cases es with
  | nil =>
    exact PySem.W.callWith_K0 (first := [.ref a]) I1.kIn hm.kp (run_goes (vs := [V.ref a]) tk I1 (.cons rfl .nil) q)
  | cons e es =>
    simp only [List.all_cons, Bool.and_eq_true] at ns
    refine PySem.W.callWith_K (first := [.ref a]) (h₀ := X.base) I.ok.mod.kin hm.kp (thn (q pos pins s1 I1) fun us s2 ⟨vs, H2, I2, r, h1⟩ => ⟨I2.kIn, ?_⟩) (star_cons ns.1) (star_plain ns.2)
    exact run_goes (vs := V.ref a :: vs) tk I2 (.cons rfl r) h1
/-- o.m(..), a method of a built-in -/
theorem tw_bm {es : List Expr} {o : Expr} {m : Str} {ap pos : Pos} {σ : L2.St} {H : Hp} {Q : VK} (hb : notCall0 o = true) (hl : (ap.endLine == pos.line) = true) (ha : okArgs es = true)
    (h : tw X o σ H fun x H1 => ∃ (Ty id : String) (r : V → List V → Hp → VK → Prop), PlainAttrs Ty ∧ Slot Ty m id ∧ typeOf (.builtin id) = pure (.type "method_descriptor") ∧ tyV X.K Ty x H1 ∧ MtR X id r ∧ ta X es σ H1 fun vs H2 => r x vs H2 Q) : tw X (.Call (.Attribute o m ap) es [] pos) σ H Q := by
  intro pins s I
  have ha0 := ha
  unfold okArgs at ha
  rw [Bool.and_eq_true] at ha
  have ns := ha.1
  refine PySem.W.methodCall_KW (thn (h pins s I) fun u s1 ⟨x, H1, I1, rx, Ty, id, r, pa, sl, ty, tv, mt, q⟩ => ?_) (meth_eq (base_of hb) hl ha0)
  obtain ⟨t1, t2⟩ := tyV_is I1 rx tv
  refine getMethod_builtin t1 pa sl ty t2 ?_
  cases es with
  | nil => exact Calls.callWith_builtin rfl (PySem.evalArgs_none (mt pins s1 σ H1 x [] u [] Q I1 rx .nil q))
  | cons e es =>
    simp only [List.all_cons, Bool.and_eq_true] at ns
    have hA := q pos pins s1 I1
    rw [star_cons ns.1] at hA ⊢
    refine Calls.callWith_builtin ?_ (Calls.evalArgs_plain (thn hA fun us s2 ⟨vs, H2, I2, r2, q2⟩ => mt pins s2 σ H2 x vs u us Q I2 rx r2 q2))
    show (false || (backTo pos (starEach es X.env)).any (·.1)) = false
    rw [star_plain ns.2]
    rfl

theorem mget_mem {ms : List (Nat × Nat)} {m f : Nat} (h : mget ms m = some f) : (m, f) ∈ ms := by
  induction ms with
  | nil => cases h
  | cons p r ih =>
    simp only [mget] at h
    split at h
    · rename_i e
      cases h
      rw [← e]
      exact List.mem_cons_self
    · exact List.mem_cons_of_mem _ (ih h)
/-- the callee's promise from its meaning -/
theorem app_sp {n : Nat} {g : Fn} {f : Nat} {as : List Dat} {S : Store} {m : List Addr} {H : Hp} {vs : List V} {Q : VK} {E : XK} (C : CallOk T X n g) (hp : Post T X.K (app T.P g f as S) m H (okV T Q) (fun c _ _ H' => E (.ref (T.xa X.K c)) none H')) (r : RepL T.W m H as vs) (R : HRel T.W m H (T.ca X.K) S) :
    ∃ fd dvs ds, FnOk X.prog X.w X.K X.mg X.base (L2.CX X.prog X.w) n (T.fa X.K f) fd (T.ps f) (T.sp X.K g f) ∧ Vals dvs ds ∧ Binds X.K fd (T.ps f) ds ∧ T.sp X.K g f (vs ++ dvs) H Q E := by
  unfold app filled at hp
  cases e : T.P.defs[f]? with
  | none => rw [e] at hp; exact hp.elim
  | some d =>
    rw [e] at hp
    simp only at hp
    split at hp
    · rename_i full ef
      split at ef
      · rename_i hc
        cases ef
        obtain ⟨hl, fd, dv, h1, h2, F⟩ := C.ok f d e
        obtain ⟨ds, h3, h4⟩ := h2 (as.length + d.dfl.length - d.np) (by omega)
        have r2 := r.append ((h1 m H).drop (as.length + d.dfl.length - d.np))
        refine ⟨fd, _, ds, F, h3, h4, ?_, m, S, _, r2, R, hp⟩
        rw [r2.length, List.length_append, List.length_drop, hl]
        omega
      · cases ef
    · exact hp.elim
theorem app_goes {n : Nat} {g : Fn} {f : Nat} {as : List Dat} {S : Store} {m : List Addr} {H : Hp} {vs : List V} {Q : VK} {E : XK} (hr : Room n X.A) (C : CallOk T X n g) (hp : Post T X.K (app T.P g f as S) m H (okV T Q) (fun c _ _ H' => E (.ref (T.xa X.K c)) none H')) (r : RepL T.W m H as vs) (R : HRel T.W m H (T.ca X.K) S) :
    Goes X (T.fa X.K f) vs H Q E := by
  obtain ⟨fd, dvs, ds, F, h1, h2, h3⟩ := app_sp C hp r R
  exact ⟨n, fd, _, _, dvs, ds, F, hr, h1, h2, h3⟩
theorem recv_ok {x : Dat} {mm f : Nat} {S : Store} {m : List Addr} {H : Hp} {v : V} (F : Facts T X.K X.mg) (h : recv T.P x mm S = some f) (R : HRel T.W m H (T.ca X.K) S) (r : Rep T.W m H x v) :
    ∃ C a dx fs, Cls X.K C ∧ Meth X.K C (T.W mm) (T.fa X.K f) ∧ v = .ref a ∧ H a = some (.ins C dx fs) ∧ fs.lookup (T.W mm) = none := by
  cases x <;> simp only [recv] at h <;> try (cases h; done)
  rename_i l
  split at h
  · rename_i c fs e1
    split at h
    · rename_i k e2 e3
      obtain ⟨a, h1, h2, dx, fs', h3, h4⟩ := R.at_ r e1
      obtain ⟨cl, _, _, hm, _⟩ := F.cls c k e3
      exact ⟨_, a, dx, fs', cl, hm _ (mget_mem h), h2, h3, (h4.get F.hW).2 e2⟩
    · cases h
  · cases h
theorem brecv_ok {x : Dat} {b : PyI.Bm} {S : Store} {m : List Addr} {H : Hp} {v : V} (h : brecv b x S = true) (R : HRel T.W m H (T.ca X.K) S) (r : Rep T.W m H x v) : tyV X.K (bmT b) v H := by
  cases x <;> simp only [brecv] at h <;> try (cases h; done)
  rename_i l
  split at h <;> try (cases h; done)
  · rename_i xs e1
    obtain ⟨a, vs, _, rfl, h1, _⟩ := R.lstv r e1
    exact .inl ⟨rfl, vs, SqL.of h1⟩
  all_goals
    rename_i kvs e1
    obtain ⟨a, _, rfl, h3⟩ := R.at_ r e1
    refine .inr (.inr (.inl ⟨rfl, ?_⟩))
    rcases h3 with ⟨ks, e, _⟩ | ⟨ks, e, _⟩
    · exact .inl ⟨ks, e⟩
    · exact .inr ⟨ks, e⟩
theorem bm_slot (b : PyI.Bm) : PlainAttrs (bmT b) ∧ Slot (bmT b) (bmN b) (bmI b) ∧ typeOf (.builtin (bmI b)) = pure (.type "method_descriptor") := by
  cases b
  · exact ⟨PySem.F.plainAttrs_list, PySem.F.slot_list_append, PySem.F.type_list_append⟩
  · exact ⟨PySem.F.plainAttrs_dict, PySem.F.slot_dict_get, PySem.F.type_dict_get⟩
  · exact ⟨PySem.F.plainAttrs_dict, PySem.F.slot_dict_get, PySem.F.type_dict_get⟩
  · exact ⟨PySem.F.plainAttrs_dict, PySem.F.slot_dict_pop, PySem.F.type_dict_pop⟩
theorem bi_boot (b : PyI.Bi) : bootBuiltins (biN b) = some (biF b) ∧ biN b ≠ "__name__" := by
  cases b <;> exact ⟨by decide +kernel, by decide +kernel⟩
theorem ty_boot (t : PyI.Kd) : bootBuiltins (tyN t) = some (.type (tyP t)) ∧ tyN t ≠ "__name__" ∧ (tyN t == ("__debug__" : Str)) = false := by
  cases t <;> exact ⟨by decide +kernel, by decide +kernel, by decide +kernel⟩
end
end PyS

/-! S6: the induction over expressions. -/
namespace PyS
open PySem PySem.Spec PyProof.Rows L2 PyI
section
variable {T : Stat} {fn mk : Fn} {X : Cx} {sc : Scope} {N : List Str} {Wx : WX}
theorem cop_bl {o : PyI.CmpO} {a b d : Dat} {S S' : Store} (h : cop o a b S = .ok d S') : ∃ k, d = .bl k := by
  cases o <;> simp only [cop] at h <;> (try split at h) <;> (try cases h) <;> (try exact ⟨_, rfl⟩)
  all_goals
    unfold obl at h
    split at h <;> cases h <;> exact ⟨_, rfl⟩
theorem tru_post {d : Dat} {S : Store} {m : List Addr} {H : Hp} {Q : Bool → Hp → Prop} {xx : Nat → Store → List Addr → Hp → Prop} (hp : Post T X.K (toB d S) m H (okB Q) xx) : ∃ k, tru S d = some k ∧ ∀ H', Ext m H m H' → HRel T.W m H' (T.ca X.K) S → Q k H' := by
  unfold toB at hp
  cases e : tru S d with
  | none => rw [e] at hp; exact hp.elim
  | some k => rw [e] at hp; exact ⟨k, rfl, fun H' e' R' => hp m H' e' R'⟩
/-- a value as a test -/
theorem tt_plain {e : Expr} {σ : L2.St} {H : Hp} {Q : Bool → Hp → Prop} (hpl : isPlain e = true) (h : tw X e σ H fun v H1 => ∃ m S d k, Rep T.W m H1 d v ∧ HRel T.W m H1 (T.ca X.K) S ∧ tru S d = some k ∧ ∀ H', Ext m H1 m H' → HRel T.W m H' (T.ca X.K) S → Q k H') : tt X e σ H Q := by
  intro pins s I
  refine isTrue_plain (thn (h pins s I) fun u s1 ⟨v, H1, I1, r1, m, S, d, k, rd, R, ek, q⟩ => ?_) (plain_true hpl _)
  exact tru_run I1 r1 R rd ek q
theorem pw_of {op : BoolOp} {es : List Expr} {pos : Pos} {t : TT} (h : PT X (.BoolOp op es pos) t) : PW X (.BoolOp op es pos) t := ⟨fun wh pins s σ H Q I q => h.run pins s σ H Q I q⟩
theorem okA {as : List Expr} (h : okArgs as = true) : as.all noStar = true := by
  unfold okArgs at h
  exact (Bool.and_eq_true_iff.mp h).1
theorem bind_assoc' {α β γ : Type} (r : Re α) (f : α → Store → Re β) (g : β → Store → Re γ) : (r.bind f).bind g = r.bind fun a S => (f a S).bind g := by
  cases r <;> rfl
/-- what is no comparison, no and, or, not, no conditional -/
def plE : Ex → Bool
  | .andE _ _ => false
  | .orE _ _ => false
  | .notE _ => false
  | .ite _ _ _ => false
  | .cmp _ _ _ => false
  | .chain _ _ _ _ _ => false
  | _ => true
theorem plain_of {E : Ex} {e : Expr} (hp : plE E = true) (hc : chkE T sc N E e = true) : isPlain e = true := by
  cases E <;> simp only [plE, Bool.false_eq_true] at hp <;> simp only [chkE] at hc <;> split at hc <;> first | rfl | cases hc
theorem tst_post {E : Ex} {m : List Addr} {S : Store} {σd : Slots} {σ : L2.St} {H : Hp} {Q : Bool → Hp → Prop} (he : tst T.P fn mk E σd S = (ev T.P fn mk E σd S).bind toB) (hp : Post T X.K (tst T.P fn mk E σd S) m H (okB Q) (XX T X Wx σ)) :
    Post T X.K (ev T.P fn mk E σd S) m H (okV T fun v H1 => ∃ m S d k, Rep T.W m H1 d v ∧ HRel T.W m H1 (T.ca X.K) S ∧ tru S d = some k ∧ ∀ H', Ext m H1 m H' → HRel T.W m H' (T.ca X.K) S → Q k H') (XX T X Wx σ) := by
  rw [he] at hp
  exact hp.seq fun x S1 m1 H1 e1 R1 hp v r => let ⟨k, h1, h2⟩ := tru_post hp; ⟨m1, S1, x, k, r, R1, h1, h2⟩
theorem cop_test {o : PyI.CmpO} {x y : Dat} {S : Store} {m : List Addr} {H : Hp} {Q : Bool → Hp → Prop} {xx : Nat → Store → List Addr → Hp → Prop} (hp : Post T X.K ((cop o x y S).bind toB) m H (okB Q) xx) : Post T X.K (cop o x y S) m H (okV T fun v H' => ∃ k, v = .bl k ∧ Q k H') xx := by
  cases e : cop o x y S with
  | bad => rw [e] at hp; exact hp.elim
  | exc c S' => rw [e] at hp; exact hp
  | ok d S' =>
    obtain ⟨k, rfl⟩ := cop_bl e
    rw [e] at hp
    exact fun m' H' e' R' v r => ⟨k, r.bl_inv, hp m' H' e' R'⟩
theorem hu1 (h : XOk T fn mk X sc N) : X.A.units + 65 < cLine := by have := h.un; omega
theorem free_of {x : Str} (h : XOk T fn mk X sc N) (q : T.fr.contains x = true) : X.mg x = none := h.facts.free x (by simpa using q)
theorem xx_eq {σ : L2.St} {c : Nat} {S : Store} {m : List Addr} {H : Hp} (h : XX T X Wx σ c S m H) : WE Wx σ (.ref (T.xa X.K c)) none H := h

def EvS (T : Stat) (fn mk : Fn) (X : Cx) (Wx : WX) (E : Ex) (e : Expr) : Prop := ∀ {m : List Addr} {S : Store} {σd : Slots} {σ : L2.St} {H : Hp} {Q : VK}, HRel T.W m H (T.ca X.K) S → SRel T.W m H σd σ → Post T X.K (ev T.P fn mk E σd S) m H (okV T Q) (XX T X Wx σ) → tw X e σ H Q
def TsS (T : Stat) (fn mk : Fn) (X : Cx) (Wx : WX) (E : Ex) (e : Expr) : Prop := ∀ {m : List Addr} {S : Store} {σd : Slots} {σ : L2.St} {H : Hp} {Q : Bool → Hp → Prop}, HRel T.W m H (T.ca X.K) S → SRel T.W m H σd σ → Post T X.K (tst T.P fn mk E σd S) m H (okB Q) (XX T X Wx σ) → tt X e σ H Q
theorem tst_plain {E : Ex} {σd : Slots} {S : Store} (hp : plE E = true) : tst T.P fn mk E σd S = (ev T.P fn mk E σd S).bind toB := by
  cases E <;> simp only [plE, Bool.false_eq_true] at hp <;> simp only [tst]
theorem pl_both {E : Ex} {e : Expr} (hp : plE E = true) (hc : chkE T sc N E e = true) (q : EvS T fn mk X Wx E e) : EvS T fn mk X Wx E e ∧ (okT E = true → TsS T fn mk X Wx E e) :=
  ⟨q, fun _ {_ _ _ _ _ _} R Sr hq => tt_plain (plain_of hp hc) (q R Sr (tst_post (tst_plain hp) hq))⟩
variable (h : XOk T fn mk X sc N) (tk : Takes X Wx)
include h tk
mutual
theorem snd_both : ∀ (E : Ex) (e : Expr) (hc : chkE T sc N E e = true), EvS T fn mk X Wx E e ∧ (okT E = true → TsS T fn mk X Wx E e)
  | .var i, e, hc => by
    refine pl_both rfl hc (fun {m S σd σ H Q} R Sr hp => ?_)
    simp only [chkE] at hc
    split at hc <;> try (cases hc; done)
    simp only [Bool.and_eq_true, decide_eq_true_eq] at hc
    obtain ⟨v1, v2, v3⟩ := vis_vis h hc.2
    simp only [ev] at hp
    split at hp
    · rename_i d ed
      obtain ⟨v, e1, r⟩ := Sr.2 i d ed
      exact tw_of (pe_var (i := i) (by rw [h.hN]; exact hc.1) v1 v2 v3) ⟨v, e1, okV.now hp R r⟩
    · exact hp.elim
  | .con d, e, hc => by
    refine pl_both rfl hc (fun {m S σd σ H Q} R Sr hp => ?_)
    simp only [chkE] at hc
    split at hc <;> try (cases hc; done)
    rename_i c k p
    simp only [ev] at hp
    cases d <;> cases c <;> simp only [conB, Bool.false_eq_true] at hc
    · exact tw_of pe_non (okV.now hp R Rep.non)
    · rw [beq_iff_eq] at hc; subst hc
      exact tw_of pe_bl (okV.now hp R Rep.bl)
    · rw [beq_iff_eq] at hc; subst hc
      exact tw_of pe_int (okV.now hp R Rep.int)
    · have e1 := of_decide_eq_true hc; subst e1
      exact tw_of pe_str (okV.now hp R Rep.str)
  | .glob g, e, hc => by
    refine pl_both rfl hc (fun {m S σd σ H Q} R Sr hp => ?_)
    simp only [chkE] at hc
    split at hc <;> try (cases hc; done)
    simp only [Bool.and_eq_true, decide_eq_true_eq] at hc
    obtain ⟨g1, g2⟩ := gl_gl h hc.2
    simp only [ev] at hp
    split at hp
    · rename_i d ed
      obtain ⟨u, v, h1, h2, h3⟩ := h.facts.glo g d ed
      exact tw_of (pe_glob g1 (by rw [← hc.1]; exact h1) h2 g2) (okV.now hp R (h3 m H))
    · exact hp.elim
  | .bin o a b, e, hc => by
    refine pl_both rfl hc (fun {m S σd σ H Q} R Sr hp => ?_)
    simp only [chkE] at hc
    split at hc <;> try (cases hc; done)
    simp only [Bool.and_eq_true, decide_eq_true_eq] at hc
    obtain ⟨⟨rfl, h1⟩, h2⟩ := hc
    simp only [ev] at hp
    exact tw_of (pe_op (op_bop (T := T) o) pe_tw pe_tw) ((snd_both a _ h1).1 R Sr (hp.seq fun x S1 m1 H1 e1 R1 hp v1 r1 => (snd_both b _ h2).1 R1 (Sr.ext e1) (hp.seq fun y S2 m2 H2 e2 R2 hp v2 r2 => ⟨m2, S2, x, y, _, r1.ext e2, r2, R2, hp⟩)))
  | .neg a, e, hc => by
    refine pl_both rfl hc (fun {m S σd σ H Q} R Sr hp => ?_)
    simp only [chkE] at hc
    split at hc <;> try (cases hc; done)
    simp only [ev] at hp
    refine tw_of (pe_un un_neg pe_tw) ((snd_both a _ hc).1 R Sr (hp.seq fun x S1 m1 H1 e1 R1 hp v1 r1 => ?_))
    split at hp
    · cases r1.int_inv
      exact ⟨_, rfl, okV.int hp R1⟩
    · exact hp.elim
  | .cmp o a b, e, hc => by
    refine ⟨fun {m S σd σ H Q} R Sr hp => ?_, fun ho {m S σd σ H Q} R Sr hp => ?_⟩
    · simp only [chkE] at hc
      split at hc <;> try (cases hc; done)
      simp only [Bool.and_eq_true, decide_eq_true_eq, Bool.not_eq_true'] at hc
      obtain ⟨⟨⟨rfl, h1⟩, h2⟩, h3⟩ := hc
      simp only [ev] at hp
      exact tw_of (pe_cmpR (op_cop (T := T) h.facts.hW h.facts.hS (hu1 h) o) pe_tw pe_tw h3) ((snd_both a _ h1).1 R Sr (hp.seq fun x S1 m1 H1 e1 R1 hp v1 r1 => (snd_both b _ h2).1 R1 (Sr.ext e1) (hp.seq fun y S2 m2 H2 e2 R2 hp v2 r2 => ⟨m2, S2, x, y, _, r1.ext e2, r2, R2, hp⟩)))
    · simp only [chkE] at hc
      split at hc <;> try (cases hc; done)
      simp only [Bool.and_eq_true, decide_eq_true_eq, Bool.not_eq_true'] at hc
      obtain ⟨⟨⟨rfl, h1⟩, h2⟩, h3⟩ := hc
      simp only [tst, ev] at hp
      rw [bind_assoc'] at hp
      refine tt_of (pt_cmpR (op_cop (T := T) h.facts.hW h.facts.hS (hu1 h) o) pe_tw pe_tw h3) ((snd_both a _ h1).1 R Sr (hp.seq fun x S1 m1 H1 e1 R1 hp v1 r1 => ?_))
      rw [bind_assoc'] at hp
      refine (snd_both b _ h2).1 R1 (Sr.ext e1) (hp.seq fun y S2 m2 H2 e2 R2 hp v2 r2 => ⟨m2, S2, x, y, XX T X Wx σ, r1.ext e2, r2, R2, ?_⟩)
      exact cop_test hp
  | .chain o o' a b c, e, hc => by
    refine ⟨fun {m S σd σ H Q} R Sr hp => ?_, fun ho {m S σd σ H Q} R Sr hp => ?_⟩
    · simp only [chkE] at hc
      split at hc <;> try (cases hc; done)
      simp only [Bool.and_eq_true, decide_eq_true_eq, Bool.not_eq_true'] at hc
      obtain ⟨⟨⟨⟨⟨rfl, rfl⟩, h1⟩, h2⟩, h3⟩, h4⟩ := hc
      simp only [ev] at hp
      refine tw_of (pe_chain (op_cop (T := T) h.facts.hW h.facts.hS (hu1 h) o) (op_cop (T := T) h.facts.hW h.facts.hS (hu1 h) o') pe_tw pe_tw pe_tw h4) ((snd_both a _ h1).1 R Sr (hp.seq fun x S1 m1 H1 e1 R1 hp v1 r1 => (snd_both b _ h2).1 R1 (Sr.ext e1) (hp.seq fun y S2 m2 H2 e2 R2 hp v2 r2 => ?_)))
      refine ⟨m2, S2, x, y, _, r1.ext e2, r2, R2, hp.seq fun w S3 m3 H3 e3 R3 hp v3 r3 => ?_⟩
      split at hp
      · cases r3.bl_inv
        refine ⟨true, rfl, ?_⟩
        rw [if_pos rfl]
        exact (snd_both c _ h3).1 R3 (((Sr.ext e1).ext e2).ext e3) (hp.seq fun z S4 m4 H4 e4 R4 hp v4 r4 => ⟨m4, S4, y, z, _, (r2.ext e3).ext e4, r4, R4, hp⟩)
      · cases r3.bl_inv
        refine ⟨false, rfl, ?_⟩
        rw [if_neg Bool.false_ne_true]
        exact okV.bl hp R3
      · exact hp.elim
    · simp only [chkE] at hc
      split at hc <;> try (cases hc; done)
      simp only [Bool.and_eq_true, decide_eq_true_eq, Bool.not_eq_true'] at hc
      obtain ⟨⟨⟨⟨⟨rfl, rfl⟩, h1⟩, h2⟩, h3⟩, h4⟩ := hc
      simp only [tst, ev] at hp
      rw [bind_assoc'] at hp
      refine tt_of (pt_chain (op_cop (T := T) h.facts.hW h.facts.hS (hu1 h) o) (op_cop (T := T) h.facts.hW h.facts.hS (hu1 h) o') pe_tw pe_tw pe_tw h4) ((snd_both a _ h1).1 R Sr (hp.seq fun x S1 m1 H1 e1 R1 hp v1 r1 => ?_))
      rw [bind_assoc'] at hp
      refine (snd_both b _ h2).1 R1 (Sr.ext e1) (hp.seq fun y S2 m2 H2 e2 R2 hp v2 r2 => ?_)
      rw [bind_assoc'] at hp
      refine ⟨m2, S2, x, y, XX T X Wx σ, r1.ext e2, r2, R2, hp.seq fun w S3 m3 H3 e3 R3 hp v3 r3 => ?_⟩
      split at hp
      · cases r3.bl_inv
        refine ⟨true, rfl, ?_⟩
        rw [if_pos rfl]
        rw [bind_assoc'] at hp
        exact (snd_both c _ h3).1 R3 (((Sr.ext e1).ext e2).ext e3) (hp.seq fun z S4 m4 H4 e4 R4 hp v4 r4 => ⟨m4, S4, y, z, XX T X Wx σ, (r2.ext e3).ext e4, r4, R4, cop_test hp⟩)
      · cases r3.bl_inv
        refine ⟨false, rfl, ?_⟩
        rw [if_neg Bool.false_ne_true]
        exact ⟨false, rfl, hp m3 H3 Ext.refl R3⟩
      · exact hp.elim
  | .andE a b, e, hc => by
    refine ⟨fun {m S σd σ H Q} R Sr hp => ?_, fun ho {m S σd σ H Q} R Sr hp => ?_⟩
    · simp only [chkE] at hc
      split at hc <;> try (cases hc; done)
      rename_i x y r p
      simp only [Bool.and_eq_true] at hc
      obtain ⟨h1, h2⟩ := hc
      simp only [ev] at hp
      cases r with
      | nil =>
        refine tw_of (pe_and pe_tw (pe_one pe_tw)) ((snd_both a _ h1).1 R Sr (hp.seq fun x S1 m1 H1 e1 R1 hp v1 r1 => ?_))
        split at hp
        · cases r1.bl_inv
          refine ⟨true, rfl, ?_⟩
          rw [if_pos rfl]
          exact (snd_both b _ h2).1 R1 (Sr.ext e1) hp
        · cases r1.bl_inv
          refine ⟨false, rfl, ?_⟩
          rw [if_neg Bool.false_ne_true]
          exact okV.bl hp R1
        · exact hp.elim
      | cons z r =>
        refine tw_of (pe_and pe_tw pe_tw) ((snd_both a _ h1).1 R Sr (hp.seq fun x S1 m1 H1 e1 R1 hp v1 r1 => ?_))
        split at hp
        · cases r1.bl_inv
          refine ⟨true, rfl, ?_⟩
          rw [if_pos rfl]
          exact (snd_both b _ h2).1 R1 (Sr.ext e1) hp
        · cases r1.bl_inv
          refine ⟨false, rfl, ?_⟩
          rw [if_neg Bool.false_ne_true]
          exact okV.bl hp R1
        · exact hp.elim
    · simp only [okT, Bool.and_eq_true] at ho
      simp only [chkE] at hc
      split at hc <;> try (cases hc; done)
      rename_i x y r p
      simp only [Bool.and_eq_true] at hc
      obtain ⟨h1, h2⟩ := hc
      simp only [tst] at hp
      cases r with
      | nil =>
        refine tt_of (pw_and pt_tt (pw_and1 pt_tt)).pt ((snd_both a _ h1).2 ho.1 R Sr (hp.seq fun k S1 m1 H1 e1 R1 hp => ?_))
        show if k = true then _ else _
        cases k with
        | true => exact (snd_both b _ h2).2 ho.2 R1 (Sr.ext e1) hp
        | false => exact hp m1 H1 Ext.refl R1
      | cons z r =>
        refine tt_of (pw_and pt_tt (pw_of pt_tt)).pt ((snd_both a _ h1).2 ho.1 R Sr (hp.seq fun k S1 m1 H1 e1 R1 hp => ?_))
        show if k = true then _ else _
        cases k with
        | true => exact (snd_both b _ h2).2 ho.2 R1 (Sr.ext e1) hp
        | false => exact hp m1 H1 Ext.refl R1
  | .orE a b, e, hc => by
    refine ⟨fun {m S σd σ H Q} R Sr hp => ?_, fun ho {m S σd σ H Q} R Sr hp => ?_⟩
    · simp only [chkE] at hc
      split at hc <;> try (cases hc; done)
      rename_i x y r p
      simp only [Bool.and_eq_true] at hc
      obtain ⟨h1, h2⟩ := hc
      simp only [ev] at hp
      cases r with
      | nil =>
        refine tw_of (pe_or pe_tw (pe_one pe_tw)) ((snd_both a _ h1).1 R Sr (hp.seq fun x S1 m1 H1 e1 R1 hp v1 r1 => ?_))
        split at hp
        · cases r1.bl_inv
          refine ⟨true, rfl, ?_⟩
          rw [if_pos rfl]
          exact okV.bl hp R1
        · cases r1.bl_inv
          refine ⟨false, rfl, ?_⟩
          rw [if_neg Bool.false_ne_true]
          exact (snd_both b _ h2).1 R1 (Sr.ext e1) hp
        · exact hp.elim
      | cons z r =>
        refine tw_of (pe_or pe_tw pe_tw) ((snd_both a _ h1).1 R Sr (hp.seq fun x S1 m1 H1 e1 R1 hp v1 r1 => ?_))
        split at hp
        · cases r1.bl_inv
          refine ⟨true, rfl, ?_⟩
          rw [if_pos rfl]
          exact okV.bl hp R1
        · cases r1.bl_inv
          refine ⟨false, rfl, ?_⟩
          rw [if_neg Bool.false_ne_true]
          exact (snd_both b _ h2).1 R1 (Sr.ext e1) hp
        · exact hp.elim
    · simp only [okT, Bool.and_eq_true] at ho
      simp only [chkE] at hc
      split at hc <;> try (cases hc; done)
      rename_i x y r p
      simp only [Bool.and_eq_true] at hc
      obtain ⟨h1, h2⟩ := hc
      simp only [tst] at hp
      cases r with
      | nil =>
        refine tt_of (pw_or pt_tt (pw_or1 pt_tt)).pt ((snd_both a _ h1).2 ho.1 R Sr (hp.seq fun k S1 m1 H1 e1 R1 hp => ?_))
        show if k = true then _ else _
        cases k with
        | true => exact hp m1 H1 Ext.refl R1
        | false => exact (snd_both b _ h2).2 ho.2 R1 (Sr.ext e1) hp
      | cons z r =>
        refine tt_of (pw_or pt_tt (pw_of pt_tt)).pt ((snd_both a _ h1).2 ho.1 R Sr (hp.seq fun k S1 m1 H1 e1 R1 hp => ?_))
        show if k = true then _ else _
        cases k with
        | true => exact hp m1 H1 Ext.refl R1
        | false => exact (snd_both b _ h2).2 ho.2 R1 (Sr.ext e1) hp
  | .notE a, e, hc => by
    refine ⟨fun {m S σd σ H Q} R Sr hp => ?_, fun ho {m S σd σ H Q} R Sr hp => ?_⟩
    · simp only [chkE] at hc
      split at hc <;> try (cases hc; done)
      simp only [ev] at hp
      refine tw_of (pe_not pe_tw) ((snd_both a _ hc).1 R Sr (hp.seq fun x S1 m1 H1 e1 R1 hp v1 r1 => ?_))
      split at hp
      · cases r1.bl_inv
        exact ⟨_, rfl, okV.bl hp R1⟩
      · exact hp.elim
    · simp only [okT] at ho
      simp only [chkE] at hc
      split at hc <;> try (cases hc; done)
      simp only [tst] at hp
      exact tt_of (pt_not pt_tt) ((snd_both a _ hc).2 ho R Sr (hp.seq fun k S1 m1 H1 e1 R1 hp => hp m1 H1 Ext.refl R1))
  | .ite c a b, e, hc => by
    refine ⟨fun {m S σd σ H Q} R Sr hp => ?_, fun ho {m S σd σ H Q} R Sr hp => ?_⟩
    · simp only [chkE] at hc
      split at hc <;> try (cases hc; done)
      simp only [Bool.and_eq_true] at hc
      obtain ⟨⟨⟨h0, h1⟩, h2⟩, h3⟩ := hc
      simp only [ev] at hp
      refine tw_of (pe_ifExp pt_tt pe_tw pe_tw) ((snd_both c _ h1).2 h0 R Sr (hp.seq fun k S1 m1 H1 e1 R1 hp => ?_))
      show if k = true then _ else _
      by_cases hk : k = true
      · rw [if_pos hk] at hp ⊢
        exact (snd_both a _ h2).1 R1 (Sr.ext e1) hp
      · rw [if_neg hk] at hp ⊢
        exact (snd_both b _ h3).1 R1 (Sr.ext e1) hp
    · simp [okT] at ho
  | .tup es, e, hc => by
    refine pl_both rfl hc (fun {m S σd σ H Q} R Sr hp => ?_)
    simp only [chkE] at hc
    split at hc <;> try (cases hc; done)
    simp only [Bool.and_eq_true] at hc
    simp only [ev] at hp
    refine tw_of (pe_tup pa_ta) (snd_evs es _ hc.1 hc.2 R Sr (hp.seq fun xs S1 m1 H1 e1 R1 hp vs r1 => ?_))
    split at hp
    · rename_i hl
      refine ⟨by rw [r1.length, ← limS]; exact hl, fun p hpn => okV.tup hp R1 r1 hpn⟩
    · exact hp.elim
  | .lst es, e, hc => by
    refine pl_both rfl hc (fun {m S σd σ H Q} R Sr hp => ?_)
    simp only [chkE] at hc
    split at hc <;> try (cases hc; done)
    simp only [Bool.and_eq_true] at hc
    simp only [ev] at hp
    refine tw_of (pe_lst pa_ta) (snd_evs es _ hc.1 hc.2 R Sr (hp.seq fun xs S1 m1 H1 e1 R1 hp vs r1 => ?_))
    split at hp
    · rename_i hl
      refine ⟨by rw [r1.length, ← limS]; exact hl, fun p hpn => okV.lst hp R1 r1 hpn⟩
    · exact hp.elim
  | .dct0, e, hc => by
    refine pl_both rfl hc (fun {m S σd σ H Q} R Sr hp => ?_)
    simp only [chkE] at hc
    split at hc <;> try (cases hc; done)
    simp only [ev] at hp
    exact tw_of pe_dnewK fun p hpn => hp (m ++ [p]) _ (Ext.new hpn) (R.new hpn (.inl ⟨[], upd_same, trivial⟩)) _ (Rep.loc_new R.len)
  | .idx a i, e, hc => by
    refine pl_both rfl hc (fun {m S σd σ H Q} R Sr hp => ?_)
    simp only [chkE] at hc
    split at hc <;> try (cases hc; done)
    simp only [Bool.and_eq_true] at hc
    obtain ⟨⟨h1, h2⟩, h3⟩ := hc
    simp only [ev] at hp
    exact tw_of (pe_ix (ix_gidx (T := T) h.facts.hW (hu1 h)) pe_tw pe_tw (noslice_ix h3)) ((snd_both a _ h1).1 R Sr (hp.seq fun x S1 m1 H1 e1 R1 hp v1 r1 => (snd_both i _ h2).1 R1 (Sr.ext e1) (hp.seq fun y S2 m2 H2 e2 R2 hp v2 r2 => ⟨m2, S2, x, y, _, r1.ext e2, r2, R2, hp⟩)))
  | .slice a lo hi, e, hc => by
    refine pl_both rfl hc (fun {m S σd σ H Q} R Sr hp => ?_)
    simp only [chkE] at hc
    split at hc <;> try (cases hc; done)
    rename_i x l u p2 p
    simp only [Bool.and_eq_true] at hc
    obtain ⟨⟨h1, h2⟩, h3⟩ := hc
    simp only [ev] at hp
    obtain ⟨t1, po1, k1⟩ := snd_po lo l h2
    obtain ⟨t2, po2, k2⟩ := snd_po hi u h3
    refine tw_of (pe_slice (sl_gslice (T := T)) pe_tw po1 po2) ((snd_both a _ h1).1 R Sr (hp.seq fun x S1 m1 H1 e1 R1 hp v1 r1 => ?_))
    refine k1 R1 (Sr.ext e1) (hp.seq fun o S2 m2 H2 e2 R2 hp => k2 R2 ((Sr.ext e1).ext e2) (hp.seq fun o' S3 m3 H3 e3 R3 hp => ?_))
    exact ⟨m3, S3, x, _, (r1.ext e2).ext e3, R3, hp⟩
  | .fld o f, e, hc => by
    refine pl_both rfl hc (fun {m S σd σ H Q} R Sr hp => ?_)
    simp only [chkE] at hc
    split at hc <;> try (cases hc; done)
    simp only [Bool.and_eq_true, decide_eq_true_eq] at hc
    obtain ⟨⟨rfl, h1⟩, h2⟩ := hc
    simp only [ev] at hp
    refine tw_of (pe_fld pe_tw (base_of h1)) ((snd_both o _ h2).1 R Sr (hp.seq fun x S1 m1 H1 e1 R1 hp v1 r1 => ?_))
    cases x <;> simp only [gfld] at hp <;> try (exact hp.elim)
    split at hp
    · rename_i c fs ec
      split at hp
      · rename_i hf
        split at hp
        · rename_i d ed
          obtain ⟨a, h4, rfl, dx, fs', h5, h6⟩ := R1.at_ r1 ec
          unfold hasF at hf
          split at hf
          · rename_i k ek
            obtain ⟨cl, _, _, _, na⟩ := h.facts.cls c k ek
            obtain ⟨v, h7, h8⟩ := (h6.get h.facts.hW).1 d ed
            exact ⟨a, _, dx, fs', v, rfl, h5, cl, na f (by simpa using hf), h7, okV.now hp R1 h8⟩
          · cases hf
        · exact hp.elim
      · exact hp.elim
    · exact hp.elim
  | .isi a t, e, hc => by
    refine pl_both rfl hc (fun {m S σd σ H Q} R Sr hp => ?_)
    simp only [chkE] at hc
    split at hc <;> try (cases hc; done)
    simp only [Bool.and_eq_true, decide_eq_true_eq] at hc
    obtain ⟨⟨⟨⟨⟨⟨⟨rfl, rfl⟩, f1⟩, f2⟩, g1⟩, g2⟩, ns⟩, h1⟩ := hc
    obtain ⟨G1, D1⟩ := gl_gl h g1
    obtain ⟨G2, D2⟩ := gl_gl h g2
    obtain ⟨b1, b2, _⟩ := ty_boot t
    simp only [ev] at hp
    refine tw_of (pe_callB call_isi G1 (free_of h f1) (by decide +kernel) (pa_cons pe_tw (pa_cons (pe_bltn (v := .ty (tyP t)) G2 (free_of h f2) b1 rfl b2 D2) pa_nil) (star_cons ns)) (by decide +kernel) D1 (star_cons ns)) ?_
    refine (snd_both a _ h1).1 R Sr (hp.seq fun x S1 m1 H1 e1 R1 hp v1 r1 => ?_)
    cases ei : isTy S1 t x with
    | none => rw [ei] at hp; exact hp.elim
    | some k =>
      rw [ei] at hp
      obtain ⟨u, h2, h3⟩ := isTy_v (K := X.K) R1 r1 ei
      exact ⟨v1, _, u, _, k, rfl, .ty _, h2, h3, okV.bl hp R1⟩
  | .call f es, e, hc => by
    refine pl_both rfl hc (fun {m S σd σ H Q} R Sr hp => ?_)
    simp only [chkE] at hc
    split at hc <;> try (cases hc; done)
    simp only [Bool.and_eq_true, decide_eq_true_eq] at hc
    obtain ⟨⟨⟨⟨hf, ha⟩, hg⟩, hk⟩, he⟩ := hc
    obtain ⟨G1, D1⟩ := gl_gl h hg
    obtain ⟨n, hr, C⟩ := h.call
    have q := h.facts.fn_ f hf (by rw [ha])
    rw [ha] at q
    simp only [ev] at hp
    exact tw_call G1 D1 q.1 q.2 tk (okA hk) (snd_evs es _ (okA hk) he R Sr (hp.seq fun xs S1 m1 H1 e1 R1 hp vs r1 => app_goes hr C hp r1 R1))
  | .new c es, e, hc => by
    refine pl_both rfl hc (fun {m S σd σ H Q} R Sr hp => ?_)
    simp only [chkE] at hc
    split at hc <;> try (cases hc; done)
    simp only [Bool.and_eq_true, decide_eq_true_eq] at hc
    obtain ⟨⟨⟨⟨hsome, rfl⟩, hg⟩, hk⟩, he⟩ := hc
    obtain ⟨G1, D1⟩ := gl_gl h hg
    obtain ⟨n, hr, C⟩ := h.make
    obtain ⟨k, ek⟩ := Option.isSome_iff_exists.mp hsome
    simp only [ev, ek] at hp
    obtain ⟨cl, hm, M, _, _⟩ := h.facts.cls c k ek
    refine tw_new M G1 D1 hm (okA hk) (snd_evs es _ (okA hk) he R Sr (hp.seq fun xs S1 m1 H1 e1 R1 hp vs r1 => ?_))
    unfold app filled at hp
    cases ed : T.P.defs[k.init]? with
    | none => rw [ed] at hp; exact hp.elim
    | some d =>
      rw [ed] at hp
      simp only at hp
      split at hp
      · rename_i full ef
        split at ef
        · rename_i hc
          cases ef
          obtain ⟨hl, fd, dv, h1, h2, F⟩ := C.ok k.init d ed
          obtain ⟨ds, h3, h4⟩ := h2 ((Dat.loc S1.length :: xs).length + d.dfl.length - d.np) (by omega)
          refine ⟨n, fd, _, _, _, ds, F, hr, h3, h4, fun y dx hy hdx hne => ?_⟩
          have hy' : upd H1 dx (.own y) y = none := by rw [upd_ne (Ne.symm hne)]; exact hy
          have x1 : Ext m1 H1 m1 (upd H1 dx (.own y)) := Ext.laid hdx
          have R2 := (R1.laid hdx (o := .own y)).new hy' (c := .ins c []) (o := .ins ((T.ca X.K).at_ c) dx []) ⟨dx, [], upd_same, trivial⟩
          have x2 : Ext m1 (upd H1 dx (.own y)) (m1 ++ [y]) _ := Ext.new (o := .ins ((T.ca X.K).at_ c) dx []) hy'
          have r3 := (RepL.cons (Rep.loc_new (W := T.W) (o := .ins ((T.ca X.K).at_ c) dx []) (p := y) (H := upd H1 dx (.own y)) R1.len) (r1.ext (x1.trans x2))).append ((h1 (m1 ++ [y]) (upd (upd H1 dx (.own y)) y (.ins ((T.ca X.K).at_ c) dx []))).drop ((Dat.loc S1.length :: xs).length + d.dfl.length - d.np))
          refine ⟨?_, m1 ++ [y], _, _, r3, R2, ?_⟩
          · rw [hl]
            refine Eq.trans r3.length ?_
            rw [List.length_append, List.length_drop]
            omega
          · refine Post.unnox ((hp.mono (x1.trans x2)).seq fun z S3 m3 H3 e3 R3 hp v r4 => ?_)
            split at hp
            · refine ⟨r4.non_inv, ?_⟩
              exact okV.now hp R3 ((Rep.loc_new (W := T.W) (o := .ins ((T.ca X.K).at_ c) dx []) (p := y) (H := upd H1 dx (.own y)) R1.len).ext e3)
            · exact hp.elim
        · cases ef
      · exact hp.elim
  | .meth o mm es, e, hc => by
    refine pl_both rfl hc (fun {m S σd σ H Q} R Sr hp => ?_)
    simp only [chkE] at hc
    split at hc <;> try (cases hc; done)
    simp only [Bool.and_eq_true, decide_eq_true_eq] at hc
    obtain ⟨⟨⟨⟨⟨rfl, h0⟩, hl⟩, hk⟩, h1⟩, h2⟩ := hc
    obtain ⟨n, hr, C⟩ := h.call
    simp only [ev] at hp
    refine tw_meth h0 hl hk tk ((snd_both o _ h1).1 R Sr (hp.seq fun x S1 m1 H1 e1 R1 hp v1 r1 => ?_))
    cases er : recv T.P x mm S1 with
    | none => rw [er] at hp; exact hp.elim
    | some f =>
      rw [er] at hp
      obtain ⟨Ca, a, dx, fs, cl, me, ev1, ea, l⟩ := recv_ok h.facts er R1 r1
      refine ⟨_, Ca, a, dx, fs, cl, me, ev1, ea, l, snd_evs es _ (okA hk) h2 R1 (Sr.ext e1) (hp.seq fun xs S2 m2 H2 e2 R2 hp vs r2 => ?_)⟩
      exact app_goes hr C hp (RepL.cons (r1.ext e2) r2) R2
  | .bi b es, e, hc => by
    refine pl_both rfl hc (fun {m S σd σ H Q} R Sr hp => ?_)
    simp only [chkE] at hc
    split at hc <;> try (cases hc; done)
    rename_i x p as pos
    simp only [Bool.and_eq_true, decide_eq_true_eq] at hc
    obtain ⟨⟨⟨⟨⟨rfl, hf⟩, hg⟩, hk⟩, hl⟩, he⟩ := hc
    obtain ⟨G1, D1⟩ := gl_gl h hg
    obtain ⟨b1, b2⟩ := bi_boot b
    simp only [ev] at hp
    cases as with
    | nil => cases b <;> simp [biA] at hl
    | cons a as =>
      have ns := okA hk
      have q := snd_evs es _ ns he R Sr (hp.seq (ok' := okL T (fun vs H' => rCl T X.K (bcall b) vs H' Q)) fun xs S1 m1 H1 e1 R1 hp vs r1 => ⟨m1, S1, xs, _, r1, R1, hp⟩)
      simp only [List.all_cons, Bool.and_eq_true] at ns
      have cr := cr_bcall (T := T) h.calm b
      cases b <;> first
        | exact tw_of (pe_callB cr G1 (free_of h hf) b1 pa_ta b2 D1 (star_cons ns.1) (star_plain ns.2)) q
        | exact tw_of (pe_callTy cr G1 (free_of h hf) b1 pa_ta b2 D1 (star_cons ns.1) (star_plain ns.2)) q
  | .bm b o es, e, hc => by
    refine pl_both rfl hc (fun {m S σd σ H Q} R Sr hp => ?_)
    simp only [chkE] at hc
    split at hc <;> try (cases hc; done)
    simp only [Bool.and_eq_true, decide_eq_true_eq] at hc
    obtain ⟨⟨⟨⟨⟨⟨rfl, h0⟩, hl⟩, hk⟩, _⟩, h1⟩, h2⟩ := hc
    simp only [ev] at hp
    refine tw_bm h0 hl hk ((snd_both o _ h1).1 R Sr (hp.seq fun x S1 m1 H1 e1 R1 hp v1 r1 => ?_))
    split at hp
    · rename_i hb
      obtain ⟨b1, b2, b3⟩ := bm_slot b
      exact ⟨bmT b, bmI b, rBm T X.K b, b1, b2, b3, brecv_ok hb R1 r1, mt_bm h.facts.hW (hu1 h) b, snd_evs es _ (okA hk) h2 R1 (Sr.ext e1) (hp.seq fun xs S2 m2 H2 e2 R2 hp vs r2 => ⟨m2, S2, x, xs, _, r1.ext e2, r2, R2, hp⟩)⟩
    · exact hp.elim
theorem snd_po : ∀ (lo : Exs) (l : Option Expr) (hl : chkEs T sc N lo (optL l) = true), ∃ t, PO X l t ∧ ∀ {m : List Addr} {S : Store} {σd : Slots} {σ : L2.St} {H : Hp} {Q : Option Int → Hp → Prop}, HRel T.W m H (T.ca X.K) S → SRel T.W m H σd σ →
        Post T X.K ((evs T.P fn mk lo σd S).bind part) m H (fun o _ _ H' => Q o H') (XX T X Wx σ) → t σ H Q
  | .nil, l, hl => by
    cases l with
    | some _ => simp [optL, chkEs] at hl
    | none =>
      refine ⟨_, po_none, fun {m S σd σ H Q} R Sr hp => ?_⟩
      have hp : Post T X.K (Re.ok none S) m H (fun o _ _ H' => Q o H') (XX T X Wx σ) := by
        simpa only [evs, Re.bind, PyI.part] using hp
      exact hp m H Ext.refl R
  | .cons E .nil, l, hl => by
    cases l with
    | none => simp [optL, chkEs] at hl
    | some y =>
      simp only [optL, chkEs, Bool.and_true] at hl
      refine ⟨_, po_some pe_tw, fun {m S σd σ H Q} R Sr hp => ?_⟩
      simp only [evs] at hp
      rw [bind_assoc'] at hp
      refine (snd_both E _ hl).1 R Sr (hp.seq fun d S1 m1 H1 e1 R1 hp v r => ?_)
      have hp : Post T X.K (part [d] S1) m1 H1 (fun o _ _ H' => Q o H') (XX T X Wx σ) := hp
      cases d <;> try (exact hp.elim)
      exact ⟨_, r.int_inv, hp m1 H1 Ext.refl R1⟩
  | .cons E (.cons _ _), l, hl => by
    cases l <;> simp [optL, chkEs] at hl
theorem snd_evs : ∀ (E : Exs) (es : List Expr) (ns : es.all noStar = true) (hc : chkEs T sc N E es = true) {m : List Addr} {S : Store} {σd : Slots} {σ : L2.St} {H : Hp} {Q : List V → Hp → Prop}, HRel T.W m H (T.ca X.K) S → SRel T.W m H σd σ → Post T X.K (evs T.P fn mk E σd S) m H (okL T Q) (XX T X Wx σ) → ta X es σ H Q
  | .nil, es, ns, hc, m, S, σd, σ, H, Q, R, Sr, hp => by
    cases es with
    | nil =>
      simp only [evs] at hp
      exact hp m H Ext.refl R [] RepL.nil
    | cons _ _ => simp [chkEs] at hc
  | .cons E Es, es, ns, hc, m, S, σd, σ, H, Q, R, Sr, hp => by
    cases es with
    | nil => simp [chkEs] at hc
    | cons e es =>
      simp only [chkEs, Bool.and_eq_true] at hc
      simp only [List.all_cons, Bool.and_eq_true] at ns
      simp only [evs] at hp
      refine ta_of (pa_cons pe_tw pa_ta (star_cons ns.1)) ((snd_both E _ hc.1).1 R Sr (hp.seq fun x S1 m1 H1 e1 R1 hp v1 r1 => snd_evs Es _ ns.2 hc.2 R1 (Sr.ext e1) (hp.seq fun xs S2 m2 H2 e2 R2 hp vs r2 => ?_)))
      exact hp m2 H2 Ext.refl R2 _ (RepL.cons (r1.ext e2) r2)
end
end
end PyS

/-! S7: statements: the look, and that their meaning is what they do. -/
namespace PyS
open PySem PySem.Spec PyProof.Rows L2 PyI

/-- what is wanted of a statement's outcome -/
def PostS (T : Stat) (K : PySem.W.Frag) (Wx : WX) (r : SR) (m : List Addr) (H : Hp) (D : Ends) : Prop := match r with
  | .nx σd S => ∀ m' H' σ, Ext m H m' H' → HRel T.W m' H' (T.ca K) S → SRel T.W m' H' σd σ → D.nx σ H'
  | .rt d S => ∀ m' H' v, Ext m H m' H' → HRel T.W m' H' (T.ca K) S → Rep T.W m' H' d v → D.rt v H'
  | .bk σd S => ∀ m' H' σ, Ext m H m' H' → HRel T.W m' H' (T.ca K) S → SRel T.W m' H' σd σ → D.bk σ H'
  | .ct σd S => ∀ m' H' σ, Ext m H m' H' → HRel T.W m' H' (T.ca K) S → SRel T.W m' H' σd σ → D.ct σ H'
  | .exc c σd S => ∀ m' H' σ, Ext m H m' H' → HRel T.W m' H' (T.ca K) S → SRel T.W m' H' σd σ → Wx (.ref (T.xa K c)) none σ H'
  | .bad => False
section
variable {T : Stat} {K : PySem.W.Frag} {Wx : WX} {r : SR} {m m1 : List Addr} {H H1 : Hp} {D D' : Ends} {α : Type} {σd : Slots} {σ : L2.St}
theorem PostS.mono (h : PostS T K Wx r m H D) (e : Ext m H m1 H1) : PostS T K Wx r m1 H1 D := by
  cases r with
  | nx σd S => exact fun m' H' σ e' R Sr => h m' H' σ (e.trans e') R Sr
  | rt d S => exact fun m' H' v e' R Sr => h m' H' v (e.trans e') R Sr
  | bk σd S => exact fun m' H' σ e' R Sr => h m' H' σ (e.trans e') R Sr
  | ct σd S => exact fun m' H' σ e' R Sr => h m' H' σ (e.trans e') R Sr
  | exc c σd S => exact fun m' H' σ e' R Sr => h m' H' σ (e.trans e') R Sr
  | bad => exact h
/-- an expression ahead -/
theorem PostS.go {X : Cx} {r : Re α} {f : α → Store → SR} {ok' : α → Store → List Addr → Hp → Prop} (h : PostS T X.K Wx (r.go σd f) m H D) (Sr : SRel T.W m H σd σ)
    (k : ∀ a S1 m1 H1, Ext m H m1 H1 → HRel T.W m1 H1 (T.ca X.K) S1 → PostS T X.K Wx (f a S1) m1 H1 D → ok' a S1 m1 H1) : Post T X.K r m H ok' (XX T X Wx σ) := by
  cases r with
  | ok a S =>
    have h : PostS T X.K Wx (f a S) m H D := h
    exact fun m' H' e' R => k a S m' H' e' R (h.mono e')
  | exc c S => exact fun m' H' e' R => h m' H' σ e' R (Sr.ext e')
  | bad => exact h
end
section
variable {X : Cx}
def tws (X : Cx) (st : Stmt) : TS := fun D σ H => ∀ pins s, Inv X pins σ H s → wpAny (model X.prog X.w) X.A (exec st X.env) (SP X pins D) X.xe s
def twss (X : Cx) (st : List Stmt) : TS := fun D σ H => ∀ pins s, Inv X pins σ H s → wpAny (model X.prog X.w) X.A (execs st X.env) (SP X pins D) X.xe s
theorem ps_tw {st : Stmt} : PS X st (tws X st) := ⟨fun pins s σ H D I h => h pins s I⟩
theorem pss_tw {st : List Stmt} : PSs X st (twss X st) := ⟨fun pins s σ H D I h => h pins s I⟩
theorem tws_of {st : Stmt} {t : TS} {D : Ends} {σ : L2.St} {H : Hp} (h : PS X st t) (q : t D σ H) : tws X st D σ H := fun pins s I => h.run pins s σ H D I q
theorem twss_of {st : List Stmt} {t : TS} {D : Ends} {σ : L2.St} {H : Hp} (h : PSs X st t) (q : t D σ H) : twss X st D σ H := fun pins s I => h.run pins s σ H D I q
end

/-! ### walks -/
structure WalkOk (T : Stat) (K : PySem.W.Frag) (J : L2.It) (items : List Dat) (g : Option (Nat × List Dat)) (m0 : List Addr) (H0 : Hp) : Prop where
  turn : ∀ i d m S H, items[i]? = some d → Ext m0 H0 m H → HRel T.W m H (T.ca K) S → still g S = true → J.go i H ∧ ∀ x H', J.yld i H x H' → Ext m H m H' ∧ HRel T.W m H' (T.ca K) S ∧ Rep T.W m H' d x
  stop : ∀ m S H, Ext m0 H0 m H → HRel T.W m H (T.ca K) S → still g S = true → J.stop items.length H
section
variable {T : Stat} {K : PySem.W.Frag} {m : List Addr} {H : Hp}
theorem walk_tup {a : Addr} {vs : List V} {ds : List Dat} (e : H a = some (.tup vs)) (r : RepL T.W m H ds vs) : WalkOk T K (Itt K a) ds none m H where
  turn := fun i d m1 S H1 hi ex R _ => by
    obtain ⟨v, hv, rv⟩ := r.get hi
    have e1 := ex.tup a vs e
    refine ⟨⟨vs, v, SqT.of e1, hv⟩, fun x H' y => ?_⟩
    obtain ⟨rfl, y⟩ := y
    have q := y vs (SqT.of e1)
    rw [hv] at q; cases q
    exact ⟨Ext.refl, R, rv.ext ex⟩
  stop := fun m1 S H1 ex R _ => ⟨vs, SqT.of (ex.tup a vs e), by rw [r.length]; exact Nat.le_refl _⟩
theorem walk_lst {l : Nat} {a : Addr} {ds : List Dat} (hl : m[l]? = some a) : WalkOk T K (Itl K a) ds (some (l, ds)) m H := by
  have key : ∀ m1 S H1, Ext m H m1 H1 → HRel T.W m1 H1 (T.ca K) S → still (some (l, ds)) S = true → ∃ vs, SqL K H1 a vs ∧ RepL T.W m1 H1 ds vs := by
    intro m1 S H1 ex R st
    simp only [still, stillL] at st
    split at st
    · rename_i ys es
      have := Dat.sameL_eq st; subst this
      obtain ⟨b, h1, vs, h2, h3⟩ := R.cel l _ es
      rw [ex.pre l a hl] at h1; cases h1
      exact ⟨vs, SqL.of h2, h3⟩
    · rename_i ys es
      have := Dat.sameL_eq st; subst this
      obtain ⟨b, h1, vs, h2, h3⟩ := R.cel l _ es
      rw [ex.pre l a hl] at h1; cases h1
      exact ⟨vs, h2.sql, h3⟩
    · cases st
  refine ⟨fun i d m1 S H1 hi ex R st => ?_, fun m1 S H1 ex R st => ?_⟩
  · obtain ⟨vs, h1, h3⟩ := key m1 S H1 ex R st
    obtain ⟨v, hv, rv⟩ := h3.get hi
    refine ⟨⟨vs, v, h1, hv⟩, fun x H' y => ?_⟩
    obtain ⟨rfl, y⟩ := y
    have q := y vs h1
    rw [hv] at q; cases q
    exact ⟨Ext.refl, R, rv⟩
  · obtain ⟨vs, h1, h3⟩ := key m1 S H1 ex R st
    exact ⟨vs, h1, by rw [h3.length]; exact Nat.le_refl _⟩
theorem walk_rng {lo : Int} {n : Nat} : WalkOk T K (Itr lo n) ((List.range n).map fun k => .int (lo + (k : Nat))) none m H where
  turn := fun i d m1 S H1 hi ex R _ => by
    rw [List.getElem?_map] at hi
    cases q : (List.range n)[i]? with
    | none => rw [q] at hi; cases hi
    | some k =>
      rw [q] at hi
      cases hi
      obtain ⟨h1, h2⟩ := List.getElem?_eq_some_iff.mp q
      rw [List.getElem_range] at h2
      subst h2
      rw [List.length_range] at h1
      refine ⟨h1, fun x H' y => ?_⟩
      obtain ⟨rfl, rfl⟩ := y
      exact ⟨Ext.refl, R, Rep.int⟩
  stop := fun m1 S H1 ex R _ => by
    rw [List.length_map, List.length_range]
    exact Nat.le_refl _
end

section
variable {X : Cx} {pins : List (Addr × Obj)} {σ : L2.St} {H : Hp} {s : Shared} {tg : Expr} {a : Addr} {vs : List V} {R : L2.It → Hp → Prop} {E : Value → Shared → Prop}
theorem iter_lst (I : Inv X pins σ H s) (h : SqL X.K H a vs) (q : R (Itl X.K a) H) : wpAny (model X.prog X.w) X.A (pyIter (.ref a)) (PIE X pins σ tg R) E s := by
  obtain ⟨its, _, pl, _⟩ := I.list h
  have hfr := I.hok.fresh (Nat.le_refl _)
  refine wpAny_pyIter_list pl.isList ⟨_, [_], _, _, _, rfl, ?_, turn_list a _, ⟨_, Heap.get?_push_size _ rfl, rfl, rfl⟩, ?_, q⟩
  · exact I.kept (t' := s.toks) fun _ _ e => Heap.get?_push_of_some _ e
  · intro b hb
    rw [List.mem_singleton] at hb
    rw [hb]
    exact I.fpOk (Nat.le_refl _) hfr
theorem iter_tup (I : Inv X pins σ H s) (h : SqT X.K H a vs) (q : R (Itt X.K a) H) : wpAny (model X.prog X.w) X.A (pyIter (.ref a)) (PIE X pins σ tg R) E s := by
  obtain ⟨its, _, pl, _⟩ := I.tuple h
  have hfr := I.hok.fresh (Nat.le_refl _)
  have hT : s.heap.IsTuple a its.toArray := pl
  refine wpAny_pyIter_tuple hT ⟨_, [_], _, _, _, rfl, ?_, turn_tuple a _, ⟨_, Heap.get?_push_size _ rfl, rfl, rfl⟩, ?_, q⟩
  · exact I.kept (t' := s.toks) fun _ _ e => Heap.get?_push_of_some _ e
  · intro b hb
    rw [List.mem_singleton] at hb
    rw [hb]
    exact I.fpOk (Nat.le_refl _) hfr
end
/-- an expression that is a list or a tuple, walked -/
def wSeq (X : Cx) (e : Expr) : TI := fun σ H R => tw X e σ H fun x H1 => ∃ a vs, x = .ref a ∧ ((SqL X.K H1 a vs ∧ R (Itl X.K a) H1) ∨ (SqT X.K H1 a vs ∧ R (Itt X.K a) H1))
theorem pi_seq {X : Cx} {tg e : Expr} : PI X tg e (wSeq X e) := ⟨fun pins s σ H R I h => thn (h pins s I) fun u s1 ⟨x, H1, I1, r1, a, vs, ex, q⟩ => by
  subst ex
  obtain rfl : u = Value.ref a := r1
  rcases q with ⟨h1, h2⟩ | ⟨h1, h2⟩
  · exact iter_lst I1 h1 h2
  · exact iter_tup I1 h1 h2⟩

/-! ### the look -/
def notSet : Expr → Bool
  | .Set _ _ _ => false
  | _ => true
def notComp : Expr → Bool
  | .ListComp _ _ _ _ => false
  | .SetComp _ _ _ _ => false
  | .DictComp _ _ _ _ _ => false
  | _ => true
def notTup : Expr → Bool
  | .Tuple _ _ _ => false
  | _ => true
def locB (sc : Scope) (x : Str) : Bool := match sc.names.lookup x with
  | some .local => true
  | some .cell => true
  | _ => false
section
variable (T : Stat) (sc : Scope) (N : List Str)
def chkW (w : Wk) (e : Expr) : Bool := match w with
  | .seq E => chkE T sc N E e && notSet e
  | .rng1 E => (match e with
    | .Call (.Name x _) [a] [] _ => decide (x = ("range" : Str)) && T.fr.contains ("range" : Str) && gl sc x && noStar a && chkE T sc N E a
    | _ => false)
  | .rng2 E F => (match e with
    | .Call (.Name x _) [a, b] [] _ => decide (x = ("range" : Str)) && T.fr.contains ("range" : Str) && gl sc x && noStar a && noStar b && chkE T sc N E a && chkE T sc N F b
    | _ => false)
variable (loc : Str → Bool)
def chkNs : List Nat → List Expr → Bool
  | [], [] => true
  | i :: is, .Name x _ :: xs => decide (N[i]? = some x) && loc x && chkNs is xs
  | _, _ => false
def chkTn : List PyI.Tn → List Expr → Bool
  | [], [] => true
  | .one i :: is, .Name x _ :: xs => decide (N[i]? = some x) && loc x && chkTn is xs
  | .many js :: is, .Tuple ys _ _ :: xs => chkNs N loc js ys && chkTn is xs
  | _, _ => false
/-- a target that stores names alone -/
def chkT (t : PyI.Tg) (e : Expr) : Bool := match t with
  | .name i => (match e with
    | .Name x _ => decide (N[i]? = some x) && loc x
    | _ => false)
  | .tup is => (match e with
    | .Tuple xs _ _ => chkTn N loc is xs
    | _ => false)
  | _ => false
end

theorem each_cons {e : Expr} {es : List Expr} {env : Env} (hn : noStar e = true) : (assignEach (e :: es) env).map (·.2) = assign e env :: (assignEach es env).map (·.2) := by
  cases e <;> first | rfl | cases hn
theorem each_len : ∀ {es : List Expr} {env : Env}, es.all noStar = true → (assignEach es env).length = es.length ∧ (assignEach es env).findIdx? (·.1) = none
  | [], env, _ => ⟨rfl, rfl⟩
  | e :: es, env, hn => by
    simp only [List.all_cons, Bool.and_eq_true] at hn
    have ih := each_len (es := es) (env := env) hn.2
    have hc : assignEach (e :: es) env = (false, assign e env) :: assignEach es env := by
      have h1 := hn.1
      cases e <;> first | rfl | cases h1
    rw [hc]
    refine ⟨by rw [List.length_cons, List.length_cons, ih.1], ?_⟩
    rw [List.findIdx?_cons]
    simp [ih.2]
theorem all_len : ∀ (is : List PyI.Tn) (ds : List Dat) (σ σ' : Slots), setAll is ds σ = some σ' → ds.length = is.length := by
  intro is
  induction is with
  | nil => intro ds σ σ' e; cases ds <;> simp [setAll] at e ⊢
  | cons i is ih =>
    intro ds σ σ' e
    cases ds with
    | nil => cases i <;> simp [setAll] at e
    | cons d ds =>
      cases i with
      | one i => simp only [setAll] at e; simp [ih ds _ _ e]
      | many js =>
        cases d <;> simp only [setAll] at e <;> try (cases e; done)
        split at e
        · simp [ih ds _ _ e]
        · cases e
/-! ### what targets do -/
section
variable {T : Stat} {fn mk : Fn} {X : Cx} {sc : Scope} {N : List Str} {Wx : WX} {loc : Str → Bool}
variable (h : XOk T fn mk X sc N) (hloc : ∀ x, loc x = true → Loc X.env.scope x ∧ (X.fn x = true ∨ X.env.scope.names.lookup x = some .local))
include h hloc
theorem pg_one {i : Nat} {x : Str} {p : Pos} (hi : N[i]? = some x) (hx : loc x = true) : PG X (.Name x p) (gName i) :=
  pg_name (by rw [h.hN]; exact h.nd) (by rw [h.hN]; exact hi) (hloc x hx).1 (hloc x hx).2
theorem snd_ns : ∀ (is : List Nat) (es : List Expr), chkNs N loc is es = true → es.all noStar = true ∧ is.length = es.length ∧ ∃ t, PGs X es t ∧ ∀ {m : List Addr} {H : Hp} {ds : List Dat} {vs : List V} {σd σd' : Slots} {σ : L2.St} {Q : L2.St → Hp → Prop}, SRel T.W m H σd σ → RepL T.W m H ds vs → setNs is ds σd = some σd' → (∀ σ', SRel T.W m H σd' σ' → Q σ' H) → t vs σ H Q
  | [], [], _ => ⟨rfl, rfl, _, pgs_nil, fun {m H ds vs σd σd' σ Q} Sr r e q => by
    cases ds with
    | nil =>
      simp only [setNs] at e
      cases e
      simp only [RepL] at r
      exact ⟨r, q σ Sr⟩
    | cons _ _ => simp [setNs] at e⟩
  | [], _ :: _, hc => by simp [chkNs] at hc
  | _ :: _, [], hc => by simp [chkNs] at hc
  | i :: is, e :: es, hc => by
    obtain ⟨x, p, rfl⟩ : ∃ x p, e = .Name x p := by
      cases e with
      | Name x p => exact ⟨x, p, rfl⟩
      | _ => simp [chkNs] at hc
    simp only [chkNs, Bool.and_eq_true, decide_eq_true_eq] at hc
    obtain ⟨h1, h2, t, pt, k⟩ := snd_ns is es hc.2
    refine ⟨by simp [noStar, h1], by simp [h2], _, pgs_cons (pg_one h hloc hc.1.1 hc.1.2) pt (each_cons rfl), fun {m H ds vs σd σd' σ Q} Sr r e q => ?_⟩
    cases ds with
    | nil => simp [setNs] at e
    | cons d ds =>
      simp only [RepL] at r
      obtain ⟨v, vr, rfl, r1, r2⟩ := r
      simp only [setNs] at e
      exact ⟨v, vr, rfl, k (Sr.set r1 i) r2 e q⟩

theorem snd_tn : ∀ (is : List PyI.Tn) (es : List Expr), chkTn N loc is es = true → es.all noStar = true ∧ is.length = es.length ∧ ∃ t, PGs X es t ∧ ∀ {m : List Addr} {H : Hp} {ds : List Dat} {vs : List V} {σd σd' : Slots} {σ : L2.St} {Q : L2.St → Hp → Prop}, SRel T.W m H σd σ → RepL T.W m H ds vs → setAll is ds σd = some σd' → (∀ σ', SRel T.W m H σd' σ' → Q σ' H) → t vs σ H Q
  | [], [], _ => ⟨rfl, rfl, _, pgs_nil, fun {m H ds vs σd σd' σ Q} Sr r e q => by
    cases ds with
    | nil =>
      simp only [setAll] at e
      cases e
      simp only [RepL] at r
      exact ⟨r, q σ Sr⟩
    | cons _ _ => simp [setAll] at e⟩
  | [], _ :: _, hc => by simp [chkTn] at hc
  | _ :: _, [], hc => by simp [chkTn] at hc
  | .one i :: is, e :: es, hc => by
    obtain ⟨x, p, rfl⟩ : ∃ x p, e = .Name x p := by
      cases e with
      | Name x p => exact ⟨x, p, rfl⟩
      | _ => simp [chkTn] at hc
    simp only [chkTn, Bool.and_eq_true, decide_eq_true_eq] at hc
    obtain ⟨h1, h2, t, pt, k⟩ := snd_tn is es hc.2
    refine ⟨by simp [noStar, h1], by simp [h2], _, pgs_cons (pg_one h hloc hc.1.1 hc.1.2) pt (each_cons rfl), fun {m H ds vs σd σd' σ Q} Sr r e q => ?_⟩
    cases ds with
    | nil => simp [setAll] at e
    | cons d ds =>
      simp only [RepL] at r
      obtain ⟨v, vr, rfl, r1, r2⟩ := r
      simp only [setAll] at e
      exact ⟨v, vr, rfl, k (Sr.set r1 i) r2 e q⟩
  | .many js :: is, e :: es, hc => by
    obtain ⟨ys, kk, p, rfl⟩ : ∃ ys kk p, e = .Tuple ys kk p := by
      cases e with
      | Tuple ys kk p => exact ⟨ys, kk, p, rfl⟩
      | _ => simp [chkTn] at hc
    simp only [chkTn, Bool.and_eq_true] at hc
    obtain ⟨h1, h2, t, pt, k⟩ := snd_tn is es hc.2
    obtain ⟨g1, g2, u, pu, ku⟩ := snd_ns h hloc js ys hc.1
    have gl := each_len (env := X.env) g1
    refine ⟨by simp [noStar, h1], by simp [h2], _, pgs_cons (pg_tup h.calm pu gl.1 gl.2) pt (each_cons rfl), fun {m H ds vs σd σd' σ Q} Sr r e q => ?_⟩
    cases ds with
    | nil => simp [setAll] at e
    | cons d ds =>
      simp only [RepL] at r
      obtain ⟨v, vr, rfl, r1, r2⟩ := r
      cases d with
      | tup es' =>
        simp only [setAll] at e
        split at e
        · rename_i σ1 eσ
          obtain ⟨a, xs, rfl, ea, rl⟩ := r1.tup_inv
          refine ⟨_, vr, rfl, a, xs, rfl, SqT.of ea, ?_, ku Sr rl eσ fun σ' Sr' => k Sr' r2 e q⟩
          have hl : ∀ (is : List Nat) (ds : List Dat) (σ σ' : Slots), setNs is ds σ = some σ' → ds.length = is.length := by
            intro is
            induction is with
            | nil => intro ds σ σ' e; cases ds <;> simp [setNs] at e ⊢
            | cons i is ih => intro ds σ σ' e; cases ds with
              | nil => simp [setNs] at e
              | cons d ds => simp only [setNs] at e; simp [ih ds _ _ e]
          rw [rl.length, hl _ _ _ _ eσ, g2]
        · cases e
      | _ => simp [setAll] at e
theorem snd_tg {t : PyI.Tg} {e : Expr} (hc : chkT N loc t e = true) : ∃ g, PG X e g ∧ ∀ {m : List Addr} {S : Store} {H : Hp} {d : Dat} {v : V} {σd : Slots} {σ : L2.St} {D : Ends}, HRel T.W m H (T.ca X.K) S → SRel T.W m H σd σ → Rep T.W m H d v → PostS T X.K Wx (asg T.P fn mk t d σd S) m H D → g v σ H D.nx := by
  cases t with
  | name i =>
    simp only [chkT] at hc
    split at hc <;> try (cases hc; done)
    simp only [Bool.and_eq_true, decide_eq_true_eq] at hc
    refine ⟨_, pg_one h hloc hc.1 hc.2, fun {m S H d v σd σ D} R Sr r hp => ?_⟩
    simp only [asg] at hp
    exact hp m H _ Ext.refl R (Sr.set r i)
  | tup is =>
    simp only [chkT] at hc
    split at hc <;> try (cases hc; done)
    obtain ⟨h1, h2, t, pt, k⟩ := snd_tn h hloc is _ hc
    have gl := each_len (env := X.env) h1
    refine ⟨_, pg_tup h.calm pt gl.1 gl.2, fun {m S H d v σd σ D} R Sr r hp => ?_⟩
    simp only [asg] at hp
    cases d with
    | tup ds =>
      simp only at hp
      split at hp
      · rename_i σ1 eσ
        obtain ⟨a, xs, rfl, ea, rl⟩ := r.tup_inv
        exact ⟨a, xs, rfl, SqT.of ea, by rw [rl.length, all_len _ _ _ _ eσ, h2], k Sr rl eσ fun σ' Sr' => hp m H σ' Ext.refl R Sr'⟩
      · exact hp.elim
    | _ => exact hp.elim
  | _ => simp [chkT] at hc
end
end PyS

/-! S8: the induction over statements. -/
namespace PyS
open PySem PySem.Spec PyProof.Rows L2 PyI

/-- two names stored from a row of two: the look -/
def parB (sc : Scope) (N : List Str) (i j : Nat) (xs vs : List Expr) : Bool := match xs, vs with
  | [.Name x p, .Name y q], [a, b] => decide (N[i]? = some x) && decide (N[j]? = some y) && decide (sc.names.lookup x = some .local) && decide (sc.names.lookup y = some .local) && !(x == y) && (q.line == p.line) && noStar a && noStar b &&
      !([a, b].all (foldedForSure 8)) && !([a, b].all (constantsAlone 8))
  | _, _ => false
theorem swap2 {env : Env} {x y : Str} {p q pt pt2 : Pos} {a b : Expr} {k k2 : Nat} (hk : env.scope.kind = .function) (hx : env.scope.names.lookup x = some .local) (hy : env.scope.names.lookup y = some .local) (hne : (x == y) = false) (hl : (q.line == p.line) = true) (na : noStar a = true) (nb : noStar b = true)
    (hf : ([a, b].all (foldedForSure 8)) = false) (hc : ([a, b].all (constantsAlone 8)) = false) : swappedStores [.Tuple [.Name x p, .Name y q] k pt] (.Tuple [a, b] k2 pt2) env = pure (some [x, y]) := by
  have hb : env.blockKind = .function := by
    unfold Env.blockKind
    rw [hk]
    rfl
  have kx : env.kindOf x = some .local := hx
  have ky : env.kindOf y = some .local := hy
  have hs : ([a, b].any fun e => match e with
      | .Starred _ _ => true
      | _ => false) = false := by
    cases a <;> cases b <;> first | rfl | (simp [noStar] at na; done) | (simp [noStar] at nb; done)
  have hyx : (y == x) = false := by
    rw [beq_eq_false_iff_ne] at hne ⊢
    exact fun z => hne z.symm
  unfold swappedStores
  simp only [hb, hs, kx, ky, hl, hf, hc, Expr.pos, List.head?, Option.map, Option.getD, List.filterMap_cons, List.filterMap_nil, beq_self_eq_true, Bool.and_self, if_true, List.length_cons, List.length_nil]
  simp [hyx, hne, List.eraseDups_cons]
  intro hq
  exfalso
  clear hs hf hc
  rcases hq with hq | hq
  · revert hq na
    cases a <;> simp [noStar]
  · revert hq nb
    cases b <;> simp [noStar]
section
variable (T : Stat) (sc : Scope) (N : List Str)
mutual
def chkS : Stm → Stmt → Bool
  | .expr E, s => (match s with
    | .Expr e _ => chkE T sc N E e && notComp e
    | _ => false)
  | .asg t E, s => (match s with
    | .Assign [tg] e _ => notComp e && (match t with
      | .name i => chkT N (locB sc) (.name i) tg && chkE T sc N E e
      | .tup is => (match tg with
        | .Tuple xs k q => (if notTup e then chkT N (locB sc) (.tup is) (.Tuple xs k q) && chkE T sc N E e else (match is, e, E with
          | [.one i, .one j], .Tuple vs _ _, .tup es => parB sc N i j xs vs && decide (i ≠ j) && chkEs T sc N es vs
          | _, _, _ => false))
        | _ => false)
      | .sub o i => (match tg with
        | .Subscript x y _ => chkE T sc N o x && chkE T sc N i y && noSlice y && chkE T sc N E e
        | _ => false)
      | .fld o f => (match tg with
        | .Attribute x n _ => decide (T.W f = n) && chkE T sc N o x && chkE T sc N E e
        | _ => false))
    | _ => false)
  | .aug i o E, s => (match s with
    | .AugAssign (.Name x _) op e _ => decide (N[i]? = some x) && locB sc x && decide (binP o = op) && chkE T sc N E e
    | _ => false)
  | .augF o f op E, s => (match s with
    | .AugAssign (.Attribute x n _) op' e _ => decide (T.W f = n) && decide (binP op = op') && chkE T sc N o x && chkE T sc N E e
    | _ => false)
  | .ite c a b, s => (match s with
    | .If t x y _ => okT c && chkE T sc N c t && chkSs a x && chkSs b y
    | _ => false)
  | .whl c b, s => (match s with
    | .While t x [] _ => okT c && chkE T sc N c t && chkSs b x
    | _ => false)
  | .for_ t w b, s => (match s with
    | .For tg it x [] _ => chkT N (locB sc) t tg && chkW T sc N w it && notSet it && chkSs b x
    | _ => false)
  | .ret E, s => (match s with
    | .Return (some e) _ => chkE T sc N E e
    | _ => false)
  | .retN, s => (match s with
    | .Return none _ => true
    | _ => false)
  | .brk, s => (match s with
    | .Break _ => true
    | _ => false)
  | .cont, s => (match s with
    | .Continue _ => true
    | _ => false)
  | .pass, s => (match s with
    | .Pass _ => true
    | _ => false)
def chkSs : Stms → List Stmt → Bool
  | .nil, [] => true
  | .cons a r, s :: ss => chkS a s && chkSs r ss
  | _, _ => false
end
end

section
variable {T : Stat} {fn mk : Fn} {X : Cx} {sc : Scope} {N : List Str} {Wx : WX}
theorem sw_no {e : Expr} {t : Option Expr} {l : Nat} {env : Env} (h : notComp e = true) : swapsWith e t l env = pure false := by
  cases e <;> first | rfl | (simp [notComp] at h; done)
theorem sws_no {e t : Expr} {l : Nat} {env : Env} (h : notComp e = true) : swapsWithSole [t] e l env = pure false := sw_no h
theorem set_no {e : Expr} {env : Env} (h : notSet e = true) (x : Value) : foldedSetIterable e env x = pure x := by
  cases e <;> first | rfl | (simp [notSet] at h; done)
/-- o[i] = v -/
def rSet (T : Stat) (K : PySem.W.Frag) : TSet := fun o i v H Q => ∃ m S od id d xx, Rep T.W m H od o ∧ Rep T.W m H id i ∧ Rep T.W m H d v ∧ HRel T.W m H (T.ca K) S ∧ Post T K (stidx od id d S) m H (fun _ _ _ H' => Q H') xx
theorem set_stidx (hW : ∀ i j, T.W i = T.W j → i = j) (hu : X.A.units + 65 < cLine) : PSet X (rSet T X.K) := by
  intro pins s σ H o i v ov iv u Q I ro ri rv ⟨m, S, od, id, d, xx, qo, qi, qd, R, hp⟩
  cases od <;> simp only [stidx] at hp <;> try (exact hp.elim)
  rename_i l
  split at hp
  · rename_i xs e1
    split at hp
    · rename_i k
      split at hp
      · rename_i j ej
        obtain ⟨a, vs, hl, rfl, h1, r1⟩ := R.lstv qo e1
        cases qi.int_inv
        have ex : Ext m H m (upd H a (.lst (vs.set j v))) := Ext.wr h1 trivial
        refine set_list pins s σ H _ _ v ov iv u Q I ro ri rv ⟨a, vs, k, j, rfl, rfl, h1, ?_, ?_⟩
        · rw [r1.length]; exact ej
        · exact hp m _ ex (R.wr (NS.of e1 rfl) hl h1 trivial (fun _ z => by cases z) ⟨_, upd_same, (r1.set j qd).ext ex⟩)
      · exact hp.elim
    · exact hp.elim
  · rename_i kvs e1
    split at hp
    · rename_i hc
      obtain ⟨a, H', rfl, hl, hI, ex, R', hd⟩ := dct_kind R e1 qo hc.1
      obtain ⟨H2, dp, ex2, R2⟩ := dct_put hW R' (NS.of e1 rfl) hl (qi.ext ex) (qd.ext ex) hc.2 hd
      obtain rfl : ov = Value.ref a := ro
      exact d_setItem (by omega) (hI _ _ _ _ I) dp ri rv fun s' I' => ⟨H2, I', hp m H2 (ex.trans ex2) R2⟩
    · exact hp.elim
  · exact hp.elim
theorem pg_subs {x y : Expr} {p : Pos} {to ti : TE} {t : TSet} (ho : PE X x to) (hi : PE X y ti) (hs : PSet X t) (hn : noSlice y = true) : PG X (.Subscript x y p) (gSub to ti t) := by
  refine pg_sub ho hi hs ?_
  intro v
  cases y <;> first | rfl | (simp [noSlice] at hn; done)

variable (h : XOk T fn mk X sc N) (tk : Takes X Wx) (hfn : ∀ x, X.fn x = true)
include h hfn
theorem loc_ok : ∀ x, locB sc x = true → Loc X.env.scope x ∧ (X.fn x = true ∨ X.env.scope.names.lookup x = some .local) := by
  intro x hx
  refine ⟨?_, .inl (hfn x)⟩
  rw [h.sc]
  unfold locB at hx
  unfold L2.Loc
  cases e : sc.names.lookup x with
  | none => rw [e] at hx; cases hx
  | some k => rw [e] at hx; cases k <;> simp_all
include tk
def WkS (T : Stat) (fn mk : Fn) (X : Cx) (Wx : WX) (w : Wk) (wi : TI) : Prop := ∀ {m : List Addr} {S : Store} {σd : Slots} {σ : L2.St} {H : Hp} {R : L2.It → Hp → Prop}, HRel T.W m H (T.ca X.K) S → SRel T.W m H σd σ →
  Post T X.K (walkOf T.P fn mk w σd S) m H (fun p _ m' H' => ∀ J, WalkOk T X.K J p.1 p.2 m' H' → R J H') (XX T X Wx σ) → wi σ H R
omit hfn in
theorem snd_walk {w : Wk} {e tg : Expr} (hc : chkW T sc N w e = true) : ∃ wi, PI X tg e wi ∧ WkS T fn mk X Wx w wi := by
  cases w with
  | seq E =>
    simp only [chkW, Bool.and_eq_true] at hc
    refine ⟨_, pi_seq, fun {m S σd σ H Q} R Sr hp => ?_⟩
    simp only [walkOf] at hp
    refine (snd_both h tk E _ hc.1).1 R Sr (hp.seq fun x S1 m1 H1 e1 R1 hp v r => ?_)
    cases x with
    | tup xs =>
      obtain ⟨a, vs, rfl, ea, rl⟩ := r.tup_inv
      exact ⟨a, vs, rfl, .inr ⟨SqT.of ea, hp m1 H1 Ext.refl R1 _ (walk_tup ea rl)⟩⟩
    | loc l =>
      simp only at hp
      split at hp
      · rename_i xs e2
        obtain ⟨a, vs, hl, rfl, h1, r1⟩ := R1.lstv r e2
        exact ⟨a, vs, rfl, .inl ⟨SqL.of h1, hp m1 H1 Ext.refl R1 _ (walk_lst hl)⟩⟩
      · rename_i xs e2
        obtain ⟨a, vs, hl, rfl, h1, r1⟩ := R1.scrv r e2
        exact ⟨a, vs, rfl, .inl ⟨h1.sql, hp m1 H1 Ext.refl R1 _ (walk_lst hl)⟩⟩
      · exact hp.elim
    | _ => exact hp.elim
  | rng1 E =>
    simp only [chkW] at hc
    split at hc <;> try (cases hc; done)
    simp only [Bool.and_eq_true, decide_eq_true_eq] at hc
    obtain ⟨⟨⟨⟨rfl, hf⟩, hg⟩, ns⟩, h1⟩ := hc
    refine ⟨_, pi_range1 (gl_gl h hg).1 (free_of h hf) (pa_cons pe_tw pa_nil (star_cons ns)) (star_cons ns), fun {m S σd σ H Q} R Sr hp => ?_⟩
    simp only [walkOf] at hp
    refine (snd_both h tk E _ h1).1 R Sr (hp.seq fun x S1 m1 H1 e1 R1 hp v r => ?_)
    cases x with
    | int n =>
      simp only at hp
      split at hp
      · rename_i hn
        cases r.int_inv
        refine ⟨n, rfl, hn.2, hn.1, ?_⟩
        have q := hp m1 H1 Ext.refl R1 (Itr 0 n.toNat)
        simp only at q
        have e : ((List.range n.toNat).map fun k => Dat.int (k : Nat)) = ((List.range n.toNat).map fun k => Dat.int (0 + (k : Nat))) := by simp
        rw [e] at q
        exact q walk_rng
      · exact hp.elim
    | _ => exact hp.elim
  | rng2 E F =>
    simp only [chkW] at hc
    split at hc <;> try (cases hc; done)
    simp only [Bool.and_eq_true, decide_eq_true_eq] at hc
    obtain ⟨⟨⟨⟨⟨⟨rfl, hf⟩, hg⟩, na⟩, nb⟩, h1⟩, h2⟩ := hc
    refine ⟨_, pi_range2 (gl_gl h hg).1 (free_of h hf) (pa_cons pe_tw (pa_cons pe_tw pa_nil (star_cons nb)) (star_cons na)) (by rw [star_cons na, star_cons nb]; rfl) (star_cons nb), fun {m S σd σ H Q} R Sr hp => ?_⟩
    simp only [walkOf] at hp
    refine (snd_both h tk E _ h1).1 R Sr (hp.seq fun x S1 m1 H1 e1 R1 hp v r => ?_)
    refine (snd_both h tk F _ h2).1 R1 (Sr.ext e1) (hp.seq fun y S2 m2 H2 e2 R2 hp v2 r2 => ?_)
    cases x with
    | int i =>
      cases y with
      | int j =>
        simp only at hp
        split at hp
        · rename_i hn
          cases r.int_inv; cases r2.int_inv
          exact ⟨i, j, rfl, hn, hp m2 H2 Ext.refl R2 _ walk_rng⟩
        · exact hp.elim
      | _ => exact hp.elim
    | _ => exact hp.elim

end
section
variable {T : Stat} {fn mk : Fn} {X : Cx} {sc : Scope} {N : List Str} {Wx : WX}
/-- a block's meaning is what it does -/
def SsS (T : Stat) (fn mk : Fn) (X : Cx) (Wx : WX) (b : Stms) (ss : List Stmt) : Prop := ∀ {m : List Addr} {S : Store} {σd : Slots} {σ : L2.St} {H : Hp} {D : Ends}, HRel T.W m H (T.ca X.K) S → SRel T.W m H σd σ → PostS T X.K Wx (exs T.P fn mk b σd S) m H D → twss X ss D σ H
theorem drop_cons {α : Type} {xs : List α} {i : Nat} {x : α} {r : List α} (h : xs.drop i = x :: r) : xs[i]? = some x ∧ xs.drop (i + 1) = r ∧ i < xs.length := by
  have hl : i < xs.length := by
    by_cases q : i < xs.length
    · exact q
    · rw [List.drop_eq_nil_of_le (by omega)] at h; cases h
  rw [List.drop_eq_getElem_cons hl] at h
  cases h
  exact ⟨List.getElem?_eq_getElem hl, rfl, hl⟩
theorem snd_for {t : PyI.Tg} {b : Stms} {ss : List Stmt} {g : TG} {items : List Dat} {gd : Option (Nat × List Dat)} {J : L2.It} {m0 : List Addr} {H0 : Hp} {D : Ends} {S : Store} {σd : Slots} {σ : L2.St} (WK : WalkOk T X.K J items gd m0 H0)
    (kg : ∀ {m : List Addr} {S : Store} {H : Hp} {d : Dat} {v : V} {σd : Slots} {σ : L2.St} {D : Ends}, HRel T.W m H (T.ca X.K) S → SRel T.W m H σd σ → Rep T.W m H d v → PostS T X.K Wx (asg T.P fn mk t d σd S) m H D → g v σ H D.nx) (kb : SsS T fn mk X Wx b ss)
    (R : HRel T.W m0 H0 (T.ca X.K) S) (Sr : SRel T.W m0 H0 σd σ) (hp : PostS T X.K Wx (forGo T.P fn mk t (exs T.P fn mk b) gd items σd S) m0 H0 D) :
    ∃ W : Nat → Nat → L2.St → Hp → Prop, (∃ k, W 0 k σ H0) ∧ ∀ i k σ H, W i k σ H → (J.stop i H ∧ D.nx σ H) ∨ (J.go i H ∧ ∃ Nx : L2.St → Hp → Prop, (∀ σ' H', Nx σ' H' → ∃ k', k' < k ∧ W (i + 1) k' σ' H') ∧
      ∀ x H', J.yld i H x H' → g x σ H' fun σ2 H2 => twss X ss { D with nx := Nx, ct := Nx, bk := D.nx } σ2 H2) := by
  refine ⟨fun i k σ H => k = items.length - i ∧ i ≤ items.length ∧ ∃ m S σd, Ext m0 H0 m H ∧ HRel T.W m H (T.ca X.K) S ∧ SRel T.W m H σd σ ∧ PostS T X.K Wx (forGo T.P fn mk t (exs T.P fn mk b) gd (items.drop i) σd S) m H D,
    ⟨_, rfl, Nat.zero_le _, m0, S, σd, Ext.refl, R, Sr, by simpa using hp⟩, ?_⟩
  rintro i k σ H ⟨rfl, hi, m, S, σd, ex, R, Sr, hp⟩
  cases hd : items.drop i with
  | nil =>
    have hl : i = items.length := by
      have := congrArg List.length hd
      rw [List.length_drop] at this
      simp at this
      omega
    subst hl
    rw [hd] at hp
    simp only [forGo] at hp
    split at hp
    · rename_i st
      exact .inl ⟨WK.stop m S H ex R st, hp m H σ Ext.refl R Sr⟩
    · exact hp.elim
  | cons d rest =>
    obtain ⟨h1, h2, h3⟩ := drop_cons hd
    rw [hd] at hp
    simp only [forGo] at hp
    split at hp
    · rename_i st
      obtain ⟨go, yl⟩ := WK.turn i d m S H h1 ex R st
      refine .inr ⟨go, fun σ' H' => ∃ m' S' σd', Ext m0 H0 m' H' ∧ HRel T.W m' H' (T.ca X.K) S' ∧ SRel T.W m' H' σd' σ' ∧ PostS T X.K Wx (forGo T.P fn mk t (exs T.P fn mk b) gd rest σd' S') m' H' D, fun σ' H' ⟨m', S', σd', q1, q2, q3, q4⟩ =>
        ⟨items.length - (i + 1), by omega, rfl, h3, m', S', σd', q1, q2, q3, by rw [h2]; exact q4⟩, fun x H' y => ?_⟩
      obtain ⟨e1, R1, r1⟩ := yl x H' y
      have hp1 := hp.mono e1
      refine kg (D := { D with nx := fun σ2 H2 => twss X ss _ σ2 H2 }) R1 (Sr.ext e1) r1 ?_
      cases ea : asg T.P fn mk t d σd S with
      | bad => rw [ea] at hp1; exact hp1.elim
      | rt d S => rw [ea] at hp1; exact hp1
      | exc c σ' S' => rw [ea] at hp1; exact hp1
      | bk σ' S' =>
        exfalso
        cases t <;> simp only [asg] at ea
        · cases ea
        · split at ea <;> (try split at ea) <;> cases ea
        · revert ea
          cases ev T.P fn mk _ σd S <;> simp [Re.go]
          cases ev T.P fn mk _ σd _ <;> simp [Re.go]
          cases stidx _ _ _ _ <;> simp [Re.go]
        · revert ea
          cases ev T.P fn mk _ σd S <;> simp [Re.go]
          cases sfld T.P _ _ _ _ <;> simp [Re.go]
      | ct σ' S' =>
        exfalso
        cases t <;> simp only [asg] at ea
        · cases ea
        · split at ea <;> (try split at ea) <;> cases ea
        · revert ea
          cases ev T.P fn mk _ σd S <;> simp [Re.go]
          cases ev T.P fn mk _ σd _ <;> simp [Re.go]
          cases stidx _ _ _ _ <;> simp [Re.go]
        · revert ea
          cases ev T.P fn mk _ σd S <;> simp [Re.go]
          cases sfld T.P _ _ _ _ <;> simp [Re.go]
      | nx σ1 S1 =>
        rw [ea] at hp1
        intro m2 H2 σ2 e2 R2 Sr2
        refine kb R2 Sr2 ?_
        have hp2 := hp1.mono e2
        have eall := ex.trans (e1.trans e2)
        simp only at hp2
        cases eb : exs T.P fn mk b σ1 S1 with
        | bad => rw [eb] at hp2; exact hp2.elim
        | rt d S => rw [eb] at hp2; exact hp2
        | exc c σ' S' => rw [eb] at hp2; exact hp2
        | bk σ' S' => rw [eb] at hp2; exact hp2
        | ct σ' S' => rw [eb] at hp2; exact fun m' H' σ' e' R' Sr' => ⟨m', _, _, eall.trans e', R', Sr', hp2.mono e'⟩
        | nx σ' S' => rw [eb] at hp2; exact fun m' H' σ' e' R' Sr' => ⟨m', _, _, eall.trans e', R', Sr', hp2.mono e'⟩
    · exact hp.elim
theorem snd_whl {c : Ex} {ce : Expr} {b : Stms} {ss : List Stmt} (kc : TsS T fn mk X Wx c ce) (kb : SsS T fn mk X Wx b ss) {n : Nat} {m : List Addr} {S : Store} {σd : Slots} {σ : L2.St} {H : Hp} {D : Ends} (R : HRel T.W m H (T.ca X.K) S) (Sr : SRel T.W m H σd σ)
    (hp : PostS T X.K Wx (whlGo (tst T.P fn mk c) (exs T.P fn mk b) n σd S) m H D) : tWhile (tt X ce) (twss X ss) D σ H := by
  refine ⟨fun k σ H => ∃ m S σd, HRel T.W m H (T.ca X.K) S ∧ SRel T.W m H σd σ ∧ PostS T X.K Wx (whlGo (tst T.P fn mk c) (exs T.P fn mk b) k σd S) m H D, ⟨n, m, S, σd, R, Sr, hp⟩, ?_⟩
  rintro k σ H ⟨m, S, σd, R, Sr, hp⟩
  cases k with
  | zero => exact hp.elim
  | succ k =>
    simp only [whlGo] at hp
    refine kc R Sr (hp.go Sr fun q S1 m1 H1 e1 R1 hp => ?_)
    show if q = true then _ else _
    cases q with
    | false => exact hp m1 H1 σ Ext.refl R1 (Sr.ext e1)
    | true =>
      refine ⟨fun σ' H' => ∃ m S σd, HRel T.W m H' (T.ca X.K) S ∧ SRel T.W m H' σd σ' ∧ PostS T X.K Wx (whlGo (tst T.P fn mk c) (exs T.P fn mk b) k σd S) m H' D, fun σ' H' q => ⟨k, Nat.lt_succ_self k, q⟩, kb R1 (Sr.ext e1) ?_⟩
      simp only [if_true] at hp
      cases eb : exs T.P fn mk b σd S1 with
      | bad => rw [eb] at hp; exact hp.elim
      | rt d S => rw [eb] at hp; exact hp
      | exc c σ' S' => rw [eb] at hp; exact hp
      | bk σ' S' => rw [eb] at hp; exact hp
      | ct σ' S' => rw [eb] at hp; exact fun m' H' σ' e' R' Sr' => ⟨m', _, _, R', Sr', hp.mono e'⟩
      | nx σ' S' => rw [eb] at hp; exact fun m' H' σ' e' R' Sr' => ⟨m', _, _, R', Sr', hp.mono e'⟩

theorem PostS.then_ {r : SR} {f : Slots → Store → SR} {m : List Addr} {H : Hp} {D : Ends} {K : PySem.W.Frag} (h : PostS T K Wx (r.andThen f) m H D) {nx : L2.St → Hp → Prop}
    (k : ∀ σd S m1 H1 σ, Ext m H m1 H1 → HRel T.W m1 H1 (T.ca K) S → SRel T.W m1 H1 σd σ → PostS T K Wx (f σd S) m1 H1 D → nx σ H1) : PostS T K Wx r m H { D with nx := nx } := by
  cases r with
  | nx σd S =>
    have h : PostS T K Wx (f σd S) m H D := h
    exact fun m' H' σ e R Sr => k σd S m' H' σ e R Sr (h.mono e)
  | bad => exact h
  | rt d S => exact h
  | exc c σ' S' => exact h
  | bk σ' S' => exact h
  | ct σ' S' => exact h
/-- a op= b, by values -/
def ipV (T : Stat) (o : PyI.BinO) : TIp := fun x y H Q => ∃ m a b z, Rep T.W m H a x ∧ Rep T.W m H b y ∧ augV o a b = some z ∧ ∀ v, Rep T.W m H z v → Q v H
theorem aug_inv {o : PyI.BinO} {a b z : Dat} (h : augV o a b = some z) : ∃ i j, a = .int i ∧ b = .int j ∧ ((o = .add ∧ z = .int (i + j)) ∨ (o = .sub ∧ z = .int (i - j))) := by
  cases o <;> cases a <;> cases b <;> simp only [augV] at h <;> try (cases h; done)
  · cases h; exact ⟨_, _, rfl, rfl, .inl ⟨rfl, rfl⟩⟩
  · cases h; exact ⟨_, _, rfl, rfl, .inr ⟨rfl, rfl⟩⟩
theorem pip_v (o : PyI.BinO) : PIp X (binP o) (ipV T o) := by
  intro pins s σ H x y v u Q I r1 r2 ⟨m, a, b, z, ra, rb, ez, q⟩
  obtain ⟨i, j, rfl, rfl, q1⟩ := aug_inv ez
  cases ra.int_inv; cases rb.int_inv
  rcases q1 with ⟨rfl, rfl⟩ | ⟨rfl, rfl⟩
  · exact ip_add pins s σ H _ _ v u Q I r1 r2 ⟨i, j, rfl, rfl, q _ Rep.int⟩
  · exact ip_sub pins s σ H _ _ v u Q I r1 r2 ⟨i, j, rfl, rfl, q _ Rep.int⟩
theorem inop_v (o : PyI.BinO) : InOp X (binP o) (ipV T o) := by
  intro pins s σ H x y v u Q I r1 r2 ⟨m, a, b, z, ra, rb, ez, q⟩
  obtain ⟨i, j, rfl, rfl, q1⟩ := aug_inv ez
  cases ra.int_inv; cases rb.int_inv
  rcases q1 with ⟨rfl, rfl⟩ | ⟨rfl, rfl⟩
  · exact in_add pins s σ H _ _ v u Q I r1 r2 ⟨i, j, rfl, rfl, q _ Rep.int⟩
  · exact in_sub pins s σ H _ _ v u Q I r1 r2 ⟨i, j, rfl, rfl, q _ Rep.int⟩
theorem sfld_ok {x d : Dat} {f : Nat} {S : Store} {m : List Addr} {H : Hp} {vo v : V} {Q : Hp → Prop} {xx : Nat → Store → List Addr → Hp → Prop} (F : Facts T X.K X.mg) (hp : Post T X.K (sfld T.P x f d S) m H (fun _ _ _ H' => Q H') xx) (R : HRel T.W m H (T.ca X.K) S) (ro : Rep T.W m H x vo) (r : Rep T.W m H d v) :
    ∃ a C dx fs, (∃ c, clsOf x S = some c ∧ C = (T.ca X.K).at_ c) ∧ vo = .ref a ∧ H a = some (.ins C dx fs) ∧ Cls X.K C ∧ NoAttr X.K C (T.W f) ∧ fs.length < 1000 ∧ Q (upd H a (.ins C dx (putF (T.W f) v fs))) := by
  cases x <;> simp only [sfld] at hp <;> try (exact hp.elim)
  rename_i l
  split at hp
  · rename_i c fs es
    split at hp
    · rename_i hc
      obtain ⟨a, h4, rfl, dx, fs', h5, h6⟩ := R.at_ ro es
      have hf := hc.1
      unfold hasF at hf
      split at hf
      · rename_i k ek
        obtain ⟨cl, _, _, _, na⟩ := F.cls c k ek
        have ex : Ext m H m (upd H a (.ins ((T.ca X.K).at_ c) dx (putF (T.W f) v fs'))) := Ext.wr h5 trivial
        refine ⟨a, _, dx, fs', ⟨c, by simp only [clsOf, es], rfl⟩, rfl, h5, cl, na f (by simpa using hf), by rw [h6.length]; omega, ?_⟩
        exact hp m _ ex (R.wr (NS.of es rfl) h4 h5 trivial (fun _ z => by cases z) ⟨dx, _, upd_same, (h6.put F.hW r).ext ex⟩)
      · cases hf
    · exact hp.elim
  · exact hp.elim
theorem gfld_ok {x d : Dat} {f : Nat} {S S' : Store} {m : List Addr} {H : Hp} {vo : V} (F : Facts T X.K X.mg) (he : gfld T.P x f S = .ok d S') (R : HRel T.W m H (T.ca X.K) S) (ro : Rep T.W m H x vo) :
    S' = S ∧ ∃ a C dx fs w, (∃ c, clsOf x S = some c ∧ C = (T.ca X.K).at_ c) ∧ vo = .ref a ∧ H a = some (.ins C dx fs) ∧ Cls X.K C ∧ NoAttr X.K C (T.W f) ∧ fs.lookup (T.W f) = some w ∧ Rep T.W m H d w := by
  cases x <;> simp only [gfld] at he <;> try (cases he; done)
  rename_i l
  split at he
  · rename_i c fs es
    split at he
    · rename_i hf
      split at he
      · rename_i d' ed
        cases he
        obtain ⟨a, h4, rfl, dx, fs', h5, h6⟩ := R.at_ ro es
        unfold hasF at hf
        split at hf
        · rename_i k ek
          obtain ⟨cl, _, _, _, na⟩ := F.cls c k ek
          obtain ⟨w, h7, h8⟩ := (h6.get F.hW).1 d ed
          exact ⟨rfl, a, _, dx, fs', w, ⟨c, by simp only [clsOf, es], rfl⟩, rfl, h5, cl, na f (by simpa using hf), h7, h8⟩
        · cases hf
      · cases he
    · cases he
  · cases he
variable (h : XOk T fn mk X sc N) (tk : Takes X Wx) (hfn : ∀ x, X.fn x = true)
include h tk hfn
mutual
theorem snd_st : ∀ (s : Stm) (st : Stmt) (hc : chkS T sc N s st = true) {m : List Addr} {S : Store} {σd : Slots} {σ : L2.St} {H : Hp} {D : Ends}, HRel T.W m H (T.ca X.K) S → SRel T.W m H σd σ → PostS T X.K Wx (ex T.P fn mk s σd S) m H D → tws X st D σ H
  | .expr E, st, hc, m, S, σd, σ, H, D, R, Sr, hp => by
    simp only [chkS] at hc
    split at hc <;> try (cases hc; done)
    simp only [Bool.and_eq_true] at hc
    simp only [ex] at hp
    exact tws_of (ps_expr pe_tw (sw_no hc.2)) ((snd_both h tk E _ hc.1).1 R Sr (hp.go Sr fun d S1 m1 H1 e1 R1 hp v r => hp m1 H1 σ Ext.refl R1 (Sr.ext e1)))
  | .asg t E, st, hc, m, S, σd, σ, H, D, R, Sr, hp => by
    simp only [chkS] at hc
    split at hc <;> try (cases hc; done)
    rename_i tg e pos
    simp only [Bool.and_eq_true] at hc
    obtain ⟨nc, hc⟩ := hc
    simp only [ex] at hp
    cases t with
    | name i =>
      simp only [Bool.and_eq_true] at hc
      obtain ⟨h1, h2⟩ := hc
      simp only [chkT] at h1
      split at h1 <;> try (cases h1; done)
      simp only [Bool.and_eq_true, decide_eq_true_eq] at h1
      have hl := loc_ok h hfn _ h1.2
      refine tws_of (ps_set (by rw [h.hN]; exact h.nd) (by rw [h.hN]; exact h1.1) hl.1 pe_tw (sw_no nc) hl.2) ((snd_both h tk E _ h2).1 R Sr (hp.go Sr fun d S1 m1 H1 e1 R1 hp v r => ?_))
      simp only [asg] at hp
      exact hp m1 H1 _ Ext.refl R1 ((Sr.ext e1).set r i)
    | tup is =>
      simp only at hc
      split at hc <;> try (cases hc; done)
      rename_i xs k q
      split at hc
      · rename_i nt
        simp only [Bool.and_eq_true] at hc
        obtain ⟨g, pg, kg⟩ := snd_tg (Wx := Wx) h (loc_ok h hfn) hc.1
        have hsw : swappedStores [.Tuple xs k q] e X.env = pure none := by
          cases e <;> first | rfl | (simp [notTup] at nt; done)
        exact tws_of (ps_asg pe_tw pg (sws_no nc) hsw) ((snd_both h tk E _ hc.2).1 R Sr (hp.go Sr fun d S1 m1 H1 e1 R1 hp v r => kg R1 (Sr.ext e1) r hp))
      · split at hc <;> try (cases hc; done)
        rename_i ts i j vs kk qq es hnt
        simp only [Bool.and_eq_true, decide_eq_true_eq] at hc
        obtain ⟨⟨hpar, hij⟩, hes⟩ := hc
        unfold parB at hpar
        split at hpar <;> try (cases hpar; done)
        rename_i x p y q' a b
        simp only [Bool.and_eq_true, decide_eq_true_eq, Bool.not_eq_true'] at hpar
        obtain ⟨⟨⟨⟨⟨⟨⟨⟨⟨hi, hj⟩, hx⟩, hy⟩, hne⟩, hl⟩, na⟩, nb⟩, hf⟩, hcst⟩ := hpar
        simp only [ev] at hp
        intro pins s I
        have hk := I.ok.kind
        rw [← h.sc] at hx hy
        have ns : [a, b].all noStar = true := by simp [na, nb]
        have hN : X.N.Nodup := by rw [h.hN]; exact h.nd
        have pp := ps_par (X := X) (pos := pos) (px := p) (py := q') (pt := q) (kt := k) (k2 := kk) (pt2 := qq) h.calm hN (by rw [h.hN]; exact hi) (by rw [h.hN]; exact hj) hij hx hy pa_ta (swap2 hk hx hy hne hl na nb hf hcst)
        refine pp.run pins s σ H D I (snd_evs h tk es _ ns hes R Sr ?_)
        revert hp
        cases ee : evs T.P fn mk es σd S with
        | bad => intro hp; exact hp.elim
        | exc c S' => intro hp m' H' e' R'; exact hp m' H' σ e' R' (Sr.ext e')
        | ok xs S1 =>
          intro hp m' H' e' R' vs rl
          simp only [Re.bind] at hp
          split at hp
          · have hp : PostS T X.K Wx (asg T.P fn mk (.tup [.one i, .one j]) (.tup xs) σd S1) m H D := hp
            simp only [asg] at hp
            split at hp
            · rename_i σ1 eσ
              match xs, eσ with
              | [d1, d2], eσ =>
                obtain ⟨v1, v2, rfl, r1, r2⟩ := rl.inv2
                simp only [setAll] at eσ
                cases eσ
                exact ⟨v1, v2, rfl, hp m' H' _ e' R' (((Sr.ext e').set r1 i).set r2 j)⟩
              | [], eσ => simp [setAll] at eσ
              | [_], eσ => simp [setAll] at eσ
              | _ :: _ :: _ :: _, eσ => simp [setAll] at eσ
            · exact hp.elim
          · exact hp.elim
    | sub o i =>
      simp only at hc
      split at hc <;> try (cases hc; done)
      simp only [Bool.and_eq_true] at hc
      obtain ⟨⟨⟨h1, h2⟩, h3⟩, h4⟩ := hc
      refine tws_of (ps_asg pe_tw (pg_subs pe_tw pe_tw (set_stidx (T := T) h.facts.hW (hu1 h)) h3) (sws_no nc) rfl) ((snd_both h tk E _ h4).1 R Sr (hp.go Sr fun d S1 m1 H1 e1 R1 hp v r => ?_))
      simp only [asg] at hp
      refine (snd_both h tk o _ h1).1 R1 (Sr.ext e1) (hp.go (Sr.ext e1) fun x S2 m2 H2 e2 R2 hp vo ro => ?_)
      refine (snd_both h tk i _ h2).1 R2 ((Sr.ext e1).ext e2) (hp.go ((Sr.ext e1).ext e2) fun y S3 m3 H3 e3 R3 hp vi ri => ?_)
      refine ⟨m3, S3, x, y, d, XX T X Wx σ, ro.ext e3, ri, (r.ext e2).ext e3, R3, hp.go (((Sr.ext e1).ext e2).ext e3) fun _ S4 m4 H4 e4 R4 hp => ?_⟩
      exact hp m4 H4 σ Ext.refl R4 ((((Sr.ext e1).ext e2).ext e3).ext e4)
    | fld o f =>
      simp only at hc
      split at hc <;> try (cases hc; done)
      simp only [Bool.and_eq_true, decide_eq_true_eq] at hc
      obtain ⟨⟨rfl, h1⟩, h2⟩ := hc
      refine tws_of (ps_fld pe_tw pe_tw (sw_no nc)) ((snd_both h tk E _ h2).1 R Sr (hp.go Sr fun d S1 m1 H1 e1 R1 hp v r => ?_))
      simp only [asg] at hp
      refine (snd_both h tk o _ h1).1 R1 (Sr.ext e1) (hp.go (Sr.ext e1) fun x S2 m2 H2 e2 R2 hp vo ro => ?_)
      obtain ⟨a, C, dx, fs', _, e3, e4, cl, na, lt, q⟩ := sfld_ok h.facts (hp.go (ok' := fun _ _ _ H' => D.nx σ H') ((Sr.ext e1).ext e2) fun _ S4 m4 H4 e4 R4 hp => hp m4 H4 σ Ext.refl R4 (((Sr.ext e1).ext e2).ext e4)) R2 ro (r.ext e2)
      exact ⟨a, C, dx, fs', e3, e4, cl, na, lt, q⟩
  | .aug i o E, st, hc, m, S, σd, σ, H, D, R, Sr, hp => by
    simp only [chkS] at hc
    split at hc <;> try (cases hc; done)
    simp only [Bool.and_eq_true, decide_eq_true_eq] at hc
    obtain ⟨⟨⟨h1, h2⟩, rfl⟩, h3⟩ := hc
    have hl := loc_ok h hfn _ h2
    simp only [ex] at hp
    split at hp
    · rename_i x ed
      obtain ⟨vx, e1, rx⟩ := Sr.2 i x ed
      refine tws_of (ps_aug (by rw [h.hN]; exact h.nd) (by rw [h.hN]; exact h1) hl.1 pe_tw (pip_v (T := T) o) hl.2) ⟨vx, e1, (snd_both h tk E _ h3).1 R Sr (hp.go Sr fun y S1 m1 H1 e1 R1 hp v r => ?_)⟩
      split at hp
      · rename_i z ez
        exact ⟨m1, x, y, z, rx.ext e1, r, ez, fun w rw' => hp m1 H1 _ Ext.refl R1 ((Sr.ext e1).set rw' i)⟩
      · exact hp.elim
    · exact hp.elim
  | .augF o f op E, st, hc, m, S, σd, σ, H, D, R, Sr, hp => by
    simp only [chkS] at hc
    split at hc <;> try (cases hc; done)
    simp only [Bool.and_eq_true, decide_eq_true_eq] at hc
    obtain ⟨⟨⟨rfl, rfl⟩, h1⟩, h2⟩ := hc
    simp only [ex] at hp
    refine tws_of (ps_fldaug pe_tw pe_tw (inop_v (T := T) op)) ((snd_both h tk o _ h1).1 R Sr (hp.go Sr fun x S1 m1 H1 e1 R1 hp vo ro => ?_))
    cases eg : gfld T.P x f S1 with
    | bad => rw [eg] at hp; exact hp.elim
    | exc c S' =>
      exfalso
      revert eg
      cases x <;> simp only [gfld] <;> intro eg <;> try (cases eg; done)
      split at eg <;> try (cases eg; done)
      split at eg <;> try (cases eg; done)
      split at eg <;> cases eg
    | ok z S2 =>
      rw [eg] at hp
      obtain ⟨rfl, a, C, dx, fs, w, ⟨c1, hc1, rfl⟩, rfl, ea, cl, na, lk, rw'⟩ := gfld_ok h.facts eg R1 ro
      refine ⟨a, _, dx, fs, w, rfl, ea, cl, na, lk, ?_⟩
      have hp : PostS T X.K Wx ((ev T.P fn mk E σd S2).go σd fun y S3 => (match augV op z y with
        | some z => if clsOf x S2 = clsOf x S3 then (sfld T.P x f z S3).go σd fun _ S4 => .nx σd S4 else .bad
        | none => .bad)) m1 H1 D := hp
      refine (snd_both h tk E _ h2).1 R1 (Sr.ext e1) (hp.go (Sr.ext e1) fun y S3 m3 H3 e3 R3 hp vy ry => ?_)
      split at hp
      · rename_i z2 ez
        refine ⟨m3, z, y, z2, rw'.ext e3, ry, ez, fun u ru => ?_⟩
        split at hp
        · rename_i hcls
          obtain ⟨a', C', dx', fs', ⟨c2, hc2, rfl⟩, q1, q2, cl', na', lt, q⟩ := sfld_ok h.facts (hp.go (ok' := fun _ _ _ H' => D.nx σ H') ((Sr.ext e1).ext e3) fun _ S4 m4 H4 e4 R4 hp => hp m4 H4 σ Ext.refl R4 (((Sr.ext e1).ext e3).ext e4)) R3 (ro.ext e3) ru
          cases q1
          rw [hc1, hc2] at hcls
          cases hcls
          exact ⟨dx', fs', q2, lt, q⟩
        · exact hp.elim
      · exact hp.elim
  | .ite c a b, st, hc, m, S, σd, σ, H, D, R, Sr, hp => by
    simp only [chkS] at hc
    split at hc <;> try (cases hc; done)
    simp only [Bool.and_eq_true] at hc
    obtain ⟨⟨⟨h0, h1⟩, h2⟩, h3⟩ := hc
    simp only [ex] at hp
    refine tws_of (ps_if pt_tt pss_tw pss_tw) ((snd_both h tk c _ h1).2 h0 R Sr (hp.go Sr fun k S1 m1 H1 e1 R1 hp => ?_))
    show if k = true then _ else _
    cases k with
    | true => exact snd_ss a _ h2 R1 (Sr.ext e1) hp
    | false => exact snd_ss b _ h3 R1 (Sr.ext e1) hp
  | .whl c b, st, hc, m, S, σd, σ, H, D, R, Sr, hp => by
    simp only [chkS] at hc
    split at hc <;> try (cases hc; done)
    simp only [Bool.and_eq_true] at hc
    obtain ⟨⟨h0, h1⟩, h2⟩ := hc
    simp only [ex] at hp
    exact tws_of (ps_while h.own pt_tt pss_tw) (snd_whl ((snd_both h tk c _ h1).2 h0) (snd_ss b _ h2) R Sr hp)
  | .for_ t w b, st, hc, m, S, σd, σ, H, D, R, Sr, hp => by
    simp only [chkS] at hc
    split at hc <;> try (cases hc; done)
    simp only [Bool.and_eq_true] at hc
    obtain ⟨⟨⟨h1, h2⟩, h3⟩, h4⟩ := hc
    simp only [ex] at hp
    obtain ⟨g, pg, kg⟩ := snd_tg (Wx := Wx) h (loc_ok h hfn) h1
    obtain ⟨wi, pw, kw⟩ := snd_walk h tk h2
    exact tws_of (ps_for h.own h.calm pw pg pss_tw (set_no h3)) (kw R Sr (hp.go Sr fun p S1 m1 H1 e1 R1 hp J WK => snd_for WK kg (snd_ss b _ h4) R1 (Sr.ext e1) hp))
  | .ret E, st, hc, m, S, σd, σ, H, D, R, Sr, hp => by
    simp only [chkS] at hc
    split at hc <;> try (cases hc; done)
    simp only [ex] at hp
    exact tws_of (ps_ret pe_tw) ((snd_both h tk E _ hc).1 R Sr (hp.go Sr fun d S1 m1 H1 e1 R1 hp v r => hp m1 H1 v Ext.refl R1 r))
  | .retN, st, hc, m, S, σd, σ, H, D, R, Sr, hp => by
    simp only [chkS] at hc
    split at hc <;> try (cases hc; done)
    simp only [ex] at hp
    exact tws_of ps_retN (hp m H _ Ext.refl R Rep.non)
  | .brk, st, hc, m, S, σd, σ, H, D, R, Sr, hp => by
    simp only [chkS] at hc
    split at hc <;> try (cases hc; done)
    simp only [ex] at hp
    exact tws_of ps_break (hp m H _ Ext.refl R Sr)
  | .cont, st, hc, m, S, σd, σ, H, D, R, Sr, hp => by
    simp only [chkS] at hc
    split at hc <;> try (cases hc; done)
    simp only [ex] at hp
    exact tws_of ps_continue (hp m H _ Ext.refl R Sr)
  | .pass, st, hc, m, S, σd, σ, H, D, R, Sr, hp => by
    simp only [chkS] at hc
    split at hc <;> try (cases hc; done)
    simp only [ex] at hp
    exact tws_of ps_pass (hp m H _ Ext.refl R Sr)
theorem snd_ss : ∀ (b : Stms) (ss : List Stmt) (hc : chkSs T sc N b ss = true), SsS T fn mk X Wx b ss
  | .nil, ss, hc, m, S, σd, σ, H, D, R, Sr, hp => by
    cases ss with
    | cons _ _ => simp [chkSs] at hc
    | nil =>
      simp only [exs] at hp
      exact twss_of pss_nil (hp m H σ Ext.refl R Sr)
  | .cons a r, ss, hc, m, S, σd, σ, H, D, R, Sr, hp => by
    cases ss with
    | nil => simp [chkSs] at hc
    | cons s ss =>
      simp only [chkSs, Bool.and_eq_true] at hc
      simp only [exs] at hp
      exact twss_of (pss_cons ps_tw pss_tw) (snd_st a s hc.1 R Sr (hp.then_ fun σ1 S1 m1 H1 σ2 e1 R1 Sr1 hp => snd_ss r ss hc.2 R1 Sr1 hp))
end
end
end PyS

/-! S9: every def keeps its promise. -/
namespace PyS
open PySem PySem.Spec PyProof.Rows L2 PyI
structure DefOk (T : Stat) (f : Nat) (d : DefI) : Prop where
  fs : FnScope (T.nm f) (T.ps f) (T.dd f).scope
  psl : (T.ps f).length = d.np
  nv : d.nv = (T.nm f).length
  chk : chkSs T (T.dd f).scope (T.nm f) d.body (T.dd f).body = true
  dfl : ∀ K m H, RepL T.W m H d.dfl ((T.dd f).dvs K)
  bnd : ∀ K fd, FunD K (T.dd f).name (T.dd f).qual (T.dd f).params (T.dd f).body (T.dd f).scope ((T.dd f).dvs K) ((T.dd f).kws K) (T.fa K f) fd → ∀ j, j ≤ d.dfl.length → ∃ ds, Vals (((T.dd f).dvs K).drop j) ds ∧ Binds K fd (T.ps f) ds
def FunAll (T : Stat) (K : PySem.W.Frag) : Prop := ∀ f d, T.P.defs[f]? = some d → ∃ fd, FunD K (T.dd f).name (T.dd f).qual (T.dd f).params (T.dd f).body (T.dd f).scope ((T.dd f).dvs K) ((T.dd f).kws K) (T.fa K f) fd
theorem srel_start {W : Nat → Str} {m : List Addr} {H : Hp} {N : List Str} : ∀ {ds : List Dat} {vs : List V} (r : RepL W m H ds vs), SRel W m H (startE N.length ds) (L2.start N vs) := by
  intro ds vs r
  have l := r.length
  refine ⟨by simp [startE, L2.start, l], fun i d e => ?_⟩
  unfold startE at e
  by_cases hi : i < ds.length
  · rw [List.getElem?_append_left (by simpa using hi), List.getElem?_map] at e
    cases q : ds[i]? with
    | none => rw [q] at e; cases e
    | some d' =>
      rw [q] at e
      cases e
      obtain ⟨v, h1, h2⟩ := r.get q
      refine ⟨v, ?_, h2⟩
      unfold L2.start
      rw [List.getElem?_append_left (by rw [List.length_map, l]; exact hi), List.getElem?_map, h1]
      rfl
  · rw [List.getElem?_append_right (by simpa using hi), List.getElem?_replicate] at e
    split at e <;> cases e
section
variable {T : Stat} {X : Cx} {n : Nat} {f : Nat} {d : DefI} {fn mk : Fn}
/-- no promise at all -/
theorem call_none (D : ∀ f d, T.P.defs[f]? = some d → DefOk T f d) (FD : FunAll T X.K) (k : Nat) : CallOk T X k noFn := by
  refine ⟨fun f d hd => ?_⟩
  obtain ⟨fd, F⟩ := FD f d hd
  have O := D f d hd
  refine ⟨O.psl, fd, (T.dd f).dvs X.K, O.dfl X.K, O.bnd X.K fd F, ⟨fun vs H Q E h => h.1, fun A outer s H args us vs Q E hr he hb hv hs => ?_⟩⟩
  obtain ⟨_, m, S, ds, _, _, hp⟩ := hs
  exact hp.elim
/-- one def, one level -/
theorem fn_step (D : ∀ f d, T.P.defs[f]? = some d → DefOk T f d) (Fc : Facts T X.K X.mg) (k : Nat)
    (hc : ∀ X' : Cx, X'.prog = X.prog → X'.w = X.w → X'.K = X.K → X'.mg = X.mg → X'.base = X.base → CallOk T X' (k + 1) fn)
    (hm : ∀ X' : Cx, X'.prog = X.prog → X'.w = X.w → X'.K = X.K → X'.mg = X.mg → X'.base = X.base → CallOk T X' k mk) (hd : T.P.defs[f]? = some d) {fd : FuncData}
    (F : FunD X.K (T.dd f).name (T.dd f).qual (T.dd f).params (T.dd f).body (T.dd f).scope ((T.dd f).dvs X.K) ((T.dd f).kws X.K) (T.fa X.K f) fd) :
    FnOk X.prog X.w X.K X.mg X.base (L2.CX X.prog X.w) (k + 2) (T.fa X.K f) fd (T.ps f) (T.sp X.K (runBody T.P fn mk) f) := by
  have O := D f d hd
  refine F.ok O.fs (fun vs H Q E h => h.1) fun cdv A outer s H vs Q E hr hs => ?_
  obtain ⟨hl, m, S, ds, rl, R, hp⟩ := hs
  generalize hX : cxOf (L2.CX X.prog X.w) X.prog X.w X.K X.mg X.base (T.nm f) (T.dd f).qual (T.dd f).scope (T.fa X.K f) cdv A outer s H E = X'
  have e1 : X'.prog = X.prog := by rw [← hX]; rfl
  have e2 : X'.w = X.w := by rw [← hX]; rfl
  have e3 : X'.K = X.K := by rw [← hX]; rfl
  have e4 : X'.mg = X.mg := by rw [← hX]; rfl
  have e5 : X'.base = X.base := by rw [← hX]; rfl
  have hr' : Room (k + 1) X'.A := by rw [← hX]; exact hr
  have hx : XOk T fn mk X' (T.dd f).scope (T.nm f) := by
    refine ⟨by rw [e3, e4]; exact Fc, by rw [← hX]; rfl, O.fs.nd, by rw [← hX]; rfl, by rw [← hX]; rfl, by have := hr'.un; omega, ?_, ⟨k + 1, hr', hc X' e1 e2 e3 e4 e5⟩, ⟨k, hr', hm X' e1 e2 e3 e4 e5⟩⟩
    subst hX
    exact L2.passes_of rfl
  have tk : Takes X' (fun cls d _ H => E cls d H) := by
    subst hX
    exact L2.takes_of rfl rfl rfl rfl
  have hfn : ∀ x, X'.fn x = true := fun x => by rw [← hX]; rfl
  refine ⟨_, pss_tw, snd_ss hx tk hfn d.body _ O.chk (m := m) (S := S) (σd := startE d.nv ds) (by rw [e3]; exact R) (by rw [O.nv]; exact srel_start rl) ?_⟩
  rw [e3]
  unfold runBody at hp
  rw [hd] at hp
  simp only at hp
  split at hp
  · revert hp
    cases exs T.P fn mk d.body (startE d.nv ds) S with
    | nx σ1 S1 => exact fun hp m' H' σ e R Sr => hp m' H' e R _ Rep.non
    | rt v S1 => exact fun hp m' H' v e R r => hp m' H' e R v r
    | exc c σ1 S1 => exact fun hp m' H' σ e R Sr => hp m' H' e R
    | bk σ1 S1 => exact fun hp => hp.elim
    | ct σ1 S1 => exact fun hp => hp.elim
    | bad => exact fun hp => hp.elim
  · exact hp.elim
/-- one level -/
theorem call_step (D : ∀ f d, T.P.defs[f]? = some d → DefOk T f d) (FD : FunAll T X.K) (Fc : Facts T X.K X.mg) (k : Nat)
    (hc : ∀ X' : Cx, X'.prog = X.prog → X'.w = X.w → X'.K = X.K → X'.mg = X.mg → X'.base = X.base → CallOk T X' (k + 1) fn)
    (hm : ∀ X' : Cx, X'.prog = X.prog → X'.w = X.w → X'.K = X.K → X'.mg = X.mg → X'.base = X.base → CallOk T X' k mk) : CallOk T X (k + 2) (runBody T.P fn mk) := by
  refine ⟨fun f d hd => ?_⟩
  obtain ⟨fd, F⟩ := FD f d hd
  have O := D f d hd
  exact ⟨O.psl, fd, (T.dd f).dvs X.K, O.dfl X.K, O.bnd X.K fd F, fn_step D Fc k hc hm hd F⟩
theorem call_all (D : ∀ f d, T.P.defs[f]? = some d → DefOk T f d) (FD : FunAll T X.K) (Fc : Facts T X.K X.mg) : ∀ n (X' : Cx), X'.prog = X.prog → X'.w = X.w → X'.K = X.K → X'.mg = X.mg → X'.base = X.base → CallOk T X' (n + 1) (callI T.P n)
  | 0, X', e1, e2, e3, e4, e5 => call_none D (by rw [e3]; exact FD) 1
  | 1, X', e1, e2, e3, e4, e5 => by
    show CallOk T X' 2 (runBody T.P noFn noFn)
    exact call_step D (by rw [e3]; exact FD) (by rw [e3, e4]; exact Fc) 0 (fun X2 _ _ q _ _ => call_none D (by rw [q, e3]; exact FD) 1) (fun X2 _ _ q _ _ => call_none D (by rw [q, e3]; exact FD) 0)
  | n + 2, X', e1, e2, e3, e4, e5 => by
    show CallOk T X' (n + 3) (runBody T.P (callI T.P (n + 1)) (callI T.P n))
    exact call_step D (by rw [e3]; exact FD) (by rw [e3, e4]; exact Fc) (n + 1)
      (fun X2 q1 q2 q3 q4 q5 => call_all D FD Fc (n + 1) X2 (q1.trans e1) (q2.trans e2) (q3.trans e3) (q4.trans e4) (q5.trans e5))
      (fun X2 q1 q2 q3 q4 q5 => call_all D FD Fc n X2 (q1.trans e1) (q2.trans e2) (q3.trans e3) (q4.trans e4) (q5.trans e5))
/-- the def at the top -/
theorem fn_all (D : ∀ f d, T.P.defs[f]? = some d → DefOk T f d) (FD : FunAll T X.K) (Fc : Facts T X.K X.mg) (n : Nat) (hd : T.P.defs[f]? = some d) {fd : FuncData}
    (F : FunD X.K (T.dd f).name (T.dd f).qual (T.dd f).params (T.dd f).body (T.dd f).scope ((T.dd f).dvs X.K) ((T.dd f).kws X.K) (T.fa X.K f) fd) :
    FnOk X.prog X.w X.K X.mg X.base (L2.CX X.prog X.w) (n + 3) (T.fa X.K f) fd (T.ps f) (T.sp X.K (callI T.P (n + 2)) f) :=
  fn_step (fn := callI T.P (n + 1)) (mk := callI T.P n) D Fc (n + 1) (fun X' e1 e2 e3 e4 e5 => call_all D FD Fc (n + 1) X' e1 e2 e3 e4 e5) (fun X' e1 e2 e3 e4 e5 => call_all D FD Fc n X' e1 e2 e3 e4 e5) hd F
end
/-! ### the law -/
/-- the law's def at the script: what the run in data says -/
theorem law_sp {T : Stat} {K : PySem.W.Frag} {n f : Nat} {d : DefI} (hd : T.P.defs[f]? = some d) (hp : (T.ps f).length = 1) {ns : List Int} {S' : Store} (run : callI T.P n f [.loc 0] [.scr (ns.map Dat.int)] = .ok (.bl true) S')
    {H : Hp} {a : Addr} (hS : SqL K H a (ns.map V.int)) (hO : Only H) (hall : (∃ o, H a = some (.frz o (.lst (ns.map V.int)))) ∨ ∀ H', SqL K H' a (ns.map V.int)) : T.sp K (callI T.P n) f [.ref a] H (fun v _ => v = .bl true) fun _ _ _ => False := by
  have rI : ∀ (ns : List Int) m, RepL T.W m H (ns.map Dat.int) (ns.map V.int) := by
    intro ns m
    induction ns with
    | nil => exact RepL.nil
    | cons i r ih => exact RepL.cons Rep.int ih
  refine ⟨by rw [hp]; rfl, [a], [.scr (ns.map Dat.int)], [.loc 0], RepL.cons ?_ RepL.nil, ⟨rfl, fun i j b n1 n2 e1 e2 => ?_, fun l c e => ?_⟩, ?_⟩
  · simp only [Rep]
    exact ⟨a, rfl, rfl⟩
  · cases i with
    | zero => exact absurd rfl (n1 (ns.map Dat.int))
    | succ i => cases e1
  · cases l with
    | zero => cases e; exact ⟨a, rfl, _, hall, rI ns _⟩
    | succ l => cases e
  · rw [run]
    intro m' H' e R v r
    simp only [Rep] at r
    exact r
theorem sql_split {K : PySem.W.Frag} {H : Hp} {a : Addr} {xs : List V} (hO : Only H) (hS : SqL K H a xs) : (∃ o, H a = some (.frz o (.lst xs))) ∨ ∀ H', SqL K H' a xs := by
  rcases hS with h | h
  · rcases h with h | ⟨o, h⟩
    · rcases hO a with z | ⟨o, ys, z⟩
      · rw [h] at z; cases z
      · rw [h] at z; cases z
    · exact .inl ⟨o, h⟩
  · exact .inr fun H' => .inr h
end PyS

/-! S10: from the head's facts to the law's end. -/
namespace PyS
open PySem PySem.Spec PyProof.Rows L2 PyI
/-! ### the words -/
def wmax : List Str → Nat
  | [] => 1
  | s :: r => s.cps.size + wmax r
def longS (L i : Nat) : Str := ⟨(List.replicate (L + i) 0).toArray⟩
def wtab (ws : List Str) (i : Nat) : Str := match ws[i]? with
  | some s => s
  | none => longS (wmax ws) i
theorem wmax_lt : ∀ {ws : List Str} {i : Nat} {s : Str}, ws[i]? = some s → s.cps.size < wmax ws
  | s :: r, 0, t, e => by
    cases e
    have : 0 < wmax r := by
      induction r with
      | nil => exact Nat.one_pos
      | cons a r ih => unfold wmax; omega
    unfold wmax; omega
  | s :: r, i + 1, t, e => by
    have := wmax_lt (ws := r) (i := i) (s := t) (by simpa using e)
    unfold wmax; omega
theorem wtab_inj {ws : List Str} (nd : ws.Nodup) : ∀ i j, wtab ws i = wtab ws j → i = j := by
  intro i j h
  unfold wtab at h
  cases ei : ws[i]? with
  | some s =>
    cases ej : ws[j]? with
    | some t =>
      rw [ei, ej] at h
      simp only at h
      subst h
      obtain ⟨hi, e1⟩ := List.getElem?_eq_some_iff.mp ei
      obtain ⟨hj, e2⟩ := List.getElem?_eq_some_iff.mp ej
      exact (List.getElem_inj nd).mp (e1.trans e2.symm)
    | none =>
      rw [ei, ej] at h
      simp only at h
      have := wmax_lt ei
      rw [h] at this
      simp [longS] at this; omega
  | none =>
    cases ej : ws[j]? with
    | some t =>
      rw [ei, ej] at h
      simp only at h
      have := wmax_lt ej
      rw [← h] at this
      simp [longS] at this; omega
    | none =>
      rw [ei, ej] at h
      simp only at h
      have : (longS (wmax ws) i).cps.size = (longS (wmax ws) j).cps.size := by rw [h]
      simp [longS] at this
      exact this
theorem wtab_ok {ws : List Str} (h : ws.all PyData.strOk = true) (i : Nat) : PyData.strOk (wtab ws i) = true := by
  unfold wtab
  cases e : ws[i]? with
  | some s => exact List.all_eq_true.mp h s (List.mem_of_getElem? e)
  | none =>
    unfold PyData.strOk longS
    rw [Array.all_eq_true']
    intro x hx
    have : x ∈ List.replicate (wmax ws + i) 0 := by simpa using hx
    rw [List.eq_of_mem_replicate this]
    decide
/-! ### the facts by names -/
def gloFa (T : Stat) (g : Nat) (d : Dat) : List He.Fa := match d with
  | .int i => [.int (T.gn g) i]
  | .str k => [.str (T.gn g) (T.W k)]
  | _ => []
def gloB (d : Dat) : Bool := match d with
  | .int _ => true
  | .str _ => true
  | _ => false
def clsFa (T : Stat) (c : Nat) (k : ClsI) : List He.Fa := .cls (T.cn c) :: .glo (T.cn c) :: .mkr (T.cn c) :: (k.ms.map (fun p => He.Fa.meth (T.cn c) (T.W p.1)) ++ k.flds.map fun f => He.Fa.noat (T.cn c) (T.W f))
def Stat.facts (T : Stat) : List He.Fa := T.fr.map He.Fa.free ++ ((List.range T.P.defs.length).flatMap (fun f => if (T.dd f).at_.2 = none then [He.Fa.glo (T.dd f).at_.1] else []) ++
  ((List.range T.P.cls.length).flatMap (fun c => (T.P.cls[c]?).elim [] (clsFa T c)) ++ (List.range T.P.globs.length).flatMap fun g => (T.P.globs[g]?).elim [] (gloFa T g)))
def Stat.dds (T : Stat) : List He.DefD := (List.range T.P.defs.length).map T.dd
def Stat.atB (T : Stat) : Bool := T.P.globs.all gloB && (List.range T.P.cls.length).all fun c => (T.P.cls[c]?).elim true fun k =>
  decide ((T.dd k.init).at_ = (T.cn c, some ("__init__" : Str))) && k.ms.all fun p => decide ((T.dd p.2).at_ = (T.cn c, some (T.W p.1)))
section
variable {T : Stat} {K : PySem.W.Frag} {h : Heap} {mg : Str → Option Value}
theorem facts_of (X : K.In h) (G : h.Ns mainGlobals mg) (c : He.SaysD T.facts T.dds K) (hW : ∀ i j, T.W i = T.W j → i = j) (hS : ∀ k, PyData.strOk (T.W k) = true) (ok : T.atB = true) : Facts T K mg ∧ FunAll T K := by
  have cf : ∀ x ∈ T.facts, x.ok K = true := by
    intro x hx
    obtain ⟨i, hi⟩ := List.mem_iff_getElem?.mp hx
    exact c.fact i hi
  have FA : FunAll T K := by
    intro f d hd
    have hl := (List.getElem?_eq_some_iff.mp hd).1
    exact c.def_ f (d := T.dd f) (by unfold Stat.dds; rw [List.getElem?_map, List.getElem?_range hl]; rfl)
  unfold Stat.atB at ok
  simp only [Bool.and_eq_true] at ok
  obtain ⟨ok1, ok2⟩ := ok
  have mc : ∀ c k, T.P.cls[c]? = some k → ∀ x ∈ clsFa T c k, x.ok K = true := by
    intro c k hk x hx
    refine cf x ?_
    unfold Stat.facts
    refine List.mem_append_right _ (List.mem_append_right _ (List.mem_append_left _ (List.mem_flatMap.mpr ⟨c, List.mem_range.mpr (List.getElem?_eq_some_iff.mp hk).1, ?_⟩)))
    rw [hk]; exact hx
  refine ⟨⟨hW, hS, fun g d hd => ?_, fun f hf hat => ?_, fun c k hk => ?_, fun x hx => ?_⟩, FA⟩
  · have hm : ∀ x ∈ gloFa T g d, x.ok K = true := by
      intro x hx
      refine cf x ?_
      unfold Stat.facts
      refine List.mem_append_right _ (List.mem_append_right _ (List.mem_append_right _ (List.mem_flatMap.mpr ⟨g, List.mem_range.mpr (List.getElem?_eq_some_iff.mp hd).1, ?_⟩)))
      rw [hd]; exact hx
    have hb := List.all_eq_true.mp ok1 d (List.mem_of_getElem? hd)
    cases d with
    | int i =>
      obtain ⟨t, e⟩ := He.int_ok X G (hm _ (List.mem_singleton.mpr rfl))
      exact ⟨_, .int i, e, ⟨t, rfl⟩, fun _ _ => Rep.int⟩
    | str k =>
      obtain ⟨t, e⟩ := He.str_ok X G (hm _ (List.mem_singleton.mpr rfl))
      exact ⟨_, .str (T.W k), e, ⟨t, rfl⟩, fun _ _ => Rep.str⟩
    | _ => cases hb
  · have hg : (He.Fa.glo (T.dd f).at_.1).ok K = true := by
      refine cf _ ?_
      unfold Stat.facts
      refine List.mem_append_right _ (List.mem_append_left _ (List.mem_flatMap.mpr ⟨f, List.mem_range.mpr hf, ?_⟩))
      rw [if_pos hat]
      exact List.mem_singleton.mpr rfl
    have e : T.fa K f = He.ga K (T.dd f).at_.1 := by
      unfold Stat.fa He.fAd
      rw [hat]
    obtain ⟨fd, F⟩ := FA f _ (List.getElem?_eq_getElem hf)
    exact ⟨by rw [e]; exact He.glo_ok X G hg, F.kp⟩
  · have hm := mc c k hk
    have hat := List.all_eq_true.mp ok2 c (List.mem_range.mpr (List.getElem?_eq_some_iff.mp hk).1)
    rw [hk] at hat
    simp only [Option.elim, Bool.and_eq_true, decide_eq_true_eq] at hat
    obtain ⟨a1, a2⟩ := hat
    have h1 : Cls K (He.ga K (T.cn c)) := He.cls_ok (hm _ (by simp [clsFa]))
    have h2 := He.glo_ok X G (hm (.glo (T.cn c)) (by simp [clsFa]))
    have h3 : Mk K (He.ga K (T.cn c)) (He.ma K (He.ga K (T.cn c)) "__init__") := He.mkr_ok (hm _ (by simp [clsFa]))
    refine ⟨h1, h2, ?_, fun p hp => ?_, fun f hf => ?_⟩
    · unfold Stat.fa He.fAd
      rw [a1]
      exact h3
    · have a3 := of_decide_eq_true (List.all_eq_true.mp a2 p hp)
      unfold Stat.fa He.fAd
      rw [a3]
      exact He.meth_ok (hm _ (by
        unfold clsFa
        exact List.mem_cons_of_mem _ (List.mem_cons_of_mem _ (List.mem_cons_of_mem _ (List.mem_append_left _ (List.mem_map.mpr ⟨p, hp, rfl⟩))))))
    · exact He.noat_ok (hm _ (by
        unfold clsFa
        exact List.mem_cons_of_mem _ (List.mem_cons_of_mem _ (List.mem_cons_of_mem _ (List.mem_append_right _ (List.mem_map.mpr ⟨f, hf, rfl⟩))))))
  · refine He.free_ok X G (cf _ ?_)
    unfold Stat.facts
    exact List.mem_append_left _ (List.mem_map.mpr ⟨x, hx, rfl⟩)
end
/-! ### the end -/
theorem walk_D {l : PySem.W.OpenLaw} {n k : Nat} {q : Program} {loose : List Str} {XP : (Str → Option Value) → Heap → Prop} {d : DefRec} {x : Str} {T : Stat} {lf : Nat} {ld : DefI}
    (hn : l.most = some n) (hn2 : n ≤ sizeLine) (hdf : d.params.defaults = []) (hr : Room (k + 3) callerA) (hW : ∀ i j, T.W i = T.W j → i = j) (hS : ∀ k, PyData.strOk (T.W k) = true) (ok : T.atB = true)
    (DO : ∀ f d, T.P.defs[f]? = some d → DefOk T f d) (hld : T.P.defs[lf]? = some ld) (hat : (T.dd lf).at_ = (d.name, none)) (hps : T.ps lf = [x]) (hdfl : (T.dd lf).dfl = [])
    (hbind : ∀ (kV doc pm : Value) (an : Option Addr) (cdv ct : Value) (us : List Value), us.length = 1 → bindArgs (PySem.W.fnOf (T.dd lf).name (T.dd lf).qual (T.dd lf).params (T.dd lf).body (T.dd lf).scope .none kV doc pm an cdv ct) ⟨us, []⟩ = pure ([x].zip us))
    (run : ∀ ns : List Int, ns.length ≤ n → ∃ S', callI T.P (k + 2) lf [.loc 0] [.scr (ns.map Dat.int)] = .ok (.bl true) S') :
    PySem.W.WalkO q loose XP (fun _ h => ∃ K : PySem.W.Frag, K.In h ∧ He.SaysD T.facts T.dds K) l.row.toRowW d [] (fun f vs => PySem.call f vs) := by
  refine Att.attach_call hn hdf fun w s₀ s₁ mg mb fa o pm cd doc a vs ns G Y ho hd hcd hmg hobj hints hlen hg => ?_
  obtain ⟨K, KX, c⟩ := Y
  obtain ⟨Fc, FA⟩ := facts_of KX G.T.g c hW hS ok
  have hl := (List.getElem?_eq_some_iff.mp hld).1
  have hfa : T.fa K lf = fa := by
    have h1 := (Fc.fn_ lf hl (by rw [hat])).1
    rw [hat] at h1
    have h1 : mg d.name = some (.ref (T.fa K lf)) := h1
    rw [hmg] at h1
    cases h1; rfl
  obtain ⟨fd, F⟩ := FA lf ld hld
  have F' : FunD K (T.dd lf).name (T.dd lf).qual (T.dd lf).params (T.dd lf).body (T.dd lf).scope [] ((T.dd lf).kws K) (T.fa K lf) fd := by
    have e : (T.dd lf).dvs K = [] := by unfold He.DefD.dvs; rw [hdfl]; rfl
    rw [e] at F
    exact F
  have hb : ∀ (s : Shared) (u : Value), BindsTo s fd ⟨[u], []⟩ [(x, u)] := fun s u => FunD.bindsA (ps := [x]) F' hbind s [u] rfl
  have hall : ∀ base : Heap, K.In base → base.Ns mainGlobals mg → FnOk l.prog w K mg base (L2.CX l.prog w) (k + 3) fa fd [x] (T.sp K (callI T.P (k + 2)) lf) := fun base _ _ => by
    have FO := fn_all (X := { prog := l.prog, w := w, K := K, mg := mg, base := base, A := callerA, N := [], s_0 := s₁, H_0 := fun _ => none, env := envOfC d.name d.scope 0 0 cd, outer := [], stack := [], ex := [], calm := true, fn := fun _ => true, pn := [], xe := fun _ _ => True }) DO FA Fc k hld F
    rw [hps] at FO
    rw [← hfa]
    exact FO
  exact law_call KX G.T.g G.T.b G.T.builtins G.T.nolimit hg hobj hints (Nat.le_trans hlen hn2) hr hall hb
    (fun H hO hS => by
      obtain ⟨S', r⟩ := run ns hlen
      exact law_sp hld (by rw [hps]; rfl) r hS hO (sql_split hO hS)) fun H e s' z => by
      obtain ⟨_, _, _, _, _, _, _, _, _, _, _, _, z⟩ := z
      exact z
end PyS

/-! Q1: what a run in data comes to: goals turned backwards. -/
namespace PyI
def Ok {α : Type} (r : Re α) (Q : α → Store → Prop) : Prop := match r with
  | .ok a S => Q a S
  | _ => False
theorem Ok.ex {α : Type} {r : Re α} {Q : α → Store → Prop} (h : Ok r Q) : ∃ a S, r = .ok a S ∧ Q a S := by
  cases r with
  | ok a S => exact ⟨a, S, rfl, h⟩
  | _ => exact h.elim
theorem Ok.imp {α : Type} {r : Re α} {Q Q' : α → Store → Prop} (h : Ok r Q) (k : ∀ a S, Q a S → Q' a S) : Ok r Q' := by
  cases r with
  | ok a S => exact k a S h
  | _ => exact h.elim
theorem Ok_ok {α : Type} {a : α} {S : Store} {Q : α → Store → Prop} : Ok (.ok a S) Q = Q a S := rfl
theorem Ok_bad {α : Type} {Q : α → Store → Prop} : Ok .bad Q = False := rfl
theorem Ok_bind {α β : Type} {r : Re α} {f : α → Store → Re β} {Q : β → Store → Prop} : Ok (r.bind f) Q = Ok r fun a S => Ok (f a S) Q := by cases r <;> rfl
theorem Ok_nox {α : Type} {r : Re α} {Q : α → Store → Prop} : Ok r.nox Q = Ok r Q := by cases r <;> rfl
structure En where
  nx : Slots → Store → Prop
  rt : Dat → Store → Prop
  bk : Slots → Store → Prop := fun _ _ => False
  ct : Slots → Store → Prop := fun _ _ => False
def Os (r : SR) (D : En) : Prop := match r with
  | .nx σ S => D.nx σ S
  | .rt d S => D.rt d S
  | .bk σ S => D.bk σ S
  | .ct σ S => D.ct σ S
  | _ => False
theorem Os_nx {σ : Slots} {S : Store} {D : En} : Os (.nx σ S) D = D.nx σ S := rfl
theorem Os_rt {d : Dat} {S : Store} {D : En} : Os (.rt d S) D = D.rt d S := rfl
theorem Os_bk {σ : Slots} {S : Store} {D : En} : Os (.bk σ S) D = D.bk σ S := rfl
theorem Os_ct {σ : Slots} {S : Store} {D : En} : Os (.ct σ S) D = D.ct σ S := rfl
theorem Os_bad {D : En} : Os .bad D = False := rfl
theorem Os_go {α : Type} {r : Re α} {σ : Slots} {f : α → Store → SR} {D : En} : Os (r.go σ f) D = Ok r fun a S => Os (f a S) D := by cases r <;> rfl
theorem Os_then {r : SR} {f : Slots → Store → SR} {D : En} : Os (r.andThen f) D = Os r { D with nx := fun σ S => Os (f σ S) D } := by cases r <;> rfl
theorem Os.imp {r : SR} {D D' : En} (h : Os r D) (k1 : ∀ σ S, D.nx σ S → D'.nx σ S) (k2 : ∀ d S, D.rt d S → D'.rt d S) (k3 : ∀ σ S, D.bk σ S → D'.bk σ S) (k4 : ∀ σ S, D.ct σ S → D'.ct σ S) : Os r D' := by
  cases r with
  | nx σ S => exact k1 σ S h
  | rt d S => exact k2 d S h
  | bk σ S => exact k3 σ S h
  | ct σ S => exact k4 σ S h
  | _ => exact h.elim
/-! operators -/
section
variable {S : Store} {Q : Dat → Store → Prop}
theorem b_add {i j : Int} : Ok (bop .add (.int i) (.int j) S) Q = Q (.int (i + j)) S := rfl
theorem b_sub {i j : Int} : Ok (bop .sub (.int i) (.int j) S) Q = Q (.int (i - j)) S := rfl
theorem if_Ok {α : Type} {c : Prop} [Decidable c] {a : α} {S : Store} {Q : α → Store → Prop} : Ok (if c then .ok a S else .bad) Q = (c ∧ Q a S) := by
  by_cases h : c
  · rw [if_pos h]; simp [Ok, h]
  · rw [if_neg h]; simp [Ok, h]
theorem b_mul {i j : Int} : Ok (bop .mul (.int i) (.int j) S) Q = ((big64 i ∨ big64 j) ∧ Q (.int (i * j)) S) := if_Ok
theorem b_fdiv {i j : Int} : Ok (bop .fdiv (.int i) (.int j) S) Q = ((0 < j ∧ j < 1073741824) ∧ Q (.int (i / j)) S) := if_Ok
theorem b_mod {i j : Int} : Ok (bop .mod (.int i) (.int j) S) Q = (0 < j ∧ Q (.int (i % j)) S) := if_Ok
theorem b_pow {i j : Int} : Ok (bop .pow (.int i) (.int j) S) Q = ((0 ≤ j ∧ j ≤ 1000000 ∧ i.natAbs < 2 ^ 64) ∧ Q (.int (i ^ j.toNat)) S) := if_Ok
theorem b_cat {l k : Nat} {xs ys : List Dat} (h1 : S[l]? = some (.lst xs)) (h2 : S[k]? = some (.lst ys)) : Ok (bop .add (.loc l) (.loc k) S) Q = (xs.length + ys.length ≤ LIM ∧ Q (.loc S.length) (S ++ [.lst (xs ++ ys)])) := by
  simp only [bop, h1, h2]; exact if_Ok
theorem b_catT {xs ys : List Dat} : Ok (bop .add (.tup xs) (.tup ys) S) Q = ((xs.length + ys.length ≤ LIM ∧ xs ≠ [] ∧ ys ≠ []) ∧ Q (.tup (xs ++ ys)) S) := if_Ok
theorem c_lt {i j : Int} : Ok (cop .lt (.int i) (.int j) S) Q = Q (.bl (decide (i < j))) S := rfl
theorem c_le {i j : Int} : Ok (cop .le (.int i) (.int j) S) Q = Q (.bl (decide (i ≤ j))) S := rfl
theorem c_gt {i j : Int} : Ok (cop .gt (.int i) (.int j) S) Q = Q (.bl (decide (j < i))) S := rfl
theorem c_ge {i j : Int} : Ok (cop .ge (.int i) (.int j) S) Q = Q (.bl (decide (j ≤ i))) S := rfl
theorem c_eq {a b : Dat} : Ok (cop .eq a b S) Q = ((shp a = true ∧ shp b = true) ∧ Q (.bl (deq a b)) S) := if_Ok
theorem c_ne {a b : Dat} : Ok (cop .ne a b S) Q = ((shp a = true ∧ shp b = true) ∧ Q (.bl (!deq a b)) S) := if_Ok
theorem c_is {a b : Dat} : Ok (cop .is_ a b S) Q = (b = .non ∧ Q (.bl (decide (a = .non))) S) := if_Ok
theorem c_isn {a b : Dat} : Ok (cop .isn a b S) Q = (b = .non ∧ Q (.bl (!decide (a = .non))) S) := if_Ok
theorem i_max {i j : Int} : Ok (bcall .max2 [.int i, .int j] S) Q = Q (.int (if j > i then j else i)) S := rfl
theorem i_min {i j : Int} : Ok (bcall .min2 [.int i, .int j] S) Q = Q (.int (if j < i then j else i)) S := rfl
theorem i_lenT {xs : List Dat} : Ok (bcall .len [.tup xs] S) Q = Q (.int xs.length) S := rfl
theorem i_lenL {l : Nat} {xs : List Dat} (h : S[l]? = some (.lst xs)) : Ok (bcall .len [.loc l] S) Q = Q (.int xs.length) S := by simp only [bcall, h]; rfl
theorem i_lenD {l : Nat} {xs : List (Dat × Dat)} (h : S[l]? = some (.dct xs)) : Ok (bcall .len [.loc l] S) Q = Q (.int xs.length) S := by simp only [bcall, h]; rfl
theorem x_tup {xs : List Dat} {k : Int} : Ok (gidx (.tup xs) (.int k) S) Q = (match atD xs k with
  | some d => Q d S
  | none => False) := by
  simp only [gidx]
  rcases atD xs k with _ | d <;> rfl
theorem x_lst {l : Nat} {xs : List Dat} {k : Int} (h : S[l]? = some (.lst xs)) : Ok (gidx (.loc l) (.int k) S) Q = (match atD xs k with
  | some d => Q d S
  | none => False) := by
  simp only [gidx, h]
  rcases atD xs k with _ | d <;> rfl
theorem s_lst {l : Nat} {xs : List Dat} {k : Int} {v : Dat} {QU : Unit → Store → Prop} (h : S[l]? = some (.lst xs)) : Ok (stidx (.loc l) (.int k) v S) QU = (match ixD xs.length k with
  | some j => QU () (S.set l (.lst (xs.set j v)))
  | none => False) := by
  simp only [stidx, h]
  rcases ixD xs.length k with _ | d <;> rfl
theorem m_app {l : Nat} {xs : List Dat} {d : Dat} (h : S[l]? = some (.lst xs)) : Ok (bmeth .append (.loc l) [d] S) Q = (xs.length < LIM ∧ Q .non (S.set l (.lst (xs ++ [d])))) := by
  simp only [bmeth, h]; exact if_Ok
theorem w_xtup {xs : List Dat} {k : Int} {d : Dat} (h : atD xs k = some d) (q : Q d S) : Ok (gidx (.tup xs) (.int k) S) Q := by rw [x_tup, h]; exact q
theorem w_xlst {l : Nat} {xs : List Dat} {k : Int} {d : Dat} (h : S[l]? = some (.lst xs)) (h2 : atD xs k = some d) (q : Q d S) : Ok (gidx (.loc l) (.int k) S) Q := by rw [x_lst h, h2]; exact q
theorem w_slst {l : Nat} {xs : List Dat} {k : Int} {j : Nat} {v : Dat} {QU : Unit → Store → Prop} (h : S[l]? = some (.lst xs)) (h2 : ixD xs.length k = some j) (q : QU () (S.set l (.lst (xs.set j v)))) : Ok (stidx (.loc l) (.int k) v S) QU := by rw [s_lst h, h2]; exact q
theorem w_app {l : Nat} {xs : List Dat} {d : Dat} (h : S[l]? = some (.lst xs)) (hz : xs.length < LIM) (q : Q .non (S.set l (.lst (xs ++ [d])))) : Ok (bmeth .append (.loc l) [d] S) Q := by rw [m_app h]; exact ⟨hz, q⟩
theorem w_lenL {l : Nat} {xs : List Dat} (h : S[l]? = some (.lst xs)) (q : Q (.int xs.length) S) : Ok (bcall .len [.loc l] S) Q := by rw [i_lenL h]; exact q
theorem w_cat {l k : Nat} {xs ys : List Dat} (h1 : S[l]? = some (.lst xs)) (h2 : S[k]? = some (.lst ys)) (hz : xs.length + ys.length ≤ LIM) (q : Q (.loc S.length) (S ++ [.lst (xs ++ ys)])) : Ok (bop .add (.loc l) (.loc k) S) Q := by rw [b_cat h1 h2]; exact ⟨hz, q⟩
theorem w_ift {c : Bool} {A B : Prop} (h : c = true) (a : A) : if c = true then A else B := by rw [if_pos h]; exact a
theorem w_iff {c : Bool} {A B : Prop} (h : ¬ c = true) (b : B) : if c = true then A else B := by rw [if_neg h]; exact b
theorem w_isi {t : Kd} {d : Dat} {b : Bool} (h : isTy S t d = some b) (q : Q (.bl b) S) : Ok (obl S (isTy S t d)) Q := by rw [h]; exact q
theorem w_isiT {t : Kd} {d : Dat} (h : isTy S t d = some true) (q : Q (.bl true) S) : Ok (obl S (isTy S t d)) Q := by rw [h]; exact q
theorem w_isiF {t : Kd} {d : Dat} (h : isTy S t d = some false) (q : Q (.bl false) S) : Ok (obl S (isTy S t d)) Q := by rw [h]; exact q
theorem r_app {l : Nat} {xs : List Dat} (h : S[l]? = some (.lst xs)) : brecv .append (.loc l) S = true := by simp only [brecv, h]
theorem ty_o {b : Bool} : Ok (obl S (some b)) Q = Q (.bl b) S := rfl
theorem t_non {t : Kd} : isTy S t .non = some false := rfl
theorem t_bl {t : Kd} {b : Bool} : isTy S t (.bl b) = some (t == .bool || t == .int) := rfl
theorem t_int {t : Kd} {i : Int} : isTy S t (.int i) = some (t == .int) := rfl
theorem t_str {t : Kd} {i : Nat} : isTy S t (.str i) = some (t == .str) := rfl
theorem t_tup {t : Kd} {l : List Dat} : isTy S t (.tup l) = some (t == .tuple) := rfl
theorem t_lst {t : Kd} {l : Nat} {xs : List Dat} (h : S[l]? = some (.lst xs)) : isTy S t (.loc l) = some (t == .list) := by simp only [isTy, h]
end
section
variable {P : Prog} {fn mk : Fn} {σ : Slots} {S : Store} {Q : Dat → Store → Prop} {QL : List Dat → Store → Prop} {QB : Bool → Store → Prop} {D : En}
/-! expressions -/
theorem ok_var {i : Nat} : Ok (ev P fn mk (.var i) σ S) Q = (match σ[i]? with
  | some (some d) => Q d S
  | _ => False) := by
  simp only [ev]
  rcases σ[i]? with _ | _ | d <;> rfl
theorem ok_con {d : Dat} : Ok (ev P fn mk (.con d) σ S) Q = Q d S := by simp only [ev]; rfl
theorem ok_glob {g : Nat} : Ok (ev P fn mk (.glob g) σ S) Q = (match P.globs[g]? with
  | some d => Q d S
  | _ => False) := by
  simp only [ev]
  rcases P.globs[g]? with _ | d <;> rfl
theorem ok_bin {o : BinO} {a b : Ex} : Ok (ev P fn mk (.bin o a b) σ S) Q = Ok (ev P fn mk a σ S) fun x S1 => Ok (ev P fn mk b σ S1) fun y S2 => Ok (bop o x y S2) Q := by simp only [ev, Ok_bind]
theorem ok_neg {a : Ex} : Ok (ev P fn mk (.neg a) σ S) Q = Ok (ev P fn mk a σ S) fun x S1 => (match x with
  | .int i => Q (.int (-i)) S1
  | _ => False) := by
  simp only [ev, Ok_bind]
  congr 1; funext x S1
  cases x <;> rfl
theorem ok_cmp {o : CmpO} {a b : Ex} : Ok (ev P fn mk (.cmp o a b) σ S) Q = Ok (ev P fn mk a σ S) fun x S1 => Ok (ev P fn mk b σ S1) fun y S2 => Ok (cop o x y S2) Q := by simp only [ev, Ok_bind]
theorem ok_and {a b : Ex} : Ok (ev P fn mk (.andE a b) σ S) Q = Ok (ev P fn mk a σ S) fun x S1 => (match x with
  | .bl true => Ok (ev P fn mk b σ S1) Q
  | .bl false => Q (.bl false) S1
  | _ => False) := by
  simp only [ev, Ok_bind]
  congr 1; funext x S1
  cases x with
  | bl b => cases b <;> rfl
  | _ => rfl
theorem ok_or {a b : Ex} : Ok (ev P fn mk (.orE a b) σ S) Q = Ok (ev P fn mk a σ S) fun x S1 => (match x with
  | .bl true => Q (.bl true) S1
  | .bl false => Ok (ev P fn mk b σ S1) Q
  | _ => False) := by
  simp only [ev, Ok_bind]
  congr 1; funext x S1
  cases x with
  | bl b => cases b <;> rfl
  | _ => rfl
theorem ok_not {a : Ex} : Ok (ev P fn mk (.notE a) σ S) Q = Ok (ev P fn mk a σ S) fun x S1 => (match x with
  | .bl b => Q (.bl (!b)) S1
  | _ => False) := by
  simp only [ev, Ok_bind]
  congr 1; funext x S1
  cases x with
  | bl b => cases b <;> rfl
  | _ => rfl
theorem ok_ite {c a b : Ex} : Ok (ev P fn mk (.ite c a b) σ S) Q = Ok (tst P fn mk c σ S) fun k S1 => if k = true then Ok (ev P fn mk a σ S1) Q else Ok (ev P fn mk b σ S1) Q := by
  simp only [ev, Ok_bind]
  congr 1; funext x S1
  split <;> rfl
theorem ok_chain {o o' : CmpO} {a b c : Ex} : Ok (ev P fn mk (.chain o o' a b c) σ S) Q = Ok (ev P fn mk a σ S) fun x S1 => Ok (ev P fn mk b σ S1) fun y S2 => Ok (cop o x y S2) fun r S3 => (match r with
  | .bl true => Ok (ev P fn mk c σ S3) fun z S4 => Ok (cop o' y z S4) Q
  | .bl false => Q (.bl false) S3
  | _ => False) := by
  simp only [ev, Ok_bind]
  congr 1; funext x S1
  congr 1; funext y S2
  congr 1; funext r S3
  cases r with
  | bl b =>
    cases b
    · rfl
    · simp only [Ok_bind]
  | _ => rfl
theorem ok_tup {es : Exs} : Ok (ev P fn mk (.tup es) σ S) Q = Ok (evs P fn mk es σ S) fun xs S1 => xs.length ≤ LIM ∧ Q (.tup xs) S1 := by
  simp only [ev, Ok_bind]
  congr 1; funext x S1
  split
  · rename_i h; simp [Ok_ok, h]
  · rename_i h; simp [Ok_bad, h]
theorem ok_lst {es : Exs} : Ok (ev P fn mk (.lst es) σ S) Q = Ok (evs P fn mk es σ S) fun xs S1 => xs.length ≤ LIM ∧ Q (.loc S1.length) (S1 ++ [.lst xs]) := by
  simp only [ev, Ok_bind]
  congr 1; funext x S1
  split
  · rename_i h; simp [Ok_ok, h]
  · rename_i h; simp [Ok_bad, h]
theorem ok_dct0 : Ok (ev P fn mk .dct0 σ S) Q = Q (.loc S.length) (S ++ [.dct []]) := by simp only [ev]; rfl
theorem ok_idx {a i : Ex} : Ok (ev P fn mk (.idx a i) σ S) Q = Ok (ev P fn mk a σ S) fun x S1 => Ok (ev P fn mk i σ S1) fun y S2 => Ok (gidx x y S2) Q := by simp only [ev, Ok_bind]
theorem ok_slice {a : Ex} {lo hi : Exs} : Ok (ev P fn mk (.slice a lo hi) σ S) Q = Ok (ev P fn mk a σ S) fun x S1 => Ok (evs P fn mk lo σ S1) fun l S2 => Ok (part l S2) fun l S2 => Ok (evs P fn mk hi σ S2) fun h S3 => Ok (part h S3) fun h S3 => Ok (gslice x l h S3) Q := by simp only [ev, Ok_bind]
theorem ok_fld {o : Ex} {f : Nat} : Ok (ev P fn mk (.fld o f) σ S) Q = Ok (ev P fn mk o σ S) fun x S1 => Ok (gfld P x f S1) Q := by simp only [ev, Ok_bind]
theorem ok_isi {a : Ex} {t : Kd} : Ok (ev P fn mk (.isi a t) σ S) Q = Ok (ev P fn mk a σ S) fun x S1 => Ok (obl S1 (isTy S1 t x)) Q := by simp only [ev, Ok_bind]
theorem ok_call {f : Nat} {es : Exs} : Ok (ev P fn mk (.call f es) σ S) Q = Ok (evs P fn mk es σ S) fun xs S1 => Ok (app P fn f xs S1) Q := by simp only [ev, Ok_bind]
theorem ok_meth {o : Ex} {m : Nat} {es : Exs} : Ok (ev P fn mk (.meth o m es) σ S) Q = Ok (ev P fn mk o σ S) fun x S1 => (match recv P x m S1 with
  | some f => Ok (evs P fn mk es σ S1) fun xs S2 => Ok (app P fn f (x :: xs) S2) Q
  | none => False) := by
  simp only [ev, Ok_bind]
  congr 1; funext x S1
  rcases recv P x m S1 with _ | f
  · rfl
  · simp only [Ok_bind]
theorem ok_new {c : Nat} {es : Exs} : Ok (ev P fn mk (.new c es) σ S) Q = Ok (evs P fn mk es σ S) fun xs S1 => (match P.cls[c]? with
  | some k => Ok (app P mk k.init (.loc S1.length :: xs) (S1 ++ [.ins c []])) fun r S2 => r = .non ∧ Q (.loc S1.length) S2
  | none => False) := by
  simp only [ev, Ok_bind]
  congr 1; funext x S1
  rcases P.cls[c]? with _ | k
  · rfl
  · simp only [Ok_bind, Ok_nox]
    congr 1; funext r S2
    cases r <;> simp [Ok_ok, Ok_bad]
theorem ok_bi {b : Bi} {es : Exs} : Ok (ev P fn mk (.bi b es) σ S) Q = Ok (evs P fn mk es σ S) fun xs S1 => Ok (bcall b xs S1) Q := by simp only [ev, Ok_bind]
theorem ok_bm {m : Bm} {o : Ex} {es : Exs} : Ok (ev P fn mk (.bm m o es) σ S) Q = Ok (ev P fn mk o σ S) fun x S1 => brecv m x S1 = true ∧ Ok (evs P fn mk es σ S1) fun xs S2 => Ok (bmeth m x xs S2) Q := by
  simp only [ev, Ok_bind]
  congr 1; funext x S1
  split
  · rename_i h; simp only [Ok_bind, h, true_and]
  · rename_i h; simp [Ok_bad, h]
theorem ok_nil : Ok (evs P fn mk .nil σ S) QL = QL [] S := by simp only [evs]; rfl
theorem ok_cons {e : Ex} {es : Exs} : Ok (evs P fn mk (.cons e es) σ S) QL = Ok (ev P fn mk e σ S) fun x S1 => Ok (evs P fn mk es σ S1) fun xs S2 => QL (x :: xs) S2 := by simp only [evs, Ok_bind]; rfl
theorem w_var {i : Nat} {d : Dat} (h : σ[i]? = some (some d)) (q : Q d S) : Ok (ev P fn mk (.var i) σ S) Q := by rw [ok_var, h]; exact q
theorem w_glob {g : Nat} {d : Dat} (h : P.globs[g]? = some d) (q : Q d S) : Ok (ev P fn mk (.glob g) σ S) Q := by rw [ok_glob, h]; exact q
/-! tests -/
theorem tt_and {a b : Ex} : Ok (tst P fn mk (.andE a b) σ S) QB = Ok (tst P fn mk a σ S) fun k S1 => if k = true then Ok (tst P fn mk b σ S1) QB else QB false S1 := by
  simp only [tst, Ok_bind]
  congr 1; funext x S1
  split <;> rfl
theorem tt_or {a b : Ex} : Ok (tst P fn mk (.orE a b) σ S) QB = Ok (tst P fn mk a σ S) fun k S1 => if k = true then QB true S1 else Ok (tst P fn mk b σ S1) QB := by
  simp only [tst, Ok_bind]
  congr 1; funext x S1
  split <;> rfl
theorem tt_not {a : Ex} : Ok (tst P fn mk (.notE a) σ S) QB = Ok (tst P fn mk a σ S) fun k S1 => QB (!k) S1 := by simp only [tst, Ok_bind]; rfl
theorem tt_cmp {o : CmpO} {a b : Ex} : Ok (tst P fn mk (.cmp o a b) σ S) QB = Ok (ev P fn mk (.cmp o a b) σ S) fun d S1 => Ok (toB d S1) QB := by simp only [tst, Ok_bind]
theorem tt_chain {o o' : CmpO} {a b c : Ex} : Ok (tst P fn mk (.chain o o' a b c) σ S) QB = Ok (ev P fn mk (.chain o o' a b c) σ S) fun d S1 => Ok (toB d S1) QB := by simp only [tst, Ok_bind]
theorem tt_var {i : Nat} : Ok (tst P fn mk (.var i) σ S) QB = Ok (ev P fn mk (.var i) σ S) fun d S1 => Ok (toB d S1) QB := by simp only [tst, Ok_bind]
theorem tt_con {d : Dat} : Ok (tst P fn mk (.con d) σ S) QB = Ok (toB d S) QB := by simp only [tst, Ok_bind, ok_con]
theorem tt_isi {a : Ex} {t : Kd} : Ok (tst P fn mk (.isi a t) σ S) QB = Ok (ev P fn mk (.isi a t) σ S) fun d S1 => Ok (toB d S1) QB := by simp only [tst, Ok_bind]
theorem tt_call {f : Nat} {es : Exs} : Ok (tst P fn mk (.call f es) σ S) QB = Ok (ev P fn mk (.call f es) σ S) fun d S1 => Ok (toB d S1) QB := by simp only [tst, Ok_bind]
theorem tt_meth {o : Ex} {m : Nat} {es : Exs} : Ok (tst P fn mk (.meth o m es) σ S) QB = Ok (ev P fn mk (.meth o m es) σ S) fun d S1 => Ok (toB d S1) QB := by simp only [tst, Ok_bind]
theorem tt_fld {o : Ex} {f : Nat} : Ok (tst P fn mk (.fld o f) σ S) QB = Ok (ev P fn mk (.fld o f) σ S) fun d S1 => Ok (toB d S1) QB := by simp only [tst, Ok_bind]
theorem tt_idx {o i : Ex} : Ok (tst P fn mk (.idx o i) σ S) QB = Ok (ev P fn mk (.idx o i) σ S) fun d S1 => Ok (toB d S1) QB := by simp only [tst, Ok_bind]
theorem toB_bl {b : Bool} : Ok (toB (.bl b) S) QB = QB b S := rfl
/-! statements -/
theorem os_nil : Os (exs P fn mk .nil σ S) D = D.nx σ S := by simp only [exs]; rfl
theorem os_cons {s : Stm} {r : Stms} : Os (exs P fn mk (.cons s r) σ S) D = Os (ex P fn mk s σ S) { D with nx := fun σ S => Os (exs P fn mk r σ S) D } := by simp only [exs, Os_then]
theorem os_expr {e : Ex} : Os (ex P fn mk (.expr e) σ S) D = Ok (ev P fn mk e σ S) fun _ S1 => D.nx σ S1 := by simp only [ex, Os_go]; rfl
theorem os_asg {t : Tg} {e : Ex} : Os (ex P fn mk (.asg t e) σ S) D = Ok (ev P fn mk e σ S) fun d S1 => Os (asg P fn mk t d σ S1) D := by simp only [ex, Os_go]
theorem os_aug {i : Nat} {o : BinO} {e : Ex} : Os (ex P fn mk (.aug i o e) σ S) D = (match σ[i]? with
  | some (some x) => Ok (ev P fn mk e σ S) fun y S1 => (match augV o x y with
    | some z => D.nx (σ.set i (some z)) S1
    | none => False)
  | _ => False) := by
  simp only [ex]
  rcases σ[i]? with _ | _ | x
  · rfl
  · rfl
  · simp only [Os_go]
    congr 1; funext y S1
    rcases augV o x y with _ | z <;> rfl
theorem os_augF {o : Ex} {f : Nat} {op : BinO} {e : Ex} : Os (ex P fn mk (.augF o f op e) σ S) D = Ok (ev P fn mk o σ S) fun x S1 => Ok (gfld P x f S1) fun v S2 => Ok (ev P fn mk e σ S2) fun y S3 => (match augV op v y with
  | some z => clsOf x S2 = clsOf x S3 ∧ Ok (sfld P x f z S3) fun _ S4 => D.nx σ S4
  | none => False) := by
  simp only [ex, Os_go]
  congr 1; funext x S1
  congr 1; funext v S2
  congr 1; funext y S3
  rcases augV op v y with _ | z
  · rfl
  · simp only
    split
    · rename_i h; simp only [Os_go, h, true_and]; rfl
    · rename_i h; simp [Os_bad, h]
theorem os_ite {c : Ex} {a b : Stms} : Os (ex P fn mk (.ite c a b) σ S) D = Ok (tst P fn mk c σ S) fun k S1 => if k = true then Os (exs P fn mk a σ S1) D else Os (exs P fn mk b σ S1) D := by
  simp only [ex, Os_go]
  congr 1; funext k S1
  split <;> rfl
theorem os_ret {e : Ex} : Os (ex P fn mk (.ret e) σ S) D = Ok (ev P fn mk e σ S) fun d S1 => D.rt d S1 := by simp only [ex, Os_go]; rfl
theorem os_retN : Os (ex P fn mk .retN σ S) D = D.rt .non S := by simp only [ex]; rfl
theorem os_brk : Os (ex P fn mk .brk σ S) D = D.bk σ S := by simp only [ex]; rfl
theorem os_cont : Os (ex P fn mk .cont σ S) D = D.ct σ S := by simp only [ex]; rfl
theorem os_pass : Os (ex P fn mk .pass σ S) D = D.nx σ S := by simp only [ex]; rfl
theorem os_for {t : Tg} {w : Wk} {b : Stms} : Os (ex P fn mk (.for_ t w b) σ S) D = Ok (walkOf P fn mk w σ S) fun p S1 => Os (forGo P fn mk t (exs P fn mk b) p.2 p.1 σ S1) D := by simp only [ex, Os_go]
theorem as_name {i : Nat} {d : Dat} : Os (asg P fn mk (.name i) d σ S) D = D.nx (σ.set i (some d)) S := rfl
theorem as_tup {is : List Tn} {ds : List Dat} : Os (asg P fn mk (.tup is) (.tup ds) σ S) D = (match setAll is ds σ with
  | some σ' => D.nx σ' S
  | none => False) := by
  simp only [asg]
  rcases setAll is ds σ with _ | z <;> rfl
theorem as_sub {o i : Ex} {d : Dat} : Os (asg P fn mk (.sub o i) d σ S) D = Ok (ev P fn mk o σ S) fun x S1 => Ok (ev P fn mk i σ S1) fun y S2 => Ok (stidx x y d S2) fun _ S3 => D.nx σ S3 := by simp only [asg, Os_go]; rfl
theorem as_fld {o : Ex} {f : Nat} {d : Dat} : Os (asg P fn mk (.fld o f) d σ S) D = Ok (ev P fn mk o σ S) fun x S1 => Ok (sfld P x f d S1) fun _ S2 => D.nx σ S2 := by simp only [asg, Os_go]; rfl
theorem wk_rng1 {e : Ex} {QW : List Dat × Option (Nat × List Dat) → Store → Prop} : Ok (walkOf P fn mk (.rng1 e) σ S) QW = Ok (ev P fn mk e σ S) fun x S1 => (match x with
  | .int n => (n < 2 ^ 62 ∧ -(2 ^ 62) ≤ n) ∧ QW ((List.range n.toNat).map fun k => .int (k : Nat), none) S1
  | _ => False) := by
  simp only [walkOf, Ok_bind]
  congr 1; funext x S1
  cases x <;> simp only <;> try rfl
  split
  · rename_i h; simp only [Ok_ok, h, true_and, and_self]
  · rename_i h; simp only [Ok_bad, h, false_and]
theorem wk_rng2 {a b : Ex} {QW : List Dat × Option (Nat × List Dat) → Store → Prop} : Ok (walkOf P fn mk (.rng2 a b) σ S) QW = Ok (ev P fn mk a σ S) fun x S1 => Ok (ev P fn mk b σ S1) fun y S2 => (match x, y with
  | .int i, .int j => (-(2 ^ 62) ≤ i ∧ i < 2 ^ 62 ∧ -(2 ^ 62) ≤ j ∧ j < 2 ^ 62) ∧ QW ((List.range (j - i).toNat).map fun k => .int (i + (k : Nat)), none) S2
  | _, _ => False) := by
  simp only [walkOf, Ok_bind]
  congr 1; funext x S1
  congr 1; funext y S2
  cases x with
  | int i =>
    cases y with
    | int j =>
      simp only
      split
      · rename_i h; simp only [Ok_ok, h, true_and, and_self]
      · rename_i h; simp only [Ok_bad, h, false_and]
    | _ => rfl
  | _ => rfl
theorem wk_seq {e : Ex} {QW : List Dat × Option (Nat × List Dat) → Store → Prop} : Ok (walkOf P fn mk (.seq e) σ S) QW = Ok (ev P fn mk e σ S) fun x S1 => (match x with
  | .tup xs => QW (xs, none) S1
  | .loc l => (match S1[l]? with
    | some (.lst xs) => QW (xs, some (l, xs)) S1
    | some (.scr xs) => QW (xs, some (l, xs)) S1
    | _ => False)
  | _ => False) := by
  simp only [walkOf, Ok_bind]
  congr 1; funext x S1
  cases x with
  | loc l =>
    simp only
    generalize S1[l]? = o
    rcases o with _ | c
    · rfl
    · cases c <;> rfl
  | _ => rfl
/-- a for by an invariant -/
theorem for_inv {t : Tg} {body : Slots → Store → SR} {g : Option (Nat × List Dat)} (I : Nat → Slots → Store → Prop) : ∀ {xs : List Dat} {k : Nat} {σ : Slots} {S : Store}, I k σ S → (∀ i σ S, I i σ S → still g S = true) →
    (∀ i x σ S, xs[i]? = some x → I (k + i) σ S → Os (asg P fn mk t x σ S) { nx := fun σ1 S1 => Os (body σ1 S1) { nx := I (k + i + 1), ct := I (k + i + 1), bk := D.nx, rt := D.rt }, rt := D.rt, bk := fun _ _ => False, ct := fun _ _ => False }) →
    (∀ σ S, I (k + xs.length) σ S → D.nx σ S) → Os (forGo P fn mk t body g xs σ S) D
  | [], k, σ, S, h, hs, st, he => by
    simp only [forGo, hs k σ S h, if_true]
    exact he σ S h
  | x :: xs, k, σ, S, h, hs, st, he => by
    simp only [forGo, hs k σ S h, if_true]
    have h1 := st 0 x σ S rfl h
    revert h1
    cases asg P fn mk t x σ S with
    | nx σ1 S1 =>
      intro h1
      have h1 : Os (body σ1 S1) _ := h1
      have go : ∀ σ2 S2, I (k + 0 + 1) σ2 S2 → Os (forGo P fn mk t body g xs σ2 S2) D := fun σ2 S2 h2 =>
        for_inv I (k := k + 1) h2 hs (fun i y σ S hy hi => by
          have := st (i + 1) y σ S (by simpa using hy) (by rw [show k + (i + 1) = k + 1 + i by omega]; exact hi)
          rw [show k + (i + 1) = k + 1 + i by omega] at this
          exact this) fun σ S q => he σ S (by rw [List.length_cons, show k + (xs.length + 1) = k + 1 + xs.length by omega]; exact q)
      revert h1
      simp only
      cases body σ1 S1 with
      | nx σ2 S2 => exact fun h1 => go σ2 S2 h1
      | ct σ2 S2 => exact fun h1 => go σ2 S2 h1
      | bk σ2 S2 => exact fun h1 => h1
      | rt d S2 => exact fun h1 => h1
      | exc c σ2 S2 => exact fun h1 => h1.elim
      | bad => exact fun h1 => h1.elim
    | rt d S1 => exact fun h1 => h1
    | bk σ1 S1 => exact fun h1 => h1.elim
    | ct σ1 S1 => exact fun h1 => h1.elim
    | exc c σ1 S1 => exact fun h1 => h1.elim
    | bad => exact fun h1 => h1.elim
theorem for_inv0 {t : Tg} {body : Slots → Store → SR} {g : Option (Nat × List Dat)} {xs : List Dat} (I : Nat → Slots → Store → Prop) (h : I 0 σ S) (hs : ∀ i σ S, I i σ S → still g S = true)
    (st : ∀ i x σ S, xs[i]? = some x → I i σ S → Os (asg P fn mk t x σ S) { nx := fun σ1 S1 => Os (body σ1 S1) { nx := I (i + 1), ct := I (i + 1), bk := D.nx, rt := D.rt }, rt := D.rt, bk := fun _ _ => False, ct := fun _ _ => False })
    (he : ∀ σ S, I xs.length σ S → D.nx σ S) : Os (forGo P fn mk t body g xs σ S) D := by
  refine for_inv I h hs (fun i x σ S hx hi => ?_) fun σ S hi => he σ S (by rw [Nat.zero_add] at hi; exact hi)
  rw [Nat.zero_add] at hi ⊢
  exact st i x σ S hx hi
end
/-! calls -/
theorem callI_s {P : Prog} {n f : Nat} {as : List Dat} {S : Store} : callI P (n + 1) f as S = runBody P (callI P n) (callI P (n - 1)) f as S := by
  cases n with
  | zero => rfl
  | succ n => rfl
theorem ok_body {P : Prog} {n f : Nat} {d : DefI} {as : List Dat} {S : Store} {Q : Dat → Store → Prop} (hd : P.defs[f]? = some d) (hl : as.length = d.np) (h : Os (exs P (callI P n) (callI P (n - 1)) d.body (startE d.nv as) S) { nx := fun _ S1 => Q .non S1, rt := Q }) : Ok (callI P (n + 1) f as S) Q := by
  rw [callI_s]
  unfold runBody
  rw [hd]
  simp only [hl, if_true]
  revert h
  cases exs P (callI P n) (callI P (n - 1)) d.body (startE d.nv as) S <;> exact fun h => h
theorem ok_app {P : Prog} {fn : Fn} {f : Nat} {d : DefI} {as : List Dat} {S : Store} {Q : Dat → Store → Prop} (hd : P.defs[f]? = some d) (hl : as.length = d.np) : Ok (app P fn f as S) Q = Ok (fn f as S) Q := by
  unfold app filled
  rw [hd]
  simp only
  rw [if_pos (by omega), show as.length + d.dfl.length - d.np = d.dfl.length by omega, List.drop_length, List.append_nil]
end PyI

/-! Q2: the parts that every law has. -/
namespace PyI
def bMixed : Stms :=
  (.cons (.asg (.name 2) (.bin .mod (.bin .add (.bin .add (.bin .mul (.var 0) (.con (.int 48271))) (.bin .mul (.var 1) (.con (.int 69621)))) (.con (.int 12345))) (.con (.int 2147483647))))
  (.cons (.ret (.bin .mod (.bin .add (.bin .mul (.var 2) (.bin .add (.bin .fdiv (.var 2) (.con (.int 65536))) (.con (.int 3)))) (.var 1)) (.con (.int 2147483647)))) .nil))
def iMixed : DefI := ⟨2, 3, [], bMixed⟩
def bTake : Stms :=
  (.cons (.ite (.cmp .gt (.var 3) (.con (.int 0)))
    (.cons (.expr (.bm .append (.var 1) (.cons (.bin .mod (.var 3) (.con (.int 1000000))) .nil)))
    (.cons (.asg (.name 3) (.bin .fdiv (.var 3) (.con (.int 1000000)))) .nil)) .nil) .nil)
def bMix (mx : Nat) : Stms :=
  (.cons (.expr (.bm .append (.var 1) (.cons (.bin .mod (.call mx (.cons (.call mx (.cons (.bin .mod (.var 2) (.con (.int 2147483647))) (.cons (.var 4) .nil))) (.cons (.bin .add (.var 4) (.con (.int 7))) .nil))) (.con (.int 1000000))) .nil))) .nil)
def bCell (mx : Nat) : Stms :=
  (.cons (.ite (.cmp .ge (.var 2) (.bin .pow (.con (.int 10)) (.con (.int 18))))
    (.cons (.asg (.name 3) (.var 2))
    (.cons (.for_ (.name 4) (.rng1 (.con (.int 60))) bTake) .nil))
    (.cons (.expr (.bm .append (.var 1) (.cons (.bin .mod (.var 2) (.con (.int 1000000))) .nil)))
    (.cons (.for_ (.name 4) (.rng1 (.con (.int 5))) (bMix mx)) .nil))) .nil)
def bNumbers (mx : Nat) : Stms :=
  (.cons (.asg (.name 1) (.lst .nil))
  (.cons (.for_ (.name 2) (.seq (.var 0)) (bCell mx))
  (.cons (.ret (.var 1)) .nil)))
def iNumbers (mx : Nat) : DefI := ⟨1, 5, [], bNumbers mx⟩
def bDraw (mx : Nat) : Stms :=
  (.cons (.asg (.name 1) (.idx (.var 0) (.con (.int 1))))
  (.cons (.asg (.sub (.var 0) (.con (.int 1))) (.bin .add (.var 1) (.con (.int 1))))
  (.cons (.ite (.cmp .lt (.var 1) (.bi .len (.cons (.idx (.var 0) (.con (.int 0))) .nil)))
    (.cons (.ret (.idx (.idx (.var 0) (.con (.int 0))) (.var 1))) .nil) .nil)
  (.cons (.asg (.name 2) (.bin .add (.con (.int 1)) (.var 1)))
  (.cons (.ite (.cmp .gt (.bi .len (.cons (.idx (.var 0) (.con (.int 0))) .nil)) (.con (.int 0)))
    (.cons (.asg (.name 2) (.bin .add (.var 2) (.bin .mul (.con (.int 1009)) (.idx (.idx (.var 0) (.con (.int 0))) (.con (.int 0)))))) .nil) .nil)
  (.cons (.ret (.bin .mod (.call mx (.cons (.call mx (.cons (.var 2) (.cons (.var 1) .nil))) (.cons (.con (.int 5)) .nil))) (.con (.int 1000000)))) .nil))))))
def iDraw (mx : Nat) : DefI := ⟨1, 3, [], bDraw mx⟩
/-- numbers below a million -/
def Goods (xs : List Int) : Prop := ∀ x ∈ xs, 0 ≤ x ∧ x < 1000000
def iLs (xs : List Int) : List Dat := xs.map Dat.int
theorem iLs_len {xs : List Int} : (iLs xs).length = xs.length := List.length_map ..
theorem iLs_snoc {xs : List Int} {x : Int} : iLs xs ++ [.int x] = iLs (xs ++ [x]) := by simp [iLs]
theorem Goods.snoc {xs : List Int} {x : Int} (h : Goods xs) (h0 : 0 ≤ x) (h1 : x < 1000000) : Goods (xs ++ [x]) := by
  intro y hy
  rcases List.mem_append.mp hy with hy | hy
  · exact h y hy
  · rw [List.mem_singleton.mp hy]; exact ⟨h0, h1⟩
theorem set_last {S : Store} {c c' : Cel} : (S ++ [c]).set S.length c' = S ++ [c'] := by simp
theorem get_last {S : Store} {c : Cel} : (S ++ [c])[S.length]? = some c := by simp
local macro_rules
  | `(tactic| fail) => `(tactic| first
    | (with_reducible first
      | refine Eq.mpr os_cons ?_ | refine Eq.mpr os_nil ?_ | refine Eq.mpr os_asg ?_ | refine Eq.mpr os_expr ?_ | refine Eq.mpr os_ite ?_ | refine Eq.mpr os_ret ?_
      | refine Eq.mpr os_retN ?_ | refine Eq.mpr os_brk ?_ | refine Eq.mpr os_cont ?_ | refine Eq.mpr os_pass ?_ | refine Eq.mpr os_for ?_ | refine Eq.mpr as_name ?_
      | refine Eq.mpr as_sub ?_ | refine Eq.mpr as_fld ?_ | refine Eq.mpr ok_con ?_ | refine Eq.mpr ok_bin ?_ | refine Eq.mpr ok_neg ?_ | refine Eq.mpr ok_cmp ?_
      | refine Eq.mpr ok_chain ?_ | refine Eq.mpr ok_and ?_ | refine Eq.mpr ok_or ?_ | refine Eq.mpr ok_not ?_ | refine Eq.mpr ok_ite ?_ | refine Eq.mpr ok_tup ?_
      | refine Eq.mpr ok_lst ?_ | refine Eq.mpr ok_idx ?_ | refine Eq.mpr ok_slice ?_ | refine Eq.mpr ok_fld ?_ | refine Eq.mpr ok_isi ?_ | refine Eq.mpr ok_call ?_
      | refine Eq.mpr ok_meth ?_ | refine Eq.mpr ok_bi ?_ | refine Eq.mpr ok_bm ?_ | refine Eq.mpr ok_nil ?_ | refine Eq.mpr ok_cons ?_ | refine Eq.mpr Ok_ok ?_
      | refine Eq.mpr tt_and ?_ | refine Eq.mpr tt_or ?_ | refine Eq.mpr tt_not ?_ | refine Eq.mpr tt_cmp ?_ | refine Eq.mpr tt_var ?_ | refine Eq.mpr tt_isi ?_
      | refine Eq.mpr tt_call ?_ | refine Eq.mpr tt_con ?_ | refine Eq.mpr tt_idx ?_ | refine Eq.mpr tt_chain ?_ | refine Eq.mpr tt_meth ?_ | refine Eq.mpr tt_fld ?_
      | refine Eq.mpr toB_bl ?_ | refine Eq.mpr b_add ?_ | refine Eq.mpr b_sub ?_ | refine Eq.mpr c_lt ?_ | refine Eq.mpr c_le ?_ | refine Eq.mpr c_gt ?_
      | refine Eq.mpr c_ge ?_ | refine Eq.mpr i_max ?_ | refine Eq.mpr i_min ?_ | refine Eq.mpr i_lenT ?_ | refine Eq.mpr wk_rng1 ?_
      | refine Eq.mpr wk_rng2 ?_ | refine Eq.mpr wk_seq ?_)
    | ((with_reducible refine Eq.mpr b_mul ⟨?_, ?_⟩); · first | assumption | (unfold big64; omega))
    | ((with_reducible refine Eq.mpr b_fdiv ⟨?_, ?_⟩); · omega)
    | ((with_reducible refine Eq.mpr b_mod ⟨?_, ?_⟩); · omega)
    | ((with_reducible refine Eq.mpr b_pow ⟨?_, ?_⟩); · decide)
    | ((with_reducible refine Eq.mpr c_eq ⟨?_, ?_⟩); · exact ⟨rfl, rfl⟩)
    | ((with_reducible refine Eq.mpr c_ne ⟨?_, ?_⟩); · exact ⟨rfl, rfl⟩)
    | ((with_reducible refine Eq.mpr c_is ⟨?_, ?_⟩); · rfl)
    | ((with_reducible refine Eq.mpr c_isn ⟨?_, ?_⟩); · rfl)
    | ((with_reducible apply w_var); · rfl)
    | ((with_reducible apply w_glob); · rfl)
    | ((with_reducible apply w_xtup); · rfl)
    | ((with_reducible refine And.intro ?_ ?_); · ((with_reducible show List.length _ ≤ LIM); exact Nat.le_of_ble_eq_true rfl))
    | ((with_reducible refine w_isiT ?_ ?_); · rfl)
    | ((with_reducible refine w_isiF ?_ ?_); · rfl)
    | ((with_reducible refine w_ift ?_ ?_); · first | assumption | decide)
    | ((with_reducible refine w_iff ?_ ?_); · first | assumption | decide)
    | dsimp only
    | rw [Bool.not_false]
    | rw [Bool.not_true])
section
variable {P : Prog} {n mx nb dr : Nat} {S : Store} {Q : Dat → Store → Prop}
theorem mixed_ok (hP : P.defs[mx]? = some iMixed) {a k : Int} (h : ∀ v, Q (.int v) S) : Ok (callI P (n + 1) mx [.int a, .int k] S) Q := by
  refine ok_body hP rfl ?_
  show Os (exs P _ _ bMixed [some (.int a), some (.int k), none] S) _
  unfold bMixed
  repeat fail
  exact h _
theorem still_scr {l : Nat} {xs : List Dat} (h : S[l]? = some (.scr xs)) : still (some (l, xs)) S = true := by
  simp only [still, stillL, h]
  exact Dat.sameL_rfl xs
theorem still_lst {l : Nat} {xs : List Dat} (h : S[l]? = some (.lst xs)) : still (some (l, xs)) S = true := by
  simp only [still, stillL, h]
  exact Dat.sameL_rfl xs
theorem loc_app {l : Nat} {xs : List Dat} {d : Dat} {QU : Dat → Store → Prop} (h : S[l]? = some (.lst xs)) (hz : xs.length < LIM) (q : QU .non (S.set l (.lst (xs ++ [d])))) : brecv .append (.loc l) S = true ∧ Ok (bmeth .append (.loc l) [d] S) QU := ⟨r_app h, w_app h hz q⟩
/-- the inner walk over a large cell -/
theorem take_ok {fn mk : Fn} {l L i : Nat} {xs : List Int} {z : Int} {a b : Option Dat} {D : En} (hg : Goods xs) (hl : xs.length ≤ 60 * i) (hi : i < 63) (hL : L = S.length)
    (hD : ∀ xs a b, Goods xs → xs.length ≤ 60 * (i + 1) → D.nx [some (.loc l), some (.loc L), some (.int z), a, b] (S ++ [.lst (iLs xs)])) :
    Os (forGo P fn mk (.name 4) (exs P fn mk bTake) none ((List.range (60 : Int).toNat).map fun k => .int (k : Nat)) [some (.loc l), some (.loc L), some (.int z), some (.int z), b] (S ++ [.lst (iLs xs)])) D := by
  subst hL
  refine for_inv0 (fun j σ S' => ∃ xs r b, S' = S ++ [.lst (iLs xs)] ∧ Goods xs ∧ xs.length ≤ 60 * i + j ∧ σ = [some (.loc l), some (.loc S.length), some (.int z), some (.int r), b]) ⟨xs, z, b, rfl, hg, hl, rfl⟩ (fun _ _ _ _ => rfl) ?_ ?_
  · rintro j x σ S' hx ⟨xs, r, b, rfl, hg, hl, rfl⟩
    have hj : j < 60 := by
      have := (List.getElem?_eq_some_iff.mp hx).1
      simpa using this
    unfold bTake
    repeat fail
    split
    · repeat fail
      refine ⟨r_app get_last, ?_⟩
      repeat fail
      refine w_app get_last (by rw [iLs_len]; unfold LIM; omega) ?_
      rw [set_last]
      repeat fail
      rw [iLs_snoc]
      exact ⟨_, _, _, rfl, hg.snoc (by omega) (by omega), by rw [List.length_append]; simp; omega, rfl⟩
    · repeat fail
      exact ⟨_, _, _, rfl, hg, by omega, rfl⟩
  · rintro σ S' ⟨xs, r, b, rfl, hg, hl, rfl⟩
    exact hD xs _ _ hg (by simp at hl; omega)
/-- the inner walk over a small cell -/
theorem mix_ok (hm : P.defs[mx]? = some iMixed) {l L i : Nat} {xs : List Int} {z : Int} {a b : Option Dat} {D : En} (hg : Goods xs) (hl : xs.length ≤ 60 * i + 1) (hi : i < 63) (hL : L = S.length)
    (hD : ∀ xs a b, Goods xs → xs.length ≤ 60 * (i + 1) → D.nx [some (.loc l), some (.loc L), some (.int z), a, b] (S ++ [.lst (iLs xs)])) :
    Os (forGo P (callI P (n + 1)) (callI P (n + 1 - 1)) (.name 4) (exs P (callI P (n + 1)) (callI P (n + 1 - 1)) (bMix mx)) none ((List.range (5 : Int).toNat).map fun k => .int (k : Nat)) [some (.loc l), some (.loc L), some (.int z), a, b] (S ++ [.lst (iLs xs)])) D := by
  subst hL
  refine for_inv0 (fun j σ S' => ∃ xs b, S' = S ++ [.lst (iLs xs)] ∧ Goods xs ∧ xs.length ≤ 60 * i + 1 + j ∧ σ = [some (.loc l), some (.loc S.length), some (.int z), a, b]) ⟨xs, b, rfl, hg, hl, rfl⟩ (fun _ _ _ _ => rfl) ?_ ?_
  · rintro j x σ S' hx ⟨xs, b, rfl, hg, hl, rfl⟩
    have hj : j < 5 := by
      have := (List.getElem?_eq_some_iff.mp hx).1
      simpa using this
    rw [List.getElem?_map] at hx
    cases hz : (List.range (5 : Int).toNat)[j]? with
    | none => rw [hz] at hx; cases hx
    | some k =>
      rw [hz] at hx
      cases hx
      unfold bMix
      repeat fail
      refine ⟨r_app get_last, ?_⟩
      repeat fail
      rw [ok_app hm rfl]
      refine mixed_ok hm fun v => ?_
      repeat fail
      rw [ok_app hm rfl]
      refine mixed_ok hm fun v => ?_
      repeat fail
      refine w_app get_last (by rw [iLs_len]; unfold LIM; omega) ?_
      rw [set_last]
      repeat fail
      rw [iLs_snoc]
      exact ⟨_, _, rfl, hg.snoc (by omega) (by omega), by rw [List.length_append]; simp; omega, rfl⟩
  · rintro σ S' ⟨xs, b, rfl, hg, hl, rfl⟩
    exact hD xs _ _ hg (by simp at hl; omega)
/-- the numbers of a script -/
theorem numbers_ok (hm : P.defs[mx]? = some iMixed) (hP : P.defs[nb]? = some (iNumbers mx)) {l : Nat} {ns : List Int} (hS : S[l]? = some (.scr (iLs ns))) (hn : ns.length ≤ 63)
    (h : ∀ xs, Goods xs → xs.length ≤ 60 * 63 → Q (.loc S.length) (S ++ [.lst (iLs xs)])) : Ok (callI P (n + 2) nb [.loc l] S) Q := by
  refine ok_body hP rfl ?_
  show Os (exs P _ _ (bNumbers mx) [some (.loc l), none, none, none, none] S) _
  have hlt : l < S.length := (List.getElem?_eq_some_iff.mp hS).1
  unfold bNumbers
  repeat fail
  rw [List.getElem?_append_left hlt, hS]
  dsimp only [List.set]
  refine for_inv0 (fun i σ S' => ∃ xs a b c, S' = S ++ [.lst (iLs xs)] ∧ Goods xs ∧ xs.length ≤ 60 * i ∧ σ = [some (.loc l), some (.loc S.length), a, b, c]) ⟨[], none, none, none, rfl, fun x hx => (nomatch hx), Nat.le_refl _, rfl⟩ ?_ ?_ ?_
  · rintro i σ S' ⟨xs, a, b, c, rfl, _, _, _⟩
    exact still_scr (by rw [List.getElem?_append_left hlt]; exact hS)
  · rintro i x σ S' hx ⟨xs, a, b, c, rfl, hg, hl, rfl⟩
    have hi : i < 63 := by
      have := (List.getElem?_eq_some_iff.mp hx).1
      rw [iLs_len] at this
      omega
    unfold iLs at hx
    rw [List.getElem?_map] at hx
    cases hz : ns[i]? with
    | none => rw [hz] at hx; cases hx
    | some z =>
      rw [hz] at hx
      cases hx
      unfold bCell
      repeat fail
      split
      · repeat fail
        refine ⟨by decide, ?_⟩
        dsimp only [List.set]
        refine take_ok (a := none) hg hl hi rfl fun xs a b hg hl => by
          repeat fail
          exact ⟨_, _, _, _, rfl, hg, by omega, rfl⟩
      · repeat fail
        refine ⟨r_app get_last, ?_⟩
        repeat fail
        refine w_app get_last (by rw [iLs_len]; unfold LIM; omega) ?_
        rw [set_last]
        repeat fail
        rw [iLs_snoc]
        refine ⟨by decide, ?_⟩
        dsimp only [List.set]
        refine mix_ok hm (hg.snoc (by omega) (by omega)) (by rw [List.length_append]; simp; omega) hi rfl fun xs a b hg hl => by
          repeat fail
          exact ⟨_, _, _, _, rfl, hg, by omega, rfl⟩
  · rintro σ S' ⟨xs, a, b, c, rfl, hg, hl, rfl⟩
    repeat fail
    exact h xs hg (by rw [iLs_len] at hl; omega)
end
end PyI

/-! Q3: a draw, and the laws' equality. -/
namespace PyI
local macro_rules
  | `(tactic| fail) => `(tactic| first
    | (with_reducible first
      | refine Eq.mpr os_cons ?_ | refine Eq.mpr os_nil ?_ | refine Eq.mpr os_asg ?_ | refine Eq.mpr os_expr ?_ | refine Eq.mpr os_ite ?_ | refine Eq.mpr os_ret ?_
      | refine Eq.mpr os_retN ?_ | refine Eq.mpr os_brk ?_ | refine Eq.mpr os_cont ?_ | refine Eq.mpr os_pass ?_ | refine Eq.mpr os_for ?_ | refine Eq.mpr as_name ?_
      | refine Eq.mpr as_sub ?_ | refine Eq.mpr as_fld ?_ | refine Eq.mpr ok_con ?_ | refine Eq.mpr ok_bin ?_ | refine Eq.mpr ok_neg ?_ | refine Eq.mpr ok_cmp ?_
      | refine Eq.mpr ok_chain ?_ | refine Eq.mpr ok_and ?_ | refine Eq.mpr ok_or ?_ | refine Eq.mpr ok_not ?_ | refine Eq.mpr ok_ite ?_ | refine Eq.mpr ok_tup ?_
      | refine Eq.mpr ok_lst ?_ | refine Eq.mpr ok_idx ?_ | refine Eq.mpr ok_slice ?_ | refine Eq.mpr ok_fld ?_ | refine Eq.mpr ok_isi ?_ | refine Eq.mpr ok_call ?_
      | refine Eq.mpr ok_meth ?_ | refine Eq.mpr ok_bi ?_ | refine Eq.mpr ok_bm ?_ | refine Eq.mpr ok_nil ?_ | refine Eq.mpr ok_cons ?_ | refine Eq.mpr Ok_ok ?_
      | refine Eq.mpr tt_and ?_ | refine Eq.mpr tt_or ?_ | refine Eq.mpr tt_not ?_ | refine Eq.mpr tt_cmp ?_ | refine Eq.mpr tt_var ?_ | refine Eq.mpr tt_isi ?_
      | refine Eq.mpr tt_call ?_ | refine Eq.mpr tt_con ?_ | refine Eq.mpr tt_idx ?_ | refine Eq.mpr tt_chain ?_ | refine Eq.mpr tt_meth ?_ | refine Eq.mpr tt_fld ?_
      | refine Eq.mpr toB_bl ?_ | refine Eq.mpr b_add ?_ | refine Eq.mpr b_sub ?_ | refine Eq.mpr c_lt ?_ | refine Eq.mpr c_le ?_ | refine Eq.mpr c_gt ?_
      | refine Eq.mpr c_ge ?_ | refine Eq.mpr i_max ?_ | refine Eq.mpr i_min ?_ | refine Eq.mpr i_lenT ?_ | refine Eq.mpr wk_rng1 ?_
      | refine Eq.mpr wk_rng2 ?_ | refine Eq.mpr wk_seq ?_)
    | ((with_reducible refine Eq.mpr b_mul ⟨?_, ?_⟩); · first | assumption | (unfold big64; omega))
    | ((with_reducible refine Eq.mpr b_fdiv ⟨?_, ?_⟩); · omega)
    | ((with_reducible refine Eq.mpr b_mod ⟨?_, ?_⟩); · omega)
    | ((with_reducible refine Eq.mpr b_pow ⟨?_, ?_⟩); · decide)
    | ((with_reducible refine Eq.mpr c_eq ⟨?_, ?_⟩); · exact ⟨rfl, rfl⟩)
    | ((with_reducible refine Eq.mpr c_ne ⟨?_, ?_⟩); · exact ⟨rfl, rfl⟩)
    | ((with_reducible refine Eq.mpr c_is ⟨?_, ?_⟩); · rfl)
    | ((with_reducible refine Eq.mpr c_isn ⟨?_, ?_⟩); · rfl)
    | ((with_reducible apply w_var); · rfl)
    | ((with_reducible apply w_glob); · rfl)
    | ((with_reducible apply w_xtup); · rfl)
    | ((with_reducible refine And.intro ?_ ?_); · ((with_reducible show List.length _ ≤ LIM); exact Nat.le_of_ble_eq_true rfl))
    | ((with_reducible refine w_isiT ?_ ?_); · rfl)
    | ((with_reducible refine w_isiF ?_ ?_); · rfl)
    | ((with_reducible refine w_ift ?_ ?_); · first | assumption | decide)
    | ((with_reducible refine w_iff ?_ ?_); · first | assumption | decide)
    | dsimp only
    | rw [Bool.not_false]
    | rw [Bool.not_true])
structure Dr (S : Store) (l k : Nat) (xs : List Int) (at_ : Int) : Prop where
  l_ : S[l]? = some (.lst [.loc k, .int at_])
  k_ : S[k]? = some (.lst (iLs xs))
  g_ : Goods xs
  n_ : 0 ≤ at_
  ne : k ≠ l
def Dr.nx (S : Store) (l k : Nat) (at_ : Int) : Store := S.set l (.lst [.loc k, .int (at_ + 1)])
section
variable {P : Prog} {n mx dr l k : Nat} {S : Store} {xs : List Int} {at_ : Int} {Q : Dat → Store → Prop}
theorem Dr.lt (d : Dr S l k xs at_) : l < S.length := (List.getElem?_eq_some_iff.mp d.l_).1
theorem Dr.next (d : Dr S l k xs at_) : Dr (Dr.nx S l k at_) l k xs (at_ + 1) := by
  refine ⟨?_, ?_, d.g_, by have := d.n_; omega, d.ne⟩
  · unfold Dr.nx
    rw [List.getElem?_set_self d.lt]
  · unfold Dr.nx
    rw [List.getElem?_set_ne (Ne.symm d.ne)]
    exact d.k_
theorem atD_iLs {xs : List Int} {i : Int} (h0 : 0 ≤ i) (h1 : i < xs.length) : ∃ v, v ∈ xs ∧ atD (iLs xs) i = some (.int v) := by
  obtain ⟨j, rfl⟩ := Int.eq_ofNat_of_zero_le h0
  have hj : j < xs.length := by omega
  refine ⟨xs[j], List.getElem_mem hj, ?_⟩
  unfold atD ixD iLs
  rw [if_pos h0, if_pos (by rw [List.length_map]; exact h1)]
  simp [hj]
theorem draw_ok (hm : P.defs[mx]? = some iMixed) (hP : P.defs[dr]? = some (iDraw mx)) (d : Dr S l k xs at_) (h : ∀ v, 0 ≤ v → v < 1000000 → Q (.int v) (Dr.nx S l k at_)) : Ok (callI P (n + 2) dr [.loc l] S) Q := by
  refine ok_body hP rfl ?_
  show Os (exs P _ _ (bDraw mx) [some (.loc l), none, none] S) _
  unfold bDraw
  repeat fail
  refine w_xlst d.l_ rfl ?_
  repeat fail
  refine w_slst d.l_ rfl ?_
  have d' := d.next
  have h0 := d.n_
  show Os (exs P _ _ _ [some (.loc l), some (.int at_), none] (Dr.nx S l k at_)) _
  generalize Dr.nx S l k at_ = S1 at d' h ⊢
  repeat fail
  refine w_xlst d'.l_ rfl ?_
  repeat fail
  refine w_lenL d'.k_ ?_
  repeat fail
  rw [iLs_len]
  split
  · rename_i hlt
    obtain ⟨v, hv, e⟩ := atD_iLs h0 (of_decide_eq_true hlt)
    repeat fail
    refine w_xlst d'.l_ rfl ?_
    repeat fail
    refine w_xlst d'.k_ e ?_
    repeat fail
    exact h v (d.g_ v hv).1 (d.g_ v hv).2
  · repeat fail
    refine w_xlst d'.l_ rfl ?_
    repeat fail
    refine w_lenL d'.k_ ?_
    repeat fail
    rw [iLs_len]
    split
    · rename_i hlt
      obtain ⟨v, hv, e⟩ := atD_iLs (xs := xs) (i := 0) (by omega) (of_decide_eq_true hlt)
      repeat fail
      refine w_xlst d'.l_ rfl ?_
      repeat fail
      refine w_xlst d'.k_ e ?_
      repeat fail
      rw [ok_app hm rfl]
      refine mixed_ok hm fun v => ?_
      repeat fail
      rw [ok_app hm rfl]
      refine mixed_ok hm fun v => ?_
      repeat fail
      exact h _ (by omega) (by omega)
    · repeat fail
      rw [ok_app hm rfl]
      refine mixed_ok hm fun v => ?_
      repeat fail
      rw [ok_app hm rfl]
      refine mixed_ok hm fun v => ?_
      repeat fail
      exact h _ (by omega) (by omega)
end
end PyI

/-! Q4: the laws' equality. -/
namespace PyI
local macro_rules
  | `(tactic| fail) => `(tactic| first
    | (with_reducible first
      | refine Eq.mpr os_cons ?_ | refine Eq.mpr os_nil ?_ | refine Eq.mpr os_asg ?_ | refine Eq.mpr os_expr ?_ | refine Eq.mpr os_ite ?_ | refine Eq.mpr os_ret ?_
      | refine Eq.mpr os_retN ?_ | refine Eq.mpr os_brk ?_ | refine Eq.mpr os_cont ?_ | refine Eq.mpr os_pass ?_ | refine Eq.mpr os_for ?_ | refine Eq.mpr as_name ?_
      | refine Eq.mpr as_sub ?_ | refine Eq.mpr as_fld ?_ | refine Eq.mpr ok_con ?_ | refine Eq.mpr ok_bin ?_ | refine Eq.mpr ok_neg ?_ | refine Eq.mpr ok_cmp ?_
      | refine Eq.mpr ok_chain ?_ | refine Eq.mpr ok_and ?_ | refine Eq.mpr ok_or ?_ | refine Eq.mpr ok_not ?_ | refine Eq.mpr ok_ite ?_ | refine Eq.mpr ok_tup ?_
      | refine Eq.mpr ok_lst ?_ | refine Eq.mpr ok_idx ?_ | refine Eq.mpr ok_slice ?_ | refine Eq.mpr ok_fld ?_ | refine Eq.mpr ok_isi ?_ | refine Eq.mpr ok_call ?_
      | refine Eq.mpr ok_meth ?_ | refine Eq.mpr ok_bi ?_ | refine Eq.mpr ok_bm ?_ | refine Eq.mpr ok_nil ?_ | refine Eq.mpr ok_cons ?_ | refine Eq.mpr Ok_ok ?_
      | refine Eq.mpr tt_and ?_ | refine Eq.mpr tt_or ?_ | refine Eq.mpr tt_not ?_ | refine Eq.mpr tt_cmp ?_ | refine Eq.mpr tt_var ?_ | refine Eq.mpr tt_isi ?_
      | refine Eq.mpr tt_call ?_ | refine Eq.mpr tt_con ?_ | refine Eq.mpr tt_idx ?_ | refine Eq.mpr tt_chain ?_ | refine Eq.mpr tt_meth ?_ | refine Eq.mpr tt_fld ?_
      | refine Eq.mpr toB_bl ?_ | refine Eq.mpr b_add ?_ | refine Eq.mpr b_sub ?_ | refine Eq.mpr c_lt ?_ | refine Eq.mpr c_le ?_ | refine Eq.mpr c_gt ?_
      | refine Eq.mpr c_ge ?_ | refine Eq.mpr i_max ?_ | refine Eq.mpr i_min ?_ | refine Eq.mpr i_lenT ?_ | refine Eq.mpr wk_rng1 ?_
      | refine Eq.mpr wk_rng2 ?_ | refine Eq.mpr wk_seq ?_)
    | ((with_reducible refine Eq.mpr b_mul ⟨?_, ?_⟩); · first | assumption | (unfold big64; omega))
    | ((with_reducible refine Eq.mpr b_fdiv ⟨?_, ?_⟩); · omega)
    | ((with_reducible refine Eq.mpr b_mod ⟨?_, ?_⟩); · omega)
    | ((with_reducible refine Eq.mpr b_pow ⟨?_, ?_⟩); · decide)
    | ((with_reducible refine Eq.mpr c_eq ⟨?_, ?_⟩); · exact ⟨rfl, rfl⟩)
    | ((with_reducible refine Eq.mpr c_ne ⟨?_, ?_⟩); · exact ⟨rfl, rfl⟩)
    | ((with_reducible refine Eq.mpr c_is ⟨?_, ?_⟩); · rfl)
    | ((with_reducible refine Eq.mpr c_isn ⟨?_, ?_⟩); · rfl)
    | ((with_reducible apply w_var); · rfl)
    | ((with_reducible apply w_glob); · rfl)
    | ((with_reducible apply w_xtup); · rfl)
    | ((with_reducible refine And.intro ?_ ?_); · ((with_reducible show List.length _ ≤ LIM); exact Nat.le_of_ble_eq_true rfl))
    | ((with_reducible refine w_isiT ?_ ?_); · rfl)
    | ((with_reducible refine w_isiF ?_ ?_); · rfl)
    | ((with_reducible refine w_ift ?_ ?_); · first | assumption | decide)
    | ((with_reducible refine w_iff ?_ ?_); · first | assumption | decide)
    | dsimp only
    | rw [Bool.not_false]
    | rw [Bool.not_true])
def bEqual (ae : Nat) : Stms :=
  (.cons (.ite (.isi (.var 1) .list)
    (.cons (.ite (.orE (.notE (.isi (.var 0) .list)) (.cmp .ne (.bi .len (.cons (.var 0) .nil)) (.bi .len (.cons (.var 1) .nil))))
      (.cons (.ret (.con (.bl false))) .nil) .nil)
    (.cons (.ret (.call ae (.cons (.var 0) (.cons (.var 1) .nil)))) .nil)) .nil)
  (.cons (.ite (.isi (.var 1) .tuple)
    (.cons (.ite (.orE (.notE (.isi (.var 0) .tuple)) (.cmp .ne (.bi .len (.cons (.var 0) .nil)) (.bi .len (.cons (.var 1) .nil))))
      (.cons (.ret (.con (.bl false))) .nil) .nil)
    (.cons (.ret (.call ae (.cons (.var 0) (.cons (.var 1) .nil)))) .nil)) .nil)
  (.cons (.ite (.isi (.var 1) .bool)
    (.cons (.ret (.andE (.isi (.var 0) .bool) (.cmp .eq (.var 0) (.var 1)))) .nil) .nil)
  (.cons (.ite (.isi (.var 1) .int)
    (.cons (.ret (.andE (.isi (.var 0) .int) (.andE (.notE (.isi (.var 0) .bool)) (.cmp .eq (.var 0) (.var 1))))) .nil) .nil)
  (.cons (.ite (.isi (.var 1) .str)
    (.cons (.ret (.andE (.isi (.var 0) .str) (.cmp .eq (.var 0) (.var 1)))) .nil) .nil)
  (.cons (.ret (.cmp .is_ (.var 0) (.con .non))) .nil))))))
def iEqual (ae : Nat) : DefI := ⟨2, 2, [], bEqual ae⟩
def bAll (eq : Nat) : Stms :=
  (.cons (.for_ (.name 2) (.rng1 (.bi .len (.cons (.var 1) .nil)))
    (.cons (.ite (.notE (.call eq (.cons (.idx (.var 0) (.var 2)) (.cons (.idx (.var 1) (.var 2)) .nil))))
      (.cons (.ret (.con (.bl false))) .nil) .nil) .nil))
  (.cons (.ret (.con (.bl true))) .nil))
def iAll (eq : Nat) : DefI := ⟨2, 3, [], bAll eq⟩
def seqAt (S : Store) (a : Dat) (xs : List Dat) : Prop := a = .tup xs ∨ ∃ l, a = .loc l ∧ S[l]? = some (.lst xs)
def sameV (S : Store) : Nat → Dat → Dat → Prop
  | 0, a, d => a = d ∧ flatD d = true
  | k + 1, a, d => (a = d ∧ flatD d = true) ∨ ∃ xs ys, xs.length = ys.length ∧ ys.length ≤ LIM ∧ (∀ (i : Nat) x y, xs[i]? = some x → ys[i]? = some y → sameV S k x y) ∧
      ((a = .tup xs ∧ d = .tup ys) ∨ ∃ l l', a = .loc l ∧ d = .loc l' ∧ S[l]? = some (.lst xs) ∧ S[l']? = some (.lst ys))
def TrueAt (S : Store) : Dat → Store → Prop := fun v S' => v = .bl true ∧ S' = S
section
variable {P : Prog} {n ae eq : Nat} {S : Store} {xs ys : List Dat} {a d : Dat} {Q : Dat → Store → Prop}
theorem w_seqlen (h : seqAt S a xs) (q : Q (.int xs.length) S) : Ok (bcall .len [a] S) Q := by
  rcases h with rfl | ⟨l, rfl, h⟩
  · exact q
  · exact w_lenL h q
theorem w_seqidx (h : seqAt S a xs) {i : Int} {x : Dat} (e : atD xs i = some x) (q : Q x S) : Ok (gidx a (.int i) S) Q := by
  rcases h with rfl | ⟨l, rfl, h⟩
  · exact w_xtup e q
  · exact w_xlst h e q
theorem atD_nat {xs : List Dat} {i : Nat} {x : Dat} (h : xs[i]? = some x) : atD xs (i : Int) = some x := by
  have hi := (List.getElem?_eq_some_iff.mp h).1
  unfold atD ixD
  rw [if_pos (by omega), if_pos (by omega)]
  simpa using h
theorem all_ok (hA : P.defs[ae]? = some (iAll eq)) (hE : P.defs[eq]? = some (iEqual ae)) (ha : seqAt S a xs) (hd : seqAt S d ys) (hl : xs.length = ys.length) (hz : ys.length ≤ LIM)
    (ih : ∀ (i : Nat) x y, xs[i]? = some x → ys[i]? = some y → Ok (callI P n eq [x, y] S) (TrueAt S)) : Ok (callI P (n + 1) ae [a, d] S) (TrueAt S) := by
  refine ok_body hA rfl ?_
  show Os (exs P _ _ (bAll eq) [some a, some d, none] S) _
  unfold bAll
  repeat fail
  refine w_seqlen hd ?_
  repeat fail
  unfold LIM at hz
  refine And.intro (by omega) ?_
  refine for_inv0 (fun i σ S' => S' = S ∧ ∃ c, σ = [some a, some d, c]) ⟨rfl, none, rfl⟩ (fun _ _ _ _ => rfl) ?_ ?_
  · rintro i x σ S' hx ⟨rfl, c, rfl⟩
    have hi : i < ys.length := by
      have := (List.getElem?_eq_some_iff.mp hx).1
      simpa using this
    rw [List.getElem?_map, List.getElem?_range (by simpa using hi)] at hx
    cases hx
    have hi' : i < xs.length := by omega
    repeat fail
    refine w_seqidx ha (atD_nat (List.getElem?_eq_getElem hi')) ?_
    repeat fail
    refine w_seqidx hd (atD_nat (List.getElem?_eq_getElem hi)) ?_
    repeat fail
    rw [ok_app hE rfl]
    refine (ih i _ _ (List.getElem?_eq_getElem hi') (List.getElem?_eq_getElem hi)).imp ?_
    rintro v S' ⟨rfl, rfl⟩
    repeat fail
    exact ⟨rfl, _, rfl⟩
  · rintro σ S' ⟨rfl, c, rfl⟩
    repeat fail
    exact ⟨rfl, rfl⟩
theorem equal_ok (hA : P.defs[ae]? = some (iAll eq)) (hE : P.defs[eq]? = some (iEqual ae)) : ∀ (k n : Nat) (a d : Dat), sameV S k a d → Ok (callI P (n + 2 * k + 1) eq [a, d] S) (TrueAt S) := by
  have flat : ∀ (n : Nat) (a d : Dat), a = d ∧ flatD d = true → Ok (callI P (n + 1) eq [a, d] S) (TrueAt S) := by
    rintro n a d ⟨rfl, h⟩
    refine ok_body hE rfl ?_
    show Os (exs P _ _ (bEqual ae) [some a, some a] S) _
    unfold bEqual
    cases a with
    | non => repeat fail
             exact ⟨rfl, rfl⟩
    | bl b => repeat fail
              exact ⟨by simp [deq], rfl⟩
    | int i => repeat fail
               exact ⟨by simp [deq], rfl⟩
    | str s => repeat fail
               exact ⟨by simp [deq], rfl⟩
    | tup l => cases h
    | loc l => cases h
  intro k
  induction k with
  | zero => exact fun n a d h => flat n a d h
  | succ k ih =>
    rintro n a d (h | ⟨xs, ys, hl, hz, hs, h⟩)
    · exact flat _ a d h
    · have ih' : ∀ (i : Nat) x y, xs[i]? = some x → ys[i]? = some y → Ok (callI P (n + 2 * k + 1) eq [x, y] S) (TrueAt S) := fun i x y hx hy => ih n x y (hs i x y hx hy)
      show Ok (callI P (n + 2 * k + 2 + 1) eq [a, d] S) (TrueAt S)
      refine ok_body hE rfl ?_
      show Os (exs P _ _ (bEqual ae) [some a, some d] S) _
      unfold bEqual
      rcases h with ⟨rfl, rfl⟩ | ⟨l, l', rfl, rfl, h1, h2⟩
      · repeat fail
        rw [if_neg (by rw [hl]; simp [deq])]
        repeat fail
        rw [ok_app hA rfl]
        exact all_ok hA hE (.inl rfl) (.inl rfl) hl hz ih'
      · repeat fail
        refine w_isi (t_lst h2) ?_
        repeat fail
        refine w_isi (t_lst h1) ?_
        repeat fail
        refine w_lenL h1 ?_
        repeat fail
        refine w_lenL h2 ?_
        repeat fail
        rw [if_neg (by rw [hl]; simp [deq])]
        repeat fail
        rw [ok_app hA rfl]
        exact all_ok hA hE (.inr ⟨l, rfl, h1⟩) (.inr ⟨l', rfl, h2⟩) hl hz ih'
end
end PyI

/-! Q5: draws without their count; a law's opening. -/
namespace PyI
local macro_rules
  | `(tactic| fail) => `(tactic| first
    | (with_reducible first
      | refine Eq.mpr os_cons ?_ | refine Eq.mpr os_nil ?_ | refine Eq.mpr os_asg ?_ | refine Eq.mpr os_expr ?_ | refine Eq.mpr os_ite ?_ | refine Eq.mpr os_ret ?_
      | refine Eq.mpr os_retN ?_ | refine Eq.mpr os_brk ?_ | refine Eq.mpr os_cont ?_ | refine Eq.mpr os_pass ?_ | refine Eq.mpr os_for ?_ | refine Eq.mpr as_name ?_
      | refine Eq.mpr as_sub ?_ | refine Eq.mpr as_fld ?_ | refine Eq.mpr ok_con ?_ | refine Eq.mpr ok_bin ?_ | refine Eq.mpr ok_neg ?_ | refine Eq.mpr ok_cmp ?_
      | refine Eq.mpr ok_chain ?_ | refine Eq.mpr ok_and ?_ | refine Eq.mpr ok_or ?_ | refine Eq.mpr ok_not ?_ | refine Eq.mpr ok_ite ?_ | refine Eq.mpr ok_tup ?_
      | refine Eq.mpr ok_lst ?_ | refine Eq.mpr ok_idx ?_ | refine Eq.mpr ok_slice ?_ | refine Eq.mpr ok_fld ?_ | refine Eq.mpr ok_isi ?_ | refine Eq.mpr ok_call ?_
      | refine Eq.mpr ok_meth ?_ | refine Eq.mpr ok_bi ?_ | refine Eq.mpr ok_bm ?_ | refine Eq.mpr ok_nil ?_ | refine Eq.mpr ok_cons ?_ | refine Eq.mpr Ok_ok ?_
      | refine Eq.mpr tt_and ?_ | refine Eq.mpr tt_or ?_ | refine Eq.mpr tt_not ?_ | refine Eq.mpr tt_cmp ?_ | refine Eq.mpr tt_var ?_ | refine Eq.mpr tt_isi ?_
      | refine Eq.mpr tt_call ?_ | refine Eq.mpr tt_con ?_ | refine Eq.mpr tt_idx ?_ | refine Eq.mpr tt_chain ?_ | refine Eq.mpr tt_meth ?_ | refine Eq.mpr tt_fld ?_
      | refine Eq.mpr toB_bl ?_ | refine Eq.mpr b_add ?_ | refine Eq.mpr b_sub ?_ | refine Eq.mpr c_lt ?_ | refine Eq.mpr c_le ?_ | refine Eq.mpr c_gt ?_
      | refine Eq.mpr c_ge ?_ | refine Eq.mpr i_max ?_ | refine Eq.mpr i_min ?_ | refine Eq.mpr i_lenT ?_ | refine Eq.mpr wk_rng1 ?_
      | refine Eq.mpr wk_rng2 ?_ | refine Eq.mpr wk_seq ?_)
    | ((with_reducible refine Eq.mpr b_mul ⟨?_, ?_⟩); · first | assumption | (unfold big64; omega))
    | ((with_reducible refine Eq.mpr b_fdiv ⟨?_, ?_⟩); · omega)
    | ((with_reducible refine Eq.mpr b_mod ⟨?_, ?_⟩); · omega)
    | ((with_reducible refine Eq.mpr b_pow ⟨?_, ?_⟩); · decide)
    | ((with_reducible refine Eq.mpr c_eq ⟨?_, ?_⟩); · exact ⟨rfl, rfl⟩)
    | ((with_reducible refine Eq.mpr c_ne ⟨?_, ?_⟩); · exact ⟨rfl, rfl⟩)
    | ((with_reducible refine Eq.mpr c_is ⟨?_, ?_⟩); · rfl)
    | ((with_reducible refine Eq.mpr c_isn ⟨?_, ?_⟩); · rfl)
    | ((with_reducible apply w_var); · rfl)
    | ((with_reducible apply w_glob); · rfl)
    | ((with_reducible apply w_xtup); · rfl)
    | ((with_reducible refine And.intro ?_ ?_); · ((with_reducible show List.length _ ≤ LIM); exact Nat.le_of_ble_eq_true rfl))
    | ((with_reducible refine w_isiT ?_ ?_); · rfl)
    | ((with_reducible refine w_isiF ?_ ?_); · rfl)
    | ((with_reducible refine w_ift ?_ ?_); · first | assumption | decide)
    | ((with_reducible refine w_iff ?_ ?_); · first | assumption | decide)
    | dsimp only
    | rw [Bool.not_false]
    | rw [Bool.not_true])
/-- the draws stand at l, their numbers at k -/
def DrE (S : Store) (l k : Nat) : Prop := ∃ xs at_, Dr S l k xs at_
/-- nothing but l has changed -/
def Fr (l : Nat) (S S' : Store) : Prop := S'.length = S.length ∧ ∀ j, j ≠ l → S'[j]? = S[j]?
theorem Fr.rfl' {l : Nat} {S : Store} : Fr l S S := ⟨rfl, fun _ _ => rfl⟩
theorem Fr.trans {l : Nat} {S S' S'' : Store} (a : Fr l S S') (b : Fr l S' S'') : Fr l S S'' := ⟨b.1.trans a.1, fun j h => (b.2 j h).trans (a.2 j h)⟩
theorem Fr.at_ {l j : Nat} {S S' : Store} {c : Cel} (f : Fr l S S') (h : j ≠ l) (e : S[j]? = some c) : S'[j]? = some c := (f.2 j h).trans e
theorem DrE.lt {S : Store} {l k : Nat} (d : DrE S l k) : l < S.length ∧ k < S.length := by
  obtain ⟨xs, a, d⟩ := d
  exact ⟨d.lt, (List.getElem?_eq_some_iff.mp d.k_).1⟩
theorem DrE.app {S T : Store} {l k : Nat} (d : DrE S l k) : DrE (S ++ T) l k := by
  obtain ⟨h1, h2⟩ := d.lt
  obtain ⟨xs, a, d⟩ := d
  exact ⟨xs, a, by rw [List.getElem?_append_left h1]; exact d.l_, by rw [List.getElem?_append_left h2]; exact d.k_, d.g_, d.n_, d.ne⟩
theorem get_prev {S : Store} {a b : Cel} : (S ++ [a] ++ [b])[S.length]? = some a := by simp
section
variable {P : Prog} {n mx dr l k : Nat} {S : Store} {Q : Dat → Store → Prop}
theorem drawE_ok (hm : P.defs[mx]? = some iMixed) (hP : P.defs[dr]? = some (iDraw mx)) (d : DrE S l k) (h : ∀ v S', 0 ≤ v → v < 1000000 → DrE S' l k → Fr l S S' → Q (.int v) S') : Ok (callI P (n + 2) dr [.loc l] S) Q := by
  obtain ⟨xs, a, d⟩ := d
  exact draw_ok hm hP d fun v h0 h1 => h v _ h0 h1 ⟨xs, a + 1, d.next⟩ ⟨by unfold Dr.nx; rw [List.length_set], fun j hj => by unfold Dr.nx; rw [List.getElem?_set_ne (Ne.symm hj)]⟩
/-- the draws made: [numbers(script), 0] -/
theorem open_ok {ns : List Int} {xs : List Int} (hg : Goods xs) : DrE ([.scr (iLs ns)] ++ [.lst (iLs xs)] ++ [.lst [.loc 1, .int 0]]) 2 1 := ⟨xs, 0, rfl, rfl, hg, Int.le_refl 0, by decide⟩
theorem ix_mod {xs : List Int} {v : Int} (h : 0 < xs.length) : ∃ x, x ∈ xs ∧ atD (iLs xs) (v % (xs.length : Int)) = some (.int x) := atD_iLs (Int.emod_nonneg _ (by omega)) (Int.emod_lt_of_pos _ (by omega))
end
end PyI

namespace K18
open PySem PySem.Spec PyProof.Rows L2 PyI PyS
/-! ### the text of this law, in data -/
def top (i : Nat) : Stmt := PySem.Challenge.pw_wholecloth_k18_counter.main.body.getD i (.Pass ⟨0, 0, 0, 0⟩)
def inC (i j : Nat) : Stmt := match top i with
  | .ClassDef (body := b) .. => b.getD j (.Pass ⟨0, 0, 0, 0⟩)
  | _ => .Pass ⟨0, 0, 0, 0⟩
def d0 : He.DefD := ⟨("Counter", some "__init__"), "__init__", "Counter.__init__", defArgs (inC 1 0), defBody (inC 1 0), defScope (inC 1 0), [.int (0)], []⟩
def d1 : He.DefD := ⟨("Counter", some "run"), "run", "Counter.run", defArgs (inC 1 1), defBody (inC 1 1), defScope (inC 1 1), [], []⟩
def d2 : He.DefD := ⟨("Counter", some "picture"), "picture", "Counter.picture", defArgs (inC 1 2), defBody (inC 1 2), defScope (inC 1 2), [], []⟩
def d3 : He.DefD := ⟨("_law_mixed", none), "_law_mixed", "_law_mixed", defArgs (top 3), defBody (top 3), defScope (top 3), [], []⟩
def d4 : He.DefD := ⟨("_law_numbers", none), "_law_numbers", "_law_numbers", defArgs (top 4), defBody (top 4), defScope (top 4), [], []⟩
def d5 : He.DefD := ⟨("_law_draw", none), "_law_draw", "_law_draw", defArgs (top 5), defBody (top 5), defScope (top 5), [], []⟩
def d6 : He.DefD := ⟨("_law_equal", none), "_law_equal", "_law_equal", defArgs (top 6), defBody (top 6), defScope (top 6), [], []⟩
def d7 : He.DefD := ⟨("_law_all_equal", none), "_law_all_equal", "_law_all_equal", defArgs (top 7), defBody (top 7), defScope (top 7), [], []⟩
def d8 : He.DefD := ⟨("law", none), "law", "law", defArgs (top 8), defBody (top 8), defScope (top 8), [], []⟩
/- Counter.__init__: 0=self 1=last -/
def b0 : Stms := 
  (.cons (.asg (.fld (.var 0) 0) (.var 1)) .nil)
def i0 : DefI := ⟨2, 2, [(.int 0)], b0⟩
/- Counter.run: 0=self 1=command -/
def b1 : Stms := 
  (.cons (.ite (.cmp .eq (.var 1) (.tup (.cons (.con (.str 1)) .nil))) 
    (.cons (.augF (.var 0) 0 .add (.con (.int 1)))
    (.cons (.ret (.tup (.cons (.con (.str 2)) (.cons (.fld (.var 0) 0) .nil)))) .nil)) .nil)
  (.cons (.ite (.cmp .eq (.var 1) (.tup (.cons (.con (.str 3)) .nil))) 
    (.cons (.ret (.tup (.cons (.con (.str 3)) .nil))) .nil) .nil)
  (.cons (.ret (.tup (.cons (.con (.str 4)) .nil))) .nil)))
def i1 : DefI := ⟨2, 2, [], b1⟩
/- Counter.picture: 0=self -/
def b2 : Stms := 
  (.cons (.ret (.tup (.cons (.con (.str 5)) (.cons (.fld (.var 0) 0) .nil)))) .nil)
def i2 : DefI := ⟨1, 1, [], b2⟩
/- _law_mixed: 0=_law_number 1=_law_k 2=_law_step -/
def b3 : Stms := 
  (.cons (.asg (.name 2) (.bin .mod (.bin .add (.bin .add (.bin .mul (.var 0) (.con (.int 48271))) (.bin .mul (.var 1) (.con (.int 69621)))) (.con (.int 12345))) (.con (.int 2147483647))))
  (.cons (.ret (.bin .mod (.bin .add (.bin .mul (.var 2) (.bin .add (.bin .fdiv (.var 2) (.con (.int 65536))) (.con (.int 3)))) (.var 1)) (.con (.int 2147483647)))) .nil))
def i3 : DefI := ⟨2, 3, [], b3⟩
/- _law_numbers: 0=_law_script 1=_law_numbers_here 2=_law_cell 3=_law_rest 4=_law_k -/
def b4_1 : Stms := 
  (.cons (.ite (.cmp .gt (.var 3) (.con (.int 0))) 
    (.cons (.expr (.bm .append (.var 1) (.cons (.bin .mod (.var 3) (.con (.int 1000000))) .nil)))
    (.cons (.asg (.name 3) (.bin .fdiv (.var 3) (.con (.int 1000000)))) .nil)) .nil) .nil)
def b4_2 : Stms := 
  (.cons (.expr (.bm .append (.var 1) (.cons (.bin .mod (.call 3 (.cons (.call 3 (.cons (.bin .mod (.var 2) (.con (.int 2147483647))) (.cons (.var 4) .nil))) (.cons (.bin .add (.var 4) (.con (.int 7))) .nil))) (.con (.int 1000000))) .nil))) .nil)
def b4_3 : Stms := 
  (.cons (.ite (.cmp .ge (.var 2) (.bin .pow (.con (.int 10)) (.con (.int 18)))) 
    (.cons (.asg (.name 3) (.var 2))
    (.cons (.for_ (.name 4) (.rng1 (.con (.int 60))) b4_1) .nil)) 
    (.cons (.expr (.bm .append (.var 1) (.cons (.bin .mod (.var 2) (.con (.int 1000000))) .nil)))
    (.cons (.for_ (.name 4) (.rng1 (.con (.int 5))) b4_2) .nil))) .nil)
def b4 : Stms := 
  (.cons (.asg (.name 1) (.lst .nil))
  (.cons (.for_ (.name 2) (.seq (.var 0)) b4_3)
  (.cons (.ret (.var 1)) .nil)))
def i4 : DefI := ⟨1, 5, [], b4⟩
/- _law_draw: 0=_law_draws 1=_law_at 2=_law_first -/
def b5 : Stms := 
  (.cons (.asg (.name 1) (.idx (.var 0) (.con (.int 1))))
  (.cons (.asg (.sub (.var 0) (.con (.int 1))) (.bin .add (.var 1) (.con (.int 1))))
  (.cons (.ite (.cmp .lt (.var 1) (.bi .len (.cons (.idx (.var 0) (.con (.int 0))) .nil))) 
    (.cons (.ret (.idx (.idx (.var 0) (.con (.int 0))) (.var 1))) .nil) .nil)
  (.cons (.asg (.name 2) (.bin .add (.con (.int 1)) (.var 1)))
  (.cons (.ite (.cmp .gt (.bi .len (.cons (.idx (.var 0) (.con (.int 0))) .nil)) (.con (.int 0))) 
    (.cons (.asg (.name 2) (.bin .add (.var 2) (.bin .mul (.con (.int 1009)) (.idx (.idx (.var 0) (.con (.int 0))) (.con (.int 0)))))) .nil) .nil)
  (.cons (.ret (.bin .mod (.call 3 (.cons (.call 3 (.cons (.var 2) (.cons (.var 1) .nil))) (.cons (.con (.int 5)) .nil))) (.con (.int 1000000)))) .nil))))))
def i5 : DefI := ⟨1, 3, [], b5⟩
/- _law_equal: 0=_law_actual 1=_law_due -/
def b6 : Stms := 
  (.cons (.ite (.isi (.var 1) .list) 
    (.cons (.ite (.orE (.notE (.isi (.var 0) .list)) (.cmp .ne (.bi .len (.cons (.var 0) .nil)) (.bi .len (.cons (.var 1) .nil)))) 
      (.cons (.ret (.con (.bl false))) .nil) .nil)
    (.cons (.ret (.call 7 (.cons (.var 0) (.cons (.var 1) .nil)))) .nil)) .nil)
  (.cons (.ite (.isi (.var 1) .tuple) 
    (.cons (.ite (.orE (.notE (.isi (.var 0) .tuple)) (.cmp .ne (.bi .len (.cons (.var 0) .nil)) (.bi .len (.cons (.var 1) .nil)))) 
      (.cons (.ret (.con (.bl false))) .nil) .nil)
    (.cons (.ret (.call 7 (.cons (.var 0) (.cons (.var 1) .nil)))) .nil)) .nil)
  (.cons (.ite (.isi (.var 1) .bool) 
    (.cons (.ret (.andE (.isi (.var 0) .bool) (.cmp .eq (.var 0) (.var 1)))) .nil) .nil)
  (.cons (.ite (.isi (.var 1) .int) 
    (.cons (.ret (.andE (.isi (.var 0) .int) (.andE (.notE (.isi (.var 0) .bool)) (.cmp .eq (.var 0) (.var 1))))) .nil) .nil)
  (.cons (.ite (.isi (.var 1) .str) 
    (.cons (.ret (.andE (.isi (.var 0) .str) (.cmp .eq (.var 0) (.var 1)))) .nil) .nil)
  (.cons (.ret (.cmp .is_ (.var 0) (.con .non))) .nil))))))
def i6 : DefI := ⟨2, 2, [], b6⟩
/- _law_all_equal: 0=_law_actual 1=_law_due 2=_law_k -/
def b7_1 : Stms := 
  (.cons (.ite (.notE (.call 6 (.cons (.idx (.var 0) (.var 2)) (.cons (.idx (.var 1) (.var 2)) .nil)))) 
    (.cons (.ret (.con (.bl false))) .nil) .nil) .nil)
def b7 : Stms := 
  (.cons (.for_ (.name 2) (.rng1 (.bi .len (.cons (.var 1) .nil))) b7_1)
  (.cons (.ret (.con (.bl true))) .nil))
def i7 : DefI := ⟨2, 3, [], b7⟩
/- law: 0=_law_script 1=_law_draws 2=_law_first 3=_law_begin 4=_law_second 5=_law_numbers_here 6=_law_others 7=_law_k 8=_law_at 9=_law_counter 10=_law_command 11=_law_due -/
def b8_1 : Stms := 
  (.cons (.asg (.name 8) (.bin .mod (.call 5 (.cons (.var 1) .nil)) (.con (.int 2))))
  (.cons (.asg (.name 9) (.idx (.lst (.cons (.var 2) (.cons (.var 4) .nil))) (.var 8)))
  (.cons (.ite (.cmp .gt (.bin .mod (.call 5 (.cons (.var 1) .nil)) (.con (.int 3))) (.con (.int 0))) 
    (.cons (.asg (.sub (.var 5) (.var 8)) (.bin .add (.idx (.var 5) (.var 8)) (.con (.int 1))))
    (.cons (.ite (.notE (.call 6 (.cons (.meth (.var 9) 10 (.cons (.tup (.cons (.con (.str 1)) .nil)) .nil)) (.cons (.tup (.cons (.con (.str 2)) (.cons (.idx (.var 5) (.var 8)) .nil))) .nil)))) 
      (.cons (.ret (.con (.bl false))) .nil) .nil) .nil)) 
    (.cons (.asg (.name 10) (.idx (.var 6) (.bin .mod (.call 5 (.cons (.var 1) .nil)) (.con (.int 8)))))
    (.cons (.asg (.name 11) (.tup (.cons (.con (.str 4)) .nil)))
    (.cons (.ite (.cmp .eq (.var 10) (.tup (.cons (.con (.str 3)) .nil))) 
      (.cons (.asg (.name 11) (.tup (.cons (.con (.str 3)) .nil))) .nil) .nil)
    (.cons (.ite (.notE (.call 6 (.cons (.meth (.var 9) 10 (.cons (.var 10) .nil)) (.cons (.var 11) .nil)))) 
      (.cons (.ret (.con (.bl false))) .nil) .nil) .nil)))))
  (.cons (.ite (.orE (.notE (.call 6 (.cons (.fld (.var 2) 0) (.cons (.idx (.var 5) (.con (.int 0))) .nil)))) (.notE (.call 6 (.cons (.fld (.var 4) 0) (.cons (.idx (.var 5) (.con (.int 1))) .nil))))) 
    (.cons (.ret (.con (.bl false))) .nil) .nil)
  (.cons (.ite (.notE (.call 6 (.cons (.meth (.var 2) 11 .nil) (.cons (.tup (.cons (.con (.str 5)) (.cons (.idx (.var 5) (.con (.int 0))) .nil))) .nil)))) 
    (.cons (.ret (.con (.bl false))) .nil) .nil)
  (.cons (.ite (.notE (.call 6 (.cons (.meth (.var 4) 11 .nil) (.cons (.tup (.cons (.con (.str 5)) (.cons (.idx (.var 5) (.con (.int 1))) .nil))) .nil)))) 
    (.cons (.ret (.con (.bl false))) .nil) .nil) .nil))))))
def b8 : Stms := 
  (.cons (.asg (.name 1) (.lst (.cons (.call 4 (.cons (.var 0) .nil)) (.cons (.con (.int 0)) .nil))))
  (.cons (.asg (.name 2) (.new 0 .nil))
  (.cons (.asg (.name 3) (.bin .mul (.call 5 (.cons (.var 1) .nil)) (.bin .mod (.call 5 (.cons (.var 1) .nil)) (.con (.int 2)))))
  (.cons (.asg (.name 4) (.new 0 (.cons (.var 3) .nil)))
  (.cons (.asg (.name 5) (.lst (.cons (.con (.int 0)) (.cons (.var 3) .nil))))
  (.cons (.asg (.name 6) (.lst (.cons (.tup (.cons (.con (.str 9)) .nil)) (.cons (.tup (.cons (.con (.str 1)) (.cons (.con (.int 1)) .nil))) (.cons (.tup (.cons (.con (.str 8)) .nil)) (.cons (.tup (.cons (.con (.str 2)) (.cons (.con (.int 4)) .nil))) (.cons (.tup (.cons (.con (.str 3)) (.cons (.con (.int 1)) .nil))) (.cons (.tup (.cons (.con (.str 7)) (.cons (.tup (.cons (.con (.int 1)) (.cons (.con (.int 2)) (.cons (.con (.int 3)) .nil)))) .nil))) (.cons (.tup (.cons (.con (.str 6)) (.cons (.con (.int 5)) (.cons (.con (.int 2)) .nil)))) (.cons (.tup (.cons (.con (.str 3)) .nil)) .nil))))))))))
  (.cons (.for_ (.name 7) (.rng1 (.bin .add (.con (.int 3)) (.bin .mod (.call 5 (.cons (.var 1) .nil)) (.con (.int 18))))) b8_1)
  (.cons (.ret (.con (.bl true))) .nil))))))))
def i8 : DefI := ⟨1, 12, [], b8⟩
def P : Prog := ⟨[i0, i1, i2, i3, i4, i5, i6, i7, i8], [⟨0, [(10, 1), (11, 2)], [0]⟩], []⟩
def ws : List Str := ["last", "next", "time", "none", "unknown", "counter", "split", "drop", "read", "Next", "run", "picture"]
def ds : List He.DefD := [d0, d1, d2, d3, d4, d5, d6, d7, d8]
def nms : List (List Str) := [["self", "last"], ["self", "command"], ["self"], ["_law_number", "_law_k", "_law_step"], ["_law_script", "_law_numbers_here", "_law_cell", "_law_rest", "_law_k"], ["_law_draws", "_law_at", "_law_first"], ["_law_actual", "_law_due"], ["_law_actual", "_law_due", "_law_k"], ["_law_script", "_law_draws", "_law_first", "_law_begin", "_law_second", "_law_numbers_here", "_law_others", "_law_k", "_law_at", "_law_counter", "_law_command", "_law_due"]]
def T : Stat := { P := P, W := wtab ws, dd := fun i => (ds[i]?).getD d0, nm := fun i => (nms[i]?).getD [], cn := fun i => ((["Counter"] : List Str)[i]?).getD "", xn := fun _ => "", gn := fun i => (([] : List Str)[i]?).getD "", fr := ["bool", "int", "isinstance", "len", "list", "range", "str", "tuple"] }
theorem ok0 : DefOk T 0 i0 := ⟨⟨by kernel_rfl, by kernel_rfl, by kernel_rfl, by decide +kernel, by kernel_rfl, by decide +kernel, by decide +kernel⟩, by kernel_rfl, by kernel_rfl, by decide +kernel, fun K m H => (RepL.cons Rep.int RepL.nil), fun K fd F j hj => by
    match j, hj with
    | 0, _ => exact F.binds1 1 0 (by simp [He.DefD.dvs, T, ds, d0]) (by rfl) fun _ _ _ _ _ _ _ us its h1 h2 => match us, its, h1, h2 with | [_], [_], _, _ => ⟨_, rfl, rfl⟩
    | 1, _ => exact F.binds1 2 1 (by simp [He.DefD.dvs, T, ds, d0]) (by rfl) fun _ _ _ _ _ _ _ us its h1 h2 => match us, its, h1, h2 with | [_, _], [_], _, _ => ⟨_, rfl, rfl⟩
    | _ + 2, hj => exact absurd hj (by simp [i0])⟩
theorem ok1 : DefOk T 1 i1 := ⟨⟨by kernel_rfl, by kernel_rfl, by kernel_rfl, by decide +kernel, by kernel_rfl, by decide +kernel, by decide +kernel⟩, by kernel_rfl, by kernel_rfl, by decide +kernel, fun K m H => RepL.nil, fun K fd F j hj => ⟨[], by rw [show (T.dd 1).dvs K = [] from rfl, List.drop_nil]; exact .nil, F.bindsN fun _ _ _ _ _ _ us hl => match us, hl with | [_, _], _ => rfl⟩⟩
theorem ok2 : DefOk T 2 i2 := ⟨⟨by kernel_rfl, by kernel_rfl, by kernel_rfl, by decide +kernel, by kernel_rfl, by decide +kernel, by decide +kernel⟩, by kernel_rfl, by kernel_rfl, by decide +kernel, fun K m H => RepL.nil, fun K fd F j hj => ⟨[], by rw [show (T.dd 2).dvs K = [] from rfl, List.drop_nil]; exact .nil, F.bindsN fun _ _ _ _ _ _ us hl => match us, hl with | [_], _ => rfl⟩⟩
theorem ok3 : DefOk T 3 i3 := ⟨⟨by kernel_rfl, by kernel_rfl, by kernel_rfl, by decide +kernel, by kernel_rfl, by decide +kernel, by decide +kernel⟩, by kernel_rfl, by kernel_rfl, by decide +kernel, fun K m H => RepL.nil, fun K fd F j hj => ⟨[], by rw [show (T.dd 3).dvs K = [] from rfl, List.drop_nil]; exact .nil, F.bindsN fun _ _ _ _ _ _ us hl => match us, hl with | [_, _], _ => rfl⟩⟩
theorem ok4 : DefOk T 4 i4 := ⟨⟨by kernel_rfl, by kernel_rfl, by kernel_rfl, by decide +kernel, by kernel_rfl, by decide +kernel, by decide +kernel⟩, by kernel_rfl, by kernel_rfl, by decide +kernel, fun K m H => RepL.nil, fun K fd F j hj => ⟨[], by rw [show (T.dd 4).dvs K = [] from rfl, List.drop_nil]; exact .nil, F.bindsN fun _ _ _ _ _ _ us hl => match us, hl with | [_], _ => rfl⟩⟩
theorem ok5 : DefOk T 5 i5 := ⟨⟨by kernel_rfl, by kernel_rfl, by kernel_rfl, by decide +kernel, by kernel_rfl, by decide +kernel, by decide +kernel⟩, by kernel_rfl, by kernel_rfl, by decide +kernel, fun K m H => RepL.nil, fun K fd F j hj => ⟨[], by rw [show (T.dd 5).dvs K = [] from rfl, List.drop_nil]; exact .nil, F.bindsN fun _ _ _ _ _ _ us hl => match us, hl with | [_], _ => rfl⟩⟩
theorem ok6 : DefOk T 6 i6 := ⟨⟨by kernel_rfl, by kernel_rfl, by kernel_rfl, by decide +kernel, by kernel_rfl, by decide +kernel, by decide +kernel⟩, by kernel_rfl, by kernel_rfl, by decide +kernel, fun K m H => RepL.nil, fun K fd F j hj => ⟨[], by rw [show (T.dd 6).dvs K = [] from rfl, List.drop_nil]; exact .nil, F.bindsN fun _ _ _ _ _ _ us hl => match us, hl with | [_, _], _ => rfl⟩⟩
theorem ok7 : DefOk T 7 i7 := ⟨⟨by kernel_rfl, by kernel_rfl, by kernel_rfl, by decide +kernel, by kernel_rfl, by decide +kernel, by decide +kernel⟩, by kernel_rfl, by kernel_rfl, by decide +kernel, fun K m H => RepL.nil, fun K fd F j hj => ⟨[], by rw [show (T.dd 7).dvs K = [] from rfl, List.drop_nil]; exact .nil, F.bindsN fun _ _ _ _ _ _ us hl => match us, hl with | [_, _], _ => rfl⟩⟩
theorem ok8 : DefOk T 8 i8 := ⟨⟨by kernel_rfl, by kernel_rfl, by kernel_rfl, by decide +kernel, by kernel_rfl, by decide +kernel, by decide +kernel⟩, by kernel_rfl, by kernel_rfl, by decide +kernel, fun K m H => RepL.nil, fun K fd F j hj => ⟨[], by rw [show (T.dd 8).dvs K = [] from rfl, List.drop_nil]; exact .nil, F.bindsN fun _ _ _ _ _ _ us hl => match us, hl with | [_], _ => rfl⟩⟩
theorem okAll : ∀ f d, T.P.defs[f]? = some d → DefOk T f d
  | 0, _, h => by cases h; exact ok0
  | 1, _, h => by cases h; exact ok1
  | 2, _, h => by cases h; exact ok2
  | 3, _, h => by cases h; exact ok3
  | 4, _, h => by cases h; exact ok4
  | 5, _, h => by cases h; exact ok5
  | 6, _, h => by cases h; exact ok6
  | 7, _, h => by cases h; exact ok7
  | 8, _, h => by cases h; exact ok8
  | _ + 9, _, h => by cases h
abbrev R : PySem.W.OpenRow := PySem.W.OpenLaw.row PySem.Challenge.rw_wholecloth_k18_counter
abbrev hk : PySem.W.Hook := He.hookD 6 T.facts T.dds
def ob (s : PySem.W.SharedT) : He.AlD := He.obsDG 6 T.facts T.dds (HandSHeadRun.getT s)
theorem ob_eq (s : PySem.W.SharedT) : ob s = hk.obs s.abs := He.obsDG_eq (HandSHeadRun.getT_eq s)
theorem run (w : World) : HandSHeadRun.RunEq R (PySem.W.view R.prog [8]) hk ob 940 ["Counter", "_law_mixed", "_law_numbers", "_law_draw", "_law_equal", "_law_all_equal"] w := by
  intro os
  kernel_rfl
end K18

namespace K18
open PyI
local macro_rules
  | `(tactic| fail) => `(tactic| first
    | (with_reducible first
      | refine Eq.mpr os_augF ?_ | refine Eq.mpr ok_new ?_
      | refine Eq.mpr os_cons ?_ | refine Eq.mpr os_nil ?_ | refine Eq.mpr os_asg ?_ | refine Eq.mpr os_expr ?_ | refine Eq.mpr os_ite ?_ | refine Eq.mpr os_ret ?_
      | refine Eq.mpr os_retN ?_ | refine Eq.mpr os_brk ?_ | refine Eq.mpr os_cont ?_ | refine Eq.mpr os_pass ?_ | refine Eq.mpr os_for ?_ | refine Eq.mpr as_name ?_
      | refine Eq.mpr as_sub ?_ | refine Eq.mpr as_fld ?_ | refine Eq.mpr ok_con ?_ | refine Eq.mpr ok_bin ?_ | refine Eq.mpr ok_neg ?_ | refine Eq.mpr ok_cmp ?_
      | refine Eq.mpr ok_chain ?_ | refine Eq.mpr ok_and ?_ | refine Eq.mpr ok_or ?_ | refine Eq.mpr ok_not ?_ | refine Eq.mpr ok_ite ?_ | refine Eq.mpr ok_tup ?_
      | refine Eq.mpr ok_lst ?_ | refine Eq.mpr ok_idx ?_ | refine Eq.mpr ok_slice ?_ | refine Eq.mpr ok_fld ?_ | refine Eq.mpr ok_isi ?_ | refine Eq.mpr ok_call ?_
      | refine Eq.mpr ok_meth ?_ | refine Eq.mpr ok_bi ?_ | refine Eq.mpr ok_bm ?_ | refine Eq.mpr ok_nil ?_ | refine Eq.mpr ok_cons ?_ | refine Eq.mpr Ok_ok ?_
      | refine Eq.mpr tt_and ?_ | refine Eq.mpr tt_or ?_ | refine Eq.mpr tt_not ?_ | refine Eq.mpr tt_cmp ?_ | refine Eq.mpr tt_var ?_ | refine Eq.mpr tt_isi ?_
      | refine Eq.mpr tt_call ?_ | refine Eq.mpr tt_con ?_ | refine Eq.mpr tt_idx ?_ | refine Eq.mpr tt_chain ?_ | refine Eq.mpr tt_meth ?_ | refine Eq.mpr tt_fld ?_
      | refine Eq.mpr toB_bl ?_ | refine Eq.mpr b_add ?_ | refine Eq.mpr b_sub ?_ | refine Eq.mpr c_lt ?_ | refine Eq.mpr c_le ?_ | refine Eq.mpr c_gt ?_
      | refine Eq.mpr c_ge ?_ | refine Eq.mpr i_max ?_ | refine Eq.mpr i_min ?_ | refine Eq.mpr i_lenT ?_ | refine Eq.mpr wk_rng1 ?_
      | refine Eq.mpr wk_rng2 ?_ | refine Eq.mpr wk_seq ?_)
    | ((with_reducible refine Eq.mpr b_mul ⟨?_, ?_⟩); · first | assumption | (unfold big64; omega))
    | ((with_reducible refine Eq.mpr b_fdiv ⟨?_, ?_⟩); · omega)
    | ((with_reducible refine Eq.mpr b_mod ⟨?_, ?_⟩); · omega)
    | ((with_reducible refine Eq.mpr b_pow ⟨?_, ?_⟩); · decide)
    | ((with_reducible refine Eq.mpr c_eq ⟨?_, ?_⟩); · exact ⟨rfl, rfl⟩)
    | ((with_reducible refine Eq.mpr c_ne ⟨?_, ?_⟩); · exact ⟨rfl, rfl⟩)
    | ((with_reducible refine Eq.mpr c_is ⟨?_, ?_⟩); · rfl)
    | ((with_reducible refine Eq.mpr c_isn ⟨?_, ?_⟩); · rfl)
    | ((with_reducible apply w_var); · rfl)
    | ((with_reducible apply w_glob); · rfl)
    | ((with_reducible apply w_xtup); · rfl)
    | ((with_reducible refine And.intro ?_ ?_); · ((with_reducible show List.length _ ≤ LIM); exact Nat.le_of_ble_eq_true rfl))
    | ((with_reducible refine w_isiT ?_ ?_); · rfl)
    | ((with_reducible refine w_isiF ?_ ?_); · rfl)
    | ((with_reducible refine w_ift ?_ ?_); · first | assumption | decide)
    | ((with_reducible refine w_iff ?_ ?_); · first | assumption | decide)
    | dsimp only
    | rw [Bool.not_false]
    | rw [Bool.not_true])

section
variable {n l : Nat} {p : Int} {S : Store} {Q : Dat → Store → Prop}
theorem hm : P.defs[3]? = some iMixed := rfl
theorem hn : P.defs[4]? = some (iNumbers 3) := rfl
theorem hd : P.defs[5]? = some (iDraw 3) := rfl
theorem hE : P.defs[6]? = some (iEqual 7) := rfl
theorem hA : P.defs[7]? = some (iAll 6) := rfl
abbrev ctr (p : Int) : Cel := .ins 0 [(0, .int p)]
theorem rv_run (h : S[l]? = some (ctr p)) : recv P (.loc l) 10 S = some 1 := by simp only [recv, h]; rfl
theorem rv_pic (h : S[l]? = some (ctr p)) : recv P (.loc l) 11 S = some 2 := by simp only [recv, h]; rfl
theorem gf_last (h : S[l]? = some (ctr p)) : gfld P (.loc l) 0 S = .ok (.int p) S := by simp only [gfld, h]; rfl
theorem sf_last (h : S[l]? = some (ctr p)) {v : Dat} : sfld P (.loc l) 0 v S = .ok () (S.set l (.ins 0 [(0, v)])) := by simp only [sfld, h]; rfl
theorem sf_new (h : S[l]? = some (.ins 0 [])) {v : Dat} : sfld P (.loc l) 0 v S = .ok () (S.set l (.ins 0 [(0, v)])) := by simp only [sfld, h]; rfl
theorem init_ok {v : Dat} (h : S[l]? = some (.ins 0 [])) (q : Q .non (S.set l (.ins 0 [(0, v)]))) : Ok (callI P (n + 1) 0 [.loc l, v] S) Q := by
  refine ok_body (d := i0) rfl rfl ?_
  show Os (exs P _ _ b0 [some (.loc l), some v] S) _
  unfold b0
  repeat fail
  rw [sf_new h]
  repeat fail
  exact q
theorem next_ok (h : S[l]? = some (ctr p)) (q : Q (.tup [.str 2, .int (p + 1)]) (S.set l (ctr (p + 1)))) : Ok (callI P (n + 1) 1 [.loc l, .tup [.str 1]] S) Q := by
  refine ok_body (d := i1) rfl rfl ?_
  show Os (exs P _ _ b1 [some (.loc l), some (.tup [.str 1])] S) _
  have hl := (List.getElem?_eq_some_iff.mp h).1
  unfold b1
  repeat fail
  rw [gf_last h]
  repeat fail
  show _ = _ ∧ _
  refine ⟨rfl, ?_⟩
  rw [sf_last h]
  repeat fail
  rw [gf_last (p := p + 1) (List.getElem?_set_self hl)]
  repeat fail
  exact q
theorem other_ok {c : Dat} (hs : shp c = true) (hc : deq c (.tup [.str 1]) = false) (q : Q (if deq c (.tup [.str 3]) = true then .tup [.str 3] else .tup [.str 4]) S) : Ok (callI P (n + 1) 1 [.loc l, c] S) Q := by
  refine ok_body (d := i1) rfl rfl ?_
  show Os (exs P _ _ b1 [some (.loc l), some c] S) _
  unfold b1
  repeat fail
  refine Eq.mpr c_eq ⟨⟨hs, rfl⟩, ?_⟩
  repeat fail
  rw [hc]
  repeat fail
  refine Eq.mpr c_eq ⟨⟨hs, rfl⟩, ?_⟩
  repeat fail
  by_cases h3 : deq c (.tup [.str 3]) = true
  · rw [if_pos h3] at q ⊢
    repeat fail
    exact q
  · rw [if_neg h3] at q ⊢
    repeat fail
    exact q
theorem pic_ok (h : S[l]? = some (ctr p)) (q : Q (.tup [.str 5, .int p]) S) : Ok (callI P (n + 1) 2 [.loc l] S) Q := by
  refine ok_body (d := i2) rfl rfl ?_
  show Os (exs P _ _ b2 [some (.loc l)] S) _
  unfold b2
  repeat fail
  rw [gf_last h]
  repeat fail
  exact q
theorem same_flat {S : Store} {k : Nat} {ds : List Dat} (hz : ds.length ≤ LIM) (h : ds.all flatD = true) : sameV S (k + 1) (.tup ds) (.tup ds) := .inr ⟨_, _, rfl, hz, fun i x y h1 h2 => by
  rw [h1] at h2
  cases h2
  have := List.all_eq_true.mp h x (List.mem_of_getElem? h1)
  cases k with
  | zero => exact ⟨rfl, this⟩
  | succ k => exact .inl ⟨rfl, this⟩, .inl ⟨rfl, rfl⟩⟩
end
theorem seq_ok {P : Prog} {fn mk : Fn} {s : Stm} {r : Stms} {σ : Slots} {S : Store} {D : En} (R : Slots → Store → Prop) (h1 : Os (ex P fn mk s σ S) { nx := R, rt := D.rt, bk := D.bk, ct := D.ct }) (h2 : ∀ σ S, R σ S → Os (exs P fn mk r σ S) D) : Os (exs P fn mk (.cons s r) σ S) D := by
  rw [os_cons]
  exact h1.imp h2 (fun _ _ h => h) (fun _ _ h => h) fun _ _ h => h
def OTH : List Dat := [.tup [.str 9], .tup [.str 1, .int 1], .tup [.str 8], .tup [.str 2, .int 4], .tup [.str 3, .int 1], .tup [.str 7, .tup [.int 1, .int 2, .int 3]], .tup [.str 6, .int 5, .int 2], .tup [.str 3]]
structure Ks (S : Store) (p q u v : Int) : Prop where
  dr : DrE S 2 1
  a : S[3]? = some (ctr p)
  b : S[4]? = some (ctr q)
  c : S[5]? = some (.lst [.int u, .int v])
  o : S[6]? = some (.lst OTH)
section
variable {S S' : Store} {p q u v : Int}
theorem Ks.fr (k : Ks S p q u v) (d : DrE S' 2 1) (f : Fr 2 S S') : Ks S' p q u v := ⟨d, f.at_ (by decide) k.a, f.at_ (by decide) k.b, f.at_ (by decide) k.c, f.at_ (by decide) k.o⟩
theorem Ks.len (k : Ks S p q u v) : 6 < S.length := (List.getElem?_eq_some_iff.mp k.o).1
theorem Ks.app (k : Ks S p q u v) (T : Store) : Ks (S ++ T) p q u v := by
  have hl := k.len
  refine ⟨k.dr.app, ?_, ?_, ?_, ?_⟩
  · rw [List.getElem?_append_left (by omega)]; exact k.a
  · rw [List.getElem?_append_left (by omega)]; exact k.b
  · rw [List.getElem?_append_left (by omega)]; exact k.c
  · rw [List.getElem?_append_left (by omega)]; exact k.o
theorem dset {j : Nat} {c : Cel} (d : DrE S 2 1) (h2 : j ≠ 2) (h1 : j ≠ 1) : DrE (S.set j c) 2 1 := by
  obtain ⟨xs, a, d⟩ := d
  exact ⟨xs, a, by rw [List.getElem?_set_ne h2]; exact d.l_, by rw [List.getElem?_set_ne h1]; exact d.k_, d.g_, d.n_, d.ne⟩
theorem Ks.set5 (k : Ks S p q u v) {u' v' : Int} : Ks (S.set 5 (.lst [.int u', .int v'])) p q u' v' := by
  have hl := k.len
  refine ⟨dset k.dr (by decide) (by decide), ?_, ?_, ?_, ?_⟩
  · rw [List.getElem?_set_ne (by decide)]; exact k.a
  · rw [List.getElem?_set_ne (by decide)]; exact k.b
  · rw [List.getElem?_set_self (by omega)]
  · rw [List.getElem?_set_ne (by decide)]; exact k.o
theorem Ks.set3 (k : Ks S p q u v) {u' : Int} : Ks (S.set 3 (ctr u')) u' q u v := by
  have hl := k.len
  refine ⟨dset k.dr (by decide) (by decide), ?_, ?_, ?_, ?_⟩
  · rw [List.getElem?_set_self (by omega)]
  · rw [List.getElem?_set_ne (by decide)]; exact k.b
  · rw [List.getElem?_set_ne (by decide)]; exact k.c
  · rw [List.getElem?_set_ne (by decide)]; exact k.o
theorem Ks.set4 (k : Ks S p q u v) {u' : Int} : Ks (S.set 4 (ctr u')) p u' u v := by
  have hl := k.len
  refine ⟨dset k.dr (by decide) (by decide), ?_, ?_, ?_, ?_⟩
  · rw [List.getElem?_set_ne (by decide)]; exact k.a
  · rw [List.getElem?_set_self (by omega)]
  · rw [List.getElem?_set_ne (by decide)]; exact k.c
  · rw [List.getElem?_set_ne (by decide)]; exact k.o
end
def Sl (σ : Slots) : Prop := ∃ b a0 a1 a2 a3 a4, σ = [some (.loc 0), some (.loc 2), some (.loc 3), b, some (.loc 4), some (.loc 5), some (.loc 6), a0, a1, a2, a3, a4]
theorem oth_ok {c : Dat} (h : c ∈ OTH) : shp c = true ∧ deq c (.tup [.str 1]) = false := by
  have : OTH.all (fun c => shp c && !deq c (.tup [.str 1])) = true := by decide +kernel
  have := List.all_eq_true.mp this c h
  simpa using this
theorem oth_at {v : Int} : ∃ c, c ∈ OTH ∧ atD OTH (v % 8) = some c := by
  have h0 : 0 ≤ v % 8 := by omega
  have h1 : v % 8 < 8 := by omega
  obtain ⟨j, e⟩ := Int.eq_ofNat_of_zero_le h0
  have hj : j < OTH.length := by show j < 8; omega
  exact ⟨OTH[j], List.getElem_mem hj, by rw [e]; exact atD_nat (List.getElem?_eq_getElem hj)⟩
def bTail : Stms :=
  (.cons (.ite (.orE (.notE (.call 6 (.cons (.fld (.var 2) 0) (.cons (.idx (.var 5) (.con (.int 0))) .nil)))) (.notE (.call 6 (.cons (.fld (.var 4) 0) (.cons (.idx (.var 5) (.con (.int 1))) .nil))))) 
    (.cons (.ret (.con (.bl false))) .nil) .nil)
  (.cons (.ite (.notE (.call 6 (.cons (.meth (.var 2) 11 .nil) (.cons (.tup (.cons (.con (.str 5)) (.cons (.idx (.var 5) (.con (.int 0))) .nil))) .nil)))) 
    (.cons (.ret (.con (.bl false))) .nil) .nil)
  (.cons (.ite (.notE (.call 6 (.cons (.meth (.var 4) 11 .nil) (.cons (.tup (.cons (.con (.str 5)) (.cons (.idx (.var 5) (.con (.int 1))) .nil))) .nil)))) 
    (.cons (.ret (.con (.bl false))) .nil) .nil) .nil)))
theorem first_ok {S : Store} {p q : Int} {D : En} {σ : Slots} (hσ : Sl σ) (k : Ks S p q p q) (hD : ∀ σ S' p q, Sl σ → Ks S' p q p q → Os (exs P (callI P 41) (callI P (41 - 1)) bTail σ S') D) :
    Os (exs P (callI P 41) (callI P (41 - 1)) b8_1 σ S) D := by
  obtain ⟨b, a0, a1, a2, a3, a4, rfl⟩ := hσ
  unfold b8_1
  repeat fail
  rw [ok_app hd rfl]
  refine drawE_ok hm hd k.dr fun v1 S1 _ _ dr1 f1 => ?_
  have k1 := k.fr dr1 f1
  repeat fail
  have k2 := k1.app [.lst [.loc 3, .loc 4]]
  rcases (show v1 % 2 = 0 ∨ v1 % 2 = 1 by omega) with e | e <;> rw [e]
  · refine w_xlst get_last rfl ?_
    refine Eq.mpr as_name ?_
    refine seq_ok (fun σ S => Sl σ ∧ ∃ p q, Ks S p q p q) ?_ fun σ S ⟨h1, p, q, h2⟩ => hD σ S p q h1 h2
    repeat fail
    rw [ok_app hd rfl]
    refine drawE_ok hm hd k2.dr fun v2 S2 _ _ dr2 f2 => ?_
    have k3 := k2.fr dr2 f2
    repeat fail
    by_cases hc : 0 < v2 % 3
    · refine w_ift (decide_eq_true hc) ?_
      repeat fail
      refine w_xlst k3.c rfl ?_
      repeat fail
      refine w_slst (j := 0) k3.c rfl ?_
      dsimp only [List.set]
      have k4 := k3.set5 (u' := p + 1) (v' := q)
      repeat fail
      rw [rv_run k4.a]
      repeat fail
      rw [ok_app (d := i1) rfl rfl]
      refine next_ok k4.a ?_
      have k5 := k4.set3 (u' := p + 1)
      repeat fail
      refine w_xlst k5.c rfl ?_
      repeat fail
      rw [ok_app hE rfl]
      refine (equal_ok hA hE 1 38 _ _ (same_flat (Nat.le_of_ble_eq_true rfl) rfl)).imp ?_
      rintro x S6 ⟨rfl, rfl⟩
      repeat fail
      exact ⟨⟨_, _, _, _, _, _, rfl⟩, _, _, k5⟩
    · refine w_iff (fun z => hc (of_decide_eq_true z)) ?_
      repeat fail
      rw [ok_app hd rfl]
      refine drawE_ok hm hd k3.dr fun v3 S3 _ _ dr3 f3 => ?_
      have k4 := k3.fr dr3 f3
      repeat fail
      obtain ⟨c, hc1, hc2⟩ := oth_at (v := v3)
      obtain ⟨hs, hq⟩ := oth_ok hc1
      refine w_xlst k4.o hc2 ?_
      repeat fail
      refine Eq.mpr c_eq ⟨⟨hs, rfl⟩, ?_⟩
      repeat fail
      by_cases h3 : deq c (.tup [.str 3]) = true
      · refine w_ift h3 ?_
        repeat fail
        rw [rv_run k4.a]
        repeat fail
        rw [ok_app (d := i1) rfl rfl]
        refine other_ok hs hq ?_
        rw [if_pos h3]
        repeat fail
        rw [ok_app hE rfl]
        refine (equal_ok hA hE 1 38 _ _ (same_flat (Nat.le_of_ble_eq_true rfl) rfl)).imp ?_
        rintro x S6 ⟨rfl, rfl⟩
        repeat fail
        exact ⟨⟨_, _, _, _, _, _, rfl⟩, _, _, k4⟩
      · refine w_iff h3 ?_
        repeat fail
        rw [rv_run k4.a]
        repeat fail
        rw [ok_app (d := i1) rfl rfl]
        refine other_ok hs hq ?_
        rw [if_neg h3]
        repeat fail
        rw [ok_app hE rfl]
        refine (equal_ok hA hE 1 38 _ _ (same_flat (Nat.le_of_ble_eq_true rfl) rfl)).imp ?_
        rintro x S6 ⟨rfl, rfl⟩
        repeat fail
        exact ⟨⟨_, _, _, _, _, _, rfl⟩, _, _, k4⟩
  · refine w_xlst get_last rfl ?_
    refine Eq.mpr as_name ?_
    refine seq_ok (fun σ S => Sl σ ∧ ∃ p q, Ks S p q p q) ?_ fun σ S ⟨h1, p, q, h2⟩ => hD σ S p q h1 h2
    repeat fail
    rw [ok_app hd rfl]
    refine drawE_ok hm hd k2.dr fun v2 S2 _ _ dr2 f2 => ?_
    have k3 := k2.fr dr2 f2
    repeat fail
    by_cases hc : 0 < v2 % 3
    · refine w_ift (decide_eq_true hc) ?_
      repeat fail
      refine w_xlst k3.c rfl ?_
      repeat fail
      refine w_slst (j := 1) k3.c rfl ?_
      dsimp only [List.set]
      have k4 := k3.set5 (u' := p) (v' := q + 1)
      repeat fail
      rw [rv_run k4.b]
      repeat fail
      rw [ok_app (d := i1) rfl rfl]
      refine next_ok k4.b ?_
      have k5 := k4.set4 (u' := q + 1)
      repeat fail
      refine w_xlst k5.c rfl ?_
      repeat fail
      rw [ok_app hE rfl]
      refine (equal_ok hA hE 1 38 _ _ (same_flat (Nat.le_of_ble_eq_true rfl) rfl)).imp ?_
      rintro x S6 ⟨rfl, rfl⟩
      repeat fail
      exact ⟨⟨_, _, _, _, _, _, rfl⟩, _, _, k5⟩
    · refine w_iff (fun z => hc (of_decide_eq_true z)) ?_
      repeat fail
      rw [ok_app hd rfl]
      refine drawE_ok hm hd k3.dr fun v3 S3 _ _ dr3 f3 => ?_
      have k4 := k3.fr dr3 f3
      repeat fail
      obtain ⟨c, hc1, hc2⟩ := oth_at (v := v3)
      obtain ⟨hs, hq⟩ := oth_ok hc1
      refine w_xlst k4.o hc2 ?_
      repeat fail
      refine Eq.mpr c_eq ⟨⟨hs, rfl⟩, ?_⟩
      repeat fail
      by_cases h3 : deq c (.tup [.str 3]) = true
      · refine w_ift h3 ?_
        repeat fail
        rw [rv_run k4.b]
        repeat fail
        rw [ok_app (d := i1) rfl rfl]
        refine other_ok hs hq ?_
        rw [if_pos h3]
        repeat fail
        rw [ok_app hE rfl]
        refine (equal_ok hA hE 1 38 _ _ (same_flat (Nat.le_of_ble_eq_true rfl) rfl)).imp ?_
        rintro x S6 ⟨rfl, rfl⟩
        repeat fail
        exact ⟨⟨_, _, _, _, _, _, rfl⟩, _, _, k4⟩
      · refine w_iff h3 ?_
        repeat fail
        rw [rv_run k4.b]
        repeat fail
        rw [ok_app (d := i1) rfl rfl]
        refine other_ok hs hq ?_
        rw [if_neg h3]
        repeat fail
        rw [ok_app hE rfl]
        refine (equal_ok hA hE 1 38 _ _ (same_flat (Nat.le_of_ble_eq_true rfl) rfl)).imp ?_
        rintro x S6 ⟨rfl, rfl⟩
        repeat fail
        exact ⟨⟨_, _, _, _, _, _, rfl⟩, _, _, k4⟩
theorem tail_ok {S : Store} {p q : Int} {D : En} {σ : Slots} (hσ : Sl σ) (k : Ks S p q p q) (hD : ∀ σ S' p q, Sl σ → Ks S' p q p q → D.nx σ S') :
    Os (exs P (callI P 41) (callI P (41 - 1)) bTail σ S) D := by
  obtain ⟨b, a0, a1, a2, a3, a4, rfl⟩ := hσ
  unfold bTail
  repeat fail
  rw [gf_last k.a]
  repeat fail
  refine w_xlst k.c rfl ?_
  repeat fail
  rw [ok_app hE rfl]
  refine (equal_ok hA hE 0 40 _ _ ⟨rfl, rfl⟩).imp ?_
  rintro x S1 ⟨rfl, rfl⟩
  repeat fail
  rw [gf_last k.b]
  repeat fail
  refine w_xlst k.c rfl ?_
  repeat fail
  rw [ok_app hE rfl]
  refine (equal_ok hA hE 0 40 _ _ ⟨rfl, rfl⟩).imp ?_
  rintro x S2 ⟨rfl, rfl⟩
  repeat fail
  rw [rv_pic k.a]
  repeat fail
  rw [ok_app (d := i2) rfl rfl]
  refine pic_ok k.a ?_
  repeat fail
  refine w_xlst k.c rfl ?_
  repeat fail
  rw [ok_app hE rfl]
  refine (equal_ok hA hE 1 38 _ _ (same_flat (Nat.le_of_ble_eq_true rfl) rfl)).imp ?_
  rintro x S3 ⟨rfl, rfl⟩
  repeat fail
  rw [rv_pic k.b]
  repeat fail
  rw [ok_app (d := i2) rfl rfl]
  refine pic_ok k.b ?_
  repeat fail
  refine w_xlst k.c rfl ?_
  repeat fail
  rw [ok_app hE rfl]
  refine (equal_ok hA hE 1 38 _ _ (same_flat (Nat.le_of_ble_eq_true rfl) rfl)).imp ?_
  rintro x S4 ⟨rfl, rfl⟩
  repeat fail
  exact hD _ _ _ _ ⟨_, _, _, _, _, _, rfl⟩ k
end K18

namespace K18
open PyI
local macro_rules
  | `(tactic| fail) => `(tactic| first
    | (with_reducible first
      | refine Eq.mpr os_augF ?_ | refine Eq.mpr ok_new ?_
      | refine Eq.mpr os_cons ?_ | refine Eq.mpr os_nil ?_ | refine Eq.mpr os_asg ?_ | refine Eq.mpr os_expr ?_ | refine Eq.mpr os_ite ?_ | refine Eq.mpr os_ret ?_
      | refine Eq.mpr os_retN ?_ | refine Eq.mpr os_brk ?_ | refine Eq.mpr os_cont ?_ | refine Eq.mpr os_pass ?_ | refine Eq.mpr os_for ?_ | refine Eq.mpr as_name ?_
      | refine Eq.mpr as_sub ?_ | refine Eq.mpr as_fld ?_ | refine Eq.mpr ok_con ?_ | refine Eq.mpr ok_bin ?_ | refine Eq.mpr ok_neg ?_ | refine Eq.mpr ok_cmp ?_
      | refine Eq.mpr ok_chain ?_ | refine Eq.mpr ok_and ?_ | refine Eq.mpr ok_or ?_ | refine Eq.mpr ok_not ?_ | refine Eq.mpr ok_ite ?_ | refine Eq.mpr ok_tup ?_
      | refine Eq.mpr ok_lst ?_ | refine Eq.mpr ok_idx ?_ | refine Eq.mpr ok_slice ?_ | refine Eq.mpr ok_fld ?_ | refine Eq.mpr ok_isi ?_ | refine Eq.mpr ok_call ?_
      | refine Eq.mpr ok_meth ?_ | refine Eq.mpr ok_bi ?_ | refine Eq.mpr ok_bm ?_ | refine Eq.mpr ok_nil ?_ | refine Eq.mpr ok_cons ?_ | refine Eq.mpr Ok_ok ?_
      | refine Eq.mpr tt_and ?_ | refine Eq.mpr tt_or ?_ | refine Eq.mpr tt_not ?_ | refine Eq.mpr tt_cmp ?_ | refine Eq.mpr tt_var ?_ | refine Eq.mpr tt_isi ?_
      | refine Eq.mpr tt_call ?_ | refine Eq.mpr tt_con ?_ | refine Eq.mpr tt_idx ?_ | refine Eq.mpr tt_chain ?_ | refine Eq.mpr tt_meth ?_ | refine Eq.mpr tt_fld ?_
      | refine Eq.mpr toB_bl ?_ | refine Eq.mpr b_add ?_ | refine Eq.mpr b_sub ?_ | refine Eq.mpr c_lt ?_ | refine Eq.mpr c_le ?_ | refine Eq.mpr c_gt ?_
      | refine Eq.mpr c_ge ?_ | refine Eq.mpr i_max ?_ | refine Eq.mpr i_min ?_ | refine Eq.mpr i_lenT ?_ | refine Eq.mpr wk_rng1 ?_
      | refine Eq.mpr wk_rng2 ?_ | refine Eq.mpr wk_seq ?_)
    | ((with_reducible refine Eq.mpr b_mul ⟨?_, ?_⟩); · first | assumption | (unfold big64; omega))
    | ((with_reducible refine Eq.mpr b_fdiv ⟨?_, ?_⟩); · omega)
    | ((with_reducible refine Eq.mpr b_mod ⟨?_, ?_⟩); · omega)
    | ((with_reducible refine Eq.mpr b_pow ⟨?_, ?_⟩); · decide)
    | ((with_reducible refine Eq.mpr c_eq ⟨?_, ?_⟩); · exact ⟨rfl, rfl⟩)
    | ((with_reducible refine Eq.mpr c_ne ⟨?_, ?_⟩); · exact ⟨rfl, rfl⟩)
    | ((with_reducible refine Eq.mpr c_is ⟨?_, ?_⟩); · rfl)
    | ((with_reducible refine Eq.mpr c_isn ⟨?_, ?_⟩); · rfl)
    | ((with_reducible apply w_var); · rfl)
    | ((with_reducible apply w_glob); · rfl)
    | ((with_reducible apply w_xtup); · rfl)
    | ((with_reducible refine And.intro ?_ ?_); · ((with_reducible show List.length _ ≤ LIM); exact Nat.le_of_ble_eq_true rfl))
    | ((with_reducible refine w_isiT ?_ ?_); · rfl)
    | ((with_reducible refine w_isiF ?_ ?_); · rfl)
    | ((with_reducible refine w_ift ?_ ?_); · first | assumption | decide)
    | ((with_reducible refine w_iff ?_ ?_); · first | assumption | decide)
    | dsimp only
    | rw [Bool.not_false]
    | rw [Bool.not_true])

theorem w_appd {fn : Fn} {f : Nat} {as full : List Dat} {S : Store} {Q : Dat → Store → Prop} (h : filled P f as = some full) (q : Ok (fn f full S) Q) : Ok (app P fn f as S) Q := by
  unfold app
  rw [h]
  exact q
theorem fr_app {S : Store} {T : Store} {i : Nat} {c : Cel} (h : S[i]? = some c) : (S ++ T)[i]? = some c := by
  rw [List.getElem?_append_left (List.getElem?_eq_some_iff.mp h).1]
  exact h
theorem main (ns : List Int) (h : ns.length ≤ 63) : ∃ S', callI P 42 8 [.loc 0] [.scr (ns.map Dat.int)] = .ok (.bl true) S' := by
  have key : Ok (callI P 42 8 [.loc 0] [.scr (iLs ns)]) fun v _ => v = .bl true := by
    refine ok_body (d := i8) rfl rfl ?_
    show Os (exs P _ _ b8 [some (.loc 0), none, none, none, none, none, none, none, none, none, none, none] [.scr (iLs ns)]) _
    unfold b8
    repeat fail
    rw [ok_app hn rfl]
    refine numbers_ok (n := 39) (l := 0) hm hn rfl h fun xs hg _ => ?_
    have dr := open_ok (ns := ns) hg
    have hlen : ([.scr (iLs ns)] ++ [.lst (iLs xs)] ++ [.lst [.loc 1, .int 0]] : Store).length = 3 := rfl
    repeat fail
    revert dr hlen
    show DrE ([.scr (iLs ns)] ++ [.lst (iLs xs)] ++ [.lst [.loc 1, .int 0]]) 2 1 → _
    generalize hS : ([.scr (iLs ns)] ++ [.lst (iLs xs)] ++ [.lst [.loc 1, .int 0]] : Store) = S0
    intro dr hlen
    show Ok (app P (callI P (39 + 1)) 0 [.loc S0.length] (S0 ++ [.ins 0 []])) _
    refine w_appd (full := [.loc S0.length, .int 0]) rfl ?_
    refine init_ok (n := 39) get_last ?_
    rw [set_last]
    have dr1 := dr.app (T := [ctr 0])
    have c1 : (S0 ++ [ctr 0])[3]? = some (ctr 0) := by rw [← hlen]; exact get_last
    have l1 : (S0 ++ [ctr 0]).length = 4 := by rw [List.length_append, hlen]; rfl
    refine ⟨rfl, ?_⟩
    rw [hlen]
    generalize S0 ++ [ctr 0] = S1 at dr1 c1 l1 ⊢
    repeat fail
    rw [ok_app hd rfl]
    refine drawE_ok (l := 2) (k := 1) hm hd dr1 fun v2 S2 h2 h2' dr2 f2 => ?_
    have c2 := f2.at_ (by decide) c1
    have l2 : S2.length = 4 := f2.1.trans l1
    repeat fail
    rw [ok_app hd rfl]
    refine drawE_ok (l := 2) (k := 1) hm hd dr2 fun v3 S3 h3 h3' dr3 f3 => ?_
    have c3 := f3.at_ (by decide) c2
    have l3 : S3.length = 4 := f3.1.trans l2
    repeat fail
    generalize v2 * (v3 % 2) = w
    show Ok (app P (callI P (39 + 1)) 0 [.loc S3.length, .int w] (S3 ++ [.ins 0 []])) _
    refine w_appd (full := [.loc S3.length, .int w]) rfl ?_
    refine init_ok (n := 39) get_last ?_
    rw [set_last]
    refine ⟨rfl, ?_⟩
    rw [l3]
    have dr4 := dr3.app (T := [ctr w])
    have c4 := fr_app (T := [ctr w]) c3
    have e4 : (S3 ++ [ctr w])[4]? = some (ctr w) := by rw [← l3]; exact get_last
    have l4 : (S3 ++ [ctr w]).length = 5 := by rw [List.length_append, l3]; rfl
    generalize S3 ++ [ctr w] = S4 at dr4 c4 e4 l4 ⊢
    repeat fail
    rw [l4]
    have dr5 := dr4.app (T := [Cel.lst [.int 0, .int w]])
    have c5 := fr_app (T := [Cel.lst [.int 0, .int w]]) c4
    have e5 := fr_app (T := [Cel.lst [.int 0, .int w]]) e4
    have g5 : (S4 ++ [Cel.lst [.int 0, .int w]])[5]? = some (.lst [.int 0, .int w]) := by rw [← l4]; exact get_last
    have l5 : (S4 ++ [Cel.lst [.int 0, .int w]]).length = 6 := by rw [List.length_append, l4]; rfl
    generalize S4 ++ [Cel.lst [.int 0, .int w]] = S5 at dr5 c5 e5 g5 l5 ⊢
    rw [l5]
    have dr6 := dr5.app (T := [Cel.lst OTH])
    have c6 := fr_app (T := [Cel.lst OTH]) c5
    have e6 := fr_app (T := [Cel.lst OTH]) e5
    have g6 := fr_app (T := [Cel.lst OTH]) g5
    have o6 : (S5 ++ [Cel.lst OTH])[6]? = some (.lst OTH) := by rw [← l5]; exact get_last
    have k6 : Ks (S5 ++ [Cel.lst OTH]) 0 w 0 w := ⟨dr6, c6, e6, g6, o6⟩
    show Ok (app P (callI P 41) 5 [.loc 2] (S5 ++ [Cel.lst OTH])) _
    rw [ok_app hd rfl]
    refine drawE_ok (l := 2) (k := 1) hm hd dr6 fun v7 S7 h7 h7' dr7 f7 => ?_
    have k7 := k6.fr dr7 f7
    repeat fail
    refine ⟨by omega, ?_⟩
    refine for_inv0 (fun i σ S' => Sl σ ∧ ∃ p q, Ks S' p q p q) ⟨⟨_, _, _, _, _, _, rfl⟩, _, _, k7⟩ (fun _ _ _ _ => rfl) ?_ ?_
    · rintro i x σ S' hx ⟨⟨b, a0, a1, a2, a3, a4, rfl⟩, p, q, k⟩
      refine Eq.mpr as_name ?_
      exact first_ok ⟨_, _, _, _, _, _, rfl⟩ k fun σ S' p q h1 h2 => tail_ok h1 h2 fun σ S' p q h1 h2 => ⟨h1, p, q, h2⟩
    · rintro σ S' ⟨⟨b, a0, a1, a2, a3, a4, rfl⟩, p, q, k⟩
      repeat fail
  obtain ⟨v, S', e, rfl⟩ := key.ex
  exact ⟨S', e⟩
end K18

open PySem PySem.W PySem.Calls PyProof.Rows
theorem PySem.Challenge.cw_wholecloth_k18_counter_holds : PySem.Challenge.rw_wholecloth_k18_counter.Holds := by
  w_on; o_law
  refine HandSHeadRun.head_any (r := OpenLaw.row PySem.Challenge.rw_wholecloth_k18_counter) (q := view (OpenLaw.row PySem.Challenge.rw_wholecloth_k18_counter).prog [8]) (H := K18.hk) (ob := K18.ob) (M := 940) (loose := ["Counter", "_law_mixed", "_law_numbers", "_law_draw", "_law_equal", "_law_all_equal"]) (d := HandSHeadRun.topDef (OpenLaw.row PySem.Challenge.rw_wholecloth_k18_counter).prog 8) (kwd := []) K18.ob_eq
    (by kernel_rfl) (fun s => by kernel_rfl) K18.run (by kernel_rfl) (by kernel_rfl) (by kernel_rfl) (by rfl) (by first | assumption | decide +kernel) (by decide +kernel) ⟨rfl, rfl, rfl, rfl, rfl, by decide +kernel⟩ ?hw ?hc
  case hw => w_witness2
  case hc =>
    exact PyS.walk_D (l := PySem.Challenge.rw_wholecloth_k18_counter) (n := 63) (k := 40) (x := "_law_script") (T := K18.T) (lf := 8) (ld := K18.i8) rfl (by decide) (by kernel_rfl) ⟨rfl, by decide, by decide⟩
      (PyS.wtab_inj (ws := K18.ws) (by decide +kernel)) (PyS.wtab_ok (ws := K18.ws) (by decide +kernel)) (by decide +kernel) K18.okAll rfl (by kernel_rfl) (by kernel_rfl) rfl (fun _ _ _ _ _ _ us hl => match us, hl with | [_], _ => rfl) K18.main

