import PyProof.Rows.All
import PyProof.TableCode
import Wide.All
import OpenK.AllK
import Wide.FinOn
import KE.KStateDown
import Lean
import HandS.ForMost
import HandS.ForExc
import HandS.More
import HandS.Defaults
import HandS.Walk
import HandS.Zip
import HandS.Wide
import HandS.Style
import HandS.IsInst
import HandS.TupLe
import HandS.TupAny
import HandS.Deep
import HandS.Codes
import HandS.Head0
import HandS.Head1
import HandS.Head2
import HandS.HeadEnd
import HandS.HeadHook1
import HandS.HeadHook2
import HandS.HeadHook3
import HandS.HeadHook4
import HandS.SortInts
import HandS.SortRule
import HandS.SetFor
import HandS.Strs
import HandS.Sort
import KE.GoesZip
import KE.KDictItemsList
import KE.GoesEnum
import HandS.ExcValue
import HandS.Conv
import HandS.ReplaceLit
import HandS.ReplaceDef
import HandS.ReplaceList
import HandS.Exc
import HandS.ExcOwn
import HandS.ExcIs
import HandS.ExcInit
import HandS.ExcField
import HandS.CallSlots
import KE.GoesMore
import KE.DataMinMax
import PySem.Challenge.RW_hightries_k24_whole_each_alone
set_option Elab.async false
set_option linter.all false
set_option maxRecDepth 100000
set_option maxHeartbeats 4000000
/-! Mini: a small language over plain data, and its interpreter. -/
namespace Mi

/-- plain data; obj: a thing of the store -/
inductive D where
  | non | bl (b : Bool) | int (i : Int) | str (s : List Nat) | lst (xs : List D) | tup (xs : List D) | obj (n : Nat) | scr (ns : List Int)

/-- Python's == on data -/
def deq : D → D → Bool
  | .non, .non => true
  | .bl a, .bl b => a == b
  | .bl a, .int j => (if a then (1 : Int) else 0) == j
  | .int i, .bl b => i == (if b then (1 : Int) else 0)
  | .int i, .int j => i == j
  | .str x, .str y => x == y
  | .lst xs, .lst ys => deqs xs ys
  | .tup xs, .tup ys => deqs xs ys
  | _, _ => false
where deqs : List D → List D → Bool
  | [], [] => true
  | x :: xs, y :: ys => deq x y && deqs xs ys
  | _, _ => false
/-- no thing of the store in it, at most n deep -/
def pl : Nat → D → Bool
  | 0, _ => false
  | _, .obj _ => false
  | _, .scr _ => false
  | n + 1, .lst xs => xs.all (pl n)
  | n + 1, .tup xs => xs.all (pl n)
  | _ + 1, _ => true

inductive Cell where
  | ins (C : Nat) (fs : List (Nat × D))
  | dic (kvs : List (List Nat × D))
abbrev Sto := List Cell
structure Xc where
  cls : Nat
  arg : Option D
inductive R (α : Type) where
  | ok (a : α) (S : Sto)
  | xc (x : Xc) (S : Sto)
  | no
def R.bind {α β : Type} (r : R α) (f : α → Sto → R β) : R β := match r with
  | .ok a S => f a S
  | .xc x S => .xc x S
  | .no => .no
@[simp] theorem R.bind_ok {α β : Type} (a : α) (S : Sto) (f : α → Sto → R β) : (R.ok a S).bind f = f a S := Eq.trans rfl rfl
@[simp] theorem R.bind_xc {α β : Type} (x : Xc) (S : Sto) (f : α → Sto → R β) : (R.xc x S).bind f = .xc x S := Eq.trans rfl rfl
theorem R.bind_assoc {α β γ : Type} (r : R α) (f : α → Sto → R β) (g : β → Sto → R γ) : (r.bind f).bind g = r.bind fun a S => (f a S).bind g := by cases r <;> rfl
@[simp] theorem R.bind_no {α β : Type} (f : α → Sto → R β) : (R.no).bind f = .no := Eq.trans rfl rfl
def lift (o : Option D) (S : Sto) : R D := match o with
  | some d => .ok d S
  | none => .no
@[simp] theorem lift_some (d : D) (S : Sto) : lift (some d) S = .ok d S := Eq.trans rfl rfl
@[simp] theorem lift_none (S : Sto) : lift none S = .no := Eq.trans rfl rfl

inductive Slot where
  | emp | val (d : D) | own (ds : List D) | err
abbrev Env := List Slot
abbrev Fn := List D → Sto → R D
/-- the defs and the constants of the module; sub: is the one class below the other; exc: which may be raised with a text; err: the caught one; fd: the fields of a class; mt: methods, by class and name; mkr: classes that are called: the class, __init__, default arguments -/
structure Fns where
  fn : Nat → Option Fn
  gl : Nat → Option D
  sub : Nat → Nat → Option Bool
  exc : Nat → Bool
  err : Option Xc
  fr : Nat → Option Fn
  fd : Nat → Nat → Bool
  mt : Nat → Option (Nat × Nat × Fn)
  mkr : Nat → Option (Nat × Fn × List D)
  low : Nat → Bool
/-- in an except suite -/
def Fns.hot (F : Fns) (x : Xc) : Fns := { F with fn := fun _ => none, exc := fun _ => false, err := some x, fr := fun _ => none, mt := fun _ => none, mkr := fun _ => none, low := fun _ => false }

/-! ### operations on data -/
/-- the greatest length -/
def lim : Nat := 1000000
inductive O2 where
  | add | sub | mul | fdv | mod | pow | eq | ne | lt | le | gt | ge | isin | nin | iss | isn
deriving DecidableEq
/-- < of tuples of intsD -/
def lexLt : List Int → List Int → Bool
  | [], [] => false
  | [], _ :: _ => true
  | _ :: _, [] => false
  | a :: x, b :: y => if a = b then lexLt x y else decide (a < b)
def intsD : List D → Option (List Int)
  | [] => some []
  | .int i :: r => (intsD r).map (i :: ·)
  | _ => none
def boolsD : List D → Option (List Bool)
  | [] => some []
  | .bl i :: r => (boolsD r).map (i :: ·)
  | _ => none
def strsD : List D → Option (List (List Nat))
  | [] => some []
  | .str i :: r => (strsD r).map (i :: ·)
  | _ => none
/-- t stands somewhere in s -/
def subIn (t : List Nat) : List Nat → Bool
  | [] => t.isEmpty
  | c :: s => t.isPrefixOf (c :: s) || subIn t s
def flat : D → Bool
  | .non => true | .bl _ => true | .int _ => true | .str _ => true | _ => false
def wideOk (i : Int) : Bool := decide (i.natAbs.log2 < 1100000)
def eqO (a b : D) : Option Bool := match a, b with
  | .scr ns, .lst [] => some ns.isEmpty
  | a, b => if pl 20 a = true ∧ pl 20 b = true then some (deq a b) else none
def inO (a b : D) : Option Bool := match b with
  | .lst b => if flat a = true ∧ b.all flat = true then some (b.any fun y => deq y a) else none
  | .tup b => if flat a = true ∧ b.all flat = true then some (b.any fun y => deq y a) else none
  | .str b => match a with
    | .str [c] => some (decide (c ∈ b))
    | _ => none
  | _ => none
def isNon : D → Bool
  | .non => true
  | _ => false
def isO (a b : D) : Option Bool := match b with
  | .non => some (isNon a)
  | .bl b => match a with
    | .bl a => some (decide (a = b))
    | .non => some false
    | .int _ => some false
    | .str _ => some false
    | .lst _ => some false
    | .tup _ => some false
    | _ => none
  | _ => none
def op2 : O2 → D → D → Option D
  | .add, .int a, .int b => some (.int (a + b))
  | .add, .str a, .str b => if a.length + b.length ≤ lim then some (.str (a ++ b)) else none
  | .add, .lst a, .lst b => if a.length + b.length ≤ lim then some (.lst (a ++ b)) else none
  | .add, .tup a, .tup b => if a.length + b.length ≤ lim then some (.tup (a ++ b)) else none
  | .sub, .int a, .int b => some (.int (a - b))
  | .mul, .int a, .int b => if a.natAbs < 18446744073709551616 ∨ b.natAbs < 18446744073709551616 then some (.int (a * b)) else none
  | .mul, .str [c], .int b => if b ≤ 1000000 ∧ b.natAbs < 4611686018427387904 then some (.str (List.replicate b.toNat c)) else none
  | .mul, .lst a, .int b => if a.length * b.toNat ≤ lim ∧ b.natAbs < 4611686018427387904 then some (.lst (List.replicate b.toNat a).flatten) else none
  | .fdv, .int a, .int b => if 0 < b ∧ b.natAbs < 18446744073709551616 then some (.int (a / b)) else none
  | .mod, .int a, .int b => if 0 < b then some (.int (a % b)) else none
  | .pow, .int a, .int b => if 0 ≤ b ∧ b ≤ 1000000 ∧ a.natAbs < 18446744073709551616 then some (.int (a ^ b.toNat)) else none
  | .eq, a, b => (eqO a b).map D.bl
  | .ne, a, b => (eqO a b).map fun t => .bl (!t)
  | .lt, .int a, .int b => some (.bl (decide (a < b)))
  | .le, .int a, .int b => some (.bl (decide (a ≤ b)))
  | .gt, .int a, .int b => some (.bl (decide (b < a)))
  | .ge, .int a, .int b => some (.bl (decide (b ≤ a)))
  | .lt, .tup a, .tup b => match intsD a, intsD b with
    | some x, some y => some (.bl (lexLt x y))
    | _, _ => none
  | .gt, .tup a, .tup b => match intsD a, intsD b with
    | some x, some y => some (.bl (lexLt y x))
    | _, _ => none
  | .isin, a, b => (inO a b).map D.bl
  | .nin, a, b => (inO a b).map fun t => .bl (!t)
  | .iss, a, b => (isO a b).map D.bl
  | .isn, a, b => (isO a b).map fun t => .bl (!t)
  | _, _, _ => none

def ix (n : Nat) (i : Int) : Option Nat := if 0 ≤ i then (if i < n then some i.toNat else none) else (if -(n : Int) ≤ i then some (i + n).toNat else none)
def at_ {α : Type} (xs : List α) (i : Int) : Option α := (ix xs.length i).bind fun j => xs[j]?
def idx : D → D → Option D
  | .lst xs, .int i => at_ xs i
  | .tup xs, .int i => at_ xs i
  | .str xs, .int i => (at_ xs i).map fun c => .str [c]
  | .scr ns, .int i => (at_ ns i).map D.int
  | _, _ => none
/-- a slice's end -/
def sx (n d : Nat) : Option Int → Nat
  | none => d
  | some i => if i < 0 then (i + (n : Int)).toNat else min i.toNat n
def cut {α : Type} (xs : List α) (lo hi : Option Int) : List α := (xs.drop (sx xs.length 0 lo)).take (sx xs.length xs.length hi - sx xs.length 0 lo)
def slc : D → Option Int → Option Int → Option D
  | .lst xs, lo, hi => some (.lst (cut xs lo hi))
  | .tup xs, lo, hi => some (.tup (cut xs lo hi))
  | .str xs, lo, hi => some (.str (cut xs lo hi))
  | _, _, _ => none

/-- built-in functions of one argument -/
inductive B1 where
  | len | all | sum | list | tuple | str | int | sorted | min
deriving DecidableEq
/-- sorted ints, pairs -/
def insI (a : Int) : List Int → List Int
  | [] => [a]
  | b :: r => if a ≤ b then a :: b :: r else b :: insI a r
def sortI (l : List Int) : List Int := l.foldr insI []
def pairsD : List D → Option (List (Int × Int))
  | [] => some []
  | .tup [.int a, .int b] :: r => (pairsD r).map ((a, b) :: ·)
  | _ => none
def ltP2 (p q : Int × Int) : Bool := if p.1 = q.1 then decide (p.2 < q.2) else decide (p.1 < q.1)
def insP (a : Int × Int) : List (Int × Int) → List (Int × Int)
  | [] => [a]
  | b :: r => if ltP2 b a then b :: insP a r else a :: b :: r
def sortP (l : List (Int × Int)) : List (Int × Int) := l.foldr insP []
def pairD (p : Int × Int) : D := .tup [.int p.1, .int p.2]
def sortD (xs : List D) : Option D := match intsD xs with
  | some ns => some (.lst ((sortI ns).map D.int))
  | none => match pairsD xs with
    | some ps => some (.lst ((sortP ps).map pairD))
    | none => none
/-- the first of the least -/
def minP (p : Int × Int) (ps : List (Int × Int)) : Int × Int := ps.foldl (fun a y => if ltP2 y a then y else a) p
def minD (xs : List D) : Option D := match pairsD xs with
  | some (p :: ps) => some (pairD (minP p ps))
  | _ => none
def digits (n : Nat) : List Nat := (Nat.toDigits 10 n).map Char.toNat
def strI (i : Int) : List Nat := (toString i).toList.map Char.toNat
def b1 : B1 → D → Option D
  | .len, .lst xs => some (.int xs.length)
  | .len, .tup xs => some (.int xs.length)
  | .len, .scr xs => some (.int xs.length)
  | .len, .str xs => some (.int xs.length)
  | .all, .lst xs => (boolsD xs).map fun bs => .bl (bs.all id)
  | .sum, .lst xs => (intsD xs).map fun bs => .int bs.sum
  | .list, .lst xs => some (.lst xs)
  | .list, .tup xs => some (.lst xs)
  | .tuple, .lst xs => some (.tup xs)
  | .tuple, .tup xs => some (.tup xs)
  | .int, .bl b => some (.int (if b then 1 else 0))
  | .sorted, .lst xs => sortD xs
  | .min, .lst xs => minD xs
  | .str, .int i => if i.natAbs < 1000000 then some (.str (strI i)) else none
  | _, _ => none
def revD : D → Option D
  | .lst xs => some (.lst xs.reverse)
  | .tup xs => some (.tup xs.reverse)
  | _ => none
/-- built-in functions of two arguments -/
inductive B2 where
  | max | min
deriving DecidableEq
def b2 : B2 → D → D → Option D
  | .max, .int a, .int b => some (.int (if b > a then b else a))
  | .min, .int a, .int b => some (.int (if b < a then b else a))
  | _, _, _ => none
/-- a text's, a list's methods of one argument -/
inductive M1 where
  | count | endswith | join
deriving DecidableEq
def cnt (c : Nat) (s : List Nat) : Nat := s.countP (· == c)
def joinL (sep : List Nat) : List (List Nat) → List Nat
  | [] => []
  | [x] => x
  | x :: y :: r => x ++ (sep ++ joinL sep (y :: r))
def m1 : M1 → D → D → Option D
  | .count, .str s, .str [c] => some (.int (cnt c s))
  | .endswith, .str s, .str [c] => some (.bl (s.getLast? == some c))
  | .join, .str s, .lst xs => match strsD xs with
    | some ys => if (ys.map List.length).sum + ys.length * s.length ≤ lim then some (.str (joinL s ys)) else none
    | none => none
  | _, _, _ => none
/-- methods of lists and tuples -/
inductive LM where
  | count | index | tindex
deriving DecidableEq
def firstAt (p : D → Bool) : List D → Nat → Option Nat
  | [], _ => none
  | x :: r, n => if p x then some n else firstAt p r (n + 1)
def lm : LM → D → D → Option D
  | .count, .lst xs, .int k => (intsD xs).map fun ns => .int (ns.count k : Nat)
  | .index, .lst xs, y => if flat y = true ∧ xs.all flat = true then (firstAt (fun z => deq z y) xs 0).map fun j => .int (j : Nat) else none
  | .tindex, .tup xs, .str y => match strsD xs with
    | some ys => (firstAt (fun z => deq z (.str y)) (ys.map D.str) 0).map fun j => .int (j : Nat)
    | none => none
  | _, _, _ => none
/-- the receiver's kind -/
def lmOk : LM → D → Bool
  | .count, .lst _ => true
  | .index, .lst _ => true
  | .tindex, .tup xs => (strsD xs).isSome
  | _, _ => false
inductive Ty where
  | int | bool | str | list | tuple
deriving DecidableEq
/-- isinstance -/
def isA : D → Ty → Option Bool
  | .non, _ => some false
  | .bl _, .int => some true
  | .bl _, .bool => some true
  | .bl _, _ => some false
  | .int _, .int => some true
  | .int _, _ => some false
  | .str _, .str => some true
  | .str _, _ => some false
  | .lst _, .list => some true
  | .lst _, _ => some false
  | .tup _, .tuple => some true
  | .tup _, _ => some false
  | .obj _, _ => none
  | .scr _, _ => none

/-! ### the language -/
inductive Tg where
  | name (i : Nat)
  | pair (a b : Tg)
  | trip (a b c : Tg)
  | quad (a b c d : Tg)
deriving DecidableEq
mutual
inductive Ex where
  | var (i : Nat)
  | own (i : Nat)
  | cst (d : D)
  | glo (x : Nat)
  | op (o : O2) (a b : Ex)
  | chain (o o' : O2) (a b c : Ex)
  | neg (a : Ex)
  | nt (a : Ex)
  | and (a b : Ex)
  | or (a b : Ex)
  | ite (c a b : Ex)
  | lst (es : Exs)
  | tup (es : Exs)
  | idx (a i : Ex)
  | slc (a : Ex) (lo hi : Option Ex)
  | rev (a : Ex)
  | f1 (f : B1) (a : Ex)
  | f2 (f : B2) (a b : Ex)
  | meth (f : M1) (a b : Ex)
  | lmeth (f : LM) (a b : Ex)
  | nrng (a b c : Ex)
  | lzip (a b : Ex)
  | isi (a : Ex) (t : Ty)
  | isE (i C : Nat)
  | call (f : Nat) (es : Exs)
  | callO (f : Nat) (es : Exs)
  | fld (a : Ex) (f : Nat)
  | mth (a : Ex) (g : Nat) (es : Exs)
  | mk (g : Nat) (es : Exs)
  | lenSet (a : Ex)
  | eqN (a : Ex)
  | dnew (ks : List (List Nat)) (es : Exs)
  | dget (a i : Ex)
  | dcpy (a : Ex)
  | dprs (a : Ex)
  | isLT (a : Ex)
  | comp (elt : Ex) (tg : Tg) (it : It) (vs : List Nat)
  | compIf (elt : Ex) (tg : Tg) (it : It) (c : Ex) (vs : List Nat)
inductive Exs where
  | nil
  | cons (e : Ex) (es : Exs)
inductive It where
  | seq (e : Ex)
  | enm (e : Ex)
  | zip (a b : Ex)
  | rng (e : Ex)
  | rng2 (a b : Ex)
end
/-- the slots forgotten -/
def wipe (ρ : Env) : List Nat → Env
  | [] => ρ
  | v :: vs => (wipe ρ vs).set v .emp
/-- lists that are still made, out of sight -/
def noOwn (ρ : Env) : Env := ρ.map fun
  | .own _ => .emp
  | x => x
/-- no caught one -/
def noErr (ρ : Env) : Env := ρ.map fun
  | .err => .emp
  | x => x
/-- targets -/
def bindT : Tg → D → Env → Option Env
  | .name i, d, ρ => some (ρ.set i (.val d))
  | .pair a b, .tup [x, y], ρ => (bindT a x ρ).bind fun ρ => bindT b y ρ
  | .trip a b c, .tup [x, y, z], ρ => (bindT a x ρ).bind fun ρ => (bindT b y ρ).bind fun ρ => bindT c z ρ
  | .quad a b c d, .tup [x, y, z, u], ρ => (bindT a x ρ).bind fun ρ => (bindT b y ρ).bind fun ρ => (bindT c z ρ).bind fun ρ => bindT d u ρ
  | _, _, _ => none
/-- list(zip(x, y)) -/
def seqLT : D → Option (List D)
  | .lst xs => some xs
  | .tup xs => some xs
  | _ => none
/-- pairs, none of two texts -/
def strB : D → Bool
  | .str _ => true
  | _ => false
def untx : D → Bool
  | .tup xs => !xs.all strB
  | _ => true
def okZ (l : List D) : Option (List D) := if l.all untx = true then some l else none
def lzipD (x y : D) : Option D := match seqLT x, seqLT y with
  | some xs, some ys => (okZ (xs.zipWith (fun a b => .tup [a, b]) ys)).map D.lst
  | _, _ => none
/-- what a walk gives -/
def enumD : Nat → List D → List D
  | _, [] => []
  | n, d :: ds => .tup [.int n, d] :: enumD (n + 1) ds
def seqD : D → Option (List D)
  | .lst xs => some xs
  | .tup xs => some xs
  | .str s => some (s.map fun c => .str [c])
  | _ => none
def zipD : D → D → Option (List D)
  | .lst xs, .lst ys => okZ (xs.zipWith (fun x y => .tup [x, y]) ys)
  | .tup xs, .tup ys => okZ (xs.zipWith (fun x y => .tup [x, y]) ys)
  | _, _ => none
def rngD (lo hi : Int) : Option (List D) :=
  if lo.natAbs < 4611686018427387904 ∧ hi.natAbs < 4611686018427387904 then some ((List.range (hi - lo).toNat).map fun i => .int (lo + (i : Nat))) else none
/-- a comprehension's turns; an item that is left out: none -/
def turns (f : D → Sto → R (Option D)) : List D → Sto → R (List D)
  | [], S => .ok [] S
  | d :: ds, S => (f d S).bind fun o S1 => (turns f ds S1).bind fun r S2 => .ok (o.toList ++ r) S2
def calmly {α : Type} (r : R α) : R α := match r with
  | .ok a S => .ok a S
  | _ => .no
@[simp] theorem calmly_ok {α : Type} (a : α) (S : Sto) : calmly (R.ok a S) = .ok a S := Eq.trans rfl rfl
def asB (d : D) (S : Sto) : R Bool := match d with
  | .bl b => .ok b S
  | _ => .no
@[simp] theorem asB_bl (b : Bool) (S : Sto) : asB (.bl b) S = .ok b S := Eq.trans rfl rfl
def asI (d : D) (S : Sto) : R (Option Int) := match d with
  | .int b => .ok (some b) S
  | _ => .no
@[simp] theorem asI_int (b : Int) (S : Sto) : asI (.int b) S = .ok (some b) S := Eq.trans rfl rfl
def asS (d : D) (S : Sto) : R D := match d with
  | .str b => .ok (.str b) S
  | _ => .no
@[simp] theorem asS_str (b : List Nat) (S : Sto) : asS (.str b) S = .ok (.str b) S := Eq.trans rfl rfl
def asL (o : Option (List D)) (S : Sto) : R (List D) := match o with
  | some d => .ok d S
  | none => .no
@[simp] theorem asL_some (b : List D) (S : Sto) : asL (some b) S = .ok b S := Eq.trans rfl rfl
/-- a field of a thing of the store -/
def fldOf (fd : Nat → Nat → Bool) (f : Nat) (x : D) (S : Sto) : R D := match x with
  | .obj n => match S[n]? with
    | some (.ins C fs) => if fd C f = true then lift (fs.lookup f) S else .no
    | _ => .no
  | _ => .no
theorem fldOf_ins {fd : Nat → Nat → Bool} {f n C : Nat} {fs : List (Nat × D)} {S : Sto} {d : D} (h : S[n]? = some (.ins C fs)) (h1 : fd C f = true) (h2 : fs.lookup f = some d) : fldOf fd f (.obj n) S = .ok d S := by
  simp [fldOf, h, h1, h2]
/-- a thing of class C that has no field m -/
def isOf (C m : Nat) (x : D) (S : Sto) : R D := match x with
  | .obj n => match S[n]? with
    | some (.ins C' fs) => if C' = C ∧ fs.lookup m = none then .ok x S else .no
    | _ => .no
  | _ => .no
theorem isOf_ins {C m n : Nat} {fs : List (Nat × D)} {S : Sto} (h : S[n]? = some (.ins C fs)) (h2 : fs.lookup m = none) : isOf C m (.obj n) S = .ok (.obj n) S := by
  simp [isOf, h, h2]
/-- a new thing, behind its __init__ -/
def madeAt (n : Nat) (x : D) (S : Sto) : R D := match x with
  | .non => .ok (.obj n) S
  | _ => .no
@[simp] theorem madeAt_non (n : Nat) (S : Sto) : madeAt n .non S = .ok (.obj n) S := Eq.trans rfl rfl
/-- a field is set -/
def putN (f : Nat) (y : D) : List (Nat × D) → List (Nat × D)
  | [] => [(f, y)]
  | (g, z) :: r => if g = f then (g, y) :: r else (g, z) :: putN f y r
def setAt (fd : Nat → Nat → Bool) (f : Nat) (x v : D) (S : Sto) : Option Sto := match x with
  | .obj n => match S[n]? with
    | some (.ins C fs) => if fd C f = true ∧ fs.length < 100 then some (S.set n (.ins C (putN f v fs))) else none
    | _ => none
  | _ => none
theorem setAt_ins {fd : Nat → Nat → Bool} {f n C : Nat} {fs : List (Nat × D)} {S : Sto} {v : D} (h : S[n]? = some (.ins C fs)) (h1 : fd C f = true) (h2 : fs.length < 100) : setAt fd f (.obj n) v S = some (S.set n (.ins C (putN f v fs))) := by
  simp [setAt, h, h1, h2]
/-- len(set(..)) of texts: how many unlike ones -/
def uqN {α : Type} [BEq α] (pre : List α) : List α → Nat
  | [] => 0
  | x :: r => (if pre.any (· == x) then 0 else 1) + uqN (pre ++ [x]) r
def lenSetD (x : D) : Option D := match seqLT x with
  | some xs => match strsD xs with
    | some ys => if ys.length ≤ 1000 then some (.int (uqN [] ys : Nat)) else none
    | none => none
  | none => none
/-- isinstance(x, (list, tuple)) -/
def isLTD : D → Option Bool
  | .non => some false
  | .bl _ => some false
  | .int _ => some false
  | .str _ => some false
  | .lst _ => some true
  | .tup _ => some true
  | .obj _ => none
  | .scr _ => none
/-- dicts -/
def dicAt (x : D) (S : Sto) : Option (List (List Nat × D)) := match x with
  | .obj n => match S[n]? with
    | some (.dic kvs) => some kvs
    | _ => none
  | _ => none
def dgetAt (x y : D) (S : Sto) : R D := match y with
  | .str s => match dicAt x S with
    | some kvs => lift (kvs.lookup s) S
    | none => .no
  | _ => .no
def putD (s : List Nat) (v : D) (kvs : List (List Nat × D)) : List (List Nat × D) :=
  if kvs.any (fun q => decide (q.1 = s)) then kvs.map (fun q => if q.1 = s then (q.1, v) else q) else kvs ++ [(s, v)]
def dputAt (x y v : D) (S : Sto) : Option Sto := match x, y with
  | .obj n, .str s => match S[n]? with
    | some (.dic kvs) => if kvs.length < 1000 then some (S.set n (.dic (putD s v kvs))) else none
    | _ => none
  | _, _ => none
/-- pairs of a text and a thing -/
def kvsD : List D → Option (List (List Nat × D))
  | [] => some []
  | .tup [.str s, v] :: r => (kvsD r).map ((s, v) :: ·)
  | _ => none
def small (ds : List D) (S : Sto) : R (List D) := if ds.length ≤ lim then .ok ds S else .no
/-- nothing is in the store -/
def noSto {α : Type} (r : R α) : R α := match r with
  | .ok a [] => .ok a []
  | .xc ⟨c, none⟩ [] => .xc ⟨c, none⟩ []
  | _ => .no
@[simp] theorem noSto_ok {α : Type} (a : α) : noSto (R.ok a []) = .ok a [] := Eq.trans rfl rfl
mutual
def ev (F : Fns) : Ex → Env → Sto → R D
  | .var i, ρ, S => match ρ[i]? with
    | some (.val d) => .ok d S
    | _ => .no
  | .own i, ρ, S => match ρ[i]? with
    | some (.own ds) => .ok (.lst ds) S
    | _ => .no
  | .cst d, _, S => .ok d S
  | .glo x, _, S => lift (F.gl x) S
  | .op o a b, ρ, S => (ev F a ρ S).bind fun x S => (ev F b ρ S).bind fun y S => lift (op2 o x y) S
  | .chain o o' a b c, ρ, S => (ev F a ρ S).bind fun x S => (ev F b ρ S).bind fun y S => (lift (op2 o x y) S).bind fun z S => (asB z S).bind fun t S =>
      if t = true then (ev F c ρ S).bind fun w S => lift (op2 o' y w) S else .ok (.bl false) S
  | .neg a, ρ, S => (ev F a ρ S).bind fun x S => (asI x S).bind fun i S => match i with
    | some i => .ok (.int (-i)) S
    | none => .no
  | .nt a, ρ, S => (ev F a ρ S).bind fun x S => (asB x S).bind fun b S => .ok (.bl (!b)) S
  | .and a b, ρ, S => (ev F a ρ S).bind fun x S => (asB x S).bind fun t S => if t = true then ev F b ρ S else .ok (.bl false) S
  | .or a b, ρ, S => (ev F a ρ S).bind fun x S => (asB x S).bind fun t S => if t = true then .ok (.bl true) S else ev F b ρ S
  | .ite c a b, ρ, S => (ev F c ρ S).bind fun x S => (asB x S).bind fun t S => if t = true then ev F a ρ S else ev F b ρ S
  | .lst es, ρ, S => (evs F es ρ S).bind fun ds S => (small ds S).bind fun ds S => .ok (.lst ds) S
  | .tup es, ρ, S => (evs F es ρ S).bind fun ds S => (small ds S).bind fun ds S => .ok (.tup ds) S
  | .idx a i, ρ, S => (ev F a ρ S).bind fun x S => (ev F i ρ S).bind fun y S => lift (idx x y) S
  | .slc a none none, ρ, S => (ev F a ρ S).bind fun x S => lift (slc x none none) S
  | .slc a (some l) none, ρ, S => (ev F a ρ S).bind fun x S => (ev F l ρ S).bind fun l S => (asI l S).bind fun l S => lift (slc x l none) S
  | .slc a none (some h), ρ, S => (ev F a ρ S).bind fun x S => (ev F h ρ S).bind fun h S => (asI h S).bind fun h S => lift (slc x none h) S
  | .slc a (some l) (some h), ρ, S => (ev F a ρ S).bind fun x S => (ev F l ρ S).bind fun l S => (asI l S).bind fun l S => (ev F h ρ S).bind fun h S => (asI h S).bind fun h S => lift (slc x l h) S
  | .rev a, ρ, S => (ev F a ρ S).bind fun x S => lift (revD x) S
  | .f1 f a, ρ, S => (ev F a ρ S).bind fun x S => lift (b1 f x) S
  | .f2 f a b, ρ, S => (ev F a ρ S).bind fun x S => (ev F b ρ S).bind fun y S => lift (b2 f x y) S
  | .meth f a b, ρ, S => (ev F a ρ S).bind fun x S => (asS x S).bind fun x S => (ev F b ρ S).bind fun y S => lift (m1 f x y) S
  | .lmeth f a b, ρ, S => (ev F a ρ S).bind fun x S => if lmOk f x = true then (ev F b ρ S).bind fun y S => lift (lm f x y) S else .no
  | .nrng a b c, ρ, S => (ev F a ρ S).bind fun x S => (ev F b ρ S).bind fun y S => (ev F c ρ S).bind fun z S => match x, y, z with
    | .int i, .int j, .int k => .ok (.bl (!decide (j ≤ i ∧ i < k))) S
    | _, _, _ => .no
  | .lzip a b, ρ, S => (ev F a ρ S).bind fun x S => (ev F b ρ S).bind fun y S => lift (lzipD x y) S
  | .isi a t, ρ, S => (ev F a ρ S).bind fun x S => lift ((isA x t).map D.bl) S
  | .isE i C, ρ, S => match ρ[i]?, F.err with
    | some .err, some x => lift ((F.sub x.cls C).map D.bl) S
    | _, _ => .no
  | .call f es, ρ, S => match F.fn f with
    | some g => (evs F es ρ S).bind fun ds S => g ds S
    | none => .no
  | .callO f es, ρ, S => match F.fn f with
    | some g => (evs F es ρ S).bind fun ds S => noSto (g ds S)
    | none => .no
  | .fld a f, ρ, S => (ev F a ρ S).bind fun x S => fldOf F.fd f x S
  | .mth a g es, ρ, S => match F.mt g with
    | some (C, m, h) => (ev F a ρ S).bind fun x S => (isOf C m x S).bind fun x S => (evs F es ρ S).bind fun ds S => h (x :: ds) S
    | none => .no
  | .mk g es, ρ, S => match F.mkr g with
    | some (C, h, dfl) => (evs F es ρ S).bind fun ds S => (h (.obj S.length :: (ds ++ dfl)) (S ++ [.ins C []])).bind fun x S' => madeAt S.length x S'
    | none => .no
  | .lenSet a, ρ, S => (ev F a ρ S).bind fun x S => lift (lenSetD x) S
  | .eqN a, ρ, S => (ev F a ρ S).bind fun x S => match x with
    | .lst xs => .ok (.bl xs.isEmpty) S
    | _ => .no
  | .dnew ks es, ρ, S => (evs F es ρ S).bind fun ds S => if ks.length = ds.length ∧ ks.Nodup ∧ ks.length ≤ 15 then .ok (.obj S.length) (S ++ [.dic (ks.zip ds)]) else .no
  | .dget a i, ρ, S => (ev F a ρ S).bind fun x S => (ev F i ρ S).bind fun y S => dgetAt x y S
  | .dcpy a, ρ, S => (ev F a ρ S).bind fun x S => match dicAt x S with
    | some kvs => .ok (.obj S.length) (S ++ [.dic kvs])
    | none => .no
  | .dprs a, ρ, S => (ev F a ρ S).bind fun x S => match x with
    | .lst xs => (match kvsD xs with
      | some kvs => if (kvs.map (·.1)).Nodup then .ok (.obj S.length) (S ++ [.dic kvs]) else .no
      | none => .no)
    | _ => .no
  | .isLT a, ρ, S => (ev F a ρ S).bind fun x S => lift ((isLTD x).map D.bl) S
  | .comp e tg it vs, ρ, S => (evIt F it ρ S).bind fun ds S => (calmly (turns (fun d S => match bindT tg d (wipe (noOwn ρ) vs) with
      | some ρ1 => (ev F e ρ1 S).bind fun x S => .ok (some x) S
      | none => .no) ds S)).bind fun r S => (small r S).bind fun r S => .ok (.lst r) S
  | .compIf e tg it c vs, ρ, S => (evIt F it ρ S).bind fun ds S => (calmly (turns (fun d S => match bindT tg d (wipe (noOwn ρ) vs) with
      | some ρ1 => (ev F c ρ1 S).bind fun x S => (asB x S).bind fun t S => if t = true then (ev F e ρ1 S).bind fun x S => .ok (some x) S else .ok none S
      | none => .no) ds S)).bind fun r S => (small r S).bind fun r S => .ok (.lst r) S
def evs (F : Fns) : Exs → Env → Sto → R (List D)
  | .nil, _, S => .ok [] S
  | .cons e es, ρ, S => (ev F e ρ S).bind fun x S => (evs F es ρ S).bind fun r S => .ok (x :: r) S
def evIt (F : Fns) : It → Env → Sto → R (List D)
  | .seq e, ρ, S => (ev F e ρ S).bind fun x S => asL (seqD x) S
  | .enm e, ρ, S => (ev F e ρ S).bind fun x S => (asL (seqLT x) S).bind fun xs S => .ok (enumD 0 xs) S
  | .zip a b, ρ, S => (ev F a ρ S).bind fun x S => (ev F b ρ S).bind fun y S => asL (zipD x y) S
  | .rng e, ρ, S => (ev F e ρ S).bind fun x S => match x with
    | .int j => asL (rngD 0 j) S
    | _ => .no
  | .rng2 a b, ρ, S => (ev F a ρ S).bind fun x S => (ev F b ρ S).bind fun y S => match x, y with
    | .int i, .int j => asL (rngD i j) S
    | _, _ => .no
end

mutual
inductive Sm where
  | asg (tg : Tg) (e : Ex)
  | new (i : Nat)
  | app (i : Nat) (e : Ex)
  | frz (i : Nat) (s : Sm)
  | cpy (i : Nat) (e : Ex)
  | thaw (i f : Nat) (es : Exs)
  | put (i : Nat) (j e : Ex)
  | par (i j : Nat) (a b : Ex)
  | retF (e : Ex)
  | ifs (c : Ex) (a b : Sms)
  | each (tg : Tg) (it : It) (b : Sms)
  | whl (c : Ex) (b : Sms)
  | ret (e : Ex)
  | expr (e : Ex)
  | rais (C : Nat)
  | raisA (C : Nat) (e : Ex)
  | setf (a : Ex) (f : Nat) (e : Ex)
  | dput (a i e : Ex)
  | tryE (b : Sms) (C i : Nat) (su : Sms)
  | tryR (b : Sms) (C i : Nat)
  | nev
  | pass
inductive Sms where
  | nil
  | cons (s : Sm) (r : Sms)
end
inductive Ct where
  | nx (ρ : Env) | rt (d : D) | rtF (d : D) | br (ρ : Env) | xr (x : Xc) (ρ : Env)
/-- an expression within a statement -/
def R.then {α : Type} (r : R α) (ρ : Env) (k : α → Sto → R Ct) : R Ct := match r with
  | .ok a S => k a S
  | .xc x S => .ok (.xr x ρ) S
  | .no => .no
@[simp] theorem R.then_ok {α : Type} (a : α) (S : Sto) (ρ : Env) (k : α → Sto → R Ct) : (R.ok a S).then ρ k = k a S := Eq.trans rfl rfl
@[simp] theorem R.then_xc {α : Type} (x : Xc) (S : Sto) (ρ : Env) (k : α → Sto → R Ct) : (R.xc x S).then ρ k = .ok (.xr x ρ) S := Eq.trans rfl rfl
/-- one statement behind another -/
def R.next (r : R Ct) (k : Env → Sto → R Ct) : R Ct := match r with
  | .ok (.nx ρ) S => k ρ S
  | r => r
@[simp] theorem R.next_nx (ρ : Env) (S : Sto) (k : Env → Sto → R Ct) : (R.ok (.nx ρ) S).next k = k ρ S := Eq.trans rfl rfl
@[simp] theorem R.next_rt (d : D) (S : Sto) (k : Env → Sto → R Ct) : (R.ok (.rt d) S).next k = .ok (.rt d) S := Eq.trans rfl rfl
@[simp] theorem R.next_rtF (d : D) (S : Sto) (k : Env → Sto → R Ct) : (R.ok (.rtF d) S).next k = .ok (.rtF d) S := Eq.trans rfl rfl
@[simp] theorem R.next_xr (x : Xc) (ρ : Env) (S : Sto) (k : Env → Sto → R Ct) : (R.ok (.xr x ρ) S).next k = .ok (.xr x ρ) S := Eq.trans rfl rfl
/-- a loop's turn, then the rest -/
def R.turn (r : R Ct) (k : Env → Sto → R Ct) : R Ct := match r with
  | .ok (.nx ρ) S => k ρ S
  | .ok (.br ρ) S => .ok (.nx ρ) S
  | r => r
@[simp] theorem R.turn_nx (ρ : Env) (S : Sto) (k : Env → Sto → R Ct) : (R.ok (.nx ρ) S).turn k = k ρ S := Eq.trans rfl rfl
@[simp] theorem R.turn_rt (d : D) (S : Sto) (k : Env → Sto → R Ct) : (R.ok (.rt d) S).turn k = .ok (.rt d) S := Eq.trans rfl rfl
@[simp] theorem R.turn_rtF (d : D) (S : Sto) (k : Env → Sto → R Ct) : (R.ok (.rtF d) S).turn k = .ok (.rtF d) S := Eq.trans rfl rfl
def bound (o : Option Env) (k : Env → R Ct) : R Ct := match o with
  | some ρ => k ρ
  | none => .no
@[simp] theorem bound_some (ρ : Env) (k : Env → R Ct) : bound (some ρ) k = k ρ := Eq.trans rfl rfl
def loop (f : D → Env → Sto → R Ct) : List D → Env → Sto → R Ct
  | [], ρ, S => .ok (.nx ρ) S
  | d :: ds, ρ, S => (f d ρ S).turn fun ρ S => loop f ds ρ S
def whileF (c : Env → Sto → R Bool) (f : Env → Sto → R Ct) : Nat → Env → Sto → R Ct
  | 0, _, _ => .no
  | n + 1, ρ, S => (c ρ S).then ρ fun t S => if t = true then (f ρ S).turn fun ρ S => whileF c f n ρ S else .ok (.nx ρ) S
def fuel : Nat := 200
/-- an exception of the body -/
def R.caught (r : R Ct) (p : Xc → Option Bool) (k : Xc → Env → Sto → R Ct) : R Ct := match r with
  | .ok (.xr x ρ) S => match x.arg, p x with
    | none, some true => k x ρ S
    | _, some false => .ok (.xr x ρ) S
    | _, _ => .no
  | r => r
@[simp] theorem R.caught_nx (ρ : Env) (S : Sto) (p : Xc → Option Bool) (k : Xc → Env → Sto → R Ct) : (R.ok (.nx ρ) S).caught p k = .ok (.nx ρ) S := Eq.trans rfl rfl
@[simp] theorem R.caught_rt (d : D) (S : Sto) (p : Xc → Option Bool) (k : Xc → Env → Sto → R Ct) : (R.ok (.rt d) S).caught p k = .ok (.rt d) S := Eq.trans rfl rfl
/-- .. told with what it carries -/
def R.caughtR (r : R Ct) (C i : Nat) (p : Xc → Option Bool) : R Ct := match r with
  | .ok (.xr x ρ) S => match x.arg, p x with
    | some d, some true => if x.cls = C ∧ i < ρ.length then .ok (.rt (.tup [.str [114, 101, 102, 117, 115, 101, 100], d])) S else .no
    | _, some false => .ok (.xr x ρ) S
    | _, _ => .no
  | r => r
@[simp] theorem R.caughtR_nx (ρ : Env) (S : Sto) (C i : Nat) (p : Xc → Option Bool) : (R.ok (.nx ρ) S).caughtR C i p = .ok (.nx ρ) S := Eq.trans rfl rfl
@[simp] theorem R.caughtR_rt (d : D) (S : Sto) (C i : Nat) (p : Xc → Option Bool) : (R.ok (.rt d) S).caughtR C i p = .ok (.rt d) S := Eq.trans rfl rfl
/-- behind the suite -/
def R.cooled (r : R Ct) (i : Nat) : R Ct := match r with
  | .ok (.nx ρ) S => .ok (.nx ((noErr ρ).set i .emp)) S
  | .ok (.rt d) S => .ok (.rt d) S
  | _ => .no
@[simp] theorem R.cooled_nx (ρ : Env) (S : Sto) (i : Nat) : (R.ok (.nx ρ) S).cooled i = .ok (.nx ((noErr ρ).set i .emp)) S := Eq.trans rfl rfl
@[simp] theorem R.cooled_rt (d : D) (S : Sto) (i : Nat) : (R.ok (.rt d) S).cooled i = .ok (.rt d) S := Eq.trans rfl rfl
/-- a list of its own in a slot -/
def ownIn (i : Nat) (d : Option D) (ρ : Env) (S : Sto) : R Ct := match d with
  | some (.lst ds) => .ok (.nx (ρ.set i (.own ds))) S
  | _ => .no
@[simp] theorem ownIn_lst (i : Nat) (ds : List D) (ρ : Env) (S : Sto) : ownIn i (some (.lst ds)) ρ S = .ok (.nx (ρ.set i (.own ds))) S := Eq.trans rfl rfl
def putAt (i : Nat) (ds : List D) (v w : D) (ρ : Env) (S : Sto) : R Ct := match w with
  | .int n => if flat v = true then (match ix ds.length n with
    | some q => .ok (.nx (ρ.set i (.own (ds.set q v)))) S
    | none => .no) else .no
  | _ => .no
def retL (x : D) (S : Sto) : R Ct := match x with
  | .lst ds => .ok (.rtF (.lst ds)) S
  | _ => .no
@[simp] theorem retL_lst (ds : List D) (S : Sto) : retL (.lst ds) S = .ok (.rtF (.lst ds)) S := Eq.trans rfl rfl
mutual
def ex (F : Fns) : Sm → Env → Sto → R Ct
  | .asg tg e, ρ, S => (ev F e ρ S).then ρ fun x S => bound (bindT tg x ρ) fun ρ => .ok (.nx ρ) S
  | .new i, ρ, S => .ok (.nx (ρ.set i (.own []))) S
  | .app i e, ρ, S => match ρ[i]? with
    | some (.own ds) => (ev F e ρ S).then ρ fun x S => if ds.length < lim then .ok (.nx (ρ.set i (.own (ds ++ [x])))) S else .no
    | _ => .no
  | .frz i s, ρ, S => match ρ[i]? with
    | some (.own ds) => ex F s (ρ.set i (.val (.lst ds))) S
    | _ => .no
  | .cpy i e, ρ, S => (ev F e ρ S).then ρ fun x S => ownIn i (b1 .list x) ρ S
  | .thaw i f es, ρ, S => match F.fr f with
    | some g => ((evs F es ρ S).bind g).then ρ fun x S => ownIn i (some x) ρ S
    | none => .no
  | .put i j e, ρ, S => (ev F e ρ S).then ρ fun v S => match ρ[i]? with
    | some (.own ds) => (ev F j ρ S).then ρ fun w S => putAt i ds v w ρ S
    | _ => .no
  | .par i j a b, ρ, S => (ev F a ρ S).then ρ fun x S => (ev F b ρ S).then ρ fun y S => .ok (.nx ((ρ.set i (.val x)).set j (.val y))) S
  | .retF e, ρ, S => (ev F e ρ S).then ρ fun x S => retL x S
  | .ifs c a b, ρ, S => ((ev F c ρ S).bind asB).then ρ fun t S => if t = true then exs F a ρ S else exs F b ρ S
  | .each tg it b, ρ, S => (evIt F it ρ S).then ρ fun ds S => loop (fun d ρ S => bound (bindT tg d ρ) fun ρ => exs F b ρ S) ds ρ S
  | .whl c b, ρ, S => whileF (fun ρ S => (ev F c ρ S).bind asB) (fun ρ S => exs F b ρ S) fuel ρ S
  | .ret e, ρ, S => (ev F e ρ S).then ρ fun x S => .ok (.rt x) S
  | .expr e, ρ, S => (ev F e ρ S).then ρ fun _ S => .ok (.nx ρ) S
  | .rais C, ρ, S => if F.exc C = true then .ok (.xr ⟨C, none⟩ ρ) S else .no
  | .tryE b C i su, ρ, S => if F.exc C = true then (exs F b ρ S).caught (fun x => F.sub x.cls C) fun x ρ S => (exs (F.hot x) su ((noErr ρ).set i .err) S).cooled i else .no
  | .raisA C e, ρ, S => if F.low C = true then (ev F e ρ S).then ρ fun x S => .ok (.xr ⟨C, some x⟩ ρ) S else .no
  | .setf a f e, ρ, S => (ev F e ρ S).then ρ fun v S => (ev F a ρ S).then ρ fun x S => match setAt F.fd f x v S with
    | some S' => .ok (.nx ρ) S'
    | none => .no
  | .dput a i e, ρ, S => (ev F e ρ S).then ρ fun v S => (ev F a ρ S).then ρ fun x S => (ev F i ρ S).then ρ fun y S => match dputAt x y v S with
    | some S' => .ok (.nx ρ) S'
    | none => .no
  | .tryR b C i, ρ, S => if F.low C = true then (exs F b ρ S).caughtR C i (fun x => F.sub x.cls C) else .no
  | .nev, _, _ => .no
  | .pass, ρ, S => .ok (.nx ρ) S
def exs (F : Fns) : Sms → Env → Sto → R Ct
  | .nil, ρ, S => .ok (.nx ρ) S
  | .cons s r, ρ, S => (ex F s ρ S).next fun ρ S => exs F r ρ S
end
/-- a def's end -/
def R.ends (r : R Ct) : R D := match r with
  | .ok (.nx _) S => .ok .non S
  | .ok (.rt d) S => .ok d S
  | .ok (.rtF d) S => .ok d S
  | .ok (.xr x _) S => .xc x S
  | _ => .no
@[simp] theorem R.ends_rtF (d : D) (S : Sto) : (R.ok (.rtF d) S).ends = .ok d S := Eq.trans rfl rfl
@[simp] theorem R.ends_xr (x : Xc) (ρ : Env) (S : Sto) : (R.ok (.xr x ρ) S).ends = .xc x S := Eq.trans rfl rfl
/-- .. that tells a list of its own -/
def R.endsF (r : R Ct) : R D := match r with
  | .ok (.rtF d) S => .ok d S
  | .ok (.xr x _) S => .xc x S
  | _ => .no
@[simp] theorem R.endsF_rtF (d : D) (S : Sto) : (R.ok (.rtF d) S).endsF = .ok d S := Eq.trans rfl rfl
@[simp] theorem R.endsF_xr (x : Xc) (ρ : Env) (S : Sto) : (R.ok (.xr x ρ) S).endsF = .xc x S := Eq.trans rfl rfl
@[simp] theorem R.ends_nx (ρ : Env) (S : Sto) : (R.ok (.nx ρ) S).ends = .ok .non S := Eq.trans rfl rfl
@[simp] theorem R.ends_rt (d : D) (S : Sto) : (R.ok (.rt d) S).ends = .ok d S := Eq.trans rfl rfl
/-- a def: so many parameters, so many names, its body -/
def fnOf (F : Fns) (np n : Nat) (b : Sms) : Fn := fun ds S =>
  if ds.length = np then (exs F b (ds.map .val ++ List.replicate (n - np) .emp) S).ends else .no
def fnOfF (F : Fns) (np n : Nat) (b : Sms) : Fn := fun ds S =>
  if ds.length = np then (exs F b (ds.map .val ++ List.replicate (n - np) .emp) S).endsF else .no
/-- tables -/
def tabZ (l : List (Nat × Fn)) (g : List (Nat × D)) (es : List Nat) (fr : List (Nat × Fn)) (fd : List (Nat × Nat)) (mt : List (Nat × Nat × Nat × Fn)) (mk : List (Nat × Nat × Fn × List D)) (low : List Nat) : Fns :=
  ⟨fun i => l.lookup i, fun i => g.lookup i, fun i j => if (es.contains i || low.contains i) && (es.contains j || low.contains j) then some (i == j || j == 1) else none, fun i => es.contains i, none, fun i => fr.lookup i, fun C f => fd.contains (C, f), fun i => mt.lookup i, fun i => mk.lookup i, fun i => low.contains i⟩
def tabY (l : List (Nat × Fn)) (g : List (Nat × D)) (es : List Nat) (fr : List (Nat × Fn)) : Fns := tabZ l g es fr [] [] [] []
def tabX (l : List (Nat × Fn)) (g : List (Nat × D)) (es : List Nat) : Fns := tabY l g es []
def tabOf (l : List (Nat × Fn)) (g : List (Nat × D)) : Fns := tabX l g []
/-- it is of x alone -/
def fnOpen : Fn := fun ds S => match ds with
  | [.str s] => if s.length ≤ lim then .ok (.bl (s.all (· == 120))) S else .no
  | _ => .no
end Mi
/-! Mini: sorting. -/
namespace Mi
/-! ### sorted -/
theorem insI_perm (a : Int) : ∀ l : List Int, (insI a l).Perm (a :: l)
  | [] => List.Perm.refl _
  | b :: r => by
    unfold insI
    split
    · exact List.Perm.refl _
    · exact ((insI_perm a r).cons b).trans (List.Perm.swap ..)
theorem insI_sorted (a : Int) : ∀ {l : List Int}, l.Pairwise (· ≤ ·) → (insI a l).Pairwise (· ≤ ·)
  | [], _ => List.pairwise_singleton _ _
  | b :: r, h => by
    obtain ⟨h1, h2⟩ := List.pairwise_cons.mp h
    unfold insI
    split
    · rename_i q
      exact List.pairwise_cons.mpr ⟨fun c hc => (List.mem_cons.mp hc).elim (fun z => z ▸ q) fun z => Int.le_trans q (h1 c z), h⟩
    · rename_i q
      refine List.pairwise_cons.mpr ⟨fun c hc => ?_, insI_sorted a h2⟩
      rcases List.mem_cons.mp ((insI_perm a r).mem_iff.mp hc) with z | z
      · rw [z]; omega
      · exact h1 c z
theorem sortI_perm : ∀ l : List Int, (sortI l).Perm l
  | [] => List.Perm.refl _
  | a :: l => (insI_perm a (sortI l)).trans ((sortI_perm l).cons a)
theorem sortI_sorted : ∀ l : List Int, (sortI l).Pairwise (· ≤ ·)
  | [] => List.Pairwise.nil
  | a :: l => insI_sorted a (sortI_sorted l)
theorem ltP2_iff {p q : Int × Int} : ltP2 p q = true ↔ p.1 < q.1 ∨ (p.1 = q.1 ∧ p.2 < q.2) := by
  unfold ltP2
  split
  · rename_i h
    simp [h]
  · rename_i h
    simp [h]
theorem ltP2_no {p q : Int × Int} : ltP2 p q = false ↔ ¬ (p.1 < q.1 ∨ (p.1 = q.1 ∧ p.2 < q.2)) := by
  rw [← ltP2_iff]
  simp
theorem insP_perm (a : Int × Int) : ∀ l : List (Int × Int), (insP a l).Perm (a :: l)
  | [] => List.Perm.refl _
  | b :: r => by
    unfold insP
    split
    · exact ((insP_perm a r).cons b).trans (List.Perm.swap ..)
    · exact List.Perm.refl _
def leP (p q : Int × Int) : Prop := ltP2 q p = false
theorem insP_sorted (a : Int × Int) : ∀ {l : List (Int × Int)}, l.Pairwise leP → (insP a l).Pairwise leP
  | [], _ => List.pairwise_singleton _ _
  | b :: r, h => by
    obtain ⟨h1, h2⟩ := List.pairwise_cons.mp h
    unfold insP
    split
    · rename_i q
      refine List.pairwise_cons.mpr ⟨fun c hc => ?_, insP_sorted a h2⟩
      rcases List.mem_cons.mp ((insP_perm a r).mem_iff.mp hc) with z | z
      · rw [z]
        have q := ltP2_iff.mp q
        exact ltP2_no.mpr (by omega)
      · exact h1 c z
    · rename_i q
      have q' : ltP2 b a = false := by simpa using q
      refine List.pairwise_cons.mpr ⟨fun c hc => ?_, h⟩
      rcases List.mem_cons.mp hc with z | z
      · rw [z]; exact q'
      · have := ltP2_no.mp q'
        have := ltP2_no.mp (h1 c z)
        exact ltP2_no.mpr (by omega)
theorem sortP_perm : ∀ l : List (Int × Int), (sortP l).Perm l
  | [] => List.Perm.refl _
  | a :: l => (insP_perm a (sortP l)).trans ((sortP_perm l).cons a)
theorem sortP_sorted : ∀ l : List (Int × Int), (sortP l).Pairwise leP
  | [] => List.Pairwise.nil
  | a :: l => insP_sorted a (sortP_sorted l)
theorem leP_anti {p q : Int × Int} (h1 : leP p q) (h2 : leP q p) : p = q := by
  have := ltP2_no.mp h1
  have := ltP2_no.mp h2
  exact Prod.ext (by omega) (by omega)
theorem uniq_sorted {α : Type} {R : α → α → Prop} (anti : ∀ {x y}, R x y → R y x → x = y) : ∀ {l m : List α}, l.Perm m → l.Pairwise R → m.Pairwise R → l = m
  | [], m, h, _, _ => by rw [List.nil_perm.mp h]
  | a :: l, [], h, _, _ => absurd h.length_eq (by simp)
  | a :: l, b :: m, h, h1, h2 => by
    obtain ⟨a1, a2⟩ := List.pairwise_cons.mp h1
    obtain ⟨b1, b2⟩ := List.pairwise_cons.mp h2
    have e : a = b := by
      rcases List.mem_cons.mp (h.mem_iff.mp (List.mem_cons_self ..)) with z | z
      · exact z
      · rcases List.mem_cons.mp (h.mem_iff.mpr (List.mem_cons_self ..)) with y | y
        · exact y.symm
        · exact anti (a1 b y) (b1 a z)
    subst e
    rw [uniq_sorted anti (List.Perm.cons_inv h) a2 b2]
end Mi
/-! Mini: for plain proofs. -/
namespace Mi
theorem mul_small {a b : Int} (h : 0 ≤ a ∧ a < 2147483648) : op2 .mul (.int a) (.int b) = some (.int (a * b)) := by
  have : a.natAbs < 18446744073709551616 := by omega
  show (if a.natAbs < 18446744073709551616 ∨ b.natAbs < 18446744073709551616 then some (D.int (a * b)) else none) = _
  rw [if_pos (.inl this)]
theorem mul_small' {a b : Int} (h : 0 ≤ b ∧ b < 2147483648) : op2 .mul (.int a) (.int b) = some (.int (a * b)) := by
  have : b.natAbs < 18446744073709551616 := by omega
  show (if a.natAbs < 18446744073709551616 ∨ b.natAbs < 18446744073709551616 then some (D.int (a * b)) else none) = _
  rw [if_pos (.inr this)]
theorem op_add {a b : Int} : op2 .add (.int a) (.int b) = some (.int (a + b)) := Eq.trans rfl rfl
theorem op_sub {a b : Int} : op2 .sub (.int a) (.int b) = some (.int (a - b)) := Eq.trans rfl rfl
theorem op_mod {a b : Int} (h : 0 < b) : op2 .mod (.int a) (.int b) = some (.int (a % b)) := by simp [op2, h]
theorem op_fdv {a b : Int} (h : 0 < b ∧ b < 2 ^ 64) : op2 .fdv (.int a) (.int b) = some (.int (a / b)) := by
  show (if 0 < b ∧ b.natAbs < 18446744073709551616 then some (D.int (a / b)) else none) = _
  rw [if_pos (by omega)]
theorem op_lt {a b : Int} : op2 .lt (.int a) (.int b) = some (.bl (decide (a < b))) := Eq.trans rfl rfl
theorem op_le {a b : Int} : op2 .le (.int a) (.int b) = some (.bl (decide (a ≤ b))) := Eq.trans rfl rfl
theorem op_gt {a b : Int} : op2 .gt (.int a) (.int b) = some (.bl (decide (b < a))) := Eq.trans rfl rfl
theorem op_ge {a b : Int} : op2 .ge (.int a) (.int b) = some (.bl (decide (b ≤ a))) := Eq.trans rfl rfl
theorem op_eq {a b : D} : op2 .eq a b = (eqO a b).map D.bl := by cases a <;> cases b <;> rfl
theorem op_ne {a b : D} : op2 .ne a b = (eqO a b).map fun t => .bl (!t) := by cases a <;> cases b <;> rfl
theorem op_in {a b : D} : op2 .isin a b = (inO a b).map D.bl := by cases a <;> cases b <;> rfl
theorem op_nin {a b : D} : op2 .nin a b = (inO a b).map fun t => .bl (!t) := by cases a <;> cases b <;> rfl
theorem op_is {a b : D} : op2 .iss a b = (isO a b).map D.bl := by cases a <;> cases b <;> rfl
theorem op_isn {a b : D} : op2 .isn a b = (isO a b).map fun t => .bl (!t) := by cases a <;> cases b <;> rfl
theorem small_ok {ds : List D} {S : Sto} (h : ds.length ≤ 1000000) : small ds S = .ok ds S := by
  unfold small
  rw [if_pos (by unfold lim; exact h)]
theorem turns_all {f : D → Sto → R (Option D)} {S : Sto} {P : D → Prop} : ∀ {ds : List D}, (∀ d ∈ ds, ∃ x, f d S = .ok (some x) S ∧ P x) → ∃ r, turns f ds S = .ok r S ∧ r.length = ds.length ∧ ∀ x ∈ r, P x
  | [], _ => ⟨[], rfl, rfl, fun _ h => nomatch h⟩
  | d :: ds, h => by
    obtain ⟨x, e, p⟩ := h d (List.mem_cons_self ..)
    obtain ⟨r, e2, l, q⟩ := turns_all (ds := ds) fun d h' => h d (List.mem_cons_of_mem _ h')
    refine ⟨x :: r, by rw [turns, e, R.bind_ok, e2]; rfl, by simp [l], fun y hy => ?_⟩
    rcases List.mem_cons.mp hy with rfl | hy
    · exact p
    · exact q y hy
theorem strs_of : ∀ {r : List D}, (∀ x ∈ r, ∃ c, x = .str [c]) → ∃ ys, strsD r = some ys ∧ (ys.map List.length).sum = r.length ∧ ys.length = r.length ∧ (joinL [] ys).length = r.length
  | [], _ => ⟨[], rfl, rfl, rfl, rfl⟩
  | x :: r, h => by
    obtain ⟨c, rfl⟩ := h x (List.mem_cons_self ..)
    obtain ⟨ys, e, h1, h2, h3⟩ := strs_of (r := r) fun x h' => h x (List.mem_cons_of_mem _ h')
    exact ⟨[c] :: ys, by rw [strsD, e]; rfl, by simp [h1]; omega, by simp [h2], by
      cases ys with
      | nil => simp at h2; simp [joinL, ← h2]
      | cons y ys => simp [joinL, h3]⟩
theorem join_of {r : List D} (h : ∀ x ∈ r, ∃ c, x = .str [c]) (hl : r.length ≤ 1000) : ∃ t, m1 .join (.str []) (.lst r) = some (.str t) ∧ t.length ≤ 1000 := by
  obtain ⟨ys, e, h1, h2, h3⟩ := strs_of h
  refine ⟨joinL [] ys, ?_, by omega⟩
  simp only [m1, e]
  rw [if_pos (by unfold lim; simp; omega)]
theorem rng_mem {n : Int} (h : 0 ≤ n ∧ n < 1000) : ∃ ds, rngD 0 n = some ds ∧ ds.length = n.toNat ∧ ∀ d ∈ ds, ∃ i : Int, d = .int i ∧ 0 ≤ i ∧ i < n := by
  refine ⟨_, by unfold rngD; exact if_pos (by omega), by simp, fun d hd => ?_⟩
  obtain ⟨i, hi, rfl⟩ := List.mem_map.mp hd
  have := List.mem_range.mp hi
  exact ⟨0 + (i : Nat), rfl, by omega, by omega⟩
theorem ev_draw {F : Fns} {f : Nat} {g : Fn} (hf : F.fn f = some g) {a b c : Ex} {ρ : Env} {S S1 S2 S3 : Sto} {x y z : D} (ha : ev F a ρ S = .ok x S1) (hb : ev F b ρ S1 = .ok y S2) (hc : ev F c ρ S2 = .ok z S3) : ev F (.call f (.cons a (.cons b (.cons c .nil)))) ρ S = g [x, y, z] S3 := by
  simp only [ev, hf, evs, ha, hb, hc, R.bind_ok]
theorem exs_nx {F : Fns} {s : Sm} {r : Sms} {ρ ρ' : Env} {S S' : Sto} (h : ex F s ρ S = .ok (.nx ρ') S') : exs F (.cons s r) ρ S = exs F r ρ' S' := by rw [exs, h]; rfl
/-- a comprehension's turn -/
def compF (F : Fns) (e : Ex) (tg : Tg) (vs : List Nat) (ρ : Env) (d : D) (S : Sto) : R (Option D) := match bindT tg d (wipe (noOwn ρ) vs) with
  | some ρ1 => (ev F e ρ1 S).bind fun x S => .ok (some x) S
  | none => .no
def compIfF (F : Fns) (e : Ex) (tg : Tg) (c : Ex) (vs : List Nat) (ρ : Env) (d : D) (S : Sto) : R (Option D) := match bindT tg d (wipe (noOwn ρ) vs) with
  | some ρ1 => (ev F c ρ1 S).bind fun x S => (asB x S).bind fun t S => if t = true then (ev F e ρ1 S).bind fun x S => .ok (some x) S else .ok none S
  | none => .no
theorem ev_comp {F : Fns} {e : Ex} {tg : Tg} {it : It} {vs : List Nat} {ρ : Env} {S : Sto} : ev F (.comp e tg it vs) ρ S = (evIt F it ρ S).bind fun ds S => (calmly (turns (compF F e tg vs ρ) ds S)).bind fun r S => (small r S).bind fun r S => .ok (.lst r) S := by
  rw [ev]; rfl
theorem ev_compIf {F : Fns} {e : Ex} {tg : Tg} {it : It} {c : Ex} {vs : List Nat} {ρ : Env} {S : Sto} : ev F (.compIf e tg it c vs) ρ S = (evIt F it ρ S).bind fun ds S => (calmly (turns (compIfF F e tg c vs ρ) ds S)).bind fun r S => (small r S).bind fun r S => .ok (.lst r) S := by
  rw [ev]; rfl
theorem ev_or {F : Fns} {a b : Ex} {ρ : Env} {S : Sto} {t : Bool} (h : ev F a ρ S = .ok (.bl t) S) : ev F (.or a b) ρ S = if t = true then .ok (.bl true) S else ev F b ρ S := by
  rw [ev, h]; rfl
theorem ev_and {F : Fns} {a b : Ex} {ρ : Env} {S : Sto} {t : Bool} (h : ev F a ρ S = .ok (.bl t) S) : ev F (.and a b) ρ S = if t = true then ev F b ρ S else .ok (.bl false) S := by
  rw [ev, h]; rfl
theorem ev_nt {F : Fns} {a : Ex} {ρ : Env} {S : Sto} {t : Bool} (h : ev F a ρ S = .ok (.bl t) S) : ev F (.nt a) ρ S = .ok (.bl (!t)) S := by
  rw [ev, h]; rfl
theorem turns_map {α : Type} {f : D → Sto → R (Option D)} {S : Sto} {g : α → D} {h : α → D} : ∀ {l : List α}, (∀ x ∈ l, f (g x) S = .ok (some (h x)) S) → turns f (l.map g) S = .ok (l.map h) S
  | [], _ => rfl
  | x :: l, hh => by
    rw [List.map_cons, turns, hh x (List.mem_cons_self ..), R.bind_ok, turns_map (l := l) fun y hy => hh y (List.mem_cons_of_mem _ hy)]
    rfl
theorem bools_map : ∀ l : List Bool, boolsD (l.map D.bl) = some l
  | [] => rfl
  | b :: l => by rw [List.map_cons, boolsD, bools_map l]; rfl
/-- an if whose suite returns False -/
theorem ifs_ret {F : Fns} {c : Ex} {ρ : Env} {S : Sto} {b : Bool} {r : Sms} (h : (ev F c ρ S).bind asB = .ok b S) : exs F (.cons (.ifs c (.cons (.ret (.cst (.bl false))) .nil) .nil) r) ρ S = if b = true then .ok (.rt (.bl false)) S else exs F r ρ S := by
  rw [exs, ex, h]
  cases b <;> rfl
theorem ifs_no {F : Fns} {c : Ex} {a b r : Sms} {ρ : Env} {S : Sto} (h : (ev F c ρ S).bind asB = .ok false S) : exs F (.cons (.ifs c a b) r) ρ S = (exs F b ρ S).next fun ρ S => exs F r ρ S := by
  rw [exs, ex, h]; rfl
theorem ifs_yes {F : Fns} {c : Ex} {a b r : Sms} {ρ : Env} {S : Sto} (h : (ev F c ρ S).bind asB = .ok true S) : exs F (.cons (.ifs c a b) r) ρ S = (exs F a ρ S).next fun ρ S => exs F r ρ S := by
  rw [exs, ex, h]; rfl
theorem rng_eq (n : Nat) (h : n < 1000) : rngD 0 (n : Int) = some ((List.range' 0 n).map fun j => .int (0 + (j : Nat))) := by
  have e : ((n : Int) - 0).toNat = n := by omega
  have c : (0 : Int).natAbs < 4611686018427387904 ∧ (n : Int).natAbs < 4611686018427387904 := by omega
  unfold rngD
  rw [if_pos c, List.range_eq_range', e]
theorem rng2_eq (a b : Nat) (j : Int) (hj : j = (b : Int)) (ha : a < 1000) (h : b < 1000) : rngD (a : Int) j = some ((List.range' a (b - a)).map fun j => .int (j : Nat)) := by
  subst hj
  have c : (a : Int).natAbs < 4611686018427387904 ∧ (b : Int).natAbs < 4611686018427387904 := by omega
  have e : ((b : Int) - (a : Int)).toNat = b - a := by omega
  unfold rngD
  rw [if_pos c, e, List.range'_eq_map_range, List.map_map]
  congr 1
theorem ev_rng {F : Fns} {e : Ex} {ρ : Env} {S S1 : Sto} {n : Int} {ds : List D} (h : ev F e ρ S = .ok (.int n) S1) (g : rngD 0 n = some ds) : evIt F (.rng e) ρ S = .ok ds S1 := by
  simp [evIt, h, g]
theorem ev_rng2 {F : Fns} {a b : Ex} {ρ : Env} {S S1 S2 : Sto} {i j : Int} {ds : List D} (h1 : ev F a ρ S = .ok (.int i) S1) (h2 : ev F b ρ S1 = .ok (.int j) S2) (g : rngD i j = some ds) : evIt F (.rng2 a b) ρ S = .ok ds S2 := by
  generalize hr : rngD i j = r at g
  simp [evIt, h1, h2, hr, g]
/-! ### drawing -/
def dwC : Ex := .and (.op .gt (.var 5) (.cst (.int 0))) (.op .gt (.var 4) (.cst (.int 0)))
def dwB : Sms := .cons (.asg (.name 5) (.op .fdv (.var 5) (.cst (.int 1000000)))) (.cons (.asg (.name 4) (.op .sub (.var 4) (.cst (.int 1)))) .nil)
theorem dw_while (F : Fns) (a b c d : Slot) (S : Sto) : ∀ (n : Nat) (t r : Int), 0 ≤ t → t < n →
    ∃ t' r', whileF (fun ρ S => (ev F dwC ρ S).bind asB) (fun ρ S => exs F dwB ρ S) n [a, b, c, d, .val (.int t), .val (.int r)] S = .ok (.nx [a, b, c, d, .val (.int t'), .val (.int r')]) S
  | 0, t, r, h0, h => by omega
  | n + 1, t, r, h0, h => by
    unfold whileF
    by_cases hr : 0 < r
    · by_cases ht : 0 < t
      · obtain ⟨t', r', e⟩ := dw_while F a b c d S n (t - 1) (r / 1000000) (by omega) (by omega)
        refine ⟨t', r', ?_⟩
        rw [← e]
        simp [dwC, dwB, ev, op_gt, op_sub, op_fdv, hr, ht, exs, ex, bindT]
      · exact ⟨t, r, by simp [dwC, ev, op_gt, hr, ht]⟩
    · exact ⟨t, r, by simp [dwC, ev, op_gt, hr]⟩
def dwT : Sms := .cons (.asg (.name 3) (.op .mod (.op .add (.op .mul (.op .mod (.var 3) (.cst (.int 2147483563))) (.cst (.int 69069))) (.op .mul (.cst (.int 104723)) (.op .add (.var 1) (.cst (.int 1))))) (.cst (.int 2147483563))))
  (.cons (.asg (.name 3) (.op .mod (.op .add (.op .mul (.var 3) (.var 3)) (.op .fdv (.var 3) (.cst (.int 3)))) (.cst (.int 2147483399))))
  (.cons (.ret (.op .mod (.op .fdv (.op .mod (.op .add (.op .mul (.var 3) (.var 3)) (.op .fdv (.var 3) (.cst (.int 7)))) (.cst (.int 2147483647))) (.cst (.int 11))) (.var 2)))
  .nil))
theorem dw_tail (F : Fns) (a : Slot) (k many cell : Int) (x y : Slot) (S : Sto) (hm : 0 < many) :
    ∃ r, (exs F dwT [a, .val (.int k), .val (.int many), .val (.int cell), x, y] S).ends = .ok (.int r) S ∧ 0 ≤ r ∧ r < many := by
  have h1 : 0 ≤ (cell % 2147483563 * 69069 + 104723 * (k + 1)) % 2147483563 ∧ (cell % 2147483563 * 69069 + 104723 * (k + 1)) % 2147483563 < 2147483563 := by omega
  have e1 : op2 .mul (.int (cell % 2147483563)) (.int 69069) = some (.int (cell % 2147483563 * 69069)) := mul_small' (by omega)
  have e2 : op2 .mul (.int 104723) (.int (k + 1)) = some (.int (104723 * (k + 1))) := mul_small (by omega)
  generalize hc : (cell % 2147483563 * 69069 + 104723 * (k + 1)) % 2147483563 = c1 at h1
  have e3 : op2 .mul (.int c1) (.int c1) = some (.int (c1 * c1)) := mul_small (by omega)
  have h2 : 0 ≤ (c1 * c1 + c1 / 3) % 2147483399 ∧ (c1 * c1 + c1 / 3) % 2147483399 < 2147483399 := ⟨Int.emod_nonneg _ (by decide), Int.emod_lt_of_pos _ (by decide)⟩
  generalize hd : (c1 * c1 + c1 / 3) % 2147483399 = c2 at h2
  have e4 : op2 .mul (.int c2) (.int c2) = some (.int (c2 * c2)) := mul_small (by omega)
  refine ⟨(c2 * c2 + c2 / 7) % 2147483647 / 11 % many, ?_, Int.emod_nonneg _ (by omega), Int.emod_lt_of_pos _ hm⟩
  simp [dwT, exs, ex, ev, bindT, e1, e2, op_add, op_mod, op_fdv, hc, e3, hd, e4, hm]
def dwI : Sms := .cons (.asg (.name 5) (.op .fdv (.var 3) (.op .pow (.cst (.int 10)) (.cst (.int 18))))) (.cons (.whl dwC dwB) (.cons (.ifs (.op .gt (.var 5) (.cst (.int 0))) (.cons (.ret (.op .mod (.op .mod (.var 5) (.cst (.int 1000000))) (.var 2))) .nil) .nil) .nil))
def dwJ : Sms := .cons (.asg (.name 3) (.idx (.var 0) (.op .mod (.var 1) (.f1 .len (.var 0))))) (.cons (.asg (.name 4) (.op .fdv (.var 1) (.f1 .len (.var 0)))) (.cons (.ifs (.and (.op .ge (.var 3) (.op .pow (.cst (.int 10)) (.cst (.int 18)))) (.op .lt (.var 4) (.cst (.int 60)))) dwI .nil)
  (.cons (.asg (.name 3) (.op .add (.var 3) (.op .mul (.cst (.int 6553)) (.op .fdv (.var 1) (.f1 .len (.var 0)))))) .nil)))
def dwA : Sms := .cons (.asg (.name 3) (.op .mul (.cst (.int 7)) (.var 1))) (.cons (.ifs (.op .ne (.var 0) (.lst .nil)) dwJ .nil) dwT)
def fnDraw : Fn := fnOf (tabOf [] []) 3 6 dwA
theorem draw_ok (ns : List Int) (k many : Int) (S : Sto) (hn : ns.length ≤ 63) (hk : 0 ≤ k) (hm : 0 < many) :
    ∃ r, fnDraw [.scr ns, .int k, .int many] S = .ok (.int r) S ∧ 0 ≤ r ∧ r < many := by
  have e0 : op2 .mul (.int 7) (.int k) = some (.int (7 * k)) := mul_small (by omega)
  by_cases hz : ns = []
  · subst hz
    obtain ⟨r, h, h2⟩ := dw_tail (tabOf [] []) (.val (.scr [])) k many (7 * k) .emp .emp S hm
    refine ⟨r, ?_, h2⟩
    rw [← h]
    simp [fnDraw, fnOf, dwA, exs, ex, ev, evs, bindT, e0, op_ne, eqO, small_ok]
  · have hl : 0 < ns.length := List.length_pos_iff.mpr hz
    have hm1 := Int.emod_nonneg k (show (ns.length : Int) ≠ 0 by omega)
    have hm2 := Int.emod_lt_of_pos k (show 0 < (ns.length : Int) by omega)
    have ei : ∃ c, idx (.scr ns) (.int (k % (ns.length : Int))) = some (.int c) := by
      have hx : (k % (ns.length : Int)).toNat < ns.length := by omega
      refine ⟨ns[(k % (ns.length : Int)).toNat], ?_⟩
      simp only [idx, at_, ix, if_pos hm1, if_pos hm2, Option.bind_some, List.getElem?_eq_getElem hx, Option.map_some]
    obtain ⟨c, ei⟩ := ei
    have hx : op2 .ne (.scr ns) (.lst []) = some (.bl true) := by
      cases ns with
      | nil => exact (hz rfl).elim
      | cons _ _ => rfl
    have ht := Int.ediv_nonneg hk (show 0 ≤ (ns.length : Int) by omega)
    have f1 : op2 .fdv (.int k) (.int ns.length) = some (.int (k / ns.length)) := op_fdv (by omega)
    have f2 : op2 .mod (.int k) (.int ns.length) = some (.int (k % ns.length)) := op_mod (by omega)
    have f3 : op2 .mul (.int 6553) (.int (k / ns.length)) = some (.int (6553 * (k / ns.length))) := mul_small (by omega)
    have p : op2 .pow (.int 10) (.int 18) = some (.int (10 ^ 18)) := rfl
    have bl : b1 .len (.scr ns) = some (.int ns.length) := rfl
    generalize k / (ns.length : Int) = t at ht f1 f3
    have cont : ∀ (a : Slot) (x y : Slot), ∃ r, (exs (tabOf [] []) dwT [a, .val (.int k), .val (.int many), .val (.int (c + 6553 * t)), x, y] S).ends = .ok (.int r) S ∧ 0 ≤ r ∧ r < many := fun a x y => dw_tail _ a k many _ x y S hm
    have start : fnDraw [.scr ns, .int k, .int many] S = ((exs (tabOf [] []) dwJ [.val (.scr ns), .val (.int k), .val (.int many), .val (.int (7 * k)), .emp, .emp] S).next fun ρ S => exs (tabOf [] []) dwT ρ S).ends := by
      simp [fnDraw, fnOf, dwA, exs, ex, ev, evs, bindT, e0, hx, small_ok]
    have plain : ∀ (x y : Slot), (ex (tabOf [] []) (.ifs (.and (.op .ge (.var 3) (.op .pow (.cst (.int 10)) (.cst (.int 18)))) (.op .lt (.var 4) (.cst (.int 60)))) dwI .nil) [.val (.scr ns), .val (.int k), .val (.int many), .val (.int c), .val (.int t), .emp] S) = .ok (.nx [.val (.scr ns), .val (.int k), .val (.int many), .val (.int c), x, y]) S →
        ∃ r, fnDraw [.scr ns, .int k, .int many] S = .ok (.int r) S ∧ 0 ≤ r ∧ r < many := by
      intro x y hi
      obtain ⟨r, h, h2⟩ := cont (.val (.scr ns)) x y
      refine ⟨r, ?_, h2⟩
      rw [← h, start, dwJ]
      have e1 : ex (tabOf [] []) (.asg (.name 3) (.idx (.var 0) (.op .mod (.var 1) (.f1 .len (.var 0))))) [.val (.scr ns), .val (.int k), .val (.int many), .val (.int (7 * k)), .emp, .emp] S = .ok (.nx [.val (.scr ns), .val (.int k), .val (.int many), .val (.int c), .emp, .emp]) S := by
        simp [ex, ev, bl, f2, ei, bindT]
      have e2 : ex (tabOf [] []) (.asg (.name 4) (.op .fdv (.var 1) (.f1 .len (.var 0)))) [.val (.scr ns), .val (.int k), .val (.int many), .val (.int c), .emp, .emp] S = .ok (.nx [.val (.scr ns), .val (.int k), .val (.int many), .val (.int c), .val (.int t), .emp]) S := by
        simp [ex, ev, bl, f1, bindT]
      have e3 : ex (tabOf [] []) (.asg (.name 3) (.op .add (.var 3) (.op .mul (.cst (.int 6553)) (.op .fdv (.var 1) (.f1 .len (.var 0)))))) [.val (.scr ns), .val (.int k), .val (.int many), .val (.int c), x, y] S = .ok (.nx [.val (.scr ns), .val (.int k), .val (.int many), .val (.int (c + 6553 * t)), x, y]) S := by
        simp [ex, ev, bl, f1, f3, op_add, bindT]
      simp only [exs, e1, R.next_nx, e2, hi, e3]
    by_cases hc : 10 ^ 18 ≤ c
    · by_cases h60 : t < 60
      · have f4 : op2 .fdv (.int c) (.int (10 ^ 18)) = some (.int (c / 10 ^ 18)) := op_fdv (by decide)
        obtain ⟨t', r', e⟩ := dw_while (tabOf [] []) (.val (.scr ns)) (.val (.int k)) (.val (.int many)) (.val (.int c)) S fuel t (c / 10 ^ 18) ht (by unfold fuel; omega)
        have e4 : ex (tabOf [] []) (.asg (.name 5) (.op .fdv (.var 3) (.op .pow (.cst (.int 10)) (.cst (.int 18))))) [.val (.scr ns), .val (.int k), .val (.int many), .val (.int c), .val (.int t), .emp] S = .ok (.nx [.val (.scr ns), .val (.int k), .val (.int many), .val (.int c), .val (.int t), .val (.int (c / 10 ^ 18))]) S := by
          simp only [ex, ev, List.getElem?_cons_succ, List.getElem?_cons_zero, R.bind_ok, p, lift_some, f4, R.then_ok, bindT, bound_some]
          rfl
        have ec : (ev (tabOf [] []) (.and (.op .ge (.var 3) (.op .pow (.cst (.int 10)) (.cst (.int 18)))) (.op .lt (.var 4) (.cst (.int 60)))) [.val (.scr ns), .val (.int k), .val (.int many), .val (.int c), .val (.int t), .emp] S).bind asB = .ok true S := by
          simp only [ev, List.getElem?_cons_succ, List.getElem?_cons_zero, R.bind_ok, p, lift_some, op_ge, op_lt, decide_eq_true hc, decide_eq_true h60, asB_bl, if_true]
        by_cases hr : 0 < r'
        · refine ⟨r' % 1000000 % many, ?_, Int.emod_nonneg _ (by omega), Int.emod_lt_of_pos _ hm⟩
          have e1 : ex (tabOf [] []) (.asg (.name 3) (.idx (.var 0) (.op .mod (.var 1) (.f1 .len (.var 0))))) [.val (.scr ns), .val (.int k), .val (.int many), .val (.int (7 * k)), .emp, .emp] S = .ok (.nx [.val (.scr ns), .val (.int k), .val (.int many), .val (.int c), .emp, .emp]) S := by
            simp [ex, ev, bl, f2, ei, bindT]
          have e2 : ex (tabOf [] []) (.asg (.name 4) (.op .fdv (.var 1) (.f1 .len (.var 0)))) [.val (.scr ns), .val (.int k), .val (.int many), .val (.int c), .emp, .emp] S = .ok (.nx [.val (.scr ns), .val (.int k), .val (.int many), .val (.int c), .val (.int t), .emp]) S := by
            simp [ex, ev, bl, f1, bindT]
          have ew : ex (tabOf [] []) (.whl dwC dwB) [.val (.scr ns), .val (.int k), .val (.int many), .val (.int c), .val (.int t), .val (.int (c / 10 ^ 18))] S = _ := e
          have er : ex (tabOf [] []) (.ifs (.op .gt (.var 5) (.cst (.int 0))) (.cons (.ret (.op .mod (.op .mod (.var 5) (.cst (.int 1000000))) (.var 2))) .nil) .nil) [.val (.scr ns), .val (.int k), .val (.int many), .val (.int c), .val (.int t'), .val (.int r')] S = .ok (.rt (.int (r' % 1000000 % many))) S := by
            simp [ex, exs, ev, op_gt, hr, op_mod, hm]
          have ei : ex (tabOf [] []) (.ifs (.and (.op .ge (.var 3) (.op .pow (.cst (.int 10)) (.cst (.int 18)))) (.op .lt (.var 4) (.cst (.int 60)))) dwI .nil) [.val (.scr ns), .val (.int k), .val (.int many), .val (.int c), .val (.int t), .emp] S = .ok (.rt (.int (r' % 1000000 % many))) S := by
            rw [ex, ec]
            simp only [R.then_ok, if_true, dwI, exs, e4, R.next_nx, ew, er, R.next_rt]
          rw [start, dwJ]
          simp only [exs, e1, R.next_nx, e2, ei, R.next_rt, R.ends_rt]
        · refine plain (.val (.int t')) (.val (.int r')) ?_
          have ew : ex (tabOf [] []) (.whl dwC dwB) [.val (.scr ns), .val (.int k), .val (.int many), .val (.int c), .val (.int t), .val (.int (c / 10 ^ 18))] S = _ := e
          have er : ex (tabOf [] []) (.ifs (.op .gt (.var 5) (.cst (.int 0))) (.cons (.ret (.op .mod (.op .mod (.var 5) (.cst (.int 1000000))) (.var 2))) .nil) .nil) [.val (.scr ns), .val (.int k), .val (.int many), .val (.int c), .val (.int t'), .val (.int r')] S = .ok (.nx [.val (.scr ns), .val (.int k), .val (.int many), .val (.int c), .val (.int t'), .val (.int r')]) S := by
            simp [ex, exs, ev, op_gt, hr]
          rw [ex, ec]
          simp only [R.then_ok, if_true, dwI, exs, e4, R.next_nx, ew, er]
      · refine plain (.val (.int t)) .emp ?_
        have ec : (ev (tabOf [] []) (.and (.op .ge (.var 3) (.op .pow (.cst (.int 10)) (.cst (.int 18)))) (.op .lt (.var 4) (.cst (.int 60)))) [.val (.scr ns), .val (.int k), .val (.int many), .val (.int c), .val (.int t), .emp] S).bind asB = .ok false S := by
          simp only [ev, List.getElem?_cons_succ, List.getElem?_cons_zero, R.bind_ok, p, lift_some, op_ge, op_lt, decide_eq_true hc, decide_eq_false h60, asB_bl, if_true]
        rw [ex, ec]
        rfl
    · refine plain (.val (.int t)) .emp ?_
      have ec : (ev (tabOf [] []) (.and (.op .ge (.var 3) (.op .pow (.cst (.int 10)) (.cst (.int 18)))) (.op .lt (.var 4) (.cst (.int 60)))) [.val (.scr ns), .val (.int k), .val (.int many), .val (.int c), .val (.int t), .emp] S).bind asB = .ok false S := by
        simp only [ev, List.getElem?_cons_succ, List.getElem?_cons_zero, R.bind_ok, p, lift_some, op_ge, op_lt, decide_eq_false hc, asB_bl]
        rfl
      rw [ex, ec]
      rfl
end Mi
/-! Mini: to run a body in plain proofs. -/
namespace Mi
def exsK (F : Fns) (r : Sms) (ρ : Env) (S : Sto) : R Ct := exs F r ρ S
theorem exs_cons {F : Fns} {s : Sm} {r : Sms} {ρ : Env} {S : Sto} : exs F (.cons s r) ρ S = (ex F s ρ S).next (exsK F r) := by rw [exs]; rfl
theorem exs_nil {F : Fns} {ρ : Env} {S : Sto} : exs F .nil ρ S = .ok (.nx ρ) S := by rw [exs]
theorem exsK_ap {F : Fns} {r : Sms} {ρ : Env} {S : Sto} : exsK F r ρ S = exs F r ρ S := Eq.trans rfl rfl
theorem exsK_nx {F : Fns} {r : Sms} {ρ : Env} {S : Sto} : (R.ok (.nx ρ) S).next (exsK F r) = exs F r ρ S := Eq.trans rfl rfl
def ifK (F : Fns) (a b : Sms) (ρ : Env) (t : Bool) (S : Sto) : R Ct := if t = true then exs F a ρ S else exs F b ρ S
theorem ex_ifs {F : Fns} {c : Ex} {a b : Sms} {ρ : Env} {S : Sto} : ex F (.ifs c a b) ρ S = ((ev F c ρ S).bind asB).then ρ (ifK F a b ρ) := by rw [ex]; rfl
theorem ifK_t {F : Fns} {a b : Sms} {ρ : Env} {S : Sto} : ifK F a b ρ true S = exs F a ρ S := Eq.trans rfl rfl
theorem ifK_f {F : Fns} {a b : Sms} {ρ : Env} {S : Sto} : ifK F a b ρ false S = exs F b ρ S := Eq.trans rfl rfl
def eachF (F : Fns) (tg : Tg) (b : Sms) (d : D) (ρ : Env) (S : Sto) : R Ct := bound (bindT tg d ρ) fun ρ => exs F b ρ S
theorem ex_each {F : Fns} {tg : Tg} {it : It} {b : Sms} {ρ : Env} {S : Sto} : ex F (.each tg it b) ρ S = (evIt F it ρ S).then ρ fun ds S => loop (eachF F tg b) ds ρ S := by rw [ex]; rfl
theorem eachF_eq {F : Fns} {tg : Tg} {b : Sms} {d : D} {ρ ρ1 : Env} {S : Sto} (h : bindT tg d ρ = some ρ1) : eachF F tg b d ρ S = exs F b ρ1 S := by rw [eachF, h]; rfl
theorem ex_asg {F : Fns} {tg : Tg} {e : Ex} {ρ : Env} {S : Sto} : ex F (.asg tg e) ρ S = (ev F e ρ S).then ρ fun x S => bound (bindT tg x ρ) fun ρ => .ok (.nx ρ) S := by rw [ex]
theorem ex_asg1 {F : Fns} {i : Nat} {e : Ex} {ρ : Env} {S : Sto} : ex F (.asg (.name i) e) ρ S = (ev F e ρ S).then ρ fun x S => .ok (.nx (ρ.set i (.val x))) S := by rw [ex]; rfl
theorem ex_ret {F : Fns} {e : Ex} {ρ : Env} {S : Sto} : ex F (.ret e) ρ S = (ev F e ρ S).then ρ fun x S => .ok (.rt x) S := by rw [ex]
theorem ex_expr {F : Fns} {e : Ex} {ρ : Env} {S : Sto} : ex F (.expr e) ρ S = (ev F e ρ S).then ρ fun _ S => .ok (.nx ρ) S := by rw [ex]
theorem ex_pass {F : Fns} {ρ : Env} {S : Sto} : ex F .pass ρ S = .ok (.nx ρ) S := by rw [ex]
theorem ex_new {F : Fns} {i : Nat} {ρ : Env} {S : Sto} : ex F (.new i) ρ S = .ok (.nx (ρ.set i (.own []))) S := by rw [ex]
theorem ex_app {F : Fns} {i : Nat} {e : Ex} {ρ : Env} {S : Sto} {ds : List D} (h : ρ[i]? = some (.own ds)) (hl : ds.length < 1000000) : ex F (.app i e) ρ S = (ev F e ρ S).then ρ fun x S => .ok (.nx (ρ.set i (.own (ds ++ [x])))) S := by
  rw [ex, h]
  simp only [lim, hl, if_true]
theorem ex_frz {F : Fns} {i : Nat} {s : Sm} {ρ : Env} {S : Sto} {ds : List D} (h : ρ[i]? = some (.own ds)) : ex F (.frz i s) ρ S = ex F s (ρ.set i (.val (.lst ds))) S := by
  rw [ex, h]
theorem ev_var {F : Fns} {i : Nat} {ρ : Env} {S : Sto} {d : D} (h : ρ[i]? = some (.val d)) : ev F (.var i) ρ S = .ok d S := by rw [ev, h]
theorem fnOf_ap {F : Fns} {np n : Nat} {b : Sms} {ds : List D} {S : Sto} (h : ds.length = np) : fnOf F np n b ds S = (exs F b (ds.map .val ++ List.replicate (n - np) .emp) S).ends := by
  unfold fnOf; rw [if_pos h]
theorem fn1 {F : Fns} {n : Nat} {b : Sms} {x : D} {S : Sto} : fnOf F 1 n b [x] S = (exs F b (.val x :: List.replicate (n - 1) .emp) S).ends := Eq.trans rfl rfl
theorem fn2 {F : Fns} {n : Nat} {b : Sms} {x y : D} {S : Sto} : fnOf F 2 n b [x, y] S = (exs F b (.val x :: .val y :: List.replicate (n - 2) .emp) S).ends := Eq.trans rfl rfl
theorem fn3 {F : Fns} {n : Nat} {b : Sms} {x y z : D} {S : Sto} : fnOf F 3 n b [x, y, z] S = (exs F b (.val x :: .val y :: .val z :: List.replicate (n - 3) .emp) S).ends := Eq.trans rfl rfl
theorem fn4 {F : Fns} {n : Nat} {b : Sms} {x y z u : D} {S : Sto} : fnOf F 4 n b [x, y, z, u] S = (exs F b (.val x :: .val y :: .val z :: .val u :: List.replicate (n - 4) .emp) S).ends := Eq.trans rfl rfl
/-- comprehensions over what is known -/
theorem comp_map {α : Type} {F : Fns} {e : Ex} {tg : Tg} {it : It} {vs : List Nat} {ρ : Env} {S : Sto} {l : List α} (g h : α → D) (hi : evIt F it ρ S = .ok (l.map g) S) (hl : l.length ≤ 1000000)
    (ht : ∀ x ∈ l, compF F e tg vs ρ (g x) S = .ok (some (h x)) S) : ev F (.comp e tg it vs) ρ S = .ok (.lst (l.map h)) S := by
  rw [ev_comp, hi, R.bind_ok, turns_map ht, calmly_ok, R.bind_ok, small_ok (by simpa using hl), R.bind_ok]
theorem turns_filter {α : Type} {f : D → Sto → R (Option D)} {S : Sto} {g h : α → D} {p : α → Bool} : ∀ {l : List α}, (∀ x ∈ l, f (g x) S = .ok (if p x then some (h x) else none) S) → turns f (l.map g) S = .ok ((l.filter p).map h) S
  | [], _ => rfl
  | x :: l, hh => by
    rw [List.map_cons, turns, hh x (List.mem_cons_self ..), R.bind_ok, turns_filter (l := l) fun y hy => hh y (List.mem_cons_of_mem _ hy)]
    cases q : p x <;> simp [q]
theorem compIf_map {α : Type} {F : Fns} {e : Ex} {tg : Tg} {it : It} {c : Ex} {vs : List Nat} {ρ : Env} {S : Sto} {l : List α} (g h : α → D) (p : α → Bool) (hi : evIt F it ρ S = .ok (l.map g) S) (hl : l.length ≤ 1000000)
    (ht : ∀ x ∈ l, compIfF F e tg c vs ρ (g x) S = .ok (if p x then some (h x) else none) S) : ev F (.compIf e tg it c vs) ρ S = .ok (.lst ((l.filter p).map h)) S := by
  have : (l.filter p).length ≤ l.length := List.length_filter_le ..
  rw [ev_compIf, hi, R.bind_ok, turns_filter ht, calmly_ok, R.bind_ok, small_ok (by simp; omega), R.bind_ok]
/-- loops -/
theorem loop_inv {f : D → Env → Sto → R Ct} {S : Sto} (P : List D → Env → Prop) : ∀ (ds pre : List D) (ρ : Env), P pre ρ →
    (∀ pre' d post ρ, pre ++ ds = pre' ++ d :: post → P pre' ρ → ∃ ρ', f d ρ S = .ok (.nx ρ') S ∧ P (pre' ++ [d]) ρ') → ∃ ρ', loop f ds ρ S = .ok (.nx ρ') S ∧ P (pre ++ ds) ρ'
  | [], pre, ρ, h, _ => ⟨ρ, rfl, by simpa using h⟩
  | d :: ds, pre, ρ, h, hs => by
    obtain ⟨ρ1, e1, h1⟩ := hs pre d ds ρ rfl h
    obtain ⟨ρ2, e2, h2⟩ := loop_inv P ds (pre ++ [d]) ρ1 h1 (fun p' d' q' ρ' e => hs p' d' q' ρ' (by simpa using e))
    refine ⟨ρ2, by rw [loop, e1, R.turn_nx, e2], by simpa using h2⟩
theorem loop_fold {α β X : Type} {f : D → Env → Sto → R Ct} {S : Sto} (g : α → D) (E : β → X → Env) (stp : β → α → β) : ∀ (l : List α), (∀ b x a, a ∈ l → ∃ x', f (g a) (E b x) S = .ok (.nx (E (stp b a) x')) S) → ∀ b x, ∃ x', loop f (l.map g) (E b x) S = .ok (.nx (E (l.foldl stp b) x')) S
  | [], _, b, x => ⟨x, rfl⟩
  | a :: l, h, b, x => by
    obtain ⟨x1, e1⟩ := h b x a (List.mem_cons_self ..)
    obtain ⟨x2, e2⟩ := loop_fold g E stp l (fun b x a ha => h b x a (List.mem_cons_of_mem _ ha)) (stp b a) x1
    exact ⟨x2, by rw [List.map_cons, loop, e1, R.turn_nx, e2, List.foldl_cons]⟩
theorem eq_plain {a b : D} (ha : pl 20 a = true) (hb : pl 20 b = true) : eqO a b = some (deq a b) := by
  rw [eqO.eq_def]
  split
  · exact absurd ha (by simp [pl])
  · rw [if_pos ⟨ha, hb⟩]
mutual
theorem deq_refl : ∀ d : D, pl n d = true → deq d d = true
  | .non, _ => by simp [deq]
  | .bl _, _ => by simp [deq]
  | .int _, _ => by simp [deq]
  | .str _, _ => by simp [deq]
  | .lst xs, h => by
    cases n with
    | zero => simp [pl] at h
    | succ n => rw [deq]; exact deqs_refl xs (by simpa [pl] using h)
  | .tup xs, h => by
    cases n with
    | zero => simp [pl] at h
    | succ n => rw [deq]; exact deqs_refl xs (by simpa [pl] using h)
  | .obj _, h => by cases n <;> simp [pl] at h
  | .scr _, h => by cases n <;> simp [pl] at h
theorem deqs_refl : ∀ xs : List D, (∀ x ∈ xs, pl n x = true) → deq.deqs xs xs = true
  | [], _ => by simp [deq.deqs]
  | x :: xs, h => by
    rw [deq.deqs, deq_refl x (h x (List.mem_cons_self ..)), deqs_refl xs fun y hy => h y (List.mem_cons_of_mem _ hy)]
    rfl
end
theorem eq_same {a : D} (ha : pl 20 a = true) : eqO a a = some true := by rw [eq_plain ha ha, deq_refl a ha]
section
variable {F : Fns} {ρ : Env} {S : Sto}
def varR (o : Option Slot) (S : Sto) : R D := match o with
  | some (.val d) => .ok d S
  | _ => .no
theorem varR_val {d : D} : varR (some (.val d)) S = .ok d S := Eq.trans rfl rfl
def ownR (o : Option Slot) (S : Sto) : R D := match o with
  | some (.own d) => .ok (.lst d) S
  | _ => .no
theorem ownR_own {d : List D} : ownR (some (.own d)) S = .ok (.lst d) S := Eq.trans rfl rfl
theorem r_var {i : Nat} : ev F (.var i) ρ S = varR ρ[i]? S := by rw [ev]; rfl
theorem r_own {i : Nat} : ev F (.own i) ρ S = ownR ρ[i]? S := by rw [ev]; rfl
theorem r_cst {d : D} : ev F (.cst d) ρ S = .ok d S := by rw [ev]
theorem r_glo {x : Nat} : ev F (.glo x) ρ S = lift (F.gl x) S := by rw [ev]
theorem r_op {o : O2} {a b : Ex} : ev F (.op o a b) ρ S = (ev F a ρ S).bind fun x S => (ev F b ρ S).bind fun y S => lift (op2 o x y) S := by rw [ev]
theorem r_chain {o o' : O2} {a b c : Ex} : ev F (.chain o o' a b c) ρ S = (ev F a ρ S).bind fun x S => (ev F b ρ S).bind fun y S => (lift (op2 o x y) S).bind fun z S => (asB z S).bind fun t S =>
      if t = true then (ev F c ρ S).bind fun w S => lift (op2 o' y w) S else .ok (.bl false) S := by rw [ev]
def negR (i : Option Int) (S : Sto) : R D := match i with
  | some i => .ok (.int (-i)) S
  | none => .no
theorem negR_some {i : Int} : negR (some i) S = .ok (.int (-i)) S := Eq.trans rfl rfl
theorem r_neg {a : Ex} : ev F (.neg a) ρ S = (ev F a ρ S).bind fun x S => (asI x S).bind negR := by
  rw [ev]
  congr
theorem r_nt {a : Ex} : ev F (.nt a) ρ S = (ev F a ρ S).bind fun x S => (asB x S).bind fun b S => .ok (.bl (!b)) S := by rw [ev]
theorem r_and {a b : Ex} : ev F (.and a b) ρ S = (ev F a ρ S).bind fun x S => (asB x S).bind fun t S => if t = true then ev F b ρ S else .ok (.bl false) S := by rw [ev]
theorem r_or {a b : Ex} : ev F (.or a b) ρ S = (ev F a ρ S).bind fun x S => (asB x S).bind fun t S => if t = true then .ok (.bl true) S else ev F b ρ S := by rw [ev]
theorem r_ite {c a b : Ex} : ev F (.ite c a b) ρ S = (ev F c ρ S).bind fun x S => (asB x S).bind fun t S => if t = true then ev F a ρ S else ev F b ρ S := by rw [ev]
theorem r_lst {es : Exs} : ev F (.lst es) ρ S = (evs F es ρ S).bind fun ds S => (small ds S).bind fun ds S => .ok (.lst ds) S := by rw [ev]
theorem r_tup {es : Exs} : ev F (.tup es) ρ S = (evs F es ρ S).bind fun ds S => (small ds S).bind fun ds S => .ok (.tup ds) S := by rw [ev]
theorem r_idx {a i : Ex} : ev F (.idx a i) ρ S = (ev F a ρ S).bind fun x S => (ev F i ρ S).bind fun y S => lift (idx x y) S := by rw [ev]
theorem r_slc0 {a : Ex} : ev F (.slc a none none) ρ S = (ev F a ρ S).bind fun x S => lift (slc x none none) S := by rw [ev]
theorem r_slc1 {a l : Ex} : ev F (.slc a (some l) none) ρ S = (ev F a ρ S).bind fun x S => (ev F l ρ S).bind fun l S => (asI l S).bind fun l S => lift (slc x l none) S := by rw [ev]
theorem r_slc2 {a h : Ex} : ev F (.slc a none (some h)) ρ S = (ev F a ρ S).bind fun x S => (ev F h ρ S).bind fun h S => (asI h S).bind fun h S => lift (slc x none h) S := by rw [ev]
theorem r_slc3 {a l h : Ex} : ev F (.slc a (some l) (some h)) ρ S = (ev F a ρ S).bind fun x S => (ev F l ρ S).bind fun l S => (asI l S).bind fun l S => (ev F h ρ S).bind fun h S => (asI h S).bind fun h S => lift (slc x l h) S := by rw [ev]
theorem r_rev {a : Ex} : ev F (.rev a) ρ S = (ev F a ρ S).bind fun x S => lift (revD x) S := by rw [ev]
theorem r_f1 {f : B1} {a : Ex} : ev F (.f1 f a) ρ S = (ev F a ρ S).bind fun x S => lift (b1 f x) S := by rw [ev]
theorem r_f2 {f : B2} {a b : Ex} : ev F (.f2 f a b) ρ S = (ev F a ρ S).bind fun x S => (ev F b ρ S).bind fun y S => lift (b2 f x y) S := by rw [ev]
theorem r_meth {f : M1} {a b : Ex} : ev F (.meth f a b) ρ S = (ev F a ρ S).bind fun x S => (asS x S).bind fun x S => (ev F b ρ S).bind fun y S => lift (m1 f x y) S := by rw [ev]
theorem r_isi {a : Ex} {t : Ty} : ev F (.isi a t) ρ S = (ev F a ρ S).bind fun x S => lift ((isA x t).map D.bl) S := by rw [ev]
def callR (o : Option Fn) (r : R (List D)) : R D := match o with
  | some g => r.bind g
  | none => .no
theorem callR_ok {g : Fn} {ds : List D} : callR (some g) (R.ok ds S) = g ds S := Eq.trans rfl rfl
theorem r_call {f : Nat} {es : Exs} : ev F (.call f es) ρ S = callR (F.fn f) (evs F es ρ S) := by
  rw [ev]
  cases F.fn f <;> rfl
def callO (o : Option Fn) (r : R (List D)) : R D := match o with
  | some g => r.bind fun ds S => noSto (g ds S)
  | none => .no
theorem callO_ok {g : Fn} {ds : List D} : callO (some g) (R.ok ds S) = noSto (g ds S) := Eq.trans rfl rfl
theorem r_callO {f : Nat} {es : Exs} : ev F (.callO f es) ρ S = callO (F.fn f) (evs F es ρ S) := by
  rw [ev]
  cases F.fn f <;> rfl
def lmR (f : LM) (x : D) (r : R D) : R D := if lmOk f x = true then r.bind fun y S => lift (lm f x y) S else .no
theorem r_lmeth {f : LM} {a b : Ex} : ev F (.lmeth f a b) ρ S = (ev F a ρ S).bind fun x S => lmR f x (ev F b ρ S) := by rw [ev]; rfl
theorem lmR_count {xs : List D} {y : D} : lmR .count (.lst xs) (.ok y S) = lift (lm .count (.lst xs) y) S := Eq.trans rfl rfl
theorem lmR_index {xs : List D} {y : D} : lmR .index (.lst xs) (.ok y S) = lift (lm .index (.lst xs) y) S := Eq.trans rfl rfl
def nrR (x y z : D) (S : Sto) : R D := match x, y, z with
  | .int i, .int j, .int k => .ok (.bl (!decide (j ≤ i ∧ i < k))) S
  | _, _, _ => .no
theorem nrR_int {i j k : Int} : nrR (.int i) (.int j) (.int k) S = .ok (.bl (!decide (j ≤ i ∧ i < k))) S := Eq.trans rfl rfl
theorem r_nrng {a b c : Ex} : ev F (.nrng a b c) ρ S = (ev F a ρ S).bind fun x S => (ev F b ρ S).bind fun y S => (ev F c ρ S).bind fun z S => nrR x y z S := by rw [ev]; rfl
theorem r_lzip {a b : Ex} : ev F (.lzip a b) ρ S = (ev F a ρ S).bind fun x S => (ev F b ρ S).bind fun y S => lift (lzipD x y) S := by rw [ev]
theorem ex_cpy {i : Nat} {e : Ex} : ex F (.cpy i e) ρ S = (ev F e ρ S).then ρ fun x S => ownIn i (b1 .list x) ρ S := by rw [ex]
theorem ex_thaw {i f : Nat} {es : Exs} {g : Fn} (h : F.fr f = some g) : ex F (.thaw i f es) ρ S = ((evs F es ρ S).bind g).then ρ fun x S => ownIn i (some x) ρ S := by rw [ex, h]
theorem ex_put {i : Nat} {j e : Ex} {ds : List D} (h : ρ[i]? = some (.own ds)) : ex F (.put i j e) ρ S = (ev F e ρ S).then ρ fun v S => (ev F j ρ S).then ρ fun w S => putAt i ds v w ρ S := by rw [ex, h]
theorem putAt_ok {i : Nat} {ds : List D} {v : D} {n : Int} {q : Nat} (hf : flat v = true) (hq : ix ds.length n = some q) : putAt i ds v (.int n) ρ S = .ok (.nx (ρ.set i (.own (ds.set q v)))) S := by simp [putAt, hf, hq]
theorem ex_par {i j : Nat} {a b : Ex} : ex F (.par i j a b) ρ S = (ev F a ρ S).then ρ fun x S => (ev F b ρ S).then ρ fun y S => .ok (.nx ((ρ.set i (.val x)).set j (.val y))) S := by rw [ex]
theorem ex_retF {e : Ex} : ex F (.retF e) ρ S = (ev F e ρ S).then ρ fun x S => retL x S := by rw [ex]
theorem tabY_fn {l : List (Nat × Fn)} {g : List (Nat × D)} {es : List Nat} {fr : List (Nat × Fn)} {i : Nat} : (tabY l g es fr).fn i = l.lookup i := Eq.trans rfl rfl
theorem tabY_gl {l : List (Nat × Fn)} {g : List (Nat × D)} {es : List Nat} {fr : List (Nat × Fn)} {i : Nat} : (tabY l g es fr).gl i = g.lookup i := Eq.trans rfl rfl
theorem fF1 {n : Nat} {b : Sms} {x : D} : fnOfF F 1 n b [x] S = (exs F b (.val x :: List.replicate (n - 1) .emp) S).endsF := Eq.trans rfl rfl
theorem fF2 {n : Nat} {b : Sms} {x y : D} : fnOfF F 2 n b [x, y] S = (exs F b (.val x :: .val y :: List.replicate (n - 2) .emp) S).endsF := Eq.trans rfl rfl
theorem r_nil : evs F .nil ρ S = .ok [] S := by rw [evs]
theorem r_cons {e : Ex} {es : Exs} : evs F (.cons e es) ρ S = (ev F e ρ S).bind fun x S => (evs F es ρ S).bind fun r S => .ok (x :: r) S := by rw [evs]
theorem tab_fn {l : List (Nat × Fn)} {g : List (Nat × D)} {i : Nat} : (tabOf l g).fn i = l.lookup i := Eq.trans rfl rfl
theorem tab_gl {l : List (Nat × Fn)} {g : List (Nat × D)} {i : Nat} : (tabOf l g).gl i = g.lookup i := Eq.trans rfl rfl
theorem tabX_fn {l : List (Nat × Fn)} {g : List (Nat × D)} {es : List Nat} {i : Nat} : (tabX l g es).fn i = l.lookup i := Eq.trans rfl rfl
theorem tabX_gl {l : List (Nat × Fn)} {g : List (Nat × D)} {es : List Nat} {i : Nat} : (tabX l g es).gl i = g.lookup i := Eq.trans rfl rfl
theorem look_hit {α : Type} {i : Nat} {x : α} {l : List (Nat × α)} : List.lookup i ((i, x) :: l) = some x := by simp [List.lookup]
theorem look_miss {α : Type} {i j : Nat} {x : α} {l : List (Nat × α)} (h : (i == j) = false) : List.lookup i ((j, x) :: l) = l.lookup i := by simp [List.lookup, h]
/-! ### things of the store -/
theorem r_fld {a : Ex} {f : Nat} : ev F (.fld a f) ρ S = (ev F a ρ S).bind fun x S => fldOf F.fd f x S := by rw [ev]
def mthR (o : Option (Nat × Nat × Fn)) (r : R D) (k : Sto → R (List D)) : R D := match o with
  | some (C, m, h) => r.bind fun x S => (isOf C m x S).bind fun x S => (k S).bind fun ds S => h (x :: ds) S
  | none => .no
theorem r_mth {a : Ex} {g : Nat} {es : Exs} : ev F (.mth a g es) ρ S = mthR (F.mt g) (ev F a ρ S) (fun S => evs F es ρ S) := by
  rw [ev]
  cases F.mt g <;> rfl
theorem mthR_ok {C m : Nat} {h : Fn} {x : D} {k : Sto → R (List D)} : mthR (some (C, m, h)) (.ok x S) k = (isOf C m x S).bind fun x S => (k S).bind fun ds S => h (x :: ds) S := Eq.trans rfl rfl
def mkR (o : Option (Nat × Fn × List D)) (r : R (List D)) : R D := match o with
  | some (C, h, dfl) => r.bind fun ds S => (h (.obj S.length :: (ds ++ dfl)) (S ++ [.ins C []])).bind fun x S' => madeAt S.length x S'
  | none => .no
theorem r_mk {g : Nat} {es : Exs} : ev F (.mk g es) ρ S = mkR (F.mkr g) (evs F es ρ S) := by
  rw [ev]
  cases F.mkr g <;> rfl
theorem mkR_ok {C : Nat} {h : Fn} {dfl ds : List D} : mkR (some (C, h, dfl)) (.ok ds S) = (h (.obj S.length :: (ds ++ dfl)) (S ++ [.ins C []])).bind fun x S' => madeAt S.length x S' := Eq.trans rfl rfl
theorem r_lenSet {a : Ex} : ev F (.lenSet a) ρ S = (ev F a ρ S).bind fun x S => lift (lenSetD x) S := by rw [ev]
theorem r_isLT {a : Ex} : ev F (.isLT a) ρ S = (ev F a ρ S).bind fun x S => lift ((isLTD x).map D.bl) S := by rw [ev]
def eqNR (x : D) (S : Sto) : R D := match x with
  | .lst xs => .ok (.bl xs.isEmpty) S
  | _ => .no
theorem eqNR_lst {xs : List D} : eqNR (.lst xs) S = .ok (.bl xs.isEmpty) S := Eq.trans rfl rfl
theorem r_eqN {a : Ex} : ev F (.eqN a) ρ S = (ev F a ρ S).bind eqNR := by rw [ev]; rfl
theorem r_dget {a i : Ex} : ev F (.dget a i) ρ S = (ev F a ρ S).bind fun x S => (ev F i ρ S).bind fun y S => dgetAt x y S := by rw [ev]
def dcpyR (x : D) (S : Sto) : R D := match dicAt x S with
  | some kvs => .ok (.obj S.length) (S ++ [.dic kvs])
  | none => .no
theorem r_dcpy {a : Ex} : ev F (.dcpy a) ρ S = (ev F a ρ S).bind dcpyR := by rw [ev]; rfl
def stoR (o : Option Sto) (ρ : Env) : R Ct := match o with
  | some S' => .ok (.nx ρ) S'
  | none => .no
theorem stoR_some {S' : Sto} : stoR (some S') ρ = .ok (.nx ρ) S' := Eq.trans rfl rfl
theorem ex_setf {a : Ex} {f : Nat} {e : Ex} : ex F (.setf a f e) ρ S = (ev F e ρ S).then ρ fun v S => (ev F a ρ S).then ρ fun x S => stoR (setAt F.fd f x v S) ρ := by rw [ex]; rfl
theorem ex_dput {a i e : Ex} : ex F (.dput a i e) ρ S = (ev F e ρ S).then ρ fun v S => (ev F a ρ S).then ρ fun x S => (ev F i ρ S).then ρ fun y S => stoR (dputAt x y v S) ρ := by rw [ex]; rfl
theorem ex_raisA {C : Nat} {e : Ex} (h : F.low C = true) : ex F (.raisA C e) ρ S = (ev F e ρ S).then ρ fun x S => .ok (.xr ⟨C, some x⟩ ρ) S := by rw [ex, if_pos h]
theorem ex_tryR {b : Sms} {C i : Nat} (h : F.low C = true) : ex F (.tryR b C i) ρ S = (exs F b ρ S).caughtR C i (fun x => F.sub x.cls C) := by rw [ex, if_pos h]
theorem ex_rais {C : Nat} (h : F.exc C = true) : ex F (.rais C) ρ S = .ok (.xr ⟨C, none⟩ ρ) S := by rw [ex, if_pos h]
def hasF (fd : List (Nat × Nat)) (C f : Nat) : Bool := fd.contains (C, f)
section
variable {l fr : List (Nat × Fn)} {g : List (Nat × D)} {es low : List Nat} {fd : List (Nat × Nat)} {mt : List (Nat × Nat × Nat × Fn)} {mk : List (Nat × Nat × Fn × List D)} {i : Nat}
theorem tabZ_fn : (tabZ l g es fr fd mt mk low).fn i = l.lookup i := Eq.trans rfl rfl
theorem tabZ_gl : (tabZ l g es fr fd mt mk low).gl i = g.lookup i := Eq.trans rfl rfl
theorem tabZ_fr : (tabZ l g es fr fd mt mk low).fr i = fr.lookup i := Eq.trans rfl rfl
theorem tabZ_mt : (tabZ l g es fr fd mt mk low).mt i = mt.lookup i := Eq.trans rfl rfl
theorem tabZ_mk : (tabZ l g es fr fd mt mk low).mkr i = mk.lookup i := Eq.trans rfl rfl
theorem tabZ_fd : (tabZ l g es fr fd mt mk low).fd = hasF fd := Eq.trans rfl rfl
end
end
end Mi
/-! enumerate(x), x a tuple. -/
namespace Et
open PySem PySem.Spec PyProof.Rows L2
theorem new1 {vv : Value} {oo : Obj} {HH : Heap → Prop} (B : Begins vv oo HH) :
    Meets (Builtin.«enumerate.__new__» ⟨[.type "enumerate", vv], []⟩) (fun _ Rr st => HH st.heap ∧
      Rr (.ok (.ret (.ref (st.heap.push oo).objs.size))) { st with heap := (st.heap.push oo).push { cls := .type "enumerate", data := .fields #[.none, .bool false, .ref st.heap.objs.size, rawInt 0, .none, .none] } }) :=
  .of_wp fun prog w A R s h => by
    obtain ⟨hp, gg, dd, tk, os⟩ := s
    obtain ⟨h1, h⟩ := h
    have hsub := sub_enumerate
    have pi : ∀ {A' : Around} {E : Value → Shared → Prop} {Q : Value → Shared → Prop}, Q (.ref hp.objs.size) ⟨hp.push oo, gg, dd, tk, os⟩ → wpAny (model prog w) A' (pyIter vv) Q E ⟨hp, gg, dd, tk, os⟩ :=
      fun q => B.iter prog w _ _ ⟨hp, gg, dd, tk, os⟩ _ h1 q
    wp_walk using pi
    refine wpAny_stack_any fun stk => wpAny_pure ?_
    split
    · rename_i cc _ _ _ _ _
      cases (cc == Value.type "enumerate")
      · wp_walk using pi
        exact ⟨_, rfl, h⟩
      · wp_walk using pi
        exact ⟨_, rfl, h⟩
    · wp_walk using pi
      exact ⟨_, rfl, h⟩
section
variable {prog : Program} {w : World} {A : Around} {E : Value → Shared → Prop} {s : Shared}
theorem call1 {vv : Value} {oo : Obj} {HH : Heap → Prop} {Q : Value → Shared → Prop} (B : Begins vv oo HH) (h1 : HH s.heap)
    (h : ∀ hn, IsEnum hn (s.heap.objs.size + 1) s.heap.objs.size 0 .none → hn.get? s.heap.objs.size = some oo → hn.objs.size = s.heap.objs.size + 2 →
      (∀ b u, s.heap.get? b = some u → hn.get? b = some u) → Q (.ref (s.heap.objs.size + 1)) { s with heap := hn }) :
    wpAny (model prog w) A (call (.type "enumerate") [vv]) Q E s := by
  refine callType_new F.called_enumerate (by decide) (F.typeCall_enumerate_1 _) (F.newCall_enumerate_1 _) (fun ob => F.args_object_init_2 ob _) F.entry_enumerate_new (new1 B) ⟨h1, ?_⟩
  have hz : (s.heap.push oo).objs.size = s.heap.objs.size + 1 := Heap.size_push ..
  show _ ∧ _
  rw [hz]
  have he : IsEnum ((s.heap.push oo).push { cls := .type "enumerate", data := .fields #[.none, .bool false, .ref s.heap.objs.size, rawInt 0, .none, .none] }) (s.heap.objs.size + 1) s.heap.objs.size 0 .none := by
    have z := Heap.get?_push_size (s.heap.push oo) (o := { cls := .type "enumerate", data := .fields #[.none, .bool false, .ref s.heap.objs.size, rawInt 0, .none, .none] }) rfl
    rw [hz] at z; exact z
  exact ⟨⟨_, he, rfl⟩, h _ he (Heap.get?_push_of_some _ (Heap.get?_push_size _ B.free)) (by rw [Heap.size_push, hz]) fun b u y => Heap.get?_push_of_some _ (Heap.get?_push_of_some _ y)⟩
end
/-- the tuple at a, each item in a new pair with its number -/
def IteT (K : PySem.W.Frag) (a : Addr) : It :=
  ⟨fun i H => ∃ (xs : List V) (x : V), SqT K H a xs ∧ xs[i]? = some x, fun i H v H' => ∃ T x, v = .ref T ∧ H T = none ∧ H' = upd H T (.tup [.int (i : Nat), x]) ∧ ∀ xs, SqT K H a xs → xs[i]? = some x, fun i H => ∃ xs : List V, SqT K H a xs ∧ xs.length = i⟩
theorem turnT {P : Program} {w : World} {K : PySem.W.Frag} {elts : List Expr} {kk : Nat} {tpos : Pos} (a e it : Addr) (hai : a ≠ it) (hae : e ≠ a) :
    Turn P w K (.Tuple elts kk tpos) (IteT K a) [e, it] e (fun i h => (∃ old, IsEnum h e it ((i : Nat) : Int) old) ∧ h.IsTupleIter it a i ∧ e ≠ it) where
  mem := by simp
  obj := fun i h st b hb => by
    obtain ⟨⟨old, he⟩, ⟨o, ho, hc, hd⟩, _⟩ := st
    rcases (show b = e ∨ b = it by simpa using hb) with z | z
    · rw [z]; exact ⟨_, he, fun _ q => nomatch q⟩
    · rw [z]; exact ⟨o, ho, fun _ q => by rw [hd] at q; cases q⟩
  keep := fun i h h' st k => let ⟨⟨old, he⟩, hi, hne⟩ := st; ⟨⟨old, k e (by simp) _ he⟩, hi.at fun u q => k it (by simp) u q, hne⟩
  item := by
    intro X hP hw hK hc i pins s σ H E I hf st hg
    subst hP hw hK
    obtain ⟨⟨old, he⟩, hit, hne⟩ := st
    obtain ⟨xs, x, hq, hx⟩ := hg
    obtain ⟨its, rv, pt, _⟩ := I.tuple hq
    obtain ⟨u, hu, ru⟩ := rv.get hx
    have hel : e < s.heap.objs.size := Heap.lt_size he
    have hil : it < s.heap.objs.size := by obtain ⟨_, q, _⟩ := hit; exact Heap.lt_size q
    have hlt : i < its.toArray.size := by
      have := (List.getElem?_eq_some_iff.mp hu).1
      simpa using this
    have D := Draws.tuple (prog := X.prog) (w := X.w) (A := X.A.in1) (show X.A.in1.handled = none from I.ok.hd hc) it a hai its.toArray
    refine wpAny_pyNext_enum_itemD D he ⟨hit, pt⟩ hlt hne (by simpa using ⟨hne, hae⟩) fun x' hn tk hP ho hs' hT hsz hk => ?_
    have hxu : x' = u := by
      have z : its.toArray[i]? = some x' := hP
      rw [show its.toArray[i]? = some u by simpa using hu] at z
      exact (Option.some.inj z).symm
    subst hxu
    obtain ⟨hit', _⟩ := hs'
    refine ⟨_, rfl, wpAny_letOwnedTupleGo_enum (s := { s with heap := hn, toks := tk + 1 }) ho fun h2 he' sb => ?_⟩
    have hT2 : h2.get? s.heap.objs.size = some { cls := .type "tuple", data := .seq #[.int i tk, x'] } := (sb.2 _ (Nat.ne_of_gt hel)).trans hT
    have ok2 : ObjOk X.prog X.w (upd H s.heap.objs.size (.tup [.int (i : Nat), x])) h2 s.heap.objs.size (.tup [.int (i : Nat), x]) :=
      ⟨by show 2 ≤ sizeLine; decide, [.int i tk, x'], .cons ⟨_, rfl⟩ (.cons ru .nil), ⟨_, hT2, rfl, _, rfl⟩⟩
    have I1 : Inv X pins σ (upd H s.heap.objs.size (.tup [.int (i : Nat), x])) { s with heap := h2, toks := tk + 1 } :=
      I.turnedNew (ch := [e, it]) (fun b u hb q => (sb.2 b (fun z => hb (by simp [z]))).trans (hk b u (fun z => hb (by simp [z])) (fun z => hb (by simp [z])) q)) hf (Nat.le_refl _) ok2
    refine ⟨.ref s.heap.objs.size, _, I1, rfl, ⟨_, x, rfl, I.hok.fresh (Nat.le_refl _), rfl, fun ys hy => by rw [I.tuple_inj hy hq]; exact hx⟩, ⟨⟨x', ?_⟩, hit'.at fun u q => (sb.2 it (Ne.symm hne)).trans q, hne⟩, fun b hb => ?_⟩
    · rw [show ((i + 1 : Nat) : Int) = (i : Int) + 1 by omega]; exact he'
    · have hb2 : b < s.heap.objs.size := by
        rcases (show b = e ∨ b = it by simpa using hb) with z | z
        · rw [z]; exact hel
        · rw [z]; exact hil
      rw [upd_ne (Nat.ne_of_lt hb2)]
      exact (hf b hb).1
  done := by
    intro X hP hw hK hc i pins s σ H E I hf st hg
    subst hP hw hK
    obtain ⟨⟨old, he⟩, hit, hne⟩ := st
    obtain ⟨xs, hq, hx⟩ := hg
    obtain ⟨its, rv, pt, _⟩ := I.tuple hq
    obtain ⟨f0, f1, f2, f3, f4, f5⟩ := hf it (by simp)
    have hl := rv.length
    have hn : i = its.toArray.size := by simp; omega
    subst hn
    have D := Draws.tuple (prog := X.prog) (w := X.w) (A := X.A.in1) (show X.A.in1.handled = none from I.ok.hd hc) it a hai its.toArray
    exact wpAny_pyNext_enum_endD D he ⟨hit, pt⟩ fun hn eb => ⟨rfl, I.turned (t' := s.toks) (fun b u hb q => eb b u hb q) f0 f1 f3 f4 f5⟩
  self := fun A i s Q E st h => let ⟨⟨_, he⟩, _⟩ := st; wpAny_pyIter_enum he h
def iEnT (K : PySem.W.Frag) (ta : TA) : TI := fun σ H R => ta σ H fun vs H1 => ∃ a xs, vs = [.ref a] ∧ SqT K H1 a xs ∧ R (IteT K a) H1
theorem pi_enT {X : Cx} {e : Expr} {ta : TA} {p pos tpos : Pos} {elts : List Expr} {kk : Nat} (hg : Gl X "enumerate") (hm : X.mg "enumerate" = none) (ha : PA X [e] ta) (hs : starEach [e] X.env = [(false, eval e X.env)] := by rfl) :
    PI X (.Tuple elts kk tpos) (.Call (.Name "enumerate" p) [e] [] pos) (iEnT X.K ta) := by
  refine ⟨fun pins s σ H R I h => Call_ (ld_blt I hg hm boot_enumerate (PyProof.Rows.callWith_type1 (thn (ha.run pos pins s σ H _ I h) fun us s1 ⟨vs, H1, I1, r1, q1⟩ => ?_) hs rfl))⟩
  obtain ⟨a, xs, ex, hq, q⟩ := q1
  subst ex
  cases r1 with
  | cons r rr =>
    cases rr
    cases r
    obtain ⟨its, rv, pt, hz⟩ := I1.tuple hq
    have hal : a < s1.heap.objs.size := by obtain ⟨o, ho, _⟩ := id pt; exact Heap.lt_size ho
    refine call1 (begins_tuple a its.toArray) pt fun hn he hit hsz hk => wpAny_pyIter_enum he ?_
    have I2 : Inv X pins σ H1 { s1 with heap := hn } := I1.kept (t' := s1.toks) hk
    refine ⟨s1.heap.objs.size + 1, [s1.heap.objs.size + 1, s1.heap.objs.size], _, _, H1, rfl, I2, turnT a (s1.heap.objs.size + 1) s1.heap.objs.size (Nat.ne_of_lt hal) (Ne.symm (Nat.ne_of_lt (Nat.lt_succ_of_lt hal))), ⟨⟨.none, he⟩, ⟨_, hit, rfl, rfl⟩, Nat.succ_ne_self _⟩, fun b hb => ?_, q⟩
    have hle : s1.heap.objs.size ≤ b := by
      rcases (show b = s1.heap.objs.size + 1 ∨ b = s1.heap.objs.size by simpa using hb) with z | z
      · rw [z]; exact Nat.le_add_right _ _
      · rw [z]; exact Nat.le_refl _
    exact I1.fpOk hle (I1.hok.fresh hle)
theorem walkT {K : PySem.W.Frag} {a : Addr} {xs : List V} : Walk (IteT K a) xs.length (fun H => SqT K H a xs) (YPair (fun i => some (.int (i : Nat))) (fun i => xs[i]?)) := by
  refine ⟨fun i _ hi q => ⟨xs, xs[i], q, by simp [hi]⟩, fun _ q => ⟨xs, q, rfl⟩, fun i H v H' _ q y => ?_⟩
  obtain ⟨T, x, z1, z2, z3, z4⟩ := y
  exact ⟨T, .int (i : Nat), x, z1, z2, z3, rfl, z4 xs q⟩
end Et
/-! len(set(x)), x a list or a tuple of texts. -/
namespace Su
open PySem PySem.Spec PyProof.Rows L2
open Mi (uqN)
theorem uqN_le {α : Type} [BEq α] : ∀ (r pre : List α), uqN pre r ≤ r.length
  | [], _ => Nat.le_refl _
  | x :: r, pre => by
    have := uqN_le r (pre ++ [x])
    rw [uqN, List.length_cons]
    split <;> omega
section
variable {prog : Program} {w : World} {A : Around} {R : Result → Shared → Prop} {I : Addr} {fp wr : List Addr} {G : Array GenState → Array GenState → Prop} {n : Nat} {P : Nat → Value → Prop} {St : Nat → Shared → Prop}
theorem loopU (W : WalksS prog w A.in1 I fp wr G n P St) (a : Addr) (hfr : a ∉ fp) (xs : List Str) (hsz : xs.length = n) (hn : n < 1001)
    (hval : ∀ i v, P i v → ∃ t, v = .str (xs.getD i Str.empty) t) :
    ∀ (k i c : Nat) (s : Shared), n - i = k → i ≤ n → c ≤ i → c + uqN (xs.take i) (xs.drop i) = uqN [] xs → St i s → s.heap.SetOf (PySem.strKind prog w) a (fun z => (xs.take i).any (· == z)) c →
      (∀ s', Moved (a :: wr) G s s' → s'.heap.SetOf (PySem.strKind prog w) a (fun z => xs.any (· == z)) (uqN [] xs) → R (.ok (.ret .none)) s') →
      codeAny (model prog w) A (.builtin "set.update.loop" ⟨[.ref a, .ref I], []⟩) R s := by
  have hwr : a ∉ wr := fun h => hfr (W.sub _ h)
  have hall : ∀ b ∈ wr, b ∈ a :: wr := fun b hb => List.mem_cons_of_mem _ hb
  intro k
  induction k with
  | zero =>
    intro i c s hk hi hci hc hst hS hR
    have hin : i = n := by omega
    subst hin
    refine codeAny_builtin PyProof.Rows.F.entry_set_update_loop (by
      rw [Around.under_plainId PyProof.Rows.F.plain_set_update_loop _]
      show wpAny _ A.in1 (pyNext (.ref I) >>= _) _ _ s
      refine wpAny_bind (W.done s _ _ hst fun s2 hm => ?_)
      show wpAny _ A.in1 (ret Value.none) _ _ s2
      refine wpAny_pure (hR s2 (hm.mono hall) ?_)
      rw [← hsz, List.drop_length, uqN, Nat.add_zero] at hc
      rw [← hc]
      obtain ⟨o, es, ep, tt, ho, rest⟩ := hS
      rw [← hsz, List.take_length] at rest
      exact ⟨o, es, ep, tt, hm.heap a _ hwr ho, rest⟩)
  | succ k ih =>
    intro i c s hk hi hci hc hst hS hR
    have hlt : i < n := by omega
    refine codeAny_builtin PyProof.Rows.F.entry_set_update_loop (by
      rw [Around.under_plainId PyProof.Rows.F.plain_set_update_loop _]
      show wpAny _ A.in1 (pyNext (.ref I) >>= _) _ _ s
      refine wpAny_bind (W.item i s _ _ hlt hst fun v s2 hP hst2 hm => ?_)
      obtain ⟨t, rfl⟩ := hval i v hP
      have hS2 : s2.heap.SetOf (PySem.strKind prog w) a (fun z => (xs.take i).any (· == z)) c := by
        obtain ⟨o, es, ep, tt, ho, rest⟩ := hS
        exact ⟨o, es, ep, tt, hm.heap a _ hwr ho, rest⟩
      have hx : i < xs.length := by omega
      have eg : xs.getD i Str.empty = xs[i] := by simp [List.getD, hx]
      have et : xs.take (i + 1) = xs.take i ++ [xs[i]] := by rw [List.take_succ_eq_append_getElem hx]
      have ed : xs.drop i = xs[i] :: xs.drop (i + 1) := List.drop_eq_getElem_cons hx
      rw [eg]
      show wpAny _ A.in1 (holding [Value.str xs[i] t] (setAdd a (.str xs[i] t)) >>= _) _ _ s2
      refine wpAny_bind (wpAny_holding ?_)
      unfold setAdd
      refine wpAny_holding (wpAny_bind ((PySem.strKind prog w).pyHash (k := xs[i]) (strKind_is _ _ _ _) ?_))
      refine wpAny_setAddHashed_of (knd := PySem.strKind prog w) (s := { s2 with toks := s2.toks + 1 }) (strKind_is _ _ _ _) rfl hS2 (by unfold scanBound; omega) fun h3 hsb hS3 => ?_
      have hSi : h3.SetOf (PySem.strKind prog w) a (fun z => (xs.take (i + 1)).any (· == z)) (if (xs.take i).any (· == xs[i]) then c else c + 1) := by
        refine SetOf_congr hS3 (fun z => ?_) rfl
        rw [et, List.any_append]
        congr 1
        by_cases e : z = xs[i]
        · subst e; simp
        · have hb : (xs[i] == z) = false := by simpa [beq_iff_eq] using (fun q : xs[i] = z => e q.symm)
          simp [hb, e]
      refine wpAny_pure ⟨plainId_quiet PyProof.Rows.F.plain_set_update_loop _, ih (i + 1) (if (xs.take i).any (· == xs[i]) then c else c + 1) _ (by omega) hlt (by split <;> omega) ?_ (W.frame _ s2 _ _ hst2 (Nat.le_succ _) fun b hb o e => ?_) hSi fun s4 hm4 hS4 => ?_⟩
      · rw [ed, uqN] at hc
        rw [et]
        split at hc <;> rename_i q
        · rw [if_pos q]; omega
        · rw [if_neg q]; omega
      · rw [hsb.2 b (fun q : b = a => hfr (by rw [← q]; exact hb))]; exact e
      · refine hR s4 (Moved.trans W.gtrans ((hm.mono hall).then_heap (Nat.le_succ _) fun b o hb e => ?_) hm4) hS4
        rw [hsb.2 b (fun q : b = a => hb (by rw [q]; exact List.mem_cons_self))]; exact e)
end
section
variable {prog : Program} {w : World} {A : Around} {E : Value → Shared → Prop} {s : Shared}
/-- a set that was just made, empty -/
abbrev mt (ld : Bool) : Obj := { cls := .type "set", dict := none, data := .set #[] 0 (.fresh 0 0 ld) }
theorem callU {T : String} {l : Addr} {items : Array Value} {oit : Obj} {dct : Option Addr} {nn : Nat} {sls : Array (Option Value)} {HH : Heap → Prop} {StH : Addr → Nat → Heap → Prop} {xs : List Str} {Q : Value → Shared → Prop}
    (hT1 : isSubtype (.type T) (.type "set") = pure false) (hT2 : isSubtype (.type T) (.type "frozenset") = pure false) (hT3 : (Value.type T == Value.type "dict") = false)
    (hl : s.heap.get? l = some { cls := .type T, dict := dct, data := .seq items nn, slots := sls }) (B : Begins (.ref l) oit HH) (hB : HH s.heap)
    (WW : ∀ it : Addr, l ≠ it → Walks prog w A.in1.in1.in1 it [it, l] [it] items.size (fun i v => items[i]? = some v) (StH it)) (hst0 : ∀ h : Heap, ∀ it : Addr, h.get? it = some oit → (∀ b o, s.heap.get? b = some o → h.get? b = some o) → StH it 0 h)
    (hi : StrsAre items.toList xs) (hn1 : xs.length ≤ 1000)
    (h : ∀ (h2 : Heap) (tk : Nat), h2.SetOf (PySem.strKind prog w) s.heap.objs.size (fun z => xs.any (· == z)) (uqN [] xs) → (∀ b o, b < s.heap.objs.size → s.heap.get? b = some o → h2.get? b = some o) → Q (.ref s.heap.objs.size) { s with heap := h2, toks := tk }) :
    wpAny (model prog w) A (call (.type "set") [.ref l]) Q E s := by
  obtain ⟨cc, tl, hmro⟩ := PySem.F.called_set.mro
  have g1 := PySem.F.called_set.made
  have g2 := PySem.F.called_set.sub
  refine wpAny_call (codeAny_of_tree (show wpAny _ _ (callAny (.type "set") _) _ _ _ from ?_))
  refine wpAny_pure ⟨Code.quiet_builtin _ (by decide +kernel), codeAny_builtin PySem.F.entry_type_call (by
    rw [Around.under_plain (weight_type_call_type "set" [.ref l] []) rfl]
    have g3 := PySem.F.called_set.notType
    have g4 := PySem.F.called_set.canCreate
    have g5 := PySem.F.typeCall_set_1 (.ref l)
    repeat (any_goals (first | assumption | wp_step))
    refine codeAny_mono (code_set_new_1 (.ref l) (E := E) (Q₁ := fun ob s1 => ∃ ld : Bool, ob = .ref s.heap.objs.size ∧ s1 = { s with heap := s.heap.push (mt ld) }) fun ld => ⟨ld, rfl, rfl⟩) fun r s1 hr => ?_
    cases r with
    | error e => exact hr
    | ok fl =>
      cases fl with
      | ret ob =>
        obtain ⟨ld, rfl, rfl⟩ := hr
        have hS : (s.heap.push (mt ld)).get? s.heap.objs.size = some (mt ld) := Heap.get?_push_size _ rfl
        have hTy : Shared.TypeIs { s with heap := s.heap.push (mt ld) } (.ref s.heap.objs.size) "set" := ⟨_, hS, rfl⟩
        have g6 := PySem.F.called_set.init.lookup
        have g7 := PySem.F.called_set.init.bind (.ref s.heap.objs.size)
        repeat (any_goals (first | assumption | wp_step))
        refine codeAny_mono (codeAny_call_builtin (R := wants (fun r s2 => r = .none ∧ ∃ h2 tk, s2 = { s with heap := h2, toks := tk } ∧ h2.SetOf (PySem.strKind prog w) s.heap.objs.size (fun z => xs.any (· == z)) (uqN [] xs) ∧
          (∀ b o, b < s.heap.objs.size → s.heap.get? b = some o → h2.get? b = some o)) E) PySem.F.called_set.init.plain PySem.F.entry_set_init (check_set_init_1 hTy ?_)) fun r2 s2 hr2 => ?_
        · have hol : (s.heap.push (mt ld)).get? l = some { cls := .type T, dict := dct, data := .seq items nn, slots := sls } := Heap.get?_push_of_some _ hl
          unfold Builtin.«set.__init__»
          unfold noKeywords Builtin.Frozenset.updateFrom
          generalize hPI : pyIter = PI
          wp_walk
          subst hPI
          refine B.iter prog w _ _ _ _ (B.keeps _ _ hB fun b o e => Heap.get?_push_of_some _ e) (wpAny_bind (wpAny_runValue ?_))
          have hlS : l < s.heap.objs.size := Heap.lt_size hl
          have hneI : l ≠ (s.heap.push (mt ld)).objs.size := by
            rw [Heap.size_push]; exact Nat.ne_of_lt (Nat.lt_succ_of_lt hlS)
          have hfr : s.heap.objs.size ∉ [(s.heap.push (mt ld)).objs.size, l] := by
            rw [Heap.size_push]
            simp only [List.mem_cons, List.not_mem_nil, or_false, not_or]
            exact ⟨Nat.ne_of_lt (Nat.lt_succ_self _), Nat.ne_of_gt hlS⟩
          have hsz : xs.length = items.size := by rw [← StrsAre.len_eq hi, Array.length_toList]
          have hval : ∀ (i : Nat) (v : Value), items[i]? = some v → ∃ t, v = .str (xs.getD i Str.empty) t := fun i v hv => SS.strs_at hi i v (by rw [Array.getElem?_toList]; exact hv)
          refine loopU ((WW _ hneI).toS) s.heap.objs.size hfr xs hsz (by omega) hval (items.size - 0) 0 0 _ (by omega) (Nat.zero_le _) (Nat.le_refl _) (by simp) (hst0 _ _ (Heap.get?_push_size _ B.free) fun b o e => Heap.get?_push_of_some _ (Heap.get?_push_of_some _ e)) ?hS0 ?hR
          case hS0 =>
            have hget : ((s.heap.push (mt ld)).push oit).get? s.heap.objs.size = some (mt ld) := Heap.get?_push_of_some _ hS
            exact PyProof.Rows.SetOf_congr ((PyProof.Rows.setObjOf_fresh (knd := PySem.strKind prog w) ld).setOf hget (by unfold scanBound; omega)) (fun _ => rfl) rfl
          case hR =>
            intro s3 hm hS3
            obtain ⟨h3, g3', d3, tk3, os3⟩ := s3
            obtain rfl : g3' = s.gens := hm.gens
            obtain rfl : d3 = s.drawn := hm.drawn
            obtain rfl : os3 = s.os := hm.os
            show wpAny _ _ _ _ _ _
            refine wpAny_pure (show wpAny _ _ (ret Value.none) _ _ _ from wpAny_pure ⟨rfl, h3, tk3, rfl, hS3, fun b o hb e => ?_⟩)
            have hb2 : b ≠ (s.heap.push (mt ld)).objs.size := by rw [Heap.size_push]; exact Nat.ne_of_lt (Nat.lt_succ_of_lt hb)
            refine hm.heap b o ?_ (Heap.get?_push_of_some _ (Heap.get?_push_of_some _ e))
            simp only [List.mem_cons, List.not_mem_nil, or_false, not_or]
            exact ⟨Nat.ne_of_lt hb, hb2⟩
        · cases r2 with
          | error e => exact hr2
          | ok fl2 =>
            cases fl2 with
            | ret r =>
              obtain ⟨rfl, h2, tk, rfl, hS2, hk2⟩ := hr2
              repeat (any_goals (first | assumption | wp_step))
              exact h _ _ hS2 hk2
            | _ => exact hr2.elim
      | _ => exact hr.elim)⟩
end
section
variable {X : Cx}
def tLS (K : PySem.W.Frag) (ta : TE) : TE := fun σ H Q => ta σ H fun x H1 => ∃ l, ∃ xs : List Str, x = .ref l ∧ (SqL K H1 l (xs.map V.str) ∨ SqT K H1 l (xs.map V.str)) ∧ xs.length ≤ 1000 ∧ Q (.int (uqN [] xs : Nat)) H1
theorem pe_LS {y : Expr} {ta : TE} {p1 p2 q1 q2 : Pos} (hc : X.calm = true) (hg : Gl X "len") (hm : X.mg "len" = none) (hg2 : Gl X "set") (hm2 : X.mg "set" = none) (ha : PE X y ta)
    (na : starEach [y] X.env = (false, eval y X.env) :: starEach [] X.env) : PE X (.Call (.Name "len" p1) [.Call (.Name "set" p2) [y] [] q1] [] q2) (tLS X.K ta) := by
  refine ⟨fun pins s σ H Q I h => Call_ (ld_blt I hg hm boot_len (PyProof.Rows.callWith_builtin1 (PyProof.Rows.args_cons (Call_ (ld_blt I hg2 hm2 boot_set ?_)) rfl) rfl rfl))⟩
  refine PyProof.Rows.callWith_type1 (PyProof.Rows.args_cons (thn (ha.run pins s σ H _ I h) fun v s1 ⟨x, H1, I1, r1, q1⟩ => PyProof.Rows.args_nil ?_) na) na rfl
  obtain ⟨l, xs, rfl, hq, h1, q1⟩ := q1
  cases r1
  have fin : ∀ (h2 : Heap) (tk : Nat), h2.SetOf (PySem.strKind X.prog X.w) s1.heap.objs.size (fun z => xs.any (· == z)) (uqN [] xs) → (∀ b o, b < s1.heap.objs.size → s1.heap.get? b = some o → h2.get? b = some o) →
      wpAny (model X.prog X.w) X.A (spliced (backTo q2 (starEach [] X.env))) (fun vs s2 => wpAny (model X.prog X.w) X.A (call (.builtin "len") (Value.ref s1.heap.objs.size :: vs)) (EP X pins σ Q) X.xe s2) X.xe { s1 with heap := h2, toks := tk } := fun h2 tk hS hk => by
    refine PyProof.Rows.args_nil ?_
    have hu := uqN_le xs []
    obtain ⟨o, es, ep, tt, ho, hex, hd, _, _, _, hf, hn⟩ := hS
    have I2 : Inv X pins σ H1 { s1 with heap := h2, toks := tk } := I1.kept fun b o e => hk b o (Heap.lt_size e) e
    refine call_len_set ho hex hd hf (by rw [hn] <;> omega) ⟨.int (uqN [] xs : Nat), H1, I2.tok _, ⟨_, by rw [hn]⟩, q1⟩
  have hh : X.A.handled = none := I1.ok.hd hc
  have hh3 : X.A.in1.in1.in1.handled = none := by simp [hh]
  rcases hq with hq | hq
  · obtain ⟨its, r, pl, hz⟩ := I1.list hq
    obtain ⟨⟨c0, d0, dt0, sl0⟩, ho, hcl, nn, hd⟩ := pl.isList
    replace hcl : c0 = .type "list" := hcl
    replace hd : dt0 = .seq its.toArray nn := hd
    subst hcl hd
    exact callU PySem.F.sub_list_set PySem.F.sub_list_frozenset (by decide) ho (begins_list l its.toArray) pl.isList (fun it hne => Walks.list hh3 it l hne its.toArray) (fun h it e k => ⟨⟨_, e, rfl, rfl⟩, pl.isList.at fun o e => k l o e⟩) (by simpa using strsAre_of r) h1 fin
  · obtain ⟨its, r, pt, hz⟩ := I1.tuple hq
    obtain ⟨⟨c0, d0, dt0, sl0⟩, ho, hcl, nn, hd⟩ := id pt
    replace hcl : c0 = .type "tuple" := hcl
    replace hd : dt0 = .seq its.toArray nn := hd
    subst hcl hd
    have pt : s1.heap.IsTuple l its.toArray := pt
    exact callU PySem.F.sub_tuple_set PySem.F.sub_tuple_frozenset (by decide) ho (begins_tuple l its.toArray) pt (fun it hne => Walks.tuple hh3 it l hne its.toArray) (fun h it e k => ⟨⟨_, e, rfl, rfl⟩, pt.at fun o e => k l o e⟩) (by simpa using strsAre_of r) h1 fin
end
end Su
/-! Methods and classes called where what is raised is wished for at the caller's slots. -/
namespace Mo
open PySem PySem.Spec PyProof.Rows L2
section
variable {X : Cx} {cx : CXT} {kk : Nat} {fa C : Addr} {fd : FuncData} {ps : List Str} {sp : Sp} {ee : L2.St → XK} {nm mm : Str} {p1 ap cp : Pos} {oo y : Expr} {ys : List Expr} {to : TE} {ta : TA} {dvs : List V} {dus : List Value}
/-- o.m(..): its object, then its arguments, then what m promises -/
def tMS (C : Addr) (mm : Str) (sp : Sp) (ee : L2.St → XK) (to : TE) (ta : TA) : TE := fun σ H Q => to σ H fun x H1 => ∃ a dx fs, x = .ref a ∧ H1 a = some (.ins C dx fs) ∧ fs.lookup mm = none ∧ ta σ H1 fun vs H2 => sp (x :: vs) H2 Q (ee σ)
theorem pe_mS (ho : PE X oo to) (c : Cls X.K C) (hm : Meth X.K C mm fa) (F : FnOk X.prog X.w X.K X.mg X.base cx kk fa fd ps sp) (hr : Room kk X.A) (hb : Binds X.K fd ps []) (hx : ∀ σ, PassesAt cx X σ (ee σ)) (ha : PA X (y :: ys) ta)
    (hbase : attributeBase oo mm X.env (eval oo X.env) = eval oo X.env) (hform : methodCallForm ((y :: ys).length + ([] : List Keyword).length) (backTo cp (starEach (y :: ys) X.env)) (backToKw cp (keywordEach [] X.env)) = true) (hline : (ap.endLine == cp.line) = true)
    (hs1 : starEach (y :: ys) X.env = (false, eval y X.env) :: starEach ys X.env) (hs2 : (backTo cp (starEach ys X.env)).any (·.1) = false) :
    PE X (.Call (.Attribute oo mm ap) (y :: ys) [] cp) (tMS C mm sp ee to ta) := by
  refine ⟨fun pins s σ H Q I h => ?_⟩
  rw [arm_eval_Call, hbase]
  refine wpAny_bind (thn (ho.run pins s σ H _ I h) fun u s1 ⟨x, H1, I1, rx, a, dx, fs, ex, ea, l, q⟩ => ?_)
  subst ex
  obtain rfl : u = Value.ref a := rx
  have hp2 : methodCallPos true oo X.env ap cp = pure cp := by unfold methodCallPos; simp [hline]
  unfold methodCall
  rw [hform]
  refine wpAny_bind (wpAny_standAt (wpAny_bind (wpAny_holding (getmeth_ok I1 ea c hm l (wpAny_bind (wpAny_of_eq hp2 ?_))))))
  refine PySem.W.callWith_K (first := [.ref a]) (h₀ := X.base) I.ok.mod.kin hm.kp (thn (ha.run cp pins s1 σ H1 _ I1 q) fun us s2 ⟨vs, H2, I2, r, q2⟩ => ⟨I2.kIn, ?_⟩) hs1 hs2
  exact run_fnS (us := .ref a :: us) (vs := .ref a :: vs) F hr hb (hx σ) I2 (.cons rfl r) q2
theorem pe_mS0 (ho : PE X oo to) (c : Cls X.K C) (hm : Meth X.K C mm fa) (F : FnOk X.prog X.w X.K X.mg X.base cx kk fa fd ps sp) (hr : Room kk X.A) (hb : Binds X.K fd ps []) (hx : ∀ σ, PassesAt cx X σ (ee σ))
    (hbase : attributeBase oo mm X.env (eval oo X.env) = eval oo X.env) (hline : (ap.endLine == cp.line) = true) :
    PE X (.Call (.Attribute oo mm ap) [] [] cp) (tMS C mm sp ee to tNil) := by
  refine ⟨fun pins s σ H Q I h => ?_⟩
  rw [arm_eval_Call, hbase]
  refine wpAny_bind (thn (ho.run pins s σ H _ I h) fun u s1 ⟨x, H1, I1, rx, a, dx, fs, ex, ea, l, q⟩ => ?_)
  subst ex
  obtain rfl : u = Value.ref a := rx
  have hp2 : methodCallPos true oo X.env ap cp = pure cp := by unfold methodCallPos; simp [hline]
  have hform : methodCallForm (([] : List Expr).length + ([] : List Keyword).length) (backTo cp (starEach [] X.env)) (backToKw cp (keywordEach [] X.env)) = true := rfl
  unfold methodCall
  rw [hform]
  refine wpAny_bind (wpAny_standAt (wpAny_bind (wpAny_holding (getmeth_ok I1 ea c hm l (wpAny_bind (wpAny_of_eq hp2 ?_))))))
  exact PySem.W.callWith_K0 (first := [.ref a]) I1.kIn hm.kp (run_fnS (us := [.ref a]) (vs := [.ref a]) F hr hb (hx σ) I1 (.cons rfl .nil) q)
/-- C(..) -/
def tKS (C : Addr) (sp : Sp) (dvs : List V) (ee : L2.St → XK) (ta : TA) : TE := fun σ H Q => ta σ H fun vs H1 => ∀ x dx, H1 x = none → H1 dx = none → dx ≠ x →
  sp (.ref x :: (vs ++ dvs)) (upd (upd H1 dx (.own x)) x (.ins C dx [])) (fun v H2 => v = .non ∧ Q (.ref x) H2) (ee σ)
theorem run_mkS {pins : List (Addr × Obj)} {σ : L2.St} {H : Hp} {s : Shared} {Q : VK} {us : List Value} {vs : List V} (M : Mk X.K C fa) (F : FnOk X.prog X.w X.K X.mg X.base cx kk fa fd ps sp) (hr : Room (kk + 1) X.A) (hb : Binds X.K fd ps dus) (hd : Vals dvs dus)
    (hx : PassesAt cx X σ (ee σ)) (I : Inv X pins σ H s) (r : Vals vs us)
    (h : ∀ x dx, H x = none → H dx = none → dx ≠ x → sp (.ref x :: (vs ++ dvs)) (upd (upd H dx (.own x)) x (.ins C dx [])) (fun v H2 => v = .non ∧ Q (.ref x) H2) (ee σ)) :
    wpAny (model X.prog X.w) X.A (call (.ref C) us) (EP X pins σ Q) X.xe s := by
  have hq := h (s.heap.objs.size + 1) s.heap.objs.size (I.hok.fresh (Nat.le_succ _)) (I.hok.fresh (Nat.le_refl _)) (Nat.ne_of_lt (Nat.lt_succ_self _))
  have I2 := Inv.made (C := C) I
  have r2 : Vals (V.ref (s.heap.objs.size + 1) :: (vs ++ dvs)) (Value.ref (s.heap.objs.size + 1) :: (us ++ dus)) := .cons rfl (r.append hd)
  have hl : (Value.ref (s.heap.objs.size + 1) :: us ++ dus).length = ps.length := r2.length.symm.trans (F.len _ _ _ _ hq)
  refine wpAny_call (make_map (f := fa) I.kIn M.makes M.init (beq_iff_eq.mp M.fn) (codeAny_mono (F.run _ X.stack _ _ ⟨Value.ref (s.heap.objs.size + 1) :: us, []⟩ (Value.ref (s.heap.objs.size + 1) :: (us ++ dus)) _ _ (ee σ) (hr.make C us [])
    (I2.env0.make C us []) (hb _ (Value.ref (s.heap.objs.size + 1) :: us) I2.kIn hl) r2 hq) fun rr s' hq' => ?_))
  cases rr with
  | error e => exact hx pins _ _ e s' I2 hq'
  | ok fl =>
    cases fl with
    | ret u =>
      obtain ⟨v, H', I3, rv, ev, q3⟩ := I2.after hq'
      subst ev
      exact ⟨rv, ⟨V.ref (s.heap.objs.size + 1), H', I3, rfl, q3⟩⟩
    | next => exact hq'.elim
    | brk => exact hq'.elim
    | cont => exact hq'.elim
theorem pe_kS (M : Mk X.K C fa) (F : FnOk X.prog X.w X.K X.mg X.base cx kk fa fd ps sp) (hr : Room (kk + 1) X.A) (hg : Gl X nm) (hm : X.mg nm = some (.ref C)) (hb : Binds X.K fd ps dus) (hd : Vals dvs dus) (hx : ∀ σ, PassesAt cx X σ (ee σ))
    (ha : PA X (y :: ys) ta) (hdb : (nm == ("__debug__" : Str)) = false) (hs1 : starEach (y :: ys) X.env = (false, eval y X.env) :: starEach ys X.env) (hs2 : (backTo cp (starEach ys X.env)).any (·.1) = false) :
    PE X (.Call (.Name nm p1) (y :: ys) [] cp) (tKS C sp dvs ee ta) := by
  refine ⟨fun pins s σ H Q I h => wpAny_Call_Name_kw (ld_glob I hg hm ?_ hdb)⟩
  refine PySem.W.callWith_K (h₀ := X.base) I.ok.mod.kin M.kp (thn (ha.run cp pins s σ H _ I h) fun us s1 ⟨vs, H1, I1, r, q⟩ => ⟨I1.kIn, ?_⟩) hs1 hs2
  exact run_mkS M F hr hb hd (hx σ) I1 r q
end
end Mo
/-! Tuples that are made here: the object is known (it has no dict of its own), so that their methods can be called. x[::-1], x a list or a tuple. -/
namespace Rt
open PySem PySem.Spec PyProof.Rows L2
section
variable {prog : Program} {w : World} {A : Around} {E : Value → Shared → Prop} {s : Shared}
theorem applied {sl : Addr} {vl vu vs : Value} {n : Nat} {Q : Int × Int × Nat → Shared → Prop} (hs : s.heap.IsSliceOf sl vl vu vs) (pl : IsPart vl none) (pu : IsPart vu none) (ps : IsPart vs (some (-1)))
    (h : Q ((n : Int) - 1, -1, n) s) : wpAny (model prog w) A (Builtin.Slice.sliceApplied (.ref sl) (pure (n : Int))) Q E s := by
  obtain ⟨os, hos, hcs, hds⟩ := id hs
  unfold Builtin.Slice.sliceApplied Builtin.Slice.sliceFields
  refine wpAny_bind (wpAny_bind (wpAny_field hos hds (x := vl) rfl (wpAny_bind (wpAny_field hos hds (x := vu) rfl (wpAny_bind (wpAny_field hos hds (x := vs) rfl (wpAny_pure ?_)))))))
  refine wpAny_bind (HT.slicePart_ ps ?_)
  show wpAny _ _ (if ((-1 : Int) == 0) = true then _ else _) _ _ s
  rw [if_neg (by decide)]
  refine wpAny_bind (HT.slicePart_ pl (wpAny_bind (HT.slicePart_ pu (wpAny_bind (wpAny_pure ?_)))))
  show wpAny _ _ (pure ((n : Int) - 1, (-1 : Int), Builtin.Slice.slicePlaces ((n : Int) - 1) (-1) (-1))) _ _ s
  have e : Builtin.Slice.slicePlaces ((n : Int) - 1) (-1) (-1) = n := by
    unfold Builtin.Slice.slicePlaces
    have h1 : ¬ ((-1 : Int) > 0) := by omega
    simp only [h1, if_false]
    have h2 : (- (-1 : Int)) = 1 := by omega
    rw [h2, Int.ediv_one]
    split <;> omega
  rw [e]
  exact wpAny_pure h
theorem fm_congr {α β : Type} {f g : α → Option β} : ∀ {l : List α}, (∀ x ∈ l, f x = g x) → l.filterMap f = l.filterMap g
  | [], _ => rfl
  | x :: l, h => by rw [List.filterMap_cons, List.filterMap_cons, h x (List.mem_cons_self ..), fm_congr fun y hy => h y (List.mem_cons_of_mem _ hy)]
theorem pick (xs : Array Value) : ((List.range xs.size).filterMap fun (m : Nat) => xs[(((xs.size : Nat) : Int) - 1 + (m : Int) * (-1)).toNat]?).toArray = xs.toList.reverse.toArray := by
  congr 1
  have key : ∀ l : List Value, (List.range l.length).filterMap (fun m : Nat => l[(((l.length : Nat) : Int) - 1 + (m : Int) * (-1)).toNat]?) = l.reverse := by
    intro l
    have e : (List.range l.length).filterMap (fun m : Nat => l[(((l.length : Nat) : Int) - 1 + (m : Int) * (-1)).toNat]?) = (List.range l.length).filterMap (fun m => l.reverse[m]?) := by
      refine fm_congr fun m hm => ?_
      have hm := List.mem_range.mp hm
      rw [List.getElem?_reverse hm]
      congr 1
      omega
    rw [e]
    have f : ∀ r : List Value, (List.range r.length).filterMap (fun m => r[m]?) = r := by
      intro r
      induction r with
      | nil => rfl
      | cons x r ih =>
        rw [List.length_cons, List.range_succ_eq_map, List.filterMap_cons]
        simp only [List.getElem?_cons_zero, List.filterMap_map]
        congr 1
    have := f l.reverse
    rw [List.length_reverse] at this
    exact this
  have := key xs.toList
  simpa using this
theorem item {t sl : Addr} {items : Array Value} {vl vu vs : Value} {Q : Value → Shared → Prop} (ht : IsTup s.heap t items) (hs : s.heap.IsSliceOf sl vl vu vs) (pl : IsPart vl none) (pu : IsPart vu none) (ps : IsPart vs (some (-1)))
    (h : Q (.ref s.heap.objs.size) { s with heap := s.heap.push { cls := .type "tuple", data := .seq items.toList.reverse.toArray } })
    (hsz : items.size ≤ sizeLine) : wpAny (model prog w) A (getItem (.ref t) (.ref sl)) Q E s := by
  have htake : sizeOk (.seq items.toList.reverse.toArray) := by
    show items.toList.reverse.toArray.size ≤ sizeLine
    rw [List.size_toArray, List.length_reverse, Array.length_toList]
    exact hsz
  obtain ⟨os, hos, hcs, hds⟩ := id hs
  have hTs : s.TypeIs (.ref sl) "slice" := ⟨os, hos, hcs⟩
  unfold getItem
  try with_reducible refine wpAny_holding ?_
  first | refine wpAny_bind (wpAny_pure ?_) | skip
  refine wpAny_bind (wpAny_sequenceKey ht.typeIs (by decide) ?_)
  refine wpAny_bind (wpAny_callSpecial?_slot (name := Str.ofString "__getitem__") ht.typeIs PyProof.Rows.slot_tuple_getitem (wpAny_call_entry PyProof.Rows.slot_tuple_getitem ht.typeIs entry_tuple_getitem ?_ (args_tuple_getitem _ _)))
  show wpAny _ _ (Builtin.Tuple.tupleItemsOf (.ref t) >>= _) _ _ s
  refine wpAny_bind (tupleItemsOf_ ht ?_)
  refine wpAny_bind (wpAny_typeOf hTs ?_)
  rw [if_pos (by decide)]
  refine wpAny_bind (applied hs pl pu ps ?_)
  have hno : ¬ (((((items.size : Nat) : Int) - 1) == 0 && (-1 : Int) == 1 && items.size == items.size) = true) := by
    intro q
    rw [Bool.and_eq_true, Bool.and_eq_true] at q
    have q1 : (-1 : Int) = 1 := eq_of_beq q.1.2
    omega
  show wpAny _ _ (if ((((items.size : Nat) : Int) - 1) == 0 && (-1 : Int) == 1 && items.size == items.size) = true then _ else _) _ _ s
  rw [if_neg hno, pick]
  first
    | exact wpAny_bind (m := Builtin.Tuple.tupleExact _) (wpAny_newObj_type (wpAny_pure ⟨_, rfl, wpAny_pure h⟩) htake)
    | exact wpAny_bind (m := Builtin.Tuple.tupleExact _) (wpAny_newObj_type (wpAny_bind (wpAny_pure (wpAny_pure ⟨_, rfl, wpAny_pure h⟩))) htake)
    | exact wpAny_bind (wpAny_bind (m := Builtin.Tuple.tupleExact _) (wpAny_newObj_type (wpAny_pure (wpAny_pure ⟨_, rfl, wpAny_pure h⟩)) htake))
    | exact wpAny_bind (wpAny_bind (m := Builtin.Tuple.tupleExact _) (wpAny_newObj_type (wpAny_pure ⟨_, rfl, wpAny_pure h⟩) htake))
end
variable {X : Cx}
/-- a tuple's object -/
def obT (us : List Value) : Obj := { cls := .type "tuple", data := .seq us.toArray }
/-- a new tuple is laid down; if one likes, its object is known -/
def Laid (H : Hp) (xs : List V) (Q : VK) : Prop := (∀ p, H p = none → Q (.ref p) (upd H p (.tup xs))) ∨ ∀ p o, H p = none → o.dict = none → o.cls = .type "tuple" → Q (.ref p) (upd H p (.frz o (.tup xs)))
theorem lay {pins : List (Addr × Obj)} {s : Shared} {σ : L2.St} {H : Hp} {Q : VK} {xs : List V} {us : List Value} (J : Inv X pins σ H s) (q : Laid H xs Q) (r : Vals xs us) (z : xs.length ≤ sizeLine) {t : Nat} :
    EP X pins σ Q (.ref s.heap.objs.size) { s with heap := s.heap.push (obT us), toks := t } := by
  have n := J.hok.fresh (Nat.le_refl s.heap.objs.size)
  have k : ∀ b ob, s.heap.get? b = some ob → (s.heap.push (obT us)).get? b = some ob := fun b ob e => Heap.get?_push_of_some _ e
  have it : IsTup (s.heap.push (obT us)) s.heap.objs.size us.toArray := ⟨_, Heap.get?_push_size _ rfl, rfl, 0, rfl⟩
  rcases q with q | q
  · exact ⟨.ref s.heap.objs.size, _, J.laid (t' := t) (o := .tup xs) k (Nat.le_refl _) ⟨z, us, r, it⟩, rfl, q _ n⟩
  · exact ⟨.ref s.heap.objs.size, _, J.laid (t' := t) (o := .frz (obT us) (.tup xs)) k (Nat.le_refl _) ⟨Heap.get?_push_size _ rfl, z, us, r, it⟩, rfl, q _ _ n rfl rfl⟩
/-! ### (a, b, ..) -/
def tTupX (t : TA) : TE := fun σ H Q => t σ H fun xs H1 => xs.length ≤ sizeLine ∧ Laid H1 xs Q
theorem pe_tupX {es : List Expr} {t : TA} {j : Nat} {pos : Pos} (h : PA X es t) : PE X (.Tuple es j pos) (tTupX t) := by
  refine ⟨fun pins s σ H Q I hq => ?_⟩
  refine wpAny_Tuple_spliced (thn (h.run pos pins s σ H _ I hq) fun us s1 ⟨xs, H1, J, r, z, q⟩ => ⟨by rw [← r.length]; exact z, ?_⟩)
  exact lay J q r z
/-! ### tuple(x) -/
theorem call_tupX : CallR X (.type "tuple") (fun xs H Q => ∃ p ys, xs = [.ref p] ∧ ((SqL X.K H p ys ∧ Laid H ys Q) ∨ (SqT X.K H p ys ∧ Q (.ref p) H))) := by
  intro pins s σ H xs us Q I r h
  obtain ⟨p, ys, rfl, h⟩ := h
  obtain ⟨u, rfl, rx⟩ := vals1 r
  cases rx
  rcases h with ⟨hl, q⟩ | ⟨ht, q⟩
  · obtain ⟨its, rv, pl, hz⟩ := I.list hl
    have len := rv.length
    refine call_tuple_list pl.isList (fun h' kp => ?_) (by simp only [List.size_toArray] <;> omega)
    exact lay (s := { s with heap := h' }) (t := s.toks) (I.kept (t' := s.toks) kp) q rv hz
  · obtain ⟨its, rv, pl, hz⟩ := I.tuple ht
    exact call_tuple_same pl ⟨.ref p, H, I, rfl, q⟩
/-! ### t + u -/
def rCatX (K : PySem.W.Frag) : R2 := fun x y H Q => ∃ a b xs ys, x = .ref a ∧ y = .ref b ∧ SqT K H a xs ∧ SqT K H b ys ∧ xs.length + ys.length ≤ sizeLine ∧
  (xs = [] → Q (.ref b) H) ∧ (xs ≠ [] → ys = [] → Q (.ref a) H) ∧ (xs ≠ [] → ys ≠ [] → Laid H (xs ++ ys) Q)
theorem op_catX : OpR X (binaryOp .Add) (rCatX X.K) := by
  intro pins s σ H x y v u Q I rx ry h
  obtain ⟨a, b, xs, ys, rfl, rfl, ta, tb, z, k0, k1, k2⟩ := h
  cases rx
  cases ry
  obtain ⟨its, r1, p1, _⟩ := I.tuple ta
  obtain ⟨jts, r2, p2, _⟩ := I.tuple tb
  by_cases hx : xs = []
  · subst hx
    cases r1
    exact cat_tup0 p1 p2 ⟨.ref b, H, I, rfl, k0 rfl⟩
  · refine HT.cat_tup p1 p2 (fun e => hx (r1.nil_iff.mp e)) (fun e => ⟨.ref a, H, I, rfl, k1 hx (r2.nil_iff.mp e)⟩) (fun e => ?_) (by rw [← r1.length, ← r2.length]; exact z)
    exact lay (t := s.toks) I (k2 hx fun w => e (r2.nil_iff.mpr w)) (r1.append r2) (by rw [List.length_append]; exact z)
/-! ### t[lo:hi] -/
def rSlX (K : PySem.W.Frag) : V → Option Int → Option Int → Hp → VK → Prop := fun x lo hi H Q => ∃ a xs, x = .ref a ∧ SqT K H a xs ∧
  (HT.sIx xs.length 0 lo = 0 ∧ HT.sIx xs.length xs.length hi = xs.length → Q (.ref a) H) ∧ (¬ (HT.sIx xs.length 0 lo = 0 ∧ HT.sIx xs.length xs.length hi = xs.length) → Laid H (cutV xs lo hi) Q)
theorem sl_tupX : SlR X (rSlX X.K) := by
  intro pins s σ H x v vl vu lo hi sl Q I rx hs pl pu h
  obtain ⟨a, xs, rfl, hx, k1, k2⟩ := h
  cases rx
  obtain ⟨its, r, ht, hz⟩ := I.tuple hx
  have len : its.toArray.size = xs.length := by rw [List.size_toArray]; exact r.length.symm
  refine ⟨"tuple", _, PyProof.Rows.slot_tuple_getitem.lookup, ht.typeIs, ?_⟩
  by_cases hw : HT.sIx xs.length 0 lo = 0 ∧ HT.sIx xs.length xs.length hi = xs.length
  · exact getItem_tuple_whole ht hs pl pu (by rw [len]; exact hw) ⟨.ref a, H, I, rfl, k1 hw⟩
  · refine HT.getItem_tuple_cut ht hs pl pu (by rw [len]; exact hw) ?_ (by rw [len]; exact hz)
    rw [len]
    exact lay (t := s.toks) I (k2 hw) ((r.drop (HT.sIx xs.length 0 lo)).take (HT.sIx xs.length xs.length hi - HT.sIx xs.length 0 lo)) (Nat.le_trans (cutV_length xs lo hi) hz)
/-! ### x[::-1] -/
def tRev (K : PySem.W.Frag) (te : TE) : TE := fun σ H Q => te σ H fun x H1 => ∃ a xs, x = .ref a ∧ ((SqL K H1 a xs ∧ ∀ p, H1 p = none → Q (.ref p) (upd H1 p (.lst xs.reverse))) ∨ (SqT K H1 a xs ∧ Laid H1 xs.reverse Q))
theorem pe_rev {e : Expr} {te : TE} {k : Nat} {p1 p2 p3 pos : Pos} (he : PE X e te) : PE X (.Subscript e (.Slice none none (some (.UnaryOp .USub (.Constant (.int 1) k p1) p2)) p3) pos) (tRev X.K te) := by
  refine ⟨fun pins s σ H Q I h => ?_⟩
  refine Subscript_ (thn (he.run pins s σ H _ I h) fun v s1 ⟨x, H1, I1, r1, q1⟩ => ?_)
  obtain ⟨a, xs, ex, hq⟩ := q1
  subst ex
  cases r1
  have hst : PO X (some (.UnaryOp .USub (.Constant (.int 1) k p1) p2)) (tPart (tUn (rU fun i => .int (-i)) (tC (.int 1)))) := po_some (pe_un un_neg pe_int)
  refine wpAny_Slice (thn (po_none.run pins s1 σ H1 (fun o H2 => o = none ∧ H2 = H1) I1 ⟨rfl, rfl⟩) fun vl s2 ⟨l, H2, I2, pl, el, e2⟩ => ?_)
  subst el e2
  refine thn (po_none.run pins s2 σ H2 (fun o H3 => o = none ∧ H3 = H2) I2 ⟨rfl, rfl⟩) fun vu s3 ⟨u, H3, I3, pu, eu, e3⟩ => ?_
  subst eu e3
  refine thn (hst.run pins s3 σ H3 (fun o H4 => o = some (-1) ∧ H4 = H3) I3 ⟨1, rfl, -1, rfl, rfl, rfl⟩) fun vs s4 ⟨o, H4, I4, ps, eo, e4⟩ => ?_
  subst eo e4
  have I5 : Inv X pins σ H4 { s4 with heap := s4.heap.push { cls := .type "slice", data := .fields #[vl, vu, vs] } } := I4.kept (t' := s4.toks) fun b ob q => Heap.get?_push_of_some _ q
  show wpAny (model X.prog X.w) X.A (subscriptTail e (.Slice none none (some (.UnaryOp .USub (.Constant (.int 1) k p1) p2)) p3) (.ref a) (.ref s4.heap.objs.size)) (EP X pins σ Q) X.xe { s4 with heap := s4.heap.push { cls := .type "slice", data := .fields #[vl, vu, vs] } }
  rcases hq with ⟨hx, q⟩ | ⟨hx, q⟩
  · obtain ⟨its, r, ht, hz⟩ := I5.list hx
    have hlen := r.length
    refine tail_any (ops := [.ref a, .ref s4.heap.objs.size]) ht.isList.typeIs (PySem.slot_list_getitem.lookup) ?_ (by with_unfolding_all rfl)
    refine wpAny_getItem_list_slice ht.isList (Heap.IsSliceOf.new _ vl vu vs) pl pu ps (by decide) ?_ (by rw [List.size_toArray]; omega)
    rw [PySem.W.krv_pick]
    refine ⟨.ref _, _, I5.laid (t' := s4.toks) (o := .lst xs.reverse) (fun b ob q => Heap.get?_push_of_some _ q) (Nat.le_refl _) ?_, rfl, q _ (I5.hok.fresh (Nat.le_refl _))⟩
    exact ⟨by rw [List.length_reverse]; exact hz, _, 0, r.reverse, Heap.get?_push_size _ rfl⟩
  · obtain ⟨its, r, ht, hz⟩ := I5.tuple hx
    have hlen := r.length
    refine tail_any (ops := [.ref a, .ref s4.heap.objs.size]) ht.typeIs (PyProof.Rows.slot_tuple_getitem.lookup) ?_ (by with_unfolding_all rfl)
    refine item ht (Heap.IsSliceOf.new _ vl vu vs) pl pu ps ?_ (by rw [List.size_toArray]; omega)
    exact lay (s := { s4 with heap := s4.heap.push { cls := .type "slice", data := .fields #[vl, vu, vs] } }) (t := s4.toks) I5 q r.reverse (by rw [List.length_reverse]; exact hz)
/-! ### t.m(x), t a tuple whose object is known -/
/-- a tuple without a dict -/
def Bare (K : PySem.W.Frag) (H : Hp) (p : Addr) : Prop := (∃ o xs, H p = some (.frz o (.tup xs)) ∧ o.dict = none ∧ o.cls = .type "tuple") ∨ ∃ o, K.lookup p = some o ∧ o.cls = .type "tuple" ∧ o.dict = none
theorem Bare.is {pins : List (Addr × Obj)} {σ : L2.St} {H : Hp} {s : Shared} {p : Addr} (I : Inv X pins σ H s) (b : Bare X.K H p) : s.TypeIs (.ref p) "tuple" ∧ ∀ a, Value.ref p = .ref a → ∃ ob, s.heap.get? a = some ob ∧ ob.dict = none := by
  rcases b with ⟨o, xs, h, hd, hc⟩ | ⟨o, h, hc, hd⟩
  · obtain ⟨e, _⟩ := I.hok p _ h
    refine ⟨⟨o, e, hc⟩, fun a z => ?_⟩
    cases z
    exact ⟨o, e, hd⟩
  · refine ⟨⟨o, I.kIn p o h, hc⟩, fun a z => ?_⟩
    cases z
    exact ⟨o, I.kIn _ o h, hd⟩
def tBMT (K : PySem.W.Frag) (r : V → List V → Hp → VK → Prop) (to : TE) (t : TA) : TE := fun σ H Q => to σ H fun x H1 => ∃ p, x = .ref p ∧ Bare K H1 p ∧ t σ H1 fun xs H2 => r x xs H2 Q
theorem pe_bmT {o e : Expr} {es : List Expr} {to : TE} {t : TA} {name : Str} {ap cp : Pos} {id : String} {r : V → List V → Hp → VK → Prop} (pa : PlainAttrs "tuple") (slot : Slot "tuple" name id) (hty : typeOf (.builtin id) = pure (.type "method_descriptor")) (hm : MtR X id r) (ho : PE X o to) (ha : PA X (e :: es) t)
    (hb : attributeBase o name X.env (eval o X.env) = eval o X.env)
    (hf : ((backTo cp (starEach (e :: es) X.env)).all (fun x => !x.1) && (backToKw cp (keywordEach [] X.env)).all (fun x => x.1.isSome)
      && decide ((e :: es).length + ([] : List Keyword).length + (if ([] : List Keyword).isEmpty then 0 else 1) < 30)) = true)
    (hl : (ap.endLine == cp.line) = true) (hs : starEach (e :: es) X.env = (false, eval e X.env) :: starEach es X.env) (hp : (backTo cp (starEach es X.env)).any (·.1) = false) :
    PE X (.Call (.Attribute o name ap) (e :: es) [] cp) (tBMT X.K r to t) := by
  refine ⟨fun pins s σ H Q I h => ?_⟩
  refine wpAny_Call_method_late hb hf hl rfl (thn (ho.run pins s σ H _ I h) fun v s1 ⟨x, H1, J, rx, p, ex, b, q1⟩ => ?_)
  subst ex
  cases rx
  obtain ⟨h1, h2⟩ := b.is J
  refine ⟨"tuple", id, pa, slot, hty, h1, h2, ?_⟩
  have hA := ha.run cp pins s1 σ H1 _ J q1
  rw [hs] at hA ⊢
  have np : ((false, eval e X.env) :: backTo cp (starEach es X.env)).any (·.1) = false := by show (false || _) = false; rw [hp]; rfl
  exact Calls.callWith_builtin np (Calls.evalArgs_plain (thn hA fun us s2 ⟨vs, H2, J2, r2, q2⟩ => hm pins s2 σ H2 (.ref p) vs (.ref p) us Q J2 rfl r2 q2))
end Rt
/-! Mini: how data, the store and the slots lie in the layer's heap. -/
namespace Mi
open PySem (Str Addr Value Expr Stmt Scope)
open L2 (V Hp HO Key upd Rd SqL SqT)

/-! ### heaps that grow -/
structure Ext (m : List Addr) (H : Hp) (m' : List Addr) (H' : Hp) : Prop where
  pre : ∃ l, m' = m ++ l ∧ ∀ a ∈ l, H a = none
  keep : ∀ a o, a ∉ m → H a = some o → H' a = some o
  live : ∀ a, H a ≠ none → H' a ≠ none
theorem Ext.refl (m : List Addr) (H : Hp) : Ext m H m H := ⟨⟨[], by simp, by simp⟩, fun _ _ _ h => h, fun _ h => h⟩
theorem Ext.sub {m m' : List Addr} {H H' : Hp} (e : Ext m H m' H') {a : Addr} (h : a ∈ m) : a ∈ m' := by
  obtain ⟨l, rfl, _⟩ := e.pre
  exact List.mem_append_left _ h
theorem Ext.out {m m' : List Addr} {H H' : Hp} (e : Ext m H m' H') {a : Addr} (h : a ∉ m) (hn : H a ≠ none) : a ∉ m' := by
  obtain ⟨l, rfl, hl⟩ := e.pre
  intro z
  rcases List.mem_append.mp z with z | z
  · exact h z
  · exact hn (hl a z)
theorem Ext.back {m m' : List Addr} {H H' : Hp} (e : Ext m H m' H') {a : Addr} (h : H' a = none) : H a = none := by
  cases q : H a with
  | none => rfl
  | some o => exact absurd h (e.live a (by rw [q]; exact fun z => nomatch z))
theorem Ext.trans {m m1 m2 : List Addr} {H H1 H2 : Hp} (a : Ext m H m1 H1) (b : Ext m1 H1 m2 H2) : Ext m H m2 H2 := by
  obtain ⟨l, rfl, hl⟩ := a.pre
  obtain ⟨l2, rfl, hl2⟩ := b.pre
  refine ⟨⟨l ++ l2, by simp, fun x hx => ?_⟩, fun x o hx h => ?_, fun x h => b.live x (a.live x h)⟩
  · rcases List.mem_append.mp hx with hx | hx
    · exact hl x hx
    · exact a.back (hl2 x hx)
  · exact b.keep x o (a.out hx (by rw [h]; exact fun z => nomatch z)) (a.keep x o hx h)
theorem upd_at {H : Hp} {a : Addr} {o : HO} : upd H a o a = some o := L2.upd_same
theorem Ext.new {m : List Addr} {H : Hp} {p : Addr} {o : HO} (h : H p = none) : Ext m H m (upd H p o) := by
  refine ⟨⟨[], by simp, by simp⟩, fun a u _ e => ?_, fun a e => ?_⟩
  · rw [L2.upd_ne (L2.ne_of_none e h)]; exact e
  · by_cases q : a = p
    · rw [q, upd_at]; exact fun z => nomatch z
    · rw [L2.upd_ne q]; exact e
theorem Ext.rd {m m' : List Addr} {H H' : Hp} (e : Ext m H m' H') {p : Addr} {u : HO} (hm : p ∉ m) (h : Rd H p u) : Rd H' p u := by
  rcases h with h | ⟨o, h⟩
  · exact .inl (e.keep p _ hm h)
  · exact .inr ⟨o, e.keep p _ hm h⟩
theorem rd_some {H : Hp} {p : Addr} {u : HO} (h : Rd H p u) : H p ≠ none := by
  rcases h with h | ⟨o, h⟩ <;> (rw [h]; exact fun z => nomatch z)

theorem is_some {H : Hp} {p : Addr} {u : HO} (h : H p = some u) : H p ≠ none := by rw [h]; exact fun z => nomatch z

/-! ### data in the heap: m the store's places, A the places to be left out -/
/-- a tuple of the written part -/
def KTup (K : PySem.W.Frag) (a : Addr) (xs : List V) : Prop :=
  ∃ (o : PySem.Obj) (its : Array Value) (n : Nat), K.lookup a = some o ∧ o.cls = .type "tuple" ∧ o.data = .seq its n ∧ its.size ≤ PySem.sizeLine ∧ L2.Vals xs its.toList ∧ o.dict = none
/-- a text: its signs, its length -/
def OkS (s : List Nat) : Prop := (∀ c ∈ s, c < 1114112) ∧ s.length ≤ PySem.sizeLine
/-- the script's list -/
def ScrL (K : PySem.W.Frag) (m : List Addr) (A : Addr → Prop) (H : Hp) (p : Addr) (ns : List Int) : Prop :=
  (Rd H p (.lst (ns.map V.int)) ∧ p ∉ m ∧ ¬ A p) ∨ ∃ (o : PySem.Obj) (its : Array Value) (n : Nat), K.lookup p = some o ∧ o.cls = .type "list" ∧ o.dict = none ∧ o.data = .seq its n ∧ its.size ≤ PySem.sizeLine ∧ L2.Vals (ns.map V.int) its.toList
theorem ScrL.sq {K : PySem.W.Frag} {m : List Addr} {A : Addr → Prop} {H : Hp} {p : Addr} {ns : List Int} (h : ScrL K m A H p ns) : SqL K H p (ns.map V.int) := h.elim (fun h => .inl h.1) .inr
/-- a tuple in the heap: of texts alone its object is known -/
def TupH (H : Hp) (p : Addr) (vs : List V) (ds : List D) : Prop := (H p = some (.tup vs) ∧ ds.all strB = false) ∨ ∃ o, H p = some (.frz o (.tup vs)) ∧ o.dict = none ∧ o.cls = .type "tuple" ∧ ds.all strB = true
mutual
inductive RV (K : PySem.W.Frag) (m : List Addr) (A : Addr → Prop) (H : Hp) : V → D → Prop
  | non : RV K m A H .non .non
  | bl (b : Bool) : RV K m A H (.bl b) (.bl b)
  | int (i : Int) : RV K m A H (.int i) (.int i)
  | str (x : Str) : OkS x.cps.toList → RV K m A H (.str x) (.str x.cps.toList)
  | lst {p : Addr} {vs : List V} {ds : List D} : H p = some (.lst vs) → p ∉ m → ¬ A p → RL K m A H vs ds → RV K m A H (.ref p) (.lst ds)
  | tup {p : Addr} {vs : List V} {ds : List D} : TupH H p vs ds → p ∉ m → ¬ A p → RL K m A H vs ds → RV K m A H (.ref p) (.tup ds)
  | ktp {p : Addr} {vs : List V} {ds : List D} : KTup K p vs → ds.all strB = true → RL K m A H vs ds → RV K m A H (.ref p) (.tup ds)
  | obj {n : Nat} {a : Addr} : m[n]? = some a → RV K m A H (.ref a) (.obj n)
  | scr {p : Addr} {ns : List Int} : ScrL K m A H p ns → RV K m A H (.ref p) (.scr ns)
inductive RL (K : PySem.W.Frag) (m : List Addr) (A : Addr → Prop) (H : Hp) : List V → List D → Prop
  | nil : RL K m A H [] []
  | cons {v : V} {vs : List V} {d : D} {ds : List D} : RV K m A H v d → RL K m A H vs ds → RL K m A H (v :: vs) (d :: ds)
end
section
variable {K : PySem.W.Frag} {m m' : List Addr} {A A' : Addr → Prop} {H H' : Hp}
theorem TupH.some_ {p : Addr} {vs : List V} {ds : List D} (h : TupH H p vs ds) : H p ≠ none := fun z => by
  rcases h with ⟨h, _⟩ | ⟨o, h, _⟩ <;> (rw [h] at z; cases z)
theorem TupH.at {p : Addr} {vs : List V} {ds : List D} {C : Prop} (h : TupH H p vs ds) (e : ∀ o, H p = some o → C) : C := h.elim (fun h => e _ h.1) fun ⟨_, h, _⟩ => e _ h
theorem TupH.same {p : Addr} {vs : List V} {ds : List D} (h : TupH H p vs ds) (e : ∀ o, H p = some o → H' p = some o) : TupH H' p vs ds := by
  rcases h with ⟨h, b⟩ | ⟨o, h, d⟩
  · exact .inl ⟨e _ h, b⟩
  · exact .inr ⟨o, e _ h, d⟩
theorem getElem_ext (e : Ext m H m' H') {n : Nat} {a : Addr} (h : m[n]? = some a) : m'[n]? = some a := by
  obtain ⟨l, rfl, _⟩ := e.pre
  rw [List.getElem?_append_left (List.getElem?_eq_some_iff.mp h).1]
  exact h
mutual
theorem RV.mono (e : Ext m H m' H') (hA : ∀ a, A' a → A a ∨ H a = none) : ∀ {v : V} {d : D}, RV K m A H v d → RV K m' A' H' v d
  | _, _, .non => .non
  | _, _, .bl b => .bl b
  | _, _, .int i => .int i
  | _, _, .str x h => .str x h
  | _, _, .lst h hm ha r => .lst (e.keep _ _ hm h) (e.out hm (is_some h)) (fun z => (hA _ z).elim ha (is_some h)) (RL.mono e hA r)
  | _, _, .tup h hm ha r => .tup (h.same fun o q => e.keep _ o hm q) (e.out hm h.some_) (fun z => (hA _ z).elim ha h.some_) (RL.mono e hA r)
  | _, _, .scr h => .scr (h.elim (fun ⟨h, hm, ha⟩ => .inl ⟨e.rd hm h, e.out hm (rd_some h), fun z => (hA _ z).elim ha (rd_some h)⟩) .inr)
  | _, _, .ktp h b r => .ktp h b (RL.mono e hA r)
  | _, _, .obj h => .obj (getElem_ext e h)
theorem RL.mono (e : Ext m H m' H') (hA : ∀ a, A' a → A a ∨ H a = none) : ∀ {vs : List V} {ds : List D}, RL K m A H vs ds → RL K m' A' H' vs ds
  | _, _, .nil => .nil
  | _, _, .cons r t => .cons (RV.mono e hA r) (RL.mono e hA t)
end
theorem RV.ext (e : Ext m H m' H') {v : V} {d : D} (r : RV K m A H v d) : RV K m' A H' v d := r.mono e fun _ z => .inl z
theorem RL.ext (e : Ext m H m' H') {v : List V} {d : List D} (r : RL K m A H v d) : RL K m' A H' v d := r.mono e fun _ z => .inl z
theorem RV.less (hA : ∀ a, A' a → A a) {v : V} {d : D} (r : RV K m A H v d) : RV K m A' H v d := r.mono (Ext.refl m H) fun a z => .inl (hA a z)
theorem RL.less (hA : ∀ a, A' a → A a) {v : List V} {d : List D} (r : RL K m A H v d) : RL K m A' H v d := r.mono (Ext.refl m H) fun a z => .inl (hA a z)
theorem RL.length : ∀ {vs : List V} {ds : List D}, RL K m A H vs ds → vs.length = ds.length
  | _, _, .nil => rfl
  | _, _, .cons _ t => by rw [List.length_cons, List.length_cons, RL.length t]
theorem RL.get : ∀ {vs : List V} {ds : List D} {i : Nat} {d : D}, RL K m A H vs ds → ds[i]? = some d → ∃ v, vs[i]? = some v ∧ RV K m A H v d
  | _, _, _, _, .nil, e => by simp at e
  | _, _, 0, _, .cons r _, e => by simp at e; subst e; exact ⟨_, rfl, r⟩
  | _, _, i + 1, d, .cons _ t, e => by
    obtain ⟨u, h1, h2⟩ := RL.get (i := i) (d := d) t (by simpa using e)
    exact ⟨u, by simpa using h1, h2⟩
theorem RL.getV : ∀ {vs : List V} {ds : List D} {i : Nat} {v : V}, RL K m A H vs ds → vs[i]? = some v → ∃ d, ds[i]? = some d ∧ RV K m A H v d
  | _, _, _, _, .nil, e => by simp at e
  | _, _, 0, _, .cons r _, e => by simp at e; subst e; exact ⟨_, rfl, r⟩
  | _, _, i + 1, d, .cons _ t, e => by
    obtain ⟨u, h1, h2⟩ := RL.getV (i := i) (v := d) t (by simpa using e)
    exact ⟨u, by simpa using h1, h2⟩
theorem RL.append : ∀ {vs ws : List V} {ds es : List D}, RL K m A H vs ds → RL K m A H ws es → RL K m A H (vs ++ ws) (ds ++ es)
  | _, _, _, _, .nil, s => s
  | _, _, _, _, .cons r t, s => .cons r (RL.append t s)
theorem RL.take : ∀ {vs : List V} {ds : List D} (n : Nat), RL K m A H vs ds → RL K m A H (vs.take n) (ds.take n)
  | _, _, 0, _ => .nil
  | _, _, _ + 1, .nil => .nil
  | _, _, n + 1, .cons r t => .cons r (RL.take n t)
theorem RL.drop : ∀ {vs : List V} {ds : List D} (n : Nat), RL K m A H vs ds → RL K m A H (vs.drop n) (ds.drop n)
  | _, _, 0, r => r
  | _, _, _ + 1, .nil => .nil
  | _, _, n + 1, .cons _ t => RL.drop n t
theorem RL.reverse : ∀ {vs : List V} {ds : List D}, RL K m A H vs ds → RL K m A H vs.reverse ds.reverse
  | _, _, .nil => .nil
  | _, _, .cons r t => by
    rw [List.reverse_cons, List.reverse_cons]
    exact (RL.reverse t).append (.cons r .nil)
theorem RL.reps {vs : List V} {ds : List D} (r : RL K m A H vs ds) : ∀ n : Nat, RL K m A H (List.replicate n vs).flatten (List.replicate n ds).flatten
  | 0 => .nil
  | n + 1 => by
    rw [List.replicate_succ, List.replicate_succ, List.flatten_cons, List.flatten_cons]
    exact r.append (RL.reps r n)
theorem RL.set {v : V} {d : D} (r : RV K m A H v d) : ∀ {vs : List V} {ds : List D} (i : Nat), RL K m A H vs ds → RL K m A H (vs.set i v) (ds.set i d)
  | _, _, _, .nil => .nil
  | _, _, 0, .cons _ t => .cons r t
  | _, _, i + 1, .cons q t => .cons q (RL.set r i t)
/-- lists, tuples, to be read -/
theorem sqL_of {p : Addr} {vs : List V} (h : H p = some (.lst vs)) : SqL K H p vs := .inl (.inl h)
theorem sqT_of {p : Addr} {vs : List V} {ds : List D} (h : TupH H p vs ds) : SqT K H p vs := .inl (h.elim (fun h => .inl h.1) fun ⟨o, h, _⟩ => .inr ⟨o, h⟩)
theorem sqT_k {p : Addr} {vs : List V} (h : KTup K p vs) : SqT K H p vs := let ⟨o, its, n, a, b, c, d, e, _⟩ := h; .inr ⟨o, its, n, a, b, c, d, e⟩
theorem RV.inv_lst {v : V} {ds : List D} (r : RV K m A H v (.lst ds)) : ∃ p vs, v = .ref p ∧ H p = some (.lst vs) ∧ p ∉ m ∧ ¬ A p ∧ RL K m A H vs ds := by
  cases r with
  | lst h hm ha r => exact ⟨_, _, rfl, h, hm, ha, r⟩
theorem RV.inv_tup {v : V} {ds : List D} (r : RV K m A H v (.tup ds)) : ∃ p vs, v = .ref p ∧ SqT K H p vs ∧ RL K m A H vs ds := by
  cases r with
  | tup h hm ha r => exact ⟨_, _, rfl, sqT_of h, r⟩
  | ktp h _ r => exact ⟨_, _, rfl, sqT_k h, r⟩
theorem RV.inv_int {v : V} {i : Int} (r : RV K m A H v (.int i)) : v = .int i := by cases r; rfl
theorem RV.inv_bl {v : V} {i : Bool} (r : RV K m A H v (.bl i)) : v = .bl i := by cases r; rfl
theorem RV.inv_non {v : V} (r : RV K m A H v .non) : v = .non := by cases r; rfl
theorem RV.inv_str {v : V} {s : List Nat} (r : RV K m A H v (.str s)) : v = .str ⟨s.toArray⟩ ∧ OkS s := by
  cases r with
  | str x h => exact ⟨by simp, h⟩
theorem rv_str {s : List Nat} (h : OkS s) : RV K m A H (.str ⟨s.toArray⟩) (.str s) := by
  have := RV.str (K := K) (m := m) (A := A) (H := H) ⟨s.toArray⟩ (by simpa using h)
  simpa using this
theorem RL.asInts {ds : List D} : ∀ {vs : List V} {ns : List Int}, RL K m A H vs ds → intsD ds = some ns → vs = ns.map V.int := by
  induction ds with
  | nil => intro vs ns r e; cases r; cases e; rfl
  | cons d ds ih =>
    intro vs ns r e
    cases r with
    | cons r t =>
      cases d with
      | int i =>
        simp only [intsD] at e
        cases q : intsD ds with
        | none => rw [q] at e; cases e
        | some l =>
          rw [q] at e
          cases e
          rw [r.inv_int, ih t q] <;> rfl
      | _ => cases e
theorem RL.asBools {ds : List D} : ∀ {vs : List V} {ns : List Bool}, RL K m A H vs ds → boolsD ds = some ns → vs = ns.map V.bl := by
  induction ds with
  | nil => intro vs ns r e; cases r; cases e; rfl
  | cons d ds ih =>
    intro vs ns r e
    cases r with
    | cons r t =>
      cases d with
      | bl i =>
        simp only [Mi.boolsD] at e
        cases q : Mi.boolsD ds with
        | none => rw [q] at e; cases e
        | some l =>
          rw [q] at e
          cases e
          rw [r.inv_bl, ih t q] <;> rfl
      | _ => cases e
theorem RL.asStrs {ds : List D} : ∀ {vs : List V} {ns : List (List Nat)}, RL K m A H vs ds → strsD ds = some ns → (vs = ns.map fun s => V.str ⟨s.toArray⟩) ∧ ∀ s ∈ ns, OkS s := by
  induction ds with
  | nil => intro vs ns r e; cases r; cases e; exact ⟨rfl, fun _ z => nomatch z⟩
  | cons d ds ih =>
    intro vs ns r e
    cases r with
    | cons r t =>
      cases d with
      | str i =>
        simp only [Mi.strsD] at e
        cases q : Mi.strsD ds with
        | none => rw [q] at e; cases e
        | some l =>
          rw [q] at e
          cases e
          obtain ⟨h1, h2⟩ := r.inv_str
          obtain ⟨h3, h4⟩ := ih t q
          refine ⟨by rw [h1, h3] <;> rfl, fun s hs => ?_⟩
          rcases List.mem_cons.mp hs with e | e
          · rw [e]; exact h2
          · exact h4 s e
      | _ => cases e
end

/-! ### the store -/
/-- what the names of classes and fields stand for -/
structure Gx where
  K : PySem.W.Frag
  cls : Nat → Addr
  fld : Nat → Str
  ea : Addr
def CellR (G : Gx) (m : List Addr) (A : Addr → Prop) (H : Hp) (a : Addr) : Cell → Prop
  | .ins C fs => ∃ dx fvs, H a = some (.ins (G.cls C) dx fvs) ∧ H dx = some (.own a) ∧ dx ∉ m ∧ ¬ A dx ∧ fvs.map (·.1) = fs.map (fun q => G.fld q.1) ∧ RL G.K m A H (fvs.map (·.2)) (fs.map (·.2))
  | .dic kvs => ∃ ks : List (Key × V), H a = some (.dK ks) ∧ ks.map (·.1) = kvs.map (fun q => Sum.inr (⟨q.1.toArray⟩ : Str)) ∧ RL G.K m A H (ks.map (·.2)) (kvs.map (·.2))
structure SR (G : Gx) (m : List Addr) (A : Addr → Prop) (S : Sto) (H : Hp) : Prop where
  nd : m.Nodup
  len : m.length = S.length
  cell : ∀ (i : Nat) (a : Addr) (c : Cell), m[i]? = some a → S[i]? = some c → CellR G m A H a c
theorem CellR.some {G : Gx} {m : List Addr} {A : Addr → Prop} {H : Hp} {a : Addr} {c : Cell} (h : CellR G m A H a c) : H a ≠ none := by
  cases c with
  | ins C fs => obtain ⟨_, _, e, _⟩ := h; rw [e]; exact fun z => nomatch z
  | dic kvs => obtain ⟨_, e, _⟩ := h; rw [e]; exact fun z => nomatch z
theorem SR.live {G : Gx} {m : List Addr} {A : Addr → Prop} {S : Sto} {H : Hp} (s : SR G m A S H) {a : Addr} (h : a ∈ m) : H a ≠ none := by
  obtain ⟨i, hi, e⟩ := List.getElem_of_mem h
  have q : m[i]? = .some a := by rw [List.getElem?_eq_getElem hi, e]
  have hi' : i < S.length := by rw [← s.len]; exact hi
  exact (s.cell i a S[i] q (by rw [List.getElem?_eq_getElem hi'])).some
theorem CellR.less {G : Gx} {m : List Addr} {A A' : Addr → Prop} {H : Hp} {a : Addr} {c : Cell} (hA : ∀ a, A' a → A a) (h : CellR G m A H a c) : CellR G m A' H a c := by
  cases c with
  | ins C fs => obtain ⟨dx, fvs, e, e2, e3, e4, e5, r⟩ := h; exact ⟨dx, fvs, e, e2, e3, fun z => e4 (hA _ z), e5, r.less hA⟩
  | dic kvs => obtain ⟨ks, e, e5, r⟩ := h; exact ⟨ks, e, e5, r.less hA⟩
theorem SR.less {G : Gx} {m : List Addr} {A A' : Addr → Prop} {S : Sto} {H : Hp} (hA : ∀ a, A' a → A a) (s : SR G m A S H) : SR G m A' S H :=
  ⟨s.nd, s.len, fun i a c h h' => (s.cell i a c h h').less hA⟩
/-- the places of m untouched, the rest grows -/
theorem CellR.grow {G : Gx} {m : List Addr} {A A' : Addr → Prop} {H H' : Hp} {a : Addr} {c : Cell} (e : Ext m H m H') (hA : ∀ a, A' a → A a ∨ H a = none) (hs : H' a = H a) (h : CellR G m A H a c) : CellR G m A' H' a c := by
  cases c with
  | ins C fs =>
    obtain ⟨dx, fvs, e1, e2, e3, e4, e5, r⟩ := h
    exact ⟨dx, fvs, hs.trans e1, e.keep dx _ e3 e2, e3, fun z => (hA _ z).elim e4 (by rw [e2]; exact fun z => nomatch z), e5, r.mono e hA⟩
  | dic kvs =>
    obtain ⟨ks, e1, e5, r⟩ := h
    exact ⟨ks, hs.trans e1, e5, r.mono e hA⟩
theorem SR.grow {G : Gx} {m : List Addr} {A A' : Addr → Prop} {S : Sto} {H H' : Hp} (e : Ext m H m H') (hA : ∀ a, A' a → A a ∨ H a = none) (hs : ∀ a ∈ m, H' a = H a) (s : SR G m A S H) : SR G m A' S H' :=
  ⟨s.nd, s.len, fun i a c h h' => (s.cell i a c h h').grow e hA (hs a (List.mem_of_getElem? h))⟩

/-! ### a frame -/
/-- A0: the places that the frame keeps away from; P: the things that stand; m0, H0: the entry -/
structure Fr where
  A0 : Addr → Prop
  P : Addr → HO → Prop
  m0 : List Addr
  H0 : Hp
  mp : List Addr
def Own (σ : L2.St) (ρ : Env) (a : Addr) : Prop := ∃ (i : Nat) (ds : List D), ρ[i]? = some (Slot.own ds) ∧ σ[i]? = some (some (V.ref a))
def Av (f : Fr) (σ : L2.St) (ρ : Env) (a : Addr) : Prop := f.A0 a ∨ Own σ ρ a
structure St (G : Gx) (f : Fr) (σ : L2.St) (H : Hp) (ρ : Env) (S : Sto) (m : List Addr) : Prop where
  sr : SR G m (Av f σ ρ) S H
  val : ∀ (i : Nat) (d : D), ρ[i]? = some (Slot.val d) → ∃ v, σ[i]? = some (some v) ∧ RV G.K m (Av f σ ρ) H v d
  own : ∀ (i : Nat) (ds : List D), ρ[i]? = some (Slot.own ds) → ∃ p vs, σ[i]? = some (some (V.ref p)) ∧ p ∉ m ∧ ¬ f.A0 p ∧ H p = some (HO.lst vs) ∧ RL G.K m (Av f σ ρ) H vs ds
  uniq : ∀ (i j : Nat) (ds es : List D) (p : Addr), ρ[i]? = some (Slot.own ds) → ρ[j]? = some (Slot.own es) → σ[i]? = some (some (V.ref p)) → σ[j]? = some (some (V.ref p)) → i = j
  prot : ∀ a o, f.P a o → H a = some o ∧ a ∉ m ∧ ¬ Own σ ρ a
  live : ∀ a, f.A0 a → H a ≠ none
  ent : Ext f.m0 f.H0 m H
  mpre : ∃ l, m = f.mp ++ l
  fresh : ∀ a, Own σ ρ a → f.H0 a = none
  len : σ.length = ρ.length
  err : ∀ i : Nat, ρ[i]? = some Slot.err → σ[i]? = some (some (V.ref G.ea))
theorem err_set {σ : L2.St} {ρ : Env} {a : Addr} {i : Nat} {x : Slot} {v : Option V} (hx : x ≠ .err) (h : ∀ j : Nat, ρ[j]? = some Slot.err → σ[j]? = some (some (V.ref a))) : ∀ j : Nat, (ρ.set i x)[j]? = some Slot.err → (σ.set i v)[j]? = some (some (V.ref a)) := by
  intro j hj
  by_cases e : i = j
  · subst e
    by_cases hl : i < ρ.length
    · rw [List.getElem?_set_self hl] at hj
      exact (hx (Option.some.inj hj)).elim
    · rw [List.getElem?_eq_none (by simpa using hl)] at hj; cases hj
  · rw [List.getElem?_set_ne e] at hj ⊢
    exact h j hj
theorem err_set' {σ : L2.St} {ρ : Env} {a : Addr} {i : Nat} {x : Slot} (hx : x ≠ .err) (h : ∀ j : Nat, ρ[j]? = some Slot.err → σ[j]? = some (some (V.ref a))) : ∀ j : Nat, (ρ.set i x)[j]? = some Slot.err → σ[j]? = some (some (V.ref a)) := by
  intro j hj
  by_cases e : i = j
  · subst e
    by_cases hl : i < ρ.length
    · rw [List.getElem?_set_self hl] at hj
      exact (hx (Option.some.inj hj)).elim
    · rw [List.getElem?_eq_none (by simpa using hl)] at hj; cases hj
  · rw [List.getElem?_set_ne e] at hj
    exact h j hj
theorem St.liveA {G : Gx} {f : Fr} {σ : L2.St} {H : Hp} {ρ : Env} {S : Sto} {m : List Addr} (s : St G f σ H ρ S m) {a : Addr} (h : Av f σ ρ a) : H a ≠ none := by
  rcases h with h | ⟨i, ds, h1, h2⟩
  · exact s.live a h
  · obtain ⟨p, vs, e, _, _, e2, _⟩ := s.own i ds h1
    rw [h2] at e
    cases e
    rw [e2]; exact fun z => nomatch z
/-- an expression came behind: the heap has grown -/
theorem St.ext {G : Gx} {f : Fr} {σ : L2.St} {H H' : Hp} {ρ : Env} {S S' : Sto} {m m' : List Addr} (s : St G f σ H ρ S m) (e : Ext m H m' H') (sr : SR G m' (Av f σ ρ) S' H') : St G f σ H' ρ S' m' where
  sr := sr
  val := fun i d h => by
    obtain ⟨v, h1, h2⟩ := s.val i d h
    exact ⟨v, h1, h2.ext e⟩
  own := fun i ds h => by
    obtain ⟨p, vs, h1, h2, h3, h4, h5⟩ := s.own i ds h
    exact ⟨p, vs, h1, e.out h2 (by rw [h4]; exact fun z => nomatch z), h3, e.keep p _ h2 h4, h5.ext e⟩
  uniq := s.uniq
  prot := fun a o h => by
    obtain ⟨h1, h2, h3⟩ := s.prot a o h
    exact ⟨e.keep a o h2 h1, e.out h2 (by rw [h1]; exact fun z => nomatch z), h3⟩
  live := fun a h => e.live a (s.live a h)
  ent := s.ent.trans e
  mpre := by
    obtain ⟨l, h⟩ := s.mpre
    obtain ⟨l', h', _⟩ := e.pre
    exact ⟨l ++ l', by rw [h', h, List.append_assoc]⟩
  fresh := s.fresh
  len := s.len
  err := s.err
/-- .. by a new thing alone -/
theorem St.new {G : Gx} {f : Fr} {σ : L2.St} {H : Hp} {ρ : Env} {S : Sto} {m : List Addr} {p : Addr} {o : HO} (s : St G f σ H ρ S m) (h : H p = none) : St G f σ (upd H p o) ρ S m :=
  s.ext (Ext.new h) (s.sr.grow (Ext.new h) (fun _ z => .inl z) fun a ha => L2.upd_ne fun z => s.sr.live ha (by rw [z]; exact h))

/-! ### what stands, stays -/
structure Kp (m : List Addr) (A : Addr → Prop) (H : Hp) (m' : List Addr) (A' : Addr → Prop) (H' : Hp) : Prop where
  pre : ∃ l, m' = m ++ l
  keep : ∀ a o, a ∉ m → ¬ A a → H a = some o → H' a = some o ∧ a ∉ m' ∧ ¬ A' a
section
variable {K : PySem.W.Frag} {m m' m2 : List Addr} {A A' A2 : Addr → Prop} {H H' H2 : Hp}
theorem Kp.rd (e : Kp m A H m' A' H') {p : Addr} {u : HO} (hm : p ∉ m) (ha : ¬ A p) (h : Rd H p u) : Rd H' p u ∧ p ∉ m' ∧ ¬ A' p := by
  rcases h with h | ⟨o, h⟩
  · obtain ⟨h1, h2, h3⟩ := e.keep p _ hm ha h
    exact ⟨.inl h1, h2, h3⟩
  · obtain ⟨h1, h2, h3⟩ := e.keep p _ hm ha h
    exact ⟨.inr ⟨o, h1⟩, h2, h3⟩
theorem Kp.at (e : Kp m A H m' A' H') {n : Nat} {a : Addr} (h : m[n]? = some a) : m'[n]? = some a := by
  obtain ⟨l, rfl⟩ := e.pre
  rw [List.getElem?_append_left (List.getElem?_eq_some_iff.mp h).1]
  exact h
mutual
theorem RV.kept (e : Kp m A H m' A' H') : ∀ {v : V} {d : D}, RV K m A H v d → RV K m' A' H' v d
  | _, _, .non => .non
  | _, _, .bl b => .bl b
  | _, _, .int i => .int i
  | _, _, .str x h => .str x h
  | _, _, .lst h hm ha r => .lst (e.keep _ _ hm ha h).1 (e.keep _ _ hm ha h).2.1 (e.keep _ _ hm ha h).2.2 (RL.kept e r)
  | _, _, .tup h hm ha r => .tup (h.same fun o q => (e.keep _ o hm ha q).1) (h.at fun o q => (e.keep _ o hm ha q).2.1) (h.at fun o q => (e.keep _ o hm ha q).2.2) (RL.kept e r)
  | _, _, .ktp h b r => .ktp h b (RL.kept e r)
  | _, _, .obj h => .obj (e.at h)
  | _, _, .scr h => .scr (h.elim (fun ⟨h, hm, ha⟩ => .inl (e.rd hm ha h)) .inr)
theorem RL.kept (e : Kp m A H m' A' H') : ∀ {vs : List V} {ds : List D}, RL K m A H vs ds → RL K m' A' H' vs ds
  | _, _, .nil => .nil
  | _, _, .cons r t => .cons (RV.kept e r) (RL.kept e t)
end
theorem Kp.trans (a : Kp m A H m' A' H') (b : Kp m' A' H' m2 A2 H2) : Kp m A H m2 A2 H2 := by
  obtain ⟨l, h⟩ := a.pre
  obtain ⟨l', h'⟩ := b.pre
  refine ⟨⟨l ++ l', by rw [h', h, List.append_assoc]⟩, fun x o h1 h2 h3 => ?_⟩
  obtain ⟨k1, k2, k3⟩ := a.keep x o h1 h2 h3
  exact b.keep x o k2 k3 k1
theorem Ext.kp (e : Ext m H m' H') (hA : ∀ a, A' a → A a ∨ H a = none) : Kp m A H m' A' H' := by
  obtain ⟨l, h, _⟩ := id e.pre
  exact ⟨⟨l, h⟩, fun a o h1 h2 h3 => ⟨e.keep a o h1 h3, e.out h1 (is_some h3), fun z => (hA a z).elim h2 (is_some h3)⟩⟩
end
section
variable {G : Gx} {f : Fr} {σ : L2.St} {H H' : Hp} {ρ : Env} {S S' : Sto} {m m' : List Addr}
/-- a slot is set to a value -/
theorem own_set {i : Nat} {v : V} {d : D} {a : Addr} (h : Own (σ.set i (some v)) (ρ.set i (.val d)) a) : Own σ ρ a := by
  obtain ⟨j, ds, h1, h2⟩ := h
  by_cases e : i = j
  · subst e
    by_cases hl : i < ρ.length
    · rw [List.getElem?_set_self hl] at h1; cases h1
    · rw [List.getElem?_eq_none (by simpa using hl)] at h1; cases h1
  · rw [List.getElem?_set_ne e] at h1 h2
    exact ⟨j, ds, h1, h2⟩
theorem St.setv (s : St G f σ H ρ S m) {i : Nat} {v : V} {d : D} (r : RV G.K m (Av f σ ρ) H v d) : St G f (σ.set i (some v)) H (ρ.set i (.val d)) S m := by
  have hav : ∀ a, Av f (σ.set i (some v)) (ρ.set i (.val d)) a → Av f σ ρ a := fun a h => h.elim .inl fun z => .inr (own_set z)
  refine ⟨s.sr.less hav, fun j e h => ?_, fun j ds h => ?_, fun j l ds es p h1 h2 h3 h4 => ?_, fun a o h => ?_, s.live, s.ent, s.mpre, fun a h => s.fresh a (own_set h), by simpa using s.len, err_set (fun z => nomatch z) s.err⟩
  · by_cases hj : i = j
    · subst hj
      by_cases hl : i < ρ.length
      · rw [List.getElem?_set_self hl] at h
        cases h
        exact ⟨v, by rw [List.getElem?_set_self (by rw [s.len]; exact hl)], r.less hav⟩
      · rw [List.getElem?_eq_none (by simpa using hl)] at h; cases h
    · rw [List.getElem?_set_ne hj] at h
      obtain ⟨w, h1, h2⟩ := s.val j e h
      exact ⟨w, by rw [List.getElem?_set_ne hj]; exact h1, h2.less hav⟩
  · by_cases hj : i = j
    · subst hj
      by_cases hl : i < ρ.length
      · rw [List.getElem?_set_self hl] at h; cases h
      · rw [List.getElem?_eq_none (by simpa using hl)] at h; cases h
    · rw [List.getElem?_set_ne hj] at h
      obtain ⟨p, vs, h1, h2, h3, h4, h5⟩ := s.own j ds h
      exact ⟨p, vs, by rw [List.getElem?_set_ne hj]; exact h1, h2, h3, h4, h5.less hav⟩
  · have n1 : i ≠ j := fun e => by
      subst e
      by_cases hl : i < ρ.length
      · rw [List.getElem?_set_self hl] at h1; cases h1
      · rw [List.getElem?_eq_none (by simpa using hl)] at h1; cases h1
    have n2 : i ≠ l := fun e => by
      subst e
      by_cases hl : i < ρ.length
      · rw [List.getElem?_set_self hl] at h2; cases h2
      · rw [List.getElem?_eq_none (by simpa using hl)] at h2; cases h2
    rw [List.getElem?_set_ne n1] at h1 h3
    rw [List.getElem?_set_ne n2] at h2 h4
    exact s.uniq j l ds es p h1 h2 h3 h4
  · obtain ⟨h1, h2, h3⟩ := s.prot a o h
    exact ⟨h1, h2, fun z => h3 (own_set z)⟩
/-- a slot is forgotten -/
theorem own_emp {i : Nat} {a : Addr} (h : Own (σ.set i none) (ρ.set i .emp) a) : Own σ ρ a := by
  obtain ⟨j, ds, h1, h2⟩ := h
  by_cases e : i = j
  · subst e
    by_cases hl : i < ρ.length
    · rw [List.getElem?_set_self hl] at h1; cases h1
    · rw [List.getElem?_eq_none (by simpa using hl)] at h1; cases h1
  · rw [List.getElem?_set_ne e] at h1 h2
    exact ⟨j, ds, h1, h2⟩
theorem St.emp (s : St G f σ H ρ S m) (i : Nat) : St G f (σ.set i none) H (ρ.set i .emp) S m := by
  have hav : ∀ a, Av f (σ.set i none) (ρ.set i .emp) a → Av f σ ρ a := fun a h => h.elim .inl fun z => .inr (own_emp z)
  have ne : ∀ {j : Nat} {x : Slot}, x ≠ .emp → (ρ.set i .emp)[j]? = some x → i ≠ j := fun {j x} hx h e => by
    subst e
    by_cases hl : i < ρ.length
    · rw [List.getElem?_set_self hl] at h; exact hx (Option.some.inj h).symm
    · rw [List.getElem?_eq_none (by simpa using hl)] at h; cases h
  refine ⟨s.sr.less hav, fun j e h => ?_, fun j ds h => ?_, fun j l ds es p h1 h2 h3 h4 => ?_, fun a o h => ?_, s.live, s.ent, s.mpre, fun a h => s.fresh a (own_emp h), by simpa using s.len, err_set (fun z => nomatch z) s.err⟩
  · have hj := ne (by intro z; cases z) h
    rw [List.getElem?_set_ne hj] at h
    obtain ⟨w, h1, h2⟩ := s.val j e h
    exact ⟨w, by rw [List.getElem?_set_ne hj]; exact h1, h2.less hav⟩
  · have hj := ne (by intro z; cases z) h
    rw [List.getElem?_set_ne hj] at h
    obtain ⟨p, vs, h1, h2, h3, h4, h5⟩ := s.own j ds h
    exact ⟨p, vs, by rw [List.getElem?_set_ne hj]; exact h1, h2, h3, h4, h5.less hav⟩
  · have n1 := ne (by intro z; cases z) h1
    have n2 := ne (by intro z; cases z) h2
    rw [List.getElem?_set_ne n1] at h1 h3
    rw [List.getElem?_set_ne n2] at h2 h4
    exact s.uniq j l ds es p h1 h2 h3 h4
  · obtain ⟨h1, h2, h3⟩ := s.prot a o h
    exact ⟨h1, h2, fun z => h3 (own_emp z)⟩
theorem own_wipe : ∀ {vs : List Nat} {a : Addr}, Own (L2.wipe σ vs) (wipe ρ vs) a → Own σ ρ a
  | [], _, h => h
  | _ :: _, _, h => own_wipe (own_emp h)
theorem St.wiped (s : St G f σ H ρ S m) : ∀ vs : List Nat, St G f (L2.wipe σ vs) H (wipe ρ vs) S m
  | [] => s
  | v :: vs => (St.wiped s vs).emp v
/-- lists that are still made, out of sight -/
theorem noOwn_at {ρ : Env} {i : Nat} {x : Slot} (h : (noOwn ρ)[i]? = some x) : (∀ ds, x ≠ .own ds) ∧ (x ≠ .emp → ρ[i]? = some x) := by
  unfold noOwn at h
  rw [List.getElem?_map] at h
  cases q : ρ[i]? with
  | none => rw [q] at h; cases h
  | some y =>
    rw [q] at h
    cases y with
    | emp => cases h; exact ⟨(fun _ z => nomatch z), fun z => absurd rfl z⟩
    | val d => cases h; exact ⟨(fun _ z => nomatch z), fun _ => rfl⟩
    | err => cases h; exact ⟨(fun _ z => nomatch z), fun _ => rfl⟩
    | own d => cases h; exact ⟨(fun _ z => nomatch z), fun z => absurd rfl z⟩
def NoOwn (ρ : Env) : Prop := ∀ (i : Nat) (ds : List D), ρ[i]? ≠ some (Slot.own ds)
theorem noOwn_no (ρ : Env) : NoOwn (noOwn ρ) := fun i ds h => (noOwn_at h).1 ds rfl
theorem NoOwn.set {ρ : Env} (h : NoOwn ρ) {i : Nat} {x : Slot} (hx : ∀ ds, x ≠ .own ds) : NoOwn (ρ.set i x) := fun j ds e => by
  by_cases hj : i = j
  · subst hj
    by_cases hl : i < ρ.length
    · rw [List.getElem?_set_self hl] at e; exact hx ds (Option.some.inj e)
    · rw [List.getElem?_eq_none (by simpa using hl)] at e; cases e
  · rw [List.getElem?_set_ne hj] at e
    exact h j ds e
theorem NoOwn.wipe {ρ : Env} (h : NoOwn ρ) : ∀ vs : List Nat, NoOwn (wipe ρ vs)
  | [] => h
  | v :: vs => (NoOwn.wipe h vs).set fun _ z => nomatch z
theorem NoOwn.own {σ : L2.St} {ρ : Env} (h : NoOwn ρ) {a : Addr} : ¬ Own σ ρ a := fun ⟨i, ds, e, _⟩ => h i ds e
theorem bind_pair {a b : Tg} {d : D} {ρ ρ' : Env} (e : bindT (.pair a b) d ρ = some ρ') : ∃ x y ρ1, d = .tup [x, y] ∧ bindT a x ρ = some ρ1 ∧ bindT b y ρ1 = some ρ' := by
  cases d with
  | tup xs =>
    match xs, e with
    | [x, y], e =>
      simp only [bindT] at e
      cases q : bindT a x ρ with
      | none => rw [q] at e; cases e
      | some ρ1 => rw [q] at e; exact ⟨x, y, ρ1, rfl, q, e⟩
    | [], e => cases e
    | [_], e => cases e
    | _ :: _ :: _ :: _, e => cases e
  | _ => cases e
theorem bind_trip {a b c : Tg} {d : D} {ρ ρ' : Env} (e : bindT (.trip a b c) d ρ = some ρ') : ∃ x y z ρ1 ρ2, d = .tup [x, y, z] ∧ bindT a x ρ = some ρ1 ∧ bindT b y ρ1 = some ρ2 ∧ bindT c z ρ2 = some ρ' := by
  cases d with
  | tup xs =>
    match xs, e with
    | [x, y, z], e =>
      simp only [bindT] at e
      cases q : bindT a x ρ with
      | none => rw [q] at e; cases e
      | some ρ1 =>
        rw [q] at e
        simp only [Option.bind_some] at e
        cases q2 : bindT b y ρ1 with
        | none => rw [q2] at e; cases e
        | some ρ2 => rw [q2] at e; exact ⟨x, y, z, ρ1, ρ2, rfl, q, q2, e⟩
    | [], e => cases e
    | [_], e => cases e
    | [_, _], e => cases e
    | _ :: _ :: _ :: _ :: _, e => cases e
  | _ => cases e
theorem bind_quad {a b c d' : Tg} {d : D} {ρ ρ' : Env} (e : bindT (.quad a b c d') d ρ = some ρ') : ∃ x y z u ρ1 ρ2 ρ3, d = .tup [x, y, z, u] ∧ bindT a x ρ = some ρ1 ∧ bindT b y ρ1 = some ρ2 ∧ bindT c z ρ2 = some ρ3 ∧ bindT d' u ρ3 = some ρ' := by
  cases d with
  | tup xs =>
    match xs, e with
    | [x, y, z, u], e =>
      simp only [bindT] at e
      cases q : bindT a x ρ with
      | none => rw [q] at e; cases e
      | some ρ1 =>
        rw [q] at e
        simp only [Option.bind_some] at e
        cases q2 : bindT b y ρ1 with
        | none => rw [q2] at e; cases e
        | some ρ2 =>
          rw [q2] at e
          simp only [Option.bind_some] at e
          cases q3 : bindT c z ρ2 with
          | none => rw [q3] at e; cases e
          | some ρ3 => rw [q3] at e; exact ⟨x, y, z, u, ρ1, ρ2, ρ3, rfl, q, q2, q3, e⟩
    | [], e => cases e
    | [_], e => cases e
    | [_, _], e => cases e
    | [_, _, _], e => cases e
    | _ :: _ :: _ :: _ :: _ :: _, e => cases e
  | _ => cases e
theorem NoOwn.bind : ∀ {tg : Tg} {d : D} {ρ ρ' : Env}, NoOwn ρ → bindT tg d ρ = some ρ' → NoOwn ρ' := by
  intro tg
  induction tg with
  | name i => intro d ρ ρ' h e; cases e; exact h.set fun _ z => nomatch z
  | pair a b ia ib =>
    intro d ρ ρ' h e
    obtain ⟨x, y, ρ1, _, e1, e2⟩ := bind_pair e
    exact ib (ia h e1) e2
  | trip a b c ia ib ic =>
    intro d ρ ρ' h e
    obtain ⟨x, y, z, ρ1, ρ2, _, e1, e2, e3⟩ := bind_trip e
    exact ic (ib (ia h e1) e2) e3
  | quad a b c d ia ib ic id =>
    intro d0 ρ ρ' h e
    obtain ⟨x, y, z, u, ρ1, ρ2, ρ3, _, e1, e2, e3, e4⟩ := bind_quad e
    exact id (ic (ib (ia h e1) e2) e3) e4
theorem St.noOwn (s : St G f σ H ρ S m) : St G { f with A0 := Av f σ ρ, P := fun _ _ => False } σ H (noOwn ρ) S m where
  sr := s.sr.less fun a h => h.elim (fun z => z) fun z => ((noOwn_no ρ).own z).elim
  val := fun i d h => by
    obtain ⟨v, h1, h2⟩ := s.val i d ((noOwn_at h).2 fun z => nomatch z)
    exact ⟨v, h1, h2.less fun a h => h.elim (fun z => z) fun z => ((noOwn_no ρ).own z).elim⟩
  own := fun i ds h => ((noOwn_at h).1 ds rfl).elim
  uniq := fun i j ds es p h => ((noOwn_at h).1 ds rfl).elim
  prot := fun a o h => h.elim
  live := fun a h => s.liveA h
  ent := s.ent
  mpre := s.mpre
  fresh := fun a h => ((noOwn_no ρ).own h).elim
  len := by unfold Mi.noOwn; rw [List.length_map]; exact s.len
  err := fun i h => s.err i ((noOwn_at h).2 fun z => nomatch z)
/-- another entry -/
theorem St.enter (s : St G f σ H ρ S m) (hn : NoOwn ρ) : St G { f with m0 := m, H0 := H, mp := m, P := fun _ _ => False } σ H ρ S m :=
  ⟨s.sr, s.val, s.own, s.uniq, fun _ _ h => h.elim, s.live, Ext.refl m H, ⟨[], by simp⟩, fun _ h => (hn.own h).elim, s.len, s.err⟩
/-- more places to keep away from -/
theorem St.away (s : St G f σ H ρ S m) {B : Addr → Prop} (hB : ∀ a, B a → f.A0 a ∨ (H a = none)) (hl : ∀ a, B a → H' a ≠ none) (hn : NoOwn ρ) (e : Ext m H m H') (hs : ∀ a ∈ m, H' a = H a) : St G { f with A0 := B } σ H' ρ S m where
  sr := s.sr.grow e (fun a h => h.elim (fun z => (hB a z).imp .inl fun z => z) fun z => .inl (.inr z)) hs
  val := fun i d h => by
    obtain ⟨v, h1, h2⟩ := s.val i d h
    exact ⟨v, h1, h2.mono e fun a h => h.elim (fun z => (hB a z).imp .inl fun z => z) fun z => .inl (.inr z)⟩
  own := fun i ds h => (hn i ds h).elim
  uniq := fun i j ds es p h => (hn i ds h).elim
  prot := fun a o h => by
    obtain ⟨h1, h2, h3⟩ := s.prot a o h
    exact ⟨e.keep a o h2 h1, h2, h3⟩
  live := hl
  ent := s.ent.trans e
  mpre := s.mpre
  fresh := s.fresh
  len := s.len
  err := s.err
/-- a thing that the frame keeps away from is changed -/
theorem Ext.poke {m0 : List Addr} {H0 : Hp} (e : Ext m0 H0 m H) {p : Addr} {o : HO} (h0 : H0 p = none) : Ext m0 H0 m (upd H p o) :=
  ⟨e.pre, fun a u h1 h2 => by rw [L2.upd_ne (L2.ne_of_none h2 h0)]; exact e.keep a u h1 h2, fun a h => by
    by_cases q : a = p
    · rw [q, upd_at]; exact fun z => nomatch z
    · rw [L2.upd_ne q]; exact e.live a h⟩
theorem kp_poke {A : Addr → Prop} {p : Addr} {o : HO} (ha : A p) : Kp m A H m A (upd H p o) :=
  ⟨⟨[], by simp⟩, fun a u h1 h2 h3 => ⟨by rw [L2.upd_ne (a := p) (b := a) (by intro z; rw [z] at h2; exact h2 ha)]; exact h3, h1, h2⟩⟩
theorem SR.poke {A : Addr → Prop} (s : SR G m A S H) {p : Addr} {o : HO} (ha : A p) (hm : p ∉ m) : SR G m A S (upd H p o) := by
  refine ⟨s.nd, s.len, fun i a c h h' => ?_⟩
  have hne : a ≠ p := fun z => hm (z ▸ List.mem_of_getElem? h)
  have q := s.cell i a c h h'
  cases c with
  | ins C fs =>
    obtain ⟨dx, fvs, e1, e2, e3, e4, e5, r⟩ := q
    have hd : dx ≠ p := fun z => e4 (z ▸ ha)
    exact ⟨dx, fvs, by rw [L2.upd_ne hne]; exact e1, by rw [L2.upd_ne hd]; exact e2, e3, e4, e5, r.kept (kp_poke ha)⟩
  | dic kvs =>
    obtain ⟨ks, e1, e5, r⟩ := q
    exact ⟨ks, by rw [L2.upd_ne hne]; exact e1, e5, r.kept (kp_poke ha)⟩
theorem St.poke (s : St G f σ H ρ S m) {p : Addr} {o : HO} (ha : f.A0 p) (hm : p ∉ m) (hn : NoOwn ρ) (hP : ∀ o, ¬ f.P p o) (h0 : f.H0 p = none) : St G f σ (upd H p o) ρ S m where
  sr := s.sr.poke (.inl ha) hm
  val := fun i d h => by
    obtain ⟨v, h1, h2⟩ := s.val i d h
    exact ⟨v, h1, h2.kept (kp_poke (.inl ha))⟩
  own := fun i ds h => (hn i ds h).elim
  uniq := fun i j ds es p h => (hn i ds h).elim
  prot := fun a u h => by
    obtain ⟨h1, h2, h3⟩ := s.prot a u h
    exact ⟨by rw [L2.upd_ne (a := p) (b := a) (by intro z; rw [z] at h; exact hP u h)]; exact h1, h2, h3⟩
  live := fun a h => by
    by_cases q : a = p
    · rw [q, upd_at]; exact fun z => nomatch z
    · rw [L2.upd_ne q]; exact s.live a h
  ent := s.ent.poke h0
  mpre := s.mpre
  fresh := s.fresh
  len := s.len
  err := s.err
end
end Mi
/-! Mini: things of the store: made, fields read and set. -/
namespace Mi
open PySem (Str Addr Value Expr Stmt Scope)
open L2 (V Hp HO Key upd Rd SqL SqT)
section
variable {K : PySem.W.Frag} {G : Gx} {f : Fr} {σ : L2.St} {ρ : Env} {m : List Addr} {A : Addr → Prop} {H : Hp} {S : Sto}
/-- a place of the store is written -/
theorem Ext.inner {a : Addr} {o : HO} (ha : a ∈ m) : Ext m H m (upd H a o) := by
  refine ⟨⟨[], by simp, by simp⟩, fun b u hb e => ?_, fun b e => ?_⟩
  · rw [L2.upd_ne fun z => hb (by rw [z]; exact ha)]; exact e
  · by_cases q : b = a
    · rw [q, upd_at]; exact fun z => nomatch z
    · rw [L2.upd_ne q]; exact e
theorem look_at {fld : Nat → Str} (inj : ∀ i j, fld i = fld j → i = j) {g : Nat} : ∀ {fs : List (Nat × D)} {fvs : List (Str × V)} {d : D}, fvs.map (·.1) = fs.map (fun q => fld q.1) → RL K m A H (fvs.map (·.2)) (fs.map (·.2)) → fs.lookup g = some d → ∃ v, fvs.lookup (fld g) = some v ∧ RV K m A H v d
  | [], _, _, _, _, h => by cases h
  | (i, x) :: fs, [], _, e, _, _ => by cases e
  | (i, x) :: fs, (n, v) :: fvs, d, e, r, h => by
    rw [List.map_cons, List.map_cons] at e
    obtain ⟨e1, e2⟩ := List.cons.inj e
    have e1 : n = fld i := e1
    cases r with
    | cons r1 r2 =>
      by_cases c : g = i
      · subst c
        rw [List.lookup_cons, beq_self_eq_true] at h
        cases h
        exact ⟨v, by rw [List.lookup_cons, e1, beq_self_eq_true], r1⟩
      · rw [List.lookup_cons, (beq_eq_false_iff_ne).mpr c] at h
        obtain ⟨u, h1, h2⟩ := look_at inj (g := g) e2 r2 h
        exact ⟨u, by rw [List.lookup_cons, e1, (beq_eq_false_iff_ne).mpr fun z => c (inj _ _ z)]; exact h1, h2⟩
theorem look_no {fld : Nat → Str} (inj : ∀ i j, fld i = fld j → i = j) {g : Nat} : ∀ {fs : List (Nat × D)} {fvs : List (Str × V)}, fvs.map (·.1) = fs.map (fun q => fld q.1) → fs.lookup g = none → fvs.lookup (fld g) = none
  | [], [], _, _ => rfl
  | [], _ :: _, e, _ => by cases e
  | (i, x) :: fs, [], e, _ => by cases e
  | (i, x) :: fs, (n, v) :: fvs, e, h => by
    rw [List.map_cons, List.map_cons] at e
    obtain ⟨e1, e2⟩ := List.cons.inj e
    have e1 : n = fld i := e1
    by_cases c : g = i
    · subst c
      rw [List.lookup_cons, beq_self_eq_true] at h
      cases h
    · rw [List.lookup_cons, (beq_eq_false_iff_ne).mpr c] at h
      rw [List.lookup_cons, e1, (beq_eq_false_iff_ne).mpr fun z => c (inj _ _ z)]
      exact look_no inj e2 h
theorem put_keys {fld : Nat → Str} (inj : ∀ i j, fld i = fld j → i = j) {g : Nat} {v : V} {d : D} : ∀ {fs : List (Nat × D)} {fvs : List (Str × V)}, fvs.map (·.1) = fs.map (fun q => fld q.1) → (L2.putF (fld g) v fvs).map (·.1) = (putN g d fs).map (fun q => fld q.1)
  | [], [], _ => rfl
  | [], _ :: _, e => by cases e
  | (i, x) :: fs, [], e => by cases e
  | (i, x) :: fs, (n, u) :: fvs, e => by
    rw [List.map_cons, List.map_cons] at e
    obtain ⟨e1, e2⟩ := List.cons.inj e
    have e1 : n = fld i := e1
    subst e1
    by_cases c : i = g
    · subst c
      rw [L2.putF, putN, if_pos rfl, if_pos rfl, List.map_cons, List.map_cons, e2]
    · rw [L2.putF, putN, if_neg c, if_neg fun z => c (inj _ _ z), List.map_cons, List.map_cons, put_keys inj e2]
theorem put_vals {fld : Nat → Str} (inj : ∀ i j, fld i = fld j → i = j) {g : Nat} {v : V} {d : D} (r0 : RV K m A H v d) : ∀ {fs : List (Nat × D)} {fvs : List (Str × V)}, fvs.map (·.1) = fs.map (fun q => fld q.1) → RL K m A H (fvs.map (·.2)) (fs.map (·.2)) → RL K m A H ((L2.putF (fld g) v fvs).map (·.2)) ((putN g d fs).map (·.2))
  | [], [], _, _ => .cons r0 .nil
  | [], _ :: _, e, _ => by cases e
  | (i, x) :: fs, [], e, _ => by cases e
  | (i, x) :: fs, (n, u) :: fvs, e, r => by
    rw [List.map_cons, List.map_cons] at e
    obtain ⟨e1, e2⟩ := List.cons.inj e
    have e1 : n = fld i := e1
    subst e1
    cases r with
    | cons r1 r2 =>
      by_cases c : i = g
      · subst c
        rw [L2.putF, putN, if_pos rfl, if_pos rfl]
        exact .cons r0 r2
      · rw [L2.putF, putN, if_neg c, if_neg fun z => c (inj _ _ z)]
        exact .cons r1 (put_vals inj r0 e2 r2)
theorem len_keys {fld : Nat → Str} {fs : List (Nat × D)} {fvs : List (Str × V)} (e : fvs.map (·.1) = fs.map (fun q => fld q.1)) : fvs.length = fs.length := by
  have := congrArg List.length e
  simpa using this
/-- a cell, another one written -/
theorem CellR.inner {a b : Addr} {c : Cell} {o : HO} (ha : a ∈ m) (hne : b ≠ a) (h : CellR G m A H b c) : CellR G m A (upd H a o) b c := by
  have e := Ext.inner (H := H) (o := o) ha
  cases c with
  | ins C fs =>
    obtain ⟨dx, fvs, h1, h2, h3, h4, h5, r⟩ := h
    exact ⟨dx, fvs, by rw [L2.upd_ne hne]; exact h1, e.keep _ _ h3 h2, h3, h4, h5, r.ext e⟩
  | dic kvs =>
    obtain ⟨ks, h1, h5, r⟩ := h
    exact ⟨ks, by rw [L2.upd_ne hne]; exact h1, h5, r.ext e⟩
/-- the n-th cell written -/
theorem SR.write {n : Nat} {a : Addr} {o : HO} {c : Cell} (s : SR G m A S H) (ha : m[n]? = some a) (hc : CellR G m A (upd H a o) a c) : SR G m A (S.set n c) (upd H a o) := by
  refine ⟨s.nd, by rw [List.length_set]; exact s.len, fun i b c' h h' => ?_⟩
  by_cases e : n = i
  · subst e
    rw [ha] at h
    cases h
    have hl : n < S.length := by rw [← s.len]; exact (List.getElem?_eq_some_iff.mp ha).1
    rw [List.getElem?_set_self hl] at h'
    cases h'
    exact hc
  · rw [List.getElem?_set_ne e] at h'
    have hne : b ≠ a := fun z => e (by
      subst z
      obtain ⟨h1, h2⟩ := List.getElem?_eq_some_iff.mp ha
      obtain ⟨h3, h4⟩ := List.getElem?_eq_some_iff.mp h
      exact (List.getElem_inj s.nd).mp (h2.trans h4.symm))
    exact (s.cell i b c' h h').inner (List.mem_of_getElem? ha) hne
theorem SR.setF {n g C : Nat} {a dx : Addr} {fs : List (Nat × D)} {fvs : List (Str × V)} {v : V} {d : D} (inj : ∀ i j, G.fld i = G.fld j → i = j) (s : SR G m A S H) (ha : m[n]? = some a) (h1 : H a = some (.ins (G.cls C) dx fvs)) (h2 : H dx = some (.own a)) (h3 : dx ∉ m) (h4 : ¬ A dx)
    (h5 : fvs.map (·.1) = fs.map (fun q => G.fld q.1)) (r : RL G.K m A H (fvs.map (·.2)) (fs.map (·.2))) (rv : RV G.K m A H v d) : SR G m A (S.set n (.ins C (putN g d fs))) (upd H a (.ins (G.cls C) dx (L2.putF (G.fld g) v fvs))) := by
  have e := Ext.inner (H := H) (o := .ins (G.cls C) dx (L2.putF (G.fld g) v fvs)) (List.mem_of_getElem? ha)
  exact s.write ha ⟨dx, _, upd_at, e.keep _ _ h3 h2, h3, h4, put_keys inj h5, (put_vals inj rv h5 r).ext e⟩
/-- a new one -/
theorem Ext.made {x dx : Addr} {o o' : HO} (hx : H x = none) (hd : H dx = none) : Ext m H (m ++ [x]) (upd (upd H dx o) x o') := by
  refine ⟨⟨[x], rfl, by simpa using hx⟩, fun a u _ e => ?_, fun a e => ?_⟩
  · rw [L2.upd_ne (L2.ne_of_none e hx), L2.upd_ne (L2.ne_of_none e hd)]; exact e
  · by_cases q : a = x
    · rw [q, upd_at]; exact fun z => nomatch z
    · rw [L2.upd_ne q]
      by_cases q2 : a = dx
      · rw [q2, upd_at]; exact fun z => nomatch z
      · rw [L2.upd_ne q2]; exact e
theorem SR.make {x dx : Addr} {C : Nat} (s : SR G m A S H) (hl : ∀ a, A a → H a ≠ none) (hx : H x = none) (hd : H dx = none) (hne : dx ≠ x) :
    SR G (m ++ [x]) A (S ++ [.ins C []]) (upd (upd H dx (.own x)) x (.ins (G.cls C) dx [])) := by
  have e : Ext m H (m ++ [x]) (upd (upd H dx (.own x)) x (.ins (G.cls C) dx [])) := Ext.made hx hd
  have nx : x ∉ m := fun z => s.live z hx
  have ndx : dx ∉ m := fun z => s.live z hd
  refine ⟨?_, by simp [s.len], fun i a c h h' => ?_⟩
  · rw [List.nodup_append]
    exact ⟨s.nd, by simp, fun a ha b hb => by rw [List.mem_singleton] at hb; rw [hb]; exact fun z => nx (z ▸ ha)⟩
  · by_cases hi : i < m.length
    · rw [List.getElem?_append_left hi] at h
      rw [List.getElem?_append_left (by rw [← s.len]; exact hi)] at h'
      have q := s.cell i a c h h'
      have ha : a ≠ x := fun z => nx (z ▸ List.mem_of_getElem? h)
      have ha2 : a ≠ dx := fun z => ndx (z ▸ List.mem_of_getElem? h)
      have same : (upd (upd H dx (.own x)) x (.ins (G.cls C) dx [])) a = H a := by rw [L2.upd_ne ha, L2.upd_ne ha2]
      cases c with
      | ins C' fs =>
        obtain ⟨dy, fvs, h1, h2, h3, h4, h5, r⟩ := q
        exact ⟨dy, fvs, same.trans h1, e.keep _ _ h3 h2, e.out h3 (is_some h2), h4, h5, r.ext e⟩
      | dic kvs =>
        obtain ⟨ks, h1, h5, r⟩ := q
        exact ⟨ks, same.trans h1, h5, r.ext e⟩
    · rw [List.getElem?_append_right (by omega)] at h
      rw [List.getElem?_append_right (by rw [← s.len]; omega)] at h'
      have e1 : i - m.length = 0 := by
        cases q : i - m.length with
        | zero => rfl
        | succ k => rw [q] at h; cases h
      rw [e1] at h
      rw [← s.len, e1] at h'
      cases h
      cases h'
      refine ⟨dx, [], upd_at, by rw [L2.upd_ne hne, upd_at], ?_, fun z => hl dx z hd, rfl, .nil⟩
      intro z
      rcases List.mem_append.mp z with z | z
      · exact ndx z
      · exact hne (List.mem_singleton.mp z)
/-- a cell of the store, by its number -/
theorem SR.at {n : Nat} {a : Addr} {c : Cell} (s : SR G m A S H) (ha : m[n]? = some a) (hc : S[n]? = some c) : CellR G m A H a c := s.cell n a c ha hc
theorem RV.inv_obj {v : V} {n : Nat} (r : RV K m A H v (.obj n)) : ∃ a, v = .ref a ∧ m[n]? = some a := by
  cases r with
  | obj h => exact ⟨_, rfl, h⟩
end
end Mi
/-! Mini: the operations on data are the layer's. -/
namespace Mi
open PySem (Str Addr Value Expr Stmt Scope PyData sizeLine)
open L2 (V Hp HO Key upd Rd SqL SqT Cx VK R2 OpR CallR MtR IxR SlR)

/-- nothing, or one thing, has been laid -/
def Nw (H H' : Hp) : Prop := H' = H ∨ ∃ p o, H p = none ∧ H' = upd H p o
theorem Nw.same (H : Hp) : Nw H H := .inl rfl
theorem Nw.mk {H : Hp} {p : Addr} {o : HO} (h : H p = none) : Nw H (upd H p o) := .inr ⟨p, o, h, rfl⟩
theorem Nw.ext {m : List Addr} {H H' : Hp} (h : Nw H H') : Ext m H m H' := by
  rcases h with rfl | ⟨p, o, hp, rfl⟩
  · exact Ext.refl _ _
  · exact Ext.new hp
/-- the places are held -/
structure Held (m : List Addr) (A : Addr → Prop) (H : Hp) : Prop where
  a : ∀ a, A a → H a ≠ none
  m : ∀ a ∈ m, H a ≠ none
section
variable {K : PySem.W.Frag} {m : List Addr} {A : Addr → Prop} {H : Hp} {p : Addr}
theorem Held.na (h : Held m A H) (hp : H p = none) : ¬ A p := fun z => h.a p z hp
theorem Held.nm (h : Held m A H) (hp : H p = none) : p ∉ m := fun z => h.m p z hp
theorem rv_new_lst (h : Held m A H) {vs : List V} {ds : List D} (hp : H p = none) (r : RL K m A H vs ds) : RV K m A (upd H p (.lst vs)) (.ref p) (.lst ds) :=
  .lst upd_at (h.nm hp) (h.na hp) (r.ext (Ext.new hp))
theorem rv_new_tup (h : Held m A H) {vs : List V} {ds : List D} (hp : H p = none) (r : RL K m A H vs ds) (b : ds.all strB = false) : RV K m A (upd H p (.tup vs)) (.ref p) (.tup ds) :=
  .tup (.inl ⟨upd_at, b⟩) (h.nm hp) (h.na hp) (r.ext (Ext.new hp))
theorem rv_new_xtp (h : Held m A H) {vs : List V} {ds : List D} {o : PySem.Obj} (hp : H p = none) (hd : o.dict = none) (hc : o.cls = .type "tuple") (r : RL K m A H vs ds) (b : ds.all strB = true) : RV K m A (upd H p (.frz o (.tup vs))) (.ref p) (.tup ds) :=
  .tup (.inr ⟨o, upd_at, hd, hc, b⟩) (h.nm hp) (h.na hp) (r.ext (Ext.new hp))

/-! ### == -/
mutual
def toPD : D → PyData
  | .non => .none
  | .bl b => .bool b
  | .int i => .int i
  | .str s => .str ⟨s.toArray⟩
  | .lst xs => .list (toPDs xs)
  | .tup xs => .tuple (toPDs xs)
  | .obj _ => .none
  | .scr ns => .list (ns.map PyData.int)
def toPDs : List D → List PyData
  | [] => []
  | x :: xs => toPD x :: toPDs xs
end
mutual
theorem dp_of : ∀ {n : Nat} {v : V} {d : D}, pl n d = true → RV K m A H v d → L2.Dp K H v (toPD d)
  | _, _, _, _, .non => .non
  | _, _, _, _, .bl b => .bl b
  | _, _, _, _, .int i => .int i
  | _, _, _, _, .str x h => by
    have := L2.Dp.str (K := K) (H := H) x
    simpa [toPD] using this
  | 0, _, _, h, .lst _ _ _ _ => by cases h
  | n + 1, _, _, h, .lst e _ _ r => .lst (sqL_of e) (dps_of (n := n) (by simpa [pl] using h) r)
  | 0, _, _, h, .tup _ _ _ _ => by cases h
  | n + 1, _, _, h, .tup e _ _ r => .tup (sqT_of e) (dps_of (n := n) (by simpa [pl] using h) r)
  | 0, _, _, h, .ktp _ _ _ => by cases h
  | n + 1, _, _, h, .ktp e _ r => .tup (sqT_k e) (dps_of (n := n) (by simpa [pl] using h) r)
  | 0, _, _, h, .obj _ => by cases h
  | n + 1, _, _, h, .obj _ => by cases h
  | 0, _, _, h, .scr _ => by cases h
  | n + 1, _, _, h, .scr _ => by cases h
theorem dps_of : ∀ {n : Nat} {vs : List V} {ds : List D}, (∀ d ∈ ds, pl n d = true) → RL K m A H vs ds → L2.DpAll K H vs (toPDs ds)
  | _, _, _, _, .nil => .nil
  | n, _, _, h, .cons r t => .cons (dp_of (h _ (List.mem_cons_self ..)) r) (dps_of (fun d hd => h d (List.mem_cons_of_mem _ hd)) t)
end
mutual
theorem lay_of : ∀ {n : Nat} {v : V} {d : D}, pl n d = true → RV K m A H v d → PyData.canLay0 (toPD d) = true ∧ (toPD d).depth ≤ n
  | _, _, _, _, .non => ⟨rfl, Nat.zero_le _⟩
  | _, _, _, _, .bl b => ⟨rfl, Nat.zero_le _⟩
  | _, _, _, _, .int i => ⟨rfl, Nat.zero_le _⟩
  | _, _, _, _, .str x h => ⟨by
      have h1 := h.1
      show PyData.strOk ⟨x.cps.toList.toArray⟩ = true
      unfold PyData.strOk
      rw [Array.all_eq_true]
      intro i hi
      exact decide_eq_true (h1 _ (by simp)), Nat.zero_le _⟩
  | 0, _, _, h, .lst _ _ _ _ => by cases h
  | n + 1, _, _, h, .lst e _ _ r => by
    obtain ⟨h1, h2⟩ := lays_of (n := n) (by simpa [pl] using h) r
    exact ⟨h1, Nat.succ_le_succ h2⟩
  | 0, _, _, h, .tup _ _ _ _ => by cases h
  | n + 1, _, _, h, .tup e _ _ r => by
    obtain ⟨h1, h2⟩ := lays_of (n := n) (by simpa [pl] using h) r
    exact ⟨h1, Nat.succ_le_succ h2⟩
  | 0, _, _, h, .ktp _ _ _ => by cases h
  | n + 1, _, _, h, .ktp e _ r => by
    obtain ⟨h1, h2⟩ := lays_of (n := n) (by simpa [pl] using h) r
    exact ⟨h1, Nat.succ_le_succ h2⟩
  | 0, _, _, h, .obj _ => by cases h
  | n + 1, _, _, h, .obj _ => by cases h
  | 0, _, _, h, .scr _ => by cases h
  | n + 1, _, _, h, .scr _ => by cases h
theorem lays_of : ∀ {n : Nat} {vs : List V} {ds : List D}, (∀ d ∈ ds, pl n d = true) → RL K m A H vs ds → PyData.canLayAll0 (toPDs ds) = true ∧ PyData.depthAll (toPDs ds) ≤ n
  | _, _, _, _, .nil => ⟨rfl, Nat.zero_le _⟩
  | n, _, _, h, .cons r t => by
    obtain ⟨h1, h2⟩ := lay_of (h _ (List.mem_cons_self ..)) r
    obtain ⟨h3, h4⟩ := lays_of (fun d hd => h d (List.mem_cons_of_mem _ hd)) t
    exact ⟨by show (PyData.canLay0 _ && PyData.canLayAll0 _) = true; rw [h1, h3] <;> rfl, Nat.max_le.mpr ⟨h2, h4⟩⟩
end
theorem shaped_of {v : V} {d : D} (h : pl 20 d = true) (r : RV K m A H v d) : PySem.SeqAt.shaped (toPD d) = true := by
  obtain ⟨h1, h2⟩ := lay_of h r
  unfold PySem.SeqAt.shaped
  rw [h1, decide_eq_true (by omega : (toPD d).depth ≤ 64)] <;> rfl
theorem str_beq (x y : List Nat) : ((⟨x.toArray⟩ : Str) == ⟨y.toArray⟩) = (x == y) := by
  rw [Bool.eq_iff_iff]
  simp
theorem pl_up : ∀ {n : Nat} {d : D}, pl n d = true → pl (n + 1) d = true := by
  intro n
  induction n with
  | zero => intro d h; cases h
  | succ n ih =>
    intro d h
    cases d with
    | lst xs =>
      simp only [pl, List.all_eq_true] at h ⊢
      exact fun x hx => ih (h x hx)
    | tup xs =>
      simp only [pl, List.all_eq_true] at h ⊢
      exact fun x hx => ih (h x hx)
    | obj k => cases h
    | scr k => cases h
    | _ => rfl
theorem pl_le {n k : Nat} (hk : n ≤ k) {d : D} (h : pl n d = true) : pl k d = true := by
  induction hk with
  | refl => exact h
  | step _ ih => exact pl_up ih
theorem pl_pred {n : Nat} {d : D} (h : pl n d = true) : ∃ k, n = k + 1 := by
  cases n with
  | zero => cases h
  | succ k => exact ⟨k, rfl⟩
mutual
theorem eqv_of : ∀ (n : Nat) (d e : D), pl n d = true → pl n e = true → PyData.eqv (toPD d) (toPD e) = deq d e
  | 0, _, _, h, _ => by cases h
  | n + 1, .lst xs, .lst ys, hd, he => by
    simp only [toPD, PyData.eqv, deq]
    exact eqvs_of n xs ys (by simpa [pl] using hd) (by simpa [pl] using he)
  | n + 1, .tup xs, .tup ys, hd, he => by
    simp only [toPD, PyData.eqv, deq]
    exact eqvs_of n xs ys (by simpa [pl] using hd) (by simpa [pl] using he)
  | n + 1, .str x, .str y, hd, he => by
    simp only [toPD, PyData.eqv, deq]
    exact str_beq x y
  | n + 1, .obj _, _, hd, _ => by cases hd
  | n + 1, .scr _, _, hd, _ => by cases hd
  | n + 1, .non, e, _, he => by cases e <;> first | rfl | cases he
  | n + 1, .bl _, e, _, he => by cases e <;> first | rfl | cases he
  | n + 1, .int _, e, _, he => by cases e <;> first | rfl | cases he
  | n + 1, .str _, .non, _, he => rfl
  | n + 1, .str _, .bl _, _, he => rfl
  | n + 1, .str _, .int _, _, he => rfl
  | n + 1, .str _, .lst _, _, he => rfl
  | n + 1, .str _, .tup _, _, he => rfl
  | n + 1, .str _, .obj _, _, he => by cases he
  | n + 1, .str _, .scr _, _, he => by cases he
  | n + 1, .lst _, .non, _, he => rfl
  | n + 1, .lst _, .bl _, _, he => rfl
  | n + 1, .lst _, .int _, _, he => rfl
  | n + 1, .lst _, .str _, _, he => rfl
  | n + 1, .lst _, .tup _, _, he => rfl
  | n + 1, .lst _, .obj _, _, he => by cases he
  | n + 1, .lst _, .scr _, _, he => by cases he
  | n + 1, .tup _, .non, _, he => rfl
  | n + 1, .tup _, .bl _, _, he => rfl
  | n + 1, .tup _, .int _, _, he => rfl
  | n + 1, .tup _, .lst _, _, he => rfl
  | n + 1, .tup _, .str _, _, he => rfl
  | n + 1, .tup _, .obj _, _, he => by cases he
  | n + 1, .tup _, .scr _, _, he => by cases he
theorem eqvs_of : ∀ (n : Nat) (xs ys : List D), (∀ d ∈ xs, pl n d = true) → (∀ d ∈ ys, pl n d = true) → PyData.eqvAll (toPDs xs) (toPDs ys) = deq.deqs xs ys
  | _, [], [], _, _ => rfl
  | _, [], _ :: _, _, _ => rfl
  | _, _ :: _, [], _, _ => rfl
  | n, x :: xs, y :: ys, hx, hy => by
    show (PyData.eqv (toPD x) (toPD y) && PyData.eqvAll (toPDs xs) (toPDs ys)) = (deq x y && deq.deqs xs ys)
    rw [eqv_of n x y (hx x (List.mem_cons_self ..)) (hy y (List.mem_cons_self ..)), eqvs_of n xs ys (fun d h => hx d (List.mem_cons_of_mem _ h)) (fun d h => hy d (List.mem_cons_of_mem _ h))]
end
end

/-! ### the operations, by data -/
/-- how the result comes -/
def Ret (K : PySem.W.Frag) (m : List Addr) (A : Addr → Prop) (H : Hp) (d : D) (Q : VK) : Prop := ∀ v H', Nw H H' → RV K m A H' v d → Q v H'
def rG (K : PySem.W.Frag) (o : O2) : R2 := fun x y H Q => ∃ (m : List Addr) (A : Addr → Prop) (d e d3 : D), Held m A H ∧ RV K m A H x d ∧ RV K m A H y e ∧ op2 o d e = some d3 ∧ Ret K m A H d3 Q
theorem lim_size {n : Nat} (h : n ≤ lim) : n ≤ sizeLine := Nat.le_trans h (by rw [PySem.sizeLine_eq]; decide)
section
variable {X : Cx} {K : PySem.W.Frag} {m : List Addr} {A : Addr → Prop} {H : Hp}
theorem Ret.i {i : Int} {Q : VK} (k : Ret K m A H (.int i) Q) : Q (.int i) H := k _ _ (Nw.same H) (.int i)
theorem Ret.b {b : Bool} {Q : VK} (k : Ret K m A H (.bl b) Q) : Q (.bl b) H := k _ _ (Nw.same H) (.bl b)
theorem Ret.s {s : List Nat} {Q : VK} (k : Ret K m A H (.str s) Q) (h : OkS s) : Q (.str ⟨s.toArray⟩) H := k _ _ (Nw.same H) (rv_str h)
theorem Ret.l {vs : List V} {ds : List D} {Q : VK} (k : Ret K m A H (.lst ds) Q) (h : Held m A H) (r : RL K m A H vs ds) : ∀ p, H p = none → Q (.ref p) (upd H p (.lst vs)) := fun p hp => k _ _ (Nw.mk hp) (rv_new_lst h hp r)
theorem Ret.x {vs : List V} {ds : List D} {Q : VK} (k : Ret K m A H (.tup ds) Q) (h : Held m A H) (r : RL K m A H vs ds) : Rt.Laid H vs Q := by
  cases b : ds.all strB with
  | false => exact .inl fun p hp => k _ _ (Nw.mk hp) (rv_new_tup h hp r b)
  | true => exact .inr fun p o hp hd hc => k _ _ (Nw.mk hp) (rv_new_xtp h hp hd hc r b)
theorem str_app (a b : List Nat) : (⟨a.toArray⟩ : Str) ++ ⟨b.toArray⟩ = ⟨(a ++ b).toArray⟩ := by
  show (⟨a.toArray ++ b.toArray⟩ : Str) = _
  simp
theorem okS_app {a b : List Nat} (ha : OkS a) (hb : OkS b) (h : a.length + b.length ≤ lim) : OkS (a ++ b) :=
  ⟨fun c hc => (List.mem_append.mp hc).elim (ha.1 c) (hb.1 c), lim_size (by rw [List.length_append]; exact h)⟩
theorem str_len (a : List Nat) : (⟨a.toArray⟩ : Str).length = a.length := by simp [Str.length]
theorem og_add : OpR X (PySem.binaryOp .Add) (rG X.K .add) := by
  intro pins s σ H x y v u Q I rx ry h
  obtain ⟨m, A, d, e, d3, hh, r1, r2, eo, k⟩ := h
  cases d with
  | int a =>
    cases e with
    | int b =>
      cases eo
      exact L2.op_add pins s σ H x y v u Q I rx ry ⟨a, b, r1.inv_int, r2.inv_int, k.i⟩
    | _ => cases eo
  | str a =>
    cases e with
    | str b =>
      simp only [op2] at eo
      split at eo
      · rename_i hl
        cases eo
        obtain ⟨e1, o1⟩ := r1.inv_str
        obtain ⟨e2, o2⟩ := r2.inv_str
        refine L2.op_add_str pins s σ H x y v u Q I rx ry ⟨_, _, e1, e2, ?_, ?_⟩
        · rw [str_len, str_len]; exact lim_size hl
        · rw [str_app]; exact k.s (okS_app o1 o2 hl)
      · cases eo
    | _ => cases eo
  | lst a =>
    cases e with
    | lst b =>
      simp only [op2] at eo
      split at eo
      · rename_i hl
        cases eo
        obtain ⟨p, vs, e1, h1, _, _, q1⟩ := r1.inv_lst
        obtain ⟨q, ws, e2, h2, _, _, q2⟩ := r2.inv_lst
        exact L2.op_cat pins s σ H x y v u Q I rx ry ⟨p, q, vs, ws, e1, e2, h1, h2, by rw [q1.length, q2.length]; exact lim_size hl, k.l hh (q1.append q2)⟩
      · cases eo
    | _ => cases eo
  | tup a =>
    cases e with
    | tup b =>
      simp only [op2] at eo
      split at eo
      · rename_i hl
        cases eo
        obtain ⟨p, vs, e1, h1, q1⟩ := r1.inv_tup
        obtain ⟨q, ws, e2, h2, q2⟩ := r2.inv_tup
        refine Rt.op_catX pins s σ H x y v u Q I rx ry ⟨p, q, vs, ws, e1, e2, h1, h2, by rw [q1.length, q2.length]; exact lim_size hl, fun z => ?_, fun _ z => ?_, fun _ _ => k.x hh (q1.append q2)⟩
        · subst z
          cases q1
          rw [← e2]
          exact k _ _ (Nw.same H) r2
        · subst z
          cases q2
          rw [← e1]
          rw [List.append_nil] at k
          exact k _ _ (Nw.same H) r1
      · cases eo
    | _ => cases eo
  | _ => cases e <;> cases eo
theorem og_sub : OpR X (PySem.binaryOp .Sub) (rG X.K .sub) := by
  intro pins s σ H x y v u Q I rx ry h
  obtain ⟨m, A, d, e, d3, hh, r1, r2, eo, k⟩ := h
  cases d with
  | int a =>
    cases e with
    | int b =>
      cases eo
      exact L2.op_sub pins s σ H x y v u Q I rx ry ⟨a, b, r1.inv_int, r2.inv_int, k.i⟩
    | _ => cases eo
  | _ => cases e <;> cases eo
theorem reps_foldl (c : Nat) : ∀ (n : Nat) (acc : Array Nat), (List.replicate n #[c]).foldl (· ++ ·) acc = acc ++ (List.replicate n c).toArray
  | 0, acc => by simp
  | n + 1, acc => by
    rw [List.replicate_succ, List.foldl_cons, reps_foldl c n, List.replicate_succ]
    apply Array.ext'
    simp
theorem txt_mul (c : Nat) (i : Int) : PySem.Txt.mul ⟨#[c]⟩ i = ⟨(List.replicate i.toNat c).toArray⟩ := by
  unfold PySem.Txt.mul
  by_cases h : i < 1
  · rw [if_pos h, show i.toNat = 0 by omega]
    rfl
  · rw [if_neg h]
    by_cases h1 : i = 1
    · subst h1
      rfl
    · rw [if_neg (by simp [h1, Str.length]), reps_foldl]
      simp
theorem og_mul : OpR X (PySem.binaryOp .Mult) (rG X.K .mul) := by
  intro pins s σ H x y v u Q I rx ry h
  obtain ⟨m, A, d, e, d3, hh, r1, r2, eo, k⟩ := h
  cases d with
  | int a =>
    cases e with
    | int b =>
      simp only [op2] at eo
      split at eo
      · rename_i hl
        cases eo
        exact L2.op_mul pins s σ H x y v u Q I rx ry ⟨a, b, r1.inv_int, r2.inv_int, by unfold L2.CMul; omega, k.i⟩
      · cases eo
    | _ => cases eo
  | lst a =>
    cases e with
    | int b =>
      simp only [op2] at eo
      split at eo
      · rename_i hl
        cases eo
        obtain ⟨p, vs, e1, h1, _, _, q1⟩ := r1.inv_lst
        exact L2.op_rep pins s σ H x y v u Q I rx ry ⟨p, b, vs, e1, r2.inv_int, h1, by omega, by omega, by rw [q1.length]; exact lim_size hl.1, k.l hh (q1.reps _)⟩
      · cases eo
    | _ => cases eo
  | str a =>
    cases e with
    | int b =>
      cases a with
      | nil => cases eo
      | cons c r =>
        cases r with
        | cons _ _ => cases eo
        | nil =>
          simp only [op2] at eo
          split at eo
          · rename_i hl
            cases eo
            obtain ⟨e1, o1⟩ := r1.inv_str
            have e2 := r2.inv_int
            subst e1 e2
            obtain ⟨t1, rfl⟩ := rx
            obtain ⟨t2, rfl⟩ := ry
            refine PySem.SB.mul (PyProof.Rows.mulOk_of 1 1000000 (by simp [Str.length]) (by omega) (by omega) (by decide) (by decide)) fun t' tk => ?_
            refine ⟨.str ⟨(List.replicate b.toNat c).toArray⟩, H, I.tok tk, ⟨t', ?_⟩, k.s ⟨fun z hz => ?_, ?_⟩⟩
            · rw [txt_mul]
            · rw [List.eq_of_mem_replicate hz]; exact o1.1 c (by simp)
            · rw [List.length_replicate]; exact lim_size (by unfold lim; omega)
          · cases eo
    | _ =>
      cases a with
      | nil => cases eo
      | cons c r => cases r <;> cases eo
  | _ => cases e <;> cases eo
theorem og_fdv : OpR X (PySem.binaryOp .FloorDiv) (rG X.K .fdv) := by
  intro pins s σ H x y v u Q I rx ry h
  obtain ⟨m, A, d, e, d3, hh, r1, r2, eo, k⟩ := h
  cases d with
  | int a =>
    cases e with
    | int b =>
      simp only [op2] at eo
      split at eo
      · rename_i hl
        cases eo
        refine L2.op_fdivW pins s σ H x y v u Q I rx ry ⟨a, b, r1.inv_int, r2.inv_int, ⟨hl.1, ?_⟩, k.i⟩
        have h1 : b.natAbs < 2 ^ 64 := by omega
        have h2 : b.natAbs.log2 < 64 := (Nat.log2_lt (by omega)).mpr h1
        omega
      · cases eo
    | _ => cases eo
  | _ => cases e <;> cases eo
theorem og_mod : OpR X (PySem.binaryOp .Mod) (rG X.K .mod) := by
  intro pins s σ H x y v u Q I rx ry h
  obtain ⟨m, A, d, e, d3, hh, r1, r2, eo, k⟩ := h
  cases d with
  | int a =>
    cases e with
    | int b =>
      simp only [op2] at eo
      split at eo
      · rename_i hl
        cases eo
        exact L2.op_mod pins s σ H x y v u Q I rx ry ⟨a, b, r1.inv_int, r2.inv_int, hl, k.i⟩
      · cases eo
    | _ => cases eo
  | _ => cases e <;> cases eo
theorem og_pow : OpR X (PySem.binaryOp .Pow) (rG X.K .pow) := by
  intro pins s σ H x y v u Q I rx ry h
  obtain ⟨m, A, d, e, d3, hh, r1, r2, eo, k⟩ := h
  cases d with
  | int a =>
    cases e with
    | int b =>
      simp only [op2] at eo
      split at eo
      · rename_i hl
        cases eo
        exact L2.op_pow pins s σ H x y v u Q I rx ry ⟨a, b, r1.inv_int, r2.inv_int, hl, k.i⟩
      · cases eo
    | _ => cases eo
  | _ => cases e <;> cases eo
theorem eqO_cases {a b : D} {t : Bool} (h : eqO a b = some t) : (∃ ns, a = .scr ns ∧ b = .lst [] ∧ t = ns.isEmpty) ∨ (pl 20 a = true ∧ pl 20 b = true ∧ t = deq a b) := by
  unfold eqO at h
  split at h
  · cases h
    exact .inl ⟨_, rfl, rfl, rfl⟩
  · split at h
    · rename_i hl
      cases h
      exact .inr ⟨hl.1, hl.2, rfl⟩
    · cases h
theorem dps_ints : ∀ ns : List Int, L2.DpAll K H (ns.map V.int) (ns.map PyData.int)
  | [] => .nil
  | n :: ns => .cons (.int n) (dps_ints ns)
theorem lay_intsL : ∀ ns : List Int, PyData.canLayAll0 (ns.map PyData.int) = true ∧ PyData.depthAll (ns.map PyData.int) = 0
  | [] => ⟨rfl, rfl⟩
  | n :: ns => by
    obtain ⟨h1, h2⟩ := lay_intsL ns
    exact ⟨by show (PyData.canLay0 (.int n) && PyData.canLayAll0 (ns.map PyData.int)) = true; rw [h1] <;> rfl, by show max (PyData.depth (.int n)) (PyData.depthAll (ns.map PyData.int)) = 0; rw [h2] <;> rfl⟩
theorem eq_data {v u : V} {a b : D} {t : Bool} (h : eqO a b = some t) (r1 : RV K m A H v a) (r2 : RV K m A H u b) :
    ∃ d e, L2.Dp K H v d ∧ L2.Dp K H u e ∧ PySem.SeqAt.shaped d = true ∧ PySem.SeqAt.shaped e = true ∧ PyData.eqv d e = t := by
  rcases eqO_cases h with ⟨ns, rfl, rfl, rfl⟩ | ⟨h1, h2, rfl⟩
  · cases r1 with
    | scr h =>
      refine ⟨_, _, .lst h.sq (dps_ints ns), dp_of (n := 20) rfl r2, ?_, shaped_of rfl r2, ?_⟩
      · obtain ⟨h1, h2⟩ := lay_intsL ns
        unfold PySem.SeqAt.shaped
        have e1 : PyData.canLay0 (.list (ns.map PyData.int)) = true := h1
        have e2 : PyData.depth (.list (ns.map PyData.int)) = 1 := by show PyData.depthAll _ + 1 = 1; rw [h2]
        rw [e1, e2] <;> rfl
      · cases ns <;> rfl
  · exact ⟨_, _, dp_of h1 r1, dp_of h2 r2, shaped_of h1 r1, shaped_of h2 r2, eqv_of 20 a b h1 h2⟩
theorem og_eq (hu : X.A.units + 64 < PySem.cLine) : OpR X (PySem.compareOp .Eq) (rG X.K .eq) := by
  intro pins s σ H x y v u Q I rx ry h
  obtain ⟨m, A, d, e, d3, hh, r1, r2, eo, k⟩ := h
  simp only [op2] at eo
  cases q : eqO d e with
  | none => rw [q] at eo; cases eo
  | some t =>
    rw [q] at eo
    cases eo
    obtain ⟨d', e', h1, h2, h3, h4, h5⟩ := eq_data q r1 r2
    exact L2.op_eqD hu pins s σ H x y v u Q I rx ry ⟨d', e', h1, h2, h3, h4, by rw [h5]; exact k.b⟩
theorem og_ne (hu : X.A.units + 64 < PySem.cLine) : OpR X (PySem.compareOp .NotEq) (rG X.K .ne) := by
  intro pins s σ H x y v u Q I rx ry h
  obtain ⟨m, A, d, e, d3, hh, r1, r2, eo, k⟩ := h
  simp only [op2] at eo
  cases q : eqO d e with
  | none => rw [q] at eo; cases eo
  | some t =>
    rw [q] at eo
    cases eo
    obtain ⟨d', e', h1, h2, h3, h4, h5⟩ := eq_data q r1 r2
    exact L2.op_neD hu pins s σ H x y v u Q I rx ry ⟨d', e', h1, h2, h3, h4, by rw [h5]; exact k.b⟩
theorem lex_eq : ∀ x y : List Int, lexLt x y = HT.lexLt x y
  | [], [] => rfl
  | [], _ :: _ => rfl
  | _ :: _, [] => rfl
  | a :: x, b :: y => by
    rw [HT.lexLt_cons, ← lex_eq x y]
    rfl
theorem og_lt (hu : X.A.units < PySem.cLine) : OpR X (PySem.compareOp .Lt) (rG X.K .lt) := by
  intro pins s σ H x y v u Q I rx ry h
  obtain ⟨m, A, d, e, d3, hh, r1, r2, eo, k⟩ := h
  cases d with
  | int a =>
    cases e with
    | int b =>
      cases eo
      exact L2.op_lt pins s σ H x y v u Q I rx ry ⟨a, b, r1.inv_int, r2.inv_int, k.b⟩
    | _ => cases eo
  | tup a =>
    cases e with
    | tup b =>
      simp only [op2] at eo
      cases qa : intsD a with
      | none => rw [qa] at eo; cases eo
      | some na =>
        cases qb : intsD b with
        | none => rw [qa, qb] at eo; cases eo
        | some nb =>
          rw [qa, qb] at eo
          cases eo
          obtain ⟨p, vs, e1, h1, q1⟩ := r1.inv_tup
          obtain ⟨q, ws, e2, h2, q2⟩ := r2.inv_tup
          have z1 := q1.asInts qa
          have z2 := q2.asInts qb
          subst z1 z2
          exact L2.op_ltT hu pins s σ H x y v u Q I rx ry ⟨p, q, na, nb, e1, e2, h1, h2, by rw [← lex_eq]; exact k.b⟩
    | _ => cases eo
  | _ => cases e <;> cases eo
theorem og_le : OpR X (PySem.compareOp .LtE) (rG X.K .le) := by
  intro pins s σ H x y v u Q I rx ry h
  obtain ⟨m, A, d, e, d3, hh, r1, r2, eo, k⟩ := h
  cases d with
  | int a =>
    cases e with
    | int b =>
      cases eo
      exact L2.op_le pins s σ H x y v u Q I rx ry ⟨a, b, r1.inv_int, r2.inv_int, k.b⟩
    | _ => cases eo
  | _ => cases e <;> cases eo
theorem og_ge : OpR X (PySem.compareOp .GtE) (rG X.K .ge) := by
  intro pins s σ H x y v u Q I rx ry h
  obtain ⟨m, A, d, e, d3, hh, r1, r2, eo, k⟩ := h
  cases d with
  | int a =>
    cases e with
    | int b =>
      cases eo
      exact L2.op_ge pins s σ H x y v u Q I rx ry ⟨a, b, r1.inv_int, r2.inv_int, k.b⟩
    | _ => cases eo
  | _ => cases e <;> cases eo
theorem lexAt_gt {e r : Nat → Bool} : ∀ (xs ys : List Int) (i : Nat), (∀ j, e (i + j) = decide (xs.getD j 0 = ys.getD j 0)) → (∀ j, r (i + j) = decide (ys.getD j 0 < xs.getD j 0)) →
    Ob.lexAt e r (decide (xs.length > ys.length)) i (min xs.length ys.length) = lexLt ys xs
  | [], ys, i, he, hr => by
    rw [List.length_nil, Nat.zero_min, Ob.lexAt_zero]
    cases ys <;> simp [lexLt]
  | x :: xs, [], i, he, hr => by
    rw [List.length_nil, Nat.min_zero, Ob.lexAt_zero]
    simp [lexLt]
  | x :: xs, y :: ys, i, he, hr => by
    have e0 := he 0
    have r0 := hr 0
    have ih := lexAt_gt (e := e) (r := r) xs ys (i + 1) (fun j => by have := he (j + 1); rw [show i + (j + 1) = i + 1 + j by omega] at this; rw [this]; simp) (fun j => by have := hr (j + 1); rw [show i + (j + 1) = i + 1 + j by omega] at this; rw [this]; simp)
    have l : decide ((x :: xs).length > (y :: ys).length) = decide (xs.length > ys.length) := by simp
    rw [l, List.length_cons, List.length_cons, show min (xs.length + 1) (ys.length + 1) = min xs.length ys.length + 1 by omega, Ob.lexAt_succ, ih]
    simp only [Nat.add_zero, List.getD_cons_zero] at e0 r0
    rw [e0, r0, lexLt]
    by_cases q : x = y
    · simp [q]
    · simp [q, Ne.symm q]
theorem og_gtT (hu : X.A.units < PySem.cLine) {pins : List (Addr × PySem.Obj)} {s : PySem.Shared} {σ : L2.St} {H : Hp} {Q : VK} {a b : Addr} {ns ms : List Int} (I : L2.Inv X pins σ H s) (ha : SqT X.K H a (ns.map V.int)) (hb : SqT X.K H b (ms.map V.int)) (q : Q (.bl (lexLt ms ns)) H) :
    PySem.wpAny (PySem.model X.prog X.w) X.A (PySem.compareOp .Gt (.ref a) (.ref b)) (L2.EP X pins σ Q) X.xe s := by
  obtain ⟨t1, f1, g1, _⟩ := I.tuple ha
  obtain ⟨t2, f2, g2, _⟩ := I.tuple hb
  have m1 : PyProof.Rows.IntsAre t1 ns := L2.Vals.ints f1
  have m2 : PyProof.Rows.IntsAre t2 ms := L2.Vals.ints f2
  have w1 : t1.toArray.size = ns.length := by simpa using m1.length
  have w2 : t2.toArray.size = ms.length := by simpa using m2.length
  have u1 : ∀ j, (h1 : j < t1.toArray.size) → ∃ t, t1.toArray[j] = .int (ns.getD j 0) t := fun j h1 => PyProof.Rows.IntsAre.int_at m1 j _ (by simp at h1; simp [h1])
  have u2 : ∀ j, (h1 : j < t2.toArray.size) → ∃ t, t2.toArray[j] = .int (ms.getD j 0) t := fun j h1 => PyProof.Rows.IntsAre.int_at m2 j _ (by simp at h1; simp [h1])
  have T := Ob.RcOp.tuples_gt (A := X.A) (s := s) (e := fun j => (ns.getD j 0 == ms.getD j 0)) (r := fun j => decide (ms.getD j 0 < ns.getD j 0)) g1 g2 hu
    (fun j h1 h2 => by
      obtain ⟨x, ex⟩ := u1 j h1
      obtain ⟨y, ey⟩ := u2 j h2
      rw [ex, ey]
      exact PySem.SeqAt.EqAt.int_int _ _ _ _)
    (fun j h1 h2 _ => by
      obtain ⟨x, ex⟩ := u1 j h1
      obtain ⟨y, ey⟩ := u2 j h2
      rw [ex, ey]
      exact Ob.RcOp.gt_int _ _ _ _)
  rw [w1, w2, lexAt_gt ns ms 0 (fun j => by rw [Nat.zero_add, Bool.eq_iff_iff]; simp) (fun j => by simp)] at T
  exact T X.prog X.w X.xe (L2.EP X pins σ Q) ⟨.bl _, H, I, rfl, q⟩
theorem og_gt (hu : X.A.units < PySem.cLine) : OpR X (PySem.compareOp .Gt) (rG X.K .gt) := by
  intro pins s σ H x y v u Q I rx ry h
  obtain ⟨m, A, d, e, d3, hh, r1, r2, eo, k⟩ := h
  cases d with
  | int a =>
    cases e with
    | int b =>
      cases eo
      exact L2.op_gt pins s σ H x y v u Q I rx ry ⟨a, b, r1.inv_int, r2.inv_int, k.b⟩
    | _ => cases eo
  | tup a =>
    cases e with
    | tup b =>
      simp only [op2] at eo
      cases qa : intsD a with
      | none => rw [qa] at eo; cases eo
      | some na =>
        cases qb : intsD b with
        | none => rw [qa, qb] at eo; cases eo
        | some nb =>
          rw [qa, qb] at eo
          cases eo
          obtain ⟨p, vs, rfl, h1, q1⟩ := r1.inv_tup
          obtain ⟨q, ws, rfl, h2, q2⟩ := r2.inv_tup
          have z1 := q1.asInts qa
          have z2 := q2.asInts qb
          subst z1 z2
          cases rx
          cases ry
          exact og_gtT hu I h1 h2 k.b
    | _ => cases eo
  | _ => cases e <;> cases eo
theorem flat_of {v : V} {d : D} (r : RV K m A H v d) (h : flat d = true) : L2.flatV v = true := by
  cases r <;> first | rfl | cases h
theorem flats_of {ds : List D} : ∀ {vs : List V}, RL K m A H vs ds → ds.all flat = true → vs.all L2.flatV = true := by
  induction ds with
  | nil => intro vs r _; cases r; rfl
  | cons d ds ih =>
    intro vs r h
    cases r with
    | cons r t =>
      rw [List.all_cons, Bool.and_eq_true_iff] at h ⊢
      exact ⟨flat_of r h.1, ih t h.2⟩
theorem eqV_of {v u : V} {d e : D} (r : RV K m A H v d) (r' : RV K m A H u e) (h : flat d = true) (h' : flat e = true) : L2.eqV v u = deq d e := by
  cases r <;> first | (cases h; done) | skip
  all_goals (cases r' <;> first | rfl | (cases h'; done) | skip)
  rename_i x _ y _
  show (x == y) = (x.cps.toList == y.cps.toList)
  rw [Bool.eq_iff_iff]
  simp only [beq_iff_eq]
  constructor
  · intro z; rw [z]
  · intro z
    cases x; cases y
    simp only at z
    rw [Array.toList_inj.mp z]
theorem any_of {v : V} {d : D} (r : RV K m A H v d) (h : flat d = true) {ds : List D} : ∀ {vs : List V}, RL K m A H vs ds → ds.all flat = true → L2.inV v vs = ds.any fun y => deq y d := by
  induction ds with
  | nil => intro vs r _; cases r; rfl
  | cons e ds ih =>
    intro vs r' h'
    cases r' with
    | cons r1 t =>
      rw [List.all_cons, Bool.and_eq_true_iff] at h'
      have := ih t h'.2
      unfold L2.inV at this ⊢
      rw [List.any_cons, List.any_cons, this, eqV_of r1 r h'.1 h]
theorem in_seq {v u : V} {a b : D} {t : Bool} (q : inO a b = some t) (r1 : RV K m A H v a) (r2 : RV K m A H u b) :
    (∃ p xs, u = .ref p ∧ (SqL K H p xs ∨ SqT K H p xs) ∧ L2.flatV v = true ∧ xs.all L2.flatV = true ∧ L2.inV v xs = t) ∨ ∃ (c : Nat) (z : Str), v = .str ⟨#[c]⟩ ∧ u = .str z ∧ decide (c ∈ z.cps.toList) = t := by
  cases b with
  | lst bs =>
    simp only [inO] at q
    split at q
    · rename_i hl
      cases q
      obtain ⟨p, vs, e1, h1, _, _, q1⟩ := r2.inv_lst
      exact .inl ⟨p, vs, e1, .inl (sqL_of h1), flat_of r1 hl.1, flats_of q1 hl.2, any_of r1 hl.1 q1 hl.2⟩
    · cases q
  | tup bs =>
    simp only [inO] at q
    split at q
    · rename_i hl
      cases q
      obtain ⟨p, vs, e1, h1, q1⟩ := r2.inv_tup
      exact .inl ⟨p, vs, e1, .inr h1, flat_of r1 hl.1, flats_of q1 hl.2, any_of r1 hl.1 q1 hl.2⟩
    · cases q
  | str bs =>
    cases a with
    | str as =>
      cases as with
      | nil => cases q
      | cons c r =>
        cases r with
        | cons _ _ => cases q
        | nil =>
          cases q
          exact .inr ⟨c, ⟨bs.toArray⟩, r1.inv_str.1, r2.inv_str.1, by simp⟩
    | _ => cases q
  | _ => cases q
theorem og_in : OpR X (PySem.compareOp .In) (rG X.K .isin) := by
  intro pins s σ H x y v u Q I rx ry h
  obtain ⟨m, A, d, e, d3, hh, r1, r2, eo, k⟩ := h
  simp only [op2] at eo
  cases q : inO d e with
  | none => rw [q] at eo; cases eo
  | some t =>
    rw [q] at eo
    cases eo
    rcases in_seq q r1 r2 with ⟨p, xs, e1, e2, e3, e4, e5⟩ | ⟨c, z, e1, e2, e3⟩
    · refine L2.op_in_seq pins s σ H x y v u Q I rx ry ⟨p, xs, e1, e2, e3, e4, ?_⟩
      show Q (.bl (L2.inV x xs)) H
      rw [e5]; exact k.b
    · exact L2.op_in_sign pins s σ H x y v u Q I rx ry ⟨c, z, e1, e2, by rw [e3]; exact k.b⟩
theorem og_nin : OpR X (PySem.compareOp .NotIn) (rG X.K .nin) := by
  intro pins s σ H x y v u Q I rx ry h
  obtain ⟨m, A, d, e, d3, hh, r1, r2, eo, k⟩ := h
  simp only [op2] at eo
  cases q : inO d e with
  | none => rw [q] at eo; cases eo
  | some t =>
    rw [q] at eo
    cases eo
    rcases in_seq q r1 r2 with ⟨p, xs, e1, e2, e3, e4, e5⟩ | ⟨c, z, e1, e2, e3⟩
    · refine L2.op_notIn_seq pins s σ H x y v u Q I rx ry ⟨p, xs, e1, e2, e3, e4, ?_⟩
      show Q (.bl (!L2.inV x xs)) H
      rw [e5]; exact k.b
    · exact L2.op_notIn_sign pins s σ H x y v u Q I rx ry ⟨c, z, e1, e2, by rw [e3]; exact k.b⟩
theorem is_none {v : V} {a : D} (r : RV K m A H v a) : decide (v = .non) = isNon a := by
  cases r <;> rfl
theorem v_ne_bool {v : Value} {x : V} {a : D} {b : Bool} (r : RV K m A H x a) (rx : L2.RelV x v) (h : isO a (.bl b) = some false) (hn : ∀ c, a ≠ .bl c) : v ≠ .bool b ∧ PySem.plainIs v (.bool b) = true := by
  cases r with
  | non => cases rx; exact ⟨(fun z => nomatch z), rfl⟩
  | bl c => exact (hn c rfl).elim
  | int i => obtain ⟨t, e⟩ := rx; subst e; exact ⟨(fun z => nomatch z), rfl⟩
  | str s _ => obtain ⟨t, e⟩ := rx; subst e; exact ⟨(fun z => nomatch z), rfl⟩
  | lst _ _ _ _ => cases rx; exact ⟨(fun z => nomatch z), rfl⟩
  | tup _ _ _ _ => cases rx; exact ⟨(fun z => nomatch z), rfl⟩
  | ktp _ _ _ => cases rx; exact ⟨(fun z => nomatch z), rfl⟩
  | obj _ => cases h
  | scr _ => cases h
theorem og_is : OpR X (PySem.compareOp .Is) (rG X.K .iss) := by
  intro pins s σ H x y v u Q I rx ry h
  obtain ⟨m, A, d, e, d3, hh, r1, r2, eo, k⟩ := h
  simp only [op2] at eo
  cases e with
  | non =>
    cases eo
    exact L2.op_isN pins s σ H x y v u Q I rx ry ⟨r2.inv_non, by rw [is_none r1]; exact k.b⟩
  | bl b =>
    have rest : ∀ {d' : D}, d = d' → (∀ c, d' ≠ .bl c) → isO d' (.bl b) = some false → PySem.wpAny (PySem.model X.prog X.w) X.A (PySem.compareOp .Is v u) (fun w s' => ∃ z H', L2.Inv X pins σ H' s' ∧ L2.RelV z w ∧ Q z H') X.xe s := fun hd hn hi => by
      subst hd
      rw [hi] at eo
      cases eo
      have hv := v_ne_bool r1 rx hi hn
      have hu : u = .bool b := by
        rw [r2.inv_bl] at ry
        exact ry
      subst hu
      exact PySem.wpAny_is_other hv.2 hv.1 ⟨.bl false, H, I, rfl, k.b⟩
    cases d with
    | bl a =>
      cases eo
      exact L2.op_isBl pins s σ H x y v u Q I rx ry ⟨a, b, r1.inv_bl, r2.inv_bl, k.b⟩
    | non => exact rest rfl (fun _ z => nomatch z) rfl
    | int i => exact rest rfl (fun _ z => nomatch z) rfl
    | str i => exact rest rfl (fun _ z => nomatch z) rfl
    | lst i => exact rest rfl (fun _ z => nomatch z) rfl
    | tup i => exact rest rfl (fun _ z => nomatch z) rfl
    | _ => cases eo
  | _ => cases eo
theorem og_isn : OpR X (PySem.compareOp .IsNot) (rG X.K .isn) := by
  intro pins s σ H x y v u Q I rx ry h
  obtain ⟨m, A, d, e, d3, hh, r1, r2, eo, k⟩ := h
  simp only [op2] at eo
  cases e with
  | non =>
    cases eo
    exact L2.op_notN pins s σ H x y v u Q I rx ry ⟨r2.inv_non, by rw [is_none r1]; exact k.b⟩
  | bl b =>
    have rest : ∀ {d' : D}, d = d' → (∀ c, d' ≠ .bl c) → isO d' (.bl b) = some false → PySem.wpAny (PySem.model X.prog X.w) X.A (PySem.compareOp .IsNot v u) (fun w s' => ∃ z H', L2.Inv X pins σ H' s' ∧ L2.RelV z w ∧ Q z H') X.xe s := fun hd hn hi => by
      subst hd
      rw [hi] at eo
      cases eo
      have hv := v_ne_bool r1 rx hi hn
      have hu : u = .bool b := by
        rw [r2.inv_bl] at ry
        exact ry
      subst hu
      exact PySem.wpAny_isNot_other hv.2 hv.1 ⟨.bl true, H, I, rfl, k.b⟩
    cases d with
    | bl a =>
      cases eo
      exact L2.op_notBl pins s σ H x y v u Q I rx ry ⟨a, b, r1.inv_bl, r2.inv_bl, k.b⟩
    | non => exact rest rfl (fun _ z => nomatch z) rfl
    | int i => exact rest rfl (fun _ z => nomatch z) rfl
    | str i => exact rest rfl (fun _ z => nomatch z) rfl
    | lst i => exact rest rfl (fun _ z => nomatch z) rfl
    | tup i => exact rest rfl (fun _ z => nomatch z) rfl
    | _ => cases eo
  | _ => cases eo
end
end Mi
namespace Mi
open PySem (Str Addr Value Expr Stmt Scope PyData sizeLine)
open L2 (V Hp HO Key upd Rd SqL SqT Cx VK R2 OpR CallR MtR IxR SlR)
def rB1 (K : PySem.W.Frag) (f : B1) : List V → Hp → VK → Prop := fun xs H Q => ∃ (m : List Addr) (A : Addr → Prop) (x : V) (d d3 : D), xs = [x] ∧ Held m A H ∧ RV K m A H x d ∧ b1 f d = some d3 ∧ Ret K m A H d3 Q
section
variable {X : Cx} {K : PySem.W.Frag} {m : List Addr} {A : Addr → Prop} {H : Hp}
theorem rl_ints : ∀ ns : List Int, RL K m A H (ns.map V.int) (ns.map D.int)
  | [] => .nil
  | n :: ns => .cons (.int n) (rl_ints ns)
theorem cb_len : CallR X (.builtin "len") (rB1 X.K .len) := by
  intro pins s σ H xs us Q I r h
  obtain ⟨m, A, x, d, d3, rfl, hh, r1, eo, k⟩ := h
  cases d with
  | lst ds =>
    cases eo
    obtain ⟨p, vs, e1, h1, _, _, q1⟩ := r1.inv_lst
    exact L2.call_len_seq pins s σ H _ us Q I r ⟨p, vs, by rw [e1], .inl (sqL_of h1), by rw [q1.length]; exact k.i⟩
  | tup ds =>
    cases eo
    obtain ⟨p, vs, e1, h1, q1⟩ := r1.inv_tup
    exact L2.call_len_seq pins s σ H _ us Q I r ⟨p, vs, by rw [e1], .inr h1, by rw [q1.length]; exact k.i⟩
  | scr ns =>
    cases eo
    cases r1 with
    | scr h => exact L2.call_len_seq pins s σ H _ us Q I r ⟨_, _, rfl, .inl h.sq, by rw [List.length_map]; exact k.i⟩
  | str ss =>
    cases eo
    obtain ⟨e1, o1⟩ := r1.inv_str
    exact L2.call_len_str pins s σ H _ us Q I r ⟨_, by rw [e1], by rw [str_len]; exact o1.2, by rw [str_len]; exact k.i⟩
  | _ => cases eo
theorem cb_all (hc : X.calm = true) : CallR X (.builtin "all") (rB1 X.K .all) := by
  intro pins s σ H xs us Q I r h
  obtain ⟨m, A, x, d, d3, rfl, hh, r1, eo, k⟩ := h
  cases d with
  | lst ds =>
    simp only [b1] at eo
    cases q : boolsD ds with
    | none => rw [q] at eo; cases eo
    | some bs =>
      rw [q] at eo
      cases eo
      obtain ⟨p, vs, e1, h1, _, _, q1⟩ := r1.inv_lst
      have z := q1.asBools q
      subst z
      exact L2.cr_all hc pins s σ H _ us Q I r ⟨p, bs, by rw [e1], sqL_of h1, k.b⟩
  | _ => cases eo
theorem cb_sum (hc : X.calm = true) : CallR X (.builtin "sum") (rB1 X.K .sum) := by
  intro pins s σ H xs us Q I r h
  obtain ⟨m, A, x, d, d3, rfl, hh, r1, eo, k⟩ := h
  cases d with
  | lst ds =>
    simp only [b1] at eo
    cases q : intsD ds with
    | none => rw [q] at eo; cases eo
    | some bs =>
      rw [q] at eo
      cases eo
      obtain ⟨p, vs, e1, h1, _, _, q1⟩ := r1.inv_lst
      have z := q1.asInts q
      subst z
      exact L2.cr_sum hc pins s σ H _ us Q I r ⟨p, bs, by rw [e1], sqL_of h1, k.i⟩
  | _ => cases eo
theorem cb_list : CallR X (.type "list") (rB1 X.K .list) := by
  intro pins s σ H xs us Q I r h
  obtain ⟨m, A, x, d, d3, rfl, hh, r1, eo, k⟩ := h
  cases d with
  | lst ds =>
    cases eo
    obtain ⟨p, vs, e1, h1, _, _, q1⟩ := r1.inv_lst
    exact L2.call_list_of pins s σ H _ us Q I r ⟨p, vs, by rw [e1], .inl (sqL_of h1), k.l hh q1⟩
  | tup ds =>
    cases eo
    obtain ⟨p, vs, e1, h1, q1⟩ := r1.inv_tup
    exact L2.call_list_of pins s σ H _ us Q I r ⟨p, vs, by rw [e1], .inr h1, k.l hh q1⟩
  | _ => cases eo
theorem cb_tuple : CallR X (.type "tuple") (rB1 X.K .tuple) := by
  intro pins s σ H xs us Q I r h
  obtain ⟨m, A, x, d, d3, rfl, hh, r1, eo, k⟩ := h
  cases d with
  | lst ds =>
    cases eo
    obtain ⟨p, vs, e1, h1, _, _, q1⟩ := r1.inv_lst
    exact Rt.call_tupX pins s σ H _ us Q I r ⟨p, vs, by rw [e1], .inl ⟨sqL_of h1, k.x hh q1⟩⟩
  | tup ds =>
    cases eo
    obtain ⟨p, vs, e1, h1, q1⟩ := id r1.inv_tup
    exact Rt.call_tupX pins s σ H _ us Q I r ⟨p, vs, by rw [e1], .inr ⟨h1, by rw [← e1]; exact k _ _ (Nw.same H) r1⟩⟩
  | _ => cases eo
theorem cb_int : CallR X (.type "int") (rB1 X.K .int) := by
  intro pins s σ H xs us Q I r h
  obtain ⟨m, A, x, d, d3, rfl, hh, r1, eo, k⟩ := h
  cases d with
  | bl b =>
    cases eo
    exact L2.call_int1 pins s σ H _ us Q I r (.inr ⟨b, by rw [r1.inv_bl], k.i⟩)
  | _ => cases eo
/-! ### sorted -/
theorem RV.inv_pair {v : V} {i j : Int} (r : RV K m A H v (.tup [.int i, .int j])) : ∃ p, v = .ref p ∧ H p = some (.tup [.int i, .int j]) := by
  cases r with
  | tup h _ _ r =>
    cases r with
    | cons r1 r2 =>
      cases r2 with
      | cons r2 r3 =>
        cases r3
        rw [r1.inv_int, r2.inv_int] at h
        rcases h with ⟨h, _⟩ | ⟨_, _, _, _, b⟩
        · exact ⟨_, rfl, h⟩
        · cases b
  | ktp _ b _ => cases b
/-- the pair at a place -/
def kOf (H : Hp) : V → Int × Int
  | .ref t => match H t with
    | some (.tup [.int i, .int j]) => (i, j)
    | _ => (0, 0)
  | _ => (0, 0)
theorem RL.pairs {ds : List D} : ∀ {vs : List V} {ps : List (Int × Int)}, RL K m A H vs ds → pairsD ds = some ps → ds = ps.map pairD ∧ vs.map (kOf H) = ps ∧ ∀ v ∈ vs, ∃ t, v = V.ref t ∧ H t = some (.tup [.int (kOf H v).1, .int (kOf H v).2]) := by
  induction ds with
  | nil => intro vs ps r e; cases e; cases r; exact ⟨rfl, rfl, fun _ h => nomatch h⟩
  | cons d ds ih =>
    intro vs ps r e
    unfold pairsD at e
    split at e
    · rename_i z; cases z
    · rename_i a b rest z
      cases z
      cases q : pairsD ds with
      | none => rw [q] at e; cases e
      | some qs =>
        rw [q] at e
        cases e
        cases r with
        | cons r1 r2 =>
          obtain ⟨h1, h2, h3⟩ := ih r2 q
          obtain ⟨t, rfl, ht⟩ := r1.inv_pair
          have hk : kOf H (.ref t) = (a, b) := by simp [kOf, ht]
          refine ⟨by rw [h1]; rfl, by rw [List.map_cons, h2, hk], fun v hv => ?_⟩
          rcases List.mem_cons.mp hv with rfl | hv
          · exact ⟨t, rfl, by rw [hk]; exact ht⟩
          · exact h3 v hv
    · cases e
theorem rl_of_map {ps : List (Int × Int)} : ∀ {vs : List V}, vs.map (kOf H) = ps → (∀ v ∈ vs, RV K m A H v (pairD (kOf H v))) → RL K m A H vs (ps.map pairD) := by
  induction ps with
  | nil => intro vs e _; cases vs with
    | nil => exact .nil
    | cons _ _ => cases e
  | cons p ps ih =>
    intro vs e h
    cases vs with
    | nil => cases e
    | cons v vs =>
      rw [List.map_cons] at e
      cases e
      exact .cons (h v (List.mem_cons_self ..)) (ih rfl fun u hu => h u (List.mem_cons_of_mem _ hu))
theorem RL.mem_rv : ∀ {vs : List V} {ds : List D}, RL K m A H vs ds → ∀ v ∈ vs, ∃ d ∈ ds, RV K m A H v d
  | _, _, .nil, _, h => nomatch h
  | _, _, .cons r t, v, h => by
    rcases List.mem_cons.mp h with rfl | h
    · exact ⟨_, List.mem_cons_self .., r⟩
    · obtain ⟨d, h1, h2⟩ := RL.mem_rv t v h
      exact ⟨d, List.mem_cons_of_mem _ h1, h2⟩
theorem cb_sorted : CallR X (.builtin "sorted") (rB1 X.K .sorted) := by
  intro pins s σ H xs us Q I r h
  obtain ⟨m, A, x, d, d3, rfl, hh, r1, eo, k⟩ := h
  cases d with
  | lst ds =>
    obtain ⟨p, vs, e1, h1, _, _, q1⟩ := r1.inv_lst
    simp only [b1, sortD] at eo
    cases q : intsD ds with
    | some ns =>
      rw [q] at eo
      cases eo
      have z := q1.asInts q
      subst z
      refine L2.cr_sortedI pins s σ H _ us Q I r ⟨p, ns, by rw [e1], sqL_of h1, fun ns' p' hp hs hn => ?_⟩
      have e : ns' = sortI ns := uniq_sorted (fun a b => Int.le_antisymm a b) (hp.trans (sortI_perm ns).symm) hs (sortI_sorted ns)
      subst e
      exact k.l hh (rl_ints _) p' hn
    | none =>
      rw [q] at eo
      simp only at eo
      cases q2 : pairsD ds with
      | none => rw [q2] at eo; cases eo
      | some ps =>
        rw [q2] at eo
        cases eo
        obtain ⟨e2, e3, e4⟩ := q1.pairs q2
        refine L2.cr_sortedPO pins s σ H _ us Q I r ⟨p, vs, kOf H, by rw [e1], sqL_of h1, e4, fun ys p' hs hb hn => ?_⟩
        have hrv : ∀ v ∈ ys, RV X.K m A H v (pairD (kOf H v)) := fun v hv => by
          have hv' := hb.perm.mem_iff.mp hv
          obtain ⟨d, hd, hr⟩ := q1.mem_rv v hv'
          rw [e2] at hd
          obtain ⟨pp, _, rfl⟩ := List.mem_map.mp hd
          obtain ⟨t, rfl, ht⟩ := RV.inv_pair (i := pp.1) (j := pp.2) hr
          have hk : kOf H (.ref t) = pp := by simp [kOf, ht]
          rw [hk]
          exact hr
        have e : ys.map (kOf H) = sortP ps := by
          refine uniq_sorted (R := leP) leP_anti ?_ ?_ (sortP_sorted ps)
          · rw [← e3]
            exact (hb.perm.map _).trans (sortP_perm _).symm
          · rw [List.pairwise_map]
            exact hs.imp fun {a b} z => z
        exact k.l hh (rl_of_map e hrv) p' hn
  | _ => cases eo
def rB2 (K : PySem.W.Frag) (f : B2) : List V → Hp → VK → Prop := fun xs H Q => ∃ (m : List Addr) (A : Addr → Prop) (x y : V) (d e d3 : D), xs = [x, y] ∧ Held m A H ∧ RV K m A H x d ∧ RV K m A H y e ∧ b2 f d e = some d3 ∧ Ret K m A H d3 Q
theorem cb_max (hc : X.calm = true) : CallR X (.builtin "max") (rB2 X.K .max) := by
  intro pins s σ H xs us Q I r h
  obtain ⟨m, A, x, y, d, e, d3, rfl, hh, r1, r2, eo, k⟩ := h
  cases d with
  | int a =>
    cases e with
    | int b =>
      cases eo
      exact L2.call_max2 hc pins s σ H _ us Q I r ⟨a, b, by rw [r1.inv_int, r2.inv_int], k.i⟩
    | _ => cases eo
  | _ => cases e <;> cases eo
theorem cb_min (hc : X.calm = true) : CallR X (.builtin "min") (rB2 X.K .min) := by
  intro pins s σ H xs us Q I r h
  obtain ⟨m, A, x, y, d, e, d3, rfl, hh, r1, r2, eo, k⟩ := h
  cases d with
  | int a =>
    cases e with
    | int b =>
      cases eo
      exact L2.call_min2 hc pins s σ H _ us Q I r ⟨a, b, by rw [r1.inv_int, r2.inv_int], k.i⟩
    | _ => cases eo
  | _ => cases e <;> cases eo
/-! ### items, slices -/
def rIG (K : PySem.W.Frag) : R2 := fun x y H Q => ∃ (m : List Addr) (A : Addr → Prop) (d e d3 : D), Held m A H ∧ RV K m A H x d ∧ RV K m A H y e ∧ idx d e = some d3 ∧ Ret K m A H d3 Q
theorem at_of {vs : List V} {ds : List D} {i : Int} {d : D} (r : RL K m A H vs ds) (h : at_ ds i = some d) : ∃ v, L2.atI vs i = some v ∧ RV K m A H v d := by
  unfold at_ at h
  unfold L2.atI
  have e : L2.ixN vs.length i = ix ds.length i := by rw [r.length]; rfl
  rw [e]
  cases q : ix ds.length i with
  | none => rw [q] at h; cases h
  | some j =>
    rw [q] at h
    exact r.get h
theorem at_map {α β : Type} (f : α → β) (xs : List α) (i : Int) : L2.atI (xs.map f) i = (at_ xs i).map f := by
  unfold at_ L2.atI
  have e : L2.ixN (xs.map f).length i = ix xs.length i := by rw [List.length_map]; rfl
  rw [e]
  cases q : ix xs.length i with
  | none => rfl
  | some j => simp
theorem at_mem {α : Type} {xs : List α} {i : Int} {x : α} (h : at_ xs i = some x) : x ∈ xs := by
  unfold at_ at h
  cases q : ix xs.length i with
  | none => rw [q] at h; cases h
  | some j => rw [q] at h; exact List.mem_of_getElem? h
theorem ig_ix : IxR X (rIG X.K) := by
  intro value slice pins s σ H x y v u Q I rx ry h hs
  obtain ⟨m, A, d, e, d3, hh, r1, r2, eo, k⟩ := h
  cases e with
  | int i =>
    cases d with
    | lst ds =>
      obtain ⟨p, vs, e1, h1, _, _, q1⟩ := r1.inv_lst
      obtain ⟨z, hz, rz⟩ := at_of q1 eo
      exact L2.ix_list value slice pins s σ H x y v u Q I rx ry ⟨p, vs, i, z, e1, r2.inv_int, sqL_of h1, hz, k _ _ (Nw.same H) rz⟩ hs
    | tup ds =>
      obtain ⟨p, vs, e1, h1, q1⟩ := r1.inv_tup
      obtain ⟨z, hz, rz⟩ := at_of q1 eo
      exact L2.ix_tup value slice pins s σ H x y v u Q I rx ry ⟨p, vs, i, z, e1, r2.inv_int, h1, hz, k _ _ (Nw.same H) rz⟩ hs
    | str ss =>
      simp only [idx] at eo
      cases q : at_ ss i with
      | none => rw [q] at eo; cases eo
      | some c =>
        rw [q] at eo
        cases eo
        obtain ⟨e1, o1⟩ := r1.inv_str
        refine L2.ix_str value slice pins s σ H x y v u Q I rx ry ⟨_, i, c, e1, r2.inv_int, by rw [str_len]; exact o1.2, (show at_ ss i = some c from q), ?_⟩ hs
        exact k.s (s := [c]) ⟨fun z hz => by simp at hz; subst hz; exact o1.1 _ (at_mem q), by rw [PySem.sizeLine_eq]; show 1 ≤ 16777216; decide⟩
    | scr ns =>
      simp only [idx] at eo
      cases q : at_ ns i with
      | none => rw [q] at eo; cases eo
      | some c =>
        rw [q] at eo
        cases eo
        cases r1 with
        | scr h1 =>
          exact L2.ix_list value slice pins s σ H _ y v u Q I rx ry ⟨_, _, i, .int c, rfl, r2.inv_int, h1.sq, by rw [at_map, q] <;> rfl, k.i⟩ hs
    | _ => cases eo
  | _ => cases d <;> cases eo
def rSG (K : PySem.W.Frag) : V → Option Int → Option Int → Hp → VK → Prop := fun x lo hi H Q => ∃ (m : List Addr) (A : Addr → Prop) (d d3 : D), Held m A H ∧ RV K m A H x d ∧ slc d lo hi = some d3 ∧ Ret K m A H d3 Q
theorem sx_eq (n d : Nat) (o : Option Int) : sx n d o = HT.sIx n d o := by cases o <;> rfl
theorem cut_of {vs : List V} {ds : List D} (lo hi : Option Int) (r : RL K m A H vs ds) : RL K m A H (L2.cutV vs lo hi) (cut ds lo hi) := by
  unfold L2.cutV cut
  rw [sx_eq, sx_eq, r.length]
  exact (r.drop _).take _
theorem sg_sl : SlR X (rSG X.K) := by
  intro pins s σ H x v vl vu lo hi sl Q I rx hs pl pu h
  obtain ⟨m, A, d, d3, hh, r1, eo, k⟩ := h
  cases d with
  | lst ds =>
    cases eo
    obtain ⟨p, vs, e1, h1, _, _, q1⟩ := r1.inv_lst
    exact L2.sl_list pins s σ H x v vl vu lo hi sl Q I rx hs pl pu ⟨p, vs, e1, sqL_of h1, k.l hh (cut_of lo hi q1)⟩
  | tup ds =>
    cases eo
    obtain ⟨p, vs, e1, h1, q1⟩ := id r1.inv_tup
    refine Rt.sl_tupX pins s σ H x v vl vu lo hi sl Q I rx hs pl pu ⟨p, vs, e1, h1, fun z => ?_, fun _ => k.x hh (cut_of lo hi q1)⟩
    have e : cut ds lo hi = ds := by
      unfold cut
      rw [sx_eq, sx_eq, ← q1.length, z.1, z.2, List.drop_zero, Nat.sub_zero, q1.length, List.take_length]
    rw [e] at k
    rw [← e1]
    exact k _ _ (Nw.same H) r1
  | str ss =>
    cases eo
    obtain ⟨e1, o1⟩ := r1.inv_str
    refine L2.sl_str pins s σ H x v vl vu lo hi sl Q I rx hs pl pu ⟨_, e1, by rw [str_len]; exact o1.2, ?_⟩
    have e : L2.cutS ⟨ss.toArray⟩ lo hi = ⟨(cut ss lo hi).toArray⟩ := by
      unfold L2.cutS cut
      rw [sx_eq, sx_eq, str_len] <;> rfl
    rw [e]
    refine k.s ⟨fun c hc => ?_, ?_⟩
    · exact o1.1 c (List.mem_of_mem_drop (List.mem_of_mem_take hc))
    · unfold cut
      rw [List.length_take, List.length_drop]
      have := o1.2
      omega
  | _ => cases eo
/-! ### methods -/
def rMG (K : PySem.W.Frag) (f : M1) : V → List V → Hp → VK → Prop := fun x xs H Q => ∃ (m : List Addr) (A : Addr → Prop) (y : V) (d e d3 : D), xs = [y] ∧ Held m A H ∧ RV K m A H x d ∧ RV K m A H y e ∧ m1 f d e = some d3 ∧ Ret K m A H d3 Q
theorem cnt_eq (c : Nat) : ∀ s : List Nat, ((cnt c s : Nat) : Int) = PyProof.Rows.cnt c s
  | [] => rfl
  | n :: s => by
    rw [PyProof.Rows.cnt_cons, ← cnt_eq c s]
    unfold cnt
    rw [List.countP_cons]
    by_cases h : n = c
    · rw [if_pos h, if_pos (by simpa using h)]; omega
    · rw [if_neg h, if_neg (by simpa using h)]; omega
theorem mg_count : MtR X "str.count" (rMG X.K .count) := by
  intro pins s σ H x xs v us Q I rx rxs h
  obtain ⟨m, A, y, d, e, d3, rfl, hh, r1, r2, eo, k⟩ := h
  cases d with
  | str ss =>
    cases e with
    | str bs =>
      cases bs with
      | nil => cases eo
      | cons c r =>
        cases r with
        | cons _ _ => cases eo
        | nil =>
          cases eo
          refine L2.mt_count pins s σ H x _ v us Q I rx rxs ⟨_, _, r1.inv_str.1, by rw [r2.inv_str.1], ?_⟩
          have e : PySem.Txt.count ⟨ss.toArray⟩ ⟨[c].toArray⟩ = ((cnt c ss : Nat) : Int) := by
            rw [cnt_eq]
            exact PyProof.Rows.count_is ⟨ss.toArray⟩ c
          rw [e]
          exact k.i
    | _ => cases eo
  | _ => cases e <;> cases eo
theorem ends_eq (ss : List Nat) (c : Nat) : PySem.Txt.endswith ⟨ss.toArray⟩ ⟨[c].toArray⟩ = (ss.getLast? == some c) := by
  unfold PySem.Txt.endswith
  rw [PySem.StrLaws.subAt_eq, str_len, str_len]
  cases ss with
  | nil => rfl
  | cons a r =>
    have h : 0 + [c].length ≤ (a :: r).length := by simp
    rw [decide_eq_true h, Bool.true_and]
    have e : ((a :: r).drop ((a :: r).length - [c].length)) = [(a :: r).getLast (by simp)] := by
      rw [show [c].length = 1 from rfl]
      have z := List.dropLast_concat_getLast (l := a :: r) (by simp)
      have l : (a :: r).length - 1 = (a :: r).dropLast.length := by rw [List.length_dropLast]
      rw [l]
      conv => lhs; arg 2; rw [← z]
      rw [List.drop_left']
      rfl
    show (((a :: r).toArray.toList.drop _).take _ == _) = _
    rw [show (a :: r).toArray.toList = a :: r from rfl, e, List.getLast?_eq_some_getLast (by simp)]
    rw [Bool.eq_iff_iff]
    simp
theorem mg_ends : MtR X "str.endswith" (rMG X.K .endswith) := by
  intro pins s σ H x xs v us Q I rx rxs h
  obtain ⟨m, A, y, d, e, d3, rfl, hh, r1, r2, eo, k⟩ := h
  cases d with
  | str ss =>
    cases e with
    | str bs =>
      cases bs with
      | nil => cases eo
      | cons c r =>
        cases r with
        | cons _ _ => cases eo
        | nil =>
          cases eo
          refine L2.mt_endswith pins s σ H x _ v us Q I rx rxs ⟨_, _, r1.inv_str.1, by rw [r2.inv_str.1], ?_⟩
          rw [ends_eq]
          exact k.b
    | _ => cases eo
  | _ => cases e <;> cases eo
theorem join_eq (s : List Nat) : ∀ ys : List (List Nat), PySem.Str.join ⟨s.toArray⟩ (ys.map fun y => (⟨y.toArray⟩ : Str)) = ⟨(joinL s ys).toArray⟩
  | [] => rfl
  | [_] => rfl
  | x :: y :: r => by
    show (⟨x.toArray⟩ : Str) ++ ⟨s.toArray⟩ ++ PySem.Str.join ⟨s.toArray⟩ ((y :: r).map fun y => (⟨y.toArray⟩ : Str)) = _
    rw [join_eq s (y :: r), str_app, str_app, List.append_assoc]
    rfl
theorem join_len (s : List Nat) : ∀ ys : List (List Nat), (joinL s ys).length ≤ (ys.map List.length).sum + ys.length * s.length
  | [] => Nat.zero_le _
  | [x] => by show x.length ≤ x.length + 0 + _; omega
  | x :: y :: r => by
    have ih := join_len s (y :: r)
    show (x ++ (s ++ joinL s (y :: r))).length ≤ x.length + ((y :: r).map List.length).sum + ((y :: r).length + 1) * s.length
    rw [List.length_append, List.length_append, Nat.add_mul, Nat.one_mul]
    omega
theorem join_mem (s : List Nat) {c : Nat} : ∀ ys : List (List Nat), c ∈ joinL s ys → c ∈ s ∨ ∃ y ∈ ys, c ∈ y
  | [], h => by cases h
  | [x], h => .inr ⟨x, List.mem_cons_self .., h⟩
  | x :: y :: r, h => by
    have h : c ∈ x ++ (s ++ joinL s (y :: r)) := h
    rcases List.mem_append.mp h with h | h
    · exact .inr ⟨x, List.mem_cons_self .., h⟩
    · rcases List.mem_append.mp h with h | h
      · exact .inl h
      · rcases join_mem s (y :: r) h with h | ⟨z, hz, h⟩
        · exact .inl h
        · exact .inr ⟨z, List.mem_cons_of_mem _ hz, h⟩
theorem mg_join : MtR X "str.join" (rMG X.K .join) := by
  intro pins s σ H x xs v us Q I rx rxs h
  obtain ⟨m, A, y, d, e, d3, rfl, hh, r1, r2, eo, k⟩ := h
  cases d with
  | str ss =>
    cases e with
    | lst ds =>
      simp only [m1] at eo
      cases q : strsD ds with
      | none => rw [q] at eo; cases eo
      | some ys =>
        rw [q] at eo
        simp only at eo
        split at eo
        · rename_i hl
          cases eo
          obtain ⟨p, vs, e1, h1, _, _, q1⟩ := r2.inv_lst
          obtain ⟨z, oz⟩ := q1.asStrs q
          subst z
          obtain ⟨e2, o2⟩ := r1.inv_str
          refine L2.mt_join pins s σ H x _ v us Q I rx rxs ⟨⟨ss.toArray⟩, p, ys.map fun y => (⟨y.toArray⟩ : Str), e2, by rw [e1], .inl ?_, ?_, ?_⟩
          · rw [List.map_map]; exact sqL_of h1
          · rw [List.map_map, List.length_map, str_len]
            have e : (Str.length ∘ fun y : List Nat => (⟨y.toArray⟩ : Str)) = List.length := by funext y; exact str_len y
            rw [e]
            unfold lim at hl
            omega
          · have e : PySem.Txt.join ⟨ss.toArray⟩ (ys.map fun y => (⟨y.toArray⟩ : Str)) = ⟨(joinL ss ys).toArray⟩ := (PySem.StrLaws.glued_eq_join _ _).trans (join_eq ss ys)
            rw [e]
            refine k.s ⟨fun c hc => ?_, lim_size (Nat.le_trans (join_len ss ys) hl)⟩
            rcases join_mem ss ys hc with h | ⟨z, hz, h⟩
            · exact o2.1 c h
            · exact (oz z hz).1 c h
        · cases eo
    | _ => cases eo
  | _ => cases e <;> cases eo
/-! ### methods of lists -/
def rLG (K : PySem.W.Frag) (f : LM) : V → List V → Hp → VK → Prop := fun x xs H Q => ∃ (m : List Addr) (A : Addr → Prop) (y : V) (d e d3 : D), xs = [y] ∧ Held m A H ∧ RV K m A H x d ∧ RV K m A H y e ∧ lm f d e = some d3 ∧ Ret K m A H d3 Q
theorem mg_lcount : MtR X "list.count" (rLG X.K .count) := by
  intro pins s σ H x xs v us Q I rx rxs h
  obtain ⟨m, A, y, d, e, d3, rfl, hh, r1, r2, eo, k⟩ := h
  cases d with
  | lst ds =>
    cases e with
    | int n =>
      simp only [lm] at eo
      cases q : intsD ds with
      | none => rw [q] at eo; cases eo
      | some ns =>
        rw [q] at eo
        cases eo
        obtain ⟨p, vs, e1, h1, _, _, q1⟩ := r1.inv_lst
        have z := q1.asInts q
        subst z
        exact L2.mt_lcount pins s σ H x _ v us Q I rx rxs ⟨p, ns, n, e1, by rw [r2.inv_int], sqL_of h1, k.i⟩
    | _ => cases eo
  | _ => cases e <;> cases eo
theorem firstAt_some {p : D → Bool} : ∀ {ds : List D} {n j : Nat}, firstAt p ds n = some j → n ≤ j ∧ (∃ d, ds[j - n]? = some d ∧ p d = true) ∧ ∀ i d, i < j - n → ds[i]? = some d → p d = false
  | [], _, _, h => by cases h
  | x :: r, n, j, h => by
    unfold firstAt at h
    split at h
    · rename_i q
      cases h
      exact ⟨Nat.le_refl _, ⟨x, by simp, q⟩, fun i d hi => by omega⟩
    · rename_i q
      obtain ⟨h1, ⟨d, h2, h3⟩, h4⟩ := firstAt_some h
      refine ⟨by omega, ⟨d, ?_, h3⟩, fun i d hi hd => ?_⟩
      · have e : j - n = (j - (n + 1)) + 1 := by omega
        rw [e, List.getElem?_cons_succ]
        exact h2
      · cases i with
        | zero => simp at hd; subst hd; simpa using q
        | succ i => exact h4 i d (by omega) (by simpa using hd)
theorem RL.flatAt {ds : List D} {vs : List V} (r : RL K m A H vs ds) (hf : ds.all flat = true) {y : V} {e : D} (ry : RV K m A H y e) (he : flat e = true) {j : Nat} (h : firstAt (fun z => deq z e) ds 0 = some j) :
    ∃ z, vs[j]? = some z ∧ L2.eqV z y = true ∧ ∀ (i : Nat) (z' : V), i < j → vs[i]? = some z' → L2.eqV z' y = false := by
  obtain ⟨_, ⟨d, h2, h3⟩, h4⟩ := firstAt_some h
  rw [Nat.sub_zero] at h2 h4
  obtain ⟨z, hz, rz⟩ := r.get h2
  refine ⟨z, hz, (eqV_of rz ry (List.all_eq_true.mp hf d (List.mem_of_getElem? h2)) he).trans h3, fun i z' hi hz' => ?_⟩
  obtain ⟨d', hd', rd'⟩ := r.getV hz'
  exact (eqV_of rd' ry (List.all_eq_true.mp hf d' (List.mem_of_getElem? hd')) he).trans (h4 i d' hi hd')
theorem mg_index : MtR X "list.index" (rLG X.K .index) := by
  intro pins s σ H x xs v us Q I rx rxs h
  obtain ⟨m, A, y, d, e, d3, rfl, hh, r1, r2, eo, k⟩ := h
  cases d with
  | lst ds =>
    simp only [lm] at eo
    split at eo
    · rename_i hf
      cases q : firstAt (fun z => deq z e) ds 0 with
      | none => rw [q] at eo; cases eo
      | some j =>
        rw [q] at eo
        cases eo
        obtain ⟨p, vs, e1, h1, _, _, q1⟩ := r1.inv_lst
        obtain ⟨z, k1, k2, k3⟩ := q1.flatAt hf.2 r2 hf.1 q
        exact L2.mt_index pins s σ H x _ v us Q I rx rxs ⟨p, vs, y, j, z, e1, rfl, sqL_of h1, flat_of r2 hf.1, flats_of q1 hf.2, k1, k2, k3, k.i⟩
    · cases eo
  | _ => cases e <;> cases eo
theorem strsD_map {ds : List D} : ∀ {ys : List (List Nat)}, strsD ds = some ys → ds = ys.map D.str := by
  induction ds with
  | nil => intro ys h; cases h; rfl
  | cons d ds ih =>
    intro ys h
    cases d with
    | str s =>
      simp only [strsD] at h
      cases q : strsD ds with
      | none => rw [q] at h; cases h
      | some zs => rw [q] at h; cases h; rw [ih q]; rfl
    | _ => cases h
theorem mg_tindex : MtR X "tuple.index" (rLG X.K .tindex) := by
  intro pins s σ H x xs v us Q I rx rxs h
  obtain ⟨m, A, y, d, e, d3, rfl, hh, r1, r2, eo, k⟩ := h
  cases d with
  | tup ds =>
    cases e with
    | str z =>
      simp only [lm] at eo
      cases q : strsD ds with
      | none => rw [q] at eo; cases eo
      | some ys =>
        rw [q] at eo
        simp only at eo
        cases q2 : firstAt (fun z' => deq z' (.str z)) (ys.map D.str) 0 with
        | none => rw [q2] at eo; cases eo
        | some j =>
          rw [q2] at eo
          cases eo
          obtain ⟨p, vs, e1, h1, q1⟩ := r1.inv_tup
          obtain ⟨e2, _⟩ := q1.asStrs q
          subst e2
          obtain ⟨_, ⟨d, h2, h3⟩, h4⟩ := firstAt_some q2
          rw [Nat.sub_zero] at h2 h4
          have toS : (ys.map fun s => V.str ⟨s.toArray⟩) = (ys.map fun s => (⟨s.toArray⟩ : Str)).map V.str := by rw [List.map_map]; rfl
          rw [toS] at h1
          refine L2.mt_tup_index pins s σ H x _ v us Q I rx rxs ⟨p, ys.map fun s => (⟨s.toArray⟩ : Str), ⟨z.toArray⟩, j, e1, by rw [r2.inv_str.1], h1, ?_, fun i hi hz => ?_, k.i⟩
          · rw [List.getElem?_map] at h2 ⊢
            cases hy : ys[j]? with
            | none => rw [hy] at h2; cases h2
            | some w =>
              rw [hy] at h2
              cases h2
              have : w = z := by simpa [deq] using h3
              rw [this]; rfl
          · rw [List.getElem?_map] at hz
            cases hy : ys[i]? with
            | none => rw [hy] at hz; cases hz
            | some w =>
              rw [hy] at hz
              have hw : w = z := by
                have hz : (⟨w.toArray⟩ : Str) = ⟨z.toArray⟩ := Option.some.inj hz
                have := congrArg (fun s : Str => s.cps.toList) hz
                simpa using this
              have := h4 i (.str w) hi (by rw [List.getElem?_map, hy]; rfl)
              rw [hw] at this
              simp [deq] at this
    | _ => cases eo
  | _ => cases e <;> cases eo
/-! ### not in range -/
theorem op_nin_rng : OpR X (PySem.compareOp .NotIn) (fun x y H Q => ∃ i a lo hi, x = V.int i ∧ y = V.ref a ∧ H a = some (.rng lo hi) ∧ Q (.bl (!decide (lo ≤ i ∧ i < hi))) H) := by
  intro pins s σ H x y v u Q I rx ry h
  obtain ⟨i, a, lo, hi, rfl, rfl, ha, q⟩ := h
  obtain ⟨k, rfl⟩ := rx
  obtain rfl : u = Value.ref a := ry
  obtain ⟨t1, t2, t3, ho⟩ := I.hok a _ ha
  show PySem.wpAny _ _ (do return Value.bool (!(← PySem.contains (Value.ref a) (Value.int i k)))) _ _ s
  refine PySem.wpAny_bind (PySem.wpAny_contains_slot (T := "range") ⟨_, ho, rfl⟩ PySem.F.slot_range_contains (PySem.call_meets PySem.F.slot_range_contains ⟨_, ho, rfl⟩ PySem.F.entry_range_contains (PySem.F.args_range_contains_2 _ _) (L2.q_contains a lo hi i t1 t2 t3 k)
    ⟨ho, PySem.wpAny_truthy_bool (PySem.wpAny_pure ⟨.bl _, H, I, rfl, ?_⟩)⟩))
  rw [L2.place1]
  exact q
/-! ### isinstance -/
theorem TupH.ty {K : PySem.W.Frag} {H : Hp} {p : Addr} {vs : List V} {ds : List D} (h : TupH H p vs ds) : L2.TyX K H (.ref p) (.type "tuple") := h.elim (fun h => .base (.tup h.1)) fun ⟨_, h, _⟩ => .fTuple h
def tyN : Ty → String
  | .int => "int" | .bool => "bool" | .str => "str" | .list => "list" | .tuple => "tuple"
theorem ty_of {v : V} {d : D} {t : Ty} {b : Bool} (r : RV K m A H v d) (h : isA d t = some b) : ∃ u, L2.TyX K H v u ∧ PySem.W.kitOne K u (.type (tyN t)) = some b := by
  cases r with
  | non => cases h; exact ⟨_, .base .non, by cases t <;> exact L2.kit_ty (by decide +kernel)⟩
  | bl b => exact ⟨_, .base (.bl b), by cases t <;> cases h <;> exact L2.kit_ty (by decide +kernel)⟩
  | int b => exact ⟨_, .base (.int b), by cases t <;> cases h <;> exact L2.kit_ty (by decide +kernel)⟩
  | str b _ => exact ⟨_, .base (.str b), by cases t <;> cases h <;> exact L2.kit_ty (by decide +kernel)⟩
  | lst e _ _ _ => exact ⟨_, .base (.lst e), by cases t <;> cases h <;> exact L2.kit_ty (by decide +kernel)⟩
  | tup e _ _ _ => exact ⟨_, e.ty, by cases t <;> cases h <;> exact L2.kit_ty (by decide +kernel)⟩
  | ktp e _ _ =>
    obtain ⟨o, _, _, e1, e2, _⟩ := e
    exact ⟨_, .kTuple e1 e2, by cases t <;> cases h <;> exact L2.kit_ty (by decide +kernel)⟩
  | obj _ => cases h
  | scr _ => cases h
end
end Mi
/-! Mini: min of a list of pairs; str of an int. -/
namespace Mi
open PySem (Str Addr Value Expr Stmt Scope PyData sizeLine Const NameKind Operator CmpOp Comprehension)
open L2 (V Hp HO Key upd Rd SqL SqT Cx VK R2 OpR CallR MtR IxR SlR)
section
variable {X : Cx} {K : PySem.W.Frag} {m : List Addr} {A : Addr → Prop} {H : Hp}
def pdP (p : Int × Int) : PyData := .tuple [.int p.1, .int p.2]
theorem toPD_pair (p : Int × Int) : toPD (pairD p) = pdP p := rfl
theorem lt_pairs (p q : Int × Int) : PySem.W.dataLt (pdP p) (pdP q) = ltP2 p q := by
  obtain ⟨a, b⟩ := p
  obtain ⟨c, d⟩ := q
  show PyProof.Rows.lexLt PyProof.Rows.itemOrd (.inl 1 :: .inl a :: .inl 1 :: .inl b :: [.inl 0]) (.inl 1 :: .inl c :: .inl 1 :: .inl d :: [.inl 0]) = _
  rw [PyProof.Rows.lex_self (O := PyProof.Rows.itemOrd)]
  unfold ltP2
  by_cases h : a = c
  · subst h
    rw [PyProof.Rows.lex_self (O := PyProof.Rows.itemOrd), PyProof.Rows.lex_self (O := PyProof.Rows.itemOrd), if_pos rfl]
    by_cases h2 : b = d
    · subst h2
      rw [PyProof.Rows.lex_self (O := PyProof.Rows.itemOrd), PyProof.Rows.lex_self (O := PyProof.Rows.itemOrd)]
      show false = decide (b < b)
      simp
    · rw [PyProof.Rows.lex_diff (O := PyProof.Rows.itemOrd) (fun z => h2 (Sum.inl.inj z))]
      rfl
  · rw [PyProof.Rows.lex_diff (O := PyProof.Rows.itemOrd) (fun z => h (Sum.inl.inj z)), if_neg h]
    rfl
theorem minD_pairs : ∀ (ps : List (Int × Int)) (p : Int × Int), PySem.W.minD (pdP p) (ps.map pdP) = pdP (minP p ps)
  | [], _ => rfl
  | q :: ps, p => by
    have ih := minD_pairs ps (if ltP2 q p then q else p)
    unfold PySem.W.minD at ih ⊢
    rw [List.map_cons, List.foldl_cons, lt_pairs]
    unfold minP at ih ⊢
    rw [List.foldl_cons, ← ih]
    split <;> rfl
theorem dps_pairs : ∀ (ps : List (Int × Int)), toPDs (ps.map pairD) = ps.map pdP
  | [] => rfl
  | p :: ps => by
    show toPD (pairD p) :: toPDs (ps.map pairD) = _
    rw [dps_pairs ps]
    rfl
theorem pairs_pl (ps : List (Int × Int)) : ∀ d ∈ ps.map pairD, pl 20 d = true := fun d hd => by
  obtain ⟨p, _, rfl⟩ := List.mem_map.mp hd
  rfl
theorem alike_pairs (ps : List (Int × Int)) : PySem.W.AlikeAll (ps.map pdP) := by
  refine ⟨fun x hx y hy => ?_, fun x hx => ?_⟩
  · obtain ⟨p, _, rfl⟩ := List.mem_map.mp hx
    obtain ⟨q, _, rfl⟩ := List.mem_map.mp hy
    rfl
  · obtain ⟨p, _, rfl⟩ := List.mem_map.mp hx
    exact fun z => nomatch z
theorem depth_pairs : ∀ (ps : List (Int × Int)), PyData.depthAll (ps.map pdP) ≤ 1
  | [] => Nat.zero_le _
  | p :: ps => by
    show max (PyData.depth (pdP p)) (PyData.depthAll (ps.map pdP)) ≤ 1
    have h1 : PyData.depth (pdP p) = 1 := rfl
    have h2 := depth_pairs ps
    omega
theorem cb_min1 (hc : X.calm = true) (hu : X.A.units + 64 < PySem.cLine) : CallR X (.builtin "min") (rB1 X.K .min) := by
  intro pins s σ H xs us Q I r h
  obtain ⟨m, A, x, d, d3, rfl, hh, r1, eo, k⟩ := h
  cases d with
  | lst ds =>
    obtain ⟨p, vs, rfl, h1, _, _, q1⟩ := r1.inv_lst
    simp only [b1, minD] at eo
    cases q2 : pairsD ds with
    | none => rw [q2] at eo; cases eo
    | some ps =>
      cases ps with
      | nil => rw [q2] at eo; cases eo
      | cons pp ps =>
        rw [q2] at eo
        cases eo
        obtain ⟨e2, e3, e4⟩ := q1.pairs q2
        obtain ⟨its, rv, hl, _⟩ := I.list (sqL_of h1)
        rw [L2.Vals.ref1 r]
        have dp := dps_of (n := 20) (by rw [e2]; exact pairs_pl _) q1
        rw [e2, dps_pairs] at dp
        obtain ⟨as, ra⟩ := L2.Dp.readsAll I _ vs its dp rv
        have dl := depth_pairs (pp :: ps)
        refine PySem.W.min_list_data (x := pdP pp) (xs := ps.map pdP) (I.ok.hd hc) hl.isList (by simpa using ra) (alike_pairs (pp :: ps)) (by rw [List.map_cons] at dl; omega) fun i v h' tk bs hv hr hk => ?_
        rw [minD_pairs] at hr
        obtain ⟨w, hw, rw_⟩ : ∃ w, vs[i]? = some w ∧ L2.RelV w v := by
          have hv' : its[i]? = some v := by simpa using hv
          have hi : i < vs.length := by rw [rv.length]; exact (List.getElem?_eq_some_iff.mp hv').1
          obtain ⟨u, hu1, hu2⟩ := rv.get (i := i) (x := vs[i]) (by simp [hi])
          rw [hv'] at hu1
          cases hu1
          exact ⟨vs[i], by simp [hi], hu2⟩
        obtain ⟨dd, hd, rd⟩ := q1.getV hw
        obtain ⟨p2, hp2⟩ : ∃ p2 : Int × Int, dd = pairD p2 := by
          rw [e2] at hd
          obtain ⟨p2, _, z⟩ := List.mem_map.mp (List.mem_of_getElem? hd)
          exact ⟨p2, z.symm⟩
        subst hp2
        obtain ⟨cs, rc⟩ := L2.Dp.reads I _ w v (dp_of (n := 20) (d := pairD p2) rfl rd) rw_
        have e := (PyProof.Rows.reads_det (fun b o e _ => hk b o e) rc hr).1.symm
        have e : p2 = minP pp ps := by
          obtain ⟨a, b⟩ := p2
          have e : PyData.tuple [.int a, .int b] = PyData.tuple [.int (minP pp ps).1, .int (minP pp ps).2] := e
          injection e with e
          injection e with e5 e6
          injection e5 with e5
          injection e6 with e6 _
          injection e6 with e6
          exact Prod.ext e5 e6
        subst e
        exact ⟨w, H, I.kept hk, rw_, k w H (Nw.same H) rd⟩
  | _ => cases eo
theorem log2_small {n : Nat} (h : n < 1000000) : n.log2 < 1920 := by
  rcases Nat.eq_zero_or_pos n with e | e
  · subst e; decide
  · have h2 : n < 2 ^ 20 := Nat.lt_trans h (by decide)
    have := (Nat.log2_lt (by omega)).mpr h2
    omega
theorem str_chars {i : Int} (h : i.natAbs < 1000000) : OkS (strI i) := by
  refine ⟨fun c hc => ?_, ?_⟩
  · obtain ⟨ch, _, rfl⟩ := List.mem_map.mp hc
    rcases ch.valid with h2 | h2
    · show ch.val.toNat < 1114112
      have : ch.val.toNat < 55296 := h2
      omega
    · show ch.val.toNat < 1114112
      exact h2.2
  · have h1 := PySem.int_text_fits (a := i) (log2_small h)
    rw [PySem.Str.ofString_eq_toList] at h1
    simpa [Str.length, strI] using h1
theorem cb_str : CallR X (.type "str") (rB1 X.K .str) := by
  intro pins s σ H xs us Q I r h
  obtain ⟨m, A, x, d, d3, rfl, hh, r1, eo, k⟩ := h
  cases d with
  | int i =>
    simp only [b1] at eo
    split at eo
    · rename_i hi
      cases eo
      have e1 := r1.inv_int
      subst e1
      refine L2.call_str_int pins s σ H _ us Q I r ⟨i, rfl, ?_, ?_⟩
      · exact log2_small hi
      · rw [PySem.Str.ofString_eq_toList]
        exact k.s (str_chars hi)
    · cases eo
  | _ => cases eo
end
end Mi
/-! Mini: is a text of the model that of a term of the small language? -/
namespace Mi
open PySem (Str Addr Value Expr Stmt Scope PyData sizeLine Const NameKind Operator CmpOp Comprehension)
open L2 (V Hp HO Key upd Rd SqL SqT Cx VK R2 OpR CallR MtR IxR SlR)

/-- where a text stands: the def's names by slot, the defs' and constants' names, the scope, a block's own scope -/
structure CC where
  N : List Str
  fn : Nat → Str
  gl : Nat → Str
  sc : Scope
  blk : Option Scope
  cl : Nat → Str
  calm : Bool
  at_ : Nat → Str
  mn : Nat → Str
  kn : Nat → Str
def visB (sc : Scope) (x : Str) : Bool := match sc.names.lookup x with
  | some .local => true
  | some .cell => true
  | some .free => true
  | _ => false
def gloB (sc : Scope) (x : Str) : Bool := match sc.names.lookup x with
  | some .globalImplicit => true
  | _ => false
/-- the name may be stored -/
def stoB (c : CC) (x : Str) : Bool := match c.sc.names.lookup x with
  | some .local => true
  | some .cell => (match c.blk with
    | none => true
    | some s => (match s.names.lookup x with
      | some .cell => true
      | _ => false))
  | _ => false
def plainName (x : Str) : Bool := !(x == ("__debug__" : Str)) && !(x == ("__classdict__" : Str)) && !(x == ("__name__" : Str))
def cstB : D → Const → Bool
  | .non, .none => true
  | .bl a, .bool b => a == b
  | .int a, .int b => a == b
  | .str a, .str b => decide (b.cps.toList = a) && a.all (fun c => decide (c < 1114112)) && decide (a.length ≤ 1000000)
  | _, _ => false
def binB : O2 → Operator → Bool
  | .add, .Add => true | .sub, .Sub => true | .mul, .Mult => true | .fdv, .FloorDiv => true | .mod, .Mod => true | .pow, .Pow => true
  | _, _ => false
def cmpB : O2 → CmpOp → Bool
  | .eq, .Eq => true | .ne, .NotEq => true | .lt, .Lt => true | .le, .LtE => true | .gt, .Gt => true | .ge, .GtE => true
  | .isin, .In => true | .nin, .NotIn => true | .iss, .Is => true | .isn, .IsNot => true
  | _, _ => false
def noSet : Expr → Bool
  | .Set _ _ _ => false
  | _ => true
def f1N : B1 → Option Str
  | .len => some "len" | .all => some "all" | .sum => some "sum" | .list => some "list" | .tuple => some "tuple" | .int => some "int" | .sorted => some "sorted" | .min => some "min" | .str => some "str"
def lmN : LM → Option Str
  | .count => some "count" | .index => some "index" | .tindex => some "index"
def f2N : B2 → Str
  | .max => "max" | .min => "min"
def m1N : M1 → Str
  | .count => "count" | .endswith => "endswith" | .join => "join"
def tyS : Ty → Str
  | .int => "int" | .bool => "bool" | .str => "str" | .list => "list" | .tuple => "tuple"
/-- no call without arguments (super()) -/
def noCall0 : Expr → Bool
  | .Call (.Name _ _) [] [] _ => false
  | _ => true
def chkT (c : CC) : Tg → Expr → Bool
  | .name i, .Name x _ => decide (c.N[i]? = some x) && stoB c x
  | .pair a b, .Tuple [x, y] _ _ => c.calm && (chkT c a x && chkT c b y)
  | .trip a b d, .Tuple [x, y, z] _ _ => c.calm && (chkT c a x && (chkT c b y && chkT c d z))
  | .quad a b d e, .Tuple [x, y, z, u] _ _ => c.calm && (chkT c a x && (chkT c b y && (chkT c d z && chkT c e u)))
  | _, _ => false
def slots : Tg → List Nat
  | .name i => [i]
  | .pair a b => slots a ++ slots b
  | .trip a b c => slots a ++ (slots b ++ slots c)
  | .quad a b c d => slots a ++ (slots b ++ (slots c ++ slots d))
def isTupT : Expr → Bool
  | .Tuple _ _ _ => true
  | _ => false
/-- the block's names with their slots -/
def ownB (N : List Str) (vs : List Nat) : List (Str × Nat) := vs.filterMap fun i => (N[i]?).map fun x => (x, i)
def blkB (c : CC) (scope : Scope) (vs : List Nat) : Bool := L2.blkC c.N c.sc scope (ownB c.N vs) && decide ((ownB c.N vs).map (·.2) = vs)
def CC.inB (c : CC) (scope : Scope) : CC := { c with sc := L2.relS scope c.sc, blk := some scope }
def noSlc : Expr → Bool
  | .Slice _ _ _ _ => false
  | _ => true
def vEqN : Expr → Option Expr
  | .Compare x [.Eq] [.List [] _] _ => some x
  | _ => none
def vSub : Expr → Option (Expr × Expr)
  | .Subscript x y _ => some (x, y)
  | _ => none
def vCall1 : Expr → Option (Str × Expr)
  | .Call (.Name n _) [y] [] _ => some (n, y)
  | _ => none
def vKey : Option Expr → Option (List Nat)
  | some (.Constant (.str s) _ _) => some s.cps.toList
  | _ => none
def vKeys : List (Option Expr) → Option (List (List Nat))
  | [] => some []
  | x :: r => match vKey x, vKeys r with
    | some s, some t => some (s :: t)
    | _, _ => none
def vDict : Expr → Option (List (Option Expr) × List Expr)
  | .Dict ks vs _ => some (ks, vs)
  | _ => none
mutual
def chkE (c : CC) (lo : Bool) : Ex → Expr → Bool
  | .var i, .Name x _ => decide (c.N[i]? = some x) && visB c.sc x && plainName x
  | .own i, .Name x _ => lo && (decide (c.N[i]? = some x) && visB c.sc x && plainName x)
  | .cst d, .Constant k _ _ => cstB d k
  | .glo i, .Name x _ => decide (c.gl i = x) && gloB c.sc x && plainName x
  | .op o a b, .BinOp x p y _ => binB o p && (chkE c lo a x && chkE c lo b y)
  | .op o a b, .Compare x [p] [y] _ => cmpB o p && (chkE c lo a x && (chkE c lo b y && noSet y))
  | .chain o o' a b d, .Compare x [p, p'] [y, z] _ => cmpB o p && (cmpB o' p' && (chkE c lo a x && (chkE c lo b y && (chkE c lo d z && (noSet y && noSet z)))))
  | .neg a, .UnaryOp .USub x _ => chkE c lo a x
  | .nt a, .UnaryOp .Not x _ => chkE c lo a x
  | .and a b, .BoolOp .And (x :: y :: r) p => chkE c lo a x && (match r with
    | [] => chkE c lo b y
    | _ => chkE c lo b (.BoolOp .And (y :: r) p))
  | .or a b, .BoolOp .Or (x :: y :: r) p => chkE c lo a x && (match r with
    | [] => chkE c lo b y
    | _ => chkE c lo b (.BoolOp .Or (y :: r) p))
  | .ite t a b, .IfExp z x y _ => chkE c lo t z && (chkE c lo a x && chkE c lo b y)
  | .lst es, .List xs _ => chkA c lo es xs
  | .tup es, .Tuple xs _ _ => chkA c lo es xs
  | .idx a i, .Subscript x y _ => chkE c lo a x && chkE c lo i y
  | .slc a none none, .Subscript x (.Slice none none none _) _ => chkE c lo a x
  | .slc a (some l) none, .Subscript x (.Slice (some y) none none _) _ => chkE c lo a x && chkE c lo l y
  | .slc a none (some h), .Subscript x (.Slice none (some z) none _) _ => chkE c lo a x && chkE c lo h z
  | .slc a (some l) (some h), .Subscript x (.Slice (some y) (some z) none _) _ => chkE c lo a x && (chkE c lo l y && chkE c lo h z)
  | .rev a, .Subscript x (.Slice none none (some (.UnaryOp .USub (.Constant (.int 1) _ _) _)) _) _ => chkE c lo a x
  | .f1 f a, .Call (.Name x _) [y] [] _ => c.calm && (decide (f1N f = some x) && (gloB c.sc x && chkE c lo a y))
  | .f2 f a b, .Call (.Name x _) [y, z] [] _ => c.calm && (decide (f2N f = x) && (gloB c.sc x && (chkE c lo a y && chkE c lo b z)))
  | .meth f a b, .Call (.Attribute x n ap) [y] [] cp => decide (m1N f = n) && ((ap.endLine == cp.line) && (noCall0 x && (chkE c lo a x && chkE c lo b y)))
  | .lmeth f a b, .Call (.Attribute x n ap) [y] [] cp => decide (lmN f = some n) && ((ap.endLine == cp.line) && (noCall0 x && (chkE c lo a x && chkE c lo b y)))
  | .nrng a b d, .Compare x [.NotIn] [.Call (.Name n _) [y, z] [] _] _ => decide (n = ("range" : Str)) && (gloB c.sc n && (chkE c lo a x && (chkE c lo b y && chkE c lo d z)))
  | .lzip a b, .Call (.Name f _) [.Call (.Name n _) [y, z] [] _] [] _ => c.calm && (decide (f = ("list" : Str)) && (gloB c.sc f && (decide (n = ("zip" : Str)) && (gloB c.sc n && (chkE c lo a y && chkE c lo b z)))))
  | .isi a t, .Call (.Name x _) [y, .Name z _] [] _ => decide (x = ("isinstance" : Str)) && (gloB c.sc x && (decide (tyS t = z) && (gloB c.sc z && chkE c lo a y)))
  | .isE i C, .Call (.Name x _) [.Name y _, .Name z _] [] _ => !c.calm && (decide (x = ("isinstance" : Str)) && (gloB c.sc x && (decide (c.N[i]? = some y) && (visB c.sc y && (plainName y && (decide (c.cl C = z) && (gloB c.sc z && plainName z)))))))
  | .call f es, .Call (.Name x _) (y :: ys) [] _ => c.calm && (decide (c.fn f = x) && (gloB c.sc x && (plainName x && chkA c false es (y :: ys))))
  | .callO f es, .Call (.Name x _) (y :: ys) [] _ => lo && (c.calm && (decide (c.fn f = x) && (gloB c.sc x && (plainName x && chkA c true es (y :: ys)))))
  | .fld a f, .Attribute x n _ => decide (c.at_ f = n) && (noCall0 x && chkE c false a x)
  | .mth a g es, .Call (.Attribute x n ap) ys [] cp => c.calm && (decide (c.mn g = n) && ((ap.endLine == cp.line) && (noCall0 x && (decide (ys.length < 20) && (chkE c false a x && chkA c false es ys)))))
  | .mk g es, .Call (.Name x _) (y :: ys) [] _ => c.calm && (decide (c.kn g = x) && (gloB c.sc x && (plainName x && chkA c false es (y :: ys))))
  | .lenSet a, .Call (.Name f _) [.Call (.Name n _) [y] [] _] [] _ => c.calm && (decide (f = ("len" : Str)) && (gloB c.sc f && (decide (n = ("set" : Str)) && (gloB c.sc n && chkE c lo a y))))
  | .eqN a, x => match vEqN x with
    | some y => chkE c lo a y
    | none => false
  | .dnew ks es, x => match vDict x with
    | some (kx, vs) => !ks.isEmpty && (decide (kx.length = vs.length ∧ ks.length ≤ 15) && (decide (vKeys kx = some ks) && chkA c false es vs))
    | none => false
  | .dget a i, x => match vSub x with
    | some (y, z) => noSlc z && (chkE c false a y && chkE c lo i z)
    | none => false
  | .dcpy a, x => match vCall1 x with
    | some (n, y) => decide (n = ("dict" : Str)) && (gloB c.sc n && chkE c false a y)
    | none => false
  | .dprs a, x => match vCall1 x with
    | some (n, y) => c.calm && (decide (n = ("dict" : Str)) && (gloB c.sc n && chkE c false a y))
    | none => false
  | .isLT a, .Call (.Name x _) [y, .Tuple [.Name l _, .Name t _] _ _] [] _ => decide (x = ("isinstance" : Str)) && (gloB c.sc x && (decide (l = ("list" : Str)) && (gloB c.sc l && (decide (t = ("tuple" : Str)) && (gloB c.sc t && chkE c lo a y)))))
  | .comp e tg it vs, .ListComp y [⟨t, i, [], 0⟩] scope _ => c.calm && (chkI c lo it t i && (blkB c scope vs && (chkT (c.inB scope) tg t && ((slots tg).all (fun k => vs.contains k) && chkE (c.inB scope) false e y))))
  | .compIf e tg it z vs, .ListComp y [⟨t, i, [u], 0⟩] scope _ => c.calm && (chkI c lo it t i && (blkB c scope vs && (chkT (c.inB scope) tg t && ((slots tg).all (fun k => vs.contains k) && (chkE (c.inB scope) false z u && chkE (c.inB scope) false e y)))))
  | _, _ => false
def chkA (c : CC) (lo : Bool) : Exs → List Expr → Bool
  | .nil, [] => true
  | .cons e es, x :: xs => chkE c lo e x && chkA c lo es xs
  | _, _ => false
def chkI (c : CC) (lo : Bool) : It → Expr → Expr → Bool
  | .seq e, _, x => noSet x && chkE c false e x
  | .enm e, t, .Call (.Name x _) [y] [] _ => decide (x = ("enumerate" : Str)) && (gloB c.sc x && (isTupT t && chkE c false e y))
  | .zip a b, t, .Call (.Name x _) [y, z] [] _ => decide (x = ("zip" : Str)) && (gloB c.sc x && (isTupT t && (chkE c false a y && chkE c false b z)))
  | .rng e, _, .Call (.Name x _) [y] [] _ => decide (x = ("range" : Str)) && (gloB c.sc x && chkE c lo e y)
  | .rng2 a b, _, .Call (.Name x _) [y, z] [] _ => decide (x = ("range" : Str)) && (gloB c.sc x && (chkE c lo a y && chkE c lo b z))
  | _, _, _ => false
end
def isComp : Expr → Bool
  | .ListComp _ _ _ _ => true
  | .SetComp _ _ _ _ => true
  | .DictComp _ _ _ _ _ => true
  | _ => false
/-- name = [..] on one line: the stores are exchanged -/
def swapB (c : CC) (n : Str) (np : PySem.Pos) : Expr → Bool
  | .ListComp _ _ scope pos => (match c.sc.names.lookup n with
      | some .local => true
      | _ => false) && ((np.line == pos.line) && !(scope.names.any fun (m, k) => m == n && (k == .local || k == .cell)))
  | _ => false
def cellB (sc : Scope) (n : Str) : Bool := match sc.names.lookup n with
  | some .cell => true
  | _ => false
def noTup : Expr → Bool
  | .Tuple _ _ _ => false
  | _ => true
def setOk (c : CC) (n : Str) (np : PySem.Pos) : Expr → Bool
  | .ListComp y gs scope p => swapB c n np (.ListComp y gs scope p) || cellB c.sc n
  | y => !isComp y
def asgOk (c : CC) (x : Expr) : Expr → Bool
  | .Name n np => setOk c n np x
  | .Tuple _ _ _ => noTup x && !isComp x
  | _ => false
def chkAsg (c : CC) (tg : Tg) (e : Ex) : Stmt → Bool
  | .Assign [t] x _ => chkT c tg t && (chkE c false e x && asgOk c x t)
  | _ => false
def chkNew (c : CC) (i : Nat) : Stmt → Bool
  | .Assign [.Name n _] (.List [] _) _ => decide (c.N[i]? = some n) && stoB c n
  | _ => false
def chkApp (c : CC) (i : Nat) (e : Ex) : Stmt → Bool
  | .Expr (.Call (.Attribute (.Name n _) a ap) [x] [] cp) _ => decide (a = ("append" : Str)) && ((ap.endLine == cp.line) && (decide (c.N[i]? = some n) && (visB c.sc n && (plainName n && chkE c false e x))))
  | _ => false
def locB (sc : Scope) (n : Str) : Bool := match sc.names.lookup n with
  | some .local => true
  | _ => false
def chkCpy (c : CC) (i : Nat) (e : Ex) : Stmt → Bool
  | .Assign [.Name n _] (.Call (.Name f _) [x] [] _) _ => decide (f = ("list" : Str)) && (gloB c.sc f && (decide (c.N[i]? = some n) && (stoB c n && chkE c false e x)))
  | _ => false
def chkThaw (c : CC) (i g : Nat) (es : Exs) : Stmt → Bool
  | .Assign [.Name n _] (.Call (.Name f _) (x :: xs) [] _) _ => c.calm && (decide (c.fn g = f) && (gloB c.sc f && (plainName f && (decide (c.N[i]? = some n) && (stoB c n && chkA c false es (x :: xs))))))
  | _ => false
def chkPut (c : CC) (i : Nat) (j e : Ex) : Stmt → Bool
  | .Assign [.Subscript (.Name n _) y _] x _ => decide (c.N[i]? = some n) && (visB c.sc n && (plainName n && (noSlc y && (!isComp x && (chkE c true j y && chkE c true e x)))))
  | _ => false
def nameT : Expr → Option Str
  | .Name n _ => some n
  | _ => none
def chkPar (c : CC) (i j : Nat) (a b : Ex) : Stmt → Bool
  | .Assign [.Tuple [.Name n p, .Name k q] _ _] (.Tuple [x, y] _ _) _ => c.calm && (!(i == j) && (decide (c.N[i]? = some n) && (decide (c.N[j]? = some k) && (locB c.sc n && (locB c.sc k && ((q.line == p.line) && (!([x, y].all (PySem.foldedForSure 8)) && (!([x, y].all (PySem.constantsAlone 8)) && (chkE c false a x && chkE c false b y)))))))))
  | _ => false
/-- tells a list of its own -/
def isFr : Ex → Bool
  | .own _ => true
  | .comp _ _ _ _ => true
  | .compIf _ _ _ _ _ => true
  | .op .add _ _ => true
  | _ => false
def vIf : Stmt → Option (Expr × List Stmt × List Stmt)
  | .If x xs ys _ => some (x, xs, ys)
  | _ => none
def vFor : Stmt → Option (Expr × Expr × List Stmt)
  | .For t x xs [] _ => some (t, x, xs)
  | _ => none
def vWhile : Stmt → Option (Expr × List Stmt)
  | .While x xs [] _ => some (x, xs)
  | _ => none
def vRet : Stmt → Option Expr
  | .Return (some x) _ => some x
  | _ => none
def vExpr : Stmt → Option Expr
  | .Expr x _ => some x
  | _ => none
def vExc : Expr → Option Str
  | .Call (.Name x _) [.Constant (.str _) _ _] [] _ => some x
  | _ => none
def vRaise : Stmt → Option Str
  | .Raise (some e) none _ => vExc e
  | _ => none
def vHand : PySem.ExceptHandler → Option (Str × Str × List Stmt)
  | .ExceptHandler (some (.Name x _)) (some n) ys _ => some (x, n, ys)
  | _ => none
def vTry : Stmt → Option (List Stmt × Str × Str × List Stmt)
  | .Try xs [h] [] [] _ => (vHand h).map fun q => (xs, q.1, q.2.1, q.2.2)
  | _ => none
def vPass : Stmt → Bool
  | .Pass _ => true
  | _ => false
def chkSetf (c : CC) (a : Ex) (f : Nat) (e : Ex) : Stmt → Bool
  | .Assign [.Attribute x n _] y _ => decide (c.at_ f = n) && (noCall0 x && (!isComp y && (chkE c false a x && chkE c false e y)))
  | _ => false
def chkDput (c : CC) (a i e : Ex) : Stmt → Bool
  | .Assign [.Subscript x y _] z _ => noSlc y && (!isComp z && (chkE c false a x && (chkE c false i y && chkE c false e z)))
  | _ => false
def chkRaisA (c : CC) (C : Nat) (e : Ex) : Stmt → Bool
  | .Raise (some (.Call (.Name x _) [y] [] _)) none _ => c.calm && (decide (c.cl C = x) && (gloB c.sc x && (plainName x && chkE c false e y)))
  | _ => false
/-- return ("refused", n.stands) -/
def vRef : Stmt → Option Str
  | .Return (some (.Tuple [.Constant (.str r) _ _, .Attribute (.Name n _) s _] _ _)) _ => if r = ("refused" : Str) ∧ s = ("stands" : Str) then some n else none
  | _ => none
mutual
def chkS (c : CC) : Sm → Stmt → Bool
  | .asg tg e, st => chkAsg c tg e st
  | .new i, st => chkNew c i st
  | .app i e, st => chkApp c i e st
  | .frz _ s, st => chkS c s st
  | .cpy i e, st => chkCpy c i e st
  | .thaw i g es, st => chkThaw c i g es st
  | .put i j e, st => chkPut c i j e st
  | .par i j a b, st => chkPar c i j a b st
  | .retF e, st => match vRet st with
    | some x => isFr e && chkE c true e x
    | none => false
  | .ifs t a b, st => match vIf st with
    | some (x, xs, ys) => chkE c true t x && (chkB c a xs && chkB c b ys)
    | none => false
  | .each tg it b, st => match vFor st with
    | some (t, x, xs) => c.calm && (chkI c false it t x && (chkT c tg t && chkB c b xs))
    | none => false
  | .whl t b, st => match vWhile st with
    | some (x, xs) => chkE c true t x && chkB c b xs
    | none => false
  | .ret e, st => match vRet st with
    | some x => chkE c true e x
    | none => false
  | .expr e, st => match vExpr st with
    | some x => chkE c true e x && !isComp x
    | none => false
  | .rais C, st => match vRaise st with
    | some x => c.calm && (decide (c.cl C = x) && (gloB c.sc x && plainName x))
    | none => false
  | .tryE b C i su, st => match vTry st with
    | some (xs, x, n, ys) => c.calm && (chkB c b xs && (decide (c.cl C = x) && (gloB c.sc x && (plainName x && (decide (c.N[i]? = some n) && (locB c.sc n && (chkB { c with calm := false } su ys && !ys.isEmpty)))))))
    | none => false
  | .raisA C e, st => chkRaisA c C e st
  | .setf a f e, st => chkSetf c a f e st
  | .dput a i e, st => chkDput c a i e st
  | .tryR b C i, st => match vTry st with
    | some (xs, x, n, ys) => c.calm && (chkB c b xs && (decide (c.cl C = x) && (gloB c.sc x && (plainName x && (decide (c.N[i]? = some n) && (locB c.sc n && (plainName n && (match ys with
      | [y] => decide (vRef y = some n)
      | _ => false))))))))
    | none => false
  | .nev, _ => true
  | .pass, st => vPass st
def chkB (c : CC) : Sms → List Stmt → Bool
  | .nil, [] => true
  | .cons s r, x :: xs => chkS c s x && chkB c r xs
  | _, _ => false
end
theorem chkSetf_eq {c : CC} {a : Ex} {f : Nat} {e : Ex} {st : Stmt} (h : chkSetf c a f e st = true) : ∃ x n p y q, st = .Assign [.Attribute x n p] y q ∧ c.at_ f = n ∧ noCall0 x = true ∧ isComp y = false ∧ chkE c false a x = true ∧ chkE c false e y = true := by
  unfold chkSetf at h
  split at h
  · simp only [Bool.and_eq_true, decide_eq_true_eq, Bool.not_eq_true'] at h
    exact ⟨_, _, _, _, _, rfl, h.1, h.2.1, h.2.2.1, h.2.2.2.1, h.2.2.2.2⟩
  · cases h
theorem chkDput_eq {c : CC} {a i e : Ex} {st : Stmt} (h : chkDput c a i e st = true) : ∃ x y p z q, st = .Assign [.Subscript x y p] z q ∧ noSlc y = true ∧ isComp z = false ∧ chkE c false a x = true ∧ chkE c false i y = true ∧ chkE c false e z = true := by
  unfold chkDput at h
  split at h
  · simp only [Bool.and_eq_true, Bool.not_eq_true'] at h
    exact ⟨_, _, _, _, _, rfl, h.1, h.2.1, h.2.2.1, h.2.2.2.1, h.2.2.2.2⟩
  · cases h
theorem chkRaisA_eq {c : CC} {C : Nat} {e : Ex} {st : Stmt} (h : chkRaisA c C e st = true) : ∃ x p y q r, st = .Raise (some (.Call (.Name x p) [y] [] q)) none r ∧ c.calm = true ∧ c.cl C = x ∧ gloB c.sc x = true ∧ plainName x = true ∧ chkE c false e y = true := by
  unfold chkRaisA at h
  split at h
  · simp only [Bool.and_eq_true, decide_eq_true_eq] at h
    exact ⟨_, _, _, _, _, rfl, h.1, h.2.1, h.2.2.1, h.2.2.2.1, h.2.2.2.2⟩
  · cases h
theorem vRef_eq {st : Stmt} {n : Str} (h : vRef st = some n) : ∃ j p1 p2 p3 k p4 p5, st = .Return (some (.Tuple [.Constant (.str ("refused" : Str)) j p1, .Attribute (.Name n p2) ("stands" : Str) p3] k p4)) p5 := by
  unfold vRef at h
  split at h
  · split at h
    · rename_i hc
      cases h
      obtain ⟨rfl, rfl⟩ := hc
      exact ⟨_, _, _, _, _, _, _, rfl⟩
    · cases h
  · cases h
theorem vEqN_eq {x y : Expr} (h : vEqN x = some y) : ∃ p q, x = .Compare y [.Eq] [.List [] p] q := by
  unfold vEqN at h
  split at h
  · cases h; exact ⟨_, _, rfl⟩
  · cases h
theorem vSub_eq {x y z : Expr} (h : vSub x = some (y, z)) : ∃ p, x = .Subscript y z p := by
  unfold vSub at h
  split at h
  · cases h; exact ⟨_, rfl⟩
  · cases h
theorem vCall1_eq {x y : Expr} {n : Str} (h : vCall1 x = some (n, y)) : ∃ p q, x = .Call (.Name n p) [y] [] q := by
  unfold vCall1 at h
  split at h
  · cases h; exact ⟨_, _, rfl⟩
  · cases h
theorem vKey_eq {x : Option Expr} {s : List Nat} (h : vKey x = some s) : ∃ j p, x = some (.Constant (.str ⟨s.toArray⟩) j p) := by
  unfold vKey at h
  split at h
  · rename_i s' j p
    cases h
    exact ⟨j, p, by simp⟩
  · cases h
theorem vDict_eq {x : Expr} {ks : List (Option Expr)} {vs : List Expr} (h : vDict x = some (ks, vs)) : ∃ p, x = .Dict ks vs p := by
  unfold vDict at h
  split at h
  · cases h; exact ⟨_, rfl⟩
  · cases h
theorem vIf_eq {st : Stmt} {x : Expr} {xs ys : List Stmt} (h : vIf st = some (x, xs, ys)) : ∃ p, st = .If x xs ys p := by
  cases st <;> first | (cases h; done) | (cases h; exact ⟨_, rfl⟩)
theorem vFor_eq {st : Stmt} {t x : Expr} {xs : List Stmt} (h : vFor st = some (t, x, xs)) : ∃ p, st = .For t x xs [] p := by
  cases st <;> first | (cases h; done) | skip
  rename_i a b d e p
  cases e <;> cases h
  exact ⟨_, rfl⟩
theorem vWhile_eq {st : Stmt} {x : Expr} {xs : List Stmt} (h : vWhile st = some (x, xs)) : ∃ p, st = .While x xs [] p := by
  cases st <;> first | (cases h; done) | skip
  rename_i a b d p
  cases d <;> cases h
  exact ⟨_, rfl⟩
theorem vRet_eq {st : Stmt} {x : Expr} (h : vRet st = some x) : ∃ p, st = .Return (some x) p := by
  cases st <;> first | (cases h; done) | skip
  rename_i a p
  cases a <;> cases h
  exact ⟨_, rfl⟩
theorem vExpr_eq {st : Stmt} {x : Expr} (h : vExpr st = some x) : ∃ p, st = .Expr x p := by
  cases st <;> first | (cases h; done) | (cases h; exact ⟨_, rfl⟩)
theorem vExc_eq {e : Expr} {x : Str} (h : vExc e = some x) : ∃ p m j p2 pos, e = .Call (.Name x p) [.Constant (.str m) j p2] [] pos := by
  unfold vExc at h
  split at h
  · cases h; exact ⟨_, _, _, _, _, rfl⟩
  · cases h
theorem vRaise_eq {st : Stmt} {x : Str} (h : vRaise st = some x) : ∃ p m j p2 pos q, st = .Raise (some (.Call (.Name x p) [.Constant (.str m) j p2] [] pos)) none q := by
  unfold vRaise at h
  split at h
  · obtain ⟨p, m, j, p2, pos, rfl⟩ := vExc_eq h
    exact ⟨_, _, _, _, _, _, rfl⟩
  · cases h
theorem vHand_eq {h : PySem.ExceptHandler} {x n : Str} {ys : List Stmt} (e : vHand h = some (x, n, ys)) : ∃ p q, h = .ExceptHandler (some (.Name x p)) (some n) ys q := by
  unfold vHand at e
  split at e
  · cases e; exact ⟨_, _, rfl⟩
  · cases e
theorem vTry_eq {st : Stmt} {x n : Str} {xs ys : List Stmt} (e : vTry st = some (xs, x, n, ys)) : ∃ p q r, st = .Try xs [.ExceptHandler (some (.Name x p)) (some n) ys q] [] [] r := by
  unfold vTry at e
  split at e
  · rename_i xs' h r
    cases q : vHand h with
    | none => rw [q] at e; cases e
    | some z =>
      obtain ⟨z1, z2, z3⟩ := z
      rw [q] at e
      cases e
      obtain ⟨p, q', rfl⟩ := vHand_eq q
      exact ⟨_, _, _, rfl⟩
  · cases e
theorem vPass_eq {st : Stmt} (h : vPass st = true) : ∃ p, st = .Pass p := by
  cases st <;> first | (cases h; done) | exact ⟨_, rfl⟩
theorem chkAsg_eq {c : CC} {tg : Tg} {e : Ex} {st : Stmt} (h : chkAsg c tg e st = true) : ∃ t x p, st = .Assign [t] x p ∧ chkT c tg t = true ∧ chkE c false e x = true ∧ asgOk c x t = true := by
  unfold chkAsg at h
  split at h
  · simp only [Bool.and_eq_true] at h
    exact ⟨_, _, _, rfl, h.1, h.2.1, h.2.2⟩
  · cases h
theorem chkNew_eq {c : CC} {i : Nat} {st : Stmt} (h : chkNew c i st = true) : ∃ n p q r, st = .Assign [.Name n p] (.List [] q) r ∧ c.N[i]? = some n ∧ stoB c n = true := by
  unfold chkNew at h
  split at h
  · simp only [Bool.and_eq_true, decide_eq_true_eq] at h
    exact ⟨_, _, _, _, rfl, h.1, h.2⟩
  · cases h
theorem chkApp_eq {c : CC} {i : Nat} {e : Ex} {st : Stmt} (h : chkApp c i e st = true) : ∃ n p1 ap x cp p, st = .Expr (.Call (.Attribute (.Name n p1) ("append" : Str) ap) [x] [] cp) p ∧ (ap.endLine == cp.line) = true ∧ c.N[i]? = some n ∧ visB c.sc n = true ∧ plainName n = true ∧ chkE c false e x = true := by
  unfold chkApp at h
  split at h
  · simp only [Bool.and_eq_true, decide_eq_true_eq] at h
    obtain ⟨h1, h2, h3, h4, h5, h6⟩ := h
    subst h1
    exact ⟨_, _, _, _, _, _, rfl, h2, h3, h4, h5, h6⟩
  · cases h
theorem chkCpy_eq {c : CC} {i : Nat} {e : Ex} {st : Stmt} (h : chkCpy c i e st = true) : ∃ n p q x r s, st = .Assign [.Name n p] (.Call (.Name ("list" : Str) q) [x] [] r) s ∧ gloB c.sc ("list" : Str) = true ∧ c.N[i]? = some n ∧ stoB c n = true ∧ chkE c false e x = true := by
  unfold chkCpy at h
  split at h
  · simp only [Bool.and_eq_true, decide_eq_true_eq] at h
    obtain ⟨rfl, h2, h3, h4, h5⟩ := h
    exact ⟨_, _, _, _, _, _, rfl, h2, h3, h4, h5⟩
  · cases h
theorem chkThaw_eq {c : CC} {i g : Nat} {es : Exs} {st : Stmt} (h : chkThaw c i g es st = true) : ∃ n p f q x xs r s, st = .Assign [.Name n p] (.Call (.Name f q) (x :: xs) [] r) s ∧ c.calm = true ∧ c.fn g = f ∧ gloB c.sc f = true ∧ plainName f = true ∧ c.N[i]? = some n ∧ stoB c n = true ∧ chkA c false es (x :: xs) = true := by
  unfold chkThaw at h
  split at h
  · simp only [Bool.and_eq_true, decide_eq_true_eq] at h
    obtain ⟨h1, h2, h3, h4, h5, h6, h7⟩ := h
    exact ⟨_, _, _, _, _, _, _, _, rfl, h1, h2, h3, h4, h5, h6, h7⟩
  · cases h
theorem chkPut_eq {c : CC} {i : Nat} {j e : Ex} {st : Stmt} (h : chkPut c i j e st = true) : ∃ n p y q x s, st = .Assign [.Subscript (.Name n p) y q] x s ∧ c.N[i]? = some n ∧ visB c.sc n = true ∧ plainName n = true ∧ noSlc y = true ∧ isComp x = false ∧ chkE c true j y = true ∧ chkE c true e x = true := by
  unfold chkPut at h
  split at h
  · simp only [Bool.and_eq_true, decide_eq_true_eq, Bool.not_eq_true'] at h
    obtain ⟨h1, h2, h3, h4, h5, h6, h7⟩ := h
    exact ⟨_, _, _, _, _, _, rfl, h1, h2, h3, h4, h5, h6, h7⟩
  · cases h
theorem chkPar_eq {c : CC} {i j : Nat} {a b : Ex} {st : Stmt} (h : chkPar c i j a b st = true) : ∃ n p k q kt pt x y k2 pt2 s, st = .Assign [.Tuple [.Name n p, .Name k q] kt pt] (.Tuple [x, y] k2 pt2) s ∧ c.calm = true ∧ i ≠ j ∧ c.N[i]? = some n ∧ c.N[j]? = some k ∧ locB c.sc n = true ∧ locB c.sc k = true ∧ (q.line == p.line) = true ∧ [x, y].all (PySem.foldedForSure 8) = false ∧ [x, y].all (PySem.constantsAlone 8) = false ∧ chkE c false a x = true ∧ chkE c false b y = true := by
  unfold chkPar at h
  split at h
  · obtain ⟨h1, h⟩ := Bool.and_eq_true_iff.mp h
    obtain ⟨h2, h⟩ := Bool.and_eq_true_iff.mp h
    obtain ⟨h3, h⟩ := Bool.and_eq_true_iff.mp h
    obtain ⟨h4, h⟩ := Bool.and_eq_true_iff.mp h
    obtain ⟨h5, h⟩ := Bool.and_eq_true_iff.mp h
    obtain ⟨h6, h⟩ := Bool.and_eq_true_iff.mp h
    obtain ⟨h7, h⟩ := Bool.and_eq_true_iff.mp h
    obtain ⟨h8, h⟩ := Bool.and_eq_true_iff.mp h
    obtain ⟨h9, h⟩ := Bool.and_eq_true_iff.mp h
    obtain ⟨h10, h11⟩ := Bool.and_eq_true_iff.mp h
    exact ⟨_, _, _, _, _, _, _, _, _, _, _, rfl, h1, by simpa using h2, of_decide_eq_true h3, of_decide_eq_true h4, h5, h6, h7, by simpa only [Bool.not_eq_true'] using h8, by simpa only [Bool.not_eq_true'] using h9, h10, h11⟩
  · cases h
theorem ba {a b : Bool} (h : (a && b) = true) : a = true ∧ b = true := Bool.and_eq_true_iff.mp h
theorem chkE_star {c : CC} {lo : Bool} {e : Ex} {x : Expr} {p : PySem.Pos} (h : chkE c lo e (.Starred x p) = true) : False := by
  cases e <;> first | (cases h; done) | (simp [chkE] at h; done) | (simp [chkE, vEqN, vSub, vCall1, vDict] at h; done) | skip
  all_goals (rename_i a b; cases a <;> cases b <;> simp [chkE] at h)
theorem star_cons {e : Expr} {es : List Expr} {env : PySem.Env} (h : ∀ x p, e ≠ .Starred x p) : PySem.starEach (e :: es) env = (false, PySem.eval e env) :: PySem.starEach es env := by
  cases e <;> first | rfl | exact absurd rfl (h _ _)
theorem chk_ns {c : CC} {lo : Bool} {e : Ex} {x : Expr} (h : chkE c lo e x = true) : ∀ y p, x ≠ .Starred y p := by
  rintro y p rfl
  exact chkE_star h
theorem stars_plain {c : CC} {lo : Bool} {env : PySem.Env} {pos : PySem.Pos} : ∀ {es : Exs} {xs : List Expr}, chkA c lo es xs = true → (PySem.backTo pos (PySem.starEach xs env)).any (·.1) = false
  | .nil, [], _ => rfl
  | .cons e es, x :: xs, h => by
    obtain ⟨h1, h2⟩ := ba h
    rw [star_cons (chk_ns h1)]
    show (false || _) = false
    rw [Bool.false_or]
    exact stars_plain h2
  | .nil, _ :: _, h => by cases h
  | .cons _ _, [], h => by cases h
end Mi
/-! Mini: what the interpreter says of an expression, the model does. -/
namespace Mi
open PySem (Str Addr Value Expr Stmt Scope PyData sizeLine Const NameKind Operator CmpOp Comprehension)
open L2 (V Hp HO Key upd Rd SqL SqT Cx VK R2 OpR CallR MtR IxR SlR PE PT PW PA PI PG TE TT TA TI TG WX Takes Room)

def ExR (G : Gx) (m : List Addr) (A : Addr → Prop) (H : Hp) (x : Xc) (c : Value) (dd : Option Addr) : Prop :=
  c = .ref (G.cls x.cls) ∧ match x.arg with
    | none => dd = none
    | some d => ∃ dx v, dd = some dx ∧ H dx = some (HO.xd [(("stands" : Str), v)]) ∧ RV G.K m A H v d
/-- what comes of a result -/
def PX {α β : Type} (G : Gx) (f : Fr) (σ : L2.St) (ρ : Env) (W : WX) (rel : List Addr → Hp → β → α → Prop) (m : List Addr) (H : Hp) (r : R α) (Q : β → Hp → Prop) : Prop := match r with
  | .ok d S' => ∀ v H' m', Ext m H m' H' → St G f σ H' ρ S' m' → rel m' H' v d → Q v H'
  | .xc x S' => ∀ c dd H' m', Ext m H m' H' → St G f σ H' ρ S' m' → ExR G m' (Av f σ ρ) H' x c dd → W c dd σ H'
  | .no => False
section
variable {α β γ δ : Type} {G : Gx} {f : Fr} {σ : L2.St} {ρ : Env} {W : WX} {rel : List Addr → Hp → β → α → Prop} {rel2 : List Addr → Hp → δ → γ → Prop} {m m' : List Addr} {H H' : Hp} {S : Sto} {r : R α} {Q Q' : β → Hp → Prop}
theorem PX.move (e : Ext m H m' H') (h : PX G f σ ρ W rel m H r Q) : PX G f σ ρ W rel m' H' r Q := by
  cases r with
  | ok d S' => exact fun v H2 m2 e2 s r => h v H2 m2 (e.trans e2) s r
  | xc x S' => exact fun c dd H2 m2 e2 s r => h c dd H2 m2 (e.trans e2) s r
  | no => exact h
theorem PX.imp (h : PX G f σ ρ W rel m H r Q) (hq : ∀ v H', Q v H' → Q' v H') : PX G f σ ρ W rel m H r Q' := by
  cases r with
  | ok d S' => exact fun v H2 m2 e2 s r => hq _ _ (h v H2 m2 e2 s r)
  | xc x S' => exact h
  | no => exact h
/-- one after another -/
theorem PX.bind {k : α → Sto → R γ} {Q2 : δ → Hp → Prop} (h : PX G f σ ρ W rel2 m H (r.bind k) Q2) :
    PX G f σ ρ W rel m H r fun v H1 => ∃ d S1 m1, Ext m H m1 H1 ∧ St G f σ H1 ρ S1 m1 ∧ rel m1 H1 v d ∧ PX G f σ ρ W rel2 m1 H1 (k d S1) Q2 := by
  cases r with
  | ok d S' => exact fun v H2 m2 e2 s r => ⟨d, S', m2, e2, s, r, h.move e2⟩
  | xc x S' => exact h
  | no => exact h
/-- the end, with what is at hand -/
theorem PX.now {d : α} (h : PX G f σ ρ W rel m H (.ok d S) Q) (s : St G f σ H ρ S m) {v : β} (r : rel m H v d) : Q v H := h v H m (Ext.refl m H) s r
theorem PX.relmap {rel' : List Addr → Hp → β → α → Prop} (h : PX G f σ ρ W rel m H r Q) (hr : ∀ m' H' v d, rel' m' H' v d → rel m' H' v d) : PX G f σ ρ W rel' m H r Q := by
  cases r with
  | ok d S' => exact fun v H2 m2 e2 s r => h v H2 m2 e2 s (hr _ _ _ _ r)
  | xc x S' => exact h
  | no => exact h
end
/-- the mode's places -/
def Bv (lo : Bool) (f : Fr) (σ : L2.St) (ρ : Env) : Addr → Prop := match lo with
  | true => f.A0
  | false => Av f σ ρ
theorem Bv.av {lo : Bool} {f : Fr} {σ : L2.St} {ρ : Env} {a : Addr} (h : Bv lo f σ ρ a) : Av f σ ρ a := by
  cases lo with
  | true => exact .inl h
  | false => exact h
abbrev rv (G : Gx) (B : Addr → Prop) : List Addr → Hp → V → D → Prop := fun m H v d => RV G.K m B H v d
abbrev rl (G : Gx) (B : Addr → Prop) : List Addr → Hp → List V → List D → Prop := fun m H v d => RL G.K m B H v d
abbrev rb : List Addr → Hp → Bool → Bool → Prop := fun _ _ v d => v = d
theorem St.held {G : Gx} {f : Fr} {σ : L2.St} {H : Hp} {ρ : Env} {S : Sto} {m : List Addr} {lo : Bool} (s : St G f σ H ρ S m) : Held m (Bv lo f σ ρ) H :=
  ⟨fun _ h => s.liveA h.av, fun _ h => s.sr.live h⟩
section
variable {G : Gx} {f : Fr} {σ : L2.St} {ρ : Env} {W : WX} {m : List Addr} {H : Hp} {S : Sto} {lo : Bool}
/-- an operation's end -/
theorem PX.ret {d : D} {Q : VK} (h : PX G f σ ρ W (rv G (Bv lo f σ ρ)) m H (.ok d S) Q) (s : St G f σ H ρ S m) : Ret G.K m (Bv lo f σ ρ) H d Q := by
  intro v H' n r
  refine h v H' m n.ext ?_ r
  rcases n with rfl | ⟨p, o, hp, rfl⟩
  · exact s
  · exact s.new hp
theorem PX.lifted {o : Option D} {Q : VK} (h : PX G f σ ρ W (rv G (Bv lo f σ ρ)) m H (lift o S) Q) (s : St G f σ H ρ S m) : ∃ d, o = some d ∧ Ret G.K m (Bv lo f σ ρ) H d Q := by
  cases o with
  | none => exact h.elim
  | some d => exact ⟨d, rfl, PX.ret h s⟩
end

/-! ### iterators -/
/-- what J gives are the items ds, while the things of B stand -/
def ItR (G : Gx) (A : Addr → Prop) (m : List Addr) (H : Hp) (J : L2.It) (ds : List D) : Prop :=
  ∃ (B : Addr → HO → Prop) (Y : Nat → Hp → V → Hp → Prop), L2.Walk J ds.length (fun H1 => ∀ a o, B a o → H1 a = some o) Y ∧ (∀ a o, B a o → H a = some o ∧ a ∉ m ∧ ¬ A a) ∧
    ∀ i d, ds[i]? = some d → ∀ m1 A1 H1 x H2, Kp m A H m1 A1 H1 → Held m1 A1 H1 → Y i H1 x H2 → Nw H1 H2 ∧ RV G.K m1 A1 H2 x d

/-! ### the readings -/
def GE (G : Gx) (F : Fns) (W : WX) (lo : Bool) (e : Ex) : TE := fun σ H Q => ∃ f ρ S m, St G f σ H ρ S m ∧ PX G f σ ρ W (rv G (Bv lo f σ ρ)) m H (ev F e ρ S) Q
def GT (G : Gx) (F : Fns) (W : WX) (lo : Bool) (e : Ex) : TT := fun σ H Q => ∃ f ρ S m, St G f σ H ρ S m ∧ PX G f σ ρ W rb m H ((ev F e ρ S).bind asB) Q
def GA (G : Gx) (F : Fns) (W : WX) (lo : Bool) (es : Exs) : TA := fun σ H Q => ∃ f ρ S m, St G f σ H ρ S m ∧ PX G f σ ρ W (rl G (Bv lo f σ ρ)) m H (evs F es ρ S) Q
theorem imp_pe {X : Cx} {e : Expr} {t t' : TE} (h : PE X e t) (hi : ∀ σ H Q, t' σ H Q → t σ H Q) : PE X e t' := ⟨fun pins s σ H Q I q => h.run pins s σ H Q I (hi σ H Q q)⟩
theorem imp_pt {X : Cx} {e : Expr} {t t' : TT} (h : PT X e t) (hi : ∀ σ H Q, t' σ H Q → t σ H Q) : PT X e t' := ⟨fun pins s σ H Q I q => h.run pins s σ H Q I (hi σ H Q q)⟩
theorem imp_pw {X : Cx} {e : Expr} {t t' : TT} (h : PW X e t) (hi : ∀ σ H Q, t' σ H Q → t σ H Q) : PW X e t' := ⟨fun wh pins s σ H Q I q => h.run wh pins s σ H Q I (hi σ H Q q)⟩
theorem imp_pa {X : Cx} {e : List Expr} {t t' : TA} (h : PA X e t) (hi : ∀ σ H Q, t' σ H Q → t σ H Q) : PA X e t' := ⟨fun pos pins s σ H Q I q => h.run pos pins s σ H Q I (hi σ H Q q)⟩

/-! ### what is known of the world -/
/-- what a def promises: g's result -/
def spF (G : Gx) (g : Fn) : L2.Sp := fun vs H Q E => ∃ ds S m A, SR G m A S H ∧ (∀ a, A a → H a ≠ none) ∧ RL G.K m A H vs ds ∧ match g ds S with
  | .ok d S' => ∀ v H' m', Ext m H m' H' → SR G m' A S' H' → RV G.K m' A H' v d → Q v H'
  | .xc x S' => ∀ c dd H' m', Ext m H m' H' → SR G m' A S' H' → ExR G m' A H' x c dd → E c dd H'
  | .no => False
/-- a list of its own: nothing of the store, and nothing else, holds it -/
def FrR (G : Gx) (m : List Addr) (A : Addr → Prop) (H0 H : Hp) (S : Sto) (v : V) (d : D) : Prop :=
  ∃ p vs ds, v = .ref p ∧ d = .lst ds ∧ H p = some (.lst vs) ∧ p ∉ m ∧ ¬ A p ∧ H0 p = none ∧ RL G.K m (fun a => A a ∨ a = p) H vs ds ∧ SR G m (fun a => A a ∨ a = p) S H
theorem FrR.sr {G : Gx} {m : List Addr} {A : Addr → Prop} {H0 H : Hp} {S : Sto} {v : V} {d : D} (h : FrR G m A H0 H S v d) : SR G m A S H := by
  obtain ⟨p, vs, ds, _, _, _, _, _, _, _, h⟩ := h
  exact h.less fun a z => .inl z
theorem FrR.rv {G : Gx} {m : List Addr} {A : Addr → Prop} {H0 H : Hp} {S : Sto} {v : V} {d : D} (h : FrR G m A H0 H S v d) : RV G.K m A H v d := by
  obtain ⟨p, vs, ds, rfl, rfl, h1, h2, h3, _, h4, _⟩ := h
  exact .lst h1 h2 h3 (h4.less fun a z => .inl z)
/-- .. and that the result is a list of its own -/
def spFr (G : Gx) (g : Fn) : L2.Sp := fun vs H Q E => ∃ ds S m A, SR G m A S H ∧ (∀ a, A a → H a ≠ none) ∧ RL G.K m A H vs ds ∧ match g ds S with
  | .ok d S' => ∀ v H' m', Ext m H m' H' → FrR G m' A H H' S' v d → Q v H'
  | .xc x S' => ∀ c dd H' m', Ext m H m' H' → SR G m' A S' H' → ExR G m' A H' x c dd → E c dd H'
  | .no => False
theorem spFr.of {G : Gx} {g : Fn} {vs : List V} {H : Hp} {Q : VK} {E : L2.XK} (h : spF G g vs H Q E) : spFr G g vs H Q E := by
  obtain ⟨ds, S, m, A, h1, h2, h3, h⟩ := h
  refine ⟨ds, S, m, A, h1, h2, h3, ?_⟩
  cases hr : g ds S with
  | ok d S' => rw [hr] at h; exact fun v H' m' e f => h v H' m' e f.sr f.rv
  | xc x S' => rw [hr] at h; exact h
  | no => rw [hr] at h; exact h
/-- the def named x keeps g's promise -/
def FnAt (P : PySem.Program) (w : PySem.World) (mg : Str → Option Value) (base : PySem.Heap) (G : Gx) (k : Nat) (x : Str) (g : Fn) : Prop :=
  ∃ f fd ps, mg x = some (.ref f) ∧ PySem.W.keepIn G.K (.ref f) = true ∧ L2.Binds G.K fd ps [] ∧ L2.FnOk P w G.K mg base (L2.CX P w) k f fd ps (spF G g)
def FnAtF (P : PySem.Program) (w : PySem.World) (mg : Str → Option Value) (base : PySem.Heap) (G : Gx) (k : Nat) (x : Str) (g : Fn) : Prop :=
  ∃ f fd ps, mg x = some (.ref f) ∧ PySem.W.keepIn G.K (.ref f) = true ∧ L2.Binds G.K fd ps [] ∧ L2.FnOk P w G.K mg base (L2.CX P w) k f fd ps (spFr G g)
def builtinNames : List Str := ["len", "all", "sum", "list", "tuple", "int", "max", "min", "isinstance", "bool", "str", "enumerate", "zip", "range", "sorted", "set", "dict"]
/-- class i, asked whether it is below j: b -/
def SubAt (mg : Str → Option Value) (G : Gx) (cl : Nat → Str) (i j : Nat) (b : Bool) : Prop :=
  mg (cl j) = some (.ref (G.cls j)) ∧ PySem.W.exmOne G.K (.ref (G.cls i)) (.ref (G.cls j)) = some b ∧ PySem.W.kitOne G.K (.ref (G.cls i)) (.ref (G.cls j)) = some b ∧ L2.ExcC G.K (G.cls i)
/-- class i may be raised with a text -/
def ExcAt (mg : Str → Option Value) (G : Gx) (cl : Nat → Str) (i : Nat) : Prop :=
  mg (cl i) = some (.ref (G.cls i)) ∧ (∃ B newId initId bmB, PySem.ExcBaseFacts B newId initId bmB ∧ PySem.W.excIn G.K (G.cls i) bmB newId = true) ∧ PySem.W.keepIn G.K (.ref (G.cls i)) = true ∧
    PySem.W.subIn G.K (.ref (G.cls i)) (.type "BaseException") = some true ∧ PySem.W.typeIn G.K (.ref (G.cls i)) = some (.type "type")
/-- a method: of class C, named n, keeps h's promise -/
def MtAt (P : PySem.Program) (w : PySem.World) (mg : Str → Option Value) (base : PySem.Heap) (G : Gx) (k : Nat) (C m : Nat) (n : Str) (h : Fn) : Prop :=
  G.fld m = n ∧ L2.Cls G.K (G.cls C) ∧ ∃ f fd ps, L2.Meth G.K (G.cls C) n f ∧ L2.Binds G.K fd ps [] ∧ L2.FnOk P w G.K mg base (L2.CX P w) k f fd ps (spF G h)
/-- a class that may be called: its __init__ keeps h's promise; dfl: arguments by default -/
def MkAt (P : PySem.Program) (w : PySem.World) (mg : Str → Option Value) (base : PySem.Heap) (G : Gx) (k : Nat) (C : Nat) (n : Str) (h : Fn) (dfl : List D) : Prop :=
  mg n = some (.ref (G.cls C)) ∧ ∃ j f fd ps dvs dus, j + 1 = k ∧ L2.Mk G.K (G.cls C) f ∧ L2.Binds G.K fd ps dus ∧ L2.Vals dvs dus ∧ (∀ m A H, RL G.K m A H dvs dfl) ∧ L2.FnOk P w G.K mg base (L2.CX P w) j f fd ps (spF G h)
/-- what the __init__ of an exception with a field does -/
def spLow (C : Addr) : L2.Sp := fun vs H Q _ => ∃ a v, vs = [V.ref a, v] ∧ H a = some (L2.exo a C none) ∧ ∀ dx, H dx = none → dx ≠ a → Q .non (upd (upd H dx (L2.exd dx [(("stands" : Str), v)])) a (L2.exo a C (some dx)))
/-- class C is raised with what it carries -/
def LowAt (P : PySem.Program) (w : PySem.World) (mg : Str → Option Value) (base : PySem.Heap) (G : Gx) (k : Nat) (cl : Nat → Str) (C : Nat) : Prop :=
  mg (cl C) = some (.ref (G.cls C)) ∧ L2.OexC G.K (G.cls C) ∧ L2.XfC G.K (G.cls C) ∧ PySem.W.findIn G.K (.ref (G.cls C)) ("stands" : Str) = some none ∧
    ∃ j f fd ps, j + 1 = k ∧ PySem.W.findIn G.K (.ref (G.cls C)) "__init__" = some (some (.ref f)) ∧ PySem.W.typeIn G.K (.ref f) = some (.type "function") ∧ L2.Binds G.K fd ps [] ∧ L2.FnOk P w G.K mg base (L2.CX P w) j f fd ps (spLow (G.cls C))
structure Wd (P : PySem.Program) (w : PySem.World) (mg : Str → Option Value) (base : PySem.Heap) (G : Gx) (F : Fns) (k : Nat) (fn gl cl mn kn : Nat → Str) : Prop where
  fns : ∀ i g, F.fn i = some g → FnAt P w mg base G k (fn i) g
  gls : ∀ i d, F.gl i = some d → ∃ v u, mg (gl i) = some u ∧ L2.RelV v u ∧ ∀ m A H, RV G.K m A H v d
  free : ∀ x ∈ builtinNames, mg x = none
  sub : ∀ i j b, F.sub i j = some b → SubAt mg G cl i j b
  exc : ∀ i, F.exc i = true → ExcAt mg G cl i
  frs : ∀ i g, F.fr i = some g → FnAtF P w mg base G k (fn i) g
  inj : ∀ i j, G.fld i = G.fld j → i = j
  fds : ∀ C f, F.fd C f = true → L2.Cls G.K (G.cls C) ∧ L2.NoAttr G.K (G.cls C) (G.fld f)
  mts : ∀ g C m h, F.mt g = some (C, m, h) → MtAt P w mg base G k C m (mn g) h
  mks : ∀ g C h dfl, F.mkr g = some (C, h, dfl) → MkAt P w mg base G k C (kn g) h dfl
  lows : ∀ C, F.low C = true → LowAt P w mg base G k cl C
/-- the context X is that of c -/
structure XC (G : Gx) (F : Fns) (k : Nat) (c : CC) (X : Cx) (W : WX) : Prop where
  wd : Wd X.prog X.w X.mg X.base G F k c.fn c.gl c.cl c.mn c.kn
  at_ : G.fld = c.at_
  K : X.K = G.K
  N : X.N = c.N
  nd : c.N.Nodup
  sc : X.env.scope = c.sc
  fn : X.fn = match c.blk with
    | none => fun _ => true
    | some s => fun x => s.names.lookup x == some .cell
  calm : c.calm = true → X.calm = true
  un : X.A.units + 64 < PySem.cLine
  room : c.calm = true → Room k X.A
  tk : Takes X W
  err : c.calm = false → ∀ x, F.err = some x → ∃ (X0 : Cx) (oe : PySem.Obj) (pn : List (Addr × PySem.Obj)), X = X0.suite G.ea ((G.ea, oe) :: pn) ∧ L2.Zc (.ref (G.cls x.cls)) none oe ∧ ∃ vs, oe.data = .fields vs
section
variable {G : Gx} {F : Fns} {k : Nat} {c : CC} {X : Cx} {W : WX} {lo : Bool} {e e' a b d : Ex} {x y z : Expr} {pos : PySem.Pos}
theorem XC.units (h : XC G F k c X W) : X.A.units + 64 < PySem.cLine := h.un
theorem XC.vis (h : XC G F k c X W) {x : Str} (hv : visB c.sc x = true) : L2.Vis X.env.scope x := by
  rw [h.sc]
  unfold visB at hv
  split at hv
  · rename_i q; exact .inl q
  · rename_i q; exact .inr (.inl q)
  · rename_i q; exact .inr (.inr q)
  · cases hv
theorem XC.gl (h : XC G F k c X W) {x : Str} (hv : gloB c.sc x = true) : L2.Gl X x := by
  show X.env.scope.names.lookup x = _
  rw [h.sc]
  unfold gloB at hv
  split at hv
  · rename_i q; exact q
  · cases hv
theorem plain_dbg {x : Str} (h : plainName x = true) : (x == ("__debug__" : Str)) = false ∧ (x == ("__classdict__" : Str)) = false ∧ x ≠ ("__name__" : Str) := by
  obtain ⟨h1, h2⟩ := ba h
  obtain ⟨h3, h4⟩ := ba h1
  refine ⟨by simpa using h3, by simpa using h4, ?_⟩
  have h5 : (x == ("__name__" : Str)) = false := by simpa using h2
  intro z
  rw [z] at h5
  simp at h5
theorem s_var {i : Nat} {n : Str} (X' : XC G F k c X W) (h : chkE c lo (.var i) (.Name n pos) = true) : PE X (.Name n pos) (GE G F W lo (.var i)) := by
  obtain ⟨h12, h3⟩ := ba h
  obtain ⟨h1, h2⟩ := ba h12
  obtain ⟨p1, p2, _⟩ := plain_dbg h3
  refine imp_pe (L2.pe_var (i := i) (by rw [X'.N]; exact of_decide_eq_true h1) (X'.vis h2) p1 p2) fun σ H Q h => ?_
  obtain ⟨f, ρ, S, m, s, q⟩ := h
  simp only [ev] at q
  split at q
  · rename_i d hd
    obtain ⟨v, e1, r⟩ := s.val i d hd
    exact ⟨v, e1, q.now s (r.less fun _ z => z.av)⟩
  · exact q.elim
theorem s_own {i : Nat} {n : Str} (X' : XC G F k c X W) (h : chkE c lo (.own i) (.Name n pos) = true) : PE X (.Name n pos) (GE G F W lo (.own i)) := by
  obtain ⟨hl, h⟩ := ba h
  obtain ⟨h12, h3⟩ := ba h
  obtain ⟨h1, h2⟩ := ba h12
  obtain ⟨p1, p2, _⟩ := plain_dbg h3
  refine imp_pe (L2.pe_var (i := i) (by rw [X'.N]; exact of_decide_eq_true h1) (X'.vis h2) p1 p2) fun σ H Q h => ?_
  obtain ⟨f, ρ, S, m, s, q⟩ := h
  simp only [ev] at q
  split at q
  · rename_i ds hd
    obtain ⟨p, vs, e1, e2, e3, e4, r⟩ := s.own i ds hd
    subst hl
    exact ⟨_, e1, q.now s (.lst e4 e2 e3 (r.less fun _ z => .inl z))⟩
  · exact q.elim
theorem s_cst {dd : D} {v : Const} {j : Nat} (h : chkE c lo (.cst dd) (.Constant v j pos) = true) : PE X (.Constant v j pos) (GE G F W lo (.cst dd)) := by
  have h : cstB dd v = true := h
  cases dd with
  | non =>
    cases v with
    | none => exact imp_pe L2.pe_non fun σ H Q ⟨f, ρ, S, m, s, q⟩ => q.now s .non
    | _ => cases h
  | bl b =>
    cases v with
    | bool b' =>
      have e : b = b' := by simpa [cstB] using h
      subst e
      exact imp_pe L2.pe_bl fun σ H Q ⟨f, ρ, S, m, s, q⟩ => q.now s (.bl b)
    | _ => cases h
  | int b =>
    cases v with
    | int b' =>
      have e : b = b' := by simpa [cstB] using h
      subst e
      exact imp_pe L2.pe_int fun σ H Q ⟨f, ρ, S, m, s, q⟩ => q.now s (.int b)
    | _ => cases h
  | str b =>
    cases v with
    | str b' =>
      obtain ⟨h1, h3⟩ := ba h
      obtain ⟨h1, h2⟩ := ba h1
      have e := of_decide_eq_true h1
      subst e
      refine imp_pe L2.pe_str fun σ H Q ⟨f, ρ, S, m, s, q⟩ => q.now s (.str b' ⟨fun z hz => ?_, lim_size (of_decide_eq_true h3)⟩)
      exact of_decide_eq_true (List.all_eq_true.mp h2 z hz)
    | _ => cases h
  | _ => cases v <;> cases h
theorem s_glo {i : Nat} {n : Str} (X' : XC G F k c X W) (h : chkE c lo (.glo i) (.Name n pos) = true) : PE X (.Name n pos) (GE G F W lo (.glo i)) := by
  obtain ⟨h12, h3⟩ := ba h
  obtain ⟨h1, h2⟩ := ba h12
  obtain ⟨p1, p2, _⟩ := plain_dbg h3
  have e := of_decide_eq_true h1
  subst e
  cases q : F.gl i with
  | none =>
    refine ⟨fun pins s σ H Q I h => ?_⟩
    obtain ⟨f, ρ, S, m, s, q'⟩ := h
    simp only [ev, q] at q'
    exact q'.elim
  | some d =>
    obtain ⟨v, u, e1, e2, e3⟩ := X'.wd.gls i d q
    refine imp_pe (L2.pe_glob (X'.gl h2) e1 e2 p1) fun σ H Q ⟨f, ρ, S, m, s, q'⟩ => ?_
    simp only [ev, q, lift_some] at q'
    exact q'.now s (e3 _ _ _)
theorem i_op {o : O2} (hK : X.K = G.K) {σ : L2.St} {H : Hp} {Q : VK} (h : GE G F W lo (.op o a b) σ H Q) : L2.tOp (rG X.K o) (GE G F W lo a) (GE G F W lo b) σ H Q := by
  obtain ⟨f, ρ, S, m, s, q⟩ := h
  simp only [ev] at q
  refine ⟨f, ρ, S, m, s, (PX.bind q).imp fun v H1 ⟨d1, S1, m1, e1, s1, r1, q1⟩ => ⟨f, ρ, S1, m1, s1, (PX.bind q1).imp fun u H2 ⟨d2, S2, m2, e2, s2, r2, q2⟩ => ?_⟩⟩
  obtain ⟨d3, e3, k3⟩ := PX.lifted q2 s2
  rw [hK]
  exact ⟨m2, _, d1, d2, d3, s2.held, r1.ext e2, r2, e3, k3⟩
/-- a test by its value -/
theorem i_test {t : TE} {σ : L2.St} {H : Hp} {Q : Bool → Hp → Prop} (hi : ∀ Q, GE G F W lo e σ H Q → t σ H Q) (h : GT G F W lo e σ H Q) : t σ H fun x H' => ∃ k, x = .bl k ∧ Q k H' := by
  obtain ⟨f, ρ, S, m, s, q⟩ := h
  refine hi _ ⟨f, ρ, S, m, s, (PX.bind q).imp fun v H1 ⟨d1, S1, m1, e1, s1, r1, q1⟩ => ?_⟩
  cases d1 with
  | bl b => exact ⟨b, r1.inv_bl, q1.now s1 rfl⟩
  | _ => exact q1.elim
theorem og_bin {o : O2} {p : Operator} (h : binB o p = true) : OpR X (PySem.binaryOp p) (rG X.K o) := by
  cases o <;> cases p <;> first | (cases h; done) | exact og_add | exact og_sub | exact og_mul | exact og_fdv | exact og_mod | exact og_pow
theorem og_cmp {o : O2} {p : CmpOp} (hu : X.A.units + 64 < PySem.cLine) (h : cmpB o p = true) : OpR X (PySem.compareOp p) (rG X.K o) := by
  cases o <;> cases p <;> first | (cases h; done) | exact og_eq hu | exact og_ne hu | exact og_lt (by omega) | exact og_le | exact og_gt (by omega) | exact og_ge | exact og_in | exact og_nin | exact og_is | exact og_isn
theorem noSet_marks {p : CmpOp} (h : noSet y = true) : PySem.behindInMarks p y = false := by
  cases y <;> first | rfl | cases h
/-- an expression: as a value, as a test -/
structure SE (G : Gx) (F : Fns) (X : Cx) (W : WX) (lo : Bool) (e : Ex) (x : Expr) : Prop where
  v : PE X x (GE G F W lo e)
  t : PT X x (GT G F W lo e)
  w : ∀ op l p, x = .BoolOp op l p → PW X x (GT G F W lo e)
theorem SE.plain (h : PE X x (GE G F W lo e)) (hp : ∀ whole, PySem.isTrue x X.env whole = (do let v ← whole; PySem.standAt x.pos; PySem.holding [v] (PySem.truthy v))) (hw : ∀ op l p, x ≠ .BoolOp op l p) : SE G F X W lo e x :=
  ⟨h, imp_pt (L2.pt_val h hp) fun σ H Q q => i_test (fun _ z => z) q, fun op l p z => absurd z (hw op l p)⟩
theorem s_bin {o : O2} {p : Operator} (X' : XC G F k c X W) (hb : binB o p = true) (h1 : SE G F X W lo a x) (h2 : SE G F X W lo b y) : SE G F X W lo (.op o a b) (.BinOp x p y pos) :=
  .plain (imp_pe (L2.pe_op (og_bin hb) h1.v h2.v) fun _ _ _ q => i_op X'.K q) (fun _ => rfl) (fun _ _ _ z => nomatch z)
theorem s_cmp {o : O2} {p : CmpOp} (X' : XC G F k c X W) (hb : cmpB o p = true) (h1 : SE G F X W lo a x) (h2 : SE G F X W lo b y) (hm : noSet y = true) : SE G F X W lo (.op o a b) (.Compare x [p] [y] pos) :=
  ⟨imp_pe (L2.pe_cmpR (og_cmp X'.units hb) h1.v h2.v (noSet_marks hm)) fun _ _ _ q => i_op X'.K q,
    imp_pt (L2.pt_cmpR (og_cmp X'.units hb) h1.v h2.v (noSet_marks hm)) fun _ _ _ q => i_test (fun _ z => i_op X'.K z) q, fun _ _ _ z => nomatch z⟩
theorem i_chain {o o' : O2} (hK : X.K = G.K) {σ : L2.St} {H : Hp} {Q : VK} (h : GE G F W lo (.chain o o' a b d) σ H Q) : L2.tChain (rG X.K o) (rG X.K o') (GE G F W lo a) (GE G F W lo b) (GE G F W lo d) σ H Q := by
  obtain ⟨f, ρ, S, m, s, q⟩ := h
  simp only [ev] at q
  refine ⟨f, ρ, S, m, s, (PX.bind q).imp fun v H1 ⟨d1, S1, m1, e1, s1, r1, q1⟩ => ⟨f, ρ, S1, m1, s1, (PX.bind q1).imp fun u H2 ⟨d2, S2, m2, e2, s2, r2, q2⟩ => ?_⟩⟩
  cases eo : op2 o d1 d2 with
  | none => rw [eo] at q2; exact q2.elim
  | some d3 =>
    rw [eo] at q2
    simp only [lift_some, R.bind_ok] at q2
    cases d3 with
    | bl t =>
      simp only [asB_bl, R.bind_ok] at q2
      rw [hK]
      refine ⟨m2, _, d1, d2, .bl t, s2.held, r1.ext e2, r2, eo, fun z H3 n r3 => ⟨t, r3.inv_bl, ?_⟩⟩
      have s3 : St G f σ H3 ρ S2 m2 := by
        rcases n with rfl | ⟨p, o, hp, rfl⟩
        · exact s2
        · exact s2.new hp
      have q3 := q2.move (n.ext (m := m2))
      cases t with
      | true =>
        rw [if_pos rfl] at q3 ⊢
        refine ⟨f, ρ, S2, m2, s3, (PX.bind q3).imp fun w H4 ⟨d4, S4, m4, e4, s4, r4, q4⟩ => ?_⟩
        obtain ⟨d5, e5, k5⟩ := PX.lifted q4 s4
        exact ⟨m4, _, d2, d4, d5, s4.held, (r2.ext n.ext).ext e4, r4, e5, k5⟩
      | false =>
        rw [if_neg Bool.false_ne_true] at q3 ⊢
        exact q3.now s3 (.bl false)
    | _ => exact q2.elim
theorem marks2 {p p' : CmpOp} (h : noSet y = true) (h' : noSet z = true) : PySem.lastMarks [p, p'] [y, z] = false := noSet_marks h'
theorem s_chain {o o' : O2} {p p' : CmpOp} (X' : XC G F k c X W) (hb : cmpB o p = true) (hb' : cmpB o' p' = true) (h1 : SE G F X W lo a x) (h2 : SE G F X W lo b y) (h3 : SE G F X W lo d z) (hm : noSet y = true) (hm' : noSet z = true) :
    SE G F X W lo (.chain o o' a b d) (.Compare x [p, p'] [y, z] pos) :=
  ⟨imp_pe (L2.pe_chain (og_cmp X'.units hb) (og_cmp X'.units hb') h1.v h2.v h3.v (marks2 hm hm')) fun _ _ _ q => i_chain X'.K q,
    imp_pt (L2.pt_chain (og_cmp X'.units hb) (og_cmp X'.units hb') h1.v h2.v h3.v (marks2 hm hm')) fun _ _ _ q => i_test (fun _ z => i_chain X'.K z) q, fun _ _ _ z => nomatch z⟩
theorem s_neg (h1 : SE G F X W lo a x) : SE G F X W lo (.neg a) (.UnaryOp .USub x pos) := by
  refine .plain (imp_pe (L2.pe_un L2.un_neg h1.v) fun σ H Q ⟨f, ρ, S, m, s, q⟩ => ?_) (fun _ => rfl) (fun _ _ _ z => nomatch z)
  simp only [ev] at q
  refine ⟨f, ρ, S, m, s, (PX.bind q).imp fun v H1 ⟨d1, S1, m1, e1, s1, r1, q1⟩ => ?_⟩
  cases d1 with
  | int i => exact ⟨i, r1.inv_int, PX.now q1 s1 (.int (-i))⟩
  | _ => exact q1.elim
theorem i_gt_not {σ : L2.St} {H : Hp} {Q : Bool → Hp → Prop} (h : GT G F W lo (.nt a) σ H Q) : L2.tNot (GT G F W lo a) σ H Q := by
  obtain ⟨f, ρ, S, m, s, q⟩ := h
  simp only [ev, R.bind_assoc] at q
  rw [← R.bind_assoc] at q
  refine ⟨f, ρ, S, m, s, (PX.bind (rel := rb) q).imp fun v H1 ⟨d1, S1, m1, e1, s1, r1, q1⟩ => ?_⟩
  cases r1
  exact PX.now q1 s1 rfl
theorem s_not (h1 : SE G F X W lo a x) : SE G F X W lo (.nt a) (.UnaryOp .Not x pos) := by
  refine ⟨imp_pe (L2.pe_not h1.v) fun σ H Q ⟨f, ρ, S, m, s, q⟩ => ?_, imp_pt (L2.pt_not h1.t) fun _ _ _ q => i_gt_not q, fun _ _ _ z => nomatch z⟩
  simp only [ev] at q
  refine ⟨f, ρ, S, m, s, (PX.bind q).imp fun v H1 ⟨d1, S1, m1, e1, s1, r1, q1⟩ => ?_⟩
  cases d1 with
  | bl i => exact ⟨i, r1.inv_bl, PX.now q1 s1 (.bl (!i))⟩
  | _ => exact q1.elim
theorem i_and {σ : L2.St} {H : Hp} {Q : VK} (h : GE G F W lo (.and a b) σ H Q) : L2.tAndV (GE G F W lo a) (GE G F W lo b) σ H Q := by
  obtain ⟨f, ρ, S, m, s, q⟩ := h
  simp only [ev] at q
  refine ⟨f, ρ, S, m, s, (PX.bind q).imp fun v H1 ⟨d1, S1, m1, e1, s1, r1, q1⟩ => ?_⟩
  cases d1 with
  | bl t =>
    refine ⟨t, r1.inv_bl, ?_⟩
    simp only [asB_bl, R.bind_ok] at q1
    cases t with
    | true => rw [if_pos rfl] at q1 ⊢; exact ⟨f, ρ, S1, m1, s1, q1⟩
    | false => rw [if_neg Bool.false_ne_true] at q1 ⊢; exact PX.now q1 s1 (.bl false)
  | _ => exact q1.elim
theorem i_or {σ : L2.St} {H : Hp} {Q : VK} (h : GE G F W lo (.or a b) σ H Q) : L2.tOrV (GE G F W lo a) (GE G F W lo b) σ H Q := by
  obtain ⟨f, ρ, S, m, s, q⟩ := h
  simp only [ev] at q
  refine ⟨f, ρ, S, m, s, (PX.bind q).imp fun v H1 ⟨d1, S1, m1, e1, s1, r1, q1⟩ => ?_⟩
  cases d1 with
  | bl t =>
    refine ⟨t, r1.inv_bl, ?_⟩
    simp only [asB_bl, R.bind_ok] at q1
    cases t with
    | true => rw [if_pos rfl] at q1 ⊢; exact PX.now q1 s1 (.bl true)
    | false => rw [if_neg Bool.false_ne_true] at q1 ⊢; exact ⟨f, ρ, S1, m1, s1, q1⟩
  | _ => exact q1.elim
theorem it_and {σ : L2.St} {H : Hp} {Q : Bool → Hp → Prop} (h : GT G F W lo (.and a b) σ H Q) : L2.tAnd (GT G F W lo a) (GT G F W lo b) σ H Q := by
  obtain ⟨f, ρ, S, m, s, q⟩ := h
  simp only [ev, R.bind_assoc] at q
  rw [← R.bind_assoc] at q
  refine ⟨f, ρ, S, m, s, (PX.bind (rel := rb) q).imp fun v H1 ⟨d1, S1, m1, e1, s1, r1, q1⟩ => ?_⟩
  cases r1
  cases v with
  | true => rw [if_pos rfl] at q1 ⊢; exact ⟨f, ρ, S1, m1, s1, q1⟩
  | false => rw [if_neg Bool.false_ne_true] at q1 ⊢; exact PX.now q1 s1 rfl
theorem it_or {σ : L2.St} {H : Hp} {Q : Bool → Hp → Prop} (h : GT G F W lo (.or a b) σ H Q) : L2.tOr (GT G F W lo a) (GT G F W lo b) σ H Q := by
  obtain ⟨f, ρ, S, m, s, q⟩ := h
  simp only [ev, R.bind_assoc] at q
  rw [← R.bind_assoc] at q
  refine ⟨f, ρ, S, m, s, (PX.bind (rel := rb) q).imp fun v H1 ⟨d1, S1, m1, e1, s1, r1, q1⟩ => ?_⟩
  cases r1
  cases v with
  | true => rw [if_pos rfl] at q1 ⊢; exact PX.now q1 s1 rfl
  | false => rw [if_neg Bool.false_ne_true] at q1 ⊢; exact ⟨f, ρ, S1, m1, s1, q1⟩
theorem s_and2 (h1 : SE G F X W lo a x) (h2 : SE G F X W lo b y) : SE G F X W lo (.and a b) (.BoolOp .And [x, y] pos) := by
  have w : PW X (.BoolOp .And [x, y] pos) (GT G F W lo (.and a b)) := imp_pw (L2.pw_and h1.t (L2.pw_and1 h2.t)) fun _ _ _ q => it_and q
  exact ⟨imp_pe (L2.pe_and h1.v (L2.pe_one h2.v)) fun _ _ _ q => i_and q, w.pt, fun op l p z => by cases z; exact w⟩
theorem s_or2 (h1 : SE G F X W lo a x) (h2 : SE G F X W lo b y) : SE G F X W lo (.or a b) (.BoolOp .Or [x, y] pos) := by
  have w : PW X (.BoolOp .Or [x, y] pos) (GT G F W lo (.or a b)) := imp_pw (L2.pw_or h1.t (L2.pw_or1 h2.t)) fun _ _ _ q => it_or q
  exact ⟨imp_pe (L2.pe_or h1.v (L2.pe_one h2.v)) fun _ _ _ q => i_or q, w.pt, fun op l p z => by cases z; exact w⟩
theorem s_and3 {r : List Expr} (h1 : SE G F X W lo a x) (h2 : SE G F X W lo b (.BoolOp .And (y :: r) pos)) : SE G F X W lo (.and a b) (.BoolOp .And (x :: y :: r) pos) := by
  have w : PW X (.BoolOp .And (x :: y :: r) pos) (GT G F W lo (.and a b)) := imp_pw (L2.pw_and h1.t (h2.w _ _ _ rfl)) fun _ _ _ q => it_and q
  exact ⟨imp_pe (L2.pe_and h1.v h2.v) fun _ _ _ q => i_and q, w.pt, fun op l p z => by cases z; exact w⟩
theorem s_or3 {r : List Expr} (h1 : SE G F X W lo a x) (h2 : SE G F X W lo b (.BoolOp .Or (y :: r) pos)) : SE G F X W lo (.or a b) (.BoolOp .Or (x :: y :: r) pos) := by
  have w : PW X (.BoolOp .Or (x :: y :: r) pos) (GT G F W lo (.or a b)) := imp_pw (L2.pw_or h1.t (h2.w _ _ _ rfl)) fun _ _ _ q => it_or q
  exact ⟨imp_pe (L2.pe_or h1.v h2.v) fun _ _ _ q => i_or q, w.pt, fun op l p z => by cases z; exact w⟩
def tIfT (t u v : TT) : TT := fun σ H Q => t σ H fun c H1 => if c = true then u σ H1 Q else v σ H1 Q
theorem pt_ite {t u v : TT} (h : PT X z t) (h1 : PT X x u) (h2 : PT X y v) : PT X (.IfExp z x y pos) (tIfT t u v) := by
  refine ⟨fun pins s σ H Q I q => ?_⟩
  refine PyProof.Rows.isTrue_IfExp (L2.thn (h.run pins s σ H _ I q) fun b s1 ⟨H1, I1, q1⟩ => ?_)
  cases b with
  | true => exact h1.run pins s1 σ H1 Q I1 q1
  | false => exact h2.run pins s1 σ H1 Q I1 q1
theorem s_ite (h : SE G F X W lo d z) (h1 : SE G F X W lo a x) (h2 : SE G F X W lo b y) : SE G F X W lo (.ite d a b) (.IfExp z x y pos) := by
  refine ⟨imp_pe (L2.pe_ifExp h.t h1.v h2.v) fun σ H Q ⟨f, ρ, S, m, s, q⟩ => ?_, imp_pt (pt_ite h.t h1.t h2.t) fun σ H Q ⟨f, ρ, S, m, s, q⟩ => ?_, fun _ _ _ z => nomatch z⟩
  · simp only [ev] at q
    rw [← R.bind_assoc] at q
    refine ⟨f, ρ, S, m, s, (PX.bind (rel := rb) q).imp fun v H1 ⟨d1, S1, m1, e1, s1, r1, q1⟩ => ?_⟩
    cases r1
    cases v with
    | true => rw [if_pos rfl] at q1 ⊢; exact ⟨f, ρ, S1, m1, s1, q1⟩
    | false => rw [if_neg Bool.false_ne_true] at q1 ⊢; exact ⟨f, ρ, S1, m1, s1, q1⟩
  · simp only [ev, R.bind_assoc] at q
    rw [← R.bind_assoc] at q
    refine ⟨f, ρ, S, m, s, (PX.bind (rel := rb) q).imp fun v H1 ⟨d1, S1, m1, e1, s1, r1, q1⟩ => ?_⟩
    cases r1
    cases v with
    | true => rw [if_pos rfl] at q1 ⊢; exact ⟨f, ρ, S1, m1, s1, q1⟩
    | false => rw [if_neg Bool.false_ne_true] at q1 ⊢; exact ⟨f, ρ, S1, m1, s1, q1⟩
/-! ### arguments, displays -/
theorem s_nil : PA X [] (GA G F W lo .nil) := imp_pa L2.pa_nil fun σ H Q ⟨f, ρ, S, m, s, q⟩ => PX.now q s .nil
theorem s_cons {es : Exs} {xs : List Expr} (hc : chkE c lo e x = true) (h1 : SE G F X W lo e x) (h2 : PA X xs (GA G F W lo es)) : PA X (x :: xs) (GA G F W lo (.cons e es)) := by
  refine imp_pa (L2.pa_cons h1.v h2 (star_cons (chk_ns hc))) fun σ H Q ⟨f, ρ, S, m, s, q⟩ => ?_
  simp only [evs] at q
  refine ⟨f, ρ, S, m, s, (PX.bind q).imp fun v H1 ⟨d1, S1, m1, e1, s1, r1, q1⟩ => ⟨f, ρ, S1, m1, s1, (PX.bind q1).imp fun u H2 ⟨d2, S2, m2, e2, s2, r2, q2⟩ => ?_⟩⟩
  exact PX.now q2 s2 (.cons (r1.ext e2) r2)
theorem s_lst {es : Exs} {xs : List Expr} (h : PA X xs (GA G F W lo es)) : SE G F X W lo (.lst es) (.List xs pos) := by
  refine .plain (imp_pe (L2.pe_lst h) fun σ H Q ⟨f, ρ, S, m, s, q⟩ => ?_) (fun _ => rfl) (fun _ _ _ z => nomatch z)
  simp only [ev] at q
  refine ⟨f, ρ, S, m, s, (PX.bind q).imp fun v H1 ⟨d1, S1, m1, e1, s1, r1, q1⟩ => ?_⟩
  unfold small at q1
  split at q1
  · rename_i hl
    exact ⟨by rw [r1.length]; exact lim_size hl, (PX.ret q1 s1).l s1.held r1⟩
  · exact q1.elim
theorem s_tup {es : Exs} {xs : List Expr} {j : Nat} (h : PA X xs (GA G F W lo es)) : SE G F X W lo (.tup es) (.Tuple xs j pos) := by
  refine .plain (imp_pe (Rt.pe_tupX h) fun σ H Q ⟨f, ρ, S, m, s, q⟩ => ?_) (fun _ => rfl) (fun _ _ _ z => nomatch z)
  simp only [ev] at q
  refine ⟨f, ρ, S, m, s, (PX.bind q).imp fun v H1 ⟨d1, S1, m1, e1, s1, r1, q1⟩ => ?_⟩
  unfold small at q1
  split at q1
  · rename_i hl
    exact ⟨by rw [r1.length]; exact lim_size hl, (PX.ret q1 s1).x s1.held r1⟩
  · exact q1.elim
/-! ### items, slices -/
theorem plainIx (h : chkE c lo b y = true) : L2.PlainIx y := by
  intro o i
  cases y <;> first | rfl | skip
  rename_i l u st p
  cases st with
  | some _ => rfl
  | none =>
    exfalso
    cases b <;> first | (cases h; done) | (simp [chkE] at h; done) | skip
    all_goals (rename_i a1 a2 a3; cases a2 <;> cases a3 <;> simp [chkE] at h)
theorem s_idx (X' : XC G F k c X W) (hb : chkE c lo b y = true) (h1 : SE G F X W lo a x) (h2 : SE G F X W lo b y) : SE G F X W lo (.idx a b) (.Subscript x y pos) := by
  refine .plain (imp_pe (L2.pe_ix ig_ix h1.v h2.v (plainIx hb)) fun σ H Q ⟨f, ρ, S, m, s, q⟩ => ?_) (fun _ => rfl) (fun _ _ _ z => nomatch z)
  simp only [ev] at q
  refine ⟨f, ρ, S, m, s, (PX.bind q).imp fun v H1 ⟨d1, S1, m1, e1, s1, r1, q1⟩ => ⟨f, ρ, S1, m1, s1, (PX.bind q1).imp fun u H2 ⟨d2, S2, m2, e2, s2, r2, q2⟩ => ?_⟩⟩
  obtain ⟨d3, e3, k3⟩ := PX.lifted q2 s2
  rw [X'.K]
  exact ⟨m2, _, d1, d2, d3, s2.held, r1.ext e2, r2, e3, k3⟩
theorem s_slc0 {p2 : PySem.Pos} (X' : XC G F k c X W) (h1 : SE G F X W lo a x) : SE G F X W lo (.slc a none none) (.Subscript x (.Slice none none none p2) pos) := by
  refine .plain (imp_pe (L2.pe_slice sg_sl h1.v L2.po_none L2.po_none) fun σ H Q ⟨f, ρ, S, m, s, q⟩ => ?_) (fun _ => rfl) (fun _ _ _ z => nomatch z)
  simp only [ev] at q
  refine ⟨f, ρ, S, m, s, (PX.bind q).imp fun v H1 ⟨d1, S1, m1, e1, s1, r1, q1⟩ => ?_⟩
  obtain ⟨d3, e3, k3⟩ := PX.lifted q1 s1
  show rSG X.K _ _ _ _ _
  rw [X'.K]
  exact ⟨m1, _, d1, d3, s1.held, r1, e3, k3⟩
theorem s_slcL {p2 : PySem.Pos} (X' : XC G F k c X W) (h1 : SE G F X W lo a x) (h2 : SE G F X W lo b y) : SE G F X W lo (.slc a (some b) none) (.Subscript x (.Slice (some y) none none p2) pos) := by
  refine .plain (imp_pe (L2.pe_slice sg_sl h1.v (L2.po_some h2.v) L2.po_none) fun σ H Q ⟨f, ρ, S, m, s, q⟩ => ?_) (fun _ => rfl) (fun _ _ _ z => nomatch z)
  simp only [ev] at q
  refine ⟨f, ρ, S, m, s, (PX.bind q).imp fun v H1 ⟨d1, S1, m1, e1, s1, r1, q1⟩ => ⟨f, ρ, S1, m1, s1, (PX.bind q1).imp fun u H2 ⟨d2, S2, m2, e2, s2, r2, q2⟩ => ?_⟩⟩
  cases d2 with
  | int i =>
    simp only [asI_int, R.bind_ok] at q2
    obtain ⟨d3, e3, k3⟩ := PX.lifted q2 s2
    refine ⟨i, r2.inv_int, ?_⟩
    show rSG X.K _ _ _ _ _
    rw [X'.K]
    exact ⟨m2, _, d1, d3, s2.held, r1.ext e2, e3, k3⟩
  | _ => exact q2.elim
theorem s_slcH {p2 : PySem.Pos} (X' : XC G F k c X W) (h1 : SE G F X W lo a x) (h2 : SE G F X W lo b y) : SE G F X W lo (.slc a none (some b)) (.Subscript x (.Slice none (some y) none p2) pos) := by
  refine .plain (imp_pe (L2.pe_slice sg_sl h1.v L2.po_none (L2.po_some h2.v)) fun σ H Q ⟨f, ρ, S, m, s, q⟩ => ?_) (fun _ => rfl) (fun _ _ _ z => nomatch z)
  simp only [ev] at q
  refine ⟨f, ρ, S, m, s, (PX.bind q).imp fun v H1 ⟨d1, S1, m1, e1, s1, r1, q1⟩ => ⟨f, ρ, S1, m1, s1, (PX.bind q1).imp fun u H2 ⟨d2, S2, m2, e2, s2, r2, q2⟩ => ?_⟩⟩
  cases d2 with
  | int i =>
    simp only [asI_int, R.bind_ok] at q2
    obtain ⟨d3, e3, k3⟩ := PX.lifted q2 s2
    refine ⟨i, r2.inv_int, ?_⟩
    show rSG X.K _ _ _ _ _
    rw [X'.K]
    exact ⟨m2, _, d1, d3, s2.held, r1.ext e2, e3, k3⟩
  | _ => exact q2.elim
theorem s_slcLH {p2 : PySem.Pos} (X' : XC G F k c X W) (h1 : SE G F X W lo a x) (h2 : SE G F X W lo b y) (h3 : SE G F X W lo d z) : SE G F X W lo (.slc a (some b) (some d)) (.Subscript x (.Slice (some y) (some z) none p2) pos) := by
  refine .plain (imp_pe (L2.pe_slice sg_sl h1.v (L2.po_some h2.v) (L2.po_some h3.v)) fun σ H Q ⟨f, ρ, S, m, s, q⟩ => ?_) (fun _ => rfl) (fun _ _ _ z => nomatch z)
  simp only [ev] at q
  refine ⟨f, ρ, S, m, s, (PX.bind q).imp fun v H1 ⟨d1, S1, m1, e1, s1, r1, q1⟩ => ⟨f, ρ, S1, m1, s1, (PX.bind q1).imp fun u H2 ⟨d2, S2, m2, e2, s2, r2, q2⟩ => ?_⟩⟩
  cases d2 with
  | int i =>
    simp only [asI_int, R.bind_ok] at q2
    refine ⟨i, r2.inv_int, f, ρ, S2, m2, s2, (PX.bind q2).imp fun u3 H3 ⟨d3, S3, m3, e3, s3, r3, q3⟩ => ?_⟩
    cases d3 with
    | int j =>
      simp only [asI_int, R.bind_ok] at q3
      obtain ⟨d4, e4, k4⟩ := PX.lifted q3 s3
      refine ⟨j, r3.inv_int, ?_⟩
      show rSG X.K _ _ _ _ _
      rw [X'.K]
      exact ⟨m3, _, d1, d4, s3.held, (r1.ext e2).ext e3, e4, k4⟩
    | _ => exact q3.elim
  | _ => exact q2.elim
theorem s_rev {p1 p2 p3 : PySem.Pos} {j : Nat} (X' : XC G F k c X W) (h1 : SE G F X W lo a x) : SE G F X W lo (.rev a) (.Subscript x (.Slice none none (some (.UnaryOp .USub (.Constant (.int 1) j p1) p2)) p3) pos) := by
  refine .plain (imp_pe (Rt.pe_rev h1.v) fun σ H Q ⟨f, ρ, S, m, s, q⟩ => ?_) (fun _ => rfl) (fun _ _ _ z => nomatch z)
  simp only [ev] at q
  refine ⟨f, ρ, S, m, s, (PX.bind q).imp fun v H1 ⟨d1, S1, m1, e1, s1, r1, q1⟩ => ?_⟩
  cases d1 with
  | lst ds =>
    obtain ⟨p, vs, ev, h1, _, _, rl⟩ := r1.inv_lst
    rw [X'.K]
    exact ⟨p, vs, ev, .inl ⟨sqL_of h1, (PX.ret q1 s1).l s1.held rl.reverse⟩⟩
  | tup ds =>
    obtain ⟨p, vs, ev, h1, rl⟩ := r1.inv_tup
    rw [X'.K]
    exact ⟨p, vs, ev, .inr ⟨h1, (PX.ret q1 s1).x s1.held rl.reverse⟩⟩
  | _ => exact q1.elim
end
end Mi
/-! list(zip(..)): a zip whose last tuple is still held. -/
namespace Zl
open PySem PySem.Calls PyProof.Rows PyProof.V PySem.Spec PySem.W
abbrev IsZipO (h : Heap) (z TI TO : Addr) (a : Nat) (f : Bool) : Prop :=
  h.get? z = some { cls := .type "zip", dict := none, data := .fields #[rawInt a, .bool f, .bool false, .ref TI, .ref TO], slots := #[] }
section
variable {prog : Program} {w : World} {A : Around} {E : Value → Shared → Prop} {s : Shared} {z TI TO i1 i2 a : Addr} {fp1 fp2 : List Addr} {n1 n2 i : Nat} {P1 P2 : Nat → Value → Prop} {St1 St2 : Nat → Heap → Prop} {f : Bool} {oa : Obj}
theorem alive {b : Addr} {Q : Option Obj → Shared → Prop} (h : Q (s.heap.get? b) s) : wpAny (model prog w) A (loadIfAlive b) Q E s := by
  intro Γ p hΓ
  exact h
theorem free_out {Q : Bool → Shared → Prop} (hz : IsZipO s.heap z TI TO a f) (ha : s.heap.get? a = some oa)
    (hQ : ∀ h', IsZipO h' z TI TO a true → Heap.SameBut z s.heap h' → Q false { s with heap := h' }) : wpAny (model prog w) A (Builtin.SmallTypes.ownedTupleIsFree (.ref z)) Q E s := by
  unfold Builtin.SmallTypes.ownedTupleIsFree
  refine wpAny_bind (wpAny_field hz rfl (x := rawInt a) rfl ?_)
  show wpAny _ _ (loadIfAlive (a : Int).toNat >>= _) _ _ _
  rw [Int.toNat_natCast]
  refine wpAny_bind (alive ?_)
  rw [ha]
  show wpAny _ _ (field (.ref z) 1 >>= _) _ _ _
  refine wpAny_bind (wpAny_field hz rfl (x := .bool f) rfl ?_)
  cases f with
  | true => exact wpAny_pure (hQ _ hz (Heap.SameBut.refl _ _))
  | false =>
    show wpAny _ _ (setField (.ref z) 1 (.bool true) >>= _) _ _ _
    refine wpAny_bind (wpAny_setField_rec hz (by simp) fun h' hz' hs' => wpAny_pure (hQ h' hz' hs'))
theorem next_out {Q : Value → Shared → Prop} (S : ZipSep2 z TI TO i1 i2 fp1 fp2) (D1 : Draws prog w A i1 fp1 n1 P1 St1) (D2 : Draws prog w A i2 fp2 n2 P2 St2)
    (hz : IsZipO s.heap z TI TO a f) (ha : s.heap.get? a = some oa) (hTI : IsTupOf2 s.heap TI (.ref i1) (.ref i2)) (st1 : St1 i s.heap) (st2 : St2 i s.heap) (hlt1 : i < n1) (hlt2 : i < n2)
    (hQ : ∀ x1 x2 h' tk, P1 i x1 → P2 i x2 → IsZipO h' z TI TO a true → St1 (i + 1) h' → St2 (i + 1) h' → IsTupOf2 h' s.heap.objs.size x1 x2 → h'.objs.size = s.heap.objs.size + 1 →
      (∀ c o, c ≠ z → c ≠ i1 → c ≠ i2 → s.heap.get? c = some o → h'.get? c = some o) → Q (.ref s.heap.objs.size) { s with heap := h', toks := tk }) :
    wpAny (model prog w) A (Builtin.«zip.__next__» ⟨[.ref z], []⟩) (fun fin s' => ∃ v, fin = .done (.ret v) ∧ Q v s') E s := by
  obtain ⟨hp, g, d, tk0, os⟩ := s
  show wpAny _ _ (field (.ref z) 2 >>= _) _ _ _
  refine wpAny_bind (wpAny_field hz rfl (x := .bool false) rfl ?_)
  show wpAny _ _ (field (.ref z) 3 >>= _) _ _ _
  refine wpAny_bind (wpAny_field hz rfl (x := .ref TI) rfl ?_)
  refine wpAny_bind (wpAny_seqItems hTI rfl ?_)
  show wpAny _ _ (Builtin.SmallTypes.ownedTupleIsFree (.ref z) >>= _) _ _ _
  refine wpAny_bind (free_out hz ha fun g0 hz0 hs0 => ?_)
  replace hs0 : Heap.SameBut z hp g0 := hs0
  simp only [Bool.false_eq_true, if_false]
  rw [List.forIn_toArray]
  simp only [List.forIn_cons, List.forIn_nil]
  refine wpAny_bind (wpAny_bind (wpAny_bind (wpAny_holding ?_)))
  show wpAny _ _ (Builtin.SmallTypes.nextOf (.ref i1) >>= _) _ _ ⟨g0, g, d, tk0, os⟩
  refine wpAny_bind (D1.item i _ _ _ hlt1 (D1.over st1 hs0 S.zf1) fun x1 p1 tk1 hx1 sn1 hp1 => wpAny_pure ?_)
  replace hp1 : Heap.SameBut i1 g0 p1 := hp1
  refine wpAny_pure ?_
  refine wpAny_bind (wpAny_bind (wpAny_holding ?_))
  show wpAny _ _ (Builtin.SmallTypes.nextOf (.ref i2) >>= _) _ _ ⟨p1, g, d, tk1, os⟩
  refine wpAny_bind (D2.item i _ _ _ hlt2 (D2.over (D2.over st2 hs0 S.zf2) hp1 S.sep1_2) fun x2 p2 tk2 hx2 sn2 hp2 => wpAny_pure ?_)
  replace hp2 : Heap.SameBut i2 p1 p2 := hp2
  refine wpAny_pure ?_
  refine wpAny_pure ?_
  show wpAny _ _ (newTuple [x1, x2] >>= _) _ _ ⟨p2, g, d, tk2, os⟩
  refine wpAny_bind (wpAny_newTuple ?_)
  have hsz : p2.objs.size = hp.objs.size := by rw [hp2.1, hp1.1, hs0.1]
  have up : ∀ c o, c ≠ z → c ≠ i1 → c ≠ i2 → hp.get? c = some o → (p2.push { cls := .type "tuple", data := .seq #[x1, x2] }).get? c = some o := fun c o cz c1 c2 e =>
    Heap.get?_push_of_some _ (hp2.extBut _ _ c2 (hp1.extBut _ _ c1 (hs0.extBut _ _ cz e)))
  have hzz : IsZipO (p2.push { cls := .type "tuple", data := .seq #[x1, x2] }) z TI TO a true := Heap.get?_push_of_some _ (hp2.extBut _ _ S.zi2 (hp1.extBut _ _ S.zi1 hz0))
  have hj1 : St1 (i + 1) (p2.push { cls := .type "tuple", data := .seq #[x1, x2] }) := D1.frame _ _ _ (D1.over sn1 hp2 S.sep2_1) fun b _ o e => Heap.get?_push_of_some _ e
  have hj2 : St2 (i + 1) (p2.push { cls := .type "tuple", data := .seq #[x1, x2] }) := D2.frame _ _ _ sn2 fun b _ o e => Heap.get?_push_of_some _ e
  refine wpAny_pure ⟨_, rfl, ?_⟩
  show Q (.ref p2.objs.size) ⟨p2.push { cls := .type "tuple", data := .seq #[x1, x2] }, g, d, tk2, os⟩
  have ht : IsTupOf2 (p2.push { cls := .type "tuple", data := .seq #[x1, x2] }) p2.objs.size x1 x2 := Heap.get?_push_size _ rfl
  have hs : (p2.push { cls := .type "tuple", data := .seq #[x1, x2] }).objs.size = hp.objs.size + 1 := by rw [Heap.size_push, hsz]
  rw [hsz] at ht ⊢
  exact hQ x1 x2 _ tk2 hx1 hx2 hzz hj1 hj2 ht hs up
theorem end_out {Q : Fin → Shared → Prop} (S : ZipSep2 z TI TO i1 i2 fp1 fp2) (D1 : Draws prog w A i1 fp1 n1 P1 St1) (D2 : Draws prog w A i2 fp2 n2 P2 St2)
    (hz : IsZipO s.heap z TI TO a f) (ha : s.heap.get? a = some oa) (hTI : IsTupOf2 s.heap TI (.ref i1) (.ref i2)) (st1 : St1 i s.heap) (st2 : St2 i s.heap) (hle1 : i ≤ n1) (hle2 : i ≤ n2) (hend : i = n1 ∨ i = n2)
    (hE : ∀ h' tk e, (∀ c o, c ≠ z → c ≠ i1 → c ≠ i2 → s.heap.get? c = some o → h'.get? c = some o) → (∃ o, h'.get? e = some o ∧ o.cls = .type "StopIteration") → E (.ref e) { s with heap := h', toks := tk }) :
    wpAny (model prog w) A (Builtin.«zip.__next__» ⟨[.ref z], []⟩) Q E s := by
  obtain ⟨hp, g, d, tk0, os⟩ := s
  show wpAny _ _ (field (.ref z) 2 >>= _) _ _ _
  refine wpAny_bind (wpAny_field hz rfl (x := .bool false) rfl ?_)
  show wpAny _ _ (field (.ref z) 3 >>= _) _ _ _
  refine wpAny_bind (wpAny_field hz rfl (x := .ref TI) rfl ?_)
  refine wpAny_bind (wpAny_seqItems hTI rfl ?_)
  show wpAny _ _ (Builtin.SmallTypes.ownedTupleIsFree (.ref z) >>= _) _ _ _
  refine wpAny_bind (free_out hz ha fun g0 hz0 hs0 => ?_)
  replace hs0 : Heap.SameBut z hp g0 := hs0
  simp only [Bool.false_eq_true, if_false]
  rw [List.forIn_toArray]
  simp only [List.forIn_cons, List.forIn_nil]
  refine wpAny_bind (wpAny_bind (wpAny_bind (wpAny_holding ?_)))
  show wpAny _ _ (Builtin.SmallTypes.nextOf (.ref i1) >>= _) _ _ ⟨g0, g, d, tk0, os⟩
  by_cases hlt1 : i < n1
  · refine wpAny_bind (D1.item i _ _ _ hlt1 (D1.over st1 hs0 S.zf1) fun x1 p1 tk1 hx1 sn1 hp1 => wpAny_pure ?_)
    replace hp1 : Heap.SameBut i1 g0 p1 := hp1
    refine wpAny_pure ?_
    refine wpAny_bind (wpAny_bind (wpAny_holding ?_))
    have hi2 : i = n2 := by omega
    show wpAny _ _ (Builtin.SmallTypes.nextOf (.ref i2) >>= _) _ _ ⟨p1, g, d, tk1, os⟩
    refine wpAny_bind (D2.done ⟨p1, g, d, tk1, os⟩ _ _ (by rw [← hi2]; exact D2.over (D2.over st2 hs0 S.zf2) hp1 S.sep1_2) fun q e hq he => ?_)
    replace hq : Heap.ExtBut i2 p1 q := hq
    exact hE q tk1 e (fun c o cz c1 c2 x => hq _ _ c2 (hp1.extBut _ _ c1 (hs0.extBut _ _ cz x))) he
  · have hi1 : i = n1 := by omega
    refine wpAny_bind (D1.done ⟨g0, g, d, tk0, os⟩ _ _ (by rw [← hi1]; exact D1.over st1 hs0 S.zf1) fun q e hq he => ?_)
    replace hq : Heap.ExtBut i1 g0 q := hq
    exact hE q tk0 e (fun c o cz c1 c2 x => hq _ _ c1 (hs0.extBut _ _ cz x)) he
theorem pyNext_out {Q : Option Value → Shared → Prop} (S : ZipSep2 z TI TO i1 i2 fp1 fp2) (D1 : Draws prog w A.in1 i1 fp1 n1 P1 St1) (D2 : Draws prog w A.in1 i2 fp2 n2 P2 St2)
    (hz : IsZipO s.heap z TI TO a f) (ha : s.heap.get? a = some oa) (hTI : IsTupOf2 s.heap TI (.ref i1) (.ref i2)) (st1 : St1 i s.heap) (st2 : St2 i s.heap) (hlt1 : i < n1) (hlt2 : i < n2)
    (hQ : ∀ x1 x2 h' tk, P1 i x1 → P2 i x2 → IsZipO h' z TI TO a true → St1 (i + 1) h' → St2 (i + 1) h' → IsTupOf2 h' s.heap.objs.size x1 x2 → h'.objs.size = s.heap.objs.size + 1 →
      (∀ c o, c ≠ z → c ≠ i1 → c ≠ i2 → s.heap.get? c = some o → h'.get? c = some o) → Q (some (.ref s.heap.objs.size)) { s with heap := h', toks := tk }) :
    wpAny (model prog w) A (pyNext (.ref z)) Q E s := by
  have hT : s.TypeIs (.ref z) "zip" := ⟨_, hz, rfl⟩
  unfold pyNext
  exact wpAny_bind (wpAny_attempt (wpAny_callSpecial?_slot (name := Str.ofString "__next__") hT PySem.F.slot_zip_next
    (wpAny_call_entry PySem.F.slot_zip_next hT PySem.F.entry_zip_next
      (next_out S D1 D2 hz ha hTI st1 st2 hlt1 hlt2 fun x1 x2 h' tk a1 a2 a3 a4 a5 a6 a7 a8 => wpAny_pure (hQ x1 x2 h' tk a1 a2 a3 a4 a5 a6 a7 a8)) (PySem.F.args_zip_next_1 _))))
theorem pyNext_end {Q : Option Value → Shared → Prop} (S : ZipSep2 z TI TO i1 i2 fp1 fp2) (D1 : Draws prog w A.in1 i1 fp1 n1 P1 St1) (D2 : Draws prog w A.in1 i2 fp2 n2 P2 St2)
    (hz : IsZipO s.heap z TI TO a f) (ha : s.heap.get? a = some oa) (hTI : IsTupOf2 s.heap TI (.ref i1) (.ref i2)) (st1 : St1 i s.heap) (st2 : St2 i s.heap) (hle1 : i ≤ n1) (hle2 : i ≤ n2) (hend : i = n1 ∨ i = n2)
    (hQ : ∀ h' tk, (∀ c o, c ≠ z → c ≠ i1 → c ≠ i2 → s.heap.get? c = some o → h'.get? c = some o) → Q none { s with heap := h', toks := tk }) : wpAny (model prog w) A (pyNext (.ref z)) Q E s := by
  have hT : s.TypeIs (.ref z) "zip" := ⟨_, hz, rfl⟩
  unfold pyNext
  refine wpAny_bind (wpAny_attempt (wpAny_callSpecial?_slot (name := Str.ofString "__next__") hT PySem.F.slot_zip_next
    (wpAny_call_entry PySem.F.slot_zip_next hT PySem.F.entry_zip_next (end_out S D1 D2 hz ha hTI st1 st2 hle1 hle2 hend fun h' tk e hk he => ?_) (PySem.F.args_zip_next_1 _))))
  obtain ⟨o, ho, hc⟩ := he
  refine wpAny_bind (wpAny_isInstance (T := "StopIteration") (b := true) ⟨o, ho, hc⟩ isSubtype_stop ?_)
  exact wpAny_pure (hQ _ _ hk)
end
/-- how the zip stands -/
def ZSt (h : Heap) (z TI TO i1 i2 L : Addr) (i : Nat) : Prop :=
  (i = 0 ∧ IsZip h z TI TO .none ∧ ∃ a1 a2, IsTupOf2 h TO a1 a2) ∨ ∃ a f oa, IsZipO h z TI TO a f ∧ h.get? a = some oa ∧ a ≠ z ∧ a ≠ i1 ∧ a ≠ i2 ∧ a ≠ L
section
variable {prog : Program} {w : World} {A : Around} {E : Value → Shared → Prop} {s : Shared} {z TI TO i1 i2 L : Addr} {fp1 fp2 : List Addr} {n1 n2 i : Nat} {P1 P2 : Nat → Value → Prop} {St1 St2 : Nat → Heap → Prop}
theorem z_item {Q : Option Value → Shared → Prop} (S : ZipSep2 z TI TO i1 i2 fp1 fp2) (D1 : Draws prog w A.in1 i1 fp1 n1 P1 St1) (D2 : Draws prog w A.in1 i2 fp2 n2 P2 St2)
    (hz : ZSt s.heap z TI TO i1 i2 L i) (hL : L < s.heap.objs.size) (hTI : IsTupOf2 s.heap TI (.ref i1) (.ref i2)) (st1 : St1 i s.heap) (st2 : St2 i s.heap) (hlt1 : i < n1) (hlt2 : i < n2)
    (hQ : ∀ x1 x2 h' tk, P1 i x1 → P2 i x2 → ZSt h' z TI TO i1 i2 L (i + 1) → St1 (i + 1) h' → St2 (i + 1) h' → IsTupOf2 h' s.heap.objs.size x1 x2 → h'.objs.size = s.heap.objs.size + 1 →
      (∀ c o, c ≠ z → c ≠ TO → c ≠ i1 → c ≠ i2 → s.heap.get? c = some o → h'.get? c = some o) → Q (some (.ref s.heap.objs.size)) { s with heap := h', toks := tk }) :
    wpAny (model prog w) A (pyNext (.ref z)) Q E s := by
  have l1 : i1 < s.heap.objs.size := let ⟨_, e⟩ := D1.live _ _ st1; Heap.lt_size e
  have l2 : i2 < s.heap.objs.size := let ⟨_, e⟩ := D2.live _ _ st2; Heap.lt_size e
  rcases hz with ⟨rfl, hz, a1, a2, hTO⟩ | ⟨a, f, oa, hz, ha, h1, h2, h3, h4⟩
  · have lz : z < s.heap.objs.size := Heap.lt_size hz
    refine wpAny_pyNext_zipD2_item S D1 D2 hz hTI hTO st1 st2 hlt1 hlt2 fun x1 x2 h' tk k1 k2 k3 k4 k5 k6 k7 k8 k9 => ?_
    exact hQ x1 x2 h' tk k1 k2 (.inr ⟨_, false, _, k3, k7, Nat.ne_of_gt lz, Nat.ne_of_gt l1, Nat.ne_of_gt l2, Nat.ne_of_gt hL⟩) k5 k6 k7 k8 k9
  · refine pyNext_out S D1 D2 hz ha hTI st1 st2 hlt1 hlt2 fun x1 x2 h' tk k1 k2 k3 k4 k5 k6 k7 k8 => ?_
    exact hQ x1 x2 h' tk k1 k2 (.inr ⟨a, true, oa, k3, k8 a oa h1 h2 h3 ha, h1, h2, h3, h4⟩) k4 k5 k6 k7 fun c o c1 _ c3 c4 e => k8 c o c1 c3 c4 e
theorem z_done {Q : Option Value → Shared → Prop} (S : ZipSep2 z TI TO i1 i2 fp1 fp2) (D1 : Draws prog w A.in1 i1 fp1 n1 P1 St1) (D2 : Draws prog w A.in1 i2 fp2 n2 P2 St2)
    (hz : ZSt s.heap z TI TO i1 i2 L i) (hTI : IsTupOf2 s.heap TI (.ref i1) (.ref i2)) (st1 : St1 i s.heap) (st2 : St2 i s.heap) (hle1 : i ≤ n1) (hle2 : i ≤ n2) (hend : i = n1 ∨ i = n2)
    (hQ : ∀ h' tk, (∀ c o, c ≠ z → c ≠ TO → c ≠ i1 → c ≠ i2 → s.heap.get? c = some o → h'.get? c = some o) → Q none { s with heap := h', toks := tk }) : wpAny (model prog w) A (pyNext (.ref z)) Q E s := by
  rcases hz with ⟨rfl, hz, a1, a2, hTO⟩ | ⟨a, f, oa, hz, ha, h1, h2, h3, h4⟩
  · exact wpAny_pyNext_zipD2_end S D1 D2 hz hTI hTO st1 st2 hle1 hle2 hend hQ
  · exact pyNext_end S D1 D2 hz ha hTI st1 st2 hle1 hle2 hend fun h' tk k => hQ h' tk fun c o c1 _ c3 c4 e => k c o c1 c3 c4 e
end
/-- the pairs -/
structure ZlG (P1 P2 : Nat → Value → Prop) (lo : Addr) (h : Heap) (as : List Addr) : Prop where
  above : ∀ a ∈ as, lo < a
  rise : as.Pairwise (· < ·)
  pairs : ∀ (j : Nat) (a : Addr), as[j]? = some a → ∃ x y, P1 j x ∧ P2 j y ∧ IsTupOf2 h a x y
section
variable {prog : Program} {w : World} {A : Around} {s : Shared} {R : Result → Shared → Prop} {z TI TO i1 i2 : Addr} {fp1 fp2 : List Addr} {n1 n2 : Nat} {P1 P2 : Nat → Value → Prop} {St1 St2 : Nat → Heap → Prop}
theorem zl_loop {L : Addr} (S : ZipSep2 z TI TO i1 i2 fp1 fp2) (D1 : Draws prog w A.in1.in1 i1 fp1 n1 P1 St1) (D2 : Draws prog w A.in1.in1 i2 fp2 n2 P2 St2) (hz : z < L) (hTI : TI < L) (hTO : TO < L) (hi1 : i1 < L) (hi2 : i2 < L) (hf1 : L ∉ fp1) (hf2 : L ∉ fp2) (hn : min n1 n2 ≤ sizeLine) (res : Value) {h₁ : Heap}
    (hR : ∀ h' tk acc c as, (∀ b o, b ≠ L → b ≠ z → b ≠ TO → b ≠ i1 → b ≠ i2 → h₁.get? b = some o → h'.get? b = some o) → h'.get? L = some { cls := .type "list", dict := none, data := .seq acc c, slots := #[] } → as.length = min n1 n2 → ZlG P1 P2 L h' as →
      acc.toList = as.map Value.ref → R (.ok (.ret res)) { s with heap := h', toks := tk }) :
    ∀ (k i : Nat) (h : Heap) (tk c : Nat) (acc : Array Value) (as : List Addr), min n1 n2 - i = k → i ≤ min n1 n2 → ZSt h z TI TO i1 i2 L i → IsTupOf2 h TI (.ref i1) (.ref i2) → St1 i h → St2 i h → (∀ b o, b ≠ L → b ≠ z → b ≠ TO → b ≠ i1 → b ≠ i2 → h₁.get? b = some o → h.get? b = some o) →
      h.get? L = some { cls := .type "list", dict := none, data := .seq acc c, slots := #[] } → acc.toList = as.map Value.ref → as.length = i → ZlG P1 P2 L h as →
      codeAny (model prog w) A (.builtin "list.extend.loop" ⟨[.ref L, .ref z, res], []⟩) R { s with heap := h, toks := tk } := by
  intro k
  induction k with
  | zero =>
    intro i h tk c acc as hk hi hst hti st1 st2 hkeep hL hacc hal hG
    have hin : i = min n1 n2 := by omega
    refine codeAny_builtin PySem.F.entry_extend_loop ?_
    rw [Around.under_plainId PySem.F.plain_extend_loop _]
    show wpAny _ A.in1 (pyNext (.ref z) >>= _) _ _ _
    refine wpAny_bind (z_done (s := { s with heap := h, toks := tk }) (A := A.in1) S D1 D2 hst hti st1 st2 (by omega) (by omega) (by omega) fun h' tk' he => ?_)
    refine wpAny_pure (hR h' tk' acc c as (fun b o h1 h2 h3 h4 h5 e => he b o h2 h3 h4 h5 (hkeep b o h1 h2 h3 h4 h5 e)) (he L _ (Nat.ne_of_gt hz) (Nat.ne_of_gt hTO) (Nat.ne_of_gt hi1) (Nat.ne_of_gt hi2) hL) (by omega) ⟨hG.above, hG.rise, fun j a hj => ?_⟩ hacc)
    obtain ⟨x, y, p1, p2, e3⟩ := hG.pairs j a hj
    have la := hG.above a (List.mem_of_getElem? hj)
    exact ⟨x, y, p1, p2, he a _ (Nat.ne_of_gt (Nat.lt_trans hz la)) (Nat.ne_of_gt (Nat.lt_trans hTO la)) (Nat.ne_of_gt (Nat.lt_trans hi1 la)) (Nat.ne_of_gt (Nat.lt_trans hi2 la)) e3⟩
  | succ k ih =>
    intro i h tk c acc as hk hi hst hti st1 st2 hkeep hL hacc hal hG
    have hlt : i < min n1 n2 := by omega
    have hsz : acc.size = i := by rw [← Array.length_toList, hacc, List.length_map, hal]
    have hLl : L < h.objs.size := Heap.lt_size hL
    refine codeAny_builtin PySem.F.entry_extend_loop ?_
    rw [Around.under_plainId PySem.F.plain_extend_loop _]
    show wpAny _ A.in1 (pyNext (.ref z) >>= _) _ _ _
    refine wpAny_bind (z_item (s := { s with heap := h, toks := tk }) (A := A.in1) (L := L) S D1 D2 hst hLl hti st1 st2 (by omega) (by omega) fun x1 x2 h' tk' k1 k2 hst' sn1 sn2 ht hzz hkp => ?_)
    dsimp only at ht hzz hkp ⊢
    have hL' := hkp L _ (Nat.ne_of_gt hz) (Nat.ne_of_gt hTO) (Nat.ne_of_gt hi1) (Nat.ne_of_gt hi2) hL
    have up : ∀ b o, b ≠ L → h'.get? b = some o → (h'.update L (Obj.mapSeq (·.push (Value.ref h.objs.size)))).get? b = some o := fun b o hb e => (Heap.get?_update_other _ _ (Ne.symm hb)).trans e
    have zst' : ZSt (h'.update L (Obj.mapSeq (·.push (Value.ref h.objs.size)))) z TI TO i1 i2 L (i + 1) := by
      rcases hst' with ⟨z0, _⟩ | ⟨a, f, oa, q1, q2, q3, q4, q5, q6⟩
      · omega
      · exact .inr ⟨a, f, oa, up _ _ (Nat.ne_of_lt hz) q1, up _ _ q6 q2, q3, q4, q5, q6⟩
    show wpAny _ A.in1 (updateSeq L (·.push (Value.ref h.objs.size)) >>= _) _ _ _
    refine wpAny_bind ?_
    refine wpAny_updateSeq hL' rfl (wpAny_pure ⟨plainId_quiet PySem.F.plain_extend_loop _, ih (i + 1) _ tk' _ (acc.push (Value.ref h.objs.size)) (as ++ [h.objs.size]) (by omega) hlt zst' (up _ _ (Nat.ne_of_lt hTI) (hkp TI _ S.TIz S.TITO S.TIi1 S.TIi2 hti))
      (D1.frame _ _ _ sn1 fun b hb o e => up b o (fun q => hf1 (q ▸ hb)) e) (D2.frame _ _ _ sn2 fun b hb o e => up b o (fun q => hf2 (q ▸ hb)) e)
      (fun b o h1 h2 h3 h4 h5 e => up b o h1 (hkp b o h2 h3 h4 h5 (hkeep b o h1 h2 h3 h4 h5 e))) (Heap.get?_update_self _ hL' rfl) (by rw [Array.toList_push, hacc, List.map_append]; rfl) (by rw [List.length_append, hal]; rfl) ⟨?_, ?_, ?_⟩⟩) (by rw [hsz]; omega) (by show (acc.push (Value.ref h.objs.size)).size ≤ sizeLine + 1; rw [Array.size_push, hsz]; omega)
    · intro a ha
      rcases List.mem_append.mp ha with ha | ha
      · exact hG.above a ha
      · rw [List.mem_singleton.mp ha]; exact hLl
    · refine List.pairwise_append.mpr ⟨hG.rise, List.pairwise_singleton _ _, fun a ha b hb => ?_⟩
      rw [List.mem_singleton.mp hb]
      obtain ⟨j, hj⟩ := List.mem_iff_getElem?.mp ha
      obtain ⟨_, _, _, _, e⟩ := hG.pairs j a hj
      exact Heap.lt_size e
    · intro j b hj
      rcases Nat.lt_trichotomy j as.length with h1 | h1 | h1
      · rw [List.getElem?_append_left h1] at hj
        obtain ⟨x, y, p1, p2, e3⟩ := hG.pairs j b hj
        have hb := hG.above b (List.mem_of_getElem? hj)
        exact ⟨x, y, p1, p2, up b _ (Nat.ne_of_gt hb) (hkp b _ (Nat.ne_of_gt (Nat.lt_trans hz hb)) (Nat.ne_of_gt (Nat.lt_trans hTO hb)) (Nat.ne_of_gt (Nat.lt_trans hi1 hb)) (Nat.ne_of_gt (Nat.lt_trans hi2 hb)) e3)⟩
      · subst h1
        have hb : h.objs.size = b := by simpa using hj
        subst hb
        subst hal
        exact ⟨x1, x2, k1, k2, up _ _ (Nat.ne_of_gt hLl) ht⟩
      · have hnone : (as ++ [h.objs.size])[j]? = none := List.getElem?_eq_none (by rw [List.length_append, List.length_singleton]; omega)
        rw [hnone] at hj; cases hj
end
section
variable {prog : Program} {w : World} {A : Around} {E : Value → Shared → Prop} {s : Shared} {z TI TO i1 i2 : Addr} {fp1 fp2 : List Addr} {n1 n2 : Nat} {P1 P2 : Nat → Value → Prop} {St1 St2 : Nat → Heap → Prop}
theorem zip_no_len : typeLookup (.type "zip") "__len__" = pure none := by rw [typeLookup_type, builtinLookup_eq_fast]; kernel_rfl
theorem zip_no_hint : typeLookup (.type "zip") "__length_hint__" = pure none := by rw [typeLookup_type, builtinLookup_eq_fast]; kernel_rfl
theorem zl_extend {R : Result → Shared → Prop} {L : Addr} (S : ZipSep2 z TI TO i1 i2 fp1 fp2) (D1 : Draws prog w A.in1.in1 i1 fp1 n1 P1 St1) (D2 : Draws prog w A.in1.in1 i2 fp2 n2 P2 St2) (hzL : z < L) (hTIL : TI < L) (hTOL : TO < L) (hi1 : i1 < L) (hi2 : i2 < L) (hf1 : L ∉ fp1) (hf2 : L ∉ fp2) (hn : min n1 n2 ≤ sizeLine)
    (hz : IsZip s.heap z TI TO .none) (hTI : IsTupOf2 s.heap TI (.ref i1) (.ref i2)) (hTO : ∃ a b, IsTupOf2 s.heap TO a b) (st1 : St1 0 s.heap) (st2 : St2 0 s.heap) (res : Value) (c₀ : Nat) (hS : s.heap.get? L = some { cls := .type "list", data := .seq #[] c₀ })
    (hR : ∀ h' tk acc c as, (∀ b o, b ≠ L → b ≠ z → b ≠ TO → b ≠ i1 → b ≠ i2 → s.heap.get? b = some o → h'.get? b = some o) → h'.get? L = some { cls := .type "list", dict := none, data := .seq acc c, slots := #[] } → as.length = min n1 n2 → ZlG P1 P2 L h' as →
      acc.toList = as.map Value.ref → R (.ok (.ret res)) { s with heap := h', toks := tk }) :
    wpAny (model prog w) A.in1 (Builtin.List.listExtendWith (.ref L) (.ref z) res)
      (fun fin s' => match fin with | .done f => R (.ok f) s' | .again c' => c'.quiet = true ∧ codeAny (model prog w) A c' R s') (fun e s' => R (.error e) s') s := by
  have hT : s.TypeIs (.ref z) "zip" := ⟨_, hz, rfl⟩
  have hLz : L ≠ z := Nat.ne_of_gt hzL
  unfold Builtin.List.listExtendWith
  refine wpAny_bind (wpAny_typeOf hT ?_)
  have h1 : Builtin.List.listSameRef (.ref L) (.ref z) = false := by simp [Builtin.List.listSameRef, hLz]
  have h2 : (Value.type "zip" == Value.type "list") = false := by decide
  have h3 : (Value.type "zip" == Value.type "tuple") = false := by decide
  simp only [h1, h2, h3, Bool.or_false, Bool.false_eq_true, if_false]
  refine wpAny_bind (wpAny_pyIter_zip hz ?_)
  refine wpAny_bind (wpAny_holding ?_)
  unfold Builtin.List.listLengthHint
  refine wpAny_bind (wpAny_specialOf hT zip_no_len ?_)
  show wpAny _ A.in1 (specialOf (Value.ref z) (Str.ofString "__length_hint__") >>= _) _ _ _
  refine wpAny_bind (wpAny_specialOf hT zip_no_hint ?_)
  refine wpAny_pure ?_
  show wpAny _ A.in1 (rule "list.extend.makes-room" >>= fun _ => Builtin.List.listTouch (.ref L) >>= fun _ =>
    again (.builtin "list.extend.loop" ⟨[.ref L, .ref z, res], []⟩)) _ _ _
  refine wpAny_bind (wpAny_rule ?_)
  refine wpAny_bind ?_
  show wpAny _ A.in1 (updateSeq L (·.push .none) >>= fun _ => updateSeq L (·.pop)) _ _ _
  refine wpAny_bind (wpAny_updateSeq hS rfl ?_)
  have hS₂ := Heap.get?_update_self (Obj.mapSeq (·.push Value.none)) hS rfl
  refine wpAny_updateSeq (hz := by seq_fits) hS₂ rfl ?_
  have hS₃ := Heap.get?_update_self (Obj.mapSeq (·.pop)) hS₂ rfl
  have oth : ∀ b o, b ≠ L → s.heap.get? b = some o → ((s.heap.update L (Obj.mapSeq (·.push Value.none))).update L (Obj.mapSeq (·.pop))).get? b = some o :=
    fun b o hb e => (Heap.get?_update_other _ _ (Ne.symm hb)).trans ((Heap.get?_update_other _ _ (Ne.symm hb)).trans e)
  obtain ⟨a1, a2, hTO⟩ := hTO
  refine wpAny_pure ⟨plainId_quiet PySem.F.plain_extend_loop _, zl_loop (s := s) (h₁ := s.heap) S D1 D2 hzL hTIL hTOL hi1 hi2 hf1 hf2 hn res hR (min n1 n2) 0 _ _ _ #[] [] (by omega) (by omega)
    (.inl ⟨rfl, oth _ _ (Nat.ne_of_lt hzL) hz, a1, a2, oth _ _ (Nat.ne_of_lt hTOL) hTO⟩) (oth _ _ (Nat.ne_of_lt hTIL) hTI) (D1.frame _ _ _ st1 fun b hb o e => oth b o (fun q => hf1 (q ▸ hb)) e) (D2.frame _ _ _ st2 fun b hb o e => oth b o (fun q => hf2 (q ▸ hb)) e)
    (fun b o hb _ _ _ _ e => oth b o hb e) hS₃ rfl rfl ⟨(fun _ ha => nomatch ha), List.Pairwise.nil, (fun j a hj => by simp at hj)⟩⟩
theorem zl_call {Q : Value → Shared → Prop} (S : ZipSep2 z TI TO i1 i2 fp1 fp2) (D1 : Draws prog w A.in1.in1.in1 i1 fp1 n1 P1 St1) (D2 : Draws prog w A.in1.in1.in1 i2 fp2 n2 P2 St2) (hf1 : ∀ b ∈ fp1, b < s.heap.objs.size) (hf2 : ∀ b ∈ fp2, b < s.heap.objs.size) (hn : min n1 n2 ≤ sizeLine)
    (hz : IsZip s.heap z TI TO .none) (hTI : IsTupOf2 s.heap TI (.ref i1) (.ref i2)) (hTO : ∃ a b, IsTupOf2 s.heap TO a b) (st1 : St1 0 s.heap) (st2 : St2 0 s.heap)
    (hQ : ∀ h' tk acc c as, (∀ b o, b ≠ z → b ≠ TO → b ≠ i1 → b ≠ i2 → s.heap.get? b = some o → h'.get? b = some o) → h'.get? s.heap.objs.size = some { cls := .type "list", dict := none, data := .seq acc c, slots := #[] } → as.length = min n1 n2 → ZlG P1 P2 s.heap.objs.size h' as →
      acc.toList = as.map Value.ref → Q (.ref s.heap.objs.size) { s with heap := h', toks := tk }) :
    wpAny (model prog w) A (call (.type "list") [.ref z]) Q E s := by
  refine callType_codes (Q₁ := fun obj s₁ => obj = .ref s.heap.objs.size ∧ s₁ = { s with heap := s.heap.push { cls := .type "list", data := .seq #[] } }) PySem.F.called_list (PySem.F.typeCall_list_1 _) PySem.F.entry_list_init
    (code_list_new _ ⟨rfl, rfl⟩) fun obj s₁ h₁ => ?_
  obtain ⟨rfl, rfl⟩ := h₁
  have hS : (s.heap.push { cls := .type "list", data := .seq #[] }).get? s.heap.objs.size = some { cls := .type "list", data := .seq #[] } := Heap.get?_push_size _ rfl
  have up : ∀ b o, s.heap.get? b = some o → (s.heap.push { cls := .type "list", data := .seq #[] }).get? b = some o := fun b o e => Heap.get?_push_of_some _ e
  refine ⟨⟨_, hS, rfl⟩, PySem.F.args_list_init_2 _ _, ?_⟩
  show wpAny _ _ (do let old ← Builtin.List.listItems (.ref s.heap.objs.size); Builtin.List.listUpdate (.ref s.heap.objs.size) (fun _ => #[]); letGo old.toList.reverse; Builtin.List.listExtendWith (.ref s.heap.objs.size) (.ref z) .none) _ _ _
  refine wpAny_bind ?_
  unfold Builtin.List.listItems
  refine wpAny_bind (wpAny_seqItems hS rfl (wpAny_pure ?_))
  show wpAny _ _ (updateSeq s.heap.objs.size (fun _ => #[]) >>= fun _ => letGo (#[] : Array Value).toList.reverse >>= fun _ => Builtin.List.listExtendWith (.ref s.heap.objs.size) (.ref z) .none) _ _ _
  refine wpAny_bind (wpAny_updateSeq hS rfl ?_)
  have hS₂ := Heap.get?_update_self (Obj.mapSeq (fun _ => (#[] : Array Value))) hS rfl
  have oth : ∀ b o, s.heap.get? b = some o → ((s.heap.push { cls := .type "list", data := .seq #[] }).update s.heap.objs.size (Obj.mapSeq (fun _ => (#[] : Array Value)))).get? b = some o :=
    fun b o e => (Heap.get?_update_other _ _ (Nat.ne_of_gt (Heap.lt_size e))).trans (up b o e)
  refine wpAny_bind (wpAny_letGo ?_)
  obtain ⟨a1, a2, hTO⟩ := hTO
  have l1 : i1 < s.heap.objs.size := let ⟨_, e⟩ := D1.live _ _ st1; Heap.lt_size e
  have l2 : i2 < s.heap.objs.size := let ⟨_, e⟩ := D2.live _ _ st2; Heap.lt_size e
  refine zl_extend (A := A.in1) S D1 D2 (Heap.lt_size hz) (Heap.lt_size hTI) (Heap.lt_size hTO) l1 l2 (fun q => Nat.lt_irrefl _ (hf1 _ q)) (fun q => Nat.lt_irrefl _ (hf2 _ q)) hn (oth _ _ hz) (oth _ _ hTI) ⟨a1, a2, oth _ _ hTO⟩
    (D1.frame _ _ _ st1 fun b _ o e => oth b o e) (D2.frame _ _ _ st2 fun b _ o e => oth b o e) .none _ hS₂ fun h' tk acc c as hk hS' hl hG hacc => ?_
  exact ⟨rfl, hQ h' tk acc c as (fun b o c1 c2 c3 c4 e => hk b o (Nat.ne_of_lt (Heap.lt_size e)) c1 c2 c3 c4 (oth b o e)) hS' hl hG hacc⟩
end
/-! ### in the layer -/
open L2 (V Hp HO upd Vals RelV Cx VK TE TA PE PA SqL SqT Inv)
/-- pairs laid -/
inductive LayT : Hp → List Addr → List (V × V) → Hp → Prop
  | nil (H : Hp) : LayT H [] [] H
  | cons {H H' : Hp} {t : Addr} {ts : List Addr} {x y : V} {ps : List (V × V)} : H t = none → LayT (upd H t (.tup [x, y])) ts ps H' → LayT H (t :: ts) ((x, y) :: ps) H'
def layH (H : Hp) : List Addr → List (V × V) → Hp
  | t :: ts, p :: ps => layH (upd H t (.tup [p.1, p.2])) ts ps
  | _, _ => H
section
variable {X : Cx} {pins : List (Addr × Obj)} {σ : L2.St} {s : Shared} {h' : Heap} {tk : Nat}
theorem lay_all : ∀ (as : List Addr) (ps : List (V × V)) (H : Hp) (G : Heap) (L : Addr), Inv X pins σ H { s with heap := G } → (∀ b o, G.get? b = some o → h'.get? b = some o) → as.Nodup → L ∉ as → G.get? L = none → H L = none →
    (∀ a ∈ as, G.get? a = none ∧ H a = none) → as.length = ps.length → (∀ (j : Nat) (a : Addr) (p : V × V), as[j]? = some a → ps[j]? = some p → ∃ x y, RelV p.1 x ∧ RelV p.2 y ∧ IsTupOf2 h' a x y) →
    ∃ G' : Heap, Inv X pins σ (layH H as ps) { s with heap := G' } ∧ (∀ b o, G'.get? b = some o → h'.get? b = some o) ∧ G'.get? L = none ∧ layH H as ps L = none ∧ LayT H as ps (layH H as ps)
  | [], [], H, G, L, I, hk, _, _, hL, hHL, _, _, _ => ⟨G, I, hk, hL, hHL, .nil H⟩
  | [], _ :: _, _, _, _, _, _, _, _, _, _, _, hl, _ => by simp at hl
  | _ :: _, [], _, _, _, _, _, _, _, _, _, _, hl, _ => by simp at hl
  | a :: as, p :: ps, H, G, L, I, hk, nd, hLa, hL, hHL, hn, hl, hp => by
    obtain ⟨hna, nd'⟩ := List.nodup_cons.mp nd
    obtain ⟨x, y, rx, ry, ht⟩ := hp 0 a p rfl rfl
    obtain ⟨ga, ha⟩ := hn a (List.mem_cons_self ..)
    obtain ⟨G1, g1, g2⟩ := L2.restrict h' fun b => (G.get? b).isSome || b == a
    have k1 : ∀ b o, G.get? b = some o → G1.get? b = some o := fun b o e => by
      rw [g1 b (by simp [e])]
      exact hk b o e
    have k2 : ∀ b o, G1.get? b = some o → h'.get? b = some o := fun b o e => by
      cases q : ((G.get? b).isSome || b == a) with
      | true => rw [← g1 b q]; exact e
      | false => rw [g2 b q] at e; cases e
    have hLa' : L ≠ a := fun z => hLa (by rw [z]; exact List.mem_cons_self ..)
    have out : ∀ b, G.get? b = none → b ≠ a → G1.get? b = none := fun b e n => g2 b (by simp [e, n])
    have hta : G1.get? a = some { cls := .type "tuple", data := .seq #[x, y] } := by rw [g1 a (by simp)]; exact ht
    have I1 : Inv X pins σ (upd H a (.tup [p.1, p.2])) { s with heap := G1 } := by
      refine L2.Inv.laidN (s := { s with heap := G }) (t' := s.toks) I k1 ga ha ?_
      exact ⟨by show 2 ≤ sizeLine; rw [sizeLine_eq]; decide, [x, y], .cons rx (.cons ry .nil), _, hta, rfl, _, rfl⟩
    obtain ⟨G', q1, q2, q3, q4, q5⟩ := lay_all as ps (upd H a (.tup [p.1, p.2])) G1 L I1 k2 nd' (fun z => hLa (List.mem_cons_of_mem _ z)) (out L hL hLa') (by rw [L2.upd_ne hLa']; exact hHL)
      (fun b hb => by
        have hba : b ≠ a := fun z => hna (by rw [← z]; exact hb)
        obtain ⟨e1, e2⟩ := hn b (List.mem_cons_of_mem _ hb)
        exact ⟨out b e1 hba, by rw [L2.upd_ne hba]; exact e2⟩) (by simpa using hl) fun j b q hj hq => hp (j + 1) b q (by simpa using hj) (by simpa using hq)
    exact ⟨G', q1, q2, q3, q4, .cons ha q5⟩
end
def tLz (K : PySem.W.Frag) (ta : TA) : TE := fun σ H Q => ta σ H fun vs H1 => ∃ (a b : Addr) (xs ys : List V), vs = [V.ref a, V.ref b] ∧ (SqL K H1 a xs ∨ SqT K H1 a xs) ∧ (SqL K H1 b ys ∨ SqT K H1 b ys) ∧
  ∀ ts H2 l, LayT H1 ts (xs.zip ys) H2 → H2 l = none → Q (.ref l) (upd H2 l (.lst (ts.map V.ref)))
theorem getv : ∀ {xs : List V} {us : List Value} {i : Nat} {x : V} {u : Value}, Vals xs us → xs[i]? = some x → us[i]? = some u → RelV x u
  | _, _, _, _, _, .nil, h, _ => by simp at h
  | _, _, 0, _, _, .cons r _, h, h' => by simp at h h'; subst h h'; exact r
  | _, _, i + 1, _, _, .cons _ t, h, h' => getv t (by simpa using h) (by simpa using h')
/-- a thing that zip walks -/
theorem src {X : Cx} {pins : List (Addr × Obj)} {σ : L2.St} {H : Hp} {s : Shared} {a : Addr} {xs : List V} (I : Inv X pins σ H s) (h : SqL X.K H a xs ∨ SqT X.K H a xs) (hc : X.calm = true) :
    ∃ (its : List Value) (o : Obj) (Hh : Heap → Prop) (St : Addr → Nat → Heap → Prop), Vals xs its ∧ its.length ≤ sizeLine ∧ a < s.heap.objs.size ∧ Begins (.ref a) o Hh ∧ Hh s.heap ∧
      (∀ it, a ≠ it → ∀ A : Around, A.handled = none → Draws X.prog X.w A it [it, a] its.length (fun i v => its[i]? = some v) (St it)) ∧ ∀ it h', h'.get? it = some o → Hh h' → St it 0 h' := by
  rcases h with h | h
  · obtain ⟨its, rv, p1, hz⟩ := I.list h
    refine ⟨its, _, _, fun it i h => h.IsListIter it a i ∧ h.IsList a its.toArray, rv, by rw [← rv.length]; exact hz, p1.lt, begins_list a its.toArray, p1.isList, fun it hne A hh => ?_, fun it h' e x => ⟨⟨_, e, rfl, rfl⟩, x⟩⟩
    have d := Draws.list (prog := X.prog) (w := X.w) (A := A) hh it a hne its.toArray
    simpa using d
  · obtain ⟨its, rv, p1, hz⟩ := I.tuple h
    obtain ⟨o1, ho1, _⟩ := id p1
    refine ⟨its, _, _, fun it i h => h.IsTupleIter it a i ∧ h.IsTuple a its.toArray, rv, by rw [← rv.length]; exact hz, Heap.lt_size ho1, begins_tuple a its.toArray, p1, fun it hne A hh => ?_, fun it h' e x => ⟨⟨_, e, rfl, rfl⟩, x⟩⟩
    have d := Draws.tuple (prog := X.prog) (w := X.w) (A := A) hh it a hne its.toArray
    simpa using d
open L2 in
theorem pe_listZip {X : Cx} {e1 e2 : Expr} {ta : TA} {p p2 q pos : Pos} (hg : Gl X "list") (hm : X.mg "list" = none) (hg2 : Gl X "zip") (hm2 : X.mg "zip" = none) (hc : X.calm = true) (ha : PA X [e1, e2] ta)
    (na : starEach [e1, e2] X.env = (false, eval e1 X.env) :: starEach [e2] X.env) (hpl : (backTo q (starEach [e2] X.env)).any (·.1) = false) : PE X (.Call (.Name "list" p) [.Call (.Name "zip" p2) [e1, e2] [] q] [] pos) (tLz X.K ta) := by
  refine ⟨fun pins s σ H Q I h => ?_⟩
  refine Call_ (ld_blt I hg hm PyProof.Rows.boot_list ?_)
  refine PyProof.Rows.callWith_type1 (PyProof.Rows.args_cons ?_ rfl) rfl rfl
  refine Call_ (ld_blt I hg2 hm2 PyProof.Rows.boot_zip (PyProof.Rows.callWith_type1 (thn (ha.run q pins s σ H _ I h) fun us s1 ⟨vs, H1, I1, r1, q1⟩ => ?_) na hpl))
  obtain ⟨a, b, xs, ys, rfl, h1, h2, q1⟩ := q1
  cases r1 with
  | cons r rr =>
    cases rr with
    | cons r' rr =>
      cases rr
      cases r
      cases r'
      have hh := I1.ok.hd hc
      obtain ⟨its, o1, Hh1, St1, rv1, z1, l1, B1, hh1, D1, g1⟩ := src I1 h1 hc
      obtain ⟨its2, o2, Hh2, St2, rv2, z2, l2, B2, hh2, D2, g2⟩ := src I1 h2 hc
      refine zip_begins2 B1 B2 hh1 hh2 fun h' hz hTI hTO e1' e2' hsz hk => ?_
      refine PyProof.Rows.args_nil ?_
      have S := zip_sep2 (N := s1.heap.objs.size) (fp1 := [a]) (fp2 := [b]) (fun c hcm => by rw [List.mem_singleton.mp hcm]; exact l1) (fun c hcm => by rw [List.mem_singleton.mp hcm]; exact l2)
      have N4 : s1.heap.objs.size ≤ h'.objs.size := by rw [hsz]; exact Nat.le_add_right _ _
      refine zl_call (s := { s1 with heap := h' }) S (D1 s1.heap.objs.size (Nat.ne_of_lt l1) _ hh) (D2 (s1.heap.objs.size + 1) (Nat.ne_of_lt (Nat.lt_succ_of_lt l2)) _ hh) (fun c hcm => ?_) (fun c hcm => ?_) (Nat.le_trans (Nat.min_le_left ..) z1) hz hTI ⟨_, _, hTO⟩
        (g1 _ _ e1' (B1.keeps _ _ hh1 hk)) (g2 _ _ e2' (B2.keeps _ _ hh2 hk)) fun h2 tk acc c as hk2 hL hl hG hacc => ?_
      · show c < h'.objs.size
        rw [hsz]
        rcases List.mem_cons.mp hcm with e | hcm
        · rw [e]; exact Nat.lt_add_of_pos_right (by decide)
        · rw [List.mem_singleton.mp hcm]; exact Nat.lt_of_lt_of_le l1 (Nat.le_add_right _ _)
      · show c < h'.objs.size
        rw [hsz]
        rcases List.mem_cons.mp hcm with e | hcm
        · rw [e]; exact Nat.add_lt_add_left (by decide) _
        · rw [List.mem_singleton.mp hcm]; exact Nat.lt_of_lt_of_le l2 (Nat.le_add_right _ _)
      · have hk3 : ∀ b o, s1.heap.get? b = some o → h2.get? b = some o := fun b o e => by
          have lb := Heap.lt_size e
          exact hk2 b o (Nat.ne_of_lt (Nat.lt_of_lt_of_le lb (Nat.le_add_right _ _))) (Nat.ne_of_lt (Nat.lt_of_lt_of_le lb (Nat.le_add_right _ _))) (Nat.ne_of_lt lb) (Nat.ne_of_lt (Nat.lt_of_lt_of_le lb (Nat.le_add_right _ _))) (hk b o e)
        have young : ∀ c, s1.heap.objs.size ≤ c → s1.heap.get? c = none ∧ H1 c = none := fun c hcl => ⟨by
          cases e : s1.heap.get? c with
          | none => rfl
          | some o => exact absurd (Heap.lt_size e) (Nat.not_lt.mpr hcl), I1.hok.fresh hcl⟩
        have lx : xs.length = its.length := rv1.length
        have ly : ys.length = its2.length := rv2.length
        obtain ⟨G', I2, k2, gL, hL0, lay⟩ := lay_all (X := X) (pins := pins) (σ := σ) (s := { s1 with toks := tk }) (h' := h2) as (xs.zip ys) H1 s1.heap h'.objs.size (I1.kept (t' := tk) fun _ _ e => e) hk3 (hG.rise.imp fun z => Nat.ne_of_lt z)
          (fun z => Nat.lt_irrefl _ (hG.above _ z)) (young _ N4).1 (young _ N4).2 (fun c hcm => young c (Nat.le_trans N4 (Nat.le_of_lt (hG.above c hcm)))) (by rw [List.length_zip, hl, lx, ly]) (fun j c pp hj hp => by
            obtain ⟨x, y, p1, p2, ht⟩ := hG.pairs j c hj
            obtain ⟨qx, qy⟩ := List.getElem?_zip_eq_some.mp hp
            exact ⟨x, y, getv rv1 qx p1, getv rv2 qy p2, ht⟩)
        refine ⟨.ref h'.objs.size, upd (layH H1 as (xs.zip ys)) h'.objs.size (.lst (as.map V.ref)), ?_, rfl, q1 as _ _ lay hL0⟩
        refine L2.Inv.laidN (s := { s1 with heap := G', toks := tk }) (t' := tk) I2 k2 gL hL0 ?_
        refine ⟨?_, acc.toList, c, ?_, ?_⟩
        · rw [List.length_map, hl]; exact Nat.le_trans (Nat.min_le_left ..) z1
        · rw [hacc]; exact L2.vals_refs as
        · rw [Array.toArray_toList]; exact hL
end Zl
/-! Mini: calls, walks, comprehensions. -/
namespace Mi
open PySem (Str Addr Value Expr Stmt Scope PyData sizeLine Const NameKind Operator CmpOp Comprehension)
open L2 (V Hp HO Key upd Rd SqL SqT Cx VK R2 OpR CallR MtR IxR SlR PE PT PW PA PI PG TE TT TA TI TG WX Takes Room)
section
variable {G : Gx} {F : Fns} {k : Nat} {c : CC} {X : Cx} {W : WX} {lo : Bool} {e e' a b d : Ex} {x y z : Expr} {pos : PySem.Pos}
theorem a_one (hc : chkE c lo a y = true) (h1 : SE G F X W lo a y) : PA X [y] (GA G F W lo (.cons a .nil)) := s_cons hc h1 s_nil
theorem a_two (hc : chkE c lo a y = true) (hc2 : chkE c lo b z = true) (h1 : SE G F X W lo a y) (h2 : SE G F X W lo b z) : PA X [y, z] (GA G F W lo (.cons a (.cons b .nil))) := s_cons hc h1 (s_cons hc2 h2 s_nil)
theorem plain1 (hc : chkE c lo a y = true) {p : PySem.Pos} {env : PySem.Env} : (PySem.backTo p (PySem.starEach ([] : List Expr) env)).any (·.1) = false := rfl
theorem plain2 (hc : chkE c lo b z = true) {p : PySem.Pos} {env : PySem.Env} : (PySem.backTo p (PySem.starEach [z] env)).any (·.1) = false := by
  rw [star_cons (chk_ns hc)]
  rfl
theorem i_f1 {f : B1} (hK : X.K = G.K) {σ : L2.St} {H : Hp} {Q : VK} (h : GE G F W lo (.f1 f a) σ H Q) : L2.tCB (rB1 X.K f) (GA G F W lo (.cons a .nil)) σ H Q := by
  obtain ⟨fr, ρ, S, m, s, q⟩ := h
  refine ⟨fr, ρ, S, m, s, ?_⟩
  have e1 : evs F (.cons a .nil) ρ S = (ev F a ρ S).bind fun x S => .ok [x] S := rfl
  rw [e1]
  simp only [ev] at q
  cases r : ev F a ρ S with
  | ok d1 S1 =>
    rw [r] at q
    intro v H1 m1 ex s1 r1
    cases r1 with
    | cons r1 r2 =>
      cases r2
      obtain ⟨d3, e3, k3⟩ := PX.lifted (PX.move ex q) s1
      rw [hK]
      exact ⟨m1, _, _, d1, d3, rfl, s1.held, r1, e3, k3⟩
  | xc _ _ => rw [r] at q; exact q
  | no => rw [r] at q; exact q
theorem i_f2 {f : B2} (hK : X.K = G.K) {σ : L2.St} {H : Hp} {Q : VK} (h : GE G F W lo (.f2 f a b) σ H Q) : L2.tCB (rB2 X.K f) (GA G F W lo (.cons a (.cons b .nil))) σ H Q := by
  obtain ⟨fr, ρ, S, m, s, q⟩ := h
  refine ⟨fr, ρ, S, m, s, ?_⟩
  have e1 : evs F (.cons a (.cons b .nil)) ρ S = (ev F a ρ S).bind fun x S => (ev F b ρ S).bind fun y S => .ok [x, y] S := by
    simp only [evs, R.bind_assoc, R.bind_ok]
  rw [e1]
  simp only [ev] at q
  cases r : ev F a ρ S with
  | ok d1 S1 =>
    rw [r] at q
    simp only [R.bind_ok] at q ⊢
    cases r2 : ev F b ρ S1 with
    | ok d2 S2 =>
      rw [r2] at q
      intro v H1 m1 ex s1 r1
      cases r1 with
      | cons r1 r2 =>
        cases r2 with
        | cons r2 r3 =>
          cases r3
          obtain ⟨d3, e3, k3⟩ := PX.lifted (PX.move ex q) s1
          rw [hK]
          exact ⟨m1, _, _, _, d1, d2, d3, rfl, s1.held, r1, r2, e3, k3⟩
    | xc _ _ => rw [r2] at q; exact q
    | no => rw [r2] at q; exact q
  | xc _ _ => rw [r] at q; exact q
  | no => rw [r] at q; exact q
theorem s_f1 {f : B1} {n : Str} {p : PySem.Pos} (X' : XC G F k c X W) (cm : c.calm = true) (hn : f1N f = some n) (hg : gloB c.sc n = true) (hc : chkE c lo a y = true) (h1 : SE G F X W lo a y) : SE G F X W lo (.f1 f a) (.Call (.Name n p) [y] [] pos) := by
  refine .plain (?_) (fun _ => rfl) (fun _ _ _ z => nomatch z)
  have st : PySem.starEach [y] X.env = (false, PySem.eval y X.env) :: PySem.starEach [] X.env := star_cons (chk_ns hc)
  cases f with
  | len => cases hn; exact imp_pe (L2.pe_callB cb_len (X'.gl hg) (X'.wd.free _ (by decide)) PySem.boot_len (a_one hc h1) (by decide) (by decide) st rfl) fun _ _ _ q => i_f1 X'.K q
  | all => cases hn; exact imp_pe (L2.pe_callB (cb_all (X'.calm cm)) (X'.gl hg) (X'.wd.free _ (by decide)) (by decide +kernel) (a_one hc h1) (by decide) (by decide) st rfl) fun _ _ _ q => i_f1 X'.K q
  | sum => cases hn; exact imp_pe (L2.pe_callB (cb_sum (X'.calm cm)) (X'.gl hg) (X'.wd.free _ (by decide)) (by decide +kernel) (a_one hc h1) (by decide) (by decide) st rfl) fun _ _ _ q => i_f1 X'.K q
  | list => cases hn; exact imp_pe (L2.pe_callTy cb_list (X'.gl hg) (X'.wd.free _ (by decide)) (by decide +kernel) (a_one hc h1) (by decide) (by decide) st rfl) fun _ _ _ q => i_f1 X'.K q
  | tuple => cases hn; exact imp_pe (L2.pe_callTy cb_tuple (X'.gl hg) (X'.wd.free _ (by decide)) (by decide +kernel) (a_one hc h1) (by decide) (by decide) st rfl) fun _ _ _ q => i_f1 X'.K q
  | sorted => cases hn; exact imp_pe (L2.pe_callB cb_sorted (X'.gl hg) (X'.wd.free _ (by decide)) (by decide +kernel) (a_one hc h1) (by decide) (by decide) st rfl) fun _ _ _ q => i_f1 X'.K q
  | int => cases hn; exact imp_pe (L2.pe_callTy cb_int (X'.gl hg) (X'.wd.free _ (by decide)) (by decide +kernel) (a_one hc h1) (by decide) (by decide) st rfl) fun _ _ _ q => i_f1 X'.K q
  | min => cases hn; exact imp_pe (L2.pe_callB (cb_min1 (X'.calm cm) X'.units) (X'.gl hg) (X'.wd.free _ (by decide)) (by decide +kernel) (a_one hc h1) (by decide) (by decide) st rfl) fun _ _ _ q => i_f1 X'.K q
  | str => cases hn; exact imp_pe (L2.pe_callTy cb_str (X'.gl hg) (X'.wd.free _ (by decide)) (by decide +kernel) (a_one hc h1) (by decide) (by decide) st rfl) fun _ _ _ q => i_f1 X'.K q
theorem s_f2 {f : B2} {n : Str} {p : PySem.Pos} (X' : XC G F k c X W) (cm : c.calm = true) (hn : f2N f = n) (hg : gloB c.sc n = true) (hc : chkE c lo a y = true) (hc2 : chkE c lo b z = true) (h1 : SE G F X W lo a y) (h2 : SE G F X W lo b z) : SE G F X W lo (.f2 f a b) (.Call (.Name n p) [y, z] [] pos) := by
  refine .plain (?_) (fun _ => rfl) (fun _ _ _ z => nomatch z)
  have st : PySem.starEach [y, z] X.env = (false, PySem.eval y X.env) :: PySem.starEach [z] X.env := star_cons (chk_ns hc)
  cases f with
  | max => cases hn; exact imp_pe (L2.pe_callB (cb_max (X'.calm cm)) (X'.gl hg) (X'.wd.free _ (by decide)) (by decide +kernel) (a_two hc hc2 h1 h2) (by decide) (by decide) st (plain2 hc2)) fun _ _ _ q => i_f2 X'.K q
  | min => cases hn; exact imp_pe (L2.pe_callB (cb_min (X'.calm cm)) (X'.gl hg) (X'.wd.free _ (by decide)) (by decide +kernel) (a_two hc hc2 h1 h2) (by decide) (by decide) st (plain2 hc2)) fun _ _ _ q => i_f2 X'.K q
/-! ### methods of texts -/
theorem attr_ok {n : Str} {env : PySem.Env} (h : noCall0 x = true) : PySem.attributeBase x n env (PySem.eval x env) = PySem.eval x env := by
  cases x <;> first | rfl | skip
  rename_i f as ks p
  cases f <;> first | rfl | skip
  cases as <;> first | rfl | skip
  cases ks <;> first | rfl | skip
  cases h
theorem i_meth {f : M1} (hK : X.K = G.K) {σ : L2.St} {H : Hp} {Q : VK} (h : GE G F W lo (.meth f a b) σ H Q) : L2.tBM X.K "str" (rMG X.K f) (GE G F W lo a) (GA G F W lo (.cons b .nil)) σ H Q := by
  obtain ⟨fr, ρ, S, m, s, q⟩ := h
  simp only [ev] at q
  refine ⟨fr, ρ, S, m, s, (PX.bind q).imp fun v H1 ⟨d1, S1, m1, e1, s1, r1, q1⟩ => ?_⟩
  have ty : ∃ ss, d1 = .str ss := by
    cases d1 with
    | str ss => exact ⟨ss, rfl⟩
    | _ => exact q1.elim
  obtain ⟨ss, rfl⟩ := ty
  refine ⟨by rw [r1.inv_str.1]; rfl, fr, ρ, S1, m1, s1, ?_⟩
  simp only [asS_str, R.bind_ok] at q1
  have e1 : evs F (.cons b .nil) ρ S1 = (ev F b ρ S1).bind fun x S => .ok [x] S := rfl
  rw [e1]
  cases r : ev F b ρ S1 with
  | ok d2 S2 =>
    rw [r] at q1
    intro v2 H2 m2 ex s2 r2
    cases r2 with
    | cons r2 r3 =>
      cases r3
      obtain ⟨d3, e3, k3⟩ := PX.lifted (PX.move ex q1) s2
      rw [hK]
      exact ⟨m2, _, _, _, d2, d3, rfl, s2.held, r1.ext ex, r2, e3, k3⟩
  | xc _ _ => rw [r] at q1; exact q1
  | no => rw [r] at q1; exact q1
theorem s_meth {f : M1} {n : Str} {ap : PySem.Pos} (X' : XC G F k c X W) (hn : m1N f = n) (hl : (ap.endLine == pos.line) = true) (hb : noCall0 x = true) (hc : chkE c lo b y = true) (h1 : SE G F X W lo a x) (h2 : SE G F X W lo b y) :
    SE G F X W lo (.meth f a b) (.Call (.Attribute x n ap) [y] [] pos) := by
  refine .plain (?_) (fun _ => rfl) (fun _ _ _ z => nomatch z)
  have st : PySem.starEach [y] X.env = (false, PySem.eval y X.env) :: PySem.starEach [] X.env := star_cons (chk_ns hc)
  have few : ((PySem.backTo pos (PySem.starEach [y] X.env)).all (fun x => !x.1) && (PySem.backToKw pos (PySem.keywordEach [] X.env)).all (fun x => x.1.isSome)
      && decide (([y] : List Expr).length + ([] : List PySem.Keyword).length + (if ([] : List PySem.Keyword).isEmpty then 0 else 1) < 30)) = true := by
    rw [st]
    rfl
  cases f with
  | count => cases hn; exact imp_pe (L2.pe_bm PySem.F.plainAttrs_str PySem.F.slot_str_count PySem.F.type_str_count mg_count h1.v (a_one hc h2) (attr_ok hb) few hl st rfl) fun _ _ _ q => i_meth X'.K q
  | endswith => cases hn; exact imp_pe (L2.pe_bm PySem.F.plainAttrs_str PySem.F.slot_str_endswith PySem.F.type_str_endswith mg_ends h1.v (a_one hc h2) (attr_ok hb) few hl st rfl) fun _ _ _ q => i_meth X'.K q
  | join => cases hn; exact imp_pe (L2.pe_bm PySem.F.plainAttrs_str PySem.F.slot_str_join PySem.F.type_str_join mg_join h1.v (a_one hc h2) (attr_ok hb) few hl st rfl) fun _ _ _ q => i_meth X'.K q
/-! ### methods of lists -/
theorem i_lmeth {f : LM} (hn : f ≠ .tindex) (hK : X.K = G.K) {σ : L2.St} {H : Hp} {Q : VK} (h : GE G F W lo (.lmeth f a b) σ H Q) : L2.tBM X.K "list" (rLG X.K f) (GE G F W lo a) (GA G F W lo (.cons b .nil)) σ H Q := by
  obtain ⟨fr, ρ, S, m, s, q⟩ := h
  simp only [ev] at q
  refine ⟨fr, ρ, S, m, s, (PX.bind q).imp fun v H1 ⟨d1, S1, m1, e1, s1, r1, q1⟩ => ?_⟩
  have ty : ∃ ss, d1 = .lst ss ∧ lmOk f d1 = true := by
    by_cases ho : lmOk f d1 = true
    · cases d1 with
      | lst ss => exact ⟨ss, rfl, ho⟩
      | tup ss => cases f <;> first | exact absurd rfl hn | (cases ho; done)
      | _ => cases f <;> cases ho
    · rw [if_neg ho] at q1; exact q1.elim
  obtain ⟨ss, rfl, ho⟩ := ty
  rw [if_pos ho] at q1
  obtain ⟨pl, vl, ev1, hl1, _, _, _⟩ := id r1.inv_lst
  refine ⟨by rw [ev1]; exact .inl ⟨rfl, vl, sqL_of hl1⟩, fr, ρ, S1, m1, s1, ?_⟩
  have e1 : evs F (.cons b .nil) ρ S1 = (ev F b ρ S1).bind fun x S => .ok [x] S := rfl
  rw [e1]
  cases r : ev F b ρ S1 with
  | ok d2 S2 =>
    rw [r] at q1
    intro v2 H2 m2 ex s2 r2
    cases r2 with
    | cons r2 r3 =>
      cases r3
      obtain ⟨d3, e3, k3⟩ := PX.lifted (PX.move ex q1) s2
      rw [hK]
      exact ⟨m2, _, _, _, d2, d3, rfl, s2.held, r1.ext ex, r2, e3, k3⟩
  | xc _ _ => rw [r] at q1; exact q1
  | no => rw [r] at q1; exact q1
theorem strs_all : ∀ {ds : List D}, (strsD ds).isSome = true → ds.all strB = true
  | [], _ => rfl
  | d :: ds, h => by
    cases d with
    | str s =>
      rw [strsD] at h
      rw [List.all_cons]
      cases q : strsD ds with
      | none => rw [q] at h; cases h
      | some ys => rw [strs_all (by rw [q]; rfl)]; rfl
    | _ => cases h
theorem RV.bare {K : PySem.W.Frag} {m : List Addr} {A : Addr → Prop} {H : Hp} {v : V} {ds : List D} (r : RV K m A H v (.tup ds)) (h : ds.all strB = true) : ∃ p, v = .ref p ∧ Rt.Bare K H p := by
  cases r with
  | tup e _ _ _ =>
    rcases e with ⟨_, b⟩ | ⟨o, e, d, c, _⟩
    · rw [h] at b; cases b
    · exact ⟨_, rfl, .inl ⟨o, _, e, d, c⟩⟩
  | ktp e _ _ =>
    obtain ⟨o, _, _, e1, e2, _, _, _, d⟩ := e
    exact ⟨_, rfl, .inr ⟨o, e1, e2, d⟩⟩
theorem i_tmeth (hK : X.K = G.K) {σ : L2.St} {H : Hp} {Q : VK} (h : GE G F W lo (.lmeth .tindex a b) σ H Q) : Rt.tBMT X.K (rLG X.K .tindex) (GE G F W lo a) (GA G F W lo (.cons b .nil)) σ H Q := by
  obtain ⟨fr, ρ, S, m, s, q⟩ := h
  simp only [ev] at q
  refine ⟨fr, ρ, S, m, s, (PX.bind q).imp fun v H1 ⟨d1, S1, m1, e1, s1, r1, q1⟩ => ?_⟩
  have ty : ∃ ss, d1 = .tup ss ∧ (strsD ss).isSome = true := by
    by_cases ho : lmOk .tindex d1 = true
    · cases d1 with
      | tup ss => exact ⟨ss, rfl, ho⟩
      | _ => cases ho
    · rw [if_neg ho] at q1; exact q1.elim
  obtain ⟨ss, rfl, ho⟩ := ty
  rw [if_pos (show lmOk .tindex (.tup ss) = true from ho)] at q1
  obtain ⟨p, rfl, bare⟩ := r1.bare (strs_all ho)
  rw [hK]
  refine ⟨p, rfl, bare, fr, ρ, S1, m1, s1, ?_⟩
  have e1 : evs F (.cons b .nil) ρ S1 = (ev F b ρ S1).bind fun x S => .ok [x] S := rfl
  rw [e1]
  cases r : ev F b ρ S1 with
  | ok d2 S2 =>
    rw [r] at q1
    intro v2 H2 m2 ex s2 r2
    cases r2 with
    | cons r2 r3 =>
      cases r3
      obtain ⟨d3, e3, k3⟩ := PX.lifted (PX.move ex q1) s2
      exact ⟨m2, _, _, _, d2, d3, rfl, s2.held, r1.ext ex, r2, e3, k3⟩
  | xc _ _ => rw [r] at q1; exact q1
  | no => rw [r] at q1; exact q1
theorem s_lmeth {f : LM} {n : Str} {ap : PySem.Pos} (X' : XC G F k c X W) (hn : lmN f = some n) (hl : (ap.endLine == pos.line) = true) (hb : noCall0 x = true) (hc : chkE c lo b y = true) (h1 : SE G F X W lo a x) (h2 : SE G F X W lo b y) :
    SE G F X W lo (.lmeth f a b) (.Call (.Attribute x n ap) [y] [] pos) := by
  refine .plain (?_) (fun _ => rfl) (fun _ _ _ z => nomatch z)
  have st : PySem.starEach [y] X.env = (false, PySem.eval y X.env) :: PySem.starEach [] X.env := star_cons (chk_ns hc)
  have few : ((PySem.backTo pos (PySem.starEach [y] X.env)).all (fun x => !x.1) && (PySem.backToKw pos (PySem.keywordEach [] X.env)).all (fun x => x.1.isSome)
      && decide (([y] : List Expr).length + ([] : List PySem.Keyword).length + (if ([] : List PySem.Keyword).isEmpty then 0 else 1) < 30)) = true := by
    rw [st]
    rfl
  cases f with
  | count => cases hn; exact imp_pe (L2.pe_bm PySem.F.plainAttrs_list PySem.F.slot_list_count PySem.F.type_list_count mg_lcount h1.v (a_one hc h2) (attr_ok hb) few hl st rfl) fun _ _ _ q => i_lmeth (by decide) X'.K q
  | index => cases hn; exact imp_pe (L2.pe_bm PySem.F.plainAttrs_list PySem.F.slot_list_index PySem.F.type_list_index mg_index h1.v (a_one hc h2) (attr_ok hb) few hl st rfl) fun _ _ _ q => i_lmeth (by decide) X'.K q
  | tindex => cases hn; exact imp_pe (Rt.pe_bmT PySem.F.plainAttrs_tuple PySem.F.slot_tuple_index PySem.F.type_tuple_index mg_tindex h1.v (a_one hc h2) (attr_ok hb) few hl st rfl) fun _ _ _ q => i_tmeth X'.K q
/-! ### not in range(a, b) -/
theorem s_nrng {p q : PySem.Pos} (X' : XC G F k c X W) (hg : gloB c.sc ("range" : Str) = true) (hc : chkE c lo b y = true) (hc2 : chkE c lo d z = true) (h1 : SE G F X W lo a x) (h2 : SE G F X W lo b y) (h3 : SE G F X W lo d z) :
    SE G F X W lo (.nrng a b d) (.Compare x [.NotIn] [.Call (.Name ("range" : Str) p) [y, z] [] q] pos) := by
  have st : PySem.starEach [y, z] X.env = (false, PySem.eval y X.env) :: PySem.starEach [z] X.env := star_cons (chk_ns hc)
  have pr : PE X (.Call (.Name ("range" : Str) p) [y, z] [] q) _ := L2.pe_callTy (pos := q) L2.cr_range2 (X'.gl hg) (X'.wd.free _ (by decide)) (by decide +kernel) (a_two hc hc2 h2 h3) (by decide) (by decide) st (plain2 hc2)
  have rd : ∀ σ H Q, GE G F W lo (.nrng a b d) σ H Q → L2.tOp (fun x y H Q => ∃ i a lo hi, x = V.int i ∧ y = V.ref a ∧ H a = some (HO.rng lo hi) ∧ Q (V.bl (!decide (lo ≤ i ∧ i < hi))) H) (GE G F W lo a) (L2.tCB (fun vs H Q => ∃ i j, vs = [V.int i, V.int j] ∧ ∀ p, H p = none → Q (V.ref p) (upd H p (HO.rng i j))) (GA G F W lo (.cons b (.cons d .nil)))) σ H Q := fun σ H Q ⟨fr, ρ, S, m, s, q⟩ => by
    simp only [ev] at q
    refine ⟨fr, ρ, S, m, s, (PX.bind q).imp fun v H1 ⟨d1, S1, m1, e1, s1, r1, q1⟩ => ⟨fr, ρ, S1, m1, s1, ?_⟩⟩
    have e1' : evs F (.cons b (.cons d .nil)) ρ S1 = (ev F b ρ S1).bind fun x S => (ev F d ρ S).bind fun y S => .ok [x, y] S := by
      simp only [evs, R.bind_assoc, R.bind_ok]
    rw [e1']
    cases hr : ev F b ρ S1 with
    | no => rw [hr] at q1; exact q1
    | xc x1 S2 => rw [hr] at q1; exact q1
    | ok d2 S2 =>
      rw [hr] at q1
      simp only [R.bind_ok] at q1 ⊢
      cases hr2 : ev F d ρ S2 with
      | no => rw [hr2] at q1; exact q1
      | xc x1 S1 => rw [hr2] at q1; exact q1
      | ok d3 S3 =>
        rw [hr2] at q1
        simp only [R.bind_ok] at q1 ⊢
        intro vs H3 m3 ex s3 r3
        cases r3 with
        | cons r2 r3 =>
          cases r3 with
          | cons r3 r4 =>
            cases r4
            cases d1 with
            | int i =>
              cases d2 with
              | int j =>
                cases d3 with
                | int kk =>
                  refine ⟨j, kk, by rw [r2.inv_int, r3.inv_int], fun pp hp => ⟨i, pp, j, kk, r1.inv_int, rfl, upd_at, ?_⟩⟩
                  exact q1 _ _ m3 (ex.trans (Ext.new hp)) (s3.new hp) (.bl _)
                | _ => exact q1.elim
              | _ => exact q1.elim
            | _ => exact q1.elim
  exact ⟨imp_pe (L2.pe_cmpR op_nin_rng h1.v pr rfl) rd, imp_pt (L2.pt_cmpR op_nin_rng h1.v pr rfl) fun _ _ _ q => i_test (fun _ z => rd _ _ _ z) q, fun _ _ _ z => nomatch z⟩
/-! ### list(zip(a, b)) -/
theorem lay_st {f : Fr} {σ : L2.St} {ρ : Env} {S : Sto} {m : List Addr} : ∀ {ts : List Addr} {xs ys : List V} {ds es : List D} {H H2 : Hp}, St G f σ H ρ S m → RL G.K m (Bv lo f σ ρ) H xs ds → RL G.K m (Bv lo f σ ρ) H ys es → Zl.LayT H ts (xs.zip ys) H2 → (ds.zipWith (fun a b => D.tup [a, b]) es).all untx = true →
    St G f σ H2 ρ S m ∧ Ext m H m H2 ∧ RL G.K m (Bv lo f σ ρ) H2 (ts.map V.ref) (ds.zipWith (fun a b => .tup [a, b]) es)
  | ts, [], ys, ds, es, H, H2, s, r1, r2, h, hz => by
    cases r1
    cases h
    exact ⟨s, Ext.refl _ _, .nil⟩
  | ts, x :: xs, [], ds, es, H, H2, s, r1, r2, h, hz => by
    cases r2
    cases h
    exact ⟨s, Ext.refl _ _, by cases r1; exact .nil⟩
  | ts, x :: xs, y :: ys, ds, es, H, H2, s, r1, r2, h, hz => by
    cases r1 with
    | cons a1 a2 =>
      cases r2 with
      | cons b1 b2 =>
        cases h with
        | cons hn h =>
          have ex1 : Ext m H m (upd H _ (.tup [x, y])) := Ext.new hn
          rw [List.zipWith_cons_cons, List.all_cons, Bool.and_eq_true] at hz
          obtain ⟨k1, k2, k3⟩ := lay_st (s.new hn) (a2.ext ex1) (b2.ext ex1) h hz.2
          exact ⟨k1, ex1.trans k2, .cons ((rv_new_tup s.held hn (.cons a1 (.cons b1 .nil)) (by have := hz.1; unfold untx at this; simpa only [Bool.not_eq_true'] using this)).ext k2) k3⟩
theorem sq_of {m : List Addr} {A : Addr → Prop} {H : Hp} {v : V} {d : D} {ds : List D} (r : RV G.K m A H v d) (h : seqLT d = some ds) : ∃ p xs, v = .ref p ∧ (SqL G.K H p xs ∨ SqT G.K H p xs) ∧ RL G.K m A H xs ds := by
  cases d with
  | lst _ =>
    cases h
    obtain ⟨p, vs, e1, h1, _, _, q1⟩ := r.inv_lst
    exact ⟨p, vs, e1, .inl (sqL_of h1), q1⟩
  | tup _ =>
    cases h
    obtain ⟨p, vs, e1, h1, q1⟩ := r.inv_tup
    exact ⟨p, vs, e1, .inr h1, q1⟩
  | _ => cases h
theorem s_lzip {p q r : PySem.Pos} (X' : XC G F k c X W) (cm : c.calm = true) (hg : gloB c.sc ("list" : Str) = true) (hg2 : gloB c.sc ("zip" : Str) = true) (hc : chkE c lo a y = true) (hc2 : chkE c lo b z = true) (h1 : SE G F X W lo a y) (h2 : SE G F X W lo b z) :
    SE G F X W lo (.lzip a b) (.Call (.Name ("list" : Str) p) [.Call (.Name ("zip" : Str) q) [y, z] [] r] [] pos) := by
  refine .plain (?_) (fun _ => rfl) (fun _ _ _ z => nomatch z)
  refine imp_pe (Zl.pe_listZip (X'.gl hg) (X'.wd.free _ (by decide)) (X'.gl hg2) (X'.wd.free _ (by decide)) (X'.calm cm) (a_two hc hc2 h1 h2) (star_cons (chk_ns hc)) (plain2 hc2)) fun σ H Q ⟨f, ρ, S, m, s, q⟩ => ?_
  simp only [ev] at q
  refine ⟨f, ρ, S, m, s, ?_⟩
  have e1 : evs F (.cons a (.cons b .nil)) ρ S = (ev F a ρ S).bind fun x S => (ev F b ρ S).bind fun y S => .ok [x, y] S := by
    simp only [evs, R.bind_assoc, R.bind_ok]
  rw [e1]
  cases hr : ev F a ρ S with
  | no => rw [hr] at q; exact q
  | xc x1 S1 => rw [hr] at q; exact q
  | ok d1 S1 =>
    rw [hr] at q
    simp only [R.bind_ok] at q ⊢
    cases hr2 : ev F b ρ S1 with
    | no => rw [hr2] at q; exact q
    | xc x1 S1 => rw [hr2] at q; exact q
    | ok d2 S2 =>
      rw [hr2] at q
      simp only [R.bind_ok] at q ⊢
      intro vs H1 m1 ex s1 r1
      cases r1 with
      | cons r1 r2 =>
        cases r2 with
        | cons r2 r3 =>
          cases r3
          rw [X'.K]
          unfold lzipD at q
          cases q1 : seqLT d1 with
          | none => rw [q1] at q; exact q.elim
          | some ds =>
            cases q2 : seqLT d2 with
            | none => rw [q1, q2] at q; exact q.elim
            | some es =>
              rw [q1, q2] at q
              cases hz : (ds.zipWith (fun a b => D.tup [a, b]) es).all untx with
              | false => simp only [okZ, hz] at q; exact q.elim
              | true =>
              simp only [okZ, hz, if_true] at q
              obtain ⟨pa, xs, rfl, k1, l1⟩ := sq_of r1 q1
              obtain ⟨pb, ys, rfl, k2, l2⟩ := sq_of r2 q2
              refine ⟨pa, pb, xs, ys, rfl, k1, k2, fun ts H2 l lay hl => ?_⟩
              obtain ⟨t1, t2, t3⟩ := lay_st s1 l1 l2 lay hz
              exact q _ _ m1 (ex.trans (t2.trans (Ext.new hl))) (t1.new hl) (rv_new_lst t1.held hl t3)
/-! ### isinstance -/
theorem boot_ty (t : Ty) : PySem.bootBuiltins (tyS t) = some (.type (tyN t)) := by cases t <;> decide +kernel
theorem s_isi {t : Ty} {n : Str} {p p2 : PySem.Pos} (X' : XC G F k c X W) (hg : gloB c.sc ("isinstance" : Str) = true) (hn : tyS t = n) (hg2 : gloB c.sc n = true) (hc : chkE c lo a y = true) (h1 : SE G F X W lo a y) :
    SE G F X W lo (.isi a t) (.Call (.Name ("isinstance" : Str) p) [y, .Name n p2] [] pos) := by
  refine .plain (?_) (fun _ => rfl) (fun _ _ _ z => nomatch z)
  have st : PySem.starEach [y, .Name n p2] X.env = (false, PySem.eval y X.env) :: PySem.starEach [.Name n p2] X.env := star_cons (chk_ns hc)
  have pt : PE X (.Name n p2) (L2.tC (.ty (tyN t))) := by
    subst hn
    refine L2.pe_bltn (X'.gl hg2) (X'.wd.free _ (by cases t <;> decide)) (boot_ty t) rfl (by cases t <;> decide) (by cases t <;> decide)
  refine imp_pe (L2.pe_callB L2.call_isi (X'.gl hg) (X'.wd.free _ (by decide)) (by decide +kernel) (L2.pa_cons h1.v (L2.pa_cons pt L2.pa_nil) st) (by decide) (by decide) st rfl) fun σ H Q ⟨fr, ρ, S, m, s, q⟩ => ?_
  simp only [ev] at q
  refine ⟨fr, ρ, S, m, s, (PX.bind q).imp fun v H1 ⟨d1, S1, m1, e1, s1, r1, q1⟩ => ?_⟩
  show L2.rIsi X.K [v, .ty (tyN t)] H1 Q
  cases hi : isA d1 t with
  | none => rw [hi] at q1; exact q1.elim
  | some b =>
    rw [hi] at q1
    obtain ⟨u, tu, ku⟩ := ty_of r1 hi
    rw [X'.K]
    exact ⟨v, .ty (tyN t), u, .type (tyN t), b, rfl, .ty _, tu, ku, PX.now q1 s1 (.bl b)⟩
/-- isinstance(e, C), e the caught one -/
theorem s_isE {i C : Nat} {n ee : Str} {p p1 p2 : PySem.Pos} (X' : XC G F k c X W) (cm : c.calm = false) (hg : gloB c.sc ("isinstance" : Str) = true) (hN : c.N[i]? = some ee) (hv : visB c.sc ee = true) (hp : plainName ee = true) (hn : c.cl C = n) (hg2 : gloB c.sc n = true) (hp2 : plainName n = true) :
    SE G F X W lo (.isE i C) (.Call (.Name ("isinstance" : Str) p) [.Name ee p1, .Name n p2] [] pos) := by
  refine .plain (?_) (fun _ => rfl) (fun _ _ _ z => nomatch z)
  subst hn
  cases he : F.err with
  | none =>
    refine ⟨fun pins s σ H Q I h => ?_⟩
    obtain ⟨fr, ρ, S, m, s, q⟩ := h
    simp only [ev, he] at q
    split at q
    · rename_i z; cases z
    · exact q.elim
  | some x =>
    cases hs : F.sub x.cls C with
    | none =>
      refine ⟨fun pins s σ H Q I h => ?_⟩
      obtain ⟨fr, ρ, S, m, s, q⟩ := h
      simp only [ev, he, hs] at q
      split at q
      · rename_i z; cases z; rw [hs] at q; exact q.elim
      · exact q.elim
    | some b =>
      obtain ⟨g1, g2, g3, g4⟩ := X'.wd.sub _ _ _ hs
      obtain ⟨X0, oe, pn, rfl, hz, hf⟩ := X'.err cm x he
      have K' : X0.K = G.K := X'.K
      have st : PySem.starEach [.Name ee p1, .Name (c.cl C) p2] (X0.suite G.ea ((G.ea, oe) :: pn)).env = (false, PySem.eval (.Name ee p1) (X0.suite G.ea ((G.ea, oe) :: pn)).env) :: PySem.starEach [.Name (c.cl C) p2] (X0.suite G.ea ((G.ea, oe) :: pn)).env := rfl
      have pv : PE (X0.suite G.ea ((G.ea, oe) :: pn)) (.Name ee p1) (L2.tVar i) := L2.pe_var (by rw [X'.N]; exact hN) (X'.vis hv) (plain_dbg hp).1 (plain_dbg hp).2.1
      have pt : PE (X0.suite G.ea ((G.ea, oe) :: pn)) (.Name (c.cl C) p2) (L2.tC (.ref (G.cls C))) := L2.pe_glob (X'.gl hg2) g1 rfl (plain_dbg hp2).1
      have cr := L2.call_isE (X := X0) (a := G.ea) (D := G.cls x.cls) (oe := oe) (pn := pn) (by rw [K']; exact g4) hz hf
      refine imp_pe (L2.pe_callB cr (X'.gl hg) (X'.wd.free _ (by decide)) (by decide +kernel) (L2.pa_cons pv (L2.pa_cons pt L2.pa_nil) st) (by decide) (by decide) st rfl) fun σ H Q ⟨fr, ρ, S, m, s, q⟩ => ?_
      simp only [ev, he] at q
      split at q
      · rename_i x' h1 h2
        cases h2
        rw [hs] at q
        refine ⟨.ref G.ea, s.err i h1, ?_⟩
        show L2.rIsE X0.K (G.cls x.cls) G.ea [.ref G.ea, .ref (G.cls C)] H Q
        exact ⟨.ref (G.cls C), .ref (G.cls C), b, rfl, fun u r => r, by rw [K']; exact g3, PX.now q s (.bl b)⟩
      · exact q.elim
/-! ### a def is called -/
theorem s_call {g : Nat} {es : Exs} {xs : List Expr} {n : Str} {p : PySem.Pos} (X' : XC G F k c X W) (cm : c.calm = true) (hn : c.fn g = n) (hg : gloB c.sc n = true) (hp : plainName n = true) (hc : chkA c false es (x :: xs) = true) (h : PA X (x :: xs) (GA G F W false es)) :
    SE G F X W lo (.call g es) (.Call (.Name n p) (x :: xs) [] pos) := by
  refine .plain (?_) (fun _ => rfl) (fun _ _ _ z => nomatch z)
  subst hn
  cases hF : F.fn g with
  | none =>
    refine ⟨fun pins s σ H Q I h => ?_⟩
    obtain ⟨fr, ρ, S, m, s, q⟩ := h
    simp only [ev, hF] at q
    exact q.elim
  | some gf =>
    obtain ⟨f, fd, ps, e1, e2, e3, e4⟩ := X'.wd.fns g gf hF
    have st : PySem.starEach (x :: xs) X.env = (false, PySem.eval x X.env) :: PySem.starEach xs X.env := by
      cases es with
      | nil => cases hc
      | cons e es => exact star_cons (chk_ns (ba hc).1)
    have sp : (PySem.backTo pos (PySem.starEach xs X.env)).any (·.1) = false := by
      cases es with
      | nil => cases hc
      | cons e es => exact stars_plain (ba hc).2
    rw [← X'.K] at e2 e3 e4
    refine imp_pe (L2.pe_callS e4 (X'.room cm) (X'.gl hg) e1 e2 e3 (fun σ => L2.passAt X'.tk σ) h (plain_dbg hp).1 st sp) fun σ H Q ⟨fr, ρ, S, m, s, q⟩ => ?_
    simp only [ev, hF] at q
    refine ⟨fr, ρ, S, m, s, (PX.bind q).imp fun vs H1 ⟨ds, S1, m1, e1, s1, r1, q1⟩ => ?_⟩
    refine ⟨ds, S1, m1, Av fr σ ρ, s1.sr, fun a h => s1.liveA h, r1, ?_⟩
    cases hr : gf ds S1 with
    | ok d2 S2 =>
      rw [hr] at q1
      intro v H2 m2 ex sr2 r2
      exact q1 v H2 m2 ex (s1.ext ex sr2) (r2.less fun _ z => z.av)
    | xc x2 S2 =>
      rw [hr] at q1
      intro cl dd H2 m2 ex sr2 r2
      exact q1 cl dd H2 m2 ex (s1.ext ex sr2) r2
    | no => rw [hr] at q1; exact q1
theorem s_callO {g : Nat} {es : Exs} {xs : List Expr} {n : Str} {p : PySem.Pos} (X' : XC G F k c X W) (cm : c.calm = true) (hn : c.fn g = n) (hg : gloB c.sc n = true) (hp : plainName n = true) (hc : chkA c true es (x :: xs) = true) (h : PA X (x :: xs) (GA G F W true es)) :
    SE G F X W true (.callO g es) (.Call (.Name n p) (x :: xs) [] pos) := by
  refine .plain (?_) (fun _ => rfl) (fun _ _ _ z => nomatch z)
  subst hn
  cases hF : F.fn g with
  | none =>
    refine ⟨fun pins s σ H Q I h => ?_⟩
    obtain ⟨fr, ρ, S, m, s, q⟩ := h
    simp only [ev, hF] at q
    exact q.elim
  | some gf =>
    obtain ⟨f, fd, ps, e1, e2, e3, e4⟩ := X'.wd.fns g gf hF
    have st : PySem.starEach (x :: xs) X.env = (false, PySem.eval x X.env) :: PySem.starEach xs X.env := by
      cases es with
      | nil => cases hc
      | cons e es => exact star_cons (chk_ns (ba hc).1)
    have sp : (PySem.backTo pos (PySem.starEach xs X.env)).any (·.1) = false := by
      cases es with
      | nil => cases hc
      | cons e es => exact stars_plain (ba hc).2
    rw [← X'.K] at e2 e3 e4
    refine imp_pe (L2.pe_callS e4 (X'.room cm) (X'.gl hg) e1 e2 e3 (fun σ => L2.passAt X'.tk σ) h (plain_dbg hp).1 st sp) fun σ H Q ⟨fr, ρ, S, m, s, q⟩ => ?_
    simp only [ev, hF] at q
    refine ⟨fr, ρ, S, m, s, (PX.bind q).imp fun vs H1 ⟨ds, S1, m1, e1, s1, r1, q1⟩ => ?_⟩
    refine ⟨ds, S1, m1, fr.A0, s1.sr.less fun a z => .inl z, fun a h => s1.live a h, r1, ?_⟩
    have nil : ∀ {m2 : List Addr} {A : Addr → Prop} {H2 : Hp}, SR G m2 fr.A0 [] H2 → SR G m2 A [] H2 := fun {m2 A H2} sr => by
      have : m2 = [] := List.eq_nil_of_length_eq_zero sr.len
      subst this
      exact ⟨List.nodup_nil, rfl, fun i a c h => by simp at h⟩
    cases hr : gf ds S1 with
    | ok d2 S2 =>
      rw [hr] at q1
      cases S2 with
      | nil =>
        intro v H2 m2 ex sr2 r2
        exact q1 v H2 m2 ex (s1.ext ex (nil sr2)) r2
      | cons _ _ => exact q1.elim
    | xc x2 S2 =>
      rw [hr] at q1
      cases S2 with
      | nil =>
        intro cl dd H2 m2 ex sr2 r2
        have hm : m2 = [] := List.eq_nil_of_length_eq_zero sr2.len
        obtain ⟨xc, xa⟩ := x2
        cases xa with
        | none => exact q1 cl dd H2 m2 ex (s1.ext ex (nil sr2)) ⟨r2.1, r2.2⟩
        | some d => exact q1.elim
      | cons _ _ =>
        obtain ⟨xc, xa⟩ := x2
        cases xa <;> exact (show False from q1).elim
    | no => rw [hr] at q1; exact q1
/-! ### targets -/
/-- a target is set to data -/
def GTg (G : Gx) (tg : Tg) : TG := fun v σ H Q => ∃ f ρ S m d ρ', St G f σ H ρ S m ∧ RV G.K m (Av f σ ρ) H v d ∧ bindT tg d ρ = some ρ' ∧
  ∀ σ', St G f σ' H ρ' S m → (∀ a, Own σ' ρ' a → Own σ ρ a) → (∀ vs : List Nat, (∀ i ∈ slots tg, i ∈ vs) → L2.wipe σ' vs = L2.wipe σ vs) → Q σ' H
theorem imp_pg {t t' : TG} (h : PG X x t) (hi : ∀ v σ H Q, t' v σ H Q → t v σ H Q) : PG X x t' := ⟨fun pins s σ H v u Q I r q => h.run pins s σ H v u Q I r (hi v σ H Q q)⟩
theorem wipe_set : ∀ {vs : List Nat} {i : Nat} {v : Option V} {σ : L2.St}, i ∈ vs → L2.wipe (σ.set i v) vs = L2.wipe σ vs
  | u :: vs, i, v, σ, h => by
    show (L2.wipe (σ.set i v) vs).set u none = (L2.wipe σ vs).set u none
    by_cases hi : i ∈ vs
    · rw [wipe_set hi]
    · have e : i = u := (List.mem_cons.mp h).resolve_right hi
      subst e
      have q : ∀ (vs : List Nat) (σ : L2.St), i ∉ vs → L2.wipe (σ.set i v) vs = (L2.wipe σ vs).set i v := by
        intro vs
        induction vs with
        | nil => intro σ _; rfl
        | cons w vs ih =>
          intro σ hn
          show (L2.wipe (σ.set i v) vs).set w none = ((L2.wipe σ vs).set w none).set i v
          rw [ih σ fun z => hn (List.mem_cons_of_mem _ z), List.set_comm _ _ fun z => hn (by rw [z]; exact List.mem_cons_self ..)]
      rw [q vs σ hi, List.set_set]
theorem XC.loc (X' : XC G F k c X W) {n : Str} (h : stoB c n = true) : L2.Loc X.env.scope n ∧ (X.fn n = true ∨ X.env.scope.names.lookup n = some .local) := by
  rw [X'.sc]
  unfold stoB at h
  split at h
  · rename_i q; exact ⟨.inl q, .inr q⟩
  · rename_i q
    refine ⟨.inr q, .inl ?_⟩
    rw [X'.fn]
    split at h
    · rename_i q2; rw [q2]
    · rename_i s q2
      rw [q2]
      split at h
      · rename_i q3
        show (s.names.lookup n == some NameKind.cell) = true
        rw [q3]
        rfl
      · cases h
  · cases h
theorem g_name {i : Nat} {n : Str} (X' : XC G F k c X W) (h : chkT c (.name i) (.Name n pos) = true) : PG X (.Name n pos) (GTg G (.name i)) := by
  obtain ⟨h1, h2⟩ := ba h
  obtain ⟨l1, l2⟩ := X'.loc h2
  refine imp_pg (L2.pg_name (i := i) (by rw [X'.N]; exact X'.nd) (by rw [X'.N]; exact of_decide_eq_true h1) l1 l2) fun v σ H Q ⟨f, ρ, S, m, d, ρ', s, r, e, q⟩ => ?_
  cases e
  exact q _ (s.setv r) (fun a h => own_set h) fun vs hv => wipe_set (hv i (by simp [slots]))
theorem chkT_star {tg : Tg} {p : PySem.Pos} (h : chkT c tg (.Starred x p) = true) : False := by
  cases tg <;> cases h
theorem asg_cons {es : List Expr} {env : PySem.Env} {tg : Tg} (h : chkT c tg x = true) : PySem.assignEach (x :: es) env = (false, PySem.assign x env) :: PySem.assignEach es env := by
  cases x <;> first | rfl | exact (chkT_star h).elim
/-- targets in a row -/
theorem gs_cons {es : List Expr} {tg : Tg} {t : TG} {u : L2.TGs} (hc : chkT c tg x = true) (h1 : PG X x t) (h2 : L2.PGs X es u) : L2.PGs X (x :: es) (L2.gCons t u) :=
  L2.pgs_cons h1 h2 (by rw [asg_cons hc]; rfl)
theorem av_less {f : Fr} {σ σ' : L2.St} {ρ ρ' : Env} (h : ∀ a, Own σ' ρ' a → Own σ ρ a) : ∀ a, Av f σ' ρ' a → Av f σ ρ a := fun a z => z.elim .inl fun z => .inr (h a z)
theorem g_tg (X' : XC G F k c X W) : ∀ (tg : Tg) (x : Expr), chkT c tg x = true → PG X x (GTg G tg) := by
  intro tg
  induction tg with
  | name i =>
    intro x h
    cases x with
    | Name n p => exact g_name X' h
    | _ => cases h
  | pair a b ia ib =>
    intro x h
    match x, h with
    | .Tuple [x1, x2] j p, h =>
      obtain ⟨hcm, h⟩ := ba h
      obtain ⟨h1, h2⟩ := ba h
      refine imp_pg (L2.pg_tup (n := 2) (X'.calm hcm) (gs_cons h1 (ia x1 h1) (gs_cons h2 (ib x2 h2) L2.pgs_nil)) (by rw [asg_cons h1, asg_cons h2]; rfl) (by rw [asg_cons h1, asg_cons h2]; rfl)) fun v σ H Q ⟨f, ρ, S, m, d, ρ', s, r, e, q⟩ => ?_
      obtain ⟨d1, d2, ρ1, rfl, e1, e2⟩ := bind_pair e
      obtain ⟨pp, vs, ev, sq, rl⟩ := r.inv_tup
      cases rl with
      | cons r1 rl =>
        cases rl with
        | cons r2 rl =>
          cases rl
          rw [X'.K]
          refine ⟨pp, _, ev, sq, rfl, _, _, rfl, f, ρ, S, m, d1, ρ1, s, r1, e1, fun σ1 s1 o1 w1 => ⟨_, _, rfl, f, ρ1, S, m, d2, ρ', s1, r2.less (av_less o1), e2, fun σ2 s2 o2 w2 => ⟨rfl, q σ2 s2 (fun a h => o1 a (o2 a h)) fun vs hv => ?_⟩⟩⟩
          rw [w2 vs fun i hi => hv i (by simp [slots, hi]), w1 vs fun i hi => hv i (by simp [slots, hi])]
  | trip a b d ia ib id =>
    intro x h
    match x, h with
    | .Tuple [x1, x2, x3] j p, h =>
      obtain ⟨hcm, h⟩ := ba h
      obtain ⟨h1, h2⟩ := ba h
      obtain ⟨h2, h3⟩ := ba h2
      refine imp_pg (L2.pg_tup (n := 3) (X'.calm hcm) (gs_cons h1 (ia x1 h1) (gs_cons h2 (ib x2 h2) (gs_cons h3 (id x3 h3) L2.pgs_nil))) (by rw [asg_cons h1, asg_cons h2, asg_cons h3]; rfl) (by rw [asg_cons h1, asg_cons h2, asg_cons h3]; rfl)) fun v σ H Q ⟨f, ρ, S, m, d, ρ', s, r, e, q⟩ => ?_
      obtain ⟨d1, d2, d3, ρ1, ρ2, rfl, e1, e2, e3⟩ := bind_trip e
      obtain ⟨pp, vs, ev, sq, rl⟩ := r.inv_tup
      cases rl with
      | cons r1 rl =>
        cases rl with
        | cons r2 rl =>
          cases rl with
          | cons r3 rl =>
            cases rl
            rw [X'.K]
            refine ⟨pp, _, ev, sq, rfl, _, _, rfl, f, ρ, S, m, d1, ρ1, s, r1, e1, fun σ1 s1 o1 w1 => ⟨_, _, rfl, f, ρ1, S, m, d2, ρ2, s1, r2.less (av_less o1), e2, fun σ2 s2 o2 w2 =>
              ⟨_, _, rfl, f, ρ2, S, m, d3, ρ', s2, r3.less (av_less fun a h => o1 a (o2 a h)), e3, fun σ3 s3 o3 w3 => ⟨rfl, q σ3 s3 (fun a h => o1 a (o2 a (o3 a h))) fun vs hv => ?_⟩⟩⟩⟩
            rw [w3 vs fun i hi => hv i (by simp [slots, hi]), w2 vs fun i hi => hv i (by simp [slots, hi]), w1 vs fun i hi => hv i (by simp [slots, hi])]
  | quad a b d e0 ia ib id ie =>
    intro x h
    match x, h with
    | .Tuple [x1, x2, x3, x4] j p, h =>
      obtain ⟨hcm, h⟩ := ba h
      obtain ⟨h1, h2⟩ := ba h
      obtain ⟨h2, h3⟩ := ba h2
      obtain ⟨h3, h4⟩ := ba h3
      refine imp_pg (L2.pg_tup (n := 4) (X'.calm hcm) (gs_cons h1 (ia x1 h1) (gs_cons h2 (ib x2 h2) (gs_cons h3 (id x3 h3) (gs_cons h4 (ie x4 h4) L2.pgs_nil)))) (by rw [asg_cons h1, asg_cons h2, asg_cons h3, asg_cons h4]; rfl) (by rw [asg_cons h1, asg_cons h2, asg_cons h3, asg_cons h4]; rfl)) fun v σ H Q ⟨f, ρ, S, m, d, ρ', s, r, e, q⟩ => ?_
      obtain ⟨d1, d2, d3, d4, ρ1, ρ2, ρ3, rfl, e1, e2, e3, e4⟩ := bind_quad e
      obtain ⟨pp, vs, ev, sq, rl⟩ := r.inv_tup
      cases rl with
      | cons r1 rl =>
        cases rl with
        | cons r2 rl =>
          cases rl with
          | cons r3 rl =>
            cases rl with
            | cons r4 rl =>
              cases rl
              rw [X'.K]
              refine ⟨pp, _, ev, sq, rfl, _, _, rfl, f, ρ, S, m, d1, ρ1, s, r1, e1, fun σ1 s1 o1 w1 => ⟨_, _, rfl, f, ρ1, S, m, d2, ρ2, s1, r2.less (av_less o1), e2, fun σ2 s2 o2 w2 =>
                ⟨_, _, rfl, f, ρ2, S, m, d3, ρ3, s2, r3.less (av_less fun a h => o1 a (o2 a h)), e3, fun σ3 s3 o3 w3 =>
                ⟨_, _, rfl, f, ρ3, S, m, d4, ρ', s3, r4.less (av_less fun a h => o1 a (o2 a (o3 a h))), e4, fun σ4 s4 o4 w4 => ⟨rfl, q σ4 s4 (fun a h => o1 a (o2 a (o3 a (o4 a h)))) fun vs hv => ?_⟩⟩⟩⟩⟩
              rw [w4 vs fun i hi => hv i (by simp [slots, hi]), w3 vs fun i hi => hv i (by simp [slots, hi]), w2 vs fun i hi => hv i (by simp [slots, hi]), w1 vs fun i hi => hv i (by simp [slots, hi])]
end
end Mi
/-! Mini: walks, comprehensions; all expressions. -/
namespace Mi
open PySem (Str Addr Value Expr Stmt Scope PyData sizeLine Const NameKind Operator CmpOp Comprehension)
open L2 (V Hp HO Key upd Rd SqL SqT Cx VK R2 OpR CallR MtR IxR SlR PE PT PW PA PI PG TE TT TA TI TG WX Takes Room)
section
variable {G : Gx} {F : Fns} {k : Nat} {c : CC} {X : Cx} {W : WX} {lo : Bool} {e e' a b d : Ex} {x y z t : Expr} {pos : PySem.Pos}
/-! ### walks -/
def GI (G : Gx) (F : Fns) (W : WX) (it : It) : TI := fun σ H R => ∃ f ρ S m, St G f σ H ρ S m ∧ PX G f σ ρ W (fun m' H' J ds => ItR G (Av f σ ρ) m' H' J ds) m H (evIt F it ρ S) R
theorem imp_pi {w w' : TI} (h : PI X t x w) (hi : ∀ σ H R, w' σ H R → w σ H R) : PI X t x w' := ⟨fun pins s σ H R I q => h.run pins s σ H R I (hi σ H R q)⟩
theorem or_pi {w w' : TI} (h : PI X t x w) (h' : PI X t x w') : PI X t x (fun σ H R => w σ H R ∨ w' σ H R) := ⟨fun pins s σ H R I q => q.elim (h.run pins s σ H R I) (h'.run pins s σ H R I)⟩
section
variable {m : List Addr} {A : Addr → Prop} {H : Hp}
theorem it_lst {p : Addr} {vs : List V} {ds : List D} (h : H p = some (.lst vs)) (hm : p ∉ m) (ha : ¬ A p) (r : RL G.K m A H vs ds) : ItR G A m H (L2.Itl G.K p) ds := by
  refine ⟨fun a o => a = p ∧ o = .lst vs, L2.YAt vs, ?_, fun a o hb => ?_, fun i d hd m1 A1 H1 x H2 kp _ y => ?_⟩
  · rw [← r.length]
    exact L2.walk_list.mono (fun H1 hb => sqL_of (hb p _ ⟨rfl, rfl⟩)) fun _ _ _ _ _ _ y => y
  · obtain ⟨rfl, rfl⟩ := hb
    exact ⟨h, hm, ha⟩
  · obtain ⟨rfl, hx⟩ := y
    obtain ⟨v, h1, h2⟩ := r.get hd
    rw [hx] at h1
    cases h1
    exact ⟨Nw.same _, h2.kept kp⟩
theorem it_tup {p : Addr} {vs : List V} {ds : List D} (h : TupH H p vs ds) (hm : p ∉ m) (ha : ¬ A p) (r : RL G.K m A H vs ds) : ItR G A m H (L2.Itt G.K p) ds := by
  refine ⟨fun a o => a = p ∧ H a = some o, L2.YAt vs, ?_, fun a o hb => ?_, fun i d hd m1 A1 H1 x H2 kp _ y => ?_⟩
  · rw [← r.length]
    exact L2.walk_tup.mono (fun H1 hb => sqT_of (h.same fun o q => hb p o ⟨rfl, q⟩)) fun _ _ _ _ _ _ y => y
  · obtain ⟨rfl, q⟩ := hb
    exact ⟨q, hm, ha⟩
  · obtain ⟨rfl, hx⟩ := y
    obtain ⟨v, h1, h2⟩ := r.get hd
    rw [hx] at h1
    cases h1
    exact ⟨Nw.same _, h2.kept kp⟩
theorem it_ktp {p : Addr} {vs : List V} {ds : List D} (h : KTup G.K p vs) (r : RL G.K m A H vs ds) : ItR G A m H (L2.Itt G.K p) ds := by
  refine ⟨fun a o => False, L2.YAt vs, ?_, fun a o hb => hb.elim, fun i d hd m1 A1 H1 x H2 kp _ y => ?_⟩
  · rw [← r.length]
    exact L2.walk_tup.mono (fun H1 hb => sqT_k h) fun _ _ _ _ _ _ y => y
  · obtain ⟨rfl, hx⟩ := y
    obtain ⟨v, h1, h2⟩ := r.get hd
    rw [hx] at h1
    cases h1
    exact ⟨Nw.same _, h2.kept kp⟩
theorem it_str {ss : List Nat} (h : OkS ss) : ItR G A m H (L2.Its ⟨ss.toArray⟩) (ss.map fun c => .str [c]) := by
  refine ⟨fun a o => False, fun i H v H' => H' = H ∧ ∃ c, (⟨ss.toArray⟩ : Str).cps[i]? = some c ∧ v = .str ⟨#[c]⟩, ?_, fun a o hb => hb.elim, fun i d hd m1 A1 H1 x H2 kp _ y => ?_⟩
  · rw [show (ss.map fun c => D.str [c]).length = (⟨ss.toArray⟩ : Str).cps.size by simp]
    exact L2.walk_str.mono (fun H1 hb => trivial) fun _ _ _ _ _ _ y => y
  · obtain ⟨rfl, c, hc, rfl⟩ := y
    have hc : ss[i]? = some c := by simpa using hc
    rw [List.getElem?_map, hc] at hd
    cases hd
    exact ⟨Nw.same _, rv_str (s := [c]) ⟨fun z hz => by simp at hz; subst hz; exact h.1 _ (List.mem_of_getElem? hc), by rw [PySem.sizeLine_eq]; show 1 ≤ 16777216; decide⟩⟩
theorem it_rng {lo hi : Int} {ds : List D} (h : rngD lo hi = some ds) : ItR G A m H (L2.Itr lo (hi - lo).toNat) ds := by
  unfold rngD at h
  split at h
  · cases h
    refine ⟨fun a o => False, L2.YFn fun i => .int (lo + (i : Nat)), ?_, fun a o hb => hb.elim, fun i d hd m1 A1 H1 x H2 kp _ y => ?_⟩
    · rw [List.length_map, List.length_range]
      exact L2.walk_range.mono (fun H1 hb => trivial) fun _ _ _ _ _ _ y => y
    · obtain ⟨rfl, rfl⟩ := y
      rw [List.getElem?_map] at hd
      cases q : (List.range (hi - lo).toNat)[i]? with
      | none => rw [q] at hd; cases hd
      | some j =>
        rw [q] at hd
        cases hd
        have e : j = i := by
          obtain ⟨h1, h2⟩ := List.getElem?_eq_some_iff.mp q
          simpa using h2.symm
        subst e
        exact ⟨Nw.same _, .int _⟩
  · cases h
theorem enum_get : ∀ {ds : List D} {n i : Nat} {d : D}, (enumD n ds)[i]? = some d → ∃ d0, ds[i]? = some d0 ∧ d = .tup [.int (n + i : Nat), d0]
  | [], _, _, _, h => by simp [enumD] at h
  | e :: ds, n, 0, d, h => by
    simp only [enumD, List.getElem?_cons_zero, Option.some.injEq] at h
    exact ⟨e, rfl, by rw [← h]; rfl⟩
  | e :: ds, n, i + 1, d, h => by
    simp only [enumD, List.getElem?_cons_succ] at h
    obtain ⟨d0, h1, h2⟩ := enum_get h
    exact ⟨d0, h1, by rw [h2, show n + 1 + i = n + (i + 1) by omega]⟩
theorem enum_len : ∀ (ds : List D) (n : Nat), (enumD n ds).length = ds.length
  | [], _ => rfl
  | _ :: ds, n => congrArg Nat.succ (enum_len ds (n + 1))
theorem it_enm {p : Addr} {vs : List V} {ds : List D} (h : H p = some (.lst vs)) (hm : p ∉ m) (ha : ¬ A p) (r : RL G.K m A H vs ds) : ItR G A m H (L2.Ite G.K p) (enumD 0 ds) := by
  refine ⟨fun a o => a = p ∧ o = .lst vs, L2.YPair (fun i => some (.int (i : Nat))) (fun i => vs[i]?), ?_, fun a o hb => ?_, fun i d hd m1 A1 H1 x H2 kp hh y => ?_⟩
  · rw [enum_len, ← r.length]
    exact L2.walk_enum.mono (fun H1 hb => sqL_of (hb p _ ⟨rfl, rfl⟩)) fun _ _ _ _ _ _ y => y
  · obtain ⟨rfl, rfl⟩ := hb
    exact ⟨h, hm, ha⟩
  · obtain ⟨T, x1, y1, rfl, hT, rfl, e1, e2⟩ := y
    obtain ⟨d0, h1, rfl⟩ := enum_get hd
    obtain ⟨v, h2, h3⟩ := r.get h1
    have e2 : vs[i]? = some y1 := e2
    rw [e2] at h2
    cases h2
    cases e1
    refine ⟨Nw.mk hT, rv_new_tup hh hT (.cons ?_ (.cons (h3.kept kp) .nil)) rfl⟩
    rw [Nat.zero_add]
    exact .int _
theorem it_zip {p q : Addr} {vs ws : List V} {ds es : List D} (h : H p = some (.lst vs)) (hm : p ∉ m) (ha : ¬ A p) (r : RL G.K m A H vs ds) (h' : H q = some (.lst ws)) (hm' : q ∉ m) (ha' : ¬ A q) (r' : RL G.K m A H ws es) (hz : (ds.zipWith (fun x y => D.tup [x, y]) es).all untx = true) :
    ItR G A m H (L2.Itz G.K p q) (ds.zipWith (fun x y => .tup [x, y]) es) := by
  refine ⟨fun a o => (a = p ∧ o = .lst vs) ∨ (a = q ∧ o = .lst ws), L2.YPair (fun i => vs[i]?) (fun i => ws[i]?), ?_, fun a o hb => ?_, fun i d hd m1 A1 H1 x H2 kp hh y => ?_⟩
  · refine (L2.walk_zip (xs := vs) (ys := ws) ?_).mono (fun H1 hb => ⟨sqL_of (hb p _ (.inl ⟨rfl, rfl⟩)), sqL_of (hb q _ (.inr ⟨rfl, rfl⟩))⟩) fun _ _ _ _ _ _ y => y
    rw [List.length_zipWith, r.length, r'.length]
  · rcases hb with ⟨rfl, rfl⟩ | ⟨rfl, rfl⟩
    · exact ⟨h, hm, ha⟩
    · exact ⟨h', hm', ha'⟩
  · obtain ⟨T, x1, y1, rfl, hT, rfl, e1, e2⟩ := y
    rw [List.getElem?_zipWith] at hd
    cases q1 : ds[i]? with
    | none => rw [q1] at hd; cases hd
    | some d1 =>
      cases q2 : es[i]? with
      | none => rw [q1, q2] at hd; cases hd
      | some d2 =>
        rw [q1, q2] at hd
        cases hd
        obtain ⟨v, k1, k2⟩ := r.get q1
        obtain ⟨w, k3, k4⟩ := r'.get q2
        have e1 : vs[i]? = some x1 := e1
        have e2 : ws[i]? = some y1 := e2
        rw [e1] at k1
        rw [e2] at k3
        cases k1
        cases k3
        exact ⟨Nw.mk hT, rv_new_tup hh hT (.cons (k2.kept kp) (.cons (k4.kept kp) .nil)) (by
          have := List.all_eq_true.mp hz _ (List.mem_of_getElem? (by rw [List.getElem?_zipWith, q1, q2]))
          unfold untx at this
          simpa only [Bool.not_eq_true'] using this)⟩
end
theorem walk_zipT {K : PySem.W.Frag} {a b : Addr} {xs ys : List V} : L2.Walk (RZ.ItzT K a b) (min xs.length ys.length) (fun H => SqT K H a xs ∧ SqT K H b ys) (L2.YPair (fun i => xs[i]?) (fun i => ys[i]?)) := by
  refine ⟨fun i _ hi q => ?_, fun _ q => ⟨xs, ys, q.1, q.2, by omega⟩, fun i H v H' _ q y => ?_⟩
  · have h1 : i < xs.length := by omega
    have h2 : i < ys.length := by omega
    exact ⟨xs, ys, xs[i], ys[i], q.1, q.2, by simp [h1], by simp [h2]⟩
  · obtain ⟨T, x, z, h1, h2, h3, h4, h5⟩ := y
    exact ⟨T, x, z, h1, h2, h3, h4 xs q.1, h5 ys q.2⟩
/-- a tuple that stands -/
theorem tup_stands {m : List Addr} {A : Addr → Prop} {H : Hp} {v : V} {ds : List D} (r : RV G.K m A H v (.tup ds)) : ∃ (p : Addr) (vs : List V) (B : Addr → HO → Prop), v = .ref p ∧ RL G.K m A H vs ds ∧ (∀ a o, B a o → H a = some o ∧ a ∉ m ∧ ¬ A a) ∧ ∀ H1 : Hp, (∀ a o, B a o → H1 a = some o) → SqT G.K H1 p vs := by
  cases r with
  | @tup p _ _ h hm ha r => exact ⟨p, _, fun a o => a = p ∧ H a = some o, rfl, r, fun a o hb => by obtain ⟨rfl, q⟩ := hb; exact ⟨q, hm, ha⟩, fun H1 hb => sqT_of (h.same fun o q => hb p o ⟨rfl, q⟩)⟩
  | ktp h _ r => exact ⟨_, _, fun _ _ => False, rfl, r, fun a o hb => hb.elim, fun H1 _ => sqT_k h⟩
theorem it_zipT {m : List Addr} {A : Addr → Prop} {H : Hp} {v u : V} {ds es : List D} (r : RV G.K m A H v (.tup ds)) (r' : RV G.K m A H u (.tup es)) (hz : (ds.zipWith (fun x y => D.tup [x, y]) es).all untx = true) :
    ∃ p q vs ws, v = .ref p ∧ u = .ref q ∧ SqT G.K H p vs ∧ SqT G.K H q ws ∧ ItR G A m H (RZ.ItzT G.K p q) (ds.zipWith (fun x y => .tup [x, y]) es) := by
  obtain ⟨p, vs, B, rfl, rl, hB, sB⟩ := tup_stands r
  obtain ⟨q, ws, B', rfl, rl', hB', sB'⟩ := tup_stands r'
  refine ⟨p, q, vs, ws, rfl, rfl, sB H fun a o h => (hB a o h).1, sB' H fun a o h => (hB' a o h).1, fun a o => B a o ∨ B' a o, L2.YPair (fun i => vs[i]?) (fun i => ws[i]?), ?_, fun a o hb => hb.elim (hB a o) (hB' a o), fun i d hd m1 A1 H1 x H2 kp hh y => ?_⟩
  · rw [List.length_zipWith, ← rl.length, ← rl'.length]
    exact walk_zipT.mono (fun H1 hb => ⟨sB H1 fun a o h => hb a o (.inl h), sB' H1 fun a o h => hb a o (.inr h)⟩) fun _ _ _ _ _ _ y => y
  · obtain ⟨T, x1, y1, rfl, hT, rfl, e1, e2⟩ := y
    rw [List.getElem?_zipWith] at hd
    cases q1 : ds[i]? with
    | none => rw [q1] at hd; cases hd
    | some d1 =>
      cases q2 : es[i]? with
      | none => rw [q1, q2] at hd; cases hd
      | some d2 =>
        rw [q1, q2] at hd
        cases hd
        obtain ⟨v, k1, k2⟩ := rl.get q1
        obtain ⟨w, k3, k4⟩ := rl'.get q2
        have e1 : vs[i]? = some x1 := e1
        have e2 : ws[i]? = some y1 := e2
        rw [e1] at k1
        rw [e2] at k3
        cases k1
        cases k3
        exact ⟨Nw.mk hT, rv_new_tup hh hT (.cons (k2.kept kp) (.cons (k4.kept kp) .nil)) (by
          have := List.all_eq_true.mp hz _ (List.mem_of_getElem? (by rw [List.getElem?_zipWith, q1, q2]))
          unfold untx at this
          simpa only [Bool.not_eq_true'] using this)⟩
theorem it_enmT {m : List Addr} {A : Addr → Prop} {H : Hp} {v : V} {ds : List D} (r : RV G.K m A H v (.tup ds)) : ∃ p vs, v = .ref p ∧ SqT G.K H p vs ∧ ItR G A m H (Et.IteT G.K p) (enumD 0 ds) := by
  obtain ⟨p, vs, B, rfl, rl, hB, sB⟩ := tup_stands r
  refine ⟨p, vs, rfl, sB H fun a o h => (hB a o h).1, B, L2.YPair (fun i => some (.int (i : Nat))) (fun i => vs[i]?), ?_, hB, fun i d hd m1 A1 H1 x H2 kp hh y => ?_⟩
  · rw [enum_len, ← rl.length]
    exact Et.walkT.mono (fun H1 hb => sB H1 hb) fun _ _ _ _ _ _ y => y
  · obtain ⟨T, x1, y1, rfl, hT, rfl, e1, e2⟩ := y
    obtain ⟨d0, h1, rfl⟩ := enum_get hd
    obtain ⟨v, h2, h3⟩ := rl.get h1
    have e2 : vs[i]? = some y1 := e2
    rw [e2] at h2
    cases h2
    cases e1
    refine ⟨Nw.mk hT, rv_new_tup hh hT (.cons ?_ (.cons (h3.kept kp) .nil)) rfl⟩
    rw [Nat.zero_add]
    exact .int _
theorem i_seq (X' : XC G F k c X W) (h : SE G F X W false e x) : PI X t x (GI G F W (.seq e)) := by
  refine imp_pi (or_pi (L2.pi_list h.v) (or_pi (L2.pi_tup h.v) (L2.pi_str h.v))) fun σ H R' ⟨f, ρ, S, m, s, q⟩ => ?_
  simp only [evIt] at q
  cases hr : ev F e ρ S with
  | no => rw [hr] at q; exact q.elim
  | xc x1 S1 => rw [hr] at q; exact .inl ⟨f, ρ, S, m, s, by rw [hr]; exact q⟩
  | ok d1 S1 =>
    rw [hr] at q
    cases d1 with
    | lst ds =>
      refine .inl ⟨f, ρ, S, m, s, ?_⟩
      rw [hr]
      intro v H1 m1 ex s1 r1
      obtain ⟨p, vs, rfl, h1, hm, ha, rl⟩ := r1.inv_lst
      rw [X'.K]
      exact ⟨p, rfl, ⟨vs, sqL_of h1⟩, q _ H1 m1 ex s1 (it_lst h1 hm ha rl)⟩
    | tup ds =>
      refine .inr (.inl ⟨f, ρ, S, m, s, ?_⟩)
      rw [hr]
      intro v H1 m1 ex s1 r1
      rw [X'.K]
      cases r1 with
      | tup h1 hm ha rl => exact ⟨_, rfl, ⟨_, sqT_of h1⟩, q _ H1 m1 ex s1 (it_tup h1 hm ha rl)⟩
      | ktp h1 _ rl => exact ⟨_, rfl, ⟨_, sqT_k h1⟩, q _ H1 m1 ex s1 (it_ktp h1 rl)⟩
    | str ss =>
      refine .inr (.inr ⟨f, ρ, S, m, s, ?_⟩)
      rw [hr]
      intro v H1 m1 ex s1 r1
      obtain ⟨e1, o1⟩ := r1.inv_str
      exact ⟨_, e1, q _ H1 m1 ex s1 (it_str o1)⟩
    | _ => exact q.elim
theorem i_enm {p : PySem.Pos} (X' : XC G F k c X W) (hg : gloB c.sc ("enumerate" : Str) = true) (ht : isTupT t = true) (hc : chkE c false e y = true) (h : SE G F X W false e y) : PI X t (.Call (.Name ("enumerate" : Str) p) [y] [] pos) (GI G F W (.enm e)) := by
  cases t with
  | Tuple elts kk tp =>
    refine imp_pi (or_pi (L2.pi_enum (X'.gl hg) (X'.wd.free _ (by decide)) (a_one hc h) (by rw [star_cons (chk_ns hc)]; rfl)) (Et.pi_enT (X'.gl hg) (X'.wd.free _ (by decide)) (a_one hc h) (by rw [star_cons (chk_ns hc)]; rfl))) fun σ H R' ⟨f, ρ, S, m, s, q⟩ => ?_
    simp only [evIt] at q
    have e1 : evs F (.cons e .nil) ρ S = (ev F e ρ S).bind fun x S => .ok [x] S := rfl
    cases hr : ev F e ρ S with
    | no => rw [hr] at q; exact q.elim
    | xc x1 S1 => rw [hr] at q; exact .inl ⟨f, ρ, S, m, s, by rw [e1, hr]; exact q⟩
    | ok d1 S1 =>
      rw [hr] at q
      cases d1 with
      | lst ds =>
        refine .inl ⟨f, ρ, S, m, s, ?_⟩
        rw [e1, hr]
        intro v H1 m1 ex s1 r1
        cases r1 with
        | cons r1 r2 =>
          cases r2
          rw [X'.K]
          obtain ⟨p, vs, rfl, h1, hm, ha, rl⟩ := r1.inv_lst
          exact ⟨p, vs, rfl, sqL_of h1, q _ H1 m1 ex s1 (it_enm h1 hm ha rl)⟩
      | tup ds =>
        refine .inr ⟨f, ρ, S, m, s, ?_⟩
        rw [e1, hr]
        intro v H1 m1 ex s1 r1
        cases r1 with
        | cons r1 r2 =>
          cases r2
          rw [X'.K]
          obtain ⟨p, vs, rfl, h1, it⟩ := it_enmT r1
          exact ⟨p, vs, rfl, h1, q _ H1 m1 ex s1 it⟩
      | _ => exact q.elim
  | _ => cases ht
theorem i_zip {p : PySem.Pos} (X' : XC G F k c X W) (hg : gloB c.sc ("zip" : Str) = true) (ht : isTupT t = true) (hc : chkE c false a y = true) (hc2 : chkE c false b z = true) (h1 : SE G F X W false a y) (h2 : SE G F X W false b z) : PI X t (.Call (.Name ("zip" : Str) p) [y, z] [] pos) (GI G F W (.zip a b)) := by
  cases t with
  | Tuple elts kk tp =>
    refine imp_pi (RZ.pi_zipA (X'.gl hg) (X'.wd.free _ (by decide)) (a_two hc hc2 h1 h2) (star_cons (chk_ns hc)) (plain2 hc2)) fun σ H R' ⟨f, ρ, S, m, s, q⟩ => ?_
    simp only [evIt] at q
    refine ⟨f, ρ, S, m, s, ?_⟩
    have e1 : evs F (.cons a (.cons b .nil)) ρ S = (ev F a ρ S).bind fun x S => (ev F b ρ S).bind fun y S => .ok [x, y] S := by
      simp only [evs, R.bind_assoc, R.bind_ok]
    rw [e1]
    cases hr : ev F a ρ S with
    | no => rw [hr] at q; exact q
    | xc x1 S1 => rw [hr] at q; exact q
    | ok d1 S1 =>
      rw [hr] at q
      simp only [R.bind_ok] at q ⊢
      cases hr2 : ev F b ρ S1 with
      | no => rw [hr2] at q; exact q
      | xc x1 S1 => rw [hr2] at q; exact q
      | ok d2 S2 =>
        rw [hr2] at q
        intro v H1 m1 ex s1 r1
        cases r1 with
        | cons r1 r2 =>
          cases r2 with
          | cons r2 r3 =>
            cases r3
            rw [X'.K]
            cases d1 with
            | lst ds =>
              cases d2 with
              | lst es =>
                obtain ⟨p, vs, rfl, h1, hm, ha, rl⟩ := r1.inv_lst
                obtain ⟨p', vs', rfl, h1', hm', ha', rl'⟩ := r2.inv_lst
                cases hz : (ds.zipWith (fun x y => D.tup [x, y]) es).all untx with
                | false => simp only [R.bind_ok, zipD, okZ, hz] at q; exact q.elim
                | true =>
                simp only [R.bind_ok, zipD, okZ, hz, if_true] at q
                exact ⟨p, p', vs, vs', rfl, .inl ⟨sqL_of h1, sqL_of h1', q _ H1 m1 ex s1 (it_zip h1 hm ha rl h1' hm' ha' rl' hz)⟩⟩
              | _ => exact q.elim
            | tup ds =>
              cases d2 with
              | tup es =>
                cases hz : (ds.zipWith (fun x y => D.tup [x, y]) es).all untx with
                | false => simp only [R.bind_ok, zipD, okZ, hz] at q; exact q.elim
                | true =>
                simp only [R.bind_ok, zipD, okZ, hz, if_true] at q
                obtain ⟨p, q', vs, ws, rfl, rfl, h1, h2, it⟩ := it_zipT r1 r2 hz
                exact ⟨p, q', vs, ws, rfl, .inr ⟨h1, h2, q _ H1 m1 ex s1 it⟩⟩
              | _ => exact q.elim
            | _ => cases d2 <;> exact q.elim
  | _ => cases ht
theorem i_rng {p : PySem.Pos} (X' : XC G F k c X W) (hg : gloB c.sc ("range" : Str) = true) (hc : chkE c lo e y = true) (h : SE G F X W lo e y) : PI X t (.Call (.Name ("range" : Str) p) [y] [] pos) (GI G F W (.rng e)) := by
  refine imp_pi (L2.pi_range1 (X'.gl hg) (X'.wd.free _ (by decide)) (a_one hc h) (by rw [star_cons (chk_ns hc)]; rfl)) fun σ H R' ⟨f, ρ, S, m, s, q⟩ => ?_
  simp only [evIt] at q
  refine ⟨f, ρ, S, m, s, ?_⟩
  have e1 : evs F (.cons e .nil) ρ S = (ev F e ρ S).bind fun x S => .ok [x] S := rfl
  rw [e1]
  cases hr : ev F e ρ S with
  | no => rw [hr] at q; exact q
  | xc x1 S1 => rw [hr] at q; exact q
  | ok d1 S1 =>
    rw [hr] at q
    intro v H1 m1 ex s1 r1
    cases r1 with
    | cons r1 r2 =>
      cases r2
      cases d1 with
      | int j =>
        cases r1
        simp only [R.bind_ok] at q
        cases hd : rngD 0 j with
        | none => rw [hd] at q; exact q.elim
        | some ds =>
          rw [hd] at q
          have hb : -(2 ^ 62) ≤ j ∧ j < 2 ^ 62 := by
            unfold rngD at hd
            split at hd
            · rename_i hb; omega
            · cases hd
          have it := it_rng (G := G) (A := Av f σ ρ) (m := m1) (H := H1) hd
          rw [Int.sub_zero] at it
          exact ⟨j, rfl, hb.1, hb.2, q _ H1 m1 ex s1 it⟩
      | _ => exact q.elim
theorem i_rng2 {p : PySem.Pos} (X' : XC G F k c X W) (hg : gloB c.sc ("range" : Str) = true) (hc : chkE c lo a y = true) (hc2 : chkE c lo b z = true) (h1 : SE G F X W lo a y) (h2 : SE G F X W lo b z) : PI X t (.Call (.Name ("range" : Str) p) [y, z] [] pos) (GI G F W (.rng2 a b)) := by
  refine imp_pi (L2.pi_range2 (X'.gl hg) (X'.wd.free _ (by decide)) (a_two hc hc2 h1 h2) (by rw [star_cons (chk_ns hc), star_cons (chk_ns hc2)]; rfl) (by rw [star_cons (chk_ns hc2)]; rfl)) fun σ H R' ⟨f, ρ, S, m, s, q⟩ => ?_
  simp only [evIt] at q
  refine ⟨f, ρ, S, m, s, ?_⟩
  have e1 : evs F (.cons a (.cons b .nil)) ρ S = (ev F a ρ S).bind fun x S => (ev F b ρ S).bind fun y S => .ok [x, y] S := by
    simp only [evs, R.bind_assoc, R.bind_ok]
  rw [e1]
  cases hr : ev F a ρ S with
  | no => rw [hr] at q; exact q
  | xc x1 S1 => rw [hr] at q; exact q
  | ok d1 S1 =>
    rw [hr] at q
    simp only [R.bind_ok] at q ⊢
    cases hr2 : ev F b ρ S1 with
    | no => rw [hr2] at q; exact q
    | xc x1 S1 => rw [hr2] at q; exact q
    | ok d2 S2 =>
      rw [hr2] at q
      simp only [R.bind_ok] at q
      intro v H1 m1 ex s1 r1
      cases r1 with
      | cons r1 r2 =>
        cases r2 with
        | cons r2 r3 =>
          cases r3
          cases d1 with
          | int i =>
            cases d2 with
            | int j =>
              cases r1
              cases r2
              have q : PX G f σ ρ W (fun m' H' J ds => ItR G (Av f σ ρ) m' H' J ds) m H (asL (rngD i j) S2) R' := q
              cases hd : rngD i j with
              | none => rw [hd] at q; exact q.elim
              | some ds =>
                rw [hd] at q
                have hb : -(2 ^ 62) ≤ i ∧ i < 2 ^ 62 ∧ -(2 ^ 62) ≤ j ∧ j < 2 ^ 62 := by
                  unfold rngD at hd
                  split at hd
                  · rename_i hb; omega
                  · cases hd
                exact ⟨i, j, rfl, hb, q _ H1 m1 ex s1 (it_rng hd)⟩
            | _ => exact q.elim
          | _ => cases d2 <;> exact q.elim
/-! ### comprehensions -/
/-- no exception leaves -/
abbrev W0 : WX := fun _ _ _ _ => False
theorem XC.inB (X' : XC G F k c X W) (cm : c.calm = true) {scope : Scope} (s : PySem.Shared) (H : Hp) (C : Addr) (cl : List (Str × Addr)) (fp : List Addr) : XC G F k (c.inB scope) (X.blk s H scope (PySem.compEnvC scope cl C X.env) fp) W0 where
  wd := X'.wd
  at_ := X'.at_
  K := X'.K
  N := X'.N
  nd := X'.nd
  sc := by
    show L2.relS scope X.env.scope = L2.relS scope c.sc
    rw [X'.sc]
  fn := rfl
  calm := X'.calm
  un := X'.un
  room := X'.room
  tk := L2.takes0
  err := fun h => absurd (cm.symm.trans h) (by decide)
theorem turns_cons {g : D → Sto → R (Option D)} {d : D} {ds r : List D} {S S' : Sto} (h : turns g (d :: ds) S = .ok r S') : ∃ o S1 r1, g d S = .ok o S1 ∧ turns g ds S1 = .ok r1 S' ∧ r = o.toList ++ r1 := by
  simp only [turns] at h
  cases hg : g d S with
  | no => rw [hg] at h; cases h
  | xc _ _ => rw [hg] at h; cases h
  | ok o S1 =>
    rw [hg] at h
    simp only [R.bind_ok] at h
    cases ht : turns g ds S1 with
    | no => rw [ht] at h; cases h
    | xc _ _ => rw [ht] at h; cases h
    | ok r1 S2 =>
      rw [ht] at h
      simp only [R.bind_ok] at h
      cases h
      exact ⟨o, S1, r1, rfl, ht, rfl⟩
theorem bindT_len : ∀ {tg : Tg} {d : D} {ρ ρ' : Env}, bindT tg d ρ = some ρ' → ρ'.length = ρ.length := by
  intro tg
  induction tg with
  | name i => intro d ρ ρ' e; cases e; simp
  | pair a b ia ib =>
    intro d ρ ρ' e
    obtain ⟨x, y, ρ1, _, e1, e2⟩ := bind_pair e
    rw [ib e2, ia e1]
  | trip a b c ia ib ic =>
    intro d ρ ρ' e
    obtain ⟨x, y, z, ρ1, ρ2, _, e1, e2, e3⟩ := bind_trip e
    rw [ic e3, ib e2, ia e1]
  | quad a b c d ia ib ic id =>
    intro d0 ρ ρ' e
    obtain ⟨x, y, z, u, ρ1, ρ2, ρ3, _, e1, e2, e3, e4⟩ := bind_quad e
    rw [id e4, ic e3, ib e2, ia e1]
/-- one turn of a comprehension -/
def stepC (F : Fns) (e : Ex) (tg : Tg) (o : Option Ex) (ρB : Env) : D → Sto → R (Option D) := fun d S => match bindT tg d ρB with
  | some ρ1 => (match o with
    | none => (ev F e ρ1 S).bind fun x S => .ok (some x) S
    | some z => (ev F z ρ1 S).bind fun x S => (asB x S).bind fun t S => if t = true then (ev F e ρ1 S).bind fun x S => .ok (some x) S else .ok none S)
  | none => .no
/-- the test's reading -/
def gtC (G : Gx) (F : Fns) (o : Option Ex) : TT := match o with
  | none => L2.tYes
  | some z => GT G F W0 false z
structure Pv (G : Gx) (F : Fns) (g : D → Sto → R (Option D)) (fB : Fr) (σB : L2.St) (ρB : Env) (Dl : Addr) (ds r : List D) (S' : Sto) (i : Nat) (H : Hp) : Prop where
  ex : ∃ accV accD rest S m, H Dl = some (.lst accV) ∧ Dl ∉ m ∧ RL G.K m fB.A0 H accV accD ∧ St G fB σB H ρB S m ∧ turns g (ds.drop i) S = .ok rest S' ∧ r = accD ++ rest
theorem no_av {f : Fr} {σ : L2.St} {ρ : Env} (hn : NoOwn ρ) {a : Addr} (h : Av f σ ρ a) : f.A0 a := h.elim (fun z => z) fun z => (hn.own z).elim
/-- what a comprehension leads to -/
def Fin3 (G : Gx) (F : Fns) (f : Fr) (σ : L2.St) (ρ : Env) (e : Ex) (tg : Tg) (o : Option Ex) (vs : List Nat) (m1 : List Addr) (H1 : Hp) (ds : List D) (S1 : Sto) (Q : VK) : Prop := match turns (stepC F e tg o (wipe (noOwn ρ) vs)) ds S1 with
  | .ok r S' => r.length ≤ lim ∧ ∀ p Hn mn accV, Ext m1 H1 mn Hn → St G f σ Hn ρ S' mn → Hn p = some (.lst accV) → p ∉ mn → H1 p = none → ¬ Av f σ ρ p → RL G.K mn (fun a => Av f σ ρ a ∨ a = p) Hn accV r → SR G mn (fun a => Av f σ ρ a ∨ a = p) S' Hn → Q (.ref p) Hn
  | _ => False
theorem comp_read0 {it : It} {tg : Tg} {o : Option Ex} {vs : List Nat} (hs : ∀ i ∈ slots tg, i ∈ vs) {σ : L2.St} {H : Hp} {Q : VK}
    (h : ∃ f ρ S m, St G f σ H ρ S m ∧ PX G f σ ρ W (fun m' H' J ds => ItR G (Av f σ ρ) m' H' J ds) m H (evIt F it ρ S) fun J H1 => ∃ ds S1 m1, Ext m H m1 H1 ∧ St G f σ H1 ρ S1 m1 ∧ ItR G (Av f σ ρ) m1 H1 J ds ∧ Fin3 G F f σ ρ e tg o vs m1 H1 ds S1 Q) :
    L2.tLc (GI G F W it) (GTg G tg) (gtC G F o) (GE G F W0 false e) vs σ H Q := by
  obtain ⟨f, ρ, S, m, s, q⟩ := h
  refine ⟨f, ρ, S, m, s, q.imp fun J H1 ⟨ds, S1, m1, e1, s1, r1, q1⟩ => ?_⟩
  intro Dl hD
  unfold Fin3 at q1
  cases ht : turns (stepC F e tg o (wipe (noOwn ρ) vs)) ds S1 with
  | no => rw [ht] at q1; exact q1.elim
  | xc _ _ => rw [ht] at q1; exact q1.elim
  | ok r S' =>
    rw [ht] at q1
    obtain ⟨hlim, q1⟩ := q1
    · obtain ⟨B, Y, wk, hB, hY⟩ := r1
      have nB : NoOwn (wipe (noOwn ρ) vs) := (noOwn_no ρ).wipe vs
      -- the block's frame
      let fB : Fr := { A0 := fun a => Av f σ ρ a ∨ a = Dl, P := fun _ _ => False, m0 := m1, H0 := H1, mp := m1 }
      have hnD : ¬ Av f σ ρ Dl := fun z => s1.liveA z hD
      have hmD : Dl ∉ m1 := fun z => s1.sr.live z hD
      have sB0 : St G fB (L2.wipe σ vs) (upd H1 Dl (.lst [])) (wipe (noOwn ρ) vs) S1 m1 := by
        have t1 := (s1.noOwn.wiped vs).enter nB
        have t2 := t1.away (H' := upd H1 Dl (.lst [])) (B := fun a => Av f σ ρ a ∨ a = Dl) (fun a h => h.imp (fun z => z) fun z => by rw [z]; exact hD) (fun a h => ?_) nB (Ext.new hD) (fun a ha => L2.upd_ne fun z => hmD (z ▸ ha))
        · exact t2
        · rcases h with h | h
          · exact (Ext.new (m := m1) hD).live a (s1.liveA h)
          · rw [h, upd_at]; exact fun z => nomatch z
      refine L2.lc_it wk (Pv G F (stepC F e tg o (wipe (noOwn ρ) vs)) fB (L2.wipe σ vs) (wipe (noOwn ρ) vs) Dl ds r S') ?_ ?_ ?_ ?_
      · exact ⟨[], [], r, S1, m1, upd_at, hmD, .nil, sB0, ht, rfl⟩
      · rintro i Hc _ ⟨accV, accD, rest, Si, mi, h1, h2, h3, h4, h5, h6⟩ a o' hb
        obtain ⟨k1, k2, k3⟩ := hB a o' hb
        exact h4.ent.keep a o' k2 k1
      · rintro i x Hc Hc' hi ⟨accV, accD, rest, Si, mi, h1, h2, h3, h4, h5, h6⟩ hy
        have hd : ds.drop i = ds[i] :: ds.drop (i + 1) := List.drop_eq_getElem_cons hi
        rw [hd] at h5
        obtain ⟨oo, S2, rest', g1, g2, g3⟩ := turns_cons h5
        have kp : Kp m1 (Av f σ ρ) H1 mi fB.A0 Hc := by
          obtain ⟨l, hl, _⟩ := h4.ent.pre
          refine ⟨⟨l, hl⟩, fun a o' k1 k2 k3 => ⟨h4.ent.keep a o' k1 k3, h4.ent.out k1 (is_some k3), fun z => z.elim k2 fun z => ?_⟩⟩
          rw [z, hD] at k3
          cases k3
        have held : Held mi fB.A0 Hc := ⟨fun a h => h4.live a h, fun a h => h4.sr.live h⟩
        obtain ⟨nw, rx⟩ := hY i ds[i] (List.getElem?_eq_getElem hi) mi fB.A0 Hc x Hc' kp held hy
        have h4' : St G fB (L2.wipe σ vs) Hc' (wipe (noOwn ρ) vs) Si mi := by
          rcases nw with rfl | ⟨p, o', hp, rfl⟩
          · exact h4
          · exact h4.new hp
        unfold stepC at g1
        cases hbt : bindT tg ds[i] (wipe (noOwn ρ) vs) with
        | none => rw [hbt] at g1; cases g1
        | some ρ1 =>
          rw [hbt] at g1
          have n1 : NoOwn ρ1 := nB.bind hbt
          refine ⟨fB, _, Si, mi, ds[i], ρ1, h4', rx.less fun a z => no_av nB z, hbt, fun σ2 s2 o2 w2 => ⟨?_, ?_⟩⟩
          · rw [w2 vs hs]
            have ww : ∀ (us : List Nat) (τ : L2.St), (∀ u ∈ us, u ∈ vs) → L2.wipe (L2.wipe τ us) vs = L2.wipe τ vs := by
              intro us
              induction us with
              | nil => intro τ _; rfl
              | cons u us ih =>
                intro τ hu
                show L2.wipe ((L2.wipe τ us).set u none) vs = _
                rw [wipe_set (hu u (List.mem_cons_self ..)), ih τ fun v hv => hu v (List.mem_cons_of_mem _ hv)]
            exact ww vs σ fun _ z => z
          · -- what an item that is taken leads to
            have fin : ∀ (S3 : Sto) (H3 : Hp) (m3 : List Addr), Ext mi Hc' m3 H3 → St G fB σ2 H3 ρ1 S3 m3 → (∃ xd, ev F e ρ1 S3 = .ok xd S2 ∧ oo = some xd) →
                GE G F W0 false e σ2 H3 fun y H4 => ∃ acc, H4 Dl = some (.lst acc) ∧ acc.length < sizeLine ∧ Pv G F (stepC F e tg o (wipe (noOwn ρ) vs)) fB (L2.wipe σ vs) (wipe (noOwn ρ) vs) Dl ds r S' (i + 1) (upd H4 Dl (.lst (acc ++ [y]))) := by
              rintro S3 H3 m3 x3 s3 ⟨xd, ev3, rfl⟩
              refine ⟨fB, ρ1, S3, m3, s3, ?_⟩
              rw [ev3]
              intro y H4 m4 x4 s4 r4
              have x34 := x3.trans x4
              have xall := (nw.ext (m := mi)).trans x34
              have hD4 : H4 Dl = some (.lst accV) := xall.keep Dl _ h2 h1
              have hm4 : Dl ∉ m4 := xall.out h2 (is_some h1)
              refine ⟨accV, hD4, ?_, accV ++ [y], accD ++ [xd], rest', S2, m4, upd_at, hm4, ?_, ?_, g2, ?_⟩
              · have l1 := h3.length
                have l2 : r.length = accD.length + (1 + rest'.length) := by rw [h6, g3]; simp [Nat.add_comm]
                have l3 := lim_size hlim
                omega
              · have ra : RL G.K m4 fB.A0 H4 (accV ++ [y]) (accD ++ [xd]) := (h3.ext xall).append (.cons (r4.less fun a z => (.inl z : Av fB σ2 ρ1 a)) .nil)
                exact ra.kept (kp_poke (.inr rfl))
              · have sB4 : St G fB (L2.wipe σ vs) H4 (wipe (noOwn ρ) vs) S2 m4 := h4.ext xall (s4.sr.less fun a z => .inl (no_av nB z))
                exact sB4.poke (.inr rfl) hm4 nB (fun _ z => z) hD
              · rw [h6, g3, List.append_assoc]
                rfl
            cases o with
            | none =>
              simp only at g1
              cases hev : ev F e ρ1 Si with
              | no => rw [hev] at g1; cases g1
              | xc _ _ => rw [hev] at g1; cases g1
              | ok xd S3 =>
                rw [hev] at g1
                simp only [R.bind_ok] at g1
                cases g1
                dsimp only [gtC, L2.tYes]
                rw [if_pos rfl]
                exact fin Si Hc' mi (Ext.refl _ _) s2 ⟨xd, hev, rfl⟩
            | some z =>
              simp only at g1
              refine ⟨fB, ρ1, Si, mi, s2, ?_⟩
              cases hez : ev F z ρ1 Si with
              | no => rw [hez] at g1; cases g1
              | xc _ _ => rw [hez] at g1; cases g1
              | ok zd S3 =>
                rw [hez] at g1
                cases zd with
                | bl t =>
                  simp only [R.bind_ok, asB_bl] at g1 ⊢
                  intro b H3 m3 x3 s3 rb3
                  have rb3 : b = t := rb3
                  subst rb3
                  cases b with
                  | true =>
                    rw [if_pos rfl] at g1 ⊢
                    cases hev : ev F e ρ1 S3 with
                    | no => rw [hev] at g1; cases g1
                    | xc _ _ => rw [hev] at g1; cases g1
                    | ok xd S4 =>
                      rw [hev] at g1
                      simp only [R.bind_ok] at g1
                      cases g1
                      exact fin S3 H3 m3 x3 s3 ⟨xd, hev, rfl⟩
                  | false =>
                    rw [if_neg Bool.false_ne_true] at g1 ⊢
                    cases g1
                    have xall := (nw.ext (m := mi)).trans x3
                    exact ⟨accV, accD, rest', _, m3, xall.keep Dl _ h2 h1, xall.out h2 (is_some h1), h3.ext xall, h4.ext xall (s3.sr.less fun a z => Or.inl (no_av nB z)), g2, by rw [h6, g3]; rfl⟩
                | _ => cases g1
      · rintro Hn ⟨accV, accD, rest, Sn, mn, h1, h2, h3, h4, h5, h6⟩
        rw [List.drop_length] at h5
        simp only [turns] at h5
        cases h5
        rw [List.append_nil] at h6
        subst h6
        exact q1 _ Hn mn _ h4.ent (s1.ext h4.ent (h4.sr.less fun a z => .inl (.inl z))) h1 h2 hD hnD h3 (h4.sr.less fun a z => .inl z)
theorem fin3_of {it : It} {tg : Tg} {o : Option Ex} {vs : List Nat} {σ : L2.St} {H : Hp} {Q : VK} {m : List Addr} {f : Fr} {ρ : Env} {ds : List D} {S : Sto}
    (q : PX G f σ ρ W (rv G (Bv lo f σ ρ)) m H ((calmly (turns (stepC F e tg o (wipe (noOwn ρ) vs)) ds S)).bind fun r S => (small r S).bind fun r S => .ok (.lst r) S) Q) : Fin3 G F f σ ρ e tg o vs m H ds S Q := by
  unfold Fin3
  cases ht : turns (stepC F e tg o (wipe (noOwn ρ) vs)) ds S with
  | no => rw [ht] at q; exact q
  | xc _ _ => rw [ht] at q; exact q
  | ok r S' =>
    rw [ht] at q
    simp only [calmly_ok, R.bind_ok] at q
    unfold small at q
    split at q
    · rename_i hl
      simp only [R.bind_ok] at q
      exact ⟨hl, fun p Hn mn accV e1 s1 h1 h2 h3 h4 h5 h6 => q _ Hn mn e1 s1 (.lst h1 h2 (fun z => h4 z.av) (h5.less fun a z => .inl z.av))⟩
    · exact q.elim
theorem comp_read {it : It} {tg : Tg} {o : Option Ex} {vs : List Nat} (hs : ∀ i ∈ slots tg, i ∈ vs) {σ : L2.St} {H : Hp} {Q : VK}
    (h : ∃ f ρ S m, St G f σ H ρ S m ∧ PX G f σ ρ W (rv G (Bv lo f σ ρ)) m H ((evIt F it ρ S).bind fun ds S => (calmly (turns (stepC F e tg o (wipe (noOwn ρ) vs)) ds S)).bind fun r S => (small r S).bind fun r S => .ok (.lst r) S) Q) :
    L2.tLc (GI G F W it) (GTg G tg) (gtC G F o) (GE G F W0 false e) vs σ H Q := by
  obtain ⟨f, ρ, S, m, s, q⟩ := h
  exact comp_read0 hs ⟨f, ρ, S, m, s, (PX.bind q).imp fun J H1 ⟨ds, S1, m1, e1, s1, r1, q1⟩ => ⟨ds, S1, m1, e1, s1, r1, fin3_of (it := it) q1⟩⟩
theorem blk_ok {scope : Scope} {vs : List Nat} (X' : XC G F k c X W) (h : blkB c scope vs = true) : L2.BlkOk X.N X.env.scope scope (ownB c.N vs) ∧ (ownB c.N vs).map (·.2) = vs := by
  obtain ⟨h1, h2⟩ := ba h
  rw [X'.N, X'.sc]
  exact ⟨L2.blkOk_by h1, of_decide_eq_true h2⟩
theorem noSet_fold {env : PySem.Env} (h : noSet x = true) : ∀ v, PySem.foldedSetIterable x env v = pure v := by
  intro v
  cases x <;> first | rfl | cases h
theorem chkI_set {it : It} (h : chkI c lo it t x = true) : noSet x = true := by
  cases it with
  | seq e => exact (ba h).1
  | _ => cases x <;> first | rfl | cases h
theorem slots_in {tg : Tg} {vs : List Nat} (h : (slots tg).all (fun k => vs.contains k) = true) : ∀ i ∈ slots tg, i ∈ vs := fun i hi => by simpa using List.all_eq_true.mp h i hi
theorem i_comp {tg : Tg} {it : It} {vs : List Nat} (hs : ∀ i ∈ slots tg, i ∈ vs) {σ : L2.St} {H : Hp} {Q : VK} (h : GE G F W lo (.comp e tg it vs) σ H Q) : L2.tLc (GI G F W it) (GTg G tg) L2.tYes (GE G F W0 false e) vs σ H Q :=
  comp_read (o := none) hs h
theorem i_compIf {tg : Tg} {it : It} {vs : List Nat} (hs : ∀ i ∈ slots tg, i ∈ vs) {σ : L2.St} {H : Hp} {Q : VK} (h : GE G F W lo (.compIf e tg it d vs) σ H Q) : L2.tLc (GI G F W it) (GTg G tg) (GT G F W0 false d) (GE G F W0 false e) vs σ H Q :=
  comp_read (o := some d) hs h
/-! ### all expressions -/
theorem s_comp {tg : Tg} {it : It} {vs : List Nat} {scope : Scope} (X' : XC G F k c X W) (cm : c.calm = true) (hi : PI X t x (GI G F W it)) (hx : noSet x = true) (hb : blkB c scope vs = true) (ht : chkT (c.inB scope) tg t = true) (hs : (slots tg).all (fun k => vs.contains k) = true)
    (he : ∀ (X1 : Cx), XC G F k (c.inB scope) X1 W0 → SE G F X1 W0 false e y) : SE G F X W lo (.comp e tg it vs) (.ListComp y [⟨t, x, [], 0⟩] scope pos) := by
  refine .plain ?_ (fun _ => rfl) (fun _ _ _ z => nomatch z)
  obtain ⟨b1, b2⟩ := blk_ok X' hb
  refine imp_pe (L2.pe_lc (own := ownB c.N vs) (X'.calm cm) (by rw [X'.N]; exact X'.nd) hi b1 (fun s H C cl fp => g_tg (X'.inB cm s H C cl fp) tg t ht) (fun _ _ _ _ _ => L2.pts_nil) (fun s H C cl fp => (he _ (X'.inB cm s H C cl fp)).v) (noSet_fold hx)) fun σ H Q q => ?_
  rw [b2]
  exact i_comp (slots_in hs) q
theorem s_compIf {tg : Tg} {it : It} {vs : List Nat} {scope : Scope} (X' : XC G F k c X W) (cm : c.calm = true) (hi : PI X t x (GI G F W it)) (hx : noSet x = true) (hb : blkB c scope vs = true) (ht : chkT (c.inB scope) tg t = true) (hs : (slots tg).all (fun k => vs.contains k) = true)
    (he : ∀ (X1 : Cx), XC G F k (c.inB scope) X1 W0 → SE G F X1 W0 false e y) (hd : ∀ (X1 : Cx), XC G F k (c.inB scope) X1 W0 → SE G F X1 W0 false d z) : SE G F X W lo (.compIf e tg it d vs) (.ListComp y [⟨t, x, [z], 0⟩] scope pos) := by
  refine .plain ?_ (fun _ => rfl) (fun _ _ _ z => nomatch z)
  obtain ⟨b1, b2⟩ := blk_ok X' hb
  refine imp_pe (L2.pe_lc (own := ownB c.N vs) (X'.calm cm) (by rw [X'.N]; exact X'.nd) hi b1 (fun s H C cl fp => g_tg (X'.inB cm s H C cl fp) tg t ht) (fun s H C cl fp => L2.pts_one (hd _ (X'.inB cm s H C cl fp)).t) (fun s H C cl fp => (he _ (X'.inB cm s H C cl fp)).v) (noSet_fold hx)) fun σ H Q q => ?_
  rw [b2]
  exact i_compIf (slots_in hs) q
end
end Mi
/-! Mini: things of the store in expressions. -/
namespace Mi
open PySem (Str Addr Value Expr Stmt Scope PyData sizeLine Const NameKind Operator CmpOp Comprehension)
open L2 (V Hp HO Key upd Rd SqL SqT Cx VK R2 OpR CallR MtR IxR SlR PE PT PW PA PI PG TE TT TA TI TG WX Takes Room)
section
variable {G : Gx} {F : Fns} {k : Nat} {c : CC} {X : Cx} {W : WX} {lo : Bool} {e e' a b d : Ex} {x y z : Expr} {pos : PySem.Pos}
/-- a cell by its number -/
theorem ins_at {m : List Addr} {A : Addr → Prop} {H : Hp} {S : Sto} {v : V} {n C : Nat} {fs : List (Nat × D)} (s : SR G m A S H) {A' : Addr → Prop} (r : RV G.K m A' H v (.obj n)) (hc : S[n]? = some (.ins C fs)) :
    ∃ a dx fvs, v = .ref a ∧ m[n]? = some a ∧ H a = some (.ins (G.cls C) dx fvs) ∧ H dx = some (.own a) ∧ dx ∉ m ∧ ¬ A dx ∧ fvs.map (·.1) = fs.map (fun q => G.fld q.1) ∧ RL G.K m A H (fvs.map (·.2)) (fs.map (·.2)) := by
  obtain ⟨a, rfl, ha⟩ := r.inv_obj
  obtain ⟨dx, fvs, h1, h2, h3, h4, h5, h6⟩ := s.at ha hc
  exact ⟨a, dx, fvs, rfl, ha, h1, h2, h3, h4, h5, h6⟩
theorem fldOf_ok {fd : Nat → Nat → Bool} {f : Nat} {x : D} {S S' : Sto} {d : D} (h : fldOf fd f x S = .ok d S') : ∃ n C fs, x = .obj n ∧ S[n]? = some (.ins C fs) ∧ fd C f = true ∧ fs.lookup f = some d ∧ S' = S := by
  cases x with
  | obj n =>
    simp only [fldOf] at h
    split at h
    · rename_i C fs hc
      split at h
      · rename_i hf
        cases hl : fs.lookup f with
        | none => rw [hl] at h; cases h
        | some v => rw [hl] at h; cases h; exact ⟨n, C, fs, rfl, hc, hf, hl, rfl⟩
      · cases h
    · cases h
  | _ => cases h
theorem fldOf_no {fd : Nat → Nat → Bool} {f : Nat} {x : D} {S S' : Sto} {y : Xc} (h : fldOf fd f x S = .xc y S') : False := by
  cases x with
  | obj n =>
    simp only [fldOf] at h
    split at h
    · split at h
      · rename_i fs _ _
        cases hl : fs.lookup f with
        | none => rw [hl] at h; cases h
        | some v => rw [hl] at h; cases h
      · cases h
    · cases h
  | _ => cases h
theorem s_fld {f : Nat} {n : Str} (X' : XC G F k c X W) (hn : c.at_ f = n) (hb : noCall0 x = true) (h1 : SE G F X W false a x) : SE G F X W lo (.fld a f) (.Attribute x n pos) := by
  refine .plain (imp_pe (L2.pe_fld h1.v (attr_ok hb)) fun σ H Q ⟨fr, ρ, S, m, s, q⟩ => ?_) (fun _ => rfl) (fun _ _ _ z => nomatch z)
  simp only [ev] at q
  refine ⟨fr, ρ, S, m, s, (PX.bind q).imp fun v H1 ⟨d1, S1, m1, e1, s1, r1, q1⟩ => ?_⟩
  cases hr : fldOf F.fd f d1 S1 with
  | no => rw [hr] at q1; exact q1.elim
  | xc y S2 => exact (fldOf_no hr).elim
  | ok d2 S2 =>
    rw [hr] at q1
    obtain ⟨i, C, fs, rfl, hc, hf, hl, rfl⟩ := fldOf_ok hr
    obtain ⟨ad, dx, fvs, rfl, ha, g1, g2, g3, g4, g5, g6⟩ := ins_at s1.sr r1 hc
    obtain ⟨v2, l1, l2⟩ := look_at X'.wd.inj g5 g6 hl
    obtain ⟨c1, c2⟩ := X'.wd.fds C f hf
    have ef : G.fld f = n := by rw [X'.at_]; exact hn
    rw [ef] at l1 c2
    rw [X'.K]
    exact ⟨ad, G.cls C, dx, fvs, v2, rfl, g1, c1, c2, l1, PX.now q1 s1 (l2.less fun _ z => z.av)⟩
theorem isOf_ok {C m : Nat} {x y : D} {S S' : Sto} (h : isOf C m x S = .ok y S') : ∃ n fs, x = .obj n ∧ y = .obj n ∧ S[n]? = some (.ins C fs) ∧ fs.lookup m = none ∧ S' = S := by
  cases x with
  | obj n =>
    simp only [isOf] at h
    split at h
    · split at h
      · rename_i fs hc hq
        obtain ⟨rfl, hq⟩ := hq
        cases h
        exact ⟨n, fs, rfl, rfl, hc, hq, rfl⟩
      · cases h
    · cases h
  | _ => cases h
theorem isOf_no {C m : Nat} {x : D} {S S' : Sto} {y : Xc} (h : isOf C m x S = .xc y S') : False := by
  cases x with
  | obj n =>
    simp only [isOf] at h
    split at h
    · split at h <;> cases h
    · cases h
  | _ => cases h
theorem form_ok {es : Exs} {xs : List Expr} {env : PySem.Env} (hl : xs.length < 20) (h : chkA c false es xs = true) : PySem.methodCallForm (xs.length + ([] : List PySem.Keyword).length) (PySem.backTo pos (PySem.starEach xs env)) (PySem.backToKw pos (PySem.keywordEach [] env)) = true := by
  have hs : (PySem.backTo pos (PySem.starEach xs env)).all (fun x => !x.1) = true := by
    have := stars_plain (c := c) (lo := false) (env := env) (pos := pos) h
    rw [List.any_eq_false] at this
    rw [List.all_eq_true]
    intro z hz
    have := this z hz
    simpa using this
  unfold PySem.methodCallForm
  rw [hs]
  simp [PySem.keywordEach, PySem.backToKw]
  omega
theorem i_mth {g : Nat} {es : Exs} {C mm : Nat} {h : Fn} {to : TA} (hF : F.mt g = some (C, mm, h)) {n : Str} (hn : G.fld mm = n) (inj : ∀ i j, G.fld i = G.fld j → i = j) (ha : ∀ σ H Q, GA G F W false es σ H Q → to σ H Q) {σ : L2.St} {H : Hp} {Q : VK} (q : GE G F W lo (.mth a g es) σ H Q) :
    Mo.tMS (G.cls C) n (spF G h) (L2.WE W) (GE G F W false a) to σ H Q := by
  obtain ⟨fr, ρ, S, m, s, q⟩ := q
  simp only [ev, hF] at q
  refine ⟨fr, ρ, S, m, s, (PX.bind q).imp fun v H1 ⟨d1, S1, m1, e1, s1, r1, q1⟩ => ?_⟩
  cases hr : isOf C mm d1 S1 with
  | no => rw [hr] at q1; exact q1.elim
  | xc y S2 => exact (isOf_no hr).elim
  | ok d2 S2 =>
    rw [hr] at q1
    obtain ⟨i, fs, rfl, rfl, hc, hl, rfl⟩ := isOf_ok hr
    obtain ⟨ad, dx, fvs, rfl, had, g1, g2, g3, g4, g5, g6⟩ := ins_at s1.sr r1 hc
    refine ⟨ad, dx, fvs, rfl, g1, by rw [← hn]; exact look_no inj g5 hl, ha _ _ _ ⟨fr, ρ, S2, m1, s1, ?_⟩⟩
    simp only [R.bind_ok] at q1
    refine (PX.bind q1).imp fun vs H2 ⟨ds, S3, m2, e2, s2, r2, q2⟩ => ?_
    refine ⟨.obj i :: ds, S3, m2, Av fr σ ρ, s2.sr, fun a h => s2.liveA h, .cons (r1.ext e2) r2, ?_⟩
    cases hr2 : h (.obj i :: ds) S3 with
    | ok d4 S4 =>
      rw [hr2] at q2
      intro v4 H4 m4 ex sr4 r4
      exact q2 v4 H4 m4 ex (s2.ext ex sr4) (r4.less fun _ z => z.av)
    | xc x4 S4 =>
      rw [hr2] at q2
      intro cl dd H4 m4 ex sr4 r4
      exact q2 cl dd H4 m4 ex (s2.ext ex sr4) r4
    | no => rw [hr2] at q2; exact q2
theorem s_mth {g : Nat} {es : Exs} {xs : List Expr} {n : Str} {ap : PySem.Pos} (X' : XC G F k c X W) (cm : c.calm = true) (hn : c.mn g = n) (hl : (ap.endLine == pos.line) = true) (hb : noCall0 x = true) (hlen : xs.length < 20) (h1 : SE G F X W false a x) (hc : chkA c false es xs = true) (h : PA X xs (GA G F W false es)) :
    SE G F X W lo (.mth a g es) (.Call (.Attribute x n ap) xs [] pos) := by
  refine .plain (?_) (fun _ => rfl) (fun _ _ _ z => nomatch z)
  subst hn
  cases hF : F.mt g with
  | none =>
    refine ⟨fun pins s σ H Q I h => ?_⟩
    obtain ⟨fr, ρ, S, m, s, q⟩ := h
    simp only [ev, hF] at q
    exact q.elim
  | some t =>
    obtain ⟨C, mm, gf⟩ := t
    obtain ⟨e1, e2, f, fd, ps, e3, e4, e5⟩ := X'.wd.mts g C mm gf hF
    rw [← X'.K] at e2 e3 e4 e5
    cases xs with
    | nil =>
      cases es with
      | cons _ _ => cases hc
      | nil =>
        refine imp_pe (Mo.pe_mS0 h1.v e2 e3 e5 (X'.room cm) e4 (fun σ => L2.passAt X'.tk σ) (attr_ok hb) hl) fun σ H Q q => i_mth hF e1 X'.wd.inj (fun σ H Q z => ?_) q
        obtain ⟨fr, ρ, S, m, s, q⟩ := z
        exact PX.now (d := []) (v := []) q s .nil
    | cons y ys =>
      have st : PySem.starEach (y :: ys) X.env = (false, PySem.eval y X.env) :: PySem.starEach ys X.env := by
        cases es with
        | nil => cases hc
        | cons e es => exact star_cons (chk_ns (ba hc).1)
      have sp : (PySem.backTo pos (PySem.starEach ys X.env)).any (·.1) = false := by
        cases es with
        | nil => cases hc
        | cons e es => exact stars_plain (ba hc).2
      exact imp_pe (Mo.pe_mS h1.v e2 e3 e5 (X'.room cm) e4 (fun σ => L2.passAt X'.tk σ) h (attr_ok hb) (form_ok hlen hc) hl st sp) fun σ H Q q => i_mth hF e1 X'.wd.inj (fun σ H Q z => z) q
theorem s_mk {g : Nat} {es : Exs} {xs : List Expr} {n : Str} {p : PySem.Pos} (X' : XC G F k c X W) (cm : c.calm = true) (hn : c.kn g = n) (hg : gloB c.sc n = true) (hp : plainName n = true) (hc : chkA c false es (x :: xs) = true) (h : PA X (x :: xs) (GA G F W false es)) :
    SE G F X W lo (.mk g es) (.Call (.Name n p) (x :: xs) [] pos) := by
  refine .plain (?_) (fun _ => rfl) (fun _ _ _ z => nomatch z)
  subst hn
  cases hF : F.mkr g with
  | none =>
    refine ⟨fun pins s σ H Q I h => ?_⟩
    obtain ⟨fr, ρ, S, m, s, q⟩ := h
    simp only [ev, hF] at q
    exact q.elim
  | some t =>
    obtain ⟨C, gf, dfl⟩ := t
    obtain ⟨e0, j, f, fd, ps, dvs, dus, ej, e1, e2, e3, e4, e5⟩ := X'.wd.mks g C gf dfl hF
    have st : PySem.starEach (x :: xs) X.env = (false, PySem.eval x X.env) :: PySem.starEach xs X.env := by
      cases es with
      | nil => cases hc
      | cons e es => exact star_cons (chk_ns (ba hc).1)
    have sp : (PySem.backTo pos (PySem.starEach xs X.env)).any (·.1) = false := by
      cases es with
      | nil => cases hc
      | cons e es => exact stars_plain (ba hc).2
    rw [← X'.K] at e1 e2 e5
    have hr := X'.room cm
    rw [← ej] at hr
    refine imp_pe (Mo.pe_kS e1 e5 hr (X'.gl hg) e0 e2 e3 (fun σ => L2.passAt X'.tk σ) h (plain_dbg hp).1 st sp) fun σ H Q ⟨fr, ρ, S, m, s, q⟩ => ?_
    simp only [ev, hF] at q
    refine ⟨fr, ρ, S, m, s, (PX.bind q).imp fun vs H1 ⟨ds, S1, m1, ex1, s1, r1, q1⟩ => fun a dx ha hd hne => ?_⟩
    have exm : Ext m1 H1 (m1 ++ [a]) (upd (upd H1 dx (.own a)) a (.ins (G.cls C) dx [])) := Ext.made ha hd
    have sr2 : SR G (m1 ++ [a]) (Av fr σ ρ) (S1 ++ [.ins C []]) (upd (upd H1 dx (.own a)) a (.ins (G.cls C) dx [])) := s1.sr.make (fun b z => s1.liveA z) ha hd hne
    have hobj : ∀ {H' : Hp} {A : Addr → Prop}, RV G.K (m1 ++ [a]) A H' (.ref a) (.obj S1.length) := fun {H' A} => .obj (by rw [← s1.sr.len, List.getElem?_append_right (Nat.le_refl _), Nat.sub_self]; rfl)
    refine ⟨.obj S1.length :: (ds ++ dfl), S1 ++ [.ins C []], m1 ++ [a], Av fr σ ρ, sr2, fun b z => exm.live b (s1.liveA z), .cons hobj ((r1.ext exm).append (e4 _ _ _)), ?_⟩
    cases hr2 : gf (.obj S1.length :: (ds ++ dfl)) (S1 ++ [.ins C []]) with
    | ok d4 S4 =>
      rw [hr2] at q1
      intro v4 H4 m4 ex sr4 r4
      cases d4 with
      | non =>
        refine ⟨r4.inv_non, ?_⟩
        have exx := exm.trans ex
        have q2 : Q (.ref a) H4 := q1 (.ref a) H4 m4 exx (s1.ext exx sr4) (hobj.ext ex)
        exact q2
      | _ => exact q1.elim
    | xc x4 S4 =>
      rw [hr2] at q1
      intro cl dd H4 m4 ex sr4 r4
      have exx := exm.trans ex
      exact q1 cl dd H4 m4 exx (s1.ext exx sr4) r4
    | no => rw [hr2] at q1; exact q1
theorem uq_map : ∀ (ys pre : List (List Nat)), uqN (pre.map fun s => (⟨s.toArray⟩ : Str)) (ys.map fun s => (⟨s.toArray⟩ : Str)) = uqN pre ys
  | [], _ => rfl
  | y :: ys, pre => by
    have e : ((pre.map fun s => (⟨s.toArray⟩ : Str)).any fun z => z == (⟨y.toArray⟩ : Str)) = pre.any (· == y) := by
      rw [List.any_map]
      congr 1
      funext z
      exact str_beq z y
    have ih := uq_map ys (pre ++ [y])
    rw [List.map_append] at ih
    show (if _ then 0 else 1) + uqN _ _ = (if _ then 0 else 1) + uqN _ _
    rw [e]
    exact congrArg _ ih
theorem s_lenSet {p q r : PySem.Pos} (X' : XC G F k c X W) (cm : c.calm = true) (hg : gloB c.sc ("len" : Str) = true) (hg2 : gloB c.sc ("set" : Str) = true) (hc : chkE c lo a y = true) (h1 : SE G F X W lo a y) :
    SE G F X W lo (.lenSet a) (.Call (.Name ("len" : Str) p) [.Call (.Name ("set" : Str) q) [y] [] r] [] pos) := by
  refine .plain (?_) (fun _ => rfl) (fun _ _ _ z => nomatch z)
  refine imp_pe (Su.pe_LS (X'.calm cm) (X'.gl hg) (X'.wd.free _ (by decide)) (X'.gl hg2) (X'.wd.free _ (by decide)) h1.v (star_cons (chk_ns hc))) fun σ H Q ⟨fr, ρ, S, m, s, q⟩ => ?_
  simp only [ev] at q
  refine ⟨fr, ρ, S, m, s, (PX.bind q).imp fun v H1 ⟨d1, S1, m1, e1, s1, r1, q1⟩ => ?_⟩
  cases h2 : seqLT d1 with
  | none => rw [show lenSetD d1 = none by simp [lenSetD, h2]] at q1; exact q1.elim
  | some xs =>
    obtain ⟨p1, vs, rfl, hs, rl⟩ := sq_of r1 h2
    cases h3 : strsD xs with
    | none => rw [show lenSetD d1 = none by simp [lenSetD, h2, h3]] at q1; exact q1.elim
    | some ys =>
      by_cases h4 : ys.length ≤ 1000
      · rw [show lenSetD d1 = some (.int (uqN [] ys : Nat)) by simp [lenSetD, h2, h3, h4]] at q1
        obtain ⟨k1, k2⟩ := rl.asStrs h3
        rw [X'.K]
        refine ⟨p1, ys.map fun s => ⟨s.toArray⟩, rfl, ?_, by simpa using h4, ?_⟩
        · rw [List.map_map]
          rw [k1] at hs
          exact hs
        · rw [show uqN [] (ys.map fun s => (⟨s.toArray⟩ : Str)) = uqN [] ys from uq_map ys []]
          exact PX.now q1 s1 (.int _)
      · rw [show lenSetD d1 = none by simp [lenSetD, h2, h3, h4]] at q1; exact q1.elim
theorem lt_of {K : PySem.W.Frag} {m : List Addr} {A : Addr → Prop} {H : Hp} {v : V} {d : D} {b : Bool} (r : RV K m A H v d) (h : isLTD d = some b) : ∃ u, L2.TyX K H v u ∧ PySem.W.kitAny K u [.type "list", .type "tuple"] = some b := by
  have any : ∀ {u : Value} {x y : Bool}, PySem.W.kitOne K u (.type "list") = some x → PySem.W.kitOne K u (.type "tuple") = some y → PySem.W.kitAny K u [.type "list", .type "tuple"] = some (x || y) := fun {u x y} h1 h2 => by
    unfold PySem.W.kitAny
    rw [h1]
    cases x with
    | true => rfl
    | false =>
      show PySem.W.kitAny K u [.type "tuple"] = some (false || y)
      unfold PySem.W.kitAny
      rw [h2]
      cases y <;> rfl
  cases r with
  | non => cases h; exact ⟨_, .base .non, any (x := false) (y := false) (L2.kit_ty (by decide +kernel)) (L2.kit_ty (by decide +kernel))⟩
  | bl b => cases h; exact ⟨_, .base (.bl b), any (x := false) (y := false) (L2.kit_ty (by decide +kernel)) (L2.kit_ty (by decide +kernel))⟩
  | int b => cases h; exact ⟨_, .base (.int b), any (x := false) (y := false) (L2.kit_ty (by decide +kernel)) (L2.kit_ty (by decide +kernel))⟩
  | str b _ => cases h; exact ⟨_, .base (.str b), any (x := false) (y := false) (L2.kit_ty (by decide +kernel)) (L2.kit_ty (by decide +kernel))⟩
  | lst e _ _ _ => cases h; exact ⟨_, .base (.lst e), any (x := true) (y := false) (L2.kit_ty (by decide +kernel)) (L2.kit_ty (by decide +kernel))⟩
  | tup e _ _ _ => cases h; exact ⟨_, e.ty, any (x := false) (y := true) (L2.kit_ty (by decide +kernel)) (L2.kit_ty (by decide +kernel))⟩
  | ktp e _ _ =>
    obtain ⟨o, _, _, e1, e2, _⟩ := e
    cases h
    exact ⟨_, .kTuple e1 e2, any (x := false) (y := true) (L2.kit_ty (by decide +kernel)) (L2.kit_ty (by decide +kernel))⟩
  | obj _ => cases h
  | scr _ => cases h
theorem s_isLT {p p2 p3 p4 : PySem.Pos} {j : Nat} (X' : XC G F k c X W) (hg : gloB c.sc ("isinstance" : Str) = true) (hg2 : gloB c.sc ("list" : Str) = true) (hg3 : gloB c.sc ("tuple" : Str) = true) (hc : chkE c lo a y = true) (h1 : SE G F X W lo a y) :
    SE G F X W lo (.isLT a) (.Call (.Name ("isinstance" : Str) p) [y, .Tuple [.Name ("list" : Str) p2, .Name ("tuple" : Str) p3] j p4] [] pos) := by
  refine .plain (?_) (fun _ => rfl) (fun _ _ _ z => nomatch z)
  have st : PySem.starEach [y, .Tuple [.Name ("list" : Str) p2, .Name ("tuple" : Str) p3] j p4] X.env = (false, PySem.eval y X.env) :: PySem.starEach [.Tuple [.Name ("list" : Str) p2, .Name ("tuple" : Str) p3] j p4] X.env := star_cons (chk_ns hc)
  have pl : PE X (.Name ("list" : Str) p2) (L2.tC (.ty "list")) := L2.pe_bltn (X'.gl hg2) (X'.wd.free _ (by decide)) (boot_ty .list) rfl (by decide) (by decide)
  have pt : PE X (.Name ("tuple" : Str) p3) (L2.tC (.ty "tuple")) := L2.pe_bltn (X'.gl hg3) (X'.wd.free _ (by decide)) (boot_ty .tuple) rfl (by decide) (by decide)
  have ptt : PE X (.Tuple [.Name ("list" : Str) p2, .Name ("tuple" : Str) p3] j p4) _ := L2.pe_tup (L2.pa_cons pl (L2.pa_cons pt L2.pa_nil))
  refine imp_pe (L2.pe_callB L2.call_isiT (X'.gl hg) (X'.wd.free _ (by decide)) (by decide +kernel) (L2.pa_cons h1.v (L2.pa_cons ptt L2.pa_nil) st) (by decide) (by decide) st rfl) fun σ H Q ⟨fr, ρ, S, m, s, q⟩ => ?_
  simp only [ev] at q
  refine ⟨fr, ρ, S, m, s, (PX.bind q).imp fun v H1 ⟨d1, S1, m1, e1, s1, r1, q1⟩ => ⟨by show 2 ≤ sizeLine; decide, fun tp htp => ?_⟩⟩
  cases hi : isLTD d1 with
  | none => rw [hi] at q1; exact q1.elim
  | some b =>
    rw [hi] at q1
    have r2 := r1.ext (Ext.new (m := m1) (o := .tup [.ty "list", .ty "tuple"]) htp)
    obtain ⟨u, tu, ku⟩ := lt_of r2 hi
    rw [X'.K]
    exact ⟨v, tp, [.ty "list", .ty "tuple"], u, [.type "list", .type "tuple"], b, rfl, upd_at, .cons (.ty _) (.cons (.ty _) .nil), tu, ku, q1 (.bl b) _ m1 (Ext.new htp) (s1.new htp) (.bl b)⟩
/-! ### == [] -/
theorem op_eqNil {K : PySem.W.Frag} (hK : X.K = K) (hu : X.A.units < PySem.cLine) : OpR X (PySem.compareOp .Eq) (fun x y H Q => ∃ a b xs, x = V.ref a ∧ y = V.ref b ∧ SqL K H a xs ∧ SqL K H b [] ∧ Q (.bl xs.isEmpty) H) := by
  intro pins s σ H x y v u Q I rx ry h
  obtain ⟨a, b, xs, rfl, rfl, ha, hb, q⟩ := h
  subst hK
  obtain rfl : v = Value.ref a := rx
  obtain rfl : u = Value.ref b := ry
  obtain ⟨us, r1, p1, _⟩ := I.list ha
  obtain ⟨ws, r2, p2, _⟩ := I.list hb
  cases r2
  cases xs with
  | nil =>
    cases r1
    exact PySem.SeqAt.eq_listAt (e := fun _ => true) p1.isList p2.isList rfl hu (fun j h1 => absurd h1 (by simp)) ⟨.bl true, H, I, rfl, q⟩
  | cons x xs =>
    cases r1 with
    | cons r t => exact PySem.SeqAt.eq_list_lengthsAt p1.isList p2.isList (by simp) hu ⟨.bl false, H, I, rfl, q⟩
theorem s_eqN {p : PySem.Pos} (X' : XC G F k c X W) (h1 : SE G F X W lo a x) : SE G F X W lo (.eqN a) (.Compare x [.Eq] [.List [] p] pos) := by
  have hu : X.A.units < PySem.cLine := by have := X'.un; omega
  have key : ∀ σ H Q, GE G F W lo (.eqN a) σ H Q → L2.tOp (fun x y H Q => ∃ a b xs, x = V.ref a ∧ y = V.ref b ∧ SqL G.K H a xs ∧ SqL G.K H b [] ∧ Q (.bl xs.isEmpty) H) (GE G F W lo a) (L2.tLst L2.tNil) σ H Q := fun σ H Q ⟨fr, ρ, S, m, s, q⟩ => by
    simp only [ev] at q
    refine ⟨fr, ρ, S, m, s, (PX.bind q).imp fun v H1 ⟨d1, S1, m1, e1, s1, r1, q1⟩ => ⟨Nat.zero_le _, fun pp hp => ?_⟩⟩
    cases d1 with
    | lst ds =>
      obtain ⟨p0, vs, rfl, g1, g2, g3, g4⟩ := r1.inv_lst
      have ex : Ext m1 H1 m1 (upd H1 pp (.lst [])) := Ext.new hp
      refine ⟨p0, pp, vs, rfl, rfl, sqL_of (ex.keep _ _ g2 g1), sqL_of upd_at, ?_⟩
      have e : vs.isEmpty = ds.isEmpty := by cases g4 <;> rfl
      rw [e]
      exact q1 (.bl ds.isEmpty) _ m1 ex (s1.new hp) (.bl _)
    | _ => exact q1.elim
  exact ⟨imp_pe (L2.pe_cmpR (op_eqNil X'.K hu) h1.v (L2.pe_lst L2.pa_nil) rfl) fun σ H Q q => key σ H Q q,
    imp_pt (L2.pt_cmpR (op_eqNil X'.K hu) h1.v (L2.pe_lst L2.pa_nil) rfl) fun σ H Q q => i_test (fun Q z => key σ H Q z) q, fun _ _ _ z => nomatch z⟩
/-! ### dicts -/
abbrev kS (s : List Nat) : Key := Sum.inr (⟨s.toArray⟩ : Str)
theorem kS_inj {s t : List Nat} (h : kS s = kS t) : s = t := by
  have h := Sum.inr.inj h
  have h2 : s.toArray = t.toArray := congrArg Str.cps h
  simpa using h2
theorem dic_at {m : List Addr} {A A' : Addr → Prop} {H : Hp} {S : Sto} {v : V} {d : D} {kvs : List (List Nat × D)} (s : SR G m A S H) (r : RV G.K m A' H v d) (hc : dicAt d S = some kvs) :
    ∃ n a ks, d = .obj n ∧ S[n]? = some (.dic kvs) ∧ v = .ref a ∧ m[n]? = some a ∧ H a = some (.dK ks) ∧ ks.map (·.1) = kvs.map (fun q => kS q.1) ∧ RL G.K m A H (ks.map (·.2)) (kvs.map (·.2)) := by
  cases d with
  | obj n =>
    simp only [dicAt] at hc
    split at hc
    · rename_i kv hn
      cases hc
      obtain ⟨a, rfl, ha⟩ := r.inv_obj
      obtain ⟨ks, h1, h2, h3⟩ := s.at ha hn
      exact ⟨n, a, ks, rfl, hn, rfl, ha, h1, h2, h3⟩
    · cases hc
  | _ => cases hc
theorem val_at {m : List Addr} {A : Addr → Prop} {H : Hp} {t : List Nat} : ∀ {kvs : List (List Nat × D)} {ks : List (Key × V)} {d : D}, ks.map (·.1) = kvs.map (fun q => kS q.1) → RL G.K m A H (ks.map (·.2)) (kvs.map (·.2)) → kvs.lookup t = some d → ∃ v, L2.valV ks (kS t) = some v ∧ RV G.K m A H v d
  | [], _, _, _, _, h => by cases h
  | (i, x) :: fs, [], _, e, _, _ => by cases e
  | (i, x) :: fs, (n, v) :: fvs, d, e, r, h => by
    rw [List.map_cons, List.map_cons] at e
    obtain ⟨e1, e2⟩ := List.cons.inj e
    have e1 : n = kS i := e1
    cases r with
    | cons r1 r2 =>
      by_cases cc : t = i
      · subst cc
        rw [List.lookup_cons, beq_self_eq_true] at h
        cases h
        exact ⟨v, L2.valV_pos (p := (n, v)) e1, r1⟩
      · rw [List.lookup_cons, (beq_eq_false_iff_ne).mpr cc] at h
        obtain ⟨u, h1, h2⟩ := val_at (t := t) e2 r2 h
        refine ⟨u, ?_, h2⟩
        rw [L2.valV_neg (p := (n, v)) (fun z => cc (kS_inj ((e1.symm.trans z).symm)))]
        exact h1
theorem s_dget {i : Ex} (X' : XC G F k c X W) (hs : noSlc z = true) (h1 : SE G F X W false a y) (h2 : SE G F X W lo i z) : SE G F X W lo (.dget a i) (.Subscript y z pos) := by
  have ns : L2.NoSl z := by
    cases z <;> first | (intro ov iv; rfl) | cases hs
  refine .plain (imp_pe (L2.pe_dget (by have := X'.un; omega) h1.v h2.v ns) fun σ H Q ⟨fr, ρ, S, m, s, q⟩ => ?_) (fun _ => rfl) (fun _ _ _ z => nomatch z)
  simp only [ev] at q
  refine ⟨fr, ρ, S, m, s, (PX.bind q).imp fun v H1 ⟨d1, S1, m1, e1, s1, r1, q1⟩ => ⟨fr, ρ, S1, m1, s1, (PX.bind q1).imp fun u H2 ⟨d2, S2, m2, e2, s2, r2, q2⟩ => ?_⟩⟩
  cases d2 with
  | str t =>
    simp only [dgetAt] at q2
    cases hd : dicAt d1 S2 with
    | none => rw [hd] at q2; exact q2.elim
    | some kvs =>
      rw [hd] at q2
      simp only at q2
      obtain ⟨n, ad, ks, rfl, hn, rfl, ha, g1, g2, g3⟩ := dic_at s2.sr (r1.ext e2) hd
      obtain ⟨d3, l3, k3⟩ := PX.lifted q2 s2
      obtain ⟨v3, l4, l5⟩ := val_at g2 g3 l3
      obtain ⟨e3, o3⟩ := r2.inv_str
      refine ⟨ad, v3, rfl, ?_, k3 v3 H2 (Nw.same H2) (l5.less fun _ z => z.av)⟩
      rw [e3, ← l4]
      exact L2.DGet.k (k := kS t) g1
  | _ => exact q2.elim
/-- a new dict in the store -/
theorem SR.newD {m : List Addr} {A : Addr → Prop} {H H' : Hp} {S : Sto} {x : Addr} {kvs : List (List Nat × D)} {ks : List (Key × V)} (s : SR G m A S H) (hx : H x = none) (he : Ext m H (m ++ [x]) H') (hsame : ∀ b ∈ m, H' b = H b) (hat : H' x = some (.dK ks)) (hk : ks.map (·.1) = kvs.map (fun q => kS q.1)) (r : RL G.K m A H (ks.map (·.2)) (kvs.map (·.2))) :
    SR G (m ++ [x]) A (S ++ [.dic kvs]) H' := by
  have nx : x ∉ m := fun z => s.live z hx
  refine ⟨?_, by simp [s.len], fun i a c h h' => ?_⟩
  · rw [List.nodup_append]
    exact ⟨s.nd, by simp, fun a ha b hb => by rw [List.mem_singleton] at hb; rw [hb]; exact fun z => nx (z ▸ ha)⟩
  · by_cases hi : i < m.length
    · rw [List.getElem?_append_left hi] at h
      rw [List.getElem?_append_left (by rw [← s.len]; exact hi)] at h'
      have q := s.cell i a c h h'
      have same := hsame a (List.mem_of_getElem? h)
      cases c with
      | ins C' fs =>
        obtain ⟨dy, fvs, h1, h2, h3, h4, h5, r⟩ := q
        exact ⟨dy, fvs, same.trans h1, he.keep _ _ h3 h2, he.out h3 (is_some h2), h4, h5, r.ext he⟩
      | dic kvs =>
        obtain ⟨ks, h1, h5, r⟩ := q
        exact ⟨ks, same.trans h1, h5, r.ext he⟩
    · rw [List.getElem?_append_right (by omega)] at h
      rw [List.getElem?_append_right (by rw [← s.len]; omega)] at h'
      have e1 : i - m.length = 0 := by
        cases q : i - m.length with
        | zero => rfl
        | succ k => rw [q] at h; cases h
      rw [e1] at h
      rw [← s.len, e1] at h'
      cases h
      cases h'
      exact ⟨ks, hat, hk, r.ext he⟩
theorem Ext.mk1 {m : List Addr} {H : Hp} {x : Addr} {o : HO} (hx : H x = none) : Ext m H (m ++ [x]) (upd H x o) := by
  refine ⟨⟨[x], rfl, by simpa using hx⟩, fun a u _ e => ?_, fun a e => ?_⟩
  · rw [L2.upd_ne (L2.ne_of_none e hx)]; exact e
  · by_cases q : a = x
    · rw [q, upd_at]; exact fun z => nomatch z
    · rw [L2.upd_ne q]; exact e
/-- .. laid at once -/
theorem new_dic {fr : Fr} {σ : L2.St} {ρ : Env} {m1 : List Addr} {H1 : Hp} {S1 : Sto} {Q : VK} {kvs : List (List Nat × D)} {ks : List (Key × V)} (s1 : St G fr σ H1 ρ S1 m1) (hk : ks.map (·.1) = kvs.map (fun q => kS q.1)) (r : RL G.K m1 (Av fr σ ρ) H1 (ks.map (·.2)) (kvs.map (·.2)))
    (q1 : PX G fr σ ρ W (rv G (Bv lo fr σ ρ)) m1 H1 (.ok (.obj S1.length) (S1 ++ [.dic kvs])) Q) : ∀ p, H1 p = none → Q (.ref p) (upd H1 p (.dK ks)) := fun p hp => by
  have ex : Ext m1 H1 (m1 ++ [p]) (upd H1 p (.dK ks)) := Ext.mk1 hp
  refine q1 (.ref p) _ (m1 ++ [p]) ex (s1.ext ex (s1.sr.newD hp ex (fun b hb => L2.upd_ne fun z => s1.sr.live hb (by rw [z]; exact hp)) upd_at hk r)) (.obj ?_)
  rw [← s1.sr.len, List.getElem?_append_right (Nat.le_refl _), Nat.sub_self]
  rfl
theorem s_dcpy {p : PySem.Pos} (X' : XC G F k c X W) (hg : gloB c.sc ("dict" : Str) = true) (hc : chkE c false a y = true) (h1 : SE G F X W false a y) : SE G F X W lo (.dcpy a) (.Call (.Name ("dict" : Str) p) [y] [] pos) := by
  refine .plain (?_) (fun _ => rfl) (fun _ _ _ z => nomatch z)
  have st : PySem.starEach [y] X.env = (false, PySem.eval y X.env) :: PySem.starEach [] X.env := star_cons (chk_ns hc)
  refine imp_pe (L2.pe_callTy L2.call_dictD (X'.gl hg) (X'.wd.free _ (by decide)) (by decide +kernel) (L2.pa_cons h1.v L2.pa_nil st) (by decide) (by decide) st rfl) fun σ H Q ⟨fr, ρ, S, m, s, q⟩ => ?_
  simp only [ev] at q
  refine ⟨fr, ρ, S, m, s, (PX.bind q).imp fun v H1 ⟨d1, S1, m1, e1, s1, r1, q1⟩ => ?_⟩
  cases hd : dicAt d1 S1 with
  | none => rw [hd] at q1; exact q1.elim
  | some kvs =>
    rw [hd] at q1
    obtain ⟨n, ad, ks, rfl, hn, rfl, ha, g1, g2, g3⟩ := dic_at s1.sr r1 hd
    exact ⟨ad, ks, rfl, .inl g1, new_dic s1 g2 g3 q1⟩
theorem put_new {ks : List (Key × V)} {t : Key} {v : V} (h : t ∉ ks.map (·.1)) : L2.putK ks t v = ks ++ [(t, v)] := by
  unfold L2.putK
  rw [if_neg]
  intro z
  obtain ⟨q, hq, e⟩ := List.any_eq_true.mp z
  exact h (by rw [← of_decide_eq_true e]; exact List.mem_map_of_mem hq)
theorem merge_new : ∀ (more acc : List (Key × V)), ((acc ++ more).map (·.1)).Nodup → L2.mergeK acc more = acc ++ more
  | [], acc, _ => by simp [L2.mergeK]
  | (t, v) :: more, acc, h => by
    have h' : ((acc ++ [(t, v)] ++ more).map (·.1)).Nodup := by simpa using h
    have nt : t ∉ acc.map (·.1) := by
      rw [List.map_append, List.nodup_append] at h
      intro z
      exact h.2.2 t z t (by simp) rfl
    have ih := merge_new more (acc ++ [(t, v)]) h'
    unfold L2.mergeK at ih ⊢
    rw [List.foldl_cons, put_new nt, ih]
    simp
theorem kvs_rl {m : List Addr} {A : Addr → Prop} {H : Hp} : ∀ {ds : List D} {vs : List V} {kvs : List (List Nat × D)}, RL G.K m A H vs ds → kvsD ds = some kvs → ∃ (ps : List Addr) (ks : List (Key × V)), vs = ps.map V.ref ∧ PySem.Paired (fun p kv => SqT G.K H p [L2.kV kv.1, kv.2]) ps ks ∧ ks.map (·.1) = kvs.map (fun q => kS q.1) ∧ RL G.K m A H (ks.map (·.2)) (kvs.map (·.2)) := by
  intro ds
  induction ds with
  | nil => intro vs kvs r e; cases e; cases r; exact ⟨[], [], rfl, .nil, rfl, .nil⟩
  | cons d ds ih =>
    intro vs kvs r e
    unfold kvsD at e
    split at e
    · rename_i z; cases z
    · rename_i t x rest z
      cases z
      cases q : kvsD ds with
      | none => rw [q] at e; cases e
      | some qs =>
        rw [q] at e
        cases e
        cases r with
        | cons r1 r2 =>
          obtain ⟨ps, ks, h1, h2, h3, h4⟩ := ih r2 q
          obtain ⟨p, us, rfl, hs, rl⟩ := r1.inv_tup
          cases rl with
          | cons ra rb =>
            cases rb with
            | cons rb rc =>
              cases rc
              obtain ⟨e1, _⟩ := ra.inv_str
              rw [e1] at hs
              refine ⟨p :: ps, (kS t, _) :: ks, by rw [h1]; rfl, .cons hs h2, by rw [List.map_cons, List.map_cons, h3], .cons rb h4⟩
    · cases e
theorem s_dprs {p : PySem.Pos} (X' : XC G F k c X W) (cm : c.calm = true) (hg : gloB c.sc ("dict" : Str) = true) (hc : chkE c false a y = true) (h1 : SE G F X W false a y) : SE G F X W lo (.dprs a) (.Call (.Name ("dict" : Str) p) [y] [] pos) := by
  refine .plain (?_) (fun _ => rfl) (fun _ _ _ z => nomatch z)
  have st : PySem.starEach [y] X.env = (false, PySem.eval y X.env) :: PySem.starEach [] X.env := star_cons (chk_ns hc)
  refine imp_pe (L2.pe_callTy (L2.call_dictP (X'.calm cm)) (X'.gl hg) (X'.wd.free _ (by decide)) (by decide +kernel) (L2.pa_cons h1.v L2.pa_nil st) (by decide) (by decide) st rfl) fun σ H Q ⟨fr, ρ, S, m, s, q⟩ => ?_
  simp only [ev] at q
  refine ⟨fr, ρ, S, m, s, (PX.bind q).imp fun v H1 ⟨d1, S1, m1, e1, s1, r1, q1⟩ => ?_⟩
  cases d1 with
  | lst ds =>
    simp only at q1
    cases hd : kvsD ds with
    | none => rw [hd] at q1; exact q1.elim
    | some kvs =>
      rw [hd] at q1
      simp only at q1
      split at q1
      · rename_i hnd
        obtain ⟨p0, vs, rfl, g1, g2, g3, g4⟩ := r1.inv_lst
        obtain ⟨ps, ks, rfl, k2, k3, k4⟩ := kvs_rl g4 hd
        rw [X'.K]
        refine ⟨p0, ps, ks, rfl, sqL_of g1, k2, ?_⟩
        have nd : (([] ++ ks).map (fun q : Key × V => q.1)).Nodup := by
          rw [List.nil_append, k3]
          have e : kvs.map (fun q => kS q.1) = (kvs.map (fun q => q.1)).map kS := by rw [List.map_map]; rfl
          rw [e]
          exact List.Pairwise.map _ (fun a b hab z => hab (kS_inj z)) hnd
        rw [merge_new ks [] nd, List.nil_append]
        exact new_dic s1 k3 (k4.less fun _ z => z) q1
      · exact q1.elim
  | _ => exact q1.elim
/-! ### {..} -/
mutual
theorem RV.tame {K : PySem.W.Frag} {m : List Addr} {A : Addr → Prop} {H : Hp} {p : Addr} {ks : List (Key × V)} {o : HO} (hp : H p = some (.dK ks)) : ∀ {v : V} {d : D}, RV K m A H v d → RV K (m ++ [p]) A (upd H p o) v d
  | _, _, .non => .non
  | _, _, .bl b => .bl b
  | _, _, .int i => .int i
  | _, _, .str x h => .str x h
  | _, _, .lst (p := q) h hm ha r => by
    have hne : q ≠ p := fun z => by rw [z, hp] at h; cases h
    exact .lst (by rw [L2.upd_ne hne]; exact h) (by simpa using ⟨hm, hne⟩) ha (RL.tame hp r)
  | _, _, .tup (p := q) h hm ha r => by
    have hne : q ≠ p := fun z => h.at fun o hq => by
      rw [z, hp] at hq
      cases hq
      rcases h with ⟨h, _⟩ | ⟨o, h, _⟩ <;> (rw [z, hp] at h; cases h)
    exact .tup (h.same fun o hq => by rw [L2.upd_ne hne]; exact hq) (by simpa using ⟨hm, hne⟩) ha (RL.tame hp r)
  | _, _, .ktp h b r => .ktp h b (RL.tame hp r)
  | _, _, .obj h => .obj (by rw [List.getElem?_append_left (List.getElem?_eq_some_iff.mp h).1]; exact h)
  | _, _, .scr (p := q) h => .scr (h.elim (fun ⟨h, hm, ha⟩ => by
      have hne : q ≠ p := fun z => by
        rcases h with h | ⟨u, h⟩ <;> (rw [z, hp] at h; cases h)
      refine .inl ⟨?_, by simpa using ⟨hm, hne⟩, ha⟩
      rcases h with h | ⟨u, h⟩
      · exact .inl (by rw [L2.upd_ne hne]; exact h)
      · exact .inr ⟨u, by rw [L2.upd_ne hne]; exact h⟩) .inr)
theorem RL.tame {K : PySem.W.Frag} {m : List Addr} {A : Addr → Prop} {H : Hp} {p : Addr} {ks : List (Key × V)} {o : HO} (hp : H p = some (.dK ks)) : ∀ {vs : List V} {ds : List D}, RL K m A H vs ds → RL K (m ++ [p]) A (upd H p o) vs ds
  | _, _, .nil => .nil
  | _, _, .cons r t => .cons (RV.tame hp r) (RL.tame hp t)
end
theorem SR.tame {m : List Addr} {A : Addr → Prop} {H : Hp} {S : Sto} {p : Addr} {k0 ks : List (Key × V)} {kvs : List (List Nat × D)} (s : SR G m A S H) (hp : H p = some (.dK k0)) (hm : p ∉ m) (hk : ks.map (·.1) = kvs.map (fun q => kS q.1)) (r : RL G.K m A H (ks.map (·.2)) (kvs.map (·.2))) :
    SR G (m ++ [p]) A (S ++ [.dic kvs]) (upd H p (.dK ks)) := by
  refine ⟨?_, by simp [s.len], fun i a c h h' => ?_⟩
  · rw [List.nodup_append]
    exact ⟨s.nd, by simp, fun a ha b hb => by rw [List.mem_singleton] at hb; rw [hb]; exact fun z => hm (z ▸ ha)⟩
  · by_cases hi : i < m.length
    · rw [List.getElem?_append_left hi] at h
      rw [List.getElem?_append_left (by rw [← s.len]; exact hi)] at h'
      have q := s.cell i a c h h'
      have hne : a ≠ p := fun z => hm (z ▸ List.mem_of_getElem? h)
      cases c with
      | ins C' fs =>
        obtain ⟨dy, fvs, h1, h2, h3, h4, h5, r⟩ := q
        have hd : dy ≠ p := fun z => by rw [z, hp] at h2; cases h2
        exact ⟨dy, fvs, by rw [L2.upd_ne hne]; exact h1, by rw [L2.upd_ne hd]; exact h2, by simpa using ⟨h3, hd⟩, h4, h5, r.tame hp⟩
      | dic kvs =>
        obtain ⟨ks, h1, h5, r⟩ := q
        exact ⟨ks, by rw [L2.upd_ne hne]; exact h1, h5, r.tame hp⟩
    · rw [List.getElem?_append_right (by omega)] at h
      rw [List.getElem?_append_right (by rw [← s.len]; omega)] at h'
      have e1 : i - m.length = 0 := by
        cases q : i - m.length with
        | zero => rfl
        | succ k => rw [q] at h; cases h
      rw [e1] at h
      rw [← s.len, e1] at h'
      cases h
      cases h'
      exact ⟨ks, upd_at, hk, r.tame hp⟩
def trsOf (G : Gx) (F : Fns) (W : WX) : List (List Nat) → Exs → List (TE × TE)
  | k :: ks, .cons e es => (L2.tC (.str ⟨k.toArray⟩), GE G F W false e) :: trsOf G F W ks es
  | _, _ => []
theorem vKeys_cons {x : Option Expr} {r : List (Option Expr)} {t : List (List Nat)} (h : vKeys (x :: r) = some t) : ∃ a b, t = a :: b ∧ vKey x = some a ∧ vKeys r = some b := by
  unfold vKeys at h
  split at h
  · rename_i a b h1 h2
    cases h
    exact ⟨a, b, rfl, h1, h2⟩
  · cases h
theorem vKeys_all : ∀ {kx : List (Option Expr)} {ks : List (List Nat)}, vKeys kx = some ks → kx.all (·.isSome) = true ∧ kx.length = ks.length
  | [], _, h => by cases h; exact ⟨rfl, rfl⟩
  | x :: r, ks, h => by
    obtain ⟨a, b, rfl, h1, h2⟩ := vKeys_cons h
    obtain ⟨j, p, rfl⟩ := vKey_eq h1
    obtain ⟨h3, h4⟩ := vKeys_all h2
    exact ⟨by rw [List.all_cons, h3]; rfl, by rw [List.length_cons, List.length_cons, h4]⟩
def exsLen : Exs → Nat
  | .nil => 0
  | .cons _ es => exsLen es + 1
theorem chkA_len {c : CC} {lo : Bool} : ∀ {es : Exs} {xs : List Expr}, chkA c lo es xs = true → exsLen es = xs.length
  | .nil, [], _ => rfl
  | .cons e es, x :: xs, h => congrArg Nat.succ (chkA_len (ba h).2)
  | .nil, _ :: _, h => by cases h
  | .cons _ _, [], h => by cases h
theorem pairs_read {fr : Fr} {σ : L2.St} {ρ : Env} : ∀ (es : Exs) (ks : List (List Nat)) {m : List Addr} {H : Hp} {S : Sto} {R : List V → Hp → Prop} {R' : List (V × V) → Hp → Prop}, ks.length = exsLen es → St G fr σ H ρ S m → PX G fr σ ρ W (rl G (Av fr σ ρ)) m H (evs F es ρ S) R →
    (∀ vs H2, R vs H2 → R' ((ks.zip vs).map (fun q : List Nat × V => (V.str ⟨q.1.toArray⟩, q.2))) H2) → L2.tPairs (trsOf G F W ks es) σ H R'
  | .nil, ks, m, H, S, R, R', hl, s, q, hR => by
    have e : ks = [] := List.eq_nil_of_length_eq_zero hl
    subst e
    simp only [evs] at q
    exact hR [] H (PX.now (d := []) (v := []) q s RL.nil)
  | .cons e es, [], m, H, S, R, R', hl, s, q, hR => by cases hl
  | .cons e es, kk :: ks, m, H, S, R, R', hl, s, q, hR => by
    simp only [evs] at q
    refine ⟨fr, ρ, S, m, s, (PX.bind q).imp fun v H1 ⟨d1, S1, m1, e1, s1, r1, q1⟩ => ?_⟩
    refine pairs_read es ks (Nat.succ.inj hl) s1 (PX.bind (rel := rl G (Av fr σ ρ)) q1) fun vs H2 ⟨d2, S2, m2, e3, s2, r2, q3⟩ => ?_
    exact hR (v :: vs) H2 (PX.now q3 s2 (.cons (r1.ext e3) r2))
theorem zip_kv {m : List Addr} {A : Addr → Prop} {H : Hp} : ∀ {ks : List (List Nat)} {vs : List V} {ds : List D}, ks.length = ds.length → RL G.K m A H vs ds →
    ((ks.zip vs).map fun q : List Nat × V => (kS q.1, q.2)).map (fun q : Key × V => q.1) = (ks.zip ds).map (fun q : List Nat × D => kS q.1) ∧ RL G.K m A H (((ks.zip vs).map fun q : List Nat × V => (kS q.1, q.2)).map (fun q : Key × V => q.2)) ((ks.zip ds).map (fun q : List Nat × D => q.2))
  | [], _, _, _, _ => ⟨rfl, .nil⟩
  | _ :: _, [], [], h, _ => by cases h
  | k :: ks, v :: vs, d :: ds, h, .cons r t => by
    obtain ⟨h1, h2⟩ := zip_kv (ks := ks) (Nat.succ.inj h) t
    exact ⟨by simp only [List.zip_cons_cons, List.map_cons] at h1 ⊢; rw [h1], .cons r h2⟩
theorem zip_keys : ∀ {ks : List (List Nat)} {vs : List V}, ks.length = vs.length → ((ks.zip vs).map fun q : List Nat × V => (kS q.1, q.2)).map (fun q : Key × V => q.1) = ks.map kS
  | [], [], _ => rfl
  | k :: ks, v :: vs, h => by
    have ih := zip_keys (ks := ks) (vs := vs) (Nat.succ.inj h)
    simp only [List.zip_cons_cons, List.map_cons] at ih ⊢
    rw [ih]
theorem s_dnew {ks : List (List Nat)} {es : Exs} {kx : List (Option Expr)} {vs : List Expr} (X' : XC G F k c X W) (hne : ks.isEmpty = false) (h15 : ks.length ≤ 15) (hl : kx.length = vs.length) (hk : vKeys kx = some ks) (hc : chkA c false es vs = true) (hP : L2.PPs X pos kx vs (trsOf G F W ks es)) :
    SE G F X W lo (.dnew ks es) (.Dict kx vs pos) := by
  refine .plain (?_) (fun _ => rfl) (fun _ _ _ z => nomatch z)
  obtain ⟨ka, kl⟩ := vKeys_all hk
  have hln : ks.length = exsLen es := by rw [chkA_len hc, ← hl, kl]
  refine imp_pe (L2.pe_disp hP ka hl (fun z => by rw [z] at kl; rw [List.eq_nil_of_length_eq_zero kl.symm] at hne; cases hne) (by rw [kl]; exact h15)) fun σ H Q ⟨fr, ρ, S, m, s, q⟩ => fun p hp => ?_
  simp only [ev] at q
  have ex0 : Ext m H m (upd H p (.dK [])) := Ext.new hp
  have s0 : St G fr σ (upd H p (.dK [])) ρ S m := s.new hp
  have hpm : p ∉ m := fun z => s.sr.live z hp
  -- the items, in the heap that holds the empty dict
  have q0 : PX G fr σ ρ W (rl G (Av fr σ ρ)) m (upd H p (.dK [])) (evs F es ρ S) fun vs2 H2 => ∃ ds S2 m2, Ext m (upd H p (.dK [])) m2 H2 ∧ St G fr σ H2 ρ S2 m2 ∧ RL G.K m2 (Av fr σ ρ) H2 vs2 ds ∧ PX G fr σ ρ W (rv G (Bv lo fr σ ρ)) m H (if ks.length = ds.length ∧ ks.Nodup ∧ ks.length ≤ 15 then .ok (.obj S2.length) (S2 ++ [.dic (ks.zip ds)]) else .no) Q := by
    cases hr : evs F es ρ S with
    | no => rw [hr] at q; exact q
    | xc x1 S1 =>
      rw [hr] at q
      exact fun cc dd H2 m2 e2 s2 r2 => q cc dd H2 m2 (ex0.trans e2) s2 r2
    | ok ds S1 =>
      rw [hr] at q
      exact fun vs2 H2 m2 e2 s2 r2 => ⟨ds, S1, m2, e2, s2, r2, q⟩
  refine pairs_read es ks hln s0 q0 fun vs2 H2 ⟨ds, S2, m2, e2, s2, r2, q2⟩ => ?_
  split at q2
  · rename_i hcond
    obtain ⟨hl2, hnd, _⟩ := hcond
    have hp2 : H2 p = some (.dK []) := e2.keep p _ hpm upd_at
    have hpm2 : p ∉ m2 := e2.out hpm (by rw [upd_at]; exact fun z => nomatch z)
    have hv : ks.length = vs2.length := by rw [hl2, r2.length]
    obtain ⟨z1, z2⟩ := zip_kv hl2 r2
    have nd : (([] ++ (ks.zip vs2).map fun q : List Nat × V => (kS q.1, q.2)).map (fun q : Key × V => q.1)).Nodup := by
      rw [List.nil_append, zip_keys hv]
      exact List.Pairwise.map _ (fun a b hab z => hab (kS_inj z)) hnd
    refine ⟨hp2, (ks.zip vs2).map (fun q => (kS q.1, q.2)), by rw [List.map_map]; rfl, by simp; omega, ?_⟩
    rw [merge_new _ [] nd, List.nil_append]
    have ex : Ext m H (m2 ++ [p]) (upd H2 p (.dK ((ks.zip vs2).map fun q => (kS q.1, q.2)))) := by
      obtain ⟨l, hl3, hl4⟩ := e2.pre
      refine ⟨⟨l ++ [p], by rw [hl3, List.append_assoc], fun a ha => ?_⟩, fun a o h1 h2 => ?_, fun a h1 => ?_⟩
      · rcases List.mem_append.mp ha with h | h
        · have := hl4 a h
          by_cases e : a = p
          · rw [e]; exact hp
          · rw [L2.upd_ne e] at this; exact this
        · rw [List.mem_singleton.mp h]; exact hp
      · have hne : a ≠ p := L2.ne_of_none h2 hp
        rw [L2.upd_ne hne]
        exact e2.keep a o h1 (by rw [L2.upd_ne hne]; exact h2)
      · by_cases e : a = p
        · rw [e, upd_at]; exact fun z => nomatch z
        · rw [L2.upd_ne e]
          exact e2.live a (by rw [L2.upd_ne e]; exact h1)
    refine q2 (.ref p) _ (m2 ++ [p]) ex (s.ext ex (s2.sr.tame hp2 hpm2 z1 z2)) (.obj ?_)
    rw [← s2.sr.len, List.getElem?_append_right (Nat.le_refl _), Nat.sub_self]
    rfl
  · exact q2.elim
end
end Mi
/-! Mini: all expressions. -/
namespace Mi
open PySem (Str Addr Value Expr Stmt Scope PyData sizeLine Const NameKind Operator CmpOp Comprehension)
open L2 (V Hp HO Key upd Rd SqL SqT Cx VK R2 OpR CallR MtR IxR SlR PE PT PW PA PI PG TE TT TA TI TG WX Takes Room)
mutual
theorem sndE {G : Gx} {F : Fns} {k : Nat} : ∀ (e : Ex) (c : CC) (lo : Bool) (X : Cx) (W : WX) (x : Expr), XC G F k c X W → chkE c lo e x = true → SE G F X W lo e x
  | .var i => fun c lo X W x X' h => match x, h with
    | .Name n p, h => .plain (s_var X' h) (fun _ => rfl) (fun _ _ _ z => nomatch z)
  | .own i => fun c lo X W x X' h => match x, h with
    | .Name n p, h => .plain (s_own X' h) (fun _ => rfl) (fun _ _ _ z => nomatch z)
  | .cst d => fun c lo X W x X' h => match x, h with
    | .Constant v j p, h => .plain (s_cst h) (fun _ => rfl) (fun _ _ _ z => nomatch z)
  | .glo i => fun c lo X W x X' h => match x, h with
    | .Name n p, h => .plain (s_glo X' h) (fun _ => rfl) (fun _ _ _ z => nomatch z)
  | .op o a b => fun c lo X W x X' h => match x, h with
    | .BinOp x o' y p, h => by
      obtain ⟨h1, h2⟩ := ba h
      obtain ⟨h2, h3⟩ := ba h2
      exact s_bin X' h1 (sndE a c lo X W x X' h2) (sndE b c lo X W y X' h3)
    | .Compare x [o'] [y] p, h => by
      obtain ⟨h1, h2⟩ := ba h
      obtain ⟨h2, h3⟩ := ba h2
      obtain ⟨h3, h4⟩ := ba h3
      exact s_cmp X' h1 (sndE a c lo X W x X' h2) (sndE b c lo X W y X' h3) h4
  | .chain o o' a b d => fun c lo X W x X' h => match x, h with
    | .Compare x [p, p'] [y, z] q, h => by
      obtain ⟨h1, h⟩ := ba h
      obtain ⟨h2, h⟩ := ba h
      obtain ⟨h3, h⟩ := ba h
      obtain ⟨h4, h⟩ := ba h
      obtain ⟨h5, h⟩ := ba h
      obtain ⟨h6, h7⟩ := ba h
      exact s_chain X' h1 h2 (sndE a c lo X W x X' h3) (sndE b c lo X W y X' h4) (sndE d c lo X W z X' h5) h6 h7
  | .neg a => fun c lo X W x X' h => match x, h with
    | .UnaryOp .USub x p, h => s_neg (sndE a c lo X W x X' h)
  | .nt a => fun c lo X W x X' h => match x, h with
    | .UnaryOp .Not x p, h => s_not (sndE a c lo X W x X' h)
  | .and a b => fun c lo X W x X' h => match x, h with
    | .BoolOp .And [x, y] p, h => by
      obtain ⟨h1, h2⟩ := ba h
      exact s_and2 (sndE a c lo X W x X' h1) (sndE b c lo X W y X' h2)
    | .BoolOp .And (x :: y :: z :: r) p, h => by
      obtain ⟨h1, h2⟩ := ba h
      exact s_and3 (sndE a c lo X W x X' h1) (sndE b c lo X W _ X' h2)
  | .or a b => fun c lo X W x X' h => match x, h with
    | .BoolOp .Or [x, y] p, h => by
      obtain ⟨h1, h2⟩ := ba h
      exact s_or2 (sndE a c lo X W x X' h1) (sndE b c lo X W y X' h2)
    | .BoolOp .Or (x :: y :: z :: r) p, h => by
      obtain ⟨h1, h2⟩ := ba h
      exact s_or3 (sndE a c lo X W x X' h1) (sndE b c lo X W _ X' h2)
  | .ite t a b => fun c lo X W x X' h => match x, h with
    | .IfExp z x y p, h => by
      obtain ⟨h1, h2⟩ := ba h
      obtain ⟨h2, h3⟩ := ba h2
      exact s_ite (sndE t c lo X W z X' h1) (sndE a c lo X W x X' h2) (sndE b c lo X W y X' h3)
  | .lst es => fun c lo X W x X' h => match x, h with
    | .List xs p, h => s_lst (sndA es c lo X W xs X' h)
  | .tup es => fun c lo X W x X' h => match x, h with
    | .Tuple xs j p, h => s_tup (sndA es c lo X W xs X' h)
  | .idx a i => fun c lo X W x X' h => match x, h with
    | .Subscript x y p, h => by
      obtain ⟨h1, h2⟩ := ba h
      exact s_idx X' h2 (sndE a c lo X W x X' h1) (sndE i c lo X W y X' h2)
  | .slc a none none => fun c lo X W x X' h => match x, h with
    | .Subscript x (.Slice none none none q) p, h => s_slc0 X' (sndE a c lo X W x X' h)
  | .slc a (some l) none => fun c lo X W x X' h => match x, h with
    | .Subscript x (.Slice (some y) none none q) p, h => by
      obtain ⟨h1, h2⟩ := ba h
      exact s_slcL X' (sndE a c lo X W x X' h1) (sndE l c lo X W y X' h2)
  | .slc a none (some l) => fun c lo X W x X' h => match x, h with
    | .Subscript x (.Slice none (some y) none q) p, h => by
      obtain ⟨h1, h2⟩ := ba h
      exact s_slcH X' (sndE a c lo X W x X' h1) (sndE l c lo X W y X' h2)
  | .slc a (some l) (some u) => fun c lo X W x X' h => match x, h with
    | .Subscript x (.Slice (some y) (some z) none q) p, h => by
      obtain ⟨h1, h2⟩ := ba h
      obtain ⟨h2, h3⟩ := ba h2
      exact s_slcLH X' (sndE a c lo X W x X' h1) (sndE l c lo X W y X' h2) (sndE u c lo X W z X' h3)
  | .rev a => fun c lo X W x X' h => match x, h with
    | .Subscript x (.Slice none none (some (.UnaryOp .USub (.Constant (.int 1) j p1) p2)) p3) p, h => s_rev X' (sndE a c lo X W x X' h)
  | .f1 f a => fun c lo X W x X' h => match x, h with
    | .Call (.Name x q) [y] [] p, h => by
      obtain ⟨cm, h⟩ := ba h
      obtain ⟨h1, h2⟩ := ba h
      obtain ⟨h2, h3⟩ := ba h2
      exact s_f1 X' cm (of_decide_eq_true h1) h2 h3 (sndE a c lo X W y X' h3)
  | .f2 f a b => fun c lo X W x X' h => match x, h with
    | .Call (.Name x q) [y, z] [] p, h => by
      obtain ⟨cm, h⟩ := ba h
      obtain ⟨h1, h2⟩ := ba h
      obtain ⟨h2, h3⟩ := ba h2
      obtain ⟨h3, h4⟩ := ba h3
      exact s_f2 X' cm (of_decide_eq_true h1) h2 h3 h4 (sndE a c lo X W y X' h3) (sndE b c lo X W z X' h4)
  | .meth f a b => fun c lo X W x X' h => match x, h with
    | .Call (.Attribute x n ap) [y] [] p, h => by
      obtain ⟨h1, h2⟩ := ba h
      obtain ⟨h2, h3⟩ := ba h2
      obtain ⟨h3, h4⟩ := ba h3
      obtain ⟨h4, h5⟩ := ba h4
      exact s_meth X' (of_decide_eq_true h1) h2 h3 h5 (sndE a c lo X W x X' h4) (sndE b c lo X W y X' h5)
  | .lmeth f a b => fun c lo X W x X' h => match x, h with
    | .Call (.Attribute x n ap) [y] [] p, h => by
      obtain ⟨h1, h2⟩ := ba h
      obtain ⟨h2, h3⟩ := ba h2
      obtain ⟨h3, h4⟩ := ba h3
      obtain ⟨h4, h5⟩ := ba h4
      exact s_lmeth X' (of_decide_eq_true h1) h2 h3 h5 (sndE a c lo X W x X' h4) (sndE b c lo X W y X' h5)
  | .nrng a b d => fun c lo X W x X' h => match x, h with
    | .Compare x [.NotIn] [.Call (.Name n q) [y, z] [] p2] p, h => by
      obtain ⟨h1, h2⟩ := ba h
      obtain ⟨h2, h3⟩ := ba h2
      obtain ⟨h3, h4⟩ := ba h3
      obtain ⟨h4, h5⟩ := ba h4
      have e1 := of_decide_eq_true h1
      subst e1
      exact s_nrng X' h2 h4 h5 (sndE a c lo X W x X' h3) (sndE b c lo X W y X' h4) (sndE d c lo X W z X' h5)
  | .lzip a b => fun c lo X W x X' h => match x, h with
    | .Call (.Name x q) [.Call (.Name n q2) [y, z] [] p2] [] p, h => by
      obtain ⟨cm, h⟩ := ba h
      obtain ⟨h1, h⟩ := ba h
      obtain ⟨h2, h⟩ := ba h
      obtain ⟨h3, h⟩ := ba h
      obtain ⟨h4, h⟩ := ba h
      obtain ⟨h5, h6⟩ := ba h
      have e1 := of_decide_eq_true h1
      have e2 := of_decide_eq_true h3
      subst e1 e2
      exact s_lzip X' cm h2 h4 h5 h6 (sndE a c lo X W y X' h5) (sndE b c lo X W z X' h6)
  | .isi a t => fun c lo X W x X' h => match x, h with
    | .Call (.Name x q) [y, .Name z q2] [] p, h => by
      obtain ⟨h1, h2⟩ := ba h
      obtain ⟨h2, h3⟩ := ba h2
      obtain ⟨h3, h4⟩ := ba h3
      obtain ⟨h4, h5⟩ := ba h4
      have e := of_decide_eq_true h1
      subst e
      exact s_isi X' h2 (of_decide_eq_true h3) h4 h5 (sndE a c lo X W y X' h5)
  | .isE i C => fun c lo X W x X' h => match x, h with
    | .Call (.Name x q) [.Name y q1, .Name z q2] [] p, h => by
      obtain ⟨cm, h⟩ := ba h
      obtain ⟨h1, h⟩ := ba h
      obtain ⟨h2, h⟩ := ba h
      obtain ⟨h3, h⟩ := ba h
      obtain ⟨h4, h⟩ := ba h
      obtain ⟨h5, h⟩ := ba h
      obtain ⟨h6, h⟩ := ba h
      obtain ⟨h7, h8⟩ := ba h
      have e := of_decide_eq_true h1
      subst e
      exact s_isE X' (by simpa using cm) h2 (of_decide_eq_true h3) h4 h5 (of_decide_eq_true h6) h7 h8
  | .call f es => fun c lo X W x X' h => match x, h with
    | .Call (.Name x q) (y :: ys) [] p, h => by
      obtain ⟨cm, h⟩ := ba h
      obtain ⟨h1, h2⟩ := ba h
      obtain ⟨h2, h3⟩ := ba h2
      obtain ⟨h3, h4⟩ := ba h3
      exact s_call X' cm (of_decide_eq_true h1) h2 h3 h4 (sndA es c false X W (y :: ys) X' h4)
  | .callO f es => fun c lo X W x X' h => match x, h with
    | .Call (.Name x q) (y :: ys) [] p, h => by
      obtain ⟨hl, h⟩ := ba h
      obtain ⟨cm, h⟩ := ba h
      obtain ⟨h1, h2⟩ := ba h
      obtain ⟨h2, h3⟩ := ba h2
      obtain ⟨h3, h4⟩ := ba h3
      subst hl
      exact s_callO X' cm (of_decide_eq_true h1) h2 h3 h4 (sndA es c true X W (y :: ys) X' h4)
  | .fld a f => fun c lo X W x X' h => match x, h with
    | .Attribute x n p, h => by
      obtain ⟨h1, h2⟩ := ba h
      obtain ⟨h2, h3⟩ := ba h2
      exact s_fld X' (of_decide_eq_true h1) h2 (sndE a c false X W x X' h3)
  | .mth a g es => fun c lo X W x X' h => match x, h with
    | .Call (.Attribute x n ap) ys [] p, h => by
      obtain ⟨cm, h⟩ := ba h
      obtain ⟨h1, h⟩ := ba h
      obtain ⟨h2, h⟩ := ba h
      obtain ⟨h3, h⟩ := ba h
      obtain ⟨h4, h⟩ := ba h
      obtain ⟨h5, h6⟩ := ba h
      exact s_mth X' cm (of_decide_eq_true h1) h2 h3 (of_decide_eq_true h4) (sndE a c false X W x X' h5) h6 (sndA es c false X W ys X' h6)
  | .mk g es => fun c lo X W x X' h => match x, h with
    | .Call (.Name x q) (y :: ys) [] p, h => by
      obtain ⟨cm, h⟩ := ba h
      obtain ⟨h1, h2⟩ := ba h
      obtain ⟨h2, h3⟩ := ba h2
      obtain ⟨h3, h4⟩ := ba h3
      exact s_mk X' cm (of_decide_eq_true h1) h2 h3 h4 (sndA es c false X W (y :: ys) X' h4)
  | .lenSet a => fun c lo X W x X' h => match x, h with
    | .Call (.Name x q) [.Call (.Name n q2) [y] [] p2] [] p, h => by
      obtain ⟨cm, h⟩ := ba h
      obtain ⟨h1, h⟩ := ba h
      obtain ⟨h2, h⟩ := ba h
      obtain ⟨h3, h⟩ := ba h
      obtain ⟨h4, h5⟩ := ba h
      have e1 := of_decide_eq_true h1
      have e2 := of_decide_eq_true h3
      subst e1 e2
      exact s_lenSet X' cm h2 h4 h5 (sndE a c lo X W y X' h5)
  | .eqN a => fun c lo X W x X' h => by
    simp only [chkE] at h
    split at h
    · rename_i y hv
      obtain ⟨p, q, rfl⟩ := vEqN_eq hv
      exact s_eqN X' (sndE a c lo X W y X' h)
    · cases h
  | .dnew ks es => fun c lo X W x X' h => by
    simp only [chkE] at h
    split at h
    · rename_i kx vs hv
      obtain ⟨p, rfl⟩ := vDict_eq hv
      obtain ⟨h1, h⟩ := ba h
      obtain ⟨h2, h⟩ := ba h
      obtain ⟨h3, h4⟩ := ba h
      obtain ⟨h2, h5⟩ := of_decide_eq_true h2
      exact s_dnew X' (by simpa using h1) h5 h2 (of_decide_eq_true h3) h4 (sndP es c X W ks kx vs p X' h2 (of_decide_eq_true h3) h4)
    · cases h
  | .dget a i => fun c lo X W x X' h => by
    simp only [chkE] at h
    split at h
    · rename_i y z hv
      obtain ⟨p, rfl⟩ := vSub_eq hv
      obtain ⟨h1, h⟩ := ba h
      obtain ⟨h2, h3⟩ := ba h
      exact s_dget X' h1 (sndE a c false X W y X' h2) (sndE i c lo X W z X' h3)
    · cases h
  | .dcpy a => fun c lo X W x X' h => by
    simp only [chkE] at h
    split at h
    · rename_i n y hv
      obtain ⟨p, q, rfl⟩ := vCall1_eq hv
      obtain ⟨h1, h⟩ := ba h
      obtain ⟨h2, h3⟩ := ba h
      have e1 := of_decide_eq_true h1
      subst e1
      exact s_dcpy X' h2 h3 (sndE a c false X W y X' h3)
    · cases h
  | .dprs a => fun c lo X W x X' h => by
    simp only [chkE] at h
    split at h
    · rename_i n y hv
      obtain ⟨p, q, rfl⟩ := vCall1_eq hv
      obtain ⟨cm, h⟩ := ba h
      obtain ⟨h1, h⟩ := ba h
      obtain ⟨h2, h3⟩ := ba h
      have e1 := of_decide_eq_true h1
      subst e1
      exact s_dprs X' cm h2 h3 (sndE a c false X W y X' h3)
    · cases h
  | .isLT a => fun c lo X W x X' h => match x, h with
    | .Call (.Name x q) [y, .Tuple [.Name l q2, .Name t q3] j q4] [] p, h => by
      obtain ⟨h1, h⟩ := ba h
      obtain ⟨h2, h⟩ := ba h
      obtain ⟨h3, h⟩ := ba h
      obtain ⟨h4, h⟩ := ba h
      obtain ⟨h5, h⟩ := ba h
      obtain ⟨h6, h7⟩ := ba h
      have e1 := of_decide_eq_true h1
      have e2 := of_decide_eq_true h3
      have e3 := of_decide_eq_true h5
      subst e1 e2 e3
      exact s_isLT X' h2 h4 h6 h7 (sndE a c lo X W y X' h7)
  | .comp e tg it vs => fun c lo X W x X' h => match x, h with
    | .ListComp y [⟨t, i, [], 0⟩] scope p, h => by
      obtain ⟨cm, h⟩ := ba h
      obtain ⟨h1, h2⟩ := ba h
      obtain ⟨h2, h3⟩ := ba h2
      obtain ⟨h3, h4⟩ := ba h3
      obtain ⟨h4, h5⟩ := ba h4
      exact s_comp X' cm (sndI it c lo X W t i X' h1) (chkI_set h1) h2 h3 h4 fun X1 X1' => sndE e _ false X1 W0 y X1' h5
  | .compIf e tg it z vs => fun c lo X W x X' h => match x, h with
    | .ListComp y [⟨t, i, [u], 0⟩] scope p, h => by
      obtain ⟨cm, h⟩ := ba h
      obtain ⟨h1, h2⟩ := ba h
      obtain ⟨h2, h3⟩ := ba h2
      obtain ⟨h3, h4⟩ := ba h3
      obtain ⟨h4, h5⟩ := ba h4
      obtain ⟨h5, h6⟩ := ba h5
      exact s_compIf X' cm (sndI it c lo X W t i X' h1) (chkI_set h1) h2 h3 h4 (fun X1 X1' => sndE e _ false X1 W0 y X1' h6) (fun X1 X1' => sndE z _ false X1 W0 u X1' h5)
theorem sndA {G : Gx} {F : Fns} {k : Nat} : ∀ (es : Exs) (c : CC) (lo : Bool) (X : Cx) (W : WX) (xs : List Expr), XC G F k c X W → chkA c lo es xs = true → PA X xs (GA G F W lo es)
  | .nil => fun c lo X W xs X' h => match xs, h with
    | [], h => s_nil
  | .cons e es => fun c lo X W xs X' h => match xs, h with
    | x :: xs, h => by
      obtain ⟨h1, h2⟩ := ba h
      exact s_cons h1 (sndE e c lo X W x X' h1) (sndA es c lo X W xs X' h2)
theorem sndP {G : Gx} {F : Fns} {k : Nat} : ∀ (es : Exs) (c : CC) (X : Cx) (W : WX) (ks : List (List Nat)) (kx : List (Option Expr)) (vs : List Expr) (pos : PySem.Pos), XC G F k c X W → kx.length = vs.length → vKeys kx = some ks → chkA c false es vs = true → L2.PPs X pos kx vs (trsOf G F W ks es)
  | .nil => fun c X W ks kx vs pos X' hl hk hc => by
    cases vs with
    | cons _ _ => cases hc
    | nil =>
      have e := List.eq_nil_of_length_eq_zero hl
      subst e
      cases hk
      exact L2.pps_nil
  | .cons e es => fun c X W ks kx vs pos X' hl hk hc => by
    cases vs with
    | nil => cases hc
    | cons v vs =>
      cases kx with
      | nil => cases hl
      | cons x kx =>
        obtain ⟨a, b, rfl, h1, h2⟩ := vKeys_cons hk
        obtain ⟨j, p, rfl⟩ := vKey_eq h1
        obtain ⟨c1, c2⟩ := ba hc
        exact L2.pps_cons L2.pe_str (sndE e c false X W v X' c1).v (sndP es c X W b kx vs pos X' (Nat.succ.inj hl) h2 c2)
theorem sndI {G : Gx} {F : Fns} {k : Nat} : ∀ (it : It) (c : CC) (lo : Bool) (X : Cx) (W : WX) (t x : Expr), XC G F k c X W → chkI c lo it t x = true → PI X t x (GI G F W it)
  | .seq e => fun c lo X W t x X' h => match x, h with
    | x, h => by
      obtain ⟨h1, h2⟩ := ba h
      exact i_seq X' (sndE e c false X W x X' h2)
  | .enm e => fun c lo X W t x X' h => match x, h with
    | .Call (.Name x q) [y] [] p, h => by
      obtain ⟨h1, h2⟩ := ba h
      obtain ⟨h2, h3⟩ := ba h2
      obtain ⟨h3, h4⟩ := ba h3
      have e1 := of_decide_eq_true h1
      subst e1
      exact i_enm X' h2 h3 h4 (sndE e c false X W y X' h4)
  | .zip a b => fun c lo X W t x X' h => match x, h with
    | .Call (.Name x q) [y, z] [] p, h => by
      obtain ⟨h1, h2⟩ := ba h
      obtain ⟨h2, h3⟩ := ba h2
      obtain ⟨h3, h4⟩ := ba h3
      obtain ⟨h4, h5⟩ := ba h4
      have e1 := of_decide_eq_true h1
      subst e1
      exact i_zip X' h2 h3 h4 h5 (sndE a c false X W y X' h4) (sndE b c false X W z X' h5)
  | .rng e => fun c lo X W t x X' h => match x, h with
    | .Call (.Name x q) [y] [] p, h => by
      obtain ⟨h1, h2⟩ := ba h
      obtain ⟨h2, h3⟩ := ba h2
      have e1 := of_decide_eq_true h1
      subst e1
      exact i_rng X' h2 h3 (sndE e c lo X W y X' h3)
  | .rng2 a b => fun c lo X W t x X' h => match x, h with
    | .Call (.Name x q) [y, z] [] p, h => by
      obtain ⟨h1, h2⟩ := ba h
      obtain ⟨h2, h3⟩ := ba h2
      obtain ⟨h3, h4⟩ := ba h3
      have e1 := of_decide_eq_true h1
      subst e1
      exact i_rng2 X' h2 h3 h4 (sndE a c lo X W y X' h3) (sndE b c lo X W z X' h4)
end
end Mi
/-! Mini: statements. -/
namespace Mi
open PySem (Str Addr Value Expr Stmt Scope PyData sizeLine Const NameKind Operator CmpOp Comprehension)
open L2 (V Hp HO Key upd Rd SqL SqT Cx VK R2 OpR CallR MtR IxR SlR PE PT PW PA PI PG PS PSs TE TT TA TI TG TS WX Takes Room Ends)
/-- what comes of a statement -/
def SX (G : Gx) (f : Fr) (W : WX) (Z : Ends) (r : R Ct) : Prop := match r with
  | .ok (.nx ρ) S => ∀ σ H m, St G f σ H ρ S m → Z.nx σ H
  | .ok (.rt d) S => ∀ v H m, Ext f.m0 f.H0 m H → SR G m f.A0 S H → RV G.K m f.A0 H v d → Z.rt v H
  | .ok (.rtF d) S => ∀ v H m, Ext f.m0 f.H0 m H → FrR G m f.A0 f.H0 H S v d → Z.rt v H
  | .ok (.br ρ) S => ∀ σ H m, St G f σ H ρ S m → Z.bk σ H
  | .ok (.xr x ρ) S => ∀ c dd σ H m, St G f σ H ρ S m → ExR G m (Av f σ ρ) H x c dd → W c dd σ H
  | _ => False
def GS (G : Gx) (W : WX) (run : Env → Sto → R Ct) : TS := fun Z σ H => ∃ f ρ S m, St G f σ H ρ S m ∧ SX G f W Z (run ρ S)
theorem imp_ps {X : Cx} {s : Stmt} {t t' : TS} (h : PS X s t) (hi : ∀ Z σ H, t' Z σ H → t Z σ H) : PS X s t' := ⟨fun pins s σ H D I q => h.run pins s σ H D I (hi D σ H q)⟩
theorem imp_pss {X : Cx} {s : List Stmt} {t t' : TS} (h : PSs X s t) (hi : ∀ Z σ H, t' Z σ H → t Z σ H) : PSs X s t' := ⟨fun pins s σ H D I q => h.run pins s σ H D I (hi D σ H q)⟩
section
variable {α β : Type} {G : Gx} {f : Fr} {σ : L2.St} {ρ : Env} {W : WX} {rel : List Addr → Hp → β → α → Prop} {m : List Addr} {H : Hp} {S : Sto} {r : R α} {Z : Ends}
/-- an expression, then the rest -/
theorem SX.px {kk : α → Sto → R Ct} (h : SX G f W Z (r.then ρ kk)) : PX G f σ ρ W rel m H r fun v H1 => ∃ d S1 m1, Ext m H m1 H1 ∧ St G f σ H1 ρ S1 m1 ∧ rel m1 H1 v d ∧ SX G f W Z (kk d S1) := by
  cases r with
  | ok d S1 => exact fun v H1 m1 e s r => ⟨d, S1, m1, e, s, r, h⟩
  | xc x S1 => exact fun c dd H1 m1 e s r => h c dd σ H1 m1 s r
  | no => exact h
end
/-! ### lists in the making -/
section
variable {G : Gx} {f : Fr} {σ : L2.St} {ρ : Env} {m : List Addr} {H : Hp} {S : Sto} {i : Nat} {ds : List D} {p : Addr} {vs : List V}
theorem set_len {α : Type} {l : List α} {i : Nat} {x : α} (h : ¬ i < l.length) : l.set i x = l := by
  rw [List.set_eq_of_length_le (by omega)]
/-- a new list, held by a slot alone -/
theorem St.newOwn (s : St G f σ H ρ S m) (hp : H p = none) : St G f (σ.set i (some (.ref p))) (upd H p (.lst [])) (ρ.set i (.own [])) S m := by
  by_cases hi : i < ρ.length
  · have hiσ : i < σ.length := by rw [s.len]; exact hi
    have ow : ∀ {a : Addr}, Own (σ.set i (some (.ref p))) (ρ.set i (.own [])) a → a = p ∨ Own σ ρ a := by
      rintro a ⟨j, es, h1, h2⟩
      by_cases e : i = j
      · subst e
        rw [List.getElem?_set_self hiσ] at h2
        cases h2
        exact .inl rfl
      · rw [List.getElem?_set_ne e] at h1 h2
        exact .inr ⟨j, es, h1, h2⟩
    have av : ∀ a, Av f (σ.set i (some (.ref p))) (ρ.set i (.own [])) a → Av f σ ρ a ∨ H a = none := fun a h => by
      rcases h with h | h
      · exact .inl (.inl h)
      · rcases ow h with h | h
        · exact .inr (by rw [h]; exact hp)
        · exact .inl (.inr h)
    have hpm : p ∉ m := fun z => s.sr.live z hp
    have hpA : ¬ f.A0 p := fun z => s.live p z hp
    have nown : ∀ {j : Nat} {es : List D}, ρ[j]? = some (Slot.own es) → σ[j]? ≠ some (some (V.ref p)) := fun {j es} h1 h2 => by
      obtain ⟨q, vs, e1, _, _, e4, _⟩ := s.own j es h1
      rw [h2] at e1
      cases e1
      rw [hp] at e4
      cases e4
    refine ⟨s.sr.grow (Ext.new hp) av (fun a ha => L2.upd_ne fun z => hpm (z ▸ ha)), fun j d h => ?_, fun j es h => ?_, fun j l es es' q h1 h2 h3 h4 => ?_, fun a o h => ?_, fun a h => (Ext.new (m := m) hp).live a (s.live a h), s.ent.trans (Ext.new hp), s.mpre, fun a h => ?_, by simpa using s.len, err_set (fun z => nomatch z) s.err⟩
    · have hj : i ≠ j := fun e => by
        subst e
        rw [List.getElem?_set_self hi] at h; cases h
      rw [List.getElem?_set_ne hj] at h
      obtain ⟨v, h1, h2⟩ := s.val j d h
      exact ⟨v, by rw [List.getElem?_set_ne hj]; exact h1, h2.mono (Ext.new hp) av⟩
    · by_cases hj : i = j
      · subst hj
        rw [List.getElem?_set_self hi] at h
        cases h
        exact ⟨p, [], by rw [List.getElem?_set_self hiσ], hpm, hpA, upd_at, .nil⟩
      · rw [List.getElem?_set_ne hj] at h
        obtain ⟨q, vs, h1, h2, h3, h4, h5⟩ := s.own j es h
        exact ⟨q, vs, by rw [List.getElem?_set_ne hj]; exact h1, h2, h3, (Ext.new hp).keep q _ h2 h4, h5.mono (Ext.new hp) av⟩
    · by_cases hj : i = j
      · by_cases hl : i = l
        · exact hj.symm.trans hl
        · exfalso
          subst hj
          rw [List.getElem?_set_self hiσ] at h3
          cases h3
          rw [List.getElem?_set_ne hl] at h2 h4
          exact nown h2 h4
      · by_cases hl : i = l
        · exfalso
          subst hl
          rw [List.getElem?_set_self hiσ] at h4
          cases h4
          rw [List.getElem?_set_ne hj] at h1 h3
          exact nown h1 h3
        · rw [List.getElem?_set_ne hj] at h1 h3
          rw [List.getElem?_set_ne hl] at h2 h4
          exact s.uniq j l es es' q h1 h2 h3 h4
    · obtain ⟨h1, h2, h3⟩ := s.prot a o h
      refine ⟨(Ext.new hp).keep a o h2 h1, h2, fun z => ?_⟩
      rcases ow z with z | z
      · rw [z, hp] at h1; cases h1
      · exact h3 z
    · rcases ow h with h | h
      · rw [h]; exact s.ent.back hp
      · exact s.fresh a h
  · rw [set_len hi, set_len (by rw [s.len]; exact hi)]
    exact s.new hp
/-- .. grows -/
theorem St.regrown (s : St G f σ H ρ S m) {us : List V} {zs : List D} (ho : ρ[i]? = some (Slot.own ds)) (hσ : σ[i]? = some (some (V.ref p))) (hH : H p = some (.lst vs)) (r' : RL G.K m (Av f σ ρ) H us zs) :
    St G f σ (upd H p (.lst us)) (ρ.set i (.own zs)) S m := by
  have hi : i < ρ.length := (List.getElem?_eq_some_iff.mp ho).1
  obtain ⟨q, vs', e1, hpm, hpA, e4, rl⟩ := s.own i ds ho
  rw [hσ] at e1
  cases e1
  rw [hH] at e4
  cases e4
  have op : Own σ ρ p := ⟨i, ds, ho, hσ⟩
  have ow : ∀ {a : Addr}, Own σ (ρ.set i (.own zs)) a ↔ Own σ ρ a := by
    intro a
    constructor
    · rintro ⟨j, es, h1, h2⟩
      by_cases e : i = j
      · subst e; exact ⟨i, ds, ho, h2⟩
      · rw [List.getElem?_set_ne e] at h1; exact ⟨j, es, h1, h2⟩
    · rintro ⟨j, es, h1, h2⟩
      by_cases e : i = j
      · subst e; exact ⟨i, _, List.getElem?_set_self hi, h2⟩
      · exact ⟨j, es, by rw [List.getElem?_set_ne e]; exact h1, h2⟩
  have av : ∀ a, Av f σ (ρ.set i (.own zs)) a → Av f σ ρ a := fun a h => h.imp (fun z => z) ow.mp
  have kp : Kp m (Av f σ ρ) H m (Av f σ (ρ.set i (.own zs))) (upd H p (.lst us)) := by
    obtain ⟨_, k⟩ := kp_poke (m := m) (H := H) (o := .lst (us)) (A := Av f σ ρ) (p := p) (.inr op)
    exact ⟨⟨[], by simp⟩, fun a o h1 h2 h3 => let ⟨a1, a2, a3⟩ := k a o h1 h2 h3; ⟨a1, a2, fun z => a3 (av a z)⟩⟩
  refine ⟨(s.sr.poke (.inr op) hpm).less av, fun j d' h => ?_, fun j es h => ?_, fun j l es es' q h1 h2 h3 h4 => ?_, fun a o h => ?_, fun a h => ?_, s.ent.poke (s.fresh p op), s.mpre, fun a h => s.fresh a (ow.mp h), by simpa using s.len, err_set' (fun z => nomatch z) s.err⟩
  · have hj : i ≠ j := fun e => by
      subst e
      rw [List.getElem?_set_self hi] at h; cases h
    rw [List.getElem?_set_ne hj] at h
    obtain ⟨u, h1, h2⟩ := s.val j d' h
    exact ⟨u, h1, h2.kept kp⟩
  · by_cases hj : i = j
    · subst hj
      rw [List.getElem?_set_self hi] at h
      cases h
      exact ⟨p, us, hσ, hpm, hpA, upd_at, r'.kept kp⟩
    · rw [List.getElem?_set_ne hj] at h
      obtain ⟨q, ws, h1, h2, h3, h4, h5⟩ := s.own j es h
      have hq : q ≠ p := fun z => hj (s.uniq i j ds es p ho h hσ (by rw [h1, z]))
      exact ⟨q, ws, h1, h2, h3, by rw [L2.upd_ne hq]; exact h4, h5.kept kp⟩
  · have g1 : ∃ e, ρ[j]? = some (Slot.own e) := by
      by_cases hj : i = j
      · subst hj; exact ⟨ds, ho⟩
      · rw [List.getElem?_set_ne hj] at h1; exact ⟨es, h1⟩
    have g2 : ∃ e, ρ[l]? = some (Slot.own e) := by
      by_cases hl : i = l
      · subst hl; exact ⟨ds, ho⟩
      · rw [List.getElem?_set_ne hl] at h2; exact ⟨es', h2⟩
    obtain ⟨a1, g1⟩ := g1
    obtain ⟨a2, g2⟩ := g2
    exact s.uniq j l a1 a2 q g1 g2 h3 h4
  · obtain ⟨h1, h2, h3⟩ := s.prot a o h
    refine ⟨?_, h2, fun z => h3 (ow.mp z)⟩
    rw [L2.upd_ne (a := p) (b := a) (by intro z; rw [z] at h3; exact h3 op)]
    exact h1
  · by_cases q : a = p
    · rw [q, upd_at]; exact fun z => nomatch z
    · rw [L2.upd_ne q]; exact s.live a h
theorem St.grown (s : St G f σ H ρ S m) {v : V} {d : D} (ho : ρ[i]? = some (Slot.own ds)) (hσ : σ[i]? = some (some (V.ref p))) (hH : H p = some (.lst vs)) (r : RV G.K m (Av f σ ρ) H v d) :
    St G f σ (upd H p (.lst (vs ++ [v]))) (ρ.set i (.own (ds ++ [d]))) S m := by
  obtain ⟨q, vs', e1, hpm, hpA, e4, rl⟩ := s.own i ds ho
  rw [hσ] at e1
  cases e1
  rw [hH] at e4
  cases e4
  exact s.regrown ho hσ hH (rl.append (.cons r .nil))
/-- a list of its own comes into a slot -/
theorem St.ownF {m1 : List Addr} {H1 : Hp} {S1 : Sto} {v : V} {d : D} (s : St G f σ H ρ S m) (e : Ext m H m1 H1) (fr : FrR G m1 (Av f σ ρ) H H1 S1 v d) : ∃ ds, d = .lst ds ∧ St G f (σ.set i (some v)) H1 (ρ.set i (.own ds)) S1 m1 := by
  have fsr := fr.sr
  obtain ⟨p, vs, ds, rfl, rfl, hH, hpm, hpA, hp, rl, sr⟩ := fr
  refine ⟨ds, rfl, ?_⟩
  have hnA : ¬ f.A0 p := fun z => hpA (.inl z)
  by_cases hi : i < ρ.length
  · have hiσ : i < σ.length := by rw [s.len]; exact hi
    have ow : ∀ {a : Addr}, Own (σ.set i (some (.ref p))) (ρ.set i (.own ds)) a → a = p ∨ Own σ ρ a := by
      rintro a ⟨j, es, h1, h2⟩
      by_cases e : i = j
      · subst e
        rw [List.getElem?_set_self hiσ] at h2
        cases h2
        exact .inl rfl
      · rw [List.getElem?_set_ne e] at h1 h2
        exact .inr ⟨j, es, h1, h2⟩
    have av0 : ∀ a, Av f (σ.set i (some (.ref p))) (ρ.set i (.own ds)) a → Av f σ ρ a ∨ a = p := fun a h => by
      rcases h with h | h
      · exact .inl (.inl h)
      · rcases ow h with h | h
        · exact .inr h
        · exact .inl (.inr h)
    have av : ∀ a, Av f (σ.set i (some (.ref p))) (ρ.set i (.own ds)) a → Av f σ ρ a ∨ H a = none := fun a h => (av0 a h).imp (fun z => z) fun z => by rw [z]; exact hp
    have nown : ∀ {j : Nat} {es : List D}, ρ[j]? = some (Slot.own es) → σ[j]? ≠ some (some (V.ref p)) := fun {j es} h1 h2 => by
      obtain ⟨q, vs, e1, _, _, e4, _⟩ := s.own j es h1
      rw [h2] at e1
      cases e1
      rw [hp] at e4
      cases e4
    refine ⟨sr.less av0, fun j d h => ?_, fun j es h => ?_, fun j l es es' q h1 h2 h3 h4 => ?_, fun a o h => ?_, fun a h => e.live a (s.live a h), s.ent.trans e, ?_, fun a h => ?_, by simpa using s.len, err_set (fun z => nomatch z) s.err⟩
    · have hj : i ≠ j := fun e => by
        subst e
        rw [List.getElem?_set_self hi] at h; cases h
      rw [List.getElem?_set_ne hj] at h
      obtain ⟨v, h1, h2⟩ := s.val j d h
      exact ⟨v, by rw [List.getElem?_set_ne hj]; exact h1, h2.mono e av⟩
    · by_cases hj : i = j
      · subst hj
        rw [List.getElem?_set_self hi] at h
        cases h
        exact ⟨p, vs, by rw [List.getElem?_set_self hiσ], hpm, hnA, hH, rl.less av0⟩
      · rw [List.getElem?_set_ne hj] at h
        obtain ⟨q, vs, h1, h2, h3, h4, h5⟩ := s.own j es h
        exact ⟨q, vs, by rw [List.getElem?_set_ne hj]; exact h1, e.out h2 (is_some h4), h3, e.keep q _ h2 h4, h5.mono e av⟩
    · by_cases hj : i = j
      · by_cases hl : i = l
        · exact hj.symm.trans hl
        · exfalso
          subst hj
          rw [List.getElem?_set_self hiσ] at h3
          cases h3
          rw [List.getElem?_set_ne hl] at h2 h4
          exact nown h2 h4
      · by_cases hl : i = l
        · exfalso
          subst hl
          rw [List.getElem?_set_self hiσ] at h4
          cases h4
          rw [List.getElem?_set_ne hj] at h1 h3
          exact nown h1 h3
        · rw [List.getElem?_set_ne hj] at h1 h3
          rw [List.getElem?_set_ne hl] at h2 h4
          exact s.uniq j l es es' q h1 h2 h3 h4
    · obtain ⟨h1, h2, h3⟩ := s.prot a o h
      refine ⟨e.keep a o h2 h1, e.out h2 (is_some h1), fun z => ?_⟩
      rcases ow z with z | z
      · rw [z, hp] at h1; cases h1
      · exact h3 z
    · obtain ⟨l, hl, _⟩ := e.pre
      obtain ⟨l', hl'⟩ := s.mpre
      exact ⟨l' ++ l, by rw [hl, hl']; simp⟩
    · rcases ow h with h | h
      · rw [h]; exact s.ent.back hp
      · exact s.fresh a h
  · rw [set_len hi, set_len (by rw [s.len]; exact hi)]
    exact s.ext e fsr
/-- a new list that holds what is known -/
theorem St.laid {v : V} {d : D} (s : St G f σ H ρ S m) (hp : H p = none) (rl : RL G.K m (Av f σ ρ) H vs ds) : FrR G m (Av f σ ρ) H (upd H p (.lst vs)) S (.ref p) (.lst ds) := by
  have hpm : p ∉ m := fun z => s.sr.live z hp
  have hA : ∀ a, Av f σ ρ a ∨ a = p → Av f σ ρ a ∨ H a = none := fun a z => z.imp (fun z => z) fun z => by rw [z]; exact hp
  exact ⟨p, vs, ds, rfl, rfl, upd_at, hpm, fun z => s.liveA z hp, hp, rl.mono (Ext.new hp) hA, s.sr.grow (Ext.new hp) hA (fun a ha => L2.upd_ne fun z => hpm (z ▸ ha))⟩
/-- .. is let go -/
theorem St.freeze (s : St G f σ H ρ S m) (ho : ρ[i]? = some (Slot.own ds)) : St G f σ H (ρ.set i (.val (.lst ds))) S m := by
  have hi : i < ρ.length := (List.getElem?_eq_some_iff.mp ho).1
  obtain ⟨p, vs, hσ, hpm, hpA, hH, rl⟩ := s.own i ds ho
  have ow : ∀ {a : Addr}, Own σ (ρ.set i (.val (.lst ds))) a → Own σ ρ a ∧ a ≠ p := by
    rintro a ⟨j, es, h1, h2⟩
    by_cases e : i = j
    · subst e
      rw [List.getElem?_set_self hi] at h1; cases h1
    · rw [List.getElem?_set_ne e] at h1
      exact ⟨⟨j, es, h1, h2⟩, fun z => e (s.uniq i j ds es p ho h1 hσ (by rw [h2, z]))⟩
  have av : ∀ a, Av f σ (ρ.set i (.val (.lst ds))) a → Av f σ ρ a := fun a h => h.imp (fun z => z) fun z => (ow z).1
  refine ⟨s.sr.less av, fun j d' h => ?_, fun j es h => ?_, fun j l es es' q h1 h2 h3 h4 => ?_, fun a o h => ?_, s.live, s.ent, s.mpre, fun a h => s.fresh a (ow h).1, by simpa using s.len, err_set' (fun z => nomatch z) s.err⟩
  · by_cases hj : i = j
    · subst hj
      rw [List.getElem?_set_self hi] at h
      cases h
      exact ⟨.ref p, hσ, .lst hH hpm (fun z => z.elim hpA fun z => (ow z).2 rfl) (rl.less av)⟩
    · rw [List.getElem?_set_ne hj] at h
      obtain ⟨u, h1, h2⟩ := s.val j d' h
      exact ⟨u, h1, h2.less av⟩
  · have hj : i ≠ j := fun e => by
      subst e
      rw [List.getElem?_set_self hi] at h; cases h
    rw [List.getElem?_set_ne hj] at h
    obtain ⟨q, ws, h1, h2, h3, h4, h5⟩ := s.own j es h
    exact ⟨q, ws, h1, h2, h3, h4, h5.less av⟩
  · have n1 : i ≠ j := fun e => by
      subst e
      rw [List.getElem?_set_self hi] at h1; cases h1
    have n2 : i ≠ l := fun e => by
      subst e
      rw [List.getElem?_set_self hi] at h2; cases h2
    rw [List.getElem?_set_ne n1] at h1
    rw [List.getElem?_set_ne n2] at h2
    exact s.uniq j l es es' q h1 h2 h3 h4
  · obtain ⟨h1, h2, h3⟩ := s.prot a o h
    exact ⟨h1, h2, fun z => h3 (ow z).1⟩
end
def isStar : Expr → Bool
  | .Starred .. => true
  | _ => false
theorem noStar {a : Expr} (h : ∀ y p, a ≠ Expr.Starred y p) : isStar a = false := by
  cases a <;> first | rfl | exact absurd rfl (h _ _)
theorem swp_ok {env : PySem.Env} {x y : Str} {px py pt : PySem.Pos} {kt k2 pt2} {a b : Expr} (hk : env.blockKind = PySem.ScopeKind.function) (hx : env.kindOf x = some .local) (hy : env.kindOf y = some .local) (hl : (py.line == px.line) = true) (hne : x ≠ y)
    (ha : ∀ y p, a ≠ Expr.Starred y p) (hb : ∀ y p, b ≠ Expr.Starred y p) (h1 : [a, b].all (PySem.foldedForSure 8) = false) (h2 : [a, b].all (PySem.constantsAlone 8) = false) :
    PySem.swappedStores [Expr.Tuple [.Name x px, .Name y py] kt pt] (Expr.Tuple [a, b] k2 pt2) env = pure (some [x, y]) := by
  have hl' : py.line = px.line := by simpa using hl
  have e1 : [a, b].any (fun | .Starred .. => true | _ => false) = false := by
    show (isStar a || (isStar b || false)) = false
    rw [noStar ha, noStar hb]; rfl
  have en : (x :: [y]).eraseDups = [x, y] := by
    rw [List.eraseDups_cons]
    have hyx : ¬ (y = x) := fun z => hne z.symm
    have : (List.filter (fun b => !b == x) [y]) = [y] := by
      rw [List.filter_cons_of_pos (by simp [hyx]), List.filter_nil]
    rw [this, List.eraseDups_cons]
    simp
  unfold PySem.swappedStores
  simp only [List.length_cons, List.length_nil, Nat.zero_add, Nat.reduceAdd, hk, e1, h1, h2, List.head?_cons, Option.map_some, Option.getD_some, List.filterMap_cons, List.filterMap_nil, hx, hy, Expr.pos, hl']
  have hb1 : (some NameKind.local == some NameKind.local && px.line == px.line) = true := by simp
  rw [if_neg (by decide)]
  refine (if_neg ?_).trans ?_
  · intro z
    exact Bool.noConfusion (e1.symm.trans z)
  simp only [hb1, if_true]
  rw [if_neg (by rw [en]; simp), if_neg (by decide), if_neg (by decide)]
/-- the context of statements -/
structure XS (G : Gx) (F : Fns) (k : Nat) (c : CC) (X : Cx) (W : WX) : Prop where
  xc : XC G F k c X W
  po : PySem.PassesOwn (PySem.model X.prog X.w) X.A X.env X.xe
  stk : X.stack = X.env :: X.outer
  frm : X.env.frame = some X.env.locals
section
variable {G : Gx} {F : Fns} {k : Nat} {c : CC} {X : Cx} {W : WX} {e : Ex} {x t : Expr} {pos : PySem.Pos}
theorem comp_swaps {tg : Option Expr} {l : Nat} {env : PySem.Env} (h : isComp x = false) : PySem.swapsWith x tg l env = pure false := by
  cases x <;> first | rfl | cases h
theorem i_asg {tg : Tg} {Z : Ends} {σ : L2.St} {H : Hp} (h : GS G W (fun ρ S => ex F (.asg tg e) ρ S) Z σ H) : L2.tAsg (GE G F W false e) (GTg G tg) Z σ H := by
  obtain ⟨f, ρ, S, m, s, q⟩ := h
  simp only [ex] at q
  refine ⟨f, ρ, S, m, s, (SX.px q).imp fun v H1 ⟨d, S1, m1, e1, s1, r1, q1⟩ => ?_⟩
  cases hb : bindT tg d ρ with
  | none => rw [hb] at q1; exact q1.elim
  | some ρ' =>
    rw [hb] at q1
    exact ⟨f, ρ, S1, m1, d, ρ', s1, r1, hb, fun σ' s' _ _ => q1 σ' H1 m1 s'⟩
theorem ps_asgG {tg : Tg} (X' : XS G F k c X W) (h1 : chkT c tg t = true) (h2 : SE G F X W false e x) (hs : PySem.swapsWithSole [t] x pos.line X.env = pure false) (hw : PySem.swappedStores [t] x X.env = pure none) : PS X (.Assign [t] x pos) (GS G W fun ρ S => ex F (.asg tg e) ρ S) :=
  imp_ps (L2.ps_asg h2.v (g_tg X'.xc tg t h1) hs hw (by rw [asg_cons h1]; rfl)) fun _ _ _ q => i_asg q
theorem i_if {a b : Env → Sto → R Ct} {Z : Ends} {σ : L2.St} {H : Hp} (h : GS G W (fun ρ S => ((ev F e ρ S).bind asB).then ρ fun t S => if t = true then a ρ S else b ρ S) Z σ H) : L2.tIfS (GT G F W true e) (GS G W a) (GS G W b) Z σ H := by
  obtain ⟨f, ρ, S, m, s, q⟩ := h
  refine ⟨f, ρ, S, m, s, (SX.px (rel := rb) q).imp fun v H1 ⟨d, S1, m1, e1, s1, r1, q1⟩ => ?_⟩
  have r1 : v = d := r1
  subst r1
  cases v with
  | true => rw [if_pos rfl] at q1 ⊢; exact ⟨f, ρ, S1, m1, s1, q1⟩
  | false => rw [if_neg Bool.false_ne_true] at q1 ⊢; exact ⟨f, ρ, S1, m1, s1, q1⟩
theorem i_ret {Z : Ends} {σ : L2.St} {H : Hp} (h : GS G W (fun ρ S => ex F (.ret e) ρ S) Z σ H) : L2.tRet (GE G F W true e) Z σ H := by
  obtain ⟨f, ρ, S, m, s, q⟩ := h
  simp only [ex] at q
  exact ⟨f, ρ, S, m, s, (SX.px q).imp fun v H1 ⟨d, S1, m1, e1, s1, r1, q1⟩ => q1 v H1 m1 s1.ent (s1.sr.less fun a z => .inl z) r1⟩
theorem i_expr {Z : Ends} {σ : L2.St} {H : Hp} (h : GS G W (fun ρ S => ex F (.expr e) ρ S) Z σ H) : L2.tDrop (GE G F W true e) Z σ H := by
  obtain ⟨f, ρ, S, m, s, q⟩ := h
  simp only [ex] at q
  exact ⟨f, ρ, S, m, s, (SX.px (rel := rv G (Bv true f σ ρ)) q).imp fun v H1 ⟨d, S1, m1, e1, s1, r1, q1⟩ => q1 σ H1 m1 s1⟩
theorem i_next {a b : Env → Sto → R Ct} {Z : Ends} {σ : L2.St} {H : Hp} (h : GS G W (fun ρ S => (a ρ S).next b) Z σ H) : L2.tSeq (GS G W a) (GS G W b) Z σ H := by
  obtain ⟨f, ρ, S, m, s, q⟩ := h
  refine ⟨f, ρ, S, m, s, ?_⟩
  have q : SX G f W Z ((a ρ S).next b) := q
  cases hr : a ρ S with
  | no => rw [hr] at q; exact q
  | xc x S1 => rw [hr] at q; exact q
  | ok ct S1 =>
    rw [hr] at q
    cases ct with
    | nx ρ1 => exact fun σ1 H1 m1 s1 => ⟨f, ρ1, S1, m1, s1, q⟩
    | rt d => exact q
    | rtF d => exact q
    | br ρ1 => exact q
    | xr x ρ1 => exact q
/-! ### loops -/
theorem St.up {f : Fr} {σ : L2.St} {H : Hp} {ρ : Env} {S : Sto} {m : List Addr} (s : St G f σ H ρ S m) : St G { f with P := fun a o => H a = some o ∧ a ∉ m ∧ ¬ Own σ ρ a, mp := m } σ H ρ S m :=
  ⟨s.sr, s.val, s.own, s.uniq, fun _ _ h => h, s.live, s.ent, ⟨[], by simp⟩, s.fresh, s.len, s.err⟩
theorem St.down {f : Fr} {P : Addr → HO → Prop} {mp : List Addr} {σ : L2.St} {H : Hp} {ρ : Env} {S : Sto} {m : List Addr} (hP : ∀ a o, f.P a o → P a o) (hm : ∃ l, mp = f.mp ++ l) (s : St G { f with P := P, mp := mp } σ H ρ S m) : St G f σ H ρ S m := by
  refine ⟨s.sr, s.val, s.own, s.uniq, fun a o h => s.prot a o (hP a o h), s.live, s.ent, ?_, s.fresh, s.len, s.err⟩
  obtain ⟨l, rfl⟩ := hm
  obtain ⟨l', h⟩ := s.mpre
  exact ⟨l ++ l', by rw [h]; simp⟩
theorem i_each {tg : Tg} {it : It} {b : Env → Sto → R Ct} {Z : Ends} {σ : L2.St} {H : Hp} (h : GS G W (fun ρ S => (evIt F it ρ S).then ρ fun ds S => loop (fun d ρ S => bound (bindT tg d ρ) fun ρ => b ρ S) ds ρ S) Z σ H) :
    L2.tFor (GI G F W it) (GTg G tg) (GS G W b) Z σ H := by
  obtain ⟨f, ρ, S, m, s, q⟩ := h
  refine ⟨f, ρ, S, m, s, (SX.px q).imp fun J H1 ⟨ds, S1, m1, e1, s1, r1, q1⟩ => ?_⟩
  obtain ⟨B, Y, wk, hB, hY⟩ := r1
  let PL : Addr → HO → Prop := fun a o => H1 a = some o ∧ a ∉ m1 ∧ ¬ Own σ ρ a
  let fL : Fr := { f with P := PL, mp := m1 }
  have dn : ∀ {σ' : L2.St} {H' : Hp} {ρ' : Env} {S' : Sto} {m' : List Addr}, St G fL σ' H' ρ' S' m' → St G f σ' H' ρ' S' m' := fun s' => St.down (fun a o h => s1.prot a o h) s1.mpre s'
  refine L2.for_it wk (fun i σc Hc => ∃ ρc Sc mc, St G fL σc Hc ρc Sc mc ∧ SX G f W Z (loop (fun d ρ S => bound (bindT tg d ρ) fun ρ => b ρ S) (ds.drop i) ρc Sc)) ⟨ρ, S1, m1, s1.up, q1⟩ ?_ ?_ ?_
  · rintro i σc Hc _ ⟨ρc, Sc, mc, sc, _⟩ a o hb
    obtain ⟨k1, k2, k3⟩ := hB a o hb
    exact (sc.prot a o ⟨k1, k2, fun z => k3 (.inr z)⟩).1
  · rintro i x σc Hc Hc' hi ⟨ρc, Sc, mc, sc, qc⟩ hy
    have hd : ds.drop i = ds[i] :: ds.drop (i + 1) := List.drop_eq_getElem_cons hi
    rw [hd] at qc
    have kp : Kp m1 (Av f σ ρ) H1 mc (Av fL σc ρc) Hc := by
      obtain ⟨l, hl⟩ := sc.mpre
      refine ⟨⟨l, hl⟩, fun a o k1 k2 k3 => ?_⟩
      obtain ⟨a1, a2, a3⟩ := sc.prot a o ⟨k3, k1, fun z => k2 (.inr z)⟩
      exact ⟨a1, a2, fun z => z.elim (fun z => k2 (.inl z)) a3⟩
    have held : Held mc (Av fL σc ρc) Hc := ⟨fun a h => sc.liveA h, fun a h => sc.sr.live h⟩
    obtain ⟨nw, rx⟩ := hY i ds[i] (List.getElem?_eq_getElem hi) mc _ Hc x Hc' kp held hy
    have sc' : St G fL σc Hc' ρc Sc mc := by
      rcases nw with rfl | ⟨p, o', hp, rfl⟩
      · exact sc
      · exact sc.new hp
    simp only [loop] at qc
    cases hb : bindT tg ds[i] ρc with
    | none => rw [hb] at qc; exact qc.elim
    | some ρ1 =>
      rw [hb] at qc
      simp only [bound_some] at qc
      refine ⟨fL, ρc, Sc, mc, ds[i], ρ1, sc', rx, hb, fun σ2 s2 o2 _ => ⟨fL, ρ1, Sc, mc, s2, ?_⟩⟩
      cases hr : b ρ1 Sc with
      | no => rw [hr] at qc; exact qc
      | xc x S2 => rw [hr] at qc; exact qc
      | ok ct S2 =>
        rw [hr] at qc
        cases ct with
        | nx ρ2 => exact fun σ3 H3 m3 s3 => ⟨ρ2, S2, m3, s3, qc⟩
        | rt d => exact qc
        | rtF d => exact qc
        | br ρ2 => exact fun σ3 H3 m3 s3 => qc σ3 H3 m3 (dn s3)
        | xr x ρ2 => exact fun cl dd σ3 H3 m3 s3 r3 => qc cl dd σ3 H3 m3 (dn s3) r3
  · rintro σc Hc ⟨ρc, Sc, mc, sc, qc⟩
    rw [List.drop_length] at qc
    exact qc σc Hc mc (dn sc)
theorem i_whl {b : Env → Sto → R Ct} {Z : Ends} {σ : L2.St} {H : Hp} {n : Nat} (h : GS G W (fun ρ S => whileF (fun ρ S => (ev F e ρ S).bind asB) b n ρ S) Z σ H) : L2.tWhile (GT G F W true e) (GS G W b) Z σ H := by
  obtain ⟨f, ρ, S, m, s, q⟩ := h
  refine ⟨fun j σc Hc => ∃ ρc Sc mc, St G f σc Hc ρc Sc mc ∧ SX G f W Z (whileF (fun ρ S => (ev F e ρ S).bind asB) b j ρc Sc), ⟨n, ρ, S, m, s, q⟩, ?_⟩
  rintro j σc Hc ⟨ρc, Sc, mc, sc, qc⟩
  cases j with
  | zero => exact qc.elim
  | succ j =>
    simp only [whileF] at qc
    refine ⟨f, ρc, Sc, mc, sc, (SX.px (rel := rb) qc).imp fun v H1 ⟨d, S1, m1, e1, s1, r1, q1⟩ => ?_⟩
    have r1 : v = d := r1
    subst r1
    cases v with
    | false => rw [if_neg Bool.false_ne_true] at q1 ⊢; exact q1 σc H1 m1 s1
    | true =>
      rw [if_pos rfl] at q1 ⊢
      refine ⟨fun σ2 H2 => ∃ ρ2 S2 m2, St G f σ2 H2 ρ2 S2 m2 ∧ SX G f W Z (whileF (fun ρ S => (ev F e ρ S).bind asB) b j ρ2 S2), fun σ2 H2 h2 => ⟨j, Nat.lt_succ_self j, h2⟩, f, ρc, S1, m1, s1, ?_⟩
      cases hr : b ρc S1 with
      | no => rw [hr] at q1; exact q1
      | xc x S2 => rw [hr] at q1; exact q1
      | ok ct S2 =>
        rw [hr] at q1
        cases ct with
        | nx ρ2 => exact fun σ3 H3 m3 s3 => ⟨ρ2, S2, m3, s3, q1⟩
        | rt d => exact q1
        | rtF d => exact q1
        | br ρ2 => exact fun σ3 H3 m3 s3 => q1 σ3 H3 m3 s3
        | xr x ρ2 => exact fun cl dd σ3 H3 m3 s3 r3 => q1 cl dd σ3 H3 m3 s3 r3
/-! ### a list made, grown -/
theorem s_new {i : Nat} {n : Str} {p p2 : PySem.Pos} (X' : XS G F k c X W) (h1 : c.N[i]? = some n) (h2 : stoB c n = true) : PS X (.Assign [.Name n p] (.List [] p2) pos) (GS G W fun ρ S => ex F (.new i) ρ S) := by
  obtain ⟨l1, l2⟩ := X'.xc.loc h2
  refine imp_ps (L2.ps_set (i := i) (by rw [X'.xc.N]; exact X'.xc.nd) (by rw [X'.xc.N]; exact h1) l1 (L2.pe_lst L2.pa_nil) rfl l2) fun Z σ H ⟨f, ρ, S, m, s, q⟩ => ?_
  exact ⟨Nat.zero_le _, fun p hp => q _ _ m (s.newOwn hp)⟩
theorem s_app {i : Nat} {n : Str} {p1 ap cp : PySem.Pos} (X' : XS G F k c X W) (hl : (ap.endLine == cp.line) = true) (h1 : c.N[i]? = some n) (h2 : visB c.sc n = true) (h3 : plainName n = true) (hc : chkE c false e x = true) (h : SE G F X W false e x) :
    PS X (.Expr (.Call (.Attribute (.Name n p1) ("append" : Str) ap) [x] [] cp) pos) (GS G W fun ρ S => ex F (.app i e) ρ S) := by
  obtain ⟨d1, d2, _⟩ := plain_dbg h3
  have st : PySem.starEach [x] X.env = (false, PySem.eval x X.env) :: PySem.starEach [] X.env := star_cons (chk_ns hc)
  have few : ((PySem.backTo cp (PySem.starEach [x] X.env)).all (fun x => !x.1) && (PySem.backToKw cp (PySem.keywordEach [] X.env)).all (fun x => x.1.isSome)
      && decide (([x] : List Expr).length + ([] : List PySem.Keyword).length + (if ([] : List PySem.Keyword).isEmpty then 0 else 1) < 30)) = true := by
    rw [st]
    rfl
  refine imp_ps (L2.ps_expr (L2.pe_bm PySem.F.plainAttrs_list PySem.F.slot_list_append PySem.F.type_list_append L2.mt_append (L2.pe_var (i := i) (by rw [X'.xc.N]; exact h1) (X'.xc.vis h2) d1 d2) (a_one hc h) rfl few hl st rfl) rfl) fun Z σ H ⟨f, ρ, S, m, s, q⟩ => ?_
  simp only [ex] at q
  split at q
  · rename_i ds ho
    obtain ⟨p, vs, e1, e2, e3, e4, rl⟩ := s.own i ds ho
    refine ⟨_, e1, .inl ⟨rfl, vs, sqL_of e4⟩, f, ρ, S, m, s, ?_⟩
    have e1' : evs F (.cons e .nil) ρ S = (ev F e ρ S).bind fun x S => .ok [x] S := rfl
    rw [e1']
    cases hr : ev F e ρ S with
    | no => rw [hr] at q; exact q
    | xc x S1 => rw [hr] at q; exact fun cl dd H1 m1 ex1 s1 r1 => q cl dd σ H1 m1 s1 r1
    | ok d S1 =>
      rw [hr] at q
      intro v H1 m1 ex1 s1 r1
      simp only [R.then_ok] at q
      split at q
      · rename_i hlim
        cases r1 with
        | cons r1 r2 =>
          cases r2
          have hH1 : H1 p = some (.lst vs) := ex1.keep p _ e2 e4
          refine ⟨p, vs, _, rfl, rfl, hH1, ?_, q σ _ m1 (s1.grown ho e1 hH1 r1)⟩
          rw [rl.length]
          have := lim_size (Nat.le_of_lt hlim)
          have h2 : lim < sizeLine := by rw [PySem.sizeLine_eq]; decide
          omega
      · exact q.elim
  · exact q.elim
/-- name = list(value): a list of its own -/
theorem s_cpy {i : Nat} {n : Str} {p q r : PySem.Pos} (X' : XS G F k c X W) (hg : gloB c.sc ("list" : Str) = true) (h1 : c.N[i]? = some n) (h2 : stoB c n = true) (hc : chkE c false e x = true) (h : SE G F X W false e x) :
    PS X (.Assign [.Name n p] (.Call (.Name ("list" : Str) q) [x] [] r) pos) (GS G W fun ρ S => ex F (.cpy i e) ρ S) := by
  obtain ⟨l1, l2⟩ := X'.xc.loc h2
  have st : PySem.starEach [x] X.env = (false, PySem.eval x X.env) :: PySem.starEach [] X.env := star_cons (chk_ns hc)
  refine imp_ps (L2.ps_set (i := i) (by rw [X'.xc.N]; exact X'.xc.nd) (by rw [X'.xc.N]; exact h1) l1 (L2.pe_callTy L2.call_list_of (X'.xc.gl hg) (X'.xc.wd.free _ (by decide)) (by decide +kernel) (a_one hc h) (by decide) (by decide) st rfl) rfl l2) fun Z σ H ⟨f, ρ, S, m, s, q⟩ => ?_
  simp only [ex] at q
  refine ⟨f, ρ, S, m, s, ?_⟩
  have e1' : evs F (.cons e .nil) ρ S = (ev F e ρ S).bind fun x S => .ok [x] S := rfl
  rw [e1']
  cases hr : ev F e ρ S with
  | no => rw [hr] at q; exact q
  | xc x S1 => rw [hr] at q; exact fun cl dd H1 m1 ex1 s1 r1 => q cl dd σ H1 m1 s1 r1
  | ok d S1 =>
    rw [hr] at q
    intro v H1 m1 ex1 s1 r1
    simp only [R.then_ok] at q
    cases r1 with
    | cons r1 r2 =>
      cases r2
      rw [X'.xc.K]
      cases d with
      | lst ds =>
        obtain ⟨p, vs, rfl, k1, _, _, rl⟩ := r1.inv_lst
        refine ⟨p, vs, rfl, .inl (sqL_of k1), fun l hl => ?_⟩
        obtain ⟨es, e2, st⟩ := s1.ownF (i := i) (Ext.new hl) (s1.laid (v := .non) (d := .non) hl rl)
        cases e2
        exact q _ _ m1 st
      | tup ds =>
        obtain ⟨p, vs, rfl, k1, rl⟩ := r1.inv_tup
        refine ⟨p, vs, rfl, .inr k1, fun l hl => ?_⟩
        obtain ⟨es, e2, st⟩ := s1.ownF (i := i) (Ext.new hl) (s1.laid (v := .non) (d := .non) hl rl)
        cases e2
        exact q _ _ m1 st
      | _ => exact q.elim
/-- name = f(..): a list of its own -/
theorem s_thaw {i g : Nat} {es : Exs} {xs : List Expr} {n ff : Str} {p q r : PySem.Pos} (X' : XS G F k c X W) (cm : c.calm = true) (hn : c.fn g = ff) (hg : gloB c.sc ff = true) (hp : plainName ff = true) (h1 : c.N[i]? = some n) (h2 : stoB c n = true) (hc : chkA c false es (x :: xs) = true) (h : PA X (x :: xs) (GA G F W false es)) :
    PS X (.Assign [.Name n p] (.Call (.Name ff q) (x :: xs) [] r) pos) (GS G W fun ρ S => ex F (.thaw i g es) ρ S) := by
  subst hn
  obtain ⟨l1, l2⟩ := X'.xc.loc h2
  cases hF : F.fr g with
  | none =>
    refine ⟨fun pins s σ H D I h => ?_⟩
    obtain ⟨f, ρ, S, m, s, z⟩ := h
    simp only [ex, hF] at z
    exact z.elim
  | some gf =>
    obtain ⟨f, fd, ps, e1, e2, e3, e4⟩ := X'.xc.wd.frs g gf hF
    have st : PySem.starEach (x :: xs) X.env = (false, PySem.eval x X.env) :: PySem.starEach xs X.env := by
      cases es with
      | nil => cases hc
      | cons e es => exact star_cons (chk_ns (ba hc).1)
    have sp : (PySem.backTo r (PySem.starEach xs X.env)).any (·.1) = false := by
      cases es with
      | nil => cases hc
      | cons e es => exact stars_plain (ba hc).2
    rw [← X'.xc.K] at e2 e3 e4
    refine imp_ps (L2.ps_set (i := i) (by rw [X'.xc.N]; exact X'.xc.nd) (by rw [X'.xc.N]; exact h1) l1 (L2.pe_callS e4 (X'.xc.room cm) (X'.xc.gl hg) e1 e2 e3 (fun σ => L2.passAt X'.xc.tk σ) h (plain_dbg hp).1 st sp) rfl l2) fun Z σ H ⟨fr, ρ, S, m, s, q⟩ => ?_
    simp only [ex, hF] at q
    refine ⟨fr, ρ, S, m, s, ?_⟩
    cases hr : evs F es ρ S with
    | no => rw [hr] at q; exact q
    | xc x S1 => rw [hr] at q; exact fun cl dd H1 m1 ex1 s1 r1 => q cl dd σ H1 m1 s1 r1
    | ok ds S1 =>
      rw [hr] at q
      intro vs H1 m1 ex1 s1 r1
      simp only [R.bind_ok] at q
      refine ⟨ds, S1, m1, Av fr σ ρ, s1.sr, fun a h => s1.liveA h, r1, ?_⟩
      cases hr2 : gf ds S1 with
      | ok d2 S2 =>
        rw [hr2] at q
        intro v H2 m2 ex2 f2
        obtain ⟨es, rfl, st⟩ := s1.ownF (i := i) ex2 f2
        exact q _ _ m2 st
      | xc x2 S2 =>
        rw [hr2] at q
        intro cl dd H2 m2 ex2 sr2 r2
        exact q cl dd σ H2 m2 (s1.ext ex2 sr2) r2
      | no => rw [hr2] at q; exact q
/-- name[j] = value -/
theorem flat_any {K : PySem.W.Frag} {m m' : List Addr} {A A' : Addr → Prop} {H H' : Hp} {v : V} {d : D} (r : RV K m A H v d) (h : flat d = true) : RV K m' A' H' v d := by
  cases r with
  | non => exact .non
  | bl b => exact .bl b
  | int b => exact .int b
  | str x ok => exact .str x ok
  | _ => cases h
theorem s_put {i : Nat} {j : Ex} {n : Str} {y : Expr} {p q : PySem.Pos} (X' : XS G F k c X W) (h1 : c.N[i]? = some n) (h2 : visB c.sc n = true) (h3 : plainName n = true) (hy : noSlc y = true) (hx : isComp x = false) (hj : SE G F X W true j y) (he : SE G F X W true e x) :
    PS X (.Assign [.Subscript (.Name n p) y q] x pos) (GS G W fun ρ S => ex F (.put i j e) ρ S) := by
  obtain ⟨d1, d2, _⟩ := plain_dbg h3
  refine imp_ps (L2.ps_asg he.v (L2.pg_sub (L2.pe_var (i := i) (by rw [X'.xc.N]; exact h1) (X'.xc.vis h2) d1 d2) hj.v L2.set_list (fun v => by cases y <;> first | rfl | cases hy)) (show PySem.swapsWith x (some (.Subscript (.Name n p) y q)) pos.line X.env = pure false from comp_swaps hx) rfl rfl) fun Z σ H ⟨f, ρ, S, m, s, q⟩ => ?_
  simp only [ex] at q
  refine ⟨f, ρ, S, m, s, (SX.px (rel := rv G (Bv true f σ ρ)) q).imp fun v H1 ⟨d, S1, m1, e1, s1, r1, q1⟩ => ?_⟩
  cases ho : ρ[i]? with
  | none => rw [ho] at q1; exact q1.elim
  | some sl =>
    rw [ho] at q1
    cases sl with
    | own ds =>
      obtain ⟨p, vs, e2, e3, e4, e5, rl⟩ := s1.own i ds ho
      refine ⟨.ref p, e2, f, ρ, S1, m1, s1, (SX.px (rel := rv G (Bv true f σ ρ)) q1).imp fun w H2 ⟨dw, S2, m2, x2, s2, r2, q2⟩ => ?_⟩
      cases dw with
      | int nn =>
        simp only [putAt] at q2
        split at q2
        · rename_i hf
          split at q2
          · rename_i qq hq
            have hH2 : H2 p = some (.lst vs) := x2.keep p _ e3 e5
            obtain ⟨p', vs', k1, k2, k3, k4, rl2⟩ := s2.own i ds ho
            rw [e2] at k1
            cases k1
            rw [hH2] at k4
            cases k4
            refine ⟨p, vs, nn, qq, rfl, r2.inv_int, hH2, ?_, q2 σ _ m2 (s2.regrown ho e2 hH2 (rl2.set (flat_any r1 hf) qq))⟩
            rw [rl2.length]
            exact hq
          · exact q2.elim
        · exact q2.elim
      | _ => exact q2.elim
    | _ => exact q1.elim
/-- a, b = x, y -/
theorem loc_of {n : Str} {env : PySem.Env} (h : locB c.sc n = true) (e : env.scope = c.sc) : env.scope.names.lookup n = some .local := by
  rw [e]
  unfold locB at h
  split at h
  · assumption
  · cases h
theorem nodup_at {α : Type} : ∀ {l : List α} {i j : Nat} (_ : l.Nodup) (hi : i < l.length) (hj : j < l.length), l[i] = l[j] → i = j
  | [], _, _, _, hi, _, _ => by simp at hi
  | x :: l, 0, 0, _, _, _, _ => rfl
  | x :: l, 0, j + 1, nd, _, hj, e => by
    have := (List.nodup_cons.mp nd).1
    rw [List.getElem_cons_zero, List.getElem_cons_succ] at e
    exact (this (e ▸ List.getElem_mem _)).elim
  | x :: l, i + 1, 0, nd, hi, _, e => by
    have := (List.nodup_cons.mp nd).1
    rw [List.getElem_cons_zero, List.getElem_cons_succ] at e
    exact (this (e.symm ▸ List.getElem_mem _)).elim
  | x :: l, i + 1, j + 1, nd, hi, hj, e => congrArg Nat.succ (nodup_at (List.nodup_cons.mp nd).2 (by simpa using hi) (by simpa using hj) (by simpa using e))
theorem s_par {i j : Nat} {a b : Ex} {n nk : Str} {p q pt pt2 : PySem.Pos} {kt k2 : Nat} {y : Expr} (X' : XS G F k c X W) (hk : c.sc.kind = .function) (cm : c.calm = true) (hij : i ≠ j) (h1 : c.N[i]? = some n) (h2 : c.N[j]? = some nk) (l1 : locB c.sc n = true) (l2 : locB c.sc nk = true) (hl : (q.line == p.line) = true)
    (f1 : [x, y].all (PySem.foldedForSure 8) = false) (f2 : [x, y].all (PySem.constantsAlone 8) = false) (hx : chkE c false a x = true) (hy : chkE c false b y = true) (s1 : SE G F X W false a x) (s2 : SE G F X W false b y) :
    PS X (.Assign [.Tuple [.Name n p, .Name nk q] kt pt] (.Tuple [x, y] k2 pt2) pos) (GS G W fun ρ S => ex F (.par i j a b) ρ S) := by
  have bk : X.env.blockKind = .function := by
    unfold PySem.Env.blockKind
    rw [X'.xc.sc, hk]
    rfl
  have hne : n ≠ nk := fun z => hij (by
    have nd := X'.xc.nd
    rw [← z] at h2
    obtain ⟨a1, b1⟩ := List.getElem?_eq_some_iff.mp h1
    obtain ⟨a2, b2⟩ := List.getElem?_eq_some_iff.mp h2
    exact nodup_at nd a1 a2 (b1.trans b2.symm))
  have w1 := loc_of l1 X'.xc.sc
  have w2 := loc_of l2 X'.xc.sc
  refine imp_ps (L2.ps_par (i := i) (j := j) (X'.xc.calm cm) (by rw [X'.xc.N]; exact X'.xc.nd) (by rw [X'.xc.N]; exact h1) (by rw [X'.xc.N]; exact h2) hij w1 w2 (a_two hx hy s1 s2) (swp_ok bk w1 w2 hl hne (chk_ns hx) (chk_ns hy) f1 f2) rfl) fun Z σ H ⟨f, ρ, S, m, s, q⟩ => ?_
  simp only [ex] at q
  refine ⟨f, ρ, S, m, s, ?_⟩
  have e1 : evs F (.cons a (.cons b .nil)) ρ S = (ev F a ρ S).bind fun x S => (ev F b ρ S).bind fun y S => .ok [x, y] S := by
    simp only [evs, R.bind_assoc, R.bind_ok]
  rw [e1]
  cases hr : ev F a ρ S with
  | no => rw [hr] at q; exact q
  | xc x S1 => rw [hr] at q; exact fun cl dd H1 m1 ex1 s1 r1 => q cl dd σ H1 m1 s1 r1
  | ok d1 S1 =>
    rw [hr] at q
    simp only [R.then_ok, R.bind_ok] at q ⊢
    cases hr2 : ev F b ρ S1 with
    | no => rw [hr2] at q; exact q
    | xc x S2 => rw [hr2] at q; exact fun cl dd H1 m1 ex1 s1 r1 => q cl dd σ H1 m1 s1 r1
    | ok d2 S2 =>
      rw [hr2] at q
      simp only [R.then_ok, R.bind_ok] at q ⊢
      intro vs H1 m1 ex1 s1 r1
      cases r1 with
      | cons r1 r2 =>
        cases r2 with
        | cons r2 r3 =>
          cases r3
          refine ⟨_, _, rfl, q _ H1 m1 ((s1.setv r1).setv (r2.less fun a h => ?_))⟩
          exact h.imp (fun z => z) fun z => own_set z
/-- return: a list of its own -/
theorem fr_own {i : Nat} {Z : Ends} {σ : L2.St} {H : Hp} (h : GS G W (fun ρ S => ex F (.retF (.own i)) ρ S) Z σ H) : ∃ v, σ[i]? = some (some v) ∧ Z.rt v H := by
  obtain ⟨f, ρ, S, m, s, q⟩ := h
  simp only [ex, ev] at q
  split at q
  · rename_i ds ho
    obtain ⟨p, vs, e1, e2, e3, e4, rl⟩ := s.own i ds ho
    have op : Own σ ρ p := ⟨i, ds, ho, e1⟩
    have av : ∀ a, f.A0 a ∨ a = p → Av f σ ρ a := fun a z => z.imp (fun z => z) fun z => by rw [z]; exact op
    exact ⟨_, e1, q (.ref p) H m s.ent ⟨p, vs, ds, rfl, rfl, e4, e2, e3, s.fresh p op, rl.less av, s.sr.less av⟩⟩
  · exact q.elim
theorem fr_fin {it : It} {tg : Tg} {o : Option Ex} {vs : List Nat} {σ : L2.St} {H : Hp} {Q : VK} {m m1 : List Addr} {H1 : Hp} {f : Fr} {ρ : Env} {ds : List D} {S1 : Sto} {Z : Ends} (s1 : St G f σ H1 ρ S1 m1)
    (q : SX G f W Z (((calmly (turns (stepC F e tg o (wipe (noOwn ρ) vs)) ds S1)).bind fun r S => (small r S).bind fun r S => .ok (.lst r) S).then ρ fun x S => retL x S)) : Fin3 G F f σ ρ e tg o vs m1 H1 ds S1 Z.rt := by
  unfold Fin3
  cases ht : turns (stepC F e tg o (wipe (noOwn ρ) vs)) ds S1 with
  | no => rw [ht] at q; exact q
  | xc _ _ => rw [ht] at q; exact q
  | ok r S' =>
    rw [ht] at q
    simp only [calmly_ok, R.bind_ok] at q
    unfold small at q
    split at q
    · rename_i hl
      simp only [R.bind_ok, R.then_ok, retL_lst] at q
      exact ⟨hl, fun p Hn mn accV e1 s2 h1 h2 h3 h4 h5 h6 => q (.ref p) Hn mn s2.ent ⟨p, accV, r, rfl, rfl, h1, h2, fun z => h4 (.inl z), s1.ent.back h3, h5.less fun a z => z.imp .inl fun z => z, h6.less fun a z => z.imp .inl fun z => z⟩⟩
    · exact q.elim
theorem SX.px0 {α β : Type} {f : Fr} {σ : L2.St} {ρ : Env} {rel : List Addr → Hp → β → α → Prop} {m : List Addr} {H : Hp} {r : R α} {Z : Ends} {kk : α → Sto → R D} (h : SX G f W Z ((r.bind kk).then ρ fun x S => retL x S)) :
    PX G f σ ρ W rel m H r fun v H1 => ∃ d S1 m1, Ext m H m1 H1 ∧ St G f σ H1 ρ S1 m1 ∧ rel m1 H1 v d ∧ SX G f W Z ((kk d S1).then ρ fun x S => retL x S) := by
  cases r with
  | ok d S1 => exact fun v H1 m1 e s r => ⟨d, S1, m1, e, s, r, h⟩
  | xc x S1 => exact fun c dd H1 m1 e s r => h c dd σ H1 m1 s r
  | no => exact h
theorem add_lst {d1 d2 : D} {ds : List D} (h : op2 .add d1 d2 = some (.lst ds)) : ∃ as bs, d1 = .lst as ∧ d2 = .lst bs ∧ ds = as ++ bs ∧ as.length + bs.length ≤ lim := by
  cases d1 with
  | lst as =>
    cases d2 with
    | lst bs =>
      simp only [op2] at h
      split at h
      · rename_i hl
        cases h
        exact ⟨as, bs, rfl, rfl, rfl, hl⟩
      · cases h
    | _ => cases h
  | str as =>
    cases d2 with
    | str bs => simp only [op2] at h; split at h <;> cases h
    | _ => cases h
  | tup as =>
    cases d2 with
    | tup bs => simp only [op2] at h; split at h <;> cases h
    | _ => cases h
  | _ => cases d2 <;> cases h
theorem s_retF (X' : XS G F k c X W) (hf : isFr e = true) (hc : chkE c true e x = true) : PS X (.Return (some x) pos) (GS G W fun ρ S => ex F (.retF e) ρ S) := by
  cases e with
  | own i =>
    cases x with
    | Name n p =>
      obtain ⟨_, h⟩ := ba hc
      obtain ⟨h12, h3⟩ := ba h
      obtain ⟨h1, h2⟩ := ba h12
      obtain ⟨p1, p2, _⟩ := plain_dbg h3
      exact imp_ps (L2.ps_ret (L2.pe_var (i := i) (by rw [X'.xc.N]; exact of_decide_eq_true h1) (X'.xc.vis h2) p1 p2)) fun Z σ H q => fr_own q
    | _ => cases hc
  | comp e1 tg it vs =>
    match x, hc with
    | .ListComp y [⟨t, x, [], 0⟩] scope p, hc =>
      obtain ⟨cm, hc⟩ := ba hc
      obtain ⟨c1, c2⟩ := ba hc
      obtain ⟨c2, c3⟩ := ba c2
      obtain ⟨c3, c4⟩ := ba c3
      obtain ⟨c4, c5⟩ := ba c4
      obtain ⟨b1, b2⟩ := blk_ok X'.xc c2
      refine imp_ps (L2.ps_ret (L2.pe_lc (own := ownB c.N vs) (X'.xc.calm cm) (by rw [X'.xc.N]; exact X'.xc.nd) (sndI it c true X W t x X'.xc c1) b1 (fun s H C cl fp => g_tg (X'.xc.inB cm s H C cl fp) tg t c3) (fun _ _ _ _ _ => L2.pts_nil) (fun s H C cl fp => (sndE e1 _ false _ W0 y (X'.xc.inB cm s H C cl fp) c5).v) (noSet_fold (chkI_set c1)))) fun Z σ H ⟨f, ρ, S, m, s, q⟩ => ?_
      rw [b2]
      simp only [ex, ev] at q
      exact comp_read0 (o := none) (slots_in c4) ⟨f, ρ, S, m, s, (SX.px0 q).imp fun J H1 ⟨ds, S1, m1, e1, s1, r1, q1⟩ => ⟨ds, S1, m1, e1, s1, r1, fr_fin (it := it) (Q := Z.rt) (H := H) (m := m) s1 q1⟩⟩
  | compIf e1 tg it d vs =>
    match x, hc with
    | .ListComp y [⟨t, x, [z], 0⟩] scope p, hc =>
      obtain ⟨cm, hc⟩ := ba hc
      obtain ⟨c1, c2⟩ := ba hc
      obtain ⟨c2, c3⟩ := ba c2
      obtain ⟨c3, c4⟩ := ba c3
      obtain ⟨c4, c5⟩ := ba c4
      obtain ⟨c5, c6⟩ := ba c5
      obtain ⟨b1, b2⟩ := blk_ok X'.xc c2
      refine imp_ps (L2.ps_ret (L2.pe_lc (own := ownB c.N vs) (X'.xc.calm cm) (by rw [X'.xc.N]; exact X'.xc.nd) (sndI it c true X W t x X'.xc c1) b1 (fun s H C cl fp => g_tg (X'.xc.inB cm s H C cl fp) tg t c3) (fun s H C cl fp => L2.pts_one (sndE d _ false _ W0 z (X'.xc.inB cm s H C cl fp) c5).t) (fun s H C cl fp => (sndE e1 _ false _ W0 y (X'.xc.inB cm s H C cl fp) c6).v) (noSet_fold (chkI_set c1)))) fun Z σ H ⟨f, ρ, S, m, s, q⟩ => ?_
      rw [b2]
      simp only [ex, ev] at q
      exact comp_read0 (o := some d) (slots_in c4) ⟨f, ρ, S, m, s, (SX.px0 q).imp fun J H1 ⟨ds, S1, m1, e1, s1, r1, q1⟩ => ⟨ds, S1, m1, e1, s1, r1, fr_fin (it := it) (Q := Z.rt) (H := H) (m := m) s1 q1⟩⟩
  | op o a b =>
    cases o with
    | add =>
      match x, hc with
      | .Compare x [o'] [y] p, hc => exact absurd (ba hc).1 (by cases o' <;> decide)
      | .BinOp x .Add y p, hc =>
        obtain ⟨_, hc⟩ := ba hc
        obtain ⟨c1, c2⟩ := ba hc
        refine imp_ps (L2.ps_ret (L2.pe_op L2.op_cat (sndE a c true X W x X'.xc c1).v (sndE b c true X W y X'.xc c2).v)) fun Z σ H ⟨f, ρ, S, m, s, q⟩ => ?_
        simp only [ex, ev] at q
        refine ⟨f, ρ, S, m, s, (SX.px0 q).imp fun v H1 ⟨d1, S1, m1, e1, s1, r1, q1⟩ => ⟨f, ρ, S1, m1, s1, (SX.px0 q1).imp fun u H2 ⟨d2, S2, m2, e2, s2, r2, q2⟩ => ?_⟩⟩
        cases eo : op2 .add d1 d2 with
        | none => rw [eo] at q2; exact q2.elim
        | some d3 =>
          rw [eo] at q2
          simp only [lift_some, R.then_ok] at q2
          have hd : ∃ ds, d3 = .lst ds := by
            cases d3 with
            | lst ds => exact ⟨ds, rfl⟩
            | _ => exact q2.elim
          obtain ⟨ds, rfl⟩ := hd
          obtain ⟨as, bs, rfl, rfl, rfl, hl⟩ := add_lst eo
          obtain ⟨p1, vs1, rfl, k1, _, _, rl1⟩ := (r1.ext e2).inv_lst
          obtain ⟨p2, vs2, rfl, k2, _, _, rl2⟩ := r2.inv_lst
          refine ⟨p1, p2, vs1, vs2, rfl, rfl, k1, k2, by rw [rl1.length, rl2.length]; exact lim_size hl, fun z hz => ?_⟩
          have hzm : z ∉ m2 := fun y => s2.sr.live y hz
          have hA : ∀ a, f.A0 a ∨ a = z → f.A0 a ∨ H2 a = none := fun a y => y.imp (fun y => y) fun y => by rw [y]; exact hz
          exact q2 (.ref z) _ m2 (s2.ent.trans (Ext.new hz)) ⟨z, _, _, rfl, rfl, upd_at, hzm, fun y => s2.live z y hz, s2.ent.back hz, (rl1.append rl2).mono (Ext.new hz) hA, (s2.sr.less fun a y => .inl y).grow (Ext.new hz) hA (fun a ha => L2.upd_ne fun y => hzm (y ▸ ha))⟩
    | _ => cases hf
  | _ => cases hf
theorem swap_true {n : Str} {np : PySem.Pos} {y : Expr} {gs : List Comprehension} {scope : Scope} {p : PySem.Pos} {l : Nat} (X' : XC G F k c X W) (hk : c.sc.kind = .function) (h : swapB c n np (.ListComp y gs scope p) = true) : PySem.swapsWith (.ListComp y gs scope p) (some (.Name n np)) l X.env = pure true ∧ X.env.scope.names.lookup n = some .local := by
  obtain ⟨h1, h2⟩ := ba h
  obtain ⟨h2, h3⟩ := ba h2
  have e : X.env.scope.names.lookup n = some .local := by
    rw [X'.sc]
    split at h1
    · assumption
    · cases h1
  refine ⟨L2.sw_true (by rw [X'.sc]; exact hk) e h2 ?_, e⟩
  simpa using h3
theorem swap_cell {n : Str} {np : PySem.Pos} {l : Nat} (X' : XC G F k c X W) (h : cellB c.sc n = true) : PySem.swapsWith x (some (.Name n np)) l X.env = pure false := by
  have e : X.env.kindOf n = some .cell := by
    show X.env.scope.names.lookup n = _
    rw [X'.sc]
    unfold cellB at h
    split at h
    · assumption
    · cases h
  have z : (some NameKind.cell == some NameKind.local) = false := rfl
  cases x <;> first | rfl | (unfold PySem.swapsWith; simp only [e, z, Bool.and_false, Bool.false_and])
theorem i_setLc {i : Nat} {Z : Ends} {σ : L2.St} {H : Hp} (h : GS G W (fun ρ S => ex F (.asg (.name i) e) ρ S) Z σ H) : GE G F W false e σ H fun v H1 => L2.gName i v σ H1 Z.nx := by
  obtain ⟨f, ρ, S, m, s, q⟩ := h
  simp only [ex] at q
  refine ⟨f, ρ, S, m, s, (SX.px q).imp fun v H1 ⟨d, S1, m1, e1, s1, r1, q1⟩ => ?_⟩
  exact q1 _ H1 m1 (s1.setv r1)
theorem s_setComp {i : Nat} {n : Str} {np : PySem.Pos} {tg : Tg} {it : It} {vs : List Nat} {scope : Scope} {y : Expr} {p : PySem.Pos} (X' : XS G F k c X W) (hk : c.sc.kind = .function) (h1 : chkT c (.name i) (.Name n np) = true)
    (hc : chkE c false (.comp e tg it vs) (.ListComp y [⟨t, x, [], 0⟩] scope p) = true) (hs : swapB c n np (.ListComp y [⟨t, x, [], 0⟩] scope p) = true) :
    PS X (.Assign [.Name n np] (.ListComp y [⟨t, x, [], 0⟩] scope p) pos) (GS G W fun ρ S => ex F (.asg (.name i) (.comp e tg it vs)) ρ S) := by
  obtain ⟨sw, loc⟩ := swap_true (l := pos.line) X'.xc hk hs
  have hN := of_decide_eq_true (ba h1).1
  obtain ⟨cm, hc⟩ := ba hc
  obtain ⟨c1, c2⟩ := ba hc
  obtain ⟨c2, c3⟩ := ba c2
  obtain ⟨c3, c4⟩ := ba c3
  obtain ⟨c4, c5⟩ := ba c4
  obtain ⟨b1, b2⟩ := blk_ok X'.xc c2
  refine imp_ps (L2.ps_setLc (i := i) (own := ownB c.N vs) (X'.xc.calm cm) (by rw [X'.xc.N]; exact X'.xc.nd) (by rw [X'.xc.N]; exact hN) loc sw (sndI it c false X W t x X'.xc c1) b1 (fun s H C cl fp => g_tg (X'.xc.inB cm s H C cl fp) tg t c3) (fun _ _ _ _ _ => L2.pts_nil) (fun s H C cl fp => (sndE e _ false _ W0 y (X'.xc.inB cm s H C cl fp) c5).v) (noSet_fold (chkI_set c1))) fun Z σ H q => ?_
  rw [b2]
  exact i_comp (slots_in c4) (i_setLc q)
theorem s_setCompIf {i : Nat} {n : Str} {np : PySem.Pos} {tg : Tg} {it : It} {d : Ex} {vs : List Nat} {scope : Scope} {y z : Expr} {p : PySem.Pos} (X' : XS G F k c X W) (hk : c.sc.kind = .function) (h1 : chkT c (.name i) (.Name n np) = true)
    (hc : chkE c false (.compIf e tg it d vs) (.ListComp y [⟨t, x, [z], 0⟩] scope p) = true) (hs : swapB c n np (.ListComp y [⟨t, x, [z], 0⟩] scope p) = true) :
    PS X (.Assign [.Name n np] (.ListComp y [⟨t, x, [z], 0⟩] scope p) pos) (GS G W fun ρ S => ex F (.asg (.name i) (.compIf e tg it d vs)) ρ S) := by
  obtain ⟨sw, loc⟩ := swap_true (l := pos.line) X'.xc hk hs
  have hN := of_decide_eq_true (ba h1).1
  obtain ⟨cm, hc⟩ := ba hc
  obtain ⟨c1, c2⟩ := ba hc
  obtain ⟨c2, c3⟩ := ba c2
  obtain ⟨c3, c4⟩ := ba c3
  obtain ⟨c4, c5⟩ := ba c4
  obtain ⟨c5, c6⟩ := ba c5
  obtain ⟨b1, b2⟩ := blk_ok X'.xc c2
  refine imp_ps (L2.ps_setLc (i := i) (own := ownB c.N vs) (X'.xc.calm cm) (by rw [X'.xc.N]; exact X'.xc.nd) (by rw [X'.xc.N]; exact hN) loc sw (sndI it c false X W t x X'.xc c1) b1 (fun s H C cl fp => g_tg (X'.xc.inB cm s H C cl fp) tg t c3) (fun s H C cl fp => L2.pts_one (sndE d _ false _ W0 z (X'.xc.inB cm s H C cl fp) c5).t) (fun s H C cl fp => (sndE e _ false _ W0 y (X'.xc.inB cm s H C cl fp) c6).v) (noSet_fold (chkI_set c1))) fun Z σ H q => ?_
  rw [b2]
  exact i_compIf (slots_in c4) (i_setLc q)
/-- name = value -/
theorem s_set {tg : Tg} {n : Str} {np : PySem.Pos} (X' : XS G F k c X W) (hk : c.sc.kind = .function) (h1 : chkT c tg (.Name n np) = true) (hc : chkE c false e x = true)
    (hs : setOk c n np x = true) : PS X (.Assign [.Name n np] x pos) (GS G W fun ρ S => ex F (.asg tg e) ρ S) := by
  have plain : ∀ (hsw : PySem.swapsWith x (some (.Name n np)) pos.line X.env = pure false), PS X (.Assign [.Name n np] x pos) (GS G W fun ρ S => ex F (.asg tg e) ρ S) := fun hsw =>
    ps_asgG X' h1 (sndE e c false X W x X'.xc hc) hsw rfl
  by_cases hcomp : isComp x = false
  · exact plain (comp_swaps hcomp)
  · cases x with
    | ListComp y gs scope p =>
      have hs : (swapB c n np (.ListComp y gs scope p) || cellB c.sc n) = true := hs
      by_cases h2 : cellB c.sc n = true
      · exact plain (swap_cell X'.xc h2)
      · have h3 : swapB c n np (.ListComp y gs scope p) = true := by
          rcases Bool.or_eq_true_iff.mp hs with h | h
          · exact h
          · exact absurd h h2
        cases tg with
        | name i =>
          cases e with
          | comp e1 tg1 it1 vs1 =>
            match gs, hc, h3 with
            | [⟨t, i2, [], 0⟩], hc, h3 => exact s_setComp X' hk h1 hc h3
          | compIf e1 tg1 it1 d1 vs1 =>
            match gs, hc, h3 with
            | [⟨t, i2, [u], 0⟩], hc, h3 => exact s_setCompIf X' hk h1 hc h3
          | _ => first | (cases hc; done) | (simp [chkE] at hc; done)
        | _ => cases h1
    | _ => first | (exact absurd rfl hcomp) | (cases hs)
theorem s_asg {tg : Tg} (X' : XS G F k c X W) (hk : c.sc.kind = .function) {st : Stmt} (h : chkAsg c tg e st = true) : PS X st (GS G W fun ρ S => ex F (.asg tg e) ρ S) := by
  obtain ⟨t, x, p, rfl, h1, h2, h3⟩ := chkAsg_eq h
  cases t with
  | Name n np => exact s_set X' hk h1 h2 h3
  | Tuple ts j tp =>
    obtain ⟨h4, h5⟩ := ba h3
    refine ps_asgG X' h1 (sndE e c false X W _ X'.xc h2) (show PySem.swapsWith x (some (.Tuple ts j tp)) p.line X.env = pure false from comp_swaps (by simpa using h5)) ?_
    cases x <;> first | rfl | cases h4
  | _ => cases h3
/-! ### exceptions -/
theorem s_rais {C : Nat} {n m : Str} {p p2 q : PySem.Pos} {j : Nat} (X' : XS G F k c X W) (cm : c.calm = true) (hn : c.cl C = n) (hg : gloB c.sc n = true) (hp : plainName n = true) :
    PS X (.Raise (some (.Call (.Name n p) [.Constant (.str m) j p2] [] pos)) none q) (GS G W fun ρ S => ex F (.rais C) ρ S) := by
  subst hn
  cases hE : F.exc C with
  | false =>
    refine ⟨fun pins s σ H D I h => ?_⟩
    obtain ⟨f, ρ, S, m, s, z⟩ := h
    simp only [ex, hE, Bool.false_eq_true, if_false] at z
    exact z.elim
  | true =>
    obtain ⟨g1, ⟨B, ni, ii, bm, FF, g2⟩, g3, g4, g5⟩ := X'.xc.wd.exc C hE
    rw [← X'.xc.K] at g2 g3 g4 g5
    refine imp_ps (L2.ps_raise (X'.xc.calm cm) X'.xc.tk (L2.pmk_own FF g2 g1 g3 (L2.raises_own g4 g5) (X'.xc.gl hg) (plain_dbg hp).1)) fun Z σ H ⟨f, ρ, S, m, s, z⟩ => ?_
    simp only [ex, hE, if_true] at z
    exact z _ _ σ H m s ⟨rfl, rfl⟩
theorem noErr_at {ρ : Env} {i : Nat} {x : Slot} (h : (noErr ρ)[i]? = some x) : x ≠ .err ∧ (x ≠ .emp → ρ[i]? = some x) := by
  unfold noErr at h
  rw [List.getElem?_map] at h
  cases q : ρ[i]? with
  | none => rw [q] at h; cases h
  | some y =>
    rw [q] at h
    cases y with
    | emp => cases h; exact ⟨(fun z => nomatch z), fun z => absurd rfl z⟩
    | val d => cases h; exact ⟨(fun z => nomatch z), fun _ => rfl⟩
    | own d => cases h; exact ⟨(fun z => nomatch z), fun _ => rfl⟩
    | err => cases h; exact ⟨(fun z => nomatch z), fun z => absurd rfl z⟩
theorem SR.sw {G : Gx} {a b : Addr} {m : List Addr} {A : Addr → Prop} {S : Sto} {H : Hp} (s : SR { G with ea := a } m A S H) : SR { G with ea := b } m A S H :=
  ⟨s.nd, s.len, fun i x c h h' => by
    have z := s.cell i x c h h'
    cases c <;> exact z⟩
theorem own_noErr {σ : L2.St} {ρ : Env} {a : Addr} (h : Own σ (noErr ρ) a) : Own σ ρ a := by
  obtain ⟨i, ds, h1, h2⟩ := h
  exact ⟨i, ds, (noErr_at h1).2 (fun z => nomatch z), h2⟩
theorem St.cool {G : Gx} {a b : Addr} {f : Fr} {σ : L2.St} {H : Hp} {ρ : Env} {S : Sto} {m : List Addr} (s : St { G with ea := a } f σ H ρ S m) : St { G with ea := b } f σ H (noErr ρ) S m where
  sr := s.sr.sw.less fun a h => h.imp (fun z => z) own_noErr
  val := fun i d h => by
    obtain ⟨v, h1, h2⟩ := s.val i d ((noErr_at h).2 fun z => nomatch z)
    exact ⟨v, h1, h2.less fun a h => h.imp (fun z => z) own_noErr⟩
  own := fun i ds h => by
    obtain ⟨p, vs, h1, h2, h3, h4, h5⟩ := s.own i ds ((noErr_at h).2 fun z => nomatch z)
    exact ⟨p, vs, h1, h2, h3, h4, h5.less fun a h => h.imp (fun z => z) own_noErr⟩
  uniq := fun i j ds es p h1 h2 => s.uniq i j ds es p ((noErr_at h1).2 fun z => nomatch z) ((noErr_at h2).2 fun z => nomatch z)
  prot := fun a o h => by
    obtain ⟨h1, h2, h3⟩ := s.prot a o h
    exact ⟨h1, h2, fun z => h3 (own_noErr z)⟩
  live := s.live
  ent := s.ent
  mpre := s.mpre
  fresh := fun a h => s.fresh a (own_noErr h)
  len := by unfold noErr; rw [List.length_map]; exact s.len
  err := fun i h => ((noErr_at h).1 rfl).elim
/-- the caught one gets its slot -/
theorem St.heat {G : Gx} {a : Addr} {f : Fr} {σ : L2.St} {H : Hp} {ρ : Env} {S : Sto} {m : List Addr} (s : St { G with ea := a } f σ H ρ S m) (i : Nat) (he : ∀ j : Nat, ρ[j]? ≠ some Slot.err) : St { G with ea := a } f (σ.set i (some (.ref a))) H (ρ.set i .err) S m := by
  have ne : ∀ {j : Nat} {x : Slot}, x ≠ .err → (ρ.set i .err)[j]? = some x → i ≠ j := fun {j x} hx h e => by
    subst e
    by_cases hl : i < ρ.length
    · rw [List.getElem?_set_self hl] at h; exact hx (Option.some.inj h).symm
    · rw [List.getElem?_eq_none (by simpa using hl)] at h; cases h
  have ow : ∀ {b : Addr}, Own (σ.set i (some (.ref a))) (ρ.set i .err) b → Own σ ρ b := by
    rintro b ⟨j, ds, h1, h2⟩
    have hj := ne (by intro z; cases z) h1
    rw [List.getElem?_set_ne hj] at h1 h2
    exact ⟨j, ds, h1, h2⟩
  have hav : ∀ b, Av f (σ.set i (some (.ref a))) (ρ.set i .err) b → Av f σ ρ b := fun b h => h.imp (fun z => z) ow
  refine ⟨s.sr.less hav, fun j e h => ?_, fun j ds h => ?_, fun j l ds es p h1 h2 h3 h4 => ?_, fun b o h => ?_, s.live, s.ent, s.mpre, fun b h => s.fresh b (ow h), by simpa using s.len, fun j h => ?_⟩
  · have hj := ne (by intro z; cases z) h
    rw [List.getElem?_set_ne hj] at h
    obtain ⟨w, h1, h2⟩ := s.val j e h
    exact ⟨w, by rw [List.getElem?_set_ne hj]; exact h1, h2.less hav⟩
  · have hj := ne (by intro z; cases z) h
    rw [List.getElem?_set_ne hj] at h
    obtain ⟨p, vs, h1, h2, h3, h4, h5⟩ := s.own j ds h
    exact ⟨p, vs, by rw [List.getElem?_set_ne hj]; exact h1, h2, h3, h4, h5.less hav⟩
  · have n1 := ne (by intro z; cases z) h1
    have n2 := ne (by intro z; cases z) h2
    rw [List.getElem?_set_ne n1] at h1 h3
    rw [List.getElem?_set_ne n2] at h2 h4
    exact s.uniq j l ds es p h1 h2 h3 h4
  · obtain ⟨h1, h2, h3⟩ := s.prot b o h
    exact ⟨h1, h2, fun z => h3 (ow z)⟩
  · by_cases hj : i = j
    · subst hj
      have hl : i < ρ.length := by
        rcases Nat.lt_or_ge i ρ.length with h' | h'
        · exact h'
        · rw [List.getElem?_eq_none (by simpa using h')] at h; cases h
      rw [List.getElem?_set_self (by rw [s.len]; exact hl)]
    · rw [List.getElem?_set_ne hj] at h
      exact (he j h).elim
/-- what the suite is told -/
def tSu (G : Gx) (F : Fns) (su : Sms) (a : Addr) (cls : Value) (d : Option Addr) : TS := fun Z σ H => ∃ x : Xc, cls = .ref (G.cls x.cls) ∧ d = none ∧ GS { G with ea := a } W0 (fun ρ S => exs (F.hot x) su ρ S) Z σ H
theorem i_try {b su : Sms} {C i : Nat} (X' : XS G F k c X W) {Z : Ends} {σ : L2.St} {H : Hp} (hE : F.exc C = true) (h : GS G W (fun ρ S => ex F (.tryE b C i su) ρ S) Z σ H) :
    GS G (L2.wAs X.K (.ref (G.cls C)) i (tSu G F su) W Z) (fun ρ S => exs F b ρ S) Z σ H := by
  obtain ⟨f, ρ, S, m, s, q⟩ := h
  refine ⟨f, ρ, S, m, s, ?_⟩
  simp only [ex, hE, if_true] at q
  show SX G f _ Z (exs F b ρ S)
  cases hr : exs F b ρ S with
  | no => rw [hr] at q; exact q
  | xc _ _ => rw [hr] at q; exact q
  | ok ct S1 =>
    rw [hr] at q
    cases ct with
    | nx ρ1 => exact q
    | rt d => exact q
    | rtF d => exact q
    | br ρ1 => exact q
    | xr x ρ1 =>
      intro c1 dd σ1 H1 m1 s1 r1
      obtain ⟨rfl, r2⟩ := r1
      unfold R.caught at q
      simp only at q
      split at q
      · rename_i ha hs
        rw [ha] at r2
        have r2 : dd = none := r2
        subst r2
        obtain ⟨g1, g2, g3, g4⟩ := X'.xc.wd.sub _ _ _ hs
        refine ⟨true, by rw [X'.xc.K]; exact g2, fun _ a hna => ⟨x, rfl, rfl, f, _, S1, m1, St.heat (G := G) (a := a) (St.cool (G := G) (a := G.ea) (b := a) s1) i (fun j hj => (noErr_at hj).1 rfl), ?_⟩, fun z => nomatch z⟩
        show SX { G with ea := a } f W0 _ (exs (F.hot x) su ((noErr ρ1).set i .err) S1)
        cases hr2 : exs (F.hot x) su ((noErr ρ1).set i .err) S1 with
        | no => rw [hr2] at q; exact q
        | xc _ _ => rw [hr2] at q; exact q
        | ok ct S2 =>
          rw [hr2] at q
          cases ct with
          | nx ρ2 => exact fun σ2 H2 m2 s2 => q (σ2.set i none) H2 m2 ((St.cool (G := G) (a := a) (b := G.ea) s2).emp i)
          | rt d => exact fun v H2 m2 e2 sr2 r2 => q v H2 m2 e2 (SR.sw (G := G) (a := a) (b := G.ea) sr2) r2
          | rtF _ => exact q.elim
          | br _ => exact q.elim
          | xr _ _ => exact q.elim
      · rename_i hs
        obtain ⟨g1, g2, g3, g4⟩ := X'.xc.wd.sub _ _ _ hs
        exact ⟨false, by rw [X'.xc.K]; exact g2, (fun z => nomatch z), fun _ => q _ dd σ1 H1 m1 s1 ⟨rfl, r2⟩⟩
      · exact q.elim
theorem s_try {b su : Sms} {C i : Nat} {n x : Str} {xs ys : List Stmt} {y0 : Stmt} {p q r : PySem.Pos} (X' : XS G F k c X W) (cm : c.calm = true) (hk : c.sc.kind = .function) (hx : c.cl C = x) (hg : gloB c.sc x = true) (hp : plainName x = true) (hN : c.N[i]? = some n) (hl : locB c.sc n = true)
    (hb : ∀ (X1 : Cx) (W1 : WX), XS G F k c X1 W1 → PSs X1 xs (GS G W1 fun ρ S => exs F b ρ S))
    (hs : ∀ (G1 : Gx) (F1 : Fns) (X1 : Cx), XS G1 F1 k { c with calm := false } X1 W0 → PSs X1 (y0 :: ys) (GS G1 W0 fun ρ S => exs F1 su ρ S)) :
    PS X (.Try xs [.ExceptHandler (some (.Name x p)) (some n) (y0 :: ys) q] [] [] r) (GS G W fun ρ S => ex F (.tryE b C i su) ρ S) := by
  subst hx
  cases hE : F.exc C with
  | true =>
    obtain ⟨g1, _⟩ := X'.xc.wd.exc C hE
    have lk : X.env.kindOf n = some .local := by
      have z : c.sc.names.lookup n = some .local := by
        unfold locB at hl
        split at hl
        · assumption
        · cases hl
      show X.env.kindOf n = _
      have e := X'.xc.sc
      unfold PySem.Env.kindOf
      rw [e]
      exact z
    refine imp_ps (L2.ps_try_as (i := i) (c := .ref (G.cls C)) (tb := fun W => GS G W fun ρ S => exs F b ρ S) (ts := tSu G F su) X'.stk X'.frm (by rw [X'.xc.N]; exact X'.xc.nd) (by rw [X'.xc.N]; exact hN) lk ⟨X'.xc.gl hg, (plain_dbg hp).1, .inl g1⟩ X'.xc.tk
      (fun W1 pn xe tk po => hb _ W1 ⟨⟨X'.xc.wd, X'.xc.at_, X'.xc.K, X'.xc.N, X'.xc.nd, X'.xc.sc, X'.xc.fn, X'.xc.calm, X'.xc.un, X'.xc.room, tk, fun z => absurd (cm.symm.trans z) (by decide)⟩, po, X'.stk, X'.frm⟩)
      fun a oe cls d pn hz hf => ⟨fun pins s σ H D I z => ?_⟩) fun Z σ H z => i_try X' hE z
    obtain ⟨xx, rfl, rfl, z⟩ := z
    refine (hs { G with ea := a } (F.hot xx) (X.suite a ((a, oe) :: pn)) ⟨⟨⟨(fun _ _ h => nomatch h), X'.xc.wd.gls, X'.xc.wd.free, X'.xc.wd.sub, (fun _ h => nomatch h), (fun _ _ h => nomatch h), X'.xc.wd.inj, X'.xc.wd.fds, (fun _ _ _ _ h => nomatch h), (fun _ _ _ _ h => nomatch h), (fun _ h => nomatch h)⟩, X'.xc.at_, X'.xc.K, X'.xc.N, X'.xc.nd, X'.xc.sc, X'.xc.fn, (fun h => nomatch h), X'.xc.un, (fun h => nomatch h), fun u s' ⟨_, _, _, _, _, _, _, _, _, _, _, _, _, _, _, _, w⟩ => w.elim, fun _ x' h => ?_⟩, PySem.PassesOwn.never, X'.stk, X'.frm⟩).run pins s σ H D I z
    cases h
    exact ⟨X, oe, pn, rfl, hz, hf⟩
  | false =>
    refine ⟨fun pins s σ H D I h => ?_⟩
    obtain ⟨f, ρ, S, m, s, z⟩ := h
    simp only [ex, hE, Bool.false_eq_true, if_false] at z
    exact z.elim
/-! ### fields, dicts -/
theorem s_setf {a : Ex} {f : Nat} {n : Str} {p : PySem.Pos} {y : Expr} (X' : XS G F k c X W) (hn : c.at_ f = n) (hb : noCall0 x = true) (hy : isComp y = false) (h1 : SE G F X W false a x) (h2 : SE G F X W false e y) :
    PS X (.Assign [.Attribute x n p] y pos) (GS G W fun ρ S => ex F (.setf a f e) ρ S) := by
  refine imp_ps (L2.ps_fld h1.v h2.v (comp_swaps hy)) fun Z σ H ⟨fr, ρ, S, m, s, q⟩ => ?_
  simp only [ex] at q
  refine ⟨fr, ρ, S, m, s, (SX.px q).imp fun v H1 ⟨d1, S1, m1, e1, s1, r1, q1⟩ => ⟨fr, ρ, S1, m1, s1, (SX.px q1).imp fun u H2 ⟨d2, S2, m2, e2, s2, r2, q2⟩ => ?_⟩⟩
  have r1 := r1.ext e2
  cases d2 with
  | obj i =>
    simp only [setAt] at q2
    cases hc : S2[i]? with
    | none => rw [hc] at q2; exact q2.elim
    | some cell =>
      rw [hc] at q2
      cases cell with
      | dic _ => exact q2.elim
      | ins C fs =>
        simp only at q2
        by_cases hf : F.fd C f = true ∧ fs.length < 100
        · rw [if_pos hf] at q2
          obtain ⟨ad, dx, fvs, rfl, ha, g1, g2, g3, g4, g5, g6⟩ := ins_at s2.sr r2 hc
          obtain ⟨c1, c2⟩ := X'.xc.wd.fds C f hf.1
          have ef : G.fld f = n := by rw [X'.xc.at_]; exact hn
          rw [ef] at c2
          rw [X'.xc.K]
          refine ⟨ad, G.cls C, dx, fvs, rfl, g1, c1, c2, by rw [len_keys g5]; omega, ?_⟩
          have sr := SR.setF (g := f) X'.xc.wd.inj s2.sr ha g1 g2 g3 g4 g5 g6 r1
          rw [ef] at sr
          exact q2 σ _ m2 (s2.ext (Ext.inner (List.mem_of_getElem? ha)) sr)
        · rw [if_neg hf] at q2; exact q2.elim
  | _ => exact q2.elim
theorem any_keysD {t : List Nat} : ∀ {kvs : List (List Nat × D)} {ks : List (Key × V)}, ks.map (·.1) = kvs.map (fun q => kS q.1) → (ks.any fun kv => decide (kv.1 = kS t)) = kvs.any fun q => decide (q.1 = t)
  | [], [], _ => rfl
  | [], _ :: _, e => by cases e
  | _ :: _, [], e => by cases e
  | (i, x) :: kvs, (n, v) :: ks, e => by
    rw [List.map_cons, List.map_cons] at e
    obtain ⟨e1, e2⟩ := List.cons.inj e
    have e1 : n = kS i := e1
    rw [List.any_cons, List.any_cons, any_keysD e2]
    congr 1
    by_cases h : i = t
    · subst h; simp [e1]
    · have : n ≠ kS t := fun z => h (kS_inj (e1.symm.trans z))
      simp [h, this]
theorem put_keysD {t : List Nat} {v : V} {d : D} {kvs : List (List Nat × D)} {ks : List (Key × V)} (e : ks.map (·.1) = kvs.map (fun q => kS q.1)) : (L2.putK ks (kS t) v).map (·.1) = (putD t d kvs).map (fun q => kS q.1) := by
  unfold L2.putK putD
  rw [any_keysD e]
  split
  · rw [List.map_map, List.map_map]
    have h1 : ks.map ((fun q : Key × V => q.1) ∘ fun kv => if kv.1 = kS t then (kv.1, v) else kv) = ks.map (·.1) := List.map_congr_left fun a _ => by
      show (if a.1 = kS t then (a.1, v) else a).1 = a.1
      split <;> rfl
    have h2 : kvs.map ((fun q : List Nat × D => kS q.1) ∘ fun q => if q.1 = t then (q.1, d) else q) = kvs.map (fun q => kS q.1) := List.map_congr_left fun a _ => by
      show kS (if a.1 = t then (a.1, d) else a).1 = kS a.1
      split <;> rfl
    rw [h1, h2, e]
  · simp [e]
theorem put_vals0 {m : List Addr} {A : Addr → Prop} {H : Hp} {t : List Nat} {v : V} {d : D} (rv : RV G.K m A H v d) : ∀ {kvs : List (List Nat × D)} {ks : List (Key × V)}, ks.map (·.1) = kvs.map (fun q => kS q.1) → RL G.K m A H (ks.map (·.2)) (kvs.map (·.2)) →
    RL G.K m A H ((ks.map fun kv => if kv.1 = kS t then (kv.1, v) else kv).map (·.2)) ((kvs.map fun q => if q.1 = t then (q.1, d) else q).map (·.2))
  | [], [], _, _ => .nil
  | [], _ :: _, e, _ => by cases e
  | _ :: _, [], e, _ => by cases e
  | (i, x) :: kvs, (n, u) :: ks, e, r => by
    rw [List.map_cons, List.map_cons] at e
    obtain ⟨e1, e2⟩ := List.cons.inj e
    have e1 : n = kS i := e1
    cases r with
    | cons r1 r2 =>
      have ih := put_vals0 (t := t) rv e2 r2
      by_cases h : i = t
      · subst h
        simp only [List.map_cons, e1, if_true]
        exact .cons rv ih
      · have hn : n ≠ kS t := fun z => h (kS_inj (e1.symm.trans z))
        simp only [List.map_cons, if_neg hn, if_neg h]
        exact .cons r1 ih
theorem put_valsD {m : List Addr} {A : Addr → Prop} {H : Hp} {t : List Nat} {v : V} {d : D} {kvs : List (List Nat × D)} {ks : List (Key × V)} (rv : RV G.K m A H v d) (e : ks.map (·.1) = kvs.map (fun q => kS q.1)) (r : RL G.K m A H (ks.map (·.2)) (kvs.map (·.2))) : RL G.K m A H ((L2.putK ks (kS t) v).map (·.2)) ((putD t d kvs).map (·.2)) := by
  unfold L2.putK putD
  rw [any_keysD e]
  split
  · exact put_vals0 rv e r
  · rw [List.map_append, List.map_append]
    exact r.append (.cons rv .nil)
theorem s_dput {a i : Ex} {p : PySem.Pos} {y z : Expr} (X' : XS G F k c X W) (hz : isComp z = false) (h1 : SE G F X W false a x) (h2 : SE G F X W false i y) (h3 : SE G F X W false e z) :
    PS X (.Assign [.Subscript x y p] z pos) (GS G W fun ρ S => ex F (.dput a i e) ρ S) := by
  refine imp_ps (L2.ps_dput (by have := X'.xc.un; omega) h1.v h2.v h3.v (comp_swaps hz)) fun Z σ H ⟨fr, ρ, S, m, s, q⟩ => ?_
  simp only [ex] at q
  refine ⟨fr, ρ, S, m, s, (SX.px q).imp fun v H1 ⟨d1, S1, m1, e1, s1, r1, q1⟩ => ⟨fr, ρ, S1, m1, s1, (SX.px q1).imp fun u H2 ⟨d2, S2, m2, e2, s2, r2, q2⟩ => ⟨fr, ρ, S2, m2, s2, (SX.px q2).imp fun w H3 ⟨d3, S3, m3, e3, s3, r3, q3⟩ => ?_⟩⟩⟩
  have r1 := (r1.ext e2).ext e3
  have r2 := r2.ext e3
  cases d2 with
  | obj n =>
    cases d3 with
    | str t =>
      simp only [dputAt] at q3
      cases hc : S3[n]? with
      | none => rw [hc] at q3; exact q3.elim
      | some cell =>
        rw [hc] at q3
        cases cell with
        | ins _ _ => exact q3.elim
        | dic kvs =>
          simp only at q3
          by_cases hl : kvs.length < 1000
          · rw [if_pos hl] at q3
            obtain ⟨ad, rfl, ha⟩ := r2.inv_obj
            obtain ⟨ks, g1, g2, g3⟩ := s3.sr.at ha hc
            obtain ⟨e3, _⟩ := r3.inv_str
            have kl : ks.length = kvs.length := by
              have := congrArg List.length g2
              simpa using this
            refine ⟨ad, _, rfl, by rw [e3]; exact L2.DPut.k (k := kS t) g1 (by rw [kl, PySem.sizeLine_eq]; omega), ?_⟩
            have ein : Ext m3 H3 m3 (upd H3 ad (.dK (L2.putK ks (kS t) v))) := Ext.inner (List.mem_of_getElem? ha)
            exact q3 σ _ m3 (s3.ext ein (s3.sr.write ha ⟨_, upd_at, put_keysD g2, (put_valsD r1 g2 g3).ext ein⟩))
          · rw [if_neg hl] at q3; exact q3.elim
    | _ => exact q3.elim
  | _ => exact q3.elim
/-! ### exceptions that carry a thing -/
theorem s_raisA {C : Nat} {n : Str} {p q : PySem.Pos} {y : Expr} (X' : XS G F k c X W) (cm : c.calm = true) (hn : c.cl C = n) (hg : gloB c.sc n = true) (hp : plainName n = true) (hc : chkE c false e y = true) (h1 : SE G F X W false e y) :
    PS X (.Raise (some (.Call (.Name n p) [y] [] pos)) none q) (GS G W fun ρ S => ex F (.raisA C e) ρ S) := by
  subst hn
  cases hE : F.low C with
  | false =>
    refine ⟨fun pins s σ H D I h => ?_⟩
    obtain ⟨f, ρ, S, m, s, z⟩ := h
    simp only [ex, hE, Bool.false_eq_true, if_false] at z
    exact z.elim
  | true =>
    obtain ⟨g1, g2, g3, g4, j, fI, fd, ps, ej, g5, g6, g7, g8⟩ := X'.xc.wd.lows C hE
    rw [← X'.xc.K] at g2 g5 g6 g7 g8
    have hr := X'.xc.room cm
    rw [← ej] at hr
    have st : PySem.starEach [y] X.env = (false, PySem.eval y X.env) :: PySem.starEach [] X.env := star_cons (chk_ns hc)
    refine imp_ps (L2.ps_raise (X'.xc.calm cm) X'.xc.tk (L2.pmk_oex g2 g5 g6 g8 hr g7 .nil (fun pins σ H s er s' I h => L2.passAt L2.takes0 σ pins H s er s' I h) (X'.xc.gl hg) g1 (L2.pa_cons h1.v L2.pa_nil st) (plain_dbg hp).1 st rfl)) fun Z σ H ⟨fr, ρ, S, m, s, z⟩ => ?_
    simp only [ex, hE, if_true] at z
    refine ⟨fr, ρ, S, m, s, (SX.px z).imp fun v H1 ⟨d1, S1, m1, e1, s1, r1, q1⟩ => ⟨by show 1 ≤ 1000; decide, fun a ha => ?_⟩⟩
    refine ⟨a, v, rfl, upd_at, fun dx hd hne => ⟨rfl, dx, [(("stands" : Str), v)], upd_at, by rw [L2.upd_ne hne, upd_at], by rw [L2.upd_ne hne] at hd; exact hd, ?_⟩⟩
    have hd1 : H1 dx = none := by rw [L2.upd_ne hne] at hd; exact hd
    have hh : upd (L2.del (upd (upd (upd H1 a (L2.exo a (G.cls C) none)) dx (L2.exd dx [(("stands" : Str), v)])) a (L2.exo a (G.cls C) (some dx))) a) dx (.xd [(("stands" : Str), v)]) = upd H1 dx (.xd [(("stands" : Str), v)]) := by
      funext b
      by_cases b1 : b = dx
      · rw [b1, upd_at, upd_at]
      · rw [L2.upd_ne b1, L2.upd_ne b1]
        by_cases b2 : b = a
        · rw [b2, L2.del_same]; exact ha.symm
        · rw [L2.del_ne b2, L2.upd_ne b2, L2.upd_ne b1, L2.upd_ne b2]
    rw [hh]
    have ex1 : Ext m1 H1 m1 (upd H1 dx (.xd [(("stands" : Str), v)])) := Ext.new hd1
    exact q1 _ _ σ _ m1 (s1.new hd1) ⟨rfl, dx, v, rfl, upd_at, r1.ext ex1⟩
/-- what the suite is told -/
def tSuR (C : Addr) (i : Nat) (a : Addr) (cls : Value) (d : Option Addr) : TS := L2.tRet (Rt.tTupX (L2.tCons (L2.tC (.str ("refused" : Str))) (L2.tCons (L2.tXf a cls d C ("stands" : Str) (L2.tVar i)) L2.tNil)))
theorem refused_codes : (("refused" : Str)).cps.toList = [114, 101, 102, 117, 115, 101, 100] := by decide +kernel
theorem i_tryR {b : Sms} {C i : Nat} (X' : XS G F k c X W) {Z : Ends} {σ : L2.St} {H : Hp} (hE : F.low C = true) (h : GS G W (fun ρ S => ex F (.tryR b C i) ρ S) Z σ H) :
    GS G (L2.wAs X.K (.ref (G.cls C)) i (tSuR (G.cls C) i) W Z) (fun ρ S => exs F b ρ S) Z σ H := by
  obtain ⟨f, ρ, S, m, s, q⟩ := h
  refine ⟨f, ρ, S, m, s, ?_⟩
  simp only [ex, hE, if_true] at q
  show SX G f _ Z (exs F b ρ S)
  cases hr : exs F b ρ S with
  | no => rw [hr] at q; exact q
  | xc _ _ => rw [hr] at q; exact q
  | ok ct S1 =>
    rw [hr] at q
    cases ct with
    | nx ρ1 => exact q
    | rt d => exact q
    | rtF d => exact q
    | br ρ1 => exact q
    | xr x ρ1 =>
      intro c1 dd σ1 H1 m1 s1 r1
      obtain ⟨rfl, r2⟩ := r1
      unfold R.caughtR at q
      simp only at q
      split at q
      · rename_i d ha hs
        split at q
        · rename_i hC
          rw [ha] at r2
          obtain ⟨dx, v, rfl, hx, rv⟩ := r2
          obtain ⟨g1, g2, g3, g4⟩ := X'.xc.wd.sub _ _ _ hs
          refine ⟨true, by rw [X'.xc.K]; exact g2, fun _ a hna => ?_, fun z => nomatch z⟩
          have hl : i < σ1.length := by rw [s1.len]; exact hC.2
          refine ⟨.ref a, List.getElem?_set_self hl, rfl, by rw [hC.1], dx, [(("stands" : Str), v)], v, rfl, hx, by simp [List.lookup], by show 2 ≤ sizeLine; decide, ?_⟩
          have fin : ∀ (u : HO) (pp : Addr), H1 pp = none → TupH (upd H1 pp u) pp [.str ("refused" : Str), v] [D.str [114, 101, 102, 117, 115, 101, 100], d] → Z.rt (.ref pp) (upd H1 pp u) := fun u pp hpp th => by
            have ex1 : Ext m1 H1 m1 (upd H1 pp u) := Ext.new hpp
            have s2 := s1.new (o := u) hpp
            refine q (.ref pp) _ m1 s2.ent (s2.sr.less fun _ z => .inl z) (.tup th (fun z => s1.sr.live z hpp) (fun z => s1.live pp z hpp) (.cons ?_ (.cons ((rv.ext ex1).less fun _ z => .inl z) .nil)))
            have e0 := RV.str (K := G.K) (m := m1) (A := f.A0) (H := upd H1 pp u) ("refused" : Str) ⟨by rw [refused_codes]; decide, by rw [refused_codes]; decide⟩
            rw [refused_codes] at e0
            exact e0
          cases hb : strB d with
          | true => exact .inr fun pp o hpp hd hc => fin _ pp hpp (.inr ⟨o, upd_at, hd, hc, by rw [List.all_cons, List.all_cons, hb]; rfl⟩)
          | false => exact .inl fun pp hpp => fin _ pp hpp (.inl ⟨upd_at, by rw [List.all_cons, List.all_cons, hb]; rfl⟩)
        · exact q.elim
      · rename_i hs
        obtain ⟨g1, g2, g3, g4⟩ := X'.xc.wd.sub _ _ _ hs
        exact ⟨false, by rw [X'.xc.K]; exact g2, (fun z => nomatch z), fun _ => q _ dd σ1 H1 m1 s1 ⟨rfl, r2⟩⟩
      · exact q.elim
theorem s_tryR {b : Sms} {C i : Nat} {n x : Str} {xs : List Stmt} {p q r p1 p2 p3 p4 p5 : PySem.Pos} {j kk : Nat} (X' : XS G F k c X W) (cm : c.calm = true) (hx : c.cl C = x) (hg : gloB c.sc x = true) (hp : plainName x = true) (hN : c.N[i]? = some n) (hl : locB c.sc n = true) (hpn : plainName n = true)
    (hb : ∀ (X1 : Cx) (W1 : WX), XS G F k c X1 W1 → PSs X1 xs (GS G W1 fun ρ S => exs F b ρ S)) :
    PS X (.Try xs [.ExceptHandler (some (.Name x p)) (some n) [.Return (some (.Tuple [.Constant (.str ("refused" : Str)) j p1, .Attribute (.Name n p2) ("stands" : Str) p3] kk p4)) p5] q] [] [] r) (GS G W fun ρ S => ex F (.tryR b C i) ρ S) := by
  subst hx
  cases hE : F.low C with
  | true =>
    obtain ⟨g1, g2, g3, g4, _⟩ := X'.xc.wd.lows C hE
    have z : c.sc.names.lookup n = some .local := by
      unfold locB at hl
      split at hl
      · assumption
      · cases hl
    have lk : X.env.kindOf n = some .local := by
      show X.env.kindOf n = _
      have e := X'.xc.sc
      unfold PySem.Env.kindOf
      rw [e]
      exact z
    have vis : L2.Vis X.env.scope n := by rw [X'.xc.sc]; exact .inl z
    refine imp_ps (L2.ps_try_as (i := i) (c := .ref (G.cls C)) (tb := fun W => GS G W fun ρ S => exs F b ρ S) (ts := tSuR (G.cls C) i) X'.stk X'.frm (by rw [X'.xc.N]; exact X'.xc.nd) (by rw [X'.xc.N]; exact hN) lk ⟨X'.xc.gl hg, (plain_dbg hp).1, .inl g1⟩ X'.xc.tk
      (fun W1 pn xe tk po => hb _ W1 ⟨⟨X'.xc.wd, X'.xc.at_, X'.xc.K, X'.xc.N, X'.xc.nd, X'.xc.sc, X'.xc.fn, X'.xc.calm, X'.xc.un, X'.xc.room, tk, fun z => absurd (cm.symm.trans z) (by decide)⟩, po, X'.stk, X'.frm⟩)
      fun a oe cls d pn hz hf => L2.pss_one (L2.ps_ret (Rt.pe_tupX (L2.pa_cons L2.pe_str (L2.pa_cons (L2.pe_xf (by rw [X'.xc.K]; exact g3) (by rw [X'.xc.K]; exact g4) hz hf (L2.pe_var (X := X.suite a ((a, oe) :: pn)) (by show X.N[i]? = _; rw [X'.xc.N]; exact hN) vis (plain_dbg hpn).1 (plain_dbg hpn).2.1)) L2.pa_nil))))) fun Z σ H z => i_tryR X' hE z
  | false =>
    refine ⟨fun pins s σ H D I h => ?_⟩
    obtain ⟨f, ρ, S, m, s, z⟩ := h
    simp only [ex, hE, Bool.false_eq_true, if_false] at z
    exact z.elim
end
end Mi
/-! Mini: all statements; defs; the law. -/
namespace Mi
open PySem (Str Addr Value Expr Stmt Scope PyData sizeLine Const NameKind Operator CmpOp Comprehension)
open L2 (V Hp HO Key upd Rd SqL SqT Cx VK R2 OpR CallR MtR IxR SlR PE PT PW PA PI PG PS PSs TE TT TA TI TG TS WX Takes Room Ends)
mutual
theorem sndS {G : Gx} {F : Fns} {k : Nat} : ∀ (s : Sm) (c : CC) (X : Cx) (W : WX) (st : Stmt), XS G F k c X W → c.sc.kind = .function → chkS c s st = true → PS X st (GS G W fun ρ S => ex F s ρ S)
  | .asg tg e => fun c X W st X' hk h => s_asg X' hk (by simpa only [chkS] using h)
  | .new i => fun c X W st X' hk h => by
    obtain ⟨n, p, q, r, rfl, h1, h2⟩ := chkNew_eq (by simpa only [chkS] using h)
    exact s_new X' h1 h2
  | .app i e => fun c X W st X' hk h => by
    obtain ⟨n, p1, ap, x, cp, p, rfl, h1, h2, h3, h4, h5⟩ := chkApp_eq (by simpa only [chkS] using h)
    exact s_app X' h1 h2 h3 h4 h5 (sndE e c false X W x X'.xc h5)
  | .frz i s => fun c X W st X' hk h => by
    refine imp_ps (sndS s c X W st X' hk (by simpa only [chkS] using h)) fun Z σ H ⟨f, ρ, S, m, st, q⟩ => ?_
    simp only [ex] at q
    split at q
    · rename_i ds ho
      exact ⟨f, _, S, m, st.freeze ho, q⟩
    · exact q.elim
  | .cpy i e => fun c X W st X' hk h => by
    obtain ⟨n, p, q, x, r, s, rfl, h1, h2, h3, h4⟩ := chkCpy_eq (by simpa only [chkS] using h)
    exact s_cpy X' h1 h2 h3 h4 (sndE e c false X W x X'.xc h4)
  | .thaw i g es => fun c X W st X' hk h => by
    obtain ⟨n, p, f, q, x, xs, r, s, rfl, h1, h2, h3, h4, h5, h6, h7⟩ := chkThaw_eq (by simpa only [chkS] using h)
    exact s_thaw X' h1 h2 h3 h4 h5 h6 h7 (sndA es c false X W (x :: xs) X'.xc h7)
  | .put i j e => fun c X W st X' hk h => by
    obtain ⟨n, p, y, q, x, s, rfl, h1, h2, h3, h4, h5, h6, h7⟩ := chkPut_eq (by simpa only [chkS] using h)
    exact s_put X' h1 h2 h3 h4 h5 (sndE j c true X W y X'.xc h6) (sndE e c true X W x X'.xc h7)
  | .par i j a b => fun c X W st X' hk h => by
    obtain ⟨n, p, nk, q, kt, pt, x, y, k2, pt2, s, rfl, h1, h2, h3, h4, h5, h6, h7, h8, h9, h10, h11⟩ := chkPar_eq (by simpa only [chkS] using h)
    exact s_par X' hk h1 h2 h3 h4 h5 h6 h7 h8 h9 h10 h11 (sndE a c false X W x X'.xc h10) (sndE b c false X W y X'.xc h11)
  | .retF e => fun c X W st X' hk h => by
    simp only [chkS] at h
    split at h
    · rename_i x hv
      obtain ⟨p, rfl⟩ := vRet_eq hv
      obtain ⟨h1, h2⟩ := ba h
      exact s_retF X' h1 h2
    · cases h
  | .ifs t a b => fun c X W st X' hk h => by
    simp only [chkS] at h
    split at h
    · rename_i x xs ys hv
      obtain ⟨p, rfl⟩ := vIf_eq hv
      obtain ⟨h1, h2⟩ := ba h
      obtain ⟨h2, h3⟩ := ba h2
      refine imp_ps (L2.ps_if (sndE t c true X W x X'.xc h1).t (sndB a c X W xs X' hk h2) (sndB b c X W ys X' hk h3)) fun Z σ H q => i_if ?_
      simpa only [ex] using q
    · cases h
  | .each tg it b => fun c X W st X' hk h => by
    simp only [chkS] at h
    split at h
    · rename_i t x xs hv
      obtain ⟨p, rfl⟩ := vFor_eq hv
      obtain ⟨cm, h⟩ := ba h
      obtain ⟨h1, h2⟩ := ba h
      obtain ⟨h2, h3⟩ := ba h2
      refine imp_ps (L2.ps_for X'.po (X'.xc.calm cm) (sndI it c false X W t x X'.xc h1) (g_tg X'.xc tg t h2) (sndB b c X W xs X' hk h3) (noSet_fold (chkI_set h1))) fun Z σ H q => i_each ?_
      simpa only [ex] using q
    · cases h
  | .whl t b => fun c X W st X' hk h => by
    simp only [chkS] at h
    split at h
    · rename_i x xs hv
      obtain ⟨p, rfl⟩ := vWhile_eq hv
      obtain ⟨h1, h2⟩ := ba h
      refine imp_ps (L2.ps_while X'.po (sndE t c true X W x X'.xc h1).t (sndB b c X W xs X' hk h2)) fun Z σ H q => i_whl (n := fuel) ?_
      simpa only [ex] using q
    · cases h
  | .ret e => fun c X W st X' hk h => by
    simp only [chkS] at h
    split at h
    · rename_i x hv
      obtain ⟨p, rfl⟩ := vRet_eq hv
      exact imp_ps (L2.ps_ret (sndE e c true X W x X'.xc h).v) fun _ _ _ q => i_ret q
    · cases h
  | .expr e => fun c X W st X' hk h => by
    simp only [chkS] at h
    split at h
    · rename_i x hv
      obtain ⟨p, rfl⟩ := vExpr_eq hv
      obtain ⟨h1, h2⟩ := ba h
      exact imp_ps (L2.ps_expr (sndE e c true X W x X'.xc h1).v (comp_swaps (by simpa using h2))) fun _ _ _ q => i_expr q
    · cases h
  | .rais C => fun c X W st X' hk h => by
    simp only [chkS] at h
    split at h
    · rename_i x hv
      obtain ⟨p, m, j, p2, pos, q, rfl⟩ := vRaise_eq hv
      obtain ⟨cm, h⟩ := ba h
      obtain ⟨h1, h⟩ := ba h
      obtain ⟨h2, h3⟩ := ba h
      exact s_rais X' cm (of_decide_eq_true h1) h2 h3
    · cases h
  | .tryE b C i su => fun c X W st X' hk h => by
    simp only [chkS] at h
    split at h
    · rename_i xs x n ys hv
      obtain ⟨p, q, r, rfl⟩ := vTry_eq hv
      obtain ⟨cm, h⟩ := ba h
      obtain ⟨h1, h⟩ := ba h
      obtain ⟨h2, h⟩ := ba h
      obtain ⟨h3, h⟩ := ba h
      obtain ⟨h4, h⟩ := ba h
      obtain ⟨h5, h⟩ := ba h
      obtain ⟨h6, h⟩ := ba h
      obtain ⟨h7, h8⟩ := ba h
      cases ys with
      | nil => cases h8
      | cons y0 ys => exact s_try X' cm hk (of_decide_eq_true h2) h3 h4 (of_decide_eq_true h5) h6 (fun X1 W1 x1 => sndB b c X1 W1 xs x1 hk h1) (fun G1 F1 X1 x1 => sndB su _ X1 W0 (y0 :: ys) x1 hk h7)
    · cases h
  | .setf a f e => fun c X W st X' hk h => by
    obtain ⟨x, n, p, y, q, rfl, h1, h2, h3, h4, h5⟩ := chkSetf_eq (by simpa only [chkS] using h)
    exact s_setf X' h1 h2 h3 (sndE a c false X W x X'.xc h4) (sndE e c false X W y X'.xc h5)
  | .dput a i e => fun c X W st X' hk h => by
    obtain ⟨x, y, p, z, q, rfl, h1, h2, h3, h4, h5⟩ := chkDput_eq (by simpa only [chkS] using h)
    exact s_dput X' h2 (sndE a c false X W x X'.xc h3) (sndE i c false X W y X'.xc h4) (sndE e c false X W z X'.xc h5)
  | .raisA C e => fun c X W st X' hk h => by
    obtain ⟨x, p, y, q, r, rfl, h1, h2, h3, h4, h5⟩ := chkRaisA_eq (by simpa only [chkS] using h)
    exact s_raisA X' h1 h2 h3 h4 h5 (sndE e c false X W y X'.xc h5)
  | .tryR b C i => fun c X W st X' hk h => by
    simp only [chkS] at h
    split at h
    · rename_i xs x n ys hv
      obtain ⟨p, q, r, rfl⟩ := vTry_eq hv
      obtain ⟨cm, h⟩ := ba h
      obtain ⟨h1, h⟩ := ba h
      obtain ⟨h2, h⟩ := ba h
      obtain ⟨h3, h⟩ := ba h
      obtain ⟨h4, h⟩ := ba h
      obtain ⟨h5, h⟩ := ba h
      obtain ⟨h6, h⟩ := ba h
      obtain ⟨h7, h8⟩ := ba h
      split at h8
      · obtain ⟨j, p1, p2, p3, kk, p4, p5, rfl⟩ := vRef_eq (of_decide_eq_true h8)
        exact s_tryR X' cm (of_decide_eq_true h2) h3 h4 (of_decide_eq_true h5) h6 h7 (fun X1 W1 x1 => sndB b c X1 W1 xs x1 hk h1)
      · cases h8
    · cases h
  | .nev => fun c X W st X' hk h => ⟨fun pins s σ H D I h => by
    obtain ⟨f, ρ, S, m, s, z⟩ := h
    simp only [ex] at z
    exact z.elim⟩
  | .pass => fun c X W st X' hk h => by
    obtain ⟨p, rfl⟩ := vPass_eq (by simpa only [chkS] using h)
    exact imp_ps L2.ps_pass fun Z σ H ⟨f, ρ, S, m, st, q⟩ => q σ H m st
theorem sndB {G : Gx} {F : Fns} {k : Nat} : ∀ (s : Sms) (c : CC) (X : Cx) (W : WX) (st : List Stmt), XS G F k c X W → c.sc.kind = .function → chkB c s st = true → PSs X st (GS G W fun ρ S => exs F s ρ S)
  | .nil => fun c X W st X' hk h => by
    cases st with
    | nil => exact imp_pss L2.pss_nil fun Z σ H ⟨f, ρ, S, m, st, q⟩ => q σ H m st
    | cons x xs => cases h
  | .cons s r => fun c X W st X' hk h => by
    cases st with
    | nil => cases h
    | cons x xs =>
      obtain ⟨h1, h2⟩ := ba h
      refine imp_pss (L2.pss_cons (sndS s c X W x X' hk h1) (sndB r c X W xs X' hk h2)) fun Z σ H q => i_next ?_
      simpa only [exs] using q
end
end Mi
/-! Mini: defs, the law. -/
namespace Mi
open PySem (Str Addr Value Expr Stmt Scope PyData sizeLine Const NameKind Operator CmpOp Comprehension)
open L2 (V Hp HO Key upd Rd SqL SqT Cx VK R2 OpR CallR MtR IxR SlR PE PT PW PA PI PG PS PSs TE TT TA TI TG TS WX Takes Room Ends)
theorem lookup_in {α : Type} : ∀ {l : List (Nat × α)} {i : Nat} {x : α}, l.lookup i = some x → (i, x) ∈ l
  | [], _, _, h => by cases h
  | (j, y) :: l, i, x, h => by
    rw [List.lookup_cons] at h
    cases q : (i == j) with
    | true => rw [q] at h; cases h; rw [beq_iff_eq.mp q]; exact List.mem_cons_self ..
    | false => rw [q] at h; exact List.mem_cons_of_mem _ (lookup_in h)
section
variable {P : PySem.Program} {w : PySem.World} {mg : Str → Option Value} {base : PySem.Heap} {G : Gx} {k j : Nat} {x : Str} {g : Fn}
theorem FnAt.mono (h : FnAt P w mg base G j x g) (hk : j ≤ k) : FnAt P w mg base G k x g := by
  obtain ⟨f, fd, ps, h1, h2, h3, h4⟩ := h
  exact ⟨f, fd, ps, h1, h2, h3, h4.mono hk⟩
/-- the names of a text -/
structure Nm where
  fn : Nat → Str
  gl : Nat → Str
  cl : Nat → Str
  mn : Nat → Str
  kn : Nat → Str
  at_ : Nat → Str
theorem wd_ofZ {l fr : List (Nat × Fn)} {gl : List (Nat × D)} {es low : List Nat} {fd : List (Nat × Nat)} {mt : List (Nat × Nat × Nat × Fn)} {mk : List (Nat × Nat × Fn × List D)} {nm : Nm} (inj : ∀ i j, G.fld i = G.fld j → i = j)
    (hs : ∀ i ∈ es ++ low, ∀ j ∈ es ++ low, SubAt mg G nm.cl i j (i == j || j == 1)) (he : ∀ i ∈ es, ExcAt mg G nm.cl i) (hf : ∀ p ∈ l, FnAt P w mg base G k (nm.fn p.1) p.2) (hg : ∀ p ∈ gl, ∃ v u, mg (nm.gl p.1) = some u ∧ L2.RelV v u ∧ ∀ m A H, RV G.K m A H v p.2) (hb : ∀ x ∈ builtinNames, mg x = none)
    (hfr : ∀ p ∈ fr, FnAtF P w mg base G k (nm.fn p.1) p.2) (hfd : ∀ p ∈ fd, L2.Cls G.K (G.cls p.1) ∧ L2.NoAttr G.K (G.cls p.1) (G.fld p.2)) (hmt : ∀ p ∈ mt, MtAt P w mg base G k p.2.1 p.2.2.1 (nm.mn p.1) p.2.2.2) (hmk : ∀ p ∈ mk, MkAt P w mg base G k p.2.1 (nm.kn p.1) p.2.2.1 p.2.2.2) (hlow : ∀ i ∈ low, LowAt P w mg base G k nm.cl i) :
    Wd P w mg base G (tabZ l gl es fr fd mt mk low) k nm.fn nm.gl nm.cl nm.mn nm.kn := by
  refine ⟨fun i g h => hf (i, g) (lookup_in h), fun i d h => hg (i, d) (lookup_in h), hb, fun i j b h => ?_, fun i h => he i (by simpa using (show es.contains i = true from h)), fun i g h => hfr (i, g) (lookup_in h), inj, fun C f h => hfd (C, f) (by simpa using (show fd.contains (C, f) = true from h)),
    fun g C m h z => hmt (g, C, m, h) (lookup_in z), fun g C h dfl z => hmk (g, C, h, dfl) (lookup_in z), fun C h => hlow C (by simpa using (show low.contains C = true from h))⟩
  have h : (if (es.contains i || low.contains i) && (es.contains j || low.contains j) then some (i == j || j == 1) else none) = some b := h
  split at h
  · rename_i hc
    obtain ⟨h1, h2⟩ := ba hc
    cases h
    exact hs i (by simpa using h1) j (by simpa using h2)
  · cases h
theorem wd_ofY {l fr : List (Nat × Fn)} {gl : List (Nat × D)} {es : List Nat} {nm : Nm} (inj : ∀ i j, G.fld i = G.fld j → i = j) (hs : ∀ i ∈ es, ∀ j ∈ es, SubAt mg G nm.cl i j (i == j || j == 1)) (he : ∀ i ∈ es, ExcAt mg G nm.cl i) (hf : ∀ p ∈ l, FnAt P w mg base G k (nm.fn p.1) p.2) (hg : ∀ p ∈ gl, ∃ v u, mg (nm.gl p.1) = some u ∧ L2.RelV v u ∧ ∀ m A H, RV G.K m A H v p.2) (hb : ∀ x ∈ builtinNames, mg x = none) (hfr : ∀ p ∈ fr, FnAtF P w mg base G k (nm.fn p.1) p.2) :
    Wd P w mg base G (tabY l gl es fr) k nm.fn nm.gl nm.cl nm.mn nm.kn := wd_ofZ inj (by simpa using hs) he hf hg hb hfr (fun _ h => nomatch h) (fun _ h => nomatch h) (fun _ h => nomatch h) (fun _ h => nomatch h)
theorem wd_ofX {l : List (Nat × Fn)} {gl : List (Nat × D)} {es : List Nat} {nm : Nm} (inj : ∀ i j, G.fld i = G.fld j → i = j) (hs : ∀ i ∈ es, ∀ j ∈ es, SubAt mg G nm.cl i j (i == j || j == 1)) (he : ∀ i ∈ es, ExcAt mg G nm.cl i) (hf : ∀ p ∈ l, FnAt P w mg base G k (nm.fn p.1) p.2) (hg : ∀ p ∈ gl, ∃ v u, mg (nm.gl p.1) = some u ∧ L2.RelV v u ∧ ∀ m A H, RV G.K m A H v p.2) (hb : ∀ x ∈ builtinNames, mg x = none) :
    Wd P w mg base G (tabX l gl es) k nm.fn nm.gl nm.cl nm.mn nm.kn := wd_ofY (fr := []) inj hs he hf hg hb fun _ h => nomatch h
theorem wd_of {l : List (Nat × Fn)} {gl : List (Nat × D)} {nm : Nm} (inj : ∀ i j, G.fld i = G.fld j → i = j) (hf : ∀ p ∈ l, FnAt P w mg base G k (nm.fn p.1) p.2) (hg : ∀ p ∈ gl, ∃ v u, mg (nm.gl p.1) = some u ∧ L2.RelV v u ∧ ∀ m A H, RV G.K m A H v p.2) (hb : ∀ x ∈ builtinNames, mg x = none) :
    Wd P w mg base G (tabOf l gl) k nm.fn nm.gl nm.cl nm.mn nm.kn := wd_ofX (es := []) inj (fun _ h => nomatch h) (fun _ h => nomatch h) hf hg hb
/-- a def's scope and text are those of the term -/
def defB (N ps : List Str) (nm : Nm) (scope : Scope) (body : List Stmt) (b : Sms) : Bool :=
  decide (scope.kind = .function) && (!scope.isCoroutine && (!scope.isGenerator && (decide N.Nodup && (decide (N.take ps.length = ps) && (ps.all (fun x => match scope.names.lookup x with
    | some .local => true
    | some .cell => true
    | _ => false) && (scope.names.all (fun y => match y.2 with
    | .free => false
    | _ => true) && chkB ⟨N, nm.fn, nm.gl, scope, none, nm.cl, true, nm.at_, nm.mn, nm.kn⟩ b body))))))
theorem defB_ok {N ps : List Str} {nm : Nm} {scope : Scope} {body : List Stmt} {b : Sms} (h : defB N ps nm scope body b = true) : L2.FnScope N ps scope ∧ chkB ⟨N, nm.fn, nm.gl, scope, none, nm.cl, true, nm.at_, nm.mn, nm.kn⟩ b body = true := by
  obtain ⟨h1, h⟩ := ba h
  obtain ⟨h2, h⟩ := ba h
  obtain ⟨h3, h⟩ := ba h
  obtain ⟨h4, h⟩ := ba h
  obtain ⟨h5, h⟩ := ba h
  obtain ⟨h6, h⟩ := ba h
  obtain ⟨h7, h8⟩ := ba h
  refine ⟨⟨of_decide_eq_true h1, by simpa using h2, by simpa using h3, of_decide_eq_true h4, of_decide_eq_true h5, fun x hx => ?_, fun y hy e => ?_⟩, h8⟩
  · have z := List.all_eq_true.mp h6 x hx
    split at z
    · exact .inl (by assumption)
    · exact .inr (by assumption)
    · cases z
  · have z := List.all_eq_true.mp h7 y hy
    rw [e] at z
    cases z
/-- the entry of a def -/
theorem st_entry {N : List Str} {vs : List V} {ds : List D} {S : Sto} {m : List Addr} {A : Addr → Prop} {H : Hp} {np : Nat} (hsr : SR G m A S H) (hl : ∀ a, A a → H a ≠ none) (r : RL G.K m A H vs ds) (hd : ds.length = np) :
    St G ⟨A, fun a o => H a = some o ∧ a ∉ m, m, H, m⟩ (L2.start N vs) H (ds.map .val ++ List.replicate (N.length - np) .emp) S m := by
  have no : NoOwn (ds.map Slot.val ++ List.replicate (N.length - np) .emp) := fun i es h => by
    have hm := List.mem_of_getElem? h
    rcases List.mem_append.mp hm with h | h
    · obtain ⟨d, _, e⟩ := List.mem_map.mp h
      cases e
    · cases List.eq_of_mem_replicate h
  have av : ∀ {f : Fr} {σ : L2.St} (a : Addr), Av f σ (ds.map Slot.val ++ List.replicate (N.length - np) .emp) a → f.A0 a := fun a h => h.elim (fun z => z) fun z => (no.own z).elim
  refine ⟨hsr.less fun a h => av a h, fun i d h => ?_, fun i es h => (no i es h).elim, fun i j es _ _ h => (no i es h).elim, fun a o h => ⟨h.1, h.2, no.own⟩, hl, Ext.refl m H, ⟨[], by simp⟩, fun a h => (no.own h).elim, ?_, fun i h => ?_⟩
  · by_cases hi : i < ds.length
    · rw [List.getElem?_append_left (by simpa using hi), List.getElem?_map] at h
      cases q : ds[i]? with
      | none => rw [q] at h; cases h
      | some d' =>
        rw [q] at h
        cases h
        obtain ⟨v, h1, h2⟩ := r.get q
        refine ⟨v, ?_, h2.less fun a h => av a h⟩
        unfold L2.start
        rw [List.getElem?_append_left (by rw [List.length_map, r.length]; exact hi), List.getElem?_map, h1]
        rfl
    · rw [List.getElem?_append_right (by simpa using hi)] at h
      rw [List.getElem?_replicate] at h
      split at h <;> cases h
  · unfold L2.start
    simp [r.length, hd]
  · have hm := List.mem_of_getElem? h
    rcases List.mem_append.mp hm with h | h
    · obtain ⟨d, _, e⟩ := List.mem_map.mp h
      cases e
    · cases List.eq_of_mem_replicate h
theorem fn_len {F : Fns} {np n : Nat} {b : Sms} {vs : List V} {H : Hp} {Q : VK} {E : L2.XK} (h : spF G (fnOf F np n b) vs H Q E) : vs.length = np := by
  obtain ⟨ds, S, m, A, h1, h2, r, h⟩ := h
  rw [r.length]
  by_cases hd : ds.length = np
  · exact hd
  · unfold fnOf at h
    rw [if_neg hd] at h
    exact h.elim
/-- THE RULE for a def -/
theorem fn_ok {F : Fns} {nm : Nm} {qual : Str} {params : PySem.Arguments} {body : List Stmt} {scope : Scope} {f : Addr} {fd : PySem.FuncData} {N ps : List Str} {b : Sms} {dvs : List V} {kws : List (Str × V)} (D : L2.FunD G.K x qual params body scope dvs kws f fd)
    (hd : defB N ps nm scope body b = true) (hat : G.fld = nm.at_) (w' : Wd P w mg base G F k nm.fn nm.gl nm.cl nm.mn nm.kn) : L2.FnOk P w G.K mg base (L2.CX P w) (k + 1) f fd ps (spF G (fnOf F ps.length N.length b)) := by
  obtain ⟨S, hc⟩ := defB_ok hd
  refine D.ok S (fun vs H Q E h => fn_len h) fun cdv A outer s H vs Q E hr hsp => ?_
  have X' : XS G F k ⟨N, nm.fn, nm.gl, scope, none, nm.cl, true, nm.at_, nm.mn, nm.kn⟩ (L2.cxOf (L2.CX P w) P w G.K mg base N qual scope f cdv A outer s H E) (fun cls d _ H => E cls d H) :=
    ⟨⟨w', hat, rfl, rfl, S.nd, rfl, rfl, (fun _ => rfl), hr.units, (fun _ => hr), L2.takes_of rfl rfl rfl rfl, (fun z => nomatch z)⟩, L2.passes_of rfl, rfl, rfl⟩
  refine ⟨_, sndB b _ _ _ body X' S.kind hc, ?_⟩
  obtain ⟨ds, S0, m, A0, h1, h2, r, h⟩ := hsp
  unfold fnOf at h
  by_cases hl : ds.length = ps.length
  · rw [if_pos hl] at h
    refine ⟨_, _, S0, m, st_entry h1 h2 r hl, ?_⟩
    show SX _ _ _ _ (exs F b (ds.map Slot.val ++ List.replicate (N.length - ps.length) .emp) S0)
    cases hr : exs F b (ds.map Slot.val ++ List.replicate (N.length - ps.length) .emp) S0 with
    | no => rw [hr] at h; exact h
    | xc _ _ => rw [hr] at h; exact h
    | ok ct S1 =>
      rw [hr] at h
      have nA : ∀ {σ : L2.St} {ρ : Env} (a : Addr), A0 a → Av ⟨A0, fun a o => H a = some o ∧ a ∉ m, m, H, m⟩ σ ρ a := fun a z => .inl z
      cases ct with
      | nx ρ => exact fun σ H1 m1 s1 => h .non H1 m1 s1.ent (s1.sr.less fun a z => nA a z) .non
      | rt d => exact fun v H1 m1 e1 sr1 r1 => h v H1 m1 e1 sr1 r1
      | rtF d => exact fun v H1 m1 e1 fr1 => h v H1 m1 e1 fr1.sr fr1.rv
      | br ρ => exact (show False from h).elim
      | xr xx ρ =>
        intro cl dd σ H1 m1 s1 r1
        refine h cl dd H1 m1 s1.ent (s1.sr.less fun a z => nA a z) ⟨r1.1, ?_⟩
        have r2 := r1.2
        cases hx : xx.arg with
        | none => rw [hx] at r2; exact r2
        | some d =>
          rw [hx] at r2
          obtain ⟨dx, v, e1, e2, e3⟩ := r2
          exact ⟨dx, v, e1, e2, e3.less fun a z => nA a z⟩
  · rw [if_neg hl] at h
    exact h.elim
theorem fn_lenF {F : Fns} {np n : Nat} {b : Sms} {vs : List V} {H : Hp} {Q : VK} {E : L2.XK} (h : spFr G (fnOfF F np n b) vs H Q E) : vs.length = np := by
  obtain ⟨ds, S, m, A, h1, h2, r, h⟩ := h
  rw [r.length]
  by_cases hd : ds.length = np
  · exact hd
  · unfold fnOfF at h
    rw [if_neg hd] at h
    exact h.elim
/-- .. for a def that tells a list of its own -/
theorem fn_okF {F : Fns} {nm : Nm} {qual : Str} {params : PySem.Arguments} {body : List Stmt} {scope : Scope} {f : Addr} {fd : PySem.FuncData} {N ps : List Str} {b : Sms} (D : L2.FunD G.K x qual params body scope [] [] f fd)
    (hd : defB N ps nm scope body b = true) (hat : G.fld = nm.at_) (w' : Wd P w mg base G F k nm.fn nm.gl nm.cl nm.mn nm.kn) : L2.FnOk P w G.K mg base (L2.CX P w) (k + 1) f fd ps (spFr G (fnOfF F ps.length N.length b)) := by
  obtain ⟨S, hc⟩ := defB_ok hd
  refine D.ok S (fun vs H Q E h => fn_lenF h) fun cdv A outer s H vs Q E hr hsp => ?_
  have X' : XS G F k ⟨N, nm.fn, nm.gl, scope, none, nm.cl, true, nm.at_, nm.mn, nm.kn⟩ (L2.cxOf (L2.CX P w) P w G.K mg base N qual scope f cdv A outer s H E) (fun cls d _ H => E cls d H) :=
    ⟨⟨w', hat, rfl, rfl, S.nd, rfl, rfl, (fun _ => rfl), hr.units, (fun _ => hr), L2.takes_of rfl rfl rfl rfl, (fun z => nomatch z)⟩, L2.passes_of rfl, rfl, rfl⟩
  refine ⟨_, sndB b _ _ _ body X' S.kind hc, ?_⟩
  obtain ⟨ds, S0, m, A0, h1, h2, r, h⟩ := hsp
  unfold fnOfF at h
  by_cases hl : ds.length = ps.length
  · rw [if_pos hl] at h
    refine ⟨_, _, S0, m, st_entry h1 h2 r hl, ?_⟩
    show SX _ _ _ _ (exs F b (ds.map Slot.val ++ List.replicate (N.length - ps.length) .emp) S0)
    cases hr : exs F b (ds.map Slot.val ++ List.replicate (N.length - ps.length) .emp) S0 with
    | no => rw [hr] at h; exact h
    | xc _ _ => rw [hr] at h; exact h
    | ok ct S1 =>
      rw [hr] at h
      have nA : ∀ {σ : L2.St} {ρ : Env} (a : Addr), A0 a → Av ⟨A0, fun a o => H a = some o ∧ a ∉ m, m, H, m⟩ σ ρ a := fun a z => .inl z
      cases ct with
      | nx ρ => exact (show False from h).elim
      | rt d => exact (show False from h).elim
      | rtF d => exact fun v H1 m1 e1 fr1 => h v H1 m1 e1 fr1
      | br ρ => exact (show False from h).elim
      | xr xx ρ =>
        intro cl dd σ H1 m1 s1 r1
        refine h cl dd H1 m1 s1.ent (s1.sr.less fun a z => nA a z) ⟨r1.1, ?_⟩
        have r2 := r1.2
        cases hx : xx.arg with
        | none => rw [hx] at r2; exact r2
        | some d =>
          rw [hx] at r2
          obtain ⟨dx, v, e1, e2, e3⟩ := r2
          exact ⟨dx, v, e1, e2, e3.less fun a z => nA a z⟩
  · rw [if_neg hl] at h
    exact h.elim
theorem fn_at {F : Fns} {nm : Nm} {qual : Str} {params : PySem.Arguments} {body : List Stmt} {scope : Scope} {f : Addr} {fd : PySem.FuncData} {N ps : List Str} {b : Sms} (D : L2.FunD G.K x qual params body scope [] [] f fd) (hf : mg x = some (.ref f))
    (hbd : L2.Binds G.K fd ps []) (hd : defB N ps nm scope body b = true) (hat : G.fld = nm.at_) (w' : Wd P w mg base G F k nm.fn nm.gl nm.cl nm.mn nm.kn) : FnAt P w mg base G (k + 1) x (fnOf F ps.length N.length b) :=
  ⟨f, fd, ps, hf, D.kp, hbd, fn_ok D hd hat w'⟩
theorem fn_atF {F : Fns} {nm : Nm} {qual : Str} {params : PySem.Arguments} {body : List Stmt} {scope : Scope} {f : Addr} {fd : PySem.FuncData} {N ps : List Str} {b : Sms} (D : L2.FunD G.K x qual params body scope [] [] f fd) (hf : mg x = some (.ref f))
    (hbd : L2.Binds G.K fd ps []) (hd : defB N ps nm scope body b = true) (hat : G.fld = nm.at_) (w' : Wd P w mg base G F k nm.fn nm.gl nm.cl nm.mn nm.kn) : FnAtF P w mg base G (k + 1) x (fnOfF F ps.length N.length b) :=
  ⟨f, fd, ps, hf, D.kp, hbd, fn_okF D hd hat w'⟩
theorem FnAtF.at (h : FnAtF P w mg base G k x g) : FnAt P w mg base G k x g := by
  obtain ⟨f, fd, ps, h1, h2, h3, h4⟩ := h
  exact ⟨f, fd, ps, h1, h2, h3, h4.imp fun _ _ _ _ z => spFr.of z⟩
theorem FnAtF.mono (h : FnAtF P w mg base G j x g) (hk : j ≤ k) : FnAtF P w mg base G k x g := by
  obtain ⟨f, fd, ps, h1, h2, h3, h4⟩ := h
  exact ⟨f, fd, ps, h1, h2, h3, h4.mono hk⟩
end
/-- the law's own call -/
theorem law_sp {G : Gx} {g : Fn} {H : Hp} {a : Addr} {ns : List Int} (hs : SqL G.K H a (ns.map V.int)) (h : ∃ S, g [.scr ns] [] = .ok (.bl true) S) : spF G g [.ref a] H (fun v _ => v = .bl true) fun _ _ _ => False := by
  obtain ⟨S, h⟩ := h
  refine ⟨[.scr ns], [], [], fun _ => False, ⟨List.nodup_nil, rfl, fun i a c h => by simp at h⟩, fun _ z => z.elim, .cons (.scr (hs.imp (fun z => ⟨z, by simp, fun z => z⟩) fun z => z)) .nil, ?_⟩
  rw [h]
  exact fun v H' m' _ _ r => r.inv_bl
theorem cx_none {P : PySem.Program} {w : PySem.World} {outer : List PySem.Env} {H : Hp} {s : PySem.Shared} {e : Value} {s' : PySem.Shared} (h : L2.CX P w outer H s (fun _ _ _ => False) e s') : False := by
  obtain ⟨_, _, _, _, _, _, _, _, _, _, _, _, z⟩ := h
  exact z
/-- the law's end -/
theorem walk_ofW {l : PySem.W.OpenLaw} {n k : Nat} {q : PySem.Program} {loose : List Str} {XP : (Str → Option Value) → PySem.Heap → Prop} {YP : PySem.World → PySem.Heap → Prop} {d : PySem.DefRec} {x : Str}
    (hn : l.most = some n) (hn2 : n ≤ sizeLine) (hdf : d.params.defaults = []) (hr : Room k PySem.callerA)
    (F : ∀ (w : PySem.World) (mg : Str → Option Value) (fa : Addr) (h : PySem.Heap), YP w h → h.Ns PySem.mainGlobals mg → mg d.name = some (.ref fa) →
      ∃ (G : Gx) (g : Fn) (fd : PySem.FuncData), G.K.In h ∧ (∀ ns : List Int, ns.length ≤ n → ∃ S, g [.scr ns] [] = .ok (.bl true) S) ∧ (∀ (s : PySem.Shared) (u : Value), PySem.BindsTo s fd ⟨[u], []⟩ [(x, u)]) ∧
        ∀ base : PySem.Heap, G.K.In base → base.Ns PySem.mainGlobals mg → L2.FnOk l.prog w G.K mg base (L2.CX l.prog w) k fa fd [x] (spF G g)) :
    PySem.W.WalkO q loose XP YP l.row.toRowW d [] (fun f vs => PySem.call f vs) := by
  refine Att.attach_call hn hdf fun w s₀ s₁ mg mb fa o pm cd doc a vs ns G Y ho hd hcd hmg hobj hints hlen hg => ?_
  obtain ⟨G', g, fd, KX, hp, hb, hF⟩ := F w mg fa _ Y G.T.g hmg
  exact L2.law_call KX G.T.g G.T.b G.T.builtins G.T.nolimit hg hobj hints (Nat.le_trans hlen hn2) hr hF hb (fun H hO hS => law_sp hS (hp ns hlen)) fun H e s' h => cx_none h
section
variable {P : PySem.Program} {w : PySem.World} {mg : Str → Option Value} {base : PySem.Heap} {G : Gx} {k : Nat} {fn : Nat → Str}
theorem fns_nil : ∀ p ∈ ([] : List (Nat × Fn)), FnAt P w mg base G k (fn p.1) p.2 := fun _ h => nomatch h
theorem fns_cons {i : Nat} {g : Fn} {l : List (Nat × Fn)} (h : FnAt P w mg base G k (fn i) g) (t : ∀ p ∈ l, FnAt P w mg base G k (fn p.1) p.2) : ∀ p ∈ (i, g) :: l, FnAt P w mg base G k (fn p.1) p.2 := fun p hp => by
  rcases List.mem_cons.mp hp with rfl | hp
  · exact h
  · exact t p hp
theorem frs_nil : ∀ p ∈ ([] : List (Nat × Fn)), FnAtF P w mg base G k (fn p.1) p.2 := fun _ h => nomatch h
theorem frs_cons {i : Nat} {g : Fn} {l : List (Nat × Fn)} (h : FnAtF P w mg base G k (fn i) g) (t : ∀ p ∈ l, FnAtF P w mg base G k (fn p.1) p.2) : ∀ p ∈ (i, g) :: l, FnAtF P w mg base G k (fn p.1) p.2 := fun p hp => by
  rcases List.mem_cons.mp hp with rfl | hp
  · exact h
  · exact t p hp
def GloAt (mg : Str → Option Value) (G : Gx) (x : Str) (d : D) : Prop := ∃ v u, mg x = some u ∧ L2.RelV v u ∧ ∀ m A H, RV G.K m A H v d
theorem gls_nil : ∀ p ∈ ([] : List (Nat × D)), ∃ v u, mg (fn p.1) = some u ∧ L2.RelV v u ∧ ∀ m A H, RV G.K m A H v p.2 := fun _ h => nomatch h
theorem gls_cons {i : Nat} {g : D} {l : List (Nat × D)} (h : GloAt mg G (fn i) g) (t : ∀ p ∈ l, ∃ v u, mg (fn p.1) = some u ∧ L2.RelV v u ∧ ∀ m A H, RV G.K m A H v p.2) : ∀ p ∈ (i, g) :: l, ∃ v u, mg (fn p.1) = some u ∧ L2.RelV v u ∧ ∀ m A H, RV G.K m A H v p.2 := fun p hp => by
  rcases List.mem_cons.mp hp with rfl | hp
  · exact h
  · exact t p hp
end
/-- constants of the module -/
theorem rv_lit {K : PySem.W.Frag} {m : List Addr} {A : Addr → Prop} {H : Hp} {x : Str} {s : List Nat} (h : x.cps.toList = s) (hs : s.all (fun c => decide (c < 1114112)) = true ∧ s.length ≤ 1000 := by decide) : RV K m A H (.str x) (.str s) := by
  subst h
  exact .str x ⟨fun c hc => of_decide_eq_true (List.all_eq_true.mp hs.1 c hc), Nat.le_trans hs.2 (by rw [PySem.sizeLine_eq]; decide)⟩
def bareB (K : PySem.W.Frag) (p : Addr) : Bool := match K.lookup p with
  | some o => o.dict.isNone
  | none => false
theorem ktup_of {K : PySem.W.Frag} {m : List Addr} {A : Addr → Prop} {H : Hp} {p : Addr} {vs : List V} {ds : List D} (h : SqT K (fun _ => none) p vs) (hb : bareB K p = true) (r : RL K m A H vs ds) (b : ds.all strB = true := by decide) : RV K m A H (.ref p) (.tup ds) := by
  rcases h with (h | ⟨_, h⟩) | h
  · cases h
  · cases h
  · obtain ⟨o, its, n, e1, e2, e3, e4, e5⟩ := h
    unfold bareB at hb
    rw [e1] at hb
    exact .ktp ⟨o, its, n, e1, e2, e3, e4, e5, Option.isNone_iff_eq_none.mp hb⟩ b r
/-! ### classes of exceptions -/
def clOf (cs : List (Nat × Str)) (i : Nat) : Str := (cs.lookup i).getD ""
def excCB (K : PySem.W.Frag) (x : Str) : Bool :=
  He.eqO (PySem.W.findIn K (.ref (He.ga K x)) "__getattribute__") (some (some (.builtin "BaseException.__getattribute__"))) && (He.eqO (PySem.W.findIn K (.ref (He.ga K x)) "__getattr__") (some none) &&
  (PySem.W.hasDictIn K (He.ga K x) && (He.eqO (PySem.W.findIn K (.ref (He.ga K x)) "__class__") (some (some (.builtin "object.__class__"))) &&
  (He.eqO (PySem.W.specialIn K (.builtin "object.__class__") "__get__") (some (some (.builtin "getset_descriptor.__get__"))) && (decide (PySem.W.takesIn K (.builtin "object.__class__") = some true) && decide (PySem.W.mroIn K (He.ga K x) (.type "object") = some true))))))
def excAll (K : PySem.W.Frag) (cs : List (Nat × Str)) : Bool := cs.all fun p => decide (clOf cs p.1 = p.2) && ((He.Fa.exc p.2).ok K && (excCB K p.2 && cs.all fun q =>
  decide (PySem.W.exmOne K (.ref (He.ga K p.2)) (.ref (He.ga K q.2)) = some (p.1 == q.1 || q.1 == 1)) && decide (PySem.W.kitOne K (.ref (He.ga K p.2)) (.ref (He.ga K q.2)) = some (p.1 == q.1 || q.1 == 1))))
theorem exc_facts {K : PySem.W.Frag} {mg : Str → Option Value} {cs : List (Nat × Str)} {fld : Nat → Str} {ea : Addr} (h : excAll K cs = true) (hg : ∀ p ∈ cs, mg p.2 = some (.ref (He.ga K p.2))) :
    (∀ i ∈ cs.map (·.1), ∀ j ∈ cs.map (·.1), SubAt mg ⟨K, fun i => He.ga K (clOf cs i), fld, ea⟩ (clOf cs) i j (i == j || j == 1)) ∧ ∀ i ∈ cs.map (·.1), ExcAt mg ⟨K, fun i => He.ga K (clOf cs i), fld, ea⟩ (clOf cs) i := by
  have f := List.all_eq_true.mp h
  constructor
  · intro i hi j hj
    obtain ⟨p, hp, rfl⟩ := List.mem_map.mp hi
    obtain ⟨q, hq, rfl⟩ := List.mem_map.mp hj
    obtain ⟨p1, p2⟩ := ba (f p hp)
    obtain ⟨q1, _⟩ := ba (f q hq)
    have p1 := of_decide_eq_true p1
    have q1 := of_decide_eq_true q1
    obtain ⟨p2, p3⟩ := ba p2
    obtain ⟨p3, p4⟩ := ba p3
    obtain ⟨r1, r2⟩ := ba (List.all_eq_true.mp p4 q hq)
    obtain ⟨e1, e2, e3, e4⟩ := He.exc_ok p2
    obtain ⟨x1, x⟩ := ba p3
    obtain ⟨x2, x⟩ := ba x
    obtain ⟨x3, x⟩ := ba x
    obtain ⟨x4, x⟩ := ba x
    obtain ⟨x5, x⟩ := ba x
    obtain ⟨x6, x7⟩ := ba x
    refine ⟨?_, ?_, ?_, ?_⟩
    · show mg (clOf cs q.1) = some (.ref (He.ga K (clOf cs q.1)))
      rw [q1]; exact hg q hq
    · show PySem.W.exmOne K (.ref (He.ga K (clOf cs p.1))) (.ref (He.ga K (clOf cs q.1))) = _
      rw [p1, q1]; exact of_decide_eq_true r1
    · show PySem.W.kitOne K (.ref (He.ga K (clOf cs p.1))) (.ref (He.ga K (clOf cs q.1))) = _
      rw [p1, q1]; exact of_decide_eq_true r2
    · show L2.ExcC K (He.ga K (clOf cs p.1))
      rw [p1]
      exact ⟨He.eqO_ok x1, He.eqO_ok x2, e3, x3, He.eqO_ok x4, He.eqO_ok x5, of_decide_eq_true x6, of_decide_eq_true x7⟩
  · intro i hi
    obtain ⟨p, hp, rfl⟩ := List.mem_map.mp hi
    obtain ⟨p1, p2⟩ := ba (f p hp)
    have p1 := of_decide_eq_true p1
    obtain ⟨e1, e2, e3, e4⟩ := He.exc_ok (ba p2).1
    refine ⟨?_, ⟨_, _, _, _, PySem.F.excBase_ValueError, ?_⟩, ?_, ?_, ?_⟩
    · show mg (clOf cs p.1) = some (.ref (He.ga K (clOf cs p.1)))
      rw [p1]; exact hg p hp
    all_goals (show _ = _; first
      | (show PySem.W.excIn K (He.ga K (clOf cs p.1)) _ _ = true; rw [p1]; exact e1)
      | (show PySem.W.keepIn K (.ref (He.ga K (clOf cs p.1))) = true; rw [p1]; exact e2)
      | (show PySem.W.subIn K (.ref (He.ga K (clOf cs p.1))) _ = some true; rw [p1]; exact e3)
      | (show PySem.W.typeIn K (.ref (He.ga K (clOf cs p.1))) = _; rw [p1]; exact e4))
/-! ### classes, methods -/
def fldOfL (l : List Str) (i : Nat) : Str := match l[i]? with
  | some x => x
  | none => ⟨#[1114112 + i]⟩
def fldsOk (l : List Str) : Bool := decide l.Nodup && l.all (fun x => x.cps.toList.all (fun c => decide (c < 1114112)))
theorem fld_inj {l : List Str} (h : fldsOk l = true) : ∀ i j, fldOfL l i = fldOfL l j → i = j := by
  obtain ⟨h1, h2⟩ := ba h
  have h1 := of_decide_eq_true h1
  have far : ∀ (i : Nat) (x : Str), x ∈ l → x ≠ ⟨#[1114112 + i]⟩ := fun i x hx z => by
    have := List.all_eq_true.mp h2 x hx
    rw [z] at this
    simp at this
    omega
  intro i j e
  unfold fldOfL at e
  cases hi : l[i]? with
  | some x =>
    cases hj : l[j]? with
    | some y =>
      rw [hi, hj] at e
      obtain ⟨k1, k2⟩ := List.getElem?_eq_some_iff.mp hi
      obtain ⟨k3, k4⟩ := List.getElem?_eq_some_iff.mp hj
      exact (List.getElem_inj h1).mp (by rw [k2, k4]; exact e)
    | none =>
      rw [hi, hj] at e
      exact (far j x (List.mem_of_getElem? hi) e).elim
  | none =>
    cases hj : l[j]? with
    | some y =>
      rw [hi, hj] at e
      exact (far i y (List.mem_of_getElem? hj) e.symm).elim
    | none =>
      rw [hi, hj] at e
      have e2 : #[1114112 + i] = #[1114112 + j] := congrArg Str.cps e
      have : (1114112 + i) = 1114112 + j := by simpa using e2
      omega
section
variable {P : PySem.Program} {w : PySem.World} {mg : Str → Option Value} {base : PySem.Heap} {G : Gx} {k j : Nat} {x : Str} {g : Fn}
theorem MtAt.mono {C m : Nat} {n : Str} (h : MtAt P w mg base G j C m n g) (hk : j ≤ k) : MtAt P w mg base G k C m n g := by
  obtain ⟨h1, h2, f, fd, ps, h3, h4, h5⟩ := h
  exact ⟨h1, h2, f, fd, ps, h3, h4, h5.mono hk⟩
theorem MkAt.mono {C : Nat} {n : Str} {dfl : List D} (h : MkAt P w mg base G j C n g dfl) (hk : j ≤ k) : MkAt P w mg base G k C n g dfl := by
  obtain ⟨h1, i, f, fd, ps, dvs, dus, hi, h2, h3, h4, h5, h6⟩ := h
  exact ⟨h1, k - 1, f, fd, ps, dvs, dus, by omega, h2, h3, h4, h5, h6.mono (by omega)⟩
theorem LowAt.mono {cl : Nat → Str} {C : Nat} (h : LowAt P w mg base G j cl C) (hk : j ≤ k) : LowAt P w mg base G k cl C := by
  obtain ⟨h1, h2, h3, h4, i, f, fd, ps, hi, h5, h6, h7, h8⟩ := h
  exact ⟨h1, h2, h3, h4, k - 1, f, fd, ps, by omega, h5, h6, h7, h8.mono (by omega)⟩
theorem list_nil {α : Type} {p : α → Prop} : ∀ q ∈ ([] : List α), p q := fun _ h => nomatch h
theorem list_cons {α : Type} {p : α → Prop} {a : α} {l : List α} (h : p a) (t : ∀ q ∈ l, p q) : ∀ q ∈ a :: l, p q := fun q hq => by
  rcases List.mem_cons.mp hq with rfl | hq
  · exact h
  · exact t q hq
/-- an __init__ that keeps a thing as "stands" -/
def lowB (scope : Scope) : List Stmt → Bool
  | [.Assign [.Attribute (.Name a _) f _] (.Name b _) _] => decide (a = ("self" : Str)) && (decide (f = ("stands" : Str)) && (decide (b = ("stands" : Str)) && (decide (scope.kind = .function) && (!scope.isCoroutine && (!scope.isGenerator && (decide (scope.names.lookup ("self" : Str) = some .local) && (decide (scope.names.lookup ("stands" : Str) = some .local) && scope.names.all (fun y => match y.2 with
    | .free => false
    | _ => true))))))))
  | _ => false
theorem low_ok {C : Addr} {qual : Str} {params : PySem.Arguments} {body : List Stmt} {scope : Scope} {f : Addr} {fd : PySem.FuncData} (D : L2.FunD G.K x qual params body scope [] [] f fd) (hb : lowB scope body = true) (T : L2.OexC G.K C) (hn : PySem.W.findIn G.K (.ref C) ("stands" : Str) = some none) :
    L2.FnOk P w G.K mg base (L2.CX P w) 1 f fd ["self", "stands"] (spLow C) := by
  unfold lowB at hb
  split at hb
  · obtain ⟨h1, hb⟩ := ba hb
    obtain ⟨h2, hb⟩ := ba hb
    obtain ⟨h3, hb⟩ := ba hb
    obtain ⟨h4, hb⟩ := ba hb
    obtain ⟨h5, hb⟩ := ba hb
    obtain ⟨h6, hb⟩ := ba hb
    obtain ⟨h7, hb⟩ := ba hb
    obtain ⟨h8, h9⟩ := ba hb
    have e1 := of_decide_eq_true h1
    have e2 := of_decide_eq_true h2
    have e3 := of_decide_eq_true h3
    subst e1 e2 e3
    have v1 := of_decide_eq_true h7
    have v2 := of_decide_eq_true h8
    have S : L2.FnScope ["self", "stands"] ["self", "stands"] scope := by
      refine ⟨of_decide_eq_true h4, by simpa using h5, by simpa using h6, by decide +kernel, rfl, fun y hy => ?_, fun y hy e => ?_⟩
      · rcases List.mem_cons.mp hy with rfl | hy
        · exact .inl v1
        · rcases List.mem_cons.mp hy with rfl | hy
          · exact .inl v2
          · cases hy
      · have z := List.all_eq_true.mp h9 y hy
        rw [e] at z
        cases z
    refine D.ok S (fun vs H Q E h => ?_) fun cdv A outer s H vs Q E hr hsp => ?_
    · obtain ⟨a, v, rfl, _⟩ := h
      rfl
    · refine ⟨_, L2.pss_one (L2.ps_ost (L2.pe_var (i := 0) rfl (.inl v1)) (L2.pe_var (i := 1) rfl (.inl v2))), ?_⟩
      obtain ⟨a, v, rfl, ha, hq⟩ := hsp
      exact ⟨v, rfl, .ref a, rfl, a, C, rfl, T, hn, .inl ⟨ha, hq⟩⟩
  · cases hb
end
def oexB (K : PySem.W.Frag) (C : Addr) : Bool := (match K.lookup C with
  | some ⟨.type "type", _, .cls cd, sl⟩ => (match cd.mro, sl.toList with
    | .ref C' :: bm, [_, _, _, _, some (.builtin n), _] => decide (C' = C) && (n == "ValueError.__new__" && (!cd.hasDel && (cd.hasDict && PySem.HandSPX.refsVE bm)))
    | _, _ => false)
  | _ => false) && (He.eqO (PySem.W.findIn K (.ref C) "__setattr__") (some (some (.builtin "object.__setattr__"))) && (decide (PySem.W.subIn K (.ref C) (.type "BaseException") = some true) && (decide (PySem.W.typeIn K (.ref C) = some (.type "type")) && PySem.W.keepIn K (.ref C))))
theorem oexB_ok {K : PySem.W.Frag} {C : Addr} (h : oexB K C = true) : L2.OexC K C := by
  obtain ⟨q, h⟩ := ba h
  obtain ⟨h1, h⟩ := ba h
  obtain ⟨h2, h⟩ := ba h
  obtain ⟨h3, h4⟩ := ba h
  refine ⟨?_, He.eqO_ok h1, of_decide_eq_true h2, of_decide_eq_true h3, h4⟩
  split at q
  · rename_i dd cd sl ho
    split at q
    · rename_i C' bm k0 k1 k2 k3 n k5 hm hs
      obtain ⟨q1, q⟩ := ba q
      obtain ⟨q2, q⟩ := ba q
      obtain ⟨q3, q⟩ := ba q
      obtain ⟨q4, q5⟩ := ba q
      have e1 := of_decide_eq_true q1
      have e2 : n = "ValueError.__new__" := by simpa using q2
      obtain ⟨nm, bs, mro, ns, qn, hd, sn, sub, ab, col, del⟩ := cd
      have hdel : del = false := by simpa using q3
      have hhd : hd = true := q4
      replace hm : mro = .ref C' :: bm := hm
      subst e1 e2 hdel hhd hm
      obtain ⟨l⟩ := sl
      replace hs : l = _ := hs
      subst hs
      exact ⟨nm, qn, ns, bs, bm, sn, sub, ab, col, dd, k0, k1, k2, k3, k5, ho, q5⟩
    · cases q
  · cases q
/-- classes that are raised: each below itself and the first -/
def subAll (K : PySem.W.Frag) (cl : Nat → Str) (cs : List (Nat × Str)) : Bool := cs.all fun p => decide (cl p.1 = p.2) && (decide (PySem.W.subIn K (.ref (He.ga K p.2)) (.type "BaseException") = some true) && (excCB K p.2 && cs.all fun q =>
  decide (PySem.W.exmOne K (.ref (He.ga K p.2)) (.ref (He.ga K q.2)) = some (p.1 == q.1 || q.1 == 1)) && decide (PySem.W.kitOne K (.ref (He.ga K p.2)) (.ref (He.ga K q.2)) = some (p.1 == q.1 || q.1 == 1))))
theorem sub_facts {K : PySem.W.Frag} {mg : Str → Option Value} {cl : Nat → Str} {cs : List (Nat × Str)} {G : Gx} (hK : G.K = K) (hc : ∀ i, G.cls i = He.ga K (cl i)) (h : subAll K cl cs = true) (hg : ∀ p ∈ cs, mg p.2 = some (.ref (He.ga K p.2))) :
    ∀ i ∈ cs.map (·.1), ∀ j ∈ cs.map (·.1), SubAt mg G cl i j (i == j || j == 1) := by
  have f := List.all_eq_true.mp h
  intro i hi j hj
  obtain ⟨p, hp, rfl⟩ := List.mem_map.mp hi
  obtain ⟨q, hq, rfl⟩ := List.mem_map.mp hj
  obtain ⟨p1, p2⟩ := ba (f p hp)
  obtain ⟨q1, _⟩ := ba (f q hq)
  have p1 := of_decide_eq_true p1
  have q1 := of_decide_eq_true q1
  obtain ⟨p2, p3⟩ := ba p2
  obtain ⟨p3, p4⟩ := ba p3
  obtain ⟨r1, r2⟩ := ba (List.all_eq_true.mp p4 q hq)
  have e3 := of_decide_eq_true p2
  obtain ⟨x1, x⟩ := ba p3
  obtain ⟨x2, x⟩ := ba x
  obtain ⟨x3, x⟩ := ba x
  obtain ⟨x4, x⟩ := ba x
  obtain ⟨x5, x⟩ := ba x
  obtain ⟨x6, x7⟩ := ba x
  refine ⟨?_, ?_, ?_, ?_⟩
  · rw [hc, q1]; exact hg q hq
  · rw [hK, hc, hc, p1, q1]; exact of_decide_eq_true r1
  · rw [hK, hc, hc, p1, q1]; exact of_decide_eq_true r2
  · rw [hK, hc, p1]
    exact ⟨He.eqO_ok x1, He.eqO_ok x2, e3, x3, He.eqO_ok x4, He.eqO_ok x5, of_decide_eq_true x6, of_decide_eq_true x7⟩
theorem exc_fact {K : PySem.W.Frag} {mg : Str → Option Value} {G : Gx} {cl : Nat → Str} {i : Nat} {x : Str} (hK : G.K = K) (hc : G.cls i = He.ga K x) (hx : cl i = x) (h : (He.Fa.exc x).ok K = true) (hg : mg x = some (.ref (He.ga K x))) : ExcAt mg G cl i := by
  obtain ⟨e1, e2, e3, e4⟩ := He.exc_ok h
  refine ⟨by rw [hx, hc]; exact hg, ⟨_, _, _, _, PySem.F.excBase_ValueError, by rw [hK, hc]; exact e1⟩, by rw [hK, hc]; exact e2, by rw [hK, hc]; exact e3, by rw [hK, hc]; exact e4⟩
theorem low_fact {P : PySem.Program} {w : PySem.World} {base : PySem.Heap} {K : PySem.W.Frag} {mg : Str → Option Value} {G : Gx} {cl : Nat → Str} {i : Nat} {x qual : Str} {params : PySem.Arguments} {body : List Stmt} {scope : Scope} {fd : PySem.FuncData} (hK : G.K = K) (hc : G.cls i = He.ga K x) (hx : cl i = x)
    (D : L2.FunD K "__init__" qual params body scope [] [] (He.ma K (He.ga K x) "__init__") fd) (bd : L2.Binds K fd ["self", "stands"] []) (hb : lowB scope body = true) (ho : oexB K (He.ga K x) = true) (hxf : L2.xfB K (He.ga K x) = true) (hn : He.eqO (PySem.W.findIn K (.ref (He.ga K x)) ("stands" : Str)) (some none) = true)
    (hi : (He.eqO (PySem.W.findIn K (.ref (He.ga K x)) "__init__") (some (some (.ref (He.ma K (He.ga K x) "__init__"))))) = true) (ht : decide (PySem.W.typeIn K (.ref (He.ma K (He.ga K x) "__init__")) = some (.type "function")) = true) (hg : mg x = some (.ref (He.ga K x))) : LowAt P w mg base G 2 cl i := by
  subst hK
  have T := oexB_ok ho
  have N := He.eqO_ok hn
  refine ⟨by rw [hx, hc]; exact hg, by rw [hc]; exact T, by rw [hc]; exact L2.xfB_ok hxf, by rw [hc]; exact N, 1, _, fd, _, rfl, by rw [hc]; exact He.eqO_ok hi, of_decide_eq_true ht, bd, by rw [hc]; exact low_ok D hb T N⟩
end Mi
/-! Mini: def f(mark): return mark.replace('x', '') == ''. -/
namespace Mi
open PySem (Str Addr Value Expr Stmt Scope PyData sizeLine Const NameKind Operator CmpOp Comprehension)
open L2 (V Hp HO Key upd Rd SqL SqT Cx VK R2 OpR CallR MtR IxR SlR PE PT PW PA PI PG PS PSs TE TT TA TI TG TS WX Takes Room Ends)
theorem repl_x : ∀ s : List Nat, PySem.StrLaws.replL [120] [] s = s.filter (· != 120)
  | [] => PySem.StrLaws.replL_nil
  | c :: r => by
    by_cases h : c = 120
    · subst h
      rw [PySem.StrLaws.replL_hit (by decide) (by simp)]
      simpa using repl_x r
    · rw [PySem.StrLaws.replL_miss (by simpa using h), repl_x r]
      simp [h]
def ovRet : List Stmt → Option (Expr × PySem.Pos)
  | [.Return (some e) p] => some (e, p)
  | _ => none
def ovEq1 : List CmpOp → Bool
  | [.Eq] => true
  | _ => false
def ovOne : List Expr → Option Expr
  | [e] => some e
  | _ => none
def ovTwo : List Expr → Option (Expr × Expr)
  | [e, f] => some (e, f)
  | _ => none
def ovCmp : Expr → Option (Expr × List CmpOp × List Expr × PySem.Pos)
  | .Compare a o b p => some (a, o, b, p)
  | _ => none
def ovCall : Expr → Option (Expr × List Expr × PySem.Pos)
  | .Call f es [] p => some (f, es, p)
  | _ => none
def ovAttr : Expr → Option (Expr × Str × PySem.Pos)
  | .Attribute e n p => some (e, n, p)
  | _ => none
def ovName : Expr → Option (Str × PySem.Pos)
  | .Name n p => some (n, p)
  | _ => none
def ovConst : Expr → Option (Const × Nat × PySem.Pos)
  | .Constant c j p => some (c, j, p)
  | _ => none
def ovStr : Const → Option Str
  | .str s => some s
  | _ => none
def cStr (e : Expr) : Option Str := (ovConst e).bind fun c => ovStr c.1
theorem cStr_ok {e : Expr} {x : Str} (h : cStr e = some x) : ∃ j p, e = .Constant (.str x) j p := by
  unfold cStr at h
  cases e with
  | Constant c j p =>
    cases c with
    | str s => cases h; exact ⟨j, p, rfl⟩
    | _ => cases h
  | _ => cases h
theorem ovRet_ok {b : List Stmt} {e : Expr} {p : PySem.Pos} (h : ovRet b = some (e, p)) : b = [.Return (some e) p] := by
  unfold ovRet at h
  split at h
  · cases h; rfl
  · cases h
theorem ovEq1_ok {o : List CmpOp} (h : ovEq1 o = true) : o = [.Eq] := by
  unfold ovEq1 at h
  split at h
  · rfl
  · cases h
theorem ovOne_ok {b : List Expr} {e : Expr} (h : ovOne b = some e) : b = [e] := by
  unfold ovOne at h
  split at h
  · cases h; rfl
  · cases h
theorem ovTwo_ok {b : List Expr} {e f : Expr} (h : ovTwo b = some (e, f)) : b = [e, f] := by
  unfold ovTwo at h
  split at h
  · cases h; rfl
  · cases h
theorem ovCmp_ok {x a : Expr} {o : List CmpOp} {b : List Expr} {p : PySem.Pos} (h : ovCmp x = some (a, o, b, p)) : x = .Compare a o b p := by
  unfold ovCmp at h
  split at h
  · cases h; rfl
  · cases h
theorem ovCall_ok {x f : Expr} {es : List Expr} {p : PySem.Pos} (h : ovCall x = some (f, es, p)) : x = .Call f es [] p := by
  unfold ovCall at h
  split at h
  · cases h; rfl
  · cases h
theorem ovAttr_ok {x f : Expr} {n : Str} {p : PySem.Pos} (h : ovAttr x = some (f, n, p)) : x = .Attribute f n p := by
  unfold ovAttr at h
  split at h
  · cases h; rfl
  · cases h
theorem ovName_ok {x : Expr} {n : Str} {p : PySem.Pos} (h : ovName x = some (n, p)) : x = .Name n p := by
  unfold ovName at h
  split at h
  · cases h; rfl
  · cases h
/-- such a body -/
def openV (body : List Stmt) : Option Bool :=
  (ovRet body).bind fun r => (ovCmp r.1).bind fun c => (ovOne c.2.2.1).bind fun u => (ovCall c.1).bind fun d => (ovAttr d.1).bind fun a => (ovName a.1).bind fun n => (ovTwo d.2.1).bind fun t =>
    some (ovEq1 c.2.1 && (decide (n.1 = "mark") && (decide (a.2.1 = "replace") && (decide (cStr t.1 = some ("x" : Str)) && (decide (cStr t.2 = some ("" : Str)) && (decide (cStr u = some ("" : Str)) && (a.2.2.endLine == d.2.2.line)))))))
theorem openV_ok {body : List Stmt} (h : openV body = some true) : ∃ (p1 ap p2 p3 p4 c0 c1 c2 : PySem.Pos) (j k i : Nat),
    body = [.Return (some (.Compare (.Call (.Attribute (.Name "mark" p1) "replace" ap) [.Constant (.str "x") j c0, .Constant (.str "") k c1] [] p2) [.Eq] [.Constant (.str "") i c2] p3)) p4] ∧ (ap.endLine == p2.line) = true := by
  unfold openV at h
  rcases r : ovRet body with _ | ⟨e, p4⟩
  · rw [r] at h; cases h
  rw [r, Option.bind_some] at h
  rcases c : ovCmp e with _ | ⟨x, o, ys, p3⟩
  · rw [c] at h; cases h
  rw [c, Option.bind_some] at h
  rcases u : ovOne ys with _ | y
  · rw [u] at h; cases h
  rw [u, Option.bind_some] at h
  rcases d : ovCall x with _ | ⟨fx, es, p2⟩
  · rw [d] at h; cases h
  rw [d, Option.bind_some] at h
  rcases a : ovAttr fx with _ | ⟨nx, at', ap⟩
  · rw [a] at h; cases h
  rw [a, Option.bind_some] at h
  rcases n : ovName nx with _ | ⟨nm, p1⟩
  · rw [n] at h; cases h
  rw [n, Option.bind_some] at h
  rcases t : ovTwo es with _ | ⟨y0, z0⟩
  · rw [t] at h; cases h
  rw [t, Option.bind_some] at h
  obtain ⟨h1, h⟩ := ba (Option.some.inj h)
  obtain ⟨h2, h⟩ := ba h
  obtain ⟨h3, h⟩ := ba h
  obtain ⟨h4, h⟩ := ba h
  obtain ⟨h5, h⟩ := ba h
  obtain ⟨h6, h7⟩ := ba h
  obtain ⟨j, c0, rfl⟩ := cStr_ok (of_decide_eq_true h4)
  obtain ⟨k, c1, rfl⟩ := cStr_ok (of_decide_eq_true h5)
  obtain ⟨i, c2, rfl⟩ := cStr_ok (of_decide_eq_true h6)
  have e2 : nm = "mark" := of_decide_eq_true h2
  have e3 : at' = "replace" := of_decide_eq_true h3
  refine ⟨p1, ap, p2, p3, p4, c0, c1, c2, j, k, i, ?_, h7⟩
  have ho := ovEq1_ok (o := o) h1
  rw [ovRet_ok r, ovCmp_ok c, ovOne_ok u, ovCall_ok d, ovAttr_ok a, ovName_ok n, ovTwo_ok t, ho, e2, e3]
def openB (scope : Scope) (body : List Stmt) : Bool :=
  decide (scope.kind = .function) && (!scope.isCoroutine && (!scope.isGenerator && (decide (scope.names.lookup ("mark" : Str) = some .local) && (scope.names.all (fun y => match y.2 with
    | .free => false
    | .cell => false
    | _ => true) && decide (openV body = some true)))))
section
variable {X : Cx}
theorem pet_cmp {op : CmpOp} {r : R2} {a b : Expr} {ta tb : TE} {pos : PySem.Pos} (ho : OpR X (PySem.compareOp op) r) (ha : L2.PET X a ta) (hb : PE X b tb) (hm : PySem.behindInMarks op b = false) : L2.PET X (.Compare a [op] [b] pos) (L2.tOp r ta tb) :=
  fun pins s σ H Q h0 I h => PySem.wpAny_Compare1 (L2.thn (ha pins s σ H _ h0 I h) fun v s1 ⟨x, H1, I1, r1, q1⟩ => L2.thn (hb.run pins s1 σ H1 _ I1 q1) fun u s2 ⟨y, H2, I2, r2, q2⟩ => ho pins s2 σ H2 x y v u Q I2 r1 r2 q2) hm
end
section
variable {P : PySem.Program} {w : PySem.World} {mg : Str → Option Value} {base : PySem.Heap} {G : Gx} {k : Nat} {x : Str}
theorem open_len {vs : List V} {H : Hp} {Q : VK} {E : L2.XK} (h : spF G fnOpen vs H Q E) : vs.length = 1 := by
  obtain ⟨ds, S, m, A, h1, h2, r, h⟩ := h
  rw [r.length]
  match ds, h with
  | [_], _ => rfl
  | [], h => exact (show False from h).elim
  | a :: b :: c, h => exact (show False from (by cases a <;> exact h)).elim
theorem open_ok {qual : Str} {params : PySem.Arguments} {body : List Stmt} {scope : Scope} {f : Addr} {fd : PySem.FuncData} (D : L2.FunD G.K x qual params body scope [] [] f fd) (hd : openB scope body = true) :
    L2.FnOk P w G.K mg base (L2.CX P w) (k + 1) f fd ["mark"] (spF G fnOpen) := by
  obtain ⟨oc, od, dV, kV, doc, pm, an, cdv, ct, osl, rfl, lk, hcd, _, _⟩ := D.ex
  obtain ⟨h1, hd⟩ := ba hd
  obtain ⟨h2, hd⟩ := ba hd
  obtain ⟨h3, hd⟩ := ba hd
  obtain ⟨h4, hd⟩ := ba hd
  obtain ⟨h5, hd⟩ := ba hd
  have hl := of_decide_eq_true h4
  have S : L2.FnScope ["mark"] ["mark"] scope := ⟨of_decide_eq_true h1, by simpa using h2, by simpa using h3, by decide, rfl, fun x hx => by
    rw [List.mem_singleton.mp hx]
    exact .inl hl, fun y hy e => by
    have z := List.all_eq_true.mp h5 y hy
    rw [e] at z
    cases z⟩
  obtain ⟨p1, ap, p2, p3, p4, c0, c1, c2, j, i, j2, rfl, e6⟩ := openV_ok (of_decide_eq_true hd)
  refine L2.fn_ofT lk hcd S (fun y hy e => ?_) (by decide) (fun vs H Q E h => open_len h) fun A outer s H vs Q E hr hsp => ?_
  · have z := List.all_eq_true.mp h5 y hy
    rw [e] at z
    cases z
  · have hX : (L2.cxOf (L2.CX P w) P w G.K mg base ["mark"] qual scope f cdv A outer s H E).A.units + 64 < PySem.cLine := hr.units
    refine ⟨_, CwR.psst_one (CwR.pst_ret (pet_cmp (og_eq hX) (CwR.pet_replC (L2.pe_var (i := 0) rfl (.inl hl)) (by decide) rfl rfl e6) L2.pe_str rfl)), ?_⟩
    obtain ⟨ds, S0, m, A0, g1, g2, r, h⟩ := hsp
    match ds, r, h with
    | [.str t], r, h =>
      cases r with
      | cons r1 r2 =>
        cases r2
        cases r1 with
        | str tx ok =>
          simp only [fnOpen] at h
          by_cases hlen : tx.cps.toList.length ≤ lim
          · rw [if_pos hlen] at h
            have hlen' : tx.length ≤ 1000000 := hlen
            have er : (PySem.Txt.replace tx "x" "").cps.toList = tx.cps.toList.filter (· != 120) := by
              rw [PySem.StrLaws.replace_list (by decide)]
              exact repl_x _
            refine ⟨.str tx, rfl, tx, rfl, by rw [show ("" : Str).length = 0 from rfl]; omega, ?_⟩
            refine ⟨m, A0, .str _, .str _, .bl (tx.cps.toList.all (· == 120)), ⟨g2, fun a h => g1.live h⟩, .str _ ?_, .str _ ⟨by decide, by decide⟩, ?_, fun v H' n r' => ?_⟩
            · rw [er]
              exact ⟨fun c hc => ok.1 c (List.mem_filter.mp hc).1, Nat.le_trans (List.length_filter_le _ _) ok.2⟩
            · rw [er, op_eq]
              have : eqO (.str (tx.cps.toList.filter (· != 120))) (.str []) = some (tx.cps.toList.all (· == 120)) := by
                simp only [eqO, pl, and_self, if_true, deq]
                congr 1
                rw [Bool.eq_iff_iff]
                simp only [beq_iff_eq, List.filter_eq_nil_iff, List.all_eq_true, bne_iff_ne, ne_eq, Decidable.not_not]
              exact congrArg (Option.map Mi.D.bl) this
            · refine h v H' m n.ext (g1.grow n.ext (fun a z => .inl z) (fun a ha => ?_)) r'
              rcases n with rfl | ⟨p, o, hp, rfl⟩
              · rfl
              · exact L2.upd_ne fun e => g1.live ha (e ▸ hp)
          · rw [if_neg hlen] at h
            exact h.elim
theorem open_at {qual : Str} {params : PySem.Arguments} {body : List Stmt} {scope : Scope} {f : Addr} {fd : PySem.FuncData} (D : L2.FunD G.K x qual params body scope [] [] f fd) (hf : mg x = some (.ref f))
    (hbd : L2.Binds G.K fd ["mark"] []) (hd : openB scope body = true) : FnAt P w mg base G (k + 1) x fnOpen :=
  ⟨f, fd, ["mark"], hf, D.kp, hbd, open_ok D hd⟩
end
end Mi
namespace Lw
open Mi
open PySem (Str Addr Value Expr Stmt Scope)
def fdAll : List (Nat × Nat) := [(11, 0), (11, 1), (11, 2), (11, 3), (11, 4), (11, 5), (11, 6), (11, 7), (12, 8), (12, 9), (12, 10), (12, 11), (12, 12), (12, 13)]
/-- _law_drawn: 0 script, 1 k, 2 many, 3 cell, 4 turn, 5 rest -/
def b__law_drawn : Sms :=
  (.cons (.asg (.name 3) (.op .mul (.cst (.int 7)) (.var 1)))
  (.cons (.ifs (.op .ne (.var 0) (.lst .nil)) (.cons (.asg (.name 3) (.idx (.var 0) (.op .mod (.var 1) (.f1 .len (.var 0)))))
  (.cons (.asg (.name 4) (.op .fdv (.var 1) (.f1 .len (.var 0))))
  (.cons (.ifs (.and (.op .ge (.var 3) (.op .pow (.cst (.int 10)) (.cst (.int 18)))) (.op .lt (.var 4) (.cst (.int 60)))) (.cons (.asg (.name 5) (.op .fdv (.var 3) (.op .pow (.cst (.int 10)) (.cst (.int 18)))))
  (.cons (.whl (.and (.op .gt (.var 5) (.cst (.int 0))) (.op .gt (.var 4) (.cst (.int 0)))) (.cons (.asg (.name 5) (.op .fdv (.var 5) (.cst (.int 1000000))))
  (.cons (.asg (.name 4) (.op .sub (.var 4) (.cst (.int 1))))
  .nil)))
  (.cons (.ifs (.op .gt (.var 5) (.cst (.int 0))) (.cons (.ret (.op .mod (.op .mod (.var 5) (.cst (.int 1000000))) (.var 2)))
  .nil) .nil)
  .nil))) .nil)
  (.cons (.asg (.name 3) (.op .add (.var 3) (.op .mul (.cst (.int 6553)) (.op .fdv (.var 1) (.f1 .len (.var 0))))))
  .nil)))) .nil)
  (.cons (.asg (.name 3) (.op .mod (.op .add (.op .mul (.op .mod (.var 3) (.cst (.int 2147483563))) (.cst (.int 69069))) (.op .mul (.cst (.int 104723)) (.op .add (.var 1) (.cst (.int 1))))) (.cst (.int 2147483563))))
  (.cons (.asg (.name 3) (.op .mod (.op .add (.op .mul (.var 3) (.var 3)) (.op .fdv (.var 3) (.cst (.int 3)))) (.cst (.int 2147483399))))
  (.cons (.ret (.op .mod (.op .fdv (.op .mod (.op .add (.op .mul (.var 3) (.var 3)) (.op .fdv (.var 3) (.cst (.int 7)))) (.cst (.int 2147483647))) (.cst (.int 11))) (.var 2)))
  .nil)))))
def fn__law_drawn : Fn := fnOf (tabOf [] []) 3 6 b__law_drawn
/-- _law_names: 0 script, 1 at, 2 letters, 3 one, 4 found, 5 name, 6 k -/
def b__law_names : Sms :=
  (.cons (.asg (.name 2) (.cst (.str [97, 98, 99, 100, 101, 102, 103, 104, 105, 106, 107, 108, 109, 110, 111, 112, 113, 114, 115, 116, 117, 118, 119, 120, 121, 122])))
  (.cons (.asg (.name 3) (.meth .join (.cst (.str [])) (.comp (.idx (.var 2) (.call 3 (.cons (.var 0) (.cons (.op .add (.var 1) (.var 6)) (.cons (.cst (.int 26)) .nil))))) (.name 6) (.rng (.op .add (.cst (.int 1)) (.call 3 (.cons (.var 0) (.cons (.op .add (.var 1) (.cst (.int 6))) (.cons (.cst (.int 6)) .nil)))))) [6])))
  (.cons (.new 4)
  (.cons (.each (.name 5) (.seq (.tup (.cons (.var 3) (.cons (.op .add (.slc (.var 3) none (some (.neg (.cst (.int 1))))) (.idx (.var 2) (.call 3 (.cons (.var 0) (.cons (.op .add (.var 1) (.cst (.int 7))) (.cons (.cst (.int 26)) .nil)))))) (.cons (.cst (.str [98])) (.cons (.slc (.var 3) (some (.cst (.int 1))) none) (.cons (.cst (.str [122, 101, 100])) (.cons (.cst (.str [97])) .nil)))))))) (.cons (.ifs (.and (.op .ne (.var 5) (.cst (.str []))) (.op .nin (.var 5) (.own 4))) (.cons (.app 4 (.var 5))
  .nil) .nil)
  .nil))
  (.cons (.ret (.slc (.own 4) none (some (.op .add (.cst (.int 1)) (.call 3 (.cons (.var 0) (.cons (.op .add (.var 1) (.cst (.int 8))) (.cons (.cst (.int 4)) .nil))))))))
  .nil)))))
def fn__law_names : Fn := fnOf (tabOf [(3, fn__law_drawn)] []) 2 7 b__law_names
/-- _law_bars: 0 script, 1 at, 2 most_bars, 3 found, 4 last, 5 k -/
def b__law_bars : Sms :=
  (.cons (.new 3)
  (.cons (.asg (.name 4) (.call 3 (.cons (.var 0) (.cons (.var 1) (.cons (.cst (.int 200)) .nil)))))
  (.cons (.each (.name 5) (.rng (.op .add (.cst (.int 1)) (.call 3 (.cons (.var 0) (.cons (.op .add (.var 1) (.cst (.int 1))) (.cons (.var 2) .nil)))))) (.cons (.asg (.name 4) (.op .add (.op .add (.var 4) (.cst (.int 1))) (.call 3 (.cons (.var 0) (.cons (.op .add (.op .add (.var 1) (.cst (.int 2))) (.var 5)) (.cons (.idx (.lst (.cons (.cst (.int 3)) (.cons (.cst (.int 60)) .nil))) (.call 3 (.cons (.var 0) (.cons (.op .add (.var 1) (.cst (.int 15))) (.cons (.cst (.int 2)) .nil))))) .nil))))))
  (.cons (.app 3 (.var 4))
  .nil)))
  (.cons (.ret (.f1 .tuple (.own 3)))
  .nil))))
def fn__law_bars : Fn := fnOf (tabOf [(3, fn__law_drawn)] []) 3 6 b__law_bars
/-- Meet.need_word: 0 self, 1 words -/
def b_Meet_need_word : Sms :=
  (.cons (.ifs (.op .nin (.fld (.fld (.var 0) 11) 1) (.var 1)) (.cons (.raisA 9 (.fld (.fld (.var 0) 11) 1))
  .nil) .nil)
  .nil)
def fn_Meet_need_word : Fn := fnOf (tabZ [] [] [1, 2, 3, 5, 6, 7, 8, 10] [] fdAll [] [] [9]) 2 2 b_Meet_need_word
/-- Stand.__init__: 0 self, 1 rows -/
def b_Stand___init__ : Sms :=
  (.cons (.setf (.var 0) 0 (.var 1))
  (.cons (.setf (.var 0) 1 (.cst (.str [109, 97, 105, 110])))
  (.cons (.setf (.var 0) 2 (.tup .nil))
  (.cons (.setf (.var 0) 3 (.tup .nil))
  (.cons (.setf (.var 0) 4 (.tup .nil))
  (.cons (.setf (.var 0) 5 (.cst (.int 0)))
  (.cons (.setf (.var 0) 6 (.cst (.int 0)))
  (.cons (.setf (.var 0) 7 (.tup .nil))
  .nil))))))))
def fn_Stand___init__ : Fn := fnOf (tabZ [] [] [] [] fdAll [] [] []) 2 2 b_Stand___init__
/-- Stand.twin: 0 self, 1 found -/
def b_Stand_twin : Sms :=
  (.cons (.asg (.name 1) (.mk 511 (.cons (.fld (.var 0) 0) .nil)))
  (.cons (.setf (.var 1) 1 (.fld (.var 0) 1))
  (.cons (.setf (.var 1) 2 (.fld (.var 0) 2))
  (.cons (.setf (.var 1) 3 (.fld (.var 0) 3))
  (.cons (.setf (.var 1) 4 (.fld (.var 0) 4))
  (.cons (.setf (.var 1) 5 (.fld (.var 0) 5))
  (.cons (.setf (.var 1) 6 (.fld (.var 0) 6))
  (.cons (.setf (.var 1) 7 (.fld (.var 0) 7))
  (.cons (.ret (.var 1))
  .nil)))))))))
def fn_Stand_twin : Fn := fnOf (tabZ [] [] [] [] fdAll [] [(511, 11, fn_Stand___init__, [])] []) 1 2 b_Stand_twin
/-- misses_in: 0 mark -/
def b_misses_in : Sms :=
  (.cons (.ret (.meth .count (.var 0) (.cst (.str [120]))))
  .nil)
def fn_misses_in : Fn := fnOf (tabOf [] []) 1 1 b_misses_in
/-- run_behind: 0 run, 1 mark -/
def b_run_behind : Sms :=
  (.cons (.ifs (.or (.op .ge (.op .add (.var 0) (.call 4 (.cons (.var 1) .nil))) (.cst (.int 3))) (.op .eq (.slc (.var 1) (some (.neg (.cst (.int 1)))) none) (.cst (.str [114])))) (.cons (.ret (.cst (.int 9)))
  .nil) .nil)
  (.cons (.ret (.ite (.op .eq (.slc (.var 1) (some (.neg (.cst (.int 1)))) none) (.cst (.str [111]))) (.cst (.int 0)) (.op .add (.var 0) (.call 4 (.cons (.var 1) .nil)))))
  .nil))
def fn_run_behind : Fn := fnOf (tabOf [(4, fn_misses_in)] []) 2 2 b_run_behind
/-- run_of: 0 row, 1 run, 2 mark -/
def b_run_of : Sms :=
  (.cons (.asg (.name 1) (.cst (.int 0)))
  (.cons (.each (.name 2) (.seq (.var 0)) (.cons (.asg (.name 1) (.ite (.op .eq (.var 1) (.cst (.int 9))) (.var 1) (.call 5 (.cons (.var 1) (.cons (.var 2) .nil)))))
  .nil))
  (.cons (.ret (.var 1))
  .nil)))
def fn_run_of : Fn := fnOf (tabOf [(5, fn_run_behind)] []) 1 3 b_run_of
/-- is_open: 0 mark -/
def b_is_open : Sms :=
  (.cons (.ret (.op .eq (.var 0) (.op .mul (.cst (.str [120])) (.f1 .len (.var 0)))))
  .nil)
def fn_is_open : Fn := fnOf (tabOf [] []) 1 1 b_is_open
/-- Meet.todo: 0 self, 1 now, 2 some, 3 at, 4 row -/
def b_Meet_todo : Sms :=
  (.cons (.asg (.name 2) (.compIf (.tup (.cons (.call 4 (.cons (.idx (.var 4) (.neg (.cst (.int 1)))) .nil)) (.cons (.var 3) .nil))) (.pair (.name 3) (.name 4)) (.enm (.fld (.var 1) 0)) (.and (.op .lt (.call 6 (.cons (.var 4) .nil)) (.cst (.int 9))) (.call 1 (.cons (.idx (.var 4) (.neg (.cst (.int 1)))) .nil))) [3, 4]))
  (.cons (.ret (.f1 .sorted (.var 2)))
  .nil))
def fn_Meet_todo : Fn := fnOf (tabZ [(4, fn_misses_in), (6, fn_run_of), (1, fn_is_open)] [] [] [] fdAll [] [] []) 2 5 b_Meet_todo
/-- Meet.staying: 0 self, 1 now, 2 gone, 3 some, 4 at -/
def b_Meet_staying : Sms :=
  (.cons (.asg (.name 2) (.lst .nil))
  (.cons (.each (.name 3) (.seq (.fld (.var 1) 4)) (.cons (.asg (.name 2) (.op .add (.var 2) (.f1 .list (.var 3))))
  .nil))
  (.cons (.ret (.compIf (.var 4) (.name 4) (.seq (.fld (.var 1) 2)) (.op .nin (.var 4) (.var 2)) [4]))
  .nil)))
def fn_Meet_staying : Fn := fnOf (tabZ [] [] [] [] fdAll [] [] []) 2 5 b_Meet_staying
/-- Meet.following: 0 self, 1 now, 2 rounds, 3 at -/
def b_Meet_following : Sms :=
  (.cons (.ifs (.op .eq (.fld (.var 1) 1) (.cst (.str [109, 97, 105, 110]))) (.cons (.ret (.idx (.idx (.mth (.var 0) 307 (.cons (.var 1) .nil)) (.cst (.int 0))) (.cst (.int 1))))
  .nil) .nil)
  (.cons (.ifs (.op .eq (.fld (.var 1) 1) (.cst (.str [111, 118, 101, 114]))) (.cons (.ret (.cst .non))
  .nil) .nil)
  (.cons (.asg (.name 2) (.comp (.tup (.cons (.f1 .len (.idx (.fld (.var 1) 3) (.var 3))) (.cons (.var 3) .nil))) (.name 3) (.seq (.mth (.var 0) 308 (.cons (.var 1) .nil))) [3]))
  (.cons (.ret (.idx (.f1 .min (.var 2)) (.cst (.int 1))))
  .nil))))
def fn_Meet_following : Fn := fnOf (tabZ [] [] [] [] fdAll [(307, 12, 39, fn_Meet_todo), (308, 12, 38, fn_Meet_staying)] [] []) 2 4 b_Meet_following
/-- Meet.turn_to: 0 self, 1 now, 2 deed -/
def b_Meet_turn_to : Sms :=
  (.cons (.setf (.var 1) 7 (.op .add (.fld (.var 1) 7) (.tup (.cons (.var 2) .nil))))
  (.cons (.setf (.var 0) 12 (.op .add (.fld (.var 0) 12) (.lst (.cons (.fld (.var 0) 11) .nil))))
  (.cons (.setf (.var 0) 13 (.lst .nil))
  (.cons (.setf (.var 0) 11 (.var 1))
  .nil))))
def fn_Meet_turn_to : Fn := fnOf (tabZ [] [] [] [] fdAll [] [] []) 3 3 b_Meet_turn_to
/-- is_mark: 0 thing -/
def b_is_mark : Sms :=
  (.cons (.ifs (.nt (.isi (.var 0) .str)) (.cons (.ret (.cst (.bl false)))
  .nil) .nil)
  (.cons (.ifs (.call 1 (.cons (.var 0) .nil)) (.cons (.ret (.op .le (.f1 .len (.var 0)) (.cst (.int 3))))
  .nil) .nil)
  (.cons (.ret (.and (.op .le (.f1 .len (.var 0)) (.cst (.int 3))) (.and (.op .isin (.idx (.var 0) (.neg (.cst (.int 1)))) (.glo 1)) (.call 1 (.cons (.slc (.var 0) none (some (.neg (.cst (.int 1))))) .nil)))))
  .nil)))
def fn_is_mark : Fn := fnOf (tabOf [(1, fn_is_open)] [(1, (.tup [(.str [111]), (.str [45]), (.str [114])]))]) 1 1 b_is_mark
/-- is_row: 0 thing, 1 at, 2 mark, 3 run -/
def b_is_row : Sms :=
  (.cons (.ifs (.or (.nt (.isi (.var 0) .list)) (.or (.op .gt (.f1 .len (.var 0)) (.glo 2)) (.nt (.f1 .all (.comp (.call 2 (.cons (.var 2) .nil)) (.name 2) (.seq (.var 0)) [2]))))) (.cons (.ret (.cst (.bl false)))
  .nil) .nil)
  (.cons (.each (.pair (.name 1) (.name 2)) (.enm (.var 0)) (.cons (.asg (.name 3) (.call 6 (.cons (.slc (.var 0) none (some (.var 1))) .nil)))
  (.cons (.ifs (.and (.op .eq (.var 3) (.cst (.int 9))) (.op .ne (.var 2) (.cst (.str [])))) (.cons (.ret (.cst (.bl false)))
  .nil) .nil)
  (.cons (.ifs (.and (.op .lt (.var 3) (.cst (.int 9))) (.op .gt (.op .add (.var 3) (.call 4 (.cons (.var 2) .nil))) (.cst (.int 3)))) (.cons (.ret (.cst (.bl false)))
  .nil) .nil)
  (.cons (.ifs (.and (.op .lt (.var 3) (.cst (.int 9))) (.and (.op .eq (.op .add (.var 3) (.call 4 (.cons (.var 2) .nil))) (.cst (.int 3))) (.nt (.call 1 (.cons (.var 2) .nil))))) (.cons (.ret (.cst (.bl false)))
  .nil) .nil)
  (.cons (.ifs (.and (.op .lt (.call 5 (.cons (.var 3) (.cons (.var 2) .nil))) (.cst (.int 9))) (.and (.call 1 (.cons (.var 2) .nil)) (.op .lt (.op .add (.var 1) (.cst (.int 1))) (.f1 .len (.var 0))))) (.cons (.ret (.cst (.bl false)))
  .nil) .nil)
  .nil))))))
  (.cons (.ret (.cst (.bl true)))
  .nil)))
def fn_is_row : Fn := fnOf (tabOf [(2, fn_is_mark), (6, fn_run_of), (4, fn_misses_in), (1, fn_is_open), (5, fn_run_behind)] [(2, (.int 12))]) 1 4 b_is_row
/-- need_rows: 0 rows, 1 row -/
def b_need_rows : Sms :=
  (.cons (.ifs (.or (.nt (.isi (.var 0) .list)) (.or (.op .gt (.f1 .len (.var 0)) (.cst (.int 8))) (.nt (.f1 .all (.comp (.call 7 (.cons (.var 1) .nil)) (.name 1) (.seq (.var 0)) [1]))))) (.cons (.rais 3)
  .nil) .nil)
  .nil)
def fn_need_rows : Fn := fnOf (tabX [(7, fn_is_row)] [] [1, 2, 3, 5, 6, 7, 8, 10]) 1 2 b_need_rows
/-- need_row: 0 row -/
def b_need_row : Sms :=
  (.cons (.ifs (.nt (.call 7 (.cons (.var 0) .nil))) (.cons (.rais 2)
  .nil) .nil)
  .nil)
def fn_need_row : Fn := fnOf (tabX [(7, fn_is_row)] [] [1, 2, 3, 5, 6, 7, 8, 10]) 1 1 b_need_row
/-- best: 0 row, 1 found, 2 at, 3 mark -/
def b_best : Sms :=
  (.cons (.expr (.call 12 (.cons (.var 0) .nil)))
  (.cons (.asg (.name 1) (.compIf (.var 2) (.pair (.name 2) (.name 3)) (.enm (.var 0)) (.op .eq (.slc (.var 3) (some (.neg (.cst (.int 1)))) none) (.cst (.str [111]))) [2, 3]))
  (.cons (.ret (.ite (.op .ne (.var 1) (.lst .nil)) (.idx (.var 1) (.neg (.cst (.int 1)))) (.cst .non)))
  .nil)))
def fn_best : Fn := fnOf (tabOf [(12, fn_need_row)] []) 1 4 b_best
/-- score: 0 row, 1 top, 2 mark -/
def b_score : Sms :=
  (.cons (.asg (.name 1) (.call 15 (.cons (.var 0) .nil)))
  (.cons (.ifs (.op .iss (.var 1) (.cst .non)) (.cons (.ret (.cst .non))
  .nil) .nil)
  (.cons (.ret (.tup (.cons (.var 1) (.cons (.call 4 (.cons (.idx (.var 0) (.var 1)) .nil)) (.cons (.f1 .sum (.comp (.call 4 (.cons (.var 2) .nil)) (.name 2) (.seq (.slc (.var 0) none (some (.op .add (.var 1) (.cst (.int 1)))))) [2])) .nil)))))
  .nil)))
def fn_score : Fn := fnOf (tabOf [(15, fn_best), (4, fn_misses_in)] []) 1 3 b_score
/-- weight: 0 row, 1 found -/
def b_weight : Sms :=
  (.cons (.asg (.name 1) (.call 16 (.cons (.var 0) .nil)))
  (.cons (.ret (.ite (.op .iss (.var 1) (.cst .non)) (.tup (.cons (.neg (.cst (.int 1))) (.cons (.cst (.int 0)) (.cons (.cst (.int 0)) .nil)))) (.tup (.cons (.idx (.var 1) (.cst (.int 0))) (.cons (.neg (.idx (.var 1) (.cst (.int 1)))) (.cons (.neg (.idx (.var 1) (.cst (.int 2)))) .nil))))))
  .nil))
def fn_weight : Fn := fnOf (tabOf [(16, fn_score)] []) 1 2 b_weight
/-- places: 0 rows, 1 weights, 2 row, 3 one, 4 other -/
def b_places : Sms :=
  (.cons (.expr (.call 23 (.cons (.var 0) .nil)))
  (.cons (.asg (.name 1) (.comp (.call 22 (.cons (.var 2) .nil)) (.name 2) (.seq (.var 0)) [2]))
  (.cons (.retF (.comp (.op .add (.cst (.int 1)) (.f1 .len (.compIf (.var 4) (.name 4) (.seq (.var 1)) (.op .gt (.var 4) (.var 3)) [4]))) (.name 3) (.seq (.var 1)) [3]))
  .nil)))
def fn_places : Fn := fnOfF (tabOf [(23, fn_need_rows), (22, fn_weight)] []) 1 5 b_places
/-- Meet.end_main: 0 self, 1 now, 2 found, 3 first, 4 top, 5 row, 6 at, 7 place, 8 name -/
def b_Meet_end_main : Sms :=
  (.cons (.asg (.name 2) (.call 25 (.cons (.comp (.f1 .list (.var 5)) (.name 5) (.seq (.fld (.var 1) 0)) [5]) .nil)))
  (.cons (.asg (.name 3) (.compIf (.var 6) (.pair (.name 6) (.name 7)) (.enm (.var 2)) (.op .eq (.var 7) (.cst (.int 1))) [6, 7]))
  (.cons (.asg (.name 4) (.call 16 (.cons (.f1 .list (.idx (.fld (.var 1) 0) (.idx (.var 3) (.cst (.int 0))))) .nil)))
  (.cons (.ifs (.or (.op .eq (.f1 .len (.var 3)) (.cst (.int 1))) (.op .iss (.var 4) (.cst .non))) (.cons (.setf (.var 1) 1 (.cst (.str [111, 118, 101, 114])))
  (.cons (.ret (.cst .non))
  .nil)) .nil)
  (.cons (.setf (.var 1) 1 (.cst (.str [111, 102, 102])))
  (.cons (.setf (.var 1) 2 (.f1 .tuple (.var 3)))
  (.cons (.setf (.var 1) 3 (.f1 .tuple (.comp (.cst (.str [])) (.name 8) (.seq (.fld (.var 0) 8)) [8])))
  (.cons (.setf (.var 1) 5 (.op .add (.idx (.fld (.var 0) 9) (.idx (.var 4) (.cst (.int 0)))) (.fld (.var 0) 10)))
  (.cons (.ret (.cst .non))
  .nil)))))))))
def fn_Meet_end_main : Fn := fnOf (tabZ [(25, fn_places), (16, fn_score)] [] [] [] fdAll [] [] []) 2 9 b_Meet_end_main
/-- Meet.go_on: 0 self, 1 now, 2 some_in, 3 row -/
def b_Meet_go_on : Sms :=
  (.cons (.whl (.and (.op .eq (.fld (.var 1) 1) (.cst (.str [109, 97, 105, 110]))) (.op .eq (.mth (.var 0) 307 (.cons (.var 1) .nil)) (.lst .nil))) (.cons (.asg (.name 2) (.compIf (.var 3) (.name 3) (.seq (.fld (.var 1) 0)) (.op .lt (.call 6 (.cons (.var 3) .nil)) (.cst (.int 9))) [3]))
  (.cons (.ifs (.or (.op .eq (.var 2) (.lst .nil)) (.op .eq (.f1 .len (.idx (.fld (.var 1) 0) (.cst (.int 0)))) (.f1 .len (.fld (.var 0) 9)))) (.cons (.expr (.mth (.var 0) 310 (.cons (.var 1) .nil)))
  .nil) (.cons (.setf (.var 1) 0 (.f1 .tuple (.comp (.op .add (.var 3) (.tup (.cons (.cst (.str [])) .nil))) (.name 3) (.seq (.fld (.var 1) 0)) [3])))
  .nil))
  .nil)))
  .nil)
def fn_Meet_go_on : Fn := fnOf (tabZ [(6, fn_run_of)] [] [] [] fdAll [(307, 12, 39, fn_Meet_todo), (310, 12, 20, fn_Meet_end_main)] [] []) 2 4 b_Meet_go_on
/-- Meet.end_round: 0 self, 1 now, 2 some, 3 missed, 4 at -/
def b_Meet_end_round : Sms :=
  (.cons (.asg (.name 2) (.mth (.var 0) 308 (.cons (.var 1) .nil)))
  (.cons (.ifs (.op .eq (.f1 .len (.var 2)) (.cst (.int 1))) (.cons (.setf (.var 1) 1 (.cst (.str [111, 118, 101, 114])))
  .nil) (.cons (.ifs (.f1 .all (.comp (.op .eq (.f1 .len (.idx (.fld (.var 1) 3) (.var 4))) (.op .add (.fld (.var 1) 6) (.cst (.int 1)))) (.name 4) (.seq (.var 2)) [4])) (.cons (.asg (.name 3) (.f1 .tuple (.compIf (.var 4) (.name 4) (.seq (.var 2)) (.op .eq (.idx (.idx (.fld (.var 1) 3) (.var 4)) (.neg (.cst (.int 1)))) (.cst (.str [120]))) [4])))
  (.cons (.setf (.var 1) 6 (.op .add (.fld (.var 1) 6) (.cst (.int 1))))
  (.cons (.ifs (.op .eq (.f1 .len (.var 3)) (.f1 .len (.var 2))) (.cons (.setf (.var 1) 5 (.f2 .max (.cst (.int 1)) (.op .sub (.fld (.var 1) 5) (.fld (.var 0) 10))))
  .nil) (.cons (.setf (.var 1) 5 (.op .add (.fld (.var 1) 5) (.fld (.var 0) 10)))
  (.cons (.setf (.var 1) 4 (.op .add (.fld (.var 1) 4) (.ite (.op .ne (.var 3) (.tup .nil)) (.tup (.cons (.var 3) .nil)) (.tup .nil))))
  (.cons (.setf (.var 1) 1 (.ite (.op .eq (.op .sub (.f1 .len (.var 2)) (.f1 .len (.var 3))) (.cst (.int 1))) (.cst (.str [111, 118, 101, 114])) (.cst (.str [111, 102, 102]))))
  .nil))))
  .nil))) .nil)
  .nil))
  .nil))
def fn_Meet_end_round : Fn := fnOf (tabZ [] [] [] [] fdAll [(308, 12, 38, fn_Meet_staying)] [] []) 2 5 b_Meet_end_round
/-- Meet.put: 0 self, 1 sign, 2 now, 3 at, 4 told, 5 row -/
def b_Meet_put : Sms :=
  (.cons (.asg (.name 2) (.mth (.fld (.var 0) 11) 302 .nil))
  (.cons (.asg (.name 3) (.mth (.var 0) 309 (.cons (.var 2) .nil)))
  (.cons (.ifs (.op .eq (.fld (.var 2) 1) (.cst (.str [109, 97, 105, 110]))) (.cons (.asg (.name 5) (.idx (.fld (.var 2) 0) (.var 3)))
  (.cons (.asg (.name 4) (.op .add (.idx (.var 5) (.neg (.cst (.int 1)))) (.var 1)))
  (.cons (.setf (.var 2) 0 (.op .add (.op .add (.slc (.fld (.var 2) 0) none (some (.var 3))) (.tup (.cons (.op .add (.slc (.var 5) none (some (.neg (.cst (.int 1))))) (.tup (.cons (.var 4) .nil))) .nil))) (.slc (.fld (.var 2) 0) (some (.op .add (.var 3) (.cst (.int 1)))) none)))
  (.cons (.expr (.mth (.var 0) 314 (.cons (.var 2) (.cons (.var 1) .nil))))
  (.cons (.expr (.mth (.var 0) 311 (.cons (.var 2) .nil)))
  (.cons (.ret (.var 4))
  .nil)))))) .nil)
  (.cons (.asg (.name 4) (.op .add (.idx (.fld (.var 2) 3) (.var 3)) (.var 1)))
  (.cons (.setf (.var 2) 3 (.op .add (.op .add (.slc (.fld (.var 2) 3) none (some (.var 3))) (.tup (.cons (.var 4) .nil))) (.slc (.fld (.var 2) 3) (some (.op .add (.var 3) (.cst (.int 1)))) none)))
  (.cons (.ifs (.op .eq (.var 1) (.cst (.str [114]))) (.cons (.setf (.var 2) 4 (.op .add (.fld (.var 2) 4) (.tup (.cons (.tup (.cons (.var 3) .nil)) .nil))))
  .nil) .nil)
  (.cons (.expr (.mth (.var 0) 314 (.cons (.var 2) (.cons (.var 1) .nil))))
  (.cons (.expr (.mth (.var 0) 312 (.cons (.var 2) .nil)))
  (.cons (.ret (.var 4))
  .nil)))))))))
def fn_Meet_put : Fn := fnOf (tabZ [] [] [] [] fdAll [(302, 11, 42, fn_Stand_twin), (309, 12, 22, fn_Meet_following), (314, 12, 41, fn_Meet_turn_to), (311, 12, 25, fn_Meet_go_on), (312, 12, 21, fn_Meet_end_round)] [] []) 2 6 b_Meet_put
/-- Meet.skip: 0 self -/
def b_Meet_skip : Sms :=
  (.cons (.expr (.mth (.var 0) 315 (.cons (.tup (.cons (.cst (.str [109, 97, 105, 110])) .nil)) .nil)))
  (.cons (.ret (.mth (.var 0) 313 (.cons (.cst (.str [45])) .nil)))
  .nil))
def fn_Meet_skip : Fn := fnOf (tabZ [] [] [] [] fdAll [(315, 12, 29, fn_Meet_need_word), (313, 12, 32, fn_Meet_put)] [] []) 1 1 b_Meet_skip
/-- Meet.go_home: 0 self -/
def b_Meet_go_home : Sms :=
  (.cons (.expr (.mth (.var 0) 315 (.cons (.tup (.cons (.cst (.str [109, 97, 105, 110])) (.cons (.cst (.str [111, 102, 102])) .nil))) .nil)))
  (.cons (.ret (.mth (.var 0) 313 (.cons (.cst (.str [114])) .nil)))
  .nil))
def fn_Meet_go_home : Fn := fnOf (tabZ [] [] [] [] fdAll [(315, 12, 29, fn_Meet_need_word), (313, 12, 32, fn_Meet_put)] [] []) 1 1 b_Meet_go_home
/-- Meet.share: 0 self, 1 now, 2 at -/
def b_Meet_share : Sms :=
  (.cons (.expr (.mth (.var 0) 315 (.cons (.tup (.cons (.cst (.str [111, 102, 102])) .nil)) .nil)))
  (.cons (.asg (.name 1) (.mth (.fld (.var 0) 11) 302 .nil))
  (.cons (.setf (.var 1) 1 (.cst (.str [111, 118, 101, 114])))
  (.cons (.expr (.mth (.var 0) 314 (.cons (.var 1) (.cons (.cst (.str [115, 104, 97, 114, 101])) .nil))))
  (.cons (.ret (.comp (.idx (.fld (.var 0) 8) (.var 2)) (.name 2) (.seq (.mth (.var 0) 308 (.cons (.var 1) .nil))) [2]))
  .nil)))))
def fn_Meet_share : Fn := fnOf (tabZ [] [] [] [] fdAll [(315, 12, 29, fn_Meet_need_word), (302, 11, 42, fn_Stand_twin), (314, 12, 41, fn_Meet_turn_to), (308, 12, 38, fn_Meet_staying)] [] []) 1 3 b_Meet_share
/-- Meet.jump: 0 self, 1 cleared -/
def b_Meet_jump : Sms :=
  (.cons (.expr (.mth (.var 0) 315 (.cons (.tup (.cons (.cst (.str [109, 97, 105, 110])) (.cons (.cst (.str [111, 102, 102])) .nil))) .nil)))
  (.cons (.ifs (.nt (.isi (.var 1) .bool)) (.cons (.rais 8)
  .nil) .nil)
  (.cons (.ret (.mth (.var 0) 313 (.cons (.ite (.var 1) (.cst (.str [111])) (.cst (.str [120]))) .nil)))
  .nil)))
def fn_Meet_jump : Fn := fnOf (tabZ [] [] [1, 2, 3, 5, 6, 7, 8, 10] [] fdAll [(315, 12, 29, fn_Meet_need_word), (313, 12, 32, fn_Meet_put)] [] []) 2 2 b_Meet_jump
/-- _law_done: 0 meet, 1 sign, 2 e -/
def b__law_done : Sms :=
  (.cons (.tryR (.cons (.ifs (.op .eq (.var 1) (.cst (.str [45]))) (.cons (.ret (.mth (.var 0) 317 .nil))
  .nil) .nil)
  (.cons (.ifs (.op .eq (.var 1) (.cst (.str [114]))) (.cons (.ret (.mth (.var 0) 318 .nil))
  .nil) .nil)
  (.cons (.ret (.ite (.op .eq (.var 1) (.cst (.str [115, 104, 97, 114, 101]))) (.mth (.var 0) 319 .nil) (.mth (.var 0) 316 (.cons (.op .eq (.var 1) (.cst (.str [111]))) .nil))))
  .nil))) 9 2)
  .nil)
def fn__law_done : Fn := fnOf (tabZ [] [] [1, 2, 3, 5, 6, 7, 8, 10] [] fdAll [(317, 12, 37, fn_Meet_skip), (318, 12, 24, fn_Meet_go_home), (319, 12, 35, fn_Meet_share), (316, 12, 26, fn_Meet_jump)] [] [9]) 2 3 b__law_done
/-- Meet.word: 0 self -/
def b_Meet_word : Sms :=
  (.cons (.ret (.fld (.fld (.var 0) 11) 1))
  .nil)
def fn_Meet_word : Fn := fnOf (tabZ [] [] [] [] fdAll [] [] []) 1 1 b_Meet_word
/-- Meet.who: 0 self, 1 at -/
def b_Meet_who : Sms :=
  (.cons (.asg (.name 1) (.mth (.var 0) 309 (.cons (.fld (.var 0) 11) .nil)))
  (.cons (.ret (.ite (.op .iss (.var 1) (.cst .non)) (.cst .non) (.idx (.fld (.var 0) 8) (.var 1))))
  .nil))
def fn_Meet_who : Fn := fnOf (tabZ [] [] [] [] fdAll [(309, 12, 22, fn_Meet_following)] [] []) 1 2 b_Meet_who
/-- is_name: 0 thing, 1 sign -/
def b_is_name : Sms :=
  (.cons (.ret (.and (.isi (.var 0) .str) (.and (.chain .le .le (.cst (.int 1)) (.f1 .len (.var 0)) (.cst (.int 6))) (.f1 .all (.comp (.op .isin (.var 1) (.glo 3)) (.name 1) (.seq (.var 0)) [1])))))
  .nil)
def fn_is_name : Fn := fnOf (tabOf [] [(3, (.str [97, 98, 99, 100, 101, 102, 103, 104, 105, 106, 107, 108, 109, 110, 111, 112, 113, 114, 115, 116, 117, 118, 119, 120, 121, 122]))]) 1 2 b_is_name
/-- Meet.need_name: 0 self, 1 name -/
def b_Meet_need_name : Sms :=
  (.cons (.ifs (.or (.nt (.call 29 (.cons (.var 1) .nil))) (.op .nin (.var 1) (.fld (.var 0) 8))) (.cons (.rais 10)
  .nil) .nil)
  (.cons (.ret (.lmeth .tindex (.fld (.var 0) 8) (.var 1)))
  .nil))
def fn_Meet_need_name : Fn := fnOf (tabZ [(29, fn_is_name)] [] [1, 2, 3, 5, 6, 7, 8, 10] [] fdAll [] [] []) 2 2 b_Meet_need_name
/-- Meet.row: 0 self, 1 name -/
def b_Meet_row : Sms :=
  (.cons (.ret (.f1 .list (.idx (.fld (.fld (.var 0) 11) 0) (.mth (.var 0) 323 (.cons (.var 1) .nil)))))
  .nil)
def fn_Meet_row : Fn := fnOf (tabZ [] [] [] [] fdAll [(323, 12, 28, fn_Meet_need_name)] [] []) 2 2 b_Meet_row
/-- need_names: 0 names, 1 name -/
def b_need_names : Sms :=
  (.cons (.ifs (.or (.nt (.isLT (.var 0))) (.or (.nt (.chain .le .le (.cst (.int 1)) (.f1 .len (.var 0)) (.cst (.int 6)))) (.nt (.f1 .all (.comp (.call 29 (.cons (.var 1) .nil)) (.name 1) (.seq (.var 0)) [1]))))) (.cons (.rais 5)
  .nil) .nil)
  (.cons (.ifs (.op .lt (.lenSet (.var 0)) (.f1 .len (.var 0))) (.cons (.rais 5)
  .nil) .nil)
  .nil))
def fn_need_names : Fn := fnOf (tabX [(29, fn_is_name)] [] [1, 2, 3, 5, 6, 7, 8, 10]) 1 2 b_need_names
/-- is_number: 0 thing, 1 least, 2 most -/
def b_is_number : Sms :=
  (.cons (.ret (.and (.isi (.var 0) .int) (.and (.nt (.isi (.var 0) .bool)) (.chain .le .le (.var 1) (.var 0) (.var 2)))))
  .nil)
def fn_is_number : Fn := fnOf (tabOf [] []) 3 3 b_is_number
/-- is_bars: 0 thing, 1 bar, 2 one, 3 other -/
def b_is_bars : Sms :=
  (.cons (.ifs (.or (.nt (.isi (.var 0) .tuple)) (.nt (.chain .le .le (.cst (.int 1)) (.f1 .len (.var 0)) (.glo 2)))) (.cons (.ret (.cst (.bl false)))
  .nil) .nil)
  (.cons (.ifs (.nt (.f1 .all (.comp (.call 11 (.cons (.var 1) (.cons (.cst (.int 1)) (.cons (.cst (.int 999)) .nil)))) (.name 1) (.seq (.var 0)) [1]))) (.cons (.ret (.cst (.bl false)))
  .nil) .nil)
  (.cons (.ret (.f1 .all (.comp (.op .lt (.var 2) (.var 3)) (.pair (.name 2) (.name 3)) (.zip (.var 0) (.slc (.var 0) (some (.cst (.int 1))) none)) [2, 3])))
  .nil)))
def fn_is_bars : Fn := fnOf (tabOf [(11, fn_is_number)] [(2, (.int 12))]) 1 4 b_is_bars
/-- need_bars: 0 bars -/
def b_need_bars : Sms :=
  (.cons (.ifs (.nt (.call 31 (.cons (.var 0) .nil))) (.cons (.rais 6)
  .nil) .nil)
  .nil)
def fn_need_bars : Fn := fnOf (tabX [(31, fn_is_bars)] [] [1, 2, 3, 5, 6, 7, 8, 10]) 1 1 b_need_bars
/-- Meet.__init__: 0 self, 1 names, 2 bars, 3 rise, 4 name -/
def b_Meet___init__ : Sms :=
  (.cons (.expr (.call 30 (.cons (.var 1) .nil)))
  (.cons (.expr (.call 32 (.cons (.var 2) .nil)))
  (.cons (.ifs (.nt (.call 11 (.cons (.var 3) (.cons (.cst (.int 1)) (.cons (.cst (.int 50)) .nil))))) (.cons (.rais 7)
  .nil) .nil)
  (.cons (.setf (.var 0) 8 (.f1 .tuple (.var 1)))
  (.cons (.setf (.var 0) 9 (.var 2))
  (.cons (.setf (.var 0) 10 (.var 3))
  (.cons (.setf (.var 0) 11 (.mk 511 (.cons (.f1 .tuple (.comp (.tup (.cons (.cst (.str [])) .nil)) (.name 4) (.seq (.var 1)) [4])) .nil)))
  (.cons (.setf (.var 0) 12 (.lst .nil))
  (.cons (.setf (.var 0) 13 (.lst .nil))
  .nil)))))))))
def fn_Meet___init__ : Fn := fnOf (tabZ [(30, fn_need_names), (32, fn_need_bars), (11, fn_is_number)] [] [1, 2, 3, 5, 6, 7, 8, 10] [] fdAll [] [(511, 11, fn_Stand___init__, [])] []) 4 5 b_Meet___init__
/-- _law_through: 0 script, 1 names, 2 bars, 3 all_names, 4 meet, 5 used, 6 k, 7 name, 8 sign -/
def b__law_through : Sms :=
  (.cons (.asg (.name 4) (.mk 523 (.cons (.var 1) (.cons (.var 2) (.cons (.cst (.int 2)) .nil)))))
  (.cons (.asg (.name 5) (.dprs (.comp (.tup (.cons (.var 7) (.cons (.cst (.int 0)) .nil))) (.name 7) (.seq (.var 1)) [7])))
  (.cons (.each (.name 6) (.rng (.op .mul (.op .mul (.cst (.int 3)) (.f1 .len (.var 1))) (.f1 .len (.var 2)))) (.cons (.ifs (.op .eq (.mth (.var 4) 320 .nil) (.cst (.str [109, 97, 105, 110]))) (.cons (.asg (.name 7) (.mth (.var 4) 321 .nil))
  (.cons (.asg (.name 8) (.idx (.cst (.str [111, 120, 111, 120, 111, 45, 120, 114])) (.call 3 (.cons (.var 0) (.cons (.op .add (.op .add (.cst (.int 40)) (.op .mul (.cst (.int 30)) (.lmeth .index (.var 3) (.var 7)))) (.dget (.var 5) (.var 7))) (.cons (.cst (.int 8)) .nil))))))
  (.cons (.dput (.var 5) (.var 7) (.op .add (.dget (.var 5) (.var 7)) (.cst (.int 1))))
  (.cons (.expr (.call 43 (.cons (.var 4) (.cons (.var 8) .nil))))
  .nil)))) .nil)
  .nil))
  (.cons (.ret (.tup (.cons (.mth (.var 4) 320 .nil) (.cons (.dprs (.comp (.tup (.cons (.var 7) (.cons (.mth (.var 4) 324 (.cons (.var 7) .nil)) .nil))) (.name 7) (.seq (.var 1)) [7])) .nil))))
  .nil))))
def fn__law_through : Fn := fnOf (tabZ [(3, fn__law_drawn), (43, fn__law_done)] [] [] [] fdAll [(320, 12, 44, fn_Meet_word), (321, 12, 43, fn_Meet_who), (324, 12, 34, fn_Meet_row)] [(523, 12, fn_Meet___init__, [])] []) 4 9 b__law_through
/-- is_better: 0 one, 1 other -/
def b_is_better : Sms :=
  (.cons (.expr (.call 23 (.cons (.lst (.cons (.var 0) (.cons (.var 1) .nil))) .nil)))
  (.cons (.ret (.op .gt (.call 22 (.cons (.var 0) .nil)) (.call 22 (.cons (.var 1) .nil))))
  .nil))
def fn_is_better : Fn := fnOf (tabOf [(23, fn_need_rows), (22, fn_weight)] []) 2 2 b_is_better
/-- law: 0 script, 1 names, 2 bars, 3 turn, 4 left, 5 fewer, 6 name, 7 word, 8 rows, 9 other, 10 same, 11 size, 12 one -/
def b_law : Sms :=
  (.cons (.asg (.name 1) (.call 33 (.cons (.var 0) (.cons (.cst (.int 0)) .nil))))
  (.cons (.asg (.name 2) (.call 34 (.cons (.var 0) (.cons (.cst (.int 10)) (.cons (.cst (.int 4)) .nil)))))
  (.cons (.asg (.name 3) (.call 3 (.cons (.var 0) (.cons (.cst (.int 30)) (.cons (.f1 .len (.var 1)) .nil)))))
  (.cons (.asg (.pair (.name 7) (.name 8)) (.call 51 (.cons (.var 0) (.cons (.var 1) (.cons (.var 2) (.cons (.var 1) .nil))))))
  (.cons (.asg (.pair (.name 9) (.name 10)) (.call 51 (.cons (.var 0) (.cons (.rev (.op .add (.slc (.var 1) (some (.var 3)) none) (.slc (.var 1) none (some (.var 3))))) (.cons (.var 2) (.cons (.var 1) .nil))))))
  (.cons (.ifs (.or (.op .eq (.var 7) (.cst (.str [109, 97, 105, 110]))) (.op .eq (.var 9) (.cst (.str [109, 97, 105, 110])))) (.cons (.ret (.cst (.bl false)))
  .nil) .nil)
  (.cons (.ifs (.or (.op .ne (.compIf (.var 6) (.name 6) (.seq (.var 1)) (.op .ne (.dget (.var 8) (.var 6)) (.dget (.var 10) (.var 6))) [6]) (.lst .nil)) (.op .ne (.var 7) (.var 9))) (.cons (.ret (.cst (.bl false)))
  .nil) .nil)
  (.cons (.asg (.name 4) (.compIf (.var 6) (.name 6) (.seq (.var 1)) (.op .ne (.var 6) (.idx (.var 1) (.var 3))) [6]))
  (.cons (.ifs (.op .eq (.var 4) (.lst .nil)) (.cons (.ret (.cst (.bl true)))
  .nil) .nil)
  (.cons (.asg (.name 5) (.idx (.call 51 (.cons (.var 0) (.cons (.var 4) (.cons (.var 2) (.cons (.var 1) .nil))))) (.cst (.int 1))))
  (.cons (.each (.name 6) (.seq (.var 4)) (.cons (.asg (.name 11) (.f2 .min (.f1 .len (.dget (.var 5) (.var 6))) (.f1 .len (.dget (.var 8) (.var 6)))))
  (.cons (.ifs (.op .ne (.slc (.dget (.var 5) (.var 6)) none (some (.var 11))) (.slc (.dget (.var 8) (.var 6)) none (some (.var 11)))) (.cons (.ret (.cst (.bl false)))
  .nil) .nil)
  (.cons (.ifs (.op .ne (.meth .join (.cst (.str [])) (.op .add (.slc (.dget (.var 5) (.var 6)) (some (.var 11)) none) (.slc (.dget (.var 8) (.var 6)) (some (.var 11)) none))) (.cst (.str []))) (.cons (.ret (.cst (.bl false)))
  .nil) .nil)
  (.cons (.each (.name 12) (.seq (.var 4)) (.cons (.ifs (.op .ne (.call 24 (.cons (.dget (.var 5) (.var 6)) (.cons (.dget (.var 5) (.var 12)) .nil))) (.call 24 (.cons (.dget (.var 8) (.var 6)) (.cons (.dget (.var 8) (.var 12)) .nil)))) (.cons (.ret (.cst (.bl false)))
  .nil) .nil)
  .nil))
  .nil)))))
  (.cons (.ret (.cst (.bl true)))
  .nil))))))))))))
def fn_law : Fn := fnOf (tabOf [(33, fn__law_names), (34, fn__law_bars), (3, fn__law_drawn), (51, fn__law_through), (24, fn_is_better)] []) 1 13 b_law
/-! ### marks -/
theorem drawn_eq : fn__law_drawn = fnDraw := rfl
def opn (s : List Nat) : Bool := s == List.replicate s.length 120
def ends (c : Nat) : Bool := c == 111 || (c == 45 || c == 114)
def endsIn (s : List Nat) : Bool := match s.getLast? with
  | some c => ends c
  | none => false
def markB (s : List Nat) : Bool := if opn s then decide (s.length ≤ 3) else decide (s.length ≤ 3) && (endsIn s && opn s.dropLast)
theorem is_open_str (s : List Nat) (S : Sto) (h : s.length ≤ 1000) : fn_is_open [.str s] S = .ok (.bl (opn s)) S := by
  have e : op2 .mul (.str [120]) (.int s.length) = some (.str (List.replicate s.length 120)) := by
    show (if ((s.length : Int)) ≤ 1000000 ∧ (s.length : Int).natAbs < 4611686018427387904 then some (D.str (List.replicate (s.length : Int).toNat 120)) else none) = _
    rw [if_pos (by omega)]
    rfl
  have b : b1 .len (.str s) = some (.int s.length) := rfl
  simp [fn_is_open, fnOf, b_is_open, exs, ex, ev, b, e, op_eq, eqO, pl, deq, opn]
theorem cut_init {s : List Nat} : slc (.str s) none (some (-1)) = some (.str s.dropLast) := by
  have : s.take (s.length - 1) = s.dropLast := by rw [List.dropLast_eq_take]
  simp [slc, cut, sx]
  rw [← this]
  congr 1
  omega
theorem at_last {s : List Nat} {c : Nat} (h : s.getLast? = some c) : idx (.str s) (.int (-1)) = some (.str [c]) := by
  have hn : s ≠ [] := by intro e; subst e; cases h
  have hl : 0 < s.length := List.length_pos_iff.mpr hn
  have e : (-1 + (s.length : Int)).toNat = s.length - 1 := by omega
  rw [List.getLast?_eq_getElem?] at h
  simp only [idx, at_, ix]
  rw [if_neg (by omega), if_pos (by omega)]
  simp [e, h]
theorem is_mark_str (s : List Nat) (S : Sto) (h : s.length ≤ 1000) : fn_is_mark [.str s] S = .ok (.bl (markB s)) S := by
  have b : b1 .len (.str s) = some (.int s.length) := rfl
  have hi : isA (.str s) .str = some true := rfl
  have o1 := is_open_str s S h
  have o2 := is_open_str s.dropLast S (by rw [List.length_dropLast]; omega)
  have hl : (tabOf [(1, fn_is_open)] [(1, (.tup [(.str [111]), (.str [45]), (.str [114])]))]).fn 1 = some fn_is_open := rfl
  have hg : (tabOf [(1, fn_is_open)] [(1, (.tup [(.str [111]), (.str [45]), (.str [114])]))]).gl 1 = some (.tup [(.str [111]), (.str [45]), (.str [114])]) := rfl
  by_cases q : opn s = true
  · simp [fn_is_mark, fnOf, b_is_mark, exs, ex, ev, evs, b, hi, hl, o1, q, op_le, markB]
    omega
  · have q' : opn s = false := by simpa using q
    have hn : s ≠ [] := by intro e; subst e; exact q rfl
    obtain ⟨c, hc⟩ : ∃ c, s.getLast? = some c := ⟨s.getLast hn, List.getLast?_eq_some_getLast hn⟩
    have e1 : endsIn s = ends c := by unfold endsIn; rw [hc]
    have i1 : inO (.str [c]) (.tup [(.str [111]), (.str [45]), (.str [114])]) = some (ends c) := by
      simp [inO, flat, deq, ends, Bool.beq_comm, eq_comm]
    by_cases l3 : (s.length : Int) ≤ 3
    · cases q2 : ends c with
      | true => simp [fn_is_mark, fnOf, b_is_mark, exs, ex, ev, evs, b, hi, hl, hg, o1, o2, q', op_le, l3, op_in, at_last hc, i1, q2, cut_init, markB, e1]; omega
      | false => simp [fn_is_mark, fnOf, b_is_mark, exs, ex, ev, evs, b, hi, hl, hg, o1, q', op_le, l3, op_in, at_last hc, i1, q2, markB, e1]
    · simp [fn_is_mark, fnOf, b_is_mark, exs, ex, ev, evs, b, hi, hl, o1, q', op_le, l3, markB]
      try omega

theorem opn_last {t : List Nat} {c : Nat} (h : opn t = true) (hc : t.getLast? = some c) : c = 120 := by
  unfold opn at h
  rw [beq_iff_eq] at h
  have := List.mem_of_getLast? hc
  rw [h] at this
  exact List.eq_of_mem_replicate this
theorem cut_last {s : List Nat} : slc (.str s) (some (-1)) none = some (.str s.getLast?.toList) := by
  have : s.drop (s.length - 1) = s.getLast?.toList := by
    rcases List.eq_nil_or_concat s with rfl | ⟨x, y, rfl⟩
    · rfl
    · simp
  have e : (-1 + (s.length : Int)).toNat = s.length - 1 := by omega
  simp [slc, cut, sx, e]
  rw [← this]
  by_cases h : s = []
  · simp [h]
  · have := List.length_pos_iff.mpr h
    rw [List.take_of_length_le]
    simp
/-! ### rows -/
theorem misses_str (s : List Nat) (S : Sto) : fn_misses_in [.str s] S = .ok (.int (cnt 120 s)) S := by
  simp [fn_misses_in, fnOf, b_misses_in, exs, ex, ev, m1]
def rb (r : Int) (s : List Nat) : Int := if 3 ≤ r + (cnt 120 s : Int) ∨ s.getLast? = some 114 then 9 else if s.getLast? = some 111 then 0 else r + (cnt 120 s : Int)
theorem last_eq (s : List Nat) (c : Nat) : eqO (.str s.getLast?.toList) (.str [c]) = some (decide (s.getLast? = some c)) := by
  simp only [eqO, pl, and_self, if_true, deq]
  congr 1
  rw [Bool.eq_iff_iff]
  cases s.getLast? <;> simp
theorem run_behind_ok (r : Int) (s : List Nat) (S : Sto) : fn_run_behind [.int r, .str s] S = .ok (.int (rb r s)) S := by
  have hf : (tabOf [(4, fn_misses_in)] []).fn 4 = some fn_misses_in := rfl
  have l1 := last_eq s 114
  have l2 := last_eq s 111
  by_cases h1 : 3 ≤ r + (cnt 120 s : Int)
  · simp [fn_run_behind, fnOf, b_run_behind, exs, ex, ev, evs, hf, misses_str, op_add, op_ge, h1, rb]
  · by_cases h2 : s.getLast? = some 114
    · have e : rb r s = 9 := by simp [rb, h2]
      rw [e]
      rw [decide_eq_true h2] at l1
      simp [fn_run_behind, fnOf, b_run_behind, exs, ex, ev, evs, hf, misses_str, op_add, op_ge, h1, cut_last, op_eq, l1]
    · rw [decide_eq_false h2] at l1
      by_cases h3 : s.getLast? = some 111
      · have e : rb r s = 0 := by simp [rb, h1, h3]
        rw [e]
        rw [decide_eq_true h3] at l2
        simp [fn_run_behind, fnOf, b_run_behind, exs, ex, ev, evs, hf, misses_str, op_add, op_ge, h1, cut_last, op_eq, l1, l2]
      · rw [decide_eq_false h3] at l2
        have e : rb r s = r + (cnt 120 s : Int) := by simp [rb, h1, h2, h3]
        rw [e]
        simp [fn_run_behind, fnOf, b_run_behind, exs, ex, ev, evs, hf, misses_str, op_add, op_ge, h1, cut_last, op_eq, l1, l2]
def nxt (r : Int) (s : List Nat) : Int := if r = 9 then r else rb r s
def runOf (ms : List (List Nat)) : Int := ms.foldl nxt 0
def strs_ (ms : List (List Nat)) : D := .lst (ms.map D.str)
def roF : Fns := tabOf [(5, fn_run_behind)] []
theorem run_turn (x a : Slot) (r : Int) (m : List Nat) (S : Sto) : exs roF (.cons (.asg (.name 1) (.ite (.op .eq (.var 1) (.cst (.int 9))) (.var 1) (.call 5 (.cons (.var 1) (.cons (.var 2) .nil))))) .nil) [x, .val (.int r), .val (.str m)] S = .ok (.nx [x, .val (.int (nxt r m)), .val (.str m)]) S := by
  have hf : roF.fn 5 = some fn_run_behind := rfl
  by_cases h : r = 9
  · simp [exs, ex, ev, op_eq, eqO, pl, deq, h, nxt, bindT]
  · simp [exs, ex, ev, evs, op_eq, eqO, pl, deq, h, nxt, bindT, hf, run_behind_ok]
theorem run_loop (x : Slot) (S : Sto) : ∀ (ms : List (List Nat)) (r : Int) (a : Slot), ∃ a', loop (fun d ρ S => bound (bindT (.name 2) d ρ) fun ρ => exs roF (.cons (.asg (.name 1) (.ite (.op .eq (.var 1) (.cst (.int 9))) (.var 1) (.call 5 (.cons (.var 1) (.cons (.var 2) .nil))))) .nil) ρ S) (ms.map D.str) [x, .val (.int r), a] S
    = .ok (.nx [x, .val (.int (ms.foldl nxt r)), a']) S
  | [], r, a => ⟨a, rfl⟩
  | m :: ms, r, a => by
    obtain ⟨a', e⟩ := run_loop x S ms (nxt r m) (.val (.str m))
    refine ⟨a', ?_⟩
    rw [List.foldl_cons, ← e, List.map_cons, loop, bindT, bound_some]
    show R.turn (exs roF _ [x, .val (.int r), .val (.str m)] S) _ = _
    rw [run_turn x a r m S]
    rfl
theorem run_of_ok (ms : List (List Nat)) (S : Sto) : fn_run_of [strs_ ms] S = .ok (.int (runOf ms)) S := by
  obtain ⟨a', e⟩ := run_loop (.val (strs_ ms)) S ms 0 .emp
  show (exs roF b_run_of [.val (strs_ ms), .emp, .emp] S).ends = _
  have e1 : ex roF (.asg (.name 1) (.cst (.int 0))) [.val (strs_ ms), .emp, .emp] S = .ok (.nx [.val (strs_ ms), .val (.int 0), .emp]) S := rfl
  have e2 : ex roF (.each (.name 2) (.seq (.var 0)) (.cons (.asg (.name 1) (.ite (.op .eq (.var 1) (.cst (.int 9))) (.var 1) (.call 5 (.cons (.var 1) (.cons (.var 2) .nil))))) .nil)) [.val (strs_ ms), .val (.int 0), .emp] S = .ok (.nx [.val (strs_ ms), .val (.int (runOf ms)), a']) S := by
    rw [ex]
    exact e
  exact (congrArg R.ends ((exs_nx e1).trans (exs_nx e2))).trans rfl
/-- what is_row refuses at a mark -/
def badP (r : Int) (m : List Nat) (more : Bool) : Bool :=
  (decide (r = 9) && !(m == [])) || ((decide (r < 9) && decide (3 < r + (cnt 120 m : Int))) || ((decide (r < 9) && (decide (r + (cnt 120 m : Int) = 3) && !opn m)) || (decide (rb r m < 9) && (opn m && more))))
def rowOk : Int → List (List Nat) → Bool
  | _, [] => true
  | r, m :: ms => !badP r m (!ms.isEmpty) && rowOk (nxt r m) ms
def irF : Fns := tabOf [(2, fn_is_mark), (6, fn_run_of), (4, fn_misses_in), (1, fn_is_open), (5, fn_run_behind)] [(2, (.int 12))]
def irB : Sms := (.cons (.asg (.name 3) (.call 6 (.cons (.slc (.var 0) none (some (.var 1))) .nil)))
  (.cons (.ifs (.and (.op .eq (.var 3) (.cst (.int 9))) (.op .ne (.var 2) (.cst (.str [])))) (.cons (.ret (.cst (.bl false)))
  .nil) .nil)
  (.cons (.ifs (.and (.op .lt (.var 3) (.cst (.int 9))) (.op .gt (.op .add (.var 3) (.call 4 (.cons (.var 2) .nil))) (.cst (.int 3)))) (.cons (.ret (.cst (.bl false)))
  .nil) .nil)
  (.cons (.ifs (.and (.op .lt (.var 3) (.cst (.int 9))) (.and (.op .eq (.op .add (.var 3) (.call 4 (.cons (.var 2) .nil))) (.cst (.int 3))) (.nt (.call 1 (.cons (.var 2) .nil))))) (.cons (.ret (.cst (.bl false)))
  .nil) .nil)
  (.cons (.ifs (.and (.op .lt (.call 5 (.cons (.var 3) (.cons (.var 2) .nil))) (.cst (.int 9))) (.and (.call 1 (.cons (.var 2) .nil)) (.op .lt (.op .add (.var 1) (.cst (.int 1))) (.f1 .len (.var 0))))) (.cons (.ret (.cst (.bl false)))
  .nil) .nil)
  .nil)))))
theorem cut_take (pre rest : List (List Nat)) : slc (strs_ (pre ++ rest)) none (some (pre.length : Int)) = some (strs_ pre) := by
  have : ¬ ((pre.length : Int) < 0) := by omega
  simp [strs_, slc, cut, sx, this]
theorem row_turn (pre rest : List (List Nat)) (m : List Nat) (c : Slot) (S : Sto) (hm : m.length ≤ 1000) :
    exs irF irB [.val (strs_ (pre ++ m :: rest)), .val (.int pre.length), .val (.str m), c] S = if badP (runOf pre) m (!rest.isEmpty) then .ok (.rt (.bl false)) S else .ok (.nx [.val (strs_ (pre ++ m :: rest)), .val (.int pre.length), .val (.str m), .val (.int (runOf pre))]) S := by
  have f6 : irF.fn 6 = some fn_run_of := rfl
  have f4 : irF.fn 4 = some fn_misses_in := rfl
  have f1 : irF.fn 1 = some fn_is_open := rfl
  have f5 : irF.fn 5 = some fn_run_behind := rfl
  have bl : b1 .len (strs_ (pre ++ m :: rest)) = some (.int ((pre.length : Int) + 1 + rest.length)) := by
    simp only [strs_, b1, List.length_map, List.length_append, List.length_cons]
    congr 2
    omega
  have hl : decide ((pre.length : Int) + 1 < (pre.length : Int) + 1 + rest.length) = !rest.isEmpty := by
    cases rest with
    | nil => simp
    | cons _ _ => simp; omega
  have e0 : ex irF (.asg (.name 3) (.call 6 (.cons (.slc (.var 0) none (some (.var 1))) .nil))) [.val (strs_ (pre ++ m :: rest)), .val (.int pre.length), .val (.str m), c] S = .ok (.nx [.val (strs_ (pre ++ m :: rest)), .val (.int pre.length), .val (.str m), .val (.int (runOf pre))]) S := by
    simp [ex, ev, evs, f6, cut_take, run_of_ok, bindT]
  generalize strs_ (pre ++ m :: rest) = th at bl e0 ⊢
  generalize runOf pre = r at e0 ⊢
  rw [irB, exs_nx e0]
  have ne : eqO (.str m) (.str []) = some (m == []) := by simp [eqO, pl, deq]
  have i9 : eqO (.int r) (.int 9) = some (decide (r = 9)) := by
    simp only [eqO, pl, and_self, if_true, deq]
    congr 1
  have i3 : eqO (.int (r + (cnt 120 m : Int))) (.int 3) = some (decide (r + (cnt 120 m : Int) = 3)) := by
    simp only [eqO, pl, and_self, if_true, deq]
    congr 1
  rw [ifs_ret (b := decide (r = 9) && !(m == [])) (by
    by_cases h : r = 9
    · subst h; simp [ev, op_eq, op_ne, i9, ne]
    · simp [ev, op_eq, i9, h])]
  rw [ifs_ret (b := decide (r < 9) && decide (3 < r + (cnt 120 m : Int))) (by
    by_cases h : r < 9
    · simp [ev, evs, op_lt, op_gt, op_add, h, f4, misses_str]
    · simp [ev, op_lt, h])]
  rw [ifs_ret (b := decide (r < 9) && (decide (r + (cnt 120 m : Int) = 3) && !opn m)) (by
    by_cases h : r < 9
    · by_cases h2 : r + (cnt 120 m : Int) = 3
      · simp [ev, evs, op_lt, op_add, op_eq, i3, h, h2, f4, f1, misses_str, is_open_str m S hm]
        simp [eqO, pl, deq, is_open_str m S hm]
      · simp [ev, evs, op_lt, op_add, op_eq, i3, h, h2, f4, misses_str]
    · simp [ev, op_lt, h])]
  rw [ifs_ret (b := decide (rb r m < 9) && (opn m && !rest.isEmpty)) (by
    by_cases h : rb r m < 9
    · cases h2 : opn m with
      | true => simp [ev, evs, op_lt, op_add, h, f5, f1, run_behind_ok, is_open_str m S hm, h2, bl, hl]
      | false => simp [ev, evs, op_lt, h, f5, f1, run_behind_ok, is_open_str m S hm, h2]
    · simp [ev, evs, op_lt, h, f5, run_behind_ok])]
  unfold badP
  generalize (decide (r = 9) && !(m == [])) = b1
  generalize (decide (r < 9) && decide (3 < r + (cnt 120 m : Int))) = b2
  generalize (decide (r < 9) && (decide (r + (cnt 120 m : Int) = 3) && !opn m)) = b3
  generalize (decide (rb r m < 9) && (opn m && !rest.isEmpty)) = b4
  cases b1 <;> cases b2 <;> cases b3 <;> cases b4 <;> rfl
theorem row_loop (S : Sto) : ∀ (rest pre : List (List Nat)) (a b c : Slot), (∀ m ∈ rest, m.length ≤ 1000) → ∃ a' b' c', loop (fun d ρ S => bound (bindT (.pair (.name 1) (.name 2)) d ρ) fun ρ => exs irF irB ρ S) (enumD pre.length (rest.map D.str)) [.val (strs_ (pre ++ rest)), a, b, c] S
    = if rowOk (runOf pre) rest then .ok (.nx [.val (strs_ (pre ++ rest)), a', b', c']) S else .ok (.rt (.bl false)) S
  | [], pre, a, b, c, _ => ⟨a, b, c, rfl⟩
  | m :: rest, pre, a, b, c, hm => by
    obtain ⟨a', b', c', e⟩ := row_loop S rest (pre ++ [m]) (.val (.int pre.length)) (.val (.str m)) (.val (.int (runOf pre))) fun z hz => hm z (List.mem_cons_of_mem _ hz)
    have er : runOf (pre ++ [m]) = nxt (runOf pre) m := by simp [runOf]
    have el : (pre ++ [m]).length = pre.length + 1 := by simp
    have ea : pre ++ [m] ++ rest = pre ++ m :: rest := by simp
    rw [er, el, ea] at e
    refine ⟨a', b', c', ?_⟩
    have st : bindT (.pair (.name 1) (.name 2)) (.tup [.int pre.length, .str m]) [.val (strs_ (pre ++ m :: rest)), a, b, c] = some [.val (strs_ (pre ++ m :: rest)), .val (.int pre.length), .val (.str m), c] := rfl
    rw [List.map_cons, enumD, loop, st, bound_some, row_turn pre rest m c S (hm m (List.mem_cons_self ..)), rowOk]
    cases q : badP (runOf pre) m (!rest.isEmpty) with
    | true => rfl
    | false =>
      simp only [Bool.false_eq_true, if_false, R.turn_nx, Bool.not_false, Bool.true_and]
      exact e
/-- is_row on a list of texts -/
theorem is_row_ok (ms : List (List Nat)) (S : Sto) (hm : ∀ m ∈ ms, m.length ≤ 1000) (hl : ms.length ≤ 1000) : fn_is_row [strs_ ms] S = .ok (.bl (decide (ms.length ≤ 12) && (ms.all markB && rowOk 0 ms))) S := by
  have f2 : irF.fn 2 = some fn_is_mark := rfl
  have g2 : irF.gl 2 = some (.int 12) := rfl
  have hi : isA (strs_ ms) .list = some true := rfl
  have bl : b1 .len (strs_ ms) = some (.int (ms.length : Int)) := by simp [strs_, b1]
  show (exs irF (.cons _ (.cons (.each (.pair (.name 1) (.name 2)) (.enm (.var 0)) irB) (.cons (.ret (.cst (.bl true))) .nil))) [.val (strs_ ms), .emp, .emp, .emp] S).ends = _
  have ht : turns (compF irF (.call 2 (.cons (.var 2) .nil)) (.name 2) [2] [.val (strs_ ms), .emp, .emp, .emp]) (ms.map D.str) S = .ok (ms.map fun m => .bl (markB m)) S := by
    refine turns_map fun m h => ?_
    simp [compF, bindT, wipe, noOwn, ev, evs, f2, is_mark_str m S (hm m h)]
  have hc : (ev irF (.or (.nt (.isi (.var 0) .list)) (.or (.op .gt (.f1 .len (.var 0)) (.glo 2)) (.nt (.f1 .all (.comp (.call 2 (.cons (.var 2) .nil)) (.name 2) (.seq (.var 0)) [2]))))) [.val (strs_ ms), .emp, .emp, .emp] S).bind asB = .ok (!(decide (ms.length ≤ 12) && ms.all markB)) S := by
    have ha : ev irF (.f1 .all (.comp (.call 2 (.cons (.var 2) .nil)) (.name 2) (.seq (.var 0)) [2])) [.val (strs_ ms), .emp, .emp, .emp] S = .ok (.bl (ms.all markB)) S := by
      have hs : evIt irF (.seq (.var 0)) [.val (strs_ ms), .emp, .emp, .emp] S = .ok (ms.map D.str) S := rfl
      rw [ev, ev_comp, hs, R.bind_ok, ht, calmly_ok, R.bind_ok, small_ok (by simp; omega), R.bind_ok, R.bind_ok]
      have e : (ms.map fun m => D.bl (markB m)) = (ms.map markB).map D.bl := by simp
      rw [e, b1, bools_map]
      simp
    by_cases h12 : (12 : Int) < ms.length
    · have : ¬ ms.length ≤ 12 := by omega
      simp [ev, hi, bl, g2, op_gt, h12, this]
    · have : ms.length ≤ 12 := by omega
      rw [ev_or (t := false) (by simp [ev, hi])]
      simp only [Bool.false_eq_true, if_false]
      rw [ev_or (t := false) (by simp [ev, bl, g2, op_gt, h12])]
      simp only [Bool.false_eq_true, if_false]
      rw [ev_nt ha]
      simp [this]
  rw [ifs_ret hc]
  cases q : (decide (ms.length ≤ 12) && ms.all markB) with
  | false =>
    rw [← Bool.and_assoc, q]
    rfl
  | true =>
    rw [← Bool.and_assoc, q]
    obtain ⟨a', b', c', e⟩ := row_loop S ms [] .emp .emp .emp hm
    have e2 : ex irF (.each (.pair (.name 1) (.name 2)) (.enm (.var 0)) irB) [.val (strs_ ms), .emp, .emp, .emp] S = if rowOk 0 ms then .ok (.nx [.val (strs_ ms), a', b', c']) S else .ok (.rt (.bl false)) S := by
      rw [ex]
      exact e
    simp only [Bool.not_true, Bool.false_eq_true, if_false, Bool.true_and]
    rw [exs, e2]
    cases rowOk 0 ms <;> rfl
/-! ### the law's own walk -/
def lawStep (r : Int) (m : List Nat) (more : Bool) : Option Int :=
  if r = 3 then (if m = [] then some 3 else none)
  else if 3 < r + (cnt 120 m : Int) ∨ (r + (cnt 120 m : Int) = 3 ∧ opn m = false) then none
  else if r + (cnt 120 m : Int) < 3 ∧ opn m = true ∧ more = true then none
  else if m.getLast? = some 114 then some 3
  else if r + (cnt 120 m : Int) < 3 ∧ m.getLast? = some 111 then some 0 else some (r + (cnt 120 m : Int))
def lawOk : Int → List (List Nat) → Bool
  | _, [] => true
  | r, m :: ms => match lawStep r m (!ms.isEmpty) with
    | some r' => lawOk r' ms
    | none => false
theorem opn_all (s : List Nat) : opn s = s.all (· == 120) := by
  unfold opn
  rw [Bool.eq_iff_iff]
  simp only [beq_iff_eq, List.all_eq_true, List.eq_replicate_iff, true_and]
theorem cnt_nonneg (m : List Nat) : 0 ≤ (cnt 120 m : Int) := by omega
theorem opn_not_r {m : List Nat} {c : Nat} (h : opn m = true) (hc : c ≠ 120) : m.getLast? ≠ some c := fun e => hc (opn_last h e)
/-- the program's state and the law's -/
def St2 (p l : Int) : Prop := (p = 9 ∧ l = 3) ∨ (p = l ∧ 0 ≤ l ∧ l < 3)
theorem step_same {p l : Int} (h : St2 p l) (m : List Nat) (more : Bool) :
    (badP p m more = true ∧ lawStep l m more = none) ∨ (badP p m more = false ∧ ∃ l', lawStep l m more = some l' ∧ St2 (nxt p m) l') := by
  have hc := cnt_nonneg m
  have hr : opn m = true → m.getLast? ≠ some 114 := fun h => opn_not_r h (by decide)
  have ho : opn m = true → m.getLast? ≠ some 111 := fun h => opn_not_r h (by decide)
  have on : opn [] = true := rfl
  have cn : cnt 120 [] = 0 := rfl
  generalize hcn : (cnt 120 m : Int) = c at hc
  rcases h with ⟨rfl, rfl⟩ | ⟨rfl, h0, h3⟩
  · by_cases hm : m = []
    · subst hm
      right
      refine ⟨?_, 3, rfl, .inl ⟨rfl, rfl⟩⟩
      cases more <;> rfl
    · left
      simp [badP, lawStep, hm]
  · have n9 : p ≠ 9 := by omega
    have l9 : p < 9 := by omega
    have n3 : p ≠ 3 := by omega
    unfold badP lawStep nxt rb
    rw [hcn]
    simp only [n9, n3, l9, if_false, decide_false, Bool.false_and, Bool.false_or, decide_true, Bool.true_and]
    by_cases g1 : 3 < p + c
    · left
      simp [g1]
    · by_cases g2 : p + c = 3
      · have g3 : 3 ≤ p + c := by omega
        have g4 : ¬ p + c < 3 := by omega
        cases q : opn m with
        | false => left; simp [g1, g2]
        | true =>
          right
          have := hr q
          refine ⟨by simp [g1, g2, g3], 3, by simp [g1, g2, this], .inl ⟨by simp [g3], rfl⟩⟩
      · have g3 : ¬ 3 ≤ p + c := by omega
        have g4 : p + c < 3 := by omega
        by_cases q1 : m.getLast? = some 114
        · have q : opn m = false := by
            cases q : opn m with
            | false => rfl
            | true => exact (hr q q1).elim
          right
          refine ⟨by simp [g1, g2, g3, q1], 3, by simp [g1, g2, q, q1], .inl ⟨by simp [q1], rfl⟩⟩
        · by_cases q2 : m.getLast? = some 111
          · have q : opn m = false := by
              cases q : opn m with
              | false => rfl
              | true => exact (ho q q2).elim
            right
            refine ⟨by simp [g1, g2, q], 0, by simp [g1, g2, q, q2, g4], .inr ⟨by simp [g3, q2], by omega, by omega⟩⟩
          · have g5 : p + c < 9 := by omega
            cases q : opn m with
            | false =>
              right
              refine ⟨by simp [g1, g2], p + c, by simp [g1, g2, q1, q2], .inr ⟨by simp [g3, q1, q2], by omega, g4⟩⟩
            | true =>
              cases more with
              | true => left; simp [g1, g2, g3, q1, q2, g4, g5]
              | false =>
                right
                refine ⟨by simp [g1, g2], p + c, by simp [g1, g2, q1, q2], .inr ⟨by simp [g3, q1, q2], by omega, g4⟩⟩
theorem row_same : ∀ (ms : List (List Nat)) (p l : Int), St2 p l → rowOk p ms = lawOk l ms
  | [], _, _, _ => rfl
  | m :: ms, p, l, h => by
    rw [rowOk, lawOk]
    rcases step_same h m (!ms.isEmpty) with ⟨h1, h2⟩ | ⟨h1, l', h2, h3⟩
    · rw [h1, h2]; rfl
    · rw [h1, h2, row_same ms _ l' h3]; rfl
theorem row0 (ms : List (List Nat)) : rowOk 0 ms = lawOk 0 ms := row_same ms 0 0 (.inr ⟨rfl, by omega, by omega⟩)
theorem i_eq (a b : Int) : eqO (.int a) (.int b) = some (decide (a = b)) := by
  simp only [eqO, pl, and_self, if_true, deq]
  congr 1
theorem s_eq (a b : List Nat) : eqO (.str a) (.str b) = some (decide (a = b)) := by
  simp only [eqO, pl, and_self, if_true, deq]
  congr 1
  rw [Bool.eq_iff_iff]; simp
theorem ends_at (s : List Nat) (c : Nat) : m1 .endswith (.str s) (.str [c]) = some (.bl (decide (s.getLast? = some c))) := by
  simp only [m1]
  congr 2
  rw [Bool.eq_iff_iff]; simp
theorem step_range {r r' : Int} {m : List Nat} {more : Bool} (hr : 0 ≤ r ∧ r ≤ 3) (h : lawStep r m more = some r') : 0 ≤ r' ∧ r' ≤ 3 := by
  have hc := cnt_nonneg m
  unfold lawStep at h
  split at h
  · split at h <;> cases h
    omega
  · split at h
    · cases h
    · split at h
      · cases h
      · split at h
        · cases h; omega
        · split at h
          · cases h; omega
          · cases h
            omega
/-! ### walks over rows -/
/-- the walk so far, more to come -/
def walkL : Int → List (List Nat) → Option Int
  | r, [] => some r
  | r, m :: ms => (lawStep r m true).bind fun r => walkL r ms
theorem walk_snoc {m : List Nat} {r' : Int} : ∀ {ms : List (List Nat)} {r r1 : Int}, walkL r ms = some r1 → lawStep r1 m true = some r' → walkL r (ms ++ [m]) = some r'
  | [], r, r1, h, h2 => by cases h; simp [walkL, h2]
  | z :: ms, r, r1, h, h2 => by
    rw [walkL] at h
    rw [List.cons_append, walkL]
    cases q : lawStep r z true with
    | none => rw [q] at h; cases h
    | some r2 =>
      rw [q] at h
      exact walk_snoc (ms := ms) h h2
theorem step_less {r r' : Int} {m : List Nat} (h : lawStep r m true = some r') (more : Bool) : lawStep r m more = some r' := by
  cases more with
  | true => exact h
  | false =>
    unfold lawStep at h ⊢
    split
    · rename_i h3; rw [if_pos h3] at h; exact h
    · rename_i h3
      rw [if_neg h3] at h
      split
      · rename_i h4; rw [if_pos h4] at h; cases h
      · rename_i h4
        rw [if_neg h4] at h
        split at h
        · cases h
        · rw [if_neg (by simp)]
          exact h
theorem walk_ok : ∀ {ms : List (List Nat)} {r r1 : Int}, walkL r ms = some r1 → lawOk r ms = true
  | [], _, _, _ => rfl
  | m :: ms, r, r1, h => by
    rw [walkL] at h
    cases q : lawStep r m true with
    | none => rw [q] at h; cases h
    | some r2 =>
      rw [q] at h
      rw [lawOk, step_less q]
      exact walk_ok (ms := ms) h
theorem walk_last {m : List Nat} {r' : Int} : ∀ {ms : List (List Nat)} {r r1 : Int}, walkL r ms = some r1 → lawStep r1 m false = some r' → lawOk r (ms ++ [m]) = true
  | [], r, r1, h, h2 => by cases h; simp [lawOk, h2]
  | z :: ms, r, r1, h, h2 => by
    rw [walkL] at h
    cases q : lawStep r z true with
    | none => rw [q] at h; cases h
    | some r2 =>
      rw [q] at h
      rw [List.cons_append, lawOk, step_less q]
      exact walk_last (ms := ms) h h2
theorem mark_len {m : List Nat} (h : markB m = true) : m.length ≤ 3 := by
  unfold markB at h
  split at h
  · exact of_decide_eq_true h
  · rw [Bool.and_eq_true] at h
    exact of_decide_eq_true h.1
theorem cut_lo (ms : List (List Nat)) (j : Int) (h : 0 ≤ j) : slc (strs_ ms) none (some j) = some (strs_ (ms.take j.toNat)) := by
  have : ¬ j < 0 := by omega
  simp only [strs_, slc, cut, sx, if_neg this, List.drop_zero, Nat.sub_zero]
  rw [List.length_map, List.map_take, Nat.min_def]
  split
  · rfl
  · rw [List.take_of_length_le (by simp), List.take_of_length_le (by simp; omega)]
theorem cut_hi (ms : List (List Nat)) (j : Int) (h : 0 ≤ j) : slc (strs_ ms) (some j) none = some (strs_ (ms.drop j.toNat)) := by
  have : ¬ j < 0 := by omega
  simp only [strs_, slc, cut, sx, if_neg this, List.length_map]
  congr 2
  rw [List.take_of_length_le (by simp), List.map_drop, Nat.min_def]
  split
  · rfl
  · rw [List.drop_eq_nil_of_le (by simp), List.drop_eq_nil_of_le (by simp; omega)]
theorem add_l (a b : List (List Nat)) (h : a.length + b.length ≤ 1000) : op2 .add (strs_ a) (strs_ b) = some (strs_ (a ++ b)) := by
  show (if (a.map D.str).length + (b.map D.str).length ≤ lim then some (D.lst (a.map D.str ++ b.map D.str)) else none) = _
  rw [if_pos (by simp [lim]; omega)]
  simp [strs_]
theorem row_true (os : List (List Nat)) (S : Sto) (hb : ∀ m ∈ os, markB m = true) (hl : os.length ≤ 1000) : fn_is_row [strs_ os] S = .ok (.bl (decide (os.length ≤ 12) && lawOk 0 os)) S := by
  rw [is_row_ok os S (fun m h => by have := mark_len (hb m h); omega) hl, row0, List.all_eq_true.mpr hb, Bool.true_and]
/-! ### what is asked of a row -/
structure Good (ms : List (List Nat)) : Prop where
  marks : ∀ m ∈ ms, markB m = true
  ok : lawOk 0 ms = true
  len : ms.length ≤ 12
theorem Good.row {ms : List (List Nat)} (h : Good ms) (S : Sto) : fn_is_row [strs_ ms] S = .ok (.bl true) S := by
  have := h.len
  rw [row_true ms S h.marks (by omega), h.ok]
  simp [this]
theorem need_ok {ms : List (List Nat)} (h : Good ms) (S : Sto) : fn_need_row [strs_ ms] S = .ok .non S := by
  (unfold fn_need_row; simp only [fn1, fn2, fn3, fn4, fF1, fF2, Nat.reduceSub, List.replicate_succ, List.replicate_zero])
  simp [exs_cons, exs_nil, exsK_nx, exsK_ap, ex_ifs, ifK_t, ifK_f, ex_asg1, ex_asg, ex_ret, ex_expr, ex_pass, ex_new, r_var, varR_val, r_own, ownR_own, r_cst, r_glo, r_op, r_chain, r_neg, negR_some, r_nt, r_and, r_or, r_ite, r_lst, r_tup, r_idx, r_slc0, r_slc1, r_slc2, r_slc3, r_rev, r_f1, r_f2, r_meth, r_isi, r_call, callR_ok, r_callO, callO_ok, r_lmeth, lmR_count, lmR_index, r_nrng, nrR_int, r_lzip, ex_cpy, ex_par, ex_retF, tabY_fn, tabY_gl, r_nil, r_cons, tab_fn, tab_gl, tabX_fn, tabX_gl, look_hit, look_miss, r_fld, r_mth, mthR_ok, r_mk, mkR_ok, r_lenSet, r_isLT, eqNR_lst, r_eqN, r_dget, r_dcpy, stoR_some, ex_setf, ex_dput, tabZ_fn, tabZ_gl, tabZ_mt, tabZ_mk, tabZ_fd, bindT, op_add, op_sub, op_lt, op_le, op_gt, op_ge, op_eq, op_ne, op_in, op_nin, op_is, op_isn, small_ok, b_need_row, h.row S]
/-- the heights cleared -/
def clr : Nat → List (List Nat) → List Nat
  | _, [] => []
  | i, m :: ms => (if m.getLast? = some 111 then [i] else []) ++ clr (i + 1) ms
def nats_ (l : List Nat) : List D := l.map fun n => .int (n : Nat)
theorem turns_clr {f : D → Sto → R (Option D)} {S : Sto} (h : ∀ (i : Nat) (m : List Nat), f (.tup [.int i, .str m]) S = .ok (if m.getLast? = some 111 then some (.int i) else none) S) : ∀ (ms : List (List Nat)) (i : Nat), turns f (enumD i (ms.map D.str)) S = .ok (nats_ (clr i ms)) S
  | [], i => rfl
  | m :: ms, i => by
    rw [List.map_cons, enumD, turns, h i m, R.bind_ok, turns_clr h ms (i + 1), clr]
    by_cases q : m.getLast? = some 111
    · simp [q, nats_]
    · simp [q, nats_]
theorem clr_len : ∀ (ms : List (List Nat)) (i : Nat), (clr i ms).length ≤ ms.length
  | [], _ => Nat.le_refl 0
  | m :: ms, i => by
    have := clr_len ms (i + 1)
    rw [clr, List.length_append, List.length_cons]
    split <;> simp <;> omega
theorem clr_mem : ∀ (ms : List (List Nat)) (i j : Nat), j ∈ clr i ms → i ≤ j ∧ j < i + ms.length
  | [], _, _, h => nomatch h
  | m :: ms, i, j, h => by
    rw [clr] at h
    rcases List.mem_append.mp h with h | h
    · split at h
      · rw [List.mem_singleton.mp h]; simp
      · cases h
    · have := clr_mem ms (i + 1) j h
      simp only [List.length_cons]
      omega
theorem plain_nats (l : List Nat) : (nats_ l).all (pl 19) = true := by
  simp [nats_, pl]
theorem eq_nil (l : List Nat) : eqO (.lst (nats_ l)) (.lst []) = some (l.isEmpty) := by
  have h : pl 20 (.lst (nats_ l)) = true := plain_nats l
  have h2 : pl 20 (.lst []) = true := rfl
  rw [eqO.eq_def]
  cases l with
  | nil => rfl
  | cons a l =>
    show (if pl 20 (.lst (nats_ (a :: l))) = true ∧ pl 20 (.lst []) = true then some (deq (.lst (nats_ (a :: l))) (.lst [])) else none) = _
    rw [if_pos ⟨h, h2⟩]
    rfl
theorem nats_last {l : List Nat} {t : Nat} (h : l.getLast? = some t) : idx (.lst (nats_ l)) (.int (-1)) = some (.int t) := by
  have hn : l ≠ [] := by intro e; subst e; cases h
  have hl : 0 < l.length := List.length_pos_iff.mpr hn
  rw [List.getLast?_eq_getElem?] at h
  have e : (-1 + (l.length : Int)).toNat = l.length - 1 := by omega
  simp only [idx, at_, ix, nats_, List.length_map]
  rw [if_neg (by omega), if_pos (by omega), e]
  simp [h]
def top? (ms : List (List Nat)) : Option Nat := (clr 0 ms).getLast?
theorem top_lt {ms : List (List Nat)} {t : Nat} (h : top? ms = some t) : t < ms.length := by
  have := clr_mem ms 0 t (List.mem_of_getLast? h)
  omega
def optI : Option Nat → D
  | some t => .int (t : Nat)
  | none => .non
def bsF : Fns := tabOf [(12, fn_need_row)] []
theorem best_ok {ms : List (List Nat)} (h : Good ms) (S : Sto) : fn_best [strs_ ms] S = .ok (optI (top? ms)) S := by
  have f12 : bsF.fn 12 = some fn_need_row := rfl
  have hl := h.len
  have hc := clr_len ms 0
  have e1 : ex bsF (.expr (.call 12 (.cons (.var 0) .nil))) [.val (strs_ ms), .emp, .emp, .emp] S = .ok (.nx [.val (strs_ ms), .emp, .emp, .emp]) S := by
    simp [ex, ev, evs, f12, need_ok h]
  have ht : turns (compIfF bsF (.var 2) (.pair (.name 2) (.name 3)) (.op .eq (.slc (.var 3) (some (.neg (.cst (.int 1)))) none) (.cst (.str [111]))) [2, 3] [.val (strs_ ms), .emp, .emp, .emp]) (enumD 0 (ms.map D.str)) S = .ok (nats_ (clr 0 ms)) S := by
    refine turns_clr (fun i m => ?_) ms 0
    have l := last_eq m 111
    by_cases q : m.getLast? = some 111
    · rw [decide_eq_true q] at l
      rw [if_pos q]
      simp [compIfF, bindT, wipe, noOwn, ev, cut_last, op_eq, l]
    · rw [decide_eq_false q] at l
      rw [if_neg q]
      simp [compIfF, bindT, wipe, noOwn, ev, cut_last, op_eq, l]
  have e2 : ex bsF (.asg (.name 1) (.compIf (.var 2) (.pair (.name 2) (.name 3)) (.enm (.var 0)) (.op .eq (.slc (.var 3) (some (.neg (.cst (.int 1)))) none) (.cst (.str [111]))) [2, 3])) [.val (strs_ ms), .emp, .emp, .emp] S = .ok (.nx [.val (strs_ ms), .val (.lst (nats_ (clr 0 ms))), .emp, .emp]) S := by
    have hi : evIt bsF (.enm (.var 0)) [.val (strs_ ms), .emp, .emp, .emp] S = .ok (enumD 0 (ms.map D.str)) S := rfl
    rw [ex, ev_compIf, hi, R.bind_ok, ht, calmly_ok, R.bind_ok, small_ok (by simp [nats_]; omega), R.bind_ok, R.then_ok]
    rfl
  show (exs bsF (.cons (.expr (.call 12 (.cons (.var 0) .nil))) (.cons _ (.cons (.ret (.ite (.op .ne (.var 1) (.lst .nil)) (.idx (.var 1) (.neg (.cst (.int 1)))) (.cst .non))) .nil))) [.val (strs_ ms), .emp, .emp, .emp] S).ends = _
  rw [exs_nx e1, exs_nx e2]
  have hq := eq_nil (clr 0 ms)
  unfold top?
  cases hg : (clr 0 ms).getLast? with
  | none =>
    have hz : (clr 0 ms).isEmpty = true := by simpa using hg
    rw [hz] at hq
    simp [exs, ex, ev, evs, op_ne, small_ok, hq, optI]
  | some t =>
    have hz : (clr 0 ms).isEmpty = false := by
      cases hcl : clr 0 ms with
      | nil => rw [hcl] at hg; cases hg
      | cons _ _ => rfl
    rw [hz] at hq
    simp [exs, ex, ev, evs, op_ne, small_ok, hq, nats_last hg, optI]
/-! ### score, the law's run and weight -/
theorem sum_miss : ∀ l : List (List Nat), intsD (l.map fun m => D.int (cnt 120 m)) = some (l.map fun m => (cnt 120 m : Int))
  | [] => rfl
  | m :: l => by simp [intsD, sum_miss l]
def missD (l : List (List Nat)) : List D := l.map fun m => D.int (cnt 120 m)
def missUp (ms : List (List Nat)) (t : Nat) : Int := ((ms.take (t + 1)).map fun m => (cnt 120 m : Int)).sum
theorem sum_up (ms : List (List Nat)) (t : Nat) : b1 .sum (.lst (missD (ms.take (t + 1)))) = some (.int (missUp ms t)) := by
  rw [b1, missD, sum_miss]; rfl
theorem at_nat {α : Type} {xs : List α} {t : Nat} {x : α} (h : xs[t]? = some x) : at_ xs (t : Int) = some x := by
  have hl : t < xs.length := by
    rcases Nat.lt_or_ge t xs.length with h' | h'
    · exact h'
    · rw [List.getElem?_eq_none h'] at h; cases h
  simp [at_, ix, hl]
  rw [List.getElem?_eq_getElem hl] at h
  exact Option.some.inj h
theorem strs_at {ms : List (List Nat)} {t : Nat} (h : t < ms.length) : idx (strs_ ms) (.int t) = some (.str ms[t]) := by
  simp only [strs_, idx]
  apply at_nat
  simp [h]
def missAt (ms : List (List Nat)) (t : Nat) : Int := (cnt 120 (ms.getD t []) : Int)
def wt (ms : List (List Nat)) : Option (Int × Int × Int) := (top? ms).map fun t => ((t : Nat), missAt ms t, missUp ms t)
def scoreD : Option (Int × Int × Int) → D
  | some (a, b, c) => .tup [.int a, .int b, .int c]
  | none => .non
def weightD : Option (Int × Int × Int) → D
  | some (a, b, c) => .tup [.int a, .int (-b), .int (-c)]
  | none => .tup [.int (-1), .int 0, .int 0]
theorem score_ok {ms : List (List Nat)} (h : Good ms) (S : Sto) : fn_score [strs_ ms] S = .ok (scoreD (wt ms)) S := by
  have hb := best_ok h S
  have hl := h.len
  (unfold fn_score; simp only [fn1, fn2, fn3, fn4, fF1, fF2, Nat.reduceSub, List.replicate_succ, List.replicate_zero])
  unfold wt
  cases ht : top? ms with
  | none =>
    rw [ht] at hb
    simp [exs_cons, exs_nil, exsK_nx, exsK_ap, ex_ifs, ifK_t, ifK_f, ex_asg1, ex_asg, ex_ret, ex_expr, ex_pass, ex_new, r_var, varR_val, r_own, ownR_own, r_cst, r_glo, r_op, r_chain, r_neg, negR_some, r_nt, r_and, r_or, r_ite, r_lst, r_tup, r_idx, r_slc0, r_slc1, r_slc2, r_slc3, r_rev, r_f1, r_f2, r_meth, r_isi, r_call, callR_ok, r_callO, callO_ok, r_lmeth, lmR_count, lmR_index, r_nrng, nrR_int, r_lzip, ex_cpy, ex_par, ex_retF, tabY_fn, tabY_gl, r_nil, r_cons, tab_fn, tab_gl, tabX_fn, tabX_gl, look_hit, look_miss, r_fld, r_mth, mthR_ok, r_mk, mkR_ok, r_lenSet, r_isLT, eqNR_lst, r_eqN, r_dget, r_dcpy, stoR_some, ex_setf, ex_dput, tabZ_fn, tabZ_gl, tabZ_mt, tabZ_mk, tabZ_fd, bindT, op_add, op_sub, op_lt, op_le, op_gt, op_ge, op_eq, op_ne, op_in, op_nin, op_is, op_isn, small_ok, b_score, hb, optI, isO, isNon, scoreD]
  | some t =>
    rw [ht] at hb
    have htl := top_lt ht
    have c1 := cut_lo ms ((t : Int) + 1) (by omega)
    have e2 : ((t : Int) + 1).toNat = t + 1 := by omega
    rw [e2] at c1
    have hc : ∀ F : Fns, F.fn 4 = some fn_misses_in → ∀ z, ev F (.comp (.call 4 (.cons (.var 2) .nil)) (.name 2) (.seq (.slc (.var 0) none (some (.op .add (.var 1) (.cst (.int 1)))))) [2]) [.val (strs_ ms), .val (.int t), z] S = .ok (.lst (missD (ms.take (t + 1)))) S := fun F hf z => by
      refine comp_map (l := ms.take (t + 1)) D.str (fun m => D.int (cnt 120 m)) ?_ (by simp; omega) fun m hm => ?_
      · simp [exs_cons, exs_nil, exsK_nx, exsK_ap, ex_ifs, ifK_t, ifK_f, ex_asg1, ex_asg, ex_ret, ex_expr, ex_pass, ex_new, r_var, varR_val, r_own, ownR_own, r_cst, r_glo, r_op, r_chain, r_neg, negR_some, r_nt, r_and, r_or, r_ite, r_lst, r_tup, r_idx, r_slc0, r_slc1, r_slc2, r_slc3, r_rev, r_f1, r_f2, r_meth, r_isi, r_call, callR_ok, r_callO, callO_ok, r_lmeth, lmR_count, lmR_index, r_nrng, nrR_int, r_lzip, ex_cpy, ex_par, ex_retF, tabY_fn, tabY_gl, r_nil, r_cons, tab_fn, tab_gl, tabX_fn, tabX_gl, look_hit, look_miss, r_fld, r_mth, mthR_ok, r_mk, mkR_ok, r_lenSet, r_isLT, eqNR_lst, r_eqN, r_dget, r_dcpy, stoR_some, ex_setf, ex_dput, tabZ_fn, tabZ_gl, tabZ_mt, tabZ_mk, tabZ_fd, bindT, op_add, op_sub, op_lt, op_le, op_gt, op_ge, op_eq, op_ne, op_in, op_nin, op_is, op_isn, small_ok, evIt, c1]; simp [strs_, seqD]
      · cases z <;> simp [exs_cons, exs_nil, exsK_nx, exsK_ap, ex_ifs, ifK_t, ifK_f, ex_asg1, ex_asg, ex_ret, ex_expr, ex_pass, ex_new, r_var, varR_val, r_own, ownR_own, r_cst, r_glo, r_op, r_chain, r_neg, negR_some, r_nt, r_and, r_or, r_ite, r_lst, r_tup, r_idx, r_slc0, r_slc1, r_slc2, r_slc3, r_rev, r_f1, r_f2, r_meth, r_isi, r_call, callR_ok, r_callO, callO_ok, r_lmeth, lmR_count, lmR_index, r_nrng, nrR_int, r_lzip, ex_cpy, ex_par, ex_retF, tabY_fn, tabY_gl, r_nil, r_cons, tab_fn, tab_gl, tabX_fn, tabX_gl, look_hit, look_miss, r_fld, r_mth, mthR_ok, r_mk, mkR_ok, r_lenSet, r_isLT, eqNR_lst, r_eqN, r_dget, r_dcpy, stoR_some, ex_setf, ex_dput, tabZ_fn, tabZ_gl, tabZ_mt, tabZ_mk, tabZ_fd, bindT, op_add, op_sub, op_lt, op_le, op_gt, op_ge, op_eq, op_ne, op_in, op_nin, op_is, op_isn, small_ok, compF, noOwn, wipe, hf, misses_str]
    have hm : missAt ms t = cnt 120 ms[t] := by simp [missAt, htl]
    simp [exs_cons, exs_nil, exsK_nx, exsK_ap, ex_ifs, ifK_t, ifK_f, ex_asg1, ex_asg, ex_ret, ex_expr, ex_pass, ex_new, r_var, varR_val, r_own, ownR_own, r_cst, r_glo, r_op, r_chain, r_neg, negR_some, r_nt, r_and, r_or, r_ite, r_lst, r_tup, r_idx, r_slc0, r_slc1, r_slc2, r_slc3, r_rev, r_f1, r_f2, r_meth, r_isi, r_call, callR_ok, r_callO, callO_ok, r_lmeth, lmR_count, lmR_index, r_nrng, nrR_int, r_lzip, ex_cpy, ex_par, ex_retF, tabY_fn, tabY_gl, r_nil, r_cons, tab_fn, tab_gl, tabX_fn, tabX_gl, look_hit, look_miss, r_fld, r_mth, mthR_ok, r_mk, mkR_ok, r_lenSet, r_isLT, eqNR_lst, r_eqN, r_dget, r_dcpy, stoR_some, ex_setf, ex_dput, tabZ_fn, tabZ_gl, tabZ_mt, tabZ_mk, tabZ_fd, bindT, op_add, op_sub, op_lt, op_le, op_gt, op_ge, op_eq, op_ne, op_in, op_nin, op_is, op_isn, small_ok, b_score, hb, optI, isO, isNon, strs_at htl, misses_str, hc, sum_up, scoreD, hm]
/-! ### weights, mark by mark -/
def cleared (m : List Nat) : Bool := decide (m.getLast? = some 111)
def sumC (ms : List (List Nat)) : Int := (ms.map fun m => (cnt 120 m : Int)).sum
def wI (ms : List (List Nat)) : Int × Int × Int := match wt ms with
  | some (a, b, c) => (a, -b, -c)
  | none => (-1, 0, 0)
theorem clr_snoc (m : List Nat) : ∀ (ms : List (List Nat)) (i : Nat), clr i (ms ++ [m]) = clr i ms ++ (if m.getLast? = some 111 then [i + ms.length] else [])
  | [], i => by simp [clr]
  | z :: ms, i => by
    rw [List.cons_append, clr, clr, clr_snoc m ms (i + 1), List.append_assoc]
    simp [Nat.add_comm, Nat.add_left_comm]
theorem top_snoc (ms : List (List Nat)) (m : List Nat) : top? (ms ++ [m]) = if m.getLast? = some 111 then some ms.length else top? ms := by
  unfold top?
  rw [clr_snoc]
  split
  · rw [List.getLast?_append]; simp
  · simp
theorem sumC_snoc (ms : List (List Nat)) (m : List Nat) : sumC (ms ++ [m]) = sumC ms + (cnt 120 m : Int) := by simp [sumC]
theorem sumC_app (a b : List (List Nat)) : sumC (a ++ b) = sumC a + sumC b := by simp [sumC]
theorem sumC_nonneg : ∀ ms : List (List Nat), 0 ≤ sumC ms
  | [] => by simp [sumC]
  | m :: ms => by
    have := sumC_nonneg ms
    unfold sumC at this ⊢
    rw [List.map_cons, List.sum_cons]
    omega
theorem w_nil : wI [] = (-1, 0, 0) := rfl
theorem w_snoc (ms : List (List Nat)) (m : List Nat) : wI (ms ++ [m]) = if cleared m then ((ms.length : Int), -(cnt 120 m : Int), -sumC (ms ++ [m])) else wI ms := by
  unfold wI wt
  rw [top_snoc]
  unfold cleared
  by_cases h : m.getLast? = some 111
  · rw [if_pos h, decide_eq_true h]
    have e1 : missAt (ms ++ [m]) ms.length = (cnt 120 m : Int) := by simp [missAt]
    have e2 : missUp (ms ++ [m]) ms.length = sumC (ms ++ [m]) := by
      unfold missUp sumC
      rw [List.take_of_length_le (by simp)]
    simp only [Option.map_some, e1, e2, if_true]
  · rw [if_neg h, decide_eq_false h]
    simp only [Bool.false_eq_true, if_false]
    cases ht : top? ms with
    | none => rfl
    | some t =>
      have hl := top_lt ht
      have e1 : missAt (ms ++ [m]) t = missAt ms t := by simp [missAt, List.getElem?_append_left hl]
      have e2 : missUp (ms ++ [m]) t = missUp ms t := by
        unfold missUp
        rw [List.take_append_of_le_length (by omega)]
      simp only [Option.map_some, e1, e2]
theorem snoc_ind {P : List (List Nat) → Prop} (h0 : P []) (hs : ∀ ms m, P ms → P (ms ++ [m])) : ∀ ms, P ms := by
  intro ms
  have : ∀ n, ∀ ms : List (List Nat), ms.length = n → P ms := by
    intro n
    induction n with
    | zero => intro ms h; rw [List.eq_nil_of_length_eq_zero h]; exact h0
    | succ n ih =>
      intro ms h
      rcases List.eq_nil_or_concat ms with e | ⟨pre, m, e⟩
      · subst e; cases h
      · rw [List.concat_eq_append] at e
        subst e
        exact hs pre m (ih pre (by simpa using h))
  exact this ms.length ms rfl
theorem w_lt (ms : List (List Nat)) : -1 ≤ (wI ms).1 ∧ (wI ms).1 < ms.length ∧ ((wI ms).1 = -1 → wI ms = (-1, 0, 0)) := by
  refine snoc_ind (P := fun ms => -1 ≤ (wI ms).1 ∧ (wI ms).1 < ms.length ∧ ((wI ms).1 = -1 → wI ms = (-1, 0, 0))) ⟨by decide, by decide, fun _ => rfl⟩ (fun ms m ih => ?_) ms
  rw [w_snoc]
  cases cleared m with
  | true => simp; omega
  | false =>
    simp only [Bool.false_eq_true, if_false, List.length_append, List.length_singleton]
    exact ⟨ih.1, by have := ih.2.1; omega, ih.2.2⟩
/-- the order of weights -/
def wLt (a b : Int × Int × Int) : Prop := a.1 < b.1 ∨ (a.1 = b.1 ∧ (a.2.1 < b.2.1 ∨ (a.2.1 = b.2.1 ∧ a.2.2 < b.2.2)))
instance (a b : Int × Int × Int) : Decidable (wLt a b) := by unfold wLt; infer_instance
theorem wLt_irr (a : Int × Int × Int) : ¬ wLt a a := by unfold wLt; omega
theorem le_trans {a b c : Int × Int × Int} (h1 : ¬ wLt b a) (h2 : ¬ wLt c b) : ¬ wLt c a := by unfold wLt at *; omega
theorem w_grow1 (ms : List (List Nat)) (m : List Nat) : ¬ wLt (wI (ms ++ [m])) (wI ms) := by
  rw [w_snoc]
  have := w_lt ms
  cases cleared m with
  | true => unfold wLt; simp; omega
  | false => exact wLt_irr _
theorem w_grow : ∀ (ns ms : List (List Nat)), ¬ wLt (wI (ms ++ ns)) (wI ms)
  | [], ms => by rw [List.append_nil]; exact wLt_irr _
  | n :: ns, ms => by
    have := w_grow ns (ms ++ [n])
    rw [List.append_assoc] at this
    exact le_trans (w_grow1 ms n) this
theorem w_same (ms : List (List Nat)) {m : List Nat} (h : cleared m = false) : wI (ms ++ [m]) = wI ms := by rw [w_snoc, h]; rfl
theorem w_better (ms : List (List Nat)) {m : List Nat} (h : cleared m = true) (os : List (List Nat)) (hl : os.length ≤ ms.length) : wLt (wI os) (wI (ms ++ [m])) := by
  rw [w_snoc, h]
  have := w_lt os
  unfold wLt
  simp
  omega
theorem lex3 (a b c d e f : Int) : lexLt [a, b, c] [d, e, f] = decide (wLt (a, b, c) (d, e, f)) := by
  rw [Bool.eq_iff_iff]
  simp only [lexLt, wLt, decide_eq_true_eq]
  by_cases h1 : a = d
  · by_cases h2 : b = e
    · by_cases h3 : c = f
      · simp [h1, h2, h3]
      · simp [h1, h2, h3]
    · simp [h1, h2]
  · simp [h1]
def w3D (w : Int × Int × Int) : D := .tup [.int w.1, .int w.2.1, .int w.2.2]
theorem weightD_eq (ms : List (List Nat)) : weightD (wt ms) = w3D (wI ms) := by
  unfold wI w3D
  cases wt ms with
  | none => rfl
  | some x => rfl
/-! ### meets: how they lie in the store -/
abbrev Row := List (List Nat)
structure Sd where
  rows : List Row
  state : List Nat
  first : List Nat
  jumps : List (List Nat)
  left : List (List Nat)
  height : Int
  rounds : Nat
  deeds : List (List Nat)
def wMain : List Nat := [109, 97, 105, 110]
def wOff : List Nat := [111, 102, 102]
def wOver : List Nat := [111, 118, 101, 114]
def tupS (l : List (List Nat)) : D := .tup (l.map D.str)
def tupN (l : List Nat) : D := .tup (l.map fun n => .int (n : Nat))
def tupI (l : List Int) : D := .tup (l.map D.int)
def rowsT (rs : List Row) : D := .tup (rs.map tupS)
def leftT (l : List (List Nat)) : D := .tup (l.map tupN)
def objs (l : List Nat) : D := .lst (l.map D.obj)
def sdC (s : Sd) : Cell := .ins 11 [(0, rowsT s.rows), (1, .str s.state), (2, tupN s.first), (3, tupS s.jumps), (4, leftT s.left), (5, .int s.height), (6, .int (s.rounds : Nat)), (7, tupS s.deeds)]
def mtC (ns : List (List Nat)) (bs : List Int) (st : Int) (h : Nat) (ds us : List Nat) : Cell := .ins 12 [(8, tupS ns), (9, tupI bs), (10, .int st), (11, .obj h), (12, objs ds), (13, objs us)]
abbrev fdF : Nat → Nat → Bool := hasF fdAll
section
variable {S : Sto} {a n : Nat} {s : Sd} {ns : List (List Nat)} {bs : List Int} {st : Int} {h : Nat} {ds us : List Nat}
theorem g_rows (e : S[a]? = some (sdC s)) : fldOf fdF 0 (.obj a) S = .ok (rowsT s.rows) S := fldOf_ins e (by decide) rfl
theorem g_state (e : S[a]? = some (sdC s)) : fldOf fdF 1 (.obj a) S = .ok (.str s.state) S := fldOf_ins e (by decide) rfl
theorem g_first (e : S[a]? = some (sdC s)) : fldOf fdF 2 (.obj a) S = .ok (tupN s.first) S := fldOf_ins e (by decide) rfl
theorem g_jumps (e : S[a]? = some (sdC s)) : fldOf fdF 3 (.obj a) S = .ok (tupS s.jumps) S := fldOf_ins e (by decide) rfl
theorem g_left (e : S[a]? = some (sdC s)) : fldOf fdF 4 (.obj a) S = .ok (leftT s.left) S := fldOf_ins e (by decide) rfl
theorem g_height (e : S[a]? = some (sdC s)) : fldOf fdF 5 (.obj a) S = .ok (.int s.height) S := fldOf_ins e (by decide) rfl
theorem g_rounds (e : S[a]? = some (sdC s)) : fldOf fdF 6 (.obj a) S = .ok (.int (s.rounds : Nat)) S := fldOf_ins e (by decide) rfl
theorem g_deeds (e : S[a]? = some (sdC s)) : fldOf fdF 7 (.obj a) S = .ok (tupS s.deeds) S := fldOf_ins e (by decide) rfl
theorem g_names (e : S[n]? = some (mtC ns bs st h ds us)) : fldOf fdF 8 (.obj n) S = .ok (tupS ns) S := fldOf_ins e (by decide) rfl
theorem g_bars (e : S[n]? = some (mtC ns bs st h ds us)) : fldOf fdF 9 (.obj n) S = .ok (tupI bs) S := fldOf_ins e (by decide) rfl
theorem g_step (e : S[n]? = some (mtC ns bs st h ds us)) : fldOf fdF 10 (.obj n) S = .ok (.int st) S := fldOf_ins e (by decide) rfl
theorem g_here (e : S[n]? = some (mtC ns bs st h ds us)) : fldOf fdF 11 (.obj n) S = .ok (.obj h) S := fldOf_ins e (by decide) rfl
theorem g_done (e : S[n]? = some (mtC ns bs st h ds us)) : fldOf fdF 12 (.obj n) S = .ok (objs ds) S := fldOf_ins e (by decide) rfl
theorem g_undone (e : S[n]? = some (mtC ns bs st h ds us)) : fldOf fdF 13 (.obj n) S = .ok (objs us) S := fldOf_ins e (by decide) rfl
theorem p_rows (e : S[a]? = some (sdC s)) (v : List Row) : setAt fdF 0 (.obj a) (rowsT v) S = some (S.set a (sdC { s with rows := v })) := by
  rw [setAt_ins e (by decide) (by simp)]; rfl
theorem p_state (e : S[a]? = some (sdC s)) (v : List Nat) : setAt fdF 1 (.obj a) (.str v) S = some (S.set a (sdC { s with state := v })) := by
  rw [setAt_ins e (by decide) (by simp)]; rfl
theorem p_first (e : S[a]? = some (sdC s)) (v : List Nat) : setAt fdF 2 (.obj a) (tupN v) S = some (S.set a (sdC { s with first := v })) := by
  rw [setAt_ins e (by decide) (by simp)]; rfl
theorem p_jumps (e : S[a]? = some (sdC s)) (v : List (List Nat)) : setAt fdF 3 (.obj a) (tupS v) S = some (S.set a (sdC { s with jumps := v })) := by
  rw [setAt_ins e (by decide) (by simp)]; rfl
theorem p_left (e : S[a]? = some (sdC s)) (v : List (List Nat)) : setAt fdF 4 (.obj a) (leftT v) S = some (S.set a (sdC { s with left := v })) := by
  rw [setAt_ins e (by decide) (by simp)]; rfl
theorem p_height (e : S[a]? = some (sdC s)) (v : Int) : setAt fdF 5 (.obj a) (.int v) S = some (S.set a (sdC { s with height := v })) := by
  rw [setAt_ins e (by decide) (by simp)]; rfl
theorem p_rounds (e : S[a]? = some (sdC s)) (v : Nat) : setAt fdF 6 (.obj a) (.int (v : Nat)) S = some (S.set a (sdC { s with rounds := v })) := by
  rw [setAt_ins e (by decide) (by simp)]; rfl
theorem p_deeds (e : S[a]? = some (sdC s)) (v : List (List Nat)) : setAt fdF 7 (.obj a) (tupS v) S = some (S.set a (sdC { s with deeds := v })) := by
  rw [setAt_ins e (by decide) (by simp)]; rfl
theorem p_here (e : S[n]? = some (mtC ns bs st h ds us)) (v : Nat) : setAt fdF 11 (.obj n) (.obj v) S = some (S.set n (mtC ns bs st v ds us)) := by
  rw [setAt_ins e (by decide) (by simp)]; rfl
theorem p_done (e : S[n]? = some (mtC ns bs st h ds us)) (v : List Nat) : setAt fdF 12 (.obj n) (objs v) S = some (S.set n (mtC ns bs st h v us)) := by
  rw [setAt_ins e (by decide) (by simp)]; rfl
theorem p_undone (e : S[n]? = some (mtC ns bs st h ds us)) (v : List Nat) : setAt fdF 13 (.obj n) (objs v) S = some (S.set n (mtC ns bs st h ds v)) := by
  rw [setAt_ins e (by decide) (by simp)]; rfl
theorem is_meet (e : S[n]? = some (mtC ns bs st h ds us)) {m : Nat} (hm : 14 ≤ m) : isOf 12 m (.obj n) S = .ok (.obj n) S := by
  refine isOf_ins e ?_
  have k : ∀ j : Nat, j < 14 → (m == j) = false := fun j hj => by rw [beq_eq_false_iff_ne]; omega
  simp [List.lookup, k 8 (by omega), k 9 (by omega), k 10 (by omega), k 11 (by omega), k 12 (by omega), k 13 (by omega)]
theorem is_stand (e : S[a]? = some (sdC s)) {m : Nat} (hm : 14 ≤ m) : isOf 11 m (.obj a) S = .ok (.obj a) S := by
  refine isOf_ins e ?_
  have k : ∀ j : Nat, j < 14 → (m == j) = false := fun j hj => by rw [beq_eq_false_iff_ne]; omega
  simp [List.lookup, k 0 (by omega), k 1 (by omega), k 2 (by omega), k 3 (by omega), k 4 (by omega), k 5 (by omega), k 6 (by omega), k 7 (by omega)]
theorem lt_of {c : Cell} (e : S[a]? = some c) : a < S.length := (List.getElem?_eq_some_iff.mp e).1
theorem set_at {c c' : Cell} (e : S[a]? = some c) : (S.set a c')[a]? = some c' := List.getElem?_set_self (lt_of e)
theorem set_other {c : Cell} {i : Nat} (h : a ≠ i) : (S.set a c)[i]? = S[i]? := List.getElem?_set_ne h
theorem app_old {c c' : Cell} {i : Nat} (e : S[i]? = some c) : (S ++ [c'])[i]? = some c := by rw [List.getElem?_append_left (lt_of e)]; exact e
theorem app_new {c : Cell} : (S ++ [c])[S.length]? = some c := by simp
theorem two_kinds (e : S[a]? = some (sdC s)) (e2 : S[n]? = some (mtC ns bs st h ds us)) : a ≠ n := fun z => by
  subst z
  rw [e] at e2
  simp [sdC, mtC] at e2
end
/-! ### a new stand -/
def sd0 (rows : List Row) : Sd := ⟨rows, wMain, [], [], [], 0, 0, []⟩
theorem stand_init (rows : List Row) (S : Sto) : fn_Stand___init__ [.obj S.length, rowsT rows] (S ++ [.ins 11 []]) = .ok .non (S ++ [sdC (sd0 rows)]) := by
  have k : ∀ (fs : List (Nat × D)) (f : Nat) (v : D), fdF 11 f = true → fs.length < 100 → setAt fdF f (.obj S.length) v (S ++ [.ins 11 fs]) = some (S ++ [.ins 11 (putN f v fs)]) := fun fs f v h1 h2 => by
    rw [setAt_ins (C := 11) (fs := fs) (by simp) h1 h2]
    simp
  have f : ∀ i, i < 8 → fdF 11 i = true := by decide
  have k0 := fun fs v => k fs 0 v (f 0 (by decide))
  have k1 := fun fs v => k fs 1 v (f 1 (by decide))
  have k2 := fun fs v => k fs 2 v (f 2 (by decide))
  have k3 := fun fs v => k fs 3 v (f 3 (by decide))
  have k4 := fun fs v => k fs 4 v (f 4 (by decide))
  have k5 := fun fs v => k fs 5 v (f 5 (by decide))
  have k6 := fun fs v => k fs 6 v (f 6 (by decide))
  have k7 := fun fs v => k fs 7 v (f 7 (by decide))
  (unfold fn_Stand___init__; simp only [fn1, fn2, fn3, fn4, fF1, fF2, Nat.reduceSub, List.replicate_succ, List.replicate_zero])
  simp [exs_cons, exs_nil, exsK_nx, exsK_ap, ex_ifs, ifK_t, ifK_f, ex_asg1, ex_asg, ex_ret, ex_expr, ex_pass, ex_new, r_var, varR_val, r_own, ownR_own, r_cst, r_glo, r_op, r_chain, r_neg, negR_some, r_nt, r_and, r_or, r_ite, r_lst, r_tup, r_idx, r_slc0, r_slc1, r_slc2, r_slc3, r_rev, r_f1, r_f2, r_meth, r_isi, r_call, callR_ok, r_callO, callO_ok, r_lmeth, lmR_count, lmR_index, r_nrng, nrR_int, r_lzip, ex_cpy, ex_par, ex_retF, tabY_fn, tabY_gl, r_nil, r_cons, tab_fn, tab_gl, tabX_fn, tabX_gl, look_hit, look_miss, r_fld, r_mth, mthR_ok, r_mk, mkR_ok, r_lenSet, r_isLT, eqNR_lst, r_eqN, r_dget, r_dcpy, stoR_some, ex_setf, ex_dput, tabZ_fn, tabZ_gl, tabZ_mt, tabZ_mk, tabZ_fd, bindT, op_add, op_sub, op_lt, op_le, op_gt, op_ge, op_eq, op_ne, op_in, op_nin, op_is, op_isn, small_ok, b_Stand___init__, k0, k1, k2, k3, k4, k5, k6, k7, putN, sdC, sd0, tupN, tupS, leftT, wMain]
theorem stand_twin {S : Sto} {a : Nat} {s : Sd} (e : S[a]? = some (sdC s)) : fn_Stand_twin [.obj a] S = .ok (.obj S.length) (S ++ [sdC s]) := by
  have e1 : ∀ c : Cell, (S ++ [c])[a]? = some (sdC s) := fun c => app_old e
  have e2 : ∀ s' : Sd, (S ++ [sdC s'])[S.length]? = some (sdC s') := fun s' => app_new
  have st : ∀ (s' : Sd) (c : Cell), (S ++ [sdC s']).set S.length c = S ++ [c] := fun s' c => by simp
  have i0 := stand_init s.rows S
  (unfold fn_Stand_twin; simp only [fn1, fn2, fn3, fn4, fF1, fF2, Nat.reduceSub, List.replicate_succ, List.replicate_zero])
  simp [exs_cons, exs_nil, exsK_nx, exsK_ap, ex_ifs, ifK_t, ifK_f, ex_asg1, ex_asg, ex_ret, ex_expr, ex_pass, ex_new, r_var, varR_val, r_own, ownR_own, r_cst, r_glo, r_op, r_chain, r_neg, negR_some, r_nt, r_and, r_or, r_ite, r_lst, r_tup, r_idx, r_slc0, r_slc1, r_slc2, r_slc3, r_rev, r_f1, r_f2, r_meth, r_isi, r_call, callR_ok, r_callO, callO_ok, r_lmeth, lmR_count, lmR_index, r_nrng, nrR_int, r_lzip, ex_cpy, ex_par, ex_retF, tabY_fn, tabY_gl, r_nil, r_cons, tab_fn, tab_gl, tabX_fn, tabX_gl, look_hit, look_miss, r_fld, r_mth, mthR_ok, r_mk, mkR_ok, r_lenSet, r_isLT, eqNR_lst, r_eqN, r_dget, r_dcpy, stoR_some, ex_setf, ex_dput, tabZ_fn, tabZ_gl, tabZ_mt, tabZ_mk, tabZ_fd, bindT, op_add, op_sub, op_lt, op_le, op_gt, op_ge, op_eq, op_ne, op_in, op_nin, op_is, op_isn, small_ok, b_Stand_twin, g_rows e, i0, fun c => g_state (e1 c), fun c => g_first (e1 c), fun c => g_jumps (e1 c), fun c => g_left (e1 c), fun c => g_height (e1 c), fun c => g_rounds (e1 c), fun c => g_deeds (e1 c), fun s' v => p_state (e2 s') v, fun s' v => p_first (e2 s') v, fun s' v => p_jumps (e2 s') v, fun s' v => p_left (e2 s') v, fun s' v => p_height (e2 s') v, fun s' v => p_rounds (e2 s') v, fun s' v => p_deeds (e2 s') v, st, sd0]
/-! ### runs -/
/-- one step of the law's run -/
def lawNxt (r : Int) (m : List Nat) : Int := if r < 3 then (if m.getLast? = some 114 then 3 else if r + (cnt 120 m : Int) < 3 ∧ m.getLast? = some 111 then 0 else r + (cnt 120 m : Int)) else r
def lawRun (ms : List (List Nat)) : Int := ms.foldl lawNxt 0
theorem step_law {l l' : Int} {m : List Nat} {more : Bool} (hl : 0 ≤ l ∧ l ≤ 3) (h : lawStep l m more = some l') : lawNxt l m = l' := by
  have hc := cnt_nonneg m
  unfold lawStep at h
  unfold lawNxt
  split at h
  · split at h <;> cases h
    rename_i h1 _
    rw [if_neg (by omega), h1]
  · rw [if_pos (by omega)]
    split at h
    · cases h
    · split at h
      · cases h
      · split at h
        · cases h; rename_i q; rw [if_pos q]
        · rename_i q
          rw [if_neg q]
          split at h <;> cases h <;> rename_i q2
          · rw [if_pos q2]
          · rw [if_neg q2]
theorem run_same : ∀ (ms : List (List Nat)) (p l : Int), St2 p l → lawOk l ms = true → St2 (ms.foldl nxt p) (ms.foldl lawNxt l)
  | [], _, _, h, _ => h
  | m :: ms, p, l, h, ho => by
    rw [lawOk] at ho
    rcases step_same h m (!ms.isEmpty) with ⟨_, h2⟩ | ⟨_, l', h2, h3⟩
    · rw [h2] at ho; cases ho
    · rw [h2] at ho
      have : 0 ≤ l ∧ l ≤ 3 := by rcases h with ⟨_, rfl⟩ | h <;> omega
      rw [List.foldl_cons, List.foldl_cons, step_law this h2]
      exact run_same ms _ l' h3 ho
theorem Good.run {ms : List (List Nat)} (h : Good ms) : St2 (runOf ms) (lawRun ms) := run_same ms 0 0 (.inr ⟨rfl, by omega, by omega⟩) h.ok

/-! ### rows -/
theorem nxt3 (m : List Nat) : lawNxt 3 m = 3 := by simp [lawNxt]
theorem fold3 : ∀ ms : List (List Nat), ms.foldl lawNxt 3 = 3
  | [] => rfl
  | m :: ms => by rw [List.foldl_cons, nxt3]; exact fold3 ms
theorem opn_cnt {m : List Nat} (h : opn m = true) : cnt 120 m = m.length := by
  rw [opn_all] at h
  unfold cnt
  exact List.countP_eq_length.mpr (List.all_eq_true.mp h)
/-- a step that is no end, of an open mark -/
theorem step_opn {l l' : Int} {m : List Nat} {more : Bool} (hl : 0 ≤ l ∧ l ≤ 3) (h : lawStep l m more = some l') (h3 : l' ≠ 3) (ho : opn m = true) : more = false ∧ l < 3 ∧ l + (cnt 120 m : Int) < 3 := by
  unfold lawStep at h
  have hr := opn_not_r (c := 114) ho (by decide)
  have h111 := opn_not_r (c := 111) ho (by decide)
  split at h
  · split at h <;> cases h
    exact (h3 rfl).elim
  · split at h
    · cases h
    · rename_i g1 g2
      have g2' : ¬ 3 < l + (cnt 120 m : Int) := fun z => g2 (.inl z)
      split at h
      · cases h
      · rename_i g3
        rw [if_neg (fun z => h111 z.2)] at h
        cases h
        refine ⟨?_, by omega, by omega⟩
        cases more with
        | false => rfl
        | true => exact (g3 ⟨by omega, ho, rfl⟩).elim
theorem ok_cons {l : Int} {m : List Nat} {ms : List (List Nat)} (hl : 0 ≤ l ∧ l ≤ 3) (h : lawOk l (m :: ms) = true) : ∃ l', lawStep l m (!ms.isEmpty) = some l' ∧ (0 ≤ l' ∧ l' ≤ 3) ∧ lawNxt l m = l' ∧ lawOk l' ms = true := by
  rw [lawOk] at h
  cases q : lawStep l m (!ms.isEmpty) with
  | none => rw [q] at h; cases h
  | some l' => rw [q] at h; exact ⟨l', rfl, step_range hl q, step_law hl q, h⟩
/-! ### rows -/
theorem ok_pre : ∀ {a b : List (List Nat)} {l : Int}, lawOk l (a ++ b) = true → lawOk l a = true
  | [], _, _, _ => rfl
  | m :: a, b, l, h => by
    rw [List.cons_append, lawOk] at h
    rw [lawOk]
    cases q : lawStep l m (!(a ++ b).isEmpty) with
    | none => rw [q] at h; cases h
    | some l' =>
      rw [q] at h
      have e : lawStep l m (!a.isEmpty) = some l' := by
        cases a with
        | cons x a => exact q
        | nil =>
          rw [List.nil_append] at q
          cases b with
          | nil => exact q
          | cons y b => exact step_less q false
      rw [e]
      exact ok_pre h
theorem Good.pre {a b : List (List Nat)} (h : Good (a ++ b)) : Good a :=
  ⟨fun m hm => h.marks m (List.mem_append_left _ hm), ok_pre h.ok, by have := h.len; simp at this; omega⟩
theorem walk_pre : ∀ {pre : List (List Nat)} {m : List Nat} {rest : List (List Nat)} {l : Int}, 0 ≤ l ∧ l ≤ 3 → lawOk l (pre ++ m :: rest) = true → ∃ r, walkL l pre = some r ∧ r = pre.foldl lawNxt l ∧ (0 ≤ r ∧ r ≤ 3) ∧ lawOk r (m :: rest) = true
  | [], m, rest, l, hl, h => ⟨l, rfl, rfl, hl, h⟩
  | z :: pre, m, rest, l, hl, h => by
    rw [List.cons_append] at h
    obtain ⟨l', s1, s2, s3, s4⟩ := ok_cons hl h
    have s1 : lawStep l z true = some l' := by
      cases pre <;> exact s1
    obtain ⟨r, k1, k2, k3, k4⟩ := walk_pre (pre := pre) s2 s4
    exact ⟨r, by rw [walkL, s1]; exact k1, by rw [List.foldl_cons, s3]; exact k2, k3, k4⟩
theorem walk_run : ∀ {ms : List (List Nat)} {l r : Int}, 0 ≤ l ∧ l ≤ 3 → walkL l ms = some r → ms.foldl lawNxt l = r
  | [], l, r, _, h => by cases h; rfl
  | m :: ms, l, r, hl, h => by
    rw [walkL] at h
    cases q : lawStep l m true with
    | none => rw [q] at h; cases h
    | some l' =>
      rw [q] at h
      rw [List.foldl_cons, step_law hl q]
      exact walk_run (step_range hl q) h
theorem ok_three : ∀ {ms : List (List Nat)}, lawOk 3 ms = true → ms = List.replicate ms.length []
  | [], _ => rfl
  | m :: ms, h => by
    rw [lawOk] at h
    by_cases hm : m = []
    · subst hm
      simp only [lawStep, if_true] at h
      rw [List.length_cons, List.replicate_succ, ← ok_three h]
    · simp [lawStep, hm] at h
theorem opn_rep (j : Nat) : opn (List.replicate j 120) = true := by simp [opn]
theorem cnt_rep (j : Nat) : cnt 120 (List.replicate j 120) = j := by
  have := opn_cnt (opn_rep j)
  rw [this, List.length_replicate]
theorem opn_eq {m : List Nat} (h : opn m = true) : m = List.replicate m.length 120 := by
  unfold opn at h
  exact beq_iff_eq.mp h
theorem cnt_le (m : List Nat) : cnt 120 m ≤ m.length := List.countP_le_length
theorem mark_rep {j : Nat} (h : j ≤ 3) : markB (List.replicate j 120) = true := by
  unfold markB
  rw [opn_rep]
  simp [h]
theorem rep_last (j c : Nat) (hc : c ≠ 120) : (List.replicate j 120).getLast? ≠ some c := opn_not_r (opn_rep j) hc
theorem step_rep {r : Int} (h0 : 0 ≤ r) (h3 : r < 3) {j : Nat} (hj : r + j ≤ 3) : lawStep r (List.replicate j 120) false = some (r + j) := by
  unfold lawStep
  rw [if_neg (by omega), cnt_rep, opn_rep, if_neg (by simp; omega), if_neg (by simp), if_neg (rep_last j 114 (by decide)), if_neg (fun z => rep_last j 111 (by decide) z.2)]
theorem nxt_rep {r : Int} (h3 : r < 3) (j : Nat) : lawNxt r (List.replicate j 120) = r + j := by
  unfold lawNxt
  rw [if_pos h3, if_neg (rep_last j 114 (by decide)), if_neg (fun z => rep_last j 111 (by decide) z.2), cnt_rep]
theorem step_cnt {r r' : Int} {m : List Nat} {more : Bool} (h3 : r < 3) (h : lawStep r m more = some r') : r + (cnt 120 m : Int) ≤ 3 ∧ (r + (cnt 120 m : Int) = 3 → opn m = true) := by
  unfold lawStep at h
  rw [if_neg (by omega)] at h
  split at h
  · cases h
  · rename_i g
    refine ⟨by omega, fun e => ?_⟩
    cases q : opn m with
    | true => rfl
    | false => exact (g (.inr ⟨e, q⟩)).elim
theorem cl_rep (j : Nat) : cleared (List.replicate j 120) = false := by
  unfold cleared
  exact decide_eq_false (rep_last j 111 (by decide))
theorem cl_o : cleared [111] = true := rfl
theorem cl_snoc (m : List Nat) : cleared (m ++ [111]) = true := by simp [cleared]
theorem opn_cl {m : List Nat} (h : opn m = true) : cleared m = false := decide_eq_false (opn_not_r h (by decide))
/-- closed: nothing open at its end -/
def closedB (ms : List (List Nat)) : Bool := match ms.getLast? with
  | some m => !opn m
  | none => true
theorem closed_walk0 : ∀ (ms : List (List Nat)) (l : Int), 0 ≤ l ∧ l ≤ 3 → lawOk l ms = true → (∀ m, ms.getLast? = some m → ms.foldl lawNxt l ≠ 3 → opn m = false) → walkL l ms = some (ms.foldl lawNxt l) ∨ ms.foldl lawNxt l = 3
  | [], l, _, _, _ => .inl rfl
  | m :: ms, l, hl, h, hc => by
    obtain ⟨l', s1, s2, s3, s4⟩ := ok_cons hl h
    by_cases h3 : (m :: ms).foldl lawNxt l = 3
    · exact .inr h3
    · left
      rw [List.foldl_cons, s3] at h3 ⊢
      have st : lawStep l m true = some l' := by
        cases ms with
        | cons _ _ => exact s1
        | nil =>
          have ho := hc m rfl (by rw [List.foldl_cons, s3]; exact h3)
          rw [← s1]
          unfold lawStep
          simp [ho]
      rcases closed_walk0 ms l' s2 s4 (fun m' hm hf => hc m' (by
        rw [List.getLast?_cons]
        rw [hm]; rfl) (by rw [List.foldl_cons, s3]; exact hf)) with k | k
      · rw [walkL, st]
        exact k
      · exact absurd k h3
theorem closed_walk {row : List (List Nat)} (h : Good row) (h3 : lawRun row ≠ 3) (hc : ∀ m, row.getLast? = some m → opn m = false) : walkL 0 row = some (lawRun row) := by
  rcases closed_walk0 row 0 ⟨by omega, by omega⟩ h.ok (fun m hm _ => hc m hm) with k | k
  · exact k
  · exact absurd k h3
theorem Good.snoc {row : List (List Nat)} (h : Good row) (hl : row.length ≤ 11) {m : List Nat} {r r' : Int} (hw : walkL 0 row = some r) (hm : markB m = true) (hs : lawStep r m false = some r') : Good (row ++ [m]) :=
  ⟨fun z hz => (List.mem_append.mp hz).elim (h.marks z) fun hz => by rw [List.mem_singleton.mp hz]; exact hm, walk_last hw hs, by simp; omega⟩
theorem step_end {r : Int} (h0 : 0 ≤ r) (h3 : r < 3) {j : Nat} (hj : r + j < 3) {c : Nat} (hc : c ≠ 120) : ∃ r', lawStep r (List.replicate j 120 ++ [c]) false = some r' := by
  have e1 : cnt 120 (List.replicate j 120 ++ [c]) = j := by
    have : cnt 120 (List.replicate j 120 ++ [c]) = cnt 120 (List.replicate j 120) := by simp [cnt, hc]
    rw [this, cnt_rep]
  have e2 : opn (List.replicate j 120 ++ [c]) = false := by rw [opn_all]; simp [hc]
  unfold lawStep
  rw [if_neg (by omega), e1, e2, if_neg (by simp; omega), if_neg (by simp)]
  split
  · exact ⟨_, rfl⟩
  · split <;> exact ⟨_, rfl⟩
theorem mark_end {j : Nat} (h : j ≤ 2) {c : Nat} (hc : ends c = true) (hx : c ≠ 120) : markB (List.replicate j 120 ++ [c]) = true := by
  have e2 : opn (List.replicate j 120 ++ [c]) = false := by rw [opn_all]; simp [hx]
  have e3 : endsIn (List.replicate j 120 ++ [c]) = true := by simp [endsIn, hc]
  unfold markB
  rw [e2, e3, List.dropLast_concat, opn_rep]
  simp
  omega
theorem top_cl {ms : List (List Nat)} {t : Nat} (h : top? ms = some t) : cleared (ms.getD t []) = true ∧ t < ms.length := by
  refine snoc_ind (P := fun ms => ∀ t, top? ms = some t → cleared (ms.getD t []) = true ∧ t < ms.length) (fun t h => by cases h) (fun ms m ih t h => ?_) ms t h
  rw [top_snoc] at h
  split at h
  · rename_i q
    cases h
    simp [cleared, q]
  · obtain ⟨a, b⟩ := ih t h
    refine ⟨?_, by simp; omega⟩
    simpa [List.getElem?_append_left b] using a
theorem top_pre {a : List (List Nat)} {t : Nat} (ht : t < a.length) : ∀ b : List (List Nat), top? (a ++ b) = some t → top? a = some t := by
  refine snoc_ind (P := fun b => top? (a ++ b) = some t → top? a = some t) (fun h => by simpa using h) (fun b m ih h => ?_)
  rw [← List.append_assoc, top_snoc] at h
  split at h
  · cases h
    simp at ht
    omega
  · exact ih h
theorem wt_take {ms : List (List Nat)} {t : Nat} (h : top? ms = some t) : wt (ms.take (t + 1)) = wt ms := by
  have hl := (top_cl h).2
  have e : top? (ms.take (t + 1)) = some t := top_pre (b := ms.drop (t + 1)) (by simp; omega) (by rw [List.take_append_drop]; exact h)
  unfold wt
  rw [h, e]
  simp only [Option.map_some]
  have e1 : missAt (ms.take (t + 1)) t = missAt ms t := by simp [missAt, List.getElem?_take]
  have e2 : missUp (ms.take (t + 1)) t = missUp ms t := by simp [missUp, List.take_take]
  rw [e1, e2]

/-! ### ranks -/
theorem weight_ok {ms : List (List Nat)} (h : Good ms) (S : Sto) : fn_weight [strs_ ms] S = .ok (w3D (wI ms)) S := by
  rw [← weightD_eq]
  have hs := score_ok h S
  (unfold fn_weight; simp only [fn1, fn2, fn3, fn4, fF1, fF2, Nat.reduceSub, List.replicate_succ, List.replicate_zero])
  cases hw : wt ms with
  | none =>
    rw [hw] at hs
    have hs : fn_score [strs_ ms] S = .ok .non S := hs
    have hi : isO .non .non = some true := rfl
    simp [exs_cons, exs_nil, exsK_nx, exsK_ap, ex_ifs, ifK_t, ifK_f, ex_asg1, ex_asg, ex_ret, ex_expr, ex_pass, ex_new, r_var, varR_val, r_own, ownR_own, r_cst, r_glo, r_op, r_chain, r_neg, negR_some, r_nt, r_and, r_or, r_ite, r_lst, r_tup, r_idx, r_slc0, r_slc1, r_slc2, r_slc3, r_rev, r_f1, r_f2, r_meth, r_isi, r_call, callR_ok, r_callO, callO_ok, r_lmeth, lmR_count, lmR_index, r_nrng, nrR_int, r_lzip, ex_cpy, ex_par, ex_retF, tabY_fn, tabY_gl, r_nil, r_cons, tab_fn, tab_gl, tabX_fn, tabX_gl, look_hit, look_miss, r_fld, r_mth, mthR_ok, r_mk, mkR_ok, r_lenSet, r_isLT, eqNR_lst, r_eqN, r_dget, r_dcpy, stoR_some, ex_setf, ex_dput, tabZ_fn, tabZ_gl, tabZ_mt, tabZ_mk, tabZ_fd, bindT, op_add, op_sub, op_lt, op_le, op_gt, op_ge, op_eq, op_ne, op_in, op_nin, op_is, op_isn, small_ok, b_weight, hs, hi, weightD]
  | some x =>
    obtain ⟨a, b, c⟩ := x
    rw [hw] at hs
    have hs : fn_score [strs_ ms] S = .ok (.tup [.int a, .int b, .int c]) S := hs
    have hi : isO (.tup [.int a, .int b, .int c]) .non = some false := rfl
    have i0 : idx (.tup [.int a, .int b, .int c]) (.int 0) = some (.int a) := rfl
    have i1 : idx (.tup [.int a, .int b, .int c]) (.int 1) = some (.int b) := rfl
    have i2 : idx (.tup [.int a, .int b, .int c]) (.int 2) = some (.int c) := rfl
    unfold weightD
    generalize hT : D.tup [.int a, .int b, .int c] = T at *
    simp [exs_cons, exs_nil, exsK_nx, exsK_ap, ex_ifs, ifK_t, ifK_f, ex_asg1, ex_asg, ex_ret, ex_expr, ex_pass, ex_new, r_var, varR_val, r_own, ownR_own, r_cst, r_glo, r_op, r_chain, r_neg, negR_some, r_nt, r_and, r_or, r_ite, r_lst, r_tup, r_idx, r_slc0, r_slc1, r_slc2, r_slc3, r_rev, r_f1, r_f2, r_meth, r_isi, r_call, callR_ok, r_callO, callO_ok, r_lmeth, lmR_count, lmR_index, r_nrng, nrR_int, r_lzip, ex_cpy, ex_par, ex_retF, tabY_fn, tabY_gl, r_nil, r_cons, tab_fn, tab_gl, tabX_fn, tabX_gl, look_hit, look_miss, r_fld, r_mth, mthR_ok, r_mk, mkR_ok, r_lenSet, r_isLT, eqNR_lst, r_eqN, r_dget, r_dcpy, stoR_some, ex_setf, ex_dput, tabZ_fn, tabZ_gl, tabZ_mt, tabZ_mk, tabZ_fd, bindT, op_add, op_sub, op_lt, op_le, op_gt, op_ge, op_eq, op_ne, op_in, op_nin, op_is, op_isn, small_ok, b_weight, hs, hi, i0, i1, i2]
def rows_ (rs : List (List (List Nat))) : D := .lst (rs.map strs_)
theorem all_true' {α : Type} (l : List α) : b1 .all (.lst (l.map fun _ => D.bl true)) = some (.bl true) := by
  have : boolsD (l.map fun _ => D.bl true) = some (l.map fun _ => true) := by
    induction l with
    | nil => rfl
    | cons a l ih => rw [List.map_cons, boolsD, ih]; rfl
  simp [b1, this]
theorem need_rows_ok {rs : List (List (List Nat))} (h : ∀ r ∈ rs, Good r) (hl : rs.length ≤ 8) (S : Sto) : fn_need_rows [rows_ rs] S = .ok .non S := by
  have hi : isA (rows_ rs) .list = some true := rfl
  have bl : b1 .len (rows_ rs) = some (.int (rs.length : Int)) := by simp [rows_, b1]
  have hg : ¬ (8 : Int) < rs.length := by omega
  have c1 : ∀ F : Fns, F.fn 7 = some fn_is_row → ev F (.comp (.call 7 (.cons (.var 1) .nil)) (.name 1) (.seq (.var 0)) [1]) [.val (rows_ rs), .emp] S = .ok (.lst (rs.map fun _ => .bl true)) S := fun F f7 => by
    refine comp_map (l := rs) strs_ (fun _ => .bl true) (by rw [evIt, r_var]; rfl) (by omega) fun r hr => ?_
    simp [exs_cons, exs_nil, exsK_nx, exsK_ap, ex_ifs, ifK_t, ifK_f, ex_asg1, ex_asg, ex_ret, ex_expr, ex_pass, ex_new, r_var, varR_val, r_own, ownR_own, r_cst, r_glo, r_op, r_chain, r_neg, negR_some, r_nt, r_and, r_or, r_ite, r_lst, r_tup, r_idx, r_slc0, r_slc1, r_slc2, r_slc3, r_rev, r_f1, r_f2, r_meth, r_isi, r_call, callR_ok, r_callO, callO_ok, r_lmeth, lmR_count, lmR_index, r_nrng, nrR_int, r_lzip, ex_cpy, ex_par, ex_retF, tabY_fn, tabY_gl, r_nil, r_cons, tab_fn, tab_gl, tabX_fn, tabX_gl, look_hit, look_miss, r_fld, r_mth, mthR_ok, r_mk, mkR_ok, r_lenSet, r_isLT, eqNR_lst, r_eqN, r_dget, r_dcpy, stoR_some, ex_setf, ex_dput, tabZ_fn, tabZ_gl, tabZ_mt, tabZ_mk, tabZ_fd, bindT, op_add, op_sub, op_lt, op_le, op_gt, op_ge, op_eq, op_ne, op_in, op_nin, op_is, op_isn, small_ok, compF, noOwn, wipe, f7, (h r hr).row S]
  (unfold fn_need_rows; simp only [fn1, fn2, fn3, fn4, fF1, fF2, Nat.reduceSub, List.replicate_succ, List.replicate_zero])
  simp [exs_cons, exs_nil, exsK_nx, exsK_ap, ex_ifs, ifK_t, ifK_f, ex_asg1, ex_asg, ex_ret, ex_expr, ex_pass, ex_new, r_var, varR_val, r_own, ownR_own, r_cst, r_glo, r_op, r_chain, r_neg, negR_some, r_nt, r_and, r_or, r_ite, r_lst, r_tup, r_idx, r_slc0, r_slc1, r_slc2, r_slc3, r_rev, r_f1, r_f2, r_meth, r_isi, r_call, callR_ok, r_callO, callO_ok, r_lmeth, lmR_count, lmR_index, r_nrng, nrR_int, r_lzip, ex_cpy, ex_par, ex_retF, tabY_fn, tabY_gl, r_nil, r_cons, tab_fn, tab_gl, tabX_fn, tabX_gl, look_hit, look_miss, r_fld, r_mth, mthR_ok, r_mk, mkR_ok, r_lenSet, r_isLT, eqNR_lst, r_eqN, r_dget, r_dcpy, stoR_some, ex_setf, ex_dput, tabZ_fn, tabZ_gl, tabZ_mt, tabZ_mk, tabZ_fd, bindT, op_add, op_sub, op_lt, op_le, op_gt, op_ge, op_eq, op_ne, op_in, op_nin, op_is, op_isn, small_ok, b_need_rows, hi, bl, hg, c1, all_true']
theorem gt3 (a b : Int × Int × Int) : op2 .gt (w3D a) (w3D b) = some (.bl (decide (wLt b a))) := by
  show some (D.bl (lexLt [b.1, b.2.1, b.2.2] [a.1, a.2.1, a.2.2])) = _
  rw [lex3]
theorem okZ_all {l : List D} (h : ∀ d ∈ l, untx d = true) : okZ l = some l := if_pos (List.all_eq_true.mpr h)
/-! ### who has to jump -/
def enumO {α β : Type} (h : Nat → α → Option β) : Nat → List α → List β
  | _, [] => []
  | i, x :: l => (h i x).toList ++ enumO h (i + 1) l
theorem turns_enum {α β : Type} {f : D → Sto → R (Option D)} {S : Sto} {g : α → D} {d : β → D} {h : Nat → α → Option β} : ∀ (l : List α) (i : Nat), (∀ (j : Nat) (x : α), x ∈ l → f (.tup [.int j, g x]) S = .ok ((h j x).map d) S) → turns f (enumD i (l.map g)) S = .ok ((enumO h i l).map d) S
  | [], i, _ => rfl
  | x :: l, i, k => by
    rw [List.map_cons, enumD, turns, k i x (List.mem_cons_self ..), R.bind_ok, turns_enum l (i + 1) fun j y hy => k j y (List.mem_cons_of_mem _ hy), enumO]
    cases h i x <;> simp
theorem enumO_len {α β : Type} (h : Nat → α → Option β) : ∀ (l : List α) (i : Nat), (enumO h i l).length ≤ l.length
  | [], _ => Nat.le_refl _
  | x :: l, i => by
    have := enumO_len h l (i + 1)
    rw [enumO, List.length_append, List.length_cons]
    cases h i x <;> simp <;> omega
theorem mem_enumO {α β : Type} {h : Nat → α → Option β} {y : β} : ∀ {l : List α} {i : Nat}, y ∈ enumO h i l ↔ ∃ (j : Nat) (x : α), l[j]? = some x ∧ h (i + j) x = some y
  | [], i => by simp [enumO]
  | x :: l, i => by
    rw [enumO, List.mem_append, mem_enumO (l := l) (i := i + 1)]
    constructor
    · rintro (k | ⟨j, z, h1, h2⟩)
      · exact ⟨0, x, rfl, by simpa using k⟩
      · exact ⟨j + 1, z, by simpa using h1, by rw [show i + (j + 1) = i + 1 + j by omega]; exact h2⟩
    · rintro ⟨j, z, h1, h2⟩
      cases j with
      | zero =>
        simp at h1
        subst h1
        exact .inl (by simpa using h2)
      | succ j => exact .inr ⟨j, z, by simpa using h1, by rw [show i + 1 + j = i + (j + 1) by omega]; exact h2⟩
theorem compIf_enum {α β : Type} {F : Fns} {e : Ex} {tg : Tg} {it : Ex} {c : Ex} {vs : List Nat} {ρ : Env} {S : Sto} {l : List α} {g : α → D} {d : β → D} {h : Nat → α → Option β} {x : D} (hi : ev F it ρ S = .ok x S) (hs : seqLT x = some (l.map g)) (hl : l.length ≤ 1000)
    (k : ∀ (j : Nat) (x : α), x ∈ l → compIfF F e tg c vs ρ (.tup [.int j, g x]) S = .ok ((h j x).map d) S) : ev F (.compIf e tg (.enm it) c vs) ρ S = .ok (.lst ((enumO h 0 l).map d)) S := by
  have hl2 := enumO_len h l 0
  have e1 : evIt F (.enm it) ρ S = .ok (enumD 0 (l.map g)) S := by rw [evIt, hi, R.bind_ok, hs]; rfl
  rw [ev_compIf, e1, R.bind_ok, turns_enum l 0 k, calmly_ok, R.bind_ok, small_ok (by simp; omega), R.bind_ok]
def lastM (r : Row) : List Nat := r.getLast?.getD []
theorem last_tup {r : Row} (h : r ≠ []) : idx (tupS r) (.int (-1)) = some (.str (lastM r)) := by
  rcases List.eq_nil_or_concat r with e | ⟨pre, m, e⟩
  · exact absurd e h
  · rw [List.concat_eq_append] at e
    subst e
    have e1 : (-1 + ((pre.length : Int) + 1)).toNat = pre.length := by omega
    have c : -((pre.length : Int) + 1) ≤ -1 := by omega
    simp [tupS, idx, at_, ix, c, e1, lastM]
theorem run_of_tup (ms : List (List Nat)) (S : Sto) : fn_run_of [tupS ms] S = .ok (.int (runOf ms)) S := by
  obtain ⟨a', e⟩ := run_loop (.val (tupS ms)) S ms 0 .emp
  show (exs roF b_run_of [.val (tupS ms), .emp, .emp] S).ends = _
  have e1 : ex roF (.asg (.name 1) (.cst (.int 0))) [.val (tupS ms), .emp, .emp] S = .ok (.nx [.val (tupS ms), .val (.int 0), .emp]) S := rfl
  have e2 : ex roF (.each (.name 2) (.seq (.var 0)) (.cons (.asg (.name 1) (.ite (.op .eq (.var 1) (.cst (.int 9))) (.var 1) (.call 5 (.cons (.var 1) (.cons (.var 2) .nil))))) .nil)) [.val (tupS ms), .val (.int 0), .emp] S = .ok (.nx [.val (tupS ms), .val (.int (runOf ms)), a']) S := by
    rw [ex]
    exact e
  exact (congrArg R.ends ((exs_nx e1).trans (exs_nx e2))).trans rfl
def todoP (i : Nat) (r : Row) : Option (Int × Int) := if runOf r < 9 ∧ opn (lastM r) = true then some ((cnt 120 (lastM r) : Int), (i : Int)) else none
def todoL (rows : List Row) : List (Int × Int) := enumO todoP 0 rows
theorem sort_pairs (l : List (Int × Int)) : b1 .sorted (.lst (l.map pairD)) = some (.lst ((sortP l).map pairD)) := by
  have hp : ∀ l : List (Int × Int), pairsD (l.map pairD) = some l := fun l => by
    induction l with
    | nil => rfl
    | cons p l ih => rw [List.map_cons]; show (pairsD (l.map pairD)).map _ = _; rw [ih]; rfl
  cases l with
  | nil => rfl
  | cons p l =>
    have h1 : intsD ((p :: l).map pairD) = none := rfl
    simp only [b1, sortD, h1, hp]
section
variable {S : Sto} {a n : Nat} {s : Sd} {ns : List (List Nat)} {bs : List Int} {st : Int} {h : Nat} {ds us : List Nat}
/-- small rows, none empty -/
structure Fit (s : Sd) : Prop where
  ne : ∀ r ∈ s.rows, r ≠ []
  few : s.rows.length ≤ 6
  sh : ∀ r ∈ s.rows, ∀ m ∈ r, m.length ≤ 3
  len : ∀ r ∈ s.rows, r.length ≤ 12
theorem last_len {r : Row} (h : ∀ m ∈ r, m.length ≤ 3) : (lastM r).length ≤ 3 := by
  unfold lastM
  cases e : r.getLast? with
  | none => simp
  | some m => exact h m (List.mem_of_getLast? e)
theorem todo_ok (e : S[a]? = some (sdC s)) (f : Fit s) : fn_Meet_todo [.obj n, .obj a] S = .ok (.lst ((sortP (todoL s.rows)).map pairD)) S := by
  have hr : ∀ r ∈ s.rows, ∀ (x y z : Slot) (j : Nat), compIfF (tabZ [(4, fn_misses_in), (6, fn_run_of), (1, fn_is_open)] [] [] [] fdAll [] [] []) (.tup (.cons (.call 4 (.cons (.idx (.var 4) (.neg (.cst (.int 1)))) .nil)) (.cons (.var 3) .nil))) (.pair (.name 3) (.name 4)) (.and (.op .lt (.call 6 (.cons (.var 4) .nil)) (.cst (.int 9))) (.call 1 (.cons (.idx (.var 4) (.neg (.cst (.int 1)))) .nil))) [3, 4] [.val (.obj n), .val (.obj a), .emp, .emp, .emp] (.tup [.int j, tupS r]) S = .ok ((todoP j r).map pairD) S := fun r hr x y z j => by
    have l1 := last_tup (f.ne r hr)
    have l2 := last_len (f.sh r hr)
    have io := is_open_str (lastM r) S (by omega)
    have ro := run_of_tup r S
    have mi := misses_str (lastM r) S
    by_cases q : runOf r < 9
    · cases o : opn (lastM r) <;> simp [exs_cons, exs_nil, exsK_nx, exsK_ap, ex_ifs, ifK_t, ifK_f, ex_asg1, ex_asg, ex_ret, ex_expr, ex_pass, ex_new, r_var, varR_val, r_own, ownR_own, r_cst, r_glo, r_op, r_chain, r_neg, negR_some, r_nt, r_and, r_or, r_ite, r_lst, r_tup, r_idx, r_slc0, r_slc1, r_slc2, r_slc3, r_rev, r_f1, r_f2, r_meth, r_isi, r_call, callR_ok, r_callO, callO_ok, r_lmeth, lmR_count, lmR_index, r_nrng, nrR_int, r_lzip, ex_cpy, ex_par, ex_retF, tabY_fn, tabY_gl, r_nil, r_cons, tab_fn, tab_gl, tabX_fn, tabX_gl, look_hit, look_miss, r_fld, r_mth, mthR_ok, r_mk, mkR_ok, r_lenSet, r_isLT, eqNR_lst, r_eqN, r_dget, r_dcpy, stoR_some, ex_setf, ex_dput, tabZ_fn, tabZ_gl, tabZ_mt, tabZ_mk, tabZ_fd, bindT, op_add, op_sub, op_lt, op_le, op_gt, op_ge, op_eq, op_ne, op_in, op_nin, op_is, op_isn, small_ok, compIfF, noOwn, wipe, l1, io, ro, mi, q, o, todoP, pairD]
    · simp [exs_cons, exs_nil, exsK_nx, exsK_ap, ex_ifs, ifK_t, ifK_f, ex_asg1, ex_asg, ex_ret, ex_expr, ex_pass, ex_new, r_var, varR_val, r_own, ownR_own, r_cst, r_glo, r_op, r_chain, r_neg, negR_some, r_nt, r_and, r_or, r_ite, r_lst, r_tup, r_idx, r_slc0, r_slc1, r_slc2, r_slc3, r_rev, r_f1, r_f2, r_meth, r_isi, r_call, callR_ok, r_callO, callO_ok, r_lmeth, lmR_count, lmR_index, r_nrng, nrR_int, r_lzip, ex_cpy, ex_par, ex_retF, tabY_fn, tabY_gl, r_nil, r_cons, tab_fn, tab_gl, tabX_fn, tabX_gl, look_hit, look_miss, r_fld, r_mth, mthR_ok, r_mk, mkR_ok, r_lenSet, r_isLT, eqNR_lst, r_eqN, r_dget, r_dcpy, stoR_some, ex_setf, ex_dput, tabZ_fn, tabZ_gl, tabZ_mt, tabZ_mk, tabZ_fd, bindT, op_add, op_sub, op_lt, op_le, op_gt, op_ge, op_eq, op_ne, op_in, op_nin, op_is, op_isn, small_ok, compIfF, noOwn, wipe, ro, q, todoP]
  have hc := compIf_enum (F := tabZ [(4, fn_misses_in), (6, fn_run_of), (1, fn_is_open)] [] [] [] fdAll [] [] []) (it := .fld (.var 1) 0) (ρ := [.val (.obj n), .val (.obj a), .emp, .emp, .emp]) (S := S) (l := s.rows) (g := tupS) (d := pairD) (h := todoP) (x := rowsT s.rows) (by simp [exs_cons, exs_nil, exsK_nx, exsK_ap, ex_ifs, ifK_t, ifK_f, ex_asg1, ex_asg, ex_ret, ex_expr, ex_pass, ex_new, r_var, varR_val, r_own, ownR_own, r_cst, r_glo, r_op, r_chain, r_neg, negR_some, r_nt, r_and, r_or, r_ite, r_lst, r_tup, r_idx, r_slc0, r_slc1, r_slc2, r_slc3, r_rev, r_f1, r_f2, r_meth, r_isi, r_call, callR_ok, r_callO, callO_ok, r_lmeth, lmR_count, lmR_index, r_nrng, nrR_int, r_lzip, ex_cpy, ex_par, ex_retF, tabY_fn, tabY_gl, r_nil, r_cons, tab_fn, tab_gl, tabX_fn, tabX_gl, look_hit, look_miss, r_fld, r_mth, mthR_ok, r_mk, mkR_ok, r_lenSet, r_isLT, eqNR_lst, r_eqN, r_dget, r_dcpy, stoR_some, ex_setf, ex_dput, tabZ_fn, tabZ_gl, tabZ_mt, tabZ_mk, tabZ_fd, bindT, op_add, op_sub, op_lt, op_le, op_gt, op_ge, op_eq, op_ne, op_in, op_nin, op_is, op_isn, small_ok, g_rows e]) rfl (by have := f.few; omega) (fun j r hm => hr r hm .emp .emp .emp j)
  (unfold fn_Meet_todo; simp only [fn1, fn2, fn3, fn4, fF1, fF2, Nat.reduceSub, List.replicate_succ, List.replicate_zero])
  simp [exs_cons, exs_nil, exsK_nx, exsK_ap, ex_ifs, ifK_t, ifK_f, ex_asg1, ex_asg, ex_ret, ex_expr, ex_pass, ex_new, r_var, varR_val, r_own, ownR_own, r_cst, r_glo, r_op, r_chain, r_neg, negR_some, r_nt, r_and, r_or, r_ite, r_lst, r_tup, r_idx, r_slc0, r_slc1, r_slc2, r_slc3, r_rev, r_f1, r_f2, r_meth, r_isi, r_call, callR_ok, r_callO, callO_ok, r_lmeth, lmR_count, lmR_index, r_nrng, nrR_int, r_lzip, ex_cpy, ex_par, ex_retF, tabY_fn, tabY_gl, r_nil, r_cons, tab_fn, tab_gl, tabX_fn, tabX_gl, look_hit, look_miss, r_fld, r_mth, mthR_ok, r_mk, mkR_ok, r_lenSet, r_isLT, eqNR_lst, r_eqN, r_dget, r_dcpy, stoR_some, ex_setf, ex_dput, tabZ_fn, tabZ_gl, tabZ_mt, tabZ_mk, tabZ_fd, bindT, op_add, op_sub, op_lt, op_le, op_gt, op_ge, op_eq, op_ne, op_in, op_nin, op_is, op_isn, small_ok, b_Meet_todo, hc, show enumO todoP 0 s.rows = todoL s.rows from rfl, sort_pairs]
end
/-! ### places -/
def placeOf (ws : List (Int × Int × Int)) (w : Int × Int × Int) : Nat := 1 + (ws.filter fun o => decide (wLt w o)).length
def placesL (rs : List (List (List Nat))) : List Nat := rs.map fun r => placeOf (rs.map wI) (wI r)
def natsL (l : List Nat) : D := .lst (l.map fun k => .int (k : Nat))
theorem places_ok {rs : List (List (List Nat))} (h : ∀ r ∈ rs, Good r) (hl : rs.length ≤ 8) (S : Sto) : fn_places [rows_ rs] S = .ok (natsL (placesL rs)) S := by
  have nr := need_rows_ok h hl S
  have c1 : ∀ (F : Fns), F.fn 22 = some fn_weight → ev F (.comp (.call 22 (.cons (.var 2) .nil)) (.name 2) (.seq (.var 0)) [2]) [.val (rows_ rs), .emp, .emp, .emp, .emp] S = .ok (.lst (rs.map fun r => w3D (wI r))) S := fun F hF => by
    refine comp_map (l := rs) strs_ (fun r => w3D (wI r)) (by rw [evIt, r_var]; rfl) (by omega) fun r hr => ?_
    simp [exs_cons, exs_nil, exsK_nx, exsK_ap, ex_ifs, ifK_t, ifK_f, ex_asg1, ex_asg, ex_ret, ex_expr, ex_pass, ex_new, r_var, varR_val, r_own, ownR_own, r_cst, r_glo, r_op, r_chain, r_neg, negR_some, r_nt, r_and, r_or, r_ite, r_lst, r_tup, r_idx, r_slc0, r_slc1, r_slc2, r_slc3, r_rev, r_f1, r_f2, r_meth, r_isi, r_call, callR_ok, r_callO, callO_ok, r_lmeth, lmR_count, lmR_index, r_nrng, nrR_int, r_lzip, ex_cpy, ex_par, ex_retF, tabY_fn, tabY_gl, r_nil, r_cons, tab_fn, tab_gl, tabX_fn, tabX_gl, look_hit, look_miss, r_fld, r_mth, mthR_ok, r_mk, mkR_ok, r_lenSet, r_isLT, eqNR_lst, r_eqN, r_dget, r_dcpy, stoR_some, ex_setf, ex_dput, tabZ_fn, tabZ_gl, tabZ_mt, tabZ_mk, tabZ_fd, bindT, op_add, op_sub, op_lt, op_le, op_gt, op_ge, op_eq, op_ne, op_in, op_nin, op_is, op_isn, small_ok, compF, noOwn, wipe, hF, weight_ok (h r hr) S]
  have c2 : ∀ (F : Fns), ev F (.comp (.op .add (.cst (.int 1)) (.f1 .len (.compIf (.var 4) (.name 4) (.seq (.var 1)) (.op .gt (.var 4) (.var 3)) [4]))) (.name 3) (.seq (.var 1)) [3]) [.val (rows_ rs), .val (.lst (rs.map fun r => w3D (wI r))), .emp, .emp, .emp] S = .ok (natsL (placesL rs)) S := fun F => by
    have e : natsL (placesL rs) = .lst (rs.map fun r => .int (placeOf (rs.map wI) (wI r) : Nat)) := by simp [natsL, placesL]
    rw [e]
    refine comp_map (l := rs) (fun r => w3D (wI r)) (fun r => .int (placeOf (rs.map wI) (wI r) : Nat)) (by rw [evIt, r_var]; rfl) (by omega) fun r hr => ?_
    have c3 : ev F (.compIf (.var 4) (.name 4) (.seq (.var 1)) (.op .gt (.var 4) (.var 3)) [4]) [.val (rows_ rs), .val (.lst (rs.map fun r => w3D (wI r))), .emp, .val (w3D (wI r)), .emp] S = .ok (.lst ((rs.filter fun o => decide (wLt (wI r) (wI o))).map fun r => w3D (wI r))) S := by
      refine compIf_map (l := rs) (fun r => w3D (wI r)) (fun r => w3D (wI r)) (fun o => decide (wLt (wI r) (wI o))) (by rw [evIt, r_var]; rfl) (by omega) fun o ho => ?_
      by_cases q : wLt (wI r) (wI o)
      · simp [exs_cons, exs_nil, exsK_nx, exsK_ap, ex_ifs, ifK_t, ifK_f, ex_asg1, ex_asg, ex_ret, ex_expr, ex_pass, ex_new, r_var, varR_val, r_own, ownR_own, r_cst, r_glo, r_op, r_chain, r_neg, negR_some, r_nt, r_and, r_or, r_ite, r_lst, r_tup, r_idx, r_slc0, r_slc1, r_slc2, r_slc3, r_rev, r_f1, r_f2, r_meth, r_isi, r_call, callR_ok, r_callO, callO_ok, r_lmeth, lmR_count, lmR_index, r_nrng, nrR_int, r_lzip, ex_cpy, ex_par, ex_retF, tabY_fn, tabY_gl, r_nil, r_cons, tab_fn, tab_gl, tabX_fn, tabX_gl, look_hit, look_miss, r_fld, r_mth, mthR_ok, r_mk, mkR_ok, r_lenSet, r_isLT, eqNR_lst, r_eqN, r_dget, r_dcpy, stoR_some, ex_setf, ex_dput, tabZ_fn, tabZ_gl, tabZ_mt, tabZ_mk, tabZ_fd, bindT, op_add, op_sub, op_lt, op_le, op_gt, op_ge, op_eq, op_ne, op_in, op_nin, op_is, op_isn, small_ok, compIfF, noOwn, wipe, gt3, q]
      · simp [exs_cons, exs_nil, exsK_nx, exsK_ap, ex_ifs, ifK_t, ifK_f, ex_asg1, ex_asg, ex_ret, ex_expr, ex_pass, ex_new, r_var, varR_val, r_own, ownR_own, r_cst, r_glo, r_op, r_chain, r_neg, negR_some, r_nt, r_and, r_or, r_ite, r_lst, r_tup, r_idx, r_slc0, r_slc1, r_slc2, r_slc3, r_rev, r_f1, r_f2, r_meth, r_isi, r_call, callR_ok, r_callO, callO_ok, r_lmeth, lmR_count, lmR_index, r_nrng, nrR_int, r_lzip, ex_cpy, ex_par, ex_retF, tabY_fn, tabY_gl, r_nil, r_cons, tab_fn, tab_gl, tabX_fn, tabX_gl, look_hit, look_miss, r_fld, r_mth, mthR_ok, r_mk, mkR_ok, r_lenSet, r_isLT, eqNR_lst, r_eqN, r_dget, r_dcpy, stoR_some, ex_setf, ex_dput, tabZ_fn, tabZ_gl, tabZ_mt, tabZ_mk, tabZ_fd, bindT, op_add, op_sub, op_lt, op_le, op_gt, op_ge, op_eq, op_ne, op_in, op_nin, op_is, op_isn, small_ok, compIfF, noOwn, wipe, gt3, q]
    have bl : ∀ l : List (List (List Nat)), b1 .len (.lst (l.map fun r => w3D (wI r))) = some (.int (l.length : Nat)) := fun l => by simp [b1]
    have hp : (1 : Int) + ((rs.filter fun o => decide (wLt (wI r) (wI o))).length : Nat) = (placeOf (rs.map wI) (wI r) : Nat) := by
      unfold placeOf
      rw [List.filter_map, List.length_map]
      simp [Function.comp_def]
    simp [exs_cons, exs_nil, exsK_nx, exsK_ap, ex_ifs, ifK_t, ifK_f, ex_asg1, ex_asg, ex_ret, ex_expr, ex_pass, ex_new, r_var, varR_val, r_own, ownR_own, r_cst, r_glo, r_op, r_chain, r_neg, negR_some, r_nt, r_and, r_or, r_ite, r_lst, r_tup, r_idx, r_slc0, r_slc1, r_slc2, r_slc3, r_rev, r_f1, r_f2, r_meth, r_isi, r_call, callR_ok, r_callO, callO_ok, r_lmeth, lmR_count, lmR_index, r_nrng, nrR_int, r_lzip, ex_cpy, ex_par, ex_retF, tabY_fn, tabY_gl, r_nil, r_cons, tab_fn, tab_gl, tabX_fn, tabX_gl, look_hit, look_miss, r_fld, r_mth, mthR_ok, r_mk, mkR_ok, r_lenSet, r_isLT, eqNR_lst, r_eqN, r_dget, r_dcpy, stoR_some, ex_setf, ex_dput, tabZ_fn, tabZ_gl, tabZ_mt, tabZ_mk, tabZ_fd, bindT, op_add, op_sub, op_lt, op_le, op_gt, op_ge, op_eq, op_ne, op_in, op_nin, op_is, op_isn, small_ok, compF, noOwn, wipe, c3, bl, hp]
  have rl : ∀ l : List Nat, retL (natsL l) S = .ok (.rtF (natsL l)) S := fun l => rfl
  (unfold fn_places; simp only [fn1, fn2, fn3, fn4, fF1, fF2, Nat.reduceSub, List.replicate_succ, List.replicate_zero])
  simp [exs_cons, exs_nil, exsK_nx, exsK_ap, ex_ifs, ifK_t, ifK_f, ex_asg1, ex_asg, ex_ret, ex_expr, ex_pass, ex_new, r_var, varR_val, r_own, ownR_own, r_cst, r_glo, r_op, r_chain, r_neg, negR_some, r_nt, r_and, r_or, r_ite, r_lst, r_tup, r_idx, r_slc0, r_slc1, r_slc2, r_slc3, r_rev, r_f1, r_f2, r_meth, r_isi, r_call, callR_ok, r_callO, callO_ok, r_lmeth, lmR_count, lmR_index, r_nrng, nrR_int, r_lzip, ex_cpy, ex_par, ex_retF, tabY_fn, tabY_gl, r_nil, r_cons, tab_fn, tab_gl, tabX_fn, tabX_gl, look_hit, look_miss, r_fld, r_mth, mthR_ok, r_mk, mkR_ok, r_lenSet, r_isLT, eqNR_lst, r_eqN, r_dget, r_dcpy, stoR_some, ex_setf, ex_dput, tabZ_fn, tabZ_gl, tabZ_mt, tabZ_mk, tabZ_fd, bindT, op_add, op_sub, op_lt, op_le, op_gt, op_ge, op_eq, op_ne, op_in, op_nin, op_is, op_isn, small_ok, b_places, nr, c1, c2, rl]
/-! ### the main part -/
theorem add_T (a b : List D) (h : a.length + b.length ≤ 1000) : op2 .add (.tup a) (.tup b) = some (.tup (a ++ b)) := by
  show (if a.length + b.length ≤ lim then some (D.tup (a ++ b)) else none) = _
  rw [if_pos (by unfold lim; omega)]
theorem add_L (a b : List D) (h : a.length + b.length ≤ 1000) : op2 .add (.lst a) (.lst b) = some (.lst (a ++ b)) := by
  show (if a.length + b.length ≤ lim then some (D.lst (a ++ b)) else none) = _
  rw [if_pos (by unfold lim; omega)]
theorem s_eqd (a b : List Nat) : eqO (.str a) (.str b) = some (decide (a = b)) := s_eq a b
theorem tup_nth {l : List D} {i : Nat} {x : D} (h : l[i]? = some x) : idx (.tup l) (.int (i : Nat)) = some x := by
  show at_ l (i : Int) = some x
  exact at_nat h
theorem lst_nth {l : List D} {i : Nat} {x : D} (h : l[i]? = some x) : idx (.lst l) (.int (i : Nat)) = some x := by
  show at_ l (i : Int) = some x
  exact at_nat h
section
variable {S : Sto} {a n : Nat} {s : Sd} {ns : List (List Nat)} {bs : List Int} {st : Int} {h : Nat} {ds us : List Nat}
/-- the next one in the main part -/
def nextM (s : Sd) : Nat := match sortP (todoL s.rows) with
  | p :: _ => p.2.toNat
  | [] => 0
theorem todo_ix {rows : List Row} {p : Int × Int} (hp : p ∈ todoL rows) : ∃ (j : Nat) (r : Row), rows[j]? = some r ∧ runOf r < 9 ∧ opn (lastM r) = true ∧ p = ((cnt 120 (lastM r) : Int), (j : Int)) := by
  obtain ⟨j, r, h1, h2⟩ := mem_enumO.mp hp
  unfold todoP at h2
  split at h2
  · rename_i hc
    cases h2
    exact ⟨j, r, h1, hc.1, hc.2, by simp⟩
  · cases h2
theorem next_spec (hne : todoL s.rows ≠ []) : ∃ (r : Row) (t : List (Int × Int)), s.rows[nextM s]? = some r ∧ runOf r < 9 ∧ opn (lastM r) = true ∧ sortP (todoL s.rows) = ((cnt 120 (lastM r) : Int), (nextM s : Int)) :: t := by
  cases q : sortP (todoL s.rows) with
  | nil =>
    have := (sortP_perm (todoL s.rows)).length_eq
    rw [q] at this
    exact absurd (List.eq_nil_of_length_eq_zero this.symm) hne
  | cons p t =>
    have hp : p ∈ todoL s.rows := (sortP_perm (todoL s.rows)).mem_iff.mp (by rw [q]; exact List.mem_cons_self ..)
    obtain ⟨j, r, h1, h2, h3, rfl⟩ := todo_ix hp
    have e : nextM s = j := by simp [nextM, q]
    rw [e]
    exact ⟨r, t, h1, h2, h3, rfl⟩
theorem following_main (en : S[n]? = some (mtC ns bs st h ds us)) (e : S[a]? = some (sdC s)) (f : Fit s) (hm : s.state = wMain) (hne : todoL s.rows ≠ []) : fn_Meet_following [.obj n, .obj a] S = .ok (.int (nextM s : Nat)) S := by
  have td := todo_ok (n := n) e f
  obtain ⟨r, t, h1, h2, h3, h4⟩ := next_spec hne
  rw [h4] at td
  have i0 : ∀ x : D, ∀ l : List D, idx (.lst (x :: l)) (.int 0) = some x := fun x l => lst_nth (i := 0) rfl
  have i1 : ∀ x y : Int, idx (pairD (x, y)) (.int 1) = some (.int y) := fun x y => rfl
  have q : eqO (.str s.state) (.str [109, 97, 105, 110]) = some true := by rw [s_eqd, hm]; rfl
  (unfold fn_Meet_following; simp only [fn1, fn2, fn3, fn4, fF1, fF2, Nat.reduceSub, List.replicate_succ, List.replicate_zero])
  simp [exs_cons, exs_nil, exsK_nx, exsK_ap, ex_ifs, ifK_t, ifK_f, ex_asg1, ex_asg, ex_ret, ex_expr, ex_pass, ex_new, r_var, varR_val, r_own, ownR_own, r_cst, r_glo, r_op, r_chain, r_neg, negR_some, r_nt, r_and, r_or, r_ite, r_lst, r_tup, r_idx, r_slc0, r_slc1, r_slc2, r_slc3, r_rev, r_f1, r_f2, r_meth, r_isi, r_call, callR_ok, r_callO, callO_ok, r_lmeth, lmR_count, lmR_index, r_nrng, nrR_int, r_lzip, ex_cpy, ex_par, ex_retF, tabY_fn, tabY_gl, r_nil, r_cons, tab_fn, tab_gl, tabX_fn, tabX_gl, look_hit, look_miss, r_fld, r_mth, mthR_ok, r_mk, mkR_ok, r_lenSet, r_isLT, eqNR_lst, r_eqN, r_dget, r_dcpy, stoR_some, ex_setf, ex_dput, tabZ_fn, tabZ_gl, tabZ_mt, tabZ_mk, tabZ_fd, bindT, op_add, op_sub, op_lt, op_le, op_gt, op_ge, op_eq, op_ne, op_in, op_nin, op_is, op_isn, small_ok, b_Meet_following, g_state e, q, is_meet en, td, i0, i1]
theorem turn_to_ok (en : S[n]? = some (mtC ns bs st h ds us)) (e : S[a]? = some (sdC s)) (d : List Nat) (h1 : s.deeds.length ≤ 900) (h2 : ds.length ≤ 900) :
    fn_Meet_turn_to [.obj n, .obj a, .str d] S = .ok .non ((S.set a (sdC { s with deeds := s.deeds ++ [d] })).set n (mtC ns bs st a (ds ++ [h]) [])) := by
  have hne := two_kinds e en
  have a1 : op2 .add (tupS s.deeds) (.tup [.str d]) = some (tupS (s.deeds ++ [d])) := by
    unfold tupS
    rw [add_T _ _ (by simp; omega)]
    simp
  have a2 : op2 .add (objs ds) (.lst [.obj h]) = some (objs (ds ++ [h])) := by
    unfold objs
    rw [add_L _ _ (by simp; omega)]
    simp
  have o0 : (D.lst []) = objs [] := rfl
  have q1 := p_deeds e (s.deeds ++ [d])
  have e1 : (S.set a (sdC { s with deeds := s.deeds ++ [d] }))[n]? = some (mtC ns bs st h ds us) := by rw [set_other hne]; exact en
  have e2 : ∀ c : Cell, ((S.set a (sdC { s with deeds := s.deeds ++ [d] })).set n c)[n]? = some c := fun c => set_at e1
  (unfold fn_Meet_turn_to; simp only [fn1, fn2, fn3, fn4, fF1, fF2, Nat.reduceSub, List.replicate_succ, List.replicate_zero])
  simp [exs_cons, exs_nil, exsK_nx, exsK_ap, ex_ifs, ifK_t, ifK_f, ex_asg1, ex_asg, ex_ret, ex_expr, ex_pass, ex_new, r_var, varR_val, r_own, ownR_own, r_cst, r_glo, r_op, r_chain, r_neg, negR_some, r_nt, r_and, r_or, r_ite, r_lst, r_tup, r_idx, r_slc0, r_slc1, r_slc2, r_slc3, r_rev, r_f1, r_f2, r_meth, r_isi, r_call, callR_ok, r_callO, callO_ok, r_lmeth, lmR_count, lmR_index, r_nrng, nrR_int, r_lzip, ex_cpy, ex_par, ex_retF, tabY_fn, tabY_gl, r_nil, r_cons, tab_fn, tab_gl, tabX_fn, tabX_gl, look_hit, look_miss, r_fld, r_mth, mthR_ok, r_mk, mkR_ok, r_lenSet, r_isLT, eqNR_lst, r_eqN, r_dget, r_dcpy, stoR_some, ex_setf, ex_dput, tabZ_fn, tabZ_gl, tabZ_mt, tabZ_mk, tabZ_fd, bindT, op_add, op_sub, op_lt, op_le, op_gt, op_ge, op_eq, op_ne, op_in, op_nin, op_is, op_isn, small_ok, b_Meet_turn_to, g_deeds e, a1, q1, g_done e1, g_here e1, a2, p_done e1, o0, p_undone (e2 _), p_here (e2 _), List.set_set]
end
/-! ### the end of the main part -/
def firstP (i k : Nat) : Option Nat := if k = 1 then some i else none
def firsts (rs : List Row) : List Nat := enumO firstP 0 (placesL rs)
theorem best_ex : ∀ (rs : List Row), rs ≠ [] → ∃ r ∈ rs, ∀ o ∈ rs, ¬ wLt (wI r) (wI o)
  | [], h => absurd rfl h
  | [r], _ => ⟨r, by simp, fun o ho => by rw [List.mem_singleton] at ho; rw [ho]; exact wLt_irr _⟩
  | r :: r2 :: rs, _ => by
    obtain ⟨b, h1, h2⟩ := best_ex (r2 :: rs) (by simp)
    by_cases q : wLt (wI b) (wI r)
    · refine ⟨r, by simp, fun o ho => ?_⟩
      rcases List.mem_cons.mp ho with e | ho
      · rw [e]; exact wLt_irr _
      · have := h2 o ho
        unfold wLt at *
        omega
    · refine ⟨b, List.mem_cons_of_mem _ h1, fun o ho => ?_⟩
      rcases List.mem_cons.mp ho with e | ho
      · rw [e]; exact q
      · exact h2 o ho
theorem place_one {ws : List (Int × Int × Int)} {w : Int × Int × Int} : placeOf ws w = 1 ↔ ∀ o ∈ ws, ¬ wLt w o := by
  unfold placeOf
  constructor
  · intro h o ho hw
    have : (ws.filter fun o => decide (wLt w o)) ≠ [] := fun z => by
      have : o ∈ ws.filter fun o => decide (wLt w o) := List.mem_filter.mpr ⟨ho, decide_eq_true hw⟩
      rw [z] at this
      cases this
    have := List.length_pos_iff.mpr this
    omega
  · intro h
    have : (ws.filter fun o => decide (wLt w o)) = [] := by
      rw [List.filter_eq_nil_iff]
      intro o ho z
      exact h o ho (of_decide_eq_true z)
    rw [this]
    rfl
theorem mem_firsts {rs : List Row} {i : Nat} : i ∈ firsts rs ↔ ∃ r, rs[i]? = some r ∧ ∀ o ∈ rs, ¬ wLt (wI r) (wI o) := by
  unfold firsts
  rw [mem_enumO]
  constructor
  · rintro ⟨j, k, h1, h2⟩
    unfold firstP at h2
    split at h2
    · rename_i hk
      have hj : 0 + j = i := Option.some.inj h2
      rw [Nat.zero_add] at hj
      subst hj
      unfold placesL at h1
      rw [List.getElem?_map] at h1
      cases hr : rs[j]? with
      | none => rw [hr] at h1; cases h1
      | some r =>
        rw [hr] at h1
        have h1 : placeOf (rs.map wI) (wI r) = k := Option.some.inj h1
        rw [hk] at h1
        exact ⟨r, rfl, fun o ho => place_one.mp h1 _ (List.mem_map_of_mem ho)⟩
    · cases h2
  · rintro ⟨r, h1, h2⟩
    refine ⟨i, 1, ?_, by simp [firstP]⟩
    unfold placesL
    rw [List.getElem?_map, h1]
    show some (placeOf (rs.map wI) (wI r)) = some 1
    rw [place_one.mpr fun o ho => by
      obtain ⟨z, hz, rfl⟩ := List.mem_map.mp ho
      exact h2 z hz]
theorem firsts_ne {rs : List Row} (h : rs ≠ []) : firsts rs ≠ [] := fun z => by
  obtain ⟨r, h1, h2⟩ := best_ex rs h
  obtain ⟨i, hi, e⟩ := List.getElem_of_mem h1
  have : i ∈ firsts rs := mem_firsts.mpr ⟨r, by rw [List.getElem?_eq_getElem hi, e], h2⟩
  rw [z] at this
  cases this
/-- the height of the last one cleared by the first -/
def topOf (rs : List Row) : Option Nat := top? (rs.getD ((firsts rs).headD 0) [])
def endMain (k : Nat) (bs : List Int) (st : Int) (s : Sd) : Sd := match topOf s.rows with
  | none => { s with state := wOver }
  | some t => if (firsts s.rows).length = 1 then { s with state := wOver } else { s with state := wOff, first := firsts s.rows, jumps := List.replicate k [], height := bs.getD t 0 + st }
theorem firsts_len (rs : List Row) : (firsts rs).length ≤ rs.length := by
  have := enumO_len firstP (placesL rs) 0
  unfold placesL at this
  rw [List.length_map] at this
  exact this
section
variable {S : Sto} {a n : Nat} {s : Sd} {ns : List (List Nat)} {bs : List Int} {st : Int} {h : Nat} {ds us : List Nat}
theorem list_tup (r : Row) : b1 .list (tupS r) = some (strs_ r) := rfl
theorem end_main_ok (en : S[n]? = some (mtC ns bs st h ds us)) (e : S[a]? = some (sdC s)) (f : Fit s) (g : ∀ r ∈ s.rows, Good r) (hn0 : s.rows ≠ []) (hb : ∀ r ∈ s.rows, r.length ≤ bs.length) (hns : ns.length ≤ 1000) :
    fn_Meet_end_main [.obj n, .obj a] S = .ok .non (S.set a (sdC (endMain ns.length bs st s))) := by
  have hne := two_kinds e en
  have c1 : ∀ F : Fns, F.fd = fdF → ev F (.comp (.f1 .list (.var 5)) (.name 5) (.seq (.fld (.var 1) 0)) [5]) [.val (.obj n), .val (.obj a), .emp, .emp, .emp, .emp, .emp, .emp, .emp] S = .ok (rows_ s.rows) S := fun F hF => by
    refine comp_map (l := s.rows) tupS strs_ ?_ (by have := f.few; omega) fun r hr => ?_
    · rw [evIt, r_fld, r_var]
      simp [exs_cons, exs_nil, exsK_nx, exsK_ap, ex_ifs, ifK_t, ifK_f, ex_asg1, ex_asg, ex_ret, ex_expr, ex_pass, ex_new, r_var, varR_val, r_own, ownR_own, r_cst, r_glo, r_op, r_chain, r_neg, negR_some, r_nt, r_and, r_or, r_ite, r_lst, r_tup, r_idx, r_slc0, r_slc1, r_slc2, r_slc3, r_rev, r_f1, r_f2, r_meth, r_isi, r_call, callR_ok, r_callO, callO_ok, r_lmeth, lmR_count, lmR_index, r_nrng, nrR_int, r_lzip, ex_cpy, ex_par, ex_retF, tabY_fn, tabY_gl, r_nil, r_cons, tab_fn, tab_gl, tabX_fn, tabX_gl, look_hit, look_miss, r_fld, r_mth, mthR_ok, r_mk, mkR_ok, r_lenSet, r_isLT, eqNR_lst, r_eqN, r_dget, r_dcpy, stoR_some, ex_setf, ex_dput, tabZ_fn, tabZ_gl, tabZ_mt, tabZ_mk, tabZ_fd, bindT, op_add, op_sub, op_lt, op_le, op_gt, op_ge, op_eq, op_ne, op_in, op_nin, op_is, op_isn, small_ok, hF, g_rows e]
      rfl
    · simp [exs_cons, exs_nil, exsK_nx, exsK_ap, ex_ifs, ifK_t, ifK_f, ex_asg1, ex_asg, ex_ret, ex_expr, ex_pass, ex_new, r_var, varR_val, r_own, ownR_own, r_cst, r_glo, r_op, r_chain, r_neg, negR_some, r_nt, r_and, r_or, r_ite, r_lst, r_tup, r_idx, r_slc0, r_slc1, r_slc2, r_slc3, r_rev, r_f1, r_f2, r_meth, r_isi, r_call, callR_ok, r_callO, callO_ok, r_lmeth, lmR_count, lmR_index, r_nrng, nrR_int, r_lzip, ex_cpy, ex_par, ex_retF, tabY_fn, tabY_gl, r_nil, r_cons, tab_fn, tab_gl, tabX_fn, tabX_gl, look_hit, look_miss, r_fld, r_mth, mthR_ok, r_mk, mkR_ok, r_lenSet, r_isLT, eqNR_lst, r_eqN, r_dget, r_dcpy, stoR_some, ex_setf, ex_dput, tabZ_fn, tabZ_gl, tabZ_mt, tabZ_mk, tabZ_fd, bindT, op_add, op_sub, op_lt, op_le, op_gt, op_ge, op_eq, op_ne, op_in, op_nin, op_is, op_isn, small_ok, compF, noOwn, wipe, list_tup]
  have pl := places_ok g (by have := f.few; omega) S
  have c2 : ∀ (F : Fns) (x y z u v w q : Slot), ev F (.compIf (.var 6) (.pair (.name 6) (.name 7)) (.enm (.var 2)) (.op .eq (.var 7) (.cst (.int 1))) [6, 7]) [.val (.obj n), .val (.obj a), .val (natsL (placesL s.rows)), .emp, .emp, .emp, .emp, .emp, .emp] S = .ok (natsL (firsts s.rows)) S := fun F _ _ _ _ _ _ _ => by
    refine compIf_enum (l := placesL s.rows) (g := fun k => .int (k : Nat)) (d := fun i => .int (i : Nat)) (h := firstP) (x := natsL (placesL s.rows)) (by simp [exs_cons, exs_nil, exsK_nx, exsK_ap, ex_ifs, ifK_t, ifK_f, ex_asg1, ex_asg, ex_ret, ex_expr, ex_pass, ex_new, r_var, varR_val, r_own, ownR_own, r_cst, r_glo, r_op, r_chain, r_neg, negR_some, r_nt, r_and, r_or, r_ite, r_lst, r_tup, r_idx, r_slc0, r_slc1, r_slc2, r_slc3, r_rev, r_f1, r_f2, r_meth, r_isi, r_call, callR_ok, r_callO, callO_ok, r_lmeth, lmR_count, lmR_index, r_nrng, nrR_int, r_lzip, ex_cpy, ex_par, ex_retF, tabY_fn, tabY_gl, r_nil, r_cons, tab_fn, tab_gl, tabX_fn, tabX_gl, look_hit, look_miss, r_fld, r_mth, mthR_ok, r_mk, mkR_ok, r_lenSet, r_isLT, eqNR_lst, r_eqN, r_dget, r_dcpy, stoR_some, ex_setf, ex_dput, tabZ_fn, tabZ_gl, tabZ_mt, tabZ_mk, tabZ_fd, bindT, op_add, op_sub, op_lt, op_le, op_gt, op_ge, op_eq, op_ne, op_in, op_nin, op_is, op_isn, small_ok]) rfl (by have := f.few; simp [placesL]; omega) fun j k hk => ?_
    by_cases hk1 : k = 1
    · have q : eqO (.int (k : Nat)) (.int 1) = some true := by rw [i_eq, hk1]; rfl
      have q2 : firstP j k = some j := by simp [firstP, hk1]
      simp [exs_cons, exs_nil, exsK_nx, exsK_ap, ex_ifs, ifK_t, ifK_f, ex_asg1, ex_asg, ex_ret, ex_expr, ex_pass, ex_new, r_var, varR_val, r_own, ownR_own, r_cst, r_glo, r_op, r_chain, r_neg, negR_some, r_nt, r_and, r_or, r_ite, r_lst, r_tup, r_idx, r_slc0, r_slc1, r_slc2, r_slc3, r_rev, r_f1, r_f2, r_meth, r_isi, r_call, callR_ok, r_callO, callO_ok, r_lmeth, lmR_count, lmR_index, r_nrng, nrR_int, r_lzip, ex_cpy, ex_par, ex_retF, tabY_fn, tabY_gl, r_nil, r_cons, tab_fn, tab_gl, tabX_fn, tabX_gl, look_hit, look_miss, r_fld, r_mth, mthR_ok, r_mk, mkR_ok, r_lenSet, r_isLT, eqNR_lst, r_eqN, r_dget, r_dcpy, stoR_some, ex_setf, ex_dput, tabZ_fn, tabZ_gl, tabZ_mt, tabZ_mk, tabZ_fd, bindT, op_add, op_sub, op_lt, op_le, op_gt, op_ge, op_eq, op_ne, op_in, op_nin, op_is, op_isn, small_ok, compIfF, noOwn, wipe, q, q2]
    · have q : eqO (.int (k : Nat)) (.int 1) = some false := by
        rw [i_eq]
        congr 1
        simp
        omega
      have q2 : firstP j k = none := by simp [firstP, hk1]
      simp [exs_cons, exs_nil, exsK_nx, exsK_ap, ex_ifs, ifK_t, ifK_f, ex_asg1, ex_asg, ex_ret, ex_expr, ex_pass, ex_new, r_var, varR_val, r_own, ownR_own, r_cst, r_glo, r_op, r_chain, r_neg, negR_some, r_nt, r_and, r_or, r_ite, r_lst, r_tup, r_idx, r_slc0, r_slc1, r_slc2, r_slc3, r_rev, r_f1, r_f2, r_meth, r_isi, r_call, callR_ok, r_callO, callO_ok, r_lmeth, lmR_count, lmR_index, r_nrng, nrR_int, r_lzip, ex_cpy, ex_par, ex_retF, tabY_fn, tabY_gl, r_nil, r_cons, tab_fn, tab_gl, tabX_fn, tabX_gl, look_hit, look_miss, r_fld, r_mth, mthR_ok, r_mk, mkR_ok, r_lenSet, r_isLT, eqNR_lst, r_eqN, r_dget, r_dcpy, stoR_some, ex_setf, ex_dput, tabZ_fn, tabZ_gl, tabZ_mt, tabZ_mk, tabZ_fd, bindT, op_add, op_sub, op_lt, op_le, op_gt, op_ge, op_eq, op_ne, op_in, op_nin, op_is, op_isn, small_ok, compIfF, noOwn, wipe, q, q2]
  have c2 := fun F => c2 F .emp .emp .emp .emp .emp .emp .emp
  obtain ⟨i, rest, hf⟩ : ∃ i rest, firsts s.rows = i :: rest := by
    cases q : firsts s.rows with
    | nil => exact absurd q (firsts_ne hn0)
    | cons i rest => exact ⟨i, rest, rfl⟩
  obtain ⟨r, hr, _⟩ := mem_firsts.mp (show i ∈ firsts s.rows by rw [hf]; exact List.mem_cons_self ..)
  have hrm := List.mem_of_getElem? hr
  have i0 : idx (natsL (firsts s.rows)) (.int 0) = some (.int (i : Nat)) := by rw [hf]; exact lst_nth (i := 0) rfl
  have i1 : idx (rowsT s.rows) (.int (i : Nat)) = some (tupS r) := tup_nth (by rw [List.getElem?_map, hr]; rfl)
  have sc := score_ok (g r hrm) S
  have bl : b1 .len (natsL (firsts s.rows)) = some (.int ((firsts s.rows).length : Nat)) := by simp [natsL, b1]
  have qe : eqO (.int ((firsts s.rows).length : Nat)) (.int 1) = some (decide ((firsts s.rows).length = 1)) := by
    rw [i_eq]
    congr 1
    simp only [decide_eq_decide]
    omega
  have ht : topOf s.rows = top? r := by
    unfold topOf
    rw [hf, List.headD_cons, List.getD_eq_getElem?_getD, hr]
    rfl
  have ov := p_state e wOver
  have ow : D.str [111, 118, 101, 114] = D.str wOver := rfl
  have of_ : D.str [111, 102, 102] = D.str wOff := rfl
  (unfold fn_Meet_end_main; simp only [fn1, fn2, fn3, fn4, fF1, fF2, Nat.reduceSub, List.replicate_succ, List.replicate_zero])
  by_cases h1 : (firsts s.rows).length = 1
  · have q : endMain ns.length bs st s = { s with state := wOver } := by
      unfold endMain
      cases topOf s.rows <;> simp [h1]
    rw [q]
    rw [decide_eq_true h1] at qe
    simp [exs_cons, exs_nil, exsK_nx, exsK_ap, ex_ifs, ifK_t, ifK_f, ex_asg1, ex_asg, ex_ret, ex_expr, ex_pass, ex_new, r_var, varR_val, r_own, ownR_own, r_cst, r_glo, r_op, r_chain, r_neg, negR_some, r_nt, r_and, r_or, r_ite, r_lst, r_tup, r_idx, r_slc0, r_slc1, r_slc2, r_slc3, r_rev, r_f1, r_f2, r_meth, r_isi, r_call, callR_ok, r_callO, callO_ok, r_lmeth, lmR_count, lmR_index, r_nrng, nrR_int, r_lzip, ex_cpy, ex_par, ex_retF, tabY_fn, tabY_gl, r_nil, r_cons, tab_fn, tab_gl, tabX_fn, tabX_gl, look_hit, look_miss, r_fld, r_mth, mthR_ok, r_mk, mkR_ok, r_lenSet, r_isLT, eqNR_lst, r_eqN, r_dget, r_dcpy, stoR_some, ex_setf, ex_dput, tabZ_fn, tabZ_gl, tabZ_mt, tabZ_mk, tabZ_fd, bindT, op_add, op_sub, op_lt, op_le, op_gt, op_ge, op_eq, op_ne, op_in, op_nin, op_is, op_isn, small_ok, b_Meet_end_main, c1, pl, c2, i0, g_rows e, i1, list_tup, sc, bl, qe, ow, ov]
  · rw [decide_eq_false h1] at qe
    cases hw : wt r with
    | none =>
      have hq : top? r = none := by
        unfold wt at hw
        cases ht : top? r with
        | none => rfl
        | some t => rw [ht] at hw; cases hw
      rw [hw] at sc
      have sc : fn_score [strs_ r] S = .ok .non S := sc
      have q : endMain ns.length bs st s = { s with state := wOver } := by
        unfold endMain
        rw [ht, hq]
      have hi : isO .non .non = some true := rfl
      rw [q]
      simp [exs_cons, exs_nil, exsK_nx, exsK_ap, ex_ifs, ifK_t, ifK_f, ex_asg1, ex_asg, ex_ret, ex_expr, ex_pass, ex_new, r_var, varR_val, r_own, ownR_own, r_cst, r_glo, r_op, r_chain, r_neg, negR_some, r_nt, r_and, r_or, r_ite, r_lst, r_tup, r_idx, r_slc0, r_slc1, r_slc2, r_slc3, r_rev, r_f1, r_f2, r_meth, r_isi, r_call, callR_ok, r_callO, callO_ok, r_lmeth, lmR_count, lmR_index, r_nrng, nrR_int, r_lzip, ex_cpy, ex_par, ex_retF, tabY_fn, tabY_gl, r_nil, r_cons, tab_fn, tab_gl, tabX_fn, tabX_gl, look_hit, look_miss, r_fld, r_mth, mthR_ok, r_mk, mkR_ok, r_lenSet, r_isLT, eqNR_lst, r_eqN, r_dget, r_dcpy, stoR_some, ex_setf, ex_dput, tabZ_fn, tabZ_gl, tabZ_mt, tabZ_mk, tabZ_fd, bindT, op_add, op_sub, op_lt, op_le, op_gt, op_ge, op_eq, op_ne, op_in, op_nin, op_is, op_isn, small_ok, b_Meet_end_main, c1, pl, c2, i0, g_rows e, i1, list_tup, sc, bl, qe, hi, ow, ov]
    | some x =>
      obtain ⟨t, hq, hx⟩ : ∃ t : Nat, top? r = some t ∧ x = ((t : Int), missAt r t, missUp r t) := by
        unfold wt at hw
        cases ht : top? r with
        | none => rw [ht] at hw; cases hw
        | some t => rw [ht] at hw; cases hw; exact ⟨t, rfl, rfl⟩
      subst hx
      rw [hw] at sc
      have sc : fn_score [strs_ r] S = .ok (.tup [.int (t : Nat), .int (missAt r t), .int (missUp r t)]) S := sc
      generalize hT : D.tup [.int (t : Nat), .int (missAt r t), .int (missUp r t)] = T at sc
      have hi : isO T .non = some false := by rw [← hT]; rfl
      have t0 : idx T (.int 0) = some (.int (t : Nat)) := by rw [← hT]; rfl
      have htl : t < bs.length := Nat.lt_of_lt_of_le (top_lt hq) (hb r hrm)
      have ib : idx (tupI bs) (.int (t : Nat)) = some (.int (bs.getD t 0)) := tup_nth (by
        rw [List.getElem?_map, List.getElem?_eq_getElem htl, List.getD_eq_getElem?_getD, List.getElem?_eq_getElem htl]
        rfl)
      have q : endMain ns.length bs st s = { s with state := wOff, first := firsts s.rows, jumps := List.replicate ns.length [], height := bs.getD t 0 + st } := by
        unfold endMain
        rw [ht, hq]
        simp [h1]
      have tf : b1 .tuple (natsL (firsts s.rows)) = some (tupN (firsts s.rows)) := rfl
      have tj : b1 .tuple (.lst (ns.map fun _ => D.str [])) = some (tupS (List.replicate ns.length [])) := by
        have : ns.map (fun _ => D.str []) = (List.replicate ns.length ([] : List Nat)).map D.str := by
          rw [List.map_replicate, List.map_const']
        rw [this]
        rfl
      have es : ∀ s' : Sd, (S.set a (sdC s'))[a]? = some (sdC s') := fun s' => set_at e
      have en2 : ∀ s' : Sd, (S.set a (sdC s'))[n]? = some (mtC ns bs st h ds us) := fun s' => by rw [set_other hne]; exact en
      have c3 : ∀ (F : Fns) (s' : Sd) (x y z u v w : Slot), F.fd = fdF → ev F (.comp (.cst (.str [])) (.name 8) (.seq (.fld (.var 0) 8)) [8]) [.val (.obj n), x, y, z, u, v, w, .emp, .emp] (S.set a (sdC s')) = .ok (.lst (ns.map fun _ => D.str [])) (S.set a (sdC s')) := fun F s' x y z u v w hF => by
        refine comp_map (l := ns) D.str (fun _ => D.str []) ?_ (by omega) fun r hr => ?_
        · rw [evIt, r_fld, r_var]
          simp [exs_cons, exs_nil, exsK_nx, exsK_ap, ex_ifs, ifK_t, ifK_f, ex_asg1, ex_asg, ex_ret, ex_expr, ex_pass, ex_new, r_var, varR_val, r_own, ownR_own, r_cst, r_glo, r_op, r_chain, r_neg, negR_some, r_nt, r_and, r_or, r_ite, r_lst, r_tup, r_idx, r_slc0, r_slc1, r_slc2, r_slc3, r_rev, r_f1, r_f2, r_meth, r_isi, r_call, callR_ok, r_callO, callO_ok, r_lmeth, lmR_count, lmR_index, r_nrng, nrR_int, r_lzip, ex_cpy, ex_par, ex_retF, tabY_fn, tabY_gl, r_nil, r_cons, tab_fn, tab_gl, tabX_fn, tabX_gl, look_hit, look_miss, r_fld, r_mth, mthR_ok, r_mk, mkR_ok, r_lenSet, r_isLT, eqNR_lst, r_eqN, r_dget, r_dcpy, stoR_some, ex_setf, ex_dput, tabZ_fn, tabZ_gl, tabZ_mt, tabZ_mk, tabZ_fd, bindT, op_add, op_sub, op_lt, op_le, op_gt, op_ge, op_eq, op_ne, op_in, op_nin, op_is, op_isn, small_ok, hF, g_names (en2 s')]
          rfl
        · simp [exs_cons, exs_nil, exsK_nx, exsK_ap, ex_ifs, ifK_t, ifK_f, ex_asg1, ex_asg, ex_ret, ex_expr, ex_pass, ex_new, r_var, varR_val, r_own, ownR_own, r_cst, r_glo, r_op, r_chain, r_neg, negR_some, r_nt, r_and, r_or, r_ite, r_lst, r_tup, r_idx, r_slc0, r_slc1, r_slc2, r_slc3, r_rev, r_f1, r_f2, r_meth, r_isi, r_call, callR_ok, r_callO, callO_ok, r_lmeth, lmR_count, lmR_index, r_nrng, nrR_int, r_lzip, ex_cpy, ex_par, ex_retF, tabY_fn, tabY_gl, r_nil, r_cons, tab_fn, tab_gl, tabX_fn, tabX_gl, look_hit, look_miss, r_fld, r_mth, mthR_ok, r_mk, mkR_ok, r_lenSet, r_isLT, eqNR_lst, r_eqN, r_dget, r_dcpy, stoR_some, ex_setf, ex_dput, tabZ_fn, tabZ_gl, tabZ_mt, tabZ_mk, tabZ_fd, bindT, op_add, op_sub, op_lt, op_le, op_gt, op_ge, op_eq, op_ne, op_in, op_nin, op_is, op_isn, small_ok, compF]
      rw [q]
      simp [exs_cons, exs_nil, exsK_nx, exsK_ap, ex_ifs, ifK_t, ifK_f, ex_asg1, ex_asg, ex_ret, ex_expr, ex_pass, ex_new, r_var, varR_val, r_own, ownR_own, r_cst, r_glo, r_op, r_chain, r_neg, negR_some, r_nt, r_and, r_or, r_ite, r_lst, r_tup, r_idx, r_slc0, r_slc1, r_slc2, r_slc3, r_rev, r_f1, r_f2, r_meth, r_isi, r_call, callR_ok, r_callO, callO_ok, r_lmeth, lmR_count, lmR_index, r_nrng, nrR_int, r_lzip, ex_cpy, ex_par, ex_retF, tabY_fn, tabY_gl, r_nil, r_cons, tab_fn, tab_gl, tabX_fn, tabX_gl, look_hit, look_miss, r_fld, r_mth, mthR_ok, r_mk, mkR_ok, r_lenSet, r_isLT, eqNR_lst, r_eqN, r_dget, r_dcpy, stoR_some, ex_setf, ex_dput, tabZ_fn, tabZ_gl, tabZ_mt, tabZ_mk, tabZ_fd, bindT, op_add, op_sub, op_lt, op_le, op_gt, op_ge, op_eq, op_ne, op_in, op_nin, op_is, op_isn, small_ok, b_Meet_end_main, c1, pl, c2, i0, g_rows e, i1, list_tup, sc, bl, qe, hi, of_, p_state e, p_first (es _), p_jumps (es _), p_height (es _), tf, c3, tj, t0, g_bars (en2 _), ib, g_step (en2 _), List.set_set]
end
/-! ### what comes behind a try of the main part -/
theorem eq_lnil (l : List D) (h : l.all (pl 19) = true) : eqO (.lst l) (.lst []) = some l.isEmpty := by
  rw [eq_plain (by simpa [pl] using h) rfl]
  cases l <;> simp [deq, deq.deqs]
theorem pairs_pl (l : List (Int × Int)) : (l.map pairD).all (pl 19) = true := by simp [pairD, pl]
theorem sortP_nil {l : List (Int × Int)} : sortP l = [] ↔ l = [] := by
  have := (sortP_perm l).length_eq
  constructor
  · intro h; rw [h] at this; exact List.eq_nil_of_length_eq_zero this.symm
  · intro h; rw [h]; rfl
def someIn (rows : List Row) : List Row := rows.filter fun r => decide (runOf r < 9)
def goOn (k : Nat) (bs : List Int) (st : Int) (s : Sd) : Sd :=
  if todoL s.rows = [] then (if someIn s.rows = [] ∨ (s.rows.headD []).length = bs.length then endMain k bs st s else { s with rows := s.rows.map (· ++ [[]]) }) else s
theorem end_state (k : Nat) (bs : List Int) (st : Int) (s : Sd) : (endMain k bs st s).state ≠ wMain := by
  unfold endMain
  cases topOf s.rows with
  | none => show wOver ≠ wMain; decide
  | some t =>
    simp only
    split
    · show wOver ≠ wMain; decide
    · show wOff ≠ wMain; decide
theorem end_state2 (k : Nat) (bs : List Int) (st : Int) (s : Sd) : (endMain k bs st s).state = wOver ∨ (endMain k bs st s).state = wOff := by
  unfold endMain
  cases topOf s.rows with
  | none => exact .inl rfl
  | some t =>
    simp only
    split
    · exact .inl rfl
    · exact .inr rfl
theorem run_lt {r : Row} (h : Good r) : runOf r < 9 ↔ runOf r < 3 := by
  rcases h.run with ⟨h1, _⟩ | ⟨h1, h2, h3⟩ <;> omega
theorem run_nn {r : Row} (h : Good r) : 0 ≤ runOf r ∧ runOf r ≤ 9 := by
  rcases h.run with ⟨h1, _⟩ | ⟨h1, h2, h3⟩ <;> omega
theorem run_snoc (r : Row) (m : List Nat) : runOf (r ++ [m]) = nxt (runOf r) m := by simp [runOf]
theorem run_pad {r : Row} (h : Good r) : runOf (r ++ [[]]) = runOf r := by
  have h1 := run_lt h
  have h2 := run_nn h
  rw [run_snoc]
  unfold nxt
  split
  · rfl
  · unfold rb
    rw [if_neg (by simp [cnt]; rcases h.run with ⟨k, _⟩ | ⟨k1, k2, k3⟩ <;> omega)]
    simp [cnt]
theorem last_pad (r : Row) : lastM (r ++ [[]]) = [] := by simp [lastM]
theorem todo_pad {rows : List Row} (hg : ∀ r ∈ rows, Good r) (h : someIn rows ≠ []) : todoL (rows.map (· ++ [[]])) ≠ [] := by
  obtain ⟨r, hr⟩ := List.exists_mem_of_ne_nil _ h
  obtain ⟨h1, h2⟩ := List.mem_filter.mp hr
  have h2 := of_decide_eq_true h2
  obtain ⟨i, hi, e⟩ := List.getElem_of_mem h1
  intro z
  have : (((0 : Nat) : Int), (i : Int)) ∈ todoL (rows.map (· ++ [[]])) := by
    unfold todoL
    rw [mem_enumO]
    refine ⟨i, r ++ [[]], by rw [List.getElem?_map, List.getElem?_eq_getElem hi, e]; rfl, ?_⟩
    unfold todoP
    rw [if_pos ⟨by rw [run_pad (hg r h1)]; exact h2, by rw [last_pad]; rfl⟩, last_pad]
    simp [cnt]
  rw [z] at this
  cases this
theorem whl_step {c : Env → Sto → R Bool} {f : Env → Sto → R Ct} {n : Nat} {ρ : Env} {S : Sto} : whileF c f (n + 1) ρ S = (c ρ S).then ρ fun t S => if t = true then (f ρ S).turn fun ρ S => whileF c f n ρ S else .ok (.nx ρ) S := by rw [whileF]
theorem whl_no {c : Env → Sto → R Bool} {f : Env → Sto → R Ct} {n : Nat} {ρ : Env} {S S' : Sto} (h : c ρ S = .ok false S') : whileF c f (n + 1) ρ S = .ok (.nx ρ) S' := by rw [whl_step, h]; rfl
theorem whl_yes {c : Env → Sto → R Bool} {f : Env → Sto → R Ct} {n : Nat} {ρ ρ' : Env} {S S' S2 : Sto} (h : c ρ S = .ok true S') (hf : f ρ S' = .ok (.nx ρ') S2) : whileF c f (n + 1) ρ S = whileF c f n ρ' S2 := by rw [whl_step, h, R.then_ok, if_pos rfl, hf]; rfl
def goC : Ex := (.and (.op .eq (.fld (.var 1) 1) (.cst (.str [109, 97, 105, 110]))) (.op .eq (.mth (.var 0) 307 (.cons (.var 1) .nil)) (.lst .nil)))
def goB : Sms := (.cons (.asg (.name 2) (.compIf (.var 3) (.name 3) (.seq (.fld (.var 1) 0)) (.op .lt (.call 6 (.cons (.var 3) .nil)) (.cst (.int 9))) [3])) (.cons (.ifs (.or (.op .eq (.var 2) (.lst .nil)) (.op .eq (.f1 .len (.idx (.fld (.var 1) 0) (.cst (.int 0)))) (.f1 .len (.fld (.var 0) 9)))) (.cons (.expr (.mth (.var 0) 310 (.cons (.var 1) .nil))) .nil) (.cons (.setf (.var 1) 0 (.f1 .tuple (.comp (.op .add (.var 3) (.tup (.cons (.cst (.str [])) .nil))) (.name 3) (.seq (.fld (.var 1) 0)) [3]))) .nil)) .nil))
theorem b_go : b_Meet_go_on = .cons (.whl goC goB) .nil := rfl
section
variable {S : Sto} {a n : Nat} {s : Sd} {ns : List (List Nat)} {bs : List Int} {st : Int} {h : Nat} {ds us : List Nat}
theorem go_cond {F : Fns} (hF : F.fd = fdF) (hM : F.mt 307 = some (12, 39, fn_Meet_todo)) (x y : Slot) (en : S[n]? = some (mtC ns bs st h ds us)) (e : S[a]? = some (sdC s)) (f : Fit s) :
    (ev F goC [.val (.obj n), .val (.obj a), x, y] S).bind asB = .ok (decide (s.state = wMain ∧ todoL s.rows = [])) S := by
  unfold goC
  have td := todo_ok (n := n) e f
  have q := eq_lnil _ (pairs_pl (sortP (todoL s.rows)))
  have q0 : eqO (.str s.state) (.str [109, 97, 105, 110]) = some (decide (s.state = wMain)) := s_eqd _ _
  by_cases hm : s.state = wMain
  · rw [decide_eq_true hm] at q0
    by_cases ht : todoL s.rows = []
    · have : (sortP (todoL s.rows)).map pairD = [] := by rw [sortP_nil.mpr ht]; rfl
      rw [this] at q td
      rw [decide_eq_true ⟨hm, ht⟩]
      simp [exs_cons, exs_nil, exsK_nx, exsK_ap, ex_ifs, ifK_t, ifK_f, ex_asg1, ex_asg, ex_ret, ex_expr, ex_pass, ex_new, r_var, varR_val, r_own, ownR_own, r_cst, r_glo, r_op, r_chain, r_neg, negR_some, r_nt, r_and, r_or, r_ite, r_lst, r_tup, r_idx, r_slc0, r_slc1, r_slc2, r_slc3, r_rev, r_f1, r_f2, r_meth, r_isi, r_call, callR_ok, r_callO, callO_ok, r_lmeth, lmR_count, lmR_index, r_nrng, nrR_int, r_lzip, ex_cpy, ex_par, ex_retF, tabY_fn, tabY_gl, r_nil, r_cons, tab_fn, tab_gl, tabX_fn, tabX_gl, look_hit, look_miss, r_fld, r_mth, mthR_ok, r_mk, mkR_ok, r_lenSet, r_isLT, eqNR_lst, r_eqN, r_dget, r_dcpy, stoR_some, ex_setf, ex_dput, tabZ_fn, tabZ_gl, tabZ_mt, tabZ_mk, tabZ_fd, bindT, op_add, op_sub, op_lt, op_le, op_gt, op_ge, op_eq, op_ne, op_in, op_nin, op_is, op_isn, small_ok, hF, hM, g_state e, q0, is_meet en, td, q]
    · have : ((sortP (todoL s.rows)).map pairD).isEmpty = false := by
        cases hz : sortP (todoL s.rows) with
        | nil => exact absurd (sortP_nil.mp hz) ht
        | cons _ _ => rfl
      rw [this] at q
      rw [decide_eq_false fun z => ht z.2]
      simp [exs_cons, exs_nil, exsK_nx, exsK_ap, ex_ifs, ifK_t, ifK_f, ex_asg1, ex_asg, ex_ret, ex_expr, ex_pass, ex_new, r_var, varR_val, r_own, ownR_own, r_cst, r_glo, r_op, r_chain, r_neg, negR_some, r_nt, r_and, r_or, r_ite, r_lst, r_tup, r_idx, r_slc0, r_slc1, r_slc2, r_slc3, r_rev, r_f1, r_f2, r_meth, r_isi, r_call, callR_ok, r_callO, callO_ok, r_lmeth, lmR_count, lmR_index, r_nrng, nrR_int, r_lzip, ex_cpy, ex_par, ex_retF, tabY_fn, tabY_gl, r_nil, r_cons, tab_fn, tab_gl, tabX_fn, tabX_gl, look_hit, look_miss, r_fld, r_mth, mthR_ok, r_mk, mkR_ok, r_lenSet, r_isLT, eqNR_lst, r_eqN, r_dget, r_dcpy, stoR_some, ex_setf, ex_dput, tabZ_fn, tabZ_gl, tabZ_mt, tabZ_mk, tabZ_fd, bindT, op_add, op_sub, op_lt, op_le, op_gt, op_ge, op_eq, op_ne, op_in, op_nin, op_is, op_isn, small_ok, hF, hM, g_state e, q0, is_meet en, td, q]
  · rw [decide_eq_false hm] at q0
    rw [decide_eq_false fun z => hm z.1]
    simp [exs_cons, exs_nil, exsK_nx, exsK_ap, ex_ifs, ifK_t, ifK_f, ex_asg1, ex_asg, ex_ret, ex_expr, ex_pass, ex_new, r_var, varR_val, r_own, ownR_own, r_cst, r_glo, r_op, r_chain, r_neg, negR_some, r_nt, r_and, r_or, r_ite, r_lst, r_tup, r_idx, r_slc0, r_slc1, r_slc2, r_slc3, r_rev, r_f1, r_f2, r_meth, r_isi, r_call, callR_ok, r_callO, callO_ok, r_lmeth, lmR_count, lmR_index, r_nrng, nrR_int, r_lzip, ex_cpy, ex_par, ex_retF, tabY_fn, tabY_gl, r_nil, r_cons, tab_fn, tab_gl, tabX_fn, tabX_gl, look_hit, look_miss, r_fld, r_mth, mthR_ok, r_mk, mkR_ok, r_lenSet, r_isLT, eqNR_lst, r_eqN, r_dget, r_dcpy, stoR_some, ex_setf, ex_dput, tabZ_fn, tabZ_gl, tabZ_mt, tabZ_mk, tabZ_fd, bindT, op_add, op_sub, op_lt, op_le, op_gt, op_ge, op_eq, op_ne, op_in, op_nin, op_is, op_isn, small_ok, hF, hM, g_state e, q0]
theorem go_on_ok (en : S[n]? = some (mtC ns bs st h ds us)) (e : S[a]? = some (sdC s)) (f : Fit s) (g : ∀ r ∈ s.rows, Good r) (hn0 : s.rows ≠ []) (hb : ∀ r ∈ s.rows, r.length ≤ bs.length) (hsame : ∀ r ∈ s.rows, r.length = (s.rows.headD []).length) (hb12 : bs.length ≤ 12) (hns : ns.length ≤ 1000) (hm : s.state = wMain) :
    fn_Meet_go_on [.obj n, .obj a] S = .ok .non (S.set a (sdC (goOn ns.length bs st s))) := by
  have hne := two_kinds e en
  (unfold fn_Meet_go_on; simp only [fn1, fn2, fn3, fn4, fF1, fF2, Nat.reduceSub, List.replicate_succ, List.replicate_zero])
  generalize hF : tabZ [(6, fn_run_of)] [] [] [] fdAll [(307, 12, 39, fn_Meet_todo), (310, 12, 20, fn_Meet_end_main)] [] [] = F
  have F1 : F.fd = fdF := by rw [← hF]; rfl
  have F2 : F.mt 307 = some (12, 39, fn_Meet_todo) := by rw [← hF]; rfl
  have F3 : F.mt 310 = some (12, 20, fn_Meet_end_main) := by rw [← hF]; rfl
  have F4 : F.fn 6 = some fn_run_of := by rw [← hF]; rfl
  have gc := go_cond F1 F2 .emp .emp en e f
  by_cases ht : todoL s.rows = []
  · rw [decide_eq_true ⟨hm, ht⟩] at gc
    obtain ⟨r0, rest, hr0⟩ : ∃ r0 rest, s.rows = r0 :: rest := by
      cases q : s.rows with
      | nil => exact absurd q hn0
      | cons r0 rest => exact ⟨r0, rest, rfl⟩
    have hh : s.rows.headD [] = r0 := by rw [hr0]; rfl
    have c1 : ev F (.compIf (.var 3) (.name 3) (.seq (.fld (.var 1) 0)) (.op .lt (.call 6 (.cons (.var 3) .nil)) (.cst (.int 9))) [3]) [.val (.obj n), .val (.obj a), .emp, .emp] S = .ok (.lst ((someIn s.rows).map tupS)) S := by
      refine compIf_map (l := s.rows) tupS tupS (fun r => decide (runOf r < 9)) ?_ (by have := f.few; omega) fun r hr => ?_
      · rw [evIt, r_fld, r_var]
        simp [exs_cons, exs_nil, exsK_nx, exsK_ap, ex_ifs, ifK_t, ifK_f, ex_asg1, ex_asg, ex_ret, ex_expr, ex_pass, ex_new, r_var, varR_val, r_own, ownR_own, r_cst, r_glo, r_op, r_chain, r_neg, negR_some, r_nt, r_and, r_or, r_ite, r_lst, r_tup, r_idx, r_slc0, r_slc1, r_slc2, r_slc3, r_rev, r_f1, r_f2, r_meth, r_isi, r_call, callR_ok, r_callO, callO_ok, r_lmeth, lmR_count, lmR_index, r_nrng, nrR_int, r_lzip, ex_cpy, ex_par, ex_retF, tabY_fn, tabY_gl, r_nil, r_cons, tab_fn, tab_gl, tabX_fn, tabX_gl, look_hit, look_miss, r_fld, r_mth, mthR_ok, r_mk, mkR_ok, r_lenSet, r_isLT, eqNR_lst, r_eqN, r_dget, r_dcpy, stoR_some, ex_setf, ex_dput, tabZ_fn, tabZ_gl, tabZ_mt, tabZ_mk, tabZ_fd, bindT, op_add, op_sub, op_lt, op_le, op_gt, op_ge, op_eq, op_ne, op_in, op_nin, op_is, op_isn, small_ok, F1, g_rows e]
        rfl
      · have ro := run_of_tup r S
        by_cases q : runOf r < 9
        · simp [exs_cons, exs_nil, exsK_nx, exsK_ap, ex_ifs, ifK_t, ifK_f, ex_asg1, ex_asg, ex_ret, ex_expr, ex_pass, ex_new, r_var, varR_val, r_own, ownR_own, r_cst, r_glo, r_op, r_chain, r_neg, negR_some, r_nt, r_and, r_or, r_ite, r_lst, r_tup, r_idx, r_slc0, r_slc1, r_slc2, r_slc3, r_rev, r_f1, r_f2, r_meth, r_isi, r_call, callR_ok, r_callO, callO_ok, r_lmeth, lmR_count, lmR_index, r_nrng, nrR_int, r_lzip, ex_cpy, ex_par, ex_retF, tabY_fn, tabY_gl, r_nil, r_cons, tab_fn, tab_gl, tabX_fn, tabX_gl, look_hit, look_miss, r_fld, r_mth, mthR_ok, r_mk, mkR_ok, r_lenSet, r_isLT, eqNR_lst, r_eqN, r_dget, r_dcpy, stoR_some, ex_setf, ex_dput, tabZ_fn, tabZ_gl, tabZ_mt, tabZ_mk, tabZ_fd, bindT, op_add, op_sub, op_lt, op_le, op_gt, op_ge, op_eq, op_ne, op_in, op_nin, op_is, op_isn, small_ok, compIfF, noOwn, wipe, F4, ro, q]
        · simp [exs_cons, exs_nil, exsK_nx, exsK_ap, ex_ifs, ifK_t, ifK_f, ex_asg1, ex_asg, ex_ret, ex_expr, ex_pass, ex_new, r_var, varR_val, r_own, ownR_own, r_cst, r_glo, r_op, r_chain, r_neg, negR_some, r_nt, r_and, r_or, r_ite, r_lst, r_tup, r_idx, r_slc0, r_slc1, r_slc2, r_slc3, r_rev, r_f1, r_f2, r_meth, r_isi, r_call, callR_ok, r_callO, callO_ok, r_lmeth, lmR_count, lmR_index, r_nrng, nrR_int, r_lzip, ex_cpy, ex_par, ex_retF, tabY_fn, tabY_gl, r_nil, r_cons, tab_fn, tab_gl, tabX_fn, tabX_gl, look_hit, look_miss, r_fld, r_mth, mthR_ok, r_mk, mkR_ok, r_lenSet, r_isLT, eqNR_lst, r_eqN, r_dget, r_dcpy, stoR_some, ex_setf, ex_dput, tabZ_fn, tabZ_gl, tabZ_mt, tabZ_mk, tabZ_fd, bindT, op_add, op_sub, op_lt, op_le, op_gt, op_ge, op_eq, op_ne, op_in, op_nin, op_is, op_isn, small_ok, compIfF, noOwn, wipe, F4, ro, q]
    have q1 : eqO (.lst ((someIn s.rows).map tupS)) (.lst []) = some (decide (someIn s.rows = [])) := by
      rw [eq_lnil _ (by simp [tupS, pl])]
      cases someIn s.rows <;> simp
    have i0 : idx (rowsT s.rows) (.int 0) = some (tupS r0) := by rw [hr0]; exact tup_nth (i := 0) rfl
    have l1 : b1 .len (tupS r0) = some (.int (r0.length : Nat)) := by simp [tupS, b1]
    have l2 : b1 .len (tupI bs) = some (.int (bs.length : Nat)) := by simp [tupI, b1]
    have q2 : eqO (.int (r0.length : Nat)) (.int (bs.length : Nat)) = some (decide (r0.length = bs.length)) := by
      rw [i_eq]
      congr 1
      simp only [decide_eq_decide]
      omega
    have em := end_main_ok en e f g hn0 hb hns
    by_cases hend : someIn s.rows = [] ∨ (s.rows.headD []).length = bs.length
    · have hg : goOn ns.length bs st s = endMain ns.length bs st s := by simp only [goOn, ht, hend, if_true]
      have e2 := set_at (c' := sdC (endMain ns.length bs st s)) e
      have en2 : (S.set a (sdC (endMain ns.length bs st s)))[n]? = some (mtC ns bs st h ds us) := by rw [set_other hne]; exact en
      have fit2 : Fit (endMain ns.length bs st s) := by
        have hr : (endMain ns.length bs st s).rows = s.rows := by
          unfold endMain
          cases topOf s.rows with
          | none => rfl
          | some t => simp only; split <;> rfl
        exact ⟨by rw [hr]; exact f.ne, by rw [hr]; exact f.few, by rw [hr]; exact f.sh, by rw [hr]; exact f.len⟩
      have gc2 := go_cond F1 F2 (.val (.lst ((someIn s.rows).map tupS))) .emp en2 e2 fit2
      rw [decide_eq_false fun z => end_state ns.length bs st s z.1] at gc2
      rw [hg]
      have body : exs F goB [.val (.obj n), .val (.obj a), .emp, .emp] S = .ok (.nx [.val (.obj n), .val (.obj a), .val (.lst ((someIn s.rows).map tupS)), .emp]) (S.set a (sdC (endMain ns.length bs st s))) := by
        unfold goB
        by_cases hs : someIn s.rows = []
        · rw [decide_eq_true hs] at q1
          simp [exs_cons, exs_nil, exsK_nx, exsK_ap, ex_ifs, ifK_t, ifK_f, ex_asg1, ex_asg, ex_ret, ex_expr, ex_pass, ex_new, r_var, varR_val, r_own, ownR_own, r_cst, r_glo, r_op, r_chain, r_neg, negR_some, r_nt, r_and, r_or, r_ite, r_lst, r_tup, r_idx, r_slc0, r_slc1, r_slc2, r_slc3, r_rev, r_f1, r_f2, r_meth, r_isi, r_call, callR_ok, r_callO, callO_ok, r_lmeth, lmR_count, lmR_index, r_nrng, nrR_int, r_lzip, ex_cpy, ex_par, ex_retF, tabY_fn, tabY_gl, r_nil, r_cons, tab_fn, tab_gl, tabX_fn, tabX_gl, look_hit, look_miss, r_fld, r_mth, mthR_ok, r_mk, mkR_ok, r_lenSet, r_isLT, eqNR_lst, r_eqN, r_dget, r_dcpy, stoR_some, ex_setf, ex_dput, tabZ_fn, tabZ_gl, tabZ_mt, tabZ_mk, tabZ_fd, bindT, op_add, op_sub, op_lt, op_le, op_gt, op_ge, op_eq, op_ne, op_in, op_nin, op_is, op_isn, small_ok, F1, F3, c1, q1, is_meet en, em]
        · have hl : r0.length = bs.length := by rw [← hh]; exact hend.resolve_left hs
          rw [decide_eq_false hs] at q1
          rw [decide_eq_true hl] at q2
          simp [exs_cons, exs_nil, exsK_nx, exsK_ap, ex_ifs, ifK_t, ifK_f, ex_asg1, ex_asg, ex_ret, ex_expr, ex_pass, ex_new, r_var, varR_val, r_own, ownR_own, r_cst, r_glo, r_op, r_chain, r_neg, negR_some, r_nt, r_and, r_or, r_ite, r_lst, r_tup, r_idx, r_slc0, r_slc1, r_slc2, r_slc3, r_rev, r_f1, r_f2, r_meth, r_isi, r_call, callR_ok, r_callO, callO_ok, r_lmeth, lmR_count, lmR_index, r_nrng, nrR_int, r_lzip, ex_cpy, ex_par, ex_retF, tabY_fn, tabY_gl, r_nil, r_cons, tab_fn, tab_gl, tabX_fn, tabX_gl, look_hit, look_miss, r_fld, r_mth, mthR_ok, r_mk, mkR_ok, r_lenSet, r_isLT, eqNR_lst, r_eqN, r_dget, r_dcpy, stoR_some, ex_setf, ex_dput, tabZ_fn, tabZ_gl, tabZ_mt, tabZ_mk, tabZ_fd, bindT, op_add, op_sub, op_lt, op_le, op_gt, op_ge, op_eq, op_ne, op_in, op_nin, op_is, op_isn, small_ok, F1, F3, c1, q1, g_rows e, i0, l1, g_bars en, l2, q2, is_meet en, em]
      have hw := (whl_yes (c := fun ρ S => (ev F goC ρ S).bind asB) (f := fun ρ S => exs F goB ρ S) (n := 199) gc body).trans (whl_no (c := fun ρ S => (ev F goC ρ S).bind asB) (f := fun ρ S => exs F goB ρ S) (n := 198) gc2)
      rw [b_go, exs_cons, ex]
      exact congrArg (fun z : R Ct => (z.next (exsK F .nil)).ends) hw
    · have hg : goOn ns.length bs st s = { s with rows := s.rows.map (· ++ [[]]) } := by simp only [goOn, ht, hend, if_true, if_false]
      have hs : someIn s.rows ≠ [] := fun z => hend (.inl z)
      have hl : r0.length ≠ bs.length := fun z => hend (.inr (by rw [hh]; exact z))
      rw [hg]
      have tp : b1 .tuple (.lst (s.rows.map fun r => tupS (r ++ [[]]))) = some (rowsT (s.rows.map (· ++ [[]]))) := by
        show some (D.tup _) = _
        simp [rowsT, List.map_map, Function.comp_def]
      have c2 : ∀ x : Slot, ev F (.comp (.op .add (.var 3) (.tup (.cons (.cst (.str [])) .nil))) (.name 3) (.seq (.fld (.var 1) 0)) [3]) [.val (.obj n), .val (.obj a), x, .emp] S = .ok (.lst (s.rows.map fun r => tupS (r ++ [[]]))) S := fun x => by
        refine comp_map (l := s.rows) tupS (fun r => tupS (r ++ [[]])) ?_ (by have := f.few; omega) fun r hr => ?_
        · rw [evIt, r_fld, r_var]
          simp [exs_cons, exs_nil, exsK_nx, exsK_ap, ex_ifs, ifK_t, ifK_f, ex_asg1, ex_asg, ex_ret, ex_expr, ex_pass, ex_new, r_var, varR_val, r_own, ownR_own, r_cst, r_glo, r_op, r_chain, r_neg, negR_some, r_nt, r_and, r_or, r_ite, r_lst, r_tup, r_idx, r_slc0, r_slc1, r_slc2, r_slc3, r_rev, r_f1, r_f2, r_meth, r_isi, r_call, callR_ok, r_callO, callO_ok, r_lmeth, lmR_count, lmR_index, r_nrng, nrR_int, r_lzip, ex_cpy, ex_par, ex_retF, tabY_fn, tabY_gl, r_nil, r_cons, tab_fn, tab_gl, tabX_fn, tabX_gl, look_hit, look_miss, r_fld, r_mth, mthR_ok, r_mk, mkR_ok, r_lenSet, r_isLT, eqNR_lst, r_eqN, r_dget, r_dcpy, stoR_some, ex_setf, ex_dput, tabZ_fn, tabZ_gl, tabZ_mt, tabZ_mk, tabZ_fd, bindT, op_add, op_sub, op_lt, op_le, op_gt, op_ge, op_eq, op_ne, op_in, op_nin, op_is, op_isn, small_ok, F1, g_rows e]
          rfl
        · have ad : op2 .add (tupS r) (.tup [.str []]) = some (tupS (r ++ [[]])) := by
            unfold tupS
            rw [add_T _ _ (by have := f.len r hr; simp; omega)]
            simp
          cases x <;> simp [exs_cons, exs_nil, exsK_nx, exsK_ap, ex_ifs, ifK_t, ifK_f, ex_asg1, ex_asg, ex_ret, ex_expr, ex_pass, ex_new, r_var, varR_val, r_own, ownR_own, r_cst, r_glo, r_op, r_chain, r_neg, negR_some, r_nt, r_and, r_or, r_ite, r_lst, r_tup, r_idx, r_slc0, r_slc1, r_slc2, r_slc3, r_rev, r_f1, r_f2, r_meth, r_isi, r_call, callR_ok, r_callO, callO_ok, r_lmeth, lmR_count, lmR_index, r_nrng, nrR_int, r_lzip, ex_cpy, ex_par, ex_retF, tabY_fn, tabY_gl, r_nil, r_cons, tab_fn, tab_gl, tabX_fn, tabX_gl, look_hit, look_miss, r_fld, r_mth, mthR_ok, r_mk, mkR_ok, r_lenSet, r_isLT, eqNR_lst, r_eqN, r_dget, r_dcpy, stoR_some, ex_setf, ex_dput, tabZ_fn, tabZ_gl, tabZ_mt, tabZ_mk, tabZ_fd, bindT, op_add, op_sub, op_lt, op_le, op_gt, op_ge, op_eq, op_ne, op_in, op_nin, op_is, op_isn, small_ok, compF, noOwn, wipe, ad]
      have e2 := set_at (c' := sdC { s with rows := s.rows.map (· ++ [[]]) }) e
      have en2 : (S.set a (sdC { s with rows := s.rows.map (· ++ [[]]) }))[n]? = some (mtC ns bs st h ds us) := by rw [set_other hne]; exact en
      have fit2 : Fit { s with rows := s.rows.map (· ++ [[]]) } := by
        refine ⟨fun r hr => ?_, by simpa using f.few, fun r hr m hm => ?_, fun r hr => ?_⟩
        · obtain ⟨z, hz, rfl⟩ := List.mem_map.mp hr
          simp
        · obtain ⟨z, hz, rfl⟩ := List.mem_map.mp hr
          rcases List.mem_append.mp hm with hm | hm
          · exact f.sh z hz m hm
          · rw [List.mem_singleton.mp hm]; simp
        · obtain ⟨z, hz, rfl⟩ := List.mem_map.mp hr
          have h1 := hsame z hz
          have h2 := hb r0 (by rw [hr0]; simp)
          rw [hh] at h1
          simp
          omega
      have gc2 := go_cond F1 F2 (.val (.lst ((someIn s.rows).map tupS))) .emp en2 e2 fit2
      rw [decide_eq_false fun z => todo_pad g hs z.2] at gc2
      rw [decide_eq_false hs] at q1
      rw [decide_eq_false hl] at q2
      have body : exs F goB [.val (.obj n), .val (.obj a), .emp, .emp] S = .ok (.nx [.val (.obj n), .val (.obj a), .val (.lst ((someIn s.rows).map tupS)), .emp]) (S.set a (sdC { s with rows := s.rows.map (· ++ [[]]) })) := by
        unfold goB
        simp [exs_cons, exs_nil, exsK_nx, exsK_ap, ex_ifs, ifK_t, ifK_f, ex_asg1, ex_asg, ex_ret, ex_expr, ex_pass, ex_new, r_var, varR_val, r_own, ownR_own, r_cst, r_glo, r_op, r_chain, r_neg, negR_some, r_nt, r_and, r_or, r_ite, r_lst, r_tup, r_idx, r_slc0, r_slc1, r_slc2, r_slc3, r_rev, r_f1, r_f2, r_meth, r_isi, r_call, callR_ok, r_callO, callO_ok, r_lmeth, lmR_count, lmR_index, r_nrng, nrR_int, r_lzip, ex_cpy, ex_par, ex_retF, tabY_fn, tabY_gl, r_nil, r_cons, tab_fn, tab_gl, tabX_fn, tabX_gl, look_hit, look_miss, r_fld, r_mth, mthR_ok, r_mk, mkR_ok, r_lenSet, r_isLT, eqNR_lst, r_eqN, r_dget, r_dcpy, stoR_some, ex_setf, ex_dput, tabZ_fn, tabZ_gl, tabZ_mt, tabZ_mk, tabZ_fd, bindT, op_add, op_sub, op_lt, op_le, op_gt, op_ge, op_eq, op_ne, op_in, op_nin, op_is, op_isn, small_ok, F1, F3, c1, q1, g_rows e, i0, l1, g_bars en, l2, q2, c2, tp, p_rows e]
      have hw := (whl_yes (c := fun ρ S => (ev F goC ρ S).bind asB) (f := fun ρ S => exs F goB ρ S) (n := 199) gc body).trans (whl_no (c := fun ρ S => (ev F goC ρ S).bind asB) (f := fun ρ S => exs F goB ρ S) (n := 198) gc2)
      rw [b_go, exs_cons, ex]
      exact congrArg (fun z : R Ct => (z.next (exsK F .nil)).ends) hw
  · rw [decide_eq_false fun z => ht z.2] at gc
    have hg : goOn ns.length bs st s = s := by simp only [goOn, ht, if_false]
    rw [hg]
    have hS : S.set a (sdC s) = S := by
      apply List.ext_getElem?
      intro i
      by_cases q : a = i
      · subst q; rw [set_at e, e]
      · rw [set_other q]
    rw [hS]
    have hw := whl_no (c := fun ρ S => (ev F goC ρ S).bind asB) (f := fun ρ S => exs F goB ρ S) (n := 199) gc
    rw [b_go, exs_cons, ex]
    exact congrArg (fun z : R Ct => (z.next (exsK F .nil)).ends) hw
end
/-! ### a try of the main part -/
theorem joinS (a b : List Nat) (h : a.length + b.length ≤ 1000000) : op2 .add (.str a) (.str b) = some (.str (a ++ b)) := by
  show (if a.length + b.length ≤ lim then some (D.str (a ++ b)) else none) = _
  rw [if_pos (show a.length + b.length ≤ lim from h)]
theorem slcT_lo (l : List D) (i : Nat) : slc (.tup l) none (some (i : Int)) = some (.tup (l.take i)) := by
  have : ¬ (i : Int) < 0 := by omega
  simp only [slc, cut, sx, this, if_false, List.drop_zero, Nat.sub_zero, Int.toNat_natCast]
  congr 2
  rcases Nat.le_total i l.length with h | h
  · rw [Nat.min_eq_left h]
  · rw [Nat.min_eq_right h, List.take_of_length_le (Nat.le_refl _), List.take_of_length_le h]
theorem slcT_hi (l : List D) (i : Nat) : slc (.tup l) (some (i : Int)) none = some (.tup (l.drop i)) := by
  have : ¬ (i : Int) < 0 := by omega
  simp only [slc, cut, sx, this, if_false, Int.toNat_natCast]
  congr 2
  rcases Nat.le_total i l.length with h | h
  · rw [Nat.min_eq_left h, List.take_of_length_le (by simp)]
  · rw [Nat.min_eq_right h, List.drop_of_length_le (Nat.le_refl _), List.drop_of_length_le h]
    simp
theorem slcT_init (l : List D) : slc (.tup l) none (some (-1)) = some (.tup l.dropLast) := by
  simp only [slc, cut, sx, List.drop_zero, Nat.sub_zero]
  rw [if_pos (by omega), List.dropLast_eq_take]
  congr 3
  omega
theorem set_cut {α : Type} {l : List α} {i : Nat} {x : α} (h : i < l.length) : l.take i ++ [x] ++ l.drop (i + 1) = l.set i x := by
  rw [List.set_eq_take_append_cons_drop, if_pos h]
  simp
def putRow (r : Row) (c : List Nat) : Row := r.dropLast ++ [lastM r ++ c]
def putMain (k : Nat) (bs : List Int) (st : Int) (s : Sd) (c : List Nat) : Sd :=
  goOn k bs st { s with rows := s.rows.set (nextM s) (putRow (s.rows.getD (nextM s) []) c), deeds := s.deeds ++ [c] }
section
variable {S : Sto} {a n : Nat} {s : Sd} {ns : List (List Nat)} {bs : List Int} {st : Int} {h : Nat} {ds us : List Nat}
theorem put_main_ok (en : S[n]? = some (mtC ns bs st h ds us)) (eh : S[h]? = some (sdC s)) (f : Fit s) (hm : s.state = wMain) (ht : todoL s.rows ≠ []) (hd : s.deeds.length ≤ 900) (hds : ds.length ≤ 900) (c : List Nat) (hc : c.length ≤ 5)
    (f2 : Fit { s with rows := s.rows.set (nextM s) (putRow (s.rows.getD (nextM s) []) c), deeds := s.deeds ++ [c] })
    (g2 : ∀ r ∈ s.rows.set (nextM s) (putRow (s.rows.getD (nextM s) []) c), Good r) (hb : ∀ r ∈ s.rows.set (nextM s) (putRow (s.rows.getD (nextM s) []) c), r.length ≤ bs.length)
    (hsame : ∀ r ∈ s.rows.set (nextM s) (putRow (s.rows.getD (nextM s) []) c), r.length = ((s.rows.set (nextM s) (putRow (s.rows.getD (nextM s) []) c)).headD []).length) (hb12 : bs.length ≤ 12) (hns : ns.length ≤ 1000) :
    fn_Meet_put [.obj n, .str c] S = .ok (.str (lastM (s.rows.getD (nextM s) []) ++ c)) ((S ++ [sdC (putMain ns.length bs st s c)]).set n (mtC ns bs st S.length (ds ++ [h]) [])) := by
  obtain ⟨r, t, hr, h1, h2, h3⟩ := next_spec ht
  have hrm := List.mem_of_getElem? hr
  have hgd : s.rows.getD (nextM s) [] = r := by rw [List.getD_eq_getElem?_getD, hr]; rfl
  have hlt : nextM s < s.rows.length := (List.getElem?_eq_some_iff.mp hr).1
  unfold putMain
  rw [hgd] at f2 g2 hb hsame ⊢
  have hnl := lt_of en
  -- the twin
  have tw := stand_twin eh
  have en1 : ∀ c : Cell, (S ++ [c])[n]? = some (mtC ns bs st h ds us) := fun c => app_old en
  have e1 : ∀ s' : Sd, (S ++ [sdC s'])[S.length]? = some (sdC s') := fun s' => app_new
  have st1 : ∀ (s' : Sd) (c : Cell), (S ++ [sdC s']).set S.length c = S ++ [c] := fun s' c => by simp
  have fo := following_main (en1 (sdC s)) (e1 s) f hm ht
  have q0 : eqO (.str s.state) (.str [109, 97, 105, 110]) = some true := by rw [s_eqd, hm]; rfl
  have i1 : idx (rowsT s.rows) (.int (nextM s : Nat)) = some (tupS r) := tup_nth (by rw [List.getElem?_map, hr]; rfl)
  have l1 := last_tup (f.ne r hrm)
  have l3 := last_len (f.sh r hrm)
  have a1 := joinS (lastM r) c (by omega)
  have few := f.few
  have rl := f.len r hrm
  have z1 : slc (rowsT s.rows) none (some (nextM s : Int)) = some (.tup ((s.rows.map tupS).take (nextM s))) := slcT_lo _ _
  have z2 : slc (rowsT s.rows) (some ((nextM s : Int) + 1)) none = some (.tup ((s.rows.map tupS).drop (nextM s + 1))) := slcT_hi _ (nextM s + 1)
  have z3 : slc (tupS r) none (some (-1)) = some (.tup ((r.map D.str).dropLast)) := slcT_init _
  have a2 : op2 .add (.tup ((r.map D.str).dropLast)) (.tup [.str (lastM r ++ c)]) = some (tupS (putRow r c)) := by
    rw [add_T _ _ (by simp; omega)]
    simp [tupS, putRow, List.map_dropLast]
  have a3 : op2 .add (.tup ((s.rows.map tupS).take (nextM s))) (.tup [tupS (putRow r c)]) = some (.tup ((s.rows.map tupS).take (nextM s) ++ [tupS (putRow r c)])) := add_T _ _ (by simp; omega)
  have a4 : op2 .add (.tup ((s.rows.map tupS).take (nextM s) ++ [tupS (putRow r c)])) (.tup ((s.rows.map tupS).drop (nextM s + 1))) = some (rowsT (s.rows.set (nextM s) (putRow r c))) := by
    rw [add_T _ _ (by simp; omega), set_cut (by simpa using hlt)]
    simp [rowsT, List.map_set]
  -- the deed
  have tt := turn_to_ok (en1 (sdC { s with rows := s.rows.set (nextM s) (putRow r c) })) (e1 _) c hd hds
  have st2 : ∀ (c1 c2 : Cell) , ((S ++ [c1]).set n c2).set S.length (sdC s) = (S ++ [sdC s]).set n c2 := fun c1 c2 => by
    rw [List.set_comm _ _ (Nat.ne_of_lt hnl)]
    simp
  have e3 : ∀ (c1 : Cell) (s' : Sd), ((S ++ [sdC s']).set n c1)[S.length]? = some (sdC s') := fun c1 s' => by
    rw [set_other (Nat.ne_of_lt hnl)]; exact app_new
  have en3 : ∀ (s' : Sd) (c1 : Cell), ((S ++ [sdC s']).set n c1)[n]? = some c1 := fun s' c1 => set_at (en1 _)
  have go := go_on_ok (en3 { s with rows := s.rows.set (nextM s) (putRow r c), deeds := s.deeds ++ [c] } (mtC ns bs st S.length (ds ++ [h]) [])) (e3 _ _) f2 g2 (by simpa using List.ne_nil_of_mem hrm) hb hsame hb12 hns hm
  have st3 : ∀ (s1 s2 : Sd) (c1 : Cell), ((S ++ [sdC s1]).set n c1).set S.length (sdC s2) = (S ++ [sdC s2]).set n c1 := fun s1 s2 c1 => by
    rw [List.set_comm _ _ (Nat.ne_of_lt hnl)]
    simp
  rw [st3] at go
  rw [st1] at tt
  (unfold fn_Meet_put; simp only [fn1, fn2, fn3, fn4, fF1, fF2, Nat.reduceSub, List.replicate_succ, List.replicate_zero])
  simp [exs_cons, exs_nil, exsK_nx, exsK_ap, ex_ifs, ifK_t, ifK_f, ex_asg1, ex_asg, ex_ret, ex_expr, ex_pass, ex_new, r_var, varR_val, r_own, ownR_own, r_cst, r_glo, r_op, r_chain, r_neg, negR_some, r_nt, r_and, r_or, r_ite, r_lst, r_tup, r_idx, r_slc0, r_slc1, r_slc2, r_slc3, r_rev, r_f1, r_f2, r_meth, r_isi, r_call, callR_ok, r_callO, callO_ok, r_lmeth, lmR_count, lmR_index, r_nrng, nrR_int, r_lzip, ex_cpy, ex_par, ex_retF, tabY_fn, tabY_gl, r_nil, r_cons, tab_fn, tab_gl, tabX_fn, tabX_gl, look_hit, look_miss, r_fld, r_mth, mthR_ok, r_mk, mkR_ok, r_lenSet, r_isLT, eqNR_lst, r_eqN, r_dget, r_dcpy, stoR_some, ex_setf, ex_dput, tabZ_fn, tabZ_gl, tabZ_mt, tabZ_mk, tabZ_fd, bindT, op_add, op_sub, op_lt, op_le, op_gt, op_ge, op_eq, op_ne, op_in, op_nin, op_is, op_isn, small_ok, b_Meet_put, g_here en, is_stand eh, tw, is_meet (en1 _), fo, g_state (e1 _), q0, g_rows (e1 _), i1, l1, a1, z1, z2, z3, a2, a3, a4, p_rows (e1 _), st1, tt, is_meet (en3 _ _), go]
end
/-! ### the main part goes on: what stays -/
def sgn (c : Nat) : Prop := c = 111 ∨ c = 120 ∨ c = 45 ∨ c = 114
theorem walk3 : ∀ (ms : List (List Nat)) (l : Int), 0 ≤ l ∧ l ≤ 3 → lawOk l ms = true → ms.foldl lawNxt l = 3 → walkL l ms = some 3
  | [], l, _, _, h => by simp at h; rw [walkL, h]
  | m :: ms, l, hl, h, h3 => by
    obtain ⟨l', s1, s2, s3, s4⟩ := ok_cons hl h
    rw [List.foldl_cons, s3] at h3
    have st : lawStep l m true = some l' := by
      cases ms with
      | cons _ _ => exact s1
      | nil =>
        simp at h3
        subst h3
        simp only [List.isEmpty_nil, Bool.not_true] at s1
        rw [← s1]
        unfold lawStep at s1 ⊢
        by_cases a3 : l = 3
        · rw [if_pos a3, if_pos a3]
        · rw [if_neg a3] at s1 ⊢
          rw [if_neg a3]
          by_cases b : 3 < l + (cnt 120 m : Int) ∨ l + (cnt 120 m : Int) = 3 ∧ opn m = false
          · rw [if_pos b, if_pos b]
          · rw [if_neg b] at s1 ⊢
            rw [if_neg b]
            by_cases c : l + (cnt 120 m : Int) < 3 ∧ opn m = true ∧ true = true
            · rw [if_neg (by simp), if_neg (opn_not_r c.2.1 (by decide)), if_neg (fun z => opn_not_r c.2.1 (by decide) z.2)] at s1
              have := Option.some.inj s1
              omega
            · rw [if_neg c]
              exact (if_neg (by simp)).symm
    rw [walkL, st]
    exact walk3 ms l' s2 s4 h3
theorem row_last {r : Row} (h : r ≠ []) : r = r.dropLast ++ [lastM r] := by
  rcases List.eq_nil_or_concat r with e | ⟨pre, m, e⟩
  · exact absurd e h
  · rw [List.concat_eq_append] at e
    subst e
    simp [lastM]
theorem at_end {r : Row} (g : Good r) (hr : r ≠ []) (h9 : runOf r < 9) (ho : opn (lastM r) = true) : ∃ l : Int, walkL 0 r.dropLast = some l ∧ 0 ≤ l ∧ l + ((lastM r).length : Int) < 3 ∧ lastM r = List.replicate (lastM r).length 120 ∧ Good r.dropLast := by
  have e := row_last hr
  have ok := g.ok
  rw [e] at ok
  obtain ⟨l, h1, h2, h3, h4⟩ := walk_pre (l := 0) ⟨by omega, by omega⟩ ok
  have hw : lawRun r < 3 := by
    have := g.run
    rcases this with ⟨a, _⟩ | ⟨_, _, b⟩
    · omega
    · exact b
  have hq : lawRun r = lawNxt l (lastM r) := by
    unfold lawRun
    rw [e, List.foldl_append, ← h2]
    simp [lastM]
  rw [hq] at hw
  have hl : l < 3 := by
    rcases Int.lt_or_le l 3 with q | q
    · exact q
    · have : l = 3 := by omega
      rw [this, nxt3] at hw
      omega
  have hm := opn_eq ho
  rw [hm, nxt_rep hl] at hw
  refine ⟨l, h1, h3.1, ?_, hm, Good.pre (b := [lastM r]) (by rw [← e]; exact g)⟩
  omega
theorem put_good {r : Row} (g : Good r) (hr : r ≠ []) (h9 : runOf r < 9) (ho : opn (lastM r) = true) {c : Nat} (hc : sgn c) : Good (putRow r [c]) := by
  obtain ⟨l, h1, h2, h3, h4, h5⟩ := at_end g hr h9 ho
  have hlen : r.dropLast.length ≤ 11 := by have := g.len; rw [List.length_dropLast]; omega
  unfold putRow
  generalize hj : (lastM r).length = j at h3 h4
  rw [h4]
  by_cases hx : c = 120
  · subst hx
    have : List.replicate j 120 ++ [120] = List.replicate (j + 1) 120 := by rw [List.replicate_succ']
    rw [this]
    exact h5.snoc hlen h1 (mark_rep (by omega)) (step_rep h2 (by omega) (by push_cast; omega))
  · obtain ⟨r', hs⟩ := step_end h2 (by omega) h3 hx
    refine h5.snoc hlen h1 (mark_end (by omega) ?_ hx) hs
    rcases hc with rfl | rfl | rfl | rfl
    · rfl
    · exact absurd rfl hx
    · rfl
    · rfl
theorem pad_good {r : Row} (g : Good r) (hl : r.length ≤ 11) (hnt : ¬ (runOf r < 9 ∧ opn (lastM r) = true)) : Good (r ++ [[]]) := by
  have hr := g.run
  have m0 : markB [] = true := rfl
  by_cases h9 : runOf r < 9
  · have h3 : lawRun r < 3 ∧ 0 ≤ lawRun r := by rcases hr with ⟨a, _⟩ | ⟨_, b, c⟩ <;> omega
    have hc : opn (lastM r) = false := by
      cases q : opn (lastM r) with
      | false => rfl
      | true => exact absurd ⟨h9, q⟩ hnt
    have w := closed_walk g (by omega) fun m hm => by
      have : lastM r = m := by simp [lastM, hm]
      rw [← this]; exact hc
    exact g.snoc hl w m0 (step_rep (j := 0) h3.2 h3.1 (by simp; omega))
  · have h3 : lawRun r = 3 := by rcases hr with ⟨_, b⟩ | ⟨a, b, c⟩ <;> omega
    have w := walk3 r 0 ⟨by omega, by omega⟩ g.ok h3
    exact g.snoc hl w m0 (r' := 3) rfl
/-! ### how many signs -/
def sz (r : Row) : Nat := (r.map List.length).sum
def tot (rows : List Row) : Nat := (rows.map sz).sum
theorem sz_app (a b : Row) : sz (a ++ b) = sz a + sz b := by simp [sz]
theorem sz_put {r : Row} (h : r ≠ []) (c : Nat) : sz (putRow r [c]) = sz r + 1 := by
  rw [putRow, sz_app]
  conv => rhs; rw [row_last h, sz_app]
  simp [sz]
  omega
theorem tot_set {r r' : Row} (h : sz r' = sz r + 1) : ∀ {rows : List Row} {i : Nat}, rows[i]? = some r → tot (rows.set i r') = tot rows + 1
  | [], i, e => by cases i <;> cases e
  | x :: l, 0, e => by
    simp at e
    subst e
    simp [tot, h]
    omega
  | x :: l, i + 1, e => by
    have := tot_set h (rows := l) (i := i) (by simpa using e)
    simp [tot] at this ⊢
    omega
theorem tot_pad (rows : List Row) : tot (rows.map (· ++ [[]])) = tot rows := by
  unfold tot
  rw [List.map_map]
  congr 1
  apply List.map_congr_left
  intro r _
  simp [sz]
theorem sz_le : ∀ {r : Row}, (∀ m ∈ r, m.length ≤ 3) → sz r ≤ 3 * r.length
  | [], _ => by simp [sz]
  | m :: r, h => by
    have h1 := sz_le (r := r) fun x hx => h x (List.mem_cons_of_mem _ hx)
    have h2 := h m (List.mem_cons_self ..)
    simp [sz] at h1 ⊢
    omega
theorem tot_le {L : Nat} : ∀ {rows : List Row}, (∀ r ∈ rows, sz r ≤ L) → tot rows ≤ rows.length * L
  | [], _ => by simp [tot]
  | r :: l, h => by
    have h1 := tot_le (rows := l) fun x hx => h x (List.mem_cons_of_mem _ hx)
    have h2 := h r (List.mem_cons_self ..)
    simp [tot, Nat.succ_mul] at h1 ⊢
    omega
theorem tot_lt {L : Nat} {x : Row} (hx : sz x < L) : ∀ {rows : List Row}, (∀ r ∈ rows, sz r ≤ L) → x ∈ rows → tot rows < rows.length * L
  | [], _, h => by cases h
  | r :: l, h, hm => by
    have h0 := fun r hr => h r (List.mem_cons_of_mem _ hr)
    rcases List.mem_cons.mp hm with rfl | hm
    · have h1 := tot_le h0
      simp [tot, Nat.succ_mul] at h1 ⊢
      omega
    · have h1 := tot_lt hx h0 hm
      have h2 := h r (List.mem_cons_self ..)
      simp [tot, Nat.succ_mul] at h1 ⊢
      omega
/-! ### the invariant -/
structure Inv (n : Nat) (bs : List Int) (s : Sd) : Prop where
  some_ : 1 ≤ n ∧ n ≤ 6
  bars : 1 ≤ bs.length ∧ bs.length ≤ 4
  many : s.rows.length = n
  good : ∀ r ∈ s.rows, Good r
  size : ∃ L, 1 ≤ L ∧ L ≤ bs.length ∧ ∀ r ∈ s.rows, r.length = L
  main : s.state = wMain → todoL s.rows ≠ []
  deeds : s.deeds.length = tot s.rows
section
variable {n : Nat} {bs : List Int} {s : Sd} {st : Int}
theorem Inv.head (i : Inv n bs s) : ∃ r0 rest, s.rows = r0 :: rest := by
  cases q : s.rows with
  | nil => have := i.many; have := i.some_; rw [q] at *; simp at *; omega
  | cons r0 rest => exact ⟨r0, rest, rfl⟩
theorem Inv.fit (i : Inv n bs s) : Fit s := by
  obtain ⟨L, h1, h2, h3⟩ := i.size
  have hb := i.bars
  refine ⟨fun r hr z => ?_, by rw [i.many]; exact i.some_.2, fun r hr m hm => mark_len ((i.good r hr).marks m hm), fun r hr => by rw [h3 r hr]; omega⟩
  have := h3 r hr
  rw [z] at this
  simp at this
  omega
theorem Inv.lt (i : Inv n bs s) (hm : s.state = wMain) : s.deeds.length < 3 * n * bs.length := by
  obtain ⟨L, h1, h2, h3⟩ := i.size
  obtain ⟨r, t, k1, k2, k3, _⟩ := next_spec (i.main hm)
  have hr := List.mem_of_getElem? k1
  have hs : ∀ r ∈ s.rows, sz r ≤ 3 * L := fun r hr => by
    have := sz_le (r := r) fun m hm => i.fit.sh r hr m hm
    rw [h3 r hr] at this
    exact this
  obtain ⟨l, _, w2, w3, _, w5⟩ := at_end (i.good r hr) (i.fit.ne r hr) k2 k3
  have hx : sz r < 3 * L := by
    rw [row_last (i.fit.ne r hr), sz_app]
    have a1 := sz_le (r := r.dropLast) fun m hm => mark_len (w5.marks m hm)
    have a2 : r.dropLast.length = L - 1 := by rw [List.length_dropLast, h3 r hr]
    rw [a2] at a1
    have a3 : sz [lastM r] = (lastM r).length := by simp [sz]
    rw [a3]
    omega
  have := tot_lt hx hs hr
  rw [i.deeds]
  rw [i.many] at this
  refine Nat.lt_of_lt_of_le this ?_
  calc n * (3 * L) ≤ n * (3 * bs.length) := Nat.mul_le_mul_left _ (by omega)
    _ = 3 * n * bs.length := by rw [Nat.mul_left_comm, Nat.mul_assoc]
/-- a try put down, before what comes behind it -/
def putS (s : Sd) (c : Nat) : Sd := { s with rows := s.rows.set (nextM s) (putRow (s.rows.getD (nextM s) []) [c]), deeds := s.deeds ++ [[c]] }
structure Mid (n : Nat) (bs : List Int) (s : Sd) : Prop where
  some_ : 1 ≤ n ∧ n ≤ 6
  bars : 1 ≤ bs.length ∧ bs.length ≤ 4
  many : s.rows.length = n
  good : ∀ r ∈ s.rows, Good r
  size : ∃ L, 1 ≤ L ∧ L ≤ bs.length ∧ ∀ r ∈ s.rows, r.length = L
  deeds : s.deeds.length = tot s.rows
theorem Inv.mid (i : Inv n bs s) : Mid n bs s := ⟨i.some_, i.bars, i.many, i.good, i.size, i.deeds⟩
theorem Mid.fit (i : Mid n bs s) : Fit s := by
  obtain ⟨L, h1, h2, h3⟩ := i.size
  have hb := i.bars
  refine ⟨fun r hr z => ?_, by rw [i.many]; exact i.some_.2, fun r hr m hm => mark_len ((i.good r hr).marks m hm), fun r hr => by rw [h3 r hr]; omega⟩
  have := h3 r hr
  rw [z] at this
  simp at this
  omega
theorem put_len {r : Row} (h : r ≠ []) (c : List Nat) : (putRow r c).length = r.length := by
  conv => rhs; rw [row_last h]
  simp [putRow]
theorem Inv.put (i : Inv n bs s) (hm : s.state = wMain) {c : Nat} (hc : sgn c) : Mid n bs (putS s c) := by
  obtain ⟨r, t, k1, k2, k3, _⟩ := next_spec (i.main hm)
  have hr := List.mem_of_getElem? k1
  have hgd : s.rows.getD (nextM s) [] = r := by rw [List.getD_eq_getElem?_getD, k1]; rfl
  have hne := i.fit.ne r hr
  unfold putS
  rw [hgd]
  refine ⟨i.some_, i.bars, by simpa using i.many, fun x hx => ?_, ?_, ?_⟩
  · rcases List.mem_or_eq_of_mem_set hx with hx | rfl
    · exact i.good x hx
    · exact put_good (i.good r hr) hne k2 k3 hc
  · obtain ⟨L, h1, h2, h3⟩ := i.size
    refine ⟨L, h1, h2, fun x hx => ?_⟩
    rcases List.mem_or_eq_of_mem_set hx with hx | rfl
    · exact h3 x hx
    · rw [put_len hne]; exact h3 r hr
  · rw [List.length_append, i.deeds]
    exact (tot_set (sz_put hne c) k1).symm
theorem end_rows (k : Nat) (bs : List Int) (st : Int) (s : Sd) : (endMain k bs st s).rows = s.rows ∧ (endMain k bs st s).deeds = s.deeds := by
  unfold endMain
  cases topOf s.rows with
  | none => exact ⟨rfl, rfl⟩
  | some t => simp only; split <;> exact ⟨rfl, rfl⟩
theorem not_todo {rows : List Row} (h : todoL rows = []) {r : Row} (hr : r ∈ rows) : ¬ (runOf r < 9 ∧ opn (lastM r) = true) := fun z => by
  obtain ⟨i, hi, e⟩ := List.getElem_of_mem hr
  have : ((cnt 120 (lastM r) : Int), ((0 + i : Nat) : Int)) ∈ todoL rows := by
    unfold todoL
    rw [mem_enumO]
    exact ⟨i, r, by rw [List.getElem?_eq_getElem hi, e], by unfold todoP; rw [if_pos z]⟩
  rw [h] at this
  cases this
theorem same_head {rows : List Row} {L : Nat} (h : ∀ r ∈ rows, r.length = L) (h0 : rows ≠ []) : (rows.headD []).length = L := by
  cases q : rows with
  | nil => exact absurd q h0
  | cons r0 rest => exact h r0 (by rw [q]; simp)
theorem Mid.on (i : Mid n bs s) (hm : s.state = wMain) : Inv n bs (goOn n bs st s) := by
  unfold goOn
  split
  · rename_i ht
    split
    · obtain ⟨e1, e2⟩ := end_rows n bs st s
      exact ⟨i.some_, i.bars, by rw [e1]; exact i.many, by rw [e1]; exact i.good, by rw [e1]; exact i.size, fun z => absurd z (end_state n bs st s), by rw [e1, e2]; exact i.deeds⟩
    · rename_i hend
      obtain ⟨L, h1, h2, h3⟩ := i.size
      have hb := i.bars
      have hn0 : s.rows ≠ [] := fun z => by have := i.many; have := i.some_; rw [z] at *; simp at *; omega
      have hL : L ≠ bs.length := fun z => hend (.inr (by rw [same_head h3 hn0, z]))
      refine ⟨i.some_, i.bars, by simpa using i.many, fun r hr => ?_, ⟨L + 1, by omega, by omega, fun r hr => ?_⟩, fun _ => todo_pad i.good fun z => hend (.inl z), by rw [tot_pad]; exact i.deeds⟩
      · obtain ⟨z, hz, rfl⟩ := List.mem_map.mp hr
        exact pad_good (i.good z hz) (by rw [h3 z hz]; omega) (not_todo ht hz)
      · obtain ⟨z, hz, rfl⟩ := List.mem_map.mp hr
        simp [h3 z hz]
  · rename_i ht
    exact ⟨i.some_, i.bars, i.many, i.good, i.size, fun _ => ht, i.deeds⟩
end
/-! ### deeds of the main part, and what is shown -/
def sto2 (S : Sto) (n : Nat) (ns : List (List Nat)) (bs : List Int) (st : Int) (s : Sd) (h : Nat) (ds : List Nat) (c : Nat) : Sto := (S ++ [sdC (goOn ns.length bs st (putS s c))]).set n (mtC ns bs st S.length (ds ++ [h]) [])
section
variable {S : Sto} {a n : Nat} {s : Sd} {ns : List (List Nat)} {bs : List Int} {st : Int} {h : Nat} {ds us : List Nat}
theorem put_ok (en : S[n]? = some (mtC ns bs st h ds us)) (eh : S[h]? = some (sdC s)) (i : Inv ns.length bs s) (hm : s.state = wMain) (hds : ds.length ≤ 900) {c : Nat} (hc : sgn c) :
    fn_Meet_put [.obj n, .str [c]] S = .ok (.str (lastM (s.rows.getD (nextM s) []) ++ [c])) (sto2 S n ns bs st s h ds c) := by
  have m := i.put hm hc
  have hlt := i.lt hm
  have hb := i.bars
  have hs := i.some_
  have h72 : 3 * ns.length * bs.length ≤ 18 * 4 := Nat.mul_le_mul (by omega) (by omega)
  obtain ⟨L, h1, h2, h3⟩ := m.size
  have hn0 : (putS s c).rows ≠ [] := fun z => by have := m.many; rw [z] at this; simp at this; omega
  exact put_main_ok en eh i.fit hm (i.main hm) (by omega) hds [c] (by simp) m.fit m.good (fun r hr => by rw [h3 r hr]; exact h2) (fun r hr => by rw [h3 r hr]; exact (same_head h3 hn0).symm) (by omega) (by omega)
theorem need_word1 (en : S[n]? = some (mtC ns bs st h ds us)) (eh : S[h]? = some (sdC s)) (hm : s.state = wMain) : fn_Meet_need_word [.obj n, .tup [.str [109, 97, 105, 110]]] S = .ok .non S := by
  have q : inO (.str s.state) (.tup [.str [109, 97, 105, 110]]) = some true := by rw [hm]; rfl
  (unfold fn_Meet_need_word; simp only [fn1, fn2, fn3, fn4, fF1, fF2, Nat.reduceSub, List.replicate_succ, List.replicate_zero])
  simp [exs_cons, exs_nil, exsK_nx, exsK_ap, ex_ifs, ifK_t, ifK_f, ex_asg1, ex_asg, ex_ret, ex_expr, ex_pass, ex_new, r_var, varR_val, r_own, ownR_own, r_cst, r_glo, r_op, r_chain, r_neg, negR_some, r_nt, r_and, r_or, r_ite, r_lst, r_tup, r_idx, r_slc0, r_slc1, r_slc2, r_slc3, r_rev, r_f1, r_f2, r_meth, r_isi, r_call, callR_ok, r_callO, callO_ok, r_lmeth, lmR_count, lmR_index, r_nrng, nrR_int, r_lzip, ex_cpy, ex_par, ex_retF, tabY_fn, tabY_gl, r_nil, r_cons, tab_fn, tab_gl, tabX_fn, tabX_gl, look_hit, look_miss, r_fld, r_mth, mthR_ok, r_mk, mkR_ok, r_lenSet, r_isLT, eqNR_lst, r_eqN, r_dget, r_dcpy, stoR_some, ex_setf, ex_dput, tabZ_fn, tabZ_gl, tabZ_mt, tabZ_mk, tabZ_fd, bindT, op_add, op_sub, op_lt, op_le, op_gt, op_ge, op_eq, op_ne, op_in, op_nin, op_is, op_isn, small_ok, b_Meet_need_word, g_here en, g_state eh, q]
theorem need_word2 (en : S[n]? = some (mtC ns bs st h ds us)) (eh : S[h]? = some (sdC s)) (hm : s.state = wMain) : fn_Meet_need_word [.obj n, .tup [.str [109, 97, 105, 110], .str [111, 102, 102]]] S = .ok .non S := by
  have q : inO (.str s.state) (.tup [.str [109, 97, 105, 110], .str [111, 102, 102]]) = some true := by rw [hm]; rfl
  (unfold fn_Meet_need_word; simp only [fn1, fn2, fn3, fn4, fF1, fF2, Nat.reduceSub, List.replicate_succ, List.replicate_zero])
  simp [exs_cons, exs_nil, exsK_nx, exsK_ap, ex_ifs, ifK_t, ifK_f, ex_asg1, ex_asg, ex_ret, ex_expr, ex_pass, ex_new, r_var, varR_val, r_own, ownR_own, r_cst, r_glo, r_op, r_chain, r_neg, negR_some, r_nt, r_and, r_or, r_ite, r_lst, r_tup, r_idx, r_slc0, r_slc1, r_slc2, r_slc3, r_rev, r_f1, r_f2, r_meth, r_isi, r_call, callR_ok, r_callO, callO_ok, r_lmeth, lmR_count, lmR_index, r_nrng, nrR_int, r_lzip, ex_cpy, ex_par, ex_retF, tabY_fn, tabY_gl, r_nil, r_cons, tab_fn, tab_gl, tabX_fn, tabX_gl, look_hit, look_miss, r_fld, r_mth, mthR_ok, r_mk, mkR_ok, r_lenSet, r_isLT, eqNR_lst, r_eqN, r_dget, r_dcpy, stoR_some, ex_setf, ex_dput, tabZ_fn, tabZ_gl, tabZ_mt, tabZ_mk, tabZ_fd, bindT, op_add, op_sub, op_lt, op_le, op_gt, op_ge, op_eq, op_ne, op_in, op_nin, op_is, op_isn, small_ok, b_Meet_need_word, g_here en, g_state eh, q]
theorem skip_ok (en : S[n]? = some (mtC ns bs st h ds us)) (eh : S[h]? = some (sdC s)) (i : Inv ns.length bs s) (hm : s.state = wMain) (hds : ds.length ≤ 900) :
    fn_Meet_skip [.obj n] S = .ok (.str (lastM (s.rows.getD (nextM s) []) ++ [45])) (sto2 S n ns bs st s h ds 45) := by
  have p := put_ok en eh i hm hds (c := 45) (.inr (.inr (.inl rfl)))
  have w := need_word1 en eh hm
  (unfold fn_Meet_skip; simp only [fn1, fn2, fn3, fn4, fF1, fF2, Nat.reduceSub, List.replicate_succ, List.replicate_zero])
  simp [exs_cons, exs_nil, exsK_nx, exsK_ap, ex_ifs, ifK_t, ifK_f, ex_asg1, ex_asg, ex_ret, ex_expr, ex_pass, ex_new, r_var, varR_val, r_own, ownR_own, r_cst, r_glo, r_op, r_chain, r_neg, negR_some, r_nt, r_and, r_or, r_ite, r_lst, r_tup, r_idx, r_slc0, r_slc1, r_slc2, r_slc3, r_rev, r_f1, r_f2, r_meth, r_isi, r_call, callR_ok, r_callO, callO_ok, r_lmeth, lmR_count, lmR_index, r_nrng, nrR_int, r_lzip, ex_cpy, ex_par, ex_retF, tabY_fn, tabY_gl, r_nil, r_cons, tab_fn, tab_gl, tabX_fn, tabX_gl, look_hit, look_miss, r_fld, r_mth, mthR_ok, r_mk, mkR_ok, r_lenSet, r_isLT, eqNR_lst, r_eqN, r_dget, r_dcpy, stoR_some, ex_setf, ex_dput, tabZ_fn, tabZ_gl, tabZ_mt, tabZ_mk, tabZ_fd, bindT, op_add, op_sub, op_lt, op_le, op_gt, op_ge, op_eq, op_ne, op_in, op_nin, op_is, op_isn, small_ok, b_Meet_skip, is_meet en, w, p]
theorem home_ok (en : S[n]? = some (mtC ns bs st h ds us)) (eh : S[h]? = some (sdC s)) (i : Inv ns.length bs s) (hm : s.state = wMain) (hds : ds.length ≤ 900) :
    fn_Meet_go_home [.obj n] S = .ok (.str (lastM (s.rows.getD (nextM s) []) ++ [114])) (sto2 S n ns bs st s h ds 114) := by
  have p := put_ok en eh i hm hds (c := 114) (.inr (.inr (.inr rfl)))
  have w := need_word2 en eh hm
  (unfold fn_Meet_go_home; simp only [fn1, fn2, fn3, fn4, fF1, fF2, Nat.reduceSub, List.replicate_succ, List.replicate_zero])
  simp [exs_cons, exs_nil, exsK_nx, exsK_ap, ex_ifs, ifK_t, ifK_f, ex_asg1, ex_asg, ex_ret, ex_expr, ex_pass, ex_new, r_var, varR_val, r_own, ownR_own, r_cst, r_glo, r_op, r_chain, r_neg, negR_some, r_nt, r_and, r_or, r_ite, r_lst, r_tup, r_idx, r_slc0, r_slc1, r_slc2, r_slc3, r_rev, r_f1, r_f2, r_meth, r_isi, r_call, callR_ok, r_callO, callO_ok, r_lmeth, lmR_count, lmR_index, r_nrng, nrR_int, r_lzip, ex_cpy, ex_par, ex_retF, tabY_fn, tabY_gl, r_nil, r_cons, tab_fn, tab_gl, tabX_fn, tabX_gl, look_hit, look_miss, r_fld, r_mth, mthR_ok, r_mk, mkR_ok, r_lenSet, r_isLT, eqNR_lst, r_eqN, r_dget, r_dcpy, stoR_some, ex_setf, ex_dput, tabZ_fn, tabZ_gl, tabZ_mt, tabZ_mk, tabZ_fd, bindT, op_add, op_sub, op_lt, op_le, op_gt, op_ge, op_eq, op_ne, op_in, op_nin, op_is, op_isn, small_ok, b_Meet_go_home, is_meet en, w, p]
theorem jump_ok (en : S[n]? = some (mtC ns bs st h ds us)) (eh : S[h]? = some (sdC s)) (i : Inv ns.length bs s) (hm : s.state = wMain) (hds : ds.length ≤ 900) (b : Bool) :
    fn_Meet_jump [.obj n, .bl b] S = .ok (.str (lastM (s.rows.getD (nextM s) []) ++ [if b then 111 else 120])) (sto2 S n ns bs st s h ds (if b then 111 else 120)) := by
  have p := put_ok en eh i hm hds (c := if b then 111 else 120) (by cases b; exact .inr (.inl rfl); exact .inl rfl)
  have w := need_word2 en eh hm
  (unfold fn_Meet_jump; simp only [fn1, fn2, fn3, fn4, fF1, fF2, Nat.reduceSub, List.replicate_succ, List.replicate_zero])
  cases b <;> simp only [if_true, if_false, Bool.false_eq_true] at p <;> simp [exs_cons, exs_nil, exsK_nx, exsK_ap, ex_ifs, ifK_t, ifK_f, ex_asg1, ex_asg, ex_ret, ex_expr, ex_pass, ex_new, r_var, varR_val, r_own, ownR_own, r_cst, r_glo, r_op, r_chain, r_neg, negR_some, r_nt, r_and, r_or, r_ite, r_lst, r_tup, r_idx, r_slc0, r_slc1, r_slc2, r_slc3, r_rev, r_f1, r_f2, r_meth, r_isi, r_call, callR_ok, r_callO, callO_ok, r_lmeth, lmR_count, lmR_index, r_nrng, nrR_int, r_lzip, ex_cpy, ex_par, ex_retF, tabY_fn, tabY_gl, r_nil, r_cons, tab_fn, tab_gl, tabX_fn, tabX_gl, look_hit, look_miss, r_fld, r_mth, mthR_ok, r_mk, mkR_ok, r_lenSet, r_isLT, eqNR_lst, r_eqN, r_dget, r_dcpy, stoR_some, ex_setf, ex_dput, tabZ_fn, tabZ_gl, tabZ_mt, tabZ_mk, tabZ_fd, bindT, op_add, op_sub, op_lt, op_le, op_gt, op_ge, op_eq, op_ne, op_in, op_nin, op_is, op_isn, small_ok, b_Meet_jump, is_meet en, w, p, isA]
theorem done_ok (en : S[n]? = some (mtC ns bs st h ds us)) (eh : S[h]? = some (sdC s)) (i : Inv ns.length bs s) (hm : s.state = wMain) (hds : ds.length ≤ 900) {c : Nat} (hc : sgn c) :
    fn__law_done [.obj n, .str [c]] S = .ok (.str (lastM (s.rows.getD (nextM s) []) ++ [c])) (sto2 S n ns bs st s h ds c) := by
  have p1 := skip_ok en eh i hm hds
  have p2 := home_ok en eh i hm hds
  have p3 := jump_ok en eh i hm hds
  have q : ∀ w : List Nat, eqO (.str [c]) (.str w) = some (decide ([c] = w)) := fun w => s_eqd _ _
  (unfold fn__law_done; simp only [fn1, fn2, fn3, fn4, fF1, fF2, Nat.reduceSub, List.replicate_succ, List.replicate_zero])
  rcases hc with rfl | rfl | rfl | rfl <;> simp [exs_cons, exs_nil, exsK_nx, exsK_ap, ex_ifs, ifK_t, ifK_f, ex_asg1, ex_asg, ex_ret, ex_expr, ex_pass, ex_new, r_var, varR_val, r_own, ownR_own, r_cst, r_glo, r_op, r_chain, r_neg, negR_some, r_nt, r_and, r_or, r_ite, r_lst, r_tup, r_idx, r_slc0, r_slc1, r_slc2, r_slc3, r_rev, r_f1, r_f2, r_meth, r_isi, r_call, callR_ok, r_callO, callO_ok, r_lmeth, lmR_count, lmR_index, r_nrng, nrR_int, r_lzip, ex_cpy, ex_par, ex_retF, tabY_fn, tabY_gl, r_nil, r_cons, tab_fn, tab_gl, tabX_fn, tabX_gl, look_hit, look_miss, r_fld, r_mth, mthR_ok, r_mk, mkR_ok, r_lenSet, r_isLT, eqNR_lst, r_eqN, r_dget, r_dcpy, stoR_some, ex_setf, ex_dput, tabZ_fn, tabZ_gl, tabZ_mt, tabZ_mk, tabZ_fd, bindT, op_add, op_sub, op_lt, op_le, op_gt, op_ge, op_eq, op_ne, op_in, op_nin, op_is, op_isn, small_ok, b__law_done, ex_tryR (show (tabZ [] [] [1, 2, 3, 5, 6, 7, 8, 10] [] fdAll [(317, 12, 37, fn_Meet_skip), (318, 12, 24, fn_Meet_go_home), (319, 12, 35, fn_Meet_share), (316, 12, 26, fn_Meet_jump)] [] [9]).low 9 = true from rfl), is_meet en, p1, p2, p3, q, R.caughtR_rt]
theorem word_ok (en : S[n]? = some (mtC ns bs st h ds us)) (eh : S[h]? = some (sdC s)) : fn_Meet_word [.obj n] S = .ok (.str s.state) S := by
  (unfold fn_Meet_word; simp only [fn1, fn2, fn3, fn4, fF1, fF2, Nat.reduceSub, List.replicate_succ, List.replicate_zero])
  simp [exs_cons, exs_nil, exsK_nx, exsK_ap, ex_ifs, ifK_t, ifK_f, ex_asg1, ex_asg, ex_ret, ex_expr, ex_pass, ex_new, r_var, varR_val, r_own, ownR_own, r_cst, r_glo, r_op, r_chain, r_neg, negR_some, r_nt, r_and, r_or, r_ite, r_lst, r_tup, r_idx, r_slc0, r_slc1, r_slc2, r_slc3, r_rev, r_f1, r_f2, r_meth, r_isi, r_call, callR_ok, r_callO, callO_ok, r_lmeth, lmR_count, lmR_index, r_nrng, nrR_int, r_lzip, ex_cpy, ex_par, ex_retF, tabY_fn, tabY_gl, r_nil, r_cons, tab_fn, tab_gl, tabX_fn, tabX_gl, look_hit, look_miss, r_fld, r_mth, mthR_ok, r_mk, mkR_ok, r_lenSet, r_isLT, eqNR_lst, r_eqN, r_dget, r_dcpy, stoR_some, ex_setf, ex_dput, tabZ_fn, tabZ_gl, tabZ_mt, tabZ_mk, tabZ_fd, bindT, op_add, op_sub, op_lt, op_le, op_gt, op_ge, op_eq, op_ne, op_in, op_nin, op_is, op_isn, small_ok, b_Meet_word, g_here en, g_state eh]
end
section
variable {S : Sto} {a n : Nat} {s : Sd} {ns : List (List Nat)} {bs : List Int} {st : Int} {h : Nat} {ds us : List Nat}
theorem who_main (en : S[n]? = some (mtC ns bs st h ds us)) (eh : S[h]? = some (sdC s)) (i : Inv ns.length bs s) (hm : s.state = wMain) : fn_Meet_who [.obj n] S = .ok (.str (ns.getD (nextM s) [])) S := by
  have fo := following_main en eh i.fit hm (i.main hm)
  obtain ⟨r, t, k1, _⟩ := next_spec (i.main hm)
  have hlt : nextM s < ns.length := by rw [← i.many]; exact (List.getElem?_eq_some_iff.mp k1).1
  have i1 : idx (tupS ns) (.int (nextM s : Nat)) = some (.str (ns.getD (nextM s) [])) := by
    refine tup_nth ?_
    rw [List.getElem?_map, List.getD_eq_getElem?_getD, List.getElem?_eq_getElem hlt]
    rfl
  (unfold fn_Meet_who; simp only [fn1, fn2, fn3, fn4, fF1, fF2, Nat.reduceSub, List.replicate_succ, List.replicate_zero])
  simp [exs_cons, exs_nil, exsK_nx, exsK_ap, ex_ifs, ifK_t, ifK_f, ex_asg1, ex_asg, ex_ret, ex_expr, ex_pass, ex_new, r_var, varR_val, r_own, ownR_own, r_cst, r_glo, r_op, r_chain, r_neg, negR_some, r_nt, r_and, r_or, r_ite, r_lst, r_tup, r_idx, r_slc0, r_slc1, r_slc2, r_slc3, r_rev, r_f1, r_f2, r_meth, r_isi, r_call, callR_ok, r_callO, callO_ok, r_lmeth, lmR_count, lmR_index, r_nrng, nrR_int, r_lzip, ex_cpy, ex_par, ex_retF, tabY_fn, tabY_gl, r_nil, r_cons, tab_fn, tab_gl, tabX_fn, tabX_gl, look_hit, look_miss, r_fld, r_mth, mthR_ok, r_mk, mkR_ok, r_lenSet, r_isLT, eqNR_lst, r_eqN, r_dget, r_dcpy, stoR_some, ex_setf, ex_dput, tabZ_fn, tabZ_gl, tabZ_mt, tabZ_mk, tabZ_fd, bindT, op_add, op_sub, op_lt, op_le, op_gt, op_ge, op_eq, op_ne, op_in, op_nin, op_is, op_isn, small_ok, b_Meet_who, g_here en, is_meet en, fo, isO, isNon, g_names en, i1]
end
/-! ### drawn names, drawn heights -/
theorem comp_exD {α β : Type} {F : Fns} {e : Ex} {tg : Tg} {it : It} {vs : List Nat} {ρ : Env} {S : Sto} {P : β → Prop} {l : List α} (g : α → D) (d : β → D) (hi : evIt F it ρ S = .ok (l.map g) S) (hl : l.length ≤ 1000000)
    (ht : ∀ x ∈ l, ∃ i : β, compF F e tg vs ρ (g x) S = .ok (some (d i)) S ∧ P i) : ∃ xs : List β, ev F (.comp e tg it vs) ρ S = .ok (.lst (xs.map d)) S ∧ xs.length = l.length ∧ ∀ i ∈ xs, P i := by
  have h : ∀ l : List α, (∀ x ∈ l, ∃ i : β, compF F e tg vs ρ (g x) S = .ok (some (d i)) S ∧ P i) → ∃ xs : List β, turns (compF F e tg vs ρ) (l.map g) S = .ok (xs.map d) S ∧ xs.length = l.length ∧ ∀ i ∈ xs, P i := by
    intro l
    induction l with
    | nil => exact fun _ => ⟨[], rfl, rfl, fun _ h => nomatch h⟩
    | cons x l ih =>
      intro h
      obtain ⟨i, e1, p1⟩ := h x (List.mem_cons_self ..)
      obtain ⟨xs, e2, p2, p3⟩ := ih fun y hy => h y (List.mem_cons_of_mem _ hy)
      refine ⟨i :: xs, by rw [List.map_cons, turns, e1, R.bind_ok, e2]; rfl, by simp [p2], fun j hj => ?_⟩
      rcases List.mem_cons.mp hj with rfl | hj
      · exact p1
      · exact p3 j hj
  obtain ⟨xs, e1, p1, p2⟩ := h l ht
  exact ⟨xs, by rw [ev_comp, hi, R.bind_ok, e1, calmly_ok, R.bind_ok, small_ok (by simp; omega), R.bind_ok], p1, p2⟩
def abc : List Nat := [97, 98, 99, 100, 101, 102, 103, 104, 105, 106, 107, 108, 109, 110, 111, 112, 113, 114, 115, 116, 117, 118, 119, 120, 121, 122]
theorem abc_all : ∀ c ∈ abc, 97 ≤ c ∧ c ≤ 122 := by decide
theorem abc_mem {c : Nat} (h : 97 ≤ c ∧ c ≤ 122) : c ∈ abc := by
  unfold abc
  simp
  omega
theorem abc_at {i : Int} (h : 0 ≤ i ∧ i < 26) : ∃ c, idx (.str abc) (.int i) = some (.str [c]) ∧ (97 ≤ c ∧ c ≤ 122) := by
  obtain ⟨j, rfl⟩ := Int.eq_ofNat_of_zero_le h.1
  have hj : j < abc.length := by show j < 26; omega
  refine ⟨abc[j], ?_, abc_all _ (List.getElem_mem hj)⟩
  show (at_ abc (j : Int)).map _ = _
  rw [at_nat (List.getElem?_eq_getElem hj)]
  rfl
theorem strs_one : ∀ xs : List Nat, strsD (xs.map fun c => .str [c]) = some (xs.map fun c => [c])
  | [] => rfl
  | x :: xs => by rw [List.map_cons, strsD, strs_one xs]; rfl
theorem joinL_nil : ∀ ys : List (List Nat), joinL [] ys = ys.flatten
  | [] => rfl
  | [y] => by simp [joinL]
  | y :: z :: ys => by
    have := joinL_nil (z :: ys)
    rw [joinL, this]
    simp
theorem flat_one : ∀ xs : List Nat, (xs.map fun c => [c]).flatten = xs
  | [] => rfl
  | x :: xs => by rw [List.map_cons, List.flatten_cons, flat_one xs]; rfl
theorem sum_one : ∀ xs : List Nat, ((xs.map fun c => [c]).map List.length).sum = xs.length
  | [] => rfl
  | x :: xs => by rw [List.map_cons, List.map_cons, List.sum_cons, sum_one xs]; simp; omega
theorem join_one (xs : List Nat) (h : xs.length ≤ 1000) : m1 .join (.str []) (.lst (xs.map fun c => .str [c])) = some (.str xs) := by
  simp only [m1, strs_one]
  rw [joinL_nil, flat_one, if_pos (by rw [sum_one]; unfold lim; simp; omega)]
def NmOk (w : List Nat) : Prop := (1 ≤ w.length ∧ w.length ≤ 6) ∧ ∀ c ∈ w, 97 ≤ c ∧ c ≤ 122
structure Names (ns : List (List Nat)) : Prop where
  some_ : 1 ≤ ns.length ∧ ns.length ≤ 4
  nm : ∀ w ∈ ns, NmOk w
  nd : ns.Nodup
def stpN (f : List (List Nat)) (w : List Nat) : List (List Nat) := if w ≠ [] ∧ w ∉ f then f ++ [w] else f
theorem in_strs (w : List Nat) (f : List (List Nat)) : inO (.str w) (.lst (f.map D.str)) = some (decide (w ∈ f)) := by
  have h1 : (f.map D.str).all flat = true := by simp [flat]
  simp only [inO]
  rw [if_pos ⟨rfl, h1⟩, List.any_map]
  congr 1
  rw [Bool.eq_iff_iff]
  simp [deq]
theorem names_fold : ∀ (l f : List (List Nat)), (∀ w ∈ l, w = [] ∨ NmOk w) → f.Nodup → (∀ w ∈ f, NmOk w) → (l.foldl stpN f).Nodup ∧ (∀ w ∈ l.foldl stpN f, NmOk w) ∧ f.length ≤ (l.foldl stpN f).length ∧ (l.foldl stpN f).length ≤ f.length + l.length
  | [], f, _, h1, h2 => ⟨h1, h2, Nat.le_refl _, Nat.le_refl _⟩
  | w :: l, f, h, h1, h2 => by
    have hl : ∀ w ∈ l, w = [] ∨ NmOk w := fun x hx => h x (List.mem_cons_of_mem _ hx)
    rw [List.foldl_cons]
    by_cases hc : w ≠ [] ∧ w ∉ f
    · have e : stpN f w = f ++ [w] := if_pos hc
      rw [e]
      obtain ⟨k1, k2, k3, k4⟩ := names_fold l (f ++ [w]) hl (by
        rw [List.nodup_append]
        refine ⟨h1, by simp, fun a ha b hb => ?_⟩
        rw [List.mem_singleton.mp hb]
        exact fun z => hc.2 (z ▸ ha)) (fun x hx => by
        rcases List.mem_append.mp hx with hx | hx
        · exact h2 x hx
        · rw [List.mem_singleton.mp hx]
          exact (h w (List.mem_cons_self ..)).resolve_left hc.1)
      rw [List.length_append] at k3 k4
      rw [List.length_cons]
      exact ⟨k1, k2, by omega, by simp at k4; omega⟩
    · have e : stpN f w = f := if_neg hc
      rw [e]
      obtain ⟨k1, k2, k3, k4⟩ := names_fold l f hl h1 h2
      rw [List.length_cons]
      exact ⟨k1, k2, k3, by omega⟩
theorem sliceL_hi (l : List D) (i : Nat) : slc (.lst l) none (some (i : Int)) = some (.lst (l.take i)) := by
  have : ¬ (i : Int) < 0 := by omega
  simp only [slc, cut, sx, this, if_false, List.drop_zero, Nat.sub_zero, Int.toNat_natCast]
  congr 2
  rcases Nat.le_total i l.length with h | h
  · rw [Nat.min_eq_left h]
  · rw [Nat.min_eq_right h, List.take_of_length_le (Nat.le_refl _), List.take_of_length_le h]
theorem sliceS_lo (l : List Nat) : slc (.str l) (some 1) none = some (.str (l.drop 1)) := by
  have h0 : ¬ (1 : Int) < 0 := by omega
  simp only [slc, cut, sx, h0, if_false]
  congr 2
  rcases Nat.le_total 1 l.length with h | h
  · rw [show min (Int.toNat 1) l.length = 1 from Nat.min_eq_left h, List.take_of_length_le (by simp)]
  · rw [show min (Int.toNat 1) l.length = l.length from Nat.min_eq_right h, List.drop_of_length_le (Nat.le_refl _), List.drop_of_length_le h]
    simp
def nameB : Sms := (.cons (.ifs (.and (.op .ne (.var 5) (.cst (.str []))) (.op .nin (.var 5) (.own 4))) (.cons (.app 4 (.var 5)) .nil) .nil) .nil)
def nameF : Fns := tabOf [(3, fn__law_drawn)] []
theorem name_loop (S : Sto) (a b c d : Slot) (k : Slot) (l : List (List Nat)) (hl : l.length ≤ 100) : ∃ x, loop (eachF nameF (.name 5) nameB) (l.map D.str) [a, b, c, d, .own [], .emp, k] S = .ok (.nx [a, b, c, d, .own ((l.foldl stpN []).map D.str), x, k]) S := by
  have key : ∀ (l f : List (List Nat)) (x : Slot), f.length + l.length ≤ 100 → ∃ x', loop (eachF nameF (.name 5) nameB) (l.map D.str) [a, b, c, d, .own (f.map D.str), x, k] S = .ok (.nx [a, b, c, d, .own ((l.foldl stpN f).map D.str), x', k]) S := by
    intro l
    induction l with
    | nil => exact fun f x _ => ⟨x, rfl⟩
    | cons w l ih =>
      intro f x hl
      have hs : eachF nameF (.name 5) nameB (.str w) [a, b, c, d, .own (f.map D.str), x, k] S = .ok (.nx [a, b, c, d, .own ((stpN f w).map D.str), .val (.str w), k]) S := by
        have q1 : eqO (.str w) (.str []) = some (decide (w = [])) := s_eq _ _
        have q2 := in_strs w f
        unfold eachF nameB stpN
        by_cases h1 : w = []
        · rw [decide_eq_true h1] at q1
          rw [if_neg fun z => z.1 h1]
          simp [exs_cons, exs_nil, exsK_nx, exsK_ap, ex_ifs, ifK_t, ifK_f, ex_asg1, ex_asg, ex_ret, ex_expr, ex_pass, ex_new, r_var, varR_val, r_own, ownR_own, r_cst, r_glo, r_op, r_chain, r_neg, negR_some, r_nt, r_and, r_or, r_ite, r_lst, r_tup, r_idx, r_slc0, r_slc1, r_slc2, r_slc3, r_rev, r_f1, r_f2, r_meth, r_isi, r_call, callR_ok, r_callO, callO_ok, r_lmeth, lmR_count, lmR_index, r_nrng, nrR_int, r_lzip, ex_cpy, ex_par, ex_retF, tabY_fn, tabY_gl, r_nil, r_cons, tab_fn, tab_gl, tabX_fn, tabX_gl, look_hit, look_miss, r_fld, r_mth, mthR_ok, r_mk, mkR_ok, r_lenSet, r_isLT, eqNR_lst, r_eqN, r_dget, r_dcpy, stoR_some, ex_setf, ex_dput, tabZ_fn, tabZ_gl, tabZ_mt, tabZ_mk, tabZ_fd, bindT, op_add, op_sub, op_lt, op_le, op_gt, op_ge, op_eq, op_ne, op_in, op_nin, op_is, op_isn, small_ok, q1]
        · rw [decide_eq_false h1] at q1
          by_cases h2 : w ∈ f
          · rw [decide_eq_true h2] at q2
            rw [if_neg fun z => z.2 h2]
            simp [exs_cons, exs_nil, exsK_nx, exsK_ap, ex_ifs, ifK_t, ifK_f, ex_asg1, ex_asg, ex_ret, ex_expr, ex_pass, ex_new, r_var, varR_val, r_own, ownR_own, r_cst, r_glo, r_op, r_chain, r_neg, negR_some, r_nt, r_and, r_or, r_ite, r_lst, r_tup, r_idx, r_slc0, r_slc1, r_slc2, r_slc3, r_rev, r_f1, r_f2, r_meth, r_isi, r_call, callR_ok, r_callO, callO_ok, r_lmeth, lmR_count, lmR_index, r_nrng, nrR_int, r_lzip, ex_cpy, ex_par, ex_retF, tabY_fn, tabY_gl, r_nil, r_cons, tab_fn, tab_gl, tabX_fn, tabX_gl, look_hit, look_miss, r_fld, r_mth, mthR_ok, r_mk, mkR_ok, r_lenSet, r_isLT, eqNR_lst, r_eqN, r_dget, r_dcpy, stoR_some, ex_setf, ex_dput, tabZ_fn, tabZ_gl, tabZ_mt, tabZ_mk, tabZ_fd, bindT, op_add, op_sub, op_lt, op_le, op_gt, op_ge, op_eq, op_ne, op_in, op_nin, op_is, op_isn, small_ok, q1, q2]
          · rw [decide_eq_false h2] at q2
            rw [if_pos ⟨h1, h2⟩]
            have ea := fun e => ex_app (F := nameF) (i := 4) (e := e) (ρ := [a, b, c, d, .own (f.map D.str), .val (.str w), k]) (S := S) rfl (by simp at hl ⊢; omega)
            simp [exs_cons, exs_nil, exsK_nx, exsK_ap, ex_ifs, ifK_t, ifK_f, ex_asg1, ex_asg, ex_ret, ex_expr, ex_pass, ex_new, r_var, varR_val, r_own, ownR_own, r_cst, r_glo, r_op, r_chain, r_neg, negR_some, r_nt, r_and, r_or, r_ite, r_lst, r_tup, r_idx, r_slc0, r_slc1, r_slc2, r_slc3, r_rev, r_f1, r_f2, r_meth, r_isi, r_call, callR_ok, r_callO, callO_ok, r_lmeth, lmR_count, lmR_index, r_nrng, nrR_int, r_lzip, ex_cpy, ex_par, ex_retF, tabY_fn, tabY_gl, r_nil, r_cons, tab_fn, tab_gl, tabX_fn, tabX_gl, look_hit, look_miss, r_fld, r_mth, mthR_ok, r_mk, mkR_ok, r_lenSet, r_isLT, eqNR_lst, r_eqN, r_dget, r_dcpy, stoR_some, ex_setf, ex_dput, tabZ_fn, tabZ_gl, tabZ_mt, tabZ_mk, tabZ_fd, bindT, op_add, op_sub, op_lt, op_le, op_gt, op_ge, op_eq, op_ne, op_in, op_nin, op_is, op_isn, small_ok, q1, q2, ea]
      have hl2 : (stpN f w).length + l.length ≤ 100 := by
        unfold stpN
        simp at hl
        split <;> (try simp) <;> omega
      obtain ⟨x', e⟩ := ih (stpN f w) (.val (.str w)) hl2
      exact ⟨x', by rw [List.map_cons, loop, hs, R.turn_nx, e, List.foldl_cons]⟩
  exact key l [] .emp (by simpa using hl)
/-! ### drawn names, drawn heights: the calls -/
def sixE : Ex := (.tup (.cons (.var 3) (.cons (.op .add (.slc (.var 3) none (some (.neg (.cst (.int 1))))) (.idx (.var 2) (.call 3 (.cons (.var 0) (.cons (.op .add (.var 1) (.cst (.int 7))) (.cons (.cst (.int 26)) .nil)))))) (.cons (.cst (.str [98])) (.cons (.slc (.var 3) (some (.cst (.int 1))) none) (.cons (.cst (.str [122, 101, 100])) (.cons (.cst (.str [97])) .nil)))))))
theorem b_names : b__law_names = (.cons (.asg (.name 2) (.cst (.str abc)))
  (.cons (.asg (.name 3) (.meth .join (.cst (.str [])) (.comp (.idx (.var 2) (.call 3 (.cons (.var 0) (.cons (.op .add (.var 1) (.var 6)) (.cons (.cst (.int 26)) .nil))))) (.name 6) (.rng (.op .add (.cst (.int 1)) (.call 3 (.cons (.var 0) (.cons (.op .add (.var 1) (.cst (.int 6))) (.cons (.cst (.int 6)) .nil)))))) [6])))
  (.cons (.new 4) (.cons (.each (.name 5) (.seq sixE) nameB) (.cons (.ret (.slc (.own 4) none (some (.op .add (.cst (.int 1)) (.call 3 (.cons (.var 0) (.cons (.op .add (.var 1) (.cst (.int 8))) (.cons (.cst (.int 4)) .nil)))))))) .nil))))) := rfl
theorem names_in (x y : D) (S : Sto) : fn__law_names [x, y] S = (exs nameF b__law_names [.val x, .val y, .emp, .emp, .emp, .emp, .emp] S).ends := rfl
theorem names_ok (sc : List Int) (hn : sc.length ≤ 63) (k : Int) (hk : 0 ≤ k) (S : Sto) : ∃ l, fn__law_names [.scr sc, .int k] S = .ok (strs_ l) S ∧ Names l := by
  obtain ⟨n, d1, n1, n2⟩ := draw_ok sc (k + 6) 6 S hn (by omega) (by decide)
  obtain ⟨c7, d2, e1, e2⟩ := draw_ok sc (k + 7) 26 S hn (by omega) (by decide)
  obtain ⟨c8, d3, e3, e4⟩ := draw_ok sc (k + 8) 4 S hn (by omega) (by decide)
  rw [← drawn_eq] at d1 d2 d3
  obtain ⟨m, rfl⟩ := Int.eq_ofNat_of_zero_le n1
  obtain ⟨q, rfl⟩ := Int.eq_ofNat_of_zero_le e3
  have er : rngD 0 (1 + (m : Int)) = some ((List.range' 0 (1 + m)).map fun j => .int (0 + (j : Nat))) := by
    have := rng_eq (1 + m) (by omega)
    push_cast at this
    exact this
  have hF : nameF.fn 3 = some fn__law_drawn := rfl
  have hi : evIt nameF (.rng (.op .add (.cst (.int 1)) (.call 3 (.cons (.var 0) (.cons (.op .add (.var 1) (.cst (.int 6))) (.cons (.cst (.int 6)) .nil)))))) [.val (.scr sc), .val (.int k), .val (.str abc), .emp, .emp, .emp, .emp] S = .ok ((List.range' 0 (1 + m)).map fun j => .int (0 + (j : Nat))) S := by
    refine ev_rng ?_ er
    simp [exs_cons, exs_nil, exsK_nx, exsK_ap, ex_ifs, ifK_t, ifK_f, ex_asg1, ex_asg, ex_ret, ex_expr, ex_pass, ex_new, r_var, varR_val, r_own, ownR_own, r_cst, r_glo, r_op, r_chain, r_neg, negR_some, r_nt, r_and, r_or, r_ite, r_lst, r_tup, r_idx, r_slc0, r_slc1, r_slc2, r_slc3, r_rev, r_f1, r_f2, r_meth, r_isi, r_call, callR_ok, r_callO, callO_ok, r_lmeth, lmR_count, lmR_index, r_nrng, nrR_int, r_lzip, ex_cpy, ex_par, ex_retF, tabY_fn, tabY_gl, r_nil, r_cons, tab_fn, tab_gl, tabX_fn, tabX_gl, look_hit, look_miss, r_fld, r_mth, mthR_ok, r_mk, mkR_ok, r_lenSet, r_isLT, eqNR_lst, r_eqN, r_dget, r_dcpy, stoR_some, ex_setf, ex_dput, tabZ_fn, tabZ_gl, tabZ_mt, tabZ_mk, tabZ_fd, bindT, op_add, op_sub, op_lt, op_le, op_gt, op_ge, op_eq, op_ne, op_in, op_nin, op_is, op_isn, small_ok, hF, d1]
  obtain ⟨one, o1, o2, o3⟩ := comp_exD (F := nameF) (e := (.idx (.var 2) (.call 3 (.cons (.var 0) (.cons (.op .add (.var 1) (.var 6)) (.cons (.cst (.int 26)) .nil)))))) (tg := .name 6) (vs := [6]) (P := fun c => 97 ≤ c ∧ c ≤ 122) (fun j : Nat => .int (0 + (j : Nat))) (fun c : Nat => .str [c]) hi (by simp; omega) fun j hj => by
    obtain ⟨r, d4, r1, r2⟩ := draw_ok sc (k + (0 + (j : Int))) 26 S hn (by omega) (by decide)
    rw [← drawn_eq] at d4
    obtain ⟨c, c1, c2⟩ := abc_at ⟨r1, r2⟩
    refine ⟨c, ?_, c2⟩
    generalize (0 : Int) + (j : Nat) = jj at *
    generalize abc = ab at *
    simp [exs_cons, exs_nil, exsK_nx, exsK_ap, ex_ifs, ifK_t, ifK_f, ex_asg1, ex_asg, ex_ret, ex_expr, ex_pass, ex_new, r_var, varR_val, r_own, ownR_own, r_cst, r_glo, r_op, r_chain, r_neg, negR_some, r_nt, r_and, r_or, r_ite, r_lst, r_tup, r_idx, r_slc0, r_slc1, r_slc2, r_slc3, r_rev, r_f1, r_f2, r_meth, r_isi, r_call, callR_ok, r_callO, callO_ok, r_lmeth, lmR_count, lmR_index, r_nrng, nrR_int, r_lzip, ex_cpy, ex_par, ex_retF, tabY_fn, tabY_gl, r_nil, r_cons, tab_fn, tab_gl, tabX_fn, tabX_gl, look_hit, look_miss, r_fld, r_mth, mthR_ok, r_mk, mkR_ok, r_lenSet, r_isLT, eqNR_lst, r_eqN, r_dget, r_dcpy, stoR_some, ex_setf, ex_dput, tabZ_fn, tabZ_gl, tabZ_mt, tabZ_mk, tabZ_fd, bindT, op_add, op_sub, op_lt, op_le, op_gt, op_ge, op_eq, op_ne, op_in, op_nin, op_is, op_isn, small_ok, compF, noOwn, wipe, hF, d4, c1]
  rw [List.length_range'] at o2
  have hj := join_one one (by omega)
  obtain ⟨c, c1, c2⟩ := abc_at ⟨e1, e2⟩
  have s1 : slc (.str one) none (some (-1)) = some (.str one.dropLast) := cut_init
  have s2 := sliceS_lo one
  have a1 := joinS one.dropLast [c] (by simp; omega)
  have hdl : ∀ x ∈ one.dropLast, x ∈ one := fun x hx => List.dropLast_subset _ hx
  have hone : NmOk one := ⟨by omega, o3⟩
  let six : List (List Nat) := [one, one.dropLast ++ [c], [98], one.drop 1, [122, 101, 100], [97]]
  have hsix : ∀ w ∈ six, w = [] ∨ NmOk w := by
    intro w hw
    simp only [six, List.mem_cons, List.not_mem_nil, or_false] at hw
    rcases hw with rfl | rfl | rfl | rfl | rfl | rfl
    · exact .inr hone
    · refine .inr ⟨by simp; omega, fun x hx => ?_⟩
      rcases List.mem_append.mp hx with hx | hx
      · exact o3 x (hdl x hx)
      · rw [List.mem_singleton.mp hx]; exact c2
    · exact .inr ⟨by decide, by decide⟩
    · by_cases hz : one.drop 1 = []
      · exact .inl hz
      · refine .inr ⟨⟨List.length_pos_iff.mpr hz, by simp; omega⟩, fun x hx => o3 x (List.mem_of_mem_drop hx)⟩
    · exact .inr ⟨by decide, by decide⟩
    · exact .inr ⟨by decide, by decide⟩
  obtain ⟨x, lo⟩ := name_loop S (.val (.scr sc)) (.val (.int k)) (.val (.str abc)) (.val (.str one)) .emp six (by simp [six])
  have h1 : stpN [] one = [one] := if_pos ⟨fun z => by rw [z] at o2; simp at o2; omega, by simp⟩
  obtain ⟨f1, f2, f3, f4⟩ := names_fold (six.drop 1) [one] (fun w hw => hsix w (List.mem_of_mem_drop hw)) (by simp) (fun w hw => by rw [List.mem_singleton.mp hw]; exact hone)
  have hfo : (six.drop 1).foldl stpN [one] = six.foldl stpN [] := by simp only [six, List.drop_succ_cons, List.drop_zero, List.foldl_cons, h1]
  rw [hfo] at f1 f2 f3
  have sl : slc (.lst ((six.foldl stpN []).map D.str)) none (some (1 + (q : Int))) = some (strs_ ((six.foldl stpN []).take (1 + q))) := by
    have := sliceL_hi ((six.foldl stpN []).map D.str) (1 + q)
    push_cast at this
    rw [this, ← List.map_take]
    rfl
  generalize six.foldl stpN [] = fin at *
  refine ⟨fin.take (1 + q), ?_, ⟨by rw [List.length_take]; simp at f3; omega, fun w hw => f2 w (List.mem_of_mem_take hw), List.Nodup.sublist (List.take_sublist ..) f1⟩⟩
  have hi2 : evIt nameF (.seq sixE) [.val (.scr sc), .val (.int k), .val (.str abc), .val (.str one), .own [], .emp, .emp] S = .ok (six.map D.str) S := by
    unfold sixE
    rw [evIt]
    generalize abc = ab at *
    simp [exs_cons, exs_nil, exsK_nx, exsK_ap, ex_ifs, ifK_t, ifK_f, ex_asg1, ex_asg, ex_ret, ex_expr, ex_pass, ex_new, r_var, varR_val, r_own, ownR_own, r_cst, r_glo, r_op, r_chain, r_neg, negR_some, r_nt, r_and, r_or, r_ite, r_lst, r_tup, r_idx, r_slc0, r_slc1, r_slc2, r_slc3, r_rev, r_f1, r_f2, r_meth, r_isi, r_call, callR_ok, r_callO, callO_ok, r_lmeth, lmR_count, lmR_index, r_nrng, nrR_int, r_lzip, ex_cpy, ex_par, ex_retF, tabY_fn, tabY_gl, r_nil, r_cons, tab_fn, tab_gl, tabX_fn, tabX_gl, look_hit, look_miss, r_fld, r_mth, mthR_ok, r_mk, mkR_ok, r_lenSet, r_isLT, eqNR_lst, r_eqN, r_dget, r_dcpy, stoR_some, ex_setf, ex_dput, tabZ_fn, tabZ_gl, tabZ_mt, tabZ_mk, tabZ_fd, bindT, op_add, op_sub, op_lt, op_le, op_gt, op_ge, op_eq, op_ne, op_in, op_nin, op_is, op_isn, small_ok, hF, s1, s2, d2, c1, a1]
    rw [← List.drop_one]
    rfl
  have he : ex nameF (.each (.name 5) (.seq sixE) nameB) [.val (.scr sc), .val (.int k), .val (.str abc), .val (.str one), .own [], .emp, .emp] S = .ok (.nx [.val (.scr sc), .val (.int k), .val (.str abc), .val (.str one), .own (fin.map D.str), x, .emp]) S := by
    rw [ex_each, hi2, R.then_ok]
    exact lo
  have ha : D.str [97, 98, 99, 100, 101, 102, 103, 104, 105, 106, 107, 108, 109, 110, 111, 112, 113, 114, 115, 116, 117, 118, 119, 120, 121, 122] = D.str abc := rfl
  rw [names_in, b_names]
  generalize abc = ab at *
  generalize hS : Ex.comp (.idx (.var 2) (.call 3 (.cons (.var 0) (.cons (.op .add (.var 1) (.var 6)) (.cons (.cst (.int 26)) .nil))))) (.name 6) (.rng (.op .add (.cst (.int 1)) (.call 3 (.cons (.var 0) (.cons (.op .add (.var 1) (.cst (.int 6))) (.cons (.cst (.int 6)) .nil)))))) [6] = cE at *
  simp [exs_cons, exs_nil, exsK_nx, exsK_ap, ex_ifs, ifK_t, ifK_f, ex_asg1, ex_asg, ex_ret, ex_expr, ex_pass, ex_new, r_var, varR_val, r_own, ownR_own, r_cst, r_glo, r_op, r_chain, r_neg, negR_some, r_nt, r_and, r_or, r_ite, r_lst, r_tup, r_idx, r_slc0, r_slc1, r_slc2, r_slc3, r_rev, r_f1, r_f2, r_meth, r_isi, r_call, callR_ok, r_callO, callO_ok, r_lmeth, lmR_count, lmR_index, r_nrng, nrR_int, r_lzip, ex_cpy, ex_par, ex_retF, tabY_fn, tabY_gl, r_nil, r_cons, tab_fn, tab_gl, tabX_fn, tabX_gl, look_hit, look_miss, r_fld, r_mth, mthR_ok, r_mk, mkR_ok, r_lenSet, r_isLT, eqNR_lst, r_eqN, r_dget, r_dcpy, stoR_some, ex_setf, ex_dput, tabZ_fn, tabZ_gl, tabZ_mt, tabZ_mk, tabZ_fd, bindT, op_add, op_sub, op_lt, op_le, op_gt, op_ge, op_eq, op_ne, op_in, op_nin, op_is, op_isn, small_ok, ha, o1, hj, he, hF, d3, sl]
structure Bars (bs : List Int) (most : Nat) : Prop where
  some_ : 1 ≤ bs.length ∧ bs.length ≤ most
  rng : ∀ b ∈ bs, 1 ≤ b ∧ b ≤ 999
  up : bs.Pairwise (· < ·)
def barE : Ex := (.op .add (.op .add (.var 4) (.cst (.int 1))) (.call 3 (.cons (.var 0) (.cons (.op .add (.op .add (.var 1) (.cst (.int 2))) (.var 5)) (.cons (.idx (.lst (.cons (.cst (.int 3)) (.cons (.cst (.int 60)) .nil))) (.call 3 (.cons (.var 0) (.cons (.op .add (.var 1) (.cst (.int 15))) (.cons (.cst (.int 2)) .nil))))) .nil)))))
def barB : Sms := (.cons (.asg (.name 4) barE) (.cons (.app 3 (.var 4)) .nil))
theorem b_bars : b__law_bars = (.cons (.new 3) (.cons (.asg (.name 4) (.call 3 (.cons (.var 0) (.cons (.var 1) (.cons (.cst (.int 200)) .nil)))))
  (.cons (.each (.name 5) (.rng (.op .add (.cst (.int 1)) (.call 3 (.cons (.var 0) (.cons (.op .add (.var 1) (.cst (.int 1))) (.cons (.var 2) .nil)))))) barB) (.cons (.ret (.f1 .tuple (.own 3))) .nil)))) := rfl
theorem bars_in (x y z : D) (S : Sto) : fn__law_bars [x, y, z] S = (exs nameF b__law_bars [.val x, .val y, .val z, .emp, .emp, .emp] S).ends := rfl
theorem two_at {a b : Int} {i : Int} (h : 0 ≤ i ∧ i < 2) : ∃ c, idx (.lst [.int a, .int b]) (.int i) = some (.int c) ∧ (c = a ∨ c = b) := by
  have : i = 0 ∨ i = 1 := by omega
  rcases this with rfl | rfl
  · exact ⟨a, rfl, .inl rfl⟩
  · exact ⟨b, rfl, .inr rfl⟩
theorem bars_ok (sc : List Int) (hn : sc.length ≤ 63) (k : Int) (hk : 0 ≤ k) (most : Nat) (hm : 1 ≤ most ∧ most ≤ 12) (S : Sto) : ∃ bs, fn__law_bars [.scr sc, .int k, .int most] S = .ok (tupI bs) S ∧ Bars bs most := by
  obtain ⟨v0, d1, n1, n2⟩ := draw_ok sc k 200 S hn (by omega) (by decide)
  obtain ⟨m, d2, e1, e2⟩ := draw_ok sc (k + 1) most S hn (by omega) (by omega)
  obtain ⟨c, d3, e3, e4⟩ := draw_ok sc (k + 15) 2 S hn (by omega) (by decide)
  rw [← drawn_eq] at d1 d2 d3
  obtain ⟨m, rfl⟩ := Int.eq_ofNat_of_zero_le e1
  obtain ⟨w, w1, w2⟩ := two_at (a := 3) (b := 60) ⟨e3, e4⟩
  have hw : 0 < w ∧ w ≤ 60 := by omega
  have hF : nameF.fn 3 = some fn__law_drawn := rfl
  have er : rngD 0 (1 + (m : Int)) = some ((List.range' 0 (1 + m)).map fun j => .int (0 + (j : Nat))) := by
    have := rng_eq (1 + m) (by omega)
    push_cast at this
    exact this
  let P : List D → Env → Prop := fun pre ρ => ∃ (f : List Int) (last : Int) (x : Slot), ρ = [.val (.scr sc), .val (.int k), .val (.int most), .own (f.map D.int), .val (.int last), x] ∧ f.length = pre.length ∧ 0 ≤ last ∧ last ≤ 199 + 60 * f.length ∧ (∀ b ∈ f, 1 ≤ b ∧ b ≤ last) ∧ f.Pairwise (· < ·)
  obtain ⟨ρ', l1, f, last, x, rfl, f1, f2, f3, f4, f5⟩ := loop_inv (f := eachF nameF (.name 5) barB) (S := S) P ((List.range' 0 (1 + m)).map fun j => .int (0 + (j : Nat))) [] [.val (.scr sc), .val (.int k), .val (.int most), .own [], .val (.int v0), .emp] ⟨[], v0, .emp, rfl, rfl, n1, by simp; omega, by simp, .nil⟩ (by
    intro pre d post ρ hsp ⟨f, last, x, hρ, g1, g2, g3, g4, g5⟩
    subst hρ
    have hd : d ∈ (List.range' 0 (1 + m)).map fun j => D.int (0 + (j : Nat)) := by
      rw [List.nil_append] at hsp
      rw [hsp]; simp
    obtain ⟨j, hj, rfl⟩ := List.mem_map.mp hd
    have hl : pre.length ≤ 1 + m := by
      have := congrArg List.length hsp
      simp at this
      omega
    obtain ⟨r, d4, r1, r2⟩ := draw_ok sc (k + 2 + (0 + (j : Int))) w S hn (by omega) (by omega)
    rw [← drawn_eq] at d4
    refine ⟨_, ?_, f ++ [last + 1 + r], last + 1 + r, .val (.int (0 + (j : Int))), rfl, by simp [g1], by omega, by simp; omega, fun b hb => ?_, ?_⟩
    · have ea := fun e y z => ex_app (F := nameF) (i := 3) (e := e) (ρ := [.val (.scr sc), .val (.int k), .val (.int most), .own (f.map D.int), y, z]) (S := S) rfl (by simp; omega)
      generalize (0 : Int) + (j : Nat) = jj at *
      unfold eachF barB barE
      simp [exs_cons, exs_nil, exsK_nx, exsK_ap, ex_ifs, ifK_t, ifK_f, ex_asg1, ex_asg, ex_ret, ex_expr, ex_pass, ex_new, r_var, varR_val, r_own, ownR_own, r_cst, r_glo, r_op, r_chain, r_neg, negR_some, r_nt, r_and, r_or, r_ite, r_lst, r_tup, r_idx, r_slc0, r_slc1, r_slc2, r_slc3, r_rev, r_f1, r_f2, r_meth, r_isi, r_call, callR_ok, r_callO, callO_ok, r_lmeth, lmR_count, lmR_index, r_nrng, nrR_int, r_lzip, ex_cpy, ex_par, ex_retF, tabY_fn, tabY_gl, r_nil, r_cons, tab_fn, tab_gl, tabX_fn, tabX_gl, look_hit, look_miss, r_fld, r_mth, mthR_ok, r_mk, mkR_ok, r_lenSet, r_isLT, eqNR_lst, r_eqN, r_dget, r_dcpy, stoR_some, ex_setf, ex_dput, tabZ_fn, tabZ_gl, tabZ_mt, tabZ_mk, tabZ_fd, bindT, op_add, op_sub, op_lt, op_le, op_gt, op_ge, op_eq, op_ne, op_in, op_nin, op_is, op_isn, small_ok, hF, d3, w1, d4, ea]
    · rcases List.mem_append.mp hb with hb | hb
      · have := g4 b hb; omega
      · rw [List.mem_singleton.mp hb]; omega
    · rw [List.pairwise_append]
      refine ⟨g5, by simp, fun a ha b hb => ?_⟩
      rw [List.mem_singleton.mp hb]
      have := g4 a ha
      omega)
  rw [List.nil_append, List.length_map, List.length_range'] at f1
  refine ⟨f, ?_, ⟨by omega, fun b hb => by have := f4 b hb; omega, f5⟩⟩
  have hi : evIt nameF (.rng (.op .add (.cst (.int 1)) (.call 3 (.cons (.var 0) (.cons (.op .add (.var 1) (.cst (.int 1))) (.cons (.var 2) .nil)))))) [.val (.scr sc), .val (.int k), .val (.int most), .own [], .val (.int v0), .emp] S = .ok ((List.range' 0 (1 + m)).map fun j => .int (0 + (j : Nat))) S := by
    refine ev_rng ?_ er
    simp [exs_cons, exs_nil, exsK_nx, exsK_ap, ex_ifs, ifK_t, ifK_f, ex_asg1, ex_asg, ex_ret, ex_expr, ex_pass, ex_new, r_var, varR_val, r_own, ownR_own, r_cst, r_glo, r_op, r_chain, r_neg, negR_some, r_nt, r_and, r_or, r_ite, r_lst, r_tup, r_idx, r_slc0, r_slc1, r_slc2, r_slc3, r_rev, r_f1, r_f2, r_meth, r_isi, r_call, callR_ok, r_callO, callO_ok, r_lmeth, lmR_count, lmR_index, r_nrng, nrR_int, r_lzip, ex_cpy, ex_par, ex_retF, tabY_fn, tabY_gl, r_nil, r_cons, tab_fn, tab_gl, tabX_fn, tabX_gl, look_hit, look_miss, r_fld, r_mth, mthR_ok, r_mk, mkR_ok, r_lenSet, r_isLT, eqNR_lst, r_eqN, r_dget, r_dcpy, stoR_some, ex_setf, ex_dput, tabZ_fn, tabZ_gl, tabZ_mt, tabZ_mk, tabZ_fd, bindT, op_add, op_sub, op_lt, op_le, op_gt, op_ge, op_eq, op_ne, op_in, op_nin, op_is, op_isn, small_ok, hF, d2]
  have he : ex nameF (.each (.name 5) (.rng (.op .add (.cst (.int 1)) (.call 3 (.cons (.var 0) (.cons (.op .add (.var 1) (.cst (.int 1))) (.cons (.var 2) .nil)))))) barB) [.val (.scr sc), .val (.int k), .val (.int most), .own [], .val (.int v0), .emp] S = .ok (.nx [.val (.scr sc), .val (.int k), .val (.int most), .own (f.map D.int), .val (.int last), x]) S := by
    rw [ex_each, hi, R.then_ok]
    exact l1
  have tp : b1 .tuple (.lst (f.map D.int)) = some (tupI f) := rfl
  rw [bars_in, b_bars]
  simp [exs_cons, exs_nil, exsK_nx, exsK_ap, ex_ifs, ifK_t, ifK_f, ex_asg1, ex_asg, ex_ret, ex_expr, ex_pass, ex_new, r_var, varR_val, r_own, ownR_own, r_cst, r_glo, r_op, r_chain, r_neg, negR_some, r_nt, r_and, r_or, r_ite, r_lst, r_tup, r_idx, r_slc0, r_slc1, r_slc2, r_slc3, r_rev, r_f1, r_f2, r_meth, r_isi, r_call, callR_ok, r_callO, callO_ok, r_lmeth, lmR_count, lmR_index, r_nrng, nrR_int, r_lzip, ex_cpy, ex_par, ex_retF, tabY_fn, tabY_gl, r_nil, r_cons, tab_fn, tab_gl, tabX_fn, tabX_gl, look_hit, look_miss, r_fld, r_mth, mthR_ok, r_mk, mkR_ok, r_lenSet, r_isLT, eqNR_lst, r_eqN, r_dget, r_dcpy, stoR_some, ex_setf, ex_dput, tabZ_fn, tabZ_gl, tabZ_mt, tabZ_mk, tabZ_fd, bindT, op_add, op_sub, op_lt, op_le, op_gt, op_ge, op_eq, op_ne, op_in, op_nin, op_is, op_isn, small_ok, hF, d1, he, tp]
/-! ### a new meet -/
theorem number_ok (a l m : Int) (S : Sto) (h : l ≤ a ∧ a ≤ m) : fn_is_number [.int a, .int l, .int m] S = .ok (.bl true) S := by
  have i1 : isA (.int a) .int = some true := rfl
  have i2 : isA (.int a) .bool = some false := rfl
  (unfold fn_is_number; simp only [fn1, fn2, fn3, fn4, fF1, fF2, Nat.reduceSub, List.replicate_succ, List.replicate_zero])
  simp [exs_cons, exs_nil, exsK_nx, exsK_ap, ex_ifs, ifK_t, ifK_f, ex_asg1, ex_asg, ex_ret, ex_expr, ex_pass, ex_new, r_var, varR_val, r_own, ownR_own, r_cst, r_glo, r_op, r_chain, r_neg, negR_some, r_nt, r_and, r_or, r_ite, r_lst, r_tup, r_idx, r_slc0, r_slc1, r_slc2, r_slc3, r_rev, r_f1, r_f2, r_meth, r_isi, r_call, callR_ok, r_callO, callO_ok, r_lmeth, lmR_count, lmR_index, r_nrng, nrR_int, r_lzip, ex_cpy, ex_par, ex_retF, tabY_fn, tabY_gl, r_nil, r_cons, tab_fn, tab_gl, tabX_fn, tabX_gl, look_hit, look_miss, r_fld, r_mth, mthR_ok, r_mk, mkR_ok, r_lenSet, r_isLT, eqNR_lst, r_eqN, r_dget, r_dcpy, stoR_some, ex_setf, ex_dput, tabZ_fn, tabZ_gl, tabZ_mt, tabZ_mk, tabZ_fd, bindT, op_add, op_sub, op_lt, op_le, op_gt, op_ge, op_eq, op_ne, op_in, op_nin, op_is, op_isn, small_ok, b_is_number, i1, i2, h.1, h.2]
theorem is_name_ok {w : List Nat} (h : NmOk w) (S : Sto) : fn_is_name [.str w] S = .ok (.bl true) S := by
  have i1 : isA (.str w) .str = some true := rfl
  have bl : b1 .len (.str w) = some (.int (w.length : Nat)) := rfl
  have ha : D.str [97, 98, 99, 100, 101, 102, 103, 104, 105, 106, 107, 108, 109, 110, 111, 112, 113, 114, 115, 116, 117, 118, 119, 120, 121, 122] = D.str abc := rfl
  have c1 : ∀ F : Fns, F.gl 3 = some (.str abc) → ev F (.comp (.op .isin (.var 1) (.glo 3)) (.name 1) (.seq (.var 0)) [1]) [.val (.str w), .emp] S = .ok (.lst (w.map fun _ => .bl true)) S := fun F f3 => by
    refine comp_map (l := w) (fun c => .str [c]) (fun _ => .bl true) (by rw [evIt, r_var]; rfl) (by have := h.1; omega) fun c hc => ?_
    have : inO (.str [c]) (.str abc) = some true := by
      show some (decide (c ∈ abc)) = _
      rw [decide_eq_true (abc_mem (h.2 c hc))]
    generalize abc = ab at *
    simp [exs_cons, exs_nil, exsK_nx, exsK_ap, ex_ifs, ifK_t, ifK_f, ex_asg1, ex_asg, ex_ret, ex_expr, ex_pass, ex_new, r_var, varR_val, r_own, ownR_own, r_cst, r_glo, r_op, r_chain, r_neg, negR_some, r_nt, r_and, r_or, r_ite, r_lst, r_tup, r_idx, r_slc0, r_slc1, r_slc2, r_slc3, r_rev, r_f1, r_f2, r_meth, r_isi, r_call, callR_ok, r_callO, callO_ok, r_lmeth, lmR_count, lmR_index, r_nrng, nrR_int, r_lzip, ex_cpy, ex_par, ex_retF, tabY_fn, tabY_gl, r_nil, r_cons, tab_fn, tab_gl, tabX_fn, tabX_gl, look_hit, look_miss, r_fld, r_mth, mthR_ok, r_mk, mkR_ok, r_lenSet, r_isLT, eqNR_lst, r_eqN, r_dget, r_dcpy, stoR_some, ex_setf, ex_dput, tabZ_fn, tabZ_gl, tabZ_mt, tabZ_mk, tabZ_fd, bindT, op_add, op_sub, op_lt, op_le, op_gt, op_ge, op_eq, op_ne, op_in, op_nin, op_is, op_isn, small_ok, compF, noOwn, wipe, f3, this]
  have l1 : (1 : Int) ≤ (w.length : Nat) := by have := h.1; omega
  have l2 : ((w.length : Nat) : Int) ≤ 6 := by have := h.1; omega
  (unfold fn_is_name; simp only [fn1, fn2, fn3, fn4, fF1, fF2, Nat.reduceSub, List.replicate_succ, List.replicate_zero])
  rw [ha]
  generalize abc = ab at *
  simp [exs_cons, exs_nil, exsK_nx, exsK_ap, ex_ifs, ifK_t, ifK_f, ex_asg1, ex_asg, ex_ret, ex_expr, ex_pass, ex_new, r_var, varR_val, r_own, ownR_own, r_cst, r_glo, r_op, r_chain, r_neg, negR_some, r_nt, r_and, r_or, r_ite, r_lst, r_tup, r_idx, r_slc0, r_slc1, r_slc2, r_slc3, r_rev, r_f1, r_f2, r_meth, r_isi, r_call, callR_ok, r_callO, callO_ok, r_lmeth, lmR_count, lmR_index, r_nrng, nrR_int, r_lzip, ex_cpy, ex_par, ex_retF, tabY_fn, tabY_gl, r_nil, r_cons, tab_fn, tab_gl, tabX_fn, tabX_gl, look_hit, look_miss, r_fld, r_mth, mthR_ok, r_mk, mkR_ok, r_lenSet, r_isLT, eqNR_lst, r_eqN, r_dget, r_dcpy, stoR_some, ex_setf, ex_dput, tabZ_fn, tabZ_gl, tabZ_mt, tabZ_mk, tabZ_fd, bindT, op_add, op_sub, op_lt, op_le, op_gt, op_ge, op_eq, op_ne, op_in, op_nin, op_is, op_isn, small_ok, b_is_name, i1, bl, l1, l2, c1, all_true']
theorem uq_all {α : Type} [BEq α] [LawfulBEq α] : ∀ (l pre : List α), (pre ++ l).Nodup → uqN pre l = l.length
  | [], _, _ => rfl
  | x :: l, pre, h => by
    have h1 : pre.any (· == x) = false := by
      rw [List.any_eq_false]
      intro y hy z
      have := eq_of_beq z
      subst this
      rw [List.nodup_append] at h
      exact h.2.2 y hy y (List.mem_cons_self ..) rfl
    rw [uqN, h1, uq_all l (pre ++ [x]) (by simpa using h)]
    simp
    omega
theorem need_names_ok {ns : List (List Nat)} (h : Names ns) (x : D) (hx : x = strs_ ns ∨ x = tupS ns) (S : Sto) : fn_need_names [x] S = .ok .non S := by
  have hs := h.some_
  have i1 : isLTD x = some true := by rcases hx with rfl | rfl <;> rfl
  have bl : b1 .len x = some (.int (ns.length : Nat)) := by rcases hx with rfl | rfl <;> simp [strs_, tupS, b1]
  have sq : seqD x = some (ns.map D.str) := by rcases hx with rfl | rfl <;> rfl
  have ls : lenSetD x = some (.int (ns.length : Nat)) := by
    have sq : seqLT x = some (ns.map D.str) := by rcases hx with rfl | rfl <;> rfl
    have st : ∀ l : List (List Nat), strsD (l.map D.str) = some l := fun l => by
      induction l with
      | nil => rfl
      | cons a l ih => rw [List.map_cons, strsD, ih]; rfl
    simp only [lenSetD, sq, st]
    rw [if_pos (by omega), uq_all ns [] (by simpa using h.nd)]
  have c1 : ∀ F : Fns, F.fn 29 = some fn_is_name → ev F (.comp (.call 29 (.cons (.var 1) .nil)) (.name 1) (.seq (.var 0)) [1]) [.val x, .emp] S = .ok (.lst (ns.map fun _ => .bl true)) S := fun F f => by
    refine comp_map (l := ns) D.str (fun _ => .bl true) (by rw [evIt, r_var]; show (R.ok x S).bind _ = _; rw [R.bind_ok, sq]; rfl) (by omega) fun w hw => ?_
    simp [exs_cons, exs_nil, exsK_nx, exsK_ap, ex_ifs, ifK_t, ifK_f, ex_asg1, ex_asg, ex_ret, ex_expr, ex_pass, ex_new, r_var, varR_val, r_own, ownR_own, r_cst, r_glo, r_op, r_chain, r_neg, negR_some, r_nt, r_and, r_or, r_ite, r_lst, r_tup, r_idx, r_slc0, r_slc1, r_slc2, r_slc3, r_rev, r_f1, r_f2, r_meth, r_isi, r_call, callR_ok, r_callO, callO_ok, r_lmeth, lmR_count, lmR_index, r_nrng, nrR_int, r_lzip, ex_cpy, ex_par, ex_retF, tabY_fn, tabY_gl, r_nil, r_cons, tab_fn, tab_gl, tabX_fn, tabX_gl, look_hit, look_miss, r_fld, r_mth, mthR_ok, r_mk, mkR_ok, r_lenSet, r_isLT, eqNR_lst, r_eqN, r_dget, r_dcpy, stoR_some, ex_setf, ex_dput, tabZ_fn, tabZ_gl, tabZ_mt, tabZ_mk, tabZ_fd, bindT, op_add, op_sub, op_lt, op_le, op_gt, op_ge, op_eq, op_ne, op_in, op_nin, op_is, op_isn, small_ok, compF, noOwn, wipe, f, is_name_ok (h.nm w hw) S]
  have l1 : (1 : Int) ≤ (ns.length : Nat) := by omega
  have l2 : ((ns.length : Nat) : Int) ≤ 6 := by omega
  have l3 : ¬ ((ns.length : Nat) : Int) < (ns.length : Nat) := by omega
  (unfold fn_need_names; simp only [fn1, fn2, fn3, fn4, fF1, fF2, Nat.reduceSub, List.replicate_succ, List.replicate_zero])
  simp [exs_cons, exs_nil, exsK_nx, exsK_ap, ex_ifs, ifK_t, ifK_f, ex_asg1, ex_asg, ex_ret, ex_expr, ex_pass, ex_new, r_var, varR_val, r_own, ownR_own, r_cst, r_glo, r_op, r_chain, r_neg, negR_some, r_nt, r_and, r_or, r_ite, r_lst, r_tup, r_idx, r_slc0, r_slc1, r_slc2, r_slc3, r_rev, r_f1, r_f2, r_meth, r_isi, r_call, callR_ok, r_callO, callO_ok, r_lmeth, lmR_count, lmR_index, r_nrng, nrR_int, r_lzip, ex_cpy, ex_par, ex_retF, tabY_fn, tabY_gl, r_nil, r_cons, tab_fn, tab_gl, tabX_fn, tabX_gl, look_hit, look_miss, r_fld, r_mth, mthR_ok, r_mk, mkR_ok, r_lenSet, r_isLT, eqNR_lst, r_eqN, r_dget, r_dcpy, stoR_some, ex_setf, ex_dput, tabZ_fn, tabZ_gl, tabZ_mt, tabZ_mk, tabZ_fd, bindT, op_add, op_sub, op_lt, op_le, op_gt, op_ge, op_eq, op_ne, op_in, op_nin, op_is, op_isn, small_ok, b_need_names, i1, bl, l1, l2, c1, all_true', ls, l3]
theorem up_zip : ∀ {l : List Int}, l.Pairwise (· < ·) → ∀ p ∈ l.zip (l.drop 1), p.1 < p.2
  | [], _, p, hp => by simp at hp
  | [x], _, p, hp => by simp at hp
  | x :: y :: l, h, p, hp => by
    rw [List.pairwise_cons] at h
    simp only [List.drop_succ_cons, List.drop_zero, List.zip_cons_cons, List.mem_cons] at hp
    rcases hp with rfl | hp
    · exact h.1 y (List.mem_cons_self ..)
    · exact up_zip h.2 p (by simpa using hp)
theorem need_bars_ok {bs : List Int} {most : Nat} (h : Bars bs most) (hm : most ≤ 12) (S : Sto) : fn_need_bars [tupI bs] S = .ok .non S := by
  have hs := h.some_
  have i1 : isA (tupI bs) .tuple = some true := rfl
  have bl : b1 .len (tupI bs) = some (.int (bs.length : Nat)) := by simp [tupI, b1]
  have l1 : (1 : Int) ≤ (bs.length : Nat) := by omega
  have l2 : ((bs.length : Nat) : Int) ≤ 12 := by omega
  have c1 : ∀ F : Fns, F.fn 11 = some fn_is_number → ev F (.comp (.call 11 (.cons (.var 1) (.cons (.cst (.int 1)) (.cons (.cst (.int 999)) .nil)))) (.name 1) (.seq (.var 0)) [1]) [.val (tupI bs), .emp, .emp, .emp] S = .ok (.lst (bs.map fun _ => .bl true)) S := fun F f => by
    refine comp_map (l := bs) D.int (fun _ => .bl true) (by rw [evIt, r_var]; rfl) (by omega) fun b hb => ?_
    simp [exs_cons, exs_nil, exsK_nx, exsK_ap, ex_ifs, ifK_t, ifK_f, ex_asg1, ex_asg, ex_ret, ex_expr, ex_pass, ex_new, r_var, varR_val, r_own, ownR_own, r_cst, r_glo, r_op, r_chain, r_neg, negR_some, r_nt, r_and, r_or, r_ite, r_lst, r_tup, r_idx, r_slc0, r_slc1, r_slc2, r_slc3, r_rev, r_f1, r_f2, r_meth, r_isi, r_call, callR_ok, r_callO, callO_ok, r_lmeth, lmR_count, lmR_index, r_nrng, nrR_int, r_lzip, ex_cpy, ex_par, ex_retF, tabY_fn, tabY_gl, r_nil, r_cons, tab_fn, tab_gl, tabX_fn, tabX_gl, look_hit, look_miss, r_fld, r_mth, mthR_ok, r_mk, mkR_ok, r_lenSet, r_isLT, eqNR_lst, r_eqN, r_dget, r_dcpy, stoR_some, ex_setf, ex_dput, tabZ_fn, tabZ_gl, tabZ_mt, tabZ_mk, tabZ_fd, bindT, op_add, op_sub, op_lt, op_le, op_gt, op_ge, op_eq, op_ne, op_in, op_nin, op_is, op_isn, small_ok, compF, noOwn, wipe, f, number_ok b 1 999 S (h.rng b hb)]
  have s1 : slc (tupI bs) (some 1) none = some (tupI (bs.drop 1)) := by
    have := slcT_hi (bs.map D.int) 1
    rw [← List.map_drop] at this
    exact this
  have z1 : zipD (tupI bs) (tupI (bs.drop 1)) = some ((bs.zip (bs.drop 1)).map fun p => .tup [.int p.1, .int p.2]) := by
    show okZ ((bs.map D.int).zipWith (fun x y => .tup [x, y]) ((bs.drop 1).map D.int)) = some _
    rw [List.zipWith_map, List.zip_eq_zipWith, List.map_zipWith]
    exact okZ_all fun d hd => by
      obtain ⟨i, hi, rfl⟩ := List.getElem_of_mem hd
      simp [untx, strB]
  have c2 : ∀ F : Fns, ev F (.comp (.op .lt (.var 2) (.var 3)) (.pair (.name 2) (.name 3)) (.zip (.var 0) (.slc (.var 0) (some (.cst (.int 1))) none)) [2, 3]) [.val (tupI bs), .emp, .emp, .emp] S = .ok (.lst ((bs.zip (bs.drop 1)).map fun _ => .bl true)) S := fun F => by
    refine comp_map (l := bs.zip (bs.drop 1)) (fun p => .tup [.int p.1, .int p.2]) (fun _ => .bl true) ?_ (by simp; omega) fun p hp => ?_
    · rw [evIt]
      generalize tupI (bs.drop 1) = T2 at *
      generalize tupI bs = T1 at *
      generalize (bs.zip (bs.drop 1)).map (fun p => D.tup [.int p.1, .int p.2]) = M at *
      simp [exs_cons, exs_nil, exsK_nx, exsK_ap, ex_ifs, ifK_t, ifK_f, ex_asg1, ex_asg, ex_ret, ex_expr, ex_pass, ex_new, r_var, varR_val, r_own, ownR_own, r_cst, r_glo, r_op, r_chain, r_neg, negR_some, r_nt, r_and, r_or, r_ite, r_lst, r_tup, r_idx, r_slc0, r_slc1, r_slc2, r_slc3, r_rev, r_f1, r_f2, r_meth, r_isi, r_call, callR_ok, r_callO, callO_ok, r_lmeth, lmR_count, lmR_index, r_nrng, nrR_int, r_lzip, ex_cpy, ex_par, ex_retF, tabY_fn, tabY_gl, r_nil, r_cons, tab_fn, tab_gl, tabX_fn, tabX_gl, look_hit, look_miss, r_fld, r_mth, mthR_ok, r_mk, mkR_ok, r_lenSet, r_isLT, eqNR_lst, r_eqN, r_dget, r_dcpy, stoR_some, ex_setf, ex_dput, tabZ_fn, tabZ_gl, tabZ_mt, tabZ_mk, tabZ_fd, bindT, op_add, op_sub, op_lt, op_le, op_gt, op_ge, op_eq, op_ne, op_in, op_nin, op_is, op_isn, small_ok, s1, z1]
    · have := up_zip h.up p hp
      simp [exs_cons, exs_nil, exsK_nx, exsK_ap, ex_ifs, ifK_t, ifK_f, ex_asg1, ex_asg, ex_ret, ex_expr, ex_pass, ex_new, r_var, varR_val, r_own, ownR_own, r_cst, r_glo, r_op, r_chain, r_neg, negR_some, r_nt, r_and, r_or, r_ite, r_lst, r_tup, r_idx, r_slc0, r_slc1, r_slc2, r_slc3, r_rev, r_f1, r_f2, r_meth, r_isi, r_call, callR_ok, r_callO, callO_ok, r_lmeth, lmR_count, lmR_index, r_nrng, nrR_int, r_lzip, ex_cpy, ex_par, ex_retF, tabY_fn, tabY_gl, r_nil, r_cons, tab_fn, tab_gl, tabX_fn, tabX_gl, look_hit, look_miss, r_fld, r_mth, mthR_ok, r_mk, mkR_ok, r_lenSet, r_isLT, eqNR_lst, r_eqN, r_dget, r_dcpy, stoR_some, ex_setf, ex_dput, tabZ_fn, tabZ_gl, tabZ_mt, tabZ_mk, tabZ_fd, bindT, op_add, op_sub, op_lt, op_le, op_gt, op_ge, op_eq, op_ne, op_in, op_nin, op_is, op_isn, small_ok, compF, noOwn, wipe, this]
  have ib : fn_is_bars [tupI bs] S = .ok (.bl true) S := by
    (unfold fn_is_bars; simp only [fn1, fn2, fn3, fn4, fF1, fF2, Nat.reduceSub, List.replicate_succ, List.replicate_zero])
    simp [exs_cons, exs_nil, exsK_nx, exsK_ap, ex_ifs, ifK_t, ifK_f, ex_asg1, ex_asg, ex_ret, ex_expr, ex_pass, ex_new, r_var, varR_val, r_own, ownR_own, r_cst, r_glo, r_op, r_chain, r_neg, negR_some, r_nt, r_and, r_or, r_ite, r_lst, r_tup, r_idx, r_slc0, r_slc1, r_slc2, r_slc3, r_rev, r_f1, r_f2, r_meth, r_isi, r_call, callR_ok, r_callO, callO_ok, r_lmeth, lmR_count, lmR_index, r_nrng, nrR_int, r_lzip, ex_cpy, ex_par, ex_retF, tabY_fn, tabY_gl, r_nil, r_cons, tab_fn, tab_gl, tabX_fn, tabX_gl, look_hit, look_miss, r_fld, r_mth, mthR_ok, r_mk, mkR_ok, r_lenSet, r_isLT, eqNR_lst, r_eqN, r_dget, r_dcpy, stoR_some, ex_setf, ex_dput, tabZ_fn, tabZ_gl, tabZ_mt, tabZ_mk, tabZ_fd, bindT, op_add, op_sub, op_lt, op_le, op_gt, op_ge, op_eq, op_ne, op_in, op_nin, op_is, op_isn, small_ok, b_is_bars, i1, bl, l1, l2, c1, all_true', c2]
  (unfold fn_need_bars; simp only [fn1, fn2, fn3, fn4, fF1, fF2, Nat.reduceSub, List.replicate_succ, List.replicate_zero])
  simp [exs_cons, exs_nil, exsK_nx, exsK_ap, ex_ifs, ifK_t, ifK_f, ex_asg1, ex_asg, ex_ret, ex_expr, ex_pass, ex_new, r_var, varR_val, r_own, ownR_own, r_cst, r_glo, r_op, r_chain, r_neg, negR_some, r_nt, r_and, r_or, r_ite, r_lst, r_tup, r_idx, r_slc0, r_slc1, r_slc2, r_slc3, r_rev, r_f1, r_f2, r_meth, r_isi, r_call, callR_ok, r_callO, callO_ok, r_lmeth, lmR_count, lmR_index, r_nrng, nrR_int, r_lzip, ex_cpy, ex_par, ex_retF, tabY_fn, tabY_gl, r_nil, r_cons, tab_fn, tab_gl, tabX_fn, tabX_gl, look_hit, look_miss, r_fld, r_mth, mthR_ok, r_mk, mkR_ok, r_lenSet, r_isLT, eqNR_lst, r_eqN, r_dget, r_dcpy, stoR_some, ex_setf, ex_dput, tabZ_fn, tabZ_gl, tabZ_mt, tabZ_mk, tabZ_fd, bindT, op_add, op_sub, op_lt, op_le, op_gt, op_ge, op_eq, op_ne, op_in, op_nin, op_is, op_isn, small_ok, b_need_bars, ib]
theorem meet_init {ns : List (List Nat)} {bs : List Int} {st : Int} {most : Nat} (hn : Names ns) (hb : Bars bs most) (hm : most ≤ 12) (hs : 1 ≤ st ∧ st ≤ 50) (x : D) (hx : x = strs_ ns ∨ x = tupS ns) (S : Sto) :
    fn_Meet___init__ [.obj S.length, x, tupI bs, .int st] (S ++ [.ins 12 []]) = .ok .non (S ++ [mtC ns bs st (S.length + 1) [] []] ++ [sdC (sd0 (ns.map fun _ => [[]]))]) := by
  have k : ∀ (fs : List (Nat × D)) (f : Nat) (v : D), fdF 12 f = true → fs.length < 100 → setAt fdF f (.obj S.length) v (S ++ [.ins 12 fs]) = some (S ++ [.ins 12 (putN f v fs)]) := fun fs f v h1 h2 => by
    rw [setAt_ins (C := 12) (fs := fs) (by simp) h1 h2]
    simp
  have k' : ∀ (fs : List (Nat × D)) (c : Cell) (f : Nat) (v : D), fdF 12 f = true → fs.length < 100 → setAt fdF f (.obj S.length) v (S ++ [.ins 12 fs] ++ [c]) = some (S ++ [.ins 12 (putN f v fs)] ++ [c]) := fun fs c f v h1 h2 => by
    rw [setAt_ins (C := 12) (fs := fs) (by simp) h1 h2]
    simp
  have f : ∀ i, 8 ≤ i → i < 14 → fdF 12 i = true := by
    intro i h1 h2
    have : i = 8 ∨ i = 9 ∨ i = 10 ∨ i = 11 ∨ i = 12 ∨ i = 13 := by omega
    rcases this with rfl | rfl | rfl | rfl | rfl | rfl <;> decide
  have k8 := fun fs v => k fs 8 v (f 8 (by decide) (by decide))
  have k9 := fun fs v => k fs 9 v (f 9 (by decide) (by decide))
  have k10 := fun fs v => k fs 10 v (f 10 (by decide) (by decide))
  have k11 := fun fs c v => k' fs c 11 v (f 11 (by decide) (by decide))
  have k12 := fun fs c v => k' fs c 12 v (f 12 (by decide) (by decide))
  have k13 := fun fs c v => k' fs c 13 v (f 13 (by decide) (by decide))
  have tp : b1 .tuple x = some (tupS ns) := by rcases hx with rfl | rfl <;> rfl
  have n1 := need_names_ok hn x hx
  have b1' := need_bars_ok hb hm
  have u1 := fun S => number_ok st 1 50 S hs
  have sq : seqD x = some (ns.map D.str) := by rcases hx with rfl | rfl <;> rfl
  have c1 : ∀ (F : Fns) (S : Sto) (a b c : D), ev F (.comp (.tup (.cons (.cst (.str [])) .nil)) (.name 4) (.seq (.var 1)) [4]) [.val a, .val x, .val b, .val c, .emp] S = .ok (.lst (ns.map fun _ => tupS [[]])) S := fun F S a b c => by
    refine comp_map (l := ns) D.str (fun _ => tupS [[]]) (by rw [evIt, r_var]; show (R.ok x S).bind _ = _; rw [R.bind_ok, sq]; rfl) (by have := hn.some_; omega) fun w hw => ?_
    simp [exs_cons, exs_nil, exsK_nx, exsK_ap, ex_ifs, ifK_t, ifK_f, ex_asg1, ex_asg, ex_ret, ex_expr, ex_pass, ex_new, r_var, varR_val, r_own, ownR_own, r_cst, r_glo, r_op, r_chain, r_neg, negR_some, r_nt, r_and, r_or, r_ite, r_lst, r_tup, r_idx, r_slc0, r_slc1, r_slc2, r_slc3, r_rev, r_f1, r_f2, r_meth, r_isi, r_call, callR_ok, r_callO, callO_ok, r_lmeth, lmR_count, lmR_index, r_nrng, nrR_int, r_lzip, ex_cpy, ex_par, ex_retF, tabY_fn, tabY_gl, r_nil, r_cons, tab_fn, tab_gl, tabX_fn, tabX_gl, look_hit, look_miss, r_fld, r_mth, mthR_ok, r_mk, mkR_ok, r_lenSet, r_isLT, eqNR_lst, r_eqN, r_dget, r_dcpy, stoR_some, ex_setf, ex_dput, tabZ_fn, tabZ_gl, tabZ_mt, tabZ_mk, tabZ_fd, bindT, op_add, op_sub, op_lt, op_le, op_gt, op_ge, op_eq, op_ne, op_in, op_nin, op_is, op_isn, small_ok, compF, noOwn, wipe]
    rfl
  have t2 : b1 .tuple (.lst (ns.map fun _ => tupS [[]])) = some (rowsT (ns.map fun _ => [[]])) := by
    show some (D.tup _) = _
    simp [rowsT, List.map_map, Function.comp_def]
  have si := fun c => stand_init (ns.map fun _ => [[]]) (S ++ [c])
  have hl : ∀ c : Cell, (S ++ [c]).length = S.length + 1 := fun c => by simp
  have hfin : ∀ h, mtC ns bs st h [] [] = .ins 12 [(8, tupS ns), (9, tupI bs), (10, .int st), (11, .obj h), (12, .lst []), (13, .lst [])] := fun h => rfl
  rw [hfin]
  simp only [hl, List.append_assoc, List.cons_append, List.nil_append] at si k11 k12 k13
  generalize sdC (sd0 (ns.map fun _ => [[]])) = sc at *
  generalize rowsT (ns.map fun _ => [[]]) = RR at *
  generalize tupS ns = TN at *
  generalize tupI bs = TB at *
  (unfold fn_Meet___init__; simp only [fn1, fn2, fn3, fn4, fF1, fF2, Nat.reduceSub, List.replicate_succ, List.replicate_zero])
  simp [exs_cons, exs_nil, exsK_nx, exsK_ap, ex_ifs, ifK_t, ifK_f, ex_asg1, ex_asg, ex_ret, ex_expr, ex_pass, ex_new, r_var, varR_val, r_own, ownR_own, r_cst, r_glo, r_op, r_chain, r_neg, negR_some, r_nt, r_and, r_or, r_ite, r_lst, r_tup, r_idx, r_slc0, r_slc1, r_slc2, r_slc3, r_rev, r_f1, r_f2, r_meth, r_isi, r_call, callR_ok, r_callO, callO_ok, r_lmeth, lmR_count, lmR_index, r_nrng, nrR_int, r_lzip, ex_cpy, ex_par, ex_retF, tabY_fn, tabY_gl, r_nil, r_cons, tab_fn, tab_gl, tabX_fn, tabX_gl, look_hit, look_miss, r_fld, r_mth, mthR_ok, r_mk, mkR_ok, r_lenSet, r_isLT, eqNR_lst, r_eqN, r_dget, r_dcpy, stoR_some, ex_setf, ex_dput, tabZ_fn, tabZ_gl, tabZ_mt, tabZ_mk, tabZ_fd, bindT, op_add, op_sub, op_lt, op_le, op_gt, op_ge, op_eq, op_ne, op_in, op_nin, op_is, op_isn, small_ok, b_Meet___init__, n1, b1', u1, tp, k8, k9, k10, putN, c1, t2, hl, si, k11, k12, k13]
/-! ### places of names -/
theorem first_at {ns : List (List Nat)} (hd : ns.Nodup) : ∀ {i j : Nat} {w : List Nat}, ns[i]? = some w → firstAt (fun z => deq z (.str w)) (ns.map D.str) j = some (j + i) := by
  induction ns with
  | nil => intro i j w h; cases i <;> cases h
  | cons x l ih =>
    intro i j w h
    rw [List.nodup_cons] at hd
    cases i with
    | zero =>
      simp at h
      subst h
      simp [firstAt, deq]
    | succ i =>
      have hx : x ≠ w := fun z => hd.1 (z ▸ List.mem_of_getElem? (by simpa using h))
      have := ih hd.2 (i := i) (j := j + 1) (by simpa using h)
      rw [List.map_cons, firstAt, if_neg (by simp [deq, hx]), this]
      congr 1
      omega
theorem index_of {ns : List (List Nat)} (hd : ns.Nodup) {i : Nat} (h : i < ns.length) : lm .index (strs_ ns) (.str (ns.getD i [])) = some (.int (i : Nat)) := by
  have hi : ns[i]? = some (ns.getD i []) := by rw [List.getD_eq_getElem?_getD, List.getElem?_eq_getElem h]; rfl
  have h1 : (ns.map D.str).all flat = true := by simp [flat]
  show (if flat (.str (ns.getD i [])) = true ∧ (ns.map D.str).all flat = true then (firstAt (fun z => deq z (.str (ns.getD i []))) (ns.map D.str) 0).map fun j => D.int (j : Nat) else none) = _
  rw [if_pos ⟨rfl, h1⟩, first_at hd hi]
  simp
/-! ### the number of a name, its row -/
theorem tindex_ok {ns : List (List Nat)} (hd : ns.Nodup) {i : Nat} {w : List Nat} (h : ns[i]? = some w) : lmR .tindex (tupS ns) (.ok (.str w) S) = .ok (.int (i : Nat)) S := by
  have st : ∀ l : List (List Nat), strsD (l.map D.str) = some l := fun l => by
    induction l with
    | nil => rfl
    | cons a l ih => rw [List.map_cons, strsD, ih]; rfl
  have ok : lmOk .tindex (tupS ns) = true := by
    show (strsD (ns.map D.str)).isSome = true
    rw [st]; rfl
  have e : lm .tindex (tupS ns) (.str w) = some (.int (i : Nat)) := by
    show (match strsD (ns.map D.str) with
      | some ys => (firstAt (fun z => deq z (.str w)) (ys.map D.str) 0).map fun j => D.int (j : Nat)
      | none => none) = _
    rw [st]
    simp only
    rw [first_at hd h]
    simp
  unfold lmR
  rw [if_pos ok, R.bind_ok, e]
  rfl
section
variable {S : Sto} {a n : Nat} {s : Sd} {ns : List (List Nat)} {bs : List Int} {st : Int} {h : Nat} {ds us : List Nat}
theorem in_tupS (w : List Nat) (f : List (List Nat)) : inO (.str w) (tupS f) = some (decide (w ∈ f)) := by
  have h1 : (f.map D.str).all flat = true := by simp [flat]
  unfold tupS
  simp only [inO]
  rw [if_pos ⟨rfl, h1⟩, List.any_map]
  congr 1
  rw [Bool.eq_iff_iff]
  simp [deq]
theorem need_name_ok (en : S[n]? = some (mtC ns bs st h ds us)) (hN : Names ns) {i : Nat} {w : List Nat} (hi : ns[i]? = some w) : fn_Meet_need_name [.obj n, .str w] S = .ok (.int (i : Nat)) S := by
  have hm := List.mem_of_getElem? hi
  have q := in_tupS w ns
  rw [decide_eq_true hm] at q
  have nm := is_name_ok (hN.nm w hm) S
  have ti := tindex_ok (S := S) hN.nd hi
  (unfold fn_Meet_need_name; simp only [fn1, fn2, fn3, fn4, fF1, fF2, Nat.reduceSub, List.replicate_succ, List.replicate_zero])
  simp [exs_cons, exs_nil, exsK_nx, exsK_ap, ex_ifs, ifK_t, ifK_f, ex_asg1, ex_asg, ex_ret, ex_expr, ex_pass, ex_new, r_var, varR_val, r_own, ownR_own, r_cst, r_glo, r_op, r_chain, r_neg, negR_some, r_nt, r_and, r_or, r_ite, r_lst, r_tup, r_idx, r_slc0, r_slc1, r_slc2, r_slc3, r_rev, r_f1, r_f2, r_meth, r_isi, r_call, callR_ok, r_callO, callO_ok, r_lmeth, lmR_count, lmR_index, r_nrng, nrR_int, r_lzip, ex_cpy, ex_par, ex_retF, tabY_fn, tabY_gl, r_nil, r_cons, tab_fn, tab_gl, tabX_fn, tabX_gl, look_hit, look_miss, r_fld, r_mth, mthR_ok, r_mk, mkR_ok, r_lenSet, r_isLT, eqNR_lst, r_eqN, r_dget, r_dcpy, stoR_some, ex_setf, ex_dput, tabZ_fn, tabZ_gl, tabZ_mt, tabZ_mk, tabZ_fd, bindT, op_add, op_sub, op_lt, op_le, op_gt, op_ge, op_eq, op_ne, op_in, op_nin, op_is, op_isn, small_ok, b_Meet_need_name, nm, g_names en, q, ti]
theorem row_ok (en : S[n]? = some (mtC ns bs st h ds us)) (eh : S[h]? = some (sdC s)) (hN : Names ns) {i : Nat} {w : List Nat} {r : Row} (hi : ns[i]? = some w) (hr : s.rows[i]? = some r) : fn_Meet_row [.obj n, .str w] S = .ok (strs_ r) S := by
  have nn := need_name_ok en hN hi
  have i1 : idx (rowsT s.rows) (.int (i : Nat)) = some (tupS r) := tup_nth (by rw [List.getElem?_map, hr]; rfl)
  have l1 : b1 .list (tupS r) = some (strs_ r) := rfl
  (unfold fn_Meet_row; simp only [fn1, fn2, fn3, fn4, fF1, fF2, Nat.reduceSub, List.replicate_succ, List.replicate_zero])
  simp [exs_cons, exs_nil, exsK_nx, exsK_ap, ex_ifs, ifK_t, ifK_f, ex_asg1, ex_asg, ex_ret, ex_expr, ex_pass, ex_new, r_var, varR_val, r_own, ownR_own, r_cst, r_glo, r_op, r_chain, r_neg, negR_some, r_nt, r_and, r_or, r_ite, r_lst, r_tup, r_idx, r_slc0, r_slc1, r_slc2, r_slc3, r_rev, r_f1, r_f2, r_meth, r_isi, r_call, callR_ok, r_callO, callO_ok, r_lmeth, lmR_count, lmR_index, r_nrng, nrR_int, r_lzip, ex_cpy, ex_par, ex_retF, tabY_fn, tabY_gl, r_nil, r_cons, tab_fn, tab_gl, tabX_fn, tabX_gl, look_hit, look_miss, r_fld, r_mth, mthR_ok, r_mk, mkR_ok, r_lenSet, r_isLT, eqNR_lst, r_eqN, r_dget, r_dcpy, stoR_some, ex_setf, ex_dput, tabZ_fn, tabZ_gl, tabZ_mt, tabZ_mk, tabZ_fd, bindT, op_add, op_sub, op_lt, op_le, op_gt, op_ge, op_eq, op_ne, op_in, op_nin, op_is, op_isn, small_ok, b_Meet_row, g_here en, g_rows eh, is_meet en, nn, i1, l1]
end
/-! ### drawing: the same at every store -/
theorem dw_while' (F : Fns) (a b c d : Slot) : ∀ (n : Nat) (t r : Int), 0 ≤ t → t < n →
    ∃ t' r', ∀ S : Sto, whileF (fun ρ S => (ev F dwC ρ S).bind asB) (fun ρ S => exs F dwB ρ S) n [a, b, c, d, .val (.int t), .val (.int r)] S = .ok (.nx [a, b, c, d, .val (.int t'), .val (.int r')]) S
  | 0, t, r, h0, h => by omega
  | n + 1, t, r, h0, h => by
    by_cases hr : 0 < r
    · by_cases ht : 0 < t
      · obtain ⟨t', r', e⟩ := dw_while' F a b c d n (t - 1) (r / 1000000) (by omega) (by omega)
        refine ⟨t', r', fun S => ?_⟩
        unfold whileF
        rw [← e S]
        simp [dwC, dwB, ev, op_gt, op_sub, op_fdv, hr, ht, exs, ex, bindT]
      · exact ⟨t, r, fun S => by unfold whileF; simp [dwC, ev, op_gt, hr, ht]⟩
    · exact ⟨t, r, fun S => by unfold whileF; simp [dwC, ev, op_gt, hr]⟩
theorem dw_tail' (F : Fns) (a : Slot) (k many cell : Int) (x y : Slot) (hm : 0 < many) :
    ∃ r, (∀ S : Sto, (exs F dwT [a, .val (.int k), .val (.int many), .val (.int cell), x, y] S).ends = .ok (.int r) S) ∧ 0 ≤ r ∧ r < many := by
  have h1 : 0 ≤ (cell % 2147483563 * 69069 + 104723 * (k + 1)) % 2147483563 ∧ (cell % 2147483563 * 69069 + 104723 * (k + 1)) % 2147483563 < 2147483563 := by omega
  have e1 : op2 .mul (.int (cell % 2147483563)) (.int 69069) = some (.int (cell % 2147483563 * 69069)) := mul_small' (by omega)
  have e2 : op2 .mul (.int 104723) (.int (k + 1)) = some (.int (104723 * (k + 1))) := mul_small (by omega)
  generalize hc : (cell % 2147483563 * 69069 + 104723 * (k + 1)) % 2147483563 = c1 at h1
  have e3 : op2 .mul (.int c1) (.int c1) = some (.int (c1 * c1)) := mul_small (by omega)
  have h2 : 0 ≤ (c1 * c1 + c1 / 3) % 2147483399 ∧ (c1 * c1 + c1 / 3) % 2147483399 < 2147483399 := ⟨Int.emod_nonneg _ (by decide), Int.emod_lt_of_pos _ (by decide)⟩
  generalize hd : (c1 * c1 + c1 / 3) % 2147483399 = c2 at h2
  have e4 : op2 .mul (.int c2) (.int c2) = some (.int (c2 * c2)) := mul_small (by omega)
  refine ⟨(c2 * c2 + c2 / 7) % 2147483647 / 11 % many, fun S => ?_, Int.emod_nonneg _ (by omega), Int.emod_lt_of_pos _ hm⟩
  simp [dwT, exs, ex, ev, bindT, e1, e2, op_add, op_mod, op_fdv, hc, e3, hd, e4, hm]
theorem draw_all (ns : List Int) (k many : Int) (hn : ns.length ≤ 63) (hk : 0 ≤ k) (hm : 0 < many) :
    ∃ r, (∀ S : Sto, fnDraw [.scr ns, .int k, .int many] S = .ok (.int r) S) ∧ 0 ≤ r ∧ r < many := by
  have e0 : op2 .mul (.int 7) (.int k) = some (.int (7 * k)) := mul_small (by omega)
  by_cases hz : ns = []
  · subst hz
    obtain ⟨r, h, h2⟩ := dw_tail' (tabOf [] []) (.val (.scr [])) k many (7 * k) .emp .emp hm
    refine ⟨r, fun S => ?_, h2⟩
    rw [← h S]
    simp [fnDraw, fnOf, dwA, exs, ex, ev, evs, bindT, e0, op_ne, eqO, small_ok]
  · have hl : 0 < ns.length := List.length_pos_iff.mpr hz
    have hm1 := Int.emod_nonneg k (show (ns.length : Int) ≠ 0 by omega)
    have hm2 := Int.emod_lt_of_pos k (show 0 < (ns.length : Int) by omega)
    have ei : ∃ c, idx (.scr ns) (.int (k % (ns.length : Int))) = some (.int c) := by
      have hx : (k % (ns.length : Int)).toNat < ns.length := by omega
      refine ⟨ns[(k % (ns.length : Int)).toNat], ?_⟩
      simp only [idx, at_, ix, if_pos hm1, if_pos hm2, Option.bind_some, List.getElem?_eq_getElem hx, Option.map_some]
    obtain ⟨c, ei⟩ := ei
    have hx : op2 .ne (.scr ns) (.lst []) = some (.bl true) := by
      cases ns with
      | nil => exact (hz rfl).elim
      | cons _ _ => rfl
    have ht := Int.ediv_nonneg hk (show 0 ≤ (ns.length : Int) by omega)
    have f1 : op2 .fdv (.int k) (.int ns.length) = some (.int (k / ns.length)) := op_fdv (by omega)
    have f2 : op2 .mod (.int k) (.int ns.length) = some (.int (k % ns.length)) := op_mod (by omega)
    have f3 : op2 .mul (.int 6553) (.int (k / ns.length)) = some (.int (6553 * (k / ns.length))) := mul_small (by omega)
    have p : op2 .pow (.int 10) (.int 18) = some (.int (10 ^ 18)) := rfl
    have bl : b1 .len (.scr ns) = some (.int ns.length) := rfl
    generalize k / (ns.length : Int) = t at ht f1 f3
    have start : ∀ S : Sto, fnDraw [.scr ns, .int k, .int many] S = ((exs (tabOf [] []) dwJ [.val (.scr ns), .val (.int k), .val (.int many), .val (.int (7 * k)), .emp, .emp] S).next fun ρ S => exs (tabOf [] []) dwT ρ S).ends := fun S => by
      simp [fnDraw, fnOf, dwA, exs, ex, ev, evs, bindT, e0, hx, small_ok]
    have plain : ∀ (x y : Slot), (∀ S : Sto, ex (tabOf [] []) (.ifs (.and (.op .ge (.var 3) (.op .pow (.cst (.int 10)) (.cst (.int 18)))) (.op .lt (.var 4) (.cst (.int 60)))) dwI .nil) [.val (.scr ns), .val (.int k), .val (.int many), .val (.int c), .val (.int t), .emp] S = .ok (.nx [.val (.scr ns), .val (.int k), .val (.int many), .val (.int c), x, y]) S) →
        ∃ r, (∀ S : Sto, fnDraw [.scr ns, .int k, .int many] S = .ok (.int r) S) ∧ 0 ≤ r ∧ r < many := by
      intro x y hi
      obtain ⟨r, h, h2⟩ := dw_tail' (tabOf [] []) (.val (.scr ns)) k many (c + 6553 * t) x y hm
      refine ⟨r, fun S => ?_, h2⟩
      rw [← h S, start S, dwJ]
      have e1 : ex (tabOf [] []) (.asg (.name 3) (.idx (.var 0) (.op .mod (.var 1) (.f1 .len (.var 0))))) [.val (.scr ns), .val (.int k), .val (.int many), .val (.int (7 * k)), .emp, .emp] S = .ok (.nx [.val (.scr ns), .val (.int k), .val (.int many), .val (.int c), .emp, .emp]) S := by
        simp [ex, ev, bl, f2, ei, bindT]
      have e2 : ex (tabOf [] []) (.asg (.name 4) (.op .fdv (.var 1) (.f1 .len (.var 0)))) [.val (.scr ns), .val (.int k), .val (.int many), .val (.int c), .emp, .emp] S = .ok (.nx [.val (.scr ns), .val (.int k), .val (.int many), .val (.int c), .val (.int t), .emp]) S := by
        simp [ex, ev, bl, f1, bindT]
      have e3 : ex (tabOf [] []) (.asg (.name 3) (.op .add (.var 3) (.op .mul (.cst (.int 6553)) (.op .fdv (.var 1) (.f1 .len (.var 0)))))) [.val (.scr ns), .val (.int k), .val (.int many), .val (.int c), x, y] S = .ok (.nx [.val (.scr ns), .val (.int k), .val (.int many), .val (.int (c + 6553 * t)), x, y]) S := by
        simp [ex, ev, bl, f1, f3, op_add, bindT]
      simp only [exs, e1, R.next_nx, e2, hi S, e3]
    by_cases hc : 10 ^ 18 ≤ c
    · by_cases h60 : t < 60
      · have f4 : op2 .fdv (.int c) (.int (10 ^ 18)) = some (.int (c / 10 ^ 18)) := op_fdv (by decide)
        obtain ⟨t', r', e⟩ := dw_while' (tabOf [] []) (.val (.scr ns)) (.val (.int k)) (.val (.int many)) (.val (.int c)) fuel t (c / 10 ^ 18) ht (by unfold fuel; omega)
        have e4 : ∀ S : Sto, ex (tabOf [] []) (.asg (.name 5) (.op .fdv (.var 3) (.op .pow (.cst (.int 10)) (.cst (.int 18))))) [.val (.scr ns), .val (.int k), .val (.int many), .val (.int c), .val (.int t), .emp] S = .ok (.nx [.val (.scr ns), .val (.int k), .val (.int many), .val (.int c), .val (.int t), .val (.int (c / 10 ^ 18))]) S := fun S => by
          simp only [ex, ev, List.getElem?_cons_succ, List.getElem?_cons_zero, R.bind_ok, p, lift_some, f4, R.then_ok, bindT, bound_some]
          rfl
        have ec : ∀ S : Sto, (ev (tabOf [] []) (.and (.op .ge (.var 3) (.op .pow (.cst (.int 10)) (.cst (.int 18)))) (.op .lt (.var 4) (.cst (.int 60)))) [.val (.scr ns), .val (.int k), .val (.int many), .val (.int c), .val (.int t), .emp] S).bind asB = .ok true S := fun S => by
          simp only [ev, List.getElem?_cons_succ, List.getElem?_cons_zero, R.bind_ok, p, lift_some, op_ge, op_lt, decide_eq_true hc, decide_eq_true h60, asB_bl, if_true]
        by_cases hr : 0 < r'
        · refine ⟨r' % 1000000 % many, fun S => ?_, Int.emod_nonneg _ (by omega), Int.emod_lt_of_pos _ hm⟩
          have e1 : ex (tabOf [] []) (.asg (.name 3) (.idx (.var 0) (.op .mod (.var 1) (.f1 .len (.var 0))))) [.val (.scr ns), .val (.int k), .val (.int many), .val (.int (7 * k)), .emp, .emp] S = .ok (.nx [.val (.scr ns), .val (.int k), .val (.int many), .val (.int c), .emp, .emp]) S := by
            simp [ex, ev, bl, f2, ei, bindT]
          have e2 : ex (tabOf [] []) (.asg (.name 4) (.op .fdv (.var 1) (.f1 .len (.var 0)))) [.val (.scr ns), .val (.int k), .val (.int many), .val (.int c), .emp, .emp] S = .ok (.nx [.val (.scr ns), .val (.int k), .val (.int many), .val (.int c), .val (.int t), .emp]) S := by
            simp [ex, ev, bl, f1, bindT]
          have ew : ex (tabOf [] []) (.whl dwC dwB) [.val (.scr ns), .val (.int k), .val (.int many), .val (.int c), .val (.int t), .val (.int (c / 10 ^ 18))] S = _ := e S
          have er : ex (tabOf [] []) (.ifs (.op .gt (.var 5) (.cst (.int 0))) (.cons (.ret (.op .mod (.op .mod (.var 5) (.cst (.int 1000000))) (.var 2))) .nil) .nil) [.val (.scr ns), .val (.int k), .val (.int many), .val (.int c), .val (.int t'), .val (.int r')] S = .ok (.rt (.int (r' % 1000000 % many))) S := by
            simp [ex, exs, ev, op_gt, hr, op_mod, hm]
          have ei : ex (tabOf [] []) (.ifs (.and (.op .ge (.var 3) (.op .pow (.cst (.int 10)) (.cst (.int 18)))) (.op .lt (.var 4) (.cst (.int 60)))) dwI .nil) [.val (.scr ns), .val (.int k), .val (.int many), .val (.int c), .val (.int t), .emp] S = .ok (.rt (.int (r' % 1000000 % many))) S := by
            rw [ex, ec S]
            simp only [R.then_ok, if_true, dwI, exs, e4 S, R.next_nx, ew, er, R.next_rt]
          rw [start S, dwJ]
          simp only [exs, e1, R.next_nx, e2, ei, R.next_rt, R.ends_rt]
        · refine plain (.val (.int t')) (.val (.int r')) fun S => ?_
          have ew : ex (tabOf [] []) (.whl dwC dwB) [.val (.scr ns), .val (.int k), .val (.int many), .val (.int c), .val (.int t), .val (.int (c / 10 ^ 18))] S = _ := e S
          have er : ex (tabOf [] []) (.ifs (.op .gt (.var 5) (.cst (.int 0))) (.cons (.ret (.op .mod (.op .mod (.var 5) (.cst (.int 1000000))) (.var 2))) .nil) .nil) [.val (.scr ns), .val (.int k), .val (.int many), .val (.int c), .val (.int t'), .val (.int r')] S = .ok (.nx [.val (.scr ns), .val (.int k), .val (.int many), .val (.int c), .val (.int t'), .val (.int r')]) S := by
            simp [ex, exs, ev, op_gt, hr]
          rw [ex, ec S]
          simp only [R.then_ok, if_true, dwI, exs, e4 S, R.next_nx, ew, er]
      · refine plain (.val (.int t)) .emp fun S => ?_
        have ec : ∀ S : Sto, (ev (tabOf [] []) (.and (.op .ge (.var 3) (.op .pow (.cst (.int 10)) (.cst (.int 18)))) (.op .lt (.var 4) (.cst (.int 60)))) [.val (.scr ns), .val (.int k), .val (.int many), .val (.int c), .val (.int t), .emp] S).bind asB = .ok false S := fun S => by
          simp only [ev, List.getElem?_cons_succ, List.getElem?_cons_zero, R.bind_ok, p, lift_some, op_ge, op_lt, decide_eq_true hc, decide_eq_false h60, asB_bl, if_true]
        rw [ex, ec S]
        rfl
    · refine plain (.val (.int t)) .emp fun S => ?_
      have ec : ∀ S : Sto, (ev (tabOf [] []) (.and (.op .ge (.var 3) (.op .pow (.cst (.int 10)) (.cst (.int 18)))) (.op .lt (.var 4) (.cst (.int 60)))) [.val (.scr ns), .val (.int k), .val (.int many), .val (.int c), .val (.int t), .emp] S).bind asB = .ok false S := fun S => by
        simp only [ev, List.getElem?_cons_succ, List.getElem?_cons_zero, R.bind_ok, p, lift_some, op_ge, op_lt, decide_eq_false hc, asB_bl]
        rfl
      rw [ex, ec S]
      rfl
/-! ### each row alone -/
def todoR (r : Row) : Prop := runOf r < 9 ∧ opn (lastM r) = true
instance (r : Row) : Decidable (todoR r) := inferInstanceAs (Decidable (_ ∧ _))
/-- a mark that is being made, of the signs sg -/
def Par (sg : Nat → Nat) (r : Row) (m : List Nat) : Prop := ∀ j, j < m.length → m[j]? = some (sg (sz r + j)) ∧ todoR (r ++ [m.take j])
inductive Cmp (sg : Nat → Nat) : Row → Prop
  | nil : Cmp sg []
  | snoc {r : Row} {m : List Nat} : Cmp sg r → Par sg r m → ¬ todoR (r ++ [m]) → Cmp sg (r ++ [m])
theorem Cmp.inv {sg : Nat → Nat} {r : Row} {m : List Nat} (h : Cmp sg (r ++ [m])) : Cmp sg r ∧ Par sg r m ∧ ¬ todoR (r ++ [m]) := by
  generalize e : r ++ [m] = q at h
  cases h with
  | nil => simp at e
  | snoc h1 h2 h3 =>
    obtain ⟨rfl, e2⟩ := List.append_inj' e rfl
    cases e2
    exact ⟨h1, h2, h3⟩
theorem par_take {sg : Nat → Nat} {r : Row} {m m' : List Nat} (h : Par sg r m) (h' : Par sg r m') (hl : m.length ≤ m'.length) : m = m'.take m.length := by
  apply List.ext_getElem?
  intro j
  by_cases hj : j < m.length
  · rw [(h j hj).1, List.getElem?_take_of_lt hj, (h' j (by omega)).1]
  · rw [List.getElem?_eq_none (by omega), List.getElem?_eq_none (by simp; omega)]
theorem par_uniq {sg : Nat → Nat} {r : Row} {m m' : List Nat} (h : Par sg r m) (h' : Par sg r m') (n : ¬ todoR (r ++ [m])) (n' : ¬ todoR (r ++ [m'])) : m = m' := by
  rcases Nat.lt_trichotomy m.length m'.length with q | q | q
  · have e := par_take h h' (by omega)
    exact absurd (by rw [e]; exact (h' _ q).2) n
  · have e := par_take h h' (by omega)
    rw [e, List.take_of_length_le (by omega)]
  · have e := par_take h' h (by omega)
    exact absurd (by rw [e]; exact (h _ q).2) n'
theorem Cmp.uniq {sg : Nat → Nat} : ∀ (n : Nat) {a b : Row}, Cmp sg a → Cmp sg b → a.length = n → b.length = n → a = b
  | 0, a, b, _, _, ha, hb => by rw [List.eq_nil_of_length_eq_zero ha, List.eq_nil_of_length_eq_zero hb]
  | n + 1, a, b, h, h', ha, hb => by
    rcases List.eq_nil_or_concat a with e | ⟨r, m, e⟩
    · rw [e] at ha; simp at ha
    · rcases List.eq_nil_or_concat b with e' | ⟨r', m', e'⟩
      · rw [e'] at hb; simp at hb
      · rw [List.concat_eq_append] at e e'
        subst e e'
        obtain ⟨h1, h2, h3⟩ := h.inv
        obtain ⟨g1, g2, g3⟩ := h'.inv
        have := Cmp.uniq n h1 g1 (by simpa using ha) (by simpa using hb)
        subst this
        rw [par_uniq h2 g2 h3 g3]
theorem Cmp.take {sg : Nat → Nat} {r : Row} (h : Cmp sg r) : ∀ n, Cmp sg (r.take n) := by
  induction h with
  | nil => intro n; simp; exact .nil
  | @snoc r m h1 h2 h3 ih =>
    intro n
    by_cases hn : n ≤ r.length
    · rw [List.take_append_of_le_length hn]; exact ih n
    · rw [List.take_of_length_le (by simp; omega)]; exact .snoc h1 h2 h3
/-- a row in the main part -/
def Mak (sg : Nat → Nat) (r : Row) : Prop := r ≠ [] ∧ Cmp sg r.dropLast ∧ Par sg r.dropLast (lastM r)
theorem Mak.cmp {sg : Nat → Nat} {r : Row} (h : Mak sg r) (n : ¬ todoR r) : Cmp sg r := by
  have e := row_last h.1
  rw [e]
  exact .snoc h.2.1 h.2.2 (by rw [← e]; exact n)
theorem Mak.put {sg : Nat → Nat} {r : Row} (h : Mak sg r) (t : todoR r) : Mak sg (putRow r [sg (sz r)]) := by
  have e := row_last h.1
  have es : sz r = sz r.dropLast + (lastM r).length := by
    conv => lhs; rw [e, sz_app]
    simp [sz]
  have d : (putRow r [sg (sz r)]).dropLast = r.dropLast := by simp [putRow]
  have l : lastM (putRow r [sg (sz r)]) = lastM r ++ [sg (sz r)] := by simp [putRow, lastM]
  refine ⟨by simp [putRow], by rw [d]; exact h.2.1, ?_⟩
  rw [d, l]
  intro j hj
  simp at hj
  by_cases hlt : j < (lastM r).length
  · have := h.2.2 j hlt
    rw [List.getElem?_append_left hlt, List.take_append_of_le_length (by omega)]
    exact this
  · have hj : j = (lastM r).length := by omega
    subst hj
    refine ⟨by simp [es], ?_⟩
    rw [List.take_append_of_le_length (Nat.le_refl _), List.take_length, ← e]
    exact t
theorem Mak.pad {sg : Nat → Nat} {r : Row} (h : Mak sg r) (n : ¬ todoR r) : Mak sg (r ++ [[]]) := by
  refine ⟨by simp, by simpa using h.cmp n, ?_⟩
  rw [last_pad]
  intro j hj
  simp at hj
theorem mak0 (sg : Nat → Nat) : Mak sg [[]] := ⟨by simp, .nil, fun j hj => by simp [lastM] at hj⟩
/-! ### a main part, seen from outside -/
structure Run (sgs : List (Nat → Nat)) (B : Nat) (s : Sd) : Prop where
  len : s.rows.length = sgs.length
  mak : ∀ (i : Nat) (r : Row) (sg : Nat → Nat), s.rows[i]? = some r → sgs[i]? = some sg → Mak sg r
  size : ∃ L, 1 ≤ L ∧ L ≤ B ∧ (∀ r ∈ s.rows, r.length = L) ∧ ∀ L', 1 ≤ L' → L' < L → ∃ r ∈ s.rows, runOf (r.take L') < 9
  over : s.state ≠ wMain → todoL s.rows = [] ∧ (someIn s.rows = [] ∨ (s.rows.headD []).length = B)
def Fin (sgs : List (Nat → Nat)) (B : Nat) (rows : List Row) : Prop := rows.length = sgs.length ∧ (∀ (i : Nat) (r : Row) (sg : Nat → Nat), rows[i]? = some r → sgs[i]? = some sg → Cmp sg r) ∧
  ∃ L, 1 ≤ L ∧ L ≤ B ∧ (∀ r ∈ rows, r.length = L) ∧ (∀ L', 1 ≤ L' → L' < L → ∃ r ∈ rows, runOf (r.take L') < 9) ∧ (L = B ∨ ∀ r ∈ rows, ¬ runOf r < 9)
theorem Run.fin {sgs : List (Nat → Nat)} {B : Nat} {s : Sd} (h : Run sgs B s) (hn : s.state ≠ wMain) (h0 : s.rows ≠ []) : Fin sgs B s.rows := by
  obtain ⟨ht, he⟩ := h.over hn
  obtain ⟨L, l1, l2, l3, l4⟩ := h.size
  refine ⟨h.len, fun i r sg hr hs => (h.mak i r sg hr hs).cmp (not_todo ht (List.mem_of_getElem? hr)), L, l1, l2, l3, l4, ?_⟩
  rcases he with he | he
  · right
    intro r hr z
    have : r ∈ someIn s.rows := List.mem_filter.mpr ⟨hr, decide_eq_true z⟩
    rw [he] at this
    cases this
  · left
    rw [same_head l3 h0] at he
    exact he
/-- each of the one is one of the other: no further than the other -/
theorem Fin.le {sgs tgs : List (Nat → Nat)} {B : Nat} {a b : List Row} (ha : Fin sgs B a) (hb : Fin tgs B b) (f : ∀ (i : Nat) (sg : Nat → Nat), sgs[i]? = some sg → ∃ j : Nat, tgs[j]? = some sg) {La Lb : Nat} (h1 : ∀ r ∈ a, r.length = La) (h2 : ∀ r ∈ b, r.length = Lb) (n0 : a ≠ []) (n1 : b ≠ []) : La ≤ Lb := by
  obtain ⟨ha1, ha2, L, l1, l2, l3, l4, l5⟩ := ha
  obtain ⟨hb1, hb2, M, k1, k2, k3, k4, k5⟩ := hb
  obtain ⟨ra, ma⟩ := List.exists_mem_of_ne_nil _ n0
  obtain ⟨rb, mb⟩ := List.exists_mem_of_ne_nil _ n1
  have eL : L = La := by rw [← l3 ra ma, h1 ra ma]
  have eM : M = Lb := by rw [← k3 rb mb, h2 rb mb]
  subst eL eM
  rcases Nat.lt_or_ge M L with q | q
  · exfalso
    have hM : ∀ r ∈ b, ¬ runOf r < 9 := by
      rcases k5 with k5 | k5
      · omega
      · exact k5
    obtain ⟨r, hr, hz⟩ := l4 M k1 q
    obtain ⟨i, hi, e⟩ := List.getElem_of_mem hr
    have hi2 : i < sgs.length := by omega
    have c1 := ha2 i r sgs[i] (by rw [List.getElem?_eq_getElem hi, e]) (List.getElem?_eq_getElem hi2)
    obtain ⟨j, hj⟩ := f i sgs[i] (List.getElem?_eq_getElem hi2)
    have hj2 : j < b.length := by rw [hb1]; exact (List.getElem?_eq_some_iff.mp hj).1
    have c2 := hb2 j b[j] sgs[i] (List.getElem?_eq_getElem hj2) hj
    have e2 : r.take M = b[j] := Cmp.uniq M (c1.take M) c2 (by rw [List.length_take, l3 r hr]; omega) (k3 _ (List.getElem_mem hj2))
    rw [e2] at hz
    exact hM _ (List.getElem_mem hj2) hz
  · exact q
/-! ### a main part goes on -/
theorem put_take {r : Row} {c : List Nat} {n : Nat} (h : n < r.length) : (putRow r c).take n = r.take n := by
  have h0 : r ≠ [] := fun z => by rw [z] at h; simp at h
  have hl : n ≤ r.dropLast.length := by rw [List.length_dropLast]; omega
  have e := row_last h0
  conv => rhs; rw [e]
  unfold putRow
  rw [List.take_append_of_le_length hl, List.take_append_of_le_length hl]
theorem Run.put {sgs : List (Nat → Nat)} {s : Sd} {B : Nat} (R : Run sgs B s) (hm : s.state = wMain) (ht : todoL s.rows ≠ []) {r : Row} {sg : Nat → Nat} (hr : s.rows[nextM s]? = some r) (hs : sgs[nextM s]? = some sg) : Run sgs B (putS s (sg (sz r))) := by
  obtain ⟨r1, t, k1, k2, k3, _⟩ := next_spec ht
  rw [hr] at k1
  cases k1
  have hgd : s.rows.getD (nextM s) [] = r := by rw [List.getD_eq_getElem?_getD, hr]; rfl
  have hlt := (List.getElem?_eq_some_iff.mp hr).1
  have hrm := List.mem_of_getElem? hr
  obtain ⟨L, l1, l2, l3, l4⟩ := R.size
  have h0 : r ≠ [] := fun z => by have := l3 r hrm; rw [z] at this; simp at this; omega
  have mk := R.mak _ r sg hr hs
  unfold putS
  rw [hgd]
  refine ⟨by simpa using R.len, fun i x tg hx hg => ?_, ⟨L, l1, l2, fun x hx => ?_, fun L' a1 a2 => ?_⟩, fun z => absurd hm z⟩
  · have hx : (s.rows.set (nextM s) (putRow r [sg (sz r)]))[i]? = some x := hx
    by_cases hi : i = nextM s
    · subst hi
      rw [List.getElem?_set_self hlt] at hx
      cases hx
      rw [hs] at hg
      cases hg
      exact mk.put ⟨k2, k3⟩
    · rw [List.getElem?_set_ne (fun z => hi z.symm)] at hx
      exact R.mak i x tg hx hg
  · rcases List.mem_or_eq_of_mem_set hx with hx | rfl
    · exact l3 x hx
    · rw [put_len h0]; exact l3 r hrm
  · obtain ⟨y, hy, hz⟩ := l4 L' a1 a2
    obtain ⟨i, hi, e⟩ := List.getElem_of_mem hy
    by_cases h : i = nextM s
    · subst h
      have : y = r := by
        rw [List.getElem?_eq_getElem hi, e] at hr
        exact Option.some.inj hr
      subst this
      refine ⟨putRow y [sg (sz y)], List.mem_set hi _, ?_⟩
      rw [put_take (by rw [l3 y hrm]; exact a2)]
      exact hz
    · refine ⟨y, ?_, hz⟩
      have q : (s.rows.set (nextM s) (putRow r [sg (sz r)]))[i]? = some y := by
        rw [List.getElem?_set_ne (fun z => h z.symm), List.getElem?_eq_getElem hi, e]
      exact List.mem_of_getElem? q
theorem Run.on {sgs : List (Nat → Nat)} {s : Sd} {bs : List Int} {st : Int} {n : Nat} (R : Run sgs bs.length s) (hm : s.state = wMain) (h0 : s.rows ≠ []) (hn : n = s.rows.length) : Run sgs bs.length (goOn n bs st s) := by
  unfold goOn
  split
  · rename_i ht
    split
    · rename_i he
      obtain ⟨e1, _⟩ := end_rows n bs st s
      exact ⟨by rw [e1]; exact R.len, by rw [e1]; exact R.mak, by rw [e1]; exact R.size, fun _ => by rw [e1]; exact ⟨ht, he⟩⟩
    · rename_i he
      obtain ⟨L, l1, l2, l3, l4⟩ := R.size
      have hL : L ≠ bs.length := fun z => he (.inr (by rw [same_head l3 h0, z]))
      have hs : someIn s.rows ≠ [] := fun z => he (.inl z)
      refine ⟨by simpa using R.len, fun i x tg hx hg => ?_, ⟨L + 1, by omega, by omega, fun x hx => ?_, fun L' a1 a2 => ?_⟩, fun z => absurd hm z⟩
      · have hx : (s.rows.map (· ++ [[]]))[i]? = some x := hx
        rw [List.getElem?_map] at hx
        cases q : s.rows[i]? with
        | none => rw [q] at hx; cases hx
        | some y =>
          rw [q] at hx
          cases hx
          exact (R.mak i y tg q hg).pad (not_todo ht (List.mem_of_getElem? q))
      · obtain ⟨z, hz, rfl⟩ := List.mem_map.mp hx
        simp [l3 z hz]
      · rcases Nat.lt_or_ge L' L with q | q
        · obtain ⟨y, hy, hz⟩ := l4 L' a1 q
          refine ⟨y ++ [[]], List.mem_map.mpr ⟨y, hy, rfl⟩, ?_⟩
          rw [List.take_append_of_le_length (by rw [l3 y hy]; omega)]
          exact hz
        · have e : L' = L := by omega
          subst e
          obtain ⟨y, hy⟩ := List.exists_mem_of_ne_nil _ hs
          obtain ⟨y1, y2⟩ := List.mem_filter.mp hy
          refine ⟨y ++ [[]], List.mem_map.mpr ⟨y, y1, rfl⟩, ?_⟩
          rw [List.take_append_of_le_length (by rw [l3 y y1]; omega), List.take_of_length_le (by rw [l3 y y1]; omega)]
          exact of_decide_eq_true y2
  · rename_i ht
    exact ⟨R.len, R.mak, R.size, fun z => absurd hm z⟩
/-- the word at the end -/
def endW (rows : List Row) : List Nat := if topOf rows = none ∨ (firsts rows).length = 1 then wOver else wOff
theorem end_word (k : Nat) (bs : List Int) (st : Int) (s : Sd) : (endMain k bs st s).state = endW s.rows := by
  unfold endMain endW
  cases q : topOf s.rows with
  | none => simp
  | some t =>
    simp only
    by_cases h : (firsts s.rows).length = 1
    · rw [if_pos h, if_pos (.inr h)]
    · rw [if_neg h, if_neg (by simp [h])]
theorem go_word {k : Nat} {bs : List Int} {st : Int} {s : Sd} (hm : s.state = wMain) : (goOn k bs st s).state ≠ wMain → (goOn k bs st s).state = endW (goOn k bs st s).rows := by
  unfold goOn
  split
  · split
    · intro _
      rw [end_word, (end_rows k bs st s).1]
    · intro z; exact absurd hm z
  · intro z; exact absurd hm z
def th0 : Sm := (.asg (.name 4) (.mk 523 (.cons (.var 1) (.cons (.var 2) (.cons (.cst (.int 2)) .nil)))))
def th1 : Sm := (.asg (.name 5) (.dprs (.comp (.tup (.cons (.var 7) (.cons (.cst (.int 0)) .nil))) (.name 7) (.seq (.var 1)) [7])))
def th2B_0 : Sm := (.ifs (.op .eq (.mth (.var 4) 320 .nil) (.cst (.str [109, 97, 105, 110]))) (.cons (.asg (.name 7) (.mth (.var 4) 321 .nil)) (.cons (.asg (.name 8) (.idx (.cst (.str [111, 120, 111, 120, 111, 45, 120, 114])) (.call 3 (.cons (.var 0) (.cons (.op .add (.op .add (.cst (.int 40)) (.op .mul (.cst (.int 30)) (.lmeth .index (.var 3) (.var 7)))) (.dget (.var 5) (.var 7))) (.cons (.cst (.int 8)) .nil)))))) (.cons (.dput (.var 5) (.var 7) (.op .add (.dget (.var 5) (.var 7)) (.cst (.int 1)))) (.cons (.expr (.call 43 (.cons (.var 4) (.cons (.var 8) .nil)))) .nil)))) .nil)
def th2B : Sms := (.cons th2B_0 .nil)
def th2 : Sm := (.each (.name 6) (.rng (.op .mul (.op .mul (.cst (.int 3)) (.f1 .len (.var 1))) (.f1 .len (.var 2)))) th2B)
def th3 : Sm := (.ret (.tup (.cons (.mth (.var 4) 320 .nil) (.cons (.dprs (.comp (.tup (.cons (.var 7) (.cons (.mth (.var 4) 324 (.cons (.var 7) .nil)) .nil))) (.name 7) (.seq (.var 1)) [7])) .nil))))
theorem b__law_through_split : b__law_through = (.cons th0 (.cons th1 (.cons th2 (.cons th3 .nil)))) := rfl
/-! ### a main part, walked through -/
def sgOK (sc : List Int) (sg : Nat → Nat → Nat) : Prop := ∀ q u : Nat, sgn (sg q u) ∧ ∃ r, (∀ S : Sto, fn__law_drawn [.scr sc, .int (40 + 30 * (q : Int) + (u : Int)), .int 8] S = .ok (.int r) S) ∧ idx (.str [111, 120, 111, 120, 111, 45, 120, 114]) (.int r) = some (.str [sg q u])
theorem eight_at {i : Int} (h : 0 ≤ i ∧ i < 8) : ∃ c, sgn c ∧ idx (.str [111, 120, 111, 120, 111, 45, 120, 114]) (.int i) = some (.str [c]) := by
  have : i = 0 ∨ i = 1 ∨ i = 2 ∨ i = 3 ∨ i = 4 ∨ i = 5 ∨ i = 6 ∨ i = 7 := by omega
  rcases this with rfl | rfl | rfl | rfl | rfl | rfl | rfl | rfl
  · exact ⟨111, .inl rfl, rfl⟩
  · exact ⟨120, .inr (.inl rfl), rfl⟩
  · exact ⟨111, .inl rfl, rfl⟩
  · exact ⟨120, .inr (.inl rfl), rfl⟩
  · exact ⟨111, .inl rfl, rfl⟩
  · exact ⟨45, .inr (.inr (.inl rfl)), rfl⟩
  · exact ⟨120, .inr (.inl rfl), rfl⟩
  · exact ⟨114, .inr (.inr (.inr rfl)), rfl⟩
theorem sg_ex (sc : List Int) (hn : sc.length ≤ 63) : ∃ sg, sgOK sc sg := by
  have h : ∀ q u : Nat, ∃ c, sgn c ∧ ∃ r, (∀ S : Sto, fn__law_drawn [.scr sc, .int (40 + 30 * (q : Int) + (u : Int)), .int 8] S = .ok (.int r) S) ∧ idx (.str [111, 120, 111, 120, 111, 45, 120, 114]) (.int r) = some (.str [c]) := fun q u => by
    obtain ⟨r, d, r1, r2⟩ := draw_all sc (40 + 30 * (q : Int) + (u : Int)) 8 hn (by omega) (by decide)
    rw [← drawn_eq] at d
    obtain ⟨c, c1, c2⟩ := eight_at ⟨r1, r2⟩
    exact ⟨c, c1, r, d, c2⟩
  exact ⟨fun q u => (h q u).choose, fun q u => (h q u).choose_spec⟩
/-- how many signs each has used -/
def kvU (ns : List (List Nat)) (rows : List Row) : List (List Nat × D) := (ns.zip rows).map fun p => (p.1, .int (sz p.2 : Nat))
theorem look_zip {β : Type} {f : Row → β} : ∀ {ns : List (List Nat)} {rows : List Row} {i : Nat} {w : List Nat} {r : Row}, ns.Nodup → ns[i]? = some w → rows[i]? = some r → ((ns.zip rows).map fun p => (p.1, f p.2)).lookup w = some (f r)
  | [], _, i, w, r, _, h, _ => by cases i <;> cases h
  | x :: ns, [], i, w, r, _, _, h => by cases i <;> cases h
  | x :: ns, y :: rows, 0, w, r, _, h1, h2 => by
    simp at h1 h2
    subst h1 h2
    simp [List.lookup]
  | x :: ns, y :: rows, i + 1, w, r, hd, h1, h2 => by
    rw [List.nodup_cons] at hd
    have hx : w ≠ x := fun z => hd.1 (z ▸ List.mem_of_getElem? (by simpa using h1))
    have := look_zip (f := f) (i := i) (ns := ns) (rows := rows) hd.2 (by simpa using h1) (by simpa using h2)
    simp only [List.zip_cons_cons, List.map_cons, List.lookup]
    have hb : (w == x) = false := by simpa using hx
    rw [hb]
    exact this
theorem put_kv {ns : List (List Nat)} {rows rows' : List Row} {i : Nat} {w : List Nat} {v : Nat} (hd : ns.Nodup) (hl : rows.length = ns.length) (hl' : rows'.length = ns.length) (hw : ns[i]? = some w)
    (hs : ∀ j r r', rows[j]? = some r → rows'[j]? = some r' → sz r' = if j = i then v else sz r) : putD w (.int (v : Nat)) (kvU ns rows) = kvU ns rows' := by
  have hlt := (List.getElem?_eq_some_iff.mp hw).1
  have an : (kvU ns rows).any (fun q => decide (q.1 = w)) = true := by
    rw [List.any_eq_true]
    refine ⟨(w, .int (sz rows[i] : Nat)), List.mem_map.mpr ⟨(w, rows[i]), ?_, rfl⟩, by simp⟩
    exact List.mem_of_getElem? (List.getElem?_zip_eq_some.mpr ⟨hw, List.getElem?_eq_getElem (by omega)⟩)
  unfold putD
  rw [if_pos an]
  apply List.ext_getElem?
  intro j
  unfold kvU
  rw [List.getElem?_map, List.getElem?_map, List.getElem?_map]
  by_cases hj : j < ns.length
  · have e1 : (ns.zip rows)[j]? = some (ns[j], rows[j]) := List.getElem?_zip_eq_some.mpr ⟨List.getElem?_eq_getElem hj, List.getElem?_eq_getElem (by omega)⟩
    have e2 : (ns.zip rows')[j]? = some (ns[j], rows'[j]) := List.getElem?_zip_eq_some.mpr ⟨List.getElem?_eq_getElem hj, List.getElem?_eq_getElem (by omega)⟩
    have e3 := hs j _ _ (List.getElem?_eq_getElem (by omega)) (List.getElem?_eq_getElem (by omega))
    rw [e1, e2]
    simp only [Option.map_some, e3]
    have hw' : ns[i] = w := by rw [List.getElem?_eq_getElem hlt] at hw; exact Option.some.inj hw
    by_cases h : j = i
    · subst h
      rw [if_pos hw', if_pos rfl]
    · rw [if_neg h, if_neg]
      intro z
      rw [← hw'] at z
      have pw := List.pairwise_iff_getElem.mp hd
      rcases Nat.lt_or_gt_of_ne h with q | q
      · exact pw j i hj hlt q z
      · exact pw i j hlt hj q z.symm
  · have e1 : (ns.zip rows)[j]? = none := List.getElem?_eq_none (by simp; omega)
    have e2 : (ns.zip rows')[j]? = none := List.getElem?_eq_none (by simp; omega)
    rw [e1, e2]
    rfl
/-! ### behind a deed -/
theorem go_rows (k : Nat) (bs : List Int) (st : Int) (s : Sd) : ((goOn k bs st s).rows = s.rows.map (· ++ [[]]) ∧ todoL s.rows = []) ∨ (goOn k bs st s).rows = s.rows := by
  unfold goOn
  split
  · rename_i ht
    split
    · exact .inr (end_rows k bs st s).1
    · exact .inl ⟨rfl, ht⟩
  · exact .inr rfl
theorem go_deeds (m : Nat) (bs : List Int) (st : Int) (s : Sd) : (goOn m bs st s).deeds = s.deeds := by
  unfold goOn
  split
  · split
    · exact (end_rows m bs st s).2
    · rfl
  · rfl
section
variable {S : Sto} {n : Nat} {s : Sd} {ns : List (List Nat)} {bs : List Int} {st : Int} {h : Nat} {ds us : List Nat}
theorem sto_meet (en : S[n]? = some (mtC ns bs st h ds us)) (c : Nat) : (sto2 S n ns bs st s h ds c)[n]? = some (mtC ns bs st S.length (ds ++ [h]) []) := by
  unfold sto2
  exact set_at (app_old en)
theorem sto_here (en : S[n]? = some (mtC ns bs st h ds us)) (c : Nat) : (sto2 S n ns bs st s h ds c)[S.length]? = some (sdC (goOn ns.length bs st (putS s c))) := by
  unfold sto2
  rw [set_other (Nat.ne_of_lt (lt_of en))]
  exact app_new
end
/-! ### the loop -/
def thF : Fns := tabZ [(3, fn__law_drawn), (43, fn__law_done)] [] [] [] fdAll [(320, 12, 44, fn_Meet_word), (321, 12, 43, fn_Meet_who), (324, 12, 34, fn_Meet_row)] [(523, 12, fn_Meet___init__, [])] []
theorem g3 : thF.fn 3 = some fn__law_drawn := rfl
theorem g43 : thF.fn 43 = some fn__law_done := rfl
theorem n320 : thF.mt 320 = some (12, 44, fn_Meet_word) := rfl
theorem n321 : thF.mt 321 = some (12, 43, fn_Meet_who) := rfl
theorem n324 : thF.mt 324 = some (12, 34, fn_Meet_row) := rfl
theorem j523 : thF.mkr 523 = some (12, fn_Meet___init__, []) := rfl
abbrev Et (sc : List Int) (ns : List (List Nat)) (bs : List Int) (A : List (List Nat)) (n d : Nat) (a6 a7 a8 : Slot) : Env := [.val (.scr sc), .val (strs_ ns), .val (tupI bs), .val (strs_ A), .val (.obj n), .val (.obj d), a6, a7, a8]
/-- signs of the names -/
def sgsOf (sg : Nat → Nat → Nat) (A ns : List (List Nat)) : List (Nat → Nat) := ns.map fun w => sg (A.idxOf w)
structure Th (sg : Nat → Nat → Nat) (A ns : List (List Nat)) (bs : List Int) (S0 : Sto) (n d k : Nat) (S : Sto) (s : Sd) (h : Nat) (ds us : List Nat) : Prop where
  old : ∀ (j : Nat) (c : Cell), S0[j]? = some c → S[j]? = some c
  far : S0.length ≤ n ∧ S0.length ≤ d
  en : S[n]? = some (mtC ns bs 2 h ds us)
  eh : S[h]? = some (sdC s)
  ed : S[d]? = some (.dic (kvU ns s.rows))
  inv : Inv ns.length bs s
  run : Run (sgsOf sg A ns) bs.length s
  done : ds.length = s.deeds.length
  word : s.state ≠ wMain → s.state = endW s.rows
  count : s.state = wMain → s.deeds.length = k
theorem go_sz {k : Nat} {bs : List Int} {st : Int} {s : Sd} {j : Nat} {r r' : Row} (h : s.rows[j]? = some r) (h' : (goOn k bs st s).rows[j]? = some r') : sz r' = sz r := by
  rcases go_rows k bs st s with ⟨e, _⟩ | e
  · rw [e, List.getElem?_map, h] at h'
    cases h'
    simp [sz]
  · rw [e, h] at h'
    cases h'
    rfl
theorem th_turn {sc : List Int} {sg : Nat → Nat → Nat} (hsg : sgOK sc sg) {A ns : List (List Nat)} (hA : Names A) (hN : Names ns) (hsub : ∀ w ∈ ns, w ∈ A) {bs : List Int} {S0 : Sto} {n d k : Nat} {S : Sto} {s : Sd} {h : Nat} {ds us : List Nat} (T : Th sg A ns bs S0 n d k S s h ds us) (a6 a7 a8 : Slot) :
    ∃ S' s' h' ds' us' b7 b8, eachF thF (.name 6) th2B (.int (k : Nat)) (Et sc ns bs A n d a6 a7 a8) S = .ok (.nx (Et sc ns bs A n d (.val (.int (k : Nat))) b7 b8)) S' ∧ Th sg A ns bs S0 n d (k + 1) S' s' h' ds' us' := by
  obtain ⟨old, far, en, eh, ed, i, R, hdn, hw, hk⟩ := T
  have wd := word_ok en eh
  have eb : ∀ a, eachF thF (.name 6) th2B (.int (k : Nat)) (Et sc ns bs A n d a a7 a8) S = exs thF th2B (Et sc ns bs A n d (.val (.int (k : Nat))) a7 a8) S := fun a => eachF_eq rfl
  rw [eb]
  by_cases hm : s.state = wMain
  · have q : eqO (.str s.state) (.str [109, 97, 105, 110]) = some true := by rw [s_eqd, hm]; rfl
    have wh := who_main en eh i hm
    obtain ⟨r, t, k1, k2, k3, _⟩ := next_spec (i.main hm)
    have hlt : nextM s < ns.length := by rw [← i.many]; exact (List.getElem?_eq_some_iff.mp k1).1
    have hwn : ns[nextM s]? = some (ns.getD (nextM s) []) := by rw [List.getD_eq_getElem?_getD, List.getElem?_eq_getElem hlt]; rfl
    generalize ns.getD (nextM s) [] = w at wh hwn
    have hmem := List.mem_of_getElem? hwn
    have hq : A.idxOf w < A.length := List.idxOf_lt_length_iff.mpr (hsub w hmem)
    have hgA : A.getD (A.idxOf w) [] = w := by rw [List.getD_eq_getElem?_getD, List.getElem?_eq_getElem hq]; simp
    have ix := index_of hA.nd hq
    rw [hgA] at ix
    have li : ∀ (y : D) (S : Sto), lmR .index (strs_ A) (.ok y S) = lift (lm .index (strs_ A) y) S := fun y S => lmR_index
    obtain ⟨hc, rr, dr, ic⟩ := hsg (A.idxOf w) (sz r)
    have ml : op2 .mul (.int 30) (.int (A.idxOf w : Nat)) = some (.int (30 * (A.idxOf w : Int))) := mul_small (by omega)
    have lk : (kvU ns s.rows).lookup w = some (.int (sz r : Nat)) := look_zip (f := fun r => D.int (sz r : Nat)) hN.nd hwn k1
    have dg : dgetAt (.obj d) (.str w) S = .ok (.int (sz r : Nat)) S := by simp [dgetAt, dicAt, ed, lk]
    have hsgs : (sgsOf sg A ns)[nextM s]? = some (sg (A.idxOf w)) := by unfold sgsOf; rw [List.getElem?_map, hwn]; rfl
    have hgd : s.rows.getD (nextM s) [] = r := by rw [List.getD_eq_getElem?_getD, k1]; rfl
    have hrm := List.mem_of_getElem? k1
    have m := i.put hm hc
    have inv2 := m.on (st := 2) (by exact hm)
    have pk : putD w (.int ((sz r + 1 : Nat) : Int)) (kvU ns s.rows) = kvU ns (goOn ns.length bs 2 (putS s (sg (A.idxOf w) (sz r)))).rows := by
      refine put_kv hN.nd i.many inv2.many hwn fun j x x' hx hx' => ?_
      have hjl : j < s.rows.length := (List.getElem?_eq_some_iff.mp hx).1
      have base : (putS s (sg (A.idxOf w) (sz r))).rows[j]? = some (if j = nextM s then putRow r [sg (A.idxOf w) (sz r)] else x) := by
        show (s.rows.set (nextM s) (putRow (s.rows.getD (nextM s) []) [sg (A.idxOf w) (sz r)]))[j]? = _
        rw [hgd]
        by_cases hj : j = nextM s
        · subst hj
          rw [List.getElem?_set_self hjl, if_pos rfl]
        · rw [List.getElem?_set_ne (fun z => hj z.symm), if_neg hj, hx]
      rw [go_sz base hx']
      by_cases hj : j = nextM s
      · rw [if_pos hj, if_pos hj, sz_put (i.fit.ne r hrm)]
      · rw [if_neg hj, if_neg hj]
    have hnd : d ≠ n := fun z => by rw [z, en] at ed; cases ed
    have hhd : d ≠ h := fun z => by rw [z, eh] at ed; cases ed
    have hkl : (kvU ns s.rows).length < 1000 := by have := i.some_; simp [kvU]; omega
    have dp : dputAt (.obj d) (.str w) (.int ((sz r : Int) + 1)) S = some (S.set d (.dic (kvU ns (goOn ns.length bs 2 (putS s (sg (A.idxOf w) (sz r)))).rows))) := by
      have e : ((sz r : Int) + 1) = ((sz r + 1 : Nat) : Int) := by push_cast; rfl
      rw [e]
      simp only [dputAt, ed, hkl, if_true, pk]
    have en2 : (S.set d (.dic (kvU ns (goOn ns.length bs 2 (putS s (sg (A.idxOf w) (sz r)))).rows)))[n]? = some (mtC ns bs 2 h ds us) := by rw [set_other hnd]; exact en
    have eh2 : (S.set d (.dic (kvU ns (goOn ns.length bs 2 (putS s (sg (A.idxOf w) (sz r)))).rows)))[h]? = some (sdC s) := by rw [set_other hhd]; exact eh
    have ed2 := set_at (c' := .dic (kvU ns (goOn ns.length bs 2 (putS s (sg (A.idxOf w) (sz r)))).rows)) ed
    have hl72 := i.lt hm
    have hb := i.bars
    have hs := i.some_
    have h72 : 3 * ns.length * bs.length ≤ 18 * 4 := Nat.mul_le_mul (by omega) (by omega)
    have dn := done_ok en2 eh2 i hm (by omega) hc
    have en3 := sto_meet (s := s) en2 (sg (A.idxOf w) (sz r))
    have eh3 := sto_here (s := s) en2 (sg (A.idxOf w) (sz r))
    have ed3 : (sto2 (S.set d (.dic (kvU ns (goOn ns.length bs 2 (putS s (sg (A.idxOf w) (sz r)))).rows))) n ns bs 2 s h ds (sg (A.idxOf w) (sz r)))[d]? = some (.dic (kvU ns (goOn ns.length bs 2 (putS s (sg (A.idxOf w) (sz r)))).rows)) := by
      unfold sto2
      rw [set_other (fun z => hnd z.symm)]
      exact app_old ed2
    have h0 : (putS s (sg (A.idxOf w) (sz r))).rows ≠ [] := fun z => by have := m.many; rw [z] at this; simp at this; omega
    refine ⟨_, goOn ns.length bs 2 (putS s (sg (A.idxOf w) (sz r))), _, ds ++ [h], [], .val (.str w), .val (.str [sg (A.idxOf w) (sz r)]), ?_, ?_, far, en3, eh3, ed3, inv2, (R.put hm (i.main hm) k1 hsgs).on (by exact hm) h0 m.many.symm, ?_, go_word (by exact hm), fun _ => ?_⟩
    rotate_left
    · intro j c hj
      have hjl := lt_of hj
      unfold sto2
      rw [set_other (show n ≠ j by omega)]
      refine app_old ?_
      rw [set_other (show d ≠ j by omega)]
      exact old j c hj
    rotate_left
    rotate_left
    · generalize sto2 (S.set d (.dic (kvU ns (goOn ns.length bs 2 (putS s (sg (A.idxOf w) (sz r)))).rows))) n ns bs 2 s h ds (sg (A.idxOf w) (sz r)) = S3 at *
      generalize S.set d (.dic (kvU ns (goOn ns.length bs 2 (putS s (sg (A.idxOf w) (sz r)))).rows)) = S2 at *
      generalize lastM (s.rows.getD (nextM s) []) ++ [sg (A.idxOf w) (sz r)] = told at dn
      unfold th2B th2B_0
      simp [exs_cons, exs_nil, exsK_nx, exsK_ap, ex_ifs, ifK_t, ifK_f, ex_asg1, ex_asg, ex_ret, ex_expr, ex_pass, ex_new, r_var, varR_val, r_own, ownR_own, r_cst, r_glo, r_op, r_chain, r_neg, negR_some, r_nt, r_and, r_or, r_ite, r_lst, r_tup, r_idx, r_slc0, r_slc1, r_slc2, r_slc3, r_rev, r_f1, r_f2, r_meth, r_isi, r_call, callR_ok, r_callO, callO_ok, r_lmeth, lmR_count, lmR_index, r_nrng, nrR_int, r_lzip, ex_cpy, ex_par, ex_retF, tabY_fn, tabY_gl, r_nil, r_cons, tab_fn, tab_gl, tabX_fn, tabX_gl, look_hit, look_miss, r_fld, r_mth, mthR_ok, r_mk, mkR_ok, r_lenSet, r_isLT, eqNR_lst, r_eqN, r_dget, r_dcpy, stoR_some, ex_setf, ex_dput, tabZ_fn, tabZ_gl, tabZ_mt, tabZ_mk, tabZ_fd, bindT, op_add, op_sub, op_lt, op_le, op_gt, op_ge, op_eq, op_ne, op_in, op_nin, op_is, op_isn, small_ok, n320, is_meet en, wd, q, n321, wh, g3, li, ix, ml, dg, dr, ic, dp, g43, dn]
    · rw [go_deeds]
      show (ds ++ [h]).length = (s.deeds ++ [_]).length
      simp [hdn]
    · rw [go_deeds]
      show (s.deeds ++ [_]).length = k + 1
      simp [hk hm]
  · have q : eqO (.str s.state) (.str [109, 97, 105, 110]) = some false := by rw [s_eqd]; exact congrArg some (decide_eq_false hm)
    refine ⟨S, s, h, ds, us, a7, a8, ?_, old, far, en, eh, ed, i, R, hdn, hw, fun z => absurd z hm⟩
    unfold th2B th2B_0
    simp [exs_cons, exs_nil, exsK_nx, exsK_ap, ex_ifs, ifK_t, ifK_f, ex_asg1, ex_asg, ex_ret, ex_expr, ex_pass, ex_new, r_var, varR_val, r_own, ownR_own, r_cst, r_glo, r_op, r_chain, r_neg, negR_some, r_nt, r_and, r_or, r_ite, r_lst, r_tup, r_idx, r_slc0, r_slc1, r_slc2, r_slc3, r_rev, r_f1, r_f2, r_meth, r_isi, r_call, callR_ok, r_callO, callO_ok, r_lmeth, lmR_count, lmR_index, r_nrng, nrR_int, r_lzip, ex_cpy, ex_par, ex_retF, tabY_fn, tabY_gl, r_nil, r_cons, tab_fn, tab_gl, tabX_fn, tabX_gl, look_hit, look_miss, r_fld, r_mth, mthR_ok, r_mk, mkR_ok, r_lenSet, r_isLT, eqNR_lst, r_eqN, r_dget, r_dcpy, stoR_some, ex_setf, ex_dput, tabZ_fn, tabZ_gl, tabZ_mt, tabZ_mk, tabZ_fd, bindT, op_add, op_sub, op_lt, op_le, op_gt, op_ge, op_eq, op_ne, op_in, op_nin, op_is, op_isn, small_ok, n320, is_meet en, wd, q]
theorem th_all {sc : List Int} {sg : Nat → Nat → Nat} (hsg : sgOK sc sg) {A ns : List (List Nat)} (hA : Names A) (hN : Names ns) (hsub : ∀ w ∈ ns, w ∈ A) {bs : List Int} {S0 : Sto} {n d : Nat} :
    ∀ (rem k : Nat) (S : Sto) (s : Sd) (h : Nat) (ds us : List Nat), Th sg A ns bs S0 n d k S s h ds us → ∀ a6 a7 a8 : Slot, ∃ S' s' h' ds' us' b6 b7 b8, loop (eachF thF (.name 6) th2B) ((List.range' k rem).map fun j => .int (0 + (j : Nat))) (Et sc ns bs A n d a6 a7 a8) S = .ok (.nx (Et sc ns bs A n d b6 b7 b8)) S' ∧ Th sg A ns bs S0 n d (k + rem) S' s' h' ds' us'
  | 0, k, S, s, h, ds, us, T, a6, a7, a8 => ⟨S, s, h, ds, us, a6, a7, a8, rfl, T⟩
  | rem + 1, k, S, s, h, ds, us, T, a6, a7, a8 => by
    obtain ⟨S', s', h', ds', us', b7, b8, e, T'⟩ := th_turn hsg hA hN hsub T a6 a7 a8
    obtain ⟨S2, s2, h2, ds2, us2, c6, c7, c8, e2, T2⟩ := th_all hsg hA hN hsub rem (k + 1) S' s' h' ds' us' T' (.val (.int (k : Nat))) b7 b8
    have e0 : D.int (0 + (k : Nat)) = .int (k : Nat) := by rw [Int.zero_add]
    refine ⟨S2, s2, h2, ds2, us2, c6, c7, c8, ?_, by rw [show k + (rem + 1) = k + 1 + rem by omega]; exact T2⟩
    rw [List.range'_succ, List.map_cons, e0, loop, e, R.turn_nx]
    exact e2
theorem through_in (x y z u : D) (S : Sto) : fn__law_through [x, y, z, u] S = (exs thF b__law_through [.val x, .val y, .val z, .val u, .emp, .emp, .emp, .emp, .emp] S).ends := rfl
def kvR (ns : List (List Nat)) (rows : List Row) : List (List Nat × D) := (ns.zip rows).map fun p => (p.1, strs_ p.2)
theorem kvsD_map {β : Type} (f : β → List Nat × D) : ∀ l : List β, kvsD (l.map fun x => .tup [.str (f x).1, (f x).2]) = some (l.map f)
  | [] => rfl
  | x :: l => by rw [List.map_cons, kvsD, kvsD_map f l]; rfl
theorem dprs_ok {F : Fns} {a : Ex} {ρ : Env} {S S1 : Sto} {xs : List D} {kvs : List (List Nat × D)} (h : ev F a ρ S = .ok (.lst xs) S1) (hk : kvsD xs = some kvs) (hd : (kvs.map (·.1)).Nodup) : ev F (.dprs a) ρ S = .ok (.obj S1.length) (S1 ++ [.dic kvs]) := by
  rw [ev, h, R.bind_ok]
  simp only [hk, hd, if_true]
theorem start_inv4 {ns : List (List Nat)} {bs : List Int} (hN : Names ns) (hB : Bars bs 4) : Inv ns.length bs (sd0 (ns.map fun _ => [[]])) := by
  have hs := hN.some_
  have hb := hB.some_
  refine ⟨by omega, hb, by simp [sd0], fun r hr => ?_, ⟨1, by omega, hb.1, fun r hr => ?_⟩, fun _ z => ?_, ?_⟩
  · obtain ⟨_, _, rfl⟩ := List.mem_map.mp hr
    exact ⟨by simp [markB, opn], rfl, by simp⟩
  · obtain ⟨_, _, rfl⟩ := List.mem_map.mp hr
    rfl
  · have hne : (sd0 (ns.map fun _ => [[]])).rows ≠ [] := fun q => by
      have := congrArg List.length q
      simp [sd0] at this
      rw [this] at hs
      simp at hs
    obtain ⟨r, hr⟩ := List.exists_mem_of_ne_nil _ hne
    have h2 := not_todo z hr
    obtain ⟨_, _, rfl⟩ := List.mem_map.mp hr
    exact h2 ⟨by decide, rfl⟩
  · show 0 = tot _
    simp only [sd0, tot, List.map_map]
    clear hs hN
    induction ns with
    | nil => rfl
    | cons w ns ih => simp [sz] at ih ⊢; exact ih
theorem through_ok {sc : List Int} {sg : Nat → Nat → Nat} (hsg : sgOK sc sg) {A ns : List (List Nat)} (hA : Names A) (hN : Names ns) (hsub : ∀ w ∈ ns, w ∈ A) {bs : List Int} (hB : Bars bs 4) (S : Sto) :
    ∃ S' rows d, fn__law_through [.scr sc, strs_ ns, tupI bs, strs_ A] S = .ok (.tup [.str (endW rows), .obj d]) S' ∧ S'[d]? = some (.dic (kvR ns rows)) ∧ (∀ (j : Nat) (c : Cell), S[j]? = some c → S'[j]? = some c) ∧ Fin (sgsOf sg A ns) bs.length rows ∧ (∀ r ∈ rows, Good r) := by
  have hns := hN.some_
  have hbs := hB.some_
  have mi := meet_init hN hB (by omega) (st := 2) (by omega) (strs_ ns) (.inl rfl) S
  have inv := start_inv4 hN hB
  -- the store behind the first two
  let S1 : Sto := S ++ [mtC ns bs 2 (S.length + 1) [] []] ++ [sdC (sd0 (ns.map fun _ => [[]]))]
  have l1 : S1.length = S.length + 2 := by simp [S1]
  have s0 : ex thF th0 [.val (.scr sc), .val (strs_ ns), .val (tupI bs), .val (strs_ A), .emp, .emp, .emp, .emp, .emp] S = .ok (.nx [.val (.scr sc), .val (strs_ ns), .val (tupI bs), .val (strs_ A), .val (.obj S.length), .emp, .emp, .emp, .emp]) S1 := by
    have mi : fn_Meet___init__ [.obj S.length, strs_ ns, tupI bs, .int 2] (S ++ [.ins 12 []]) = .ok .non S1 := mi
    unfold th0
    clear_value S1
    simp [exs_cons, exs_nil, exsK_nx, exsK_ap, ex_ifs, ifK_t, ifK_f, ex_asg1, ex_asg, ex_ret, ex_expr, ex_pass, ex_new, r_var, varR_val, r_own, ownR_own, r_cst, r_glo, r_op, r_chain, r_neg, negR_some, r_nt, r_and, r_or, r_ite, r_lst, r_tup, r_idx, r_slc0, r_slc1, r_slc2, r_slc3, r_rev, r_f1, r_f2, r_meth, r_isi, r_call, callR_ok, r_callO, callO_ok, r_lmeth, lmR_count, lmR_index, r_nrng, nrR_int, r_lzip, ex_cpy, ex_par, ex_retF, tabY_fn, tabY_gl, r_nil, r_cons, tab_fn, tab_gl, tabX_fn, tabX_gl, look_hit, look_miss, r_fld, r_mth, mthR_ok, r_mk, mkR_ok, r_lenSet, r_isLT, eqNR_lst, r_eqN, r_dget, r_dcpy, stoR_some, ex_setf, ex_dput, tabZ_fn, tabZ_gl, tabZ_mt, tabZ_mk, tabZ_fd, bindT, op_add, op_sub, op_lt, op_le, op_gt, op_ge, op_eq, op_ne, op_in, op_nin, op_is, op_isn, small_ok, j523, mi]
  have cu : ev thF (.comp (.tup (.cons (.var 7) (.cons (.cst (.int 0)) .nil))) (.name 7) (.seq (.var 1)) [7]) [.val (.scr sc), .val (strs_ ns), .val (tupI bs), .val (strs_ A), .val (.obj S.length), .emp, .emp, .emp, .emp] S1 = .ok (.lst (ns.map fun w => .tup [.str w, .int 0])) S1 := by
    refine comp_map (l := ns) D.str (fun w => .tup [.str w, .int 0]) (by rw [evIt, r_var]; rfl) (by omega) fun w hw => ?_
    simp [exs_cons, exs_nil, exsK_nx, exsK_ap, ex_ifs, ifK_t, ifK_f, ex_asg1, ex_asg, ex_ret, ex_expr, ex_pass, ex_new, r_var, varR_val, r_own, ownR_own, r_cst, r_glo, r_op, r_chain, r_neg, negR_some, r_nt, r_and, r_or, r_ite, r_lst, r_tup, r_idx, r_slc0, r_slc1, r_slc2, r_slc3, r_rev, r_f1, r_f2, r_meth, r_isi, r_call, callR_ok, r_callO, callO_ok, r_lmeth, lmR_count, lmR_index, r_nrng, nrR_int, r_lzip, ex_cpy, ex_par, ex_retF, tabY_fn, tabY_gl, r_nil, r_cons, tab_fn, tab_gl, tabX_fn, tabX_gl, look_hit, look_miss, r_fld, r_mth, mthR_ok, r_mk, mkR_ok, r_lenSet, r_isLT, eqNR_lst, r_eqN, r_dget, r_dcpy, stoR_some, ex_setf, ex_dput, tabZ_fn, tabZ_gl, tabZ_mt, tabZ_mk, tabZ_fd, bindT, op_add, op_sub, op_lt, op_le, op_gt, op_ge, op_eq, op_ne, op_in, op_nin, op_is, op_isn, small_ok, compF, noOwn, wipe]
  have ku : kvsD (ns.map fun w => .tup [.str w, .int 0]) = some (kvU ns (sd0 (ns.map fun _ => [[]])).rows) := by
    have := kvsD_map (fun w : List Nat => (w, D.int 0)) ns
    rw [this]
    congr 1
    show _ = (ns.zip (ns.map fun _ => [[]])).map _
    rw [List.zip_map_right, List.map_map]
    clear this cu s0 mi inv l1 hns hN hsub
    induction ns with
    | nil => rfl
    | cons w ns ih => simp [sz] at ih ⊢; exact ih
  have nk : ((kvU ns (sd0 (ns.map fun _ => [[]])).rows).map (·.1)).Nodup := by
    have e : (kvU ns (sd0 (ns.map fun _ => [[]])).rows).map (·.1) = ns := by
      unfold kvU
      rw [List.map_map]
      show (ns.zip (ns.map fun _ => [[]])).map Prod.fst = ns
      rw [List.map_fst_zip (by simp)]
    rw [e]
    exact hN.nd
  let S2 : Sto := S1 ++ [.dic (kvU ns (sd0 (ns.map fun _ => [[]])).rows)]
  have s1 : ex thF th1 [.val (.scr sc), .val (strs_ ns), .val (tupI bs), .val (strs_ A), .val (.obj S.length), .emp, .emp, .emp, .emp] S1 = .ok (.nx [.val (.scr sc), .val (strs_ ns), .val (tupI bs), .val (strs_ A), .val (.obj S.length), .val (.obj S1.length), .emp, .emp, .emp]) S2 := by
    unfold th1
    rw [ex_asg1, dprs_ok cu ku nk]
    rfl
  have T0 : Th sg A ns bs S S.length S1.length 0 S2 (sd0 (ns.map fun _ => [[]])) (S.length + 1) [] [] := by
    refine ⟨fun j c hj => ?_, ⟨Nat.le_refl _, by omega⟩, ?_, ?_, app_new, inv, ⟨by simp [sd0, sgsOf], fun i r g hr _ => ?_, ⟨1, by omega, hbs.1, fun r hr => ?_, fun L' a b => by omega⟩, fun z => absurd rfl z⟩, rfl, fun z => absurd rfl z, fun _ => rfl⟩
    · exact app_old (app_old (app_old hj))
    · exact app_old (app_old app_new)
    · have : (S ++ [mtC ns bs 2 (S.length + 1) [] []] ++ [sdC (sd0 (ns.map fun _ => [[]]))])[S.length + 1]? = some (sdC (sd0 (ns.map fun _ => [[]]))) := by
        have := app_new (S := S ++ [mtC ns bs 2 (S.length + 1) [] []]) (c := sdC (sd0 (ns.map fun _ => [[]])))
        simpa using this
      exact app_old this
    · have hr := List.mem_of_getElem? hr
      obtain ⟨_, _, rfl⟩ := List.mem_map.mp hr
      exact mak0 g
    · obtain ⟨_, _, rfl⟩ := List.mem_map.mp hr
      rfl
  obtain ⟨S3, s3, h3, ds3, us3, b6, b7, b8, lo, T3⟩ := th_all hsg hA hN hsub (3 * ns.length * bs.length) 0 S2 _ _ _ _ T0 .emp .emp .emp
  have h72 : 3 * ns.length * bs.length ≤ 12 * 4 := Nat.mul_le_mul (by omega) (by omega)
  have er : rngD 0 (3 * (ns.length : Int) * (bs.length : Int)) = some ((List.range' 0 (3 * ns.length * bs.length)).map fun j => .int (0 + (j : Nat))) := by
    have := rng_eq (3 * ns.length * bs.length) (by omega)
    push_cast at this
    exact this
  have bl1 : b1 .len (strs_ ns) = some (.int (ns.length : Nat)) := by simp [strs_, b1]
  have bl2 : b1 .len (tupI bs) = some (.int (bs.length : Nat)) := by simp [tupI, b1]
  have m1 : op2 .mul (.int 3) (.int (ns.length : Nat)) = some (.int (3 * (ns.length : Int))) := mul_small (by omega)
  have m2 : op2 .mul (.int (3 * (ns.length : Int))) (.int (bs.length : Nat)) = some (.int (3 * (ns.length : Int) * (bs.length : Int))) := mul_small (by omega)
  have s2 : ex thF th2 [.val (.scr sc), .val (strs_ ns), .val (tupI bs), .val (strs_ A), .val (.obj S.length), .val (.obj S1.length), .emp, .emp, .emp] S2 = .ok (.nx (Et sc ns bs A S.length S1.length b6 b7 b8)) S3 := by
    have hi : evIt thF (.rng (.op .mul (.op .mul (.cst (.int 3)) (.f1 .len (.var 1))) (.f1 .len (.var 2)))) [.val (.scr sc), .val (strs_ ns), .val (tupI bs), .val (strs_ A), .val (.obj S.length), .val (.obj S1.length), .emp, .emp, .emp] S2 = .ok ((List.range' 0 (3 * ns.length * bs.length)).map fun j => .int (0 + (j : Nat))) S2 := by
      refine ev_rng ?_ er
      clear_value S2 S1
      simp [exs_cons, exs_nil, exsK_nx, exsK_ap, ex_ifs, ifK_t, ifK_f, ex_asg1, ex_asg, ex_ret, ex_expr, ex_pass, ex_new, r_var, varR_val, r_own, ownR_own, r_cst, r_glo, r_op, r_chain, r_neg, negR_some, r_nt, r_and, r_or, r_ite, r_lst, r_tup, r_idx, r_slc0, r_slc1, r_slc2, r_slc3, r_rev, r_f1, r_f2, r_meth, r_isi, r_call, callR_ok, r_callO, callO_ok, r_lmeth, lmR_count, lmR_index, r_nrng, nrR_int, r_lzip, ex_cpy, ex_par, ex_retF, tabY_fn, tabY_gl, r_nil, r_cons, tab_fn, tab_gl, tabX_fn, tabX_gl, look_hit, look_miss, r_fld, r_mth, mthR_ok, r_mk, mkR_ok, r_lenSet, r_isLT, eqNR_lst, r_eqN, r_dget, r_dcpy, stoR_some, ex_setf, ex_dput, tabZ_fn, tabZ_gl, tabZ_mt, tabZ_mk, tabZ_fd, bindT, op_add, op_sub, op_lt, op_le, op_gt, op_ge, op_eq, op_ne, op_in, op_nin, op_is, op_isn, small_ok, bl1, bl2, m1, m2]
    unfold th2
    rw [ex_each, hi, R.then_ok]
    exact lo
  have hm : s3.state ≠ wMain := fun z => by
    have a := T3.inv.lt z
    have b := T3.count z
    omega
  have h0 : s3.rows ≠ [] := fun z => by have := T3.inv.many; rw [z] at this; simp at this; omega
  have wd := word_ok T3.en T3.eh
  have hl3 := T3.inv.many
  have cr : ev thF (.comp (.tup (.cons (.var 7) (.cons (.mth (.var 4) 324 (.cons (.var 7) .nil)) .nil))) (.name 7) (.seq (.var 1)) [7]) (Et sc ns bs A S.length S1.length b6 b7 b8) S3 = .ok (.lst ((ns.zip s3.rows).map fun p => .tup [.str p.1, strs_ p.2])) S3 := by
    refine comp_map (l := ns.zip s3.rows) (fun p => .str p.1) (fun p => .tup [.str p.1, strs_ p.2]) ?_ (by simp; omega) fun p hp => ?_
    · rw [evIt, r_var]
      show (R.ok (strs_ ns) S3).bind _ = _
      rw [R.bind_ok]
      have e : (ns.zip s3.rows).map (fun p => D.str p.1) = ns.map D.str := by
        have : (ns.zip s3.rows).map (fun p => D.str p.1) = ((ns.zip s3.rows).map Prod.fst).map D.str := by rw [List.map_map]; rfl
        rw [this, List.map_fst_zip (by omega)]
      rw [e]
      rfl
    · obtain ⟨i, hi, e⟩ := List.getElem_of_mem hp
      have hg := List.getElem?_zip_eq_some.mp (show (ns.zip s3.rows)[i]? = some p by rw [List.getElem?_eq_getElem hi, e])
      have ro := row_ok T3.en T3.eh hN hg.1 hg.2
      simp [exs_cons, exs_nil, exsK_nx, exsK_ap, ex_ifs, ifK_t, ifK_f, ex_asg1, ex_asg, ex_ret, ex_expr, ex_pass, ex_new, r_var, varR_val, r_own, ownR_own, r_cst, r_glo, r_op, r_chain, r_neg, negR_some, r_nt, r_and, r_or, r_ite, r_lst, r_tup, r_idx, r_slc0, r_slc1, r_slc2, r_slc3, r_rev, r_f1, r_f2, r_meth, r_isi, r_call, callR_ok, r_callO, callO_ok, r_lmeth, lmR_count, lmR_index, r_nrng, nrR_int, r_lzip, ex_cpy, ex_par, ex_retF, tabY_fn, tabY_gl, r_nil, r_cons, tab_fn, tab_gl, tabX_fn, tabX_gl, look_hit, look_miss, r_fld, r_mth, mthR_ok, r_mk, mkR_ok, r_lenSet, r_isLT, eqNR_lst, r_eqN, r_dget, r_dcpy, stoR_some, ex_setf, ex_dput, tabZ_fn, tabZ_gl, tabZ_mt, tabZ_mk, tabZ_fd, bindT, op_add, op_sub, op_lt, op_le, op_gt, op_ge, op_eq, op_ne, op_in, op_nin, op_is, op_isn, small_ok, compF, noOwn, wipe, n324, is_meet T3.en, ro]
  have kr : kvsD ((ns.zip s3.rows).map fun p => .tup [.str p.1, strs_ p.2]) = some (kvR ns s3.rows) := kvsD_map (fun p : List Nat × Row => (p.1, strs_ p.2)) (ns.zip s3.rows)
  have nr : ((kvR ns s3.rows).map (·.1)).Nodup := by
    have e : (kvR ns s3.rows).map (·.1) = ns := by
      unfold kvR
      rw [List.map_map]
      show (ns.zip s3.rows).map Prod.fst = ns
      rw [List.map_fst_zip (by omega)]
    rw [e]
    exact hN.nd
  have dk := dprs_ok cr kr nr
  refine ⟨S3 ++ [.dic (kvR ns s3.rows)], s3.rows, S3.length, ?_, app_new, fun j c hj => app_old (T3.old j c hj), T3.run.fin hm h0, T3.inv.good⟩
  rw [through_in, b__law_through_split, exs_nx s0, exs_nx s1, exs_nx s2]
  have hw := T3.word hm
  rw [hw] at wd
  generalize endW s3.rows = W at *
  unfold th3
  simp [exs_cons, exs_nil, exsK_nx, exsK_ap, ex_ifs, ifK_t, ifK_f, ex_asg1, ex_asg, ex_ret, ex_expr, ex_pass, ex_new, r_var, varR_val, r_own, ownR_own, r_cst, r_glo, r_op, r_chain, r_neg, negR_some, r_nt, r_and, r_or, r_ite, r_lst, r_tup, r_idx, r_slc0, r_slc1, r_slc2, r_slc3, r_rev, r_f1, r_f2, r_meth, r_isi, r_call, callR_ok, r_callO, callO_ok, r_lmeth, lmR_count, lmR_index, r_nrng, nrR_int, r_lzip, ex_cpy, ex_par, ex_retF, tabY_fn, tabY_gl, r_nil, r_cons, tab_fn, tab_gl, tabX_fn, tabX_gl, look_hit, look_miss, r_fld, r_mth, mthR_ok, r_mk, mkR_ok, r_lenSet, r_isLT, eqNR_lst, r_eqN, r_dget, r_dcpy, stoR_some, ex_setf, ex_dput, tabZ_fn, tabZ_gl, tabZ_mt, tabZ_mk, tabZ_fd, bindT, op_add, op_sub, op_lt, op_le, op_gt, op_ge, op_eq, op_ne, op_in, op_nin, op_is, op_isn, small_ok, n320, is_meet T3.en, wd, dk]
/-! ### the word at the end does not know the order -/
theorem top_none {r : Row} : top? r = none ↔ (wI r).1 = -1 := by
  unfold wI wt
  cases top? r with
  | none => simp
  | some t => simp
theorem topOf_none {rs : List Row} (h : rs ≠ []) : topOf rs = none ↔ ∀ r ∈ rs, (wI r).1 = -1 := by
  obtain ⟨i, rest, hf⟩ : ∃ i rest, firsts rs = i :: rest := by
    cases q : firsts rs with
    | nil => exact absurd q (firsts_ne h)
    | cons i rest => exact ⟨i, rest, rfl⟩
  obtain ⟨r, hr, hb⟩ := mem_firsts.mp (show i ∈ firsts rs by rw [hf]; exact List.mem_cons_self ..)
  have ht : topOf rs = top? r := by
    unfold topOf
    rw [hf, List.headD_cons, List.getD_eq_getElem?_getD, hr]
    rfl
  rw [ht, top_none]
  constructor
  · intro e z hz
    have h1 := hb z hz
    have h2 := (w_lt z).1
    unfold wLt at h1
    omega
  · intro e
    exact e r (List.mem_of_getElem? hr)
theorem enum_count {p : Nat → Bool} : ∀ (l : List Nat) (i : Nat), (enumO (fun i k => if k = 1 then some i else none) i l).length = l.countP (fun k => decide (k = 1))
  | [], _ => rfl
  | k :: l, i => by
    rw [enumO, List.length_append, enum_count (p := p) l (i + 1), List.countP_cons]
    by_cases h : k = 1
    · simp [h]; omega
    · simp [h]
theorem firsts_count (rs : List Row) : (firsts rs).length = rs.countP (fun r => decide (placeOf (rs.map wI) (wI r) = 1)) := by
  have := enum_count (p := fun _ => true) (placesL rs) 0
  unfold firsts firstP
  rw [this]
  unfold placesL
  rw [List.countP_map]
  rfl
theorem place_perm {a b : List (Int × Int × Int)} (h : a.Perm b) (w : Int × Int × Int) : placeOf a w = placeOf b w := by
  unfold placeOf
  rw [(h.filter _).length_eq]
theorem endW_perm {a b : List Row} (h : a.Perm b) (h0 : a ≠ []) : endW a = endW b := by
  have h1 : b ≠ [] := fun z => by rw [z] at h; exact h0 h.eq_nil
  have e1 : (topOf a = none) ↔ (topOf b = none) := by
    rw [topOf_none h0, topOf_none h1]
    exact ⟨fun q r hr => q r (h.mem_iff.mpr hr), fun q r hr => q r (h.mem_iff.mp hr)⟩
  have e2 : (firsts a).length = (firsts b).length := by
    rw [firsts_count, firsts_count, h.countP_eq]
    congr 1
    funext r
    rw [place_perm (h.map wI)]
  unfold endW
  rw [e2]
  by_cases q : topOf a = none ∨ (firsts b).length = 1
  · rw [if_pos q, if_pos (q.imp_left e1.mp)]
  · rw [if_neg q, if_neg fun z => q (z.imp_left e1.mpr)]
/-! ### rows of two main parts -/
section
variable {sg : Nat → Nat → Nat} {A ns ms : List (List Nat)} {B : Nat} {a b : List Row}
theorem sgs_at {i : Nat} {w : List Nat} (h : ns[i]? = some w) : (sgsOf sg A ns)[i]? = some (sg (A.idxOf w)) := by unfold sgsOf; rw [List.getElem?_map, h]; rfl
theorem sub_sgs (hs : ∀ w ∈ ns, w ∈ ms) : ∀ (i : Nat) (g : Nat → Nat), (sgsOf sg A ns)[i]? = some g → ∃ j : Nat, (sgsOf sg A ms)[j]? = some g := fun i g h => by
  unfold sgsOf at h
  rw [List.getElem?_map] at h
  cases q : ns[i]? with
  | none => rw [q] at h; cases h
  | some w =>
    rw [q] at h
    cases h
    obtain ⟨j, hj, e⟩ := List.getElem_of_mem (hs w (List.mem_of_getElem? q))
    exact ⟨j, sgs_at (by rw [List.getElem?_eq_getElem hj, e])⟩
/-- a beginning of the other's row -/
theorem Fin.begin (ha : Fin (sgsOf sg A ns) B a) (hb : Fin (sgsOf sg A ms) B b) (hs : ∀ w ∈ ns, w ∈ ms) (n0 : a ≠ []) (n1 : b ≠ []) {i j : Nat} {w : List Nat} (hi : ns[i]? = some w) (hj : ms[j]? = some w) {x y : Row} (hx : a[i]? = some x) (hy : b[j]? = some y) : x = y.take x.length ∧ x.length ≤ y.length ∧ (x.length < y.length → ¬ runOf x < 9) := by
  have ha' := ha
  have hb' := hb
  obtain ⟨_, ha2, L, l1, l2, l3, l4, l5⟩ := ha
  obtain ⟨_, hb2, M, k1, k2, k3, k4, k5⟩ := hb
  have le := Fin.le ha' hb' (sub_sgs hs) l3 k3 n0 n1
  have ex := l3 x (List.mem_of_getElem? hx)
  have ey := k3 y (List.mem_of_getElem? hy)
  have c1 := ha2 i x _ hx (sgs_at hi)
  have c2 := hb2 j y _ hy (sgs_at hj)
  refine ⟨?_, by omega, fun q => ?_⟩
  · rw [ex]
    exact Cmp.uniq L c1 (c2.take L) ex (by rw [List.length_take, ey]; omega)
  · rcases l5 with l5 | l5
    · omega
    · exact l5 x (List.mem_of_getElem? hx)
theorem Fin.same (ha : Fin (sgsOf sg A ns) B a) (hb : Fin (sgsOf sg A ms) B b) (hs : ∀ w ∈ ns, w ∈ ms) (hs' : ∀ w ∈ ms, w ∈ ns) (n0 : a ≠ []) (n1 : b ≠ []) {i j : Nat} {w : List Nat} (hi : ns[i]? = some w) (hj : ms[j]? = some w) {x y : Row} (hx : a[i]? = some x) (hy : b[j]? = some y) : x = y := by
  obtain ⟨e1, e2, _⟩ := Fin.begin ha hb hs n0 n1 hi hj hx hy
  obtain ⟨_, g2, _⟩ := Fin.begin hb ha hs' n1 n0 hj hi hy hx
  rw [e1, List.take_of_length_le (by omega)]
end
/-! ### lists of texts -/
theorem sliceS (r : Row) (i : Nat) : slc (strs_ r) none (some (i : Int)) = some (strs_ (r.take i)) := by
  have := sliceL_hi (r.map D.str) i
  rw [← List.map_take] at this
  exact this
theorem slice_init (r : Row) : slc (strs_ r) none (some (-1)) = some (strs_ r.dropLast) := by
  show some (D.lst (cut (r.map D.str) none (some (-1)))) = _
  simp only [cut, sx, List.drop_zero, Nat.sub_zero]
  rw [if_pos (by omega)]
  congr 2
  rw [List.dropLast_eq_take, List.map_take]
  congr 1
  simp
  omega
theorem strs_pl (r : Row) : pl 20 (strs_ r) = true := by simp [strs_, pl]
theorem strs_eq (a b : Row) : eqO (strs_ a) (strs_ b) = some (decide (a = b)) := by
  by_cases h : a = b
  · subst h
    rw [eq_same (strs_pl a)]
    simp
  · rw [eq_plain (strs_pl a) (strs_pl b), decide_eq_false h]
    congr 1
    have : ∀ a b : Row, deq.deqs (a.map D.str) (b.map D.str) = true → a = b := by
      intro a
      induction a with
      | nil => intro b hb; cases b with
        | nil => rfl
        | cons _ _ => simp [deq.deqs] at hb
      | cons x a ih => intro b hb; cases b with
        | nil => simp [deq.deqs] at hb
        | cons y b =>
          simp [deq.deqs, deq] at hb
          rw [hb.1, ih b hb.2]
    cases q : deq (strs_ a) (strs_ b) with
    | false => rfl
    | true => exact absurd (this a b (by simpa [strs_, deq] using q)) h
theorem join_strs (r : Row) (h : ∀ m ∈ r, m.length ≤ 3) (hl : r.length ≤ 13) : m1 .join (.str []) (strs_ r) = some (.str r.flatten) := by
  have st : ∀ l : List (List Nat), strsD (l.map D.str) = some l := fun l => by
    induction l with
    | nil => rfl
    | cons a l ih => rw [List.map_cons, strsD, ih]; rfl
  have hs := sz_le h
  unfold sz at hs
  unfold strs_
  simp only [m1, st]
  rw [joinL_nil, if_pos (by unfold lim; simp; omega)]
def lw0 : Sm := (.asg (.name 1) (.call 33 (.cons (.var 0) (.cons (.cst (.int 0)) .nil))))
def lw1 : Sm := (.asg (.name 2) (.call 34 (.cons (.var 0) (.cons (.cst (.int 10)) (.cons (.cst (.int 4)) .nil)))))
def lw2 : Sm := (.asg (.name 3) (.call 3 (.cons (.var 0) (.cons (.cst (.int 30)) (.cons (.f1 .len (.var 1)) .nil)))))
def lw3 : Sm := (.asg (.pair (.name 7) (.name 8)) (.call 51 (.cons (.var 0) (.cons (.var 1) (.cons (.var 2) (.cons (.var 1) .nil))))))
def lw4 : Sm := (.asg (.pair (.name 9) (.name 10)) (.call 51 (.cons (.var 0) (.cons (.rev (.op .add (.slc (.var 1) (some (.var 3)) none) (.slc (.var 1) none (some (.var 3))))) (.cons (.var 2) (.cons (.var 1) .nil))))))
def lw5 : Sm := (.ifs (.or (.op .eq (.var 7) (.cst (.str [109, 97, 105, 110]))) (.op .eq (.var 9) (.cst (.str [109, 97, 105, 110])))) (.cons (.ret (.cst (.bl false))) .nil) .nil)
def lw6 : Sm := (.ifs (.or (.op .ne (.compIf (.var 6) (.name 6) (.seq (.var 1)) (.op .ne (.dget (.var 8) (.var 6)) (.dget (.var 10) (.var 6))) [6]) (.lst .nil)) (.op .ne (.var 7) (.var 9))) (.cons (.ret (.cst (.bl false))) .nil) .nil)
def lw7 : Sm := (.asg (.name 4) (.compIf (.var 6) (.name 6) (.seq (.var 1)) (.op .ne (.var 6) (.idx (.var 1) (.var 3))) [6]))
def lw8 : Sm := (.ifs (.op .eq (.var 4) (.lst .nil)) (.cons (.ret (.cst (.bl true))) .nil) .nil)
def lw9 : Sm := (.asg (.name 5) (.idx (.call 51 (.cons (.var 0) (.cons (.var 4) (.cons (.var 2) (.cons (.var 1) .nil))))) (.cst (.int 1))))
def lw10B_0 : Sm := (.asg (.name 11) (.f2 .min (.f1 .len (.dget (.var 5) (.var 6))) (.f1 .len (.dget (.var 8) (.var 6)))))
def lw10B_1 : Sm := (.ifs (.op .ne (.slc (.dget (.var 5) (.var 6)) none (some (.var 11))) (.slc (.dget (.var 8) (.var 6)) none (some (.var 11)))) (.cons (.ret (.cst (.bl false))) .nil) .nil)
def lw10B_2 : Sm := (.ifs (.op .ne (.meth .join (.cst (.str [])) (.op .add (.slc (.dget (.var 5) (.var 6)) (some (.var 11)) none) (.slc (.dget (.var 8) (.var 6)) (some (.var 11)) none))) (.cst (.str []))) (.cons (.ret (.cst (.bl false))) .nil) .nil)
def lw10B_3B_0 : Sm := (.ifs (.op .ne (.call 24 (.cons (.dget (.var 5) (.var 6)) (.cons (.dget (.var 5) (.var 12)) .nil))) (.call 24 (.cons (.dget (.var 8) (.var 6)) (.cons (.dget (.var 8) (.var 12)) .nil)))) (.cons (.ret (.cst (.bl false))) .nil) .nil)
def lw10B_3B : Sms := (.cons lw10B_3B_0 .nil)
def lw10B_3 : Sm := (.each (.name 12) (.seq (.var 4)) lw10B_3B)
def lw10B : Sms := (.cons lw10B_0 (.cons lw10B_1 (.cons lw10B_2 (.cons lw10B_3 .nil))))
def lw10 : Sm := (.each (.name 6) (.seq (.var 4)) lw10B)
def lw11 : Sm := (.ret (.cst (.bl true)))
theorem b_law_split : b_law = (.cons lw0 (.cons lw1 (.cons lw2 (.cons lw3 (.cons lw4 (.cons lw5 (.cons lw6 (.cons lw7 (.cons lw8 (.cons lw9 (.cons lw10 (.cons lw11 .nil)))))))))))) := rfl
/-! ### the law -/
def lawF : Fns := tabOf [(33, fn__law_names), (34, fn__law_bars), (3, fn__law_drawn), (51, fn__law_through), (24, fn_is_better)] []
theorem law_in (x : D) : fn_law [x] [] = (exs lawF b_law [.val x, .emp, .emp, .emp, .emp, .emp, .emp, .emp, .emp, .emp, .emp, .emp, .emp] []).ends := by
  (unfold fn_law; simp only [fn1, fn2, fn3, fn4, fF1, fF2, Nat.reduceSub, List.replicate_succ, List.replicate_zero])
  rfl
theorem f33 : lawF.fn 33 = some fn__law_names := rfl
theorem f34 : lawF.fn 34 = some fn__law_bars := rfl
theorem f3 : lawF.fn 3 = some fn__law_drawn := rfl
theorem f51 : lawF.fn 51 = some fn__law_through := rfl
theorem f24 : lawF.fn 24 = some fn_is_better := rfl
theorem better_is {a b : Row} (ha : Good a) (hb : Good b) (S : Sto) : fn_is_better [strs_ a, strs_ b] S = .ok (.bl (decide (wLt (wI b) (wI a)))) S := by
  have nr := need_rows_ok (rs := [a, b]) (fun r hr => by
    simp at hr
    rcases hr with rfl | rfl
    · exact ha
    · exact hb) (by simp) S
  have e : rows_ [a, b] = .lst [strs_ a, strs_ b] := rfl
  rw [e] at nr
  have w1 := weight_ok ha S
  have w2 := weight_ok hb S
  have g := gt3 (wI a) (wI b)
  (unfold fn_is_better; simp only [fn1, fn2, fn3, fn4, fF1, fF2, Nat.reduceSub, List.replicate_succ, List.replicate_zero])
  simp [exs_cons, exs_nil, exsK_nx, exsK_ap, ex_ifs, ifK_t, ifK_f, ex_asg1, ex_asg, ex_ret, ex_expr, ex_pass, ex_new, r_var, varR_val, r_own, ownR_own, r_cst, r_glo, r_op, r_chain, r_neg, negR_some, r_nt, r_and, r_or, r_ite, r_lst, r_tup, r_idx, r_slc0, r_slc1, r_slc2, r_slc3, r_rev, r_f1, r_f2, r_meth, r_isi, r_call, callR_ok, r_callO, callO_ok, r_lmeth, lmR_count, lmR_index, r_nrng, nrR_int, r_lzip, ex_cpy, ex_par, ex_retF, tabY_fn, tabY_gl, r_nil, r_cons, tab_fn, tab_gl, tabX_fn, tabX_gl, look_hit, look_miss, r_fld, r_mth, mthR_ok, r_mk, mkR_ok, r_lenSet, r_isLT, eqNR_lst, r_eqN, r_dget, r_dcpy, stoR_some, ex_setf, ex_dput, tabZ_fn, tabZ_gl, tabZ_mt, tabZ_mk, tabZ_fd, bindT, op_add, op_sub, op_lt, op_le, op_gt, op_ge, op_eq, op_ne, op_in, op_nin, op_is, op_isn, small_ok, b_is_better, nr, w1, w2, g]
theorem rest_empty {x rest : Row} (hg : Good (x ++ rest)) (hx : ¬ runOf x < 9) : ∀ m ∈ rest, m = [] := by
  intro m hm
  have hr := (Good.pre hg).run
  have h3 : lawRun x = 3 := by rcases hr with ⟨_, q⟩ | ⟨a, b, c⟩ <;> omega
  cases rest with
  | nil => cases hm
  | cons z rest =>
    obtain ⟨r, _, h2, _, h4⟩ := walk_pre (l := 0) ⟨by omega, by omega⟩ hg.ok
    have : r = 3 := by rw [h2]; exact h3
    subst this
    have e := ok_three h4
    rw [e] at hm
    exact (List.mem_replicate.mp hm).2
theorem wI_rest : ∀ {rest x : Row}, (∀ m ∈ rest, m = []) → wI (x ++ rest) = wI x
  | [], x, _ => by rw [List.append_nil]
  | m :: rest, x, h => by
    have hm := h m (List.mem_cons_self ..)
    subst hm
    have e : x ++ [] :: rest = (x ++ [[]]) ++ rest := by simp
    rw [e, wI_rest fun z hz => h z (List.mem_cons_of_mem _ hz), w_same x rfl]
theorem flat_empty : ∀ {rest : Row}, (∀ m ∈ rest, m = []) → rest.flatten = []
  | [], _ => rfl
  | m :: rest, h => by
    rw [List.flatten_cons, h m (List.mem_cons_self ..), flat_empty fun z hz => h z (List.mem_cons_of_mem _ hz)]
    rfl
theorem sliceL_lo (r : Row) (i : Nat) : slc (strs_ r) (some (i : Int)) none = some (strs_ (r.drop i)) := by
  have h0 : ¬ (i : Int) < 0 := by omega
  show some (D.lst (cut (r.map D.str) (some (i : Int)) none)) = _
  simp only [cut, sx, h0, if_false, Int.toNat_natCast]
  unfold strs_
  rw [List.map_drop]
  congr 2
  rcases Nat.le_total i (r.map D.str).length with h | h
  · rw [Nat.min_eq_left h, List.take_of_length_le (by simp)]
  · rw [Nat.min_eq_right h, List.drop_of_length_le (Nat.le_refl _), List.drop_of_length_le h]
    simp
theorem dget_ok {S : Sto} {d i : Nat} {ns : List (List Nat)} {rows : List Row} {w : List Nat} {r : Row} (hd : ns.Nodup) (e : S[d]? = some (.dic (kvR ns rows))) (hw : ns[i]? = some w) (hr : rows[i]? = some r) : dgetAt (.obj d) (.str w) S = .ok (strs_ r) S := by
  have lk : (kvR ns rows).lookup w = some (strs_ r) := look_zip (f := strs_) hd hw hr
  simp [dgetAt, dicAt, e, lk]
/-- the names in another order -/
theorem turned (A : List (List Nat)) (q : Nat) : ((A.drop q ++ A.take q).reverse).Perm A := by
  refine (List.reverse_perm _).trans (List.perm_append_comm.trans ?_)
  rw [List.take_append_drop]
theorem Names.perm {a b : List (List Nat)} (h : Names a) (p : b.Perm a) : Names b := ⟨by rw [p.length_eq]; exact h.some_, fun w hw => h.nm w (p.mem_iff.mp hw), p.nodup_iff.mpr h.nd⟩
/-- one name of those that are left -/
theorem left_turn {sg : Nat → Nat → Nat} {A left : List (List Nat)} {B : Nat} {rows fewer : List Row} (hA : Names A) (hL : Names left) (hs : ∀ w ∈ left, w ∈ A) (F1 : Fin (sgsOf sg A A) B rows) (F3 : Fin (sgsOf sg A left) B fewer) (G1 : ∀ r ∈ rows, Good r) (G3 : ∀ r ∈ fewer, Good r)
    {S : Sto} {d1 d3 : Nat} (e1 : S[d1]? = some (.dic (kvR A rows))) (e3 : S[d3]? = some (.dic (kvR left fewer))) (v0 v1 v2 v3 v7 v9 v10 : Slot) {w : List Nat} (hw : w ∈ left) (a6 a11 a12 : Slot) :
    ∃ b11 b12, eachF lawF (.name 6) lw10B (.str w) [v0, v1, v2, v3, .val (strs_ left), .val (.obj d3), a6, v7, .val (.obj d1), v9, v10, a11, a12] S = .ok (.nx [v0, v1, v2, v3, .val (strs_ left), .val (.obj d3), .val (.str w), v7, .val (.obj d1), v9, v10, b11, b12]) S := by
  have n0 : fewer ≠ [] := fun z => by have := F3.1; rw [z] at this; simp [sgsOf] at this; have h1 := hL.some_; omega
  have n1 : rows ≠ [] := fun z => by have := F1.1; rw [z] at this; simp [sgsOf] at this; have h1 := hA.some_; omega
  have one : ∀ u ∈ left, ∃ x y rest, dgetAt (.obj d3) (.str u) S = .ok (strs_ x) S ∧ dgetAt (.obj d1) (.str u) S = .ok (strs_ y) S ∧ Good x ∧ Good y ∧ y = x ++ rest ∧ ∀ m ∈ rest, m = [] := fun u hu => by
    obtain ⟨i, hi, ei⟩ := List.getElem_of_mem hu
    obtain ⟨j, hj, ej⟩ := List.getElem_of_mem (hs u hu)
    have hi' : left[i]? = some u := by rw [List.getElem?_eq_getElem hi, ei]
    have hj' : A[j]? = some u := by rw [List.getElem?_eq_getElem hj, ej]
    have l3 : fewer.length = left.length := by have := F3.1; simpa [sgsOf] using this
    have l1 : rows.length = A.length := by have := F1.1; simpa [sgsOf] using this
    have hx : fewer[i]? = some fewer[i] := List.getElem?_eq_getElem (by omega)
    have hy : rows[j]? = some rows[j] := List.getElem?_eq_getElem (by omega)
    obtain ⟨b1', b2', b3'⟩ := Fin.begin F3 F1 hs n0 n1 hi' hj' hx hy
    have gx := G3 _ (List.mem_of_getElem? hx)
    have gy := G1 _ (List.mem_of_getElem? hy)
    have ey : rows[j] = fewer[i] ++ rows[j].drop fewer[i].length := by
      conv => lhs; rw [← List.take_append_drop fewer[i].length rows[j], ← b1']
    refine ⟨fewer[i], rows[j], rows[j].drop fewer[i].length, dget_ok hL.nd e3 hi' hx, dget_ok hA.nd e1 hj' hy, gx, gy, ey, ?_⟩
    rcases Nat.lt_or_ge fewer[i].length rows[j].length with q | q
    · exact rest_empty (by rw [← ey]; exact gy) (b3' q)
    · rw [List.drop_of_length_le q]
      intro m hm
      cases hm
  obtain ⟨x, y, rest, dx, dy, gx, gy, ey, hr⟩ := one w hw
  have lx : b1 .len (strs_ x) = some (.int (x.length : Nat)) := by simp [strs_, b1]
  have ly : b1 .len (strs_ y) = some (.int (y.length : Nat)) := by simp [strs_, b1]
  have hle : x.length ≤ y.length := by rw [ey]; simp
  have mn : b2 .min (.int (x.length : Nat)) (.int (y.length : Nat)) = some (.int (x.length : Nat)) := by
    show some (D.int (if (y.length : Int) < x.length then (y.length : Int) else x.length)) = _
    rw [if_neg (by omega)]
  have z1 := sliceS x x.length
  have z2 := sliceS y x.length
  have t1 : x.take x.length = x := List.take_length
  have t2 : y.take x.length = x := by rw [ey]; simp
  rw [t1] at z1
  rw [t2] at z2
  have z3 := sliceL_lo x x.length
  have z4 := sliceL_lo y x.length
  have t3 : x.drop x.length = [] := List.drop_length
  have t4 : y.drop x.length = rest := by rw [ey]; simp
  rw [t3] at z3
  rw [t4] at z4
  have q1 : eqO (strs_ x) (strs_ x) = some true := eq_same (strs_pl _)
  have rl : rest.length ≤ 12 := by have := gy.len; rw [ey] at this; simp at this; omega
  have ad : op2 .add (strs_ []) (strs_ rest) = some (strs_ rest) := by
    unfold strs_
    rw [add_L _ _ (by simp; omega)]
    simp
  have jn := join_strs rest (fun m hm => by rw [hr m hm]; simp) (by omega)
  rw [flat_empty hr] at jn
  have q2 : eqO (.str []) (.str []) = some true := rfl
  have inn : ∀ (l : List (List Nat)), (∀ u ∈ l, u ∈ left) → ∀ b12 : Slot, ∃ c12, loop (eachF lawF (.name 12) lw10B_3B) (l.map D.str) [v0, v1, v2, v3, .val (strs_ left), .val (.obj d3), .val (.str w), v7, .val (.obj d1), v9, v10, .val (.int (x.length : Nat)), b12] S = .ok (.nx [v0, v1, v2, v3, .val (strs_ left), .val (.obj d3), .val (.str w), v7, .val (.obj d1), v9, v10, .val (.int (x.length : Nat)), c12]) S := by
    intro l
    induction l with
    | nil => exact fun _ b12 => ⟨b12, rfl⟩
    | cons u l ih =>
      intro hl b12
      obtain ⟨x', y', rest', dx', dy', gx', gy', ey', hr'⟩ := one u (hl u (List.mem_cons_self ..))
      have w1 : wI y = wI x := by rw [ey]; exact wI_rest hr
      have w2 : wI y' = wI x' := by rw [ey']; exact wI_rest hr'
      have k1 := better_is gx gx' S
      have k2 := better_is gy gy' S
      rw [w1, w2] at k2
      have q3 : ∀ b : Bool, eqO (.bl b) (.bl b) = some true := fun b => eq_same rfl
      have st : eachF lawF (.name 12) lw10B_3B (.str u) [v0, v1, v2, v3, .val (strs_ left), .val (.obj d3), .val (.str w), v7, .val (.obj d1), v9, v10, .val (.int (x.length : Nat)), b12] S = .ok (.nx [v0, v1, v2, v3, .val (strs_ left), .val (.obj d3), .val (.str w), v7, .val (.obj d1), v9, v10, .val (.int (x.length : Nat)), .val (.str u)]) S := by
        unfold eachF lw10B_3B lw10B_3B_0
        generalize decide (wLt (wI x') (wI x)) = bb at *
        simp [exs_cons, exs_nil, exsK_nx, exsK_ap, ex_ifs, ifK_t, ifK_f, ex_asg1, ex_asg, ex_ret, ex_expr, ex_pass, ex_new, r_var, varR_val, r_own, ownR_own, r_cst, r_glo, r_op, r_chain, r_neg, negR_some, r_nt, r_and, r_or, r_ite, r_lst, r_tup, r_idx, r_slc0, r_slc1, r_slc2, r_slc3, r_rev, r_f1, r_f2, r_meth, r_isi, r_call, callR_ok, r_callO, callO_ok, r_lmeth, lmR_count, lmR_index, r_nrng, nrR_int, r_lzip, ex_cpy, ex_par, ex_retF, tabY_fn, tabY_gl, r_nil, r_cons, tab_fn, tab_gl, tabX_fn, tabX_gl, look_hit, look_miss, r_fld, r_mth, mthR_ok, r_mk, mkR_ok, r_lenSet, r_isLT, eqNR_lst, r_eqN, r_dget, r_dcpy, stoR_some, ex_setf, ex_dput, tabZ_fn, tabZ_gl, tabZ_mt, tabZ_mk, tabZ_fd, bindT, op_add, op_sub, op_lt, op_le, op_gt, op_ge, op_eq, op_ne, op_in, op_nin, op_is, op_isn, small_ok, dx, dy, dx', dy', f24, k1, k2, q3]
      obtain ⟨c12, e⟩ := ih (fun z hz => hl z (List.mem_cons_of_mem _ hz)) (.val (.str u))
      exact ⟨c12, by rw [List.map_cons, loop, st, R.turn_nx, e]⟩
  obtain ⟨c12, il⟩ := inn left (fun _ h => h) a12
  have e3' : ex lawF lw10B_3 [v0, v1, v2, v3, .val (strs_ left), .val (.obj d3), .val (.str w), v7, .val (.obj d1), v9, v10, .val (.int (x.length : Nat)), a12] S = .ok (.nx [v0, v1, v2, v3, .val (strs_ left), .val (.obj d3), .val (.str w), v7, .val (.obj d1), v9, v10, .val (.int (x.length : Nat)), c12]) S := by
    unfold lw10B_3
    have hi : evIt lawF (.seq (.var 4)) [v0, v1, v2, v3, .val (strs_ left), .val (.obj d3), .val (.str w), v7, .val (.obj d1), v9, v10, .val (.int (x.length : Nat)), a12] S = .ok (left.map D.str) S := by rw [evIt, r_var]; rfl
    rw [ex_each, hi, R.then_ok]
    exact il
  refine ⟨.val (.int (x.length : Nat)), c12, ?_⟩
  unfold eachF lw10B lw10B_0 lw10B_1 lw10B_2
  simp [exs_cons, exs_nil, exsK_nx, exsK_ap, ex_ifs, ifK_t, ifK_f, ex_asg1, ex_asg, ex_ret, ex_expr, ex_pass, ex_new, r_var, varR_val, r_own, ownR_own, r_cst, r_glo, r_op, r_chain, r_neg, negR_some, r_nt, r_and, r_or, r_ite, r_lst, r_tup, r_idx, r_slc0, r_slc1, r_slc2, r_slc3, r_rev, r_f1, r_f2, r_meth, r_isi, r_call, callR_ok, r_callO, callO_ok, r_lmeth, lmR_count, lmR_index, r_nrng, nrR_int, r_lzip, ex_cpy, ex_par, ex_retF, tabY_fn, tabY_gl, r_nil, r_cons, tab_fn, tab_gl, tabX_fn, tabX_gl, look_hit, look_miss, r_fld, r_mth, mthR_ok, r_mk, mkR_ok, r_lenSet, r_isLT, eqNR_lst, r_eqN, r_dget, r_dcpy, stoR_some, ex_setf, ex_dput, tabZ_fn, tabZ_gl, tabZ_mt, tabZ_mk, tabZ_fd, bindT, op_add, op_sub, op_lt, op_le, op_gt, op_ge, op_eq, op_ne, op_in, op_nin, op_is, op_isn, small_ok, dx, dy, lx, ly, mn, z1, z2, q1, z3, z4, ad, jn, q2, e3']
theorem word_not (rs : List Row) : endW rs ≠ wMain := by
  unfold endW
  split <;> decide
theorem law_true (sc : List Int) (hn : sc.length ≤ 63) : ∃ S, fn_law [.scr sc] [] = .ok (.bl true) S := by
  obtain ⟨A, na, hA⟩ := names_ok sc hn 0 (by omega) []
  obtain ⟨bs, nb, hB⟩ := bars_ok sc hn 10 (by omega) 4 (by omega) []
  have has := hA.some_
  obtain ⟨q, dq, q1, q2⟩ := draw_all sc 30 (A.length : Nat) hn (by omega) (by omega)
  rw [← drawn_eq] at dq
  obtain ⟨q, rfl⟩ := Int.eq_ofNat_of_zero_le q1
  have hql : q < A.length := by omega
  obtain ⟨sg, hsg⟩ := sg_ex sc hn
  have p2 := turned A q
  have hA2 := hA.perm p2
  obtain ⟨S1, rows, d1, t1, e1, o1, F1, G1⟩ := through_ok hsg hA hA (fun _ h => h) hB []
  obtain ⟨S2, same, d2, t2, e2, o2, F2, G2⟩ := through_ok hsg hA hA2 (fun w hw => p2.mem_iff.mp hw) hB S1
  have e1' := o2 _ _ e1
  have l1 : rows.length = A.length := by have := F1.1; simpa [sgsOf] using this
  have l2 : same.length = A.length := by have := F2.1; rw [← p2.length_eq]; simpa [sgsOf] using this
  have n1 : rows ≠ [] := fun z => by rw [z] at l1; simp at l1; omega
  have n2 : same ≠ [] := fun z => by rw [z] at l2; simp at l2; omega
  have eqr : ∀ w ∈ A, ∃ x, dgetAt (.obj d1) (.str w) S2 = .ok (strs_ x) S2 ∧ dgetAt (.obj d2) (.str w) S2 = .ok (strs_ x) S2 := fun w hw => by
    obtain ⟨i, hi, ei⟩ := List.getElem_of_mem hw
    obtain ⟨j, hj, ej⟩ := List.getElem_of_mem (p2.mem_iff.mpr hw)
    have hi' : A[i]? = some w := by rw [List.getElem?_eq_getElem hi, ei]
    have hj' : ((A.drop q ++ A.take q).reverse)[j]? = some w := by rw [List.getElem?_eq_getElem hj, ej]
    have hjl : j < same.length := by rw [l2, ← p2.length_eq]; exact hj
    have hx : rows[i]? = some rows[i] := List.getElem?_eq_getElem (by omega)
    have hy : same[j]? = some same[j] := List.getElem?_eq_getElem hjl
    have e := Fin.same F1 F2 (fun u hu => p2.mem_iff.mpr hu) (fun u hu => p2.mem_iff.mp hu) n1 n2 hi' hj' hx hy
    have g2 := dget_ok hA2.nd e2 hj' hy
    rw [← e] at g2
    exact ⟨_, dget_ok hA.nd e1' hi' hx, g2⟩
  have ix : ∀ w ∈ A, A[A.idxOf w]? = some w ∧ rows[A.idxOf w]? = some (rows.getD (A.idxOf w) []) := fun w hw => by
    have h := List.idxOf_lt_length_iff.mpr hw
    refine ⟨by rw [List.getElem?_eq_getElem h]; simp, ?_⟩
    rw [List.getD_eq_getElem?_getD, List.getElem?_eq_getElem (show A.idxOf w < rows.length by omega)]
    rfl
  have a1 : rows = A.map fun w => rows.getD (A.idxOf w) [] := by
    apply List.ext_getElem?
    intro i
    rw [List.getElem?_map]
    by_cases hi : i < A.length
    · obtain ⟨k1, k2⟩ := ix A[i] (List.getElem_mem hi)
      have hx : rows[i]? = some rows[i] := List.getElem?_eq_getElem (by omega)
      rw [List.getElem?_eq_getElem hi, hx]
      exact congrArg some (Fin.same F1 F1 (fun _ h => h) (fun _ h => h) n1 n1 (List.getElem?_eq_getElem hi) k1 hx k2)
    · rw [List.getElem?_eq_none (by omega), List.getElem?_eq_none (by omega)]
      rfl
  have a2 : same = ((A.drop q ++ A.take q).reverse).map fun w => rows.getD (A.idxOf w) [] := by
    apply List.ext_getElem?
    intro j
    rw [List.getElem?_map]
    by_cases hj : j < ((A.drop q ++ A.take q).reverse).length
    · have hjl : j < same.length := by rw [l2, ← p2.length_eq]; exact hj
      have hy : same[j]? = some same[j] := List.getElem?_eq_getElem hjl
      obtain ⟨k1, k2⟩ := ix _ (p2.mem_iff.mp (List.getElem_mem hj))
      rw [List.getElem?_eq_getElem hj, hy]
      exact congrArg some (Fin.same F1 F2 (fun u hu => p2.mem_iff.mpr hu) (fun u hu => p2.mem_iff.mp hu) n1 n2 k1 (List.getElem?_eq_getElem hj) k2 hy).symm
    · rw [List.getElem?_eq_none (by rw [l2, ← p2.length_eq]; omega), List.getElem?_eq_none (by omega)]
      rfl
  have pr : rows.Perm same := by
    have := p2.symm.map fun w => rows.getD (A.idxOf w) []
    rw [← a1, ← a2] at this
    exact this
  have ew := endW_perm pr n1
  have wn := word_not rows
  have bl : b1 .len (strs_ A) = some (.int (A.length : Nat)) := by simp [strs_, b1]
  have z1 := sliceL_lo A q
  have z2 := sliceS A q
  have ad : op2 .add (strs_ (A.drop q)) (strs_ (A.take q)) = some (strs_ (A.drop q ++ A.take q)) := by
    unfold strs_
    rw [add_L _ _ (by simp; omega)]
    simp
  have rv : revD (strs_ (A.drop q ++ A.take q)) = some (strs_ (A.drop q ++ A.take q).reverse) := by
    show some (D.lst _) = some (D.lst _)
    rw [← List.map_reverse]
  have k1 : eqO (.str (endW rows)) (.str [109, 97, 105, 110]) = some false := by rw [s_eqd]; exact congrArg some (decide_eq_false wn)
  have k2 : eqO (.str (endW rows)) (.str (endW rows)) = some true := eq_same rfl
  have k3 : eqO (.lst []) (.lst []) = some true := rfl
  have c1 : ∀ a3 a7 a9 : D, ev lawF (.compIf (.var 6) (.name 6) (.seq (.var 1)) (.op .ne (.dget (.var 8) (.var 6)) (.dget (.var 10) (.var 6))) [6]) [.val (.scr sc), .val (strs_ A), .val (tupI bs), .val a3, .emp, .emp, .emp, .val a7, .val (.obj d1), .val a9, .val (.obj d2), .emp, .emp] S2 = .ok (.lst []) S2 := fun a3 a7 a9 => by
    have := compIf_map (F := lawF) (e := .var 6) (tg := .name 6) (it := .seq (.var 1)) (c := .op .ne (.dget (.var 8) (.var 6)) (.dget (.var 10) (.var 6))) (vs := [6]) (ρ := [.val (.scr sc), .val (strs_ A), .val (tupI bs), .val a3, .emp, .emp, .emp, .val a7, .val (.obj d1), .val a9, .val (.obj d2), .emp, .emp]) (S := S2) (l := A) D.str D.str (fun _ => false) (by rw [evIt, r_var]; rfl) (by omega) fun w hw => ?_
    · rw [List.filter_eq_nil_iff.mpr (by simp)] at this
      exact this
    · obtain ⟨x, g1, g2⟩ := eqr w hw
      have q1 : eqO (strs_ x) (strs_ x) = some true := eq_same (strs_pl _)
      simp [exs_cons, exs_nil, exsK_nx, exsK_ap, ex_ifs, ifK_t, ifK_f, ex_asg1, ex_asg, ex_ret, ex_expr, ex_pass, ex_new, r_var, varR_val, r_own, ownR_own, r_cst, r_glo, r_op, r_chain, r_neg, negR_some, r_nt, r_and, r_or, r_ite, r_lst, r_tup, r_idx, r_slc0, r_slc1, r_slc2, r_slc3, r_rev, r_f1, r_f2, r_meth, r_isi, r_call, callR_ok, r_callO, callO_ok, r_lmeth, lmR_count, lmR_index, r_nrng, nrR_int, r_lzip, ex_cpy, ex_par, ex_retF, tabY_fn, tabY_gl, r_nil, r_cons, tab_fn, tab_gl, tabX_fn, tabX_gl, look_hit, look_miss, r_fld, r_mth, mthR_ok, r_mk, mkR_ok, r_lenSet, r_isLT, eqNR_lst, r_eqN, r_dget, r_dcpy, stoR_some, ex_setf, ex_dput, tabZ_fn, tabZ_gl, tabZ_mt, tabZ_mk, tabZ_fd, bindT, op_add, op_sub, op_lt, op_le, op_gt, op_ge, op_eq, op_ne, op_in, op_nin, op_is, op_isn, small_ok, compIfF, noOwn, wipe, g1, g2, q1]
  have iq : idx (strs_ A) (.int (q : Nat)) = some (.str A[q]) := lst_nth (by rw [List.getElem?_map, List.getElem?_eq_getElem hql]; rfl)
  have c2 : ∀ a7 a9 : D, ev lawF (.compIf (.var 6) (.name 6) (.seq (.var 1)) (.op .ne (.var 6) (.idx (.var 1) (.var 3))) [6]) [.val (.scr sc), .val (strs_ A), .val (tupI bs), .val (.int (q : Nat)), .emp, .emp, .emp, .val a7, .val (.obj d1), .val a9, .val (.obj d2), .emp, .emp] S2 = .ok (strs_ (A.filter fun w => decide (w ≠ A[q]))) S2 := fun a7 a9 => by
    refine compIf_map (l := A) D.str D.str (fun w => decide (w ≠ A[q])) (by rw [evIt, r_var]; rfl) (by omega) fun w hw => ?_
    have e := s_eqd w A[q]
    by_cases h : w = A[q]
    · rw [decide_eq_true h] at e
      have hd : decide (w ≠ A[q]) = false := by simp [h]
      simp only [hd]
      clear h hd
      simp [exs_cons, exs_nil, exsK_nx, exsK_ap, ex_ifs, ifK_t, ifK_f, ex_asg1, ex_asg, ex_ret, ex_expr, ex_pass, ex_new, r_var, varR_val, r_own, ownR_own, r_cst, r_glo, r_op, r_chain, r_neg, negR_some, r_nt, r_and, r_or, r_ite, r_lst, r_tup, r_idx, r_slc0, r_slc1, r_slc2, r_slc3, r_rev, r_f1, r_f2, r_meth, r_isi, r_call, callR_ok, r_callO, callO_ok, r_lmeth, lmR_count, lmR_index, r_nrng, nrR_int, r_lzip, ex_cpy, ex_par, ex_retF, tabY_fn, tabY_gl, r_nil, r_cons, tab_fn, tab_gl, tabX_fn, tabX_gl, look_hit, look_miss, r_fld, r_mth, mthR_ok, r_mk, mkR_ok, r_lenSet, r_isLT, eqNR_lst, r_eqN, r_dget, r_dcpy, stoR_some, ex_setf, ex_dput, tabZ_fn, tabZ_gl, tabZ_mt, tabZ_mk, tabZ_fd, bindT, op_add, op_sub, op_lt, op_le, op_gt, op_ge, op_eq, op_ne, op_in, op_nin, op_is, op_isn, small_ok, compIfF, noOwn, wipe, iq, e]
    · rw [decide_eq_false h] at e
      have hd : decide (w ≠ A[q]) = true := by simp [h]
      simp only [hd]
      clear h hd
      simp [exs_cons, exs_nil, exsK_nx, exsK_ap, ex_ifs, ifK_t, ifK_f, ex_asg1, ex_asg, ex_ret, ex_expr, ex_pass, ex_new, r_var, varR_val, r_own, ownR_own, r_cst, r_glo, r_op, r_chain, r_neg, negR_some, r_nt, r_and, r_or, r_ite, r_lst, r_tup, r_idx, r_slc0, r_slc1, r_slc2, r_slc3, r_rev, r_f1, r_f2, r_meth, r_isi, r_call, callR_ok, r_callO, callO_ok, r_lmeth, lmR_count, lmR_index, r_nrng, nrR_int, r_lzip, ex_cpy, ex_par, ex_retF, tabY_fn, tabY_gl, r_nil, r_cons, tab_fn, tab_gl, tabX_fn, tabX_gl, look_hit, look_miss, r_fld, r_mth, mthR_ok, r_mk, mkR_ok, r_lenSet, r_isLT, eqNR_lst, r_eqN, r_dget, r_dcpy, stoR_some, ex_setf, ex_dput, tabZ_fn, tabZ_gl, tabZ_mt, tabZ_mk, tabZ_fd, bindT, op_add, op_sub, op_lt, op_le, op_gt, op_ge, op_eq, op_ne, op_in, op_nin, op_is, op_isn, small_ok, compIfF, noOwn, wipe, iq, e]
  have nb : fn__law_bars [.scr sc, .int 10, .int 4] [] = .ok (tupI bs) [] := nb
  have hsub : ∀ w ∈ A.filter (fun w => decide (w ≠ A[q])), w ∈ A := fun w hw => (List.mem_filter.mp hw).1
  generalize hleft : A.filter (fun w => decide (w ≠ A[q])) = left at c2 hsub
  have sn : eqO (strs_ left) (.lst []) = some left.isEmpty := by
    rw [eq_plain (strs_pl left) rfl]
    cases left <;> simp [strs_, deq, deq.deqs]
  rw [← ew] at t2
  rw [law_in, b_law_split]
  generalize endW rows = W at *
  have st : exs lawF (.cons lw0 (.cons lw1 (.cons lw2 (.cons lw3 (.cons lw4 (.cons lw5 (.cons lw6 (.cons lw7 (.cons lw8 (.cons lw9 (.cons lw10 (.cons lw11 .nil)))))))))))) [.val (.scr sc), .emp, .emp, .emp, .emp, .emp, .emp, .emp, .emp, .emp, .emp, .emp, .emp] [] = exs lawF (.cons lw8 (.cons lw9 (.cons lw10 (.cons lw11 .nil)))) [.val (.scr sc), .val (strs_ A), .val (tupI bs), .val (.int (q : Nat)), .val (strs_ left), .emp, .emp, .val (.str W), .val (.obj d1), .val (.str W), .val (.obj d2), .emp, .emp] S2 := by
    have rv' : ∀ S : Sto, lift (revD (strs_ (A.drop q ++ A.take q))) S = .ok (strs_ (A.drop q ++ A.take q).reverse) S := fun S => by rw [rv]; rfl
    generalize strs_ (A.drop q ++ A.take q).reverse = RV2 at *
    generalize strs_ (A.drop q ++ A.take q) = RV1 at *
    unfold lw0 lw1 lw2 lw3 lw4 lw5 lw6 lw7
    simp [exs_cons, exs_nil, exsK_nx, exsK_ap, ex_ifs, ifK_t, ifK_f, ex_asg1, ex_asg, ex_ret, ex_expr, ex_pass, ex_new, r_var, varR_val, r_own, ownR_own, r_cst, r_glo, r_op, r_chain, r_neg, negR_some, r_nt, r_and, r_or, r_ite, r_lst, r_tup, r_idx, r_slc0, r_slc1, r_slc2, r_slc3, r_rev, r_f1, r_f2, r_meth, r_isi, r_call, callR_ok, r_callO, callO_ok, r_lmeth, lmR_count, lmR_index, r_nrng, nrR_int, r_lzip, ex_cpy, ex_par, ex_retF, tabY_fn, tabY_gl, r_nil, r_cons, tab_fn, tab_gl, tabX_fn, tabX_gl, look_hit, look_miss, r_fld, r_mth, mthR_ok, r_mk, mkR_ok, r_lenSet, r_isLT, eqNR_lst, r_eqN, r_dget, r_dcpy, stoR_some, ex_setf, ex_dput, tabZ_fn, tabZ_gl, tabZ_mt, tabZ_mk, tabZ_fd, bindT, op_add, op_sub, op_lt, op_le, op_gt, op_ge, op_eq, op_ne, op_in, op_nin, op_is, op_isn, small_ok, f33, na, f34, nb, f3, bl, dq, f51, t1, z1, z2, ad, rv', t2, k1, k2, k3, c1, c2]
  rw [st]
  by_cases hl0 : left = []
  · refine ⟨S2, ?_⟩
    have sn : eqO (strs_ left) (.lst []) = some true := by rw [sn, hl0]; rfl
    unfold lw8
    simp [exs_cons, exs_nil, exsK_nx, exsK_ap, ex_ifs, ifK_t, ifK_f, ex_asg1, ex_asg, ex_ret, ex_expr, ex_pass, ex_new, r_var, varR_val, r_own, ownR_own, r_cst, r_glo, r_op, r_chain, r_neg, negR_some, r_nt, r_and, r_or, r_ite, r_lst, r_tup, r_idx, r_slc0, r_slc1, r_slc2, r_slc3, r_rev, r_f1, r_f2, r_meth, r_isi, r_call, callR_ok, r_callO, callO_ok, r_lmeth, lmR_count, lmR_index, r_nrng, nrR_int, r_lzip, ex_cpy, ex_par, ex_retF, tabY_fn, tabY_gl, r_nil, r_cons, tab_fn, tab_gl, tabX_fn, tabX_gl, look_hit, look_miss, r_fld, r_mth, mthR_ok, r_mk, mkR_ok, r_lenSet, r_isLT, eqNR_lst, r_eqN, r_dget, r_dcpy, stoR_some, ex_setf, ex_dput, tabZ_fn, tabZ_gl, tabZ_mt, tabZ_mk, tabZ_fd, bindT, op_add, op_sub, op_lt, op_le, op_gt, op_ge, op_eq, op_ne, op_in, op_nin, op_is, op_isn, small_ok, sn]
  · have sn : eqO (strs_ left) (.lst []) = some false := by
      rw [sn]
      cases left with
      | nil => exact absurd rfl hl0
      | cons _ _ => rfl
    have hlen : left.length ≤ A.length := by rw [← hleft]; exact List.length_filter_le ..
    have hN3 : Names left := ⟨⟨List.length_pos_iff.mpr hl0, by omega⟩, fun w hw => hA.nm w (hsub w hw), by rw [← hleft]; exact hA.nd.filter _⟩
    obtain ⟨S3, fewer, d3, t3, e3, o3, F3, G3⟩ := through_ok hsg hA hN3 hsub hB S2
    have e13 := o3 _ _ e1'
    have lp : ∀ (l : List (List Nat)), (∀ u ∈ l, u ∈ left) → ∀ a6 a11 a12 : Slot, ∃ b6 b11 b12, loop (eachF lawF (.name 6) lw10B) (l.map D.str) [.val (.scr sc), .val (strs_ A), .val (tupI bs), .val (.int (q : Nat)), .val (strs_ left), .val (.obj d3), a6, .val (.str W), .val (.obj d1), .val (.str W), .val (.obj d2), a11, a12] S3 = .ok (.nx [.val (.scr sc), .val (strs_ A), .val (tupI bs), .val (.int (q : Nat)), .val (strs_ left), .val (.obj d3), b6, .val (.str W), .val (.obj d1), .val (.str W), .val (.obj d2), b11, b12]) S3 := by
      intro l
      induction l with
      | nil => exact fun _ a6 a11 a12 => ⟨a6, a11, a12, rfl⟩
      | cons u l ih =>
        intro hl a6 a11 a12
        obtain ⟨b11, b12, e⟩ := left_turn hA hN3 hsub F1 F3 G1 G3 e13 e3 (.val (.scr sc)) (.val (strs_ A)) (.val (tupI bs)) (.val (.int (q : Nat))) (.val (.str W)) (.val (.str W)) (.val (.obj d2)) (hl u (List.mem_cons_self ..)) a6 a11 a12
        obtain ⟨c6, c11, c12, e2⟩ := ih (fun z hz => hl z (List.mem_cons_of_mem _ hz)) (.val (.str u)) b11 b12
        exact ⟨c6, c11, c12, by rw [List.map_cons, loop, e, R.turn_nx, e2]⟩
    obtain ⟨b6, b11, b12, lo⟩ := lp left (fun _ h => h) .emp .emp .emp
    refine ⟨S3, ?_⟩
    have e10 : ex lawF lw10 [.val (.scr sc), .val (strs_ A), .val (tupI bs), .val (.int (q : Nat)), .val (strs_ left), .val (.obj d3), .emp, .val (.str W), .val (.obj d1), .val (.str W), .val (.obj d2), .emp, .emp] S3 = .ok (.nx [.val (.scr sc), .val (strs_ A), .val (tupI bs), .val (.int (q : Nat)), .val (strs_ left), .val (.obj d3), b6, .val (.str W), .val (.obj d1), .val (.str W), .val (.obj d2), b11, b12]) S3 := by
      unfold lw10
      have hi : evIt lawF (.seq (.var 4)) [.val (.scr sc), .val (strs_ A), .val (tupI bs), .val (.int (q : Nat)), .val (strs_ left), .val (.obj d3), .emp, .val (.str W), .val (.obj d1), .val (.str W), .val (.obj d2), .emp, .emp] S3 = .ok (left.map D.str) S3 := by rw [evIt, r_var]; rfl
      rw [ex_each, hi, R.then_ok]
      exact lo
    have i1 : ∀ x y : D, idx (.tup [x, y]) (.int 1) = some y := fun x y => rfl
    unfold lw8 lw9 lw11
    simp [exs_cons, exs_nil, exsK_nx, exsK_ap, ex_ifs, ifK_t, ifK_f, ex_asg1, ex_asg, ex_ret, ex_expr, ex_pass, ex_new, r_var, varR_val, r_own, ownR_own, r_cst, r_glo, r_op, r_chain, r_neg, negR_some, r_nt, r_and, r_or, r_ite, r_lst, r_tup, r_idx, r_slc0, r_slc1, r_slc2, r_slc3, r_rev, r_f1, r_f2, r_meth, r_isi, r_call, callR_ok, r_callO, callO_ok, r_lmeth, lmR_count, lmR_index, r_nrng, nrR_int, r_lzip, ex_cpy, ex_par, ex_retF, tabY_fn, tabY_gl, r_nil, r_cons, tab_fn, tab_gl, tabX_fn, tabX_gl, look_hit, look_miss, r_fld, r_mth, mthR_ok, r_mk, mkR_ok, r_lenSet, r_isLT, eqNR_lst, r_eqN, r_dget, r_dcpy, stoR_some, ex_setf, ex_dput, tabZ_fn, tabZ_gl, tabZ_mt, tabZ_mk, tabZ_fd, bindT, op_add, op_sub, op_lt, op_le, op_gt, op_ge, op_eq, op_ne, op_in, op_nin, op_is, op_isn, small_ok, sn, f51, t3, i1, e10]
def top (i : Nat) : Stmt := PySem.Challenge.pw_hightries_k24_whole_each_alone.main.body.getD i (.Pass ⟨0, 0, 0, 0⟩)
def fnD (i : Nat) (x : Str) : He.DefD := ⟨(x, none), x, x, L2.defArgs (top i), L2.defBody (top i), L2.defScope (top i), [], []⟩
def clsBody : Stmt → List Stmt
  | .ClassDef _ _ _ b _ _ _ _ _ _ _ => b
  | _ => []
def mth (i j : Nat) : Stmt := (clsBody (top i)).getD j (.Pass ⟨0, 0, 0, 0⟩)
def mtD (i j : Nat) (C x q : Str) (dfl : List He.Dv) : He.DefD := ⟨(C, some x), x, q, L2.defArgs (mth i j), L2.defBody (mth i j), L2.defScope (mth i j), dfl, []⟩
def fnN : Nat → Str
  | 3 => "_law_drawn"
  | 33 => "_law_names"
  | 34 => "_law_bars"
  | 4 => "misses_in"
  | 5 => "run_behind"
  | 6 => "run_of"
  | 1 => "is_open"
  | 2 => "is_mark"
  | 7 => "is_row"
  | 23 => "need_rows"
  | 12 => "need_row"
  | 15 => "best"
  | 16 => "score"
  | 22 => "weight"
  | 25 => "places"
  | 43 => "_law_done"
  | 29 => "is_name"
  | 30 => "need_names"
  | 11 => "is_number"
  | 31 => "is_bars"
  | 32 => "need_bars"
  | 51 => "_law_through"
  | 24 => "is_better"
  | 92 => "law"
  | _ => ""
def glN : Nat → Str
  | 2 => "MOST_BARS"
  | 1 => "ENDS"
  | 3 => "LETTERS"
  | _ => ""
def mnN : Nat → Str
  | 315 => "need_word"
  | 301 => "__init__"
  | 302 => "twin"
  | 307 => "todo"
  | 308 => "staying"
  | 309 => "following"
  | 314 => "turn_to"
  | 310 => "end_main"
  | 311 => "go_on"
  | 312 => "end_round"
  | 313 => "put"
  | 317 => "skip"
  | 318 => "go_home"
  | 319 => "share"
  | 316 => "jump"
  | 320 => "word"
  | 321 => "who"
  | 323 => "need_name"
  | 324 => "row"
  | 303 => "__init__"
  | _ => ""
def knN : Nat → Str
  | 523 => "Meet"
  | 511 => "Stand"
  | _ => ""
def csX : List (Nat × Str) := [(1, "BarError"), (2, "NoRow"), (3, "NoRows"), (5, "NoNames"), (6, "NoBars"), (7, "NoStep"), (8, "NoTry"), (10, "NoName"), (9, "NotNow")]
def cs : List (Nat × Str) := [(1, "BarError"), (2, "NoRow"), (3, "NoRows"), (5, "NoNames"), (6, "NoBars"), (7, "NoStep"), (8, "NoTry"), (10, "NoName"), (9, "NotNow"), (11, "Stand"), (12, "Meet")]
def ats0 : List Str := ["rows", "state", "first", "jumps", "left", "height", "rounds", "deeds", "names", "heights", "step", "here", "done", "undone", "__eq__", "__len__", "__str__", "back", "bar", "counts"]
def ats1 : List Str := ["end_main", "end_round", "following", "forth", "go_home", "go_on", "jump", "log", "need_name", "need_word", "off_rows", "place_off", "put", "ranks", "row", "share", "sheet", "skip", "staying", "todo"]
def ats2 : List Str := ["tries", "turn_to", "twin", "who", "word"]
def ats : List Str := ats0 ++ ats1 ++ ats2
def nm : Nm := ⟨fnN, glN, clOf cs, mnN, knN, fldOfL ats⟩
theorem atsOk : fldsOk ats = true := by decide +kernel
def gx (K : PySem.W.Frag) : Gx := ⟨K, fun i => He.ga K (clOf cs i), fldOfL ats, 0⟩
theorem ck__law_drawn : defB ["script", "k", "many", "cell", "turn", "rest"] ["script", "k", "many"] nm (L2.defScope (top 38)) (L2.defBody (top 38)) b__law_drawn = true := by decide +kernel
theorem ck__law_names : defB ["script", "at", "letters", "one", "found", "name", "k"] ["script", "at"] nm (L2.defScope (top 39)) (L2.defBody (top 39)) b__law_names = true := by decide +kernel
theorem ck__law_bars : defB ["script", "at", "most_bars", "found", "last", "k"] ["script", "at", "most_bars"] nm (L2.defScope (top 40)) (L2.defBody (top 40)) b__law_bars = true := by decide +kernel
theorem ck_Meet_need_word : defB ["self", "words"] ["self", "words"] nm (L2.defScope (mth 36 12)) (L2.defBody (mth 36 12)) b_Meet_need_word = true := by decide +kernel
theorem ck_Stand___init__ : defB ["self", "rows"] ["self", "rows"] nm (L2.defScope (mth 35 0)) (L2.defBody (mth 35 0)) b_Stand___init__ = true := by decide +kernel
theorem ck_Stand_twin : defB ["self", "found"] ["self"] nm (L2.defScope (mth 35 1)) (L2.defBody (mth 35 1)) b_Stand_twin = true := by decide +kernel
theorem ck_misses_in : defB ["mark"] ["mark"] nm (L2.defScope (top 15)) (L2.defBody (top 15)) b_misses_in = true := by decide +kernel
theorem ck_run_behind : defB ["run", "mark"] ["run", "mark"] nm (L2.defScope (top 18)) (L2.defBody (top 18)) b_run_behind = true := by decide +kernel
theorem ck_run_of : defB ["row", "run", "mark"] ["row"] nm (L2.defScope (top 19)) (L2.defBody (top 19)) b_run_of = true := by decide +kernel
theorem ck_is_open : defB ["mark"] ["mark"] nm (L2.defScope (top 16)) (L2.defBody (top 16)) b_is_open = true := by decide +kernel
theorem ck_Meet_todo : defB ["self", "now", "some", "at", "row"] ["self", "now"] nm (L2.defScope (mth 36 4)) (L2.defBody (mth 36 4)) b_Meet_todo = true := by decide +kernel
theorem ck_Meet_staying : defB ["self", "now", "gone", "some", "at"] ["self", "now"] nm (L2.defScope (mth 36 5)) (L2.defBody (mth 36 5)) b_Meet_staying = true := by decide +kernel
theorem ck_Meet_following : defB ["self", "now", "rounds", "at"] ["self", "now"] nm (L2.defScope (mth 36 6)) (L2.defBody (mth 36 6)) b_Meet_following = true := by decide +kernel
theorem ck_Meet_turn_to : defB ["self", "now", "deed"] ["self", "now", "deed"] nm (L2.defScope (mth 36 11)) (L2.defBody (mth 36 11)) b_Meet_turn_to = true := by decide +kernel
theorem ck_is_mark : defB ["thing"] ["thing"] nm (L2.defScope (top 17)) (L2.defBody (top 17)) b_is_mark = true := by decide +kernel
theorem ck_is_row : defB ["thing", "at", "mark", "run"] ["thing"] nm (L2.defScope (top 20)) (L2.defBody (top 20)) b_is_row = true := by decide +kernel
theorem ck_need_rows : defB ["rows", "row"] ["rows"] nm (L2.defScope (top 26)) (L2.defBody (top 26)) b_need_rows = true := by decide +kernel
theorem ck_need_row : defB ["row"] ["row"] nm (L2.defScope (top 21)) (L2.defBody (top 21)) b_need_row = true := by decide +kernel
theorem ck_best : defB ["row", "found", "at", "mark"] ["row"] nm (L2.defScope (top 22)) (L2.defBody (top 22)) b_best = true := by decide +kernel
theorem ck_score : defB ["row", "top", "mark"] ["row"] nm (L2.defScope (top 23)) (L2.defBody (top 23)) b_score = true := by decide +kernel
theorem ck_weight : defB ["row", "found"] ["row"] nm (L2.defScope (top 25)) (L2.defBody (top 25)) b_weight = true := by decide +kernel
theorem ck_places : defB ["rows", "weights", "row", "one", "other"] ["rows"] nm (L2.defScope (top 28)) (L2.defBody (top 28)) b_places = true := by decide +kernel
theorem ck_Meet_end_main : defB ["self", "now", "found", "first", "top", "row", "at", "place", "name"] ["self", "now"] nm (L2.defScope (mth 36 7)) (L2.defBody (mth 36 7)) b_Meet_end_main = true := by decide +kernel
theorem ck_Meet_go_on : defB ["self", "now", "some_in", "row"] ["self", "now"] nm (L2.defScope (mth 36 8)) (L2.defBody (mth 36 8)) b_Meet_go_on = true := by decide +kernel
theorem ck_Meet_end_round : defB ["self", "now", "some", "missed", "at"] ["self", "now"] nm (L2.defScope (mth 36 9)) (L2.defBody (mth 36 9)) b_Meet_end_round = true := by decide +kernel
theorem ck_Meet_put : defB ["self", "sign", "now", "at", "told", "row"] ["self", "sign"] nm (L2.defScope (mth 36 10)) (L2.defBody (mth 36 10)) b_Meet_put = true := by decide +kernel
theorem ck_Meet_skip : defB ["self"] ["self"] nm (L2.defScope (mth 36 14)) (L2.defBody (mth 36 14)) b_Meet_skip = true := by decide +kernel
theorem ck_Meet_go_home : defB ["self"] ["self"] nm (L2.defScope (mth 36 15)) (L2.defBody (mth 36 15)) b_Meet_go_home = true := by decide +kernel
theorem ck_Meet_share : defB ["self", "now", "at"] ["self"] nm (L2.defScope (mth 36 16)) (L2.defBody (mth 36 16)) b_Meet_share = true := by decide +kernel
theorem ck_Meet_jump : defB ["self", "cleared"] ["self", "cleared"] nm (L2.defScope (mth 36 13)) (L2.defBody (mth 36 13)) b_Meet_jump = true := by decide +kernel
theorem ck__law_done : defB ["meet", "sign", "e"] ["meet", "sign"] nm (L2.defScope (top 41)) (L2.defBody (top 41)) b__law_done = true := by decide +kernel
theorem ck_Meet_word : defB ["self"] ["self"] nm (L2.defScope (mth 36 17)) (L2.defBody (mth 36 17)) b_Meet_word = true := by decide +kernel
theorem ck_Meet_who : defB ["self", "at"] ["self"] nm (L2.defScope (mth 36 18)) (L2.defBody (mth 36 18)) b_Meet_who = true := by decide +kernel
theorem ck_is_name : defB ["thing", "sign"] ["thing"] nm (L2.defScope (top 31)) (L2.defBody (top 31)) b_is_name = true := by decide +kernel
theorem ck_Meet_need_name : defB ["self", "name"] ["self", "name"] nm (L2.defScope (mth 36 20)) (L2.defBody (mth 36 20)) b_Meet_need_name = true := by decide +kernel
theorem ck_Meet_row : defB ["self", "name"] ["self", "name"] nm (L2.defScope (mth 36 21)) (L2.defBody (mth 36 21)) b_Meet_row = true := by decide +kernel
theorem ck_need_names : defB ["names", "name"] ["names"] nm (L2.defScope (top 32)) (L2.defBody (top 32)) b_need_names = true := by decide +kernel
theorem ck_is_number : defB ["thing", "least", "most"] ["thing", "least", "most"] nm (L2.defScope (top 14)) (L2.defBody (top 14)) b_is_number = true := by decide +kernel
theorem ck_is_bars : defB ["thing", "bar", "one", "other"] ["thing"] nm (L2.defScope (top 33)) (L2.defBody (top 33)) b_is_bars = true := by decide +kernel
theorem ck_need_bars : defB ["bars"] ["bars"] nm (L2.defScope (top 34)) (L2.defBody (top 34)) b_need_bars = true := by decide +kernel
theorem ck_Meet___init__ : defB ["self", "names", "bars", "rise", "name"] ["self", "names", "bars", "rise"] nm (L2.defScope (mth 36 0)) (L2.defBody (mth 36 0)) b_Meet___init__ = true := by decide +kernel
theorem ck__law_through : defB ["script", "names", "bars", "all_names", "meet", "used", "k", "name", "sign"] ["script", "names", "bars", "all_names"] nm (L2.defScope (top 42)) (L2.defBody (top 42)) b__law_through = true := by decide +kernel
theorem ck_is_better : defB ["one", "other"] ["one", "other"] nm (L2.defScope (top 27)) (L2.defBody (top 27)) b_is_better = true := by decide +kernel
theorem ck_law : defB ["script", "names", "bars", "turn", "left", "fewer", "name", "word", "rows", "other", "same", "size", "one"] ["script"] nm (L2.defScope (top 43)) (L2.defBody (top 43)) b_law = true := by decide +kernel
theorem ck_low : lowB (L2.defScope (mth 9 0)) (L2.defBody (mth 9 0)) = true := by decide +kernel
def fn : List He.DefD := [fnD 38 "_law_drawn", fnD 39 "_law_names", fnD 40 "_law_bars", mtD 36 12 "Meet" "need_word" "Meet.need_word" [], mtD 35 0 "Stand" "__init__" "Stand.__init__" [], mtD 35 1 "Stand" "twin" "Stand.twin" [], fnD 15 "misses_in", fnD 18 "run_behind", fnD 19 "run_of", fnD 16 "is_open", mtD 36 4 "Meet" "todo" "Meet.todo" [], mtD 36 5 "Meet" "staying" "Meet.staying" [], mtD 36 6 "Meet" "following" "Meet.following" [], mtD 36 11 "Meet" "turn_to" "Meet.turn_to" [], fnD 17 "is_mark", fnD 20 "is_row", fnD 26 "need_rows", fnD 21 "need_row", fnD 22 "best", fnD 23 "score", fnD 25 "weight", fnD 28 "places", mtD 36 7 "Meet" "end_main" "Meet.end_main" [], mtD 36 8 "Meet" "go_on" "Meet.go_on" [], mtD 36 9 "Meet" "end_round" "Meet.end_round" [], mtD 36 10 "Meet" "put" "Meet.put" [], mtD 36 14 "Meet" "skip" "Meet.skip" [], mtD 36 15 "Meet" "go_home" "Meet.go_home" [], mtD 36 16 "Meet" "share" "Meet.share" [], mtD 36 13 "Meet" "jump" "Meet.jump" [], fnD 41 "_law_done", mtD 36 17 "Meet" "word" "Meet.word" [], mtD 36 18 "Meet" "who" "Meet.who" [], fnD 31 "is_name", mtD 36 20 "Meet" "need_name" "Meet.need_name" [], mtD 36 21 "Meet" "row" "Meet.row" [], fnD 32 "need_names", fnD 14 "is_number", fnD 33 "is_bars", fnD 34 "need_bars", mtD 36 0 "Meet" "__init__" "Meet.__init__" [.int 2], fnD 42 "_law_through", fnD 27 "is_better", fnD 43 "law", mtD 9 0 "NotNow" "__init__" "NotNow.__init__" []]
def fa0 : List He.Fa := [He.Fa.glo "_law_drawn", He.Fa.glo "_law_names", He.Fa.glo "_law_bars", He.Fa.glo "misses_in", He.Fa.glo "run_behind", He.Fa.glo "run_of", He.Fa.glo "is_open", He.Fa.glo "is_mark", He.Fa.glo "is_row", He.Fa.glo "need_rows", He.Fa.glo "need_row", He.Fa.glo "best", He.Fa.glo "score", He.Fa.glo "weight", He.Fa.glo "places", He.Fa.glo "_law_done", He.Fa.glo "is_name", He.Fa.glo "need_names", He.Fa.glo "is_number", He.Fa.glo "is_bars", He.Fa.glo "need_bars", He.Fa.glo "_law_through", He.Fa.glo "is_better", He.Fa.glo "law", He.Fa.glo "ENDS", He.Fa.glo "BarError", He.Fa.glo "NoRow", He.Fa.glo "NoRows", He.Fa.glo "NoNames", He.Fa.glo "NoBars", He.Fa.glo "NoStep", He.Fa.glo "NoTry", He.Fa.glo "NoName", He.Fa.glo "NotNow", He.Fa.glo "Stand", He.Fa.glo "Meet", He.Fa.exc "BarError", He.Fa.exc "NoRow", He.Fa.exc "NoRows", He.Fa.exc "NoNames", He.Fa.exc "NoBars", He.Fa.exc "NoStep", He.Fa.exc "NoTry", He.Fa.exc "NoName", He.Fa.cls "Stand", He.Fa.cls "Meet", He.Fa.noat "Stand" "rows", He.Fa.noat "Stand" "state", He.Fa.noat "Stand" "first", He.Fa.noat "Stand" "jumps", He.Fa.noat "Stand" "left", He.Fa.noat "Stand" "height", He.Fa.noat "Stand" "rounds", He.Fa.noat "Stand" "deeds", He.Fa.noat "Meet" "names", He.Fa.noat "Meet" "heights", He.Fa.noat "Meet" "step", He.Fa.noat "Meet" "here", He.Fa.noat "Meet" "done", He.Fa.noat "Meet" "undone", He.Fa.meth "Meet" "need_word", He.Fa.meth "Stand" "twin", He.Fa.meth "Meet" "todo", He.Fa.meth "Meet" "staying", He.Fa.meth "Meet" "following", He.Fa.meth "Meet" "turn_to", He.Fa.meth "Meet" "end_main", He.Fa.meth "Meet" "go_on", He.Fa.meth "Meet" "end_round", He.Fa.meth "Meet" "put", He.Fa.meth "Meet" "skip", He.Fa.meth "Meet" "go_home", He.Fa.meth "Meet" "share", He.Fa.meth "Meet" "jump", He.Fa.meth "Meet" "word", He.Fa.meth "Meet" "who", He.Fa.meth "Meet" "need_name", He.Fa.meth "Meet" "row", He.Fa.mkr "Meet", He.Fa.mkr "Stand"]
def fa : List He.Fa := builtinNames.map He.Fa.free ++ fa0
def exK (K : PySem.W.Frag) : Bool := (He.Fa.int "MOST_BARS" 12).ok K && ((He.tupB K "ENDS" [.str "o", .str "-", .str "r"] && bareB K (He.ga K "ENDS")) && ((He.Fa.str "LETTERS" "abcdefghijklmnopqrstuvwxyz").ok K && (subAll K (clOf cs) csX && (oexB K (He.ga K "NotNow") && (L2.xfB K (He.ga K "NotNow") && (He.eqO (PySem.W.findIn K (.ref (He.ga K "NotNow")) "stands") (some none) && (He.eqO (PySem.W.findIn K (.ref (He.ga K "NotNow")) "__init__") (some (some (.ref (He.ma K (He.ga K "NotNow") "__init__")))) && (decide (PySem.W.typeIn K (.ref (He.ma K (He.ga K "NotNow") "__init__")) = some (.type "function")) && (true)))))))))
def names0 : List PySem.Str := ["_wall", "BarError", "NoRow", "NoRows", "NoNames", "NoBars", "NoStep", "NoTry", "NotNow", "NoName", "MOST_BARS", "ENDS", "is_number", "misses_in", "is_open", "is_mark", "run_behind", "run_of", "is_row", "need_row"]
def names1 : List PySem.Str := ["best", "score", "weight", "need_rows", "is_better", "places", "LETTERS", "is_name", "need_names", "is_bars", "need_bars", "Stand", "Meet", "_law_drawn", "_law_names", "_law_bars", "_law_done", "_law_through"]
def names : List PySem.Str := names0 ++ names1
abbrev Rr : PySem.W.OpenRow := PySem.W.OpenLaw.row PySem.Challenge.rw_hightries_k24_whole_each_alone
abbrev hk : PySem.W.Hook := He.hookX 5 fa fn [] [] exK
def ob (s : PySem.W.SharedT) : He.AlX := He.obsX 5 fa fn [] [] exK (HandSHeadRun.getT s)
theorem ob_eq (s : PySem.W.SharedT) : ob s = hk.obs s.abs := He.obsX_eq (HandSHeadRun.getT_eq s)
theorem run (w : PySem.World) : HandSHeadRun.RunEq Rr (PySem.W.view Rr.prog [43]) hk ob 20000 names w := by
  intro os
  kernel_rfl
theorem facts {w : PySem.World} {K : PySem.W.Frag} {h : PySem.Heap} {mg : Str → Option Value} {f : Addr} (X : K.In h) (Gn : h.Ns PySem.mainGlobals mg) (hfa : mg ("law" : Str) = some (.ref f)) (c : He.SaysD fa fn K) (hx : exK K = true) :
    ∃ fd : PySem.FuncData, (∀ (s : PySem.Shared) (u : Value), PySem.BindsTo s fd ⟨[u], []⟩ [(("script" : Str), u)]) ∧
      ∀ base : PySem.Heap, K.In base → base.Ns PySem.mainGlobals mg → L2.FnOk PySem.Challenge.pw_hightries_k24_whole_each_alone w K mg base (L2.CX PySem.Challenge.pw_hightries_k24_whole_each_alone w) 16 f fd ["script"] (spF (gx K) fn_law) := by
  have free : ∀ x ∈ builtinNames, mg x = none := fun x hx => He.free_ok X Gn (He.SaysD.facts c (List.mem_append_left _ (List.mem_map_of_mem hx)))
  have fact : ∀ (i : Nat) (a : He.Fa), fa0[i]? = some a → a.ok K = true := fun i a h => He.SaysD.facts c (List.mem_append_right _ (List.mem_of_getElem? h))
  let G : Gx := gx K
  have inj : ∀ i j, G.fld i = G.fld j → i = j := fld_inj atsOk
  have gK : G.K = K := rfl
  have gC : ∀ i, G.cls i = He.ga K (clOf cs i) := fun _ => rfl
  have x0 := hx
  obtain ⟨y0, x1⟩ := ba x0
  have c_MOST_BARS : GloAt mg G (glN 2) (.int 12) := by
    obtain ⟨t, e⟩ := He.int_ok X Gn y0
    exact ⟨.int 12, _, e, ⟨t, rfl⟩, fun m A H => .int _⟩
  obtain ⟨y1, x2⟩ := ba x1
  have c_ENDS : GloAt mg G (glN 1) (.tup [(.str [111]), (.str [45]), (.str [114])]) := ⟨.ref (He.ga K "ENDS"), _, (He.glo_ok X Gn (fact 24 (He.Fa.glo "ENDS") rfl)), rfl, fun m A H => ktup_of (He.tupB_ok (Bool.and_eq_true_iff.mp y1).1 (fun _ => none)) (Bool.and_eq_true_iff.mp y1).2 ((.cons (rv_lit (by decide +kernel) (by decide)) (.cons (rv_lit (by decide +kernel) (by decide)) (.cons (rv_lit (by decide +kernel) (by decide)) .nil))))⟩
  obtain ⟨y2, x3⟩ := ba x2
  have c_LETTERS : GloAt mg G (glN 3) (.str [97, 98, 99, 100, 101, 102, 103, 104, 105, 106, 107, 108, 109, 110, 111, 112, 113, 114, 115, 116, 117, 118, 119, 120, 121, 122]) := by
    obtain ⟨t, e⟩ := He.str_ok X Gn y2
    exact ⟨.str "abcdefghijklmnopqrstuvwxyz", _, e, ⟨t, rfl⟩, fun m A H => rv_lit (by decide +kernel) (by decide)⟩
  obtain ⟨yS, x4⟩ := ba x3
  have hS : ∀ i ∈ csX.map (fun q => q.1), ∀ j ∈ csX.map (fun q => q.1), SubAt mg G (clOf cs) i j (i == j || j == 1) := sub_facts gK gC yS (by
    refine list_cons (p := fun q : Nat × Str => mg q.2 = some (.ref (He.ga K q.2))) (He.glo_ok X Gn (fact 25 (He.Fa.glo "BarError") rfl)) (list_cons (p := fun q : Nat × Str => mg q.2 = some (.ref (He.ga K q.2))) (He.glo_ok X Gn (fact 26 (He.Fa.glo "NoRow") rfl)) (list_cons (p := fun q : Nat × Str => mg q.2 = some (.ref (He.ga K q.2))) (He.glo_ok X Gn (fact 27 (He.Fa.glo "NoRows") rfl)) (list_cons (p := fun q : Nat × Str => mg q.2 = some (.ref (He.ga K q.2))) (He.glo_ok X Gn (fact 28 (He.Fa.glo "NoNames") rfl)) (list_cons (p := fun q : Nat × Str => mg q.2 = some (.ref (He.ga K q.2))) (He.glo_ok X Gn (fact 29 (He.Fa.glo "NoBars") rfl)) (list_cons (p := fun q : Nat × Str => mg q.2 = some (.ref (He.ga K q.2))) (He.glo_ok X Gn (fact 30 (He.Fa.glo "NoStep") rfl)) (list_cons (p := fun q : Nat × Str => mg q.2 = some (.ref (He.ga K q.2))) (He.glo_ok X Gn (fact 31 (He.Fa.glo "NoTry") rfl)) (list_cons (p := fun q : Nat × Str => mg q.2 = some (.ref (He.ga K q.2))) (He.glo_ok X Gn (fact 32 (He.Fa.glo "NoName") rfl)) (list_cons (p := fun q : Nat × Str => mg q.2 = some (.ref (He.ga K q.2))) (He.glo_ok X Gn (fact 33 (He.Fa.glo "NotNow") rfl)) list_nil)))))))))
  have hX : ∀ i ∈ ([1, 2, 3, 5, 6, 7, 8, 10] : List Nat), ExcAt mg G (clOf cs) i := list_cons (p := fun i => ExcAt mg G (clOf cs) i) (exc_fact (x := "BarError") gK rfl rfl (fact 36 (He.Fa.exc "BarError") rfl) (He.glo_ok X Gn (fact 25 (He.Fa.glo "BarError") rfl))) (list_cons (p := fun i => ExcAt mg G (clOf cs) i) (exc_fact (x := "NoRow") gK rfl rfl (fact 37 (He.Fa.exc "NoRow") rfl) (He.glo_ok X Gn (fact 26 (He.Fa.glo "NoRow") rfl))) (list_cons (p := fun i => ExcAt mg G (clOf cs) i) (exc_fact (x := "NoRows") gK rfl rfl (fact 38 (He.Fa.exc "NoRows") rfl) (He.glo_ok X Gn (fact 27 (He.Fa.glo "NoRows") rfl))) (list_cons (p := fun i => ExcAt mg G (clOf cs) i) (exc_fact (x := "NoNames") gK rfl rfl (fact 39 (He.Fa.exc "NoNames") rfl) (He.glo_ok X Gn (fact 28 (He.Fa.glo "NoNames") rfl))) (list_cons (p := fun i => ExcAt mg G (clOf cs) i) (exc_fact (x := "NoBars") gK rfl rfl (fact 40 (He.Fa.exc "NoBars") rfl) (He.glo_ok X Gn (fact 29 (He.Fa.glo "NoBars") rfl))) (list_cons (p := fun i => ExcAt mg G (clOf cs) i) (exc_fact (x := "NoStep") gK rfl rfl (fact 41 (He.Fa.exc "NoStep") rfl) (He.glo_ok X Gn (fact 30 (He.Fa.glo "NoStep") rfl))) (list_cons (p := fun i => ExcAt mg G (clOf cs) i) (exc_fact (x := "NoTry") gK rfl rfl (fact 42 (He.Fa.exc "NoTry") rfl) (He.glo_ok X Gn (fact 31 (He.Fa.glo "NoTry") rfl))) (list_cons (p := fun i => ExcAt mg G (clOf cs) i) (exc_fact (x := "NoName") gK rfl rfl (fact 43 (He.Fa.exc "NoName") rfl) (He.glo_ok X Gn (fact 32 (He.Fa.glo "NoName") rfl))) list_nil)))))))
  obtain ⟨w0, x5⟩ := ba x4
  obtain ⟨w1, x6⟩ := ba x5
  obtain ⟨w2, x7⟩ := ba x6
  obtain ⟨w3, x8⟩ := ba x7
  obtain ⟨w4, x9⟩ := ba x8
  obtain ⟨fd__law_drawn, D__law_drawn⟩ := c.def_ 0 (d := fnD 38 "_law_drawn") rfl
  have bd__law_drawn : L2.Binds K fd__law_drawn ["script", "k", "many"] [] := L2.FunD.bindsN D__law_drawn fun _ _ _ _ _ _ us hl => match us, hl with | [_, _, _], _ => rfl
  obtain ⟨fd__law_names, D__law_names⟩ := c.def_ 1 (d := fnD 39 "_law_names") rfl
  have bd__law_names : L2.Binds K fd__law_names ["script", "at"] [] := L2.FunD.bindsN D__law_names fun _ _ _ _ _ _ us hl => match us, hl with | [_, _], _ => rfl
  obtain ⟨fd__law_bars, D__law_bars⟩ := c.def_ 2 (d := fnD 40 "_law_bars") rfl
  have bd__law_bars : L2.Binds K fd__law_bars ["script", "at", "most_bars"] [] := L2.FunD.bindsN D__law_bars fun _ _ _ _ _ _ us hl => match us, hl with | [_, _, _], _ => rfl
  obtain ⟨fd_Meet_need_word, D_Meet_need_word⟩ := c.def_ 3 (d := mtD 36 12 "Meet" "need_word" "Meet.need_word" []) rfl
  have bd_Meet_need_word : L2.Binds K fd_Meet_need_word ["self", "words"] [] := L2.FunD.bindsN D_Meet_need_word fun _ _ _ _ _ _ us hl => match us, hl with | [_, _], _ => rfl
  obtain ⟨fd_Stand___init__, D_Stand___init__⟩ := c.def_ 4 (d := mtD 35 0 "Stand" "__init__" "Stand.__init__" []) rfl
  have bd_Stand___init__ : L2.Binds K fd_Stand___init__ ["self", "rows"] [] := L2.FunD.bindsN D_Stand___init__ fun _ _ _ _ _ _ us hl => match us, hl with | [_, _], _ => rfl
  obtain ⟨fd_Stand_twin, D_Stand_twin⟩ := c.def_ 5 (d := mtD 35 1 "Stand" "twin" "Stand.twin" []) rfl
  have bd_Stand_twin : L2.Binds K fd_Stand_twin ["self"] [] := L2.FunD.bindsN D_Stand_twin fun _ _ _ _ _ _ us hl => match us, hl with | [_], _ => rfl
  obtain ⟨fd_misses_in, D_misses_in⟩ := c.def_ 6 (d := fnD 15 "misses_in") rfl
  have bd_misses_in : L2.Binds K fd_misses_in ["mark"] [] := L2.FunD.bindsN D_misses_in fun _ _ _ _ _ _ us hl => match us, hl with | [_], _ => rfl
  obtain ⟨fd_run_behind, D_run_behind⟩ := c.def_ 7 (d := fnD 18 "run_behind") rfl
  have bd_run_behind : L2.Binds K fd_run_behind ["run", "mark"] [] := L2.FunD.bindsN D_run_behind fun _ _ _ _ _ _ us hl => match us, hl with | [_, _], _ => rfl
  obtain ⟨fd_run_of, D_run_of⟩ := c.def_ 8 (d := fnD 19 "run_of") rfl
  have bd_run_of : L2.Binds K fd_run_of ["row"] [] := L2.FunD.bindsN D_run_of fun _ _ _ _ _ _ us hl => match us, hl with | [_], _ => rfl
  obtain ⟨fd_is_open, D_is_open⟩ := c.def_ 9 (d := fnD 16 "is_open") rfl
  have bd_is_open : L2.Binds K fd_is_open ["mark"] [] := L2.FunD.bindsN D_is_open fun _ _ _ _ _ _ us hl => match us, hl with | [_], _ => rfl
  obtain ⟨fd_Meet_todo, D_Meet_todo⟩ := c.def_ 10 (d := mtD 36 4 "Meet" "todo" "Meet.todo" []) rfl
  have bd_Meet_todo : L2.Binds K fd_Meet_todo ["self", "now"] [] := L2.FunD.bindsN D_Meet_todo fun _ _ _ _ _ _ us hl => match us, hl with | [_, _], _ => rfl
  obtain ⟨fd_Meet_staying, D_Meet_staying⟩ := c.def_ 11 (d := mtD 36 5 "Meet" "staying" "Meet.staying" []) rfl
  have bd_Meet_staying : L2.Binds K fd_Meet_staying ["self", "now"] [] := L2.FunD.bindsN D_Meet_staying fun _ _ _ _ _ _ us hl => match us, hl with | [_, _], _ => rfl
  obtain ⟨fd_Meet_following, D_Meet_following⟩ := c.def_ 12 (d := mtD 36 6 "Meet" "following" "Meet.following" []) rfl
  have bd_Meet_following : L2.Binds K fd_Meet_following ["self", "now"] [] := L2.FunD.bindsN D_Meet_following fun _ _ _ _ _ _ us hl => match us, hl with | [_, _], _ => rfl
  obtain ⟨fd_Meet_turn_to, D_Meet_turn_to⟩ := c.def_ 13 (d := mtD 36 11 "Meet" "turn_to" "Meet.turn_to" []) rfl
  have bd_Meet_turn_to : L2.Binds K fd_Meet_turn_to ["self", "now", "deed"] [] := L2.FunD.bindsN D_Meet_turn_to fun _ _ _ _ _ _ us hl => match us, hl with | [_, _, _], _ => rfl
  obtain ⟨fd_is_mark, D_is_mark⟩ := c.def_ 14 (d := fnD 17 "is_mark") rfl
  have bd_is_mark : L2.Binds K fd_is_mark ["thing"] [] := L2.FunD.bindsN D_is_mark fun _ _ _ _ _ _ us hl => match us, hl with | [_], _ => rfl
  obtain ⟨fd_is_row, D_is_row⟩ := c.def_ 15 (d := fnD 20 "is_row") rfl
  have bd_is_row : L2.Binds K fd_is_row ["thing"] [] := L2.FunD.bindsN D_is_row fun _ _ _ _ _ _ us hl => match us, hl with | [_], _ => rfl
  obtain ⟨fd_need_rows, D_need_rows⟩ := c.def_ 16 (d := fnD 26 "need_rows") rfl
  have bd_need_rows : L2.Binds K fd_need_rows ["rows"] [] := L2.FunD.bindsN D_need_rows fun _ _ _ _ _ _ us hl => match us, hl with | [_], _ => rfl
  obtain ⟨fd_need_row, D_need_row⟩ := c.def_ 17 (d := fnD 21 "need_row") rfl
  have bd_need_row : L2.Binds K fd_need_row ["row"] [] := L2.FunD.bindsN D_need_row fun _ _ _ _ _ _ us hl => match us, hl with | [_], _ => rfl
  obtain ⟨fd_best, D_best⟩ := c.def_ 18 (d := fnD 22 "best") rfl
  have bd_best : L2.Binds K fd_best ["row"] [] := L2.FunD.bindsN D_best fun _ _ _ _ _ _ us hl => match us, hl with | [_], _ => rfl
  obtain ⟨fd_score, D_score⟩ := c.def_ 19 (d := fnD 23 "score") rfl
  have bd_score : L2.Binds K fd_score ["row"] [] := L2.FunD.bindsN D_score fun _ _ _ _ _ _ us hl => match us, hl with | [_], _ => rfl
  obtain ⟨fd_weight, D_weight⟩ := c.def_ 20 (d := fnD 25 "weight") rfl
  have bd_weight : L2.Binds K fd_weight ["row"] [] := L2.FunD.bindsN D_weight fun _ _ _ _ _ _ us hl => match us, hl with | [_], _ => rfl
  obtain ⟨fd_places, D_places⟩ := c.def_ 21 (d := fnD 28 "places") rfl
  have bd_places : L2.Binds K fd_places ["rows"] [] := L2.FunD.bindsN D_places fun _ _ _ _ _ _ us hl => match us, hl with | [_], _ => rfl
  obtain ⟨fd_Meet_end_main, D_Meet_end_main⟩ := c.def_ 22 (d := mtD 36 7 "Meet" "end_main" "Meet.end_main" []) rfl
  have bd_Meet_end_main : L2.Binds K fd_Meet_end_main ["self", "now"] [] := L2.FunD.bindsN D_Meet_end_main fun _ _ _ _ _ _ us hl => match us, hl with | [_, _], _ => rfl
  obtain ⟨fd_Meet_go_on, D_Meet_go_on⟩ := c.def_ 23 (d := mtD 36 8 "Meet" "go_on" "Meet.go_on" []) rfl
  have bd_Meet_go_on : L2.Binds K fd_Meet_go_on ["self", "now"] [] := L2.FunD.bindsN D_Meet_go_on fun _ _ _ _ _ _ us hl => match us, hl with | [_, _], _ => rfl
  obtain ⟨fd_Meet_end_round, D_Meet_end_round⟩ := c.def_ 24 (d := mtD 36 9 "Meet" "end_round" "Meet.end_round" []) rfl
  have bd_Meet_end_round : L2.Binds K fd_Meet_end_round ["self", "now"] [] := L2.FunD.bindsN D_Meet_end_round fun _ _ _ _ _ _ us hl => match us, hl with | [_, _], _ => rfl
  obtain ⟨fd_Meet_put, D_Meet_put⟩ := c.def_ 25 (d := mtD 36 10 "Meet" "put" "Meet.put" []) rfl
  have bd_Meet_put : L2.Binds K fd_Meet_put ["self", "sign"] [] := L2.FunD.bindsN D_Meet_put fun _ _ _ _ _ _ us hl => match us, hl with | [_, _], _ => rfl
  obtain ⟨fd_Meet_skip, D_Meet_skip⟩ := c.def_ 26 (d := mtD 36 14 "Meet" "skip" "Meet.skip" []) rfl
  have bd_Meet_skip : L2.Binds K fd_Meet_skip ["self"] [] := L2.FunD.bindsN D_Meet_skip fun _ _ _ _ _ _ us hl => match us, hl with | [_], _ => rfl
  obtain ⟨fd_Meet_go_home, D_Meet_go_home⟩ := c.def_ 27 (d := mtD 36 15 "Meet" "go_home" "Meet.go_home" []) rfl
  have bd_Meet_go_home : L2.Binds K fd_Meet_go_home ["self"] [] := L2.FunD.bindsN D_Meet_go_home fun _ _ _ _ _ _ us hl => match us, hl with | [_], _ => rfl
  obtain ⟨fd_Meet_share, D_Meet_share⟩ := c.def_ 28 (d := mtD 36 16 "Meet" "share" "Meet.share" []) rfl
  have bd_Meet_share : L2.Binds K fd_Meet_share ["self"] [] := L2.FunD.bindsN D_Meet_share fun _ _ _ _ _ _ us hl => match us, hl with | [_], _ => rfl
  obtain ⟨fd_Meet_jump, D_Meet_jump⟩ := c.def_ 29 (d := mtD 36 13 "Meet" "jump" "Meet.jump" []) rfl
  have bd_Meet_jump : L2.Binds K fd_Meet_jump ["self", "cleared"] [] := L2.FunD.bindsN D_Meet_jump fun _ _ _ _ _ _ us hl => match us, hl with | [_, _], _ => rfl
  obtain ⟨fd__law_done, D__law_done⟩ := c.def_ 30 (d := fnD 41 "_law_done") rfl
  have bd__law_done : L2.Binds K fd__law_done ["meet", "sign"] [] := L2.FunD.bindsN D__law_done fun _ _ _ _ _ _ us hl => match us, hl with | [_, _], _ => rfl
  obtain ⟨fd_Meet_word, D_Meet_word⟩ := c.def_ 31 (d := mtD 36 17 "Meet" "word" "Meet.word" []) rfl
  have bd_Meet_word : L2.Binds K fd_Meet_word ["self"] [] := L2.FunD.bindsN D_Meet_word fun _ _ _ _ _ _ us hl => match us, hl with | [_], _ => rfl
  obtain ⟨fd_Meet_who, D_Meet_who⟩ := c.def_ 32 (d := mtD 36 18 "Meet" "who" "Meet.who" []) rfl
  have bd_Meet_who : L2.Binds K fd_Meet_who ["self"] [] := L2.FunD.bindsN D_Meet_who fun _ _ _ _ _ _ us hl => match us, hl with | [_], _ => rfl
  obtain ⟨fd_is_name, D_is_name⟩ := c.def_ 33 (d := fnD 31 "is_name") rfl
  have bd_is_name : L2.Binds K fd_is_name ["thing"] [] := L2.FunD.bindsN D_is_name fun _ _ _ _ _ _ us hl => match us, hl with | [_], _ => rfl
  obtain ⟨fd_Meet_need_name, D_Meet_need_name⟩ := c.def_ 34 (d := mtD 36 20 "Meet" "need_name" "Meet.need_name" []) rfl
  have bd_Meet_need_name : L2.Binds K fd_Meet_need_name ["self", "name"] [] := L2.FunD.bindsN D_Meet_need_name fun _ _ _ _ _ _ us hl => match us, hl with | [_, _], _ => rfl
  obtain ⟨fd_Meet_row, D_Meet_row⟩ := c.def_ 35 (d := mtD 36 21 "Meet" "row" "Meet.row" []) rfl
  have bd_Meet_row : L2.Binds K fd_Meet_row ["self", "name"] [] := L2.FunD.bindsN D_Meet_row fun _ _ _ _ _ _ us hl => match us, hl with | [_, _], _ => rfl
  obtain ⟨fd_need_names, D_need_names⟩ := c.def_ 36 (d := fnD 32 "need_names") rfl
  have bd_need_names : L2.Binds K fd_need_names ["names"] [] := L2.FunD.bindsN D_need_names fun _ _ _ _ _ _ us hl => match us, hl with | [_], _ => rfl
  obtain ⟨fd_is_number, D_is_number⟩ := c.def_ 37 (d := fnD 14 "is_number") rfl
  have bd_is_number : L2.Binds K fd_is_number ["thing", "least", "most"] [] := L2.FunD.bindsN D_is_number fun _ _ _ _ _ _ us hl => match us, hl with | [_, _, _], _ => rfl
  obtain ⟨fd_is_bars, D_is_bars⟩ := c.def_ 38 (d := fnD 33 "is_bars") rfl
  have bd_is_bars : L2.Binds K fd_is_bars ["thing"] [] := L2.FunD.bindsN D_is_bars fun _ _ _ _ _ _ us hl => match us, hl with | [_], _ => rfl
  obtain ⟨fd_need_bars, D_need_bars⟩ := c.def_ 39 (d := fnD 34 "need_bars") rfl
  have bd_need_bars : L2.Binds K fd_need_bars ["bars"] [] := L2.FunD.bindsN D_need_bars fun _ _ _ _ _ _ us hl => match us, hl with | [_], _ => rfl
  obtain ⟨fd_Meet___init__, D_Meet___init__⟩ := c.def_ 40 (d := mtD 36 0 "Meet" "__init__" "Meet.__init__" [.int 2]) rfl
  obtain ⟨fd__law_through, D__law_through⟩ := c.def_ 41 (d := fnD 42 "_law_through") rfl
  have bd__law_through : L2.Binds K fd__law_through ["script", "names", "bars", "all_names"] [] := L2.FunD.bindsN D__law_through fun _ _ _ _ _ _ us hl => match us, hl with | [_, _, _, _], _ => rfl
  obtain ⟨fd_is_better, D_is_better⟩ := c.def_ 42 (d := fnD 27 "is_better") rfl
  have bd_is_better : L2.Binds K fd_is_better ["one", "other"] [] := L2.FunD.bindsN D_is_better fun _ _ _ _ _ _ us hl => match us, hl with | [_, _], _ => rfl
  obtain ⟨fd_law, D_law⟩ := c.def_ 43 (d := fnD 43 "law") rfl
  obtain ⟨fd_NotNow___init__, D_NotNow___init__⟩ := c.def_ 44 (d := mtD 9 0 "NotNow" "__init__" "NotNow.__init__" []) rfl
  have bd_NotNow___init__ : L2.Binds K fd_NotNow___init__ ["self", "stands"] [] := L2.FunD.bindsN D_NotNow___init__ fun _ _ _ _ _ _ us hl => match us, hl with | [_, _], _ => rfl
  have hLow : ∀ base : PySem.Heap, LowAt PySem.Challenge.pw_hightries_k24_whole_each_alone w mg base G 2 (clOf cs) 9 := fun base => low_fact (x := "NotNow") gK rfl rfl D_NotNow___init__ bd_NotNow___init__ ck_low w0 w1 w2 w3 w4 (He.glo_ok X Gn (fact 33 (He.Fa.glo "NotNow") rfl))
  have cl_Stand : L2.Cls K (He.ga K "Stand") := He.cls_ok (fact 44 (He.Fa.cls "Stand") rfl)
  have cl_Meet : L2.Cls K (He.ga K "Meet") := He.cls_ok (fact 45 (He.Fa.cls "Meet") rfl)
  have hFd : ∀ p ∈ fdAll, L2.Cls G.K (G.cls p.1) ∧ L2.NoAttr G.K (G.cls p.1) (G.fld p.2) := list_cons (p := fun p : Nat × Nat => L2.Cls G.K (G.cls p.1) ∧ L2.NoAttr G.K (G.cls p.1) (G.fld p.2)) ⟨cl_Stand, He.noat_ok (fact 46 (He.Fa.noat "Stand" "rows") rfl)⟩ (list_cons (p := fun p : Nat × Nat => L2.Cls G.K (G.cls p.1) ∧ L2.NoAttr G.K (G.cls p.1) (G.fld p.2)) ⟨cl_Stand, He.noat_ok (fact 47 (He.Fa.noat "Stand" "state") rfl)⟩ (list_cons (p := fun p : Nat × Nat => L2.Cls G.K (G.cls p.1) ∧ L2.NoAttr G.K (G.cls p.1) (G.fld p.2)) ⟨cl_Stand, He.noat_ok (fact 48 (He.Fa.noat "Stand" "first") rfl)⟩ (list_cons (p := fun p : Nat × Nat => L2.Cls G.K (G.cls p.1) ∧ L2.NoAttr G.K (G.cls p.1) (G.fld p.2)) ⟨cl_Stand, He.noat_ok (fact 49 (He.Fa.noat "Stand" "jumps") rfl)⟩ (list_cons (p := fun p : Nat × Nat => L2.Cls G.K (G.cls p.1) ∧ L2.NoAttr G.K (G.cls p.1) (G.fld p.2)) ⟨cl_Stand, He.noat_ok (fact 50 (He.Fa.noat "Stand" "left") rfl)⟩ (list_cons (p := fun p : Nat × Nat => L2.Cls G.K (G.cls p.1) ∧ L2.NoAttr G.K (G.cls p.1) (G.fld p.2)) ⟨cl_Stand, He.noat_ok (fact 51 (He.Fa.noat "Stand" "height") rfl)⟩ (list_cons (p := fun p : Nat × Nat => L2.Cls G.K (G.cls p.1) ∧ L2.NoAttr G.K (G.cls p.1) (G.fld p.2)) ⟨cl_Stand, He.noat_ok (fact 52 (He.Fa.noat "Stand" "rounds") rfl)⟩ (list_cons (p := fun p : Nat × Nat => L2.Cls G.K (G.cls p.1) ∧ L2.NoAttr G.K (G.cls p.1) (G.fld p.2)) ⟨cl_Stand, He.noat_ok (fact 53 (He.Fa.noat "Stand" "deeds") rfl)⟩ (list_cons (p := fun p : Nat × Nat => L2.Cls G.K (G.cls p.1) ∧ L2.NoAttr G.K (G.cls p.1) (G.fld p.2)) ⟨cl_Meet, He.noat_ok (fact 54 (He.Fa.noat "Meet" "names") rfl)⟩ (list_cons (p := fun p : Nat × Nat => L2.Cls G.K (G.cls p.1) ∧ L2.NoAttr G.K (G.cls p.1) (G.fld p.2)) ⟨cl_Meet, He.noat_ok (fact 55 (He.Fa.noat "Meet" "heights") rfl)⟩ (list_cons (p := fun p : Nat × Nat => L2.Cls G.K (G.cls p.1) ∧ L2.NoAttr G.K (G.cls p.1) (G.fld p.2)) ⟨cl_Meet, He.noat_ok (fact 56 (He.Fa.noat "Meet" "step") rfl)⟩ (list_cons (p := fun p : Nat × Nat => L2.Cls G.K (G.cls p.1) ∧ L2.NoAttr G.K (G.cls p.1) (G.fld p.2)) ⟨cl_Meet, He.noat_ok (fact 57 (He.Fa.noat "Meet" "here") rfl)⟩ (list_cons (p := fun p : Nat × Nat => L2.Cls G.K (G.cls p.1) ∧ L2.NoAttr G.K (G.cls p.1) (G.fld p.2)) ⟨cl_Meet, He.noat_ok (fact 58 (He.Fa.noat "Meet" "done") rfl)⟩ (list_cons (p := fun p : Nat × Nat => L2.Cls G.K (G.cls p.1) ∧ L2.NoAttr G.K (G.cls p.1) (G.fld p.2)) ⟨cl_Meet, He.noat_ok (fact 59 (He.Fa.noat "Meet" "undone") rfl)⟩ list_nil)))))))))))))
  have esIn : ∀ i ∈ ([1, 2, 3, 5, 6, 7, 8, 10] : List Nat), i ∈ csX.map (fun q => q.1) := by decide
  have h__law_drawn : ∀ base : PySem.Heap, FnAt PySem.Challenge.pw_hightries_k24_whole_each_alone w mg base G 1 (fnN 3) fn__law_drawn := fun base => fn_at (G := G) D__law_drawn (He.glo_ok X Gn (fact 0 (He.Fa.glo "_law_drawn") rfl)) bd__law_drawn ck__law_drawn rfl (wd_of (nm := nm) (k := 0) inj fns_nil gls_nil free)
  have h__law_names : ∀ base : PySem.Heap, FnAt PySem.Challenge.pw_hightries_k24_whole_each_alone w mg base G 2 (fnN 33) fn__law_names := fun base => fn_at (G := G) D__law_names (He.glo_ok X Gn (fact 1 (He.Fa.glo "_law_names") rfl)) bd__law_names ck__law_names rfl (wd_of (nm := nm) (k := 1) inj (fns_cons (fn := nm.fn) (FnAt.mono (x := fnN 3) (h__law_drawn base) (by decide : 1 ≤ 1)) fns_nil) gls_nil free)
  have h__law_bars : ∀ base : PySem.Heap, FnAt PySem.Challenge.pw_hightries_k24_whole_each_alone w mg base G 2 (fnN 34) fn__law_bars := fun base => fn_at (G := G) D__law_bars (He.glo_ok X Gn (fact 2 (He.Fa.glo "_law_bars") rfl)) bd__law_bars ck__law_bars rfl (wd_of (nm := nm) (k := 1) inj (fns_cons (fn := nm.fn) (FnAt.mono (x := fnN 3) (h__law_drawn base) (by decide : 1 ≤ 1)) fns_nil) gls_nil free)
  have h_Meet_need_word : ∀ base : PySem.Heap, MtAt PySem.Challenge.pw_hightries_k24_whole_each_alone w mg base G 3 12 29 "need_word" fn_Meet_need_word := fun base => ⟨rfl, cl_Meet, _, fd_Meet_need_word, _, He.meth_ok (fact 60 (He.Fa.meth "Meet" "need_word") rfl), bd_Meet_need_word, fn_ok (G := G) D_Meet_need_word ck_Meet_need_word rfl (wd_ofZ (nm := nm) (k := 2) (es := [1, 2, 3, 5, 6, 7, 8, 10]) (low := [9]) inj hS hX fns_nil gls_nil free frs_nil hFd list_nil list_nil (list_cons (p := fun i => LowAt PySem.Challenge.pw_hightries_k24_whole_each_alone w mg base G 2 nm.cl i) ((hLow base).mono (by decide : 2 ≤ 2)) list_nil))⟩
  have k_Stand1 : ∀ base : PySem.Heap, MkAt PySem.Challenge.pw_hightries_k24_whole_each_alone w mg base G 2 11 "Stand" fn_Stand___init__ [] := fun base => ⟨(He.glo_ok X Gn (fact 34 (He.Fa.glo "Stand") rfl)), 1, _, fd_Stand___init__, _, [], [], rfl, (He.mkr_ok (fact 79 (He.Fa.mkr "Stand") rfl)), bd_Stand___init__, .nil, fun _ _ _ => .nil, fn_ok (G := G) D_Stand___init__ ck_Stand___init__ rfl (wd_ofZ (nm := nm) (k := 0) (es := []) (low := []) inj (fun _ h => nomatch h) (fun _ h => nomatch h) fns_nil gls_nil free frs_nil hFd list_nil list_nil (fun _ h => nomatch h))⟩
  have h_Stand_twin : ∀ base : PySem.Heap, MtAt PySem.Challenge.pw_hightries_k24_whole_each_alone w mg base G 3 11 42 "twin" fn_Stand_twin := fun base => ⟨rfl, cl_Stand, _, fd_Stand_twin, _, He.meth_ok (fact 61 (He.Fa.meth "Stand" "twin") rfl), bd_Stand_twin, fn_ok (G := G) D_Stand_twin ck_Stand_twin rfl (wd_ofZ (nm := nm) (k := 2) (es := []) (low := []) inj (fun _ h => nomatch h) (fun _ h => nomatch h) fns_nil gls_nil free frs_nil hFd list_nil (list_cons (p := fun q : Nat × Nat × Fn × List D => MkAt PySem.Challenge.pw_hightries_k24_whole_each_alone w mg base G 2 q.2.1 (nm.kn q.1) q.2.2.1 q.2.2.2) ((k_Stand1 base).mono (by decide : 2 ≤ 2)) list_nil) (fun _ h => nomatch h))⟩
  have h_misses_in : ∀ base : PySem.Heap, FnAt PySem.Challenge.pw_hightries_k24_whole_each_alone w mg base G 1 (fnN 4) fn_misses_in := fun base => fn_at (G := G) D_misses_in (He.glo_ok X Gn (fact 3 (He.Fa.glo "misses_in") rfl)) bd_misses_in ck_misses_in rfl (wd_of (nm := nm) (k := 0) inj fns_nil gls_nil free)
  have h_run_behind : ∀ base : PySem.Heap, FnAt PySem.Challenge.pw_hightries_k24_whole_each_alone w mg base G 2 (fnN 5) fn_run_behind := fun base => fn_at (G := G) D_run_behind (He.glo_ok X Gn (fact 4 (He.Fa.glo "run_behind") rfl)) bd_run_behind ck_run_behind rfl (wd_of (nm := nm) (k := 1) inj (fns_cons (fn := nm.fn) (FnAt.mono (x := fnN 4) (h_misses_in base) (by decide : 1 ≤ 1)) fns_nil) gls_nil free)
  have h_run_of : ∀ base : PySem.Heap, FnAt PySem.Challenge.pw_hightries_k24_whole_each_alone w mg base G 3 (fnN 6) fn_run_of := fun base => fn_at (G := G) D_run_of (He.glo_ok X Gn (fact 5 (He.Fa.glo "run_of") rfl)) bd_run_of ck_run_of rfl (wd_of (nm := nm) (k := 2) inj (fns_cons (fn := nm.fn) (FnAt.mono (x := fnN 5) (h_run_behind base) (by decide : 2 ≤ 2)) fns_nil) gls_nil free)
  have h_is_open : ∀ base : PySem.Heap, FnAt PySem.Challenge.pw_hightries_k24_whole_each_alone w mg base G 1 (fnN 1) fn_is_open := fun base => fn_at (G := G) D_is_open (He.glo_ok X Gn (fact 6 (He.Fa.glo "is_open") rfl)) bd_is_open ck_is_open rfl (wd_of (nm := nm) (k := 0) inj fns_nil gls_nil free)
  have h_Meet_todo : ∀ base : PySem.Heap, MtAt PySem.Challenge.pw_hightries_k24_whole_each_alone w mg base G 4 12 39 "todo" fn_Meet_todo := fun base => ⟨rfl, cl_Meet, _, fd_Meet_todo, _, He.meth_ok (fact 62 (He.Fa.meth "Meet" "todo") rfl), bd_Meet_todo, fn_ok (G := G) D_Meet_todo ck_Meet_todo rfl (wd_ofZ (nm := nm) (k := 3) (es := []) (low := []) inj (fun _ h => nomatch h) (fun _ h => nomatch h) (fns_cons (fn := nm.fn) (FnAt.mono (x := fnN 4) (h_misses_in base) (by decide : 1 ≤ 3)) (fns_cons (fn := nm.fn) (FnAt.mono (x := fnN 6) (h_run_of base) (by decide : 3 ≤ 3)) (fns_cons (fn := nm.fn) (FnAt.mono (x := fnN 1) (h_is_open base) (by decide : 1 ≤ 3)) fns_nil))) gls_nil free frs_nil hFd list_nil list_nil (fun _ h => nomatch h))⟩
  have h_Meet_staying : ∀ base : PySem.Heap, MtAt PySem.Challenge.pw_hightries_k24_whole_each_alone w mg base G 1 12 38 "staying" fn_Meet_staying := fun base => ⟨rfl, cl_Meet, _, fd_Meet_staying, _, He.meth_ok (fact 63 (He.Fa.meth "Meet" "staying") rfl), bd_Meet_staying, fn_ok (G := G) D_Meet_staying ck_Meet_staying rfl (wd_ofZ (nm := nm) (k := 0) (es := []) (low := []) inj (fun _ h => nomatch h) (fun _ h => nomatch h) fns_nil gls_nil free frs_nil hFd list_nil list_nil (fun _ h => nomatch h))⟩
  have h_Meet_following : ∀ base : PySem.Heap, MtAt PySem.Challenge.pw_hightries_k24_whole_each_alone w mg base G 5 12 22 "following" fn_Meet_following := fun base => ⟨rfl, cl_Meet, _, fd_Meet_following, _, He.meth_ok (fact 64 (He.Fa.meth "Meet" "following") rfl), bd_Meet_following, fn_ok (G := G) D_Meet_following ck_Meet_following rfl (wd_ofZ (nm := nm) (k := 4) (es := []) (low := []) inj (fun _ h => nomatch h) (fun _ h => nomatch h) fns_nil gls_nil free frs_nil hFd (list_cons (p := fun q : Nat × Nat × Nat × Fn => MtAt PySem.Challenge.pw_hightries_k24_whole_each_alone w mg base G 4 q.2.1 q.2.2.1 (nm.mn q.1) q.2.2.2) ((h_Meet_todo base).mono (by decide : 4 ≤ 4)) (list_cons (p := fun q : Nat × Nat × Nat × Fn => MtAt PySem.Challenge.pw_hightries_k24_whole_each_alone w mg base G 4 q.2.1 q.2.2.1 (nm.mn q.1) q.2.2.2) ((h_Meet_staying base).mono (by decide : 1 ≤ 4)) list_nil)) list_nil (fun _ h => nomatch h))⟩
  have h_Meet_turn_to : ∀ base : PySem.Heap, MtAt PySem.Challenge.pw_hightries_k24_whole_each_alone w mg base G 1 12 41 "turn_to" fn_Meet_turn_to := fun base => ⟨rfl, cl_Meet, _, fd_Meet_turn_to, _, He.meth_ok (fact 65 (He.Fa.meth "Meet" "turn_to") rfl), bd_Meet_turn_to, fn_ok (G := G) D_Meet_turn_to ck_Meet_turn_to rfl (wd_ofZ (nm := nm) (k := 0) (es := []) (low := []) inj (fun _ h => nomatch h) (fun _ h => nomatch h) fns_nil gls_nil free frs_nil hFd list_nil list_nil (fun _ h => nomatch h))⟩
  have h_is_mark : ∀ base : PySem.Heap, FnAt PySem.Challenge.pw_hightries_k24_whole_each_alone w mg base G 2 (fnN 2) fn_is_mark := fun base => fn_at (G := G) D_is_mark (He.glo_ok X Gn (fact 7 (He.Fa.glo "is_mark") rfl)) bd_is_mark ck_is_mark rfl (wd_of (nm := nm) (k := 1) inj (fns_cons (fn := nm.fn) (FnAt.mono (x := fnN 1) (h_is_open base) (by decide : 1 ≤ 1)) fns_nil) (gls_cons (fn := nm.gl) c_ENDS gls_nil) free)
  have h_is_row : ∀ base : PySem.Heap, FnAt PySem.Challenge.pw_hightries_k24_whole_each_alone w mg base G 4 (fnN 7) fn_is_row := fun base => fn_at (G := G) D_is_row (He.glo_ok X Gn (fact 8 (He.Fa.glo "is_row") rfl)) bd_is_row ck_is_row rfl (wd_of (nm := nm) (k := 3) inj (fns_cons (fn := nm.fn) (FnAt.mono (x := fnN 2) (h_is_mark base) (by decide : 2 ≤ 3)) (fns_cons (fn := nm.fn) (FnAt.mono (x := fnN 6) (h_run_of base) (by decide : 3 ≤ 3)) (fns_cons (fn := nm.fn) (FnAt.mono (x := fnN 4) (h_misses_in base) (by decide : 1 ≤ 3)) (fns_cons (fn := nm.fn) (FnAt.mono (x := fnN 1) (h_is_open base) (by decide : 1 ≤ 3)) (fns_cons (fn := nm.fn) (FnAt.mono (x := fnN 5) (h_run_behind base) (by decide : 2 ≤ 3)) fns_nil))))) (gls_cons (fn := nm.gl) c_MOST_BARS gls_nil) free)
  have h_need_rows : ∀ base : PySem.Heap, FnAt PySem.Challenge.pw_hightries_k24_whole_each_alone w mg base G 5 (fnN 23) fn_need_rows := fun base => fn_at (G := G) D_need_rows (He.glo_ok X Gn (fact 9 (He.Fa.glo "need_rows") rfl)) bd_need_rows ck_need_rows rfl (wd_ofX (nm := nm) (es := [1, 2, 3, 5, 6, 7, 8, 10]) (k := 4) inj (fun i hi j hj => hS i (esIn i hi) j (esIn j hj)) hX (fns_cons (fn := nm.fn) (FnAt.mono (x := fnN 7) (h_is_row base) (by decide : 4 ≤ 4)) fns_nil) gls_nil free)
  have h_need_row : ∀ base : PySem.Heap, FnAt PySem.Challenge.pw_hightries_k24_whole_each_alone w mg base G 5 (fnN 12) fn_need_row := fun base => fn_at (G := G) D_need_row (He.glo_ok X Gn (fact 10 (He.Fa.glo "need_row") rfl)) bd_need_row ck_need_row rfl (wd_ofX (nm := nm) (es := [1, 2, 3, 5, 6, 7, 8, 10]) (k := 4) inj (fun i hi j hj => hS i (esIn i hi) j (esIn j hj)) hX (fns_cons (fn := nm.fn) (FnAt.mono (x := fnN 7) (h_is_row base) (by decide : 4 ≤ 4)) fns_nil) gls_nil free)
  have h_best : ∀ base : PySem.Heap, FnAt PySem.Challenge.pw_hightries_k24_whole_each_alone w mg base G 6 (fnN 15) fn_best := fun base => fn_at (G := G) D_best (He.glo_ok X Gn (fact 11 (He.Fa.glo "best") rfl)) bd_best ck_best rfl (wd_of (nm := nm) (k := 5) inj (fns_cons (fn := nm.fn) (FnAt.mono (x := fnN 12) (h_need_row base) (by decide : 5 ≤ 5)) fns_nil) gls_nil free)
  have h_score : ∀ base : PySem.Heap, FnAt PySem.Challenge.pw_hightries_k24_whole_each_alone w mg base G 7 (fnN 16) fn_score := fun base => fn_at (G := G) D_score (He.glo_ok X Gn (fact 12 (He.Fa.glo "score") rfl)) bd_score ck_score rfl (wd_of (nm := nm) (k := 6) inj (fns_cons (fn := nm.fn) (FnAt.mono (x := fnN 15) (h_best base) (by decide : 6 ≤ 6)) (fns_cons (fn := nm.fn) (FnAt.mono (x := fnN 4) (h_misses_in base) (by decide : 1 ≤ 6)) fns_nil)) gls_nil free)
  have h_weight : ∀ base : PySem.Heap, FnAt PySem.Challenge.pw_hightries_k24_whole_each_alone w mg base G 8 (fnN 22) fn_weight := fun base => fn_at (G := G) D_weight (He.glo_ok X Gn (fact 13 (He.Fa.glo "weight") rfl)) bd_weight ck_weight rfl (wd_of (nm := nm) (k := 7) inj (fns_cons (fn := nm.fn) (FnAt.mono (x := fnN 16) (h_score base) (by decide : 7 ≤ 7)) fns_nil) gls_nil free)
  have hF_places : ∀ base : PySem.Heap, FnAtF PySem.Challenge.pw_hightries_k24_whole_each_alone w mg base G 9 (fnN 25) fn_places := fun base => fn_atF (G := G) D_places (He.glo_ok X Gn (fact 14 (He.Fa.glo "places") rfl)) bd_places ck_places rfl (wd_of (nm := nm) (k := 8) inj (fns_cons (fn := nm.fn) (FnAt.mono (x := fnN 23) (h_need_rows base) (by decide : 5 ≤ 8)) (fns_cons (fn := nm.fn) (FnAt.mono (x := fnN 22) (h_weight base) (by decide : 8 ≤ 8)) fns_nil)) gls_nil free)
  have h_places : ∀ base : PySem.Heap, FnAt PySem.Challenge.pw_hightries_k24_whole_each_alone w mg base G 9 (fnN 25) fn_places := fun base => (hF_places base).at
  have h_Meet_end_main : ∀ base : PySem.Heap, MtAt PySem.Challenge.pw_hightries_k24_whole_each_alone w mg base G 10 12 20 "end_main" fn_Meet_end_main := fun base => ⟨rfl, cl_Meet, _, fd_Meet_end_main, _, He.meth_ok (fact 66 (He.Fa.meth "Meet" "end_main") rfl), bd_Meet_end_main, fn_ok (G := G) D_Meet_end_main ck_Meet_end_main rfl (wd_ofZ (nm := nm) (k := 9) (es := []) (low := []) inj (fun _ h => nomatch h) (fun _ h => nomatch h) (fns_cons (fn := nm.fn) (FnAt.mono (x := fnN 25) (h_places base) (by decide : 9 ≤ 9)) (fns_cons (fn := nm.fn) (FnAt.mono (x := fnN 16) (h_score base) (by decide : 7 ≤ 9)) fns_nil)) gls_nil free frs_nil hFd list_nil list_nil (fun _ h => nomatch h))⟩
  have h_Meet_go_on : ∀ base : PySem.Heap, MtAt PySem.Challenge.pw_hightries_k24_whole_each_alone w mg base G 11 12 25 "go_on" fn_Meet_go_on := fun base => ⟨rfl, cl_Meet, _, fd_Meet_go_on, _, He.meth_ok (fact 67 (He.Fa.meth "Meet" "go_on") rfl), bd_Meet_go_on, fn_ok (G := G) D_Meet_go_on ck_Meet_go_on rfl (wd_ofZ (nm := nm) (k := 10) (es := []) (low := []) inj (fun _ h => nomatch h) (fun _ h => nomatch h) (fns_cons (fn := nm.fn) (FnAt.mono (x := fnN 6) (h_run_of base) (by decide : 3 ≤ 10)) fns_nil) gls_nil free frs_nil hFd (list_cons (p := fun q : Nat × Nat × Nat × Fn => MtAt PySem.Challenge.pw_hightries_k24_whole_each_alone w mg base G 10 q.2.1 q.2.2.1 (nm.mn q.1) q.2.2.2) ((h_Meet_todo base).mono (by decide : 4 ≤ 10)) (list_cons (p := fun q : Nat × Nat × Nat × Fn => MtAt PySem.Challenge.pw_hightries_k24_whole_each_alone w mg base G 10 q.2.1 q.2.2.1 (nm.mn q.1) q.2.2.2) ((h_Meet_end_main base).mono (by decide : 10 ≤ 10)) list_nil)) list_nil (fun _ h => nomatch h))⟩
  have h_Meet_end_round : ∀ base : PySem.Heap, MtAt PySem.Challenge.pw_hightries_k24_whole_each_alone w mg base G 2 12 21 "end_round" fn_Meet_end_round := fun base => ⟨rfl, cl_Meet, _, fd_Meet_end_round, _, He.meth_ok (fact 68 (He.Fa.meth "Meet" "end_round") rfl), bd_Meet_end_round, fn_ok (G := G) D_Meet_end_round ck_Meet_end_round rfl (wd_ofZ (nm := nm) (k := 1) (es := []) (low := []) inj (fun _ h => nomatch h) (fun _ h => nomatch h) fns_nil gls_nil free frs_nil hFd (list_cons (p := fun q : Nat × Nat × Nat × Fn => MtAt PySem.Challenge.pw_hightries_k24_whole_each_alone w mg base G 1 q.2.1 q.2.2.1 (nm.mn q.1) q.2.2.2) ((h_Meet_staying base).mono (by decide : 1 ≤ 1)) list_nil) list_nil (fun _ h => nomatch h))⟩
  have h_Meet_put : ∀ base : PySem.Heap, MtAt PySem.Challenge.pw_hightries_k24_whole_each_alone w mg base G 12 12 32 "put" fn_Meet_put := fun base => ⟨rfl, cl_Meet, _, fd_Meet_put, _, He.meth_ok (fact 69 (He.Fa.meth "Meet" "put") rfl), bd_Meet_put, fn_ok (G := G) D_Meet_put ck_Meet_put rfl (wd_ofZ (nm := nm) (k := 11) (es := []) (low := []) inj (fun _ h => nomatch h) (fun _ h => nomatch h) fns_nil gls_nil free frs_nil hFd (list_cons (p := fun q : Nat × Nat × Nat × Fn => MtAt PySem.Challenge.pw_hightries_k24_whole_each_alone w mg base G 11 q.2.1 q.2.2.1 (nm.mn q.1) q.2.2.2) ((h_Stand_twin base).mono (by decide : 3 ≤ 11)) (list_cons (p := fun q : Nat × Nat × Nat × Fn => MtAt PySem.Challenge.pw_hightries_k24_whole_each_alone w mg base G 11 q.2.1 q.2.2.1 (nm.mn q.1) q.2.2.2) ((h_Meet_following base).mono (by decide : 5 ≤ 11)) (list_cons (p := fun q : Nat × Nat × Nat × Fn => MtAt PySem.Challenge.pw_hightries_k24_whole_each_alone w mg base G 11 q.2.1 q.2.2.1 (nm.mn q.1) q.2.2.2) ((h_Meet_turn_to base).mono (by decide : 1 ≤ 11)) (list_cons (p := fun q : Nat × Nat × Nat × Fn => MtAt PySem.Challenge.pw_hightries_k24_whole_each_alone w mg base G 11 q.2.1 q.2.2.1 (nm.mn q.1) q.2.2.2) ((h_Meet_go_on base).mono (by decide : 11 ≤ 11)) (list_cons (p := fun q : Nat × Nat × Nat × Fn => MtAt PySem.Challenge.pw_hightries_k24_whole_each_alone w mg base G 11 q.2.1 q.2.2.1 (nm.mn q.1) q.2.2.2) ((h_Meet_end_round base).mono (by decide : 2 ≤ 11)) list_nil))))) list_nil (fun _ h => nomatch h))⟩
  have h_Meet_skip : ∀ base : PySem.Heap, MtAt PySem.Challenge.pw_hightries_k24_whole_each_alone w mg base G 13 12 37 "skip" fn_Meet_skip := fun base => ⟨rfl, cl_Meet, _, fd_Meet_skip, _, He.meth_ok (fact 70 (He.Fa.meth "Meet" "skip") rfl), bd_Meet_skip, fn_ok (G := G) D_Meet_skip ck_Meet_skip rfl (wd_ofZ (nm := nm) (k := 12) (es := []) (low := []) inj (fun _ h => nomatch h) (fun _ h => nomatch h) fns_nil gls_nil free frs_nil hFd (list_cons (p := fun q : Nat × Nat × Nat × Fn => MtAt PySem.Challenge.pw_hightries_k24_whole_each_alone w mg base G 12 q.2.1 q.2.2.1 (nm.mn q.1) q.2.2.2) ((h_Meet_need_word base).mono (by decide : 3 ≤ 12)) (list_cons (p := fun q : Nat × Nat × Nat × Fn => MtAt PySem.Challenge.pw_hightries_k24_whole_each_alone w mg base G 12 q.2.1 q.2.2.1 (nm.mn q.1) q.2.2.2) ((h_Meet_put base).mono (by decide : 12 ≤ 12)) list_nil)) list_nil (fun _ h => nomatch h))⟩
  have h_Meet_go_home : ∀ base : PySem.Heap, MtAt PySem.Challenge.pw_hightries_k24_whole_each_alone w mg base G 13 12 24 "go_home" fn_Meet_go_home := fun base => ⟨rfl, cl_Meet, _, fd_Meet_go_home, _, He.meth_ok (fact 71 (He.Fa.meth "Meet" "go_home") rfl), bd_Meet_go_home, fn_ok (G := G) D_Meet_go_home ck_Meet_go_home rfl (wd_ofZ (nm := nm) (k := 12) (es := []) (low := []) inj (fun _ h => nomatch h) (fun _ h => nomatch h) fns_nil gls_nil free frs_nil hFd (list_cons (p := fun q : Nat × Nat × Nat × Fn => MtAt PySem.Challenge.pw_hightries_k24_whole_each_alone w mg base G 12 q.2.1 q.2.2.1 (nm.mn q.1) q.2.2.2) ((h_Meet_need_word base).mono (by decide : 3 ≤ 12)) (list_cons (p := fun q : Nat × Nat × Nat × Fn => MtAt PySem.Challenge.pw_hightries_k24_whole_each_alone w mg base G 12 q.2.1 q.2.2.1 (nm.mn q.1) q.2.2.2) ((h_Meet_put base).mono (by decide : 12 ≤ 12)) list_nil)) list_nil (fun _ h => nomatch h))⟩
  have h_Meet_share : ∀ base : PySem.Heap, MtAt PySem.Challenge.pw_hightries_k24_whole_each_alone w mg base G 4 12 35 "share" fn_Meet_share := fun base => ⟨rfl, cl_Meet, _, fd_Meet_share, _, He.meth_ok (fact 72 (He.Fa.meth "Meet" "share") rfl), bd_Meet_share, fn_ok (G := G) D_Meet_share ck_Meet_share rfl (wd_ofZ (nm := nm) (k := 3) (es := []) (low := []) inj (fun _ h => nomatch h) (fun _ h => nomatch h) fns_nil gls_nil free frs_nil hFd (list_cons (p := fun q : Nat × Nat × Nat × Fn => MtAt PySem.Challenge.pw_hightries_k24_whole_each_alone w mg base G 3 q.2.1 q.2.2.1 (nm.mn q.1) q.2.2.2) ((h_Meet_need_word base).mono (by decide : 3 ≤ 3)) (list_cons (p := fun q : Nat × Nat × Nat × Fn => MtAt PySem.Challenge.pw_hightries_k24_whole_each_alone w mg base G 3 q.2.1 q.2.2.1 (nm.mn q.1) q.2.2.2) ((h_Stand_twin base).mono (by decide : 3 ≤ 3)) (list_cons (p := fun q : Nat × Nat × Nat × Fn => MtAt PySem.Challenge.pw_hightries_k24_whole_each_alone w mg base G 3 q.2.1 q.2.2.1 (nm.mn q.1) q.2.2.2) ((h_Meet_turn_to base).mono (by decide : 1 ≤ 3)) (list_cons (p := fun q : Nat × Nat × Nat × Fn => MtAt PySem.Challenge.pw_hightries_k24_whole_each_alone w mg base G 3 q.2.1 q.2.2.1 (nm.mn q.1) q.2.2.2) ((h_Meet_staying base).mono (by decide : 1 ≤ 3)) list_nil)))) list_nil (fun _ h => nomatch h))⟩
  have h_Meet_jump : ∀ base : PySem.Heap, MtAt PySem.Challenge.pw_hightries_k24_whole_each_alone w mg base G 13 12 26 "jump" fn_Meet_jump := fun base => ⟨rfl, cl_Meet, _, fd_Meet_jump, _, He.meth_ok (fact 73 (He.Fa.meth "Meet" "jump") rfl), bd_Meet_jump, fn_ok (G := G) D_Meet_jump ck_Meet_jump rfl (wd_ofZ (nm := nm) (k := 12) (es := [1, 2, 3, 5, 6, 7, 8, 10]) (low := []) inj (fun i hi j hj => hS i (esIn i (by simpa using hi)) j (esIn j (by simpa using hj))) hX fns_nil gls_nil free frs_nil hFd (list_cons (p := fun q : Nat × Nat × Nat × Fn => MtAt PySem.Challenge.pw_hightries_k24_whole_each_alone w mg base G 12 q.2.1 q.2.2.1 (nm.mn q.1) q.2.2.2) ((h_Meet_need_word base).mono (by decide : 3 ≤ 12)) (list_cons (p := fun q : Nat × Nat × Nat × Fn => MtAt PySem.Challenge.pw_hightries_k24_whole_each_alone w mg base G 12 q.2.1 q.2.2.1 (nm.mn q.1) q.2.2.2) ((h_Meet_put base).mono (by decide : 12 ≤ 12)) list_nil)) list_nil (fun _ h => nomatch h))⟩
  have h__law_done : ∀ base : PySem.Heap, FnAt PySem.Challenge.pw_hightries_k24_whole_each_alone w mg base G 14 (fnN 43) fn__law_done := fun base => fn_at (G := G) D__law_done (He.glo_ok X Gn (fact 15 (He.Fa.glo "_law_done") rfl)) bd__law_done ck__law_done rfl (wd_ofZ (nm := nm) (k := 13) (es := [1, 2, 3, 5, 6, 7, 8, 10]) (low := [9]) inj hS hX fns_nil gls_nil free frs_nil hFd (list_cons (p := fun q : Nat × Nat × Nat × Fn => MtAt PySem.Challenge.pw_hightries_k24_whole_each_alone w mg base G 13 q.2.1 q.2.2.1 (nm.mn q.1) q.2.2.2) ((h_Meet_skip base).mono (by decide : 13 ≤ 13)) (list_cons (p := fun q : Nat × Nat × Nat × Fn => MtAt PySem.Challenge.pw_hightries_k24_whole_each_alone w mg base G 13 q.2.1 q.2.2.1 (nm.mn q.1) q.2.2.2) ((h_Meet_go_home base).mono (by decide : 13 ≤ 13)) (list_cons (p := fun q : Nat × Nat × Nat × Fn => MtAt PySem.Challenge.pw_hightries_k24_whole_each_alone w mg base G 13 q.2.1 q.2.2.1 (nm.mn q.1) q.2.2.2) ((h_Meet_share base).mono (by decide : 4 ≤ 13)) (list_cons (p := fun q : Nat × Nat × Nat × Fn => MtAt PySem.Challenge.pw_hightries_k24_whole_each_alone w mg base G 13 q.2.1 q.2.2.1 (nm.mn q.1) q.2.2.2) ((h_Meet_jump base).mono (by decide : 13 ≤ 13)) list_nil)))) list_nil (list_cons (p := fun i => LowAt PySem.Challenge.pw_hightries_k24_whole_each_alone w mg base G 13 nm.cl i) ((hLow base).mono (by decide : 2 ≤ 13)) list_nil))
  have h_Meet_word : ∀ base : PySem.Heap, MtAt PySem.Challenge.pw_hightries_k24_whole_each_alone w mg base G 1 12 44 "word" fn_Meet_word := fun base => ⟨rfl, cl_Meet, _, fd_Meet_word, _, He.meth_ok (fact 74 (He.Fa.meth "Meet" "word") rfl), bd_Meet_word, fn_ok (G := G) D_Meet_word ck_Meet_word rfl (wd_ofZ (nm := nm) (k := 0) (es := []) (low := []) inj (fun _ h => nomatch h) (fun _ h => nomatch h) fns_nil gls_nil free frs_nil hFd list_nil list_nil (fun _ h => nomatch h))⟩
  have h_Meet_who : ∀ base : PySem.Heap, MtAt PySem.Challenge.pw_hightries_k24_whole_each_alone w mg base G 6 12 43 "who" fn_Meet_who := fun base => ⟨rfl, cl_Meet, _, fd_Meet_who, _, He.meth_ok (fact 75 (He.Fa.meth "Meet" "who") rfl), bd_Meet_who, fn_ok (G := G) D_Meet_who ck_Meet_who rfl (wd_ofZ (nm := nm) (k := 5) (es := []) (low := []) inj (fun _ h => nomatch h) (fun _ h => nomatch h) fns_nil gls_nil free frs_nil hFd (list_cons (p := fun q : Nat × Nat × Nat × Fn => MtAt PySem.Challenge.pw_hightries_k24_whole_each_alone w mg base G 5 q.2.1 q.2.2.1 (nm.mn q.1) q.2.2.2) ((h_Meet_following base).mono (by decide : 5 ≤ 5)) list_nil) list_nil (fun _ h => nomatch h))⟩
  have h_is_name : ∀ base : PySem.Heap, FnAt PySem.Challenge.pw_hightries_k24_whole_each_alone w mg base G 1 (fnN 29) fn_is_name := fun base => fn_at (G := G) D_is_name (He.glo_ok X Gn (fact 16 (He.Fa.glo "is_name") rfl)) bd_is_name ck_is_name rfl (wd_of (nm := nm) (k := 0) inj fns_nil (gls_cons (fn := nm.gl) c_LETTERS gls_nil) free)
  have h_Meet_need_name : ∀ base : PySem.Heap, MtAt PySem.Challenge.pw_hightries_k24_whole_each_alone w mg base G 2 12 28 "need_name" fn_Meet_need_name := fun base => ⟨rfl, cl_Meet, _, fd_Meet_need_name, _, He.meth_ok (fact 76 (He.Fa.meth "Meet" "need_name") rfl), bd_Meet_need_name, fn_ok (G := G) D_Meet_need_name ck_Meet_need_name rfl (wd_ofZ (nm := nm) (k := 1) (es := [1, 2, 3, 5, 6, 7, 8, 10]) (low := []) inj (fun i hi j hj => hS i (esIn i (by simpa using hi)) j (esIn j (by simpa using hj))) hX (fns_cons (fn := nm.fn) (FnAt.mono (x := fnN 29) (h_is_name base) (by decide : 1 ≤ 1)) fns_nil) gls_nil free frs_nil hFd list_nil list_nil (fun _ h => nomatch h))⟩
  have h_Meet_row : ∀ base : PySem.Heap, MtAt PySem.Challenge.pw_hightries_k24_whole_each_alone w mg base G 3 12 34 "row" fn_Meet_row := fun base => ⟨rfl, cl_Meet, _, fd_Meet_row, _, He.meth_ok (fact 77 (He.Fa.meth "Meet" "row") rfl), bd_Meet_row, fn_ok (G := G) D_Meet_row ck_Meet_row rfl (wd_ofZ (nm := nm) (k := 2) (es := []) (low := []) inj (fun _ h => nomatch h) (fun _ h => nomatch h) fns_nil gls_nil free frs_nil hFd (list_cons (p := fun q : Nat × Nat × Nat × Fn => MtAt PySem.Challenge.pw_hightries_k24_whole_each_alone w mg base G 2 q.2.1 q.2.2.1 (nm.mn q.1) q.2.2.2) ((h_Meet_need_name base).mono (by decide : 2 ≤ 2)) list_nil) list_nil (fun _ h => nomatch h))⟩
  have h_need_names : ∀ base : PySem.Heap, FnAt PySem.Challenge.pw_hightries_k24_whole_each_alone w mg base G 2 (fnN 30) fn_need_names := fun base => fn_at (G := G) D_need_names (He.glo_ok X Gn (fact 17 (He.Fa.glo "need_names") rfl)) bd_need_names ck_need_names rfl (wd_ofX (nm := nm) (es := [1, 2, 3, 5, 6, 7, 8, 10]) (k := 1) inj (fun i hi j hj => hS i (esIn i hi) j (esIn j hj)) hX (fns_cons (fn := nm.fn) (FnAt.mono (x := fnN 29) (h_is_name base) (by decide : 1 ≤ 1)) fns_nil) gls_nil free)
  have h_is_number : ∀ base : PySem.Heap, FnAt PySem.Challenge.pw_hightries_k24_whole_each_alone w mg base G 1 (fnN 11) fn_is_number := fun base => fn_at (G := G) D_is_number (He.glo_ok X Gn (fact 18 (He.Fa.glo "is_number") rfl)) bd_is_number ck_is_number rfl (wd_of (nm := nm) (k := 0) inj fns_nil gls_nil free)
  have h_is_bars : ∀ base : PySem.Heap, FnAt PySem.Challenge.pw_hightries_k24_whole_each_alone w mg base G 2 (fnN 31) fn_is_bars := fun base => fn_at (G := G) D_is_bars (He.glo_ok X Gn (fact 19 (He.Fa.glo "is_bars") rfl)) bd_is_bars ck_is_bars rfl (wd_of (nm := nm) (k := 1) inj (fns_cons (fn := nm.fn) (FnAt.mono (x := fnN 11) (h_is_number base) (by decide : 1 ≤ 1)) fns_nil) (gls_cons (fn := nm.gl) c_MOST_BARS gls_nil) free)
  have h_need_bars : ∀ base : PySem.Heap, FnAt PySem.Challenge.pw_hightries_k24_whole_each_alone w mg base G 3 (fnN 32) fn_need_bars := fun base => fn_at (G := G) D_need_bars (He.glo_ok X Gn (fact 20 (He.Fa.glo "need_bars") rfl)) bd_need_bars ck_need_bars rfl (wd_ofX (nm := nm) (es := [1, 2, 3, 5, 6, 7, 8, 10]) (k := 2) inj (fun i hi j hj => hS i (esIn i hi) j (esIn j hj)) hX (fns_cons (fn := nm.fn) (FnAt.mono (x := fnN 31) (h_is_bars base) (by decide : 2 ≤ 2)) fns_nil) gls_nil free)
  obtain ⟨ds3, dv3, db3⟩ := L2.FunD.binds1 (ps := ["self", "names", "bars", "rise"]) D_Meet___init__ 4 1 (by intro z; cases z) rfl fun _ _ _ _ _ _ _ us its hl hi => match us, hl, its, hi with | [_, _, _, _], _, [_], _ => ⟨_, rfl, rfl⟩
  have k_Meet3 : ∀ base : PySem.Heap, MkAt PySem.Challenge.pw_hightries_k24_whole_each_alone w mg base G 5 12 "Meet" fn_Meet___init__ [] := fun base => ⟨(He.glo_ok X Gn (fact 35 (He.Fa.glo "Meet") rfl)), 4, _, fd_Meet___init__, _, [], ds3, rfl, (He.mkr_ok (fact 78 (He.Fa.mkr "Meet") rfl)), db3, dv3, fun _ _ _ => .nil, fn_ok (G := G) D_Meet___init__ ck_Meet___init__ rfl (wd_ofZ (nm := nm) (k := 3) (es := [1, 2, 3, 5, 6, 7, 8, 10]) (low := []) inj (fun i hi j hj => hS i (esIn i (by simpa using hi)) j (esIn j (by simpa using hj))) hX (fns_cons (fn := nm.fn) (FnAt.mono (x := fnN 30) (h_need_names base) (by decide : 2 ≤ 3)) (fns_cons (fn := nm.fn) (FnAt.mono (x := fnN 32) (h_need_bars base) (by decide : 3 ≤ 3)) (fns_cons (fn := nm.fn) (FnAt.mono (x := fnN 11) (h_is_number base) (by decide : 1 ≤ 3)) fns_nil))) gls_nil free frs_nil hFd list_nil (list_cons (p := fun q : Nat × Nat × Fn × List D => MkAt PySem.Challenge.pw_hightries_k24_whole_each_alone w mg base G 3 q.2.1 (nm.kn q.1) q.2.2.1 q.2.2.2) ((k_Stand1 base).mono (by decide : 2 ≤ 3)) list_nil) (fun _ h => nomatch h))⟩
  have h__law_through : ∀ base : PySem.Heap, FnAt PySem.Challenge.pw_hightries_k24_whole_each_alone w mg base G 15 (fnN 51) fn__law_through := fun base => fn_at (G := G) D__law_through (He.glo_ok X Gn (fact 21 (He.Fa.glo "_law_through") rfl)) bd__law_through ck__law_through rfl (wd_ofZ (nm := nm) (k := 14) (es := []) (low := []) inj (fun _ h => nomatch h) (fun _ h => nomatch h) (fns_cons (fn := nm.fn) (FnAt.mono (x := fnN 3) (h__law_drawn base) (by decide : 1 ≤ 14)) (fns_cons (fn := nm.fn) (FnAt.mono (x := fnN 43) (h__law_done base) (by decide : 14 ≤ 14)) fns_nil)) gls_nil free frs_nil hFd (list_cons (p := fun q : Nat × Nat × Nat × Fn => MtAt PySem.Challenge.pw_hightries_k24_whole_each_alone w mg base G 14 q.2.1 q.2.2.1 (nm.mn q.1) q.2.2.2) ((h_Meet_word base).mono (by decide : 1 ≤ 14)) (list_cons (p := fun q : Nat × Nat × Nat × Fn => MtAt PySem.Challenge.pw_hightries_k24_whole_each_alone w mg base G 14 q.2.1 q.2.2.1 (nm.mn q.1) q.2.2.2) ((h_Meet_who base).mono (by decide : 6 ≤ 14)) (list_cons (p := fun q : Nat × Nat × Nat × Fn => MtAt PySem.Challenge.pw_hightries_k24_whole_each_alone w mg base G 14 q.2.1 q.2.2.1 (nm.mn q.1) q.2.2.2) ((h_Meet_row base).mono (by decide : 3 ≤ 14)) list_nil))) (list_cons (p := fun q : Nat × Nat × Fn × List D => MkAt PySem.Challenge.pw_hightries_k24_whole_each_alone w mg base G 14 q.2.1 (nm.kn q.1) q.2.2.1 q.2.2.2) ((k_Meet3 base).mono (by decide : 5 ≤ 14)) list_nil) (fun _ h => nomatch h))
  have h_is_better : ∀ base : PySem.Heap, FnAt PySem.Challenge.pw_hightries_k24_whole_each_alone w mg base G 9 (fnN 24) fn_is_better := fun base => fn_at (G := G) D_is_better (He.glo_ok X Gn (fact 22 (He.Fa.glo "is_better") rfl)) bd_is_better ck_is_better rfl (wd_of (nm := nm) (k := 8) inj (fns_cons (fn := nm.fn) (FnAt.mono (x := fnN 23) (h_need_rows base) (by decide : 5 ≤ 8)) (fns_cons (fn := nm.fn) (FnAt.mono (x := fnN 22) (h_weight base) (by decide : 8 ≤ 8)) fns_nil)) gls_nil free)
  have e := hfa.symm.trans (He.glo_ok X Gn (fact 23 (He.Fa.glo "law") rfl))
  cases e
  have bL := L2.FunD.bindsA (ps := ["script"]) D_law fun _ _ _ _ _ _ us hl => match us, hl with | [_], _ => rfl
  exact ⟨fd_law, fun s v => bL s [v] rfl, fun base _ _ => fn_ok (G := G) D_law ck_law rfl (wd_of (nm := nm) (k := 15) inj (fns_cons (fn := nm.fn) (FnAt.mono (x := fnN 33) (h__law_names base) (by decide : 2 ≤ 15)) (fns_cons (fn := nm.fn) (FnAt.mono (x := fnN 34) (h__law_bars base) (by decide : 2 ≤ 15)) (fns_cons (fn := nm.fn) (FnAt.mono (x := fnN 3) (h__law_drawn base) (by decide : 1 ≤ 15)) (fns_cons (fn := nm.fn) (FnAt.mono (x := fnN 51) (h__law_through base) (by decide : 15 ≤ 15)) (fns_cons (fn := nm.fn) (FnAt.mono (x := fnN 24) (h_is_better base) (by decide : 9 ≤ 15)) fns_nil))))) gls_nil free)⟩
end Lw
open PySem PySem.W PySem.Calls PyProof.Rows
theorem PySem.Challenge.cw_hightries_k24_whole_each_alone_holds : PySem.Challenge.rw_hightries_k24_whole_each_alone.Holds := by
  w_on; o_law
  refine HandSHeadRun.head_any (r := OpenLaw.row PySem.Challenge.rw_hightries_k24_whole_each_alone) (q := view (OpenLaw.row PySem.Challenge.rw_hightries_k24_whole_each_alone).prog [43]) (H := Lw.hk) (ob := Lw.ob) (M := 20000) (loose := Lw.names) (d := HandSHeadRun.topDef (OpenLaw.row PySem.Challenge.rw_hightries_k24_whole_each_alone).prog 43) (kwd := []) Lw.ob_eq
    (by kernel_rfl) (fun s => by kernel_rfl) Lw.run (by kernel_rfl) (by kernel_rfl) (by kernel_rfl) (by rfl) (by first | assumption | decide +kernel) (by decide +kernel) ⟨rfl, rfl, rfl, rfl, rfl, by decide +kernel⟩ ?hw ?hc
  case hw => w_witness2
  case hc =>
    refine Mi.walk_ofW (l := PySem.Challenge.rw_hightries_k24_whole_each_alone) (n := 63) (k := 16) (x := "script") rfl (by decide) (by kernel_rfl) ⟨rfl, by decide, by decide⟩ ?F
    intro w mg fa h Y Gn hmg0
    obtain ⟨K, KX, c⟩ := Y
    have hmg : mg ("law" : PySem.Str) = some (.ref fa) := by
      have e : (HandSHeadRun.topDef (OpenLaw.row PySem.Challenge.rw_hightries_k24_whole_each_alone).prog 43).name = ("law" : PySem.Str) := by kernel_rfl
      rw [← e]
      exact hmg0
    obtain ⟨fd, hb, hF⟩ := Lw.facts (w := w) KX Gn hmg c.t.d c.more
    exact ⟨Lw.gx K, Lw.fn_law, fd, KX, fun ns hn => Lw.law_true ns hn, hb, hF⟩
