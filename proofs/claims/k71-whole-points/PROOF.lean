import PyProof.Rows.All
import PyProof.TableCode
import Wide.All
import OpenK.AllK
import Wide.FinOn
import KE.KStateDown
import Lean
import HandS.ForMost
import HandS.ForExc
import HandS.More
import HandS.Defaults
import HandS.Walk
import HandS.Zip
import HandS.Wide
import HandS.Style
import HandS.IsInst
import HandS.TupLe
import HandS.TupAny
import HandS.Deep
import HandS.Codes
import HandS.Head0
import HandS.Head1
import HandS.Head2
import HandS.HeadEnd
import HandS.HeadHook1
import HandS.HeadHook2
import HandS.HeadHook3
import HandS.HeadHook4
import HandS.SortInts
import HandS.SortRule
import HandS.SetFor
import HandS.Strs
import HandS.Sort
import KE.GoesZip
import KE.KDictItemsList
import KE.GoesEnum
import HandS.ExcValue
import HandS.Conv
import HandS.ReplaceLit
import HandS.ReplaceDef
import HandS.ReplaceList
import HandS.Exc
import HandS.ExcOwn
import HandS.ExcIs
import PySem.Challenge.RW_hightries_k71_whole_points
set_option Elab.async false
set_option linter.all false
set_option maxRecDepth 100000
set_option maxHeartbeats 4000000
/-! Mini: a small language over plain data, and its interpreter. -/
namespace Mi

/-- plain data; obj: a thing of the store -/
inductive D where
  | non | bl (b : Bool) | int (i : Int) | str (s : List Nat) | lst (xs : List D) | tup (xs : List D) | obj (n : Nat) | scr (ns : List Int)

/-- Python's == on data -/
def deq : D → D → Bool
  | .non, .non => true
  | .bl a, .bl b => a == b
  | .bl a, .int j => (if a then (1 : Int) else 0) == j
  | .int i, .bl b => i == (if b then (1 : Int) else 0)
  | .int i, .int j => i == j
  | .str x, .str y => x == y
  | .lst xs, .lst ys => deqs xs ys
  | .tup xs, .tup ys => deqs xs ys
  | _, _ => false
where deqs : List D → List D → Bool
  | [], [] => true
  | x :: xs, y :: ys => deq x y && deqs xs ys
  | _, _ => false
/-- no thing of the store in it, at most n deep -/
def pl : Nat → D → Bool
  | 0, _ => false
  | _, .obj _ => false
  | _, .scr _ => false
  | n + 1, .lst xs => xs.all (pl n)
  | n + 1, .tup xs => xs.all (pl n)
  | _ + 1, _ => true

inductive Cell where
  | ins (C : Nat) (fs : List (Nat × D))
  | dic (kvs : List (List Nat × D))
abbrev Sto := List Cell
structure Xc where
  cls : Nat
  arg : Option D
inductive R (α : Type) where
  | ok (a : α) (S : Sto)
  | xc (x : Xc) (S : Sto)
  | no
def R.bind {α β : Type} (r : R α) (f : α → Sto → R β) : R β := match r with
  | .ok a S => f a S
  | .xc x S => .xc x S
  | .no => .no
@[simp] theorem R.bind_ok {α β : Type} (a : α) (S : Sto) (f : α → Sto → R β) : (R.ok a S).bind f = f a S := Eq.trans rfl rfl
@[simp] theorem R.bind_xc {α β : Type} (x : Xc) (S : Sto) (f : α → Sto → R β) : (R.xc x S).bind f = .xc x S := Eq.trans rfl rfl
theorem R.bind_assoc {α β γ : Type} (r : R α) (f : α → Sto → R β) (g : β → Sto → R γ) : (r.bind f).bind g = r.bind fun a S => (f a S).bind g := by cases r <;> rfl
@[simp] theorem R.bind_no {α β : Type} (f : α → Sto → R β) : (R.no).bind f = .no := Eq.trans rfl rfl
def lift (o : Option D) (S : Sto) : R D := match o with
  | some d => .ok d S
  | none => .no
@[simp] theorem lift_some (d : D) (S : Sto) : lift (some d) S = .ok d S := Eq.trans rfl rfl
@[simp] theorem lift_none (S : Sto) : lift none S = .no := Eq.trans rfl rfl

inductive Slot where
  | emp | val (d : D) | own (ds : List D) | err
abbrev Env := List Slot
abbrev Fn := List D → Sto → R D
/-- the defs and the constants of the module; sub: is the one class below the other; exc: which may be raised with a text; err: the caught one -/
structure Fns where
  fn : Nat → Option Fn
  gl : Nat → Option D
  sub : Nat → Nat → Option Bool
  exc : Nat → Bool
  err : Option Xc
  fr : Nat → Option Fn
/-- in an except suite -/
def Fns.hot (F : Fns) (x : Xc) : Fns := { F with fn := fun _ => none, exc := fun _ => false, err := some x, fr := fun _ => none }

/-! ### operations on data -/
/-- the greatest length -/
def lim : Nat := 1000000
inductive O2 where
  | add | sub | mul | fdv | mod | pow | eq | ne | lt | le | gt | ge | isin | nin | iss | isn
deriving DecidableEq
/-- < of tuples of intsD -/
def lexLt : List Int → List Int → Bool
  | [], [] => false
  | [], _ :: _ => true
  | _ :: _, [] => false
  | a :: x, b :: y => if a = b then lexLt x y else decide (a < b)
def intsD : List D → Option (List Int)
  | [] => some []
  | .int i :: r => (intsD r).map (i :: ·)
  | _ => none
def boolsD : List D → Option (List Bool)
  | [] => some []
  | .bl i :: r => (boolsD r).map (i :: ·)
  | _ => none
def strsD : List D → Option (List (List Nat))
  | [] => some []
  | .str i :: r => (strsD r).map (i :: ·)
  | _ => none
/-- t stands somewhere in s -/
def subIn (t : List Nat) : List Nat → Bool
  | [] => t.isEmpty
  | c :: s => t.isPrefixOf (c :: s) || subIn t s
def flat : D → Bool
  | .non => true | .bl _ => true | .int _ => true | .str _ => true | _ => false
def wideOk (i : Int) : Bool := decide (i.natAbs.log2 < 1100000)
def eqO (a b : D) : Option Bool := match a, b with
  | .scr ns, .lst [] => some ns.isEmpty
  | a, b => if pl 20 a = true ∧ pl 20 b = true then some (deq a b) else none
def inO (a b : D) : Option Bool := match b with
  | .lst b => if flat a = true ∧ b.all flat = true then some (b.any fun y => deq y a) else none
  | .tup b => if flat a = true ∧ b.all flat = true then some (b.any fun y => deq y a) else none
  | .str b => match a with
    | .str [c] => some (decide (c ∈ b))
    | _ => none
  | _ => none
def isNon : D → Bool
  | .non => true
  | _ => false
def isO (a b : D) : Option Bool := match b with
  | .non => some (isNon a)
  | .bl b => match a with
    | .bl a => some (decide (a = b))
    | .non => some false
    | .int _ => some false
    | .str _ => some false
    | .lst _ => some false
    | .tup _ => some false
    | _ => none
  | _ => none
def op2 : O2 → D → D → Option D
  | .add, .int a, .int b => some (.int (a + b))
  | .add, .str a, .str b => if a.length + b.length ≤ lim then some (.str (a ++ b)) else none
  | .add, .lst a, .lst b => if a.length + b.length ≤ lim then some (.lst (a ++ b)) else none
  | .add, .tup a, .tup b => if a.length + b.length ≤ lim then some (.tup (a ++ b)) else none
  | .sub, .int a, .int b => some (.int (a - b))
  | .mul, .int a, .int b => if a.natAbs < 18446744073709551616 ∨ b.natAbs < 18446744073709551616 then some (.int (a * b)) else none
  | .mul, .str [c], .int b => if b ≤ 1000000 ∧ b.natAbs < 4611686018427387904 then some (.str (List.replicate b.toNat c)) else none
  | .mul, .lst a, .int b => if a.length * b.toNat ≤ lim ∧ b.natAbs < 4611686018427387904 then some (.lst (List.replicate b.toNat a).flatten) else none
  | .fdv, .int a, .int b => if 0 < b ∧ b.natAbs < 18446744073709551616 then some (.int (a / b)) else none
  | .mod, .int a, .int b => if 0 < b then some (.int (a % b)) else none
  | .pow, .int a, .int b => if 0 ≤ b ∧ b ≤ 1000000 ∧ a.natAbs < 18446744073709551616 then some (.int (a ^ b.toNat)) else none
  | .eq, a, b => (eqO a b).map D.bl
  | .ne, a, b => (eqO a b).map fun t => .bl (!t)
  | .lt, .int a, .int b => some (.bl (decide (a < b)))
  | .le, .int a, .int b => some (.bl (decide (a ≤ b)))
  | .gt, .int a, .int b => some (.bl (decide (b < a)))
  | .ge, .int a, .int b => some (.bl (decide (b ≤ a)))
  | .lt, .tup a, .tup b => match intsD a, intsD b with
    | some x, some y => some (.bl (lexLt x y))
    | _, _ => none
  | .gt, .tup a, .tup b => match intsD a, intsD b with
    | some x, some y => some (.bl (lexLt y x))
    | _, _ => none
  | .isin, a, b => (inO a b).map D.bl
  | .nin, a, b => (inO a b).map fun t => .bl (!t)
  | .iss, a, b => (isO a b).map D.bl
  | .isn, a, b => (isO a b).map fun t => .bl (!t)
  | _, _, _ => none

def ix (n : Nat) (i : Int) : Option Nat := if 0 ≤ i then (if i < n then some i.toNat else none) else (if -(n : Int) ≤ i then some (i + n).toNat else none)
def at_ {α : Type} (xs : List α) (i : Int) : Option α := (ix xs.length i).bind fun j => xs[j]?
def idx : D → D → Option D
  | .lst xs, .int i => at_ xs i
  | .tup xs, .int i => at_ xs i
  | .str xs, .int i => (at_ xs i).map fun c => .str [c]
  | .scr ns, .int i => (at_ ns i).map D.int
  | _, _ => none
/-- a slice's end -/
def sx (n d : Nat) : Option Int → Nat
  | none => d
  | some i => if i < 0 then (i + (n : Int)).toNat else min i.toNat n
def cut {α : Type} (xs : List α) (lo hi : Option Int) : List α := (xs.drop (sx xs.length 0 lo)).take (sx xs.length xs.length hi - sx xs.length 0 lo)
def slc : D → Option Int → Option Int → Option D
  | .lst xs, lo, hi => some (.lst (cut xs lo hi))
  | .tup xs, lo, hi => some (.tup (cut xs lo hi))
  | .str xs, lo, hi => some (.str (cut xs lo hi))
  | _, _, _ => none

/-- built-in functions of one argument -/
inductive B1 where
  | len | all | sum | list | tuple | str | int | sorted
deriving DecidableEq
/-- sorted ints, pairs -/
def insI (a : Int) : List Int → List Int
  | [] => [a]
  | b :: r => if a ≤ b then a :: b :: r else b :: insI a r
def sortI (l : List Int) : List Int := l.foldr insI []
def pairsD : List D → Option (List (Int × Int))
  | [] => some []
  | .tup [.int a, .int b] :: r => (pairsD r).map ((a, b) :: ·)
  | _ => none
def ltP2 (p q : Int × Int) : Bool := if p.1 = q.1 then decide (p.2 < q.2) else decide (p.1 < q.1)
def insP (a : Int × Int) : List (Int × Int) → List (Int × Int)
  | [] => [a]
  | b :: r => if ltP2 b a then b :: insP a r else a :: b :: r
def sortP (l : List (Int × Int)) : List (Int × Int) := l.foldr insP []
def pairD (p : Int × Int) : D := .tup [.int p.1, .int p.2]
def sortD (xs : List D) : Option D := match intsD xs with
  | some ns => some (.lst ((sortI ns).map D.int))
  | none => match pairsD xs with
    | some ps => some (.lst ((sortP ps).map pairD))
    | none => none
def digits (n : Nat) : List Nat := (Nat.toDigits 10 n).map Char.toNat
def b1 : B1 → D → Option D
  | .len, .lst xs => some (.int xs.length)
  | .len, .tup xs => some (.int xs.length)
  | .len, .scr xs => some (.int xs.length)
  | .len, .str xs => some (.int xs.length)
  | .all, .lst xs => (boolsD xs).map fun bs => .bl (bs.all id)
  | .sum, .lst xs => (intsD xs).map fun bs => .int bs.sum
  | .list, .lst xs => some (.lst xs)
  | .list, .tup xs => some (.lst xs)
  | .tuple, .lst xs => some (.tup xs)
  | .tuple, .tup xs => some (.tup xs)
  | .int, .bl b => some (.int (if b then 1 else 0))
  | .sorted, .lst xs => sortD xs
  | _, _ => none
def revD : D → Option D
  | .lst xs => some (.lst xs.reverse)
  | _ => none
/-- built-in functions of two arguments -/
inductive B2 where
  | max | min
deriving DecidableEq
def b2 : B2 → D → D → Option D
  | .max, .int a, .int b => some (.int (if b > a then b else a))
  | .min, .int a, .int b => some (.int (if b < a then b else a))
  | _, _, _ => none
/-- a text's, a list's methods of one argument -/
inductive M1 where
  | count | endswith | join
deriving DecidableEq
def cnt (c : Nat) (s : List Nat) : Nat := s.countP (· == c)
def joinL (sep : List Nat) : List (List Nat) → List Nat
  | [] => []
  | [x] => x
  | x :: y :: r => x ++ (sep ++ joinL sep (y :: r))
def m1 : M1 → D → D → Option D
  | .count, .str s, .str [c] => some (.int (cnt c s))
  | .endswith, .str s, .str [c] => some (.bl (s.getLast? == some c))
  | .join, .str s, .lst xs => match strsD xs with
    | some ys => if (ys.map List.length).sum + ys.length * s.length ≤ lim then some (.str (joinL s ys)) else none
    | none => none
  | _, _, _ => none
/-- methods of lists and tuples -/
inductive LM where
  | count | index | tindex
deriving DecidableEq
def firstAt (p : D → Bool) : List D → Nat → Option Nat
  | [], _ => none
  | x :: r, n => if p x then some n else firstAt p r (n + 1)
def lm : LM → D → D → Option D
  | .count, .lst xs, .int k => (intsD xs).map fun ns => .int (ns.count k : Nat)
  | .index, .lst xs, y => if flat y = true ∧ xs.all flat = true then (firstAt (fun z => deq z y) xs 0).map fun j => .int (j : Nat) else none
  | .tindex, .tup xs, .str y => match strsD xs with
    | some ys => (firstAt (fun z => deq z (.str y)) (ys.map D.str) 0).map fun j => .int (j : Nat)
    | none => none
  | _, _, _ => none
/-- the receiver's kind -/
def lmOk : LM → D → Bool
  | .count, .lst _ => true
  | .index, .lst _ => true
  | .tindex, .tup _ => true
  | _, _ => false
inductive Ty where
  | int | bool | str | list | tuple
deriving DecidableEq
/-- isinstance -/
def isA : D → Ty → Option Bool
  | .non, _ => some false
  | .bl _, .int => some true
  | .bl _, .bool => some true
  | .bl _, _ => some false
  | .int _, .int => some true
  | .int _, _ => some false
  | .str _, .str => some true
  | .str _, _ => some false
  | .lst _, .list => some true
  | .lst _, _ => some false
  | .tup _, .tuple => some true
  | .tup _, _ => some false
  | .obj _, _ => none
  | .scr _, _ => none

/-! ### the language -/
inductive Tg where
  | name (i : Nat)
  | pair (a b : Tg)
  | trip (a b c : Tg)
  | quad (a b c d : Tg)
deriving DecidableEq
mutual
inductive Ex where
  | var (i : Nat)
  | own (i : Nat)
  | cst (d : D)
  | glo (x : Nat)
  | op (o : O2) (a b : Ex)
  | chain (o o' : O2) (a b c : Ex)
  | neg (a : Ex)
  | nt (a : Ex)
  | and (a b : Ex)
  | or (a b : Ex)
  | ite (c a b : Ex)
  | lst (es : Exs)
  | tup (es : Exs)
  | idx (a i : Ex)
  | slc (a : Ex) (lo hi : Option Ex)
  | rev (a : Ex)
  | f1 (f : B1) (a : Ex)
  | f2 (f : B2) (a b : Ex)
  | meth (f : M1) (a b : Ex)
  | lmeth (f : LM) (a b : Ex)
  | nrng (a b c : Ex)
  | lzip (a b : Ex)
  | isi (a : Ex) (t : Ty)
  | isE (i C : Nat)
  | call (f : Nat) (es : Exs)
  | callO (f : Nat) (es : Exs)
  | comp (elt : Ex) (tg : Tg) (it : It) (vs : List Nat)
  | compIf (elt : Ex) (tg : Tg) (it : It) (c : Ex) (vs : List Nat)
inductive Exs where
  | nil
  | cons (e : Ex) (es : Exs)
inductive It where
  | seq (e : Ex)
  | enm (e : Ex)
  | zip (a b : Ex)
  | rng (e : Ex)
  | rng2 (a b : Ex)
end
/-- the slots forgotten -/
def wipe (ρ : Env) : List Nat → Env
  | [] => ρ
  | v :: vs => (wipe ρ vs).set v .emp
/-- lists that are still made, out of sight -/
def noOwn (ρ : Env) : Env := ρ.map fun
  | .own _ => .emp
  | x => x
/-- no caught one -/
def noErr (ρ : Env) : Env := ρ.map fun
  | .err => .emp
  | x => x
/-- targets -/
def bindT : Tg → D → Env → Option Env
  | .name i, d, ρ => some (ρ.set i (.val d))
  | .pair a b, .tup [x, y], ρ => (bindT a x ρ).bind fun ρ => bindT b y ρ
  | .trip a b c, .tup [x, y, z], ρ => (bindT a x ρ).bind fun ρ => (bindT b y ρ).bind fun ρ => bindT c z ρ
  | .quad a b c d, .tup [x, y, z, u], ρ => (bindT a x ρ).bind fun ρ => (bindT b y ρ).bind fun ρ => (bindT c z ρ).bind fun ρ => bindT d u ρ
  | _, _, _ => none
/-- list(zip(x, y)) -/
def seqLT : D → Option (List D)
  | .lst xs => some xs
  | .tup xs => some xs
  | _ => none
def lzipD (x y : D) : Option D := match seqLT x, seqLT y with
  | some xs, some ys => some (.lst (xs.zipWith (fun a b => .tup [a, b]) ys))
  | _, _ => none
/-- what a walk gives -/
def enumD : Nat → List D → List D
  | _, [] => []
  | n, d :: ds => .tup [.int n, d] :: enumD (n + 1) ds
def seqD : D → Option (List D)
  | .lst xs => some xs
  | .tup xs => some xs
  | .str s => some (s.map fun c => .str [c])
  | _ => none
def zipD : D → D → Option (List D)
  | .lst xs, .lst ys => some (xs.zipWith (fun x y => .tup [x, y]) ys)
  | .tup xs, .tup ys => some (xs.zipWith (fun x y => .tup [x, y]) ys)
  | _, _ => none
def rngD (lo hi : Int) : Option (List D) :=
  if lo.natAbs < 4611686018427387904 ∧ hi.natAbs < 4611686018427387904 then some ((List.range (hi - lo).toNat).map fun i => .int (lo + (i : Nat))) else none
/-- a comprehension's turns; an item that is left out: none -/
def turns (f : D → Sto → R (Option D)) : List D → Sto → R (List D)
  | [], S => .ok [] S
  | d :: ds, S => (f d S).bind fun o S1 => (turns f ds S1).bind fun r S2 => .ok (o.toList ++ r) S2
def calmly {α : Type} (r : R α) : R α := match r with
  | .ok a S => .ok a S
  | _ => .no
@[simp] theorem calmly_ok {α : Type} (a : α) (S : Sto) : calmly (R.ok a S) = .ok a S := Eq.trans rfl rfl
def asB (d : D) (S : Sto) : R Bool := match d with
  | .bl b => .ok b S
  | _ => .no
@[simp] theorem asB_bl (b : Bool) (S : Sto) : asB (.bl b) S = .ok b S := Eq.trans rfl rfl
def asI (d : D) (S : Sto) : R (Option Int) := match d with
  | .int b => .ok (some b) S
  | _ => .no
@[simp] theorem asI_int (b : Int) (S : Sto) : asI (.int b) S = .ok (some b) S := Eq.trans rfl rfl
def asS (d : D) (S : Sto) : R D := match d with
  | .str b => .ok (.str b) S
  | _ => .no
@[simp] theorem asS_str (b : List Nat) (S : Sto) : asS (.str b) S = .ok (.str b) S := Eq.trans rfl rfl
def asL (o : Option (List D)) (S : Sto) : R (List D) := match o with
  | some d => .ok d S
  | none => .no
@[simp] theorem asL_some (b : List D) (S : Sto) : asL (some b) S = .ok b S := Eq.trans rfl rfl
def small (ds : List D) (S : Sto) : R (List D) := if ds.length ≤ lim then .ok ds S else .no
/-- nothing is in the store -/
def noSto {α : Type} (r : R α) : R α := match r with
  | .ok a [] => .ok a []
  | .xc ⟨c, none⟩ [] => .xc ⟨c, none⟩ []
  | _ => .no
@[simp] theorem noSto_ok {α : Type} (a : α) : noSto (R.ok a []) = .ok a [] := Eq.trans rfl rfl
mutual
def ev (F : Fns) : Ex → Env → Sto → R D
  | .var i, ρ, S => match ρ[i]? with
    | some (.val d) => .ok d S
    | _ => .no
  | .own i, ρ, S => match ρ[i]? with
    | some (.own ds) => .ok (.lst ds) S
    | _ => .no
  | .cst d, _, S => .ok d S
  | .glo x, _, S => lift (F.gl x) S
  | .op o a b, ρ, S => (ev F a ρ S).bind fun x S => (ev F b ρ S).bind fun y S => lift (op2 o x y) S
  | .chain o o' a b c, ρ, S => (ev F a ρ S).bind fun x S => (ev F b ρ S).bind fun y S => (lift (op2 o x y) S).bind fun z S => (asB z S).bind fun t S =>
      if t = true then (ev F c ρ S).bind fun w S => lift (op2 o' y w) S else .ok (.bl false) S
  | .neg a, ρ, S => (ev F a ρ S).bind fun x S => (asI x S).bind fun i S => match i with
    | some i => .ok (.int (-i)) S
    | none => .no
  | .nt a, ρ, S => (ev F a ρ S).bind fun x S => (asB x S).bind fun b S => .ok (.bl (!b)) S
  | .and a b, ρ, S => (ev F a ρ S).bind fun x S => (asB x S).bind fun t S => if t = true then ev F b ρ S else .ok (.bl false) S
  | .or a b, ρ, S => (ev F a ρ S).bind fun x S => (asB x S).bind fun t S => if t = true then .ok (.bl true) S else ev F b ρ S
  | .ite c a b, ρ, S => (ev F c ρ S).bind fun x S => (asB x S).bind fun t S => if t = true then ev F a ρ S else ev F b ρ S
  | .lst es, ρ, S => (evs F es ρ S).bind fun ds S => (small ds S).bind fun ds S => .ok (.lst ds) S
  | .tup es, ρ, S => (evs F es ρ S).bind fun ds S => (small ds S).bind fun ds S => .ok (.tup ds) S
  | .idx a i, ρ, S => (ev F a ρ S).bind fun x S => (ev F i ρ S).bind fun y S => lift (idx x y) S
  | .slc a none none, ρ, S => (ev F a ρ S).bind fun x S => lift (slc x none none) S
  | .slc a (some l) none, ρ, S => (ev F a ρ S).bind fun x S => (ev F l ρ S).bind fun l S => (asI l S).bind fun l S => lift (slc x l none) S
  | .slc a none (some h), ρ, S => (ev F a ρ S).bind fun x S => (ev F h ρ S).bind fun h S => (asI h S).bind fun h S => lift (slc x none h) S
  | .slc a (some l) (some h), ρ, S => (ev F a ρ S).bind fun x S => (ev F l ρ S).bind fun l S => (asI l S).bind fun l S => (ev F h ρ S).bind fun h S => (asI h S).bind fun h S => lift (slc x l h) S
  | .rev a, ρ, S => (ev F a ρ S).bind fun x S => lift (revD x) S
  | .f1 f a, ρ, S => (ev F a ρ S).bind fun x S => lift (b1 f x) S
  | .f2 f a b, ρ, S => (ev F a ρ S).bind fun x S => (ev F b ρ S).bind fun y S => lift (b2 f x y) S
  | .meth f a b, ρ, S => (ev F a ρ S).bind fun x S => (asS x S).bind fun x S => (ev F b ρ S).bind fun y S => lift (m1 f x y) S
  | .lmeth f a b, ρ, S => (ev F a ρ S).bind fun x S => if lmOk f x = true then (ev F b ρ S).bind fun y S => lift (lm f x y) S else .no
  | .nrng a b c, ρ, S => (ev F a ρ S).bind fun x S => (ev F b ρ S).bind fun y S => (ev F c ρ S).bind fun z S => match x, y, z with
    | .int i, .int j, .int k => .ok (.bl (!decide (j ≤ i ∧ i < k))) S
    | _, _, _ => .no
  | .lzip a b, ρ, S => (ev F a ρ S).bind fun x S => (ev F b ρ S).bind fun y S => lift (lzipD x y) S
  | .isi a t, ρ, S => (ev F a ρ S).bind fun x S => lift ((isA x t).map D.bl) S
  | .isE i C, ρ, S => match ρ[i]?, F.err with
    | some .err, some x => lift ((F.sub x.cls C).map D.bl) S
    | _, _ => .no
  | .call f es, ρ, S => match F.fn f with
    | some g => (evs F es ρ S).bind fun ds S => g ds S
    | none => .no
  | .callO f es, ρ, S => match F.fn f with
    | some g => (evs F es ρ S).bind fun ds S => noSto (g ds S)
    | none => .no
  | .comp e tg it vs, ρ, S => (evIt F it ρ S).bind fun ds S => (calmly (turns (fun d S => match bindT tg d (wipe (noOwn ρ) vs) with
      | some ρ1 => (ev F e ρ1 S).bind fun x S => .ok (some x) S
      | none => .no) ds S)).bind fun r S => (small r S).bind fun r S => .ok (.lst r) S
  | .compIf e tg it c vs, ρ, S => (evIt F it ρ S).bind fun ds S => (calmly (turns (fun d S => match bindT tg d (wipe (noOwn ρ) vs) with
      | some ρ1 => (ev F c ρ1 S).bind fun x S => (asB x S).bind fun t S => if t = true then (ev F e ρ1 S).bind fun x S => .ok (some x) S else .ok none S
      | none => .no) ds S)).bind fun r S => (small r S).bind fun r S => .ok (.lst r) S
def evs (F : Fns) : Exs → Env → Sto → R (List D)
  | .nil, _, S => .ok [] S
  | .cons e es, ρ, S => (ev F e ρ S).bind fun x S => (evs F es ρ S).bind fun r S => .ok (x :: r) S
def evIt (F : Fns) : It → Env → Sto → R (List D)
  | .seq e, ρ, S => (ev F e ρ S).bind fun x S => asL (seqD x) S
  | .enm e, ρ, S => (ev F e ρ S).bind fun x S => (asL (match x with | .lst xs => some xs | _ => none) S).bind fun xs S => .ok (enumD 0 xs) S
  | .zip a b, ρ, S => (ev F a ρ S).bind fun x S => (ev F b ρ S).bind fun y S => asL (zipD x y) S
  | .rng e, ρ, S => (ev F e ρ S).bind fun x S => match x with
    | .int j => asL (rngD 0 j) S
    | _ => .no
  | .rng2 a b, ρ, S => (ev F a ρ S).bind fun x S => (ev F b ρ S).bind fun y S => match x, y with
    | .int i, .int j => asL (rngD i j) S
    | _, _ => .no
end

mutual
inductive Sm where
  | asg (tg : Tg) (e : Ex)
  | new (i : Nat)
  | app (i : Nat) (e : Ex)
  | frz (i : Nat) (s : Sm)
  | cpy (i : Nat) (e : Ex)
  | thaw (i f : Nat) (es : Exs)
  | put (i : Nat) (j e : Ex)
  | par (i j : Nat) (a b : Ex)
  | retF (e : Ex)
  | ifs (c : Ex) (a b : Sms)
  | each (tg : Tg) (it : It) (b : Sms)
  | whl (c : Ex) (b : Sms)
  | ret (e : Ex)
  | expr (e : Ex)
  | rais (C : Nat)
  | tryE (b : Sms) (C i : Nat) (su : Sms)
  | nev
  | pass
inductive Sms where
  | nil
  | cons (s : Sm) (r : Sms)
end
inductive Ct where
  | nx (ρ : Env) | rt (d : D) | rtF (d : D) | br (ρ : Env) | xr (x : Xc) (ρ : Env)
/-- an expression within a statement -/
def R.then {α : Type} (r : R α) (ρ : Env) (k : α → Sto → R Ct) : R Ct := match r with
  | .ok a S => k a S
  | .xc x S => .ok (.xr x ρ) S
  | .no => .no
@[simp] theorem R.then_ok {α : Type} (a : α) (S : Sto) (ρ : Env) (k : α → Sto → R Ct) : (R.ok a S).then ρ k = k a S := Eq.trans rfl rfl
@[simp] theorem R.then_xc {α : Type} (x : Xc) (S : Sto) (ρ : Env) (k : α → Sto → R Ct) : (R.xc x S).then ρ k = .ok (.xr x ρ) S := Eq.trans rfl rfl
/-- one statement behind another -/
def R.next (r : R Ct) (k : Env → Sto → R Ct) : R Ct := match r with
  | .ok (.nx ρ) S => k ρ S
  | r => r
@[simp] theorem R.next_nx (ρ : Env) (S : Sto) (k : Env → Sto → R Ct) : (R.ok (.nx ρ) S).next k = k ρ S := Eq.trans rfl rfl
@[simp] theorem R.next_rt (d : D) (S : Sto) (k : Env → Sto → R Ct) : (R.ok (.rt d) S).next k = .ok (.rt d) S := Eq.trans rfl rfl
@[simp] theorem R.next_rtF (d : D) (S : Sto) (k : Env → Sto → R Ct) : (R.ok (.rtF d) S).next k = .ok (.rtF d) S := Eq.trans rfl rfl
@[simp] theorem R.next_xr (x : Xc) (ρ : Env) (S : Sto) (k : Env → Sto → R Ct) : (R.ok (.xr x ρ) S).next k = .ok (.xr x ρ) S := Eq.trans rfl rfl
/-- a loop's turn, then the rest -/
def R.turn (r : R Ct) (k : Env → Sto → R Ct) : R Ct := match r with
  | .ok (.nx ρ) S => k ρ S
  | .ok (.br ρ) S => .ok (.nx ρ) S
  | r => r
@[simp] theorem R.turn_nx (ρ : Env) (S : Sto) (k : Env → Sto → R Ct) : (R.ok (.nx ρ) S).turn k = k ρ S := Eq.trans rfl rfl
@[simp] theorem R.turn_rt (d : D) (S : Sto) (k : Env → Sto → R Ct) : (R.ok (.rt d) S).turn k = .ok (.rt d) S := Eq.trans rfl rfl
@[simp] theorem R.turn_rtF (d : D) (S : Sto) (k : Env → Sto → R Ct) : (R.ok (.rtF d) S).turn k = .ok (.rtF d) S := Eq.trans rfl rfl
def bound (o : Option Env) (k : Env → R Ct) : R Ct := match o with
  | some ρ => k ρ
  | none => .no
@[simp] theorem bound_some (ρ : Env) (k : Env → R Ct) : bound (some ρ) k = k ρ := Eq.trans rfl rfl
def loop (f : D → Env → Sto → R Ct) : List D → Env → Sto → R Ct
  | [], ρ, S => .ok (.nx ρ) S
  | d :: ds, ρ, S => (f d ρ S).turn fun ρ S => loop f ds ρ S
def whileF (c : Env → Sto → R Bool) (f : Env → Sto → R Ct) : Nat → Env → Sto → R Ct
  | 0, _, _ => .no
  | n + 1, ρ, S => (c ρ S).then ρ fun t S => if t = true then (f ρ S).turn fun ρ S => whileF c f n ρ S else .ok (.nx ρ) S
def fuel : Nat := 200
/-- an exception of the body -/
def R.caught (r : R Ct) (p : Xc → Option Bool) (k : Xc → Env → Sto → R Ct) : R Ct := match r with
  | .ok (.xr x ρ) S => match x.arg, p x with
    | none, some true => k x ρ S
    | _, some false => .ok (.xr x ρ) S
    | _, _ => .no
  | r => r
@[simp] theorem R.caught_nx (ρ : Env) (S : Sto) (p : Xc → Option Bool) (k : Xc → Env → Sto → R Ct) : (R.ok (.nx ρ) S).caught p k = .ok (.nx ρ) S := Eq.trans rfl rfl
@[simp] theorem R.caught_rt (d : D) (S : Sto) (p : Xc → Option Bool) (k : Xc → Env → Sto → R Ct) : (R.ok (.rt d) S).caught p k = .ok (.rt d) S := Eq.trans rfl rfl
/-- behind the suite -/
def R.cooled (r : R Ct) (i : Nat) : R Ct := match r with
  | .ok (.nx ρ) S => .ok (.nx ((noErr ρ).set i .emp)) S
  | .ok (.rt d) S => .ok (.rt d) S
  | _ => .no
@[simp] theorem R.cooled_nx (ρ : Env) (S : Sto) (i : Nat) : (R.ok (.nx ρ) S).cooled i = .ok (.nx ((noErr ρ).set i .emp)) S := Eq.trans rfl rfl
@[simp] theorem R.cooled_rt (d : D) (S : Sto) (i : Nat) : (R.ok (.rt d) S).cooled i = .ok (.rt d) S := Eq.trans rfl rfl
/-- a list of its own in a slot -/
def ownIn (i : Nat) (d : Option D) (ρ : Env) (S : Sto) : R Ct := match d with
  | some (.lst ds) => .ok (.nx (ρ.set i (.own ds))) S
  | _ => .no
@[simp] theorem ownIn_lst (i : Nat) (ds : List D) (ρ : Env) (S : Sto) : ownIn i (some (.lst ds)) ρ S = .ok (.nx (ρ.set i (.own ds))) S := Eq.trans rfl rfl
def putAt (i : Nat) (ds : List D) (v w : D) (ρ : Env) (S : Sto) : R Ct := match w with
  | .int n => if flat v = true then (match ix ds.length n with
    | some q => .ok (.nx (ρ.set i (.own (ds.set q v)))) S
    | none => .no) else .no
  | _ => .no
def retL (x : D) (S : Sto) : R Ct := match x with
  | .lst ds => .ok (.rtF (.lst ds)) S
  | _ => .no
@[simp] theorem retL_lst (ds : List D) (S : Sto) : retL (.lst ds) S = .ok (.rtF (.lst ds)) S := Eq.trans rfl rfl
mutual
def ex (F : Fns) : Sm → Env → Sto → R Ct
  | .asg tg e, ρ, S => (ev F e ρ S).then ρ fun x S => bound (bindT tg x ρ) fun ρ => .ok (.nx ρ) S
  | .new i, ρ, S => .ok (.nx (ρ.set i (.own []))) S
  | .app i e, ρ, S => match ρ[i]? with
    | some (.own ds) => (ev F e ρ S).then ρ fun x S => if ds.length < lim then .ok (.nx (ρ.set i (.own (ds ++ [x])))) S else .no
    | _ => .no
  | .frz i s, ρ, S => match ρ[i]? with
    | some (.own ds) => ex F s (ρ.set i (.val (.lst ds))) S
    | _ => .no
  | .cpy i e, ρ, S => (ev F e ρ S).then ρ fun x S => ownIn i (b1 .list x) ρ S
  | .thaw i f es, ρ, S => match F.fr f with
    | some g => ((evs F es ρ S).bind g).then ρ fun x S => ownIn i (some x) ρ S
    | none => .no
  | .put i j e, ρ, S => (ev F e ρ S).then ρ fun v S => match ρ[i]? with
    | some (.own ds) => (ev F j ρ S).then ρ fun w S => putAt i ds v w ρ S
    | _ => .no
  | .par i j a b, ρ, S => (ev F a ρ S).then ρ fun x S => (ev F b ρ S).then ρ fun y S => .ok (.nx ((ρ.set i (.val x)).set j (.val y))) S
  | .retF e, ρ, S => (ev F e ρ S).then ρ fun x S => retL x S
  | .ifs c a b, ρ, S => ((ev F c ρ S).bind asB).then ρ fun t S => if t = true then exs F a ρ S else exs F b ρ S
  | .each tg it b, ρ, S => (evIt F it ρ S).then ρ fun ds S => loop (fun d ρ S => bound (bindT tg d ρ) fun ρ => exs F b ρ S) ds ρ S
  | .whl c b, ρ, S => whileF (fun ρ S => (ev F c ρ S).bind asB) (fun ρ S => exs F b ρ S) fuel ρ S
  | .ret e, ρ, S => (ev F e ρ S).then ρ fun x S => .ok (.rt x) S
  | .expr e, ρ, S => (ev F e ρ S).then ρ fun _ S => .ok (.nx ρ) S
  | .rais C, ρ, S => if F.exc C = true then .ok (.xr ⟨C, none⟩ ρ) S else .no
  | .tryE b C i su, ρ, S => if F.exc C = true then (exs F b ρ S).caught (fun x => F.sub x.cls C) fun x ρ S => (exs (F.hot x) su ((noErr ρ).set i .err) S).cooled i else .no
  | .nev, _, _ => .no
  | .pass, ρ, S => .ok (.nx ρ) S
def exs (F : Fns) : Sms → Env → Sto → R Ct
  | .nil, ρ, S => .ok (.nx ρ) S
  | .cons s r, ρ, S => (ex F s ρ S).next fun ρ S => exs F r ρ S
end
/-- a def's end -/
def R.ends (r : R Ct) : R D := match r with
  | .ok (.nx _) S => .ok .non S
  | .ok (.rt d) S => .ok d S
  | .ok (.rtF d) S => .ok d S
  | .ok (.xr x _) S => .xc x S
  | _ => .no
@[simp] theorem R.ends_rtF (d : D) (S : Sto) : (R.ok (.rtF d) S).ends = .ok d S := Eq.trans rfl rfl
@[simp] theorem R.ends_xr (x : Xc) (ρ : Env) (S : Sto) : (R.ok (.xr x ρ) S).ends = .xc x S := Eq.trans rfl rfl
/-- .. that tells a list of its own -/
def R.endsF (r : R Ct) : R D := match r with
  | .ok (.rtF d) S => .ok d S
  | .ok (.xr x _) S => .xc x S
  | _ => .no
@[simp] theorem R.endsF_rtF (d : D) (S : Sto) : (R.ok (.rtF d) S).endsF = .ok d S := Eq.trans rfl rfl
@[simp] theorem R.endsF_xr (x : Xc) (ρ : Env) (S : Sto) : (R.ok (.xr x ρ) S).endsF = .xc x S := Eq.trans rfl rfl
@[simp] theorem R.ends_nx (ρ : Env) (S : Sto) : (R.ok (.nx ρ) S).ends = .ok .non S := Eq.trans rfl rfl
@[simp] theorem R.ends_rt (d : D) (S : Sto) : (R.ok (.rt d) S).ends = .ok d S := Eq.trans rfl rfl
/-- a def: so many parameters, so many names, its body -/
def fnOf (F : Fns) (np n : Nat) (b : Sms) : Fn := fun ds S =>
  if ds.length = np then (exs F b (ds.map .val ++ List.replicate (n - np) .emp) S).ends else .no
def fnOfF (F : Fns) (np n : Nat) (b : Sms) : Fn := fun ds S =>
  if ds.length = np then (exs F b (ds.map .val ++ List.replicate (n - np) .emp) S).endsF else .no
/-- tables -/
def tabY (l : List (Nat × Fn)) (g : List (Nat × D)) (es : List Nat) (fr : List (Nat × Fn)) : Fns := ⟨fun i => l.lookup i, fun i => g.lookup i, fun i j => if es.contains i && es.contains j then some (i == j || j == 1) else none, fun i => es.contains i, none, fun i => fr.lookup i⟩
def tabX (l : List (Nat × Fn)) (g : List (Nat × D)) (es : List Nat) : Fns := tabY l g es []
def tabOf (l : List (Nat × Fn)) (g : List (Nat × D)) : Fns := tabX l g []
/-- it is of x alone -/
def fnOpen : Fn := fun ds S => match ds with
  | [.str s] => if s.length ≤ lim then .ok (.bl (s.all (· == 120))) S else .no
  | _ => .no
end Mi
/-! Mini: sorting. -/
namespace Mi
/-! ### sorted -/
theorem insI_perm (a : Int) : ∀ l : List Int, (insI a l).Perm (a :: l)
  | [] => List.Perm.refl _
  | b :: r => by
    unfold insI
    split
    · exact List.Perm.refl _
    · exact ((insI_perm a r).cons b).trans (List.Perm.swap ..)
theorem insI_sorted (a : Int) : ∀ {l : List Int}, l.Pairwise (· ≤ ·) → (insI a l).Pairwise (· ≤ ·)
  | [], _ => List.pairwise_singleton _ _
  | b :: r, h => by
    obtain ⟨h1, h2⟩ := List.pairwise_cons.mp h
    unfold insI
    split
    · rename_i q
      exact List.pairwise_cons.mpr ⟨fun c hc => (List.mem_cons.mp hc).elim (fun z => z ▸ q) fun z => Int.le_trans q (h1 c z), h⟩
    · rename_i q
      refine List.pairwise_cons.mpr ⟨fun c hc => ?_, insI_sorted a h2⟩
      rcases List.mem_cons.mp ((insI_perm a r).mem_iff.mp hc) with z | z
      · rw [z]; omega
      · exact h1 c z
theorem sortI_perm : ∀ l : List Int, (sortI l).Perm l
  | [] => List.Perm.refl _
  | a :: l => (insI_perm a (sortI l)).trans ((sortI_perm l).cons a)
theorem sortI_sorted : ∀ l : List Int, (sortI l).Pairwise (· ≤ ·)
  | [] => List.Pairwise.nil
  | a :: l => insI_sorted a (sortI_sorted l)
theorem ltP2_iff {p q : Int × Int} : ltP2 p q = true ↔ p.1 < q.1 ∨ (p.1 = q.1 ∧ p.2 < q.2) := by
  unfold ltP2
  split
  · rename_i h
    simp [h]
  · rename_i h
    simp [h]
theorem ltP2_no {p q : Int × Int} : ltP2 p q = false ↔ ¬ (p.1 < q.1 ∨ (p.1 = q.1 ∧ p.2 < q.2)) := by
  rw [← ltP2_iff]
  simp
theorem insP_perm (a : Int × Int) : ∀ l : List (Int × Int), (insP a l).Perm (a :: l)
  | [] => List.Perm.refl _
  | b :: r => by
    unfold insP
    split
    · exact ((insP_perm a r).cons b).trans (List.Perm.swap ..)
    · exact List.Perm.refl _
def leP (p q : Int × Int) : Prop := ltP2 q p = false
theorem insP_sorted (a : Int × Int) : ∀ {l : List (Int × Int)}, l.Pairwise leP → (insP a l).Pairwise leP
  | [], _ => List.pairwise_singleton _ _
  | b :: r, h => by
    obtain ⟨h1, h2⟩ := List.pairwise_cons.mp h
    unfold insP
    split
    · rename_i q
      refine List.pairwise_cons.mpr ⟨fun c hc => ?_, insP_sorted a h2⟩
      rcases List.mem_cons.mp ((insP_perm a r).mem_iff.mp hc) with z | z
      · rw [z]
        have q := ltP2_iff.mp q
        exact ltP2_no.mpr (by omega)
      · exact h1 c z
    · rename_i q
      have q' : ltP2 b a = false := by simpa using q
      refine List.pairwise_cons.mpr ⟨fun c hc => ?_, h⟩
      rcases List.mem_cons.mp hc with z | z
      · rw [z]; exact q'
      · have := ltP2_no.mp q'
        have := ltP2_no.mp (h1 c z)
        exact ltP2_no.mpr (by omega)
theorem sortP_perm : ∀ l : List (Int × Int), (sortP l).Perm l
  | [] => List.Perm.refl _
  | a :: l => (insP_perm a (sortP l)).trans ((sortP_perm l).cons a)
theorem sortP_sorted : ∀ l : List (Int × Int), (sortP l).Pairwise leP
  | [] => List.Pairwise.nil
  | a :: l => insP_sorted a (sortP_sorted l)
theorem leP_anti {p q : Int × Int} (h1 : leP p q) (h2 : leP q p) : p = q := by
  have := ltP2_no.mp h1
  have := ltP2_no.mp h2
  exact Prod.ext (by omega) (by omega)
theorem uniq_sorted {α : Type} {R : α → α → Prop} (anti : ∀ {x y}, R x y → R y x → x = y) : ∀ {l m : List α}, l.Perm m → l.Pairwise R → m.Pairwise R → l = m
  | [], m, h, _, _ => by rw [List.nil_perm.mp h]
  | a :: l, [], h, _, _ => absurd h.length_eq (by simp)
  | a :: l, b :: m, h, h1, h2 => by
    obtain ⟨a1, a2⟩ := List.pairwise_cons.mp h1
    obtain ⟨b1, b2⟩ := List.pairwise_cons.mp h2
    have e : a = b := by
      rcases List.mem_cons.mp (h.mem_iff.mp (List.mem_cons_self ..)) with z | z
      · exact z
      · rcases List.mem_cons.mp (h.mem_iff.mpr (List.mem_cons_self ..)) with y | y
        · exact y.symm
        · exact anti (a1 b y) (b1 a z)
    subst e
    rw [uniq_sorted anti (List.Perm.cons_inv h) a2 b2]
end Mi
/-! Mini: for plain proofs. -/
namespace Mi
theorem mul_small {a b : Int} (h : 0 ≤ a ∧ a < 2147483648) : op2 .mul (.int a) (.int b) = some (.int (a * b)) := by
  have : a.natAbs < 18446744073709551616 := by omega
  show (if a.natAbs < 18446744073709551616 ∨ b.natAbs < 18446744073709551616 then some (D.int (a * b)) else none) = _
  rw [if_pos (.inl this)]
theorem mul_small' {a b : Int} (h : 0 ≤ b ∧ b < 2147483648) : op2 .mul (.int a) (.int b) = some (.int (a * b)) := by
  have : b.natAbs < 18446744073709551616 := by omega
  show (if a.natAbs < 18446744073709551616 ∨ b.natAbs < 18446744073709551616 then some (D.int (a * b)) else none) = _
  rw [if_pos (.inr this)]
theorem op_add {a b : Int} : op2 .add (.int a) (.int b) = some (.int (a + b)) := Eq.trans rfl rfl
theorem op_sub {a b : Int} : op2 .sub (.int a) (.int b) = some (.int (a - b)) := Eq.trans rfl rfl
theorem op_mod {a b : Int} (h : 0 < b) : op2 .mod (.int a) (.int b) = some (.int (a % b)) := by simp [op2, h]
theorem op_fdv {a b : Int} (h : 0 < b ∧ b < 2 ^ 64) : op2 .fdv (.int a) (.int b) = some (.int (a / b)) := by
  show (if 0 < b ∧ b.natAbs < 18446744073709551616 then some (D.int (a / b)) else none) = _
  rw [if_pos (by omega)]
theorem op_lt {a b : Int} : op2 .lt (.int a) (.int b) = some (.bl (decide (a < b))) := Eq.trans rfl rfl
theorem op_le {a b : Int} : op2 .le (.int a) (.int b) = some (.bl (decide (a ≤ b))) := Eq.trans rfl rfl
theorem op_gt {a b : Int} : op2 .gt (.int a) (.int b) = some (.bl (decide (b < a))) := Eq.trans rfl rfl
theorem op_ge {a b : Int} : op2 .ge (.int a) (.int b) = some (.bl (decide (b ≤ a))) := Eq.trans rfl rfl
theorem op_eq {a b : D} : op2 .eq a b = (eqO a b).map D.bl := by cases a <;> cases b <;> rfl
theorem op_ne {a b : D} : op2 .ne a b = (eqO a b).map fun t => .bl (!t) := by cases a <;> cases b <;> rfl
theorem op_in {a b : D} : op2 .isin a b = (inO a b).map D.bl := by cases a <;> cases b <;> rfl
theorem op_nin {a b : D} : op2 .nin a b = (inO a b).map fun t => .bl (!t) := by cases a <;> cases b <;> rfl
theorem op_is {a b : D} : op2 .iss a b = (isO a b).map D.bl := by cases a <;> cases b <;> rfl
theorem op_isn {a b : D} : op2 .isn a b = (isO a b).map fun t => .bl (!t) := by cases a <;> cases b <;> rfl
theorem small_ok {ds : List D} {S : Sto} (h : ds.length ≤ 1000000) : small ds S = .ok ds S := by
  unfold small
  rw [if_pos (by unfold lim; exact h)]
theorem turns_all {f : D → Sto → R (Option D)} {S : Sto} {P : D → Prop} : ∀ {ds : List D}, (∀ d ∈ ds, ∃ x, f d S = .ok (some x) S ∧ P x) → ∃ r, turns f ds S = .ok r S ∧ r.length = ds.length ∧ ∀ x ∈ r, P x
  | [], _ => ⟨[], rfl, rfl, fun _ h => nomatch h⟩
  | d :: ds, h => by
    obtain ⟨x, e, p⟩ := h d (List.mem_cons_self ..)
    obtain ⟨r, e2, l, q⟩ := turns_all (ds := ds) fun d h' => h d (List.mem_cons_of_mem _ h')
    refine ⟨x :: r, by rw [turns, e, R.bind_ok, e2]; rfl, by simp [l], fun y hy => ?_⟩
    rcases List.mem_cons.mp hy with rfl | hy
    · exact p
    · exact q y hy
theorem strs_of : ∀ {r : List D}, (∀ x ∈ r, ∃ c, x = .str [c]) → ∃ ys, strsD r = some ys ∧ (ys.map List.length).sum = r.length ∧ ys.length = r.length ∧ (joinL [] ys).length = r.length
  | [], _ => ⟨[], rfl, rfl, rfl, rfl⟩
  | x :: r, h => by
    obtain ⟨c, rfl⟩ := h x (List.mem_cons_self ..)
    obtain ⟨ys, e, h1, h2, h3⟩ := strs_of (r := r) fun x h' => h x (List.mem_cons_of_mem _ h')
    exact ⟨[c] :: ys, by rw [strsD, e]; rfl, by simp [h1]; omega, by simp [h2], by
      cases ys with
      | nil => simp at h2; simp [joinL, ← h2]
      | cons y ys => simp [joinL, h3]⟩
theorem join_of {r : List D} (h : ∀ x ∈ r, ∃ c, x = .str [c]) (hl : r.length ≤ 1000) : ∃ t, m1 .join (.str []) (.lst r) = some (.str t) ∧ t.length ≤ 1000 := by
  obtain ⟨ys, e, h1, h2, h3⟩ := strs_of h
  refine ⟨joinL [] ys, ?_, by omega⟩
  simp only [m1, e]
  rw [if_pos (by unfold lim; simp; omega)]
theorem rng_mem {n : Int} (h : 0 ≤ n ∧ n < 1000) : ∃ ds, rngD 0 n = some ds ∧ ds.length = n.toNat ∧ ∀ d ∈ ds, ∃ i : Int, d = .int i ∧ 0 ≤ i ∧ i < n := by
  refine ⟨_, by unfold rngD; exact if_pos (by omega), by simp, fun d hd => ?_⟩
  obtain ⟨i, hi, rfl⟩ := List.mem_map.mp hd
  have := List.mem_range.mp hi
  exact ⟨0 + (i : Nat), rfl, by omega, by omega⟩
theorem ev_draw {F : Fns} {f : Nat} {g : Fn} (hf : F.fn f = some g) {a b c : Ex} {ρ : Env} {S S1 S2 S3 : Sto} {x y z : D} (ha : ev F a ρ S = .ok x S1) (hb : ev F b ρ S1 = .ok y S2) (hc : ev F c ρ S2 = .ok z S3) : ev F (.call f (.cons a (.cons b (.cons c .nil)))) ρ S = g [x, y, z] S3 := by
  simp only [ev, hf, evs, ha, hb, hc, R.bind_ok]
theorem exs_nx {F : Fns} {s : Sm} {r : Sms} {ρ ρ' : Env} {S S' : Sto} (h : ex F s ρ S = .ok (.nx ρ') S') : exs F (.cons s r) ρ S = exs F r ρ' S' := by rw [exs, h]; rfl
/-- a comprehension's turn -/
def compF (F : Fns) (e : Ex) (tg : Tg) (vs : List Nat) (ρ : Env) (d : D) (S : Sto) : R (Option D) := match bindT tg d (wipe (noOwn ρ) vs) with
  | some ρ1 => (ev F e ρ1 S).bind fun x S => .ok (some x) S
  | none => .no
def compIfF (F : Fns) (e : Ex) (tg : Tg) (c : Ex) (vs : List Nat) (ρ : Env) (d : D) (S : Sto) : R (Option D) := match bindT tg d (wipe (noOwn ρ) vs) with
  | some ρ1 => (ev F c ρ1 S).bind fun x S => (asB x S).bind fun t S => if t = true then (ev F e ρ1 S).bind fun x S => .ok (some x) S else .ok none S
  | none => .no
theorem ev_comp {F : Fns} {e : Ex} {tg : Tg} {it : It} {vs : List Nat} {ρ : Env} {S : Sto} : ev F (.comp e tg it vs) ρ S = (evIt F it ρ S).bind fun ds S => (calmly (turns (compF F e tg vs ρ) ds S)).bind fun r S => (small r S).bind fun r S => .ok (.lst r) S := by
  rw [ev]; rfl
theorem ev_compIf {F : Fns} {e : Ex} {tg : Tg} {it : It} {c : Ex} {vs : List Nat} {ρ : Env} {S : Sto} : ev F (.compIf e tg it c vs) ρ S = (evIt F it ρ S).bind fun ds S => (calmly (turns (compIfF F e tg c vs ρ) ds S)).bind fun r S => (small r S).bind fun r S => .ok (.lst r) S := by
  rw [ev]; rfl
theorem ev_or {F : Fns} {a b : Ex} {ρ : Env} {S : Sto} {t : Bool} (h : ev F a ρ S = .ok (.bl t) S) : ev F (.or a b) ρ S = if t = true then .ok (.bl true) S else ev F b ρ S := by
  rw [ev, h]; rfl
theorem ev_and {F : Fns} {a b : Ex} {ρ : Env} {S : Sto} {t : Bool} (h : ev F a ρ S = .ok (.bl t) S) : ev F (.and a b) ρ S = if t = true then ev F b ρ S else .ok (.bl false) S := by
  rw [ev, h]; rfl
theorem ev_nt {F : Fns} {a : Ex} {ρ : Env} {S : Sto} {t : Bool} (h : ev F a ρ S = .ok (.bl t) S) : ev F (.nt a) ρ S = .ok (.bl (!t)) S := by
  rw [ev, h]; rfl
theorem turns_map {α : Type} {f : D → Sto → R (Option D)} {S : Sto} {g : α → D} {h : α → D} : ∀ {l : List α}, (∀ x ∈ l, f (g x) S = .ok (some (h x)) S) → turns f (l.map g) S = .ok (l.map h) S
  | [], _ => rfl
  | x :: l, hh => by
    rw [List.map_cons, turns, hh x (List.mem_cons_self ..), R.bind_ok, turns_map (l := l) fun y hy => hh y (List.mem_cons_of_mem _ hy)]
    rfl
theorem bools_map : ∀ l : List Bool, boolsD (l.map D.bl) = some l
  | [] => rfl
  | b :: l => by rw [List.map_cons, boolsD, bools_map l]; rfl
/-- an if whose suite returns False -/
theorem ifs_ret {F : Fns} {c : Ex} {ρ : Env} {S : Sto} {b : Bool} {r : Sms} (h : (ev F c ρ S).bind asB = .ok b S) : exs F (.cons (.ifs c (.cons (.ret (.cst (.bl false))) .nil) .nil) r) ρ S = if b = true then .ok (.rt (.bl false)) S else exs F r ρ S := by
  rw [exs, ex, h]
  cases b <;> rfl
theorem ifs_no {F : Fns} {c : Ex} {a b r : Sms} {ρ : Env} {S : Sto} (h : (ev F c ρ S).bind asB = .ok false S) : exs F (.cons (.ifs c a b) r) ρ S = (exs F b ρ S).next fun ρ S => exs F r ρ S := by
  rw [exs, ex, h]; rfl
theorem ifs_yes {F : Fns} {c : Ex} {a b r : Sms} {ρ : Env} {S : Sto} (h : (ev F c ρ S).bind asB = .ok true S) : exs F (.cons (.ifs c a b) r) ρ S = (exs F a ρ S).next fun ρ S => exs F r ρ S := by
  rw [exs, ex, h]; rfl
theorem rng_eq (n : Nat) (h : n < 1000) : rngD 0 (n : Int) = some ((List.range' 0 n).map fun j => .int (0 + (j : Nat))) := by
  have e : ((n : Int) - 0).toNat = n := by omega
  have c : (0 : Int).natAbs < 4611686018427387904 ∧ (n : Int).natAbs < 4611686018427387904 := by omega
  unfold rngD
  rw [if_pos c, List.range_eq_range', e]
theorem rng2_eq (a b : Nat) (j : Int) (hj : j = (b : Int)) (ha : a < 1000) (h : b < 1000) : rngD (a : Int) j = some ((List.range' a (b - a)).map fun j => .int (j : Nat)) := by
  subst hj
  have c : (a : Int).natAbs < 4611686018427387904 ∧ (b : Int).natAbs < 4611686018427387904 := by omega
  have e : ((b : Int) - (a : Int)).toNat = b - a := by omega
  unfold rngD
  rw [if_pos c, e, List.range'_eq_map_range, List.map_map]
  congr 1
theorem ev_rng {F : Fns} {e : Ex} {ρ : Env} {S S1 : Sto} {n : Int} {ds : List D} (h : ev F e ρ S = .ok (.int n) S1) (g : rngD 0 n = some ds) : evIt F (.rng e) ρ S = .ok ds S1 := by
  simp [evIt, h, g]
theorem ev_rng2 {F : Fns} {a b : Ex} {ρ : Env} {S S1 S2 : Sto} {i j : Int} {ds : List D} (h1 : ev F a ρ S = .ok (.int i) S1) (h2 : ev F b ρ S1 = .ok (.int j) S2) (g : rngD i j = some ds) : evIt F (.rng2 a b) ρ S = .ok ds S2 := by
  generalize hr : rngD i j = r at g
  simp [evIt, h1, h2, hr, g]
/-! ### drawing -/
def dwC : Ex := .and (.op .gt (.var 5) (.cst (.int 0))) (.op .gt (.var 4) (.cst (.int 0)))
def dwB : Sms := .cons (.asg (.name 5) (.op .fdv (.var 5) (.cst (.int 1000000)))) (.cons (.asg (.name 4) (.op .sub (.var 4) (.cst (.int 1)))) .nil)
theorem dw_while (F : Fns) (a b c d : Slot) (S : Sto) : ∀ (n : Nat) (t r : Int), 0 ≤ t → t < n →
    ∃ t' r', whileF (fun ρ S => (ev F dwC ρ S).bind asB) (fun ρ S => exs F dwB ρ S) n [a, b, c, d, .val (.int t), .val (.int r)] S = .ok (.nx [a, b, c, d, .val (.int t'), .val (.int r')]) S
  | 0, t, r, h0, h => by omega
  | n + 1, t, r, h0, h => by
    unfold whileF
    by_cases hr : 0 < r
    · by_cases ht : 0 < t
      · obtain ⟨t', r', e⟩ := dw_while F a b c d S n (t - 1) (r / 1000000) (by omega) (by omega)
        refine ⟨t', r', ?_⟩
        rw [← e]
        simp [dwC, dwB, ev, op_gt, op_sub, op_fdv, hr, ht, exs, ex, bindT]
      · exact ⟨t, r, by simp [dwC, ev, op_gt, hr, ht]⟩
    · exact ⟨t, r, by simp [dwC, ev, op_gt, hr]⟩
def dwT : Sms := .cons (.asg (.name 3) (.op .mod (.op .add (.op .mul (.op .mod (.var 3) (.cst (.int 2147483563))) (.cst (.int 69069))) (.op .mul (.cst (.int 104723)) (.op .add (.var 1) (.cst (.int 1))))) (.cst (.int 2147483563))))
  (.cons (.asg (.name 3) (.op .mod (.op .add (.op .mul (.var 3) (.var 3)) (.op .fdv (.var 3) (.cst (.int 3)))) (.cst (.int 2147483399))))
  (.cons (.ret (.op .mod (.op .fdv (.op .mod (.op .add (.op .mul (.var 3) (.var 3)) (.op .fdv (.var 3) (.cst (.int 7)))) (.cst (.int 2147483647))) (.cst (.int 11))) (.var 2)))
  .nil))
theorem dw_tail (F : Fns) (a : Slot) (k many cell : Int) (x y : Slot) (S : Sto) (hm : 0 < many) :
    ∃ r, (exs F dwT [a, .val (.int k), .val (.int many), .val (.int cell), x, y] S).ends = .ok (.int r) S ∧ 0 ≤ r ∧ r < many := by
  have h1 : 0 ≤ (cell % 2147483563 * 69069 + 104723 * (k + 1)) % 2147483563 ∧ (cell % 2147483563 * 69069 + 104723 * (k + 1)) % 2147483563 < 2147483563 := by omega
  have e1 : op2 .mul (.int (cell % 2147483563)) (.int 69069) = some (.int (cell % 2147483563 * 69069)) := mul_small' (by omega)
  have e2 : op2 .mul (.int 104723) (.int (k + 1)) = some (.int (104723 * (k + 1))) := mul_small (by omega)
  generalize hc : (cell % 2147483563 * 69069 + 104723 * (k + 1)) % 2147483563 = c1 at h1
  have e3 : op2 .mul (.int c1) (.int c1) = some (.int (c1 * c1)) := mul_small (by omega)
  have h2 : 0 ≤ (c1 * c1 + c1 / 3) % 2147483399 ∧ (c1 * c1 + c1 / 3) % 2147483399 < 2147483399 := ⟨Int.emod_nonneg _ (by decide), Int.emod_lt_of_pos _ (by decide)⟩
  generalize hd : (c1 * c1 + c1 / 3) % 2147483399 = c2 at h2
  have e4 : op2 .mul (.int c2) (.int c2) = some (.int (c2 * c2)) := mul_small (by omega)
  refine ⟨(c2 * c2 + c2 / 7) % 2147483647 / 11 % many, ?_, Int.emod_nonneg _ (by omega), Int.emod_lt_of_pos _ hm⟩
  simp [dwT, exs, ex, ev, bindT, e1, e2, op_add, op_mod, op_fdv, hc, e3, hd, e4, hm]
def dwI : Sms := .cons (.asg (.name 5) (.op .fdv (.var 3) (.op .pow (.cst (.int 10)) (.cst (.int 18))))) (.cons (.whl dwC dwB) (.cons (.ifs (.op .gt (.var 5) (.cst (.int 0))) (.cons (.ret (.op .mod (.op .mod (.var 5) (.cst (.int 1000000))) (.var 2))) .nil) .nil) .nil))
def dwJ : Sms := .cons (.asg (.name 3) (.idx (.var 0) (.op .mod (.var 1) (.f1 .len (.var 0))))) (.cons (.asg (.name 4) (.op .fdv (.var 1) (.f1 .len (.var 0)))) (.cons (.ifs (.and (.op .ge (.var 3) (.op .pow (.cst (.int 10)) (.cst (.int 18)))) (.op .lt (.var 4) (.cst (.int 60)))) dwI .nil)
  (.cons (.asg (.name 3) (.op .add (.var 3) (.op .mul (.cst (.int 6553)) (.op .fdv (.var 1) (.f1 .len (.var 0)))))) .nil)))
def dwA : Sms := .cons (.asg (.name 3) (.op .mul (.cst (.int 7)) (.var 1))) (.cons (.ifs (.op .ne (.var 0) (.lst .nil)) dwJ .nil) dwT)
def fnDraw : Fn := fnOf (tabOf [] []) 3 6 dwA
theorem draw_ok (ns : List Int) (k many : Int) (S : Sto) (hn : ns.length ≤ 63) (hk : 0 ≤ k) (hm : 0 < many) :
    ∃ r, fnDraw [.scr ns, .int k, .int many] S = .ok (.int r) S ∧ 0 ≤ r ∧ r < many := by
  have e0 : op2 .mul (.int 7) (.int k) = some (.int (7 * k)) := mul_small (by omega)
  by_cases hz : ns = []
  · subst hz
    obtain ⟨r, h, h2⟩ := dw_tail (tabOf [] []) (.val (.scr [])) k many (7 * k) .emp .emp S hm
    refine ⟨r, ?_, h2⟩
    rw [← h]
    simp [fnDraw, fnOf, dwA, exs, ex, ev, evs, bindT, e0, op_ne, eqO, small_ok]
  · have hl : 0 < ns.length := List.length_pos_iff.mpr hz
    have hm1 := Int.emod_nonneg k (show (ns.length : Int) ≠ 0 by omega)
    have hm2 := Int.emod_lt_of_pos k (show 0 < (ns.length : Int) by omega)
    have ei : ∃ c, idx (.scr ns) (.int (k % (ns.length : Int))) = some (.int c) := by
      have hx : (k % (ns.length : Int)).toNat < ns.length := by omega
      refine ⟨ns[(k % (ns.length : Int)).toNat], ?_⟩
      simp only [idx, at_, ix, if_pos hm1, if_pos hm2, Option.bind_some, List.getElem?_eq_getElem hx, Option.map_some]
    obtain ⟨c, ei⟩ := ei
    have hx : op2 .ne (.scr ns) (.lst []) = some (.bl true) := by
      cases ns with
      | nil => exact (hz rfl).elim
      | cons _ _ => rfl
    have ht := Int.ediv_nonneg hk (show 0 ≤ (ns.length : Int) by omega)
    have f1 : op2 .fdv (.int k) (.int ns.length) = some (.int (k / ns.length)) := op_fdv (by omega)
    have f2 : op2 .mod (.int k) (.int ns.length) = some (.int (k % ns.length)) := op_mod (by omega)
    have f3 : op2 .mul (.int 6553) (.int (k / ns.length)) = some (.int (6553 * (k / ns.length))) := mul_small (by omega)
    have p : op2 .pow (.int 10) (.int 18) = some (.int (10 ^ 18)) := rfl
    have bl : b1 .len (.scr ns) = some (.int ns.length) := rfl
    generalize k / (ns.length : Int) = t at ht f1 f3
    have cont : ∀ (a : Slot) (x y : Slot), ∃ r, (exs (tabOf [] []) dwT [a, .val (.int k), .val (.int many), .val (.int (c + 6553 * t)), x, y] S).ends = .ok (.int r) S ∧ 0 ≤ r ∧ r < many := fun a x y => dw_tail _ a k many _ x y S hm
    have start : fnDraw [.scr ns, .int k, .int many] S = ((exs (tabOf [] []) dwJ [.val (.scr ns), .val (.int k), .val (.int many), .val (.int (7 * k)), .emp, .emp] S).next fun ρ S => exs (tabOf [] []) dwT ρ S).ends := by
      simp [fnDraw, fnOf, dwA, exs, ex, ev, evs, bindT, e0, hx, small_ok]
    have plain : ∀ (x y : Slot), (ex (tabOf [] []) (.ifs (.and (.op .ge (.var 3) (.op .pow (.cst (.int 10)) (.cst (.int 18)))) (.op .lt (.var 4) (.cst (.int 60)))) dwI .nil) [.val (.scr ns), .val (.int k), .val (.int many), .val (.int c), .val (.int t), .emp] S) = .ok (.nx [.val (.scr ns), .val (.int k), .val (.int many), .val (.int c), x, y]) S →
        ∃ r, fnDraw [.scr ns, .int k, .int many] S = .ok (.int r) S ∧ 0 ≤ r ∧ r < many := by
      intro x y hi
      obtain ⟨r, h, h2⟩ := cont (.val (.scr ns)) x y
      refine ⟨r, ?_, h2⟩
      rw [← h, start, dwJ]
      have e1 : ex (tabOf [] []) (.asg (.name 3) (.idx (.var 0) (.op .mod (.var 1) (.f1 .len (.var 0))))) [.val (.scr ns), .val (.int k), .val (.int many), .val (.int (7 * k)), .emp, .emp] S = .ok (.nx [.val (.scr ns), .val (.int k), .val (.int many), .val (.int c), .emp, .emp]) S := by
        simp [ex, ev, bl, f2, ei, bindT]
      have e2 : ex (tabOf [] []) (.asg (.name 4) (.op .fdv (.var 1) (.f1 .len (.var 0)))) [.val (.scr ns), .val (.int k), .val (.int many), .val (.int c), .emp, .emp] S = .ok (.nx [.val (.scr ns), .val (.int k), .val (.int many), .val (.int c), .val (.int t), .emp]) S := by
        simp [ex, ev, bl, f1, bindT]
      have e3 : ex (tabOf [] []) (.asg (.name 3) (.op .add (.var 3) (.op .mul (.cst (.int 6553)) (.op .fdv (.var 1) (.f1 .len (.var 0)))))) [.val (.scr ns), .val (.int k), .val (.int many), .val (.int c), x, y] S = .ok (.nx [.val (.scr ns), .val (.int k), .val (.int many), .val (.int (c + 6553 * t)), x, y]) S := by
        simp [ex, ev, bl, f1, f3, op_add, bindT]
      simp only [exs, e1, R.next_nx, e2, hi, e3]
    by_cases hc : 10 ^ 18 ≤ c
    · by_cases h60 : t < 60
      · have f4 : op2 .fdv (.int c) (.int (10 ^ 18)) = some (.int (c / 10 ^ 18)) := op_fdv (by decide)
        obtain ⟨t', r', e⟩ := dw_while (tabOf [] []) (.val (.scr ns)) (.val (.int k)) (.val (.int many)) (.val (.int c)) S fuel t (c / 10 ^ 18) ht (by unfold fuel; omega)
        have e4 : ex (tabOf [] []) (.asg (.name 5) (.op .fdv (.var 3) (.op .pow (.cst (.int 10)) (.cst (.int 18))))) [.val (.scr ns), .val (.int k), .val (.int many), .val (.int c), .val (.int t), .emp] S = .ok (.nx [.val (.scr ns), .val (.int k), .val (.int many), .val (.int c), .val (.int t), .val (.int (c / 10 ^ 18))]) S := by
          simp only [ex, ev, List.getElem?_cons_succ, List.getElem?_cons_zero, R.bind_ok, p, lift_some, f4, R.then_ok, bindT, bound_some]
          rfl
        have ec : (ev (tabOf [] []) (.and (.op .ge (.var 3) (.op .pow (.cst (.int 10)) (.cst (.int 18)))) (.op .lt (.var 4) (.cst (.int 60)))) [.val (.scr ns), .val (.int k), .val (.int many), .val (.int c), .val (.int t), .emp] S).bind asB = .ok true S := by
          simp only [ev, List.getElem?_cons_succ, List.getElem?_cons_zero, R.bind_ok, p, lift_some, op_ge, op_lt, decide_eq_true hc, decide_eq_true h60, asB_bl, if_true]
        by_cases hr : 0 < r'
        · refine ⟨r' % 1000000 % many, ?_, Int.emod_nonneg _ (by omega), Int.emod_lt_of_pos _ hm⟩
          have e1 : ex (tabOf [] []) (.asg (.name 3) (.idx (.var 0) (.op .mod (.var 1) (.f1 .len (.var 0))))) [.val (.scr ns), .val (.int k), .val (.int many), .val (.int (7 * k)), .emp, .emp] S = .ok (.nx [.val (.scr ns), .val (.int k), .val (.int many), .val (.int c), .emp, .emp]) S := by
            simp [ex, ev, bl, f2, ei, bindT]
          have e2 : ex (tabOf [] []) (.asg (.name 4) (.op .fdv (.var 1) (.f1 .len (.var 0)))) [.val (.scr ns), .val (.int k), .val (.int many), .val (.int c), .emp, .emp] S = .ok (.nx [.val (.scr ns), .val (.int k), .val (.int many), .val (.int c), .val (.int t), .emp]) S := by
            simp [ex, ev, bl, f1, bindT]
          have ew : ex (tabOf [] []) (.whl dwC dwB) [.val (.scr ns), .val (.int k), .val (.int many), .val (.int c), .val (.int t), .val (.int (c / 10 ^ 18))] S = _ := e
          have er : ex (tabOf [] []) (.ifs (.op .gt (.var 5) (.cst (.int 0))) (.cons (.ret (.op .mod (.op .mod (.var 5) (.cst (.int 1000000))) (.var 2))) .nil) .nil) [.val (.scr ns), .val (.int k), .val (.int many), .val (.int c), .val (.int t'), .val (.int r')] S = .ok (.rt (.int (r' % 1000000 % many))) S := by
            simp [ex, exs, ev, op_gt, hr, op_mod, hm]
          have ei : ex (tabOf [] []) (.ifs (.and (.op .ge (.var 3) (.op .pow (.cst (.int 10)) (.cst (.int 18)))) (.op .lt (.var 4) (.cst (.int 60)))) dwI .nil) [.val (.scr ns), .val (.int k), .val (.int many), .val (.int c), .val (.int t), .emp] S = .ok (.rt (.int (r' % 1000000 % many))) S := by
            rw [ex, ec]
            simp only [R.then_ok, if_true, dwI, exs, e4, R.next_nx, ew, er, R.next_rt]
          rw [start, dwJ]
          simp only [exs, e1, R.next_nx, e2, ei, R.next_rt, R.ends_rt]
        · refine plain (.val (.int t')) (.val (.int r')) ?_
          have ew : ex (tabOf [] []) (.whl dwC dwB) [.val (.scr ns), .val (.int k), .val (.int many), .val (.int c), .val (.int t), .val (.int (c / 10 ^ 18))] S = _ := e
          have er : ex (tabOf [] []) (.ifs (.op .gt (.var 5) (.cst (.int 0))) (.cons (.ret (.op .mod (.op .mod (.var 5) (.cst (.int 1000000))) (.var 2))) .nil) .nil) [.val (.scr ns), .val (.int k), .val (.int many), .val (.int c), .val (.int t'), .val (.int r')] S = .ok (.nx [.val (.scr ns), .val (.int k), .val (.int many), .val (.int c), .val (.int t'), .val (.int r')]) S := by
            simp [ex, exs, ev, op_gt, hr]
          rw [ex, ec]
          simp only [R.then_ok, if_true, dwI, exs, e4, R.next_nx, ew, er]
      · refine plain (.val (.int t)) .emp ?_
        have ec : (ev (tabOf [] []) (.and (.op .ge (.var 3) (.op .pow (.cst (.int 10)) (.cst (.int 18)))) (.op .lt (.var 4) (.cst (.int 60)))) [.val (.scr ns), .val (.int k), .val (.int many), .val (.int c), .val (.int t), .emp] S).bind asB = .ok false S := by
          simp only [ev, List.getElem?_cons_succ, List.getElem?_cons_zero, R.bind_ok, p, lift_some, op_ge, op_lt, decide_eq_true hc, decide_eq_false h60, asB_bl, if_true]
        rw [ex, ec]
        rfl
    · refine plain (.val (.int t)) .emp ?_
      have ec : (ev (tabOf [] []) (.and (.op .ge (.var 3) (.op .pow (.cst (.int 10)) (.cst (.int 18)))) (.op .lt (.var 4) (.cst (.int 60)))) [.val (.scr ns), .val (.int k), .val (.int many), .val (.int c), .val (.int t), .emp] S).bind asB = .ok false S := by
        simp only [ev, List.getElem?_cons_succ, List.getElem?_cons_zero, R.bind_ok, p, lift_some, op_ge, op_lt, decide_eq_false hc, asB_bl]
        rfl
      rw [ex, ec]
      rfl
end Mi
/-! Mini: to run a body in plain proofs. -/
namespace Mi
def exsK (F : Fns) (r : Sms) (ρ : Env) (S : Sto) : R Ct := exs F r ρ S
theorem exs_cons {F : Fns} {s : Sm} {r : Sms} {ρ : Env} {S : Sto} : exs F (.cons s r) ρ S = (ex F s ρ S).next (exsK F r) := by rw [exs]; rfl
theorem exs_nil {F : Fns} {ρ : Env} {S : Sto} : exs F .nil ρ S = .ok (.nx ρ) S := by rw [exs]
theorem exsK_ap {F : Fns} {r : Sms} {ρ : Env} {S : Sto} : exsK F r ρ S = exs F r ρ S := Eq.trans rfl rfl
theorem exsK_nx {F : Fns} {r : Sms} {ρ : Env} {S : Sto} : (R.ok (.nx ρ) S).next (exsK F r) = exs F r ρ S := Eq.trans rfl rfl
def ifK (F : Fns) (a b : Sms) (ρ : Env) (t : Bool) (S : Sto) : R Ct := if t = true then exs F a ρ S else exs F b ρ S
theorem ex_ifs {F : Fns} {c : Ex} {a b : Sms} {ρ : Env} {S : Sto} : ex F (.ifs c a b) ρ S = ((ev F c ρ S).bind asB).then ρ (ifK F a b ρ) := by rw [ex]; rfl
theorem ifK_t {F : Fns} {a b : Sms} {ρ : Env} {S : Sto} : ifK F a b ρ true S = exs F a ρ S := Eq.trans rfl rfl
theorem ifK_f {F : Fns} {a b : Sms} {ρ : Env} {S : Sto} : ifK F a b ρ false S = exs F b ρ S := Eq.trans rfl rfl
def eachF (F : Fns) (tg : Tg) (b : Sms) (d : D) (ρ : Env) (S : Sto) : R Ct := bound (bindT tg d ρ) fun ρ => exs F b ρ S
theorem ex_each {F : Fns} {tg : Tg} {it : It} {b : Sms} {ρ : Env} {S : Sto} : ex F (.each tg it b) ρ S = (evIt F it ρ S).then ρ fun ds S => loop (eachF F tg b) ds ρ S := by rw [ex]; rfl
theorem eachF_eq {F : Fns} {tg : Tg} {b : Sms} {d : D} {ρ ρ1 : Env} {S : Sto} (h : bindT tg d ρ = some ρ1) : eachF F tg b d ρ S = exs F b ρ1 S := by rw [eachF, h]; rfl
theorem ex_asg {F : Fns} {tg : Tg} {e : Ex} {ρ : Env} {S : Sto} : ex F (.asg tg e) ρ S = (ev F e ρ S).then ρ fun x S => bound (bindT tg x ρ) fun ρ => .ok (.nx ρ) S := by rw [ex]
theorem ex_asg1 {F : Fns} {i : Nat} {e : Ex} {ρ : Env} {S : Sto} : ex F (.asg (.name i) e) ρ S = (ev F e ρ S).then ρ fun x S => .ok (.nx (ρ.set i (.val x))) S := by rw [ex]; rfl
theorem ex_ret {F : Fns} {e : Ex} {ρ : Env} {S : Sto} : ex F (.ret e) ρ S = (ev F e ρ S).then ρ fun x S => .ok (.rt x) S := by rw [ex]
theorem ex_expr {F : Fns} {e : Ex} {ρ : Env} {S : Sto} : ex F (.expr e) ρ S = (ev F e ρ S).then ρ fun _ S => .ok (.nx ρ) S := by rw [ex]
theorem ex_pass {F : Fns} {ρ : Env} {S : Sto} : ex F .pass ρ S = .ok (.nx ρ) S := by rw [ex]
theorem ex_new {F : Fns} {i : Nat} {ρ : Env} {S : Sto} : ex F (.new i) ρ S = .ok (.nx (ρ.set i (.own []))) S := by rw [ex]
theorem ex_app {F : Fns} {i : Nat} {e : Ex} {ρ : Env} {S : Sto} {ds : List D} (h : ρ[i]? = some (.own ds)) (hl : ds.length < 1000000) : ex F (.app i e) ρ S = (ev F e ρ S).then ρ fun x S => .ok (.nx (ρ.set i (.own (ds ++ [x])))) S := by
  rw [ex, h]
  simp only [lim, hl, if_true]
theorem ex_frz {F : Fns} {i : Nat} {s : Sm} {ρ : Env} {S : Sto} {ds : List D} (h : ρ[i]? = some (.own ds)) : ex F (.frz i s) ρ S = ex F s (ρ.set i (.val (.lst ds))) S := by
  rw [ex, h]
theorem ev_var {F : Fns} {i : Nat} {ρ : Env} {S : Sto} {d : D} (h : ρ[i]? = some (.val d)) : ev F (.var i) ρ S = .ok d S := by rw [ev, h]
theorem fnOf_ap {F : Fns} {np n : Nat} {b : Sms} {ds : List D} {S : Sto} (h : ds.length = np) : fnOf F np n b ds S = (exs F b (ds.map .val ++ List.replicate (n - np) .emp) S).ends := by
  unfold fnOf; rw [if_pos h]
theorem fn1 {F : Fns} {n : Nat} {b : Sms} {x : D} {S : Sto} : fnOf F 1 n b [x] S = (exs F b (.val x :: List.replicate (n - 1) .emp) S).ends := Eq.trans rfl rfl
theorem fn2 {F : Fns} {n : Nat} {b : Sms} {x y : D} {S : Sto} : fnOf F 2 n b [x, y] S = (exs F b (.val x :: .val y :: List.replicate (n - 2) .emp) S).ends := Eq.trans rfl rfl
theorem fn3 {F : Fns} {n : Nat} {b : Sms} {x y z : D} {S : Sto} : fnOf F 3 n b [x, y, z] S = (exs F b (.val x :: .val y :: .val z :: List.replicate (n - 3) .emp) S).ends := Eq.trans rfl rfl
theorem fn4 {F : Fns} {n : Nat} {b : Sms} {x y z u : D} {S : Sto} : fnOf F 4 n b [x, y, z, u] S = (exs F b (.val x :: .val y :: .val z :: .val u :: List.replicate (n - 4) .emp) S).ends := Eq.trans rfl rfl
/-- comprehensions over what is known -/
theorem comp_map {α : Type} {F : Fns} {e : Ex} {tg : Tg} {it : It} {vs : List Nat} {ρ : Env} {S : Sto} {l : List α} (g h : α → D) (hi : evIt F it ρ S = .ok (l.map g) S) (hl : l.length ≤ 1000000)
    (ht : ∀ x ∈ l, compF F e tg vs ρ (g x) S = .ok (some (h x)) S) : ev F (.comp e tg it vs) ρ S = .ok (.lst (l.map h)) S := by
  rw [ev_comp, hi, R.bind_ok, turns_map ht, calmly_ok, R.bind_ok, small_ok (by simpa using hl), R.bind_ok]
theorem turns_filter {α : Type} {f : D → Sto → R (Option D)} {S : Sto} {g h : α → D} {p : α → Bool} : ∀ {l : List α}, (∀ x ∈ l, f (g x) S = .ok (if p x then some (h x) else none) S) → turns f (l.map g) S = .ok ((l.filter p).map h) S
  | [], _ => rfl
  | x :: l, hh => by
    rw [List.map_cons, turns, hh x (List.mem_cons_self ..), R.bind_ok, turns_filter (l := l) fun y hy => hh y (List.mem_cons_of_mem _ hy)]
    cases q : p x <;> simp [q]
theorem compIf_map {α : Type} {F : Fns} {e : Ex} {tg : Tg} {it : It} {c : Ex} {vs : List Nat} {ρ : Env} {S : Sto} {l : List α} (g h : α → D) (p : α → Bool) (hi : evIt F it ρ S = .ok (l.map g) S) (hl : l.length ≤ 1000000)
    (ht : ∀ x ∈ l, compIfF F e tg c vs ρ (g x) S = .ok (if p x then some (h x) else none) S) : ev F (.compIf e tg it c vs) ρ S = .ok (.lst ((l.filter p).map h)) S := by
  have : (l.filter p).length ≤ l.length := List.length_filter_le ..
  rw [ev_compIf, hi, R.bind_ok, turns_filter ht, calmly_ok, R.bind_ok, small_ok (by simp; omega), R.bind_ok]
/-- loops -/
theorem loop_inv {f : D → Env → Sto → R Ct} {S : Sto} (P : List D → Env → Prop) : ∀ (ds pre : List D) (ρ : Env), P pre ρ →
    (∀ pre' d post ρ, pre ++ ds = pre' ++ d :: post → P pre' ρ → ∃ ρ', f d ρ S = .ok (.nx ρ') S ∧ P (pre' ++ [d]) ρ') → ∃ ρ', loop f ds ρ S = .ok (.nx ρ') S ∧ P (pre ++ ds) ρ'
  | [], pre, ρ, h, _ => ⟨ρ, rfl, by simpa using h⟩
  | d :: ds, pre, ρ, h, hs => by
    obtain ⟨ρ1, e1, h1⟩ := hs pre d ds ρ rfl h
    obtain ⟨ρ2, e2, h2⟩ := loop_inv P ds (pre ++ [d]) ρ1 h1 (fun p' d' q' ρ' e => hs p' d' q' ρ' (by simpa using e))
    refine ⟨ρ2, by rw [loop, e1, R.turn_nx, e2], by simpa using h2⟩
theorem loop_fold {α β X : Type} {f : D → Env → Sto → R Ct} {S : Sto} (g : α → D) (E : β → X → Env) (stp : β → α → β) : ∀ (l : List α), (∀ b x a, a ∈ l → ∃ x', f (g a) (E b x) S = .ok (.nx (E (stp b a) x')) S) → ∀ b x, ∃ x', loop f (l.map g) (E b x) S = .ok (.nx (E (l.foldl stp b) x')) S
  | [], _, b, x => ⟨x, rfl⟩
  | a :: l, h, b, x => by
    obtain ⟨x1, e1⟩ := h b x a (List.mem_cons_self ..)
    obtain ⟨x2, e2⟩ := loop_fold g E stp l (fun b x a ha => h b x a (List.mem_cons_of_mem _ ha)) (stp b a) x1
    exact ⟨x2, by rw [List.map_cons, loop, e1, R.turn_nx, e2, List.foldl_cons]⟩
theorem eq_plain {a b : D} (ha : pl 20 a = true) (hb : pl 20 b = true) : eqO a b = some (deq a b) := by
  rw [eqO.eq_def]
  split
  · exact absurd ha (by simp [pl])
  · rw [if_pos ⟨ha, hb⟩]
mutual
theorem deq_refl : ∀ d : D, pl n d = true → deq d d = true
  | .non, _ => by simp [deq]
  | .bl _, _ => by simp [deq]
  | .int _, _ => by simp [deq]
  | .str _, _ => by simp [deq]
  | .lst xs, h => by
    cases n with
    | zero => simp [pl] at h
    | succ n => rw [deq]; exact deqs_refl xs (by simpa [pl] using h)
  | .tup xs, h => by
    cases n with
    | zero => simp [pl] at h
    | succ n => rw [deq]; exact deqs_refl xs (by simpa [pl] using h)
  | .obj _, h => by cases n <;> simp [pl] at h
  | .scr _, h => by cases n <;> simp [pl] at h
theorem deqs_refl : ∀ xs : List D, (∀ x ∈ xs, pl n x = true) → deq.deqs xs xs = true
  | [], _ => by simp [deq.deqs]
  | x :: xs, h => by
    rw [deq.deqs, deq_refl x (h x (List.mem_cons_self ..)), deqs_refl xs fun y hy => h y (List.mem_cons_of_mem _ hy)]
    rfl
end
theorem eq_same {a : D} (ha : pl 20 a = true) : eqO a a = some true := by rw [eq_plain ha ha, deq_refl a ha]
section
variable {F : Fns} {ρ : Env} {S : Sto}
def varR (o : Option Slot) (S : Sto) : R D := match o with
  | some (.val d) => .ok d S
  | _ => .no
theorem varR_val {d : D} : varR (some (.val d)) S = .ok d S := Eq.trans rfl rfl
def ownR (o : Option Slot) (S : Sto) : R D := match o with
  | some (.own d) => .ok (.lst d) S
  | _ => .no
theorem ownR_own {d : List D} : ownR (some (.own d)) S = .ok (.lst d) S := Eq.trans rfl rfl
theorem r_var {i : Nat} : ev F (.var i) ρ S = varR ρ[i]? S := by rw [ev]; rfl
theorem r_own {i : Nat} : ev F (.own i) ρ S = ownR ρ[i]? S := by rw [ev]; rfl
theorem r_cst {d : D} : ev F (.cst d) ρ S = .ok d S := by rw [ev]
theorem r_glo {x : Nat} : ev F (.glo x) ρ S = lift (F.gl x) S := by rw [ev]
theorem r_op {o : O2} {a b : Ex} : ev F (.op o a b) ρ S = (ev F a ρ S).bind fun x S => (ev F b ρ S).bind fun y S => lift (op2 o x y) S := by rw [ev]
theorem r_chain {o o' : O2} {a b c : Ex} : ev F (.chain o o' a b c) ρ S = (ev F a ρ S).bind fun x S => (ev F b ρ S).bind fun y S => (lift (op2 o x y) S).bind fun z S => (asB z S).bind fun t S =>
      if t = true then (ev F c ρ S).bind fun w S => lift (op2 o' y w) S else .ok (.bl false) S := by rw [ev]
def negR (i : Option Int) (S : Sto) : R D := match i with
  | some i => .ok (.int (-i)) S
  | none => .no
theorem negR_some {i : Int} : negR (some i) S = .ok (.int (-i)) S := Eq.trans rfl rfl
theorem r_neg {a : Ex} : ev F (.neg a) ρ S = (ev F a ρ S).bind fun x S => (asI x S).bind negR := by
  rw [ev]
  congr
theorem r_nt {a : Ex} : ev F (.nt a) ρ S = (ev F a ρ S).bind fun x S => (asB x S).bind fun b S => .ok (.bl (!b)) S := by rw [ev]
theorem r_and {a b : Ex} : ev F (.and a b) ρ S = (ev F a ρ S).bind fun x S => (asB x S).bind fun t S => if t = true then ev F b ρ S else .ok (.bl false) S := by rw [ev]
theorem r_or {a b : Ex} : ev F (.or a b) ρ S = (ev F a ρ S).bind fun x S => (asB x S).bind fun t S => if t = true then .ok (.bl true) S else ev F b ρ S := by rw [ev]
theorem r_ite {c a b : Ex} : ev F (.ite c a b) ρ S = (ev F c ρ S).bind fun x S => (asB x S).bind fun t S => if t = true then ev F a ρ S else ev F b ρ S := by rw [ev]
theorem r_lst {es : Exs} : ev F (.lst es) ρ S = (evs F es ρ S).bind fun ds S => (small ds S).bind fun ds S => .ok (.lst ds) S := by rw [ev]
theorem r_tup {es : Exs} : ev F (.tup es) ρ S = (evs F es ρ S).bind fun ds S => (small ds S).bind fun ds S => .ok (.tup ds) S := by rw [ev]
theorem r_idx {a i : Ex} : ev F (.idx a i) ρ S = (ev F a ρ S).bind fun x S => (ev F i ρ S).bind fun y S => lift (idx x y) S := by rw [ev]
theorem r_slc0 {a : Ex} : ev F (.slc a none none) ρ S = (ev F a ρ S).bind fun x S => lift (slc x none none) S := by rw [ev]
theorem r_slc1 {a l : Ex} : ev F (.slc a (some l) none) ρ S = (ev F a ρ S).bind fun x S => (ev F l ρ S).bind fun l S => (asI l S).bind fun l S => lift (slc x l none) S := by rw [ev]
theorem r_slc2 {a h : Ex} : ev F (.slc a none (some h)) ρ S = (ev F a ρ S).bind fun x S => (ev F h ρ S).bind fun h S => (asI h S).bind fun h S => lift (slc x none h) S := by rw [ev]
theorem r_slc3 {a l h : Ex} : ev F (.slc a (some l) (some h)) ρ S = (ev F a ρ S).bind fun x S => (ev F l ρ S).bind fun l S => (asI l S).bind fun l S => (ev F h ρ S).bind fun h S => (asI h S).bind fun h S => lift (slc x l h) S := by rw [ev]
theorem r_rev {a : Ex} : ev F (.rev a) ρ S = (ev F a ρ S).bind fun x S => lift (revD x) S := by rw [ev]
theorem r_f1 {f : B1} {a : Ex} : ev F (.f1 f a) ρ S = (ev F a ρ S).bind fun x S => lift (b1 f x) S := by rw [ev]
theorem r_f2 {f : B2} {a b : Ex} : ev F (.f2 f a b) ρ S = (ev F a ρ S).bind fun x S => (ev F b ρ S).bind fun y S => lift (b2 f x y) S := by rw [ev]
theorem r_meth {f : M1} {a b : Ex} : ev F (.meth f a b) ρ S = (ev F a ρ S).bind fun x S => (asS x S).bind fun x S => (ev F b ρ S).bind fun y S => lift (m1 f x y) S := by rw [ev]
theorem r_isi {a : Ex} {t : Ty} : ev F (.isi a t) ρ S = (ev F a ρ S).bind fun x S => lift ((isA x t).map D.bl) S := by rw [ev]
def callR (o : Option Fn) (r : R (List D)) : R D := match o with
  | some g => r.bind g
  | none => .no
theorem callR_ok {g : Fn} {ds : List D} : callR (some g) (R.ok ds S) = g ds S := Eq.trans rfl rfl
theorem r_call {f : Nat} {es : Exs} : ev F (.call f es) ρ S = callR (F.fn f) (evs F es ρ S) := by
  rw [ev]
  cases F.fn f <;> rfl
def callO (o : Option Fn) (r : R (List D)) : R D := match o with
  | some g => r.bind fun ds S => noSto (g ds S)
  | none => .no
theorem callO_ok {g : Fn} {ds : List D} : callO (some g) (R.ok ds S) = noSto (g ds S) := Eq.trans rfl rfl
theorem r_callO {f : Nat} {es : Exs} : ev F (.callO f es) ρ S = callO (F.fn f) (evs F es ρ S) := by
  rw [ev]
  cases F.fn f <;> rfl
def lmR (f : LM) (x : D) (r : R D) : R D := if lmOk f x = true then r.bind fun y S => lift (lm f x y) S else .no
theorem r_lmeth {f : LM} {a b : Ex} : ev F (.lmeth f a b) ρ S = (ev F a ρ S).bind fun x S => lmR f x (ev F b ρ S) := by rw [ev]; rfl
theorem lmR_count {xs : List D} {y : D} : lmR .count (.lst xs) (.ok y S) = lift (lm .count (.lst xs) y) S := Eq.trans rfl rfl
theorem lmR_index {xs : List D} {y : D} : lmR .index (.lst xs) (.ok y S) = lift (lm .index (.lst xs) y) S := Eq.trans rfl rfl
def nrR (x y z : D) (S : Sto) : R D := match x, y, z with
  | .int i, .int j, .int k => .ok (.bl (!decide (j ≤ i ∧ i < k))) S
  | _, _, _ => .no
theorem nrR_int {i j k : Int} : nrR (.int i) (.int j) (.int k) S = .ok (.bl (!decide (j ≤ i ∧ i < k))) S := Eq.trans rfl rfl
theorem r_nrng {a b c : Ex} : ev F (.nrng a b c) ρ S = (ev F a ρ S).bind fun x S => (ev F b ρ S).bind fun y S => (ev F c ρ S).bind fun z S => nrR x y z S := by rw [ev]; rfl
theorem r_lzip {a b : Ex} : ev F (.lzip a b) ρ S = (ev F a ρ S).bind fun x S => (ev F b ρ S).bind fun y S => lift (lzipD x y) S := by rw [ev]
theorem ex_cpy {i : Nat} {e : Ex} : ex F (.cpy i e) ρ S = (ev F e ρ S).then ρ fun x S => ownIn i (b1 .list x) ρ S := by rw [ex]
theorem ex_thaw {i f : Nat} {es : Exs} {g : Fn} (h : F.fr f = some g) : ex F (.thaw i f es) ρ S = ((evs F es ρ S).bind g).then ρ fun x S => ownIn i (some x) ρ S := by rw [ex, h]
theorem ex_put {i : Nat} {j e : Ex} {ds : List D} (h : ρ[i]? = some (.own ds)) : ex F (.put i j e) ρ S = (ev F e ρ S).then ρ fun v S => (ev F j ρ S).then ρ fun w S => putAt i ds v w ρ S := by rw [ex, h]
theorem putAt_ok {i : Nat} {ds : List D} {v : D} {n : Int} {q : Nat} (hf : flat v = true) (hq : ix ds.length n = some q) : putAt i ds v (.int n) ρ S = .ok (.nx (ρ.set i (.own (ds.set q v)))) S := by simp [putAt, hf, hq]
theorem ex_par {i j : Nat} {a b : Ex} : ex F (.par i j a b) ρ S = (ev F a ρ S).then ρ fun x S => (ev F b ρ S).then ρ fun y S => .ok (.nx ((ρ.set i (.val x)).set j (.val y))) S := by rw [ex]
theorem ex_retF {e : Ex} : ex F (.retF e) ρ S = (ev F e ρ S).then ρ fun x S => retL x S := by rw [ex]
theorem tabY_fn {l : List (Nat × Fn)} {g : List (Nat × D)} {es : List Nat} {fr : List (Nat × Fn)} {i : Nat} : (tabY l g es fr).fn i = l.lookup i := Eq.trans rfl rfl
theorem tabY_gl {l : List (Nat × Fn)} {g : List (Nat × D)} {es : List Nat} {fr : List (Nat × Fn)} {i : Nat} : (tabY l g es fr).gl i = g.lookup i := Eq.trans rfl rfl
theorem fF1 {n : Nat} {b : Sms} {x : D} : fnOfF F 1 n b [x] S = (exs F b (.val x :: List.replicate (n - 1) .emp) S).endsF := Eq.trans rfl rfl
theorem fF2 {n : Nat} {b : Sms} {x y : D} : fnOfF F 2 n b [x, y] S = (exs F b (.val x :: .val y :: List.replicate (n - 2) .emp) S).endsF := Eq.trans rfl rfl
theorem r_nil : evs F .nil ρ S = .ok [] S := by rw [evs]
theorem r_cons {e : Ex} {es : Exs} : evs F (.cons e es) ρ S = (ev F e ρ S).bind fun x S => (evs F es ρ S).bind fun r S => .ok (x :: r) S := by rw [evs]
theorem tab_fn {l : List (Nat × Fn)} {g : List (Nat × D)} {i : Nat} : (tabOf l g).fn i = l.lookup i := Eq.trans rfl rfl
theorem tab_gl {l : List (Nat × Fn)} {g : List (Nat × D)} {i : Nat} : (tabOf l g).gl i = g.lookup i := Eq.trans rfl rfl
theorem tabX_fn {l : List (Nat × Fn)} {g : List (Nat × D)} {es : List Nat} {i : Nat} : (tabX l g es).fn i = l.lookup i := Eq.trans rfl rfl
theorem tabX_gl {l : List (Nat × Fn)} {g : List (Nat × D)} {es : List Nat} {i : Nat} : (tabX l g es).gl i = g.lookup i := Eq.trans rfl rfl
theorem look_hit {α : Type} {i : Nat} {x : α} {l : List (Nat × α)} : List.lookup i ((i, x) :: l) = some x := by simp [List.lookup]
theorem look_miss {α : Type} {i j : Nat} {x : α} {l : List (Nat × α)} (h : (i == j) = false) : List.lookup i ((j, x) :: l) = l.lookup i := by simp [List.lookup, h]
end
end Mi
/-! Mini: how data, the store and the slots lie in the layer's heap. -/
namespace Mi
open PySem (Str Addr Value Expr Stmt Scope)
open L2 (V Hp HO Key upd Rd SqL SqT)

/-! ### heaps that grow -/
structure Ext (m : List Addr) (H : Hp) (m' : List Addr) (H' : Hp) : Prop where
  pre : ∃ l, m' = m ++ l ∧ ∀ a ∈ l, H a = none
  keep : ∀ a o, a ∉ m → H a = some o → H' a = some o
  live : ∀ a, H a ≠ none → H' a ≠ none
theorem Ext.refl (m : List Addr) (H : Hp) : Ext m H m H := ⟨⟨[], by simp, by simp⟩, fun _ _ _ h => h, fun _ h => h⟩
theorem Ext.sub {m m' : List Addr} {H H' : Hp} (e : Ext m H m' H') {a : Addr} (h : a ∈ m) : a ∈ m' := by
  obtain ⟨l, rfl, _⟩ := e.pre
  exact List.mem_append_left _ h
theorem Ext.out {m m' : List Addr} {H H' : Hp} (e : Ext m H m' H') {a : Addr} (h : a ∉ m) (hn : H a ≠ none) : a ∉ m' := by
  obtain ⟨l, rfl, hl⟩ := e.pre
  intro z
  rcases List.mem_append.mp z with z | z
  · exact h z
  · exact hn (hl a z)
theorem Ext.back {m m' : List Addr} {H H' : Hp} (e : Ext m H m' H') {a : Addr} (h : H' a = none) : H a = none := by
  cases q : H a with
  | none => rfl
  | some o => exact absurd h (e.live a (by rw [q]; exact fun z => nomatch z))
theorem Ext.trans {m m1 m2 : List Addr} {H H1 H2 : Hp} (a : Ext m H m1 H1) (b : Ext m1 H1 m2 H2) : Ext m H m2 H2 := by
  obtain ⟨l, rfl, hl⟩ := a.pre
  obtain ⟨l2, rfl, hl2⟩ := b.pre
  refine ⟨⟨l ++ l2, by simp, fun x hx => ?_⟩, fun x o hx h => ?_, fun x h => b.live x (a.live x h)⟩
  · rcases List.mem_append.mp hx with hx | hx
    · exact hl x hx
    · exact a.back (hl2 x hx)
  · exact b.keep x o (a.out hx (by rw [h]; exact fun z => nomatch z)) (a.keep x o hx h)
theorem upd_at {H : Hp} {a : Addr} {o : HO} : upd H a o a = some o := L2.upd_same
theorem Ext.new {m : List Addr} {H : Hp} {p : Addr} {o : HO} (h : H p = none) : Ext m H m (upd H p o) := by
  refine ⟨⟨[], by simp, by simp⟩, fun a u _ e => ?_, fun a e => ?_⟩
  · rw [L2.upd_ne (L2.ne_of_none e h)]; exact e
  · by_cases q : a = p
    · rw [q, upd_at]; exact fun z => nomatch z
    · rw [L2.upd_ne q]; exact e
theorem Ext.rd {m m' : List Addr} {H H' : Hp} (e : Ext m H m' H') {p : Addr} {u : HO} (hm : p ∉ m) (h : Rd H p u) : Rd H' p u := by
  rcases h with h | ⟨o, h⟩
  · exact .inl (e.keep p _ hm h)
  · exact .inr ⟨o, e.keep p _ hm h⟩
theorem rd_some {H : Hp} {p : Addr} {u : HO} (h : Rd H p u) : H p ≠ none := by
  rcases h with h | ⟨o, h⟩ <;> (rw [h]; exact fun z => nomatch z)

theorem is_some {H : Hp} {p : Addr} {u : HO} (h : H p = some u) : H p ≠ none := by rw [h]; exact fun z => nomatch z

/-! ### data in the heap: m the store's places, A the places to be left out -/
/-- a tuple of the written part -/
def KTup (K : PySem.W.Frag) (a : Addr) (xs : List V) : Prop :=
  ∃ (o : PySem.Obj) (its : Array Value) (n : Nat), K.lookup a = some o ∧ o.cls = .type "tuple" ∧ o.data = .seq its n ∧ its.size ≤ PySem.sizeLine ∧ L2.Vals xs its.toList
/-- a text: its signs, its length -/
def OkS (s : List Nat) : Prop := (∀ c ∈ s, c < 1114112) ∧ s.length ≤ PySem.sizeLine
/-- the script's list -/
def ScrL (K : PySem.W.Frag) (m : List Addr) (A : Addr → Prop) (H : Hp) (p : Addr) (ns : List Int) : Prop :=
  (Rd H p (.lst (ns.map V.int)) ∧ p ∉ m ∧ ¬ A p) ∨ ∃ (o : PySem.Obj) (its : Array Value) (n : Nat), K.lookup p = some o ∧ o.cls = .type "list" ∧ o.dict = none ∧ o.data = .seq its n ∧ its.size ≤ PySem.sizeLine ∧ L2.Vals (ns.map V.int) its.toList
theorem ScrL.sq {K : PySem.W.Frag} {m : List Addr} {A : Addr → Prop} {H : Hp} {p : Addr} {ns : List Int} (h : ScrL K m A H p ns) : SqL K H p (ns.map V.int) := h.elim (fun h => .inl h.1) .inr
def strB : D → Bool
  | .str _ => true
  | _ => false
mutual
inductive RV (K : PySem.W.Frag) (m : List Addr) (A : Addr → Prop) (H : Hp) : V → D → Prop
  | non : RV K m A H .non .non
  | bl (b : Bool) : RV K m A H (.bl b) (.bl b)
  | int (i : Int) : RV K m A H (.int i) (.int i)
  | str (x : Str) : OkS x.cps.toList → RV K m A H (.str x) (.str x.cps.toList)
  | lst {p : Addr} {vs : List V} {ds : List D} : H p = some (.lst vs) → p ∉ m → ¬ A p → RL K m A H vs ds → RV K m A H (.ref p) (.lst ds)
  | tup {p : Addr} {vs : List V} {ds : List D} : H p = some (.tup vs) → p ∉ m → ¬ A p → RL K m A H vs ds → RV K m A H (.ref p) (.tup ds)
  | ktp {p : Addr} {vs : List V} {ds : List D} : KTup K p vs → ds.all strB = true → RL K m A H vs ds → RV K m A H (.ref p) (.tup ds)
  | obj {n : Nat} {a : Addr} : m[n]? = some a → RV K m A H (.ref a) (.obj n)
  | scr {p : Addr} {ns : List Int} : ScrL K m A H p ns → RV K m A H (.ref p) (.scr ns)
inductive RL (K : PySem.W.Frag) (m : List Addr) (A : Addr → Prop) (H : Hp) : List V → List D → Prop
  | nil : RL K m A H [] []
  | cons {v : V} {vs : List V} {d : D} {ds : List D} : RV K m A H v d → RL K m A H vs ds → RL K m A H (v :: vs) (d :: ds)
end
section
variable {K : PySem.W.Frag} {m m' : List Addr} {A A' : Addr → Prop} {H H' : Hp}
theorem getElem_ext (e : Ext m H m' H') {n : Nat} {a : Addr} (h : m[n]? = some a) : m'[n]? = some a := by
  obtain ⟨l, rfl, _⟩ := e.pre
  rw [List.getElem?_append_left (List.getElem?_eq_some_iff.mp h).1]
  exact h
mutual
theorem RV.mono (e : Ext m H m' H') (hA : ∀ a, A' a → A a ∨ H a = none) : ∀ {v : V} {d : D}, RV K m A H v d → RV K m' A' H' v d
  | _, _, .non => .non
  | _, _, .bl b => .bl b
  | _, _, .int i => .int i
  | _, _, .str x h => .str x h
  | _, _, .lst h hm ha r => .lst (e.keep _ _ hm h) (e.out hm (is_some h)) (fun z => (hA _ z).elim ha (is_some h)) (RL.mono e hA r)
  | _, _, .tup h hm ha r => .tup (e.keep _ _ hm h) (e.out hm (is_some h)) (fun z => (hA _ z).elim ha (is_some h)) (RL.mono e hA r)
  | _, _, .scr h => .scr (h.elim (fun ⟨h, hm, ha⟩ => .inl ⟨e.rd hm h, e.out hm (rd_some h), fun z => (hA _ z).elim ha (rd_some h)⟩) .inr)
  | _, _, .ktp h b r => .ktp h b (RL.mono e hA r)
  | _, _, .obj h => .obj (getElem_ext e h)
theorem RL.mono (e : Ext m H m' H') (hA : ∀ a, A' a → A a ∨ H a = none) : ∀ {vs : List V} {ds : List D}, RL K m A H vs ds → RL K m' A' H' vs ds
  | _, _, .nil => .nil
  | _, _, .cons r t => .cons (RV.mono e hA r) (RL.mono e hA t)
end
theorem RV.ext (e : Ext m H m' H') {v : V} {d : D} (r : RV K m A H v d) : RV K m' A H' v d := r.mono e fun _ z => .inl z
theorem RL.ext (e : Ext m H m' H') {v : List V} {d : List D} (r : RL K m A H v d) : RL K m' A H' v d := r.mono e fun _ z => .inl z
theorem RV.less (hA : ∀ a, A' a → A a) {v : V} {d : D} (r : RV K m A H v d) : RV K m A' H v d := r.mono (Ext.refl m H) fun a z => .inl (hA a z)
theorem RL.less (hA : ∀ a, A' a → A a) {v : List V} {d : List D} (r : RL K m A H v d) : RL K m A' H v d := r.mono (Ext.refl m H) fun a z => .inl (hA a z)
theorem RL.length : ∀ {vs : List V} {ds : List D}, RL K m A H vs ds → vs.length = ds.length
  | _, _, .nil => rfl
  | _, _, .cons _ t => by rw [List.length_cons, List.length_cons, RL.length t]
theorem RL.get : ∀ {vs : List V} {ds : List D} {i : Nat} {d : D}, RL K m A H vs ds → ds[i]? = some d → ∃ v, vs[i]? = some v ∧ RV K m A H v d
  | _, _, _, _, .nil, e => by simp at e
  | _, _, 0, _, .cons r _, e => by simp at e; subst e; exact ⟨_, rfl, r⟩
  | _, _, i + 1, d, .cons _ t, e => by
    obtain ⟨u, h1, h2⟩ := RL.get (i := i) (d := d) t (by simpa using e)
    exact ⟨u, by simpa using h1, h2⟩
theorem RL.getV : ∀ {vs : List V} {ds : List D} {i : Nat} {v : V}, RL K m A H vs ds → vs[i]? = some v → ∃ d, ds[i]? = some d ∧ RV K m A H v d
  | _, _, _, _, .nil, e => by simp at e
  | _, _, 0, _, .cons r _, e => by simp at e; subst e; exact ⟨_, rfl, r⟩
  | _, _, i + 1, d, .cons _ t, e => by
    obtain ⟨u, h1, h2⟩ := RL.getV (i := i) (v := d) t (by simpa using e)
    exact ⟨u, by simpa using h1, h2⟩
theorem RL.append : ∀ {vs ws : List V} {ds es : List D}, RL K m A H vs ds → RL K m A H ws es → RL K m A H (vs ++ ws) (ds ++ es)
  | _, _, _, _, .nil, s => s
  | _, _, _, _, .cons r t, s => .cons r (RL.append t s)
theorem RL.take : ∀ {vs : List V} {ds : List D} (n : Nat), RL K m A H vs ds → RL K m A H (vs.take n) (ds.take n)
  | _, _, 0, _ => .nil
  | _, _, _ + 1, .nil => .nil
  | _, _, n + 1, .cons r t => .cons r (RL.take n t)
theorem RL.drop : ∀ {vs : List V} {ds : List D} (n : Nat), RL K m A H vs ds → RL K m A H (vs.drop n) (ds.drop n)
  | _, _, 0, r => r
  | _, _, _ + 1, .nil => .nil
  | _, _, n + 1, .cons _ t => RL.drop n t
theorem RL.reverse : ∀ {vs : List V} {ds : List D}, RL K m A H vs ds → RL K m A H vs.reverse ds.reverse
  | _, _, .nil => .nil
  | _, _, .cons r t => by
    rw [List.reverse_cons, List.reverse_cons]
    exact (RL.reverse t).append (.cons r .nil)
theorem RL.reps {vs : List V} {ds : List D} (r : RL K m A H vs ds) : ∀ n : Nat, RL K m A H (List.replicate n vs).flatten (List.replicate n ds).flatten
  | 0 => .nil
  | n + 1 => by
    rw [List.replicate_succ, List.replicate_succ, List.flatten_cons, List.flatten_cons]
    exact r.append (RL.reps r n)
theorem RL.set {v : V} {d : D} (r : RV K m A H v d) : ∀ {vs : List V} {ds : List D} (i : Nat), RL K m A H vs ds → RL K m A H (vs.set i v) (ds.set i d)
  | _, _, _, .nil => .nil
  | _, _, 0, .cons _ t => .cons r t
  | _, _, i + 1, .cons q t => .cons q (RL.set r i t)
/-- lists, tuples, to be read -/
theorem sqL_of {p : Addr} {vs : List V} (h : H p = some (.lst vs)) : SqL K H p vs := .inl (.inl h)
theorem sqT_of {p : Addr} {vs : List V} (h : H p = some (.tup vs)) : SqT K H p vs := .inl (.inl h)
theorem sqT_k {p : Addr} {vs : List V} (h : KTup K p vs) : SqT K H p vs := .inr h
theorem RV.inv_lst {v : V} {ds : List D} (r : RV K m A H v (.lst ds)) : ∃ p vs, v = .ref p ∧ H p = some (.lst vs) ∧ p ∉ m ∧ ¬ A p ∧ RL K m A H vs ds := by
  cases r with
  | lst h hm ha r => exact ⟨_, _, rfl, h, hm, ha, r⟩
theorem RV.inv_tup {v : V} {ds : List D} (r : RV K m A H v (.tup ds)) : ∃ p vs, v = .ref p ∧ SqT K H p vs ∧ RL K m A H vs ds := by
  cases r with
  | tup h hm ha r => exact ⟨_, _, rfl, sqT_of h, r⟩
  | ktp h _ r => exact ⟨_, _, rfl, sqT_k h, r⟩
theorem RV.inv_int {v : V} {i : Int} (r : RV K m A H v (.int i)) : v = .int i := by cases r; rfl
theorem RV.inv_bl {v : V} {i : Bool} (r : RV K m A H v (.bl i)) : v = .bl i := by cases r; rfl
theorem RV.inv_non {v : V} (r : RV K m A H v .non) : v = .non := by cases r; rfl
theorem RV.inv_str {v : V} {s : List Nat} (r : RV K m A H v (.str s)) : v = .str ⟨s.toArray⟩ ∧ OkS s := by
  cases r with
  | str x h => exact ⟨by simp, h⟩
theorem rv_str {s : List Nat} (h : OkS s) : RV K m A H (.str ⟨s.toArray⟩) (.str s) := by
  have := RV.str (K := K) (m := m) (A := A) (H := H) ⟨s.toArray⟩ (by simpa using h)
  simpa using this
theorem RL.asInts {ds : List D} : ∀ {vs : List V} {ns : List Int}, RL K m A H vs ds → intsD ds = some ns → vs = ns.map V.int := by
  induction ds with
  | nil => intro vs ns r e; cases r; cases e; rfl
  | cons d ds ih =>
    intro vs ns r e
    cases r with
    | cons r t =>
      cases d with
      | int i =>
        simp only [intsD] at e
        cases q : intsD ds with
        | none => rw [q] at e; cases e
        | some l =>
          rw [q] at e
          cases e
          rw [r.inv_int, ih t q] <;> rfl
      | _ => cases e
theorem RL.asBools {ds : List D} : ∀ {vs : List V} {ns : List Bool}, RL K m A H vs ds → boolsD ds = some ns → vs = ns.map V.bl := by
  induction ds with
  | nil => intro vs ns r e; cases r; cases e; rfl
  | cons d ds ih =>
    intro vs ns r e
    cases r with
    | cons r t =>
      cases d with
      | bl i =>
        simp only [Mi.boolsD] at e
        cases q : Mi.boolsD ds with
        | none => rw [q] at e; cases e
        | some l =>
          rw [q] at e
          cases e
          rw [r.inv_bl, ih t q] <;> rfl
      | _ => cases e
theorem RL.asStrs {ds : List D} : ∀ {vs : List V} {ns : List (List Nat)}, RL K m A H vs ds → strsD ds = some ns → (vs = ns.map fun s => V.str ⟨s.toArray⟩) ∧ ∀ s ∈ ns, OkS s := by
  induction ds with
  | nil => intro vs ns r e; cases r; cases e; exact ⟨rfl, fun _ z => nomatch z⟩
  | cons d ds ih =>
    intro vs ns r e
    cases r with
    | cons r t =>
      cases d with
      | str i =>
        simp only [Mi.strsD] at e
        cases q : Mi.strsD ds with
        | none => rw [q] at e; cases e
        | some l =>
          rw [q] at e
          cases e
          obtain ⟨h1, h2⟩ := r.inv_str
          obtain ⟨h3, h4⟩ := ih t q
          refine ⟨by rw [h1, h3] <;> rfl, fun s hs => ?_⟩
          rcases List.mem_cons.mp hs with e | e
          · rw [e]; exact h2
          · exact h4 s e
      | _ => cases e
end

/-! ### the store -/
/-- what the names of classes and fields stand for -/
structure Gx where
  K : PySem.W.Frag
  cls : Nat → Addr
  fld : Nat → Str
  ea : Addr
def CellR (G : Gx) (m : List Addr) (A : Addr → Prop) (H : Hp) (a : Addr) : Cell → Prop
  | .ins C fs => ∃ dx fvs, H a = some (.ins (G.cls C) dx fvs) ∧ H dx = some (.own a) ∧ dx ∉ m ∧ ¬ A dx ∧ fvs.map (·.1) = fs.map (fun q => G.fld q.1) ∧ RL G.K m A H (fvs.map (·.2)) (fs.map (·.2))
  | .dic kvs => ∃ ks : List (Key × V), H a = some (.dK ks) ∧ ks.map (·.1) = kvs.map (fun q => Sum.inr (⟨q.1.toArray⟩ : Str)) ∧ RL G.K m A H (ks.map (·.2)) (kvs.map (·.2))
structure SR (G : Gx) (m : List Addr) (A : Addr → Prop) (S : Sto) (H : Hp) : Prop where
  nd : m.Nodup
  len : m.length = S.length
  cell : ∀ (i : Nat) (a : Addr) (c : Cell), m[i]? = some a → S[i]? = some c → CellR G m A H a c
theorem CellR.some {G : Gx} {m : List Addr} {A : Addr → Prop} {H : Hp} {a : Addr} {c : Cell} (h : CellR G m A H a c) : H a ≠ none := by
  cases c with
  | ins C fs => obtain ⟨_, _, e, _⟩ := h; rw [e]; exact fun z => nomatch z
  | dic kvs => obtain ⟨_, e, _⟩ := h; rw [e]; exact fun z => nomatch z
theorem SR.live {G : Gx} {m : List Addr} {A : Addr → Prop} {S : Sto} {H : Hp} (s : SR G m A S H) {a : Addr} (h : a ∈ m) : H a ≠ none := by
  obtain ⟨i, hi, e⟩ := List.getElem_of_mem h
  have q : m[i]? = .some a := by rw [List.getElem?_eq_getElem hi, e]
  have hi' : i < S.length := by rw [← s.len]; exact hi
  exact (s.cell i a S[i] q (by rw [List.getElem?_eq_getElem hi'])).some
theorem CellR.less {G : Gx} {m : List Addr} {A A' : Addr → Prop} {H : Hp} {a : Addr} {c : Cell} (hA : ∀ a, A' a → A a) (h : CellR G m A H a c) : CellR G m A' H a c := by
  cases c with
  | ins C fs => obtain ⟨dx, fvs, e, e2, e3, e4, e5, r⟩ := h; exact ⟨dx, fvs, e, e2, e3, fun z => e4 (hA _ z), e5, r.less hA⟩
  | dic kvs => obtain ⟨ks, e, e5, r⟩ := h; exact ⟨ks, e, e5, r.less hA⟩
theorem SR.less {G : Gx} {m : List Addr} {A A' : Addr → Prop} {S : Sto} {H : Hp} (hA : ∀ a, A' a → A a) (s : SR G m A S H) : SR G m A' S H :=
  ⟨s.nd, s.len, fun i a c h h' => (s.cell i a c h h').less hA⟩
/-- the places of m untouched, the rest grows -/
theorem CellR.grow {G : Gx} {m : List Addr} {A A' : Addr → Prop} {H H' : Hp} {a : Addr} {c : Cell} (e : Ext m H m H') (hA : ∀ a, A' a → A a ∨ H a = none) (hs : H' a = H a) (h : CellR G m A H a c) : CellR G m A' H' a c := by
  cases c with
  | ins C fs =>
    obtain ⟨dx, fvs, e1, e2, e3, e4, e5, r⟩ := h
    exact ⟨dx, fvs, hs.trans e1, e.keep dx _ e3 e2, e3, fun z => (hA _ z).elim e4 (by rw [e2]; exact fun z => nomatch z), e5, r.mono e hA⟩
  | dic kvs =>
    obtain ⟨ks, e1, e5, r⟩ := h
    exact ⟨ks, hs.trans e1, e5, r.mono e hA⟩
theorem SR.grow {G : Gx} {m : List Addr} {A A' : Addr → Prop} {S : Sto} {H H' : Hp} (e : Ext m H m H') (hA : ∀ a, A' a → A a ∨ H a = none) (hs : ∀ a ∈ m, H' a = H a) (s : SR G m A S H) : SR G m A' S H' :=
  ⟨s.nd, s.len, fun i a c h h' => (s.cell i a c h h').grow e hA (hs a (List.mem_of_getElem? h))⟩

/-! ### a frame -/
/-- A0: the places that the frame keeps away from; P: the things that stand; m0, H0: the entry -/
structure Fr where
  A0 : Addr → Prop
  P : Addr → HO → Prop
  m0 : List Addr
  H0 : Hp
  mp : List Addr
def Own (σ : L2.St) (ρ : Env) (a : Addr) : Prop := ∃ (i : Nat) (ds : List D), ρ[i]? = some (Slot.own ds) ∧ σ[i]? = some (some (V.ref a))
def Av (f : Fr) (σ : L2.St) (ρ : Env) (a : Addr) : Prop := f.A0 a ∨ Own σ ρ a
structure St (G : Gx) (f : Fr) (σ : L2.St) (H : Hp) (ρ : Env) (S : Sto) (m : List Addr) : Prop where
  sr : SR G m (Av f σ ρ) S H
  val : ∀ (i : Nat) (d : D), ρ[i]? = some (Slot.val d) → ∃ v, σ[i]? = some (some v) ∧ RV G.K m (Av f σ ρ) H v d
  own : ∀ (i : Nat) (ds : List D), ρ[i]? = some (Slot.own ds) → ∃ p vs, σ[i]? = some (some (V.ref p)) ∧ p ∉ m ∧ ¬ f.A0 p ∧ H p = some (HO.lst vs) ∧ RL G.K m (Av f σ ρ) H vs ds
  uniq : ∀ (i j : Nat) (ds es : List D) (p : Addr), ρ[i]? = some (Slot.own ds) → ρ[j]? = some (Slot.own es) → σ[i]? = some (some (V.ref p)) → σ[j]? = some (some (V.ref p)) → i = j
  prot : ∀ a o, f.P a o → H a = some o ∧ a ∉ m ∧ ¬ Own σ ρ a
  live : ∀ a, f.A0 a → H a ≠ none
  ent : Ext f.m0 f.H0 m H
  mpre : ∃ l, m = f.mp ++ l
  fresh : ∀ a, Own σ ρ a → f.H0 a = none
  len : σ.length = ρ.length
  err : ∀ i : Nat, ρ[i]? = some Slot.err → σ[i]? = some (some (V.ref G.ea))
theorem err_set {σ : L2.St} {ρ : Env} {a : Addr} {i : Nat} {x : Slot} {v : Option V} (hx : x ≠ .err) (h : ∀ j : Nat, ρ[j]? = some Slot.err → σ[j]? = some (some (V.ref a))) : ∀ j : Nat, (ρ.set i x)[j]? = some Slot.err → (σ.set i v)[j]? = some (some (V.ref a)) := by
  intro j hj
  by_cases e : i = j
  · subst e
    by_cases hl : i < ρ.length
    · rw [List.getElem?_set_self hl] at hj
      exact (hx (Option.some.inj hj)).elim
    · rw [List.getElem?_eq_none (by simpa using hl)] at hj; cases hj
  · rw [List.getElem?_set_ne e] at hj ⊢
    exact h j hj
theorem err_set' {σ : L2.St} {ρ : Env} {a : Addr} {i : Nat} {x : Slot} (hx : x ≠ .err) (h : ∀ j : Nat, ρ[j]? = some Slot.err → σ[j]? = some (some (V.ref a))) : ∀ j : Nat, (ρ.set i x)[j]? = some Slot.err → σ[j]? = some (some (V.ref a)) := by
  intro j hj
  by_cases e : i = j
  · subst e
    by_cases hl : i < ρ.length
    · rw [List.getElem?_set_self hl] at hj
      exact (hx (Option.some.inj hj)).elim
    · rw [List.getElem?_eq_none (by simpa using hl)] at hj; cases hj
  · rw [List.getElem?_set_ne e] at hj
    exact h j hj
theorem St.liveA {G : Gx} {f : Fr} {σ : L2.St} {H : Hp} {ρ : Env} {S : Sto} {m : List Addr} (s : St G f σ H ρ S m) {a : Addr} (h : Av f σ ρ a) : H a ≠ none := by
  rcases h with h | ⟨i, ds, h1, h2⟩
  · exact s.live a h
  · obtain ⟨p, vs, e, _, _, e2, _⟩ := s.own i ds h1
    rw [h2] at e
    cases e
    rw [e2]; exact fun z => nomatch z
/-- an expression came behind: the heap has grown -/
theorem St.ext {G : Gx} {f : Fr} {σ : L2.St} {H H' : Hp} {ρ : Env} {S S' : Sto} {m m' : List Addr} (s : St G f σ H ρ S m) (e : Ext m H m' H') (sr : SR G m' (Av f σ ρ) S' H') : St G f σ H' ρ S' m' where
  sr := sr
  val := fun i d h => by
    obtain ⟨v, h1, h2⟩ := s.val i d h
    exact ⟨v, h1, h2.ext e⟩
  own := fun i ds h => by
    obtain ⟨p, vs, h1, h2, h3, h4, h5⟩ := s.own i ds h
    exact ⟨p, vs, h1, e.out h2 (by rw [h4]; exact fun z => nomatch z), h3, e.keep p _ h2 h4, h5.ext e⟩
  uniq := s.uniq
  prot := fun a o h => by
    obtain ⟨h1, h2, h3⟩ := s.prot a o h
    exact ⟨e.keep a o h2 h1, e.out h2 (by rw [h1]; exact fun z => nomatch z), h3⟩
  live := fun a h => e.live a (s.live a h)
  ent := s.ent.trans e
  mpre := by
    obtain ⟨l, h⟩ := s.mpre
    obtain ⟨l', h', _⟩ := e.pre
    exact ⟨l ++ l', by rw [h', h, List.append_assoc]⟩
  fresh := s.fresh
  len := s.len
  err := s.err
/-- .. by a new thing alone -/
theorem St.new {G : Gx} {f : Fr} {σ : L2.St} {H : Hp} {ρ : Env} {S : Sto} {m : List Addr} {p : Addr} {o : HO} (s : St G f σ H ρ S m) (h : H p = none) : St G f σ (upd H p o) ρ S m :=
  s.ext (Ext.new h) (s.sr.grow (Ext.new h) (fun _ z => .inl z) fun a ha => L2.upd_ne fun z => s.sr.live ha (by rw [z]; exact h))

/-! ### what stands, stays -/
structure Kp (m : List Addr) (A : Addr → Prop) (H : Hp) (m' : List Addr) (A' : Addr → Prop) (H' : Hp) : Prop where
  pre : ∃ l, m' = m ++ l
  keep : ∀ a o, a ∉ m → ¬ A a → H a = some o → H' a = some o ∧ a ∉ m' ∧ ¬ A' a
section
variable {K : PySem.W.Frag} {m m' m2 : List Addr} {A A' A2 : Addr → Prop} {H H' H2 : Hp}
theorem Kp.rd (e : Kp m A H m' A' H') {p : Addr} {u : HO} (hm : p ∉ m) (ha : ¬ A p) (h : Rd H p u) : Rd H' p u ∧ p ∉ m' ∧ ¬ A' p := by
  rcases h with h | ⟨o, h⟩
  · obtain ⟨h1, h2, h3⟩ := e.keep p _ hm ha h
    exact ⟨.inl h1, h2, h3⟩
  · obtain ⟨h1, h2, h3⟩ := e.keep p _ hm ha h
    exact ⟨.inr ⟨o, h1⟩, h2, h3⟩
theorem Kp.at (e : Kp m A H m' A' H') {n : Nat} {a : Addr} (h : m[n]? = some a) : m'[n]? = some a := by
  obtain ⟨l, rfl⟩ := e.pre
  rw [List.getElem?_append_left (List.getElem?_eq_some_iff.mp h).1]
  exact h
mutual
theorem RV.kept (e : Kp m A H m' A' H') : ∀ {v : V} {d : D}, RV K m A H v d → RV K m' A' H' v d
  | _, _, .non => .non
  | _, _, .bl b => .bl b
  | _, _, .int i => .int i
  | _, _, .str x h => .str x h
  | _, _, .lst h hm ha r => .lst (e.keep _ _ hm ha h).1 (e.keep _ _ hm ha h).2.1 (e.keep _ _ hm ha h).2.2 (RL.kept e r)
  | _, _, .tup h hm ha r => .tup (e.keep _ _ hm ha h).1 (e.keep _ _ hm ha h).2.1 (e.keep _ _ hm ha h).2.2 (RL.kept e r)
  | _, _, .ktp h b r => .ktp h b (RL.kept e r)
  | _, _, .obj h => .obj (e.at h)
  | _, _, .scr h => .scr (h.elim (fun ⟨h, hm, ha⟩ => .inl (e.rd hm ha h)) .inr)
theorem RL.kept (e : Kp m A H m' A' H') : ∀ {vs : List V} {ds : List D}, RL K m A H vs ds → RL K m' A' H' vs ds
  | _, _, .nil => .nil
  | _, _, .cons r t => .cons (RV.kept e r) (RL.kept e t)
end
theorem Kp.trans (a : Kp m A H m' A' H') (b : Kp m' A' H' m2 A2 H2) : Kp m A H m2 A2 H2 := by
  obtain ⟨l, h⟩ := a.pre
  obtain ⟨l', h'⟩ := b.pre
  refine ⟨⟨l ++ l', by rw [h', h, List.append_assoc]⟩, fun x o h1 h2 h3 => ?_⟩
  obtain ⟨k1, k2, k3⟩ := a.keep x o h1 h2 h3
  exact b.keep x o k2 k3 k1
theorem Ext.kp (e : Ext m H m' H') (hA : ∀ a, A' a → A a ∨ H a = none) : Kp m A H m' A' H' := by
  obtain ⟨l, h, _⟩ := id e.pre
  exact ⟨⟨l, h⟩, fun a o h1 h2 h3 => ⟨e.keep a o h1 h3, e.out h1 (is_some h3), fun z => (hA a z).elim h2 (is_some h3)⟩⟩
end
section
variable {G : Gx} {f : Fr} {σ : L2.St} {H H' : Hp} {ρ : Env} {S S' : Sto} {m m' : List Addr}
/-- a slot is set to a value -/
theorem own_set {i : Nat} {v : V} {d : D} {a : Addr} (h : Own (σ.set i (some v)) (ρ.set i (.val d)) a) : Own σ ρ a := by
  obtain ⟨j, ds, h1, h2⟩ := h
  by_cases e : i = j
  · subst e
    by_cases hl : i < ρ.length
    · rw [List.getElem?_set_self hl] at h1; cases h1
    · rw [List.getElem?_eq_none (by simpa using hl)] at h1; cases h1
  · rw [List.getElem?_set_ne e] at h1 h2
    exact ⟨j, ds, h1, h2⟩
theorem St.setv (s : St G f σ H ρ S m) {i : Nat} {v : V} {d : D} (r : RV G.K m (Av f σ ρ) H v d) : St G f (σ.set i (some v)) H (ρ.set i (.val d)) S m := by
  have hav : ∀ a, Av f (σ.set i (some v)) (ρ.set i (.val d)) a → Av f σ ρ a := fun a h => h.elim .inl fun z => .inr (own_set z)
  refine ⟨s.sr.less hav, fun j e h => ?_, fun j ds h => ?_, fun j l ds es p h1 h2 h3 h4 => ?_, fun a o h => ?_, s.live, s.ent, s.mpre, fun a h => s.fresh a (own_set h), by simpa using s.len, err_set (fun z => nomatch z) s.err⟩
  · by_cases hj : i = j
    · subst hj
      by_cases hl : i < ρ.length
      · rw [List.getElem?_set_self hl] at h
        cases h
        exact ⟨v, by rw [List.getElem?_set_self (by rw [s.len]; exact hl)], r.less hav⟩
      · rw [List.getElem?_eq_none (by simpa using hl)] at h; cases h
    · rw [List.getElem?_set_ne hj] at h
      obtain ⟨w, h1, h2⟩ := s.val j e h
      exact ⟨w, by rw [List.getElem?_set_ne hj]; exact h1, h2.less hav⟩
  · by_cases hj : i = j
    · subst hj
      by_cases hl : i < ρ.length
      · rw [List.getElem?_set_self hl] at h; cases h
      · rw [List.getElem?_eq_none (by simpa using hl)] at h; cases h
    · rw [List.getElem?_set_ne hj] at h
      obtain ⟨p, vs, h1, h2, h3, h4, h5⟩ := s.own j ds h
      exact ⟨p, vs, by rw [List.getElem?_set_ne hj]; exact h1, h2, h3, h4, h5.less hav⟩
  · have n1 : i ≠ j := fun e => by
      subst e
      by_cases hl : i < ρ.length
      · rw [List.getElem?_set_self hl] at h1; cases h1
      · rw [List.getElem?_eq_none (by simpa using hl)] at h1; cases h1
    have n2 : i ≠ l := fun e => by
      subst e
      by_cases hl : i < ρ.length
      · rw [List.getElem?_set_self hl] at h2; cases h2
      · rw [List.getElem?_eq_none (by simpa using hl)] at h2; cases h2
    rw [List.getElem?_set_ne n1] at h1 h3
    rw [List.getElem?_set_ne n2] at h2 h4
    exact s.uniq j l ds es p h1 h2 h3 h4
  · obtain ⟨h1, h2, h3⟩ := s.prot a o h
    exact ⟨h1, h2, fun z => h3 (own_set z)⟩
/-- a slot is forgotten -/
theorem own_emp {i : Nat} {a : Addr} (h : Own (σ.set i none) (ρ.set i .emp) a) : Own σ ρ a := by
  obtain ⟨j, ds, h1, h2⟩ := h
  by_cases e : i = j
  · subst e
    by_cases hl : i < ρ.length
    · rw [List.getElem?_set_self hl] at h1; cases h1
    · rw [List.getElem?_eq_none (by simpa using hl)] at h1; cases h1
  · rw [List.getElem?_set_ne e] at h1 h2
    exact ⟨j, ds, h1, h2⟩
theorem St.emp (s : St G f σ H ρ S m) (i : Nat) : St G f (σ.set i none) H (ρ.set i .emp) S m := by
  have hav : ∀ a, Av f (σ.set i none) (ρ.set i .emp) a → Av f σ ρ a := fun a h => h.elim .inl fun z => .inr (own_emp z)
  have ne : ∀ {j : Nat} {x : Slot}, x ≠ .emp → (ρ.set i .emp)[j]? = some x → i ≠ j := fun {j x} hx h e => by
    subst e
    by_cases hl : i < ρ.length
    · rw [List.getElem?_set_self hl] at h; exact hx (Option.some.inj h).symm
    · rw [List.getElem?_eq_none (by simpa using hl)] at h; cases h
  refine ⟨s.sr.less hav, fun j e h => ?_, fun j ds h => ?_, fun j l ds es p h1 h2 h3 h4 => ?_, fun a o h => ?_, s.live, s.ent, s.mpre, fun a h => s.fresh a (own_emp h), by simpa using s.len, err_set (fun z => nomatch z) s.err⟩
  · have hj := ne (by intro z; cases z) h
    rw [List.getElem?_set_ne hj] at h
    obtain ⟨w, h1, h2⟩ := s.val j e h
    exact ⟨w, by rw [List.getElem?_set_ne hj]; exact h1, h2.less hav⟩
  · have hj := ne (by intro z; cases z) h
    rw [List.getElem?_set_ne hj] at h
    obtain ⟨p, vs, h1, h2, h3, h4, h5⟩ := s.own j ds h
    exact ⟨p, vs, by rw [List.getElem?_set_ne hj]; exact h1, h2, h3, h4, h5.less hav⟩
  · have n1 := ne (by intro z; cases z) h1
    have n2 := ne (by intro z; cases z) h2
    rw [List.getElem?_set_ne n1] at h1 h3
    rw [List.getElem?_set_ne n2] at h2 h4
    exact s.uniq j l ds es p h1 h2 h3 h4
  · obtain ⟨h1, h2, h3⟩ := s.prot a o h
    exact ⟨h1, h2, fun z => h3 (own_emp z)⟩
theorem own_wipe : ∀ {vs : List Nat} {a : Addr}, Own (L2.wipe σ vs) (wipe ρ vs) a → Own σ ρ a
  | [], _, h => h
  | _ :: _, _, h => own_wipe (own_emp h)
theorem St.wiped (s : St G f σ H ρ S m) : ∀ vs : List Nat, St G f (L2.wipe σ vs) H (wipe ρ vs) S m
  | [] => s
  | v :: vs => (St.wiped s vs).emp v
/-- lists that are still made, out of sight -/
theorem noOwn_at {ρ : Env} {i : Nat} {x : Slot} (h : (noOwn ρ)[i]? = some x) : (∀ ds, x ≠ .own ds) ∧ (x ≠ .emp → ρ[i]? = some x) := by
  unfold noOwn at h
  rw [List.getElem?_map] at h
  cases q : ρ[i]? with
  | none => rw [q] at h; cases h
  | some y =>
    rw [q] at h
    cases y with
    | emp => cases h; exact ⟨(fun _ z => nomatch z), fun z => absurd rfl z⟩
    | val d => cases h; exact ⟨(fun _ z => nomatch z), fun _ => rfl⟩
    | err => cases h; exact ⟨(fun _ z => nomatch z), fun _ => rfl⟩
    | own d => cases h; exact ⟨(fun _ z => nomatch z), fun z => absurd rfl z⟩
def NoOwn (ρ : Env) : Prop := ∀ (i : Nat) (ds : List D), ρ[i]? ≠ some (Slot.own ds)
theorem noOwn_no (ρ : Env) : NoOwn (noOwn ρ) := fun i ds h => (noOwn_at h).1 ds rfl
theorem NoOwn.set {ρ : Env} (h : NoOwn ρ) {i : Nat} {x : Slot} (hx : ∀ ds, x ≠ .own ds) : NoOwn (ρ.set i x) := fun j ds e => by
  by_cases hj : i = j
  · subst hj
    by_cases hl : i < ρ.length
    · rw [List.getElem?_set_self hl] at e; exact hx ds (Option.some.inj e)
    · rw [List.getElem?_eq_none (by simpa using hl)] at e; cases e
  · rw [List.getElem?_set_ne hj] at e
    exact h j ds e
theorem NoOwn.wipe {ρ : Env} (h : NoOwn ρ) : ∀ vs : List Nat, NoOwn (wipe ρ vs)
  | [] => h
  | v :: vs => (NoOwn.wipe h vs).set fun _ z => nomatch z
theorem NoOwn.own {σ : L2.St} {ρ : Env} (h : NoOwn ρ) {a : Addr} : ¬ Own σ ρ a := fun ⟨i, ds, e, _⟩ => h i ds e
theorem bind_pair {a b : Tg} {d : D} {ρ ρ' : Env} (e : bindT (.pair a b) d ρ = some ρ') : ∃ x y ρ1, d = .tup [x, y] ∧ bindT a x ρ = some ρ1 ∧ bindT b y ρ1 = some ρ' := by
  cases d with
  | tup xs =>
    match xs, e with
    | [x, y], e =>
      simp only [bindT] at e
      cases q : bindT a x ρ with
      | none => rw [q] at e; cases e
      | some ρ1 => rw [q] at e; exact ⟨x, y, ρ1, rfl, q, e⟩
    | [], e => cases e
    | [_], e => cases e
    | _ :: _ :: _ :: _, e => cases e
  | _ => cases e
theorem bind_trip {a b c : Tg} {d : D} {ρ ρ' : Env} (e : bindT (.trip a b c) d ρ = some ρ') : ∃ x y z ρ1 ρ2, d = .tup [x, y, z] ∧ bindT a x ρ = some ρ1 ∧ bindT b y ρ1 = some ρ2 ∧ bindT c z ρ2 = some ρ' := by
  cases d with
  | tup xs =>
    match xs, e with
    | [x, y, z], e =>
      simp only [bindT] at e
      cases q : bindT a x ρ with
      | none => rw [q] at e; cases e
      | some ρ1 =>
        rw [q] at e
        simp only [Option.bind_some] at e
        cases q2 : bindT b y ρ1 with
        | none => rw [q2] at e; cases e
        | some ρ2 => rw [q2] at e; exact ⟨x, y, z, ρ1, ρ2, rfl, q, q2, e⟩
    | [], e => cases e
    | [_], e => cases e
    | [_, _], e => cases e
    | _ :: _ :: _ :: _ :: _, e => cases e
  | _ => cases e
theorem bind_quad {a b c d' : Tg} {d : D} {ρ ρ' : Env} (e : bindT (.quad a b c d') d ρ = some ρ') : ∃ x y z u ρ1 ρ2 ρ3, d = .tup [x, y, z, u] ∧ bindT a x ρ = some ρ1 ∧ bindT b y ρ1 = some ρ2 ∧ bindT c z ρ2 = some ρ3 ∧ bindT d' u ρ3 = some ρ' := by
  cases d with
  | tup xs =>
    match xs, e with
    | [x, y, z, u], e =>
      simp only [bindT] at e
      cases q : bindT a x ρ with
      | none => rw [q] at e; cases e
      | some ρ1 =>
        rw [q] at e
        simp only [Option.bind_some] at e
        cases q2 : bindT b y ρ1 with
        | none => rw [q2] at e; cases e
        | some ρ2 =>
          rw [q2] at e
          simp only [Option.bind_some] at e
          cases q3 : bindT c z ρ2 with
          | none => rw [q3] at e; cases e
          | some ρ3 => rw [q3] at e; exact ⟨x, y, z, u, ρ1, ρ2, ρ3, rfl, q, q2, q3, e⟩
    | [], e => cases e
    | [_], e => cases e
    | [_, _], e => cases e
    | [_, _, _], e => cases e
    | _ :: _ :: _ :: _ :: _ :: _, e => cases e
  | _ => cases e
theorem NoOwn.bind : ∀ {tg : Tg} {d : D} {ρ ρ' : Env}, NoOwn ρ → bindT tg d ρ = some ρ' → NoOwn ρ' := by
  intro tg
  induction tg with
  | name i => intro d ρ ρ' h e; cases e; exact h.set fun _ z => nomatch z
  | pair a b ia ib =>
    intro d ρ ρ' h e
    obtain ⟨x, y, ρ1, _, e1, e2⟩ := bind_pair e
    exact ib (ia h e1) e2
  | trip a b c ia ib ic =>
    intro d ρ ρ' h e
    obtain ⟨x, y, z, ρ1, ρ2, _, e1, e2, e3⟩ := bind_trip e
    exact ic (ib (ia h e1) e2) e3
  | quad a b c d ia ib ic id =>
    intro d0 ρ ρ' h e
    obtain ⟨x, y, z, u, ρ1, ρ2, ρ3, _, e1, e2, e3, e4⟩ := bind_quad e
    exact id (ic (ib (ia h e1) e2) e3) e4
theorem St.noOwn (s : St G f σ H ρ S m) : St G { f with A0 := Av f σ ρ, P := fun _ _ => False } σ H (noOwn ρ) S m where
  sr := s.sr.less fun a h => h.elim (fun z => z) fun z => ((noOwn_no ρ).own z).elim
  val := fun i d h => by
    obtain ⟨v, h1, h2⟩ := s.val i d ((noOwn_at h).2 fun z => nomatch z)
    exact ⟨v, h1, h2.less fun a h => h.elim (fun z => z) fun z => ((noOwn_no ρ).own z).elim⟩
  own := fun i ds h => ((noOwn_at h).1 ds rfl).elim
  uniq := fun i j ds es p h => ((noOwn_at h).1 ds rfl).elim
  prot := fun a o h => h.elim
  live := fun a h => s.liveA h
  ent := s.ent
  mpre := s.mpre
  fresh := fun a h => ((noOwn_no ρ).own h).elim
  len := by unfold Mi.noOwn; rw [List.length_map]; exact s.len
  err := fun i h => s.err i ((noOwn_at h).2 fun z => nomatch z)
/-- another entry -/
theorem St.enter (s : St G f σ H ρ S m) (hn : NoOwn ρ) : St G { f with m0 := m, H0 := H, mp := m, P := fun _ _ => False } σ H ρ S m :=
  ⟨s.sr, s.val, s.own, s.uniq, fun _ _ h => h.elim, s.live, Ext.refl m H, ⟨[], by simp⟩, fun _ h => (hn.own h).elim, s.len, s.err⟩
/-- more places to keep away from -/
theorem St.away (s : St G f σ H ρ S m) {B : Addr → Prop} (hB : ∀ a, B a → f.A0 a ∨ (H a = none)) (hl : ∀ a, B a → H' a ≠ none) (hn : NoOwn ρ) (e : Ext m H m H') (hs : ∀ a ∈ m, H' a = H a) : St G { f with A0 := B } σ H' ρ S m where
  sr := s.sr.grow e (fun a h => h.elim (fun z => (hB a z).imp .inl fun z => z) fun z => .inl (.inr z)) hs
  val := fun i d h => by
    obtain ⟨v, h1, h2⟩ := s.val i d h
    exact ⟨v, h1, h2.mono e fun a h => h.elim (fun z => (hB a z).imp .inl fun z => z) fun z => .inl (.inr z)⟩
  own := fun i ds h => (hn i ds h).elim
  uniq := fun i j ds es p h => (hn i ds h).elim
  prot := fun a o h => by
    obtain ⟨h1, h2, h3⟩ := s.prot a o h
    exact ⟨e.keep a o h2 h1, h2, h3⟩
  live := hl
  ent := s.ent.trans e
  mpre := s.mpre
  fresh := s.fresh
  len := s.len
  err := s.err
/-- a thing that the frame keeps away from is changed -/
theorem Ext.poke {m0 : List Addr} {H0 : Hp} (e : Ext m0 H0 m H) {p : Addr} {o : HO} (h0 : H0 p = none) : Ext m0 H0 m (upd H p o) :=
  ⟨e.pre, fun a u h1 h2 => by rw [L2.upd_ne (L2.ne_of_none h2 h0)]; exact e.keep a u h1 h2, fun a h => by
    by_cases q : a = p
    · rw [q, upd_at]; exact fun z => nomatch z
    · rw [L2.upd_ne q]; exact e.live a h⟩
theorem kp_poke {A : Addr → Prop} {p : Addr} {o : HO} (ha : A p) : Kp m A H m A (upd H p o) :=
  ⟨⟨[], by simp⟩, fun a u h1 h2 h3 => ⟨by rw [L2.upd_ne (a := p) (b := a) (by intro z; rw [z] at h2; exact h2 ha)]; exact h3, h1, h2⟩⟩
theorem SR.poke {A : Addr → Prop} (s : SR G m A S H) {p : Addr} {o : HO} (ha : A p) (hm : p ∉ m) : SR G m A S (upd H p o) := by
  refine ⟨s.nd, s.len, fun i a c h h' => ?_⟩
  have hne : a ≠ p := fun z => hm (z ▸ List.mem_of_getElem? h)
  have q := s.cell i a c h h'
  cases c with
  | ins C fs =>
    obtain ⟨dx, fvs, e1, e2, e3, e4, e5, r⟩ := q
    have hd : dx ≠ p := fun z => e4 (z ▸ ha)
    exact ⟨dx, fvs, by rw [L2.upd_ne hne]; exact e1, by rw [L2.upd_ne hd]; exact e2, e3, e4, e5, r.kept (kp_poke ha)⟩
  | dic kvs =>
    obtain ⟨ks, e1, e5, r⟩ := q
    exact ⟨ks, by rw [L2.upd_ne hne]; exact e1, e5, r.kept (kp_poke ha)⟩
theorem St.poke (s : St G f σ H ρ S m) {p : Addr} {o : HO} (ha : f.A0 p) (hm : p ∉ m) (hn : NoOwn ρ) (hP : ∀ o, ¬ f.P p o) (h0 : f.H0 p = none) : St G f σ (upd H p o) ρ S m where
  sr := s.sr.poke (.inl ha) hm
  val := fun i d h => by
    obtain ⟨v, h1, h2⟩ := s.val i d h
    exact ⟨v, h1, h2.kept (kp_poke (.inl ha))⟩
  own := fun i ds h => (hn i ds h).elim
  uniq := fun i j ds es p h => (hn i ds h).elim
  prot := fun a u h => by
    obtain ⟨h1, h2, h3⟩ := s.prot a u h
    exact ⟨by rw [L2.upd_ne (a := p) (b := a) (by intro z; rw [z] at h; exact hP u h)]; exact h1, h2, h3⟩
  live := fun a h => by
    by_cases q : a = p
    · rw [q, upd_at]; exact fun z => nomatch z
    · rw [L2.upd_ne q]; exact s.live a h
  ent := s.ent.poke h0
  mpre := s.mpre
  fresh := s.fresh
  len := s.len
  err := s.err
end
end Mi
/-! Mini: the operations on data are the layer's. -/
namespace Mi
open PySem (Str Addr Value Expr Stmt Scope PyData sizeLine)
open L2 (V Hp HO Key upd Rd SqL SqT Cx VK R2 OpR CallR MtR IxR SlR)

/-- nothing, or one thing, has been laid -/
def Nw (H H' : Hp) : Prop := H' = H ∨ ∃ p o, H p = none ∧ H' = upd H p o
theorem Nw.same (H : Hp) : Nw H H := .inl rfl
theorem Nw.mk {H : Hp} {p : Addr} {o : HO} (h : H p = none) : Nw H (upd H p o) := .inr ⟨p, o, h, rfl⟩
theorem Nw.ext {m : List Addr} {H H' : Hp} (h : Nw H H') : Ext m H m H' := by
  rcases h with rfl | ⟨p, o, hp, rfl⟩
  · exact Ext.refl _ _
  · exact Ext.new hp
/-- the places are held -/
structure Held (m : List Addr) (A : Addr → Prop) (H : Hp) : Prop where
  a : ∀ a, A a → H a ≠ none
  m : ∀ a ∈ m, H a ≠ none
section
variable {K : PySem.W.Frag} {m : List Addr} {A : Addr → Prop} {H : Hp} {p : Addr}
theorem Held.na (h : Held m A H) (hp : H p = none) : ¬ A p := fun z => h.a p z hp
theorem Held.nm (h : Held m A H) (hp : H p = none) : p ∉ m := fun z => h.m p z hp
theorem rv_new_lst (h : Held m A H) {vs : List V} {ds : List D} (hp : H p = none) (r : RL K m A H vs ds) : RV K m A (upd H p (.lst vs)) (.ref p) (.lst ds) :=
  .lst upd_at (h.nm hp) (h.na hp) (r.ext (Ext.new hp))
theorem rv_new_tup (h : Held m A H) {vs : List V} {ds : List D} (hp : H p = none) (r : RL K m A H vs ds) : RV K m A (upd H p (.tup vs)) (.ref p) (.tup ds) :=
  .tup upd_at (h.nm hp) (h.na hp) (r.ext (Ext.new hp))

/-! ### == -/
mutual
def toPD : D → PyData
  | .non => .none
  | .bl b => .bool b
  | .int i => .int i
  | .str s => .str ⟨s.toArray⟩
  | .lst xs => .list (toPDs xs)
  | .tup xs => .tuple (toPDs xs)
  | .obj _ => .none
  | .scr ns => .list (ns.map PyData.int)
def toPDs : List D → List PyData
  | [] => []
  | x :: xs => toPD x :: toPDs xs
end
mutual
theorem dp_of : ∀ {n : Nat} {v : V} {d : D}, pl n d = true → RV K m A H v d → L2.Dp K H v (toPD d)
  | _, _, _, _, .non => .non
  | _, _, _, _, .bl b => .bl b
  | _, _, _, _, .int i => .int i
  | _, _, _, _, .str x h => by
    have := L2.Dp.str (K := K) (H := H) x
    simpa [toPD] using this
  | 0, _, _, h, .lst _ _ _ _ => by cases h
  | n + 1, _, _, h, .lst e _ _ r => .lst (sqL_of e) (dps_of (n := n) (by simpa [pl] using h) r)
  | 0, _, _, h, .tup _ _ _ _ => by cases h
  | n + 1, _, _, h, .tup e _ _ r => .tup (sqT_of e) (dps_of (n := n) (by simpa [pl] using h) r)
  | 0, _, _, h, .ktp _ _ _ => by cases h
  | n + 1, _, _, h, .ktp e _ r => .tup (sqT_k e) (dps_of (n := n) (by simpa [pl] using h) r)
  | 0, _, _, h, .obj _ => by cases h
  | n + 1, _, _, h, .obj _ => by cases h
  | 0, _, _, h, .scr _ => by cases h
  | n + 1, _, _, h, .scr _ => by cases h
theorem dps_of : ∀ {n : Nat} {vs : List V} {ds : List D}, (∀ d ∈ ds, pl n d = true) → RL K m A H vs ds → L2.DpAll K H vs (toPDs ds)
  | _, _, _, _, .nil => .nil
  | n, _, _, h, .cons r t => .cons (dp_of (h _ (List.mem_cons_self ..)) r) (dps_of (fun d hd => h d (List.mem_cons_of_mem _ hd)) t)
end
mutual
theorem lay_of : ∀ {n : Nat} {v : V} {d : D}, pl n d = true → RV K m A H v d → PyData.canLay0 (toPD d) = true ∧ (toPD d).depth ≤ n
  | _, _, _, _, .non => ⟨rfl, Nat.zero_le _⟩
  | _, _, _, _, .bl b => ⟨rfl, Nat.zero_le _⟩
  | _, _, _, _, .int i => ⟨rfl, Nat.zero_le _⟩
  | _, _, _, _, .str x h => ⟨by
      have h1 := h.1
      show PyData.strOk ⟨x.cps.toList.toArray⟩ = true
      unfold PyData.strOk
      rw [Array.all_eq_true]
      intro i hi
      exact decide_eq_true (h1 _ (by simp)), Nat.zero_le _⟩
  | 0, _, _, h, .lst _ _ _ _ => by cases h
  | n + 1, _, _, h, .lst e _ _ r => by
    obtain ⟨h1, h2⟩ := lays_of (n := n) (by simpa [pl] using h) r
    exact ⟨h1, Nat.succ_le_succ h2⟩
  | 0, _, _, h, .tup _ _ _ _ => by cases h
  | n + 1, _, _, h, .tup e _ _ r => by
    obtain ⟨h1, h2⟩ := lays_of (n := n) (by simpa [pl] using h) r
    exact ⟨h1, Nat.succ_le_succ h2⟩
  | 0, _, _, h, .ktp _ _ _ => by cases h
  | n + 1, _, _, h, .ktp e _ r => by
    obtain ⟨h1, h2⟩ := lays_of (n := n) (by simpa [pl] using h) r
    exact ⟨h1, Nat.succ_le_succ h2⟩
  | 0, _, _, h, .obj _ => by cases h
  | n + 1, _, _, h, .obj _ => by cases h
  | 0, _, _, h, .scr _ => by cases h
  | n + 1, _, _, h, .scr _ => by cases h
theorem lays_of : ∀ {n : Nat} {vs : List V} {ds : List D}, (∀ d ∈ ds, pl n d = true) → RL K m A H vs ds → PyData.canLayAll0 (toPDs ds) = true ∧ PyData.depthAll (toPDs ds) ≤ n
  | _, _, _, _, .nil => ⟨rfl, Nat.zero_le _⟩
  | n, _, _, h, .cons r t => by
    obtain ⟨h1, h2⟩ := lay_of (h _ (List.mem_cons_self ..)) r
    obtain ⟨h3, h4⟩ := lays_of (fun d hd => h d (List.mem_cons_of_mem _ hd)) t
    exact ⟨by show (PyData.canLay0 _ && PyData.canLayAll0 _) = true; rw [h1, h3] <;> rfl, Nat.max_le.mpr ⟨h2, h4⟩⟩
end
theorem shaped_of {v : V} {d : D} (h : pl 20 d = true) (r : RV K m A H v d) : PySem.SeqAt.shaped (toPD d) = true := by
  obtain ⟨h1, h2⟩ := lay_of h r
  unfold PySem.SeqAt.shaped
  rw [h1, decide_eq_true (by omega : (toPD d).depth ≤ 64)] <;> rfl
theorem str_beq (x y : List Nat) : ((⟨x.toArray⟩ : Str) == ⟨y.toArray⟩) = (x == y) := by
  rw [Bool.eq_iff_iff]
  simp
theorem pl_up : ∀ {n : Nat} {d : D}, pl n d = true → pl (n + 1) d = true := by
  intro n
  induction n with
  | zero => intro d h; cases h
  | succ n ih =>
    intro d h
    cases d with
    | lst xs =>
      simp only [pl, List.all_eq_true] at h ⊢
      exact fun x hx => ih (h x hx)
    | tup xs =>
      simp only [pl, List.all_eq_true] at h ⊢
      exact fun x hx => ih (h x hx)
    | obj k => cases h
    | scr k => cases h
    | _ => rfl
theorem pl_le {n k : Nat} (hk : n ≤ k) {d : D} (h : pl n d = true) : pl k d = true := by
  induction hk with
  | refl => exact h
  | step _ ih => exact pl_up ih
theorem pl_pred {n : Nat} {d : D} (h : pl n d = true) : ∃ k, n = k + 1 := by
  cases n with
  | zero => cases h
  | succ k => exact ⟨k, rfl⟩
mutual
theorem eqv_of : ∀ (n : Nat) (d e : D), pl n d = true → pl n e = true → PyData.eqv (toPD d) (toPD e) = deq d e
  | 0, _, _, h, _ => by cases h
  | n + 1, .lst xs, .lst ys, hd, he => by
    simp only [toPD, PyData.eqv, deq]
    exact eqvs_of n xs ys (by simpa [pl] using hd) (by simpa [pl] using he)
  | n + 1, .tup xs, .tup ys, hd, he => by
    simp only [toPD, PyData.eqv, deq]
    exact eqvs_of n xs ys (by simpa [pl] using hd) (by simpa [pl] using he)
  | n + 1, .str x, .str y, hd, he => by
    simp only [toPD, PyData.eqv, deq]
    exact str_beq x y
  | n + 1, .obj _, _, hd, _ => by cases hd
  | n + 1, .scr _, _, hd, _ => by cases hd
  | n + 1, .non, e, _, he => by cases e <;> first | rfl | cases he
  | n + 1, .bl _, e, _, he => by cases e <;> first | rfl | cases he
  | n + 1, .int _, e, _, he => by cases e <;> first | rfl | cases he
  | n + 1, .str _, .non, _, he => rfl
  | n + 1, .str _, .bl _, _, he => rfl
  | n + 1, .str _, .int _, _, he => rfl
  | n + 1, .str _, .lst _, _, he => rfl
  | n + 1, .str _, .tup _, _, he => rfl
  | n + 1, .str _, .obj _, _, he => by cases he
  | n + 1, .str _, .scr _, _, he => by cases he
  | n + 1, .lst _, .non, _, he => rfl
  | n + 1, .lst _, .bl _, _, he => rfl
  | n + 1, .lst _, .int _, _, he => rfl
  | n + 1, .lst _, .str _, _, he => rfl
  | n + 1, .lst _, .tup _, _, he => rfl
  | n + 1, .lst _, .obj _, _, he => by cases he
  | n + 1, .lst _, .scr _, _, he => by cases he
  | n + 1, .tup _, .non, _, he => rfl
  | n + 1, .tup _, .bl _, _, he => rfl
  | n + 1, .tup _, .int _, _, he => rfl
  | n + 1, .tup _, .lst _, _, he => rfl
  | n + 1, .tup _, .str _, _, he => rfl
  | n + 1, .tup _, .obj _, _, he => by cases he
  | n + 1, .tup _, .scr _, _, he => by cases he
theorem eqvs_of : ∀ (n : Nat) (xs ys : List D), (∀ d ∈ xs, pl n d = true) → (∀ d ∈ ys, pl n d = true) → PyData.eqvAll (toPDs xs) (toPDs ys) = deq.deqs xs ys
  | _, [], [], _, _ => rfl
  | _, [], _ :: _, _, _ => rfl
  | _, _ :: _, [], _, _ => rfl
  | n, x :: xs, y :: ys, hx, hy => by
    show (PyData.eqv (toPD x) (toPD y) && PyData.eqvAll (toPDs xs) (toPDs ys)) = (deq x y && deq.deqs xs ys)
    rw [eqv_of n x y (hx x (List.mem_cons_self ..)) (hy y (List.mem_cons_self ..)), eqvs_of n xs ys (fun d h => hx d (List.mem_cons_of_mem _ h)) (fun d h => hy d (List.mem_cons_of_mem _ h))]
end
end

/-! ### the operations, by data -/
/-- how the result comes -/
def Ret (K : PySem.W.Frag) (m : List Addr) (A : Addr → Prop) (H : Hp) (d : D) (Q : VK) : Prop := ∀ v H', Nw H H' → RV K m A H' v d → Q v H'
def rG (K : PySem.W.Frag) (o : O2) : R2 := fun x y H Q => ∃ (m : List Addr) (A : Addr → Prop) (d e d3 : D), Held m A H ∧ RV K m A H x d ∧ RV K m A H y e ∧ op2 o d e = some d3 ∧ Ret K m A H d3 Q
theorem lim_size {n : Nat} (h : n ≤ lim) : n ≤ sizeLine := Nat.le_trans h (by rw [PySem.sizeLine_eq]; decide)
section
variable {X : Cx} {K : PySem.W.Frag} {m : List Addr} {A : Addr → Prop} {H : Hp}
theorem Ret.i {i : Int} {Q : VK} (k : Ret K m A H (.int i) Q) : Q (.int i) H := k _ _ (Nw.same H) (.int i)
theorem Ret.b {b : Bool} {Q : VK} (k : Ret K m A H (.bl b) Q) : Q (.bl b) H := k _ _ (Nw.same H) (.bl b)
theorem Ret.s {s : List Nat} {Q : VK} (k : Ret K m A H (.str s) Q) (h : OkS s) : Q (.str ⟨s.toArray⟩) H := k _ _ (Nw.same H) (rv_str h)
theorem Ret.l {vs : List V} {ds : List D} {Q : VK} (k : Ret K m A H (.lst ds) Q) (h : Held m A H) (r : RL K m A H vs ds) : ∀ p, H p = none → Q (.ref p) (upd H p (.lst vs)) := fun p hp => k _ _ (Nw.mk hp) (rv_new_lst h hp r)
theorem Ret.t {vs : List V} {ds : List D} {Q : VK} (k : Ret K m A H (.tup ds) Q) (h : Held m A H) (r : RL K m A H vs ds) : ∀ p, H p = none → Q (.ref p) (upd H p (.tup vs)) := fun p hp => k _ _ (Nw.mk hp) (rv_new_tup h hp r)
theorem str_app (a b : List Nat) : (⟨a.toArray⟩ : Str) ++ ⟨b.toArray⟩ = ⟨(a ++ b).toArray⟩ := by
  show (⟨a.toArray ++ b.toArray⟩ : Str) = _
  simp
theorem okS_app {a b : List Nat} (ha : OkS a) (hb : OkS b) (h : a.length + b.length ≤ lim) : OkS (a ++ b) :=
  ⟨fun c hc => (List.mem_append.mp hc).elim (ha.1 c) (hb.1 c), lim_size (by rw [List.length_append]; exact h)⟩
theorem str_len (a : List Nat) : (⟨a.toArray⟩ : Str).length = a.length := by simp [Str.length]
theorem og_add : OpR X (PySem.binaryOp .Add) (rG X.K .add) := by
  intro pins s σ H x y v u Q I rx ry h
  obtain ⟨m, A, d, e, d3, hh, r1, r2, eo, k⟩ := h
  cases d with
  | int a =>
    cases e with
    | int b =>
      cases eo
      exact L2.op_add pins s σ H x y v u Q I rx ry ⟨a, b, r1.inv_int, r2.inv_int, k.i⟩
    | _ => cases eo
  | str a =>
    cases e with
    | str b =>
      simp only [op2] at eo
      split at eo
      · rename_i hl
        cases eo
        obtain ⟨e1, o1⟩ := r1.inv_str
        obtain ⟨e2, o2⟩ := r2.inv_str
        refine L2.op_add_str pins s σ H x y v u Q I rx ry ⟨_, _, e1, e2, ?_, ?_⟩
        · rw [str_len, str_len]; exact lim_size hl
        · rw [str_app]; exact k.s (okS_app o1 o2 hl)
      · cases eo
    | _ => cases eo
  | lst a =>
    cases e with
    | lst b =>
      simp only [op2] at eo
      split at eo
      · rename_i hl
        cases eo
        obtain ⟨p, vs, e1, h1, _, _, q1⟩ := r1.inv_lst
        obtain ⟨q, ws, e2, h2, _, _, q2⟩ := r2.inv_lst
        exact L2.op_cat pins s σ H x y v u Q I rx ry ⟨p, q, vs, ws, e1, e2, h1, h2, by rw [q1.length, q2.length]; exact lim_size hl, k.l hh (q1.append q2)⟩
      · cases eo
    | _ => cases eo
  | tup a =>
    cases e with
    | tup b =>
      simp only [op2] at eo
      split at eo
      · rename_i hl
        cases eo
        obtain ⟨p, vs, e1, h1, q1⟩ := r1.inv_tup
        obtain ⟨q, ws, e2, h2, q2⟩ := r2.inv_tup
        refine L2.op_catA pins s σ H x y v u Q I rx ry ⟨p, q, vs, ws, e1, e2, h1, h2, by rw [q1.length, q2.length]; exact lim_size hl, fun z => ?_, fun _ z => ?_, fun _ _ => k.t hh (q1.append q2)⟩
        · subst z
          cases q1
          rw [← e2]
          exact k _ _ (Nw.same H) r2
        · subst z
          cases q2
          rw [← e1]
          rw [List.append_nil] at k
          exact k _ _ (Nw.same H) r1
      · cases eo
    | _ => cases eo
  | _ => cases e <;> cases eo
theorem og_sub : OpR X (PySem.binaryOp .Sub) (rG X.K .sub) := by
  intro pins s σ H x y v u Q I rx ry h
  obtain ⟨m, A, d, e, d3, hh, r1, r2, eo, k⟩ := h
  cases d with
  | int a =>
    cases e with
    | int b =>
      cases eo
      exact L2.op_sub pins s σ H x y v u Q I rx ry ⟨a, b, r1.inv_int, r2.inv_int, k.i⟩
    | _ => cases eo
  | _ => cases e <;> cases eo
theorem reps_foldl (c : Nat) : ∀ (n : Nat) (acc : Array Nat), (List.replicate n #[c]).foldl (· ++ ·) acc = acc ++ (List.replicate n c).toArray
  | 0, acc => by simp
  | n + 1, acc => by
    rw [List.replicate_succ, List.foldl_cons, reps_foldl c n, List.replicate_succ]
    apply Array.ext'
    simp
theorem txt_mul (c : Nat) (i : Int) : PySem.Txt.mul ⟨#[c]⟩ i = ⟨(List.replicate i.toNat c).toArray⟩ := by
  unfold PySem.Txt.mul
  by_cases h : i < 1
  · rw [if_pos h, show i.toNat = 0 by omega]
    rfl
  · rw [if_neg h]
    by_cases h1 : i = 1
    · subst h1
      rfl
    · rw [if_neg (by simp [h1, Str.length]), reps_foldl]
      simp
theorem og_mul : OpR X (PySem.binaryOp .Mult) (rG X.K .mul) := by
  intro pins s σ H x y v u Q I rx ry h
  obtain ⟨m, A, d, e, d3, hh, r1, r2, eo, k⟩ := h
  cases d with
  | int a =>
    cases e with
    | int b =>
      simp only [op2] at eo
      split at eo
      · rename_i hl
        cases eo
        exact L2.op_mul pins s σ H x y v u Q I rx ry ⟨a, b, r1.inv_int, r2.inv_int, by unfold L2.CMul; omega, k.i⟩
      · cases eo
    | _ => cases eo
  | lst a =>
    cases e with
    | int b =>
      simp only [op2] at eo
      split at eo
      · rename_i hl
        cases eo
        obtain ⟨p, vs, e1, h1, _, _, q1⟩ := r1.inv_lst
        exact L2.op_rep pins s σ H x y v u Q I rx ry ⟨p, b, vs, e1, r2.inv_int, h1, by omega, by omega, by rw [q1.length]; exact lim_size hl.1, k.l hh (q1.reps _)⟩
      · cases eo
    | _ => cases eo
  | str a =>
    cases e with
    | int b =>
      cases a with
      | nil => cases eo
      | cons c r =>
        cases r with
        | cons _ _ => cases eo
        | nil =>
          simp only [op2] at eo
          split at eo
          · rename_i hl
            cases eo
            obtain ⟨e1, o1⟩ := r1.inv_str
            have e2 := r2.inv_int
            subst e1 e2
            obtain ⟨t1, rfl⟩ := rx
            obtain ⟨t2, rfl⟩ := ry
            refine PySem.SB.mul (PyProof.Rows.mulOk_of 1 1000000 (by simp [Str.length]) (by omega) (by omega) (by decide) (by decide)) fun t' tk => ?_
            refine ⟨.str ⟨(List.replicate b.toNat c).toArray⟩, H, I.tok tk, ⟨t', ?_⟩, k.s ⟨fun z hz => ?_, ?_⟩⟩
            · rw [txt_mul]
            · rw [List.eq_of_mem_replicate hz]; exact o1.1 c (by simp)
            · rw [List.length_replicate]; exact lim_size (by unfold lim; omega)
          · cases eo
    | _ =>
      cases a with
      | nil => cases eo
      | cons c r => cases r <;> cases eo
  | _ => cases e <;> cases eo
theorem og_fdv : OpR X (PySem.binaryOp .FloorDiv) (rG X.K .fdv) := by
  intro pins s σ H x y v u Q I rx ry h
  obtain ⟨m, A, d, e, d3, hh, r1, r2, eo, k⟩ := h
  cases d with
  | int a =>
    cases e with
    | int b =>
      simp only [op2] at eo
      split at eo
      · rename_i hl
        cases eo
        refine L2.op_fdivW pins s σ H x y v u Q I rx ry ⟨a, b, r1.inv_int, r2.inv_int, ⟨hl.1, ?_⟩, k.i⟩
        have h1 : b.natAbs < 2 ^ 64 := by omega
        have h2 : b.natAbs.log2 < 64 := (Nat.log2_lt (by omega)).mpr h1
        omega
      · cases eo
    | _ => cases eo
  | _ => cases e <;> cases eo
theorem og_mod : OpR X (PySem.binaryOp .Mod) (rG X.K .mod) := by
  intro pins s σ H x y v u Q I rx ry h
  obtain ⟨m, A, d, e, d3, hh, r1, r2, eo, k⟩ := h
  cases d with
  | int a =>
    cases e with
    | int b =>
      simp only [op2] at eo
      split at eo
      · rename_i hl
        cases eo
        exact L2.op_mod pins s σ H x y v u Q I rx ry ⟨a, b, r1.inv_int, r2.inv_int, hl, k.i⟩
      · cases eo
    | _ => cases eo
  | _ => cases e <;> cases eo
theorem og_pow : OpR X (PySem.binaryOp .Pow) (rG X.K .pow) := by
  intro pins s σ H x y v u Q I rx ry h
  obtain ⟨m, A, d, e, d3, hh, r1, r2, eo, k⟩ := h
  cases d with
  | int a =>
    cases e with
    | int b =>
      simp only [op2] at eo
      split at eo
      · rename_i hl
        cases eo
        exact L2.op_pow pins s σ H x y v u Q I rx ry ⟨a, b, r1.inv_int, r2.inv_int, hl, k.i⟩
      · cases eo
    | _ => cases eo
  | _ => cases e <;> cases eo
theorem eqO_cases {a b : D} {t : Bool} (h : eqO a b = some t) : (∃ ns, a = .scr ns ∧ b = .lst [] ∧ t = ns.isEmpty) ∨ (pl 20 a = true ∧ pl 20 b = true ∧ t = deq a b) := by
  unfold eqO at h
  split at h
  · cases h
    exact .inl ⟨_, rfl, rfl, rfl⟩
  · split at h
    · rename_i hl
      cases h
      exact .inr ⟨hl.1, hl.2, rfl⟩
    · cases h
theorem dps_ints : ∀ ns : List Int, L2.DpAll K H (ns.map V.int) (ns.map PyData.int)
  | [] => .nil
  | n :: ns => .cons (.int n) (dps_ints ns)
theorem lay_intsL : ∀ ns : List Int, PyData.canLayAll0 (ns.map PyData.int) = true ∧ PyData.depthAll (ns.map PyData.int) = 0
  | [] => ⟨rfl, rfl⟩
  | n :: ns => by
    obtain ⟨h1, h2⟩ := lay_intsL ns
    exact ⟨by show (PyData.canLay0 (.int n) && PyData.canLayAll0 (ns.map PyData.int)) = true; rw [h1] <;> rfl, by show max (PyData.depth (.int n)) (PyData.depthAll (ns.map PyData.int)) = 0; rw [h2] <;> rfl⟩
theorem eq_data {v u : V} {a b : D} {t : Bool} (h : eqO a b = some t) (r1 : RV K m A H v a) (r2 : RV K m A H u b) :
    ∃ d e, L2.Dp K H v d ∧ L2.Dp K H u e ∧ PySem.SeqAt.shaped d = true ∧ PySem.SeqAt.shaped e = true ∧ PyData.eqv d e = t := by
  rcases eqO_cases h with ⟨ns, rfl, rfl, rfl⟩ | ⟨h1, h2, rfl⟩
  · cases r1 with
    | scr h =>
      refine ⟨_, _, .lst h.sq (dps_ints ns), dp_of (n := 20) rfl r2, ?_, shaped_of rfl r2, ?_⟩
      · obtain ⟨h1, h2⟩ := lay_intsL ns
        unfold PySem.SeqAt.shaped
        have e1 : PyData.canLay0 (.list (ns.map PyData.int)) = true := h1
        have e2 : PyData.depth (.list (ns.map PyData.int)) = 1 := by show PyData.depthAll _ + 1 = 1; rw [h2]
        rw [e1, e2] <;> rfl
      · cases ns <;> rfl
  · exact ⟨_, _, dp_of h1 r1, dp_of h2 r2, shaped_of h1 r1, shaped_of h2 r2, eqv_of 20 a b h1 h2⟩
theorem og_eq (hu : X.A.units + 64 < PySem.cLine) : OpR X (PySem.compareOp .Eq) (rG X.K .eq) := by
  intro pins s σ H x y v u Q I rx ry h
  obtain ⟨m, A, d, e, d3, hh, r1, r2, eo, k⟩ := h
  simp only [op2] at eo
  cases q : eqO d e with
  | none => rw [q] at eo; cases eo
  | some t =>
    rw [q] at eo
    cases eo
    obtain ⟨d', e', h1, h2, h3, h4, h5⟩ := eq_data q r1 r2
    exact L2.op_eqD hu pins s σ H x y v u Q I rx ry ⟨d', e', h1, h2, h3, h4, by rw [h5]; exact k.b⟩
theorem og_ne (hu : X.A.units + 64 < PySem.cLine) : OpR X (PySem.compareOp .NotEq) (rG X.K .ne) := by
  intro pins s σ H x y v u Q I rx ry h
  obtain ⟨m, A, d, e, d3, hh, r1, r2, eo, k⟩ := h
  simp only [op2] at eo
  cases q : eqO d e with
  | none => rw [q] at eo; cases eo
  | some t =>
    rw [q] at eo
    cases eo
    obtain ⟨d', e', h1, h2, h3, h4, h5⟩ := eq_data q r1 r2
    exact L2.op_neD hu pins s σ H x y v u Q I rx ry ⟨d', e', h1, h2, h3, h4, by rw [h5]; exact k.b⟩
theorem lex_eq : ∀ x y : List Int, lexLt x y = HT.lexLt x y
  | [], [] => rfl
  | [], _ :: _ => rfl
  | _ :: _, [] => rfl
  | a :: x, b :: y => by
    rw [HT.lexLt_cons, ← lex_eq x y]
    rfl
theorem og_lt (hu : X.A.units < PySem.cLine) : OpR X (PySem.compareOp .Lt) (rG X.K .lt) := by
  intro pins s σ H x y v u Q I rx ry h
  obtain ⟨m, A, d, e, d3, hh, r1, r2, eo, k⟩ := h
  cases d with
  | int a =>
    cases e with
    | int b =>
      cases eo
      exact L2.op_lt pins s σ H x y v u Q I rx ry ⟨a, b, r1.inv_int, r2.inv_int, k.b⟩
    | _ => cases eo
  | tup a =>
    cases e with
    | tup b =>
      simp only [op2] at eo
      cases qa : intsD a with
      | none => rw [qa] at eo; cases eo
      | some na =>
        cases qb : intsD b with
        | none => rw [qa, qb] at eo; cases eo
        | some nb =>
          rw [qa, qb] at eo
          cases eo
          obtain ⟨p, vs, e1, h1, q1⟩ := r1.inv_tup
          obtain ⟨q, ws, e2, h2, q2⟩ := r2.inv_tup
          have z1 := q1.asInts qa
          have z2 := q2.asInts qb
          subst z1 z2
          exact L2.op_ltT hu pins s σ H x y v u Q I rx ry ⟨p, q, na, nb, e1, e2, h1, h2, by rw [← lex_eq]; exact k.b⟩
    | _ => cases eo
  | _ => cases e <;> cases eo
theorem og_le : OpR X (PySem.compareOp .LtE) (rG X.K .le) := by
  intro pins s σ H x y v u Q I rx ry h
  obtain ⟨m, A, d, e, d3, hh, r1, r2, eo, k⟩ := h
  cases d with
  | int a =>
    cases e with
    | int b =>
      cases eo
      exact L2.op_le pins s σ H x y v u Q I rx ry ⟨a, b, r1.inv_int, r2.inv_int, k.b⟩
    | _ => cases eo
  | _ => cases e <;> cases eo
theorem og_ge : OpR X (PySem.compareOp .GtE) (rG X.K .ge) := by
  intro pins s σ H x y v u Q I rx ry h
  obtain ⟨m, A, d, e, d3, hh, r1, r2, eo, k⟩ := h
  cases d with
  | int a =>
    cases e with
    | int b =>
      cases eo
      exact L2.op_ge pins s σ H x y v u Q I rx ry ⟨a, b, r1.inv_int, r2.inv_int, k.b⟩
    | _ => cases eo
  | _ => cases e <;> cases eo
theorem lexAt_gt {e r : Nat → Bool} : ∀ (xs ys : List Int) (i : Nat), (∀ j, e (i + j) = decide (xs.getD j 0 = ys.getD j 0)) → (∀ j, r (i + j) = decide (ys.getD j 0 < xs.getD j 0)) →
    Ob.lexAt e r (decide (xs.length > ys.length)) i (min xs.length ys.length) = lexLt ys xs
  | [], ys, i, he, hr => by
    rw [List.length_nil, Nat.zero_min, Ob.lexAt_zero]
    cases ys <;> simp [lexLt]
  | x :: xs, [], i, he, hr => by
    rw [List.length_nil, Nat.min_zero, Ob.lexAt_zero]
    simp [lexLt]
  | x :: xs, y :: ys, i, he, hr => by
    have e0 := he 0
    have r0 := hr 0
    have ih := lexAt_gt (e := e) (r := r) xs ys (i + 1) (fun j => by have := he (j + 1); rw [show i + (j + 1) = i + 1 + j by omega] at this; rw [this]; simp) (fun j => by have := hr (j + 1); rw [show i + (j + 1) = i + 1 + j by omega] at this; rw [this]; simp)
    have l : decide ((x :: xs).length > (y :: ys).length) = decide (xs.length > ys.length) := by simp
    rw [l, List.length_cons, List.length_cons, show min (xs.length + 1) (ys.length + 1) = min xs.length ys.length + 1 by omega, Ob.lexAt_succ, ih]
    simp only [Nat.add_zero, List.getD_cons_zero] at e0 r0
    rw [e0, r0, lexLt]
    by_cases q : x = y
    · simp [q]
    · simp [q, Ne.symm q]
theorem og_gtT (hu : X.A.units < PySem.cLine) {pins : List (Addr × PySem.Obj)} {s : PySem.Shared} {σ : L2.St} {H : Hp} {Q : VK} {a b : Addr} {ns ms : List Int} (I : L2.Inv X pins σ H s) (ha : SqT X.K H a (ns.map V.int)) (hb : SqT X.K H b (ms.map V.int)) (q : Q (.bl (lexLt ms ns)) H) :
    PySem.wpAny (PySem.model X.prog X.w) X.A (PySem.compareOp .Gt (.ref a) (.ref b)) (L2.EP X pins σ Q) X.xe s := by
  obtain ⟨t1, f1, g1, _⟩ := I.tuple ha
  obtain ⟨t2, f2, g2, _⟩ := I.tuple hb
  have m1 : PyProof.Rows.IntsAre t1 ns := L2.Vals.ints f1
  have m2 : PyProof.Rows.IntsAre t2 ms := L2.Vals.ints f2
  have w1 : t1.toArray.size = ns.length := by simpa using m1.length
  have w2 : t2.toArray.size = ms.length := by simpa using m2.length
  have u1 : ∀ j, (h1 : j < t1.toArray.size) → ∃ t, t1.toArray[j] = .int (ns.getD j 0) t := fun j h1 => PyProof.Rows.IntsAre.int_at m1 j _ (by simp at h1; simp [h1])
  have u2 : ∀ j, (h1 : j < t2.toArray.size) → ∃ t, t2.toArray[j] = .int (ms.getD j 0) t := fun j h1 => PyProof.Rows.IntsAre.int_at m2 j _ (by simp at h1; simp [h1])
  have T := Ob.RcOp.tuples_gt (A := X.A) (s := s) (e := fun j => (ns.getD j 0 == ms.getD j 0)) (r := fun j => decide (ms.getD j 0 < ns.getD j 0)) g1 g2 hu
    (fun j h1 h2 => by
      obtain ⟨x, ex⟩ := u1 j h1
      obtain ⟨y, ey⟩ := u2 j h2
      rw [ex, ey]
      exact PySem.SeqAt.EqAt.int_int _ _ _ _)
    (fun j h1 h2 _ => by
      obtain ⟨x, ex⟩ := u1 j h1
      obtain ⟨y, ey⟩ := u2 j h2
      rw [ex, ey]
      exact Ob.RcOp.gt_int _ _ _ _)
  rw [w1, w2, lexAt_gt ns ms 0 (fun j => by rw [Nat.zero_add, Bool.eq_iff_iff]; simp) (fun j => by simp)] at T
  exact T X.prog X.w X.xe (L2.EP X pins σ Q) ⟨.bl _, H, I, rfl, q⟩
theorem og_gt (hu : X.A.units < PySem.cLine) : OpR X (PySem.compareOp .Gt) (rG X.K .gt) := by
  intro pins s σ H x y v u Q I rx ry h
  obtain ⟨m, A, d, e, d3, hh, r1, r2, eo, k⟩ := h
  cases d with
  | int a =>
    cases e with
    | int b =>
      cases eo
      exact L2.op_gt pins s σ H x y v u Q I rx ry ⟨a, b, r1.inv_int, r2.inv_int, k.b⟩
    | _ => cases eo
  | tup a =>
    cases e with
    | tup b =>
      simp only [op2] at eo
      cases qa : intsD a with
      | none => rw [qa] at eo; cases eo
      | some na =>
        cases qb : intsD b with
        | none => rw [qa, qb] at eo; cases eo
        | some nb =>
          rw [qa, qb] at eo
          cases eo
          obtain ⟨p, vs, rfl, h1, q1⟩ := r1.inv_tup
          obtain ⟨q, ws, rfl, h2, q2⟩ := r2.inv_tup
          have z1 := q1.asInts qa
          have z2 := q2.asInts qb
          subst z1 z2
          cases rx
          cases ry
          exact og_gtT hu I h1 h2 k.b
    | _ => cases eo
  | _ => cases e <;> cases eo
theorem flat_of {v : V} {d : D} (r : RV K m A H v d) (h : flat d = true) : L2.flatV v = true := by
  cases r <;> first | rfl | cases h
theorem flats_of {ds : List D} : ∀ {vs : List V}, RL K m A H vs ds → ds.all flat = true → vs.all L2.flatV = true := by
  induction ds with
  | nil => intro vs r _; cases r; rfl
  | cons d ds ih =>
    intro vs r h
    cases r with
    | cons r t =>
      rw [List.all_cons, Bool.and_eq_true_iff] at h ⊢
      exact ⟨flat_of r h.1, ih t h.2⟩
theorem eqV_of {v u : V} {d e : D} (r : RV K m A H v d) (r' : RV K m A H u e) (h : flat d = true) (h' : flat e = true) : L2.eqV v u = deq d e := by
  cases r <;> first | (cases h; done) | skip
  all_goals (cases r' <;> first | rfl | (cases h'; done) | skip)
  rename_i x _ y _
  show (x == y) = (x.cps.toList == y.cps.toList)
  rw [Bool.eq_iff_iff]
  simp only [beq_iff_eq]
  constructor
  · intro z; rw [z]
  · intro z
    cases x; cases y
    simp only at z
    rw [Array.toList_inj.mp z]
theorem any_of {v : V} {d : D} (r : RV K m A H v d) (h : flat d = true) {ds : List D} : ∀ {vs : List V}, RL K m A H vs ds → ds.all flat = true → L2.inV v vs = ds.any fun y => deq y d := by
  induction ds with
  | nil => intro vs r _; cases r; rfl
  | cons e ds ih =>
    intro vs r' h'
    cases r' with
    | cons r1 t =>
      rw [List.all_cons, Bool.and_eq_true_iff] at h'
      have := ih t h'.2
      unfold L2.inV at this ⊢
      rw [List.any_cons, List.any_cons, this, eqV_of r1 r h'.1 h]
theorem in_seq {v u : V} {a b : D} {t : Bool} (q : inO a b = some t) (r1 : RV K m A H v a) (r2 : RV K m A H u b) :
    (∃ p xs, u = .ref p ∧ (SqL K H p xs ∨ SqT K H p xs) ∧ L2.flatV v = true ∧ xs.all L2.flatV = true ∧ L2.inV v xs = t) ∨ ∃ (c : Nat) (z : Str), v = .str ⟨#[c]⟩ ∧ u = .str z ∧ decide (c ∈ z.cps.toList) = t := by
  cases b with
  | lst bs =>
    simp only [inO] at q
    split at q
    · rename_i hl
      cases q
      obtain ⟨p, vs, e1, h1, _, _, q1⟩ := r2.inv_lst
      exact .inl ⟨p, vs, e1, .inl (sqL_of h1), flat_of r1 hl.1, flats_of q1 hl.2, any_of r1 hl.1 q1 hl.2⟩
    · cases q
  | tup bs =>
    simp only [inO] at q
    split at q
    · rename_i hl
      cases q
      obtain ⟨p, vs, e1, h1, q1⟩ := r2.inv_tup
      exact .inl ⟨p, vs, e1, .inr h1, flat_of r1 hl.1, flats_of q1 hl.2, any_of r1 hl.1 q1 hl.2⟩
    · cases q
  | str bs =>
    cases a with
    | str as =>
      cases as with
      | nil => cases q
      | cons c r =>
        cases r with
        | cons _ _ => cases q
        | nil =>
          cases q
          exact .inr ⟨c, ⟨bs.toArray⟩, r1.inv_str.1, r2.inv_str.1, by simp⟩
    | _ => cases q
  | _ => cases q
theorem og_in : OpR X (PySem.compareOp .In) (rG X.K .isin) := by
  intro pins s σ H x y v u Q I rx ry h
  obtain ⟨m, A, d, e, d3, hh, r1, r2, eo, k⟩ := h
  simp only [op2] at eo
  cases q : inO d e with
  | none => rw [q] at eo; cases eo
  | some t =>
    rw [q] at eo
    cases eo
    rcases in_seq q r1 r2 with ⟨p, xs, e1, e2, e3, e4, e5⟩ | ⟨c, z, e1, e2, e3⟩
    · refine L2.op_in_seq pins s σ H x y v u Q I rx ry ⟨p, xs, e1, e2, e3, e4, ?_⟩
      show Q (.bl (L2.inV x xs)) H
      rw [e5]; exact k.b
    · exact L2.op_in_sign pins s σ H x y v u Q I rx ry ⟨c, z, e1, e2, by rw [e3]; exact k.b⟩
theorem og_nin : OpR X (PySem.compareOp .NotIn) (rG X.K .nin) := by
  intro pins s σ H x y v u Q I rx ry h
  obtain ⟨m, A, d, e, d3, hh, r1, r2, eo, k⟩ := h
  simp only [op2] at eo
  cases q : inO d e with
  | none => rw [q] at eo; cases eo
  | some t =>
    rw [q] at eo
    cases eo
    rcases in_seq q r1 r2 with ⟨p, xs, e1, e2, e3, e4, e5⟩ | ⟨c, z, e1, e2, e3⟩
    · refine L2.op_notIn_seq pins s σ H x y v u Q I rx ry ⟨p, xs, e1, e2, e3, e4, ?_⟩
      show Q (.bl (!L2.inV x xs)) H
      rw [e5]; exact k.b
    · exact L2.op_notIn_sign pins s σ H x y v u Q I rx ry ⟨c, z, e1, e2, by rw [e3]; exact k.b⟩
theorem is_none {v : V} {a : D} (r : RV K m A H v a) : decide (v = .non) = isNon a := by
  cases r <;> rfl
theorem v_ne_bool {v : Value} {x : V} {a : D} {b : Bool} (r : RV K m A H x a) (rx : L2.RelV x v) (h : isO a (.bl b) = some false) (hn : ∀ c, a ≠ .bl c) : v ≠ .bool b ∧ PySem.plainIs v (.bool b) = true := by
  cases r with
  | non => cases rx; exact ⟨(fun z => nomatch z), rfl⟩
  | bl c => exact (hn c rfl).elim
  | int i => obtain ⟨t, e⟩ := rx; subst e; exact ⟨(fun z => nomatch z), rfl⟩
  | str s _ => obtain ⟨t, e⟩ := rx; subst e; exact ⟨(fun z => nomatch z), rfl⟩
  | lst _ _ _ _ => cases rx; exact ⟨(fun z => nomatch z), rfl⟩
  | tup _ _ _ _ => cases rx; exact ⟨(fun z => nomatch z), rfl⟩
  | ktp _ _ _ => cases rx; exact ⟨(fun z => nomatch z), rfl⟩
  | obj _ => cases h
  | scr _ => cases h
theorem og_is : OpR X (PySem.compareOp .Is) (rG X.K .iss) := by
  intro pins s σ H x y v u Q I rx ry h
  obtain ⟨m, A, d, e, d3, hh, r1, r2, eo, k⟩ := h
  simp only [op2] at eo
  cases e with
  | non =>
    cases eo
    exact L2.op_isN pins s σ H x y v u Q I rx ry ⟨r2.inv_non, by rw [is_none r1]; exact k.b⟩
  | bl b =>
    have rest : ∀ {d' : D}, d = d' → (∀ c, d' ≠ .bl c) → isO d' (.bl b) = some false → PySem.wpAny (PySem.model X.prog X.w) X.A (PySem.compareOp .Is v u) (fun w s' => ∃ z H', L2.Inv X pins σ H' s' ∧ L2.RelV z w ∧ Q z H') X.xe s := fun hd hn hi => by
      subst hd
      rw [hi] at eo
      cases eo
      have hv := v_ne_bool r1 rx hi hn
      have hu : u = .bool b := by
        rw [r2.inv_bl] at ry
        exact ry
      subst hu
      exact PySem.wpAny_is_other hv.2 hv.1 ⟨.bl false, H, I, rfl, k.b⟩
    cases d with
    | bl a =>
      cases eo
      exact L2.op_isBl pins s σ H x y v u Q I rx ry ⟨a, b, r1.inv_bl, r2.inv_bl, k.b⟩
    | non => exact rest rfl (fun _ z => nomatch z) rfl
    | int i => exact rest rfl (fun _ z => nomatch z) rfl
    | str i => exact rest rfl (fun _ z => nomatch z) rfl
    | lst i => exact rest rfl (fun _ z => nomatch z) rfl
    | tup i => exact rest rfl (fun _ z => nomatch z) rfl
    | _ => cases eo
  | _ => cases eo
theorem og_isn : OpR X (PySem.compareOp .IsNot) (rG X.K .isn) := by
  intro pins s σ H x y v u Q I rx ry h
  obtain ⟨m, A, d, e, d3, hh, r1, r2, eo, k⟩ := h
  simp only [op2] at eo
  cases e with
  | non =>
    cases eo
    exact L2.op_notN pins s σ H x y v u Q I rx ry ⟨r2.inv_non, by rw [is_none r1]; exact k.b⟩
  | bl b =>
    have rest : ∀ {d' : D}, d = d' → (∀ c, d' ≠ .bl c) → isO d' (.bl b) = some false → PySem.wpAny (PySem.model X.prog X.w) X.A (PySem.compareOp .IsNot v u) (fun w s' => ∃ z H', L2.Inv X pins σ H' s' ∧ L2.RelV z w ∧ Q z H') X.xe s := fun hd hn hi => by
      subst hd
      rw [hi] at eo
      cases eo
      have hv := v_ne_bool r1 rx hi hn
      have hu : u = .bool b := by
        rw [r2.inv_bl] at ry
        exact ry
      subst hu
      exact PySem.wpAny_isNot_other hv.2 hv.1 ⟨.bl true, H, I, rfl, k.b⟩
    cases d with
    | bl a =>
      cases eo
      exact L2.op_notBl pins s σ H x y v u Q I rx ry ⟨a, b, r1.inv_bl, r2.inv_bl, k.b⟩
    | non => exact rest rfl (fun _ z => nomatch z) rfl
    | int i => exact rest rfl (fun _ z => nomatch z) rfl
    | str i => exact rest rfl (fun _ z => nomatch z) rfl
    | lst i => exact rest rfl (fun _ z => nomatch z) rfl
    | tup i => exact rest rfl (fun _ z => nomatch z) rfl
    | _ => cases eo
  | _ => cases eo
end
end Mi
namespace Mi
open PySem (Str Addr Value Expr Stmt Scope PyData sizeLine)
open L2 (V Hp HO Key upd Rd SqL SqT Cx VK R2 OpR CallR MtR IxR SlR)
def rB1 (K : PySem.W.Frag) (f : B1) : List V → Hp → VK → Prop := fun xs H Q => ∃ (m : List Addr) (A : Addr → Prop) (x : V) (d d3 : D), xs = [x] ∧ Held m A H ∧ RV K m A H x d ∧ b1 f d = some d3 ∧ Ret K m A H d3 Q
section
variable {X : Cx} {K : PySem.W.Frag} {m : List Addr} {A : Addr → Prop} {H : Hp}
theorem rl_ints : ∀ ns : List Int, RL K m A H (ns.map V.int) (ns.map D.int)
  | [] => .nil
  | n :: ns => .cons (.int n) (rl_ints ns)
theorem cb_len : CallR X (.builtin "len") (rB1 X.K .len) := by
  intro pins s σ H xs us Q I r h
  obtain ⟨m, A, x, d, d3, rfl, hh, r1, eo, k⟩ := h
  cases d with
  | lst ds =>
    cases eo
    obtain ⟨p, vs, e1, h1, _, _, q1⟩ := r1.inv_lst
    exact L2.call_len_seq pins s σ H _ us Q I r ⟨p, vs, by rw [e1], .inl (sqL_of h1), by rw [q1.length]; exact k.i⟩
  | tup ds =>
    cases eo
    obtain ⟨p, vs, e1, h1, q1⟩ := r1.inv_tup
    exact L2.call_len_seq pins s σ H _ us Q I r ⟨p, vs, by rw [e1], .inr h1, by rw [q1.length]; exact k.i⟩
  | scr ns =>
    cases eo
    cases r1 with
    | scr h => exact L2.call_len_seq pins s σ H _ us Q I r ⟨_, _, rfl, .inl h.sq, by rw [List.length_map]; exact k.i⟩
  | str ss =>
    cases eo
    obtain ⟨e1, o1⟩ := r1.inv_str
    exact L2.call_len_str pins s σ H _ us Q I r ⟨_, by rw [e1], by rw [str_len]; exact o1.2, by rw [str_len]; exact k.i⟩
  | _ => cases eo
theorem cb_all (hc : X.calm = true) : CallR X (.builtin "all") (rB1 X.K .all) := by
  intro pins s σ H xs us Q I r h
  obtain ⟨m, A, x, d, d3, rfl, hh, r1, eo, k⟩ := h
  cases d with
  | lst ds =>
    simp only [b1] at eo
    cases q : boolsD ds with
    | none => rw [q] at eo; cases eo
    | some bs =>
      rw [q] at eo
      cases eo
      obtain ⟨p, vs, e1, h1, _, _, q1⟩ := r1.inv_lst
      have z := q1.asBools q
      subst z
      exact L2.cr_all hc pins s σ H _ us Q I r ⟨p, bs, by rw [e1], sqL_of h1, k.b⟩
  | _ => cases eo
theorem cb_sum (hc : X.calm = true) : CallR X (.builtin "sum") (rB1 X.K .sum) := by
  intro pins s σ H xs us Q I r h
  obtain ⟨m, A, x, d, d3, rfl, hh, r1, eo, k⟩ := h
  cases d with
  | lst ds =>
    simp only [b1] at eo
    cases q : intsD ds with
    | none => rw [q] at eo; cases eo
    | some bs =>
      rw [q] at eo
      cases eo
      obtain ⟨p, vs, e1, h1, _, _, q1⟩ := r1.inv_lst
      have z := q1.asInts q
      subst z
      exact L2.cr_sum hc pins s σ H _ us Q I r ⟨p, bs, by rw [e1], sqL_of h1, k.i⟩
  | _ => cases eo
theorem cb_list : CallR X (.type "list") (rB1 X.K .list) := by
  intro pins s σ H xs us Q I r h
  obtain ⟨m, A, x, d, d3, rfl, hh, r1, eo, k⟩ := h
  cases d with
  | lst ds =>
    cases eo
    obtain ⟨p, vs, e1, h1, _, _, q1⟩ := r1.inv_lst
    exact L2.call_list_of pins s σ H _ us Q I r ⟨p, vs, by rw [e1], .inl (sqL_of h1), k.l hh q1⟩
  | tup ds =>
    cases eo
    obtain ⟨p, vs, e1, h1, q1⟩ := r1.inv_tup
    exact L2.call_list_of pins s σ H _ us Q I r ⟨p, vs, by rw [e1], .inr h1, k.l hh q1⟩
  | _ => cases eo
theorem cb_tuple : CallR X (.type "tuple") (rB1 X.K .tuple) := by
  intro pins s σ H xs us Q I r h
  obtain ⟨m, A, x, d, d3, rfl, hh, r1, eo, k⟩ := h
  cases d with
  | lst ds =>
    cases eo
    obtain ⟨p, vs, e1, h1, _, _, q1⟩ := r1.inv_lst
    exact L2.call_tuple_of pins s σ H _ us Q I r ⟨p, vs, by rw [e1], .inl ⟨sqL_of h1, k.t hh q1⟩⟩
  | tup ds =>
    cases eo
    obtain ⟨p, vs, e1, h1, q1⟩ := id r1.inv_tup
    exact L2.call_tuple_of pins s σ H _ us Q I r ⟨p, vs, by rw [e1], .inr ⟨h1, by rw [← e1]; exact k _ _ (Nw.same H) r1⟩⟩
  | _ => cases eo
theorem cb_int : CallR X (.type "int") (rB1 X.K .int) := by
  intro pins s σ H xs us Q I r h
  obtain ⟨m, A, x, d, d3, rfl, hh, r1, eo, k⟩ := h
  cases d with
  | bl b =>
    cases eo
    exact L2.call_int1 pins s σ H _ us Q I r (.inr ⟨b, by rw [r1.inv_bl], k.i⟩)
  | _ => cases eo
/-! ### sorted -/
theorem RV.inv_pair {v : V} {i j : Int} (r : RV K m A H v (.tup [.int i, .int j])) : ∃ p, v = .ref p ∧ H p = some (.tup [.int i, .int j]) := by
  cases r with
  | tup h _ _ r =>
    cases r with
    | cons r1 r2 =>
      cases r2 with
      | cons r2 r3 =>
        cases r3
        rw [r1.inv_int, r2.inv_int] at h
        exact ⟨_, rfl, h⟩
  | ktp _ b _ => cases b
/-- the pair at a place -/
def kOf (H : Hp) : V → Int × Int
  | .ref t => match H t with
    | some (.tup [.int i, .int j]) => (i, j)
    | _ => (0, 0)
  | _ => (0, 0)
theorem RL.pairs {ds : List D} : ∀ {vs : List V} {ps : List (Int × Int)}, RL K m A H vs ds → pairsD ds = some ps → ds = ps.map pairD ∧ vs.map (kOf H) = ps ∧ ∀ v ∈ vs, ∃ t, v = V.ref t ∧ H t = some (.tup [.int (kOf H v).1, .int (kOf H v).2]) := by
  induction ds with
  | nil => intro vs ps r e; cases e; cases r; exact ⟨rfl, rfl, fun _ h => nomatch h⟩
  | cons d ds ih =>
    intro vs ps r e
    unfold pairsD at e
    split at e
    · rename_i z; cases z
    · rename_i a b rest z
      cases z
      cases q : pairsD ds with
      | none => rw [q] at e; cases e
      | some qs =>
        rw [q] at e
        cases e
        cases r with
        | cons r1 r2 =>
          obtain ⟨h1, h2, h3⟩ := ih r2 q
          obtain ⟨t, rfl, ht⟩ := r1.inv_pair
          have hk : kOf H (.ref t) = (a, b) := by simp [kOf, ht]
          refine ⟨by rw [h1]; rfl, by rw [List.map_cons, h2, hk], fun v hv => ?_⟩
          rcases List.mem_cons.mp hv with rfl | hv
          · exact ⟨t, rfl, by rw [hk]; exact ht⟩
          · exact h3 v hv
    · cases e
theorem rl_of_map {ps : List (Int × Int)} : ∀ {vs : List V}, vs.map (kOf H) = ps → (∀ v ∈ vs, RV K m A H v (pairD (kOf H v))) → RL K m A H vs (ps.map pairD) := by
  induction ps with
  | nil => intro vs e _; cases vs with
    | nil => exact .nil
    | cons _ _ => cases e
  | cons p ps ih =>
    intro vs e h
    cases vs with
    | nil => cases e
    | cons v vs =>
      rw [List.map_cons] at e
      cases e
      exact .cons (h v (List.mem_cons_self ..)) (ih rfl fun u hu => h u (List.mem_cons_of_mem _ hu))
theorem RL.mem_rv : ∀ {vs : List V} {ds : List D}, RL K m A H vs ds → ∀ v ∈ vs, ∃ d ∈ ds, RV K m A H v d
  | _, _, .nil, _, h => nomatch h
  | _, _, .cons r t, v, h => by
    rcases List.mem_cons.mp h with rfl | h
    · exact ⟨_, List.mem_cons_self .., r⟩
    · obtain ⟨d, h1, h2⟩ := RL.mem_rv t v h
      exact ⟨d, List.mem_cons_of_mem _ h1, h2⟩
theorem cb_sorted : CallR X (.builtin "sorted") (rB1 X.K .sorted) := by
  intro pins s σ H xs us Q I r h
  obtain ⟨m, A, x, d, d3, rfl, hh, r1, eo, k⟩ := h
  cases d with
  | lst ds =>
    obtain ⟨p, vs, e1, h1, _, _, q1⟩ := r1.inv_lst
    simp only [b1, sortD] at eo
    cases q : intsD ds with
    | some ns =>
      rw [q] at eo
      cases eo
      have z := q1.asInts q
      subst z
      refine L2.cr_sortedI pins s σ H _ us Q I r ⟨p, ns, by rw [e1], sqL_of h1, fun ns' p' hp hs hn => ?_⟩
      have e : ns' = sortI ns := uniq_sorted (fun a b => Int.le_antisymm a b) (hp.trans (sortI_perm ns).symm) hs (sortI_sorted ns)
      subst e
      exact k.l hh (rl_ints _) p' hn
    | none =>
      rw [q] at eo
      simp only at eo
      cases q2 : pairsD ds with
      | none => rw [q2] at eo; cases eo
      | some ps =>
        rw [q2] at eo
        cases eo
        obtain ⟨e2, e3, e4⟩ := q1.pairs q2
        refine L2.cr_sortedPO pins s σ H _ us Q I r ⟨p, vs, kOf H, by rw [e1], sqL_of h1, e4, fun ys p' hs hb hn => ?_⟩
        have hrv : ∀ v ∈ ys, RV X.K m A H v (pairD (kOf H v)) := fun v hv => by
          have hv' := hb.perm.mem_iff.mp hv
          obtain ⟨d, hd, hr⟩ := q1.mem_rv v hv'
          rw [e2] at hd
          obtain ⟨pp, _, rfl⟩ := List.mem_map.mp hd
          obtain ⟨t, rfl, ht⟩ := RV.inv_pair (i := pp.1) (j := pp.2) hr
          have hk : kOf H (.ref t) = pp := by simp [kOf, ht]
          rw [hk]
          exact hr
        have e : ys.map (kOf H) = sortP ps := by
          refine uniq_sorted (R := leP) leP_anti ?_ ?_ (sortP_sorted ps)
          · rw [← e3]
            exact (hb.perm.map _).trans (sortP_perm _).symm
          · rw [List.pairwise_map]
            exact hs.imp fun {a b} z => z
        exact k.l hh (rl_of_map e hrv) p' hn
  | _ => cases eo
def rB2 (K : PySem.W.Frag) (f : B2) : List V → Hp → VK → Prop := fun xs H Q => ∃ (m : List Addr) (A : Addr → Prop) (x y : V) (d e d3 : D), xs = [x, y] ∧ Held m A H ∧ RV K m A H x d ∧ RV K m A H y e ∧ b2 f d e = some d3 ∧ Ret K m A H d3 Q
theorem cb_max (hc : X.calm = true) : CallR X (.builtin "max") (rB2 X.K .max) := by
  intro pins s σ H xs us Q I r h
  obtain ⟨m, A, x, y, d, e, d3, rfl, hh, r1, r2, eo, k⟩ := h
  cases d with
  | int a =>
    cases e with
    | int b =>
      cases eo
      exact L2.call_max2 hc pins s σ H _ us Q I r ⟨a, b, by rw [r1.inv_int, r2.inv_int], k.i⟩
    | _ => cases eo
  | _ => cases e <;> cases eo
theorem cb_min (hc : X.calm = true) : CallR X (.builtin "min") (rB2 X.K .min) := by
  intro pins s σ H xs us Q I r h
  obtain ⟨m, A, x, y, d, e, d3, rfl, hh, r1, r2, eo, k⟩ := h
  cases d with
  | int a =>
    cases e with
    | int b =>
      cases eo
      exact L2.call_min2 hc pins s σ H _ us Q I r ⟨a, b, by rw [r1.inv_int, r2.inv_int], k.i⟩
    | _ => cases eo
  | _ => cases e <;> cases eo
/-! ### items, slices -/
def rIG (K : PySem.W.Frag) : R2 := fun x y H Q => ∃ (m : List Addr) (A : Addr → Prop) (d e d3 : D), Held m A H ∧ RV K m A H x d ∧ RV K m A H y e ∧ idx d e = some d3 ∧ Ret K m A H d3 Q
theorem at_of {vs : List V} {ds : List D} {i : Int} {d : D} (r : RL K m A H vs ds) (h : at_ ds i = some d) : ∃ v, L2.atI vs i = some v ∧ RV K m A H v d := by
  unfold at_ at h
  unfold L2.atI
  have e : L2.ixN vs.length i = ix ds.length i := by rw [r.length]; rfl
  rw [e]
  cases q : ix ds.length i with
  | none => rw [q] at h; cases h
  | some j =>
    rw [q] at h
    exact r.get h
theorem at_map {α β : Type} (f : α → β) (xs : List α) (i : Int) : L2.atI (xs.map f) i = (at_ xs i).map f := by
  unfold at_ L2.atI
  have e : L2.ixN (xs.map f).length i = ix xs.length i := by rw [List.length_map]; rfl
  rw [e]
  cases q : ix xs.length i with
  | none => rfl
  | some j => simp
theorem at_mem {α : Type} {xs : List α} {i : Int} {x : α} (h : at_ xs i = some x) : x ∈ xs := by
  unfold at_ at h
  cases q : ix xs.length i with
  | none => rw [q] at h; cases h
  | some j => rw [q] at h; exact List.mem_of_getElem? h
theorem ig_ix : IxR X (rIG X.K) := by
  intro value slice pins s σ H x y v u Q I rx ry h hs
  obtain ⟨m, A, d, e, d3, hh, r1, r2, eo, k⟩ := h
  cases e with
  | int i =>
    cases d with
    | lst ds =>
      obtain ⟨p, vs, e1, h1, _, _, q1⟩ := r1.inv_lst
      obtain ⟨z, hz, rz⟩ := at_of q1 eo
      exact L2.ix_list value slice pins s σ H x y v u Q I rx ry ⟨p, vs, i, z, e1, r2.inv_int, sqL_of h1, hz, k _ _ (Nw.same H) rz⟩ hs
    | tup ds =>
      obtain ⟨p, vs, e1, h1, q1⟩ := r1.inv_tup
      obtain ⟨z, hz, rz⟩ := at_of q1 eo
      exact L2.ix_tup value slice pins s σ H x y v u Q I rx ry ⟨p, vs, i, z, e1, r2.inv_int, h1, hz, k _ _ (Nw.same H) rz⟩ hs
    | str ss =>
      simp only [idx] at eo
      cases q : at_ ss i with
      | none => rw [q] at eo; cases eo
      | some c =>
        rw [q] at eo
        cases eo
        obtain ⟨e1, o1⟩ := r1.inv_str
        refine L2.ix_str value slice pins s σ H x y v u Q I rx ry ⟨_, i, c, e1, r2.inv_int, by rw [str_len]; exact o1.2, (show at_ ss i = some c from q), ?_⟩ hs
        exact k.s (s := [c]) ⟨fun z hz => by simp at hz; subst hz; exact o1.1 _ (at_mem q), by rw [PySem.sizeLine_eq]; show 1 ≤ 16777216; decide⟩
    | scr ns =>
      simp only [idx] at eo
      cases q : at_ ns i with
      | none => rw [q] at eo; cases eo
      | some c =>
        rw [q] at eo
        cases eo
        cases r1 with
        | scr h1 =>
          exact L2.ix_list value slice pins s σ H _ y v u Q I rx ry ⟨_, _, i, .int c, rfl, r2.inv_int, h1.sq, by rw [at_map, q] <;> rfl, k.i⟩ hs
    | _ => cases eo
  | _ => cases d <;> cases eo
def rSG (K : PySem.W.Frag) : V → Option Int → Option Int → Hp → VK → Prop := fun x lo hi H Q => ∃ (m : List Addr) (A : Addr → Prop) (d d3 : D), Held m A H ∧ RV K m A H x d ∧ slc d lo hi = some d3 ∧ Ret K m A H d3 Q
theorem sx_eq (n d : Nat) (o : Option Int) : sx n d o = HT.sIx n d o := by cases o <;> rfl
theorem cut_of {vs : List V} {ds : List D} (lo hi : Option Int) (r : RL K m A H vs ds) : RL K m A H (L2.cutV vs lo hi) (cut ds lo hi) := by
  unfold L2.cutV cut
  rw [sx_eq, sx_eq, r.length]
  exact (r.drop _).take _
theorem sg_sl : SlR X (rSG X.K) := by
  intro pins s σ H x v vl vu lo hi sl Q I rx hs pl pu h
  obtain ⟨m, A, d, d3, hh, r1, eo, k⟩ := h
  cases d with
  | lst ds =>
    cases eo
    obtain ⟨p, vs, e1, h1, _, _, q1⟩ := r1.inv_lst
    exact L2.sl_list pins s σ H x v vl vu lo hi sl Q I rx hs pl pu ⟨p, vs, e1, sqL_of h1, k.l hh (cut_of lo hi q1)⟩
  | tup ds =>
    cases eo
    obtain ⟨p, vs, e1, h1, q1⟩ := id r1.inv_tup
    refine L2.sl_tupA pins s σ H x v vl vu lo hi sl Q I rx hs pl pu ⟨p, vs, e1, h1, fun z => ?_, fun _ => k.t hh (cut_of lo hi q1)⟩
    have e : cut ds lo hi = ds := by
      unfold cut
      rw [sx_eq, sx_eq, ← q1.length, z.1, z.2, List.drop_zero, Nat.sub_zero, q1.length, List.take_length]
    rw [e] at k
    rw [← e1]
    exact k _ _ (Nw.same H) r1
  | str ss =>
    cases eo
    obtain ⟨e1, o1⟩ := r1.inv_str
    refine L2.sl_str pins s σ H x v vl vu lo hi sl Q I rx hs pl pu ⟨_, e1, by rw [str_len]; exact o1.2, ?_⟩
    have e : L2.cutS ⟨ss.toArray⟩ lo hi = ⟨(cut ss lo hi).toArray⟩ := by
      unfold L2.cutS cut
      rw [sx_eq, sx_eq, str_len] <;> rfl
    rw [e]
    refine k.s ⟨fun c hc => ?_, ?_⟩
    · exact o1.1 c (List.mem_of_mem_drop (List.mem_of_mem_take hc))
    · unfold cut
      rw [List.length_take, List.length_drop]
      have := o1.2
      omega
  | _ => cases eo
/-! ### methods -/
def rMG (K : PySem.W.Frag) (f : M1) : V → List V → Hp → VK → Prop := fun x xs H Q => ∃ (m : List Addr) (A : Addr → Prop) (y : V) (d e d3 : D), xs = [y] ∧ Held m A H ∧ RV K m A H x d ∧ RV K m A H y e ∧ m1 f d e = some d3 ∧ Ret K m A H d3 Q
theorem cnt_eq (c : Nat) : ∀ s : List Nat, ((cnt c s : Nat) : Int) = PyProof.Rows.cnt c s
  | [] => rfl
  | n :: s => by
    rw [PyProof.Rows.cnt_cons, ← cnt_eq c s]
    unfold cnt
    rw [List.countP_cons]
    by_cases h : n = c
    · rw [if_pos h, if_pos (by simpa using h)]; omega
    · rw [if_neg h, if_neg (by simpa using h)]; omega
theorem mg_count : MtR X "str.count" (rMG X.K .count) := by
  intro pins s σ H x xs v us Q I rx rxs h
  obtain ⟨m, A, y, d, e, d3, rfl, hh, r1, r2, eo, k⟩ := h
  cases d with
  | str ss =>
    cases e with
    | str bs =>
      cases bs with
      | nil => cases eo
      | cons c r =>
        cases r with
        | cons _ _ => cases eo
        | nil =>
          cases eo
          refine L2.mt_count pins s σ H x _ v us Q I rx rxs ⟨_, _, r1.inv_str.1, by rw [r2.inv_str.1], ?_⟩
          have e : PySem.Txt.count ⟨ss.toArray⟩ ⟨[c].toArray⟩ = ((cnt c ss : Nat) : Int) := by
            rw [cnt_eq]
            exact PyProof.Rows.count_is ⟨ss.toArray⟩ c
          rw [e]
          exact k.i
    | _ => cases eo
  | _ => cases e <;> cases eo
theorem ends_eq (ss : List Nat) (c : Nat) : PySem.Txt.endswith ⟨ss.toArray⟩ ⟨[c].toArray⟩ = (ss.getLast? == some c) := by
  unfold PySem.Txt.endswith
  rw [PySem.StrLaws.subAt_eq, str_len, str_len]
  cases ss with
  | nil => rfl
  | cons a r =>
    have h : 0 + [c].length ≤ (a :: r).length := by simp
    rw [decide_eq_true h, Bool.true_and]
    have e : ((a :: r).drop ((a :: r).length - [c].length)) = [(a :: r).getLast (by simp)] := by
      rw [show [c].length = 1 from rfl]
      have z := List.dropLast_concat_getLast (l := a :: r) (by simp)
      have l : (a :: r).length - 1 = (a :: r).dropLast.length := by rw [List.length_dropLast]
      rw [l]
      conv => lhs; arg 2; rw [← z]
      rw [List.drop_left']
      rfl
    show (((a :: r).toArray.toList.drop _).take _ == _) = _
    rw [show (a :: r).toArray.toList = a :: r from rfl, e, List.getLast?_eq_some_getLast (by simp)]
    rw [Bool.eq_iff_iff]
    simp
theorem mg_ends : MtR X "str.endswith" (rMG X.K .endswith) := by
  intro pins s σ H x xs v us Q I rx rxs h
  obtain ⟨m, A, y, d, e, d3, rfl, hh, r1, r2, eo, k⟩ := h
  cases d with
  | str ss =>
    cases e with
    | str bs =>
      cases bs with
      | nil => cases eo
      | cons c r =>
        cases r with
        | cons _ _ => cases eo
        | nil =>
          cases eo
          refine L2.mt_endswith pins s σ H x _ v us Q I rx rxs ⟨_, _, r1.inv_str.1, by rw [r2.inv_str.1], ?_⟩
          rw [ends_eq]
          exact k.b
    | _ => cases eo
  | _ => cases e <;> cases eo
theorem join_eq (s : List Nat) : ∀ ys : List (List Nat), PySem.Str.join ⟨s.toArray⟩ (ys.map fun y => (⟨y.toArray⟩ : Str)) = ⟨(joinL s ys).toArray⟩
  | [] => rfl
  | [_] => rfl
  | x :: y :: r => by
    show (⟨x.toArray⟩ : Str) ++ ⟨s.toArray⟩ ++ PySem.Str.join ⟨s.toArray⟩ ((y :: r).map fun y => (⟨y.toArray⟩ : Str)) = _
    rw [join_eq s (y :: r), str_app, str_app, List.append_assoc]
    rfl
theorem join_len (s : List Nat) : ∀ ys : List (List Nat), (joinL s ys).length ≤ (ys.map List.length).sum + ys.length * s.length
  | [] => Nat.zero_le _
  | [x] => by show x.length ≤ x.length + 0 + _; omega
  | x :: y :: r => by
    have ih := join_len s (y :: r)
    show (x ++ (s ++ joinL s (y :: r))).length ≤ x.length + ((y :: r).map List.length).sum + ((y :: r).length + 1) * s.length
    rw [List.length_append, List.length_append, Nat.add_mul, Nat.one_mul]
    omega
theorem join_mem (s : List Nat) {c : Nat} : ∀ ys : List (List Nat), c ∈ joinL s ys → c ∈ s ∨ ∃ y ∈ ys, c ∈ y
  | [], h => by cases h
  | [x], h => .inr ⟨x, List.mem_cons_self .., h⟩
  | x :: y :: r, h => by
    have h : c ∈ x ++ (s ++ joinL s (y :: r)) := h
    rcases List.mem_append.mp h with h | h
    · exact .inr ⟨x, List.mem_cons_self .., h⟩
    · rcases List.mem_append.mp h with h | h
      · exact .inl h
      · rcases join_mem s (y :: r) h with h | ⟨z, hz, h⟩
        · exact .inl h
        · exact .inr ⟨z, List.mem_cons_of_mem _ hz, h⟩
theorem mg_join : MtR X "str.join" (rMG X.K .join) := by
  intro pins s σ H x xs v us Q I rx rxs h
  obtain ⟨m, A, y, d, e, d3, rfl, hh, r1, r2, eo, k⟩ := h
  cases d with
  | str ss =>
    cases e with
    | lst ds =>
      simp only [m1] at eo
      cases q : strsD ds with
      | none => rw [q] at eo; cases eo
      | some ys =>
        rw [q] at eo
        simp only at eo
        split at eo
        · rename_i hl
          cases eo
          obtain ⟨p, vs, e1, h1, _, _, q1⟩ := r2.inv_lst
          obtain ⟨z, oz⟩ := q1.asStrs q
          subst z
          obtain ⟨e2, o2⟩ := r1.inv_str
          refine L2.mt_join pins s σ H x _ v us Q I rx rxs ⟨⟨ss.toArray⟩, p, ys.map fun y => (⟨y.toArray⟩ : Str), e2, by rw [e1], .inl ?_, ?_, ?_⟩
          · rw [List.map_map]; exact sqL_of h1
          · rw [List.map_map, List.length_map, str_len]
            have e : (Str.length ∘ fun y : List Nat => (⟨y.toArray⟩ : Str)) = List.length := by funext y; exact str_len y
            rw [e]
            unfold lim at hl
            omega
          · have e : PySem.Txt.join ⟨ss.toArray⟩ (ys.map fun y => (⟨y.toArray⟩ : Str)) = ⟨(joinL ss ys).toArray⟩ := (PySem.StrLaws.glued_eq_join _ _).trans (join_eq ss ys)
            rw [e]
            refine k.s ⟨fun c hc => ?_, lim_size (Nat.le_trans (join_len ss ys) hl)⟩
            rcases join_mem ss ys hc with h | ⟨z, hz, h⟩
            · exact o2.1 c h
            · exact (oz z hz).1 c h
        · cases eo
    | _ => cases eo
  | _ => cases e <;> cases eo
/-! ### methods of lists -/
def rLG (K : PySem.W.Frag) (f : LM) : V → List V → Hp → VK → Prop := fun x xs H Q => ∃ (m : List Addr) (A : Addr → Prop) (y : V) (d e d3 : D), xs = [y] ∧ Held m A H ∧ RV K m A H x d ∧ RV K m A H y e ∧ lm f d e = some d3 ∧ Ret K m A H d3 Q
theorem mg_lcount : MtR X "list.count" (rLG X.K .count) := by
  intro pins s σ H x xs v us Q I rx rxs h
  obtain ⟨m, A, y, d, e, d3, rfl, hh, r1, r2, eo, k⟩ := h
  cases d with
  | lst ds =>
    cases e with
    | int n =>
      simp only [lm] at eo
      cases q : intsD ds with
      | none => rw [q] at eo; cases eo
      | some ns =>
        rw [q] at eo
        cases eo
        obtain ⟨p, vs, e1, h1, _, _, q1⟩ := r1.inv_lst
        have z := q1.asInts q
        subst z
        exact L2.mt_lcount pins s σ H x _ v us Q I rx rxs ⟨p, ns, n, e1, by rw [r2.inv_int], sqL_of h1, k.i⟩
    | _ => cases eo
  | _ => cases e <;> cases eo
theorem firstAt_some {p : D → Bool} : ∀ {ds : List D} {n j : Nat}, firstAt p ds n = some j → n ≤ j ∧ (∃ d, ds[j - n]? = some d ∧ p d = true) ∧ ∀ i d, i < j - n → ds[i]? = some d → p d = false
  | [], _, _, h => by cases h
  | x :: r, n, j, h => by
    unfold firstAt at h
    split at h
    · rename_i q
      cases h
      exact ⟨Nat.le_refl _, ⟨x, by simp, q⟩, fun i d hi => by omega⟩
    · rename_i q
      obtain ⟨h1, ⟨d, h2, h3⟩, h4⟩ := firstAt_some h
      refine ⟨by omega, ⟨d, ?_, h3⟩, fun i d hi hd => ?_⟩
      · have e : j - n = (j - (n + 1)) + 1 := by omega
        rw [e, List.getElem?_cons_succ]
        exact h2
      · cases i with
        | zero => simp at hd; subst hd; simpa using q
        | succ i => exact h4 i d (by omega) (by simpa using hd)
theorem RL.flatAt {ds : List D} {vs : List V} (r : RL K m A H vs ds) (hf : ds.all flat = true) {y : V} {e : D} (ry : RV K m A H y e) (he : flat e = true) {j : Nat} (h : firstAt (fun z => deq z e) ds 0 = some j) :
    ∃ z, vs[j]? = some z ∧ L2.eqV z y = true ∧ ∀ (i : Nat) (z' : V), i < j → vs[i]? = some z' → L2.eqV z' y = false := by
  obtain ⟨_, ⟨d, h2, h3⟩, h4⟩ := firstAt_some h
  rw [Nat.sub_zero] at h2 h4
  obtain ⟨z, hz, rz⟩ := r.get h2
  refine ⟨z, hz, (eqV_of rz ry (List.all_eq_true.mp hf d (List.mem_of_getElem? h2)) he).trans h3, fun i z' hi hz' => ?_⟩
  obtain ⟨d', hd', rd'⟩ := r.getV hz'
  exact (eqV_of rd' ry (List.all_eq_true.mp hf d' (List.mem_of_getElem? hd')) he).trans (h4 i d' hi hd')
theorem mg_index : MtR X "list.index" (rLG X.K .index) := by
  intro pins s σ H x xs v us Q I rx rxs h
  obtain ⟨m, A, y, d, e, d3, rfl, hh, r1, r2, eo, k⟩ := h
  cases d with
  | lst ds =>
    simp only [lm] at eo
    split at eo
    · rename_i hf
      cases q : firstAt (fun z => deq z e) ds 0 with
      | none => rw [q] at eo; cases eo
      | some j =>
        rw [q] at eo
        cases eo
        obtain ⟨p, vs, e1, h1, _, _, q1⟩ := r1.inv_lst
        obtain ⟨z, k1, k2, k3⟩ := q1.flatAt hf.2 r2 hf.1 q
        exact L2.mt_index pins s σ H x _ v us Q I rx rxs ⟨p, vs, y, j, z, e1, rfl, sqL_of h1, flat_of r2 hf.1, flats_of q1 hf.2, k1, k2, k3, k.i⟩
    · cases eo
  | _ => cases e <;> cases eo
theorem strsD_map {ds : List D} : ∀ {ys : List (List Nat)}, strsD ds = some ys → ds = ys.map D.str := by
  induction ds with
  | nil => intro ys h; cases h; rfl
  | cons d ds ih =>
    intro ys h
    cases d with
    | str s =>
      simp only [strsD] at h
      cases q : strsD ds with
      | none => rw [q] at h; cases h
      | some zs => rw [q] at h; cases h; rw [ih q]; rfl
    | _ => cases h
theorem mg_tindex : MtR X "tuple.index" (rLG X.K .tindex) := by
  intro pins s σ H x xs v us Q I rx rxs h
  obtain ⟨m, A, y, d, e, d3, rfl, hh, r1, r2, eo, k⟩ := h
  cases d with
  | tup ds =>
    cases e with
    | str z =>
      simp only [lm] at eo
      cases q : strsD ds with
      | none => rw [q] at eo; cases eo
      | some ys =>
        rw [q] at eo
        simp only at eo
        cases q2 : firstAt (fun z' => deq z' (.str z)) (ys.map D.str) 0 with
        | none => rw [q2] at eo; cases eo
        | some j =>
          rw [q2] at eo
          cases eo
          obtain ⟨p, vs, e1, h1, q1⟩ := r1.inv_tup
          obtain ⟨e2, _⟩ := q1.asStrs q
          subst e2
          obtain ⟨_, ⟨d, h2, h3⟩, h4⟩ := firstAt_some q2
          rw [Nat.sub_zero] at h2 h4
          have toS : (ys.map fun s => V.str ⟨s.toArray⟩) = (ys.map fun s => (⟨s.toArray⟩ : Str)).map V.str := by rw [List.map_map]; rfl
          rw [toS] at h1
          refine L2.mt_tup_index pins s σ H x _ v us Q I rx rxs ⟨p, ys.map fun s => (⟨s.toArray⟩ : Str), ⟨z.toArray⟩, j, e1, by rw [r2.inv_str.1], h1, ?_, fun i hi hz => ?_, k.i⟩
          · rw [List.getElem?_map] at h2 ⊢
            cases hy : ys[j]? with
            | none => rw [hy] at h2; cases h2
            | some w =>
              rw [hy] at h2
              cases h2
              have : w = z := by simpa [deq] using h3
              rw [this]; rfl
          · rw [List.getElem?_map] at hz
            cases hy : ys[i]? with
            | none => rw [hy] at hz; cases hz
            | some w =>
              rw [hy] at hz
              have hw : w = z := by
                have hz : (⟨w.toArray⟩ : Str) = ⟨z.toArray⟩ := Option.some.inj hz
                have := congrArg (fun s : Str => s.cps.toList) hz
                simpa using this
              have := h4 i (.str w) hi (by rw [List.getElem?_map, hy]; rfl)
              rw [hw] at this
              simp [deq] at this
    | _ => cases eo
  | _ => cases e <;> cases eo
/-! ### not in range -/
theorem op_nin_rng : OpR X (PySem.compareOp .NotIn) (fun x y H Q => ∃ i a lo hi, x = V.int i ∧ y = V.ref a ∧ H a = some (.rng lo hi) ∧ Q (.bl (!decide (lo ≤ i ∧ i < hi))) H) := by
  intro pins s σ H x y v u Q I rx ry h
  obtain ⟨i, a, lo, hi, rfl, rfl, ha, q⟩ := h
  obtain ⟨k, rfl⟩ := rx
  obtain rfl : u = Value.ref a := ry
  obtain ⟨t1, t2, t3, ho⟩ := I.hok a _ ha
  show PySem.wpAny _ _ (do return Value.bool (!(← PySem.contains (Value.ref a) (Value.int i k)))) _ _ s
  refine PySem.wpAny_bind (PySem.wpAny_contains_slot (T := "range") ⟨_, ho, rfl⟩ PySem.F.slot_range_contains (PySem.call_meets PySem.F.slot_range_contains ⟨_, ho, rfl⟩ PySem.F.entry_range_contains (PySem.F.args_range_contains_2 _ _) (L2.q_contains a lo hi i t1 t2 t3 k)
    ⟨ho, PySem.wpAny_truthy_bool (PySem.wpAny_pure ⟨.bl _, H, I, rfl, ?_⟩)⟩))
  rw [L2.place1]
  exact q
/-! ### isinstance -/
def tyN : Ty → String
  | .int => "int" | .bool => "bool" | .str => "str" | .list => "list" | .tuple => "tuple"
theorem ty_of {v : V} {d : D} {t : Ty} {b : Bool} (r : RV K m A H v d) (h : isA d t = some b) : ∃ u, L2.TyX K H v u ∧ PySem.W.kitOne K u (.type (tyN t)) = some b := by
  cases r with
  | non => cases h; exact ⟨_, .base .non, by cases t <;> exact L2.kit_ty (by decide +kernel)⟩
  | bl b => exact ⟨_, .base (.bl b), by cases t <;> cases h <;> exact L2.kit_ty (by decide +kernel)⟩
  | int b => exact ⟨_, .base (.int b), by cases t <;> cases h <;> exact L2.kit_ty (by decide +kernel)⟩
  | str b _ => exact ⟨_, .base (.str b), by cases t <;> cases h <;> exact L2.kit_ty (by decide +kernel)⟩
  | lst e _ _ _ => exact ⟨_, .base (.lst e), by cases t <;> cases h <;> exact L2.kit_ty (by decide +kernel)⟩
  | tup e _ _ _ => exact ⟨_, .base (.tup e), by cases t <;> cases h <;> exact L2.kit_ty (by decide +kernel)⟩
  | ktp e _ _ =>
    obtain ⟨o, _, _, e1, e2, _⟩ := e
    exact ⟨_, .kTuple e1 e2, by cases t <;> cases h <;> exact L2.kit_ty (by decide +kernel)⟩
  | obj _ => cases h
  | scr _ => cases h
end
end Mi
/-! Mini: is a text of the model that of a term of the small language? -/
namespace Mi
open PySem (Str Addr Value Expr Stmt Scope PyData sizeLine Const NameKind Operator CmpOp Comprehension)
open L2 (V Hp HO Key upd Rd SqL SqT Cx VK R2 OpR CallR MtR IxR SlR)

/-- where a text stands: the def's names by slot, the defs' and constants' names, the scope, a block's own scope -/
structure CC where
  N : List Str
  fn : Nat → Str
  gl : Nat → Str
  sc : Scope
  blk : Option Scope
  cl : Nat → Str
  calm : Bool
def visB (sc : Scope) (x : Str) : Bool := match sc.names.lookup x with
  | some .local => true
  | some .cell => true
  | some .free => true
  | _ => false
def gloB (sc : Scope) (x : Str) : Bool := match sc.names.lookup x with
  | some .globalImplicit => true
  | _ => false
/-- the name may be stored -/
def stoB (c : CC) (x : Str) : Bool := match c.sc.names.lookup x with
  | some .local => true
  | some .cell => (match c.blk with
    | none => true
    | some s => (match s.names.lookup x with
      | some .cell => true
      | _ => false))
  | _ => false
def plainName (x : Str) : Bool := !(x == ("__debug__" : Str)) && !(x == ("__classdict__" : Str)) && !(x == ("__name__" : Str))
def cstB : D → Const → Bool
  | .non, .none => true
  | .bl a, .bool b => a == b
  | .int a, .int b => a == b
  | .str a, .str b => decide (b.cps.toList = a) && a.all (fun c => decide (c < 1114112)) && decide (a.length ≤ 1000000)
  | _, _ => false
def binB : O2 → Operator → Bool
  | .add, .Add => true | .sub, .Sub => true | .mul, .Mult => true | .fdv, .FloorDiv => true | .mod, .Mod => true | .pow, .Pow => true
  | _, _ => false
def cmpB : O2 → CmpOp → Bool
  | .eq, .Eq => true | .ne, .NotEq => true | .lt, .Lt => true | .le, .LtE => true | .gt, .Gt => true | .ge, .GtE => true
  | .isin, .In => true | .nin, .NotIn => true | .iss, .Is => true | .isn, .IsNot => true
  | _, _ => false
def noSet : Expr → Bool
  | .Set _ _ _ => false
  | _ => true
def f1N : B1 → Option Str
  | .len => some "len" | .all => some "all" | .sum => some "sum" | .list => some "list" | .tuple => some "tuple" | .int => some "int" | .sorted => some "sorted" | _ => none
def lmN : LM → Option Str
  | .count => some "count" | .index => some "index" | .tindex => none
def f2N : B2 → Str
  | .max => "max" | .min => "min"
def m1N : M1 → Str
  | .count => "count" | .endswith => "endswith" | .join => "join"
def tyS : Ty → Str
  | .int => "int" | .bool => "bool" | .str => "str" | .list => "list" | .tuple => "tuple"
/-- no call without arguments (super()) -/
def noCall0 : Expr → Bool
  | .Call (.Name _ _) [] [] _ => false
  | _ => true
def chkT (c : CC) : Tg → Expr → Bool
  | .name i, .Name x _ => decide (c.N[i]? = some x) && stoB c x
  | .pair a b, .Tuple [x, y] _ _ => c.calm && (chkT c a x && chkT c b y)
  | .trip a b d, .Tuple [x, y, z] _ _ => c.calm && (chkT c a x && (chkT c b y && chkT c d z))
  | .quad a b d e, .Tuple [x, y, z, u] _ _ => c.calm && (chkT c a x && (chkT c b y && (chkT c d z && chkT c e u)))
  | _, _ => false
def slots : Tg → List Nat
  | .name i => [i]
  | .pair a b => slots a ++ slots b
  | .trip a b c => slots a ++ (slots b ++ slots c)
  | .quad a b c d => slots a ++ (slots b ++ (slots c ++ slots d))
def isTupT : Expr → Bool
  | .Tuple _ _ _ => true
  | _ => false
/-- the block's names with their slots -/
def ownB (N : List Str) (vs : List Nat) : List (Str × Nat) := vs.filterMap fun i => (N[i]?).map fun x => (x, i)
def blkB (c : CC) (scope : Scope) (vs : List Nat) : Bool := L2.blkC c.N c.sc scope (ownB c.N vs) && decide ((ownB c.N vs).map (·.2) = vs)
def CC.inB (c : CC) (scope : Scope) : CC := { c with sc := L2.relS scope c.sc, blk := some scope }
mutual
def chkE (c : CC) (lo : Bool) : Ex → Expr → Bool
  | .var i, .Name x _ => decide (c.N[i]? = some x) && visB c.sc x && plainName x
  | .own i, .Name x _ => lo && (decide (c.N[i]? = some x) && visB c.sc x && plainName x)
  | .cst d, .Constant k _ _ => cstB d k
  | .glo i, .Name x _ => decide (c.gl i = x) && gloB c.sc x && plainName x
  | .op o a b, .BinOp x p y _ => binB o p && (chkE c lo a x && chkE c lo b y)
  | .op o a b, .Compare x [p] [y] _ => cmpB o p && (chkE c lo a x && (chkE c lo b y && noSet y))
  | .chain o o' a b d, .Compare x [p, p'] [y, z] _ => cmpB o p && (cmpB o' p' && (chkE c lo a x && (chkE c lo b y && (chkE c lo d z && (noSet y && noSet z)))))
  | .neg a, .UnaryOp .USub x _ => chkE c lo a x
  | .nt a, .UnaryOp .Not x _ => chkE c lo a x
  | .and a b, .BoolOp .And (x :: y :: r) p => chkE c lo a x && (match r with
    | [] => chkE c lo b y
    | _ => chkE c lo b (.BoolOp .And (y :: r) p))
  | .or a b, .BoolOp .Or (x :: y :: r) p => chkE c lo a x && (match r with
    | [] => chkE c lo b y
    | _ => chkE c lo b (.BoolOp .Or (y :: r) p))
  | .ite t a b, .IfExp z x y _ => chkE c lo t z && (chkE c lo a x && chkE c lo b y)
  | .lst es, .List xs _ => chkA c lo es xs
  | .tup es, .Tuple xs _ _ => chkA c lo es xs
  | .idx a i, .Subscript x y _ => chkE c lo a x && chkE c lo i y
  | .slc a none none, .Subscript x (.Slice none none none _) _ => chkE c lo a x
  | .slc a (some l) none, .Subscript x (.Slice (some y) none none _) _ => chkE c lo a x && chkE c lo l y
  | .slc a none (some h), .Subscript x (.Slice none (some z) none _) _ => chkE c lo a x && chkE c lo h z
  | .slc a (some l) (some h), .Subscript x (.Slice (some y) (some z) none _) _ => chkE c lo a x && (chkE c lo l y && chkE c lo h z)
  | .rev a, .Subscript x (.Slice none none (some (.UnaryOp .USub (.Constant (.int 1) _ _) _)) _) _ => chkE c lo a x
  | .f1 f a, .Call (.Name x _) [y] [] _ => c.calm && (decide (f1N f = some x) && (gloB c.sc x && chkE c lo a y))
  | .f2 f a b, .Call (.Name x _) [y, z] [] _ => c.calm && (decide (f2N f = x) && (gloB c.sc x && (chkE c lo a y && chkE c lo b z)))
  | .meth f a b, .Call (.Attribute x n ap) [y] [] cp => decide (m1N f = n) && ((ap.endLine == cp.line) && (noCall0 x && (chkE c lo a x && chkE c lo b y)))
  | .lmeth f a b, .Call (.Attribute x n ap) [y] [] cp => decide (lmN f = some n) && ((ap.endLine == cp.line) && (noCall0 x && (chkE c lo a x && chkE c lo b y)))
  | .nrng a b d, .Compare x [.NotIn] [.Call (.Name n _) [y, z] [] _] _ => decide (n = ("range" : Str)) && (gloB c.sc n && (chkE c lo a x && (chkE c lo b y && chkE c lo d z)))
  | .lzip a b, .Call (.Name f _) [.Call (.Name n _) [y, z] [] _] [] _ => c.calm && (decide (f = ("list" : Str)) && (gloB c.sc f && (decide (n = ("zip" : Str)) && (gloB c.sc n && (chkE c lo a y && chkE c lo b z)))))
  | .isi a t, .Call (.Name x _) [y, .Name z _] [] _ => decide (x = ("isinstance" : Str)) && (gloB c.sc x && (decide (tyS t = z) && (gloB c.sc z && chkE c lo a y)))
  | .isE i C, .Call (.Name x _) [.Name y _, .Name z _] [] _ => !c.calm && (decide (x = ("isinstance" : Str)) && (gloB c.sc x && (decide (c.N[i]? = some y) && (visB c.sc y && (plainName y && (decide (c.cl C = z) && (gloB c.sc z && plainName z)))))))
  | .call f es, .Call (.Name x _) (y :: ys) [] _ => c.calm && (decide (c.fn f = x) && (gloB c.sc x && (plainName x && chkA c false es (y :: ys))))
  | .callO f es, .Call (.Name x _) (y :: ys) [] _ => lo && (c.calm && (decide (c.fn f = x) && (gloB c.sc x && (plainName x && chkA c true es (y :: ys)))))
  | .comp e tg it vs, .ListComp y [⟨t, i, [], 0⟩] scope _ => c.calm && (chkI c lo it t i && (blkB c scope vs && (chkT (c.inB scope) tg t && ((slots tg).all (fun k => vs.contains k) && chkE (c.inB scope) false e y))))
  | .compIf e tg it z vs, .ListComp y [⟨t, i, [u], 0⟩] scope _ => c.calm && (chkI c lo it t i && (blkB c scope vs && (chkT (c.inB scope) tg t && ((slots tg).all (fun k => vs.contains k) && (chkE (c.inB scope) false z u && chkE (c.inB scope) false e y)))))
  | _, _ => false
def chkA (c : CC) (lo : Bool) : Exs → List Expr → Bool
  | .nil, [] => true
  | .cons e es, x :: xs => chkE c lo e x && chkA c lo es xs
  | _, _ => false
def chkI (c : CC) (lo : Bool) : It → Expr → Expr → Bool
  | .seq e, _, x => noSet x && chkE c false e x
  | .enm e, t, .Call (.Name x _) [y] [] _ => decide (x = ("enumerate" : Str)) && (gloB c.sc x && (isTupT t && chkE c false e y))
  | .zip a b, t, .Call (.Name x _) [y, z] [] _ => decide (x = ("zip" : Str)) && (gloB c.sc x && (isTupT t && (chkE c false a y && chkE c false b z)))
  | .rng e, _, .Call (.Name x _) [y] [] _ => decide (x = ("range" : Str)) && (gloB c.sc x && chkE c lo e y)
  | .rng2 a b, _, .Call (.Name x _) [y, z] [] _ => decide (x = ("range" : Str)) && (gloB c.sc x && (chkE c lo a y && chkE c lo b z))
  | _, _, _ => false
end
def isComp : Expr → Bool
  | .ListComp _ _ _ _ => true
  | .SetComp _ _ _ _ => true
  | .DictComp _ _ _ _ _ => true
  | _ => false
/-- name = [..] on one line: the stores are exchanged -/
def swapB (c : CC) (n : Str) (np : PySem.Pos) : Expr → Bool
  | .ListComp _ _ scope pos => (match c.sc.names.lookup n with
      | some .local => true
      | _ => false) && ((np.line == pos.line) && !(scope.names.any fun (m, k) => m == n && (k == .local || k == .cell)))
  | _ => false
def cellB (sc : Scope) (n : Str) : Bool := match sc.names.lookup n with
  | some .cell => true
  | _ => false
def noTup : Expr → Bool
  | .Tuple _ _ _ => false
  | _ => true
def setOk (c : CC) (n : Str) (np : PySem.Pos) : Expr → Bool
  | .ListComp y gs scope p => swapB c n np (.ListComp y gs scope p) || cellB c.sc n
  | y => !isComp y
def asgOk (c : CC) (x : Expr) : Expr → Bool
  | .Name n np => setOk c n np x
  | .Tuple _ _ _ => noTup x && !isComp x
  | _ => false
def chkAsg (c : CC) (tg : Tg) (e : Ex) : Stmt → Bool
  | .Assign [t] x _ => chkT c tg t && (chkE c false e x && asgOk c x t)
  | _ => false
def chkNew (c : CC) (i : Nat) : Stmt → Bool
  | .Assign [.Name n _] (.List [] _) _ => decide (c.N[i]? = some n) && stoB c n
  | _ => false
def chkApp (c : CC) (i : Nat) (e : Ex) : Stmt → Bool
  | .Expr (.Call (.Attribute (.Name n _) a ap) [x] [] cp) _ => decide (a = ("append" : Str)) && ((ap.endLine == cp.line) && (decide (c.N[i]? = some n) && (visB c.sc n && (plainName n && chkE c false e x))))
  | _ => false
def locB (sc : Scope) (n : Str) : Bool := match sc.names.lookup n with
  | some .local => true
  | _ => false
def chkCpy (c : CC) (i : Nat) (e : Ex) : Stmt → Bool
  | .Assign [.Name n _] (.Call (.Name f _) [x] [] _) _ => decide (f = ("list" : Str)) && (gloB c.sc f && (decide (c.N[i]? = some n) && (stoB c n && chkE c false e x)))
  | _ => false
def chkThaw (c : CC) (i g : Nat) (es : Exs) : Stmt → Bool
  | .Assign [.Name n _] (.Call (.Name f _) (x :: xs) [] _) _ => c.calm && (decide (c.fn g = f) && (gloB c.sc f && (plainName f && (decide (c.N[i]? = some n) && (stoB c n && chkA c false es (x :: xs))))))
  | _ => false
def noSlc : Expr → Bool
  | .Slice _ _ _ _ => false
  | _ => true
def chkPut (c : CC) (i : Nat) (j e : Ex) : Stmt → Bool
  | .Assign [.Subscript (.Name n _) y _] x _ => decide (c.N[i]? = some n) && (visB c.sc n && (plainName n && (noSlc y && (!isComp x && (chkE c true j y && chkE c true e x)))))
  | _ => false
def nameT : Expr → Option Str
  | .Name n _ => some n
  | _ => none
def chkPar (c : CC) (i j : Nat) (a b : Ex) : Stmt → Bool
  | .Assign [.Tuple [.Name n p, .Name k q] _ _] (.Tuple [x, y] _ _) _ => c.calm && (!(i == j) && (decide (c.N[i]? = some n) && (decide (c.N[j]? = some k) && (locB c.sc n && (locB c.sc k && ((q.line == p.line) && (!([x, y].all (PySem.foldedForSure 8)) && (!([x, y].all (PySem.constantsAlone 8)) && (chkE c false a x && chkE c false b y)))))))))
  | _ => false
/-- tells a list of its own -/
def isFr : Ex → Bool
  | .own _ => true
  | .comp _ _ _ _ => true
  | .compIf _ _ _ _ _ => true
  | .op .add _ _ => true
  | _ => false
def vIf : Stmt → Option (Expr × List Stmt × List Stmt)
  | .If x xs ys _ => some (x, xs, ys)
  | _ => none
def vFor : Stmt → Option (Expr × Expr × List Stmt)
  | .For t x xs [] _ => some (t, x, xs)
  | _ => none
def vWhile : Stmt → Option (Expr × List Stmt)
  | .While x xs [] _ => some (x, xs)
  | _ => none
def vRet : Stmt → Option Expr
  | .Return (some x) _ => some x
  | _ => none
def vExpr : Stmt → Option Expr
  | .Expr x _ => some x
  | _ => none
def vExc : Expr → Option Str
  | .Call (.Name x _) [.Constant (.str _) _ _] [] _ => some x
  | _ => none
def vRaise : Stmt → Option Str
  | .Raise (some e) none _ => vExc e
  | _ => none
def vHand : PySem.ExceptHandler → Option (Str × Str × List Stmt)
  | .ExceptHandler (some (.Name x _)) (some n) ys _ => some (x, n, ys)
  | _ => none
def vTry : Stmt → Option (List Stmt × Str × Str × List Stmt)
  | .Try xs [h] [] [] _ => (vHand h).map fun q => (xs, q.1, q.2.1, q.2.2)
  | _ => none
def vPass : Stmt → Bool
  | .Pass _ => true
  | _ => false
mutual
def chkS (c : CC) : Sm → Stmt → Bool
  | .asg tg e, st => chkAsg c tg e st
  | .new i, st => chkNew c i st
  | .app i e, st => chkApp c i e st
  | .frz _ s, st => chkS c s st
  | .cpy i e, st => chkCpy c i e st
  | .thaw i g es, st => chkThaw c i g es st
  | .put i j e, st => chkPut c i j e st
  | .par i j a b, st => chkPar c i j a b st
  | .retF e, st => match vRet st with
    | some x => isFr e && chkE c true e x
    | none => false
  | .ifs t a b, st => match vIf st with
    | some (x, xs, ys) => chkE c true t x && (chkB c a xs && chkB c b ys)
    | none => false
  | .each tg it b, st => match vFor st with
    | some (t, x, xs) => c.calm && (chkI c false it t x && (chkT c tg t && chkB c b xs))
    | none => false
  | .whl t b, st => match vWhile st with
    | some (x, xs) => chkE c true t x && chkB c b xs
    | none => false
  | .ret e, st => match vRet st with
    | some x => chkE c true e x
    | none => false
  | .expr e, st => match vExpr st with
    | some x => chkE c true e x && !isComp x
    | none => false
  | .rais C, st => match vRaise st with
    | some x => c.calm && (decide (c.cl C = x) && (gloB c.sc x && plainName x))
    | none => false
  | .tryE b C i su, st => match vTry st with
    | some (xs, x, n, ys) => c.calm && (chkB c b xs && (decide (c.cl C = x) && (gloB c.sc x && (plainName x && (decide (c.N[i]? = some n) && (locB c.sc n && (chkB { c with calm := false } su ys && !ys.isEmpty)))))))
    | none => false
  | .nev, _ => true
  | .pass, st => vPass st
def chkB (c : CC) : Sms → List Stmt → Bool
  | .nil, [] => true
  | .cons s r, x :: xs => chkS c s x && chkB c r xs
  | _, _ => false
end
theorem vIf_eq {st : Stmt} {x : Expr} {xs ys : List Stmt} (h : vIf st = some (x, xs, ys)) : ∃ p, st = .If x xs ys p := by
  cases st <;> first | (cases h; done) | (cases h; exact ⟨_, rfl⟩)
theorem vFor_eq {st : Stmt} {t x : Expr} {xs : List Stmt} (h : vFor st = some (t, x, xs)) : ∃ p, st = .For t x xs [] p := by
  cases st <;> first | (cases h; done) | skip
  rename_i a b d e p
  cases e <;> cases h
  exact ⟨_, rfl⟩
theorem vWhile_eq {st : Stmt} {x : Expr} {xs : List Stmt} (h : vWhile st = some (x, xs)) : ∃ p, st = .While x xs [] p := by
  cases st <;> first | (cases h; done) | skip
  rename_i a b d p
  cases d <;> cases h
  exact ⟨_, rfl⟩
theorem vRet_eq {st : Stmt} {x : Expr} (h : vRet st = some x) : ∃ p, st = .Return (some x) p := by
  cases st <;> first | (cases h; done) | skip
  rename_i a p
  cases a <;> cases h
  exact ⟨_, rfl⟩
theorem vExpr_eq {st : Stmt} {x : Expr} (h : vExpr st = some x) : ∃ p, st = .Expr x p := by
  cases st <;> first | (cases h; done) | (cases h; exact ⟨_, rfl⟩)
theorem vExc_eq {e : Expr} {x : Str} (h : vExc e = some x) : ∃ p m j p2 pos, e = .Call (.Name x p) [.Constant (.str m) j p2] [] pos := by
  unfold vExc at h
  split at h
  · cases h; exact ⟨_, _, _, _, _, rfl⟩
  · cases h
theorem vRaise_eq {st : Stmt} {x : Str} (h : vRaise st = some x) : ∃ p m j p2 pos q, st = .Raise (some (.Call (.Name x p) [.Constant (.str m) j p2] [] pos)) none q := by
  unfold vRaise at h
  split at h
  · obtain ⟨p, m, j, p2, pos, rfl⟩ := vExc_eq h
    exact ⟨_, _, _, _, _, _, rfl⟩
  · cases h
theorem vHand_eq {h : PySem.ExceptHandler} {x n : Str} {ys : List Stmt} (e : vHand h = some (x, n, ys)) : ∃ p q, h = .ExceptHandler (some (.Name x p)) (some n) ys q := by
  unfold vHand at e
  split at e
  · cases e; exact ⟨_, _, rfl⟩
  · cases e
theorem vTry_eq {st : Stmt} {x n : Str} {xs ys : List Stmt} (e : vTry st = some (xs, x, n, ys)) : ∃ p q r, st = .Try xs [.ExceptHandler (some (.Name x p)) (some n) ys q] [] [] r := by
  unfold vTry at e
  split at e
  · rename_i xs' h r
    cases q : vHand h with
    | none => rw [q] at e; cases e
    | some z =>
      obtain ⟨z1, z2, z3⟩ := z
      rw [q] at e
      cases e
      obtain ⟨p, q', rfl⟩ := vHand_eq q
      exact ⟨_, _, _, rfl⟩
  · cases e
theorem vPass_eq {st : Stmt} (h : vPass st = true) : ∃ p, st = .Pass p := by
  cases st <;> first | (cases h; done) | exact ⟨_, rfl⟩
theorem chkAsg_eq {c : CC} {tg : Tg} {e : Ex} {st : Stmt} (h : chkAsg c tg e st = true) : ∃ t x p, st = .Assign [t] x p ∧ chkT c tg t = true ∧ chkE c false e x = true ∧ asgOk c x t = true := by
  unfold chkAsg at h
  split at h
  · simp only [Bool.and_eq_true] at h
    exact ⟨_, _, _, rfl, h.1, h.2.1, h.2.2⟩
  · cases h
theorem chkNew_eq {c : CC} {i : Nat} {st : Stmt} (h : chkNew c i st = true) : ∃ n p q r, st = .Assign [.Name n p] (.List [] q) r ∧ c.N[i]? = some n ∧ stoB c n = true := by
  unfold chkNew at h
  split at h
  · simp only [Bool.and_eq_true, decide_eq_true_eq] at h
    exact ⟨_, _, _, _, rfl, h.1, h.2⟩
  · cases h
theorem chkApp_eq {c : CC} {i : Nat} {e : Ex} {st : Stmt} (h : chkApp c i e st = true) : ∃ n p1 ap x cp p, st = .Expr (.Call (.Attribute (.Name n p1) ("append" : Str) ap) [x] [] cp) p ∧ (ap.endLine == cp.line) = true ∧ c.N[i]? = some n ∧ visB c.sc n = true ∧ plainName n = true ∧ chkE c false e x = true := by
  unfold chkApp at h
  split at h
  · simp only [Bool.and_eq_true, decide_eq_true_eq] at h
    obtain ⟨h1, h2, h3, h4, h5, h6⟩ := h
    subst h1
    exact ⟨_, _, _, _, _, _, rfl, h2, h3, h4, h5, h6⟩
  · cases h
theorem chkCpy_eq {c : CC} {i : Nat} {e : Ex} {st : Stmt} (h : chkCpy c i e st = true) : ∃ n p q x r s, st = .Assign [.Name n p] (.Call (.Name ("list" : Str) q) [x] [] r) s ∧ gloB c.sc ("list" : Str) = true ∧ c.N[i]? = some n ∧ stoB c n = true ∧ chkE c false e x = true := by
  unfold chkCpy at h
  split at h
  · simp only [Bool.and_eq_true, decide_eq_true_eq] at h
    obtain ⟨rfl, h2, h3, h4, h5⟩ := h
    exact ⟨_, _, _, _, _, _, rfl, h2, h3, h4, h5⟩
  · cases h
theorem chkThaw_eq {c : CC} {i g : Nat} {es : Exs} {st : Stmt} (h : chkThaw c i g es st = true) : ∃ n p f q x xs r s, st = .Assign [.Name n p] (.Call (.Name f q) (x :: xs) [] r) s ∧ c.calm = true ∧ c.fn g = f ∧ gloB c.sc f = true ∧ plainName f = true ∧ c.N[i]? = some n ∧ stoB c n = true ∧ chkA c false es (x :: xs) = true := by
  unfold chkThaw at h
  split at h
  · simp only [Bool.and_eq_true, decide_eq_true_eq] at h
    obtain ⟨h1, h2, h3, h4, h5, h6, h7⟩ := h
    exact ⟨_, _, _, _, _, _, _, _, rfl, h1, h2, h3, h4, h5, h6, h7⟩
  · cases h
theorem chkPut_eq {c : CC} {i : Nat} {j e : Ex} {st : Stmt} (h : chkPut c i j e st = true) : ∃ n p y q x s, st = .Assign [.Subscript (.Name n p) y q] x s ∧ c.N[i]? = some n ∧ visB c.sc n = true ∧ plainName n = true ∧ noSlc y = true ∧ isComp x = false ∧ chkE c true j y = true ∧ chkE c true e x = true := by
  unfold chkPut at h
  split at h
  · simp only [Bool.and_eq_true, decide_eq_true_eq, Bool.not_eq_true'] at h
    obtain ⟨h1, h2, h3, h4, h5, h6, h7⟩ := h
    exact ⟨_, _, _, _, _, _, rfl, h1, h2, h3, h4, h5, h6, h7⟩
  · cases h
theorem chkPar_eq {c : CC} {i j : Nat} {a b : Ex} {st : Stmt} (h : chkPar c i j a b st = true) : ∃ n p k q kt pt x y k2 pt2 s, st = .Assign [.Tuple [.Name n p, .Name k q] kt pt] (.Tuple [x, y] k2 pt2) s ∧ c.calm = true ∧ i ≠ j ∧ c.N[i]? = some n ∧ c.N[j]? = some k ∧ locB c.sc n = true ∧ locB c.sc k = true ∧ (q.line == p.line) = true ∧ [x, y].all (PySem.foldedForSure 8) = false ∧ [x, y].all (PySem.constantsAlone 8) = false ∧ chkE c false a x = true ∧ chkE c false b y = true := by
  unfold chkPar at h
  split at h
  · obtain ⟨h1, h⟩ := Bool.and_eq_true_iff.mp h
    obtain ⟨h2, h⟩ := Bool.and_eq_true_iff.mp h
    obtain ⟨h3, h⟩ := Bool.and_eq_true_iff.mp h
    obtain ⟨h4, h⟩ := Bool.and_eq_true_iff.mp h
    obtain ⟨h5, h⟩ := Bool.and_eq_true_iff.mp h
    obtain ⟨h6, h⟩ := Bool.and_eq_true_iff.mp h
    obtain ⟨h7, h⟩ := Bool.and_eq_true_iff.mp h
    obtain ⟨h8, h⟩ := Bool.and_eq_true_iff.mp h
    obtain ⟨h9, h⟩ := Bool.and_eq_true_iff.mp h
    obtain ⟨h10, h11⟩ := Bool.and_eq_true_iff.mp h
    exact ⟨_, _, _, _, _, _, _, _, _, _, _, rfl, h1, by simpa using h2, of_decide_eq_true h3, of_decide_eq_true h4, h5, h6, h7, by simpa only [Bool.not_eq_true'] using h8, by simpa only [Bool.not_eq_true'] using h9, h10, h11⟩
  · cases h
theorem ba {a b : Bool} (h : (a && b) = true) : a = true ∧ b = true := Bool.and_eq_true_iff.mp h
theorem chkE_star {c : CC} {lo : Bool} {e : Ex} {x : Expr} {p : PySem.Pos} (h : chkE c lo e (.Starred x p) = true) : False := by
  cases e <;> first | (cases h; done) | (simp [chkE] at h; done) | skip
  all_goals (rename_i a b; cases a <;> cases b <;> simp [chkE] at h)
theorem star_cons {e : Expr} {es : List Expr} {env : PySem.Env} (h : ∀ x p, e ≠ .Starred x p) : PySem.starEach (e :: es) env = (false, PySem.eval e env) :: PySem.starEach es env := by
  cases e <;> first | rfl | exact absurd rfl (h _ _)
theorem chk_ns {c : CC} {lo : Bool} {e : Ex} {x : Expr} (h : chkE c lo e x = true) : ∀ y p, x ≠ .Starred y p := by
  rintro y p rfl
  exact chkE_star h
theorem stars_plain {c : CC} {lo : Bool} {env : PySem.Env} {pos : PySem.Pos} : ∀ {es : Exs} {xs : List Expr}, chkA c lo es xs = true → (PySem.backTo pos (PySem.starEach xs env)).any (·.1) = false
  | .nil, [], _ => rfl
  | .cons e es, x :: xs, h => by
    obtain ⟨h1, h2⟩ := ba h
    rw [star_cons (chk_ns h1)]
    show (false || _) = false
    rw [Bool.false_or]
    exact stars_plain h2
  | .nil, _ :: _, h => by cases h
  | .cons _ _, [], h => by cases h
end Mi
/-! Mini: what the interpreter says of an expression, the model does. -/
namespace Mi
open PySem (Str Addr Value Expr Stmt Scope PyData sizeLine Const NameKind Operator CmpOp Comprehension)
open L2 (V Hp HO Key upd Rd SqL SqT Cx VK R2 OpR CallR MtR IxR SlR PE PT PW PA PI PG TE TT TA TI TG WX Takes Room)

def ExR (G : Gx) (m : List Addr) (A : Addr → Prop) (H : Hp) (x : Xc) (c : Value) (dd : Option Addr) : Prop :=
  c = .ref (G.cls x.cls) ∧ match x.arg with
    | none => dd = none
    | some d => ∃ dx v, dd = some dx ∧ H dx = some (HO.xd [(("stands" : Str), v)]) ∧ RV G.K m A H v d
/-- what comes of a result -/
def PX {α β : Type} (G : Gx) (f : Fr) (σ : L2.St) (ρ : Env) (W : WX) (rel : List Addr → Hp → β → α → Prop) (m : List Addr) (H : Hp) (r : R α) (Q : β → Hp → Prop) : Prop := match r with
  | .ok d S' => ∀ v H' m', Ext m H m' H' → St G f σ H' ρ S' m' → rel m' H' v d → Q v H'
  | .xc x S' => ∀ c dd H' m', Ext m H m' H' → St G f σ H' ρ S' m' → ExR G m' (Av f σ ρ) H' x c dd → W c dd σ H'
  | .no => False
section
variable {α β γ δ : Type} {G : Gx} {f : Fr} {σ : L2.St} {ρ : Env} {W : WX} {rel : List Addr → Hp → β → α → Prop} {rel2 : List Addr → Hp → δ → γ → Prop} {m m' : List Addr} {H H' : Hp} {S : Sto} {r : R α} {Q Q' : β → Hp → Prop}
theorem PX.move (e : Ext m H m' H') (h : PX G f σ ρ W rel m H r Q) : PX G f σ ρ W rel m' H' r Q := by
  cases r with
  | ok d S' => exact fun v H2 m2 e2 s r => h v H2 m2 (e.trans e2) s r
  | xc x S' => exact fun c dd H2 m2 e2 s r => h c dd H2 m2 (e.trans e2) s r
  | no => exact h
theorem PX.imp (h : PX G f σ ρ W rel m H r Q) (hq : ∀ v H', Q v H' → Q' v H') : PX G f σ ρ W rel m H r Q' := by
  cases r with
  | ok d S' => exact fun v H2 m2 e2 s r => hq _ _ (h v H2 m2 e2 s r)
  | xc x S' => exact h
  | no => exact h
/-- one after another -/
theorem PX.bind {k : α → Sto → R γ} {Q2 : δ → Hp → Prop} (h : PX G f σ ρ W rel2 m H (r.bind k) Q2) :
    PX G f σ ρ W rel m H r fun v H1 => ∃ d S1 m1, Ext m H m1 H1 ∧ St G f σ H1 ρ S1 m1 ∧ rel m1 H1 v d ∧ PX G f σ ρ W rel2 m1 H1 (k d S1) Q2 := by
  cases r with
  | ok d S' => exact fun v H2 m2 e2 s r => ⟨d, S', m2, e2, s, r, h.move e2⟩
  | xc x S' => exact h
  | no => exact h
/-- the end, with what is at hand -/
theorem PX.now {d : α} (h : PX G f σ ρ W rel m H (.ok d S) Q) (s : St G f σ H ρ S m) {v : β} (r : rel m H v d) : Q v H := h v H m (Ext.refl m H) s r
theorem PX.relmap {rel' : List Addr → Hp → β → α → Prop} (h : PX G f σ ρ W rel m H r Q) (hr : ∀ m' H' v d, rel' m' H' v d → rel m' H' v d) : PX G f σ ρ W rel' m H r Q := by
  cases r with
  | ok d S' => exact fun v H2 m2 e2 s r => h v H2 m2 e2 s (hr _ _ _ _ r)
  | xc x S' => exact h
  | no => exact h
end
/-- the mode's places -/
def Bv (lo : Bool) (f : Fr) (σ : L2.St) (ρ : Env) : Addr → Prop := match lo with
  | true => f.A0
  | false => Av f σ ρ
theorem Bv.av {lo : Bool} {f : Fr} {σ : L2.St} {ρ : Env} {a : Addr} (h : Bv lo f σ ρ a) : Av f σ ρ a := by
  cases lo with
  | true => exact .inl h
  | false => exact h
abbrev rv (G : Gx) (B : Addr → Prop) : List Addr → Hp → V → D → Prop := fun m H v d => RV G.K m B H v d
abbrev rl (G : Gx) (B : Addr → Prop) : List Addr → Hp → List V → List D → Prop := fun m H v d => RL G.K m B H v d
abbrev rb : List Addr → Hp → Bool → Bool → Prop := fun _ _ v d => v = d
theorem St.held {G : Gx} {f : Fr} {σ : L2.St} {H : Hp} {ρ : Env} {S : Sto} {m : List Addr} {lo : Bool} (s : St G f σ H ρ S m) : Held m (Bv lo f σ ρ) H :=
  ⟨fun _ h => s.liveA h.av, fun _ h => s.sr.live h⟩
section
variable {G : Gx} {f : Fr} {σ : L2.St} {ρ : Env} {W : WX} {m : List Addr} {H : Hp} {S : Sto} {lo : Bool}
/-- an operation's end -/
theorem PX.ret {d : D} {Q : VK} (h : PX G f σ ρ W (rv G (Bv lo f σ ρ)) m H (.ok d S) Q) (s : St G f σ H ρ S m) : Ret G.K m (Bv lo f σ ρ) H d Q := by
  intro v H' n r
  refine h v H' m n.ext ?_ r
  rcases n with rfl | ⟨p, o, hp, rfl⟩
  · exact s
  · exact s.new hp
theorem PX.lifted {o : Option D} {Q : VK} (h : PX G f σ ρ W (rv G (Bv lo f σ ρ)) m H (lift o S) Q) (s : St G f σ H ρ S m) : ∃ d, o = some d ∧ Ret G.K m (Bv lo f σ ρ) H d Q := by
  cases o with
  | none => exact h.elim
  | some d => exact ⟨d, rfl, PX.ret h s⟩
end

/-! ### iterators -/
/-- what J gives are the items ds, while the things of B stand -/
def ItR (G : Gx) (A : Addr → Prop) (m : List Addr) (H : Hp) (J : L2.It) (ds : List D) : Prop :=
  ∃ (B : Addr → HO → Prop) (Y : Nat → Hp → V → Hp → Prop), L2.Walk J ds.length (fun H1 => ∀ a o, B a o → H1 a = some o) Y ∧ (∀ a o, B a o → H a = some o ∧ a ∉ m ∧ ¬ A a) ∧
    ∀ i d, ds[i]? = some d → ∀ m1 A1 H1 x H2, Kp m A H m1 A1 H1 → Held m1 A1 H1 → Y i H1 x H2 → Nw H1 H2 ∧ RV G.K m1 A1 H2 x d

/-! ### the readings -/
def GE (G : Gx) (F : Fns) (W : WX) (lo : Bool) (e : Ex) : TE := fun σ H Q => ∃ f ρ S m, St G f σ H ρ S m ∧ PX G f σ ρ W (rv G (Bv lo f σ ρ)) m H (ev F e ρ S) Q
def GT (G : Gx) (F : Fns) (W : WX) (lo : Bool) (e : Ex) : TT := fun σ H Q => ∃ f ρ S m, St G f σ H ρ S m ∧ PX G f σ ρ W rb m H ((ev F e ρ S).bind asB) Q
def GA (G : Gx) (F : Fns) (W : WX) (lo : Bool) (es : Exs) : TA := fun σ H Q => ∃ f ρ S m, St G f σ H ρ S m ∧ PX G f σ ρ W (rl G (Bv lo f σ ρ)) m H (evs F es ρ S) Q
theorem imp_pe {X : Cx} {e : Expr} {t t' : TE} (h : PE X e t) (hi : ∀ σ H Q, t' σ H Q → t σ H Q) : PE X e t' := ⟨fun pins s σ H Q I q => h.run pins s σ H Q I (hi σ H Q q)⟩
theorem imp_pt {X : Cx} {e : Expr} {t t' : TT} (h : PT X e t) (hi : ∀ σ H Q, t' σ H Q → t σ H Q) : PT X e t' := ⟨fun pins s σ H Q I q => h.run pins s σ H Q I (hi σ H Q q)⟩
theorem imp_pw {X : Cx} {e : Expr} {t t' : TT} (h : PW X e t) (hi : ∀ σ H Q, t' σ H Q → t σ H Q) : PW X e t' := ⟨fun wh pins s σ H Q I q => h.run wh pins s σ H Q I (hi σ H Q q)⟩
theorem imp_pa {X : Cx} {e : List Expr} {t t' : TA} (h : PA X e t) (hi : ∀ σ H Q, t' σ H Q → t σ H Q) : PA X e t' := ⟨fun pos pins s σ H Q I q => h.run pos pins s σ H Q I (hi σ H Q q)⟩

/-! ### what is known of the world -/
/-- what a def promises: g's result -/
def spF (G : Gx) (g : Fn) : L2.Sp := fun vs H Q E => ∃ ds S m A, SR G m A S H ∧ (∀ a, A a → H a ≠ none) ∧ RL G.K m A H vs ds ∧ match g ds S with
  | .ok d S' => ∀ v H' m', Ext m H m' H' → SR G m' A S' H' → RV G.K m' A H' v d → Q v H'
  | .xc x S' => ∀ c dd H' m', Ext m H m' H' → SR G m' A S' H' → ExR G m' A H' x c dd → E c dd H'
  | .no => False
/-- a list of its own: nothing of the store, and nothing else, holds it -/
def FrR (G : Gx) (m : List Addr) (A : Addr → Prop) (H0 H : Hp) (S : Sto) (v : V) (d : D) : Prop :=
  ∃ p vs ds, v = .ref p ∧ d = .lst ds ∧ H p = some (.lst vs) ∧ p ∉ m ∧ ¬ A p ∧ H0 p = none ∧ RL G.K m (fun a => A a ∨ a = p) H vs ds ∧ SR G m (fun a => A a ∨ a = p) S H
theorem FrR.sr {G : Gx} {m : List Addr} {A : Addr → Prop} {H0 H : Hp} {S : Sto} {v : V} {d : D} (h : FrR G m A H0 H S v d) : SR G m A S H := by
  obtain ⟨p, vs, ds, _, _, _, _, _, _, _, h⟩ := h
  exact h.less fun a z => .inl z
theorem FrR.rv {G : Gx} {m : List Addr} {A : Addr → Prop} {H0 H : Hp} {S : Sto} {v : V} {d : D} (h : FrR G m A H0 H S v d) : RV G.K m A H v d := by
  obtain ⟨p, vs, ds, rfl, rfl, h1, h2, h3, _, h4, _⟩ := h
  exact .lst h1 h2 h3 (h4.less fun a z => .inl z)
/-- .. and that the result is a list of its own -/
def spFr (G : Gx) (g : Fn) : L2.Sp := fun vs H Q E => ∃ ds S m A, SR G m A S H ∧ (∀ a, A a → H a ≠ none) ∧ RL G.K m A H vs ds ∧ match g ds S with
  | .ok d S' => ∀ v H' m', Ext m H m' H' → FrR G m' A H H' S' v d → Q v H'
  | .xc x S' => ∀ c dd H' m', Ext m H m' H' → SR G m' A S' H' → ExR G m' A H' x c dd → E c dd H'
  | .no => False
theorem spFr.of {G : Gx} {g : Fn} {vs : List V} {H : Hp} {Q : VK} {E : L2.XK} (h : spF G g vs H Q E) : spFr G g vs H Q E := by
  obtain ⟨ds, S, m, A, h1, h2, h3, h⟩ := h
  refine ⟨ds, S, m, A, h1, h2, h3, ?_⟩
  cases hr : g ds S with
  | ok d S' => rw [hr] at h; exact fun v H' m' e f => h v H' m' e f.sr f.rv
  | xc x S' => rw [hr] at h; exact h
  | no => rw [hr] at h; exact h
/-- the def named x keeps g's promise -/
def FnAt (P : PySem.Program) (w : PySem.World) (mg : Str → Option Value) (base : PySem.Heap) (G : Gx) (k : Nat) (x : Str) (g : Fn) : Prop :=
  ∃ f fd ps, mg x = some (.ref f) ∧ PySem.W.keepIn G.K (.ref f) = true ∧ L2.Binds G.K fd ps [] ∧ L2.FnOk P w G.K mg base (L2.CX P w) k f fd ps (spF G g)
def FnAtF (P : PySem.Program) (w : PySem.World) (mg : Str → Option Value) (base : PySem.Heap) (G : Gx) (k : Nat) (x : Str) (g : Fn) : Prop :=
  ∃ f fd ps, mg x = some (.ref f) ∧ PySem.W.keepIn G.K (.ref f) = true ∧ L2.Binds G.K fd ps [] ∧ L2.FnOk P w G.K mg base (L2.CX P w) k f fd ps (spFr G g)
def builtinNames : List Str := ["len", "all", "sum", "list", "tuple", "int", "max", "min", "isinstance", "bool", "str", "enumerate", "zip", "range", "sorted"]
/-- class i, asked whether it is below j: b -/
def SubAt (mg : Str → Option Value) (G : Gx) (cl : Nat → Str) (i j : Nat) (b : Bool) : Prop :=
  mg (cl j) = some (.ref (G.cls j)) ∧ PySem.W.exmOne G.K (.ref (G.cls i)) (.ref (G.cls j)) = some b ∧ PySem.W.kitOne G.K (.ref (G.cls i)) (.ref (G.cls j)) = some b ∧ L2.ExcC G.K (G.cls i)
/-- class i may be raised with a text -/
def ExcAt (mg : Str → Option Value) (G : Gx) (cl : Nat → Str) (i : Nat) : Prop :=
  mg (cl i) = some (.ref (G.cls i)) ∧ (∃ B newId initId bmB, PySem.ExcBaseFacts B newId initId bmB ∧ PySem.W.excIn G.K (G.cls i) bmB newId = true) ∧ PySem.W.keepIn G.K (.ref (G.cls i)) = true ∧
    PySem.W.subIn G.K (.ref (G.cls i)) (.type "BaseException") = some true ∧ PySem.W.typeIn G.K (.ref (G.cls i)) = some (.type "type")
structure Wd (P : PySem.Program) (w : PySem.World) (mg : Str → Option Value) (base : PySem.Heap) (G : Gx) (F : Fns) (k : Nat) (fn gl cl : Nat → Str) : Prop where
  fns : ∀ i g, F.fn i = some g → FnAt P w mg base G k (fn i) g
  gls : ∀ i d, F.gl i = some d → ∃ v u, mg (gl i) = some u ∧ L2.RelV v u ∧ ∀ m A H, RV G.K m A H v d
  free : ∀ x ∈ builtinNames, mg x = none
  sub : ∀ i j b, F.sub i j = some b → SubAt mg G cl i j b
  exc : ∀ i, F.exc i = true → ExcAt mg G cl i
  frs : ∀ i g, F.fr i = some g → FnAtF P w mg base G k (fn i) g
/-- the context X is that of c -/
structure XC (G : Gx) (F : Fns) (k : Nat) (c : CC) (X : Cx) (W : WX) : Prop where
  wd : Wd X.prog X.w X.mg X.base G F k c.fn c.gl c.cl
  K : X.K = G.K
  N : X.N = c.N
  nd : c.N.Nodup
  sc : X.env.scope = c.sc
  fn : X.fn = match c.blk with
    | none => fun _ => true
    | some s => fun x => s.names.lookup x == some .cell
  calm : c.calm = true → X.calm = true
  un : X.A.units + 64 < PySem.cLine
  room : c.calm = true → Room k X.A
  tk : Takes X W
  err : c.calm = false → ∀ x, F.err = some x → ∃ (X0 : Cx) (oe : PySem.Obj) (pn : List (Addr × PySem.Obj)), X = X0.suite G.ea ((G.ea, oe) :: pn) ∧ L2.Zc (.ref (G.cls x.cls)) none oe ∧ ∃ vs, oe.data = .fields vs
section
variable {G : Gx} {F : Fns} {k : Nat} {c : CC} {X : Cx} {W : WX} {lo : Bool} {e e' a b d : Ex} {x y z : Expr} {pos : PySem.Pos}
theorem XC.units (h : XC G F k c X W) : X.A.units + 64 < PySem.cLine := h.un
theorem XC.vis (h : XC G F k c X W) {x : Str} (hv : visB c.sc x = true) : L2.Vis X.env.scope x := by
  rw [h.sc]
  unfold visB at hv
  split at hv
  · rename_i q; exact .inl q
  · rename_i q; exact .inr (.inl q)
  · rename_i q; exact .inr (.inr q)
  · cases hv
theorem XC.gl (h : XC G F k c X W) {x : Str} (hv : gloB c.sc x = true) : L2.Gl X x := by
  show X.env.scope.names.lookup x = _
  rw [h.sc]
  unfold gloB at hv
  split at hv
  · rename_i q; exact q
  · cases hv
theorem plain_dbg {x : Str} (h : plainName x = true) : (x == ("__debug__" : Str)) = false ∧ (x == ("__classdict__" : Str)) = false ∧ x ≠ ("__name__" : Str) := by
  obtain ⟨h1, h2⟩ := ba h
  obtain ⟨h3, h4⟩ := ba h1
  refine ⟨by simpa using h3, by simpa using h4, ?_⟩
  have h5 : (x == ("__name__" : Str)) = false := by simpa using h2
  intro z
  rw [z] at h5
  simp at h5
theorem s_var {i : Nat} {n : Str} (X' : XC G F k c X W) (h : chkE c lo (.var i) (.Name n pos) = true) : PE X (.Name n pos) (GE G F W lo (.var i)) := by
  obtain ⟨h12, h3⟩ := ba h
  obtain ⟨h1, h2⟩ := ba h12
  obtain ⟨p1, p2, _⟩ := plain_dbg h3
  refine imp_pe (L2.pe_var (i := i) (by rw [X'.N]; exact of_decide_eq_true h1) (X'.vis h2) p1 p2) fun σ H Q h => ?_
  obtain ⟨f, ρ, S, m, s, q⟩ := h
  simp only [ev] at q
  split at q
  · rename_i d hd
    obtain ⟨v, e1, r⟩ := s.val i d hd
    exact ⟨v, e1, q.now s (r.less fun _ z => z.av)⟩
  · exact q.elim
theorem s_own {i : Nat} {n : Str} (X' : XC G F k c X W) (h : chkE c lo (.own i) (.Name n pos) = true) : PE X (.Name n pos) (GE G F W lo (.own i)) := by
  obtain ⟨hl, h⟩ := ba h
  obtain ⟨h12, h3⟩ := ba h
  obtain ⟨h1, h2⟩ := ba h12
  obtain ⟨p1, p2, _⟩ := plain_dbg h3
  refine imp_pe (L2.pe_var (i := i) (by rw [X'.N]; exact of_decide_eq_true h1) (X'.vis h2) p1 p2) fun σ H Q h => ?_
  obtain ⟨f, ρ, S, m, s, q⟩ := h
  simp only [ev] at q
  split at q
  · rename_i ds hd
    obtain ⟨p, vs, e1, e2, e3, e4, r⟩ := s.own i ds hd
    subst hl
    exact ⟨_, e1, q.now s (.lst e4 e2 e3 (r.less fun _ z => .inl z))⟩
  · exact q.elim
theorem s_cst {dd : D} {v : Const} {j : Nat} (h : chkE c lo (.cst dd) (.Constant v j pos) = true) : PE X (.Constant v j pos) (GE G F W lo (.cst dd)) := by
  have h : cstB dd v = true := h
  cases dd with
  | non =>
    cases v with
    | none => exact imp_pe L2.pe_non fun σ H Q ⟨f, ρ, S, m, s, q⟩ => q.now s .non
    | _ => cases h
  | bl b =>
    cases v with
    | bool b' =>
      have e : b = b' := by simpa [cstB] using h
      subst e
      exact imp_pe L2.pe_bl fun σ H Q ⟨f, ρ, S, m, s, q⟩ => q.now s (.bl b)
    | _ => cases h
  | int b =>
    cases v with
    | int b' =>
      have e : b = b' := by simpa [cstB] using h
      subst e
      exact imp_pe L2.pe_int fun σ H Q ⟨f, ρ, S, m, s, q⟩ => q.now s (.int b)
    | _ => cases h
  | str b =>
    cases v with
    | str b' =>
      obtain ⟨h1, h3⟩ := ba h
      obtain ⟨h1, h2⟩ := ba h1
      have e := of_decide_eq_true h1
      subst e
      refine imp_pe L2.pe_str fun σ H Q ⟨f, ρ, S, m, s, q⟩ => q.now s (.str b' ⟨fun z hz => ?_, lim_size (of_decide_eq_true h3)⟩)
      exact of_decide_eq_true (List.all_eq_true.mp h2 z hz)
    | _ => cases h
  | _ => cases v <;> cases h
theorem s_glo {i : Nat} {n : Str} (X' : XC G F k c X W) (h : chkE c lo (.glo i) (.Name n pos) = true) : PE X (.Name n pos) (GE G F W lo (.glo i)) := by
  obtain ⟨h12, h3⟩ := ba h
  obtain ⟨h1, h2⟩ := ba h12
  obtain ⟨p1, p2, _⟩ := plain_dbg h3
  have e := of_decide_eq_true h1
  subst e
  cases q : F.gl i with
  | none =>
    refine ⟨fun pins s σ H Q I h => ?_⟩
    obtain ⟨f, ρ, S, m, s, q'⟩ := h
    simp only [ev, q] at q'
    exact q'.elim
  | some d =>
    obtain ⟨v, u, e1, e2, e3⟩ := X'.wd.gls i d q
    refine imp_pe (L2.pe_glob (X'.gl h2) e1 e2 p1) fun σ H Q ⟨f, ρ, S, m, s, q'⟩ => ?_
    simp only [ev, q, lift_some] at q'
    exact q'.now s (e3 _ _ _)
theorem i_op {o : O2} (hK : X.K = G.K) {σ : L2.St} {H : Hp} {Q : VK} (h : GE G F W lo (.op o a b) σ H Q) : L2.tOp (rG X.K o) (GE G F W lo a) (GE G F W lo b) σ H Q := by
  obtain ⟨f, ρ, S, m, s, q⟩ := h
  simp only [ev] at q
  refine ⟨f, ρ, S, m, s, (PX.bind q).imp fun v H1 ⟨d1, S1, m1, e1, s1, r1, q1⟩ => ⟨f, ρ, S1, m1, s1, (PX.bind q1).imp fun u H2 ⟨d2, S2, m2, e2, s2, r2, q2⟩ => ?_⟩⟩
  obtain ⟨d3, e3, k3⟩ := PX.lifted q2 s2
  rw [hK]
  exact ⟨m2, _, d1, d2, d3, s2.held, r1.ext e2, r2, e3, k3⟩
/-- a test by its value -/
theorem i_test {t : TE} {σ : L2.St} {H : Hp} {Q : Bool → Hp → Prop} (hi : ∀ Q, GE G F W lo e σ H Q → t σ H Q) (h : GT G F W lo e σ H Q) : t σ H fun x H' => ∃ k, x = .bl k ∧ Q k H' := by
  obtain ⟨f, ρ, S, m, s, q⟩ := h
  refine hi _ ⟨f, ρ, S, m, s, (PX.bind q).imp fun v H1 ⟨d1, S1, m1, e1, s1, r1, q1⟩ => ?_⟩
  cases d1 with
  | bl b => exact ⟨b, r1.inv_bl, q1.now s1 rfl⟩
  | _ => exact q1.elim
theorem og_bin {o : O2} {p : Operator} (h : binB o p = true) : OpR X (PySem.binaryOp p) (rG X.K o) := by
  cases o <;> cases p <;> first | (cases h; done) | exact og_add | exact og_sub | exact og_mul | exact og_fdv | exact og_mod | exact og_pow
theorem og_cmp {o : O2} {p : CmpOp} (hu : X.A.units + 64 < PySem.cLine) (h : cmpB o p = true) : OpR X (PySem.compareOp p) (rG X.K o) := by
  cases o <;> cases p <;> first | (cases h; done) | exact og_eq hu | exact og_ne hu | exact og_lt (by omega) | exact og_le | exact og_gt (by omega) | exact og_ge | exact og_in | exact og_nin | exact og_is | exact og_isn
theorem noSet_marks {p : CmpOp} (h : noSet y = true) : PySem.behindInMarks p y = false := by
  cases y <;> first | rfl | cases h
/-- an expression: as a value, as a test -/
structure SE (G : Gx) (F : Fns) (X : Cx) (W : WX) (lo : Bool) (e : Ex) (x : Expr) : Prop where
  v : PE X x (GE G F W lo e)
  t : PT X x (GT G F W lo e)
  w : ∀ op l p, x = .BoolOp op l p → PW X x (GT G F W lo e)
theorem SE.plain (h : PE X x (GE G F W lo e)) (hp : ∀ whole, PySem.isTrue x X.env whole = (do let v ← whole; PySem.standAt x.pos; PySem.holding [v] (PySem.truthy v))) (hw : ∀ op l p, x ≠ .BoolOp op l p) : SE G F X W lo e x :=
  ⟨h, imp_pt (L2.pt_val h hp) fun σ H Q q => i_test (fun _ z => z) q, fun op l p z => absurd z (hw op l p)⟩
theorem s_bin {o : O2} {p : Operator} (X' : XC G F k c X W) (hb : binB o p = true) (h1 : SE G F X W lo a x) (h2 : SE G F X W lo b y) : SE G F X W lo (.op o a b) (.BinOp x p y pos) :=
  .plain (imp_pe (L2.pe_op (og_bin hb) h1.v h2.v) fun _ _ _ q => i_op X'.K q) (fun _ => rfl) (fun _ _ _ z => nomatch z)
theorem s_cmp {o : O2} {p : CmpOp} (X' : XC G F k c X W) (hb : cmpB o p = true) (h1 : SE G F X W lo a x) (h2 : SE G F X W lo b y) (hm : noSet y = true) : SE G F X W lo (.op o a b) (.Compare x [p] [y] pos) :=
  ⟨imp_pe (L2.pe_cmpR (og_cmp X'.units hb) h1.v h2.v (noSet_marks hm)) fun _ _ _ q => i_op X'.K q,
    imp_pt (L2.pt_cmpR (og_cmp X'.units hb) h1.v h2.v (noSet_marks hm)) fun _ _ _ q => i_test (fun _ z => i_op X'.K z) q, fun _ _ _ z => nomatch z⟩
theorem i_chain {o o' : O2} (hK : X.K = G.K) {σ : L2.St} {H : Hp} {Q : VK} (h : GE G F W lo (.chain o o' a b d) σ H Q) : L2.tChain (rG X.K o) (rG X.K o') (GE G F W lo a) (GE G F W lo b) (GE G F W lo d) σ H Q := by
  obtain ⟨f, ρ, S, m, s, q⟩ := h
  simp only [ev] at q
  refine ⟨f, ρ, S, m, s, (PX.bind q).imp fun v H1 ⟨d1, S1, m1, e1, s1, r1, q1⟩ => ⟨f, ρ, S1, m1, s1, (PX.bind q1).imp fun u H2 ⟨d2, S2, m2, e2, s2, r2, q2⟩ => ?_⟩⟩
  cases eo : op2 o d1 d2 with
  | none => rw [eo] at q2; exact q2.elim
  | some d3 =>
    rw [eo] at q2
    simp only [lift_some, R.bind_ok] at q2
    cases d3 with
    | bl t =>
      simp only [asB_bl, R.bind_ok] at q2
      rw [hK]
      refine ⟨m2, _, d1, d2, .bl t, s2.held, r1.ext e2, r2, eo, fun z H3 n r3 => ⟨t, r3.inv_bl, ?_⟩⟩
      have s3 : St G f σ H3 ρ S2 m2 := by
        rcases n with rfl | ⟨p, o, hp, rfl⟩
        · exact s2
        · exact s2.new hp
      have q3 := q2.move (n.ext (m := m2))
      cases t with
      | true =>
        rw [if_pos rfl] at q3 ⊢
        refine ⟨f, ρ, S2, m2, s3, (PX.bind q3).imp fun w H4 ⟨d4, S4, m4, e4, s4, r4, q4⟩ => ?_⟩
        obtain ⟨d5, e5, k5⟩ := PX.lifted q4 s4
        exact ⟨m4, _, d2, d4, d5, s4.held, (r2.ext n.ext).ext e4, r4, e5, k5⟩
      | false =>
        rw [if_neg Bool.false_ne_true] at q3 ⊢
        exact q3.now s3 (.bl false)
    | _ => exact q2.elim
theorem marks2 {p p' : CmpOp} (h : noSet y = true) (h' : noSet z = true) : PySem.lastMarks [p, p'] [y, z] = false := noSet_marks h'
theorem s_chain {o o' : O2} {p p' : CmpOp} (X' : XC G F k c X W) (hb : cmpB o p = true) (hb' : cmpB o' p' = true) (h1 : SE G F X W lo a x) (h2 : SE G F X W lo b y) (h3 : SE G F X W lo d z) (hm : noSet y = true) (hm' : noSet z = true) :
    SE G F X W lo (.chain o o' a b d) (.Compare x [p, p'] [y, z] pos) :=
  ⟨imp_pe (L2.pe_chain (og_cmp X'.units hb) (og_cmp X'.units hb') h1.v h2.v h3.v (marks2 hm hm')) fun _ _ _ q => i_chain X'.K q,
    imp_pt (L2.pt_chain (og_cmp X'.units hb) (og_cmp X'.units hb') h1.v h2.v h3.v (marks2 hm hm')) fun _ _ _ q => i_test (fun _ z => i_chain X'.K z) q, fun _ _ _ z => nomatch z⟩
theorem s_neg (h1 : SE G F X W lo a x) : SE G F X W lo (.neg a) (.UnaryOp .USub x pos) := by
  refine .plain (imp_pe (L2.pe_un L2.un_neg h1.v) fun σ H Q ⟨f, ρ, S, m, s, q⟩ => ?_) (fun _ => rfl) (fun _ _ _ z => nomatch z)
  simp only [ev] at q
  refine ⟨f, ρ, S, m, s, (PX.bind q).imp fun v H1 ⟨d1, S1, m1, e1, s1, r1, q1⟩ => ?_⟩
  cases d1 with
  | int i => exact ⟨i, r1.inv_int, PX.now q1 s1 (.int (-i))⟩
  | _ => exact q1.elim
theorem i_gt_not {σ : L2.St} {H : Hp} {Q : Bool → Hp → Prop} (h : GT G F W lo (.nt a) σ H Q) : L2.tNot (GT G F W lo a) σ H Q := by
  obtain ⟨f, ρ, S, m, s, q⟩ := h
  simp only [ev, R.bind_assoc] at q
  rw [← R.bind_assoc] at q
  refine ⟨f, ρ, S, m, s, (PX.bind (rel := rb) q).imp fun v H1 ⟨d1, S1, m1, e1, s1, r1, q1⟩ => ?_⟩
  cases r1
  exact PX.now q1 s1 rfl
theorem s_not (h1 : SE G F X W lo a x) : SE G F X W lo (.nt a) (.UnaryOp .Not x pos) := by
  refine ⟨imp_pe (L2.pe_not h1.v) fun σ H Q ⟨f, ρ, S, m, s, q⟩ => ?_, imp_pt (L2.pt_not h1.t) fun _ _ _ q => i_gt_not q, fun _ _ _ z => nomatch z⟩
  simp only [ev] at q
  refine ⟨f, ρ, S, m, s, (PX.bind q).imp fun v H1 ⟨d1, S1, m1, e1, s1, r1, q1⟩ => ?_⟩
  cases d1 with
  | bl i => exact ⟨i, r1.inv_bl, PX.now q1 s1 (.bl (!i))⟩
  | _ => exact q1.elim
theorem i_and {σ : L2.St} {H : Hp} {Q : VK} (h : GE G F W lo (.and a b) σ H Q) : L2.tAndV (GE G F W lo a) (GE G F W lo b) σ H Q := by
  obtain ⟨f, ρ, S, m, s, q⟩ := h
  simp only [ev] at q
  refine ⟨f, ρ, S, m, s, (PX.bind q).imp fun v H1 ⟨d1, S1, m1, e1, s1, r1, q1⟩ => ?_⟩
  cases d1 with
  | bl t =>
    refine ⟨t, r1.inv_bl, ?_⟩
    simp only [asB_bl, R.bind_ok] at q1
    cases t with
    | true => rw [if_pos rfl] at q1 ⊢; exact ⟨f, ρ, S1, m1, s1, q1⟩
    | false => rw [if_neg Bool.false_ne_true] at q1 ⊢; exact PX.now q1 s1 (.bl false)
  | _ => exact q1.elim
theorem i_or {σ : L2.St} {H : Hp} {Q : VK} (h : GE G F W lo (.or a b) σ H Q) : L2.tOrV (GE G F W lo a) (GE G F W lo b) σ H Q := by
  obtain ⟨f, ρ, S, m, s, q⟩ := h
  simp only [ev] at q
  refine ⟨f, ρ, S, m, s, (PX.bind q).imp fun v H1 ⟨d1, S1, m1, e1, s1, r1, q1⟩ => ?_⟩
  cases d1 with
  | bl t =>
    refine ⟨t, r1.inv_bl, ?_⟩
    simp only [asB_bl, R.bind_ok] at q1
    cases t with
    | true => rw [if_pos rfl] at q1 ⊢; exact PX.now q1 s1 (.bl true)
    | false => rw [if_neg Bool.false_ne_true] at q1 ⊢; exact ⟨f, ρ, S1, m1, s1, q1⟩
  | _ => exact q1.elim
theorem it_and {σ : L2.St} {H : Hp} {Q : Bool → Hp → Prop} (h : GT G F W lo (.and a b) σ H Q) : L2.tAnd (GT G F W lo a) (GT G F W lo b) σ H Q := by
  obtain ⟨f, ρ, S, m, s, q⟩ := h
  simp only [ev, R.bind_assoc] at q
  rw [← R.bind_assoc] at q
  refine ⟨f, ρ, S, m, s, (PX.bind (rel := rb) q).imp fun v H1 ⟨d1, S1, m1, e1, s1, r1, q1⟩ => ?_⟩
  cases r1
  cases v with
  | true => rw [if_pos rfl] at q1 ⊢; exact ⟨f, ρ, S1, m1, s1, q1⟩
  | false => rw [if_neg Bool.false_ne_true] at q1 ⊢; exact PX.now q1 s1 rfl
theorem it_or {σ : L2.St} {H : Hp} {Q : Bool → Hp → Prop} (h : GT G F W lo (.or a b) σ H Q) : L2.tOr (GT G F W lo a) (GT G F W lo b) σ H Q := by
  obtain ⟨f, ρ, S, m, s, q⟩ := h
  simp only [ev, R.bind_assoc] at q
  rw [← R.bind_assoc] at q
  refine ⟨f, ρ, S, m, s, (PX.bind (rel := rb) q).imp fun v H1 ⟨d1, S1, m1, e1, s1, r1, q1⟩ => ?_⟩
  cases r1
  cases v with
  | true => rw [if_pos rfl] at q1 ⊢; exact PX.now q1 s1 rfl
  | false => rw [if_neg Bool.false_ne_true] at q1 ⊢; exact ⟨f, ρ, S1, m1, s1, q1⟩
theorem s_and2 (h1 : SE G F X W lo a x) (h2 : SE G F X W lo b y) : SE G F X W lo (.and a b) (.BoolOp .And [x, y] pos) := by
  have w : PW X (.BoolOp .And [x, y] pos) (GT G F W lo (.and a b)) := imp_pw (L2.pw_and h1.t (L2.pw_and1 h2.t)) fun _ _ _ q => it_and q
  exact ⟨imp_pe (L2.pe_and h1.v (L2.pe_one h2.v)) fun _ _ _ q => i_and q, w.pt, fun op l p z => by cases z; exact w⟩
theorem s_or2 (h1 : SE G F X W lo a x) (h2 : SE G F X W lo b y) : SE G F X W lo (.or a b) (.BoolOp .Or [x, y] pos) := by
  have w : PW X (.BoolOp .Or [x, y] pos) (GT G F W lo (.or a b)) := imp_pw (L2.pw_or h1.t (L2.pw_or1 h2.t)) fun _ _ _ q => it_or q
  exact ⟨imp_pe (L2.pe_or h1.v (L2.pe_one h2.v)) fun _ _ _ q => i_or q, w.pt, fun op l p z => by cases z; exact w⟩
theorem s_and3 {r : List Expr} (h1 : SE G F X W lo a x) (h2 : SE G F X W lo b (.BoolOp .And (y :: r) pos)) : SE G F X W lo (.and a b) (.BoolOp .And (x :: y :: r) pos) := by
  have w : PW X (.BoolOp .And (x :: y :: r) pos) (GT G F W lo (.and a b)) := imp_pw (L2.pw_and h1.t (h2.w _ _ _ rfl)) fun _ _ _ q => it_and q
  exact ⟨imp_pe (L2.pe_and h1.v h2.v) fun _ _ _ q => i_and q, w.pt, fun op l p z => by cases z; exact w⟩
theorem s_or3 {r : List Expr} (h1 : SE G F X W lo a x) (h2 : SE G F X W lo b (.BoolOp .Or (y :: r) pos)) : SE G F X W lo (.or a b) (.BoolOp .Or (x :: y :: r) pos) := by
  have w : PW X (.BoolOp .Or (x :: y :: r) pos) (GT G F W lo (.or a b)) := imp_pw (L2.pw_or h1.t (h2.w _ _ _ rfl)) fun _ _ _ q => it_or q
  exact ⟨imp_pe (L2.pe_or h1.v h2.v) fun _ _ _ q => i_or q, w.pt, fun op l p z => by cases z; exact w⟩
def tIfT (t u v : TT) : TT := fun σ H Q => t σ H fun c H1 => if c = true then u σ H1 Q else v σ H1 Q
theorem pt_ite {t u v : TT} (h : PT X z t) (h1 : PT X x u) (h2 : PT X y v) : PT X (.IfExp z x y pos) (tIfT t u v) := by
  refine ⟨fun pins s σ H Q I q => ?_⟩
  refine PyProof.Rows.isTrue_IfExp (L2.thn (h.run pins s σ H _ I q) fun b s1 ⟨H1, I1, q1⟩ => ?_)
  cases b with
  | true => exact h1.run pins s1 σ H1 Q I1 q1
  | false => exact h2.run pins s1 σ H1 Q I1 q1
theorem s_ite (h : SE G F X W lo d z) (h1 : SE G F X W lo a x) (h2 : SE G F X W lo b y) : SE G F X W lo (.ite d a b) (.IfExp z x y pos) := by
  refine ⟨imp_pe (L2.pe_ifExp h.t h1.v h2.v) fun σ H Q ⟨f, ρ, S, m, s, q⟩ => ?_, imp_pt (pt_ite h.t h1.t h2.t) fun σ H Q ⟨f, ρ, S, m, s, q⟩ => ?_, fun _ _ _ z => nomatch z⟩
  · simp only [ev] at q
    rw [← R.bind_assoc] at q
    refine ⟨f, ρ, S, m, s, (PX.bind (rel := rb) q).imp fun v H1 ⟨d1, S1, m1, e1, s1, r1, q1⟩ => ?_⟩
    cases r1
    cases v with
    | true => rw [if_pos rfl] at q1 ⊢; exact ⟨f, ρ, S1, m1, s1, q1⟩
    | false => rw [if_neg Bool.false_ne_true] at q1 ⊢; exact ⟨f, ρ, S1, m1, s1, q1⟩
  · simp only [ev, R.bind_assoc] at q
    rw [← R.bind_assoc] at q
    refine ⟨f, ρ, S, m, s, (PX.bind (rel := rb) q).imp fun v H1 ⟨d1, S1, m1, e1, s1, r1, q1⟩ => ?_⟩
    cases r1
    cases v with
    | true => rw [if_pos rfl] at q1 ⊢; exact ⟨f, ρ, S1, m1, s1, q1⟩
    | false => rw [if_neg Bool.false_ne_true] at q1 ⊢; exact ⟨f, ρ, S1, m1, s1, q1⟩
/-! ### arguments, displays -/
theorem s_nil : PA X [] (GA G F W lo .nil) := imp_pa L2.pa_nil fun σ H Q ⟨f, ρ, S, m, s, q⟩ => PX.now q s .nil
theorem s_cons {es : Exs} {xs : List Expr} (hc : chkE c lo e x = true) (h1 : SE G F X W lo e x) (h2 : PA X xs (GA G F W lo es)) : PA X (x :: xs) (GA G F W lo (.cons e es)) := by
  refine imp_pa (L2.pa_cons h1.v h2 (star_cons (chk_ns hc))) fun σ H Q ⟨f, ρ, S, m, s, q⟩ => ?_
  simp only [evs] at q
  refine ⟨f, ρ, S, m, s, (PX.bind q).imp fun v H1 ⟨d1, S1, m1, e1, s1, r1, q1⟩ => ⟨f, ρ, S1, m1, s1, (PX.bind q1).imp fun u H2 ⟨d2, S2, m2, e2, s2, r2, q2⟩ => ?_⟩⟩
  exact PX.now q2 s2 (.cons (r1.ext e2) r2)
theorem s_lst {es : Exs} {xs : List Expr} (h : PA X xs (GA G F W lo es)) : SE G F X W lo (.lst es) (.List xs pos) := by
  refine .plain (imp_pe (L2.pe_lst h) fun σ H Q ⟨f, ρ, S, m, s, q⟩ => ?_) (fun _ => rfl) (fun _ _ _ z => nomatch z)
  simp only [ev] at q
  refine ⟨f, ρ, S, m, s, (PX.bind q).imp fun v H1 ⟨d1, S1, m1, e1, s1, r1, q1⟩ => ?_⟩
  unfold small at q1
  split at q1
  · rename_i hl
    exact ⟨by rw [r1.length]; exact lim_size hl, (PX.ret q1 s1).l s1.held r1⟩
  · exact q1.elim
theorem s_tup {es : Exs} {xs : List Expr} {j : Nat} (h : PA X xs (GA G F W lo es)) : SE G F X W lo (.tup es) (.Tuple xs j pos) := by
  refine .plain (imp_pe (L2.pe_tup h) fun σ H Q ⟨f, ρ, S, m, s, q⟩ => ?_) (fun _ => rfl) (fun _ _ _ z => nomatch z)
  simp only [ev] at q
  refine ⟨f, ρ, S, m, s, (PX.bind q).imp fun v H1 ⟨d1, S1, m1, e1, s1, r1, q1⟩ => ?_⟩
  unfold small at q1
  split at q1
  · rename_i hl
    exact ⟨by rw [r1.length]; exact lim_size hl, (PX.ret q1 s1).t s1.held r1⟩
  · exact q1.elim
/-! ### items, slices -/
theorem plainIx (h : chkE c lo b y = true) : L2.PlainIx y := by
  intro o i
  cases y <;> first | rfl | skip
  rename_i l u st p
  cases st with
  | some _ => rfl
  | none =>
    exfalso
    cases b <;> first | (cases h; done) | (simp [chkE] at h; done) | skip
    all_goals (rename_i a1 a2 a3; cases a2 <;> cases a3 <;> simp [chkE] at h)
theorem s_idx (X' : XC G F k c X W) (hb : chkE c lo b y = true) (h1 : SE G F X W lo a x) (h2 : SE G F X W lo b y) : SE G F X W lo (.idx a b) (.Subscript x y pos) := by
  refine .plain (imp_pe (L2.pe_ix ig_ix h1.v h2.v (plainIx hb)) fun σ H Q ⟨f, ρ, S, m, s, q⟩ => ?_) (fun _ => rfl) (fun _ _ _ z => nomatch z)
  simp only [ev] at q
  refine ⟨f, ρ, S, m, s, (PX.bind q).imp fun v H1 ⟨d1, S1, m1, e1, s1, r1, q1⟩ => ⟨f, ρ, S1, m1, s1, (PX.bind q1).imp fun u H2 ⟨d2, S2, m2, e2, s2, r2, q2⟩ => ?_⟩⟩
  obtain ⟨d3, e3, k3⟩ := PX.lifted q2 s2
  rw [X'.K]
  exact ⟨m2, _, d1, d2, d3, s2.held, r1.ext e2, r2, e3, k3⟩
theorem s_slc0 {p2 : PySem.Pos} (X' : XC G F k c X W) (h1 : SE G F X W lo a x) : SE G F X W lo (.slc a none none) (.Subscript x (.Slice none none none p2) pos) := by
  refine .plain (imp_pe (L2.pe_slice sg_sl h1.v L2.po_none L2.po_none) fun σ H Q ⟨f, ρ, S, m, s, q⟩ => ?_) (fun _ => rfl) (fun _ _ _ z => nomatch z)
  simp only [ev] at q
  refine ⟨f, ρ, S, m, s, (PX.bind q).imp fun v H1 ⟨d1, S1, m1, e1, s1, r1, q1⟩ => ?_⟩
  obtain ⟨d3, e3, k3⟩ := PX.lifted q1 s1
  show rSG X.K _ _ _ _ _
  rw [X'.K]
  exact ⟨m1, _, d1, d3, s1.held, r1, e3, k3⟩
theorem s_slcL {p2 : PySem.Pos} (X' : XC G F k c X W) (h1 : SE G F X W lo a x) (h2 : SE G F X W lo b y) : SE G F X W lo (.slc a (some b) none) (.Subscript x (.Slice (some y) none none p2) pos) := by
  refine .plain (imp_pe (L2.pe_slice sg_sl h1.v (L2.po_some h2.v) L2.po_none) fun σ H Q ⟨f, ρ, S, m, s, q⟩ => ?_) (fun _ => rfl) (fun _ _ _ z => nomatch z)
  simp only [ev] at q
  refine ⟨f, ρ, S, m, s, (PX.bind q).imp fun v H1 ⟨d1, S1, m1, e1, s1, r1, q1⟩ => ⟨f, ρ, S1, m1, s1, (PX.bind q1).imp fun u H2 ⟨d2, S2, m2, e2, s2, r2, q2⟩ => ?_⟩⟩
  cases d2 with
  | int i =>
    simp only [asI_int, R.bind_ok] at q2
    obtain ⟨d3, e3, k3⟩ := PX.lifted q2 s2
    refine ⟨i, r2.inv_int, ?_⟩
    show rSG X.K _ _ _ _ _
    rw [X'.K]
    exact ⟨m2, _, d1, d3, s2.held, r1.ext e2, e3, k3⟩
  | _ => exact q2.elim
theorem s_slcH {p2 : PySem.Pos} (X' : XC G F k c X W) (h1 : SE G F X W lo a x) (h2 : SE G F X W lo b y) : SE G F X W lo (.slc a none (some b)) (.Subscript x (.Slice none (some y) none p2) pos) := by
  refine .plain (imp_pe (L2.pe_slice sg_sl h1.v L2.po_none (L2.po_some h2.v)) fun σ H Q ⟨f, ρ, S, m, s, q⟩ => ?_) (fun _ => rfl) (fun _ _ _ z => nomatch z)
  simp only [ev] at q
  refine ⟨f, ρ, S, m, s, (PX.bind q).imp fun v H1 ⟨d1, S1, m1, e1, s1, r1, q1⟩ => ⟨f, ρ, S1, m1, s1, (PX.bind q1).imp fun u H2 ⟨d2, S2, m2, e2, s2, r2, q2⟩ => ?_⟩⟩
  cases d2 with
  | int i =>
    simp only [asI_int, R.bind_ok] at q2
    obtain ⟨d3, e3, k3⟩ := PX.lifted q2 s2
    refine ⟨i, r2.inv_int, ?_⟩
    show rSG X.K _ _ _ _ _
    rw [X'.K]
    exact ⟨m2, _, d1, d3, s2.held, r1.ext e2, e3, k3⟩
  | _ => exact q2.elim
theorem s_slcLH {p2 : PySem.Pos} (X' : XC G F k c X W) (h1 : SE G F X W lo a x) (h2 : SE G F X W lo b y) (h3 : SE G F X W lo d z) : SE G F X W lo (.slc a (some b) (some d)) (.Subscript x (.Slice (some y) (some z) none p2) pos) := by
  refine .plain (imp_pe (L2.pe_slice sg_sl h1.v (L2.po_some h2.v) (L2.po_some h3.v)) fun σ H Q ⟨f, ρ, S, m, s, q⟩ => ?_) (fun _ => rfl) (fun _ _ _ z => nomatch z)
  simp only [ev] at q
  refine ⟨f, ρ, S, m, s, (PX.bind q).imp fun v H1 ⟨d1, S1, m1, e1, s1, r1, q1⟩ => ⟨f, ρ, S1, m1, s1, (PX.bind q1).imp fun u H2 ⟨d2, S2, m2, e2, s2, r2, q2⟩ => ?_⟩⟩
  cases d2 with
  | int i =>
    simp only [asI_int, R.bind_ok] at q2
    refine ⟨i, r2.inv_int, f, ρ, S2, m2, s2, (PX.bind q2).imp fun u3 H3 ⟨d3, S3, m3, e3, s3, r3, q3⟩ => ?_⟩
    cases d3 with
    | int j =>
      simp only [asI_int, R.bind_ok] at q3
      obtain ⟨d4, e4, k4⟩ := PX.lifted q3 s3
      refine ⟨j, r3.inv_int, ?_⟩
      show rSG X.K _ _ _ _ _
      rw [X'.K]
      exact ⟨m3, _, d1, d4, s3.held, (r1.ext e2).ext e3, e4, k4⟩
    | _ => exact q3.elim
  | _ => exact q2.elim
theorem s_rev {p1 p2 p3 : PySem.Pos} {j : Nat} (X' : XC G F k c X W) (h1 : SE G F X W lo a x) : SE G F X W lo (.rev a) (.Subscript x (.Slice none none (some (.UnaryOp .USub (.Constant (.int 1) j p1) p2)) p3) pos) := by
  refine .plain (imp_pe (L2.pe_revL h1.v) fun σ H Q ⟨f, ρ, S, m, s, q⟩ => ?_) (fun _ => rfl) (fun _ _ _ z => nomatch z)
  simp only [ev] at q
  refine ⟨f, ρ, S, m, s, (PX.bind q).imp fun v H1 ⟨d1, S1, m1, e1, s1, r1, q1⟩ => ?_⟩
  cases d1 with
  | lst ds =>
    obtain ⟨p, vs, ev, h1, _, _, rl⟩ := r1.inv_lst
    rw [X'.K]
    exact ⟨p, vs, ev, sqL_of h1, (PX.ret q1 s1).l s1.held rl.reverse⟩
  | _ => exact q1.elim
end
end Mi
/-! list(zip(..)): a zip whose last tuple is still held. -/
namespace Zl
open PySem PySem.Calls PyProof.Rows PyProof.V PySem.Spec PySem.W
abbrev IsZipO (h : Heap) (z TI TO : Addr) (a : Nat) (f : Bool) : Prop :=
  h.get? z = some { cls := .type "zip", dict := none, data := .fields #[rawInt a, .bool f, .bool false, .ref TI, .ref TO], slots := #[] }
section
variable {prog : Program} {w : World} {A : Around} {E : Value → Shared → Prop} {s : Shared} {z TI TO i1 i2 a : Addr} {fp1 fp2 : List Addr} {n1 n2 i : Nat} {P1 P2 : Nat → Value → Prop} {St1 St2 : Nat → Heap → Prop} {f : Bool} {oa : Obj}
theorem alive {b : Addr} {Q : Option Obj → Shared → Prop} (h : Q (s.heap.get? b) s) : wpAny (model prog w) A (loadIfAlive b) Q E s := by
  intro Γ p hΓ
  exact h
theorem free_out {Q : Bool → Shared → Prop} (hz : IsZipO s.heap z TI TO a f) (ha : s.heap.get? a = some oa)
    (hQ : ∀ h', IsZipO h' z TI TO a true → Heap.SameBut z s.heap h' → Q false { s with heap := h' }) : wpAny (model prog w) A (Builtin.SmallTypes.ownedTupleIsFree (.ref z)) Q E s := by
  unfold Builtin.SmallTypes.ownedTupleIsFree
  refine wpAny_bind (wpAny_field hz rfl (x := rawInt a) rfl ?_)
  show wpAny _ _ (loadIfAlive (a : Int).toNat >>= _) _ _ _
  rw [Int.toNat_natCast]
  refine wpAny_bind (alive ?_)
  rw [ha]
  show wpAny _ _ (field (.ref z) 1 >>= _) _ _ _
  refine wpAny_bind (wpAny_field hz rfl (x := .bool f) rfl ?_)
  cases f with
  | true => exact wpAny_pure (hQ _ hz (Heap.SameBut.refl _ _))
  | false =>
    show wpAny _ _ (setField (.ref z) 1 (.bool true) >>= _) _ _ _
    refine wpAny_bind (wpAny_setField_rec hz (by simp) fun h' hz' hs' => wpAny_pure (hQ h' hz' hs'))
theorem next_out {Q : Value → Shared → Prop} (S : ZipSep2 z TI TO i1 i2 fp1 fp2) (D1 : Draws prog w A i1 fp1 n1 P1 St1) (D2 : Draws prog w A i2 fp2 n2 P2 St2)
    (hz : IsZipO s.heap z TI TO a f) (ha : s.heap.get? a = some oa) (hTI : IsTupOf2 s.heap TI (.ref i1) (.ref i2)) (st1 : St1 i s.heap) (st2 : St2 i s.heap) (hlt1 : i < n1) (hlt2 : i < n2)
    (hQ : ∀ x1 x2 h' tk, P1 i x1 → P2 i x2 → IsZipO h' z TI TO a true → St1 (i + 1) h' → St2 (i + 1) h' → IsTupOf2 h' s.heap.objs.size x1 x2 → h'.objs.size = s.heap.objs.size + 1 →
      (∀ c o, c ≠ z → c ≠ i1 → c ≠ i2 → s.heap.get? c = some o → h'.get? c = some o) → Q (.ref s.heap.objs.size) { s with heap := h', toks := tk }) :
    wpAny (model prog w) A (Builtin.«zip.__next__» ⟨[.ref z], []⟩) (fun fin s' => ∃ v, fin = .done (.ret v) ∧ Q v s') E s := by
  obtain ⟨hp, g, d, tk0, os⟩ := s
  show wpAny _ _ (field (.ref z) 2 >>= _) _ _ _
  refine wpAny_bind (wpAny_field hz rfl (x := .bool false) rfl ?_)
  show wpAny _ _ (field (.ref z) 3 >>= _) _ _ _
  refine wpAny_bind (wpAny_field hz rfl (x := .ref TI) rfl ?_)
  refine wpAny_bind (wpAny_seqItems hTI rfl ?_)
  show wpAny _ _ (Builtin.SmallTypes.ownedTupleIsFree (.ref z) >>= _) _ _ _
  refine wpAny_bind (free_out hz ha fun g0 hz0 hs0 => ?_)
  replace hs0 : Heap.SameBut z hp g0 := hs0
  simp only [Bool.false_eq_true, if_false]
  rw [List.forIn_toArray]
  simp only [List.forIn_cons, List.forIn_nil]
  refine wpAny_bind (wpAny_bind (wpAny_bind (wpAny_holding ?_)))
  show wpAny _ _ (Builtin.SmallTypes.nextOf (.ref i1) >>= _) _ _ ⟨g0, g, d, tk0, os⟩
  refine wpAny_bind (D1.item i _ _ _ hlt1 (D1.over st1 hs0 S.zf1) fun x1 p1 tk1 hx1 sn1 hp1 => wpAny_pure ?_)
  replace hp1 : Heap.SameBut i1 g0 p1 := hp1
  refine wpAny_pure ?_
  refine wpAny_bind (wpAny_bind (wpAny_holding ?_))
  show wpAny _ _ (Builtin.SmallTypes.nextOf (.ref i2) >>= _) _ _ ⟨p1, g, d, tk1, os⟩
  refine wpAny_bind (D2.item i _ _ _ hlt2 (D2.over (D2.over st2 hs0 S.zf2) hp1 S.sep1_2) fun x2 p2 tk2 hx2 sn2 hp2 => wpAny_pure ?_)
  replace hp2 : Heap.SameBut i2 p1 p2 := hp2
  refine wpAny_pure ?_
  refine wpAny_pure ?_
  show wpAny _ _ (newTuple [x1, x2] >>= _) _ _ ⟨p2, g, d, tk2, os⟩
  refine wpAny_bind (wpAny_newTuple ?_)
  have hsz : p2.objs.size = hp.objs.size := by rw [hp2.1, hp1.1, hs0.1]
  have up : ∀ c o, c ≠ z → c ≠ i1 → c ≠ i2 → hp.get? c = some o → (p2.push { cls := .type "tuple", data := .seq #[x1, x2] }).get? c = some o := fun c o cz c1 c2 e =>
    Heap.get?_push_of_some _ (hp2.extBut _ _ c2 (hp1.extBut _ _ c1 (hs0.extBut _ _ cz e)))
  have hzz : IsZipO (p2.push { cls := .type "tuple", data := .seq #[x1, x2] }) z TI TO a true := Heap.get?_push_of_some _ (hp2.extBut _ _ S.zi2 (hp1.extBut _ _ S.zi1 hz0))
  have hj1 : St1 (i + 1) (p2.push { cls := .type "tuple", data := .seq #[x1, x2] }) := D1.frame _ _ _ (D1.over sn1 hp2 S.sep2_1) fun b _ o e => Heap.get?_push_of_some _ e
  have hj2 : St2 (i + 1) (p2.push { cls := .type "tuple", data := .seq #[x1, x2] }) := D2.frame _ _ _ sn2 fun b _ o e => Heap.get?_push_of_some _ e
  refine wpAny_pure ⟨_, rfl, ?_⟩
  show Q (.ref p2.objs.size) ⟨p2.push { cls := .type "tuple", data := .seq #[x1, x2] }, g, d, tk2, os⟩
  have ht : IsTupOf2 (p2.push { cls := .type "tuple", data := .seq #[x1, x2] }) p2.objs.size x1 x2 := Heap.get?_push_size _ rfl
  have hs : (p2.push { cls := .type "tuple", data := .seq #[x1, x2] }).objs.size = hp.objs.size + 1 := by rw [Heap.size_push, hsz]
  rw [hsz] at ht ⊢
  exact hQ x1 x2 _ tk2 hx1 hx2 hzz hj1 hj2 ht hs up
theorem end_out {Q : Fin → Shared → Prop} (S : ZipSep2 z TI TO i1 i2 fp1 fp2) (D1 : Draws prog w A i1 fp1 n1 P1 St1) (D2 : Draws prog w A i2 fp2 n2 P2 St2)
    (hz : IsZipO s.heap z TI TO a f) (ha : s.heap.get? a = some oa) (hTI : IsTupOf2 s.heap TI (.ref i1) (.ref i2)) (st1 : St1 i s.heap) (st2 : St2 i s.heap) (hle1 : i ≤ n1) (hle2 : i ≤ n2) (hend : i = n1 ∨ i = n2)
    (hE : ∀ h' tk e, (∀ c o, c ≠ z → c ≠ i1 → c ≠ i2 → s.heap.get? c = some o → h'.get? c = some o) → (∃ o, h'.get? e = some o ∧ o.cls = .type "StopIteration") → E (.ref e) { s with heap := h', toks := tk }) :
    wpAny (model prog w) A (Builtin.«zip.__next__» ⟨[.ref z], []⟩) Q E s := by
  obtain ⟨hp, g, d, tk0, os⟩ := s
  show wpAny _ _ (field (.ref z) 2 >>= _) _ _ _
  refine wpAny_bind (wpAny_field hz rfl (x := .bool false) rfl ?_)
  show wpAny _ _ (field (.ref z) 3 >>= _) _ _ _
  refine wpAny_bind (wpAny_field hz rfl (x := .ref TI) rfl ?_)
  refine wpAny_bind (wpAny_seqItems hTI rfl ?_)
  show wpAny _ _ (Builtin.SmallTypes.ownedTupleIsFree (.ref z) >>= _) _ _ _
  refine wpAny_bind (free_out hz ha fun g0 hz0 hs0 => ?_)
  replace hs0 : Heap.SameBut z hp g0 := hs0
  simp only [Bool.false_eq_true, if_false]
  rw [List.forIn_toArray]
  simp only [List.forIn_cons, List.forIn_nil]
  refine wpAny_bind (wpAny_bind (wpAny_bind (wpAny_holding ?_)))
  show wpAny _ _ (Builtin.SmallTypes.nextOf (.ref i1) >>= _) _ _ ⟨g0, g, d, tk0, os⟩
  by_cases hlt1 : i < n1
  · refine wpAny_bind (D1.item i _ _ _ hlt1 (D1.over st1 hs0 S.zf1) fun x1 p1 tk1 hx1 sn1 hp1 => wpAny_pure ?_)
    replace hp1 : Heap.SameBut i1 g0 p1 := hp1
    refine wpAny_pure ?_
    refine wpAny_bind (wpAny_bind (wpAny_holding ?_))
    have hi2 : i = n2 := by omega
    show wpAny _ _ (Builtin.SmallTypes.nextOf (.ref i2) >>= _) _ _ ⟨p1, g, d, tk1, os⟩
    refine wpAny_bind (D2.done ⟨p1, g, d, tk1, os⟩ _ _ (by rw [← hi2]; exact D2.over (D2.over st2 hs0 S.zf2) hp1 S.sep1_2) fun q e hq he => ?_)
    replace hq : Heap.ExtBut i2 p1 q := hq
    exact hE q tk1 e (fun c o cz c1 c2 x => hq _ _ c2 (hp1.extBut _ _ c1 (hs0.extBut _ _ cz x))) he
  · have hi1 : i = n1 := by omega
    refine wpAny_bind (D1.done ⟨g0, g, d, tk0, os⟩ _ _ (by rw [← hi1]; exact D1.over st1 hs0 S.zf1) fun q e hq he => ?_)
    replace hq : Heap.ExtBut i1 g0 q := hq
    exact hE q tk0 e (fun c o cz c1 c2 x => hq _ _ c1 (hs0.extBut _ _ cz x)) he
theorem pyNext_out {Q : Option Value → Shared → Prop} (S : ZipSep2 z TI TO i1 i2 fp1 fp2) (D1 : Draws prog w A.in1 i1 fp1 n1 P1 St1) (D2 : Draws prog w A.in1 i2 fp2 n2 P2 St2)
    (hz : IsZipO s.heap z TI TO a f) (ha : s.heap.get? a = some oa) (hTI : IsTupOf2 s.heap TI (.ref i1) (.ref i2)) (st1 : St1 i s.heap) (st2 : St2 i s.heap) (hlt1 : i < n1) (hlt2 : i < n2)
    (hQ : ∀ x1 x2 h' tk, P1 i x1 → P2 i x2 → IsZipO h' z TI TO a true → St1 (i + 1) h' → St2 (i + 1) h' → IsTupOf2 h' s.heap.objs.size x1 x2 → h'.objs.size = s.heap.objs.size + 1 →
      (∀ c o, c ≠ z → c ≠ i1 → c ≠ i2 → s.heap.get? c = some o → h'.get? c = some o) → Q (some (.ref s.heap.objs.size)) { s with heap := h', toks := tk }) :
    wpAny (model prog w) A (pyNext (.ref z)) Q E s := by
  have hT : s.TypeIs (.ref z) "zip" := ⟨_, hz, rfl⟩
  unfold pyNext
  exact wpAny_bind (wpAny_attempt (wpAny_callSpecial?_slot (name := Str.ofString "__next__") hT PySem.F.slot_zip_next
    (wpAny_call_entry PySem.F.slot_zip_next hT PySem.F.entry_zip_next
      (next_out S D1 D2 hz ha hTI st1 st2 hlt1 hlt2 fun x1 x2 h' tk a1 a2 a3 a4 a5 a6 a7 a8 => wpAny_pure (hQ x1 x2 h' tk a1 a2 a3 a4 a5 a6 a7 a8)) (PySem.F.args_zip_next_1 _))))
theorem pyNext_end {Q : Option Value → Shared → Prop} (S : ZipSep2 z TI TO i1 i2 fp1 fp2) (D1 : Draws prog w A.in1 i1 fp1 n1 P1 St1) (D2 : Draws prog w A.in1 i2 fp2 n2 P2 St2)
    (hz : IsZipO s.heap z TI TO a f) (ha : s.heap.get? a = some oa) (hTI : IsTupOf2 s.heap TI (.ref i1) (.ref i2)) (st1 : St1 i s.heap) (st2 : St2 i s.heap) (hle1 : i ≤ n1) (hle2 : i ≤ n2) (hend : i = n1 ∨ i = n2)
    (hQ : ∀ h' tk, (∀ c o, c ≠ z → c ≠ i1 → c ≠ i2 → s.heap.get? c = some o → h'.get? c = some o) → Q none { s with heap := h', toks := tk }) : wpAny (model prog w) A (pyNext (.ref z)) Q E s := by
  have hT : s.TypeIs (.ref z) "zip" := ⟨_, hz, rfl⟩
  unfold pyNext
  refine wpAny_bind (wpAny_attempt (wpAny_callSpecial?_slot (name := Str.ofString "__next__") hT PySem.F.slot_zip_next
    (wpAny_call_entry PySem.F.slot_zip_next hT PySem.F.entry_zip_next (end_out S D1 D2 hz ha hTI st1 st2 hle1 hle2 hend fun h' tk e hk he => ?_) (PySem.F.args_zip_next_1 _))))
  obtain ⟨o, ho, hc⟩ := he
  refine wpAny_bind (wpAny_isInstance (T := "StopIteration") (b := true) ⟨o, ho, hc⟩ isSubtype_stop ?_)
  exact wpAny_pure (hQ _ _ hk)
end
/-- how the zip stands -/
def ZSt (h : Heap) (z TI TO i1 i2 L : Addr) (i : Nat) : Prop :=
  (i = 0 ∧ IsZip h z TI TO .none ∧ ∃ a1 a2, IsTupOf2 h TO a1 a2) ∨ ∃ a f oa, IsZipO h z TI TO a f ∧ h.get? a = some oa ∧ a ≠ z ∧ a ≠ i1 ∧ a ≠ i2 ∧ a ≠ L
section
variable {prog : Program} {w : World} {A : Around} {E : Value → Shared → Prop} {s : Shared} {z TI TO i1 i2 L : Addr} {fp1 fp2 : List Addr} {n1 n2 i : Nat} {P1 P2 : Nat → Value → Prop} {St1 St2 : Nat → Heap → Prop}
theorem z_item {Q : Option Value → Shared → Prop} (S : ZipSep2 z TI TO i1 i2 fp1 fp2) (D1 : Draws prog w A.in1 i1 fp1 n1 P1 St1) (D2 : Draws prog w A.in1 i2 fp2 n2 P2 St2)
    (hz : ZSt s.heap z TI TO i1 i2 L i) (hL : L < s.heap.objs.size) (hTI : IsTupOf2 s.heap TI (.ref i1) (.ref i2)) (st1 : St1 i s.heap) (st2 : St2 i s.heap) (hlt1 : i < n1) (hlt2 : i < n2)
    (hQ : ∀ x1 x2 h' tk, P1 i x1 → P2 i x2 → ZSt h' z TI TO i1 i2 L (i + 1) → St1 (i + 1) h' → St2 (i + 1) h' → IsTupOf2 h' s.heap.objs.size x1 x2 → h'.objs.size = s.heap.objs.size + 1 →
      (∀ c o, c ≠ z → c ≠ TO → c ≠ i1 → c ≠ i2 → s.heap.get? c = some o → h'.get? c = some o) → Q (some (.ref s.heap.objs.size)) { s with heap := h', toks := tk }) :
    wpAny (model prog w) A (pyNext (.ref z)) Q E s := by
  have l1 : i1 < s.heap.objs.size := let ⟨_, e⟩ := D1.live _ _ st1; Heap.lt_size e
  have l2 : i2 < s.heap.objs.size := let ⟨_, e⟩ := D2.live _ _ st2; Heap.lt_size e
  rcases hz with ⟨rfl, hz, a1, a2, hTO⟩ | ⟨a, f, oa, hz, ha, h1, h2, h3, h4⟩
  · have lz : z < s.heap.objs.size := Heap.lt_size hz
    refine wpAny_pyNext_zipD2_item S D1 D2 hz hTI hTO st1 st2 hlt1 hlt2 fun x1 x2 h' tk k1 k2 k3 k4 k5 k6 k7 k8 k9 => ?_
    exact hQ x1 x2 h' tk k1 k2 (.inr ⟨_, false, _, k3, k7, Nat.ne_of_gt lz, Nat.ne_of_gt l1, Nat.ne_of_gt l2, Nat.ne_of_gt hL⟩) k5 k6 k7 k8 k9
  · refine pyNext_out S D1 D2 hz ha hTI st1 st2 hlt1 hlt2 fun x1 x2 h' tk k1 k2 k3 k4 k5 k6 k7 k8 => ?_
    exact hQ x1 x2 h' tk k1 k2 (.inr ⟨a, true, oa, k3, k8 a oa h1 h2 h3 ha, h1, h2, h3, h4⟩) k4 k5 k6 k7 fun c o c1 _ c3 c4 e => k8 c o c1 c3 c4 e
theorem z_done {Q : Option Value → Shared → Prop} (S : ZipSep2 z TI TO i1 i2 fp1 fp2) (D1 : Draws prog w A.in1 i1 fp1 n1 P1 St1) (D2 : Draws prog w A.in1 i2 fp2 n2 P2 St2)
    (hz : ZSt s.heap z TI TO i1 i2 L i) (hTI : IsTupOf2 s.heap TI (.ref i1) (.ref i2)) (st1 : St1 i s.heap) (st2 : St2 i s.heap) (hle1 : i ≤ n1) (hle2 : i ≤ n2) (hend : i = n1 ∨ i = n2)
    (hQ : ∀ h' tk, (∀ c o, c ≠ z → c ≠ TO → c ≠ i1 → c ≠ i2 → s.heap.get? c = some o → h'.get? c = some o) → Q none { s with heap := h', toks := tk }) : wpAny (model prog w) A (pyNext (.ref z)) Q E s := by
  rcases hz with ⟨rfl, hz, a1, a2, hTO⟩ | ⟨a, f, oa, hz, ha, h1, h2, h3, h4⟩
  · exact wpAny_pyNext_zipD2_end S D1 D2 hz hTI hTO st1 st2 hle1 hle2 hend hQ
  · exact pyNext_end S D1 D2 hz ha hTI st1 st2 hle1 hle2 hend fun h' tk k => hQ h' tk fun c o c1 _ c3 c4 e => k c o c1 c3 c4 e
end
/-- the pairs -/
structure ZlG (P1 P2 : Nat → Value → Prop) (lo : Addr) (h : Heap) (as : List Addr) : Prop where
  above : ∀ a ∈ as, lo < a
  rise : as.Pairwise (· < ·)
  pairs : ∀ (j : Nat) (a : Addr), as[j]? = some a → ∃ x y, P1 j x ∧ P2 j y ∧ IsTupOf2 h a x y
section
variable {prog : Program} {w : World} {A : Around} {s : Shared} {R : Result → Shared → Prop} {z TI TO i1 i2 : Addr} {fp1 fp2 : List Addr} {n1 n2 : Nat} {P1 P2 : Nat → Value → Prop} {St1 St2 : Nat → Heap → Prop}
theorem zl_loop {L : Addr} (S : ZipSep2 z TI TO i1 i2 fp1 fp2) (D1 : Draws prog w A.in1.in1 i1 fp1 n1 P1 St1) (D2 : Draws prog w A.in1.in1 i2 fp2 n2 P2 St2) (hz : z < L) (hTI : TI < L) (hTO : TO < L) (hi1 : i1 < L) (hi2 : i2 < L) (hf1 : L ∉ fp1) (hf2 : L ∉ fp2) (hn : min n1 n2 ≤ sizeLine) (res : Value) {h₁ : Heap}
    (hR : ∀ h' tk acc c as, (∀ b o, b ≠ L → b ≠ z → b ≠ TO → b ≠ i1 → b ≠ i2 → h₁.get? b = some o → h'.get? b = some o) → h'.get? L = some { cls := .type "list", dict := none, data := .seq acc c, slots := #[] } → as.length = min n1 n2 → ZlG P1 P2 L h' as →
      acc.toList = as.map Value.ref → R (.ok (.ret res)) { s with heap := h', toks := tk }) :
    ∀ (k i : Nat) (h : Heap) (tk c : Nat) (acc : Array Value) (as : List Addr), min n1 n2 - i = k → i ≤ min n1 n2 → ZSt h z TI TO i1 i2 L i → IsTupOf2 h TI (.ref i1) (.ref i2) → St1 i h → St2 i h → (∀ b o, b ≠ L → b ≠ z → b ≠ TO → b ≠ i1 → b ≠ i2 → h₁.get? b = some o → h.get? b = some o) →
      h.get? L = some { cls := .type "list", dict := none, data := .seq acc c, slots := #[] } → acc.toList = as.map Value.ref → as.length = i → ZlG P1 P2 L h as →
      codeAny (model prog w) A (.builtin "list.extend.loop" ⟨[.ref L, .ref z, res], []⟩) R { s with heap := h, toks := tk } := by
  intro k
  induction k with
  | zero =>
    intro i h tk c acc as hk hi hst hti st1 st2 hkeep hL hacc hal hG
    have hin : i = min n1 n2 := by omega
    refine codeAny_builtin PySem.F.entry_extend_loop ?_
    rw [Around.under_plainId PySem.F.plain_extend_loop _]
    show wpAny _ A.in1 (pyNext (.ref z) >>= _) _ _ _
    refine wpAny_bind (z_done (s := { s with heap := h, toks := tk }) (A := A.in1) S D1 D2 hst hti st1 st2 (by omega) (by omega) (by omega) fun h' tk' he => ?_)
    refine wpAny_pure (hR h' tk' acc c as (fun b o h1 h2 h3 h4 h5 e => he b o h2 h3 h4 h5 (hkeep b o h1 h2 h3 h4 h5 e)) (he L _ (Nat.ne_of_gt hz) (Nat.ne_of_gt hTO) (Nat.ne_of_gt hi1) (Nat.ne_of_gt hi2) hL) (by omega) ⟨hG.above, hG.rise, fun j a hj => ?_⟩ hacc)
    obtain ⟨x, y, p1, p2, e3⟩ := hG.pairs j a hj
    have la := hG.above a (List.mem_of_getElem? hj)
    exact ⟨x, y, p1, p2, he a _ (Nat.ne_of_gt (Nat.lt_trans hz la)) (Nat.ne_of_gt (Nat.lt_trans hTO la)) (Nat.ne_of_gt (Nat.lt_trans hi1 la)) (Nat.ne_of_gt (Nat.lt_trans hi2 la)) e3⟩
  | succ k ih =>
    intro i h tk c acc as hk hi hst hti st1 st2 hkeep hL hacc hal hG
    have hlt : i < min n1 n2 := by omega
    have hsz : acc.size = i := by rw [← Array.length_toList, hacc, List.length_map, hal]
    have hLl : L < h.objs.size := Heap.lt_size hL
    refine codeAny_builtin PySem.F.entry_extend_loop ?_
    rw [Around.under_plainId PySem.F.plain_extend_loop _]
    show wpAny _ A.in1 (pyNext (.ref z) >>= _) _ _ _
    refine wpAny_bind (z_item (s := { s with heap := h, toks := tk }) (A := A.in1) (L := L) S D1 D2 hst hLl hti st1 st2 (by omega) (by omega) fun x1 x2 h' tk' k1 k2 hst' sn1 sn2 ht hzz hkp => ?_)
    dsimp only at ht hzz hkp ⊢
    have hL' := hkp L _ (Nat.ne_of_gt hz) (Nat.ne_of_gt hTO) (Nat.ne_of_gt hi1) (Nat.ne_of_gt hi2) hL
    have up : ∀ b o, b ≠ L → h'.get? b = some o → (h'.update L (Obj.mapSeq (·.push (Value.ref h.objs.size)))).get? b = some o := fun b o hb e => (Heap.get?_update_other _ _ (Ne.symm hb)).trans e
    have zst' : ZSt (h'.update L (Obj.mapSeq (·.push (Value.ref h.objs.size)))) z TI TO i1 i2 L (i + 1) := by
      rcases hst' with ⟨z0, _⟩ | ⟨a, f, oa, q1, q2, q3, q4, q5, q6⟩
      · omega
      · exact .inr ⟨a, f, oa, up _ _ (Nat.ne_of_lt hz) q1, up _ _ q6 q2, q3, q4, q5, q6⟩
    show wpAny _ A.in1 (updateSeq L (·.push (Value.ref h.objs.size)) >>= _) _ _ _
    refine wpAny_bind ?_
    refine wpAny_updateSeq hL' rfl (wpAny_pure ⟨plainId_quiet PySem.F.plain_extend_loop _, ih (i + 1) _ tk' _ (acc.push (Value.ref h.objs.size)) (as ++ [h.objs.size]) (by omega) hlt zst' (up _ _ (Nat.ne_of_lt hTI) (hkp TI _ S.TIz S.TITO S.TIi1 S.TIi2 hti))
      (D1.frame _ _ _ sn1 fun b hb o e => up b o (fun q => hf1 (q ▸ hb)) e) (D2.frame _ _ _ sn2 fun b hb o e => up b o (fun q => hf2 (q ▸ hb)) e)
      (fun b o h1 h2 h3 h4 h5 e => up b o h1 (hkp b o h2 h3 h4 h5 (hkeep b o h1 h2 h3 h4 h5 e))) (Heap.get?_update_self _ hL' rfl) (by rw [Array.toList_push, hacc, List.map_append]; rfl) (by rw [List.length_append, hal]; rfl) ⟨?_, ?_, ?_⟩⟩) (by rw [hsz]; omega) (by show (acc.push (Value.ref h.objs.size)).size ≤ sizeLine + 1; rw [Array.size_push, hsz]; omega)
    · intro a ha
      rcases List.mem_append.mp ha with ha | ha
      · exact hG.above a ha
      · rw [List.mem_singleton.mp ha]; exact hLl
    · refine List.pairwise_append.mpr ⟨hG.rise, List.pairwise_singleton _ _, fun a ha b hb => ?_⟩
      rw [List.mem_singleton.mp hb]
      obtain ⟨j, hj⟩ := List.mem_iff_getElem?.mp ha
      obtain ⟨_, _, _, _, e⟩ := hG.pairs j a hj
      exact Heap.lt_size e
    · intro j b hj
      rcases Nat.lt_trichotomy j as.length with h1 | h1 | h1
      · rw [List.getElem?_append_left h1] at hj
        obtain ⟨x, y, p1, p2, e3⟩ := hG.pairs j b hj
        have hb := hG.above b (List.mem_of_getElem? hj)
        exact ⟨x, y, p1, p2, up b _ (Nat.ne_of_gt hb) (hkp b _ (Nat.ne_of_gt (Nat.lt_trans hz hb)) (Nat.ne_of_gt (Nat.lt_trans hTO hb)) (Nat.ne_of_gt (Nat.lt_trans hi1 hb)) (Nat.ne_of_gt (Nat.lt_trans hi2 hb)) e3)⟩
      · subst h1
        have hb : h.objs.size = b := by simpa using hj
        subst hb
        subst hal
        exact ⟨x1, x2, k1, k2, up _ _ (Nat.ne_of_gt hLl) ht⟩
      · have hnone : (as ++ [h.objs.size])[j]? = none := List.getElem?_eq_none (by rw [List.length_append, List.length_singleton]; omega)
        rw [hnone] at hj; cases hj
end
section
variable {prog : Program} {w : World} {A : Around} {E : Value → Shared → Prop} {s : Shared} {z TI TO i1 i2 : Addr} {fp1 fp2 : List Addr} {n1 n2 : Nat} {P1 P2 : Nat → Value → Prop} {St1 St2 : Nat → Heap → Prop}
theorem zip_no_len : typeLookup (.type "zip") "__len__" = pure none := by rw [typeLookup_type, builtinLookup_eq_fast]; kernel_rfl
theorem zip_no_hint : typeLookup (.type "zip") "__length_hint__" = pure none := by rw [typeLookup_type, builtinLookup_eq_fast]; kernel_rfl
theorem zl_extend {R : Result → Shared → Prop} {L : Addr} (S : ZipSep2 z TI TO i1 i2 fp1 fp2) (D1 : Draws prog w A.in1.in1 i1 fp1 n1 P1 St1) (D2 : Draws prog w A.in1.in1 i2 fp2 n2 P2 St2) (hzL : z < L) (hTIL : TI < L) (hTOL : TO < L) (hi1 : i1 < L) (hi2 : i2 < L) (hf1 : L ∉ fp1) (hf2 : L ∉ fp2) (hn : min n1 n2 ≤ sizeLine)
    (hz : IsZip s.heap z TI TO .none) (hTI : IsTupOf2 s.heap TI (.ref i1) (.ref i2)) (hTO : ∃ a b, IsTupOf2 s.heap TO a b) (st1 : St1 0 s.heap) (st2 : St2 0 s.heap) (res : Value) (c₀ : Nat) (hS : s.heap.get? L = some { cls := .type "list", data := .seq #[] c₀ })
    (hR : ∀ h' tk acc c as, (∀ b o, b ≠ L → b ≠ z → b ≠ TO → b ≠ i1 → b ≠ i2 → s.heap.get? b = some o → h'.get? b = some o) → h'.get? L = some { cls := .type "list", dict := none, data := .seq acc c, slots := #[] } → as.length = min n1 n2 → ZlG P1 P2 L h' as →
      acc.toList = as.map Value.ref → R (.ok (.ret res)) { s with heap := h', toks := tk }) :
    wpAny (model prog w) A.in1 (Builtin.List.listExtendWith (.ref L) (.ref z) res)
      (fun fin s' => match fin with | .done f => R (.ok f) s' | .again c' => c'.quiet = true ∧ codeAny (model prog w) A c' R s') (fun e s' => R (.error e) s') s := by
  have hT : s.TypeIs (.ref z) "zip" := ⟨_, hz, rfl⟩
  have hLz : L ≠ z := Nat.ne_of_gt hzL
  unfold Builtin.List.listExtendWith
  refine wpAny_bind (wpAny_typeOf hT ?_)
  have h1 : Builtin.List.listSameRef (.ref L) (.ref z) = false := by simp [Builtin.List.listSameRef, hLz]
  have h2 : (Value.type "zip" == Value.type "list") = false := by decide
  have h3 : (Value.type "zip" == Value.type "tuple") = false := by decide
  simp only [h1, h2, h3, Bool.or_false, Bool.false_eq_true, if_false]
  refine wpAny_bind (wpAny_pyIter_zip hz ?_)
  refine wpAny_bind (wpAny_holding ?_)
  unfold Builtin.List.listLengthHint
  refine wpAny_bind (wpAny_specialOf hT zip_no_len ?_)
  show wpAny _ A.in1 (specialOf (Value.ref z) (Str.ofString "__length_hint__") >>= _) _ _ _
  refine wpAny_bind (wpAny_specialOf hT zip_no_hint ?_)
  refine wpAny_pure ?_
  show wpAny _ A.in1 (rule "list.extend.makes-room" >>= fun _ => Builtin.List.listTouch (.ref L) >>= fun _ =>
    again (.builtin "list.extend.loop" ⟨[.ref L, .ref z, res], []⟩)) _ _ _
  refine wpAny_bind (wpAny_rule ?_)
  refine wpAny_bind ?_
  show wpAny _ A.in1 (updateSeq L (·.push .none) >>= fun _ => updateSeq L (·.pop)) _ _ _
  refine wpAny_bind (wpAny_updateSeq hS rfl ?_)
  have hS₂ := Heap.get?_update_self (Obj.mapSeq (·.push Value.none)) hS rfl
  refine wpAny_updateSeq (hz := by seq_fits) hS₂ rfl ?_
  have hS₃ := Heap.get?_update_self (Obj.mapSeq (·.pop)) hS₂ rfl
  have oth : ∀ b o, b ≠ L → s.heap.get? b = some o → ((s.heap.update L (Obj.mapSeq (·.push Value.none))).update L (Obj.mapSeq (·.pop))).get? b = some o :=
    fun b o hb e => (Heap.get?_update_other _ _ (Ne.symm hb)).trans ((Heap.get?_update_other _ _ (Ne.symm hb)).trans e)
  obtain ⟨a1, a2, hTO⟩ := hTO
  refine wpAny_pure ⟨plainId_quiet PySem.F.plain_extend_loop _, zl_loop (s := s) (h₁ := s.heap) S D1 D2 hzL hTIL hTOL hi1 hi2 hf1 hf2 hn res hR (min n1 n2) 0 _ _ _ #[] [] (by omega) (by omega)
    (.inl ⟨rfl, oth _ _ (Nat.ne_of_lt hzL) hz, a1, a2, oth _ _ (Nat.ne_of_lt hTOL) hTO⟩) (oth _ _ (Nat.ne_of_lt hTIL) hTI) (D1.frame _ _ _ st1 fun b hb o e => oth b o (fun q => hf1 (q ▸ hb)) e) (D2.frame _ _ _ st2 fun b hb o e => oth b o (fun q => hf2 (q ▸ hb)) e)
    (fun b o hb _ _ _ _ e => oth b o hb e) hS₃ rfl rfl ⟨(fun _ ha => nomatch ha), List.Pairwise.nil, (fun j a hj => by simp at hj)⟩⟩
theorem zl_call {Q : Value → Shared → Prop} (S : ZipSep2 z TI TO i1 i2 fp1 fp2) (D1 : Draws prog w A.in1.in1.in1 i1 fp1 n1 P1 St1) (D2 : Draws prog w A.in1.in1.in1 i2 fp2 n2 P2 St2) (hf1 : ∀ b ∈ fp1, b < s.heap.objs.size) (hf2 : ∀ b ∈ fp2, b < s.heap.objs.size) (hn : min n1 n2 ≤ sizeLine)
    (hz : IsZip s.heap z TI TO .none) (hTI : IsTupOf2 s.heap TI (.ref i1) (.ref i2)) (hTO : ∃ a b, IsTupOf2 s.heap TO a b) (st1 : St1 0 s.heap) (st2 : St2 0 s.heap)
    (hQ : ∀ h' tk acc c as, (∀ b o, b ≠ z → b ≠ TO → b ≠ i1 → b ≠ i2 → s.heap.get? b = some o → h'.get? b = some o) → h'.get? s.heap.objs.size = some { cls := .type "list", dict := none, data := .seq acc c, slots := #[] } → as.length = min n1 n2 → ZlG P1 P2 s.heap.objs.size h' as →
      acc.toList = as.map Value.ref → Q (.ref s.heap.objs.size) { s with heap := h', toks := tk }) :
    wpAny (model prog w) A (call (.type "list") [.ref z]) Q E s := by
  refine callType_codes (Q₁ := fun obj s₁ => obj = .ref s.heap.objs.size ∧ s₁ = { s with heap := s.heap.push { cls := .type "list", data := .seq #[] } }) PySem.F.called_list (PySem.F.typeCall_list_1 _) PySem.F.entry_list_init
    (code_list_new _ ⟨rfl, rfl⟩) fun obj s₁ h₁ => ?_
  obtain ⟨rfl, rfl⟩ := h₁
  have hS : (s.heap.push { cls := .type "list", data := .seq #[] }).get? s.heap.objs.size = some { cls := .type "list", data := .seq #[] } := Heap.get?_push_size _ rfl
  have up : ∀ b o, s.heap.get? b = some o → (s.heap.push { cls := .type "list", data := .seq #[] }).get? b = some o := fun b o e => Heap.get?_push_of_some _ e
  refine ⟨⟨_, hS, rfl⟩, PySem.F.args_list_init_2 _ _, ?_⟩
  show wpAny _ _ (do let old ← Builtin.List.listItems (.ref s.heap.objs.size); Builtin.List.listUpdate (.ref s.heap.objs.size) (fun _ => #[]); letGo old.toList.reverse; Builtin.List.listExtendWith (.ref s.heap.objs.size) (.ref z) .none) _ _ _
  refine wpAny_bind ?_
  unfold Builtin.List.listItems
  refine wpAny_bind (wpAny_seqItems hS rfl (wpAny_pure ?_))
  show wpAny _ _ (updateSeq s.heap.objs.size (fun _ => #[]) >>= fun _ => letGo (#[] : Array Value).toList.reverse >>= fun _ => Builtin.List.listExtendWith (.ref s.heap.objs.size) (.ref z) .none) _ _ _
  refine wpAny_bind (wpAny_updateSeq hS rfl ?_)
  have hS₂ := Heap.get?_update_self (Obj.mapSeq (fun _ => (#[] : Array Value))) hS rfl
  have oth : ∀ b o, s.heap.get? b = some o → ((s.heap.push { cls := .type "list", data := .seq #[] }).update s.heap.objs.size (Obj.mapSeq (fun _ => (#[] : Array Value)))).get? b = some o :=
    fun b o e => (Heap.get?_update_other _ _ (Nat.ne_of_gt (Heap.lt_size e))).trans (up b o e)
  refine wpAny_bind (wpAny_letGo ?_)
  obtain ⟨a1, a2, hTO⟩ := hTO
  have l1 : i1 < s.heap.objs.size := let ⟨_, e⟩ := D1.live _ _ st1; Heap.lt_size e
  have l2 : i2 < s.heap.objs.size := let ⟨_, e⟩ := D2.live _ _ st2; Heap.lt_size e
  refine zl_extend (A := A.in1) S D1 D2 (Heap.lt_size hz) (Heap.lt_size hTI) (Heap.lt_size hTO) l1 l2 (fun q => Nat.lt_irrefl _ (hf1 _ q)) (fun q => Nat.lt_irrefl _ (hf2 _ q)) hn (oth _ _ hz) (oth _ _ hTI) ⟨a1, a2, oth _ _ hTO⟩
    (D1.frame _ _ _ st1 fun b _ o e => oth b o e) (D2.frame _ _ _ st2 fun b _ o e => oth b o e) .none _ hS₂ fun h' tk acc c as hk hS' hl hG hacc => ?_
  exact ⟨rfl, hQ h' tk acc c as (fun b o c1 c2 c3 c4 e => hk b o (Nat.ne_of_lt (Heap.lt_size e)) c1 c2 c3 c4 (oth b o e)) hS' hl hG hacc⟩
end
/-! ### in the layer -/
open L2 (V Hp HO upd Vals RelV Cx VK TE TA PE PA SqL SqT Inv)
/-- pairs laid -/
inductive LayT : Hp → List Addr → List (V × V) → Hp → Prop
  | nil (H : Hp) : LayT H [] [] H
  | cons {H H' : Hp} {t : Addr} {ts : List Addr} {x y : V} {ps : List (V × V)} : H t = none → LayT (upd H t (.tup [x, y])) ts ps H' → LayT H (t :: ts) ((x, y) :: ps) H'
def layH (H : Hp) : List Addr → List (V × V) → Hp
  | t :: ts, p :: ps => layH (upd H t (.tup [p.1, p.2])) ts ps
  | _, _ => H
section
variable {X : Cx} {pins : List (Addr × Obj)} {σ : L2.St} {s : Shared} {h' : Heap} {tk : Nat}
theorem lay_all : ∀ (as : List Addr) (ps : List (V × V)) (H : Hp) (G : Heap) (L : Addr), Inv X pins σ H { s with heap := G } → (∀ b o, G.get? b = some o → h'.get? b = some o) → as.Nodup → L ∉ as → G.get? L = none → H L = none →
    (∀ a ∈ as, G.get? a = none ∧ H a = none) → as.length = ps.length → (∀ (j : Nat) (a : Addr) (p : V × V), as[j]? = some a → ps[j]? = some p → ∃ x y, RelV p.1 x ∧ RelV p.2 y ∧ IsTupOf2 h' a x y) →
    ∃ G' : Heap, Inv X pins σ (layH H as ps) { s with heap := G' } ∧ (∀ b o, G'.get? b = some o → h'.get? b = some o) ∧ G'.get? L = none ∧ layH H as ps L = none ∧ LayT H as ps (layH H as ps)
  | [], [], H, G, L, I, hk, _, _, hL, hHL, _, _, _ => ⟨G, I, hk, hL, hHL, .nil H⟩
  | [], _ :: _, _, _, _, _, _, _, _, _, _, _, hl, _ => by simp at hl
  | _ :: _, [], _, _, _, _, _, _, _, _, _, _, hl, _ => by simp at hl
  | a :: as, p :: ps, H, G, L, I, hk, nd, hLa, hL, hHL, hn, hl, hp => by
    obtain ⟨hna, nd'⟩ := List.nodup_cons.mp nd
    obtain ⟨x, y, rx, ry, ht⟩ := hp 0 a p rfl rfl
    obtain ⟨ga, ha⟩ := hn a (List.mem_cons_self ..)
    obtain ⟨G1, g1, g2⟩ := L2.restrict h' fun b => (G.get? b).isSome || b == a
    have k1 : ∀ b o, G.get? b = some o → G1.get? b = some o := fun b o e => by
      rw [g1 b (by simp [e])]
      exact hk b o e
    have k2 : ∀ b o, G1.get? b = some o → h'.get? b = some o := fun b o e => by
      cases q : ((G.get? b).isSome || b == a) with
      | true => rw [← g1 b q]; exact e
      | false => rw [g2 b q] at e; cases e
    have hLa' : L ≠ a := fun z => hLa (by rw [z]; exact List.mem_cons_self ..)
    have out : ∀ b, G.get? b = none → b ≠ a → G1.get? b = none := fun b e n => g2 b (by simp [e, n])
    have hta : G1.get? a = some { cls := .type "tuple", data := .seq #[x, y] } := by rw [g1 a (by simp)]; exact ht
    have I1 : Inv X pins σ (upd H a (.tup [p.1, p.2])) { s with heap := G1 } := by
      refine L2.Inv.laidN (s := { s with heap := G }) (t' := s.toks) I k1 ga ha ?_
      exact ⟨by show 2 ≤ sizeLine; rw [sizeLine_eq]; decide, [x, y], .cons rx (.cons ry .nil), _, hta, rfl, _, rfl⟩
    obtain ⟨G', q1, q2, q3, q4, q5⟩ := lay_all as ps (upd H a (.tup [p.1, p.2])) G1 L I1 k2 nd' (fun z => hLa (List.mem_cons_of_mem _ z)) (out L hL hLa') (by rw [L2.upd_ne hLa']; exact hHL)
      (fun b hb => by
        have hba : b ≠ a := fun z => hna (by rw [← z]; exact hb)
        obtain ⟨e1, e2⟩ := hn b (List.mem_cons_of_mem _ hb)
        exact ⟨out b e1 hba, by rw [L2.upd_ne hba]; exact e2⟩) (by simpa using hl) fun j b q hj hq => hp (j + 1) b q (by simpa using hj) (by simpa using hq)
    exact ⟨G', q1, q2, q3, q4, .cons ha q5⟩
end
def tLz (K : PySem.W.Frag) (ta : TA) : TE := fun σ H Q => ta σ H fun vs H1 => ∃ (a b : Addr) (xs ys : List V), vs = [V.ref a, V.ref b] ∧ (SqL K H1 a xs ∨ SqT K H1 a xs) ∧ (SqL K H1 b ys ∨ SqT K H1 b ys) ∧
  ∀ ts H2 l, LayT H1 ts (xs.zip ys) H2 → H2 l = none → Q (.ref l) (upd H2 l (.lst (ts.map V.ref)))
theorem getv : ∀ {xs : List V} {us : List Value} {i : Nat} {x : V} {u : Value}, Vals xs us → xs[i]? = some x → us[i]? = some u → RelV x u
  | _, _, _, _, _, .nil, h, _ => by simp at h
  | _, _, 0, _, _, .cons r _, h, h' => by simp at h h'; subst h h'; exact r
  | _, _, i + 1, _, _, .cons _ t, h, h' => getv t (by simpa using h) (by simpa using h')
/-- a thing that zip walks -/
theorem src {X : Cx} {pins : List (Addr × Obj)} {σ : L2.St} {H : Hp} {s : Shared} {a : Addr} {xs : List V} (I : Inv X pins σ H s) (h : SqL X.K H a xs ∨ SqT X.K H a xs) (hc : X.calm = true) :
    ∃ (its : List Value) (o : Obj) (Hh : Heap → Prop) (St : Addr → Nat → Heap → Prop), Vals xs its ∧ its.length ≤ sizeLine ∧ a < s.heap.objs.size ∧ Begins (.ref a) o Hh ∧ Hh s.heap ∧
      (∀ it, a ≠ it → ∀ A : Around, A.handled = none → Draws X.prog X.w A it [it, a] its.length (fun i v => its[i]? = some v) (St it)) ∧ ∀ it h', h'.get? it = some o → Hh h' → St it 0 h' := by
  rcases h with h | h
  · obtain ⟨its, rv, p1, hz⟩ := I.list h
    refine ⟨its, _, _, fun it i h => h.IsListIter it a i ∧ h.IsList a its.toArray, rv, by rw [← rv.length]; exact hz, p1.lt, begins_list a its.toArray, p1.isList, fun it hne A hh => ?_, fun it h' e x => ⟨⟨_, e, rfl, rfl⟩, x⟩⟩
    have d := Draws.list (prog := X.prog) (w := X.w) (A := A) hh it a hne its.toArray
    simpa using d
  · obtain ⟨its, rv, p1, hz⟩ := I.tuple h
    obtain ⟨o1, ho1, _⟩ := id p1
    refine ⟨its, _, _, fun it i h => h.IsTupleIter it a i ∧ h.IsTuple a its.toArray, rv, by rw [← rv.length]; exact hz, Heap.lt_size ho1, begins_tuple a its.toArray, p1, fun it hne A hh => ?_, fun it h' e x => ⟨⟨_, e, rfl, rfl⟩, x⟩⟩
    have d := Draws.tuple (prog := X.prog) (w := X.w) (A := A) hh it a hne its.toArray
    simpa using d
open L2 in
theorem pe_listZip {X : Cx} {e1 e2 : Expr} {ta : TA} {p p2 q pos : Pos} (hg : Gl X "list") (hm : X.mg "list" = none) (hg2 : Gl X "zip") (hm2 : X.mg "zip" = none) (hc : X.calm = true) (ha : PA X [e1, e2] ta)
    (na : starEach [e1, e2] X.env = (false, eval e1 X.env) :: starEach [e2] X.env) (hpl : (backTo q (starEach [e2] X.env)).any (·.1) = false) : PE X (.Call (.Name "list" p) [.Call (.Name "zip" p2) [e1, e2] [] q] [] pos) (tLz X.K ta) := by
  refine ⟨fun pins s σ H Q I h => ?_⟩
  refine Call_ (ld_blt I hg hm PyProof.Rows.boot_list ?_)
  refine PyProof.Rows.callWith_type1 (PyProof.Rows.args_cons ?_ rfl) rfl rfl
  refine Call_ (ld_blt I hg2 hm2 PyProof.Rows.boot_zip (PyProof.Rows.callWith_type1 (thn (ha.run q pins s σ H _ I h) fun us s1 ⟨vs, H1, I1, r1, q1⟩ => ?_) na hpl))
  obtain ⟨a, b, xs, ys, rfl, h1, h2, q1⟩ := q1
  cases r1 with
  | cons r rr =>
    cases rr with
    | cons r' rr =>
      cases rr
      cases r
      cases r'
      have hh := I1.ok.hd hc
      obtain ⟨its, o1, Hh1, St1, rv1, z1, l1, B1, hh1, D1, g1⟩ := src I1 h1 hc
      obtain ⟨its2, o2, Hh2, St2, rv2, z2, l2, B2, hh2, D2, g2⟩ := src I1 h2 hc
      refine zip_begins2 B1 B2 hh1 hh2 fun h' hz hTI hTO e1' e2' hsz hk => ?_
      refine PyProof.Rows.args_nil ?_
      have S := zip_sep2 (N := s1.heap.objs.size) (fp1 := [a]) (fp2 := [b]) (fun c hcm => by rw [List.mem_singleton.mp hcm]; exact l1) (fun c hcm => by rw [List.mem_singleton.mp hcm]; exact l2)
      have N4 : s1.heap.objs.size ≤ h'.objs.size := by rw [hsz]; exact Nat.le_add_right _ _
      refine zl_call (s := { s1 with heap := h' }) S (D1 s1.heap.objs.size (Nat.ne_of_lt l1) _ hh) (D2 (s1.heap.objs.size + 1) (Nat.ne_of_lt (Nat.lt_succ_of_lt l2)) _ hh) (fun c hcm => ?_) (fun c hcm => ?_) (Nat.le_trans (Nat.min_le_left ..) z1) hz hTI ⟨_, _, hTO⟩
        (g1 _ _ e1' (B1.keeps _ _ hh1 hk)) (g2 _ _ e2' (B2.keeps _ _ hh2 hk)) fun h2 tk acc c as hk2 hL hl hG hacc => ?_
      · show c < h'.objs.size
        rw [hsz]
        rcases List.mem_cons.mp hcm with e | hcm
        · rw [e]; exact Nat.lt_add_of_pos_right (by decide)
        · rw [List.mem_singleton.mp hcm]; exact Nat.lt_of_lt_of_le l1 (Nat.le_add_right _ _)
      · show c < h'.objs.size
        rw [hsz]
        rcases List.mem_cons.mp hcm with e | hcm
        · rw [e]; exact Nat.add_lt_add_left (by decide) _
        · rw [List.mem_singleton.mp hcm]; exact Nat.lt_of_lt_of_le l2 (Nat.le_add_right _ _)
      · have hk3 : ∀ b o, s1.heap.get? b = some o → h2.get? b = some o := fun b o e => by
          have lb := Heap.lt_size e
          exact hk2 b o (Nat.ne_of_lt (Nat.lt_of_lt_of_le lb (Nat.le_add_right _ _))) (Nat.ne_of_lt (Nat.lt_of_lt_of_le lb (Nat.le_add_right _ _))) (Nat.ne_of_lt lb) (Nat.ne_of_lt (Nat.lt_of_lt_of_le lb (Nat.le_add_right _ _))) (hk b o e)
        have young : ∀ c, s1.heap.objs.size ≤ c → s1.heap.get? c = none ∧ H1 c = none := fun c hcl => ⟨by
          cases e : s1.heap.get? c with
          | none => rfl
          | some o => exact absurd (Heap.lt_size e) (Nat.not_lt.mpr hcl), I1.hok.fresh hcl⟩
        have lx : xs.length = its.length := rv1.length
        have ly : ys.length = its2.length := rv2.length
        obtain ⟨G', I2, k2, gL, hL0, lay⟩ := lay_all (X := X) (pins := pins) (σ := σ) (s := { s1 with toks := tk }) (h' := h2) as (xs.zip ys) H1 s1.heap h'.objs.size (I1.kept (t' := tk) fun _ _ e => e) hk3 (hG.rise.imp fun z => Nat.ne_of_lt z)
          (fun z => Nat.lt_irrefl _ (hG.above _ z)) (young _ N4).1 (young _ N4).2 (fun c hcm => young c (Nat.le_trans N4 (Nat.le_of_lt (hG.above c hcm)))) (by rw [List.length_zip, hl, lx, ly]) (fun j c pp hj hp => by
            obtain ⟨x, y, p1, p2, ht⟩ := hG.pairs j c hj
            obtain ⟨qx, qy⟩ := List.getElem?_zip_eq_some.mp hp
            exact ⟨x, y, getv rv1 qx p1, getv rv2 qy p2, ht⟩)
        refine ⟨.ref h'.objs.size, upd (layH H1 as (xs.zip ys)) h'.objs.size (.lst (as.map V.ref)), ?_, rfl, q1 as _ _ lay hL0⟩
        refine L2.Inv.laidN (s := { s1 with heap := G', toks := tk }) (t' := tk) I2 k2 gL hL0 ?_
        refine ⟨?_, acc.toList, c, ?_, ?_⟩
        · rw [List.length_map, hl]; exact Nat.le_trans (Nat.min_le_left ..) z1
        · rw [hacc]; exact L2.vals_refs as
        · rw [Array.toArray_toList]; exact hL
end Zl
/-! Mini: calls, walks, comprehensions. -/
namespace Mi
open PySem (Str Addr Value Expr Stmt Scope PyData sizeLine Const NameKind Operator CmpOp Comprehension)
open L2 (V Hp HO Key upd Rd SqL SqT Cx VK R2 OpR CallR MtR IxR SlR PE PT PW PA PI PG TE TT TA TI TG WX Takes Room)
section
variable {G : Gx} {F : Fns} {k : Nat} {c : CC} {X : Cx} {W : WX} {lo : Bool} {e e' a b d : Ex} {x y z : Expr} {pos : PySem.Pos}
theorem a_one (hc : chkE c lo a y = true) (h1 : SE G F X W lo a y) : PA X [y] (GA G F W lo (.cons a .nil)) := s_cons hc h1 s_nil
theorem a_two (hc : chkE c lo a y = true) (hc2 : chkE c lo b z = true) (h1 : SE G F X W lo a y) (h2 : SE G F X W lo b z) : PA X [y, z] (GA G F W lo (.cons a (.cons b .nil))) := s_cons hc h1 (s_cons hc2 h2 s_nil)
theorem plain1 (hc : chkE c lo a y = true) {p : PySem.Pos} {env : PySem.Env} : (PySem.backTo p (PySem.starEach ([] : List Expr) env)).any (·.1) = false := rfl
theorem plain2 (hc : chkE c lo b z = true) {p : PySem.Pos} {env : PySem.Env} : (PySem.backTo p (PySem.starEach [z] env)).any (·.1) = false := by
  rw [star_cons (chk_ns hc)]
  rfl
theorem i_f1 {f : B1} (hK : X.K = G.K) {σ : L2.St} {H : Hp} {Q : VK} (h : GE G F W lo (.f1 f a) σ H Q) : L2.tCB (rB1 X.K f) (GA G F W lo (.cons a .nil)) σ H Q := by
  obtain ⟨fr, ρ, S, m, s, q⟩ := h
  refine ⟨fr, ρ, S, m, s, ?_⟩
  have e1 : evs F (.cons a .nil) ρ S = (ev F a ρ S).bind fun x S => .ok [x] S := rfl
  rw [e1]
  simp only [ev] at q
  cases r : ev F a ρ S with
  | ok d1 S1 =>
    rw [r] at q
    intro v H1 m1 ex s1 r1
    cases r1 with
    | cons r1 r2 =>
      cases r2
      obtain ⟨d3, e3, k3⟩ := PX.lifted (PX.move ex q) s1
      rw [hK]
      exact ⟨m1, _, _, d1, d3, rfl, s1.held, r1, e3, k3⟩
  | xc _ _ => rw [r] at q; exact q
  | no => rw [r] at q; exact q
theorem i_f2 {f : B2} (hK : X.K = G.K) {σ : L2.St} {H : Hp} {Q : VK} (h : GE G F W lo (.f2 f a b) σ H Q) : L2.tCB (rB2 X.K f) (GA G F W lo (.cons a (.cons b .nil))) σ H Q := by
  obtain ⟨fr, ρ, S, m, s, q⟩ := h
  refine ⟨fr, ρ, S, m, s, ?_⟩
  have e1 : evs F (.cons a (.cons b .nil)) ρ S = (ev F a ρ S).bind fun x S => (ev F b ρ S).bind fun y S => .ok [x, y] S := by
    simp only [evs, R.bind_assoc, R.bind_ok]
  rw [e1]
  simp only [ev] at q
  cases r : ev F a ρ S with
  | ok d1 S1 =>
    rw [r] at q
    simp only [R.bind_ok] at q ⊢
    cases r2 : ev F b ρ S1 with
    | ok d2 S2 =>
      rw [r2] at q
      intro v H1 m1 ex s1 r1
      cases r1 with
      | cons r1 r2 =>
        cases r2 with
        | cons r2 r3 =>
          cases r3
          obtain ⟨d3, e3, k3⟩ := PX.lifted (PX.move ex q) s1
          rw [hK]
          exact ⟨m1, _, _, _, d1, d2, d3, rfl, s1.held, r1, r2, e3, k3⟩
    | xc _ _ => rw [r2] at q; exact q
    | no => rw [r2] at q; exact q
  | xc _ _ => rw [r] at q; exact q
  | no => rw [r] at q; exact q
theorem s_f1 {f : B1} {n : Str} {p : PySem.Pos} (X' : XC G F k c X W) (cm : c.calm = true) (hn : f1N f = some n) (hg : gloB c.sc n = true) (hc : chkE c lo a y = true) (h1 : SE G F X W lo a y) : SE G F X W lo (.f1 f a) (.Call (.Name n p) [y] [] pos) := by
  refine .plain (?_) (fun _ => rfl) (fun _ _ _ z => nomatch z)
  have st : PySem.starEach [y] X.env = (false, PySem.eval y X.env) :: PySem.starEach [] X.env := star_cons (chk_ns hc)
  cases f with
  | len => cases hn; exact imp_pe (L2.pe_callB cb_len (X'.gl hg) (X'.wd.free _ (by decide)) PySem.boot_len (a_one hc h1) (by decide) (by decide) st rfl) fun _ _ _ q => i_f1 X'.K q
  | all => cases hn; exact imp_pe (L2.pe_callB (cb_all (X'.calm cm)) (X'.gl hg) (X'.wd.free _ (by decide)) (by decide +kernel) (a_one hc h1) (by decide) (by decide) st rfl) fun _ _ _ q => i_f1 X'.K q
  | sum => cases hn; exact imp_pe (L2.pe_callB (cb_sum (X'.calm cm)) (X'.gl hg) (X'.wd.free _ (by decide)) (by decide +kernel) (a_one hc h1) (by decide) (by decide) st rfl) fun _ _ _ q => i_f1 X'.K q
  | list => cases hn; exact imp_pe (L2.pe_callTy cb_list (X'.gl hg) (X'.wd.free _ (by decide)) (by decide +kernel) (a_one hc h1) (by decide) (by decide) st rfl) fun _ _ _ q => i_f1 X'.K q
  | tuple => cases hn; exact imp_pe (L2.pe_callTy cb_tuple (X'.gl hg) (X'.wd.free _ (by decide)) (by decide +kernel) (a_one hc h1) (by decide) (by decide) st rfl) fun _ _ _ q => i_f1 X'.K q
  | sorted => cases hn; exact imp_pe (L2.pe_callB cb_sorted (X'.gl hg) (X'.wd.free _ (by decide)) (by decide +kernel) (a_one hc h1) (by decide) (by decide) st rfl) fun _ _ _ q => i_f1 X'.K q
  | int => cases hn; exact imp_pe (L2.pe_callTy cb_int (X'.gl hg) (X'.wd.free _ (by decide)) (by decide +kernel) (a_one hc h1) (by decide) (by decide) st rfl) fun _ _ _ q => i_f1 X'.K q
  | _ => cases hn
theorem s_f2 {f : B2} {n : Str} {p : PySem.Pos} (X' : XC G F k c X W) (cm : c.calm = true) (hn : f2N f = n) (hg : gloB c.sc n = true) (hc : chkE c lo a y = true) (hc2 : chkE c lo b z = true) (h1 : SE G F X W lo a y) (h2 : SE G F X W lo b z) : SE G F X W lo (.f2 f a b) (.Call (.Name n p) [y, z] [] pos) := by
  refine .plain (?_) (fun _ => rfl) (fun _ _ _ z => nomatch z)
  have st : PySem.starEach [y, z] X.env = (false, PySem.eval y X.env) :: PySem.starEach [z] X.env := star_cons (chk_ns hc)
  cases f with
  | max => cases hn; exact imp_pe (L2.pe_callB (cb_max (X'.calm cm)) (X'.gl hg) (X'.wd.free _ (by decide)) (by decide +kernel) (a_two hc hc2 h1 h2) (by decide) (by decide) st (plain2 hc2)) fun _ _ _ q => i_f2 X'.K q
  | min => cases hn; exact imp_pe (L2.pe_callB (cb_min (X'.calm cm)) (X'.gl hg) (X'.wd.free _ (by decide)) (by decide +kernel) (a_two hc hc2 h1 h2) (by decide) (by decide) st (plain2 hc2)) fun _ _ _ q => i_f2 X'.K q
/-! ### methods of texts -/
theorem attr_ok {n : Str} {env : PySem.Env} (h : noCall0 x = true) : PySem.attributeBase x n env (PySem.eval x env) = PySem.eval x env := by
  cases x <;> first | rfl | skip
  rename_i f as ks p
  cases f <;> first | rfl | skip
  cases as <;> first | rfl | skip
  cases ks <;> first | rfl | skip
  cases h
theorem i_meth {f : M1} (hK : X.K = G.K) {σ : L2.St} {H : Hp} {Q : VK} (h : GE G F W lo (.meth f a b) σ H Q) : L2.tBM X.K "str" (rMG X.K f) (GE G F W lo a) (GA G F W lo (.cons b .nil)) σ H Q := by
  obtain ⟨fr, ρ, S, m, s, q⟩ := h
  simp only [ev] at q
  refine ⟨fr, ρ, S, m, s, (PX.bind q).imp fun v H1 ⟨d1, S1, m1, e1, s1, r1, q1⟩ => ?_⟩
  have ty : ∃ ss, d1 = .str ss := by
    cases d1 with
    | str ss => exact ⟨ss, rfl⟩
    | _ => exact q1.elim
  obtain ⟨ss, rfl⟩ := ty
  refine ⟨by rw [r1.inv_str.1]; rfl, fr, ρ, S1, m1, s1, ?_⟩
  simp only [asS_str, R.bind_ok] at q1
  have e1 : evs F (.cons b .nil) ρ S1 = (ev F b ρ S1).bind fun x S => .ok [x] S := rfl
  rw [e1]
  cases r : ev F b ρ S1 with
  | ok d2 S2 =>
    rw [r] at q1
    intro v2 H2 m2 ex s2 r2
    cases r2 with
    | cons r2 r3 =>
      cases r3
      obtain ⟨d3, e3, k3⟩ := PX.lifted (PX.move ex q1) s2
      rw [hK]
      exact ⟨m2, _, _, _, d2, d3, rfl, s2.held, r1.ext ex, r2, e3, k3⟩
  | xc _ _ => rw [r] at q1; exact q1
  | no => rw [r] at q1; exact q1
theorem s_meth {f : M1} {n : Str} {ap : PySem.Pos} (X' : XC G F k c X W) (hn : m1N f = n) (hl : (ap.endLine == pos.line) = true) (hb : noCall0 x = true) (hc : chkE c lo b y = true) (h1 : SE G F X W lo a x) (h2 : SE G F X W lo b y) :
    SE G F X W lo (.meth f a b) (.Call (.Attribute x n ap) [y] [] pos) := by
  refine .plain (?_) (fun _ => rfl) (fun _ _ _ z => nomatch z)
  have st : PySem.starEach [y] X.env = (false, PySem.eval y X.env) :: PySem.starEach [] X.env := star_cons (chk_ns hc)
  have few : ((PySem.backTo pos (PySem.starEach [y] X.env)).all (fun x => !x.1) && (PySem.backToKw pos (PySem.keywordEach [] X.env)).all (fun x => x.1.isSome)
      && decide (([y] : List Expr).length + ([] : List PySem.Keyword).length + (if ([] : List PySem.Keyword).isEmpty then 0 else 1) < 30)) = true := by
    rw [st]
    rfl
  cases f with
  | count => cases hn; exact imp_pe (L2.pe_bm PySem.F.plainAttrs_str PySem.F.slot_str_count PySem.F.type_str_count mg_count h1.v (a_one hc h2) (attr_ok hb) few hl st rfl) fun _ _ _ q => i_meth X'.K q
  | endswith => cases hn; exact imp_pe (L2.pe_bm PySem.F.plainAttrs_str PySem.F.slot_str_endswith PySem.F.type_str_endswith mg_ends h1.v (a_one hc h2) (attr_ok hb) few hl st rfl) fun _ _ _ q => i_meth X'.K q
  | join => cases hn; exact imp_pe (L2.pe_bm PySem.F.plainAttrs_str PySem.F.slot_str_join PySem.F.type_str_join mg_join h1.v (a_one hc h2) (attr_ok hb) few hl st rfl) fun _ _ _ q => i_meth X'.K q
/-! ### methods of lists -/
theorem i_lmeth {f : LM} {n : Str} (hn : lmN f = some n) (hK : X.K = G.K) {σ : L2.St} {H : Hp} {Q : VK} (h : GE G F W lo (.lmeth f a b) σ H Q) : L2.tBM X.K "list" (rLG X.K f) (GE G F W lo a) (GA G F W lo (.cons b .nil)) σ H Q := by
  obtain ⟨fr, ρ, S, m, s, q⟩ := h
  simp only [ev] at q
  refine ⟨fr, ρ, S, m, s, (PX.bind q).imp fun v H1 ⟨d1, S1, m1, e1, s1, r1, q1⟩ => ?_⟩
  have ty : ∃ ss, d1 = .lst ss ∧ lmOk f d1 = true := by
    by_cases ho : lmOk f d1 = true
    · cases d1 with
      | lst ss => exact ⟨ss, rfl, ho⟩
      | tup ss => cases f <;> first | (cases hn; done) | (cases ho; done)
      | _ => cases f <;> cases ho
    · rw [if_neg ho] at q1; exact q1.elim
  obtain ⟨ss, rfl, ho⟩ := ty
  rw [if_pos ho] at q1
  obtain ⟨pl, vl, ev1, hl1, _, _, _⟩ := id r1.inv_lst
  refine ⟨by rw [ev1]; exact .inl ⟨rfl, vl, sqL_of hl1⟩, fr, ρ, S1, m1, s1, ?_⟩
  have e1 : evs F (.cons b .nil) ρ S1 = (ev F b ρ S1).bind fun x S => .ok [x] S := rfl
  rw [e1]
  cases r : ev F b ρ S1 with
  | ok d2 S2 =>
    rw [r] at q1
    intro v2 H2 m2 ex s2 r2
    cases r2 with
    | cons r2 r3 =>
      cases r3
      obtain ⟨d3, e3, k3⟩ := PX.lifted (PX.move ex q1) s2
      rw [hK]
      exact ⟨m2, _, _, _, d2, d3, rfl, s2.held, r1.ext ex, r2, e3, k3⟩
  | xc _ _ => rw [r] at q1; exact q1
  | no => rw [r] at q1; exact q1
theorem s_lmeth {f : LM} {n : Str} {ap : PySem.Pos} (X' : XC G F k c X W) (hn : lmN f = some n) (hl : (ap.endLine == pos.line) = true) (hb : noCall0 x = true) (hc : chkE c lo b y = true) (h1 : SE G F X W lo a x) (h2 : SE G F X W lo b y) :
    SE G F X W lo (.lmeth f a b) (.Call (.Attribute x n ap) [y] [] pos) := by
  refine .plain (?_) (fun _ => rfl) (fun _ _ _ z => nomatch z)
  have st : PySem.starEach [y] X.env = (false, PySem.eval y X.env) :: PySem.starEach [] X.env := star_cons (chk_ns hc)
  have few : ((PySem.backTo pos (PySem.starEach [y] X.env)).all (fun x => !x.1) && (PySem.backToKw pos (PySem.keywordEach [] X.env)).all (fun x => x.1.isSome)
      && decide (([y] : List Expr).length + ([] : List PySem.Keyword).length + (if ([] : List PySem.Keyword).isEmpty then 0 else 1) < 30)) = true := by
    rw [st]
    rfl
  have hn' := hn
  cases f with
  | count => cases hn; exact imp_pe (L2.pe_bm PySem.F.plainAttrs_list PySem.F.slot_list_count PySem.F.type_list_count mg_lcount h1.v (a_one hc h2) (attr_ok hb) few hl st rfl) fun _ _ _ q => i_lmeth hn' X'.K q
  | index => cases hn; exact imp_pe (L2.pe_bm PySem.F.plainAttrs_list PySem.F.slot_list_index PySem.F.type_list_index mg_index h1.v (a_one hc h2) (attr_ok hb) few hl st rfl) fun _ _ _ q => i_lmeth hn' X'.K q
  | tindex => cases hn
/-! ### not in range(a, b) -/
theorem s_nrng {p q : PySem.Pos} (X' : XC G F k c X W) (hg : gloB c.sc ("range" : Str) = true) (hc : chkE c lo b y = true) (hc2 : chkE c lo d z = true) (h1 : SE G F X W lo a x) (h2 : SE G F X W lo b y) (h3 : SE G F X W lo d z) :
    SE G F X W lo (.nrng a b d) (.Compare x [.NotIn] [.Call (.Name ("range" : Str) p) [y, z] [] q] pos) := by
  have st : PySem.starEach [y, z] X.env = (false, PySem.eval y X.env) :: PySem.starEach [z] X.env := star_cons (chk_ns hc)
  have pr : PE X (.Call (.Name ("range" : Str) p) [y, z] [] q) _ := L2.pe_callTy (pos := q) L2.cr_range2 (X'.gl hg) (X'.wd.free _ (by decide)) (by decide +kernel) (a_two hc hc2 h2 h3) (by decide) (by decide) st (plain2 hc2)
  have rd : ∀ σ H Q, GE G F W lo (.nrng a b d) σ H Q → L2.tOp (fun x y H Q => ∃ i a lo hi, x = V.int i ∧ y = V.ref a ∧ H a = some (HO.rng lo hi) ∧ Q (V.bl (!decide (lo ≤ i ∧ i < hi))) H) (GE G F W lo a) (L2.tCB (fun vs H Q => ∃ i j, vs = [V.int i, V.int j] ∧ ∀ p, H p = none → Q (V.ref p) (upd H p (HO.rng i j))) (GA G F W lo (.cons b (.cons d .nil)))) σ H Q := fun σ H Q ⟨fr, ρ, S, m, s, q⟩ => by
    simp only [ev] at q
    refine ⟨fr, ρ, S, m, s, (PX.bind q).imp fun v H1 ⟨d1, S1, m1, e1, s1, r1, q1⟩ => ⟨fr, ρ, S1, m1, s1, ?_⟩⟩
    have e1' : evs F (.cons b (.cons d .nil)) ρ S1 = (ev F b ρ S1).bind fun x S => (ev F d ρ S).bind fun y S => .ok [x, y] S := by
      simp only [evs, R.bind_assoc, R.bind_ok]
    rw [e1']
    cases hr : ev F b ρ S1 with
    | no => rw [hr] at q1; exact q1
    | xc x1 S2 => rw [hr] at q1; exact q1
    | ok d2 S2 =>
      rw [hr] at q1
      simp only [R.bind_ok] at q1 ⊢
      cases hr2 : ev F d ρ S2 with
      | no => rw [hr2] at q1; exact q1
      | xc x1 S1 => rw [hr2] at q1; exact q1
      | ok d3 S3 =>
        rw [hr2] at q1
        simp only [R.bind_ok] at q1 ⊢
        intro vs H3 m3 ex s3 r3
        cases r3 with
        | cons r2 r3 =>
          cases r3 with
          | cons r3 r4 =>
            cases r4
            cases d1 with
            | int i =>
              cases d2 with
              | int j =>
                cases d3 with
                | int kk =>
                  refine ⟨j, kk, by rw [r2.inv_int, r3.inv_int], fun pp hp => ⟨i, pp, j, kk, r1.inv_int, rfl, upd_at, ?_⟩⟩
                  exact q1 _ _ m3 (ex.trans (Ext.new hp)) (s3.new hp) (.bl _)
                | _ => exact q1.elim
              | _ => exact q1.elim
            | _ => exact q1.elim
  exact ⟨imp_pe (L2.pe_cmpR op_nin_rng h1.v pr rfl) rd, imp_pt (L2.pt_cmpR op_nin_rng h1.v pr rfl) fun _ _ _ q => i_test (fun _ z => rd _ _ _ z) q, fun _ _ _ z => nomatch z⟩
/-! ### list(zip(a, b)) -/
theorem lay_st {f : Fr} {σ : L2.St} {ρ : Env} {S : Sto} {m : List Addr} : ∀ {ts : List Addr} {xs ys : List V} {ds es : List D} {H H2 : Hp}, St G f σ H ρ S m → RL G.K m (Bv lo f σ ρ) H xs ds → RL G.K m (Bv lo f σ ρ) H ys es → Zl.LayT H ts (xs.zip ys) H2 →
    St G f σ H2 ρ S m ∧ Ext m H m H2 ∧ RL G.K m (Bv lo f σ ρ) H2 (ts.map V.ref) (ds.zipWith (fun a b => .tup [a, b]) es)
  | ts, [], ys, ds, es, H, H2, s, r1, r2, h => by
    cases r1
    cases h
    exact ⟨s, Ext.refl _ _, .nil⟩
  | ts, x :: xs, [], ds, es, H, H2, s, r1, r2, h => by
    cases r2
    cases h
    exact ⟨s, Ext.refl _ _, by cases r1; exact .nil⟩
  | ts, x :: xs, y :: ys, ds, es, H, H2, s, r1, r2, h => by
    cases r1 with
    | cons a1 a2 =>
      cases r2 with
      | cons b1 b2 =>
        cases h with
        | cons hn h =>
          have ex1 : Ext m H m (upd H _ (.tup [x, y])) := Ext.new hn
          obtain ⟨k1, k2, k3⟩ := lay_st (s.new hn) (a2.ext ex1) (b2.ext ex1) h
          exact ⟨k1, ex1.trans k2, .cons ((rv_new_tup s.held hn (.cons a1 (.cons b1 .nil))).ext k2) k3⟩
theorem sq_of {m : List Addr} {A : Addr → Prop} {H : Hp} {v : V} {d : D} {ds : List D} (r : RV G.K m A H v d) (h : seqLT d = some ds) : ∃ p xs, v = .ref p ∧ (SqL G.K H p xs ∨ SqT G.K H p xs) ∧ RL G.K m A H xs ds := by
  cases d with
  | lst _ =>
    cases h
    obtain ⟨p, vs, e1, h1, _, _, q1⟩ := r.inv_lst
    exact ⟨p, vs, e1, .inl (sqL_of h1), q1⟩
  | tup _ =>
    cases h
    obtain ⟨p, vs, e1, h1, q1⟩ := r.inv_tup
    exact ⟨p, vs, e1, .inr h1, q1⟩
  | _ => cases h
theorem s_lzip {p q r : PySem.Pos} (X' : XC G F k c X W) (cm : c.calm = true) (hg : gloB c.sc ("list" : Str) = true) (hg2 : gloB c.sc ("zip" : Str) = true) (hc : chkE c lo a y = true) (hc2 : chkE c lo b z = true) (h1 : SE G F X W lo a y) (h2 : SE G F X W lo b z) :
    SE G F X W lo (.lzip a b) (.Call (.Name ("list" : Str) p) [.Call (.Name ("zip" : Str) q) [y, z] [] r] [] pos) := by
  refine .plain (?_) (fun _ => rfl) (fun _ _ _ z => nomatch z)
  refine imp_pe (Zl.pe_listZip (X'.gl hg) (X'.wd.free _ (by decide)) (X'.gl hg2) (X'.wd.free _ (by decide)) (X'.calm cm) (a_two hc hc2 h1 h2) (star_cons (chk_ns hc)) (plain2 hc2)) fun σ H Q ⟨f, ρ, S, m, s, q⟩ => ?_
  simp only [ev] at q
  refine ⟨f, ρ, S, m, s, ?_⟩
  have e1 : evs F (.cons a (.cons b .nil)) ρ S = (ev F a ρ S).bind fun x S => (ev F b ρ S).bind fun y S => .ok [x, y] S := by
    simp only [evs, R.bind_assoc, R.bind_ok]
  rw [e1]
  cases hr : ev F a ρ S with
  | no => rw [hr] at q; exact q
  | xc x1 S1 => rw [hr] at q; exact q
  | ok d1 S1 =>
    rw [hr] at q
    simp only [R.bind_ok] at q ⊢
    cases hr2 : ev F b ρ S1 with
    | no => rw [hr2] at q; exact q
    | xc x1 S1 => rw [hr2] at q; exact q
    | ok d2 S2 =>
      rw [hr2] at q
      simp only [R.bind_ok] at q ⊢
      intro vs H1 m1 ex s1 r1
      cases r1 with
      | cons r1 r2 =>
        cases r2 with
        | cons r2 r3 =>
          cases r3
          rw [X'.K]
          unfold lzipD at q
          cases q1 : seqLT d1 with
          | none => rw [q1] at q; exact q.elim
          | some ds =>
            cases q2 : seqLT d2 with
            | none => rw [q1, q2] at q; exact q.elim
            | some es =>
              rw [q1, q2] at q
              obtain ⟨pa, xs, rfl, k1, l1⟩ := sq_of r1 q1
              obtain ⟨pb, ys, rfl, k2, l2⟩ := sq_of r2 q2
              refine ⟨pa, pb, xs, ys, rfl, k1, k2, fun ts H2 l lay hl => ?_⟩
              obtain ⟨t1, t2, t3⟩ := lay_st s1 l1 l2 lay
              exact q _ _ m1 (ex.trans (t2.trans (Ext.new hl))) (t1.new hl) (rv_new_lst t1.held hl t3)
/-! ### isinstance -/
theorem boot_ty (t : Ty) : PySem.bootBuiltins (tyS t) = some (.type (tyN t)) := by cases t <;> decide +kernel
theorem s_isi {t : Ty} {n : Str} {p p2 : PySem.Pos} (X' : XC G F k c X W) (hg : gloB c.sc ("isinstance" : Str) = true) (hn : tyS t = n) (hg2 : gloB c.sc n = true) (hc : chkE c lo a y = true) (h1 : SE G F X W lo a y) :
    SE G F X W lo (.isi a t) (.Call (.Name ("isinstance" : Str) p) [y, .Name n p2] [] pos) := by
  refine .plain (?_) (fun _ => rfl) (fun _ _ _ z => nomatch z)
  have st : PySem.starEach [y, .Name n p2] X.env = (false, PySem.eval y X.env) :: PySem.starEach [.Name n p2] X.env := star_cons (chk_ns hc)
  have pt : PE X (.Name n p2) (L2.tC (.ty (tyN t))) := by
    subst hn
    refine L2.pe_bltn (X'.gl hg2) (X'.wd.free _ (by cases t <;> decide)) (boot_ty t) rfl (by cases t <;> decide) (by cases t <;> decide)
  refine imp_pe (L2.pe_callB L2.call_isi (X'.gl hg) (X'.wd.free _ (by decide)) (by decide +kernel) (L2.pa_cons h1.v (L2.pa_cons pt L2.pa_nil) st) (by decide) (by decide) st rfl) fun σ H Q ⟨fr, ρ, S, m, s, q⟩ => ?_
  simp only [ev] at q
  refine ⟨fr, ρ, S, m, s, (PX.bind q).imp fun v H1 ⟨d1, S1, m1, e1, s1, r1, q1⟩ => ?_⟩
  show L2.rIsi X.K [v, .ty (tyN t)] H1 Q
  cases hi : isA d1 t with
  | none => rw [hi] at q1; exact q1.elim
  | some b =>
    rw [hi] at q1
    obtain ⟨u, tu, ku⟩ := ty_of r1 hi
    rw [X'.K]
    exact ⟨v, .ty (tyN t), u, .type (tyN t), b, rfl, .ty _, tu, ku, PX.now q1 s1 (.bl b)⟩
/-- isinstance(e, C), e the caught one -/
theorem s_isE {i C : Nat} {n ee : Str} {p p1 p2 : PySem.Pos} (X' : XC G F k c X W) (cm : c.calm = false) (hg : gloB c.sc ("isinstance" : Str) = true) (hN : c.N[i]? = some ee) (hv : visB c.sc ee = true) (hp : plainName ee = true) (hn : c.cl C = n) (hg2 : gloB c.sc n = true) (hp2 : plainName n = true) :
    SE G F X W lo (.isE i C) (.Call (.Name ("isinstance" : Str) p) [.Name ee p1, .Name n p2] [] pos) := by
  refine .plain (?_) (fun _ => rfl) (fun _ _ _ z => nomatch z)
  subst hn
  cases he : F.err with
  | none =>
    refine ⟨fun pins s σ H Q I h => ?_⟩
    obtain ⟨fr, ρ, S, m, s, q⟩ := h
    simp only [ev, he] at q
    split at q
    · rename_i z; cases z
    · exact q.elim
  | some x =>
    cases hs : F.sub x.cls C with
    | none =>
      refine ⟨fun pins s σ H Q I h => ?_⟩
      obtain ⟨fr, ρ, S, m, s, q⟩ := h
      simp only [ev, he, hs] at q
      split at q
      · rename_i z; cases z; rw [hs] at q; exact q.elim
      · exact q.elim
    | some b =>
      obtain ⟨g1, g2, g3, g4⟩ := X'.wd.sub _ _ _ hs
      obtain ⟨X0, oe, pn, rfl, hz, hf⟩ := X'.err cm x he
      have K' : X0.K = G.K := X'.K
      have st : PySem.starEach [.Name ee p1, .Name (c.cl C) p2] (X0.suite G.ea ((G.ea, oe) :: pn)).env = (false, PySem.eval (.Name ee p1) (X0.suite G.ea ((G.ea, oe) :: pn)).env) :: PySem.starEach [.Name (c.cl C) p2] (X0.suite G.ea ((G.ea, oe) :: pn)).env := rfl
      have pv : PE (X0.suite G.ea ((G.ea, oe) :: pn)) (.Name ee p1) (L2.tVar i) := L2.pe_var (by rw [X'.N]; exact hN) (X'.vis hv) (plain_dbg hp).1 (plain_dbg hp).2.1
      have pt : PE (X0.suite G.ea ((G.ea, oe) :: pn)) (.Name (c.cl C) p2) (L2.tC (.ref (G.cls C))) := L2.pe_glob (X'.gl hg2) g1 rfl (plain_dbg hp2).1
      have cr := L2.call_isE (X := X0) (a := G.ea) (D := G.cls x.cls) (oe := oe) (pn := pn) (by rw [K']; exact g4) hz hf
      refine imp_pe (L2.pe_callB cr (X'.gl hg) (X'.wd.free _ (by decide)) (by decide +kernel) (L2.pa_cons pv (L2.pa_cons pt L2.pa_nil) st) (by decide) (by decide) st rfl) fun σ H Q ⟨fr, ρ, S, m, s, q⟩ => ?_
      simp only [ev, he] at q
      split at q
      · rename_i x' h1 h2
        cases h2
        rw [hs] at q
        refine ⟨.ref G.ea, s.err i h1, ?_⟩
        show L2.rIsE X0.K (G.cls x.cls) G.ea [.ref G.ea, .ref (G.cls C)] H Q
        exact ⟨.ref (G.cls C), .ref (G.cls C), b, rfl, fun u r => r, by rw [K']; exact g3, PX.now q s (.bl b)⟩
      · exact q.elim
/-! ### a def is called -/
theorem s_call {g : Nat} {es : Exs} {xs : List Expr} {n : Str} {p : PySem.Pos} (X' : XC G F k c X W) (cm : c.calm = true) (hn : c.fn g = n) (hg : gloB c.sc n = true) (hp : plainName n = true) (hc : chkA c false es (x :: xs) = true) (h : PA X (x :: xs) (GA G F W false es)) :
    SE G F X W lo (.call g es) (.Call (.Name n p) (x :: xs) [] pos) := by
  refine .plain (?_) (fun _ => rfl) (fun _ _ _ z => nomatch z)
  subst hn
  cases hF : F.fn g with
  | none =>
    refine ⟨fun pins s σ H Q I h => ?_⟩
    obtain ⟨fr, ρ, S, m, s, q⟩ := h
    simp only [ev, hF] at q
    exact q.elim
  | some gf =>
    obtain ⟨f, fd, ps, e1, e2, e3, e4⟩ := X'.wd.fns g gf hF
    have st : PySem.starEach (x :: xs) X.env = (false, PySem.eval x X.env) :: PySem.starEach xs X.env := by
      cases es with
      | nil => cases hc
      | cons e es => exact star_cons (chk_ns (ba hc).1)
    have sp : (PySem.backTo pos (PySem.starEach xs X.env)).any (·.1) = false := by
      cases es with
      | nil => cases hc
      | cons e es => exact stars_plain (ba hc).2
    rw [← X'.K] at e2 e3 e4
    refine imp_pe (L2.pe_callS e4 (X'.room cm) (X'.gl hg) e1 e2 e3 (fun σ => L2.passAt X'.tk σ) h (plain_dbg hp).1 st sp) fun σ H Q ⟨fr, ρ, S, m, s, q⟩ => ?_
    simp only [ev, hF] at q
    refine ⟨fr, ρ, S, m, s, (PX.bind q).imp fun vs H1 ⟨ds, S1, m1, e1, s1, r1, q1⟩ => ?_⟩
    refine ⟨ds, S1, m1, Av fr σ ρ, s1.sr, fun a h => s1.liveA h, r1, ?_⟩
    cases hr : gf ds S1 with
    | ok d2 S2 =>
      rw [hr] at q1
      intro v H2 m2 ex sr2 r2
      exact q1 v H2 m2 ex (s1.ext ex sr2) (r2.less fun _ z => z.av)
    | xc x2 S2 =>
      rw [hr] at q1
      intro cl dd H2 m2 ex sr2 r2
      exact q1 cl dd H2 m2 ex (s1.ext ex sr2) r2
    | no => rw [hr] at q1; exact q1
theorem s_callO {g : Nat} {es : Exs} {xs : List Expr} {n : Str} {p : PySem.Pos} (X' : XC G F k c X W) (cm : c.calm = true) (hn : c.fn g = n) (hg : gloB c.sc n = true) (hp : plainName n = true) (hc : chkA c true es (x :: xs) = true) (h : PA X (x :: xs) (GA G F W true es)) :
    SE G F X W true (.callO g es) (.Call (.Name n p) (x :: xs) [] pos) := by
  refine .plain (?_) (fun _ => rfl) (fun _ _ _ z => nomatch z)
  subst hn
  cases hF : F.fn g with
  | none =>
    refine ⟨fun pins s σ H Q I h => ?_⟩
    obtain ⟨fr, ρ, S, m, s, q⟩ := h
    simp only [ev, hF] at q
    exact q.elim
  | some gf =>
    obtain ⟨f, fd, ps, e1, e2, e3, e4⟩ := X'.wd.fns g gf hF
    have st : PySem.starEach (x :: xs) X.env = (false, PySem.eval x X.env) :: PySem.starEach xs X.env := by
      cases es with
      | nil => cases hc
      | cons e es => exact star_cons (chk_ns (ba hc).1)
    have sp : (PySem.backTo pos (PySem.starEach xs X.env)).any (·.1) = false := by
      cases es with
      | nil => cases hc
      | cons e es => exact stars_plain (ba hc).2
    rw [← X'.K] at e2 e3 e4
    refine imp_pe (L2.pe_callS e4 (X'.room cm) (X'.gl hg) e1 e2 e3 (fun σ => L2.passAt X'.tk σ) h (plain_dbg hp).1 st sp) fun σ H Q ⟨fr, ρ, S, m, s, q⟩ => ?_
    simp only [ev, hF] at q
    refine ⟨fr, ρ, S, m, s, (PX.bind q).imp fun vs H1 ⟨ds, S1, m1, e1, s1, r1, q1⟩ => ?_⟩
    refine ⟨ds, S1, m1, fr.A0, s1.sr.less fun a z => .inl z, fun a h => s1.live a h, r1, ?_⟩
    have nil : ∀ {m2 : List Addr} {A : Addr → Prop} {H2 : Hp}, SR G m2 fr.A0 [] H2 → SR G m2 A [] H2 := fun {m2 A H2} sr => by
      have : m2 = [] := List.eq_nil_of_length_eq_zero sr.len
      subst this
      exact ⟨List.nodup_nil, rfl, fun i a c h => by simp at h⟩
    cases hr : gf ds S1 with
    | ok d2 S2 =>
      rw [hr] at q1
      cases S2 with
      | nil =>
        intro v H2 m2 ex sr2 r2
        exact q1 v H2 m2 ex (s1.ext ex (nil sr2)) r2
      | cons _ _ => exact q1.elim
    | xc x2 S2 =>
      rw [hr] at q1
      cases S2 with
      | nil =>
        intro cl dd H2 m2 ex sr2 r2
        have hm : m2 = [] := List.eq_nil_of_length_eq_zero sr2.len
        obtain ⟨xc, xa⟩ := x2
        cases xa with
        | none => exact q1 cl dd H2 m2 ex (s1.ext ex (nil sr2)) ⟨r2.1, r2.2⟩
        | some d => exact q1.elim
      | cons _ _ =>
        obtain ⟨xc, xa⟩ := x2
        cases xa <;> exact (show False from q1).elim
    | no => rw [hr] at q1; exact q1
/-! ### targets -/
/-- a target is set to data -/
def GTg (G : Gx) (tg : Tg) : TG := fun v σ H Q => ∃ f ρ S m d ρ', St G f σ H ρ S m ∧ RV G.K m (Av f σ ρ) H v d ∧ bindT tg d ρ = some ρ' ∧
  ∀ σ', St G f σ' H ρ' S m → (∀ a, Own σ' ρ' a → Own σ ρ a) → (∀ vs : List Nat, (∀ i ∈ slots tg, i ∈ vs) → L2.wipe σ' vs = L2.wipe σ vs) → Q σ' H
theorem imp_pg {t t' : TG} (h : PG X x t) (hi : ∀ v σ H Q, t' v σ H Q → t v σ H Q) : PG X x t' := ⟨fun pins s σ H v u Q I r q => h.run pins s σ H v u Q I r (hi v σ H Q q)⟩
theorem wipe_set : ∀ {vs : List Nat} {i : Nat} {v : Option V} {σ : L2.St}, i ∈ vs → L2.wipe (σ.set i v) vs = L2.wipe σ vs
  | u :: vs, i, v, σ, h => by
    show (L2.wipe (σ.set i v) vs).set u none = (L2.wipe σ vs).set u none
    by_cases hi : i ∈ vs
    · rw [wipe_set hi]
    · have e : i = u := (List.mem_cons.mp h).resolve_right hi
      subst e
      have q : ∀ (vs : List Nat) (σ : L2.St), i ∉ vs → L2.wipe (σ.set i v) vs = (L2.wipe σ vs).set i v := by
        intro vs
        induction vs with
        | nil => intro σ _; rfl
        | cons w vs ih =>
          intro σ hn
          show (L2.wipe (σ.set i v) vs).set w none = ((L2.wipe σ vs).set w none).set i v
          rw [ih σ fun z => hn (List.mem_cons_of_mem _ z), List.set_comm _ _ fun z => hn (by rw [z]; exact List.mem_cons_self ..)]
      rw [q vs σ hi, List.set_set]
theorem XC.loc (X' : XC G F k c X W) {n : Str} (h : stoB c n = true) : L2.Loc X.env.scope n ∧ (X.fn n = true ∨ X.env.scope.names.lookup n = some .local) := by
  rw [X'.sc]
  unfold stoB at h
  split at h
  · rename_i q; exact ⟨.inl q, .inr q⟩
  · rename_i q
    refine ⟨.inr q, .inl ?_⟩
    rw [X'.fn]
    split at h
    · rename_i q2; rw [q2]
    · rename_i s q2
      rw [q2]
      split at h
      · rename_i q3
        show (s.names.lookup n == some NameKind.cell) = true
        rw [q3]
        rfl
      · cases h
  · cases h
theorem g_name {i : Nat} {n : Str} (X' : XC G F k c X W) (h : chkT c (.name i) (.Name n pos) = true) : PG X (.Name n pos) (GTg G (.name i)) := by
  obtain ⟨h1, h2⟩ := ba h
  obtain ⟨l1, l2⟩ := X'.loc h2
  refine imp_pg (L2.pg_name (i := i) (by rw [X'.N]; exact X'.nd) (by rw [X'.N]; exact of_decide_eq_true h1) l1 l2) fun v σ H Q ⟨f, ρ, S, m, d, ρ', s, r, e, q⟩ => ?_
  cases e
  exact q _ (s.setv r) (fun a h => own_set h) fun vs hv => wipe_set (hv i (by simp [slots]))
theorem chkT_star {tg : Tg} {p : PySem.Pos} (h : chkT c tg (.Starred x p) = true) : False := by
  cases tg <;> cases h
theorem asg_cons {es : List Expr} {env : PySem.Env} {tg : Tg} (h : chkT c tg x = true) : PySem.assignEach (x :: es) env = (false, PySem.assign x env) :: PySem.assignEach es env := by
  cases x <;> first | rfl | exact (chkT_star h).elim
/-- targets in a row -/
theorem gs_cons {es : List Expr} {tg : Tg} {t : TG} {u : L2.TGs} (hc : chkT c tg x = true) (h1 : PG X x t) (h2 : L2.PGs X es u) : L2.PGs X (x :: es) (L2.gCons t u) :=
  L2.pgs_cons h1 h2 (by rw [asg_cons hc]; rfl)
theorem av_less {f : Fr} {σ σ' : L2.St} {ρ ρ' : Env} (h : ∀ a, Own σ' ρ' a → Own σ ρ a) : ∀ a, Av f σ' ρ' a → Av f σ ρ a := fun a z => z.elim .inl fun z => .inr (h a z)
theorem g_tg (X' : XC G F k c X W) : ∀ (tg : Tg) (x : Expr), chkT c tg x = true → PG X x (GTg G tg) := by
  intro tg
  induction tg with
  | name i =>
    intro x h
    cases x with
    | Name n p => exact g_name X' h
    | _ => cases h
  | pair a b ia ib =>
    intro x h
    match x, h with
    | .Tuple [x1, x2] j p, h =>
      obtain ⟨hcm, h⟩ := ba h
      obtain ⟨h1, h2⟩ := ba h
      refine imp_pg (L2.pg_tup (n := 2) (X'.calm hcm) (gs_cons h1 (ia x1 h1) (gs_cons h2 (ib x2 h2) L2.pgs_nil)) (by rw [asg_cons h1, asg_cons h2]; rfl) (by rw [asg_cons h1, asg_cons h2]; rfl)) fun v σ H Q ⟨f, ρ, S, m, d, ρ', s, r, e, q⟩ => ?_
      obtain ⟨d1, d2, ρ1, rfl, e1, e2⟩ := bind_pair e
      obtain ⟨pp, vs, ev, sq, rl⟩ := r.inv_tup
      cases rl with
      | cons r1 rl =>
        cases rl with
        | cons r2 rl =>
          cases rl
          rw [X'.K]
          refine ⟨pp, _, ev, sq, rfl, _, _, rfl, f, ρ, S, m, d1, ρ1, s, r1, e1, fun σ1 s1 o1 w1 => ⟨_, _, rfl, f, ρ1, S, m, d2, ρ', s1, r2.less (av_less o1), e2, fun σ2 s2 o2 w2 => ⟨rfl, q σ2 s2 (fun a h => o1 a (o2 a h)) fun vs hv => ?_⟩⟩⟩
          rw [w2 vs fun i hi => hv i (by simp [slots, hi]), w1 vs fun i hi => hv i (by simp [slots, hi])]
  | trip a b d ia ib id =>
    intro x h
    match x, h with
    | .Tuple [x1, x2, x3] j p, h =>
      obtain ⟨hcm, h⟩ := ba h
      obtain ⟨h1, h2⟩ := ba h
      obtain ⟨h2, h3⟩ := ba h2
      refine imp_pg (L2.pg_tup (n := 3) (X'.calm hcm) (gs_cons h1 (ia x1 h1) (gs_cons h2 (ib x2 h2) (gs_cons h3 (id x3 h3) L2.pgs_nil))) (by rw [asg_cons h1, asg_cons h2, asg_cons h3]; rfl) (by rw [asg_cons h1, asg_cons h2, asg_cons h3]; rfl)) fun v σ H Q ⟨f, ρ, S, m, d, ρ', s, r, e, q⟩ => ?_
      obtain ⟨d1, d2, d3, ρ1, ρ2, rfl, e1, e2, e3⟩ := bind_trip e
      obtain ⟨pp, vs, ev, sq, rl⟩ := r.inv_tup
      cases rl with
      | cons r1 rl =>
        cases rl with
        | cons r2 rl =>
          cases rl with
          | cons r3 rl =>
            cases rl
            rw [X'.K]
            refine ⟨pp, _, ev, sq, rfl, _, _, rfl, f, ρ, S, m, d1, ρ1, s, r1, e1, fun σ1 s1 o1 w1 => ⟨_, _, rfl, f, ρ1, S, m, d2, ρ2, s1, r2.less (av_less o1), e2, fun σ2 s2 o2 w2 =>
              ⟨_, _, rfl, f, ρ2, S, m, d3, ρ', s2, r3.less (av_less fun a h => o1 a (o2 a h)), e3, fun σ3 s3 o3 w3 => ⟨rfl, q σ3 s3 (fun a h => o1 a (o2 a (o3 a h))) fun vs hv => ?_⟩⟩⟩⟩
            rw [w3 vs fun i hi => hv i (by simp [slots, hi]), w2 vs fun i hi => hv i (by simp [slots, hi]), w1 vs fun i hi => hv i (by simp [slots, hi])]
  | quad a b d e0 ia ib id ie =>
    intro x h
    match x, h with
    | .Tuple [x1, x2, x3, x4] j p, h =>
      obtain ⟨hcm, h⟩ := ba h
      obtain ⟨h1, h2⟩ := ba h
      obtain ⟨h2, h3⟩ := ba h2
      obtain ⟨h3, h4⟩ := ba h3
      refine imp_pg (L2.pg_tup (n := 4) (X'.calm hcm) (gs_cons h1 (ia x1 h1) (gs_cons h2 (ib x2 h2) (gs_cons h3 (id x3 h3) (gs_cons h4 (ie x4 h4) L2.pgs_nil)))) (by rw [asg_cons h1, asg_cons h2, asg_cons h3, asg_cons h4]; rfl) (by rw [asg_cons h1, asg_cons h2, asg_cons h3, asg_cons h4]; rfl)) fun v σ H Q ⟨f, ρ, S, m, d, ρ', s, r, e, q⟩ => ?_
      obtain ⟨d1, d2, d3, d4, ρ1, ρ2, ρ3, rfl, e1, e2, e3, e4⟩ := bind_quad e
      obtain ⟨pp, vs, ev, sq, rl⟩ := r.inv_tup
      cases rl with
      | cons r1 rl =>
        cases rl with
        | cons r2 rl =>
          cases rl with
          | cons r3 rl =>
            cases rl with
            | cons r4 rl =>
              cases rl
              rw [X'.K]
              refine ⟨pp, _, ev, sq, rfl, _, _, rfl, f, ρ, S, m, d1, ρ1, s, r1, e1, fun σ1 s1 o1 w1 => ⟨_, _, rfl, f, ρ1, S, m, d2, ρ2, s1, r2.less (av_less o1), e2, fun σ2 s2 o2 w2 =>
                ⟨_, _, rfl, f, ρ2, S, m, d3, ρ3, s2, r3.less (av_less fun a h => o1 a (o2 a h)), e3, fun σ3 s3 o3 w3 =>
                ⟨_, _, rfl, f, ρ3, S, m, d4, ρ', s3, r4.less (av_less fun a h => o1 a (o2 a (o3 a h))), e4, fun σ4 s4 o4 w4 => ⟨rfl, q σ4 s4 (fun a h => o1 a (o2 a (o3 a (o4 a h)))) fun vs hv => ?_⟩⟩⟩⟩⟩
              rw [w4 vs fun i hi => hv i (by simp [slots, hi]), w3 vs fun i hi => hv i (by simp [slots, hi]), w2 vs fun i hi => hv i (by simp [slots, hi]), w1 vs fun i hi => hv i (by simp [slots, hi])]
end
end Mi
/-! Mini: walks, comprehensions; all expressions. -/
namespace Mi
open PySem (Str Addr Value Expr Stmt Scope PyData sizeLine Const NameKind Operator CmpOp Comprehension)
open L2 (V Hp HO Key upd Rd SqL SqT Cx VK R2 OpR CallR MtR IxR SlR PE PT PW PA PI PG TE TT TA TI TG WX Takes Room)
section
variable {G : Gx} {F : Fns} {k : Nat} {c : CC} {X : Cx} {W : WX} {lo : Bool} {e e' a b d : Ex} {x y z t : Expr} {pos : PySem.Pos}
/-! ### walks -/
def GI (G : Gx) (F : Fns) (W : WX) (it : It) : TI := fun σ H R => ∃ f ρ S m, St G f σ H ρ S m ∧ PX G f σ ρ W (fun m' H' J ds => ItR G (Av f σ ρ) m' H' J ds) m H (evIt F it ρ S) R
theorem imp_pi {w w' : TI} (h : PI X t x w) (hi : ∀ σ H R, w' σ H R → w σ H R) : PI X t x w' := ⟨fun pins s σ H R I q => h.run pins s σ H R I (hi σ H R q)⟩
theorem or_pi {w w' : TI} (h : PI X t x w) (h' : PI X t x w') : PI X t x (fun σ H R => w σ H R ∨ w' σ H R) := ⟨fun pins s σ H R I q => q.elim (h.run pins s σ H R I) (h'.run pins s σ H R I)⟩
section
variable {m : List Addr} {A : Addr → Prop} {H : Hp}
theorem it_lst {p : Addr} {vs : List V} {ds : List D} (h : H p = some (.lst vs)) (hm : p ∉ m) (ha : ¬ A p) (r : RL G.K m A H vs ds) : ItR G A m H (L2.Itl G.K p) ds := by
  refine ⟨fun a o => a = p ∧ o = .lst vs, L2.YAt vs, ?_, fun a o hb => ?_, fun i d hd m1 A1 H1 x H2 kp _ y => ?_⟩
  · rw [← r.length]
    exact L2.walk_list.mono (fun H1 hb => sqL_of (hb p _ ⟨rfl, rfl⟩)) fun _ _ _ _ _ _ y => y
  · obtain ⟨rfl, rfl⟩ := hb
    exact ⟨h, hm, ha⟩
  · obtain ⟨rfl, hx⟩ := y
    obtain ⟨v, h1, h2⟩ := r.get hd
    rw [hx] at h1
    cases h1
    exact ⟨Nw.same _, h2.kept kp⟩
theorem it_tup {p : Addr} {vs : List V} {ds : List D} (h : H p = some (.tup vs)) (hm : p ∉ m) (ha : ¬ A p) (r : RL G.K m A H vs ds) : ItR G A m H (L2.Itt G.K p) ds := by
  refine ⟨fun a o => a = p ∧ o = .tup vs, L2.YAt vs, ?_, fun a o hb => ?_, fun i d hd m1 A1 H1 x H2 kp _ y => ?_⟩
  · rw [← r.length]
    exact L2.walk_tup.mono (fun H1 hb => sqT_of (hb p _ ⟨rfl, rfl⟩)) fun _ _ _ _ _ _ y => y
  · obtain ⟨rfl, rfl⟩ := hb
    exact ⟨h, hm, ha⟩
  · obtain ⟨rfl, hx⟩ := y
    obtain ⟨v, h1, h2⟩ := r.get hd
    rw [hx] at h1
    cases h1
    exact ⟨Nw.same _, h2.kept kp⟩
theorem it_ktp {p : Addr} {vs : List V} {ds : List D} (h : KTup G.K p vs) (r : RL G.K m A H vs ds) : ItR G A m H (L2.Itt G.K p) ds := by
  refine ⟨fun a o => False, L2.YAt vs, ?_, fun a o hb => hb.elim, fun i d hd m1 A1 H1 x H2 kp _ y => ?_⟩
  · rw [← r.length]
    exact L2.walk_tup.mono (fun H1 hb => sqT_k h) fun _ _ _ _ _ _ y => y
  · obtain ⟨rfl, hx⟩ := y
    obtain ⟨v, h1, h2⟩ := r.get hd
    rw [hx] at h1
    cases h1
    exact ⟨Nw.same _, h2.kept kp⟩
theorem it_str {ss : List Nat} (h : OkS ss) : ItR G A m H (L2.Its ⟨ss.toArray⟩) (ss.map fun c => .str [c]) := by
  refine ⟨fun a o => False, fun i H v H' => H' = H ∧ ∃ c, (⟨ss.toArray⟩ : Str).cps[i]? = some c ∧ v = .str ⟨#[c]⟩, ?_, fun a o hb => hb.elim, fun i d hd m1 A1 H1 x H2 kp _ y => ?_⟩
  · rw [show (ss.map fun c => D.str [c]).length = (⟨ss.toArray⟩ : Str).cps.size by simp]
    exact L2.walk_str.mono (fun H1 hb => trivial) fun _ _ _ _ _ _ y => y
  · obtain ⟨rfl, c, hc, rfl⟩ := y
    have hc : ss[i]? = some c := by simpa using hc
    rw [List.getElem?_map, hc] at hd
    cases hd
    exact ⟨Nw.same _, rv_str (s := [c]) ⟨fun z hz => by simp at hz; subst hz; exact h.1 _ (List.mem_of_getElem? hc), by rw [PySem.sizeLine_eq]; show 1 ≤ 16777216; decide⟩⟩
theorem it_rng {lo hi : Int} {ds : List D} (h : rngD lo hi = some ds) : ItR G A m H (L2.Itr lo (hi - lo).toNat) ds := by
  unfold rngD at h
  split at h
  · cases h
    refine ⟨fun a o => False, L2.YFn fun i => .int (lo + (i : Nat)), ?_, fun a o hb => hb.elim, fun i d hd m1 A1 H1 x H2 kp _ y => ?_⟩
    · rw [List.length_map, List.length_range]
      exact L2.walk_range.mono (fun H1 hb => trivial) fun _ _ _ _ _ _ y => y
    · obtain ⟨rfl, rfl⟩ := y
      rw [List.getElem?_map] at hd
      cases q : (List.range (hi - lo).toNat)[i]? with
      | none => rw [q] at hd; cases hd
      | some j =>
        rw [q] at hd
        cases hd
        have e : j = i := by
          obtain ⟨h1, h2⟩ := List.getElem?_eq_some_iff.mp q
          simpa using h2.symm
        subst e
        exact ⟨Nw.same _, .int _⟩
  · cases h
theorem enum_get : ∀ {ds : List D} {n i : Nat} {d : D}, (enumD n ds)[i]? = some d → ∃ d0, ds[i]? = some d0 ∧ d = .tup [.int (n + i : Nat), d0]
  | [], _, _, _, h => by simp [enumD] at h
  | e :: ds, n, 0, d, h => by
    simp only [enumD, List.getElem?_cons_zero, Option.some.injEq] at h
    exact ⟨e, rfl, by rw [← h]; rfl⟩
  | e :: ds, n, i + 1, d, h => by
    simp only [enumD, List.getElem?_cons_succ] at h
    obtain ⟨d0, h1, h2⟩ := enum_get h
    exact ⟨d0, h1, by rw [h2, show n + 1 + i = n + (i + 1) by omega]⟩
theorem enum_len : ∀ (ds : List D) (n : Nat), (enumD n ds).length = ds.length
  | [], _ => rfl
  | _ :: ds, n => congrArg Nat.succ (enum_len ds (n + 1))
theorem it_enm {p : Addr} {vs : List V} {ds : List D} (h : H p = some (.lst vs)) (hm : p ∉ m) (ha : ¬ A p) (r : RL G.K m A H vs ds) : ItR G A m H (L2.Ite G.K p) (enumD 0 ds) := by
  refine ⟨fun a o => a = p ∧ o = .lst vs, L2.YPair (fun i => some (.int (i : Nat))) (fun i => vs[i]?), ?_, fun a o hb => ?_, fun i d hd m1 A1 H1 x H2 kp hh y => ?_⟩
  · rw [enum_len, ← r.length]
    exact L2.walk_enum.mono (fun H1 hb => sqL_of (hb p _ ⟨rfl, rfl⟩)) fun _ _ _ _ _ _ y => y
  · obtain ⟨rfl, rfl⟩ := hb
    exact ⟨h, hm, ha⟩
  · obtain ⟨T, x1, y1, rfl, hT, rfl, e1, e2⟩ := y
    obtain ⟨d0, h1, rfl⟩ := enum_get hd
    obtain ⟨v, h2, h3⟩ := r.get h1
    have e2 : vs[i]? = some y1 := e2
    rw [e2] at h2
    cases h2
    cases e1
    refine ⟨Nw.mk hT, rv_new_tup hh hT (.cons ?_ (.cons (h3.kept kp) .nil))⟩
    rw [Nat.zero_add]
    exact .int _
theorem it_zip {p q : Addr} {vs ws : List V} {ds es : List D} (h : H p = some (.lst vs)) (hm : p ∉ m) (ha : ¬ A p) (r : RL G.K m A H vs ds) (h' : H q = some (.lst ws)) (hm' : q ∉ m) (ha' : ¬ A q) (r' : RL G.K m A H ws es) :
    ItR G A m H (L2.Itz G.K p q) (ds.zipWith (fun x y => .tup [x, y]) es) := by
  refine ⟨fun a o => (a = p ∧ o = .lst vs) ∨ (a = q ∧ o = .lst ws), L2.YPair (fun i => vs[i]?) (fun i => ws[i]?), ?_, fun a o hb => ?_, fun i d hd m1 A1 H1 x H2 kp hh y => ?_⟩
  · refine (L2.walk_zip (xs := vs) (ys := ws) ?_).mono (fun H1 hb => ⟨sqL_of (hb p _ (.inl ⟨rfl, rfl⟩)), sqL_of (hb q _ (.inr ⟨rfl, rfl⟩))⟩) fun _ _ _ _ _ _ y => y
    rw [List.length_zipWith, r.length, r'.length]
  · rcases hb with ⟨rfl, rfl⟩ | ⟨rfl, rfl⟩
    · exact ⟨h, hm, ha⟩
    · exact ⟨h', hm', ha'⟩
  · obtain ⟨T, x1, y1, rfl, hT, rfl, e1, e2⟩ := y
    rw [List.getElem?_zipWith] at hd
    cases q1 : ds[i]? with
    | none => rw [q1] at hd; cases hd
    | some d1 =>
      cases q2 : es[i]? with
      | none => rw [q1, q2] at hd; cases hd
      | some d2 =>
        rw [q1, q2] at hd
        cases hd
        obtain ⟨v, k1, k2⟩ := r.get q1
        obtain ⟨w, k3, k4⟩ := r'.get q2
        have e1 : vs[i]? = some x1 := e1
        have e2 : ws[i]? = some y1 := e2
        rw [e1] at k1
        rw [e2] at k3
        cases k1
        cases k3
        exact ⟨Nw.mk hT, rv_new_tup hh hT (.cons (k2.kept kp) (.cons (k4.kept kp) .nil))⟩
end
theorem walk_zipT {K : PySem.W.Frag} {a b : Addr} {xs ys : List V} : L2.Walk (RZ.ItzT K a b) (min xs.length ys.length) (fun H => SqT K H a xs ∧ SqT K H b ys) (L2.YPair (fun i => xs[i]?) (fun i => ys[i]?)) := by
  refine ⟨fun i _ hi q => ?_, fun _ q => ⟨xs, ys, q.1, q.2, by omega⟩, fun i H v H' _ q y => ?_⟩
  · have h1 : i < xs.length := by omega
    have h2 : i < ys.length := by omega
    exact ⟨xs, ys, xs[i], ys[i], q.1, q.2, by simp [h1], by simp [h2]⟩
  · obtain ⟨T, x, z, h1, h2, h3, h4, h5⟩ := y
    exact ⟨T, x, z, h1, h2, h3, h4 xs q.1, h5 ys q.2⟩
/-- a tuple that stands -/
theorem tup_stands {m : List Addr} {A : Addr → Prop} {H : Hp} {v : V} {ds : List D} (r : RV G.K m A H v (.tup ds)) : ∃ (p : Addr) (vs : List V) (B : Addr → HO → Prop), v = .ref p ∧ RL G.K m A H vs ds ∧ (∀ a o, B a o → H a = some o ∧ a ∉ m ∧ ¬ A a) ∧ ∀ H1 : Hp, (∀ a o, B a o → H1 a = some o) → SqT G.K H1 p vs := by
  cases r with
  | tup h hm ha r => exact ⟨_, _, fun a o => a = _ ∧ o = _, rfl, r, fun a o hb => by obtain ⟨rfl, rfl⟩ := hb; exact ⟨h, hm, ha⟩, fun H1 hb => sqT_of (hb _ _ ⟨rfl, rfl⟩)⟩
  | ktp h _ r => exact ⟨_, _, fun _ _ => False, rfl, r, fun a o hb => hb.elim, fun H1 _ => sqT_k h⟩
theorem it_zipT {m : List Addr} {A : Addr → Prop} {H : Hp} {v u : V} {ds es : List D} (r : RV G.K m A H v (.tup ds)) (r' : RV G.K m A H u (.tup es)) :
    ∃ p q vs ws, v = .ref p ∧ u = .ref q ∧ SqT G.K H p vs ∧ SqT G.K H q ws ∧ ItR G A m H (RZ.ItzT G.K p q) (ds.zipWith (fun x y => .tup [x, y]) es) := by
  obtain ⟨p, vs, B, rfl, rl, hB, sB⟩ := tup_stands r
  obtain ⟨q, ws, B', rfl, rl', hB', sB'⟩ := tup_stands r'
  refine ⟨p, q, vs, ws, rfl, rfl, sB H fun a o h => (hB a o h).1, sB' H fun a o h => (hB' a o h).1, fun a o => B a o ∨ B' a o, L2.YPair (fun i => vs[i]?) (fun i => ws[i]?), ?_, fun a o hb => hb.elim (hB a o) (hB' a o), fun i d hd m1 A1 H1 x H2 kp hh y => ?_⟩
  · rw [List.length_zipWith, ← rl.length, ← rl'.length]
    exact walk_zipT.mono (fun H1 hb => ⟨sB H1 fun a o h => hb a o (.inl h), sB' H1 fun a o h => hb a o (.inr h)⟩) fun _ _ _ _ _ _ y => y
  · obtain ⟨T, x1, y1, rfl, hT, rfl, e1, e2⟩ := y
    rw [List.getElem?_zipWith] at hd
    cases q1 : ds[i]? with
    | none => rw [q1] at hd; cases hd
    | some d1 =>
      cases q2 : es[i]? with
      | none => rw [q1, q2] at hd; cases hd
      | some d2 =>
        rw [q1, q2] at hd
        cases hd
        obtain ⟨v, k1, k2⟩ := rl.get q1
        obtain ⟨w, k3, k4⟩ := rl'.get q2
        have e1 : vs[i]? = some x1 := e1
        have e2 : ws[i]? = some y1 := e2
        rw [e1] at k1
        rw [e2] at k3
        cases k1
        cases k3
        exact ⟨Nw.mk hT, rv_new_tup hh hT (.cons (k2.kept kp) (.cons (k4.kept kp) .nil))⟩
theorem i_seq (X' : XC G F k c X W) (h : SE G F X W false e x) : PI X t x (GI G F W (.seq e)) := by
  refine imp_pi (or_pi (L2.pi_list h.v) (or_pi (L2.pi_tup h.v) (L2.pi_str h.v))) fun σ H R' ⟨f, ρ, S, m, s, q⟩ => ?_
  simp only [evIt] at q
  cases hr : ev F e ρ S with
  | no => rw [hr] at q; exact q.elim
  | xc x1 S1 => rw [hr] at q; exact .inl ⟨f, ρ, S, m, s, by rw [hr]; exact q⟩
  | ok d1 S1 =>
    rw [hr] at q
    cases d1 with
    | lst ds =>
      refine .inl ⟨f, ρ, S, m, s, ?_⟩
      rw [hr]
      intro v H1 m1 ex s1 r1
      obtain ⟨p, vs, rfl, h1, hm, ha, rl⟩ := r1.inv_lst
      rw [X'.K]
      exact ⟨p, rfl, ⟨vs, sqL_of h1⟩, q _ H1 m1 ex s1 (it_lst h1 hm ha rl)⟩
    | tup ds =>
      refine .inr (.inl ⟨f, ρ, S, m, s, ?_⟩)
      rw [hr]
      intro v H1 m1 ex s1 r1
      rw [X'.K]
      cases r1 with
      | tup h1 hm ha rl => exact ⟨_, rfl, ⟨_, sqT_of h1⟩, q _ H1 m1 ex s1 (it_tup h1 hm ha rl)⟩
      | ktp h1 _ rl => exact ⟨_, rfl, ⟨_, sqT_k h1⟩, q _ H1 m1 ex s1 (it_ktp h1 rl)⟩
    | str ss =>
      refine .inr (.inr ⟨f, ρ, S, m, s, ?_⟩)
      rw [hr]
      intro v H1 m1 ex s1 r1
      obtain ⟨e1, o1⟩ := r1.inv_str
      exact ⟨_, e1, q _ H1 m1 ex s1 (it_str o1)⟩
    | _ => exact q.elim
theorem i_enm {p : PySem.Pos} (X' : XC G F k c X W) (hg : gloB c.sc ("enumerate" : Str) = true) (ht : isTupT t = true) (hc : chkE c false e y = true) (h : SE G F X W false e y) : PI X t (.Call (.Name ("enumerate" : Str) p) [y] [] pos) (GI G F W (.enm e)) := by
  cases t with
  | Tuple elts kk tp =>
    refine imp_pi (L2.pi_enum (X'.gl hg) (X'.wd.free _ (by decide)) (a_one hc h) (by rw [star_cons (chk_ns hc)]; rfl)) fun σ H R' ⟨f, ρ, S, m, s, q⟩ => ?_
    simp only [evIt] at q
    refine ⟨f, ρ, S, m, s, ?_⟩
    have e1 : evs F (.cons e .nil) ρ S = (ev F e ρ S).bind fun x S => .ok [x] S := rfl
    rw [e1]
    cases hr : ev F e ρ S with
    | no => rw [hr] at q; exact q
    | xc x1 S1 => rw [hr] at q; exact q
    | ok d1 S1 =>
      rw [hr] at q
      intro v H1 m1 ex s1 r1
      cases r1 with
      | cons r1 r2 =>
        cases r2
        rw [X'.K]
        cases d1 with
        | lst ds =>
          obtain ⟨p, vs, rfl, h1, hm, ha, rl⟩ := r1.inv_lst
          exact ⟨p, vs, rfl, sqL_of h1, q _ H1 m1 ex s1 (it_enm h1 hm ha rl)⟩
        | _ => exact q.elim
  | _ => cases ht
theorem i_zip {p : PySem.Pos} (X' : XC G F k c X W) (hg : gloB c.sc ("zip" : Str) = true) (ht : isTupT t = true) (hc : chkE c false a y = true) (hc2 : chkE c false b z = true) (h1 : SE G F X W false a y) (h2 : SE G F X W false b z) : PI X t (.Call (.Name ("zip" : Str) p) [y, z] [] pos) (GI G F W (.zip a b)) := by
  cases t with
  | Tuple elts kk tp =>
    refine imp_pi (RZ.pi_zipA (X'.gl hg) (X'.wd.free _ (by decide)) (a_two hc hc2 h1 h2) (star_cons (chk_ns hc)) (plain2 hc2)) fun σ H R' ⟨f, ρ, S, m, s, q⟩ => ?_
    simp only [evIt] at q
    refine ⟨f, ρ, S, m, s, ?_⟩
    have e1 : evs F (.cons a (.cons b .nil)) ρ S = (ev F a ρ S).bind fun x S => (ev F b ρ S).bind fun y S => .ok [x, y] S := by
      simp only [evs, R.bind_assoc, R.bind_ok]
    rw [e1]
    cases hr : ev F a ρ S with
    | no => rw [hr] at q; exact q
    | xc x1 S1 => rw [hr] at q; exact q
    | ok d1 S1 =>
      rw [hr] at q
      simp only [R.bind_ok] at q ⊢
      cases hr2 : ev F b ρ S1 with
      | no => rw [hr2] at q; exact q
      | xc x1 S1 => rw [hr2] at q; exact q
      | ok d2 S2 =>
        rw [hr2] at q
        intro v H1 m1 ex s1 r1
        cases r1 with
        | cons r1 r2 =>
          cases r2 with
          | cons r2 r3 =>
            cases r3
            rw [X'.K]
            cases d1 with
            | lst ds =>
              cases d2 with
              | lst es =>
                obtain ⟨p, vs, rfl, h1, hm, ha, rl⟩ := r1.inv_lst
                obtain ⟨p', vs', rfl, h1', hm', ha', rl'⟩ := r2.inv_lst
                exact ⟨p, p', vs, vs', rfl, .inl ⟨sqL_of h1, sqL_of h1', q _ H1 m1 ex s1 (it_zip h1 hm ha rl h1' hm' ha' rl')⟩⟩
              | _ => exact q.elim
            | tup ds =>
              cases d2 with
              | tup es =>
                obtain ⟨p, q', vs, ws, rfl, rfl, h1, h2, it⟩ := it_zipT r1 r2
                exact ⟨p, q', vs, ws, rfl, .inr ⟨h1, h2, q _ H1 m1 ex s1 it⟩⟩
              | _ => exact q.elim
            | _ => cases d2 <;> exact q.elim
  | _ => cases ht
theorem i_rng {p : PySem.Pos} (X' : XC G F k c X W) (hg : gloB c.sc ("range" : Str) = true) (hc : chkE c lo e y = true) (h : SE G F X W lo e y) : PI X t (.Call (.Name ("range" : Str) p) [y] [] pos) (GI G F W (.rng e)) := by
  refine imp_pi (L2.pi_range1 (X'.gl hg) (X'.wd.free _ (by decide)) (a_one hc h) (by rw [star_cons (chk_ns hc)]; rfl)) fun σ H R' ⟨f, ρ, S, m, s, q⟩ => ?_
  simp only [evIt] at q
  refine ⟨f, ρ, S, m, s, ?_⟩
  have e1 : evs F (.cons e .nil) ρ S = (ev F e ρ S).bind fun x S => .ok [x] S := rfl
  rw [e1]
  cases hr : ev F e ρ S with
  | no => rw [hr] at q; exact q
  | xc x1 S1 => rw [hr] at q; exact q
  | ok d1 S1 =>
    rw [hr] at q
    intro v H1 m1 ex s1 r1
    cases r1 with
    | cons r1 r2 =>
      cases r2
      cases d1 with
      | int j =>
        cases r1
        simp only [R.bind_ok] at q
        cases hd : rngD 0 j with
        | none => rw [hd] at q; exact q.elim
        | some ds =>
          rw [hd] at q
          have hb : -(2 ^ 62) ≤ j ∧ j < 2 ^ 62 := by
            unfold rngD at hd
            split at hd
            · rename_i hb; omega
            · cases hd
          have it := it_rng (G := G) (A := Av f σ ρ) (m := m1) (H := H1) hd
          rw [Int.sub_zero] at it
          exact ⟨j, rfl, hb.1, hb.2, q _ H1 m1 ex s1 it⟩
      | _ => exact q.elim
theorem i_rng2 {p : PySem.Pos} (X' : XC G F k c X W) (hg : gloB c.sc ("range" : Str) = true) (hc : chkE c lo a y = true) (hc2 : chkE c lo b z = true) (h1 : SE G F X W lo a y) (h2 : SE G F X W lo b z) : PI X t (.Call (.Name ("range" : Str) p) [y, z] [] pos) (GI G F W (.rng2 a b)) := by
  refine imp_pi (L2.pi_range2 (X'.gl hg) (X'.wd.free _ (by decide)) (a_two hc hc2 h1 h2) (by rw [star_cons (chk_ns hc), star_cons (chk_ns hc2)]; rfl) (by rw [star_cons (chk_ns hc2)]; rfl)) fun σ H R' ⟨f, ρ, S, m, s, q⟩ => ?_
  simp only [evIt] at q
  refine ⟨f, ρ, S, m, s, ?_⟩
  have e1 : evs F (.cons a (.cons b .nil)) ρ S = (ev F a ρ S).bind fun x S => (ev F b ρ S).bind fun y S => .ok [x, y] S := by
    simp only [evs, R.bind_assoc, R.bind_ok]
  rw [e1]
  cases hr : ev F a ρ S with
  | no => rw [hr] at q; exact q
  | xc x1 S1 => rw [hr] at q; exact q
  | ok d1 S1 =>
    rw [hr] at q
    simp only [R.bind_ok] at q ⊢
    cases hr2 : ev F b ρ S1 with
    | no => rw [hr2] at q; exact q
    | xc x1 S1 => rw [hr2] at q; exact q
    | ok d2 S2 =>
      rw [hr2] at q
      simp only [R.bind_ok] at q
      intro v H1 m1 ex s1 r1
      cases r1 with
      | cons r1 r2 =>
        cases r2 with
        | cons r2 r3 =>
          cases r3
          cases d1 with
          | int i =>
            cases d2 with
            | int j =>
              cases r1
              cases r2
              have q : PX G f σ ρ W (fun m' H' J ds => ItR G (Av f σ ρ) m' H' J ds) m H (asL (rngD i j) S2) R' := q
              cases hd : rngD i j with
              | none => rw [hd] at q; exact q.elim
              | some ds =>
                rw [hd] at q
                have hb : -(2 ^ 62) ≤ i ∧ i < 2 ^ 62 ∧ -(2 ^ 62) ≤ j ∧ j < 2 ^ 62 := by
                  unfold rngD at hd
                  split at hd
                  · rename_i hb; omega
                  · cases hd
                exact ⟨i, j, rfl, hb, q _ H1 m1 ex s1 (it_rng hd)⟩
            | _ => exact q.elim
          | _ => cases d2 <;> exact q.elim
/-! ### comprehensions -/
/-- no exception leaves -/
abbrev W0 : WX := fun _ _ _ _ => False
theorem XC.inB (X' : XC G F k c X W) (cm : c.calm = true) {scope : Scope} (s : PySem.Shared) (H : Hp) (C : Addr) (cl : List (Str × Addr)) (fp : List Addr) : XC G F k (c.inB scope) (X.blk s H scope (PySem.compEnvC scope cl C X.env) fp) W0 where
  wd := X'.wd
  K := X'.K
  N := X'.N
  nd := X'.nd
  sc := by
    show L2.relS scope X.env.scope = L2.relS scope c.sc
    rw [X'.sc]
  fn := rfl
  calm := X'.calm
  un := X'.un
  room := X'.room
  tk := L2.takes0
  err := fun h => absurd (cm.symm.trans h) (by decide)
theorem turns_cons {g : D → Sto → R (Option D)} {d : D} {ds r : List D} {S S' : Sto} (h : turns g (d :: ds) S = .ok r S') : ∃ o S1 r1, g d S = .ok o S1 ∧ turns g ds S1 = .ok r1 S' ∧ r = o.toList ++ r1 := by
  simp only [turns] at h
  cases hg : g d S with
  | no => rw [hg] at h; cases h
  | xc _ _ => rw [hg] at h; cases h
  | ok o S1 =>
    rw [hg] at h
    simp only [R.bind_ok] at h
    cases ht : turns g ds S1 with
    | no => rw [ht] at h; cases h
    | xc _ _ => rw [ht] at h; cases h
    | ok r1 S2 =>
      rw [ht] at h
      simp only [R.bind_ok] at h
      cases h
      exact ⟨o, S1, r1, rfl, ht, rfl⟩
theorem bindT_len : ∀ {tg : Tg} {d : D} {ρ ρ' : Env}, bindT tg d ρ = some ρ' → ρ'.length = ρ.length := by
  intro tg
  induction tg with
  | name i => intro d ρ ρ' e; cases e; simp
  | pair a b ia ib =>
    intro d ρ ρ' e
    obtain ⟨x, y, ρ1, _, e1, e2⟩ := bind_pair e
    rw [ib e2, ia e1]
  | trip a b c ia ib ic =>
    intro d ρ ρ' e
    obtain ⟨x, y, z, ρ1, ρ2, _, e1, e2, e3⟩ := bind_trip e
    rw [ic e3, ib e2, ia e1]
  | quad a b c d ia ib ic id =>
    intro d0 ρ ρ' e
    obtain ⟨x, y, z, u, ρ1, ρ2, ρ3, _, e1, e2, e3, e4⟩ := bind_quad e
    rw [id e4, ic e3, ib e2, ia e1]
/-- one turn of a comprehension -/
def stepC (F : Fns) (e : Ex) (tg : Tg) (o : Option Ex) (ρB : Env) : D → Sto → R (Option D) := fun d S => match bindT tg d ρB with
  | some ρ1 => (match o with
    | none => (ev F e ρ1 S).bind fun x S => .ok (some x) S
    | some z => (ev F z ρ1 S).bind fun x S => (asB x S).bind fun t S => if t = true then (ev F e ρ1 S).bind fun x S => .ok (some x) S else .ok none S)
  | none => .no
/-- the test's reading -/
def gtC (G : Gx) (F : Fns) (o : Option Ex) : TT := match o with
  | none => L2.tYes
  | some z => GT G F W0 false z
structure Pv (G : Gx) (F : Fns) (g : D → Sto → R (Option D)) (fB : Fr) (σB : L2.St) (ρB : Env) (Dl : Addr) (ds r : List D) (S' : Sto) (i : Nat) (H : Hp) : Prop where
  ex : ∃ accV accD rest S m, H Dl = some (.lst accV) ∧ Dl ∉ m ∧ RL G.K m fB.A0 H accV accD ∧ St G fB σB H ρB S m ∧ turns g (ds.drop i) S = .ok rest S' ∧ r = accD ++ rest
theorem no_av {f : Fr} {σ : L2.St} {ρ : Env} (hn : NoOwn ρ) {a : Addr} (h : Av f σ ρ a) : f.A0 a := h.elim (fun z => z) fun z => (hn.own z).elim
/-- what a comprehension leads to -/
def Fin3 (G : Gx) (F : Fns) (f : Fr) (σ : L2.St) (ρ : Env) (e : Ex) (tg : Tg) (o : Option Ex) (vs : List Nat) (m1 : List Addr) (H1 : Hp) (ds : List D) (S1 : Sto) (Q : VK) : Prop := match turns (stepC F e tg o (wipe (noOwn ρ) vs)) ds S1 with
  | .ok r S' => r.length ≤ lim ∧ ∀ p Hn mn accV, Ext m1 H1 mn Hn → St G f σ Hn ρ S' mn → Hn p = some (.lst accV) → p ∉ mn → H1 p = none → ¬ Av f σ ρ p → RL G.K mn (fun a => Av f σ ρ a ∨ a = p) Hn accV r → SR G mn (fun a => Av f σ ρ a ∨ a = p) S' Hn → Q (.ref p) Hn
  | _ => False
theorem comp_read0 {it : It} {tg : Tg} {o : Option Ex} {vs : List Nat} (hs : ∀ i ∈ slots tg, i ∈ vs) {σ : L2.St} {H : Hp} {Q : VK}
    (h : ∃ f ρ S m, St G f σ H ρ S m ∧ PX G f σ ρ W (fun m' H' J ds => ItR G (Av f σ ρ) m' H' J ds) m H (evIt F it ρ S) fun J H1 => ∃ ds S1 m1, Ext m H m1 H1 ∧ St G f σ H1 ρ S1 m1 ∧ ItR G (Av f σ ρ) m1 H1 J ds ∧ Fin3 G F f σ ρ e tg o vs m1 H1 ds S1 Q) :
    L2.tLc (GI G F W it) (GTg G tg) (gtC G F o) (GE G F W0 false e) vs σ H Q := by
  obtain ⟨f, ρ, S, m, s, q⟩ := h
  refine ⟨f, ρ, S, m, s, q.imp fun J H1 ⟨ds, S1, m1, e1, s1, r1, q1⟩ => ?_⟩
  intro Dl hD
  unfold Fin3 at q1
  cases ht : turns (stepC F e tg o (wipe (noOwn ρ) vs)) ds S1 with
  | no => rw [ht] at q1; exact q1.elim
  | xc _ _ => rw [ht] at q1; exact q1.elim
  | ok r S' =>
    rw [ht] at q1
    obtain ⟨hlim, q1⟩ := q1
    · obtain ⟨B, Y, wk, hB, hY⟩ := r1
      have nB : NoOwn (wipe (noOwn ρ) vs) := (noOwn_no ρ).wipe vs
      -- the block's frame
      let fB : Fr := { A0 := fun a => Av f σ ρ a ∨ a = Dl, P := fun _ _ => False, m0 := m1, H0 := H1, mp := m1 }
      have hnD : ¬ Av f σ ρ Dl := fun z => s1.liveA z hD
      have hmD : Dl ∉ m1 := fun z => s1.sr.live z hD
      have sB0 : St G fB (L2.wipe σ vs) (upd H1 Dl (.lst [])) (wipe (noOwn ρ) vs) S1 m1 := by
        have t1 := (s1.noOwn.wiped vs).enter nB
        have t2 := t1.away (H' := upd H1 Dl (.lst [])) (B := fun a => Av f σ ρ a ∨ a = Dl) (fun a h => h.imp (fun z => z) fun z => by rw [z]; exact hD) (fun a h => ?_) nB (Ext.new hD) (fun a ha => L2.upd_ne fun z => hmD (z ▸ ha))
        · exact t2
        · rcases h with h | h
          · exact (Ext.new (m := m1) hD).live a (s1.liveA h)
          · rw [h, upd_at]; exact fun z => nomatch z
      refine L2.lc_it wk (Pv G F (stepC F e tg o (wipe (noOwn ρ) vs)) fB (L2.wipe σ vs) (wipe (noOwn ρ) vs) Dl ds r S') ?_ ?_ ?_ ?_
      · exact ⟨[], [], r, S1, m1, upd_at, hmD, .nil, sB0, ht, rfl⟩
      · rintro i Hc _ ⟨accV, accD, rest, Si, mi, h1, h2, h3, h4, h5, h6⟩ a o' hb
        obtain ⟨k1, k2, k3⟩ := hB a o' hb
        exact h4.ent.keep a o' k2 k1
      · rintro i x Hc Hc' hi ⟨accV, accD, rest, Si, mi, h1, h2, h3, h4, h5, h6⟩ hy
        have hd : ds.drop i = ds[i] :: ds.drop (i + 1) := List.drop_eq_getElem_cons hi
        rw [hd] at h5
        obtain ⟨oo, S2, rest', g1, g2, g3⟩ := turns_cons h5
        have kp : Kp m1 (Av f σ ρ) H1 mi fB.A0 Hc := by
          obtain ⟨l, hl, _⟩ := h4.ent.pre
          refine ⟨⟨l, hl⟩, fun a o' k1 k2 k3 => ⟨h4.ent.keep a o' k1 k3, h4.ent.out k1 (is_some k3), fun z => z.elim k2 fun z => ?_⟩⟩
          rw [z, hD] at k3
          cases k3
        have held : Held mi fB.A0 Hc := ⟨fun a h => h4.live a h, fun a h => h4.sr.live h⟩
        obtain ⟨nw, rx⟩ := hY i ds[i] (List.getElem?_eq_getElem hi) mi fB.A0 Hc x Hc' kp held hy
        have h4' : St G fB (L2.wipe σ vs) Hc' (wipe (noOwn ρ) vs) Si mi := by
          rcases nw with rfl | ⟨p, o', hp, rfl⟩
          · exact h4
          · exact h4.new hp
        unfold stepC at g1
        cases hbt : bindT tg ds[i] (wipe (noOwn ρ) vs) with
        | none => rw [hbt] at g1; cases g1
        | some ρ1 =>
          rw [hbt] at g1
          have n1 : NoOwn ρ1 := nB.bind hbt
          refine ⟨fB, _, Si, mi, ds[i], ρ1, h4', rx.less fun a z => no_av nB z, hbt, fun σ2 s2 o2 w2 => ⟨?_, ?_⟩⟩
          · rw [w2 vs hs]
            have ww : ∀ (us : List Nat) (τ : L2.St), (∀ u ∈ us, u ∈ vs) → L2.wipe (L2.wipe τ us) vs = L2.wipe τ vs := by
              intro us
              induction us with
              | nil => intro τ _; rfl
              | cons u us ih =>
                intro τ hu
                show L2.wipe ((L2.wipe τ us).set u none) vs = _
                rw [wipe_set (hu u (List.mem_cons_self ..)), ih τ fun v hv => hu v (List.mem_cons_of_mem _ hv)]
            exact ww vs σ fun _ z => z
          · -- what an item that is taken leads to
            have fin : ∀ (S3 : Sto) (H3 : Hp) (m3 : List Addr), Ext mi Hc' m3 H3 → St G fB σ2 H3 ρ1 S3 m3 → (∃ xd, ev F e ρ1 S3 = .ok xd S2 ∧ oo = some xd) →
                GE G F W0 false e σ2 H3 fun y H4 => ∃ acc, H4 Dl = some (.lst acc) ∧ acc.length < sizeLine ∧ Pv G F (stepC F e tg o (wipe (noOwn ρ) vs)) fB (L2.wipe σ vs) (wipe (noOwn ρ) vs) Dl ds r S' (i + 1) (upd H4 Dl (.lst (acc ++ [y]))) := by
              rintro S3 H3 m3 x3 s3 ⟨xd, ev3, rfl⟩
              refine ⟨fB, ρ1, S3, m3, s3, ?_⟩
              rw [ev3]
              intro y H4 m4 x4 s4 r4
              have x34 := x3.trans x4
              have xall := (nw.ext (m := mi)).trans x34
              have hD4 : H4 Dl = some (.lst accV) := xall.keep Dl _ h2 h1
              have hm4 : Dl ∉ m4 := xall.out h2 (is_some h1)
              refine ⟨accV, hD4, ?_, accV ++ [y], accD ++ [xd], rest', S2, m4, upd_at, hm4, ?_, ?_, g2, ?_⟩
              · have l1 := h3.length
                have l2 : r.length = accD.length + (1 + rest'.length) := by rw [h6, g3]; simp [Nat.add_comm]
                have l3 := lim_size hlim
                omega
              · have ra : RL G.K m4 fB.A0 H4 (accV ++ [y]) (accD ++ [xd]) := (h3.ext xall).append (.cons (r4.less fun a z => (.inl z : Av fB σ2 ρ1 a)) .nil)
                exact ra.kept (kp_poke (.inr rfl))
              · have sB4 : St G fB (L2.wipe σ vs) H4 (wipe (noOwn ρ) vs) S2 m4 := h4.ext xall (s4.sr.less fun a z => .inl (no_av nB z))
                exact sB4.poke (.inr rfl) hm4 nB (fun _ z => z) hD
              · rw [h6, g3, List.append_assoc]
                rfl
            cases o with
            | none =>
              simp only at g1
              cases hev : ev F e ρ1 Si with
              | no => rw [hev] at g1; cases g1
              | xc _ _ => rw [hev] at g1; cases g1
              | ok xd S3 =>
                rw [hev] at g1
                simp only [R.bind_ok] at g1
                cases g1
                dsimp only [gtC, L2.tYes]
                rw [if_pos rfl]
                exact fin Si Hc' mi (Ext.refl _ _) s2 ⟨xd, hev, rfl⟩
            | some z =>
              simp only at g1
              refine ⟨fB, ρ1, Si, mi, s2, ?_⟩
              cases hez : ev F z ρ1 Si with
              | no => rw [hez] at g1; cases g1
              | xc _ _ => rw [hez] at g1; cases g1
              | ok zd S3 =>
                rw [hez] at g1
                cases zd with
                | bl t =>
                  simp only [R.bind_ok, asB_bl] at g1 ⊢
                  intro b H3 m3 x3 s3 rb3
                  have rb3 : b = t := rb3
                  subst rb3
                  cases b with
                  | true =>
                    rw [if_pos rfl] at g1 ⊢
                    cases hev : ev F e ρ1 S3 with
                    | no => rw [hev] at g1; cases g1
                    | xc _ _ => rw [hev] at g1; cases g1
                    | ok xd S4 =>
                      rw [hev] at g1
                      simp only [R.bind_ok] at g1
                      cases g1
                      exact fin S3 H3 m3 x3 s3 ⟨xd, hev, rfl⟩
                  | false =>
                    rw [if_neg Bool.false_ne_true] at g1 ⊢
                    cases g1
                    have xall := (nw.ext (m := mi)).trans x3
                    exact ⟨accV, accD, rest', _, m3, xall.keep Dl _ h2 h1, xall.out h2 (is_some h1), h3.ext xall, h4.ext xall (s3.sr.less fun a z => Or.inl (no_av nB z)), g2, by rw [h6, g3]; rfl⟩
                | _ => cases g1
      · rintro Hn ⟨accV, accD, rest, Sn, mn, h1, h2, h3, h4, h5, h6⟩
        rw [List.drop_length] at h5
        simp only [turns] at h5
        cases h5
        rw [List.append_nil] at h6
        subst h6
        exact q1 _ Hn mn _ h4.ent (s1.ext h4.ent (h4.sr.less fun a z => .inl (.inl z))) h1 h2 hD hnD h3 (h4.sr.less fun a z => .inl z)
theorem fin3_of {it : It} {tg : Tg} {o : Option Ex} {vs : List Nat} {σ : L2.St} {H : Hp} {Q : VK} {m : List Addr} {f : Fr} {ρ : Env} {ds : List D} {S : Sto}
    (q : PX G f σ ρ W (rv G (Bv lo f σ ρ)) m H ((calmly (turns (stepC F e tg o (wipe (noOwn ρ) vs)) ds S)).bind fun r S => (small r S).bind fun r S => .ok (.lst r) S) Q) : Fin3 G F f σ ρ e tg o vs m H ds S Q := by
  unfold Fin3
  cases ht : turns (stepC F e tg o (wipe (noOwn ρ) vs)) ds S with
  | no => rw [ht] at q; exact q
  | xc _ _ => rw [ht] at q; exact q
  | ok r S' =>
    rw [ht] at q
    simp only [calmly_ok, R.bind_ok] at q
    unfold small at q
    split at q
    · rename_i hl
      simp only [R.bind_ok] at q
      exact ⟨hl, fun p Hn mn accV e1 s1 h1 h2 h3 h4 h5 h6 => q _ Hn mn e1 s1 (.lst h1 h2 (fun z => h4 z.av) (h5.less fun a z => .inl z.av))⟩
    · exact q.elim
theorem comp_read {it : It} {tg : Tg} {o : Option Ex} {vs : List Nat} (hs : ∀ i ∈ slots tg, i ∈ vs) {σ : L2.St} {H : Hp} {Q : VK}
    (h : ∃ f ρ S m, St G f σ H ρ S m ∧ PX G f σ ρ W (rv G (Bv lo f σ ρ)) m H ((evIt F it ρ S).bind fun ds S => (calmly (turns (stepC F e tg o (wipe (noOwn ρ) vs)) ds S)).bind fun r S => (small r S).bind fun r S => .ok (.lst r) S) Q) :
    L2.tLc (GI G F W it) (GTg G tg) (gtC G F o) (GE G F W0 false e) vs σ H Q := by
  obtain ⟨f, ρ, S, m, s, q⟩ := h
  exact comp_read0 hs ⟨f, ρ, S, m, s, (PX.bind q).imp fun J H1 ⟨ds, S1, m1, e1, s1, r1, q1⟩ => ⟨ds, S1, m1, e1, s1, r1, fin3_of (it := it) q1⟩⟩
theorem blk_ok {scope : Scope} {vs : List Nat} (X' : XC G F k c X W) (h : blkB c scope vs = true) : L2.BlkOk X.N X.env.scope scope (ownB c.N vs) ∧ (ownB c.N vs).map (·.2) = vs := by
  obtain ⟨h1, h2⟩ := ba h
  rw [X'.N, X'.sc]
  exact ⟨L2.blkOk_by h1, of_decide_eq_true h2⟩
theorem noSet_fold {env : PySem.Env} (h : noSet x = true) : ∀ v, PySem.foldedSetIterable x env v = pure v := by
  intro v
  cases x <;> first | rfl | cases h
theorem chkI_set {it : It} (h : chkI c lo it t x = true) : noSet x = true := by
  cases it with
  | seq e => exact (ba h).1
  | _ => cases x <;> first | rfl | cases h
theorem slots_in {tg : Tg} {vs : List Nat} (h : (slots tg).all (fun k => vs.contains k) = true) : ∀ i ∈ slots tg, i ∈ vs := fun i hi => by simpa using List.all_eq_true.mp h i hi
theorem i_comp {tg : Tg} {it : It} {vs : List Nat} (hs : ∀ i ∈ slots tg, i ∈ vs) {σ : L2.St} {H : Hp} {Q : VK} (h : GE G F W lo (.comp e tg it vs) σ H Q) : L2.tLc (GI G F W it) (GTg G tg) L2.tYes (GE G F W0 false e) vs σ H Q :=
  comp_read (o := none) hs h
theorem i_compIf {tg : Tg} {it : It} {vs : List Nat} (hs : ∀ i ∈ slots tg, i ∈ vs) {σ : L2.St} {H : Hp} {Q : VK} (h : GE G F W lo (.compIf e tg it d vs) σ H Q) : L2.tLc (GI G F W it) (GTg G tg) (GT G F W0 false d) (GE G F W0 false e) vs σ H Q :=
  comp_read (o := some d) hs h
/-! ### all expressions -/
theorem s_comp {tg : Tg} {it : It} {vs : List Nat} {scope : Scope} (X' : XC G F k c X W) (cm : c.calm = true) (hi : PI X t x (GI G F W it)) (hx : noSet x = true) (hb : blkB c scope vs = true) (ht : chkT (c.inB scope) tg t = true) (hs : (slots tg).all (fun k => vs.contains k) = true)
    (he : ∀ (X1 : Cx), XC G F k (c.inB scope) X1 W0 → SE G F X1 W0 false e y) : SE G F X W lo (.comp e tg it vs) (.ListComp y [⟨t, x, [], 0⟩] scope pos) := by
  refine .plain ?_ (fun _ => rfl) (fun _ _ _ z => nomatch z)
  obtain ⟨b1, b2⟩ := blk_ok X' hb
  refine imp_pe (L2.pe_lc (own := ownB c.N vs) (X'.calm cm) (by rw [X'.N]; exact X'.nd) hi b1 (fun s H C cl fp => g_tg (X'.inB cm s H C cl fp) tg t ht) (fun _ _ _ _ _ => L2.pts_nil) (fun s H C cl fp => (he _ (X'.inB cm s H C cl fp)).v) (noSet_fold hx)) fun σ H Q q => ?_
  rw [b2]
  exact i_comp (slots_in hs) q
theorem s_compIf {tg : Tg} {it : It} {vs : List Nat} {scope : Scope} (X' : XC G F k c X W) (cm : c.calm = true) (hi : PI X t x (GI G F W it)) (hx : noSet x = true) (hb : blkB c scope vs = true) (ht : chkT (c.inB scope) tg t = true) (hs : (slots tg).all (fun k => vs.contains k) = true)
    (he : ∀ (X1 : Cx), XC G F k (c.inB scope) X1 W0 → SE G F X1 W0 false e y) (hd : ∀ (X1 : Cx), XC G F k (c.inB scope) X1 W0 → SE G F X1 W0 false d z) : SE G F X W lo (.compIf e tg it d vs) (.ListComp y [⟨t, x, [z], 0⟩] scope pos) := by
  refine .plain ?_ (fun _ => rfl) (fun _ _ _ z => nomatch z)
  obtain ⟨b1, b2⟩ := blk_ok X' hb
  refine imp_pe (L2.pe_lc (own := ownB c.N vs) (X'.calm cm) (by rw [X'.N]; exact X'.nd) hi b1 (fun s H C cl fp => g_tg (X'.inB cm s H C cl fp) tg t ht) (fun s H C cl fp => L2.pts_one (hd _ (X'.inB cm s H C cl fp)).t) (fun s H C cl fp => (he _ (X'.inB cm s H C cl fp)).v) (noSet_fold hx)) fun σ H Q q => ?_
  rw [b2]
  exact i_compIf (slots_in hs) q
end
end Mi
/-! Mini: all expressions. -/
namespace Mi
open PySem (Str Addr Value Expr Stmt Scope PyData sizeLine Const NameKind Operator CmpOp Comprehension)
open L2 (V Hp HO Key upd Rd SqL SqT Cx VK R2 OpR CallR MtR IxR SlR PE PT PW PA PI PG TE TT TA TI TG WX Takes Room)
mutual
theorem sndE {G : Gx} {F : Fns} {k : Nat} : ∀ (e : Ex) (c : CC) (lo : Bool) (X : Cx) (W : WX) (x : Expr), XC G F k c X W → chkE c lo e x = true → SE G F X W lo e x
  | .var i => fun c lo X W x X' h => match x, h with
    | .Name n p, h => .plain (s_var X' h) (fun _ => rfl) (fun _ _ _ z => nomatch z)
  | .own i => fun c lo X W x X' h => match x, h with
    | .Name n p, h => .plain (s_own X' h) (fun _ => rfl) (fun _ _ _ z => nomatch z)
  | .cst d => fun c lo X W x X' h => match x, h with
    | .Constant v j p, h => .plain (s_cst h) (fun _ => rfl) (fun _ _ _ z => nomatch z)
  | .glo i => fun c lo X W x X' h => match x, h with
    | .Name n p, h => .plain (s_glo X' h) (fun _ => rfl) (fun _ _ _ z => nomatch z)
  | .op o a b => fun c lo X W x X' h => match x, h with
    | .BinOp x o' y p, h => by
      obtain ⟨h1, h2⟩ := ba h
      obtain ⟨h2, h3⟩ := ba h2
      exact s_bin X' h1 (sndE a c lo X W x X' h2) (sndE b c lo X W y X' h3)
    | .Compare x [o'] [y] p, h => by
      obtain ⟨h1, h2⟩ := ba h
      obtain ⟨h2, h3⟩ := ba h2
      obtain ⟨h3, h4⟩ := ba h3
      exact s_cmp X' h1 (sndE a c lo X W x X' h2) (sndE b c lo X W y X' h3) h4
  | .chain o o' a b d => fun c lo X W x X' h => match x, h with
    | .Compare x [p, p'] [y, z] q, h => by
      obtain ⟨h1, h⟩ := ba h
      obtain ⟨h2, h⟩ := ba h
      obtain ⟨h3, h⟩ := ba h
      obtain ⟨h4, h⟩ := ba h
      obtain ⟨h5, h⟩ := ba h
      obtain ⟨h6, h7⟩ := ba h
      exact s_chain X' h1 h2 (sndE a c lo X W x X' h3) (sndE b c lo X W y X' h4) (sndE d c lo X W z X' h5) h6 h7
  | .neg a => fun c lo X W x X' h => match x, h with
    | .UnaryOp .USub x p, h => s_neg (sndE a c lo X W x X' h)
  | .nt a => fun c lo X W x X' h => match x, h with
    | .UnaryOp .Not x p, h => s_not (sndE a c lo X W x X' h)
  | .and a b => fun c lo X W x X' h => match x, h with
    | .BoolOp .And [x, y] p, h => by
      obtain ⟨h1, h2⟩ := ba h
      exact s_and2 (sndE a c lo X W x X' h1) (sndE b c lo X W y X' h2)
    | .BoolOp .And (x :: y :: z :: r) p, h => by
      obtain ⟨h1, h2⟩ := ba h
      exact s_and3 (sndE a c lo X W x X' h1) (sndE b c lo X W _ X' h2)
  | .or a b => fun c lo X W x X' h => match x, h with
    | .BoolOp .Or [x, y] p, h => by
      obtain ⟨h1, h2⟩ := ba h
      exact s_or2 (sndE a c lo X W x X' h1) (sndE b c lo X W y X' h2)
    | .BoolOp .Or (x :: y :: z :: r) p, h => by
      obtain ⟨h1, h2⟩ := ba h
      exact s_or3 (sndE a c lo X W x X' h1) (sndE b c lo X W _ X' h2)
  | .ite t a b => fun c lo X W x X' h => match x, h with
    | .IfExp z x y p, h => by
      obtain ⟨h1, h2⟩ := ba h
      obtain ⟨h2, h3⟩ := ba h2
      exact s_ite (sndE t c lo X W z X' h1) (sndE a c lo X W x X' h2) (sndE b c lo X W y X' h3)
  | .lst es => fun c lo X W x X' h => match x, h with
    | .List xs p, h => s_lst (sndA es c lo X W xs X' h)
  | .tup es => fun c lo X W x X' h => match x, h with
    | .Tuple xs j p, h => s_tup (sndA es c lo X W xs X' h)
  | .idx a i => fun c lo X W x X' h => match x, h with
    | .Subscript x y p, h => by
      obtain ⟨h1, h2⟩ := ba h
      exact s_idx X' h2 (sndE a c lo X W x X' h1) (sndE i c lo X W y X' h2)
  | .slc a none none => fun c lo X W x X' h => match x, h with
    | .Subscript x (.Slice none none none q) p, h => s_slc0 X' (sndE a c lo X W x X' h)
  | .slc a (some l) none => fun c lo X W x X' h => match x, h with
    | .Subscript x (.Slice (some y) none none q) p, h => by
      obtain ⟨h1, h2⟩ := ba h
      exact s_slcL X' (sndE a c lo X W x X' h1) (sndE l c lo X W y X' h2)
  | .slc a none (some l) => fun c lo X W x X' h => match x, h with
    | .Subscript x (.Slice none (some y) none q) p, h => by
      obtain ⟨h1, h2⟩ := ba h
      exact s_slcH X' (sndE a c lo X W x X' h1) (sndE l c lo X W y X' h2)
  | .slc a (some l) (some u) => fun c lo X W x X' h => match x, h with
    | .Subscript x (.Slice (some y) (some z) none q) p, h => by
      obtain ⟨h1, h2⟩ := ba h
      obtain ⟨h2, h3⟩ := ba h2
      exact s_slcLH X' (sndE a c lo X W x X' h1) (sndE l c lo X W y X' h2) (sndE u c lo X W z X' h3)
  | .rev a => fun c lo X W x X' h => match x, h with
    | .Subscript x (.Slice none none (some (.UnaryOp .USub (.Constant (.int 1) j p1) p2)) p3) p, h => s_rev X' (sndE a c lo X W x X' h)
  | .f1 f a => fun c lo X W x X' h => match x, h with
    | .Call (.Name x q) [y] [] p, h => by
      obtain ⟨cm, h⟩ := ba h
      obtain ⟨h1, h2⟩ := ba h
      obtain ⟨h2, h3⟩ := ba h2
      exact s_f1 X' cm (of_decide_eq_true h1) h2 h3 (sndE a c lo X W y X' h3)
  | .f2 f a b => fun c lo X W x X' h => match x, h with
    | .Call (.Name x q) [y, z] [] p, h => by
      obtain ⟨cm, h⟩ := ba h
      obtain ⟨h1, h2⟩ := ba h
      obtain ⟨h2, h3⟩ := ba h2
      obtain ⟨h3, h4⟩ := ba h3
      exact s_f2 X' cm (of_decide_eq_true h1) h2 h3 h4 (sndE a c lo X W y X' h3) (sndE b c lo X W z X' h4)
  | .meth f a b => fun c lo X W x X' h => match x, h with
    | .Call (.Attribute x n ap) [y] [] p, h => by
      obtain ⟨h1, h2⟩ := ba h
      obtain ⟨h2, h3⟩ := ba h2
      obtain ⟨h3, h4⟩ := ba h3
      obtain ⟨h4, h5⟩ := ba h4
      exact s_meth X' (of_decide_eq_true h1) h2 h3 h5 (sndE a c lo X W x X' h4) (sndE b c lo X W y X' h5)
  | .lmeth f a b => fun c lo X W x X' h => match x, h with
    | .Call (.Attribute x n ap) [y] [] p, h => by
      obtain ⟨h1, h2⟩ := ba h
      obtain ⟨h2, h3⟩ := ba h2
      obtain ⟨h3, h4⟩ := ba h3
      obtain ⟨h4, h5⟩ := ba h4
      exact s_lmeth X' (of_decide_eq_true h1) h2 h3 h5 (sndE a c lo X W x X' h4) (sndE b c lo X W y X' h5)
  | .nrng a b d => fun c lo X W x X' h => match x, h with
    | .Compare x [.NotIn] [.Call (.Name n q) [y, z] [] p2] p, h => by
      obtain ⟨h1, h2⟩ := ba h
      obtain ⟨h2, h3⟩ := ba h2
      obtain ⟨h3, h4⟩ := ba h3
      obtain ⟨h4, h5⟩ := ba h4
      have e1 := of_decide_eq_true h1
      subst e1
      exact s_nrng X' h2 h4 h5 (sndE a c lo X W x X' h3) (sndE b c lo X W y X' h4) (sndE d c lo X W z X' h5)
  | .lzip a b => fun c lo X W x X' h => match x, h with
    | .Call (.Name x q) [.Call (.Name n q2) [y, z] [] p2] [] p, h => by
      obtain ⟨cm, h⟩ := ba h
      obtain ⟨h1, h⟩ := ba h
      obtain ⟨h2, h⟩ := ba h
      obtain ⟨h3, h⟩ := ba h
      obtain ⟨h4, h⟩ := ba h
      obtain ⟨h5, h6⟩ := ba h
      have e1 := of_decide_eq_true h1
      have e2 := of_decide_eq_true h3
      subst e1 e2
      exact s_lzip X' cm h2 h4 h5 h6 (sndE a c lo X W y X' h5) (sndE b c lo X W z X' h6)
  | .isi a t => fun c lo X W x X' h => match x, h with
    | .Call (.Name x q) [y, .Name z q2] [] p, h => by
      obtain ⟨h1, h2⟩ := ba h
      obtain ⟨h2, h3⟩ := ba h2
      obtain ⟨h3, h4⟩ := ba h3
      obtain ⟨h4, h5⟩ := ba h4
      have e := of_decide_eq_true h1
      subst e
      exact s_isi X' h2 (of_decide_eq_true h3) h4 h5 (sndE a c lo X W y X' h5)
  | .isE i C => fun c lo X W x X' h => match x, h with
    | .Call (.Name x q) [.Name y q1, .Name z q2] [] p, h => by
      obtain ⟨cm, h⟩ := ba h
      obtain ⟨h1, h⟩ := ba h
      obtain ⟨h2, h⟩ := ba h
      obtain ⟨h3, h⟩ := ba h
      obtain ⟨h4, h⟩ := ba h
      obtain ⟨h5, h⟩ := ba h
      obtain ⟨h6, h⟩ := ba h
      obtain ⟨h7, h8⟩ := ba h
      have e := of_decide_eq_true h1
      subst e
      exact s_isE X' (by simpa using cm) h2 (of_decide_eq_true h3) h4 h5 (of_decide_eq_true h6) h7 h8
  | .call f es => fun c lo X W x X' h => match x, h with
    | .Call (.Name x q) (y :: ys) [] p, h => by
      obtain ⟨cm, h⟩ := ba h
      obtain ⟨h1, h2⟩ := ba h
      obtain ⟨h2, h3⟩ := ba h2
      obtain ⟨h3, h4⟩ := ba h3
      exact s_call X' cm (of_decide_eq_true h1) h2 h3 h4 (sndA es c false X W (y :: ys) X' h4)
  | .callO f es => fun c lo X W x X' h => match x, h with
    | .Call (.Name x q) (y :: ys) [] p, h => by
      obtain ⟨hl, h⟩ := ba h
      obtain ⟨cm, h⟩ := ba h
      obtain ⟨h1, h2⟩ := ba h
      obtain ⟨h2, h3⟩ := ba h2
      obtain ⟨h3, h4⟩ := ba h3
      subst hl
      exact s_callO X' cm (of_decide_eq_true h1) h2 h3 h4 (sndA es c true X W (y :: ys) X' h4)
  | .comp e tg it vs => fun c lo X W x X' h => match x, h with
    | .ListComp y [⟨t, i, [], 0⟩] scope p, h => by
      obtain ⟨cm, h⟩ := ba h
      obtain ⟨h1, h2⟩ := ba h
      obtain ⟨h2, h3⟩ := ba h2
      obtain ⟨h3, h4⟩ := ba h3
      obtain ⟨h4, h5⟩ := ba h4
      exact s_comp X' cm (sndI it c lo X W t i X' h1) (chkI_set h1) h2 h3 h4 fun X1 X1' => sndE e _ false X1 W0 y X1' h5
  | .compIf e tg it z vs => fun c lo X W x X' h => match x, h with
    | .ListComp y [⟨t, i, [u], 0⟩] scope p, h => by
      obtain ⟨cm, h⟩ := ba h
      obtain ⟨h1, h2⟩ := ba h
      obtain ⟨h2, h3⟩ := ba h2
      obtain ⟨h3, h4⟩ := ba h3
      obtain ⟨h4, h5⟩ := ba h4
      obtain ⟨h5, h6⟩ := ba h5
      exact s_compIf X' cm (sndI it c lo X W t i X' h1) (chkI_set h1) h2 h3 h4 (fun X1 X1' => sndE e _ false X1 W0 y X1' h6) (fun X1 X1' => sndE z _ false X1 W0 u X1' h5)
theorem sndA {G : Gx} {F : Fns} {k : Nat} : ∀ (es : Exs) (c : CC) (lo : Bool) (X : Cx) (W : WX) (xs : List Expr), XC G F k c X W → chkA c lo es xs = true → PA X xs (GA G F W lo es)
  | .nil => fun c lo X W xs X' h => match xs, h with
    | [], h => s_nil
  | .cons e es => fun c lo X W xs X' h => match xs, h with
    | x :: xs, h => by
      obtain ⟨h1, h2⟩ := ba h
      exact s_cons h1 (sndE e c lo X W x X' h1) (sndA es c lo X W xs X' h2)
theorem sndI {G : Gx} {F : Fns} {k : Nat} : ∀ (it : It) (c : CC) (lo : Bool) (X : Cx) (W : WX) (t x : Expr), XC G F k c X W → chkI c lo it t x = true → PI X t x (GI G F W it)
  | .seq e => fun c lo X W t x X' h => match x, h with
    | x, h => by
      obtain ⟨h1, h2⟩ := ba h
      exact i_seq X' (sndE e c false X W x X' h2)
  | .enm e => fun c lo X W t x X' h => match x, h with
    | .Call (.Name x q) [y] [] p, h => by
      obtain ⟨h1, h2⟩ := ba h
      obtain ⟨h2, h3⟩ := ba h2
      obtain ⟨h3, h4⟩ := ba h3
      have e1 := of_decide_eq_true h1
      subst e1
      exact i_enm X' h2 h3 h4 (sndE e c false X W y X' h4)
  | .zip a b => fun c lo X W t x X' h => match x, h with
    | .Call (.Name x q) [y, z] [] p, h => by
      obtain ⟨h1, h2⟩ := ba h
      obtain ⟨h2, h3⟩ := ba h2
      obtain ⟨h3, h4⟩ := ba h3
      obtain ⟨h4, h5⟩ := ba h4
      have e1 := of_decide_eq_true h1
      subst e1
      exact i_zip X' h2 h3 h4 h5 (sndE a c false X W y X' h4) (sndE b c false X W z X' h5)
  | .rng e => fun c lo X W t x X' h => match x, h with
    | .Call (.Name x q) [y] [] p, h => by
      obtain ⟨h1, h2⟩ := ba h
      obtain ⟨h2, h3⟩ := ba h2
      have e1 := of_decide_eq_true h1
      subst e1
      exact i_rng X' h2 h3 (sndE e c lo X W y X' h3)
  | .rng2 a b => fun c lo X W t x X' h => match x, h with
    | .Call (.Name x q) [y, z] [] p, h => by
      obtain ⟨h1, h2⟩ := ba h
      obtain ⟨h2, h3⟩ := ba h2
      obtain ⟨h3, h4⟩ := ba h3
      have e1 := of_decide_eq_true h1
      subst e1
      exact i_rng2 X' h2 h3 h4 (sndE a c lo X W y X' h3) (sndE b c lo X W z X' h4)
end
end Mi
/-! Mini: statements. -/
namespace Mi
open PySem (Str Addr Value Expr Stmt Scope PyData sizeLine Const NameKind Operator CmpOp Comprehension)
open L2 (V Hp HO Key upd Rd SqL SqT Cx VK R2 OpR CallR MtR IxR SlR PE PT PW PA PI PG PS PSs TE TT TA TI TG TS WX Takes Room Ends)
/-- what comes of a statement -/
def SX (G : Gx) (f : Fr) (W : WX) (Z : Ends) (r : R Ct) : Prop := match r with
  | .ok (.nx ρ) S => ∀ σ H m, St G f σ H ρ S m → Z.nx σ H
  | .ok (.rt d) S => ∀ v H m, Ext f.m0 f.H0 m H → SR G m f.A0 S H → RV G.K m f.A0 H v d → Z.rt v H
  | .ok (.rtF d) S => ∀ v H m, Ext f.m0 f.H0 m H → FrR G m f.A0 f.H0 H S v d → Z.rt v H
  | .ok (.br ρ) S => ∀ σ H m, St G f σ H ρ S m → Z.bk σ H
  | .ok (.xr x ρ) S => ∀ c dd σ H m, St G f σ H ρ S m → ExR G m (Av f σ ρ) H x c dd → W c dd σ H
  | _ => False
def GS (G : Gx) (W : WX) (run : Env → Sto → R Ct) : TS := fun Z σ H => ∃ f ρ S m, St G f σ H ρ S m ∧ SX G f W Z (run ρ S)
theorem imp_ps {X : Cx} {s : Stmt} {t t' : TS} (h : PS X s t) (hi : ∀ Z σ H, t' Z σ H → t Z σ H) : PS X s t' := ⟨fun pins s σ H D I q => h.run pins s σ H D I (hi D σ H q)⟩
theorem imp_pss {X : Cx} {s : List Stmt} {t t' : TS} (h : PSs X s t) (hi : ∀ Z σ H, t' Z σ H → t Z σ H) : PSs X s t' := ⟨fun pins s σ H D I q => h.run pins s σ H D I (hi D σ H q)⟩
section
variable {α β : Type} {G : Gx} {f : Fr} {σ : L2.St} {ρ : Env} {W : WX} {rel : List Addr → Hp → β → α → Prop} {m : List Addr} {H : Hp} {S : Sto} {r : R α} {Z : Ends}
/-- an expression, then the rest -/
theorem SX.px {kk : α → Sto → R Ct} (h : SX G f W Z (r.then ρ kk)) : PX G f σ ρ W rel m H r fun v H1 => ∃ d S1 m1, Ext m H m1 H1 ∧ St G f σ H1 ρ S1 m1 ∧ rel m1 H1 v d ∧ SX G f W Z (kk d S1) := by
  cases r with
  | ok d S1 => exact fun v H1 m1 e s r => ⟨d, S1, m1, e, s, r, h⟩
  | xc x S1 => exact fun c dd H1 m1 e s r => h c dd σ H1 m1 s r
  | no => exact h
end
/-! ### lists in the making -/
section
variable {G : Gx} {f : Fr} {σ : L2.St} {ρ : Env} {m : List Addr} {H : Hp} {S : Sto} {i : Nat} {ds : List D} {p : Addr} {vs : List V}
theorem set_len {α : Type} {l : List α} {i : Nat} {x : α} (h : ¬ i < l.length) : l.set i x = l := by
  rw [List.set_eq_of_length_le (by omega)]
/-- a new list, held by a slot alone -/
theorem St.newOwn (s : St G f σ H ρ S m) (hp : H p = none) : St G f (σ.set i (some (.ref p))) (upd H p (.lst [])) (ρ.set i (.own [])) S m := by
  by_cases hi : i < ρ.length
  · have hiσ : i < σ.length := by rw [s.len]; exact hi
    have ow : ∀ {a : Addr}, Own (σ.set i (some (.ref p))) (ρ.set i (.own [])) a → a = p ∨ Own σ ρ a := by
      rintro a ⟨j, es, h1, h2⟩
      by_cases e : i = j
      · subst e
        rw [List.getElem?_set_self hiσ] at h2
        cases h2
        exact .inl rfl
      · rw [List.getElem?_set_ne e] at h1 h2
        exact .inr ⟨j, es, h1, h2⟩
    have av : ∀ a, Av f (σ.set i (some (.ref p))) (ρ.set i (.own [])) a → Av f σ ρ a ∨ H a = none := fun a h => by
      rcases h with h | h
      · exact .inl (.inl h)
      · rcases ow h with h | h
        · exact .inr (by rw [h]; exact hp)
        · exact .inl (.inr h)
    have hpm : p ∉ m := fun z => s.sr.live z hp
    have hpA : ¬ f.A0 p := fun z => s.live p z hp
    have nown : ∀ {j : Nat} {es : List D}, ρ[j]? = some (Slot.own es) → σ[j]? ≠ some (some (V.ref p)) := fun {j es} h1 h2 => by
      obtain ⟨q, vs, e1, _, _, e4, _⟩ := s.own j es h1
      rw [h2] at e1
      cases e1
      rw [hp] at e4
      cases e4
    refine ⟨s.sr.grow (Ext.new hp) av (fun a ha => L2.upd_ne fun z => hpm (z ▸ ha)), fun j d h => ?_, fun j es h => ?_, fun j l es es' q h1 h2 h3 h4 => ?_, fun a o h => ?_, fun a h => (Ext.new (m := m) hp).live a (s.live a h), s.ent.trans (Ext.new hp), s.mpre, fun a h => ?_, by simpa using s.len, err_set (fun z => nomatch z) s.err⟩
    · have hj : i ≠ j := fun e => by
        subst e
        rw [List.getElem?_set_self hi] at h; cases h
      rw [List.getElem?_set_ne hj] at h
      obtain ⟨v, h1, h2⟩ := s.val j d h
      exact ⟨v, by rw [List.getElem?_set_ne hj]; exact h1, h2.mono (Ext.new hp) av⟩
    · by_cases hj : i = j
      · subst hj
        rw [List.getElem?_set_self hi] at h
        cases h
        exact ⟨p, [], by rw [List.getElem?_set_self hiσ], hpm, hpA, upd_at, .nil⟩
      · rw [List.getElem?_set_ne hj] at h
        obtain ⟨q, vs, h1, h2, h3, h4, h5⟩ := s.own j es h
        exact ⟨q, vs, by rw [List.getElem?_set_ne hj]; exact h1, h2, h3, (Ext.new hp).keep q _ h2 h4, h5.mono (Ext.new hp) av⟩
    · by_cases hj : i = j
      · by_cases hl : i = l
        · exact hj.symm.trans hl
        · exfalso
          subst hj
          rw [List.getElem?_set_self hiσ] at h3
          cases h3
          rw [List.getElem?_set_ne hl] at h2 h4
          exact nown h2 h4
      · by_cases hl : i = l
        · exfalso
          subst hl
          rw [List.getElem?_set_self hiσ] at h4
          cases h4
          rw [List.getElem?_set_ne hj] at h1 h3
          exact nown h1 h3
        · rw [List.getElem?_set_ne hj] at h1 h3
          rw [List.getElem?_set_ne hl] at h2 h4
          exact s.uniq j l es es' q h1 h2 h3 h4
    · obtain ⟨h1, h2, h3⟩ := s.prot a o h
      refine ⟨(Ext.new hp).keep a o h2 h1, h2, fun z => ?_⟩
      rcases ow z with z | z
      · rw [z, hp] at h1; cases h1
      · exact h3 z
    · rcases ow h with h | h
      · rw [h]; exact s.ent.back hp
      · exact s.fresh a h
  · rw [set_len hi, set_len (by rw [s.len]; exact hi)]
    exact s.new hp
/-- .. grows -/
theorem St.regrown (s : St G f σ H ρ S m) {us : List V} {zs : List D} (ho : ρ[i]? = some (Slot.own ds)) (hσ : σ[i]? = some (some (V.ref p))) (hH : H p = some (.lst vs)) (r' : RL G.K m (Av f σ ρ) H us zs) :
    St G f σ (upd H p (.lst us)) (ρ.set i (.own zs)) S m := by
  have hi : i < ρ.length := (List.getElem?_eq_some_iff.mp ho).1
  obtain ⟨q, vs', e1, hpm, hpA, e4, rl⟩ := s.own i ds ho
  rw [hσ] at e1
  cases e1
  rw [hH] at e4
  cases e4
  have op : Own σ ρ p := ⟨i, ds, ho, hσ⟩
  have ow : ∀ {a : Addr}, Own σ (ρ.set i (.own zs)) a ↔ Own σ ρ a := by
    intro a
    constructor
    · rintro ⟨j, es, h1, h2⟩
      by_cases e : i = j
      · subst e; exact ⟨i, ds, ho, h2⟩
      · rw [List.getElem?_set_ne e] at h1; exact ⟨j, es, h1, h2⟩
    · rintro ⟨j, es, h1, h2⟩
      by_cases e : i = j
      · subst e; exact ⟨i, _, List.getElem?_set_self hi, h2⟩
      · exact ⟨j, es, by rw [List.getElem?_set_ne e]; exact h1, h2⟩
  have av : ∀ a, Av f σ (ρ.set i (.own zs)) a → Av f σ ρ a := fun a h => h.imp (fun z => z) ow.mp
  have kp : Kp m (Av f σ ρ) H m (Av f σ (ρ.set i (.own zs))) (upd H p (.lst us)) := by
    obtain ⟨_, k⟩ := kp_poke (m := m) (H := H) (o := .lst (us)) (A := Av f σ ρ) (p := p) (.inr op)
    exact ⟨⟨[], by simp⟩, fun a o h1 h2 h3 => let ⟨a1, a2, a3⟩ := k a o h1 h2 h3; ⟨a1, a2, fun z => a3 (av a z)⟩⟩
  refine ⟨(s.sr.poke (.inr op) hpm).less av, fun j d' h => ?_, fun j es h => ?_, fun j l es es' q h1 h2 h3 h4 => ?_, fun a o h => ?_, fun a h => ?_, s.ent.poke (s.fresh p op), s.mpre, fun a h => s.fresh a (ow.mp h), by simpa using s.len, err_set' (fun z => nomatch z) s.err⟩
  · have hj : i ≠ j := fun e => by
      subst e
      rw [List.getElem?_set_self hi] at h; cases h
    rw [List.getElem?_set_ne hj] at h
    obtain ⟨u, h1, h2⟩ := s.val j d' h
    exact ⟨u, h1, h2.kept kp⟩
  · by_cases hj : i = j
    · subst hj
      rw [List.getElem?_set_self hi] at h
      cases h
      exact ⟨p, us, hσ, hpm, hpA, upd_at, r'.kept kp⟩
    · rw [List.getElem?_set_ne hj] at h
      obtain ⟨q, ws, h1, h2, h3, h4, h5⟩ := s.own j es h
      have hq : q ≠ p := fun z => hj (s.uniq i j ds es p ho h hσ (by rw [h1, z]))
      exact ⟨q, ws, h1, h2, h3, by rw [L2.upd_ne hq]; exact h4, h5.kept kp⟩
  · have g1 : ∃ e, ρ[j]? = some (Slot.own e) := by
      by_cases hj : i = j
      · subst hj; exact ⟨ds, ho⟩
      · rw [List.getElem?_set_ne hj] at h1; exact ⟨es, h1⟩
    have g2 : ∃ e, ρ[l]? = some (Slot.own e) := by
      by_cases hl : i = l
      · subst hl; exact ⟨ds, ho⟩
      · rw [List.getElem?_set_ne hl] at h2; exact ⟨es', h2⟩
    obtain ⟨a1, g1⟩ := g1
    obtain ⟨a2, g2⟩ := g2
    exact s.uniq j l a1 a2 q g1 g2 h3 h4
  · obtain ⟨h1, h2, h3⟩ := s.prot a o h
    refine ⟨?_, h2, fun z => h3 (ow.mp z)⟩
    rw [L2.upd_ne (a := p) (b := a) (by intro z; rw [z] at h3; exact h3 op)]
    exact h1
  · by_cases q : a = p
    · rw [q, upd_at]; exact fun z => nomatch z
    · rw [L2.upd_ne q]; exact s.live a h
theorem St.grown (s : St G f σ H ρ S m) {v : V} {d : D} (ho : ρ[i]? = some (Slot.own ds)) (hσ : σ[i]? = some (some (V.ref p))) (hH : H p = some (.lst vs)) (r : RV G.K m (Av f σ ρ) H v d) :
    St G f σ (upd H p (.lst (vs ++ [v]))) (ρ.set i (.own (ds ++ [d]))) S m := by
  obtain ⟨q, vs', e1, hpm, hpA, e4, rl⟩ := s.own i ds ho
  rw [hσ] at e1
  cases e1
  rw [hH] at e4
  cases e4
  exact s.regrown ho hσ hH (rl.append (.cons r .nil))
/-- a list of its own comes into a slot -/
theorem St.ownF {m1 : List Addr} {H1 : Hp} {S1 : Sto} {v : V} {d : D} (s : St G f σ H ρ S m) (e : Ext m H m1 H1) (fr : FrR G m1 (Av f σ ρ) H H1 S1 v d) : ∃ ds, d = .lst ds ∧ St G f (σ.set i (some v)) H1 (ρ.set i (.own ds)) S1 m1 := by
  have fsr := fr.sr
  obtain ⟨p, vs, ds, rfl, rfl, hH, hpm, hpA, hp, rl, sr⟩ := fr
  refine ⟨ds, rfl, ?_⟩
  have hnA : ¬ f.A0 p := fun z => hpA (.inl z)
  by_cases hi : i < ρ.length
  · have hiσ : i < σ.length := by rw [s.len]; exact hi
    have ow : ∀ {a : Addr}, Own (σ.set i (some (.ref p))) (ρ.set i (.own ds)) a → a = p ∨ Own σ ρ a := by
      rintro a ⟨j, es, h1, h2⟩
      by_cases e : i = j
      · subst e
        rw [List.getElem?_set_self hiσ] at h2
        cases h2
        exact .inl rfl
      · rw [List.getElem?_set_ne e] at h1 h2
        exact .inr ⟨j, es, h1, h2⟩
    have av0 : ∀ a, Av f (σ.set i (some (.ref p))) (ρ.set i (.own ds)) a → Av f σ ρ a ∨ a = p := fun a h => by
      rcases h with h | h
      · exact .inl (.inl h)
      · rcases ow h with h | h
        · exact .inr h
        · exact .inl (.inr h)
    have av : ∀ a, Av f (σ.set i (some (.ref p))) (ρ.set i (.own ds)) a → Av f σ ρ a ∨ H a = none := fun a h => (av0 a h).imp (fun z => z) fun z => by rw [z]; exact hp
    have nown : ∀ {j : Nat} {es : List D}, ρ[j]? = some (Slot.own es) → σ[j]? ≠ some (some (V.ref p)) := fun {j es} h1 h2 => by
      obtain ⟨q, vs, e1, _, _, e4, _⟩ := s.own j es h1
      rw [h2] at e1
      cases e1
      rw [hp] at e4
      cases e4
    refine ⟨sr.less av0, fun j d h => ?_, fun j es h => ?_, fun j l es es' q h1 h2 h3 h4 => ?_, fun a o h => ?_, fun a h => e.live a (s.live a h), s.ent.trans e, ?_, fun a h => ?_, by simpa using s.len, err_set (fun z => nomatch z) s.err⟩
    · have hj : i ≠ j := fun e => by
        subst e
        rw [List.getElem?_set_self hi] at h; cases h
      rw [List.getElem?_set_ne hj] at h
      obtain ⟨v, h1, h2⟩ := s.val j d h
      exact ⟨v, by rw [List.getElem?_set_ne hj]; exact h1, h2.mono e av⟩
    · by_cases hj : i = j
      · subst hj
        rw [List.getElem?_set_self hi] at h
        cases h
        exact ⟨p, vs, by rw [List.getElem?_set_self hiσ], hpm, hnA, hH, rl.less av0⟩
      · rw [List.getElem?_set_ne hj] at h
        obtain ⟨q, vs, h1, h2, h3, h4, h5⟩ := s.own j es h
        exact ⟨q, vs, by rw [List.getElem?_set_ne hj]; exact h1, e.out h2 (is_some h4), h3, e.keep q _ h2 h4, h5.mono e av⟩
    · by_cases hj : i = j
      · by_cases hl : i = l
        · exact hj.symm.trans hl
        · exfalso
          subst hj
          rw [List.getElem?_set_self hiσ] at h3
          cases h3
          rw [List.getElem?_set_ne hl] at h2 h4
          exact nown h2 h4
      · by_cases hl : i = l
        · exfalso
          subst hl
          rw [List.getElem?_set_self hiσ] at h4
          cases h4
          rw [List.getElem?_set_ne hj] at h1 h3
          exact nown h1 h3
        · rw [List.getElem?_set_ne hj] at h1 h3
          rw [List.getElem?_set_ne hl] at h2 h4
          exact s.uniq j l es es' q h1 h2 h3 h4
    · obtain ⟨h1, h2, h3⟩ := s.prot a o h
      refine ⟨e.keep a o h2 h1, e.out h2 (is_some h1), fun z => ?_⟩
      rcases ow z with z | z
      · rw [z, hp] at h1; cases h1
      · exact h3 z
    · obtain ⟨l, hl, _⟩ := e.pre
      obtain ⟨l', hl'⟩ := s.mpre
      exact ⟨l' ++ l, by rw [hl, hl']; simp⟩
    · rcases ow h with h | h
      · rw [h]; exact s.ent.back hp
      · exact s.fresh a h
  · rw [set_len hi, set_len (by rw [s.len]; exact hi)]
    exact s.ext e fsr
/-- a new list that holds what is known -/
theorem St.laid {v : V} {d : D} (s : St G f σ H ρ S m) (hp : H p = none) (rl : RL G.K m (Av f σ ρ) H vs ds) : FrR G m (Av f σ ρ) H (upd H p (.lst vs)) S (.ref p) (.lst ds) := by
  have hpm : p ∉ m := fun z => s.sr.live z hp
  have hA : ∀ a, Av f σ ρ a ∨ a = p → Av f σ ρ a ∨ H a = none := fun a z => z.imp (fun z => z) fun z => by rw [z]; exact hp
  exact ⟨p, vs, ds, rfl, rfl, upd_at, hpm, fun z => s.liveA z hp, hp, rl.mono (Ext.new hp) hA, s.sr.grow (Ext.new hp) hA (fun a ha => L2.upd_ne fun z => hpm (z ▸ ha))⟩
/-- .. is let go -/
theorem St.freeze (s : St G f σ H ρ S m) (ho : ρ[i]? = some (Slot.own ds)) : St G f σ H (ρ.set i (.val (.lst ds))) S m := by
  have hi : i < ρ.length := (List.getElem?_eq_some_iff.mp ho).1
  obtain ⟨p, vs, hσ, hpm, hpA, hH, rl⟩ := s.own i ds ho
  have ow : ∀ {a : Addr}, Own σ (ρ.set i (.val (.lst ds))) a → Own σ ρ a ∧ a ≠ p := by
    rintro a ⟨j, es, h1, h2⟩
    by_cases e : i = j
    · subst e
      rw [List.getElem?_set_self hi] at h1; cases h1
    · rw [List.getElem?_set_ne e] at h1
      exact ⟨⟨j, es, h1, h2⟩, fun z => e (s.uniq i j ds es p ho h1 hσ (by rw [h2, z]))⟩
  have av : ∀ a, Av f σ (ρ.set i (.val (.lst ds))) a → Av f σ ρ a := fun a h => h.imp (fun z => z) fun z => (ow z).1
  refine ⟨s.sr.less av, fun j d' h => ?_, fun j es h => ?_, fun j l es es' q h1 h2 h3 h4 => ?_, fun a o h => ?_, s.live, s.ent, s.mpre, fun a h => s.fresh a (ow h).1, by simpa using s.len, err_set' (fun z => nomatch z) s.err⟩
  · by_cases hj : i = j
    · subst hj
      rw [List.getElem?_set_self hi] at h
      cases h
      exact ⟨.ref p, hσ, .lst hH hpm (fun z => z.elim hpA fun z => (ow z).2 rfl) (rl.less av)⟩
    · rw [List.getElem?_set_ne hj] at h
      obtain ⟨u, h1, h2⟩ := s.val j d' h
      exact ⟨u, h1, h2.less av⟩
  · have hj : i ≠ j := fun e => by
      subst e
      rw [List.getElem?_set_self hi] at h; cases h
    rw [List.getElem?_set_ne hj] at h
    obtain ⟨q, ws, h1, h2, h3, h4, h5⟩ := s.own j es h
    exact ⟨q, ws, h1, h2, h3, h4, h5.less av⟩
  · have n1 : i ≠ j := fun e => by
      subst e
      rw [List.getElem?_set_self hi] at h1; cases h1
    have n2 : i ≠ l := fun e => by
      subst e
      rw [List.getElem?_set_self hi] at h2; cases h2
    rw [List.getElem?_set_ne n1] at h1
    rw [List.getElem?_set_ne n2] at h2
    exact s.uniq j l es es' q h1 h2 h3 h4
  · obtain ⟨h1, h2, h3⟩ := s.prot a o h
    exact ⟨h1, h2, fun z => h3 (ow z).1⟩
end
def isStar : Expr → Bool
  | .Starred .. => true
  | _ => false
theorem noStar {a : Expr} (h : ∀ y p, a ≠ Expr.Starred y p) : isStar a = false := by
  cases a <;> first | rfl | exact absurd rfl (h _ _)
theorem swp_ok {env : PySem.Env} {x y : Str} {px py pt : PySem.Pos} {kt k2 pt2} {a b : Expr} (hk : env.blockKind = PySem.ScopeKind.function) (hx : env.kindOf x = some .local) (hy : env.kindOf y = some .local) (hl : (py.line == px.line) = true) (hne : x ≠ y)
    (ha : ∀ y p, a ≠ Expr.Starred y p) (hb : ∀ y p, b ≠ Expr.Starred y p) (h1 : [a, b].all (PySem.foldedForSure 8) = false) (h2 : [a, b].all (PySem.constantsAlone 8) = false) :
    PySem.swappedStores [Expr.Tuple [.Name x px, .Name y py] kt pt] (Expr.Tuple [a, b] k2 pt2) env = pure (some [x, y]) := by
  have hl' : py.line = px.line := by simpa using hl
  have e1 : [a, b].any (fun | .Starred .. => true | _ => false) = false := by
    show (isStar a || (isStar b || false)) = false
    rw [noStar ha, noStar hb]; rfl
  have en : (x :: [y]).eraseDups = [x, y] := by
    rw [List.eraseDups_cons]
    have hyx : ¬ (y = x) := fun z => hne z.symm
    have : (List.filter (fun b => !b == x) [y]) = [y] := by
      rw [List.filter_cons_of_pos (by simp [hyx]), List.filter_nil]
    rw [this, List.eraseDups_cons]
    simp
  unfold PySem.swappedStores
  simp only [List.length_cons, List.length_nil, Nat.zero_add, Nat.reduceAdd, hk, e1, h1, h2, List.head?_cons, Option.map_some, Option.getD_some, List.filterMap_cons, List.filterMap_nil, hx, hy, Expr.pos, hl']
  have hb1 : (some NameKind.local == some NameKind.local && px.line == px.line) = true := by simp
  rw [if_neg (by decide)]
  refine (if_neg ?_).trans ?_
  · intro z
    exact Bool.noConfusion (e1.symm.trans z)
  simp only [hb1, if_true]
  rw [if_neg (by rw [en]; simp), if_neg (by decide), if_neg (by decide)]
/-- the context of statements -/
structure XS (G : Gx) (F : Fns) (k : Nat) (c : CC) (X : Cx) (W : WX) : Prop where
  xc : XC G F k c X W
  po : PySem.PassesOwn (PySem.model X.prog X.w) X.A X.env X.xe
  stk : X.stack = X.env :: X.outer
  frm : X.env.frame = some X.env.locals
section
variable {G : Gx} {F : Fns} {k : Nat} {c : CC} {X : Cx} {W : WX} {e : Ex} {x t : Expr} {pos : PySem.Pos}
theorem comp_swaps {tg : Option Expr} {l : Nat} {env : PySem.Env} (h : isComp x = false) : PySem.swapsWith x tg l env = pure false := by
  cases x <;> first | rfl | cases h
theorem i_asg {tg : Tg} {Z : Ends} {σ : L2.St} {H : Hp} (h : GS G W (fun ρ S => ex F (.asg tg e) ρ S) Z σ H) : L2.tAsg (GE G F W false e) (GTg G tg) Z σ H := by
  obtain ⟨f, ρ, S, m, s, q⟩ := h
  simp only [ex] at q
  refine ⟨f, ρ, S, m, s, (SX.px q).imp fun v H1 ⟨d, S1, m1, e1, s1, r1, q1⟩ => ?_⟩
  cases hb : bindT tg d ρ with
  | none => rw [hb] at q1; exact q1.elim
  | some ρ' =>
    rw [hb] at q1
    exact ⟨f, ρ, S1, m1, d, ρ', s1, r1, hb, fun σ' s' _ _ => q1 σ' H1 m1 s'⟩
theorem ps_asgG {tg : Tg} (X' : XS G F k c X W) (h1 : chkT c tg t = true) (h2 : SE G F X W false e x) (hs : PySem.swapsWithSole [t] x pos.line X.env = pure false) (hw : PySem.swappedStores [t] x X.env = pure none) : PS X (.Assign [t] x pos) (GS G W fun ρ S => ex F (.asg tg e) ρ S) :=
  imp_ps (L2.ps_asg h2.v (g_tg X'.xc tg t h1) hs hw (by rw [asg_cons h1]; rfl)) fun _ _ _ q => i_asg q
theorem i_if {a b : Env → Sto → R Ct} {Z : Ends} {σ : L2.St} {H : Hp} (h : GS G W (fun ρ S => ((ev F e ρ S).bind asB).then ρ fun t S => if t = true then a ρ S else b ρ S) Z σ H) : L2.tIfS (GT G F W true e) (GS G W a) (GS G W b) Z σ H := by
  obtain ⟨f, ρ, S, m, s, q⟩ := h
  refine ⟨f, ρ, S, m, s, (SX.px (rel := rb) q).imp fun v H1 ⟨d, S1, m1, e1, s1, r1, q1⟩ => ?_⟩
  have r1 : v = d := r1
  subst r1
  cases v with
  | true => rw [if_pos rfl] at q1 ⊢; exact ⟨f, ρ, S1, m1, s1, q1⟩
  | false => rw [if_neg Bool.false_ne_true] at q1 ⊢; exact ⟨f, ρ, S1, m1, s1, q1⟩
theorem i_ret {Z : Ends} {σ : L2.St} {H : Hp} (h : GS G W (fun ρ S => ex F (.ret e) ρ S) Z σ H) : L2.tRet (GE G F W true e) Z σ H := by
  obtain ⟨f, ρ, S, m, s, q⟩ := h
  simp only [ex] at q
  exact ⟨f, ρ, S, m, s, (SX.px q).imp fun v H1 ⟨d, S1, m1, e1, s1, r1, q1⟩ => q1 v H1 m1 s1.ent (s1.sr.less fun a z => .inl z) r1⟩
theorem i_expr {Z : Ends} {σ : L2.St} {H : Hp} (h : GS G W (fun ρ S => ex F (.expr e) ρ S) Z σ H) : L2.tDrop (GE G F W true e) Z σ H := by
  obtain ⟨f, ρ, S, m, s, q⟩ := h
  simp only [ex] at q
  exact ⟨f, ρ, S, m, s, (SX.px (rel := rv G (Bv true f σ ρ)) q).imp fun v H1 ⟨d, S1, m1, e1, s1, r1, q1⟩ => q1 σ H1 m1 s1⟩
theorem i_next {a b : Env → Sto → R Ct} {Z : Ends} {σ : L2.St} {H : Hp} (h : GS G W (fun ρ S => (a ρ S).next b) Z σ H) : L2.tSeq (GS G W a) (GS G W b) Z σ H := by
  obtain ⟨f, ρ, S, m, s, q⟩ := h
  refine ⟨f, ρ, S, m, s, ?_⟩
  have q : SX G f W Z ((a ρ S).next b) := q
  cases hr : a ρ S with
  | no => rw [hr] at q; exact q
  | xc x S1 => rw [hr] at q; exact q
  | ok ct S1 =>
    rw [hr] at q
    cases ct with
    | nx ρ1 => exact fun σ1 H1 m1 s1 => ⟨f, ρ1, S1, m1, s1, q⟩
    | rt d => exact q
    | rtF d => exact q
    | br ρ1 => exact q
    | xr x ρ1 => exact q
/-! ### loops -/
theorem St.up {f : Fr} {σ : L2.St} {H : Hp} {ρ : Env} {S : Sto} {m : List Addr} (s : St G f σ H ρ S m) : St G { f with P := fun a o => H a = some o ∧ a ∉ m ∧ ¬ Own σ ρ a, mp := m } σ H ρ S m :=
  ⟨s.sr, s.val, s.own, s.uniq, fun _ _ h => h, s.live, s.ent, ⟨[], by simp⟩, s.fresh, s.len, s.err⟩
theorem St.down {f : Fr} {P : Addr → HO → Prop} {mp : List Addr} {σ : L2.St} {H : Hp} {ρ : Env} {S : Sto} {m : List Addr} (hP : ∀ a o, f.P a o → P a o) (hm : ∃ l, mp = f.mp ++ l) (s : St G { f with P := P, mp := mp } σ H ρ S m) : St G f σ H ρ S m := by
  refine ⟨s.sr, s.val, s.own, s.uniq, fun a o h => s.prot a o (hP a o h), s.live, s.ent, ?_, s.fresh, s.len, s.err⟩
  obtain ⟨l, rfl⟩ := hm
  obtain ⟨l', h⟩ := s.mpre
  exact ⟨l ++ l', by rw [h]; simp⟩
theorem i_each {tg : Tg} {it : It} {b : Env → Sto → R Ct} {Z : Ends} {σ : L2.St} {H : Hp} (h : GS G W (fun ρ S => (evIt F it ρ S).then ρ fun ds S => loop (fun d ρ S => bound (bindT tg d ρ) fun ρ => b ρ S) ds ρ S) Z σ H) :
    L2.tFor (GI G F W it) (GTg G tg) (GS G W b) Z σ H := by
  obtain ⟨f, ρ, S, m, s, q⟩ := h
  refine ⟨f, ρ, S, m, s, (SX.px q).imp fun J H1 ⟨ds, S1, m1, e1, s1, r1, q1⟩ => ?_⟩
  obtain ⟨B, Y, wk, hB, hY⟩ := r1
  let PL : Addr → HO → Prop := fun a o => H1 a = some o ∧ a ∉ m1 ∧ ¬ Own σ ρ a
  let fL : Fr := { f with P := PL, mp := m1 }
  have dn : ∀ {σ' : L2.St} {H' : Hp} {ρ' : Env} {S' : Sto} {m' : List Addr}, St G fL σ' H' ρ' S' m' → St G f σ' H' ρ' S' m' := fun s' => St.down (fun a o h => s1.prot a o h) s1.mpre s'
  refine L2.for_it wk (fun i σc Hc => ∃ ρc Sc mc, St G fL σc Hc ρc Sc mc ∧ SX G f W Z (loop (fun d ρ S => bound (bindT tg d ρ) fun ρ => b ρ S) (ds.drop i) ρc Sc)) ⟨ρ, S1, m1, s1.up, q1⟩ ?_ ?_ ?_
  · rintro i σc Hc _ ⟨ρc, Sc, mc, sc, _⟩ a o hb
    obtain ⟨k1, k2, k3⟩ := hB a o hb
    exact (sc.prot a o ⟨k1, k2, fun z => k3 (.inr z)⟩).1
  · rintro i x σc Hc Hc' hi ⟨ρc, Sc, mc, sc, qc⟩ hy
    have hd : ds.drop i = ds[i] :: ds.drop (i + 1) := List.drop_eq_getElem_cons hi
    rw [hd] at qc
    have kp : Kp m1 (Av f σ ρ) H1 mc (Av fL σc ρc) Hc := by
      obtain ⟨l, hl⟩ := sc.mpre
      refine ⟨⟨l, hl⟩, fun a o k1 k2 k3 => ?_⟩
      obtain ⟨a1, a2, a3⟩ := sc.prot a o ⟨k3, k1, fun z => k2 (.inr z)⟩
      exact ⟨a1, a2, fun z => z.elim (fun z => k2 (.inl z)) a3⟩
    have held : Held mc (Av fL σc ρc) Hc := ⟨fun a h => sc.liveA h, fun a h => sc.sr.live h⟩
    obtain ⟨nw, rx⟩ := hY i ds[i] (List.getElem?_eq_getElem hi) mc _ Hc x Hc' kp held hy
    have sc' : St G fL σc Hc' ρc Sc mc := by
      rcases nw with rfl | ⟨p, o', hp, rfl⟩
      · exact sc
      · exact sc.new hp
    simp only [loop] at qc
    cases hb : bindT tg ds[i] ρc with
    | none => rw [hb] at qc; exact qc.elim
    | some ρ1 =>
      rw [hb] at qc
      simp only [bound_some] at qc
      refine ⟨fL, ρc, Sc, mc, ds[i], ρ1, sc', rx, hb, fun σ2 s2 o2 _ => ⟨fL, ρ1, Sc, mc, s2, ?_⟩⟩
      cases hr : b ρ1 Sc with
      | no => rw [hr] at qc; exact qc
      | xc x S2 => rw [hr] at qc; exact qc
      | ok ct S2 =>
        rw [hr] at qc
        cases ct with
        | nx ρ2 => exact fun σ3 H3 m3 s3 => ⟨ρ2, S2, m3, s3, qc⟩
        | rt d => exact qc
        | rtF d => exact qc
        | br ρ2 => exact fun σ3 H3 m3 s3 => qc σ3 H3 m3 (dn s3)
        | xr x ρ2 => exact fun cl dd σ3 H3 m3 s3 r3 => qc cl dd σ3 H3 m3 (dn s3) r3
  · rintro σc Hc ⟨ρc, Sc, mc, sc, qc⟩
    rw [List.drop_length] at qc
    exact qc σc Hc mc (dn sc)
theorem i_whl {b : Env → Sto → R Ct} {Z : Ends} {σ : L2.St} {H : Hp} {n : Nat} (h : GS G W (fun ρ S => whileF (fun ρ S => (ev F e ρ S).bind asB) b n ρ S) Z σ H) : L2.tWhile (GT G F W true e) (GS G W b) Z σ H := by
  obtain ⟨f, ρ, S, m, s, q⟩ := h
  refine ⟨fun j σc Hc => ∃ ρc Sc mc, St G f σc Hc ρc Sc mc ∧ SX G f W Z (whileF (fun ρ S => (ev F e ρ S).bind asB) b j ρc Sc), ⟨n, ρ, S, m, s, q⟩, ?_⟩
  rintro j σc Hc ⟨ρc, Sc, mc, sc, qc⟩
  cases j with
  | zero => exact qc.elim
  | succ j =>
    simp only [whileF] at qc
    refine ⟨f, ρc, Sc, mc, sc, (SX.px (rel := rb) qc).imp fun v H1 ⟨d, S1, m1, e1, s1, r1, q1⟩ => ?_⟩
    have r1 : v = d := r1
    subst r1
    cases v with
    | false => rw [if_neg Bool.false_ne_true] at q1 ⊢; exact q1 σc H1 m1 s1
    | true =>
      rw [if_pos rfl] at q1 ⊢
      refine ⟨fun σ2 H2 => ∃ ρ2 S2 m2, St G f σ2 H2 ρ2 S2 m2 ∧ SX G f W Z (whileF (fun ρ S => (ev F e ρ S).bind asB) b j ρ2 S2), fun σ2 H2 h2 => ⟨j, Nat.lt_succ_self j, h2⟩, f, ρc, S1, m1, s1, ?_⟩
      cases hr : b ρc S1 with
      | no => rw [hr] at q1; exact q1
      | xc x S2 => rw [hr] at q1; exact q1
      | ok ct S2 =>
        rw [hr] at q1
        cases ct with
        | nx ρ2 => exact fun σ3 H3 m3 s3 => ⟨ρ2, S2, m3, s3, q1⟩
        | rt d => exact q1
        | rtF d => exact q1
        | br ρ2 => exact fun σ3 H3 m3 s3 => q1 σ3 H3 m3 s3
        | xr x ρ2 => exact fun cl dd σ3 H3 m3 s3 r3 => q1 cl dd σ3 H3 m3 s3 r3
/-! ### a list made, grown -/
theorem s_new {i : Nat} {n : Str} {p p2 : PySem.Pos} (X' : XS G F k c X W) (h1 : c.N[i]? = some n) (h2 : stoB c n = true) : PS X (.Assign [.Name n p] (.List [] p2) pos) (GS G W fun ρ S => ex F (.new i) ρ S) := by
  obtain ⟨l1, l2⟩ := X'.xc.loc h2
  refine imp_ps (L2.ps_set (i := i) (by rw [X'.xc.N]; exact X'.xc.nd) (by rw [X'.xc.N]; exact h1) l1 (L2.pe_lst L2.pa_nil) rfl l2) fun Z σ H ⟨f, ρ, S, m, s, q⟩ => ?_
  exact ⟨Nat.zero_le _, fun p hp => q _ _ m (s.newOwn hp)⟩
theorem s_app {i : Nat} {n : Str} {p1 ap cp : PySem.Pos} (X' : XS G F k c X W) (hl : (ap.endLine == cp.line) = true) (h1 : c.N[i]? = some n) (h2 : visB c.sc n = true) (h3 : plainName n = true) (hc : chkE c false e x = true) (h : SE G F X W false e x) :
    PS X (.Expr (.Call (.Attribute (.Name n p1) ("append" : Str) ap) [x] [] cp) pos) (GS G W fun ρ S => ex F (.app i e) ρ S) := by
  obtain ⟨d1, d2, _⟩ := plain_dbg h3
  have st : PySem.starEach [x] X.env = (false, PySem.eval x X.env) :: PySem.starEach [] X.env := star_cons (chk_ns hc)
  have few : ((PySem.backTo cp (PySem.starEach [x] X.env)).all (fun x => !x.1) && (PySem.backToKw cp (PySem.keywordEach [] X.env)).all (fun x => x.1.isSome)
      && decide (([x] : List Expr).length + ([] : List PySem.Keyword).length + (if ([] : List PySem.Keyword).isEmpty then 0 else 1) < 30)) = true := by
    rw [st]
    rfl
  refine imp_ps (L2.ps_expr (L2.pe_bm PySem.F.plainAttrs_list PySem.F.slot_list_append PySem.F.type_list_append L2.mt_append (L2.pe_var (i := i) (by rw [X'.xc.N]; exact h1) (X'.xc.vis h2) d1 d2) (a_one hc h) rfl few hl st rfl) rfl) fun Z σ H ⟨f, ρ, S, m, s, q⟩ => ?_
  simp only [ex] at q
  split at q
  · rename_i ds ho
    obtain ⟨p, vs, e1, e2, e3, e4, rl⟩ := s.own i ds ho
    refine ⟨_, e1, .inl ⟨rfl, vs, sqL_of e4⟩, f, ρ, S, m, s, ?_⟩
    have e1' : evs F (.cons e .nil) ρ S = (ev F e ρ S).bind fun x S => .ok [x] S := rfl
    rw [e1']
    cases hr : ev F e ρ S with
    | no => rw [hr] at q; exact q
    | xc x S1 => rw [hr] at q; exact fun cl dd H1 m1 ex1 s1 r1 => q cl dd σ H1 m1 s1 r1
    | ok d S1 =>
      rw [hr] at q
      intro v H1 m1 ex1 s1 r1
      simp only [R.then_ok] at q
      split at q
      · rename_i hlim
        cases r1 with
        | cons r1 r2 =>
          cases r2
          have hH1 : H1 p = some (.lst vs) := ex1.keep p _ e2 e4
          refine ⟨p, vs, _, rfl, rfl, hH1, ?_, q σ _ m1 (s1.grown ho e1 hH1 r1)⟩
          rw [rl.length]
          have := lim_size (Nat.le_of_lt hlim)
          have h2 : lim < sizeLine := by rw [PySem.sizeLine_eq]; decide
          omega
      · exact q.elim
  · exact q.elim
/-- name = list(value): a list of its own -/
theorem s_cpy {i : Nat} {n : Str} {p q r : PySem.Pos} (X' : XS G F k c X W) (hg : gloB c.sc ("list" : Str) = true) (h1 : c.N[i]? = some n) (h2 : stoB c n = true) (hc : chkE c false e x = true) (h : SE G F X W false e x) :
    PS X (.Assign [.Name n p] (.Call (.Name ("list" : Str) q) [x] [] r) pos) (GS G W fun ρ S => ex F (.cpy i e) ρ S) := by
  obtain ⟨l1, l2⟩ := X'.xc.loc h2
  have st : PySem.starEach [x] X.env = (false, PySem.eval x X.env) :: PySem.starEach [] X.env := star_cons (chk_ns hc)
  refine imp_ps (L2.ps_set (i := i) (by rw [X'.xc.N]; exact X'.xc.nd) (by rw [X'.xc.N]; exact h1) l1 (L2.pe_callTy L2.call_list_of (X'.xc.gl hg) (X'.xc.wd.free _ (by decide)) (by decide +kernel) (a_one hc h) (by decide) (by decide) st rfl) rfl l2) fun Z σ H ⟨f, ρ, S, m, s, q⟩ => ?_
  simp only [ex] at q
  refine ⟨f, ρ, S, m, s, ?_⟩
  have e1' : evs F (.cons e .nil) ρ S = (ev F e ρ S).bind fun x S => .ok [x] S := rfl
  rw [e1']
  cases hr : ev F e ρ S with
  | no => rw [hr] at q; exact q
  | xc x S1 => rw [hr] at q; exact fun cl dd H1 m1 ex1 s1 r1 => q cl dd σ H1 m1 s1 r1
  | ok d S1 =>
    rw [hr] at q
    intro v H1 m1 ex1 s1 r1
    simp only [R.then_ok] at q
    cases r1 with
    | cons r1 r2 =>
      cases r2
      rw [X'.xc.K]
      cases d with
      | lst ds =>
        obtain ⟨p, vs, rfl, k1, _, _, rl⟩ := r1.inv_lst
        refine ⟨p, vs, rfl, .inl (sqL_of k1), fun l hl => ?_⟩
        obtain ⟨es, e2, st⟩ := s1.ownF (i := i) (Ext.new hl) (s1.laid (v := .non) (d := .non) hl rl)
        cases e2
        exact q _ _ m1 st
      | tup ds =>
        obtain ⟨p, vs, rfl, k1, rl⟩ := r1.inv_tup
        refine ⟨p, vs, rfl, .inr k1, fun l hl => ?_⟩
        obtain ⟨es, e2, st⟩ := s1.ownF (i := i) (Ext.new hl) (s1.laid (v := .non) (d := .non) hl rl)
        cases e2
        exact q _ _ m1 st
      | _ => exact q.elim
/-- name = f(..): a list of its own -/
theorem s_thaw {i g : Nat} {es : Exs} {xs : List Expr} {n ff : Str} {p q r : PySem.Pos} (X' : XS G F k c X W) (cm : c.calm = true) (hn : c.fn g = ff) (hg : gloB c.sc ff = true) (hp : plainName ff = true) (h1 : c.N[i]? = some n) (h2 : stoB c n = true) (hc : chkA c false es (x :: xs) = true) (h : PA X (x :: xs) (GA G F W false es)) :
    PS X (.Assign [.Name n p] (.Call (.Name ff q) (x :: xs) [] r) pos) (GS G W fun ρ S => ex F (.thaw i g es) ρ S) := by
  subst hn
  obtain ⟨l1, l2⟩ := X'.xc.loc h2
  cases hF : F.fr g with
  | none =>
    refine ⟨fun pins s σ H D I h => ?_⟩
    obtain ⟨f, ρ, S, m, s, z⟩ := h
    simp only [ex, hF] at z
    exact z.elim
  | some gf =>
    obtain ⟨f, fd, ps, e1, e2, e3, e4⟩ := X'.xc.wd.frs g gf hF
    have st : PySem.starEach (x :: xs) X.env = (false, PySem.eval x X.env) :: PySem.starEach xs X.env := by
      cases es with
      | nil => cases hc
      | cons e es => exact star_cons (chk_ns (ba hc).1)
    have sp : (PySem.backTo r (PySem.starEach xs X.env)).any (·.1) = false := by
      cases es with
      | nil => cases hc
      | cons e es => exact stars_plain (ba hc).2
    rw [← X'.xc.K] at e2 e3 e4
    refine imp_ps (L2.ps_set (i := i) (by rw [X'.xc.N]; exact X'.xc.nd) (by rw [X'.xc.N]; exact h1) l1 (L2.pe_callS e4 (X'.xc.room cm) (X'.xc.gl hg) e1 e2 e3 (fun σ => L2.passAt X'.xc.tk σ) h (plain_dbg hp).1 st sp) rfl l2) fun Z σ H ⟨fr, ρ, S, m, s, q⟩ => ?_
    simp only [ex, hF] at q
    refine ⟨fr, ρ, S, m, s, ?_⟩
    cases hr : evs F es ρ S with
    | no => rw [hr] at q; exact q
    | xc x S1 => rw [hr] at q; exact fun cl dd H1 m1 ex1 s1 r1 => q cl dd σ H1 m1 s1 r1
    | ok ds S1 =>
      rw [hr] at q
      intro vs H1 m1 ex1 s1 r1
      simp only [R.bind_ok] at q
      refine ⟨ds, S1, m1, Av fr σ ρ, s1.sr, fun a h => s1.liveA h, r1, ?_⟩
      cases hr2 : gf ds S1 with
      | ok d2 S2 =>
        rw [hr2] at q
        intro v H2 m2 ex2 f2
        obtain ⟨es, rfl, st⟩ := s1.ownF (i := i) ex2 f2
        exact q _ _ m2 st
      | xc x2 S2 =>
        rw [hr2] at q
        intro cl dd H2 m2 ex2 sr2 r2
        exact q cl dd σ H2 m2 (s1.ext ex2 sr2) r2
      | no => rw [hr2] at q; exact q
/-- name[j] = value -/
theorem flat_any {K : PySem.W.Frag} {m m' : List Addr} {A A' : Addr → Prop} {H H' : Hp} {v : V} {d : D} (r : RV K m A H v d) (h : flat d = true) : RV K m' A' H' v d := by
  cases r with
  | non => exact .non
  | bl b => exact .bl b
  | int b => exact .int b
  | str x ok => exact .str x ok
  | _ => cases h
theorem s_put {i : Nat} {j : Ex} {n : Str} {y : Expr} {p q : PySem.Pos} (X' : XS G F k c X W) (h1 : c.N[i]? = some n) (h2 : visB c.sc n = true) (h3 : plainName n = true) (hy : noSlc y = true) (hx : isComp x = false) (hj : SE G F X W true j y) (he : SE G F X W true e x) :
    PS X (.Assign [.Subscript (.Name n p) y q] x pos) (GS G W fun ρ S => ex F (.put i j e) ρ S) := by
  obtain ⟨d1, d2, _⟩ := plain_dbg h3
  refine imp_ps (L2.ps_asg he.v (L2.pg_sub (L2.pe_var (i := i) (by rw [X'.xc.N]; exact h1) (X'.xc.vis h2) d1 d2) hj.v L2.set_list (fun v => by cases y <;> first | rfl | cases hy)) (show PySem.swapsWith x (some (.Subscript (.Name n p) y q)) pos.line X.env = pure false from comp_swaps hx) rfl rfl) fun Z σ H ⟨f, ρ, S, m, s, q⟩ => ?_
  simp only [ex] at q
  refine ⟨f, ρ, S, m, s, (SX.px (rel := rv G (Bv true f σ ρ)) q).imp fun v H1 ⟨d, S1, m1, e1, s1, r1, q1⟩ => ?_⟩
  cases ho : ρ[i]? with
  | none => rw [ho] at q1; exact q1.elim
  | some sl =>
    rw [ho] at q1
    cases sl with
    | own ds =>
      obtain ⟨p, vs, e2, e3, e4, e5, rl⟩ := s1.own i ds ho
      refine ⟨.ref p, e2, f, ρ, S1, m1, s1, (SX.px (rel := rv G (Bv true f σ ρ)) q1).imp fun w H2 ⟨dw, S2, m2, x2, s2, r2, q2⟩ => ?_⟩
      cases dw with
      | int nn =>
        simp only [putAt] at q2
        split at q2
        · rename_i hf
          split at q2
          · rename_i qq hq
            have hH2 : H2 p = some (.lst vs) := x2.keep p _ e3 e5
            obtain ⟨p', vs', k1, k2, k3, k4, rl2⟩ := s2.own i ds ho
            rw [e2] at k1
            cases k1
            rw [hH2] at k4
            cases k4
            refine ⟨p, vs, nn, qq, rfl, r2.inv_int, hH2, ?_, q2 σ _ m2 (s2.regrown ho e2 hH2 (rl2.set (flat_any r1 hf) qq))⟩
            rw [rl2.length]
            exact hq
          · exact q2.elim
        · exact q2.elim
      | _ => exact q2.elim
    | _ => exact q1.elim
/-- a, b = x, y -/
theorem loc_of {n : Str} {env : PySem.Env} (h : locB c.sc n = true) (e : env.scope = c.sc) : env.scope.names.lookup n = some .local := by
  rw [e]
  unfold locB at h
  split at h
  · assumption
  · cases h
theorem nodup_at {α : Type} : ∀ {l : List α} {i j : Nat} (_ : l.Nodup) (hi : i < l.length) (hj : j < l.length), l[i] = l[j] → i = j
  | [], _, _, _, hi, _, _ => by simp at hi
  | x :: l, 0, 0, _, _, _, _ => rfl
  | x :: l, 0, j + 1, nd, _, hj, e => by
    have := (List.nodup_cons.mp nd).1
    rw [List.getElem_cons_zero, List.getElem_cons_succ] at e
    exact (this (e ▸ List.getElem_mem _)).elim
  | x :: l, i + 1, 0, nd, hi, _, e => by
    have := (List.nodup_cons.mp nd).1
    rw [List.getElem_cons_zero, List.getElem_cons_succ] at e
    exact (this (e.symm ▸ List.getElem_mem _)).elim
  | x :: l, i + 1, j + 1, nd, hi, hj, e => congrArg Nat.succ (nodup_at (List.nodup_cons.mp nd).2 (by simpa using hi) (by simpa using hj) (by simpa using e))
theorem s_par {i j : Nat} {a b : Ex} {n nk : Str} {p q pt pt2 : PySem.Pos} {kt k2 : Nat} {y : Expr} (X' : XS G F k c X W) (hk : c.sc.kind = .function) (cm : c.calm = true) (hij : i ≠ j) (h1 : c.N[i]? = some n) (h2 : c.N[j]? = some nk) (l1 : locB c.sc n = true) (l2 : locB c.sc nk = true) (hl : (q.line == p.line) = true)
    (f1 : [x, y].all (PySem.foldedForSure 8) = false) (f2 : [x, y].all (PySem.constantsAlone 8) = false) (hx : chkE c false a x = true) (hy : chkE c false b y = true) (s1 : SE G F X W false a x) (s2 : SE G F X W false b y) :
    PS X (.Assign [.Tuple [.Name n p, .Name nk q] kt pt] (.Tuple [x, y] k2 pt2) pos) (GS G W fun ρ S => ex F (.par i j a b) ρ S) := by
  have bk : X.env.blockKind = .function := by
    unfold PySem.Env.blockKind
    rw [X'.xc.sc, hk]
    rfl
  have hne : n ≠ nk := fun z => hij (by
    have nd := X'.xc.nd
    rw [← z] at h2
    obtain ⟨a1, b1⟩ := List.getElem?_eq_some_iff.mp h1
    obtain ⟨a2, b2⟩ := List.getElem?_eq_some_iff.mp h2
    exact nodup_at nd a1 a2 (b1.trans b2.symm))
  have w1 := loc_of l1 X'.xc.sc
  have w2 := loc_of l2 X'.xc.sc
  refine imp_ps (L2.ps_par (i := i) (j := j) (X'.xc.calm cm) (by rw [X'.xc.N]; exact X'.xc.nd) (by rw [X'.xc.N]; exact h1) (by rw [X'.xc.N]; exact h2) hij w1 w2 (a_two hx hy s1 s2) (swp_ok bk w1 w2 hl hne (chk_ns hx) (chk_ns hy) f1 f2) rfl) fun Z σ H ⟨f, ρ, S, m, s, q⟩ => ?_
  simp only [ex] at q
  refine ⟨f, ρ, S, m, s, ?_⟩
  have e1 : evs F (.cons a (.cons b .nil)) ρ S = (ev F a ρ S).bind fun x S => (ev F b ρ S).bind fun y S => .ok [x, y] S := by
    simp only [evs, R.bind_assoc, R.bind_ok]
  rw [e1]
  cases hr : ev F a ρ S with
  | no => rw [hr] at q; exact q
  | xc x S1 => rw [hr] at q; exact fun cl dd H1 m1 ex1 s1 r1 => q cl dd σ H1 m1 s1 r1
  | ok d1 S1 =>
    rw [hr] at q
    simp only [R.then_ok, R.bind_ok] at q ⊢
    cases hr2 : ev F b ρ S1 with
    | no => rw [hr2] at q; exact q
    | xc x S2 => rw [hr2] at q; exact fun cl dd H1 m1 ex1 s1 r1 => q cl dd σ H1 m1 s1 r1
    | ok d2 S2 =>
      rw [hr2] at q
      simp only [R.then_ok, R.bind_ok] at q ⊢
      intro vs H1 m1 ex1 s1 r1
      cases r1 with
      | cons r1 r2 =>
        cases r2 with
        | cons r2 r3 =>
          cases r3
          refine ⟨_, _, rfl, q _ H1 m1 ((s1.setv r1).setv (r2.less fun a h => ?_))⟩
          exact h.imp (fun z => z) fun z => own_set z
/-- return: a list of its own -/
theorem fr_own {i : Nat} {Z : Ends} {σ : L2.St} {H : Hp} (h : GS G W (fun ρ S => ex F (.retF (.own i)) ρ S) Z σ H) : ∃ v, σ[i]? = some (some v) ∧ Z.rt v H := by
  obtain ⟨f, ρ, S, m, s, q⟩ := h
  simp only [ex, ev] at q
  split at q
  · rename_i ds ho
    obtain ⟨p, vs, e1, e2, e3, e4, rl⟩ := s.own i ds ho
    have op : Own σ ρ p := ⟨i, ds, ho, e1⟩
    have av : ∀ a, f.A0 a ∨ a = p → Av f σ ρ a := fun a z => z.imp (fun z => z) fun z => by rw [z]; exact op
    exact ⟨_, e1, q (.ref p) H m s.ent ⟨p, vs, ds, rfl, rfl, e4, e2, e3, s.fresh p op, rl.less av, s.sr.less av⟩⟩
  · exact q.elim
theorem fr_fin {it : It} {tg : Tg} {o : Option Ex} {vs : List Nat} {σ : L2.St} {H : Hp} {Q : VK} {m m1 : List Addr} {H1 : Hp} {f : Fr} {ρ : Env} {ds : List D} {S1 : Sto} {Z : Ends} (s1 : St G f σ H1 ρ S1 m1)
    (q : SX G f W Z (((calmly (turns (stepC F e tg o (wipe (noOwn ρ) vs)) ds S1)).bind fun r S => (small r S).bind fun r S => .ok (.lst r) S).then ρ fun x S => retL x S)) : Fin3 G F f σ ρ e tg o vs m1 H1 ds S1 Z.rt := by
  unfold Fin3
  cases ht : turns (stepC F e tg o (wipe (noOwn ρ) vs)) ds S1 with
  | no => rw [ht] at q; exact q
  | xc _ _ => rw [ht] at q; exact q
  | ok r S' =>
    rw [ht] at q
    simp only [calmly_ok, R.bind_ok] at q
    unfold small at q
    split at q
    · rename_i hl
      simp only [R.bind_ok, R.then_ok, retL_lst] at q
      exact ⟨hl, fun p Hn mn accV e1 s2 h1 h2 h3 h4 h5 h6 => q (.ref p) Hn mn s2.ent ⟨p, accV, r, rfl, rfl, h1, h2, fun z => h4 (.inl z), s1.ent.back h3, h5.less fun a z => z.imp .inl fun z => z, h6.less fun a z => z.imp .inl fun z => z⟩⟩
    · exact q.elim
theorem SX.px0 {α β : Type} {f : Fr} {σ : L2.St} {ρ : Env} {rel : List Addr → Hp → β → α → Prop} {m : List Addr} {H : Hp} {r : R α} {Z : Ends} {kk : α → Sto → R D} (h : SX G f W Z ((r.bind kk).then ρ fun x S => retL x S)) :
    PX G f σ ρ W rel m H r fun v H1 => ∃ d S1 m1, Ext m H m1 H1 ∧ St G f σ H1 ρ S1 m1 ∧ rel m1 H1 v d ∧ SX G f W Z ((kk d S1).then ρ fun x S => retL x S) := by
  cases r with
  | ok d S1 => exact fun v H1 m1 e s r => ⟨d, S1, m1, e, s, r, h⟩
  | xc x S1 => exact fun c dd H1 m1 e s r => h c dd σ H1 m1 s r
  | no => exact h
theorem add_lst {d1 d2 : D} {ds : List D} (h : op2 .add d1 d2 = some (.lst ds)) : ∃ as bs, d1 = .lst as ∧ d2 = .lst bs ∧ ds = as ++ bs ∧ as.length + bs.length ≤ lim := by
  cases d1 with
  | lst as =>
    cases d2 with
    | lst bs =>
      simp only [op2] at h
      split at h
      · rename_i hl
        cases h
        exact ⟨as, bs, rfl, rfl, rfl, hl⟩
      · cases h
    | _ => cases h
  | str as =>
    cases d2 with
    | str bs => simp only [op2] at h; split at h <;> cases h
    | _ => cases h
  | tup as =>
    cases d2 with
    | tup bs => simp only [op2] at h; split at h <;> cases h
    | _ => cases h
  | _ => cases d2 <;> cases h
theorem s_retF (X' : XS G F k c X W) (hf : isFr e = true) (hc : chkE c true e x = true) : PS X (.Return (some x) pos) (GS G W fun ρ S => ex F (.retF e) ρ S) := by
  cases e with
  | own i =>
    cases x with
    | Name n p =>
      obtain ⟨_, h⟩ := ba hc
      obtain ⟨h12, h3⟩ := ba h
      obtain ⟨h1, h2⟩ := ba h12
      obtain ⟨p1, p2, _⟩ := plain_dbg h3
      exact imp_ps (L2.ps_ret (L2.pe_var (i := i) (by rw [X'.xc.N]; exact of_decide_eq_true h1) (X'.xc.vis h2) p1 p2)) fun Z σ H q => fr_own q
    | _ => cases hc
  | comp e1 tg it vs =>
    match x, hc with
    | .ListComp y [⟨t, x, [], 0⟩] scope p, hc =>
      obtain ⟨cm, hc⟩ := ba hc
      obtain ⟨c1, c2⟩ := ba hc
      obtain ⟨c2, c3⟩ := ba c2
      obtain ⟨c3, c4⟩ := ba c3
      obtain ⟨c4, c5⟩ := ba c4
      obtain ⟨b1, b2⟩ := blk_ok X'.xc c2
      refine imp_ps (L2.ps_ret (L2.pe_lc (own := ownB c.N vs) (X'.xc.calm cm) (by rw [X'.xc.N]; exact X'.xc.nd) (sndI it c true X W t x X'.xc c1) b1 (fun s H C cl fp => g_tg (X'.xc.inB cm s H C cl fp) tg t c3) (fun _ _ _ _ _ => L2.pts_nil) (fun s H C cl fp => (sndE e1 _ false _ W0 y (X'.xc.inB cm s H C cl fp) c5).v) (noSet_fold (chkI_set c1)))) fun Z σ H ⟨f, ρ, S, m, s, q⟩ => ?_
      rw [b2]
      simp only [ex, ev] at q
      exact comp_read0 (o := none) (slots_in c4) ⟨f, ρ, S, m, s, (SX.px0 q).imp fun J H1 ⟨ds, S1, m1, e1, s1, r1, q1⟩ => ⟨ds, S1, m1, e1, s1, r1, fr_fin (it := it) (Q := Z.rt) (H := H) (m := m) s1 q1⟩⟩
  | compIf e1 tg it d vs =>
    match x, hc with
    | .ListComp y [⟨t, x, [z], 0⟩] scope p, hc =>
      obtain ⟨cm, hc⟩ := ba hc
      obtain ⟨c1, c2⟩ := ba hc
      obtain ⟨c2, c3⟩ := ba c2
      obtain ⟨c3, c4⟩ := ba c3
      obtain ⟨c4, c5⟩ := ba c4
      obtain ⟨c5, c6⟩ := ba c5
      obtain ⟨b1, b2⟩ := blk_ok X'.xc c2
      refine imp_ps (L2.ps_ret (L2.pe_lc (own := ownB c.N vs) (X'.xc.calm cm) (by rw [X'.xc.N]; exact X'.xc.nd) (sndI it c true X W t x X'.xc c1) b1 (fun s H C cl fp => g_tg (X'.xc.inB cm s H C cl fp) tg t c3) (fun s H C cl fp => L2.pts_one (sndE d _ false _ W0 z (X'.xc.inB cm s H C cl fp) c5).t) (fun s H C cl fp => (sndE e1 _ false _ W0 y (X'.xc.inB cm s H C cl fp) c6).v) (noSet_fold (chkI_set c1)))) fun Z σ H ⟨f, ρ, S, m, s, q⟩ => ?_
      rw [b2]
      simp only [ex, ev] at q
      exact comp_read0 (o := some d) (slots_in c4) ⟨f, ρ, S, m, s, (SX.px0 q).imp fun J H1 ⟨ds, S1, m1, e1, s1, r1, q1⟩ => ⟨ds, S1, m1, e1, s1, r1, fr_fin (it := it) (Q := Z.rt) (H := H) (m := m) s1 q1⟩⟩
  | op o a b =>
    cases o with
    | add =>
      match x, hc with
      | .Compare x [o'] [y] p, hc => exact absurd (ba hc).1 (by cases o' <;> decide)
      | .BinOp x .Add y p, hc =>
        obtain ⟨_, hc⟩ := ba hc
        obtain ⟨c1, c2⟩ := ba hc
        refine imp_ps (L2.ps_ret (L2.pe_op L2.op_cat (sndE a c true X W x X'.xc c1).v (sndE b c true X W y X'.xc c2).v)) fun Z σ H ⟨f, ρ, S, m, s, q⟩ => ?_
        simp only [ex, ev] at q
        refine ⟨f, ρ, S, m, s, (SX.px0 q).imp fun v H1 ⟨d1, S1, m1, e1, s1, r1, q1⟩ => ⟨f, ρ, S1, m1, s1, (SX.px0 q1).imp fun u H2 ⟨d2, S2, m2, e2, s2, r2, q2⟩ => ?_⟩⟩
        cases eo : op2 .add d1 d2 with
        | none => rw [eo] at q2; exact q2.elim
        | some d3 =>
          rw [eo] at q2
          simp only [lift_some, R.then_ok] at q2
          have hd : ∃ ds, d3 = .lst ds := by
            cases d3 with
            | lst ds => exact ⟨ds, rfl⟩
            | _ => exact q2.elim
          obtain ⟨ds, rfl⟩ := hd
          obtain ⟨as, bs, rfl, rfl, rfl, hl⟩ := add_lst eo
          obtain ⟨p1, vs1, rfl, k1, _, _, rl1⟩ := (r1.ext e2).inv_lst
          obtain ⟨p2, vs2, rfl, k2, _, _, rl2⟩ := r2.inv_lst
          refine ⟨p1, p2, vs1, vs2, rfl, rfl, k1, k2, by rw [rl1.length, rl2.length]; exact lim_size hl, fun z hz => ?_⟩
          have hzm : z ∉ m2 := fun y => s2.sr.live y hz
          have hA : ∀ a, f.A0 a ∨ a = z → f.A0 a ∨ H2 a = none := fun a y => y.imp (fun y => y) fun y => by rw [y]; exact hz
          exact q2 (.ref z) _ m2 (s2.ent.trans (Ext.new hz)) ⟨z, _, _, rfl, rfl, upd_at, hzm, fun y => s2.live z y hz, s2.ent.back hz, (rl1.append rl2).mono (Ext.new hz) hA, (s2.sr.less fun a y => .inl y).grow (Ext.new hz) hA (fun a ha => L2.upd_ne fun y => hzm (y ▸ ha))⟩
    | _ => cases hf
  | _ => cases hf
theorem swap_true {n : Str} {np : PySem.Pos} {y : Expr} {gs : List Comprehension} {scope : Scope} {p : PySem.Pos} {l : Nat} (X' : XC G F k c X W) (hk : c.sc.kind = .function) (h : swapB c n np (.ListComp y gs scope p) = true) : PySem.swapsWith (.ListComp y gs scope p) (some (.Name n np)) l X.env = pure true ∧ X.env.scope.names.lookup n = some .local := by
  obtain ⟨h1, h2⟩ := ba h
  obtain ⟨h2, h3⟩ := ba h2
  have e : X.env.scope.names.lookup n = some .local := by
    rw [X'.sc]
    split at h1
    · assumption
    · cases h1
  refine ⟨L2.sw_true (by rw [X'.sc]; exact hk) e h2 ?_, e⟩
  simpa using h3
theorem swap_cell {n : Str} {np : PySem.Pos} {l : Nat} (X' : XC G F k c X W) (h : cellB c.sc n = true) : PySem.swapsWith x (some (.Name n np)) l X.env = pure false := by
  have e : X.env.kindOf n = some .cell := by
    show X.env.scope.names.lookup n = _
    rw [X'.sc]
    unfold cellB at h
    split at h
    · assumption
    · cases h
  have z : (some NameKind.cell == some NameKind.local) = false := rfl
  cases x <;> first | rfl | (unfold PySem.swapsWith; simp only [e, z, Bool.and_false, Bool.false_and])
theorem i_setLc {i : Nat} {Z : Ends} {σ : L2.St} {H : Hp} (h : GS G W (fun ρ S => ex F (.asg (.name i) e) ρ S) Z σ H) : GE G F W false e σ H fun v H1 => L2.gName i v σ H1 Z.nx := by
  obtain ⟨f, ρ, S, m, s, q⟩ := h
  simp only [ex] at q
  refine ⟨f, ρ, S, m, s, (SX.px q).imp fun v H1 ⟨d, S1, m1, e1, s1, r1, q1⟩ => ?_⟩
  exact q1 _ H1 m1 (s1.setv r1)
theorem s_setComp {i : Nat} {n : Str} {np : PySem.Pos} {tg : Tg} {it : It} {vs : List Nat} {scope : Scope} {y : Expr} {p : PySem.Pos} (X' : XS G F k c X W) (hk : c.sc.kind = .function) (h1 : chkT c (.name i) (.Name n np) = true)
    (hc : chkE c false (.comp e tg it vs) (.ListComp y [⟨t, x, [], 0⟩] scope p) = true) (hs : swapB c n np (.ListComp y [⟨t, x, [], 0⟩] scope p) = true) :
    PS X (.Assign [.Name n np] (.ListComp y [⟨t, x, [], 0⟩] scope p) pos) (GS G W fun ρ S => ex F (.asg (.name i) (.comp e tg it vs)) ρ S) := by
  obtain ⟨sw, loc⟩ := swap_true (l := pos.line) X'.xc hk hs
  have hN := of_decide_eq_true (ba h1).1
  obtain ⟨cm, hc⟩ := ba hc
  obtain ⟨c1, c2⟩ := ba hc
  obtain ⟨c2, c3⟩ := ba c2
  obtain ⟨c3, c4⟩ := ba c3
  obtain ⟨c4, c5⟩ := ba c4
  obtain ⟨b1, b2⟩ := blk_ok X'.xc c2
  refine imp_ps (L2.ps_setLc (i := i) (own := ownB c.N vs) (X'.xc.calm cm) (by rw [X'.xc.N]; exact X'.xc.nd) (by rw [X'.xc.N]; exact hN) loc sw (sndI it c false X W t x X'.xc c1) b1 (fun s H C cl fp => g_tg (X'.xc.inB cm s H C cl fp) tg t c3) (fun _ _ _ _ _ => L2.pts_nil) (fun s H C cl fp => (sndE e _ false _ W0 y (X'.xc.inB cm s H C cl fp) c5).v) (noSet_fold (chkI_set c1))) fun Z σ H q => ?_
  rw [b2]
  exact i_comp (slots_in c4) (i_setLc q)
theorem s_setCompIf {i : Nat} {n : Str} {np : PySem.Pos} {tg : Tg} {it : It} {d : Ex} {vs : List Nat} {scope : Scope} {y z : Expr} {p : PySem.Pos} (X' : XS G F k c X W) (hk : c.sc.kind = .function) (h1 : chkT c (.name i) (.Name n np) = true)
    (hc : chkE c false (.compIf e tg it d vs) (.ListComp y [⟨t, x, [z], 0⟩] scope p) = true) (hs : swapB c n np (.ListComp y [⟨t, x, [z], 0⟩] scope p) = true) :
    PS X (.Assign [.Name n np] (.ListComp y [⟨t, x, [z], 0⟩] scope p) pos) (GS G W fun ρ S => ex F (.asg (.name i) (.compIf e tg it d vs)) ρ S) := by
  obtain ⟨sw, loc⟩ := swap_true (l := pos.line) X'.xc hk hs
  have hN := of_decide_eq_true (ba h1).1
  obtain ⟨cm, hc⟩ := ba hc
  obtain ⟨c1, c2⟩ := ba hc
  obtain ⟨c2, c3⟩ := ba c2
  obtain ⟨c3, c4⟩ := ba c3
  obtain ⟨c4, c5⟩ := ba c4
  obtain ⟨c5, c6⟩ := ba c5
  obtain ⟨b1, b2⟩ := blk_ok X'.xc c2
  refine imp_ps (L2.ps_setLc (i := i) (own := ownB c.N vs) (X'.xc.calm cm) (by rw [X'.xc.N]; exact X'.xc.nd) (by rw [X'.xc.N]; exact hN) loc sw (sndI it c false X W t x X'.xc c1) b1 (fun s H C cl fp => g_tg (X'.xc.inB cm s H C cl fp) tg t c3) (fun s H C cl fp => L2.pts_one (sndE d _ false _ W0 z (X'.xc.inB cm s H C cl fp) c5).t) (fun s H C cl fp => (sndE e _ false _ W0 y (X'.xc.inB cm s H C cl fp) c6).v) (noSet_fold (chkI_set c1))) fun Z σ H q => ?_
  rw [b2]
  exact i_compIf (slots_in c4) (i_setLc q)
/-- name = value -/
theorem s_set {tg : Tg} {n : Str} {np : PySem.Pos} (X' : XS G F k c X W) (hk : c.sc.kind = .function) (h1 : chkT c tg (.Name n np) = true) (hc : chkE c false e x = true)
    (hs : setOk c n np x = true) : PS X (.Assign [.Name n np] x pos) (GS G W fun ρ S => ex F (.asg tg e) ρ S) := by
  have plain : ∀ (hsw : PySem.swapsWith x (some (.Name n np)) pos.line X.env = pure false), PS X (.Assign [.Name n np] x pos) (GS G W fun ρ S => ex F (.asg tg e) ρ S) := fun hsw =>
    ps_asgG X' h1 (sndE e c false X W x X'.xc hc) hsw rfl
  by_cases hcomp : isComp x = false
  · exact plain (comp_swaps hcomp)
  · cases x with
    | ListComp y gs scope p =>
      have hs : (swapB c n np (.ListComp y gs scope p) || cellB c.sc n) = true := hs
      by_cases h2 : cellB c.sc n = true
      · exact plain (swap_cell X'.xc h2)
      · have h3 : swapB c n np (.ListComp y gs scope p) = true := by
          rcases Bool.or_eq_true_iff.mp hs with h | h
          · exact h
          · exact absurd h h2
        cases tg with
        | name i =>
          cases e with
          | comp e1 tg1 it1 vs1 =>
            match gs, hc, h3 with
            | [⟨t, i2, [], 0⟩], hc, h3 => exact s_setComp X' hk h1 hc h3
          | compIf e1 tg1 it1 d1 vs1 =>
            match gs, hc, h3 with
            | [⟨t, i2, [u], 0⟩], hc, h3 => exact s_setCompIf X' hk h1 hc h3
          | _ => first | (cases hc; done) | (simp [chkE] at hc; done)
        | _ => cases h1
    | _ => first | (exact absurd rfl hcomp) | (cases hs)
theorem s_asg {tg : Tg} (X' : XS G F k c X W) (hk : c.sc.kind = .function) {st : Stmt} (h : chkAsg c tg e st = true) : PS X st (GS G W fun ρ S => ex F (.asg tg e) ρ S) := by
  obtain ⟨t, x, p, rfl, h1, h2, h3⟩ := chkAsg_eq h
  cases t with
  | Name n np => exact s_set X' hk h1 h2 h3
  | Tuple ts j tp =>
    obtain ⟨h4, h5⟩ := ba h3
    refine ps_asgG X' h1 (sndE e c false X W _ X'.xc h2) (show PySem.swapsWith x (some (.Tuple ts j tp)) p.line X.env = pure false from comp_swaps (by simpa using h5)) ?_
    cases x <;> first | rfl | cases h4
  | _ => cases h3
/-! ### exceptions -/
theorem s_rais {C : Nat} {n m : Str} {p p2 q : PySem.Pos} {j : Nat} (X' : XS G F k c X W) (cm : c.calm = true) (hn : c.cl C = n) (hg : gloB c.sc n = true) (hp : plainName n = true) :
    PS X (.Raise (some (.Call (.Name n p) [.Constant (.str m) j p2] [] pos)) none q) (GS G W fun ρ S => ex F (.rais C) ρ S) := by
  subst hn
  cases hE : F.exc C with
  | false =>
    refine ⟨fun pins s σ H D I h => ?_⟩
    obtain ⟨f, ρ, S, m, s, z⟩ := h
    simp only [ex, hE, Bool.false_eq_true, if_false] at z
    exact z.elim
  | true =>
    obtain ⟨g1, ⟨B, ni, ii, bm, FF, g2⟩, g3, g4, g5⟩ := X'.xc.wd.exc C hE
    rw [← X'.xc.K] at g2 g3 g4 g5
    refine imp_ps (L2.ps_raise (X'.xc.calm cm) X'.xc.tk (L2.pmk_own FF g2 g1 g3 (L2.raises_own g4 g5) (X'.xc.gl hg) (plain_dbg hp).1)) fun Z σ H ⟨f, ρ, S, m, s, z⟩ => ?_
    simp only [ex, hE, if_true] at z
    exact z _ _ σ H m s ⟨rfl, rfl⟩
theorem noErr_at {ρ : Env} {i : Nat} {x : Slot} (h : (noErr ρ)[i]? = some x) : x ≠ .err ∧ (x ≠ .emp → ρ[i]? = some x) := by
  unfold noErr at h
  rw [List.getElem?_map] at h
  cases q : ρ[i]? with
  | none => rw [q] at h; cases h
  | some y =>
    rw [q] at h
    cases y with
    | emp => cases h; exact ⟨(fun z => nomatch z), fun z => absurd rfl z⟩
    | val d => cases h; exact ⟨(fun z => nomatch z), fun _ => rfl⟩
    | own d => cases h; exact ⟨(fun z => nomatch z), fun _ => rfl⟩
    | err => cases h; exact ⟨(fun z => nomatch z), fun z => absurd rfl z⟩
theorem SR.sw {G : Gx} {a b : Addr} {m : List Addr} {A : Addr → Prop} {S : Sto} {H : Hp} (s : SR { G with ea := a } m A S H) : SR { G with ea := b } m A S H :=
  ⟨s.nd, s.len, fun i x c h h' => by
    have z := s.cell i x c h h'
    cases c <;> exact z⟩
theorem own_noErr {σ : L2.St} {ρ : Env} {a : Addr} (h : Own σ (noErr ρ) a) : Own σ ρ a := by
  obtain ⟨i, ds, h1, h2⟩ := h
  exact ⟨i, ds, (noErr_at h1).2 (fun z => nomatch z), h2⟩
theorem St.cool {G : Gx} {a b : Addr} {f : Fr} {σ : L2.St} {H : Hp} {ρ : Env} {S : Sto} {m : List Addr} (s : St { G with ea := a } f σ H ρ S m) : St { G with ea := b } f σ H (noErr ρ) S m where
  sr := s.sr.sw.less fun a h => h.imp (fun z => z) own_noErr
  val := fun i d h => by
    obtain ⟨v, h1, h2⟩ := s.val i d ((noErr_at h).2 fun z => nomatch z)
    exact ⟨v, h1, h2.less fun a h => h.imp (fun z => z) own_noErr⟩
  own := fun i ds h => by
    obtain ⟨p, vs, h1, h2, h3, h4, h5⟩ := s.own i ds ((noErr_at h).2 fun z => nomatch z)
    exact ⟨p, vs, h1, h2, h3, h4, h5.less fun a h => h.imp (fun z => z) own_noErr⟩
  uniq := fun i j ds es p h1 h2 => s.uniq i j ds es p ((noErr_at h1).2 fun z => nomatch z) ((noErr_at h2).2 fun z => nomatch z)
  prot := fun a o h => by
    obtain ⟨h1, h2, h3⟩ := s.prot a o h
    exact ⟨h1, h2, fun z => h3 (own_noErr z)⟩
  live := s.live
  ent := s.ent
  mpre := s.mpre
  fresh := fun a h => s.fresh a (own_noErr h)
  len := by unfold noErr; rw [List.length_map]; exact s.len
  err := fun i h => ((noErr_at h).1 rfl).elim
/-- the caught one gets its slot -/
theorem St.heat {G : Gx} {a : Addr} {f : Fr} {σ : L2.St} {H : Hp} {ρ : Env} {S : Sto} {m : List Addr} (s : St { G with ea := a } f σ H ρ S m) (i : Nat) (he : ∀ j : Nat, ρ[j]? ≠ some Slot.err) : St { G with ea := a } f (σ.set i (some (.ref a))) H (ρ.set i .err) S m := by
  have ne : ∀ {j : Nat} {x : Slot}, x ≠ .err → (ρ.set i .err)[j]? = some x → i ≠ j := fun {j x} hx h e => by
    subst e
    by_cases hl : i < ρ.length
    · rw [List.getElem?_set_self hl] at h; exact hx (Option.some.inj h).symm
    · rw [List.getElem?_eq_none (by simpa using hl)] at h; cases h
  have ow : ∀ {b : Addr}, Own (σ.set i (some (.ref a))) (ρ.set i .err) b → Own σ ρ b := by
    rintro b ⟨j, ds, h1, h2⟩
    have hj := ne (by intro z; cases z) h1
    rw [List.getElem?_set_ne hj] at h1 h2
    exact ⟨j, ds, h1, h2⟩
  have hav : ∀ b, Av f (σ.set i (some (.ref a))) (ρ.set i .err) b → Av f σ ρ b := fun b h => h.imp (fun z => z) ow
  refine ⟨s.sr.less hav, fun j e h => ?_, fun j ds h => ?_, fun j l ds es p h1 h2 h3 h4 => ?_, fun b o h => ?_, s.live, s.ent, s.mpre, fun b h => s.fresh b (ow h), by simpa using s.len, fun j h => ?_⟩
  · have hj := ne (by intro z; cases z) h
    rw [List.getElem?_set_ne hj] at h
    obtain ⟨w, h1, h2⟩ := s.val j e h
    exact ⟨w, by rw [List.getElem?_set_ne hj]; exact h1, h2.less hav⟩
  · have hj := ne (by intro z; cases z) h
    rw [List.getElem?_set_ne hj] at h
    obtain ⟨p, vs, h1, h2, h3, h4, h5⟩ := s.own j ds h
    exact ⟨p, vs, by rw [List.getElem?_set_ne hj]; exact h1, h2, h3, h4, h5.less hav⟩
  · have n1 := ne (by intro z; cases z) h1
    have n2 := ne (by intro z; cases z) h2
    rw [List.getElem?_set_ne n1] at h1 h3
    rw [List.getElem?_set_ne n2] at h2 h4
    exact s.uniq j l ds es p h1 h2 h3 h4
  · obtain ⟨h1, h2, h3⟩ := s.prot b o h
    exact ⟨h1, h2, fun z => h3 (ow z)⟩
  · by_cases hj : i = j
    · subst hj
      have hl : i < ρ.length := by
        rcases Nat.lt_or_ge i ρ.length with h' | h'
        · exact h'
        · rw [List.getElem?_eq_none (by simpa using h')] at h; cases h
      rw [List.getElem?_set_self (by rw [s.len]; exact hl)]
    · rw [List.getElem?_set_ne hj] at h
      exact (he j h).elim
/-- what the suite is told -/
def tSu (G : Gx) (F : Fns) (su : Sms) (a : Addr) (cls : Value) (d : Option Addr) : TS := fun Z σ H => ∃ x : Xc, cls = .ref (G.cls x.cls) ∧ d = none ∧ GS { G with ea := a } W0 (fun ρ S => exs (F.hot x) su ρ S) Z σ H
theorem i_try {b su : Sms} {C i : Nat} (X' : XS G F k c X W) {Z : Ends} {σ : L2.St} {H : Hp} (hE : F.exc C = true) (h : GS G W (fun ρ S => ex F (.tryE b C i su) ρ S) Z σ H) :
    GS G (L2.wAs X.K (.ref (G.cls C)) i (tSu G F su) W Z) (fun ρ S => exs F b ρ S) Z σ H := by
  obtain ⟨f, ρ, S, m, s, q⟩ := h
  refine ⟨f, ρ, S, m, s, ?_⟩
  simp only [ex, hE, if_true] at q
  show SX G f _ Z (exs F b ρ S)
  cases hr : exs F b ρ S with
  | no => rw [hr] at q; exact q
  | xc _ _ => rw [hr] at q; exact q
  | ok ct S1 =>
    rw [hr] at q
    cases ct with
    | nx ρ1 => exact q
    | rt d => exact q
    | rtF d => exact q
    | br ρ1 => exact q
    | xr x ρ1 =>
      intro c1 dd σ1 H1 m1 s1 r1
      obtain ⟨rfl, r2⟩ := r1
      unfold R.caught at q
      simp only at q
      split at q
      · rename_i ha hs
        rw [ha] at r2
        have r2 : dd = none := r2
        subst r2
        obtain ⟨g1, g2, g3, g4⟩ := X'.xc.wd.sub _ _ _ hs
        refine ⟨true, by rw [X'.xc.K]; exact g2, fun _ a hna => ⟨x, rfl, rfl, f, _, S1, m1, St.heat (G := G) (a := a) (St.cool (G := G) (a := G.ea) (b := a) s1) i (fun j hj => (noErr_at hj).1 rfl), ?_⟩, fun z => nomatch z⟩
        show SX { G with ea := a } f W0 _ (exs (F.hot x) su ((noErr ρ1).set i .err) S1)
        cases hr2 : exs (F.hot x) su ((noErr ρ1).set i .err) S1 with
        | no => rw [hr2] at q; exact q
        | xc _ _ => rw [hr2] at q; exact q
        | ok ct S2 =>
          rw [hr2] at q
          cases ct with
          | nx ρ2 => exact fun σ2 H2 m2 s2 => q (σ2.set i none) H2 m2 ((St.cool (G := G) (a := a) (b := G.ea) s2).emp i)
          | rt d => exact fun v H2 m2 e2 sr2 r2 => q v H2 m2 e2 (SR.sw (G := G) (a := a) (b := G.ea) sr2) r2
          | rtF _ => exact q.elim
          | br _ => exact q.elim
          | xr _ _ => exact q.elim
      · rename_i hs
        obtain ⟨g1, g2, g3, g4⟩ := X'.xc.wd.sub _ _ _ hs
        exact ⟨false, by rw [X'.xc.K]; exact g2, (fun z => nomatch z), fun _ => q _ dd σ1 H1 m1 s1 ⟨rfl, r2⟩⟩
      · exact q.elim
theorem s_try {b su : Sms} {C i : Nat} {n x : Str} {xs ys : List Stmt} {y0 : Stmt} {p q r : PySem.Pos} (X' : XS G F k c X W) (cm : c.calm = true) (hk : c.sc.kind = .function) (hx : c.cl C = x) (hg : gloB c.sc x = true) (hp : plainName x = true) (hN : c.N[i]? = some n) (hl : locB c.sc n = true)
    (hb : ∀ (X1 : Cx) (W1 : WX), XS G F k c X1 W1 → PSs X1 xs (GS G W1 fun ρ S => exs F b ρ S))
    (hs : ∀ (G1 : Gx) (F1 : Fns) (X1 : Cx), XS G1 F1 k { c with calm := false } X1 W0 → PSs X1 (y0 :: ys) (GS G1 W0 fun ρ S => exs F1 su ρ S)) :
    PS X (.Try xs [.ExceptHandler (some (.Name x p)) (some n) (y0 :: ys) q] [] [] r) (GS G W fun ρ S => ex F (.tryE b C i su) ρ S) := by
  subst hx
  cases hE : F.exc C with
  | true =>
    obtain ⟨g1, _⟩ := X'.xc.wd.exc C hE
    have lk : X.env.kindOf n = some .local := by
      have z : c.sc.names.lookup n = some .local := by
        unfold locB at hl
        split at hl
        · assumption
        · cases hl
      show X.env.kindOf n = _
      have e := X'.xc.sc
      unfold PySem.Env.kindOf
      rw [e]
      exact z
    refine imp_ps (L2.ps_try_as (i := i) (c := .ref (G.cls C)) (tb := fun W => GS G W fun ρ S => exs F b ρ S) (ts := tSu G F su) X'.stk X'.frm (by rw [X'.xc.N]; exact X'.xc.nd) (by rw [X'.xc.N]; exact hN) lk ⟨X'.xc.gl hg, (plain_dbg hp).1, .inl g1⟩ X'.xc.tk
      (fun W1 pn xe tk po => hb _ W1 ⟨⟨X'.xc.wd, X'.xc.K, X'.xc.N, X'.xc.nd, X'.xc.sc, X'.xc.fn, X'.xc.calm, X'.xc.un, X'.xc.room, tk, fun z => absurd (cm.symm.trans z) (by decide)⟩, po, X'.stk, X'.frm⟩)
      fun a oe cls d pn hz hf => ⟨fun pins s σ H D I z => ?_⟩) fun Z σ H z => i_try X' hE z
    obtain ⟨xx, rfl, rfl, z⟩ := z
    refine (hs { G with ea := a } (F.hot xx) (X.suite a ((a, oe) :: pn)) ⟨⟨⟨(fun _ _ h => nomatch h), X'.xc.wd.gls, X'.xc.wd.free, X'.xc.wd.sub, (fun _ h => nomatch h), (fun _ _ h => nomatch h)⟩, X'.xc.K, X'.xc.N, X'.xc.nd, X'.xc.sc, X'.xc.fn, (fun h => nomatch h), X'.xc.un, (fun h => nomatch h), fun u s' ⟨_, _, _, _, _, _, _, _, _, _, _, _, _, _, _, _, w⟩ => w.elim, fun _ x' h => ?_⟩, PySem.PassesOwn.never, X'.stk, X'.frm⟩).run pins s σ H D I z
    cases h
    exact ⟨X, oe, pn, rfl, hz, hf⟩
  | false =>
    refine ⟨fun pins s σ H D I h => ?_⟩
    obtain ⟨f, ρ, S, m, s, z⟩ := h
    simp only [ex, hE, Bool.false_eq_true, if_false] at z
    exact z.elim
end
end Mi
/-! Mini: all statements; defs; the law. -/
namespace Mi
open PySem (Str Addr Value Expr Stmt Scope PyData sizeLine Const NameKind Operator CmpOp Comprehension)
open L2 (V Hp HO Key upd Rd SqL SqT Cx VK R2 OpR CallR MtR IxR SlR PE PT PW PA PI PG PS PSs TE TT TA TI TG TS WX Takes Room Ends)
mutual
theorem sndS {G : Gx} {F : Fns} {k : Nat} : ∀ (s : Sm) (c : CC) (X : Cx) (W : WX) (st : Stmt), XS G F k c X W → c.sc.kind = .function → chkS c s st = true → PS X st (GS G W fun ρ S => ex F s ρ S)
  | .asg tg e => fun c X W st X' hk h => s_asg X' hk (by simpa only [chkS] using h)
  | .new i => fun c X W st X' hk h => by
    obtain ⟨n, p, q, r, rfl, h1, h2⟩ := chkNew_eq (by simpa only [chkS] using h)
    exact s_new X' h1 h2
  | .app i e => fun c X W st X' hk h => by
    obtain ⟨n, p1, ap, x, cp, p, rfl, h1, h2, h3, h4, h5⟩ := chkApp_eq (by simpa only [chkS] using h)
    exact s_app X' h1 h2 h3 h4 h5 (sndE e c false X W x X'.xc h5)
  | .frz i s => fun c X W st X' hk h => by
    refine imp_ps (sndS s c X W st X' hk (by simpa only [chkS] using h)) fun Z σ H ⟨f, ρ, S, m, st, q⟩ => ?_
    simp only [ex] at q
    split at q
    · rename_i ds ho
      exact ⟨f, _, S, m, st.freeze ho, q⟩
    · exact q.elim
  | .cpy i e => fun c X W st X' hk h => by
    obtain ⟨n, p, q, x, r, s, rfl, h1, h2, h3, h4⟩ := chkCpy_eq (by simpa only [chkS] using h)
    exact s_cpy X' h1 h2 h3 h4 (sndE e c false X W x X'.xc h4)
  | .thaw i g es => fun c X W st X' hk h => by
    obtain ⟨n, p, f, q, x, xs, r, s, rfl, h1, h2, h3, h4, h5, h6, h7⟩ := chkThaw_eq (by simpa only [chkS] using h)
    exact s_thaw X' h1 h2 h3 h4 h5 h6 h7 (sndA es c false X W (x :: xs) X'.xc h7)
  | .put i j e => fun c X W st X' hk h => by
    obtain ⟨n, p, y, q, x, s, rfl, h1, h2, h3, h4, h5, h6, h7⟩ := chkPut_eq (by simpa only [chkS] using h)
    exact s_put X' h1 h2 h3 h4 h5 (sndE j c true X W y X'.xc h6) (sndE e c true X W x X'.xc h7)
  | .par i j a b => fun c X W st X' hk h => by
    obtain ⟨n, p, nk, q, kt, pt, x, y, k2, pt2, s, rfl, h1, h2, h3, h4, h5, h6, h7, h8, h9, h10, h11⟩ := chkPar_eq (by simpa only [chkS] using h)
    exact s_par X' hk h1 h2 h3 h4 h5 h6 h7 h8 h9 h10 h11 (sndE a c false X W x X'.xc h10) (sndE b c false X W y X'.xc h11)
  | .retF e => fun c X W st X' hk h => by
    simp only [chkS] at h
    split at h
    · rename_i x hv
      obtain ⟨p, rfl⟩ := vRet_eq hv
      obtain ⟨h1, h2⟩ := ba h
      exact s_retF X' h1 h2
    · cases h
  | .ifs t a b => fun c X W st X' hk h => by
    simp only [chkS] at h
    split at h
    · rename_i x xs ys hv
      obtain ⟨p, rfl⟩ := vIf_eq hv
      obtain ⟨h1, h2⟩ := ba h
      obtain ⟨h2, h3⟩ := ba h2
      refine imp_ps (L2.ps_if (sndE t c true X W x X'.xc h1).t (sndB a c X W xs X' hk h2) (sndB b c X W ys X' hk h3)) fun Z σ H q => i_if ?_
      simpa only [ex] using q
    · cases h
  | .each tg it b => fun c X W st X' hk h => by
    simp only [chkS] at h
    split at h
    · rename_i t x xs hv
      obtain ⟨p, rfl⟩ := vFor_eq hv
      obtain ⟨cm, h⟩ := ba h
      obtain ⟨h1, h2⟩ := ba h
      obtain ⟨h2, h3⟩ := ba h2
      refine imp_ps (L2.ps_for X'.po (X'.xc.calm cm) (sndI it c false X W t x X'.xc h1) (g_tg X'.xc tg t h2) (sndB b c X W xs X' hk h3) (noSet_fold (chkI_set h1))) fun Z σ H q => i_each ?_
      simpa only [ex] using q
    · cases h
  | .whl t b => fun c X W st X' hk h => by
    simp only [chkS] at h
    split at h
    · rename_i x xs hv
      obtain ⟨p, rfl⟩ := vWhile_eq hv
      obtain ⟨h1, h2⟩ := ba h
      refine imp_ps (L2.ps_while X'.po (sndE t c true X W x X'.xc h1).t (sndB b c X W xs X' hk h2)) fun Z σ H q => i_whl (n := fuel) ?_
      simpa only [ex] using q
    · cases h
  | .ret e => fun c X W st X' hk h => by
    simp only [chkS] at h
    split at h
    · rename_i x hv
      obtain ⟨p, rfl⟩ := vRet_eq hv
      exact imp_ps (L2.ps_ret (sndE e c true X W x X'.xc h).v) fun _ _ _ q => i_ret q
    · cases h
  | .expr e => fun c X W st X' hk h => by
    simp only [chkS] at h
    split at h
    · rename_i x hv
      obtain ⟨p, rfl⟩ := vExpr_eq hv
      obtain ⟨h1, h2⟩ := ba h
      exact imp_ps (L2.ps_expr (sndE e c true X W x X'.xc h1).v (comp_swaps (by simpa using h2))) fun _ _ _ q => i_expr q
    · cases h
  | .rais C => fun c X W st X' hk h => by
    simp only [chkS] at h
    split at h
    · rename_i x hv
      obtain ⟨p, m, j, p2, pos, q, rfl⟩ := vRaise_eq hv
      obtain ⟨cm, h⟩ := ba h
      obtain ⟨h1, h⟩ := ba h
      obtain ⟨h2, h3⟩ := ba h
      exact s_rais X' cm (of_decide_eq_true h1) h2 h3
    · cases h
  | .tryE b C i su => fun c X W st X' hk h => by
    simp only [chkS] at h
    split at h
    · rename_i xs x n ys hv
      obtain ⟨p, q, r, rfl⟩ := vTry_eq hv
      obtain ⟨cm, h⟩ := ba h
      obtain ⟨h1, h⟩ := ba h
      obtain ⟨h2, h⟩ := ba h
      obtain ⟨h3, h⟩ := ba h
      obtain ⟨h4, h⟩ := ba h
      obtain ⟨h5, h⟩ := ba h
      obtain ⟨h6, h⟩ := ba h
      obtain ⟨h7, h8⟩ := ba h
      cases ys with
      | nil => cases h8
      | cons y0 ys => exact s_try X' cm hk (of_decide_eq_true h2) h3 h4 (of_decide_eq_true h5) h6 (fun X1 W1 x1 => sndB b c X1 W1 xs x1 hk h1) (fun G1 F1 X1 x1 => sndB su _ X1 W0 (y0 :: ys) x1 hk h7)
    · cases h
  | .nev => fun c X W st X' hk h => ⟨fun pins s σ H D I h => by
    obtain ⟨f, ρ, S, m, s, z⟩ := h
    simp only [ex] at z
    exact z.elim⟩
  | .pass => fun c X W st X' hk h => by
    obtain ⟨p, rfl⟩ := vPass_eq (by simpa only [chkS] using h)
    exact imp_ps L2.ps_pass fun Z σ H ⟨f, ρ, S, m, st, q⟩ => q σ H m st
theorem sndB {G : Gx} {F : Fns} {k : Nat} : ∀ (s : Sms) (c : CC) (X : Cx) (W : WX) (st : List Stmt), XS G F k c X W → c.sc.kind = .function → chkB c s st = true → PSs X st (GS G W fun ρ S => exs F s ρ S)
  | .nil => fun c X W st X' hk h => by
    cases st with
    | nil => exact imp_pss L2.pss_nil fun Z σ H ⟨f, ρ, S, m, st, q⟩ => q σ H m st
    | cons x xs => cases h
  | .cons s r => fun c X W st X' hk h => by
    cases st with
    | nil => cases h
    | cons x xs =>
      obtain ⟨h1, h2⟩ := ba h
      refine imp_pss (L2.pss_cons (sndS s c X W x X' hk h1) (sndB r c X W xs X' hk h2)) fun Z σ H q => i_next ?_
      simpa only [exs] using q
end
end Mi
/-! Mini: defs, the law. -/
namespace Mi
open PySem (Str Addr Value Expr Stmt Scope PyData sizeLine Const NameKind Operator CmpOp Comprehension)
open L2 (V Hp HO Key upd Rd SqL SqT Cx VK R2 OpR CallR MtR IxR SlR PE PT PW PA PI PG PS PSs TE TT TA TI TG TS WX Takes Room Ends)
theorem lookup_in {α : Type} : ∀ {l : List (Nat × α)} {i : Nat} {x : α}, l.lookup i = some x → (i, x) ∈ l
  | [], _, _, h => by cases h
  | (j, y) :: l, i, x, h => by
    rw [List.lookup_cons] at h
    cases q : (i == j) with
    | true => rw [q] at h; cases h; rw [beq_iff_eq.mp q]; exact List.mem_cons_self ..
    | false => rw [q] at h; exact List.mem_cons_of_mem _ (lookup_in h)
section
variable {P : PySem.Program} {w : PySem.World} {mg : Str → Option Value} {base : PySem.Heap} {G : Gx} {k j : Nat} {x : Str} {g : Fn}
theorem FnAt.mono (h : FnAt P w mg base G j x g) (hk : j ≤ k) : FnAt P w mg base G k x g := by
  obtain ⟨f, fd, ps, h1, h2, h3, h4⟩ := h
  exact ⟨f, fd, ps, h1, h2, h3, h4.mono hk⟩
theorem wd_ofY {l fr : List (Nat × Fn)} {gl : List (Nat × D)} {es : List Nat} {fn gn cl : Nat → Str} (hs : ∀ i ∈ es, ∀ j ∈ es, SubAt mg G cl i j (i == j || j == 1)) (he : ∀ i ∈ es, ExcAt mg G cl i) (hf : ∀ p ∈ l, FnAt P w mg base G k (fn p.1) p.2) (hg : ∀ p ∈ gl, ∃ v u, mg (gn p.1) = some u ∧ L2.RelV v u ∧ ∀ m A H, RV G.K m A H v p.2) (hb : ∀ x ∈ builtinNames, mg x = none) (hfr : ∀ p ∈ fr, FnAtF P w mg base G k (fn p.1) p.2) :
    Wd P w mg base G (tabY l gl es fr) k fn gn cl := by
  refine ⟨fun i g h => hf (i, g) (lookup_in h), fun i d h => hg (i, d) (lookup_in h), hb, fun i j b h => ?_, fun i h => he i (by simpa using (show es.contains i = true from h)), fun i g h => hfr (i, g) (lookup_in h)⟩
  have h : (if es.contains i && es.contains j then some (i == j || j == 1) else none) = some b := h
  split at h
  · rename_i hc
    obtain ⟨h1, h2⟩ := ba hc
    cases h
    exact hs i (by simpa using h1) j (by simpa using h2)
  · cases h
theorem wd_ofX {l : List (Nat × Fn)} {gl : List (Nat × D)} {es : List Nat} {fn gn cl : Nat → Str} (hs : ∀ i ∈ es, ∀ j ∈ es, SubAt mg G cl i j (i == j || j == 1)) (he : ∀ i ∈ es, ExcAt mg G cl i) (hf : ∀ p ∈ l, FnAt P w mg base G k (fn p.1) p.2) (hg : ∀ p ∈ gl, ∃ v u, mg (gn p.1) = some u ∧ L2.RelV v u ∧ ∀ m A H, RV G.K m A H v p.2) (hb : ∀ x ∈ builtinNames, mg x = none) :
    Wd P w mg base G (tabX l gl es) k fn gn cl := wd_ofY (fr := []) hs he hf hg hb fun _ h => nomatch h
theorem wd_of {l : List (Nat × Fn)} {gl : List (Nat × D)} {fn gn cl : Nat → Str} (hf : ∀ p ∈ l, FnAt P w mg base G k (fn p.1) p.2) (hg : ∀ p ∈ gl, ∃ v u, mg (gn p.1) = some u ∧ L2.RelV v u ∧ ∀ m A H, RV G.K m A H v p.2) (hb : ∀ x ∈ builtinNames, mg x = none) :
    Wd P w mg base G (tabOf l gl) k fn gn cl := wd_ofX (es := []) (fun _ h => nomatch h) (fun _ h => nomatch h) hf hg hb
/-- a def's scope and text are those of the term -/
def defB (N ps : List Str) (fn gl cl : Nat → Str) (scope : Scope) (body : List Stmt) (b : Sms) : Bool :=
  decide (scope.kind = .function) && (!scope.isCoroutine && (!scope.isGenerator && (decide N.Nodup && (decide (N.take ps.length = ps) && (ps.all (fun x => match scope.names.lookup x with
    | some .local => true
    | some .cell => true
    | _ => false) && (scope.names.all (fun y => match y.2 with
    | .free => false
    | _ => true) && chkB ⟨N, fn, gl, scope, none, cl, true⟩ b body))))))
theorem defB_ok {N ps : List Str} {fn gl cl : Nat → Str} {scope : Scope} {body : List Stmt} {b : Sms} (h : defB N ps fn gl cl scope body b = true) : L2.FnScope N ps scope ∧ chkB ⟨N, fn, gl, scope, none, cl, true⟩ b body = true := by
  obtain ⟨h1, h⟩ := ba h
  obtain ⟨h2, h⟩ := ba h
  obtain ⟨h3, h⟩ := ba h
  obtain ⟨h4, h⟩ := ba h
  obtain ⟨h5, h⟩ := ba h
  obtain ⟨h6, h⟩ := ba h
  obtain ⟨h7, h8⟩ := ba h
  refine ⟨⟨of_decide_eq_true h1, by simpa using h2, by simpa using h3, of_decide_eq_true h4, of_decide_eq_true h5, fun x hx => ?_, fun y hy e => ?_⟩, h8⟩
  · have z := List.all_eq_true.mp h6 x hx
    split at z
    · exact .inl (by assumption)
    · exact .inr (by assumption)
    · cases z
  · have z := List.all_eq_true.mp h7 y hy
    rw [e] at z
    cases z
/-- the entry of a def -/
theorem st_entry {N : List Str} {vs : List V} {ds : List D} {S : Sto} {m : List Addr} {A : Addr → Prop} {H : Hp} {np : Nat} (hsr : SR G m A S H) (hl : ∀ a, A a → H a ≠ none) (r : RL G.K m A H vs ds) (hd : ds.length = np) :
    St G ⟨A, fun a o => H a = some o ∧ a ∉ m, m, H, m⟩ (L2.start N vs) H (ds.map .val ++ List.replicate (N.length - np) .emp) S m := by
  have no : NoOwn (ds.map Slot.val ++ List.replicate (N.length - np) .emp) := fun i es h => by
    have hm := List.mem_of_getElem? h
    rcases List.mem_append.mp hm with h | h
    · obtain ⟨d, _, e⟩ := List.mem_map.mp h
      cases e
    · cases List.eq_of_mem_replicate h
  have av : ∀ {f : Fr} {σ : L2.St} (a : Addr), Av f σ (ds.map Slot.val ++ List.replicate (N.length - np) .emp) a → f.A0 a := fun a h => h.elim (fun z => z) fun z => (no.own z).elim
  refine ⟨hsr.less fun a h => av a h, fun i d h => ?_, fun i es h => (no i es h).elim, fun i j es _ _ h => (no i es h).elim, fun a o h => ⟨h.1, h.2, no.own⟩, hl, Ext.refl m H, ⟨[], by simp⟩, fun a h => (no.own h).elim, ?_, fun i h => ?_⟩
  · by_cases hi : i < ds.length
    · rw [List.getElem?_append_left (by simpa using hi), List.getElem?_map] at h
      cases q : ds[i]? with
      | none => rw [q] at h; cases h
      | some d' =>
        rw [q] at h
        cases h
        obtain ⟨v, h1, h2⟩ := r.get q
        refine ⟨v, ?_, h2.less fun a h => av a h⟩
        unfold L2.start
        rw [List.getElem?_append_left (by rw [List.length_map, r.length]; exact hi), List.getElem?_map, h1]
        rfl
    · rw [List.getElem?_append_right (by simpa using hi)] at h
      rw [List.getElem?_replicate] at h
      split at h <;> cases h
  · unfold L2.start
    simp [r.length, hd]
  · have hm := List.mem_of_getElem? h
    rcases List.mem_append.mp hm with h | h
    · obtain ⟨d, _, e⟩ := List.mem_map.mp h
      cases e
    · cases List.eq_of_mem_replicate h
theorem fn_len {F : Fns} {np n : Nat} {b : Sms} {vs : List V} {H : Hp} {Q : VK} {E : L2.XK} (h : spF G (fnOf F np n b) vs H Q E) : vs.length = np := by
  obtain ⟨ds, S, m, A, h1, h2, r, h⟩ := h
  rw [r.length]
  by_cases hd : ds.length = np
  · exact hd
  · unfold fnOf at h
    rw [if_neg hd] at h
    exact h.elim
/-- THE RULE for a def -/
theorem fn_ok {F : Fns} {fn gl cl : Nat → Str} {qual : Str} {params : PySem.Arguments} {body : List Stmt} {scope : Scope} {f : Addr} {fd : PySem.FuncData} {N ps : List Str} {b : Sms} (D : L2.FunD G.K x qual params body scope [] [] f fd)
    (hd : defB N ps fn gl cl scope body b = true) (w' : Wd P w mg base G F k fn gl cl) : L2.FnOk P w G.K mg base (L2.CX P w) (k + 1) f fd ps (spF G (fnOf F ps.length N.length b)) := by
  obtain ⟨S, hc⟩ := defB_ok hd
  refine D.ok S (fun vs H Q E h => fn_len h) fun cdv A outer s H vs Q E hr hsp => ?_
  have X' : XS G F k ⟨N, fn, gl, scope, none, cl, true⟩ (L2.cxOf (L2.CX P w) P w G.K mg base N qual scope f cdv A outer s H E) (fun cls d _ H => E cls d H) :=
    ⟨⟨w', rfl, rfl, S.nd, rfl, rfl, (fun _ => rfl), hr.units, (fun _ => hr), L2.takes_of rfl rfl rfl rfl, (fun z => nomatch z)⟩, L2.passes_of rfl, rfl, rfl⟩
  refine ⟨_, sndB b _ _ _ body X' S.kind hc, ?_⟩
  obtain ⟨ds, S0, m, A0, h1, h2, r, h⟩ := hsp
  unfold fnOf at h
  by_cases hl : ds.length = ps.length
  · rw [if_pos hl] at h
    refine ⟨_, _, S0, m, st_entry h1 h2 r hl, ?_⟩
    show SX _ _ _ _ (exs F b (ds.map Slot.val ++ List.replicate (N.length - ps.length) .emp) S0)
    cases hr : exs F b (ds.map Slot.val ++ List.replicate (N.length - ps.length) .emp) S0 with
    | no => rw [hr] at h; exact h
    | xc _ _ => rw [hr] at h; exact h
    | ok ct S1 =>
      rw [hr] at h
      have nA : ∀ {σ : L2.St} {ρ : Env} (a : Addr), A0 a → Av ⟨A0, fun a o => H a = some o ∧ a ∉ m, m, H, m⟩ σ ρ a := fun a z => .inl z
      cases ct with
      | nx ρ => exact fun σ H1 m1 s1 => h .non H1 m1 s1.ent (s1.sr.less fun a z => nA a z) .non
      | rt d => exact fun v H1 m1 e1 sr1 r1 => h v H1 m1 e1 sr1 r1
      | rtF d => exact fun v H1 m1 e1 fr1 => h v H1 m1 e1 fr1.sr fr1.rv
      | br ρ => exact (show False from h).elim
      | xr xx ρ =>
        intro cl dd σ H1 m1 s1 r1
        refine h cl dd H1 m1 s1.ent (s1.sr.less fun a z => nA a z) ⟨r1.1, ?_⟩
        have r2 := r1.2
        cases hx : xx.arg with
        | none => rw [hx] at r2; exact r2
        | some d =>
          rw [hx] at r2
          obtain ⟨dx, v, e1, e2, e3⟩ := r2
          exact ⟨dx, v, e1, e2, e3.less fun a z => nA a z⟩
  · rw [if_neg hl] at h
    exact h.elim
theorem fn_lenF {F : Fns} {np n : Nat} {b : Sms} {vs : List V} {H : Hp} {Q : VK} {E : L2.XK} (h : spFr G (fnOfF F np n b) vs H Q E) : vs.length = np := by
  obtain ⟨ds, S, m, A, h1, h2, r, h⟩ := h
  rw [r.length]
  by_cases hd : ds.length = np
  · exact hd
  · unfold fnOfF at h
    rw [if_neg hd] at h
    exact h.elim
/-- .. for a def that tells a list of its own -/
theorem fn_okF {F : Fns} {fn gl cl : Nat → Str} {qual : Str} {params : PySem.Arguments} {body : List Stmt} {scope : Scope} {f : Addr} {fd : PySem.FuncData} {N ps : List Str} {b : Sms} (D : L2.FunD G.K x qual params body scope [] [] f fd)
    (hd : defB N ps fn gl cl scope body b = true) (w' : Wd P w mg base G F k fn gl cl) : L2.FnOk P w G.K mg base (L2.CX P w) (k + 1) f fd ps (spFr G (fnOfF F ps.length N.length b)) := by
  obtain ⟨S, hc⟩ := defB_ok hd
  refine D.ok S (fun vs H Q E h => fn_lenF h) fun cdv A outer s H vs Q E hr hsp => ?_
  have X' : XS G F k ⟨N, fn, gl, scope, none, cl, true⟩ (L2.cxOf (L2.CX P w) P w G.K mg base N qual scope f cdv A outer s H E) (fun cls d _ H => E cls d H) :=
    ⟨⟨w', rfl, rfl, S.nd, rfl, rfl, (fun _ => rfl), hr.units, (fun _ => hr), L2.takes_of rfl rfl rfl rfl, (fun z => nomatch z)⟩, L2.passes_of rfl, rfl, rfl⟩
  refine ⟨_, sndB b _ _ _ body X' S.kind hc, ?_⟩
  obtain ⟨ds, S0, m, A0, h1, h2, r, h⟩ := hsp
  unfold fnOfF at h
  by_cases hl : ds.length = ps.length
  · rw [if_pos hl] at h
    refine ⟨_, _, S0, m, st_entry h1 h2 r hl, ?_⟩
    show SX _ _ _ _ (exs F b (ds.map Slot.val ++ List.replicate (N.length - ps.length) .emp) S0)
    cases hr : exs F b (ds.map Slot.val ++ List.replicate (N.length - ps.length) .emp) S0 with
    | no => rw [hr] at h; exact h
    | xc _ _ => rw [hr] at h; exact h
    | ok ct S1 =>
      rw [hr] at h
      have nA : ∀ {σ : L2.St} {ρ : Env} (a : Addr), A0 a → Av ⟨A0, fun a o => H a = some o ∧ a ∉ m, m, H, m⟩ σ ρ a := fun a z => .inl z
      cases ct with
      | nx ρ => exact (show False from h).elim
      | rt d => exact (show False from h).elim
      | rtF d => exact fun v H1 m1 e1 fr1 => h v H1 m1 e1 fr1
      | br ρ => exact (show False from h).elim
      | xr xx ρ =>
        intro cl dd σ H1 m1 s1 r1
        refine h cl dd H1 m1 s1.ent (s1.sr.less fun a z => nA a z) ⟨r1.1, ?_⟩
        have r2 := r1.2
        cases hx : xx.arg with
        | none => rw [hx] at r2; exact r2
        | some d =>
          rw [hx] at r2
          obtain ⟨dx, v, e1, e2, e3⟩ := r2
          exact ⟨dx, v, e1, e2, e3.less fun a z => nA a z⟩
  · rw [if_neg hl] at h
    exact h.elim
theorem fn_at {F : Fns} {fn gl cl : Nat → Str} {qual : Str} {params : PySem.Arguments} {body : List Stmt} {scope : Scope} {f : Addr} {fd : PySem.FuncData} {N ps : List Str} {b : Sms} (D : L2.FunD G.K x qual params body scope [] [] f fd) (hf : mg x = some (.ref f))
    (hbd : L2.Binds G.K fd ps []) (hd : defB N ps fn gl cl scope body b = true) (w' : Wd P w mg base G F k fn gl cl) : FnAt P w mg base G (k + 1) x (fnOf F ps.length N.length b) :=
  ⟨f, fd, ps, hf, D.kp, hbd, fn_ok D hd w'⟩
theorem fn_atF {F : Fns} {fn gl cl : Nat → Str} {qual : Str} {params : PySem.Arguments} {body : List Stmt} {scope : Scope} {f : Addr} {fd : PySem.FuncData} {N ps : List Str} {b : Sms} (D : L2.FunD G.K x qual params body scope [] [] f fd) (hf : mg x = some (.ref f))
    (hbd : L2.Binds G.K fd ps []) (hd : defB N ps fn gl cl scope body b = true) (w' : Wd P w mg base G F k fn gl cl) : FnAtF P w mg base G (k + 1) x (fnOfF F ps.length N.length b) :=
  ⟨f, fd, ps, hf, D.kp, hbd, fn_okF D hd w'⟩
theorem FnAtF.at (h : FnAtF P w mg base G k x g) : FnAt P w mg base G k x g := by
  obtain ⟨f, fd, ps, h1, h2, h3, h4⟩ := h
  exact ⟨f, fd, ps, h1, h2, h3, h4.imp fun _ _ _ _ z => spFr.of z⟩
theorem FnAtF.mono (h : FnAtF P w mg base G j x g) (hk : j ≤ k) : FnAtF P w mg base G k x g := by
  obtain ⟨f, fd, ps, h1, h2, h3, h4⟩ := h
  exact ⟨f, fd, ps, h1, h2, h3, h4.mono hk⟩
end
/-- the law's own call -/
theorem law_sp {G : Gx} {g : Fn} {H : Hp} {a : Addr} {ns : List Int} (hs : SqL G.K H a (ns.map V.int)) (h : ∃ S, g [.scr ns] [] = .ok (.bl true) S) : spF G g [.ref a] H (fun v _ => v = .bl true) fun _ _ _ => False := by
  obtain ⟨S, h⟩ := h
  refine ⟨[.scr ns], [], [], fun _ => False, ⟨List.nodup_nil, rfl, fun i a c h => by simp at h⟩, fun _ z => z.elim, .cons (.scr (hs.imp (fun z => ⟨z, by simp, fun z => z⟩) fun z => z)) .nil, ?_⟩
  rw [h]
  exact fun v H' m' _ _ r => r.inv_bl
theorem cx_none {P : PySem.Program} {w : PySem.World} {outer : List PySem.Env} {H : Hp} {s : PySem.Shared} {e : Value} {s' : PySem.Shared} (h : L2.CX P w outer H s (fun _ _ _ => False) e s') : False := by
  obtain ⟨_, _, _, _, _, _, _, _, _, _, _, _, z⟩ := h
  exact z
/-- the law's end -/
theorem walk_ofW {l : PySem.W.OpenLaw} {n k : Nat} {q : PySem.Program} {loose : List Str} {XP : (Str → Option Value) → PySem.Heap → Prop} {YP : PySem.World → PySem.Heap → Prop} {d : PySem.DefRec} {x : Str}
    (hn : l.most = some n) (hn2 : n ≤ sizeLine) (hdf : d.params.defaults = []) (hr : Room k PySem.callerA)
    (F : ∀ (w : PySem.World) (mg : Str → Option Value) (fa : Addr) (h : PySem.Heap), YP w h → h.Ns PySem.mainGlobals mg → mg d.name = some (.ref fa) →
      ∃ (G : Gx) (g : Fn) (fd : PySem.FuncData), G.K.In h ∧ (∀ ns : List Int, ns.length ≤ n → ∃ S, g [.scr ns] [] = .ok (.bl true) S) ∧ (∀ (s : PySem.Shared) (u : Value), PySem.BindsTo s fd ⟨[u], []⟩ [(x, u)]) ∧
        ∀ base : PySem.Heap, G.K.In base → base.Ns PySem.mainGlobals mg → L2.FnOk l.prog w G.K mg base (L2.CX l.prog w) k fa fd [x] (spF G g)) :
    PySem.W.WalkO q loose XP YP l.row.toRowW d [] (fun f vs => PySem.call f vs) := by
  refine Att.attach_call hn hdf fun w s₀ s₁ mg mb fa o pm cd doc a vs ns G Y ho hd hcd hmg hobj hints hlen hg => ?_
  obtain ⟨G', g, fd, KX, hp, hb, hF⟩ := F w mg fa _ Y G.T.g hmg
  exact L2.law_call KX G.T.g G.T.b G.T.builtins G.T.nolimit hg hobj hints (Nat.le_trans hlen hn2) hr hF hb (fun H hO hS => law_sp hS (hp ns hlen)) fun H e s' h => cx_none h
section
variable {P : PySem.Program} {w : PySem.World} {mg : Str → Option Value} {base : PySem.Heap} {G : Gx} {k : Nat} {fn : Nat → Str}
theorem fns_nil : ∀ p ∈ ([] : List (Nat × Fn)), FnAt P w mg base G k (fn p.1) p.2 := fun _ h => nomatch h
theorem fns_cons {i : Nat} {g : Fn} {l : List (Nat × Fn)} (h : FnAt P w mg base G k (fn i) g) (t : ∀ p ∈ l, FnAt P w mg base G k (fn p.1) p.2) : ∀ p ∈ (i, g) :: l, FnAt P w mg base G k (fn p.1) p.2 := fun p hp => by
  rcases List.mem_cons.mp hp with rfl | hp
  · exact h
  · exact t p hp
theorem frs_nil : ∀ p ∈ ([] : List (Nat × Fn)), FnAtF P w mg base G k (fn p.1) p.2 := fun _ h => nomatch h
theorem frs_cons {i : Nat} {g : Fn} {l : List (Nat × Fn)} (h : FnAtF P w mg base G k (fn i) g) (t : ∀ p ∈ l, FnAtF P w mg base G k (fn p.1) p.2) : ∀ p ∈ (i, g) :: l, FnAtF P w mg base G k (fn p.1) p.2 := fun p hp => by
  rcases List.mem_cons.mp hp with rfl | hp
  · exact h
  · exact t p hp
def GloAt (mg : Str → Option Value) (G : Gx) (x : Str) (d : D) : Prop := ∃ v u, mg x = some u ∧ L2.RelV v u ∧ ∀ m A H, RV G.K m A H v d
theorem gls_nil : ∀ p ∈ ([] : List (Nat × D)), ∃ v u, mg (fn p.1) = some u ∧ L2.RelV v u ∧ ∀ m A H, RV G.K m A H v p.2 := fun _ h => nomatch h
theorem gls_cons {i : Nat} {g : D} {l : List (Nat × D)} (h : GloAt mg G (fn i) g) (t : ∀ p ∈ l, ∃ v u, mg (fn p.1) = some u ∧ L2.RelV v u ∧ ∀ m A H, RV G.K m A H v p.2) : ∀ p ∈ (i, g) :: l, ∃ v u, mg (fn p.1) = some u ∧ L2.RelV v u ∧ ∀ m A H, RV G.K m A H v p.2 := fun p hp => by
  rcases List.mem_cons.mp hp with rfl | hp
  · exact h
  · exact t p hp
end
/-- constants of the module -/
theorem rv_lit {K : PySem.W.Frag} {m : List Addr} {A : Addr → Prop} {H : Hp} {x : Str} {s : List Nat} (h : x.cps.toList = s) (hs : s.all (fun c => decide (c < 1114112)) = true ∧ s.length ≤ 1000 := by decide) : RV K m A H (.str x) (.str s) := by
  subst h
  exact .str x ⟨fun c hc => of_decide_eq_true (List.all_eq_true.mp hs.1 c hc), Nat.le_trans hs.2 (by rw [PySem.sizeLine_eq]; decide)⟩
theorem ktup_of {K : PySem.W.Frag} {m : List Addr} {A : Addr → Prop} {H : Hp} {p : Addr} {vs : List V} {ds : List D} (h : SqT K (fun _ => none) p vs) (r : RL K m A H vs ds) (b : ds.all strB = true := by decide) : RV K m A H (.ref p) (.tup ds) := by
  rcases h with (h | ⟨_, h⟩) | h
  · cases h
  · cases h
  · exact .ktp h b r
/-! ### classes of exceptions -/
def clOf (cs : List (Nat × Str)) (i : Nat) : Str := (cs.lookup i).getD ""
def excCB (K : PySem.W.Frag) (x : Str) : Bool :=
  He.eqO (PySem.W.findIn K (.ref (He.ga K x)) "__getattribute__") (some (some (.builtin "BaseException.__getattribute__"))) && (He.eqO (PySem.W.findIn K (.ref (He.ga K x)) "__getattr__") (some none) &&
  (PySem.W.hasDictIn K (He.ga K x) && (He.eqO (PySem.W.findIn K (.ref (He.ga K x)) "__class__") (some (some (.builtin "object.__class__"))) &&
  (He.eqO (PySem.W.specialIn K (.builtin "object.__class__") "__get__") (some (some (.builtin "getset_descriptor.__get__"))) && (decide (PySem.W.takesIn K (.builtin "object.__class__") = some true) && decide (PySem.W.mroIn K (He.ga K x) (.type "object") = some true))))))
def excAll (K : PySem.W.Frag) (cs : List (Nat × Str)) : Bool := cs.all fun p => decide (clOf cs p.1 = p.2) && ((He.Fa.exc p.2).ok K && (excCB K p.2 && cs.all fun q =>
  decide (PySem.W.exmOne K (.ref (He.ga K p.2)) (.ref (He.ga K q.2)) = some (p.1 == q.1 || q.1 == 1)) && decide (PySem.W.kitOne K (.ref (He.ga K p.2)) (.ref (He.ga K q.2)) = some (p.1 == q.1 || q.1 == 1))))
theorem exc_facts {K : PySem.W.Frag} {mg : Str → Option Value} {cs : List (Nat × Str)} {fld : Nat → Str} {ea : Addr} (h : excAll K cs = true) (hg : ∀ p ∈ cs, mg p.2 = some (.ref (He.ga K p.2))) :
    (∀ i ∈ cs.map (·.1), ∀ j ∈ cs.map (·.1), SubAt mg ⟨K, fun i => He.ga K (clOf cs i), fld, ea⟩ (clOf cs) i j (i == j || j == 1)) ∧ ∀ i ∈ cs.map (·.1), ExcAt mg ⟨K, fun i => He.ga K (clOf cs i), fld, ea⟩ (clOf cs) i := by
  have f := List.all_eq_true.mp h
  constructor
  · intro i hi j hj
    obtain ⟨p, hp, rfl⟩ := List.mem_map.mp hi
    obtain ⟨q, hq, rfl⟩ := List.mem_map.mp hj
    obtain ⟨p1, p2⟩ := ba (f p hp)
    obtain ⟨q1, _⟩ := ba (f q hq)
    have p1 := of_decide_eq_true p1
    have q1 := of_decide_eq_true q1
    obtain ⟨p2, p3⟩ := ba p2
    obtain ⟨p3, p4⟩ := ba p3
    obtain ⟨r1, r2⟩ := ba (List.all_eq_true.mp p4 q hq)
    obtain ⟨e1, e2, e3, e4⟩ := He.exc_ok p2
    obtain ⟨x1, x⟩ := ba p3
    obtain ⟨x2, x⟩ := ba x
    obtain ⟨x3, x⟩ := ba x
    obtain ⟨x4, x⟩ := ba x
    obtain ⟨x5, x⟩ := ba x
    obtain ⟨x6, x7⟩ := ba x
    refine ⟨?_, ?_, ?_, ?_⟩
    · show mg (clOf cs q.1) = some (.ref (He.ga K (clOf cs q.1)))
      rw [q1]; exact hg q hq
    · show PySem.W.exmOne K (.ref (He.ga K (clOf cs p.1))) (.ref (He.ga K (clOf cs q.1))) = _
      rw [p1, q1]; exact of_decide_eq_true r1
    · show PySem.W.kitOne K (.ref (He.ga K (clOf cs p.1))) (.ref (He.ga K (clOf cs q.1))) = _
      rw [p1, q1]; exact of_decide_eq_true r2
    · show L2.ExcC K (He.ga K (clOf cs p.1))
      rw [p1]
      exact ⟨He.eqO_ok x1, He.eqO_ok x2, e3, x3, He.eqO_ok x4, He.eqO_ok x5, of_decide_eq_true x6, of_decide_eq_true x7⟩
  · intro i hi
    obtain ⟨p, hp, rfl⟩ := List.mem_map.mp hi
    obtain ⟨p1, p2⟩ := ba (f p hp)
    have p1 := of_decide_eq_true p1
    obtain ⟨e1, e2, e3, e4⟩ := He.exc_ok (ba p2).1
    refine ⟨?_, ⟨_, _, _, _, PySem.F.excBase_ValueError, ?_⟩, ?_, ?_, ?_⟩
    · show mg (clOf cs p.1) = some (.ref (He.ga K (clOf cs p.1)))
      rw [p1]; exact hg p hp
    all_goals (show _ = _; first
      | (show PySem.W.excIn K (He.ga K (clOf cs p.1)) _ _ = true; rw [p1]; exact e1)
      | (show PySem.W.keepIn K (.ref (He.ga K (clOf cs p.1))) = true; rw [p1]; exact e2)
      | (show PySem.W.subIn K (.ref (He.ga K (clOf cs p.1))) _ = some true; rw [p1]; exact e3)
      | (show PySem.W.typeIn K (.ref (He.ga K (clOf cs p.1))) = _; rw [p1]; exact e4))
end Mi
/-! Mini: def f(mark): return mark.replace('x', '') == ''. -/
namespace Mi
open PySem (Str Addr Value Expr Stmt Scope PyData sizeLine Const NameKind Operator CmpOp Comprehension)
open L2 (V Hp HO Key upd Rd SqL SqT Cx VK R2 OpR CallR MtR IxR SlR PE PT PW PA PI PG PS PSs TE TT TA TI TG TS WX Takes Room Ends)
theorem repl_x : ∀ s : List Nat, PySem.StrLaws.replL [120] [] s = s.filter (· != 120)
  | [] => PySem.StrLaws.replL_nil
  | c :: r => by
    by_cases h : c = 120
    · subst h
      rw [PySem.StrLaws.replL_hit (by decide) (by simp)]
      simpa using repl_x r
    · rw [PySem.StrLaws.replL_miss (by simpa using h), repl_x r]
      simp [h]
def ovRet : List Stmt → Option (Expr × PySem.Pos)
  | [.Return (some e) p] => some (e, p)
  | _ => none
def ovEq1 : List CmpOp → Bool
  | [.Eq] => true
  | _ => false
def ovOne : List Expr → Option Expr
  | [e] => some e
  | _ => none
def ovTwo : List Expr → Option (Expr × Expr)
  | [e, f] => some (e, f)
  | _ => none
def ovCmp : Expr → Option (Expr × List CmpOp × List Expr × PySem.Pos)
  | .Compare a o b p => some (a, o, b, p)
  | _ => none
def ovCall : Expr → Option (Expr × List Expr × PySem.Pos)
  | .Call f es [] p => some (f, es, p)
  | _ => none
def ovAttr : Expr → Option (Expr × Str × PySem.Pos)
  | .Attribute e n p => some (e, n, p)
  | _ => none
def ovName : Expr → Option (Str × PySem.Pos)
  | .Name n p => some (n, p)
  | _ => none
def ovConst : Expr → Option (Const × Nat × PySem.Pos)
  | .Constant c j p => some (c, j, p)
  | _ => none
def ovStr : Const → Option Str
  | .str s => some s
  | _ => none
def cStr (e : Expr) : Option Str := (ovConst e).bind fun c => ovStr c.1
theorem cStr_ok {e : Expr} {x : Str} (h : cStr e = some x) : ∃ j p, e = .Constant (.str x) j p := by
  unfold cStr at h
  cases e with
  | Constant c j p =>
    cases c with
    | str s => cases h; exact ⟨j, p, rfl⟩
    | _ => cases h
  | _ => cases h
theorem ovRet_ok {b : List Stmt} {e : Expr} {p : PySem.Pos} (h : ovRet b = some (e, p)) : b = [.Return (some e) p] := by
  unfold ovRet at h
  split at h
  · cases h; rfl
  · cases h
theorem ovEq1_ok {o : List CmpOp} (h : ovEq1 o = true) : o = [.Eq] := by
  unfold ovEq1 at h
  split at h
  · rfl
  · cases h
theorem ovOne_ok {b : List Expr} {e : Expr} (h : ovOne b = some e) : b = [e] := by
  unfold ovOne at h
  split at h
  · cases h; rfl
  · cases h
theorem ovTwo_ok {b : List Expr} {e f : Expr} (h : ovTwo b = some (e, f)) : b = [e, f] := by
  unfold ovTwo at h
  split at h
  · cases h; rfl
  · cases h
theorem ovCmp_ok {x a : Expr} {o : List CmpOp} {b : List Expr} {p : PySem.Pos} (h : ovCmp x = some (a, o, b, p)) : x = .Compare a o b p := by
  unfold ovCmp at h
  split at h
  · cases h; rfl
  · cases h
theorem ovCall_ok {x f : Expr} {es : List Expr} {p : PySem.Pos} (h : ovCall x = some (f, es, p)) : x = .Call f es [] p := by
  unfold ovCall at h
  split at h
  · cases h; rfl
  · cases h
theorem ovAttr_ok {x f : Expr} {n : Str} {p : PySem.Pos} (h : ovAttr x = some (f, n, p)) : x = .Attribute f n p := by
  unfold ovAttr at h
  split at h
  · cases h; rfl
  · cases h
theorem ovName_ok {x : Expr} {n : Str} {p : PySem.Pos} (h : ovName x = some (n, p)) : x = .Name n p := by
  unfold ovName at h
  split at h
  · cases h; rfl
  · cases h
/-- such a body -/
def openV (body : List Stmt) : Option Bool :=
  (ovRet body).bind fun r => (ovCmp r.1).bind fun c => (ovOne c.2.2.1).bind fun u => (ovCall c.1).bind fun d => (ovAttr d.1).bind fun a => (ovName a.1).bind fun n => (ovTwo d.2.1).bind fun t =>
    some (ovEq1 c.2.1 && (decide (n.1 = "mark") && (decide (a.2.1 = "replace") && (decide (cStr t.1 = some ("x" : Str)) && (decide (cStr t.2 = some ("" : Str)) && (decide (cStr u = some ("" : Str)) && (a.2.2.endLine == d.2.2.line)))))))
theorem openV_ok {body : List Stmt} (h : openV body = some true) : ∃ (p1 ap p2 p3 p4 c0 c1 c2 : PySem.Pos) (j k i : Nat),
    body = [.Return (some (.Compare (.Call (.Attribute (.Name "mark" p1) "replace" ap) [.Constant (.str "x") j c0, .Constant (.str "") k c1] [] p2) [.Eq] [.Constant (.str "") i c2] p3)) p4] ∧ (ap.endLine == p2.line) = true := by
  unfold openV at h
  rcases r : ovRet body with _ | ⟨e, p4⟩
  · rw [r] at h; cases h
  rw [r, Option.bind_some] at h
  rcases c : ovCmp e with _ | ⟨x, o, ys, p3⟩
  · rw [c] at h; cases h
  rw [c, Option.bind_some] at h
  rcases u : ovOne ys with _ | y
  · rw [u] at h; cases h
  rw [u, Option.bind_some] at h
  rcases d : ovCall x with _ | ⟨fx, es, p2⟩
  · rw [d] at h; cases h
  rw [d, Option.bind_some] at h
  rcases a : ovAttr fx with _ | ⟨nx, at', ap⟩
  · rw [a] at h; cases h
  rw [a, Option.bind_some] at h
  rcases n : ovName nx with _ | ⟨nm, p1⟩
  · rw [n] at h; cases h
  rw [n, Option.bind_some] at h
  rcases t : ovTwo es with _ | ⟨y0, z0⟩
  · rw [t] at h; cases h
  rw [t, Option.bind_some] at h
  obtain ⟨h1, h⟩ := ba (Option.some.inj h)
  obtain ⟨h2, h⟩ := ba h
  obtain ⟨h3, h⟩ := ba h
  obtain ⟨h4, h⟩ := ba h
  obtain ⟨h5, h⟩ := ba h
  obtain ⟨h6, h7⟩ := ba h
  obtain ⟨j, c0, rfl⟩ := cStr_ok (of_decide_eq_true h4)
  obtain ⟨k, c1, rfl⟩ := cStr_ok (of_decide_eq_true h5)
  obtain ⟨i, c2, rfl⟩ := cStr_ok (of_decide_eq_true h6)
  have e2 : nm = "mark" := of_decide_eq_true h2
  have e3 : at' = "replace" := of_decide_eq_true h3
  refine ⟨p1, ap, p2, p3, p4, c0, c1, c2, j, k, i, ?_, h7⟩
  have ho := ovEq1_ok (o := o) h1
  rw [ovRet_ok r, ovCmp_ok c, ovOne_ok u, ovCall_ok d, ovAttr_ok a, ovName_ok n, ovTwo_ok t, ho, e2, e3]
def openB (scope : Scope) (body : List Stmt) : Bool :=
  decide (scope.kind = .function) && (!scope.isCoroutine && (!scope.isGenerator && (decide (scope.names.lookup ("mark" : Str) = some .local) && (scope.names.all (fun y => match y.2 with
    | .free => false
    | .cell => false
    | _ => true) && decide (openV body = some true)))))
section
variable {X : Cx}
theorem pet_cmp {op : CmpOp} {r : R2} {a b : Expr} {ta tb : TE} {pos : PySem.Pos} (ho : OpR X (PySem.compareOp op) r) (ha : L2.PET X a ta) (hb : PE X b tb) (hm : PySem.behindInMarks op b = false) : L2.PET X (.Compare a [op] [b] pos) (L2.tOp r ta tb) :=
  fun pins s σ H Q h0 I h => PySem.wpAny_Compare1 (L2.thn (ha pins s σ H _ h0 I h) fun v s1 ⟨x, H1, I1, r1, q1⟩ => L2.thn (hb.run pins s1 σ H1 _ I1 q1) fun u s2 ⟨y, H2, I2, r2, q2⟩ => ho pins s2 σ H2 x y v u Q I2 r1 r2 q2) hm
end
section
variable {P : PySem.Program} {w : PySem.World} {mg : Str → Option Value} {base : PySem.Heap} {G : Gx} {k : Nat} {x : Str}
theorem open_len {vs : List V} {H : Hp} {Q : VK} {E : L2.XK} (h : spF G fnOpen vs H Q E) : vs.length = 1 := by
  obtain ⟨ds, S, m, A, h1, h2, r, h⟩ := h
  rw [r.length]
  match ds, h with
  | [_], _ => rfl
  | [], h => exact (show False from h).elim
  | a :: b :: c, h => exact (show False from (by cases a <;> exact h)).elim
theorem open_ok {qual : Str} {params : PySem.Arguments} {body : List Stmt} {scope : Scope} {f : Addr} {fd : PySem.FuncData} (D : L2.FunD G.K x qual params body scope [] [] f fd) (hd : openB scope body = true) :
    L2.FnOk P w G.K mg base (L2.CX P w) (k + 1) f fd ["mark"] (spF G fnOpen) := by
  obtain ⟨oc, od, dV, kV, doc, pm, an, cdv, ct, osl, rfl, lk, hcd, _, _⟩ := D.ex
  obtain ⟨h1, hd⟩ := ba hd
  obtain ⟨h2, hd⟩ := ba hd
  obtain ⟨h3, hd⟩ := ba hd
  obtain ⟨h4, hd⟩ := ba hd
  obtain ⟨h5, hd⟩ := ba hd
  have hl := of_decide_eq_true h4
  have S : L2.FnScope ["mark"] ["mark"] scope := ⟨of_decide_eq_true h1, by simpa using h2, by simpa using h3, by decide, rfl, fun x hx => by
    rw [List.mem_singleton.mp hx]
    exact .inl hl, fun y hy e => by
    have z := List.all_eq_true.mp h5 y hy
    rw [e] at z
    cases z⟩
  obtain ⟨p1, ap, p2, p3, p4, c0, c1, c2, j, i, j2, rfl, e6⟩ := openV_ok (of_decide_eq_true hd)
  refine L2.fn_ofT lk hcd S (fun y hy e => ?_) (by decide) (fun vs H Q E h => open_len h) fun A outer s H vs Q E hr hsp => ?_
  · have z := List.all_eq_true.mp h5 y hy
    rw [e] at z
    cases z
  · have hX : (L2.cxOf (L2.CX P w) P w G.K mg base ["mark"] qual scope f cdv A outer s H E).A.units + 64 < PySem.cLine := hr.units
    refine ⟨_, CwR.psst_one (CwR.pst_ret (pet_cmp (og_eq hX) (CwR.pet_replC (L2.pe_var (i := 0) rfl (.inl hl)) (by decide) rfl rfl e6) L2.pe_str rfl)), ?_⟩
    obtain ⟨ds, S0, m, A0, g1, g2, r, h⟩ := hsp
    match ds, r, h with
    | [.str t], r, h =>
      cases r with
      | cons r1 r2 =>
        cases r2
        cases r1 with
        | str tx ok =>
          simp only [fnOpen] at h
          by_cases hlen : tx.cps.toList.length ≤ lim
          · rw [if_pos hlen] at h
            have hlen' : tx.length ≤ 1000000 := hlen
            have er : (PySem.Txt.replace tx "x" "").cps.toList = tx.cps.toList.filter (· != 120) := by
              rw [PySem.StrLaws.replace_list (by decide)]
              exact repl_x _
            refine ⟨.str tx, rfl, tx, rfl, by rw [show ("" : Str).length = 0 from rfl]; omega, ?_⟩
            refine ⟨m, A0, .str _, .str _, .bl (tx.cps.toList.all (· == 120)), ⟨g2, fun a h => g1.live h⟩, .str _ ?_, .str _ ⟨by decide, by decide⟩, ?_, fun v H' n r' => ?_⟩
            · rw [er]
              exact ⟨fun c hc => ok.1 c (List.mem_filter.mp hc).1, Nat.le_trans (List.length_filter_le _ _) ok.2⟩
            · rw [er, op_eq]
              have : eqO (.str (tx.cps.toList.filter (· != 120))) (.str []) = some (tx.cps.toList.all (· == 120)) := by
                simp only [eqO, pl, and_self, if_true, deq]
                congr 1
                rw [Bool.eq_iff_iff]
                simp only [beq_iff_eq, List.filter_eq_nil_iff, List.all_eq_true, bne_iff_ne, ne_eq, Decidable.not_not]
              exact congrArg (Option.map Mi.D.bl) this
            · refine h v H' m n.ext (g1.grow n.ext (fun a z => .inl z) (fun a ha => ?_)) r'
              rcases n with rfl | ⟨p, o, hp, rfl⟩
              · rfl
              · exact L2.upd_ne fun e => g1.live ha (e ▸ hp)
          · rw [if_neg hlen] at h
            exact h.elim
theorem open_at {qual : Str} {params : PySem.Arguments} {body : List Stmt} {scope : Scope} {f : Addr} {fd : PySem.FuncData} (D : L2.FunD G.K x qual params body scope [] [] f fd) (hf : mg x = some (.ref f))
    (hbd : L2.Binds G.K fd ["mark"] []) (hd : openB scope body = true) : FnAt P w mg base G (k + 1) x fnOpen :=
  ⟨f, fd, ["mark"], hf, D.kp, hbd, open_ok D hd⟩
end
end Mi
namespace Lw
open Mi
open PySem (Str Addr Value Expr Stmt Scope)
/-- is_number: 0 thing, 1 least, 2 most -/
def b_is_number : Sms :=
  (.cons (.ret (.and (.isi (.var 0) .int) (.and (.nt (.isi (.var 0) .bool)) (.chain .le .le (.var 1) (.var 0) (.var 2)))))
  .nil)
def fn_is_number : Fn := fnOf (tabOf [] []) 3 3 b_is_number
/-- lowest: 0 one, 1 other, 2 great, 3 small -/
def b_lowest : Sms :=
  (.cons (.par 2 3 (.var 0) (.var 1))
  (.cons (.whl (.op .gt (.var 3) (.cst (.int 0))) (.cons (.par 2 3 (.var 3) (.op .mod (.var 2) (.var 3)))
  .nil))
  (.cons (.ret (.tup (.cons (.op .fdv (.var 0) (.var 2)) (.cons (.op .fdv (.var 1) (.var 2)) .nil))))
  .nil)))
def fn_lowest : Fn := fnOf (tabOf [] []) 2 4 b_lowest
/-- need_places: 0 found, 1 one, 2 other -/
def b_need_places : Sms :=
  (.cons (.ifs (.or (.nt (.isi (.var 0) .list)) (.or (.op .gt (.f1 .len (.var 0)) (.cst (.int 8))) (.nt (.f1 .all (.comp (.call 11 (.cons (.var 1) (.cons (.cst (.int 1)) (.cons (.cst (.int 8)) .nil)))) (.name 1) (.seq (.var 0)) [1]))))) (.cons .nev
  .nil) .nil)
  (.cons (.ifs (.op .ne (.compIf (.var 1) (.name 1) (.seq (.var 0)) (.op .ne (.var 1) (.op .add (.cst (.int 1)) (.f1 .len (.compIf (.var 2) (.name 2) (.seq (.var 0)) (.op .lt (.var 2) (.var 1)) [2])))) [1]) (.lst .nil)) (.cons .nev
  .nil) .nil)
  .nil))
def fn_need_places : Fn := fnOf (tabOf [(11, fn_is_number)] []) 1 3 b_need_places
/-- need_table: 0 table, 1 one -/
def b_need_table : Sms :=
  (.cons (.ifs (.or (.nt (.isi (.var 0) .list)) (.or (.op .gt (.f1 .len (.var 0)) (.cst (.int 8))) (.nt (.f1 .all (.comp (.call 11 (.cons (.var 1) (.cons (.cst (.int 0)) (.cons (.cst (.int 999)) .nil)))) (.name 1) (.seq (.var 0)) [1]))))) (.cons .nev
  .nil) .nil)
  (.cons (.ifs (.op .ne (.var 0) (.rev (.f1 .sorted (.var 0)))) (.cons .nev
  .nil) .nil)
  .nil))
def fn_need_table : Fn := fnOf (tabOf [(11, fn_is_number)] []) 1 2 b_need_table
/-- points: 0 places, 1 table, 2 found, 3 place, 4 many -/
def b_points : Sms :=
  (.cons (.expr (.call 65 (.cons (.var 0) .nil)))
  (.cons (.expr (.call 66 (.cons (.var 1) .nil)))
  (.cons (.new 2)
  (.cons (.each (.name 3) (.seq (.var 0)) (.cons (.asg (.name 4) (.lmeth .count (.var 0) (.var 3)))
  (.cons (.app 2 (.call 64 (.cons (.f1 .sum (.slc (.var 1) (some (.op .sub (.var 3) (.cst (.int 1)))) (some (.op .add (.op .sub (.var 3) (.cst (.int 1))) (.var 4))))) (.cons (.var 4) .nil))))
  .nil)))
  (.cons (.ret (.own 2))
  .nil)))))
def fn_points : Fn := fnOf (tabOf [(65, fn_need_places), (66, fn_need_table), (64, fn_lowest)] []) 2 5 b_points
/-- _law_drawn: 0 script, 1 k, 2 many, 3 cell, 4 turn, 5 rest -/
def b__law_drawn : Sms :=
  (.cons (.asg (.name 3) (.op .mul (.cst (.int 7)) (.var 1)))
  (.cons (.ifs (.op .ne (.var 0) (.lst .nil)) (.cons (.asg (.name 3) (.idx (.var 0) (.op .mod (.var 1) (.f1 .len (.var 0)))))
  (.cons (.asg (.name 4) (.op .fdv (.var 1) (.f1 .len (.var 0))))
  (.cons (.ifs (.and (.op .ge (.var 3) (.op .pow (.cst (.int 10)) (.cst (.int 18)))) (.op .lt (.var 4) (.cst (.int 60)))) (.cons (.asg (.name 5) (.op .fdv (.var 3) (.op .pow (.cst (.int 10)) (.cst (.int 18)))))
  (.cons (.whl (.and (.op .gt (.var 5) (.cst (.int 0))) (.op .gt (.var 4) (.cst (.int 0)))) (.cons (.asg (.name 5) (.op .fdv (.var 5) (.cst (.int 1000000))))
  (.cons (.asg (.name 4) (.op .sub (.var 4) (.cst (.int 1))))
  .nil)))
  (.cons (.ifs (.op .gt (.var 5) (.cst (.int 0))) (.cons (.ret (.op .mod (.op .mod (.var 5) (.cst (.int 1000000))) (.var 2)))
  .nil) .nil)
  .nil))) .nil)
  (.cons (.asg (.name 3) (.op .add (.var 3) (.op .mul (.cst (.int 6553)) (.op .fdv (.var 1) (.f1 .len (.var 0))))))
  .nil)))) .nil)
  (.cons (.asg (.name 3) (.op .mod (.op .add (.op .mul (.op .mod (.var 3) (.cst (.int 2147483563))) (.cst (.int 69069))) (.op .mul (.cst (.int 104723)) (.op .add (.var 1) (.cst (.int 1))))) (.cst (.int 2147483563))))
  (.cons (.asg (.name 3) (.op .mod (.op .add (.op .mul (.var 3) (.var 3)) (.op .fdv (.var 3) (.cst (.int 3)))) (.cst (.int 2147483399))))
  (.cons (.ret (.op .mod (.op .fdv (.op .mod (.op .add (.op .mul (.var 3) (.var 3)) (.op .fdv (.var 3) (.cst (.int 7)))) (.cst (.int 2147483647))) (.cst (.int 11))) (.var 2)))
  .nil)))))
def fn__law_drawn : Fn := fnOf (tabOf [] []) 3 6 b__law_drawn
/-- _law_places_drawn: 0 script, 1 at, 2 many, 3 marks, 4 k, 5 one, 6 other -/
def b__law_places_drawn : Sms :=
  (.cons (.asg (.name 3) (.comp (.call 3 (.cons (.var 0) (.cons (.op .add (.var 1) (.var 4)) (.cons (.cst (.int 5)) .nil)))) (.name 4) (.rng (.var 2)) [4]))
  (.cons (.ret (.comp (.op .add (.cst (.int 1)) (.f1 .len (.compIf (.var 6) (.name 6) (.seq (.var 3)) (.op .lt (.var 6) (.var 5)) [6]))) (.name 5) (.seq (.var 3)) [5]))
  .nil))
def fn__law_places_drawn : Fn := fnOf (tabOf [(3, fn__law_drawn)] []) 3 7 b__law_places_drawn
/-- _law_table: 0 script, 1 at, 2 limit, 3 found, 4 k -/
def b__law_table : Sms :=
  (.cons (.asg (.name 2) (.idx (.lst (.cons (.cst (.int 10)) (.cons (.cst (.int 1000)) .nil))) (.call 3 (.cons (.var 0) (.cons (.op .add (.var 1) (.cst (.int 9))) (.cons (.cst (.int 2)) .nil))))))
  (.cons (.asg (.name 3) (.comp (.call 3 (.cons (.var 0) (.cons (.op .add (.op .add (.var 1) (.cst (.int 1))) (.var 4)) (.cons (.var 2) .nil)))) (.name 4) (.rng (.call 3 (.cons (.var 0) (.cons (.var 1) (.cons (.cst (.int 9)) .nil))))) [4]))
  (.cons (.ret (.rev (.f1 .sorted (.var 3))))
  .nil)))
def fn__law_table : Fn := fnOf (tabOf [(3, fn__law_drawn)] []) 2 5 b__law_table
/-- law: 0 script, 1 many, 2 found, 3 table, 4 told, 5 total, 6 turn, 7 flat, 8 small, 9 twice, 10 pairs, 11 at, 12 one, 13 place, 14 other, 15 size -/
def b_law : Sms :=
  (.cons (.asg (.name 1) (.call 3 (.cons (.var 0) (.cons (.cst (.int 9)) (.cons (.cst (.int 9)) .nil)))))
  (.cons (.asg (.name 2) (.call 69 (.cons (.var 0) (.cons (.cst (.int 0)) (.cons (.var 1) .nil)))))
  (.cons (.asg (.name 3) (.call 70 (.cons (.var 0) (.cons (.cst (.int 10)) .nil))))
  (.cons (.asg (.name 4) (.call 67 (.cons (.var 2) (.cons (.var 3) .nil))))
  (.cons (.asg (.name 5) (.f1 .sum (.comp (.op .mul (.idx (.var 12) (.cst (.int 0))) (.op .fdv (.cst (.int 840)) (.idx (.var 12) (.cst (.int 1))))) (.name 12) (.seq (.var 4)) [12])))
  (.cons (.ifs (.op .ne (.compIf (.var 12) (.name 12) (.seq (.var 4)) (.nrng (.idx (.var 12) (.cst (.int 1))) (.cst (.int 1)) (.cst (.int 9))) [12]) (.lst .nil)) (.cons (.ret (.cst (.bl false)))
  .nil) .nil)
  (.cons (.ifs (.op .ne (.var 5) (.op .mul (.cst (.int 840)) (.f1 .sum (.slc (.var 3) none (some (.var 1)))))) (.cons (.ret (.cst (.bl false)))
  .nil) .nil)
  (.cons (.each (.pair (.name 11) (.name 12)) (.enm (.var 4)) (.cons (.each (.pair (.name 13) (.name 14)) (.enm (.var 4)) (.cons (.ifs (.and (.op .lt (.idx (.var 2) (.var 11)) (.idx (.var 2) (.var 13))) (.op .lt (.op .mul (.idx (.var 12) (.cst (.int 0))) (.idx (.var 14) (.cst (.int 1)))) (.op .mul (.idx (.var 14) (.cst (.int 0))) (.idx (.var 12) (.cst (.int 1)))))) (.cons (.ret (.cst (.bl false)))
  .nil) .nil)
  (.cons (.ifs (.and (.op .eq (.idx (.var 2) (.var 11)) (.idx (.var 2) (.var 13))) (.op .ne (.var 12) (.var 14))) (.cons (.ret (.cst (.bl false)))
  .nil) .nil)
  .nil)))
  (.cons (.ifs (.op .ne (.compIf (.var 15) (.name 15) (.rng2 (.cst (.int 2)) (.cst (.int 9))) (.and (.op .eq (.op .mod (.idx (.var 12) (.cst (.int 0))) (.var 15)) (.cst (.int 0))) (.op .eq (.op .mod (.idx (.var 12) (.cst (.int 1))) (.var 15)) (.cst (.int 0)))) [15]) (.lst .nil)) (.cons (.ret (.cst (.bl false)))
  .nil) .nil)
  .nil)))
  (.cons (.asg (.name 6) (.call 3 (.cons (.var 0) (.cons (.cst (.int 30)) (.cons (.op .add (.var 1) (.cst (.int 1))) .nil)))))
  (.cons (.ifs (.op .ne (.call 67 (.cons (.op .add (.slc (.var 2) (some (.var 6)) none) (.slc (.var 2) none (some (.var 6)))) (.cons (.var 3) .nil))) (.op .add (.slc (.var 4) (some (.var 6)) none) (.slc (.var 4) none (some (.var 6))))) (.cons (.ret (.cst (.bl false)))
  .nil) .nil)
  (.cons (.asg (.name 7) (.call 3 (.cons (.var 0) (.cons (.cst (.int 31)) (.cons (.cst (.int 1000)) .nil)))))
  (.cons (.ifs (.or (.op .ne (.call 67 (.cons (.var 2) (.cons (.op .mul (.lst (.cons (.var 7) .nil)) (.cst (.int 8))) .nil))) (.op .mul (.lst (.cons (.tup (.cons (.var 7) (.cons (.cst (.int 1)) .nil))) .nil)) (.var 1))) (.op .ne (.call 67 (.cons (.var 2) (.cons (.lst .nil) .nil))) (.op .mul (.lst (.cons (.tup (.cons (.cst (.int 0)) (.cons (.cst (.int 1)) .nil))) .nil)) (.var 1)))) (.cons (.ret (.cst (.bl false)))
  .nil) .nil)
  (.cons (.asg (.name 8) (.comp (.op .fdv (.var 12) (.cst (.int 3))) (.name 12) (.seq (.var 3)) [12]))
  (.cons (.asg (.name 9) (.call 67 (.cons (.var 2) (.cons (.comp (.op .mul (.cst (.int 2)) (.var 12)) (.name 12) (.seq (.var 8)) [12]) .nil))))
  (.cons (.asg (.name 10) (.lzip (.var 9) (.call 67 (.cons (.var 2) (.cons (.var 8) .nil)))))
  (.cons (.ret (.op .eq (.compIf (.cst (.int 1)) (.pair (.name 12) (.name 14)) (.seq (.var 10)) (.op .ne (.op .mul (.idx (.var 12) (.cst (.int 0))) (.idx (.var 14) (.cst (.int 1)))) (.op .mul (.op .mul (.cst (.int 2)) (.idx (.var 14) (.cst (.int 0)))) (.idx (.var 12) (.cst (.int 1))))) [12, 14]) (.lst .nil)))
  .nil))))))))))))))))
def fn_law : Fn := fnOf (tabOf [(3, fn__law_drawn), (69, fn__law_places_drawn), (70, fn__law_table), (67, fn_points)] []) 1 16 b_law
/-! ### lists of numbers -/
theorem drawn_eq : fn__law_drawn = fnDraw := rfl
def ints_ (l : List Int) : D := .lst (l.map D.int)
theorem intsD_map : ∀ l : List Int, intsD (l.map D.int) = some l
  | [] => rfl
  | i :: l => by rw [List.map_cons, intsD, intsD_map l]; rfl
theorem ints_len (l : List Int) : b1 .len (ints_ l) = some (.int (l.length : Int)) := by simp [ints_, b1]
theorem ints_sum (l : List Int) : b1 .sum (ints_ l) = some (.int l.sum) := by simp [ints_, b1, intsD_map]
theorem ints_sort (l : List Int) : b1 .sorted (ints_ l) = some (ints_ (sortI l)) := by simp [ints_, b1, sortD, intsD_map]
theorem ints_rev (l : List Int) : revD (ints_ l) = some (ints_ l.reverse) := by simp [ints_, revD]
theorem ints_list (l : List Int) : b1 .list (ints_ l) = some (ints_ l) := rfl
theorem ints_count (l : List Int) (k : Int) : lm .count (ints_ l) (.int k) = some (.int (l.count k : Nat)) := by simp [ints_, lm, intsD_map]
theorem ints_slc (l : List Int) (a b : Option Int) : slc (ints_ l) a b = some (ints_ (cut l a b)) := by simp [ints_, slc, cut]
theorem ints_plain (l : List Int) : pl 20 (ints_ l) = true := by simp [ints_, pl]
theorem i_eq (a b : Int) : eqO (.int a) (.int b) = some (decide (a = b)) := by
  rw [eq_plain rfl rfl, deq]
  congr 1
theorem ints_isl (l : List Int) : isA (ints_ l) .list = some true := rfl
theorem all_true {α : Type} (l : List α) : b1 .all (.lst (l.map fun _ => D.bl true)) = some (.bl true) := by
  have : boolsD (l.map fun _ => D.bl true) = some (l.map fun _ => true) := by
    induction l with
    | nil => rfl
    | cons a l ih => rw [List.map_cons, boolsD, ih]; rfl
  simp [b1, this]
theorem seq_ints {F : Fns} {i : Nat} {ρ : Env} {S : Sto} {l : List Int} (h : ρ[i]? = some (.val (ints_ l))) : evIt F (.seq (.var i)) ρ S = .ok (l.map D.int) S := by
  rw [evIt, r_var, h]; rfl
theorem is_number_int (a l m : Int) (S : Sto) : fn_is_number [.int a, .int l, .int m] S = .ok (.bl (decide (l ≤ a) && decide (a ≤ m))) S := by
  have i1 : isA (.int a) .int = some true := rfl
  have i2 : isA (.int a) .bool = some false := rfl
  (unfold fn_is_number; simp only [fn1, fn2, fn3, fn4, fF1, fF2, Nat.reduceSub, List.replicate_succ, List.replicate_zero])
  by_cases h : l ≤ a
  · simp [exs_cons, exs_nil, exsK_nx, exsK_ap, ex_ifs, ifK_t, ifK_f, ex_asg1, ex_asg, ex_ret, ex_expr, ex_pass, ex_new, r_var, varR_val, r_own, ownR_own, r_cst, r_glo, r_op, r_chain, r_neg, negR_some, r_nt, r_and, r_or, r_ite, r_lst, r_tup, r_idx, r_slc0, r_slc1, r_slc2, r_slc3, r_rev, r_f1, r_f2, r_meth, r_isi, r_call, callR_ok, r_callO, callO_ok, r_lmeth, lmR_count, lmR_index, r_nrng, nrR_int, r_lzip, ex_cpy, ex_par, ex_retF, tabY_fn, tabY_gl, r_nil, r_cons, tab_fn, tab_gl, tabX_fn, tabX_gl, look_hit, look_miss, bindT, op_add, op_sub, op_lt, op_le, op_gt, op_ge, op_eq, op_ne, op_in, op_nin, op_is, op_isn, small_ok, b_is_number, i1, i2, h]
  · simp [exs_cons, exs_nil, exsK_nx, exsK_ap, ex_ifs, ifK_t, ifK_f, ex_asg1, ex_asg, ex_ret, ex_expr, ex_pass, ex_new, r_var, varR_val, r_own, ownR_own, r_cst, r_glo, r_op, r_chain, r_neg, negR_some, r_nt, r_and, r_or, r_ite, r_lst, r_tup, r_idx, r_slc0, r_slc1, r_slc2, r_slc3, r_rev, r_f1, r_f2, r_meth, r_isi, r_call, callR_ok, r_callO, callO_ok, r_lmeth, lmR_count, lmR_index, r_nrng, nrR_int, r_lzip, ex_cpy, ex_par, ex_retF, tabY_fn, tabY_gl, r_nil, r_cons, tab_fn, tab_gl, tabX_fn, tabX_gl, look_hit, look_miss, bindT, op_add, op_sub, op_lt, op_le, op_gt, op_ge, op_eq, op_ne, op_in, op_nin, op_is, op_isn, small_ok, b_is_number, i1, i2, h]
theorem idx0 (x : D) (r : List D) : idx (.lst (x :: r)) (.int 0) = some x := by
  have : (0 : Int) < (r.length : Int) + 1 := by omega
  simp [idx, at_, ix, this]
/-! ### lowest terms -/
theorem low_loop (F : Fns) (a b : Slot) (S : Sto) : ∀ (n g s : Nat), s < n → whileF (fun ρ S => (ev F (.op .gt (.var 3) (.cst (.int 0))) ρ S).bind asB) (fun ρ S => exs F (.cons (.par 2 3 (.var 3) (.op .mod (.var 2) (.var 3))) .nil) ρ S) n [a, b, .val (.int g), .val (.int s)] S = .ok (.nx [a, b, .val (.int (Nat.gcd g s : Nat)), .val (.int 0)]) S
  | 0, g, s, h => by omega
  | n + 1, g, s, h => by
    unfold whileF
    by_cases h0 : s = 0
    · subst h0
      simp [exs_cons, exs_nil, exsK_nx, exsK_ap, ex_ifs, ifK_t, ifK_f, ex_asg1, ex_asg, ex_ret, ex_expr, ex_pass, ex_new, r_var, varR_val, r_own, ownR_own, r_cst, r_glo, r_op, r_chain, r_neg, negR_some, r_nt, r_and, r_or, r_ite, r_lst, r_tup, r_idx, r_slc0, r_slc1, r_slc2, r_slc3, r_rev, r_f1, r_f2, r_meth, r_isi, r_call, callR_ok, r_callO, callO_ok, r_lmeth, lmR_count, lmR_index, r_nrng, nrR_int, r_lzip, ex_cpy, ex_par, ex_retF, tabY_fn, tabY_gl, r_nil, r_cons, tab_fn, tab_gl, tabX_fn, tabX_gl, look_hit, look_miss, bindT, op_add, op_sub, op_lt, op_le, op_gt, op_ge, op_eq, op_ne, op_in, op_nin, op_is, op_isn, small_ok]
    · have hp : (0 : Int) < (s : Int) := by omega
      have e := low_loop F a b S n s (g % s) (by have := Nat.mod_lt g (Nat.pos_of_ne_zero h0); omega)
      have em : op2 .mod (.int (g : Int)) (.int (s : Int)) = some (.int ((g % s : Nat) : Int)) := by rw [op_mod hp]; rfl
      have eg : Nat.gcd s (g % s) = Nat.gcd g s := by rw [Nat.gcd_comm s, ← Nat.gcd_rec, Nat.gcd_comm]
      rw [eg] at e
      rw [← e]
      simp [exs_cons, exs_nil, exsK_nx, exsK_ap, ex_ifs, ifK_t, ifK_f, ex_asg1, ex_asg, ex_ret, ex_expr, ex_pass, ex_new, r_var, varR_val, r_own, ownR_own, r_cst, r_glo, r_op, r_chain, r_neg, negR_some, r_nt, r_and, r_or, r_ite, r_lst, r_tup, r_idx, r_slc0, r_slc1, r_slc2, r_slc3, r_rev, r_f1, r_f2, r_meth, r_isi, r_call, callR_ok, r_callO, callO_ok, r_lmeth, lmR_count, lmR_index, r_nrng, nrR_int, r_lzip, ex_cpy, ex_par, ex_retF, tabY_fn, tabY_gl, r_nil, r_cons, tab_fn, tab_gl, tabX_fn, tabX_gl, look_hit, look_miss, bindT, op_add, op_sub, op_lt, op_le, op_gt, op_ge, op_eq, op_ne, op_in, op_nin, op_is, op_isn, small_ok, hp, em, Nat.pos_of_ne_zero h0, h0]
def lowD (a b : Nat) : D := .tup [.int (a / Nat.gcd a b : Nat), .int (b / Nat.gcd a b : Nat)]
theorem lowest_ok (a b : Nat) (S : Sto) (hb : 0 < b) (hl : b < 100) : fn_lowest [.int a, .int b] S = .ok (lowD a b) S := by
  have e := low_loop (tabOf [] []) (.val (.int a)) (.val (.int b)) S fuel a b (by unfold fuel; omega)
  have hg : 0 < Nat.gcd a b := Nat.gcd_pos_of_pos_right a hb
  have hgl : Nat.gcd a b ≤ b := Nat.gcd_le_right a hb
  have f1 : op2 .fdv (.int (a : Int)) (.int (Nat.gcd a b : Nat)) = some (.int ((a / Nat.gcd a b : Nat) : Int)) := by rw [op_fdv (by omega)]; rfl
  have f2 : op2 .fdv (.int (b : Int)) (.int (Nat.gcd a b : Nat)) = some (.int ((b / Nat.gcd a b : Nat) : Int)) := by rw [op_fdv (by omega)]; rfl
  have hw : ex (tabOf [] []) (.whl (.op .gt (.var 3) (.cst (.int 0))) (.cons (.par 2 3 (.var 3) (.op .mod (.var 2) (.var 3))) .nil)) [.val (.int a), .val (.int b), .val (.int a), .val (.int b)] S = .ok (.nx [.val (.int a), .val (.int b), .val (.int (Nat.gcd a b : Nat)), .val (.int 0)]) S := by
    rw [ex]; exact e
  (unfold fn_lowest; simp only [fn1, fn2, fn3, fn4, fF1, fF2, Nat.reduceSub, List.replicate_succ, List.replicate_zero])
  unfold lowD
  generalize Nat.gcd a b = g at *
  simp [exs_cons, exs_nil, exsK_nx, exsK_ap, ex_ifs, ifK_t, ifK_f, ex_asg1, ex_asg, ex_ret, ex_expr, ex_pass, ex_new, r_var, varR_val, r_own, ownR_own, r_cst, r_glo, r_op, r_chain, r_neg, negR_some, r_nt, r_and, r_or, r_ite, r_lst, r_tup, r_idx, r_slc0, r_slc1, r_slc2, r_slc3, r_rev, r_f1, r_f2, r_meth, r_isi, r_call, callR_ok, r_callO, callO_ok, r_lmeth, lmR_count, lmR_index, r_nrng, nrR_int, r_lzip, ex_cpy, ex_par, ex_retF, tabY_fn, tabY_gl, r_nil, r_cons, tab_fn, tab_gl, tabX_fn, tabX_gl, look_hit, look_miss, bindT, op_add, op_sub, op_lt, op_le, op_gt, op_ge, op_eq, op_ne, op_in, op_nin, op_is, op_isn, small_ok, b_lowest, hw, f1, f2]
/-! ### places and tables -/
def lessN (ps : List Int) (p : Int) : Nat := (ps.filter fun q => decide (q < p)).length
structure Places (ps : List Int) : Prop where
  len : ps.length ≤ 8
  rng : ∀ p ∈ ps, 1 ≤ p ∧ p ≤ 8
  own : ∀ p ∈ ps, p = 1 + (lessN ps p : Int)
structure Table (t : List Int) : Prop where
  len : t.length ≤ 8
  rng : ∀ p ∈ t, 0 ≤ p ∧ p ≤ 999
  down : t = (sortI t).reverse
theorem len_map (l : List Int) : b1 .len (.lst (l.map D.int)) = some (.int (l.length : Int)) := ints_len l
theorem filt_len (l : List Int) (p : Int → Bool) : b1 .len (.lst ((l.filter p).map D.int)) = some (.int ((l.filter p).length : Int)) := ints_len (l.filter p)
theorem need_places_ok {ps : List Int} (h : Places ps) (S : Sto) : fn_need_places [ints_ ps] S = .ok .non S := by
  have hl := h.len
  (unfold fn_need_places; simp only [fn1, fn2, fn3, fn4, fF1, fF2, Nat.reduceSub, List.replicate_succ, List.replicate_zero])
  have c1 : ∀ F : Fns, F.fn 11 = some fn_is_number → ev F (.comp (.call 11 (.cons (.var 1) (.cons (.cst (.int 1)) (.cons (.cst (.int 8)) .nil)))) (.name 1) (.seq (.var 0)) [1]) [.val (ints_ ps), .emp, .emp] S = .ok (.lst (ps.map fun _ => .bl true)) S := fun F f11 => by
    refine comp_map (l := ps) D.int (fun _ => .bl true) (seq_ints rfl) (by omega) fun p hp => ?_
    obtain ⟨a1, a2⟩ := h.rng p hp
    simp [exs_cons, exs_nil, exsK_nx, exsK_ap, ex_ifs, ifK_t, ifK_f, ex_asg1, ex_asg, ex_ret, ex_expr, ex_pass, ex_new, r_var, varR_val, r_own, ownR_own, r_cst, r_glo, r_op, r_chain, r_neg, negR_some, r_nt, r_and, r_or, r_ite, r_lst, r_tup, r_idx, r_slc0, r_slc1, r_slc2, r_slc3, r_rev, r_f1, r_f2, r_meth, r_isi, r_call, callR_ok, r_callO, callO_ok, r_lmeth, lmR_count, lmR_index, r_nrng, nrR_int, r_lzip, ex_cpy, ex_par, ex_retF, tabY_fn, tabY_gl, r_nil, r_cons, tab_fn, tab_gl, tabX_fn, tabX_gl, look_hit, look_miss, bindT, op_add, op_sub, op_lt, op_le, op_gt, op_ge, op_eq, op_ne, op_in, op_nin, op_is, op_isn, small_ok, compF, noOwn, wipe, f11, is_number_int, a1, a2]
  have c2 : ∀ F : Fns, ev F (.compIf (.var 1) (.name 1) (.seq (.var 0)) (.op .ne (.var 1) (.op .add (.cst (.int 1)) (.f1 .len (.compIf (.var 2) (.name 2) (.seq (.var 0)) (.op .lt (.var 2) (.var 1)) [2])))) [1]) [.val (ints_ ps), .emp, .emp] S = .ok (.lst []) S := fun F => by
    have e := compIf_map (F := F) (e := .var 1) (tg := .name 1) (it := .seq (.var 0)) (c := .op .ne (.var 1) (.op .add (.cst (.int 1)) (.f1 .len (.compIf (.var 2) (.name 2) (.seq (.var 0)) (.op .lt (.var 2) (.var 1)) [2])))) (vs := [1]) (ρ := [.val (ints_ ps), .emp, .emp]) (S := S) (l := ps) D.int D.int (fun _ => false) (seq_ints rfl) (by omega) fun p hp => ?_
    · rw [List.filter_eq_nil_iff.mpr (by simp)] at e
      exact e
    · have c3 : ev F (.compIf (.var 2) (.name 2) (.seq (.var 0)) (.op .lt (.var 2) (.var 1)) [2]) [.val (ints_ ps), .val (.int p), .emp] S = .ok (.lst ((ps.filter fun q => decide (q < p)).map D.int)) S := by
        refine compIf_map (l := ps) D.int D.int (fun q => decide (q < p)) (seq_ints rfl) (by omega) fun q hq => ?_
        by_cases hlt : q < p
        · simp [exs_cons, exs_nil, exsK_nx, exsK_ap, ex_ifs, ifK_t, ifK_f, ex_asg1, ex_asg, ex_ret, ex_expr, ex_pass, ex_new, r_var, varR_val, r_own, ownR_own, r_cst, r_glo, r_op, r_chain, r_neg, negR_some, r_nt, r_and, r_or, r_ite, r_lst, r_tup, r_idx, r_slc0, r_slc1, r_slc2, r_slc3, r_rev, r_f1, r_f2, r_meth, r_isi, r_call, callR_ok, r_callO, callO_ok, r_lmeth, lmR_count, lmR_index, r_nrng, nrR_int, r_lzip, ex_cpy, ex_par, ex_retF, tabY_fn, tabY_gl, r_nil, r_cons, tab_fn, tab_gl, tabX_fn, tabX_gl, look_hit, look_miss, bindT, op_add, op_sub, op_lt, op_le, op_gt, op_ge, op_eq, op_ne, op_in, op_nin, op_is, op_isn, small_ok, compIfF, noOwn, wipe, hlt]
        · simp [exs_cons, exs_nil, exsK_nx, exsK_ap, ex_ifs, ifK_t, ifK_f, ex_asg1, ex_asg, ex_ret, ex_expr, ex_pass, ex_new, r_var, varR_val, r_own, ownR_own, r_cst, r_glo, r_op, r_chain, r_neg, negR_some, r_nt, r_and, r_or, r_ite, r_lst, r_tup, r_idx, r_slc0, r_slc1, r_slc2, r_slc3, r_rev, r_f1, r_f2, r_meth, r_isi, r_call, callR_ok, r_callO, callO_ok, r_lmeth, lmR_count, lmR_index, r_nrng, nrR_int, r_lzip, ex_cpy, ex_par, ex_retF, tabY_fn, tabY_gl, r_nil, r_cons, tab_fn, tab_gl, tabX_fn, tabX_gl, look_hit, look_miss, bindT, op_add, op_sub, op_lt, op_le, op_gt, op_ge, op_eq, op_ne, op_in, op_nin, op_is, op_isn, small_ok, compIfF, noOwn, wipe, hlt]
      have hf := filt_len ps (fun q => decide (q < p))
      have ho := h.own p hp
      unfold lessN at ho
      generalize ps.filter (fun q => decide (q < p)) = fs at *
      have he : eqO (.int p) (.int (1 + (fs.length : Int))) = some true := by rw [i_eq, decide_eq_true ho]
      generalize D.lst (fs.map D.int) = fd at *
      simp [exs_cons, exs_nil, exsK_nx, exsK_ap, ex_ifs, ifK_t, ifK_f, ex_asg1, ex_asg, ex_ret, ex_expr, ex_pass, ex_new, r_var, varR_val, r_own, ownR_own, r_cst, r_glo, r_op, r_chain, r_neg, negR_some, r_nt, r_and, r_or, r_ite, r_lst, r_tup, r_idx, r_slc0, r_slc1, r_slc2, r_slc3, r_rev, r_f1, r_f2, r_meth, r_isi, r_call, callR_ok, r_callO, callO_ok, r_lmeth, lmR_count, lmR_index, r_nrng, nrR_int, r_lzip, ex_cpy, ex_par, ex_retF, tabY_fn, tabY_gl, r_nil, r_cons, tab_fn, tab_gl, tabX_fn, tabX_gl, look_hit, look_miss, bindT, op_add, op_sub, op_lt, op_le, op_gt, op_ge, op_eq, op_ne, op_in, op_nin, op_is, op_isn, small_ok, compIfF, noOwn, wipe, c3, hf, he]
  have hg : ¬ (8 : Int) < ps.length := by omega
  have hq : eqO (.lst []) (.lst []) = some true := rfl
  simp [exs_cons, exs_nil, exsK_nx, exsK_ap, ex_ifs, ifK_t, ifK_f, ex_asg1, ex_asg, ex_ret, ex_expr, ex_pass, ex_new, r_var, varR_val, r_own, ownR_own, r_cst, r_glo, r_op, r_chain, r_neg, negR_some, r_nt, r_and, r_or, r_ite, r_lst, r_tup, r_idx, r_slc0, r_slc1, r_slc2, r_slc3, r_rev, r_f1, r_f2, r_meth, r_isi, r_call, callR_ok, r_callO, callO_ok, r_lmeth, lmR_count, lmR_index, r_nrng, nrR_int, r_lzip, ex_cpy, ex_par, ex_retF, tabY_fn, tabY_gl, r_nil, r_cons, tab_fn, tab_gl, tabX_fn, tabX_gl, look_hit, look_miss, bindT, op_add, op_sub, op_lt, op_le, op_gt, op_ge, op_eq, op_ne, op_in, op_nin, op_is, op_isn, small_ok, b_need_places, ints_isl, ints_len, hg, c1, all_true, c2, hq]
theorem need_table_ok {t : List Int} (h : Table t) (S : Sto) : fn_need_table [ints_ t] S = .ok .non S := by
  have hl := h.len
  (unfold fn_need_table; simp only [fn1, fn2, fn3, fn4, fF1, fF2, Nat.reduceSub, List.replicate_succ, List.replicate_zero])
  have c1 : ∀ F : Fns, F.fn 11 = some fn_is_number → ev F (.comp (.call 11 (.cons (.var 1) (.cons (.cst (.int 0)) (.cons (.cst (.int 999)) .nil)))) (.name 1) (.seq (.var 0)) [1]) [.val (ints_ t), .emp] S = .ok (.lst (t.map fun _ => .bl true)) S := fun F f11 => by
    refine comp_map (l := t) D.int (fun _ => .bl true) (seq_ints rfl) (by omega) fun p hp => ?_
    obtain ⟨a1, a2⟩ := h.rng p hp
    simp [exs_cons, exs_nil, exsK_nx, exsK_ap, ex_ifs, ifK_t, ifK_f, ex_asg1, ex_asg, ex_ret, ex_expr, ex_pass, ex_new, r_var, varR_val, r_own, ownR_own, r_cst, r_glo, r_op, r_chain, r_neg, negR_some, r_nt, r_and, r_or, r_ite, r_lst, r_tup, r_idx, r_slc0, r_slc1, r_slc2, r_slc3, r_rev, r_f1, r_f2, r_meth, r_isi, r_call, callR_ok, r_callO, callO_ok, r_lmeth, lmR_count, lmR_index, r_nrng, nrR_int, r_lzip, ex_cpy, ex_par, ex_retF, tabY_fn, tabY_gl, r_nil, r_cons, tab_fn, tab_gl, tabX_fn, tabX_gl, look_hit, look_miss, bindT, op_add, op_sub, op_lt, op_le, op_gt, op_ge, op_eq, op_ne, op_in, op_nin, op_is, op_isn, small_ok, compF, noOwn, wipe, f11, is_number_int, a1, a2]
  have hg : ¬ (8 : Int) < t.length := by omega
  have he : eqO (ints_ t) (ints_ (sortI t).reverse) = some true := by rw [← h.down]; exact eq_same (ints_plain t)
  simp [exs_cons, exs_nil, exsK_nx, exsK_ap, ex_ifs, ifK_t, ifK_f, ex_asg1, ex_asg, ex_ret, ex_expr, ex_pass, ex_new, r_var, varR_val, r_own, ownR_own, r_cst, r_glo, r_op, r_chain, r_neg, negR_some, r_nt, r_and, r_or, r_ite, r_lst, r_tup, r_idx, r_slc0, r_slc1, r_slc2, r_slc3, r_rev, r_f1, r_f2, r_meth, r_isi, r_call, callR_ok, r_callO, callO_ok, r_lmeth, lmR_count, lmR_index, r_nrng, nrR_int, r_lzip, ex_cpy, ex_par, ex_retF, tabY_fn, tabY_gl, r_nil, r_cons, tab_fn, tab_gl, tabX_fn, tabX_gl, look_hit, look_miss, bindT, op_add, op_sub, op_lt, op_le, op_gt, op_ge, op_eq, op_ne, op_in, op_nin, op_is, op_isn, small_ok, b_need_table, ints_isl, ints_len, hg, c1, all_true, ints_sort, ints_rev, he]
/-- the points of a place -/
def partOf (ps t : List Int) (p : Int) : Nat := (cut t (some (p - 1)) (some (p - 1 + (ps.count p : Nat)))).sum.toNat
def ptD (ps t : List Int) (p : Int) : D := lowD (partOf ps t p) (ps.count p)
def ptOf (ps t : List Int) : D → D
  | .int p => ptD ps t p
  | _ => .non
def ptsD (ps t : List Int) : D := .lst (ps.map (ptD ps t))
theorem sum_nonneg : ∀ l : List Int, (∀ x ∈ l, 0 ≤ x) → 0 ≤ l.sum
  | [], _ => by simp
  | a :: l, h => by
    have := sum_nonneg l fun x hx => h x (List.mem_cons_of_mem _ hx)
    have := h a (List.mem_cons_self ..)
    simp only [List.sum_cons]
    omega
theorem cut_mem {α : Type} {l : List α} {a b : Option Int} {x : α} (h : x ∈ cut l a b) : x ∈ l := List.mem_of_mem_drop (List.mem_of_mem_take h)
theorem part_eq {ps t : List Int} (h : Table t) (p : Int) : (cut t (some (p - 1)) (some (p - 1 + (ps.count p : Nat)))).sum = (partOf ps t p : Nat) := by
  have := sum_nonneg (cut t (some (p - 1)) (some (p - 1 + (ps.count p : Nat)))) fun x hx => (h.rng x (cut_mem hx)).1
  unfold partOf
  omega
theorem points_ok {ps t : List Int} (h : Places ps) (ht : Table t) (S : Sto) : fn_points [ints_ ps, ints_ t] S = .ok (ptsD ps t) S := by
  have hl := h.len
  have n1 := need_places_ok h S
  have n2 := need_table_ok ht S
  (unfold fn_points; simp only [fn1, fn2, fn3, fn4, fF1, fF2, Nat.reduceSub, List.replicate_succ, List.replicate_zero])
  unfold b_points
  generalize hB : Sms.cons (.asg (.name 4) (.lmeth .count (.var 0) (.var 3))) _ = B
  have inv := loop_inv (f := eachF (tabOf [(65, fn_need_places), (66, fn_need_table), (64, fn_lowest)] []) (.name 3) B) (S := S) (fun pre ρ => ∃ a b, ρ = [.val (ints_ ps), .val (ints_ t), .own (pre.map (ptOf ps t)), a, b] ∧ pre.length ≤ 8) (ps.map D.int) [] [.val (ints_ ps), .val (ints_ t), .own [], .emp, .emp] ⟨.emp, .emp, rfl, by simp⟩ (by
    rintro pre d post ρ hsplit ⟨a, b, rfl, hpl⟩
    rw [List.nil_append] at hsplit
    have hd : d ∈ ps.map D.int := by rw [hsplit]; simp
    obtain ⟨p, hp, rfl⟩ := List.mem_map.mp hd
    have hlen : pre.length < ps.length := by
      have := congrArg List.length hsplit
      simp at this
      omega
    have hc : 0 < ps.count p := List.count_pos_iff.mpr hp
    have hcl : ps.count p ≤ ps.length := List.count_le_length
    have lw := lowest_ok (partOf ps t p) (ps.count p) S hc (by omega)
    have hs := ints_sum (cut t (some (p - 1)) (some (p - 1 + (ps.count p : Nat))))
    rw [part_eq ht p] at hs
    have hsl := ints_slc t (some (p - 1)) (some (p - 1 + (ps.count p : Nat)))
    have hct := ints_count ps p
    refine ⟨[.val (ints_ ps), .val (ints_ t), .own ((pre ++ [D.int p]).map (ptOf ps t)), .val (.int p), .val (.int (ps.count p : Nat))], ?_, _, _, rfl, by simp; omega⟩
    rw [eachF_eq (ρ1 := [.val (ints_ ps), .val (ints_ t), .own (pre.map (ptOf ps t)), .val (.int p), b]) rfl, ← hB]
    rw [List.map_append]
    generalize hM : (pre.map (ptOf ps t)) = M
    have hMl : M.length ≤ 8 := by rw [← hM]; simpa using hpl
    have hL : ints_ ps = .lst (ps.map D.int) := rfl
    have lr : ∀ y : D, lmR .count (ints_ ps) (.ok y S) = lift (lm .count (ints_ ps) y) S := fun y => rfl
    have ap : ∀ q : Slot, ex (tabOf [(65, fn_need_places), (66, fn_need_table), (64, fn_lowest)] []) (.app 2 (.call 64 (.cons (.f1 .sum (.slc (.var 1) (some (.op .sub (.var 3) (.cst (.int 1)))) (some (.op .add (.op .sub (.var 3) (.cst (.int 1))) (.var 4))))) (.cons (.var 4) .nil)))) [.val (ints_ ps), .val (ints_ t), .own M, .val (.int p), .val (.int (ps.count p : Nat))] S = .ok (.nx [.val (ints_ ps), .val (ints_ t), .own (M ++ [ptD ps t p]), .val (.int p), .val (.int (ps.count p : Nat))]) S := fun q => by
      rw [ex_app (ds := M) rfl (by omega)]
      generalize cut t (some (p - 1)) (some (p - 1 + (ps.count p : Nat))) = cc at *
      simp [exs_cons, exs_nil, exsK_nx, exsK_ap, ex_ifs, ifK_t, ifK_f, ex_asg1, ex_asg, ex_ret, ex_expr, ex_pass, ex_new, r_var, varR_val, r_own, ownR_own, r_cst, r_glo, r_op, r_chain, r_neg, negR_some, r_nt, r_and, r_or, r_ite, r_lst, r_tup, r_idx, r_slc0, r_slc1, r_slc2, r_slc3, r_rev, r_f1, r_f2, r_meth, r_isi, r_call, callR_ok, r_callO, callO_ok, r_lmeth, lmR_count, lmR_index, r_nrng, nrR_int, r_lzip, ex_cpy, ex_par, ex_retF, tabY_fn, tabY_gl, r_nil, r_cons, tab_fn, tab_gl, tabX_fn, tabX_gl, look_hit, look_miss, bindT, op_add, op_sub, op_lt, op_le, op_gt, op_ge, op_eq, op_ne, op_in, op_nin, op_is, op_isn, small_ok, hsl, hs, lw, ptD]
    simp [exs_cons, exs_nil, exsK_nx, exsK_ap, ex_ifs, ifK_t, ifK_f, ex_asg1, ex_asg, ex_ret, ex_expr, ex_pass, ex_new, r_var, varR_val, r_own, ownR_own, r_cst, r_glo, r_op, r_chain, r_neg, negR_some, r_nt, r_and, r_or, r_ite, r_lst, r_tup, r_idx, r_slc0, r_slc1, r_slc2, r_slc3, r_rev, r_f1, r_f2, r_meth, r_isi, r_call, callR_ok, r_callO, callO_ok, r_lmeth, lmR_count, lmR_index, r_nrng, nrR_int, r_lzip, ex_cpy, ex_par, ex_retF, tabY_fn, tabY_gl, r_nil, r_cons, tab_fn, tab_gl, tabX_fn, tabX_gl, look_hit, look_miss, bindT, op_add, op_sub, op_lt, op_le, op_gt, op_ge, op_eq, op_ne, op_in, op_nin, op_is, op_isn, small_ok, lr, hct, ap .emp, ptOf])
  obtain ⟨ρ, e, a, b, rfl, _⟩ := inv
  have e2 : (ps.map D.int).map (ptOf ps t) = ps.map (ptD ps t) := by rw [List.map_map]; rfl
  have hi : evIt (tabOf [(65, fn_need_places), (66, fn_need_table), (64, fn_lowest)] []) (.seq (.var 0)) [.val (ints_ ps), .val (ints_ t), .own [], .emp, .emp] S = .ok (ps.map D.int) S := seq_ints rfl
  rw [List.nil_append, e2] at e
  generalize hM : ps.map (ptD ps t) = M at e
  unfold ptsD
  rw [hM]
  simp [exs_cons, exs_nil, exsK_nx, exsK_ap, ex_ifs, ifK_t, ifK_f, ex_asg1, ex_asg, ex_ret, ex_expr, ex_pass, ex_new, r_var, varR_val, r_own, ownR_own, r_cst, r_glo, r_op, r_chain, r_neg, negR_some, r_nt, r_and, r_or, r_ite, r_lst, r_tup, r_idx, r_slc0, r_slc1, r_slc2, r_slc3, r_rev, r_f1, r_f2, r_meth, r_isi, r_call, callR_ok, r_callO, callO_ok, r_lmeth, lmR_count, lmR_index, r_nrng, nrR_int, r_lzip, ex_cpy, ex_par, ex_retF, tabY_fn, tabY_gl, r_nil, r_cons, tab_fn, tab_gl, tabX_fn, tabX_gl, look_hit, look_miss, bindT, op_add, op_sub, op_lt, op_le, op_gt, op_ge, op_eq, op_ne, op_in, op_nin, op_is, op_isn, small_ok, n1, n2, ex_each, hi, e]
/-! ### drawn places, drawn tables -/
theorem comp_ex {α : Type} {F : Fns} {e : Ex} {tg : Tg} {it : It} {vs : List Nat} {ρ : Env} {S : Sto} {P : Int → Prop} {l : List α} (g : α → D) (hi : evIt F it ρ S = .ok (l.map g) S) (hl : l.length ≤ 1000000)
    (ht : ∀ x ∈ l, ∃ i : Int, compF F e tg vs ρ (g x) S = .ok (some (.int i)) S ∧ P i) : ∃ xs : List Int, ev F (.comp e tg it vs) ρ S = .ok (ints_ xs) S ∧ xs.length = l.length ∧ ∀ i ∈ xs, P i := by
  have h : ∀ l : List α, (∀ x ∈ l, ∃ i : Int, compF F e tg vs ρ (g x) S = .ok (some (.int i)) S ∧ P i) → ∃ xs : List Int, turns (compF F e tg vs ρ) (l.map g) S = .ok (xs.map D.int) S ∧ xs.length = l.length ∧ ∀ i ∈ xs, P i := by
    intro l
    induction l with
    | nil => exact fun _ => ⟨[], rfl, rfl, fun _ h => nomatch h⟩
    | cons x l ih =>
      intro h
      obtain ⟨i, e1, p1⟩ := h x (List.mem_cons_self ..)
      obtain ⟨xs, e2, p2, p3⟩ := ih fun y hy => h y (List.mem_cons_of_mem _ hy)
      refine ⟨i :: xs, by rw [List.map_cons, turns, e1, R.bind_ok, e2]; rfl, by simp [p2], fun j hj => ?_⟩
      rcases List.mem_cons.mp hj with rfl | hj
      · exact p1
      · exact p3 j hj
  obtain ⟨xs, e1, p1, p2⟩ := h l ht
  exact ⟨xs, by rw [ev_comp, hi, R.bind_ok, e1, calmly_ok, R.bind_ok, small_ok (by simp; omega), R.bind_ok]; rfl, p1, p2⟩
theorem less_split (a b : Int) (h : a ≤ b) : ∀ l : List Int, lessN l a + (l.filter fun q => decide (a ≤ q ∧ q < b)).length = lessN l b
  | [] => rfl
  | q :: l => by
    have ih := less_split a b h l
    unfold lessN at ih ⊢
    by_cases h1 : q < a
    · have h2 : q < b := by omega
      have h3 : ¬ (a ≤ q ∧ q < b) := by omega
      simp [List.filter_cons, h1, h2, h3] at ih ⊢
      omega
    · by_cases h2 : q < b
      · have h3 : a ≤ q ∧ q < b := by omega
        simp [List.filter_cons, h1, h2, h3] at ih ⊢
        omega
      · have h3 : ¬ (a ≤ q ∧ q < b) := by omega
        simp [List.filter_cons, h1, h2, h3] at ih ⊢
        omega
theorem less_iff {l : List Int} {a b : Int} (ha : a ∈ l) : lessN l a < lessN l b ↔ a < b := by
  constructor
  · intro h
    rcases Int.lt_or_le a b with h' | h'
    · exact h'
    · have := less_split b a h' l
      omega
  · intro h
    have := less_split a b (by omega) l
    have : 0 < (l.filter fun q => decide (a ≤ q ∧ q < b)).length := List.length_pos_of_mem (List.mem_filter.mpr ⟨ha, decide_eq_true ⟨by omega, h⟩⟩)
    omega
def rankL (ms : List Int) : List Int := ms.map fun m => 1 + (lessN ms m : Int)
theorem rank_less (ms : List Int) (m : Int) : lessN (rankL ms) (1 + (lessN ms m : Int)) = lessN ms m := by
  have h : ∀ l : List Int, (∀ x ∈ l, x ∈ ms) → ((l.map fun x => 1 + (lessN ms x : Int)).filter fun q => decide (q < 1 + (lessN ms m : Int))).length = (l.filter fun q => decide (q < m)).length := by
    intro l
    induction l with
    | nil => exact fun _ => rfl
    | cons x l ih =>
      intro hx
      have ih := ih fun y hy => hx y (List.mem_cons_of_mem _ hy)
      have hi := less_iff (b := m) (hx x (List.mem_cons_self ..))
      by_cases h1 : x < m
      · have h2 : 1 + (lessN ms x : Int) < 1 + (lessN ms m : Int) := by have := hi.mpr h1; omega
        simp only [List.map_cons, List.filter_cons, decide_eq_true h1, decide_eq_true h2, if_true, List.length_cons, ih]
      · have h2 : ¬ 1 + (lessN ms x : Int) < 1 + (lessN ms m : Int) := by
          intro z
          exact h1 (hi.mp (by omega))
        simp only [List.map_cons, List.filter_cons, decide_eq_false h1, decide_eq_false h2, Bool.false_eq_true, if_false, ih]
  exact h ms fun _ z => z
theorem less_lt {l : List Int} {a : Int} (ha : a ∈ l) : lessN l a < l.length := by
  unfold lessN
  rcases Nat.lt_or_ge (l.filter fun q => decide (q < a)).length l.length with h | h
  · exact h
  · have h2 : (l.filter fun q => decide (q < a)).length = l.length := Nat.le_antisymm (List.length_filter_le ..) h
    have := List.length_filter_eq_length_iff.mp h2 a ha
    simp at this
theorem rank_places {ms : List Int} (h : ms.length ≤ 8) : Places (rankL ms) where
  len := by simp [rankL]; exact h
  rng := fun p hp => by
    obtain ⟨m, hm, rfl⟩ := List.mem_map.mp hp
    have := less_lt hm
    omega
  own := fun p hp => by
    obtain ⟨m, hm, rfl⟩ := List.mem_map.mp hp
    rw [rank_less]
theorem places_drawn_ok (ns : List Int) (hn : ns.length ≤ 63) (at_ many : Int) (S : Sto) (ha : 0 ≤ at_) (hm : 0 ≤ many ∧ many ≤ 8) : ∃ ps : List Int, fn__law_places_drawn [.scr ns, .int at_, .int many] S = .ok (ints_ ps) S ∧ Places ps ∧ (ps.length : Int) = many := by
  obtain ⟨n, rfl⟩ : ∃ n : Nat, many = n := ⟨many.toNat, by omega⟩
  (unfold fn__law_places_drawn; simp only [fn1, fn2, fn3, fn4, fF1, fF2, Nat.reduceSub, List.replicate_succ, List.replicate_zero])
  generalize hF : tabOf [(3, fn__law_drawn)] [] = F
  have f3 : F.fn 3 = some fnDraw := by rw [← hF]; rfl
  obtain ⟨ms, c1, l1, _⟩ := comp_ex (F := F) (e := .call 3 (.cons (.var 0) (.cons (.op .add (.var 1) (.var 4)) (.cons (.cst (.int 5)) .nil)))) (tg := .name 4) (it := .rng (.var 2)) (vs := [4]) (ρ := [.val (.scr ns), .val (.int at_), .val (.int n), .emp, .emp, .emp, .emp]) (S := S) (P := fun _ => True) (l := List.range' 0 n) (fun j => .int (0 + (j : Nat))) (ev_rng (by rw [r_var]; rfl) (rng_eq n (by omega))) (by simp; omega) (fun j hj => by
    obtain ⟨r, d1, _⟩ := draw_ok ns (at_ + (0 + (j : Nat))) 5 S hn (by omega) (by decide)
    refine ⟨r, ?_, trivial⟩
    generalize (0 + (j : Nat) : Int) = jj at *
    simp [exs_cons, exs_nil, exsK_nx, exsK_ap, ex_ifs, ifK_t, ifK_f, ex_asg1, ex_asg, ex_ret, ex_expr, ex_pass, ex_new, r_var, varR_val, r_own, ownR_own, r_cst, r_glo, r_op, r_chain, r_neg, negR_some, r_nt, r_and, r_or, r_ite, r_lst, r_tup, r_idx, r_slc0, r_slc1, r_slc2, r_slc3, r_rev, r_f1, r_f2, r_meth, r_isi, r_call, callR_ok, r_callO, callO_ok, r_lmeth, lmR_count, lmR_index, r_nrng, nrR_int, r_lzip, ex_cpy, ex_par, ex_retF, tabY_fn, tabY_gl, r_nil, r_cons, tab_fn, tab_gl, tabX_fn, tabX_gl, look_hit, look_miss, bindT, op_add, op_sub, op_lt, op_le, op_gt, op_ge, op_eq, op_ne, op_in, op_nin, op_is, op_isn, small_ok, compF, noOwn, wipe, f3, d1])
  have hl : ms.length = n := by rw [l1]; simp
  have hm8 : ms.length ≤ 8 := by omega
  refine ⟨rankL ms, ?_, rank_places hm8, by simp [rankL, hl]⟩
  have c2 : ev F (.comp (.op .add (.cst (.int 1)) (.f1 .len (.compIf (.var 6) (.name 6) (.seq (.var 3)) (.op .lt (.var 6) (.var 5)) [6]))) (.name 5) (.seq (.var 3)) [5]) [.val (.scr ns), .val (.int at_), .val (.int n), .val (ints_ ms), .emp, .emp, .emp] S = .ok (ints_ (rankL ms)) S := by
    have er : ints_ (rankL ms) = .lst (ms.map fun m => .int (1 + (lessN ms m : Int))) := by simp [ints_, rankL]
    rw [er]
    refine comp_map (l := ms) D.int (fun m => .int (1 + (lessN ms m : Int))) (seq_ints rfl) (by omega) fun p hp => ?_
    have c3 : ev F (.compIf (.var 6) (.name 6) (.seq (.var 3)) (.op .lt (.var 6) (.var 5)) [6]) [.val (.scr ns), .val (.int at_), .val (.int n), .val (ints_ ms), .emp, .val (.int p), .emp] S = .ok (.lst ((ms.filter fun q => decide (q < p)).map D.int)) S := by
      refine compIf_map (l := ms) D.int D.int (fun q => decide (q < p)) (seq_ints rfl) (by omega) fun q hq => ?_
      by_cases hlt : q < p
      · simp [exs_cons, exs_nil, exsK_nx, exsK_ap, ex_ifs, ifK_t, ifK_f, ex_asg1, ex_asg, ex_ret, ex_expr, ex_pass, ex_new, r_var, varR_val, r_own, ownR_own, r_cst, r_glo, r_op, r_chain, r_neg, negR_some, r_nt, r_and, r_or, r_ite, r_lst, r_tup, r_idx, r_slc0, r_slc1, r_slc2, r_slc3, r_rev, r_f1, r_f2, r_meth, r_isi, r_call, callR_ok, r_callO, callO_ok, r_lmeth, lmR_count, lmR_index, r_nrng, nrR_int, r_lzip, ex_cpy, ex_par, ex_retF, tabY_fn, tabY_gl, r_nil, r_cons, tab_fn, tab_gl, tabX_fn, tabX_gl, look_hit, look_miss, bindT, op_add, op_sub, op_lt, op_le, op_gt, op_ge, op_eq, op_ne, op_in, op_nin, op_is, op_isn, small_ok, compIfF, noOwn, wipe, hlt]
      · simp [exs_cons, exs_nil, exsK_nx, exsK_ap, ex_ifs, ifK_t, ifK_f, ex_asg1, ex_asg, ex_ret, ex_expr, ex_pass, ex_new, r_var, varR_val, r_own, ownR_own, r_cst, r_glo, r_op, r_chain, r_neg, negR_some, r_nt, r_and, r_or, r_ite, r_lst, r_tup, r_idx, r_slc0, r_slc1, r_slc2, r_slc3, r_rev, r_f1, r_f2, r_meth, r_isi, r_call, callR_ok, r_callO, callO_ok, r_lmeth, lmR_count, lmR_index, r_nrng, nrR_int, r_lzip, ex_cpy, ex_par, ex_retF, tabY_fn, tabY_gl, r_nil, r_cons, tab_fn, tab_gl, tabX_fn, tabX_gl, look_hit, look_miss, bindT, op_add, op_sub, op_lt, op_le, op_gt, op_ge, op_eq, op_ne, op_in, op_nin, op_is, op_isn, small_ok, compIfF, noOwn, wipe, hlt]
    have hf := filt_len ms (fun q => decide (q < p))
    unfold lessN
    generalize ms.filter (fun q => decide (q < p)) = fs at *
    generalize D.lst (fs.map D.int) = fd at *
    simp [exs_cons, exs_nil, exsK_nx, exsK_ap, ex_ifs, ifK_t, ifK_f, ex_asg1, ex_asg, ex_ret, ex_expr, ex_pass, ex_new, r_var, varR_val, r_own, ownR_own, r_cst, r_glo, r_op, r_chain, r_neg, negR_some, r_nt, r_and, r_or, r_ite, r_lst, r_tup, r_idx, r_slc0, r_slc1, r_slc2, r_slc3, r_rev, r_f1, r_f2, r_meth, r_isi, r_call, callR_ok, r_callO, callO_ok, r_lmeth, lmR_count, lmR_index, r_nrng, nrR_int, r_lzip, ex_cpy, ex_par, ex_retF, tabY_fn, tabY_gl, r_nil, r_cons, tab_fn, tab_gl, tabX_fn, tabX_gl, look_hit, look_miss, bindT, op_add, op_sub, op_lt, op_le, op_gt, op_ge, op_eq, op_ne, op_in, op_nin, op_is, op_isn, small_ok, compF, noOwn, wipe, c3, hf]
  simp [exs_cons, exs_nil, exsK_nx, exsK_ap, ex_ifs, ifK_t, ifK_f, ex_asg1, ex_asg, ex_ret, ex_expr, ex_pass, ex_new, r_var, varR_val, r_own, ownR_own, r_cst, r_glo, r_op, r_chain, r_neg, negR_some, r_nt, r_and, r_or, r_ite, r_lst, r_tup, r_idx, r_slc0, r_slc1, r_slc2, r_slc3, r_rev, r_f1, r_f2, r_meth, r_isi, r_call, callR_ok, r_callO, callO_ok, r_lmeth, lmR_count, lmR_index, r_nrng, nrR_int, r_lzip, ex_cpy, ex_par, ex_retF, tabY_fn, tabY_gl, r_nil, r_cons, tab_fn, tab_gl, tabX_fn, tabX_gl, look_hit, look_miss, bindT, op_add, op_sub, op_lt, op_le, op_gt, op_ge, op_eq, op_ne, op_in, op_nin, op_is, op_isn, small_ok, b__law_places_drawn, c1, c2]
theorem sort_rev (l : List Int) : sortI (sortI l).reverse = sortI l :=
  uniq_sorted (fun a b => Int.le_antisymm a b) ((sortI_perm _).trans (List.reverse_perm _)) (sortI_sorted _) (sortI_sorted l)
theorem table_drawn_ok (ns : List Int) (hn : ns.length ≤ 63) (at_ : Int) (S : Sto) (ha : 0 ≤ at_) : ∃ t : List Int, fn__law_table [.scr ns, .int at_] S = .ok (ints_ t) S ∧ Table t := by
  (unfold fn__law_table; simp only [fn1, fn2, fn3, fn4, fF1, fF2, Nat.reduceSub, List.replicate_succ, List.replicate_zero])
  generalize hF : tabOf [(3, fn__law_drawn)] [] = F
  have f3 : F.fn 3 = some fnDraw := by rw [← hF]; rfl
  obtain ⟨k, d1, d2⟩ := draw_ok ns (at_ + 9) 2 S hn (by omega) (by decide)
  obtain ⟨n, d3, d4⟩ := draw_ok ns at_ 9 S hn ha (by decide)
  have hlim : ∃ lim : Int, idx (.lst [.int 10, .int 1000]) (.int k) = some (.int lim) ∧ 0 < lim ∧ lim ≤ 1000 := by
    rcases (by omega : k = 0 ∨ k = 1) with rfl | rfl
    · exact ⟨10, rfl, by decide, by decide⟩
    · exact ⟨1000, rfl, by decide, by decide⟩
  obtain ⟨lim, i1, i2, i3⟩ := hlim
  obtain ⟨m, rfl⟩ : ∃ m : Nat, n = m := ⟨n.toNat, by omega⟩
  obtain ⟨xs, c1, l1, hx⟩ := comp_ex (F := F) (e := .call 3 (.cons (.var 0) (.cons (.op .add (.op .add (.var 1) (.cst (.int 1))) (.var 4)) (.cons (.var 2) .nil)))) (tg := .name 4) (it := .rng (.call 3 (.cons (.var 0) (.cons (.var 1) (.cons (.cst (.int 9)) .nil))))) (vs := [4]) (ρ := [.val (.scr ns), .val (.int at_), .val (.int lim), .emp, .emp]) (S := S) (P := fun i => 0 ≤ i ∧ i ≤ 999) (l := List.range' 0 m) (fun j => .int (0 + (j : Nat))) (ev_rng (n := m) (by simp [exs_cons, exs_nil, exsK_nx, exsK_ap, ex_ifs, ifK_t, ifK_f, ex_asg1, ex_asg, ex_ret, ex_expr, ex_pass, ex_new, r_var, varR_val, r_own, ownR_own, r_cst, r_glo, r_op, r_chain, r_neg, negR_some, r_nt, r_and, r_or, r_ite, r_lst, r_tup, r_idx, r_slc0, r_slc1, r_slc2, r_slc3, r_rev, r_f1, r_f2, r_meth, r_isi, r_call, callR_ok, r_callO, callO_ok, r_lmeth, lmR_count, lmR_index, r_nrng, nrR_int, r_lzip, ex_cpy, ex_par, ex_retF, tabY_fn, tabY_gl, r_nil, r_cons, tab_fn, tab_gl, tabX_fn, tabX_gl, look_hit, look_miss, bindT, op_add, op_sub, op_lt, op_le, op_gt, op_ge, op_eq, op_ne, op_in, op_nin, op_is, op_isn, small_ok, f3, d3]) (rng_eq m (by omega))) (by simp; omega) (fun j hj => by
    obtain ⟨r, d5, d6⟩ := draw_ok ns (at_ + 1 + (0 + (j : Nat))) lim S hn (by omega) i2
    refine ⟨r, ?_, by omega⟩
    generalize (0 + (j : Nat) : Int) = jj at *
    simp [exs_cons, exs_nil, exsK_nx, exsK_ap, ex_ifs, ifK_t, ifK_f, ex_asg1, ex_asg, ex_ret, ex_expr, ex_pass, ex_new, r_var, varR_val, r_own, ownR_own, r_cst, r_glo, r_op, r_chain, r_neg, negR_some, r_nt, r_and, r_or, r_ite, r_lst, r_tup, r_idx, r_slc0, r_slc1, r_slc2, r_slc3, r_rev, r_f1, r_f2, r_meth, r_isi, r_call, callR_ok, r_callO, callO_ok, r_lmeth, lmR_count, lmR_index, r_nrng, nrR_int, r_lzip, ex_cpy, ex_par, ex_retF, tabY_fn, tabY_gl, r_nil, r_cons, tab_fn, tab_gl, tabX_fn, tabX_gl, look_hit, look_miss, bindT, op_add, op_sub, op_lt, op_le, op_gt, op_ge, op_eq, op_ne, op_in, op_nin, op_is, op_isn, small_ok, compF, noOwn, wipe, f3, d5])
  have hl : xs.length = m := by rw [l1]; simp
  refine ⟨(sortI xs).reverse, ?_, ⟨?_, fun p hp => hx p ((sortI_perm xs).mem_iff.mp (List.mem_reverse.mp hp)), by rw [sort_rev]⟩⟩
  · simp [exs_cons, exs_nil, exsK_nx, exsK_ap, ex_ifs, ifK_t, ifK_f, ex_asg1, ex_asg, ex_ret, ex_expr, ex_pass, ex_new, r_var, varR_val, r_own, ownR_own, r_cst, r_glo, r_op, r_chain, r_neg, negR_some, r_nt, r_and, r_or, r_ite, r_lst, r_tup, r_idx, r_slc0, r_slc1, r_slc2, r_slc3, r_rev, r_f1, r_f2, r_meth, r_isi, r_call, callR_ok, r_callO, callO_ok, r_lmeth, lmR_count, lmR_index, r_nrng, nrR_int, r_lzip, ex_cpy, ex_par, ex_retF, tabY_fn, tabY_gl, r_nil, r_cons, tab_fn, tab_gl, tabX_fn, tabX_gl, look_hit, look_miss, bindT, op_add, op_sub, op_lt, op_le, op_gt, op_ge, op_eq, op_ne, op_in, op_nin, op_is, op_isn, small_ok, b__law_table, f3, d1, i1, c1, ints_sort, ints_rev]
  · rw [List.length_reverse, (sortI_perm xs).length_eq]
    omega
/-! ### sums of the table's blocks -/
def pS (t : List Int) (n : Nat) : Int := (t.take n).sum
theorem cut_nat (t : List Int) (a b : Nat) : cut t (some (a : Int)) (some ((a : Int) + (b : Int))) = (t.drop a).take b := by
  have h1 : ¬ ((a : Int) < 0) := by omega
  have h2 : ¬ ((a : Int) + (b : Int) < 0) := by omega
  have e : ((a : Int) + (b : Int)).toNat = a + b := by omega
  simp only [cut, sx, if_neg h1, if_neg h2, Int.toNat_natCast, e]
  rcases Nat.le_total a t.length with h | h
  · rw [Nat.min_eq_left h]
    rcases Nat.le_total (a + b) t.length with h' | h'
    · rw [Nat.min_eq_left h', Nat.add_sub_cancel_left]
    · rw [Nat.min_eq_right h', List.take_of_length_le (by simp), List.take_of_length_le (by simp; omega)]
  · rw [Nat.min_eq_right h, List.drop_eq_nil_of_le (Nat.le_refl _), List.drop_eq_nil_of_le h]
    simp
theorem pS_add (t : List Int) (a b : Nat) : pS t (a + b) = pS t a + ((t.drop a).take b).sum := by
  unfold pS
  rw [List.take_add, List.sum_append]
theorem part_pS {ps t : List Int} (ht : Table t) {p : Int} (h1 : 1 ≤ p) : (partOf ps t p : Int) = pS t ((p - 1).toNat + ps.count p) - pS t (p - 1).toNat := by
  have e : p - 1 = ((p - 1).toNat : Int) := by omega
  have h := part_eq (ps := ps) ht p
  rw [e, cut_nat] at h
  rw [← h, pS_add]
  omega
/-! ### all points -/
theorem sum_split (f : Int → Int) (v : Int) : ∀ l : List Int, ((l.filter fun q => decide (q < v + 1)).map f).sum = ((l.filter fun q => decide (q < v)).map f).sum + (l.count v : Int) * f v
  | [] => by simp
  | x :: l => by
    have ih := sum_split f v l
    rcases Int.lt_trichotomy x v with h | h | h
    · have h2 : x < v + 1 := by omega
      have hc : (x :: l).count v = l.count v := by rw [List.count_cons_of_ne (by omega)]
      simp only [List.filter_cons, decide_eq_true h, decide_eq_true h2, if_true, List.map_cons, List.sum_cons, hc, ih]
      omega
    · subst h
      have h1 : ¬ x < x := by omega
      have h2 : x < x + 1 := by omega
      have hc : (x :: l).count x = l.count x + 1 := List.count_cons_self
      simp only [List.filter_cons, decide_eq_false h1, decide_eq_true h2, if_true, Bool.false_eq_true, if_false, List.map_cons, List.sum_cons, hc, ih]
      push_cast
      rw [Int.add_mul, Int.one_mul]
      omega
    · have h1 : ¬ x < v := by omega
      have h2 : ¬ x < v + 1 := by omega
      have hc : (x :: l).count v = l.count v := by rw [List.count_cons_of_ne (by omega)]
      simp only [List.filter_cons, decide_eq_false h1, decide_eq_false h2, Bool.false_eq_true, if_false, hc, ih]
theorem less_succ (l : List Int) (v : Int) : lessN l (v + 1) = lessN l v + l.count v := by
  have h := sum_split (fun _ => 1) v l
  have e : ∀ m : List Int, (m.map fun _ => (1 : Int)).sum = (m.length : Int) := fun m => by
    induction m with
    | nil => rfl
    | cons a m ih => rw [List.map_cons, List.sum_cons, ih, List.length_cons]; push_cast; omega
  rw [e, e, Int.mul_one] at h
  unfold lessN
  omega
/-- the weight of a place in the sum -/
def wgt (ps t : List Int) (p : Int) : Int := (partOf ps t p : Int) * ((840 / ps.count p : Nat) : Int)
theorem div840 {c : Nat} (h0 : 0 < c) (h8 : c ≤ 8) : c * (840 / c) = 840 := by
  have : c = 1 ∨ c = 2 ∨ c = 3 ∨ c = 4 ∨ c = 5 ∨ c = 6 ∨ c = 7 ∨ c = 8 := by omega
  rcases this with rfl | rfl | rfl | rfl | rfl | rfl | rfl | rfl <;> rfl
theorem count_le8 {ps : List Int} (h : Places ps) (p : Int) : ps.count p ≤ 8 := Nat.le_trans List.count_le_length h.len
theorem sum_to {ps t : List Int} (h : Places ps) (ht : Table t) : ∀ n : Nat, ((ps.filter fun q => decide (q < 1 + (n : Int))).map (wgt ps t)).sum = 840 * pS t (lessN ps (1 + (n : Int)))
  | 0 => by
    have e : (ps.filter fun q => decide (q < 1 + ((0 : Nat) : Int))) = [] := List.filter_eq_nil_iff.mpr fun q hq => by
      have := (h.rng q hq).1
      simp
      omega
    unfold lessN
    rw [e]
    simp [pS]
  | n + 1 => by
    have ih := sum_to h ht n
    have e : (1 + ((n + 1 : Nat) : Int)) = (1 + (n : Int)) + 1 := by omega
    rw [e, sum_split, ih, less_succ]
    by_cases hc : ps.count (1 + (n : Int)) = 0
    · rw [hc]; simp
    · have hm : (1 + (n : Int)) ∈ ps := List.count_pos_iff.mp (Nat.pos_of_ne_zero hc)
      have ho := h.own _ hm
      have hp := part_pS (ps := ps) ht (p := 1 + (n : Int)) (by omega)
      have hl : (1 + (n : Int) - 1).toNat = lessN ps (1 + (n : Int)) := by omega
      rw [hl] at hp
      have hd := div840 (Nat.pos_of_ne_zero hc) (count_le8 h _)
      unfold wgt
      generalize ps.count (1 + (n : Int)) = c at *
      generalize partOf ps t (1 + (n : Int)) = T at *
      generalize 840 / c = d at *
      have hd' : (c : Int) * (d : Int) = 840 := by exact_mod_cast hd
      have : (c : Int) * ((T : Int) * (d : Int)) = 840 * (T : Int) := by
        rw [Int.mul_left_comm, hd', Int.mul_comm]
      rw [this, hp]
      omega
theorem sum_all {ps t : List Int} (h : Places ps) (ht : Table t) : (ps.map (wgt ps t)).sum = 840 * pS t ps.length := by
  have := sum_to h ht 8
  have e : (ps.filter fun q => decide (q < 1 + ((8 : Nat) : Int))) = ps := List.filter_eq_self.mpr fun q hq => by
    have := (h.rng q hq).2
    simp
    omega
  unfold lessN at this
  rw [e] at this
  exact this
theorem low_wgt (T c : Nat) (h0 : 0 < c) (h8 : c ≤ 8) : (T / Nat.gcd T c) * (840 / (c / Nat.gcd T c)) = T * (840 / c) := by
  have hg : 0 < Nat.gcd T c := Nat.gcd_pos_of_pos_right T h0
  have hd := div840 h0 h8
  obtain ⟨a, ha⟩ := Nat.gcd_dvd_left T c
  obtain ⟨b, hb⟩ := Nat.gcd_dvd_right T c
  generalize Nat.gcd T c = g at *
  generalize 840 / c = d at *
  have hb0 : 0 < b := by
    rcases Nat.eq_zero_or_pos b with z | z
    · subst z; rw [Nat.mul_zero] at hb; omega
    · exact z
  have e1 : T / g = a := by rw [ha, Nat.mul_div_cancel_left _ hg]
  have e2 : c / g = b := by rw [hb, Nat.mul_div_cancel_left _ hg]
  have e3 : 840 / b = g * d := by
    rw [← hd, hb, Nat.mul_assoc, Nat.mul_left_comm, Nat.mul_div_cancel_left _ hb0]
  rw [e1, e2, e3, ha, ← Nat.mul_assoc, Nat.mul_comm a g]
/-! ### who is better has no fewer -/
def gt0 (t : List Int) (k : Nat) : Int := t.getD k 0
theorem gt0_nonneg {t : List Int} (h : Table t) (k : Nat) : 0 ≤ gt0 t k := by
  unfold gt0
  rcases Nat.lt_or_ge k t.length with hk | hk
  · have e : t.getD k 0 = t[k] := by simp [hk]
    rw [e]
    exact (h.rng _ (List.getElem_mem ..)).1
  · have e : t.getD k 0 = 0 := by simp [hk]
    rw [e]; exact Int.le_refl 0
theorem gt0_mono {t : List Int} (h : Table t) {i j : Nat} (hij : i ≤ j) : gt0 t j ≤ gt0 t i := by
  have hp : t.Pairwise (fun a b => b ≤ a) := by
    rw [h.down]
    exact List.pairwise_reverse.mpr (sortI_sorted t)
  rcases Nat.lt_or_ge j t.length with hj | hj
  · have hi : i < t.length := by omega
    have e1 : gt0 t j = t[j] := by simp [gt0, hj]
    have e2 : gt0 t i = t[i] := by simp [gt0, hi]
    rw [e1, e2]
    rcases Nat.eq_or_lt_of_le hij with e | e
    · subst e; exact Int.le_refl _
    · exact List.pairwise_iff_getElem.mp hp i j hi hj e
  · have e1 : gt0 t j = 0 := by simp [gt0, hj]
    rw [e1]
    exact gt0_nonneg h i
theorem drop_take_succ (t : List Int) (a b : Nat) : ((t.drop a).take (b + 1)).sum = gt0 t a + ((t.drop (a + 1)).take b).sum := by
  rcases Nat.lt_or_ge a t.length with h | h
  · rw [List.drop_eq_getElem_cons h, List.take_succ_cons, List.sum_cons]
    simp [gt0, h]
  · rw [List.drop_eq_nil_of_le h, List.drop_eq_nil_of_le (by omega)]
    simp [gt0, h]
theorem blk_ge (t : List Int) (m : Int) : ∀ b a : Nat, (∀ k, a ≤ k → k < a + b → m ≤ gt0 t k) → (b : Int) * m ≤ ((t.drop a).take b).sum
  | 0, a, _ => by simp
  | b + 1, a, h => by
    have ih := blk_ge t m b (a + 1) fun k h1 h2 => h k (by omega) (by omega)
    have := h a (Nat.le_refl _) (by omega)
    rw [drop_take_succ]
    push_cast
    rw [Int.add_mul, Int.one_mul]
    omega
theorem blk_le (t : List Int) (m : Int) : ∀ b a : Nat, (∀ k, a ≤ k → k < a + b → gt0 t k ≤ m) → ((t.drop a).take b).sum ≤ (b : Int) * m
  | 0, a, _ => by simp
  | b + 1, a, h => by
    have ih := blk_le t m b (a + 1) fun k h1 h2 => h k (by omega) (by omega)
    have := h a (Nat.le_refl _) (by omega)
    rw [drop_take_succ]
    push_cast
    rw [Int.add_mul, Int.one_mul]
    omega
theorem part_blk {ps t : List Int} (ht : Table t) {p : Int} (h1 : 1 ≤ p) : (partOf ps t p : Int) = ((t.drop (p - 1).toNat).take (ps.count p)).sum := by
  have := part_pS (ps := ps) ht h1
  rw [pS_add] at this
  omega
theorem count_gap {ps : List Int} {p q : Int} (h : p < q) : lessN ps p + ps.count p ≤ lessN ps q := by
  have h1 := less_succ ps p
  have h2 := less_split (p + 1) q (by omega) ps
  omega
theorem part_mono {ps t : List Int} (h : Places ps) (ht : Table t) {p q : Int} (hp : p ∈ ps) (hq : q ∈ ps) (hlt : p < q) : partOf ps t q * ps.count p ≤ partOf ps t p * ps.count q := by
  have op := h.own p hp
  have oq := h.own q hq
  have gap := count_gap (ps := ps) hlt
  have bp := part_blk (ps := ps) ht (h.rng p hp).1
  have bq := part_blk (ps := ps) ht (h.rng q hq).1
  have e1 : (p - 1).toNat = lessN ps p := by omega
  have e2 : (q - 1).toNat = lessN ps q := by omega
  rw [e1] at bp
  rw [e2] at bq
  have g1 := blk_ge t (gt0 t (lessN ps q)) (ps.count p) (lessN ps p) fun k h1 h2 => gt0_mono ht (by omega)
  have g2 := blk_le t (gt0 t (lessN ps q)) (ps.count q) (lessN ps q) fun k h1 h2 => gt0_mono ht h1
  rw [← bp] at g1
  rw [← bq] at g2
  generalize gt0 t (lessN ps q) = m at *
  generalize partOf ps t p = P at *
  generalize partOf ps t q = Q at *
  generalize ps.count p = c at *
  generalize ps.count q = d at *
  have k1 : (c : Int) * m * (d : Int) ≤ (P : Int) * (d : Int) := Int.mul_le_mul_of_nonneg_right g1 (by omega)
  have k2 : (Q : Int) * (c : Int) ≤ (d : Int) * m * (c : Int) := Int.mul_le_mul_of_nonneg_right g2 (by omega)
  have e : (c : Int) * m * (d : Int) = (d : Int) * m * (c : Int) := by
    rw [Int.mul_comm (c : Int) m, Int.mul_assoc, Int.mul_comm (c : Int) (d : Int), ← Int.mul_assoc, Int.mul_comm m (d : Int)]
  have : (Q : Int) * (c : Int) ≤ (P : Int) * (d : Int) := by rw [e] at k1; omega
  exact_mod_cast this
/-- in lowest terms -/
theorem low_cross {P c Q d : Nat} (hc : 0 < c) (hd : 0 < d) (h : Q * c ≤ P * d) : (Q / Nat.gcd Q d) * (c / Nat.gcd P c) ≤ (P / Nat.gcd P c) * (d / Nat.gcd Q d) := by
  have hg : 0 < Nat.gcd P c := Nat.gcd_pos_of_pos_right P hc
  have hh : 0 < Nat.gcd Q d := Nat.gcd_pos_of_pos_right Q hd
  obtain ⟨a, ha⟩ := Nat.gcd_dvd_left P c
  obtain ⟨b, hb⟩ := Nat.gcd_dvd_right P c
  obtain ⟨a', ha'⟩ := Nat.gcd_dvd_left Q d
  obtain ⟨b', hb'⟩ := Nat.gcd_dvd_right Q d
  generalize Nat.gcd P c = g at *
  generalize Nat.gcd Q d = k at *
  have e1 : P / g = a := by rw [ha, Nat.mul_div_cancel_left _ hg]
  have e2 : c / g = b := by rw [hb, Nat.mul_div_cancel_left _ hg]
  have e3 : Q / k = a' := by rw [ha', Nat.mul_div_cancel_left _ hh]
  have e4 : d / k = b' := by rw [hb', Nat.mul_div_cancel_left _ hh]
  rw [e1, e2, e3, e4]
  rw [ha, hb, ha', hb'] at h
  have l : k * a' * (g * b) = (k * g) * (a' * b) := by
    rw [Nat.mul_assoc, Nat.mul_left_comm a' g b, ← Nat.mul_assoc]
  have r : g * a * (k * b') = (k * g) * (a * b') := by
    rw [Nat.mul_assoc, Nat.mul_left_comm a k b', ← Nat.mul_assoc, Nat.mul_comm g k]
  rw [l, r] at h
  exact Nat.le_of_mul_le_mul_left h (Nat.mul_pos hh hg)
theorem low_prime {P c s : Nat} (hc : 0 < c) (hs : 2 ≤ s) : ¬ (P / Nat.gcd P c % s = 0 ∧ c / Nat.gcd P c % s = 0) := by
  rintro ⟨h1, h2⟩
  have hg : 0 < Nat.gcd P c := Nat.gcd_pos_of_pos_right P hc
  have d1 : s * Nat.gcd P c ∣ P := by
    have := Nat.mul_dvd_mul_right (Nat.dvd_of_mod_eq_zero h1) (Nat.gcd P c)
    rw [Nat.div_mul_cancel (Nat.gcd_dvd_left P c)] at this
    exact this
  have d2 : s * Nat.gcd P c ∣ c := by
    have := Nat.mul_dvd_mul_right (Nat.dvd_of_mod_eq_zero h2) (Nat.gcd P c)
    rw [Nat.div_mul_cancel (Nat.gcd_dvd_right P c)] at this
    exact this
  have := Nat.le_of_dvd hg (Nat.dvd_gcd d1 d2)
  have : 2 * Nat.gcd P c ≤ s * Nat.gcd P c := Nat.mul_le_mul_right _ hs
  omega
/-! ### another order -/
theorem less_perm {l m : List Int} (h : l.Perm m) (p : Int) : lessN l p = lessN m p := (h.filter _).length_eq
theorem Places.perm {l m : List Int} (h : Places l) (hp : m.Perm l) : Places m :=
  ⟨by rw [hp.length_eq]; exact h.len, fun p q => h.rng p (hp.mem_iff.mp q), fun p q => by rw [less_perm hp]; exact h.own p (hp.mem_iff.mp q)⟩
theorem ptD_perm {l m t : List Int} (hp : m.Perm l) (p : Int) : ptD m t p = ptD l t p := by
  unfold ptD partOf
  rw [hp.count_eq]
/-! ### flat tables -/
theorem flat_table {x : Int} (h : 0 ≤ x ∧ x ≤ 999) : Table (List.replicate 8 x) := by
  refine ⟨by simp, fun p hp => by rw [List.eq_of_mem_replicate hp]; exact h, ?_⟩
  have hs : sortI (List.replicate 8 x) = List.replicate 8 x := by
    have hm : ∀ y ∈ sortI (List.replicate 8 x), y = x := fun y hy => List.eq_of_mem_replicate ((sortI_perm _).mem_iff.mp hy)
    have hl : (sortI (List.replicate 8 x)).length = 8 := by rw [(sortI_perm _).length_eq]; simp
    rw [List.eq_replicate_iff]
    exact ⟨hl, hm⟩
  rw [hs, List.reverse_replicate]
theorem nil_table : Table [] := ⟨by simp, (fun _ h => nomatch h), rfl⟩
theorem flat_pt {ps : List Int} (h : Places ps) {x : Nat} (hx : x ≤ 999) {p : Int} (hp : p ∈ ps) : ptD ps (List.replicate 8 (x : Int)) p = .tup [.int (x : Nat), .int 1] := by
  have hc : 0 < ps.count p := List.count_pos_iff.mpr hp
  have ht := flat_table (x := (x : Int)) (by omega)
  have hb := part_blk (ps := ps) ht (h.rng p hp).1
  have ho := h.own p hp
  have gap := less_split p 9 (by have := (h.rng p hp).2; omega) ps
  have g2 := count_gap (ps := ps) (p := p) (q := 9) (by have := (h.rng p hp).2; omega)
  have h9 : lessN ps 9 ≤ 8 := Nat.le_trans (List.length_filter_le ..) h.len
  have e1 : (p - 1).toNat = lessN ps p := by omega
  rw [e1, List.drop_replicate, List.take_replicate] at hb
  have e2 : min (ps.count p) (8 - lessN ps p) = ps.count p := by omega
  rw [e2] at hb
  have e3 : ∀ n : Nat, (List.replicate n (x : Int)).sum = (n : Int) * x := fun n => by
    induction n with
    | zero => simp
    | succ n ih => rw [List.replicate_succ, List.sum_cons, ih]; push_cast; rw [Int.add_mul, Int.one_mul]; omega
  rw [e3] at hb
  have hP : partOf ps (List.replicate 8 (x : Int)) p = ps.count p * x := by exact_mod_cast hb
  unfold ptD
  rw [hP]
  unfold lowD
  have hgc : Nat.gcd (ps.count p * x) (ps.count p) = ps.count p := by
    rw [Nat.gcd_comm]
    exact Nat.gcd_eq_left (Nat.dvd_mul_right ..)
  rw [hgc, Nat.mul_div_cancel_left _ hc, Nat.div_self hc]
  rfl
theorem nil_pt {ps : List Int} {p : Int} (hp : p ∈ ps) : ptD ps [] p = .tup [.int 0, .int 1] := by
  have hc : 0 < ps.count p := List.count_pos_iff.mpr hp
  have hP : partOf ps [] p = 0 := by simp [partOf, cut]
  unfold ptD
  rw [hP]
  unfold lowD
  rw [Nat.gcd_zero_left, Nat.zero_div, Nat.div_self hc]
  rfl
/-! ### twice the table -/
theorem down_iff {t : List Int} : t = (sortI t).reverse ↔ t.Pairwise (fun a b => b ≤ a) := by
  constructor
  · intro h
    rw [h]
    exact List.pairwise_reverse.mpr (sortI_sorted t)
  · intro h
    have : sortI t = t.reverse := uniq_sorted (fun a b => Int.le_antisymm a b) ((sortI_perm t).trans (List.reverse_perm t).symm) (sortI_sorted t) (List.pairwise_reverse.mpr h)
    rw [this, List.reverse_reverse]
theorem map_table {t : List Int} (h : Table t) (f : Int → Int) (hf : ∀ a b, a ≤ b → f a ≤ f b) (hr : ∀ p ∈ t, 0 ≤ f p ∧ f p ≤ 999) : Table (t.map f) := by
  refine ⟨by rw [List.length_map]; exact h.len, fun p hp => ?_, down_iff.mpr ?_⟩
  · obtain ⟨q, hq, rfl⟩ := List.mem_map.mp hp
    exact hr q hq
  · rw [List.pairwise_map]
    exact (down_iff.mp h.down).imp fun {a b} z => hf b a z
theorem part_twice {ps s : List Int} (h : Places ps) (hs : Table s) (h2 : Table (s.map fun x => 2 * x)) {p : Int} (hp : p ∈ ps) : partOf ps (s.map fun x => 2 * x) p = 2 * partOf ps s p := by
  have b1 := part_blk (ps := ps) hs (h.rng p hp).1
  have b2 := part_blk (ps := ps) h2 (h.rng p hp).1
  have e : ∀ l : List Int, (l.map fun x => 2 * x).sum = 2 * l.sum := fun l => by
    induction l with
    | nil => rfl
    | cons a l ih => rw [List.map_cons, List.sum_cons, List.sum_cons, ih]; omega
  rw [← List.map_drop, ← List.map_take, e, ← b1] at b2
  exact_mod_cast b2
theorem low_twice {T c : Nat} (hc : 0 < c) : ((2 * T) / Nat.gcd (2 * T) c) * (c / Nat.gcd T c) = 2 * (T / Nat.gcd T c) * (c / Nat.gcd (2 * T) c) := by
  have hg : 0 < Nat.gcd T c := Nat.gcd_pos_of_pos_right T hc
  have hh : 0 < Nat.gcd (2 * T) c := Nat.gcd_pos_of_pos_right _ hc
  obtain ⟨a, ha⟩ := Nat.gcd_dvd_left T c
  obtain ⟨b, hb⟩ := Nat.gcd_dvd_right T c
  obtain ⟨a', ha'⟩ := Nat.gcd_dvd_left (2 * T) c
  obtain ⟨b', hb'⟩ := Nat.gcd_dvd_right (2 * T) c
  generalize Nat.gcd T c = g at *
  generalize Nat.gcd (2 * T) c = k at *
  have e1 : T / g = a := by rw [ha, Nat.mul_div_cancel_left _ hg]
  have e2 : c / g = b := by rw [hb, Nat.mul_div_cancel_left _ hg]
  have e3 : (2 * T) / k = a' := by rw [ha', Nat.mul_div_cancel_left _ hh]
  have e4 : c / k = b' := by rw [hb', Nat.mul_div_cancel_left _ hh]
  rw [e1, e2, e3, e4]
  -- k * a' = 2 * g * a ; g * b = k * b'
  have q1 : k * a' = 2 * (g * a) := by rw [← ha', ← ha]
  have q2 : g * b = k * b' := by rw [← hb, ← hb']
  have : (k * g) * (a' * b) = (k * g) * (2 * a * b') := by
    have l : (k * g) * (a' * b) = (k * a') * (g * b) := by
      rw [Nat.mul_assoc, Nat.mul_left_comm g a' b, ← Nat.mul_assoc]
    have r : (k * g) * (2 * a * b') = (2 * (g * a)) * (k * b') := by
      rw [Nat.mul_comm k g, Nat.mul_assoc g k, Nat.mul_left_comm k (2 * a) b', ← Nat.mul_assoc g (2 * a), Nat.mul_left_comm g 2 a]
    rw [l, r, q1, q2]
  exact Nat.eq_of_mul_eq_mul_left (Nat.mul_pos hh hg) this
/-! ### the plain law -/
def lawF : Fns := tabOf [(3, fn__law_drawn), (69, fn__law_places_drawn), (70, fn__law_table), (67, fn_points)] []
def tl (b : Sms) : Sms := match b with
  | .nil => .nil
  | .cons _ r => r
theorem law_in (x : D) : fn_law [x] [] = (exs lawF b_law [.val x, .emp, .emp, .emp, .emp, .emp, .emp, .emp, .emp, .emp, .emp, .emp, .emp, .emp, .emp, .emp] []).ends := by
  (unfold fn_law; simp only [fn1, fn2, fn3, fn4, fF1, fF2, Nat.reduceSub, List.replicate_succ, List.replicate_zero])
  rfl
theorem f3 : lawF.fn 3 = some fn__law_drawn := rfl
theorem f69 : lawF.fn 69 = some fn__law_places_drawn := rfl
theorem f70 : lawF.fn 70 = some fn__law_table := rfl
theorem f67 : lawF.fn 67 = some fn_points := rfl
/-- numerator, denominator -/
def nu (ps t : List Int) (p : Int) : Nat := partOf ps t p / Nat.gcd (partOf ps t p) (ps.count p)
def de (ps t : List Int) (p : Int) : Nat := ps.count p / Nat.gcd (partOf ps t p) (ps.count p)
theorem pt_eq (ps t : List Int) (p : Int) : ptD ps t p = .tup [.int (nu ps t p : Nat), .int (de ps t p : Nat)] := rfl
theorem de_rng {ps t : List Int} (h : Places ps) {p : Int} (hp : p ∈ ps) : 1 ≤ de ps t p ∧ de ps t p ≤ 8 := by
  have hc : 0 < ps.count p := List.count_pos_iff.mpr hp
  have := count_le8 h p
  exact ⟨Nat.div_pos (Nat.gcd_le_right _ hc) (Nat.gcd_pos_of_pos_right _ hc), Nat.le_trans (Nat.div_le_self ..) this⟩
theorem idx_pt0 (x y : Nat) : idx (.tup [.int (x : Nat), .int (y : Nat)]) (.int 0) = some (.int (x : Nat)) := rfl
theorem idx_pt1 (x y : Nat) : idx (.tup [.int (x : Nat), .int (y : Nat)]) (.int 1) = some (.int (y : Nat)) := rfl
theorem pts_seq {F : Fns} {i : Nat} {ρ : Env} {S : Sto} {ps t : List Int} (h : ρ[i]? = some (.val (ptsD ps t))) : evIt F (.seq (.var i)) ρ S = .ok (ps.map (ptD ps t)) S := by
  rw [evIt, r_var, h]; rfl
theorem mul_nn (a b : Nat) (h : b ≤ 1000) : op2 .mul (.int (a : Int)) (.int (b : Int)) = some (.int ((a * b : Nat) : Int)) := by rw [mul_small' (by omega)]; rfl
/-- the sum of all points, times 840 -/
theorem total_ok {ps t : List Int} (h : Places ps) (ht : Table t) (a b c d : D) : ev lawF (.f1 .sum (.comp (.op .mul (.idx (.var 12) (.cst (.int 0))) (.op .fdv (.cst (.int 840)) (.idx (.var 12) (.cst (.int 1))))) (.name 12) (.seq (.var 4)) [12])) [.val a, .val b, .val c, .val d, .val (ptsD ps t), .emp, .emp, .emp, .emp, .emp, .emp, .emp, .emp, .emp, .emp, .emp] [] = .ok (.int (840 * pS t ps.length)) [] := by
  have hl := h.len
  have hc : ev lawF (.comp (.op .mul (.idx (.var 12) (.cst (.int 0))) (.op .fdv (.cst (.int 840)) (.idx (.var 12) (.cst (.int 1))))) (.name 12) (.seq (.var 4)) [12]) [.val a, .val b, .val c, .val d, .val (ptsD ps t), .emp, .emp, .emp, .emp, .emp, .emp, .emp, .emp, .emp, .emp, .emp] [] = .ok (.lst ((ps.map (wgt ps t)).map D.int)) [] := by
    have e : (ps.map (wgt ps t)).map D.int = ps.map fun p => D.int (wgt ps t p) := by rw [List.map_map]; rfl
    rw [e]
    refine comp_map (l := ps) (ptD ps t) (fun p => .int (wgt ps t p)) (pts_seq rfl) (by omega) fun p hp => ?_
    have hcp : 0 < ps.count p := List.count_pos_iff.mpr hp
    obtain ⟨d1, d2⟩ := de_rng (t := t) h hp
    have q1 : op2 .fdv (.int 840) (.int (de ps t p : Nat)) = some (.int ((840 / de ps t p : Nat) : Int)) := by rw [op_fdv (by omega)]; rfl
    have q2 := mul_nn (nu ps t p) (840 / de ps t p) (Nat.le_trans (Nat.div_le_self ..) (by decide))
    have q3 : nu ps t p * (840 / de ps t p) = partOf ps t p * (840 / ps.count p) := low_wgt _ _ hcp (count_le8 h p)
    have q4 : wgt ps t p = ((nu ps t p * (840 / de ps t p) : Nat) : Int) := by rw [q3]; unfold wgt; push_cast; rfl
    rw [pt_eq, q4]
    have i0 := idx_pt0 (nu ps t p) (de ps t p)
    have i1 := idx_pt1 (nu ps t p) (de ps t p)
    generalize D.tup [.int (nu ps t p : Nat), .int (de ps t p : Nat)] = T at *
    generalize nu ps t p * (840 / de ps t p) = M at *
    generalize 840 / de ps t p = DD at *
    simp [exs_cons, exs_nil, exsK_nx, exsK_ap, ex_ifs, ifK_t, ifK_f, ex_asg1, ex_asg, ex_ret, ex_expr, ex_pass, ex_new, r_var, varR_val, r_own, ownR_own, r_cst, r_glo, r_op, r_chain, r_neg, negR_some, r_nt, r_and, r_or, r_ite, r_lst, r_tup, r_idx, r_slc0, r_slc1, r_slc2, r_slc3, r_rev, r_f1, r_f2, r_meth, r_isi, r_call, callR_ok, r_callO, callO_ok, r_lmeth, lmR_count, lmR_index, r_nrng, nrR_int, r_lzip, ex_cpy, ex_par, ex_retF, tabY_fn, tabY_gl, r_nil, r_cons, tab_fn, tab_gl, tabX_fn, tabX_gl, look_hit, look_miss, bindT, op_add, op_sub, op_lt, op_le, op_gt, op_ge, op_eq, op_ne, op_in, op_nin, op_is, op_isn, small_ok, compF, noOwn, wipe, i0, i1, q1, q2]
  have hs : b1 .sum (.lst ((ps.map (wgt ps t)).map D.int)) = some (.int (840 * pS t ps.length)) := by
    rw [← sum_all h ht]
    exact ints_sum (ps.map (wgt ps t))
  generalize (ps.map (wgt ps t)).map D.int = MM at *
  simp [exs_cons, exs_nil, exsK_nx, exsK_ap, ex_ifs, ifK_t, ifK_f, ex_asg1, ex_asg, ex_ret, ex_expr, ex_pass, ex_new, r_var, varR_val, r_own, ownR_own, r_cst, r_glo, r_op, r_chain, r_neg, negR_some, r_nt, r_and, r_or, r_ite, r_lst, r_tup, r_idx, r_slc0, r_slc1, r_slc2, r_slc3, r_rev, r_f1, r_f2, r_meth, r_isi, r_call, callR_ok, r_callO, callO_ok, r_lmeth, lmR_count, lmR_index, r_nrng, nrR_int, r_lzip, ex_cpy, ex_par, ex_retF, tabY_fn, tabY_gl, r_nil, r_cons, tab_fn, tab_gl, tabX_fn, tabX_gl, look_hit, look_miss, bindT, op_add, op_sub, op_lt, op_le, op_gt, op_ge, op_eq, op_ne, op_in, op_nin, op_is, op_isn, small_ok, hc, hs]
theorem no_rng {ps t : List Int} (h : Places ps) (a b c d e : D) : ev lawF (.compIf (.var 12) (.name 12) (.seq (.var 4)) (.nrng (.idx (.var 12) (.cst (.int 1))) (.cst (.int 1)) (.cst (.int 9))) [12]) [.val a, .val b, .val c, .val d, .val (ptsD ps t), .val e, .emp, .emp, .emp, .emp, .emp, .emp, .emp, .emp, .emp, .emp] [] = .ok (.lst []) [] := by
  have hl := h.len
  have ee := compIf_map (F := lawF) (e := .var 12) (tg := .name 12) (it := .seq (.var 4)) (c := .nrng (.idx (.var 12) (.cst (.int 1))) (.cst (.int 1)) (.cst (.int 9))) (vs := [12]) (ρ := [.val a, .val b, .val c, .val d, .val (ptsD ps t), .val e, .emp, .emp, .emp, .emp, .emp, .emp, .emp, .emp, .emp, .emp]) (S := []) (l := ps) (ptD ps t) (ptD ps t) (fun _ => false) (pts_seq rfl) (by omega) fun p hp => ?_
  · rw [List.filter_eq_nil_iff.mpr (by simp)] at ee
    exact ee
  · obtain ⟨d1, d2⟩ := de_rng (t := t) h hp
    have i1 := idx_pt1 (nu ps t p) (de ps t p)
    have hd : decide ((1 : Int) ≤ (de ps t p : Nat) ∧ ((de ps t p : Nat) : Int) < 9) = true := decide_eq_true (by omega)
    have hr : ∀ S, nrR (.int (de ps t p : Nat)) (.int 1) (.int 9) S = .ok (.bl false) S := fun S => by rw [nrR_int, hd]; rfl
    rw [pt_eq]
    generalize D.tup [.int (nu ps t p : Nat), .int (de ps t p : Nat)] = T at *
    generalize D.int (de ps t p : Nat) = E at *
    simp [compIfF, noOwn, wipe, bindT, r_nrng, r_idx, r_var, varR_val, r_cst, i1, hr]
/-- no size divides both -/
def sizeE : Ex := .compIf (.var 15) (.name 15) (.rng2 (.cst (.int 2)) (.cst (.int 9))) (.and (.op .eq (.op .mod (.idx (.var 12) (.cst (.int 0))) (.var 15)) (.cst (.int 0))) (.op .eq (.op .mod (.idx (.var 12) (.cst (.int 1))) (.var 15)) (.cst (.int 0)))) [15]
theorem no_size {ps t : List Int} (h : Places ps) {p : Int} (hp : p ∈ ps) (a b c d e f g : D) (u v : Slot) : ev lawF sizeE [.val a, .val b, .val c, .val d, .val e, .val f, .emp, .emp, .emp, .emp, .emp, .val g, .val (ptD ps t p), u, v, .emp] [] = .ok (.lst []) [] := by
  have er := rng2_eq 2 9 9 rfl (by decide) (by decide)
  have hc : 0 < ps.count p := List.count_pos_iff.mpr hp
  have ee := compIf_map (F := lawF) (e := .var 15) (tg := .name 15) (it := .rng2 (.cst (.int 2)) (.cst (.int 9))) (c := (.and (.op .eq (.op .mod (.idx (.var 12) (.cst (.int 0))) (.var 15)) (.cst (.int 0))) (.op .eq (.op .mod (.idx (.var 12) (.cst (.int 1))) (.var 15)) (.cst (.int 0))))) (vs := [15]) (ρ := [.val a, .val b, .val c, .val d, .val e, .val f, .emp, .emp, .emp, .emp, .emp, .val g, .val (ptD ps t p), u, v, .emp]) (S := []) (l := List.range' 2 7) (fun j => .int (j : Nat)) (fun j => .int (j : Nat)) (fun _ => false) (ev_rng2 (S1 := []) (S2 := []) (i := 2) (j := 9) (by rw [r_cst]) (by rw [r_cst]) er) (by simp) fun s hs => ?_
  · rw [List.filter_eq_nil_iff.mpr (by simp)] at ee
    exact ee
  · have hs := List.mem_range'_1.mp hs
    have m1 : op2 .mod (.int (nu ps t p : Nat)) (.int (s : Nat)) = some (.int ((nu ps t p % s : Nat) : Int)) := by rw [op_mod (by omega)]; rfl
    have m2 : op2 .mod (.int (de ps t p : Nat)) (.int (s : Nat)) = some (.int ((de ps t p % s : Nat) : Int)) := by rw [op_mod (by omega)]; rfl
    have np : ¬ (nu ps t p % s = 0 ∧ de ps t p % s = 0) := low_prime hc (by omega)
    have q1 : eqO (.int ((nu ps t p % s : Nat) : Int)) (.int 0) = some (decide (nu ps t p % s = 0)) := by
      rw [i_eq]
      exact congrArg some (decide_eq_decide.mpr (by omega))
    have q2 : eqO (.int ((de ps t p % s : Nat) : Int)) (.int 0) = some (decide (de ps t p % s = 0)) := by
      rw [i_eq]
      exact congrArg some (decide_eq_decide.mpr (by omega))
    have i0 := idx_pt0 (nu ps t p) (de ps t p)
    have i1 := idx_pt1 (nu ps t p) (de ps t p)
    rw [pt_eq]
    generalize D.tup [.int (nu ps t p : Nat), .int (de ps t p : Nat)] = T at *
    by_cases z1 : nu ps t p % s = 0
    · have z2 : ¬ de ps t p % s = 0 := fun z => np ⟨z1, z⟩
      rw [decide_eq_true z1] at q1
      rw [decide_eq_false z2] at q2
      generalize D.int ((nu ps t p % s : Nat) : Int) = E1 at *
      generalize D.int ((de ps t p % s : Nat) : Int) = E2 at *
      generalize D.int (nu ps t p : Nat) = E3 at *
      generalize D.int (de ps t p : Nat) = E4 at *
      generalize D.int (s : Nat) = E5 at *
      simp [compIfF, noOwn, wipe, bindT, r_and, r_op, r_idx, r_var, varR_val, r_cst, i0, i1, m1, m2, op_eq, q1, q2]
    · rw [decide_eq_false z1] at q1
      generalize D.int ((nu ps t p % s : Nat) : Int) = E1 at *
      generalize D.int (nu ps t p : Nat) = E3 at *
      generalize D.int (s : Nat) = E5 at *
      simp [compIfF, noOwn, wipe, bindT, r_and, r_op, r_idx, r_var, varR_val, r_cst, i0, m1, op_eq, q1]
/-! ### two by two -/
theorem enum_zip (f : Int → D) : ∀ (l : List Int) (n : Nat), enumD n (l.map f) = (l.zipIdx n).map fun x => .tup [.int (x.2 : Nat), f x.1]
  | [], _ => rfl
  | a :: l, n => by rw [List.map_cons, enumD, enum_zip f l (n + 1)]; rfl
theorem ints_at {l : List Int} {i : Nat} {p : Int} (h : l[i]? = some p) : idx (ints_ l) (.int (i : Nat)) = some (.int p) := by
  have hl : i < l.length := (List.getElem?_eq_some_iff.mp h).1
  simp only [ints_, idx, at_, ix, List.length_map]
  rw [if_pos (by omega), if_pos (by omega)]
  simp [h]
def twoB : Sms := .cons (.ifs (.and (.op .lt (.idx (.var 2) (.var 11)) (.idx (.var 2) (.var 13))) (.op .lt (.op .mul (.idx (.var 12) (.cst (.int 0))) (.idx (.var 14) (.cst (.int 1)))) (.op .mul (.idx (.var 14) (.cst (.int 0))) (.idx (.var 12) (.cst (.int 1)))))) (.cons (.ret (.cst (.bl false))) .nil) .nil) (.cons (.ifs (.and (.op .eq (.idx (.var 2) (.var 11)) (.idx (.var 2) (.var 13))) (.op .ne (.var 12) (.var 14))) (.cons (.ret (.cst (.bl false))) .nil) .nil) .nil)
theorem pt_plain (ps t : List Int) (p : Int) : pl 20 (ptD ps t p) = true := rfl
theorem two_turn {ps t : List Int} (h : Places ps) (ht : Table t) {p q : Int} {i j : Nat} (hi : ps[i]? = some p) (hj : ps[j]? = some q) (a b d e f : D) :
    exs lawF twoB [.val a, .val b, .val (ints_ ps), .val d, .val e, .val f, .emp, .emp, .emp, .emp, .emp, .val (.int (i : Nat)), .val (ptD ps t p), .val (.int (j : Nat)), .val (ptD ps t q), .emp] [] = .ok (.nx [.val a, .val b, .val (ints_ ps), .val d, .val e, .val f, .emp, .emp, .emp, .emp, .emp, .val (.int (i : Nat)), .val (ptD ps t p), .val (.int (j : Nat)), .val (ptD ps t q), .emp]) [] := by
  have hp : p ∈ ps := List.mem_of_getElem? hi
  have hq : q ∈ ps := List.mem_of_getElem? hj
  have ii := ints_at hi
  have ij := ints_at hj
  rcases Int.lt_trichotomy p q with hlt | he | hgt
  · have d1 := (de_rng (t := t) h hp).2
    have d2 := (de_rng (t := t) h hq).2
    have m1 := mul_nn (nu ps t p) (de ps t q) (by omega)
    have m2 := mul_nn (nu ps t q) (de ps t p) (by omega)
    have lc : nu ps t q * de ps t p ≤ nu ps t p * de ps t q := low_cross (List.count_pos_iff.mpr hp) (List.count_pos_iff.mpr hq) (part_mono h ht hp hq hlt)
    have nl : ¬ (((nu ps t p * de ps t q : Nat) : Int) < ((nu ps t q * de ps t p : Nat) : Int)) := by omega
    have ne : ¬ p = q := by omega
    have i0 := idx_pt0 (nu ps t p) (de ps t p)
    have i1 := idx_pt1 (nu ps t p) (de ps t p)
    have j0 := idx_pt0 (nu ps t q) (de ps t q)
    have j1 := idx_pt1 (nu ps t q) (de ps t q)
    rw [← pt_eq] at i0 i1 j0 j1
    generalize nu ps t p * de ps t q = M1 at *
    generalize nu ps t q * de ps t p = M2 at *
    have lo := op_lt (a := (M1 : Int)) (b := (M2 : Int))
    rw [decide_eq_false nl] at lo
    generalize D.int (M1 : Int) = E1 at *
    generalize D.int (M2 : Int) = E2 at *
    generalize D.int (nu ps t p : Nat) = E3 at *
    generalize D.int (nu ps t q : Nat) = E4 at *
    generalize D.int (de ps t p : Nat) = E5 at *
    generalize D.int (de ps t q : Nat) = E6 at *
    simp [exs_cons, exs_nil, exsK_nx, exsK_ap, ex_ifs, ifK_t, ifK_f, ex_asg1, ex_asg, ex_ret, ex_expr, ex_pass, ex_new, r_var, varR_val, r_own, ownR_own, r_cst, r_glo, r_op, r_chain, r_neg, negR_some, r_nt, r_and, r_or, r_ite, r_lst, r_tup, r_idx, r_slc0, r_slc1, r_slc2, r_slc3, r_rev, r_f1, r_f2, r_meth, r_isi, r_call, callR_ok, r_callO, callO_ok, r_lmeth, lmR_count, lmR_index, r_nrng, nrR_int, r_lzip, ex_cpy, ex_par, ex_retF, tabY_fn, tabY_gl, r_nil, r_cons, tab_fn, tab_gl, tabX_fn, tabX_gl, look_hit, look_miss, bindT, op_add, op_sub, op_lt, op_le, op_gt, op_ge, op_eq, op_ne, op_in, op_nin, op_is, op_isn, small_ok, twoB, ii, ij, hlt, i0, i1, j0, j1, m1, m2, lo, i_eq, ne]
  · subst he
    have nl : ¬ p < p := by omega
    have es := eq_same (pt_plain ps t p)
    simp [exs_cons, exs_nil, exsK_nx, exsK_ap, ex_ifs, ifK_t, ifK_f, ex_asg1, ex_asg, ex_ret, ex_expr, ex_pass, ex_new, r_var, varR_val, r_own, ownR_own, r_cst, r_glo, r_op, r_chain, r_neg, negR_some, r_nt, r_and, r_or, r_ite, r_lst, r_tup, r_idx, r_slc0, r_slc1, r_slc2, r_slc3, r_rev, r_f1, r_f2, r_meth, r_isi, r_call, callR_ok, r_callO, callO_ok, r_lmeth, lmR_count, lmR_index, r_nrng, nrR_int, r_lzip, ex_cpy, ex_par, ex_retF, tabY_fn, tabY_gl, r_nil, r_cons, tab_fn, tab_gl, tabX_fn, tabX_gl, look_hit, look_miss, bindT, op_add, op_sub, op_lt, op_le, op_gt, op_ge, op_eq, op_ne, op_in, op_nin, op_is, op_isn, small_ok, twoB, ii, ij, nl, i_eq, es]
  · have nl : ¬ p < q := by omega
    have ne : ¬ p = q := by omega
    simp [exs_cons, exs_nil, exsK_nx, exsK_ap, ex_ifs, ifK_t, ifK_f, ex_asg1, ex_asg, ex_ret, ex_expr, ex_pass, ex_new, r_var, varR_val, r_own, ownR_own, r_cst, r_glo, r_op, r_chain, r_neg, negR_some, r_nt, r_and, r_or, r_ite, r_lst, r_tup, r_idx, r_slc0, r_slc1, r_slc2, r_slc3, r_rev, r_f1, r_f2, r_meth, r_isi, r_call, callR_ok, r_callO, callO_ok, r_lmeth, lmR_count, lmR_index, r_nrng, nrR_int, r_lzip, ex_cpy, ex_par, ex_retF, tabY_fn, tabY_gl, r_nil, r_cons, tab_fn, tab_gl, tabX_fn, tabX_gl, look_hit, look_miss, bindT, op_add, op_sub, op_lt, op_le, op_gt, op_ge, op_eq, op_ne, op_in, op_nin, op_is, op_isn, small_ok, twoB, ii, ij, nl, i_eq, ne]
def outB : Sms := .cons (.each (.pair (.name 13) (.name 14)) (.enm (.var 4)) twoB) (.cons (.ifs (.op .ne sizeE (.lst .nil)) (.cons (.ret (.cst (.bl false))) .nil) .nil) .nil)
theorem zip_mem {l : List Int} {x : Int × Nat} (h : x ∈ l.zipIdx 0) : l[x.2]? = some x.1 := by
  obtain ⟨a, b⟩ := x
  simpa using List.mk_mem_zipIdx_iff_getElem?.mp h
theorem enm_pts {ps t : List Int} {ρ : Env} (h : ρ[4]? = some (.val (ptsD ps t))) : evIt lawF (.enm (.var 4)) ρ [] = .ok ((ps.zipIdx 0).map fun x => .tup [.int (x.2 : Nat), ptD ps t x.1]) [] := by
  rw [evIt, r_var, h, ← enum_zip]; rfl
theorem loops_ok {ps t : List Int} (h : Places ps) (ht : Table t) (a b d f : D) : ∃ u v w z, ex lawF (.each (.pair (.name 11) (.name 12)) (.enm (.var 4)) outB) [.val a, .val b, .val (ints_ ps), .val d, .val (ptsD ps t), .val f, .emp, .emp, .emp, .emp, .emp, .emp, .emp, .emp, .emp, .emp] [] = .ok (.nx [.val a, .val b, .val (ints_ ps), .val d, .val (ptsD ps t), .val f, .emp, .emp, .emp, .emp, .emp, u, v, w, z, .emp]) [] := by
  obtain ⟨x', el⟩ := loop_fold (fun x : Int × Nat => D.tup [.int (x.2 : Nat), ptD ps t x.1]) (fun (_ : Unit) (x : Slot × Slot × Slot × Slot) => [.val a, .val b, .val (ints_ ps), .val d, .val (ptsD ps t), .val f, .emp, .emp, .emp, .emp, .emp, x.1, x.2.1, x.2.2.1, x.2.2.2, .emp]) (fun _ _ => ()) (f := eachF lawF (.pair (.name 11) (.name 12)) outB) (S := []) (ps.zipIdx 0) (fun _ x y hy => by
    have hi := zip_mem hy
    have hp : y.1 ∈ ps := List.mem_of_getElem? hi
    obtain ⟨x2, el2⟩ := loop_fold (fun x : Int × Nat => D.tup [.int (x.2 : Nat), ptD ps t x.1]) (fun (_ : Unit) (x : Slot × Slot) => [.val a, .val b, .val (ints_ ps), .val d, .val (ptsD ps t), .val f, .emp, .emp, .emp, .emp, .emp, .val (.int (y.2 : Nat)), .val (ptD ps t y.1), x.1, x.2, .emp]) (fun _ _ => ()) (f := eachF lawF (.pair (.name 13) (.name 14)) twoB) (S := []) (ps.zipIdx 0) (fun _ x q hq => by
      refine ⟨(.val (.int (q.2 : Nat)), .val (ptD ps t q.1)), ?_⟩
      exact (eachF_eq rfl).trans (two_turn h ht hi (zip_mem hq) a b d (ptsD ps t) f)) () (x.2.2.1, x.2.2.2)
    refine ⟨(.val (.int (y.2 : Nat)), .val (ptD ps t y.1), x2.1, x2.2), ?_⟩
    have e1 : ex lawF (.each (.pair (.name 13) (.name 14)) (.enm (.var 4)) twoB) [.val a, .val b, .val (ints_ ps), .val d, .val (ptsD ps t), .val f, .emp, .emp, .emp, .emp, .emp, .val (.int (y.2 : Nat)), .val (ptD ps t y.1), x.2.2.1, x.2.2.2, .emp] [] = .ok (.nx [.val a, .val b, .val (ints_ ps), .val d, .val (ptsD ps t), .val f, .emp, .emp, .emp, .emp, .emp, .val (.int (y.2 : Nat)), .val (ptD ps t y.1), x2.1, x2.2, .emp]) [] := by
      rw [ex_each, enm_pts (ps := ps) (t := t) rfl, R.then_ok]
      exact el2
    have e2 := no_size (t := t) h hp a b (ints_ ps) d (ptsD ps t) f (.int (y.2 : Nat)) x2.1 x2.2
    have hq : eqO (.lst []) (.lst []) = some true := rfl
    rw [eachF_eq (ρ1 := [.val a, .val b, .val (ints_ ps), .val d, .val (ptsD ps t), .val f, .emp, .emp, .emp, .emp, .emp, .val (.int (y.2 : Nat)), .val (ptD ps t y.1), x.2.2.1, x.2.2.2, .emp]) rfl]
    generalize D.int (y.2 : Nat) = E1 at *
    simp [exs_cons, exs_nil, exsK_nx, exsK_ap, ex_ifs, ifK_t, ifK_f, ex_asg1, ex_asg, ex_ret, ex_expr, ex_pass, ex_new, r_var, varR_val, r_own, ownR_own, r_cst, r_glo, r_op, r_chain, r_neg, negR_some, r_nt, r_and, r_or, r_ite, r_lst, r_tup, r_idx, r_slc0, r_slc1, r_slc2, r_slc3, r_rev, r_f1, r_f2, r_meth, r_isi, r_call, callR_ok, r_callO, callO_ok, r_lmeth, lmR_count, lmR_index, r_nrng, nrR_int, r_lzip, ex_cpy, ex_par, ex_retF, tabY_fn, tabY_gl, r_nil, r_cons, tab_fn, tab_gl, tabX_fn, tabX_gl, look_hit, look_miss, bindT, op_add, op_sub, op_lt, op_le, op_gt, op_ge, op_eq, op_ne, op_in, op_nin, op_is, op_isn, small_ok, outB, e1, e2, hq]) () (.emp, .emp, .emp, .emp)
  refine ⟨x'.1, x'.2.1, x'.2.2.1, x'.2.2.2, ?_⟩
  rw [ex_each, enm_pts (ps := ps) (t := t) rfl, R.then_ok]
  exact el
/-! ### the rest of the law -/
theorem low_plain (a b n : Nat) : pl (n + 2) (lowD a b) = true := by simp [lowD, pl]
theorem pts_plain (ps t : List Int) : pl 20 (ptsD ps t) = true := by
  simp [ptsD, pl, ptD, low_plain]
theorem cut_from {α : Type} (l : List α) (k : Nat) : cut l (some (k : Int)) none = l.drop k := by
  have h1 : ¬ ((k : Int) < 0) := by omega
  simp only [cut, sx, if_neg h1, Int.toNat_natCast]
  rcases Nat.le_total k l.length with h | h
  · rw [Nat.min_eq_left h, List.take_of_length_le (by simp)]
  · rw [Nat.min_eq_right h, List.drop_eq_nil_of_le (Nat.le_refl _), List.drop_eq_nil_of_le h]
    simp
theorem cut_to {α : Type} (l : List α) (k : Nat) : cut l none (some (k : Int)) = l.take k := by
  have h1 : ¬ ((k : Int) < 0) := by omega
  simp only [cut, sx, if_neg h1, Int.toNat_natCast, List.drop_zero, Nat.sub_zero]
  rcases Nat.le_total k l.length with h | h
  · rw [Nat.min_eq_left h]
  · rw [Nat.min_eq_right h, List.take_of_length_le (Nat.le_refl _), List.take_of_length_le h]
theorem add_lst {a b : List D} (h : a.length + b.length ≤ 1000000) : op2 .add (.lst a) (.lst b) = some (.lst (a ++ b)) := by
  show (if a.length + b.length ≤ lim then some (D.lst (a ++ b)) else none) = _
  rw [if_pos (by unfold lim; exact h)]
theorem mul_lst (d : D) (n : Nat) (h : n ≤ 1000) : op2 .mul (.lst [d]) (.int (n : Int)) = some (.lst (List.replicate n d)) := by
  show (if [d].length * (n : Int).toNat ≤ lim ∧ (n : Int).natAbs < 4611686018427387904 then some (D.lst (List.replicate (n : Int).toNat [d]).flatten) else none) = _
  rw [if_pos ⟨by unfold lim; simp; omega, by omega⟩, Int.toNat_natCast, List.flatten_replicate_singleton]
theorem map_const {ps : List Int} {f : Int → D} {d : D} (h : ∀ p ∈ ps, f p = d) : ps.map f = List.replicate ps.length d := List.map_eq_replicate_iff.mpr h
theorem turned {ps t : List Int} (h : Places ps) (ht : Table t) (k : Nat) : ∃ A B C A' B' C', slc (ints_ ps) (some (k : Int)) none = some A ∧ slc (ints_ ps) none (some (k : Int)) = some B ∧ op2 .add A B = some C ∧ fn_points [C, ints_ t] [] = .ok C' [] ∧ slc (ptsD ps t) (some (k : Int)) none = some A' ∧ slc (ptsD ps t) none (some (k : Int)) = some B' ∧ op2 .add A' B' = some C' ∧ eqO C' C' = some true := by
  have hl := h.len
  have hp : (ps.drop k ++ ps.take k).Perm ps := by
    refine List.perm_append_comm.trans ?_
    rw [List.take_append_drop]
  have pt := points_ok (h.perm hp) ht []
  have ha : (ps.drop k).length + (ps.take k).length ≤ 1000000 := by rw [List.length_drop, List.length_take]; omega
  refine ⟨ints_ (ps.drop k), ints_ (ps.take k), ints_ (ps.drop k ++ ps.take k), .lst ((ps.drop k).map (ptD ps t)), .lst ((ps.take k).map (ptD ps t)), ptsD (ps.drop k ++ ps.take k) t, ?_, ?_, ?_, pt, ?_, ?_, ?_, eq_same (pts_plain _ _)⟩
  · rw [ints_slc, cut_from]
  · rw [ints_slc, cut_to]
  · rw [ints_, ints_, add_lst (by simpa using ha), ← List.map_append]; rfl
  · rw [ptsD, slc, cut_from, List.map_drop]
  · rw [ptsD, slc, cut_to, List.map_take]
  · rw [add_lst (by simpa using ha), ← List.map_append, ptsD]
    congr 2
    exact List.map_congr_left fun p _ => (ptD_perm hp p).symm
theorem flat_ok {ps : List Int} (h : Places ps) {x : Int} (hx : 0 ≤ x ∧ x ≤ 999) : ∃ A B, op2 .mul (.lst [.int x]) (.int 8) = some A ∧ fn_points [ints_ ps, A] [] = .ok B [] ∧ op2 .mul (.lst [.tup [.int x, .int 1]]) (.int (ps.length : Int)) = some B ∧ eqO B B = some true := by
  obtain ⟨y, rfl⟩ : ∃ y : Nat, x = y := ⟨x.toNat, by omega⟩
  have hl := h.len
  have ht := flat_table hx
  refine ⟨ints_ (List.replicate 8 (y : Int)), ptsD ps (List.replicate 8 (y : Int)), ?_, points_ok h ht [], ?_, eq_same (pts_plain _ _)⟩
  · have := mul_lst (.int (y : Int)) 8 (by decide)
    rw [ints_, List.map_replicate]
    exact this
  · rw [mul_lst _ _ (by omega), ptsD, map_const (fun p hp => flat_pt h (x := y) (by omega) hp)]
theorem nil_ok {ps : List Int} (h : Places ps) : ∃ B, fn_points [ints_ ps, .lst []] [] = .ok B [] ∧ op2 .mul (.lst [.tup [.int 0, .int 1]]) (.int (ps.length : Int)) = some B ∧ eqO B B = some true := by
  have hl := h.len
  refine ⟨ptsD ps [], points_ok h nil_table [], ?_, eq_same (pts_plain _ _)⟩
  rw [mul_lst _ _ (by omega), ptsD, map_const (fun p hp => nil_pt hp)]
theorem third_table {t : List Int} (h : Table t) : Table (t.map fun x => x / 3) := map_table h _ (fun a b z => by omega) fun p hp => by
  have := h.rng p hp
  omega
theorem twice_table {t : List Int} (h : Table t) : Table ((t.map fun x => x / 3).map fun x => 2 * x) := map_table (third_table h) _ (fun a b z => by omega) fun p hp => by
  obtain ⟨q, hq, rfl⟩ := List.mem_map.mp hp
  have := h.rng q hq
  omega
theorem third_ok {t : List Int} (h : Table t) (a b c d e f g : D) (u v w z : Slot) : ev lawF (.comp (.op .fdv (.var 12) (.cst (.int 3))) (.name 12) (.seq (.var 3)) [12]) [.val a, .val b, .val c, .val (ints_ t), .val d, .val e, .val f, .val g, .emp, .emp, .emp, u, v, w, z, .emp] [] = .ok (ints_ (t.map fun x => x / 3)) [] := by
  have hl := h.len
  have e0 : ints_ (t.map fun x => x / 3) = .lst (t.map fun x => .int (x / 3)) := by simp [ints_]
  rw [e0]
  refine comp_map (l := t) D.int (fun x => .int (x / 3)) (seq_ints rfl) (by omega) fun p hp => ?_
  have q1 : op2 .fdv (.int p) (.int 3) = some (.int (p / 3)) := op_fdv (by decide)
  generalize D.int (p / 3) = E at *
  cases u <;> cases w <;> cases z <;> simp [exs_cons, exs_nil, exsK_nx, exsK_ap, ex_ifs, ifK_t, ifK_f, ex_asg1, ex_asg, ex_ret, ex_expr, ex_pass, ex_new, r_var, varR_val, r_own, ownR_own, r_cst, r_glo, r_op, r_chain, r_neg, negR_some, r_nt, r_and, r_or, r_ite, r_lst, r_tup, r_idx, r_slc0, r_slc1, r_slc2, r_slc3, r_rev, r_f1, r_f2, r_meth, r_isi, r_call, callR_ok, r_callO, callO_ok, r_lmeth, lmR_count, lmR_index, r_nrng, nrR_int, r_lzip, ex_cpy, ex_par, ex_retF, tabY_fn, tabY_gl, r_nil, r_cons, tab_fn, tab_gl, tabX_fn, tabX_gl, look_hit, look_miss, bindT, op_add, op_sub, op_lt, op_le, op_gt, op_ge, op_eq, op_ne, op_in, op_nin, op_is, op_isn, small_ok, compF, noOwn, wipe, q1]
theorem twice_ok {s : List Int} (hs : s.length ≤ 8) (a b c k d e f g : D) (u v w z : Slot) : ev lawF (.comp (.op .mul (.cst (.int 2)) (.var 12)) (.name 12) (.seq (.var 8)) [12]) [.val a, .val b, .val c, .val k, .val d, .val e, .val f, .val g, .val (ints_ s), .emp, .emp, u, v, w, z, .emp] [] = .ok (ints_ (s.map fun x => 2 * x)) [] := by
  have e0 : ints_ (s.map fun x => 2 * x) = .lst (s.map fun x => .int (2 * x)) := by simp [ints_]
  rw [e0]
  refine comp_map (l := s) D.int (fun x => .int (2 * x)) (seq_ints rfl) (by omega) fun p hp => ?_
  have q1 : op2 .mul (.int 2) (.int p) = some (.int (2 * p)) := mul_small (by decide)
  generalize D.int (2 * p) = E at *
  cases u <;> cases w <;> cases z <;> simp [exs_cons, exs_nil, exsK_nx, exsK_ap, ex_ifs, ifK_t, ifK_f, ex_asg1, ex_asg, ex_ret, ex_expr, ex_pass, ex_new, r_var, varR_val, r_own, ownR_own, r_cst, r_glo, r_op, r_chain, r_neg, negR_some, r_nt, r_and, r_or, r_ite, r_lst, r_tup, r_idx, r_slc0, r_slc1, r_slc2, r_slc3, r_rev, r_f1, r_f2, r_meth, r_isi, r_call, callR_ok, r_callO, callO_ok, r_lmeth, lmR_count, lmR_index, r_nrng, nrR_int, r_lzip, ex_cpy, ex_par, ex_retF, tabY_fn, tabY_gl, r_nil, r_cons, tab_fn, tab_gl, tabX_fn, tabX_gl, look_hit, look_miss, bindT, op_add, op_sub, op_lt, op_le, op_gt, op_ge, op_eq, op_ne, op_in, op_nin, op_is, op_isn, small_ok, compF, noOwn, wipe, q1]
def pairOf (ps s t : List Int) (p : Int) : D := .tup [ptD ps t p, ptD ps s p]
theorem zip_pts (ps s t : List Int) : lzipD (ptsD ps t) (ptsD ps s) = some (.lst (ps.map (pairOf ps s t))) := by
  show some (D.lst (List.zipWith _ _ _)) = _
  rw [List.zipWith_map, List.zipWith_self]
  rfl
theorem last_ok {ps s : List Int} (h : Places ps) (hs : Table s) (h2 : Table (s.map fun x => 2 * x)) (a b c k d e f g i j : D) (u v w z : Slot) : ev lawF (.compIf (.cst (.int 1)) (.pair (.name 12) (.name 14)) (.seq (.var 10)) (.op .ne (.op .mul (.idx (.var 12) (.cst (.int 0))) (.idx (.var 14) (.cst (.int 1)))) (.op .mul (.op .mul (.cst (.int 2)) (.idx (.var 14) (.cst (.int 0)))) (.idx (.var 12) (.cst (.int 1))))) [12, 14]) [.val a, .val b, .val c, .val k, .val d, .val e, .val f, .val g, .val i, .val j, .val (.lst (ps.map (pairOf ps s (s.map fun x => 2 * x)))), u, v, w, z, .emp] [] = .ok (.lst []) [] := by
  have hl := h.len
  have ee := compIf_map (F := lawF) (e := .cst (.int 1)) (tg := .pair (.name 12) (.name 14)) (it := .seq (.var 10)) (c := (.op .ne (.op .mul (.idx (.var 12) (.cst (.int 0))) (.idx (.var 14) (.cst (.int 1)))) (.op .mul (.op .mul (.cst (.int 2)) (.idx (.var 14) (.cst (.int 0)))) (.idx (.var 12) (.cst (.int 1)))))) (vs := [12, 14]) (ρ := [.val a, .val b, .val c, .val k, .val d, .val e, .val f, .val g, .val i, .val j, .val (.lst (ps.map (pairOf ps s (s.map fun x => 2 * x)))), u, v, w, z, .emp]) (S := []) (l := ps) (pairOf ps s (s.map fun x => 2 * x)) (fun _ => .int 1) (fun _ => false) (by rw [evIt, r_var]; rfl) (by omega) fun p hp => ?_
  · rw [List.filter_eq_nil_iff.mpr (by simp)] at ee
    exact ee
  · have hc : 0 < ps.count p := List.count_pos_iff.mpr hp
    have d1 := (de_rng (t := s) h hp).2
    have d2 := (de_rng (t := s.map fun x => 2 * x) h hp).2
    have lt : nu ps (s.map fun x => 2 * x) p * de ps s p = 2 * nu ps s p * de ps (s.map fun x => 2 * x) p := by
      unfold nu de
      rw [part_twice h hs h2 hp]
      exact low_twice hc
    have m1 := mul_nn (nu ps (s.map fun x => 2 * x) p) (de ps s p) (by omega)
    have m2 : op2 .mul (.int 2) (.int (nu ps s p : Nat)) = some (.int ((2 * nu ps s p : Nat) : Int)) := by rw [mul_small (by decide)]; rfl
    have m3 := mul_nn (2 * nu ps s p) (de ps (s.map fun x => 2 * x) p) (by omega)
    rw [lt] at m1
    have i0 := idx_pt0 (nu ps (s.map fun x => 2 * x) p) (de ps (s.map fun x => 2 * x) p)
    have i1 := idx_pt1 (nu ps (s.map fun x => 2 * x) p) (de ps (s.map fun x => 2 * x) p)
    have j0 := idx_pt0 (nu ps s p) (de ps s p)
    have j1 := idx_pt1 (nu ps s p) (de ps s p)
    have es : eqO (.int ((2 * nu ps s p * de ps (s.map fun x => 2 * x) p : Nat) : Int)) (.int ((2 * nu ps s p * de ps (s.map fun x => 2 * x) p : Nat) : Int)) = some true := by rw [i_eq, decide_eq_true rfl]
    generalize D.int ((2 * nu ps s p * de ps (s.map fun x => 2 * x) p : Nat) : Int) = E1 at *
    generalize D.int ((2 * nu ps s p : Nat) : Int) = E2 at *
    rw [← pt_eq] at i0 i1 j0 j1
    unfold pairOf
    generalize ptD ps (s.map fun x => 2 * x) p = T1 at *
    generalize ptD ps s p = T2 at *
    generalize (ps.map fun p => D.tup [ptD ps (s.map fun x => 2 * x) p, ptD ps s p]) = LL at *
    generalize D.int (nu ps (s.map fun x => 2 * x) p : Nat) = E3 at *
    generalize D.int (nu ps s p : Nat) = E4 at *
    generalize D.int (de ps (s.map fun x => 2 * x) p : Nat) = E5 at *
    generalize D.int (de ps s p : Nat) = E6 at *
    cases u <;> cases w <;> simp [exs_cons, exs_nil, exsK_nx, exsK_ap, ex_ifs, ifK_t, ifK_f, ex_asg1, ex_asg, ex_ret, ex_expr, ex_pass, ex_new, r_var, varR_val, r_own, ownR_own, r_cst, r_glo, r_op, r_chain, r_neg, negR_some, r_nt, r_and, r_or, r_ite, r_lst, r_tup, r_idx, r_slc0, r_slc1, r_slc2, r_slc3, r_rev, r_f1, r_f2, r_meth, r_isi, r_call, callR_ok, r_callO, callO_ok, r_lmeth, lmR_count, lmR_index, r_nrng, nrR_int, r_lzip, ex_cpy, ex_par, ex_retF, tabY_fn, tabY_gl, r_nil, r_cons, tab_fn, tab_gl, tabX_fn, tabX_gl, look_hit, look_miss, bindT, op_add, op_sub, op_lt, op_le, op_gt, op_ge, op_eq, op_ne, op_in, op_nin, op_is, op_isn, small_ok, compIfF, noOwn, wipe, i0, i1, j0, j1, m1, m2, m3, es]
theorem law_true (ns : List Int) (hn : ns.length ≤ 63) : ∃ S, fn_law [.scr ns] [] = .ok (.bl true) S := by
  refine ⟨[], ?_⟩
  obtain ⟨n, d1, d2⟩ := draw_ok ns 9 9 [] hn (by decide) (by decide)
  obtain ⟨ps, p1, P, hpl⟩ := places_drawn_ok ns hn 0 n [] (by decide) (by omega)
  subst hpl
  obtain ⟨t, t1, T⟩ := table_drawn_ok ns hn 10 [] (by decide)
  obtain ⟨k, d3, d4⟩ := draw_ok ns 30 ((ps.length : Int) + 1) [] hn (by decide) (by omega)
  obtain ⟨x, d5, d6⟩ := draw_ok ns 31 1000 [] hn (by decide) (by decide)
  rw [← drawn_eq] at d1 d3 d5
  obtain ⟨k', rfl⟩ : ∃ k' : Nat, k = k' := ⟨k.toNat, by omega⟩
  have pt := points_ok P T []
  have tot := total_ok P T (.scr ns) (.int (ps.length : Int)) (ints_ ps) (ints_ t)
  have nr := no_rng (t := t) P (.scr ns) (.int (ps.length : Int)) (ints_ ps) (ints_ t) (.int (840 * pS t ps.length))
  have sl := ints_slc t none (some (ps.length : Int))
  rw [cut_to] at sl
  have sm : b1 .sum (ints_ (t.take ps.length)) = some (.int (pS t ps.length)) := ints_sum _
  have m840 : op2 .mul (.int 840) (.int (pS t ps.length)) = some (.int (840 * pS t ps.length)) := mul_small (by decide)
  have e840 : eqO (.int (840 * pS t ps.length)) (.int (840 * pS t ps.length)) = some true := by rw [i_eq, decide_eq_true rfl]
  obtain ⟨u, v, w, z, lo⟩ := loops_ok P T (.scr ns) (.int (ps.length : Int)) (ints_ t) (.int (840 * pS t ps.length))
  obtain ⟨A, B, C, A', B', C', r1, r2, r3, r4, r5, r6, r7, r8⟩ := turned P T k'
  obtain ⟨fA, fB, g1, g2, g3, g4⟩ := flat_ok P (x := x) (by omega)
  obtain ⟨nB, n1, n2, n3⟩ := nil_ok P
  have th := third_ok T (.scr ns) (.int (ps.length : Int)) (ints_ ps) (ptsD ps t) (.int (840 * pS t ps.length)) (.int (k' : Int)) (.int x) u v w z
  have tw := twice_ok (s := t.map fun x => x / 3) (by rw [List.length_map]; exact T.len) (.scr ns) (.int (ps.length : Int)) (ints_ ps) (ints_ t) (ptsD ps t) (.int (840 * pS t ps.length)) (.int (k' : Int)) (.int x) u v w z
  have p3 := points_ok P (third_table T) []
  have p2 := points_ok P (twice_table T) []
  have zp := zip_pts ps (t.map fun x => x / 3) ((t.map fun x => x / 3).map fun x => 2 * x)
  have la := last_ok P (third_table T) (twice_table T) (.scr ns) (.int (ps.length : Int)) (ints_ ps) (ints_ t) (ptsD ps t) (.int (840 * pS t ps.length)) (.int (k' : Int)) (.int x) (ints_ (t.map fun x => x / 3)) (ptsD ps ((t.map fun x => x / 3).map fun x => 2 * x)) u v w z
  have hnil : eqO (.lst []) (.lst []) = some true := rfl
  have sk1 : ∀ S, asI (.int (k' : Int)) S = .ok (some (k' : Int)) S := fun S => rfl
  have sk2 : ∀ S, asI (.int (ps.length : Int)) S = .ok (some (ps.length : Int)) S := fun S => rfl
  have ad : op2 .add (.int (ps.length : Int)) (.int 1) = some (.int ((ps.length : Int) + 1)) := rfl
  generalize ((t.map fun x => x / 3).map fun x => 2 * x) = t2 at *
  generalize (t.map fun x => x / 3) = t3 at *
  generalize ps.map (pairOf ps t3 t2) = PP at *
  generalize ptsD ps t2 = Q2 at *
  generalize ptsD ps t3 = Q3 at *
  generalize ptsD ps t = Q at *
  generalize 840 * pS t ps.length = tt at *
  generalize pS t ps.length = t8 at *
  generalize ints_ (t.take ps.length) = tk at *
  generalize ints_ t2 = I2 at *
  generalize ints_ t3 = I3 at *
  generalize ints_ t = I at *
  generalize ints_ ps = J at *
  generalize (ps.length : Int) = nn at *
  generalize (k' : Int) = kk at *
  generalize D.int (nn + 1) = N1 at *
  rw [law_in]
  unfold outB twoB sizeE at lo
  unfold b_law
  simp [exs_cons, exs_nil, exsK_nx, exsK_ap, ex_ifs, ifK_t, ifK_f, ex_asg1, ex_asg, ex_ret, ex_expr, ex_pass, ex_new, r_var, varR_val, r_own, ownR_own, r_cst, r_glo, r_op, r_chain, r_neg, negR_some, r_nt, r_and, r_or, r_ite, r_lst, r_tup, r_idx, r_slc0, r_slc1, r_slc2, r_slc3, r_rev, r_f1, r_f2, r_meth, r_isi, r_call, callR_ok, r_callO, callO_ok, r_lmeth, lmR_count, lmR_index, r_nrng, nrR_int, r_lzip, ex_cpy, ex_par, ex_retF, tabY_fn, tabY_gl, r_nil, r_cons, tab_fn, tab_gl, tabX_fn, tabX_gl, look_hit, look_miss, bindT, op_add, op_sub, op_lt, op_le, op_gt, op_ge, op_eq, op_ne, op_in, op_nin, op_is, op_isn, small_ok, f3, f69, f70, f67, d1, p1, t1, pt, tot, nr, hnil, sl, sm, m840, e840, lo, d3, r1, r2, r3, r4, r5, r6, r7, r8, d5, g1, g2, g3, g4, n1, n2, n3, th, tw, p2, p3, zp, la, ad]
def top (i : Nat) : Stmt := PySem.Challenge.pw_hightries_k71_whole_points.main.body.getD i (.Pass ⟨0, 0, 0, 0⟩)
def fnD (i : Nat) (x : Str) : He.DefD := ⟨(x, none), x, x, L2.defArgs (top i), L2.defBody (top i), L2.defScope (top i), [], []⟩
def fnN : Nat → Str
  | 11 => "is_number"
  | 64 => "lowest"
  | 65 => "need_places"
  | 66 => "need_table"
  | 67 => "points"
  | 3 => "_law_drawn"
  | 69 => "_law_places_drawn"
  | 70 => "_law_table"
  | 92 => "law"
  | _ => ""
def glN : Nat → Str

  | _ => ""
def cs : List (Nat × Str) := []
def gx (K : PySem.W.Frag) : Gx := ⟨K, fun i => He.ga K (clOf cs i), fun _ => "", 0⟩
theorem ck_is_number : defB ["thing", "least", "most"] ["thing", "least", "most"] fnN glN (clOf cs) (L2.defScope (top 5)) (L2.defBody (top 5)) b_is_number = true := by decide +kernel
theorem ck_lowest : defB ["one", "other", "great", "small"] ["one", "other"] fnN glN (clOf cs) (L2.defScope (top 7)) (L2.defBody (top 7)) b_lowest = true := by decide +kernel
theorem ck_need_places : defB ["found", "one", "other"] ["found"] fnN glN (clOf cs) (L2.defScope (top 8)) (L2.defBody (top 8)) b_need_places = true := by decide +kernel
theorem ck_need_table : defB ["table", "one"] ["table"] fnN glN (clOf cs) (L2.defScope (top 9)) (L2.defBody (top 9)) b_need_table = true := by decide +kernel
theorem ck_points : defB ["places", "table", "found", "place", "many"] ["places", "table"] fnN glN (clOf cs) (L2.defScope (top 10)) (L2.defBody (top 10)) b_points = true := by decide +kernel
theorem ck__law_drawn : defB ["script", "k", "many", "cell", "turn", "rest"] ["script", "k", "many"] fnN glN (clOf cs) (L2.defScope (top 12)) (L2.defBody (top 12)) b__law_drawn = true := by decide +kernel
theorem ck__law_places_drawn : defB ["script", "at", "many", "marks", "k", "one", "other"] ["script", "at", "many"] fnN glN (clOf cs) (L2.defScope (top 13)) (L2.defBody (top 13)) b__law_places_drawn = true := by decide +kernel
theorem ck__law_table : defB ["script", "at", "limit", "found", "k"] ["script", "at"] fnN glN (clOf cs) (L2.defScope (top 14)) (L2.defBody (top 14)) b__law_table = true := by decide +kernel
theorem ck_law : defB ["script", "many", "found", "table", "told", "total", "turn", "flat", "small", "twice", "pairs", "at", "one", "place", "other", "size"] ["script"] fnN glN (clOf cs) (L2.defScope (top 15)) (L2.defBody (top 15)) b_law = true := by decide +kernel
def fn : List He.DefD := [fnD 5 "is_number", fnD 7 "lowest", fnD 8 "need_places", fnD 9 "need_table", fnD 10 "points", fnD 12 "_law_drawn", fnD 13 "_law_places_drawn", fnD 14 "_law_table", fnD 15 "law"]
def fa : List He.Fa := builtinNames.map He.Fa.free ++ [He.Fa.glo "is_number", He.Fa.glo "lowest", He.Fa.glo "need_places", He.Fa.glo "need_table", He.Fa.glo "points", He.Fa.glo "_law_drawn", He.Fa.glo "_law_places_drawn", He.Fa.glo "_law_table", He.Fa.glo "law"]
def exK (K : PySem.W.Frag) : Bool := true
def names0 : List PySem.Str := ["BarError", "NoPlaces", "NoTable", "is_number", "lowest", "need_places", "need_table", "points", "_law_drawn", "_law_places_drawn", "_law_table"]
def names : List PySem.Str := names0
abbrev Rr : PySem.W.OpenRow := PySem.W.OpenLaw.row PySem.Challenge.rw_hightries_k71_whole_points
abbrev hk : PySem.W.Hook := He.hookX 5 fa fn [] [] exK
def ob (s : PySem.W.SharedT) : He.AlX := He.obsX 5 fa fn [] [] exK (HandSHeadRun.getT s)
theorem ob_eq (s : PySem.W.SharedT) : ob s = hk.obs s.abs := He.obsX_eq (HandSHeadRun.getT_eq s)
theorem run (w : PySem.World) : HandSHeadRun.RunEq Rr (PySem.W.view Rr.prog [15]) hk ob 20000 names w := by
  intro os
  kernel_rfl
theorem facts {w : PySem.World} {K : PySem.W.Frag} {h : PySem.Heap} {mg : Str → Option Value} {f : Addr} (X : K.In h) (Gn : h.Ns PySem.mainGlobals mg) (hfa : mg ("law" : Str) = some (.ref f)) (c : He.SaysD fa fn K) (hx : exK K = true) :
    ∃ fd : PySem.FuncData, (∀ (s : PySem.Shared) (u : Value), PySem.BindsTo s fd ⟨[u], []⟩ [(("script" : Str), u)]) ∧
      ∀ base : PySem.Heap, K.In base → base.Ns PySem.mainGlobals mg → L2.FnOk PySem.Challenge.pw_hightries_k71_whole_points w K mg base (L2.CX PySem.Challenge.pw_hightries_k71_whole_points w) 4 f fd ["script"] (spF (gx K) fn_law) := by
  have free : ∀ x ∈ builtinNames, mg x = none := fun x hx => He.free_ok X Gn (He.SaysD.facts c (List.mem_append_left _ (List.mem_map_of_mem hx)))
  have glo : ∀ x : Str, He.Fa.glo x ∈ fa → mg x = some (.ref (He.ga K x)) := fun x hx => He.glo_ok X Gn (He.SaysD.facts c hx)
  let G : Gx := gx K
  obtain ⟨fd_is_number, D_is_number⟩ := c.def_ 0 (d := fnD 5 "is_number") rfl
  have bd_is_number : L2.Binds K fd_is_number ["thing", "least", "most"] [] := L2.FunD.bindsN D_is_number fun _ _ _ _ _ _ us hl => match us, hl with | [_, _, _], _ => rfl
  obtain ⟨fd_lowest, D_lowest⟩ := c.def_ 1 (d := fnD 7 "lowest") rfl
  have bd_lowest : L2.Binds K fd_lowest ["one", "other"] [] := L2.FunD.bindsN D_lowest fun _ _ _ _ _ _ us hl => match us, hl with | [_, _], _ => rfl
  obtain ⟨fd_need_places, D_need_places⟩ := c.def_ 2 (d := fnD 8 "need_places") rfl
  have bd_need_places : L2.Binds K fd_need_places ["found"] [] := L2.FunD.bindsN D_need_places fun _ _ _ _ _ _ us hl => match us, hl with | [_], _ => rfl
  obtain ⟨fd_need_table, D_need_table⟩ := c.def_ 3 (d := fnD 9 "need_table") rfl
  have bd_need_table : L2.Binds K fd_need_table ["table"] [] := L2.FunD.bindsN D_need_table fun _ _ _ _ _ _ us hl => match us, hl with | [_], _ => rfl
  obtain ⟨fd_points, D_points⟩ := c.def_ 4 (d := fnD 10 "points") rfl
  have bd_points : L2.Binds K fd_points ["places", "table"] [] := L2.FunD.bindsN D_points fun _ _ _ _ _ _ us hl => match us, hl with | [_, _], _ => rfl
  obtain ⟨fd__law_drawn, D__law_drawn⟩ := c.def_ 5 (d := fnD 12 "_law_drawn") rfl
  have bd__law_drawn : L2.Binds K fd__law_drawn ["script", "k", "many"] [] := L2.FunD.bindsN D__law_drawn fun _ _ _ _ _ _ us hl => match us, hl with | [_, _, _], _ => rfl
  obtain ⟨fd__law_places_drawn, D__law_places_drawn⟩ := c.def_ 6 (d := fnD 13 "_law_places_drawn") rfl
  have bd__law_places_drawn : L2.Binds K fd__law_places_drawn ["script", "at", "many"] [] := L2.FunD.bindsN D__law_places_drawn fun _ _ _ _ _ _ us hl => match us, hl with | [_, _, _], _ => rfl
  obtain ⟨fd__law_table, D__law_table⟩ := c.def_ 7 (d := fnD 14 "_law_table") rfl
  have bd__law_table : L2.Binds K fd__law_table ["script", "at"] [] := L2.FunD.bindsN D__law_table fun _ _ _ _ _ _ us hl => match us, hl with | [_, _], _ => rfl
  obtain ⟨fd_law, D_law⟩ := c.def_ 8 (d := fnD 15 "law") rfl
  have h_is_number : ∀ base : PySem.Heap, FnAt PySem.Challenge.pw_hightries_k71_whole_points w mg base G 1 (fnN 11) fn_is_number := fun base => fn_at (G := G) D_is_number (glo "is_number" (by simp [fa])) bd_is_number ck_is_number (wd_of (cl := clOf cs) (k := 0) fns_nil gls_nil free)
  have h_lowest : ∀ base : PySem.Heap, FnAt PySem.Challenge.pw_hightries_k71_whole_points w mg base G 1 (fnN 64) fn_lowest := fun base => fn_at (G := G) D_lowest (glo "lowest" (by simp [fa])) bd_lowest ck_lowest (wd_of (cl := clOf cs) (k := 0) fns_nil gls_nil free)
  have h_need_places : ∀ base : PySem.Heap, FnAt PySem.Challenge.pw_hightries_k71_whole_points w mg base G 2 (fnN 65) fn_need_places := fun base => fn_at (G := G) D_need_places (glo "need_places" (by simp [fa])) bd_need_places ck_need_places (wd_of (cl := clOf cs) (k := 1) (fns_cons (FnAt.mono (x := fnN 11) (h_is_number base) (by decide : 1 ≤ 1)) fns_nil) gls_nil free)
  have h_need_table : ∀ base : PySem.Heap, FnAt PySem.Challenge.pw_hightries_k71_whole_points w mg base G 2 (fnN 66) fn_need_table := fun base => fn_at (G := G) D_need_table (glo "need_table" (by simp [fa])) bd_need_table ck_need_table (wd_of (cl := clOf cs) (k := 1) (fns_cons (FnAt.mono (x := fnN 11) (h_is_number base) (by decide : 1 ≤ 1)) fns_nil) gls_nil free)
  have h_points : ∀ base : PySem.Heap, FnAt PySem.Challenge.pw_hightries_k71_whole_points w mg base G 3 (fnN 67) fn_points := fun base => fn_at (G := G) D_points (glo "points" (by simp [fa])) bd_points ck_points (wd_of (cl := clOf cs) (k := 2) (fns_cons (FnAt.mono (x := fnN 65) (h_need_places base) (by decide : 2 ≤ 2)) (fns_cons (FnAt.mono (x := fnN 66) (h_need_table base) (by decide : 2 ≤ 2)) (fns_cons (FnAt.mono (x := fnN 64) (h_lowest base) (by decide : 1 ≤ 2)) fns_nil))) gls_nil free)
  have h__law_drawn : ∀ base : PySem.Heap, FnAt PySem.Challenge.pw_hightries_k71_whole_points w mg base G 1 (fnN 3) fn__law_drawn := fun base => fn_at (G := G) D__law_drawn (glo "_law_drawn" (by simp [fa])) bd__law_drawn ck__law_drawn (wd_of (cl := clOf cs) (k := 0) fns_nil gls_nil free)
  have h__law_places_drawn : ∀ base : PySem.Heap, FnAt PySem.Challenge.pw_hightries_k71_whole_points w mg base G 2 (fnN 69) fn__law_places_drawn := fun base => fn_at (G := G) D__law_places_drawn (glo "_law_places_drawn" (by simp [fa])) bd__law_places_drawn ck__law_places_drawn (wd_of (cl := clOf cs) (k := 1) (fns_cons (FnAt.mono (x := fnN 3) (h__law_drawn base) (by decide : 1 ≤ 1)) fns_nil) gls_nil free)
  have h__law_table : ∀ base : PySem.Heap, FnAt PySem.Challenge.pw_hightries_k71_whole_points w mg base G 2 (fnN 70) fn__law_table := fun base => fn_at (G := G) D__law_table (glo "_law_table" (by simp [fa])) bd__law_table ck__law_table (wd_of (cl := clOf cs) (k := 1) (fns_cons (FnAt.mono (x := fnN 3) (h__law_drawn base) (by decide : 1 ≤ 1)) fns_nil) gls_nil free)
  have e := hfa.symm.trans (glo "law" (by simp [fa]))
  cases e
  have bL := L2.FunD.bindsA (ps := ["script"]) D_law fun _ _ _ _ _ _ us hl => match us, hl with | [_], _ => rfl
  exact ⟨fd_law, fun s v => bL s [v] rfl, fun base _ _ => fn_ok (G := G) D_law ck_law (wd_of (cl := clOf cs) (k := 3) (fns_cons (FnAt.mono (x := fnN 3) (h__law_drawn base) (by decide : 1 ≤ 3)) (fns_cons (FnAt.mono (x := fnN 69) (h__law_places_drawn base) (by decide : 2 ≤ 3)) (fns_cons (FnAt.mono (x := fnN 70) (h__law_table base) (by decide : 2 ≤ 3)) (fns_cons (FnAt.mono (x := fnN 67) (h_points base) (by decide : 3 ≤ 3)) fns_nil)))) gls_nil free)⟩
end Lw
open PySem PySem.W PySem.Calls PyProof.Rows
theorem PySem.Challenge.cw_hightries_k71_whole_points_holds : PySem.Challenge.rw_hightries_k71_whole_points.Holds := by
  w_on; o_law
  refine HandSHeadRun.head_any (r := OpenLaw.row PySem.Challenge.rw_hightries_k71_whole_points) (q := view (OpenLaw.row PySem.Challenge.rw_hightries_k71_whole_points).prog [15]) (H := Lw.hk) (ob := Lw.ob) (M := 20000) (loose := Lw.names) (d := HandSHeadRun.topDef (OpenLaw.row PySem.Challenge.rw_hightries_k71_whole_points).prog 15) (kwd := []) Lw.ob_eq
    (by kernel_rfl) (fun s => by kernel_rfl) Lw.run (by kernel_rfl) (by kernel_rfl) (by kernel_rfl) (by rfl) (by first | assumption | decide +kernel) (by decide +kernel) ⟨rfl, rfl, rfl, rfl, rfl, by decide +kernel⟩ ?hw ?hc
  case hw => w_witness2
  case hc =>
    refine Mi.walk_ofW (l := PySem.Challenge.rw_hightries_k71_whole_points) (n := 63) (k := 4) (x := "script") rfl (by decide) (by kernel_rfl) ⟨rfl, by decide, by decide⟩ ?F
    intro w mg fa h Y Gn hmg0
    obtain ⟨K, KX, c⟩ := Y
    have hmg : mg ("law" : PySem.Str) = some (.ref fa) := by
      have e : (HandSHeadRun.topDef (OpenLaw.row PySem.Challenge.rw_hightries_k71_whole_points).prog 15).name = ("law" : PySem.Str) := by kernel_rfl
      rw [← e]
      exact hmg0
    obtain ⟨fd, hb, hF⟩ := Lw.facts (w := w) KX Gn hmg c.t.d c.more
    exact ⟨Lw.gx K, Lw.fn_law, fd, KX, fun ns hn => Lw.law_true ns hn, hb, hF⟩
