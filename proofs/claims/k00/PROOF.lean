import PyProof.Rows.All
import Wide.All
import OpenK.AllK
import Wide.FinOn
import HandS.ForMost
import HandS.ForExc
import HandS.Flow
import HandS.IsInst
import HandS.Wide
import HandS.Style
import HandS.Star
import HandS.TupAny
import HandS.TupMul
import HandS.Zip
import HandS.StrMore
import HandS.FStr
import HandS.TryMany
import HandS.ExcInit
import HandS.Deep
import HandS.TupLe
import HandS.ClsMeth
import HandS.ExcField
import HandS.ExcIs
import KE.KExcIs
import HandS.Words
import HandS.WordsExc
import HandS.Ends
import PySem.Challenge.RW_eightlooks_k00_fractions
set_option Elab.async false
set_option linter.all false
set_option maxRecDepth 100000
set_option maxHeartbeats 4000000
set_option autoImplicit false
set_option exponentiation.threshold 20000
/-! The engine's first part: data, a small syntax of Python with names resolved, and its evaluator. Plain Lean: no program, no model in sight. -/
namespace Eg

/-- a value: tuples as trees, mutable things by their number in the store -/
inductive D where
  | non | bl (b : Bool) | int (i : Int) | str (s : List Nat) | tup (l : List D) | ref (n : Nat)
  deriving Inhabited

mutual
def D.beq : D → D → Bool
  | .non, .non => true
  | .bl a, .bl b => a == b
  | .int a, .int b => a == b
  | .str a, .str b => a == b
  | .tup a, .tup b => D.beqL a b
  | .ref a, .ref b => a == b
  | _, _ => false
def D.beqL : List D → List D → Bool
  | [], [] => true
  | a :: as, b :: bs => D.beq a b && D.beqL as bs
  | _, _ => false
end
mutual
theorem D.beq_eq : ∀ a b : D, D.beq a b = true → a = b
  | .non, b, h => by cases b <;> simp_all [D.beq]
  | .bl x, b, h => by cases b <;> simp_all [D.beq]
  | .int x, b, h => by cases b <;> simp_all [D.beq]
  | .str x, b, h => by cases b <;> simp_all [D.beq]
  | .ref x, b, h => by cases b <;> simp_all [D.beq]
  | .tup x, b, h => by
    cases b with
    | tup y => simp only [D.beq] at h; rw [D.beqL_eq x y h]
    | _ => simp [D.beq] at h
theorem D.beqL_eq : ∀ a b : List D, D.beqL a b = true → a = b
  | [], b, h => by cases b <;> simp_all [D.beqL]
  | x :: xs, b, h => by
    cases b with
    | nil => simp [D.beqL] at h
    | cons y ys =>
      simp only [D.beqL, Bool.and_eq_true] at h
      rw [D.beq_eq x y h.1, D.beqL_eq xs ys h.2]
end
mutual
theorem D.beq_refl : ∀ a : D, D.beq a a = true
  | .non => by simp [D.beq]
  | .bl x => by simp [D.beq]
  | .int x => by simp [D.beq]
  | .str x => by simp [D.beq]
  | .ref x => by simp [D.beq]
  | .tup x => by simp only [D.beq]; exact D.beqL_refl x
theorem D.beqL_refl : ∀ a : List D, D.beqL a a = true
  | [] => by simp [D.beqL]
  | x :: xs => by simp only [D.beqL, D.beq_refl x, D.beqL_refl xs, Bool.and_self]
end
instance : DecidableEq D := fun a b => decidable_of_iff (D.beq a b = true) ⟨D.beq_eq a b, fun h => h ▸ D.beq_refl a⟩

/-- a mutable thing: a list, the script (read alone), a dict, an exception of a class with its fields -/
inductive O where
  | lst (l : List D) | ro (l : List D) | dct (kv : List (D × D)) | exc (c : Nat) (fs : List (List Nat × D))
  deriving DecidableEq, Inhabited
abbrev Sto := List O
/-- an exception in flight -/
structure Ex where
  cls : Nat
  fs : List (List Nat × D)
  deriving DecidableEq, Inhabited
inductive R (β : Type) where
  | ok (b : β) (S : Sto) | ex (x : Ex) (S : Sto) | no
  deriving Inhabited
def R.bind {α β : Type} : R α → (α → Sto → R β) → R β
  | .ok a S, f => f a S
  | .ex x S, _ => .ex x S
  | .no, _ => .no
@[simp] theorem R.bind_ok {α β : Type} (a : α) (S : Sto) (f : α → Sto → R β) : (R.ok a S).bind f = f a S := id rfl
@[simp] theorem R.bind_ex {α β : Type} (x : Ex) (S : Sto) (f : α → Sto → R β) : (R.ex x S : R α).bind f = .ex x S := id rfl
@[simp] theorem R.bind_no {α β : Type} (f : α → Sto → R β) : (R.no : R α).bind f = .no := id rfl
def R.of {α : Type} (S : Sto) : Option α → R α
  | some a => .ok a S
  | none => .no
@[simp] theorem R.of_some {α : Type} (S : Sto) (a : α) : R.of S (some a) = .ok a S := id rfl
@[simp] theorem R.of_none {α : Type} (S : Sto) : R.of S (none : Option α) = .no := id rfl

mutual
/-- no mutable thing within -/
def D.free : D → Bool
  | .tup l => D.freeL l
  | .ref _ => false
  | _ => true
def D.freeL : List D → Bool
  | [] => true
  | a :: l => D.free a && D.freeL l
end
mutual
def D.shift (k : Nat) : D → D
  | .tup l => .tup (D.shiftL k l)
  | .ref n => .ref (k + n)
  | d => d
def D.shiftL (k : Nat) : List D → List D
  | [] => []
  | a :: l => D.shift k a :: D.shiftL k l
end
def fsShift (k : Nat) (fs : List (List Nat × D)) : List (List Nat × D) := fs.map fun p => (p.1, p.2.shift k)
def O.shift (k : Nat) : O → O
  | .lst l => .lst (D.shiftL k l)
  | .ro l => .ro (D.shiftL k l)
  | .dct kv => .dct (kv.map fun p => (p.1.shift k, p.2.shift k))
  | .exc c fs => .exc c (fsShift k fs)
def fsFree (fs : List (List Nat × D)) : Bool := fs.all fun p => p.2.free

/-- the largest length of a list, a text -/
def line : Nat := 16777216

inductive BOp where
  | add | sub | mul | fdiv | mod | pow | shl | shr | band
  deriving DecidableEq, Inhabited
inductive COp where
  | eq | ne | lt | le | gt | ge | is_ | isnot | in_ | notin
  deriving DecidableEq, Inhabited
/-- built-in types of isinstance; own exception classes by their number -/
inductive Ty where
  | int | bool | str | list | tuple | dict | cls (c : Nat)
  deriving DecidableEq, Inhabited
inductive Bi where
  | len | abs | max | min | sum | int | str | list | tuple | all | any | sorted
  deriving DecidableEq, Inhabited
/-- methods -/
inductive Me where
  | append | extend | split | join | removeprefix | pop | index | items | get | count | reverse
  deriving DecidableEq, Inhabited
/-- targets -/
inductive Tg where
  | nm (i : Nat) | tp (ts : List Tg)
  deriving Inhabited

mutual
inductive E where
  | lit (d : D)
  | var (i : Nat)
  | con (x : List Nat) (d : D)
  | bin (o : BOp) (a b : E)
  | neg (a : E)
  | cmp (o : COp) (a b : E)
  | cmp2 (o p : COp) (a b c : E)
  | and (a b : E)
  | or (a b : E)
  | not (a : E)
  | ite (c a b : E)
  | tup (es : Es)
  | lst (es : Es)
  | dct0
  | idx (a i : E)
  | idxl (es : Es) (i : E)
  | slc (a : E) (lo hi : Option E)
  | call (f : Nat) (es : Es)
  | callk (f : Nat) (perm : List Nat) (ks : List (List Nat)) (es : Es)
  | bi (b : Bi) (es : Es)
  | isi (a : E) (ts : List Ty)
  | comp (c : C)
  | bic (b : Bi) (c : C)
  | nilc (neg : Bool) (c : C)
  | inl (neg : Bool) (a : E) (es : Es)
  | app (a b : E)
  | no
inductive Es where
  | nil
  | cons (e : E) (es : Es)
  | star (e : E) (es : Es)
/-- a list comprehension of one clause: own slots, element, target, what it walks, test -/
inductive C where
  | mk (own : List Nat) (e : E) (tg : Tg) (it : I) (c : Option E)
/-- what a loop walks -/
inductive I where
  | val (e : E) | valv (i : Nat) | lst (es : Es) | rng1 (a : E) | rng2 (a b : E) | rng3 (a b c : E) | zip (a b : E) | enum (a : E)
end
instance : Inhabited E := ⟨.lit .non⟩
instance : Inhabited Es := ⟨.nil⟩

abbrev Env := List (Option D)
def setE (ρ : Env) (i : Nat) (d : D) : Env := ρ.set i (some d)
def wipeE (ρ : Env) : List Nat → Env
  | [] => ρ
  | v :: vs => (wipeE ρ vs).set v none

/-! ### operators -/
def mulOk (a b : Int) : Bool := decide (a.natAbs < 2 ^ 64) || decide (b.natAbs < 2 ^ 64) || decide (a.natAbs.log2 + b.natAbs.log2 < 1000000)
def i64 (a : Int) : Bool := decide (-(2 ^ 63 : Int) ≤ a) && decide (a < (2 ^ 63 : Int))
def lstOf (S : Sto) (n : Nat) : Option (List D) := match S[n]? with
  | some (.lst l) => some l
  | some (.ro l) => some l
  | _ => none
def binD : BOp → D → D → Sto → R D
  | .add, .int a, .int b, S => .ok (.int (a + b)) S
  | .add, .str a, .str b, S => if a.length + b.length ≤ line then .ok (.str (a ++ b)) S else .no
  | .add, .tup a, .tup b, S => if a.length + b.length ≤ line then .ok (.tup (a ++ b)) S else .no
  | .add, .ref a, .ref b, S => match S[a]?, S[b]? with
    | some (.lst l), some (.lst m) => if l.length + m.length ≤ line then .ok (.ref S.length) (S ++ [.lst (l ++ m)]) else .no
    | _, _ => .no
  | .sub, .int a, .int b, S => .ok (.int (a - b)) S
  | .mul, .int a, .int b, S => if mulOk a b then .ok (.int (a * b)) S else .no
  | .mul, .tup a, .int b, S => if decide (a ≠ []) && decide (2 ≤ b) && decide (b ≤ 1000) && decide (a.length ≤ 1000) then .ok (.tup (List.replicate b.toNat a).flatten) S else .no
  | .mul, .ref a, .int b, S => match S[a]? with
    | some (.lst l) => if i64 b && decide (l.length * b.toNat ≤ line) then .ok (.ref S.length) (S ++ [.lst (List.replicate b.toNat l).flatten]) else .no
    | _ => .no
  | .fdiv, .int a, .int b, S => if decide (b ≠ 0) && decide (b.natAbs < 1073741824) then .ok (.int (a.fdiv b)) S
      else if decide (0 < b) && decide (b.natAbs.log2 < 9000) then .ok (.int (a / b)) S else .no
  | .mod, .int a, .int b, S => if b ≠ 0 then .ok (.int (a.fmod b)) S else .no
  | .pow, .int a, .int b, S => if decide (0 ≤ b) && decide (b ≤ 1000000) && decide (a.natAbs < 2 ^ 64) then .ok (.int (a ^ b.toNat)) S else .no
  | .shl, .int a, .int b, S => if decide (0 ≤ b) && decide (b ≤ 1000000) && decide (a.natAbs < 2 ^ 64) then .ok (.int (a * 2 ^ b.toNat)) S else .no
  | .shr, .int a, .int b, S => if decide (0 ≤ b) then .ok (.int (a / 2 ^ b.toNat)) S else .no
  | _, _, _, _ => .no


/-- the largest sign -/
def strOk (s : List Nat) : Bool := s.all fun c => decide (c < 0x110000)
/-- data through and through, at most n deep -/
def plain : Nat → Sto → D → Bool
  | 0, _, _ => false
  | n + 1, S, d => match d with
    | .str s => strOk s
    | .tup l => l.all (plain n S)
    | .ref k => match lstOf S k with
      | some l => l.all (plain n S)
      | none => false
    | _ => true
/-- all pairs, equal lengths -/
def all2 (f : D → D → Bool) : List D → List D → Bool
  | [], [] => true
  | a :: as, b :: bs => f a b && all2 f as bs
  | _, _ => false
/-- == of plain data -/
def eqv : Nat → Sto → D → D → Bool
  | 0, _, _, _ => false
  | n + 1, S, a, b => match a, b with
    | .non, .non => true
    | .bl a, .bl b => a == b
    | .bl a, .int j => (if a then 1 else 0) == j
    | .int i, .bl b => i == (if b then 1 else 0)
    | .int a, .int b => a == b
    | .str a, .str b => a == b
    | .tup a, .tup b => all2 (eqv n S) a b
    | .ref a, .ref b => match lstOf S a, lstOf S b with
      | some a, some b => all2 (eqv n S) a b
      | _, _ => false
    | _, _ => false
def eqD (S : Sto) : D → D → Option Bool
  | .int a, .int b => some (decide (a = b))
  | .str a, .str b => some (decide (a = b))
  | .bl a, .bl b => some (decide (a = b))
  | a, b => if plain 40 S a && plain 40 S b then some (eqv 40 S a b) else none
/-- one of a list by == -/
def inD (S : Sto) (a : D) (l : List D) : Option Bool := if plain 40 S a && l.all (plain 40 S) then some (l.any fun b => eqv 40 S b a) else none
def flat : D → Bool
  | .non => true
  | .bl _ => true
  | .int _ => true
  | .str _ => true
  | _ => false
def ofB (S : Sto) : Option Bool → R D
  | some b => .ok (.bl b) S
  | none => .no
@[simp] theorem ofB_some (S : Sto) (b : Bool) : ofB S (some b) = .ok (.bl b) S := id rfl
def notB : Option Bool → Option Bool
  | some b => some (!b)
  | none => none
@[simp] theorem notB_some (b : Bool) : notB (some b) = some (!b) := id rfl
def cIn (S : Sto) : D → D → Option Bool
  | .str [c], .str b => some (decide (c ∈ b))
  | a, .tup l => if flat a && l.all flat then inD S a l else none
  | a, .ref n => match lstOf S n with
    | some l => inD S a l
    | none => none
  | _, _ => none
/-- is: against None, of two bools -/
def cIs : D → D → Option Bool
  | a, .non => some (decide (a = .non))
  | .bl a, .bl b => some (decide (a = b))
  | _, _ => none
def lexLt : List D → List D → Option Bool
  | [], [] => some false
  | [], _ :: _ => some true
  | _ :: _, [] => some false
  | .int x :: xs, .int y :: ys => if x = y then lexLt xs ys else some (decide (x < y))
  | _, _ => none
def ltD : D → D → Option Bool
  | .int a, .int b => some (decide (a < b))
  | _, _ => none
def cmpO (o : COp) (a b : D) (S : Sto) : Option Bool :=
  match o with
  | .eq => eqD S a b
  | .ne => notB (eqD S a b)
  | .lt => ltD a b
  | .gt => ltD b a
  | .le => notB (ltD b a)
  | .ge => notB (ltD a b)
  | .is_ => cIs a b
  | .isnot => notB (cIs a b)
  | .in_ => cIn S a b
  | .notin => notB (cIn S a b)
def truD (S : Sto) : D → Option Bool
  | .non => some false
  | .bl b => some b
  | .int i => some (decide (i ≠ 0))
  | .str s => if s.length ≤ line then some (!s.isEmpty) else none
  | .tup l => some (!l.isEmpty)
  | .ref n => match S[n]? with
    | some (.lst l) => some (!l.isEmpty)
    | some (.ro l) => some (!l.isEmpty)
    | some (.dct kv) => some (!kv.isEmpty)
    | _ => none
/-- an index, from either end -/
def ixN (n : Nat) (i : Int) : Option Nat := if 0 ≤ i then (if i < n then some i.toNat else none) else if -(n : Int) ≤ i then some (i + n).toNat else none
def atL {α : Type} (l : List α) (i : Int) : Option α := (ixN l.length i).bind fun j => l[j]?
def dctGet (kv : List (D × D)) (k : D) : Option D := match kv with
  | [] => none
  | p :: r => if p.1 = k then some p.2 else dctGet r k
def idxD : D → D → Sto → R D
  | .tup l, .int i, S => .of S (atL l i)
  | .str s, .int i, S => if s.length ≤ line then .of S ((atL s i).map fun c => .str [c]) else .no
  | .ref n, .int i, S => match lstOf S n with
    | some l => .of S (atL l i)
    | none => .no
  | _, _, _ => .no
def idxL (l : List D) : D → Sto → R D
  | .int k, S => .of S (atL l k)
  | _, _ => .no
/-- the place of a slice's end -/
def sIx (n : Nat) (dflt : Nat) : Option Int → Nat
  | none => dflt
  | some i => if i < 0 then (i + n).toNat else min i.toNat n
def cut {α : Type} (l : List α) (lo hi : Option Int) : List α := (l.drop (sIx l.length 0 lo)).take (sIx l.length l.length hi - sIx l.length 0 lo)
def slcD (a : D) (lo hi : Option Int) (S : Sto) : R D :=
  match a with
  | .tup l => .ok (.tup (cut l lo hi)) S
  | .str s => if s.length ≤ line then .ok (.str (cut s lo hi)) S else .no
  | .ref n => match lstOf S n with
    | some l => .ok (.ref S.length) (S ++ [.lst (cut l lo hi)])
    | none => .no
  | _ => .no
/-- the kind of a value -/
inductive Kd where
  | non | int | bool | str | tuple | list | dict | exc (c : Nat)
  deriving DecidableEq
def kind (S : Sto) : D → Option Kd
  | .non => some .non
  | .bl _ => some .bool
  | .int _ => some .int
  | .str _ => some .str
  | .tup _ => some .tuple
  | .ref n => match S[n]? with
    | some (.lst _) => some .list
    | some (.ro _) => some .list
    | some (.dct _) => some .dict
    | some (.exc c _) => some (.exc c)
    | none => none
/-- sub c d: the class d is c or above it -/
def isK (sub : Nat → Nat → Bool) : Kd → Ty → Bool
  | .int, .int => true
  | .bool, .int => true
  | .bool, .bool => true
  | .str, .str => true
  | .tuple, .tuple => true
  | .list, .list => true
  | .dict, .dict => true
  | .exc c, .cls d => sub c d
  | _, _ => false
def intsOf : List D → Option (List Int)
  | [] => some []
  | .int i :: l => (intsOf l).map (i :: ·)
  | _ => none
def blsOf : List D → Option (List Bool)
  | [] => some []
  | .bl b :: l => (blsOf l).map (b :: ·)
  | _ => none
def strsOf : List D → Option (List (List Nat))
  | [] => some []
  | .str s :: l => (strsOf l).map (s :: ·)
  | _ => none
/-- an int in digits -/
def txtInt (i : Int) : List Nat := ((toString i).toList).map Char.toNat
def digN : List Nat → Option Nat
  | l => l.foldl (fun a c => match a with
    | some n => if 48 ≤ c ∧ c ≤ 57 then some (10 * n + (c - 48)) else none
    | none => none) (some 0)
/-- the int of a text: digits alone -/
def intTxt (s : List Nat) : Option Int := if s = [] then none else (digN s).map Int.ofNat
/-- a built-in of a list's items -/
def bil : Bi → List D → Sto → R D
  | .len, l, S => .ok (.int l.length) S
  | .sum, l, S => match intsOf l with
    | some ns => .ok (.int ns.sum) S
    | none => .no
  | .list, l, S => .ok (.ref S.length) (S ++ [.lst l])
  | .tuple, l, S => .ok (.tup l) S
  | .all, l, S => match blsOf l with
    | some bs => .ok (.bl (bs.all id)) S
    | none => .no
  | .any, l, S => match blsOf l with
    | some bs => .ok (.bl (bs.any id)) S
    | none => .no
  | _, _, _ => .no
def bLen : List D → Sto → R D
  | [.str s], S => if s.length ≤ line then .ok (.int s.length) S else .no
  | [.tup l], S => .ok (.int l.length) S
  | [.ref n], S => match S[n]? with
    | some (.lst l) => .ok (.int l.length) S
    | some (.ro l) => .ok (.int l.length) S
    | some (.dct kv) => .ok (.int kv.length) S
    | _ => .no
  | _, _ => .no
def bAbs : List D → Sto → R D
  | [.int i], S => .ok (.int (if i < 0 then -i else i)) S
  | _, _ => .no
def bMax : List D → Sto → R D
  | [.int i, .int j], S => .ok (.int (if j > i then j else i)) S
  | _, _ => .no
def bMin : List D → Sto → R D
  | [.int i, .int j], S => .ok (.int (if j < i then j else i)) S
  | _, _ => .no
def bInt : List D → Sto → R D
  | [.int i], S => .ok (.int i) S
  | [.bl b], S => .ok (.int (if b then 1 else 0)) S
  | _, _ => .no
def bStr : List D → Sto → R D
  | [.int i], S => if i.natAbs.log2 < 1920 then .ok (.str (txtInt i)) S else .no
  | _, _ => .no
/-- of a list -/
def bOf (b : Bi) : List D → Sto → R D
  | [.ref n], S => match lstOf S n with
    | some l => bil b l S
    | none => .no
  | _, _ => .no
/-- of a list or a tuple -/
def bOfT (b : Bi) : List D → Sto → R D
  | [.tup l], S => bil b l S
  | [.ref n], S => match lstOf S n with
    | some l => bil b l S
    | none => .no
  | _, _ => .no
def biD : Bi → List D → Sto → R D
  | .len => bLen
  | .abs => bAbs
  | .max => bMax
  | .min => bMin
  | .int => bInt
  | .str => bStr
  | .list => bOfT .list
  | .tuple => bOfT .tuple
  | .sum => bOf .sum
  | .all => bOf .all
  | .any => bOf .any
  | .sorted => bOf .sorted
/-- parts of a text between single signs -/
def splitC (c : Nat) : List Nat → List (List Nat)
  | [] => [[]]
  | a :: s => if a = c then [] :: splitC c s else match splitC c s with
    | [] => [[a]]
    | p :: r => (a :: p) :: r
def meD : Me → D → List D → Sto → R D
  | .append, .ref n, [v], S => match S[n]? with
    | some (.lst l) => if l.length < line then .ok .non (S.set n (.lst (l ++ [v]))) else .no
    | _ => .no
  | .extend, .ref n, [.ref m], S => match S[n]?, lstOf S m with
    | some (.lst l), some k => if n ≠ m ∧ l.length + k.length ≤ line then .ok .non (S.set n (.lst (l ++ k))) else .no
    | _, _ => .no
  | .split, .str s, [.str [c]], S => if s.length + 2 ≤ line then .ok (.ref S.length) (S ++ [.lst ((splitC c s).map .str)]) else .no
  | .removeprefix, .str s, [.str p], S => if s.length ≤ line then .ok (.str (if p.isPrefixOf s then s.drop p.length else s)) S else .no
  | _, _, _, _ => .no
/-- text of a piece of an f-string -/
def fsD : D → Option (List Nat)
  | .str s => some s
  | .int i => if i.natAbs.log2 < 1920 then some (txtInt i) else none
  | _ => none
def fsAll : List D → Option (List Nat)
  | [] => some []
  | d :: l => match fsD d, fsAll l with
    | some a, some b => some (a ++ b)
    | _, _ => none
mutual
def bindT (S : Sto) : Tg → D → Env → Option Env
  | .nm i, d, ρ => some (setE ρ i d)
  | .tp ts, .tup l, ρ => bindTs S ts l ρ
  | .tp ts, .ref n, ρ => match lstOf S n with
    | some l => bindTs S ts l ρ
    | none => none
  | _, _, _ => none
def bindTs (S : Sto) : List Tg → List D → Env → Option Env
  | [], [], ρ => some ρ
  | t :: ts, d :: ds, ρ => match bindT S t d ρ with
    | some ρ' => bindTs S ts ds ρ'
    | none => none
  | _, _, _ => none
end
mutual
def Tg.slots : Tg → List Nat
  | .nm i => [i]
  | .tp ts => slotsL ts
def slotsL : List Tg → List Nat
  | [] => []
  | t :: ts => t.slots ++ slotsL ts
end
/-- what is walked: the items, and the list that must stay as it is -/
abbrev Src := List D × Option (Nat × O)
def gOk (g : Option (Nat × O)) (S : Sto) : Bool := match g with
  | none => true
  | some (n, o) => decide (S[n]? = some o)
def srcD (S : Sto) : D → Option Src
  | .tup l => some (l, none)
  | .str s => if s.length ≤ line then some (s.map fun c => .str [c], none) else none
  | .ref n => match S[n]? with
    | some (.lst l) => some (l, some (n, .lst l))
    | some (.ro l) => some (l, none)
    | _ => none
  | _ => none
def isD0 (S : Sto) : D → Bool
  | .ref n => decide (S[n]? = some (.dct []))
  | _ => false
def rngL (lo : Int) (n : Nat) : List D := (List.range n).map fun (k : Nat) => D.int (lo + (k : Int))
def b62 (i : Int) : Bool := decide (-(2 ^ 62 : Int) ≤ i) && decide (i < (2 ^ 62 : Int))
def rngD (lo hi : Int) : Option Src := if b62 lo && b62 hi then some (rngL lo (hi - lo).toNat, none) else none
/-- the items of a comprehension -/
def compL (bind : D → Sto → Option Env) (test : Env → Sto → R Bool) (f : Env → Sto → R D) (g : Option (Nat × O)) : List D → List D → Sto → R (List D)
  | [], acc, S => .ok acc S
  | x :: xs, acc, S => match bind x S with
    | none => .no
    | some ρ => match test ρ S with
      | .ok true S1 => match f ρ S1 with
        | .ok d S2 => if gOk g S2 then compL bind test f g xs (acc ++ [d]) S2 else .no
        | _ => .no
      | .ok false S1 => if gOk g S1 then compL bind test f g xs acc S1 else .no
      | _ => .no
def tru (r : R D) : R Bool := r.bind fun d S => .of S (truD S d)
/-- what a star lays out -/
def starL (S : Sto) : D → Option (List D)
  | .tup k => some k
  | .ref n => lstOf S n
  | _ => none
/-- the call of a def: by its number -/
abbrev Cl := Nat → List D → Sto → R D

section
variable (sub : Nat → Nat → Bool) (c : Cl)
mutual
def evE : E → Env → Sto → R D
  | .lit d, _, S => .ok d S
  | .var i, ρ, S => match ρ[i]? with
    | some (some d) => .ok d S
    | _ => .no
  | .con _ d, _, S => .ok d S
  | .bin o a b, ρ, S => (evE a ρ S).bind fun x S1 => (evE b ρ S1).bind fun y S2 => binD o x y S2
  | .neg a, ρ, S => (evE a ρ S).bind fun x S1 => match x with
    | .int i => .ok (.int (-i)) S1
    | _ => .no
  | .cmp o a b, ρ, S => (evE a ρ S).bind fun x S1 => (evE b ρ S1).bind fun y S2 => ofB S2 (cmpO o x y S2)
  | .cmp2 o p a b d, ρ, S => (evE a ρ S).bind fun x S1 => (evE b ρ S1).bind fun y S2 => match cmpO o x y S2 with
    | some true => (evE d ρ S2).bind fun z S3 => ofB S3 (cmpO p y z S3)
    | some false => .ok (.bl false) S2
    | none => .no
  | .and a b, ρ, S => (evE a ρ S).bind fun x S1 => match truD S1 x with
    | some true => evE b ρ S1
    | some false => .ok x S1
    | none => .no
  | .or a b, ρ, S => (evE a ρ S).bind fun x S1 => match truD S1 x with
    | some true => .ok x S1
    | some false => evE b ρ S1
    | none => .no
  | .not a, ρ, S => (evE a ρ S).bind fun x S1 => ofB S1 (notB (truD S1 x))
  | .ite t a b, ρ, S => (evE t ρ S).bind fun x S1 => match truD S1 x with
    | some true => evE a ρ S1
    | some false => evE b ρ S1
    | none => .no
  | .tup es, ρ, S => (evEs es ρ S).bind fun l S1 => if l.length ≤ line then .ok (.tup l) S1 else .no
  | .lst es, ρ, S => (evEs es ρ S).bind fun l S1 => if l.length ≤ line then .ok (.ref S1.length) (S1 ++ [.lst l]) else .no
  | .dct0, _, S => .ok (.ref S.length) (S ++ [.dct []])
  | .idx a i, ρ, S => (evE a ρ S).bind fun x S1 => (evE i ρ S1).bind fun y S2 => idxD x y S2
  | .idxl es i, ρ, S => (evEs es ρ S).bind fun l S1 => if l.length ≤ line then (evE i ρ S1).bind fun y S2 => idxL l y S2 else .no
  | .slc a lo hi, ρ, S => (evE a ρ S).bind fun x S1 => (evO lo ρ S1).bind fun l S2 => (evO hi ρ S2).bind fun h S3 => slcD x l h S3
  | .call f es, ρ, S => (evEs es ρ S).bind fun l S1 => c f l S1
  | .callk f perm _ es, ρ, S => (evEs es ρ S).bind fun l S1 => c f (perm.filterMap fun i => l[i]?) S1
  | .bi b es, ρ, S => (evEs es ρ S).bind fun l S1 => biD b l S1
  | .isi a ts, ρ, S => (evE a ρ S).bind fun x S1 => match kind S1 x with
    | some k => .ok (.bl (ts.any (isK sub k))) S1
    | none => .no
  | .comp q, ρ, S => (evC q ρ S).bind fun l S1 => .ok (.ref S1.length) (S1 ++ [.lst l])
  | .bic b q, ρ, S => (evC q ρ S).bind fun l S1 => bil b l S1
  | .nilc neg q, ρ, S => (evC q ρ S).bind fun l S1 => if l.all (plain 40 S1) then .ok (.bl (if neg then !l.isEmpty else l.isEmpty)) S1 else .no
  | .inl neg a es, ρ, S => (evE a ρ S).bind fun x S1 => (evEs es ρ S1).bind fun l S2 => if l.length ≤ line then ofB S2 (if neg then notB (inD S2 x l) else inD S2 x l) else .no
  | .app a b, ρ, S => (evE a ρ S).bind fun x S1 => match x with
    | .ref n => match lstOf S1 n with
      | some _ => (evE b ρ S1).bind fun v S2 => meD .append (.ref n) [v] S2
      | none => .no
    | _ => .no
  | .no, _, _ => .no
def evO : Option E → Env → Sto → R (Option Int)
  | none, _, S => .ok none S
  | some e, ρ, S => (evE e ρ S).bind fun x S1 => match x with
    | .int i => .ok (some i) S1
    | _ => .no
def evEs : Es → Env → Sto → R (List D)
  | .nil, _, S => .ok [] S
  | .cons e es, ρ, S => (evE e ρ S).bind fun x S1 => (evEs es ρ S1).bind fun l S2 => .ok (x :: l) S2
  | .star e es, ρ, S => (evE e ρ S).bind fun x S1 => match starL S1 x with
    | some k => (evEs es ρ S1).bind fun l S2 => .ok (k ++ l) S2
    | none => .no
def evC : C → Env → Sto → R (List D)
  | .mk own e tg it t, ρ, S => (evI it ρ S).bind fun p S1 => if p.1.length ≤ line then
      compL (fun x S => bindT S tg x (wipeE ρ own)) (fun ρ S => evT t ρ S) (fun ρ S => evE e ρ S) p.2 p.1 [] S1 else .no
def evT : Option E → Env → Sto → R Bool
  | none, _, S => .ok true S
  | some e, ρ, S => tru (evE e ρ S)
def evI : I → Env → Sto → R Src
  | .val e, ρ, S => (evE e ρ S).bind fun x S1 => .of S1 (srcD S1 x)
  | .valv i, ρ, S => match ρ[i]? with
    | some (some d) => if isD0 S d then .ok ([], none) S else .of S (srcD S d)
    | _ => .no
  | .lst es, ρ, S => (evEs es ρ S).bind fun l S1 => if l.length ≤ line then .ok (l, none) S1 else .no
  | .rng1 a, ρ, S => (evE a ρ S).bind fun x S1 => match x with
    | .int n => .of S1 (rngD 0 n)
    | _ => .no
  | .rng2 a b, ρ, S => (evE a ρ S).bind fun x S1 => (evE b ρ S1).bind fun y S2 => match x, y with
    | .int m, .int n => .of S2 (rngD m n)
    | _, _ => .no
  | .rng3 _ _ _, _, _ => .no
  | .zip a b, ρ, S => (evE a ρ S).bind fun x S1 => (evE b ρ S1).bind fun y S2 => match x, y with
    | .tup l, .tup m => .ok ((l.zip m).map fun p => .tup [p.1, p.2], none) S2
    | _, _ => .no
  | .enum _, _, _ => .no
end
end

/-! ### statements -/
/-- an item of what an except clause hands back -/
inductive Hi where
  | lit (d : D) | attr (f : List Nat) | isn (c : Nat) (a b : D)
  deriving Inhabited
/-- a clause: the class, whether it is named, a list of items or one constant -/
inductive Hd where
  | lst (c : Nat) (nm : Option Nat) (l : List Hi) | one (c : Nat) (nm : Option Nat) (d : D)
  deriving Inhabited
mutual
inductive Sm where
  | asg (i : Nat) (e : E)
  | asgT (ts : List Tg) (e : E)
  | par (is : List Nat) (es : Es)
  | aug (i : Nat) (o : BOp) (e : E)
  | setI (a i e : E)
  | expr (e : E)
  | ret (e : E)
  | retN
  | ife (t : E) (a b : Ss)
  | whl (t : E) (b : Ss)
  | fr (tg : Tg) (it : I) (b : Ss)
  | rais (c : Nat) (fs : List (List Nat)) (es : Es)
  | try_ (b : Ss) (hs : List Hd)
  | pass | brk | cont | nev
inductive Ss where
  | nil
  | cons (s : Sm) (ss : Ss)
end
instance : Inhabited Sm := ⟨.pass⟩
instance : Inhabited Ss := ⟨.nil⟩
inductive RS where
  | nx (ρ : Env) (S : Sto) | rt (d : D) (S : Sto) | bk (ρ : Env) (S : Sto) | ct (ρ : Env) (S : Sto) | ex (x : Ex) (ρ : Env) (S : Sto) | no
  deriving Inhabited
/-- behind an expression -/
def R.st {α : Type} (r : R α) (ρ : Env) (f : α → Sto → RS) : RS := match r with
  | .ok a S => f a S
  | .ex x S => .ex x ρ S
  | .no => .no
def RS.then (r : RS) (f : Env → Sto → RS) : RS := match r with
  | .nx ρ S => f ρ S
  | r => r
@[simp] theorem R.st_ok {α : Type} (a : α) (S : Sto) (ρ : Env) (f : α → Sto → RS) : (R.ok a S).st ρ f = f a S := id rfl
@[simp] theorem R.st_ex {α : Type} (x : Ex) (S : Sto) (ρ : Env) (f : α → Sto → RS) : (R.ex x S : R α).st ρ f = .ex x ρ S := id rfl
@[simp] theorem RS.then_nx (ρ : Env) (S : Sto) (f : Env → Sto → RS) : (RS.nx ρ S).then f = f ρ S := id rfl
@[simp] theorem RS.then_rt (d : D) (S : Sto) (f : Env → Sto → RS) : (RS.rt d S).then f = .rt d S := id rfl
@[simp] theorem RS.then_ex (x : Ex) (ρ : Env) (S : Sto) (f : Env → Sto → RS) : (RS.ex x ρ S).then f = .ex x ρ S := id rfl
@[simp] theorem RS.then_bk (ρ : Env) (S : Sto) (f : Env → Sto → RS) : (RS.bk ρ S).then f = .bk ρ S := id rfl
@[simp] theorem RS.then_ct (ρ : Env) (S : Sto) (f : Env → Sto → RS) : (RS.ct ρ S).then f = .ct ρ S := id rfl
def forL (bind : D → Env → Sto → Option Env) (body : Env → Sto → RS) (g : Option (Nat × O)) : List D → Env → Sto → RS
  | [], ρ, S => .nx ρ S
  | x :: xs, ρ, S => match bind x ρ S with
    | none => .no
    | some ρ1 => match body ρ1 S with
      | .nx ρ2 S2 => if gOk g S2 then forL bind body g xs ρ2 S2 else .no
      | .ct ρ2 S2 => if gOk g S2 then forL bind body g xs ρ2 S2 else .no
      | .bk ρ2 S2 => .nx ρ2 S2
      | .rt d S2 => .rt d S2
      | .ex x ρ2 S2 => .ex x ρ2 S2
      | .no => .no
def whileN (t : Env → Sto → R Bool) (body : Env → Sto → RS) : Nat → Env → Sto → RS
  | 0, _, _ => .no
  | w + 1, ρ, S => (t ρ S).st ρ fun b S1 => if b then (match body ρ S1 with
      | .nx ρ2 S2 => whileN t body w ρ2 S2
      | .ct ρ2 S2 => whileN t body w ρ2 S2
      | .bk ρ2 S2 => .nx ρ2 S2
      | .rt d S2 => .rt d S2
      | .ex x ρ2 S2 => .ex x ρ2 S2
      | .no => .no) else .nx ρ S1
@[irreducible] def wfuel : Nat := 1099511627776
def hiD (sub : Nat → Nat → Bool) (x : Ex) : Hi → Option D
  | .lit d => some d
  | .attr f => x.fs.lookup f
  | .isn c a b => some (if sub x.cls c then a else b)
def hisD (sub : Nat → Nat → Bool) (x : Ex) : List Hi → Option (List D)
  | [] => some []
  | h :: l => match hiD sub x h, hisD sub x l with
    | some a, some b => some (a :: b)
    | _, _ => none
def hdl (sub : Nat → Nat → Bool) (x : Ex) (ρ : Env) (S : Sto) : List Hd → RS
  | [] => .ex x ρ S
  | .lst c _ l :: r => if sub x.cls c then (match hisD sub x l with
      | some ds => if ds.length ≤ line then .rt (.ref S.length) (S ++ [.lst ds]) else .no
      | none => .no) else hdl sub x ρ S r
  | .one c _ d :: r => if sub x.cls c then .rt d S else hdl sub x ρ S r
def setAll (ρ : Env) : List Nat → List D → Env
  | i :: is, d :: ds => setAll (setE ρ i d) is ds
  | _, _ => ρ
section
variable (sub : Nat → Nat → Bool) (c : Cl)
mutual
def evS : Sm → Env → Sto → RS
  | .asg i e, ρ, S => (evE sub c e ρ S).st ρ fun d S1 => .nx (setE ρ i d) S1
  | .asgT ts e, ρ, S => (evE sub c e ρ S).st ρ fun d S1 => match bindT S1 (.tp ts) d ρ with
    | some ρ' => .nx ρ' S1
    | none => .no
  | .par is es, ρ, S => (evEs sub c es ρ S).st ρ fun l S1 => if l.length = is.length then .nx (setAll ρ is l) S1 else .no
  | .aug i o e, ρ, S => match ρ[i]? with
    | some (some x) => (evE sub c e ρ S).st ρ fun y S1 => match o, x, y with
      | .add, .int a, .int b => .nx (setE ρ i (.int (a + b))) S1
      | .sub, .int a, .int b => .nx (setE ρ i (.int (a - b))) S1
      | _, _, _ => .no
    | _ => .no
  | .setI a i e, ρ, S => (evE sub c e ρ S).st ρ fun v S1 => (evE sub c a ρ S1).st ρ fun x S2 => (evE sub c i ρ S2).st ρ fun k S3 => match x, k with
    | .ref n, .int k => match S3[n]? with
      | some (.lst l) => match ixN l.length k with
        | some j => .nx ρ (S3.set n (.lst (l.set j v)))
        | none => .no
      | _ => .no
    | _, _ => .no
  | .expr e, ρ, S => (evE sub c e ρ S).st ρ fun _ S1 => .nx ρ S1
  | .ret e, ρ, S => (evE sub c e ρ S).st ρ fun d S1 => .rt d S1
  | .retN, _, S => .rt .non S
  | .ife t a b, ρ, S => (tru (evE sub c t ρ S)).st ρ fun k S1 => if k then evSs a ρ S1 else evSs b ρ S1
  | .whl t b, ρ, S => whileN (fun ρ S => tru (evE sub c t ρ S)) (fun ρ S => evSs b ρ S) wfuel ρ S
  | .fr tg it b, ρ, S => (evI sub c it ρ S).st ρ fun p S1 => forL (fun x ρ S => bindT S tg x ρ) (fun ρ S => evSs b ρ S) p.2 p.1 ρ S1
  | .rais k fs es, ρ, S => (evEs sub c es ρ S).st ρ fun l S1 => if l.length = fs.length then .ex ⟨k, fs.zip l⟩ ρ S1 else .no
  | .try_ b hs, ρ, S => match evSs b ρ S with
    | .ex x ρ1 S1 => hdl sub x ρ1 S1 hs
    | r => r
  | .pass, ρ, S => .nx ρ S
  | .brk, ρ, S => .bk ρ S
  | .cont, ρ, S => .ct ρ S
  | .nev, _, _ => .no
def evSs : Ss → Env → Sto → RS
  | .nil, ρ, S => .nx ρ S
  | .cons s ss, ρ, S => (evS s ρ S).then fun ρ' S' => evSs ss ρ' S'
end
end

/-! ### defs and their calls -/
structure Df where
  name : List Nat
  ps : Nat
  ns : List (List Nat)
  body : Ss
  deriving Inhabited
def startE (d : Df) (ds : List D) : Env := ds.map some ++ List.replicate (d.ns.length - ds.length) none
def runB (sub : Nat → Nat → Bool) (c : Cl) (d : Df) (ds : List D) (S : Sto) : R D :=
  match evSs sub c d.body (startE d ds) S with
  | .rt v S' => .ok v S'
  | .nx _ S' => .ok .non S'
  | .ex x _ S' => .ex x S'
  | _ => .no
/-- a call whose arguments hold no mutable thing starts with an empty store; what it leaves is put behind -/
def reloc (S : Sto) : R D → R D
  | .ok v S1 => if v.free then .ok v S else .ok (v.shift S.length) (S ++ S1.map (O.shift S.length))
  | .ex x S1 => if fsFree x.fs then .ex x S else .ex ⟨x.cls, fsShift S.length x.fs⟩ (S ++ S1.map (O.shift S.length))
  | .no => .no
/-- calls, n deep -/
def run (sub : Nat → Nat → Bool) (T : List Df) : Nat → Cl
  | 0, _, _, _ => .no
  | n + 1, f, ds, S => match T[f]? with
    | none => .no
    | some d => if ds.length = d.ps then (if D.freeL ds then reloc S (runB sub (run sub T n) d ds []) else runB sub (run sub T n) d ds S) else .no
end Eg

namespace Eg
open PySem PySem.Spec PyProof.Rows L2
abbrev SL := L2.St

abbrev cs (s : List Nat) : PySem.Str := ⟨s.toArray⟩

/-! ### how data lies in the abstract heap -/
mutual
inductive Rp (K : PySem.W.Frag) (α : List (Addr × Bool)) (H : Hp) : D → V → Prop
  | non : Rp K α H .non .non
  | bl (b : Bool) : Rp K α H (.bl b) (.bl b)
  | int (i : Int) : Rp K α H (.int i) (.int i)
  | str (s : List Nat) : Rp K α H (.str s) (.str (cs s))
  | tup {l : List D} {a : Addr} {vs : List V} : SqT K H a vs → RpL K α H l vs → Rp K α H (.tup l) (.ref a)
  | ref {n : Nat} {a : Addr} {m : Bool} : α[n]? = some (a, m) → Rp K α H (.ref n) (.ref a)
inductive RpL (K : PySem.W.Frag) (α : List (Addr × Bool)) (H : Hp) : List D → List V → Prop
  | nil : RpL K α H [] []
  | cons {d : D} {v : V} {l : List D} {vs : List V} : Rp K α H d v → RpL K α H l vs → RpL K α H (d :: l) (v :: vs)
end
/-- what may change: the things of the store; what is new is new -/
structure Ext (α : List (Addr × Bool)) (H : Hp) (α' : List (Addr × Bool)) (H' : Hp) : Prop where
  pre : ∃ β, α' = α ++ β ∧ ∀ a ∈ β, H a.1 = none
  keep : ∀ a o, H a = some o → (a, true) ∉ α → H' a = some o
  tups : ∀ a xs, H a = some (.tup xs) → H' a = some (.tup xs)
  frzs : ∀ a o u, H a = some (.frz o u) → H' a = some (.frz o u)
  dom : ∀ a o, H a = some o → ∃ o', H' a = some o'
theorem Ext.refl (α : List (Addr × Bool)) (H : Hp) : Ext α H α H :=
  ⟨⟨[], by simp, fun _ h => by simp at h⟩, fun _ _ h _ => h, fun _ _ h => h, fun _ _ _ h => h, fun _ o h => ⟨o, h⟩⟩
theorem Ext.trans {α α1 α2 : List (Addr × Bool)} {H H1 H2 : Hp} (e : Ext α H α1 H1) (f : Ext α1 H1 α2 H2) : Ext α H α2 H2 := by
  obtain ⟨β, rfl, hb⟩ := e.pre
  obtain ⟨γ, rfl, hg⟩ := f.pre
  refine ⟨⟨β ++ γ, by rw [List.append_assoc], fun a ha => ?_⟩, fun a o h n => ?_, fun a xs h => f.tups _ _ (e.tups _ _ h), fun a o u h => f.frzs _ _ _ (e.frzs _ _ _ h), fun a o h => ?_⟩
  · rcases List.mem_append.mp ha with ha | ha
    · exact hb a ha
    · cases q : H a.1 with
      | none => rfl
      | some o =>
        obtain ⟨o', h'⟩ := e.dom a.1 o q
        rw [hg a ha] at h'; cases h'
  · refine f.keep a o (e.keep a o h n) fun hm => ?_
    rcases List.mem_append.mp hm with hm | hm
    · exact n hm
    · have z := hb _ hm; rw [h] at z; cases z
  · obtain ⟨o1, h1⟩ := e.dom a o h
    exact f.dom a o1 h1
theorem SqT.ext {K : PySem.W.Frag} {α α' : List (Addr × Bool)} {H H' : Hp} (e : Ext α H α' H') {a : Addr} {xs : List V} (h : SqT K H a xs) : SqT K H' a xs := by
  rcases h with (h | ⟨o, h⟩) | h
  · exact .inl (.inl (e.tups _ _ h))
  · exact .inl (.inr ⟨o, e.frzs _ _ _ h⟩)
  · exact .inr h
theorem get_pre {α : Type} {l r : List α} {n : Nat} {x : α} (h : l[n]? = some x) : (l ++ r)[n]? = some x := by
  rw [List.getElem?_append_left (List.getElem?_eq_some_iff.mp h).1]; exact h
mutual
theorem Rp.ext {K : PySem.W.Frag} {α α' : List (Addr × Bool)} {H H' : Hp} (e : Ext α H α' H') : ∀ {d : D} {v : V}, Rp K α H d v → Rp K α' H' d v
  | _, _, .non => .non
  | _, _, .bl b => .bl b
  | _, _, .int i => .int i
  | _, _, .str s => .str s
  | _, _, .tup h r => .tup (SqT.ext e h) (RpL.ext e r)
  | _, _, .ref (m := m) h => .ref (m := m) (by obtain ⟨β, rfl, _⟩ := e.pre; exact get_pre h)
theorem RpL.ext {K : PySem.W.Frag} {α α' : List (Addr × Bool)} {H H' : Hp} (e : Ext α H α' H') : ∀ {l : List D} {vs : List V}, RpL K α H l vs → RpL K α' H' l vs
  | _, _, .nil => .nil
  | _, _, .cons r t => .cons (Rp.ext e r) (RpL.ext e t)
end
theorem RpL.length {K : PySem.W.Frag} {α : List (Addr × Bool)} {H : Hp} : ∀ {l : List D} {vs : List V}, RpL K α H l vs → l.length = vs.length
  | _, _, .nil => rfl
  | _, _, .cons _ t => congrArg Nat.succ (RpL.length t)
theorem RpL.get {K : PySem.W.Frag} {α : List (Addr × Bool)} {H : Hp} : ∀ {l : List D} {vs : List V} {i : Nat} {d : D}, RpL K α H l vs → l[i]? = some d → ∃ v, vs[i]? = some v ∧ Rp K α H d v
  | _, _, _, _, .nil, e => by simp at e
  | _, _, 0, _, .cons r _, e => by simp at e; subst e; exact ⟨_, rfl, r⟩
  | _, _, i + 1, _, .cons _ t, e => by
    obtain ⟨v, h1, h2⟩ := RpL.get (i := i) t (by simpa using e)
    exact ⟨v, by simpa using h1, h2⟩
theorem RpL.append {K : PySem.W.Frag} {α : List (Addr × Bool)} {H : Hp} : ∀ {l k : List D} {vs ws : List V}, RpL K α H l vs → RpL K α H k ws → RpL K α H (l ++ k) (vs ++ ws)
  | _, _, _, _, .nil, s => s
  | _, _, _, _, .cons r t, s => .cons r (RpL.append t s)
theorem RpL.take {K : PySem.W.Frag} {α : List (Addr × Bool)} {H : Hp} : ∀ {l : List D} {vs : List V} (n : Nat), RpL K α H l vs → RpL K α H (l.take n) (vs.take n)
  | _, _, 0, _ => .nil
  | _, _, _ + 1, .nil => .nil
  | _, _, n + 1, .cons r t => .cons r (RpL.take n t)
theorem RpL.drop {K : PySem.W.Frag} {α : List (Addr × Bool)} {H : Hp} : ∀ {l : List D} {vs : List V} (n : Nat), RpL K α H l vs → RpL K α H (l.drop n) (vs.drop n)
  | _, _, 0, r => r
  | _, _, _ + 1, .nil => .nil
  | _, _, n + 1, .cons _ t => RpL.drop n t
theorem RpL.set {K : PySem.W.Frag} {α : List (Addr × Bool)} {H : Hp} {d : D} {v : V} (r : Rp K α H d v) : ∀ {l : List D} {vs : List V} (i : Nat), RpL K α H l vs → RpL K α H (l.set i d) (vs.set i v)
  | _, _, _, .nil => .nil
  | _, _, 0, .cons _ t => .cons r t
  | _, _, i + 1, .cons q t => .cons q (RpL.set r i t)
theorem RpL.one {K : PySem.W.Frag} {α : List (Addr × Bool)} {H : Hp} {d : D} {v : V} (r : Rp K α H d v) : RpL K α H [d] [v] := .cons r .nil

/-- keys of a dict: ints and texts -/
def keyR : D → Key → Prop
  | .int i, k => k = .inl i
  | .str s, k => k = .inr (cs s)
  | _, _ => False
/-- a list of the written part -/
def KLst (K : PySem.W.Frag) (a : Addr) (xs : List V) : Prop :=
  ∃ (o : Obj) (its : Array Value) (n : Nat), K.lookup a = some o ∧ o.cls = .type "list" ∧ o.dict = none ∧ o.data = .seq its n ∧ its.size ≤ sizeLine ∧ Vals xs its.toList
def OR (K : PySem.W.Frag) (α : List (Addr × Bool)) (H : Hp) (a : Addr) (m : Bool) : O → Prop
  | .lst l => m = true ∧ ∃ vs, H a = some (.lst vs) ∧ RpL K α H l vs
  | .ro l => m = false ∧ ∃ vs, ((∃ o, H a = some (.frz o (.lst vs))) ∨ KLst K a vs) ∧ RpL K α H l vs
  | .dct kv => m = true ∧ ∃ kvs : List (Key × V), H a = some (.dK kvs) ∧ Paired (fun (p : D × D) (q : Key × V) => keyR p.1 q.1 ∧ Rp K α H p.2 q.2) kv kvs
  | .exc _ _ => False
structure StR (K : PySem.W.Frag) (α : List (Addr × Bool)) (H : Hp) (S : Sto) : Prop where
  len : α.length = S.length
  nd : ∀ (i j : Nat) a, α[i]? = some (a, true) → α[j]? = some (a, true) → i = j
  at_ : ∀ (n : Nat) a m o, α[n]? = some (a, m) → S[n]? = some o → OR K α H a m o
structure EnvR (K : PySem.W.Frag) (α : List (Addr × Bool)) (H : Hp) (ρ : Env) (σ : SL) : Prop where
  len : σ.length = ρ.length
  get : ∀ (i : Nat) d, ρ[i]? = some (some d) → ∃ v, σ[i]? = some (some v) ∧ Rp K α H d v
theorem EnvR.ext {K : PySem.W.Frag} {α α' : List (Addr × Bool)} {H H' : Hp} {ρ : Env} {σ : SL} (e : Ext α H α' H') (h : EnvR K α H ρ σ) : EnvR K α' H' ρ σ := ⟨h.len, fun i d hd => by
  obtain ⟨v, h1, h2⟩ := h.get i d hd
  exact ⟨v, h1, h2.ext e⟩⟩
theorem EnvR.set {K : PySem.W.Frag} {α : List (Addr × Bool)} {H : Hp} {ρ : Env} {σ : SL} (h : EnvR K α H ρ σ) (i : Nat) {d : D} {v : V} (r : Rp K α H d v) : EnvR K α H (ρ.set i (some d)) (σ.set i (some v)) := by
  refine ⟨by simp [h.len], fun j e he => ?_⟩
  by_cases c : j = i
  · subst c
    by_cases hl : j < ρ.length
    · rw [List.getElem?_set_self hl] at he
      cases he
      exact ⟨v, List.getElem?_set_self (by rw [h.len]; exact hl), r⟩
    · rw [List.getElem?_eq_none (by simpa using hl)] at he; cases he
  · rw [List.getElem?_set_ne (Ne.symm c)] at he
    rw [List.getElem?_set_ne (Ne.symm c)]
    exact h.get j e he
theorem EnvR.unset {K : PySem.W.Frag} {α : List (Addr × Bool)} {H : Hp} {ρ : Env} {σ : SL} (h : EnvR K α H ρ σ) (i : Nat) : EnvR K α H (ρ.set i none) (σ.set i none) := by
  refine ⟨by simp [h.len], fun j e he => ?_⟩
  by_cases c : j = i
  · subst c
    by_cases hl : j < ρ.length
    · rw [List.getElem?_set_self hl] at he; cases he
    · rw [List.getElem?_eq_none (by simpa using hl)] at he; cases he
  · rw [List.getElem?_set_ne (Ne.symm c)] at he
    rw [List.getElem?_set_ne (Ne.symm c)]
    exact h.get j e he
theorem EnvR.wipe {K : PySem.W.Frag} {α : List (Addr × Bool)} {H : Hp} {ρ : Env} {σ : SL} (h : EnvR K α H ρ σ) : ∀ vs : List Nat, EnvR K α H (wipeE ρ vs) (L2.wipe σ vs)
  | [] => h
  | v :: vs => (EnvR.wipe h vs).unset v
/-- a thing that stands aside is taken into the store -/
theorem Ext.adopt {α α' : List (Addr × Bool)} {H H' : Hp} {p : Addr} {m : Bool} (e : Ext α H α' H') (hp : H p = none) : Ext α H (α' ++ [(p, m)]) H' := by
  obtain ⟨β, rfl, hb⟩ := e.pre
  refine ⟨⟨β ++ [(p, m)], by rw [List.append_assoc], fun a ha => ?_⟩, e.keep, e.tups, e.frzs, e.dom⟩
  rcases List.mem_append.mp ha with ha | ha
  · exact hb a ha
  · rw [List.mem_singleton.mp ha]; exact hp
theorem Paired.imp2 {α β : Type} {F G : α → β → Prop} (f : ∀ a b, F a b → G a b) : ∀ {l : List α} {k : List β}, Paired F l k → Paired G l k
  | _, _, .nil => .nil
  | _, _, .cons r t => .cons (f _ _ r) (Paired.imp2 f t)
theorem OR.ext {K : PySem.W.Frag} {α α' : List (Addr × Bool)} {H H' : Hp} {a : Addr} {m : Bool} {o : O} (e : Ext α H α' H') (ha : ∀ ho, H a = some ho → H' a = some ho) (h : OR K α H a m o) : OR K α' H' a m o := by
  cases o with
  | lst l => obtain ⟨hm, vs, h1, h2⟩ := h; exact ⟨hm, vs, ha _ h1, h2.ext e⟩
  | ro l =>
    obtain ⟨hm, vs, h1, h2⟩ := h
    refine ⟨hm, vs, ?_, h2.ext e⟩
    rcases h1 with ⟨o, h1⟩ | h1
    · exact .inl ⟨o, ha _ h1⟩
    · exact .inr h1
  | dct kv => obtain ⟨hm, kvs, h1, h2⟩ := h; exact ⟨hm, kvs, ha _ h1, Paired.imp2 (fun p q z => ⟨z.1, z.2.ext e⟩) h2⟩
  | exc c fs => exact h
mutual
theorem Rp.more {K : PySem.W.Frag} {α β : List (Addr × Bool)} {H : Hp} : ∀ {d : D} {v : V}, Rp K α H d v → Rp K (α ++ β) H d v
  | _, _, .non => .non
  | _, _, .bl b => .bl b
  | _, _, .int i => .int i
  | _, _, .str s => .str s
  | _, _, .tup h r => .tup h (RpL.more r)
  | _, _, .ref (m := m) h => .ref (m := m) (get_pre h)
theorem RpL.more {K : PySem.W.Frag} {α β : List (Addr × Bool)} {H : Hp} : ∀ {l : List D} {vs : List V}, RpL K α H l vs → RpL K (α ++ β) H l vs
  | _, _, .nil => .nil
  | _, _, .cons r t => .cons (Rp.more r) (RpL.more t)
end
theorem OR.more {K : PySem.W.Frag} {α β : List (Addr × Bool)} {H : Hp} {a : Addr} {m : Bool} {o : O} (h : OR K α H a m o) : OR K (α ++ β) H a m o := by
  cases o with
  | lst l => obtain ⟨hm, vs, h1, h2⟩ := h; exact ⟨hm, vs, h1, h2.more⟩
  | ro l => obtain ⟨hm, vs, h1, h2⟩ := h; exact ⟨hm, vs, h1, h2.more⟩
  | dct kv => obtain ⟨hm, kvs, h1, h2⟩ := h; exact ⟨hm, kvs, h1, Paired.imp2 (fun p q z => ⟨z.1, z.2.more⟩) h2⟩
  | exc c fs => exact h
/-- a mutable thing is tracked, and may be written -/
theorem OR.mut {K : PySem.W.Frag} {α : List (Addr × Bool)} {H : Hp} {a : Addr} {o : O} (h : OR K α H a true o) : Mut (H a) := by
  cases o with
  | lst l => obtain ⟨_, vs, h1, _⟩ := h; rw [h1]; trivial
  | ro l => exact absurd h.1 (by simp)
  | dct kv => obtain ⟨_, kvs, h1, _⟩ := h; rw [h1]; trivial
  | exc c fs => exact h.elim
theorem StR.obj {K : PySem.W.Frag} {α : List (Addr × Bool)} {H : Hp} {S : Sto} (s : StR K α H S) {n : Nat} {a : Addr} {m : Bool} (h : α[n]? = some (a, m)) : ∃ o, S[n]? = some o ∧ OR K α H a m o := by
  have := (List.getElem?_eq_some_iff.mp h).1
  rw [s.len] at this
  exact ⟨S[n], List.getElem?_eq_getElem this, s.at_ n _ _ _ h (List.getElem?_eq_getElem this)⟩
/-- where nothing is tracked nothing mutable stands -/
theorem StR.off {K : PySem.W.Frag} {α : List (Addr × Bool)} {H : Hp} {S : Sto} (s : StR K α H S) {p : Addr} (hp : H p = none) : (p, true) ∉ α := fun hm => by
  obtain ⟨n, hn⟩ := List.getElem?_of_mem hm
  obtain ⟨o, _, h⟩ := s.obj hn
  have := h.mut
  rw [hp] at this; exact this
/-- a new thing -/
theorem Ext.new {α : List (Addr × Bool)} {H : Hp} {p : Addr} {m : Bool} {ho : HO} (hp : H p = none) : Ext α H (α ++ [(p, m)]) (upd H p ho) := by
  have ne : ∀ {a o}, H a = some o → a ≠ p := fun h e => by rw [e, hp] at h; cases h
  exact ⟨⟨[(p, m)], rfl, fun a ha => by rw [List.mem_singleton.mp ha]; exact hp⟩, fun a o h _ => by rw [upd_ne (ne h)]; exact h, fun a xs h => by rw [upd_ne (ne h)]; exact h, fun a o u h => by rw [upd_ne (ne h)]; exact h,
    fun a o h => ⟨o, by rw [upd_ne (ne h)]; exact h⟩⟩
/-- a new thing that the store does not hold -/
theorem Ext.aside {α : List (Addr × Bool)} {H : Hp} {p : Addr} {ho : HO} (hp : H p = none) : Ext α H α (upd H p ho) := by
  have ne : ∀ {a o}, H a = some o → a ≠ p := fun h e => by rw [e, hp] at h; cases h
  exact ⟨⟨[], by simp, fun a ha => by simp at ha⟩, fun a o h _ => by rw [upd_ne (ne h)]; exact h, fun a xs h => by rw [upd_ne (ne h)]; exact h, fun a o u h => by rw [upd_ne (ne h)]; exact h,
    fun a o h => ⟨o, by rw [upd_ne (ne h)]; exact h⟩⟩
theorem upd_keep {H : Hp} {p a : Addr} {ho o : HO} (hp : H p = none) (h : H a = some o) : upd H p ho a = some o := by
  rw [upd_ne fun e => by rw [e, hp] at h; cases h]; exact h
theorem StR.fresh {K : PySem.W.Frag} {α : List (Addr × Bool)} {H : Hp} {S : Sto} (s : StR K α H S) {p : Addr} {ho : HO} (hp : H p = none) : StR K α (upd H p ho) S :=
  ⟨s.len, s.nd, fun n a m o h1 h2 => (s.at_ n a m o h1 h2).ext (Ext.aside hp) fun _ h => upd_keep hp h⟩
theorem StR.push {K : PySem.W.Frag} {α : List (Addr × Bool)} {H : Hp} {S : Sto} (s : StR K α H S) {p : Addr} {ho : HO} {o : O} {m : Bool} (hp : H p = none) (h : OR K (α ++ [(p, m)]) (upd H p ho) p m o) : StR K (α ++ [(p, m)]) (upd H p ho) (S ++ [o]) := by
  have old : ∀ {n : Nat} {a : Addr × Bool}, (α ++ [(p, m)])[n]? = some a → (n < α.length ∧ α[n]? = some a) ∨ (n = α.length ∧ a = (p, m)) := fun {n a} h1 => by
    by_cases hn : n < α.length
    · rw [List.getElem?_append_left hn] at h1; exact .inl ⟨hn, h1⟩
    · have e : n = α.length := by
        have := (List.getElem?_eq_some_iff.mp h1).1
        simp at this; omega
      subst e
      exact .inr ⟨rfl, by simpa using h1.symm⟩
  have off := s.off hp
  refine ⟨by simp [s.len], fun i j a hi hj => ?_, fun n a k o' h1 h2 => ?_⟩
  · rcases old hi with ⟨li, ai⟩ | ⟨ei, ai⟩
    · rcases old hj with ⟨lj, aj⟩ | ⟨ej, aj⟩
      · exact s.nd i j a ai aj
      · injection aj with aj bj
        subst aj
        exact (off (List.mem_of_getElem? ai)).elim
    · rcases old hj with ⟨lj, aj⟩ | ⟨ej, aj⟩
      · injection ai with ai bi
        subst ai
        exact (off (List.mem_of_getElem? aj)).elim
      · exact ei.trans ej.symm
  · rcases old h1 with ⟨hn, h1⟩ | ⟨rfl, e⟩
    · rw [List.getElem?_append_left (by rw [← s.len]; exact hn)] at h2
      exact (s.at_ n a k o' h1 h2).ext (Ext.new hp) fun _ h => upd_keep hp h
    · injection e with e1 e3
      have e2 : o' = o := by rw [s.len] at h2; simpa using h2.symm
      subst e1 e2 e3
      exact h
theorem StR.adopt {K : PySem.W.Frag} {α : List (Addr × Bool)} {H : Hp} {S : Sto} (s : StR K α H S) {p : Addr} {o : O} (hp : (p, true) ∉ α) (h : OR K (α ++ [(p, true)]) H p true o) : StR K (α ++ [(p, true)]) H (S ++ [o]) := by
  have old : ∀ {n : Nat} {a : Addr × Bool}, (α ++ [(p, true)])[n]? = some a → (n < α.length ∧ α[n]? = some a) ∨ (n = α.length ∧ a = (p, true)) := fun {n a} h1 => by
    by_cases hn : n < α.length
    · rw [List.getElem?_append_left hn] at h1; exact .inl ⟨hn, h1⟩
    · have e : n = α.length := by
        have := (List.getElem?_eq_some_iff.mp h1).1
        simp at this; omega
      subst e
      exact .inr ⟨rfl, by simpa using h1.symm⟩
  have ex : Ext α H (α ++ [(p, true)]) H → True := fun _ => trivial
  refine ⟨by simp [s.len], fun i j a hi hj => ?_, fun n a k o' h1 h2 => ?_⟩
  · rcases old hi with ⟨li, ai⟩ | ⟨ei, ai⟩
    · rcases old hj with ⟨lj, aj⟩ | ⟨ej, aj⟩
      · exact s.nd i j a ai aj
      · injection aj with aj bj
        subst aj
        exact (hp (List.mem_of_getElem? ai)).elim
    · rcases old hj with ⟨lj, aj⟩ | ⟨ej, aj⟩
      · injection ai with ai bi
        subst ai
        exact (hp (List.mem_of_getElem? aj)).elim
      · exact ei.trans ej.symm
  · rcases old h1 with ⟨hn, h1⟩ | ⟨rfl, e⟩
    · rw [List.getElem?_append_left (by rw [← s.len]; exact hn)] at h2
      exact (s.at_ n a k o' h1 h2).more
    · injection e with e1 e3
      have e2 : o' = o := by rw [s.len] at h2; simpa using h2.symm
      subst e1 e2 e3
      exact h
/-- a list or dict is changed -/
theorem Ext.write {α : List (Addr × Bool)} {H : Hp} {n : Nat} {a : Addr} {ho : HO} (ha : α[n]? = some (a, true)) (mu : Mut (H a)) : Ext α H α (upd H a ho) := by
  have hm : (a, true) ∈ α := List.mem_of_getElem? ha
  refine ⟨⟨[], by simp, fun a ha => by simp at ha⟩, fun b o h nb => ?_, fun b xs h => ?_, fun b o u h => ?_, fun b o h => ?_⟩
  · rw [upd_ne (fun e => nb (by rw [e]; exact hm))]; exact h
  · rw [upd_ne fun e => by subst e; rw [h] at mu; exact mu]; exact h
  · rw [upd_ne fun e => by subst e; rw [h] at mu; exact mu]; exact h
  · by_cases e : b = a
    · exact ⟨ho, by rw [e, upd_same]⟩
    · exact ⟨o, by rw [upd_ne e]; exact h⟩
theorem StR.write {K : PySem.W.Frag} {α : List (Addr × Bool)} {H : Hp} {S : Sto} (s : StR K α H S) {n : Nat} {a : Addr} {ho : HO} {o : O} (ha : α[n]? = some (a, true)) (h : OR K α (upd H a ho) a true o) : StR K α (upd H a ho) (S.set n o) := by
  obtain ⟨ob, hs, hob⟩ := s.obj ha
  have mu := hob.mut
  have hl := (List.getElem?_eq_some_iff.mp hs).1
  refine ⟨by simp [s.len], s.nd, fun m b k o' h1 h2 => ?_⟩
  by_cases e : m = n
  · subst e
    rw [ha] at h1; cases h1
    rw [List.getElem?_set_self hl] at h2; cases h2
    exact h
  · rw [List.getElem?_set_ne (Ne.symm e)] at h2
    have hb := s.at_ m b k o' h1 h2
    by_cases q : b = a
    · subst q
      cases k with
      | true => exact (e (s.nd m n b h1 ha)).elim
      | false =>
        cases o' with
        | ro l =>
          obtain ⟨_, vs, k1, k2⟩ := hb
          refine ⟨rfl, vs, ?_, k2.ext (Ext.write ha mu)⟩
          rcases k1 with ⟨ob, k1⟩ | k1
          · rw [k1] at mu; exact mu.elim
          · exact .inr k1
        | lst l => exact absurd hb.1 (by simp)
        | dct l => exact absurd hb.1 (by simp)
        | exc c l => exact hb.elim
    · exact hb.ext (Ext.write ha mu) fun _ h => by rw [upd_ne q]; exact h

/-! ### what is wanted behind a result -/
/-- how an exception lies: its class, its own dict -/
def ExR (K : PySem.W.Frag) (CA : Nat → Addr) (α : List (Addr × Bool)) (H : Hp) (x : Ex) (cls : Value) (d : Option Addr) : Prop :=
  cls = .ref (CA x.cls) ∧ CA x.cls ≠ 0 ∧ ((x.fs = [] ∧ d = none) ∨ ∃ dd fs, d = some dd ∧ H dd = some (.xd fs) ∧ Paired (fun (p : List Nat × D) (q : PySem.Str × V) => cs p.1 = q.1 ∧ Rp K α H p.2 q.2) x.fs fs)
def Post {β γ : Type} (K : PySem.W.Frag) (CA : Nat → Addr) (rel : List (Addr × Bool) → Hp → β → γ → Prop) (α : List (Addr × Bool)) (H : Hp) (r : R β) (Q : γ → Hp → Prop) (W : XK) : Prop :=
  match r with
  | .ok d S' => ∀ α' H' v, Ext α H α' H' → StR K α' H' S' → rel α' H' d v → Q v H'
  | .ex x S' => ∀ α' H' cls d, Ext α H α' H' → StR K α' H' S' → ExR K CA α' H' x cls d → W cls d H'
  | .no => False
section
variable {β γ β' γ' : Type} {K : PySem.W.Frag} {CA : Nat → Addr} {rel : List (Addr × Bool) → Hp → β → γ → Prop} {rel' : List (Addr × Bool) → Hp → β' → γ' → Prop} {α : List (Addr × Bool)} {H : Hp} {r : R β} {Q Q' : γ → Hp → Prop} {W W' : XK}
theorem Post.imp (h : Post K CA rel α H r Q W) (f : ∀ v H', Q v H' → Q' v H') : Post K CA rel α H r Q' W := by
  cases r with
  | ok d S => exact fun α' H' v e s r => f _ _ (h α' H' v e s r)
  | ex x S => exact h
  | no => exact h
theorem Post.ext {α1 : List (Addr × Bool)} {H1 : Hp} (e : Ext α H α1 H1) (h : Post K CA rel α H r Q W) : Post K CA rel α1 H1 r Q W := by
  cases r with
  | ok d S => exact fun α' H' v e' s r => h α' H' v (e.trans e') s r
  | ex x S => exact fun α' H' c d e' s r => h α' H' c d (e.trans e') s r
  | no => exact h
theorem Post.bind {k : β → Sto → R β'} {Q2 : γ' → Hp → Prop} (h : Post K CA rel' α H (r.bind k) Q2 W) :
    Post K CA rel α H r (fun v H1 => ∃ α1 S1 d, Ext α H α1 H1 ∧ StR K α1 H1 S1 ∧ rel α1 H1 d v ∧ Post K CA rel' α1 H1 (k d S1) Q2 W) W := by
  cases r with
  | ok d S => exact fun α' H' v e s r => ⟨α', S, d, e, s, r, Post.ext e h⟩
  | ex x S => exact h
  | no => exact h
theorem Post.ok {d : β} {S : Sto} {v : γ} (h : Post K CA rel α H (.ok d S) Q W) (s : StR K α H S) (r : rel α H d v) : Q v H := h α H v (Ext.refl _ _) s r
end
theorem R.bind_assoc {α β γ : Type} (r : R α) (f : α → Sto → R β) (g : β → Sto → R γ) : (r.bind f).bind g = r.bind fun a S => (f a S).bind g := by cases r <;> rfl
end Eg

namespace Eg
open PySem PySem.Spec PyProof.Rows L2

theorem line_eq : line = sizeLine := by rw [sizeLine_eq]; rfl
theorem cs_length (s : List Nat) : (cs s).length = s.length := rfl
theorem cs_append (a b : List Nat) : cs a ++ cs b = cs (a ++ b) := by
  show PySem.Str.append _ _ = _
  unfold PySem.Str.append
  simp [cs]
theorem cs_inj {a b : List Nat} : cs a = cs b ↔ a = b := by
  constructor
  · intro h
    have := congrArg (fun x : PySem.Str => x.cps.toList) h
    simpa [cs] using this
  · intro h; rw [h]
theorem cs_toList (a : List Nat) : (cs a).cps.toList = a := rfl

/-- a two-place rule serves an operation of the engine -/
def OpS (K : PySem.W.Frag) (CA : Nat → Addr) (r : R2) (f : D → D → Sto → R D) : Prop :=
  ∀ (α : List (Addr × Bool)) (H : Hp) (S : Sto) (d e : D) (x y : V) (Q : VK) (W : XK), StR K α H S → Rp K α H d x → Rp K α H e y → Post K CA (Rp K) α H (f d e S) Q W → r x y H Q

section
variable {X : Cx} {CA : Nat → Addr}

theorem StR.lst {K : PySem.W.Frag} {α : List (Addr × Bool)} {H : Hp} {S : Sto} (s : StR K α H S) {n : Nat} {a : Addr} {m : Bool} {l : List D} (h : S[n]? = some (.lst l)) (ha : α[n]? = some (a, m)) : m = true ∧ ∃ vs, H a = some (.lst vs) ∧ RpL K α H l vs := s.at_ n a _ _ ha h
/-- a list that may be read -/
theorem StR.rd {K : PySem.W.Frag} {α : List (Addr × Bool)} {H : Hp} {S : Sto} (s : StR K α H S) {n : Nat} {a : Addr} {m : Bool} {l : List D} (h : lstOf S n = some l) (ha : α[n]? = some (a, m)) : ∃ vs, SqL K H a vs ∧ RpL K α H l vs := by
  unfold lstOf at h
  split at h
  · rename_i m e
    cases h
    obtain ⟨_, vs, h1, h2⟩ := s.at_ n a _ _ ha e
    exact ⟨vs, SqL.of h1, h2⟩
  · rename_i m e
    cases h
    obtain ⟨_, vs, h1, h2⟩ := s.at_ n a _ _ ha e
    refine ⟨vs, ?_, h2⟩
    rcases h1 with ⟨o, h1⟩ | h1
    · exact .inl (.inr ⟨o, h1⟩)
    · exact .inr h1
  · cases h
theorem Post.newL {α : List (Addr × Bool)} {H : Hp} {S : Sto} {l : List D} {vs : List V} {Q : VK} {W : XK} {K : PySem.W.Frag} (s : StR K α H S) (r : RpL K α H l vs) (h : Post K CA (Rp K) α H (.ok (.ref S.length) (S ++ [.lst l])) Q W) :
    ∀ p, H p = none → Q (.ref p) (upd H p (.lst vs)) := fun p hp => by
  refine h (α ++ [(p, true)]) _ _ (Ext.new hp) (s.push hp ⟨rfl, vs, upd_same, r.ext (Ext.new hp)⟩) (.ref (m := true) ?_)
  rw [← s.len]; simp
theorem Post.newT {α : List (Addr × Bool)} {H : Hp} {S : Sto} {l : List D} {vs : List V} {Q : VK} {W : XK} {K : PySem.W.Frag} (s : StR K α H S) (r : RpL K α H l vs) (h : Post K CA (Rp K) α H (.ok (.tup l) S) Q W) :
    ∀ p, H p = none → Q (.ref p) (upd H p (.tup vs)) := fun p hp =>
  h α _ _ (Ext.aside hp) (s.fresh hp) (.tup (SqT.of upd_same) (r.ext (Ext.aside hp)))
theorem RpL.nil_iff {K : PySem.W.Frag} {α : List (Addr × Bool)} {H : Hp} {l : List D} {vs : List V} (r : RpL K α H l vs) : l = [] ↔ vs = [] := by
  cases r <;> simp
theorem RpL.rep {K : PySem.W.Frag} {α : List (Addr × Bool)} {H : Hp} {l : List D} {vs : List V} (r : RpL K α H l vs) : ∀ n : Nat, RpL K α H (List.replicate n l).flatten (List.replicate n vs).flatten
  | 0 => by simpa using RpL.nil
  | n + 1 => by
    rw [List.replicate_succ, List.replicate_succ, List.flatten_cons, List.flatten_cons]
    exact r.append (r.rep n)

def opOf : BOp → Operator
  | .add => .Add | .sub => .Sub | .mul => .Mult | .fdiv => .FloorDiv | .mod => .Mod | .pow => .Pow | .shl => .LShift | .shr => .RShift | .band => .BitAnd
theorem ops_add : OpS X.K CA (fun x y H Q => ((rI0 fun i j => V.int (i + j)) x y H Q ∨ (∃ i j, x = .str i ∧ y = .str j ∧ i.length + j.length ≤ sizeLine ∧ Q (.str (i ++ j)) H)) ∨ (rCatA X.K x y H Q ∨ rCat x y H Q)) (binD .add) := by
  intro α H S d e x y Q W s rd re h
  cases rd with
  | int i =>
    cases re with
    | int j => exact .inl (.inl ⟨i, j, rfl, rfl, h.ok s (.int _)⟩)
    | _ => exact h.elim
  | str a =>
    cases re with
    | str b =>
      simp only [binD] at h
      split at h
      · rename_i c
        refine .inl (.inr ⟨_, _, rfl, rfl, by rw [← line_eq]; exact c, ?_⟩)
        rw [cs_append]; exact h.ok s (.str _)
      · exact h.elim
    | _ => exact h.elim
  | @tup l a vs hl rl =>
    cases re with
    | @tup m b ws hm rm =>
      simp only [binD] at h
      split at h
      · rename_i c
        refine .inr (.inl ⟨a, b, vs, ws, rfl, rfl, hl, hm, by rw [← line_eq, ← rl.length, ← rm.length]; exact c, fun e0 => ?_, fun e0 e1 => ?_, fun _ _ => h.newT s (rl.append rm)⟩)
        · have : l = [] := rl.nil_iff.mpr e0
          subst this
          exact h.ok s (.tup hm rm)
        · have : m = [] := rm.nil_iff.mpr e1
          subst this
          rw [List.append_nil] at h
          exact h.ok s (.tup hl rl)
      · exact h.elim
    | _ => exact h.elim
  | @ref n a ma ha =>
    cases re with
    | @ref m b mb hb =>
      simp only [binD] at h
      split at h
      · rename_i l k e1 e2
        obtain ⟨_, vs, h1, r1⟩ := s.lst e1 ha
        obtain ⟨_, ws, h2, r2⟩ := s.lst e2 hb
        split at h
        · rename_i c
          exact .inr (.inr ⟨a, b, vs, ws, rfl, rfl, h1, h2, by rw [← line_eq, ← r1.length, ← r2.length]; exact c, h.newL s (r1.append r2)⟩)
        · exact h.elim
      · exact h.elim
    | _ => exact h.elim
  | _ => cases re <;> exact h.elim
theorem ops_sub : OpS X.K CA (rI0 fun i j => V.int (i - j)) (binD .sub) := by
  intro α H S d e x y Q W s rd re h
  cases rd <;> cases re <;> first | exact ⟨_, _, rfl, rfl, h.ok s (.int _)⟩ | exact h.elim
theorem ops_mul : OpS X.K CA (fun x y H Q => ((rI CMul fun i j => V.int (i * j)) x y H Q ∨ (rI CMulW fun i j => V.int (i * j)) x y H Q) ∨ (rRepT X.K x y H Q ∨ rRep x y H Q)) (binD .mul) := by
  intro α H S d e x y Q W s rd re h
  cases rd with
  | int i =>
    cases re with
    | int j =>
      simp only [binD] at h
      split at h
      · rename_i c
        simp only [mulOk, Bool.or_eq_true, decide_eq_true_eq] at c
        rcases c with (c | c) | c
        · exact .inl (.inl ⟨i, j, rfl, rfl, .inl (by omega), h.ok s (.int _)⟩)
        · exact .inl (.inl ⟨i, j, rfl, rfl, .inr (by omega), h.ok s (.int _)⟩)
        · exact .inl (.inr ⟨i, j, rfl, rfl, c, h.ok s (.int _)⟩)
      · exact h.elim
    | _ => exact h.elim
  | @tup l a vs hl rl =>
    cases re with
    | int j =>
      simp only [binD] at h
      split at h
      · rename_i c
        simp only [Bool.and_eq_true, decide_eq_true_eq] at c
        obtain ⟨⟨⟨c1, c2⟩, c3⟩, c4⟩ := c
        exact .inr (.inl ⟨a, j, vs, rfl, rfl, hl, fun e => c1 (rl.nil_iff.mpr e), c2, c3, by rw [← rl.length]; exact c4, h.newT s (rl.rep _)⟩)
      · exact h.elim
    | _ => exact h.elim
  | @ref n a ma ha =>
    cases re with
    | int j =>
      simp only [binD] at h
      split at h
      · rename_i l e1
        obtain ⟨_, vs, h1, r1⟩ := s.lst e1 ha
        split at h
        · rename_i c
          simp only [i64, Bool.and_eq_true, decide_eq_true_eq] at c
          obtain ⟨⟨c1, c2⟩, c3⟩ := c
          exact .inr (.inr ⟨a, j, vs, rfl, rfl, h1, c1, c2, by rw [← line_eq, ← r1.length]; exact c3, h.newL s (r1.rep _)⟩)
        · exact h.elim
      · exact h.elim
    | _ => exact h.elim
  | _ => cases re <;> exact h.elim
theorem ops_fdiv : OpS X.K CA (fun x y H Q => (rI CDivN fun i j => V.int (i.fdiv j)) x y H Q ∨ (rI CDivW fun i j => V.int (i / j)) x y H Q) (binD .fdiv) := by
  intro α H S d e x y Q W s rd re h
  cases rd <;> cases re <;> try exact h.elim
  rename_i i j
  simp only [binD] at h
  split at h
  · rename_i c
    simp only [Bool.and_eq_true, decide_eq_true_eq] at c
    exact .inl ⟨_, _, rfl, rfl, c, h.ok s (.int _)⟩
  · split at h
    · rename_i c
      simp only [Bool.and_eq_true, decide_eq_true_eq] at c
      exact .inr ⟨_, _, rfl, rfl, c, h.ok s (.int _)⟩
    · exact h.elim
theorem ops_mod : OpS X.K CA (rI (fun _ j => j ≠ 0) fun i j => V.int (i.fmod j)) (binD .mod) := by
  intro α H S d e x y Q W s rd re h
  cases rd <;> cases re <;> try exact h.elim
  simp only [binD] at h
  split at h
  · exact ⟨_, _, rfl, rfl, by assumption, h.ok s (.int _)⟩
  · exact h.elim
theorem ops_pow : OpS X.K CA (rI CPow fun i j => V.int (i ^ j.toNat)) (binD .pow) := by
  intro α H S d e x y Q W s rd re h
  cases rd <;> cases re <;> try exact h.elim
  simp only [binD] at h
  split at h
  · rename_i c
    simp only [Bool.and_eq_true, decide_eq_true_eq] at c
    exact ⟨_, _, rfl, rfl, ⟨c.1.1, c.1.2, c.2⟩, h.ok s (.int _)⟩
  · exact h.elim
theorem ops_shl : OpS X.K CA (rI CPow fun i j => V.int (i * 2 ^ j.toNat)) (binD .shl) := by
  intro α H S d e x y Q W s rd re h
  cases rd <;> cases re <;> try exact h.elim
  simp only [binD] at h
  split at h
  · rename_i c
    simp only [Bool.and_eq_true, decide_eq_true_eq] at c
    exact ⟨_, _, rfl, rfl, ⟨c.1.1, c.1.2, c.2⟩, h.ok s (.int _)⟩
  · exact h.elim
theorem ops_shr : OpS X.K CA (rI (fun _ j => 0 ≤ j) fun i j => V.int (i / 2 ^ j.toNat)) (binD .shr) := by
  intro α H S d e x y Q W s rd re h
  cases rd <;> cases re <;> try exact h.elim
  simp only [binD, decide_eq_true_eq] at h
  split at h
  · exact ⟨_, _, rfl, rfl, by assumption, h.ok s (.int _)⟩
  · exact h.elim
/-- each operator has its rule -/
theorem op_bin (o : BOp) : ∃ r, OpR X (binaryOp (opOf o)) r ∧ OpS X.K CA r (binD o) := by
  cases o with
  | add => exact ⟨_, (op_add.or op_add_str).or (op_catA.or op_cat), ops_add⟩
  | sub => exact ⟨_, op_sub, ops_sub⟩
  | mul => exact ⟨_, (op_mul.or op_mulW).or (op_repT.or op_rep), ops_mul⟩
  | fdiv => exact ⟨_, op_fdivN.or op_fdivW, ops_fdiv⟩
  | mod => exact ⟨_, op_modN, ops_mod⟩
  | pow => exact ⟨_, op_pow, ops_pow⟩
  | shl => exact ⟨_, op_shl, ops_shl⟩
  | shr => exact ⟨_, op_shr, ops_shr⟩
  | band =>
    refine ⟨_, op_and, ?_⟩
    intro α H S d e x y Q W s rd re h
    cases rd <;> cases re <;> exact h.elim
end
end Eg

namespace Eg
open PySem PySem.Spec PyProof.Rows L2

/-! ### == of data -/
def toPy : Nat → Sto → D → PyData
  | 0, _, _ => .none
  | n + 1, S, d => match d with
    | .non => .none
    | .bl b => .bool b
    | .int i => .int i
    | .str s => .str (cs s)
    | .tup l => .tuple (l.map (toPy n S))
    | .ref k => match lstOf S k with
      | some l => .list (l.map (toPy n S))
      | none => .none
theorem depthAll_le {n : Nat} : ∀ {l : List PyData}, (∀ d ∈ l, d.depth ≤ n) → PyData.depthAll l ≤ n
  | [], _ => Nat.zero_le _
  | d :: l, h => by
    have h1 := h d (by simp)
    have h2 := depthAll_le (l := l) fun e he => h e (by simp [he])
    simp only [PyData.depthAll]; omega
theorem canAll {l : List PyData} : (∀ d ∈ l, d.canLay0 = true) → PyData.canLayAll0 l = true := by
  induction l with
  | nil => intro _; rfl
  | cons d l ih =>
    intro h
    simp only [PyData.canLayAll0, h d (by simp), ih fun e he => h e (by simp [he]), Bool.and_self]
theorem toPy_depth (S : Sto) : ∀ (n : Nat) (d : D), (toPy n S d).depth ≤ n
  | 0, _ => Nat.le_refl _
  | n + 1, d => by
    have ih : ∀ l : List D, PyData.depthAll (l.map (toPy n S)) ≤ n := fun l => depthAll_le fun e he => by
      obtain ⟨x, _, rfl⟩ := List.mem_map.mp he
      exact toPy_depth S n x
    cases d with
    | tup l => have := ih l; simp only [toPy, PyData.depth]; omega
    | ref k =>
      simp only [toPy]
      split
      · rename_i l _; have := ih l; simp only [PyData.depth]; omega
      · simp [PyData.depth]
    | _ => simp [toPy, PyData.depth]
theorem toPy_can (S : Sto) : ∀ (n : Nat) (d : D), plain n S d = true → (toPy n S d).canLay0 = true
  | 0, _, h => by cases h
  | n + 1, d, h => by
    have ih : ∀ l : List D, l.all (plain n S) = true → PyData.canLayAll0 (l.map (toPy n S)) = true := fun l hl => canAll fun e he => by
      obtain ⟨x, hx, rfl⟩ := List.mem_map.mp he
      exact toPy_can S n x (List.all_eq_true.mp hl x hx)
    cases d with
    | tup l => simp only [toPy, PyData.canLay0]; exact ih l h
    | ref k =>
      simp only [plain] at h
      split at h
      · rename_i l e
        have : toPy (n + 1) S (.ref k) = .list (l.map (toPy n S)) := by simp only [toPy, e]
        rw [this]; simp only [PyData.canLay0]; exact ih l h
      · cases h
    | str s =>
      simp only [toPy, PyData.canLay0]
      simp only [plain, strOk] at h
      simpa [PyData.strOk, cs] using h
    | _ => simp [toPy, PyData.canLay0]
mutual
theorem dp_of {K : PySem.W.Frag} {α : List (Addr × Bool)} {H : Hp} {S : Sto} (s : StR K α H S) : ∀ (n : Nat) {d : D} {v : V}, plain n S d = true → Rp K α H d v → Dp K H v (toPy n S d)
  | 0, _, _, h, _ => by cases h
  | n + 1, _, _, _, .non => .non
  | n + 1, _, _, _, .bl b => .bl b
  | n + 1, _, _, _, .int i => .int i
  | n + 1, _, _, _, .str x => .str _
  | n + 1, _, _, h, .tup hl r => .tup hl (dpAll_of s n h r)
  | n + 1, .ref k, .ref a, h, .ref ha => by
    simp only [plain] at h
    split at h
    · rename_i l e
      obtain ⟨vs, h1, h2⟩ := s.rd e ha
      have : toPy (n + 1) S (.ref k) = .list (l.map (toPy n S)) := by simp only [toPy, e]
      rw [this]
      exact .lst h1 (dpAll_of s n h h2)
    · cases h
theorem dpAll_of {K : PySem.W.Frag} {α : List (Addr × Bool)} {H : Hp} {S : Sto} (s : StR K α H S) : ∀ (n : Nat) {l : List D} {vs : List V}, l.all (plain n S) = true → RpL K α H l vs → DpAll K H vs (l.map (toPy n S))
  | _, _, _, _, .nil => .nil
  | n, _, _, h, .cons r t => by
    simp only [List.all_cons, Bool.and_eq_true] at h
    exact .cons (dp_of s n h.1 r) (dpAll_of s n h.2 t)
end
theorem all2_py {f : D → D → Bool} {g : D → PyData} : ∀ {l k : List D}, (∀ a ∈ l, ∀ b ∈ k, f a b = PyData.eqv (g a) (g b)) → all2 f l k = PyData.eqvAll (l.map g) (k.map g)
  | [], [], _ => by simp [all2, PyData.eqvAll]
  | [], _ :: _, _ => by simp [all2, PyData.eqvAll]
  | _ :: _, [], _ => by simp [all2, PyData.eqvAll]
  | a :: l, b :: k, h => by
    simp only [all2, List.map_cons, PyData.eqvAll]
    rw [h a (by simp) b (by simp), all2_py fun x hx y hy => h x (by simp [hx]) y (by simp [hy])]
theorem cs_beq (a b : List Nat) : (cs a == cs b) = (a == b) := by
  by_cases h : a = b
  · subst h; simp
  · have : cs a ≠ cs b := fun e => h (cs_inj.mp e)
    rw [beq_eq_false_iff_ne.mpr this, beq_eq_false_iff_ne.mpr h]
theorem eqv_py (S : Sto) : ∀ (n : Nat) (a b : D), plain n S a = true → plain n S b = true → eqv n S a b = PyData.eqv (toPy n S a) (toPy n S b)
  | 0, _, _, h, _ => by cases h
  | n + 1, a, b, ha, hb => by
    have ih : ∀ l k : List D, l.all (plain n S) = true → k.all (plain n S) = true → all2 (eqv n S) l k = PyData.eqvAll (l.map (toPy n S)) (k.map (toPy n S)) := fun l k hl hk =>
      all2_py fun x hx y hy => eqv_py S n x y (List.all_eq_true.mp hl x hx) (List.all_eq_true.mp hk y hy)
    have rf : ∀ (k : Nat), plain (n + 1) S (.ref k) = true → ∃ l, lstOf S k = some l ∧ l.all (plain n S) = true ∧ toPy (n + 1) S (.ref k) = .list (l.map (toPy n S)) := fun k h => by
      simp only [plain] at h
      split at h
      · rename_i l e; exact ⟨l, e, h, by simp only [toPy, e]⟩
      · cases h
    cases a with
    | ref i =>
      obtain ⟨l, e1, p1, q1⟩ := rf i ha
      cases b with
      | ref j =>
        obtain ⟨k, e2, p2, q2⟩ := rf j hb
        rw [q1, q2]
        simp only [eqv, e1, e2, PyData.eqv]
        exact ih l k p1 p2
      | _ => rw [q1]; simp [eqv, toPy, PyData.eqv]
    | tup l =>
      cases b with
      | tup k => simp only [eqv, toPy, PyData.eqv]; exact ih l k ha hb
      | ref j => obtain ⟨k, e2, p2, q2⟩ := rf j hb; rw [q2]; simp [eqv, toPy, PyData.eqv]
      | _ => simp [eqv, toPy, PyData.eqv]
    | str x =>
      cases b with
      | str y => simp only [eqv, toPy, PyData.eqv]; exact (cs_beq x y).symm
      | ref j => obtain ⟨k, e2, p2, q2⟩ := rf j hb; rw [q2]; simp [eqv, toPy, PyData.eqv]
      | _ => simp [eqv, toPy, PyData.eqv]
    | _ =>
      cases b with
      | ref j => obtain ⟨k, e2, p2, q2⟩ := rf j hb; rw [q2]; simp [eqv, toPy, PyData.eqv]
      | _ => simp [eqv, toPy, PyData.eqv]
theorem shaped_of (S : Sto) {d : D} (h : plain 40 S d = true) : SeqAt.shaped (toPy 40 S d) = true := by
  unfold SeqAt.shaped
  rw [toPy_can S 40 d h, Bool.true_and]
  have := toPy_depth S 40 d
  simp only [decide_eq_true_eq]; omega
theorem shapedL_of (S : Sto) {l : List D} (h : l.all (plain 40 S) = true) : SeqAt.shaped (.list (l.map (toPy 40 S))) = true := by
  unfold SeqAt.shaped
  have h1 : PyData.canLayAll0 (l.map (toPy 40 S)) = true := canAll fun e he => by
    obtain ⟨x, hx, rfl⟩ := List.mem_map.mp he
    exact toPy_can S 40 x (List.all_eq_true.mp h x hx)
  have h2 : PyData.depthAll (l.map (toPy 40 S)) ≤ 40 := depthAll_le fun e he => by
    obtain ⟨x, _, rfl⟩ := List.mem_map.mp he
    exact toPy_depth S 40 x
  have h3 : (PyData.list (l.map (toPy 40 S))).depth ≤ 64 := by simp only [PyData.depth]; omega
  simp only [PyData.canLay0, h1, Bool.true_and, decide_eq_true_eq]; exact h3

section
variable {X : Cx} {CA : Nat → Addr}
def cOf : COp → CmpOp
  | .eq => .Eq | .ne => .NotEq | .lt => .Lt | .le => .LtE | .gt => .Gt | .ge => .GtE | .is_ => .Is | .isnot => .IsNot | .in_ => .In | .notin => .NotIn
/-- a rule of a comparison serves the engine's one -/
def CoS (K : PySem.W.Frag) (r : R2) (f : D → D → Sto → Option Bool) : Prop :=
  ∀ (α : List (Addr × Bool)) (H : Hp) (S : Sto) (d e : D) (x y : V) (b : Bool) (Q : VK), StR K α H S → Rp K α H d x → Rp K α H e y → f d e S = some b → Q (.bl b) H → r x y H Q
theorem eq_fast {a b : D} {S : Sto} {c : Bool} (h : eqD S a b = some c) : (∃ i j, a = .int i ∧ b = .int j ∧ c = decide (i = j)) ∨ (∃ i j, a = .str i ∧ b = .str j ∧ c = decide (i = j)) ∨ (∃ i j, a = .bl i ∧ b = .bl j ∧ c = decide (i = j)) ∨
    (plain 40 S a = true ∧ plain 40 S b = true ∧ c = eqv 40 S a b) := by
  unfold eqD at h
  split at h
  · exact .inl ⟨_, _, rfl, rfl, (Option.some.inj h).symm⟩
  · exact .inr (.inl ⟨_, _, rfl, rfl, (Option.some.inj h).symm⟩)
  · exact .inr (.inr (.inl ⟨_, _, rfl, rfl, (Option.some.inj h).symm⟩))
  · split at h
    · rename_i c
      simp only [Bool.and_eq_true] at c
      exact .inr (.inr (.inr ⟨c.1, c.2, (Option.some.inj h).symm⟩))
    · cases h
theorem dec_cs (i j : List Nat) : decide (V.str (cs i) = V.str (cs j)) = decide (i = j) := by
  by_cases e : i = j
  · subst e; simp
  · rw [decide_eq_false e, decide_eq_false fun q => e (cs_inj.mp (V.str.inj q))]
theorem dec_int (i j : Int) : decide (V.int i = V.int j) = decide (i = j) := by
  by_cases e : i = j
  · subst e; simp
  · rw [decide_eq_false e, decide_eq_false fun q => e (V.int.inj q)]
theorem dec_bl (i j : Bool) : decide (V.bl i = V.bl j) = decide (i = j) := by cases i <;> cases j <;> rfl
theorem cos_eq : CoS X.K (fun x y H Q => rEq x y H Q ∨ rEqD X.K x y H Q) (fun a b S => eqD S a b) := by
  intro α H S d e x y b Q s rd re h q
  rcases eq_fast h with ⟨i, j, rfl, rfl, rfl⟩ | ⟨i, j, rfl, rfl, rfl⟩ | ⟨i, j, rfl, rfl, rfl⟩ | ⟨p1, p2, rfl⟩
  · cases rd; cases re; exact .inl ⟨rfl, by rw [dec_int]; exact q⟩
  · cases rd; cases re; exact .inl ⟨rfl, by rw [dec_cs]; exact q⟩
  · cases rd; cases re; exact .inl ⟨rfl, by rw [dec_bl]; exact q⟩
  · exact .inr ⟨_, _, dp_of s 40 p1 rd, dp_of s 40 p2 re, shaped_of S p1, shaped_of S p2, by rw [← eqv_py S 40 _ _ p1 p2]; exact q⟩
theorem cos_ne : CoS X.K (fun x y H Q => rNe x y H Q ∨ rNeD X.K x y H Q) (fun a b S => notB (eqD S a b)) := by
  intro α H S d e x y b Q s rd re h q
  dsimp only at h
  cases h1 : eqD S d e with
  | none => rw [h1] at h; cases h
  | some c =>
    rw [h1] at h
    have hb : (!c) = b := Option.some.inj h
    subst hb
    rcases eq_fast h1 with ⟨i, j, rfl, rfl, rfl⟩ | ⟨i, j, rfl, rfl, rfl⟩ | ⟨i, j, rfl, rfl, rfl⟩ | ⟨p1, p2, rfl⟩
    · cases rd; cases re; exact .inl ⟨rfl, by rw [dec_int]; exact q⟩
    · cases rd; cases re; exact .inl ⟨rfl, by rw [dec_cs]; exact q⟩
    · cases rd; cases re; exact .inl ⟨rfl, by rw [dec_bl]; exact q⟩
    · exact .inr ⟨_, _, dp_of s 40 p1 rd, dp_of s 40 p2 re, shaped_of S p1, shaped_of S p2, by rw [← eqv_py S 40 _ _ p1 p2]; exact q⟩
theorem ltD_int {a b : D} {c : Bool} (h : ltD a b = some c) : ∃ i j, a = .int i ∧ b = .int j ∧ c = decide (i < j) := by
  unfold ltD at h
  split at h
  · exact ⟨_, _, rfl, rfl, (Option.some.inj h).symm⟩
  · cases h
theorem any_py {S : Sto} {a : D} {l : List D} (p1 : plain 40 S a = true) (p2 : l.all (plain 40 S) = true) : ((l.map (toPy 40 S)).any fun z => PyData.eqv z (toPy 40 S a)) = l.any fun b => eqv 40 S b a := by
  rw [List.any_map]
  induction l with
  | nil => rfl
  | cons b l ih =>
    simp only [List.all_cons, Bool.and_eq_true] at p2
    simp only [List.any_cons, Function.comp, ← eqv_py S 40 b a p2.1 p1]
    rw [← ih p2.2]
theorem flat_V {K : PySem.W.Frag} {α : List (Addr × Bool)} {H : Hp} {d : D} {v : V} (r : Rp K α H d v) (h : flat d = true) : flatV v = true := by
  cases r <;> first | rfl | cases h
theorem flatL_V {K : PySem.W.Frag} {α : List (Addr × Bool)} {H : Hp} : ∀ {l : List D} {vs : List V}, RpL K α H l vs → l.all flat = true → vs.all flatV = true
  | _, _, .nil, _ => rfl
  | _, _, .cons r t, h => by
    simp only [List.all_cons, Bool.and_eq_true] at h ⊢
    exact ⟨flat_V r h.1, flatL_V t h.2⟩
theorem eqV_flat {K : PySem.W.Frag} {α : List (Addr × Bool)} {H : Hp} {S : Sto} {d e : D} {v w : V} (r : Rp K α H d v) (t : Rp K α H e w) (h : flat d = true) (k : flat e = true) : eqV v w = eqv 40 S d e := by
  cases r <;> cases t <;> first | rfl | exact cs_beq _ _ | cases h | cases k
theorem inV_flat {K : PySem.W.Frag} {α : List (Addr × Bool)} {H : Hp} {S : Sto} {d : D} {v : V} (r : Rp K α H d v) (h : flat d = true) : ∀ {l : List D} {vs : List V}, RpL K α H l vs → l.all flat = true → inV v vs = l.any fun b => eqv 40 S b d
  | _, _, .nil, _ => rfl
  | _, _, .cons t ts, k => by
    simp only [List.all_cons, Bool.and_eq_true] at k
    have ih := inV_flat (S := S) r h ts k.2
    unfold inV at ih ⊢
    simp only [List.any_cons, eqV_flat (S := S) t r k.1 h, ih]
theorem cos_in : CoS X.K (fun x y H Q => (∃ (c : Nat) (z : PySem.Str), x = .str ⟨#[c]⟩ ∧ y = .str z ∧ Q (.bl (decide (c ∈ z.cps.toList))) H) ∨ (rIn X.K false x y H Q ∨ rInD X.K x y H Q)) (fun a b S => cIn S a b) := by
  intro α H S d e x y b Q s rd re h q
  simp only [cIn] at h
  split at h
  · cases rd; cases re; cases h
    exact .inl ⟨_, _, rfl, rfl, q⟩
  · cases re with
    | @tup l a vs hl rl =>
      split at h
      · rename_i c
        simp only [Bool.and_eq_true] at c
        unfold inD at h
        split at h
        · cases h
          refine .inr (.inl ⟨a, vs, rfl, .inr hl, flat_V rd c.1, flatL_V rl c.2, ?_⟩)
          simp only [Bool.false_eq_true, if_false, inV_flat (S := S) rd c.1 rl c.2]
          exact q
        · cases h
      · cases h
  · cases re with
    | @ref n a ma ha =>
      split at h
      · rename_i l e1
        unfold inD at h
        split at h
        · rename_i c
          simp only [Bool.and_eq_true] at c
          cases h
          obtain ⟨vs, h1, r1⟩ := s.rd e1 ha
          refine .inr (.inr ⟨_, _, dp_of s 40 c.1 rd, .lst h1 (dpAll_of s 40 c.2 r1), shaped_of S c.1, shapedL_of S c.2, ?_⟩)
          rw [any_py c.1 c.2]; exact q
        · cases h
      · cases h
  · cases h
theorem cos_notin : CoS X.K (fun x y H Q => (∃ (c : Nat) (z : PySem.Str), x = .str ⟨#[c]⟩ ∧ y = .str z ∧ Q (.bl (!decide (c ∈ z.cps.toList))) H) ∨ (rIn X.K true x y H Q ∨ rNotInD X.K x y H Q)) (fun a b S => notB (cIn S a b)) := by
  intro α H S d e x y b Q s rd re h q
  dsimp only at h
  cases h1 : cIn S d e with
  | none => rw [h1] at h; cases h
  | some c0 =>
    rw [h1] at h
    have hb : (!c0) = b := Option.some.inj h
    subst hb
    simp only [cIn] at h1
    split at h1
    · cases rd; cases re; cases h1
      exact .inl ⟨_, _, rfl, rfl, q⟩
    · cases re with
      | @tup l a vs hl rl =>
        split at h1
        · rename_i c
          simp only [Bool.and_eq_true] at c
          unfold inD at h1
          split at h1
          · cases h1
            refine .inr (.inl ⟨a, vs, rfl, .inr hl, flat_V rd c.1, flatL_V rl c.2, ?_⟩)
            simp only [if_true, inV_flat (S := S) rd c.1 rl c.2]
            exact q
          · cases h1
        · cases h1
    · cases re with
      | @ref n a ma ha =>
        split at h1
        · rename_i l e1
          unfold inD at h1
          split at h1
          · rename_i c
            simp only [Bool.and_eq_true] at c
            cases h1
            obtain ⟨vs, h1, r1⟩ := s.rd e1 ha
            refine .inr (.inr ⟨_, _, dp_of s 40 c.1 rd, .lst h1 (dpAll_of s 40 c.2 r1), shaped_of S c.1, shapedL_of S c.2, ?_⟩)
            rw [any_py c.1 c.2]; exact q
          · cases h1
        · cases h1
    · cases h1
theorem isN_V {K : PySem.W.Frag} {α : List (Addr × Bool)} {H : Hp} {d : D} {v : V} (r : Rp K α H d v) : decide (v = V.non) = decide (d = D.non) := by
  cases r <;> simp
theorem cos_is : CoS X.K (fun x y H Q => (y = .non ∧ Q (.bl (decide (x = .non))) H) ∨ (∃ a b, x = .bl a ∧ y = .bl b ∧ Q (.bl (decide (a = b))) H)) (fun a b _ => cIs a b) := by
  intro α H S d e x y b Q s rd re h q
  dsimp only at h
  unfold cIs at h
  split at h
  · cases re; cases h; exact .inl ⟨rfl, by rw [isN_V rd]; exact q⟩
  · cases rd; cases re; cases h; exact .inr ⟨_, _, rfl, rfl, q⟩
  · cases h
theorem cos_isnot : CoS X.K (fun x y H Q => (y = .non ∧ Q (.bl (!decide (x = .non))) H) ∨ (∃ a b, x = .bl a ∧ y = .bl b ∧ Q (.bl (!decide (a = b))) H)) (fun a b _ => notB (cIs a b)) := by
  intro α H S d e x y b Q s rd re h q
  dsimp only at h
  cases h1 : cIs d e with
  | none => rw [h1] at h; cases h
  | some c0 =>
    rw [h1] at h
    have hb : (!c0) = b := Option.some.inj h
    subst hb
    unfold cIs at h1
    split at h1
    · cases re; cases h1; exact .inl ⟨rfl, by rw [isN_V rd]; exact q⟩
    · cases rd; cases re; cases h1; exact .inr ⟨_, _, rfl, rfl, q⟩
    · cases h1
/-- each comparison has its rule -/
theorem op_cmp (hu : X.A.units + 65 < cLine) (o : COp) : ∃ r, OpR X (compareOp (cOf o)) r ∧ CoS X.K r (fun a b S => cmpO o a b S) := by
  have hu64 : X.A.units + 64 < cLine := by omega
  cases o with
  | eq => exact ⟨_, op_eq.or (op_eqD hu64), cos_eq⟩
  | ne => exact ⟨_, op_ne.or (op_neD hu64), cos_ne⟩
  | lt =>
    refine ⟨_, op_lt, fun α H S d e x y b Q s rd re h q => ?_⟩
    obtain ⟨i, j, rfl, rfl, rfl⟩ := ltD_int h
    cases rd; cases re
    exact ⟨_, _, rfl, rfl, q⟩
  | gt =>
    refine ⟨_, op_gt, fun α H S d e x y b Q s rd re h q => ?_⟩
    obtain ⟨i, j, rfl, rfl, rfl⟩ := ltD_int h
    cases rd; cases re
    exact ⟨_, _, rfl, rfl, q⟩
  | le =>
    refine ⟨_, op_le, fun α H S d e x y b Q s rd re h q => ?_⟩
    cases h1 : ltD e d with
    | none => simp only [cmpO, h1] at h; cases h
    | some c =>
      simp only [cmpO, h1] at h
      obtain ⟨i, j, rfl, rfl, rfl⟩ := ltD_int h1
      cases rd; cases re; cases h
      refine ⟨_, _, rfl, rfl, ?_⟩
      have : decide (j ≤ i) = !decide (i < j) := by by_cases c : i < j <;> simp [c] <;> omega
      show Q (V.bl (decide (j ≤ i))) H
      rw [this]; exact q
  | ge =>
    refine ⟨_, op_ge, fun α H S d e x y b Q s rd re h q => ?_⟩
    cases h1 : ltD d e with
    | none => simp only [cmpO, h1] at h; cases h
    | some c =>
      simp only [cmpO, h1] at h
      obtain ⟨i, j, rfl, rfl, rfl⟩ := ltD_int h1
      cases rd; cases re; cases h
      refine ⟨_, _, rfl, rfl, ?_⟩
      have : decide (j ≤ i) = !decide (i < j) := by by_cases c : i < j <;> simp [c] <;> omega
      show Q (V.bl (decide (j ≤ i))) H
      rw [this]; exact q
  | is_ => exact ⟨_, op_isN.or op_is_bl, cos_is⟩
  | isnot => exact ⟨_, op_notN.or op_isnot_bl, cos_isnot⟩
  | in_ => exact ⟨_, op_in_sign.or (op_in_seq.or (op_inD hu)), cos_in⟩
  | notin => exact ⟨_, op_notIn_sign.or (op_notIn_seq.or (op_notInD hu)), cos_notin⟩
end
end Eg

namespace Eg
open PySem PySem.Spec PyProof.Rows L2

section
variable {X : Cx} {CA : Nat → Addr}
/-! ### subscripts, slices -/
theorem atL_get {K : PySem.W.Frag} {α : List (Addr × Bool)} {H : Hp} {l : List D} {vs : List V} {i : Int} {d : D} (r : RpL K α H l vs) (h : atL l i = some d) : ∃ v, L2.atI vs i = some v ∧ Rp K α H d v := by
  unfold atL at h
  unfold L2.atI
  cases e : ixN l.length i with
  | none => rw [e] at h; cases h
  | some j =>
    rw [e] at h
    have e' : L2.ixN vs.length i = some j := by rw [← r.length]; exact e
    rw [e']
    exact r.get h
theorem ops_idx : OpS X.K CA (fun x y H Q => rIxL X.K x y H Q ∨ (rIxT X.K x y H Q ∨ rIxS x y H Q)) idxD := by
  intro α H S d e x y Q W s rd re h
  cases rd with
  | @tup l a vs hl rl =>
    cases re with
    | int i =>
      simp only [idxD] at h
      cases e1 : atL l i with
      | none => rw [e1] at h; exact h.elim
      | some d =>
        rw [e1] at h
        obtain ⟨v, h1, h2⟩ := atL_get rl e1
        exact .inr (.inl ⟨a, vs, i, v, rfl, rfl, hl, h1, h.ok s h2⟩)
    | _ => exact h.elim
  | str z =>
    cases re with
    | int i =>
      simp only [idxD] at h
      split at h
      · rename_i c
        cases e1 : atL z i with
        | none => rw [e1] at h; exact h.elim
        | some k =>
          rw [e1] at h
          exact .inr (.inr ⟨cs z, i, k, rfl, rfl, by rw [← line_eq]; exact c, e1, h.ok s (.str [k])⟩)
      · exact h.elim
    | _ => exact h.elim
  | @ref n a ma ha =>
    cases re with
    | int i =>
      simp only [idxD] at h
      split at h
      · rename_i l e0
        obtain ⟨vs, hl, rl⟩ := s.rd e0 ha
        cases e1 : atL l i with
        | none => rw [e1] at h; exact h.elim
        | some d =>
          rw [e1] at h
          obtain ⟨v, h1, h2⟩ := atL_get rl e1
          exact .inl ⟨a, vs, i, v, rfl, rfl, hl, h1, h.ok s h2⟩
      · exact h.elim
    | _ => exact h.elim
  | _ => cases re <;> exact h.elim
theorem cut_V {K : PySem.W.Frag} {α : List (Addr × Bool)} {H : Hp} {l : List D} {vs : List V} (r : RpL K α H l vs) (lo hi : Option Int) : RpL K α H (cut l lo hi) (cutV vs lo hi) := by
  unfold cut cutV
  rw [r.length]
  exact (r.drop _).take _
theorem cut_all {β : Type} (l : List β) (lo hi : Option Int) (h1 : HT.sIx l.length 0 lo = 0) (h2 : HT.sIx l.length l.length hi = l.length) : cut l lo hi = l := by
  have e1 : sIx l.length 0 lo = 0 := h1
  have e2 : sIx l.length l.length hi = l.length := h2
  unfold cut
  rw [e1, e2]; simp
theorem slc_str (z : List Nat) (lo hi : Option Int) : cutS (cs z) lo hi = cs (cut z lo hi) := rfl
def SlS (K : PySem.W.Frag) (CA : Nat → Addr) (r : V → Option Int → Option Int → Hp → VK → Prop) : Prop :=
  ∀ (α : List (Addr × Bool)) (H : Hp) (S : Sto) (d : D) (lo hi : Option Int) (x : V) (Q : VK) (W : XK), StR K α H S → Rp K α H d x → Post K CA (Rp K) α H (slcD d lo hi S) Q W → r x lo hi H Q
theorem op_slc : ∃ r, SlR X r ∧ SlS X.K CA r := by
  refine ⟨_, sl_tupA.or (sl_str.or sl_list), ?_⟩
  intro α H S d lo hi x Q W s rd h
  cases rd with
  | @tup l a vs hl rl =>
    simp only [slcD] at h
    refine .inl ⟨a, vs, rfl, hl, fun e => ?_, fun _ => h.newT s (cut_V rl lo hi)⟩
    rw [← rl.length] at e
    rw [cut_all l lo hi e.1 e.2] at h
    exact h.ok s (.tup hl rl)
  | str z =>
    simp only [slcD] at h
    split at h
    · rename_i c
      exact .inr (.inl ⟨cs z, rfl, by rw [← line_eq]; exact c, h.ok s (.str _)⟩)
    · exact h.elim
  | @ref n a ma ha =>
    simp only [slcD] at h
    split at h
    · rename_i l e0
      obtain ⟨vs, hl, rl⟩ := s.rd e0 ha
      exact .inr (.inr ⟨a, vs, rfl, hl, h.newL s (cut_V rl lo hi)⟩)
    · exact h.elim
  | _ => exact h.elim

/-! ### isinstance -/
def kdS : Kd → String
  | .non => "NoneType" | .int => "int" | .bool => "bool" | .str => "str" | .tuple => "tuple" | .list => "list" | .dict => "dict" | .exc _ => ""
def tyS : Ty → String
  | .int => "int" | .bool => "bool" | .str => "str" | .list => "list" | .tuple => "tuple" | .dict => "dict" | .cls _ => ""
def Ty.own : Ty → Bool
  | .cls _ => true
  | _ => false
def Kd.own : Kd → Bool
  | .exc _ => true
  | _ => false
theorem kit_all : ∀ k ∈ [Kd.non, .int, .bool, .str, .tuple, .list, .dict], ∀ t ∈ [Ty.int, .bool, .str, .list, .tuple, .dict], kitB (kdS k) (tyS t) = some (isK (fun _ _ => false) k t) := by decide +kernel
theorem kit_k {sub : Nat → Nat → Bool} {k : Kd} {t : Ty} (hk : k.own = false) (ht : t.own = false) : kitB (kdS k) (tyS t) = some (isK sub k t) := by
  have h : isK sub k t = isK (fun _ _ => false) k t := by cases k <;> cases t <;> first | rfl | cases hk | cases ht
  rw [h]
  refine kit_all k ?_ t ?_
  · cases k <;> simp <;> cases hk
  · cases t <;> simp <;> cases ht
theorem kitAny_k {sub : Nat → Nat → Bool} {K : PySem.W.Frag} {k : Kd} (hk : k.own = false) : ∀ {ts : List Ty}, ts.all (fun t => !t.own) = true → PySem.W.kitAny K (.type (kdS k)) (ts.map fun t => .type (tyS t)) = some (ts.any (isK sub k))
  | [], _ => rfl
  | t :: ts, h => by
    simp only [List.all_cons, Bool.and_eq_true, Bool.not_eq_true'] at h
    have ih := kitAny_k (sub := sub) (K := K) hk (ts := ts) (by simpa using h.2)
    refine kitAny_cons (kit_ty (kit_k (sub := sub) hk h.1)) (fun e => ?_) fun e => ?_
    · rw [List.any_cons, e, Bool.false_or]; exact ih
    · rw [List.any_cons, e, Bool.true_or]
theorem kind_ty {K : PySem.W.Frag} {α : List (Addr × Bool)} {H : Hp} {S : Sto} (s : StR K α H S) {d : D} {v : V} {k : Kd} (r : Rp K α H d v) (h : kind S d = some k) : k.own = false ∧ TyX K H v (.type (kdS k)) := by
  cases r with
  | non => cases h; exact ⟨rfl, .base .non⟩
  | bl b => cases h; exact ⟨rfl, .base (.bl b)⟩
  | int b => cases h; exact ⟨rfl, .base (.int b)⟩
  | str b => cases h; exact ⟨rfl, .base (.str _)⟩
  | @tup l a vs hl rl =>
    cases h
    refine ⟨rfl, ?_⟩
    rcases hl with (hl | ⟨o, hl⟩) | ⟨o, its, n, hl, hc, _⟩
    · exact .base (.tup hl)
    · exact .fTuple hl
    · exact .kTuple hl hc
  | @ref n a ma ha =>
    simp only [kind] at h
    split at h
    · rename_i l e
      cases h
      obtain ⟨_, vs, h1, _⟩ := s.at_ n a _ _ ha e
      exact ⟨rfl, .base (.lst h1)⟩
    · rename_i l e
      cases h
      obtain ⟨_, vs, h1, _⟩ := s.at_ n a _ _ ha e
      rcases h1 with ⟨o, h1⟩ | ⟨o, its, m, h1, hc, _⟩
      · exact ⟨rfl, .base (.frz h1)⟩
      · exact ⟨rfl, .kList h1 hc⟩
    · rename_i l e
      cases h
      obtain ⟨_, kvs, h1, _⟩ := s.at_ n a _ _ ha e
      exact ⟨rfl, .base (.dK h1)⟩
    · rename_i c fs e
      exact (s.at_ n a _ _ ha e).elim
    · cases h

/-! ### built-ins -/
theorem ints_V {K : PySem.W.Frag} {α : List (Addr × Bool)} {H : Hp} : ∀ {l : List D} {vs : List V} {ns : List Int}, RpL K α H l vs → intsOf l = some ns → vs = ns.map V.int
  | _, _, _, .nil, h => by cases h; rfl
  | d :: l, _, ns, .cons r t, h => by
    cases r with
    | int i =>
      simp only [intsOf] at h
      cases e : intsOf l with
      | none => rw [e] at h; cases h
      | some ms =>
        rw [e] at h
        cases h
        rw [ints_V t e]; rfl
    | _ => simp [intsOf] at h
theorem bls_V {K : PySem.W.Frag} {α : List (Addr × Bool)} {H : Hp} : ∀ {l : List D} {vs : List V} {ns : List Bool}, RpL K α H l vs → blsOf l = some ns → vs = ns.map V.bl
  | _, _, _, .nil, h => by cases h; rfl
  | d :: l, _, ns, .cons r t, h => by
    cases r with
    | bl i =>
      simp only [blsOf] at h
      cases e : blsOf l with
      | none => rw [e] at h; cases h
      | some ms =>
        rw [e] at h
        cases h
        rw [bls_V t e]; rfl
    | _ => simp [blsOf] at h
/-- a rule of a built-in serves the engine's one -/
def BiS (K : PySem.W.Frag) (CA : Nat → Addr) (r : List V → Hp → VK → Prop) (f : List D → Sto → R D) : Prop :=
  ∀ (α : List (Addr × Bool)) (H : Hp) (S : Sto) (ds : List D) (xs : List V) (Q : VK) (W : XK), StR K α H S → RpL K α H ds xs → Post K CA (Rp K) α H (f ds S) Q W → r xs H Q
/-- .. of a list just made, at hand by its items -/
def BlS (K : PySem.W.Frag) (CA : Nat → Addr) (r : List V → Hp → VK → Prop) (f : List D → Sto → R D) : Prop :=
  ∀ (α : List (Addr × Bool)) (H : Hp) (S : Sto) (l : List D) (a : Addr) (vs : List V) (Q : VK) (W : XK), StR K α H S → SqL K H a vs → RpL K α H l vs → Post K CA (Rp K) α H (f l S) Q W → r [.ref a] H Q
def bltOf : Bi → Value
  | .len => .builtin "len" | .abs => .builtin "abs" | .max => .builtin "max" | .min => .builtin "min" | .sum => .builtin "sum" | .int => .type "int" | .str => .type "str" | .list => .type "list" | .tuple => .type "tuple"
  | .all => .builtin "all" | .any => .builtin "any" | .sorted => .builtin "sorted"
theorem CallR.or {f : Value} {r r' : List V → Hp → VK → Prop} (h : CallR X f r) (h' : CallR X f r') : CallR X f (fun xs H Q => r xs H Q ∨ r' xs H Q) := by
  intro pins s σ H xs us Q I rs q
  rcases q with q | q
  · exact h pins s σ H xs us Q I rs q
  · exact h' pins s σ H xs us Q I rs q
theorem CallR.never {f : Value} : CallR X f (fun _ _ _ => False) := fun _ _ _ _ _ _ _ _ _ q => q.elim
/-- one argument -/
theorem one_arg {K : PySem.W.Frag} {α : List (Addr × Bool)} {H : Hp} {d : D} {xs : List V} (r : RpL K α H [d] xs) : ∃ v, xs = [v] ∧ Rp K α H d v := by
  cases r with
  | cons r t => cases t; exact ⟨_, rfl, r⟩
theorem two_args {K : PySem.W.Frag} {α : List (Addr × Bool)} {H : Hp} {d e : D} {xs : List V} (r : RpL K α H [d, e] xs) : ∃ v w, xs = [v, w] ∧ Rp K α H d v ∧ Rp K α H e w := by
  cases r with
  | cons r t =>
    obtain ⟨w, rfl, r2⟩ := one_arg t
    exact ⟨_, w, rfl, r, r2⟩
/-- what a built-in's rule must serve -/
def BiOk (X : Cx) (CA : Nat → Addr) (b : Bi) : Prop := ∃ r, CallR X (bltOf b) r ∧ BiS X.K CA r (biD b) ∧ BlS X.K CA r (bil b)
theorem len_ok : BiOk X CA .len := by
  refine ⟨_, call_len.or call_lenD, ?_, ?_⟩
  · intro α H S ds xs Q W s r h
    simp only [biD] at h
    unfold bLen at h
    split at h
    · obtain ⟨v, rfl, r1⟩ := one_arg r
      cases r1
      split at h
      · rename_i z _ c
        exact .inl ⟨_, _, rfl, ⟨by rw [← line_eq]; exact c, rfl⟩, h.ok s (.int _)⟩
      · exact h.elim
    · obtain ⟨v, rfl, r1⟩ := one_arg r
      cases r1 with
      | tup hl rl => exact .inl ⟨_, _, rfl, .inr ⟨_, hl, rl.length⟩, h.ok s (.int _)⟩
    · obtain ⟨v, rfl, r1⟩ := one_arg r
      cases r1 with
      | ref ha =>
        split at h
        · rename_i l e
          obtain ⟨_, vs, h1, r1⟩ := s.at_ _ _ _ _ ha e
          exact .inl ⟨_, l.length, rfl, .inl ⟨_, SqL.of h1, r1.length⟩, h.ok s (.int _)⟩
        · rename_i l e
          obtain ⟨vs, h1, r1⟩ := s.rd (l := l) (by unfold lstOf; rw [e]) ha
          exact .inl ⟨_, l.length, rfl, .inl ⟨_, h1, r1.length⟩, h.ok s (.int _)⟩
        · rename_i kv e
          obtain ⟨_, kvs, h1, r1⟩ := s.at_ _ _ _ _ ha e
          refine .inr ⟨_, kvs, rfl, h1, ?_⟩
          have := Paired.length r1
          rw [← this]; exact h.ok s (.int _)
        · exact h.elim
    · exact h.elim
  · intro α H S l a vs Q W s hl rl h
    exact .inl ⟨_, l.length, rfl, .inl ⟨vs, hl, rl.length⟩, h.ok s (.int _)⟩
theorem abs_ok : BiOk X CA .abs := by
  refine ⟨_, call_abs, ?_, fun α H S l a vs Q W s hl rl h => h.elim⟩
  intro α H S ds xs Q W s r h
  simp only [biD] at h
  unfold bAbs at h
  split at h
  · obtain ⟨v, rfl, r1⟩ := one_arg r
    cases r1
    exact ⟨_, rfl, h.ok s (.int _)⟩
  · exact h.elim
theorem max_ok (hc : X.calm = true) : BiOk X CA .max := by
  refine ⟨_, call_max2 hc, ?_, fun α H S l a vs Q W s hl rl h => h.elim⟩
  intro α H S ds xs Q W s r h
  simp only [biD] at h
  unfold bMax at h
  split at h
  · obtain ⟨v, w, rfl, r1, r2⟩ := two_args r
    cases r1; cases r2
    exact ⟨_, _, rfl, h.ok s (.int _)⟩
  · exact h.elim
theorem min_ok (hc : X.calm = true) : BiOk X CA .min := by
  refine ⟨_, call_min2 hc, ?_, fun α H S l a vs Q W s hl rl h => h.elim⟩
  intro α H S ds xs Q W s r h
  simp only [biD] at h
  unfold bMin at h
  split at h
  · obtain ⟨v, w, rfl, r1, r2⟩ := two_args r
    cases r1; cases r2
    exact ⟨_, _, rfl, h.ok s (.int _)⟩
  · exact h.elim
theorem never_ok (b : Bi) (h1 : ∀ ds S, biD b ds S = .no) (h2 : ∀ ds S, bil b ds S = .no) : BiOk X CA b :=
  ⟨_, CallR.never, fun α H S ds xs Q W s r h => by rw [h1] at h; exact h, fun α H S l a vs Q W s hl rl h => by rw [h2] at h; exact h⟩
theorem list_ok : BiOk X CA .list := by
  refine ⟨_, call_list_of, ?_, ?_⟩
  · intro α H S ds xs Q W s r h
    simp only [biD] at h
    unfold bOfT at h
    split at h
    · obtain ⟨v, rfl, r1⟩ := one_arg r
      cases r1 with
      | tup hl rl => exact ⟨_, _, rfl, .inr hl, h.newL s rl⟩
    · obtain ⟨v, rfl, r1⟩ := one_arg r
      cases r1 with
      | ref ha =>
        split at h
        · rename_i l e
          obtain ⟨vs, h1, r1⟩ := s.rd e ha
          exact ⟨_, _, rfl, .inl h1, h.newL s r1⟩
        · exact h.elim
    · exact h.elim
  · intro α H S l a vs Q W s hl rl h
    exact ⟨_, _, rfl, .inl hl, h.newL s rl⟩
theorem tuple_ok : BiOk X CA .tuple := by
  refine ⟨_, call_tuple_of, ?_, ?_⟩
  · intro α H S ds xs Q W s r h
    simp only [biD] at h
    unfold bOfT at h
    split at h
    · obtain ⟨v, rfl, r1⟩ := one_arg r
      cases r1 with
      | tup hl rl => exact ⟨_, _, rfl, .inr ⟨hl, h.ok s (.tup hl rl)⟩⟩
    · obtain ⟨v, rfl, r1⟩ := one_arg r
      cases r1 with
      | ref ha =>
        split at h
        · rename_i l e
          obtain ⟨vs, h1, r1⟩ := s.rd e ha
          exact ⟨_, _, rfl, .inl ⟨h1, h.newT s r1⟩⟩
        · exact h.elim
    · exact h.elim
  · intro α H S l a vs Q W s hl rl h
    exact ⟨_, _, rfl, .inl ⟨hl, h.newT s rl⟩⟩
/-- a rule over lists alone -/
theorem of_list {b : Bi} {r : List V → Hp → VK → Prop} (hb : biD b = bOf b) (hl : BlS X.K CA r (bil b)) : BiS X.K CA r (biD b) := by
  intro α H S ds xs Q W s r h
  rw [hb] at h
  unfold bOf at h
  split at h
  · obtain ⟨v, rfl, r1⟩ := one_arg r
    cases r1 with
    | ref ha =>
      split at h
      · rename_i l e
        obtain ⟨vs, h1, r1⟩ := s.rd e ha
        exact hl α H S _ _ _ Q W s h1 r1 h
      · exact h.elim
  · exact h.elim
theorem sum_ok (hc : X.calm = true) : BiOk X CA .sum := by
  have hl : BlS X.K CA (rSum X.K) (bil .sum) := by
    intro α H S l a vs Q W s hl rl h
    simp only [bil] at h
    split at h
    · rename_i ns e
      have := ints_V rl e
      subst this
      exact ⟨a, ns, rfl, hl, h.ok s (.int _)⟩
    · exact h.elim
  exact ⟨_, cr_sum hc, of_list rfl hl, hl⟩
theorem all_ok (hc : X.calm = true) : BiOk X CA .all := by
  have hl : BlS X.K CA (rAll X.K) (bil .all) := by
    intro α H S l a vs Q W s hl rl h
    simp only [bil] at h
    split at h
    · rename_i ns e
      have := bls_V rl e
      subst this
      exact ⟨a, ns, rfl, hl, h.ok s (.bl _)⟩
    · exact h.elim
  exact ⟨_, cr_all hc, of_list rfl hl, hl⟩
theorem any_ok (hc : X.calm = true) : BiOk X CA .any := by
  have hl : BlS X.K CA (rAny X.K) (bil .any) := by
    intro α H S l a vs Q W s hl rl h
    simp only [bil] at h
    split at h
    · rename_i ns e
      have := bls_V rl e
      subst this
      exact ⟨a, ns, rfl, hl, h.ok s (.bl _)⟩
    · exact h.elim
  exact ⟨_, cr_any hc, of_list rfl hl, hl⟩
theorem toStr_cs (i : Int) : (PySem.Str.ofString (toString i)) = cs (txtInt i) := by
  rw [PySem.Str.ofString_eq_toList]; rfl
theorem str_ok : BiOk X CA .str := by
  refine ⟨_, call_str_int, ?_, fun α H S l a vs Q W s hl rl h => h.elim⟩
  intro α H S ds xs Q W s r h
  simp only [biD] at h
  unfold bStr at h
  split at h
  · obtain ⟨v, rfl, r1⟩ := one_arg r
    cases r1
    split at h
    · rename_i i _ c
      refine ⟨_, rfl, c, ?_⟩
      have := h.ok s (.str _)
      rw [← toStr_cs] at this
      exact this
    · exact h.elim
  · exact h.elim
theorem int_ok : BiOk X CA .int := by
  refine ⟨_, call_int1, ?_, fun α H S l a vs Q W s hl rl h => h.elim⟩
  intro α H S ds xs Q W s r h
  simp only [biD] at h
  unfold bInt at h
  split at h
  · obtain ⟨v, rfl, r1⟩ := one_arg r
    cases r1
    exact .inl ⟨_, rfl, h.ok s (.int _)⟩
  · obtain ⟨v, rfl, r1⟩ := one_arg r
    cases r1
    exact .inr ⟨_, rfl, h.ok s (.int _)⟩
  · exact h.elim
theorem bi_ok (hc : X.calm = true) (b : Bi) : BiOk X CA b := by
  cases b with
  | len => exact len_ok
  | abs => exact abs_ok
  | max => exact max_ok hc
  | min => exact min_ok hc
  | sum => exact sum_ok hc
  | int => exact int_ok
  | str => exact str_ok
  | list => exact list_ok
  | tuple => exact tuple_ok
  | all => exact all_ok hc
  | any => exact any_ok hc
  | sorted =>
    refine never_ok .sorted (fun ds S => ?_) fun _ _ => rfl
    simp only [biD]
    unfold bOf
    split
    · split <;> rfl
    · rfl
end
end Eg

namespace Eg
open PySem PySem.Spec PyProof.Rows L2

abbrev rEqv {β : Type} : List (Addr × Bool) → Hp → β → β → Prop := fun _ _ a b => a = b
/-- the wish about exceptions, at the slots -/
abbrev wAt (W : WX) (σ : SL) : XK := fun c d H => W c d σ H
/-- an expression's rule serves the engine's evaluation -/
def SE (CA : Nat → Addr) (X : Cx) (W : WX) (pe : Expr) (f : Env → Sto → R D) : Prop :=
  ∃ t : TE, PE X pe t ∧ ∀ (ρ : Env) (S : Sto) (σ : SL) (H : Hp) (α : List (Addr × Bool)) (Q : VK), EnvR X.K α H ρ σ → StR X.K α H S → Post X.K CA (Rp X.K) α H (f ρ S) Q (wAt W σ) → t σ H Q
def STe (CA : Nat → Addr) (X : Cx) (W : WX) (pe : Expr) (f : Env → Sto → R Bool) : Prop :=
  ∃ t : TT, PT X pe t ∧ ∀ (ρ : Env) (S : Sto) (σ : SL) (H : Hp) (α : List (Addr × Bool)) (Q : Bool → Hp → Prop), EnvR X.K α H ρ σ → StR X.K α H S → Post X.K CA rEqv α H (f ρ S) Q (wAt W σ) → t σ H Q
def SA (CA : Nat → Addr) (X : Cx) (W : WX) (pes : List Expr) (f : Env → Sto → R (List D)) : Prop :=
  ∃ t : TA, PA X pes t ∧ ∀ (ρ : Env) (S : Sto) (σ : SL) (H : Hp) (α : List (Addr × Bool)) (Q : List V → Hp → Prop), EnvR X.K α H ρ σ → StR X.K α H S → Post X.K CA (RpL X.K) α H (f ρ S) Q (wAt W σ) → t σ H Q
section
variable {X : Cx} {CA : Nat → Addr} {W : WX} {pos : Pos}
theorem se_no {pe : Expr} {f : Env → Sto → R D} (h : ∀ ρ S, f ρ S = .no) : SE CA X W pe f :=
  ⟨fun _ _ _ => False, ⟨fun _ _ _ _ _ _ h => h.elim⟩, fun ρ S σ H α Q _ _ p => by rw [h] at p; exact p⟩
theorem se_int {i : Int} {k : Nat} : SE CA X W (.Constant (.int i) k pos) (fun _ S => .ok (.int i) S) := ⟨_, pe_int, fun ρ S σ H α Q he hs p => p.ok hs (.int i)⟩
theorem se_bl {b : Bool} {k : Nat} : SE CA X W (.Constant (.bool b) k pos) (fun _ S => .ok (.bl b) S) := ⟨_, pe_bl, fun ρ S σ H α Q he hs p => p.ok hs (.bl b)⟩
theorem se_non {k : Nat} : SE CA X W (.Constant .none k pos) (fun _ S => .ok .non S) := ⟨_, pe_non, fun ρ S σ H α Q he hs p => p.ok hs .non⟩
theorem se_str {s : List Nat} {k : Nat} : SE CA X W (.Constant (.str (cs s)) k pos) (fun _ S => .ok (.str s) S) := ⟨_, pe_str, fun ρ S σ H α Q he hs p => p.ok hs (.str s)⟩
theorem se_var {i : Nat} {x : PySem.Str} (hN : X.N[i]? = some x) (hv : Vis X.env.scope x) (hd : (x == ("__debug__" : PySem.Str)) = false) (hc : (x == ("__classdict__" : PySem.Str)) = false) :
    SE CA X W (.Name x pos) (fun ρ S => match ρ[i]? with | some (some d) => .ok d S | _ => .no) := by
  refine ⟨_, pe_var hN hv hd hc, fun ρ S σ H α Q he hs p => ?_⟩
  dsimp only at p
  split at p
  · rename_i d e
    obtain ⟨v, h1, h2⟩ := he.get i d e
    exact ⟨v, h1, p.ok hs h2⟩
  · exact p.elim
theorem se_con {x : PySem.Str} {d : D} {u : Value} {v : V} (hg : Gl X x) (hm : X.mg x = some u) (r : RelV v u) (hr : ∀ α H, Rp X.K α H d v) (hd : (x == ("__debug__" : PySem.Str)) = false) : SE CA X W (.Name x pos) (fun _ S => .ok d S) :=
  ⟨_, pe_glob hg hm r hd, fun ρ S σ H α Q he hs p => p.ok hs (hr α H)⟩

variable {a b c : Expr} {fa fb fc : Env → Sto → R D}
/-- two parts, one after the other -/
theorem two_parts {β γ : Type} {rel : List (Addr × Bool) → Hp → β → γ → Prop} {ta tb : TE} {f g : Env → Sto → R D} {k : D → D → Sto → R β} {Q : γ → Hp → Prop} {ρ : Env} {S : Sto} {σ : SL} {H : Hp} {α : List (Addr × Bool)} {P : V → V → Hp → Prop}
    (ha : ∀ (ρ : Env) (S : Sto) (σ : SL) (H : Hp) (α : List (Addr × Bool)) (Q : VK), EnvR X.K α H ρ σ → StR X.K α H S → Post X.K CA (Rp X.K) α H (f ρ S) Q (wAt W σ) → ta σ H Q)
    (hb : ∀ (ρ : Env) (S : Sto) (σ : SL) (H : Hp) (α : List (Addr × Bool)) (Q : VK), EnvR X.K α H ρ σ → StR X.K α H S → Post X.K CA (Rp X.K) α H (g ρ S) Q (wAt W σ) → tb σ H Q)
    (he : EnvR X.K α H ρ σ) (hs : StR X.K α H S) (p : Post X.K CA rel α H ((f ρ S).bind fun x S1 => (g ρ S1).bind fun y S2 => k x y S2) Q (wAt W σ))
    (hk : ∀ α2 H2 S2 d e x y, EnvR X.K α2 H2 ρ σ → StR X.K α2 H2 S2 → Rp X.K α2 H2 d x → Rp X.K α2 H2 e y → Post X.K CA rel α2 H2 (k d e S2) Q (wAt W σ) → P x y H2) :
    ta σ H fun x H1 => tb σ H1 fun y H2 => P x y H2 := by
  refine ha _ _ _ _ _ _ he hs (p.bind.imp fun x H1 ⟨α1, S1, d, e1, s1, r1, p1⟩ => ?_)
  refine hb _ _ _ _ _ _ (he.ext e1) s1 (p1.bind.imp fun y H2 ⟨α2, S2, e, e2, s2, r2, p2⟩ => ?_)
  exact hk α2 H2 S2 d e x y ((he.ext e1).ext e2) s2 (r1.ext e2) r2 p2
theorem se_bin {o : BOp} (ha : SE CA X W a fa) (hb : SE CA X W b fb) : SE CA X W (.BinOp a (opOf o) b pos) (fun ρ S => (fa ρ S).bind fun x S1 => (fb ρ S1).bind fun y S2 => binD o x y S2) := by
  obtain ⟨ta, pa, ha⟩ := ha
  obtain ⟨tb, pb, hb⟩ := hb
  obtain ⟨r, hr, hq⟩ := op_bin (X := X) (CA := CA) o
  exact ⟨_, pe_op hr pa pb, fun ρ S σ H α Q he hs p => two_parts ha hb he hs p fun α2 H2 S2 d e x y _ s2 r1 r2 p2 => hq α2 H2 S2 d e x y Q _ s2 r1 r2 p2⟩
theorem se_neg (ha : SE CA X W a fa) : SE CA X W (.UnaryOp .USub a pos) (fun ρ S => (fa ρ S).bind fun x S1 => match x with | .int i => .ok (.int (-i)) S1 | _ => .no) := by
  obtain ⟨ta, pa, ha⟩ := ha
  refine ⟨_, pe_un un_neg pa, fun ρ S σ H α Q he hs p => ?_⟩
  refine ha _ _ _ _ _ _ he hs (p.bind.imp fun x H1 ⟨α1, S1, d, e1, s1, r1, p1⟩ => ?_)
  cases r1 <;> first | exact ⟨_, rfl, p1.ok s1 (.int _)⟩ | exact p1.elim
theorem se_cmp {o : COp} (hu : X.A.units + 65 < cLine) (hm : behindInMarks (cOf o) b = false) (ha : SE CA X W a fa) (hb : SE CA X W b fb) :
    SE CA X W (.Compare a [cOf o] [b] pos) (fun ρ S => (fa ρ S).bind fun x S1 => (fb ρ S1).bind fun y S2 => ofB S2 (cmpO o x y S2)) ∧
    STe CA X W (.Compare a [cOf o] [b] pos) (fun ρ S => tru ((fa ρ S).bind fun x S1 => (fb ρ S1).bind fun y S2 => ofB S2 (cmpO o x y S2))) := by
  obtain ⟨ta, pa, ha⟩ := ha
  obtain ⟨tb, pb, hb⟩ := hb
  obtain ⟨r, hr, hq⟩ := op_cmp (X := X) hu o
  refine ⟨⟨_, pe_cmpR hr pa pb hm, fun ρ S σ H α Q he hs p => two_parts ha hb he hs p fun α2 H2 S2 d e x y _ s2 r1 r2 p2 => ?_⟩, ⟨_, pt_cmpR hr pa pb hm, fun ρ S σ H α Q he hs p => ?_⟩⟩
  · cases h : cmpO o d e S2 with
    | none => rw [h] at p2; exact p2.elim
    | some k =>
      rw [h] at p2
      exact hq α2 H2 S2 d e x y k Q s2 r1 r2 h (p2.ok s2 (.bl k))
  · unfold tru at p
    simp only [R.bind_assoc] at p
    refine two_parts ha hb he hs p fun α2 H2 S2 d e x y _ s2 r1 r2 p2 => ?_
    cases h : cmpO o d e S2 with
    | none => rw [h] at p2; exact p2.elim
    | some k =>
      rw [h] at p2
      exact hq α2 H2 S2 d e x y k _ s2 r1 r2 h ⟨k, rfl, p2.ok s2 rfl⟩
theorem se_cmp2 {o q : COp} (hu : X.A.units + 65 < cLine) (hm : lastMarks [cOf o, cOf q] [b, c] = false) (ha : SE CA X W a fa) (hb : SE CA X W b fb) (hc : SE CA X W c fc) :
    SE CA X W (.Compare a [cOf o, cOf q] [b, c] pos) (fun ρ S => (fa ρ S).bind fun x S1 => (fb ρ S1).bind fun y S2 => match cmpO o x y S2 with
      | some true => (fc ρ S2).bind fun z S3 => ofB S3 (cmpO q y z S3)
      | some false => .ok (.bl false) S2
      | none => .no) ∧
    STe CA X W (.Compare a [cOf o, cOf q] [b, c] pos) (fun ρ S => tru ((fa ρ S).bind fun x S1 => (fb ρ S1).bind fun y S2 => match cmpO o x y S2 with
      | some true => (fc ρ S2).bind fun z S3 => ofB S3 (cmpO q y z S3)
      | some false => .ok (.bl false) S2
      | none => .no)) := by
  obtain ⟨ta, pa, ha⟩ := ha
  obtain ⟨tb, pb, hb⟩ := hb
  obtain ⟨tc, pc, hc⟩ := hc
  obtain ⟨r, hr, hq⟩ := op_cmp (X := X) hu o
  obtain ⟨r', hr', hq'⟩ := op_cmp (X := X) hu q
  refine ⟨⟨_, pe_chain hr hr' pa pb pc (hm := hm), fun ρ S σ H α Q he hs p => two_parts ha hb he hs p fun α2 H2 S2 d e x y he2 s2 r1 r2 p2 => ?_⟩, ⟨_, pt_chain hr hr' pa pb pc (hm := hm), fun ρ S σ H α Q he hs p => ?_⟩⟩
  · cases h : cmpO o d e S2 with
    | none => rw [h] at p2; exact p2.elim
    | some k =>
      rw [h] at p2
      refine hq α2 H2 S2 d e x y k _ s2 r1 r2 h ⟨k, rfl, ?_⟩
      cases k with
      | false => rw [if_neg Bool.false_ne_true]; exact p2.ok s2 (.bl false)
      | true =>
        rw [if_pos rfl]
        refine hc _ _ _ _ _ _ he2 s2 (p2.bind.imp fun z H3 ⟨α3, S3, g, e3, s3, r3, p3⟩ => ?_)
        cases h' : cmpO q e g S3 with
        | none => rw [h'] at p3; exact p3.elim
        | some k =>
          rw [h'] at p3
          exact hq' α3 H3 S3 e g y z k Q s3 (r2.ext e3) r3 h' (p3.ok s3 (.bl k))
  · unfold tru at p
    simp only [R.bind_assoc] at p
    refine two_parts ha hb he hs p fun α2 H2 S2 d e x y he2 s2 r1 r2 p2 => ?_
    cases h : cmpO o d e S2 with
    | none => rw [h] at p2; exact p2.elim
    | some k =>
      rw [h] at p2
      refine hq α2 H2 S2 d e x y k _ s2 r1 r2 h ⟨k, rfl, ?_⟩
      cases k with
      | false => rw [if_neg Bool.false_ne_true]; exact ⟨false, rfl, p2.ok s2 rfl⟩
      | true =>
        rw [if_pos rfl]
        dsimp only at p2
        rw [R.bind_assoc] at p2
        refine hc _ _ _ _ _ _ he2 s2 (p2.bind.imp fun z H3 ⟨α3, S3, g, e3, s3, r3, p3⟩ => ?_)
        cases h' : cmpO q e g S3 with
        | none => rw [h'] at p3; exact p3.elim
        | some k =>
          rw [h'] at p3
          exact hq' α3 H3 S3 e g y z k _ s3 (r2.ext e3) r3 h' ⟨k, rfl, p3.ok s3 rfl⟩

/-! ### truth -/
theorem tru_V {K : PySem.W.Frag} {α : List (Addr × Bool)} {H : Hp} {S : Sto} {d : D} {v : V} {k : Bool} (s : StR K α H S) (r : Rp K α H d v) (h : truD S d = some k) : TruV K v H k := by
  cases r with
  | non => cases h; rfl
  | bl b => cases h; rfl
  | int i =>
    cases h
    show decide (i ≠ 0) = (i != 0)
    by_cases e : i = 0 <;> simp [e]
  | str z =>
    simp only [truD] at h
    split at h
    · rename_i c
      cases h
      refine ⟨by rw [← line_eq]; exact c, ?_⟩
      show (!z.isEmpty) = ((z.length : Int) != 0)
      cases z with
      | nil => rfl
      | cons x z => simp; omega
    · cases h
  | @tup l a vs hl rl =>
    cases h
    refine .inr (.inl ⟨vs, hl, ?_⟩)
    cases rl <;> rfl
  | @ref n a m ha =>
    simp only [truD] at h
    split at h
    · rename_i l e
      cases h
      obtain ⟨_, vs, h1, r1⟩ := s.at_ n a _ _ ha e
      refine .inl ⟨vs, SqL.of h1, ?_⟩
      cases r1 <;> rfl
    · rename_i l e
      cases h
      obtain ⟨vs, h1, r1⟩ := s.rd (l := l) (by unfold lstOf; rw [e]) ha
      refine .inl ⟨vs, h1, ?_⟩
      cases r1 <;> rfl
    · rename_i kv e
      cases h
      obtain ⟨_, kvs, h1, r1⟩ := s.at_ n a _ _ ha e
      refine .inr (.inr ⟨kvs, h1, ?_⟩)
      cases r1 <;> rfl
    · cases h
/-- any expression as a test -/
theorem ste_of (ht : ∀ whole, isTrue a X.env whole = (do let v ← whole; standAt a.pos; holding [v] (truthy v))) (ha : SE CA X W a fa) : STe CA X W a (fun ρ S => tru (fa ρ S)) := by
  obtain ⟨ta, pa, ha⟩ := ha
  refine ⟨_, pt_truth pa ht, fun ρ S σ H α Q he hs p => ?_⟩
  unfold tru at p
  refine ha _ _ _ _ _ _ he hs (p.bind.imp fun x H1 ⟨α1, S1, d, e1, s1, r1, p1⟩ => ?_)
  cases h : truD S1 d with
  | none => rw [h] at p1; exact p1.elim
  | some k =>
    rw [h] at p1
    exact ⟨k, tru_V s1 r1 h, p1.ok s1 rfl⟩
theorem se_not (ha : SE CA X W a fa) : SE CA X W (.UnaryOp .Not a pos) (fun ρ S => (fa ρ S).bind fun x S1 => ofB S1 (notB (truD S1 x))) := by
  obtain ⟨ta, pa, ha⟩ := ha
  refine ⟨_, pe_notT pa, fun ρ S σ H α Q he hs p => ?_⟩
  refine ha _ _ _ _ _ _ he hs (p.bind.imp fun x H1 ⟨α1, S1, d, e1, s1, r1, p1⟩ => ?_)
  cases h : truD S1 d with
  | none => rw [h] at p1; exact p1.elim
  | some k =>
    rw [h] at p1
    exact ⟨k, tru_V s1 r1 h, p1.ok s1 (.bl _)⟩
theorem ste_not (ha : STe CA X W a (fun ρ S => tru (fa ρ S))) : STe CA X W (.UnaryOp .Not a pos) (fun ρ S => tru ((fa ρ S).bind fun x S1 => ofB S1 (notB (truD S1 x)))) := by
  obtain ⟨ta, pa, ha⟩ := ha
  refine ⟨_, pt_not pa, fun ρ S σ H α Q he hs p => ?_⟩
  refine ha ρ S _ _ α _ he hs ?_
  unfold tru at p ⊢
  dsimp only at p ⊢
  cases h : fa ρ S with
  | no => rw [h] at p; exact p
  | ex x S1 => rw [h] at p; exact p
  | ok d S1 =>
    rw [h] at p
    simp only [R.bind_ok] at p ⊢
    cases h2 : truD S1 d with
    | none => rw [h2] at p; exact p
    | some k =>
      rw [h2] at p
      exact fun α' H' v e s r => p α' H' (!v) e s (by rw [show k = v from r])
end
end Eg

namespace Eg
open PySem PySem.Spec PyProof.Rows L2
section
variable {X : Cx} {CA : Nat → Addr} {W : WX} {pos : Pos} {a b c : Expr} {fa fb fc : Env → Sto → R D} {es rest : List Expr} {fs : Env → Sto → R (List D)}
/-! ### and, or, if else -/
def SWe (CA : Nat → Addr) (X : Cx) (W : WX) (pe : Expr) (f : Env → Sto → R Bool) : Prop :=
  ∃ t : TT, PW X pe t ∧ ∀ (ρ : Env) (S : Sto) (σ : SL) (H : Hp) (α : List (Addr × Bool)) (Q : Bool → Hp → Prop), EnvR X.K α H ρ σ → StR X.K α H S → Post X.K CA rEqv α H (f ρ S) Q (wAt W σ) → t σ H Q
theorem SWe.st {pe : Expr} {f : Env → Sto → R Bool} (h : SWe CA X W pe f) : STe CA X W pe f := let ⟨t, p, q⟩ := h; ⟨t, p.pt, q⟩
theorem SWe.of {op : BoolOp} {vs : List Expr} {f : Env → Sto → R Bool} (h : STe CA X W (.BoolOp op vs pos) f) : SWe CA X W (.BoolOp op vs pos) f := by
  obtain ⟨t, p, q⟩ := h
  exact ⟨t, ⟨fun wh pins s σ H Q I hq => p.run pins s σ H Q I hq⟩, q⟩
theorem SE.one {op : BoolOp} (h : SE CA X W a fa) : SE CA X W (.BoolOp op [a] pos) fa := let ⟨t, p, q⟩ := h; ⟨t, pe_one p, q⟩
theorem SWe.one {op : BoolOp} {f : Env → Sto → R Bool} (h : STe CA X W a f) : SWe CA X W (.BoolOp op [a] pos) f := by
  obtain ⟨t, p, q⟩ := h
  cases op
  · exact ⟨t, pw_and1 p, q⟩
  · exact ⟨t, pw_or1 p, q⟩
def andF (fa fb : Env → Sto → R D) : Env → Sto → R D := fun ρ S => (fa ρ S).bind fun x S1 => match truD S1 x with
  | some true => fb ρ S1
  | some false => .ok x S1
  | none => .no
def orF (fa fb : Env → Sto → R D) : Env → Sto → R D := fun ρ S => (fa ρ S).bind fun x S1 => match truD S1 x with
  | some true => .ok x S1
  | some false => fb ρ S1
  | none => .no
theorem se_and (ha : SE CA X W a fa) (hb : SE CA X W (.BoolOp .And (b :: rest) pos) fb) : SE CA X W (.BoolOp .And (a :: b :: rest) pos) (andF fa fb) := by
  obtain ⟨ta, pa, ha⟩ := ha
  obtain ⟨tb, pb, hb⟩ := hb
  refine ⟨_, pe_andT pa pb, fun ρ S σ H α Q he hs p => ?_⟩
  unfold andF at p
  refine ha _ _ _ _ _ _ he hs (p.bind.imp fun x H1 ⟨α1, S1, d, e1, s1, r1, p1⟩ => ?_)
  cases h : truD S1 d with
  | none => rw [h] at p1; exact p1.elim
  | some k =>
    rw [h] at p1
    refine ⟨k, tru_V s1 r1 h, ?_⟩
    cases k with
    | true => rw [if_pos rfl]; exact hb _ _ _ _ _ _ (he.ext e1) s1 p1
    | false => rw [if_neg Bool.false_ne_true]; exact p1.ok s1 r1
theorem se_or (ha : SE CA X W a fa) (hb : SE CA X W (.BoolOp .Or (b :: rest) pos) fb) : SE CA X W (.BoolOp .Or (a :: b :: rest) pos) (orF fa fb) := by
  obtain ⟨ta, pa, ha⟩ := ha
  obtain ⟨tb, pb, hb⟩ := hb
  refine ⟨_, pe_orT pa pb, fun ρ S σ H α Q he hs p => ?_⟩
  unfold orF at p
  refine ha _ _ _ _ _ _ he hs (p.bind.imp fun x H1 ⟨α1, S1, d, e1, s1, r1, p1⟩ => ?_)
  cases h : truD S1 d with
  | none => rw [h] at p1; exact p1.elim
  | some k =>
    rw [h] at p1
    refine ⟨k, tru_V s1 r1 h, ?_⟩
    cases k with
    | true => rw [if_pos rfl]; exact p1.ok s1 r1
    | false => rw [if_neg Bool.false_ne_true]; exact hb _ _ _ _ _ _ (he.ext e1) s1 p1
/-- the truth of what a step hands on -/
theorem tru_step {r : R D} {d : D} {S1 : Sto} {k : Bool} {α : List (Addr × Bool)} {H : Hp} {Q : Bool → Hp → Prop} {W' : XK} {K : PySem.W.Frag} (h : truD S1 d = some k) (p : Post K CA rEqv α H (tru (.ok d S1)) Q W') (s : StR K α H S1) : Q k H := by
  unfold tru at p
  simp only [R.bind_ok, h, R.of_some] at p
  exact p.ok s rfl
theorem ste_and (ha : STe CA X W a (fun ρ S => tru (fa ρ S))) (hb : SWe CA X W (.BoolOp .And (b :: rest) pos) (fun ρ S => tru (fb ρ S))) : SWe CA X W (.BoolOp .And (a :: b :: rest) pos) (fun ρ S => tru (andF fa fb ρ S)) := by
  obtain ⟨ta, pa, ha⟩ := ha
  obtain ⟨tb, pb, hb⟩ := hb
  refine ⟨_, pw_and pa pb, fun ρ S σ H α Q he hs p => ?_⟩
  refine ha ρ S _ _ α _ he hs ?_
  unfold andF tru at p
  unfold tru
  dsimp only at p ⊢
  cases h : fa ρ S with
  | no => rw [h] at p; exact p
  | ex x S1 => rw [h] at p; exact p
  | ok d S1 =>
    rw [h] at p
    simp only [R.bind_ok] at p ⊢
    cases h2 : truD S1 d with
    | none => rw [h2] at p; exact p
    | some k =>
      rw [h2] at p
      intro α' H' v e s r
      obtain rfl : k = v := r
      cases k with
      | true => rw [if_pos rfl]; exact hb ρ S1 _ _ α' _ (he.ext e) s (Post.ext e p)
      | false =>
        rw [if_neg Bool.false_ne_true]
        simp only [R.bind_ok, h2, R.of_some] at p
        exact p α' H' false e s rfl
theorem ste_or (ha : STe CA X W a (fun ρ S => tru (fa ρ S))) (hb : SWe CA X W (.BoolOp .Or (b :: rest) pos) (fun ρ S => tru (fb ρ S))) : SWe CA X W (.BoolOp .Or (a :: b :: rest) pos) (fun ρ S => tru (orF fa fb ρ S)) := by
  obtain ⟨ta, pa, ha⟩ := ha
  obtain ⟨tb, pb, hb⟩ := hb
  refine ⟨_, pw_or pa pb, fun ρ S σ H α Q he hs p => ?_⟩
  refine ha ρ S _ _ α _ he hs ?_
  unfold orF tru at p
  unfold tru
  dsimp only at p ⊢
  cases h : fa ρ S with
  | no => rw [h] at p; exact p
  | ex x S1 => rw [h] at p; exact p
  | ok d S1 =>
    rw [h] at p
    simp only [R.bind_ok] at p ⊢
    cases h2 : truD S1 d with
    | none => rw [h2] at p; exact p
    | some k =>
      rw [h2] at p
      intro α' H' v e s r
      obtain rfl : k = v := r
      cases k with
      | false => rw [if_neg Bool.false_ne_true]; exact hb ρ S1 _ _ α' _ (he.ext e) s (Post.ext e p)
      | true =>
        rw [if_pos rfl]
        simp only [R.bind_ok, h2, R.of_some] at p
        exact p α' H' true e s rfl
def iteF (ft fa fb : Env → Sto → R D) : Env → Sto → R D := fun ρ S => (ft ρ S).bind fun x S1 => match truD S1 x with
  | some true => fa ρ S1
  | some false => fb ρ S1
  | none => .no
/-- a test, then one of two ways -/
theorem test_then {β γ : Type} {rel : List (Addr × Bool) → Hp → β → γ → Prop} {tt : TT} {ft : Env → Sto → R D} {ka kb : Sto → R β} {ρ : Env} {S : Sto} {σ : SL} {H : Hp} {α : List (Addr × Bool)} {Q : γ → Hp → Prop} {P : Bool → Hp → Prop}
    (ht : ∀ (ρ : Env) (S : Sto) (σ : SL) (H : Hp) (α : List (Addr × Bool)) (Q : Bool → Hp → Prop), EnvR X.K α H ρ σ → StR X.K α H S → Post X.K CA rEqv α H (tru (ft ρ S)) Q (wAt W σ) → tt σ H Q)
    (he : EnvR X.K α H ρ σ) (hs : StR X.K α H S)
    (p : Post X.K CA rel α H ((ft ρ S).bind fun x S1 => match truD S1 x with | some true => ka S1 | some false => kb S1 | none => .no) Q (wAt W σ))
    (h1 : ∀ α1 H1 S1, Ext α H α1 H1 → StR X.K α1 H1 S1 → Post X.K CA rel α1 H1 (ka S1) Q (wAt W σ) → P true H1) (h0 : ∀ α1 H1 S1, Ext α H α1 H1 → StR X.K α1 H1 S1 → Post X.K CA rel α1 H1 (kb S1) Q (wAt W σ) → P false H1) : tt σ H P := by
  refine ht ρ S _ _ α _ he hs ?_
  unfold tru
  cases h : ft ρ S with
  | no => rw [h] at p; exact p
  | ex x S1 => rw [h] at p; exact p
  | ok d S1 =>
    rw [h] at p
    simp only [R.bind_ok] at p ⊢
    cases h2 : truD S1 d with
    | none => rw [h2] at p; exact p
    | some k =>
      rw [h2] at p
      intro α' H' v e s r
      obtain rfl : k = v := r
      cases k with
      | true => exact h1 α' H' S1 e s (Post.ext e p)
      | false => exact h0 α' H' S1 e s (Post.ext e p)
theorem se_ite {ft : Env → Sto → R D} (ht : STe CA X W c (fun ρ S => tru (ft ρ S))) (ha : SE CA X W a fa) (hb : SE CA X W b fb) : SE CA X W (.IfExp c a b pos) (iteF ft fa fb) := by
  obtain ⟨tt, pt, ht⟩ := ht
  obtain ⟨ta, pa, ha⟩ := ha
  obtain ⟨tb, pb, hb⟩ := hb
  refine ⟨_, pe_ifExp pt pa pb, fun ρ S σ H α Q he hs p => ?_⟩
  refine test_then ht he hs p (fun α1 H1 S1 e s q => ?_) fun α1 H1 S1 e s q => ?_
  · rw [if_pos rfl]; exact ha _ _ _ _ _ _ (he.ext e) s q
  · rw [if_neg Bool.false_ne_true]; exact hb _ _ _ _ _ _ (he.ext e) s q
/-- if else as a test: the ways as tests -/
theorem pt_ifExp {tc ta tb : TT} (hc : PT X c tc) (ha : PT X a ta) (hb : PT X b tb) : PT X (.IfExp c a b pos) (fun σ H Q => tc σ H fun k H1 => if k = true then ta σ H1 Q else tb σ H1 Q) := by
  constructor
  intro pins s σ H Q I h
  have e : isTrue (.IfExp c a b pos) X.env (eval (.IfExp c a b pos) X.env) = (do if ← isTrue c X.env (eval c X.env) then isTrue a X.env (eval a X.env) else isTrue b X.env (eval b X.env)) := by
    first | rfl | simp only [isTrue]
  rw [e]
  refine wpAny_bind (thn (hc.run pins s σ H _ I h) fun k s1 ⟨H1, I1, q⟩ => ?_)
  cases k with
  | true => exact ha.run pins s1 σ H1 Q I1 q
  | false => exact hb.run pins s1 σ H1 Q I1 q
theorem ste_ite {ft : Env → Sto → R D} (ht : STe CA X W c (fun ρ S => tru (ft ρ S))) (ha : STe CA X W a (fun ρ S => tru (fa ρ S))) (hb : STe CA X W b (fun ρ S => tru (fb ρ S))) : STe CA X W (.IfExp c a b pos) (fun ρ S => tru (iteF ft fa fb ρ S)) := by
  obtain ⟨tt, pt, ht⟩ := ht
  obtain ⟨ta, pa, ha⟩ := ha
  obtain ⟨tb, pb, hb⟩ := hb
  refine ⟨_, pt_ifExp pt pa pb, fun ρ S σ H α Q he hs p => ?_⟩
  have e : tru (iteF ft fa fb ρ S) = (ft ρ S).bind fun x S1 => match truD S1 x with | some true => tru (fa ρ S1) | some false => tru (fb ρ S1) | none => .no := by
    unfold iteF
    cases h : ft ρ S with
    | no => rfl
    | ex x S1 => rfl
    | ok d S1 =>
      simp only [R.bind_ok]
      cases truD S1 d with
      | none => rfl
      | some k => cases k <;> rfl
  dsimp only at p
  rw [e] at p
  refine test_then ht he hs p (fun α1 H1 S1 e s q => ?_) fun α1 H1 S1 e s q => ?_
  · rw [if_pos rfl]; exact ha _ _ _ _ _ _ (he.ext e) s q
  · rw [if_neg Bool.false_ne_true]; exact hb _ _ _ _ _ _ (he.ext e) s q

/-! ### arguments, displays -/
theorem sa_nil : SA CA X W [] (fun _ S => .ok [] S) := ⟨_, pa_nil, fun ρ S σ H α Q he hs p => p.ok hs .nil⟩
theorem sa_cons (hx : ∀ v p, a ≠ .Starred v p) (ha : SE CA X W a fa) (hr : SA CA X W es fs) : SA CA X W (a :: es) (fun ρ S => (fa ρ S).bind fun x S1 => (fs ρ S1).bind fun l S2 => .ok (x :: l) S2) := by
  obtain ⟨ta, pa, ha⟩ := ha
  obtain ⟨tr, pr, hr⟩ := hr
  have he' : starEach (a :: es) X.env = (false, eval a X.env) :: starEach es X.env := by
    cases a <;> first | rfl | exact absurd rfl (hx _ _)
  refine ⟨_, pa_cons pa pr he', fun ρ S σ H α Q he hs p => ?_⟩
  refine ha _ _ _ _ _ _ he hs (p.bind.imp fun x H1 ⟨α1, S1, d, e1, s1, r1, p1⟩ => ?_)
  refine hr _ _ _ _ _ _ (he.ext e1) s1 (p1.bind.imp fun xs H2 ⟨α2, S2, ds, e2, s2, r2, p2⟩ => ?_)
  exact p2.ok s2 (.cons (r1.ext e2) r2)
theorem star_V {K : PySem.W.Frag} {α : List (Addr × Bool)} {H : Hp} {S : Sto} {d : D} {v : V} {k : List D} (s : StR K α H S) (r : Rp K α H d v) (h : starL S d = some k) : ∃ p xs, v = V.ref p ∧ (SqT K H p xs ∨ SqL K H p xs) ∧ RpL K α H k xs := by
  cases r with
  | tup hl rl => cases h; exact ⟨_, _, rfl, .inl hl, rl⟩
  | ref ha =>
    obtain ⟨vs, h1, rl⟩ := s.rd h ha
    exact ⟨_, vs, rfl, .inr h1, rl⟩
  | _ => cases h
theorem sa_star {p' : Pos} (ha : SE CA X W a fa) (hr : SA CA X W es fs) : SA CA X W (.Starred a p' :: es) (fun ρ S => (fa ρ S).bind fun x S1 => match starL S1 x with
    | some k => (fs ρ S1).bind fun l S2 => .ok (k ++ l) S2
    | none => .no) := by
  obtain ⟨ta, pa, ha⟩ := ha
  obtain ⟨tr, pr, hr⟩ := hr
  refine ⟨_, StX.pa_star pa pr, fun ρ S σ H α Q he hs p => ?_⟩
  refine ha _ _ _ _ _ _ he hs (p.bind.imp fun x H1 ⟨α1, S1, d, e1, s1, r1, p1⟩ => ?_)
  cases h : starL S1 d with
  | none => rw [h] at p1; exact p1.elim
  | some k =>
    rw [h] at p1
    obtain ⟨ad, vs, rfl, hl, rl⟩ := star_V s1 r1 h
    refine ⟨ad, vs, rfl, hl, ?_⟩
    refine hr _ _ _ _ _ _ (he.ext e1) s1 (p1.bind.imp fun xs H2 ⟨α2, S2, ds, e2, s2, r2, p2⟩ => ?_)
    exact p2.ok s2 ((rl.ext e2).append r2)
theorem se_tup {k : Nat} (h : SA CA X W es fs) : SE CA X W (.Tuple es k pos) (fun ρ S => (fs ρ S).bind fun l S1 => if l.length ≤ line then .ok (.tup l) S1 else .no) := by
  obtain ⟨t, pt, ht⟩ := h
  refine ⟨_, pe_tup pt, fun ρ S σ H α Q he hs p => ?_⟩
  refine ht _ _ _ _ _ _ he hs (p.bind.imp fun xs H1 ⟨α1, S1, ds, e1, s1, r1, p1⟩ => ?_)
  split at p1
  · rename_i c
    exact ⟨by rw [← line_eq, ← r1.length]; exact c, p1.newT s1 r1⟩
  · exact p1.elim
theorem se_lst (h : SA CA X W es fs) : SE CA X W (.List es pos) (fun ρ S => (fs ρ S).bind fun l S1 => if l.length ≤ line then .ok (.ref S1.length) (S1 ++ [.lst l]) else .no) := by
  obtain ⟨t, pt, ht⟩ := h
  refine ⟨_, pe_lst pt, fun ρ S σ H α Q he hs p => ?_⟩
  refine ht _ _ _ _ _ _ he hs (p.bind.imp fun xs H1 ⟨α1, S1, ds, e1, s1, r1, p1⟩ => ?_)
  split at p1
  · rename_i c
    exact ⟨by rw [← line_eq, ← r1.length]; exact c, p1.newL s1 r1⟩
  · exact p1.elim
theorem se_dct0 : SE CA X W (.Dict [] [] pos) (fun _ S => .ok (.ref S.length) (S ++ [.dct []])) := by
  refine ⟨_, pe_dnewK, fun ρ S σ H α Q he hs p q hq => ?_⟩
  refine p (α ++ [(q, true)]) _ _ (Ext.new hq) (hs.push hq ⟨rfl, [], upd_same, .nil⟩) (.ref (m := true) ?_)
  rw [← hs.len]; simp
/-! ### subscripts -/
theorem se_idx (hb' : PlainIx b) (ha : SE CA X W a fa) (hb : SE CA X W b fb) : SE CA X W (.Subscript a b pos) (fun ρ S => (fa ρ S).bind fun x S1 => (fb ρ S1).bind fun y S2 => idxD x y S2) := by
  obtain ⟨ta, pa, ha⟩ := ha
  obtain ⟨tb, pb, hb⟩ := hb
  exact ⟨_, pe_ix (ix_list.or (ix_tup.or ix_str)) pa pb hb', fun ρ S σ H α Q he hs p => two_parts ha hb he hs p fun α2 H2 S2 d e x y _ s2 r1 r2 p2 => ops_idx α2 H2 S2 d e x y Q _ s2 r1 r2 p2⟩
theorem se_idxl {p' : Pos} (hb' : PlainIx b) (h : SA CA X W es fs) (hb : SE CA X W b fb) : SE CA X W (.Subscript (.List es p') b pos) (fun ρ S => (fs ρ S).bind fun l S1 => if l.length ≤ line then (fb ρ S1).bind fun y S2 => idxL l y S2 else .no) := by
  obtain ⟨t, pt, ht⟩ := h
  obtain ⟨tb, pb, hb⟩ := hb
  refine ⟨_, pe_ix ix_list (pe_lst pt) pb hb', fun ρ S σ H α Q he hs p => ?_⟩
  refine ht _ _ _ _ _ _ he hs (p.bind.imp fun xs H1 ⟨α1, S1, ds, e1, s1, r1, p1⟩ => ?_)
  split at p1
  · rename_i c
    refine ⟨by rw [← line_eq, ← r1.length]; exact c, fun q hq => ?_⟩
    have ea : Ext α1 H1 α1 (upd H1 q (.lst xs)) := Ext.aside hq
    refine hb _ _ _ _ _ _ ((he.ext e1).ext ea) (s1.fresh hq) ((Post.ext ea p1).bind.imp fun y H2 ⟨α2, S2, d, e2, s2, r2, p2⟩ => ?_)
    have hq2 : H2 q = some (.lst xs) := e2.keep q _ upd_same (s1.off hq)
    cases r2 with
    | int i =>
      simp only [idxL] at p2
      cases h : atL ds i with
      | none => rw [h] at p2; exact p2.elim
      | some g =>
        rw [h] at p2
        obtain ⟨v, h1, h2⟩ := atL_get ((r1.ext ea).ext e2) h
        exact ⟨q, xs, i, v, rfl, rfl, SqL.of hq2, h1, p2.ok s2 h2⟩
    | _ => exact p2.elim
  · exact p1.elim
def OSe (CA : Nat → Addr) (X : Cx) (W : WX) (pe : Option Expr) (f : Env → Sto → R (Option Int)) : Prop :=
  ∃ t, PO X pe t ∧ ∀ (ρ : Env) (S : Sto) (σ : SL) (H : Hp) (α : List (Addr × Bool)) (Q : Option Int → Hp → Prop), EnvR X.K α H ρ σ → StR X.K α H S → Post X.K CA rEqv α H (f ρ S) Q (wAt W σ) → t σ H Q
theorem os_none : OSe CA X W none (fun _ S => .ok none S) := ⟨_, po_none, fun ρ S σ H α Q he hs p => p.ok hs rfl⟩
theorem os_some (ha : SE CA X W a fa) : OSe CA X W (some a) (fun ρ S => (fa ρ S).bind fun x S1 => match x with | .int i => .ok (some i) S1 | _ => .no) := by
  obtain ⟨ta, pa, ha⟩ := ha
  refine ⟨_, po_some pa, fun ρ S σ H α Q he hs p => ?_⟩
  refine ha _ _ _ _ _ _ he hs (p.bind.imp fun x H1 ⟨α1, S1, d, e1, s1, r1, p1⟩ => ?_)
  cases r1 with
  | int i => exact ⟨i, rfl, p1.ok s1 rfl⟩
  | _ => exact p1.elim
theorem se_slc {lo hi : Option Expr} {fl fh : Env → Sto → R (Option Int)} {p2 : Pos} (ha : SE CA X W a fa) (hl : OSe CA X W lo fl) (hh : OSe CA X W hi fh) :
    SE CA X W (.Subscript a (.Slice lo hi none p2) pos) (fun ρ S => (fa ρ S).bind fun x S1 => (fl ρ S1).bind fun l S2 => (fh ρ S2).bind fun h S3 => slcD x l h S3) := by
  obtain ⟨ta, pa, ha⟩ := ha
  obtain ⟨tl, pl, hl⟩ := hl
  obtain ⟨th, ph, hh⟩ := hh
  obtain ⟨r, hr, hq⟩ := op_slc (X := X) (CA := CA)
  refine ⟨_, pe_slice hr pa pl ph, fun ρ S σ H α Q he hs p => ?_⟩
  refine ha _ _ _ _ _ _ he hs (p.bind.imp fun x H1 ⟨α1, S1, d, e1, s1, r1, p1⟩ => ?_)
  refine hl _ _ _ _ _ _ (he.ext e1) s1 (p1.bind.imp fun l H2 ⟨α2, S2, l', e2, s2, r2, p2⟩ => ?_)
  refine hh _ _ _ _ _ _ ((he.ext e1).ext e2) s2 (p2.bind.imp fun h H3 ⟨α3, S3, h', e3, s3, r3, p3⟩ => ?_)
  obtain rfl : l' = l := r2
  obtain rfl : h' = h := r3
  exact hq α3 H3 S3 d l' h' x Q _ s3 ((r1.ext e2).ext e3) p3
/-! ### built-ins, isinstance -/
theorem he_of (hx : ∀ v p, a ≠ .Starred v p) : starEach (a :: es) X.env = (false, eval a X.env) :: starEach es X.env := by
  cases a <;> first | rfl | exact absurd rfl (hx _ _)
def noStar : List Expr → Bool
  | [] => true
  | .Starred _ _ :: _ => false
  | _ :: es => noStar es
theorem noStar_ne (h : noStar (a :: es) = true) : (∀ v p, a ≠ .Starred v p) ∧ noStar es = true := by
  cases a <;> first | exact ⟨fun _ _ e => (nomatch e), h⟩ | cases h
theorem hpl_of : ∀ {es : List Expr} {env : PySem.Env} {pos : Pos}, noStar es = true → (backTo pos (starEach es env)).any (·.1) = false
  | [], _, _, _ => rfl
  | a :: es, env, pos, h => by
    obtain ⟨h1, h2⟩ := noStar_ne h
    have ih := hpl_of (env := env) (pos := pos) h2
    have e : starEach (a :: es) env = (false, eval a env) :: starEach es env := by cases a <;> first | rfl | exact absurd rfl (h1 _ _)
    rw [e]
    unfold backTo at ih ⊢
    simpa using ih
def bName : Bi → PySem.Str
  | .len => "len" | .abs => "abs" | .max => "max" | .min => "min" | .sum => "sum" | .int => "int" | .str => "str" | .list => "list" | .tuple => "tuple" | .all => "all" | .any => "any" | .sorted => "sorted"
theorem boot_b (b : Bi) : bootBuiltins (bName b) = some (bltOf b) := by cases b <;> decide +kernel
theorem bName_ne (b : Bi) : bName b ≠ ("__name__" : PySem.Str) := by cases b <;> decide +kernel
theorem bName_db (b : Bi) : (bName b == ("__debug__" : PySem.Str)) = false := by cases b <;> decide +kernel
/-- a call of a built-in with a rule -/
theorem pe_blt {b : Bi} {r : List V → Hp → VK → Prop} {t : TA} {p : Pos} (hr : CallR X (bltOf b) r) (hg : Gl X (bName b)) (hm : X.mg (bName b) = none) (ha : PA X (a :: es) t) (hx : noStar (a :: es) = true) : PE X (.Call (.Name (bName b) p) (a :: es) [] pos) (tCB r t) := by
  obtain ⟨h1, h2⟩ := noStar_ne hx
  have e := boot_b b
  cases b <;> first
    | exact pe_callB hr hg hm e ha (bName_ne _) (bName_db _) (he_of h1) (hpl_of h2)
    | exact pe_callTy hr hg hm e ha (bName_ne _) (bName_db _) (he_of h1) (hpl_of h2)
theorem se_bi {b : Bi} {p : Pos} (hc : X.calm = true) (hg : Gl X (bName b)) (hm : X.mg (bName b) = none) (ha : SA CA X W (a :: es) fs) (hx : noStar (a :: es) = true) : SE CA X W (.Call (.Name (bName b) p) (a :: es) [] pos) (fun ρ S => (fs ρ S).bind fun l S1 => biD b l S1) := by
  obtain ⟨t, pt, ht⟩ := ha
  obtain ⟨r, hr, hq, _⟩ := bi_ok (X := X) (CA := CA) hc b
  refine ⟨_, pe_blt hr hg hm pt hx, fun ρ S σ H α Q he hs p => ?_⟩
  refine ht _ _ _ _ _ _ he hs (p.bind.imp fun xs H1 ⟨α1, S1, ds, e1, s1, r1, p1⟩ => ?_)
  exact hq α1 H1 S1 ds xs Q _ s1 r1 p1
end
end Eg

namespace Eg
open PySem PySem.Spec PyProof.Rows L2
section
variable {X : Cx} {CA : Nat → Addr} {W : WX} {pos : Pos} {a b : Expr} {fa fb : Env → Sto → R D} {es : List Expr} {fs : Env → Sto → R (List D)}
/-! ### isinstance -/
def tName : Ty → PySem.Str
  | .int => "int" | .bool => "bool" | .str => "str" | .list => "list" | .tuple => "tuple" | .dict => "dict" | .cls _ => ""
theorem boot_t {t : Ty} (h : t.own = false) : bootBuiltins (tName t) = some (.type (tyS t)) := by
  cases t with
  | cls c => cases h
  | _ => decide +kernel
theorem tName_ne {t : Ty} : tName t ≠ ("__name__" : PySem.Str) ∧ (tName t == ("__debug__" : PySem.Str)) = false := by
  cases t with
  | cls c => exact ⟨(by decide +kernel : ("" : PySem.Str) ≠ ("__name__" : PySem.Str)), (by decide +kernel : (("" : PySem.Str) == ("__debug__" : PySem.Str)) = false)⟩
  | _ => exact ⟨by decide +kernel, by decide +kernel⟩
theorem pe_ty {t : Ty} (h : t.own = false) (hg : Gl X (tName t)) (hm : X.mg (tName t) = none) : PE X (.Name (tName t) pos) (tC (.ty (tyS t))) :=
  pe_bltn hg hm (boot_t h) rfl tName_ne.1 tName_ne.2
theorem boot_isi : bootBuiltins "isinstance" = some (.builtin "isinstance") := by decide +kernel
theorem se_isi1 {t : Ty} {p p2 : Pos} {sub : Nat → Nat → Bool} (ho : t.own = false) (hg : Gl X "isinstance") (hm : X.mg "isinstance" = none) (hgt : Gl X (tName t)) (hmt : X.mg (tName t) = none) (hx : ∀ v q, a ≠ .Starred v q) (ha : SE CA X W a fa) :
    SE CA X W (.Call (.Name "isinstance" p) [a, .Name (tName t) p2] [] pos) (fun ρ S => (fa ρ S).bind fun x S1 => match kind S1 x with
      | some k => .ok (.bl ([t].any (isK sub k))) S1
      | none => .no) := by
  obtain ⟨ta, pa, ha⟩ := ha
  have pA : PA X [a, .Name (tName t) p2] (tCons ta (tCons (tC (.ty (tyS t))) tNil)) := pa_cons pa (pa_cons (pe_ty ho hgt hmt) pa_nil rfl) (he_of hx)
  refine ⟨_, pe_callB call_isi hg hm boot_isi pA (by decide +kernel) (by decide +kernel) (he_of hx) rfl, fun ρ S σ H α Q he hs p => ?_⟩
  refine ha _ _ _ _ _ _ he hs (p.bind.imp fun x H1 ⟨α1, S1, d, e1, s1, r1, p1⟩ => ?_)
  cases h : kind S1 d with
  | none => rw [h] at p1; exact p1.elim
  | some k =>
    rw [h] at p1
    obtain ⟨hk, ty⟩ := kind_ty s1 r1 h
    refine ⟨x, .ty (tyS t), _, _, isK sub k t, rfl, .ty _, ty, kit_ty (kit_k hk ho), ?_⟩
    have := p1.ok s1 (.bl _)
    simpa using this
def tyNames (ts : List Ty) (ps : List Pos) : List Expr := (ts.zip ps).map fun q => .Name (tName q.1) q.2
theorem pa_tys : ∀ {ts : List Ty} {ps : List Pos}, ts.length = ps.length → (∀ t ∈ ts, t.own = false ∧ Gl X (tName t) ∧ X.mg (tName t) = none) → ∃ tt : TA, PA X (tyNames ts ps) tt ∧ ∀ σ H Q, Q (ts.map fun t => V.ty (tyS t)) H → tt σ H Q
  | [], [], _, _ => ⟨_, pa_nil, fun _ _ _ h => h⟩
  | t :: ts, p :: ps, hl, h => by
    obtain ⟨tt, h1, h2⟩ := pa_tys (ts := ts) (ps := ps) (by simpa using hl) fun t ht => h t (by simp [ht])
    obtain ⟨o, g, m⟩ := h t (by simp)
    exact ⟨_, pa_cons (pe_ty o g m) h1 rfl, fun σ H Q q => h2 σ H _ q⟩
theorem paired_tys : ∀ ts : List Ty, Paired ClsV (ts.map fun t => V.ty (tyS t)) (ts.map fun t => Value.type (tyS t))
  | [] => .nil
  | t :: ts => .cons (.ty _) (paired_tys ts)
theorem tyX_upd {K : PySem.W.Frag} {H : Hp} {p : Addr} {ho : HO} {x : V} {t : Value} (hp : H p = none) (h : TyX K H x t) : TyX K (upd H p ho) x t := by
  cases h with
  | base h =>
    cases h with
    | non => exact .base .non
    | bl b => exact .base (.bl b)
    | int b => exact .base (.int b)
    | str b => exact .base (.str b)
    | flt b => exact .base (.flt b)
    | lst e => exact .base (.lst (upd_keep hp e))
    | frz e => exact .base (.frz (upd_keep hp e))
    | tup e => exact .base (.tup (upd_keep hp e))
    | dK e => exact .base (.dK (upd_keep hp e))
    | dT e => exact .base (.dT (upd_keep hp e))
    | ins e cl ha hn htk hm => exact .base (.ins (upd_keep hp e) cl ha hn htk hm)
  | byt b => exact .byt b
  | set e => exact .set (upd_keep hp e)
  | kList e c => exact .kList e c
  | kTuple e c => exact .kTuple e c
  | kDict e c => exact .kDict e c
  | fTuple e => exact .fTuple (upd_keep hp e)
  | fDict e => exact .fDict (upd_keep hp e)
theorem se_isiT {ts : List Ty} {ps : List Pos} {p p2 : Pos} {k2 : Nat} {sub : Nat → Nat → Bool} (hl : ts.length = ps.length) (hlen : ts.length ≤ 10) (ho : ∀ t ∈ ts, t.own = false ∧ Gl X (tName t) ∧ X.mg (tName t) = none) (hg : Gl X "isinstance") (hm : X.mg "isinstance" = none) (hx : ∀ v q, a ≠ .Starred v q) (ha : SE CA X W a fa) :
    SE CA X W (.Call (.Name "isinstance" p) [a, .Tuple (tyNames ts ps) k2 p2] [] pos) (fun ρ S => (fa ρ S).bind fun x S1 => match kind S1 x with
      | some k => .ok (.bl (ts.any (isK sub k))) S1
      | none => .no) := by
  obtain ⟨ta, pa, ha⟩ := ha
  obtain ⟨tt, pt, ht⟩ := pa_tys (X := X) hl ho
  have pA : PA X [a, .Tuple (tyNames ts ps) k2 p2] (tCons ta (tCons (tTup tt) tNil)) := pa_cons pa (pa_cons (pe_tup pt) pa_nil rfl) (he_of hx)
  refine ⟨_, pe_callB call_isiT hg hm boot_isi pA (by decide +kernel) (by decide +kernel) (he_of hx) rfl, fun ρ S σ H α Q he hs p => ?_⟩
  refine ha _ _ _ _ _ _ he hs (p.bind.imp fun x H1 ⟨α1, S1, d, e1, s1, r1, p1⟩ => ?_)
  cases h : kind S1 d with
  | none => rw [h] at p1; exact p1.elim
  | some k =>
    rw [h] at p1
    obtain ⟨hk, ty⟩ := kind_ty s1 r1 h
    refine ht σ H1 _ ⟨by simp only [List.length_map]; rw [sizeLine_eq]; omega, fun q hq => ?_⟩
    have ea : Ext α1 H1 α1 (upd H1 q (.tup (ts.map fun t => V.ty (tyS t)))) := Ext.aside hq
    refine ⟨x, q, _, _, _, ts.any (isK sub k), rfl, upd_same, paired_tys ts, tyX_upd hq ty, kitAny_k hk ?_, (Post.ext ea p1).ok (s1.fresh hq) (.bl _)⟩
    simp only [List.all_eq_true, Bool.not_eq_true']
    exact fun t ht => (ho t ht).1

/-! ### calls -/
/-- what a def of the engine promises -/
def spF (K : PySem.W.Frag) (CA : Nat → Addr) (c : Cl) (f : Nat) : Sp := fun vs H Q E =>
  ∃ (α : List (Addr × Bool)) (S : Sto) (ds : List D), StR K α H S ∧ RpL K α H ds vs ∧ Post K CA (Rp K) α H (c f ds S) Q E
abbrev Df.pn (d : Df) : List PySem.Str := (d.ns.take d.ps).map cs
/-- keywords: every parameter is given by its name -/
def KwOk (fd : FuncData) (ps : List PySem.Str) (perm : List Nat) (ks : List (List Nat)) : Prop :=
  (∀ (s : Shared) (ws : List Value), ws.length = ks.length → BindsTo s fd ⟨[], (ks.map cs).zip ws⟩ (ps.zip (perm.filterMap fun i => ws[i]?))) ∧ ∀ i ∈ perm, i < ks.length
structure CallOk (X : Cx) (CA : Nat → Addr) (c : Cl) (kws : List (Nat × List Nat × List (List Nat))) (f : Nat) (d : Df) : Prop where
  ex : ∃ (fa : Addr) (fd : FuncData) (k : Nat), X.mg (cs d.name) = some (.ref fa) ∧ PySem.W.keepIn X.K (.ref fa) = true ∧ FnOk X.prog X.w X.K X.mg X.base (CX X.prog X.w) k fa fd d.pn (spF X.K CA c f) ∧ Room k X.A ∧ Binds X.K fd d.pn [] ∧
    ∀ perm ks, (f, perm, ks) ∈ kws → KwOk fd d.pn perm ks
theorem se_call {c : Cl} {kws : List (Nat × List Nat × List (List Nat))} {f : Nat} {d : Df} {p : Pos} (hC : CallOk X CA c kws f d) (tk : Takes X W) (hg : Gl X (cs d.name)) (hdb : (cs d.name == ("__debug__" : PySem.Str)) = false) (hx : noStar (a :: es) = true) (ha : SA CA X W (a :: es) fs) :
    SE CA X W (.Call (.Name (cs d.name) p) (a :: es) [] pos) (fun ρ S => (fs ρ S).bind fun l S1 => c f l S1) := by
  obtain ⟨t, pt, ht⟩ := ha
  obtain ⟨fad, fd, k, hm, hk, F, hr, hb, _⟩ := hC.ex
  obtain ⟨h1, h2⟩ := noStar_ne hx
  refine ⟨_, pe_callS F hr hg hm hk hb (fun σ => passAt tk σ) pt hdb (he_of h1) (hpl_of h2), fun ρ S σ H α Q he hs p => ?_⟩
  refine ht _ _ _ _ _ _ he hs (p.bind.imp fun xs H1 ⟨α1, S1, ds, e1, s1, r1, p1⟩ => ?_)
  exact ⟨α1, S1, ds, s1, r1, p1⟩
/-- keywords' values -/
def SKe (CA : Nat → Addr) (X : Cx) (W : WX) (pks : List Keyword) (f : Env → Sto → R (List D)) : Prop :=
  ∃ t : TA, PK X pks t ∧ ∀ (ρ : Env) (S : Sto) (σ : SL) (H : Hp) (α : List (Addr × Bool)) (Q : List V → Hp → Prop), EnvR X.K α H ρ σ → StR X.K α H S → Post X.K CA (RpL X.K) α H (f ρ S) Q (wAt W σ) → t σ H Q
theorem sk_nil : SKe CA X W [] (fun _ S => .ok [] S) := ⟨_, pk_nil, fun ρ S σ H α Q he hs p => p.ok hs .nil⟩
theorem sk_cons {ks : List Keyword} {nm : Option PySem.Str} {kp : Pos} (ha : SE CA X W a fa) (hr : SKe CA X W ks fs) : SKe CA X W (⟨nm, a, kp⟩ :: ks) (fun ρ S => (fa ρ S).bind fun x S1 => (fs ρ S1).bind fun l S2 => .ok (x :: l) S2) := by
  obtain ⟨ta, pa, ha⟩ := ha
  obtain ⟨tr, pr, hr⟩ := hr
  refine ⟨_, pk_cons pa pr, fun ρ S σ H α Q he hs p => ?_⟩
  refine ha _ _ _ _ _ _ he hs (p.bind.imp fun x H1 ⟨α1, S1, d, e1, s1, r1, p1⟩ => ?_)
  refine hr _ _ _ _ _ _ (he.ext e1) s1 (p1.bind.imp fun xs H2 ⟨α2, S2, ds, e2, s2, r2, p2⟩ => ?_)
  exact p2.ok s2 (.cons (r1.ext e2) r2)
theorem perm_V {K : PySem.W.Frag} {α : List (Addr × Bool)} {H : Hp} {ds : List D} {vs : List V} (r : RpL K α H ds vs) : ∀ (perm : List Nat), (∀ i ∈ perm, i < ds.length) → RpL K α H (perm.filterMap fun i => ds[i]?) (perm.filterMap fun i => vs[i]?)
  | [], _ => .nil
  | i :: perm, h => by
    have hi := h i (by simp)
    obtain ⟨v, h1, h2⟩ := r.get (List.getElem?_eq_getElem hi)
    have ih := perm_V r perm fun j hj => h j (by simp [hj])
    simp only [List.filterMap_cons, List.getElem?_eq_getElem hi, h1]
    exact .cons h2 ih
theorem perm_U {vs : List V} {us : List Value} (r : Vals vs us) : ∀ (perm : List Nat), (∀ i ∈ perm, i < vs.length) → Vals (perm.filterMap fun i => vs[i]?) (perm.filterMap fun i => us[i]?)
  | [], _ => .nil
  | i :: perm, h => by
    have hi := h i (by simp)
    obtain ⟨u, h1, h2⟩ := r.get (List.getElem?_eq_getElem hi)
    have ih := perm_U r perm fun j hj => h j (by simp [hj])
    simp only [List.filterMap_cons, List.getElem?_eq_getElem hi, h1]
    exact .cons h2 ih
/-- the names of keywords -/
def kwNames : List Keyword → List (List Nat) → Bool
  | [], [] => true
  | ⟨some x, _, _⟩ :: r, k :: ks => decide (x = cs k) && kwNames r ks
  | _, _ => false
theorem kw_names {env : PySem.Env} {pos : Pos} : ∀ {kws : List Keyword} {ks : List (List Nat)}, kwNames kws ks = true → (backToKw pos (keywordEach kws env)).filterMap (·.1) = ks.map cs ∧ (backToKw pos (keywordEach kws env)).all (·.1.isSome) = true ∧ (backToKw pos (keywordEach kws env)).any (·.1.isNone) = false
  | [], [], _ => ⟨rfl, rfl, rfl⟩
  | [], _ :: _, h => by cases h
  | ⟨none, _, _⟩ :: _, _, h => by cases h
  | ⟨some x, e, kp⟩ :: r, [], h => by cases h
  | ⟨some x, e, kp⟩ :: r, k :: ks, h => by
    simp only [kwNames, Bool.and_eq_true, decide_eq_true_eq] at h
    obtain ⟨h1, h2, h3⟩ := kw_names (env := env) (pos := pos) h.2
    refine ⟨?_, ?_, ?_⟩
    · show (some x).toList ++ _ = _
      rw [h.1]
      exact congrArg (cs k :: ·) h1
    · show ((some x).isSome && _) = true
      exact h2
    · show ((some x).isNone || _) = false
      exact h3
theorem pe_kw {c : Cl} {kws : List (Nat × List Nat × List (List Nat))} {f : Nat} {d : Df} {p : Pos} {pks : List Keyword} {tk : TA} {perm : List Nat} {ks : List (List Nat)} (hC : CallOk X CA c kws f d) (tW : Takes X W) (hg : Gl X (cs d.name)) (hdb : (cs d.name == ("__debug__" : PySem.Str)) = false)
    (hin : (f, perm, ks) ∈ kws) (hn : kwNames pks ks = true) (hk : PK X pks tk) :
    PE X (.Call (.Name (cs d.name) p) [] pks pos) (fun σ H Q => tk σ H fun zs H1 => zs.length = ks.length ∧ spF X.K CA c f (perm.filterMap fun i => zs[i]?) H1 Q (wAt W σ)) := by
  constructor
  intro pins s σ H Q I h
  obtain ⟨fad, fd, k, hm, hke, F, hr, hb, hkw⟩ := hC.ex
  obtain ⟨hbd, hlt⟩ := hkw perm ks hin
  obtain ⟨n1, n2, n3⟩ := kw_names (env := X.env) (pos := pos) hn
  refine wpAny_Call_Name_kw (ld_glob I hg hm ?_ hdb)
  refine PySem.W.callWith_KW0 (h₀ := X.base) I.ok.mod.kin hke n2 (thn (hk.run pos pins s σ H _ I h) fun ws s2 hz => ?_) (by rw [n3]; rfl)
  obtain ⟨zs, H2, I2, rz, hl, q⟩ := hz
  refine ⟨I2.kIn, ?_⟩
  rw [n1]
  have hzl : zs.length = ws.length := rz.length
  have r2 := perm_U rz perm fun i hi => by rw [hl]; exact hlt i hi
  refine wpAny_call (codeAny_mono (F.run X.A X.stack s2 H2 ⟨[], (ks.map cs).zip ws⟩ (perm.filterMap fun i => ws[i]?) _ Q (wAt W σ) hr I2.env0 (hbd s2 ws (by omega)) r2 q) fun r s' hq => ?_)
  cases r with
  | error e => exact passAt tW σ pins H2 s2 e s' I2 hq
  | ok fl =>
    cases fl with
    | ret u => exact I2.after hq
    | _ => exact hq.elim
theorem se_callk {c : Cl} {kws : List (Nat × List Nat × List (List Nat))} {f : Nat} {d : Df} {p : Pos} {pks : List Keyword} {perm : List Nat} {ks : List (List Nat)} (hC : CallOk X CA c kws f d) (tW : Takes X W) (hg : Gl X (cs d.name)) (hdb : (cs d.name == ("__debug__" : PySem.Str)) = false)
    (hin : (f, perm, ks) ∈ kws) (hn : kwNames pks ks = true) (hfl : ∀ ρ S l S', fs ρ S = .ok l S' → l.length = ks.length) (hk : SKe CA X W pks fs) :
    SE CA X W (.Call (.Name (cs d.name) p) [] pks pos) (fun ρ S => (fs ρ S).bind fun l S1 => c f (perm.filterMap fun i => l[i]?) S1) := by
  obtain ⟨t, pt, ht⟩ := hk
  refine ⟨_, pe_kw hC tW hg hdb hin hn pt, fun ρ S σ H α Q he hs p => ?_⟩
  have hlt : ∀ i ∈ perm, i < ks.length := by
    obtain ⟨_, _, _, _, _, _, _, _, hkw⟩ := hC.ex
    exact (hkw perm ks hin).2
  refine ht ρ S _ _ α _ he hs ?_
  dsimp only at p
  cases h : fs ρ S with
  | no => rw [h] at p; exact p
  | ex x S1 => rw [h] at p; exact p
  | ok ds S1 =>
    rw [h] at p
    intro α1 H1 zs e1 s1 r1
    have hl := hfl ρ S ds S1 h
    refine ⟨by rw [← r1.length]; exact hl, α1, S1, _, s1, perm_V r1 perm fun i hi => by rw [hl]; exact hlt i hi, Post.ext e1 p⟩
end
end Eg

namespace Eg
open PySem PySem.Spec PyProof.Rows L2
section
variable {X : Cx} {CA : Nat → Addr} {W : WX} {pos : Pos} {a b : Expr} {fa fb : Env → Sto → R D} {es : List Expr} {fs : Env → Sto → R (List D)}
/-! ### targets -/
/-- what a target leaves: the slots it names -/
def SG (X : Cx) (pt : Expr) (bd : Sto → D → Env → Option Env) (sl : List Nat) : Prop :=
  ∃ g : TG, PG X pt g ∧ ∀ (ρ ρ' : Env) (S : Sto) (σ : SL) (H : Hp) (α : List (Addr × Bool)) (d : D) (v : V) (Q : SL → Hp → Prop), EnvR X.K α H ρ σ → StR X.K α H S → Rp X.K α H d v → bd S d ρ = some ρ' →
    (∀ σ', EnvR X.K α H ρ' σ' → (∀ j, j ∉ sl → σ'[j]? = σ[j]?) → Q σ' H) → g v σ H Q
def SGs (X : Cx) (pts : List Expr) (bd : Sto → List D → Env → Option Env) (sl : List Nat) : Prop :=
  ∃ g : TGs, PGs X pts g ∧ ∀ (ρ ρ' : Env) (S : Sto) (σ : SL) (H : Hp) (α : List (Addr × Bool)) (ds : List D) (vs : List V) (Q : SL → Hp → Prop), EnvR X.K α H ρ σ → StR X.K α H S → RpL X.K α H ds vs → bd S ds ρ = some ρ' →
    (∀ σ', EnvR X.K α H ρ' σ' → (∀ j, j ∉ sl → σ'[j]? = σ[j]?) → Q σ' H) → g vs σ H Q
theorem sg_name {i : Nat} {x : PySem.Str} (hN : X.N.Nodup) (hi : X.N[i]? = some x) (hx : Loc X.env.scope x) (hf : X.fn x = true ∨ X.env.scope.names.lookup x = some .local) : SG X (.Name x pos) (fun S d ρ => bindT S (.nm i) d ρ) [i] := by
  refine ⟨gName i, pg_name hN hi hx hf, fun ρ ρ' S σ H α d v Q he hs r h hq => ?_⟩
  simp only [bindT, setE, Option.some.injEq] at h
  subst h
  refine hq _ (he.set i r) fun j hj => ?_
  rw [List.getElem?_set_ne (by simpa using Ne.symm (by simpa using hj : j ≠ i))]
theorem sgs_nil : SGs X [] (fun S ds ρ => bindTs S [] ds ρ) [] := by
  refine ⟨gNil, pgs_nil, fun ρ ρ' S σ H α ds vs Q he hs r h hq => ?_⟩
  cases r with
  | nil =>
    simp only [bindTs, Option.some.injEq] at h
    subst h
    exact ⟨rfl, hq σ he fun _ _ => rfl⟩
  | cons _ _ => simp [bindTs] at h
theorem sgs_cons {pt : Expr} {pts : List Expr} {t : Tg} {ts : List Tg} {s1 s2 : List Nat} (hx : ∀ v p, pt ≠ .Starred v p) (h1 : SG X pt (fun S d ρ => bindT S t d ρ) s1) (h2 : SGs X pts (fun S ds ρ => bindTs S ts ds ρ) s2) : SGs X (pt :: pts) (fun S ds ρ => bindTs S (t :: ts) ds ρ) (s1 ++ s2) := by
  obtain ⟨g1, p1, q1⟩ := h1
  obtain ⟨g2, p2, q2⟩ := h2
  have e : (assignEach (pt :: pts) X.env).map (·.2) = assign pt X.env :: (assignEach pts X.env).map (·.2) := by
    cases pt <;> first | rfl | exact absurd rfl (hx _ _)
  refine ⟨gCons g1 g2, pgs_cons p1 p2 e, fun ρ ρ' S σ H α ds vs Q he hs r h hq => ?_⟩
  cases r with
  | nil => simp [bindTs] at h
  | @cons d v ds vs r rs =>
    simp only [bindTs] at h
    cases hb : bindT S t d ρ with
    | none => rw [hb] at h; cases h
    | some ρ1 =>
      rw [hb] at h
      refine ⟨v, vs, rfl, q1 ρ ρ1 S σ H α d v _ he hs r hb fun σ1 he1 k1 => ?_⟩
      refine q2 ρ1 ρ' S σ1 H α ds vs _ he1 hs rs h fun σ2 he2 k2 => hq σ2 he2 fun j hj => ?_
      simp only [List.mem_append, not_or] at hj
      rw [k2 j hj.2, k1 j hj.1]
theorem noStar_assign : ∀ {es : List Expr} {env : PySem.Env}, noStar es = true → (assignEach es env).length = es.length ∧ (assignEach es env).findIdx? (·.1) = none
  | [], _, _ => ⟨rfl, rfl⟩
  | a :: es, env, h => by
    obtain ⟨h1, h2⟩ := noStar_ne h
    obtain ⟨k1, k2⟩ := noStar_assign (env := env) h2
    have e : assignEach (a :: es) env = (false, assign a env) :: assignEach es env := by cases a <;> first | rfl | exact absurd rfl (h1 _ _)
    rw [e]
    refine ⟨congrArg Nat.succ k1, ?_⟩
    rw [List.findIdx?_cons]
    simp [k2]
theorem pg_or {pt : Expr} {g g' : TG} (h : PG X pt g) (h' : PG X pt g') : PG X pt (fun v σ H Q => g v σ H Q ∨ g' v σ H Q) := by
  constructor
  intro pins s σ H v u Q I r q
  rcases q with q | q
  · exact h.run pins s σ H v u Q I r q
  · exact h'.run pins s σ H v u Q I r q
theorem bindTs_len {S : Sto} : ∀ {ts : List Tg} {ds : List D} {ρ ρ' : Env}, bindTs S ts ds ρ = some ρ' → ds.length = ts.length
  | [], [], _, _, _ => rfl
  | [], _ :: _, _, _, h => by simp [bindTs] at h
  | _ :: _, [], _, _, h => by simp [bindTs] at h
  | t :: ts, d :: ds, ρ, ρ', h => by
    simp only [bindTs] at h
    split at h
    · exact congrArg Nat.succ (bindTs_len h)
    · cases h
theorem sg_tup {pts : List Expr} {k : Nat} {ts : List Tg} {sl : List Nat} (hc : X.calm = true) (hn : noStar pts = true) (hl : pts.length = ts.length) (h : SGs X pts (fun S ds ρ => bindTs S ts ds ρ) sl) : SG X (.Tuple pts k pos) (fun S d ρ => bindT S (.tp ts) d ρ) sl := by
  obtain ⟨g, p, q⟩ := h
  obtain ⟨n1, n2⟩ := noStar_assign (env := X.env) hn
  refine ⟨_, pg_or (pg_tup (n := ts.length) hc p (n1.trans hl) n2) (pg_lst (n := ts.length) hc p (n1.trans hl) n2), fun ρ ρ' S σ H α d v Q he hs r h hq => ?_⟩
  cases r with
  | @tup l ad vs ht rl =>
    simp only [bindT] at h
    have hlen := bindTs_len h
    exact .inl ⟨ad, vs, rfl, ht, by rw [← rl.length]; exact hlen, q ρ ρ' S σ H α l vs Q he hs rl h hq⟩
  | @ref n ad m ha =>
    simp only [bindT] at h
    split at h
    · rename_i l e
      have hlen := bindTs_len h
      obtain ⟨vs, h1, rl⟩ := hs.rd e ha
      exact .inr ⟨ad, vs, rfl, h1, by rw [← rl.length]; exact hlen, q ρ ρ' S σ H α l vs Q he hs rl h hq⟩
    · cases h
  | _ => simp [bindT] at h

/-! ### what is walked -/
/-- a walk yields these items, as long as its list stays -/
def ItR (K : PySem.W.Frag) (src : Src) (J : It) (α : List (Addr × Bool)) (H : Hp) : Prop :=
  ∀ (α' : List (Addr × Bool)) (H' : Hp) (S' : Sto), Ext α H α' H' → StR K α' H' S' → gOk src.2 S' = true → ∀ i : Nat,
    (∀ d, src.1[i]? = some d → J.go i H' ∧ ∀ x H'', J.yld i H' x H'' → Ext α' H' α' H'' ∧ StR K α' H'' S' ∧ Rp K α' H'' d x) ∧ (src.1.length ≤ i → J.stop i H')
def SI (CA : Nat → Addr) (X : Cx) (W : WX) (tg pe : Expr) (f : Env → Sto → R Src) : Prop :=
  (∀ ρ S src S1, f ρ S = .ok src S1 → gOk src.2 S1 = true) ∧ ∃ w : TI, PI X tg pe w ∧ ∀ (ρ : Env) (S : Sto) (σ : SL) (H : Hp) (α : List (Addr × Bool)) (Q : It → Hp → Prop), EnvR X.K α H ρ σ → StR X.K α H S →
    Post X.K CA (fun α' H' (src : Src) J => ItR X.K src J α' H') α H (f ρ S) Q (wAt W σ) → w σ H Q
theorem pi_or {tg pe : Expr} {w w' : TI} (h : PI X tg pe w) (h' : PI X tg pe w') : PI X tg pe (fun σ H R => w σ H R ∨ w' σ H R) := by
  constructor
  intro pins s σ H R I q
  rcases q with q | q
  · exact h.run pins s σ H R I q
  · exact h'.run pins s σ H R I q
theorem itr_list {K : PySem.W.Frag} {α : List (Addr × Bool)} {H : Hp} {S : Sto} {n : Nat} {ad : Addr} {m : Bool} {l : List D} (s : StR K α H S) (ha : α[n]? = some (ad, m)) : ItR K (l, some (n, .lst l)) (Itl K ad) α H := by
  intro α' H' S' e s' g i
  obtain ⟨β, rfl, _⟩ := e.pre
  have hg : S'[n]? = some (.lst l) := of_decide_eq_true g
  obtain ⟨_, vs, h1, rl⟩ := s'.at_ n ad m _ (get_pre ha) hg
  refine ⟨fun d hd => ?_, fun hi => ⟨vs, SqL.of h1, by rw [← rl.length]; exact hi⟩⟩
  obtain ⟨v, hv, r⟩ := rl.get hd
  refine ⟨⟨vs, v, SqL.of h1, hv⟩, fun x H'' hy => ?_⟩
  obtain ⟨rfl, hy⟩ := hy
  have := hy vs (SqL.of h1)
  rw [hv] at this
  cases this
  exact ⟨Ext.refl _ _, s', r⟩
theorem sqL_frz {K : PySem.W.Frag} {α α' : List (Addr × Bool)} {H H' : Hp} {ad : Addr} {vs : List V} (e : Ext α H α' H') (h : (∃ o, H ad = some (.frz o (.lst vs))) ∨ KLst K ad vs) : SqL K H' ad vs := by
  rcases h with ⟨o, h⟩ | h
  · exact .inl (.inr ⟨o, e.frzs _ _ _ h⟩)
  · exact .inr h
theorem itr_seq {K : PySem.W.Frag} {α : List (Addr × Bool)} {H : Hp} {J : It} {l : List D} {vs : List V} (rl : RpL K α H l vs) (hJ : ∀ α' H', Ext α H α' H' → ∀ i, (∀ v, vs[i]? = some v → J.go i H' ∧ ∀ x H'', J.yld i H' x H'' → H'' = H' ∧ x = v) ∧ (vs.length ≤ i → J.stop i H')) : ItR K (l, none) J α H := by
  intro α' H' S' e s' g i
  obtain ⟨h1, h2⟩ := hJ α' H' e i
  refine ⟨fun d hd => ?_, fun hi => h2 (by rw [← rl.length]; exact hi)⟩
  obtain ⟨v, hv, r⟩ := rl.get hd
  obtain ⟨k1, k2⟩ := h1 v hv
  refine ⟨k1, fun x H'' hy => ?_⟩
  obtain ⟨rfl, rfl⟩ := k2 x H'' hy
  exact ⟨Ext.refl _ _, s', r.ext e⟩
theorem itr_ro {K : PySem.W.Frag} {α : List (Addr × Bool)} {H : Hp} {ad : Addr} {l : List D} {vs : List V} (h : (∃ o, H ad = some (.frz o (.lst vs))) ∨ KLst K ad vs) (rl : RpL K α H l vs) : ItR K (l, none) (Itl K ad) α H := by
  refine itr_seq rl fun α' H' e i => ⟨fun v hv => ⟨⟨vs, v, sqL_frz e h, hv⟩, fun x H'' hy => ?_⟩, fun hi => ⟨vs, sqL_frz e h, hi⟩⟩
  obtain ⟨e1, hy⟩ := hy
  have := hy vs (sqL_frz e h)
  rw [hv] at this
  exact ⟨e1, (Option.some.inj this).symm⟩
theorem itr_tup {K : PySem.W.Frag} {α : List (Addr × Bool)} {H : Hp} {ad : Addr} {l : List D} {vs : List V} (h : SqT K H ad vs) (rl : RpL K α H l vs) : ItR K (l, none) (Itt K ad) α H := by
  refine itr_seq rl fun α' H' e i => ⟨fun v hv => ⟨⟨vs, v, SqT.ext e h, hv⟩, fun x H'' hy => ?_⟩, fun hi => ⟨vs, SqT.ext e h, hi⟩⟩
  obtain ⟨e1, hy⟩ := hy
  have := hy vs (SqT.ext e h)
  rw [hv] at this
  exact ⟨e1, (Option.some.inj this).symm⟩
theorem strs_V {K : PySem.W.Frag} {α : List (Addr × Bool)} {H : Hp} : ∀ z : List Nat, RpL K α H (z.map fun c => D.str [c]) (z.map fun c => V.str ⟨#[c]⟩)
  | [] => .nil
  | c :: z => .cons (.str [c]) (strs_V z)
theorem itr_str {K : PySem.W.Frag} {α : List (Addr × Bool)} {H : Hp} (z : List Nat) : ItR K (z.map fun c => D.str [c], none) (Its (cs z)) α H := by
  refine itr_seq (strs_V z) fun α' H' e i => ⟨fun v hv => ?_, fun hi => ?_⟩
  · rw [List.getElem?_map] at hv
    cases hz : z[i]? with
    | none => rw [hz] at hv; cases hv
    | some c =>
      rw [hz] at hv
      cases hv
      have hlt := (List.getElem?_eq_some_iff.mp hz).1
      refine ⟨by show i < (cs z).cps.size; simpa [cs] using hlt, fun x H'' hy => ?_⟩
      obtain ⟨e1, c', hc, rfl⟩ := hy
      have : (cs z).cps[i]? = z[i]? := by simp [cs]
      rw [this, hz] at hc
      cases hc
      exact ⟨e1, rfl⟩
  · show (cs z).cps.size ≤ i
    simpa [cs] using hi
theorem rngL_V {K : PySem.W.Frag} {α : List (Addr × Bool)} {H : Hp} (lo : Int) (n : Nat) : RpL K α H (rngL lo n) ((List.range n).map fun (k : Nat) => V.int (lo + k)) := by
  unfold rngL
  have : ∀ ks : List Nat, RpL K α H (ks.map fun (k : Nat) => D.int (lo + (k : Int))) (ks.map fun (k : Nat) => V.int (lo + k)) := by
    intro ks
    induction ks with
    | nil => exact .nil
    | cons k ks ih => exact .cons (.int _) ih
  exact this _
theorem itr_rng {K : PySem.W.Frag} {α : List (Addr × Bool)} {H : Hp} (lo : Int) (n : Nat) : ItR K (rngL lo n, none) (Itr lo n) α H := by
  refine itr_seq (rngL_V lo n) fun α' H' e i => ⟨fun v hv => ?_, fun hi => by simpa [Itr] using hi⟩
  rw [List.getElem?_map] at hv
  cases hz : (List.range n)[i]? with
  | none => rw [hz] at hv; cases hv
  | some k =>
    rw [hz] at hv
    have hlt : i < n := by simpa using (List.getElem?_eq_some_iff.mp hz).1
    have hk : k = i := by
      obtain ⟨h1, h2⟩ := List.getElem?_eq_some_iff.mp hz
      simpa using h2.symm
    subst hk
    cases hv
    exact ⟨hlt, fun x H'' hy => hy⟩
theorem srcD_ok {S : Sto} {d : D} {src : Src} (h : srcD S d = some src) : gOk src.2 S = true := by
  unfold srcD at h
  split at h
  · cases h; rfl
  · split at h
    · cases h; rfl
    · cases h
  · split at h
    · rename_i e
      cases h; exact decide_eq_true e
    · cases h; rfl
    · cases h
  · cases h
theorem R.of_ok {α : Type} {S S1 : Sto} {o : Option α} {x : α} (h : R.of S o = .ok x S1) : o = some x ∧ S1 = S := by
  cases o with
  | none => cases h
  | some y => cases h; exact ⟨rfl, rfl⟩
theorem R.bind_eq_ok {α β : Type} {r : R α} {f : α → Sto → R β} {y : β} {S2 : Sto} (h : r.bind f = .ok y S2) : ∃ x S1, r = .ok x S1 ∧ f x S1 = .ok y S2 := by
  cases r with
  | ok x S1 => exact ⟨x, S1, rfl, h⟩
  | ex x S1 => cases h
  | no => cases h
/-- an expression whose value is known to be of a kind -/
theorem se_when {ta : TE} {f : Env → Sto → R D} {k : D → Sto → R Src} {ρ : Env} {S : Sto} {σ : SL} {H : Hp} {α : List (Addr × Bool)} {Q : It → Hp → Prop} {P : VK}
    (ha : ∀ (ρ : Env) (S : Sto) (σ : SL) (H : Hp) (α : List (Addr × Bool)) (Q : VK), EnvR X.K α H ρ σ → StR X.K α H S → Post X.K CA (Rp X.K) α H (f ρ S) Q (wAt W σ) → ta σ H Q)
    (he : EnvR X.K α H ρ σ) (hs : StR X.K α H S) (p : Post X.K CA (fun α' H' (src : Src) J => ItR X.K src J α' H') α H ((f ρ S).bind k) Q (wAt W σ))
    (hk : ∀ d S1 α1 H1 x, f ρ S = .ok d S1 → Ext α H α1 H1 → StR X.K α1 H1 S1 → Rp X.K α1 H1 d x → Post X.K CA (fun α' H' (src : Src) J => ItR X.K src J α' H') α1 H1 (k d S1) Q (wAt W σ) → P x H1) : ta σ H P := by
  refine ha ρ S _ _ α _ he hs ?_
  cases h : f ρ S with
  | no => rw [h] at p; exact p
  | ex x S1 => rw [h] at p; exact p
  | ok d S1 =>
    rw [h] at p
    exact fun α1 H1 x e s r => hk d S1 α1 H1 x h e s r (Post.ext e p)
theorem si_val {tg : Expr} (ha : SE CA X W a fa) : SI CA X W tg a (fun ρ S => (fa ρ S).bind fun x S1 => .of S1 (srcD S1 x)) := by
  obtain ⟨ta, pa, ha⟩ := ha
  refine ⟨fun ρ S src S1 h => ?_, _, pi_or (pi_list pa) (pi_or (pi_tup pa) (pi_str pa)), fun ρ S σ H α Q he hs p => ?_⟩
  · obtain ⟨x, S2, _, h2⟩ := R.bind_eq_ok h
    obtain ⟨h3, rfl⟩ := R.of_ok h2
    exact srcD_ok h3
  · have way : ∀ d S1, fa ρ S = .ok d S1 → ∃ src, srcD S1 d = some src := fun d S1 h => by
      rw [show (fun ρ S => (fa ρ S).bind fun x S1 => R.of S1 (srcD S1 x)) ρ S = (fa ρ S).bind fun x S1 => R.of S1 (srcD S1 x) from rfl, h] at p
      simp only [R.bind_ok] at p
      cases e : srcD S1 d with
      | none => rw [e] at p; exact p.elim
      | some src => exact ⟨src, rfl⟩
    cases hf : fa ρ S with
    | no =>
      refine .inl (se_when ha he hs p fun d S1 α1 H1 x h => ?_)
      rw [hf] at h; cases h
    | ex x S1 =>
      refine .inl (se_when ha he hs p fun d S1 α1 H1 x h => ?_)
      rw [hf] at h; cases h
    | ok d0 S0 =>
      obtain ⟨src, hsrc⟩ := way d0 S0 hf
      cases d0 with
      | tup l =>
        refine .inr (.inl (se_when ha he hs p fun d S1 α1 H1 x h e s r q => ?_))
        rw [hf] at h; cases h
        cases r with
        | @tup _ ad vs ht rl => exact ⟨ad, rfl, ⟨vs, ht⟩, q.ok s (itr_tup ht rl)⟩
      | str z =>
        refine .inr (.inr (se_when ha he hs p fun d S1 α1 H1 x h e s r q => ?_))
        rw [hf] at h; cases h
        cases r
        simp only [srcD] at q
        split at q
        · exact ⟨_, rfl, q.ok s (itr_str z)⟩
        · exact q.elim
      | ref n =>
        simp only [srcD] at hsrc
        split at hsrc
        · rename_i l e0
          refine .inl (se_when ha he hs p fun d S1 α1 H1 x h e s r q => ?_)
          rw [hf] at h; cases h
          cases r with
          | @ref _ ad m had =>
            simp only [srcD, e0] at q
            obtain ⟨_, vs, h1, _⟩ := s.at_ n ad m _ had e0
            exact ⟨ad, rfl, ⟨vs, SqL.of h1⟩, q.ok s (itr_list s had)⟩
        · rename_i l e0
          refine .inl (se_when ha he hs p fun d S1 α1 H1 x h e s r q => ?_)
          rw [hf] at h; cases h
          cases r with
          | @ref _ ad m had =>
            simp only [srcD, e0] at q
            obtain ⟨_, vs, h1, rl⟩ := s.at_ n ad m _ had e0
            exact ⟨ad, rfl, ⟨vs, sqL_frz (Ext.refl α1 H1) h1⟩, q.ok s (itr_ro h1 rl)⟩
        · cases hsrc
      | non => cases hsrc
      | bl _ => cases hsrc
      | int _ => cases hsrc
end
end Eg

namespace Eg
open PySem PySem.Spec PyProof.Rows L2
/-- the weakest readings, the same in every context -/
def tE (K : PySem.W.Frag) (CA : Nat → Addr) (W : WX) (f : Env → Sto → R D) : TE := fun σ H Q => ∃ (ρ : Env) (S : Sto) (α : List (Addr × Bool)), EnvR K α H ρ σ ∧ StR K α H S ∧ Post K CA (Rp K) α H (f ρ S) Q (wAt W σ)
def tT (K : PySem.W.Frag) (CA : Nat → Addr) (W : WX) (f : Env → Sto → R Bool) : TT := fun σ H Q => ∃ (ρ : Env) (S : Sto) (α : List (Addr × Bool)), EnvR K α H ρ σ ∧ StR K α H S ∧ Post K CA rEqv α H (f ρ S) Q (wAt W σ)
def gE (K : PySem.W.Frag) (bd : Sto → D → Env → Option Env) (sl : List Nat) : TG := fun v σ H Q => ∃ (ρ ρ' : Env) (S : Sto) (α : List (Addr × Bool)) (d : D), EnvR K α H ρ σ ∧ StR K α H S ∧ Rp K α H d v ∧ bd S d ρ = some ρ' ∧
  ∀ σ', EnvR K α H ρ' σ' → (∀ j, j ∉ sl → σ'[j]? = σ[j]?) → Q σ' H
section
variable {X : Cx} {CA : Nat → Addr} {W : WX} {pos : Pos} {a b : Expr} {fa fb : Env → Sto → R D} {es : List Expr} {fs : Env → Sto → R (List D)}
theorem SE.pe (h : SE CA X W a fa) : PE X a (tE X.K CA W fa) := by
  obtain ⟨t, p, q⟩ := h
  exact ⟨fun pins s σ H Q I ⟨ρ, S, α, he, hs, hp⟩ => p.run pins s σ H Q I (q ρ S σ H α Q he hs hp)⟩
theorem STe.pt {f : Env → Sto → R Bool} (h : STe CA X W a f) : PT X a (tT X.K CA W f) := by
  obtain ⟨t, p, q⟩ := h
  exact ⟨fun pins s σ H Q I ⟨ρ, S, α, he, hs, hp⟩ => p.run pins s σ H Q I (q ρ S σ H α Q he hs hp)⟩
theorem SG.pg {bd : Sto → D → Env → Option Env} {sl : List Nat} (h : SG X a bd sl) : PG X a (gE X.K bd sl) := by
  obtain ⟨t, p, q⟩ := h
  exact ⟨fun pins s σ H v u Q I r ⟨ρ, ρ', S, α, d, he, hs, hr, hb, hq⟩ => p.run pins s σ H v u Q I r (q ρ ρ' S σ H α d v Q he hs hr hb hq)⟩
def W0 : WX := fun _ _ _ _ => False
/-- a comprehension's list stands aside -/
def PostC (K : PySem.W.Frag) (CA : Nat → Addr) (α : List (Addr × Bool)) (H : Hp) (r : R (List D)) (Q : VK) (E : XK) : Prop :=
  match r with
  | .ok l S' => ∀ α' H' p vs, Ext α H α' H' → StR K α' H' S' → H p = none → H' p = some (.lst vs) → (p, true) ∉ α' → RpL K α' H' l vs → Q (.ref p) H'
  | .ex x S' => ∀ α' H' cls d, Ext α H α' H' → StR K α' H' S' → ExR K CA α' H' x cls d → E cls d H'
  | .no => False
/-- a fresh list is given to a local on its own line -/
def ASet (X : Cx) (pe : Expr) (t : TE) : Prop := ∀ (i : Nat) (y : PySem.Str) (py spos : Pos), X.N[i]? = some y → X.env.scope.names.lookup y = some .local → swapsWith pe (some (.Name y py)) spos.line X.env = pure true → PS X (.Assign [.Name y py] pe spos) (tAsg t (gName i))
def SCm (CA : Nat → Addr) (X : Cx) (W : WX) (pe : Expr) (f : Env → Sto → R (List D)) : Prop :=
  ∃ t : TE, PE X pe t ∧ ASet X pe t ∧ ∀ (ρ : Env) (S : Sto) (σ : SL) (H : Hp) (α : List (Addr × Bool)) (Q : VK), EnvR X.K α H ρ σ → StR X.K α H S → PostC X.K CA α H (f ρ S) Q (wAt W σ) → t σ H Q
theorem wipe_get {σ : SL} {j : Nat} : ∀ {vs : List Nat}, (j ∈ vs → j < σ.length → (L2.wipe σ vs)[j]? = some none) ∧ (j ∉ vs → (L2.wipe σ vs)[j]? = σ[j]?)
  | [] => ⟨fun h => by simp at h, fun _ => rfl⟩
  | v :: vs => by
    obtain ⟨h1, h2⟩ := wipe_get (σ := σ) (j := j) (vs := vs)
    unfold L2.wipe
    by_cases e : v = j
    · subst e
      refine ⟨fun _ hl => List.getElem?_set_self (by rw [wipe_length]; exact hl), fun hn => absurd (List.mem_cons_self ..) hn⟩
    · rw [List.getElem?_set_ne e]
      refine ⟨fun hm hl => h1 ?_ hl, fun hn => h2 fun hm => hn (List.mem_cons_of_mem _ hm)⟩
      rcases List.mem_cons.mp hm with hm | hm
      · exact absurd hm.symm e
      · exact hm
theorem wipe_eq {σ σ' : SL} {vs sl : List Nat} (hsub : ∀ j ∈ sl, j ∈ vs) (hl : σ'.length = (L2.wipe σ vs).length) (h : ∀ j, j ∉ sl → σ'[j]? = (L2.wipe σ vs)[j]?) : L2.wipe σ' vs = L2.wipe σ vs := by
  rw [wipe_length] at hl
  apply List.ext_getElem?
  intro j
  by_cases hj : j ∈ vs
  · by_cases hlt : j < σ.length
    · rw [wipe_get.1 hj (by rw [hl]; exact hlt), wipe_get.1 hj hlt]
    · rw [List.getElem?_eq_none (by rw [wipe_length]; omega), List.getElem?_eq_none (by rw [wipe_length]; omega)]
  · rw [wipe_get.2 hj, wipe_get.2 hj, h j fun hm => hj (hsub j hm), wipe_get.2 hj]
mutual
theorem Rp.mono0 {K : PySem.W.Frag} {α : List (Addr × Bool)} {H H' : Hp} (h1 : ∀ a xs, H a = some (.tup xs) → H' a = some (.tup xs)) (h2 : ∀ a o u, H a = some (.frz o u) → H' a = some (.frz o u)) : ∀ {d : D} {v : V}, Rp K α H d v → Rp K α H' d v
  | _, _, .non => .non
  | _, _, .bl b => .bl b
  | _, _, .int i => .int i
  | _, _, .str s => .str s
  | _, _, .tup h r => .tup (by
      rcases h with (h | ⟨o, h⟩) | h
      · exact .inl (.inl (h1 _ _ h))
      · exact .inl (.inr ⟨o, h2 _ _ _ h⟩)
      · exact .inr h) (RpL.mono0 h1 h2 r)
  | _, _, .ref (m := m) h => .ref (m := m) h
theorem RpL.mono0 {K : PySem.W.Frag} {α : List (Addr × Bool)} {H H' : Hp} (h1 : ∀ a xs, H a = some (.tup xs) → H' a = some (.tup xs)) (h2 : ∀ a o u, H a = some (.frz o u) → H' a = some (.frz o u)) : ∀ {l : List D} {vs : List V}, RpL K α H l vs → RpL K α H' l vs
  | _, _, .nil => .nil
  | _, _, .cons r t => .cons (Rp.mono0 h1 h2 r) (RpL.mono0 h1 h2 t)
end
section
variable {K : PySem.W.Frag} {α : List (Addr × Bool)} {H : Hp} {p : Addr} {av bv : List V}
theorem aside_t (h : H p = some (.lst av)) : ∀ a xs, H a = some (.tup xs) → upd H p (.lst bv) a = some (.tup xs) := fun a xs ha => by rw [upd_ne fun e => by rw [e, h] at ha; cases ha]; exact ha
theorem aside_f (h : H p = some (.lst av)) : ∀ a o u, H a = some (.frz o u) → upd H p (.lst bv) a = some (.frz o u) := fun a o u ha => by rw [upd_ne fun e => by rw [e, h] at ha; cases ha]; exact ha
theorem StR.aside {S : Sto} (s : StR K α H S) (h : H p = some (.lst av)) (n : (p, true) ∉ α) : StR K α (upd H p (.lst bv)) S := by
  refine ⟨s.len, s.nd, fun i a m o h1 h2 => ?_⟩
  have ho := s.at_ i a m o h1 h2
  have k1 := aside_t (bv := bv) h
  have k2 := aside_f (bv := bv) h
  have ne : m = true → a ≠ p := fun hm e => n (by rw [← e, ← hm]; exact List.mem_of_getElem? h1)
  cases o with
  | lst l => obtain ⟨hm, vs, q1, q2⟩ := ho; exact ⟨hm, vs, by rw [upd_ne (ne hm)]; exact q1, q2.mono0 k1 k2⟩
  | ro l =>
    obtain ⟨hm, vs, q1, q2⟩ := ho
    refine ⟨hm, vs, ?_, q2.mono0 k1 k2⟩
    rcases q1 with ⟨ob, q1⟩ | q1
    · exact .inl ⟨ob, k2 _ _ _ q1⟩
    · exact .inr q1
  | dct kv => obtain ⟨hm, kvs, q1, q2⟩ := ho; exact ⟨hm, kvs, by rw [upd_ne (ne hm)]; exact q1, Paired.imp2 (fun a b z => ⟨z.1, z.2.mono0 k1 k2⟩) q2⟩
  | exc c fs => exact ho
end
theorem Ext.aside2 {α α' : List (Addr × Bool)} {H H' : Hp} {p : Addr} {av bv : List V} (e : Ext α H α' H') (hp : H p = none) (h : H' p = some (.lst av)) : Ext α H α' (upd H' p (.lst bv)) := by
  have ne : ∀ {a o}, H a = some o → a ≠ p := fun q e => by rw [e, hp] at q; cases q
  refine ⟨e.pre, fun a o q n => by rw [upd_ne (ne q)]; exact e.keep a o q n, fun a xs q => by rw [upd_ne (ne q)]; exact e.tups a xs q, fun a o u q => by rw [upd_ne (ne q)]; exact e.frzs a o u q, fun a o q => ?_⟩
  obtain ⟨o', h'⟩ := e.dom a o q
  exact ⟨o', by rw [upd_ne (ne q)]; exact h'⟩
/-- the turns of a comprehension -/
theorem comp_turns {K : PySem.W.Frag} {src : Src} {J : It} {bd : Sto → D → Env → Option Env} {sl own : List Nat} {ft : Env → Sto → R Bool} {fe : Env → Sto → R D} {ρ : Env} {σ : SL} {α1 : List (Addr × Bool)} {H1 : Hp} {S1 : Sto} {p : Addr} {Q : VK} {E : XK}
    (hsub : ∀ j ∈ sl, j ∈ own) (hbl : ∀ S d ρ ρ', bd S d ρ = some ρ' → ρ'.length = ρ.length) (hp : H1 p = none) (s1 : StR K α1 H1 S1) (he : EnvR K α1 H1 ρ σ) (g1 : gOk src.2 S1 = true) (hI : ItR K src J α1 H1) (hlen : src.1.length ≤ line)
    (hp' : PostC K CA α1 H1 (compL (fun x S => bd S x (wipeE ρ own)) ft fe src.2 src.1 [] S1) Q E) :
    ∃ Wv : Nat → Nat → Hp → Prop, (∃ m, Wv 0 m (upd H1 p (.lst []))) ∧ ∀ i m H, Wv i m H → (J.stop i H ∧ Q (.ref p) H) ∨ (J.go i H ∧ ∃ Nx : Hp → Prop, (∀ H', Nx H' → ∃ m', m' < m ∧ Wv (i + 1) m' H') ∧ ∀ x H', J.yld i H x H' → gE K bd sl x (L2.wipe σ own) H' fun σ2 H2 => L2.wipe σ2 own = L2.wipe σ own ∧
      (tT K CA W0 ft) σ2 H2 fun b H3 => if b = true then (tE K CA W0 fe) σ2 H3 fun y H4 => ∃ acc, H4 p = some (.lst acc) ∧ acc.length < sizeLine ∧ Nx (upd H4 p (.lst (acc ++ [y]))) else Nx H3) := by
  let Iv := fun (i : Nat) (H' : Hp) => ∃ (α' : List (Addr × Bool)) (S' : Sto) (acc : List D) (av : List V), i ≤ src.1.length ∧ Ext α1 H1 α' H' ∧ StR K α' H' S' ∧ gOk src.2 S' = true ∧ H' p = some (.lst av) ∧ (p, true) ∉ α' ∧ RpL K α' H' acc av ∧ acc.length ≤ i ∧
    PostC K CA α1 H1 (compL (fun x S => bd S x (wipeE ρ own)) ft fe src.2 (src.1.drop i) acc S') Q E
  refine ⟨fun i m H' => m = src.1.length - i ∧ Iv i H', ⟨src.1.length, rfl, α1, S1, [], [], Nat.zero_le _, Ext.aside hp, s1.fresh hp, g1, upd_same, s1.off hp, .nil, Nat.le_refl _, by simpa using hp'⟩, ?_⟩
  rintro i m H' ⟨rfl, α', S', acc, av, hi, e', s', g', hp1, np, ra, la, hpo⟩
  obtain ⟨hgo, hstop⟩ := hI α' H' S' e' s' g' i
  by_cases hlt : i < src.1.length
  · have hd : src.1[i]? = some src.1[i] := List.getElem?_eq_getElem hlt
    obtain ⟨h1, h2⟩ := hgo _ hd
    refine .inr ⟨h1, Iv (i + 1), fun H2 h => ⟨src.1.length - (i + 1), by omega, rfl, h⟩, fun x H'' hy => ?_⟩
    obtain ⟨ey, sy, ry⟩ := h2 x H'' hy
    rw [List.drop_eq_getElem_cons hlt] at hpo
    simp only [compL] at hpo
    cases hb : bd S' src.1[i] (wipeE ρ own) with
    | none => rw [hb] at hpo; exact hpo.elim
    | some ρ' =>
      rw [hb] at hpo
      dsimp only at hpo
      have heY : EnvR K α' H'' (wipeE ρ own) (L2.wipe σ own) := ((he.ext e').ext ey).wipe own
      refine ⟨_, ρ', S', α', _, heY, sy, ry, hb, fun σ2 he2 k2 => ⟨?_, ?_⟩⟩
      · refine wipe_eq hsub ?_ k2
        rw [he2.len, hbl _ _ _ _ hb, heY.len]
      · have eY : Ext α1 H1 α' H'' := e'.trans ey
        have hpY : H'' p = some (.lst av) := ey.keep p _ hp1 np
        have raY := ra.ext ey
        refine ⟨ρ', S', α', he2, sy, ?_⟩
        cases hft : ft ρ' S' with
        | no => rw [hft] at hpo; exact hpo.elim
        | ex x S2 => rw [hft] at hpo; exact hpo.elim
        | ok bt S2 =>
          rw [hft] at hpo
          intro α2 H2 bt' e2 s2 hbt
          obtain rfl : bt = bt' := hbt
          have np2 : (p, true) ∉ α2 := fun hm => by
            obtain ⟨β, rfl, hβ⟩ := e2.pre
            rcases List.mem_append.mp hm with hm | hm
            · exact np hm
            · have z := hβ _ hm; rw [hpY] at z; cases z
          have hp2 : H2 p = some (.lst av) := e2.keep p _ hpY np
          cases bt with
          | false =>
            rw [if_neg Bool.false_ne_true]
            dsimp only at hpo
            split at hpo
            · rename_i g2
              exact ⟨α2, S2, acc, av, hlt, eY.trans e2, s2, g2, hp2, np2, raY.ext e2, by omega, hpo⟩
            · exact hpo.elim
          | true =>
            rw [if_pos rfl]
            dsimp only at hpo
            refine ⟨ρ', S2, α2, he2.ext e2, s2, ?_⟩
            cases hfe : fe ρ' S2 with
            | no => rw [hfe] at hpo; exact hpo.elim
            | ex x S3 => rw [hfe] at hpo; exact hpo.elim
            | ok dd S3 =>
              rw [hfe] at hpo
              dsimp only at hpo
              split at hpo
              · rename_i g3
                intro α3 H3 y e3 s3 r3
                have np3 : (p, true) ∉ α3 := fun hm => by
                  obtain ⟨β, rfl, hβ⟩ := e3.pre
                  rcases List.mem_append.mp hm with hm | hm
                  · exact np2 hm
                  · have z := hβ _ hm; rw [hp2] at z; cases z
                have hp3 : H3 p = some (.lst av) := e3.keep p _ hp2 np2
                have ra3 := (raY.ext e2).ext e3
                refine ⟨av, hp3, by rw [← line_eq, ← ra.length]; omega, α3, S3, acc ++ [dd], av ++ [y], hlt, ((eY.trans e2).trans e3).aside2 hp hp3, s3.aside hp3 np3, g3, upd_same, np3, ?_, by simp; omega, hpo⟩
                exact ((ra3.append (RpL.one r3)).mono0 (aside_t hp3) (aside_f hp3))
              · exact hpo.elim
  · have e : i = src.1.length := by omega
    subst e
    refine .inl ⟨hstop (Nat.le_refl _), ?_⟩
    rw [List.drop_length] at hpo
    exact hpo α' H' p av e' s' hp hp1 np ra
/-- the tests of a comprehension -/
def STo (CA : Nat → Addr) (X : Cx) (pifs : List Expr) (f : Env → Sto → R Bool) : Prop := PTs X pifs (tT X.K CA W0 f)
theorem sto_nil : STo CA X [] (fun _ S => .ok true S) := ⟨fun pins s σ H Q I ⟨ρ, S, α, he, hs, hp⟩ => pts_nil.run pins s σ H Q I (hp.ok hs rfl)⟩
theorem sto_one {f : Env → Sto → R Bool} (h : STe CA X W0 a f) : STo CA X [a] f := pts_one h.pt
theorem sc_comp {elt tg iter : Expr} {ifs : List Expr} {scope : Scope} {own : List (PySem.Str × Nat)} {bd : Sto → D → Env → Option Env} {sl : List Nat} {ft : Env → Sto → R Bool} {fe : Env → Sto → R D} {fi : Env → Sto → R Src}
    (hc : X.calm = true) (hN : X.N.Nodup) (hi : SI CA X W tg iter fi) (ok : BlkOk X.N X.env.scope scope own) (hsub : ∀ j ∈ sl, j ∈ own.map (·.2)) (hbl : ∀ S d ρ ρ', bd S d ρ = some ρ' → ρ'.length = ρ.length)
    (hg : ∀ (s : Shared) (H : Hp) (C : Addr) (cl : List (PySem.Str × Addr)) (fp : List Addr), SG (X.blk s H scope (compEnvC scope cl C X.env) fp) tg bd sl)
    (ht : ∀ (s : Shared) (H : Hp) (C : Addr) (cl : List (PySem.Str × Addr)) (fp : List Addr), STo CA (X.blk s H scope (compEnvC scope cl C X.env) fp) ifs ft)
    (he : ∀ (s : Shared) (H : Hp) (C : Addr) (cl : List (PySem.Str × Addr)) (fp : List Addr), SE CA (X.blk s H scope (compEnvC scope cl C X.env) fp) W0 elt fe)
    (hs : ∀ x, foldedSetIterable iter X.env x = pure x) :
    SCm CA X W (.ListComp elt [⟨tg, iter, ifs, 0⟩] scope pos) (fun ρ S => (fi ρ S).bind fun p S1 => if p.1.length ≤ line then compL (fun x S => bd S x (wipeE ρ (own.map (·.2)))) ft fe p.2 p.1 [] S1 else .no) := by
  obtain ⟨hgk, w, pw, hw⟩ := hi
  refine ⟨_, pe_lc (g := gE X.K bd sl) (tt := tT X.K CA W0 ft) (te := tE X.K CA W0 fe) hc hN pw ok (fun s H C cl fp => (hg s H C cl fp).pg) (fun s H C cl fp => ht s H C cl fp) (fun s H C cl fp => (he s H C cl fp).pe) hs, fun i y py spos hy hl hsw => ps_setLc hc hN hy hl hsw pw ok (fun s H C cl fp => (hg s H C cl fp).pg) (fun s H C cl fp => ht s H C cl fp) (fun s H C cl fp => (he s H C cl fp).pe) hs, fun ρ S σ H α Q hen hst p => ?_⟩
  refine hw ρ S _ _ α _ hen hst ?_
  dsimp only at p
  cases h : fi ρ S with
  | no => rw [h] at p; exact p
  | ex x S1 => rw [h] at p; exact p
  | ok src S1 =>
    rw [h] at p
    simp only [R.bind_ok] at p
    intro α1 H1 J e1 s1 hI D hD
    split at p
    · rename_i hlen
      have hH : H D = none := by
        cases q : H D with
        | none => rfl
        | some o =>
          obtain ⟨o', h'⟩ := e1.dom D o q
          rw [hD] at h'; cases h'
      refine comp_turns (E := wAt W σ) hsub hbl hD s1 (hen.ext e1) (hgk _ _ _ _ h) hI hlen ?_
      revert p
      generalize compL _ ft fe src.2 src.1 [] S1 = r
      intro p
      cases r with
      | ok l S' => exact fun α' H' q vs e s hq hq' nq rl => p α' H' q vs (e1.trans e) s (by
          cases z : H q with
          | none => rfl
          | some o =>
            obtain ⟨o', h'⟩ := e1.dom q o z
            rw [hq] at h'; cases h') hq' nq rl
      | ex x S' => exact fun α' H' cls d e s r => p α' H' cls d (e1.trans e) s r
      | no => exact p
    · exact p.elim
/-- the comprehension as a value -/
theorem se_comp {f : Env → Sto → R (List D)} (h : SCm CA X W a f) : SE CA X W a (fun ρ S => (f ρ S).bind fun l S1 => .ok (.ref S1.length) (S1 ++ [.lst l])) := by
  obtain ⟨t, pt, _, ht⟩ := h
  refine ⟨t, pt, fun ρ S σ H α Q he hs p => ht ρ S σ H α Q he hs ?_⟩
  dsimp only at p
  cases h : f ρ S with
  | no => rw [h] at p; exact p
  | ex x S1 => rw [h] at p; exact p
  | ok l S1 =>
    rw [h] at p
    intro α' H' q vs e s hq hq' nq rl
    refine p (α' ++ [(q, true)]) H' _ (e.adopt hq) (s.adopt nq ⟨rfl, vs, hq', rl.more⟩) (.ref (m := true) ?_)
    rw [← s.len]; simp
/-- .. handed to a built-in -/
theorem se_bic {b : Bi} {p : Pos} {f : Env → Sto → R (List D)} (hc : X.calm = true) (hg : Gl X (bName b)) (hm : X.mg (bName b) = none) (hx : noStar [a] = true) (h : SCm CA X W a f) : SE CA X W (.Call (.Name (bName b) p) [a] [] pos) (fun ρ S => (f ρ S).bind fun l S1 => bil b l S1) := by
  obtain ⟨t, pt, _, ht⟩ := h
  obtain ⟨r, hr, _, hq⟩ := bi_ok (X := X) (CA := CA) hc b
  obtain ⟨h1, _⟩ := noStar_ne hx
  refine ⟨_, pe_blt hr hg hm (pa_cons pt pa_nil (he_of h1)) hx, fun ρ S σ H α Q he hs p => ?_⟩
  refine ht ρ S σ H α _ he hs ?_
  dsimp only at p
  cases h : f ρ S with
  | no => rw [h] at p; exact p
  | ex x S1 => rw [h] at p; exact p
  | ok l S1 =>
    rw [h] at p
    intro α' H' q vs e s _ hq' _ rl
    exact hq α' H' S1 l q vs Q _ s (SqL.of hq') rl (Post.ext e p)
end
end Eg

namespace Eg
open PySem PySem.Spec PyProof.Rows L2
section
variable {X : Cx} {CA : Nat → Addr} {W : WX} {pos : Pos} {a b : Expr} {fa fb : Env → Sto → R D} {es : List Expr} {fs : Env → Sto → R (List D)}
/-! ### further walks -/
theorem si_lst {tg : Expr} (h : SA CA X W es fs) : SI CA X W tg (.List es pos) (fun ρ S => (fs ρ S).bind fun l S1 => if l.length ≤ line then .ok (l, none) S1 else .no) := by
  obtain ⟨t, pt, ht⟩ := h
  refine ⟨fun ρ S src S1 h => ?_, _, pi_list (pe_lst pt), fun ρ S σ H α Q he hs p => ?_⟩
  · obtain ⟨x, S2, _, h2⟩ := R.bind_eq_ok h
    split at h2
    · cases h2; rfl
    · cases h2
  · refine ht _ _ _ _ _ _ he hs (p.bind.imp fun xs H1 ⟨α1, S1, ds, e1, s1, r1, p1⟩ => ?_)
    split at p1
    · rename_i c
      refine ⟨by rw [← line_eq, ← r1.length]; exact c, fun q hq => ?_⟩
      have ea : Ext α1 H1 α1 (upd H1 q (.lst xs)) := Ext.aside hq
      refine ⟨q, rfl, ⟨xs, SqL.of upd_same⟩, (Post.ext ea p1).ok (s1.fresh hq) ?_⟩
      refine itr_seq (r1.ext ea) fun α' H' e i => ?_
      have hq' : H' q = some (.lst xs) := e.keep q _ upd_same (s1.off hq)
      refine ⟨fun v hv => ⟨⟨xs, v, SqL.of hq', hv⟩, fun x H'' hy => ?_⟩, fun hi => ⟨xs, SqL.of hq', hi⟩⟩
      obtain ⟨e1, hy⟩ := hy
      have := hy xs (SqL.of hq')
      rw [hv] at this
      exact ⟨e1, (Option.some.inj this).symm⟩
    · exact p1.elim
theorem b62_ok {i : Int} (h : b62 i = true) : -(2 ^ 62) ≤ i ∧ i < 2 ^ 62 := by
  simp only [b62, Bool.and_eq_true, decide_eq_true_eq] at h
  exact h
theorem rngD_ok {lo hi : Int} {src : Src} (h : rngD lo hi = some src) : (-(2 ^ 62) ≤ lo ∧ lo < 2 ^ 62) ∧ (-(2 ^ 62) ≤ hi ∧ hi < 2 ^ 62) ∧ src = (rngL lo (hi - lo).toNat, none) := by
  unfold rngD at h
  split at h
  · rename_i c
    simp only [Bool.and_eq_true] at c
    exact ⟨b62_ok c.1, b62_ok c.2, (Option.some.inj h).symm⟩
  · cases h
theorem si_rng1 {tg : Expr} {p' : Pos} (hg : Gl X "range") (hm : X.mg "range" = none) (hx : ∀ v q, a ≠ .Starred v q) (ha : SE CA X W a fa) : SI CA X W tg (.Call (.Name "range" p') [a] [] pos) (fun ρ S => (fa ρ S).bind fun x S1 => match x with
    | .int n => .of S1 (rngD 0 n)
    | _ => .no) := by
  obtain ⟨ta, pa, ha⟩ := ha
  refine ⟨fun ρ S src S1 h => ?_, _, pi_range1 hg hm (pa_cons pa pa_nil (he_of hx)) (by rw [he_of hx]; rfl), fun ρ S σ H α Q he hs p => ?_⟩
  · obtain ⟨x, S2, _, h2⟩ := R.bind_eq_ok h
    split at h2
    · obtain ⟨h3, rfl⟩ := R.of_ok h2
      obtain ⟨_, _, rfl⟩ := rngD_ok h3
      rfl
    · cases h2
  · refine ha _ _ _ _ _ _ he hs (p.bind.imp fun x H1 ⟨α1, S1, d, e1, s1, r1, p1⟩ => ?_)
    cases r1 with
    | int n =>
      dsimp only at p1
      cases h : rngD 0 n with
      | none => rw [h] at p1; exact p1.elim
      | some src =>
        rw [h] at p1
        obtain ⟨h1, h2, rfl⟩ := rngD_ok h
        refine ⟨n, rfl, h2.1, h2.2, ?_⟩
        have := p1.ok s1 (itr_rng 0 (n - 0).toNat)
        rwa [Int.sub_zero] at this
    | _ => exact p1.elim
theorem si_rng2 {tg : Expr} {p' : Pos} (hg : Gl X "range") (hm : X.mg "range" = none) (hx : ∀ v q, a ≠ .Starred v q) (hy : ∀ v q, b ≠ .Starred v q) (ha : SE CA X W a fa) (hb : SE CA X W b fb) : SI CA X W tg (.Call (.Name "range" p') [a, b] [] pos) (fun ρ S => (fa ρ S).bind fun x S1 => (fb ρ S1).bind fun y S2 => match x, y with
    | .int m, .int n => .of S2 (rngD m n)
    | _, _ => .no) := by
  obtain ⟨ta, pa, ha⟩ := ha
  obtain ⟨tb, pb, hb⟩ := hb
  refine ⟨fun ρ S src S1 h => ?_, _, pi_range2 hg hm (pa_cons pa (pa_cons pb pa_nil (he_of hy)) (he_of hx)) (by rw [he_of hx, he_of hy]; rfl) (by rw [he_of hy]; rfl), fun ρ S σ H α Q he hs p => ?_⟩
  · obtain ⟨x, S2, _, h2⟩ := R.bind_eq_ok h
    obtain ⟨y, S3, _, h3⟩ := R.bind_eq_ok h2
    split at h3
    · obtain ⟨h4, rfl⟩ := R.of_ok h3
      obtain ⟨_, _, rfl⟩ := rngD_ok h4
      rfl
    · cases h3
  · refine two_parts ha hb he hs p fun α2 H2 S2 d e x y _ s2 r1 r2 p2 => ?_
    cases r1 with
    | int m =>
      cases r2 with
      | int n =>
        dsimp only at p2
        cases h : rngD m n with
        | none => rw [h] at p2; exact p2.elim
        | some src =>
          rw [h] at p2
          obtain ⟨h1, h2, rfl⟩ := rngD_ok h
          exact ⟨m, n, rfl, ⟨h1.1, h1.2, h2.1, h2.2⟩, p2.ok s2 (itr_rng m (n - m).toNat)⟩
      | _ => exact p2.elim
    | _ => cases r2 <;> exact p2.elim
/-! ### a comprehension against [] -/
theorem dp_any {K : PySem.W.Frag} {α : List (Addr × Bool)} {H : Hp} {S : Sto} (s : StR K α H S) {l : List D} {vs : List V} (rl : RpL K α H l vs) (h : l.all (plain 40 S) = true) : ∃ ds, DpAll K H vs ds ∧ SeqAt.shaped (.list ds) = true ∧ PyData.eqv (.list ds) (.list []) = l.isEmpty := by
  refine ⟨_, dpAll_of s 40 h rl, shapedL_of S h, ?_⟩
  cases l <;> simp [PyData.eqv, PyData.eqvAll]
theorem pure_nil : PE X (.List [] pos) (tLst tNil) := pe_lst pa_nil
def negOp (neg : Bool) : CmpOp := if neg then .NotEq else .Eq
theorem se_nilc {neg : Bool} {p2 : Pos} {f : Env → Sto → R (List D)} (hu : X.A.units + 64 < cLine) (h : SCm CA X W a f) :
    SE CA X W (.Compare a [negOp neg] [.List [] p2] pos) (fun ρ S => (f ρ S).bind fun l S1 => if l.all (plain 40 S1) then .ok (.bl (if neg then !l.isEmpty else l.isEmpty)) S1 else .no) ∧
    STe CA X W (.Compare a [negOp neg] [.List [] p2] pos) (fun ρ S => tru ((f ρ S).bind fun l S1 => if l.all (plain 40 S1) then .ok (.bl (if neg then !l.isEmpty else l.isEmpty)) S1 else .no)) := by
  obtain ⟨t, pt, _, ht⟩ := h
  have core : ∀ {ρ : Env} {S : Sto} {σ : SL} {H : Hp} {α : List (Addr × Bool)} {Q : VK}, EnvR X.K α H ρ σ → StR X.K α H S →
      (match f ρ S with | .ok l S1 => ∃ b, (l.all (plain 40 S1) = true ∧ b = (if neg then !l.isEmpty else l.isEmpty)) ∧ ∀ α' H', Ext α H α' H' → StR X.K α' H' S1 → Q (.bl b) H' | .ex x S' => ∀ α' H' cls d, Ext α H α' H' → StR X.K α' H' S' → ExR X.K CA α' H' x cls d → wAt W σ cls d H' | .no => False) →
      tOp (if neg then rNeD X.K else rEqD X.K) t (tLst tNil) σ H Q := by
    intro ρ S σ H α Q he hs p
    refine ht ρ S σ H α _ he hs ?_
    cases h : f ρ S with
    | no => rw [h] at p; exact p
    | ex x S1 => rw [h] at p; exact p
    | ok l S1 =>
      rw [h] at p
      obtain ⟨b, ⟨hp, rfl⟩, hq⟩ := p
      intro α' H' q vs e s hq0 hqv nq rl
      refine ⟨by show 0 ≤ sizeLine; exact Nat.zero_le _, fun r hr => ?_⟩
      have ea : Ext α' H' α' (upd H' r (.lst [])) := Ext.aside hr
      have rl' := rl.ext ea
      have s' := s.fresh (ho := .lst []) hr
      obtain ⟨ds, d1, d2, d3⟩ := dp_any s' rl' hp
      have hqv' : upd H' r (.lst []) q = some (.lst vs) := upd_keep hr hqv
      have fin := hq α' _ (e.trans ea) s'
      cases neg with
      | true => exact ⟨_, _, .lst (SqL.of hqv') d1, .lst (SqL.of upd_same) .nil, d2, rfl, by rw [d3]; exact fin⟩
      | false => exact ⟨_, _, .lst (SqL.of hqv') d1, .lst (SqL.of upd_same) .nil, d2, rfl, by rw [d3]; exact fin⟩
  have op : OpR X (compareOp (negOp neg)) (if neg then rNeD X.K else rEqD X.K) := by
    cases neg
    · exact op_eqD hu
    · exact op_neD hu
  have hm : behindInMarks (negOp neg) (.List [] p2) = false := by cases neg <;> rfl
  refine ⟨⟨_, pe_cmpR op pt pure_nil hm, fun ρ S σ H α Q he hs p => core he hs ?_⟩, ⟨_, pt_cmpR op pt pure_nil hm, fun ρ S σ H α Q he hs p => core he hs ?_⟩⟩
  · dsimp only at p
    cases h : f ρ S with
    | no => rw [h] at p; exact p
    | ex x S1 => rw [h] at p; exact p
    | ok l S1 =>
      rw [h] at p
      simp only [R.bind_ok] at p
      split at p
      · rename_i c
        exact ⟨_, ⟨c, rfl⟩, fun α' H' e s => p α' H' _ e s (.bl _)⟩
      · exact p.elim
  · unfold tru at p
    dsimp only at p
    cases h : f ρ S with
    | no => rw [h] at p; exact p
    | ex x S1 => rw [h] at p; exact p
    | ok l S1 =>
      rw [h] at p
      simp only [R.bind_ok] at p
      split at p
      · rename_i c
        simp only [R.bind_ok, truD, R.of_some] at p
        exact ⟨_, ⟨c, rfl⟩, fun α' H' e s => ⟨_, rfl, p α' H' _ e s rfl⟩⟩
      · exact p.elim
theorem R.ite_bind {α β : Type} {c : Prop} [Decidable c] {r : R α} {g : α → Sto → R β} : (if c then r else .no).bind g = if c then r.bind g else .no := by split <;> rfl
/-! ### in a list that is written out -/
def inOp (neg : Bool) : CmpOp := if neg then .NotIn else .In
theorem se_inl {neg : Bool} {p2 : Pos} (hu : X.A.units + 65 < cLine) (ha : SE CA X W a fa) (h : SA CA X W es fs) :
    SE CA X W (.Compare a [inOp neg] [.List es p2] pos) (fun ρ S => (fa ρ S).bind fun x S1 => (fs ρ S1).bind fun l S2 => if l.length ≤ line then ofB S2 (if neg then notB (inD S2 x l) else inD S2 x l) else .no) ∧
    STe CA X W (.Compare a [inOp neg] [.List es p2] pos) (fun ρ S => tru ((fa ρ S).bind fun x S1 => (fs ρ S1).bind fun l S2 => if l.length ≤ line then ofB S2 (if neg then notB (inD S2 x l) else inD S2 x l) else .no)) := by
  obtain ⟨ta, pa, ha⟩ := ha
  obtain ⟨t, pt, ht⟩ := h
  have core : ∀ {ρ : Env} {S : Sto} {σ : SL} {H : Hp} {α : List (Addr × Bool)} {Q : VK} {β γ : Type} {rel : List (Addr × Bool) → Hp → β → γ → Prop} {k : D → List D → Sto → R β} {Q2 : γ → Hp → Prop}, EnvR X.K α H ρ σ → StR X.K α H S →
      Post X.K CA rel α H ((fa ρ S).bind fun x S1 => (fs ρ S1).bind fun l S2 => if l.length ≤ line then k x l S2 else .no) Q2 (wAt W σ) →
      (∀ α' H' x l S', StR X.K α' H' S' → Post X.K CA rel α' H' (k x l S') Q2 (wAt W σ) → plain 40 S' x = true ∧ l.all (plain 40 S') = true ∧ Q (.bl (if neg then !(l.any fun b => eqv 40 S' b x) else l.any fun b => eqv 40 S' b x)) H') →
      tOp (if neg then rNotInD X.K else rInD X.K) ta (tLst t) σ H Q := by
    intro ρ S σ H α Q β γ rel k Q2 he hs p hk
    refine ha _ _ _ _ _ _ he hs (p.bind.imp fun x H1 ⟨α1, S1, d, e1, s1, r1, p1⟩ => ?_)
    refine ht _ _ _ _ _ _ (he.ext e1) s1 (p1.bind.imp fun xs H2 ⟨α2, S2, ds, e2, s2, r2, p2⟩ => ?_)
    split at p2
    · rename_i c
      refine ⟨by rw [← line_eq, ← r2.length]; exact c, fun r hr => ?_⟩
      have ea : Ext α2 H2 α2 (upd H2 r (.lst xs)) := Ext.aside hr
      have s' := s2.fresh (ho := .lst xs) hr
      obtain ⟨h1, h2, h3⟩ := hk α2 _ d ds S2 s' (Post.ext ea p2)
      have q1 := dp_of s' 40 h1 ((r1.ext e2).ext ea)
      have q2 : Dp X.K (upd H2 r (.lst xs)) (.ref r) (.list (ds.map (toPy 40 S2))) := .lst (SqL.of upd_same) (dpAll_of s' 40 h2 (r2.ext ea))
      cases neg with
      | true => exact ⟨_, _, q1, q2, shaped_of S2 h1, shapedL_of S2 h2, by rw [any_py h1 h2]; exact h3⟩
      | false => exact ⟨_, _, q1, q2, shaped_of S2 h1, shapedL_of S2 h2, by rw [any_py h1 h2]; exact h3⟩
    · exact p2.elim
  have op : OpR X (compareOp (inOp neg)) (if neg then rNotInD X.K else rInD X.K) := by
    cases neg
    · exact op_inD hu
    · exact op_notInD hu
  have hm : behindInMarks (inOp neg) (.List es p2) = false := by cases neg <;> rfl
  have dec : ∀ {S' : Sto} {x : D} {l : List D} {k : Bool}, (if neg then notB (inD S' x l) else inD S' x l) = some k → plain 40 S' x = true ∧ l.all (plain 40 S') = true ∧ k = (if neg then !(l.any fun b => eqv 40 S' b x) else l.any fun b => eqv 40 S' b x) := by
    intro S' x l k h
    unfold inD at h
    by_cases c : (plain 40 S' x && l.all (plain 40 S')) = true
    · rw [if_pos c] at h
      simp only [Bool.and_eq_true] at c
      cases neg <;> (simp only [notB, if_true, if_false, Bool.false_eq_true] at h ⊢; cases h; exact ⟨c.1, c.2, rfl⟩)
    · rw [if_neg c] at h
      cases neg <;> simp [notB] at h
  refine ⟨⟨_, pe_cmpR op pa (pe_lst pt) hm, fun ρ S σ H α Q he hs p => core (k := fun x l S2 => ofB S2 (if neg then notB (inD S2 x l) else inD S2 x l)) he hs p fun α' H' x l S' s' q => ?_⟩, ⟨_, pt_cmpR op pa (pe_lst pt) hm, fun ρ S σ H α Q he hs p => ?_⟩⟩
  · cases h : (if neg then notB (inD S' x l) else inD S' x l) with
    | none => rw [h] at q; exact q.elim
    | some k =>
      rw [h] at q
      obtain ⟨h1, h2, rfl⟩ := dec h
      exact ⟨h1, h2, q.ok s' (.bl _)⟩
  · unfold tru at p
    simp only [R.bind_assoc, R.ite_bind] at p
    refine core (k := fun x l S2 => (ofB S2 (if neg then notB (inD S2 x l) else inD S2 x l)).bind fun d S => .of S (truD S d)) he hs p fun α' H' x l S' s' q => ?_
    cases h : (if neg then notB (inD S' x l) else inD S' x l) with
    | none => rw [h] at q; exact q.elim
    | some k =>
      rw [h] at q
      obtain ⟨h1, h2, rfl⟩ := dec h
      exact ⟨h1, h2, _, rfl, q.ok s' rfl⟩
end
end Eg

namespace Eg
open PySem PySem.Spec PyProof.Rows L2
section
variable {X : Cx} {CA : Nat → Addr} {W : WX} {pos : Pos} {a b : Expr} {fa fb : Env → Sto → R D} {es : List Expr} {fs : Env → Sto → R (List D)}
theorem pe_or2 {t t' : TE} (h : PE X a t) (h' : PE X a t') : PE X a (fun σ H Q => t σ H Q ∨ t' σ H Q) := by
  constructor
  intro pins s σ H Q I q
  rcases q with q | q
  · exact h.run pins s σ H Q I q
  · exact h'.run pins s σ H Q I q
def varF (i : Nat) : Env → Sto → R D := fun ρ S => match ρ[i]? with | some (some d) => .ok d S | _ => .no
def valvF (i : Nat) : Env → Sto → R Src := fun ρ S => match ρ[i]? with
  | some (some d) => if isD0 S d then .ok ([], none) S else .of S (srcD S d)
  | _ => .no
/-- over a name: a list, a tuple, a text, or a dict without keys -/
theorem sc_compv {elt tg : Expr} {ifs : List Expr} {scope : Scope} {own : List (PySem.Str × Nat)} {bd : Sto → D → Env → Option Env} {sl : List Nat} {ft : Env → Sto → R Bool} {fe : Env → Sto → R D} {i : Nat} {x : PySem.Str} {ip : Pos}
    (hc : X.calm = true) (hN : X.N.Nodup) (hX : X.N[i]? = some x) (hv : Vis X.env.scope x) (hd : (x == ("__debug__" : PySem.Str)) = false) (hcd : (x == ("__classdict__" : PySem.Str)) = false) (ok : BlkOk X.N X.env.scope scope own) (hsub : ∀ j ∈ sl, j ∈ own.map (·.2)) (hbl : ∀ S d ρ ρ', bd S d ρ = some ρ' → ρ'.length = ρ.length)
    (hg : ∀ (s : Shared) (H : Hp) (C : Addr) (cl : List (PySem.Str × Addr)) (fp : List Addr), SG (X.blk s H scope (compEnvC scope cl C X.env) fp) tg bd sl)
    (ht : ∀ (s : Shared) (H : Hp) (C : Addr) (cl : List (PySem.Str × Addr)) (fp : List Addr), STo CA (X.blk s H scope (compEnvC scope cl C X.env) fp) ifs ft)
    (he : ∀ (s : Shared) (H : Hp) (C : Addr) (cl : List (PySem.Str × Addr)) (fp : List Addr), SE CA (X.blk s H scope (compEnvC scope cl C X.env) fp) W0 elt fe) :
    SCm CA X W (.ListComp elt [⟨tg, .Name x ip, ifs, 0⟩] scope pos) (fun ρ S => (valvF i ρ S).bind fun p S1 => if p.1.length ≤ line then compL (fun x S => bd S x (wipeE ρ (own.map (·.2)))) ft fe p.2 p.1 [] S1 else .no) := by
  have hvar : SE CA X W (.Name x ip) (varF i) := se_var hX hv hd hcd
  obtain ⟨t1, p1, a1, q1⟩ := sc_comp (pos := pos) hc hN (si_val (tg := tg) hvar) ok hsub hbl hg ht he (fun _ => rfl)
  have p2 : PE X (.ListComp elt [⟨tg, .Name x ip, ifs, 0⟩] scope pos) (tLockE (tLc (iKeys (tVar i)) (gE X.K bd sl) (tT X.K CA W0 ft) (tE X.K CA W0 fe) (own.map (·.2)))) :=
    pe_lock (pe_lc (g := gE X.K bd sl) (tt := tT X.K CA W0 ft) (te := tE X.K CA W0 fe) hc hN (pi_keys (pe_var hX hv hd hcd)) ok (fun s H C cl fp => (hg s H C cl fp).pg) (fun s H C cl fp => ht s H C cl fp) (fun s H C cl fp => (he s H C cl fp).pe) (fun _ => rfl))
  refine ⟨_, pe_or2 p1 p2, fun j y py spos hy hl hsw => ?_, fun ρ S σ H α Q hen hst p => ?_⟩
  · have z1 := a1 j y py spos hy hl hsw
    have z2 := ps_lock (ps_setLc (g := gE X.K bd sl) (tt := tT X.K CA W0 ft) (te := tE X.K CA W0 fe) hc hN hy hl hsw (pi_keys (pe_var hX hv hd hcd)) ok (fun s H C cl fp => (hg s H C cl fp).pg) (fun s H C cl fp => ht s H C cl fp) (fun s H C cl fp => (he s H C cl fp).pe) (fun _ => rfl))
    exact ⟨fun pins s σ H D I hw => hw.elim (fun a => z1.run pins s σ H D I a) fun a => z2.run pins s σ H D I a⟩
  dsimp only at p
  unfold valvF at p
  split at p
  · rename_i d e
    by_cases c : isD0 S d = true
    · rw [if_pos c] at p
      simp only [R.bind_ok, List.length_nil, Nat.zero_le, if_true, compL] at p
      obtain ⟨v, hvσ, r⟩ := hen.get i d e
      cases r with
      | @ref n ad m ha =>
        have hS : S[n]? = some (.dct []) := of_decide_eq_true c
        obtain ⟨_, kvs, h1, h2⟩ := hst.at_ n ad m _ ha hS
        cases h2
        refine .inr ⟨ad, _, h1, trivial, fun od => ⟨_, hvσ, ad, od, rfl, .inl ⟨[], upd_same, fun q hq => ?_⟩⟩⟩
        have hqa : q ≠ ad := fun z => by subst z; rw [upd_same] at hq; cases hq
        have hqH : H q = none := by rw [upd_ne hqa] at hq; exact hq
        refine ⟨fun i m H' => i = 0 ∧ H' = upd (upd H ad (.frz od (.dK []))) q (.lst []), ⟨0, rfl, rfl⟩, ?_⟩
        rintro i m H' ⟨rfl, rfl⟩
        refine .inl ⟨⟨by rw [upd_ne (Ne.symm hqa), upd_same], Nat.le_refl _⟩, by rw [upd_ne (Ne.symm hqa), upd_same], ?_⟩
        have eH : upd (upd (upd H ad (.frz od (.dK []))) q (.lst [])) ad (.dK []) = upd H q (.lst []) := by
          funext z
          unfold upd
          by_cases z1 : z = ad
          · subst z1
            rw [if_pos rfl, if_neg (Ne.symm hqa)]; exact h1.symm
          · rw [if_neg z1]
            by_cases z2 : z = q
            · rw [if_pos z2, if_pos z2]
            · rw [if_neg z2, if_neg z2, if_neg z1]
        rw [eH]
        exact p α _ q [] (Ext.aside hqH) (hst.fresh hqH) hqH upd_same (hst.off hqH) .nil
      | _ => cases c
    · rw [if_neg c] at p
      refine .inl (q1 ρ S σ H α Q hen hst ?_)
      dsimp only
      unfold varF
      rw [e]
      exact p
  · exact p.elim
/-! ### methods -/
theorem tyV_of {K : PySem.W.Frag} {α : List (Addr × Bool)} {H : Hp} {S : Sto} {n : Nat} {ad : Addr} {m : Bool} {l : List D} (s : StR K α H S) (ha : α[n]? = some (ad, m)) (h : lstOf S n = some l) : tyV K "list" (.ref ad) H := by
  obtain ⟨vs, h1, _⟩ := s.rd h ha
  exact .inl ⟨rfl, vs, h1⟩
/-- list.append -/
def appF (fa fb : Env → Sto → R D) : Env → Sto → R D := fun ρ S => (fa ρ S).bind fun x S1 => match x with
  | .ref n => match lstOf S1 n with
    | some _ => (fb ρ S1).bind fun v S2 => meD .append (.ref n) [v] S2
    | none => .no
  | _ => .no
def notCall : Expr → Bool
  | .Call _ _ _ _ => false
  | _ => true
theorem base_of {x : PySem.Str} {env : PySem.Env} {w : Sem Value} (h : notCall a = true) : attributeBase a x env w = w := by
  cases a <;> first | rfl | cases h
theorem few_of {cpos : Pos} {env : PySem.Env} (hx : ∀ v q, b ≠ .Starred v q) : ((backTo cpos (starEach [b] env)).all (fun x => !x.1) && (backToKw cpos (keywordEach [] env)).all (fun x => x.1.isSome)
      && decide ([b].length + ([] : List Keyword).length + (if ([] : List Keyword).isEmpty then 0 else 1) < 30)) = true := by
  have e : starEach [b] env = [(false, eval b env)] := by cases b <;> first | rfl | exact absurd rfl (hx _ _)
  rw [e]; rfl
theorem se_append {ap : Pos} (hnc : notCall a = true) (hl : (ap.endLine == pos.line) = true) (hx : ∀ v q, b ≠ .Starred v q) (ha : SE CA X W a fa) (hb : SE CA X W b fb) : SE CA X W (.Call (.Attribute a "append" ap) [b] [] pos) (appF fa fb) := by
  obtain ⟨ta, pa, ha⟩ := ha
  obtain ⟨tb, pb, hb⟩ := hb
  refine ⟨_, pe_bm PySem.F.plainAttrs_list PySem.F.slot_list_append PySem.F.type_list_append mt_append pa (pa_cons pb pa_nil (he_of hx)) (hbase := base_of hnc) (hfew := few_of hx) (hline := hl) (hs := he_of hx), fun ρ S σ H α Q he hs p => ?_⟩
  unfold appF at p
  refine ha _ _ _ _ _ _ he hs (p.bind.imp fun x H1 ⟨α1, S1, d, e1, s1, r1, p1⟩ => ?_)
  cases r1 with
  | @ref n ad m had =>
    dsimp only at p1
    cases h : lstOf S1 n with
    | none => rw [h] at p1; exact p1.elim
    | some l0 =>
      rw [h] at p1
      refine ⟨tyV_of s1 had h, ?_⟩
      refine hb _ _ _ _ _ _ (he.ext e1) s1 (p1.bind.imp fun y H2 ⟨α2, S2, d2, e2, s2, r2, p2⟩ => ?_)
      simp only [meD] at p2
      split at p2
      · rename_i l e
        obtain ⟨β, rfl, _⟩ := e2.pre
        have had2 := get_pre (r := β) had
        obtain ⟨rfl, vs, h1, rl⟩ := s2.at_ n ad m _ had2 e
        split at p2
        · rename_i c
          refine ⟨ad, vs, y, rfl, rfl, h1, by rw [← line_eq, ← rl.length]; exact c, ?_⟩
          have mu : Mut (H2 ad) := by rw [h1]; trivial
          have ew := Ext.write (ho := .lst (vs ++ [y])) had2 mu
          exact p2 _ _ _ ew (s2.write had2 ⟨rfl, _, upd_same, (rl.append (RpL.one r2)).ext ew⟩) .non
        · exact p2.elim
      · exact p2.elim
  | _ => exact p1.elim
end
end Eg

namespace Eg
open PySem PySem.Spec PyProof.Rows L2
/-! ### the text against the syntax -/
structure Glo where
  T : List Df
  cons : List (List Nat × D)
  kws : List (Nat × List Nat × List (List Nat))
  cls : List (List Nat)
  flds : List (List Nat)
  exs : List (Nat × List (List Nat))
  sub : Nat → Nat → Bool
structure Ck where
  N : List PySem.Str
  sc : Scope
  fn : PySem.Str → Bool
def Ck.blk (k : Ck) (scope : Scope) : Ck := ⟨k.N, relS scope k.sc, fun x => scope.names.lookup x == some .cell⟩
def glB (sc : Scope) (x : PySem.Str) : Bool := decide (sc.names.lookup x = some .globalImplicit)
def visB (sc : Scope) (x : PySem.Str) : Bool := match sc.names.lookup x with
  | some .local => true | some .cell => true | some .free => true | _ => false
def nmB (x : PySem.Str) : Bool := !(x == ("__debug__" : PySem.Str)) && !(x == ("__classdict__" : PySem.Str))
def locB (k : Ck) (x : PySem.Str) : Bool := match k.sc.names.lookup x with
  | some .local => true | some .cell => k.fn x | _ => false
def notSl : Expr → Bool
  | .Slice _ _ _ _ => false
  | _ => true
def notSet : Expr → Bool
  | .Set _ _ _ => false
  | _ => true
def okL : D → Const → Bool
  | .non, .none => true
  | .bl b, .bool c => b == c
  | .int i, .int j => decide (i = j)
  | .str s, .str x => decide (x = cs s)
  | _, _ => false
mutual
def okT (k : Ck) : Tg → Expr → Bool
  | .nm i, pe => match pe with
    | .Name x _ => decide (k.N[i]? = some x) && locB k x
    | _ => false
  | .tp ts, pe => match pe with
    | .Tuple xs _ _ => noStar xs && okTs k ts xs
    | _ => false
def okTs (k : Ck) : List Tg → List Expr → Bool
  | [], xs => match xs with
    | [] => true
    | _ => false
  | t :: ts, xs => match xs with
    | x :: xs => okT k t x && okTs k ts xs
    | _ => false
end
def okTy (k : Ck) : List Ty → List Expr → Bool
  | [], [] => true
  | t :: ts, .Name x _ :: xs => !t.own && decide (x = tName t) && glB k.sc x && okTy k ts xs
  | _, _ => false
def ownP (k : Ck) (own : List Nat) : List (PySem.Str × Nat) := own.map fun i => ((k.N[i]?).getD ("" : PySem.Str), i)
section
variable (G : Glo)
mutual
def okE (k : Ck) : E → Expr → Bool
  | .lit d, pe => match pe with
    | .Constant c _ _ => okL d c
    | _ => false
  | .var i, pe => match pe with
    | .Name x _ => decide (k.N[i]? = some x) && visB k.sc x && nmB x
    | _ => false
  | .con x d, pe => match pe with
    | .Name y _ => decide (y = cs x) && glB k.sc y && nmB y && decide ((x, d) ∈ G.cons)
    | _ => false
  | .bin o a b, pe => match pe with
    | .BinOp x op y _ => decide (op = opOf o) && okE k a x && okE k b y
    | _ => false
  | .neg a, pe => match pe with
    | .UnaryOp op x _ => decide (op = .USub) && okE k a x
    | _ => false
  | .cmp o a b, pe => match pe with
    | .Compare x [op] [y] _ => decide (op = cOf o) && !behindInMarks op y && okE k a x && okE k b y
    | _ => false
  | .cmp2 o p a b d, pe => match pe with
    | .Compare x [op, op'] [y, z] _ => decide (op = cOf o) && decide (op' = cOf p) && !lastMarks [op, op'] [y, z] && okE k a x && okE k b y && okE k d z
    | _ => false
  | .and a b, pe => match pe with
    | .BoolOp op [x, y] _ => decide (op = .And) && okE k a x && okE k b y
    | .BoolOp op (x :: y :: z :: r) p => decide (op = .And) && okE k a x && okE k b (.BoolOp .And (y :: z :: r) p)
    | _ => false
  | .or a b, pe => match pe with
    | .BoolOp op [x, y] _ => decide (op = .Or) && okE k a x && okE k b y
    | .BoolOp op (x :: y :: z :: r) p => decide (op = .Or) && okE k a x && okE k b (.BoolOp .Or (y :: z :: r) p)
    | _ => false
  | .not a, pe => match pe with
    | .UnaryOp op x _ => decide (op = .Not) && okE k a x
    | _ => false
  | .ite c a b, pe => match pe with
    | .IfExp t x y _ => okE k c t && okE k a x && okE k b y
    | _ => false
  | .tup es, pe => match pe with
    | .Tuple xs _ _ => okEs k es xs
    | _ => false
  | .lst es, pe => match pe with
    | .List xs _ => okEs k es xs
    | _ => false
  | .dct0, pe => match pe with
    | .Dict [] [] _ => true
    | _ => false
  | .idx a i, pe => match pe with
    | .Subscript x y _ => notSl y && okE k a x && okE k i y
    | _ => false
  | .idxl es i, pe => match pe with
    | .Subscript (.List xs _) y _ => notSl y && okEs k es xs && okE k i y
    | _ => false
  | .slc a lo hi, pe => match pe with
    | .Subscript x (.Slice l h none _) _ => okE k a x && okO k lo l && okO k hi h
    | _ => false
  | .call f es, pe => match pe with
    | .Call (.Name x _) (y :: xs) [] _ => match G.T[f]? with
      | some d => decide (x = cs d.name) && glB k.sc x && nmB x && noStar (y :: xs) && okEs k es (y :: xs)
      | none => false
    | _ => false
  | .callk f perm ks es, pe => match pe with
    | .Call (.Name x _) [] kws _ => match G.T[f]? with
      | some d => decide (x = cs d.name) && glB k.sc x && nmB x && decide ((f, perm, ks) ∈ G.kws) && kwNames kws ks && okKs k es kws
      | none => false
    | _ => false
  | .bi b es, pe => match pe with
    | .Call (.Name x _) (y :: xs) [] _ => decide (x = bName b) && glB k.sc x && noStar (y :: xs) && okEs k es (y :: xs)
    | _ => false
  | .isi a ts, pe => match pe with
    | .Call (.Name x _) [y, .Name z q] [] _ => decide (x = ("isinstance" : PySem.Str)) && glB k.sc x && noStar [y] && okE k a y && decide (ts.length = 1) && okTy k ts [.Name z q]
    | .Call (.Name x _) [y, .Tuple zs _ _] [] _ => decide (x = ("isinstance" : PySem.Str)) && glB k.sc x && noStar [y] && okE k a y && decide (ts.length ≤ 10) && okTy k ts zs
    | _ => false
  | .comp q, pe => okC k q pe
  | .bic b q, pe => match pe with
    | .Call (.Name x _) [y] [] _ => decide (x = bName b) && glB k.sc x && noStar [y] && okC k q y
    | _ => false
  | .nilc neg q, pe => match pe with
    | .Compare x [op] [.List [] _] _ => decide (op = negOp neg) && okC k q x
    | _ => false
  | .inl neg a es, pe => match pe with
    | .Compare x [op] [.List ys _] _ => decide (op = inOp neg) && okE k a x && okEs k es ys
    | _ => false
  | .app a b, pe => match pe with
    | .Call (.Attribute x m ap) [y] [] pos => decide (m = ("append" : PySem.Str)) && notCall x && (ap.endLine == pos.line) && noStar [y] && okE k a x && okE k b y
    | _ => false
  | .no, _ => true
def okO (k : Ck) : Option E → Option Expr → Bool
  | none, pe => match pe with
    | none => true
    | some _ => false
  | some e, pe => match pe with
    | some x => okE k e x
    | none => false
def okEs (k : Ck) : Es → List Expr → Bool
  | .nil, xs => match xs with
    | [] => true
    | _ => false
  | .cons e es, xs => match xs with
    | x :: xs => noStar [x] && okE k e x && okEs k es xs
    | _ => false
  | .star e es, xs => match xs with
    | .Starred x _ :: xs => okE k e x && okEs k es xs
    | _ => false
def okKs (k : Ck) : Es → List Keyword → Bool
  | .nil, xs => match xs with
    | [] => true
    | _ => false
  | .cons e es, xs => match xs with
    | ⟨_, x, _⟩ :: xs => okE k e x && okKs k es xs
    | _ => false
  | .star _ _, _ => false
def okC (k : Ck) : C → Expr → Bool
  | .mk own e tg it c, pe => match pe with
    | .ListComp elt [⟨t, iter, ifs, as⟩] scope _ => decide (as = 0) && notSet iter && blkC k.N k.sc scope (ownP k own) && tg.slots.all (fun j => decide (j ∈ own)) && okI k it iter && okT (k.blk scope) tg t && okF (k.blk scope) c ifs && okE (k.blk scope) e elt
    | _ => false
def okF (k : Ck) : Option E → List Expr → Bool
  | none, xs => match xs with
    | [] => true
    | _ => false
  | some e, xs => match xs with
    | [x] => okE k e x
    | _ => false
def okI (k : Ck) : I → Expr → Bool
  | .val e, pe => okE k e pe
  | .valv i, pe => match pe with
    | .Name x _ => decide (k.N[i]? = some x) && visB k.sc x && nmB x
    | _ => false
  | .lst es, pe => match pe with
    | .List xs _ => okEs k es xs
    | _ => false
  | .rng1 a, pe => match pe with
    | .Call (.Name x _) [y] [] _ => decide (x = ("range" : PySem.Str)) && glB k.sc x && noStar [y] && okE k a y
    | _ => false
  | .rng2 a b, pe => match pe with
    | .Call (.Name x _) [y, z] [] _ => decide (x = ("range" : PySem.Str)) && glB k.sc x && noStar [y] && noStar [z] && okE k a y && okE k b z
    | _ => false
  | .rng3 _ _ _, _ => false
  | .zip _ _, _ => false
  | .enum _, _ => false
end
end
/-- what a context must bear -/
def bltAll : List PySem.Str := ["len", "abs", "max", "min", "sum", "int", "str", "list", "tuple", "all", "any", "sorted", "bool", "dict", "isinstance", "range"]
structure XO (G : Glo) (CA : Nat → Addr) (c : Cl) (k : Ck) (X : Cx) : Prop where
  n : X.N = k.N
  nd : X.N.Nodup
  sc : X.env.scope = k.sc
  calm : X.calm = true
  hu : X.A.units + 65 < cLine
  fn : ∀ x, k.fn x = true → X.fn x = true
  blt : ∀ x ∈ bltAll, X.mg x = none
  con : ∀ p ∈ G.cons, ∃ u v, X.mg (cs p.1) = some u ∧ RelV v u ∧ ∀ α H, Rp X.K α H p.2 v
  call : ∀ f d, G.T[f]? = some d → CallOk X CA c G.kws f d
theorem XO.blk {G : Glo} {CA : Nat → Addr} {c : Cl} {k : Ck} {X : Cx} (h : XO G CA c k X) (s : Shared) (H : Hp) (scope : Scope) (C : Addr) (cl : List (PySem.Str × Addr)) (fp : List Addr) : XO G CA c (k.blk scope) (X.blk s H scope (compEnvC scope cl C X.env) fp) :=
  ⟨h.n, h.nd, by show relS scope X.env.scope = relS scope k.sc; rw [h.sc], h.calm, h.hu, fun x hx => hx, h.blt, h.con, fun f d e => ⟨(h.call f d e).ex⟩⟩
section
variable {G : Glo} {CA : Nat → Addr} {c : Cl} {k : Ck} {X : Cx}
theorem XO.gl (h : XO G CA c k X) {x : PySem.Str} (e : glB k.sc x = true) : Gl X x := by
  have := of_decide_eq_true e
  rw [← h.sc] at this
  exact this
theorem XO.vis (h : XO G CA c k X) {x : PySem.Str} (e : visB k.sc x = true) : Vis X.env.scope x := by
  rw [h.sc]
  unfold visB at e
  split at e
  · exact .inl (by assumption)
  · exact .inr (.inl (by assumption))
  · exact .inr (.inr (by assumption))
  · cases e
theorem XO.loc (h : XO G CA c k X) {x : PySem.Str} (e : locB k x = true) : Loc X.env.scope x ∧ (X.fn x = true ∨ X.env.scope.names.lookup x = some .local) := by
  rw [h.sc]
  unfold locB at e
  split at e
  · exact ⟨.inl (by assumption), .inr (by assumption)⟩
  · exact ⟨.inr (by assumption), .inl (h.fn x e)⟩
  · cases e
theorem nm_of {x : PySem.Str} (e : nmB x = true) : (x == ("__debug__" : PySem.Str)) = false ∧ (x == ("__classdict__" : PySem.Str)) = false := by
  simpa [nmB] using e
theorem bName_all (b : Bi) : bName b ∈ bltAll := by cases b <;> decide +kernel
theorem tName_all {t : Ty} (h : t.own = false) : tName t ∈ bltAll := by
  cases t with
  | cls c => cases h
  | _ => decide +kernel
theorem isi_all : ("isinstance" : PySem.Str) ∈ bltAll := by decide +kernel
theorem rng_all : ("range" : PySem.Str) ∈ bltAll := by decide +kernel
theorem plainIx_of {b : Expr} (h : notSl b = true) : PlainIx b := by
  intro o i
  cases b <;> first | rfl | cases h
theorem folded_of {it : Expr} {env : PySem.Env} (h : notSet it = true) : ∀ x, foldedSetIterable it env x = pure x := by
  intro x
  cases it <;> first | rfl | cases h
theorem noStar1 {x : Expr} (h : noStar [x] = true) : ∀ v p, x ≠ .Starred v p := (noStar_ne h).1
mutual
theorem bindT_len (S : Sto) : ∀ (t : Tg) (d : D) (ρ ρ' : Env), bindT S t d ρ = some ρ' → ρ'.length = ρ.length
  | .nm i, d, ρ, ρ', h => by
    simp only [bindT, setE, Option.some.injEq] at h
    subst h; simp
  | .tp ts, d, ρ, ρ', h => by
    cases d with
    | tup l => simp only [bindT] at h; exact bindTs_len' S ts l ρ ρ' h
    | ref n =>
      simp only [bindT] at h
      split at h
      · exact bindTs_len' S ts _ ρ ρ' h
      · cases h
    | _ => simp [bindT] at h
theorem bindTs_len' (S : Sto) : ∀ (ts : List Tg) (l : List D) (ρ ρ' : Env), bindTs S ts l ρ = some ρ' → ρ'.length = ρ.length
  | [], [], ρ, ρ', h => by simp only [bindTs, Option.some.injEq] at h; subst h; rfl
  | [], _ :: _, _, _, h => by simp [bindTs] at h
  | _ :: _, [], _, _, h => by simp [bindTs] at h
  | t :: ts, d :: l, ρ, ρ', h => by
    simp only [bindTs] at h
    split at h
    · rename_i ρ1 e
      rw [bindTs_len' S ts l ρ1 ρ' h, bindT_len S t d ρ ρ1 e]
    · cases h
end
mutual
theorem sound_t (h : XO G CA c k X) : ∀ (t : Tg) (pe : Expr), okT k t pe = true → SG X pe (fun S d ρ => bindT S t d ρ) t.slots
  | .nm i, pe, e => by
    simp only [okT] at e
    split at e
    · simp only [Bool.and_eq_true, decide_eq_true_eq] at e
      obtain ⟨h1, h2⟩ := h.loc e.2
      exact sg_name h.nd (by rw [h.n]; exact e.1) h1 h2
    · cases e
  | .tp ts, pe, e => by
    simp only [okT] at e
    split at e
    · simp only [Bool.and_eq_true] at e
      obtain ⟨h1, h2⟩ := sound_ts h ts _ e.2
      exact sg_tup h.calm e.1 h1.symm h2
    · cases e
theorem sound_ts (h : XO G CA c k X) : ∀ (ts : List Tg) (pes : List Expr), okTs k ts pes = true → ts.length = pes.length ∧ SGs X pes (fun S ds ρ => bindTs S ts ds ρ) (slotsL ts)
  | [], pes, e => by
    simp only [okTs] at e
    split at e
    · exact ⟨rfl, sgs_nil⟩
    · cases e
  | t :: ts, pes, e => by
    simp only [okTs] at e
    split at e
    · rename_i x xs
      simp only [Bool.and_eq_true] at e
      obtain ⟨h1, h2⟩ := sound_ts h ts _ e.2
      refine ⟨congrArg Nat.succ h1, sgs_cons ?_ (sound_t h t _ e.1) h2⟩
      intro v p z
      subst z
      cases t <;> simp [okT] at e
    · cases e
end
end
end Eg

namespace Eg
open PySem PySem.Spec PyProof.Rows L2
def SB (CA : Nat → Addr) (X : Cx) (W : WX) (pe : Expr) (f : Env → Sto → R D) : Prop := SE CA X W pe f ∧ STe CA X W pe (fun ρ S => tru (f ρ S))
def dflT : Expr → Bool
  | .UnaryOp .Not _ _ => false
  | .BoolOp _ _ _ => false
  | .IfExp _ _ _ _ => false
  | .Compare _ _ _ _ => false
  | _ => true
theorem dflT_ok {a : Expr} {env : PySem.Env} (h : dflT a = true) : ∀ whole, isTrue a env whole = (do let v ← whole; standAt a.pos; holding [v] (truthy v)) := by
  intro whole
  cases a with
  | UnaryOp op x p => cases op <;> first | rfl | cases h
  | BoolOp op x p => cases h
  | IfExp a b d p => cases h
  | Compare a b d p => cases h
  | _ => rfl
section
variable {G : Glo} {CA : Nat → Addr} {c : Cl}
theorem sb_of {X : Cx} {W : WX} {a : Expr} {f : Env → Sto → R D} (h : dflT a = true) (ha : SE CA X W a f) : SB CA X W a f := ⟨ha, ste_of (dflT_ok h) ha⟩
theorem okTy_ok {k : Ck} {X : Cx} (h : XO G CA c k X) : ∀ {ts : List Ty} {zs : List Expr}, okTy k ts zs = true → ∃ ps, ts.length = ps.length ∧ zs = tyNames ts ps ∧ ∀ t ∈ ts, t.own = false ∧ Gl X (tName t) ∧ X.mg (tName t) = none
  | [], [], _ => ⟨[], rfl, rfl, fun t ht => by cases ht⟩
  | [], _ :: _, e => by simp [okTy] at e
  | t :: ts, [], e => by simp [okTy] at e
  | t :: ts, z :: zs, e => by
    unfold okTy at e
    split at e
    · rename_i h1 h2; cases h1
    · rename_i t' ts' x p xs h1 h2
      cases h1; cases h2
      simp only [Bool.and_eq_true, Bool.not_eq_true', decide_eq_true_eq] at e
      obtain ⟨⟨⟨e1, e2⟩, e3⟩, e4⟩ := e
      obtain ⟨ps, h1, h2, h3⟩ := okTy_ok h e4
      subst e2 h2
      refine ⟨p :: ps, congrArg Nat.succ h1, rfl, fun t' ht => ?_⟩
      rcases List.mem_cons.mp ht with rfl | ht
      · exact ⟨e1, h.gl e3, h.blt _ (tName_all e1)⟩
      · exact h3 t' ht
    · cases e
theorem evKs_len {sub : Nat → Nat → Bool} {k : Ck} : ∀ {es : Es} {kws : List Keyword}, okKs G k es kws = true → ∀ ρ S l S', evEs sub c es ρ S = .ok l S' → l.length = kws.length
  | .nil, kws, e, ρ, S, l, S', h => by
    simp only [okKs] at e
    split at e
    · simp only [evEs] at h; cases h; rfl
    · cases e
  | .cons a es, kws, e, ρ, S, l, S', h => by
    simp only [okKs] at e
    split at e
    · simp only [Bool.and_eq_true] at e
      simp only [evEs] at h
      obtain ⟨x, S1, h1, h2⟩ := R.bind_eq_ok h
      obtain ⟨l2, S2, h3, h4⟩ := R.bind_eq_ok h2
      cases h4
      exact congrArg Nat.succ (evKs_len e.2 _ _ _ _ h3)
    · cases e
  | .star _ _, kws, e, _, _, _, _, _ => by simp [okKs] at e
theorem kwNames_len : ∀ {kws : List Keyword} {ks : List (List Nat)}, kwNames kws ks = true → kws.length = ks.length
  | [], [], _ => rfl
  | [], _ :: _, h => by cases h
  | ⟨none, _, _⟩ :: _, _, h => by cases h
  | ⟨some _, _, _⟩ :: _, [], h => by cases h
  | ⟨some x, e, kp⟩ :: r, k :: ks, h => by
    simp only [kwNames, Bool.and_eq_true] at h
    exact congrArg Nat.succ (kwNames_len h.2)
theorem tk0 {X : Cx} : Takes X W0 := takes_none5
theorem ownP_map {k : Ck} (own : List Nat) : (ownP k own).map (·.2) = own := by
  induction own with
  | nil => rfl
  | cons i l ih => exact congrArg (i :: ·) ih
def I.plainI : I → Bool
  | .valv _ => false
  | _ => true
theorem ste_no {X : Cx} {W : WX} {pe : Expr} {f : Env → Sto → R Bool} (h : ∀ ρ S, f ρ S = .no) : STe CA X W pe f := ⟨fun _ _ _ => False, ⟨fun pins s σ H Q I h => h.elim⟩, fun ρ S σ H α Q he hs p => by rw [h] at p; exact p⟩
mutual
theorem sound_e : ∀ (e : E) {k : Ck} {X : Cx} {W : WX} (h : XO G CA c k X) (tk : Takes X W) (pe : Expr), okE G k e pe = true → SB CA X W pe (evE G.sub c e)
  | .lit d, k, X, W, h, tk, pe, e => by
    simp only [okE] at e
    split at e
    · rename_i cc kk pp
      unfold okL at e
      split at e
      · exact sb_of rfl se_non
      · simp only [beq_iff_eq] at e; subst e; exact sb_of rfl se_bl
      · simp only [decide_eq_true_eq] at e; subst e; exact sb_of rfl se_int
      · simp only [decide_eq_true_eq] at e; subst e; exact sb_of rfl se_str
      · cases e
    · cases e
  | .var i, k, X, W, h, tk, pe, e => by
    simp only [okE] at e
    split at e
    · simp only [Bool.and_eq_true, decide_eq_true_eq] at e
      obtain ⟨⟨e1, e2⟩, e3⟩ := e
      obtain ⟨d1, d2⟩ := nm_of e3
      exact sb_of rfl (se_var (by rw [h.n]; exact e1) (h.vis e2) d1 d2)
    · cases e
  | .con x d, k, X, W, h, tk, pe, e => by
    simp only [okE] at e
    split at e
    · simp only [Bool.and_eq_true, decide_eq_true_eq] at e
      obtain ⟨⟨⟨e1, e2⟩, e3⟩, e4⟩ := e
      subst e1
      obtain ⟨u, v, c1, c2, c3⟩ := h.con _ e4
      exact sb_of rfl (se_con (h.gl e2) c1 c2 c3 (nm_of e3).1)
    · cases e
  | .bin o a b, k, X, W, h, tk, pe, e => by
    simp only [okE] at e
    split at e
    · simp only [Bool.and_eq_true, decide_eq_true_eq] at e
      obtain ⟨⟨e1, e2⟩, e3⟩ := e
      subst e1
      exact sb_of rfl (se_bin (sound_e a h tk _ e2).1 (sound_e b h tk _ e3).1)
    · cases e
  | .neg a, k, X, W, h, tk, pe, e => by
    simp only [okE] at e
    split at e
    · simp only [Bool.and_eq_true, decide_eq_true_eq] at e
      obtain ⟨e1, e2⟩ := e
      subst e1
      exact sb_of rfl (se_neg (sound_e a h tk _ e2).1)
    · cases e
  | .cmp o a b, k, X, W, h, tk, pe, e => by
    simp only [okE] at e
    split at e
    · simp only [Bool.and_eq_true, decide_eq_true_eq, Bool.not_eq_true'] at e
      obtain ⟨⟨⟨e1, e2⟩, e3⟩, e4⟩ := e
      subst e1
      exact se_cmp h.hu e2 (sound_e a h tk _ e3).1 (sound_e b h tk _ e4).1
    · cases e
  | .cmp2 o p a b d, k, X, W, h, tk, pe, e => by
    simp only [okE] at e
    split at e
    · simp only [Bool.and_eq_true, decide_eq_true_eq, Bool.not_eq_true'] at e
      obtain ⟨⟨⟨⟨⟨e1, e1'⟩, e2⟩, e3⟩, e4⟩, e5⟩ := e
      subst e1 e1'
      exact se_cmp2 h.hu e2 (sound_e a h tk _ e3).1 (sound_e b h tk _ e4).1 (sound_e d h tk _ e5).1
    · cases e
  | .and a b, k, X, W, h, tk, pe, e => by
    simp only [okE] at e
    split at e
    · simp only [Bool.and_eq_true, decide_eq_true_eq] at e
      obtain ⟨⟨e1, e2⟩, e3⟩ := e
      subst e1
      obtain ⟨a1, a2⟩ := sound_e a h tk _ e2
      obtain ⟨b1, b2⟩ := sound_e b h tk _ e3
      exact ⟨se_and a1 b1.one, (ste_and a2 (SWe.one b2)).st⟩
    · simp only [Bool.and_eq_true, decide_eq_true_eq] at e
      obtain ⟨⟨e1, e2⟩, e3⟩ := e
      subst e1
      obtain ⟨a1, a2⟩ := sound_e a h tk _ e2
      obtain ⟨b1, b2⟩ := sound_e b h tk _ e3
      exact ⟨se_and a1 b1, (ste_and a2 (SWe.of b2)).st⟩
    · cases e
  | .or a b, k, X, W, h, tk, pe, e => by
    simp only [okE] at e
    split at e
    · simp only [Bool.and_eq_true, decide_eq_true_eq] at e
      obtain ⟨⟨e1, e2⟩, e3⟩ := e
      subst e1
      obtain ⟨a1, a2⟩ := sound_e a h tk _ e2
      obtain ⟨b1, b2⟩ := sound_e b h tk _ e3
      exact ⟨se_or a1 b1.one, (ste_or a2 (SWe.one b2)).st⟩
    · simp only [Bool.and_eq_true, decide_eq_true_eq] at e
      obtain ⟨⟨e1, e2⟩, e3⟩ := e
      subst e1
      obtain ⟨a1, a2⟩ := sound_e a h tk _ e2
      obtain ⟨b1, b2⟩ := sound_e b h tk _ e3
      exact ⟨se_or a1 b1, (ste_or a2 (SWe.of b2)).st⟩
    · cases e
  | .not a, k, X, W, h, tk, pe, e => by
    simp only [okE] at e
    split at e
    · simp only [Bool.and_eq_true, decide_eq_true_eq] at e
      obtain ⟨e1, e2⟩ := e
      subst e1
      obtain ⟨a1, a2⟩ := sound_e a h tk _ e2
      exact ⟨se_not a1, ste_not a2⟩
    · cases e
  | .ite t a b, k, X, W, h, tk, pe, e => by
    simp only [okE] at e
    split at e
    · simp only [Bool.and_eq_true] at e
      obtain ⟨⟨e1, e2⟩, e3⟩ := e
      obtain ⟨t1, t2⟩ := sound_e t h tk _ e1
      obtain ⟨a1, a2⟩ := sound_e a h tk _ e2
      obtain ⟨b1, b2⟩ := sound_e b h tk _ e3
      exact ⟨se_ite t2 a1 b1, ste_ite t2 a2 b2⟩
    · cases e
  | .tup es, k, X, W, h, tk, pe, e => by
    simp only [okE] at e
    split at e
    · exact sb_of rfl (se_tup (sound_es es h tk _ e))
    · cases e
  | .lst es, k, X, W, h, tk, pe, e => by
    simp only [okE] at e
    split at e
    · exact sb_of rfl (se_lst (sound_es es h tk _ e))
    · cases e
  | .dct0, k, X, W, h, tk, pe, e => by
    simp only [okE] at e
    split at e
    · exact sb_of rfl se_dct0
    · cases e
  | .idx a i, k, X, W, h, tk, pe, e => by
    simp only [okE] at e
    split at e
    · simp only [Bool.and_eq_true] at e
      obtain ⟨⟨e1, e2⟩, e3⟩ := e
      exact sb_of rfl (se_idx (plainIx_of e1) (sound_e a h tk _ e2).1 (sound_e i h tk _ e3).1)
    · cases e
  | .idxl es i, k, X, W, h, tk, pe, e => by
    simp only [okE] at e
    split at e
    · simp only [Bool.and_eq_true] at e
      obtain ⟨⟨e1, e2⟩, e3⟩ := e
      exact sb_of rfl (se_idxl (plainIx_of e1) (sound_es es h tk _ e2) (sound_e i h tk _ e3).1)
    · cases e
  | .slc a lo hi, k, X, W, h, tk, pe, e => by
    simp only [okE] at e
    split at e
    · simp only [Bool.and_eq_true] at e
      obtain ⟨⟨e1, e2⟩, e3⟩ := e
      exact sb_of rfl (se_slc (sound_e a h tk _ e1).1 (sound_o lo h tk _ e2) (sound_o hi h tk _ e3))
    · cases e
  | .call f es, k, X, W, h, tk, pe, e => by
    simp only [okE] at e
    split at e
    · split at e
      · rename_i d hd
        simp only [Bool.and_eq_true, decide_eq_true_eq] at e
        obtain ⟨⟨⟨⟨e1, e2⟩, e3⟩, e4⟩, e5⟩ := e
        subst e1
        exact sb_of rfl (se_call (h.call f d hd) tk (h.gl e2) (nm_of e3).1 e4 (sound_es es h tk _ e5))
      · cases e
    · cases e
  | .callk f perm ks es, k, X, W, h, tk, pe, e => by
    simp only [okE] at e
    split at e
    · split at e
      · rename_i d hd
        simp only [Bool.and_eq_true, decide_eq_true_eq] at e
        obtain ⟨⟨⟨⟨⟨e1, e2⟩, e3⟩, e4⟩, e5⟩, e6⟩ := e
        subst e1
        exact sb_of rfl (se_callk (h.call f d hd) tk (h.gl e2) (nm_of e3).1 e4 e5 (fun ρ S l S' z => by rw [← kwNames_len e5]; exact evKs_len e6 ρ S l S' z) (sound_ks es h tk _ e6))
      · cases e
    · cases e
  | .bi b es, k, X, W, h, tk, pe, e => by
    simp only [okE] at e
    split at e
    · simp only [Bool.and_eq_true, decide_eq_true_eq] at e
      obtain ⟨⟨⟨e1, e2⟩, e3⟩, e4⟩ := e
      subst e1
      exact sb_of rfl (se_bi h.calm (h.gl e2) (h.blt _ (bName_all b)) (sound_es es h tk _ e4) e3)
    · cases e
  | .isi a ts, k, X, W, h, tk, pe, e => by
    simp only [okE] at e
    split at e
    · simp only [Bool.and_eq_true, decide_eq_true_eq] at e
      obtain ⟨⟨⟨⟨⟨e1, e2⟩, e3⟩, e4⟩, e5⟩, e6⟩ := e
      subst e1
      obtain ⟨ps, p1, p2, p3⟩ := okTy_ok h e6
      match ts, ps, e5, p1, p2, p3 with
      | [t], [q], _, _, p2, p3 =>
        obtain ⟨o1, o2, o3⟩ := p3 t (by simp)
        simp only [tyNames, List.zip_cons_cons, List.zip_nil_right, List.map_cons, List.map_nil, List.cons.injEq, and_true] at p2
        cases p2
        exact sb_of rfl (se_isi1 o1 (h.gl e2) (h.blt _ isi_all) o2 o3 (noStar1 e3) (sound_e a h tk _ e4).1)
    · simp only [Bool.and_eq_true, decide_eq_true_eq] at e
      obtain ⟨⟨⟨⟨⟨e1, e2⟩, e3⟩, e4⟩, e5⟩, e6⟩ := e
      subst e1
      obtain ⟨ps, p1, p2, p3⟩ := okTy_ok h e6
      subst p2
      exact sb_of rfl (se_isiT p1 e5 p3 (h.gl e2) (h.blt _ isi_all) (noStar1 e3) (sound_e a h tk _ e4).1)
    · cases e
  | .comp q, k, X, W, h, tk, pe, e => by
    simp only [okE] at e
    have q1 := sound_c q h tk _ e
    refine sb_of ?_ (se_comp q1)
    cases q with
    | mk own el tg it ct =>
      cases pe <;> first | rfl | simp [okC] at e
  | .bic b q, k, X, W, h, tk, pe, e => by
    simp only [okE] at e
    split at e
    · simp only [Bool.and_eq_true, decide_eq_true_eq] at e
      obtain ⟨⟨⟨e1, e2⟩, e3⟩, e4⟩ := e
      subst e1
      exact sb_of rfl (se_bic h.calm (h.gl e2) (h.blt _ (bName_all b)) e3 (sound_c q h tk _ e4))
    · cases e
  | .nilc neg q, k, X, W, h, tk, pe, e => by
    simp only [okE] at e
    split at e
    · simp only [Bool.and_eq_true, decide_eq_true_eq] at e
      obtain ⟨e1, e2⟩ := e
      subst e1
      exact se_nilc (by have := h.hu; omega) (sound_c q h tk _ e2)
    · cases e
  | .inl neg a es, k, X, W, h, tk, pe, e => by
    simp only [okE] at e
    split at e
    · simp only [Bool.and_eq_true, decide_eq_true_eq] at e
      obtain ⟨⟨e1, e2⟩, e3⟩ := e
      subst e1
      exact se_inl h.hu (sound_e a h tk _ e2).1 (sound_es es h tk _ e3)
    · cases e
  | .app a b, k, X, W, h, tk, pe, e => by
    simp only [okE] at e
    split at e
    · simp only [Bool.and_eq_true, decide_eq_true_eq] at e
      obtain ⟨⟨⟨⟨⟨e1, e2⟩, e3⟩, e4⟩, e5⟩, e6⟩ := e
      subst e1
      exact sb_of rfl (se_append e2 e3 (noStar1 e4) (sound_e a h tk _ e5).1 (sound_e b h tk _ e6).1)
    · cases e
  | .no, k, X, W, h, tk, pe, e => ⟨se_no fun _ _ => rfl, ste_no fun _ _ => rfl⟩
theorem sound_o : ∀ (o : Option E) {k : Ck} {X : Cx} {W : WX} (h : XO G CA c k X) (tk : Takes X W) (pe : Option Expr), okO G k o pe = true → OSe CA X W pe (evO G.sub c o)
  | none, k, X, W, h, tk, pe, e => by
    simp only [okO] at e
    split at e
    · exact os_none
    · cases e
  | some a, k, X, W, h, tk, pe, e => by
    simp only [okO] at e
    split at e
    · exact os_some (sound_e a h tk _ e).1
    · cases e
theorem sound_es : ∀ (es : Es) {k : Ck} {X : Cx} {W : WX} (h : XO G CA c k X) (tk : Takes X W) (xs : List Expr), okEs G k es xs = true → SA CA X W xs (evEs G.sub c es)
  | .nil, k, X, W, h, tk, xs, e => by
    simp only [okEs] at e
    split at e
    · exact sa_nil
    · cases e
  | .cons a es, k, X, W, h, tk, xs, e => by
    simp only [okEs] at e
    split at e
    · simp only [Bool.and_eq_true] at e
      obtain ⟨⟨e1, e2⟩, e3⟩ := e
      exact sa_cons (noStar1 e1) (sound_e a h tk _ e2).1 (sound_es es h tk _ e3)
    · cases e
  | .star a es, k, X, W, h, tk, xs, e => by
    simp only [okEs] at e
    split at e
    · simp only [Bool.and_eq_true] at e
      exact sa_star (sound_e a h tk _ e.1).1 (sound_es es h tk _ e.2)
    · cases e
theorem sound_ks : ∀ (es : Es) {k : Ck} {X : Cx} {W : WX} (h : XO G CA c k X) (tk : Takes X W) (xs : List Keyword), okKs G k es xs = true → SKe CA X W xs (evEs G.sub c es)
  | .nil, k, X, W, h, tk, xs, e => by
    simp only [okKs] at e
    split at e
    · exact sk_nil
    · cases e
  | .cons a es, k, X, W, h, tk, xs, e => by
    simp only [okKs] at e
    split at e
    · simp only [Bool.and_eq_true] at e
      exact sk_cons (sound_e a h tk _ e.1).1 (sound_ks es h tk _ e.2)
    · cases e
  | .star _ _, k, X, W, h, tk, xs, e => by simp [okKs] at e
theorem sound_c : ∀ (q : C) {k : Ck} {X : Cx} {W : WX} (h : XO G CA c k X) (tk : Takes X W) (pe : Expr), okC G k q pe = true → SCm CA X W pe (evC G.sub c q)
  | .mk own a tg (.valv i) ct, k, X, W, h, tk, pe, e => by
    simp only [okC] at e
    split at e
    · rename_i p0
      simp only [Bool.and_eq_true, decide_eq_true_eq, List.all_eq_true, okI] at e
      obtain ⟨⟨⟨⟨⟨⟨⟨e1, e2⟩, e3⟩, e4⟩, e5⟩, e6⟩, e7⟩, e8⟩ := e
      subst e1
      split at e5
      · rename_i x0 ip
        simp only [Bool.and_eq_true, decide_eq_true_eq] at e5
        obtain ⟨⟨f1, f2⟩, f3⟩ := e5
        obtain ⟨d1, d2⟩ := nm_of f3
        have z := sc_compv (CA := CA) (W := W) (pos := p0) (ip := ip) (own := ownP k own) (bd := fun S d ρ => bindT S tg d ρ) (sl := tg.slots) (ft := evT G.sub c ct) (fe := evE G.sub c a) (i := i) h.calm h.nd (by rw [h.n]; exact f1) (h.vis f2) d1 d2 (blkOk_by (by rw [h.n, h.sc]; exact e3)) (by rw [ownP_map]; exact e4) (fun S d ρ ρ' hb => bindT_len S tg d ρ ρ' hb)
          (fun s H C cl fp => sound_t (h.blk s H _ C cl fp) tg _ e6) (fun s H C cl fp => sound_f ct (h.blk s H _ C cl fp) tk0 _ e7) (fun s H C cl fp => (sound_e a (h.blk s H _ C cl fp) tk0 _ e8).1)
        rw [ownP_map] at z
        exact z
      · cases e5
    · cases e
  | .mk own a tg (.val x) ct, k, X, W, h, tk, pe, e => by
    simp only [okC] at e
    split at e
    · simp only [Bool.and_eq_true, decide_eq_true_eq, List.all_eq_true] at e
      obtain ⟨⟨⟨⟨⟨⟨⟨e1, e2⟩, e3⟩, e4⟩, e5⟩, e6⟩, e7⟩, e8⟩ := e
      subst e1
      have z := sc_comp (CA := CA) (W := W) (pos := by assumption) (own := ownP k own) (bd := fun S d ρ => bindT S tg d ρ) (sl := tg.slots) (ft := evT G.sub c ct) (fe := evE G.sub c a) h.calm h.nd (sound_i (.val x) h tk _ _ rfl e5) (blkOk_by (by rw [h.n, h.sc]; exact e3)) (by rw [ownP_map]; exact e4) (fun S d ρ ρ' hb => bindT_len S tg d ρ ρ' hb)
          (fun s H C cl fp => sound_t (h.blk s H _ C cl fp) tg _ e6) (fun s H C cl fp => sound_f ct (h.blk s H _ C cl fp) tk0 _ e7) (fun s H C cl fp => (sound_e a (h.blk s H _ C cl fp) tk0 _ e8).1) (folded_of e2)
      rw [ownP_map] at z
      exact z
    · cases e
  | .mk own a tg (.lst x) ct, k, X, W, h, tk, pe, e => by
    simp only [okC] at e
    split at e
    · simp only [Bool.and_eq_true, decide_eq_true_eq, List.all_eq_true] at e
      obtain ⟨⟨⟨⟨⟨⟨⟨e1, e2⟩, e3⟩, e4⟩, e5⟩, e6⟩, e7⟩, e8⟩ := e
      subst e1
      have z := sc_comp (CA := CA) (W := W) (pos := by assumption) (own := ownP k own) (bd := fun S d ρ => bindT S tg d ρ) (sl := tg.slots) (ft := evT G.sub c ct) (fe := evE G.sub c a) h.calm h.nd (sound_i (.lst x) h tk _ _ rfl e5) (blkOk_by (by rw [h.n, h.sc]; exact e3)) (by rw [ownP_map]; exact e4) (fun S d ρ ρ' hb => bindT_len S tg d ρ ρ' hb)
          (fun s H C cl fp => sound_t (h.blk s H _ C cl fp) tg _ e6) (fun s H C cl fp => sound_f ct (h.blk s H _ C cl fp) tk0 _ e7) (fun s H C cl fp => (sound_e a (h.blk s H _ C cl fp) tk0 _ e8).1) (folded_of e2)
      rw [ownP_map] at z
      exact z
    · cases e
  | .mk own a tg (.rng1 x) ct, k, X, W, h, tk, pe, e => by
    simp only [okC] at e
    split at e
    · simp only [Bool.and_eq_true, decide_eq_true_eq, List.all_eq_true] at e
      obtain ⟨⟨⟨⟨⟨⟨⟨e1, e2⟩, e3⟩, e4⟩, e5⟩, e6⟩, e7⟩, e8⟩ := e
      subst e1
      have z := sc_comp (CA := CA) (W := W) (pos := by assumption) (own := ownP k own) (bd := fun S d ρ => bindT S tg d ρ) (sl := tg.slots) (ft := evT G.sub c ct) (fe := evE G.sub c a) h.calm h.nd (sound_i (.rng1 x) h tk _ _ rfl e5) (blkOk_by (by rw [h.n, h.sc]; exact e3)) (by rw [ownP_map]; exact e4) (fun S d ρ ρ' hb => bindT_len S tg d ρ ρ' hb)
          (fun s H C cl fp => sound_t (h.blk s H _ C cl fp) tg _ e6) (fun s H C cl fp => sound_f ct (h.blk s H _ C cl fp) tk0 _ e7) (fun s H C cl fp => (sound_e a (h.blk s H _ C cl fp) tk0 _ e8).1) (folded_of e2)
      rw [ownP_map] at z
      exact z
    · cases e
  | .mk own a tg (.rng2 x y) ct, k, X, W, h, tk, pe, e => by
    simp only [okC] at e
    split at e
    · simp only [Bool.and_eq_true, decide_eq_true_eq, List.all_eq_true] at e
      obtain ⟨⟨⟨⟨⟨⟨⟨e1, e2⟩, e3⟩, e4⟩, e5⟩, e6⟩, e7⟩, e8⟩ := e
      subst e1
      have z := sc_comp (CA := CA) (W := W) (pos := by assumption) (own := ownP k own) (bd := fun S d ρ => bindT S tg d ρ) (sl := tg.slots) (ft := evT G.sub c ct) (fe := evE G.sub c a) h.calm h.nd (sound_i (.rng2 x y) h tk _ _ rfl e5) (blkOk_by (by rw [h.n, h.sc]; exact e3)) (by rw [ownP_map]; exact e4) (fun S d ρ ρ' hb => bindT_len S tg d ρ ρ' hb)
          (fun s H C cl fp => sound_t (h.blk s H _ C cl fp) tg _ e6) (fun s H C cl fp => sound_f ct (h.blk s H _ C cl fp) tk0 _ e7) (fun s H C cl fp => (sound_e a (h.blk s H _ C cl fp) tk0 _ e8).1) (folded_of e2)
      rw [ownP_map] at z
      exact z
    · cases e
  | .mk own a tg (.rng3 _ _ _) ct, k, X, W, h, tk, pe, e => by
    simp only [okC] at e
    split at e
    · simp [okI] at e
    · cases e
  | .mk own a tg (.zip _ _) ct, k, X, W, h, tk, pe, e => by
    simp only [okC] at e
    split at e
    · simp [okI] at e
    · cases e
  | .mk own a tg (.enum _) ct, k, X, W, h, tk, pe, e => by
    simp only [okC] at e
    split at e
    · simp [okI] at e
    · cases e
theorem sound_f : ∀ (o : Option E) {k : Ck} {X : Cx} (h : XO G CA c k X) (tk : Takes X W0) (xs : List Expr), okF G k o xs = true → STo CA X xs (evT G.sub c o)
  | none, k, X, h, tk, xs, e => by
    simp only [okF] at e
    split at e
    · exact sto_nil
    · cases e
  | some a, k, X, h, tk, xs, e => by
    simp only [okF] at e
    split at e
    · exact sto_one (sound_e a h tk _ e).2
    · cases e
theorem sound_i : ∀ (i : I) {k : Ck} {X : Cx} {W : WX} (h : XO G CA c k X) (tk : Takes X W) (tg pe : Expr), i.plainI = true → okI G k i pe = true → SI CA X W tg pe (evI G.sub c i)
  | .val a, k, X, W, h, tk, tg, pe, hi, e => by
    simp only [okI] at e
    exact si_val (sound_e a h tk _ e).1
  | .valv i, k, X, W, h, tk, tg, pe, hi, e => by cases hi
  | .lst es, k, X, W, h, tk, tg, pe, hi, e => by
    simp only [okI] at e
    split at e
    · exact si_lst (sound_es es h tk _ e)
    · cases e
  | .rng1 a, k, X, W, h, tk, tg, pe, hi, e => by
    simp only [okI] at e
    split at e
    · simp only [Bool.and_eq_true, decide_eq_true_eq] at e
      obtain ⟨⟨⟨e1, e2⟩, e3⟩, e4⟩ := e
      subst e1
      exact si_rng1 (h.gl e2) (h.blt _ rng_all) (noStar1 e3) (sound_e a h tk _ e4).1
    · cases e
  | .rng2 a b, k, X, W, h, tk, tg, pe, hi, e => by
    simp only [okI] at e
    split at e
    · simp only [Bool.and_eq_true, decide_eq_true_eq] at e
      obtain ⟨⟨⟨⟨⟨e1, e2⟩, e3⟩, e4⟩, e5⟩, e6⟩ := e
      subst e1
      exact si_rng2 (h.gl e2) (h.blt _ rng_all) (noStar1 e3) (noStar1 e4) (sound_e a h tk _ e5).1 (sound_e b h tk _ e6).1
    · cases e
  | .rng3 _ _ _, k, X, W, h, tk, tg, pe, hi, e => by simp [okI] at e
  | .zip _ _, k, X, W, h, tk, tg, pe, hi, e => by simp [okI] at e
  | .enum _, k, X, W, h, tk, tg, pe, hi, e => by simp [okI] at e
end
end
end Eg

namespace Eg
open PySem PySem.Spec PyProof.Rows L2
/-- what is wanted behind a statement's result -/
def PostS (K : PySem.W.Frag) (CA : Nat → Addr) (α : List (Addr × Bool)) (H : Hp) (r : RS) (J : Ends) (W : WX) : Prop :=
  match r with
  | .nx ρ S => ∀ α' H' σ, Ext α H α' H' → StR K α' H' S → EnvR K α' H' ρ σ → J.nx σ H'
  | .bk ρ S => ∀ α' H' σ, Ext α H α' H' → StR K α' H' S → EnvR K α' H' ρ σ → J.bk σ H'
  | .ct ρ S => ∀ α' H' σ, Ext α H α' H' → StR K α' H' S → EnvR K α' H' ρ σ → J.ct σ H'
  | .rt d S => ∀ α' H' v, Ext α H α' H' → StR K α' H' S → Rp K α' H' d v → J.rt v H'
  | .ex x ρ S => ∀ α' H' σ cls d, Ext α H α' H' → StR K α' H' S → EnvR K α' H' ρ σ → ExR K CA α' H' x cls d → W cls d σ H'
  | .no => False
def wS (K : PySem.W.Frag) (CA : Nat → Addr) (W : WX) (f : Env → Sto → RS) : TS := fun J σ H => ∃ (ρ : Env) (S : Sto) (α : List (Addr × Bool)), EnvR K α H ρ σ ∧ StR K α H S ∧ PostS K CA α H (f ρ S) J W
def SS (CA : Nat → Addr) (X : Cx) (W : WX) (st : Stmt) (f : Env → Sto → RS) : Prop := PS X st (wS X.K CA W f)
def SSs (CA : Nat → Addr) (X : Cx) (W : WX) (st : List Stmt) (f : Env → Sto → RS) : Prop := PSs X st (wS X.K CA W f)
section
variable {K : PySem.W.Frag} {CA : Nat → Addr} {α : List (Addr × Bool)} {H : Hp} {J : Ends} {W : WX}
theorem PostS.ext {r : RS} {α1 : List (Addr × Bool)} {H1 : Hp} (e : Ext α H α1 H1) (h : PostS K CA α H r J W) : PostS K CA α1 H1 r J W := by
  cases r with
  | nx ρ S => exact fun α' H' σ e' s r => h α' H' σ (e.trans e') s r
  | bk ρ S => exact fun α' H' σ e' s r => h α' H' σ (e.trans e') s r
  | ct ρ S => exact fun α' H' σ e' s r => h α' H' σ (e.trans e') s r
  | rt ρ S => exact fun α' H' σ e' s r => h α' H' σ (e.trans e') s r
  | ex x ρ S => exact fun α' H' σ c d e' s r => h α' H' σ c d (e.trans e') s r
  | no => exact h
theorem PostS.st {β γ : Type} {rel : List (Addr × Bool) → Hp → β → γ → Prop} {r : R β} {ρ : Env} {f : β → Sto → RS} {σ : SL} (he : EnvR K α H ρ σ) (h : PostS K CA α H (r.st ρ f) J W) :
    Post K CA rel α H r (fun v H1 => ∃ α1 S1 d, Ext α H α1 H1 ∧ StR K α1 H1 S1 ∧ rel α1 H1 d v ∧ PostS K CA α1 H1 (f d S1) J W) (wAt W σ) := by
  cases r with
  | ok d S => exact fun α' H' v e s r => ⟨α', S, d, e, s, r, PostS.ext e h⟩
  | ex x S => exact fun α' H' cls d e s r => h α' H' σ cls d e s (he.ext e) r
  | no => exact h
theorem PostS.nx {ρ : Env} {S : Sto} {σ : SL} (h : PostS K CA α H (.nx ρ S) J W) (s : StR K α H S) (r : EnvR K α H ρ σ) : J.nx σ H := h α H σ (Ext.refl _ _) s r
theorem PostS.rt {d : D} {S : Sto} {v : V} (h : PostS K CA α H (.rt d S) J W) (s : StR K α H S) (r : Rp K α H d v) : J.rt v H := h α H v (Ext.refl _ _) s r
end
section
variable {X : Cx} {CA : Nat → Addr} {W : WX} {pos : Pos} {a b : Expr} {fa fb : Env → Sto → R D} {es : List Expr} {fs : Env → Sto → R (List D)} {st : Stmt} {sts : List Stmt} {f g : Env → Sto → RS}
theorem ss_w {t : TS} (h : PS X st t) (q : ∀ (ρ : Env) (S : Sto) (σ : SL) (H : Hp) (α : List (Addr × Bool)) (J : Ends), EnvR X.K α H ρ σ → StR X.K α H S → PostS X.K CA α H (f ρ S) J W → t J σ H) : SS CA X W st f :=
  ⟨fun pins s σ H J I ⟨ρ, S, α, he, hs, hp⟩ => h.run pins s σ H J I (q ρ S σ H α J he hs hp)⟩
theorem sss_w {t : TS} (h : PSs X sts t) (q : ∀ (ρ : Env) (S : Sto) (σ : SL) (H : Hp) (α : List (Addr × Bool)) (J : Ends), EnvR X.K α H ρ σ → StR X.K α H S → PostS X.K CA α H (f ρ S) J W → t J σ H) : SSs CA X W sts f :=
  ⟨fun pins s σ H J I ⟨ρ, S, α, he, hs, hp⟩ => h.run pins s σ H J I (q ρ S σ H α J he hs hp)⟩
theorem sss_nil : SSs CA X W [] (fun ρ S => .nx ρ S) := sss_w pss_nil fun ρ S σ H α J he hs p => p.nx hs he
theorem sss_cons (h1 : SS CA X W st f) (h2 : SSs CA X W sts g) : SSs CA X W (st :: sts) (fun ρ S => (f ρ S).then g) := by
  refine sss_w (pss_cons h1 h2) fun ρ S σ H α J he hs p => ?_
  refine ⟨ρ, S, α, he, hs, ?_⟩
  try dsimp only at p
  revert p
  generalize f ρ S = r
  intro p
  cases r with
  | nx ρ' S' => exact fun α' H' σ' e s en => ⟨ρ', S', α', en, s, PostS.ext e p⟩
  | _ => exact p
theorem ss_never (h : ∀ ρ S, f ρ S = .no) : SS CA X W st f := ss_w ps_never fun ρ S σ H α J he hs p => by rw [h] at p; exact p
theorem sss_doc {x : PySem.Str} {j : Nat} {p p' : Pos} (h : SSs CA X W sts f) : SSs CA X W (.Expr (.Constant (.str x) j p) p' :: sts) f := sss_w (pss_cons ps_doc h) fun ρ S σ H α J he hs p => ⟨ρ, S, α, he, hs, p⟩
theorem ss_pass : SS CA X W (.Pass pos) (fun ρ S => .nx ρ S) := ss_w ps_pass fun ρ S σ H α J he hs p => p.nx hs he
theorem ss_brk : SS CA X W (.Break pos) (fun ρ S => .bk ρ S) := ss_w ps_break fun ρ S σ H α J he hs p => p α H σ (Ext.refl _ _) hs he
theorem ss_cont : SS CA X W (.Continue pos) (fun ρ S => .ct ρ S) := ss_w ps_continue fun ρ S σ H α J he hs p => p α H σ (Ext.refl _ _) hs he
theorem ss_retN : SS CA X W (.Return none pos) (fun _ S => .rt .non S) := ss_w ps_retN fun ρ S σ H α J he hs p => p.rt hs .non
theorem ss_ret (ha : SE CA X W a fa) : SS CA X W (.Return (some a) pos) (fun ρ S => (fa ρ S).st ρ fun d S1 => .rt d S1) := by
  obtain ⟨t, pt, ht⟩ := ha
  exact ss_w (ps_ret pt) fun ρ S σ H α J he hs p => ht ρ S σ H α _ he hs ((PostS.st he p).imp fun v H1 ⟨α1, S1, d, e, s, r, p1⟩ => p1.rt s r)
theorem ss_expr (hw : swapsWith a none pos.line X.env = pure false) (ha : SE CA X W a fa) : SS CA X W (.Expr a pos) (fun ρ S => (fa ρ S).st ρ fun d S1 => .nx ρ S1) := by
  obtain ⟨t, pt, ht⟩ := ha
  exact ss_w (ps_expr pt hw) fun ρ S σ H α J he hs p => ht ρ S σ H α _ he hs ((PostS.st he p).imp fun v H1 ⟨α1, S1, d, e, s, r, p1⟩ => p1.nx s (he.ext e))
theorem ss_set {i : Nat} {x : PySem.Str} {p' : Pos} (hN : X.N.Nodup) (hi : X.N[i]? = some x) (hx : Loc X.env.scope x) (hf : X.fn x = true ∨ X.env.scope.names.lookup x = some .local) (hw : swapsWith a (some (.Name x p')) pos.line X.env = pure false) (ha : SE CA X W a fa) :
    SS CA X W (.Assign [.Name x p'] a pos) (fun ρ S => (fa ρ S).st ρ fun d S1 => .nx (setE ρ i d) S1) := by
  obtain ⟨t, pt, ht⟩ := ha
  exact ss_w (ps_set hN hi hx pt hw hf) fun ρ S σ H α J he hs p => ht ρ S σ H α _ he hs ((PostS.st he p).imp fun v H1 ⟨α1, S1, d, e, s, r, p1⟩ => p1.nx s ((he.ext e).set i r))
/-- a fresh list, given to a local on its own line -/
theorem ss_setC {i : Nat} {x : PySem.Str} {p' : Pos} {fc : Env → Sto → R (List D)} (hi : X.N[i]? = some x) (hl : X.env.scope.names.lookup x = some .local) (hw : swapsWith a (some (.Name x p')) pos.line X.env = pure true) (ha : SCm CA X W a fc) :
    SS CA X W (.Assign [.Name x p'] a pos) (fun ρ S => ((fc ρ S).bind fun l S1 => .ok (D.ref S1.length) (S1 ++ [.lst l])).st ρ fun d S1 => .nx (setE ρ i d) S1) := by
  obtain ⟨t, _, pt, ht⟩ := ha
  refine ss_w (pt i x p' pos hi hl hw) fun ρ S σ H α J he hs p => ht ρ S σ H α _ he hs ?_
  try dsimp only at p
  revert p
  generalize fc ρ S = r
  intro p
  cases r with
  | ok l S' =>
    intro α' H' q vs e s hq hq' nq rl
    refine p (α' ++ [(q, true)]) H' _ (e.adopt hq) (s.adopt nq ⟨rfl, vs, hq', rl.more⟩) ((he.ext (e.adopt hq)).set i (.ref (m := true) ?_))
    rw [← s.len]; simp
  | ex x S' => exact fun α' H' cls d e s r => p α' H' σ cls d e s (he.ext e) r
  | no => exact p
theorem ss_asg {tg : Expr} {bd : Sto → D → Env → Option Env} {sl : List Nat} (hw : swapsWithSole [tg] a pos.line X.env = pure false) (hw2 : swappedStores [tg] a X.env = pure none) (h1 : (assignEach [tg] X.env).map (·.2) = [assign tg X.env]) (ha : SE CA X W a fa) (hg : SG X tg bd sl) :
    SS CA X W (.Assign [tg] a pos) (fun ρ S => (fa ρ S).st ρ fun d S1 => match bd S1 d ρ with | some ρ' => .nx ρ' S1 | none => .no) := by
  obtain ⟨t, pt, ht⟩ := ha
  refine ss_w (ps_asg pt hg.pg hw hw2 h1) fun ρ S σ H α J he hs p => ht ρ S σ H α _ he hs ((PostS.st he p).imp fun v H1 ⟨α1, S1, d, e, s, r, p1⟩ => ?_)
  cases h : bd S1 d ρ with
  | none => rw [h] at p1; exact p1.elim
  | some ρ' =>
    rw [h] at p1
    exact ⟨ρ, ρ', S1, α1, d, he.ext e, s, r, h, fun σ' he' _ => p1.nx s he'⟩
theorem ss_setI {i : Expr} {fi : Env → Sto → R D} {p' : Pos} (hi' : notSl i = true) (hw : swapsWithSole [.Subscript b i p'] a pos.line X.env = pure false) (ha : SE CA X W a fa) (hb : SE CA X W b fb) (hi : SE CA X W i fi) :
    SS CA X W (.Assign [.Subscript b i p'] a pos) (fun ρ S => (fa ρ S).st ρ fun v S1 => (fb ρ S1).st ρ fun x S2 => (fi ρ S2).st ρ fun k S3 => match x, k with
    | .ref n, .int k => match S3[n]? with
      | some (.lst l) => match ixN l.length k with
        | some j => .nx ρ (S3.set n (.lst (l.set j v)))
        | none => .no
      | _ => .no
    | _, _ => .no) := by
  obtain ⟨ta, pa, ha⟩ := ha
  obtain ⟨tb, pb, hb⟩ := hb
  obtain ⟨ti, pi, hi⟩ := hi
  refine ss_w (ps_asg pa (pg_sub pb pi set_list (by intro v; cases i <;> first | rfl | cases hi')) hw (by rfl) (by rfl)) fun ρ S σ H α J he hs p => ?_
  refine ha ρ S σ H α _ he hs ((PostS.st he p).imp fun v H1 ⟨α1, S1, d, e1, s1, r1, p1⟩ => ?_)
  refine hb ρ S1 σ H1 α1 _ (he.ext e1) s1 ((PostS.st (he.ext e1) p1).imp fun x H2 ⟨α2, S2, dx, e2, s2, r2, p2⟩ => ?_)
  have he2 := he.ext (e1.trans e2)
  refine hi ρ S2 σ H2 α2 _ he2 s2 ((PostS.st he2 p2).imp fun k H3 ⟨α3, S3, dk, e3, s3, r3, p3⟩ => ?_)
  have r2' := r2.ext e3
  cases r2' with
  | @ref n ad m had =>
    cases r3 with
    | int k =>
      try dsimp only at p3
      split at p3
      · rename_i l hl
        split at p3
        · rename_i j hj
          obtain ⟨rfl, vs, h1, rl⟩ := s3.at_ n ad m _ had hl
          refine ⟨ad, vs, k, j, rfl, rfl, h1, by rw [← rl.length]; exact hj, ?_⟩
          have mu : Mut (H3 ad) := by rw [h1]; trivial
          have ew := Ext.write (ho := .lst (vs.set j v)) had mu
          have rv : Rp X.K α3 H3 d v := r1.ext (e2.trans e3)
          exact p3 _ _ _ ew (s3.write had ⟨rfl, _, upd_same, (RpL.set rv j rl).ext ew⟩) (he2.ext (e3.trans ew))
        · exact p3.elim
      · exact p3.elim
    | _ => exact p3.elim
  | _ => exact p3.elim
theorem ss_aug {i : Nat} {x : PySem.Str} {p' : Pos} {o : BOp} (ho : o = .add ∨ o = .sub) (hN : X.N.Nodup) (hi : X.N[i]? = some x) (hx : Loc X.env.scope x) (hf : X.fn x = true ∨ X.env.scope.names.lookup x = some .local) (ha : SE CA X W a fa) :
    SS CA X W (.AugAssign (.Name x p') (opOf o) a pos) (fun ρ S => match ρ[i]? with
    | some (some x) => (fa ρ S).st ρ fun y S1 => match (generalizing := false) o, x, y with
      | .add, .int a, .int b => .nx (setE ρ i (.int (a + b))) S1
      | .sub, .int a, .int b => .nx (setE ρ i (.int (a - b))) S1
      | _, _, _ => .no
    | _ => .no) := by
  obtain ⟨ta, pa, ha⟩ := ha
  have go : ∀ (fo : Int → Int → Int), PIp X (opOf o) (ipI fo) → (∀ (x y : D) (ρ : Env) (S1 : Sto) (α : List (Addr × Bool)) (H : Hp) (J : Ends), PostS X.K CA α H (match (generalizing := false) o, x, y with
      | .add, .int a, .int b => .nx (setE ρ i (.int (a + b))) S1
      | .sub, .int a, .int b => .nx (setE ρ i (.int (a - b))) S1
      | _, _, _ => .no) J W → ∃ a b, x = .int a ∧ y = .int b ∧ PostS X.K CA α H (.nx (setE ρ i (.int (fo a b))) S1) J W) → SS CA X W (.AugAssign (.Name x p') (opOf o) a pos) (fun ρ S => match ρ[i]? with
    | some (some x) => (fa ρ S).st ρ fun y S1 => match (generalizing := false) o, x, y with
      | .add, .int a, .int b => .nx (setE ρ i (.int (a + b))) S1
      | .sub, .int a, .int b => .nx (setE ρ i (.int (a - b))) S1
      | _, _, _ => .no
    | _ => .no) := by
    intro fo hop hint
    refine ss_w (ps_aug hN hi hx pa hop hf) fun ρ S σ H α J he hs p => ?_
    try dsimp only at p
    split at p
    · rename_i d hd
      obtain ⟨v, hv, rv⟩ := he.get i d hd
      refine ⟨v, hv, ha ρ S σ H α _ he hs ((PostS.st he p).imp fun y H1 ⟨α1, S1, dy, e1, s1, r1, p1⟩ => ?_)⟩
      obtain ⟨a, b, rfl, rfl, p2⟩ := hint _ _ _ _ _ _ _ p1
      cases rv
      cases r1
      exact ⟨_, _, rfl, rfl, p2.nx s1 ((he.ext e1).set i (.int _))⟩
    · exact p.elim
  rcases ho with rfl | rfl
  · refine go _ ip_add fun x y ρ S1 α H J p => ?_
    split at p
    · exact ⟨_, _, rfl, rfl, p⟩
    · contradiction
    · exact p.elim
  · refine go _ ip_sub fun x y ρ S1 α H J p => ?_
    split at p
    · contradiction
    · exact ⟨_, _, rfl, rfl, p⟩
    · exact p.elim
theorem ss_if {ft : Env → Sto → R D} (hc : STe CA X W a (fun ρ S => tru (ft ρ S))) {p q : List Stmt} (h1 : SSs CA X W p f) (h2 : SSs CA X W q g) : SS CA X W (.If a p q pos) (fun ρ S => (tru (ft ρ S)).st ρ fun k S1 => if k then f ρ S1 else g ρ S1) := by
  obtain ⟨t, pt, ht⟩ := hc
  refine ss_w (ps_if pt h1 h2) fun ρ S σ H α J he hs p => ht ρ S σ H α _ he hs ((PostS.st he p).imp fun v H1 ⟨α1, S1, k, e, s, r, p1⟩ => ?_)
  subst r
  cases k with
  | true => exact ⟨ρ, S1, α1, he.ext e, s, p1⟩
  | false => exact ⟨ρ, S1, α1, he.ext e, s, p1⟩
theorem ss_while {ft : Env → Sto → R D} (hp : PassesOwn (model X.prog X.w) X.A X.env X.xe) (hc : STe CA X W a (fun ρ S => tru (ft ρ S))) {p : List Stmt} (h1 : SSs CA X W p f) : SS CA X W (.While a p [] pos) (fun ρ S => whileN (fun ρ S => tru (ft ρ S)) f wfuel ρ S) := by
  obtain ⟨t, pt, ht⟩ := hc
  refine ss_w (ps_while hp pt h1) fun ρ S σ H α J he hs p => ?_
  refine ⟨fun m σ H => ∃ (ρ : Env) (S : Sto) (α : List (Addr × Bool)), EnvR X.K α H ρ σ ∧ StR X.K α H S ∧ PostS X.K CA α H (whileN (fun ρ S => tru (ft ρ S)) f m ρ S) J W, ⟨wfuel, ρ, S, α, he, hs, p⟩, ?_⟩
  rintro m σ H ⟨ρ, S, α, he, hs, p⟩
  cases m with
  | zero => exact p.elim
  | succ m =>
    refine ht ρ S σ H α _ he hs ((PostS.st he (show PostS X.K CA α H ((tru (ft ρ S)).st ρ _) J W from p)).imp fun v H1 ⟨α1, S1, k, e, s, r, p1⟩ => ?_)
    subst r
    cases k with
    | false => exact p1.nx s (he.ext e)
    | true =>
      refine ⟨_, fun σ' H' z => ⟨m, Nat.lt_succ_self _, z⟩, ρ, S1, α1, he.ext e, s, ?_⟩
      rw [if_pos rfl] at p1
      revert p1
      generalize f ρ S1 = r
      intro p1
      cases r with
      | nx ρ2 S2 => exact fun α' H' σ' e s en => ⟨ρ2, S2, α', en, s, PostS.ext e p1⟩
      | ct ρ2 S2 => exact fun α' H' σ' e s en => ⟨ρ2, S2, α', en, s, PostS.ext e p1⟩
      | bk ρ2 S2 => exact p1
      | rt d S2 => exact p1
      | ex x ρ2 S2 => exact p1
      | no => exact p1
theorem ss_for {tg iter : Expr} {bd : Sto → D → Env → Option Env} {sl : List Nat} {fi : Env → Sto → R Src} {p : List Stmt} (hp : PassesOwn (model X.prog X.w) X.A X.env X.xe) (hc : X.calm = true) (hi : SI CA X W tg iter fi) (hg : SG X tg bd sl) (h1 : SSs CA X W p f) (hs : ∀ x, foldedSetIterable iter X.env x = pure x) :
    SS CA X W (.For tg iter p [] pos) (fun ρ S => (fi ρ S).st ρ fun p S1 => forL (fun x ρ S => bd S x ρ) f p.2 p.1 ρ S1) := by
  obtain ⟨hgk, w, pw, hw⟩ := hi
  refine ss_w (ps_for hp hc pw hg.pg h1 hs) fun ρ S σ H α J he hst q => ?_
  refine hw ρ S σ H α _ he hst ?_
  try dsimp only at q
  cases h : fi ρ S with
  | no => rw [h] at q; exact q
  | ex x S1 => rw [h] at q; exact fun α' H' cls d e s r => q α' H' σ cls d e s (he.ext e) r
  | ok src S1 =>
    rw [h] at q
    simp only [R.st_ok] at q
    intro α1 H1 Z e1 s1 hI
    have g1 := hgk _ _ _ _ h
    refine ⟨fun i m σ H => m = src.1.length - i ∧ i ≤ src.1.length ∧ ∃ (ρ : Env) (S : Sto) (α : List (Addr × Bool)), Ext α1 H1 α H ∧ EnvR X.K α H ρ σ ∧ StR X.K α H S ∧ gOk src.2 S = true ∧ PostS X.K CA α H (forL (fun x ρ S => bd S x ρ) f src.2 (src.1.drop i) ρ S) J W,
      ⟨src.1.length, by simp, Nat.zero_le _, ρ, S1, α1, Ext.refl _ _, he.ext e1, s1, g1, PostS.ext e1 q⟩, ?_⟩
    rintro i m σ2 H2 ⟨rfl, hi, ρ2, S2, α2, e2, en2, s2, g2, p2⟩
    obtain ⟨hgo, hstop⟩ := hI α2 H2 S2 e2 s2 g2 i
    by_cases hlt : i < src.1.length
    · obtain ⟨go, yl⟩ := hgo _ (List.getElem?_eq_getElem hlt)
      refine .inr ⟨go, fun σ' H' => i + 1 ≤ src.1.length ∧ ∃ (ρ : Env) (S : Sto) (α : List (Addr × Bool)), Ext α1 H1 α H' ∧ EnvR X.K α H' ρ σ' ∧ StR X.K α H' S ∧ gOk src.2 S = true ∧ PostS X.K CA α H' (forL (fun x ρ S => bd S x ρ) f src.2 (src.1.drop (i + 1)) ρ S) J W,
        fun σ' H' z => ⟨src.1.length - (i + 1), by omega, rfl, z⟩, fun x H3 y => ?_⟩
      obtain ⟨e3, s3, r3⟩ := yl x H3 y
      rw [List.drop_eq_getElem_cons hlt] at p2
      simp only [forL] at p2
      cases hb : bd S2 src.1[i] ρ2 with
      | none => rw [hb] at p2; exact p2.elim
      | some ρ3 =>
        rw [hb] at p2
        try dsimp only at p2
        refine ⟨ρ2, ρ3, S2, α2, _, en2.ext e3, s3, r3, hb, fun σ4 en4 _ => ⟨ρ3, S2, α2, en4, s3, ?_⟩⟩
        have p3 := PostS.ext e3 p2
        clear p2
        revert p3
        generalize f ρ3 S2 = r
        intro p3
        cases r with
        | nx ρ5 S5 =>
          try dsimp only at p3
          split at p3
          · rename_i g5
            exact fun α' H' σ' e s en => ⟨hlt, ρ5, S5, α', (e2.trans e3).trans e, en, s, g5, PostS.ext e p3⟩
          · exact p3.elim
        | ct ρ5 S5 =>
          try dsimp only at p3
          split at p3
          · rename_i g5
            exact fun α' H' σ' e s en => ⟨hlt, ρ5, S5, α', (e2.trans e3).trans e, en, s, g5, PostS.ext e p3⟩
          · exact p3.elim
        | bk ρ5 S5 => exact p3
        | rt d S5 => exact p3
        | ex x ρ5 S5 => exact p3
        | no => exact p3
    · have e : i = src.1.length := by omega
      subst e
      rw [List.drop_length] at p2
      exact .inl ⟨hstop (Nat.le_refl _), p2.nx s2 en2⟩
end
end Eg

namespace Eg
open PySem PySem.Spec PyProof.Rows L2
def starB : Expr → Bool
  | .Starred _ _ => true
  | _ => false
theorem noStar_any : ∀ {es : List Expr}, noStar es = true → (es.any fun | .Starred .. => true | _ => false) = false
  | [], _ => rfl
  | a :: es, h => by
    obtain ⟨h1, h2⟩ := noStar_ne h
    have ih := noStar_any h2
    rw [List.any_cons, ih]
    cases a <;> first | rfl | exact absurd rfl (h1 _ _)
section
variable {env : PySem.Env} {x y z : PySem.Str} {px py pz pt pt2 : Pos} {a b c : Expr} {kt k2 : Nat}
theorem kindOf_local (h : env.scope.names.lookup x = some .local) : (env.kindOf x == some .local) = true := by
  have : env.kindOf x = some .local := h
  rw [this]; rfl
theorem swapped2 (hk : env.blockKind = .function) (hx : env.scope.names.lookup x = some .local) (hy : env.scope.names.lookup y = some .local) (hl : (py.line == px.line) = true) (hs : noStar [a, b] = true) (hd : ([x, y].eraseDups.length != 2) = false) (h1 : [a, b].all (foldedForSure 8) = false) (h2 : [a, b].all (constantsAlone 8) = false) :
    swappedStores [.Tuple [.Name x px, .Name y py] kt pt] (.Tuple [a, b] k2 pt2) env = pure (some [x, y]) := by
  unfold swappedStores
  have e1 := noStar_any hs
  simp only [hk, e1, h1, h2, kindOf_local hx, kindOf_local hy, hl, List.filterMap_cons, List.filterMap_nil, List.head?_cons, Option.map_some, Option.getD_some, Expr.pos, beq_self_eq_true, Bool.and_true, if_true, List.length_cons, List.length_nil, hd]
  simp [hd]
  simp only [List.any_cons, List.any_nil, Bool.or_false, Bool.or_eq_false_iff] at e1
  intro q
  rcases q with q | q
  · exact absurd (e1.1.symm.trans q) (by decide)
  · exact absurd (e1.2.symm.trans q) (by decide)
theorem swapped3 (hk : env.blockKind = .function) (hx : env.scope.names.lookup x = some .local) (hy : env.scope.names.lookup y = some .local) (hz : env.scope.names.lookup z = some .local) (hl : (py.line == px.line) = true) (hl2 : (pz.line == px.line) = true) (hs : noStar [a, b, c] = true) (hd : ([x, y, z].eraseDups.length != 3) = false) (h1 : [a, b, c].all (foldedForSure 8) = false) (h2 : [a, b, c].all (constantsAlone 8) = false) :
    swappedStores [.Tuple [.Name x px, .Name y py, .Name z pz] kt pt] (.Tuple [a, b, c] k2 pt2) env = pure (some [x, y, z]) := by
  unfold swappedStores
  have e1 := noStar_any hs
  simp only [hk, e1, h1, h2, kindOf_local hx, kindOf_local hy, kindOf_local hz, hl, hl2, List.filterMap_cons, List.filterMap_nil, List.head?_cons, Option.map_some, Option.getD_some, Expr.pos, beq_self_eq_true, Bool.and_true, if_true, List.length_cons, List.length_nil, hd]
  simp [hd]
  simp only [List.any_cons, List.any_nil, Bool.or_false, Bool.or_eq_false_iff] at e1
  intro q
  rcases q with q | q | q
  · exact absurd (e1.1.symm.trans q) (by decide)
  · exact absurd (e1.2.1.symm.trans q) (by decide)
  · exact absurd (e1.2.2.symm.trans q) (by decide)
def locName (sc : Scope) : Expr → Bool
  | .Name x _ => decide (sc.names.lookup x = some .local)
  | _ => false
/-- stores in their own order -/
def noSwap (sc : Scope) (ts : List Expr) : Expr → Bool
  | .Tuple vs _ _ => !(ts.length == 2 || ts.length == 3) || vs.length != ts.length || vs.all (foldedForSure 8) || !(ts.all (locName sc))
  | _ => true
theorem names_len {l : Nat} : ∀ {ts : List Expr}, (ts.all (locName env.scope)) = false → (ts.filterMap fun
    | .Name id pos => if env.kindOf id == some .local && pos.line == l then some id else none
    | _ => none).length < ts.length
  | [], h => by cases h
  | t :: ts, h => by
    rw [List.all_cons] at h
    have le : ∀ us : List Expr, (us.filterMap fun
      | .Name id pos => if env.kindOf id == some .local && pos.line == l then some id else none
      | _ => none).length ≤ us.length := fun us => List.length_filterMap_le _ _
    cases hb : locName env.scope t with
    | true =>
      rw [hb, Bool.true_and] at h
      have ih := names_len (l := l) h
      rw [List.filterMap_cons]
      split
      · exact Nat.lt_succ_of_lt ih
      · exact Nat.succ_lt_succ ih
    | false =>
      rw [List.filterMap_cons]
      split
      · exact Nat.lt_succ_of_le (le ts)
      · rename_i q hq
        exfalso
        split at hq
        · split at hq
          · rename_i hc
            simp only [Bool.and_eq_true, beq_iff_eq] at hc
            simp only [locName, decide_eq_false_iff_not] at hb
            exact hb hc.1
          · cases hq
        · cases hq
theorem noSwap_ok {ts : List Expr} {v : Expr} (h : noSwap env.scope ts v = true) : swappedStores [.Tuple ts kt pt] v env = pure none := by
  unfold swappedStores
  cases v with
  | Tuple vs k p =>
    simp only [noSwap, Bool.or_eq_true] at h
    dsimp only
    split
    · rfl
    · rename_i h1
      split
      · rfl
      · rename_i h2
        split
        · rfl
        · rename_i h3
          split
          · rfl
          · rename_i h4
            exfalso
            simp only [Bool.or_eq_true, not_or] at h1 h3
            rcases h with ((h | h) | h) | h
            · exact h1.1.1 h
            · exact h1.1.2 h
            · exact h4 h
            · have := names_len (l := (Option.map (fun x => x.pos.line) ts.head?).getD 0) (by simpa using h)
              refine h3.1 ?_
              simp only [bne_iff_ne, ne_eq]
              exact Nat.ne_of_lt this
  | _ => rfl
end
section
variable {X : Cx} {CA : Nat → Addr} {W : WX} {pos : Pos} {a b c : Expr} {fs : Env → Sto → R (List D)}
theorem sole_tup {ts : List Expr} {kt k2 : Nat} {pt pt2 : Pos} {vs : List Expr} {l : Nat} {env : PySem.Env} : swapsWithSole [.Tuple ts kt pt] (.Tuple vs k2 pt2) l env = pure false := rfl
theorem ss_par2 {i j : Nat} {x y : PySem.Str} {px py pt pt2 : Pos} {kt k2 : Nat} (hc : X.calm = true) (hN : X.N.Nodup) (hi : X.N[i]? = some x) (hj : X.N[j]? = some y) (hij : i ≠ j) (hx : X.env.scope.names.lookup x = some .local) (hy : X.env.scope.names.lookup y = some .local)
    (hw : swappedStores [.Tuple [.Name x px, .Name y py] kt pt] (.Tuple [a, b] k2 pt2) X.env = pure (some [x, y])) (ha : SA CA X W [a, b] fs) :
    SS CA X W (.Assign [.Tuple [.Name x px, .Name y py] kt pt] (.Tuple [a, b] k2 pt2) pos) (fun ρ S => (fs ρ S).st ρ fun l S1 => if l.length = [i, j].length then .nx (setAll ρ [i, j] l) S1 else .no) := by
  obtain ⟨t, pa, ht⟩ := ha
  refine ss_w (ps_par hc hN hi hj hij hx hy pa hw sole_tup) fun ρ S σ H α J he hs p => ht ρ S σ H α _ he hs ((PostS.st he p).imp fun vs H1 ⟨α1, S1, l, e, s, r, p1⟩ => ?_)
  split at p1
  · rename_i hl
    match l, vs, hl, r, p1 with
    | [d1, d2], _, _, .cons r1 (.cons r2 .nil), p1 => exact ⟨_, _, rfl, p1.nx s (((he.ext e).set i r1).set j r2)⟩
  · exact p1.elim
theorem ss_par3 {i j m : Nat} {x y z : PySem.Str} {px py pz pt pt2 : Pos} {kt k2 : Nat} (hc : X.calm = true) (hN : X.N.Nodup) (hi : X.N[i]? = some x) (hj : X.N[j]? = some y) (hm : X.N[m]? = some z) (hij : i ≠ j) (him : i ≠ m) (hjm : j ≠ m) (hx : X.env.scope.names.lookup x = some .local) (hy : X.env.scope.names.lookup y = some .local) (hz : X.env.scope.names.lookup z = some .local)
    (hw : swappedStores [.Tuple [.Name x px, .Name y py, .Name z pz] kt pt] (.Tuple [a, b, c] k2 pt2) X.env = pure (some [x, y, z])) (ha : SA CA X W [a, b, c] fs) :
    SS CA X W (.Assign [.Tuple [.Name x px, .Name y py, .Name z pz] kt pt] (.Tuple [a, b, c] k2 pt2) pos) (fun ρ S => (fs ρ S).st ρ fun l S1 => if l.length = [i, j, m].length then .nx (setAll ρ [i, j, m] l) S1 else .no) := by
  obtain ⟨t, pa, ht⟩ := ha
  refine ss_w (ps_par3 hc hN hi hj hm hij him hjm hx hy hz pa hw sole_tup) fun ρ S σ H α J he hs p => ht ρ S σ H α _ he hs ((PostS.st he p).imp fun vs H1 ⟨α1, S1, l, e, s, r, p1⟩ => ?_)
  split at p1
  · rename_i hl
    match l, vs, hl, r, p1 with
    | [d1, d2, d3], _, _, .cons r1 (.cons r2 (.cons r3 .nil)), p1 => exact ⟨_, _, _, rfl, p1.nx s ((((he.ext e).set i r1).set j r2).set m r3)⟩
  · exact p1.elim
/-- what keeps a list of a comprehension from its use -/
def notLc : Expr → Bool
  | .ListComp _ _ _ _ => false
  | .SetComp _ _ _ _ => false
  | .DictComp _ _ _ _ _ => false
  | _ => true
theorem notLc_ok {a : Expr} {t : Option Expr} {l : Nat} {env : PySem.Env} (h : notLc a = true) : swapsWith a t l env = pure false := by
  cases a <;> first | rfl | cases h
theorem sole_ok {a t : Expr} {l : Nat} {env : PySem.Env} (h : notLc a = true) : swapsWithSole [t] a l env = pure false := notLc_ok h
theorem cell_ok {a : Expr} {x : PySem.Str} {p : Pos} {l : Nat} {env : PySem.Env} (h : env.scope.names.lookup x = some .cell) : swapsWith a (some (.Name x p)) l env = pure false := by
  have k : env.kindOf x = some .cell := h
  unfold swapsWith
  have hb : (NameKind.cell == NameKind.local) = false := rfl
  cases a <;> simp [k, hb]
end
end Eg

namespace Eg
open PySem PySem.Spec PyProof.Rows L2
/-! ### an exception is made -/
def exStart (H : Hp) (a C : Addr) : Hp := upd H a (exo a C none)
/-- the heap behind an own __init__ of at most one field -/
def spInit (K : PySem.W.Frag) (fs : List (List Nat)) : Sp := fun vs H Q E =>
  ∃ (a C : Addr) (ys : List V), vs = .ref a :: ys ∧ ys.length = fs.length ∧ OexC K C ∧ (∀ f ∈ fs, PySem.W.findIn K (.ref C) (cs f) = some none) ∧ H a = some (exo a C none) ∧
    match fs, ys with
    | [], [] => Q .non H
    | [f], [y] => ∀ dx, H dx = none → dx ≠ a → Q .non (upd (upd H dx (exd dx [(cs f, y)])) a (exo a C (some dx)))
    | _, _ => False
section
variable {X : Cx} {pins : List (Addr × Obj)} {σ : SL}
theorem del_start {H : Hp} {a C : Addr} (hn : H a = none) : del (exStart H a C) a = H := by
  funext b
  by_cases e : b = a
  · subst e; rw [del_same, hn]
  · rw [del_ne e]; exact upd_ne e
/-- no field: the exception goes out of the abstract heap -/
theorem end_bare {H1 H2 : Hp} {k1 k2 k3 : Heap} {ga gb : Array GenState} {da db : Drawn} {ta tb : Nat} {oa ob : OsState} {a C : Addr} (I1 : Inv X pins σ H1 ⟨k1, ga, da, ta, oa⟩) (ha : k1.objs.size ≤ a)
    (k : ∀ b o, k1.get? b = some o → k2.get? b = some o) (un : Un (frs X.stack) [] (exStart H1 a C) H2 k2 k3) (hok : HOk X.prog X.w H2 k3) (ho : ob = oa) (hb : AllBare gb) (ea : H2 a = some (exo a C none)) :
    ∃ (t0 : Addr) (G : Heap), Inv X pins σ (del H2 a) ⟨G, gb, db, tb, ob⟩ ∧ (∀ b o, G.get? b = some o → k3.get? b = some o) ∧ G.get? a = none ∧ k3.get? a = some ({ cls := .ref C, dict := none, data := .fields #[.ref t0, .none, .none, .none, .bool false, .none] } : Obj) := by
  obtain ⟨t0, hoe⟩ := exo_at hok ea
  have hn : H1 a = none := I1.hok.fresh ha
  obtain ⟨G, gin, gout⟩ := L2.restrict k3 fun b => !decide (b = a)
  have gk : ∀ b, b ≠ a → G.get? b = k3.get? b := fun b q => gin b (by simp [q])
  have ge : G.get? a = none := gout a (by simp)
  have old : ∀ {b : Addr} {o : Obj}, k1.get? b = some o → b ≠ a := fun {b o} z => Nat.ne_of_lt (Nat.lt_of_lt_of_le (Heap.lt_size z) ha)
  have hs : ∀ {b : Addr}, b ≠ a → exStart H1 a C b = H1 b := fun {b} q => upd_ne q
  have nn : ∀ {b : Addr} {o : HO}, H1 b = some o → b ≠ a := fun {b o} z q => by subst q; rw [hn] at z; cases z
  have U : Un (frs X.stack) [] H1 (del H2 a) k1 G :=
    ⟨fun b o z n hf hx => (gk b (old z)).trans (un.keep b o (k b o z) ((hs (old z)).trans n) hf hx),
     fun b o z n hf hx => by rw [gk b (old z)]; exact un.slot b o (k b o z) ((hs (old z)).trans n) hf hx,
     fun b o z n hx => (del_ne (old z)).trans (un.free b o (k b o z) ((hs (old z)).trans n) hx),
     fun b o z hx => by rw [gk b (old z)]; exact un.there b o (k b o z) hx,
     fun b xs z => (del_ne (nn z)).trans (un.tups b xs ((hs (nn z)).trans z)),
     fun b o v z => (del_ne (nn z)).trans (un.frzs b o v ((hs (nn z)).trans z)),
     fun b ps z => by rw [del_ne (nn z)]; exact un.tbls b ps ((hs (nn z)).trans z)⟩
  have hok3 : HOk X.prog X.w (del H2 a) G := fun b o z => by
    have hba : b ≠ a := fun e => by rw [e, del_same] at z; cases z
    rw [del_ne hba] at z
    have away : ∀ {c : Addr}, H2 c = some (.own b) → c ≠ a := fun {c} hc => at_ne ea hc exo_own
    refine (hok b o z).stay (fun c v hc y => (gk c ?_).trans y) (fun c hc => (del_ne (away hc)).trans hc) fun c xs hc => (del_ne (at_ne ea hc exo_tup)).trans hc
    rcases hc with hc | hc
    · rw [hc]; exact hba
    · exact away hc
  refine ⟨t0, G, I1.call' (ch := []) ho U hok3 hb (fun b z => absurd z (by simp)), fun b o z => ?_, ge, hoe⟩
  by_cases q : b = a
  · rw [q, ge] at z; cases z
  · exact (gk b q).symm.trans z
/-- how an own exception class lies -/
structure ExC (X : Cx) (C : Addr) (fs : List (List Nat)) : Prop where
  oex : OexC X.K C
  one : fs.length ≤ 1
  fld : ∀ f ∈ fs, PySem.W.findIn X.K (.ref C) (cs f) = some none
  ini : ∃ (fI : Addr) (k : Nat) (fd : FuncData) (ps : List PySem.Str), PySem.W.findIn X.K (.ref C) "__init__" = some (some (.ref fI)) ∧ PySem.W.typeIn X.K (.ref fI) = some (.type "function") ∧
    FnOk X.prog X.w X.K X.mg X.base (CX X.prog X.w) k fI fd ps (spInit X.K fs) ∧ Room (k + 1) X.A ∧ Binds X.K fd ps []
/-- what is wished of the new exception -/
def exW (C : Addr) (fs : List (List Nat)) (vs : List V) (H : Hp) (Q : XK) : Prop :=
  match fs, vs with
  | [], [] => Q (.ref C) none H
  | [f], [y] => ∀ d, H d = none → Q (.ref C) (some d) (upd H d (.xd [(cs f, y)]))
  | _, _ => False
theorem two_len {fs : List (List Nat)} {vs : List V} {C : Addr} {H : Hp} {Q : XK} (h : exW C fs vs H Q) : vs.length = fs.length ∧ fs.length ≤ 1 := by
  match fs, vs, h with
  | [], [], _ => exact ⟨rfl, Nat.zero_le _⟩
  | [_], [_], _ => exact ⟨rfl, Nat.le_refl _⟩
theorem made_ok {H : Hp} {s : Shared} {C : Addr} {fs : List (List Nat)} {us : List Value} {vs : List V} {Q : XK} (E : ExC X C fs) (hx : Passes (CX X.prog X.w) X (fun _ _ _ => False)) (I1 : Inv X pins σ H s) (r1 : Vals vs us) (q : exW C fs vs H Q) :
    wpAny (model X.prog X.w) X.A (call (.ref C) us) (MkP X pins σ Q) X.xe s := by
  obtain ⟨fI, k, fd, ps, iC, tI, F1, hr, hb⟩ := E.ini
  obtain ⟨nm, qn, N, bs, bm, sn, sub, ab, col, dd, k0, k1, k2, k3, k5, hC, hbm⟩ := E.oex.cls
  obtain ⟨hp, g, dr, tk, os⟩ := s
  obtain ⟨hvl, hone⟩ := two_len q
  have hsz : hp.objs.size ≤ hp.objs.size + 1 := Nat.le_succ _
  have hn : H (hp.objs.size + 1) = none := I1.hok.fresh hsz
  have grown : ∀ b o, hp.get? b = some o → ((hp.push (PySem.W.kdv_tup us)).push (PySem.HandSPX.excO C hp.objs.size)).get? b = some o := fun b o e => Heap.get?_push_of_some _ (Heap.get?_push_of_some _ e)
  have there : ((hp.push (PySem.W.kdv_tup us)).push (PySem.HandSPX.excO C hp.objs.size)).get? (hp.objs.size + 1) = some (PySem.HandSPX.excO C hp.objs.size) := by heap_get
  have I2 : Inv X pins σ (exStart H (hp.objs.size + 1) C) ⟨(hp.push (PySem.W.kdv_tup us)).push (PySem.HandSPX.excO C hp.objs.size), g, dr, tk, os⟩ :=
    Inv.laid (a := hp.objs.size + 1) (o := exo (hp.objs.size + 1) C none) (t' := tk) (h' := (hp.push (PySem.W.kdv_tup us)).push (PySem.HandSPX.excO C hp.objs.size)) I1 grown hsz (exo_ok there)
  have r2 : Vals (V.ref (hp.objs.size + 1) :: vs) (Value.ref (hp.objs.size + 1) :: us) := .cons rfl r1
  -- the wish behind __init__
  have start : exStart H (hp.objs.size + 1) C (hp.objs.size + 1) = some (exo (hp.objs.size + 1) C none) := upd_same
  have hq : spInit X.K fs (V.ref (hp.objs.size + 1) :: vs) (exStart H (hp.objs.size + 1) C) (fun v H2 => v = .non ∧
      ((H2 (hp.objs.size + 1) = some (exo (hp.objs.size + 1) C none) ∧ Q (.ref C) none (del H2 (hp.objs.size + 1))) ∨
        ∃ (d : Addr) (l : List (PySem.Str × V)), H2 (hp.objs.size + 1) = some (exo (hp.objs.size + 1) C (some d)) ∧ H2 d = some (exd d l) ∧ H d = none ∧ Q (.ref C) (some d) (upd (del H2 (hp.objs.size + 1)) d (.xd l)))) (fun _ _ _ => False) := by
    refine ⟨_, C, vs, rfl, hvl, E.oex, E.fld, start, ?_⟩
    match fs, vs, q with
    | [], [], q => exact ⟨rfl, .inl ⟨start, by rw [del_start hn]; exact q⟩⟩
    | [f], [y], q =>
      intro dx hdx hne
      have hd : H dx = none := (upd_ne hne).symm.trans hdx
      refine ⟨rfl, .inr ⟨dx, _, upd_same, (upd_ne hne).trans upd_same, hd, ?_⟩⟩
      have e : upd (del (upd (upd (exStart H (hp.objs.size + 1) C) dx (exd dx [(cs f, y)])) (hp.objs.size + 1) (exo (hp.objs.size + 1) C (some dx))) (hp.objs.size + 1)) dx (.xd [(cs f, y)]) = upd H dx (.xd [(cs f, y)]) := by
        funext b
        by_cases h1 : b = dx
        · subst h1; rw [upd_same, upd_same]
        · rw [upd_ne h1, upd_ne h1]
          by_cases h2 : b = hp.objs.size + 1
          · rw [h2, del_same, hn]
          · rw [del_ne h2, upd_ne h2, upd_ne h1]; exact upd_ne h2
      rw [e]
      exact q dx hd
  have hl : (Value.ref (hp.objs.size + 1) :: us).length = ps.length := by rw [← r2.length]; exact F1.len _ _ _ _ hq
  have hus : us.length ≤ sizeLine := by
    have := r1.length
    rw [sizeLine_eq]
    omega
  have bd := hb _ (Value.ref (hp.objs.size + 1) :: us) I2.kIn (by rw [List.append_nil]; exact hl)
  rw [List.append_nil] at bd
  have body := F1.run _ X.stack _ _ ⟨Value.ref (hp.objs.size + 1) :: us, []⟩ (Value.ref (hp.objs.size + 1) :: us) _ _ (fun _ _ _ => False) (hr.make C us []) (I2.env0.make C us []) bd r2 hq
  refine wpAny_call (PySem.HandSPX.call_own F.excBase_ValueError (fun Y => PySem.HandSPX.refsVE_contains Y bm hbm) (I1.kIn _ _ hC) (PySem.W.looks_findIn I1.kIn iC) (fun self => PySem.W.bind_fn I1.kIn self tI) hus (codeAny_mono body fun r s' hq' => ?_))
  cases r with
  | error er => exact hx pins σ _ _ er s' I2 hq'
  | ok fl =>
    cases fl with
    | ret u =>
      obtain ⟨v, H2, os2, bare2, un2, hok2, rv, ev, fin⟩ := hq'
      subst ev
      obtain ⟨h2, g2, d2, t2, os'⟩ := s'
      rcases fin with ⟨ea, q2⟩ | ⟨d, l, ea, ed, hd1, q2⟩
      · obtain ⟨t0, G, J, kG, ge, hoe⟩ := end_bare (db := d2) (tb := t2) I1 hsz grown un2 hok2 os2 bare2 ea
        exact ⟨rv, hp.objs.size + 1, _, _, ⟨G, g2, d2, t2, os'⟩, _, .ref C, none, rfl, J, kG, ge, hoe, ⟨rfl, rfl⟩, rfl, rfl, del_same, rfl, bare2, raises_own E.oex.exC E.oex.tyC, q2⟩
      · exact ⟨rv, mk_end (raises_own E.oex.exC E.oex.tyC) I1 hsz grown un2 hok2 os2 bare2 ea ed hd1 q2⟩
    | _ => exact hq'.elim
variable {CA : Nat → Addr} {W : WX} {es : List Expr} {f : Env → Sto → R (List D)} {pos : Pos}
def tMade (C : Addr) (fs : List (List Nat)) (ta : TA) : SL → Hp → XK → Prop := fun σ H Q => ta σ H fun vs H1 => exW C fs vs H1 Q
theorem pmk_made {x : PySem.Str} {C : Addr} {fs : List (List Nat)} {p : Pos} {ta : TA} {e : Expr} (E : ExC X C fs) (tk : Takes X W) (hg : Gl X x) (hm : X.mg x = some (.ref C)) (hdb : (x == ("__debug__" : PySem.Str)) = false) (hx : noStar (e :: es) = true) (ha : PA X (e :: es) ta) : PMk X (.Call (.Name x p) (e :: es) [] pos) (tMade C fs ta) := by
  have hp : Passes (CX X.prog X.w) X (fun _ _ _ => False) := passes_call tk fun _ _ _ _ z => z.elim
  intro pins s σ H Q I h
  refine wpAny_Call_Name_kw (ld_glob I hg hm ?_ hdb)
  obtain ⟨h1, h2⟩ := noStar_ne hx
  refine PySem.W.callWith_K (h₀ := X.base) I.ok.mod.kin E.oex.kC (thn (ha.run pos pins s σ H _ I h) fun us s1 ⟨vs, H1, I1, r1, q1⟩ => ⟨I1.kIn, made_ok E hp I1 r1 q1⟩) (he_of h1) (hpl_of h2)
theorem pmk_made0 {x : PySem.Str} {C : Addr} {fs : List (List Nat)} {p : Pos} (E : ExC X C fs) (tk : Takes X W) (hg : Gl X x) (hm : X.mg x = some (.ref C)) (hdb : (x == ("__debug__" : PySem.Str)) = false) : PMk X (.Call (.Name x p) [] [] pos) (fun _ H Q => exW C fs [] H Q) := by
  have hp : Passes (CX X.prog X.w) X (fun _ _ _ => False) := passes_call tk fun _ _ _ _ z => z.elim
  intro pins s σ H Q I h
  exact wpAny_Call_Name_kw (ld_glob I hg hm (PySem.W.callWith_K0 I.kIn E.oex.kC (made_ok (us := []) (vs := []) E hp I .nil h)) hdb)
/-- the wish of a raised exception, told by the engine's result -/
theorem exW_of {fs : List (List Nat)} {c : Nat} {l : List D} {vs : List V} {ρ : Env} {S : Sto} {α : List (Addr × Bool)} {H : Hp} {J : Ends} (he : EnvR X.K α H ρ σ) (hs : StR X.K α H S) (hl : RpL X.K α H l vs) (h1 : fs.length ≤ 1) (h0 : CA c ≠ 0) (p : PostS X.K CA α H (if l.length = fs.length then .ex ⟨c, fs.zip l⟩ ρ S else .no) J W) :
    exW (CA c) fs vs H (fun cls d H' => W cls d σ H') := by
  split at p
  · rename_i hlen
    match fs, l, vs, h1, hlen, hl, p with
    | [], [], _, _, _, .nil, p => exact p α H σ _ _ (Ext.refl _ _) hs he ⟨rfl, h0, .inl ⟨rfl, rfl⟩⟩
    | [f], [d], _, _, _, .cons (v := v) r .nil, p =>
      intro dx hdx
      have e : Ext α H α (upd H dx (.xd [(cs f, v)])) := Ext.aside hdx
      exact p α _ σ _ _ e (hs.fresh hdx) (he.ext e) ⟨rfl, h0, .inr ⟨dx, _, rfl, upd_same, .cons ⟨rfl, r.ext e⟩ .nil⟩⟩
  · exact p.elim
theorem ss_raise {x : PySem.Str} {c : Nat} {fs : List (List Nat)} {p p2 : Pos} {e : Expr} (hc : X.calm = true) (h0 : CA c ≠ 0) (E : ExC X (CA c) fs) (tk : Takes X W) (hg : Gl X x) (hm : X.mg x = some (.ref (CA c))) (hdb : (x == ("__debug__" : PySem.Str)) = false) (hx : noStar (e :: es) = true) (ha : SA CA X W (e :: es) f) :
    SS CA X W (.Raise (some (.Call (.Name x p) (e :: es) [] pos)) none p2) (fun ρ S => (f ρ S).st ρ fun l S1 => if l.length = fs.length then .ex ⟨c, fs.zip l⟩ ρ S1 else .no) := by
  obtain ⟨t, pt, ht⟩ := ha
  exact ss_w (ps_raise hc tk (pmk_made E tk hg hm hdb hx pt)) fun ρ S σ H α J he hs p => ht ρ S σ H α _ he hs ((PostS.st he p).imp fun vs H1 ⟨α1, S1, l, e1, s1, r1, p1⟩ => exW_of (he.ext e1) s1 r1 E.one h0 p1)
theorem ss_raise0 {x : PySem.Str} {c : Nat} {fs : List (List Nat)} {p p2 : Pos} (hc : X.calm = true) (h0 : CA c ≠ 0) (E : ExC X (CA c) fs) (tk : Takes X W) (hg : Gl X x) (hm : X.mg x = some (.ref (CA c))) (hdb : (x == ("__debug__" : PySem.Str)) = false) :
    SS CA X W (.Raise (some (.Call (.Name x p) [] [] pos)) none p2) (fun ρ S => (R.ok ([] : List D) S).st ρ fun l S1 => if l.length = fs.length then .ex ⟨c, fs.zip l⟩ ρ S1 else .no) :=
  ss_w (ps_raise hc tk (pmk_made0 E tk hg hm hdb)) fun ρ S σ H α J he hs p => exW_of he hs .nil E.one h0 p
end
end Eg

namespace Eg
open PySem PySem.Spec PyProof.Rows L2
/-! ### try with clauses of both kinds -/
abbrev Cla := Value × Option Nat × (Addr → Value → Option Addr → TS)
/-- behind a named clause its slot is empty -/
def offE (i : Nat) (J : Ends) : Ends := ⟨fun τ G => J.nx (τ.set i none) G, J.rt, fun τ G => J.bk (τ.set i none) G, fun τ G => J.ct (τ.set i none) G⟩
def wMix (K : PySem.W.Frag) (n : Nat) (Wo : WX) (J : Ends) : List Cla → WX
  | [] => Wo
  | (c, nm, ts) :: l => fun cls d σ H => ∃ b, PySem.W.exmOne K cls c = some b ∧
      (b = true → ∀ a, H a = none → σ.length = n → match nm with
        | none => ts a cls d J σ H
        | some i => ts a cls d (offE i J) (σ.set i (some (.ref a))) H) ∧ (b = false → wMix K n Wo J l cls d σ H)
abbrev SuiteOk (X : Cx) (b : List Stmt) (ts : Addr → Value → Option Addr → TS) : Prop :=
  ∀ (a : Addr) (oe : Obj) (cls : Value) (d : Option Addr) (pn : List (Addr × Obj)), Zc cls d oe → (∃ vs, oe.data = .fields vs) → PSs (X.suite a ((a, oe) :: pn)) b (ts a cls d)
inductive MixOk (X : Cx) : List ExceptHandler → List Cla → Prop
  | nil : MixOk X [] []
  | bare {x : PySem.Str} {c : Value} {ts : Addr → Value → Option Addr → TS} {b0 : Stmt} {b : List Stmt} {p p' : Pos} {hs : List ExceptHandler} {l : List Cla} (hc : Names X x c) (hb : SuiteOk X (b0 :: b) ts) (r : MixOk X hs l) :
      MixOk X (.ExceptHandler (some (.Name x p)) none (b0 :: b) p' :: hs) ((c, none, ts) :: l)
  | named {x n : PySem.Str} {i : Nat} {c : Value} {ts : Addr → Value → Option Addr → TS} {b0 : Stmt} {b : List Stmt} {p p' : Pos} {hs : List ExceptHandler} {l : List Cla} (hc : Names X x c) (hi : X.N[i]? = some n) (hl : X.env.kindOf n = some .local) (hb : SuiteOk X (b0 :: b) ts) (r : MixOk X hs l) :
      MixOk X (.ExceptHandler (some (.Name x p)) (some n) (b0 :: b) p' :: hs) ((c, some i, ts) :: l)
section
variable {X : Cx}
theorem back_try {pins pn' : List (Addr × Obj)} {xe : Value → Shared → Prop} {J : Ends} {f : Flow} {s : Shared} (ok : X.Ok) (h : SP (X.tr (X.pn ++ pins) xe) pn' J f s) : SP X pins J f s := by
  cases f with
  | next => obtain ⟨τ, G, I, q⟩ := h; exact ⟨τ, G, Inv.ofTry I ok, q⟩
  | brk => obtain ⟨τ, G, I, q⟩ := h; exact ⟨τ, G, Inv.ofTry I ok, q⟩
  | cont => obtain ⟨τ, G, I, q⟩ := h; exact ⟨τ, G, Inv.ofTry I ok, q⟩
  | ret u => obtain ⟨v, τ, G, I, r, q⟩ := h; exact ⟨v, τ, G, Inv.ofTry I ok, r, q⟩
theorem back_suite {pins pn' : List (Addr × Obj)} {a : Addr} {q0 : Addr × Obj} {J : Ends} {f : Flow} {s : Shared} (ok : X.Ok) (h : SP (X.suite a (q0 :: (X.pn ++ pins))) pn' J f s) : SP X pins J f s := by
  cases f with
  | next => obtain ⟨τ, G, I, q⟩ := h; exact ⟨τ, G, Inv.unsuite I ok, q⟩
  | brk => obtain ⟨τ, G, I, q⟩ := h; exact ⟨τ, G, Inv.unsuite I ok, q⟩
  | cont => obtain ⟨τ, G, I, q⟩ := h; exact ⟨τ, G, Inv.unsuite I ok, q⟩
  | ret u => obtain ⟨v, τ, G, I, r, q⟩ := h; exact ⟨v, τ, G, Inv.unsuite I ok, r, q⟩
variable {body : List Stmt} {h0 : ExceptHandler} {hs : List ExceptHandler} {l : List Cla} {pos : Pos} {tb : WX → TS} {Wo : WX}
theorem ps_try_mix (hst : X.stack = X.env :: X.outer) (hfr0 : X.env.frame = some X.env.locals) (hN : X.N.Nodup) (tk : Takes X Wo)
    (hb : ∀ (W : WX) (pn : List (Addr × Obj)) (xe : Value → Shared → Prop), Takes (X.tr pn xe) W → PassesOwn (model X.prog X.w) X.A X.env xe → PSs (X.tr pn xe) body (tb W))
    (hh : MixOk X (h0 :: hs) l) : PS X (.Try body (h0 :: hs) [] [] pos) (fun J σ H => tb (wMix X.K X.N.length Wo J l) J σ H) := by
  refine ⟨fun pins s σ H J I h => ?_⟩
  have ok := I.ok
  have hfr : X.A.frames = some (X.env :: X.outer) := ok.frames.trans (congrArg some hst)
  refine wpAny_Try_except ?_
  have run := hb (wMix X.K X.N.length Wo J l) (X.pn ++ pins) (fun e s1 => wpAny (model X.prog X.w) X.A (noteFrame e X.env) (fun _ s2 => wpAny (model X.prog X.w) X.A (setFlight e none) (fun _ s3 => wpAny (model X.prog X.w) X.A (handleBy e X.env (h0 :: hs)) (SP X pins J) X.xe s3) X.xe s2) X.xe s1) ?_ PassesOwn.looking
  · refine wpAny_mono (run.run [] s σ H J (I.toTry _) h) (fun f s1 hsp => ?_) (fun e s1 he => he)
    have z := back_try ok hsp
    cases f with
    | next =>
      obtain ⟨τ, G, I', q⟩ := z
      exact wpAny_execs_nil ⟨τ, G, I', q⟩
    | _ => exact z
  · intro u s' xx
    obtain ⟨a, B, sI, pins', τ, G, cls, d, rfl, J', nb, up, sky, na, os, ag, w⟩ := xx
    have JI : Inv X pins τ G sI := Inv.ofTry J' ok
    have sky' : Sky B (X.env :: X.outer) a (Zc cls d) X.env.locals s'.heap := hst ▸ sky
    show wpAny (model X.prog X.w) X.A (noteFrame (.ref a) X.env) _ _ _
    refine Sky.land Zc.steady hfr hfr0 sky' fun k3 fl3 up3 => ?_
    have J3 : Inv X pins τ G { s' with heap := k3 } := JI.landed nb fl3.1 (up.trans up3) os ag
    obtain ⟨o3, f3, e3, z3, d3⟩ := fl3.there
    have apart : a ∉ frs (X.env :: X.outer) := fun hm => by
      obtain ⟨_, o', e', hnf⟩ := Heap.FunFrames.mem fl3.2.2.1 hm
      rw [e3] at e'; cases e'
      exact hnf _ d3
    have nL : a ≠ X.env.locals := fun z => apart (List.mem_filterMap.mpr ⟨X.env, List.mem_cons_self, hfr0.trans (congrArg some z.symm)⟩)
    have nF : a ∉ X.fs := fun hm => by
      obtain ⟨e, he, q⟩ := List.mem_filterMap.mp hm
      exact apart (List.mem_filterMap.mpr ⟨e, List.mem_cons_of_mem _ he, q⟩)
    have S3 := J3.suite e3 d3 na nL nF
    have look : ∀ {x : PySem.Str} {c : Value} {np : Pos} {Q : Value → Shared → Prop} {E : Value → Shared → Prop}, Names X x c → Q c { s' with heap := k3 } → wpAny (model X.prog X.w) (X.A.mark (some (.ref a))) (eval (.Name x np) X.env) Q E { s' with heap := k3 } := fun {x c np Q E} hc q => by
      obtain ⟨g1, g2, g3 | ⟨g3, g4, g5⟩⟩ := hc
      · exact ld_glob (X := X.suite a ((a, o3) :: (X.pn ++ pins))) S3 g1 g3 q g2
      · exact ld_blt (X := X.suite a ((a, o3) :: (X.pn ++ pins))) S3 g1 g3 g4 q g5 g2
    have LT : PySem.W.Looks (model X.prog X.w) k3 (typeOf (.ref a)) cls := fun A Q E s k q => wpAny_typeOf_ref (k _ _ e3) (z3.1 ▸ q)
    suffices go : ∀ {hs' : List ExceptHandler} {l' : List Cla}, MixOk X hs' l' → wMix X.K X.N.length Wo J l' cls d τ G → wpAny (model X.prog X.w) X.A (handleBy (.ref a) X.env hs') (SP X pins J) X.xe { s' with heap := k3 } from go hh w
    intro hs' l' hk
    induction hk with
    | nil =>
      intro w
      refine wpAny_handleBy_nil ?_
      obtain ⟨_, _, _, oe, vs, T, oT, ts', he, hz, hd, h1, _⟩ := id fl3
      unfold PySem.passOn
      refine wpAny_bind (wpAny_field he hd h1 ?_)
      rw [if_neg (by simp)]
      have out : wpAny (model X.prog X.w) X.A (setFlight (.ref a) X.env.frame) (fun _ s4 => wpAny (model X.prog X.w) X.A (throw (.ref a) : Sem Flow) (SP X pins J) X.xe s4) X.xe { s' with heap := k3 } := by
        rw [hfr0]
        exact HandSPX.setFlight_upZ fl3 fun k4 hh4 up4 => wpAny_throw (tk _ _ ⟨a, B, sI, pins, τ, G, cls, d, rfl, JI, nb, (up.trans up3).trans up4, .inr (.inr (hst.symm ▸ hh4)), na, os, ag, w⟩)
      first | exact wpAny_bind (wpAny_pure (wpAny_bind out)) | exact wpAny_bind out
    | @bare x c ts b0 b p p' hs2 l2 hc hbs r ih =>
      rintro ⟨bb, w1, yes, no⟩
      refine wpAny_handleBy_cons (codeAny_handlers_test ?_) (by intro q; cases q)
      refine look hc ((PySem.W.exm_one (M := model X.prog X.w) J3.kIn LT w1).here ?_)
      cases bb with
      | false => exact ih (no rfl)
      | true =>
        refine codeAny_handlers_suite (HandSPX.lands_againZ fl3 fun k4 fl4 up4 => ?_)
        obtain ⟨o4, f4, e4, z4, d4⟩ := fl4.there
        have J4 : Inv X pins τ G { s' with heap := k4 } := JI.landed nb fl4.1 ((up.trans up3).trans up4) os ag
        refine wpAny_mono ((hbs a o4 cls d (X.pn ++ pins) z4 ⟨_, d4⟩).run [] _ _ G _ (J4.suite e4 d4 na nL nF) (yes rfl a na JI.len)) (fun f s6 hsp => ?_) (fun _ _ z => z.elim)
        have z := back_suite ok hsp
        cases f <;> exact z
    | @named x n i c ts b0 b p p' hs2 l2 hc hi hl hbs r ih =>
      rintro ⟨bb, w1, yes, no⟩
      refine wpAny_handleBy_cons (codeAny_handlers_test ?_) (by intro q; cases q)
      refine look hc ((PySem.W.exm_one (M := model X.prog X.w) J3.kIn LT w1).here ?_)
      cases bb with
      | false => exact ih (no rfl)
      | true =>
        refine codeAny_handlers_suite_as (HandSPX.lands_againZ fl3 fun k4 fl4 up4 => ?_)
        obtain ⟨o4, f4, e4, z4, d4⟩ := fl4.there
        have J4 : Inv X pins τ G { s' with heap := k4 } := JI.landed nb fl4.1 ((up.trans up3).trans up4) os ag
        refine store_ok (X := X.suite a ((a, o4) :: (X.pn ++ pins))) (v := .ref a) (J4.suite e4 d4 na nL nF) hN hi (.inl hl) rfl (fun s5 S5 => ?_) (.inr hl)
        refine wpAny_mono ((hbs a o4 cls d (X.pn ++ pins) z4 ⟨_, d4⟩).run [] s5 _ G _ S5 (yes rfl a na JI.len)) (fun f s6 hsp => ?_) (fun _ _ z => z.elim)
        have z := back_suite ok hsp
        cases f with
        | next =>
          obtain ⟨τ6, G6, I6, q6⟩ := z
          exact gone_ok I6 hN hi hl fun s7 I7 => ⟨_, _, I7, q6⟩
        | brk =>
          obtain ⟨τ6, G6, I6, q6⟩ := z
          exact gone_ok I6 hN hi hl fun s7 I7 => ⟨_, _, I7, q6⟩
        | cont =>
          obtain ⟨τ6, G6, I6, q6⟩ := z
          exact gone_ok I6 hN hi hl fun s7 I7 => ⟨_, _, I7, q6⟩
        | ret u =>
          obtain ⟨v6, τ6, G6, I6, r6, q6⟩ := z
          exact gone_ok I6 hN hi hl fun s7 I7 => ⟨_, _, _, I7, r6, q6⟩
end
end Eg

namespace Eg
open PySem PySem.Spec PyProof.Rows L2
/-! ### what a suite hands back -/
/-- what is known of the classes of exceptions -/
structure ClsF (K : PySem.W.Frag) (CA : Nat → Addr) (sub : Nat → Nat → Bool) (flds : List (List Nat)) : Prop where
  mt : ∀ i j, CA i ≠ 0 → CA j ≠ 0 → PySem.W.exmOne K (.ref (CA i)) (.ref (CA j)) = some (sub i j)
  kit : ∀ i j, CA i ≠ 0 → CA j ≠ 0 → PySem.W.kitOne K (.ref (CA i)) (.ref (CA j)) = some (sub i j)
  xf : ∀ i, CA i ≠ 0 → XfC K (CA i)
  is_ : ∀ i, CA i ≠ 0 → ExcC K (CA i)
  fld : ∀ i f, CA i ≠ 0 → f ∈ flds → PySem.W.findIn K (.ref (CA i)) (cs f) = some none
section
variable {X : Cx} {CA : Nat → Addr} {sub : Nat → Nat → Bool} {flds : List (List Nat)}
/-- isinstance of the exception in hand, with or without a dict -/
def rHeld (K : PySem.W.Frag) (a C : Addr) (d : Option Addr) : List V → Hp → VK → Prop := fun xs H Q => ∃ (c : V) (cv : Value) (b : Bool), xs = [.ref a, c] ∧ (∀ u, RelV c u → u = cv) ∧ PySem.W.kitOne K (.ref C) cv = some b ∧ (∀ dd, d = some dd → ∃ fs, H dd = some (.xd fs)) ∧ Q (.bl b) H
theorem call_held {a C : Addr} {d : Option Addr} {oe : Obj} {pn : List (Addr × Obj)} (T : ExcC X.K C) (hz : Zc (.ref C) d oe) (hf : ∃ vs, oe.data = .fields vs) : CallR (X.suite a ((a, oe) :: pn)) (.builtin "isinstance") (rHeld X.K a C d) := by
  intro pins s σ H xs us Q I r ⟨c, cv, b, ex, hcv, e, hdd, q⟩
  subst ex
  match us, r with
  | [_, u2], .cons rx (.cons rt .nil) =>
    cases rx
    have ec := hcv _ rt
    subst ec
    obtain ⟨hget, _⟩ := I.pin (a, oe) (List.mem_append.mpr (.inl List.mem_cons_self))
    obtain ⟨vs, hv⟩ := hf
    have J : ∃ od, PySem.W.InstAt s.heap a oe C od := by
      obtain ⟨oc, oda, odt, osl⟩ := oe
      obtain ⟨h1, h2⟩ := hz
      dsimp only at h1 h2 hv
      subst h1 h2 hv
      cases oda with
      | none => exact ⟨none, hget, rfl, rfl, trivial⟩
      | some dd =>
        obtain ⟨fs, hfs⟩ := hdd dd rfl
        obtain ⟨mA, hns, _⟩ := (show ObjOk X.prog X.w H s.heap dd (.xd fs) from I.hok dd _ hfs)
        obtain ⟨od, ho, _⟩ := lookIn_ns hns
        exact ⟨some od, hget, rfl, rfl, ho⟩
    obtain ⟨od, J⟩ := J
    obtain ⟨cd, hcd, _⟩ := PySem.W.any_some T.hd
    exact PySem.W.kia_one (PySem.W.kitx_exc (od := od) (by rw [hcd]; rfl) T.hg T.hk T.hs T.ha T.hn T.ht T.hm) I.kIn J e (fun z => nomatch z) fun tk => ⟨.bl b, H, I.kept (t' := tk) fun _ _ z => z, rfl, q⟩
/-- the exception in hand -/
structure Held (K : PySem.W.Frag) (CA : Nat → Addr) (x : Ex) (a : Addr) (d : Option Addr) (nm : Option Nat) (α : List (Addr × Bool)) (H : Hp) (σ : SL) : Prop where
  sl : ∀ i, nm = some i → σ[i]? = some (some (.ref a))
  ex : ExR K CA α H x (.ref (CA x.cls)) d
def ItemT (X : Cx) (CA : Nat → Addr) (x : Ex) (a : Addr) (d : Option Addr) (nm : Option Nat) (pe : Expr) (r : Option D) : Prop :=
  ∃ t : TE, PE X pe t ∧ ∀ (σ : SL) (H : Hp) (α : List (Addr × Bool)) (Q : VK) (v : D), r = some v → Held X.K CA x a d nm α H σ → (∀ w, Rp X.K α H v w → Q w H) → t σ H Q
variable {a : Addr} {oe : Obj} {d : Option Addr} {pn : List (Addr × Obj)} {x : Ex} {i : Nat} {nm : Option Nat} {n : PySem.Str} {pos p1 p2 p3 p4 : Pos}
theorem item_lit {dd : D} {c : Const} {j : Nat} (h : okL dd c = true) : ItemT X CA x a d nm (.Constant c j pos) (some dd) := by
  unfold okL at h
  split at h
  · exact ⟨_, pe_non, fun σ H α Q v e hh q => by cases e; exact q _ .non⟩
  · simp only [beq_iff_eq] at h; subst h; exact ⟨_, pe_bl, fun σ H α Q v e hh q => by cases e; exact q _ (.bl _)⟩
  · simp only [decide_eq_true_eq] at h; subst h; exact ⟨_, pe_int, fun σ H α Q v e hh q => by cases e; exact q _ (.int _)⟩
  · simp only [decide_eq_true_eq] at h; subst h; exact ⟨_, pe_str, fun σ H α Q v e hh q => by cases e; exact q _ (.str _)⟩
  · cases h
theorem look_fs {K : PySem.W.Frag} {α : List (Addr × Bool)} {H : Hp} {f : List Nat} {v : D} : ∀ {l : List (List Nat × D)} {m : List (PySem.Str × V)}, Paired (fun (p : List Nat × D) (q : PySem.Str × V) => cs p.1 = q.1 ∧ Rp K α H p.2 q.2) l m → l.lookup f = some v → ∃ w, m.lookup (cs f) = some w ∧ Rp K α H v w
  | _, _, .nil, e => by simp at e
  | (g, y) :: l, _, .cons (b := (g', y')) ⟨r1, r2⟩ t, e => by
    rw [lookup_put]
    dsimp only at r1
    by_cases hb : f = g
    · subst hb
      have e2 : y = v := by simpa using e
      subst e2
      exact ⟨y', if_pos r1, r2⟩
    · have e2 : l.lookup f = some v := by
        have hb2 : (f == g) = false := by simpa using hb
        rw [List.lookup_cons, hb2] at e
        exact e
      obtain ⟨w, w1, w2⟩ := look_fs t e2
      exact ⟨w, by rw [if_neg fun z => hb (cs_inj.mp (z.trans r1.symm))]; exact w1, w2⟩
theorem item_attr {f : List Nat} (F : ClsF X.K CA sub flds) (h0 : CA x.cls ≠ 0) (hf : f ∈ flds) (hz : Zc (.ref (CA x.cls)) d oe) (hd : ∃ vs, oe.data = .fields vs) (hN : X.N[i]? = some n) (hv : Vis X.env.scope n) (hdb : (n == ("__debug__" : PySem.Str)) = false) (hcd : (n == ("__classdict__" : PySem.Str)) = false) :
    ItemT (X.suite a ((a, oe) :: pn)) CA x a d (some i) (.Attribute (.Name n p1) (cs f) pos) (x.fs.lookup f) := by
  refine ⟨_, pe_xf (F.xf _ h0) (F.fld _ f h0 hf) hz hd (pe_var (i := i) hN hv hdb hcd) (by rfl), fun σ H α Q v e hh q => ?_⟩
  obtain ⟨hs, ec, _, hx⟩ := hh
  rcases hx with ⟨e0, _⟩ | ⟨dd, fs, e1, e2, e3⟩
  · rw [e0] at e; cases e
  · obtain ⟨w, w1, w2⟩ := look_fs e3 e
    exact ⟨_, hs i rfl, rfl, rfl, dd, fs, w, e1, e2, w1, q w w2⟩
theorem held_d {K : PySem.W.Frag} {α : List (Addr × Bool)} {H : Hp} {σ : SL} (h : Held K CA x a d nm α H σ) : ∀ dd, d = some dd → ∃ fs, H dd = some (.xd fs) := by
  intro dd e
  rcases h.ex.2.2 with ⟨_, e0⟩ | ⟨d2, fs, e1, e2, _⟩
  · rw [e0] at e; cases e
  · rw [e1] at e; cases e; exact ⟨fs, e2⟩
theorem isi_pe {c : Nat} {cn : PySem.Str} (F : ClsF X.K CA sub flds) (h0 : CA x.cls ≠ 0) (hc : CA c ≠ 0) (hz : Zc (.ref (CA x.cls)) d oe) (hd : ∃ vs, oe.data = .fields vs) (hN : X.N[i]? = some n) (hv : Vis X.env.scope n) (hdb : (n == ("__debug__" : PySem.Str)) = false) (hcd : (n == ("__classdict__" : PySem.Str)) = false)
    (gi : Gl X "isinstance") (mi : X.mg "isinstance" = none) (gc : Gl X cn) (mc : X.mg cn = some (.ref (CA c))) (dc : (cn == ("__debug__" : PySem.Str)) = false) :
    ∃ t : TE, PE (X.suite a ((a, oe) :: pn)) (.Call (.Name "isinstance" p1) [.Name n p2, .Name cn p3] [] pos) t ∧ ∀ (σ : SL) (H : Hp) (α : List (Addr × Bool)) (Q : VK), Held X.K CA x a d (some i) α H σ → Q (.bl (sub x.cls c)) H → t σ H Q := by
  have pA : PA (X.suite a ((a, oe) :: pn)) [.Name n p2, .Name cn p3] (tCons (tVar i) (tCons (tC (.ref (CA c))) tNil)) := pa_cons (pe_var hN hv hdb hcd) (pa_cons (pe_glob gc mc rfl dc) pa_nil rfl) rfl
  refine ⟨_, pe_callB (call_held (F.is_ _ h0) hz hd) gi mi boot_isi pA (by decide +kernel) (by decide +kernel) rfl rfl, fun σ H α Q hh q => ?_⟩
  exact ⟨_, hh.sl i rfl, .ref (CA c), .ref (CA c), _, rfl, fun u r => r, F.kit _ _ h0 hc, held_d hh, q⟩
end
end Eg

namespace Eg
open PySem PySem.Spec PyProof.Rows L2
section
variable {X : Cx} {CA : Nat → Addr} {sub : Nat → Nat → Bool} {flds : List (List Nat)} {a : Addr} {oe : Obj} {d : Option Addr} {pn : List (Addr × Obj)} {x : Ex} {i : Nat} {nm : Option Nat} {n : PySem.Str} {pos p1 p2 p3 p4 : Pos}
theorem const_rp {K : PySem.W.Frag} {dd : D} {c : Const} (h : okL dd c = true) {α : List (Addr × Bool)} {H : Hp} {S : Sto} {w : V} (r : Rp K α H dd w) : Rp K α H dd w := r
/-- one of two constants, by the class -/
theorem item_isn {p5 p6 : Pos} {c : Nat} {cn : PySem.Str} {A B : D} {ca cb : Const} {ja jb : Nat} (F : ClsF X.K CA sub flds) (h0 : CA x.cls ≠ 0) (hc : CA c ≠ 0) (hz : Zc (.ref (CA x.cls)) d oe) (hd : ∃ vs, oe.data = .fields vs) (hN : X.N[i]? = some n) (hv : Vis X.env.scope n) (hdb : (n == ("__debug__" : PySem.Str)) = false) (hcd : (n == ("__classdict__" : PySem.Str)) = false)
    (gi : Gl X "isinstance") (mi : X.mg "isinstance" = none) (gc : Gl X cn) (mc : X.mg cn = some (.ref (CA c))) (dc : (cn == ("__debug__" : PySem.Str)) = false) (ha : okL A ca = true) (hb : okL B cb = true) :
    ItemT (X.suite a ((a, oe) :: pn)) CA x a d (some i) (.IfExp (.Call (.Name "isinstance" p1) [.Name n p2, .Name cn p3] [] p4) (.Constant ca ja p5) (.Constant cb jb p6) pos) (some (if sub x.cls c then A else B)) := by
  obtain ⟨t, pt, ht⟩ := isi_pe (p1 := p1) (p2 := p2) (p3 := p3) (pos := p4) (pn := pn) F h0 hc hz hd hN hv hdb hcd gi mi gc mc dc
  obtain ⟨ta, pa, qa⟩ := item_lit (X := X.suite a ((a, oe) :: pn)) (CA := CA) (x := x) (a := a) (d := d) (nm := some i) (j := ja) (pos := p5) ha
  obtain ⟨tb, pb, qb⟩ := item_lit (X := X.suite a ((a, oe) :: pn)) (CA := CA) (x := x) (a := a) (d := d) (nm := some i) (j := jb) (pos := p6) hb
  refine ⟨_, pe_ifExp (pt_truth pt (by intro w; rfl)) pa pb, fun σ H α Q v e hh q => ?_⟩
  refine ht σ H α _ hh ⟨sub x.cls c, rfl, ?_⟩
  cases hs : sub x.cls c with
  | true =>
    rw [hs] at e
    exact qa σ H α Q v e hh q
  | false =>
    rw [hs] at e
    exact qb σ H α Q v e hh q
theorem item_isb {c : Nat} {cn : PySem.Str} (F : ClsF X.K CA sub flds) (h0 : CA x.cls ≠ 0) (hc : CA c ≠ 0) (hz : Zc (.ref (CA x.cls)) d oe) (hd : ∃ vs, oe.data = .fields vs) (hN : X.N[i]? = some n) (hv : Vis X.env.scope n) (hdb : (n == ("__debug__" : PySem.Str)) = false) (hcd : (n == ("__classdict__" : PySem.Str)) = false)
    (gi : Gl X "isinstance") (mi : X.mg "isinstance" = none) (gc : Gl X cn) (mc : X.mg cn = some (.ref (CA c))) (dc : (cn == ("__debug__" : PySem.Str)) = false) :
    ItemT (X.suite a ((a, oe) :: pn)) CA x a d (some i) (.Call (.Name "isinstance" p1) [.Name n p2, .Name cn p3] [] p4) (some (if sub x.cls c then .bl true else .bl false)) := by
  obtain ⟨t, pt, ht⟩ := isi_pe (p1 := p1) (p2 := p2) (p3 := p3) (pos := p4) (pn := pn) F h0 hc hz hd hN hv hdb hcd gi mi gc mc dc
  refine ⟨_, pt, fun σ H α Q v e hh q => ht σ H α _ hh (q _ ?_)⟩
  cases hs : sub x.cls c with
  | true => rw [hs] at e; cases e; exact .bl _
  | false => rw [hs] at e; cases e; exact .bl _
/-- items -/
inductive ItemsT (X : Cx) (CA : Nat → Addr) (sub : Nat → Nat → Bool) (x : Ex) (a : Addr) (d : Option Addr) (nm : Option Nat) : List Expr → List Hi → Prop
  | nil : ItemsT X CA sub x a d nm [] []
  | cons {pe : Expr} {pes : List Expr} {h : Hi} {l : List Hi} (s : noStar [pe] = true) (r : ItemT X CA x a d nm pe (hiD sub x h)) (t : ItemsT X CA sub x a d nm pes l) : ItemsT X CA sub x a d nm (pe :: pes) (h :: l)
theorem items_pa {X : Cx} : ∀ {pes : List Expr} {l : List Hi}, ItemsT X CA sub x a d nm pes l → ∃ t : TA, PA X pes t ∧ ∀ (σ : SL) (H : Hp) (α : List (Addr × Bool)) (Q : List V → Hp → Prop) (ds : List D), hisD sub x l = some ds → Held X.K CA x a d nm α H σ → (∀ ws, RpL X.K α H ds ws → Q ws H) → t σ H Q
  | _, _, .nil => ⟨_, pa_nil, fun σ H α Q ds e hh q => by cases e; exact q [] .nil⟩
  | _, _, .cons s r t => by
    obtain ⟨ta, pa, qa⟩ := r
    obtain ⟨tt, pt, qt⟩ := items_pa t
    refine ⟨_, pa_cons pa pt (he_of (noStar1 s)), fun σ H α Q ds e hh q => ?_⟩
    simp only [hisD] at e
    split at e
    · rename_i v vs e1 e2
      cases e
      exact qa σ H α _ v e1 hh fun w rw' => qt σ H α _ vs e2 hh fun ws rws => q _ (.cons rw' rws)
    · cases e
/-- what a clause hands back -/
def hdR (sub : Nat → Nat → Bool) (x : Ex) (S : Sto) : Hd → Option (D × Sto)
  | .lst _ _ l => match hisD sub x l with
    | some ds => if ds.length ≤ line then some (.ref S.length, S ++ [.lst ds]) else none
    | none => none
  | .one _ _ v => some (v, S)
def Hd.cl : Hd → Nat
  | .lst c _ _ => c
  | .one c _ _ => c
def Hd.nam : Hd → Option Nat
  | .lst _ n _ => n
  | .one _ n _ => n
def tsH (K : PySem.W.Frag) (CA : Nat → Addr) (sub : Nat → Nat → Bool) (hd : Hd) : Addr → Value → Option Addr → TS := fun a cls d J σ H => ∃ (x : Ex) (α : List (Addr × Bool)) (S : Sto) (v : D) (S' : Sto), cls = .ref (CA x.cls) ∧ CA x.cls ≠ 0 ∧ Held K CA x a d hd.nam α H σ ∧ StR K α H S ∧ hdR sub x S hd = some (v, S') ∧
  ∀ α' H' w, Ext α H α' H' → StR K α' H' S' → Rp K α' H' v w → J.rt w H'
theorem suite_lst {c : Nat} {l : List Hi} {pes : List Expr} (h : ∀ (a : Addr) (oe : Obj) (d : Option Addr) (pn : List (Addr × Obj)) (x : Ex), CA x.cls ≠ 0 → Zc (.ref (CA x.cls)) d oe → (∃ vs, oe.data = .fields vs) → ItemsT (X.suite a ((a, oe) :: pn)) CA sub x a d nm pes l) :
    SuiteOk X [.Return (some (.List pes p1)) p2] (tsH X.K CA sub (.lst c nm l)) := by
  intro a oe cls d pn hz hd
  refine ⟨fun pins s σ H J I ⟨x, α, S, v, S', ec, h0, hh, st, er, q⟩ => ?_⟩
  subst ec
  obtain ⟨t, pt, ht⟩ := items_pa (h a oe d pn x h0 hz hd)
  refine (pss_one (ps_ret (pe_lst pt))).run pins s σ H J I ?_
  simp only [hdR] at er
  split at er
  · rename_i ds e
    split at er
    · rename_i hlen
      cases er
      refine ht σ H α _ ds e hh fun ws rws => ⟨by rw [← line_eq, ← rws.length]; exact hlen, fun p hp => ?_⟩
      refine q (α ++ [(p, true)]) _ _ (Ext.new hp) (st.push hp ⟨rfl, ws, upd_same, (rws.ext (Ext.aside hp)).more⟩) (.ref (m := true) ?_)
      rw [← st.len]; simp
    · cases er
  · cases er
theorem suite_one {c : Nat} {v : D} {cc : Const} {j : Nat} (h : okL v cc = true) : SuiteOk X [.Return (some (.Constant cc j p1)) p2] (tsH X.K CA sub (.one c nm v)) := by
  intro a oe cls d pn hz hd
  refine ⟨fun pins s σ H J I ⟨x, α, S, v', S', ec, h0, hh, st, er, q⟩ => ?_⟩
  simp only [hdR, Option.some.injEq, Prod.mk.injEq] at er
  obtain ⟨rfl, rfl⟩ := er
  obtain ⟨t, pt, ht⟩ := item_lit (X := X.suite a ((a, oe) :: pn)) (CA := CA) (x := x) (a := a) (d := d) (nm := nm) (j := j) (pos := p1) h
  exact (pss_one (ps_ret pt)).run pins s σ H J I (ht σ H α _ v rfl hh fun w r => q α H w (Ext.refl _ _) st r)
def clOf (K : PySem.W.Frag) (CA : Nat → Addr) (sub : Nat → Nat → Bool) (hd : Hd) : Cla := (.ref (CA hd.cl), hd.nam, tsH K CA sub hd)
theorem hdl_cons {sub : Nat → Nat → Bool} {x : Ex} {ρ : Env} {S : Sto} {h : Hd} {l : List Hd} : hdl sub x ρ S (h :: l) = if sub x.cls h.cl = true then (match hdR sub x S h with | some (v, S') => .rt v S' | none => .no) else hdl sub x ρ S l := by
  cases h with
  | lst c n l2 =>
    rw [show (Hd.lst c n l2).cl = c from rfl]
    simp only [hdl, hdR]
    by_cases hb : sub x.cls c = true
    · rw [if_pos hb, if_pos hb]
      cases hisD sub x l2 with
      | none => rfl
      | some ds => by_cases hl : ds.length ≤ line <;> simp [hl]
    · rw [if_neg hb, if_neg hb]
  | one c n v =>
    rw [show (Hd.one c n v).cl = c from rfl]
    simp only [hdl, hdR]
/-- the wish of the clauses, by the engine's -/
theorem mix_of {K : PySem.W.Frag} {W : WX} {J : Ends} (F : ClsF K CA sub flds) {x : Ex} {ρ : Env} {S : Sto} {α : List (Addr × Bool)} {H : Hp} {σ : SL} {d : Option Addr} (he : EnvR K α H ρ σ) (hs : StR K α H S) (hx : ExR K CA α H x (.ref (CA x.cls)) d) : ∀ {n : Nat} {l : List Hd}, (∀ h ∈ l, CA h.cl ≠ 0 ∧ ∀ i, h.nam = some i → i < n) →
    PostS K CA α H (hdl sub x ρ S l) J W → wMix K n W J (l.map (clOf K CA sub)) (.ref (CA x.cls)) d σ H
  | _, [], _, p => p α H σ _ d (Ext.refl _ _) hs he hx
  | n, h :: l, hc, p => by
    obtain ⟨hc1, hc2⟩ := hc h (by simp)
    refine ⟨sub x.cls h.cl, F.mt _ _ hx.2.1 hc1, fun hb a ha hlen => ?_, fun hb => ?_⟩
    · rw [hdl_cons, if_pos hb] at p
      cases hr : hdR sub x S h with
      | none => rw [hr] at p; exact p.elim
      | some vs =>
        obtain ⟨v, S'⟩ := vs
        rw [hr] at p
        cases hn : h.nam with
        | none => exact ⟨x, α, S, v, S', rfl, hx.2.1, ⟨fun i e => (by rw [hn] at e; cases e), hx⟩, hs, hr, p⟩
        | some i =>
          refine ⟨x, α, S, v, S', rfl, hx.2.1, ⟨fun j e => ?_, hx⟩, hs, hr, p⟩
          rw [hn] at e; cases e
          exact List.getElem?_set_self (by rw [hlen]; exact hc2 _ hn)
    · rw [hdl_cons, if_neg (by rw [hb]; exact Bool.false_ne_true)] at p
      exact mix_of F he hs hx (fun h' hm => hc h' (List.mem_cons_of_mem _ hm)) p
theorem ss_try {W : WX} {b : List Stmt} {h0 : ExceptHandler} {hs : List ExceptHandler} {l : List Hd} {f : Env → Sto → RS} (hst : X.stack = X.env :: X.outer) (hfr : X.env.frame = some X.env.locals) (hN : X.N.Nodup) (tk : Takes X W) (F : ClsF X.K CA sub flds)
    (hb : ∀ (W : WX) (pn : List (Addr × Obj)) (xe : Value → Shared → Prop), Takes (X.tr pn xe) W → PassesOwn (model X.prog X.w) X.A X.env xe → SSs CA (X.tr pn xe) W b f)
    (hh : MixOk X (h0 :: hs) (l.map (clOf X.K CA sub))) (hl : ∀ h ∈ l, CA h.cl ≠ 0 ∧ ∀ i, h.nam = some i → i < X.N.length) :
    SS CA X W (.Try b (h0 :: hs) [] [] pos) (fun ρ S => match f ρ S with
    | .ex x ρ1 S1 => hdl sub x ρ1 S1 l
    | r => r) := by
  refine ss_w (ps_try_mix (tb := fun W => wS X.K CA W f) hst hfr hN tk (fun W pn xe tk' hp => hb W pn xe tk' hp) hh) fun ρ S σ H α J he hs2 p => ⟨ρ, S, α, he, hs2, ?_⟩
  revert p
  generalize f ρ S = r
  intro p
  cases r with
  | ex x ρ1 S1 =>
    intro α' H' σ' cls d e s en hx
    have ec := hx.1
    subst ec
    exact mix_of F en s hx hl (PostS.ext e p)
  | _ => exact p
end
end Eg

namespace Eg
open PySem PySem.Spec PyProof.Rows L2
def locL (k : Ck) (x : PySem.Str) : Bool := decide (k.sc.names.lookup x = some .local)
def cellB (k : Ck) (x : PySem.Str) : Bool := decide (k.sc.names.lookup x = some .cell) && k.fn x
/-- a comprehension given to a local on its own line -/
def lcLine (x : PySem.Str) (py : Pos) : Expr → Bool
  | .ListComp _ _ scope pos => (py.line == pos.line) && !(scope.names.any fun (n, k) => n == x && (k == .local || k == .cell))
  | _ => false
section
variable (G : Glo)
def clsB (k : Ck) (c : Nat) (x : PySem.Str) : Bool := match G.cls[c]? with
  | some nm => decide (x = cs nm) && glB k.sc x && nmB x
  | none => false
def varB (k : Ck) (nm : Option Nat) (n : PySem.Str) : Bool := match nm with
  | some i => decide (k.N[i]? = some n) && visB k.sc n && nmB n
  | none => false
def isiB (k : Ck) (nm : Option Nat) (c : Nat) : Expr → Bool
  | .Call (.Name z _) [.Name n _, .Name cn _] [] _ => decide (z = ("isinstance" : PySem.Str)) && glB k.sc z && varB k nm n && clsB G k c cn
  | _ => false
def okHi (k : Ck) (nm : Option Nat) : Hi → Expr → Bool
  | .lit d, .Constant c _ _ => okL d c
  | .attr f, .Attribute (.Name n _) y _ => varB k nm n && decide (y = cs f) && decide (f ∈ G.flds)
  | .isn c a b, .IfExp t (.Constant ca _ _) (.Constant cb _ _) _ => isiB G k nm c t && okL a ca && okL b cb
  | .isn c a b, .Call x y z p => isiB G k nm c (.Call x y z p) && decide (a = .bl true) && decide (b = .bl false)
  | _, _ => false
def okHis (k : Ck) (nm : Option Nat) : List Hi → List Expr → Bool
  | [], [] => true
  | h :: l, e :: es => noStar [e] && okHi G k nm h e && okHis k nm l es
  | _, _ => false
def nmOk (k : Ck) : Option Nat → Option PySem.Str → Bool
  | none, none => true
  | some i, some y => decide (k.N[i]? = some y) && locL k y
  | _, _ => false
def okHd (k : Ck) : Hd → ExceptHandler → Bool
  | .lst c nm l, .ExceptHandler (some (.Name x _)) n [.Return (some (.List es _)) _] _ => nmOk k nm n && clsB G k c x && okHis G k nm l es
  | .one c nm d, .ExceptHandler (some (.Name x _)) n [.Return (some (.Constant cc _ _)) _] _ => nmOk k nm n && clsB G k c x && okL d cc
  | _, _ => false
def okHds (k : Ck) : List Hd → List ExceptHandler → Bool
  | [], [] => true
  | h :: l, e :: es => okHd G k h e && okHds k l es
  | _, _ => false
mutual
def okS (k : Ck) : Sm → Stmt → Bool
  | .asg i e, st => match st with
    | .Assign [.Name x p'] v _ => decide (k.N[i]? = some x) && okE G k e v && (match e with
      | .comp _ => (locL k x && lcLine x p' v) || cellB k x
      | _ => notLc v && locB k x)
    | _ => false
  | .asgT ts e, st => match st with
    | .Assign [.Tuple xs kt pt] v _ => okT k (.tp ts) (.Tuple xs kt pt) && okE G k e v && notLc v && noSwap k.sc xs v && noStar [.Tuple xs kt pt]
    | _ => false
  | .par is es, st => match is, st with
    | [i, j], .Assign [.Tuple [.Name x px, .Name y py] _ _] (.Tuple [a, b] _ _) _ => decide (k.N[i]? = some x) && decide (k.N[j]? = some y) && decide (i ≠ j) && locL k x && locL k y && (py.line == px.line) && noStar [a, b] && !([x, y].eraseDups.length != 2) && !([a, b].all (foldedForSure 8)) && !([a, b].all (constantsAlone 8)) && okEs G k es [a, b]
    | [i, j, m], .Assign [.Tuple [.Name x px, .Name y py, .Name z pz] _ _] (.Tuple [a, b, c] _ _) _ => decide (k.N[i]? = some x) && decide (k.N[j]? = some y) && decide (k.N[m]? = some z) && decide (i ≠ j) && decide (i ≠ m) && decide (j ≠ m) && locL k x && locL k y && locL k z && (py.line == px.line) && (pz.line == px.line) && noStar [a, b, c] && !([x, y, z].eraseDups.length != 3) && !([a, b, c].all (foldedForSure 8)) && !([a, b, c].all (constantsAlone 8)) && okEs G k es [a, b, c]
    | _, _ => false
  | .aug i o e, st => match st with
    | .AugAssign (.Name x _) op v _ => decide (k.N[i]? = some x) && locB k x && decide (op = opOf o) && (decide (o = .add) || decide (o = .sub)) && okE G k e v
    | _ => false
  | .setI a i e, st => match st with
    | .Assign [.Subscript b ix _] v _ => notSl ix && notLc v && okE G k e v && okE G k a b && okE G k i ix
    | _ => false
  | .expr e, st => match st with
    | .Expr v _ => notLc v && okE G k e v
    | _ => false
  | .ret e, st => match st with
    | .Return (some v) _ => okE G k e v
    | _ => false
  | .retN, st => match st with
    | .Return none _ => true
    | _ => false
  | .ife t a b, st => match st with
    | .If c p q _ => okE G k t c && okSs k a p && okSs k b q
    | _ => false
  | .whl t b, st => match st with
    | .While c p [] _ => okE G k t c && okSs k b p
    | _ => false
  | .fr tg it b, st => match st with
    | .For t iter p [] _ => it.plainI && notSet iter && okT k tg t && okI G k it iter && okSs k b p
    | _ => false
  | .rais c fs es, st => match st with
    | .Raise (some (.Call (.Name x _) [] [] _)) none _ => clsB G k c x && decide ((c, fs) ∈ G.exs) && (match es with | .nil => true | _ => false)
    | .Raise (some (.Call (.Name x _) (y :: ys) [] _)) none _ => clsB G k c x && decide ((c, fs) ∈ G.exs) && noStar (y :: ys) && okEs G k es (y :: ys)
    | _ => false
  | .try_ b hs, st => match st with
    | .Try body (h0 :: hds) [] [] _ => okSs k b body && okHds G k hs (h0 :: hds)
    | _ => false
  | .pass, st => match st with
    | .Pass _ => true
    | _ => false
  | .brk, st => match st with
    | .Break _ => true
    | _ => false
  | .cont, st => match st with
    | .Continue _ => true
    | _ => false
  | .nev, _ => true
def okSs (k : Ck) : Ss → List Stmt → Bool
  | .nil, sts => match sts with
    | [] => true
    | _ => false
  | .cons s ss, sts => match sts with
    | st :: sts => okS k s st && okSs k ss sts
    | _ => false
end
end
structure XS (G : Glo) (CA : Nat → Addr) (c : Cl) (k : Ck) (X : Cx) : Prop where
  xo : XO G CA c k X
  stk : X.stack = X.env :: X.outer
  frm : X.env.frame = some X.env.locals
  knd : X.env.scope.kind = .function
  clsm : ∀ i nm, G.cls[i]? = some nm → X.mg (cs nm) = some (.ref (CA i)) ∧ CA i ≠ 0
  cf : ClsF X.K CA G.sub G.flds
  exc : ∀ i fs, (i, fs) ∈ G.exs → ExC X (CA i) fs
section
variable {G : Glo} {CA : Nat → Addr} {c : Cl} {k : Ck} {X : Cx}
theorem XO.tr (h : XO G CA c k X) (pn : List (Addr × Obj)) (xe : Value → Shared → Prop) : XO G CA c k (X.tr pn xe) :=
  ⟨h.n, h.nd, h.sc, h.calm, h.hu, h.fn, h.blt, h.con, fun f d e => ⟨(h.call f d e).ex⟩⟩
theorem XS.tr (h : XS G CA c k X) (pn : List (Addr × Obj)) (xe : Value → Shared → Prop) : XS G CA c k (X.tr pn xe) :=
  ⟨h.xo.tr pn xe, h.stk, h.frm, h.knd, h.clsm, h.cf, fun i fs q => ⟨(h.exc i fs q).oex, (h.exc i fs q).one, (h.exc i fs q).fld, (h.exc i fs q).ini⟩⟩
theorem XS.cl (h : XS G CA c k X) {i : Nat} {x : PySem.Str} (e : clsB G k i x = true) : Gl X x ∧ X.mg x = some (.ref (CA i)) ∧ CA i ≠ 0 ∧ (x == ("__debug__" : PySem.Str)) = false := by
  unfold clsB at e
  split at e
  · rename_i nm hn
    simp only [Bool.and_eq_true, decide_eq_true_eq] at e
    obtain ⟨⟨e1, e2⟩, e3⟩ := e
    subst e1
    obtain ⟨m1, m2⟩ := h.clsm _ _ hn
    exact ⟨h.xo.gl e2, m1, m2, (nm_of e3).1⟩
  · cases e
theorem locL_ok (h : XO G CA c k X) {x : PySem.Str} (e : locL k x = true) : X.env.scope.names.lookup x = some .local := by
  rw [h.sc]; exact of_decide_eq_true e
theorem varB_ok (h : XO G CA c k X) {nm : Option Nat} {n : PySem.Str} (e : varB k nm n = true) : ∃ i, nm = some i ∧ X.N[i]? = some n ∧ Vis X.env.scope n ∧ (n == ("__debug__" : PySem.Str)) = false ∧ (n == ("__classdict__" : PySem.Str)) = false := by
  unfold varB at e
  split at e
  · rename_i i
    simp only [Bool.and_eq_true, decide_eq_true_eq] at e
    obtain ⟨⟨e1, e2⟩, e3⟩ := e
    obtain ⟨d1, d2⟩ := nm_of e3
    exact ⟨i, rfl, by rw [h.n]; exact e1, h.vis e2, d1, d2⟩
  · cases e
theorem isiB_ok {nm : Option Nat} {q : Nat} {t : Expr} (e : isiB G k nm q t = true) : ∃ p1 p2 p3 p4 n cn, t = .Call (.Name ("isinstance" : PySem.Str) p1) [.Name n p2, .Name cn p3] [] p4 ∧ glB k.sc ("isinstance" : PySem.Str) = true ∧ varB k nm n = true ∧ clsB G k q cn = true := by
  unfold isiB at e
  split at e
  · simp only [Bool.and_eq_true, decide_eq_true_eq] at e
    obtain ⟨⟨⟨e1, e2⟩, e3⟩, e4⟩ := e
    subst e1
    exact ⟨_, _, _, _, _, _, rfl, e2, e3, e4⟩
  · cases e
theorem sound_hi (h : XS G CA c k X) {nm : Option Nat} {a : Addr} {oe : Obj} {d : Option Addr} {pn : List (Addr × Obj)} {x : Ex} (h0 : CA x.cls ≠ 0) (hz : Zc (.ref (CA x.cls)) d oe) (hd : ∃ vs, oe.data = .fields vs) : ∀ (hi : Hi) (e : Expr), okHi G k nm hi e = true → ItemT (X.suite a ((a, oe) :: pn)) CA x a d nm e (hiD G.sub x hi) := by
  intro hi e q
  unfold okHi at q
  split at q
  · exact item_lit q
  · simp only [Bool.and_eq_true, decide_eq_true_eq] at q
    obtain ⟨⟨q1, q2⟩, q3⟩ := q
    obtain ⟨i, rfl, v1, v2, v3, v4⟩ := varB_ok h.xo q1
    subst q2
    exact item_attr h.cf h0 q3 hz hd v1 v2 v3 v4
  · simp only [Bool.and_eq_true] at q
    obtain ⟨⟨q1, q2⟩, q3⟩ := q
    obtain ⟨p1, p2, p3, p4, n, cn, rfl, g1, g2, g3⟩ := isiB_ok q1
    obtain ⟨i, rfl, v1, v2, v3, v4⟩ := varB_ok h.xo g2
    obtain ⟨c1, c2, c3, c4⟩ := h.cl g3
    exact item_isn h.cf h0 c3 hz hd v1 v2 v3 v4 (h.xo.gl g1) (h.xo.blt _ isi_all) c1 c2 c4 q2 q3
  · simp only [Bool.and_eq_true, decide_eq_true_eq] at q
    obtain ⟨⟨q1, q2⟩, q3⟩ := q
    subst q2 q3
    obtain ⟨p1, p2, p3, p4, n, cn, e0, g1, g2, g3⟩ := isiB_ok q1
    rw [e0]
    obtain ⟨i, rfl, v1, v2, v3, v4⟩ := varB_ok h.xo g2
    obtain ⟨c1, c2, c3, c4⟩ := h.cl g3
    exact item_isb h.cf h0 c3 hz hd v1 v2 v3 v4 (h.xo.gl g1) (h.xo.blt _ isi_all) c1 c2 c4
  · cases q
theorem sound_his (h : XS G CA c k X) {nm : Option Nat} {a : Addr} {oe : Obj} {d : Option Addr} {pn : List (Addr × Obj)} {x : Ex} (h0 : CA x.cls ≠ 0) (hz : Zc (.ref (CA x.cls)) d oe) (hd : ∃ vs, oe.data = .fields vs) : ∀ (l : List Hi) (es : List Expr), okHis G k nm l es = true → ItemsT (X.suite a ((a, oe) :: pn)) CA G.sub x a d nm es l
  | [], [], _ => .nil
  | [], _ :: _, q => by simp [okHis] at q
  | _ :: _, [], q => by simp [okHis] at q
  | hi :: l, e :: es, q => by
    simp only [okHis, Bool.and_eq_true] at q
    exact .cons q.1.1 (sound_hi h h0 hz hd hi e q.1.2) (sound_his h h0 hz hd l es q.2)
theorem sound_hds (h : XS G CA c k X) : ∀ (l : List Hd) (es : List ExceptHandler), okHds G k l es = true → MixOk X es (l.map (clOf X.K CA G.sub)) ∧ ∀ hd ∈ l, CA hd.cl ≠ 0 ∧ ∀ i, hd.nam = some i → i < X.N.length
  | [], [], _ => ⟨.nil, fun _ z => by cases z⟩
  | [], _ :: _, q => by simp [okHds] at q
  | _ :: _, [], q => by simp [okHds] at q
  | hd :: l, e :: es, q => by
    simp only [okHds, Bool.and_eq_true] at q
    obtain ⟨q1, q2⟩ := q
    obtain ⟨r1, r2⟩ := sound_hds h l es q2
    have key : ∀ {x : PySem.Str} {np p' : Pos} {n : Option PySem.Str} {b0 : Stmt} {b : List Stmt} {ts : Addr → Value → Option Addr → TS} {nm : Option Nat} {q : Nat}, nmOk k nm n = true → clsB G k q x = true → SuiteOk X (b0 :: b) ts → MixOk X (.ExceptHandler (some (.Name x np)) n (b0 :: b) p' :: es) ((.ref (CA q), nm, ts) :: l.map (clOf X.K CA G.sub)) ∧ CA q ≠ 0 ∧ ∀ i, nm = some i → i < X.N.length := by
      intro x np p' n b0 b ts nm q e1 e2 e3
      obtain ⟨c1, c2, c3, c4⟩ := h.cl e2
      unfold nmOk at e1
      split at e1
      · exact ⟨.bare ⟨c1, c4, .inl c2⟩ e3 r1, c3, fun i z => by cases z⟩
      · simp only [Bool.and_eq_true, decide_eq_true_eq] at e1
        have e4 := e1.1
        rw [← h.xo.n] at e4
        exact ⟨.named ⟨c1, c4, .inl c2⟩ e4 (locL_ok h.xo e1.2) e3 r1, c3, fun i z => by cases z; exact (List.getElem?_eq_some_iff.mp e4).1⟩
      · cases e1
    have fin : MixOk X (e :: es) (clOf X.K CA G.sub hd :: l.map (clOf X.K CA G.sub)) ∧ CA hd.cl ≠ 0 ∧ ∀ i, hd.nam = some i → i < X.N.length := by
      unfold okHd at q1
      split at q1
      · simp only [Bool.and_eq_true] at q1
        obtain ⟨⟨a1, a2⟩, a3⟩ := q1
        exact key a1 a2 (suite_lst fun a oe d pn x h0 hz hd => sound_his h h0 hz hd _ _ a3)
      · simp only [Bool.and_eq_true] at q1
        obtain ⟨⟨a1, a2⟩, a3⟩ := q1
        exact key a1 a2 (suite_one a3)
      · cases q1
    refine ⟨fin.1, fun hd' hm => ?_⟩
    rcases List.mem_cons.mp hm with rfl | hm
    · exact fin.2
    · exact r2 _ hm
theorem blk_of (h : XS G CA c k X) : X.env.blockKind = .function := by
  unfold PySem.Env.blockKind
  rw [h.knd]; rfl
mutual
theorem sound_s : ∀ (s : Sm) {X : Cx} {W : WX} (h : XS G CA c k X) (tk : Takes X W) (hp : PassesOwn (model X.prog X.w) X.A X.env X.xe) (st : Stmt), okS G k s st = true → SS CA X W st (evS G.sub c s)
  | .asg i e, X, W, h, tk, hp, st, q => by
    simp only [okS] at q
    split at q
    · rename_i x p' v p
      simp only [Bool.and_eq_true, decide_eq_true_eq] at q
      obtain ⟨⟨q1, q2⟩, q3⟩ := q
      rw [← h.xo.n] at q1
      split at q3
      · rename_i qc
        simp only [Bool.or_eq_true, Bool.and_eq_true] at q3
        rcases q3 with ⟨a1, a2⟩ | a1
        · have hl := locL_ok h.xo a1
          unfold lcLine at a2
          split at a2
          · simp only [Bool.and_eq_true, Bool.not_eq_true'] at a2
            simp only [okE] at q2
            exact ss_setC q1 hl (sw_true h.knd hl a2.1 a2.2) (sound_c qc h.xo tk _ q2)
          · cases a2
        · simp only [cellB, Bool.and_eq_true, decide_eq_true_eq] at a1
          have hl : X.env.scope.names.lookup x = some .cell := by rw [h.xo.sc]; exact a1.1
          exact ss_set h.xo.nd q1 (.inr hl) (.inl (h.xo.fn _ a1.2)) (cell_ok hl) (sound_e (.comp qc) h.xo tk _ q2).1
      · simp only [Bool.and_eq_true] at q3
        obtain ⟨l1, l2⟩ := h.xo.loc q3.2
        exact ss_set h.xo.nd q1 l1 l2 (notLc_ok q3.1) (sound_e e h.xo tk _ q2).1
    · cases q
  | .asgT ts e, X, W, h, tk, hp, st, q => by
    simp only [okS] at q
    split at q
    · simp only [Bool.and_eq_true] at q
      obtain ⟨⟨⟨⟨q1, q2⟩, q3⟩, q4⟩, q5⟩ := q
      exact ss_asg (bd := fun S d ρ => bindT S (.tp ts) d ρ) (sole_ok q3) (noSwap_ok (by rw [h.xo.sc]; exact q4)) (by rfl) (sound_e e h.xo tk _ q2).1 (sound_t h.xo (.tp ts) _ q1)
    · cases q
  | .par is es, X, W, h, tk, hp, st, q => by
    simp only [okS] at q
    split at q
    · simp only [Bool.and_eq_true, decide_eq_true_eq, Bool.not_eq_true'] at q
      obtain ⟨⟨⟨⟨⟨⟨⟨⟨⟨⟨q1, q2⟩, q3⟩, q4⟩, q5⟩, q6⟩, q7⟩, q8⟩, q9⟩, q10⟩, q11⟩ := q
      have l1 := locL_ok h.xo q4
      have l2 := locL_ok h.xo q5
      rw [← h.xo.n] at q1 q2
      exact ss_par2 h.xo.calm h.xo.nd q1 q2 q3 l1 l2 (swapped2 (blk_of h) l1 l2 q6 q7 q8 q9 q10) (sound_es es h.xo tk _ q11)
    · simp only [Bool.and_eq_true, decide_eq_true_eq, Bool.not_eq_true'] at q
      obtain ⟨⟨⟨⟨⟨⟨⟨⟨⟨⟨⟨⟨⟨⟨⟨q1, q2⟩, q2'⟩, q3⟩, q3'⟩, q3''⟩, q4⟩, q5⟩, q5'⟩, q6⟩, q6'⟩, q7⟩, q8⟩, q9⟩, q10⟩, q11⟩ := q
      have l1 := locL_ok h.xo q4
      have l2 := locL_ok h.xo q5
      have l3 := locL_ok h.xo q5'
      rw [← h.xo.n] at q1 q2 q2'
      exact ss_par3 h.xo.calm h.xo.nd q1 q2 q2' q3 q3' q3'' l1 l2 l3 (swapped3 (blk_of h) l1 l2 l3 q6 q6' q7 q8 q9 q10) (sound_es es h.xo tk _ q11)
    · cases q
  | .aug i o e, X, W, h, tk, hp, st, q => by
    simp only [okS] at q
    split at q
    · simp only [Bool.and_eq_true, decide_eq_true_eq, Bool.or_eq_true] at q
      obtain ⟨⟨⟨⟨q1, q2⟩, q3⟩, q4⟩, q5⟩ := q
      subst q3
      rw [← h.xo.n] at q1
      obtain ⟨l1, l2⟩ := h.xo.loc q2
      exact ss_aug q4 h.xo.nd q1 l1 l2 (sound_e e h.xo tk _ q5).1
    · cases q
  | .setI a i e, X, W, h, tk, hp, st, q => by
    simp only [okS] at q
    split at q
    · simp only [Bool.and_eq_true] at q
      obtain ⟨⟨⟨⟨q1, q2⟩, q3⟩, q4⟩, q5⟩ := q
      exact ss_setI q1 (sole_ok q2) (sound_e e h.xo tk _ q3).1 (sound_e a h.xo tk _ q4).1 (sound_e i h.xo tk _ q5).1
    · cases q
  | .expr e, X, W, h, tk, hp, st, q => by
    simp only [okS] at q
    split at q
    · simp only [Bool.and_eq_true] at q
      exact ss_expr (notLc_ok q.1) (sound_e e h.xo tk _ q.2).1
    · cases q
  | .ret e, X, W, h, tk, hp, st, q => by
    simp only [okS] at q
    split at q
    · exact ss_ret (sound_e e h.xo tk _ q).1
    · cases q
  | .retN, X, W, h, tk, hp, st, q => by
    simp only [okS] at q
    split at q
    · exact ss_retN
    · cases q
  | .ife t a b, X, W, h, tk, hp, st, q => by
    simp only [okS] at q
    split at q
    · simp only [Bool.and_eq_true] at q
      exact ss_if (sound_e t h.xo tk _ q.1.1).2 (sound_ss a h tk hp _ q.1.2) (sound_ss b h tk hp _ q.2)
    · cases q
  | .whl t b, X, W, h, tk, hp, st, q => by
    simp only [okS] at q
    split at q
    · simp only [Bool.and_eq_true] at q
      exact ss_while hp (sound_e t h.xo tk _ q.1).2 (sound_ss b h tk hp _ q.2)
    · cases q
  | .fr tg it b, X, W, h, tk, hp, st, q => by
    simp only [okS] at q
    split at q
    · simp only [Bool.and_eq_true] at q
      obtain ⟨⟨⟨⟨q1, q2⟩, q3⟩, q4⟩, q5⟩ := q
      exact ss_for (bd := fun S d ρ => bindT S tg d ρ) hp h.xo.calm (sound_i it h.xo tk _ _ q1 q4) (sound_t h.xo tg _ q3) (sound_ss b h tk hp _ q5) (folded_of q2)
    · cases q
  | .rais cl fs es, X, W, h, tk, hp, st, q => by
    simp only [okS] at q
    split at q
    · simp only [Bool.and_eq_true, decide_eq_true_eq] at q
      obtain ⟨⟨q1, q2⟩, q3⟩ := q
      obtain ⟨c1, c2, c3, c4⟩ := h.cl q1
      cases es with
      | nil => exact ss_raise0 h.xo.calm c3 (h.exc _ _ q2) tk c1 c2 c4
      | _ => cases q3
    · simp only [Bool.and_eq_true, decide_eq_true_eq] at q
      obtain ⟨⟨⟨q1, q2⟩, q3⟩, q4⟩ := q
      obtain ⟨c1, c2, c3, c4⟩ := h.cl q1
      exact ss_raise h.xo.calm c3 (h.exc _ _ q2) tk c1 c2 c4 q3 (sound_es es h.xo tk _ q4)
    · cases q
  | .try_ b hs, X, W, h, tk, hp, st, q => by
    simp only [okS] at q
    split at q
    · simp only [Bool.and_eq_true] at q
      obtain ⟨m1, m2⟩ := sound_hds h hs _ q.2
      exact ss_try h.stk h.frm h.xo.nd tk h.cf (fun W pn xe tk' hp' => sound_ss b (h.tr pn xe) tk' hp' _ q.1) m1 m2
    · cases q
  | .pass, X, W, h, tk, hp, st, q => by
    simp only [okS] at q
    split at q
    · exact ss_pass
    · cases q
  | .brk, X, W, h, tk, hp, st, q => by
    simp only [okS] at q
    split at q
    · exact ss_brk
    · cases q
  | .cont, X, W, h, tk, hp, st, q => by
    simp only [okS] at q
    split at q
    · exact ss_cont
    · cases q
  | .nev, X, W, h, tk, hp, st, q => ss_never fun _ _ => rfl
theorem sound_ss : ∀ (ss : Ss) {X : Cx} {W : WX} (h : XS G CA c k X) (tk : Takes X W) (hp : PassesOwn (model X.prog X.w) X.A X.env X.xe) (sts : List Stmt), okSs G k ss sts = true → SSs CA X W sts (evSs G.sub c ss)
  | .nil, X, W, h, tk, hp, sts, q => by
    simp only [okSs] at q
    split at q
    · exact sss_nil
    · cases q
  | .cons s ss, X, W, h, tk, hp, sts, q => by
    simp only [okSs] at q
    split at q
    · simp only [Bool.and_eq_true] at q
      exact sss_cons (sound_s s h tk hp _ q.1) (sound_ss ss h tk hp _ q.2)
    · cases q
end
end
end Eg

namespace Eg
open PySem PySem.Spec PyProof.Rows L2
/-! ### a call whose arguments hold no reference starts anew -/
section
variable {K : PySem.W.Frag} {α β : List (Addr × Bool)} {H : Hp}
mutual
theorem Rp.anew : ∀ {d : D} {v : V}, D.free d = true → Rp K α H d v → Rp K β H d v
  | _, _, _, .non => .non
  | _, _, _, .bl b => .bl b
  | _, _, _, .int i => .int i
  | _, _, _, .str s => .str s
  | _, _, f, .tup h r => .tup h (RpL.anew (by simpa [D.free] using f) r)
  | _, _, f, .ref (m := m) h => by simp [D.free] at f
theorem RpL.anew : ∀ {l : List D} {vs : List V}, D.freeL l = true → RpL K α H l vs → RpL K β H l vs
  | _, _, _, .nil => .nil
  | _, _, f, .cons r t => .cons (Rp.anew (by simp [D.freeL] at f; exact f.1) r) (RpL.anew (by simp [D.freeL] at f; exact f.2) t)
end
mutual
theorem Rp.shift : ∀ {d : D} {v : V}, Rp K β H d v → Rp K (α ++ β) H (d.shift α.length) v
  | _, _, .non => .non
  | _, _, .bl b => .bl b
  | _, _, .int i => .int i
  | _, _, .str s => .str s
  | _, _, .tup h r => .tup h (RpL.shift r)
  | _, _, .ref (m := m) (n := n) h => .ref (m := m) (by
      have : n + α.length = α.length + n := Nat.add_comm _ _
      first
        | rw [List.getElem?_append_right (by omega)]; simpa using h
        | rw [this, List.getElem?_append_right (by omega)]; simpa using h)
theorem RpL.shift : ∀ {l : List D} {vs : List V}, RpL K β H l vs → RpL K (α ++ β) H (D.shiftL α.length l) vs
  | _, _, .nil => .nil
  | _, _, .cons r t => .cons (Rp.shift r) (RpL.shift t)
end
theorem keyR_shift {d : D} {k : Nat} {y : Key} (h : keyR d y) : keyR (d.shift k) y := by
  cases d with
  | int i => exact h
  | str s => exact h
  | _ => exact h.elim
theorem Paired.mapL {A B C : Type} {F : A → B → Prop} {G : C → B → Prop} {f : A → C} (g : ∀ a b, F a b → G (f a) b) : ∀ {l : List A} {k : List B}, Paired F l k → Paired G (l.map f) k
  | _, _, .nil => .nil
  | _, _, .cons r t => .cons (g _ _ r) (Paired.mapL g t)
theorem OR.shift {a : Addr} {m : Bool} {o : O} (h : OR K β H a m o) : OR K (α ++ β) H a m (O.shift α.length o) := by
  cases o with
  | lst l => obtain ⟨hm, vs, h1, h2⟩ := h; exact ⟨hm, vs, h1, h2.shift⟩
  | ro l => obtain ⟨hm, vs, h1, h2⟩ := h; exact ⟨hm, vs, h1, h2.shift⟩
  | dct kv => obtain ⟨hm, kvs, h1, h2⟩ := h; exact ⟨hm, kvs, h1, Paired.mapL (fun p q z => ⟨keyR_shift z.1, z.2.shift⟩) h2⟩
  | exc c fs => exact h.elim
variable {H' : Hp} {S S1 : Sto}
theorem ext_old (e : Ext [] H β H') : Ext α H α H' := ⟨⟨[], by simp, fun b hb => by cases hb⟩, fun a o h _ => e.keep a o h (by simp), e.tups, e.frzs, e.dom⟩
theorem str_old (hs : StR K α H S) (e : Ext [] H β H') : StR K α H' S := ⟨hs.len, hs.nd, fun n a m o h1 h2 => (hs.at_ n a m o h1 h2).ext (ext_old e) fun ho h => e.keep a ho h (by simp)⟩
theorem news_none (e : Ext [] H β H') : ∀ b ∈ β, H b.1 = none := by
  obtain ⟨γ, h1, h2⟩ := e.pre
  rw [List.nil_append] at h1
  rw [h1]; exact h2
theorem ext_both (e : Ext [] H β H') : Ext α H (α ++ β) H' := ⟨⟨β, rfl, news_none e⟩, fun a o h _ => e.keep a o h (by simp), e.tups, e.frzs, e.dom⟩
theorem str_both (hs : StR K α H S) (e : Ext [] H β H') (s1 : StR K β H' S1) : StR K (α ++ β) H' (S ++ S1.map (O.shift α.length)) := by
  have off : ∀ {n a}, α[n]? = some (a, true) → (a, true) ∉ β := fun {n a} h hm => by
    obtain ⟨o, _, ho⟩ := hs.obj h
    have := ho.mut
    rw [news_none e _ hm] at this
    exact this
  have old := str_old hs e
  refine ⟨by simp [hs.len, s1.len], fun i j a hi hj => ?_, fun n a m o h1 h2 => ?_⟩
  · by_cases ci : i < α.length
    · rw [List.getElem?_append_left ci] at hi
      by_cases cj : j < α.length
      · rw [List.getElem?_append_left cj] at hj
        exact hs.nd i j a hi hj
      · rw [List.getElem?_append_right (by omega)] at hj
        exact (off hi (List.mem_of_getElem? hj)).elim
    · rw [List.getElem?_append_right (by omega)] at hi
      by_cases cj : j < α.length
      · rw [List.getElem?_append_left cj] at hj
        exact (off hj (List.mem_of_getElem? hi)).elim
      · rw [List.getElem?_append_right (by omega)] at hj
        have := s1.nd _ _ a hi hj
        omega
  · by_cases c : n < α.length
    · rw [List.getElem?_append_left c] at h1
      rw [List.getElem?_append_left (by rw [← hs.len]; exact c)] at h2
      exact (old.at_ n a m o h1 h2).more
    · rw [List.getElem?_append_right (by omega)] at h1
      rw [List.getElem?_append_right (by rw [← hs.len]; omega), List.getElem?_map, ← hs.len] at h2
      cases q : S1[n - α.length]? with
      | none => rw [q] at h2; cases h2
      | some o1 =>
        rw [q] at h2
        cases h2
        exact (s1.at_ _ a m o1 h1 q).shift
theorem reloc_post {CA : Nat → Addr} {r : R D} {Q : VK} {E : XK} (hs : StR K α H S) (p : Post K CA (Rp K) α H (reloc S r) Q E) : Post K CA (Rp K) [] H r Q E := by
  cases r with
  | no => exact p
  | ok v S1 =>
    intro β H' w e s1 rv
    unfold reloc at p
    dsimp only at p
    split at p
    · rename_i f
      exact p α H' w (ext_old e) (str_old hs e) (rv.anew f)
    · rw [← hs.len] at p
      exact p (α ++ β) H' w (ext_both e) (str_both hs e s1) rv.shift
  | ex x S1 =>
    intro β H' cls d e s1 rx
    obtain ⟨x1, x2, x3⟩ := rx
    unfold reloc at p
    dsimp only at p
    split at p
    · rename_i f
      refine p α H' cls d (ext_old e) (str_old hs e) ⟨x1, x2, ?_⟩
      rcases x3 with x3 | ⟨dd, fs, h1, h2, h3⟩
      · exact .inl x3
      · refine .inr ⟨dd, fs, h1, h2, ?_⟩
        clear p h2 x1 x2
        unfold fsFree at f
        revert f h3
        generalize x.fs = l
        intro f h3
        induction h3 with
        | nil => exact .nil
        | cons r t ih =>
          simp only [List.all_cons, Bool.and_eq_true] at f
          exact .cons ⟨r.1, r.2.anew f.1⟩ (ih f.2)
    · rw [← hs.len] at p
      refine p (α ++ β) H' cls d (ext_both e) (str_both hs e s1) ⟨x1, x2, ?_⟩
      rcases x3 with ⟨x3, x4⟩ | ⟨dd, fs, h1, h2, h3⟩
      · exact .inl ⟨by rw [x3]; rfl, x4⟩
      · exact .inr ⟨dd, fs, h1, h2, Paired.mapL (fun p q z => ⟨z.1, z.2.shift⟩) h3⟩
theorem env_start {d : Df} {ds : List D} {vs : List V} {N : List PySem.Str} (hN : N.length = d.ns.length) (r : RpL K α H ds vs) : EnvR K α H (startE d ds) (L2.start N vs) := by
  have hl := r.length
  refine ⟨by unfold L2.start startE; simp [hN, hl], fun i x hx => ?_⟩
  unfold startE at hx
  by_cases c : i < ds.length
  · rw [List.getElem?_append_left (by simpa using c), List.getElem?_map] at hx
    rw [List.getElem?_eq_getElem c] at hx
    cases hx
    obtain ⟨v, h1, h2⟩ := r.get (List.getElem?_eq_getElem c)
    refine ⟨v, ?_, h2⟩
    unfold L2.start
    rw [List.getElem?_append_left (by rw [List.length_map, ← hl]; exact c), List.getElem?_map, h1]; rfl
  · rw [List.getElem?_append_right (by simpa using c), List.getElem?_replicate] at hx
    split at hx <;> cases hx
end
end Eg

namespace Eg
open PySem PySem.Spec PyProof.Rows L2
/-! ### the defs of a text -/
def noDoc : List Stmt → List Stmt
  | .Expr (.Constant (.str _) _ _) _ :: r => r
  | r => r
theorem noDoc_ok {X : Cx} {CA : Nat → Addr} {W : WX} {f : Env → Sto → RS} : ∀ {sts : List Stmt}, SSs CA X W (noDoc sts) f → SSs CA X W sts f := by
  intro sts h
  unfold noDoc at h
  split at h
  · exact sss_doc h
  · exact h
abbrev Df.N (d : Df) : List PySem.Str := d.ns.map cs
def scB (N P : List PySem.Str) (sc : Scope) : Bool :=
  (match sc.kind with | .function => true | _ => false) && !sc.isCoroutine && !sc.isGenerator && decide N.Nodup && decide (N.take P.length = P) &&
    P.all (fun x => match sc.names.lookup x with | some .local => true | some .cell => true | _ => false) && sc.names.all (fun y => match y.2 with | .free => false | _ => true)
theorem scB_ok {N P : List PySem.Str} {sc : Scope} (h : scB N P sc = true) : FnScope N P sc := by
  unfold scB at h
  simp only [Bool.and_eq_true, Bool.not_eq_true', decide_eq_true_eq, List.all_eq_true] at h
  obtain ⟨⟨⟨⟨⟨⟨h1, h2⟩, h3⟩, h4⟩, h5⟩, h6⟩, h7⟩ := h
  refine ⟨?_, h2, h3, h4, h5, fun x hx => ?_, fun y hy e => ?_⟩
  · split at h1
    · assumption
    · cases h1
  · have q := h6 x hx
    split at q
    · exact .inl (by assumption)
    · exact .inr (by assumption)
    · cases q
  · have q := h7 y hy
    rw [e] at q
    cases q
section
variable (G : Glo)
def okDf (d : Df) (st : Stmt) : Bool := scB d.N d.pn (defScope st) && decide (d.ps ≤ d.ns.length) && okSs G ⟨d.N, defScope st, fun _ => true⟩ d.body (noDoc (defBody st))
end
structure DefOk (G : Glo) (K : PySem.W.Frag) (mg : PySem.Str → Option Value) (i : Nat) (d : Df) (fa : Addr) (fd : FuncData) (st : Stmt) : Prop where
  fn : Fun K (cs d.name) (cs d.name) st fa fd
  mg : mg (cs d.name) = some (.ref fa)
  ok : okDf G d st = true
  bd : Binds K fd d.pn []
  b0 : ∀ (s : Shared) (us : List Value), us.length = d.pn.length → BindsTo s fd ⟨us, []⟩ (d.pn.zip us)
  kw : ∀ perm ks, (i, perm, ks) ∈ G.kws → KwOk fd d.pn perm ks
/-- an own exception class -/
structure ExK (P : Program) (w : World) (K : PySem.W.Frag) (mg : PySem.Str → Option Value) (base : Heap) (C : Addr) (fs : List (List Nat)) : Prop where
  oex : OexC K C
  one : fs.length ≤ 1
  fld : ∀ f ∈ fs, PySem.W.findIn K (.ref C) (cs f) = some none
  ini : ∃ (fI : Addr) (fd : FuncData) (ps : List PySem.Str), PySem.W.findIn K (.ref C) "__init__" = some (some (.ref fI)) ∧ PySem.W.typeIn K (.ref fI) = some (.type "function") ∧
    FnOk P w K mg base (CX P w) 1 fI fd ps (spInit K fs) ∧ Binds K fd ps []
/-- what the top has written -/
structure Top (P : Program) (w : World) (K : PySem.W.Frag) (mg : PySem.Str → Option Value) (base : Heap) (G : Glo) (CA : Nat → Addr) : Prop where
  defs : ∀ i d, G.T[i]? = some d → ∃ fa fd st, DefOk G K mg i d fa fd st
  blt : ∀ x ∈ bltAll, mg x = none
  con : ∀ p ∈ G.cons, ∃ u v, mg (cs p.1) = some u ∧ RelV v u ∧ ∀ α H, Rp K α H p.2 v
  clsm : ∀ i nm, G.cls[i]? = some nm → mg (cs nm) = some (.ref (CA i)) ∧ CA i ≠ 0
  cf : ClsF K CA G.sub G.flds
  exc : ∀ i fs, (i, fs) ∈ G.exs → ExK P w K mg base (CA i) fs
section
variable {P : Program} {w : World} {K : PySem.W.Frag} {mg : PySem.Str → Option Value} {base : Heap} {G : Glo} {CA : Nat → Addr}
theorem pn_len {d : Df} (h : d.ps ≤ d.ns.length) : d.pn.length = d.ps := by
  unfold Df.pn
  rw [List.length_map, List.length_take]
  omega
/-- the context of a body -/
theorem xs_of (t : Top P w K mg base G CA) {n : Nat} (ih : ∀ i d fa fd st, G.T[i]? = some d → DefOk G K mg i d fa fd st → FnOk P w K mg base (CX P w) (n + 3) fa fd d.pn (spF K CA (run G.sub G.T n) i)) {d : Df} {st : Stmt} (hok : okDf G d st = true)
    {f : Addr} {cdv : Value} {qual : PySem.Str} {A : Around} {outer : List PySem.Env} {s : Shared} {H : Hp} {E : XK} (hr : Room (n + 3) (A.deeper (envOfC qual (defScope st) s.heap.objs.size f cdv))) :
    XS G CA (run G.sub G.T n) ⟨d.N, defScope st, fun _ => true⟩ (cxOf (CX P w) P w K mg base d.N qual (defScope st) f cdv A outer s H E) := by
  unfold okDf at hok
  simp only [Bool.and_eq_true, decide_eq_true_eq] at hok
  have S := scB_ok hok.1.1
  refine ⟨⟨rfl, S.nd, rfl, rfl, ?_, fun _ _ => rfl, t.blt, t.con, fun i e he => ?_⟩, rfl, rfl, S.kind, t.clsm, t.cf, fun i fs hm => ?_⟩
  · have := hr.un
    show (A.deeper (envOfC qual (defScope st) s.heap.objs.size f cdv)).units + 65 < cLine
    omega
  · obtain ⟨fa, fd, st', D⟩ := t.defs i e he
    exact ⟨⟨fa, fd, n + 3, D.mg, D.fn.kp, ih i e fa fd st' he D, hr, D.bd, D.kw⟩⟩
  · have E1 := t.exc i fs hm
    obtain ⟨fI, fd, ps, i1, i2, i3, i4⟩ := E1.ini
    exact ⟨E1.oex, E1.one, E1.fld, fI, 1, fd, ps, i1, i2, i3, hr.mono (by omega), i4⟩
theorem runB_post {c : Cl} {d : Df} {ds : List D} {S : Sto} {α : List (Addr × Bool)} {H : Hp} {Q : VK} {E : XK} (p : Post K CA (Rp K) α H (runB G.sub c d ds S) Q E) :
    PostS K CA α H (evSs G.sub c d.body (startE d ds) S) { nx := fun _ H' => Q .non H', rt := Q } (fun cls dd _ H' => E cls dd H') := by
  unfold runB at p
  revert p
  generalize evSs G.sub c d.body (startE d ds) S = r
  intro p
  cases r with
  | nx ρ S1 => exact fun α' H' σ e s _ => p α' H' .non e s .non
  | rt v S1 => exact p
  | ex x ρ S1 => exact fun α' H' σ cls dd e s _ rx => p α' H' cls dd e s rx
  | bk ρ S1 => exact p.elim
  | ct ρ S1 => exact p.elim
  | no => exact p
theorem run_len {n i : Nat} {ds : List D} {S : Sto} {d : Df} {α : List (Addr × Bool)} {H : Hp} {Q : VK} {E : XK} (hd : G.T[i]? = some d) (p : Post K CA (Rp K) α H (run G.sub G.T n i ds S) Q E) : ds.length = d.ps := by
  cases n with
  | zero => exact p.elim
  | succ n =>
    simp only [run, hd] at p
    split at p
    · assumption
    · exact p.elim
/-- each def keeps what the engine tells of it, calls n deep -/
theorem fn_level (t : Top P w K mg base G CA) : ∀ (n i : Nat) (d : Df) (fa : Addr) (fd : FuncData) (st : Stmt), G.T[i]? = some d → DefOk G K mg i d fa fd st → FnOk P w K mg base (CX P w) (n + 3) fa fd d.pn (spF K CA (run G.sub G.T n) i)
  | 0, i, d, fa, fd, st, hd, D => ⟨fun vs H Q E ⟨α, S, ds, _, _, p⟩ => p.elim, fun A outer s H args us vs Q E _ _ _ _ ⟨α, S, ds, _, _, p⟩ => p.elim⟩
  | n + 1, i, d, fa, fd, st, hd, D => by
    have ih := fn_level t n
    have hok := id D.ok
    unfold okDf at hok
    simp only [Bool.and_eq_true, decide_eq_true_eq] at hok
    have S0 := scB_ok hok.1.1
    have hN : d.N.length = d.ns.length := by unfold Df.N; rw [List.length_map]
    refine D.fn.okX S0 (fun vs H Q E ⟨α, S, ds, hs, hl, p⟩ => ?_) fun cdv A outer s H vs Q E hr ⟨α, S, ds, hs, hl, p⟩ => ?_
    · rw [pn_len hok.1.2, ← hl.length]
      exact run_len hd p
    · have xs := xs_of t ih D.ok (f := fa) (cdv := cdv) (qual := cs d.name) (A := A) (outer := outer) (s := s) (H := H) (E := E) hr
      have tk : Takes (cxOf (CX P w) P w K mg base d.N (cs d.name) (defScope st) fa cdv A outer s H E) (fun cls dd _ H' => E cls dd H') := takes_of rfl rfl rfl rfl
      have body := noDoc_ok (sound_ss (c := run G.sub G.T n) d.body xs tk (passes_of rfl) _ hok.2)
      refine ⟨_, body, ?_⟩
      have hlen := run_len hd p
      simp only [run, hd, hlen, if_true] at p
      split at p
      · rename_i hf
        exact ⟨startE d ds, [], [], env_start hN (RpL.anew hf hl), ⟨rfl, fun i j a h => by simp at h, fun n a m o h => by simp at h⟩, runB_post (reloc_post hs p)⟩
      · exact ⟨startE d ds, S, α, env_start hN hl, hs, runB_post p⟩
end
end Eg

namespace Eg
open PySem PySem.Spec PyProof.Rows L2
/-! ### __init__ of an own exception class -/
/-- B.__init__ is ValueError's: B an own class over ValueError without its own -/
structure BaseF (K : PySem.W.Frag) (B : Addr) : Prop where
  rd : PySem.W.readsIn K B (.type "type") = true
  ga : PySem.W.specialIn K (.ref B) "__getattribute__" = some (some (.builtin "type.__getattribute__"))
  fc : PySem.W.findCls K (.ref B) (.type "type") "__init__" = some (.val (.builtin "ValueError.__init__"))
section
variable {X : Cx} {ta : TA} {p1 p2 p3 p4 pos : Pos} {B : Addr} {x m : PySem.Str} {j : Nat}
theorem gl_of {sc : Scope} (h : X.env.scope = sc) (e : glB sc x = true) : Gl X x := by
  subst h
  unfold glB at e
  have z : X.env.scope.names.lookup x = some .globalImplicit := of_decide_eq_true e
  exact z
theorem eval_mc {env : PySem.Env} {o : Expr} {nm : PySem.Str} {ap cp : Pos} {args : List Expr} (hl : (ap.endLine == cp.line) = true) (hb : attributeBase o nm env (eval o env) = eval o env) (hf : methodCallForm (args.length + ([] : List Keyword).length) (backTo cp (starEach args env)) (backToKw cp (keywordEach [] env)) = true) :
    eval (.Call (.Attribute o nm ap) args [] cp) env = (do
      let ov ← eval o env
      standAt ap.atName
      let (f, first) ← holding [ov] (getMethod ov nm (do return (← importBound o env).getD true))
      callWith cp f first (backTo cp (starEach args env)) (backToKw cp (keywordEach [] env))) := by
  have hp : methodCallPos true o env ap cp = pure cp := by unfold methodCallPos; simp [hl]
  rw [arm_eval_Call, hb]
  unfold methodCall calleeOf
  rw [hf, hp]
  rfl
theorem pe_binit (hline : (p2.endLine == pos.line) = true) (hg : Gl X "LookError") (hm : X.mg "LookError" = some (.ref B)) (F : BaseF X.K B) (ha : PA X [.Name x p3, .Constant (.str m) j p4] ta) :
    PE X (.Call (.Attribute (.Name "LookError" p1) "__init__" p2) [.Name x p3, .Constant (.str m) j p4] [] pos) (tVeI X.K ta) := by
  refine ⟨fun pins s σ H Q I h => ?_⟩
  refine PySem.W.methodCall_KW (ld_glob I hg hm (PySem.W.method_cls I.kIn F.ga (PySem.W.cls_value I.kIn F.rd F.fc (by decide +kernel) ?_)) (by decide +kernel)) (eval_mc hline rfl rfl)
  show wpAny _ _ (callWith pos (Value.builtin "ValueError.__init__") [] (backTo pos (starEach [.Name x p3, .Constant (.str m) j p4] X.env)) []) _ _ _
  refine PyProof.Rows.callWith_method1 (thn (ha.run pos pins _ σ H _ (I.tok _) h) fun us s1 ⟨vs, H1, I1, r1, a, C, ws, ev, hl, T, ea, q⟩ => ?_) rfl rfl
  subst ev
  match us, r1 with
  | _ :: ur, .cons ra rr =>
    cases ra
    refine oinit_ok T I1 ea (by have := rr.length; rw [sizeLine_eq]; omega) fun s' J => ⟨.non, H1, J, rfl, q⟩
end
def varI (sc : Scope) (x : PySem.Str) : Bool := visB sc x && nmB x
/-- the text of such an __init__ -/
def okIni (ps : List PySem.Str) (fs : List (List Nat)) (sc : Scope) : List Stmt → Bool
  | [.Expr (.Call (.Attribute (.Name l _) i ap) [.Name s _, .Constant (.str _) _ _] [] cp) _] => (ap.endLine == cp.line) && decide (ps = [s]) && decide (fs = []) && decide (l = ("LookError" : PySem.Str)) && decide (i = ("__init__" : PySem.Str)) && glB sc l && varI sc s
  | [.Expr (.Call (.Attribute (.Name l _) i ap) [.Name s _, .Constant (.str _) _ _] [] cp) _, .Assign [.Attribute (.Name s2 _) f _] (.Name g _) _] =>
    (ap.endLine == cp.line) && decide (ps = [s, g]) && decide (fs.map cs = [f]) && decide (l = ("LookError" : PySem.Str)) && decide (i = ("__init__" : PySem.Str)) && glB sc l && varI sc s && decide (s2 = s) && varI sc g
  | _ => false
theorem vis_of {sc : Scope} {x : PySem.Str} (e : visB sc x = true) : Vis sc x := by
  unfold visB at e
  split at e
  · exact .inl (by assumption)
  · exact .inr (.inl (by assumption))
  · exact .inr (.inr (by assumption))
  · cases e
theorem init_ok {P : Program} {w : World} {K : PySem.W.Frag} {mg : PySem.Str → Option Value} {base : Heap} {B : Addr} {fs : List (List Nat)} {ps : List PySem.Str} {qual : PySem.Str} {st : Stmt} {f : Addr} {fd : FuncData} (F : BaseF K B) (hm : mg "LookError" = some (.ref B)) (U : Fun K "__init__" qual st f fd)
    (hs : scB ps ps (defScope st) = true) (hok : okIni ps fs (defScope st) (defBody st) = true) : FnOk P w K mg base (CX P w) 1 f fd ps (spInit K fs) := by
  have S0 := scB_ok hs
  have plen : ps.length = fs.length + 1 := by
    unfold okIni at hok
    split at hok
    · simp only [Bool.and_eq_true, decide_eq_true_eq] at hok
      obtain ⟨⟨⟨⟨⟨⟨_, h1⟩, h2⟩, _⟩, _⟩, _⟩, _⟩ := hok
      rw [h1, h2]; rfl
    · simp only [Bool.and_eq_true, decide_eq_true_eq] at hok
      obtain ⟨⟨⟨⟨⟨⟨⟨⟨_, h1⟩, h2⟩, _⟩, _⟩, _⟩, _⟩, _⟩, _⟩ := hok
      have := congrArg List.length h2
      rw [List.length_map] at this
      rw [h1, this]; rfl
    · cases hok
  refine U.okX S0 (fun vs H Q E ⟨a, C, ys, ev, hl, _⟩ => by rw [ev, plen]; exact congrArg Nat.succ hl) fun cdv A outer s H vs Q E hr ⟨a, C, ys, ev, hl, T, hfl, ha, q⟩ => ?_
  subst ev
  have hm' : (cxOf (CX P w) P w K mg base ps qual (defScope st) f cdv A outer s H E).mg "LookError" = some (.ref B) := hm
  revert hok
  generalize defBody st = bd
  intro hok
  unfold okIni at hok
  split at hok
  · rename_i l lp i ip sn sp m j mp cp ep hb
    simp only [Bool.and_eq_true, decide_eq_true_eq, varI] at hok
    obtain ⟨⟨⟨⟨⟨⟨h0, h1⟩, h2⟩, h3⟩, h4⟩, h5⟩, h6, h7⟩ := hok
    subst h1 h2 h3 h4
    obtain ⟨d1, d2⟩ := nm_of h7
    match ys, hl, q with
    | [], _, q =>
      refine ⟨_, pss_one (ps_expr (pe_binit h0 (gl_of rfl h5) hm' F (pa_cons (pe_var (i := 0) rfl (vis_of h6) d1 d2) (pa_cons pe_str pa_nil)))), ?_⟩
      exact ⟨_, rfl, a, C, _, rfl, Nat.succ_le_succ (Nat.zero_le _), T, ha, q⟩
  · rename_i l lp i ip sn sp m j mp cp ep s2 s2p f2 f2p g gp ap hb
    simp only [Bool.and_eq_true, decide_eq_true_eq, varI] at hok
    obtain ⟨⟨⟨⟨⟨⟨⟨⟨h0, h1⟩, h2⟩, h3⟩, h4⟩, h5⟩, h6, h7⟩, h8⟩, h9, h10⟩ := hok
    subst h1 h3 h4 h8
    obtain ⟨d1, d2⟩ := nm_of h7
    obtain ⟨d3, d4⟩ := nm_of h10
    match fs, ys, hl, h2, q, hfl with
    | [f0], [y], _, h2, q, hfl =>
      simp only [List.map_cons, List.map_nil, List.cons.injEq, and_true] at h2
      subst h2
      refine ⟨_, pss_cons (ps_expr (pe_binit h0 (gl_of rfl h5) hm' F (pa_cons (pe_var (i := 0) rfl (vis_of h6) d1 d2) (pa_cons pe_str pa_nil)))) (pss_one (ps_ost (pe_var (i := 0) rfl (vis_of h6) d1 d2) (pe_var (i := 1) rfl (vis_of h9) d3 d4))), ?_⟩
      refine ⟨_, rfl, a, C, _, rfl, Nat.succ_le_succ (Nat.zero_le _), T, ha, ?_⟩
      exact ⟨_, rfl, _, rfl, a, C, rfl, T, hfl f0 (by simp), .inl ⟨ha, q⟩⟩
  · cases hok
/-! ### the law -/
theorem law_end {l : PySem.W.OpenLaw} {q : Program} {loose : List PySem.Str} {XP : (PySem.Str → Option Value) → Heap → Prop} {YP : World → Heap → Prop} {dr : DefRec} {Kf : Params → PySem.W.Frag} {G : Glo} {i n : Nat} {d : Df} (CA : Params → Nat → Addr)
    (hn : l.most = some 63) (hdf : dr.params.defaults = []) (hr : Room (n + 3) callerA) (hY : ∀ (w : World) (h : Heap), YP w h → (Kf w.params).In h) (hd : G.T[i]? = some d) (hnm : cs d.name = dr.name) (hpn : d.pn = [("script" : PySem.Str)])
    (F : ∀ (w : World) (mg : PySem.Str → Option Value) (h : Heap), (Kf w.params).In h → h.Ns mainGlobals mg → (∃ fa fd st, DefOk G (Kf w.params) mg i d fa fd st ∧ ∀ (s : Shared) (u : Value), BindsTo s fd ⟨[u], []⟩ [(("script" : PySem.Str), u)]) ∧ ∀ base : Heap, (Kf w.params).In base → base.Ns mainGlobals mg → Top l.prog w (Kf w.params) mg base G (CA w.params))
    (law : ∀ ns : List Int, ns.length ≤ 63 → ∃ S, run G.sub G.T n i [.ref 0] [.ro (ns.map .int)] = .ok (.bl true) S) :
    PySem.W.WalkO q loose XP YP l.row.toRowW dr [] (fun f vs => PySem.call f vs) := by
  refine L2.walk_of (n := 63) (k := n + 3) (x := "script") (CX := fun w => CX l.prog w) (sp := fun w => spF (Kf w.params) (CA w.params) (run G.sub G.T n) i) hn (by decide) hdf hr hY (fun w mg fa h KX NX hmg => ?_) (fun w H a ns hl hO hS => ?_) fun w H s e s' z => ?_
  · obtain ⟨⟨fa', fd, st, D, hb⟩, tops⟩ := F w mg h KX NX
    have e : fa' = fa := by
      have h1 := D.mg
      rw [hnm, hmg] at h1
      cases h1; rfl
    subst e
    refine ⟨fd, hb, fun base KB NB => ?_⟩
    rw [← hpn]
    exact fn_level (tops base KB NB) n i d _ fd st hd D
  · obtain ⟨S', law⟩ := law ns hl
    have lst : ∀ ns : List Int, RpL (Kf w.params) [(a, false)] H (ns.map D.int) (ns.map V.int) := fun ns => by
      induction ns with
      | nil => exact .nil
      | cons z zs ih => exact .cons (.int z) ih
    refine ⟨[(a, false)], [.ro (ns.map .int)], [.ref 0], ⟨rfl, fun i j b h => ?_, fun m b k o h1 h2 => ?_⟩, .cons (.ref (m := false) rfl) .nil, ?_⟩
    · match i, h with
      | 0, h => simp at h
      | j + 1, h => simp at h
    · match m, h1, h2 with
      | 0, h1, h2 =>
        cases h1
        cases h2
        refine ⟨rfl, ns.map V.int, ?_, lst ns⟩
        rcases hS with (hS | ⟨o, hS⟩) | hS
        · rcases hO a with h | ⟨o, xs, h⟩
          · rw [h] at hS; cases hS
          · rw [h] at hS; cases hS
        · exact .inl ⟨o, hS⟩
        · exact .inr hS
      | m + 1, h1, h2 => simp at h1
    · rw [law]
      intro α' H' v e s r
      cases r; rfl
  · obtain ⟨_, _, _, _, _, _, _, _, _, _, _, _, z⟩ := z
    exact z
end Eg

namespace Eg
open PySem PySem.Spec PyProof.Rows L2
/-! ### what the top has written, read off its text by computing -/
def adr (K : PySem.W.Frag) (x : PySem.Str) : Addr := match PySem.W.nsIn K mainGlobals x with
  | some (some (.ref a)) => a
  | _ => 0
def adrB (K : PySem.W.Frag) (x : PySem.Str) : Bool := match PySem.W.nsIn K mainGlobals x with
  | some (some (.ref a)) => decide (a ≠ 0)
  | _ => false
theorem adr_ok {K : PySem.W.Frag} {x : PySem.Str} (h : adrB K x = true) : PySem.W.nsIn K mainGlobals x = some (some (.ref (adr K x))) ∧ adr K x ≠ 0 := by
  unfold adrB at h
  unfold adr
  split at h
  · rename_i a e
    rw [e]
    exact ⟨rfl, of_decide_eq_true h⟩
  · cases h
def fdAt (K : PySem.W.Frag) (a : Addr) : FuncData := match K.lookup a with
  | some ⟨_, _, .func fd, _⟩ => fd
  | _ => default
/-- the record of a def as its text wants it -/
def fnShape (x q : PySem.Str) (st : Stmt) : Option Obj → Option Obj
  | some ⟨oc, od, .func fd, osl⟩ => some ⟨oc, od, .func (PySem.W.fnOf x q (defArgs st) (defBody st) (defScope st) .none fd.kwdefaults fd.doc fd.pyModule fd.annotations fd.code fd.closureTuple), osl⟩
  | _ => none
def fnB (K : PySem.W.Frag) (a : Addr) (q : PySem.Str) : Bool := (K.lookup a).isSome && PySem.W.codeIn K (fdAt K a).code q && PySem.W.keepIn K (.ref a)
theorem fn_at {K : PySem.W.Frag} {a : Addr} {x q : PySem.Str} {st : Stmt} (h : fnB K a q = true) (e : K.lookup a = fnShape x q st (K.lookup a)) : ∃ (kV doc pm : Value) (an : Option Addr) (cdv ct : Value), Fun K x q st a (PySem.W.fnOf x q (defArgs st) (defBody st) (defScope st) .none kV doc pm an cdv ct) := by
  simp only [fnB, Bool.and_eq_true] at h
  obtain ⟨⟨h1, h2⟩, h3⟩ := h
  unfold fdAt at h2
  obtain ⟨o, ho⟩ := Option.isSome_iff_exists.mp h1
  rw [ho] at e h2
  obtain ⟨oc, od, dt, osl⟩ := o
  cases dt <;> first
    | (rename_i fd
       simp only [fnShape, Option.some.injEq] at e
       rw [e] at ho
       exact ⟨_, _, _, _, _, _, fun_mk ho h2 h3⟩)
    | (simp [fnShape] at e)
def defB (K : PySem.W.Frag) (d : Df) : Bool := adrB K (cs d.name) && fnB K (adr K (cs d.name)) (cs d.name)
inductive Defs (G : Glo) (K : PySem.W.Frag) (mg : PySem.Str → Option Value) : Nat → List Df → Prop
  | nil {i : Nat} : Defs G K mg i []
  | cons {i : Nat} {d : Df} {l : List Df} (h : ∃ fa fd st, DefOk G K mg i d fa fd st) (t : Defs G K mg (i + 1) l) : Defs G K mg i (d :: l)
theorem Defs.get {G : Glo} {K : PySem.W.Frag} {mg : PySem.Str → Option Value} : ∀ {i : Nat} {l : List Df}, Defs G K mg i l → ∀ j d, l[j]? = some d → ∃ fa fd st, DefOk G K mg (i + j) d fa fd st
  | _, _, .nil, _, _, h => by simp at h
  | _, _, .cons h _, 0, d, e => by
    simp only [List.getElem?_cons_zero, Option.some.injEq] at e
    subst e
    exact h
  | i, _, .cons _ t, j + 1, d, e => by
    have := t.get j d (by simpa using e)
    rwa [show i + 1 + j = i + (j + 1) from by omega] at this
def BindOk (d : Df) (st : Stmt) : Prop := ∀ (kV doc pm : Value) (an : Option Addr) (cdv ct : Value) (us : List Value), us.length = d.pn.length → bindArgs (PySem.W.fnOf (cs d.name) (cs d.name) (defArgs st) (defBody st) (defScope st) .none kV doc pm an cdv ct) ⟨us, []⟩ = pure (d.pn.zip us)
def KwsOk (G : Glo) (i : Nat) (d : Df) (st : Stmt) : Prop := ∀ q ∈ G.kws, q.1 = i → (∀ j ∈ q.2.1, j < q.2.2.length) ∧ ∀ (kV doc pm : Value) (an : Option Addr) (cdv ct : Value) (ws : List Value), ws.length = q.2.2.length →
  bindArgs (PySem.W.fnOf (cs d.name) (cs d.name) (defArgs st) (defBody st) (defScope st) .none kV doc pm an cdv ct) ⟨[], (q.2.2.map cs).zip ws⟩ = pure (d.pn.zip (q.2.1.filterMap fun i => ws[i]?))
theorem def_of {G : Glo} {K : PySem.W.Frag} {mg : PySem.Str → Option Value} {h : Heap} {i : Nat} {d : Df} {st : Stmt} (KX : K.In h) (NX : h.Ns mainGlobals mg) (hok : okDf G d st = true) (hb : BindOk d st) (hk : KwsOk G i d st) (hB : defB K d = true) (hL : K.lookup (adr K (cs d.name)) = fnShape (cs d.name) (cs d.name) st (K.lookup (adr K (cs d.name)))) :
    ∃ fa fd st, DefOk G K mg i d fa fd st := by
  simp only [defB, Bool.and_eq_true] at hB
  obtain ⟨a1, a2⟩ := adr_ok hB.1
  obtain ⟨kV, doc, pm, an, cdv, ct, F⟩ := fn_at hB.2 hL
  refine ⟨_, _, st, F, PySem.W.mg_of KX NX a1, hok, F.binds hb, fun s us hl => .of_eq (hb kV doc pm an cdv ct us hl), fun perm ks hm => ?_⟩
  obtain ⟨k1, k2⟩ := hk (i, perm, ks) hm rfl
  exact ⟨fun s ws hl => .of_eq (k2 kV doc pm an cdv ct ws hl), k1⟩
/-! constants -/
mutual
def conV (K : PySem.W.Frag) : D → Value → Bool
  | .non, .none => true
  | .bl b, .bool c => b == c
  | .int i, .int j _ => decide (i = j)
  | .str s, .str x _ => decide (x = cs s)
  | .tup l, .ref a => match K.lookup a with
    | some ⟨.type "tuple", _, .seq its _, _⟩ => decide (its.size ≤ 1000) && conL K l its.toList
    | _ => false
  | _, _ => false
def conL (K : PySem.W.Frag) : List D → List Value → Bool
  | [], [] => true
  | d :: l, v :: r => conV K d v && conL K l r
  | _, _ => false
end
mutual
theorem conV_ok {K : PySem.W.Frag} : ∀ {d : D} {u : Value}, conV K d u = true → ∃ v, RelV v u ∧ ∀ α H, Rp K α H d v
  | .non, u, h => by
    cases u <;> simp [conV] at h
    exact ⟨.non, rfl, fun _ _ => .non⟩
  | .bl b, u, h => by
    cases u <;> simp [conV] at h
    subst h
    exact ⟨.bl b, rfl, fun _ _ => .bl b⟩
  | .int i, u, h => by
    cases u <;> simp [conV] at h
    subst h
    exact ⟨.int i, ⟨_, rfl⟩, fun _ _ => .int i⟩
  | .str s, u, h => by
    cases u <;> simp [conV] at h
    subst h
    exact ⟨.str (cs s), ⟨_, rfl⟩, fun _ _ => .str s⟩
  | .tup l, u, h => by
    cases u with
    | ref a =>
      simp only [conV] at h
      split at h
      · rename_i od its n sl e
        simp only [Bool.and_eq_true, decide_eq_true_eq] at h
        obtain ⟨vs, h1, h2⟩ := conL_ok h.2
        exact ⟨.ref a, rfl, fun α H => .tup (.inr ⟨_, its, n, e, rfl, rfl, by rw [sizeLine_eq]; omega, h1⟩) (h2 α H)⟩
      · cases h
    | _ => simp [conV] at h
  | .ref n, u, h => by cases u <;> simp [conV] at h
theorem conL_ok {K : PySem.W.Frag} : ∀ {l : List D} {us : List Value}, conL K l us = true → ∃ vs, Vals vs us ∧ ∀ α H, RpL K α H l vs
  | [], [], _ => ⟨[], .nil, fun _ _ => .nil⟩
  | [], _ :: _, h => by simp [conL] at h
  | _ :: _, [], h => by simp [conL] at h
  | d :: l, u :: us, h => by
    simp only [conL, Bool.and_eq_true] at h
    obtain ⟨v, h1, h2⟩ := conV_ok h.1
    obtain ⟨vs, h3, h4⟩ := conL_ok h.2
    exact ⟨v :: vs, .cons h1 h3, fun α H => .cons (h2 α H) (h4 α H)⟩
end
def conB (K : PySem.W.Frag) (p : List Nat × D) : Bool := match PySem.W.nsIn K mainGlobals (cs p.1) with
  | some (some u) => conV K p.2 u
  | _ => false
def bltB (K : PySem.W.Frag) (x : PySem.Str) : Bool := match PySem.W.nsIn K mainGlobals x with
  | some none => true
  | _ => false
/-! classes -/
def exShape (C : Addr) : Option Obj → Option Obj
  | some ⟨_, dd, .cls cd, sl⟩ => some (excClassObj cd.name cd.qualname C cd.ns cd.bases (cd.mro.drop 1) true cd.slotNames cd.subclasses cd.abstract cd.collection dd (sl.getD 0 none) (sl.getD 1 none) (sl.getD 2 none) (sl.getD 3 none) (sl.getD 5 none) "ValueError.__new__")
  | _ => none
def mroAt (K : PySem.W.Frag) (C : Addr) : List Value := match K.lookup C with
  | some ⟨_, _, .cls cd, _⟩ => cd.mro.drop 1
  | _ => []
def isV (x : Option (Option Value)) (v : Value) : Bool := decide (x = some (some v))
/-- class C, its fields to read -/
def clsFB (K : PySem.W.Frag) (C : Addr) (flds : List (List Nat)) : Bool :=
  isV (PySem.W.findIn K (.ref C) "__getattribute__") (.builtin "BaseException.__getattribute__") && decide (PySem.W.findIn K (.ref C) "__getattr__" = some none) && decide (PySem.W.subIn K (.ref C) (.type "BaseException") = some true) && PySem.W.hasDictIn K C &&
    isV (PySem.W.findIn K (.ref C) "__class__") (.builtin "object.__class__") && decide (PySem.W.mroIn K C (.type "object") = some true) && decide (PySem.W.typeIn K (.ref C) = some (.type "type")) &&
    flds.all fun f => decide (PySem.W.findIn K (.ref C) (cs f) = some none)
def clsGB (K : PySem.W.Frag) : Bool := isV (PySem.W.specialIn K (.builtin "object.__class__") "__get__") (.builtin "getset_descriptor.__get__") && decide (PySem.W.takesIn K (.builtin "object.__class__") = some true)
def subB (K : PySem.W.Frag) (sub : Nat → Nat → Bool) (l : List Addr) : Bool := (List.range l.length).all fun i => (List.range l.length).all fun j => decide (PySem.W.subIn K (.ref (l.getD i 0)) (.ref (l.getD j 0)) = some (sub i j)) && (!decide (l.getD i 0 = l.getD j 0) || sub i j)
theorem clsF_of {K : PySem.W.Frag} {sub : Nat → Nat → Bool} {flds : List (List Nat)} {l : List Addr} (h1 : (l.all fun C => clsFB K C flds) = true) (h2 : clsGB K = true) (h3 : subB K sub l = true) : ClsF K (fun i => l.getD i 0) sub flds := by
  have known : ∀ i, l.getD i 0 ≠ 0 → i < l.length ∧ l.getD i 0 ∈ l := fun i h => by
    by_cases c : i < l.length
    · refine ⟨c, ?_⟩
      rw [List.getD_eq_getElem?_getD, List.getElem?_eq_getElem c]
      exact List.getElem_mem c
    · rw [List.getD_eq_getElem?_getD, List.getElem?_eq_none (by omega)] at h
      exact absurd rfl h
  have one : ∀ C ∈ l, clsFB K C flds = true := List.all_eq_true.mp h1
  have two : ∀ i j, l.getD i 0 ≠ 0 → l.getD j 0 ≠ 0 → PySem.W.subIn K (.ref (l.getD i 0)) (.ref (l.getD j 0)) = some (sub i j) ∧ (l.getD i 0 = l.getD j 0 → sub i j = true) := fun i j hi hj => by
    have a := List.all_eq_true.mp (List.all_eq_true.mp h3 i (List.mem_range.mpr (known i hi).1)) j (List.mem_range.mpr (known j hj).1)
    simp only [Bool.and_eq_true, decide_eq_true_eq, Bool.or_eq_true, Bool.not_eq_true', decide_eq_false_iff_not] at a
    exact ⟨a.1, fun e => a.2.resolve_left fun z => z e⟩
  simp only [clsFB, isV, Bool.and_eq_true, decide_eq_true_eq, List.all_eq_true] at one
  simp only [clsGB, isV, Bool.and_eq_true, decide_eq_true_eq] at h2
  have cls1 : ∀ i, l.getD i 0 ≠ 0 → (PySem.W.clsIn K (l.getD i 0)).isSome = true := fun i hi => by
    obtain ⟨⟨⟨⟨⟨⟨⟨_, _⟩, _⟩, b4⟩, _⟩, _⟩, _⟩, _⟩ := one _ (known i hi).2
    obtain ⟨cd, hcd, _⟩ := PySem.W.any_some b4
    rw [hcd]; rfl
  refine ⟨fun i j hi hj => ?_, fun i j hi hj => ?_, fun i hi => ?_, fun i hi => ?_, fun i f hi hf => ?_⟩
  · obtain ⟨⟨⟨⟨⟨⟨⟨b1, b2⟩, b3⟩, b4⟩, b5⟩, b6⟩, b7⟩, b8⟩ := one _ (known j hj).2
    exact PySem.W.exm_ref b3 b4 b7 (two i j hi hj).1
  · obtain ⟨⟨⟨⟨⟨⟨⟨b1, b2⟩, b3⟩, b4⟩, b5⟩, b6⟩, b7⟩, b8⟩ := one _ (known j hj).2
    unfold PySem.W.kitOne
    split
    · rename_i e
      rw [(two i j hi hj).2 (Value.ref.inj (beq_iff_eq.mp e))]
    · unfold PySem.W.kitCls
      dsimp only
      rw [if_pos (by rw [cls1 j hj, b7]; rfl)]
      exact (two i j hi hj).1
  · obtain ⟨⟨⟨⟨⟨⟨⟨b1, b2⟩, b3⟩, b4⟩, b5⟩, b6⟩, b7⟩, b8⟩ := one _ (known i hi).2
    exact ⟨b1, b2, b3, b4⟩
  · obtain ⟨⟨⟨⟨⟨⟨⟨b1, b2⟩, b3⟩, b4⟩, b5⟩, b6⟩, b7⟩, b8⟩ := one _ (known i hi).2
    exact ⟨b1, b2, b3, b4, b5, h2.1, h2.2, b6⟩
  · obtain ⟨⟨⟨⟨⟨⟨⟨b1, b2⟩, b3⟩, b4⟩, b5⟩, b6⟩, b7⟩, b8⟩ := one _ (known i hi).2
    exact b8 f hf
def iniAt (K : PySem.W.Frag) (C : Addr) : Addr := match PySem.W.findIn K (.ref C) "__init__" with
  | some (some (.ref a)) => a
  | _ => 0
/-- a class that is raised: its fields fs, the whole name of its __init__ -/
def exB (K : PySem.W.Frag) (C : Addr) (fs : List (List Nat)) (q : PySem.Str) : Bool :=
  (K.lookup C).isSome && PySem.HandSPX.refsVE (mroAt K C) && isV (PySem.W.findIn K (.ref C) "__setattr__") (.builtin "object.__setattr__") && decide (PySem.W.subIn K (.ref C) (.type "BaseException") = some true) && decide (PySem.W.typeIn K (.ref C) = some (.type "type")) && PySem.W.keepIn K (.ref C) &&
    isV (PySem.W.findIn K (.ref C) "__init__") (.ref (iniAt K C)) && decide (PySem.W.typeIn K (.ref (iniAt K C)) = some (.type "function")) && fnB K (iniAt K C) q && decide (fs.length ≤ 1) && fs.all fun f => decide (PySem.W.findIn K (.ref C) (cs f) = some none)
def baseB (K : PySem.W.Frag) (B : Addr) : Bool := PySem.W.readsIn K B (.type "type") && isV (PySem.W.specialIn K (.ref B) "__getattribute__") (.builtin "type.__getattribute__") && (match PySem.W.findCls K (.ref B) (.type "type") "__init__" with
  | some (.val v) => decide (v = .builtin "ValueError.__init__")
  | _ => false)
theorem baseF_of {K : PySem.W.Frag} {B : Addr} (h : baseB K B = true) : BaseF K B := by
  simp only [baseB, isV, Bool.and_eq_true, decide_eq_true_eq] at h
  obtain ⟨⟨h1, h2⟩, h3⟩ := h
  refine ⟨h1, h2, ?_⟩
  split at h3
  · rename_i v e
    rw [e, of_decide_eq_true h3]
  · cases h3
theorem exK_of {P : Program} {w : World} {K : PySem.W.Frag} {mg : PySem.Str → Option Value} {base : Heap} {B C : Addr} {fs : List (List Nat)} {q : PySem.Str} {ps : List PySem.Str} {st : Stmt} (F : BaseF K B) (hm : mg "LookError" = some (.ref B)) (hB : exB K C fs q = true) (hC : K.lookup C = exShape C (K.lookup C))
    (hI : K.lookup (iniAt K C) = fnShape "__init__" q st (K.lookup (iniAt K C))) (hs : scB ps ps (defScope st) = true) (hok : okIni ps fs (defScope st) (defBody st) = true)
    (hb : ∀ (kV doc pm : Value) (an : Option Addr) (cdv ct : Value) (us : List Value), us.length = ps.length → bindArgs (PySem.W.fnOf "__init__" q (defArgs st) (defBody st) (defScope st) .none kV doc pm an cdv ct) ⟨us, []⟩ = pure (ps.zip us)) : ExK P w K mg base C fs := by
  simp only [exB, isV, Bool.and_eq_true, decide_eq_true_eq, List.all_eq_true] at hB
  obtain ⟨⟨⟨⟨⟨⟨⟨⟨⟨⟨b1, b2⟩, b3⟩, b4⟩, b5⟩, b6⟩, b7⟩, b8⟩, b9⟩, b10⟩, b11⟩ := hB
  obtain ⟨kV, doc, pm, an, cdv, ct, U⟩ := fn_at b9 hI
  refine ⟨⟨?_, b3, b4, b5, b6⟩, b10, b11, _, _, ps, b7, b8, init_ok F hm U hs hok, U.binds hb⟩
  obtain ⟨o, ho⟩ := Option.isSome_iff_exists.mp b1
  unfold mroAt at b2
  rw [ho] at hC b2
  obtain ⟨oc, od, dt, osl⟩ := o
  cases dt <;> first
    | exact ⟨_, _, _, _, _, _, _, _, _, _, _, _, _, _, _, ho.trans hC, b2⟩
    | (simp [exShape] at hC)
/-! ### all of it -/
structure Read (G : Glo) (K : PySem.W.Frag) (l : List Addr) : Prop where
  blt : (bltAll.all fun x => bltB K x) = true
  con : (G.cons.all fun p => conB K p) = true
  cl0 : l = G.cls.map fun c => adr K (cs c)
  cl1 : (G.cls.all fun c => adrB K (cs c)) = true
  cl2 : (l.all fun C => clsFB K C G.flds) = true
  cl3 : clsGB K = true
  cl4 : subB K G.sub l = true
theorem bltB_ok {K : PySem.W.Frag} {mg : PySem.Str → Option Value} {h : Heap} {x : PySem.Str} (KX : K.In h) (NX : h.Ns mainGlobals mg) (e : bltB K x = true) : mg x = none := by
  unfold bltB at e
  split at e
  · rename_i q
    exact PySem.W.mg_none_of KX NX q
  · cases e
theorem top_of {P : Program} {w : World} {K : PySem.W.Frag} {mg : PySem.Str → Option Value} {base h : Heap} {G : Glo} {l : List Addr} (KX : K.In h) (NX : h.Ns mainGlobals mg) (R : Read G K l) (D : Defs G K mg 0 G.T) (E : ∀ i fs, (i, fs) ∈ G.exs → ExK P w K mg base (l.getD i 0) fs) : Top P w K mg base G (fun i => l.getD i 0) := by
  refine ⟨fun i d hd => ?_, fun x hx => bltB_ok KX NX (List.all_eq_true.mp R.blt x hx), fun p hp => ?_, fun i nm hn => ?_, clsF_of R.cl2 R.cl3 R.cl4, E⟩
  · have := D.get i d hd
    rwa [Nat.zero_add] at this
  · have e := List.all_eq_true.mp R.con p hp
    unfold conB at e
    split at e
    · rename_i u hu
      obtain ⟨v, h1, h2⟩ := conV_ok e
      exact ⟨u, v, PySem.W.mg_of KX NX hu, h1, h2⟩
    · cases e
  · have e : l.getD i 0 = adr K (cs nm) := by
      rw [R.cl0, List.getD_eq_getElem?_getD, List.getElem?_map, hn]; rfl
    have a := adr_ok (List.all_eq_true.mp R.cl1 nm (List.mem_of_getElem? hn))
    show mg (cs nm) = some (.ref (l.getD i 0)) ∧ l.getD i 0 ≠ 0
    rw [e]
    exact ⟨PySem.W.mg_of KX NX a.1, a.2⟩
def spLaw (K : PySem.W.Frag) : Sp := fun vs H Q _ => ∃ (a : Addr) (ns : List Int), vs = [.ref a] ∧ ns.length ≤ 63 ∧ Only H ∧ SqL K H a (ns.map V.int) ∧ ∀ H', Q (.bl true) H'
theorem law_ok {P : Program} {w : World} {K : PySem.W.Frag} {mg : PySem.Str → Option Value} {fa : Addr} {h : Heap} {G : Glo} {l : List Addr} {i n : Nat} {d : Df} (KX : K.In h) (NX : h.Ns mainGlobals mg) (hmg : mg "law" = some (.ref fa)) (R : Read G K l) (Ds : Defs G K mg 0 G.T)
    (E : ∀ base : Heap, ∀ p ∈ G.exs, ExK P w K mg base (l.getD p.1 0) p.2) (hd : G.T[i]? = some d) (hnm : cs d.name = ("law" : PySem.Str)) (hpn : d.pn = [("script" : PySem.Str)]) (law : ∀ ns : List Int, ns.length ≤ 63 → ∃ S, run G.sub G.T n i [.ref 0] [.ro (ns.map .int)] = .ok (.bl true) S) :
    ∃ fd : FuncData, (∀ (s : Shared) (u : Value), BindsTo s fd ⟨[u], []⟩ [(("script" : PySem.Str), u)]) ∧ ∀ base : Heap, K.In base → base.Ns mainGlobals mg → FnOk P w K mg base (CX P w) (n + 3) fa fd [("script" : PySem.Str)] (spLaw K) := by
  obtain ⟨fa', fd, st, O⟩ := Ds.get i d hd
  rw [Nat.zero_add] at O
  have e : fa' = fa := by
    have h1 := O.mg
    rw [hnm, hmg] at h1
    cases h1; rfl
  subst e
  refine ⟨fd, fun s u => ?_, fun base KB NB => ?_⟩
  · have := O.b0 s [u] (by rw [hpn]; rfl)
    rw [hpn] at this
    exact this
  · have F := fn_level (top_of (P := P) (w := w) (base := base) KX NX R Ds fun i fs hm => E base (i, fs) hm) n i d _ fd st hd O
    rw [hpn] at F
    refine F.imp fun vs H Q E2 ⟨a, ns, ev, hl, hO, hS, q⟩ => ?_
    subst ev
    obtain ⟨S', law⟩ := law ns hl
    have lst : ∀ ns : List Int, RpL K [(a, false)] H (ns.map D.int) (ns.map V.int) := fun ns => by
      induction ns with
      | nil => exact .nil
      | cons z zs ih => exact .cons (.int z) ih
    refine ⟨[(a, false)], [.ro (ns.map .int)], [.ref 0], ⟨rfl, fun i j b h => ?_, fun m b k o h1 h2 => ?_⟩, .cons (.ref (m := false) rfl) .nil, ?_⟩
    · match i, h with
      | 0, h => simp at h
      | j + 1, h => simp at h
    · match m, h1, h2 with
      | 0, h1, h2 =>
        cases h1
        cases h2
        refine ⟨rfl, ns.map V.int, ?_, lst ns⟩
        rcases hS with (hS | ⟨o, hS⟩) | hS
        · rcases hO a with h | ⟨o, xs, h⟩
          · rw [h] at hS; cases hS
          · rw [h] at hS; cases hS
        · exact .inl ⟨o, hS⟩
        · exact .inr hS
      | m + 1, h1, h2 => simp at h1
    · rw [law]
      intro α' H' v e s r
      cases r; exact q H'
theorem law_walk {l : PySem.W.OpenLaw} {n : Nat} {q : Program} {loose : List PySem.Str} {XP : (PySem.Str → Option Value) → Heap → Prop} {YP : World → Heap → Prop} {dr : DefRec} {Kf : Params → PySem.W.Frag} (hn : l.most = some 63) (hdf : dr.params.defaults = []) (hr : Room (n + 3) callerA)
    (hY : ∀ (w : World) (h : Heap), YP w h → (Kf w.params).In h)
    (F : ∀ (w : World) (mg : PySem.Str → Option Value) (fa : Addr) (h : Heap), (Kf w.params).In h → h.Ns mainGlobals mg → mg dr.name = some (.ref fa) → ∃ fd : FuncData, (∀ (s : Shared) (u : Value), BindsTo s fd ⟨[u], []⟩ [(("script" : PySem.Str), u)]) ∧
      ∀ base : Heap, (Kf w.params).In base → base.Ns mainGlobals mg → FnOk l.prog w (Kf w.params) mg base (CX l.prog w) (n + 3) fa fd [("script" : PySem.Str)] (spLaw (Kf w.params))) : PySem.W.WalkO q loose XP YP l.row.toRowW dr [] (fun f vs => PySem.call f vs) :=
  L2.walk_of (n := 63) (k := n + 3) (x := "script") (CX := fun w => CX l.prog w) (sp := fun w => spLaw (Kf w.params)) hn (by decide) hdf hr hY F (fun w H a ns hl hO hS => ⟨a, ns, rfl, hl, hO, hS, fun _ => rfl⟩) fun w H s e s' z => by
    obtain ⟨_, _, _, _, _, _, _, _, _, _, _, _, z⟩ := z
    exact z
end Eg

namespace Eg
/-! ### plain rules for the evaluator -/
theorem wfuel_big {m : Nat} (h : m ≤ 1000000000) : m < wfuel := by unfold wfuel; omega
theorem while_run {t : Env → Sto → R Bool} {body : Env → Sto → RS} (Inv : Nat → Env → Sto → Prop) (Post : Env → Sto → Prop)
    (step : ∀ m ρ S, Inv m ρ S → (∃ S1, t ρ S = .ok false S1 ∧ Post ρ S1) ∨ (∃ S1 ρ2 S2 m', t ρ S = .ok true S1 ∧ body ρ S1 = .nx ρ2 S2 ∧ m' < m ∧ Inv m' ρ2 S2)) :
    ∀ (w m : Nat) (ρ : Env) (S : Sto), m < w → Inv m ρ S → ∃ ρ' S', whileN t body w ρ S = .nx ρ' S' ∧ Post ρ' S'
  | 0, m, ρ, S, h, _ => absurd h (Nat.not_lt_zero _)
  | w + 1, m, ρ, S, h, i => by
    rcases step m ρ S i with ⟨S1, e, p⟩ | ⟨S1, ρ2, S2, m', e1, e2, hm, i2⟩
    · exact ⟨ρ, S1, by simp [whileN, e, R.st], p⟩
    · obtain ⟨ρ', S', e3, p⟩ := while_run Inv Post step w m' ρ2 S2 (by omega) i2
      exact ⟨ρ', S', by simp [whileN, e1, e2, R.st, e3], p⟩
/-- turns of Euclid's loop -/
def eucM (a b : Nat) : Nat := if b = 0 then 0 else if b ≤ a then Nat.log2 (a * b) + 1 else Nat.log2 (a * b) + 2
theorem log2_le_of_le {x y : Nat} (h : x ≤ y) : Nat.log2 x ≤ Nat.log2 y := by
  by_cases hx : x = 0
  · subst hx; simp
  · have hy : y ≠ 0 := by omega
    exact (Nat.le_log2 hy).mpr (Nat.le_trans (Nat.log2_self_le hx) h)
theorem eucM_step {a b : Nat} (hb : b ≠ 0) : eucM b (a % b) < eucM a b := by
  have hr : a % b < b := Nat.mod_lt _ (by omega)
  by_cases h0 : a % b = 0
  · unfold eucM
    rw [if_pos h0, if_neg hb]
    split <;> omega
  · have e1 : eucM b (a % b) = Nat.log2 (b * (a % b)) + 1 := by unfold eucM; rw [if_neg h0, if_pos (by omega)]
    rw [e1]
    by_cases c : b ≤ a
    · have e2 : eucM a b = Nat.log2 (a * b) + 1 := by unfold eucM; rw [if_neg hb, if_pos c]
      rw [e2]
      have h1 : a % b + b ≤ a := by
        have := Nat.div_add_mod a b
        have h2 : 1 ≤ a / b := (Nat.one_le_div_iff (by omega)).mpr c
        have h3 : b * 1 ≤ b * (a / b) := Nat.mul_le_mul_left b h2
        omega
      have h2 : 2 * (b * (a % b)) ≤ a * b := by
        have : 2 * (a % b) ≤ a := by omega
        calc 2 * (b * (a % b)) = (2 * (a % b)) * b := by rw [Nat.mul_comm b, ← Nat.mul_assoc]
          _ ≤ a * b := Nat.mul_le_mul_right b this
      have h3 : b * (a % b) ≠ 0 := Nat.mul_ne_zero hb h0
      have h4 : Nat.log2 (2 * (b * (a % b))) = Nat.log2 (b * (a % b)) + 1 := by
        exact Nat.log2_two_mul h3
      have := log2_le_of_le h2
      omega
    · have e2 : eucM a b = Nat.log2 (a * b) + 2 := by unfold eucM; rw [if_neg hb, if_neg c]
      rw [e2, Nat.mod_eq_of_lt (by omega), Nat.mul_comm b a]
      omega
theorem eucM_le {a b : Nat} : eucM a b ≤ Nat.log2 (a * b) + 2 := by
  unfold eucM
  split
  · omega
  · split <;> omega
theorem log2_lt_of {x k : Nat} (h : x < 2 ^ k) (hk : 0 < k) : Nat.log2 x < k := by
  by_cases hx : x = 0
  · subst hx; simpa using hk
  · exact (Nat.log2_lt hx).mpr h
theorem fmod_nat (a b : Nat) : (a : Int).fmod (b : Int) = ((a % b : Nat) : Int) := by
  rw [Int.fmod_eq_emod_of_nonneg _ (Int.natCast_nonneg b)]; norm_cast
theorem gcd_step (a b : Nat) : Nat.gcd b (a % b) = Nat.gcd a b := by
  rw [Nat.gcd_comm a b, Nat.gcd_comm b (a % b), ← Nat.gcd_rec]
section
variable {sub : Nat → Nat → Bool} {c : Cl} {ρ : Env} {S : Sto}
@[simp] theorem tru_ok (d : D) : tru (.ok d S) = .of S (truD S d) := id rfl
@[simp] theorem tru_ex (x : Ex) : tru (.ex x S) = .ex x S := id rfl
@[simp] theorem evE_lit (d : D) : evE sub c (.lit d) ρ S = .ok d S := id rfl
@[simp] theorem evE_con (x : List Nat) (d : D) : evE sub c (.con x d) ρ S = .ok d S := id rfl
@[simp] theorem evE_var (i : Nat) : evE sub c (.var i) ρ S = match ρ[i]? with
    | some (some d) => .ok d S
    | _ => .no := id rfl
@[simp] theorem evE_bin (o : BOp) (a b : E) : evE sub c (.bin o a b) ρ S = (evE sub c a ρ S).bind fun x S1 => (evE sub c b ρ S1).bind fun y S2 => binD o x y S2 := id rfl
@[simp] theorem evE_neg (a : E) : evE sub c (.neg a) ρ S = (evE sub c a ρ S).bind fun x S1 => match x with
    | .int i => .ok (.int (-i)) S1
    | _ => .no := id rfl
@[simp] theorem evE_cmp (o : COp) (a b : E) : evE sub c (.cmp o a b) ρ S = (evE sub c a ρ S).bind fun x S1 => (evE sub c b ρ S1).bind fun y S2 => ofB S2 (cmpO o x y S2) := id rfl
@[simp] theorem evE_cmp2 (o p : COp) (a b d : E) : evE sub c (.cmp2 o p a b d) ρ S = (evE sub c a ρ S).bind fun x S1 => (evE sub c b ρ S1).bind fun y S2 => match cmpO o x y S2 with
    | some true => (evE sub c d ρ S2).bind fun z S3 => ofB S3 (cmpO p y z S3)
    | some false => .ok (.bl false) S2
    | none => .no := id rfl
@[simp] theorem evE_and (a b : E) : evE sub c (.and a b) ρ S = (evE sub c a ρ S).bind fun x S1 => match truD S1 x with
    | some true => evE sub c b ρ S1
    | some false => .ok x S1
    | none => .no := id rfl
@[simp] theorem evE_or (a b : E) : evE sub c (.or a b) ρ S = (evE sub c a ρ S).bind fun x S1 => match truD S1 x with
    | some true => .ok x S1
    | some false => evE sub c b ρ S1
    | none => .no := id rfl
@[simp] theorem evE_not (a : E) : evE sub c (.not a) ρ S = (evE sub c a ρ S).bind fun x S1 => ofB S1 (notB (truD S1 x)) := id rfl
@[simp] theorem evE_ite (t a b : E) : evE sub c (.ite t a b) ρ S = (evE sub c t ρ S).bind fun x S1 => match truD S1 x with
    | some true => evE sub c a ρ S1
    | some false => evE sub c b ρ S1
    | none => .no := id rfl
@[simp] theorem evE_tup (es : Es) : evE sub c (.tup es) ρ S = (evEs sub c es ρ S).bind fun l S1 => if l.length ≤ line then .ok (.tup l) S1 else .no := id rfl
@[simp] theorem evE_lst (es : Es) : evE sub c (.lst es) ρ S = (evEs sub c es ρ S).bind fun l S1 => if l.length ≤ line then .ok (.ref S1.length) (S1 ++ [.lst l]) else .no := id rfl
@[simp] theorem evE_dct0 : evE sub c .dct0 ρ S = .ok (.ref S.length) (S ++ [.dct []]) := id rfl
@[simp] theorem evE_idx (a i : E) : evE sub c (.idx a i) ρ S = (evE sub c a ρ S).bind fun x S1 => (evE sub c i ρ S1).bind fun y S2 => idxD x y S2 := id rfl
@[simp] theorem evE_idxl (es : Es) (i : E) : evE sub c (.idxl es i) ρ S = (evEs sub c es ρ S).bind fun l S1 => if l.length ≤ line then (evE sub c i ρ S1).bind fun y S2 => idxL l y S2 else .no := id rfl
@[simp] theorem evE_slc (a : E) (lo hi : Option E) : evE sub c (.slc a lo hi) ρ S = (evE sub c a ρ S).bind fun x S1 => (evO sub c lo ρ S1).bind fun l S2 => (evO sub c hi ρ S2).bind fun h S3 => slcD x l h S3 := id rfl
@[simp] theorem evE_call (f : Nat) (es : Es) : evE sub c (.call f es) ρ S = (evEs sub c es ρ S).bind fun l S1 => c f l S1 := id rfl
@[simp] theorem evE_callk (f : Nat) (perm : List Nat) (ks : List (List Nat)) (es : Es) : evE sub c (.callk f perm ks es) ρ S = (evEs sub c es ρ S).bind fun l S1 => c f (perm.filterMap fun i => l[i]?) S1 := id rfl
@[simp] theorem evE_bi (b : Bi) (es : Es) : evE sub c (.bi b es) ρ S = (evEs sub c es ρ S).bind fun l S1 => biD b l S1 := id rfl
@[simp] theorem evE_isi (a : E) (ts : List Ty) : evE sub c (.isi a ts) ρ S = (evE sub c a ρ S).bind fun x S1 => match kind S1 x with
    | some k => .ok (.bl (ts.any (isK sub k))) S1
    | none => .no := id rfl
theorem evE_comp (q : C) : evE sub c (.comp q) ρ S = (evC sub c q ρ S).bind fun l S1 => .ok (.ref S1.length) (S1 ++ [.lst l]) := rfl
theorem evE_bic (b : Bi) (q : C) : evE sub c (.bic b q) ρ S = (evC sub c q ρ S).bind fun l S1 => bil b l S1 := rfl
theorem evE_nilc (neg : Bool) (q : C) : evE sub c (.nilc neg q) ρ S = (evC sub c q ρ S).bind fun l S1 => if l.all (plain 40 S1) then .ok (.bl (if neg then !l.isEmpty else l.isEmpty)) S1 else .no := rfl
@[simp] theorem evE_inl (neg : Bool) (a : E) (es : Es) : evE sub c (.inl neg a es) ρ S = (evE sub c a ρ S).bind fun x S1 => (evEs sub c es ρ S1).bind fun l S2 => if l.length ≤ line then ofB S2 (if neg then notB (inD S2 x l) else inD S2 x l) else .no := id rfl
@[simp] theorem evE_app (a b : E) : evE sub c (.app a b) ρ S = (evE sub c a ρ S).bind fun x S1 => match x with
    | .ref n => match lstOf S1 n with
      | some _ => (evE sub c b ρ S1).bind fun v S2 => meD .append (.ref n) [v] S2
      | none => .no
    | _ => .no := id rfl
@[simp] theorem evO_none : evO sub c none ρ S = .ok none S := id rfl
@[simp] theorem evO_some (e : E) : evO sub c (some e) ρ S = (evE sub c e ρ S).bind fun x S1 => match x with
    | .int i => .ok (some i) S1
    | _ => .no := id rfl
@[simp] theorem evEs_nil : evEs sub c .nil ρ S = .ok [] S := id rfl
@[simp] theorem evEs_cons (e : E) (es : Es) : evEs sub c (.cons e es) ρ S = (evE sub c e ρ S).bind fun x S1 => (evEs sub c es ρ S1).bind fun l S2 => .ok (x :: l) S2 := id rfl
@[simp] theorem evEs_star (e : E) (es : Es) : evEs sub c (.star e es) ρ S = (evE sub c e ρ S).bind fun x S1 => match starL S1 x with
    | some k => (evEs sub c es ρ S1).bind fun l S2 => .ok (k ++ l) S2
    | none => .no := id rfl
@[simp] theorem evT_none : evT sub c none ρ S = .ok true S := id rfl
@[simp] theorem evT_some (e : E) : evT sub c (some e) ρ S = tru (evE sub c e ρ S) := id rfl
@[simp] theorem evI_val (e : E) : evI sub c (.val e) ρ S = (evE sub c e ρ S).bind fun x S1 => .of S1 (srcD S1 x) := id rfl
@[simp] theorem evI_valv (i : Nat) : evI sub c (.valv i) ρ S = match ρ[i]? with
    | some (some d) => if isD0 S d then .ok ([], none) S else .of S (srcD S d)
    | _ => .no := id rfl
@[simp] theorem evI_lst (es : Es) : evI sub c (.lst es) ρ S = (evEs sub c es ρ S).bind fun l S1 => if l.length ≤ line then .ok (l, none) S1 else .no := id rfl
@[simp] theorem evI_rng1 (a : E) : evI sub c (.rng1 a) ρ S = (evE sub c a ρ S).bind fun x S1 => match x with
    | .int n => .of S1 (rngD 0 n)
    | _ => .no := id rfl
@[simp] theorem evI_rng2 (a b : E) : evI sub c (.rng2 a b) ρ S = (evE sub c a ρ S).bind fun x S1 => (evE sub c b ρ S1).bind fun y S2 => match x, y with
    | .int m, .int n => .of S2 (rngD m n)
    | _, _ => .no := id rfl
/-- the turns of a comprehension, of a for, of a while: folded -/
def compB (sub : Nat → Nat → Bool) (c : Cl) (own : List Nat) (e : E) (tg : Tg) (t : Option E) (ρ : Env) (g : Option (Nat × O)) (l acc : List D) (S : Sto) : R (List D) := compL (fun x S => bindT S tg x (wipeE ρ own)) (fun ρ S => evT sub c t ρ S) (fun ρ S => evE sub c e ρ S) g l acc S
def forB (sub : Nat → Nat → Bool) (c : Cl) (tg : Tg) (b : Ss) (g : Option (Nat × O)) (l : List D) (ρ : Env) (S : Sto) : RS := forL (fun x ρ S => bindT S tg x ρ) (fun ρ S => evSs sub c b ρ S) g l ρ S
theorem evC_mk (own : List Nat) (e : E) (tg : Tg) (it : I) (t : Option E) : evC sub c (.mk own e tg it t) ρ S = (evI sub c it ρ S).bind fun p S1 => if p.1.length ≤ line then compB sub c own e tg t ρ p.2 p.1 [] S1 else .no := rfl
theorem compB_nil {own : List Nat} {e : E} {tg : Tg} {t : Option E} {g : Option (Nat × O)} {acc : List D} : compB sub c own e tg t ρ g [] acc S = .ok acc S := rfl
theorem compB_cons {own : List Nat} {e : E} {tg : Tg} {t : Option E} {g : Option (Nat × O)} {acc l : List D} {x : D} : compB sub c own e tg t ρ g (x :: l) acc S = match bindT S tg x (wipeE ρ own) with
    | none => .no
    | some ρ1 => match evT sub c t ρ1 S with
      | .ok true S1 => match evE sub c e ρ1 S1 with
        | .ok d S2 => if gOk g S2 then compB sub c own e tg t ρ g l (acc ++ [d]) S2 else .no
        | _ => .no
      | .ok false S1 => if gOk g S1 then compB sub c own e tg t ρ g l acc S1 else .no
      | _ => .no := rfl
theorem evS_fr (tg : Tg) (it : I) (b : Ss) : evS sub c (.fr tg it b) ρ S = (evI sub c it ρ S).st ρ fun p S1 => forB sub c tg b p.2 p.1 ρ S1 := rfl
theorem forB_nil {tg : Tg} {b : Ss} {g : Option (Nat × O)} : forB sub c tg b g [] ρ S = .nx ρ S := rfl
theorem forB_cons {tg : Tg} {b : Ss} {g : Option (Nat × O)} {x : D} {l : List D} : forB sub c tg b g (x :: l) ρ S = match bindT S tg x ρ with
    | none => .no
    | some ρ1 => match evSs sub c b ρ1 S with
      | .nx ρ2 S2 => if gOk g S2 then forB sub c tg b g l ρ2 S2 else .no
      | .ct ρ2 S2 => if gOk g S2 then forB sub c tg b g l ρ2 S2 else .no
      | .bk ρ2 S2 => .nx ρ2 S2
      | .rt d S2 => .rt d S2
      | .ex x ρ2 S2 => .ex x ρ2 S2
      | .no => .no := rfl
theorem evS_whl (t : E) (b : Ss) : evS sub c (.whl t b) ρ S = whileN (fun ρ S => tru (evE sub c t ρ S)) (fun ρ S => evSs sub c b ρ S) wfuel ρ S := rfl
@[simp] theorem evS_asg (i : Nat) (e : E) : evS sub c (.asg i e) ρ S = (evE sub c e ρ S).st ρ fun d S1 => .nx (setE ρ i d) S1 := id rfl
@[simp] theorem evS_asgT (ts : List Tg) (e : E) : evS sub c (.asgT ts e) ρ S = (evE sub c e ρ S).st ρ fun d S1 => match bindT S1 (.tp ts) d ρ with
    | some ρ' => .nx ρ' S1
    | none => .no := id rfl
@[simp] theorem evS_par (is : List Nat) (es : Es) : evS sub c (.par is es) ρ S = (evEs sub c es ρ S).st ρ fun l S1 => if l.length = is.length then .nx (setAll ρ is l) S1 else .no := id rfl
@[simp] theorem evS_aug (i : Nat) (o : BOp) (e : E) : evS sub c (.aug i o e) ρ S = match ρ[i]? with
    | some (some x) => (evE sub c e ρ S).st ρ fun y S1 => match o, x, y with
      | .add, .int a, .int b => .nx (setE ρ i (.int (a + b))) S1
      | .sub, .int a, .int b => .nx (setE ρ i (.int (a - b))) S1
      | _, _, _ => .no
    | _ => .no := id rfl
@[simp] theorem evS_setI (a i e : E) : evS sub c (.setI a i e) ρ S = (evE sub c e ρ S).st ρ fun v S1 => (evE sub c a ρ S1).st ρ fun x S2 => (evE sub c i ρ S2).st ρ fun k S3 => match x, k with
    | .ref n, .int k => match S3[n]? with
      | some (.lst l) => match ixN l.length k with
        | some j => .nx ρ (S3.set n (.lst (l.set j v)))
        | none => .no
      | _ => .no
    | _, _ => .no := id rfl
@[simp] theorem evS_expr (e : E) : evS sub c (.expr e) ρ S = (evE sub c e ρ S).st ρ fun _ S1 => .nx ρ S1 := id rfl
@[simp] theorem evS_ret (e : E) : evS sub c (.ret e) ρ S = (evE sub c e ρ S).st ρ fun d S1 => .rt d S1 := id rfl
@[simp] theorem evS_retN : evS sub c .retN ρ S = .rt .non S := id rfl
@[simp] theorem evS_ife (t : E) (a b : Ss) : evS sub c (.ife t a b) ρ S = (tru (evE sub c t ρ S)).st ρ fun k S1 => if k then evSs sub c a ρ S1 else evSs sub c b ρ S1 := id rfl
@[simp] theorem evS_rais (k : Nat) (fs : List (List Nat)) (es : Es) : evS sub c (.rais k fs es) ρ S = (evEs sub c es ρ S).st ρ fun l S1 => if l.length = fs.length then .ex ⟨k, fs.zip l⟩ ρ S1 else .no := id rfl
@[simp] theorem evS_try (b : Ss) (hs : List Hd) : evS sub c (.try_ b hs) ρ S = match evSs sub c b ρ S with
    | .ex x ρ1 S1 => hdl sub x ρ1 S1 hs
    | r => r := id rfl
@[simp] theorem evS_pass : evS sub c .pass ρ S = .nx ρ S := id rfl
@[simp] theorem evS_brk : evS sub c .brk ρ S = .bk ρ S := id rfl
@[simp] theorem evS_cont : evS sub c .cont ρ S = .ct ρ S := id rfl
@[simp] theorem evSs_nil : evSs sub c .nil ρ S = .nx ρ S := id rfl
@[simp] theorem evSs_cons (s : Sm) (ss : Ss) : evSs sub c (.cons s ss) ρ S = (evS sub c s ρ S).then fun ρ' S' => evSs sub c ss ρ' S' := id rfl
/-- the end of a def -/
def endB : RS → R D
  | .rt v S' => .ok v S'
  | .nx _ S' => .ok .non S'
  | .ex x _ S' => .ex x S'
  | _ => .no
theorem runB_eq (d : Df) (ds : List D) : runB sub c d ds S = endB (evSs sub c d.body (startE d ds) S) := by unfold runB endB; rfl
@[simp] theorem endB_rt (v : D) : endB (.rt v S) = .ok v S := id rfl
@[simp] theorem endB_nx : endB (.nx ρ S) = .ok .non S := id rfl
@[simp] theorem endB_ex (x : Ex) : endB (.ex x ρ S) = .ex x S := id rfl
@[simp] theorem reloc_int (i : Int) (S1 : Sto) : reloc S (.ok (.int i) S1) = .ok (.int i) S := id rfl
@[simp] theorem reloc_bl (i : Bool) (S1 : Sto) : reloc S (.ok (.bl i) S1) = .ok (.bl i) S := id rfl
@[simp] theorem reloc_non (S1 : Sto) : reloc S (.ok .non S1) = .ok .non S := id rfl
@[simp] theorem reloc_str (s : List Nat) (S1 : Sto) : reloc S (.ok (.str s) S1) = .ok (.str s) S := id rfl
theorem reloc_free (v : D) (S1 : Sto) (h : v.free = true) : reloc S (.ok v S1) = .ok v S := by unfold reloc; simp [h]
theorem reloc_exf (x : Ex) (S1 : Sto) (h : fsFree x.fs = true) : reloc S (.ex x S1) = .ex x S := by unfold reloc; simp [h]
end
/-! numbers -/
theorem bAbs_eq (i : Int) (S : Sto) : biD .abs [.int i] S = .ok (.int (i.natAbs : Int)) S := by
  show R.ok (D.int (if i < 0 then -i else i)) S = _
  congr 2
  split <;> omega
@[simp] theorem bInt_eq (i : Int) (S : Sto) : biD .int [.int i] S = .ok (.int i) S := id rfl
@[simp] theorem kind_int (i : Int) (S : Sto) : kind S (.int i) = some .int := id rfl
@[simp] theorem kind_bl (i : Bool) (S : Sto) : kind S (.bl i) = some .bool := id rfl
@[simp] theorem kind_tup (l : List D) (S : Sto) : kind S (.tup l) = some .tuple := id rfl
@[simp] theorem kind_str (l : List Nat) (S : Sto) : kind S (.str l) = some .str := id rfl
@[simp] theorem kind_non (S : Sto) : kind S .non = some .non := id rfl
@[simp] theorem add_int (a b : Int) (S : Sto) : binD .add (.int a) (.int b) S = .ok (.int (a + b)) S := id rfl
@[simp] theorem sub_int (a b : Int) (S : Sto) : binD .sub (.int a) (.int b) S = .ok (.int (a - b)) S := id rfl
@[simp] theorem cmp_gt (a b : Int) (S : Sto) : cmpO .gt (.int a) (.int b) S = some (decide (b < a)) := id rfl
@[simp] theorem cmp_lt (a b : Int) (S : Sto) : cmpO .lt (.int a) (.int b) S = some (decide (a < b)) := id rfl
@[simp] theorem cmp_ge (a b : Int) (S : Sto) : cmpO .ge (.int a) (.int b) S = some (!decide (a < b)) := id rfl
@[simp] theorem cmp_le (a b : Int) (S : Sto) : cmpO .le (.int a) (.int b) S = some (!decide (b < a)) := id rfl
@[simp] theorem cmp_eq (a b : Int) (S : Sto) : cmpO .eq (.int a) (.int b) S = some (decide (a = b)) := id rfl
@[simp] theorem cmp_ne (a b : Int) (S : Sto) : cmpO .ne (.int a) (.int b) S = some (!decide (a = b)) := id rfl
@[simp] theorem cmp_eqs (a b : List Nat) (S : Sto) : cmpO .eq (.str a) (.str b) S = some (decide (a = b)) := id rfl
@[simp] theorem cmp_nes (a b : List Nat) (S : Sto) : cmpO .ne (.str a) (.str b) S = some (!decide (a = b)) := id rfl
@[simp] theorem cmp_eqb (a b : Bool) (S : Sto) : cmpO .eq (.bl a) (.bl b) S = some (decide (a = b)) := id rfl
@[simp] theorem cmp_neb (a b : Bool) (S : Sto) : cmpO .ne (.bl a) (.bl b) S = some (!decide (a = b)) := id rfl
@[simp] theorem tru_bl (b : Bool) (S : Sto) : truD S (.bl b) = some b := id rfl
@[simp] theorem tru_int (i : Int) (S : Sto) : truD S (.int i) = some (decide (i ≠ 0)) := id rfl
theorem fdiv_ok {a g : Int} (S : Sto) (h : 0 < g) (h2 : g.natAbs < 2 ^ 8999) : binD .fdiv (.int a) (.int g) S = .ok (.int (a / g)) S := by
  show (if decide (g ≠ 0) && decide (g.natAbs < 1073741824) then R.ok (D.int (a.fdiv g)) S else if decide (0 < g) && decide (g.natAbs.log2 < 9000) then .ok (.int (a / g)) S else .no) = _
  have hne : g ≠ 0 := by omega
  have hl : g.natAbs.log2 < 9000 := Nat.lt_trans (log2_lt_of h2 (by omega)) (by omega)
  by_cases c : g.natAbs < 1073741824
  · rw [Int.fdiv_eq_ediv_of_nonneg _ (Int.le_of_lt h)]
    simp [hne, c]
  · simp [hne, c, h, hl]
theorem mod_ok {a g : Int} (S : Sto) (h : 0 < g) : binD .mod (.int a) (.int g) S = .ok (.int (a % g)) S := by
  show (if g ≠ 0 then R.ok (D.int (a.fmod g)) S else .no) = _
  rw [if_pos (by omega), Int.fmod_eq_emod_of_nonneg _ (Int.le_of_lt h)]
theorem mul_ok {a b : Int} (S : Sto) (h1 : a.natAbs < 2 ^ 5000) (h2 : b.natAbs < 2 ^ 5000) : binD .mul (.int a) (.int b) S = .ok (.int (a * b)) S := by
  have e1 := log2_lt_of h1 (by omega)
  have e2 := log2_lt_of h2 (by omega)
  show (if mulOk a b = true then _ else _) = _
  rw [if_pos]
  unfold mulOk
  simp only [Bool.or_eq_true, decide_eq_true_eq]
  exact .inr (by omega)
theorem pow_ok {a : Int} {k : Nat} (S : Sto) (h1 : a.natAbs < 2 ^ 64) (h2 : (k : Int) ≤ 1000000) : binD .pow (.int a) (.int k) S = .ok (.int (a ^ k)) S := by
  show (if decide (0 ≤ (k : Int)) && decide ((k : Int) ≤ 1000000) && decide (a.natAbs < 2 ^ 64) then R.ok (D.int (a ^ (k : Int).toNat)) S else .no) = _
  rw [if_pos (by simp [h1, h2])]
  simp
theorem sm_mul {a b : Int} {k m : Nat} (h1 : a.natAbs < 2 ^ k) (h2 : b.natAbs < 2 ^ m) : (a * b).natAbs < 2 ^ (k + m) := by
  rw [Int.natAbs_mul, Nat.pow_add]
  exact Nat.mul_lt_mul_of_lt_of_le h1 (Nat.le_of_lt h2) (Nat.pow_pos (by omega))
theorem sm_up {a : Int} {k m : Nat} (h : a.natAbs < 2 ^ k) (hk : k ≤ m) : a.natAbs < 2 ^ m := Nat.lt_of_lt_of_le h (Nat.pow_le_pow_right (by omega) hk)
theorem sm_add {a b : Int} {k : Nat} (h1 : a.natAbs < 2 ^ k) (h2 : b.natAbs < 2 ^ k) : (a + b).natAbs < 2 ^ (k + 1) := by
  rw [Nat.pow_succ]
  have := Int.natAbs_add_le a b
  omega
theorem sm_sub {a b : Int} {k : Nat} (h1 : a.natAbs < 2 ^ k) (h2 : b.natAbs < 2 ^ k) : (a - b).natAbs < 2 ^ (k + 1) := by
  rw [Nat.pow_succ]
  have := Int.natAbs_sub_le a b
  omega
theorem RS.then_nx_id (r : RS) : (r.then fun ρ S => .nx ρ S) = r := by cases r <;> rfl
end Eg

namespace K00
open PySem Eg
abbrev c_LookError : Nat := 0
abbrev c_InvalidBase : Nat := 1
abbrev c_InvalidNumber : Nat := 2
abbrev c_InvalidTop : Nat := 3
abbrev c_ZeroNumber : Nat := 4
abbrev f_is_integer : Nat := 0
abbrev f_is_tuple : Nat := 1
abbrev f_divisor : Nat := 2
abbrev f_lowest : Nat := 3
abbrev f_fraction : Nat := 4
abbrev f_is_number : Nat := 5
abbrev f_check_number : Nat := 6
abbrev f_check_two : Nat := 7
abbrev f_sum_of : Nat := 8
abbrev f_less_of : Nat := 9
abbrev f_product_of : Nat := 10
abbrev f_share_of : Nat := 11
abbrev f_sign_between : Nat := 12
abbrev f_add : Nat := 13
abbrev f_subtract : Nat := 14
abbrev f_multiply : Nat := 15
abbrev f_divide : Nat := 16
abbrev f_compare : Nat := 17
abbrev f__law_cell : Nat := 18
abbrev f__law_box : Nat := 19
abbrev f__law_take : Nat := 20
abbrev f__law_low : Nat := 21
abbrev f__law_plus : Nat := 22
abbrev f__law_times : Nat := 23
abbrev f__law_minus : Nat := 24
abbrev f__law_number : Nat := 25
abbrev f__law_same : Nat := 26
abbrev f__law_copy : Nat := 27
abbrev f__law_blamed : Nat := 28
abbrev f__law_met : Nat := 29
abbrev f__law_integer : Nat := 30
abbrev f__law_any_number : Nat := 31
abbrev f__law_no_number : Nat := 32
abbrev f__law_asked : Nat := 33
abbrev f__law_rows_right : Nat := 34
abbrev f__law_fractions_right : Nat := 35
abbrev f__law_sums_right : Nat := 36
abbrev f__law_refused_right : Nat := 37
abbrev f_law : Nat := 38
def d_is_integer : Df := ⟨[105, 115, 95, 105, 110, 116, 101, 103, 101, 114], 1, [[118, 97, 108, 117, 101]],
 (.cons (.ret (.and (.isi (.var 0) [.int]) (.not (.isi (.var 0) [.bool]))))
 .nil)⟩
def d_is_tuple : Df := ⟨[105, 115, 95, 116, 117, 112, 108, 101], 2, [[118, 97, 108, 117, 101], [115, 105, 122, 101]],
 (.cons (.ret (.and (.isi (.var 0) [.tuple]) (.cmp .eq (.bi .len (.cons (.var 0) .nil)) (.var 1))))
 .nil)⟩
def d_divisor : Df := ⟨[100, 105, 118, 105, 115, 111, 114], 2, [[111, 110, 101], [111, 116, 104, 101, 114]],
 (.cons (.whl (.cmp .ne (.var 1) (.lit (.int 0)))
 (.cons (.par [0, 1] (.cons (.var 1) (.cons (.bin .mod (.var 0) (.var 1)) .nil)))
 .nil))
 (.cons (.ret (.var 0))
 .nil))⟩
def d_lowest : Df := ⟨[108, 111, 119, 101, 115, 116], 2, [[116, 111, 112], [98, 97, 115, 101], [99, 111, 109, 109, 111, 110], [115, 105, 103, 110]],
 (.cons (.asg 2 (.call f_divisor (.cons (.bi .abs (.cons (.var 0) .nil)) (.cons (.bi .abs (.cons (.var 1) .nil)) .nil))))
 (.cons (.asg 3 (.ite (.cmp .gt (.var 1) (.lit (.int 0))) (.lit (.int 1)) (.neg (.lit (.int 1)))))
 (.cons (.ret (.tup (.cons (.bin .fdiv (.bin .mul (.var 3) (.var 0)) (.var 2)) (.cons (.bin .fdiv (.bin .mul (.var 3) (.var 1)) (.var 2)) .nil))))
 .nil)))⟩
def d_fraction : Df := ⟨[102, 114, 97, 99, 116, 105, 111, 110], 2, [[116, 111, 112], [98, 97, 115, 101]],
 (.cons (.ife (.not (.call f_is_integer (.cons (.var 0) .nil)))
 (.cons (.rais c_InvalidTop [[103, 105, 118, 101, 110]] (.cons (.var 0) .nil))
 .nil)
 .nil)
 (.cons (.ife (.or (.not (.call f_is_integer (.cons (.var 1) .nil))) (.cmp .eq (.var 1) (.lit (.int 0))))
 (.cons (.rais c_InvalidBase [[103, 105, 118, 101, 110]] (.cons (.var 1) .nil))
 .nil)
 .nil)
 (.cons (.ret (.call f_lowest (.cons (.var 0) (.cons (.var 1) .nil))))
 .nil)))⟩
def d_is_number : Df := ⟨[105, 115, 95, 110, 117, 109, 98, 101, 114], 1, [[118, 97, 108, 117, 101]],
 (.cons (.ife (.or (.not (.call f_is_tuple (.cons (.var 0) (.cons (.lit (.int 2)) .nil)))) (.or (.not (.call f_is_integer (.cons (.idx (.var 0) (.lit (.int 0))) .nil))) (.not (.call f_is_integer (.cons (.idx (.var 0) (.lit (.int 1))) .nil)))))
 (.cons (.ret (.lit (.bl false)))
 .nil)
 .nil)
 (.cons (.ret (.and (.cmp .gt (.idx (.var 0) (.lit (.int 1))) (.lit (.int 0))) (.cmp .eq (.call f_divisor (.cons (.bi .abs (.cons (.idx (.var 0) (.lit (.int 0))) .nil)) (.cons (.idx (.var 0) (.lit (.int 1))) .nil))) (.lit (.int 1)))))
 .nil))⟩
def d_check_number : Df := ⟨[99, 104, 101, 99, 107, 95, 110, 117, 109, 98, 101, 114], 1, [[110, 117, 109, 98, 101, 114]],
 (.cons (.ife (.not (.call f_is_number (.cons (.var 0) .nil)))
 (.cons (.rais c_InvalidNumber [[103, 105, 118, 101, 110]] (.cons (.var 0) .nil))
 .nil)
 .nil)
 .nil)⟩
def d_check_two : Df := ⟨[99, 104, 101, 99, 107, 95, 116, 119, 111], 2, [[111, 110, 101], [111, 116, 104, 101, 114]],
 (.cons (.expr (.call f_check_number (.cons (.var 0) .nil)))
 (.cons (.expr (.call f_check_number (.cons (.var 1) .nil)))
 .nil))⟩
def d_sum_of : Df := ⟨[115, 117, 109, 95, 111, 102], 2, [[111, 110, 101], [111, 116, 104, 101, 114]],
 (.cons (.ret (.call f_lowest (.cons (.bin .add (.bin .mul (.idx (.var 0) (.lit (.int 0))) (.idx (.var 1) (.lit (.int 1)))) (.bin .mul (.idx (.var 1) (.lit (.int 0))) (.idx (.var 0) (.lit (.int 1))))) (.cons (.bin .mul (.idx (.var 0) (.lit (.int 1))) (.idx (.var 1) (.lit (.int 1)))) .nil))))
 .nil)⟩
def d_less_of : Df := ⟨[108, 101, 115, 115, 95, 111, 102], 2, [[111, 110, 101], [111, 116, 104, 101, 114]],
 (.cons (.ret (.call f_lowest (.cons (.bin .sub (.bin .mul (.idx (.var 0) (.lit (.int 0))) (.idx (.var 1) (.lit (.int 1)))) (.bin .mul (.idx (.var 1) (.lit (.int 0))) (.idx (.var 0) (.lit (.int 1))))) (.cons (.bin .mul (.idx (.var 0) (.lit (.int 1))) (.idx (.var 1) (.lit (.int 1)))) .nil))))
 .nil)⟩
def d_product_of : Df := ⟨[112, 114, 111, 100, 117, 99, 116, 95, 111, 102], 2, [[111, 110, 101], [111, 116, 104, 101, 114]],
 (.cons (.ret (.call f_lowest (.cons (.bin .mul (.idx (.var 0) (.lit (.int 0))) (.idx (.var 1) (.lit (.int 0)))) (.cons (.bin .mul (.idx (.var 0) (.lit (.int 1))) (.idx (.var 1) (.lit (.int 1)))) .nil))))
 .nil)⟩
def d_share_of : Df := ⟨[115, 104, 97, 114, 101, 95, 111, 102], 2, [[111, 110, 101], [111, 116, 104, 101, 114]],
 (.cons (.ret (.call f_lowest (.cons (.bin .mul (.idx (.var 0) (.lit (.int 0))) (.idx (.var 1) (.lit (.int 1)))) (.cons (.bin .mul (.idx (.var 0) (.lit (.int 1))) (.idx (.var 1) (.lit (.int 0)))) .nil))))
 .nil)⟩
def d_sign_between : Df := ⟨[115, 105, 103, 110, 95, 98, 101, 116, 119, 101, 101, 110], 2, [[111, 110, 101], [111, 116, 104, 101, 114], [103, 97, 112]],
 (.cons (.asg 2 (.bin .sub (.bin .mul (.idx (.var 0) (.lit (.int 0))) (.idx (.var 1) (.lit (.int 1)))) (.bin .mul (.idx (.var 1) (.lit (.int 0))) (.idx (.var 0) (.lit (.int 1))))))
 (.cons (.ret (.ite (.cmp .eq (.var 2) (.lit (.int 0))) (.lit (.int 0)) (.ite (.cmp .gt (.var 2) (.lit (.int 0))) (.lit (.int 1)) (.neg (.lit (.int 1))))))
 .nil))⟩
def d_add : Df := ⟨[97, 100, 100], 2, [[111, 110, 101], [111, 116, 104, 101, 114]],
 (.cons (.expr (.call f_check_two (.cons (.var 0) (.cons (.var 1) .nil))))
 (.cons (.ret (.call f_sum_of (.cons (.var 0) (.cons (.var 1) .nil))))
 .nil))⟩
def d_subtract : Df := ⟨[115, 117, 98, 116, 114, 97, 99, 116], 2, [[111, 110, 101], [111, 116, 104, 101, 114]],
 (.cons (.expr (.call f_check_two (.cons (.var 0) (.cons (.var 1) .nil))))
 (.cons (.ret (.call f_less_of (.cons (.var 0) (.cons (.var 1) .nil))))
 .nil))⟩
def d_multiply : Df := ⟨[109, 117, 108, 116, 105, 112, 108, 121], 2, [[111, 110, 101], [111, 116, 104, 101, 114]],
 (.cons (.expr (.call f_check_two (.cons (.var 0) (.cons (.var 1) .nil))))
 (.cons (.ret (.call f_product_of (.cons (.var 0) (.cons (.var 1) .nil))))
 .nil))⟩
def d_divide : Df := ⟨[100, 105, 118, 105, 100, 101], 2, [[111, 110, 101], [111, 116, 104, 101, 114]],
 (.cons (.expr (.call f_check_two (.cons (.var 0) (.cons (.var 1) .nil))))
 (.cons (.ife (.cmp .eq (.idx (.var 1) (.lit (.int 0))) (.lit (.int 0)))
 (.cons (.rais c_ZeroNumber [] .nil)
 .nil)
 .nil)
 (.cons (.ret (.call f_share_of (.cons (.var 0) (.cons (.var 1) .nil))))
 .nil)))⟩
def d_compare : Df := ⟨[99, 111, 109, 112, 97, 114, 101], 2, [[111, 110, 101], [111, 116, 104, 101, 114]],
 (.cons (.expr (.call f_check_two (.cons (.var 0) (.cons (.var 1) .nil))))
 (.cons (.ret (.call f_sign_between (.cons (.var 0) (.cons (.var 1) .nil))))
 .nil))⟩
def d__law_cell : Df := ⟨[95, 108, 97, 119, 95, 99, 101, 108, 108], 2, [[115, 99, 114, 105, 112, 116], [107]],
 (.cons (.ret (.ite (.cmp .lt (.var 1) (.bi .len (.cons (.var 0) .nil))) (.idx (.var 0) (.var 1)) (.bin .add (.bin .mul (.lit (.int 6451)) (.var 1)) (.bin .mod (.bi .int (.cons (.bi .sum (.cons (.slc (.var 0) none (some (.lit (.int 1)))) .nil)) .nil)) (.lit (.int 1000003))))))
 .nil)⟩
def d__law_box : Df := ⟨[95, 108, 97, 119, 95, 98, 111, 120], 1, [[103, 114, 101, 97, 116]],
 (.cons (.ret (.lst (.cons (.bi .abs (.cons (.var 0) .nil)) (.cons (.cmp .ge (.bi .abs (.cons (.var 0) .nil)) (.bin .pow (.lit (.int 10)) (.lit (.int 18)))) (.cons (.bin .mod (.bi .int (.cons (.bi .abs (.cons (.var 0) .nil)) .nil)) (.lit (.int 2147483629))) (.cons (.lit (.int 0)) .nil))))))
 .nil)⟩
def d__law_take : Df := ⟨[95, 108, 97, 119, 95, 116, 97, 107, 101], 2, [[98, 111, 120], [109, 97, 110, 121], [100, 105, 103, 105, 116], [109, 105, 120, 101, 100]],
 (.cons (.ife (.and (.idx (.var 0) (.lit (.int 1))) (.cmp .gt (.idx (.var 0) (.lit (.int 0))) (.lit (.int 0))))
 (.cons (.asg 2 (.bin .mod (.bi .int (.cons (.idx (.var 0) (.lit (.int 0))) .nil)) (.var 1)))
 (.cons (.setI (.var 0) (.lit (.int 0)) (.bin .fdiv (.idx (.var 0) (.lit (.int 0))) (.var 1)))
 (.cons (.ret (.var 2))
 .nil)))
 .nil)
 (.cons (.setI (.var 0) (.lit (.int 3)) (.bin .add (.idx (.var 0) (.lit (.int 3))) (.lit (.int 1))))
 (.cons (.asg 3 (.bin .mod (.bi .int (.cons (.bin .pow (.bin .add (.bin .add (.idx (.var 0) (.lit (.int 2))) (.bin .mul (.lit (.int 15487471)) (.idx (.var 0) (.lit (.int 3))))) (.lit (.int 179426083))) (.lit (.int 5))) .nil)) (.lit (.int 2147483647))))
 (.cons (.ret (.bin .mod (.bi .int (.cons (.bin .fdiv (.bin .mod (.bi .int (.cons (.bin .pow (.bin .add (.bin .mul (.var 3) (.lit (.int 48271))) (.bin .mul (.lit (.int 104743)) (.idx (.var 0) (.lit (.int 3))))) (.lit (.int 3))) .nil)) (.lit (.int 2147483587))) (.lit (.int 64))) .nil)) (.var 1)))
 .nil))))⟩
def d__law_low : Df := ⟨[95, 108, 97, 119, 95, 108, 111, 119], 2, [[116, 111, 112], [98, 97, 115, 101], [111, 110, 101], [111, 116, 104, 101, 114], [115, 105, 103, 110]],
 (.cons (.par [2, 3] (.cons (.bi .abs (.cons (.var 0) .nil)) (.cons (.bi .abs (.cons (.var 1) .nil)) .nil)))
 (.cons (.whl (.cmp .ne (.var 3) (.lit (.int 0)))
 (.cons (.par [2, 3] (.cons (.var 3) (.cons (.bin .mod (.bi .int (.cons (.var 2) .nil)) (.var 3)) .nil)))
 .nil))
 (.cons (.asg 4 (.ite (.cmp .gt (.var 1) (.lit (.int 0))) (.lit (.int 1)) (.neg (.lit (.int 1)))))
 (.cons (.ret (.tup (.cons (.bin .fdiv (.bin .mul (.var 4) (.var 0)) (.var 2)) (.cons (.bin .fdiv (.bin .mul (.var 4) (.var 1)) (.var 2)) .nil))))
 .nil))))⟩
def d__law_plus : Df := ⟨[95, 108, 97, 119, 95, 112, 108, 117, 115], 2, [[111, 110, 101], [111, 116, 104, 101, 114]],
 (.cons (.ret (.call f__law_low (.cons (.bin .add (.bin .mul (.idx (.var 0) (.lit (.int 0))) (.idx (.var 1) (.lit (.int 1)))) (.bin .mul (.idx (.var 1) (.lit (.int 0))) (.idx (.var 0) (.lit (.int 1))))) (.cons (.bin .mul (.idx (.var 0) (.lit (.int 1))) (.idx (.var 1) (.lit (.int 1)))) .nil))))
 .nil)⟩
def d__law_times : Df := ⟨[95, 108, 97, 119, 95, 116, 105, 109, 101, 115], 2, [[111, 110, 101], [111, 116, 104, 101, 114]],
 (.cons (.ret (.call f__law_low (.cons (.bin .mul (.idx (.var 0) (.lit (.int 0))) (.idx (.var 1) (.lit (.int 0)))) (.cons (.bin .mul (.idx (.var 0) (.lit (.int 1))) (.idx (.var 1) (.lit (.int 1)))) .nil))))
 .nil)⟩
def d__law_minus : Df := ⟨[95, 108, 97, 119, 95, 109, 105, 110, 117, 115], 1, [[110, 117, 109, 98, 101, 114]],
 (.cons (.ret (.tup (.cons (.bin .sub (.lit (.int 0)) (.idx (.var 0) (.lit (.int 0)))) (.cons (.idx (.var 0) (.lit (.int 1))) .nil))))
 .nil)⟩
def d__law_number : Df := ⟨[95, 108, 97, 119, 95, 110, 117, 109, 98, 101, 114], 1, [[98, 111, 120]],
 (.cons (.ret (.call f__law_low (.cons (.idxl (.cons (.lit (.int 1)) (.cons (.neg (.lit (.int 1))) (.cons (.lit (.int 2)) (.cons (.lit (.int 0)) (.cons (.lit (.int 3)) (.cons (.neg (.lit (.int 2))) (.cons (.lit (.int 1)) (.cons (.lit (.int 5)) (.cons (.neg (.lit (.int 3))) (.cons (.lit (.int 1)) .nil)))))))))) (.call f__law_take (.cons (.var 0) (.cons (.lit (.int 10)) .nil)))) (.cons (.idxl (.cons (.lit (.int 1)) (.cons (.lit (.int 1)) (.cons (.lit (.int 1)) (.cons (.lit (.int 2)) (.cons (.lit (.int 1)) (.cons (.lit (.int 3)) .nil)))))) (.call f__law_take (.cons (.var 0) (.cons (.lit (.int 6)) .nil)))) .nil))))
 .nil)⟩
def d__law_same : Df := ⟨[95, 108, 97, 119, 95, 115, 97, 109, 101], 2, [[116, 111, 108, 100], [100, 117, 101], [107, 101, 121], [107]],
 (.cons (.ife (.or (.cmp .is_ (.var 1) (.lit .non)) (.isi (.var 1) [.bool]))
 (.cons (.ret (.ite (.cmp .is_ (.var 1) (.lit .non)) (.cmp .is_ (.var 0) (.lit .non)) (.and (.isi (.var 0) [.bool]) (.cmp .eq (.cmp .is_ (.var 0) (.lit (.bl true))) (.cmp .is_ (.var 1) (.lit (.bl true)))))))
 .nil)
 .nil)
 (.cons (.ife (.isi (.var 1) [.int])
 (.cons (.ret (.and (.isi (.var 0) [.int]) (.and (.not (.isi (.var 0) [.bool])) (.cmp .eq (.var 0) (.var 1)))))
 .nil)
 .nil)
 (.cons (.ife (.isi (.var 1) [.str])
 (.cons (.ret (.and (.isi (.var 0) [.str]) (.cmp .eq (.var 0) (.var 1))))
 .nil)
 .nil)
 (.cons (.ife (.isi (.var 1) [.dict])
 (.cons (.ife (.or (.not (.isi (.var 0) [.dict])) (.cmp .ne (.bi .len (.cons (.var 0) .nil)) (.bi .len (.cons (.var 1) .nil))))
 (.cons (.ret (.lit (.bl false)))
 .nil)
 .nil)
 (.cons (.ret (.nilc false (.mk [2] (.var 2) (.nm 2) (.valv 1) (some (.or (.cmp .notin (.var 2) (.var 0)) (.not (.call f__law_same (.cons (.idx (.var 0) (.var 2)) (.cons (.idx (.var 1) (.var 2)) .nil)))))))))
 .nil))
 .nil)
 (.cons (.ife (.isi (.var 1) [.list, .tuple])
 (.cons (.ife (.or (.not (.isi (.var 0) [.list, .tuple])) (.or (.cmp .ne (.isi (.var 0) [.list]) (.isi (.var 1) [.list])) (.cmp .ne (.bi .len (.cons (.var 0) .nil)) (.bi .len (.cons (.var 1) .nil)))))
 (.cons (.ret (.lit (.bl false)))
 .nil)
 .nil)
 (.cons (.ret (.nilc false (.mk [3] (.var 3) (.nm 3) (.rng1 (.bi .len (.cons (.var 1) .nil))) (some (.not (.call f__law_same (.cons (.idx (.var 0) (.var 3)) (.cons (.idx (.var 1) (.var 3)) .nil))))))))
 .nil))
 .nil)
 (.cons (.ret (.and (.cmp .isnot (.var 0) (.lit .non)) (.not (.isi (.var 0) [.int, .str, .list, .tuple, .dict]))))
 .nil))))))⟩
def d__law_copy : Df := ⟨[95, 108, 97, 119, 95, 99, 111, 112, 121], 1, [[118, 97, 108, 117, 101]],
 (.cons (.ret (.ite (.isi (.var 0) [.list]) (.bi .list (.cons (.var 0) .nil)) (.var 0)))
 .nil)⟩
def d__law_blamed : Df := ⟨[95, 108, 97, 119, 95, 98, 108, 97, 109, 101, 100], 2, [[103, 105, 118, 101, 110], [118, 97, 108, 117, 101]],
 (.cons (.ife (.not (.call f__law_same (.cons (.var 0) (.cons (.var 1) .nil))))
 (.cons (.ret (.lit (.bl false)))
 .nil)
 .nil)
 (.cons (.ife (.isi (.var 1) [.list])
 (.cons (.expr (.app (.var 1) (.lit (.int 7))))
 .nil)
 .nil)
 (.cons (.ret (.call f__law_same (.cons (.var 0) (.cons (.var 1) .nil))))
 .nil)))⟩
def d__law_met : Df := ⟨[95, 108, 97, 119, 95, 109, 101, 116], 2, [[116, 111, 108, 100], [100, 117, 101]],
 (.cons (.ife (.cmp .ne (.idx (.var 0) (.lit (.int 0))) (.idx (.var 1) (.lit (.int 0))))
 (.cons (.ret (.lit (.bl false)))
 .nil)
 .nil)
 (.cons (.ret (.ite (.cmp .eq (.idx (.var 1) (.lit (.int 0))) (.lit (.str [116, 111, 108, 100]))) (.call f__law_same (.cons (.idx (.var 0) (.lit (.int 1))) (.cons (.idx (.var 1) (.lit (.int 1))) .nil))) (.call f__law_blamed (.cons (.idx (.var 0) (.lit (.int 1))) (.cons (.idx (.var 1) (.lit (.int 1))) .nil)))))
 .nil))⟩
def d__law_integer : Df := ⟨[95, 108, 97, 119, 95, 105, 110, 116, 101, 103, 101, 114], 1, [[98, 111, 120], [119, 97, 121], [115, 105, 103, 110]],
 (.cons (.par [1, 2] (.cons (.call f__law_take (.cons (.var 0) (.cons (.lit (.int 10)) .nil))) (.cons (.bin .sub (.lit (.int 1)) (.bin .mul (.lit (.int 2)) (.call f__law_take (.cons (.var 0) (.cons (.lit (.int 2)) .nil))))) .nil)))
 (.cons (.ife (.cmp .lt (.var 1) (.lit (.int 6)))
 (.cons (.ret (.bin .mul (.var 2) (.call f__law_take (.cons (.var 0) (.cons (.lit (.int 13)) .nil)))))
 .nil)
 .nil)
 (.cons (.ife (.cmp .lt (.var 1) (.lit (.int 8)))
 (.cons (.ret (.bin .mul (.var 2) (.call f__law_take (.cons (.var 0) (.cons (.bin .pow (.lit (.int 10)) (.lit (.int 7))) .nil)))))
 .nil)
 .nil)
 (.cons (.ife (.cmp .eq (.var 1) (.lit (.int 8)))
 (.cons (.ret (.bin .mul (.var 2) (.bin .sub (.bin .sub (.bin .pow (.lit (.int 10)) (.lit (.int 20))) (.lit (.int 1))) (.call f__law_take (.cons (.var 0) (.cons (.lit (.int 50)) .nil))))))
 .nil)
 .nil)
 (.cons (.ret (.bin .mul (.var 2) (.bin .add (.bin .mul (.call f__law_take (.cons (.var 0) (.cons (.bin .pow (.lit (.int 10)) (.lit (.int 9))) .nil))) (.bin .pow (.lit (.int 10)) (.lit (.int 10)))) (.call f__law_take (.cons (.var 0) (.cons (.bin .pow (.lit (.int 10)) (.lit (.int 9))) .nil))))))
 .nil)))))⟩
def d__law_any_number : Df := ⟨[95, 108, 97, 119, 95, 97, 110, 121, 95, 110, 117, 109, 98, 101, 114], 1, [[98, 111, 120], [98, 97, 115, 101]],
 (.cons (.asg 1 (.bi .abs (.cons (.call f__law_integer (.cons (.var 0) .nil)) .nil)))
 (.cons (.ret (.call f__law_low (.cons (.call f__law_integer (.cons (.var 0) .nil)) (.cons (.ite (.cmp .gt (.var 1) (.lit (.int 0))) (.var 1) (.lit (.int 1))) .nil))))
 .nil))⟩
def d__law_no_number : Df := ⟨[95, 108, 97, 119, 95, 110, 111, 95, 110, 117, 109, 98, 101, 114], 1, [[98, 111, 120], [116, 111, 112], [98, 97, 115, 101], [108, 111, 116, 115]],
 (.cons (.par [1, 2] (.cons (.bin .add (.call f__law_take (.cons (.var 0) (.cons (.lit (.int 5)) .nil))) (.lit (.int 1))) (.cons (.bin .add (.bin .mul (.lit (.int 2)) (.call f__law_take (.cons (.var 0) (.cons (.lit (.int 3)) .nil)))) (.lit (.int 2))) .nil)))
 (.cons (.asg 3 (.lst (.cons (.lit .non) (.cons (.var 1) (.cons (.lit (.str [49, 47, 50])) (.cons (.tup (.cons (.var 1) (.cons (.lit (.int 0)) .nil))) (.cons (.tup (.cons (.var 2) (.cons (.bin .mul (.lit (.int 2)) (.var 2)) .nil))) (.cons (.tup (.cons (.var 1) (.cons (.bin .sub (.lit (.int 0)) (.var 2)) .nil))) (.cons (.tup (.cons (.lit (.bl true)) (.cons (.var 2) .nil))) (.cons (.tup (.cons (.var 1) (.cons (.lit (.bl true)) .nil))) (.cons (.lst (.cons (.lit (.int 1)) (.cons (.var 2) .nil))) (.cons (.tup (.cons (.lit (.int 1)) .nil)) .nil))))))))))))
 (.cons (.ret (.idx (.bin .add (.var 3) (.lst (.cons (.tup (.cons (.lit (.int 1)) (.cons (.var 2) (.cons (.lit (.int 1)) .nil)))) (.cons (.tup (.cons (.lit (.int 0)) (.cons (.var 2) .nil))) (.cons (.tup (.cons (.lit (.str [49])) (.cons (.var 2) .nil))) (.cons (.tup (.cons (.lit (.int 1)) (.cons (.lit (.str [50])) .nil))) (.cons (.tup .nil) (.cons .dct0 (.cons (.lit (.bl false)) (.cons (.tup (.cons (.tup (.cons (.lit (.int 1)) (.cons (.lit (.int 2)) .nil))) (.cons (.tup (.cons (.lit (.int 1)) (.cons (.lit (.int 1)) .nil))) .nil))) (.cons (.tup (.cons (.lit .non) (.cons (.lit (.int 1)) .nil))) (.cons (.tup (.cons (.lit (.int 1)) (.cons (.lit .non) .nil))) .nil)))))))))))) (.call f__law_take (.cons (.var 0) (.cons (.lit (.int 20)) .nil)))))
 .nil)))⟩
def d__law_asked : Df := ⟨[95, 108, 97, 119, 95, 97, 115, 107, 101, 100], 3, [[119, 111, 114, 100], [97, 114, 103, 115], [98, 121, 95, 110, 97, 109, 101], [101]],
 (.cons (.try_ (.cons (.ife (.cmp .eq (.var 0) (.lit (.str [102, 114, 97, 99, 116, 105, 111, 110])))
 (.cons (.ret (.lst (.cons (.lit (.str [116, 111, 108, 100])) (.cons (.ite (.var 2) (.callk f_fraction [1, 0] [[98, 97, 115, 101], [116, 111, 112]] (.cons (.idx (.var 1) (.lit (.int 1))) (.cons (.idx (.var 1) (.lit (.int 0))) .nil))) (.call f_fraction (.cons (.idx (.var 1) (.lit (.int 0))) (.cons (.idx (.var 1) (.lit (.int 1))) .nil)))) .nil))))
 .nil)
 .nil)
 (.cons (.ife (.cmp .eq (.var 0) (.lit (.str [97, 100, 100])))
 (.cons (.ret (.lst (.cons (.lit (.str [116, 111, 108, 100])) (.cons (.ite (.var 2) (.callk f_add [1, 0] [[111, 116, 104, 101, 114], [111, 110, 101]] (.cons (.idx (.var 1) (.lit (.int 1))) (.cons (.idx (.var 1) (.lit (.int 0))) .nil))) (.call f_add (.cons (.idx (.var 1) (.lit (.int 0))) (.cons (.idx (.var 1) (.lit (.int 1))) .nil)))) .nil))))
 .nil)
 .nil)
 (.cons (.ife (.cmp .eq (.var 0) (.lit (.str [115, 117, 98, 116, 114, 97, 99, 116])))
 (.cons (.ret (.lst (.cons (.lit (.str [116, 111, 108, 100])) (.cons (.ite (.var 2) (.callk f_subtract [1, 0] [[111, 116, 104, 101, 114], [111, 110, 101]] (.cons (.idx (.var 1) (.lit (.int 1))) (.cons (.idx (.var 1) (.lit (.int 0))) .nil))) (.call f_subtract (.cons (.idx (.var 1) (.lit (.int 0))) (.cons (.idx (.var 1) (.lit (.int 1))) .nil)))) .nil))))
 .nil)
 .nil)
 (.cons (.ife (.cmp .eq (.var 0) (.lit (.str [109, 117, 108, 116, 105, 112, 108, 121])))
 (.cons (.ret (.lst (.cons (.lit (.str [116, 111, 108, 100])) (.cons (.ite (.var 2) (.callk f_multiply [1, 0] [[111, 116, 104, 101, 114], [111, 110, 101]] (.cons (.idx (.var 1) (.lit (.int 1))) (.cons (.idx (.var 1) (.lit (.int 0))) .nil))) (.call f_multiply (.cons (.idx (.var 1) (.lit (.int 0))) (.cons (.idx (.var 1) (.lit (.int 1))) .nil)))) .nil))))
 .nil)
 .nil)
 (.cons (.ife (.cmp .eq (.var 0) (.lit (.str [100, 105, 118, 105, 100, 101])))
 (.cons (.ret (.lst (.cons (.lit (.str [116, 111, 108, 100])) (.cons (.ite (.var 2) (.callk f_divide [1, 0] [[111, 116, 104, 101, 114], [111, 110, 101]] (.cons (.idx (.var 1) (.lit (.int 1))) (.cons (.idx (.var 1) (.lit (.int 0))) .nil))) (.call f_divide (.cons (.idx (.var 1) (.lit (.int 0))) (.cons (.idx (.var 1) (.lit (.int 1))) .nil)))) .nil))))
 .nil)
 .nil)
 (.cons (.ife (.cmp .eq (.var 0) (.lit (.str [99, 111, 109, 112, 97, 114, 101])))
 (.cons (.ret (.lst (.cons (.lit (.str [116, 111, 108, 100])) (.cons (.ite (.var 2) (.callk f_compare [1, 0] [[111, 116, 104, 101, 114], [111, 110, 101]] (.cons (.idx (.var 1) (.lit (.int 1))) (.cons (.idx (.var 1) (.lit (.int 0))) .nil))) (.call f_compare (.cons (.idx (.var 1) (.lit (.int 0))) (.cons (.idx (.var 1) (.lit (.int 1))) .nil)))) .nil))))
 .nil)
 .nil)
 (.cons (.ret (.lst (.cons (.lit (.str [116, 111, 108, 100])) (.cons (.ite (.var 2) (.callk f_is_number [0] [[118, 97, 108, 117, 101]] (.cons (.idx (.var 1) (.lit (.int 0))) .nil)) (.call f_is_number (.cons (.idx (.var 1) (.lit (.int 0))) .nil))) .nil))))
 .nil))))))) [(.lst c_InvalidTop (some 3) [(.lit (.str [116, 111, 112])), (.attr [103, 105, 118, 101, 110])]), (.lst c_InvalidBase (some 3) [(.lit (.str [98, 97, 115, 101])), (.attr [103, 105, 118, 101, 110])]), (.lst c_InvalidNumber (some 3) [(.lit (.str [110, 117, 109, 98, 101, 114])), (.attr [103, 105, 118, 101, 110])]), (.lst c_ZeroNumber none [(.lit (.str [122, 101, 114, 111])), (.lit .non)]), (.lst c_LookError none [(.lit (.str [101, 108, 115, 101])), (.lit .non)])])
 .nil)⟩
def d__law_rows_right : Df := ⟨[95, 108, 97, 119, 95, 114, 111, 119, 115, 95, 114, 105, 103, 104, 116], 2, [[114, 111, 119, 115], [98, 121, 95, 110, 97, 109, 101], [119, 111, 114, 100], [97, 114, 103, 115], [100, 117, 101]],
 (.cons (.fr (.tp [(.nm 2), (.nm 3), (.nm 4)]) (.val (.var 0))
 (.cons (.ife (.not (.call f__law_met (.cons (.call f__law_asked (.cons (.var 2) (.cons (.var 3) (.cons (.var 1) .nil)))) (.cons (.var 4) .nil))))
 (.cons (.ret (.lit (.bl false)))
 .nil)
 .nil)
 (.cons (.asg 1 (.not (.var 1)))
 .nil)))
 (.cons (.ret (.lit (.bl true)))
 .nil))⟩
def d__law_fractions_right : Df := ⟨[95, 108, 97, 119, 95, 102, 114, 97, 99, 116, 105, 111, 110, 115, 95, 114, 105, 103, 104, 116], 2, [[98, 111, 120], [98, 121, 95, 110, 97, 109, 101], [114, 111, 119, 115], [116, 117, 114, 110], [102, 97, 99, 116, 111, 114], [116, 111, 112], [98, 97, 115, 101], [100, 117, 101], [119, 114, 111, 110, 103], [118, 97, 108, 117, 101]],
 (.cons (.asg 2 (.lst .nil))
 (.cons (.fr (.nm 3) (.rng1 (.lit (.int 4)))
 (.cons (.asg 4 (.idxl (.cons (.lit (.int 1)) (.cons (.lit (.int 1)) (.cons (.lit (.int 2)) (.cons (.lit (.int 6)) (.cons (.neg (.lit (.int 1))) (.cons (.neg (.lit (.int 12))) (.cons (.bin .pow (.lit (.int 10)) (.lit (.int 4))) .nil))))))) (.call f__law_take (.cons (.var 0) (.cons (.lit (.int 7)) .nil)))))
 (.cons (.par [5, 6] (.cons (.call f__law_integer (.cons (.var 0) .nil)) (.cons (.ite (.cmp .eq (.call f__law_take (.cons (.var 0) (.cons (.lit (.int 3)) .nil))) (.lit (.int 0))) (.bin .add (.bin .mul (.call f__law_take (.cons (.var 0) (.cons (.bin .pow (.lit (.int 10)) (.lit (.int 6))) .nil))) (.lit (.int 997))) (.lit (.int 1))) (.bin .add (.lit (.int 1)) (.call f__law_take (.cons (.var 0) (.cons (.lit (.int 12)) .nil))))) .nil)))
 (.cons (.asg 5 (.ite (.cmp .lt (.bi .abs (.cons (.var 5) .nil)) (.bin .pow (.lit (.int 10)) (.lit (.int 15)))) (.var 5) (.bin .fdiv (.var 5) (.var 4))))
 (.cons (.asg 7 (.ite (.cmp .lt (.bi .abs (.cons (.bin .mul (.var 5) (.var 4)) .nil)) (.bin .pow (.lit (.int 10)) (.lit (.int 20)))) (.call f__law_low (.cons (.bin .mul (.var 5) (.var 4)) (.cons (.bin .mul (.var 6) (.var 4)) .nil))) (.lit .non)))
 (.cons (.ife (.cmp .isnot (.var 7) (.lit .non))
 (.cons (.expr (.app (.var 2) (.tup (.cons (.lit (.str [102, 114, 97, 99, 116, 105, 111, 110])) (.cons (.lst (.cons (.bin .mul (.var 5) (.var 4)) (.cons (.bin .mul (.var 6) (.var 4)) .nil))) (.cons (.lst (.cons (.lit (.str [116, 111, 108, 100])) (.cons (.var 7) .nil))) .nil))))))
 (.cons (.expr (.app (.var 2) (.tup (.cons (.lit (.str [110, 117, 109, 98, 101, 114])) (.cons (.lst (.cons (.var 7) .nil)) (.cons (.lst (.cons (.lit (.str [116, 111, 108, 100])) (.cons (.lit (.bl true)) .nil))) .nil))))))
 (.cons (.expr (.app (.var 2) (.tup (.cons (.lit (.str [110, 117, 109, 98, 101, 114])) (.cons (.lst (.cons (.tup (.cons (.bin .mul (.var 5) (.var 4)) (.cons (.bin .mul (.var 6) (.var 4)) .nil))) .nil)) (.cons (.lst (.cons (.lit (.str [116, 111, 108, 100])) (.cons (.cmp .eq (.var 7) (.tup (.cons (.bin .mul (.var 5) (.var 4)) (.cons (.bin .mul (.var 6) (.var 4)) .nil)))) .nil))) .nil))))))
 .nil)))
 .nil)
 .nil))))))
 (.cons (.asg 8 (.lst (.cons (.lit .non) (.cons (.lit (.bl true)) (.cons (.lit (.bl false)) (.cons (.lit (.str [51])) (.cons (.tup (.cons (.lit (.int 1)) (.cons (.lit (.int 2)) .nil))) (.cons (.lst (.cons (.lit (.int 3)) .nil)) (.cons .dct0 (.cons (.tup (.cons (.lit (.int 3)) .nil)) .nil))))))))))
 (.cons (.par [5, 6] (.cons (.idx (.var 8) (.call f__law_take (.cons (.var 0) (.cons (.lit (.int 8)) .nil)))) (.cons (.idxl (.cons (.lit (.int 0)) (.cons (.lit .non) (.cons (.lit (.bl true)) (.cons (.lit (.bl false)) (.cons (.lit (.str [49])) (.cons (.tup (.cons (.lit (.int 1)) .nil)) (.cons (.lst (.cons (.lit (.int 2)) .nil)) (.cons (.tup (.cons (.lit (.int 1)) (.cons (.lit (.int 1)) .nil))) .nil)))))))) (.call f__law_take (.cons (.var 0) (.cons (.lit (.int 8)) .nil)))) .nil)))
 (.cons (.expr (.app (.var 2) (.tup (.cons (.lit (.str [102, 114, 97, 99, 116, 105, 111, 110])) (.cons (.lst (.cons (.var 5) (.cons (.ite (.cmp .eq (.call f__law_take (.cons (.var 0) (.cons (.lit (.int 2)) .nil))) (.lit (.int 0))) (.var 6) (.lit (.int 5))) .nil))) (.cons (.lst (.cons (.lit (.str [116, 111, 112])) (.cons (.var 5) .nil))) .nil))))))
 (.cons (.expr (.app (.var 2) (.tup (.cons (.lit (.str [102, 114, 97, 99, 116, 105, 111, 110])) (.cons (.lst (.cons (.call f__law_integer (.cons (.var 0) .nil)) (.cons (.var 6) .nil))) (.cons (.lst (.cons (.lit (.str [98, 97, 115, 101])) (.cons (.var 6) .nil))) .nil))))))
 (.cons (.asg 9 (.call f__law_no_number (.cons (.var 0) .nil)))
 (.cons (.ret (.call f__law_rows_right (.cons (.bin .add (.var 2) (.lst (.cons (.tup (.cons (.lit (.str [110, 117, 109, 98, 101, 114])) (.cons (.lst (.cons (.var 9) .nil)) (.cons (.lst (.cons (.lit (.str [116, 111, 108, 100])) (.cons (.lit (.bl false)) .nil))) .nil)))) (.cons (.tup (.cons (.lit (.str [110, 117, 109, 98, 101, 114])) (.cons (.lst (.cons (.bi .list (.cons (.call f__law_any_number (.cons (.var 0) .nil)) .nil)) .nil)) (.cons (.lst (.cons (.lit (.str [116, 111, 108, 100])) (.cons (.lit (.bl false)) .nil))) .nil)))) .nil)))) (.cons (.var 1) .nil))))
 .nil))))))))⟩
def d__law_sums_right : Df := ⟨[95, 108, 97, 119, 95, 115, 117, 109, 115, 95, 114, 105, 103, 104, 116], 2, [[98, 111, 120], [98, 121, 95, 110, 97, 109, 101], [111, 110, 101], [119, 97, 121], [111, 116, 104, 101, 114], [114, 111, 119, 115], [102, 105, 114, 115, 116], [115, 101, 99, 111, 110, 100], [103, 97, 112], [100, 117, 101]],
 (.cons (.par [2, 3] (.cons (.call f__law_any_number (.cons (.var 0) .nil)) (.cons (.call f__law_take (.cons (.var 0) (.cons (.lit (.int 6)) .nil))) .nil)))
 (.cons (.asg 4 (.idxl (.cons (.call f__law_any_number (.cons (.var 0) .nil)) (.cons (.call f__law_any_number (.cons (.var 0) .nil)) (.cons (.var 2) (.cons (.call f__law_minus (.cons (.var 2) .nil)) (.cons (.tup (.cons (.lit (.int 0)) (.cons (.lit (.int 1)) .nil))) (.cons (.call f__law_number (.cons (.var 0) .nil)) .nil)))))) (.var 3)))
 (.cons (.asg 5 (.lst .nil))
 (.cons (.fr (.tp [(.nm 6), (.nm 7)]) (.lst (.cons (.tup (.cons (.var 2) (.cons (.var 4) .nil))) (.cons (.tup (.cons (.var 4) (.cons (.var 2) .nil))) .nil)))
 (.cons (.asg 8 (.bin .sub (.bin .mul (.idx (.var 6) (.lit (.int 0))) (.idx (.var 7) (.lit (.int 1)))) (.bin .mul (.idx (.var 7) (.lit (.int 0))) (.idx (.var 6) (.lit (.int 1))))))
 (.cons (.asg 5 (.bin .add (.var 5) (.lst (.cons (.tup (.cons (.lit (.str [97, 100, 100])) (.cons (.lst (.cons (.var 6) (.cons (.var 7) .nil))) (.cons (.lst (.cons (.lit (.str [116, 111, 108, 100])) (.cons (.call f__law_plus (.cons (.var 6) (.cons (.var 7) .nil))) .nil))) .nil)))) (.cons (.tup (.cons (.lit (.str [115, 117, 98, 116, 114, 97, 99, 116])) (.cons (.lst (.cons (.var 6) (.cons (.var 7) .nil))) (.cons (.lst (.cons (.lit (.str [116, 111, 108, 100])) (.cons (.call f__law_plus (.cons (.var 6) (.cons (.call f__law_minus (.cons (.var 7) .nil)) .nil))) .nil))) .nil)))) .nil)))))
 (.cons (.asg 5 (.bin .add (.var 5) (.lst (.cons (.tup (.cons (.lit (.str [109, 117, 108, 116, 105, 112, 108, 121])) (.cons (.lst (.cons (.var 6) (.cons (.var 7) .nil))) (.cons (.lst (.cons (.lit (.str [116, 111, 108, 100])) (.cons (.call f__law_times (.cons (.var 6) (.cons (.var 7) .nil))) .nil))) .nil)))) (.cons (.tup (.cons (.lit (.str [99, 111, 109, 112, 97, 114, 101])) (.cons (.lst (.cons (.var 6) (.cons (.var 7) .nil))) (.cons (.lst (.cons (.lit (.str [116, 111, 108, 100])) (.cons (.ite (.cmp .gt (.var 8) (.lit (.int 0))) (.lit (.int 1)) (.ite (.cmp .lt (.var 8) (.lit (.int 0))) (.neg (.lit (.int 1))) (.lit (.int 0)))) .nil))) .nil)))) .nil)))))
 (.cons (.asg 9 (.ite (.cmp .eq (.idx (.var 7) (.lit (.int 0))) (.lit (.int 0))) (.lst (.cons (.lit (.str [122, 101, 114, 111])) (.cons (.lit .non) .nil))) (.lst (.cons (.lit (.str [116, 111, 108, 100])) (.cons (.call f__law_low (.cons (.bin .mul (.idx (.var 6) (.lit (.int 0))) (.idx (.var 7) (.lit (.int 1)))) (.cons (.bin .mul (.idx (.var 6) (.lit (.int 1))) (.idx (.var 7) (.lit (.int 0)))) .nil))) .nil)))))
 (.cons (.expr (.app (.var 5) (.tup (.cons (.lit (.str [100, 105, 118, 105, 100, 101])) (.cons (.lst (.cons (.var 6) (.cons (.var 7) .nil))) (.cons (.var 9) .nil))))))
 .nil))))))
 (.cons (.ret (.call f__law_rows_right (.cons (.var 5) (.cons (.var 1) .nil))))
 .nil)))))⟩
def d__law_refused_right : Df := ⟨[95, 108, 97, 119, 95, 114, 101, 102, 117, 115, 101, 100, 95, 114, 105, 103, 104, 116], 2, [[98, 111, 120], [98, 121, 95, 110, 97, 109, 101], [114, 111, 119, 115], [119, 111, 114, 100], [118, 97, 108, 117, 101], [110, 117, 109, 98, 101, 114], [111, 116, 104, 101, 114]],
 (.cons (.asg 2 (.lst .nil))
 (.cons (.fr (.nm 3) (.lst (.cons (.lit (.str [97, 100, 100])) (.cons (.lit (.str [115, 117, 98, 116, 114, 97, 99, 116])) (.cons (.lit (.str [109, 117, 108, 116, 105, 112, 108, 121])) (.cons (.lit (.str [100, 105, 118, 105, 100, 101])) (.cons (.lit (.str [99, 111, 109, 112, 97, 114, 101])) .nil))))))
 (.cons (.par [4, 5] (.cons (.call f__law_no_number (.cons (.var 0) .nil)) (.cons (.call f__law_any_number (.cons (.var 0) .nil)) .nil)))
 (.cons (.asg 6 (.idxl (.cons (.var 5) (.cons (.tup (.cons (.lit (.int 0)) (.cons (.lit (.int 1)) .nil))) (.cons (.call f__law_no_number (.cons (.var 0) .nil)) .nil))) (.call f__law_take (.cons (.var 0) (.cons (.lit (.int 3)) .nil)))))
 (.cons (.asg 2 (.bin .add (.var 2) (.lst (.cons (.tup (.cons (.var 3) (.cons (.lst (.cons (.var 4) (.cons (.var 6) .nil))) (.cons (.lst (.cons (.lit (.str [110, 117, 109, 98, 101, 114])) (.cons (.var 4) .nil))) .nil)))) (.cons (.tup (.cons (.var 3) (.cons (.lst (.cons (.var 5) (.cons (.call f__law_copy (.cons (.var 4) .nil)) .nil))) (.cons (.lit .non) .nil)))) .nil)))))
 (.cons (.setI (.var 2) (.neg (.lit (.int 1))) (.tup (.cons (.var 3) (.cons (.idx (.idx (.var 2) (.neg (.lit (.int 1)))) (.lit (.int 1))) (.cons (.lst (.cons (.lit (.str [110, 117, 109, 98, 101, 114])) (.cons (.idx (.idx (.idx (.var 2) (.neg (.lit (.int 1)))) (.lit (.int 1))) (.lit (.int 1))) .nil))) .nil)))))
 .nil)))))
 (.cons (.ret (.call f__law_rows_right (.cons (.var 2) (.cons (.var 1) .nil))))
 .nil)))⟩
def d_law : Df := ⟨[108, 97, 119], 1, [[115, 99, 114, 105, 112, 116], [107], [98, 111, 120], [98, 121, 95, 110, 97, 109, 101]],
 (.cons (.fr (.nm 1) (.rng1 (.bi .max (.cons (.lit (.int 2)) (.cons (.bi .min (.cons (.lit (.int 3)) (.cons (.bi .len (.cons (.var 0) .nil)) .nil))) .nil))))
 (.cons (.asg 2 (.call f__law_box (.cons (.call f__law_cell (.cons (.var 0) (.cons (.var 1) .nil))) .nil)))
 (.cons (.asg 3 (.cmp .eq (.call f__law_take (.cons (.var 2) (.cons (.lit (.int 2)) .nil))) (.lit (.int 0))))
 (.cons (.ife (.or (.not (.call f__law_fractions_right (.cons (.var 2) (.cons (.var 3) .nil)))) (.not (.call f__law_sums_right (.cons (.var 2) (.cons (.not (.var 3)) .nil)))))
 (.cons (.ret (.lit (.bl false)))
 .nil)
 .nil)
 (.cons (.ife (.or (.not (.call f__law_refused_right (.cons (.var 2) (.cons (.var 3) .nil)))) (.not (.call f__law_sums_right (.cons (.var 2) (.cons (.var 3) .nil)))))
 (.cons (.ret (.lit (.bl false)))
 .nil)
 .nil)
 .nil)))))
 (.cons (.ret (.lit (.bl true)))
 .nil))⟩
def T : List Df := [d_is_integer, d_is_tuple, d_divisor, d_lowest, d_fraction, d_is_number, d_check_number, d_check_two, d_sum_of, d_less_of, d_product_of, d_share_of, d_sign_between, d_add, d_subtract, d_multiply, d_divide, d_compare, d__law_cell, d__law_box, d__law_take, d__law_low, d__law_plus, d__law_times, d__law_minus, d__law_number, d__law_same, d__law_copy, d__law_blamed, d__law_met, d__law_integer, d__law_any_number, d__law_no_number, d__law_asked, d__law_rows_right, d__law_fractions_right, d__law_sums_right, d__law_refused_right, d_law]
def G : Glo where
  T := T
  cons := []
  kws := [(f_is_number, [0], [[118, 97, 108, 117, 101]]), (f_fraction, [1, 0], [[98, 97, 115, 101], [116, 111, 112]]), (f_add, [1, 0], [[111, 116, 104, 101, 114], [111, 110, 101]]), (f_subtract, [1, 0], [[111, 116, 104, 101, 114], [111, 110, 101]]), (f_multiply, [1, 0], [[111, 116, 104, 101, 114], [111, 110, 101]]), (f_divide, [1, 0], [[111, 116, 104, 101, 114], [111, 110, 101]]), (f_compare, [1, 0], [[111, 116, 104, 101, 114], [111, 110, 101]])]
  cls := [[76, 111, 111, 107, 69, 114, 114, 111, 114], [73, 110, 118, 97, 108, 105, 100, 66, 97, 115, 101], [73, 110, 118, 97, 108, 105, 100, 78, 117, 109, 98, 101, 114], [73, 110, 118, 97, 108, 105, 100, 84, 111, 112], [90, 101, 114, 111, 78, 117, 109, 98, 101, 114]]
  flds := [[103, 105, 118, 101, 110]]
  exs := [(c_InvalidBase, [[103, 105, 118, 101, 110]]), (c_InvalidNumber, [[103, 105, 118, 101, 110]]), (c_InvalidTop, [[103, 105, 118, 101, 110]]), (c_ZeroNumber, [])]
  sub := fun c d => c == d || d == 0
def top (i : Nat) : Stmt := PySem.Challenge.pw_eightlooks_k00_fractions.main.body.getD i (.Pass ⟨0, 0, 0, 0⟩)
theorem ok_is_integer : okDf G d_is_integer (top 8) = true := by decide +kernel
theorem bi_is_integer : BindOk d_is_integer (top 8) := fun _ _ _ _ _ _ us hl => match us, hl with | [_], _ => rfl
theorem kw_is_integer : KwsOk G f_is_integer d_is_integer (top 8) := List.forall_mem_cons.mpr ⟨fun h => absurd h (by decide), List.forall_mem_cons.mpr ⟨fun h => absurd h (by decide), List.forall_mem_cons.mpr ⟨fun h => absurd h (by decide), List.forall_mem_cons.mpr ⟨fun h => absurd h (by decide), List.forall_mem_cons.mpr ⟨fun h => absurd h (by decide), List.forall_mem_cons.mpr ⟨fun h => absurd h (by decide), List.forall_mem_cons.mpr ⟨fun h => absurd h (by decide), fun _ h => absurd h (by simp)⟩⟩⟩⟩⟩⟩⟩
theorem ok_is_tuple : okDf G d_is_tuple (top 9) = true := by decide +kernel
theorem bi_is_tuple : BindOk d_is_tuple (top 9) := fun _ _ _ _ _ _ us hl => match us, hl with | [_, _], _ => rfl
theorem kw_is_tuple : KwsOk G f_is_tuple d_is_tuple (top 9) := List.forall_mem_cons.mpr ⟨fun h => absurd h (by decide), List.forall_mem_cons.mpr ⟨fun h => absurd h (by decide), List.forall_mem_cons.mpr ⟨fun h => absurd h (by decide), List.forall_mem_cons.mpr ⟨fun h => absurd h (by decide), List.forall_mem_cons.mpr ⟨fun h => absurd h (by decide), List.forall_mem_cons.mpr ⟨fun h => absurd h (by decide), List.forall_mem_cons.mpr ⟨fun h => absurd h (by decide), fun _ h => absurd h (by simp)⟩⟩⟩⟩⟩⟩⟩
theorem ok_divisor : okDf G d_divisor (top 10) = true := by decide +kernel
theorem bi_divisor : BindOk d_divisor (top 10) := fun _ _ _ _ _ _ us hl => match us, hl with | [_, _], _ => rfl
theorem kw_divisor : KwsOk G f_divisor d_divisor (top 10) := List.forall_mem_cons.mpr ⟨fun h => absurd h (by decide), List.forall_mem_cons.mpr ⟨fun h => absurd h (by decide), List.forall_mem_cons.mpr ⟨fun h => absurd h (by decide), List.forall_mem_cons.mpr ⟨fun h => absurd h (by decide), List.forall_mem_cons.mpr ⟨fun h => absurd h (by decide), List.forall_mem_cons.mpr ⟨fun h => absurd h (by decide), List.forall_mem_cons.mpr ⟨fun h => absurd h (by decide), fun _ h => absurd h (by simp)⟩⟩⟩⟩⟩⟩⟩
theorem ok_lowest : okDf G d_lowest (top 12) = true := by decide +kernel
theorem bi_lowest : BindOk d_lowest (top 12) := fun _ _ _ _ _ _ us hl => match us, hl with | [_, _], _ => rfl
theorem kw_lowest : KwsOk G f_lowest d_lowest (top 12) := List.forall_mem_cons.mpr ⟨fun h => absurd h (by decide), List.forall_mem_cons.mpr ⟨fun h => absurd h (by decide), List.forall_mem_cons.mpr ⟨fun h => absurd h (by decide), List.forall_mem_cons.mpr ⟨fun h => absurd h (by decide), List.forall_mem_cons.mpr ⟨fun h => absurd h (by decide), List.forall_mem_cons.mpr ⟨fun h => absurd h (by decide), List.forall_mem_cons.mpr ⟨fun h => absurd h (by decide), fun _ h => absurd h (by simp)⟩⟩⟩⟩⟩⟩⟩
theorem ok_fraction : okDf G d_fraction (top 13) = true := by decide +kernel
theorem bi_fraction : BindOk d_fraction (top 13) := fun _ _ _ _ _ _ us hl => match us, hl with | [_, _], _ => rfl
theorem kw_fraction : KwsOk G f_fraction d_fraction (top 13) := List.forall_mem_cons.mpr ⟨fun h => absurd h (by decide), List.forall_mem_cons.mpr ⟨fun _ => ⟨by decide, fun _ _ _ _ _ _ ws hl => match ws, hl with | [_, _], _ => rfl⟩, List.forall_mem_cons.mpr ⟨fun h => absurd h (by decide), List.forall_mem_cons.mpr ⟨fun h => absurd h (by decide), List.forall_mem_cons.mpr ⟨fun h => absurd h (by decide), List.forall_mem_cons.mpr ⟨fun h => absurd h (by decide), List.forall_mem_cons.mpr ⟨fun h => absurd h (by decide), fun _ h => absurd h (by simp)⟩⟩⟩⟩⟩⟩⟩
theorem ok_is_number : okDf G d_is_number (top 14) = true := by decide +kernel
theorem bi_is_number : BindOk d_is_number (top 14) := fun _ _ _ _ _ _ us hl => match us, hl with | [_], _ => rfl
theorem kw_is_number : KwsOk G f_is_number d_is_number (top 14) := List.forall_mem_cons.mpr ⟨fun _ => ⟨by decide, fun _ _ _ _ _ _ ws hl => match ws, hl with | [_], _ => rfl⟩, List.forall_mem_cons.mpr ⟨fun h => absurd h (by decide), List.forall_mem_cons.mpr ⟨fun h => absurd h (by decide), List.forall_mem_cons.mpr ⟨fun h => absurd h (by decide), List.forall_mem_cons.mpr ⟨fun h => absurd h (by decide), List.forall_mem_cons.mpr ⟨fun h => absurd h (by decide), List.forall_mem_cons.mpr ⟨fun h => absurd h (by decide), fun _ h => absurd h (by simp)⟩⟩⟩⟩⟩⟩⟩
theorem ok_check_number : okDf G d_check_number (top 15) = true := by decide +kernel
theorem bi_check_number : BindOk d_check_number (top 15) := fun _ _ _ _ _ _ us hl => match us, hl with | [_], _ => rfl
theorem kw_check_number : KwsOk G f_check_number d_check_number (top 15) := List.forall_mem_cons.mpr ⟨fun h => absurd h (by decide), List.forall_mem_cons.mpr ⟨fun h => absurd h (by decide), List.forall_mem_cons.mpr ⟨fun h => absurd h (by decide), List.forall_mem_cons.mpr ⟨fun h => absurd h (by decide), List.forall_mem_cons.mpr ⟨fun h => absurd h (by decide), List.forall_mem_cons.mpr ⟨fun h => absurd h (by decide), List.forall_mem_cons.mpr ⟨fun h => absurd h (by decide), fun _ h => absurd h (by simp)⟩⟩⟩⟩⟩⟩⟩
theorem ok_check_two : okDf G d_check_two (top 16) = true := by decide +kernel
theorem bi_check_two : BindOk d_check_two (top 16) := fun _ _ _ _ _ _ us hl => match us, hl with | [_, _], _ => rfl
theorem kw_check_two : KwsOk G f_check_two d_check_two (top 16) := List.forall_mem_cons.mpr ⟨fun h => absurd h (by decide), List.forall_mem_cons.mpr ⟨fun h => absurd h (by decide), List.forall_mem_cons.mpr ⟨fun h => absurd h (by decide), List.forall_mem_cons.mpr ⟨fun h => absurd h (by decide), List.forall_mem_cons.mpr ⟨fun h => absurd h (by decide), List.forall_mem_cons.mpr ⟨fun h => absurd h (by decide), List.forall_mem_cons.mpr ⟨fun h => absurd h (by decide), fun _ h => absurd h (by simp)⟩⟩⟩⟩⟩⟩⟩
theorem ok_sum_of : okDf G d_sum_of (top 17) = true := by decide +kernel
theorem bi_sum_of : BindOk d_sum_of (top 17) := fun _ _ _ _ _ _ us hl => match us, hl with | [_, _], _ => rfl
theorem kw_sum_of : KwsOk G f_sum_of d_sum_of (top 17) := List.forall_mem_cons.mpr ⟨fun h => absurd h (by decide), List.forall_mem_cons.mpr ⟨fun h => absurd h (by decide), List.forall_mem_cons.mpr ⟨fun h => absurd h (by decide), List.forall_mem_cons.mpr ⟨fun h => absurd h (by decide), List.forall_mem_cons.mpr ⟨fun h => absurd h (by decide), List.forall_mem_cons.mpr ⟨fun h => absurd h (by decide), List.forall_mem_cons.mpr ⟨fun h => absurd h (by decide), fun _ h => absurd h (by simp)⟩⟩⟩⟩⟩⟩⟩
theorem ok_less_of : okDf G d_less_of (top 18) = true := by decide +kernel
theorem bi_less_of : BindOk d_less_of (top 18) := fun _ _ _ _ _ _ us hl => match us, hl with | [_, _], _ => rfl
theorem kw_less_of : KwsOk G f_less_of d_less_of (top 18) := List.forall_mem_cons.mpr ⟨fun h => absurd h (by decide), List.forall_mem_cons.mpr ⟨fun h => absurd h (by decide), List.forall_mem_cons.mpr ⟨fun h => absurd h (by decide), List.forall_mem_cons.mpr ⟨fun h => absurd h (by decide), List.forall_mem_cons.mpr ⟨fun h => absurd h (by decide), List.forall_mem_cons.mpr ⟨fun h => absurd h (by decide), List.forall_mem_cons.mpr ⟨fun h => absurd h (by decide), fun _ h => absurd h (by simp)⟩⟩⟩⟩⟩⟩⟩
theorem ok_product_of : okDf G d_product_of (top 19) = true := by decide +kernel
theorem bi_product_of : BindOk d_product_of (top 19) := fun _ _ _ _ _ _ us hl => match us, hl with | [_, _], _ => rfl
theorem kw_product_of : KwsOk G f_product_of d_product_of (top 19) := List.forall_mem_cons.mpr ⟨fun h => absurd h (by decide), List.forall_mem_cons.mpr ⟨fun h => absurd h (by decide), List.forall_mem_cons.mpr ⟨fun h => absurd h (by decide), List.forall_mem_cons.mpr ⟨fun h => absurd h (by decide), List.forall_mem_cons.mpr ⟨fun h => absurd h (by decide), List.forall_mem_cons.mpr ⟨fun h => absurd h (by decide), List.forall_mem_cons.mpr ⟨fun h => absurd h (by decide), fun _ h => absurd h (by simp)⟩⟩⟩⟩⟩⟩⟩
theorem ok_share_of : okDf G d_share_of (top 20) = true := by decide +kernel
theorem bi_share_of : BindOk d_share_of (top 20) := fun _ _ _ _ _ _ us hl => match us, hl with | [_, _], _ => rfl
theorem kw_share_of : KwsOk G f_share_of d_share_of (top 20) := List.forall_mem_cons.mpr ⟨fun h => absurd h (by decide), List.forall_mem_cons.mpr ⟨fun h => absurd h (by decide), List.forall_mem_cons.mpr ⟨fun h => absurd h (by decide), List.forall_mem_cons.mpr ⟨fun h => absurd h (by decide), List.forall_mem_cons.mpr ⟨fun h => absurd h (by decide), List.forall_mem_cons.mpr ⟨fun h => absurd h (by decide), List.forall_mem_cons.mpr ⟨fun h => absurd h (by decide), fun _ h => absurd h (by simp)⟩⟩⟩⟩⟩⟩⟩
theorem ok_sign_between : okDf G d_sign_between (top 21) = true := by decide +kernel
theorem bi_sign_between : BindOk d_sign_between (top 21) := fun _ _ _ _ _ _ us hl => match us, hl with | [_, _], _ => rfl
theorem kw_sign_between : KwsOk G f_sign_between d_sign_between (top 21) := List.forall_mem_cons.mpr ⟨fun h => absurd h (by decide), List.forall_mem_cons.mpr ⟨fun h => absurd h (by decide), List.forall_mem_cons.mpr ⟨fun h => absurd h (by decide), List.forall_mem_cons.mpr ⟨fun h => absurd h (by decide), List.forall_mem_cons.mpr ⟨fun h => absurd h (by decide), List.forall_mem_cons.mpr ⟨fun h => absurd h (by decide), List.forall_mem_cons.mpr ⟨fun h => absurd h (by decide), fun _ h => absurd h (by simp)⟩⟩⟩⟩⟩⟩⟩
theorem ok_add : okDf G d_add (top 22) = true := by decide +kernel
theorem bi_add : BindOk d_add (top 22) := fun _ _ _ _ _ _ us hl => match us, hl with | [_, _], _ => rfl
theorem kw_add : KwsOk G f_add d_add (top 22) := List.forall_mem_cons.mpr ⟨fun h => absurd h (by decide), List.forall_mem_cons.mpr ⟨fun h => absurd h (by decide), List.forall_mem_cons.mpr ⟨fun _ => ⟨by decide, fun _ _ _ _ _ _ ws hl => match ws, hl with | [_, _], _ => rfl⟩, List.forall_mem_cons.mpr ⟨fun h => absurd h (by decide), List.forall_mem_cons.mpr ⟨fun h => absurd h (by decide), List.forall_mem_cons.mpr ⟨fun h => absurd h (by decide), List.forall_mem_cons.mpr ⟨fun h => absurd h (by decide), fun _ h => absurd h (by simp)⟩⟩⟩⟩⟩⟩⟩
theorem ok_subtract : okDf G d_subtract (top 23) = true := by decide +kernel
theorem bi_subtract : BindOk d_subtract (top 23) := fun _ _ _ _ _ _ us hl => match us, hl with | [_, _], _ => rfl
theorem kw_subtract : KwsOk G f_subtract d_subtract (top 23) := List.forall_mem_cons.mpr ⟨fun h => absurd h (by decide), List.forall_mem_cons.mpr ⟨fun h => absurd h (by decide), List.forall_mem_cons.mpr ⟨fun h => absurd h (by decide), List.forall_mem_cons.mpr ⟨fun _ => ⟨by decide, fun _ _ _ _ _ _ ws hl => match ws, hl with | [_, _], _ => rfl⟩, List.forall_mem_cons.mpr ⟨fun h => absurd h (by decide), List.forall_mem_cons.mpr ⟨fun h => absurd h (by decide), List.forall_mem_cons.mpr ⟨fun h => absurd h (by decide), fun _ h => absurd h (by simp)⟩⟩⟩⟩⟩⟩⟩
theorem ok_multiply : okDf G d_multiply (top 24) = true := by decide +kernel
theorem bi_multiply : BindOk d_multiply (top 24) := fun _ _ _ _ _ _ us hl => match us, hl with | [_, _], _ => rfl
theorem kw_multiply : KwsOk G f_multiply d_multiply (top 24) := List.forall_mem_cons.mpr ⟨fun h => absurd h (by decide), List.forall_mem_cons.mpr ⟨fun h => absurd h (by decide), List.forall_mem_cons.mpr ⟨fun h => absurd h (by decide), List.forall_mem_cons.mpr ⟨fun h => absurd h (by decide), List.forall_mem_cons.mpr ⟨fun _ => ⟨by decide, fun _ _ _ _ _ _ ws hl => match ws, hl with | [_, _], _ => rfl⟩, List.forall_mem_cons.mpr ⟨fun h => absurd h (by decide), List.forall_mem_cons.mpr ⟨fun h => absurd h (by decide), fun _ h => absurd h (by simp)⟩⟩⟩⟩⟩⟩⟩
theorem ok_divide : okDf G d_divide (top 25) = true := by decide +kernel
theorem bi_divide : BindOk d_divide (top 25) := fun _ _ _ _ _ _ us hl => match us, hl with | [_, _], _ => rfl
theorem kw_divide : KwsOk G f_divide d_divide (top 25) := List.forall_mem_cons.mpr ⟨fun h => absurd h (by decide), List.forall_mem_cons.mpr ⟨fun h => absurd h (by decide), List.forall_mem_cons.mpr ⟨fun h => absurd h (by decide), List.forall_mem_cons.mpr ⟨fun h => absurd h (by decide), List.forall_mem_cons.mpr ⟨fun h => absurd h (by decide), List.forall_mem_cons.mpr ⟨fun _ => ⟨by decide, fun _ _ _ _ _ _ ws hl => match ws, hl with | [_, _], _ => rfl⟩, List.forall_mem_cons.mpr ⟨fun h => absurd h (by decide), fun _ h => absurd h (by simp)⟩⟩⟩⟩⟩⟩⟩
theorem ok_compare : okDf G d_compare (top 26) = true := by decide +kernel
theorem bi_compare : BindOk d_compare (top 26) := fun _ _ _ _ _ _ us hl => match us, hl with | [_, _], _ => rfl
theorem kw_compare : KwsOk G f_compare d_compare (top 26) := List.forall_mem_cons.mpr ⟨fun h => absurd h (by decide), List.forall_mem_cons.mpr ⟨fun h => absurd h (by decide), List.forall_mem_cons.mpr ⟨fun h => absurd h (by decide), List.forall_mem_cons.mpr ⟨fun h => absurd h (by decide), List.forall_mem_cons.mpr ⟨fun h => absurd h (by decide), List.forall_mem_cons.mpr ⟨fun h => absurd h (by decide), List.forall_mem_cons.mpr ⟨fun _ => ⟨by decide, fun _ _ _ _ _ _ ws hl => match ws, hl with | [_, _], _ => rfl⟩, fun _ h => absurd h (by simp)⟩⟩⟩⟩⟩⟩⟩
theorem ok__law_cell : okDf G d__law_cell (top 28) = true := by decide +kernel
theorem bi__law_cell : BindOk d__law_cell (top 28) := fun _ _ _ _ _ _ us hl => match us, hl with | [_, _], _ => rfl
theorem kw__law_cell : KwsOk G f__law_cell d__law_cell (top 28) := List.forall_mem_cons.mpr ⟨fun h => absurd h (by decide), List.forall_mem_cons.mpr ⟨fun h => absurd h (by decide), List.forall_mem_cons.mpr ⟨fun h => absurd h (by decide), List.forall_mem_cons.mpr ⟨fun h => absurd h (by decide), List.forall_mem_cons.mpr ⟨fun h => absurd h (by decide), List.forall_mem_cons.mpr ⟨fun h => absurd h (by decide), List.forall_mem_cons.mpr ⟨fun h => absurd h (by decide), fun _ h => absurd h (by simp)⟩⟩⟩⟩⟩⟩⟩
theorem ok__law_box : okDf G d__law_box (top 29) = true := by decide +kernel
theorem bi__law_box : BindOk d__law_box (top 29) := fun _ _ _ _ _ _ us hl => match us, hl with | [_], _ => rfl
theorem kw__law_box : KwsOk G f__law_box d__law_box (top 29) := List.forall_mem_cons.mpr ⟨fun h => absurd h (by decide), List.forall_mem_cons.mpr ⟨fun h => absurd h (by decide), List.forall_mem_cons.mpr ⟨fun h => absurd h (by decide), List.forall_mem_cons.mpr ⟨fun h => absurd h (by decide), List.forall_mem_cons.mpr ⟨fun h => absurd h (by decide), List.forall_mem_cons.mpr ⟨fun h => absurd h (by decide), List.forall_mem_cons.mpr ⟨fun h => absurd h (by decide), fun _ h => absurd h (by simp)⟩⟩⟩⟩⟩⟩⟩
theorem ok__law_take : okDf G d__law_take (top 30) = true := by decide +kernel
theorem bi__law_take : BindOk d__law_take (top 30) := fun _ _ _ _ _ _ us hl => match us, hl with | [_, _], _ => rfl
theorem kw__law_take : KwsOk G f__law_take d__law_take (top 30) := List.forall_mem_cons.mpr ⟨fun h => absurd h (by decide), List.forall_mem_cons.mpr ⟨fun h => absurd h (by decide), List.forall_mem_cons.mpr ⟨fun h => absurd h (by decide), List.forall_mem_cons.mpr ⟨fun h => absurd h (by decide), List.forall_mem_cons.mpr ⟨fun h => absurd h (by decide), List.forall_mem_cons.mpr ⟨fun h => absurd h (by decide), List.forall_mem_cons.mpr ⟨fun h => absurd h (by decide), fun _ h => absurd h (by simp)⟩⟩⟩⟩⟩⟩⟩
theorem ok__law_low : okDf G d__law_low (top 31) = true := by decide +kernel
theorem bi__law_low : BindOk d__law_low (top 31) := fun _ _ _ _ _ _ us hl => match us, hl with | [_, _], _ => rfl
theorem kw__law_low : KwsOk G f__law_low d__law_low (top 31) := List.forall_mem_cons.mpr ⟨fun h => absurd h (by decide), List.forall_mem_cons.mpr ⟨fun h => absurd h (by decide), List.forall_mem_cons.mpr ⟨fun h => absurd h (by decide), List.forall_mem_cons.mpr ⟨fun h => absurd h (by decide), List.forall_mem_cons.mpr ⟨fun h => absurd h (by decide), List.forall_mem_cons.mpr ⟨fun h => absurd h (by decide), List.forall_mem_cons.mpr ⟨fun h => absurd h (by decide), fun _ h => absurd h (by simp)⟩⟩⟩⟩⟩⟩⟩
theorem ok__law_plus : okDf G d__law_plus (top 32) = true := by decide +kernel
theorem bi__law_plus : BindOk d__law_plus (top 32) := fun _ _ _ _ _ _ us hl => match us, hl with | [_, _], _ => rfl
theorem kw__law_plus : KwsOk G f__law_plus d__law_plus (top 32) := List.forall_mem_cons.mpr ⟨fun h => absurd h (by decide), List.forall_mem_cons.mpr ⟨fun h => absurd h (by decide), List.forall_mem_cons.mpr ⟨fun h => absurd h (by decide), List.forall_mem_cons.mpr ⟨fun h => absurd h (by decide), List.forall_mem_cons.mpr ⟨fun h => absurd h (by decide), List.forall_mem_cons.mpr ⟨fun h => absurd h (by decide), List.forall_mem_cons.mpr ⟨fun h => absurd h (by decide), fun _ h => absurd h (by simp)⟩⟩⟩⟩⟩⟩⟩
theorem ok__law_times : okDf G d__law_times (top 33) = true := by decide +kernel
theorem bi__law_times : BindOk d__law_times (top 33) := fun _ _ _ _ _ _ us hl => match us, hl with | [_, _], _ => rfl
theorem kw__law_times : KwsOk G f__law_times d__law_times (top 33) := List.forall_mem_cons.mpr ⟨fun h => absurd h (by decide), List.forall_mem_cons.mpr ⟨fun h => absurd h (by decide), List.forall_mem_cons.mpr ⟨fun h => absurd h (by decide), List.forall_mem_cons.mpr ⟨fun h => absurd h (by decide), List.forall_mem_cons.mpr ⟨fun h => absurd h (by decide), List.forall_mem_cons.mpr ⟨fun h => absurd h (by decide), List.forall_mem_cons.mpr ⟨fun h => absurd h (by decide), fun _ h => absurd h (by simp)⟩⟩⟩⟩⟩⟩⟩
theorem ok__law_minus : okDf G d__law_minus (top 34) = true := by decide +kernel
theorem bi__law_minus : BindOk d__law_minus (top 34) := fun _ _ _ _ _ _ us hl => match us, hl with | [_], _ => rfl
theorem kw__law_minus : KwsOk G f__law_minus d__law_minus (top 34) := List.forall_mem_cons.mpr ⟨fun h => absurd h (by decide), List.forall_mem_cons.mpr ⟨fun h => absurd h (by decide), List.forall_mem_cons.mpr ⟨fun h => absurd h (by decide), List.forall_mem_cons.mpr ⟨fun h => absurd h (by decide), List.forall_mem_cons.mpr ⟨fun h => absurd h (by decide), List.forall_mem_cons.mpr ⟨fun h => absurd h (by decide), List.forall_mem_cons.mpr ⟨fun h => absurd h (by decide), fun _ h => absurd h (by simp)⟩⟩⟩⟩⟩⟩⟩
theorem ok__law_number : okDf G d__law_number (top 35) = true := by decide +kernel
theorem bi__law_number : BindOk d__law_number (top 35) := fun _ _ _ _ _ _ us hl => match us, hl with | [_], _ => rfl
theorem kw__law_number : KwsOk G f__law_number d__law_number (top 35) := List.forall_mem_cons.mpr ⟨fun h => absurd h (by decide), List.forall_mem_cons.mpr ⟨fun h => absurd h (by decide), List.forall_mem_cons.mpr ⟨fun h => absurd h (by decide), List.forall_mem_cons.mpr ⟨fun h => absurd h (by decide), List.forall_mem_cons.mpr ⟨fun h => absurd h (by decide), List.forall_mem_cons.mpr ⟨fun h => absurd h (by decide), List.forall_mem_cons.mpr ⟨fun h => absurd h (by decide), fun _ h => absurd h (by simp)⟩⟩⟩⟩⟩⟩⟩
theorem ok__law_same : okDf G d__law_same (top 36) = true := by decide +kernel
theorem bi__law_same : BindOk d__law_same (top 36) := fun _ _ _ _ _ _ us hl => match us, hl with | [_, _], _ => rfl
theorem kw__law_same : KwsOk G f__law_same d__law_same (top 36) := List.forall_mem_cons.mpr ⟨fun h => absurd h (by decide), List.forall_mem_cons.mpr ⟨fun h => absurd h (by decide), List.forall_mem_cons.mpr ⟨fun h => absurd h (by decide), List.forall_mem_cons.mpr ⟨fun h => absurd h (by decide), List.forall_mem_cons.mpr ⟨fun h => absurd h (by decide), List.forall_mem_cons.mpr ⟨fun h => absurd h (by decide), List.forall_mem_cons.mpr ⟨fun h => absurd h (by decide), fun _ h => absurd h (by simp)⟩⟩⟩⟩⟩⟩⟩
theorem ok__law_copy : okDf G d__law_copy (top 37) = true := by decide +kernel
theorem bi__law_copy : BindOk d__law_copy (top 37) := fun _ _ _ _ _ _ us hl => match us, hl with | [_], _ => rfl
theorem kw__law_copy : KwsOk G f__law_copy d__law_copy (top 37) := List.forall_mem_cons.mpr ⟨fun h => absurd h (by decide), List.forall_mem_cons.mpr ⟨fun h => absurd h (by decide), List.forall_mem_cons.mpr ⟨fun h => absurd h (by decide), List.forall_mem_cons.mpr ⟨fun h => absurd h (by decide), List.forall_mem_cons.mpr ⟨fun h => absurd h (by decide), List.forall_mem_cons.mpr ⟨fun h => absurd h (by decide), List.forall_mem_cons.mpr ⟨fun h => absurd h (by decide), fun _ h => absurd h (by simp)⟩⟩⟩⟩⟩⟩⟩
theorem ok__law_blamed : okDf G d__law_blamed (top 38) = true := by decide +kernel
theorem bi__law_blamed : BindOk d__law_blamed (top 38) := fun _ _ _ _ _ _ us hl => match us, hl with | [_, _], _ => rfl
theorem kw__law_blamed : KwsOk G f__law_blamed d__law_blamed (top 38) := List.forall_mem_cons.mpr ⟨fun h => absurd h (by decide), List.forall_mem_cons.mpr ⟨fun h => absurd h (by decide), List.forall_mem_cons.mpr ⟨fun h => absurd h (by decide), List.forall_mem_cons.mpr ⟨fun h => absurd h (by decide), List.forall_mem_cons.mpr ⟨fun h => absurd h (by decide), List.forall_mem_cons.mpr ⟨fun h => absurd h (by decide), List.forall_mem_cons.mpr ⟨fun h => absurd h (by decide), fun _ h => absurd h (by simp)⟩⟩⟩⟩⟩⟩⟩
theorem ok__law_met : okDf G d__law_met (top 39) = true := by decide +kernel
theorem bi__law_met : BindOk d__law_met (top 39) := fun _ _ _ _ _ _ us hl => match us, hl with | [_, _], _ => rfl
theorem kw__law_met : KwsOk G f__law_met d__law_met (top 39) := List.forall_mem_cons.mpr ⟨fun h => absurd h (by decide), List.forall_mem_cons.mpr ⟨fun h => absurd h (by decide), List.forall_mem_cons.mpr ⟨fun h => absurd h (by decide), List.forall_mem_cons.mpr ⟨fun h => absurd h (by decide), List.forall_mem_cons.mpr ⟨fun h => absurd h (by decide), List.forall_mem_cons.mpr ⟨fun h => absurd h (by decide), List.forall_mem_cons.mpr ⟨fun h => absurd h (by decide), fun _ h => absurd h (by simp)⟩⟩⟩⟩⟩⟩⟩
theorem ok__law_integer : okDf G d__law_integer (top 40) = true := by decide +kernel
theorem bi__law_integer : BindOk d__law_integer (top 40) := fun _ _ _ _ _ _ us hl => match us, hl with | [_], _ => rfl
theorem kw__law_integer : KwsOk G f__law_integer d__law_integer (top 40) := List.forall_mem_cons.mpr ⟨fun h => absurd h (by decide), List.forall_mem_cons.mpr ⟨fun h => absurd h (by decide), List.forall_mem_cons.mpr ⟨fun h => absurd h (by decide), List.forall_mem_cons.mpr ⟨fun h => absurd h (by decide), List.forall_mem_cons.mpr ⟨fun h => absurd h (by decide), List.forall_mem_cons.mpr ⟨fun h => absurd h (by decide), List.forall_mem_cons.mpr ⟨fun h => absurd h (by decide), fun _ h => absurd h (by simp)⟩⟩⟩⟩⟩⟩⟩
theorem ok__law_any_number : okDf G d__law_any_number (top 41) = true := by decide +kernel
theorem bi__law_any_number : BindOk d__law_any_number (top 41) := fun _ _ _ _ _ _ us hl => match us, hl with | [_], _ => rfl
theorem kw__law_any_number : KwsOk G f__law_any_number d__law_any_number (top 41) := List.forall_mem_cons.mpr ⟨fun h => absurd h (by decide), List.forall_mem_cons.mpr ⟨fun h => absurd h (by decide), List.forall_mem_cons.mpr ⟨fun h => absurd h (by decide), List.forall_mem_cons.mpr ⟨fun h => absurd h (by decide), List.forall_mem_cons.mpr ⟨fun h => absurd h (by decide), List.forall_mem_cons.mpr ⟨fun h => absurd h (by decide), List.forall_mem_cons.mpr ⟨fun h => absurd h (by decide), fun _ h => absurd h (by simp)⟩⟩⟩⟩⟩⟩⟩
theorem ok__law_no_number : okDf G d__law_no_number (top 42) = true := by decide +kernel
theorem bi__law_no_number : BindOk d__law_no_number (top 42) := fun _ _ _ _ _ _ us hl => match us, hl with | [_], _ => rfl
theorem kw__law_no_number : KwsOk G f__law_no_number d__law_no_number (top 42) := List.forall_mem_cons.mpr ⟨fun h => absurd h (by decide), List.forall_mem_cons.mpr ⟨fun h => absurd h (by decide), List.forall_mem_cons.mpr ⟨fun h => absurd h (by decide), List.forall_mem_cons.mpr ⟨fun h => absurd h (by decide), List.forall_mem_cons.mpr ⟨fun h => absurd h (by decide), List.forall_mem_cons.mpr ⟨fun h => absurd h (by decide), List.forall_mem_cons.mpr ⟨fun h => absurd h (by decide), fun _ h => absurd h (by simp)⟩⟩⟩⟩⟩⟩⟩
theorem ok__law_asked : okDf G d__law_asked (top 43) = true := by decide +kernel
theorem bi__law_asked : BindOk d__law_asked (top 43) := fun _ _ _ _ _ _ us hl => match us, hl with | [_, _, _], _ => rfl
theorem kw__law_asked : KwsOk G f__law_asked d__law_asked (top 43) := List.forall_mem_cons.mpr ⟨fun h => absurd h (by decide), List.forall_mem_cons.mpr ⟨fun h => absurd h (by decide), List.forall_mem_cons.mpr ⟨fun h => absurd h (by decide), List.forall_mem_cons.mpr ⟨fun h => absurd h (by decide), List.forall_mem_cons.mpr ⟨fun h => absurd h (by decide), List.forall_mem_cons.mpr ⟨fun h => absurd h (by decide), List.forall_mem_cons.mpr ⟨fun h => absurd h (by decide), fun _ h => absurd h (by simp)⟩⟩⟩⟩⟩⟩⟩
theorem ok__law_rows_right : okDf G d__law_rows_right (top 44) = true := by decide +kernel
theorem bi__law_rows_right : BindOk d__law_rows_right (top 44) := fun _ _ _ _ _ _ us hl => match us, hl with | [_, _], _ => rfl
theorem kw__law_rows_right : KwsOk G f__law_rows_right d__law_rows_right (top 44) := List.forall_mem_cons.mpr ⟨fun h => absurd h (by decide), List.forall_mem_cons.mpr ⟨fun h => absurd h (by decide), List.forall_mem_cons.mpr ⟨fun h => absurd h (by decide), List.forall_mem_cons.mpr ⟨fun h => absurd h (by decide), List.forall_mem_cons.mpr ⟨fun h => absurd h (by decide), List.forall_mem_cons.mpr ⟨fun h => absurd h (by decide), List.forall_mem_cons.mpr ⟨fun h => absurd h (by decide), fun _ h => absurd h (by simp)⟩⟩⟩⟩⟩⟩⟩
theorem ok__law_fractions_right : okDf G d__law_fractions_right (top 45) = true := by decide +kernel
theorem bi__law_fractions_right : BindOk d__law_fractions_right (top 45) := fun _ _ _ _ _ _ us hl => match us, hl with | [_, _], _ => rfl
theorem kw__law_fractions_right : KwsOk G f__law_fractions_right d__law_fractions_right (top 45) := List.forall_mem_cons.mpr ⟨fun h => absurd h (by decide), List.forall_mem_cons.mpr ⟨fun h => absurd h (by decide), List.forall_mem_cons.mpr ⟨fun h => absurd h (by decide), List.forall_mem_cons.mpr ⟨fun h => absurd h (by decide), List.forall_mem_cons.mpr ⟨fun h => absurd h (by decide), List.forall_mem_cons.mpr ⟨fun h => absurd h (by decide), List.forall_mem_cons.mpr ⟨fun h => absurd h (by decide), fun _ h => absurd h (by simp)⟩⟩⟩⟩⟩⟩⟩
theorem ok__law_sums_right : okDf G d__law_sums_right (top 46) = true := by decide +kernel
theorem bi__law_sums_right : BindOk d__law_sums_right (top 46) := fun _ _ _ _ _ _ us hl => match us, hl with | [_, _], _ => rfl
theorem kw__law_sums_right : KwsOk G f__law_sums_right d__law_sums_right (top 46) := List.forall_mem_cons.mpr ⟨fun h => absurd h (by decide), List.forall_mem_cons.mpr ⟨fun h => absurd h (by decide), List.forall_mem_cons.mpr ⟨fun h => absurd h (by decide), List.forall_mem_cons.mpr ⟨fun h => absurd h (by decide), List.forall_mem_cons.mpr ⟨fun h => absurd h (by decide), List.forall_mem_cons.mpr ⟨fun h => absurd h (by decide), List.forall_mem_cons.mpr ⟨fun h => absurd h (by decide), fun _ h => absurd h (by simp)⟩⟩⟩⟩⟩⟩⟩
theorem ok__law_refused_right : okDf G d__law_refused_right (top 47) = true := by decide +kernel
theorem bi__law_refused_right : BindOk d__law_refused_right (top 47) := fun _ _ _ _ _ _ us hl => match us, hl with | [_, _], _ => rfl
theorem kw__law_refused_right : KwsOk G f__law_refused_right d__law_refused_right (top 47) := List.forall_mem_cons.mpr ⟨fun h => absurd h (by decide), List.forall_mem_cons.mpr ⟨fun h => absurd h (by decide), List.forall_mem_cons.mpr ⟨fun h => absurd h (by decide), List.forall_mem_cons.mpr ⟨fun h => absurd h (by decide), List.forall_mem_cons.mpr ⟨fun h => absurd h (by decide), List.forall_mem_cons.mpr ⟨fun h => absurd h (by decide), List.forall_mem_cons.mpr ⟨fun h => absurd h (by decide), fun _ h => absurd h (by simp)⟩⟩⟩⟩⟩⟩⟩
theorem ok_law : okDf G d_law (top 48) = true := by decide +kernel
theorem bi_law : BindOk d_law (top 48) := fun _ _ _ _ _ _ us hl => match us, hl with | [_], _ => rfl
theorem kw_law : KwsOk G f_law d_law (top 48) := List.forall_mem_cons.mpr ⟨fun h => absurd h (by decide), List.forall_mem_cons.mpr ⟨fun h => absurd h (by decide), List.forall_mem_cons.mpr ⟨fun h => absurd h (by decide), List.forall_mem_cons.mpr ⟨fun h => absurd h (by decide), List.forall_mem_cons.mpr ⟨fun h => absurd h (by decide), List.forall_mem_cons.mpr ⟨fun h => absurd h (by decide), List.forall_mem_cons.mpr ⟨fun h => absurd h (by decide), fun _ h => absurd h (by simp)⟩⟩⟩⟩⟩⟩⟩
theorem is_InvalidBase : scB ["self", "given"] ["self", "given"] (L2.defScope (L2.inClass (top 2) 0)) = true ∧ okIni ["self", "given"] [[103, 105, 118, 101, 110]] (L2.defScope (L2.inClass (top 2) 0)) (L2.defBody (L2.inClass (top 2) 0)) = true := ⟨by decide +kernel, by decide +kernel⟩
theorem ib_InvalidBase : ∀ (kV doc pm : Value) (an : Option Addr) (cdv ct : Value) (us : List Value), us.length = (["self", "given"] : List PySem.Str).length → bindArgs (PySem.W.fnOf "__init__" "InvalidBase.__init__" (L2.defArgs (L2.inClass (top 2) 0)) (L2.defBody (L2.inClass (top 2) 0)) (L2.defScope (L2.inClass (top 2) 0)) .none kV doc pm an cdv ct) ⟨us, []⟩ = pure ((["self", "given"] : List PySem.Str).zip us) := fun _ _ _ _ _ _ us hl => match us, hl with | [_, _], _ => rfl
theorem is_InvalidNumber : scB ["self", "given"] ["self", "given"] (L2.defScope (L2.inClass (top 3) 0)) = true ∧ okIni ["self", "given"] [[103, 105, 118, 101, 110]] (L2.defScope (L2.inClass (top 3) 0)) (L2.defBody (L2.inClass (top 3) 0)) = true := ⟨by decide +kernel, by decide +kernel⟩
theorem ib_InvalidNumber : ∀ (kV doc pm : Value) (an : Option Addr) (cdv ct : Value) (us : List Value), us.length = (["self", "given"] : List PySem.Str).length → bindArgs (PySem.W.fnOf "__init__" "InvalidNumber.__init__" (L2.defArgs (L2.inClass (top 3) 0)) (L2.defBody (L2.inClass (top 3) 0)) (L2.defScope (L2.inClass (top 3) 0)) .none kV doc pm an cdv ct) ⟨us, []⟩ = pure ((["self", "given"] : List PySem.Str).zip us) := fun _ _ _ _ _ _ us hl => match us, hl with | [_, _], _ => rfl
theorem is_InvalidTop : scB ["self", "given"] ["self", "given"] (L2.defScope (L2.inClass (top 4) 0)) = true ∧ okIni ["self", "given"] [[103, 105, 118, 101, 110]] (L2.defScope (L2.inClass (top 4) 0)) (L2.defBody (L2.inClass (top 4) 0)) = true := ⟨by decide +kernel, by decide +kernel⟩
theorem ib_InvalidTop : ∀ (kV doc pm : Value) (an : Option Addr) (cdv ct : Value) (us : List Value), us.length = (["self", "given"] : List PySem.Str).length → bindArgs (PySem.W.fnOf "__init__" "InvalidTop.__init__" (L2.defArgs (L2.inClass (top 4) 0)) (L2.defBody (L2.inClass (top 4) 0)) (L2.defScope (L2.inClass (top 4) 0)) .none kV doc pm an cdv ct) ⟨us, []⟩ = pure ((["self", "given"] : List PySem.Str).zip us) := fun _ _ _ _ _ _ us hl => match us, hl with | [_, _], _ => rfl
theorem is_ZeroNumber : scB ["self"] ["self"] (L2.defScope (L2.inClass (top 6) 0)) = true ∧ okIni ["self"] [] (L2.defScope (L2.inClass (top 6) 0)) (L2.defBody (L2.inClass (top 6) 0)) = true := ⟨by decide +kernel, by decide +kernel⟩
theorem ib_ZeroNumber : ∀ (kV doc pm : Value) (an : Option Addr) (cdv ct : Value) (us : List Value), us.length = (["self"] : List PySem.Str).length → bindArgs (PySem.W.fnOf "__init__" "ZeroNumber.__init__" (L2.defArgs (L2.inClass (top 6) 0)) (L2.defBody (L2.inClass (top 6) 0)) (L2.defScope (L2.inClass (top 6) 0)) .none kV doc pm an cdv ct) ⟨us, []⟩ = pure ((["self"] : List PySem.Str).zip us) := fun _ _ _ _ _ _ us hl => match us, hl with | [_], _ => rfl
end K00

namespace K00
open Eg
def rn (n : Nat) : Cl := run G.sub G.T n
theorem rn_at {n f : Nat} {d : Df} {ds : List D} {S : Sto} (h : T[f]? = some d) : rn (n + 1) f ds S = if ds.length = d.ps then (if D.freeL ds then reloc S (runB G.sub (rn n) d ds []) else runB G.sub (rn n) d ds S) else .no := by
  show run G.sub G.T (n + 1) f ds S = _
  have h' : G.T[f]? = some d := h
  simp only [run, h']
  rfl
theorem divisor_nat (n a b : Nat) (S : Sto) (h : a * b < 2 ^ 10000) : rn (n + 1) f_divisor [.int a, .int b] S = .ok (.int (Nat.gcd a b : Nat)) S := by
  have lp : ∃ y : Option D, evS G.sub (rn n) (.whl (.cmp .ne (.var 1) (.lit (.int 0))) (.cons (.par [0, 1] (.cons (.var 1) (.cons (.bin .mod (.var 0) (.var 1)) .nil))) .nil)) [some (.int a), some (.int b)] [] = .nx [some (.int (Nat.gcd a b : Nat)), y] [] := by
    rw [evS_whl]
    obtain ⟨ρ', S', e, ⟨y, rfl⟩, rfl⟩ := while_run (t := fun ρ S => tru (evE G.sub (rn n) (.cmp .ne (.var 1) (.lit (.int 0))) ρ S)) (body := fun ρ S => evSs G.sub (rn n) (.cons (.par [0, 1] (.cons (.var 1) (.cons (.bin .mod (.var 0) (.var 1)) .nil))) .nil) ρ S)
      (fun m ρ S => ∃ x y : Nat, ρ = [some (.int x), some (.int y)] ∧ S = [] ∧ Nat.gcd x y = Nat.gcd a b ∧ eucM x y ≤ m) (fun ρ S => (∃ y, ρ = [some (.int (Nat.gcd a b : Nat)), y]) ∧ S = []) (by
        rintro m ρ S ⟨x, y, rfl, rfl, hg, hm⟩
        by_cases hy : y = 0
        · subst hy
          refine .inl ⟨[], ?_, ⟨some (.int (0 : Nat)), ?_⟩, rfl⟩
          · simp [cmpO, eqD, truD]
          · rw [← hg]; simp
        · refine .inr ⟨[], [some (.int y), some (.int (x % y : Nat))], [], eucM y (x % y), ?_, ?_, Nat.lt_of_lt_of_le (eucM_step hy) hm, y, x % y, rfl, rfl, by rw [gcd_step]; exact hg, Nat.le_refl _⟩
          · simp [cmpO, eqD, truD, hy]
          · simp [binD, setAll, setE, hy, fmod_nat]) wfuel (eucM a b) [some (.int a), some (.int b)] [] (wfuel_big (by have := eucM_le (a := a) (b := b); have := log2_lt_of h (by omega); omega)) ⟨a, b, rfl, rfl, rfl, Nat.le_refl _⟩
    exact ⟨y, e⟩
  obtain ⟨y, e⟩ := lp
  rw [rn_at (d := d_divisor) rfl]
  simp [d_divisor, D.freeL, D.free, runB_eq, startE, e]
end K00

namespace K00
open Eg
def sg (b : Int) : Int := if 0 < b then 1 else -1
def gg (t b : Int) : Nat := Nat.gcd t.natAbs b.natAbs
def low (t b : Int) : D := .tup [.int (sg b * t / gg t b), .int (sg b * b / gg t b)]
theorem sg_one (b : Int) : (sg b).natAbs < 2 ^ 5000 := by
  have : (sg b).natAbs = 1 := by unfold sg; split <;> rfl
  rw [this]; exact Nat.one_lt_two_pow (by omega)
theorem gg_pos {t b : Int} (h : b ≠ 0) : 0 < ((gg t b : Nat) : Int) := by
  have : 0 < gg t b := Nat.gcd_pos_of_pos_right _ (by omega)
  omega
theorem gg_small {t b : Int} (h : b ≠ 0) (h2 : b.natAbs < 2 ^ 4000) : ((gg t b : Nat) : Int).natAbs < 2 ^ 8999 := by
  have h1 : gg t b ≤ b.natAbs := Nat.le_of_dvd (by omega) (Nat.gcd_dvd_right _ _)
  have h3 : b.natAbs < 2 ^ 8999 := Nat.lt_of_lt_of_le h2 (Nat.pow_le_pow_right (by omega) (by omega))
  rw [Int.natAbs_natCast]
  omega
theorem prod_small {t b : Int} (h1 : t.natAbs < 2 ^ 4000) (h2 : b.natAbs < 2 ^ 4000) : t.natAbs * b.natAbs < 2 ^ 10000 := by
  have := sm_mul h1 h2
  rw [Int.natAbs_mul] at this
  exact Nat.lt_of_lt_of_le this (Nat.pow_le_pow_right (by omega) (by omega))
theorem lowest_ok (n : Nat) (t b : Int) (S : Sto) (hb : b ≠ 0) (h1 : t.natAbs < 2 ^ 4000) (h2 : b.natAbs < 2 ^ 4000) : rn (n + 2) f_lowest [.int t, .int b] S = .ok (low t b) S := by
  rw [rn_at (d := d_lowest) rfl]
  have q1 : binD .mul (.int (sg b)) (.int t) [] = .ok (.int (sg b * t)) [] := mul_ok [] (sg_one b) (sm_up h1 (by omega))
  have q2 : binD .mul (.int (sg b)) (.int b) [] = .ok (.int (sg b * b)) [] := mul_ok [] (sg_one b) (sm_up h2 (by omega))
  have q3 : ∀ a : Int, binD .fdiv (.int a) (.int (gg t b : Nat)) [] = .ok (.int (a / (gg t b : Nat))) [] := fun a => fdiv_ok [] (gg_pos hb) (gg_small hb h2)
  have q4 : rn (n + 1) f_divisor [.int t.natAbs, .int b.natAbs] [] = .ok (.int (gg t b : Nat)) [] := divisor_nat n _ _ [] (prod_small h1 h2)
  by_cases c : 0 < b
  · have e : sg b = 1 := if_pos c
    rw [e] at q1 q2
    simp [d_lowest, D.freeL, D.free, runB_eq, startE, bAbs_eq, q4, setE, c, q1, q2, q3, line, reloc, low, e]
  · have e : sg b = -1 := if_neg c
    rw [e] at q1 q2
    simp [d_lowest, D.freeL, D.free, runB_eq, startE, bAbs_eq, q4, setE, c, q1, q2, q3, line, reloc, low, e]
theorem law_low_ok (n : Nat) (t b : Int) (S : Sto) (hb : b ≠ 0) (h1 : t.natAbs < 2 ^ 4000) (h2 : b.natAbs < 2 ^ 4000) : rn (n + 1) f__law_low [.int t, .int b] S = .ok (low t b) S := by
  have lp : ∃ y : Option D, evS G.sub (rn n) (.whl (.cmp .ne (.var 3) (.lit (.int 0))) (.cons (.par [2, 3] (.cons (.var 3) (.cons (.bin .mod (.bi .int (.cons (.var 2) .nil)) (.var 3)) .nil))) .nil)) [some (.int t), some (.int b), some (.int t.natAbs), some (.int b.natAbs), none] [] = .nx [some (.int t), some (.int b), some (.int (gg t b : Nat)), y, none] [] := by
    rw [evS_whl]
    obtain ⟨ρ', S', e, ⟨y, rfl⟩, rfl⟩ := while_run (t := fun ρ S => tru (evE G.sub (rn n) (.cmp .ne (.var 3) (.lit (.int 0))) ρ S)) (body := fun ρ S => evSs G.sub (rn n) (.cons (.par [2, 3] (.cons (.var 3) (.cons (.bin .mod (.bi .int (.cons (.var 2) .nil)) (.var 3)) .nil))) .nil) ρ S)
      (fun m ρ S => ∃ x y : Nat, ρ = [some (.int t), some (.int b), some (.int x), some (.int y), none] ∧ S = [] ∧ Nat.gcd x y = gg t b ∧ eucM x y ≤ m) (fun ρ S => (∃ y, ρ = [some (.int t), some (.int b), some (.int (gg t b : Nat)), y, none]) ∧ S = []) (by
        rintro m ρ S ⟨x, y, rfl, rfl, hg, hm⟩
        by_cases hy : y = 0
        · subst hy
          refine .inl ⟨[], ?_, ⟨some (.int (0 : Nat)), ?_⟩, rfl⟩
          · simp [truD]
          · rw [← hg]; simp
        · refine .inr ⟨[], [some (.int t), some (.int b), some (.int y), some (.int (x % y : Nat)), none], [], eucM y (x % y), ?_, ?_, Nat.lt_of_lt_of_le (eucM_step hy) hm, y, x % y, rfl, rfl, by rw [gcd_step]; exact hg, Nat.le_refl _⟩
          · simp [truD, hy]
          · simp [binD, setAll, setE, hy, fmod_nat]) wfuel (eucM t.natAbs b.natAbs) [some (.int t), some (.int b), some (.int t.natAbs), some (.int b.natAbs), none] [] (wfuel_big (by have := eucM_le (a := t.natAbs) (b := b.natAbs); have := log2_lt_of (prod_small h1 h2) (by omega); omega)) ⟨_, _, rfl, rfl, rfl, Nat.le_refl _⟩
    exact ⟨y, e⟩
  obtain ⟨y, lp⟩ := lp
  rw [rn_at (d := d__law_low) rfl]
  have q1 : binD .mul (.int (sg b)) (.int t) [] = .ok (.int (sg b * t)) [] := mul_ok [] (sg_one b) (sm_up h1 (by omega))
  have q2 : binD .mul (.int (sg b)) (.int b) [] = .ok (.int (sg b * b)) [] := mul_ok [] (sg_one b) (sm_up h2 (by omega))
  have q3 : ∀ a : Int, binD .fdiv (.int a) (.int (gg t b : Nat)) [] = .ok (.int (a / (gg t b : Nat))) [] := fun a => fdiv_ok [] (gg_pos hb) (gg_small hb h2)
  by_cases c : 0 < b
  · have e : sg b = 1 := if_pos c
    rw [e] at q1 q2
    simp [d__law_low, D.freeL, D.free, runB_eq, startE, bAbs_eq, lp, setAll, setE, c, q1, q2, q3, line, reloc, low, e]
  · have e : sg b = -1 := if_neg c
    rw [e] at q1 q2
    simp [d__law_low, D.freeL, D.free, runB_eq, startE, bAbs_eq, lp, setAll, setE, c, q1, q2, q3, line, reloc, low, e]
end K00

namespace K00
open Eg
abbrev nb (p q : Int) : D := .tup [.int p, .int q]
abbrev Sml (x : Int) : Prop := x.natAbs < 2 ^ 1000
def isNum (p q : Int) : Bool := decide (0 < q) && decide (Nat.gcd p.natAbs q.natAbs = 1)
theorem idx0 (a b : D) (l : List D) (S : Sto) : idxD (.tup (a :: b :: l)) (.int 0) S = .ok a S := by
  have h : (0 : Int) < (l.length : Int) + 1 + 1 := by omega
  simp [idxD, atL, ixN, R.of, h]
theorem idx1 (a b : D) (l : List D) (S : Sto) : idxD (.tup (a :: b :: l)) (.int 1) S = .ok b S := by
  have h : (1 : Int) < (l.length : Int) + 1 + 1 := by omega
  simp [idxD, atL, ixN, R.of, h]
theorem is_integer_int (n : Nat) (i : Int) (S : Sto) : rn (n + 1) f_is_integer [.int i] S = .ok (.bl true) S := by
  rw [rn_at (d := d_is_integer) rfl]
  simp [d_is_integer, D.freeL, D.free, runB_eq, startE, isK]
theorem is_integer_bl (n : Nat) (b : Bool) (S : Sto) : rn (n + 1) f_is_integer [.bl b] S = .ok (.bl false) S := by
  rw [rn_at (d := d_is_integer) rfl]
  simp [d_is_integer, D.freeL, D.free, runB_eq, startE, isK]
theorem is_tuple_tup (n : Nat) (l : List D) (k : Int) (S : Sto) : rn (n + 1) f_is_tuple [.tup l, .int k] S = .ok (.bl (decide ((l.length : Int) = k))) S := by
  rw [rn_at (d := d_is_tuple) rfl]
  have e : evSs G.sub (rn n) d_is_tuple.body (startE d_is_tuple [.tup l, .int k]) S = .rt (.bl (decide ((l.length : Int) = k))) S := by
    simp [d_is_tuple, startE, isK, biD, bLen]
  have e0 : evSs G.sub (rn n) d_is_tuple.body (startE d_is_tuple [.tup l, .int k]) [] = .rt (.bl (decide ((l.length : Int) = k))) [] := by
    simp [d_is_tuple, startE, isK, biD, bLen]
  simp only [runB_eq, e, e0, endB_rt, reloc_bl, ite_self]
  rfl
theorem is_number_nb (n : Nat) (p q : Int) (S : Sto) (h1 : Sml p) (h2 : Sml q) : rn (n + 2) f_is_number [nb p q] S = .ok (.bl (isNum p q)) S := by
  rw [rn_at (d := d_is_number) rfl]
  by_cases c : 0 < q
  · have eq : (q.natAbs : Int) = q := by omega
    have g := divisor_nat n p.natAbs q.natAbs [] (Nat.lt_of_lt_of_le (by have := sm_mul h1 h2; rw [Int.natAbs_mul] at this; exact this) (Nat.pow_le_pow_right (by omega) (by omega)))
    rw [eq] at g
    have e3 : (decide (((p.natAbs.gcd q.natAbs : Nat) : Int) = 1)) = decide (p.natAbs.gcd q.natAbs = 1) := by
      by_cases z : p.natAbs.gcd q.natAbs = 1
      · simp [z]
      · have : ¬ (((p.natAbs.gcd q.natAbs : Nat) : Int) = 1) := by omega
        simp [z, this]
    simp [d_is_number, D.freeL, D.free, runB_eq, startE, is_tuple_tup, idx0, idx1, is_integer_int, bAbs_eq, c, g, isNum, e3]
  · simp [d_is_number, D.freeL, D.free, runB_eq, startE, is_tuple_tup, idx0, idx1, is_integer_int, c, isNum]
theorem check_number_ok (n : Nat) (p q : Int) (S : Sto) (h1 : Sml p) (h2 : Sml q) (h : isNum p q = true) : rn (n + 3) f_check_number [nb p q] S = .ok .non S := by
  rw [rn_at (d := d_check_number) rfl]
  have g := is_number_nb n p q [] h1 h2
  rw [h] at g
  simp [d_check_number, D.freeL, D.free, runB_eq, startE, g]
theorem check_two_ok (n : Nat) (p q r s : Int) (S : Sto) (h1 : Sml p) (h2 : Sml q) (h3 : Sml r) (h4 : Sml s) (h : isNum p q = true) (h' : isNum r s = true) : rn (n + 4) f_check_two [nb p q, nb r s] S = .ok .non S := by
  rw [rn_at (d := d_check_two) rfl]
  have g := check_number_ok n p q [] h1 h2 h
  have g' := check_number_ok n r s [] h3 h4 h'
  simp [d_check_two, D.freeL, D.free, runB_eq, startE, g, g']
theorem sml_mul {a b : Int} (h1 : Sml a) (h2 : Sml b) (S : Sto) : binD .mul (.int a) (.int b) S = .ok (.int (a * b)) S := mul_ok S (sm_up h1 (by omega)) (sm_up h2 (by omega))
theorem sml_p {a b : Int} (h1 : Sml a) (h2 : Sml b) : (a * b).natAbs < 2 ^ 4000 := sm_up (sm_mul h1 h2) (by omega)
theorem sml_pp {a b c d : Int} (h1 : Sml a) (h2 : Sml b) (h3 : Sml c) (h4 : Sml d) : (a * b + c * d).natAbs < 2 ^ 4000 := sm_up (sm_add (sm_mul h1 h2) (sm_mul h3 h4)) (by omega)
theorem sml_pm {a b c d : Int} (h1 : Sml a) (h2 : Sml b) (h3 : Sml c) (h4 : Sml d) : (a * b - c * d).natAbs < 2 ^ 4000 := sm_up (sm_sub (sm_mul h1 h2) (sm_mul h3 h4)) (by omega)
theorem ret_low {t b : Int} (S1 S : Sto) : reloc S (.ok (low t b) S1) = .ok (low t b) S := reloc_free _ _ (by rfl)
theorem num_ne {p q : Int} (h : isNum p q = true) : q ≠ 0 := by simp [isNum] at h; omega
section
variable (n : Nat) (p q r s : Int) (S : Sto) (h1 : Sml p) (h2 : Sml q) (h3 : Sml r) (h4 : Sml s)
include h1 h2 h3 h4
theorem sum_of_ok (hq : q ≠ 0) (hs : s ≠ 0) : rn (n + 3) f_sum_of [nb p q, nb r s] S = .ok (low (p * s + r * q) (q * s)) S := by
  rw [rn_at (d := d_sum_of) rfl]
  have g := lowest_ok n (p * s + r * q) (q * s) [] (Int.mul_ne_zero hq hs) (sml_pp h1 h4 h3 h2) (sml_p h2 h4)
  simp [d_sum_of, D.freeL, D.free, runB_eq, startE, idx0, idx1, sml_mul h1 h4, sml_mul h3 h2, sml_mul h2 h4, g, ret_low]
theorem less_of_ok (hq : q ≠ 0) (hs : s ≠ 0) : rn (n + 3) f_less_of [nb p q, nb r s] S = .ok (low (p * s - r * q) (q * s)) S := by
  rw [rn_at (d := d_less_of) rfl]
  have g := lowest_ok n (p * s - r * q) (q * s) [] (Int.mul_ne_zero hq hs) (sml_pm h1 h4 h3 h2) (sml_p h2 h4)
  simp [d_less_of, D.freeL, D.free, runB_eq, startE, idx0, idx1, sml_mul h1 h4, sml_mul h3 h2, sml_mul h2 h4, g, ret_low]
theorem product_of_ok (hq : q ≠ 0) (hs : s ≠ 0) : rn (n + 3) f_product_of [nb p q, nb r s] S = .ok (low (p * r) (q * s)) S := by
  rw [rn_at (d := d_product_of) rfl]
  have g := lowest_ok n (p * r) (q * s) [] (Int.mul_ne_zero hq hs) (sml_p h1 h3) (sml_p h2 h4)
  simp [d_product_of, D.freeL, D.free, runB_eq, startE, idx0, idx1, sml_mul h1 h3, sml_mul h2 h4, g, ret_low]
theorem share_of_ok (hq : q ≠ 0) (hr : r ≠ 0) : rn (n + 3) f_share_of [nb p q, nb r s] S = .ok (low (p * s) (q * r)) S := by
  rw [rn_at (d := d_share_of) rfl]
  have g := lowest_ok n (p * s) (q * r) [] (Int.mul_ne_zero hq hr) (sml_p h1 h4) (sml_p h2 h3)
  simp [d_share_of, D.freeL, D.free, runB_eq, startE, idx0, idx1, sml_mul h1 h4, sml_mul h2 h3, g, ret_low]
def sgn (x : Int) : Int := if x = 0 then 0 else if 0 < x then 1 else -1
theorem sign_between_ok : rn (n + 1) f_sign_between [nb p q, nb r s] S = .ok (.int (sgn (p * s - r * q))) S := by
  rw [rn_at (d := d_sign_between) rfl]
  by_cases c : p * s - r * q = 0
  · simp [d_sign_between, D.freeL, D.free, runB_eq, startE, idx0, idx1, sml_mul h1 h4, sml_mul h3 h2, setE, sgn, c]
  · by_cases c2 : 0 < p * s - r * q
    · have c3 : r * q < p * s := Int.lt_of_sub_pos c2
      simp [d_sign_between, D.freeL, D.free, runB_eq, startE, idx0, idx1, sml_mul h1 h4, sml_mul h3 h2, setE, sgn, c, c3]
    · have c3 : ¬ r * q < p * s := fun h => c2 (Int.sub_pos_of_lt h)
      simp [d_sign_between, D.freeL, D.free, runB_eq, startE, idx0, idx1, sml_mul h1 h4, sml_mul h3 h2, setE, sgn, c, c3]
variable (g1 : isNum p q = true) (g2 : isNum r s = true)
include g1 g2
theorem add_ok : rn (n + 5) f_add [nb p q, nb r s] S = .ok (low (p * s + r * q) (q * s)) S := by
  rw [rn_at (d := d_add) rfl]
  have a := check_two_ok n p q r s [] h1 h2 h3 h4 g1 g2
  have b := sum_of_ok (n + 1) p q r s [] h1 h2 h3 h4 (num_ne g1) (num_ne g2)
  simp [d_add, D.freeL, D.free, runB_eq, startE, a, b, ret_low]
theorem subtract_ok : rn (n + 5) f_subtract [nb p q, nb r s] S = .ok (low (p * s - r * q) (q * s)) S := by
  rw [rn_at (d := d_subtract) rfl]
  have a := check_two_ok n p q r s [] h1 h2 h3 h4 g1 g2
  have b := less_of_ok (n + 1) p q r s [] h1 h2 h3 h4 (num_ne g1) (num_ne g2)
  simp [d_subtract, D.freeL, D.free, runB_eq, startE, a, b, ret_low]
theorem multiply_ok : rn (n + 5) f_multiply [nb p q, nb r s] S = .ok (low (p * r) (q * s)) S := by
  rw [rn_at (d := d_multiply) rfl]
  have a := check_two_ok n p q r s [] h1 h2 h3 h4 g1 g2
  have b := product_of_ok (n + 1) p q r s [] h1 h2 h3 h4 (num_ne g1) (num_ne g2)
  simp [d_multiply, D.freeL, D.free, runB_eq, startE, a, b, ret_low]
theorem divide_ok (hr : r ≠ 0) : rn (n + 5) f_divide [nb p q, nb r s] S = .ok (low (p * s) (q * r)) S := by
  rw [rn_at (d := d_divide) rfl]
  have a := check_two_ok n p q r s [] h1 h2 h3 h4 g1 g2
  have b := share_of_ok (n + 1) p q r s [] h1 h2 h3 h4 (num_ne g1) hr
  simp [d_divide, D.freeL, D.free, runB_eq, startE, a, b, ret_low, idx0, hr]
omit g2 h3 in
theorem divide_zero (g2 : isNum 0 s = true) : rn (n + 5) f_divide [nb p q, nb 0 s] S = .ex ⟨c_ZeroNumber, []⟩ S := by
  have g2' : isNum 0 s = true := g2
  have h3' : Sml 0 := Nat.pow_pos (by omega)
  rw [rn_at (d := d_divide) rfl]
  have a := check_two_ok n p q 0 s [] h1 h2 h3' h4 g1 g2'
  simp [d_divide, D.freeL, D.free, runB_eq, startE, a, idx0]
  rfl
theorem compare_ok : rn (n + 5) f_compare [nb p q, nb r s] S = .ok (.int (sgn (p * s - r * q))) S := by
  rw [rn_at (d := d_compare) rfl]
  have a := check_two_ok n p q r s [] h1 h2 h3 h4 g1 g2
  have b := sign_between_ok (n + 3) p q r s [] h1 h2 h3 h4
  simp [d_compare, D.freeL, D.free, runB_eq, startE, a, b]
end
end K00

namespace K00
open Eg
/-! ### the box -/
def bxO (a : Int) (g : Bool) (m c : Int) : O := .lst [.int a, .bl g, .int m, .int c]
def Bx (S : Sto) (b k : Nat) : Prop := ∃ (a : Int) (g : Bool) (m c : Int), S[b]? = some (bxO a g m c) ∧ 0 ≤ a ∧ 0 ≤ m ∧ m < 2147483629 ∧ 0 ≤ c ∧ c + k ≤ 1000000
structure Grow (b : Nat) (S S' : Sto) : Prop where
  len : S.length ≤ S'.length
  old : ∀ i, i < S.length → i ≠ b → S'[i]? = S[i]?
theorem Grow.refl (b : Nat) (S : Sto) : Grow b S S := ⟨Nat.le_refl _, fun _ _ _ => rfl⟩
theorem Grow.trans {b : Nat} {S S1 S2 : Sto} (h : Grow b S S1) (h' : Grow b S1 S2) : Grow b S S2 := ⟨Nat.le_trans h.len h'.len, fun i hi hn => (h'.old i (Nat.lt_of_lt_of_le hi h.len) hn).trans (h.old i hi hn)⟩
theorem Grow.app {b : Nat} (S T : Sto) : Grow b S (S ++ T) := ⟨by simp, fun i hi _ => List.getElem?_append_left hi⟩
theorem Grow.at_ {b : Nat} {S S' : Sto} (h : Grow b S S') {i : Nat} {o : O} (hi : S[i]? = some o) (hn : i ≠ b) : S'[i]? = some o := (h.old i (List.getElem?_eq_some_iff.mp hi).1 hn).trans hi
theorem Grow.set {b : Nat} (S : Sto) (o : O) : Grow b S (S.set b o) := ⟨by simp, fun i _ hn => List.getElem?_set_ne (Ne.symm hn)⟩
theorem Bx.less {S : Sto} {b k k' : Nat} (h : Bx S b k) (hk : k' ≤ k) : Bx S b k' := by
  obtain ⟨a, g, m, c, h1, h2, h3, h4, h5, h6⟩ := h
  exact ⟨a, g, m, c, h1, h2, h3, h4, h5, by omega⟩
theorem Bx.app {S T : Sto} {b k : Nat} (h : Bx S b k) : Bx (S ++ T) b k := by
  obtain ⟨a, g, m, c, h1, h2⟩ := h
  exact ⟨a, g, m, c, (List.getElem?_append_left (List.getElem?_eq_some_iff.mp h1).1).trans h1, h2⟩
theorem Bx.lt {S : Sto} {b k : Nat} (h : Bx S b k) : b < S.length := by
  obtain ⟨a, g, m, c, h1, _⟩ := h
  exact (List.getElem?_eq_some_iff.mp h1).1
theorem idx_ref {S : Sto} {r : Nat} {l : List D} {i : Int} {d : D} (h : S[r]? = some (.lst l)) (hd : atL l i = some d) : idxD (.ref r) (.int i) S = .ok d S := by
  have : lstOf S r = some l := by unfold lstOf; rw [h]
  simp [idxD, this, hd]
theorem take_ok (n b k : Nat) (many : Int) (S : Sto) (h : Bx S b (k + 1)) (m1 : 0 < many) (m2 : many < 2 ^ 30) : ∃ (d : Int) (S' : Sto), rn (n + 1) f__law_take [.ref b, .int many] S = .ok (.int d) S' ∧ 0 ≤ d ∧ d < many ∧ Grow b S S' ∧ Bx S' b k := by
  obtain ⟨a, g, m, c, hb, ha, hm, hm2, hc, hk⟩ := h
  have hlt := (List.getElem?_eq_some_iff.mp hb).1
  have i0 : idxD (.ref b) (.int 0) S = .ok (.int a) S := idx_ref hb rfl
  have i1 : idxD (.ref b) (.int 1) S = .ok (.bl g) S := idx_ref hb rfl
  have i3 : idxD (.ref b) (.int 3) S = .ok (.int c) S := idx_ref hb rfl
  rw [rn_at (d := d__law_take) rfl]
  have nf : D.freeL [.ref b, .int many] = false := rfl
  rw [nf]
  simp only [runB_eq, Bool.false_eq_true, if_false, show [D.ref b, D.int many].length = d__law_take.ps from rfl, if_true]
  by_cases c1 : g = true ∧ 0 < a
  · obtain ⟨rfl, c2⟩ := c1
    have e1 : binD .mod (.int a) (.int many) S = .ok (.int (a % many)) S := mod_ok S m1
    have e2 : binD .fdiv (.int a) (.int many) S = .ok (.int (a / many)) S := fdiv_ok S m1 (Nat.lt_of_lt_of_le (show many.natAbs < 2 ^ 30 by omega) (Nat.pow_le_pow_right (by omega) (by omega)))
    refine ⟨a % many, S.set b (bxO (a / many) true m c), ?_, Int.emod_nonneg _ (by omega), Int.emod_lt_of_pos _ m1, Grow.set _ _, _, _, _, _, List.getElem?_set_self hlt, Int.ediv_nonneg ha (by omega), hm, hm2, hc, by omega⟩
    simp [d__law_take, startE, i0, i1, c2, e1, e2, setE, hb, bxO, ixN]
  · have e0 : evSs G.sub (rn n) (.cons (.ife (.and (.idx (.var 0) (.lit (.int 1))) (.cmp .gt (.idx (.var 0) (.lit (.int 0))) (.lit (.int 0)))) (.cons (.asg 2 (.bin .mod (.bi .int (.cons (.idx (.var 0) (.lit (.int 0))) .nil)) (.var 1))) (.cons (.setI (.var 0) (.lit (.int 0)) (.bin .fdiv (.idx (.var 0) (.lit (.int 0))) (.var 1))) (.cons (.ret (.var 2)) .nil))) .nil) .nil) [some (.ref b), some (.int many), none, none] S = .nx [some (.ref b), some (.int many), none, none] S := by
      cases g with
      | false => simp [i0, i1]
      | true =>
        have : ¬ 0 < a := fun z => c1 ⟨rfl, z⟩
        simp [i0, i1, this]
    obtain ⟨S1, hS1⟩ : ∃ S1, S.set b (.lst [.int a, .bl g, .int m, .int (c + 1)]) = S1 := ⟨_, rfl⟩
    have hb1 : S1[b]? = some (bxO a g m (c + 1)) := by rw [← hS1]; exact List.getElem?_set_self hlt
    have j2 : idxD (.ref b) (.int 2) S1 = .ok (.int m) S1 := idx_ref hb1 rfl
    have j3 : idxD (.ref b) (.int 3) S1 = .ok (.int (c + 1)) S1 := idx_ref hb1 rfl
    have x1 : binD .mul (.int 15487471) (.int (c + 1)) S1 = .ok (.int (15487471 * (c + 1))) S1 := mul_ok S1 (sm_up (show (15487471 : Int).natAbs < 2 ^ 40 by decide) (by omega)) (sm_up (show (c + 1).natAbs < 2 ^ 30 by omega) (by omega))
    have x2 : binD .pow (.int (m + 15487471 * (c + 1) + 179426083)) (.int 5) S1 = .ok (.int ((m + 15487471 * (c + 1) + 179426083) ^ 5)) S1 := pow_ok (k := 5) S1 (by omega) (by decide)
    have x3 : ∀ z : Int, binD .mod (.int z) (.int 2147483647) S1 = .ok (.int (z % 2147483647)) S1 := fun z => mod_ok S1 (by omega)
    obtain ⟨y, hy⟩ : ∃ y, y = (m + 15487471 * (c + 1) + 179426083) ^ 5 % 2147483647 := ⟨_, rfl⟩
    have y1 : 0 ≤ y := by rw [hy]; exact Int.emod_nonneg _ (by omega)
    have y2 : y < 2147483647 := by rw [hy]; exact Int.emod_lt_of_pos _ (by omega)
    have x4 : binD .mul (.int y) (.int 48271) S1 = .ok (.int (y * 48271)) S1 := mul_ok S1 (sm_up (show y.natAbs < 2 ^ 31 by omega) (by omega)) (sm_up (show (48271 : Int).natAbs < 2 ^ 40 by decide) (by omega))
    have x5 : binD .mul (.int 104743) (.int (c + 1)) S1 = .ok (.int (104743 * (c + 1))) S1 := mul_ok S1 (sm_up (show (104743 : Int).natAbs < 2 ^ 40 by decide) (by omega)) (sm_up (show (c + 1).natAbs < 2 ^ 30 by omega) (by omega))
    have x6 : binD .pow (.int (y * 48271 + 104743 * (c + 1))) (.int 3) S1 = .ok (.int ((y * 48271 + 104743 * (c + 1)) ^ 3)) S1 := pow_ok (k := 3) S1 (by omega) (by decide)
    have x7 : ∀ z : Int, binD .mod (.int z) (.int 2147483587) S1 = .ok (.int (z % 2147483587)) S1 := fun z => mod_ok S1 (by omega)
    have x8 : ∀ z : Int, binD .fdiv (.int z) (.int 64) S1 = .ok (.int (z / 64)) S1 := fun z => fdiv_ok S1 (by omega) (Nat.lt_of_lt_of_le (show (64 : Int).natAbs < 2 ^ 30 by decide) (Nat.pow_le_pow_right (by omega) (by omega)))
    have x9 : ∀ z : Int, binD .mod (.int z) (.int many) S1 = .ok (.int (z % many)) S1 := fun z => mod_ok S1 m1
    obtain ⟨z, hz⟩ : ∃ z, z = (y * 48271 + 104743 * (c + 1)) ^ 3 % 2147483587 / 64 := ⟨_, rfl⟩
    refine ⟨z % many, S1, ?_, Int.emod_nonneg _ (by omega), Int.emod_lt_of_pos _ m1, hS1 ▸ Grow.set _ _, _, _, _, _, hb1, ha, hm, hm2, by omega, by omega⟩
    simp only [d__law_take, startE, evSs_cons, evSs_nil] at e0 ⊢
    simp only [List.map_cons, List.map_nil, List.length_cons, List.length_nil, List.replicate, List.cons_append, List.nil_append, Nat.reduceAdd, Nat.reduceSub]
    rw [RS.then_nx_id] at e0
    rw [e0]
    simp [i3, setE, hb, ixN, hS1, bxO, j2, j3, x1, x2, x3, ← hy, x4, x5, x6, x7, x8, ← hz, x9]
end K00

namespace K00
open Eg
theorem low_num {t b : Int} (hb : b ≠ 0) (h1 : Sml t) (h2 : Sml b) : ∃ p q, low t b = nb p q ∧ isNum p q = true ∧ p.natAbs ≤ t.natAbs ∧ q.natAbs ≤ b.natAbs := by
  have g0 : 0 < gg t b := Nat.gcd_pos_of_pos_right _ (by omega)
  have d1 : gg t b ∣ t.natAbs := Nat.gcd_dvd_left _ _
  have d2 : gg t b ∣ b.natAbs := Nat.gcd_dvd_right _ _
  have sgb : sg b * b = (b.natAbs : Int) := by unfold sg; split <;> omega
  have e1 : (sg b * t / (gg t b : Int)).natAbs = t.natAbs / gg t b := by
    have hd : ((gg t b : Nat) : Int) ∣ sg b * t := Int.dvd_trans (Int.ofNat_dvd_left.mpr d1) (Int.dvd_mul_left _ _)
    rw [Int.natAbs_ediv_of_dvd hd, Int.natAbs_mul]
    have : (sg b).natAbs = 1 := by unfold sg; split <;> rfl
    rw [this, Nat.one_mul, Int.natAbs_natCast]
  have e2 : sg b * b / (gg t b : Int) = ((b.natAbs / gg t b : Nat) : Int) := by rw [sgb]; norm_cast
  refine ⟨_, _, rfl, ?_, ?_, ?_⟩
  · unfold isNum
    rw [e1, e2, Int.natAbs_natCast]
    have p1 : 0 < b.natAbs / gg t b := Nat.div_pos (Nat.le_of_dvd (by omega) d2) g0
    have p2 : Nat.gcd (t.natAbs / gg t b) (b.natAbs / gg t b) = 1 := by
      rw [Nat.gcd_div d1 d2]
      exact Nat.div_self g0
    simp only [Bool.and_eq_true, decide_eq_true_eq]
    exact ⟨by omega, p2⟩
  · rw [e1]; exact Nat.div_le_self _ _
  · rw [e2, Int.natAbs_natCast]; exact Nat.div_le_self _ _
theorem pow10 (k : Nat) (S : Sto) (h : (k : Int) ≤ 1000000) : binD .pow (.int 10) (.int k) S = .ok (.int (10 ^ k)) S := pow_ok (k := k) S (by decide) h
theorem integer_ok (n b k : Nat) (S : Sto) (h : Bx S b (k + 4)) : ∃ (x : Int) (S' : Sto), rn (n + 2) f__law_integer [.ref b] S = .ok (.int x) S' ∧ x.natAbs < 2 ^ 80 ∧ Grow b S S' ∧ Bx S' b k := by
  obtain ⟨w, S1, e1, w1, w2, g1, h1⟩ := take_ok n b (k + 3) 10 S h (by decide) (by decide)
  obtain ⟨s, S2, e2, s1, s2, g2, h2⟩ := take_ok n b (k + 2) 2 S1 h1 (by decide) (by decide)
  have m2 : binD .mul (.int 2) (.int s) S2 = .ok (.int (2 * s)) S2 := mul_ok S2 (sm_up (show (2 : Int).natAbs < 2 ^ 40 by decide) (by omega)) (sm_up (show s.natAbs < 2 ^ 40 by omega) (by omega))
  have sg2 : 1 - 2 * s = 1 ∨ 1 - 2 * s = -1 := by omega
  have ml : ∀ (x : Int) (S : Sto), x.natAbs < 2 ^ 80 → binD .mul (.int (1 - 2 * s)) (.int x) S = .ok (.int ((1 - 2 * s) * x)) S := fun x S hx => mul_ok S (sm_up (show (1 - 2 * s).natAbs < 2 ^ 40 by omega) (by omega)) (sm_up hx (by omega))
  have mb : ∀ x : Int, x.natAbs < 2 ^ 80 → ((1 - 2 * s) * x).natAbs < 2 ^ 80 := fun x hx => by rcases sg2 with e | e <;> rw [e] <;> omega
  have g12 := g1.trans g2
  rw [rn_at (d := d__law_integer) rfl]
  have nf : D.freeL [.ref b] = false := rfl
  rw [nf]
  simp only [runB_eq, Bool.false_eq_true, if_false, show [D.ref b].length = d__law_integer.ps from rfl, if_true]
  by_cases c1 : w < 6
  · obtain ⟨x, S3, e3, x1, x2, g3, h3⟩ := take_ok n b (k + 1) 13 S2 h2 (by decide) (by decide)
    refine ⟨(1 - 2 * s) * x, S3, ?_, mb x (by omega), g12.trans g3, h3.less (by omega)⟩
    simp [d__law_integer, startE, e1, e2, m2, setAll, setE, c1, e3, ml x S3 (by omega)]
  · by_cases c2 : w < 8
    · obtain ⟨x, S3, e3, x1, x2, g3, h3⟩ := take_ok n b (k + 1) (10 ^ 7) S2 h2 (by decide) (by decide)
      refine ⟨(1 - 2 * s) * x, S3, ?_, mb x (by omega), g12.trans g3, h3.less (by omega)⟩
      have p7 := pow10 7 S2 (by decide)
      simp at p7 e3
      simp [d__law_integer, startE, e1, e2, m2, setAll, setE, c1, c2, p7, e3, ml x S3 (by omega)]
    · by_cases c3 : w = 8
      · obtain ⟨x, S3, e3, x1, x2, g3, h3⟩ := take_ok n b (k + 1) 50 S2 h2 (by decide) (by decide)
        refine ⟨(1 - 2 * s) * (10 ^ 20 - 1 - x), S3, ?_, mb _ (by omega), g12.trans g3, h3.less (by omega)⟩
        have p20 := pow10 20 S2 (by decide)
        have mm := ml (10 ^ 20 - 1 - x) S3 (by omega)
        simp at p20 mm
        subst c3
        simp [d__law_integer, startE, e1, e2, m2, setAll, setE, p20, e3, mm]
      · obtain ⟨x, S3, e3, x1, x2, g3, h3⟩ := take_ok n b (k + 1) (10 ^ 9) S2 h2 (by decide) (by decide)
        obtain ⟨y, S4, e4, y1, y2, g4, h4⟩ := take_ok n b k (10 ^ 9) S3 h3 (by decide) (by decide)
        refine ⟨(1 - 2 * s) * (x * 10 ^ 10 + y), S4, ?_, mb _ (by omega), g12.trans (g3.trans g4), h4⟩
        have p9 := pow10 9 S2 (by decide)
        have p9' := pow10 9 S3 (by decide)
        have p10 := pow10 10 S3 (by decide)
        have mm := ml (x * 10 ^ 10 + y) S4 (by omega)
        have mx : binD .mul (.int x) (.int (10 ^ 10)) S3 = .ok (.int (x * 10 ^ 10)) S3 := mul_ok S3 (sm_up (show x.natAbs < 2 ^ 40 by omega) (by omega)) (sm_up (show ((10 : Int) ^ 10).natAbs < 2 ^ 40 by decide) (by omega))
        simp at p9 p9' p10 mm mx e3 e4
        simp [d__law_integer, startE, e1, e2, m2, setAll, setE, c1, c2, c3, p9, p9', p10, e3, e4, mx, mm]
theorem any_number_ok (n b k : Nat) (S : Sto) (h : Bx S b (k + 8)) : ∃ (p q : Int) (S' : Sto), rn (n + 3) f__law_any_number [.ref b] S = .ok (nb p q) S' ∧ isNum p q = true ∧ p.natAbs < 2 ^ 80 ∧ q.natAbs < 2 ^ 80 ∧ Grow b S S' ∧ Bx S' b k := by
  obtain ⟨x, S1, e1, x1, g1, h1⟩ := integer_ok n b (k + 4) S h
  obtain ⟨y, S2, e2, y1, g2, h2⟩ := integer_ok n b k S1 h1
  have hb : (if (0 : Int) < x.natAbs then (x.natAbs : Int) else 1) ≠ 0 := by split <;> omega
  have hb2 : (if (0 : Int) < x.natAbs then (x.natAbs : Int) else 1).natAbs < 2 ^ 80 := by split <;> omega
  obtain ⟨p, q, l1, l2, l3, l4⟩ := low_num (t := y) hb (sm_up y1 (by omega)) (sm_up hb2 (by omega))
  have e3 := law_low_ok (n + 1) y _ S2 hb (sm_up y1 (by omega)) (sm_up hb2 (by omega))
  refine ⟨p, q, S2, ?_, l2, by omega, by omega, g1.trans g2, h2⟩
  rw [← l1, rn_at (d := d__law_any_number) rfl]
  have nf : D.freeL [.ref b] = false := rfl
  rw [nf]
  simp only [runB_eq, Bool.false_eq_true, if_false, show [D.ref b].length = d__law_any_number.ps from rfl, if_true]
  by_cases c : (0 : Int) < x.natAbs
  · rw [if_pos c] at e3 ⊢
    have c' : x ≠ 0 := by omega
    simp only [d__law_any_number, startE]
    simp [e1, bAbs_eq, setE, e2, c, c', e3]
  · rw [if_neg c] at e3 ⊢
    have c' : x = 0 := by omega
    subst c'
    simp only [d__law_any_number, startE]
    simp [e1, bAbs_eq, setE, e2, e3]
theorem minus_ok (n : Nat) (p q : Int) (S : Sto) : rn (n + 1) f__law_minus [nb p q] S = .ok (nb (0 - p) q) S := by
  rw [rn_at (d := d__law_minus) rfl]
  simp [d__law_minus, D.freeL, D.free, runB_eq, startE, idx0, idx1, line, reloc]
end K00

namespace K00
open Eg
/-- data without references, so deep -/
inductive Pl : Nat → D → Prop
  | non {k : Nat} : Pl k .non
  | bl {k : Nat} (b : Bool) : Pl k (.bl b)
  | int {k : Nat} (i : Int) : Pl k (.int i)
  | str {k : Nat} (s : List Nat) : Pl k (.str s)
  | tup {k : Nat} {l : List D} (h : l.length ≤ 1000) (a : ∀ x ∈ l, Pl k x) : Pl (k + 1) (.tup l)
theorem freeL_of {l : List D} (h : ∀ x ∈ l, D.free x = true) : D.freeL l = true := by
  induction l with
  | nil => rfl
  | cons a l ih =>
    simp only [D.freeL, Bool.and_eq_true]
    exact ⟨h a (by simp), ih fun x hx => h x (by simp [hx])⟩
theorem Pl.free {k : Nat} {d : D} (h : Pl k d) : D.free d = true := by
  induction h with
  | tup h a ih => exact freeL_of ih
  | _ => rfl
theorem comp_none {sub : Nat → Nat → Bool} {c : Cl} {own : List Nat} {e : E} {tg : Tg} {t : Option E} {ρ : Env} {g : Option (Nat × O)} {acc : List D} {S : Sto} (hg : gOk g S = true) : ∀ {l : List D}, (∀ x ∈ l, ∃ ρ1, bindT S tg x (wipeE ρ own) = some ρ1 ∧ evT sub c t ρ1 S = .ok false S) → compB sub c own e tg t ρ g l acc S = .ok acc S
  | [], _ => rfl
  | x :: l, h => by
    obtain ⟨ρ1, h1, h2⟩ := h x (by simp)
    rw [compB_cons, h1]
    simp only [h2, hg, if_true]
    exact comp_none hg fun y hy => h y (by simp [hy])
theorem idx_tup {l : List D} {j : Nat} {x : D} (S : Sto) (h : l[j]? = some x) : idxD (.tup l) (.int j) S = .ok x S := by
  have hl := (List.getElem?_eq_some_iff.mp h).1
  have h2 : ((j : Int) < (l.length : Int)) := by omega
  simp [idxD, atL, ixN, h2, h]
theorem idx_lst {l : List D} {j r : Nat} {x : D} {S : Sto} (hr : S[r]? = some (.lst l)) (h : l[j]? = some x) : idxD (.ref r) (.int j) S = .ok x S := by
  have hl := (List.getElem?_eq_some_iff.mp h).1
  have h2 : ((j : Int) < (l.length : Int)) := by omega
  exact idx_ref hr (by simp [atL, ixN, h2, h])
theorem rng_mem {n : Nat} {x : D} (h : x ∈ rngL 0 n) : ∃ j : Nat, j < n ∧ x = .int j := by
  simp only [rngL, List.mem_map, List.mem_range] at h
  obtain ⟨j, hj, rfl⟩ := h
  exact ⟨j, hj, by simp⟩
theorem b62_small {n : Nat} (h : n ≤ 1000) : b62 (n : Int) = true := by
  unfold b62
  simp only [Bool.and_eq_true, decide_eq_true_eq]
  omega
theorem rngD_small {n : Nat} (h : n ≤ 1000) : rngD 0 (n : Int) = some (rngL 0 n, none) := by
  have b0 : b62 0 = true := by decide
  unfold rngD
  rw [b0, b62_small h]
  have : ((n : Int) - 0).toNat = n := by omega
  rw [this]
  rfl
abbrev sameC : C := .mk [3] (.var 3) (.nm 3) (.rng1 (.bi .len (.cons (.var 1) .nil))) (some (.not (.call f__law_same (.cons (.idx (.var 0) (.var 3)) (.cons (.idx (.var 1) (.var 3)) .nil)))))
theorem same_run (n : Nat) (d : D) (S : Sto) (hf : D.free d = true) {b : Bool} (h : ∀ S, evSs G.sub (rn n) d__law_same.body (startE d__law_same [d, d]) S = .rt (.bl b) S) : rn (n + 1) f__law_same [d, d] S = .ok (.bl b) S := by
  rw [rn_at (d := d__law_same) rfl]
  have hl : D.freeL [d, d] = true := by simp [D.freeL, hf]
  rw [hl]
  simp only [runB_eq, h, endB_rt, reloc_bl, if_true]
  rfl
theorem same_tupC (n : Nat) (l : List D) (S : Sto) (hl : l.length ≤ 1000) (h : ∀ x ∈ l, ∀ S, rn n f__law_same [x, x] S = .ok (.bl true) S) : evC G.sub (rn n) sameC [some (.tup l), some (.tup l), none, none] S = .ok [] S := by
  rw [evC_mk]
  have e1 : evI G.sub (rn n) (.rng1 (.bi .len (.cons (.var 1) .nil))) [some (.tup l), some (.tup l), none, none] S = .ok (rngL 0 l.length, none) S := by
    have e0 : evE G.sub (rn n) (.bi .len (.cons (.var 1) .nil)) [some (.tup l), some (.tup l), none, none] S = .ok (.int l.length) S := by simp [biD, bLen]
    rw [evI_rng1, e0]
    simp only [R.bind_ok, rngD_small hl, R.of_some]
  rw [e1]
  simp only [R.bind_ok]
  rw [if_pos (by simp [rngL, line]; omega)]
  refine comp_none rfl fun x hx => ?_
  obtain ⟨j, hj, rfl⟩ := rng_mem hx
  obtain ⟨y, hy⟩ : ∃ y, l[j]? = some y := ⟨_, List.getElem?_eq_getElem hj⟩
  refine ⟨[some (.tup l), some (.tup l), none, some (.int j)], rfl, ?_⟩
  simp [idx_tup S hy, h y (List.mem_of_getElem? hy)]
theorem same_lstC (n r : Nat) (l : List D) (S : Sto) (hr : S[r]? = some (.lst l)) (hl : l.length ≤ 1000) (h : ∀ x ∈ l, ∀ S, rn n f__law_same [x, x] S = .ok (.bl true) S) : evC G.sub (rn n) sameC [some (.ref r), some (.ref r), none, none] S = .ok [] S := by
  rw [evC_mk]
  have e1 : evI G.sub (rn n) (.rng1 (.bi .len (.cons (.var 1) .nil))) [some (.ref r), some (.ref r), none, none] S = .ok (rngL 0 l.length, none) S := by
    have e0 : evE G.sub (rn n) (.bi .len (.cons (.var 1) .nil)) [some (.ref r), some (.ref r), none, none] S = .ok (.int l.length) S := by simp [biD, bLen, hr]
    rw [evI_rng1, e0]
    simp only [R.bind_ok, rngD_small hl, R.of_some]
  rw [e1]
  simp only [R.bind_ok]
  rw [if_pos (by simp [rngL, line]; omega)]
  refine comp_none rfl fun x hx => ?_
  obtain ⟨j, hj, rfl⟩ := rng_mem hx
  obtain ⟨y, hy⟩ : ∃ y, l[j]? = some y := ⟨_, List.getElem?_eq_getElem hj⟩
  refine ⟨[some (.ref r), some (.ref r), none, some (.int j)], rfl, ?_⟩
  simp [idx_lst hr hy, h y (List.mem_of_getElem? hy)]
theorem same_pl {k : Nat} {d : D} (h : Pl k d) : ∀ (n : Nat) (S : Sto), rn (n + k + 1) f__law_same [d, d] S = .ok (.bl true) S := by
  induction h with
  | non => exact fun n S => same_run _ _ S rfl fun S => by simp [d__law_same, startE, cmpO, cIs]
  | bl b => exact fun n S => same_run _ _ S rfl fun S => by simp [d__law_same, startE, cmpO, cIs, isK, eqD]
  | int i => exact fun n S => same_run _ _ S rfl fun S => by simp [d__law_same, startE, cmpO, cIs, isK, eqD]
  | str s => exact fun n S => same_run _ _ S rfl fun S => by simp [d__law_same, startE, cmpO, cIs, isK, eqD]
  | @tup k l hl a ih =>
    intro n S
    refine same_run _ _ S (Pl.free (.tup hl a)) fun S => ?_
    have hc := same_tupC (n + (k + 1)) l S hl fun x hx S => ih x hx n S
    unfold sameC at hc
    simp [d__law_same, startE, cmpO, cIs, isK, eqD, biD, bLen, evE_nilc, hc]
theorem kind_lst {S : Sto} {r : Nat} {l : List D} (h : S[r]? = some (.lst l)) : kind S (.ref r) = some .list := by simp [kind, h]
theorem kind_dct {S : Sto} {r : Nat} {l : List (D × D)} (h : S[r]? = some (.dct l)) : kind S (.ref r) = some .dict := by simp [kind, h]
theorem same_ref (n r : Nat) (S : Sto) {b : Bool} (h : evSs G.sub (rn n) d__law_same.body (startE d__law_same [.ref r, .ref r]) S = .rt (.bl b) S) : rn (n + 1) f__law_same [.ref r, .ref r] S = .ok (.bl b) S := by
  rw [rn_at (d := d__law_same) rfl]
  simp only [runB_eq, h, endB_rt, show D.freeL [D.ref r, D.ref r] = false from rfl, Bool.false_eq_true, if_false]
  rfl
theorem same_lst {k : Nat} (n r : Nat) (l : List D) (S : Sto) (hr : S[r]? = some (.lst l)) (hl : l.length ≤ 1000) (h : ∀ x ∈ l, Pl k x) : rn (n + k + 2) f__law_same [.ref r, .ref r] S = .ok (.bl true) S := by
  refine same_ref _ _ S ?_
  have hc := same_lstC (n + k + 1) r l S hr hl fun x hx S => same_pl (h x hx) n S
  unfold sameC at hc
  simp [d__law_same, startE, cmpO, cIs, isK, eqD, biD, bLen, evE_nilc, hc, kind_lst hr, hr]
theorem same_dct (n r : Nat) (S : Sto) (hr : S[r]? = some (.dct [])) : rn (n + 1) f__law_same [.ref r, .ref r] S = .ok (.bl true) S := by
  refine same_ref _ _ S ?_
  have hc : evC G.sub (rn n) (.mk [2] (.var 2) (.nm 2) (.valv 1) (some (.or (.cmp .notin (.var 2) (.var 0)) (.not (.call f__law_same (.cons (.idx (.var 0) (.var 2)) (.cons (.idx (.var 1) (.var 2)) .nil))))))) [some (.ref r), some (.ref r), none, none] S = .ok [] S := by
    rw [evC_mk]
    simp [isD0, hr, compB_nil]
  simp [d__law_same, startE, cmpO, cIs, isK, eqD, biD, bLen, evE_nilc, hc, kind_dct hr, hr]
end K00

namespace K00
open Eg
/-- data with at most one reference at its top -/
inductive Vl (S : Sto) : D → Prop
  | pl {d : D} (h : Pl 2 d) : Vl S d
  | lst {r : Nat} {l : List D} (h : S[r]? = some (.lst l)) (hl : l.length ≤ 900) (a : ∀ x ∈ l, Pl 1 x) : Vl S (.ref r)
  | dct {r : Nat} (h : S[r]? = some (.dct [])) : Vl S (.ref r)
theorem nonfree {n f : Nat} {d : Df} {ds : List D} {S : Sto} (h : T[f]? = some d) (hl : ds.length = d.ps) (hf : D.freeL ds = false) : rn (n + 1) f ds S = endB (evSs G.sub (rn n) d.body (startE d ds) S) := by
  rw [rn_at h, if_pos hl, hf, runB_eq]; rfl
theorem isfree {n f : Nat} {d : Df} {ds : List D} {S : Sto} (h : T[f]? = some d) (hl : ds.length = d.ps) (hf : D.freeL ds = true) : rn (n + 1) f ds S = reloc S (endB (evSs G.sub (rn n) d.body (startE d ds) [])) := by
  rw [rn_at h, if_pos hl, hf, runB_eq]; rfl
theorem pl_nolist {k : Nat} {d : D} (h : Pl k d) (S : Sto) : ∃ kd, kind S d = some kd ∧ isK G.sub kd .list = false := by
  cases h with
  | non => exact ⟨_, rfl, rfl⟩
  | bl b => exact ⟨_, rfl, rfl⟩
  | int i => exact ⟨_, rfl, rfl⟩
  | str s => exact ⟨_, rfl, rfl⟩
  | tup h a => exact ⟨_, rfl, rfl⟩
theorem blamed_ok (n : Nat) (v : D) (S : Sto) (h : Vl S v) : ∃ S', rn (n + 5) f__law_blamed [v, v] S = .ok (.bl true) S' ∧ S'.length = S.length ∧ ∀ i, v ≠ .ref i → S'[i]? = S[i]? := by
  cases h with
  | pl h =>
    refine ⟨S, ?_, rfl, fun _ _ => rfl⟩
    rw [isfree (d := d__law_blamed) rfl rfl (by simp [D.freeL, h.free])]
    have e := same_pl h (n + 1) []
    obtain ⟨kd, k1, k2⟩ := pl_nolist h []
    simp [d__law_blamed, startE, e, k1, k2]
  | @lst r l hr hl a =>
    have e := same_lst (k := 1) (n + 1) r l S hr (by omega) a
    have hr2 : (S.set r (.lst (l ++ [.int 7])))[r]? = some (.lst (l ++ [.int 7])) := List.getElem?_set_self (List.getElem?_eq_some_iff.mp hr).1
    have e2 := same_lst (k := 1) (n + 1) r (l ++ [.int 7]) (S.set r (.lst (l ++ [.int 7]))) hr2 (by simp; omega) (fun x hx => by
      rcases List.mem_append.mp hx with hx | hx
      · exact a x hx
      · rw [List.mem_singleton.mp hx]; exact .int 7)
    refine ⟨S.set r (.lst (l ++ [.int 7])), ?_, by simp, fun i hi => List.getElem?_set_ne fun z => hi (by rw [z])⟩
    rw [nonfree (d := d__law_blamed) rfl rfl rfl]
    have lo : lstOf S r = some l := by unfold lstOf; rw [hr]
    have lt : l.length < line := by unfold line; omega
    simp [d__law_blamed, startE, e, e2, kind_lst hr, isK, lo, meD, hr, lt]
  | @dct r hr =>
    have e := same_dct (n + 3) r S hr
    refine ⟨S, ?_, rfl, fun _ _ => rfl⟩
    rw [nonfree (d := d__law_blamed) rfl rfl rfl]
    simp [d__law_blamed, startE, e, kind_dct hr, isK]
abbrev TOLD : List Nat := [116, 111, 108, 100]
theorem met_told (n i j : Nat) (x : D) (S : Sto) (hi : S[i]? = some (.lst [.str TOLD, x])) (hj : S[j]? = some (.lst [.str TOLD, x])) (h : Pl 2 x) : rn (n + 6) f__law_met [.ref i, .ref j] S = .ok (.bl true) S := by
  rw [nonfree (d := d__law_met) rfl rfl rfl]
  have i0 : idxD (.ref i) (.int 0) S = .ok (.str TOLD) S := idx_ref hi rfl
  have j0 : idxD (.ref j) (.int 0) S = .ok (.str TOLD) S := idx_ref hj rfl
  have i1 : idxD (.ref i) (.int 1) S = .ok x S := idx_ref hi rfl
  have j1 : idxD (.ref j) (.int 1) S = .ok x S := idx_ref hj rfl
  have e := same_pl h (n + 2) S
  simp [d__law_met, startE, i0, j0, i1, j1, e]
theorem met_else (n i j : Nat) (w : List Nat) (x : D) (S : Sto) (hw : w ≠ TOLD) (hi : S[i]? = some (.lst [.str w, x])) (hj : S[j]? = some (.lst [.str w, x])) (h : Vl S x) : ∃ S', rn (n + 6) f__law_met [.ref i, .ref j] S = .ok (.bl true) S' ∧ S'.length = S.length ∧ ∀ i, x ≠ .ref i → S'[i]? = S[i]? := by
  rw [nonfree (d := d__law_met) rfl rfl rfl]
  have i0 : idxD (.ref i) (.int 0) S = .ok (.str w) S := idx_ref hi rfl
  have j0 : idxD (.ref j) (.int 0) S = .ok (.str w) S := idx_ref hj rfl
  have i1 : idxD (.ref i) (.int 1) S = .ok x S := idx_ref hi rfl
  have j1 : idxD (.ref j) (.int 1) S = .ok x S := idx_ref hj rfl
  obtain ⟨S', e, h1, h2⟩ := blamed_ok n x S h
  refine ⟨S', ?_, h1, h2⟩
  have hw' : ¬ w = [116, 111, 108, 100] := hw
  simp [d__law_met, startE, i0, j0, i1, j1, e, hw']
/-! ### what is asked -/
abbrev GIV : List Nat := [103, 105, 118, 101, 110]
section
variable (n i : Nat) (a0 a1 res : D) (rest : List D) (by_ : Bool) (S : Sto)
theorem ask0 {l : List D} (h : S[i]? = some (.lst (a0 :: l))) : idxD (.ref i) (.int 0) S = .ok a0 S := idx_ref h (by
  have : (0 : Int) < (l.length : Int) + 1 := by omega
  simp [atL, ixN, this])
theorem ask1 {l : List D} (h : S[i]? = some (.lst (a0 :: a1 :: l))) : idxD (.ref i) (.int 1) S = .ok a1 S := idx_ref h (by
  have : (1 : Int) < (l.length : Int) + 1 + 1 := by omega
  simp [atL, ixN, this])
variable (hi : S[i]? = some (.lst (a0 :: a1 :: rest)))
include hi
theorem asked_fraction (h : rn n f_fraction [a0, a1] S = .ok res S) : rn (n + 1) f__law_asked [.str [102, 114, 97, 99, 116, 105, 111, 110], .ref i, .bl by_] S = .ok (.ref S.length) (S ++ [.lst [.str TOLD, res]]) := by
  rw [nonfree (d := d__law_asked) rfl rfl rfl]
  have x0 := ask0 i a0 S hi
  have x1 := ask1 i a0 a1 S hi
  cases by_ <;> simp [d__law_asked, startE, x0, x1, h, line]
theorem asked_fraction_x (c : Nat) (v : D) (w : List Nat) (h : rn n f_fraction [a0, a1] S = .ex ⟨c, [(GIV, v)]⟩ S) (hc : (c = c_InvalidTop ∧ w = [116, 111, 112]) ∨ (c = c_InvalidBase ∧ w = [98, 97, 115, 101])) : rn (n + 1) f__law_asked [.str [102, 114, 97, 99, 116, 105, 111, 110], .ref i, .bl by_] S = .ok (.ref S.length) (S ++ [.lst [.str w, v]]) := by
  rw [nonfree (d := d__law_asked) rfl rfl rfl]
  have x0 := ask0 i a0 S hi
  have x1 := ask1 i a0 a1 S hi
  rcases hc with ⟨rfl, rfl⟩ | ⟨rfl, rfl⟩
  · cases by_ <;> simp [d__law_asked, startE, x0, x1, h, line, hdl, hisD, hiD, G, List.lookup, c_InvalidTop, c_InvalidBase, c_InvalidNumber, c_ZeroNumber, c_LookError]
  · cases by_ <;> simp [d__law_asked, startE, x0, x1, h, line, hdl, hisD, hiD, G, List.lookup, c_InvalidTop, c_InvalidBase, c_InvalidNumber, c_ZeroNumber, c_LookError]
/-- the five of two numbers: word, its def -/
def isTwo (w : List Nat) (f : Nat) : Prop := (w = [97, 100, 100] ∧ f = f_add) ∨ (w = [115, 117, 98, 116, 114, 97, 99, 116] ∧ f = f_subtract) ∨ (w = [109, 117, 108, 116, 105, 112, 108, 121] ∧ f = f_multiply) ∨ (w = [100, 105, 118, 105, 100, 101] ∧ f = f_divide) ∨ (w = [99, 111, 109, 112, 97, 114, 101] ∧ f = f_compare)
theorem asked_two (w : List Nat) (f : Nat) (hw : isTwo w f) (h : rn n f [a0, a1] S = .ok res S) : rn (n + 1) f__law_asked [.str w, .ref i, .bl by_] S = .ok (.ref S.length) (S ++ [.lst [.str TOLD, res]]) := by
  rw [nonfree (d := d__law_asked) rfl rfl rfl]
  have x0 := ask0 i a0 S hi
  have x1 := ask1 i a0 a1 S hi
  rcases hw with ⟨rfl, rfl⟩ | ⟨rfl, rfl⟩ | ⟨rfl, rfl⟩ | ⟨rfl, rfl⟩ | ⟨rfl, rfl⟩ <;> cases by_ <;> simp [d__law_asked, startE, x0, x1, h, line]
theorem asked_two_x (w : List Nat) (f : Nat) (hw : isTwo w f) (v : D) (h : rn n f [a0, a1] S = .ex ⟨c_InvalidNumber, [(GIV, v)]⟩ S) : rn (n + 1) f__law_asked [.str w, .ref i, .bl by_] S = .ok (.ref S.length) (S ++ [.lst [.str [110, 117, 109, 98, 101, 114], v]]) := by
  rw [nonfree (d := d__law_asked) rfl rfl rfl]
  have x0 := ask0 i a0 S hi
  have x1 := ask1 i a0 a1 S hi
  rcases hw with ⟨rfl, rfl⟩ | ⟨rfl, rfl⟩ | ⟨rfl, rfl⟩ | ⟨rfl, rfl⟩ | ⟨rfl, rfl⟩ <;> cases by_ <;> simp [d__law_asked, startE, x0, x1, h, line, hdl, hisD, hiD, G, List.lookup, c_InvalidTop, c_InvalidBase, c_InvalidNumber, c_ZeroNumber, c_LookError]
theorem asked_zero (h : rn n f_divide [a0, a1] S = .ex ⟨c_ZeroNumber, []⟩ S) : rn (n + 1) f__law_asked [.str [100, 105, 118, 105, 100, 101], .ref i, .bl by_] S = .ok (.ref S.length) (S ++ [.lst [.str [122, 101, 114, 111], .non]]) := by
  rw [nonfree (d := d__law_asked) rfl rfl rfl]
  have x0 := ask0 i a0 S hi
  have x1 := ask1 i a0 a1 S hi
  cases by_ <;> simp [d__law_asked, startE, x0, x1, h, line, hdl, hisD, hiD, G, c_InvalidTop, c_InvalidBase, c_InvalidNumber, c_ZeroNumber, c_LookError]
omit hi in
theorem asked_number (hi : S[i]? = some (.lst (a0 :: rest))) (h : rn n f_is_number [a0] S = .ok res S) : rn (n + 1) f__law_asked [.str [110, 117, 109, 98, 101, 114], .ref i, .bl by_] S = .ok (.ref S.length) (S ++ [.lst [.str TOLD, res]]) := by
  rw [nonfree (d := d__law_asked) rfl rfl rfl]
  have x0 := ask0 i a0 S hi
  cases by_ <;> simp [d__law_asked, startE, x0, h, line]
end
end K00

namespace K00
open Eg
/-! ### rows -/
/-- the check of one row: what it reads, what it may change -/
def RowSp (row : D) (dep : List Nat) (own : Option Nat) (S : Sto) : Prop := ∃ (w : List Nat) (i j : Nat), row = .tup [.str w, .ref i, .ref j] ∧ ∀ S' : Sto, S.length ≤ S'.length → (∀ x ∈ dep, S'[x]? = S[x]?) → ∀ by_ : Bool,
  ∃ (r : Nat) (S1 S2 : Sto), rn 20 f__law_asked [.str w, .ref i, .bl by_] S' = .ok (.ref r) S1 ∧ rn 20 f__law_met [.ref r, .ref j] S1 = .ok (.bl true) S2 ∧ S'.length ≤ S2.length ∧ ∀ x, x < S'.length → own ≠ some x → S2[x]? = S'[x]?
structure Rw where
  row : D
  dep : List Nat
  own : Option Nat
def RowsOk (S : Sto) : List Rw → Prop
  | [] => True
  | q :: l => RowSp q.row q.dep q.own S ∧ (∀ x ∈ q.dep, x < S.length) ∧ (∀ o, q.own = some o → o < S.length ∧ ∀ p ∈ l, o ∉ p.dep) ∧ RowsOk S l
abbrev rowsB : Ss := (.cons (.ife (.not (.call f__law_met (.cons (.call f__law_asked (.cons (.var 2) (.cons (.var 3) (.cons (.var 1) .nil)))) (.cons (.var 4) .nil)))) (.cons (.ret (.lit (.bl false))) .nil) .nil) (.cons (.asg 1 (.not (.var 1))) .nil))
theorem rows_loop (R : Nat) (all : O) (S : Sto) : ∀ (l : List Rw) (S' : Sto) (by_ : Bool) (x2 x3 x4 : Option D), RowsOk S l → S.length ≤ S'.length → (∀ q ∈ l, ∀ x ∈ q.dep, S'[x]? = S[x]?) → R < S.length → S'[R]? = some all → (∀ q ∈ l, q.own ≠ some R) →
    ∃ (ρ : Env) (S2 : Sto), forB G.sub (rn 20) (.tp [.nm 2, .nm 3, .nm 4]) rowsB (some (R, all)) (l.map (·.row)) [some (.ref R), some (.bl by_), x2, x3, x4] S' = .nx ρ S2 ∧ S'.length ≤ S2.length ∧ ∀ x, x < S'.length → (∀ q ∈ l, q.own ≠ some x) → S2[x]? = S'[x]?
  | [], S', by_, x2, x3, x4, _, _, _, _, _, _ => ⟨_, S', rfl, Nat.le_refl _, fun _ _ _ => rfl⟩
  | q :: l, S', by_, x2, x3, x4, h, hl, hd, hR, hall, hno => by
    obtain ⟨⟨w, i, j, er, go⟩, h2, h3, h4⟩ := h
    obtain ⟨r, S1, S2, e1, e2, len2, keep2⟩ := go S' hl (hd q (by simp)) by_
    have hR' : S2[R]? = some all := (keep2 R (Nat.lt_of_lt_of_le hR hl) (hno q (by simp))).trans hall
    obtain ⟨ρ, S3, e3, len3, keep3⟩ := rows_loop R all S l S2 (!by_) (some (.str w)) (some (.ref i)) (some (.ref j)) h4 (Nat.le_trans hl len2) (fun p hp x hx => by
      have lt : x < S'.length := by
        have : S[x]? = S'[x]? := (hd p (List.mem_cons_of_mem _ hp) x hx).symm
        by_cases c : x < S'.length
        · exact c
        · have z1 : S'[x]? = none := List.getElem?_eq_none (by omega)
          have z2 : S[x]? = none := this.trans z1
          have z3 := List.getElem?_eq_none_iff.mp z2
          exact absurd (depLt h4 p hp x hx) (by omega)
      refine (keep2 x lt fun eo => ?_).trans (hd p (List.mem_cons_of_mem _ hp) x hx)
      exact (h3 x eo).2 p hp hx) hR hR' (fun p hp => hno p (List.mem_cons_of_mem _ hp))
    refine ⟨ρ, S3, ?_, Nat.le_trans len2 len3, fun x hx hq => (keep3 x (Nat.lt_of_lt_of_le hx len2) fun p hp => hq p (List.mem_cons_of_mem _ hp)).trans (keep2 x hx (hq q (by simp)))⟩
    rw [List.map_cons, er, forB_cons]
    have eb : bindT S' (.tp [.nm 2, .nm 3, .nm 4]) (.tup [.str w, .ref i, .ref j]) [some (.ref R), some (.bl by_), x2, x3, x4] = some [some (.ref R), some (.bl by_), some (.str w), some (.ref i), some (.ref j)] := by
      simp [bindT, bindTs, setE]
    rw [eb]
    have ev : evSs G.sub (rn 20) rowsB [some (.ref R), some (.bl by_), some (.str w), some (.ref i), some (.ref j)] S' = .nx [some (.ref R), some (.bl (!by_)), some (.str w), some (.ref i), some (.ref j)] S2 := by
      simp [e1, e2, setE]
    simp only [ev]
    rw [if_pos (by simp [gOk, hR'])]
    exact e3
where
  depLt {S : Sto} : ∀ {l : List Rw}, RowsOk S l → ∀ p ∈ l, ∀ x ∈ p.dep, x < S.length
    | [], _, _, hp => by cases hp
    | q :: l, h, p, hp => by
      rcases List.mem_cons.mp hp with e | hp
      · rw [e]; exact h.2.1
      · exact depLt h.2.2.2 p hp
theorem rows_right (R : Nat) (S : Sto) (l : List Rw) (by_ : Bool) (hR : S[R]? = some (.lst (l.map (·.row)))) (h : RowsOk S l) (hno : ∀ q ∈ l, q.own ≠ some R) : ∃ S2, rn 21 f__law_rows_right [.ref R, .bl by_] S = .ok (.bl true) S2 ∧ S.length ≤ S2.length ∧ ∀ x, x < S.length → (∀ q ∈ l, q.own ≠ some x) → S2[x]? = S[x]? := by
  have hlt := (List.getElem?_eq_some_iff.mp hR).1
  obtain ⟨ρ, S2, e, len, keep⟩ := rows_loop R (.lst (l.map (·.row))) S l S by_ none none none h (Nat.le_refl _) (fun _ _ _ _ => rfl) hlt hR hno
  refine ⟨S2, ?_, len, keep⟩
  rw [nonfree (d := d__law_rows_right) rfl rfl rfl]
  have e2 : evS G.sub (rn 20) (.fr (.tp [.nm 2, .nm 3, .nm 4]) (.val (.var 0)) rowsB) [some (.ref R), some (.bl by_), none, none, none] S = .nx ρ S2 := by
    rw [evS_fr]
    simp [srcD, hR]
    exact e
  have e3 : evSs G.sub (rn 20) d__law_rows_right.body (startE d__law_rows_right [.ref R, .bl by_]) S = .rt (.bl true) S2 := by
    show evSs G.sub (rn 20) (.cons (.fr (.tp [.nm 2, .nm 3, .nm 4]) (.val (.var 0)) rowsB) (.cons (.ret (.lit (.bl true))) .nil)) [some (.ref R), some (.bl by_), none, none, none] S = _
    rw [evSs_cons, e2]
    simp
  rw [e3]
  rfl
end K00

namespace K00
open Eg
def refO : D → List Nat
  | .ref r => [r]
  | _ => []
def ownO : D → Option Nat
  | .ref r => some r
  | _ => none
theorem Vl.agree {S S' : Sto} {v : D} (h : Vl S v) (ha : ∀ x ∈ refO v, S'[x]? = S[x]?) : Vl S' v := by
  cases h with
  | pl h => exact .pl h
  | lst h hl a => exact .lst ((ha _ (by simp [refO])).trans h) hl a
  | dct h => exact .dct ((ha _ (by simp [refO])).trans h)
theorem row_told {w : List Nat} {i j : Nat} {x : D} {dep : List Nat} {S : Sto} (hj : S[j]? = some (.lst [.str TOLD, x])) (hd : j ∈ dep) (hp : Pl 2 x)
    (ask : ∀ S' : Sto, (∀ x ∈ dep, S'[x]? = S[x]?) → ∀ by_ : Bool, rn 20 f__law_asked [.str w, .ref i, .bl by_] S' = .ok (.ref S'.length) (S' ++ [.lst [.str TOLD, x]])) : RowSp (.tup [.str w, .ref i, .ref j]) dep none S := by
  refine ⟨w, i, j, rfl, fun S' hl ha by_ => ⟨_, _, _, ask S' ha by_, met_told 14 _ _ x _ ?_ ?_ hp, by simp, fun y hy _ => List.getElem?_append_left hy⟩⟩
  · simp
  · have := (ha j hd).trans hj
    exact (List.getElem?_append_left (List.getElem?_eq_some_iff.mp this).1).trans this
theorem row_else {w u : List Nat} {i j : Nat} {x : D} {S : Sto} (hu : u ≠ TOLD) (hj : S[j]? = some (.lst [.str u, x])) (hv : Vl S x) {dep : List Nat} (hd : j ∈ dep) (hd2 : ∀ y ∈ refO x, y ∈ dep)
    (ask : ∀ S' : Sto, (∀ x ∈ dep, S'[x]? = S[x]?) → ∀ by_ : Bool, rn 20 f__law_asked [.str w, .ref i, .bl by_] S' = .ok (.ref S'.length) (S' ++ [.lst [.str u, x]])) : RowSp (.tup [.str w, .ref i, .ref j]) dep (ownO x) S := by
  refine ⟨w, i, j, rfl, fun S' hl ha by_ => ?_⟩
  have hj' := (ha j hd).trans hj
  have hv' : Vl (S' ++ [.lst [.str u, x]]) x := (hv.agree fun y hy => ha y (hd2 y hy)).agree fun y hy => by
    have : y < S'.length := by
      cases hv.agree (fun y hy => ha y (hd2 y hy)) with
      | pl h =>
        cases x <;> simp [refO] at hy
        cases h
      | lst h => simp [refO] at hy; subst hy; exact (List.getElem?_eq_some_iff.mp h).1
      | dct h => simp [refO] at hy; subst hy; exact (List.getElem?_eq_some_iff.mp h).1
    exact List.getElem?_append_left this
  obtain ⟨S2, e, l2, k2⟩ := met_else 14 S'.length j u x (S' ++ [.lst [.str u, x]]) hu (by simp) ((List.getElem?_append_left (List.getElem?_eq_some_iff.mp hj').1).trans hj') hv'
  refine ⟨_, _, S2, ask S' ha by_, e, by rw [l2]; simp, fun y hy ho => (k2 y fun z => ho (by rw [z]; rfl)).trans (List.getElem?_append_left hy)⟩
theorem low_pl {t b : Int} : Pl 2 (low t b) := .tup (by simp) (by intro x hx; simp at hx; rcases hx with rfl | rfl <;> exact .int _)
theorem fraction_ok (n : Nat) (t b : Int) (S : Sto) (hb : b ≠ 0) (h1 : t.natAbs < 2 ^ 4000) (h2 : b.natAbs < 2 ^ 4000) : rn (n + 3) f_fraction [.int t, .int b] S = .ok (low t b) S := by
  rw [isfree (d := d_fraction) rfl rfl rfl]
  simp [d_fraction, startE, is_integer_int, hb, lowest_ok n t b [] hb h1 h2, ret_low]
theorem row_fraction {i j : Nat} {t b : Int} {S : Sto} (hb : b ≠ 0) (h1 : Sml t) (h2 : Sml b) (hi : S[i]? = some (.lst [.int t, .int b])) (hj : S[j]? = some (.lst [.str TOLD, low t b])) : RowSp (.tup [.str [102, 114, 97, 99, 116, 105, 111, 110], .ref i, .ref j]) [i, j] none S :=
  row_told hj (by simp) low_pl fun S' ha by_ => asked_fraction 19 i _ _ _ [] by_ S' ((ha i (by simp)).trans hi) (fraction_ok 16 t b S' hb (sm_up h1 (by omega)) (sm_up h2 (by omega)))
theorem row_number {i j : Nat} {p q : Int} {S : Sto} {r : Bool} (h1 : Sml p) (h2 : Sml q) (hr : r = isNum p q) (hi : S[i]? = some (.lst [nb p q])) (hj : S[j]? = some (.lst [.str TOLD, .bl r])) : RowSp (.tup [.str [110, 117, 109, 98, 101, 114], .ref i, .ref j]) [i, j] none S :=
  row_told hj (by simp) (.bl r) fun S' ha by_ => asked_number 19 i _ _ [] by_ S' ((ha i (by simp)).trans hi) (hr ▸ is_number_nb 17 p q S' h1 h2)
/-- no number -/
structure BN (S : Sto) (v : D) : Prop where
  vl : Vl S v
  fr : D.free v = true → ∀ (n : Nat) (S' : Sto), rn (n + 2) f_is_number [v] S' = .ok (.bl false) S'
  at_ : ∀ (n : Nat) (S' : Sto), (∀ x ∈ refO v, S'[x]? = S[x]?) → rn (n + 2) f_is_number [v] S' = .ok (.bl false) S'
theorem BN.agree {S S' : Sto} {v : D} (h : BN S v) (ha : ∀ x ∈ refO v, S'[x]? = S[x]?) : BN S' v := ⟨h.vl.agree ha, h.fr, fun n S2 h2 => h.at_ n S2 fun x hx => (h2 x hx).trans (ha x hx)⟩
theorem row_nonumber {i j : Nat} {v : D} {S : Sto} (hv : BN S v) (hi : S[i]? = some (.lst [v])) (hj : S[j]? = some (.lst [.str TOLD, .bl false])) : RowSp (.tup [.str [110, 117, 109, 98, 101, 114], .ref i, .ref j]) (i :: j :: refO v) none S :=
  row_told hj (by simp) (.bl false) fun S' ha by_ => asked_number 19 i _ _ [] by_ S' ((ha i (by simp)).trans hi) (hv.at_ 17 S' fun x hx => ha x (by simp [hx]))
theorem free_ref {S : Sto} {v : D} (h : Vl S v) : D.free v = true ∨ ∃ r, v = .ref r := by
  cases h with
  | pl h => exact .inl h.free
  | lst => exact .inr ⟨_, rfl⟩
  | dct => exact .inr ⟨_, rfl⟩
theorem check_number_x (n : Nat) (v : D) (S : Sto) (h : BN S v) : rn (n + 3) f_check_number [v] S = .ex ⟨c_InvalidNumber, [(GIV, v)]⟩ S := by
  rcases free_ref h.vl with f | ⟨r, rfl⟩
  · rw [isfree (d := d_check_number) rfl rfl (by simp [D.freeL, f])]
    simp [d_check_number, startE, h.fr f n []]
    exact reloc_exf _ _ (by simp [fsFree, f])
  · rw [nonfree (d := d_check_number) rfl rfl rfl]
    simp [d_check_number, startE, h.at_ n S fun _ _ => rfl]
theorem check_two_x1 (n : Nat) (v o : D) (S : Sto) (h : BN S v) : rn (n + 4) f_check_two [v, o] S = .ex ⟨c_InvalidNumber, [(GIV, v)]⟩ S := by
  cases f : D.freeL [v, o] with
  | true =>
    have fv : D.free v = true := by simp [D.freeL] at f; exact f.1
    have h0 : BN [] v := h.agree fun x hx => by cases v <;> simp [refO] at hx; simp [D.free] at fv
    rw [isfree (d := d_check_two) rfl rfl f]
    simp [d_check_two, startE, check_number_x n v [] h0]
    exact reloc_exf _ _ (by simp [fsFree, fv])
  | false =>
    rw [nonfree (d := d_check_two) rfl rfl f]
    simp [d_check_two, startE, check_number_x n v S h]
theorem check_two_x2 (n : Nat) (p q : Int) (v : D) (S : Sto) (h1 : Sml p) (h2 : Sml q) (g : isNum p q = true) (h : BN S v) : rn (n + 4) f_check_two [nb p q, v] S = .ex ⟨c_InvalidNumber, [(GIV, v)]⟩ S := by
  cases f : D.freeL [nb p q, v] with
  | true =>
    have fv : D.free v = true := by simp [D.freeL] at f; exact f.2
    have h0 : BN [] v := h.agree fun x hx => by cases v <;> simp [refO] at hx; simp [D.free] at fv
    rw [isfree (d := d_check_two) rfl rfl f]
    simp [d_check_two, startE, check_number_ok n p q [] h1 h2 g, check_number_x n v [] h0]
    exact reloc_exf _ _ (by simp [fsFree, fv])
  | false =>
    rw [nonfree (d := d_check_two) rfl rfl f]
    simp [d_check_two, startE, check_number_ok n p q S h1 h2 g, check_number_x n v S h]
theorem two_x (n : Nat) {w : List Nat} {f : Nat} (hw : isTwo w f) (a b v : D) (S : Sto) (h : ∀ S', S' = S ∨ (S' = [] ∧ D.freeL [a, b] = true) → rn (n + 4) f_check_two [a, b] S' = .ex ⟨c_InvalidNumber, [(GIV, v)]⟩ S') (hv : D.freeL [a, b] = true → D.free v = true) : rn (n + 5) f [a, b] S = .ex ⟨c_InvalidNumber, [(GIV, v)]⟩ S := by
  cases fr : D.freeL [a, b] with
  | true =>
    have h0 := h [] (.inr ⟨rfl, fr⟩)
    have fx : fsFree [(GIV, v)] = true := by simp [fsFree, hv fr]
    rcases hw with ⟨_, rfl⟩ | ⟨_, rfl⟩ | ⟨_, rfl⟩ | ⟨_, rfl⟩ | ⟨_, rfl⟩
    · rw [isfree (d := d_add) rfl rfl fr]; simp [d_add, startE, h0]; exact reloc_exf _ _ fx
    · rw [isfree (d := d_subtract) rfl rfl fr]; simp [d_subtract, startE, h0]; exact reloc_exf _ _ fx
    · rw [isfree (d := d_multiply) rfl rfl fr]; simp [d_multiply, startE, h0]; exact reloc_exf _ _ fx
    · rw [isfree (d := d_divide) rfl rfl fr]; simp [d_divide, startE, h0]; exact reloc_exf _ _ fx
    · rw [isfree (d := d_compare) rfl rfl fr]; simp [d_compare, startE, h0]; exact reloc_exf _ _ fx
  | false =>
    have h0 := h S (.inl rfl)
    rcases hw with ⟨_, rfl⟩ | ⟨_, rfl⟩ | ⟨_, rfl⟩ | ⟨_, rfl⟩ | ⟨_, rfl⟩
    · rw [nonfree (d := d_add) rfl rfl fr]; simp [d_add, startE, h0]
    · rw [nonfree (d := d_subtract) rfl rfl fr]; simp [d_subtract, startE, h0]
    · rw [nonfree (d := d_multiply) rfl rfl fr]; simp [d_multiply, startE, h0]
    · rw [nonfree (d := d_divide) rfl rfl fr]; simp [d_divide, startE, h0]
    · rw [nonfree (d := d_compare) rfl rfl fr]; simp [d_compare, startE, h0]
theorem bn_nil {S : Sto} {v : D} (h : BN S v) (f : D.free v = true) : BN [] v := h.agree fun x hx => by cases v <;> simp [refO] at hx; simp [D.free] at f
abbrev NUMBER : List Nat := [110, 117, 109, 98, 101, 114]
/-- the first one is no number -/
theorem row_bad1 {w : List Nat} {f i j : Nat} (hw : isTwo w f) {v o : D} {S : Sto} (hv : BN S v) (hi : S[i]? = some (.lst [v, o])) (hj : S[j]? = some (.lst [.str NUMBER, v])) : RowSp (.tup [.str w, .ref i, .ref j]) (i :: j :: refO v) (ownO v) S :=
  row_else (by decide) hj hv.vl (by simp) (fun y hy => by simp [hy]) fun S' ha by_ => by
    have hv' : BN S' v := hv.agree fun x hx => ha x (by simp [hx])
    refine asked_two_x 19 i _ _ [] by_ S' ((ha i (by simp)).trans hi) w f hw v (two_x 14 hw v o v S' (fun S2 h2 => ?_) fun fr => by simp [D.freeL] at fr; exact fr.1)
    rcases h2 with rfl | ⟨rfl, fr⟩
    · exact check_two_x1 14 v o _ hv'
    · exact check_two_x1 14 v o _ (bn_nil hv' (by simp [D.freeL] at fr; exact fr.1))
/-- the second one is no number -/
theorem row_bad2 {w : List Nat} {f i j : Nat} (hw : isTwo w f) {p q : Int} {v : D} {S : Sto} (h1 : Sml p) (h2 : Sml q) (g : isNum p q = true) (hv : BN S v) (hi : S[i]? = some (.lst [nb p q, v])) (hj : S[j]? = some (.lst [.str NUMBER, v])) : RowSp (.tup [.str w, .ref i, .ref j]) (i :: j :: refO v) (ownO v) S :=
  row_else (by decide) hj hv.vl (by simp) (fun y hy => by simp [hy]) fun S' ha by_ => by
    have hv' : BN S' v := hv.agree fun x hx => ha x (by simp [hx])
    refine asked_two_x 19 i _ _ [] by_ S' ((ha i (by simp)).trans hi) w f hw v (two_x 14 hw _ v v S' (fun S2 h3 => ?_) fun fr => by simp [D.freeL] at fr; exact fr.2)
    rcases h3 with rfl | ⟨rfl, fr⟩
    · exact check_two_x2 14 p q v _ h1 h2 g hv'
    · exact check_two_x2 14 p q v _ h1 h2 g (bn_nil hv' (by simp [D.freeL] at fr; exact fr.2))
theorem row_two {w : List Nat} {f i j : Nat} (hw : isTwo w f) {a b x : D} {S : Sto} (hx : Pl 2 x) (h : ∀ S', rn 19 f [a, b] S' = .ok x S') (hi : S[i]? = some (.lst [a, b])) (hj : S[j]? = some (.lst [.str TOLD, x])) : RowSp (.tup [.str w, .ref i, .ref j]) [i, j] none S :=
  row_told hj (by simp) hx fun S' ha by_ => asked_two 19 i _ _ _ [] by_ S' ((ha i (by simp)).trans hi) w f hw (h S')
theorem row_zero {i j : Nat} {p q s : Int} {S : Sto} (h1 : Sml p) (h2 : Sml q) (h4 : Sml s) (g1 : isNum p q = true) (g2 : isNum 0 s = true) (hi : S[i]? = some (.lst [nb p q, nb 0 s])) (hj : S[j]? = some (.lst [.str [122, 101, 114, 111], .non])) : RowSp (.tup [.str [100, 105, 118, 105, 100, 101], .ref i, .ref j]) [i, j] none S :=
  row_else (x := .non) (by decide) hj (.pl .non) (by simp) (fun y hy => by simp [refO] at hy) fun S' ha by_ => asked_zero 19 i _ _ [] by_ S' ((ha i (by simp)).trans hi) (divide_zero 14 p q s S' h1 h2 h4 g1 g2)
end K00

namespace K00
open Eg
def isI : D → Bool
  | .int _ => true
  | _ => false
theorem is_integer_pl {k : Nat} {v : D} (h : Pl k v) (n : Nat) (S : Sto) : rn (n + 1) f_is_integer [v] S = .ok (.bl (isI v)) S := by
  rw [isfree (d := d_is_integer) rfl rfl (by simp [D.freeL, h.free])]
  cases h <;> simp [d_is_integer, startE, isK, isI]
theorem is_integer_lst {S : Sto} {r : Nat} {l : List D} (h : S[r]? = some (.lst l)) (n : Nat) : rn (n + 1) f_is_integer [.ref r] S = .ok (.bl false) S := by
  rw [nonfree (d := d_is_integer) rfl rfl rfl]
  simp [d_is_integer, startE, isK, kind_lst h]
theorem is_integer_dct {S : Sto} {r : Nat} {l : List (D × D)} (h : S[r]? = some (.dct l)) (n : Nat) : rn (n + 1) f_is_integer [.ref r] S = .ok (.bl false) S := by
  rw [nonfree (d := d_is_integer) rfl rfl rfl]
  simp [d_is_integer, startE, isK, kind_dct h]
/-- no integer -/
structure NI (S : Sto) (v : D) : Prop where
  vl : Vl S v
  fr : D.free v = true → ∀ (n : Nat) (S' : Sto), rn (n + 1) f_is_integer [v] S' = .ok (.bl false) S'
  at_ : ∀ (n : Nat) (S' : Sto), (∀ x ∈ refO v, S'[x]? = S[x]?) → rn (n + 1) f_is_integer [v] S' = .ok (.bl false) S'
theorem NI.agree {S S' : Sto} {v : D} (h : NI S v) (ha : ∀ x ∈ refO v, S'[x]? = S[x]?) : NI S' v := ⟨h.vl.agree ha, h.fr, fun n S2 h2 => h.at_ n S2 fun x hx => (h2 x hx).trans (ha x hx)⟩
theorem ni_pl {S : Sto} {v : D} (h : Pl 2 v) (hi : isI v = false) : NI S v := ⟨.pl h, fun _ n S' => by rw [is_integer_pl h, hi], fun n S' _ => by rw [is_integer_pl h, hi]⟩
theorem ni_lst {S : Sto} {r : Nat} {l : List D} (h : S[r]? = some (.lst l)) (hl : l.length ≤ 900) (a : ∀ x ∈ l, Pl 1 x) : NI S (.ref r) := ⟨.lst h hl a, fun f => (by cases f), fun n S' ha => is_integer_lst ((ha r (by simp [refO])).trans h) n⟩
theorem ni_dct {S : Sto} {r : Nat} (h : S[r]? = some (.dct [])) : NI S (.ref r) := ⟨.dct h, fun f => (by cases f), fun n S' ha => is_integer_dct ((ha r (by simp [refO])).trans h) n⟩
theorem fraction_top (n : Nat) (v z : D) (S : Sto) (h : NI S v) : rn (n + 2) f_fraction [v, z] S = .ex ⟨c_InvalidTop, [(GIV, v)]⟩ S := by
  cases f : D.freeL [v, z] with
  | true =>
    have fv : D.free v = true := by simp [D.freeL] at f; exact f.1
    rw [isfree (d := d_fraction) rfl rfl f]
    simp [d_fraction, startE, h.fr fv n []]
    exact reloc_exf _ _ (by simp [fsFree, fv])
  | false =>
    rw [nonfree (d := d_fraction) rfl rfl f]
    simp [d_fraction, startE, h.at_ n S fun _ _ => rfl]
theorem fraction_base (n : Nat) (t : Int) (z : D) (S : Sto) (h : NI S z ∨ z = .int 0) : rn (n + 2) f_fraction [.int t, z] S = .ex ⟨c_InvalidBase, [(GIV, z)]⟩ S := by
  rcases h with h | rfl
  · cases f : D.freeL [.int t, z] with
    | true =>
      have fv : D.free z = true := by simp [D.freeL] at f; exact f.2
      rw [isfree (d := d_fraction) rfl rfl f]
      simp [d_fraction, startE, is_integer_int, h.fr fv n []]
      exact reloc_exf _ _ (by simp [fsFree, fv])
    | false =>
      rw [nonfree (d := d_fraction) rfl rfl f]
      simp [d_fraction, startE, is_integer_int, h.at_ n S fun _ _ => rfl]
  · rw [isfree (d := d_fraction) rfl rfl rfl]
    simp [d_fraction, startE, is_integer_int]
    exact reloc_exf _ _ (by simp [fsFree, D.free])
abbrev FRAC : List Nat := [102, 114, 97, 99, 116, 105, 111, 110]
theorem row_top {i j : Nat} {v z : D} {S : Sto} (hv : NI S v) (hi : S[i]? = some (.lst [v, z])) (hj : S[j]? = some (.lst [.str [116, 111, 112], v])) : RowSp (.tup [.str FRAC, .ref i, .ref j]) (i :: j :: refO v) (ownO v) S :=
  row_else (by decide) hj hv.vl (by simp) (fun y hy => by simp [hy]) fun S' ha by_ =>
    asked_fraction_x 19 i _ _ [] by_ S' ((ha i (by simp)).trans hi) c_InvalidTop v _ (fraction_top 17 v z S' (hv.agree fun x hx => ha x (by simp [hx]))) (.inl ⟨rfl, rfl⟩)
theorem row_base {i j : Nat} {t : Int} {z : D} {S : Sto} (hv : NI S z ∨ z = .int 0) (hi : S[i]? = some (.lst [.int t, z])) (hj : S[j]? = some (.lst [.str [98, 97, 115, 101], z])) : RowSp (.tup [.str FRAC, .ref i, .ref j]) (i :: j :: refO z) (ownO z) S := by
  have vl : Vl S z := by
    rcases hv with h | rfl
    · exact h.vl
    · exact .pl (.int 0)
  exact row_else (by decide) hj vl (by simp) (fun y hy => by simp [hy]) fun S' ha by_ =>
    asked_fraction_x 19 i _ _ [] by_ S' ((ha i (by simp)).trans hi) c_InvalidBase z _ (fraction_base 17 t z S' (hv.imp_left fun h => h.agree fun x hx => ha x (by simp [hx]))) (.inr ⟨rfl, rfl⟩)
/-! ### no numbers -/
theorem is_tuple_no {k : Nat} {v : D} (h : Pl k v) (hn : ∀ l, v ≠ .tup l) (n : Nat) (m : Int) (S : Sto) : rn (n + 1) f_is_tuple [v, .int m] S = .ok (.bl false) S := by
  rw [isfree (d := d_is_tuple) rfl rfl (by simp [D.freeL, h.free, D.free])]
  cases h with
  | tup a b => exact absurd rfl (hn _)
  | _ => simp [d_is_tuple, startE, isK]
theorem is_number_no {k : Nat} {v : D} (h : Pl k v) (hn : ∀ l, v ≠ .tup l) (n : Nat) (S : Sto) : rn (n + 2) f_is_number [v] S = .ok (.bl false) S := by
  rw [isfree (d := d_is_number) rfl rfl (by simp [D.freeL, h.free])]
  simp [d_is_number, startE, is_tuple_no h hn]
theorem is_number_len {k : Nat} {l : List D} (h : Pl k (.tup l)) (hl : l.length ≠ 2) (n : Nat) (S : Sto) : rn (n + 2) f_is_number [.tup l] S = .ok (.bl false) S := by
  rw [isfree (d := d_is_number) rfl rfl (by simp [D.freeL, h.free])]
  have : ¬ ((l.length : Int) = 2) := by omega
  simp [d_is_number, startE, is_tuple_tup, this]
theorem is_number_pair {a b : D} (ha : Pl 1 a) (hb : Pl 1 b) (h : isI a = false ∨ isI b = false) (n : Nat) (S : Sto) : rn (n + 2) f_is_number [.tup [a, b]] S = .ok (.bl false) S := by
  rw [isfree (d := d_is_number) rfl rfl (by simp [D.freeL, D.free, ha.free, hb.free])]
  cases ea : isI a with
  | false => simp [d_is_number, startE, is_tuple_tup, idx0, idx1, is_integer_pl ha, ea]
  | true =>
    have eb : isI b = false := h.resolve_left (by rw [ea]; simp)
    simp [d_is_number, startE, is_tuple_tup, idx0, idx1, is_integer_pl ha, is_integer_pl hb, ea, eb]
theorem is_tuple_ref {S : Sto} {r : Nat} {kd : Kd} (h : kind S (.ref r) = some kd) (hk : isK G.sub kd .tuple = false) (n : Nat) (m : Int) : rn (n + 1) f_is_tuple [.ref r, .int m] S = .ok (.bl false) S := by
  rw [nonfree (d := d_is_tuple) rfl rfl rfl]
  simp [d_is_tuple, startE, h, hk]
theorem is_number_ref {S : Sto} {r : Nat} {kd : Kd} (h : kind S (.ref r) = some kd) (hk : isK G.sub kd .tuple = false) (n : Nat) : rn (n + 2) f_is_number [.ref r] S = .ok (.bl false) S := by
  rw [nonfree (d := d_is_number) rfl rfl rfl]
  simp [d_is_number, startE, is_tuple_ref h hk]
theorem bn_pl {S : Sto} {v : D} (h : Pl 2 v) (e : ∀ (n : Nat) (S' : Sto), rn (n + 2) f_is_number [v] S' = .ok (.bl false) S') : BN S v := ⟨.pl h, fun _ => e, fun n S' _ => e n S'⟩
theorem bn_lst {S : Sto} {r : Nat} {l : List D} (h : S[r]? = some (.lst l)) (hl : l.length ≤ 900) (a : ∀ x ∈ l, Pl 1 x) : BN S (.ref r) := ⟨.lst h hl a, fun f => (by cases f), fun n S' ha => is_number_ref (kind_lst ((ha r (by simp [refO])).trans h)) rfl n⟩
theorem bn_dct {S : Sto} {r : Nat} (h : S[r]? = some (.dct [])) : BN S (.ref r) := ⟨.dct h, fun f => (by cases f), fun n S' ha => is_number_ref (kind_dct ((ha r (by simp [refO])).trans h)) rfl n⟩
theorem pl_two {a b : D} (ha : Pl 1 a) (hb : Pl 1 b) : Pl 2 (.tup [a, b]) := .tup (by simp) (by intro x hx; simp at hx; rcases hx with rfl | rfl <;> assumption)
theorem bn_nb {S : Sto} {p q : Int} (h1 : Sml p) (h2 : Sml q) (h : isNum p q = false) : BN S (nb p q) := bn_pl (pl_two (.int p) (.int q)) fun n S' => by rw [is_number_nb n p q S' h1 h2, h]
theorem bn_pair {S : Sto} {a b : D} (ha : Pl 1 a) (hb : Pl 1 b) (h : isI a = false ∨ isI b = false) : BN S (.tup [a, b]) := bn_pl (pl_two ha hb) (is_number_pair ha hb h)
end K00

namespace K00
open Eg
def noL (t c : Int) (s d : Nat) : List D := [.non, .int t, .str [49, 47, 50], nb t 0, nb c (2 * c), nb t (0 - c), .tup [.bl true, .int c], .tup [.int t, .bl true], .ref s, .tup [.int 1], .tup [.int 1, .int c, .int 1], nb 0 c, .tup [.str [49], .int c], .tup [.int 1, .str [50]], .tup [], .ref d, .bl false, .tup [nb 1 2, nb 1 1], .tup [.non, .int 1], .tup [.int 1, .non]]
theorem pl1_tup1 {k : Nat} : Pl (k + 1) (.tup []) := .tup (by simp) (by intro x hx; cases hx)
theorem small_sml {x : Int} (h : x.natAbs < 100) : Sml x := Nat.lt_of_lt_of_le h (Nat.le_trans (by decide : 100 ≤ 2 ^ 10) (Nat.pow_le_pow_right (by omega) (by omega)))
theorem noL_bn {t c : Int} {s d : Nat} {S : Sto} (ht : 1 ≤ t ∧ t ≤ 5) (hc : c = 2 ∨ c = 4 ∨ c = 6) (hs : S[s]? = some (.lst [.int 1, .int c])) (hd : S[d]? = some (.dct [])) : ∀ v ∈ noL t c s d, BN S v := by
  intro v hv
  have st : Sml t := small_sml (by omega)
  have sc : Sml c := small_sml (by omega)
  simp only [noL, List.mem_cons, List.not_mem_nil, or_false] at hv
  rcases hv with rfl | rfl | rfl | rfl | rfl | rfl | rfl | rfl | rfl | rfl | rfl | rfl | rfl | rfl | rfl | rfl | rfl | rfl | rfl | rfl
  · exact bn_pl .non (is_number_no .non (k := 2) (by intro l h; cases h))
  · exact bn_pl (.int t) (is_number_no (.int t) (k := 2) (by intro l h; cases h))
  · exact bn_pl (.str _) (is_number_no (.str _) (k := 2) (by intro l h; cases h))
  · exact bn_nb st (small_sml (by decide)) (by simp [isNum])
  · exact bn_nb sc (small_sml (by omega)) (by rcases hc with rfl | rfl | rfl <;> decide)
  · exact bn_nb st (small_sml (by omega)) (by have : ¬ 0 < 0 - c := by omega
                                              simp only [isNum, this, decide_false, Bool.false_and])
  · exact bn_pair (.bl _) (.int _) (.inl rfl)
  · exact bn_pair (.int _) (.bl _) (.inr rfl)
  · exact bn_lst hs (by simp) (by intro x hx; simp at hx; rcases hx with rfl | rfl <;> exact .int _)
  · exact bn_pl (.tup (by simp) (by intro x hx; simp at hx; subst hx; exact .int 1)) (is_number_len (k := 2) (.tup (by simp) (by intro x hx; simp at hx; subst hx; exact .int 1)) (by simp))
  · exact bn_pl (.tup (by simp) (by intro x hx; simp at hx; rcases hx with rfl | rfl | rfl <;> exact .int _)) (is_number_len (k := 2) (.tup (by simp) (by intro x hx; simp at hx; rcases hx with rfl | rfl | rfl <;> exact .int _)) (by simp))
  · exact bn_nb (small_sml (by decide)) sc (by rcases hc with rfl | rfl | rfl <;> decide)
  · exact bn_pair (.str _) (.int _) (.inl rfl)
  · exact bn_pair (.int _) (.str _) (.inr rfl)
  · exact bn_pl pl1_tup1 (is_number_len (k := 2) pl1_tup1 (by simp))
  · exact bn_dct hd
  · exact bn_pl (.bl _) (is_number_no (.bl _) (k := 2) (by intro l h; cases h))
  · exact bn_pair (.tup (by simp) (by intro x hx; simp at hx; rcases hx with rfl | rfl <;> exact .int _)) (.tup (by simp) (by intro x hx; simp at hx; rcases hx with rfl | rfl <;> exact .int _)) (.inl rfl)
  · exact bn_pair .non (.int _) (.inl rfl)
  · exact bn_pair (.int _) .non (.inr rfl)
theorem noL_ref {t c : Int} {s d r : Nat} {v : D} (hv : v ∈ noL t c s d) (hr : ownO v = some r) : r = s ∨ r = d := by
  simp only [noL, List.mem_cons, List.not_mem_nil, or_false] at hv
  rcases hv with rfl | rfl | rfl | rfl | rfl | rfl | rfl | rfl | rfl | rfl | rfl | rfl | rfl | rfl | rfl | rfl | rfl | rfl | rfl | rfl <;> simp [ownO] at hr
  · exact .inl hr.symm
  · exact .inr hr.symm
theorem no_number_ok (n b k : Nat) (S : Sto) (h : Bx S b (k + 3)) : ∃ (v : D) (S' : Sto), rn (n + 2) f__law_no_number [.ref b] S = .ok v S' ∧ BN S' v ∧ Grow b S S' ∧ Bx S' b k ∧ ∀ r, ownO v = some r → S.length ≤ r ∧ r < S'.length := by
  obtain ⟨t, S1, e1, t1, t2, g1, h1⟩ := take_ok n b (k + 2) 5 S h (by decide) (by decide)
  obtain ⟨c, S2, e2, c1, c2, g2, h2⟩ := take_ok n b (k + 1) 3 S1 h1 (by decide) (by decide)
  have m2 : binD .mul (.int 2) (.int c) S2 = .ok (.int (2 * c)) S2 := mul_ok S2 (sm_up (show (2 : Int).natAbs < 2 ^ 40 by decide) (by omega)) (sm_up (show c.natAbs < 2 ^ 40 by omega) (by omega))
  have m3 : ∀ S : Sto, binD .mul (.int 2) (.int (2 * c + 2)) S = .ok (.int (2 * (2 * c + 2))) S := fun S => mul_ok S (sm_up (show (2 : Int).natAbs < 2 ^ 40 by decide) (by omega)) (sm_up (show (2 * c + 2).natAbs < 2 ^ 40 by omega) (by omega))
  have hc : 2 * c + 2 = 2 ∨ 2 * c + 2 = 4 ∨ 2 * c + 2 = 6 := by omega
  obtain ⟨T, hT⟩ : ∃ T, T = t + 1 := ⟨_, rfl⟩
  obtain ⟨C, hC⟩ : ∃ C, C = 2 * c + 2 := ⟨_, rfl⟩
  rw [← hC] at m3 hc
  obtain ⟨L1, hL1⟩ : ∃ L1, L1 = (noL T C S2.length (S2.length + 2)).take 10 := ⟨_, rfl⟩
  obtain ⟨L2, hL2⟩ : ∃ L2, L2 = (noL T C S2.length (S2.length + 2)).drop 10 := ⟨_, rfl⟩
  obtain ⟨S5, hS5⟩ : ∃ S5, S5 = S2 ++ [.lst [.int 1, .int C], .lst L1, .dct [], .lst L2, .lst (noL T C S2.length (S2.length + 2))] := ⟨_, rfl⟩
  have h5 : Bx S5 b (k + 1) := hS5 ▸ h2.app
  have g5 : Grow b S2 S5 := hS5 ▸ Grow.app S2 _
  have x0 : S5[S2.length]? = some (.lst [.int 1, .int C]) := by rw [hS5]; simp
  have x2 : S5[S2.length + 2]? = some (.dct []) := by rw [hS5]; simp
  have x4 : S5[S2.length + 4]? = some (.lst (noL T C S2.length (S2.length + 2))) := by rw [hS5]; simp
  obtain ⟨d, S6, e6, d1, d2, g6, h6⟩ := take_ok n b k 20 S5 h5 (by decide) (by decide)
  have bl : b < S2.length := h2.lt
  have y0 := g6.at_ x0 (by omega)
  have y2 := g6.at_ x2 (by omega)
  have y4 := g6.at_ x4 (by omega)
  have dl : d.toNat < (noL T C S2.length (S2.length + 2)).length := by simp [noL]; omega
  obtain ⟨v, hv⟩ : ∃ v, (noL T C S2.length (S2.length + 2))[d.toNat]? = some v := ⟨_, List.getElem?_eq_getElem dl⟩
  have hm := List.mem_of_getElem? hv
  have ix : idxD (.ref (S2.length + 4)) (.int d) S6 = .ok v S6 := by
    have := idx_lst y4 hv
    rwa [show ((d.toNat : Nat) : Int) = d from by omega] at this
  refine ⟨v, S6, ?_, noL_bn (by omega) hc y0 y2 v hm, ((g1.trans g2).trans g5).trans g6, h6, fun r hr => ?_⟩
  · rw [nonfree (d := d__law_no_number) rfl rfl rfl]
    have ea : evE G.sub (rn (n + 1)) (.lst (.cons (.lit .non) (.cons (.var 1) (.cons (.lit (.str [49, 47, 50])) (.cons (.tup (.cons (.var 1) (.cons (.lit (.int 0)) .nil))) (.cons (.tup (.cons (.var 2) (.cons (.bin .mul (.lit (.int 2)) (.var 2)) .nil))) (.cons (.tup (.cons (.var 1) (.cons (.bin .sub (.lit (.int 0)) (.var 2)) .nil))) (.cons (.tup (.cons (.lit (.bl true)) (.cons (.var 2) .nil))) (.cons (.tup (.cons (.var 1) (.cons (.lit (.bl true)) .nil))) (.cons (.lst (.cons (.lit (.int 1)) (.cons (.var 2) .nil))) (.cons (.tup (.cons (.lit (.int 1)) .nil)) .nil))))))))))) [some (.ref b), some (.int T), some (.int C), none] S2 = .ok (.ref (S2.length + 1)) (S2 ++ [.lst [.int 1, .int C], .lst L1]) := by
      simp [m3, line, hL1, noL]
    have eb : evE G.sub (rn (n + 1)) (.bin .add (.var 3) (.lst (.cons (.tup (.cons (.lit (.int 1)) (.cons (.var 2) (.cons (.lit (.int 1)) .nil)))) (.cons (.tup (.cons (.lit (.int 0)) (.cons (.var 2) .nil))) (.cons (.tup (.cons (.lit (.str [49])) (.cons (.var 2) .nil))) (.cons (.tup (.cons (.lit (.int 1)) (.cons (.lit (.str [50])) .nil))) (.cons (.tup .nil) (.cons .dct0 (.cons (.lit (.bl false)) (.cons (.tup (.cons (.tup (.cons (.lit (.int 1)) (.cons (.lit (.int 2)) .nil))) (.cons (.tup (.cons (.lit (.int 1)) (.cons (.lit (.int 1)) .nil))) .nil))) (.cons (.tup (.cons (.lit .non) (.cons (.lit (.int 1)) .nil))) (.cons (.tup (.cons (.lit (.int 1)) (.cons (.lit .non) .nil))) .nil)))))))))))) [some (.ref b), some (.int T), some (.int C), some (.ref (S2.length + 1))] (S2 ++ [.lst [.int 1, .int C], .lst L1]) = .ok (.ref (S2.length + 4)) S5 := by
      have z1 : (S2 ++ [O.lst [.int 1, .int C], .lst L1, .dct [], .lst L2])[S2.length + 1]? = some (.lst L1) := by simp
      have z3 : (S2 ++ [O.lst [.int 1, .int C], .lst L1, .dct [], .lst L2])[S2.length + 3]? = some (.lst L2) := by simp
      have z5 : binD .add (.ref (S2.length + 1)) (.ref (S2.length + 3)) (S2 ++ [O.lst [.int 1, .int C], .lst L1, .dct [], .lst L2]) = .ok (.ref (S2.length + 4)) S5 := by
        unfold binD
        simp only [z1, z3]
        rw [if_pos (by rw [hL1, hL2]; simp [noL, line])]
        rw [hS5, hL1, hL2]
        simp
      have z6 : L2 = [.tup [.int 1, .int C, .int 1], nb 0 C, .tup [.str [49], .int C], .tup [.int 1, .str [50]], .tup [], .ref (S2.length + 2), .bl false, .tup [nb 1 2, nb 1 1], .tup [.non, .int 1], .tup [.int 1, .non]] := by rw [hL2]; simp [noL]
      rw [z6] at z5
      simp [line, z5]
    have ec : evS G.sub (rn (n + 1)) (.par [1, 2] (.cons (.bin .add (.call f__law_take (.cons (.var 0) (.cons (.lit (.int 5)) .nil))) (.lit (.int 1))) (.cons (.bin .add (.bin .mul (.lit (.int 2)) (.call f__law_take (.cons (.var 0) (.cons (.lit (.int 3)) .nil)))) (.lit (.int 2))) .nil))) [some (.ref b), none, none, none] S = .nx [some (.ref b), some (.int T), some (.int C), none] S2 := by
      simp [e1, e2, m2, setAll, setE, hT, hC]
    simp only [d__law_no_number, startE, evSs_cons, evSs_nil, List.map_cons, List.map_nil, List.length_cons, List.length_nil, List.replicate, List.cons_append, List.nil_append, Nat.reduceAdd, Nat.reduceSub]
    rw [ec]
    simp only [RS.then_nx, evS_asg, ea, R.st_ok]
    simp only [setE, List.set_cons_succ, List.set_cons_zero, evS_ret, evE_idx, eb, R.bind_ok]
    simp [e6, ix]
  · have l5 : S2.length + 5 = S5.length := by rw [hS5]; simp
    have := g6.len
    have := g1.len
    have := g2.len
    rcases noL_ref hm hr with rfl | rfl <;> omega
end K00

namespace K00
open Eg
theorem RowSp.mono {row : D} {dep : List Nat} {own : Option Nat} {S S' : Sto} (h : RowSp row dep own S) (hl : S.length ≤ S'.length) (ha : ∀ x ∈ dep, S'[x]? = S[x]?) : RowSp row dep own S' := by
  obtain ⟨w, i, j, e, go⟩ := h
  exact ⟨w, i, j, e, fun S2 h2 h3 => go S2 (Nat.le_trans hl h2) fun x hx => (h3 x hx).trans (ha x hx)⟩
theorem RowsOk.mono {S S' : Sto} (hl : S.length ≤ S'.length) : ∀ {l : List Rw}, RowsOk S l → (∀ q ∈ l, ∀ x ∈ q.dep, S'[x]? = S[x]?) → RowsOk S' l
  | [], _, _ => trivial
  | q :: l, ⟨h1, h2, h3, h4⟩, ha => ⟨h1.mono hl (ha q (by simp)), fun x hx => Nat.lt_of_lt_of_le (h2 x hx) hl, fun o ho => ⟨Nat.lt_of_lt_of_le (h3 o ho).1 hl, (h3 o ho).2⟩, RowsOk.mono hl h4 fun p hp => ha p (List.mem_cons_of_mem _ hp)⟩
theorem RowsOk.dlt {S : Sto} : ∀ {l : List Rw}, RowsOk S l → ∀ q ∈ l, ∀ x ∈ q.dep, x < S.length
  | [], _, _, h => by cases h
  | q :: l, ⟨_, h2, _, h4⟩, p, hp => by
    rcases List.mem_cons.mp hp with rfl | hp
    · exact h2
    · exact h4.dlt p hp
theorem RowsOk.snoc {S : Sto} {q : Rw} (hq : RowSp q.row q.dep q.own S) (hd : ∀ x ∈ q.dep, x < S.length) (ho : ∀ o, q.own = some o → o < S.length) : ∀ {l : List Rw}, RowsOk S l → (∀ p ∈ l, ∀ o, p.own = some o → o ∉ q.dep) → RowsOk S (l ++ [q])
  | [], _, _ => ⟨hq, hd, fun o h => ⟨ho o h, fun p hp => by cases hp⟩, trivial⟩
  | p :: l, ⟨h1, h2, h3, h4⟩, hs => ⟨h1, h2, fun o h => ⟨(h3 o h).1, fun r hr => by
      rcases List.mem_append.mp hr with hr | hr
      · exact (h3 o h).2 r hr
      · rw [List.mem_singleton.mp hr]; exact hs p (by simp) o h⟩, h4.snoc hq hd ho fun r hr => hs r (List.mem_cons_of_mem _ hr)⟩
/-- rows under way: their list at R, everything from N on -/
structure Good (N b R : Nat) (S : Sto) (rws : List Rw) : Prop where
  at_ : S[R]? = some (.lst (rws.map (·.row)))
  ok : RowsOk S rws
  sep : ∀ q ∈ rws, R ∉ q.dep ∧ b ∉ q.dep ∧ ∀ o, q.own = some o → o ∈ q.dep ∧ N ≤ o
  bR : b ≠ R
  NR : N ≤ R
  sz : rws.length ≤ 1000
theorem Good.lt {N b R : Nat} {S : Sto} {rws : List Rw} (h : Good N b R S rws) : R < S.length := (List.getElem?_eq_some_iff.mp h.at_).1
theorem Good.grow {N b R : Nat} {S S' : Sto} {rws : List Rw} (h : Good N b R S rws) (g : Grow b S S') : Good N b R S' rws :=
  ⟨g.at_ h.at_ (Ne.symm h.bR), h.ok.mono g.len fun q hq x hx => g.old x (h.ok.dlt q hq x hx) fun e => (h.sep q hq).2.1 (e ▸ hx), h.sep, h.bR, h.NR, h.sz⟩
theorem Good.add {N b R : Nat} {S : Sto} {rws : List Rw} {q : Rw} (h : Good N b R S rws) (hq : RowSp q.row q.dep q.own S) (hd : ∀ x ∈ q.dep, x < S.length ∧ x ≠ R ∧ x ≠ b) (ho : ∀ o, q.own = some o → o ∈ q.dep ∧ N ≤ o) (hs : ∀ p ∈ rws, ∀ o, p.own = some o → o ∉ q.dep) (hz : rws.length < 1000) :
    Good N b R (S.set R (.lst (rws.map (·.row) ++ [q.row]))) (rws ++ [q]) := by
  have same : ∀ x, x ≠ R → (S.set R (.lst (rws.map (·.row) ++ [q.row])))[x]? = S[x]? := fun x hx => List.getElem?_set_ne (Ne.symm hx)
  refine ⟨?_, ?_, fun p hp => ?_, h.bR, h.NR, by simp; omega⟩
  · rw [List.getElem?_set_self h.lt, List.map_append]; rfl
  · have := h.ok.snoc hq (fun x hx => (hd x hx).1) (fun o e => (hd o (ho o e).1).1) hs
    refine this.mono (by simp) fun p hp x hx => same x fun e => ?_
    subst e
    rcases List.mem_append.mp hp with hp | hp
    · exact (h.sep p hp).1 hx
    · rw [List.mem_singleton.mp hp] at hx; exact (hd _ hx).2.1 rfl
  · rcases List.mem_append.mp hp with hp | hp
    · exact h.sep p hp
    · rw [List.mem_singleton.mp hp]
      exact ⟨fun e => (hd _ e).2.1 rfl, fun e => (hd _ e).2.2 rfl, ho⟩
/-- rows.append((w, [..], [..])) -/
theorem app_ev {n R : Nat} {ρ : Env} {S S1 S2 : Sto} {w : List Nat} {ea ed : Es} {A Dd rows : List D} (hρ : ρ[2]? = some (some (.ref R))) (h0 : S[R]? = some (.lst rows)) (h1 : evEs G.sub (rn n) ea ρ S = .ok A S1) (h2 : evEs G.sub (rn n) ed ρ (S1 ++ [.lst A]) = .ok Dd S2) (hA : A.length ≤ 1000) (hD : Dd.length ≤ 1000)
    (h3 : (S2 ++ [O.lst Dd])[R]? = some (.lst rows)) (hz : rows.length < 2000) : evS G.sub (rn n) (.expr (.app (.var 2) (.tup (.cons (.lit (.str w)) (.cons (.lst ea) (.cons (.lst ed) .nil)))))) ρ S = .nx ρ ((S2 ++ [O.lst Dd]).set R (.lst (rows ++ [D.tup [.str w, .ref S1.length, .ref S2.length]]))) := by
  have lo : lstOf S R = some rows := by unfold lstOf; rw [h0]
  have a1 : A.length ≤ line := by unfold line; omega
  have a2 : Dd.length ≤ line := by unfold line; omega
  have a3 : rows.length < line := by unfold line; omega
  have a4 : (3 : Nat) ≤ line := by unfold line; omega
  simp [hρ, lo, h1, a1, h2, a2, a4, meD, h3, a3]
theorem Bx.set {S : Sto} {b k R : Nat} {o : O} (h : Bx S b k) (hn : b ≠ R) : Bx (S.set R o) b k := by
  obtain ⟨a, g, m, c, h1, h2⟩ := h
  exact ⟨a, g, m, c, by rw [List.getElem?_set_ne (Ne.symm hn)]; exact h1, h2⟩
theorem Bx.keep {S S' : Sto} {b k : Nat} (h : Bx S b k) (e : S'[b]? = S[b]?) : Bx S' b k := by
  obtain ⟨a, g, m, c, h1, h2⟩ := h
  exact ⟨a, g, m, c, e.trans h1, h2⟩
/-- older than N, and not the box: as it was -/
def Old (N b : Nat) (S S' : Sto) : Prop := ∀ x, x < N → x ≠ b → S'[x]? = S[x]?
theorem Old.refl (N b : Nat) (S : Sto) : Old N b S S := fun _ _ _ => rfl
theorem Old.grow {N b : Nat} {S S1 S2 : Sto} (h : Old N b S S1) (g : Grow b S1 S2) (hN : N ≤ S1.length) : Old N b S S2 := fun x hx hn => (g.old x (by omega) hn).trans (h x hx hn)
theorem Old.set {N b R : Nat} {S S1 : Sto} {o : O} (h : Old N b S S1) (hR : N ≤ R) : Old N b S (S1.set R o) := fun x hx hn => by rw [List.getElem?_set_ne (by omega)]; exact h x hx hn
/-- the end: the rows are right -/
theorem Good.fin {N b R k : Nat} {S0 S : Sto} {rws : List Rw} (by_ : Bool) (h : Good N b R S rws) (hb : Bx S b k) (ho : Old N b S0 S) (hbN : b < N) : ∃ S2, rn 21 f__law_rows_right [.ref R, .bl by_] S = .ok (.bl true) S2 ∧ Bx S2 b k ∧ Old N b S0 S2 ∧ S.length ≤ S2.length := by
  obtain ⟨S2, e, l, keep⟩ := rows_right R S rws by_ h.at_ h.ok (fun q hq e => (h.sep q hq).1 ((h.sep q hq).2.2 R e).1)
  refine ⟨S2, e, hb.keep (keep b hb.lt fun q hq e => (h.sep q hq).2.1 ((h.sep q hq).2.2 b e).1), fun x hx hn => ?_, l⟩
  have hl : x < S.length := Nat.lt_of_lt_of_le (Nat.lt_of_lt_of_le hx h.NR) (Nat.le_of_lt h.lt)
  exact (keep x hl fun q hq e => by have := ((h.sep q hq).2.2 x e).2; omega).trans (ho x hx hn)
theorem eq_nb (a b c d : Int) (S : Sto) : cmpO .eq (nb a b) (nb c d) S = some (decide (a = c) && decide (b = d)) := by
  have e : eqv 40 S (nb a b) (nb c d) = (decide (a = c) && decide (b = d)) := by
    simp [eqv, all2]
    rfl
  show (if plain 40 S (nb a b) && plain 40 S (nb c d) then some (eqv 40 S (nb a b) (nb c d)) else none) = _
  rw [e]
  simp [plain]
theorem low_self {t b : Int} (hb : b ≠ 0) (h1 : Sml t) (h2 : Sml b) : isNum t b = (decide (sg b * t / gg t b = t) && decide (sg b * b / gg t b = b)) := by
  cases h : isNum t b with
  | true =>
    simp only [isNum, Bool.and_eq_true, decide_eq_true_eq] at h
    have g : gg t b = 1 := h.2
    have s : sg b = 1 := if_pos h.1
    simp [g, s]
  | false =>
    symm
    rw [Bool.and_eq_false_iff]
    by_cases c : sg b * t / gg t b = t ∧ sg b * b / gg t b = b
    · exfalso
      obtain ⟨p, q, l1, l2, _, _⟩ := low_num hb h1 h2
      simp only [low, D.tup.injEq, List.cons.injEq, D.int.injEq, and_true] at l1
      rw [← l1.1, ← l1.2, c.1, c.2, h] at l2
      cases l2
    · by_cases c1 : sg b * t / gg t b = t
      · exact .inr (by simpa using fun c2 => c ⟨c1, c2⟩)
      · exact .inl (by simpa using c1)
end K00

namespace K00
open Eg
abbrev fracT : Ss := (.cons (.asg 4 (.idxl (.cons (.lit (.int 1)) (.cons (.lit (.int 1)) (.cons (.lit (.int 2)) (.cons (.lit (.int 6)) (.cons (.neg (.lit (.int 1))) (.cons (.neg (.lit (.int 12))) (.cons (.bin .pow (.lit (.int 10)) (.lit (.int 4))) .nil))))))) (.call f__law_take (.cons (.var 0) (.cons (.lit (.int 7)) .nil))))) (.cons (.par [5, 6] (.cons (.call f__law_integer (.cons (.var 0) .nil)) (.cons (.ite (.cmp .eq (.call f__law_take (.cons (.var 0) (.cons (.lit (.int 3)) .nil))) (.lit (.int 0))) (.bin .add (.bin .mul (.call f__law_take (.cons (.var 0) (.cons (.bin .pow (.lit (.int 10)) (.lit (.int 6))) .nil))) (.lit (.int 997))) (.lit (.int 1))) (.bin .add (.lit (.int 1)) (.call f__law_take (.cons (.var 0) (.cons (.lit (.int 12)) .nil))))) .nil))) (.cons (.asg 5 (.ite (.cmp .lt (.bi .abs (.cons (.var 5) .nil)) (.bin .pow (.lit (.int 10)) (.lit (.int 15)))) (.var 5) (.bin .fdiv (.var 5) (.var 4)))) (.cons (.asg 7 (.ite (.cmp .lt (.bi .abs (.cons (.bin .mul (.var 5) (.var 4)) .nil)) (.bin .pow (.lit (.int 10)) (.lit (.int 20)))) (.call f__law_low (.cons (.bin .mul (.var 5) (.var 4)) (.cons (.bin .mul (.var 6) (.var 4)) .nil))) (.lit .non))) (.cons (.ife (.cmp .isnot (.var 7) (.lit .non)) (.cons (.expr (.app (.var 2) (.tup (.cons (.lit (.str [102, 114, 97, 99, 116, 105, 111, 110])) (.cons (.lst (.cons (.bin .mul (.var 5) (.var 4)) (.cons (.bin .mul (.var 6) (.var 4)) .nil))) (.cons (.lst (.cons (.lit (.str [116, 111, 108, 100])) (.cons (.var 7) .nil))) .nil)))))) (.cons (.expr (.app (.var 2) (.tup (.cons (.lit (.str [110, 117, 109, 98, 101, 114])) (.cons (.lst (.cons (.var 7) .nil)) (.cons (.lst (.cons (.lit (.str [116, 111, 108, 100])) (.cons (.lit (.bl true)) .nil))) .nil)))))) (.cons (.expr (.app (.var 2) (.tup (.cons (.lit (.str [110, 117, 109, 98, 101, 114])) (.cons (.lst (.cons (.tup (.cons (.bin .mul (.var 5) (.var 4)) (.cons (.bin .mul (.var 6) (.var 4)) .nil))) .nil)) (.cons (.lst (.cons (.lit (.str [116, 111, 108, 100])) (.cons (.cmp .eq (.var 7) (.tup (.cons (.bin .mul (.var 5) (.var 4)) (.cons (.bin .mul (.var 6) (.var 4)) .nil)))) .nil))) .nil)))))) .nil))) .nil) .nil)))))
abbrev fT0 : Sm := (.asg 4 (.idxl (.cons (.lit (.int 1)) (.cons (.lit (.int 1)) (.cons (.lit (.int 2)) (.cons (.lit (.int 6)) (.cons (.neg (.lit (.int 1))) (.cons (.neg (.lit (.int 12))) (.cons (.bin .pow (.lit (.int 10)) (.lit (.int 4))) .nil))))))) (.call f__law_take (.cons (.var 0) (.cons (.lit (.int 7)) .nil)))))
abbrev fT1 : Sm := (.par [5, 6] (.cons (.call f__law_integer (.cons (.var 0) .nil)) (.cons (.ite (.cmp .eq (.call f__law_take (.cons (.var 0) (.cons (.lit (.int 3)) .nil))) (.lit (.int 0))) (.bin .add (.bin .mul (.call f__law_take (.cons (.var 0) (.cons (.bin .pow (.lit (.int 10)) (.lit (.int 6))) .nil))) (.lit (.int 997))) (.lit (.int 1))) (.bin .add (.lit (.int 1)) (.call f__law_take (.cons (.var 0) (.cons (.lit (.int 12)) .nil))))) .nil)))
abbrev fT2 : Sm := (.asg 5 (.ite (.cmp .lt (.bi .abs (.cons (.var 5) .nil)) (.bin .pow (.lit (.int 10)) (.lit (.int 15)))) (.var 5) (.bin .fdiv (.var 5) (.var 4))))
abbrev fT3 : Sm := (.asg 7 (.ite (.cmp .lt (.bi .abs (.cons (.bin .mul (.var 5) (.var 4)) .nil)) (.bin .pow (.lit (.int 10)) (.lit (.int 20)))) (.call f__law_low (.cons (.bin .mul (.var 5) (.var 4)) (.cons (.bin .mul (.var 6) (.var 4)) .nil))) (.lit .non)))
abbrev fT4 : Sm := (.ife (.cmp .isnot (.var 7) (.lit .non)) (.cons (.expr (.app (.var 2) (.tup (.cons (.lit (.str [102, 114, 97, 99, 116, 105, 111, 110])) (.cons (.lst (.cons (.bin .mul (.var 5) (.var 4)) (.cons (.bin .mul (.var 6) (.var 4)) .nil))) (.cons (.lst (.cons (.lit (.str [116, 111, 108, 100])) (.cons (.var 7) .nil))) .nil)))))) (.cons (.expr (.app (.var 2) (.tup (.cons (.lit (.str [110, 117, 109, 98, 101, 114])) (.cons (.lst (.cons (.var 7) .nil)) (.cons (.lst (.cons (.lit (.str [116, 111, 108, 100])) (.cons (.lit (.bl true)) .nil))) .nil)))))) (.cons (.expr (.app (.var 2) (.tup (.cons (.lit (.str [110, 117, 109, 98, 101, 114])) (.cons (.lst (.cons (.tup (.cons (.bin .mul (.var 5) (.var 4)) (.cons (.bin .mul (.var 6) (.var 4)) .nil))) .nil)) (.cons (.lst (.cons (.lit (.str [116, 111, 108, 100])) (.cons (.cmp .eq (.var 7) (.tup (.cons (.bin .mul (.var 5) (.var 4)) (.cons (.bin .mul (.var 6) (.var 4)) .nil)))) .nil))) .nil)))))) .nil))) .nil)
abbrev fA0 : Sm := (.expr (.app (.var 2) (.tup (.cons (.lit (.str [102, 114, 97, 99, 116, 105, 111, 110])) (.cons (.lst (.cons (.bin .mul (.var 5) (.var 4)) (.cons (.bin .mul (.var 6) (.var 4)) .nil))) (.cons (.lst (.cons (.lit (.str [116, 111, 108, 100])) (.cons (.var 7) .nil))) .nil))))))
abbrev fA1 : Sm := (.expr (.app (.var 2) (.tup (.cons (.lit (.str [110, 117, 109, 98, 101, 114])) (.cons (.lst (.cons (.var 7) .nil)) (.cons (.lst (.cons (.lit (.str [116, 111, 108, 100])) (.cons (.lit (.bl true)) .nil))) .nil))))))
abbrev fA2 : Sm := (.expr (.app (.var 2) (.tup (.cons (.lit (.str [110, 117, 109, 98, 101, 114])) (.cons (.lst (.cons (.tup (.cons (.bin .mul (.var 5) (.var 4)) (.cons (.bin .mul (.var 6) (.var 4)) .nil))) .nil)) (.cons (.lst (.cons (.lit (.str [116, 111, 108, 100])) (.cons (.cmp .eq (.var 7) (.tup (.cons (.bin .mul (.var 5) (.var 4)) (.cons (.bin .mul (.var 6) (.var 4)) .nil)))) .nil))) .nil))))))
theorem fdiv_any {a b : Int} (S : Sto) (h : b ≠ 0) (h2 : b.natAbs < 1073741824) : binD .fdiv (.int a) (.int b) S = .ok (.int (a.fdiv b)) S := by
  show (if decide (b ≠ 0) && decide (b.natAbs < 1073741824) then Eg.R.ok (D.int (a.fdiv b)) S else if decide (0 < b) && decide (b.natAbs.log2 < 9000) then .ok (.int (a / b)) S else .no) = _
  simp [h, h2]
def facL : List D := [.int 1, .int 1, .int 2, .int 6, .int (-1), .int (-12), .int 10000]
theorem fac_at {d : Int} (h0 : 0 ≤ d) (h1 : d < 7) : ∃ F : Int, atL facL d = some (.int F) ∧ F ≠ 0 ∧ F.natAbs ≤ 10000 ∧ ∀ a : Int, a.natAbs < 2 ^ 80 → (a.fdiv F).natAbs < 2 ^ 81 := by
  have key : ∀ F : Int, (F = 1 ∨ F = 2 ∨ F = 6 ∨ F = -1 ∨ F = -12 ∨ F = 10000) → F ≠ 0 ∧ F.natAbs ≤ 10000 ∧ ∀ a : Int, a.natAbs < 2 ^ 80 → (a.fdiv F).natAbs < 2 ^ 81 := fun F hF => by
    refine ⟨by omega, by omega, fun a ha => ?_⟩
    rw [Int.fdiv_eq_ediv]
    rcases hF with rfl | rfl | rfl | rfl | rfl | rfl <;> split <;> omega
  have : d = 0 ∨ d = 1 ∨ d = 2 ∨ d = 3 ∨ d = 4 ∨ d = 5 ∨ d = 6 := by omega
  rcases this with rfl | rfl | rfl | rfl | rfl | rfl | rfl
  · exact ⟨1, rfl, key 1 (by omega)⟩
  · exact ⟨1, rfl, key 1 (by omega)⟩
  · exact ⟨2, rfl, key 2 (by omega)⟩
  · exact ⟨6, rfl, key 6 (by omega)⟩
  · exact ⟨-1, rfl, key (-1) (by omega)⟩
  · exact ⟨-12, rfl, key (-12) (by omega)⟩
  · exact ⟨10000, rfl, key 10000 (by omega)⟩
theorem fdep {S2 : Sto} {b R i j : Nat} (hi : i < S2.length) (hj : j < S2.length) (h : R < i) (h' : R < j) (hb : b < i) (hb' : b < j) : ∀ x ∈ [i, j], x < S2.length ∧ x ≠ R ∧ x ≠ b := fun x hx => by
  simp at hx
  rcases hx with rfl | rfl <;> omega
/-- one row more, free of references -/
theorem frac_app {N b R k : Nat} {ρ : Env} {S : Sto} {rws : List Rw} {w : List Nat} {ea ed : Es} {A Dd : List D} (hρ : ρ[2]? = some (some (.ref R))) (g : Good N b R S rws) (ho : ∀ p ∈ rws, p.own = none) (hz : rws.length < 1000) (hb : Bx S b k)
    (h1 : evEs G.sub (rn 21) ea ρ S = .ok A S) (h2 : evEs G.sub (rn 21) ed ρ (S ++ [.lst A]) = .ok Dd (S ++ [.lst A])) (hA : A.length ≤ 1000) (hD : Dd.length ≤ 1000)
    (hr : ∀ S' : Sto, S'[S.length]? = some (.lst A) → S'[S.length + 1]? = some (.lst Dd) → RowSp (.tup [.str w, .ref S.length, .ref (S.length + 1)]) [S.length, S.length + 1] none S') :
    ∃ S', evS G.sub (rn 21) (.expr (.app (.var 2) (.tup (.cons (.lit (.str w)) (.cons (.lst ea) (.cons (.lst ed) .nil)))))) ρ S = .nx ρ S' ∧ Good N b R S' (rws ++ [⟨.tup [.str w, .ref S.length, .ref (S.length + 1)], [S.length, S.length + 1], none⟩]) ∧ Bx S' b k ∧ S.length ≤ S'.length ∧ Old N b S S' := by
  have gg : Grow b S ((S ++ [O.lst A]) ++ [O.lst Dd]) := (Grow.app S _).trans (Grow.app _ _)
  have g3 := g.grow gg
  have e := app_ev (w := w) hρ g.at_ h1 h2 hA hD g3.at_ (by simp; omega)
  have l0 : (S ++ [O.lst A]).length = S.length + 1 := by simp
  rw [l0] at e
  refine ⟨_, e, ?_, ?_, by simp, ?_⟩
  · refine g3.add (q := ⟨.tup [.str w, .ref S.length, .ref (S.length + 1)], [S.length, S.length + 1], none⟩) (hr _ (by simp) (by simp)) ?_ (fun o h => by cases h) (fun p hp o h => by rw [ho p hp] at h; cases h) hz
    have := g.lt
    have := hb.lt
    exact fdep (by simp) (by simp) (by omega) (by omega) (by omega) (by omega)
  · exact ((hb.app).app).set g.bR
  · exact (Old.grow (Old.refl N b S) gg (Nat.le_trans g.NR (Nat.le_of_lt g.lt))).set g.NR
theorem frac_turn {N b R k : Nat} {by_ : Bool} {x4 x5 x6 x7 : Option D} {z : D} {S : Sto} {rws : List Rw} (g : Good N b R S rws) (ho : ∀ p ∈ rws, p.own = none) (hz : rws.length ≤ 900) (hb : Bx S b (k + 10)) :
    ∃ (y4 y5 y6 y7 : Option D) (S' : Sto) (rws' : List Rw), evSs G.sub (rn 21) fracT [some (.ref b), some (.bl by_), some (.ref R), some z, x4, x5, x6, x7, none, none] S = .nx [some (.ref b), some (.bl by_), some (.ref R), some z, y4, y5, y6, y7, none, none] S' ∧
      Good N b R S' rws' ∧ (∀ p ∈ rws', p.own = none) ∧ rws'.length ≤ rws.length + 3 ∧ Bx S' b k ∧ S.length ≤ S'.length ∧ Old N b S S' := by
  -- the factor
  obtain ⟨d, S1, e1, d1, d2, g1, h1⟩ := take_ok 20 b (k + 9) 7 S hb (by decide) (by decide)
  obtain ⟨F, f1, f2, f3, f4⟩ := fac_at d1 d2
  have p4 := pow10 4 S (by decide)
  have s0 : evS G.sub (rn 21) fT0 [some (.ref b), some (.bl by_), some (.ref R), some z, x4, x5, x6, x7, none, none] S = .nx [some (.ref b), some (.bl by_), some (.ref R), some z, some (.int F), x5, x6, x7, none, none] S1 := by
    simp at p4
    unfold facL at f1
    simp [p4, line, e1, idxL, f1, setE]
  -- top and base
  obtain ⟨t0, S2, e2, t1, g2, h2⟩ := integer_ok 19 b (k + 5) S1 h1
  obtain ⟨c, S3, e3, c1, c2, g3, h3⟩ := take_ok 20 b (k + 4) 3 S2 h2 (by decide) (by decide)
  obtain ⟨B, S4, s1, B1, B2, g4, h4⟩ : ∃ (B : Int) (S4 : Sto), evS G.sub (rn 21) fT1 [some (.ref b), some (.bl by_), some (.ref R), some z, some (.int F), x5, x6, x7, none, none] S1 = .nx [some (.ref b), some (.bl by_), some (.ref R), some z, some (.int F), some (.int t0), some (.int B), x7, none, none] S4 ∧ 1 ≤ B ∧ B ≤ 1000000000 ∧ Grow b S3 S4 ∧ Bx S4 b k := by
    by_cases cc : c = 0
    · obtain ⟨y, S4, e4, y1, y2, g4, h4⟩ := take_ok 20 b (k + 3) (10 ^ 6) S3 h3 (by decide) (by decide)
      have p6 := pow10 6 S3 (by decide)
      have m4 : binD .mul (.int y) (.int 997) S4 = .ok (.int (y * 997)) S4 := mul_ok S4 (sm_up (show y.natAbs < 2 ^ 40 by omega) (by omega)) (sm_up (show (997 : Int).natAbs < 2 ^ 40 by decide) (by omega))
      simp at p6 e4
      exact ⟨y * 997 + 1, S4, by simp [e2, e3, cc, p6, e4, m4, setAll, setE], by omega, by omega, g4, h4.less (by omega)⟩
    · obtain ⟨y, S4, e4, y1, y2, g4, h4⟩ := take_ok 20 b (k + 3) 12 S3 h3 (by decide) (by decide)
      exact ⟨1 + y, S4, by simp [e2, e3, cc, e4, setAll, setE], by omega, by omega, g4, h4.less (by omega)⟩
  have G4 : Grow b S S4 := ((g1.trans g2).trans g3).trans g4
  have k4 := g.grow G4
  have o4 : Old N b S S4 := Old.grow (Old.refl N b S) G4 (Nat.le_trans g.NR (Nat.le_of_lt g.lt))
  -- the top, made small
  obtain ⟨t, s2, t2⟩ : ∃ t : Int, evS G.sub (rn 21) fT2 [some (.ref b), some (.bl by_), some (.ref R), some z, some (.int F), some (.int t0), some (.int B), x7, none, none] S4 = .nx [some (.ref b), some (.bl by_), some (.ref R), some z, some (.int F), some (.int t), some (.int B), x7, none, none] S4 ∧ t.natAbs < 2 ^ 81 := by
    have p15 := pow10 15 S4 (by decide)
    simp at p15
    by_cases cc : (t0.natAbs : Int) < 1000000000000000
    · exact ⟨t0, by simp [bAbs_eq, p15, cc, setE], by omega⟩
    · exact ⟨t0.fdiv F, by simp [bAbs_eq, p15, cc, fdiv_any S4 f2 (show F.natAbs < 1073741824 by omega), setE], f4 t0 t1⟩
  have mt : ∀ S : Sto, binD .mul (.int t) (.int F) S = .ok (.int (t * F)) S := fun S => mul_ok S (sm_up t2 (by omega)) (sm_up (show F.natAbs < 2 ^ 40 by omega) (by omega))
  have mB : ∀ S : Sto, binD .mul (.int B) (.int F) S = .ok (.int (B * F)) S := fun S => mul_ok S (sm_up (show B.natAbs < 2 ^ 40 by omega) (by omega)) (sm_up (show F.natAbs < 2 ^ 40 by omega) (by omega))
  have sT : Sml (t * F) := sm_up (sm_mul t2 (show F.natAbs < 2 ^ 40 by omega)) (by omega)
  have sB : Sml (B * F) := sm_up (sm_mul (show B.natAbs < 2 ^ 40 by omega) (show F.natAbs < 2 ^ 40 by omega)) (by omega)
  have nB : B * F ≠ 0 := Int.mul_ne_zero (by omega) f2
  have p20 := pow10 20 S4 (by decide)
  simp at p20
  by_cases cc : ((t * F).natAbs : Int) < 100000000000000000000
  · have s3 : evS G.sub (rn 21) fT3 [some (.ref b), some (.bl by_), some (.ref R), some z, some (.int F), some (.int t), some (.int B), x7, none, none] S4 = .nx [some (.ref b), some (.bl by_), some (.ref R), some z, some (.int F), some (.int t), some (.int B), some (low (t * F) (B * F)), none, none] S4 := by
      have lw := law_low_ok 20 (t * F) (B * F) S4 nB (sm_up sT (by omega)) (sm_up sB (by omega))
      simp [mt, mB, bAbs_eq, p20, cc, lw, setE]
    obtain ⟨ρ, hρ⟩ : ∃ ρ : Env, ρ = [some (.ref b), some (.bl by_), some (.ref R), some z, some (.int F), some (.int t), some (.int B), some (low (t * F) (B * F)), none, none] := ⟨_, rfl⟩
    have hρ2 : ρ[2]? = some (some (.ref R)) := by rw [hρ]; rfl
    obtain ⟨p, q, l1, l2, l3, l4⟩ := low_num nB sT sB
    obtain ⟨S5, a0, k5, b5, len5, o5⟩ := frac_app (w := FRAC) (ea := .cons (.bin .mul (.var 5) (.var 4)) (.cons (.bin .mul (.var 6) (.var 4)) .nil)) (ed := .cons (.lit (.str TOLD)) (.cons (.var 7) .nil)) (A := [.int (t * F), .int (B * F)]) (Dd := [.str TOLD, low (t * F) (B * F)]) hρ2 k4 ho (by omega) h4 (by rw [hρ]; simp [mt, mB]) (by rw [hρ]; simp) (by simp) (by simp)
      fun S' hi hj => row_fraction nB sT sB hi hj
    have ho5 : ∀ p ∈ rws ++ [(⟨.tup [.str FRAC, .ref S4.length, .ref (S4.length + 1)], [S4.length, S4.length + 1], none⟩ : Rw)], p.own = none := fun p hp => by
      rcases List.mem_append.mp hp with hp | hp
      · exact ho p hp
      · rw [List.mem_singleton.mp hp]
    obtain ⟨S6, a1, k6, b6, len6, o6⟩ := frac_app (w := NUMBER) (ea := .cons (.var 7) .nil) (ed := .cons (.lit (.str TOLD)) (.cons (.lit (.bl true)) .nil)) (A := [low (t * F) (B * F)]) (Dd := [.str TOLD, .bl true]) hρ2 k5 ho5 (by simp; omega) b5 (by rw [hρ]; simp) (by rw [hρ]; simp) (by simp) (by simp)
      fun S' hi hj => row_number (p := p) (q := q) (Nat.lt_of_le_of_lt l3 sT) (Nat.lt_of_le_of_lt l4 sB) l2.symm (by rw [← l1]; exact hi) hj
    have ho6 : ∀ p ∈ (rws ++ [(⟨.tup [.str FRAC, .ref S4.length, .ref (S4.length + 1)], [S4.length, S4.length + 1], none⟩ : Rw)]) ++ [(⟨.tup [.str NUMBER, .ref S5.length, .ref (S5.length + 1)], [S5.length, S5.length + 1], none⟩ : Rw)], p.own = none := fun p hp => by
      rcases List.mem_append.mp hp with hp | hp
      · exact ho5 p hp
      · rw [List.mem_singleton.mp hp]
    have le4 : ∀ S : Sto, cmpO .eq (low (t * F) (B * F)) (nb (t * F) (B * F)) S = some (isNum (t * F) (B * F)) := fun S => by
      rw [low_self nB sT sB]; exact eq_nb _ _ _ _ S
    obtain ⟨S7, a2, k7, b7, len7, o7⟩ := frac_app (w := NUMBER) (ea := .cons (.tup (.cons (.bin .mul (.var 5) (.var 4)) (.cons (.bin .mul (.var 6) (.var 4)) .nil))) .nil) (ed := .cons (.lit (.str TOLD)) (.cons (.cmp .eq (.var 7) (.tup (.cons (.bin .mul (.var 5) (.var 4)) (.cons (.bin .mul (.var 6) (.var 4)) .nil)))) .nil)) (A := [nb (t * F) (B * F)]) (Dd := [.str TOLD, .bl (isNum (t * F) (B * F))]) hρ2 k6 ho6 (by simp; omega) b6 (by rw [hρ]; simp [mt, mB, line]) (by rw [hρ]; simp [mt, mB, line, le4]) (by simp) (by simp)
      fun S' hi hj => row_number sT sB rfl hi hj
    refine ⟨some (.int F), some (.int t), some (.int B), some (low (t * F) (B * F)), S7, _, ?_, k7, ?_, ?_, b7, ?_, ?_⟩
    · skip
      have s4 : evS G.sub (rn 21) fT4 ρ S4 = .nx ρ S7 := by
        have c7 : evE G.sub (rn 21) (.cmp .isnot (.var 7) (.lit .non)) ρ S4 = .ok (.bl true) S4 := by rw [hρ]; simp [cmpO, cIs, low]
        rw [evS_ife, c7]
        simp only [tru_ok, tru_bl, Eg.R.of_some, Eg.R.st_ok, if_true, evSs_cons, evSs_nil]
        rw [a0]
        simp only [RS.then_nx]
        rw [a1]
        simp only [RS.then_nx]
        rw [a2]
        simp only [RS.then_nx]
      show evSs G.sub (rn 21) (.cons fT0 (.cons fT1 (.cons fT2 (.cons fT3 (.cons fT4 .nil))))) _ S = _
      simp only [evSs_cons, evSs_nil]
      rw [s0]
      simp only [RS.then_nx]
      rw [s1]
      simp only [RS.then_nx]
      rw [s2]
      simp only [RS.then_nx]
      rw [s3]
      simp only [RS.then_nx]
      rw [← hρ, s4]
      simp only [RS.then_nx, hρ]
    · intro p hp
      rcases List.mem_append.mp hp with hp | hp
      · exact ho6 p hp
      · rw [List.mem_singleton.mp hp]
    · simp
    · have := G4.len; omega
    · intro x hx hn
      exact (o7 x hx hn).trans ((o6 x hx hn).trans ((o5 x hx hn).trans (o4 x hx hn)))
  · have s3 : evS G.sub (rn 21) fT3 [some (.ref b), some (.bl by_), some (.ref R), some z, some (.int F), some (.int t), some (.int B), x7, none, none] S4 = .nx [some (.ref b), some (.bl by_), some (.ref R), some z, some (.int F), some (.int t), some (.int B), some .non, none, none] S4 := by
      simp [mt, bAbs_eq, p20, cc, setE]
    refine ⟨some (.int F), some (.int t), some (.int B), some .non, S4, rws, ?_, k4, ho, by omega, h4, G4.len, o4⟩
    show evSs G.sub (rn 21) (.cons fT0 (.cons fT1 (.cons fT2 (.cons fT3 (.cons fT4 .nil))))) _ S = _
    simp only [evSs_cons, evSs_nil]
    rw [s0]
    simp only [RS.then_nx]
    rw [s1]
    simp only [RS.then_nx]
    rw [s2]
    simp only [RS.then_nx]
    rw [s3]
    simp [cmpO, cIs]
end K00

namespace K00
open Eg
abbrev fS0 : Sm := (.asg 2 (.lst .nil))
abbrev fS1 : Sm := (.fr (.nm 3) (.rng1 (.lit (.int 4))) (.cons (.asg 4 (.idxl (.cons (.lit (.int 1)) (.cons (.lit (.int 1)) (.cons (.lit (.int 2)) (.cons (.lit (.int 6)) (.cons (.neg (.lit (.int 1))) (.cons (.neg (.lit (.int 12))) (.cons (.bin .pow (.lit (.int 10)) (.lit (.int 4))) .nil))))))) (.call f__law_take (.cons (.var 0) (.cons (.lit (.int 7)) .nil))))) (.cons (.par [5, 6] (.cons (.call f__law_integer (.cons (.var 0) .nil)) (.cons (.ite (.cmp .eq (.call f__law_take (.cons (.var 0) (.cons (.lit (.int 3)) .nil))) (.lit (.int 0))) (.bin .add (.bin .mul (.call f__law_take (.cons (.var 0) (.cons (.bin .pow (.lit (.int 10)) (.lit (.int 6))) .nil))) (.lit (.int 997))) (.lit (.int 1))) (.bin .add (.lit (.int 1)) (.call f__law_take (.cons (.var 0) (.cons (.lit (.int 12)) .nil))))) .nil))) (.cons (.asg 5 (.ite (.cmp .lt (.bi .abs (.cons (.var 5) .nil)) (.bin .pow (.lit (.int 10)) (.lit (.int 15)))) (.var 5) (.bin .fdiv (.var 5) (.var 4)))) (.cons (.asg 7 (.ite (.cmp .lt (.bi .abs (.cons (.bin .mul (.var 5) (.var 4)) .nil)) (.bin .pow (.lit (.int 10)) (.lit (.int 20)))) (.call f__law_low (.cons (.bin .mul (.var 5) (.var 4)) (.cons (.bin .mul (.var 6) (.var 4)) .nil))) (.lit .non))) (.cons (.ife (.cmp .isnot (.var 7) (.lit .non)) (.cons (.expr (.app (.var 2) (.tup (.cons (.lit (.str [102, 114, 97, 99, 116, 105, 111, 110])) (.cons (.lst (.cons (.bin .mul (.var 5) (.var 4)) (.cons (.bin .mul (.var 6) (.var 4)) .nil))) (.cons (.lst (.cons (.lit (.str [116, 111, 108, 100])) (.cons (.var 7) .nil))) .nil)))))) (.cons (.expr (.app (.var 2) (.tup (.cons (.lit (.str [110, 117, 109, 98, 101, 114])) (.cons (.lst (.cons (.var 7) .nil)) (.cons (.lst (.cons (.lit (.str [116, 111, 108, 100])) (.cons (.lit (.bl true)) .nil))) .nil)))))) (.cons (.expr (.app (.var 2) (.tup (.cons (.lit (.str [110, 117, 109, 98, 101, 114])) (.cons (.lst (.cons (.tup (.cons (.bin .mul (.var 5) (.var 4)) (.cons (.bin .mul (.var 6) (.var 4)) .nil))) .nil)) (.cons (.lst (.cons (.lit (.str [116, 111, 108, 100])) (.cons (.cmp .eq (.var 7) (.tup (.cons (.bin .mul (.var 5) (.var 4)) (.cons (.bin .mul (.var 6) (.var 4)) .nil)))) .nil))) .nil)))))) .nil))) .nil) .nil))))))
abbrev fS2 : Sm := (.asg 8 (.lst (.cons (.lit .non) (.cons (.lit (.bl true)) (.cons (.lit (.bl false)) (.cons (.lit (.str [51])) (.cons (.tup (.cons (.lit (.int 1)) (.cons (.lit (.int 2)) .nil))) (.cons (.lst (.cons (.lit (.int 3)) .nil)) (.cons .dct0 (.cons (.tup (.cons (.lit (.int 3)) .nil)) .nil))))))))))
abbrev fS3 : Sm := (.par [5, 6] (.cons (.idx (.var 8) (.call f__law_take (.cons (.var 0) (.cons (.lit (.int 8)) .nil)))) (.cons (.idxl (.cons (.lit (.int 0)) (.cons (.lit .non) (.cons (.lit (.bl true)) (.cons (.lit (.bl false)) (.cons (.lit (.str [49])) (.cons (.tup (.cons (.lit (.int 1)) .nil)) (.cons (.lst (.cons (.lit (.int 2)) .nil)) (.cons (.tup (.cons (.lit (.int 1)) (.cons (.lit (.int 1)) .nil))) .nil)))))))) (.call f__law_take (.cons (.var 0) (.cons (.lit (.int 8)) .nil)))) .nil)))
abbrev fS4 : Sm := (.expr (.app (.var 2) (.tup (.cons (.lit (.str [102, 114, 97, 99, 116, 105, 111, 110])) (.cons (.lst (.cons (.var 5) (.cons (.ite (.cmp .eq (.call f__law_take (.cons (.var 0) (.cons (.lit (.int 2)) .nil))) (.lit (.int 0))) (.var 6) (.lit (.int 5))) .nil))) (.cons (.lst (.cons (.lit (.str [116, 111, 112])) (.cons (.var 5) .nil))) .nil))))))
abbrev fS5 : Sm := (.expr (.app (.var 2) (.tup (.cons (.lit (.str [102, 114, 97, 99, 116, 105, 111, 110])) (.cons (.lst (.cons (.call f__law_integer (.cons (.var 0) .nil)) (.cons (.var 6) .nil))) (.cons (.lst (.cons (.lit (.str [98, 97, 115, 101])) (.cons (.var 6) .nil))) .nil))))))
abbrev fS6 : Sm := (.asg 9 (.call f__law_no_number (.cons (.var 0) .nil)))
abbrev fS7 : Sm := (.ret (.call f__law_rows_right (.cons (.bin .add (.var 2) (.lst (.cons (.tup (.cons (.lit (.str [110, 117, 109, 98, 101, 114])) (.cons (.lst (.cons (.var 9) .nil)) (.cons (.lst (.cons (.lit (.str [116, 111, 108, 100])) (.cons (.lit (.bl false)) .nil))) .nil)))) (.cons (.tup (.cons (.lit (.str [110, 117, 109, 98, 101, 114])) (.cons (.lst (.cons (.bi .list (.cons (.call f__law_any_number (.cons (.var 0) .nil)) .nil)) .nil)) (.cons (.lst (.cons (.lit (.str [116, 111, 108, 100])) (.cons (.lit (.bl false)) .nil))) .nil)))) .nil)))) (.cons (.var 1) .nil))))
/-- the rows' list made anew, with two more -/
theorem Good.two {N b R R' : Nat} {S S' : Sto} {rws : List Rw} {q1 q2 : Rw} (g : Good N b R S rws) (gr : Grow b S S') (hR : S'[R']? = some (.lst (rws.map (·.row) ++ [q1.row, q2.row]))) (hn : S.length ≤ R') (hb : b ≠ R')
    (h1 : RowSp q1.row q1.dep q1.own S') (h2 : RowSp q2.row q2.dep q2.own S') (d1 : ∀ x ∈ q1.dep, x < S'.length ∧ x ≠ R' ∧ x ≠ b) (d2 : ∀ x ∈ q2.dep, x < S'.length ∧ x ≠ R' ∧ x ≠ b)
    (o1 : ∀ o, q1.own = some o → o ∈ q1.dep ∧ N ≤ o ∧ o ∉ q2.dep) (o2 : ∀ o, q2.own = some o → o ∈ q2.dep ∧ N ≤ o) (s1 : ∀ p ∈ rws, ∀ o, p.own = some o → o ∉ q1.dep ∧ o ∉ q2.dep) (hz : rws.length < 900) : Good N b R' S' (rws ++ [q1, q2]) := by
  have g' := g.grow gr
  have a := g'.ok.snoc h1 (fun x hx => (d1 x hx).1) (fun o e => (d1 o (o1 o e).1).1) fun p hp o e => (s1 p hp o e).1
  have c := a.snoc h2 (fun x hx => (d2 x hx).1) (fun o e => (d2 o (o2 o e).1).1) fun p hp o e => by
    rcases List.mem_append.mp hp with hp | hp
    · exact (s1 p hp o e).2
    · rw [List.mem_singleton.mp hp] at e; exact (o1 o e).2.2
  rw [List.append_assoc] at c
  refine ⟨?_, c, fun p hp => ?_, hb, Nat.le_trans g.NR (Nat.le_trans (Nat.le_of_lt g.lt) hn), by simp; omega⟩
  · rw [hR]; simp
  · rcases List.mem_append.mp hp with hp | hp
    · exact ⟨fun e => absurd (g.ok.dlt p hp R' e) (by omega), (g.sep p hp).2⟩
    · simp at hp
      rcases hp with rfl | rfl
      · exact ⟨fun e => (d1 _ e).2.1 rfl, fun e => (d1 _ e).2.2 rfl, fun o e => ⟨(o1 o e).1, (o1 o e).2.1⟩⟩
      · exact ⟨fun e => (d2 _ e).2.1 rfl, fun e => (d2 _ e).2.2 rfl, o2⟩
/-- one row more, of any kind, at any store -/
theorem good_app {N b R k : Nat} {ρ : Env} {S S1 : Sto} {rws : List Rw} {w : List Nat} {ea ed : Es} {A Dd : List D} {dep : List Nat} {own : Option Nat} (hρ : ρ[2]? = some (some (.ref R))) (g : Good N b R S rws) (hz : rws.length < 900) (hb : Bx S1 b k)
    (h1 : evEs G.sub (rn 21) ea ρ S = .ok A S1) (g1 : Grow b S S1) (h2 : evEs G.sub (rn 21) ed ρ (S1 ++ [.lst A]) = .ok Dd (S1 ++ [.lst A])) (hA : A.length ≤ 1000) (hD : Dd.length ≤ 1000)
    (hr : ∀ S' : Sto, Grow b S1 S' → S'[S1.length]? = some (.lst A) → S'[S1.length + 1]? = some (.lst Dd) → RowSp (.tup [.str w, .ref S1.length, .ref (S1.length + 1)]) dep own S') (hd : ∀ x ∈ dep, x < S1.length + 2 ∧ x ≠ R ∧ x ≠ b) (ho : ∀ o, own = some o → o ∈ dep ∧ N ≤ o) (hs : ∀ p ∈ rws, ∀ o, p.own = some o → o ∉ dep) :
    ∃ S', evS G.sub (rn 21) (.expr (.app (.var 2) (.tup (.cons (.lit (.str w)) (.cons (.lst ea) (.cons (.lst ed) .nil)))))) ρ S = .nx ρ S' ∧ Good N b R S' (rws ++ [⟨.tup [.str w, .ref S1.length, .ref (S1.length + 1)], dep, own⟩]) ∧ Bx S' b k ∧ S'.length = S1.length + 2 ∧ Old N b S S' ∧ (∀ x, x < S1.length → x ≠ b → x ≠ R → S'[x]? = S1[x]?) := by
  have gg : Grow b S1 ((S1 ++ [O.lst A]) ++ [O.lst Dd]) := (Grow.app S1 _).trans (Grow.app _ _)
  have g3 := g.grow (g1.trans gg)
  have e := app_ev (w := w) hρ g.at_ h1 h2 hA hD g3.at_ (by simp; omega)
  have l0 : (S1 ++ [O.lst A]).length = S1.length + 1 := by simp
  rw [l0] at e
  refine ⟨_, e, ?_, ((hb.app).app).set g.bR, by simp, ?_, fun x hx hn hR => ?_⟩
  · exact g3.add (q := ⟨.tup [.str w, .ref S1.length, .ref (S1.length + 1)], dep, own⟩) (hr _ gg (by simp) (by simp)) (fun x hx => by have := hd x hx; simp; omega) ho hs (by omega)
  · exact (Old.grow (Old.refl N b S) (g1.trans gg) (Nat.le_trans g.NR (Nat.le_of_lt g.lt))).set g.NR
  · rw [List.getElem?_set_ne (Ne.symm hR)]; exact gg.old x hx hn
def wrongL (s : Nat) : List D := [.non, .bl true, .bl false, .str [51], nb 1 2, .ref s, .ref (s + 1), .tup [.int 3]]
theorem wrong_ni {s : Nat} {S : Sto} (h1 : S[s]? = some (.lst [.int 3])) (h2 : S[s + 1]? = some (.dct [])) : ∀ v ∈ wrongL s, NI S v := by
  intro v hv
  simp only [wrongL, List.mem_cons, List.not_mem_nil, or_false] at hv
  rcases hv with rfl | rfl | rfl | rfl | rfl | rfl | rfl | rfl
  · exact ni_pl .non rfl
  · exact ni_pl (.bl _) rfl
  · exact ni_pl (.bl _) rfl
  · exact ni_pl (.str _) rfl
  · exact ni_pl (pl_two (.int _) (.int _)) rfl
  · exact ni_lst h1 (by simp) (by intro x hx; simp at hx; subst hx; exact .int 3)
  · exact ni_dct h2
  · exact ni_pl (.tup (by simp) (by intro x hx; simp at hx; subst hx; exact .int 3)) rfl
theorem wrong_ref {s r : Nat} {v : D} (hv : v ∈ wrongL s) : ∀ x ∈ refO v, x = s ∨ x = s + 1 := by
  simp only [wrongL, List.mem_cons, List.not_mem_nil, or_false] at hv
  rcases hv with rfl | rfl | rfl | rfl | rfl | rfl | rfl | rfl <;> simp [refO]
def baseL (s : Nat) : List D := [.int 0, .non, .bl true, .bl false, .str [49], .tup [.int 1], .ref s, nb 1 1]
theorem base_ni {s : Nat} {S : Sto} (h1 : S[s]? = some (.lst [.int 2])) : ∀ v ∈ baseL s, NI S v ∨ v = .int 0 := by
  intro v hv
  simp only [baseL, List.mem_cons, List.not_mem_nil, or_false] at hv
  rcases hv with rfl | rfl | rfl | rfl | rfl | rfl | rfl | rfl
  · exact .inr rfl
  · exact .inl (ni_pl .non rfl)
  · exact .inl (ni_pl (.bl _) rfl)
  · exact .inl (ni_pl (.bl _) rfl)
  · exact .inl (ni_pl (.str _) rfl)
  · exact .inl (ni_pl (.tup (by simp) (by intro x hx; simp at hx; subst hx; exact .int 1)) rfl)
  · exact .inl (ni_lst h1 (by simp) (by intro x hx; simp at hx; subst hx; exact .int 2))
  · exact .inl (ni_pl (pl_two (.int _) (.int _)) rfl)
theorem base_ref {s : Nat} {v : D} (hv : v ∈ baseL s) : ∀ x ∈ refO v, x = s := by
  simp only [baseL, List.mem_cons, List.not_mem_nil, or_false] at hv
  rcases hv with rfl | rfl | rfl | rfl | rfl | rfl | rfl | rfl <;> simp [refO]
theorem own_ref {v : D} {o : Nat} (h : ownO v = some o) : o ∈ refO v := by
  cases v <;> simp [ownO] at h
  simp [refO, h]
theorem at_int {l : List D} {d : Int} (h0 : 0 ≤ d) (h1 : d < (l.length : Int)) : ∃ v, atL l d = some v ∧ v ∈ l := by
  have hl : d.toNat < l.length := by omega
  refine ⟨l[d.toNat], ?_, List.getElem_mem hl⟩
  have : ¬ (d < 0) := by omega
  simp [atL, ixN, h0, h1, hl]
/-- the wrong tops and bases -/
theorem frac_wrong {N b R k : Nat} {by_ : Bool} {x3 x4 x5 x6 x7 : Option D} {S : Sto} {rws : List Rw} (g : Good N b R S rws) (ho : ∀ p ∈ rws, p.own = none) (hz : rws.length ≤ 100) (hb : Bx S b (k + 10)) :
    ∃ (v z : D) (S' : Sto) (rws' : List Rw) (W : Nat), evSs G.sub (rn 21) (.cons fS2 (.cons fS3 (.cons fS4 (.cons fS5 .nil)))) [some (.ref b), some (.bl by_), some (.ref R), x3, x4, x5, x6, x7, none, none] S = .nx [some (.ref b), some (.bl by_), some (.ref R), x3, x4, some v, some z, x7, some (.ref W), none] S' ∧
      Good N b R S' rws' ∧ (∀ p ∈ rws', ∀ o, p.own = some o → o < S'.length) ∧ rws'.length ≤ 102 ∧ Bx S' b k ∧ S.length ≤ S'.length ∧ Old N b S S' := by
  have bl := hb.lt
  have gl := g.lt
  obtain ⟨S1, hS1⟩ : ∃ S1, S1 = S ++ [.lst [.int 3], .dct [], .lst (wrongL S.length)] := ⟨_, rfl⟩
  have s2 : evS G.sub (rn 21) fS2 [some (.ref b), some (.bl by_), some (.ref R), x3, x4, x5, x6, x7, none, none] S = .nx [some (.ref b), some (.bl by_), some (.ref R), x3, x4, x5, x6, x7, some (.ref (S.length + 2)), none] S1 := by
    simp [line, setE, hS1, wrongL]
  have gr1 : Grow b S S1 := hS1 ▸ Grow.app S _
  have h1 : Bx S1 b (k + 10) := hS1 ▸ hb.app
  have w0 : S1[S.length]? = some (.lst [.int 3]) := by rw [hS1]; simp
  have w1 : S1[S.length + 1]? = some (.dct []) := by rw [hS1]; simp
  have w2 : S1[S.length + 2]? = some (.lst (wrongL S.length)) := by rw [hS1]; simp
  have l1 : S1.length = S.length + 3 := by rw [hS1]; simp
  obtain ⟨d, S2, e2, d1, d2, g2, h2⟩ := take_ok 20 b (k + 9) 8 S1 h1 (by decide) (by decide)
  obtain ⟨v, v1, v2⟩ := at_int (l := wrongL S.length) d1 (by simp [wrongL]; omega)
  have iv : idxD (.ref (S.length + 2)) (.int d) S2 = .ok v S2 := idx_ref (g2.at_ w2 (by omega)) v1
  have g2l := g2.len
  obtain ⟨d', S4, e4, d3, d4, g4, h4⟩ := take_ok 20 b (k + 8) 8 (S2 ++ [.lst [.int 2]]) h2.app (by decide) (by decide)
  obtain ⟨z, z1, z2⟩ := at_int (l := baseL S2.length) d3 (by simp [baseL]; omega)
  have ga : Grow b S2 (S2 ++ [O.lst [.int 2]]) := Grow.app S2 _
  have G4 : Grow b S S4 := ((gr1.trans g2).trans ga).trans g4
  have s3 : evS G.sub (rn 21) fS3 [some (.ref b), some (.bl by_), some (.ref R), x3, x4, x5, x6, x7, some (.ref (S.length + 2)), none] S1 = .nx [some (.ref b), some (.bl by_), some (.ref R), x3, x4, some v, some z, x7, some (.ref (S.length + 2)), none] S4 := by
    unfold baseL at z1
    simp [e2, iv, line, e4, idxL, z1, setAll, setE]
  have y0 : S4[S.length]? = some (.lst [.int 3]) := ((g2.trans ga).trans g4).at_ w0 (by omega)
  have y1 : S4[S.length + 1]? = some (.dct []) := ((g2.trans ga).trans g4).at_ w1 (by omega)
  have y2 : S4[S2.length]? = some (.lst [.int 2]) := g4.at_ (by simp) (by omega)
  have g4l := g4.len
  simp at g4l
  have nv : NI S4 v := wrong_ni y0 y1 v v2
  have nz : NI S4 z ∨ z = .int 0 := base_ni y2 z z2
  have rv := wrong_ref (r := 0) v2
  have rz := base_ref z2
  obtain ⟨ρ, hρ⟩ : ∃ ρ : Env, ρ = [some (.ref b), some (.bl by_), some (.ref R), x3, x4, some v, some z, x7, some (.ref (S.length + 2)), none] := ⟨_, rfl⟩
  have hρ2 : ρ[2]? = some (some (.ref R)) := by rw [hρ]; rfl
  have k4 := g.grow G4
  -- the first of them
  obtain ⟨c, S5, e5, c1, c2, g5, h5⟩ := take_ok 20 b (k + 7) 2 S4 h4 (by decide) (by decide)
  obtain ⟨z', ea⟩ : ∃ z' : D, evEs G.sub (rn 21) (.cons (.var 5) (.cons (.ite (.cmp .eq (.call f__law_take (.cons (.var 0) (.cons (.lit (.int 2)) .nil))) (.lit (.int 0))) (.var 6) (.lit (.int 5))) .nil)) ρ S4 = .ok [v, z'] S5 := by
    rw [hρ]
    by_cases cc : c = 0
    · exact ⟨z, by simp [e5, cc]⟩
    · exact ⟨.int 5, by simp [e5, cc]⟩
  have g5l := g5.len
  obtain ⟨S6, a4, k6, b6, l6, o6, q6⟩ := good_app (w := FRAC) (ed := .cons (.lit (.str [116, 111, 112])) (.cons (.var 5) .nil)) (Dd := [.str [116, 111, 112], v]) (dep := S5.length :: (S5.length + 1) :: refO v) (own := ownO v) hρ2 k4 (by omega) h5 ea g5 (by rw [hρ]; simp) (by simp) (by simp)
    (fun S' gs hi hj => row_top (nv.agree fun x hx => (g5.trans gs).old x (by have := rv x hx; omega) (by have := rv x hx; omega)) hi hj)
    (fun x hx => by
      simp at hx
      rcases hx with rfl | rfl | hx
      · omega
      · omega
      · have := rv x hx; omega)
    (fun o e => ⟨by simp [own_ref e], by have := rv o (own_ref e); have := g.NR; omega⟩) (fun p hp o e => by rw [ho p hp] at e; cases e)
  -- the second
  obtain ⟨t, S7, e7, t1, g7, h7⟩ := integer_ok 19 b (k + 3) S6 b6
  have g7l := g7.len
  have nz6 : NI S6 z ∨ z = .int 0 := nz.imp_left fun h => h.agree fun x hx => by
    have e := rz x hx
    exact (q6 x (by omega) (by omega) (by omega)).trans (g5.old x (by omega) (by omega))
  obtain ⟨S8, a5, k8, b8, l8, o8, q8⟩ := good_app (w := FRAC) (ea := .cons (.call f__law_integer (.cons (.var 0) .nil)) (.cons (.var 6) .nil)) (ed := .cons (.lit (.str [98, 97, 115, 101])) (.cons (.var 6) .nil)) (A := [.int t, z]) (Dd := [.str [98, 97, 115, 101], z]) (dep := S7.length :: (S7.length + 1) :: refO z) (own := ownO z) hρ2 k6 (by simp; omega) h7 (by rw [hρ]; simp [e7]) g7 (by rw [hρ]; simp) (by simp) (by simp)
    (fun S' gs hi hj => row_base (nz6.imp_left fun h => h.agree fun x hx => (g7.trans gs).old x (by have := rz x hx; omega) (by have := rz x hx; omega)) hi hj)
    (fun x hx => by
      simp at hx
      rcases hx with rfl | rfl | hx
      · omega
      · omega
      · have := rz x hx; omega)
    (fun o e => ⟨by simp [own_ref e], by have := rz o (own_ref e); have := g.NR; omega⟩) (fun p hp o e hx => by
      rcases List.mem_append.mp hp with hp | hp
      · rw [ho p hp] at e; cases e
      · rw [List.mem_singleton.mp hp] at e
        have r1 := rv o (own_ref e)
        simp at hx
        rcases hx with rfl | rfl | hx
        · omega
        · omega
        · have := rz o hx; omega)
  refine ⟨v, z, S8, _, S.length + 2, ?_, k8, fun p hp o e => ?_, by simp; omega, b8.less (by omega), by have := G4.len; omega, ?_⟩
  · simp only [evSs_cons, evSs_nil]
    rw [s2]
    simp only [RS.then_nx]
    rw [s3]
    simp only [RS.then_nx]
    rw [← hρ, a4]
    simp only [RS.then_nx]
    rw [a5]
    simp only [RS.then_nx, hρ]
  · exact k8.ok.dlt p hp o ((k8.sep p hp).2.2 o e).1
  · intro x hx hn
    have o4 : Old N b S S4 := Old.grow (Old.refl N b S) G4 (Nat.le_trans g.NR (Nat.le_of_lt g.lt))
    exact (o8 x hx hn).trans ((o6 x hx hn).trans (o4 x hx hn))
end K00

namespace K00
open Eg
theorem frac_loop {N b R : Nat} {by_ : Bool} : ∀ (l : List D) (k : Nat) (S : Sto) (rws : List Rw) (x3 x4 x5 x6 x7 : Option D), Good N b R S rws → (∀ p ∈ rws, p.own = none) → rws.length + 3 * l.length ≤ 90 → Bx S b (k + 10 * l.length) →
    ∃ (y3 y4 y5 y6 y7 : Option D) (S' : Sto) (rws' : List Rw), forB G.sub (rn 21) (.nm 3) fracT none l [some (.ref b), some (.bl by_), some (.ref R), x3, x4, x5, x6, x7, none, none] S = .nx [some (.ref b), some (.bl by_), some (.ref R), y3, y4, y5, y6, y7, none, none] S' ∧
      Good N b R S' rws' ∧ (∀ p ∈ rws', p.own = none) ∧ rws'.length ≤ 90 ∧ Bx S' b k ∧ S.length ≤ S'.length ∧ Old N b S S'
  | [], k, S, rws, x3, x4, x5, x6, x7, g, ho, hz, hb => ⟨x3, x4, x5, x6, x7, S, rws, rfl, g, ho, by simpa using hz, by simpa using hb, Nat.le_refl _, Old.refl _ _ _⟩
  | z :: l, k, S, rws, x3, x4, x5, x6, x7, g, ho, hz, hb => by
    simp only [List.length_cons] at hz hb
    obtain ⟨y4, y5, y6, y7, S1, rws1, e1, g1, ho1, z1, b1, l1, o1⟩ := frac_turn (k := k + 10 * l.length) (by_ := by_) (x4 := x4) (x5 := x5) (x6 := x6) (x7 := x7) (z := z) g ho (by omega) (hb.less (by omega))
    obtain ⟨w3, w4, w5, w6, w7, S2, rws2, e2, g2, ho2, z2, b2, l2, o2⟩ := frac_loop (by_ := by_) l k S1 rws1 (some z) y4 y5 y6 y7 g1 ho1 (by omega) b1
    refine ⟨w3, w4, w5, w6, w7, S2, rws2, ?_, g2, ho2, z2, b2, Nat.le_trans l1 l2, fun x hx hn => (o2 x hx hn).trans (o1 x hx hn)⟩
    rw [forB_cons]
    have eb : bindT S (.nm 3) z [some (.ref b), some (.bl by_), some (.ref R), x3, x4, x5, x6, x7, none, none] = some [some (.ref b), some (.bl by_), some (.ref R), some z, x4, x5, x6, x7, none, none] := rfl
    rw [eb]
    simp only [e1]
    rw [if_pos (show gOk none S1 = true from rfl)]
    exact e2
theorem rng4 : rngD 0 4 = some ([.int 0, .int 1, .int 2, .int 3], none) := by
  rw [show (4 : Int) = ((4 : Nat) : Int) from rfl, rngD_small (by omega)]
  rfl
theorem then_assoc (r : RS) (f g : Env → Sto → RS) : (r.then f).then g = r.then fun ρ S => (f ρ S).then g := by cases r <;> rfl
theorem evSs_four {c : Cl} (s1 s2 s3 s4 : Sm) (ss : Ss) (ρ : Env) (S : Sto) : evSs G.sub c (.cons s1 (.cons s2 (.cons s3 (.cons s4 ss)))) ρ S = (evSs G.sub c (.cons s1 (.cons s2 (.cons s3 (.cons s4 .nil)))) ρ S).then fun ρ' S' => evSs G.sub c ss ρ' S' := by
  simp only [evSs_cons, evSs_nil, then_assoc, RS.then_nx]
theorem fractions_ok (b k : Nat) (by_ : Bool) (S : Sto) (hb : Bx S b (k + 100)) : ∃ S', rn 22 f__law_fractions_right [.ref b, .bl by_] S = .ok (.bl true) S' ∧ Bx S' b k ∧ Old S.length b S S' ∧ S.length ≤ S'.length := by
  have bl := hb.lt
  have g0 : Good S.length b S.length (S ++ [.lst []]) [] := ⟨by simp, trivial, fun q h => (by cases h), by omega, Nat.le_refl _, by simp⟩
  obtain ⟨y3, y4, y5, y6, y7, S1, rws1, e1, g1, ho1, z1, b1, l1, o1⟩ := frac_loop (by_ := by_) [.int 0, .int 1, .int 2, .int 3] (k + 60) (S ++ [.lst []]) [] none none none none none g0 (fun p h => by cases h) (by simp) hb.app
  obtain ⟨v, z, S2, rws2, W, e2, g2, ho2, z2, b2, l2, o2⟩ := frac_wrong (by_ := by_) (x3 := y3) (x4 := y4) (x5 := y5) (x6 := y6) (x7 := y7) (k := k + 50) g1 ho1 (by omega) b1
  obtain ⟨u, S3, e3, bn, g3, b3, r3⟩ := no_number_ok 19 b (k + 47) S2 b2
  obtain ⟨p, q, S5, e5, n5, p5, q5, g5, b5⟩ := any_number_ok 18 b (k + 39) (S3 ++ [.lst [u], .lst [.str TOLD, .bl false]]) b3.app
  have gl := g2.lt
  have l3 := g3.len
  have l5 := g5.len
  simp at l5 l1
  obtain ⟨S6, hS6⟩ : ∃ S6, S6 = S5 ++ [.lst [.int p, .int q], .lst [.ref S5.length], .lst [.str TOLD, .bl false], .lst [.tup [.str NUMBER, .ref S3.length, .ref (S3.length + 1)], .tup [.str NUMBER, .ref (S5.length + 1), .ref (S5.length + 2)]], .lst (rws2.map (·.row) ++ [.tup [.str NUMBER, .ref S3.length, .ref (S3.length + 1)], .tup [.str NUMBER, .ref (S5.length + 1), .ref (S5.length + 2)]])] := ⟨_, rfl⟩
  have l6 : S6.length = S5.length + 5 := by rw [hS6]; simp
  have ga : Grow b S3 (S3 ++ [O.lst [u], .lst [.str TOLD, .bl false]]) := Grow.app S3 _
  have gb : Grow b S5 S6 := hS6 ▸ Grow.app S5 _
  have g36 : Grow b S3 S6 := (ga.trans g5).trans gb
  have y0 : S6[S3.length]? = some (.lst [u]) := (g5.trans gb).at_ (by simp) (by omega)
  have y1 : S6[S3.length + 1]? = some (.lst [.str TOLD, .bl false]) := (g5.trans gb).at_ (by simp) (by omega)
  have y2 : S6[S5.length]? = some (.lst [.int p, .int q]) := by rw [hS6]; simp
  have y3' : S6[S5.length + 1]? = some (.lst [.ref S5.length]) := by rw [hS6]; simp
  have y4' : S6[S5.length + 2]? = some (.lst [.str TOLD, .bl false]) := by rw [hS6]; simp
  have y6' : S6[S5.length + 4]? = some (.lst (rws2.map (·.row) ++ [.tup [.str NUMBER, .ref S3.length, .ref (S3.length + 1)], .tup [.str NUMBER, .ref (S5.length + 1), .ref (S5.length + 2)]])) := by rw [hS6]; simp
  have ru : ∀ x ∈ refO u, S2.length ≤ x ∧ x < S3.length := fun x hx => by
    have : ownO u = some x := by cases u <;> simp [refO] at hx; simp [ownO, hx]
    exact r3 x this
  have bu : BN S6 u := bn.agree fun x hx => g36.old x (ru x hx).2 (by have := ru x hx; omega)
  have h1 := row_nonumber (i := S3.length) (j := S3.length + 1) bu y0 y1
  have h2 := row_nonumber (i := S5.length + 1) (j := S5.length + 2) (bn_lst y2 (by simp) (by intro x hx; simp at hx; rcases hx with rfl | rfl <;> exact .int _)) y3' y4'
  have gg := Good.two (R' := S5.length + 4) (S' := S6) (q1 := ⟨.tup [.str NUMBER, .ref S3.length, .ref (S3.length + 1)], S3.length :: (S3.length + 1) :: refO u, none⟩) (q2 := ⟨.tup [.str NUMBER, .ref (S5.length + 1), .ref (S5.length + 2)], (S5.length + 1) :: (S5.length + 2) :: refO (.ref S5.length), none⟩) g2 (g3.trans g36) y6' (by omega) (by omega) h1 h2
    (fun x hx => by
      simp at hx
      rcases hx with rfl | rfl | hx
      · omega
      · omega
      · have := ru x hx; omega)
    (fun x hx => by simp [refO] at hx; omega) (fun o e => by cases e) (fun o e => by cases e)
    (fun p hp o e => by
      have h0 := ho2 p hp o e
      refine ⟨fun hx => ?_, fun hx => ?_⟩
      · simp at hx
        rcases hx with rfl | rfl | hx
        · omega
        · omega
        · have := ru o hx; omega
      · simp [refO] at hx; omega) (by omega)
  have oS : Old S.length b S S6 := fun x hx hn => by
    have a1 : (S ++ [O.lst []])[x]? = S[x]? := List.getElem?_append_left hx
    exact ((g3.trans g36).old x (by omega) hn).trans ((o2 x hx hn).trans ((o1 x hx hn).trans a1))
  have b6 : Bx S6 b (k + 39) := hS6 ▸ b5.app
  obtain ⟨S7, e7, b7, o7, l7⟩ := Good.fin by_ gg b6 oS bl
  refine ⟨S7, ?_, b7.less (by omega), o7, by omega⟩
  rw [nonfree (d := d__law_fractions_right) rfl rfl rfl]
  have s0 : evS G.sub (rn 21) fS0 [some (.ref b), some (.bl by_), none, none, none, none, none, none, none, none] S = .nx [some (.ref b), some (.bl by_), some (.ref S.length), none, none, none, none, none, none, none] (S ++ [.lst []]) := by
    simp [line, setE]
  have s1 : evS G.sub (rn 21) fS1 [some (.ref b), some (.bl by_), some (.ref S.length), none, none, none, none, none, none, none] (S ++ [.lst []]) = .nx [some (.ref b), some (.bl by_), some (.ref S.length), y3, y4, y5, y6, y7, none, none] S1 := by
    show evS G.sub (rn 21) (.fr (.nm 3) (.rng1 (.lit (.int 4))) fracT) _ _ = _
    rw [evS_fr, evI_rng1, evE_lit]
    simp only [Eg.R.bind_ok, rng4, Eg.R.of_some, Eg.R.st_ok]
    exact e1
  have s6 : evS G.sub (rn 21) fS6 [some (.ref b), some (.bl by_), some (.ref S.length), y3, y4, some v, some z, y7, some (.ref W), none] S2 = .nx [some (.ref b), some (.bl by_), some (.ref S.length), y3, y4, some v, some z, y7, some (.ref W), some u] S3 := by
    simp [e3, setE]
  have s7 : evS G.sub (rn 21) fS7 [some (.ref b), some (.bl by_), some (.ref S.length), y3, y4, some v, some z, y7, some (.ref W), some u] S3 = .rt (.bl true) S7 := by
    have z0 : (S5 ++ [O.lst [.int p, .int q], .lst [.ref S5.length], .lst [.str TOLD, .bl false], .lst [.tup [.str NUMBER, .ref S3.length, .ref (S3.length + 1)], .tup [.str NUMBER, .ref (S5.length + 1), .ref (S5.length + 2)]]])[S.length]? = some (.lst (rws2.map (·.row))) := (((g3.trans ga).trans g5).trans (Grow.app S5 _)).at_ g2.at_ (by have := g2.bR; omega)
    have z1 : (S5 ++ [O.lst [.int p, .int q], .lst [.ref S5.length], .lst [.str TOLD, .bl false], .lst [.tup [.str NUMBER, .ref S3.length, .ref (S3.length + 1)], .tup [.str NUMBER, .ref (S5.length + 1), .ref (S5.length + 2)]]])[S5.length + 3]? = some (.lst [.tup [.str NUMBER, .ref S3.length, .ref (S3.length + 1)], .tup [.str NUMBER, .ref (S5.length + 1), .ref (S5.length + 2)]]) := by simp
    have z2 : binD .add (.ref S.length) (.ref (S5.length + 3)) (S5 ++ [O.lst [.int p, .int q], .lst [.ref S5.length], .lst [.str TOLD, .bl false], .lst [.tup [.str NUMBER, .ref S3.length, .ref (S3.length + 1)], .tup [.str NUMBER, .ref (S5.length + 1), .ref (S5.length + 2)]]]) = .ok (.ref (S5.length + 4)) S6 := by
      unfold binD
      simp only [z0, z1]
      rw [if_pos (by simp [line]; omega), hS6]
      simp
    simp [line, e5, biD, bOfT, bil, z2, e7]
  have e : evSs G.sub (rn 21) d__law_fractions_right.body (startE d__law_fractions_right [.ref b, .bl by_]) S = .rt (.bl true) S7 := by
    show evSs G.sub (rn 21) (.cons fS0 (.cons fS1 (.cons fS2 (.cons fS3 (.cons fS4 (.cons fS5 (.cons fS6 (.cons fS7 .nil)))))))) [some (.ref b), some (.bl by_), none, none, none, none, none, none, none, none] S = _
    rw [evSs_cons, s0, RS.then_nx, evSs_cons, s1, RS.then_nx]
    rw [evSs_four, e2, RS.then_nx, evSs_cons, s6, RS.then_nx, evSs_cons, s7, RS.then_rt]
  rw [e]
  rfl
end K00

namespace K00
open Eg
abbrev sS0 : Sm := (.par [2, 3] (.cons (.call f__law_any_number (.cons (.var 0) .nil)) (.cons (.call f__law_take (.cons (.var 0) (.cons (.lit (.int 6)) .nil))) .nil)))
abbrev sS1 : Sm := (.asg 4 (.idxl (.cons (.call f__law_any_number (.cons (.var 0) .nil)) (.cons (.call f__law_any_number (.cons (.var 0) .nil)) (.cons (.var 2) (.cons (.call f__law_minus (.cons (.var 2) .nil)) (.cons (.tup (.cons (.lit (.int 0)) (.cons (.lit (.int 1)) .nil))) (.cons (.call f__law_number (.cons (.var 0) .nil)) .nil)))))) (.var 3)))
abbrev sS2 : Sm := (.asg 5 (.lst .nil))
abbrev sS3 : Sm := (.fr (.tp [(.nm 6), (.nm 7)]) (.lst (.cons (.tup (.cons (.var 2) (.cons (.var 4) .nil))) (.cons (.tup (.cons (.var 4) (.cons (.var 2) .nil))) .nil))) (.cons (.asg 8 (.bin .sub (.bin .mul (.idx (.var 6) (.lit (.int 0))) (.idx (.var 7) (.lit (.int 1)))) (.bin .mul (.idx (.var 7) (.lit (.int 0))) (.idx (.var 6) (.lit (.int 1)))))) (.cons (.asg 5 (.bin .add (.var 5) (.lst (.cons (.tup (.cons (.lit (.str [97, 100, 100])) (.cons (.lst (.cons (.var 6) (.cons (.var 7) .nil))) (.cons (.lst (.cons (.lit (.str [116, 111, 108, 100])) (.cons (.call f__law_plus (.cons (.var 6) (.cons (.var 7) .nil))) .nil))) .nil)))) (.cons (.tup (.cons (.lit (.str [115, 117, 98, 116, 114, 97, 99, 116])) (.cons (.lst (.cons (.var 6) (.cons (.var 7) .nil))) (.cons (.lst (.cons (.lit (.str [116, 111, 108, 100])) (.cons (.call f__law_plus (.cons (.var 6) (.cons (.call f__law_minus (.cons (.var 7) .nil)) .nil))) .nil))) .nil)))) .nil))))) (.cons (.asg 5 (.bin .add (.var 5) (.lst (.cons (.tup (.cons (.lit (.str [109, 117, 108, 116, 105, 112, 108, 121])) (.cons (.lst (.cons (.var 6) (.cons (.var 7) .nil))) (.cons (.lst (.cons (.lit (.str [116, 111, 108, 100])) (.cons (.call f__law_times (.cons (.var 6) (.cons (.var 7) .nil))) .nil))) .nil)))) (.cons (.tup (.cons (.lit (.str [99, 111, 109, 112, 97, 114, 101])) (.cons (.lst (.cons (.var 6) (.cons (.var 7) .nil))) (.cons (.lst (.cons (.lit (.str [116, 111, 108, 100])) (.cons (.ite (.cmp .gt (.var 8) (.lit (.int 0))) (.lit (.int 1)) (.ite (.cmp .lt (.var 8) (.lit (.int 0))) (.neg (.lit (.int 1))) (.lit (.int 0)))) .nil))) .nil)))) .nil))))) (.cons (.asg 9 (.ite (.cmp .eq (.idx (.var 7) (.lit (.int 0))) (.lit (.int 0))) (.lst (.cons (.lit (.str [122, 101, 114, 111])) (.cons (.lit .non) .nil))) (.lst (.cons (.lit (.str [116, 111, 108, 100])) (.cons (.call f__law_low (.cons (.bin .mul (.idx (.var 6) (.lit (.int 0))) (.idx (.var 7) (.lit (.int 1)))) (.cons (.bin .mul (.idx (.var 6) (.lit (.int 1))) (.idx (.var 7) (.lit (.int 0)))) .nil))) .nil))))) (.cons (.expr (.app (.var 5) (.tup (.cons (.lit (.str [100, 105, 118, 105, 100, 101])) (.cons (.lst (.cons (.var 6) (.cons (.var 7) .nil))) (.cons (.var 9) .nil)))))) .nil))))))
abbrev sS4 : Sm := (.ret (.call f__law_rows_right (.cons (.var 5) (.cons (.var 1) .nil))))
abbrev sumT : Ss := (.cons (.asg 8 (.bin .sub (.bin .mul (.idx (.var 6) (.lit (.int 0))) (.idx (.var 7) (.lit (.int 1)))) (.bin .mul (.idx (.var 7) (.lit (.int 0))) (.idx (.var 6) (.lit (.int 1)))))) (.cons (.asg 5 (.bin .add (.var 5) (.lst (.cons (.tup (.cons (.lit (.str [97, 100, 100])) (.cons (.lst (.cons (.var 6) (.cons (.var 7) .nil))) (.cons (.lst (.cons (.lit (.str [116, 111, 108, 100])) (.cons (.call f__law_plus (.cons (.var 6) (.cons (.var 7) .nil))) .nil))) .nil)))) (.cons (.tup (.cons (.lit (.str [115, 117, 98, 116, 114, 97, 99, 116])) (.cons (.lst (.cons (.var 6) (.cons (.var 7) .nil))) (.cons (.lst (.cons (.lit (.str [116, 111, 108, 100])) (.cons (.call f__law_plus (.cons (.var 6) (.cons (.call f__law_minus (.cons (.var 7) .nil)) .nil))) .nil))) .nil)))) .nil))))) (.cons (.asg 5 (.bin .add (.var 5) (.lst (.cons (.tup (.cons (.lit (.str [109, 117, 108, 116, 105, 112, 108, 121])) (.cons (.lst (.cons (.var 6) (.cons (.var 7) .nil))) (.cons (.lst (.cons (.lit (.str [116, 111, 108, 100])) (.cons (.call f__law_times (.cons (.var 6) (.cons (.var 7) .nil))) .nil))) .nil)))) (.cons (.tup (.cons (.lit (.str [99, 111, 109, 112, 97, 114, 101])) (.cons (.lst (.cons (.var 6) (.cons (.var 7) .nil))) (.cons (.lst (.cons (.lit (.str [116, 111, 108, 100])) (.cons (.ite (.cmp .gt (.var 8) (.lit (.int 0))) (.lit (.int 1)) (.ite (.cmp .lt (.var 8) (.lit (.int 0))) (.neg (.lit (.int 1))) (.lit (.int 0)))) .nil))) .nil)))) .nil))))) (.cons (.asg 9 (.ite (.cmp .eq (.idx (.var 7) (.lit (.int 0))) (.lit (.int 0))) (.lst (.cons (.lit (.str [122, 101, 114, 111])) (.cons (.lit .non) .nil))) (.lst (.cons (.lit (.str [116, 111, 108, 100])) (.cons (.call f__law_low (.cons (.bin .mul (.idx (.var 6) (.lit (.int 0))) (.idx (.var 7) (.lit (.int 1)))) (.cons (.bin .mul (.idx (.var 6) (.lit (.int 1))) (.idx (.var 7) (.lit (.int 0)))) .nil))) .nil))))) (.cons (.expr (.app (.var 5) (.tup (.cons (.lit (.str [100, 105, 118, 105, 100, 101])) (.cons (.lst (.cons (.var 6) (.cons (.var 7) .nil))) (.cons (.var 9) .nil)))))) .nil)))))
abbrev sT0 : Sm := (.asg 8 (.bin .sub (.bin .mul (.idx (.var 6) (.lit (.int 0))) (.idx (.var 7) (.lit (.int 1)))) (.bin .mul (.idx (.var 7) (.lit (.int 0))) (.idx (.var 6) (.lit (.int 1))))))
abbrev sT1 : Sm := (.asg 5 (.bin .add (.var 5) (.lst (.cons (.tup (.cons (.lit (.str [97, 100, 100])) (.cons (.lst (.cons (.var 6) (.cons (.var 7) .nil))) (.cons (.lst (.cons (.lit (.str [116, 111, 108, 100])) (.cons (.call f__law_plus (.cons (.var 6) (.cons (.var 7) .nil))) .nil))) .nil)))) (.cons (.tup (.cons (.lit (.str [115, 117, 98, 116, 114, 97, 99, 116])) (.cons (.lst (.cons (.var 6) (.cons (.var 7) .nil))) (.cons (.lst (.cons (.lit (.str [116, 111, 108, 100])) (.cons (.call f__law_plus (.cons (.var 6) (.cons (.call f__law_minus (.cons (.var 7) .nil)) .nil))) .nil))) .nil)))) .nil)))))
abbrev sT2 : Sm := (.asg 5 (.bin .add (.var 5) (.lst (.cons (.tup (.cons (.lit (.str [109, 117, 108, 116, 105, 112, 108, 121])) (.cons (.lst (.cons (.var 6) (.cons (.var 7) .nil))) (.cons (.lst (.cons (.lit (.str [116, 111, 108, 100])) (.cons (.call f__law_times (.cons (.var 6) (.cons (.var 7) .nil))) .nil))) .nil)))) (.cons (.tup (.cons (.lit (.str [99, 111, 109, 112, 97, 114, 101])) (.cons (.lst (.cons (.var 6) (.cons (.var 7) .nil))) (.cons (.lst (.cons (.lit (.str [116, 111, 108, 100])) (.cons (.ite (.cmp .gt (.var 8) (.lit (.int 0))) (.lit (.int 1)) (.ite (.cmp .lt (.var 8) (.lit (.int 0))) (.neg (.lit (.int 1))) (.lit (.int 0)))) .nil))) .nil)))) .nil)))))
abbrev sT3 : Sm := (.asg 9 (.ite (.cmp .eq (.idx (.var 7) (.lit (.int 0))) (.lit (.int 0))) (.lst (.cons (.lit (.str [122, 101, 114, 111])) (.cons (.lit .non) .nil))) (.lst (.cons (.lit (.str [116, 111, 108, 100])) (.cons (.call f__law_low (.cons (.bin .mul (.idx (.var 6) (.lit (.int 0))) (.idx (.var 7) (.lit (.int 1)))) (.cons (.bin .mul (.idx (.var 6) (.lit (.int 1))) (.idx (.var 7) (.lit (.int 0)))) .nil))) .nil)))))
abbrev sT4 : Sm := (.expr (.app (.var 5) (.tup (.cons (.lit (.str [100, 105, 118, 105, 100, 101])) (.cons (.lst (.cons (.var 6) (.cons (.var 7) .nil))) (.cons (.var 9) .nil))))))
theorem plus_ok (n : Nat) (p q r s : Int) (S : Sto) (h1 : Sml p) (h2 : Sml q) (h3 : Sml r) (h4 : Sml s) (hq : q ≠ 0) (hs : s ≠ 0) : rn (n + 2) f__law_plus [nb p q, nb r s] S = .ok (low (p * s + r * q) (q * s)) S := by
  rw [isfree (d := d__law_plus) rfl rfl rfl]
  have g := law_low_ok n (p * s + r * q) (q * s) [] (Int.mul_ne_zero hq hs) (sml_pp h1 h4 h3 h2) (sml_p h2 h4)
  simp [d__law_plus, startE, idx0, idx1, sml_mul h1 h4, sml_mul h3 h2, sml_mul h2 h4, g, ret_low]
theorem times_ok (n : Nat) (p q r s : Int) (S : Sto) (h1 : Sml p) (h2 : Sml q) (h3 : Sml r) (h4 : Sml s) (hq : q ≠ 0) (hs : s ≠ 0) : rn (n + 2) f__law_times [nb p q, nb r s] S = .ok (low (p * r) (q * s)) S := by
  rw [isfree (d := d__law_times) rfl rfl rfl]
  have g := law_low_ok n (p * r) (q * s) [] (Int.mul_ne_zero hq hs) (sml_p h1 h3) (sml_p h2 h4)
  simp [d__law_times, startE, idx0, idx1, sml_mul h1 h3, sml_mul h2 h4, g, ret_low]
/-- rows = rows + [(w, [..], [..]), (w, [..], [..])] -/
theorem two_ev {N b R m : Nat} {ρ : Env} {S : Sto} {rws : List Rw} {w1 w2 : List Nat} {a1 a2 e1 e2 : Es} {A1 A2 D1 D2 : List D} (hρ : ρ[m]? = some (some (.ref R))) (g : Good N b R S rws) (hz : rws.length < 900) (ho : ∀ p ∈ rws, p.own = none)
    (h1 : ∀ S, evEs G.sub (rn 21) a1 ρ S = .ok A1 S) (h2 : ∀ S, evEs G.sub (rn 21) e1 ρ S = .ok D1 S) (h3 : ∀ S, evEs G.sub (rn 21) a2 ρ S = .ok A2 S) (h4 : ∀ S, evEs G.sub (rn 21) e2 ρ S = .ok D2 S) (s1 : A1.length ≤ 1000) (s2 : D1.length ≤ 1000) (s3 : A2.length ≤ 1000) (s4 : D2.length ≤ 1000) (hb : b < S.length)
    (r1 : ∀ S' : Sto, S'[S.length]? = some (.lst A1) → S'[S.length + 1]? = some (.lst D1) → RowSp (.tup [.str w1, .ref S.length, .ref (S.length + 1)]) [S.length, S.length + 1] none S')
    (r2 : ∀ S' : Sto, S'[S.length + 2]? = some (.lst A2) → S'[S.length + 3]? = some (.lst D2) → RowSp (.tup [.str w2, .ref (S.length + 2), .ref (S.length + 3)]) [S.length + 2, S.length + 3] none S') :
    ∃ (S' : Sto) (rws' : List Rw), evS G.sub (rn 21) (.asg m (.bin .add (.var m) (.lst (.cons (.tup (.cons (.lit (.str w1)) (.cons (.lst a1) (.cons (.lst e1) .nil)))) (.cons (.tup (.cons (.lit (.str w2)) (.cons (.lst a2) (.cons (.lst e2) .nil)))) .nil))))) ρ S = .nx (setE ρ m (.ref (S.length + 5))) S' ∧
      Good N b (S.length + 5) S' rws' ∧ (∀ p ∈ rws', p.own = none) ∧ rws'.length = rws.length + 2 ∧ Grow b S S' ∧ (∃ T, S' = S ++ T) := by
  obtain ⟨S', hS⟩ : ∃ S', S' = S ++ [.lst A1, .lst D1, .lst A2, .lst D2, .lst [.tup [.str w1, .ref S.length, .ref (S.length + 1)], .tup [.str w2, .ref (S.length + 2), .ref (S.length + 3)]], .lst (rws.map (·.row) ++ [.tup [.str w1, .ref S.length, .ref (S.length + 1)], .tup [.str w2, .ref (S.length + 2), .ref (S.length + 3)]])] := ⟨_, rfl⟩
  have gl := g.lt
  have ll : S'.length = S.length + 6 := by rw [hS]; simp
  have gr : Grow b S S' := hS ▸ Grow.app S _
  have q1 := r1 S' (by rw [hS]; simp) (by rw [hS]; simp)
  have q2 := r2 S' (by rw [hS]; simp) (by rw [hS]; simp)
  have gg := Good.two (R' := S.length + 5) (q1 := ⟨.tup [.str w1, .ref S.length, .ref (S.length + 1)], [S.length, S.length + 1], none⟩) (q2 := ⟨.tup [.str w2, .ref (S.length + 2), .ref (S.length + 3)], [S.length + 2, S.length + 3], none⟩) g gr (by rw [hS]; simp) (by omega) (by omega) q1 q2 (fun x hx => by simp at hx; omega) (fun x hx => by simp at hx; omega) (fun o e => by cases e) (fun o e => by cases e) (fun p hp o e => by rw [ho p hp] at e; cases e) hz
  refine ⟨S', _, ?_, gg, fun p hp => ?_, by simp, gr, _, hS⟩
  · have a1' : A1.length ≤ line := by unfold line; omega
    have a2' : A2.length ≤ line := by unfold line; omega
    have a3' : D1.length ≤ line := by unfold line; omega
    have a4' : D2.length ≤ line := by unfold line; omega
    have a5 : (3 : Nat) ≤ line := by unfold line; omega
    have a6 : (2 : Nat) ≤ line := by unfold line; omega
    have z0 : (S ++ [O.lst A1, .lst D1, .lst A2, .lst D2, .lst [.tup [.str w1, .ref S.length, .ref (S.length + 1)], .tup [.str w2, .ref (S.length + 2), .ref (S.length + 3)]]])[R]? = some (.lst (rws.map (·.row))) := (Grow.app (b := b) S _).at_ g.at_ (Ne.symm g.bR)
    have z1 : (S ++ [O.lst A1, .lst D1, .lst A2, .lst D2, .lst [.tup [.str w1, .ref S.length, .ref (S.length + 1)], .tup [.str w2, .ref (S.length + 2), .ref (S.length + 3)]]])[S.length + 4]? = some (.lst [.tup [.str w1, .ref S.length, .ref (S.length + 1)], .tup [.str w2, .ref (S.length + 2), .ref (S.length + 3)]]) := by simp
    have z2 : binD .add (.ref R) (.ref (S.length + 4)) (S ++ [O.lst A1, .lst D1, .lst A2, .lst D2, .lst [.tup [.str w1, .ref S.length, .ref (S.length + 1)], .tup [.str w2, .ref (S.length + 2), .ref (S.length + 3)]]]) = .ok (.ref (S.length + 5)) S' := by
      unfold binD
      simp only [z0, z1]
      rw [if_pos (by simp [line]; omega), hS]
      simp
    simp [hρ, h1, h2, h3, h4, a1', a2', a3', a4', a5, a6, z2]
  · rcases List.mem_append.mp hp with hp | hp
    · exact ho p hp
    · simp at hp
      rcases hp with rfl | rfl <;> rfl
theorem sub_eq (p q r s : Int) : p * s + (0 - r) * q = p * s - r * q := by
  rw [Int.sub_mul, Int.zero_mul, Int.zero_sub, Int.sub_eq_add_neg]
theorem isNum_minus {r s : Int} (h : isNum r s = true) : isNum (0 - r) s = true := by
  unfold isNum at h ⊢
  have : (0 - r).natAbs = r.natAbs := by omega
  rw [this]; exact h
theorem sml_minus {r : Int} (h : Sml r) : Sml (0 - r) := by
  have : (0 - r).natAbs = r.natAbs := by omega
  show (0 - r).natAbs < 2 ^ 1000
  rw [this]; exact h
theorem sum_turn {N b R k : Nat} {by_ : Bool} {x6 x7 x8 x9 : Option D} {w o t : D} {p q r s : Int} {S : Sto} {rws : List Rw} (h1 : Sml p) (h2 : Sml q) (h3 : Sml r) (h4 : Sml s) (n1 : isNum p q = true) (n2 : isNum r s = true) (g : Good N b R S rws) (ho : ∀ p ∈ rws, p.own = none) (hz : rws.length ≤ 100) (hb : Bx S b k) :
    ∃ (y8 y9 : Option D) (R' : Nat) (S' : Sto) (rws' : List Rw), evSs G.sub (rn 21) sumT [some (.ref b), some (.bl by_), some o, some w, some t, some (.ref R), some (nb p q), some (nb r s), x8, x9] S = .nx [some (.ref b), some (.bl by_), some o, some w, some t, some (.ref R'), some (nb p q), some (nb r s), y8, y9] S' ∧
      Good N b R' S' rws' ∧ (∀ p ∈ rws', p.own = none) ∧ rws'.length = rws.length + 5 ∧ Bx S' b k ∧ S.length ≤ S'.length ∧ Old N b S S' := by
  have bl := hb.lt
  have nq := num_ne n1
  have ns := num_ne n2
  have gl := g.lt
  obtain ⟨gap, hg⟩ : ∃ gap, gap = p * s - r * q := ⟨_, rfl⟩
  have s0 : evS G.sub (rn 21) sT0 [some (.ref b), some (.bl by_), some o, some w, some t, some (.ref R), some (nb p q), some (nb r s), x8, x9] S = .nx [some (.ref b), some (.bl by_), some o, some w, some t, some (.ref R), some (nb p q), some (nb r s), some (.int gap), x9] S := by
    simp [idx0, idx1, sml_mul h1 h4, sml_mul h3 h2, setE, hg]
  obtain ⟨ρ, hρ⟩ : ∃ ρ : Env, ρ = [some (.ref b), some (.bl by_), some o, some w, some t, some (.ref R), some (nb p q), some (nb r s), some (.int gap), x9] := ⟨_, rfl⟩
  have pl : ∀ S, rn 21 f__law_plus [nb p q, nb r s] S = .ok (low (p * s + r * q) (q * s)) S := fun S => plus_ok 19 p q r s S h1 h2 h3 h4 nq ns
  have mi : ∀ S, rn 21 f__law_minus [nb r s] S = .ok (nb (0 - r) s) S := fun S => minus_ok 20 r s S
  have pm : ∀ S, rn 21 f__law_plus [nb p q, nb (0 - r) s] S = .ok (low (p * s - r * q) (q * s)) S := fun S => by
    have := plus_ok 19 p q (0 - r) s S h1 h2 (sml_minus h3) h4 nq ns
    rwa [sub_eq] at this
  simp only [Int.zero_sub] at mi pm
  have tm : ∀ S, rn 21 f__law_times [nb p q, nb r s] S = .ok (low (p * r) (q * s)) S := fun S => times_ok 19 p q r s S h1 h2 h3 h4 nq ns
  obtain ⟨S1, rws1, e1, k1, ho1, z1, g1, T1, hT1⟩ := two_ev (m := 5) (w1 := [97, 100, 100]) (w2 := [115, 117, 98, 116, 114, 97, 99, 116]) (a1 := .cons (.var 6) (.cons (.var 7) .nil)) (e1 := .cons (.lit (.str TOLD)) (.cons (.call f__law_plus (.cons (.var 6) (.cons (.var 7) .nil))) .nil)) (a2 := .cons (.var 6) (.cons (.var 7) .nil)) (e2 := .cons (.lit (.str TOLD)) (.cons (.call f__law_plus (.cons (.var 6) (.cons (.call f__law_minus (.cons (.var 7) .nil)) .nil))) .nil))
    (A1 := [nb p q, nb r s]) (D1 := [.str TOLD, low (p * s + r * q) (q * s)]) (A2 := [nb p q, nb r s]) (D2 := [.str TOLD, low (p * s - r * q) (q * s)]) (ρ := ρ) (by rw [hρ]; rfl) g (by omega) ho (by rw [hρ]; simp) (by rw [hρ]; simp [pl]) (by rw [hρ]; simp) (by rw [hρ]; simp [mi, pm]) (by simp) (by simp) (by simp) (by simp) bl
    (fun S' hi hj => row_two (f := f_add) (.inl ⟨rfl, rfl⟩) low_pl (fun S2 => add_ok 14 p q r s S2 h1 h2 h3 h4 n1 n2) hi hj)
    (fun S' hi hj => row_two (f := f_subtract) (.inr (.inl ⟨rfl, rfl⟩)) low_pl (fun S2 => subtract_ok 14 p q r s S2 h1 h2 h3 h4 n1 n2) hi hj)
  obtain ⟨ρ1, hρ1⟩ : ∃ ρ1 : Env, ρ1 = setE ρ 5 (.ref (S.length + 5)) := ⟨_, rfl⟩
  have hρ1' : ρ1 = [some (.ref b), some (.bl by_), some o, some w, some t, some (.ref (S.length + 5)), some (nb p q), some (nb r s), some (.int gap), x9] := by rw [hρ1, hρ]; rfl
  have l1 := g1.len
  obtain ⟨S2, rws2, e2, k2, ho2, z2, g2, T2, hT2⟩ := two_ev (m := 5) (w1 := [109, 117, 108, 116, 105, 112, 108, 121]) (w2 := [99, 111, 109, 112, 97, 114, 101]) (a1 := .cons (.var 6) (.cons (.var 7) .nil)) (e1 := .cons (.lit (.str TOLD)) (.cons (.call f__law_times (.cons (.var 6) (.cons (.var 7) .nil))) .nil)) (a2 := .cons (.var 6) (.cons (.var 7) .nil)) (e2 := .cons (.lit (.str TOLD)) (.cons (.ite (.cmp .gt (.var 8) (.lit (.int 0))) (.lit (.int 1)) (.ite (.cmp .lt (.var 8) (.lit (.int 0))) (.neg (.lit (.int 1))) (.lit (.int 0)))) .nil))
    (A1 := [nb p q, nb r s]) (D1 := [.str TOLD, low (p * r) (q * s)]) (A2 := [nb p q, nb r s]) (D2 := [.str TOLD, .int (sgn (p * s - r * q))]) (ρ := ρ1) (by rw [hρ1']; rfl) k1 (by omega) ho1 (by rw [hρ1']; simp) (by rw [hρ1']; simp [tm]) (by rw [hρ1']; simp) (by
      rw [hρ1', ← hg]
      intro S
      by_cases c1 : 0 < gap
      · have : gap ≠ 0 := by omega
        simp [c1, sgn, this]
      · by_cases c2 : gap < 0
        · have : gap ≠ 0 := by omega
          simp [c1, c2, sgn, this]
        · have : gap = 0 := by omega
          simp [this, sgn]) (by simp) (by simp) (by simp) (by simp) (by omega)
    (fun S' hi hj => row_two (f := f_multiply) (.inr (.inr (.inl ⟨rfl, rfl⟩))) low_pl (fun S2 => multiply_ok 14 p q r s S2 h1 h2 h3 h4 n1 n2) hi hj)
    (fun S' hi hj => row_two (f := f_compare) (.inr (.inr (.inr (.inr ⟨rfl, rfl⟩)))) (.int _) (fun S2 => compare_ok 14 p q r s S2 h1 h2 h3 h4 n1 n2) hi hj)
  have l2 := g2.len
  obtain ⟨ρ2, hρ2⟩ : ∃ ρ2 : Env, ρ2 = setE ρ1 5 (.ref (S1.length + 5)) := ⟨_, rfl⟩
  have hρ2' : ρ2 = [some (.ref b), some (.bl by_), some o, some w, some t, some (.ref (S1.length + 5)), some (nb p q), some (nb r s), some (.int gap), x9] := by rw [hρ2, hρ1']; rfl
  -- what is due of the share
  obtain ⟨due, hdue⟩ : ∃ due : List D, due = if r = 0 then [.str [122, 101, 114, 111], .non] else [.str TOLD, low (p * s) (q * r)] := ⟨_, rfl⟩
  have dl : due.length = 2 := by rw [hdue]; split <;> rfl
  have s3 : evS G.sub (rn 21) sT3 ρ2 S2 = .nx (setE ρ2 9 (.ref S2.length)) (S2 ++ [.lst due]) := by
    rw [hρ2', hdue]
    by_cases c : r = 0
    · subst c
      simp [idx0, line, setE]
    · have lw := law_low_ok 20 (p * s) (q * r) S2 (Int.mul_ne_zero nq c) (sml_p h1 h4) (sml_p h2 h3)
      simp [idx0, idx1, c, line, setE, sml_mul h1 h4, sml_mul h2 h3, lw]
  obtain ⟨ρ3, hρ3⟩ : ∃ ρ3 : Env, ρ3 = [some (.ref b), some (.bl by_), some o, some w, some t, some (.ref (S1.length + 5)), some (nb p q), some (nb r s), some (.int gap), some (.ref S2.length)] := ⟨_, rfl⟩
  have hρ3' : setE ρ2 9 (.ref S2.length) = ρ3 := by rw [hρ2', hρ3]; rfl
  have k3 := k2.grow ((Grow.app (b := b) S2 [O.lst due]).trans (Grow.app _ [O.lst [nb p q, nb r s]]))
  have row : RowSp (.tup [.str [100, 105, 118, 105, 100, 101], .ref (S2.length + 1), .ref S2.length]) [S2.length + 1, S2.length] none ((S2 ++ [O.lst due]) ++ [O.lst [nb p q, nb r s]]) := by
    have hi : ((S2 ++ [O.lst due]) ++ [O.lst [nb p q, nb r s]])[S2.length + 1]? = some (.lst [nb p q, nb r s]) := by simp
    have hj : ((S2 ++ [O.lst due]) ++ [O.lst [nb p q, nb r s]])[S2.length]? = some (.lst due) := by simp
    by_cases c : r = 0
    · subst c
      rw [hdue, if_pos rfl] at hj
      rw [hdue, if_pos rfl] at hi ⊢
      exact row_zero h1 h2 h4 n1 n2 hi hj
    · rw [hdue, if_neg c] at hj
      rw [hdue, if_neg c] at hi ⊢
      exact row_two (f := f_divide) (.inr (.inr (.inr (.inl ⟨rfl, rfl⟩)))) low_pl (fun S2 => divide_ok 14 p q r s S2 h1 h2 h3 h4 n1 n2 c) hi hj
  have k4 := k3.add (q := ⟨.tup [.str [100, 105, 118, 105, 100, 101], .ref (S2.length + 1), .ref S2.length], [S2.length + 1, S2.length], none⟩) row (fun x hx => by simp at hx; have := k2.lt; simp; omega) (fun o e => by cases e) (fun p hp o e => by rw [ho2 p hp] at e; cases e) (by omega)
  have s4 : evS G.sub (rn 21) sT4 ρ3 (S2 ++ [.lst due]) = .nx ρ3 (((S2 ++ [O.lst due]) ++ [O.lst [nb p q, nb r s]]).set (S1.length + 5) (.lst (rws2.map (·.row) ++ [.tup [.str [100, 105, 118, 105, 100, 101], .ref (S2.length + 1), .ref S2.length]]))) := by
    have lo : lstOf (S2 ++ [O.lst due]) (S1.length + 5) = some (rws2.map (·.row)) := by
      unfold lstOf
      rw [((Grow.app (b := b) S2 [O.lst due]).at_ k2.at_ (Ne.symm k2.bR))]
    have a3 : (rws2.map (·.row)).length < line := by unfold line; rw [List.length_map]; omega
    have a5 : (3 : Nat) ≤ line := by unfold line; omega
    have a6 : (2 : Nat) ≤ line := by unfold line; omega
    have k3a := k3.at_
    simp only [List.append_assoc, List.cons_append, List.nil_append] at k3a
    rw [hρ3]
    simp only [List.length_map] at a3
    simp [lo, a5, a6, meD, k3a, a3]
  refine ⟨some (.int gap), some (.ref S2.length), S1.length + 5, _, _, ?_, k4, fun p hp => ?_, by simp; omega, ?_, by simp; omega, ?_⟩
  · show evSs G.sub (rn 21) (.cons sT0 (.cons sT1 (.cons sT2 (.cons sT3 (.cons sT4 .nil))))) _ S = _
    rw [evSs_cons, s0, RS.then_nx, ← hρ, evSs_cons, e1, RS.then_nx, ← hρ1, evSs_cons, e2, RS.then_nx, ← hρ2, evSs_cons, s3, RS.then_nx, hρ3', evSs_cons, s4, RS.then_nx, evSs_nil, hρ3]
  · rcases List.mem_append.mp hp with hp | hp
    · exact ho2 p hp
    · rw [List.mem_singleton.mp hp]
  · have b2 : Bx S2 b k := by rw [hT2, hT1]; exact hb.app.app
    exact b2.app.app.set (by omega)
  · have a : Grow b S ((S2 ++ [O.lst due]) ++ [O.lst [nb p q, nb r s]]) := (g1.trans g2).trans ((Grow.app (b := b) S2 [O.lst due]).trans (Grow.app _ _))
    have := g.NR
    exact (Old.grow (Old.refl N b S) a (by omega)).set (by omega)
end K00

namespace K00
open Eg
def numA : List D := [.int 1, .int (-1), .int 2, .int 0, .int 3, .int (-2), .int 1, .int 5, .int (-3), .int 1]
def numB : List D := [.int 1, .int 1, .int 1, .int 2, .int 1, .int 3]
theorem numA_ok {v : D} (h : v ∈ numA) : ∃ x : Int, v = .int x ∧ x.natAbs < 100 := by
  simp only [numA, List.mem_cons, List.not_mem_nil, or_false] at h
  rcases h with rfl | rfl | rfl | rfl | rfl | rfl | rfl | rfl | rfl | rfl <;> exact ⟨_, rfl, by decide⟩
theorem numB_ok {v : D} (h : v ∈ numB) : ∃ x : Int, v = .int x ∧ x.natAbs < 100 ∧ x ≠ 0 := by
  simp only [numB, List.mem_cons, List.not_mem_nil, or_false] at h
  rcases h with rfl | rfl | rfl | rfl | rfl | rfl <;> exact ⟨_, rfl, by decide, by decide⟩
theorem number_ok (n b k : Nat) (S : Sto) (h : Bx S b (k + 2)) : ∃ (p q : Int) (S' : Sto), rn (n + 2) f__law_number [.ref b] S = .ok (nb p q) S' ∧ isNum p q = true ∧ Sml p ∧ Sml q ∧ Grow b S S' ∧ Bx S' b k := by
  obtain ⟨d, S1, e1, d1, d2, g1, h1⟩ := take_ok n b (k + 1) 10 S h (by decide) (by decide)
  obtain ⟨c, S2, e2, c1, c2, g2, h2⟩ := take_ok n b k 6 S1 h1 (by decide) (by decide)
  obtain ⟨v, v1, v2⟩ := at_int (l := numA) d1 (by simp [numA]; omega)
  obtain ⟨u, u1, u2⟩ := at_int (l := numB) c1 (by simp [numB]; omega)
  obtain ⟨x, rfl, x1⟩ := numA_ok v2
  obtain ⟨y, rfl, y1, y2⟩ := numB_ok u2
  have sx := small_sml x1
  have sy := small_sml y1
  obtain ⟨p, q, l1, l2, l3, l4⟩ := low_num y2 sx sy
  have lw := law_low_ok n x y S2 y2 (sm_up sx (by omega)) (sm_up sy (by omega))
  refine ⟨p, q, S2, ?_, l2, Nat.lt_of_le_of_lt l3 sx, Nat.lt_of_le_of_lt l4 sy, g1.trans g2, h2⟩
  rw [nonfree (d := d__law_number) rfl rfl rfl, ← l1]
  unfold numA at v1
  unfold numB at u1
  simp [d__law_number, startE, line, e1, idxL, v1, e2, u1, lw]
theorem sums_ok (b k : Nat) (by_ : Bool) (S : Sto) (hb : Bx S b (k + 100)) : ∃ S', rn 22 f__law_sums_right [.ref b, .bl by_] S = .ok (.bl true) S' ∧ Bx S' b k ∧ Old S.length b S S' ∧ S.length ≤ S'.length := by
  have bl := hb.lt
  obtain ⟨p, q, S1, e1, n1, p1, q1, g1, b1⟩ := any_number_ok 18 b (k + 92) S hb
  obtain ⟨w, S2, e2, w1, w2, g2, b2⟩ := take_ok 20 b (k + 91) 6 S1 b1 (by decide) (by decide)
  obtain ⟨p3, q3, S3, e3, n3, p3s, q3s, g3, b3⟩ := any_number_ok 18 b (k + 83) S2 b2
  obtain ⟨p4, q4, S4, e4, n4, p4s, q4s, g4, b4⟩ := any_number_ok 18 b (k + 75) S3 b3
  obtain ⟨p5, q5, S5, e5, n5, p5s, q5s, g5, b5⟩ := number_ok 19 b (k + 73) S4 b4
  have sp : Sml p := sm_up p1 (by omega)
  have sq : Sml q := sm_up q1 (by omega)
  have mi : rn 21 f__law_minus [nb p q] S4 = .ok (nb (0 - p) q) S4 := minus_ok 20 p q S4
  obtain ⟨v, v1, v2⟩ := at_int (l := [nb p3 q3, nb p4 q4, nb p q, nb (0 - p) q, nb 0 1, nb p5 q5]) w1 (by simp; omega)
  obtain ⟨r, s, rfl, n2, sr, ss⟩ : ∃ r s, v = nb r s ∧ isNum r s = true ∧ Sml r ∧ Sml s := by
    simp only [List.mem_cons, List.not_mem_nil, or_false] at v2
    rcases v2 with rfl | rfl | rfl | rfl | rfl | rfl
    · exact ⟨_, _, rfl, n3, sm_up p3s (by omega), sm_up q3s (by omega)⟩
    · exact ⟨_, _, rfl, n4, sm_up p4s (by omega), sm_up q4s (by omega)⟩
    · exact ⟨_, _, rfl, n1, sp, sq⟩
    · exact ⟨_, _, rfl, isNum_minus n1, sml_minus sp, sq⟩
    · exact ⟨0, 1, rfl, by decide, small_sml (by decide), small_sml (by decide)⟩
    · exact ⟨_, _, rfl, n5, p5s, q5s⟩
  have G5 : Grow b S S5 := (((g1.trans g2).trans g3).trans g4).trans g5
  have l5 := G5.len
  have g0 : Good S.length b S5.length (S5 ++ [.lst []]) [] := ⟨by simp, trivial, fun q h => (by cases h), by omega, by omega, by simp⟩
  obtain ⟨y8, y9, R1, S6, rws1, e6, k6, ho6, z6, b6, l6, o6⟩ := sum_turn (by_ := by_) (x6 := none) (x7 := none) (x8 := none) (x9 := none) (w := .int w) (o := nb p q) (t := nb r s) sp sq sr ss n1 n2 g0 (fun p h => by cases h) (by simp) b5.app
  obtain ⟨z8, z9, R2, S7, rws2, e7, k7, ho7, z7, b7, l7, o7⟩ := sum_turn (by_ := by_) (x6 := none) (x7 := none) (x8 := y8) (x9 := y9) (w := .int w) (o := nb p q) (t := nb r s) sr ss sp sq n2 n1 k6 ho6 (by rw [z6]; decide) b6
  have oS : Old S.length b S S7 := fun x hx hn => by
    have a1 : (S5 ++ [O.lst []])[x]? = S5[x]? := List.getElem?_append_left (by omega)
    exact (o7 x hx hn).trans ((o6 x hx hn).trans (a1.trans (G5.old x hx hn)))
  obtain ⟨S8, e8, b8, o8, l8⟩ := Good.fin by_ k7 b7 oS bl
  simp at l6
  refine ⟨S8, ?_, b8.less (by omega), o8, by omega⟩
  rw [nonfree (d := d__law_sums_right) rfl rfl rfl]
  have s0 : evS G.sub (rn 21) sS0 [some (.ref b), some (.bl by_), none, none, none, none, none, none, none, none] S = .nx [some (.ref b), some (.bl by_), some (nb p q), some (.int w), none, none, none, none, none, none] S2 := by
    simp [e1, e2, setAll, setE]
  have s1 : evS G.sub (rn 21) sS1 [some (.ref b), some (.bl by_), some (nb p q), some (.int w), none, none, none, none, none, none] S2 = .nx [some (.ref b), some (.bl by_), some (nb p q), some (.int w), some (nb r s), none, none, none, none, none] S5 := by
    simp only [Int.zero_sub] at v1 mi
    simp [e3, e4, mi, line, e5, idxL, v1, setE]
  have s2 : evS G.sub (rn 21) sS2 [some (.ref b), some (.bl by_), some (nb p q), some (.int w), some (nb r s), none, none, none, none, none] S5 = .nx [some (.ref b), some (.bl by_), some (nb p q), some (.int w), some (nb r s), some (.ref S5.length), none, none, none, none] (S5 ++ [.lst []]) := by
    simp [line, setE]
  have s3 : evS G.sub (rn 21) sS3 [some (.ref b), some (.bl by_), some (nb p q), some (.int w), some (nb r s), some (.ref S5.length), none, none, none, none] (S5 ++ [.lst []]) = .nx [some (.ref b), some (.bl by_), some (nb p q), some (.int w), some (nb r s), some (.ref R2), some (nb r s), some (nb p q), z8, z9] S7 := by
    show evS G.sub (rn 21) (.fr (.tp [.nm 6, .nm 7]) (.lst (.cons (.tup (.cons (.var 2) (.cons (.var 4) .nil))) (.cons (.tup (.cons (.var 4) (.cons (.var 2) .nil))) .nil))) sumT) _ _ = _
    have ei : evI G.sub (rn 21) (.lst (.cons (.tup (.cons (.var 2) (.cons (.var 4) .nil))) (.cons (.tup (.cons (.var 4) (.cons (.var 2) .nil))) .nil))) [some (.ref b), some (.bl by_), some (nb p q), some (.int w), some (nb r s), some (.ref S5.length), none, none, none, none] (S5 ++ [.lst []]) = .ok ([.tup [nb p q, nb r s], .tup [nb r s, nb p q]], none) (S5 ++ [.lst []]) := by
      simp [line]
    rw [evS_fr, ei, Eg.R.st_ok, forB_cons]
    have b1' : ∀ (a c : D) (x4 : Option D) (x5 x6 x7 x8 x9 : Option D) (S : Sto), bindT S (.tp [.nm 6, .nm 7]) (.tup [a, c]) [some (.ref b), some (.bl by_), some (nb p q), some (.int w), x4, x5, x6, x7, x8, x9] = some [some (.ref b), some (.bl by_), some (nb p q), some (.int w), x4, x5, some a, some c, x8, x9] := fun a c x4 x5 x6 x7 x8 x9 S => by simp [bindT, bindTs, setE]
    rw [b1']
    simp only [e6]
    rw [if_pos (show gOk none S6 = true from rfl), forB_cons, b1']
    simp only [e7]
    rw [if_pos (show gOk none S7 = true from rfl), forB_nil]
  have s4 : evS G.sub (rn 21) sS4 [some (.ref b), some (.bl by_), some (nb p q), some (.int w), some (nb r s), some (.ref R2), some (nb r s), some (nb p q), z8, z9] S7 = .rt (.bl true) S8 := by
    simp [e8]
  have e : evSs G.sub (rn 21) d__law_sums_right.body (startE d__law_sums_right [.ref b, .bl by_]) S = .rt (.bl true) S8 := by
    show evSs G.sub (rn 21) (.cons sS0 (.cons sS1 (.cons sS2 (.cons sS3 (.cons sS4 .nil))))) [some (.ref b), some (.bl by_), none, none, none, none, none, none, none, none] S = _
    rw [evSs_cons, s0, RS.then_nx, evSs_cons, s1, RS.then_nx, evSs_cons, s2, RS.then_nx, evSs_cons, s3, RS.then_nx, evSs_cons, s4, RS.then_rt]
  rw [e]
  rfl
end K00

namespace K00
open Eg
abbrev uS0 : Sm := (.asg 2 (.lst .nil))
abbrev uS1 : Sm := (.fr (.nm 3) (.lst (.cons (.lit (.str [97, 100, 100])) (.cons (.lit (.str [115, 117, 98, 116, 114, 97, 99, 116])) (.cons (.lit (.str [109, 117, 108, 116, 105, 112, 108, 121])) (.cons (.lit (.str [100, 105, 118, 105, 100, 101])) (.cons (.lit (.str [99, 111, 109, 112, 97, 114, 101])) .nil)))))) (.cons (.par [4, 5] (.cons (.call f__law_no_number (.cons (.var 0) .nil)) (.cons (.call f__law_any_number (.cons (.var 0) .nil)) .nil))) (.cons (.asg 6 (.idxl (.cons (.var 5) (.cons (.tup (.cons (.lit (.int 0)) (.cons (.lit (.int 1)) .nil))) (.cons (.call f__law_no_number (.cons (.var 0) .nil)) .nil))) (.call f__law_take (.cons (.var 0) (.cons (.lit (.int 3)) .nil))))) (.cons (.asg 2 (.bin .add (.var 2) (.lst (.cons (.tup (.cons (.var 3) (.cons (.lst (.cons (.var 4) (.cons (.var 6) .nil))) (.cons (.lst (.cons (.lit (.str [110, 117, 109, 98, 101, 114])) (.cons (.var 4) .nil))) .nil)))) (.cons (.tup (.cons (.var 3) (.cons (.lst (.cons (.var 5) (.cons (.call f__law_copy (.cons (.var 4) .nil)) .nil))) (.cons (.lit .non) .nil)))) .nil))))) (.cons (.setI (.var 2) (.neg (.lit (.int 1))) (.tup (.cons (.var 3) (.cons (.idx (.idx (.var 2) (.neg (.lit (.int 1)))) (.lit (.int 1))) (.cons (.lst (.cons (.lit (.str [110, 117, 109, 98, 101, 114])) (.cons (.idx (.idx (.idx (.var 2) (.neg (.lit (.int 1)))) (.lit (.int 1))) (.lit (.int 1))) .nil))) .nil))))) .nil)))))
abbrev uS2 : Sm := (.ret (.call f__law_rows_right (.cons (.var 2) (.cons (.var 1) .nil))))
abbrev refT : Ss := (.cons (.par [4, 5] (.cons (.call f__law_no_number (.cons (.var 0) .nil)) (.cons (.call f__law_any_number (.cons (.var 0) .nil)) .nil))) (.cons (.asg 6 (.idxl (.cons (.var 5) (.cons (.tup (.cons (.lit (.int 0)) (.cons (.lit (.int 1)) .nil))) (.cons (.call f__law_no_number (.cons (.var 0) .nil)) .nil))) (.call f__law_take (.cons (.var 0) (.cons (.lit (.int 3)) .nil))))) (.cons (.asg 2 (.bin .add (.var 2) (.lst (.cons (.tup (.cons (.var 3) (.cons (.lst (.cons (.var 4) (.cons (.var 6) .nil))) (.cons (.lst (.cons (.lit (.str [110, 117, 109, 98, 101, 114])) (.cons (.var 4) .nil))) .nil)))) (.cons (.tup (.cons (.var 3) (.cons (.lst (.cons (.var 5) (.cons (.call f__law_copy (.cons (.var 4) .nil)) .nil))) (.cons (.lit .non) .nil)))) .nil))))) (.cons (.setI (.var 2) (.neg (.lit (.int 1))) (.tup (.cons (.var 3) (.cons (.idx (.idx (.var 2) (.neg (.lit (.int 1)))) (.lit (.int 1))) (.cons (.lst (.cons (.lit (.str [110, 117, 109, 98, 101, 114])) (.cons (.idx (.idx (.idx (.var 2) (.neg (.lit (.int 1)))) (.lit (.int 1))) (.lit (.int 1))) .nil))) .nil))))) .nil))))
abbrev uT0 : Sm := (.par [4, 5] (.cons (.call f__law_no_number (.cons (.var 0) .nil)) (.cons (.call f__law_any_number (.cons (.var 0) .nil)) .nil)))
abbrev uT1 : Sm := (.asg 6 (.idxl (.cons (.var 5) (.cons (.tup (.cons (.lit (.int 0)) (.cons (.lit (.int 1)) .nil))) (.cons (.call f__law_no_number (.cons (.var 0) .nil)) .nil))) (.call f__law_take (.cons (.var 0) (.cons (.lit (.int 3)) .nil)))))
abbrev uT2 : Sm := (.asg 2 (.bin .add (.var 2) (.lst (.cons (.tup (.cons (.var 3) (.cons (.lst (.cons (.var 4) (.cons (.var 6) .nil))) (.cons (.lst (.cons (.lit (.str [110, 117, 109, 98, 101, 114])) (.cons (.var 4) .nil))) .nil)))) (.cons (.tup (.cons (.var 3) (.cons (.lst (.cons (.var 5) (.cons (.call f__law_copy (.cons (.var 4) .nil)) .nil))) (.cons (.lit .non) .nil)))) .nil)))))
abbrev uT3 : Sm := (.setI (.var 2) (.neg (.lit (.int 1))) (.tup (.cons (.var 3) (.cons (.idx (.idx (.var 2) (.neg (.lit (.int 1)))) (.lit (.int 1))) (.cons (.lst (.cons (.lit (.str [110, 117, 109, 98, 101, 114])) (.cons (.idx (.idx (.idx (.var 2) (.neg (.lit (.int 1)))) (.lit (.int 1))) (.lit (.int 1))) .nil))) .nil)))))
/-- no list: nothing is changed -/
inductive Nl (S : Sto) : D → Prop
  | pl {d : D} (h : Pl 2 d) : Nl S d
  | dct {r : Nat} (h : S[r]? = some (.dct [])) : Nl S (.ref r)
theorem Nl.vl {S : Sto} {v : D} (h : Nl S v) : Vl S v := by
  cases h with
  | pl h => exact .pl h
  | dct h => exact .dct h
theorem Nl.agree {S S' : Sto} {v : D} (h : Nl S v) (ha : ∀ x ∈ refO v, S'[x]? = S[x]?) : Nl S' v := by
  cases h with
  | pl h => exact .pl h
  | dct h => exact .dct ((ha _ (by simp [refO])).trans h)
theorem blamed_same (n : Nat) (v : D) (S : Sto) (h : Nl S v) : rn (n + 5) f__law_blamed [v, v] S = .ok (.bl true) S := by
  cases h with
  | pl h =>
    rw [isfree (d := d__law_blamed) rfl rfl (by simp [D.freeL, h.free])]
    have e := same_pl h (n + 1) []
    obtain ⟨kd, k1, k2⟩ := pl_nolist h []
    simp [d__law_blamed, startE, e, k1, k2]
  | @dct r hr =>
    have e := same_dct (n + 3) r S hr
    rw [nonfree (d := d__law_blamed) rfl rfl rfl]
    simp [d__law_blamed, startE, e, kind_dct hr, isK]
theorem row_elseN {w u : List Nat} {i j : Nat} {x : D} {S : Sto} (hu : u ≠ TOLD) (hj : S[j]? = some (.lst [.str u, x])) (hv : Nl S x) {dep : List Nat} (hd : j ∈ dep) (hd2 : ∀ y ∈ refO x, y ∈ dep)
    (ask : ∀ S' : Sto, (∀ x ∈ dep, S'[x]? = S[x]?) → ∀ by_ : Bool, rn 20 f__law_asked [.str w, .ref i, .bl by_] S' = .ok (.ref S'.length) (S' ++ [.lst [.str u, x]])) : RowSp (.tup [.str w, .ref i, .ref j]) dep none S := by
  refine ⟨w, i, j, rfl, fun S' hl ha by_ => ?_⟩
  have hj' := (ha j hd).trans hj
  have hv1 := hv.agree (S' := S') fun y hy => ha y (hd2 y hy)
  have hv' : Nl (S' ++ [.lst [.str u, x]]) x := hv1.agree fun y hy => by
    have : y < S'.length := by
      cases hv1 with
      | pl h =>
        cases x <;> simp [refO] at hy
        cases h
      | dct h => simp [refO] at hy; subst hy; exact (List.getElem?_eq_some_iff.mp h).1
    exact List.getElem?_append_left this
  have i0 : idxD (.ref S'.length) (.int 0) (S' ++ [.lst [.str u, x]]) = .ok (.str u) (S' ++ [.lst [.str u, x]]) := idx_ref (l := [.str u, x]) (by simp) rfl
  have i1 : idxD (.ref S'.length) (.int 1) (S' ++ [.lst [.str u, x]]) = .ok x (S' ++ [.lst [.str u, x]]) := idx_ref (l := [.str u, x]) (by simp) rfl
  have hj2 : (S' ++ [O.lst [.str u, x]])[j]? = some (.lst [.str u, x]) := (List.getElem?_append_left (List.getElem?_eq_some_iff.mp hj').1).trans hj'
  have j0 : idxD (.ref j) (.int 0) (S' ++ [.lst [.str u, x]]) = .ok (.str u) (S' ++ [.lst [.str u, x]]) := idx_ref hj2 rfl
  have j1 : idxD (.ref j) (.int 1) (S' ++ [.lst [.str u, x]]) = .ok x (S' ++ [.lst [.str u, x]]) := idx_ref hj2 rfl
  have hu' : ¬ u = [116, 111, 108, 100] := hu
  refine ⟨_, _, S' ++ [.lst [.str u, x]], ask S' ha by_, ?_, by simp, fun y hy _ => List.getElem?_append_left hy⟩
  rw [nonfree (d := d__law_met) rfl rfl rfl]
  simp [d__law_met, startE, i0, j0, i1, j1, blamed_same 14 x _ hv', hu']
theorem row_bad1N {w : List Nat} {f i j : Nat} (hw : isTwo w f) {v o : D} {S : Sto} (hv : BN S v) (hn : Nl S v) (hi : S[i]? = some (.lst [v, o])) (hj : S[j]? = some (.lst [.str NUMBER, v])) : RowSp (.tup [.str w, .ref i, .ref j]) (i :: j :: refO v) none S :=
  row_elseN (by decide) hj hn (by simp) (fun y hy => by simp [hy]) fun S' ha by_ => by
    have hv' : BN S' v := hv.agree fun x hx => ha x (by simp [hx])
    refine asked_two_x 19 i _ _ [] by_ S' ((ha i (by simp)).trans hi) w f hw v (two_x 14 hw v o v S' (fun S2 h2 => ?_) fun fr => by simp [D.freeL] at fr; exact fr.1)
    rcases h2 with rfl | ⟨rfl, fr⟩
    · exact check_two_x1 14 v o _ hv'
    · exact check_two_x1 14 v o _ (bn_nil hv' (by simp [D.freeL] at fr; exact fr.1))
theorem row_bad2N {w : List Nat} {f i j : Nat} (hw : isTwo w f) {p q : Int} {v : D} {S : Sto} (h1 : Sml p) (h2 : Sml q) (g : isNum p q = true) (hv : BN S v) (hn : Nl S v) (hi : S[i]? = some (.lst [nb p q, v])) (hj : S[j]? = some (.lst [.str NUMBER, v])) : RowSp (.tup [.str w, .ref i, .ref j]) (i :: j :: refO v) none S :=
  row_elseN (by decide) hj hn (by simp) (fun y hy => by simp [hy]) fun S' ha by_ => by
    have hv' : BN S' v := hv.agree fun x hx => ha x (by simp [hx])
    refine asked_two_x 19 i _ _ [] by_ S' ((ha i (by simp)).trans hi) w f hw v (two_x 14 hw _ v v S' (fun S2 h3 => ?_) fun fr => by simp [D.freeL] at fr; exact fr.2)
    rcases h3 with rfl | ⟨rfl, fr⟩
    · exact check_two_x2 14 p q v _ h1 h2 g hv'
    · exact check_two_x2 14 p q v _ h1 h2 g (bn_nil hv' (by simp [D.freeL] at fr; exact fr.2))
/-- a copy: its value, what is laid for it -/
theorem copy_ok (n : Nat) (v : D) (S : Sto) (h : BN S v) : (Nl S v ∧ rn (n + 1) f__law_copy [v] S = .ok v S) ∨ ∃ (r : Nat) (l : List D), v = .ref r ∧ S[r]? = some (.lst l) ∧ l.length ≤ 900 ∧ (∀ x ∈ l, Pl 1 x) ∧ rn (n + 1) f__law_copy [v] S = .ok (.ref S.length) (S ++ [.lst l]) := by
  cases h.vl with
  | pl hp =>
    refine .inl ⟨.pl hp, ?_⟩
    rw [isfree (d := d__law_copy) rfl rfl (by simp [D.freeL, hp.free])]
    obtain ⟨kd, k1, k2⟩ := pl_nolist hp []
    simp [d__law_copy, startE, k1, k2]
    exact reloc_free _ _ hp.free
  | @lst r l hr hl a =>
    refine .inr ⟨r, l, rfl, hr, hl, a, ?_⟩
    rw [nonfree (d := d__law_copy) rfl rfl rfl]
    have lo : lstOf S r = some l := by unfold lstOf; rw [hr]
    simp [d__law_copy, startE, kind_lst hr, isK, biD, bOfT, lo, bil]
  | @dct r hr =>
    refine .inl ⟨.dct hr, ?_⟩
    rw [nonfree (d := d__law_copy) rfl rfl rfl]
    simp [d__law_copy, startE, kind_dct hr, isK]
theorem neg1_at {l : List D} {x : D} : atL (l ++ [x]) (-1) = some x := by
  have h : -(((l ++ [x]).length : Nat) : Int) ≤ -1 := by simp; omega
  have h2 : ((-1 : Int) + ((l ++ [x]).length : Int)).toNat = l.length := by simp; omega
  unfold atL ixN
  rw [if_neg (by omega), if_pos h, h2]
  simp
theorem ref_turn {N b R k : Nat} {by_ : Bool} {x4 x5 x6 : Option D} {w : List Nat} {f : Nat} {S : Sto} {rws : List Rw} (hw : isTwo w f) (g : Good N b R S rws) (hz : rws.length ≤ 100) (hb : Bx S b (k + 16)) :
    ∃ (y4 y5 y6 : Option D) (R' : Nat) (S' : Sto) (rws' : List Rw), evSs G.sub (rn 21) refT [some (.ref b), some (.bl by_), some (.ref R), some (.str w), x4, x5, x6] S = .nx [some (.ref b), some (.bl by_), some (.ref R'), some (.str w), y4, y5, y6] S' ∧
      Good N b R' S' rws' ∧ rws'.length = rws.length + 2 ∧ Bx S' b k ∧ S.length ≤ S'.length ∧ Old N b S S' := by
  have bl := hb.lt
  have gl := g.lt
  obtain ⟨v, S1, e1, bn1, g1, b1, r1⟩ := no_number_ok 19 b (k + 13) S hb
  obtain ⟨p, q, S2, e2, n2, p2, q2, g2, b2⟩ := any_number_ok 18 b (k + 5) S1 b1
  obtain ⟨v', S3, e3, bn3, g3, b3, r3⟩ := no_number_ok 19 b (k + 2) S2 b2
  obtain ⟨d, S4, e4, d1, d2, g4, b4⟩ := take_ok 20 b (k + 1) 3 S3 b3 (by decide) (by decide)
  obtain ⟨o, o1, o2⟩ := at_int (l := [nb p q, nb 0 1, v']) d1 (by simp; omega)
  have sp : Sml p := sm_up p2 (by omega)
  have sq : Sml q := sm_up q2 (by omega)
  have rv : ∀ x ∈ refO v, S.length ≤ x ∧ x < S1.length := fun x hx => by
    have : ownO v = some x := by cases v <;> simp [refO] at hx; simp [ownO, hx]
    exact r1 x this
  have l1 := g1.len
  have l2 := g2.len
  have l3 := g3.len
  have l4 := g4.len
  have G14 : Grow b S1 S4 := (g2.trans g3).trans g4
  have G4 : Grow b S S4 := g1.trans G14
  have bn4 : BN S4 v := bn1.agree fun x hx => G14.old x (rv x hx).2 (by have := rv x hx; omega)
  have s0 : evS G.sub (rn 21) uT0 [some (.ref b), some (.bl by_), some (.ref R), some (.str w), x4, x5, x6] S = .nx [some (.ref b), some (.bl by_), some (.ref R), some (.str w), some v, some (nb p q), x6] S2 := by
    simp [e1, e2, setAll, setE]
  have s1 : evS G.sub (rn 21) uT1 [some (.ref b), some (.bl by_), some (.ref R), some (.str w), some v, some (nb p q), x6] S2 = .nx [some (.ref b), some (.bl by_), some (.ref R), some (.str w), some v, some (nb p q), some o] S4 := by
    simp [e3, e4, line, idxL, o1, setE]
  have olow : ∀ p ∈ rws, ∀ o, p.own = some o → o < S.length := fun p hp o e => g.ok.dlt p hp o ((g.sep p hp).2.2 o e).1
  -- the copy
  obtain ⟨u, T, ec, hu⟩ : ∃ (u : D) (T : Sto), rn 21 f__law_copy [v] (S4 ++ [.lst [v, o], .lst [.str NUMBER, v]]) = .ok u (S4 ++ [.lst [v, o], .lst [.str NUMBER, v]] ++ T) ∧ ((T = [] ∧ u = v ∧ Nl S4 v) ∨ ∃ (r : Nat) (l : List D), v = .ref r ∧ T = [.lst l] ∧ u = .ref (S4.length + 2) ∧ S4[r]? = some (.lst l) ∧ l.length ≤ 900 ∧ ∀ x ∈ l, Pl 1 x) := by
    have ag : ∀ x ∈ refO v, (S4 ++ [O.lst [v, o], .lst [.str NUMBER, v]])[x]? = S4[x]? := fun x hx => List.getElem?_append_left (by have := rv x hx; omega)
    rcases copy_ok 20 v (S4 ++ [.lst [v, o], .lst [.str NUMBER, v]]) (bn4.agree ag) with ⟨hn, e⟩ | ⟨r, l, rfl, hr, hl, a, e⟩
    · exact ⟨v, [], by rw [e]; simp, .inl ⟨rfl, rfl, hn.agree fun x hx => (ag x hx).symm⟩⟩
    · exact ⟨.ref (S4.length + 2), [.lst l], by rw [e]; simp, .inr ⟨r, l, rfl, rfl, rfl, (ag r (by simp [refO])).symm.trans hr, hl, a⟩⟩
  obtain ⟨m, hm⟩ : ∃ m, m = S4.length + 2 + T.length := ⟨_, rfl⟩
  have Tl : T.length ≤ 1 := by rcases hu with ⟨rfl, _⟩ | ⟨_, _, _, rfl, _⟩ <;> simp
  obtain ⟨S5, hS5⟩ : ∃ S5, S5 = S4 ++ [.lst [v, o], .lst [.str NUMBER, v]] ++ T ++ [.lst [nb p q, u], .lst [.tup [.str w, .ref S4.length, .ref (S4.length + 1)], .tup [.str w, .ref m, .non]], .lst (rws.map (·.row) ++ [.tup [.str w, .ref S4.length, .ref (S4.length + 1)], .tup [.str w, .ref m, .non]])] := ⟨_, rfl⟩
  obtain ⟨S6, hS6⟩ : ∃ S6, S6 = (S5 ++ [O.lst [.str NUMBER, u]]).set (m + 2) (.lst (rws.map (·.row) ++ [.tup [.str w, .ref S4.length, .ref (S4.length + 1)], .tup [.str w, .ref m, .ref (m + 3)]])) := ⟨_, rfl⟩
  have m5 : S5.length = m + 3 := by rw [hS5, hm]; simp; omega
  have g45 : Grow b S4 S5 := by rw [hS5, List.append_assoc, List.append_assoc]; exact Grow.app S4 _
  have g56 : ∀ x, x < S5.length → x ≠ m + 2 → S6[x]? = S5[x]? := fun x hx hn => by
    rw [hS6, List.getElem?_set_ne (Ne.symm hn)]; exact List.getElem?_append_left hx
  have l6 : S6.length = m + 4 := by rw [hS6]; simp [m5]
  have z1 : S5[S4.length]? = some (.lst [v, o]) := by rw [hS5]; simp
  have z2 : S5[S4.length + 1]? = some (.lst [.str NUMBER, v]) := by rw [hS5]; simp
  have z3 : S5[m]? = some (.lst [nb p q, u]) := by
    rw [hS5, List.getElem?_append_right (by simp [hm]; omega)]
    have : m - (S4 ++ [O.lst [v, o], .lst [.str NUMBER, v]] ++ T).length = 0 := by simp [hm]; omega
    rw [this]; rfl
  have z4 : S5[m + 1]? = some (.lst [.tup [.str w, .ref S4.length, .ref (S4.length + 1)], .tup [.str w, .ref m, .non]]) := by
    rw [hS5, List.getElem?_append_right (by simp [hm]; omega)]
    have : m + 1 - (S4 ++ [O.lst [v, o], .lst [.str NUMBER, v]] ++ T).length = 1 := by simp [hm]; omega
    rw [this]; rfl
  have z5 : S5[m + 2]? = some (.lst (rws.map (·.row) ++ [.tup [.str w, .ref S4.length, .ref (S4.length + 1)], .tup [.str w, .ref m, .non]])) := by
    rw [hS5, List.getElem?_append_right (by simp [hm]; omega)]
    have : m + 2 - (S4 ++ [O.lst [v, o], .lst [.str NUMBER, v]] ++ T).length = 2 := by simp [hm]; omega
    rw [this]; rfl
  have y1 : S6[S4.length]? = some (.lst [v, o]) := (g56 _ (by omega) (by omega)).trans z1
  have y2 : S6[S4.length + 1]? = some (.lst [.str NUMBER, v]) := (g56 _ (by omega) (by omega)).trans z2
  have y3 : S6[m]? = some (.lst [nb p q, u]) := (g56 _ (by omega) (by omega)).trans z3
  have y5 : S6[m + 2]? = some (.lst (rws.map (·.row) ++ [.tup [.str w, .ref S4.length, .ref (S4.length + 1)], .tup [.str w, .ref m, .ref (m + 3)]])) := by rw [hS6]; exact List.getElem?_set_self (by simp [m5])
  have y6 : S6[m + 3]? = some (.lst [.str NUMBER, u]) := by
    rw [hS6, List.getElem?_set_ne (by omega), ← m5]; simp
  have g46 : Grow b S4 S6 := ⟨by omega, fun x hx hn => (g56 x (by omega) (by omega)).trans (g45.old x hx hn)⟩
  have bn6 : BN S6 v := bn4.agree fun x hx => g46.old x (by have := rv x hx; omega) (by have := rv x hx; omega)
  have fin : ∃ rws' : List Rw, Good N b (m + 2) S6 rws' ∧ rws'.length = rws.length + 2 := by
    rcases hu with ⟨rfl, rfl, hn⟩ | ⟨r, l, rfl, rfl, rfl, hr, hl, a⟩
    · have hn6 : Nl S6 u := hn.agree fun x hx => g46.old x (by have := rv x hx; omega) (by have := rv x hx; omega)
      exact ⟨_, Good.two (q1 := ⟨.tup [.str w, .ref S4.length, .ref (S4.length + 1)], S4.length :: (S4.length + 1) :: refO u, none⟩) (q2 := ⟨.tup [.str w, .ref m, .ref (m + 3)], m :: (m + 3) :: refO u, none⟩) g (G4.trans g46) y5 (by omega) (by omega) (row_bad1N hw bn6 hn6 y1 y2) (row_bad2N hw sp sq n2 bn6 hn6 y3 y6)
        (fun x hx => by simp at hx; rcases hx with rfl | rfl | hx; omega; omega; have := rv x hx; omega) (fun x hx => by simp at hx; rcases hx with rfl | rfl | hx; omega; omega; have := rv x hx; omega)
        (fun o e => by cases e) (fun o e => by cases e) (fun p hp o e => by
          have := olow p hp o e
          constructor
          · intro hx; simp at hx; rcases hx with rfl | rfl | hx; omega; omega; have := rv o hx; omega
          · intro hx; simp at hx; rcases hx with rfl | rfl | hx; omega; omega; have := rv o hx; omega) (by omega), by simp⟩
    · have hcp : S6[S4.length + 2]? = some (.lst l) := (g56 _ (by omega) (by simp at hm; omega)).trans (by rw [hS5]; simp)
      have bnc : BN S6 (.ref (S4.length + 2)) := bn_lst hcp hl a
      have hr' := rv r (by simp [refO])
      simp at hm
      exact ⟨_, Good.two (q1 := ⟨.tup [.str w, .ref S4.length, .ref (S4.length + 1)], S4.length :: (S4.length + 1) :: refO (.ref r), ownO (.ref r)⟩) (q2 := ⟨.tup [.str w, .ref m, .ref (m + 3)], m :: (m + 3) :: refO (.ref (S4.length + 2)), ownO (.ref (S4.length + 2))⟩) g (G4.trans g46) y5 (by omega) (by omega) (row_bad1 hw bn6 y1 y2) (row_bad2 hw sp sq n2 bnc y3 y6)
        (fun x hx => by simp [refO] at hx; omega) (fun x hx => by simp [refO] at hx; omega)
        (fun o e => by simp [ownO] at e; subst e; have := g.NR; simp [refO]; omega) (fun o e => by simp [ownO] at e; subst e; have := g.NR; simp [refO]; omega) (fun p hp o e => by
          have := olow p hp o e
          constructor
          · intro hx; simp [refO] at hx; omega
          · intro hx; simp [refO] at hx; omega) (by omega), by simp⟩
  obtain ⟨rws', k6, z6⟩ := fin
  refine ⟨some v, some (nb p q), some o, m + 2, S6, rws', ?_, k6, z6, ?_, by omega, ?_⟩
  · have s2 : evS G.sub (rn 21) uT2 [some (.ref b), some (.bl by_), some (.ref R), some (.str w), some v, some (nb p q), some o] S4 = .nx [some (.ref b), some (.bl by_), some (.ref (m + 2)), some (.str w), some v, some (nb p q), some o] S5 := by
      have y0 : (S4 ++ [O.lst [v, o], .lst [.str NUMBER, v]] ++ T ++ [O.lst [nb p q, u], .lst [.tup [.str w, .ref S4.length, .ref (S4.length + 1)], .tup [.str w, .ref m, .non]]])[R]? = some (.lst (rws.map (·.row))) := by
        rw [List.append_assoc, List.append_assoc]
        exact (G4.trans (Grow.app S4 _)).at_ g.at_ (Ne.symm g.bR)
      have y0' : (S4 ++ [O.lst [v, o], .lst [.str NUMBER, v]] ++ T ++ [O.lst [nb p q, u], .lst [.tup [.str w, .ref S4.length, .ref (S4.length + 1)], .tup [.str w, .ref m, .non]]])[m + 1]? = some (.lst [.tup [.str w, .ref S4.length, .ref (S4.length + 1)], .tup [.str w, .ref m, .non]]) := by
        rw [List.getElem?_append_right (by simp [hm]; omega)]
        have : m + 1 - (S4 ++ [O.lst [v, o], .lst [.str NUMBER, v]] ++ T).length = 1 := by simp [hm]; omega
        rw [this]; rfl
      have yz : binD .add (.ref R) (.ref (m + 1)) (S4 ++ [O.lst [v, o], .lst [.str NUMBER, v]] ++ T ++ [O.lst [nb p q, u], .lst [.tup [.str w, .ref S4.length, .ref (S4.length + 1)], .tup [.str w, .ref m, .non]]]) = .ok (.ref (m + 2)) S5 := by
        unfold binD
        simp only [y0, y0']
        rw [if_pos (by simp [line]; omega), hS5]
        simp [hm]
        omega
      clear z1 z2 z3 z4 z5 y1 y2 y3 y5 y6 g45 g46 k6 z6 m5 l6 g56 hS6 y0 y0' hS5 bn6
      rcases hu with ⟨rfl, _, _⟩ | ⟨r, l, _, rfl, _⟩
      · simp at hm
        subst hm
        simp at ec yz
        simp [line, ec, yz, setE]
      · simp at hm
        subst hm
        simp at ec yz
        simp [line, ec, yz, setE]
    have s3 : evS G.sub (rn 21) uT3 [some (.ref b), some (.bl by_), some (.ref (m + 2)), some (.str w), some v, some (nb p q), some o] S5 = .nx [some (.ref b), some (.bl by_), some (.ref (m + 2)), some (.str w), some v, some (nb p q), some o] S6 := by
      have x1 : idxD (.ref (m + 2)) (.int (-1)) S5 = .ok (.tup [.str w, .ref m, .non]) S5 := idx_ref z5 (by
        have := neg1_at (l := rws.map (·.row) ++ [D.tup [.str w, .ref S4.length, .ref (S4.length + 1)]]) (x := .tup [.str w, .ref m, .non])
        simpa using this)
      have x2 : idxD (.ref m) (.int 1) S5 = .ok u S5 := idx_ref z3 rfl
      have x3 : (S5 ++ [O.lst [.str NUMBER, u]])[m + 2]? = some (.lst (rws.map (·.row) ++ [.tup [.str w, .ref S4.length, .ref (S4.length + 1)], .tup [.str w, .ref m, .non]])) := (List.getElem?_append_left (by omega)).trans z5
      have x4 : ixN (rws.length + 2) (-1) = some (rws.length + 1) := by
        unfold ixN
        rw [if_neg (by omega), if_pos (by omega)]
        congr 1
        omega
      have x5 : (rws.map (·.row) ++ [D.tup [.str w, .ref S4.length, .ref (S4.length + 1)], .tup [.str w, .ref m, .non]]).set (rws.length + 1) (.tup [.str w, .ref m, .ref (m + 3)]) = rws.map (·.row) ++ [D.tup [.str w, .ref S4.length, .ref (S4.length + 1)], .tup [.str w, .ref m, .ref (m + 3)]] := by
        rw [List.set_append_right _ _ (by simp)]
        simp
      obtain ⟨hlt, hz5⟩ := List.getElem?_eq_some_iff.mp z5
      simp [x1, idx1, x2, line, x3, x4, m5, x5, hS6, hz5]
    show evSs G.sub (rn 21) (.cons uT0 (.cons uT1 (.cons uT2 (.cons uT3 .nil)))) _ S = _
    rw [evSs_cons, s0, RS.then_nx, evSs_cons, s1, RS.then_nx, evSs_cons, s2, RS.then_nx, evSs_cons, s3, RS.then_nx, evSs_nil]
  · exact (b4.less (by omega)).keep (g56 b (by omega) (by omega) |>.trans (by rw [hS5, List.append_assoc, List.append_assoc]; exact List.getElem?_append_left (by omega)))
  · have := g.NR
    exact (Old.refl N b S).grow (G4.trans g46) (by omega)
end K00

namespace K00
open Eg
abbrev lS0 : Sm := (.fr (.nm 1) (.rng1 (.bi .max (.cons (.lit (.int 2)) (.cons (.bi .min (.cons (.lit (.int 3)) (.cons (.bi .len (.cons (.var 0) .nil)) .nil))) .nil)))) (.cons (.asg 2 (.call f__law_box (.cons (.call f__law_cell (.cons (.var 0) (.cons (.var 1) .nil))) .nil))) (.cons (.asg 3 (.cmp .eq (.call f__law_take (.cons (.var 2) (.cons (.lit (.int 2)) .nil))) (.lit (.int 0)))) (.cons (.ife (.or (.not (.call f__law_fractions_right (.cons (.var 2) (.cons (.var 3) .nil)))) (.not (.call f__law_sums_right (.cons (.var 2) (.cons (.not (.var 3)) .nil))))) (.cons (.ret (.lit (.bl false))) .nil) .nil) (.cons (.ife (.or (.not (.call f__law_refused_right (.cons (.var 2) (.cons (.var 3) .nil)))) (.not (.call f__law_sums_right (.cons (.var 2) (.cons (.var 3) .nil))))) (.cons (.ret (.lit (.bl false))) .nil) .nil) .nil)))))
abbrev lS1 : Sm := (.ret (.lit (.bl true)))
abbrev lawT : Ss := (.cons (.asg 2 (.call f__law_box (.cons (.call f__law_cell (.cons (.var 0) (.cons (.var 1) .nil))) .nil))) (.cons (.asg 3 (.cmp .eq (.call f__law_take (.cons (.var 2) (.cons (.lit (.int 2)) .nil))) (.lit (.int 0)))) (.cons (.ife (.or (.not (.call f__law_fractions_right (.cons (.var 2) (.cons (.var 3) .nil)))) (.not (.call f__law_sums_right (.cons (.var 2) (.cons (.not (.var 3)) .nil))))) (.cons (.ret (.lit (.bl false))) .nil) .nil) (.cons (.ife (.or (.not (.call f__law_refused_right (.cons (.var 2) (.cons (.var 3) .nil)))) (.not (.call f__law_sums_right (.cons (.var 2) (.cons (.var 3) .nil))))) (.cons (.ret (.lit (.bl false))) .nil) .nil) .nil))))
abbrev lT0 : Sm := (.asg 2 (.call f__law_box (.cons (.call f__law_cell (.cons (.var 0) (.cons (.var 1) .nil))) .nil)))
abbrev lT1 : Sm := (.asg 3 (.cmp .eq (.call f__law_take (.cons (.var 2) (.cons (.lit (.int 2)) .nil))) (.lit (.int 0))))
abbrev lT2 : Sm := (.ife (.or (.not (.call f__law_fractions_right (.cons (.var 2) (.cons (.var 3) .nil)))) (.not (.call f__law_sums_right (.cons (.var 2) (.cons (.not (.var 3)) .nil))))) (.cons (.ret (.lit (.bl false))) .nil) .nil)
abbrev lT3 : Sm := (.ife (.or (.not (.call f__law_refused_right (.cons (.var 2) (.cons (.var 3) .nil)))) (.not (.call f__law_sums_right (.cons (.var 2) (.cons (.var 3) .nil))))) (.cons (.ret (.lit (.bl false))) .nil) .nil)
def wordsL : List D := [.str [97, 100, 100], .str [115, 117, 98, 116, 114, 97, 99, 116], .str [109, 117, 108, 116, 105, 112, 108, 121], .str [100, 105, 118, 105, 100, 101], .str [99, 111, 109, 112, 97, 114, 101]]
theorem words_two {v : D} (h : v ∈ wordsL) : ∃ w f, v = .str w ∧ isTwo w f := by
  simp only [wordsL, List.mem_cons, List.not_mem_nil, or_false] at h
  rcases h with rfl | rfl | rfl | rfl | rfl
  · exact ⟨_, f_add, rfl, .inl ⟨rfl, rfl⟩⟩
  · exact ⟨_, f_subtract, rfl, .inr (.inl ⟨rfl, rfl⟩)⟩
  · exact ⟨_, f_multiply, rfl, .inr (.inr (.inl ⟨rfl, rfl⟩))⟩
  · exact ⟨_, f_divide, rfl, .inr (.inr (.inr (.inl ⟨rfl, rfl⟩)))⟩
  · exact ⟨_, f_compare, rfl, .inr (.inr (.inr (.inr ⟨rfl, rfl⟩)))⟩
theorem ref_loop {N b : Nat} {by_ : Bool} : ∀ (l : List D) (k R : Nat) (S : Sto) (rws : List Rw) (x3 x4 x5 x6 : Option D), (∀ v ∈ l, ∃ w f, v = .str w ∧ isTwo w f) → Good N b R S rws → rws.length + 2 * l.length ≤ 90 → Bx S b (k + 16 * l.length) →
    ∃ (y3 y4 y5 y6 : Option D) (R' : Nat) (S' : Sto) (rws' : List Rw), forB G.sub (rn 21) (.nm 3) refT none l [some (.ref b), some (.bl by_), some (.ref R), x3, x4, x5, x6] S = .nx [some (.ref b), some (.bl by_), some (.ref R'), y3, y4, y5, y6] S' ∧
      Good N b R' S' rws' ∧ Bx S' b k ∧ S.length ≤ S'.length ∧ Old N b S S'
  | [], k, R, S, rws, x3, x4, x5, x6, hw, g, hz, hb => ⟨x3, x4, x5, x6, R, S, rws, rfl, g, by simpa using hb, Nat.le_refl _, Old.refl _ _ _⟩
  | z :: l, k, R, S, rws, x3, x4, x5, x6, hw, g, hz, hb => by
    simp only [List.length_cons] at hz hb
    obtain ⟨w, f, rfl, h2⟩ := hw z (by simp)
    obtain ⟨y4, y5, y6, R1, S1, rws1, e1, g1, z1, b1, l1, o1⟩ := ref_turn (k := k + 16 * l.length) (by_ := by_) (x4 := x4) (x5 := x5) (x6 := x6) h2 g (by omega) (hb.less (by omega))
    obtain ⟨w3, w4, w5, w6, R2, S2, rws2, e2, g2, b2, l2, o2⟩ := ref_loop (by_ := by_) l k R1 S1 rws1 (some (.str w)) y4 y5 y6 (fun v hv => hw v (List.mem_cons_of_mem _ hv)) g1 (by omega) b1
    refine ⟨w3, w4, w5, w6, R2, S2, rws2, ?_, g2, b2, Nat.le_trans l1 l2, fun x hx hn => (o2 x hx hn).trans (o1 x hx hn)⟩
    rw [forB_cons]
    have eb : bindT S (.nm 3) (.str w) [some (.ref b), some (.bl by_), some (.ref R), x3, x4, x5, x6] = some [some (.ref b), some (.bl by_), some (.ref R), some (.str w), x4, x5, x6] := rfl
    rw [eb]
    simp only [e1]
    rw [if_pos (show gOk none S1 = true from rfl)]
    exact e2
theorem refused_ok (b k : Nat) (by_ : Bool) (S : Sto) (hb : Bx S b (k + 100)) : ∃ S', rn 22 f__law_refused_right [.ref b, .bl by_] S = .ok (.bl true) S' ∧ Bx S' b k ∧ Old S.length b S S' ∧ S.length ≤ S'.length := by
  have bl := hb.lt
  have g0 : Good S.length b S.length (S ++ [.lst []]) [] := ⟨by simp, trivial, fun q h => (by cases h), by omega, Nat.le_refl _, by simp⟩
  obtain ⟨y3, y4, y5, y6, R1, S1, rws1, e1, g1, b1, l1, o1⟩ := ref_loop (by_ := by_) wordsL (k + 20) S.length (S ++ [.lst []]) [] none none none none (fun v hv => words_two hv) g0 (by decide) hb.app
  have oS : Old S.length b S S1 := fun x hx hn => by
    have a1 : (S ++ [O.lst []])[x]? = S[x]? := List.getElem?_append_left hx
    exact (o1 x hx hn).trans a1
  obtain ⟨S2, e2, b2, o2, l2⟩ := Good.fin by_ g1 b1 oS bl
  simp at l1
  refine ⟨S2, ?_, b2.less (by omega), o2, by omega⟩
  rw [nonfree (d := d__law_refused_right) rfl rfl rfl]
  have s0 : evS G.sub (rn 21) uS0 [some (.ref b), some (.bl by_), none, none, none, none, none] S = .nx [some (.ref b), some (.bl by_), some (.ref S.length), none, none, none, none] (S ++ [.lst []]) := by
    simp [line, setE]
  have s1 : evS G.sub (rn 21) uS1 [some (.ref b), some (.bl by_), some (.ref S.length), none, none, none, none] (S ++ [.lst []]) = .nx [some (.ref b), some (.bl by_), some (.ref R1), y3, y4, y5, y6] S1 := by
    show evS G.sub (rn 21) (.fr (.nm 3) (.lst (.cons (.lit (.str [97, 100, 100])) (.cons (.lit (.str [115, 117, 98, 116, 114, 97, 99, 116])) (.cons (.lit (.str [109, 117, 108, 116, 105, 112, 108, 121])) (.cons (.lit (.str [100, 105, 118, 105, 100, 101])) (.cons (.lit (.str [99, 111, 109, 112, 97, 114, 101])) .nil)))))) refT) _ _ = _
    have ei : ∀ (ρ : Env) (S : Sto), evI G.sub (rn 21) (.lst (.cons (.lit (.str [97, 100, 100])) (.cons (.lit (.str [115, 117, 98, 116, 114, 97, 99, 116])) (.cons (.lit (.str [109, 117, 108, 116, 105, 112, 108, 121])) (.cons (.lit (.str [100, 105, 118, 105, 100, 101])) (.cons (.lit (.str [99, 111, 109, 112, 97, 114, 101])) .nil)))))) ρ S = .ok (wordsL, none) S := fun ρ S => by
      simp [line, wordsL]
    rw [evS_fr, ei, Eg.R.st_ok]
    exact e1
  have s2 : evS G.sub (rn 21) uS2 [some (.ref b), some (.bl by_), some (.ref R1), y3, y4, y5, y6] S1 = .rt (.bl true) S2 := by
    simp [e2]
  have e : evSs G.sub (rn 21) d__law_refused_right.body (startE d__law_refused_right [.ref b, .bl by_]) S = .rt (.bl true) S2 := by
    show evSs G.sub (rn 21) (.cons uS0 (.cons uS1 (.cons uS2 .nil))) [some (.ref b), some (.bl by_), none, none, none, none, none] S = _
    rw [evSs_cons, s0, RS.then_nx, evSs_cons, s1, RS.then_nx, evSs_cons, s2, RS.then_rt]
  rw [e]
  rfl
/-! ### the law -/
theorem ints_of (ns : List Int) : intsOf (ns.map D.int) = some ns := by
  induction ns with
  | nil => rfl
  | cons z l ih => simp [intsOf, ih]
theorem cell_ok (n : Nat) (ns : List Int) (k : Nat) (S : Sto) (h0 : S[0]? = some (.ro (ns.map .int))) (hk : k < 100) (hl : ns.length ≤ 63) : ∃ (x : Int) (T : Sto), rn (n + 1) f__law_cell [.ref 0, .int k] S = .ok (.int x) (S ++ T) := by
  rw [nonfree (d := d__law_cell) rfl rfl rfl]
  have lo : lstOf S 0 = some (ns.map .int) := by unfold lstOf; rw [h0]
  by_cases c : (k : Int) < (ns.length : Int)
  · have hk2 : k < ns.length := by omega
    have ix : idxD (.ref 0) (.int k) S = .ok (.int ns[k]) S := by
      have hat : atL (ns.map D.int) (k : Int) = some (.int ns[k]) := by simp [atL, ixN, c, hk2]
      simp [idxD, lo, hat]
    exact ⟨ns[k], [], by simp [d__law_cell, startE, biD, bLen, h0, c, ix]⟩
  · have m1 : ∀ S : Sto, binD .mul (.int 6451) (.int k) S = .ok (.int (6451 * k)) S := fun S => mul_ok S (sm_up (show (6451 : Int).natAbs < 2 ^ 40 by decide) (by omega)) (sm_up (show (k : Int).natAbs < 2 ^ 40 by omega) (by omega))
    have cm : cut (ns.map D.int) none (some 1) = (cut ns none (some 1)).map D.int := by simp [cut]
    have m2 : ∀ (z : Int) (S : Sto), binD .mod (.int z) (.int 1000003) S = .ok (.int (z % 1000003)) S := fun z S => mod_ok S (by decide)
    have lo2 : lstOf (S ++ [O.lst ((cut ns none (some 1)).map D.int)]) S.length = some ((cut ns none (some 1)).map D.int) := by unfold lstOf; simp
    exact ⟨6451 * k + (cut ns none (some 1)).sum % 1000003, [.lst ((cut ns none (some 1)).map D.int)], by simp [d__law_cell, startE, biD, bLen, h0, c, m1, slcD, lo, cm, bOf, lo2, bil, ints_of, m2, bInt]⟩
theorem box_ok (n : Nat) (x : Int) (S : Sto) : ∃ o, rn (n + 1) f__law_box [.int x] S = .ok (.ref S.length) (S ++ [o]) ∧ Bx (S ++ [o]) S.length 1000000 := by
  rw [isfree (d := d__law_box) rfl rfl rfl]
  have p18 := pow10 18 [] (by decide)
  have m2 : binD .mod (.int x.natAbs) (.int 2147483629) [] = .ok (.int (x.natAbs % 2147483629)) [] := mod_ok [] (by decide)
  simp at p18
  refine ⟨bxO x.natAbs (!decide ((x.natAbs : Int) < 1000000000000000000)) (x.natAbs % 2147483629) 0, ?_, ⟨_, _, _, _, by simp; rfl, by omega, Int.emod_nonneg _ (by decide), Int.emod_lt_of_pos _ (by decide), by decide, by decide⟩⟩
  simp [d__law_box, startE, bAbs_eq, p18, m2, line, reloc, D.free, D.shift, O.shift, D.shiftL, bxO]
theorem law_turn (ns : List Int) (k : Nat) (S : Sto) (x2 x3 : Option D) (h0 : S[0]? = some (.ro (ns.map .int))) (hk : k < 100) (hl : ns.length ≤ 63) : ∃ (y2 y3 : Option D) (S' : Sto), evSs G.sub (rn 22) lawT [some (.ref 0), some (.int k), x2, x3] S = .nx [some (.ref 0), some (.int k), y2, y3] S' ∧ S'[0]? = some (.ro (ns.map .int)) := by
  have sl := (List.getElem?_eq_some_iff.mp h0).1
  obtain ⟨x, T, e1⟩ := cell_ok 21 ns k S h0 hk hl
  obtain ⟨o, e2, b2⟩ := box_ok 21 x (S ++ T)
  obtain ⟨b, hb⟩ : ∃ b, b = (S ++ T).length := ⟨_, rfl⟩
  rw [← hb] at e2 b2
  obtain ⟨d, S3, e3, d1, d2, g3, b3⟩ := take_ok 21 b 999999 2 _ b2 (by decide) (by decide)
  obtain ⟨bb, hbb⟩ : ∃ bb : Bool, bb = decide (d = 0) := ⟨_, rfl⟩
  obtain ⟨S4, e4, b4, o4, l4⟩ := fractions_ok b 900000 bb S3 (b3.less (by omega))
  obtain ⟨S5, e5, b5, o5, l5⟩ := sums_ok b 800000 (!bb) S4 (b4.less (by omega))
  obtain ⟨S6, e6, b6, o6, l6⟩ := refused_ok b 700000 bb S5 (b5.less (by omega))
  obtain ⟨S7, e7, b7, o7, l7⟩ := sums_ok b 600000 bb S6 (b6.less (by omega))
  have b0 : b ≠ 0 := by
    have : (S ++ T).length = S.length + T.length := List.length_append
    omega
  have l3 := g3.len
  simp at l3
  have z2 : (S ++ T ++ [o])[0]? = some (.ro (ns.map .int)) := by
    rw [List.append_assoc]; exact (List.getElem?_append_left sl).trans h0
  have z3 := g3.at_ z2 (by omega)
  have q3 : 0 < S3.length := (List.getElem?_eq_some_iff.mp z3).1
  have z4 := (o4 0 q3 (by omega)).trans z3
  have z5 := (o5 0 (by omega) (by omega)).trans z4
  have z6 := (o6 0 (by omega) (by omega)).trans z5
  have z7 := (o7 0 (by omega) (by omega)).trans z6
  refine ⟨some (.ref b), some (.bl bb), S7, ?_, z7⟩
  show evSs G.sub (rn 22) (.cons lT0 (.cons lT1 (.cons lT2 (.cons lT3 .nil)))) _ S = _
  have s0 : evS G.sub (rn 22) lT0 [some (.ref 0), some (.int k), x2, x3] S = .nx [some (.ref 0), some (.int k), some (.ref b), x3] (S ++ T ++ [o]) := by
    simp only [evS_asg, evE_call, evEs_cons, evEs_nil, evE_var, List.getElem?_cons_zero, List.getElem?_cons_succ, Eg.R.bind_ok, e1, e2, Eg.R.st_ok]
    rfl
  have s1 : evS G.sub (rn 22) lT1 [some (.ref 0), some (.int k), some (.ref b), x3] (S ++ T ++ [o]) = .nx [some (.ref 0), some (.int k), some (.ref b), some (.bl bb)] S3 := by
    simp only [evS_asg, evE_cmp, evE_lit, evE_call, evEs_cons, evEs_nil, evE_var, List.getElem?_cons_zero, List.getElem?_cons_succ, Eg.R.bind_ok, e3, cmp_eq, ofB_some, Eg.R.st_ok, hbb]
    rfl
  have s2 : evS G.sub (rn 22) lT2 [some (.ref 0), some (.int k), some (.ref b), some (.bl bb)] S3 = .nx [some (.ref 0), some (.int k), some (.ref b), some (.bl bb)] S5 := by
    simp [e4, e5]
  have s3 : evS G.sub (rn 22) lT3 [some (.ref 0), some (.int k), some (.ref b), some (.bl bb)] S5 = .nx [some (.ref 0), some (.int k), some (.ref b), some (.bl bb)] S7 := by
    simp [e6, e7]
  rw [evSs_cons, s0, RS.then_nx, evSs_cons, s1, RS.then_nx, evSs_cons, s2, RS.then_nx, evSs_cons, s3, RS.then_nx, evSs_nil]
theorem law_loop (ns : List Int) (hl : ns.length ≤ 63) : ∀ (l : List D) (S : Sto) (x1 x2 x3 : Option D), (∀ v ∈ l, ∃ k : Nat, v = .int k ∧ k < 100) → S[0]? = some (.ro (ns.map .int)) → ∃ (ρ : Env) (S' : Sto), forB G.sub (rn 22) (.nm 1) lawT none l [some (.ref 0), x1, x2, x3] S = .nx ρ S'
  | [], S, x1, x2, x3, _, _ => ⟨_, S, rfl⟩
  | z :: l, S, x1, x2, x3, hv, h0 => by
    obtain ⟨k, rfl, hk⟩ := hv z (by simp)
    obtain ⟨y2, y3, S1, e1, h1⟩ := law_turn ns k S x2 x3 h0 hk hl
    obtain ⟨ρ, S2, e2⟩ := law_loop ns hl l S1 (some (.int k)) y2 y3 (fun v h => hv v (List.mem_cons_of_mem _ h)) h1
    refine ⟨ρ, S2, ?_⟩
    rw [forB_cons]
    have eb : bindT S (.nm 1) (.int k) [some (.ref 0), x1, x2, x3] = some [some (.ref 0), some (.int k), x2, x3] := rfl
    rw [eb]
    simp only [e1]
    rw [if_pos (show gOk none S1 = true from rfl)]
    exact e2
theorem law : ∀ ns : List Int, ns.length ≤ 63 → ∃ S, Eg.run G.sub G.T 23 f_law [.ref 0] [.ro (ns.map .int)] = .ok (.bl true) S := by
  intro ns hl
  obtain ⟨M, hM, M1⟩ : ∃ M : Nat, evE G.sub (rn 22) (.bi .max (.cons (.lit (.int 2)) (.cons (.bi .min (.cons (.lit (.int 3)) (.cons (.bi .len (.cons (.var 0) .nil)) .nil))) .nil))) [some (.ref 0), none, none, none] [.ro (ns.map .int)] = .ok (.int M) [.ro (ns.map .int)] ∧ M ≤ 3 := by
    have hlen : biD .len [.ref 0] [O.ro (ns.map .int)] = .ok (.int ns.length) [O.ro (ns.map .int)] := by simp [biD, bLen]
    by_cases c : ns.length < 3
    · have c' : ((ns.length : Nat) : Int) < 3 := by omega
      by_cases c2 : 2 < ns.length
      · omega
      · have c2' : ¬ ((2 : Int) < (ns.length : Int)) := by omega
        exact ⟨2, by simp [hlen]; simp [biD, bMin, bMax, c', c2'], by omega⟩
    · have c' : ¬ ((ns.length : Nat) : Int) < 3 := by omega
      exact ⟨3, by simp [hlen]; simp [biD, bMin, bMax, c'], by omega⟩
  obtain ⟨ρ, S, e⟩ := law_loop ns hl (rngL 0 M) [.ro (ns.map .int)] none none none (fun v hv => by
    obtain ⟨j, hj, rfl⟩ := rng_mem hv
    exact ⟨j, rfl, by omega⟩) rfl
  refine ⟨S, ?_⟩
  show rn 23 f_law [.ref 0] [.ro (ns.map .int)] = _
  rw [nonfree (d := d_law) rfl rfl rfl]
  have s0 : evS G.sub (rn 22) lS0 [some (.ref 0), none, none, none] [.ro (ns.map .int)] = .nx ρ S := by
    show evS G.sub (rn 22) (.fr (.nm 1) (.rng1 (.bi .max (.cons (.lit (.int 2)) (.cons (.bi .min (.cons (.lit (.int 3)) (.cons (.bi .len (.cons (.var 0) .nil)) .nil))) .nil)))) lawT) _ _ = _
    rw [evS_fr, evI_rng1, hM]
    simp only [Eg.R.bind_ok, rngD_small (show M ≤ 1000 by omega), Eg.R.of_some, Eg.R.st_ok]
    exact e
  have e2 : evSs G.sub (rn 22) d_law.body (startE d_law [.ref 0]) [.ro (ns.map .int)] = .rt (.bl true) S := by
    show evSs G.sub (rn 22) (.cons lS0 (.cons (.ret (.lit (.bl true))) .nil)) [some (.ref 0), none, none, none] _ = _
    rw [evSs_cons, s0, RS.then_nx]
    simp
  rw [e2]
  rfl
end K00

theorem K00.fin {P : PySem.Program} {w : PySem.World} {K : PySem.W.Frag} {mg : PySem.Str → Option PySem.Value} {fa : PySem.Addr} {h : PySem.Heap} (law : ∀ ns : List Int, ns.length ≤ 63 → ∃ S, Eg.run K00.G.sub K00.G.T 23 K00.f_law [.ref 0] [.ro (ns.map .int)] = .ok (.bl true) S)
    (KX : K.In h) (NX : h.Ns PySem.mainGlobals mg) (hmg : mg "law" = some (.ref fa)) (R : Eg.Read K00.G K (K00.G.cls.map fun c => Eg.adr K (Eg.cs c)))
    (b0 : Eg.defB K K00.d_is_integer = true) (l0 : K.lookup (Eg.adr K (Eg.cs K00.d_is_integer.name)) = Eg.fnShape (Eg.cs K00.d_is_integer.name) (Eg.cs K00.d_is_integer.name) (K00.top 8) (K.lookup (Eg.adr K (Eg.cs K00.d_is_integer.name))))
    (b1 : Eg.defB K K00.d_is_tuple = true) (l1 : K.lookup (Eg.adr K (Eg.cs K00.d_is_tuple.name)) = Eg.fnShape (Eg.cs K00.d_is_tuple.name) (Eg.cs K00.d_is_tuple.name) (K00.top 9) (K.lookup (Eg.adr K (Eg.cs K00.d_is_tuple.name))))
    (b2 : Eg.defB K K00.d_divisor = true) (l2 : K.lookup (Eg.adr K (Eg.cs K00.d_divisor.name)) = Eg.fnShape (Eg.cs K00.d_divisor.name) (Eg.cs K00.d_divisor.name) (K00.top 10) (K.lookup (Eg.adr K (Eg.cs K00.d_divisor.name))))
    (b3 : Eg.defB K K00.d_lowest = true) (l3 : K.lookup (Eg.adr K (Eg.cs K00.d_lowest.name)) = Eg.fnShape (Eg.cs K00.d_lowest.name) (Eg.cs K00.d_lowest.name) (K00.top 12) (K.lookup (Eg.adr K (Eg.cs K00.d_lowest.name))))
    (b4 : Eg.defB K K00.d_fraction = true) (l4 : K.lookup (Eg.adr K (Eg.cs K00.d_fraction.name)) = Eg.fnShape (Eg.cs K00.d_fraction.name) (Eg.cs K00.d_fraction.name) (K00.top 13) (K.lookup (Eg.adr K (Eg.cs K00.d_fraction.name))))
    (b5 : Eg.defB K K00.d_is_number = true) (l5 : K.lookup (Eg.adr K (Eg.cs K00.d_is_number.name)) = Eg.fnShape (Eg.cs K00.d_is_number.name) (Eg.cs K00.d_is_number.name) (K00.top 14) (K.lookup (Eg.adr K (Eg.cs K00.d_is_number.name))))
    (b6 : Eg.defB K K00.d_check_number = true) (l6 : K.lookup (Eg.adr K (Eg.cs K00.d_check_number.name)) = Eg.fnShape (Eg.cs K00.d_check_number.name) (Eg.cs K00.d_check_number.name) (K00.top 15) (K.lookup (Eg.adr K (Eg.cs K00.d_check_number.name))))
    (b7 : Eg.defB K K00.d_check_two = true) (l7 : K.lookup (Eg.adr K (Eg.cs K00.d_check_two.name)) = Eg.fnShape (Eg.cs K00.d_check_two.name) (Eg.cs K00.d_check_two.name) (K00.top 16) (K.lookup (Eg.adr K (Eg.cs K00.d_check_two.name))))
    (b8 : Eg.defB K K00.d_sum_of = true) (l8 : K.lookup (Eg.adr K (Eg.cs K00.d_sum_of.name)) = Eg.fnShape (Eg.cs K00.d_sum_of.name) (Eg.cs K00.d_sum_of.name) (K00.top 17) (K.lookup (Eg.adr K (Eg.cs K00.d_sum_of.name))))
    (b9 : Eg.defB K K00.d_less_of = true) (l9 : K.lookup (Eg.adr K (Eg.cs K00.d_less_of.name)) = Eg.fnShape (Eg.cs K00.d_less_of.name) (Eg.cs K00.d_less_of.name) (K00.top 18) (K.lookup (Eg.adr K (Eg.cs K00.d_less_of.name))))
    (b10 : Eg.defB K K00.d_product_of = true) (l10 : K.lookup (Eg.adr K (Eg.cs K00.d_product_of.name)) = Eg.fnShape (Eg.cs K00.d_product_of.name) (Eg.cs K00.d_product_of.name) (K00.top 19) (K.lookup (Eg.adr K (Eg.cs K00.d_product_of.name))))
    (b11 : Eg.defB K K00.d_share_of = true) (l11 : K.lookup (Eg.adr K (Eg.cs K00.d_share_of.name)) = Eg.fnShape (Eg.cs K00.d_share_of.name) (Eg.cs K00.d_share_of.name) (K00.top 20) (K.lookup (Eg.adr K (Eg.cs K00.d_share_of.name))))
    (b12 : Eg.defB K K00.d_sign_between = true) (l12 : K.lookup (Eg.adr K (Eg.cs K00.d_sign_between.name)) = Eg.fnShape (Eg.cs K00.d_sign_between.name) (Eg.cs K00.d_sign_between.name) (K00.top 21) (K.lookup (Eg.adr K (Eg.cs K00.d_sign_between.name))))
    (b13 : Eg.defB K K00.d_add = true) (l13 : K.lookup (Eg.adr K (Eg.cs K00.d_add.name)) = Eg.fnShape (Eg.cs K00.d_add.name) (Eg.cs K00.d_add.name) (K00.top 22) (K.lookup (Eg.adr K (Eg.cs K00.d_add.name))))
    (b14 : Eg.defB K K00.d_subtract = true) (l14 : K.lookup (Eg.adr K (Eg.cs K00.d_subtract.name)) = Eg.fnShape (Eg.cs K00.d_subtract.name) (Eg.cs K00.d_subtract.name) (K00.top 23) (K.lookup (Eg.adr K (Eg.cs K00.d_subtract.name))))
    (b15 : Eg.defB K K00.d_multiply = true) (l15 : K.lookup (Eg.adr K (Eg.cs K00.d_multiply.name)) = Eg.fnShape (Eg.cs K00.d_multiply.name) (Eg.cs K00.d_multiply.name) (K00.top 24) (K.lookup (Eg.adr K (Eg.cs K00.d_multiply.name))))
    (b16 : Eg.defB K K00.d_divide = true) (l16 : K.lookup (Eg.adr K (Eg.cs K00.d_divide.name)) = Eg.fnShape (Eg.cs K00.d_divide.name) (Eg.cs K00.d_divide.name) (K00.top 25) (K.lookup (Eg.adr K (Eg.cs K00.d_divide.name))))
    (b17 : Eg.defB K K00.d_compare = true) (l17 : K.lookup (Eg.adr K (Eg.cs K00.d_compare.name)) = Eg.fnShape (Eg.cs K00.d_compare.name) (Eg.cs K00.d_compare.name) (K00.top 26) (K.lookup (Eg.adr K (Eg.cs K00.d_compare.name))))
    (b18 : Eg.defB K K00.d__law_cell = true) (l18 : K.lookup (Eg.adr K (Eg.cs K00.d__law_cell.name)) = Eg.fnShape (Eg.cs K00.d__law_cell.name) (Eg.cs K00.d__law_cell.name) (K00.top 28) (K.lookup (Eg.adr K (Eg.cs K00.d__law_cell.name))))
    (b19 : Eg.defB K K00.d__law_box = true) (l19 : K.lookup (Eg.adr K (Eg.cs K00.d__law_box.name)) = Eg.fnShape (Eg.cs K00.d__law_box.name) (Eg.cs K00.d__law_box.name) (K00.top 29) (K.lookup (Eg.adr K (Eg.cs K00.d__law_box.name))))
    (b20 : Eg.defB K K00.d__law_take = true) (l20 : K.lookup (Eg.adr K (Eg.cs K00.d__law_take.name)) = Eg.fnShape (Eg.cs K00.d__law_take.name) (Eg.cs K00.d__law_take.name) (K00.top 30) (K.lookup (Eg.adr K (Eg.cs K00.d__law_take.name))))
    (b21 : Eg.defB K K00.d__law_low = true) (l21 : K.lookup (Eg.adr K (Eg.cs K00.d__law_low.name)) = Eg.fnShape (Eg.cs K00.d__law_low.name) (Eg.cs K00.d__law_low.name) (K00.top 31) (K.lookup (Eg.adr K (Eg.cs K00.d__law_low.name))))
    (b22 : Eg.defB K K00.d__law_plus = true) (l22 : K.lookup (Eg.adr K (Eg.cs K00.d__law_plus.name)) = Eg.fnShape (Eg.cs K00.d__law_plus.name) (Eg.cs K00.d__law_plus.name) (K00.top 32) (K.lookup (Eg.adr K (Eg.cs K00.d__law_plus.name))))
    (b23 : Eg.defB K K00.d__law_times = true) (l23 : K.lookup (Eg.adr K (Eg.cs K00.d__law_times.name)) = Eg.fnShape (Eg.cs K00.d__law_times.name) (Eg.cs K00.d__law_times.name) (K00.top 33) (K.lookup (Eg.adr K (Eg.cs K00.d__law_times.name))))
    (b24 : Eg.defB K K00.d__law_minus = true) (l24 : K.lookup (Eg.adr K (Eg.cs K00.d__law_minus.name)) = Eg.fnShape (Eg.cs K00.d__law_minus.name) (Eg.cs K00.d__law_minus.name) (K00.top 34) (K.lookup (Eg.adr K (Eg.cs K00.d__law_minus.name))))
    (b25 : Eg.defB K K00.d__law_number = true) (l25 : K.lookup (Eg.adr K (Eg.cs K00.d__law_number.name)) = Eg.fnShape (Eg.cs K00.d__law_number.name) (Eg.cs K00.d__law_number.name) (K00.top 35) (K.lookup (Eg.adr K (Eg.cs K00.d__law_number.name))))
    (b26 : Eg.defB K K00.d__law_same = true) (l26 : K.lookup (Eg.adr K (Eg.cs K00.d__law_same.name)) = Eg.fnShape (Eg.cs K00.d__law_same.name) (Eg.cs K00.d__law_same.name) (K00.top 36) (K.lookup (Eg.adr K (Eg.cs K00.d__law_same.name))))
    (b27 : Eg.defB K K00.d__law_copy = true) (l27 : K.lookup (Eg.adr K (Eg.cs K00.d__law_copy.name)) = Eg.fnShape (Eg.cs K00.d__law_copy.name) (Eg.cs K00.d__law_copy.name) (K00.top 37) (K.lookup (Eg.adr K (Eg.cs K00.d__law_copy.name))))
    (b28 : Eg.defB K K00.d__law_blamed = true) (l28 : K.lookup (Eg.adr K (Eg.cs K00.d__law_blamed.name)) = Eg.fnShape (Eg.cs K00.d__law_blamed.name) (Eg.cs K00.d__law_blamed.name) (K00.top 38) (K.lookup (Eg.adr K (Eg.cs K00.d__law_blamed.name))))
    (b29 : Eg.defB K K00.d__law_met = true) (l29 : K.lookup (Eg.adr K (Eg.cs K00.d__law_met.name)) = Eg.fnShape (Eg.cs K00.d__law_met.name) (Eg.cs K00.d__law_met.name) (K00.top 39) (K.lookup (Eg.adr K (Eg.cs K00.d__law_met.name))))
    (b30 : Eg.defB K K00.d__law_integer = true) (l30 : K.lookup (Eg.adr K (Eg.cs K00.d__law_integer.name)) = Eg.fnShape (Eg.cs K00.d__law_integer.name) (Eg.cs K00.d__law_integer.name) (K00.top 40) (K.lookup (Eg.adr K (Eg.cs K00.d__law_integer.name))))
    (b31 : Eg.defB K K00.d__law_any_number = true) (l31 : K.lookup (Eg.adr K (Eg.cs K00.d__law_any_number.name)) = Eg.fnShape (Eg.cs K00.d__law_any_number.name) (Eg.cs K00.d__law_any_number.name) (K00.top 41) (K.lookup (Eg.adr K (Eg.cs K00.d__law_any_number.name))))
    (b32 : Eg.defB K K00.d__law_no_number = true) (l32 : K.lookup (Eg.adr K (Eg.cs K00.d__law_no_number.name)) = Eg.fnShape (Eg.cs K00.d__law_no_number.name) (Eg.cs K00.d__law_no_number.name) (K00.top 42) (K.lookup (Eg.adr K (Eg.cs K00.d__law_no_number.name))))
    (b33 : Eg.defB K K00.d__law_asked = true) (l33 : K.lookup (Eg.adr K (Eg.cs K00.d__law_asked.name)) = Eg.fnShape (Eg.cs K00.d__law_asked.name) (Eg.cs K00.d__law_asked.name) (K00.top 43) (K.lookup (Eg.adr K (Eg.cs K00.d__law_asked.name))))
    (b34 : Eg.defB K K00.d__law_rows_right = true) (l34 : K.lookup (Eg.adr K (Eg.cs K00.d__law_rows_right.name)) = Eg.fnShape (Eg.cs K00.d__law_rows_right.name) (Eg.cs K00.d__law_rows_right.name) (K00.top 44) (K.lookup (Eg.adr K (Eg.cs K00.d__law_rows_right.name))))
    (b35 : Eg.defB K K00.d__law_fractions_right = true) (l35 : K.lookup (Eg.adr K (Eg.cs K00.d__law_fractions_right.name)) = Eg.fnShape (Eg.cs K00.d__law_fractions_right.name) (Eg.cs K00.d__law_fractions_right.name) (K00.top 45) (K.lookup (Eg.adr K (Eg.cs K00.d__law_fractions_right.name))))
    (b36 : Eg.defB K K00.d__law_sums_right = true) (l36 : K.lookup (Eg.adr K (Eg.cs K00.d__law_sums_right.name)) = Eg.fnShape (Eg.cs K00.d__law_sums_right.name) (Eg.cs K00.d__law_sums_right.name) (K00.top 46) (K.lookup (Eg.adr K (Eg.cs K00.d__law_sums_right.name))))
    (b37 : Eg.defB K K00.d__law_refused_right = true) (l37 : K.lookup (Eg.adr K (Eg.cs K00.d__law_refused_right.name)) = Eg.fnShape (Eg.cs K00.d__law_refused_right.name) (Eg.cs K00.d__law_refused_right.name) (K00.top 47) (K.lookup (Eg.adr K (Eg.cs K00.d__law_refused_right.name))))
    (b38 : Eg.defB K K00.d_law = true) (l38 : K.lookup (Eg.adr K (Eg.cs K00.d_law.name)) = Eg.fnShape (Eg.cs K00.d_law.name) (Eg.cs K00.d_law.name) (K00.top 48) (K.lookup (Eg.adr K (Eg.cs K00.d_law.name))))
    (bB : Eg.baseB K (Eg.adr K "LookError") = true) (bA : Eg.adrB K "LookError" = true)
    (x0 : Eg.exB K ((K00.G.cls.map fun c => Eg.adr K (Eg.cs c)).getD K00.c_InvalidBase 0) [[103, 105, 118, 101, 110]] "InvalidBase.__init__" = true) (y0 : K.lookup ((K00.G.cls.map fun c => Eg.adr K (Eg.cs c)).getD K00.c_InvalidBase 0) = Eg.exShape ((K00.G.cls.map fun c => Eg.adr K (Eg.cs c)).getD K00.c_InvalidBase 0) (K.lookup ((K00.G.cls.map fun c => Eg.adr K (Eg.cs c)).getD K00.c_InvalidBase 0))) (z0 : K.lookup (Eg.iniAt K ((K00.G.cls.map fun c => Eg.adr K (Eg.cs c)).getD K00.c_InvalidBase 0)) = Eg.fnShape "__init__" "InvalidBase.__init__" (L2.inClass (K00.top 2) 0) (K.lookup (Eg.iniAt K ((K00.G.cls.map fun c => Eg.adr K (Eg.cs c)).getD K00.c_InvalidBase 0))))
    (x1 : Eg.exB K ((K00.G.cls.map fun c => Eg.adr K (Eg.cs c)).getD K00.c_InvalidNumber 0) [[103, 105, 118, 101, 110]] "InvalidNumber.__init__" = true) (y1 : K.lookup ((K00.G.cls.map fun c => Eg.adr K (Eg.cs c)).getD K00.c_InvalidNumber 0) = Eg.exShape ((K00.G.cls.map fun c => Eg.adr K (Eg.cs c)).getD K00.c_InvalidNumber 0) (K.lookup ((K00.G.cls.map fun c => Eg.adr K (Eg.cs c)).getD K00.c_InvalidNumber 0))) (z1 : K.lookup (Eg.iniAt K ((K00.G.cls.map fun c => Eg.adr K (Eg.cs c)).getD K00.c_InvalidNumber 0)) = Eg.fnShape "__init__" "InvalidNumber.__init__" (L2.inClass (K00.top 3) 0) (K.lookup (Eg.iniAt K ((K00.G.cls.map fun c => Eg.adr K (Eg.cs c)).getD K00.c_InvalidNumber 0))))
    (x2 : Eg.exB K ((K00.G.cls.map fun c => Eg.adr K (Eg.cs c)).getD K00.c_InvalidTop 0) [[103, 105, 118, 101, 110]] "InvalidTop.__init__" = true) (y2 : K.lookup ((K00.G.cls.map fun c => Eg.adr K (Eg.cs c)).getD K00.c_InvalidTop 0) = Eg.exShape ((K00.G.cls.map fun c => Eg.adr K (Eg.cs c)).getD K00.c_InvalidTop 0) (K.lookup ((K00.G.cls.map fun c => Eg.adr K (Eg.cs c)).getD K00.c_InvalidTop 0))) (z2 : K.lookup (Eg.iniAt K ((K00.G.cls.map fun c => Eg.adr K (Eg.cs c)).getD K00.c_InvalidTop 0)) = Eg.fnShape "__init__" "InvalidTop.__init__" (L2.inClass (K00.top 4) 0) (K.lookup (Eg.iniAt K ((K00.G.cls.map fun c => Eg.adr K (Eg.cs c)).getD K00.c_InvalidTop 0))))
    (x3 : Eg.exB K ((K00.G.cls.map fun c => Eg.adr K (Eg.cs c)).getD K00.c_ZeroNumber 0) [] "ZeroNumber.__init__" = true) (y3 : K.lookup ((K00.G.cls.map fun c => Eg.adr K (Eg.cs c)).getD K00.c_ZeroNumber 0) = Eg.exShape ((K00.G.cls.map fun c => Eg.adr K (Eg.cs c)).getD K00.c_ZeroNumber 0) (K.lookup ((K00.G.cls.map fun c => Eg.adr K (Eg.cs c)).getD K00.c_ZeroNumber 0))) (z3 : K.lookup (Eg.iniAt K ((K00.G.cls.map fun c => Eg.adr K (Eg.cs c)).getD K00.c_ZeroNumber 0)) = Eg.fnShape "__init__" "ZeroNumber.__init__" (L2.inClass (K00.top 6) 0) (K.lookup (Eg.iniAt K ((K00.G.cls.map fun c => Eg.adr K (Eg.cs c)).getD K00.c_ZeroNumber 0))))
    : ∃ fd : PySem.FuncData, (∀ (s : PySem.Shared) (u : PySem.Value), PySem.BindsTo s fd ⟨[u], []⟩ [(("script" : PySem.Str), u)]) ∧ ∀ base : PySem.Heap, K.In base → base.Ns PySem.mainGlobals mg → L2.FnOk P w K mg base (L2.CX P w) (23 + 3) fa fd [("script" : PySem.Str)] (Eg.spLaw K) := by
  have F := Eg.baseF_of bB
  have hm : mg "LookError" = some (.ref (Eg.adr K "LookError")) := PySem.W.mg_of KX NX (Eg.adr_ok bA).1
  exact Eg.law_ok (d := K00.d_law) (i := K00.f_law) KX NX hmg R (.cons (Eg.def_of KX NX K00.ok_is_integer K00.bi_is_integer K00.kw_is_integer b0 l0) (.cons (Eg.def_of KX NX K00.ok_is_tuple K00.bi_is_tuple K00.kw_is_tuple b1 l1) (.cons (Eg.def_of KX NX K00.ok_divisor K00.bi_divisor K00.kw_divisor b2 l2) (.cons (Eg.def_of KX NX K00.ok_lowest K00.bi_lowest K00.kw_lowest b3 l3) (.cons (Eg.def_of KX NX K00.ok_fraction K00.bi_fraction K00.kw_fraction b4 l4) (.cons (Eg.def_of KX NX K00.ok_is_number K00.bi_is_number K00.kw_is_number b5 l5) (.cons (Eg.def_of KX NX K00.ok_check_number K00.bi_check_number K00.kw_check_number b6 l6) (.cons (Eg.def_of KX NX K00.ok_check_two K00.bi_check_two K00.kw_check_two b7 l7) (.cons (Eg.def_of KX NX K00.ok_sum_of K00.bi_sum_of K00.kw_sum_of b8 l8) (.cons (Eg.def_of KX NX K00.ok_less_of K00.bi_less_of K00.kw_less_of b9 l9) (.cons (Eg.def_of KX NX K00.ok_product_of K00.bi_product_of K00.kw_product_of b10 l10) (.cons (Eg.def_of KX NX K00.ok_share_of K00.bi_share_of K00.kw_share_of b11 l11) (.cons (Eg.def_of KX NX K00.ok_sign_between K00.bi_sign_between K00.kw_sign_between b12 l12) (.cons (Eg.def_of KX NX K00.ok_add K00.bi_add K00.kw_add b13 l13) (.cons (Eg.def_of KX NX K00.ok_subtract K00.bi_subtract K00.kw_subtract b14 l14) (.cons (Eg.def_of KX NX K00.ok_multiply K00.bi_multiply K00.kw_multiply b15 l15) (.cons (Eg.def_of KX NX K00.ok_divide K00.bi_divide K00.kw_divide b16 l16) (.cons (Eg.def_of KX NX K00.ok_compare K00.bi_compare K00.kw_compare b17 l17) (.cons (Eg.def_of KX NX K00.ok__law_cell K00.bi__law_cell K00.kw__law_cell b18 l18) (.cons (Eg.def_of KX NX K00.ok__law_box K00.bi__law_box K00.kw__law_box b19 l19) (.cons (Eg.def_of KX NX K00.ok__law_take K00.bi__law_take K00.kw__law_take b20 l20) (.cons (Eg.def_of KX NX K00.ok__law_low K00.bi__law_low K00.kw__law_low b21 l21) (.cons (Eg.def_of KX NX K00.ok__law_plus K00.bi__law_plus K00.kw__law_plus b22 l22) (.cons (Eg.def_of KX NX K00.ok__law_times K00.bi__law_times K00.kw__law_times b23 l23) (.cons (Eg.def_of KX NX K00.ok__law_minus K00.bi__law_minus K00.kw__law_minus b24 l24) (.cons (Eg.def_of KX NX K00.ok__law_number K00.bi__law_number K00.kw__law_number b25 l25) (.cons (Eg.def_of KX NX K00.ok__law_same K00.bi__law_same K00.kw__law_same b26 l26) (.cons (Eg.def_of KX NX K00.ok__law_copy K00.bi__law_copy K00.kw__law_copy b27 l27) (.cons (Eg.def_of KX NX K00.ok__law_blamed K00.bi__law_blamed K00.kw__law_blamed b28 l28) (.cons (Eg.def_of KX NX K00.ok__law_met K00.bi__law_met K00.kw__law_met b29 l29) (.cons (Eg.def_of KX NX K00.ok__law_integer K00.bi__law_integer K00.kw__law_integer b30 l30) (.cons (Eg.def_of KX NX K00.ok__law_any_number K00.bi__law_any_number K00.kw__law_any_number b31 l31) (.cons (Eg.def_of KX NX K00.ok__law_no_number K00.bi__law_no_number K00.kw__law_no_number b32 l32) (.cons (Eg.def_of KX NX K00.ok__law_asked K00.bi__law_asked K00.kw__law_asked b33 l33) (.cons (Eg.def_of KX NX K00.ok__law_rows_right K00.bi__law_rows_right K00.kw__law_rows_right b34 l34) (.cons (Eg.def_of KX NX K00.ok__law_fractions_right K00.bi__law_fractions_right K00.kw__law_fractions_right b35 l35) (.cons (Eg.def_of KX NX K00.ok__law_sums_right K00.bi__law_sums_right K00.kw__law_sums_right b36 l36) (.cons (Eg.def_of KX NX K00.ok__law_refused_right K00.bi__law_refused_right K00.kw__law_refused_right b37 l37) (.cons (Eg.def_of KX NX K00.ok_law K00.bi_law K00.kw_law b38 l38) .nil))))))))))))))))))))))))))))))))))))))) (fun base => List.forall_mem_cons.mpr ⟨Eg.exK_of F hm x0 y0 z0 K00.is_InvalidBase.1 K00.is_InvalidBase.2 K00.ib_InvalidBase, List.forall_mem_cons.mpr ⟨Eg.exK_of F hm x1 y1 z1 K00.is_InvalidNumber.1 K00.is_InvalidNumber.2 K00.ib_InvalidNumber, List.forall_mem_cons.mpr ⟨Eg.exK_of F hm x2 y2 z2 K00.is_InvalidTop.1 K00.is_InvalidTop.2 K00.ib_InvalidTop, List.forall_mem_cons.mpr ⟨Eg.exK_of F hm x3 y3 z3 K00.is_ZeroNumber.1 K00.is_ZeroNumber.2 K00.ib_ZeroNumber, fun _ h => absurd h (by simp)⟩⟩⟩⟩) rfl (by decide +kernel) (by decide +kernel) law

open PySem PySem.W PyProof.Rows in
set_option maxRecDepth 100000 in
set_option maxHeartbeats 0 in
theorem PySem.Challenge.cw_eightlooks_k00_fractions_holds : PySem.Challenge.rw_eightlooks_k00_fractions.Holds := by
  w_on; o_law; k_head; (case hw => w_witness2)
  k_fill
  refine Eg.law_walk (n := 23) (l := PySem.Challenge.rw_eightlooks_k00_fractions) rfl rfl ⟨rfl, by decide, by decide⟩ (fun w h Y => PySem.W.kIn_of Y) ?F
  case F =>
    intro w mg fa h KX NX hmg
    refine' K00.fin K00.law KX NX hmg ⟨?_, ?_, rfl, ?_, ?_, ?_, ?_⟩ ?_ ?_ ?_ ?_ ?_ ?_ ?_ ?_ ?_ ?_ ?_ ?_ ?_ ?_ ?_ ?_ ?_ ?_ ?_ ?_ ?_ ?_ ?_ ?_ ?_ ?_ ?_ ?_ ?_ ?_ ?_ ?_ ?_ ?_ ?_ ?_ ?_ ?_ ?_ ?_ ?_ ?_ ?_ ?_ ?_ ?_ ?_ ?_ ?_ ?_ ?_ ?_ ?_ ?_ ?_ ?_ ?_ ?_ ?_ ?_ ?_ ?_ ?_ ?_ ?_ ?_ ?_ ?_ ?_ ?_ ?_ ?_ ?_ ?_ ?_ ?_ ?_ ?_ ?_ ?_ ?_ ?_ ?_ ?_ ?_ ?_ ?_ ?_ ?_ ?_ ?_ ?_ <;> kernel_rfl

