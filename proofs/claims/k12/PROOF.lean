import PyProof.Rows.All
import Wide.All
import OpenK.AllK
import Wide.FinOn
import HandS.ForMost
import HandS.ForExc
import HandS.Flow
import HandS.IsInst
import HandS.Wide
import HandS.Style
import HandS.Star
import HandS.TupAny
import HandS.TupMul
import HandS.Zip
import HandS.StrMore
import HandS.FStr
import HandS.TryMany
import HandS.ExcInit
import KE.KeyNested
import PyProof.Rows.TupTab
import HandS.Iter
import HandS.Deep
import HandS.TupLe
import KE.DataCmp
import KE.SortData
import HandS.ClsMeth
import HandS.ExcField
import HandS.ExcIs
import KE.KExcIs
import HandS.Words
import HandS.WordsExc
import HandS.Ends
import PySem.Challenge.RW_eightlooks_k12_whole_cuts_of_words_at_jo
set_option Elab.async false
set_option linter.all false
set_option maxRecDepth 100000
set_option maxHeartbeats 4000000
set_option autoImplicit false
set_option exponentiation.threshold 20000
/-! The engine's first part: data, a small syntax of Python with names resolved, and its evaluator. Plain Lean: no program, no model in sight. -/
namespace Eg

/-- a value: tuples as trees, mutable things by their number in the store -/
inductive D where
  | non | bl (b : Bool) | int (i : Int) | str (s : List Nat) | tup (l : List D) | ref (n : Nat) | fl (l : List D) | fd (ks vs : List D)
  deriving Inhabited

mutual
def D.beq : D → D → Bool
  | .non, .non => true
  | .bl a, .bl b => a == b
  | .int a, .int b => a == b
  | .str a, .str b => a == b
  | .tup a, .tup b => D.beqL a b
  | .ref a, .ref b => a == b
  | .fl a, .fl b => D.beqL a b
  | .fd a a', .fd b b' => D.beqL a b && D.beqL a' b'
  | _, _ => false
def D.beqL : List D → List D → Bool
  | [], [] => true
  | a :: as, b :: bs => D.beq a b && D.beqL as bs
  | _, _ => false
end
mutual
theorem D.beq_eq : ∀ a b : D, D.beq a b = true → a = b
  | .non, b, h => by cases b <;> simp_all [D.beq]
  | .bl x, b, h => by cases b <;> simp_all [D.beq]
  | .int x, b, h => by cases b <;> simp_all [D.beq]
  | .str x, b, h => by cases b <;> simp_all [D.beq]
  | .ref x, b, h => by cases b <;> simp_all [D.beq]
  | .tup x, b, h => by
    cases b with
    | tup y => simp only [D.beq] at h; rw [D.beqL_eq x y h]
    | _ => simp [D.beq] at h
  | .fl x, b, h => by
    cases b with
    | fl y => simp only [D.beq] at h; rw [D.beqL_eq x y h]
    | _ => simp [D.beq] at h
  | .fd x x', b, h => by
    cases b with
    | fd y y' => simp only [D.beq, Bool.and_eq_true] at h; rw [D.beqL_eq x y h.1, D.beqL_eq x' y' h.2]
    | _ => simp [D.beq] at h
theorem D.beqL_eq : ∀ a b : List D, D.beqL a b = true → a = b
  | [], b, h => by cases b <;> simp_all [D.beqL]
  | x :: xs, b, h => by
    cases b with
    | nil => simp [D.beqL] at h
    | cons y ys =>
      simp only [D.beqL, Bool.and_eq_true] at h
      rw [D.beq_eq x y h.1, D.beqL_eq xs ys h.2]
end
mutual
theorem D.beq_refl : ∀ a : D, D.beq a a = true
  | .non => by simp [D.beq]
  | .bl x => by simp [D.beq]
  | .int x => by simp [D.beq]
  | .str x => by simp [D.beq]
  | .ref x => by simp [D.beq]
  | .tup x => by simp only [D.beq]; exact D.beqL_refl x
  | .fl x => by simp only [D.beq]; exact D.beqL_refl x
  | .fd x y => by simp only [D.beq, D.beqL_refl x, D.beqL_refl y, Bool.and_self]
theorem D.beqL_refl : ∀ a : List D, D.beqL a a = true
  | [] => by simp [D.beqL]
  | x :: xs => by simp only [D.beqL, D.beq_refl x, D.beqL_refl xs, Bool.and_self]
end
instance : DecidableEq D := fun a b => decidable_of_iff (D.beq a b = true) ⟨D.beq_eq a b, fun h => h ▸ D.beq_refl a⟩

/-- a mutable thing: a list, the script (read alone), a dict, an exception of a class with its fields -/
inductive O where
  | lst (l : List D) | ro (l : List D) | dct (kv : List (D × D)) | dead | exc (c : Nat) (fs : List (List Nat × D))
  deriving DecidableEq, Inhabited
abbrev Sto := List O
/-- an exception in flight -/
structure Ex where
  cls : Nat
  fs : List (List Nat × D)
  deriving DecidableEq, Inhabited
inductive R (β : Type) where
  | ok (b : β) (S : Sto) | ex (x : Ex) (S : Sto) | no
  deriving Inhabited
def R.bind {α β : Type} : R α → (α → Sto → R β) → R β
  | .ok a S, f => f a S
  | .ex x S, _ => .ex x S
  | .no, _ => .no
@[simp] theorem R.bind_ok {α β : Type} (a : α) (S : Sto) (f : α → Sto → R β) : (R.ok a S).bind f = f a S := id rfl
@[simp] theorem R.bind_ex {α β : Type} (x : Ex) (S : Sto) (f : α → Sto → R β) : (R.ex x S : R α).bind f = .ex x S := id rfl
@[simp] theorem R.bind_no {α β : Type} (f : α → Sto → R β) : (R.no : R α).bind f = .no := id rfl
def R.of {α : Type} (S : Sto) : Option α → R α
  | some a => .ok a S
  | none => .no
@[simp] theorem R.of_some {α : Type} (S : Sto) (a : α) : R.of S (some a) = .ok a S := id rfl
@[simp] theorem R.of_none {α : Type} (S : Sto) : R.of S (none : Option α) = .no := id rfl

mutual
/-- no mutable thing within -/
def D.free : D → Bool
  | .tup l => D.freeL l
  | .fl l => D.freeL l
  | .fd l m => D.freeL l && D.freeL m
  | .ref _ => false
  | _ => true
def D.freeL : List D → Bool
  | [] => true
  | a :: l => D.free a && D.freeL l
end
mutual
def D.shift (k : Nat) : D → D
  | .tup l => .tup (D.shiftL k l)
  | .fl l => .fl (D.shiftL k l)
  | .fd l m => .fd (D.shiftL k l) (D.shiftL k m)
  | .ref n => .ref (k + n)
  | d => d
def D.shiftL (k : Nat) : List D → List D
  | [] => []
  | a :: l => D.shift k a :: D.shiftL k l
end
def fsShift (k : Nat) (fs : List (List Nat × D)) : List (List Nat × D) := fs.map fun p => (p.1, p.2.shift k)
def O.shift (k : Nat) : O → O
  | .lst l => .lst (D.shiftL k l)
  | .ro l => .ro (D.shiftL k l)
  | .dct kv => .dct (kv.map fun p => (p.1.shift k, p.2.shift k))
  | .dead => .dead
  | .exc c fs => .exc c (fsShift k fs)
def fsFree (fs : List (List Nat × D)) : Bool := fs.all fun p => p.2.free

/-- the largest length of a list, a text -/
def line : Nat := 16777216

inductive BOp where
  | add | sub | mul | fdiv | mod | pow | shl | shr | band
  deriving DecidableEq, Inhabited
inductive COp where
  | eq | ne | lt | le | gt | ge | is_ | isnot | in_ | notin
  deriving DecidableEq, Inhabited
/-- built-in types of isinstance; own exception classes by their number -/
inductive Ty where
  | int | bool | str | list | tuple | dict | cls (c : Nat)
  deriving DecidableEq, Inhabited
inductive Bi where
  | len | abs | max | min | sum | int | str | list | tuple | all | any | sorted | listF | sortedF
  deriving DecidableEq, Inhabited
/-- methods -/
inductive Me where
  | append | extend | split | join | removeprefix | pop | index | items | get | count | reverse | insert | remove
  deriving DecidableEq, Inhabited
/-- targets -/
inductive Tg where
  | nm (i : Nat) | tp (ts : List Tg)
  deriving Inhabited

mutual
inductive E where
  | lit (d : D)
  | var (i : Nat)
  | con (x : List Nat) (d : D)
  | bin (o : BOp) (a b : E)
  | neg (a : E)
  | cmp (o : COp) (a b : E)
  | cmp2 (o p : COp) (a b c : E)
  | and (a b : E)
  | or (a b : E)
  | not (a : E)
  | ite (c a b : E)
  | tup (es : Es)
  | lst (es : Es)
  | lstF (es : Es)
  | dct0
  | dctF
  | frz (i : Nat)
  | bak (a : E)
  | me (m : Me) (a : E) (es : Es)
  | idx (a i : E)
  | idxl (es : Es) (i : E)
  | slc (a : E) (lo hi : Option E)
  | call (f : Nat) (es : Es)
  | callk (f : Nat) (perm : List Nat) (ks : List (List Nat)) (es : Es)
  | bi (b : Bi) (es : Es)
  | isi (a : E) (ts : List Ty)
  | comp (c : C)
  | compF (c : C)
  | bic (b : Bi) (c : C)
  | nilc (neg : Bool) (c : C)
  | inl (neg : Bool) (a : E) (es : Es)
  | app (a b : E)
  | no
inductive Es where
  | nil
  | cons (e : E) (es : Es)
  | star (e : E) (es : Es)
/-- a list comprehension of one clause: own slots, element, target, what it walks, test -/
inductive C where
  | mk (own : List Nat) (e : E) (tg : Tg) (it : I) (c : Option E)
  | dk (own : List Nat) (e : E) (tg : Tg) (i : Nat) (c : Option E)
/-- what a loop walks -/
inductive I where
  | val (e : E) | valv (i : Nat) | lst (es : Es) | rng1 (a : E) | rng2 (a b : E) | rng3 (a b c : E) | zip (a b : E) | enum (a : E)
end
instance : Inhabited E := ⟨.lit .non⟩
instance : Inhabited Es := ⟨.nil⟩

abbrev Env := List (Option D)
def setE (ρ : Env) (i : Nat) (d : D) : Env := ρ.set i (some d)
def wipeE (ρ : Env) : List Nat → Env
  | [] => ρ
  | v :: vs => (wipeE ρ vs).set v none

/-! ### operators -/
def mulOk (a b : Int) : Bool := decide (a.natAbs < 2 ^ 64) || decide (b.natAbs < 2 ^ 64) || decide (a.natAbs.log2 + b.natAbs.log2 < 1000000)
def i64 (a : Int) : Bool := decide (-(2 ^ 63 : Int) ≤ a) && decide (a < (2 ^ 63 : Int))
def lstOf (S : Sto) (n : Nat) : Option (List D) := match S[n]? with
  | some (.lst l) => some l
  | some (.ro l) => some l
  | _ => none
/-- a list's items -/
def seqD (S : Sto) : D → Option (List D)
  | .ref n => lstOf S n
  | .fl l => some l
  | _ => none
def binD : BOp → D → D → Sto → R D
  | .add, .int a, .int b, S => .ok (.int (a + b)) S
  | .add, .str a, .str b, S => if a.length + b.length ≤ line then .ok (.str (a ++ b)) S else .no
  | .add, .tup a, .tup b, S => if a.length + b.length ≤ line then .ok (.tup (a ++ b)) S else .no
  | .add, .fl a, .fl b, S => if a.length + b.length ≤ line then .ok (.fl (a ++ b)) S else .no
  | .add, .ref a, .ref b, S => match S[a]?, S[b]? with
    | some (.lst l), some (.lst m) => if l.length + m.length ≤ line then .ok (.ref S.length) (S ++ [.lst (l ++ m)]) else .no
    | _, _ => .no
  | .sub, .int a, .int b, S => .ok (.int (a - b)) S
  | .mul, .int a, .int b, S => if mulOk a b then .ok (.int (a * b)) S else .no
  | .mul, .tup a, .int b, S => if decide (-1000 ≤ b) && decide (b ≤ 1000) && decide (a.length ≤ 1000) then .ok (.tup (List.replicate b.toNat a).flatten) S else .no
  | .mul, .fl a, .int b, S => if i64 b && decide (a.length * b.toNat ≤ line) then .ok (.fl (List.replicate b.toNat a).flatten) S else .no
  | .mul, .ref a, .int b, S => match S[a]? with
    | some (.lst l) => if i64 b && decide (l.length * b.toNat ≤ line) then .ok (.ref S.length) (S ++ [.lst (List.replicate b.toNat l).flatten]) else .no
    | _ => .no
  | .fdiv, .int a, .int b, S => if decide (b ≠ 0) && decide (b.natAbs < 1073741824) then .ok (.int (a.fdiv b)) S
      else if decide (0 < b) && decide (b.natAbs.log2 < 9000) then .ok (.int (a / b)) S else .no
  | .mod, .int a, .int b, S => if b ≠ 0 then .ok (.int (a.fmod b)) S else .no
  | .pow, .int a, .int b, S => if decide (0 ≤ b) && decide (b ≤ 1000000) && decide (a.natAbs < 2 ^ 64) then .ok (.int (a ^ b.toNat)) S else .no
  | .shl, .int a, .int b, S => if decide (0 ≤ b) && decide (b ≤ 1000000) && decide (a.natAbs < 2 ^ 64) then .ok (.int (a * 2 ^ b.toNat)) S else .no
  | .shr, .int a, .int b, S => if decide (0 ≤ b) then .ok (.int (a / 2 ^ b.toNat)) S else .no
  | _, _, _, _ => .no


/-- the largest sign -/
def strOk (s : List Nat) : Bool := s.all fun c => decide (c < 0x110000)
/-- data through and through, at most n deep -/
def plain : Nat → Sto → D → Bool
  | 0, _, _ => false
  | n + 1, S, d => match d with
    | .str s => strOk s
    | .tup l => l.all (plain n S)
    | .ref k => match lstOf S k with
      | some l => l.all (plain n S)
      | none => false
    | .fl l => l.all (plain n S)
    | .fd _ _ => false
    | _ => true
/-- all pairs, equal lengths -/
def all2 (f : D → D → Bool) : List D → List D → Bool
  | [], [] => true
  | a :: as, b :: bs => f a b && all2 f as bs
  | _, _ => false
/-- == of plain data -/
def eqv : Nat → Sto → D → D → Bool
  | 0, _, _, _ => false
  | n + 1, S, a, b => match a, b with
    | .non, .non => true
    | .bl a, .bl b => a == b
    | .bl a, .int j => (if a then 1 else 0) == j
    | .int i, .bl b => i == (if b then 1 else 0)
    | .int a, .int b => a == b
    | .str a, .str b => a == b
    | .tup a, .tup b => all2 (eqv n S) a b
    | a, b => match seqD S a, seqD S b with
      | some a, some b => all2 (eqv n S) a b
      | _, _ => false
def eqD (S : Sto) : D → D → Option Bool
  | .int a, .int b => some (decide (a = b))
  | .str a, .str b => some (decide (a = b))
  | .bl a, .bl b => some (decide (a = b))
  | a, b => if plain 40 S a && plain 40 S b then some (eqv 40 S a b) else none
/-- one of a list by == -/
def inD (S : Sto) (a : D) (l : List D) : Option Bool := if plain 40 S a && l.all (plain 40 S) then some (l.any fun b => eqv 40 S b a) else none
def flat : D → Bool
  | .non => true
  | .bl _ => true
  | .int _ => true
  | .str _ => true
  | _ => false
def ofB (S : Sto) : Option Bool → R D
  | some b => .ok (.bl b) S
  | none => .no
@[simp] theorem ofB_some (S : Sto) (b : Bool) : ofB S (some b) = .ok (.bl b) S := id rfl
def notB : Option Bool → Option Bool
  | some b => some (!b)
  | none => none
@[simp] theorem notB_some (b : Bool) : notB (some b) = some (!b) := id rfl
/-- a key: a tuple of ints and tuples of such, not too deep -/
def nkD : Nat → D → Bool
  | _, .int _ => true
  | n + 1, .tup l => l.all (nkD n)
  | _, _ => false
def keyOk : D → Bool
  | .tup l => l.all (nkD 7)
  | _ => false
def dctGet (kv : List (D × D)) (k : D) : Option D := match kv with
  | [] => none
  | p :: r => if p.1 = k then some p.2 else dctGet r k
def dctPut (kv : List (D × D)) (k v : D) : List (D × D) := if (dctGet kv k).isSome then kv.map (fun p => if p.1 = k then (p.1, v) else p) else kv ++ [(k, v)]
def cIn (S : Sto) : D → D → Option Bool
  | .str [c], .str b => some (decide (c ∈ b))
  | a, .tup l => if flat a && l.all flat then inD S a l else none
  | a, .ref n => match S[n]? with
    | some (.dct kv) => if keyOk a then some (dctGet kv a).isSome else none
    | _ => match lstOf S n with
      | some l => inD S a l
      | none => none
  | a, b => match seqD S b with
    | some l => inD S a l
    | none => none
/-- is: against None, of two bools -/
def cIs : D → D → Option Bool
  | a, .non => some (decide (a = .non))
  | .bl a, .bl b => some (decide (a = b))
  | _, _ => none
def lexLt : List D → List D → Option Bool
  | [], [] => some false
  | [], _ :: _ => some true
  | _ :: _, [] => some false
  | .int x :: xs, .int y :: ys => if x = y then lexLt xs ys else some (decide (x < y))
  | _, _ => none
mutual
/-- can be compared by <, place by place -/
def alD : D → D → Bool
  | .int _, .int _ => true
  | .str _, .str _ => true
  | .tup a, .tup b => alL a b
  | _, _ => false
def alL : List D → List D → Bool
  | a :: as, b :: bs => alD a b && alL as bs
  | [], _ => true
  | _ :: _, [] => true
end
mutual
/-- < of such -/
def ltT : D → D → Bool
  | .int a, .int b => decide (a < b)
  | .str a, .str b => decide (a < b)
  | .tup a, .tup b => ltTL a b
  | _, _ => false
def ltTL : List D → List D → Bool
  | a :: as, b :: bs => if a = b then ltTL as bs else ltT a b
  | [], _ :: _ => true
  | _, [] => false
end
def ltD : D → D → Option Bool
  | .int a, .int b => some (decide (a < b))
  | .tup a, .tup b => if alL a b && plain 40 [] (.tup a) && plain 40 [] (.tup b) then some (ltTL a b) else none
  | _, _ => none
/-- what sorted asks of the items -/
def neTup : D → Bool
  | .tup (_ :: _) => true
  | _ => false
def notTup : D → Bool
  | .tup _ => false
  | .non => false
  | _ => true
def srtOk (l : List D) : Bool := l.all (plain 40 []) && l.all (fun a => l.all (alD a)) && (l.all neTup || l.all notTup) && decide (l.length ≤ line)
def leT (a b : D) : Bool := !ltT b a
def srt (l : List D) : List D := l.mergeSort leT
def cmpO (o : COp) (a b : D) (S : Sto) : Option Bool :=
  match o with
  | .eq => eqD S a b
  | .ne => notB (eqD S a b)
  | .lt => ltD a b
  | .gt => ltD b a
  | .le => notB (ltD b a)
  | .ge => notB (ltD a b)
  | .is_ => cIs a b
  | .isnot => notB (cIs a b)
  | .in_ => cIn S a b
  | .notin => notB (cIn S a b)
def truD (S : Sto) : D → Option Bool
  | .non => some false
  | .bl b => some b
  | .int i => some (decide (i ≠ 0))
  | .str s => if s.length ≤ line then some (!s.isEmpty) else none
  | .tup l => some (!l.isEmpty)
  | .fl l => some (!l.isEmpty)
  | .fd _ _ => none
  | .ref n => match S[n]? with
    | some (.lst l) => some (!l.isEmpty)
    | some (.ro l) => some (!l.isEmpty)
    | _ => none
/-- an index, from either end -/
def ixN (n : Nat) (i : Int) : Option Nat := if 0 ≤ i then (if i < n then some i.toNat else none) else if -(n : Int) ≤ i then some (i + n).toNat else none
def atL {α : Type} (l : List α) (i : Int) : Option α := (ixN l.length i).bind fun j => l[j]?
def idxD : D → D → Sto → R D
  | .tup l, .int i, S => .of S (atL l i)
  | .str s, .int i, S => if s.length ≤ line then .of S ((atL s i).map fun c => .str [c]) else .no
  | a, .int i, S => match seqD S a with
    | some l => .of S (atL l i)
    | none => .no
  | .ref n, k, S => match S[n]? with
    | some (.dct kv) => if keyOk k then .of S (dctGet kv k) else .no
    | _ => .no
  | _, _, _ => .no
def idxL (l : List D) : D → Sto → R D
  | .int k, S => .of S (atL l k)
  | _, _ => .no
/-- the place of a slice's end -/
def sIx (n : Nat) (dflt : Nat) : Option Int → Nat
  | none => dflt
  | some i => if i < 0 then (i + n).toNat else min i.toNat n
def cut {α : Type} (l : List α) (lo hi : Option Int) : List α := (l.drop (sIx l.length 0 lo)).take (sIx l.length l.length hi - sIx l.length 0 lo)
def slcD (a : D) (lo hi : Option Int) (S : Sto) : R D :=
  match a with
  | .tup l => .ok (.tup (cut l lo hi)) S
  | .str s => if s.length ≤ line then .ok (.str (cut s lo hi)) S else .no
  | .ref n => match lstOf S n with
    | some l => .ok (.ref S.length) (S ++ [.lst (cut l lo hi)])
    | none => .no
  | .fl l => .ok (.fl (cut l lo hi)) S
  | _ => .no
/-- a[::-1] -/
def bakD (a : D) (S : Sto) : R D := match a with
  | .tup l => .ok (.tup l.reverse) S
  | .fl l => .ok (.fl l.reverse) S
  | .ref n => match lstOf S n with
    | some l => .ok (.ref S.length) (S ++ [.lst l.reverse])
    | none => .no
  | _ => .no
/-- the kind of a value -/
inductive Kd where
  | non | int | bool | str | tuple | list | dict | exc (c : Nat)
  deriving DecidableEq
def kind (S : Sto) : D → Option Kd
  | .non => some .non
  | .bl _ => some .bool
  | .int _ => some .int
  | .str _ => some .str
  | .tup _ => some .tuple
  | .fl _ => some .list
  | .fd _ _ => some .dict
  | .ref n => match S[n]? with
    | some (.lst _) => some .list
    | some (.ro _) => some .list
    | some (.dct _) => none
    | some .dead => none
    | some (.exc c _) => some (.exc c)
    | none => none
/-- sub c d: the class d is c or above it -/
def isK (sub : Nat → Nat → Bool) : Kd → Ty → Bool
  | .int, .int => true
  | .bool, .int => true
  | .bool, .bool => true
  | .str, .str => true
  | .tuple, .tuple => true
  | .list, .list => true
  | .dict, .dict => true
  | .exc c, .cls d => sub c d
  | _, _ => false
def intsOf : List D → Option (List Int)
  | [] => some []
  | .int i :: l => (intsOf l).map (i :: ·)
  | _ => none
def blsOf : List D → Option (List Bool)
  | [] => some []
  | .bl b :: l => (blsOf l).map (b :: ·)
  | _ => none
def strsOf : List D → Option (List (List Nat))
  | [] => some []
  | .str s :: l => (strsOf l).map (s :: ·)
  | _ => none
/-- an int in digits -/
def txtInt (i : Int) : List Nat := ((toString i).toList).map Char.toNat
def digN : List Nat → Option Nat
  | l => l.foldl (fun a c => match a with
    | some n => if 48 ≤ c ∧ c ≤ 57 then some (10 * n + (c - 48)) else none
    | none => none) (some 0)
/-- the int of a text: digits alone -/
def intTxt (s : List Nat) : Option Int := if s = [] then none else (digN s).map Int.ofNat
/-- the greatest, the least of a list -/
def maxL : List Int → Option Int
  | [] => none
  | [x] => some x
  | x :: l => (maxL l).map fun m => if x > m then x else m
def minL : List Int → Option Int
  | [] => none
  | [x] => some x
  | x :: l => (minL l).map fun m => if x < m then x else m
/-- a built-in of a list's items -/
def bil : Bi → List D → Sto → R D
  | .len, l, S => .ok (.int l.length) S
  | .sum, l, S => match intsOf l with
    | some ns => .ok (.int ns.sum) S
    | none => .no
  | .list, l, S => .ok (.ref S.length) (S ++ [.lst l])
  | .listF, l, S => .ok (.fl l) S
  | .max, l, S => match (intsOf l).bind maxL with
    | some m => .ok (.int m) S
    | none => .no
  | .min, l, S => match (intsOf l).bind minL with
    | some m => .ok (.int m) S
    | none => .no
  | .tuple, l, S => .ok (.tup l) S
  | .all, l, S => match blsOf l with
    | some bs => .ok (.bl (bs.all id)) S
    | none => .no
  | .any, l, S => match blsOf l with
    | some bs => .ok (.bl (bs.any id)) S
    | none => .no
  | .sorted, l, S => if srtOk l then .ok (.ref S.length) (S ++ [.lst (srt l)]) else .no
  | .sortedF, l, S => if srtOk l then .ok (.fl (srt l)) S else .no
  | _, _, _ => .no
def bLen : List D → Sto → R D
  | [.str s], S => if s.length ≤ line then .ok (.int s.length) S else .no
  | [.tup l], S => .ok (.int l.length) S
  | [.fl l], S => .ok (.int l.length) S
  | [.fd l _], S => .ok (.int l.length) S
  | [.ref n], S => match S[n]? with
    | some (.lst l) => .ok (.int l.length) S
    | some (.ro l) => .ok (.int l.length) S
    | _ => .no
  | _, _ => .no
def bAbs : List D → Sto → R D
  | [.int i], S => .ok (.int (if i < 0 then -i else i)) S
  | _, _ => .no
def bMax : List D → Sto → R D
  | [d], S => match (seqD S d).bind intsOf with
    | some ns => match maxL ns with
      | some m => .ok (.int m) S
      | none => .no
    | none => .no
  | [.int i, .int j], S => .ok (.int (if j > i then j else i)) S
  | _, _ => .no
def bMin : List D → Sto → R D
  | [d], S => match (seqD S d).bind intsOf with
    | some ns => match minL ns with
      | some m => .ok (.int m) S
      | none => .no
    | none => .no
  | [.int i, .int j], S => .ok (.int (if j < i then j else i)) S
  | _, _ => .no
def bInt : List D → Sto → R D
  | [.int i], S => .ok (.int i) S
  | [.bl b], S => .ok (.int (if b then 1 else 0)) S
  | _, _ => .no
def bStr : List D → Sto → R D
  | [.int i], S => if i.natAbs.log2 < 1920 then .ok (.str (txtInt i)) S else .no
  | _, _ => .no
/-- of a list -/
def bOf (b : Bi) : List D → Sto → R D
  | [d], S => match seqD S d with
    | some l => bil b l S
    | none => .no
  | _, _ => .no
/-- of a list or a tuple -/
def bOfT (b : Bi) : List D → Sto → R D
  | [.tup l], S => bil b l S
  | [d], S => match seqD S d with
    | some l => bil b l S
    | none => .no
  | _, _ => .no
def biD : Bi → List D → Sto → R D
  | .len => bLen
  | .abs => bAbs
  | .max => bMax
  | .min => bMin
  | .int => bInt
  | .str => bStr
  | .list => bOfT .list
  | .tuple => bOfT .tuple
  | .sum => bOfT .sum
  | .all => bOf .all
  | .any => bOf .any
  | .sorted => bOf .sorted
  | .listF => bOfT .listF
  | .sortedF => bOf .sortedF
/-- parts of a text between single signs -/
def splitC (c : Nat) : List Nat → List (List Nat)
  | [] => [[]]
  | a :: s => if a = c then [] :: splitC c s else match splitC c s with
    | [] => [[a]]
    | p :: r => (a :: p) :: r
/-- a list that was made by the program -/
def mutD (S : Sto) : D → Option (List D)
  | .fl l => some l
  | .ref n => match S[n]? with
    | some (.lst l) => some l
    | _ => none
  | _ => none
/-- a list's method: what the list holds -> what comes back, what it holds then -/
def meL : Me → List D → List D → Sto → Option (D × List D)
  | .append, l, [v], _ => if l.length < line then some (.non, l ++ [v]) else none
  | .extend, l, [d], S => match mutD S d with
    | some k => if l.length + k.length ≤ line then some (.non, l ++ k) else none
    | none => none
  | .pop, l, [], _ => match l[l.length - 1]? with
    | some d => some (d, l.dropLast)
    | none => none
  | .pop, l, [.int i], _ => if i64 i then (match ixN l.length i with
    | some k => match l[k]? with
      | some d => some (d, l.eraseIdx k)
      | none => none
    | none => none) else none
  | .insert, l, [.int i, v], _ => if decide (0 ≤ i) && decide (i < 2 ^ 63) && decide (l.length < line) then some (.non, l.take i.toNat ++ [v] ++ l.drop i.toNat) else none
  | .reverse, l, [], _ => some (.non, l.reverse)
  | _, _, _, _ => none
def meD (m : Me) (d : D) (ds : List D) (S : Sto) : R D := match d with
  | .ref n => match S[n]? with
    | some (.lst l) => match meL m l ds S with
      | some (v, l') => .ok v (S.set n (.lst l'))
      | none => .no
    | _ => .no
  | _ => .no
/-- text of a piece of an f-string -/
def fsD : D → Option (List Nat)
  | .str s => some s
  | .int i => if i.natAbs.log2 < 1920 then some (txtInt i) else none
  | _ => none
def fsAll : List D → Option (List Nat)
  | [] => some []
  | d :: l => match fsD d, fsAll l with
    | some a, some b => some (a ++ b)
    | _, _ => none
mutual
def bindT (S : Sto) : Tg → D → Env → Option Env
  | .nm i, d, ρ => some (setE ρ i d)
  | .tp ts, .tup l, ρ => bindTs S ts l ρ
  | .tp ts, d, ρ => match seqD S d with
    | some l => bindTs S ts l ρ
    | none => none
def bindTs (S : Sto) : List Tg → List D → Env → Option Env
  | [], [], ρ => some ρ
  | t :: ts, d :: ds, ρ => match bindT S t d ρ with
    | some ρ' => bindTs S ts ds ρ'
    | none => none
  | _, _, _ => none
end
mutual
def Tg.slots : Tg → List Nat
  | .nm i => [i]
  | .tp ts => slotsL ts
def slotsL : List Tg → List Nat
  | [] => []
  | t :: ts => t.slots ++ slotsL ts
end
/-- what is walked: the items, and the list that must stay as it is -/
abbrev Src := List D × Option (Nat × O)
def gOk (g : Option (Nat × O)) (S : Sto) : Bool := match g with
  | none => true
  | some (n, o) => decide (S[n]? = some o)
def srcD (S : Sto) : D → Option Src
  | .tup l => some (l, none)
  | .fl l => some (l, none)
  | .str s => if s.length ≤ line then some (s.map fun c => .str [c], none) else none
  | .ref n => match S[n]? with
    | some (.lst l) => some (l, some (n, .lst l))
    | some (.ro l) => some (l, none)
    | _ => none
  | _ => none
def isD0 (S : Sto) : D → Bool
  | .fd l _ => l.isEmpty
  | _ => false
def rngL (lo : Int) (n : Nat) : List D := (List.range n).map fun (k : Nat) => D.int (lo + (k : Int))
def b62 (i : Int) : Bool := decide (-(2 ^ 62 : Int) ≤ i) && decide (i < (2 ^ 62 : Int))
def rngD (lo hi : Int) : Option Src := if b62 lo && b62 hi then some (rngL lo (hi - lo).toNat, none) else none
def rngLM (lo : Int) (n : Nat) : List D := (List.range n).map fun (k : Nat) => D.int (lo + (k : Int) * -1)
def rngM (lo hi : Int) : Option Src := if b62 lo && b62 hi then some (rngLM lo (lo - hi).toNat, none) else none
/-- the items of a comprehension -/
def compL (bind : D → Sto → Option Env) (test : Env → Sto → R Bool) (f : Env → Sto → R D) (g : Option (Nat × O)) : List D → List D → Sto → R (List D)
  | [], acc, S => .ok acc S
  | x :: xs, acc, S => match bind x S with
    | none => .no
    | some ρ => match test ρ S with
      | .ok true S1 => match f ρ S1 with
        | .ok d S2 => if gOk g S2 then compL bind test f g xs (acc ++ [d]) S2 else .no
        | _ => .no
      | .ok false S1 => if gOk g S1 then compL bind test f g xs acc S1 else .no
      | _ => .no
def tru (r : R D) : R Bool := r.bind fun d S => .of S (truD S d)
/-- what a star lays out -/
def starL (S : Sto) : D → Option (List D)
  | .tup k => some k
  | d => seqD S d
/-- the call of a def: by its number -/
abbrev Cl := Nat → List D → Sto → R D

section
variable (sub : Nat → Nat → Bool) (c : Cl)
mutual
def evE : E → Env → Sto → R D
  | .lit d, _, S => .ok d S
  | .var i, ρ, S => match ρ[i]? with
    | some (some d) => .ok d S
    | _ => .no
  | .con _ d, _, S => .ok d S
  | .bin o a b, ρ, S => (evE a ρ S).bind fun x S1 => (evE b ρ S1).bind fun y S2 => binD o x y S2
  | .neg a, ρ, S => (evE a ρ S).bind fun x S1 => match x with
    | .int i => .ok (.int (-i)) S1
    | _ => .no
  | .cmp o a b, ρ, S => (evE a ρ S).bind fun x S1 => (evE b ρ S1).bind fun y S2 => ofB S2 (cmpO o x y S2)
  | .cmp2 o p a b d, ρ, S => (evE a ρ S).bind fun x S1 => (evE b ρ S1).bind fun y S2 => match cmpO o x y S2 with
    | some true => (evE d ρ S2).bind fun z S3 => ofB S3 (cmpO p y z S3)
    | some false => .ok (.bl false) S2
    | none => .no
  | .and a b, ρ, S => (evE a ρ S).bind fun x S1 => match truD S1 x with
    | some true => evE b ρ S1
    | some false => .ok x S1
    | none => .no
  | .or a b, ρ, S => (evE a ρ S).bind fun x S1 => match truD S1 x with
    | some true => .ok x S1
    | some false => evE b ρ S1
    | none => .no
  | .not a, ρ, S => (evE a ρ S).bind fun x S1 => ofB S1 (notB (truD S1 x))
  | .ite t a b, ρ, S => (evE t ρ S).bind fun x S1 => match truD S1 x with
    | some true => evE a ρ S1
    | some false => evE b ρ S1
    | none => .no
  | .tup es, ρ, S => (evEs es ρ S).bind fun l S1 => if l.length ≤ line then .ok (.tup l) S1 else .no
  | .lst es, ρ, S => (evEs es ρ S).bind fun l S1 => if l.length ≤ line then .ok (.ref S1.length) (S1 ++ [.lst l]) else .no
  | .lstF es, ρ, S => (evEs es ρ S).bind fun l S1 => if l.length ≤ line then .ok (.fl l) S1 else .no
  | .dctF, _, S => .ok (.fd [] []) S
  | .frz i, ρ, S => match ρ[i]? with
    | some (some (.ref n)) => (match S[n]? with
      | some (.lst l) => .ok (.fl l) (S.set n .dead)
      | _ => .no)
    | some (some (.fl l)) => .ok (.fl l) S
    | _ => .no
  | .bak a, ρ, S => (evE a ρ S).bind fun x S1 => bakD x S1
  | .me m a es, ρ, S => (evE a ρ S).bind fun x S1 => match seqD S1 x with
    | some _ => (evEs es ρ S1).bind fun l S2 => meD m x l S2
    | none => .no
  | .dct0, _, S => .ok (.ref S.length) (S ++ [.dct []])
  | .idx a i, ρ, S => (evE a ρ S).bind fun x S1 => (evE i ρ S1).bind fun y S2 => idxD x y S2
  | .idxl es i, ρ, S => (evEs es ρ S).bind fun l S1 => if l.length ≤ line then (evE i ρ S1).bind fun y S2 => idxL l y S2 else .no
  | .slc a lo hi, ρ, S => (evE a ρ S).bind fun x S1 => (evO lo ρ S1).bind fun l S2 => (evO hi ρ S2).bind fun h S3 => slcD x l h S3
  | .call f es, ρ, S => (evEs es ρ S).bind fun l S1 => c f l S1
  | .callk f perm _ es, ρ, S => (evEs es ρ S).bind fun l S1 => c f (perm.filterMap fun i => l[i]?) S1
  | .bi b es, ρ, S => (evEs es ρ S).bind fun l S1 => biD b l S1
  | .isi a ts, ρ, S => (evE a ρ S).bind fun x S1 => match kind S1 x with
    | some k => .ok (.bl (ts.any (isK sub k))) S1
    | none => .no
  | .comp q, ρ, S => (evC q ρ S).bind fun l S1 => .ok (.ref S1.length) (S1 ++ [.lst l])
  | .compF q, ρ, S => (evC q ρ S).bind fun l S1 => .ok (.fl l) S1
  | .bic b q, ρ, S => (evC q ρ S).bind fun l S1 => bil b l S1
  | .nilc neg q, ρ, S => (evC q ρ S).bind fun l S1 => if l.all (plain 40 S1) then .ok (.bl (if neg then !l.isEmpty else l.isEmpty)) S1 else .no
  | .inl neg a es, ρ, S => (evE a ρ S).bind fun x S1 => (evEs es ρ S1).bind fun l S2 => if l.length ≤ line then ofB S2 (if neg then notB (inD S2 x l) else inD S2 x l) else .no
  | .app a b, ρ, S => (evE a ρ S).bind fun x S1 => match x with
    | .ref n => match lstOf S1 n with
      | some _ => (evE b ρ S1).bind fun v S2 => meD .append (.ref n) [v] S2
      | none => .no
    | _ => .no
  | .no, _, _ => .no
def evO : Option E → Env → Sto → R (Option Int)
  | none, _, S => .ok none S
  | some e, ρ, S => (evE e ρ S).bind fun x S1 => match x with
    | .int i => .ok (some i) S1
    | _ => .no
def evEs : Es → Env → Sto → R (List D)
  | .nil, _, S => .ok [] S
  | .cons e es, ρ, S => (evE e ρ S).bind fun x S1 => (evEs es ρ S1).bind fun l S2 => .ok (x :: l) S2
  | .star e es, ρ, S => (evE e ρ S).bind fun x S1 => match starL S1 x with
    | some k => (evEs es ρ S1).bind fun l S2 => .ok (k ++ l) S2
    | none => .no
def evC : C → Env → Sto → R (List D)
  | .mk own e tg it t, ρ, S => (evI it ρ S).bind fun p S1 => if p.1.length ≤ line then
      compL (fun x S => bindT S tg x (wipeE ρ own)) (fun ρ S => evT t ρ S) (fun ρ S => evE e ρ S) p.2 p.1 [] S1 else .no
  | .dk own e tg i t, ρ, S => match ρ[i]? with
    | some (some (.ref n)) => match S[n]? with
      | some (.dct kv) => if kv.length ≤ line then (compL (fun x S => bindT S tg x (wipeE ρ own)) (fun ρ S => evT t ρ S) (fun ρ S => evE e ρ S) none (kv.map (·.1)) [] (S.set n .dead)).bind fun l S2 =>
          if S2[n]? = some .dead then .ok l (S2.set n (.dct kv)) else .no
        else .no
      | _ => .no
    | _ => .no
def evT : Option E → Env → Sto → R Bool
  | none, _, S => .ok true S
  | some e, ρ, S => tru (evE e ρ S)
def evI : I → Env → Sto → R Src
  | .val e, ρ, S => (evE e ρ S).bind fun x S1 => .of S1 (srcD S1 x)
  | .valv i, ρ, S => match ρ[i]? with
    | some (some d) => if isD0 S d then .ok ([], none) S else .of S (srcD S d)
    | _ => .no
  | .lst es, ρ, S => (evEs es ρ S).bind fun l S1 => if l.length ≤ line then .ok (l, none) S1 else .no
  | .rng1 a, ρ, S => (evE a ρ S).bind fun x S1 => match x with
    | .int n => .of S1 (rngD 0 n)
    | _ => .no
  | .rng2 a b, ρ, S => (evE a ρ S).bind fun x S1 => (evE b ρ S1).bind fun y S2 => match x, y with
    | .int m, .int n => .of S2 (rngD m n)
    | _, _ => .no
  | .rng3 a b d, ρ, S => (evE a ρ S).bind fun x S1 => (evE b ρ S1).bind fun y S2 => (evE d ρ S2).bind fun z S3 => match x, y, z with
    | .int m, .int n, .int k => if k = -1 then .of S3 (rngM m n) else .no
    | _, _, _ => .no
  | .zip a b, ρ, S => (evE a ρ S).bind fun x S1 => (evE b ρ S1).bind fun y S2 => match x, y with
    | .tup l, .tup m => .ok ((l.zip m).map fun p => .tup [p.1, p.2], none) S2
    | .fl l, .fl m => .ok ((l.zip m).map fun p => .tup [p.1, p.2], none) S2
    | _, _ => .no
  | .enum _, _, _ => .no
end
end

/-! ### statements -/
/-- an item of what an except clause hands back -/
inductive Hi where
  | lit (d : D) | attr (f : List Nat) | isn (c : Nat) (a b : D)
  deriving Inhabited
/-- a clause: the class, whether it is named, a list of items or one constant -/
inductive Hd where
  | lst (c : Nat) (nm : Option Nat) (l : List Hi) | one (c : Nat) (nm : Option Nat) (d : D)
  deriving Inhabited
mutual
inductive Sm where
  | asg (i : Nat) (e : E)
  | asgT (ts : List Tg) (e : E)
  | par (is : List Nat) (es : Es)
  | aug (i : Nat) (o : BOp) (e : E)
  | setI (a i e : E)
  | expr (e : E)
  | ret (e : E)
  | retN
  | ife (t : E) (a b : Ss)
  | whl (t : E) (b : Ss)
  | fr (tg : Tg) (it : I) (b : Ss)
  | rais (c : Nat) (fs : List (List Nat)) (es : Es)
  | try_ (b : Ss) (hs : List Hd)
  | pass | brk | cont | nev
inductive Ss where
  | nil
  | cons (s : Sm) (ss : Ss)
end
instance : Inhabited Sm := ⟨.pass⟩
instance : Inhabited Ss := ⟨.nil⟩
inductive RS where
  | nx (ρ : Env) (S : Sto) | rt (d : D) (S : Sto) | bk (ρ : Env) (S : Sto) | ct (ρ : Env) (S : Sto) | ex (x : Ex) (ρ : Env) (S : Sto) | no
  deriving Inhabited
/-- behind an expression -/
def R.st {α : Type} (r : R α) (ρ : Env) (f : α → Sto → RS) : RS := match r with
  | .ok a S => f a S
  | .ex x S => .ex x ρ S
  | .no => .no
def RS.then (r : RS) (f : Env → Sto → RS) : RS := match r with
  | .nx ρ S => f ρ S
  | r => r
@[simp] theorem R.st_ok {α : Type} (a : α) (S : Sto) (ρ : Env) (f : α → Sto → RS) : (R.ok a S).st ρ f = f a S := id rfl
@[simp] theorem R.st_ex {α : Type} (x : Ex) (S : Sto) (ρ : Env) (f : α → Sto → RS) : (R.ex x S : R α).st ρ f = .ex x ρ S := id rfl
@[simp] theorem RS.then_nx (ρ : Env) (S : Sto) (f : Env → Sto → RS) : (RS.nx ρ S).then f = f ρ S := id rfl
@[simp] theorem RS.then_rt (d : D) (S : Sto) (f : Env → Sto → RS) : (RS.rt d S).then f = .rt d S := id rfl
@[simp] theorem RS.then_ex (x : Ex) (ρ : Env) (S : Sto) (f : Env → Sto → RS) : (RS.ex x ρ S).then f = .ex x ρ S := id rfl
@[simp] theorem RS.then_bk (ρ : Env) (S : Sto) (f : Env → Sto → RS) : (RS.bk ρ S).then f = .bk ρ S := id rfl
@[simp] theorem RS.then_ct (ρ : Env) (S : Sto) (f : Env → Sto → RS) : (RS.ct ρ S).then f = .ct ρ S := id rfl
def forL (bind : D → Env → Sto → Option Env) (body : Env → Sto → RS) (g : Option (Nat × O)) : List D → Env → Sto → RS
  | [], ρ, S => .nx ρ S
  | x :: xs, ρ, S => match bind x ρ S with
    | none => .no
    | some ρ1 => match body ρ1 S with
      | .nx ρ2 S2 => if gOk g S2 then forL bind body g xs ρ2 S2 else .no
      | .ct ρ2 S2 => if gOk g S2 then forL bind body g xs ρ2 S2 else .no
      | .bk ρ2 S2 => .nx ρ2 S2
      | .rt d S2 => .rt d S2
      | .ex x ρ2 S2 => .ex x ρ2 S2
      | .no => .no
def whileN (t : Env → Sto → R Bool) (body : Env → Sto → RS) : Nat → Env → Sto → RS
  | 0, _, _ => .no
  | w + 1, ρ, S => (t ρ S).st ρ fun b S1 => if b then (match body ρ S1 with
      | .nx ρ2 S2 => whileN t body w ρ2 S2
      | .ct ρ2 S2 => whileN t body w ρ2 S2
      | .bk ρ2 S2 => .nx ρ2 S2
      | .rt d S2 => .rt d S2
      | .ex x ρ2 S2 => .ex x ρ2 S2
      | .no => .no) else .nx ρ S1
@[irreducible] def wfuel : Nat := 1099511627776
def hiD (sub : Nat → Nat → Bool) (x : Ex) : Hi → Option D
  | .lit d => some d
  | .attr f => x.fs.lookup f
  | .isn c a b => some (if sub x.cls c then a else b)
def hisD (sub : Nat → Nat → Bool) (x : Ex) : List Hi → Option (List D)
  | [] => some []
  | h :: l => match hiD sub x h, hisD sub x l with
    | some a, some b => some (a :: b)
    | _, _ => none
def hdl (sub : Nat → Nat → Bool) (x : Ex) (ρ : Env) (S : Sto) : List Hd → RS
  | [] => .ex x ρ S
  | .lst c _ l :: r => if sub x.cls c then (match hisD sub x l with
      | some ds => if ds.length ≤ line then .rt (.fl ds) S else .no
      | none => .no) else hdl sub x ρ S r
  | .one c _ d :: r => if sub x.cls c then .rt d S else hdl sub x ρ S r
def setAll (ρ : Env) : List Nat → List D → Env
  | i :: is, d :: ds => setAll (setE ρ i d) is ds
  | _, _ => ρ
section
variable (sub : Nat → Nat → Bool) (c : Cl)
mutual
def evS : Sm → Env → Sto → RS
  | .asg i e, ρ, S => (evE sub c e ρ S).st ρ fun d S1 => .nx (setE ρ i d) S1
  | .asgT ts e, ρ, S => (evE sub c e ρ S).st ρ fun d S1 => match bindT S1 (.tp ts) d ρ with
    | some ρ' => .nx ρ' S1
    | none => .no
  | .par is es, ρ, S => (evEs sub c es ρ S).st ρ fun l S1 => if l.length = is.length then .nx (setAll ρ is l) S1 else .no
  | .aug i o e, ρ, S => match ρ[i]? with
    | some (some x) => (evE sub c e ρ S).st ρ fun y S1 => match o, x, y with
      | .add, .int a, .int b => .nx (setE ρ i (.int (a + b))) S1
      | .sub, .int a, .int b => .nx (setE ρ i (.int (a - b))) S1
      | _, _, _ => .no
    | _ => .no
  | .setI a i e, ρ, S => (evE sub c e ρ S).st ρ fun v S1 => (evE sub c a ρ S1).st ρ fun x S2 => (evE sub c i ρ S2).st ρ fun k S3 => match x, k with
    | .ref n, .int k => match S3[n]? with
      | some (.lst l) => match ixN l.length k with
        | some j => .nx ρ (S3.set n (.lst (l.set j v)))
        | none => .no
      | _ => .no
    | .ref n, k => match S3[n]? with
      | some (.dct kv) => if keyOk k && decide (kv.length < line) then .nx ρ (S3.set n (.dct (dctPut kv k v))) else .no
      | _ => .no
    | _, _ => .no
  | .expr e, ρ, S => (evE sub c e ρ S).st ρ fun _ S1 => .nx ρ S1
  | .ret e, ρ, S => (evE sub c e ρ S).st ρ fun d S1 => .rt d S1
  | .retN, _, S => .rt .non S
  | .ife t a b, ρ, S => (tru (evE sub c t ρ S)).st ρ fun k S1 => if k then evSs a ρ S1 else evSs b ρ S1
  | .whl t b, ρ, S => whileN (fun ρ S => tru (evE sub c t ρ S)) (fun ρ S => evSs b ρ S) wfuel ρ S
  | .fr tg it b, ρ, S => (evI sub c it ρ S).st ρ fun p S1 => forL (fun x ρ S => bindT S tg x ρ) (fun ρ S => evSs b ρ S) p.2 p.1 ρ S1
  | .rais k fs es, ρ, S => (evEs sub c es ρ S).st ρ fun l S1 => if l.length = fs.length then .ex ⟨k, fs.zip l⟩ ρ S1 else .no
  | .try_ b hs, ρ, S => match evSs b ρ S with
    | .ex x ρ1 S1 => hdl sub x ρ1 S1 hs
    | r => r
  | .pass, ρ, S => .nx ρ S
  | .brk, ρ, S => .bk ρ S
  | .cont, ρ, S => .ct ρ S
  | .nev, _, _ => .no
def evSs : Ss → Env → Sto → RS
  | .nil, ρ, S => .nx ρ S
  | .cons s ss, ρ, S => (evS s ρ S).then fun ρ' S' => evSs ss ρ' S'
end
end

/-! ### defs and their calls -/
structure Df where
  name : List Nat
  ps : Nat
  ns : List (List Nat)
  body : Ss
  deriving Inhabited
def startE (d : Df) (ds : List D) : Env := ds.map some ++ List.replicate (d.ns.length - ds.length) none
def runB (sub : Nat → Nat → Bool) (c : Cl) (d : Df) (ds : List D) (S : Sto) : R D :=
  match evSs sub c d.body (startE d ds) S with
  | .rt v S' => .ok v S'
  | .nx _ S' => .ok .non S'
  | .ex x _ S' => .ex x S'
  | _ => .no
/-- a call whose arguments hold no mutable thing starts with an empty store; what it leaves is put behind -/
def reloc (S : Sto) : R D → R D
  | .ok v S1 => if v.free then .ok v S else .ok (v.shift S.length) (S ++ S1.map (O.shift S.length))
  | .ex x S1 => if fsFree x.fs then .ex x S else .ex ⟨x.cls, fsShift S.length x.fs⟩ (S ++ S1.map (O.shift S.length))
  | .no => .no
/-- calls, n deep -/
def run (sub : Nat → Nat → Bool) (T : List Df) : Nat → Cl
  | 0, _, _, _ => .no
  | n + 1, f, ds, S => match T[f]? with
    | none => .no
    | some d => if ds.length = d.ps then (if D.freeL ds then reloc S (runB sub (run sub T n) d ds []) else runB sub (run sub T n) d ds S) else .no
end Eg

namespace Eg
open PySem PySem.Spec PyProof.Rows L2
abbrev SL := L2.St

abbrev cs (s : List Nat) : PySem.Str := ⟨s.toArray⟩

/-! ### how data lies in the abstract heap -/
/-- a list that never changes -/
def FzL (H : Hp) (a : Addr) (xs : List V) : Prop := ∃ o, H a = some (.frz o (.lst xs))
theorem FzL.sq {K : PySem.W.Frag} {H : Hp} {a : Addr} {xs : List V} (h : FzL H a xs) : SqL K H a xs := .inl (.inr h)
/-- keys of a dict: ints and texts -/
def keyR : D → Key → Prop
  | .int i, k => k = .inl i
  | .str s, k => k = .inr (cs s)
  | _, _ => False
theorem keyR_free {d : D} {k : Key} (h : keyR d k) : d.free = true := by cases d <;> first | rfl | exact h.elim
/-- a dict that never changes: its keys, its values -/
def FzD (H : Hp) (a : Addr) (ks : List D) (vs : List V) : Prop := ∃ (o : Obj) (kvs : List (Key × V)), H a = some (.frz o (.dK kvs)) ∧ Paired keyR ks (kvs.map Prod.fst) ∧ kvs.map Prod.snd = vs
mutual
inductive Rp (K : PySem.W.Frag) (α : List (Addr × Bool)) (H : Hp) : D → V → Prop
  | non : Rp K α H .non .non
  | bl (b : Bool) : Rp K α H (.bl b) (.bl b)
  | int (i : Int) : Rp K α H (.int i) (.int i)
  | str (s : List Nat) : Rp K α H (.str s) (.str (cs s))
  | tup {l : List D} {a : Addr} {vs : List V} : SqT K H a vs → RpL K α H l vs → Rp K α H (.tup l) (.ref a)
  | ref {n : Nat} {a : Addr} {m : Bool} : α[n]? = some (a, m) → Rp K α H (.ref n) (.ref a)
  | fl {l : List D} {a : Addr} {vs : List V} : FzL H a vs → RpL K α H l vs → Rp K α H (.fl l) (.ref a)
  | fd {ks ds : List D} {a : Addr} {vs : List V} : FzD H a ks vs → RpL K α H ds vs → Rp K α H (.fd ks ds) (.ref a)
inductive RpL (K : PySem.W.Frag) (α : List (Addr × Bool)) (H : Hp) : List D → List V → Prop
  | nil : RpL K α H [] []
  | cons {d : D} {v : V} {l : List D} {vs : List V} : Rp K α H d v → RpL K α H l vs → RpL K α H (d :: l) (v :: vs)
end
/-- what may change: the things of the store; what is new is new -/
structure Ext (α : List (Addr × Bool)) (H : Hp) (α' : List (Addr × Bool)) (H' : Hp) : Prop where
  pre : ∃ β, α' = α ++ β ∧ ∀ a ∈ β, H a.1 = none
  keep : ∀ a o, H a = some o → (a, true) ∉ α → H' a = some o
  tups : ∀ a xs, H a = some (.tup xs) → H' a = some (.tup xs)
  frzs : ∀ a o u, H a = some (.frz o u) → H' a = some (.frz o u)
  dom : ∀ a o, H a = some o → ∃ o', H' a = some o'
theorem Ext.refl (α : List (Addr × Bool)) (H : Hp) : Ext α H α H :=
  ⟨⟨[], by simp, fun _ h => by simp at h⟩, fun _ _ h _ => h, fun _ _ h => h, fun _ _ _ h => h, fun _ o h => ⟨o, h⟩⟩
theorem Ext.trans {α α1 α2 : List (Addr × Bool)} {H H1 H2 : Hp} (e : Ext α H α1 H1) (f : Ext α1 H1 α2 H2) : Ext α H α2 H2 := by
  obtain ⟨β, rfl, hb⟩ := e.pre
  obtain ⟨γ, rfl, hg⟩ := f.pre
  refine ⟨⟨β ++ γ, by rw [List.append_assoc], fun a ha => ?_⟩, fun a o h n => ?_, fun a xs h => f.tups _ _ (e.tups _ _ h), fun a o u h => f.frzs _ _ _ (e.frzs _ _ _ h), fun a o h => ?_⟩
  · rcases List.mem_append.mp ha with ha | ha
    · exact hb a ha
    · cases q : H a.1 with
      | none => rfl
      | some o =>
        obtain ⟨o', h'⟩ := e.dom a.1 o q
        rw [hg a ha] at h'; cases h'
  · refine f.keep a o (e.keep a o h n) fun hm => ?_
    rcases List.mem_append.mp hm with hm | hm
    · exact n hm
    · have z := hb _ hm; rw [h] at z; cases z
  · obtain ⟨o1, h1⟩ := e.dom a o h
    exact f.dom a o1 h1
theorem SqT.ext {K : PySem.W.Frag} {α α' : List (Addr × Bool)} {H H' : Hp} (e : Ext α H α' H') {a : Addr} {xs : List V} (h : SqT K H a xs) : SqT K H' a xs := by
  rcases h with (h | ⟨o, h⟩) | h
  · exact .inl (.inl (e.tups _ _ h))
  · exact .inl (.inr ⟨o, e.frzs _ _ _ h⟩)
  · exact .inr h
theorem FzL.mono {H H' : Hp} (h2 : ∀ a o u, H a = some (.frz o u) → H' a = some (.frz o u)) {a : Addr} {xs : List V} (h : FzL H a xs) : FzL H' a xs := by
  obtain ⟨o, h⟩ := h
  exact ⟨o, h2 _ _ _ h⟩
theorem FzD.mono {H H' : Hp} (h2 : ∀ a o u, H a = some (.frz o u) → H' a = some (.frz o u)) {a : Addr} {ks : List D} {xs : List V} (h : FzD H a ks xs) : FzD H' a ks xs := by
  obtain ⟨o, kvs, h, k⟩ := h
  exact ⟨o, kvs, h2 _ _ _ h, k⟩
theorem get_pre {α : Type} {l r : List α} {n : Nat} {x : α} (h : l[n]? = some x) : (l ++ r)[n]? = some x := by
  rw [List.getElem?_append_left (List.getElem?_eq_some_iff.mp h).1]; exact h
mutual
theorem Rp.ext {K : PySem.W.Frag} {α α' : List (Addr × Bool)} {H H' : Hp} (e : Ext α H α' H') : ∀ {d : D} {v : V}, Rp K α H d v → Rp K α' H' d v
  | _, _, .non => .non
  | _, _, .bl b => .bl b
  | _, _, .int i => .int i
  | _, _, .str s => .str s
  | _, _, .tup h r => .tup (SqT.ext e h) (RpL.ext e r)
  | _, _, .fl h r => .fl (h.mono e.frzs) (RpL.ext e r)
  | _, _, .fd h r => .fd (h.mono e.frzs) (RpL.ext e r)
  | _, _, .ref (m := m) h => .ref (m := m) (by obtain ⟨β, rfl, _⟩ := e.pre; exact get_pre h)
theorem RpL.ext {K : PySem.W.Frag} {α α' : List (Addr × Bool)} {H H' : Hp} (e : Ext α H α' H') : ∀ {l : List D} {vs : List V}, RpL K α H l vs → RpL K α' H' l vs
  | _, _, .nil => .nil
  | _, _, .cons r t => .cons (Rp.ext e r) (RpL.ext e t)
end
theorem RpL.length {K : PySem.W.Frag} {α : List (Addr × Bool)} {H : Hp} : ∀ {l : List D} {vs : List V}, RpL K α H l vs → l.length = vs.length
  | _, _, .nil => rfl
  | _, _, .cons _ t => congrArg Nat.succ (RpL.length t)
theorem RpL.get {K : PySem.W.Frag} {α : List (Addr × Bool)} {H : Hp} : ∀ {l : List D} {vs : List V} {i : Nat} {d : D}, RpL K α H l vs → l[i]? = some d → ∃ v, vs[i]? = some v ∧ Rp K α H d v
  | _, _, _, _, .nil, e => by simp at e
  | _, _, 0, _, .cons r _, e => by simp at e; subst e; exact ⟨_, rfl, r⟩
  | _, _, i + 1, _, .cons _ t, e => by
    obtain ⟨v, h1, h2⟩ := RpL.get (i := i) t (by simpa using e)
    exact ⟨v, by simpa using h1, h2⟩
theorem RpL.append {K : PySem.W.Frag} {α : List (Addr × Bool)} {H : Hp} : ∀ {l k : List D} {vs ws : List V}, RpL K α H l vs → RpL K α H k ws → RpL K α H (l ++ k) (vs ++ ws)
  | _, _, _, _, .nil, s => s
  | _, _, _, _, .cons r t, s => .cons r (RpL.append t s)
theorem RpL.take {K : PySem.W.Frag} {α : List (Addr × Bool)} {H : Hp} : ∀ {l : List D} {vs : List V} (n : Nat), RpL K α H l vs → RpL K α H (l.take n) (vs.take n)
  | _, _, 0, _ => .nil
  | _, _, _ + 1, .nil => .nil
  | _, _, n + 1, .cons r t => .cons r (RpL.take n t)
theorem RpL.drop {K : PySem.W.Frag} {α : List (Addr × Bool)} {H : Hp} : ∀ {l : List D} {vs : List V} (n : Nat), RpL K α H l vs → RpL K α H (l.drop n) (vs.drop n)
  | _, _, 0, r => r
  | _, _, _ + 1, .nil => .nil
  | _, _, n + 1, .cons _ t => RpL.drop n t
theorem RpL.set {K : PySem.W.Frag} {α : List (Addr × Bool)} {H : Hp} {d : D} {v : V} (r : Rp K α H d v) : ∀ {l : List D} {vs : List V} (i : Nat), RpL K α H l vs → RpL K α H (l.set i d) (vs.set i v)
  | _, _, _, .nil => .nil
  | _, _, 0, .cons _ t => .cons r t
  | _, _, i + 1, .cons q t => .cons q (RpL.set r i t)
theorem RpL.one {K : PySem.W.Frag} {α : List (Addr × Bool)} {H : Hp} {d : D} {v : V} (r : Rp K α H d v) : RpL K α H [d] [v] := .cons r .nil

/-! ### dicts whose keys are tuples of ints, nested -/
mutual
/-- the hash of a key without texts -/
def hash0 : NestedKey → Int
  | .none => reduceHash 0xFCA86420
  | .num i => hashInt i
  | .text _ => 0
  | .tup ks => reduceHash (Builtin.Tuple.tupleHashOf (hashes0 ks))
def hashes0 : List NestedKey → List Int
  | [] => []
  | k :: ks => hash0 k :: hashes0 ks
end
def ent0 (x : NestedKey × Addr × Value) : DictEntry := ⟨hash0 x.1, .ref x.2.1, x.2.2⟩
def toNK : Nat → D → NestedKey
  | _, .int i => .num i
  | n + 1, .tup l => .tup (l.map (toNK n))
  | _, _ => .none
/-- the dict's own object -/
def DN (a : Addr) (xs : List (NestedKey × Addr × Value)) : HO := .ext fun h => xs.length ≤ sizeLine ∧ (a == sysModules) = false ∧ ∃ o es ep, h.get? a = some o ∧ o.ExactDict ∧ o.data = .dict es ep ∧ es.toList = xs.map ent0 ∧ (xs.map (·.1)).Nodup
structure DRel (K : PySem.W.Frag) (α : List (Addr × Bool)) (H : Hp) (p : D × D) (x : NestedKey × Addr × Value) : Prop where
  ok : keyOk p.1 = true
  nk : x.1 = toNK 8 p.1
  key : Rp K α H p.1 (.ref x.2.1)
  val : ∃ v, RelV v x.2.2 ∧ Rp K α H p.2 v
theorem DRel.imp {K : PySem.W.Frag} {α α' : List (Addr × Bool)} {H H' : Hp} (f : ∀ d v, Rp K α H d v → Rp K α' H' d v) {p : D × D} {x : NestedKey × Addr × Value} (h : DRel K α H p x) : DRel K α' H' p x :=
  ⟨h.ok, h.nk, f _ _ h.key, let ⟨v, r, k⟩ := h.val; ⟨v, r, f _ _ k⟩⟩
/-- a list of the written part -/
def KLst (K : PySem.W.Frag) (a : Addr) (xs : List V) : Prop :=
  ∃ (o : Obj) (its : Array Value) (n : Nat), K.lookup a = some o ∧ o.cls = .type "list" ∧ o.dict = none ∧ o.data = .seq its n ∧ its.size ≤ sizeLine ∧ Vals xs its.toList
def OR (K : PySem.W.Frag) (α : List (Addr × Bool)) (H : Hp) (a : Addr) (m : Bool) : O → Prop
  | .lst l => m = true ∧ ∃ vs, H a = some (.lst vs) ∧ RpL K α H l vs
  | .ro l => m = false ∧ ∃ vs, ((∃ o, H a = some (.frz o (.lst vs))) ∨ KLst K a vs) ∧ RpL K α H l vs
  | .dct kv => m = true ∧ ∃ xs, H a = some (DN a xs) ∧ Paired (DRel K α H) kv xs
  | .dead => m = true ∧ ∃ o u, H a = some (.frz o u)
  | .exc _ _ => False
structure StR (K : PySem.W.Frag) (α : List (Addr × Bool)) (H : Hp) (S : Sto) : Prop where
  len : α.length = S.length
  nd : ∀ (i j : Nat) a, α[i]? = some (a, true) → α[j]? = some (a, true) → i = j
  at_ : ∀ (n : Nat) a m o, α[n]? = some (a, m) → S[n]? = some o → OR K α H a m o
structure EnvR (K : PySem.W.Frag) (α : List (Addr × Bool)) (H : Hp) (ρ : Env) (σ : SL) : Prop where
  len : σ.length = ρ.length
  get : ∀ (i : Nat) d, ρ[i]? = some (some d) → ∃ v, σ[i]? = some (some v) ∧ Rp K α H d v
theorem EnvR.ext {K : PySem.W.Frag} {α α' : List (Addr × Bool)} {H H' : Hp} {ρ : Env} {σ : SL} (e : Ext α H α' H') (h : EnvR K α H ρ σ) : EnvR K α' H' ρ σ := ⟨h.len, fun i d hd => by
  obtain ⟨v, h1, h2⟩ := h.get i d hd
  exact ⟨v, h1, h2.ext e⟩⟩
theorem EnvR.set {K : PySem.W.Frag} {α : List (Addr × Bool)} {H : Hp} {ρ : Env} {σ : SL} (h : EnvR K α H ρ σ) (i : Nat) {d : D} {v : V} (r : Rp K α H d v) : EnvR K α H (ρ.set i (some d)) (σ.set i (some v)) := by
  refine ⟨by simp [h.len], fun j e he => ?_⟩
  by_cases c : j = i
  · subst c
    by_cases hl : j < ρ.length
    · rw [List.getElem?_set_self hl] at he
      cases he
      exact ⟨v, List.getElem?_set_self (by rw [h.len]; exact hl), r⟩
    · rw [List.getElem?_eq_none (by simpa using hl)] at he; cases he
  · rw [List.getElem?_set_ne (Ne.symm c)] at he
    rw [List.getElem?_set_ne (Ne.symm c)]
    exact h.get j e he
theorem EnvR.unset {K : PySem.W.Frag} {α : List (Addr × Bool)} {H : Hp} {ρ : Env} {σ : SL} (h : EnvR K α H ρ σ) (i : Nat) : EnvR K α H (ρ.set i none) (σ.set i none) := by
  refine ⟨by simp [h.len], fun j e he => ?_⟩
  by_cases c : j = i
  · subst c
    by_cases hl : j < ρ.length
    · rw [List.getElem?_set_self hl] at he; cases he
    · rw [List.getElem?_eq_none (by simpa using hl)] at he; cases he
  · rw [List.getElem?_set_ne (Ne.symm c)] at he
    rw [List.getElem?_set_ne (Ne.symm c)]
    exact h.get j e he
theorem EnvR.wipe {K : PySem.W.Frag} {α : List (Addr × Bool)} {H : Hp} {ρ : Env} {σ : SL} (h : EnvR K α H ρ σ) : ∀ vs : List Nat, EnvR K α H (wipeE ρ vs) (L2.wipe σ vs)
  | [] => h
  | v :: vs => (EnvR.wipe h vs).unset v
/-- a thing that stands aside is taken into the store -/
theorem Ext.adopt {α α' : List (Addr × Bool)} {H H' : Hp} {p : Addr} {m : Bool} (e : Ext α H α' H') (hp : H p = none) : Ext α H (α' ++ [(p, m)]) H' := by
  obtain ⟨β, rfl, hb⟩ := e.pre
  refine ⟨⟨β ++ [(p, m)], by rw [List.append_assoc], fun a ha => ?_⟩, e.keep, e.tups, e.frzs, e.dom⟩
  rcases List.mem_append.mp ha with ha | ha
  · exact hb a ha
  · rw [List.mem_singleton.mp ha]; exact hp
theorem Paired.imp2 {α β : Type} {F G : α → β → Prop} (f : ∀ a b, F a b → G a b) : ∀ {l : List α} {k : List β}, Paired F l k → Paired G l k
  | _, _, .nil => .nil
  | _, _, .cons r t => .cons (f _ _ r) (Paired.imp2 f t)
theorem OR.ext {K : PySem.W.Frag} {α α' : List (Addr × Bool)} {H H' : Hp} {a : Addr} {m : Bool} {o : O} (e : Ext α H α' H') (ha : ∀ ho, H a = some ho → H' a = some ho) (h : OR K α H a m o) : OR K α' H' a m o := by
  cases o with
  | lst l => obtain ⟨hm, vs, h1, h2⟩ := h; exact ⟨hm, vs, ha _ h1, h2.ext e⟩
  | ro l =>
    obtain ⟨hm, vs, h1, h2⟩ := h
    refine ⟨hm, vs, ?_, h2.ext e⟩
    rcases h1 with ⟨o, h1⟩ | h1
    · exact .inl ⟨o, ha _ h1⟩
    · exact .inr h1
  | dct kv => obtain ⟨hm, kvs, h1, h2⟩ := h; exact ⟨hm, kvs, ha _ h1, Paired.imp2 (fun p q z => z.imp fun d v r => r.ext e) h2⟩
  | dead => obtain ⟨hm, ob, u, h1⟩ := h; exact ⟨hm, ob, u, ha _ h1⟩
  | exc c fs => exact h
mutual
theorem Rp.more {K : PySem.W.Frag} {α β : List (Addr × Bool)} {H : Hp} : ∀ {d : D} {v : V}, Rp K α H d v → Rp K (α ++ β) H d v
  | _, _, .non => .non
  | _, _, .bl b => .bl b
  | _, _, .int i => .int i
  | _, _, .str s => .str s
  | _, _, .tup h r => .tup h (RpL.more r)
  | _, _, .fl h r => .fl h (RpL.more r)
  | _, _, .fd h r => .fd h (RpL.more r)
  | _, _, .ref (m := m) h => .ref (m := m) (get_pre h)
theorem RpL.more {K : PySem.W.Frag} {α β : List (Addr × Bool)} {H : Hp} : ∀ {l : List D} {vs : List V}, RpL K α H l vs → RpL K (α ++ β) H l vs
  | _, _, .nil => .nil
  | _, _, .cons r t => .cons (Rp.more r) (RpL.more t)
end
theorem OR.more {K : PySem.W.Frag} {α β : List (Addr × Bool)} {H : Hp} {a : Addr} {m : Bool} {o : O} (h : OR K α H a m o) : OR K (α ++ β) H a m o := by
  cases o with
  | lst l => obtain ⟨hm, vs, h1, h2⟩ := h; exact ⟨hm, vs, h1, h2.more⟩
  | ro l => obtain ⟨hm, vs, h1, h2⟩ := h; exact ⟨hm, vs, h1, h2.more⟩
  | dct kv => obtain ⟨hm, kvs, h1, h2⟩ := h; exact ⟨hm, kvs, h1, Paired.imp2 (fun p q z => z.imp fun d v r => r.more) h2⟩
  | dead => exact h
  | exc c fs => exact h
/-- a mutable thing is tracked -/
theorem OR.tracked {K : PySem.W.Frag} {α : List (Addr × Bool)} {H : Hp} {a : Addr} {o : O} (h : OR K α H a true o) : H a ≠ none := by
  cases o with
  | lst l => obtain ⟨_, vs, h1, _⟩ := h; rw [h1]; exact fun e => (nomatch e)
  | ro l => exact absurd h.1 (by simp)
  | dct kv => obtain ⟨_, kvs, h1, _⟩ := h; rw [h1]; exact fun e => (nomatch e)
  | dead => obtain ⟨_, ob, u, h1⟩ := h; rw [h1]; exact fun e => (nomatch e)
  | exc c fs => exact h.elim
theorem StR.obj {K : PySem.W.Frag} {α : List (Addr × Bool)} {H : Hp} {S : Sto} (s : StR K α H S) {n : Nat} {a : Addr} {m : Bool} (h : α[n]? = some (a, m)) : ∃ o, S[n]? = some o ∧ OR K α H a m o := by
  have := (List.getElem?_eq_some_iff.mp h).1
  rw [s.len] at this
  exact ⟨S[n], List.getElem?_eq_getElem this, s.at_ n _ _ _ h (List.getElem?_eq_getElem this)⟩
/-- where nothing is tracked nothing mutable stands -/
theorem StR.off {K : PySem.W.Frag} {α : List (Addr × Bool)} {H : Hp} {S : Sto} (s : StR K α H S) {p : Addr} (hp : H p = none) : (p, true) ∉ α := fun hm => by
  obtain ⟨n, hn⟩ := List.getElem?_of_mem hm
  obtain ⟨o, _, h⟩ := s.obj hn
  exact h.tracked hp
/-- a new thing -/
theorem Ext.new {α : List (Addr × Bool)} {H : Hp} {p : Addr} {m : Bool} {ho : HO} (hp : H p = none) : Ext α H (α ++ [(p, m)]) (upd H p ho) := by
  have ne : ∀ {a o}, H a = some o → a ≠ p := fun h e => by rw [e, hp] at h; cases h
  exact ⟨⟨[(p, m)], rfl, fun a ha => by rw [List.mem_singleton.mp ha]; exact hp⟩, fun a o h _ => by rw [upd_ne (ne h)]; exact h, fun a xs h => by rw [upd_ne (ne h)]; exact h, fun a o u h => by rw [upd_ne (ne h)]; exact h,
    fun a o h => ⟨o, by rw [upd_ne (ne h)]; exact h⟩⟩
/-- a new thing that the store does not hold -/
theorem Ext.aside {α : List (Addr × Bool)} {H : Hp} {p : Addr} {ho : HO} (hp : H p = none) : Ext α H α (upd H p ho) := by
  have ne : ∀ {a o}, H a = some o → a ≠ p := fun h e => by rw [e, hp] at h; cases h
  exact ⟨⟨[], by simp, fun a ha => by simp at ha⟩, fun a o h _ => by rw [upd_ne (ne h)]; exact h, fun a xs h => by rw [upd_ne (ne h)]; exact h, fun a o u h => by rw [upd_ne (ne h)]; exact h,
    fun a o h => ⟨o, by rw [upd_ne (ne h)]; exact h⟩⟩
theorem upd_keep {H : Hp} {p a : Addr} {ho o : HO} (hp : H p = none) (h : H a = some o) : upd H p ho a = some o := by
  rw [upd_ne fun e => by rw [e, hp] at h; cases h]; exact h
theorem StR.fresh {K : PySem.W.Frag} {α : List (Addr × Bool)} {H : Hp} {S : Sto} (s : StR K α H S) {p : Addr} {ho : HO} (hp : H p = none) : StR K α (upd H p ho) S :=
  ⟨s.len, s.nd, fun n a m o h1 h2 => (s.at_ n a m o h1 h2).ext (Ext.aside hp) fun _ h => upd_keep hp h⟩
theorem StR.push {K : PySem.W.Frag} {α : List (Addr × Bool)} {H : Hp} {S : Sto} (s : StR K α H S) {p : Addr} {ho : HO} {o : O} {m : Bool} (hp : H p = none) (h : OR K (α ++ [(p, m)]) (upd H p ho) p m o) : StR K (α ++ [(p, m)]) (upd H p ho) (S ++ [o]) := by
  have old : ∀ {n : Nat} {a : Addr × Bool}, (α ++ [(p, m)])[n]? = some a → (n < α.length ∧ α[n]? = some a) ∨ (n = α.length ∧ a = (p, m)) := fun {n a} h1 => by
    by_cases hn : n < α.length
    · rw [List.getElem?_append_left hn] at h1; exact .inl ⟨hn, h1⟩
    · have e : n = α.length := by
        have := (List.getElem?_eq_some_iff.mp h1).1
        simp at this; omega
      subst e
      exact .inr ⟨rfl, by simpa using h1.symm⟩
  have off := s.off hp
  refine ⟨by simp [s.len], fun i j a hi hj => ?_, fun n a k o' h1 h2 => ?_⟩
  · rcases old hi with ⟨li, ai⟩ | ⟨ei, ai⟩
    · rcases old hj with ⟨lj, aj⟩ | ⟨ej, aj⟩
      · exact s.nd i j a ai aj
      · injection aj with aj bj
        subst aj
        exact (off (List.mem_of_getElem? ai)).elim
    · rcases old hj with ⟨lj, aj⟩ | ⟨ej, aj⟩
      · injection ai with ai bi
        subst ai
        exact (off (List.mem_of_getElem? aj)).elim
      · exact ei.trans ej.symm
  · rcases old h1 with ⟨hn, h1⟩ | ⟨rfl, e⟩
    · rw [List.getElem?_append_left (by rw [← s.len]; exact hn)] at h2
      exact (s.at_ n a k o' h1 h2).ext (Ext.new hp) fun _ h => upd_keep hp h
    · injection e with e1 e3
      have e2 : o' = o := by rw [s.len] at h2; simpa using h2.symm
      subst e1 e2 e3
      exact h
theorem StR.adopt {K : PySem.W.Frag} {α : List (Addr × Bool)} {H : Hp} {S : Sto} (s : StR K α H S) {p : Addr} {o : O} (hp : (p, true) ∉ α) (h : OR K (α ++ [(p, true)]) H p true o) : StR K (α ++ [(p, true)]) H (S ++ [o]) := by
  have old : ∀ {n : Nat} {a : Addr × Bool}, (α ++ [(p, true)])[n]? = some a → (n < α.length ∧ α[n]? = some a) ∨ (n = α.length ∧ a = (p, true)) := fun {n a} h1 => by
    by_cases hn : n < α.length
    · rw [List.getElem?_append_left hn] at h1; exact .inl ⟨hn, h1⟩
    · have e : n = α.length := by
        have := (List.getElem?_eq_some_iff.mp h1).1
        simp at this; omega
      subst e
      exact .inr ⟨rfl, by simpa using h1.symm⟩
  have ex : Ext α H (α ++ [(p, true)]) H → True := fun _ => trivial
  refine ⟨by simp [s.len], fun i j a hi hj => ?_, fun n a k o' h1 h2 => ?_⟩
  · rcases old hi with ⟨li, ai⟩ | ⟨ei, ai⟩
    · rcases old hj with ⟨lj, aj⟩ | ⟨ej, aj⟩
      · exact s.nd i j a ai aj
      · injection aj with aj bj
        subst aj
        exact (hp (List.mem_of_getElem? ai)).elim
    · rcases old hj with ⟨lj, aj⟩ | ⟨ej, aj⟩
      · injection ai with ai bi
        subst ai
        exact (hp (List.mem_of_getElem? aj)).elim
      · exact ei.trans ej.symm
  · rcases old h1 with ⟨hn, h1⟩ | ⟨rfl, e⟩
    · rw [List.getElem?_append_left (by rw [← s.len]; exact hn)] at h2
      exact (s.at_ n a k o' h1 h2).more
    · injection e with e1 e3
      have e2 : o' = o := by rw [s.len] at h2; simpa using h2.symm
      subst e1 e2 e3
      exact h
/-- a list or dict is changed -/
theorem Ext.write {α : List (Addr × Bool)} {H : Hp} {n : Nat} {a : Addr} {ho : HO} (ha : α[n]? = some (a, true)) (mu : Mut (H a)) : Ext α H α (upd H a ho) := by
  have hm : (a, true) ∈ α := List.mem_of_getElem? ha
  refine ⟨⟨[], by simp, fun a ha => by simp at ha⟩, fun b o h nb => ?_, fun b xs h => ?_, fun b o u h => ?_, fun b o h => ?_⟩
  · rw [upd_ne (fun e => nb (by rw [e]; exact hm))]; exact h
  · rw [upd_ne fun e => by subst e; rw [h] at mu; exact mu]; exact h
  · rw [upd_ne fun e => by subst e; rw [h] at mu; exact mu]; exact h
  · by_cases e : b = a
    · exact ⟨ho, by rw [e, upd_same]⟩
    · exact ⟨o, by rw [upd_ne e]; exact h⟩
theorem StR.write {K : PySem.W.Frag} {α : List (Addr × Bool)} {H : Hp} {S : Sto} (s : StR K α H S) {n : Nat} {a : Addr} {ho : HO} {o : O} (ha : α[n]? = some (a, true)) (mu : Mut (H a)) (h : OR K α (upd H a ho) a true o) : StR K α (upd H a ho) (S.set n o) := by
  obtain ⟨ob, hs, hob⟩ := s.obj ha
  have hl := (List.getElem?_eq_some_iff.mp hs).1
  refine ⟨by simp [s.len], s.nd, fun m b k o' h1 h2 => ?_⟩
  by_cases e : m = n
  · subst e
    rw [ha] at h1; cases h1
    rw [List.getElem?_set_self hl] at h2; cases h2
    exact h
  · rw [List.getElem?_set_ne (Ne.symm e)] at h2
    have hb := s.at_ m b k o' h1 h2
    by_cases q : b = a
    · subst q
      cases k with
      | true => exact (e (s.nd m n b h1 ha)).elim
      | false =>
        cases o' with
        | ro l =>
          obtain ⟨_, vs, k1, k2⟩ := hb
          refine ⟨rfl, vs, ?_, k2.ext (Ext.write ha mu)⟩
          rcases k1 with ⟨ob, k1⟩ | k1
          · rw [k1] at mu; exact mu.elim
          · exact .inr k1
        | lst l => exact absurd hb.1 (by simp)
        | dct l => exact absurd hb.1 (by simp)
        | dead => exact absurd hb.1 (by simp)
        | exc c l => exact hb.elim
    · exact hb.ext (Ext.write ha mu) fun _ h => by rw [upd_ne q]; exact h

/-! ### what is wanted behind a result -/
/-- how an exception lies: its class, its own dict -/
def ExR (K : PySem.W.Frag) (CA : Nat → Addr) (α : List (Addr × Bool)) (H : Hp) (x : Ex) (cls : Value) (d : Option Addr) : Prop :=
  cls = .ref (CA x.cls) ∧ CA x.cls ≠ 0 ∧ ((x.fs = [] ∧ d = none) ∨ ∃ dd fs, d = some dd ∧ H dd = some (.xd fs) ∧ Paired (fun (p : List Nat × D) (q : PySem.Str × V) => cs p.1 = q.1 ∧ Rp K α H p.2 q.2) x.fs fs)
def Post {β γ : Type} (K : PySem.W.Frag) (CA : Nat → Addr) (rel : List (Addr × Bool) → Hp → β → γ → Prop) (α : List (Addr × Bool)) (H : Hp) (r : R β) (Q : γ → Hp → Prop) (W : XK) : Prop :=
  match r with
  | .ok d S' => ∀ α' H' v, Ext α H α' H' → StR K α' H' S' → rel α' H' d v → Q v H'
  | .ex x S' => ∀ α' H' cls d, Ext α H α' H' → StR K α' H' S' → ExR K CA α' H' x cls d → W cls d H'
  | .no => False
section
variable {β γ β' γ' : Type} {K : PySem.W.Frag} {CA : Nat → Addr} {rel : List (Addr × Bool) → Hp → β → γ → Prop} {rel' : List (Addr × Bool) → Hp → β' → γ' → Prop} {α : List (Addr × Bool)} {H : Hp} {r : R β} {Q Q' : γ → Hp → Prop} {W W' : XK}
theorem Post.imp (h : Post K CA rel α H r Q W) (f : ∀ v H', Q v H' → Q' v H') : Post K CA rel α H r Q' W := by
  cases r with
  | ok d S => exact fun α' H' v e s r => f _ _ (h α' H' v e s r)
  | ex x S => exact h
  | no => exact h
theorem Post.ext {α1 : List (Addr × Bool)} {H1 : Hp} (e : Ext α H α1 H1) (h : Post K CA rel α H r Q W) : Post K CA rel α1 H1 r Q W := by
  cases r with
  | ok d S => exact fun α' H' v e' s r => h α' H' v (e.trans e') s r
  | ex x S => exact fun α' H' c d e' s r => h α' H' c d (e.trans e') s r
  | no => exact h
theorem Post.bind {k : β → Sto → R β'} {Q2 : γ' → Hp → Prop} (h : Post K CA rel' α H (r.bind k) Q2 W) :
    Post K CA rel α H r (fun v H1 => ∃ α1 S1 d, Ext α H α1 H1 ∧ StR K α1 H1 S1 ∧ rel α1 H1 d v ∧ Post K CA rel' α1 H1 (k d S1) Q2 W) W := by
  cases r with
  | ok d S => exact fun α' H' v e s r => ⟨α', S, d, e, s, r, Post.ext e h⟩
  | ex x S => exact h
  | no => exact h
theorem Post.ok {d : β} {S : Sto} {v : γ} (h : Post K CA rel α H (.ok d S) Q W) (s : StR K α H S) (r : rel α H d v) : Q v H := h α H v (Ext.refl _ _) s r
end
theorem R.bind_assoc {α β γ : Type} (r : R α) (f : α → Sto → R β) (g : β → Sto → R γ) : (r.bind f).bind g = r.bind fun a S => (f a S).bind g := by cases r <;> rfl
end Eg

namespace Eg
open PySem PySem.Spec PyProof.Rows L2
/-! ### tuple * int, few times; list * int, locked -/
section
variable (tl : Addr) (xs : Array Value) (cn : Nat) (dc : Option Addr) (ss : Array (Option Value)) (k : Int) (tk : Tok)
theorem mulT_same (h0 : (decide (k < -(2 ^ 63)) || decide (k ≥ 2 ^ 63)) = false) (h1 : (xs.isEmpty || k == 1) = true) :
    Meets (Builtin.«tuple.__mul__» ⟨[.ref tl, .int k tk], []⟩) (fun _ R s => s.heap.get? tl = some ⟨.type "tuple", dc, .seq xs cn, ss⟩ ∧ R (.ok (.ret (.ref tl))) s) :=
  .of_wp fun prog w A R st q => by
    obtain ⟨hp, g, d, tk, os⟩ := st
    obtain ⟨ho, q⟩ := q
    have fi := AutoSeq1.idx_int
    wp_walk using wpAny_loadPart' ho
    repeat (first
      | (refine wpAny_ite_false (decide_eq_false (by rw [h0]; simp)) ?_; wp_walk using wpAny_loadPart' ho)
      | (refine wpAny_ite_true (decide_eq_true h1) ?_; wp_walk using wpAny_loadPart' ho))
    exact ⟨_, rfl, q⟩
theorem mulT_none (h0 : (decide (k < -(2 ^ 63)) || decide (k ≥ 2 ^ 63)) = false) (h1 : (xs.isEmpty || k == 1) = false) (h2 : (decide (k ≤ 0) || xs.isEmpty) = true) :
    Meets (Builtin.«tuple.__mul__» ⟨[.ref tl, .int k tk], []⟩) (fun _ R s => s.heap.get? tl = some ⟨.type "tuple", dc, .seq xs cn, ss⟩ ∧
      R (.ok (.ret (.ref s.heap.objs.size))) { s with heap := s.heap.push { cls := .type "tuple", data := .seq #[] } }) :=
  .of_wp fun prog w A R st q => by
    obtain ⟨hp, g, d, tk, os⟩ := st
    obtain ⟨ho, q⟩ := q
    have fi := AutoSeq1.idx_int
    have hz : (#[] : Array Value).size ≤ sizeLine := Nat.zero_le _
    wp_walk using wpAny_loadPart' ho
    repeat (first
      | (refine wpAny_ite_false (decide_eq_false (by rw [h0]; simp)) ?_; wp_walk using wpAny_loadPart' ho)
      | (refine wpAny_ite_false (decide_eq_false (by rw [h1]; simp)) ?_; wp_walk using wpAny_loadPart' ho)
      | (refine wpAny_ite_true (decide_eq_true h2) ?_; wp_walk using wpAny_loadPart' ho)
      | (refine wpAny_ite_false (decide_eq_false (Nat.not_lt.mpr hz)) ?_; wp_walk using wpAny_loadPart' ho))
    exact ⟨_, rfl, q⟩
end
section
variable {X : Cx}
theorem tup_obj {pins : List (Addr × Obj)} {st : Shared} {σ : L2.St} {H : Hp} {tl : Addr} {xs : List V} (I : Inv X pins σ H st) (ht : SqT X.K H tl xs) :
    ∃ (cn : Nat) (dc : Option Addr) (ss : Array (Option Value)) (its : List Value), Vals xs its ∧ st.heap.get? tl = some ⟨.type "tuple", dc, .seq its.toArray cn, ss⟩ := by
  obtain ⟨its, r, ⟨⟨cls, dc, dat, ss⟩, e, ec, cn, ed⟩, _⟩ := I.tuple ht
  simp only at ec ed
  subst ec ed
  exact ⟨cn, dc, ss, its, r, e⟩
theorem vals_empty {xs : List V} {its : List Value} (r : Vals xs its) : its.toArray.isEmpty = xs.isEmpty := by cases r <;> rfl
theorem op_mulT1 : OpR X (binaryOp .Mult) (fun x y H Q => ∃ tl k xs, x = .ref tl ∧ y = .int k ∧ SqT X.K H tl xs ∧ -1000 ≤ k ∧ k ≤ 1000 ∧ (xs = [] ∨ k = 1) ∧ Q (.ref tl) H) := by
  intro pins st σ H x y v u Q I rx ry h
  obtain ⟨tl, k, xs, rfl, rfl, ht, b0, b1, hk, q⟩ := h
  cases rx
  obtain ⟨tk, rfl⟩ := ry
  obtain ⟨cn, dc, ss, its, r, e⟩ := tup_obj I ht
  have h0 : (decide (k < -(2 ^ 63)) || decide (k ≥ 2 ^ 63)) = false := by simp; omega
  have h1 : (its.toArray.isEmpty || k == 1) = true := by
    rw [vals_empty r]
    rcases hk with rfl | rfl <;> simp
  refine wpAny_binaryOp_repeat_ref (T := "tuple") (U := "int") (by decide) ⟨_, e, rfl⟩ (fun s' => typeIs_int s' k tk) noFill_tuple_mul F.fills_int_mul F.slot_int_rmul repeat_tuple F.slot_int_index.lookup ?_
  refine call_meets F.slot_int_rmul (typeIs_int st k tk) F.entry_int_rmul (F.args_int_rmul_2 _ _) (int_rmul_tuple k tk tl its.toArray cn dc ss) ⟨e, rfl, ⟨_, e, rfl⟩, ?_⟩
  exact call_meets F.slot_tuple_mul ⟨_, e, rfl⟩ F.entry_tuple_mul (F.args_tuple_mul_2 _ _) (mulT_same tl its.toArray cn dc ss k tk h0 h1) ⟨e, .ref tl, H, I, rfl, q⟩
theorem op_mulT0 : OpR X (binaryOp .Mult) (fun x y H Q => ∃ tl k xs, x = .ref tl ∧ y = .int k ∧ SqT X.K H tl xs ∧ -1000 ≤ k ∧ k ≤ 0 ∧ xs ≠ [] ∧ ∀ p, H p = none → Q (.ref p) (upd H p (.tup []))) := by
  intro pins st σ H x y v u Q I rx ry h
  obtain ⟨tl, k, xs, rfl, rfl, ht, b0, b1, hx, q⟩ := h
  cases rx
  obtain ⟨tk, rfl⟩ := ry
  obtain ⟨cn, dc, ss, its, r, e⟩ := tup_obj I ht
  have h0 : (decide (k < -(2 ^ 63)) || decide (k ≥ 2 ^ 63)) = false := by simp; omega
  have hne : its.toArray.isEmpty = false := by
    rw [vals_empty r]
    cases xs with
    | nil => exact absurd rfl hx
    | cons _ _ => rfl
  have h1 : (its.toArray.isEmpty || k == 1) = false := by
    rw [hne, Bool.false_or]
    exact beq_eq_false_iff_ne.mpr (by omega)
  have h2 : (decide (k ≤ 0) || its.toArray.isEmpty) = true := by simp [b1]
  refine wpAny_binaryOp_repeat_ref (T := "tuple") (U := "int") (by decide) ⟨_, e, rfl⟩ (fun s' => typeIs_int s' k tk) noFill_tuple_mul F.fills_int_mul F.slot_int_rmul repeat_tuple F.slot_int_index.lookup ?_
  refine call_meets F.slot_int_rmul (typeIs_int st k tk) F.entry_int_rmul (F.args_int_rmul_2 _ _) (int_rmul_tuple k tk tl its.toArray cn dc ss) ⟨e, rfl, ⟨_, e, rfl⟩, ?_⟩
  refine call_meets F.slot_tuple_mul ⟨_, e, rfl⟩ F.entry_tuple_mul (F.args_tuple_mul_2 _ _) (mulT_none tl its.toArray cn dc ss k tk h0 h1 h2) ⟨e, ?_⟩
  refine ⟨.ref st.heap.objs.size, _, I.laid (t' := st.toks) (o := .tup []) (fun b ob z => Heap.get?_push_of_some _ z) (Nat.le_refl _) ?_, rfl, q _ (I.hok.fresh (Nat.le_refl _))⟩
  exact ⟨Nat.zero_le _, [], .nil, IsTup.new _ _⟩
/-- list * int, locked or not -/
def rRepL : R2 := fun x y H Q => ∃ l k xs, x = .ref l ∧ y = .int k ∧ Rd H l (.lst xs) ∧ -(2 ^ 63) ≤ k ∧ k < 2 ^ 63 ∧ xs.length * k.toNat ≤ sizeLine ∧
  ∀ p, H p = none → Q (.ref p) (upd H p (.lst (List.replicate k.toNat xs).flatten))
theorem op_repL : OpR X (binaryOp .Mult) rRepL := by
  intro pins st σ H x y v u Q I rx ry h
  obtain ⟨tl, k, xs, rfl, rfl, hr, b0, b1, hz, q⟩ := h
  cases rx
  obtain ⟨tk, rfl⟩ := ry
  obtain ⟨z, its, cn, r, e⟩ := hr.ok I.hok
  have hl := r.length
  have g1 : its.toArray.size * k.toNat ≤ sizeLine := by rw [List.size_toArray, ← hl]; exact hz
  have g2 : ¬ its.toArray.size * k.toNat > (2 ^ 63 - 1) / 8 := fun c => by
    have : (sizeLine : Nat) ≤ (2 ^ 63 - 1) / 8 := by decide
    omega
  have g3 : ¬ (!Builtin.List.listFitsIndex k) = true := fun c => by rw [fitsIndex_both b0 b1] at c; cases c
  have g4 : ¬ Builtin.List.listTooLong (its.toArray.size * k.toNat) = true := fun c => by rw [notLongL g1] at c; cases c
  have g5 : List.foldl (fun x1 x2 => x1 ++ x2) #[] (List.replicate (if its.toArray.isEmpty = true then 0 else k.toNat) its.toArray) = (List.replicate k.toNat its).flatten.toArray := by
    have f0 : ∀ m : Nat, List.foldl (fun x1 x2 => x1 ++ x2) #[] (List.replicate m its.toArray) = (List.replicate m its).flatten.toArray := fun m => by simpa using foldl_rep its m []
    rw [f0]
    cases its with
    | nil => simp
    | cons a r' => simp
  refine wpAny_binaryOp_repeat_ref (T := "list") (U := "int") (by decide) ⟨_, e, rfl⟩ (fun s' => typeIs_int s' k tk) noFill_list_mul F.fills_int_mul F.slot_int_rmul repeat_list F.slot_int_index.lookup ?_
  refine call_meets F.slot_int_rmul (typeIs_int st k tk) F.entry_int_rmul (F.args_int_rmul_2 _ _) (int___rmul___int_list k tk tl its.toArray cn) ⟨e, rfl, ⟨_, e, rfl⟩, ?_⟩
  refine call_meets F.slot_list_mul ⟨_, e, rfl⟩ F.entry_list_mul (F.args_list_mul_2 _ _) (AutoListH.list___mul___list_int_3 tl its.toArray cn k tk g3 g2 g4) ⟨e, ?_⟩
  rw [g5]
  exact ⟨.ref _, _, I.lnew (t' := st.toks) (r.rep k.toNat) (by rw [PyProof.Rows.lm_len_rep_flat, Nat.mul_comm]; exact hz), rfl, q _ I.fresh⟩
end
end Eg

namespace Eg
open PySem PySem.Spec PyProof.Rows L2
/-! ### dicts whose keys are nested tuples of ints -/
mutual
def noTx : NestedKey → Bool
  | .text _ => false
  | .tup ks => noTxs ks
  | _ => true
def noTxs : List NestedKey → Bool
  | [] => true
  | k :: ks => noTx k && noTxs ks
end
mutual
theorem hash0_eq (w : World) : ∀ k : NestedKey, noTx k = true → k.hash w = hash0 k
  | .none, _ => by simp [NestedKey.hash, hash0]
  | .num i, _ => by simp [NestedKey.hash, hash0]
  | .text _, h => by simp [noTx] at h
  | .tup ks, h => by simp only [NestedKey.hash, hash0]; rw [hashes0_eq w ks (by simpa [noTx] using h)]
theorem hashes0_eq (w : World) : ∀ ks : List NestedKey, noTxs ks = true → NestedKey.hashes w ks = hashes0 ks
  | [], _ => by simp [NestedKey.hashes, hashes0]
  | k :: ks, h => by
    simp only [noTxs, Bool.and_eq_true] at h
    simp only [NestedKey.hashes, hashes0]; rw [hash0_eq w k h.1, hashes0_eq w ks h.2]
end
theorem toNK_no : ∀ (n : Nat) (d : D), noTx (toNK n d) = true
  | 0, d => by cases d <;> rfl
  | n + 1, d => by
    cases d with
    | tup l =>
      simp only [toNK, noTx]
      induction l with
      | nil => rfl
      | cons a l ih => simp only [List.map_cons, noTxs, toNK_no n a, ih, Bool.and_self]
    | _ => rfl
theorem toNK_depth : ∀ (n : Nat) (d : D), (toNK n d).depth ≤ n
  | 0, d => by cases d <;> simp [toNK, NestedKey.depth]
  | n + 1, d => by
    cases d with
    | tup l =>
      simp only [toNK, NestedKey.depth]
      have : NestedKey.depthAll (l.map (toNK n)) ≤ n := by
        induction l with
        | nil => simp [NestedKey.depthAll]
        | cons a l ih =>
          have := toNK_depth n a
          simp only [List.map_cons, NestedKey.depthAll]; omega
      omega
    | _ => simp [toNK, NestedKey.depth]
theorem toNK_inj : ∀ (n : Nat) (a b : D), nkD n a = true → nkD n b = true → toNK n a = toNK n b → a = b
  | 0, a, b, ha, hb, h => by cases a <;> cases b <;> simp_all [nkD, toNK]
  | n + 1, a, b, ha, hb, h => by
    cases a with
    | int i => cases b <;> simp_all [nkD, toNK]
    | tup l =>
      cases b with
      | tup k =>
        simp only [toNK, NestedKey.tup.injEq] at h
        simp only [nkD] at ha hb
        congr 1
        revert k
        induction l with
        | nil => intro k hb h; cases k <;> simp_all
        | cons x l ih =>
          intro k hb h
          cases k with
          | nil => simp at h
          | cons y k =>
            simp only [List.all_cons, Bool.and_eq_true] at ha hb
            simp only [List.map_cons, List.cons.injEq] at h
            rw [toNK_inj n x y ha.1 hb.1 h.1, ih ha.2 k hb.2 h.2]
      | _ => simp_all [nkD, toNK]
    | _ => simp [nkD] at ha
theorem keyOk_nk {d : D} (h : keyOk d = true) : nkD 8 d = true := by
  cases d with
  | tup l => exact h
  | _ => cases h
theorem nkD_free : ∀ (n : Nat) (d : D), nkD n d = true → d.free = true
  | 0, d, h => by cases d <;> simp_all [nkD, D.free]
  | n + 1, d, h => by
    cases d with
    | tup l =>
      simp only [nkD] at h
      simp only [D.free]
      induction l with
      | nil => rfl
      | cons a l ih =>
        simp only [List.all_cons, Bool.and_eq_true] at h
        simp only [D.freeL, nkD_free n a h.1, ih h.2, Bool.and_self]
    | _ => simp_all [nkD, D.free]
section
variable {X : Cx} {pins : List (Addr × Obj)} {s : Shared} {σ : SL} {H : Hp} {α : List (Addr × Bool)}
theorem nk_is (I : L2.Inv X pins σ H s) : ∀ (n : Nat) (d : D) (v : V) (u : Value), nkD n d = true → Rp X.K α H d v → RelV v u → NestedIs s.heap (toNK n d) u
  | 0, d, v, u, h, r, rv => by
    cases r with
    | int i =>
      obtain ⟨t, rfl⟩ := rv
      exact .int i t
    | _ => simp [nkD] at h
  | n + 1, d, v, u, h, r, rv => by
    have all : ∀ (l : List D) (vs : List V) (us : List Value), l.all (nkD n) = true → RpL X.K α H l vs → Vals vs us → NestedAll s.heap (l.map (toNK n)) us := by
      intro l
      induction l with
      | nil =>
        intro vs us _ r rv
        cases r
        cases rv
        exact .nil
      | cons d l ih =>
        intro vs us h r rv
        simp only [List.all_cons, Bool.and_eq_true] at h
        cases r with
        | cons r t =>
          cases rv with
          | cons rv tv => exact .cons (nk_is I n d _ _ h.1 r rv) (ih _ _ h.2 t tv)
    cases r with
    | int i =>
      obtain ⟨t, rfl⟩ := rv
      exact .int i t
    | @tup l a vs ht rl =>
      cases rv
      obtain ⟨its, r, ⟨ob, e, ec, cn, ed⟩, _⟩ := I.tuple ht
      simp only [toNK]
      exact .tup e ec ed (by simpa using all l vs its (by simpa [nkD] using h) rl r)
    | _ => simp [nkD] at h
theorem nk_key (I : L2.Inv X pins σ H s) {d : D} {q : Addr} (h : keyOk d = true) (r : Rp X.K α H d (.ref q)) : (nestedKind X.prog X.w).is s.heap (toNK 8 d) q :=
  ⟨nk_is I 8 d _ _ (keyOk_nk h) r rfl, toNK_depth 8 d⟩
theorem ents_eq {kv : List (D × D)} {xs : List (NestedKey × Addr × Value)} (pr : Paired (DRel X.K α H) kv xs) : xs.map ent0 = xs.map (entryOfKey (nestedKind X.prog X.w)) := by
  induction pr with
  | nil => rfl
  | @cons p x ps qs r t ih =>
    simp only [List.map_cons, ih]
    congr 1
    unfold ent0 entryOfKey
    have : hash0 x.1 = NestedKey.hash X.w x.1 := (hash0_eq X.w x.1 (by rw [r.nk]; exact toNK_no 8 _)).symm
    rw [this]; rfl
theorem keys_is (I : L2.Inv X pins σ H s) {kv : List (D × D)} {xs : List (NestedKey × Addr × Value)} (pr : Paired (DRel X.K α H) kv xs) : ∀ x ∈ xs, (nestedKind X.prog X.w).is s.heap x.1 x.2.1 := by
  induction pr with
  | nil => intro x hx; simp at hx
  | cons r t ih =>
    intro x hx
    rcases List.mem_cons.mp hx with rfl | hx
    · rw [r.nk]; exact nk_key I r.ok r.key
    · exact ih x hx
theorem dn_of (I : L2.Inv X pins σ H s) {a : Addr} {kv : List (D × D)} {xs : List (NestedKey × Addr × Value)} (h : H a = some (DN a xs)) (pr : Paired (DRel X.K α H) kv xs) : xs.length ≤ sizeLine ∧ (a == sysModules) = false ∧ s.heap.DictOfH (nestedKind X.prog X.w) a xs := by
  obtain ⟨⟨z, y, o, es, ep, h1, h2, h3, h4, h5⟩, _, _⟩ := (show ObjOk X.prog X.w H s.heap a (DN a xs) from I.hok a _ h)
  exact ⟨z, y, o, es, ep, h1, h2, h3, by rw [h4, ents_eq pr], keys_is I pr, h5⟩
/-- what the dict holds at a key -/
theorem atKey_cons {K : Type} [DecidableEq K] (x : K × Addr × Value) (xs : List (K × Addr × Value)) (k : K) : atKey (x :: xs) k = if x.1 = k then some x.2 else atKey xs k := by
  unfold atKey
  rw [List.find?_cons]
  by_cases h : x.1 = k <;> simp [h]
theorem get_rel {K : PySem.W.Frag} {kv : List (D × D)} {xs : List (NestedKey × Addr × Value)} {k : D} (hk : keyOk k = true) (pr : Paired (DRel K α H) kv xs) :
    (∃ d p v, dctGet kv k = some d ∧ atKey xs (toNK 8 k) = some p ∧ RelV v p.2 ∧ Rp K α H d v) ∨ (dctGet kv k = none ∧ atKey xs (toNK 8 k) = none) := by
  induction pr with
  | nil => exact .inr ⟨rfl, rfl⟩
  | @cons p x ps qs r t ih =>
    simp only [dctGet, atKey_cons]
    by_cases e : p.1 = k
    · have e' : x.1 = toNK 8 k := by rw [r.nk, e]
      obtain ⟨v, h1, h2⟩ := r.val
      exact .inl ⟨p.2, x.2, v, by rw [if_pos e], by rw [if_pos e'], h1, h2⟩
    · have e' : ¬ x.1 = toNK 8 k := fun z => e (toNK_inj 8 _ _ (keyOk_nk r.ok) (keyOk_nk hk) (by rw [← r.nk]; exact z))
      rw [if_neg e, if_neg e']
      exact ih
theorem put_rel {K : PySem.W.Frag} {kv : List (D × D)} {xs : List (NestedKey × Addr × Value)} {k d : D} {q : Addr} {u : Value} {v : V} (hk : keyOk k = true) (pr : Paired (DRel K α H) kv xs) (rk : Rp K α H k (.ref q)) (rv : RelV v u) (rd : Rp K α H d v) :
    Paired (DRel K α H) (dctPut kv k d) (storedH xs (toNK 8 k) q u) := by
  have go : ∀ {kv : List (D × D)} {xs : List (NestedKey × Addr × Value)}, Paired (DRel K α H) kv xs → Paired (DRel K α H) (kv.map fun p => if p.1 = k then (p.1, d) else p) (xs.map (putAt (toNK 8 k) u)) := by
    intro kv xs pr
    induction pr with
    | nil => exact .nil
    | @cons p x ps qs r t ih =>
      simp only [List.map_cons]
      refine .cons ?_ ih
      by_cases e : p.1 = k
      · have e' : x.1 = toNK 8 k := by rw [r.nk, e]
        unfold putAt
        rw [if_pos e, if_pos e']
        exact ⟨r.ok, r.nk, r.key, v, rv, rd⟩
      · have e' : ¬ x.1 = toNK 8 k := fun z => e (toNK_inj 8 _ _ (keyOk_nk r.ok) (keyOk_nk hk) (by rw [← r.nk]; exact z))
        unfold putAt
        rw [if_neg e, if_neg e']
        exact r
  unfold dctPut storedH
  rcases get_rel hk pr with ⟨d', p, v', h1, h2, _⟩ | ⟨h1, h2⟩
  · rw [h1, h2]
    exact go pr
  · rw [h1, h2]
    have app : ∀ {kv : List (D × D)} {xs : List (NestedKey × Addr × Value)}, Paired (DRel K α H) kv xs → Paired (DRel K α H) (kv ++ [(k, d)]) (xs ++ [(toNK 8 k, q, u)]) := by
      intro kv xs pr
      induction pr with
      | nil => exact .cons ⟨hk, rfl, rk, v, rv, rd⟩ .nil
      | cons r t ih => exact .cons r ih
    exact app pr
/-! rules -/
def rIxN (K : PySem.W.Frag) : R2 := fun x y H Q => ∃ (a q : Addr) (α : List (Addr × Bool)) (kv : List (D × D)) (xs : List (NestedKey × Addr × Value)) (k d : D), x = .ref a ∧ y = .ref q ∧ H a = some (DN a xs) ∧ Paired (DRel K α H) kv xs ∧ keyOk k = true ∧ Rp K α H k (.ref q) ∧ dctGet kv k = some d ∧ ∀ v, Rp K α H d v → Q v H
theorem ix_dn (hu : X.A.units + 65 < cLine) : IxR X (rIxN X.K) := by
  intro value slice pins s σ H x y v u Q I rx ry h hs
  obtain ⟨a, q, α, kv, xs, k, d, rfl, rfl, hH, pr, hk, rk, hg, hq⟩ := h
  cases rx
  cases ry
  obtain ⟨z, hd, dd⟩ := dn_of I hH pr
  rcases get_rel hk pr with ⟨d', p, v, h1, h2, h3, h4⟩ | ⟨h1, _⟩
  · rw [hg] at h1
    cases h1
    refine subscriptTail_builtinR (x := p.2) dd.typeIs slot_dict_getitem.lookup ?_ hs
    refine wpAny_getItem_heap (Q := fun r s' => r = p.2 ∧ EP X pins σ Q r s') (show X.A.in1.units + 8 < cLine by show X.A.units + 1 + 8 < cLine; omega) (nk_key I hk rk) dd h2 ⟨rfl, ?_⟩
    exact ⟨v, H, I.tok _, h3, hq v h4⟩
  · rw [hg] at h1; cases h1
def rInN (K : PySem.W.Frag) (f : Bool → Bool) : R2 := fun x y H Q => ∃ (a q : Addr) (α : List (Addr × Bool)) (kv : List (D × D)) (xs : List (NestedKey × Addr × Value)) (k : D), x = .ref q ∧ y = .ref a ∧ H a = some (DN a xs) ∧ Paired (DRel K α H) kv xs ∧ keyOk k = true ∧ Rp K α H k (.ref q) ∧ Q (.bl (f (dctGet kv k).isSome)) H
theorem get_some {K : PySem.W.Frag} {kv : List (D × D)} {xs : List (NestedKey × Addr × Value)} {k : D} (hk : keyOk k = true) (pr : Paired (DRel K α H) kv xs) : (atKey xs (toNK 8 k)).isSome = (dctGet kv k).isSome := by
  rcases get_rel hk pr with ⟨d', p, v, h1, h2, _⟩ | ⟨h1, h2⟩ <;> rw [h1, h2] <;> rfl
theorem op_inN (hu : X.A.units + 65 < cLine) : OpR X (compareOp .In) (rInN X.K fun b => b) := by
  intro pins s σ H x y v u Q I rx ry h
  obtain ⟨a, q, α, kv, xs, k, rfl, rfl, hH, pr, hk, rk, hq⟩ := h
  cases rx
  cases ry
  obtain ⟨z, hd, dd⟩ := dn_of I hH pr
  refine wpAny_in_heap (show X.A.in1.units + 8 < cLine by show X.A.units + 1 + 8 < cLine; omega) (nk_key I hk rk) hd dd ?_
  rw [get_some hk pr]
  exact ⟨.bl _, H, I.tok _, rfl, hq⟩
theorem op_notInN (hu : X.A.units + 65 < cLine) : OpR X (compareOp .NotIn) (rInN X.K fun b => !b) := by
  intro pins s σ H x y v u Q I rx ry h
  obtain ⟨a, q, α, kv, xs, k, rfl, rfl, hH, pr, hk, rk, hq⟩ := h
  cases rx
  cases ry
  obtain ⟨z, hd, dd⟩ := dn_of I hH pr
  refine wpAny_notIn_heap (show X.A.in1.units + 8 < cLine by show X.A.units + 1 + 8 < cLine; omega) (nk_key I hk rk) hd dd ?_
  rw [get_some hk pr]
  exact ⟨.bl _, H, I.tok _, rfl, hq⟩
theorem dn_ok {P : Program} {w : World} {H : Hp} {h : Heap} {a : Addr} {xs : List (NestedKey × Addr × Value)} (z : xs.length ≤ sizeLine) (y : (a == sysModules) = false) (e : ∃ o es ep, h.get? a = some o ∧ o.ExactDict ∧ o.data = .dict es ep ∧ es.toList = xs.map ent0 ∧ (xs.map (·.1)).Nodup) : ObjOk P w H h a (DN a xs) := by
  obtain ⟨o, es, ep, h1, h2, h3, h4, h5⟩ := e
  exact ⟨⟨z, y, o, es, ep, h1, h2, h3, h4, h5⟩, ⟨o, h1⟩, fun k1 k2 ⟨z, y, o, es, ep, h1, h2⟩ hk => ⟨z, y, o, es, ep, hk _ h1, h2⟩⟩
def rSetN (K : PySem.W.Frag) : TSet := fun o i v H Q => ∃ (a q : Addr) (α : List (Addr × Bool)) (kv : List (D × D)) (xs : List (NestedKey × Addr × Value)) (k d : D), o = .ref a ∧ i = .ref q ∧ H a = some (DN a xs) ∧ Paired (DRel K α H) kv xs ∧ keyOk k = true ∧ Rp K α H k (.ref q) ∧ Rp K α H d v ∧ xs.length < sizeLine ∧
  ∀ ys, Paired (DRel K α H) (dctPut kv k d) ys → Q (upd H a (DN a ys))
theorem set_dn (hu : X.A.units + 65 < cLine) : PSet X (rSetN X.K) := by
  intro pins s σ H o i v ov iv u Q I ro ri rv h
  obtain ⟨a, q, α, kv, xs, k, d, rfl, rfl, hH, pr, hk, rk, rd, hz, hq⟩ := h
  cases ro
  cases ri
  obtain ⟨z, hd, dd⟩ := dn_of I hH pr
  refine wpAny_setItem_heap (hsz := z) (show X.A.in1.units + 8 < cLine by show X.A.units + 1 + 8 < cLine; omega) (nk_key I hk rk) dd fun h' dd' hs => ?_
  have pr' := put_rel hk pr rk rv rd
  obtain ⟨ob, es, ep, h1, h2, h3, h4, _, h5⟩ := dd'
  have hl : (storedH xs (toNK 8 k) q u).length ≤ sizeLine := by
    unfold storedH
    split
    · rw [List.length_map]; omega
    · simp; omega
  refine ⟨upd H a (DN a (storedH xs (toNK 8 k) q u)), I.write (x := a) (e := a) (t' := s.toks + _) (by rw [hH]; exact True.intro) (.inl rfl) (fun b ob hb e => (hs.2 b hb).trans e) ⟨ob, h1⟩ (dn_ok hl hd ⟨ob, es, ep, h1, h2, h3, by rw [h4, ents_eq pr'], h5⟩), hq _ pr'⟩
/-- {} -/
def tDNew : TE := fun _ H Q => ∀ p, H p = none → Q (.ref p) (upd H p (DN p []))
theorem pe_dn {pos : Pos} : PE X (.Dict [] [] pos) tDNew := ⟨fun pins s σ H Q I h =>
  wpAny_Dict_empty ⟨.ref s.heap.objs.size, _, I.laid (a := s.heap.objs.size) (o := DN s.heap.objs.size []) (t' := s.toks) (fun _ _ q => Heap.get?_push_of_some _ q) (Nat.le_refl _)
    (dn_ok (Nat.zero_le _) (beq_eq_false_iff_ne.mpr (Ne.symm (Nat.ne_of_lt I.big))) ⟨_, #[], 0, Heap.get?_push_size _ rfl, ⟨rfl, rfl, rfl⟩, rfl, rfl, List.nodup_nil⟩), rfl, h _ (I.hok.fresh (Nat.le_refl _))⟩⟩
/-! the walk over its keys, the dict locked -/
def Itn (d : Addr) (o : Obj) (xs : List (NestedKey × Addr × Value)) : It :=
  ⟨fun i H => H d = some (.frz o (DN d xs)) ∧ i < xs.length, fun i H x H' => H' = H ∧ ∃ y, xs[i]? = some y ∧ x = .ref y.2.1, fun i H => H d = some (.frz o (DN d xs)) ∧ xs.length ≤ i⟩
theorem frzN (I : L2.Inv X pins σ H s) {d : Addr} {o : Obj} {xs : List (NestedKey × Addr × Value)} (h : H d = some (.frz o (DN d xs))) :
    (d == sysModules) = false ∧ s.heap.get? d = some o ∧ o.ExactDict ∧ ∃ (es : Array DictEntry) (ep : Nat), o.data = .dict es ep ∧ es.size = xs.length ∧ ∀ (i : Nat) (y : NestedKey × Addr × Value), xs[i]? = some y → ∃ en : DictEntry, es[i]? = some en ∧ en.key = .ref y.2.1 := by
  obtain ⟨hd, ⟨z, y, o', es, ep, h1, h2, h3, h4, h5⟩, _, _⟩ := (show ObjOk X.prog X.w H s.heap d (.frz o (DN d xs)) from I.hok d _ h)
  rw [hd] at h1
  cases h1
  refine ⟨y, hd, h2, es, ep, h3, ?_, fun i y e => ?_⟩
  · have := congrArg List.length h4
    simpa using this
  · refine ⟨ent0 y, ?_, rfl⟩
    rw [← Array.getElem?_toList, h4, List.getElem?_map, e]; rfl
end
section
variable {P : Program} {w : World} {K : PySem.W.Frag} {tg : Expr} {d : Addr} {o : Obj} {es : Array DictEntry} {ep : Nat}
theorem turn_keysN {xs : List (NestedKey × Addr × Value)} (it : Addr) (hod : o.data = .dict es ep) : Turn P w K tg (Itn d o xs) [it] it (fun i h => h.IsKeyIter it d i xs.length ep) where
  mem := by simp
  obj := fun i h st b hb => by
    have e : b = it := by simpa using hb
    subst e
    obtain ⟨oi, e, c, dd⟩ := st
    exact ⟨oi, e, fun v z => by rw [dd] at z; cases z⟩
  keep := fun i h h' st k => st.at fun oi e => k it (by simp) oi e
  item := by
    intro X hP hw hK hc i pins s σ H E I hf st hg
    subst hP hw hK
    obtain ⟨hd, hi⟩ := hg
    obtain ⟨f0, f1, f2, f3, f4, f5⟩ := hf it (by simp)
    obtain ⟨hs, hgd, hx, es', ep', hdt, hsz, ent⟩ := frzN I hd
    obtain ⟨rfl, rfl⟩ := dict_ep hod hdt
    have hy : xs[i]? = some xs[i] := List.getElem?_eq_getElem hi
    obtain ⟨en, hen, hkey⟩ := ent i _ hy
    refine next_key_item st hgd hdt hsz hen fun h' st' sb => ?_
    have I1 : L2.Inv X pins σ H { s with heap := h' } := I.turned (t' := s.toks) (fun b ob hb e => (sb.2 b hb).trans e) f0 f1 f3 f4 f5
    obtain ⟨oi, e, c, dd⟩ := id st'
    rw [hkey]
    refine ⟨_, rfl, go_of (s := { s with heap := h' }) e c dd (by decide) ⟨.ref xs[i].2.1, H, I1, rfl, ⟨rfl, xs[i], hy, rfl⟩, ?_, fun b hb => (hf b hb).1⟩⟩
    exact st'
  done := by
    intro X hP hw hK hc i pins s σ H E I hf st hg
    subst hP hw hK
    obtain ⟨hd, hi⟩ := hg
    obtain ⟨f0, f1, f2, f3, f4, f5⟩ := hf it (by simp)
    obtain ⟨hs, hgd, hx, es', ep', hdt, hsz, ent⟩ := frzN I hd
    obtain ⟨rfl, rfl⟩ := dict_ep hod hdt
    exact next_key_end (I.ok.hd hc) st hgd hdt hsz hi fun h' eb => ⟨rfl, I.turned (t' := s.toks) (fun b ob hb e => eb b ob hb e) f0 f1 f3 f4 f5⟩
  self := fun A i s Q E st h => wpAny_pyIter_keyiter st h
end
def iKeysN (td : TE) : TI := fun σ H R => td σ H fun x H1 => ∃ d o xs, x = .ref d ∧ H1 d = some (.frz o (DN d xs)) ∧ R (Itn d o xs) H1
theorem pi_keysN {X : Cx} {tg e : Expr} {td : TE} (he : PE X e td) : PI X tg e (iKeysN td) := by
  refine ⟨fun pins s σ H R I h => ?_⟩
  refine thn (he.run pins s σ H _ I h) fun u s1 ⟨x, H1, I1, rx, d, o, xs, ex, hd, q⟩ => ?_
  subst ex
  obtain rfl : u = Value.ref d := rx
  obtain ⟨hs, hgd, hx, es, ep, hdt, hsz, ent⟩ := frzN I1 hd
  refine iter_keys hs hgd hx hdt (pi_one (tk := s1.toks) I1 _ (turn_keysN _ hdt) ⟨_, Heap.get?_push_size _ rfl, rfl, ?_⟩ q)
  rw [hsz] <;> rfl
end Eg

namespace Eg
open PySem PySem.Spec PyProof.Rows L2

theorem line_eq : line = sizeLine := by rw [sizeLine_eq]; rfl
theorem cs_length (s : List Nat) : (cs s).length = s.length := rfl
theorem cs_append (a b : List Nat) : cs a ++ cs b = cs (a ++ b) := by
  show PySem.Str.append _ _ = _
  unfold PySem.Str.append
  simp [cs]
theorem cs_inj {a b : List Nat} : cs a = cs b ↔ a = b := by
  constructor
  · intro h
    have := congrArg (fun x : PySem.Str => x.cps.toList) h
    simpa [cs] using this
  · intro h; rw [h]
theorem cs_toList (a : List Nat) : (cs a).cps.toList = a := rfl

/-- a new thing is locked for good -/
def frzQ (Q : VK) : VK := fun v H1 => ∃ d u, v = .ref d ∧ H1 d = some u ∧ Mut (some u) ∧ ∀ od, Q v (upd H1 d (.frz od u))
theorem EP.frz {X : Cx} {pins : List (Addr × Obj)} {σ : L2.St} {Q : VK} {v : Value} {s : Shared} (h : EP X pins σ (frzQ Q) v s) : EP X pins σ Q v s := by
  obtain ⟨x, H1, I, r, d, u, e, hd, mu, q⟩ := h
  obtain ⟨od, I1⟩ := I.lock hd mu
  exact ⟨x, _, I1, r, q od⟩
theorem OpR.frz {X : Cx} {f : Value → Value → Sem Value} {r : R2} (h : OpR X f r) : OpR X f (fun x y H Q => r x y H (frzQ Q)) :=
  fun pins s σ H x y v u Q I rx ry q => thn (h pins s σ H x y v u _ I rx ry q) fun _ _ => EP.frz
theorem CallR.frz {X : Cx} {f : Value} {r : List V → Hp → VK → Prop} (h : CallR X f r) : CallR X f (fun xs H Q => r xs H (frzQ Q)) :=
  fun pins s σ H xs us Q I rs q => thn (h pins s σ H xs us _ I rs q) fun _ _ => EP.frz
theorem SlR.frz {X : Cx} {r : V → Option Int → Option Int → Hp → VK → Prop} (h : SlR X r) : SlR X (fun x lo hi H Q => r x lo hi H (frzQ Q)) := by
  intro pins s σ H x v vl vu lo hi sl Q I rx hs pl pu q
  obtain ⟨T, id, h1, h2, h3⟩ := h pins s σ H x v vl vu lo hi sl _ I rx hs pl pu q
  exact ⟨T, id, h1, h2, thn h3 fun _ _ => EP.frz⟩
theorem pe_frz {X : Cx} {e : Expr} {t : TE} (h : PE X e t) : PE X e (fun σ H Q => t σ H (frzQ Q)) :=
  ⟨fun pins s σ H Q I q => thn (h.run pins s σ H _ I q) fun _ _ => EP.frz⟩

/-- a two-place rule serves an operation of the engine -/
def OpS (K : PySem.W.Frag) (CA : Nat → Addr) (r : R2) (f : D → D → Sto → R D) : Prop :=
  ∀ (α : List (Addr × Bool)) (H : Hp) (S : Sto) (d e : D) (x y : V) (Q : VK) (W : XK), StR K α H S → Rp K α H d x → Rp K α H e y → Post K CA (Rp K) α H (f d e S) Q W → r x y H Q

section
variable {X : Cx} {CA : Nat → Addr}

theorem StR.lst {K : PySem.W.Frag} {α : List (Addr × Bool)} {H : Hp} {S : Sto} (s : StR K α H S) {n : Nat} {a : Addr} {m : Bool} {l : List D} (h : S[n]? = some (.lst l)) (ha : α[n]? = some (a, m)) : m = true ∧ ∃ vs, H a = some (.lst vs) ∧ RpL K α H l vs := s.at_ n a _ _ ha h
/-- a list that may be read -/
theorem StR.rd {K : PySem.W.Frag} {α : List (Addr × Bool)} {H : Hp} {S : Sto} (s : StR K α H S) {n : Nat} {a : Addr} {m : Bool} {l : List D} (h : lstOf S n = some l) (ha : α[n]? = some (a, m)) : ∃ vs, SqL K H a vs ∧ RpL K α H l vs := by
  unfold lstOf at h
  split at h
  · rename_i m e
    cases h
    obtain ⟨_, vs, h1, h2⟩ := s.at_ n a _ _ ha e
    exact ⟨vs, SqL.of h1, h2⟩
  · rename_i m e
    cases h
    obtain ⟨_, vs, h1, h2⟩ := s.at_ n a _ _ ha e
    refine ⟨vs, ?_, h2⟩
    rcases h1 with ⟨o, h1⟩ | h1
    · exact .inl (.inr ⟨o, h1⟩)
    · exact .inr h1
  · cases h
theorem Post.newL {α : List (Addr × Bool)} {H : Hp} {S : Sto} {l : List D} {vs : List V} {Q : VK} {W : XK} {K : PySem.W.Frag} (s : StR K α H S) (r : RpL K α H l vs) (h : Post K CA (Rp K) α H (.ok (.ref S.length) (S ++ [.lst l])) Q W) :
    ∀ p, H p = none → Q (.ref p) (upd H p (.lst vs)) := fun p hp => by
  refine h (α ++ [(p, true)]) _ _ (Ext.new hp) (s.push hp ⟨rfl, vs, upd_same, r.ext (Ext.new hp)⟩) (.ref (m := true) ?_)
  rw [← s.len]; simp
theorem Post.newF {α : List (Addr × Bool)} {H : Hp} {S : Sto} {l : List D} {vs : List V} {Q : VK} {W : XK} {K : PySem.W.Frag} (s : StR K α H S) (r : RpL K α H l vs) (h : Post K CA (Rp K) α H (.ok (.fl l) S) Q W) :
    ∀ p, H p = none → frzQ Q (.ref p) (upd H p (.lst vs)) := fun p hp =>
  ⟨p, _, rfl, upd_same, trivial, fun od => by
    rw [upd_upd]
    exact h α _ _ (Ext.aside hp) (s.fresh hp) (.fl ⟨od, upd_same⟩ (r.ext (Ext.aside hp)))⟩
theorem Post.newT {α : List (Addr × Bool)} {H : Hp} {S : Sto} {l : List D} {vs : List V} {Q : VK} {W : XK} {K : PySem.W.Frag} (s : StR K α H S) (r : RpL K α H l vs) (h : Post K CA (Rp K) α H (.ok (.tup l) S) Q W) :
    ∀ p, H p = none → Q (.ref p) (upd H p (.tup vs)) := fun p hp =>
  h α _ _ (Ext.aside hp) (s.fresh hp) (.tup (SqT.of upd_same) (r.ext (Ext.aside hp)))
theorem RpL.nil_iff {K : PySem.W.Frag} {α : List (Addr × Bool)} {H : Hp} {l : List D} {vs : List V} (r : RpL K α H l vs) : l = [] ↔ vs = [] := by
  cases r <;> simp
theorem RpL.rep {K : PySem.W.Frag} {α : List (Addr × Bool)} {H : Hp} {l : List D} {vs : List V} (r : RpL K α H l vs) : ∀ n : Nat, RpL K α H (List.replicate n l).flatten (List.replicate n vs).flatten
  | 0 => by simpa using RpL.nil
  | n + 1 => by
    rw [List.replicate_succ, List.replicate_succ, List.flatten_cons, List.flatten_cons]
    exact r.append (r.rep n)

def opOf : BOp → Operator
  | .add => .Add | .sub => .Sub | .mul => .Mult | .fdiv => .FloorDiv | .mod => .Mod | .pow => .Pow | .shl => .LShift | .shr => .RShift | .band => .BitAnd
/-- list + list, locked or not -/
def rCatL : R2 := fun x y H Q => ∃ l b xs zs, x = .ref l ∧ y = .ref b ∧ Rd H l (.lst xs) ∧ Rd H b (.lst zs) ∧ xs.length + zs.length ≤ sizeLine ∧ ∀ p, H p = none → Q (.ref p) (upd H p (.lst (xs ++ zs)))
theorem op_catL : OpR X (binaryOp .Add) rCatL := by
  intro pins s σ H x y v u Q I rx ry h
  obtain ⟨l, b, xs, zs, rfl, rfl, hH, hB, hz, q⟩ := h
  cases rx
  cases ry
  obtain ⟨z, its, n, r, e⟩ := hH.ok I.hok
  obtain ⟨z2, its2, n2, r2, e2⟩ := hB.ok I.hok
  have hl := r.length
  have hl2 := r2.length
  refine PySem.P.add_list e e2 ?_ (by rw [List.size_toArray, List.size_toArray]; omega)
  have ea : its.toArray ++ its2.toArray = (its ++ its2).toArray := by simp
  rw [ea]
  exact ⟨.ref _, _, I.lnew (t' := s.toks) (r.append r2) (by rw [List.length_append]; omega), rfl, q _ I.fresh⟩
theorem ops_add : OpS X.K CA (fun x y H Q => ((rI0 fun i j => V.int (i + j)) x y H Q ∨ (∃ i j, x = .str i ∧ y = .str j ∧ i.length + j.length ≤ sizeLine ∧ Q (.str (i ++ j)) H)) ∨ (rCatA X.K x y H Q ∨ (rCat x y H Q ∨ rCatL x y H (frzQ Q)))) (binD .add) := by
  intro α H S d e x y Q W s rd re h
  cases rd with
  | int i =>
    cases re with
    | int j => exact .inl (.inl ⟨i, j, rfl, rfl, h.ok s (.int _)⟩)
    | _ => exact h.elim
  | str a =>
    cases re with
    | str b =>
      simp only [binD] at h
      split at h
      · rename_i c
        refine .inl (.inr ⟨_, _, rfl, rfl, by rw [← line_eq]; exact c, ?_⟩)
        rw [cs_append]; exact h.ok s (.str _)
      · exact h.elim
    | _ => exact h.elim
  | @tup l a vs hl rl =>
    cases re with
    | @tup m b ws hm rm =>
      simp only [binD] at h
      split at h
      · rename_i c
        refine .inr (.inl ⟨a, b, vs, ws, rfl, rfl, hl, hm, by rw [← line_eq, ← rl.length, ← rm.length]; exact c, fun e0 => ?_, fun e0 e1 => ?_, fun _ _ => h.newT s (rl.append rm)⟩)
        · have : l = [] := rl.nil_iff.mpr e0
          subst this
          exact h.ok s (.tup hm rm)
        · have : m = [] := rm.nil_iff.mpr e1
          subst this
          rw [List.append_nil] at h
          exact h.ok s (.tup hl rl)
      · exact h.elim
    | _ => exact h.elim
  | @ref n a ma ha =>
    cases re with
    | @ref m b mb hb =>
      simp only [binD] at h
      split at h
      · rename_i l k e1 e2
        obtain ⟨_, vs, h1, r1⟩ := s.lst e1 ha
        obtain ⟨_, ws, h2, r2⟩ := s.lst e2 hb
        split at h
        · rename_i c
          exact .inr (.inr (.inl ⟨a, b, vs, ws, rfl, rfl, h1, h2, by rw [← line_eq, ← r1.length, ← r2.length]; exact c, h.newL s (r1.append r2)⟩))
        · exact h.elim
      · exact h.elim
    | _ => exact h.elim
  | @fl l a vs hl rl =>
    cases re with
    | @fl m b ws hm rm =>
      simp only [binD] at h
      split at h
      · rename_i c
        exact .inr (.inr (.inr ⟨a, b, vs, ws, rfl, rfl, .inr hl, .inr hm, by rw [← line_eq, ← rl.length, ← rm.length]; exact c, h.newF s (rl.append rm)⟩))
      · exact h.elim
    | _ => exact h.elim
  | _ => cases re <;> exact h.elim
theorem ops_sub : OpS X.K CA (rI0 fun i j => V.int (i - j)) (binD .sub) := by
  intro α H S d e x y Q W s rd re h
  cases rd <;> cases re <;> first | exact ⟨_, _, rfl, rfl, h.ok s (.int _)⟩ | exact h.elim
/-- tuple * int: the same, an empty one, a new one -/
def rMulT (K : PySem.W.Frag) : R2 := fun x y H Q => (∃ tl k xs, x = .ref tl ∧ y = .int k ∧ SqT K H tl xs ∧ -1000 ≤ k ∧ k ≤ 1000 ∧ (xs = [] ∨ k = 1) ∧ Q (.ref tl) H) ∨
  ((∃ tl k xs, x = .ref tl ∧ y = .int k ∧ SqT K H tl xs ∧ -1000 ≤ k ∧ k ≤ 0 ∧ xs ≠ [] ∧ ∀ p, H p = none → Q (.ref p) (upd H p (.tup []))) ∨ rRepT K x y H Q)
theorem ops_mul : OpS X.K CA (fun x y H Q => ((rI CMul fun i j => V.int (i * j)) x y H Q ∨ (rI CMulW fun i j => V.int (i * j)) x y H Q) ∨ (rMulT X.K x y H Q ∨ (rRep x y H Q ∨ rRepL x y H (frzQ Q)))) (binD .mul) := by
  intro α H S d e x y Q W s rd re h
  cases rd with
  | int i =>
    cases re with
    | int j =>
      simp only [binD] at h
      split at h
      · rename_i c
        simp only [mulOk, Bool.or_eq_true, decide_eq_true_eq] at c
        rcases c with (c | c) | c
        · exact .inl (.inl ⟨i, j, rfl, rfl, .inl (by omega), h.ok s (.int _)⟩)
        · exact .inl (.inl ⟨i, j, rfl, rfl, .inr (by omega), h.ok s (.int _)⟩)
        · exact .inl (.inr ⟨i, j, rfl, rfl, c, h.ok s (.int _)⟩)
      · exact h.elim
    | _ => exact h.elim
  | @tup l a vs hl rl =>
    cases re with
    | int j =>
      simp only [binD] at h
      split at h
      · rename_i c
        simp only [Bool.and_eq_true, decide_eq_true_eq] at c
        obtain ⟨⟨c1, c2⟩, c3⟩ := c
        refine .inr (.inl ?_)
        by_cases e1 : l = [] ∨ j = 1
        · refine .inl ⟨a, j, vs, rfl, rfl, hl, c1, c2, e1.imp rl.nil_iff.mp id, ?_⟩
          have : (List.replicate j.toNat l).flatten = l := by
            rcases e1 with rfl | rfl
            · simp
            · simp
          rw [this] at h
          exact h.ok s (.tup hl rl)
        · have e2 : l ≠ [] := fun z => e1 (.inl z)
          by_cases e3 : j ≤ 0
          · have z : j.toNat = 0 := by omega
            rw [z] at h
            exact .inr (.inl ⟨a, j, vs, rfl, rfl, hl, c1, e3, fun z => e2 (rl.nil_iff.mpr z), h.newT s .nil⟩)
          · have e4 : j ≠ 1 := fun z => e1 (.inr z)
            exact .inr (.inr ⟨a, j, vs, rfl, rfl, hl, fun z => e2 (rl.nil_iff.mpr z), by omega, c2, by rw [← rl.length]; exact c3, h.newT s (rl.rep _)⟩)
      · exact h.elim
    | _ => exact h.elim
  | @ref n a ma ha =>
    cases re with
    | int j =>
      simp only [binD] at h
      split at h
      · rename_i l e1
        obtain ⟨_, vs, h1, r1⟩ := s.lst e1 ha
        split at h
        · rename_i c
          simp only [i64, Bool.and_eq_true, decide_eq_true_eq] at c
          obtain ⟨⟨c1, c2⟩, c3⟩ := c
          exact .inr (.inr (.inl ⟨a, j, vs, rfl, rfl, h1, c1, c2, by rw [← line_eq, ← r1.length]; exact c3, h.newL s (r1.rep _)⟩))
        · exact h.elim
      · exact h.elim
    | _ => exact h.elim
  | @fl l a vs hl rl =>
    cases re with
    | int j =>
      simp only [binD] at h
      split at h
      · rename_i c
        simp only [i64, Bool.and_eq_true, decide_eq_true_eq] at c
        obtain ⟨⟨c1, c2⟩, c3⟩ := c
        exact .inr (.inr (.inr ⟨a, j, vs, rfl, rfl, .inr hl, c1, c2, by rw [← line_eq, ← rl.length]; exact c3, h.newF s (rl.rep _)⟩))
      · exact h.elim
    | _ => exact h.elim
  | _ => cases re <;> exact h.elim
theorem ops_fdiv : OpS X.K CA (fun x y H Q => (rI CDivN fun i j => V.int (i.fdiv j)) x y H Q ∨ (rI CDivW fun i j => V.int (i / j)) x y H Q) (binD .fdiv) := by
  intro α H S d e x y Q W s rd re h
  cases rd <;> cases re <;> try exact h.elim
  rename_i i j
  simp only [binD] at h
  split at h
  · rename_i c
    simp only [Bool.and_eq_true, decide_eq_true_eq] at c
    exact .inl ⟨_, _, rfl, rfl, c, h.ok s (.int _)⟩
  · split at h
    · rename_i c
      simp only [Bool.and_eq_true, decide_eq_true_eq] at c
      exact .inr ⟨_, _, rfl, rfl, c, h.ok s (.int _)⟩
    · exact h.elim
theorem ops_mod : OpS X.K CA (rI (fun _ j => j ≠ 0) fun i j => V.int (i.fmod j)) (binD .mod) := by
  intro α H S d e x y Q W s rd re h
  cases rd <;> cases re <;> try exact h.elim
  simp only [binD] at h
  split at h
  · exact ⟨_, _, rfl, rfl, by assumption, h.ok s (.int _)⟩
  · exact h.elim
theorem ops_pow : OpS X.K CA (rI CPow fun i j => V.int (i ^ j.toNat)) (binD .pow) := by
  intro α H S d e x y Q W s rd re h
  cases rd <;> cases re <;> try exact h.elim
  simp only [binD] at h
  split at h
  · rename_i c
    simp only [Bool.and_eq_true, decide_eq_true_eq] at c
    exact ⟨_, _, rfl, rfl, ⟨c.1.1, c.1.2, c.2⟩, h.ok s (.int _)⟩
  · exact h.elim
theorem ops_shl : OpS X.K CA (rI CPow fun i j => V.int (i * 2 ^ j.toNat)) (binD .shl) := by
  intro α H S d e x y Q W s rd re h
  cases rd <;> cases re <;> try exact h.elim
  simp only [binD] at h
  split at h
  · rename_i c
    simp only [Bool.and_eq_true, decide_eq_true_eq] at c
    exact ⟨_, _, rfl, rfl, ⟨c.1.1, c.1.2, c.2⟩, h.ok s (.int _)⟩
  · exact h.elim
theorem ops_shr : OpS X.K CA (rI (fun _ j => 0 ≤ j) fun i j => V.int (i / 2 ^ j.toNat)) (binD .shr) := by
  intro α H S d e x y Q W s rd re h
  cases rd <;> cases re <;> try exact h.elim
  simp only [binD, decide_eq_true_eq] at h
  split at h
  · exact ⟨_, _, rfl, rfl, by assumption, h.ok s (.int _)⟩
  · exact h.elim
/-- each operator has its rule -/
theorem op_bin (o : BOp) : ∃ r, OpR X (binaryOp (opOf o)) r ∧ OpS X.K CA r (binD o) := by
  cases o with
  | add => exact ⟨_, (op_add.or op_add_str).or (op_catA.or (op_cat.or (OpR.frz op_catL))), ops_add⟩
  | sub => exact ⟨_, op_sub, ops_sub⟩
  | mul => exact ⟨_, (op_mul.or op_mulW).or ((op_mulT1.or (op_mulT0.or op_repT)).or (op_rep.or (OpR.frz op_repL))), ops_mul⟩
  | fdiv => exact ⟨_, op_fdivN.or op_fdivW, ops_fdiv⟩
  | mod => exact ⟨_, op_modN, ops_mod⟩
  | pow => exact ⟨_, op_pow, ops_pow⟩
  | shl => exact ⟨_, op_shl, ops_shl⟩
  | shr => exact ⟨_, op_shr, ops_shr⟩
  | band =>
    refine ⟨_, op_and, ?_⟩
    intro α H S d e x y Q W s rd re h
    cases rd <;> cases re <;> exact h.elim
end
end Eg

namespace Eg
open PySem PySem.Spec PyProof.Rows L2

/-! ### == of data -/
def toPy : Nat → Sto → D → PyData
  | 0, _, _ => .none
  | n + 1, S, d => match d with
    | .non => .none
    | .bl b => .bool b
    | .int i => .int i
    | .str s => .str (cs s)
    | .tup l => .tuple (l.map (toPy n S))
    | .ref k => match lstOf S k with
      | some l => .list (l.map (toPy n S))
      | none => .none
    | .fl l => .list (l.map (toPy n S))
    | .fd _ _ => .none
theorem depthAll_le {n : Nat} : ∀ {l : List PyData}, (∀ d ∈ l, d.depth ≤ n) → PyData.depthAll l ≤ n
  | [], _ => Nat.zero_le _
  | d :: l, h => by
    have h1 := h d (by simp)
    have h2 := depthAll_le (l := l) fun e he => h e (by simp [he])
    simp only [PyData.depthAll]; omega
theorem canAll {l : List PyData} : (∀ d ∈ l, d.canLay0 = true) → PyData.canLayAll0 l = true := by
  induction l with
  | nil => intro _; rfl
  | cons d l ih =>
    intro h
    simp only [PyData.canLayAll0, h d (by simp), ih fun e he => h e (by simp [he]), Bool.and_self]
theorem toPy_depth (S : Sto) : ∀ (n : Nat) (d : D), (toPy n S d).depth ≤ n
  | 0, _ => Nat.le_refl _
  | n + 1, d => by
    have ih : ∀ l : List D, PyData.depthAll (l.map (toPy n S)) ≤ n := fun l => depthAll_le fun e he => by
      obtain ⟨x, _, rfl⟩ := List.mem_map.mp he
      exact toPy_depth S n x
    cases d with
    | tup l => have := ih l; simp only [toPy, PyData.depth]; omega
    | fl l => have := ih l; simp only [toPy, PyData.depth]; omega
    | ref k =>
      simp only [toPy]
      split
      · rename_i l _; have := ih l; simp only [PyData.depth]; omega
      · simp [PyData.depth]
    | _ => simp [toPy, PyData.depth]
theorem toPy_can (S : Sto) : ∀ (n : Nat) (d : D), plain n S d = true → (toPy n S d).canLay0 = true
  | 0, _, h => by cases h
  | n + 1, d, h => by
    have ih : ∀ l : List D, l.all (plain n S) = true → PyData.canLayAll0 (l.map (toPy n S)) = true := fun l hl => canAll fun e he => by
      obtain ⟨x, hx, rfl⟩ := List.mem_map.mp he
      exact toPy_can S n x (List.all_eq_true.mp hl x hx)
    cases d with
    | tup l => simp only [toPy, PyData.canLay0]; exact ih l h
    | fl l => simp only [toPy, PyData.canLay0]; exact ih l h
    | ref k =>
      simp only [plain] at h
      split at h
      · rename_i l e
        have : toPy (n + 1) S (.ref k) = .list (l.map (toPy n S)) := by simp only [toPy, e]
        rw [this]; simp only [PyData.canLay0]; exact ih l h
      · cases h
    | str s =>
      simp only [toPy, PyData.canLay0]
      simp only [plain, strOk] at h
      simpa [PyData.strOk, cs] using h
    | _ => simp [toPy, PyData.canLay0]
mutual
theorem dp_of {K : PySem.W.Frag} {α : List (Addr × Bool)} {H : Hp} {S : Sto} (s : StR K α H S) : ∀ (n : Nat) {d : D} {v : V}, plain n S d = true → Rp K α H d v → Dp K H v (toPy n S d)
  | 0, _, _, h, _ => by cases h
  | n + 1, _, _, _, .non => .non
  | n + 1, _, _, _, .bl b => .bl b
  | n + 1, _, _, _, .int i => .int i
  | n + 1, _, _, _, .str x => .str _
  | n + 1, _, _, h, .tup hl r => .tup hl (dpAll_of s n h r)
  | n + 1, _, _, h, .fl hl r => .lst hl.sq (dpAll_of s n h r)
  | n + 1, _, _, h, .fd hl r => by cases h
  | n + 1, .ref k, .ref a, h, .ref ha => by
    simp only [plain] at h
    split at h
    · rename_i l e
      obtain ⟨vs, h1, h2⟩ := s.rd e ha
      have : toPy (n + 1) S (.ref k) = .list (l.map (toPy n S)) := by simp only [toPy, e]
      rw [this]
      exact .lst h1 (dpAll_of s n h h2)
    · cases h
theorem dpAll_of {K : PySem.W.Frag} {α : List (Addr × Bool)} {H : Hp} {S : Sto} (s : StR K α H S) : ∀ (n : Nat) {l : List D} {vs : List V}, l.all (plain n S) = true → RpL K α H l vs → DpAll K H vs (l.map (toPy n S))
  | _, _, _, _, .nil => .nil
  | n, _, _, h, .cons r t => by
    simp only [List.all_cons, Bool.and_eq_true] at h
    exact .cons (dp_of s n h.1 r) (dpAll_of s n h.2 t)
end
theorem all2_py {f : D → D → Bool} {g : D → PyData} : ∀ {l k : List D}, (∀ a ∈ l, ∀ b ∈ k, f a b = PyData.eqv (g a) (g b)) → all2 f l k = PyData.eqvAll (l.map g) (k.map g)
  | [], [], _ => by simp [all2, PyData.eqvAll]
  | [], _ :: _, _ => by simp [all2, PyData.eqvAll]
  | _ :: _, [], _ => by simp [all2, PyData.eqvAll]
  | a :: l, b :: k, h => by
    simp only [all2, List.map_cons, PyData.eqvAll]
    rw [h a (by simp) b (by simp), all2_py fun x hx y hy => h x (by simp [hx]) y (by simp [hy])]
theorem cs_beq (a b : List Nat) : (cs a == cs b) = (a == b) := by
  by_cases h : a = b
  · subst h; simp
  · have : cs a ≠ cs b := fun e => h (cs_inj.mp e)
    rw [beq_eq_false_iff_ne.mpr this, beq_eq_false_iff_ne.mpr h]
theorem eqv_py (S : Sto) : ∀ (n : Nat) (a b : D), plain n S a = true → plain n S b = true → eqv n S a b = PyData.eqv (toPy n S a) (toPy n S b)
  | 0, _, _, h, _ => by cases h
  | n + 1, a, b, ha, hb => by
    have ih : ∀ l k : List D, l.all (plain n S) = true → k.all (plain n S) = true → all2 (eqv n S) l k = PyData.eqvAll (l.map (toPy n S)) (k.map (toPy n S)) := fun l k hl hk =>
      all2_py fun x hx y hy => eqv_py S n x y (List.all_eq_true.mp hl x hx) (List.all_eq_true.mp hk y hy)
    have rf : ∀ (d : D) (l : List D), seqD S d = some l → plain (n + 1) S d = true → l.all (plain n S) = true ∧ toPy (n + 1) S d = .list (l.map (toPy n S)) := fun d l e h => by
      cases d with
      | ref k =>
        simp only [seqD] at e
        simp only [plain, e] at h
        exact ⟨h, by simp only [toPy, e]⟩
      | fl k =>
        simp only [seqD, Option.some.injEq] at e
        subst e
        exact ⟨h, rfl⟩
      | _ => cases e
    have rn : ∀ (d : D), seqD S d = none → plain (n + 1) S d = true → ∀ l, toPy (n + 1) S d ≠ .list l := fun d e h l => by
      cases d with
      | ref k =>
        simp only [seqD] at e
        simp only [plain, e] at h
        cases h
      | fl k => cases e
      | fd _ _ => cases h
      | _ => simp [toPy]
    have lists : ∀ (a b : D), plain (n + 1) S a = true → plain (n + 1) S b = true → (seqD S a).isSome = true ∨ (seqD S b).isSome = true → (match seqD S a, seqD S b with | some a, some b => all2 (eqv n S) a b | _, _ => false) = PyData.eqv (toPy (n + 1) S a) (toPy (n + 1) S b) := fun a b ha hb hs => by
      cases ea : seqD S a with
      | some l =>
        obtain ⟨p1, q1⟩ := rf a l ea ha
        cases eb : seqD S b with
        | some k =>
          obtain ⟨p2, q2⟩ := rf b k eb hb
          rw [q1, q2]
          simp only [PyData.eqv]
          exact ih l k p1 p2
        | none =>
          have := rn b eb hb
          rw [q1]
          revert this
          generalize toPy (n + 1) S b = z
          intro this
          cases z <;> first | rfl | exact absurd rfl (this _) | simp [PyData.eqv]
      | none =>
        cases eb : seqD S b with
        | some k =>
          obtain ⟨p2, q2⟩ := rf b k eb hb
          have := rn a ea ha
          rw [q2]
          revert this
          generalize toPy (n + 1) S a = z
          intro this
          cases z <;> first | rfl | exact absurd rfl (this _) | simp [PyData.eqv]
        | none => rw [ea, eb] at hs; simp at hs
    cases a with
    | ref i =>
      have z : (seqD S (.ref i)).isSome = true := by
        simp only [plain] at ha
        simp only [seqD]
        cases e : lstOf S i with
        | none => rw [e] at ha; cases ha
        | some l => rfl
      have := lists (.ref i) b ha hb (.inl z)
      cases b <;> exact this
    | fl i =>
      have := lists (.fl i) b ha hb (.inl rfl)
      cases b <;> exact this
    | fd _ _ => cases ha
    | tup l =>
      cases b with
      | tup k => simp only [eqv, toPy, PyData.eqv]; exact ih l k ha hb
      | ref j =>
        have z : (seqD S (.ref j)).isSome = true := by
          simp only [plain] at hb
          simp only [seqD]
          cases e : lstOf S j with
          | none => rw [e] at hb; cases hb
          | some l => rfl
        exact lists (.tup l) (.ref j) ha hb (.inr z)
      | fl j => exact lists (.tup l) (.fl j) ha hb (.inr rfl)
      | fd _ _ => cases hb
      | _ => simp [eqv, toPy, PyData.eqv, seqD]
    | str x =>
      cases b with
      | str y => simp only [eqv, toPy, PyData.eqv]; exact (cs_beq x y).symm
      | ref j =>
        have z : (seqD S (.ref j)).isSome = true := by
          simp only [plain] at hb
          simp only [seqD]
          cases e : lstOf S j with
          | none => rw [e] at hb; cases hb
          | some l => rfl
        exact lists (.str x) (.ref j) ha hb (.inr z)
      | fl j => exact lists (.str x) (.fl j) ha hb (.inr rfl)
      | fd _ _ => cases hb
      | _ => simp [eqv, toPy, PyData.eqv, seqD]
    | _ =>
      cases b with
      | ref j =>
        have z : (seqD S (.ref j)).isSome = true := by
          simp only [plain] at hb
          simp only [seqD]
          cases e : lstOf S j with
          | none => rw [e] at hb; cases hb
          | some l => rfl
        exact lists _ (.ref j) ha hb (.inr z)
      | fl j => exact lists _ (.fl j) ha hb (.inr rfl)
      | fd _ _ => cases hb
      | _ => simp [eqv, toPy, PyData.eqv, seqD]
theorem shaped_of (S : Sto) {d : D} (h : plain 40 S d = true) : SeqAt.shaped (toPy 40 S d) = true := by
  unfold SeqAt.shaped
  rw [toPy_can S 40 d h, Bool.true_and]
  have := toPy_depth S 40 d
  simp only [decide_eq_true_eq]; omega
theorem shapedL_of (S : Sto) {l : List D} (h : l.all (plain 40 S) = true) : SeqAt.shaped (.list (l.map (toPy 40 S))) = true := by
  unfold SeqAt.shaped
  have h1 : PyData.canLayAll0 (l.map (toPy 40 S)) = true := canAll fun e he => by
    obtain ⟨x, hx, rfl⟩ := List.mem_map.mp he
    exact toPy_can S 40 x (List.all_eq_true.mp h x hx)
  have h2 : PyData.depthAll (l.map (toPy 40 S)) ≤ 40 := depthAll_le fun e he => by
    obtain ⟨x, _, rfl⟩ := List.mem_map.mp he
    exact toPy_depth S 40 x
  have h3 : (PyData.list (l.map (toPy 40 S))).depth ≤ 64 := by simp only [PyData.depth]; omega
  simp only [PyData.canLay0, h1, Bool.true_and, decide_eq_true_eq]; exact h3

section
variable {X : Cx} {CA : Nat → Addr}
def cOf : COp → CmpOp
  | .eq => .Eq | .ne => .NotEq | .lt => .Lt | .le => .LtE | .gt => .Gt | .ge => .GtE | .is_ => .Is | .isnot => .IsNot | .in_ => .In | .notin => .NotIn
/-- a rule of a comparison serves the engine's one -/
def CoS (K : PySem.W.Frag) (r : R2) (f : D → D → Sto → Option Bool) : Prop :=
  ∀ (α : List (Addr × Bool)) (H : Hp) (S : Sto) (d e : D) (x y : V) (b : Bool) (Q : VK), StR K α H S → Rp K α H d x → Rp K α H e y → f d e S = some b → Q (.bl b) H → r x y H Q
theorem eq_fast {a b : D} {S : Sto} {c : Bool} (h : eqD S a b = some c) : (∃ i j, a = .int i ∧ b = .int j ∧ c = decide (i = j)) ∨ (∃ i j, a = .str i ∧ b = .str j ∧ c = decide (i = j)) ∨ (∃ i j, a = .bl i ∧ b = .bl j ∧ c = decide (i = j)) ∨
    (plain 40 S a = true ∧ plain 40 S b = true ∧ c = eqv 40 S a b) := by
  unfold eqD at h
  split at h
  · exact .inl ⟨_, _, rfl, rfl, (Option.some.inj h).symm⟩
  · exact .inr (.inl ⟨_, _, rfl, rfl, (Option.some.inj h).symm⟩)
  · exact .inr (.inr (.inl ⟨_, _, rfl, rfl, (Option.some.inj h).symm⟩))
  · split at h
    · rename_i c
      simp only [Bool.and_eq_true] at c
      exact .inr (.inr (.inr ⟨c.1, c.2, (Option.some.inj h).symm⟩))
    · cases h
theorem dec_cs (i j : List Nat) : decide (V.str (cs i) = V.str (cs j)) = decide (i = j) := by
  by_cases e : i = j
  · subst e; simp
  · rw [decide_eq_false e, decide_eq_false fun q => e (cs_inj.mp (V.str.inj q))]
theorem dec_int (i j : Int) : decide (V.int i = V.int j) = decide (i = j) := by
  by_cases e : i = j
  · subst e; simp
  · rw [decide_eq_false e, decide_eq_false fun q => e (V.int.inj q)]
theorem dec_bl (i j : Bool) : decide (V.bl i = V.bl j) = decide (i = j) := by cases i <;> cases j <;> rfl
theorem cos_eq : CoS X.K (fun x y H Q => rEq x y H Q ∨ rEqD X.K x y H Q) (fun a b S => eqD S a b) := by
  intro α H S d e x y b Q s rd re h q
  rcases eq_fast h with ⟨i, j, rfl, rfl, rfl⟩ | ⟨i, j, rfl, rfl, rfl⟩ | ⟨i, j, rfl, rfl, rfl⟩ | ⟨p1, p2, rfl⟩
  · cases rd; cases re; exact .inl ⟨rfl, by rw [dec_int]; exact q⟩
  · cases rd; cases re; exact .inl ⟨rfl, by rw [dec_cs]; exact q⟩
  · cases rd; cases re; exact .inl ⟨rfl, by rw [dec_bl]; exact q⟩
  · exact .inr ⟨_, _, dp_of s 40 p1 rd, dp_of s 40 p2 re, shaped_of S p1, shaped_of S p2, by rw [← eqv_py S 40 _ _ p1 p2]; exact q⟩
theorem cos_ne : CoS X.K (fun x y H Q => rNe x y H Q ∨ rNeD X.K x y H Q) (fun a b S => notB (eqD S a b)) := by
  intro α H S d e x y b Q s rd re h q
  dsimp only at h
  cases h1 : eqD S d e with
  | none => rw [h1] at h; cases h
  | some c =>
    rw [h1] at h
    have hb : (!c) = b := Option.some.inj h
    subst hb
    rcases eq_fast h1 with ⟨i, j, rfl, rfl, rfl⟩ | ⟨i, j, rfl, rfl, rfl⟩ | ⟨i, j, rfl, rfl, rfl⟩ | ⟨p1, p2, rfl⟩
    · cases rd; cases re; exact .inl ⟨rfl, by rw [dec_int]; exact q⟩
    · cases rd; cases re; exact .inl ⟨rfl, by rw [dec_cs]; exact q⟩
    · cases rd; cases re; exact .inl ⟨rfl, by rw [dec_bl]; exact q⟩
    · exact .inr ⟨_, _, dp_of s 40 p1 rd, dp_of s 40 p2 re, shaped_of S p1, shaped_of S p2, by rw [← eqv_py S 40 _ _ p1 p2]; exact q⟩
/-! ### the order of data -/
theorem eqv_alike (S : Sto) : ∀ (n : Nat) (a b : D), plain n S a = true → plain n S b = true → alD a b = true → eqv n S a b = decide (a = b)
  | 0, _, _, h, _, _ => by cases h
  | n + 1, a, b, ha, hb, h => by
    cases a with
    | int i =>
      cases b with
      | int j => simp only [eqv]; by_cases e : i = j <;> simp [e]
      | _ => simp [alD] at h
    | str i =>
      cases b with
      | str j => simp only [eqv]; by_cases e : i = j <;> simp [e]
      | _ => simp [alD] at h
    | tup l =>
      cases b with
      | tup k =>
        simp only [eqv]
        have ih : ∀ (l k : List D), l.all (plain n S) = true → k.all (plain n S) = true → alL l k = true → all2 (eqv n S) l k = decide (l = k) := by
          intro l
          induction l with
          | nil => intro k _ _ _; cases k <;> simp [all2]
          | cons x l ihl =>
            intro k hl hk h
            cases k with
            | nil => simp [all2]
            | cons y k =>
              simp only [List.all_cons, Bool.and_eq_true] at hl hk
              simp only [alL, Bool.and_eq_true] at h
              simp only [all2, eqv_alike S n x y hl.1 hk.1 h.1, ihl k hl.2 hk.2 h.2]
              by_cases e1 : x = y <;> by_cases e2 : l = k <;> simp [e1, e2]
        rw [ih l k ha hb (by simpa [alD] using h)]
        by_cases e : l = k <;> simp [e]
      | _ => simp [alD] at h
    | _ => cases b <;> simp [alD] at h
theorem alike_py (S : Sto) : ∀ (n : Nat) (a b : D), plain n S a = true → plain n S b = true → alD a b = true → PySem.W.alike (toPy n S a) (toPy n S b) = true
  | 0, _, _, h, _, _ => by cases h
  | n + 1, a, b, ha, hb, h => by
    cases a with
    | int i =>
      cases b with
      | int j => simp [toPy, PySem.W.alike]
      | _ => simp [alD] at h
    | str i =>
      cases b with
      | str j => simp [toPy, PySem.W.alike]
      | _ => simp [alD] at h
    | tup l =>
      cases b with
      | tup k =>
        simp only [toPy, PySem.W.alike]
        have ih : ∀ (l k : List D), l.all (plain n S) = true → k.all (plain n S) = true → alL l k = true → PySem.W.alikeAll (l.map (toPy n S)) (k.map (toPy n S)) = true := by
          intro l
          induction l with
          | nil => intro k _ _ _; cases k <;> simp [PySem.W.alikeAll]
          | cons x l ihl =>
            intro k hl hk h
            cases k with
            | nil => simp [PySem.W.alikeAll]
            | cons y k =>
              simp only [List.all_cons, Bool.and_eq_true] at hl hk
              simp only [alL, Bool.and_eq_true] at h
              simp only [List.map_cons, PySem.W.alikeAll, alike_py S n x y hl.1 hk.1 h.1, ihl k hl.2 hk.2 h.2, Bool.and_self]
        exact ih l k ha hb (by simpa [alD] using h)
      | _ => simp [alD] at h
    | _ => cases b <;> simp [alD] at h
theorem lt_py (S : Sto) : ∀ (n : Nat) (a b : D), plain n S a = true → plain n S b = true → alD a b = true → PySem.W.dataLt (toPy n S a) (toPy n S b) = ltT a b
  | 0, _, _, h, _, _ => by cases h
  | n + 1, a, b, ha, hb, h => by
    cases a with
    | int i =>
      cases b with
      | int j => simp only [toPy, ltT, PySem.W.dataLt_int]
      | _ => simp [alD] at h
    | str i =>
      cases b with
      | str j => simp only [toPy, ltT, PySem.W.dataLt_str, cs_toList]
      | _ => simp [alD] at h
    | tup l =>
      cases b with
      | tup k =>
        simp only [toPy, ltT, PySem.W.dataLt_tuple]
        have ih : ∀ (l k : List D), l.all (plain n S) = true → k.all (plain n S) = true → alL l k = true → PyProof.Rows.lexLt PyProof.Rows.itemOrd (PySem.W.keyToksAll (l.map (toPy n S))) (PySem.W.keyToksAll (k.map (toPy n S))) = ltTL l k := by
          intro l
          induction l with
          | nil =>
            intro k _ _ _
            cases k with
            | nil => simp only [List.map_nil, PySem.W.keyToksAll, ltTL]; decide +kernel
            | cons y k =>
              simp only [List.map_nil, List.map_cons, PySem.W.keyToksAll, ltTL]
              exact (PySem.W.lex_atom (p := .inl 0) (q := .inl 1) (by simp) _ _).trans (by decide +kernel)
          | cons x l ihl =>
            intro k hl hk h
            cases k with
            | nil =>
              simp only [List.map_nil, List.map_cons, PySem.W.keyToksAll, ltTL]
              exact (PySem.W.lex_atom (p := .inl 1) (q := .inl 0) (by simp) _ _).trans (by decide +kernel)
            | cons y k =>
              simp only [List.all_cons, Bool.and_eq_true] at hl hk
              simp only [alL, Bool.and_eq_true] at h
              simp only [List.map_cons, ltTL]
              rw [PySem.W.dataLt_cons (alike_py S n x y hl.1 hk.1 h.1), ← eqv_py S n x y hl.1 hk.1, eqv_alike S n x y hl.1 hk.1 h.1, lt_py S n x y hl.1 hk.1 h.1, ihl k hl.2 hk.2 h.2]
              by_cases e : x = y <;> simp [e]
        exact ih l k ha hb (by simpa [alD] using h)
      | _ => simp [alD] at h
    | _ => cases b <;> simp [alD] at h
theorem plain_nil {S : Sto} : ∀ (n : Nat) (d : D), plain n [] d = true → plain n S d = true
  | 0, _, h => by cases h
  | n + 1, d, h => by
    cases d with
    | tup l => simp only [plain, List.all_eq_true] at h ⊢; exact fun x hx => plain_nil n x (h x hx)
    | fl l => simp only [plain, List.all_eq_true] at h ⊢; exact fun x hx => plain_nil n x (h x hx)
    | ref k => simp [plain, lstOf] at h
    | _ => simpa [plain] using h
theorem ltD_or {a b : D} {c : Bool} (h : ltD a b = some c) : (∃ i j, a = .int i ∧ b = .int j ∧ c = decide (i < j)) ∨ (∃ l k, a = .tup l ∧ b = .tup k ∧ alL l k = true ∧ plain 40 [] a = true ∧ plain 40 [] b = true ∧ c = ltTL l k) := by
  unfold ltD at h
  split at h
  · exact .inl ⟨_, _, rfl, rfl, (Option.some.inj h).symm⟩
  · split at h
    · rename_i c
      simp only [Bool.and_eq_true] at c
      exact .inr ⟨_, _, rfl, rfl, c.1.1, c.1.2, c.2, (Option.some.inj h).symm⟩
    · cases h
  · cases h
/-- < and its like of alike data -/
def rOrd (K : PySem.W.Frag) (f : PyData → PyData → Bool) : R2 := fun x y H Q => ∃ d e, Dp K H x d ∧ Dp K H y e ∧ PySem.W.alike d e = true ∧ d ≠ .none ∧ d.depth ≤ 40 ∧ Q (.bl (f d e)) H
section
variable {X : Cx}
theorem op_ltD (hu : X.A.units + 65 < cLine) : OpR X (compareOp .Lt) (rOrd X.K fun d e => PySem.W.dataLt d e) := by
  intro pins s σ H x y v u Q I rx ry h
  obtain ⟨d, e, hd, he, al, nn, dp, q⟩ := h
  obtain ⟨as, r1⟩ := Dp.reads I d x v hd rx
  obtain ⟨bs, r2⟩ := Dp.reads I e y u he ry
  exact PySem.W.lt_data r1 r2 al nn (by omega) ⟨.bl _, H, I, rfl, q⟩
theorem op_gtD (hu : X.A.units + 65 < cLine) : OpR X (compareOp .Gt) (rOrd X.K fun d e => PySem.W.dataLt e d) := by
  intro pins s σ H x y v u Q I rx ry h
  obtain ⟨d, e, hd, he, al, nn, dp, q⟩ := h
  obtain ⟨as, r1⟩ := Dp.reads I d x v hd rx
  obtain ⟨bs, r2⟩ := Dp.reads I e y u he ry
  exact PySem.W.gt_data r1 r2 al nn (by omega) ⟨.bl _, H, I, rfl, q⟩
theorem op_leD (hu : X.A.units + 65 < cLine) : OpR X (compareOp .LtE) (rOrd X.K fun d e => !PySem.W.dataLt e d) := by
  intro pins s σ H x y v u Q I rx ry h
  obtain ⟨d, e, hd, he, al, nn, dp, q⟩ := h
  obtain ⟨as, r1⟩ := Dp.reads I d x v hd rx
  obtain ⟨bs, r2⟩ := Dp.reads I e y u he ry
  exact PySem.W.le_data r1 r2 al nn (by omega) ⟨.bl _, H, I, rfl, q⟩
theorem op_geD (hu : X.A.units + 65 < cLine) : OpR X (compareOp .GtE) (rOrd X.K fun d e => !PySem.W.dataLt d e) := by
  intro pins s σ H x y v u Q I rx ry h
  obtain ⟨d, e, hd, he, al, nn, dp, q⟩ := h
  obtain ⟨as, r1⟩ := Dp.reads I d x v hd rx
  obtain ⟨bs, r2⟩ := Dp.reads I e y u he ry
  exact PySem.W.ge_data r1 r2 al nn (by omega) ⟨.bl _, H, I, rfl, q⟩
end
theorem alL_symm : ∀ (n : Nat) (a b : D), plain n [] a = true → alD a b = alD b a
  | 0, _, _, h => by cases h
  | n + 1, a, b, h => by
    cases a with
    | tup l =>
      cases b with
      | tup k =>
        simp only [alD]
        have ih : ∀ (l k : List D), l.all (plain n []) = true → alL l k = alL k l := by
          intro l
          induction l with
          | nil => intro k _; cases k <;> rfl
          | cons x l ihl =>
            intro k hl
            cases k with
            | nil => rfl
            | cons y k =>
              simp only [List.all_cons, Bool.and_eq_true] at hl
              simp only [alL, alL_symm n x y hl.1, ihl k hl.2]
        exact ih l k h
      | _ => rfl
    | _ => cases b <;> rfl
theorem ord_core {K : PySem.W.Frag} {α : List (Addr × Bool)} {H : Hp} {S : Sto} {a b : D} {x y : V} {l k : List D} (s : StR K α H S) (ra : Rp K α H a x) (rb : Rp K α H b y) (ea : a = .tup l) (eb : b = .tup k) (al : alL l k = true) (pa : plain 40 [] a = true) (pb : plain 40 [] b = true) :
    Dp K H x (toPy 40 S a) ∧ Dp K H y (toPy 40 S b) ∧ PySem.W.alike (toPy 40 S a) (toPy 40 S b) = true ∧ PySem.W.alike (toPy 40 S b) (toPy 40 S a) = true ∧ toPy 40 S a ≠ .none ∧ toPy 40 S b ≠ .none ∧ (toPy 40 S a).depth ≤ 40 ∧ (toPy 40 S b).depth ≤ 40 ∧ PySem.W.dataLt (toPy 40 S a) (toPy 40 S b) = ltTL l k := by
  have pa' := plain_nil (S := S) 40 a pa
  have pb' := plain_nil (S := S) 40 b pb
  have h : alD a b = true := by rw [ea, eb]; simpa [alD] using al
  have h' : alD b a = true := by rw [← alL_symm 40 a b pa]; exact h
  refine ⟨dp_of s 40 pa' ra, dp_of s 40 pb' rb, alike_py S 40 a b pa' pb' h, alike_py S 40 b a pb' pa' h', ?_, ?_, toPy_depth .., toPy_depth .., ?_⟩
  · rw [ea]; exact fun e => nomatch e
  · rw [eb]; exact fun e => nomatch e
  · rw [lt_py S 40 a b pa' pb' h, ea, eb]; rfl
theorem any_py {S : Sto} {a : D} {l : List D} (p1 : plain 40 S a = true) (p2 : l.all (plain 40 S) = true) : ((l.map (toPy 40 S)).any fun z => PyData.eqv z (toPy 40 S a)) = l.any fun b => eqv 40 S b a := by
  rw [List.any_map]
  induction l with
  | nil => rfl
  | cons b l ih =>
    simp only [List.all_cons, Bool.and_eq_true] at p2
    simp only [List.any_cons, Function.comp, ← eqv_py S 40 b a p2.1 p1]
    rw [← ih p2.2]
theorem flat_V {K : PySem.W.Frag} {α : List (Addr × Bool)} {H : Hp} {d : D} {v : V} (r : Rp K α H d v) (h : flat d = true) : flatV v = true := by
  cases r <;> first | rfl | cases h
theorem flatL_V {K : PySem.W.Frag} {α : List (Addr × Bool)} {H : Hp} : ∀ {l : List D} {vs : List V}, RpL K α H l vs → l.all flat = true → vs.all flatV = true
  | _, _, .nil, _ => rfl
  | _, _, .cons r t, h => by
    simp only [List.all_cons, Bool.and_eq_true] at h ⊢
    exact ⟨flat_V r h.1, flatL_V t h.2⟩
theorem eqV_flat {K : PySem.W.Frag} {α : List (Addr × Bool)} {H : Hp} {S : Sto} {d e : D} {v w : V} (r : Rp K α H d v) (t : Rp K α H e w) (h : flat d = true) (k : flat e = true) : eqV v w = eqv 40 S d e := by
  cases r <;> cases t <;> first | rfl | exact cs_beq _ _ | cases h | cases k
theorem inV_flat {K : PySem.W.Frag} {α : List (Addr × Bool)} {H : Hp} {S : Sto} {d : D} {v : V} (r : Rp K α H d v) (h : flat d = true) : ∀ {l : List D} {vs : List V}, RpL K α H l vs → l.all flat = true → inV v vs = l.any fun b => eqv 40 S b d
  | _, _, .nil, _ => rfl
  | _, _, .cons t ts, k => by
    simp only [List.all_cons, Bool.and_eq_true] at k
    have ih := inV_flat (S := S) r h ts k.2
    unfold inV at ih ⊢
    simp only [List.any_cons, eqV_flat (S := S) t r k.1 h, ih]
/-- a list by its items -/
theorem seq_rd {K : PySem.W.Frag} {α : List (Addr × Bool)} {H : Hp} {S : Sto} {d : D} {v : V} {l : List D} (s : StR K α H S) (r : Rp K α H d v) (h : seqD S d = some l) : ∃ a vs, v = .ref a ∧ SqL K H a vs ∧ RpL K α H l vs := by
  cases r with
  | ref ha =>
    obtain ⟨vs, h1, h2⟩ := s.rd h ha
    exact ⟨_, vs, rfl, h1, h2⟩
  | fl hl rl => cases h; exact ⟨_, _, rfl, hl.sq, rl⟩
  | _ => cases h
theorem keyOk_ref {K : PySem.W.Frag} {α : List (Addr × Bool)} {H : Hp} {d : D} {x : V} (h : keyOk d = true) (r : Rp K α H d x) : ∃ q, x = .ref q := by
  cases r with
  | tup _ _ => exact ⟨_, rfl⟩
  | _ => cases h
theorem in_core {α : List (Addr × Bool)} {H : Hp} {S : Sto} {d e : D} {x y : V} {b : Bool} (s : StR X.K α H S) (rd : Rp X.K α H d x) (re : Rp X.K α H e y) (h : cIn S d e = some b) :
    (∃ (c : Nat) (z : PySem.Str), x = .str ⟨#[c]⟩ ∧ y = .str z ∧ b = decide (c ∈ z.cps.toList)) ∨ (∃ a vs, y = .ref a ∧ SqT X.K H a vs ∧ flatV x = true ∧ vs.all flatV = true ∧ inV x vs = b) ∨
    (∃ p ds, Dp X.K H x p ∧ Dp X.K H y (.list ds) ∧ SeqAt.shaped p = true ∧ SeqAt.shaped (.list ds) = true ∧ (ds.any fun z => PyData.eqv z p) = b) ∨
    ∃ (a q : Addr) (kv : List (D × D)) (xs : List (NestedKey × Addr × Value)), x = .ref q ∧ y = .ref a ∧ H a = some (DN a xs) ∧ Paired (DRel X.K α H) kv xs ∧ keyOk d = true ∧ Rp X.K α H d (.ref q) ∧ (dctGet kv d).isSome = b := by
  have seqs : ∀ l, seqD S e = some l → inD S d l = some b → ∃ p ds, Dp X.K H x p ∧ Dp X.K H y (.list ds) ∧ SeqAt.shaped p = true ∧ SeqAt.shaped (.list ds) = true ∧ (ds.any fun z => PyData.eqv z p) = b := fun l e1 h => by
    unfold inD at h
    split at h
    · rename_i c
      simp only [Bool.and_eq_true] at c
      cases h
      obtain ⟨a, vs, rfl, h1, r1⟩ := seq_rd s re e1
      exact ⟨_, _, dp_of s 40 c.1 rd, .lst h1 (dpAll_of s 40 c.2 r1), shaped_of S c.1, shapedL_of S c.2, any_py c.1 c.2⟩
    · cases h
  unfold cIn at h
  split at h
  · cases rd; cases re; cases h
    exact .inl ⟨_, _, rfl, rfl, rfl⟩
  · cases re with
    | @tup l a vs hl rl =>
      split at h
      · rename_i c
        simp only [Bool.and_eq_true] at c
        unfold inD at h
        split at h
        · cases h
          exact .inr (.inl ⟨a, vs, rfl, hl, flat_V rd c.1, flatL_V rl c.2, inV_flat (S := S) rd c.1 rl c.2⟩)
        · cases h
      · cases h
  · split at h
    · rename_i kv e1
      split at h
      · rename_i hk
        cases h
        obtain ⟨q, rfl⟩ := keyOk_ref hk rd
        cases re with
        | @ref _ a m ha =>
          obtain ⟨_, xs, h1, pr⟩ := s.at_ _ a m _ ha e1
          exact .inr (.inr (.inr ⟨a, q, kv, xs, rfl, rfl, h1, pr, hk, rd, rfl⟩))
      · cases h
    · split at h
      · rename_i l e1
        exact .inr (.inr (.inl (seqs l e1 h)))
      · cases h
  · split at h
    · rename_i l e1
      exact .inr (.inr (.inl (seqs l e1 h)))
    · cases h
theorem cos_in : CoS X.K (fun x y H Q => (∃ (c : Nat) (z : PySem.Str), x = .str ⟨#[c]⟩ ∧ y = .str z ∧ Q (.bl (decide (c ∈ z.cps.toList))) H) ∨ (rIn X.K false x y H Q ∨ (rInD X.K x y H Q ∨ rInN X.K (fun b => b) x y H Q))) (fun a b S => cIn S a b) := by
  intro α H S d e x y b Q s rd re h q
  rcases in_core s rd re h with ⟨c, z, rfl, rfl, rfl⟩ | ⟨a, vs, rfl, h1, h2, h3, h4⟩ | ⟨p, ds, h1, h2, h3, h4, h5⟩ | ⟨a, q', kv, xs, rfl, rfl, h1, h2, h3, h4, rfl⟩
  · exact .inl ⟨_, _, rfl, rfl, q⟩
  · exact .inr (.inl ⟨a, vs, rfl, .inr h1, h2, h3, by simp only [Bool.false_eq_true, if_false, h4]; exact q⟩)
  · exact .inr (.inr (.inl ⟨_, _, h1, h2, h3, h4, by rw [h5]; exact q⟩))
  · exact .inr (.inr (.inr ⟨a, q', α, kv, xs, d, rfl, rfl, h1, h2, h3, h4, q⟩))
theorem cos_notin : CoS X.K (fun x y H Q => (∃ (c : Nat) (z : PySem.Str), x = .str ⟨#[c]⟩ ∧ y = .str z ∧ Q (.bl (!decide (c ∈ z.cps.toList))) H) ∨ (rIn X.K true x y H Q ∨ (rNotInD X.K x y H Q ∨ rInN X.K (fun b => !b) x y H Q))) (fun a b S => notB (cIn S a b)) := by
  intro α H S d e x y b Q s rd re h q
  dsimp only at h
  cases h1 : cIn S d e with
  | none => rw [h1] at h; cases h
  | some c0 =>
    rw [h1] at h
    have hb : (!c0) = b := Option.some.inj h
    subst hb
    rcases in_core s rd re h1 with ⟨c, z, rfl, rfl, rfl⟩ | ⟨a, vs, rfl, h1, h2, h3, h4⟩ | ⟨p, ds, h1, h2, h3, h4, h5⟩ | ⟨a, q', kv, xs, rfl, rfl, k1, k2, k3, k4, rfl⟩
    · exact .inl ⟨_, _, rfl, rfl, q⟩
    · exact .inr (.inl ⟨a, vs, rfl, .inr h1, h2, h3, by simp only [if_true, h4]; exact q⟩)
    · exact .inr (.inr (.inl ⟨_, _, h1, h2, h3, h4, by rw [h5]; exact q⟩))
    · exact .inr (.inr (.inr ⟨a, q', α, kv, xs, d, rfl, rfl, k1, k2, k3, k4, q⟩))
theorem isN_V {K : PySem.W.Frag} {α : List (Addr × Bool)} {H : Hp} {d : D} {v : V} (r : Rp K α H d v) : decide (v = V.non) = decide (d = D.non) := by
  cases r <;> simp
theorem cos_is : CoS X.K (fun x y H Q => (y = .non ∧ Q (.bl (decide (x = .non))) H) ∨ (∃ a b, x = .bl a ∧ y = .bl b ∧ Q (.bl (decide (a = b))) H)) (fun a b _ => cIs a b) := by
  intro α H S d e x y b Q s rd re h q
  dsimp only at h
  unfold cIs at h
  split at h
  · cases re; cases h; exact .inl ⟨rfl, by rw [isN_V rd]; exact q⟩
  · cases rd; cases re; cases h; exact .inr ⟨_, _, rfl, rfl, q⟩
  · cases h
theorem cos_isnot : CoS X.K (fun x y H Q => (y = .non ∧ Q (.bl (!decide (x = .non))) H) ∨ (∃ a b, x = .bl a ∧ y = .bl b ∧ Q (.bl (!decide (a = b))) H)) (fun a b _ => notB (cIs a b)) := by
  intro α H S d e x y b Q s rd re h q
  dsimp only at h
  cases h1 : cIs d e with
  | none => rw [h1] at h; cases h
  | some c0 =>
    rw [h1] at h
    have hb : (!c0) = b := Option.some.inj h
    subst hb
    unfold cIs at h1
    split at h1
    · cases re; cases h1; exact .inl ⟨rfl, by rw [isN_V rd]; exact q⟩
    · cases rd; cases re; cases h1; exact .inr ⟨_, _, rfl, rfl, q⟩
    · cases h1
/-- each comparison has its rule -/
theorem op_cmp (hu : X.A.units + 65 < cLine) (o : COp) : ∃ r, OpR X (compareOp (cOf o)) r ∧ CoS X.K r (fun a b S => cmpO o a b S) := by
  have hu64 : X.A.units + 64 < cLine := by omega
  cases o with
  | eq => exact ⟨_, op_eq.or (op_eqD hu64), cos_eq⟩
  | ne => exact ⟨_, op_ne.or (op_neD hu64), cos_ne⟩
  | lt =>
    refine ⟨_, op_lt.or (op_ltD hu), fun α H S d e x y b Q s rd re h q => ?_⟩
    rcases ltD_or h with ⟨i, j, rfl, rfl, rfl⟩ | ⟨l, k, e1, e2, al, p1, p2, rfl⟩
    · cases rd; cases re
      exact .inl ⟨_, _, rfl, rfl, q⟩
    · obtain ⟨a1, a2, a3, a4, a5, a6, a7, a8, a9⟩ := ord_core s rd re e1 e2 al p1 p2
      exact .inr ⟨_, _, a1, a2, a3, a5, a7, by dsimp only; rw [a9]; exact q⟩
  | gt =>
    refine ⟨_, op_gt.or (op_gtD hu), fun α H S d e x y b Q s rd re h q => ?_⟩
    rcases ltD_or h with ⟨i, j, rfl, rfl, rfl⟩ | ⟨l, k, e1, e2, al, p1, p2, rfl⟩
    · cases rd; cases re
      exact .inl ⟨_, _, rfl, rfl, q⟩
    · obtain ⟨a1, a2, a3, a4, a5, a6, a7, a8, a9⟩ := ord_core s re rd e1 e2 al p1 p2
      exact .inr ⟨_, _, a2, a1, a4, a6, a8, by dsimp only; rw [a9]; exact q⟩
  | le =>
    refine ⟨_, op_le.or (op_leD hu), fun α H S d e x y b Q s rd re h q => ?_⟩
    cases h1 : ltD e d with
    | none => simp only [cmpO, h1] at h; cases h
    | some c =>
      simp only [cmpO, h1] at h
      cases h
      rcases ltD_or h1 with ⟨i, j, rfl, rfl, rfl⟩ | ⟨l, k, e1, e2, al, p1, p2, rfl⟩
      · cases rd; cases re
        refine .inl ⟨_, _, rfl, rfl, ?_⟩
        have : decide (j ≤ i) = !decide (i < j) := by by_cases c : i < j <;> simp [c] <;> omega
        show Q (V.bl (decide (j ≤ i))) H
        rw [this]; exact q
      · obtain ⟨a1, a2, a3, a4, a5, a6, a7, a8, a9⟩ := ord_core s re rd e1 e2 al p1 p2
        exact .inr ⟨_, _, a2, a1, a4, a6, a8, by dsimp only; rw [a9]; exact q⟩
  | ge =>
    refine ⟨_, op_ge.or (op_geD hu), fun α H S d e x y b Q s rd re h q => ?_⟩
    cases h1 : ltD d e with
    | none => simp only [cmpO, h1] at h; cases h
    | some c =>
      simp only [cmpO, h1] at h
      cases h
      rcases ltD_or h1 with ⟨i, j, rfl, rfl, rfl⟩ | ⟨l, k, e1, e2, al, p1, p2, rfl⟩
      · cases rd; cases re
        refine .inl ⟨_, _, rfl, rfl, ?_⟩
        have : decide (j ≤ i) = !decide (i < j) := by by_cases c : i < j <;> simp [c] <;> omega
        show Q (V.bl (decide (j ≤ i))) H
        rw [this]; exact q
      · obtain ⟨a1, a2, a3, a4, a5, a6, a7, a8, a9⟩ := ord_core s rd re e1 e2 al p1 p2
        exact .inr ⟨_, _, a1, a2, a3, a5, a7, by dsimp only; rw [a9]; exact q⟩
  | is_ => exact ⟨_, op_isN.or op_is_bl, cos_is⟩
  | isnot => exact ⟨_, op_notN.or op_isnot_bl, cos_isnot⟩
  | in_ => exact ⟨_, op_in_sign.or (op_in_seq.or ((op_inD hu).or (op_inN hu))), cos_in⟩
  | notin => exact ⟨_, op_notIn_sign.or (op_notIn_seq.or ((op_notInD hu).or (op_notInN hu))), cos_notin⟩
end
end Eg

namespace Eg
open PySem PySem.Spec PyProof.Rows L2
/-! ### sum of a tuple -/
section
variable {prog : Program} {w : World} {A : Around} {E : Value → Shared → Prop} {s : Shared}
theorem sum_tupI {t : Addr} {its : List Value} {ns : List Int} {Q : Value → Shared → Prop} (hh : A.handled = none) (ht : IsTup s.heap t its.toArray) (hi : IntsAre its ns)
    (h : ∀ h' tk t', (∀ b o, s.heap.get? b = some o → h'.get? b = some o) → Q (.int ns.sum t') { s with heap := h', toks := tk }) : wpAny (model prog w) A (call (.builtin "sum") [.ref t]) Q E s := by
  obtain ⟨xs, e⟩ := hi.allInts.items
  have hn : numsOf (intItems xs).toList = ns := by rw [← e]; exact hi.numsOf
  rw [nums_intItems] at hn
  rw [e] at ht
  have hlt : t < s.heap.objs.size := ht.lt
  refine PySem.call_sum_walkG (wpAny_pyIter_tuple ht ?_)
  have hp : ∀ b o, s.heap.get? b = some o → (s.heap.push { cls := .type "tuple_iterator", data := .fields #[.ref t, .int 0 0] }).get? b = some o := fun b o z => Heap.get?_push_of_some _ z
  refine ⟨_, _, _, _, _, _, numAt xs, rfl, Walks.tuple (A := A.in1) hh _ t (Nat.ne_of_lt hlt) (intItems xs), ⟨⟨_, Heap.get?_push_size _ rfl, rfl, rfl⟩, ?_⟩, fun b hb => ?_, fun _ _ => intItems_at, fun h' tk t' hk => ?_⟩
  · exact IsTup.keeps ht hp
  · simp only [List.mem_cons, List.not_mem_nil, or_false] at hb
    show b < (s.heap.push _).objs.size
    rw [Heap.size_push]
    rcases hb with rfl | rfl
    · exact Nat.lt_succ_self _
    · exact Nat.lt_succ_of_lt hlt
  · have := h h' tk t' fun b o z => hk b o (fun hm => by
      simp only [List.mem_cons, List.not_mem_nil, or_false] at hm
      exact Nat.lt_irrefl _ (hm ▸ Heap.lt_size z)) (hp b o z)
    rw [preSum_eq, List.take_of_length_le (by simp [intItems]), hn]; exact this
end
def rSumT (K : PySem.W.Frag) : List V → Hp → VK → Prop := fun vs H Q => ∃ (a : Addr) (ns : List Int), vs = [V.ref a] ∧ SqT K H a (ns.map V.int) ∧ Q (.int ns.sum) H
theorem cr_sumT {X : Cx} (hc : X.calm = true) : CallR X (.builtin "sum") (rSumT X.K) := by
  intro pins st σ H vs us Q I r h
  obtain ⟨a, ns, rfl, hs, q⟩ := h
  obtain ⟨its, rv, hl, _⟩ := I.tuple hs
  rw [Vals.ref1 r]
  exact sum_tupI (I.ok.hd hc) hl rv.ints fun h' tk t' hk => ⟨.int _, H, I.kept hk, ⟨_, rfl⟩, q⟩
end Eg

namespace Eg
open PySem PySem.Spec PyProof.Rows L2

section
variable {X : Cx} {CA : Nat → Addr}
/-! ### subscripts, slices -/
theorem atL_get {K : PySem.W.Frag} {α : List (Addr × Bool)} {H : Hp} {l : List D} {vs : List V} {i : Int} {d : D} (r : RpL K α H l vs) (h : atL l i = some d) : ∃ v, L2.atI vs i = some v ∧ Rp K α H d v := by
  unfold atL at h
  unfold L2.atI
  cases e : ixN l.length i with
  | none => rw [e] at h; cases h
  | some j =>
    rw [e] at h
    have e' : L2.ixN vs.length i = some j := by rw [← r.length]; exact e
    rw [e']
    exact r.get h
theorem idx_seq {α : List (Addr × Bool)} {H : Hp} {S : Sto} {d e : D} {x y : V} {Q : VK} {W : XK} (s : StR X.K α H S) (rd : Rp X.K α H d x) (re : Rp X.K α H e y) (ht : ∀ l, d ≠ .tup l) (hs : ∀ l, d ≠ .str l) (h : Post X.K CA (Rp X.K) α H (idxD d e S) Q W) : rIxL X.K x y H Q ∨ (rIxT X.K x y H Q ∨ (rIxS x y H Q ∨ rIxN X.K x y H Q)) := by
  by_cases ie : ∃ i, e = .int i
  · obtain ⟨i, rfl⟩ := ie
    cases re
    have eq : idxD d (.int i) S = match seqD S d with | some l => R.of S (atL l i) | none => .no := by
      cases d <;> first | rfl | exact absurd rfl (ht _) | exact absurd rfl (hs _)
    rw [eq] at h
    split at h
    · rename_i l e0
      obtain ⟨a, vs, rfl, hl, rl⟩ := seq_rd s rd e0
      cases e1 : atL l i with
      | none => rw [e1] at h; exact h.elim
      | some d =>
        rw [e1] at h
        obtain ⟨v, h1, h2⟩ := atL_get rl e1
        exact .inl ⟨a, vs, i, v, rfl, rfl, hl, h1, h.ok s h2⟩
    · exact h.elim
  · cases rd with
    | @ref n a m ha =>
      have eq : idxD (.ref n) e S = match S[n]? with
          | some (.dct kv) => if keyOk e then R.of S (dctGet kv e) else .no
          | _ => .no := by
        cases e <;> first | rfl | exact absurd ⟨_, rfl⟩ ie
      rw [eq] at h
      split at h
      · rename_i kv e1
        split at h
        · rename_i hk
          obtain ⟨q, rfl⟩ := keyOk_ref hk re
          obtain ⟨_, xs, h1, pr⟩ := s.at_ n a m _ ha e1
          cases e2 : dctGet kv e with
          | none => rw [e2] at h; exact h.elim
          | some d =>
            rw [e2] at h
            exact .inr (.inr (.inr ⟨a, q, α, kv, xs, e, d, rfl, rfl, h1, pr, hk, re, e2, fun v hv => h.ok s hv⟩))
        · exact h.elim
      · exact h.elim
    | tup _ _ => exact absurd rfl (ht _)
    | str _ => exact absurd rfl (hs _)
    | _ => cases e <;> first | exact h.elim | exact absurd ⟨_, rfl⟩ ie
theorem ops_idx : OpS X.K CA (fun x y H Q => rIxL X.K x y H Q ∨ (rIxT X.K x y H Q ∨ (rIxS x y H Q ∨ rIxN X.K x y H Q))) idxD := by
  intro α H S d e x y Q W s rd re h
  cases rd with
  | @tup l a vs hl rl =>
    cases re with
    | int i =>
      simp only [idxD] at h
      cases e1 : atL l i with
      | none => rw [e1] at h; exact h.elim
      | some d =>
        rw [e1] at h
        obtain ⟨v, h1, h2⟩ := atL_get rl e1
        exact .inr (.inl ⟨a, vs, i, v, rfl, rfl, hl, h1, h.ok s h2⟩)
    | _ => exact h.elim
  | str z =>
    cases re with
    | int i =>
      simp only [idxD] at h
      split at h
      · rename_i c
        cases e1 : atL z i with
        | none => rw [e1] at h; exact h.elim
        | some k =>
          rw [e1] at h
          exact .inr (.inr (.inl ⟨cs z, i, k, rfl, rfl, by rw [← line_eq]; exact c, e1, h.ok s (.str [k])⟩))
      · exact h.elim
    | _ => exact h.elim
  | non => cases re <;> exact h.elim
  | bl _ => cases re <;> exact h.elim
  | int _ => cases re <;> exact h.elim
  | fd _ _ => cases re <;> exact h.elim
  | @ref n a ma ha => exact idx_seq s (.ref ha) re (fun _ e => nomatch e) (fun _ e => nomatch e) h
  | @fl l a vs hl rl => exact idx_seq s (.fl hl rl) re (fun _ e => nomatch e) (fun _ e => nomatch e) h
theorem cut_V {K : PySem.W.Frag} {α : List (Addr × Bool)} {H : Hp} {l : List D} {vs : List V} (r : RpL K α H l vs) (lo hi : Option Int) : RpL K α H (cut l lo hi) (cutV vs lo hi) := by
  unfold cut cutV
  rw [r.length]
  exact (r.drop _).take _
theorem cut_all {β : Type} (l : List β) (lo hi : Option Int) (h1 : HT.sIx l.length 0 lo = 0) (h2 : HT.sIx l.length l.length hi = l.length) : cut l lo hi = l := by
  have e1 : sIx l.length 0 lo = 0 := h1
  have e2 : sIx l.length l.length hi = l.length := h2
  unfold cut
  rw [e1, e2]; simp
theorem slc_str (z : List Nat) (lo hi : Option Int) : cutS (cs z) lo hi = cs (cut z lo hi) := rfl
def SlS (K : PySem.W.Frag) (CA : Nat → Addr) (r : V → Option Int → Option Int → Hp → VK → Prop) : Prop :=
  ∀ (α : List (Addr × Bool)) (H : Hp) (S : Sto) (d : D) (lo hi : Option Int) (x : V) (Q : VK) (W : XK), StR K α H S → Rp K α H d x → Post K CA (Rp K) α H (slcD d lo hi S) Q W → r x lo hi H Q
theorem op_slc : ∃ r, SlR X r ∧ SlS X.K CA r := by
  refine ⟨_, sl_tupA.or (sl_str.or (sl_list.or (SlR.frz sl_list))), ?_⟩
  intro α H S d lo hi x Q W s rd h
  cases rd with
  | @tup l a vs hl rl =>
    simp only [slcD] at h
    refine .inl ⟨a, vs, rfl, hl, fun e => ?_, fun _ => h.newT s (cut_V rl lo hi)⟩
    rw [← rl.length] at e
    rw [cut_all l lo hi e.1 e.2] at h
    exact h.ok s (.tup hl rl)
  | str z =>
    simp only [slcD] at h
    split at h
    · rename_i c
      exact .inr (.inl ⟨cs z, rfl, by rw [← line_eq]; exact c, h.ok s (.str _)⟩)
    · exact h.elim
  | @ref n a ma ha =>
    simp only [slcD] at h
    split at h
    · rename_i l e0
      obtain ⟨vs, hl, rl⟩ := s.rd e0 ha
      exact .inr (.inr (.inl ⟨a, vs, rfl, hl, h.newL s (cut_V rl lo hi)⟩))
    · exact h.elim
  | @fl l a vs hl rl =>
    exact .inr (.inr (.inr ⟨a, vs, rfl, hl.sq, h.newF s (cut_V rl lo hi)⟩))
  | _ => exact h.elim

/-! ### isinstance -/
def kdS : Kd → String
  | .non => "NoneType" | .int => "int" | .bool => "bool" | .str => "str" | .tuple => "tuple" | .list => "list" | .dict => "dict" | .exc _ => ""
def tyS : Ty → String
  | .int => "int" | .bool => "bool" | .str => "str" | .list => "list" | .tuple => "tuple" | .dict => "dict" | .cls _ => ""
def Ty.own : Ty → Bool
  | .cls _ => true
  | _ => false
def Kd.own : Kd → Bool
  | .exc _ => true
  | _ => false
theorem kit_all : ∀ k ∈ [Kd.non, .int, .bool, .str, .tuple, .list, .dict], ∀ t ∈ [Ty.int, .bool, .str, .list, .tuple, .dict], kitB (kdS k) (tyS t) = some (isK (fun _ _ => false) k t) := by decide +kernel
theorem kit_k {sub : Nat → Nat → Bool} {k : Kd} {t : Ty} (hk : k.own = false) (ht : t.own = false) : kitB (kdS k) (tyS t) = some (isK sub k t) := by
  have h : isK sub k t = isK (fun _ _ => false) k t := by cases k <;> cases t <;> first | rfl | cases hk | cases ht
  rw [h]
  refine kit_all k ?_ t ?_
  · cases k <;> simp <;> cases hk
  · cases t <;> simp <;> cases ht
theorem kitAny_k {sub : Nat → Nat → Bool} {K : PySem.W.Frag} {k : Kd} (hk : k.own = false) : ∀ {ts : List Ty}, ts.all (fun t => !t.own) = true → PySem.W.kitAny K (.type (kdS k)) (ts.map fun t => .type (tyS t)) = some (ts.any (isK sub k))
  | [], _ => rfl
  | t :: ts, h => by
    simp only [List.all_cons, Bool.and_eq_true, Bool.not_eq_true'] at h
    have ih := kitAny_k (sub := sub) (K := K) hk (ts := ts) (by simpa using h.2)
    refine kitAny_cons (kit_ty (kit_k (sub := sub) hk h.1)) (fun e => ?_) fun e => ?_
    · rw [List.any_cons, e, Bool.false_or]; exact ih
    · rw [List.any_cons, e, Bool.true_or]
theorem kind_ty {K : PySem.W.Frag} {α : List (Addr × Bool)} {H : Hp} {S : Sto} (s : StR K α H S) {d : D} {v : V} {k : Kd} (r : Rp K α H d v) (h : kind S d = some k) : k.own = false ∧ TyX K H v (.type (kdS k)) := by
  cases r with
  | non => cases h; exact ⟨rfl, .base .non⟩
  | bl b => cases h; exact ⟨rfl, .base (.bl b)⟩
  | int b => cases h; exact ⟨rfl, .base (.int b)⟩
  | str b => cases h; exact ⟨rfl, .base (.str _)⟩
  | @tup l a vs hl rl =>
    cases h
    refine ⟨rfl, ?_⟩
    rcases hl with (hl | ⟨o, hl⟩) | ⟨o, its, n, hl, hc, _⟩
    · exact .base (.tup hl)
    · exact .fTuple hl
    · exact .kTuple hl hc
  | @ref n a ma ha =>
    simp only [kind] at h
    split at h
    · rename_i l e
      cases h
      obtain ⟨_, vs, h1, _⟩ := s.at_ n a _ _ ha e
      exact ⟨rfl, .base (.lst h1)⟩
    · rename_i l e
      cases h
      obtain ⟨_, vs, h1, _⟩ := s.at_ n a _ _ ha e
      rcases h1 with ⟨o, h1⟩ | ⟨o, its, m, h1, hc, _⟩
      · exact ⟨rfl, .base (.frz h1)⟩
      · exact ⟨rfl, .kList h1 hc⟩
    · cases h
    · cases h
    · rename_i c fs e
      exact (s.at_ n a _ _ ha e).elim
    · cases h
  | @fl l a vs hl rl =>
    cases h
    obtain ⟨o, hl⟩ := hl
    exact ⟨rfl, .base (.frz hl)⟩
  | @fd ks ds a vs hl rl =>
    cases h
    obtain ⟨o, kvs, hl, _⟩ := hl
    exact ⟨rfl, .fDict hl⟩

/-! ### built-ins -/
theorem ints_V {K : PySem.W.Frag} {α : List (Addr × Bool)} {H : Hp} : ∀ {l : List D} {vs : List V} {ns : List Int}, RpL K α H l vs → intsOf l = some ns → vs = ns.map V.int
  | _, _, _, .nil, h => by cases h; rfl
  | d :: l, _, ns, .cons r t, h => by
    cases r with
    | int i =>
      simp only [intsOf] at h
      cases e : intsOf l with
      | none => rw [e] at h; cases h
      | some ms =>
        rw [e] at h
        cases h
        rw [ints_V t e]; rfl
    | _ => simp [intsOf] at h
theorem bls_V {K : PySem.W.Frag} {α : List (Addr × Bool)} {H : Hp} : ∀ {l : List D} {vs : List V} {ns : List Bool}, RpL K α H l vs → blsOf l = some ns → vs = ns.map V.bl
  | _, _, _, .nil, h => by cases h; rfl
  | d :: l, _, ns, .cons r t, h => by
    cases r with
    | bl i =>
      simp only [blsOf] at h
      cases e : blsOf l with
      | none => rw [e] at h; cases h
      | some ms =>
        rw [e] at h
        cases h
        rw [bls_V t e]; rfl
    | _ => simp [blsOf] at h
/-- a rule of a built-in serves the engine's one -/
def BiS (K : PySem.W.Frag) (CA : Nat → Addr) (r : List V → Hp → VK → Prop) (f : List D → Sto → R D) : Prop :=
  ∀ (α : List (Addr × Bool)) (H : Hp) (S : Sto) (ds : List D) (xs : List V) (Q : VK) (W : XK), StR K α H S → RpL K α H ds xs → Post K CA (Rp K) α H (f ds S) Q W → r xs H Q
/-- .. of a list just made, at hand by its items -/
def BlS (K : PySem.W.Frag) (CA : Nat → Addr) (r : List V → Hp → VK → Prop) (f : List D → Sto → R D) : Prop :=
  ∀ (α : List (Addr × Bool)) (H : Hp) (S : Sto) (l : List D) (a : Addr) (vs : List V) (Q : VK) (W : XK), StR K α H S → SqL K H a vs → RpL K α H l vs → Post K CA (Rp K) α H (f l S) Q W → r [.ref a] H Q
def bltOf : Bi → Value
  | .len => .builtin "len" | .abs => .builtin "abs" | .max => .builtin "max" | .min => .builtin "min" | .sum => .builtin "sum" | .int => .type "int" | .str => .type "str" | .list => .type "list" | .tuple => .type "tuple"
  | .all => .builtin "all" | .any => .builtin "any" | .sorted => .builtin "sorted" | .listF => .type "list" | .sortedF => .builtin "sorted"
theorem CallR.or {f : Value} {r r' : List V → Hp → VK → Prop} (h : CallR X f r) (h' : CallR X f r') : CallR X f (fun xs H Q => r xs H Q ∨ r' xs H Q) := by
  intro pins s σ H xs us Q I rs q
  rcases q with q | q
  · exact h pins s σ H xs us Q I rs q
  · exact h' pins s σ H xs us Q I rs q
theorem CallR.never {f : Value} : CallR X f (fun _ _ _ => False) := fun _ _ _ _ _ _ _ _ _ q => q.elim
/-- one argument -/
theorem one_arg {K : PySem.W.Frag} {α : List (Addr × Bool)} {H : Hp} {d : D} {xs : List V} (r : RpL K α H [d] xs) : ∃ v, xs = [v] ∧ Rp K α H d v := by
  cases r with
  | cons r t => cases t; exact ⟨_, rfl, r⟩
theorem two_args {K : PySem.W.Frag} {α : List (Addr × Bool)} {H : Hp} {d e : D} {xs : List V} (r : RpL K α H [d, e] xs) : ∃ v w, xs = [v, w] ∧ Rp K α H d v ∧ Rp K α H e w := by
  cases r with
  | cons r t =>
    obtain ⟨w, rfl, r2⟩ := one_arg t
    exact ⟨_, w, rfl, r, r2⟩
/-- what a built-in's rule must serve -/
def BiOk (X : Cx) (CA : Nat → Addr) (b : Bi) : Prop := ∃ r, CallR X (bltOf b) r ∧ BiS X.K CA r (biD b) ∧ BlS X.K CA r (bil b)
theorem call_lenF : CallR X (.builtin "len") (fun xs H Q => ∃ d o kvs, xs = [.ref d] ∧ H d = some (.frz o (.dK kvs)) ∧ Q (.int (kvs.length : Nat)) H) := by
  intro pins st σ H xs us Q I rs h
  obtain ⟨d, o, kvs, rfl, hd, q⟩ := h
  obtain ⟨u, rfl, ru⟩ := Vals.one rs
  cases ru
  exact d_len I (.inr ⟨o, hd⟩) fun t s' I' => ⟨.int kvs.length, H, I', ⟨t, rfl⟩, q⟩
theorem len_ok : BiOk X CA .len := by
  refine ⟨_, call_len.or (call_lenD.or call_lenF), ?_, ?_⟩
  · intro α H S ds xs Q W s r h
    simp only [biD] at h
    unfold bLen at h
    split at h
    · obtain ⟨v, rfl, r1⟩ := one_arg r
      cases r1
      split at h
      · rename_i z _ c
        exact .inl ⟨_, _, rfl, ⟨by rw [← line_eq]; exact c, rfl⟩, h.ok s (.int _)⟩
      · exact h.elim
    · obtain ⟨v, rfl, r1⟩ := one_arg r
      cases r1 with
      | tup hl rl => exact .inl ⟨_, _, rfl, .inr ⟨_, hl, rl.length⟩, h.ok s (.int _)⟩
    · obtain ⟨v, rfl, r1⟩ := one_arg r
      cases r1 with
      | fl hl rl => exact .inl ⟨_, _, rfl, .inl ⟨_, hl.sq, rl.length⟩, h.ok s (.int _)⟩
    · obtain ⟨v, rfl, r1⟩ := one_arg r
      cases r1 with
      | fd hl rl =>
        obtain ⟨o, kvs, hl, k1, _⟩ := hl
        refine .inr (.inr ⟨_, o, kvs, rfl, hl, ?_⟩)
        have := Paired.length k1
        rw [List.length_map] at this
        rw [← this]; exact h.ok s (.int _)
    · obtain ⟨v, rfl, r1⟩ := one_arg r
      cases r1 with
      | ref ha =>
        split at h
        · rename_i l e
          obtain ⟨_, vs, h1, r1⟩ := s.at_ _ _ _ _ ha e
          exact .inl ⟨_, l.length, rfl, .inl ⟨_, SqL.of h1, r1.length⟩, h.ok s (.int _)⟩
        · rename_i l e
          obtain ⟨vs, h1, r1⟩ := s.rd (l := l) (by unfold lstOf; rw [e]) ha
          exact .inl ⟨_, l.length, rfl, .inl ⟨_, h1, r1.length⟩, h.ok s (.int _)⟩
        · exact h.elim
    · exact h.elim
  · intro α H S l a vs Q W s hl rl h
    exact .inl ⟨_, l.length, rfl, .inl ⟨vs, hl, rl.length⟩, h.ok s (.int _)⟩
theorem abs_ok : BiOk X CA .abs := by
  refine ⟨_, call_abs, ?_, fun α H S l a vs Q W s hl rl h => h.elim⟩
  intro α H S ds xs Q W s r h
  simp only [biD] at h
  unfold bAbs at h
  split at h
  · obtain ⟨v, rfl, r1⟩ := one_arg r
    cases r1
    exact ⟨_, rfl, h.ok s (.int _)⟩
  · exact h.elim
theorem maxL_ok : ∀ {ns : List Int} {m : Int}, maxL ns = some m → m ∈ ns ∧ ∀ y ∈ ns, y ≤ m
  | [], m, h => by cases h
  | [x], m, h => by cases h; simp
  | x :: y :: l, m, h => by
    simp only [maxL] at h
    cases e : maxL (y :: l) with
    | none => simp only [e] at h; cases h
    | some k =>
      simp only [e, Option.map_some, Option.some.injEq] at h
      obtain ⟨h1, h2⟩ := maxL_ok e
      split at h
      · subst h
        refine ⟨List.mem_cons_self .., fun z hz => ?_⟩
        rcases List.mem_cons.mp hz with rfl | hz
        · exact Int.le_refl _
        · have := h2 z hz; omega
      · subst h
        refine ⟨List.mem_cons_of_mem _ h1, fun z hz => ?_⟩
        rcases List.mem_cons.mp hz with rfl | hz
        · omega
        · exact h2 z hz
theorem minL_ok : ∀ {ns : List Int} {m : Int}, minL ns = some m → m ∈ ns ∧ ∀ y ∈ ns, m ≤ y
  | [], m, h => by cases h
  | [x], m, h => by cases h; simp
  | x :: y :: l, m, h => by
    simp only [minL] at h
    cases e : minL (y :: l) with
    | none => simp only [e] at h; cases h
    | some k =>
      simp only [e, Option.map_some, Option.some.injEq] at h
      obtain ⟨h1, h2⟩ := minL_ok e
      split at h
      · subst h
        refine ⟨List.mem_cons_self .., fun z hz => ?_⟩
        rcases List.mem_cons.mp hz with rfl | hz
        · exact Int.le_refl _
        · have := h2 z hz; omega
      · subst h
        refine ⟨List.mem_cons_of_mem _ h1, fun z hz => ?_⟩
        rcases List.mem_cons.mp hz with rfl | hz
        · omega
        · exact h2 z hz
theorem max_l (hc : X.calm = true) : BlS X.K CA (rMax X.K) (bil .max) := by
  intro α H S l a vs Q W s hl rl h
  simp only [bil] at h
  cases e : intsOf l with
  | none => rw [e] at h; exact h.elim
  | some ns =>
    rw [e] at h
    dsimp only [Option.bind_some] at h
    have := ints_V rl e
    subst this
    cases e2 : maxL ns with
    | none => rw [e2] at h; exact h.elim
    | some m =>
      rw [e2] at h
      obtain ⟨m1, m2⟩ := maxL_ok e2
      refine ⟨a, ns, rfl, hl, by cases ns <;> simp_all [maxL], fun m' h1 h2 => ?_⟩
      have : m' = m := by have a1 := h2 m m1; have a2 := m2 m' h1; omega
      rw [this]; exact h.ok s (.int _)
theorem min_l (hc : X.calm = true) : BlS X.K CA (rMin X.K) (bil .min) := by
  intro α H S l a vs Q W s hl rl h
  simp only [bil] at h
  cases e : intsOf l with
  | none => rw [e] at h; exact h.elim
  | some ns =>
    rw [e] at h
    dsimp only [Option.bind_some] at h
    have := ints_V rl e
    subst this
    cases e2 : minL ns with
    | none => rw [e2] at h; exact h.elim
    | some m =>
      rw [e2] at h
      obtain ⟨m1, m2⟩ := minL_ok e2
      refine ⟨a, ns, rfl, hl, by cases ns <;> simp_all [minL], fun m' h1 h2 => ?_⟩
      have : m' = m := by have a1 := h2 m m1; have a2 := m2 m' h1; omega
      rw [this]; exact h.ok s (.int _)
theorem max_ok (hc : X.calm = true) : BiOk X CA .max := by
  refine ⟨_, (call_max2 hc).or (cr_max hc), ?_, fun α H S l a vs Q W s hl rl h => .inr (max_l hc α H S l a vs Q W s hl rl h)⟩
  intro α H S ds xs Q W s r h
  simp only [biD] at h
  unfold bMax at h
  split at h
  · obtain ⟨v, rfl, r1⟩ := one_arg r
    rename_i _ _ d
    cases e : seqD S d with
    | none => rw [e] at h; exact h.elim
    | some l =>
      rw [e] at h
      obtain ⟨a, vs, rfl, h1, r1⟩ := seq_rd s r1 e
      refine .inr (max_l (CA := CA) hc α H S l a vs Q W s h1 r1 ?_)
      simp only [bil]
      dsimp only [Option.bind_some] at h
      revert h
      cases intsOf l with
      | none => exact id
      | some ns => dsimp only [Option.bind_some]; cases maxL ns <;> exact id
  · obtain ⟨v, w, rfl, r1, r2⟩ := two_args r
    cases r1; cases r2
    exact .inl ⟨_, _, rfl, h.ok s (.int _)⟩
  · exact h.elim
theorem min_ok (hc : X.calm = true) : BiOk X CA .min := by
  refine ⟨_, (call_min2 hc).or (cr_min hc), ?_, fun α H S l a vs Q W s hl rl h => .inr (min_l hc α H S l a vs Q W s hl rl h)⟩
  intro α H S ds xs Q W s r h
  simp only [biD] at h
  unfold bMin at h
  split at h
  · obtain ⟨v, rfl, r1⟩ := one_arg r
    rename_i _ _ d
    cases e : seqD S d with
    | none => rw [e] at h; exact h.elim
    | some l =>
      rw [e] at h
      obtain ⟨a, vs, rfl, h1, r1⟩ := seq_rd s r1 e
      refine .inr (min_l (CA := CA) hc α H S l a vs Q W s h1 r1 ?_)
      simp only [bil]
      dsimp only [Option.bind_some] at h
      revert h
      cases intsOf l with
      | none => exact id
      | some ns => dsimp only [Option.bind_some]; cases minL ns <;> exact id
  · obtain ⟨v, w, rfl, r1, r2⟩ := two_args r
    cases r1; cases r2
    exact .inl ⟨_, _, rfl, h.ok s (.int _)⟩
  · exact h.elim
theorem never_ok (b : Bi) (h1 : ∀ ds S, biD b ds S = .no) (h2 : ∀ ds S, bil b ds S = .no) : BiOk X CA b :=
  ⟨_, CallR.never, fun α H S ds xs Q W s r h => by rw [h1] at h; exact h, fun α H S l a vs Q W s hl rl h => by rw [h2] at h; exact h⟩
theorem list_ok : BiOk X CA .list := by
  refine ⟨_, call_list_of, ?_, fun α H S l a vs Q W s hl rl h => ⟨_, _, rfl, .inl hl, h.newL s rl⟩⟩
  intro α H S ds xs Q W s r h
  simp only [biD] at h
  unfold bOfT at h
  split at h
  · obtain ⟨v, rfl, r1⟩ := one_arg r
    cases r1 with
    | tup hl rl => exact ⟨_, _, rfl, .inr hl, h.newL s rl⟩
  · obtain ⟨v, rfl, r1⟩ := one_arg r
    split at h
    · rename_i l e
      obtain ⟨a, vs, rfl, h1, r1⟩ := seq_rd s r1 e
      exact ⟨_, _, rfl, .inl h1, h.newL s r1⟩
    · exact h.elim
  · exact h.elim
theorem listF_ok : BiOk X CA .listF := by
  refine ⟨_, CallR.frz call_list_of, ?_, fun α H S l a vs Q W s hl rl h => ⟨_, _, rfl, .inl hl, h.newF s rl⟩⟩
  intro α H S ds xs Q W s r h
  simp only [biD] at h
  unfold bOfT at h
  split at h
  · obtain ⟨v, rfl, r1⟩ := one_arg r
    cases r1 with
    | tup hl rl => exact ⟨_, _, rfl, .inr hl, h.newF s rl⟩
  · obtain ⟨v, rfl, r1⟩ := one_arg r
    split at h
    · rename_i l e
      obtain ⟨a, vs, rfl, h1, r1⟩ := seq_rd s r1 e
      exact ⟨_, _, rfl, .inl h1, h.newF s r1⟩
    · exact h.elim
  · exact h.elim
theorem tuple_ok : BiOk X CA .tuple := by
  refine ⟨_, call_tuple_of, ?_, fun α H S l a vs Q W s hl rl h => ⟨_, _, rfl, .inl ⟨hl, h.newT s rl⟩⟩⟩
  intro α H S ds xs Q W s r h
  simp only [biD] at h
  unfold bOfT at h
  split at h
  · obtain ⟨v, rfl, r1⟩ := one_arg r
    cases r1 with
    | tup hl rl => exact ⟨_, _, rfl, .inr ⟨hl, h.ok s (.tup hl rl)⟩⟩
  · obtain ⟨v, rfl, r1⟩ := one_arg r
    split at h
    · rename_i l e
      obtain ⟨a, vs, rfl, h1, r1⟩ := seq_rd s r1 e
      exact ⟨_, _, rfl, .inl ⟨h1, h.newT s r1⟩⟩
    · exact h.elim
  · exact h.elim
/-- a rule over lists alone -/
theorem of_list {b : Bi} {r : List V → Hp → VK → Prop} (hb : biD b = bOf b) (hl : BlS X.K CA r (bil b)) : BiS X.K CA r (biD b) := by
  intro α H S ds xs Q W s r h
  rw [hb] at h
  unfold bOf at h
  split at h
  · obtain ⟨v, rfl, r1⟩ := one_arg r
    split at h
    · rename_i l e
      obtain ⟨a, vs, rfl, h1, r1⟩ := seq_rd s r1 e
      exact hl α H S _ _ _ Q W s h1 r1 h
    · exact h.elim
  · exact h.elim
theorem sum_ok (hc : X.calm = true) : BiOk X CA .sum := by
  refine ⟨_, (cr_sum hc).or (cr_sumT hc), ?_, fun α H S l a vs Q W s hl rl h => ?_⟩
  · intro α H S ds xs Q W s r h
    simp only [biD] at h
    unfold bOfT at h
    split at h
    · obtain ⟨v, rfl, r1⟩ := one_arg r
      cases r1 with
      | tup hl rl =>
        simp only [bil] at h
        split at h
        · rename_i ns e
          have := ints_V rl e
          subst this
          exact .inr ⟨_, ns, rfl, hl, h.ok s (.int _)⟩
        · exact h.elim
    · obtain ⟨v, rfl, r1⟩ := one_arg r
      split at h
      · rename_i l e
        obtain ⟨a, vs, rfl, h1, r1⟩ := seq_rd s r1 e
        simp only [bil] at h
        split at h
        · rename_i ns e
          have := ints_V r1 e
          subst this
          exact .inl ⟨_, ns, rfl, h1, h.ok s (.int _)⟩
        · exact h.elim
      · exact h.elim
    · exact h.elim
  · simp only [bil] at h
    split at h
    · rename_i ns e
      have := ints_V rl e
      subst this
      exact .inl ⟨a, ns, rfl, hl, h.ok s (.int _)⟩
    · exact h.elim
theorem all_ok (hc : X.calm = true) : BiOk X CA .all := by
  have hl : BlS X.K CA (rAll X.K) (bil .all) := by
    intro α H S l a vs Q W s hl rl h
    simp only [bil] at h
    split at h
    · rename_i ns e
      have := bls_V rl e
      subst this
      exact ⟨a, ns, rfl, hl, h.ok s (.bl _)⟩
    · exact h.elim
  exact ⟨_, cr_all hc, of_list rfl hl, hl⟩
theorem any_ok (hc : X.calm = true) : BiOk X CA .any := by
  have hl : BlS X.K CA (rAny X.K) (bil .any) := by
    intro α H S l a vs Q W s hl rl h
    simp only [bil] at h
    split at h
    · rename_i ns e
      have := bls_V rl e
      subst this
      exact ⟨a, ns, rfl, hl, h.ok s (.bl _)⟩
    · exact h.elim
  exact ⟨_, cr_any hc, of_list rfl hl, hl⟩
theorem toStr_cs (i : Int) : (PySem.Str.ofString (toString i)) = cs (txtInt i) := by
  rw [PySem.Str.ofString_eq_toList]; rfl
theorem str_ok : BiOk X CA .str := by
  refine ⟨_, call_str_int, ?_, fun α H S l a vs Q W s hl rl h => h.elim⟩
  intro α H S ds xs Q W s r h
  simp only [biD] at h
  unfold bStr at h
  split at h
  · obtain ⟨v, rfl, r1⟩ := one_arg r
    cases r1
    split at h
    · rename_i i _ c
      refine ⟨_, rfl, c, ?_⟩
      have := h.ok s (.str _)
      rw [← toStr_cs] at this
      exact this
    · exact h.elim
  · exact h.elim
theorem int_ok : BiOk X CA .int := by
  refine ⟨_, call_int1, ?_, fun α H S l a vs Q W s hl rl h => h.elim⟩
  intro α H S ds xs Q W s r h
  simp only [biD] at h
  unfold bInt at h
  split at h
  · obtain ⟨v, rfl, r1⟩ := one_arg r
    cases r1
    exact .inl ⟨_, rfl, h.ok s (.int _)⟩
  · obtain ⟨v, rfl, r1⟩ := one_arg r
    cases r1
    exact .inr ⟨_, rfl, h.ok s (.int _)⟩
  · exact h.elim
/-! ### sorted -/
def rSortV (K : PySem.W.Frag) : List V → Hp → VK → Prop := fun vs H Q => ∃ (a : Addr) (bs : List (V × PyData)), vs = [V.ref a] ∧ SqL K H a (bs.map Prod.fst) ∧ (∀ b ∈ bs, Dp K H b.1 b.2) ∧ PySem.W.AllAlike (bs.map Prod.snd) ∧ PySem.W.Sortable (bs.map Prod.snd) ∧ (∀ b ∈ bs, b.2.depth ≤ 40) ∧
  ∀ p, H p = none → Q (.ref p) (upd H p (.lst ((bs.mergeSort (PySem.W.dataLe false Prod.snd)).map Prod.fst)))
theorem each_rel {bs : List (V × PyData)} : ∀ {its : List Value}, Vals (bs.map Prod.fst) its → PySem.W.EachIs (fun (v : Value) (b : V × PyData) => RelV b.1 v) its bs := by
  induction bs with
  | nil => intro its r; cases r; exact .nil
  | cons b bs ih => intro its r; cases r with | cons r t => exact .cons r (ih t)
theorem rel_each : ∀ {bs : List (V × PyData)} {its : List Value}, PySem.W.EachIs (fun (v : Value) (b : V × PyData) => RelV b.1 v) its bs → Vals (bs.map Prod.fst) its
  | _, _, .nil => .nil
  | _, _, .cons r t => .cons r (rel_each t)
theorem each_reads {pins : List (Addr × Obj)} {s : Shared} {σ : SL} {H : Hp} (I : Inv X pins σ H s) {bs : List (V × PyData)} (hd : ∀ b ∈ bs, Dp X.K H b.1 b.2) : ∀ {its : List Value}, Vals (bs.map Prod.fst) its → PySem.W.EachIs (fun (v : Value) (b : V × PyData) => ∃ as, Reads s.heap v (Prod.snd b) as) its bs := by
  induction bs with
  | nil => intro its r; cases r; exact .nil
  | cons b bs ih =>
    intro its r
    cases r with
    | cons r t => exact .cons (Dp.reads I b.2 b.1 _ (hd b (by simp)) r) (ih (fun x hx => hd x (by simp [hx])) t)
theorem cr_sortV (hu : X.A.units + 65 < cLine) : CallR X (.builtin "sorted") (rSortV X.K) := by
  intro pins s σ H vs us Q I r h
  obtain ⟨a, bs, rfl, hs, hd, hal, hk, hdp, q⟩ := h
  obtain ⟨its, rv, hl, hz⟩ := I.list hs
  rw [Vals.ref1 r]
  refine PySem.W.sorted_data (enc := Prod.snd) hl.isList (each_rel rv) (each_reads I hd rv) hal hk (by simpa using hz) (fun b hb => by have := hdp b hb; omega) fun out hlen eo => ?_
  obtain ⟨ep, he'⟩ := PyProof.Rows.sortedAll_at s.heap its out.toArray
  have hlen' : ((bs.mergeSort (PySem.W.dataLe false Prod.snd)).map Prod.fst).length ≤ sizeLine := by simpa using hz
  exact ⟨.ref _, upd H (s.heap.objs.size + 1) (.lst ((bs.mergeSort (PySem.W.dataLe false Prod.snd)).map Prod.fst)), I.laid (t' := s.toks) (fun _ _ => PyProof.Rows.sortedAll_old) (Nat.le_succ _) ⟨hlen', out, ep, rel_each eo, he'⟩, rfl, q _ (I.hok.fresh (Nat.le_succ _))⟩
theorem srtOk_iff {l : List D} (h : srtOk l = true) : (∀ a ∈ l, plain 40 [] a = true) ∧ (∀ a ∈ l, ∀ b ∈ l, alD a b = true) ∧ ((∀ a ∈ l, neTup a = true) ∨ (∀ a ∈ l, notTup a = true)) ∧ l.length ≤ line := by
  unfold srtOk at h
  simp only [Bool.and_eq_true, Bool.or_eq_true, List.all_eq_true, decide_eq_true_eq] at h
  exact ⟨h.1.1.1, h.1.1.2, h.1.2, h.2⟩
theorem sortL {K : PySem.W.Frag} {α : List (Addr × Bool)} {H : Hp} {S : Sto} {l : List D} {a : Addr} {vs : List V} {Q : VK} (s : StR K α H S) (hl : SqL K H a vs) (rl : RpL K α H l vs) (ok : srtOk l = true)
    (h : ∀ ws, RpL K α H (srt l) ws → ∀ p, H p = none → Q (.ref p) (upd H p (.lst ws))) : rSortV K [.ref a] H Q := by
  obtain ⟨o1, o2, o3, o4⟩ := srtOk_iff ok
  let cs : List (V × D) := vs.zip l
  have c1 : cs.map Prod.fst = vs := List.map_fst_zip (by have := rl.length; omega)
  have c2 : cs.map Prod.snd = l := List.map_snd_zip (by have := rl.length; omega)
  have cr : ∀ c ∈ cs, Rp K α H c.2 c.1 := by
    have : ∀ {l : List D} {vs : List V}, RpL K α H l vs → ∀ c ∈ vs.zip l, Rp K α H c.2 c.1 := by
      intro l vs r
      induction r using RpL.rec (motive_1 := fun _ _ _ => True) with
      | nil => intro c hc; simp at hc
      | cons r t _ ih =>
        intro c hc
        rw [List.zip_cons_cons] at hc
        rcases List.mem_cons.mp hc with rfl | hc
        · exact r
        · exact ih c hc
      | _ => trivial
    exact this rl
  have cm : ∀ c ∈ cs, c.2 ∈ l := fun c hc => by rw [← c2]; exact List.mem_map_of_mem hc
  let f : V × D → V × PyData := fun c => (c.1, toPy 40 S c.2)
  have p40 : ∀ c ∈ cs, plain 40 S c.2 = true := fun c hc => plain_nil 40 _ (o1 _ (cm c hc))
  have fs : (cs.map f).map Prod.fst = vs := by rw [List.map_map]; exact c1
  have fd : (cs.map f).map Prod.snd = l.map (toPy 40 S) := by rw [List.map_map, ← c2, List.map_map]; rfl
  have srtd : (cs.mergeSort (fun a b => leT a.2 b.2)).map f = (cs.map f).mergeSort (PySem.W.dataLe false Prod.snd) :=
    List.map_mergeSort fun x hx y hy => by
      rw [PySem.W.dataLe_eq]
      show leT x.2 y.2 = !PySem.W.dataLt (toPy 40 S y.2) (toPy 40 S x.2)
      rw [lt_py S 40 _ _ (p40 y hy) (p40 x hx) (o2 _ (cm y hy) _ (cm x hx))]; rfl
  have srt2 : (cs.mergeSort (fun a b => leT a.2 b.2)).map Prod.snd = srt l := by
    have : (cs.mergeSort (fun a b => leT a.2 b.2)).map Prod.snd = (cs.map Prod.snd).mergeSort leT := List.map_mergeSort fun x hx y hy => rfl
    rw [this, c2]; rfl
  refine ⟨a, cs.map f, rfl, by rw [fs]; exact hl, fun b hb => ?_, ?_, ?_, fun b hb => ?_, fun p hp => ?_⟩
  · obtain ⟨c, hc, rfl⟩ := List.mem_map.mp hb
    exact dp_of s 40 (p40 c hc) (cr c hc)
  · rw [fd]
    intro d hd d' hd'
    obtain ⟨x, hx, rfl⟩ := List.mem_map.mp hd
    obtain ⟨y, hy, rfl⟩ := List.mem_map.mp hd'
    exact alike_py S 40 x y (plain_nil 40 _ (o1 x hx)) (plain_nil 40 _ (o1 y hy)) (o2 x hx y hy)
  · rw [fd]
    rcases o3 with o3 | o3
    · refine .inl fun d hd => ?_
      obtain ⟨x, hx, rfl⟩ := List.mem_map.mp hd
      have := o3 x hx
      match x, this with
      | .tup (y :: r), _ => exact ⟨_, _, rfl⟩
    · refine .inr fun d hd => ?_
      obtain ⟨x, hx, rfl⟩ := List.mem_map.mp hd
      have h1 := o3 x hx
      have h2 := o2 x hx x hx
      cases x with
      | int i => exact ⟨(fun e => nomatch e), (fun _ e => nomatch e)⟩
      | str i => exact ⟨(fun e => nomatch e), (fun _ e => nomatch e)⟩
      | tup _ => cases h1
      | _ => simp [alD] at h2
  · obtain ⟨c, hc, rfl⟩ := List.mem_map.mp hb
    exact toPy_depth S 40 c.2
  · rw [← srtd, List.map_map]
    refine h _ ?_ p hp
    rw [← srt2]
    have perm := List.mergeSort_perm cs (fun a b => leT a.2 b.2)
    have all : ∀ c ∈ cs.mergeSort (fun a b => leT a.2 b.2), Rp K α H c.2 c.1 := fun c hc => cr c (perm.mem_iff.mp hc)
    revert all
    generalize cs.mergeSort (fun a b => leT a.2 b.2) = m
    intro all
    induction m with
    | nil => exact .nil
    | cons c m ih => exact .cons (all c (by simp)) (ih fun x hx => all x (by simp [hx]))
theorem sorted_ok (hu : X.A.units + 65 < cLine) : BiOk X CA .sorted := by
  refine ⟨_, cr_sortV hu, ?_, ?_⟩
  · refine of_list rfl fun α H S l a vs Q W s hl rl h => ?_
    simp only [bil] at h
    split at h
    · rename_i ok
      exact sortL s hl rl ok fun ws rw p hp => by
        have := Post.newL s rw h p hp
        exact this
    · exact h.elim
  · intro α H S l a vs Q W s hl rl h
    simp only [bil] at h
    split at h
    · rename_i ok
      exact sortL s hl rl ok fun ws rw p hp => Post.newL s rw h p hp
    · exact h.elim
theorem sortedF_ok (hu : X.A.units + 65 < cLine) : BiOk X CA .sortedF := by
  refine ⟨_, CallR.frz (cr_sortV hu), ?_, ?_⟩
  · refine of_list rfl fun α H S l a vs Q W s hl rl h => ?_
    simp only [bil] at h
    split at h
    · rename_i ok
      exact sortL s hl rl ok fun ws rw p hp => Post.newF s rw h p hp
    · exact h.elim
  · intro α H S l a vs Q W s hl rl h
    simp only [bil] at h
    split at h
    · rename_i ok
      exact sortL s hl rl ok fun ws rw p hp => Post.newF s rw h p hp
    · exact h.elim
theorem bi_ok (hc : X.calm = true) (hu : X.A.units + 65 < cLine) (b : Bi) : BiOk X CA b := by
  cases b with
  | len => exact len_ok
  | abs => exact abs_ok
  | max => exact max_ok hc
  | min => exact min_ok hc
  | sum => exact sum_ok hc
  | int => exact int_ok
  | str => exact str_ok
  | list => exact list_ok
  | tuple => exact tuple_ok
  | all => exact all_ok hc
  | any => exact any_ok hc
  | listF => exact listF_ok
  | sorted => exact sorted_ok hu
  | sortedF => exact sortedF_ok hu
end
end Eg

namespace Eg
open PySem PySem.Spec PyProof.Rows L2

abbrev rEqv {β : Type} : List (Addr × Bool) → Hp → β → β → Prop := fun _ _ a b => a = b
/-- the wish about exceptions, at the slots -/
abbrev wAt (W : WX) (σ : SL) : XK := fun c d H => W c d σ H
/-- an expression's rule serves the engine's evaluation -/
def SE (CA : Nat → Addr) (X : Cx) (W : WX) (pe : Expr) (f : Env → Sto → R D) : Prop :=
  ∃ t : TE, PE X pe t ∧ ∀ (ρ : Env) (S : Sto) (σ : SL) (H : Hp) (α : List (Addr × Bool)) (Q : VK), EnvR X.K α H ρ σ → StR X.K α H S → Post X.K CA (Rp X.K) α H (f ρ S) Q (wAt W σ) → t σ H Q
def STe (CA : Nat → Addr) (X : Cx) (W : WX) (pe : Expr) (f : Env → Sto → R Bool) : Prop :=
  ∃ t : TT, PT X pe t ∧ ∀ (ρ : Env) (S : Sto) (σ : SL) (H : Hp) (α : List (Addr × Bool)) (Q : Bool → Hp → Prop), EnvR X.K α H ρ σ → StR X.K α H S → Post X.K CA rEqv α H (f ρ S) Q (wAt W σ) → t σ H Q
def SA (CA : Nat → Addr) (X : Cx) (W : WX) (pes : List Expr) (f : Env → Sto → R (List D)) : Prop :=
  ∃ t : TA, PA X pes t ∧ ∀ (ρ : Env) (S : Sto) (σ : SL) (H : Hp) (α : List (Addr × Bool)) (Q : List V → Hp → Prop), EnvR X.K α H ρ σ → StR X.K α H S → Post X.K CA (RpL X.K) α H (f ρ S) Q (wAt W σ) → t σ H Q
section
variable {X : Cx} {CA : Nat → Addr} {W : WX} {pos : Pos}
theorem se_no {pe : Expr} {f : Env → Sto → R D} (h : ∀ ρ S, f ρ S = .no) : SE CA X W pe f :=
  ⟨fun _ _ _ => False, ⟨fun _ _ _ _ _ _ h => h.elim⟩, fun ρ S σ H α Q _ _ p => by rw [h] at p; exact p⟩
theorem se_int {i : Int} {k : Nat} : SE CA X W (.Constant (.int i) k pos) (fun _ S => .ok (.int i) S) := ⟨_, pe_int, fun ρ S σ H α Q he hs p => p.ok hs (.int i)⟩
theorem se_bl {b : Bool} {k : Nat} : SE CA X W (.Constant (.bool b) k pos) (fun _ S => .ok (.bl b) S) := ⟨_, pe_bl, fun ρ S σ H α Q he hs p => p.ok hs (.bl b)⟩
theorem se_non {k : Nat} : SE CA X W (.Constant .none k pos) (fun _ S => .ok .non S) := ⟨_, pe_non, fun ρ S σ H α Q he hs p => p.ok hs .non⟩
theorem se_str {s : List Nat} {k : Nat} : SE CA X W (.Constant (.str (cs s)) k pos) (fun _ S => .ok (.str s) S) := ⟨_, pe_str, fun ρ S σ H α Q he hs p => p.ok hs (.str s)⟩
theorem se_var {i : Nat} {x : PySem.Str} (hN : X.N[i]? = some x) (hv : Vis X.env.scope x) (hd : (x == ("__debug__" : PySem.Str)) = false) (hc : (x == ("__classdict__" : PySem.Str)) = false) :
    SE CA X W (.Name x pos) (fun ρ S => match ρ[i]? with | some (some d) => .ok d S | _ => .no) := by
  refine ⟨_, pe_var hN hv hd hc, fun ρ S σ H α Q he hs p => ?_⟩
  dsimp only at p
  split at p
  · rename_i d e
    obtain ⟨v, h1, h2⟩ := he.get i d e
    exact ⟨v, h1, p.ok hs h2⟩
  · exact p.elim
theorem se_con {x : PySem.Str} {d : D} {u : Value} {v : V} (hg : Gl X x) (hm : X.mg x = some u) (r : RelV v u) (hr : ∀ α H, Rp X.K α H d v) (hd : (x == ("__debug__" : PySem.Str)) = false) : SE CA X W (.Name x pos) (fun _ S => .ok d S) :=
  ⟨_, pe_glob hg hm r hd, fun ρ S σ H α Q he hs p => p.ok hs (hr α H)⟩

variable {a b c : Expr} {fa fb fc : Env → Sto → R D}
/-- two parts, one after the other -/
theorem two_parts {β γ : Type} {rel : List (Addr × Bool) → Hp → β → γ → Prop} {ta tb : TE} {f g : Env → Sto → R D} {k : D → D → Sto → R β} {Q : γ → Hp → Prop} {ρ : Env} {S : Sto} {σ : SL} {H : Hp} {α : List (Addr × Bool)} {P : V → V → Hp → Prop}
    (ha : ∀ (ρ : Env) (S : Sto) (σ : SL) (H : Hp) (α : List (Addr × Bool)) (Q : VK), EnvR X.K α H ρ σ → StR X.K α H S → Post X.K CA (Rp X.K) α H (f ρ S) Q (wAt W σ) → ta σ H Q)
    (hb : ∀ (ρ : Env) (S : Sto) (σ : SL) (H : Hp) (α : List (Addr × Bool)) (Q : VK), EnvR X.K α H ρ σ → StR X.K α H S → Post X.K CA (Rp X.K) α H (g ρ S) Q (wAt W σ) → tb σ H Q)
    (he : EnvR X.K α H ρ σ) (hs : StR X.K α H S) (p : Post X.K CA rel α H ((f ρ S).bind fun x S1 => (g ρ S1).bind fun y S2 => k x y S2) Q (wAt W σ))
    (hk : ∀ α2 H2 S2 d e x y, EnvR X.K α2 H2 ρ σ → StR X.K α2 H2 S2 → Rp X.K α2 H2 d x → Rp X.K α2 H2 e y → Post X.K CA rel α2 H2 (k d e S2) Q (wAt W σ) → P x y H2) :
    ta σ H fun x H1 => tb σ H1 fun y H2 => P x y H2 := by
  refine ha _ _ _ _ _ _ he hs (p.bind.imp fun x H1 ⟨α1, S1, d, e1, s1, r1, p1⟩ => ?_)
  refine hb _ _ _ _ _ _ (he.ext e1) s1 (p1.bind.imp fun y H2 ⟨α2, S2, e, e2, s2, r2, p2⟩ => ?_)
  exact hk α2 H2 S2 d e x y ((he.ext e1).ext e2) s2 (r1.ext e2) r2 p2
theorem se_bin {o : BOp} (ha : SE CA X W a fa) (hb : SE CA X W b fb) : SE CA X W (.BinOp a (opOf o) b pos) (fun ρ S => (fa ρ S).bind fun x S1 => (fb ρ S1).bind fun y S2 => binD o x y S2) := by
  obtain ⟨ta, pa, ha⟩ := ha
  obtain ⟨tb, pb, hb⟩ := hb
  obtain ⟨r, hr, hq⟩ := op_bin (X := X) (CA := CA) o
  exact ⟨_, pe_op hr pa pb, fun ρ S σ H α Q he hs p => two_parts ha hb he hs p fun α2 H2 S2 d e x y _ s2 r1 r2 p2 => hq α2 H2 S2 d e x y Q _ s2 r1 r2 p2⟩
theorem se_neg (ha : SE CA X W a fa) : SE CA X W (.UnaryOp .USub a pos) (fun ρ S => (fa ρ S).bind fun x S1 => match x with | .int i => .ok (.int (-i)) S1 | _ => .no) := by
  obtain ⟨ta, pa, ha⟩ := ha
  refine ⟨_, pe_un un_neg pa, fun ρ S σ H α Q he hs p => ?_⟩
  refine ha _ _ _ _ _ _ he hs (p.bind.imp fun x H1 ⟨α1, S1, d, e1, s1, r1, p1⟩ => ?_)
  cases r1 <;> first | exact ⟨_, rfl, p1.ok s1 (.int _)⟩ | exact p1.elim
theorem se_cmp {o : COp} (hu : X.A.units + 65 < cLine) (hm : behindInMarks (cOf o) b = false) (ha : SE CA X W a fa) (hb : SE CA X W b fb) :
    SE CA X W (.Compare a [cOf o] [b] pos) (fun ρ S => (fa ρ S).bind fun x S1 => (fb ρ S1).bind fun y S2 => ofB S2 (cmpO o x y S2)) ∧
    STe CA X W (.Compare a [cOf o] [b] pos) (fun ρ S => tru ((fa ρ S).bind fun x S1 => (fb ρ S1).bind fun y S2 => ofB S2 (cmpO o x y S2))) := by
  obtain ⟨ta, pa, ha⟩ := ha
  obtain ⟨tb, pb, hb⟩ := hb
  obtain ⟨r, hr, hq⟩ := op_cmp (X := X) hu o
  refine ⟨⟨_, pe_cmpR hr pa pb hm, fun ρ S σ H α Q he hs p => two_parts ha hb he hs p fun α2 H2 S2 d e x y _ s2 r1 r2 p2 => ?_⟩, ⟨_, pt_cmpR hr pa pb hm, fun ρ S σ H α Q he hs p => ?_⟩⟩
  · cases h : cmpO o d e S2 with
    | none => rw [h] at p2; exact p2.elim
    | some k =>
      rw [h] at p2
      exact hq α2 H2 S2 d e x y k Q s2 r1 r2 h (p2.ok s2 (.bl k))
  · unfold tru at p
    simp only [R.bind_assoc] at p
    refine two_parts ha hb he hs p fun α2 H2 S2 d e x y _ s2 r1 r2 p2 => ?_
    cases h : cmpO o d e S2 with
    | none => rw [h] at p2; exact p2.elim
    | some k =>
      rw [h] at p2
      exact hq α2 H2 S2 d e x y k _ s2 r1 r2 h ⟨k, rfl, p2.ok s2 rfl⟩
theorem se_cmp2 {o q : COp} (hu : X.A.units + 65 < cLine) (hm : lastMarks [cOf o, cOf q] [b, c] = false) (ha : SE CA X W a fa) (hb : SE CA X W b fb) (hc : SE CA X W c fc) :
    SE CA X W (.Compare a [cOf o, cOf q] [b, c] pos) (fun ρ S => (fa ρ S).bind fun x S1 => (fb ρ S1).bind fun y S2 => match cmpO o x y S2 with
      | some true => (fc ρ S2).bind fun z S3 => ofB S3 (cmpO q y z S3)
      | some false => .ok (.bl false) S2
      | none => .no) ∧
    STe CA X W (.Compare a [cOf o, cOf q] [b, c] pos) (fun ρ S => tru ((fa ρ S).bind fun x S1 => (fb ρ S1).bind fun y S2 => match cmpO o x y S2 with
      | some true => (fc ρ S2).bind fun z S3 => ofB S3 (cmpO q y z S3)
      | some false => .ok (.bl false) S2
      | none => .no)) := by
  obtain ⟨ta, pa, ha⟩ := ha
  obtain ⟨tb, pb, hb⟩ := hb
  obtain ⟨tc, pc, hc⟩ := hc
  obtain ⟨r, hr, hq⟩ := op_cmp (X := X) hu o
  obtain ⟨r', hr', hq'⟩ := op_cmp (X := X) hu q
  refine ⟨⟨_, pe_chain hr hr' pa pb pc (hm := hm), fun ρ S σ H α Q he hs p => two_parts ha hb he hs p fun α2 H2 S2 d e x y he2 s2 r1 r2 p2 => ?_⟩, ⟨_, pt_chain hr hr' pa pb pc (hm := hm), fun ρ S σ H α Q he hs p => ?_⟩⟩
  · cases h : cmpO o d e S2 with
    | none => rw [h] at p2; exact p2.elim
    | some k =>
      rw [h] at p2
      refine hq α2 H2 S2 d e x y k _ s2 r1 r2 h ⟨k, rfl, ?_⟩
      cases k with
      | false => rw [if_neg Bool.false_ne_true]; exact p2.ok s2 (.bl false)
      | true =>
        rw [if_pos rfl]
        refine hc _ _ _ _ _ _ he2 s2 (p2.bind.imp fun z H3 ⟨α3, S3, g, e3, s3, r3, p3⟩ => ?_)
        cases h' : cmpO q e g S3 with
        | none => rw [h'] at p3; exact p3.elim
        | some k =>
          rw [h'] at p3
          exact hq' α3 H3 S3 e g y z k Q s3 (r2.ext e3) r3 h' (p3.ok s3 (.bl k))
  · unfold tru at p
    simp only [R.bind_assoc] at p
    refine two_parts ha hb he hs p fun α2 H2 S2 d e x y he2 s2 r1 r2 p2 => ?_
    cases h : cmpO o d e S2 with
    | none => rw [h] at p2; exact p2.elim
    | some k =>
      rw [h] at p2
      refine hq α2 H2 S2 d e x y k _ s2 r1 r2 h ⟨k, rfl, ?_⟩
      cases k with
      | false => rw [if_neg Bool.false_ne_true]; exact ⟨false, rfl, p2.ok s2 rfl⟩
      | true =>
        rw [if_pos rfl]
        dsimp only at p2
        rw [R.bind_assoc] at p2
        refine hc _ _ _ _ _ _ he2 s2 (p2.bind.imp fun z H3 ⟨α3, S3, g, e3, s3, r3, p3⟩ => ?_)
        cases h' : cmpO q e g S3 with
        | none => rw [h'] at p3; exact p3.elim
        | some k =>
          rw [h'] at p3
          exact hq' α3 H3 S3 e g y z k _ s3 (r2.ext e3) r3 h' ⟨k, rfl, p3.ok s3 rfl⟩

/-! ### truth -/
theorem tru_V {K : PySem.W.Frag} {α : List (Addr × Bool)} {H : Hp} {S : Sto} {d : D} {v : V} {k : Bool} (s : StR K α H S) (r : Rp K α H d v) (h : truD S d = some k) : TruV K v H k := by
  cases r with
  | non => cases h; rfl
  | bl b => cases h; rfl
  | int i =>
    cases h
    show decide (i ≠ 0) = (i != 0)
    by_cases e : i = 0 <;> simp [e]
  | str z =>
    simp only [truD] at h
    split at h
    · rename_i c
      cases h
      refine ⟨by rw [← line_eq]; exact c, ?_⟩
      show (!z.isEmpty) = ((z.length : Int) != 0)
      cases z with
      | nil => rfl
      | cons x z => simp; omega
    · cases h
  | @tup l a vs hl rl =>
    cases h
    refine .inr (.inl ⟨vs, hl, ?_⟩)
    cases rl <;> rfl
  | @ref n a m ha =>
    simp only [truD] at h
    split at h
    · rename_i l e
      cases h
      obtain ⟨_, vs, h1, r1⟩ := s.at_ n a _ _ ha e
      refine .inl ⟨vs, SqL.of h1, ?_⟩
      cases r1 <;> rfl
    · rename_i l e
      cases h
      obtain ⟨vs, h1, r1⟩ := s.rd (l := l) (by unfold lstOf; rw [e]) ha
      refine .inl ⟨vs, h1, ?_⟩
      cases r1 <;> rfl
    · cases h
  | @fl l a vs hl rl =>
    cases h
    refine .inl ⟨vs, hl.sq, ?_⟩
    cases rl <;> rfl
  | fd hl rl => cases h
/-- any expression as a test -/
theorem ste_of (ht : ∀ whole, isTrue a X.env whole = (do let v ← whole; standAt a.pos; holding [v] (truthy v))) (ha : SE CA X W a fa) : STe CA X W a (fun ρ S => tru (fa ρ S)) := by
  obtain ⟨ta, pa, ha⟩ := ha
  refine ⟨_, pt_truth pa ht, fun ρ S σ H α Q he hs p => ?_⟩
  unfold tru at p
  refine ha _ _ _ _ _ _ he hs (p.bind.imp fun x H1 ⟨α1, S1, d, e1, s1, r1, p1⟩ => ?_)
  cases h : truD S1 d with
  | none => rw [h] at p1; exact p1.elim
  | some k =>
    rw [h] at p1
    exact ⟨k, tru_V s1 r1 h, p1.ok s1 rfl⟩
theorem se_not (ha : SE CA X W a fa) : SE CA X W (.UnaryOp .Not a pos) (fun ρ S => (fa ρ S).bind fun x S1 => ofB S1 (notB (truD S1 x))) := by
  obtain ⟨ta, pa, ha⟩ := ha
  refine ⟨_, pe_notT pa, fun ρ S σ H α Q he hs p => ?_⟩
  refine ha _ _ _ _ _ _ he hs (p.bind.imp fun x H1 ⟨α1, S1, d, e1, s1, r1, p1⟩ => ?_)
  cases h : truD S1 d with
  | none => rw [h] at p1; exact p1.elim
  | some k =>
    rw [h] at p1
    exact ⟨k, tru_V s1 r1 h, p1.ok s1 (.bl _)⟩
theorem ste_not (ha : STe CA X W a (fun ρ S => tru (fa ρ S))) : STe CA X W (.UnaryOp .Not a pos) (fun ρ S => tru ((fa ρ S).bind fun x S1 => ofB S1 (notB (truD S1 x)))) := by
  obtain ⟨ta, pa, ha⟩ := ha
  refine ⟨_, pt_not pa, fun ρ S σ H α Q he hs p => ?_⟩
  refine ha ρ S _ _ α _ he hs ?_
  unfold tru at p ⊢
  dsimp only at p ⊢
  cases h : fa ρ S with
  | no => rw [h] at p; exact p
  | ex x S1 => rw [h] at p; exact p
  | ok d S1 =>
    rw [h] at p
    simp only [R.bind_ok] at p ⊢
    cases h2 : truD S1 d with
    | none => rw [h2] at p; exact p
    | some k =>
      rw [h2] at p
      exact fun α' H' v e s r => p α' H' (!v) e s (by rw [show k = v from r])
end
end Eg

namespace Eg
open PySem PySem.Spec PyProof.Rows L2
section
variable {X : Cx} {CA : Nat → Addr} {W : WX} {pos : Pos} {a b c : Expr} {fa fb fc : Env → Sto → R D} {es rest : List Expr} {fs : Env → Sto → R (List D)}
/-! ### and, or, if else -/
def SWe (CA : Nat → Addr) (X : Cx) (W : WX) (pe : Expr) (f : Env → Sto → R Bool) : Prop :=
  ∃ t : TT, PW X pe t ∧ ∀ (ρ : Env) (S : Sto) (σ : SL) (H : Hp) (α : List (Addr × Bool)) (Q : Bool → Hp → Prop), EnvR X.K α H ρ σ → StR X.K α H S → Post X.K CA rEqv α H (f ρ S) Q (wAt W σ) → t σ H Q
theorem SWe.st {pe : Expr} {f : Env → Sto → R Bool} (h : SWe CA X W pe f) : STe CA X W pe f := let ⟨t, p, q⟩ := h; ⟨t, p.pt, q⟩
theorem SWe.of {op : BoolOp} {vs : List Expr} {f : Env → Sto → R Bool} (h : STe CA X W (.BoolOp op vs pos) f) : SWe CA X W (.BoolOp op vs pos) f := by
  obtain ⟨t, p, q⟩ := h
  exact ⟨t, ⟨fun wh pins s σ H Q I hq => p.run pins s σ H Q I hq⟩, q⟩
theorem SE.one {op : BoolOp} (h : SE CA X W a fa) : SE CA X W (.BoolOp op [a] pos) fa := let ⟨t, p, q⟩ := h; ⟨t, pe_one p, q⟩
theorem SWe.one {op : BoolOp} {f : Env → Sto → R Bool} (h : STe CA X W a f) : SWe CA X W (.BoolOp op [a] pos) f := by
  obtain ⟨t, p, q⟩ := h
  cases op
  · exact ⟨t, pw_and1 p, q⟩
  · exact ⟨t, pw_or1 p, q⟩
def andF (fa fb : Env → Sto → R D) : Env → Sto → R D := fun ρ S => (fa ρ S).bind fun x S1 => match truD S1 x with
  | some true => fb ρ S1
  | some false => .ok x S1
  | none => .no
def orF (fa fb : Env → Sto → R D) : Env → Sto → R D := fun ρ S => (fa ρ S).bind fun x S1 => match truD S1 x with
  | some true => .ok x S1
  | some false => fb ρ S1
  | none => .no
theorem se_and (ha : SE CA X W a fa) (hb : SE CA X W (.BoolOp .And (b :: rest) pos) fb) : SE CA X W (.BoolOp .And (a :: b :: rest) pos) (andF fa fb) := by
  obtain ⟨ta, pa, ha⟩ := ha
  obtain ⟨tb, pb, hb⟩ := hb
  refine ⟨_, pe_andT pa pb, fun ρ S σ H α Q he hs p => ?_⟩
  unfold andF at p
  refine ha _ _ _ _ _ _ he hs (p.bind.imp fun x H1 ⟨α1, S1, d, e1, s1, r1, p1⟩ => ?_)
  cases h : truD S1 d with
  | none => rw [h] at p1; exact p1.elim
  | some k =>
    rw [h] at p1
    refine ⟨k, tru_V s1 r1 h, ?_⟩
    cases k with
    | true => rw [if_pos rfl]; exact hb _ _ _ _ _ _ (he.ext e1) s1 p1
    | false => rw [if_neg Bool.false_ne_true]; exact p1.ok s1 r1
theorem se_or (ha : SE CA X W a fa) (hb : SE CA X W (.BoolOp .Or (b :: rest) pos) fb) : SE CA X W (.BoolOp .Or (a :: b :: rest) pos) (orF fa fb) := by
  obtain ⟨ta, pa, ha⟩ := ha
  obtain ⟨tb, pb, hb⟩ := hb
  refine ⟨_, pe_orT pa pb, fun ρ S σ H α Q he hs p => ?_⟩
  unfold orF at p
  refine ha _ _ _ _ _ _ he hs (p.bind.imp fun x H1 ⟨α1, S1, d, e1, s1, r1, p1⟩ => ?_)
  cases h : truD S1 d with
  | none => rw [h] at p1; exact p1.elim
  | some k =>
    rw [h] at p1
    refine ⟨k, tru_V s1 r1 h, ?_⟩
    cases k with
    | true => rw [if_pos rfl]; exact p1.ok s1 r1
    | false => rw [if_neg Bool.false_ne_true]; exact hb _ _ _ _ _ _ (he.ext e1) s1 p1
/-- the truth of what a step hands on -/
theorem tru_step {r : R D} {d : D} {S1 : Sto} {k : Bool} {α : List (Addr × Bool)} {H : Hp} {Q : Bool → Hp → Prop} {W' : XK} {K : PySem.W.Frag} (h : truD S1 d = some k) (p : Post K CA rEqv α H (tru (.ok d S1)) Q W') (s : StR K α H S1) : Q k H := by
  unfold tru at p
  simp only [R.bind_ok, h, R.of_some] at p
  exact p.ok s rfl
theorem ste_and (ha : STe CA X W a (fun ρ S => tru (fa ρ S))) (hb : SWe CA X W (.BoolOp .And (b :: rest) pos) (fun ρ S => tru (fb ρ S))) : SWe CA X W (.BoolOp .And (a :: b :: rest) pos) (fun ρ S => tru (andF fa fb ρ S)) := by
  obtain ⟨ta, pa, ha⟩ := ha
  obtain ⟨tb, pb, hb⟩ := hb
  refine ⟨_, pw_and pa pb, fun ρ S σ H α Q he hs p => ?_⟩
  refine ha ρ S _ _ α _ he hs ?_
  unfold andF tru at p
  unfold tru
  dsimp only at p ⊢
  cases h : fa ρ S with
  | no => rw [h] at p; exact p
  | ex x S1 => rw [h] at p; exact p
  | ok d S1 =>
    rw [h] at p
    simp only [R.bind_ok] at p ⊢
    cases h2 : truD S1 d with
    | none => rw [h2] at p; exact p
    | some k =>
      rw [h2] at p
      intro α' H' v e s r
      obtain rfl : k = v := r
      cases k with
      | true => rw [if_pos rfl]; exact hb ρ S1 _ _ α' _ (he.ext e) s (Post.ext e p)
      | false =>
        rw [if_neg Bool.false_ne_true]
        simp only [R.bind_ok, h2, R.of_some] at p
        exact p α' H' false e s rfl
theorem ste_or (ha : STe CA X W a (fun ρ S => tru (fa ρ S))) (hb : SWe CA X W (.BoolOp .Or (b :: rest) pos) (fun ρ S => tru (fb ρ S))) : SWe CA X W (.BoolOp .Or (a :: b :: rest) pos) (fun ρ S => tru (orF fa fb ρ S)) := by
  obtain ⟨ta, pa, ha⟩ := ha
  obtain ⟨tb, pb, hb⟩ := hb
  refine ⟨_, pw_or pa pb, fun ρ S σ H α Q he hs p => ?_⟩
  refine ha ρ S _ _ α _ he hs ?_
  unfold orF tru at p
  unfold tru
  dsimp only at p ⊢
  cases h : fa ρ S with
  | no => rw [h] at p; exact p
  | ex x S1 => rw [h] at p; exact p
  | ok d S1 =>
    rw [h] at p
    simp only [R.bind_ok] at p ⊢
    cases h2 : truD S1 d with
    | none => rw [h2] at p; exact p
    | some k =>
      rw [h2] at p
      intro α' H' v e s r
      obtain rfl : k = v := r
      cases k with
      | false => rw [if_neg Bool.false_ne_true]; exact hb ρ S1 _ _ α' _ (he.ext e) s (Post.ext e p)
      | true =>
        rw [if_pos rfl]
        simp only [R.bind_ok, h2, R.of_some] at p
        exact p α' H' true e s rfl
def iteF (ft fa fb : Env → Sto → R D) : Env → Sto → R D := fun ρ S => (ft ρ S).bind fun x S1 => match truD S1 x with
  | some true => fa ρ S1
  | some false => fb ρ S1
  | none => .no
/-- a test, then one of two ways -/
theorem test_then {β γ : Type} {rel : List (Addr × Bool) → Hp → β → γ → Prop} {tt : TT} {ft : Env → Sto → R D} {ka kb : Sto → R β} {ρ : Env} {S : Sto} {σ : SL} {H : Hp} {α : List (Addr × Bool)} {Q : γ → Hp → Prop} {P : Bool → Hp → Prop}
    (ht : ∀ (ρ : Env) (S : Sto) (σ : SL) (H : Hp) (α : List (Addr × Bool)) (Q : Bool → Hp → Prop), EnvR X.K α H ρ σ → StR X.K α H S → Post X.K CA rEqv α H (tru (ft ρ S)) Q (wAt W σ) → tt σ H Q)
    (he : EnvR X.K α H ρ σ) (hs : StR X.K α H S)
    (p : Post X.K CA rel α H ((ft ρ S).bind fun x S1 => match truD S1 x with | some true => ka S1 | some false => kb S1 | none => .no) Q (wAt W σ))
    (h1 : ∀ α1 H1 S1, Ext α H α1 H1 → StR X.K α1 H1 S1 → Post X.K CA rel α1 H1 (ka S1) Q (wAt W σ) → P true H1) (h0 : ∀ α1 H1 S1, Ext α H α1 H1 → StR X.K α1 H1 S1 → Post X.K CA rel α1 H1 (kb S1) Q (wAt W σ) → P false H1) : tt σ H P := by
  refine ht ρ S _ _ α _ he hs ?_
  unfold tru
  cases h : ft ρ S with
  | no => rw [h] at p; exact p
  | ex x S1 => rw [h] at p; exact p
  | ok d S1 =>
    rw [h] at p
    simp only [R.bind_ok] at p ⊢
    cases h2 : truD S1 d with
    | none => rw [h2] at p; exact p
    | some k =>
      rw [h2] at p
      intro α' H' v e s r
      obtain rfl : k = v := r
      cases k with
      | true => exact h1 α' H' S1 e s (Post.ext e p)
      | false => exact h0 α' H' S1 e s (Post.ext e p)
theorem se_ite {ft : Env → Sto → R D} (ht : STe CA X W c (fun ρ S => tru (ft ρ S))) (ha : SE CA X W a fa) (hb : SE CA X W b fb) : SE CA X W (.IfExp c a b pos) (iteF ft fa fb) := by
  obtain ⟨tt, pt, ht⟩ := ht
  obtain ⟨ta, pa, ha⟩ := ha
  obtain ⟨tb, pb, hb⟩ := hb
  refine ⟨_, pe_ifExp pt pa pb, fun ρ S σ H α Q he hs p => ?_⟩
  refine test_then ht he hs p (fun α1 H1 S1 e s q => ?_) fun α1 H1 S1 e s q => ?_
  · rw [if_pos rfl]; exact ha _ _ _ _ _ _ (he.ext e) s q
  · rw [if_neg Bool.false_ne_true]; exact hb _ _ _ _ _ _ (he.ext e) s q
/-- if else as a test: the ways as tests -/
theorem pt_ifExp {tc ta tb : TT} (hc : PT X c tc) (ha : PT X a ta) (hb : PT X b tb) : PT X (.IfExp c a b pos) (fun σ H Q => tc σ H fun k H1 => if k = true then ta σ H1 Q else tb σ H1 Q) := by
  constructor
  intro pins s σ H Q I h
  have e : isTrue (.IfExp c a b pos) X.env (eval (.IfExp c a b pos) X.env) = (do if ← isTrue c X.env (eval c X.env) then isTrue a X.env (eval a X.env) else isTrue b X.env (eval b X.env)) := by
    first | rfl | simp only [isTrue]
  rw [e]
  refine wpAny_bind (thn (hc.run pins s σ H _ I h) fun k s1 ⟨H1, I1, q⟩ => ?_)
  cases k with
  | true => exact ha.run pins s1 σ H1 Q I1 q
  | false => exact hb.run pins s1 σ H1 Q I1 q
theorem ste_ite {ft : Env → Sto → R D} (ht : STe CA X W c (fun ρ S => tru (ft ρ S))) (ha : STe CA X W a (fun ρ S => tru (fa ρ S))) (hb : STe CA X W b (fun ρ S => tru (fb ρ S))) : STe CA X W (.IfExp c a b pos) (fun ρ S => tru (iteF ft fa fb ρ S)) := by
  obtain ⟨tt, pt, ht⟩ := ht
  obtain ⟨ta, pa, ha⟩ := ha
  obtain ⟨tb, pb, hb⟩ := hb
  refine ⟨_, pt_ifExp pt pa pb, fun ρ S σ H α Q he hs p => ?_⟩
  have e : tru (iteF ft fa fb ρ S) = (ft ρ S).bind fun x S1 => match truD S1 x with | some true => tru (fa ρ S1) | some false => tru (fb ρ S1) | none => .no := by
    unfold iteF
    cases h : ft ρ S with
    | no => rfl
    | ex x S1 => rfl
    | ok d S1 =>
      simp only [R.bind_ok]
      cases truD S1 d with
      | none => rfl
      | some k => cases k <;> rfl
  dsimp only at p
  rw [e] at p
  refine test_then ht he hs p (fun α1 H1 S1 e s q => ?_) fun α1 H1 S1 e s q => ?_
  · rw [if_pos rfl]; exact ha _ _ _ _ _ _ (he.ext e) s q
  · rw [if_neg Bool.false_ne_true]; exact hb _ _ _ _ _ _ (he.ext e) s q

/-! ### arguments, displays -/
theorem sa_nil : SA CA X W [] (fun _ S => .ok [] S) := ⟨_, pa_nil, fun ρ S σ H α Q he hs p => p.ok hs .nil⟩
theorem sa_cons (hx : ∀ v p, a ≠ .Starred v p) (ha : SE CA X W a fa) (hr : SA CA X W es fs) : SA CA X W (a :: es) (fun ρ S => (fa ρ S).bind fun x S1 => (fs ρ S1).bind fun l S2 => .ok (x :: l) S2) := by
  obtain ⟨ta, pa, ha⟩ := ha
  obtain ⟨tr, pr, hr⟩ := hr
  have he' : starEach (a :: es) X.env = (false, eval a X.env) :: starEach es X.env := by
    cases a <;> first | rfl | exact absurd rfl (hx _ _)
  refine ⟨_, pa_cons pa pr he', fun ρ S σ H α Q he hs p => ?_⟩
  refine ha _ _ _ _ _ _ he hs (p.bind.imp fun x H1 ⟨α1, S1, d, e1, s1, r1, p1⟩ => ?_)
  refine hr _ _ _ _ _ _ (he.ext e1) s1 (p1.bind.imp fun xs H2 ⟨α2, S2, ds, e2, s2, r2, p2⟩ => ?_)
  exact p2.ok s2 (.cons (r1.ext e2) r2)
theorem star_V {K : PySem.W.Frag} {α : List (Addr × Bool)} {H : Hp} {S : Sto} {d : D} {v : V} {k : List D} (s : StR K α H S) (r : Rp K α H d v) (h : starL S d = some k) : ∃ p xs, v = V.ref p ∧ (SqT K H p xs ∨ SqL K H p xs) ∧ RpL K α H k xs := by
  cases r with
  | tup hl rl => cases h; exact ⟨_, _, rfl, .inl hl, rl⟩
  | ref ha =>
    obtain ⟨vs, h1, rl⟩ := s.rd h ha
    exact ⟨_, vs, rfl, .inr h1, rl⟩
  | fl hl rl => cases h; exact ⟨_, _, rfl, .inr hl.sq, rl⟩
  | _ => cases h
theorem sa_star {p' : Pos} (ha : SE CA X W a fa) (hr : SA CA X W es fs) : SA CA X W (.Starred a p' :: es) (fun ρ S => (fa ρ S).bind fun x S1 => match starL S1 x with
    | some k => (fs ρ S1).bind fun l S2 => .ok (k ++ l) S2
    | none => .no) := by
  obtain ⟨ta, pa, ha⟩ := ha
  obtain ⟨tr, pr, hr⟩ := hr
  refine ⟨_, StX.pa_star pa pr, fun ρ S σ H α Q he hs p => ?_⟩
  refine ha _ _ _ _ _ _ he hs (p.bind.imp fun x H1 ⟨α1, S1, d, e1, s1, r1, p1⟩ => ?_)
  cases h : starL S1 d with
  | none => rw [h] at p1; exact p1.elim
  | some k =>
    rw [h] at p1
    obtain ⟨ad, vs, rfl, hl, rl⟩ := star_V s1 r1 h
    refine ⟨ad, vs, rfl, hl, ?_⟩
    refine hr _ _ _ _ _ _ (he.ext e1) s1 (p1.bind.imp fun xs H2 ⟨α2, S2, ds, e2, s2, r2, p2⟩ => ?_)
    exact p2.ok s2 ((rl.ext e2).append r2)
theorem se_tup {k : Nat} (h : SA CA X W es fs) : SE CA X W (.Tuple es k pos) (fun ρ S => (fs ρ S).bind fun l S1 => if l.length ≤ line then .ok (.tup l) S1 else .no) := by
  obtain ⟨t, pt, ht⟩ := h
  refine ⟨_, pe_tup pt, fun ρ S σ H α Q he hs p => ?_⟩
  refine ht _ _ _ _ _ _ he hs (p.bind.imp fun xs H1 ⟨α1, S1, ds, e1, s1, r1, p1⟩ => ?_)
  split at p1
  · rename_i c
    exact ⟨by rw [← line_eq, ← r1.length]; exact c, p1.newT s1 r1⟩
  · exact p1.elim
theorem se_lst (h : SA CA X W es fs) : SE CA X W (.List es pos) (fun ρ S => (fs ρ S).bind fun l S1 => if l.length ≤ line then .ok (.ref S1.length) (S1 ++ [.lst l]) else .no) := by
  obtain ⟨t, pt, ht⟩ := h
  refine ⟨_, pe_lst pt, fun ρ S σ H α Q he hs p => ?_⟩
  refine ht _ _ _ _ _ _ he hs (p.bind.imp fun xs H1 ⟨α1, S1, ds, e1, s1, r1, p1⟩ => ?_)
  split at p1
  · rename_i c
    exact ⟨by rw [← line_eq, ← r1.length]; exact c, p1.newL s1 r1⟩
  · exact p1.elim
/-- a display that is never changed -/
theorem se_lstF (h : SA CA X W es fs) : SE CA X W (.List es pos) (fun ρ S => (fs ρ S).bind fun l S1 => if l.length ≤ line then .ok (.fl l) S1 else .no) := by
  obtain ⟨t, pt, ht⟩ := h
  refine ⟨_, pe_frz (pe_lst pt), fun ρ S σ H α Q he hs p => ?_⟩
  refine ht _ _ _ _ _ _ he hs (p.bind.imp fun xs H1 ⟨α1, S1, ds, e1, s1, r1, p1⟩ => ?_)
  split at p1
  · rename_i c
    exact ⟨by rw [← line_eq, ← r1.length]; exact c, p1.newF s1 r1⟩
  · exact p1.elim
theorem se_dctF : SE CA X W (.Dict [] [] pos) (fun _ S => .ok (.fd [] []) S) := by
  refine ⟨_, pe_frz pe_dnewK, fun ρ S σ H α Q he hs p q hq => ?_⟩
  refine ⟨q, _, rfl, upd_same, trivial, fun od => ?_⟩
  rw [upd_upd]
  exact p α _ _ (Ext.aside hq) (hs.fresh hq) (.fd ⟨od, [], upd_same, .nil, rfl⟩ .nil)
/-- a name's list is changed no more -/
theorem se_frz {i : Nat} {x : PySem.Str} (hN : X.N[i]? = some x) (hv : Vis X.env.scope x) (hd : (x == ("__debug__" : PySem.Str)) = false) (hc : (x == ("__classdict__" : PySem.Str)) = false) :
    SE CA X W (.Name x pos) (fun ρ S => match ρ[i]? with
      | some (some (.ref n)) => (match S[n]? with
        | some (.lst l) => .ok (.fl l) (S.set n .dead)
        | _ => .no)
      | some (some (.fl l)) => .ok (.fl l) S
      | _ => .no) := by
  have pv := pe_var (pos := pos) hN hv hd hc
  refine ⟨fun σ H Q => tVar i σ H Q ∨ tVar i σ H (frzQ Q), ⟨fun pins s σ H Q I h => h.elim (pv.run pins s σ H Q I) ((pe_frz pv).run pins s σ H Q I)⟩, fun ρ S σ H α Q he hs p => ?_⟩
  dsimp only at p
  split at p
  · rename_i n e
    obtain ⟨v, h1, h2⟩ := he.get i _ e
    split at p
    · rename_i l e1
      cases h2 with
      | @ref _ ad m ha =>
        obtain ⟨rfl, vs, h3, rl⟩ := hs.at_ n ad m _ ha e1
        have mu : Mut (H ad) := by rw [h3]; trivial
        refine .inr ⟨_, h1, ad, _, rfl, h3, trivial, fun od => ?_⟩
        have ew := Ext.write (ho := .frz od (.lst vs)) ha mu
        exact p α _ _ ew (hs.write ha mu ⟨rfl, od, _, upd_same⟩) (.fl ⟨od, upd_same⟩ (rl.ext ew))
    · exact p.elim
  · rename_i l e
    obtain ⟨v, h1, h2⟩ := he.get i _ e
    exact .inl ⟨v, h1, p.ok hs h2⟩
  · exact p.elim
theorem se_dct0 : SE CA X W (.Dict [] [] pos) (fun _ S => .ok (.ref S.length) (S ++ [.dct []])) := by
  refine ⟨_, pe_dn, fun ρ S σ H α Q he hs p q hq => ?_⟩
  refine p (α ++ [(q, true)]) _ _ (Ext.new hq) (hs.push hq ⟨rfl, [], upd_same, .nil⟩) (.ref (m := true) ?_)
  rw [← hs.len]; simp
/-! ### subscripts -/
theorem se_idx (hu : X.A.units + 65 < cLine) (hb' : PlainIx b) (ha : SE CA X W a fa) (hb : SE CA X W b fb) : SE CA X W (.Subscript a b pos) (fun ρ S => (fa ρ S).bind fun x S1 => (fb ρ S1).bind fun y S2 => idxD x y S2) := by
  obtain ⟨ta, pa, ha⟩ := ha
  obtain ⟨tb, pb, hb⟩ := hb
  exact ⟨_, pe_ix (ix_list.or (ix_tup.or (ix_str.or (ix_dn hu)))) pa pb hb', fun ρ S σ H α Q he hs p => two_parts ha hb he hs p fun α2 H2 S2 d e x y _ s2 r1 r2 p2 => ops_idx α2 H2 S2 d e x y Q _ s2 r1 r2 p2⟩
theorem se_idxl {p' : Pos} (hb' : PlainIx b) (h : SA CA X W es fs) (hb : SE CA X W b fb) : SE CA X W (.Subscript (.List es p') b pos) (fun ρ S => (fs ρ S).bind fun l S1 => if l.length ≤ line then (fb ρ S1).bind fun y S2 => idxL l y S2 else .no) := by
  obtain ⟨t, pt, ht⟩ := h
  obtain ⟨tb, pb, hb⟩ := hb
  refine ⟨_, pe_ix ix_list (pe_lst pt) pb hb', fun ρ S σ H α Q he hs p => ?_⟩
  refine ht _ _ _ _ _ _ he hs (p.bind.imp fun xs H1 ⟨α1, S1, ds, e1, s1, r1, p1⟩ => ?_)
  split at p1
  · rename_i c
    refine ⟨by rw [← line_eq, ← r1.length]; exact c, fun q hq => ?_⟩
    have ea : Ext α1 H1 α1 (upd H1 q (.lst xs)) := Ext.aside hq
    refine hb _ _ _ _ _ _ ((he.ext e1).ext ea) (s1.fresh hq) ((Post.ext ea p1).bind.imp fun y H2 ⟨α2, S2, d, e2, s2, r2, p2⟩ => ?_)
    have hq2 : H2 q = some (.lst xs) := e2.keep q _ upd_same (s1.off hq)
    cases r2 with
    | int i =>
      simp only [idxL] at p2
      cases h : atL ds i with
      | none => rw [h] at p2; exact p2.elim
      | some g =>
        rw [h] at p2
        obtain ⟨v, h1, h2⟩ := atL_get ((r1.ext ea).ext e2) h
        exact ⟨q, xs, i, v, rfl, rfl, SqL.of hq2, h1, p2.ok s2 h2⟩
    | _ => exact p2.elim
  · exact p1.elim
def OSe (CA : Nat → Addr) (X : Cx) (W : WX) (pe : Option Expr) (f : Env → Sto → R (Option Int)) : Prop :=
  ∃ t, PO X pe t ∧ ∀ (ρ : Env) (S : Sto) (σ : SL) (H : Hp) (α : List (Addr × Bool)) (Q : Option Int → Hp → Prop), EnvR X.K α H ρ σ → StR X.K α H S → Post X.K CA rEqv α H (f ρ S) Q (wAt W σ) → t σ H Q
theorem os_none : OSe CA X W none (fun _ S => .ok none S) := ⟨_, po_none, fun ρ S σ H α Q he hs p => p.ok hs rfl⟩
theorem os_some (ha : SE CA X W a fa) : OSe CA X W (some a) (fun ρ S => (fa ρ S).bind fun x S1 => match x with | .int i => .ok (some i) S1 | _ => .no) := by
  obtain ⟨ta, pa, ha⟩ := ha
  refine ⟨_, po_some pa, fun ρ S σ H α Q he hs p => ?_⟩
  refine ha _ _ _ _ _ _ he hs (p.bind.imp fun x H1 ⟨α1, S1, d, e1, s1, r1, p1⟩ => ?_)
  cases r1 with
  | int i => exact ⟨i, rfl, p1.ok s1 rfl⟩
  | _ => exact p1.elim
theorem se_slc {lo hi : Option Expr} {fl fh : Env → Sto → R (Option Int)} {p2 : Pos} (ha : SE CA X W a fa) (hl : OSe CA X W lo fl) (hh : OSe CA X W hi fh) :
    SE CA X W (.Subscript a (.Slice lo hi none p2) pos) (fun ρ S => (fa ρ S).bind fun x S1 => (fl ρ S1).bind fun l S2 => (fh ρ S2).bind fun h S3 => slcD x l h S3) := by
  obtain ⟨ta, pa, ha⟩ := ha
  obtain ⟨tl, pl, hl⟩ := hl
  obtain ⟨th, ph, hh⟩ := hh
  obtain ⟨r, hr, hq⟩ := op_slc (X := X) (CA := CA)
  refine ⟨_, pe_slice hr pa pl ph, fun ρ S σ H α Q he hs p => ?_⟩
  refine ha _ _ _ _ _ _ he hs (p.bind.imp fun x H1 ⟨α1, S1, d, e1, s1, r1, p1⟩ => ?_)
  refine hl _ _ _ _ _ _ (he.ext e1) s1 (p1.bind.imp fun l H2 ⟨α2, S2, l', e2, s2, r2, p2⟩ => ?_)
  refine hh _ _ _ _ _ _ ((he.ext e1).ext e2) s2 (p2.bind.imp fun h H3 ⟨α3, S3, h', e3, s3, r3, p3⟩ => ?_)
  obtain rfl : l' = l := r2
  obtain rfl : h' = h := r3
  exact hq α3 H3 S3 d l' h' x Q _ s3 ((r1.ext e2).ext e3) p3
/-! ### built-ins, isinstance -/
theorem he_of (hx : ∀ v p, a ≠ .Starred v p) : starEach (a :: es) X.env = (false, eval a X.env) :: starEach es X.env := by
  cases a <;> first | rfl | exact absurd rfl (hx _ _)
def noStar : List Expr → Bool
  | [] => true
  | .Starred _ _ :: _ => false
  | _ :: es => noStar es
theorem noStar_ne (h : noStar (a :: es) = true) : (∀ v p, a ≠ .Starred v p) ∧ noStar es = true := by
  cases a <;> first | exact ⟨fun _ _ e => (nomatch e), h⟩ | cases h
theorem hpl_of : ∀ {es : List Expr} {env : PySem.Env} {pos : Pos}, noStar es = true → (backTo pos (starEach es env)).any (·.1) = false
  | [], _, _, _ => rfl
  | a :: es, env, pos, h => by
    obtain ⟨h1, h2⟩ := noStar_ne h
    have ih := hpl_of (env := env) (pos := pos) h2
    have e : starEach (a :: es) env = (false, eval a env) :: starEach es env := by cases a <;> first | rfl | exact absurd rfl (h1 _ _)
    rw [e]
    unfold backTo at ih ⊢
    simpa using ih
def bName : Bi → PySem.Str
  | .len => "len" | .abs => "abs" | .max => "max" | .min => "min" | .sum => "sum" | .int => "int" | .str => "str" | .list => "list" | .tuple => "tuple" | .all => "all" | .any => "any" | .sorted => "sorted" | .listF => "list" | .sortedF => "sorted"
theorem boot_b (b : Bi) : bootBuiltins (bName b) = some (bltOf b) := by cases b <;> decide +kernel
theorem bName_ne (b : Bi) : bName b ≠ ("__name__" : PySem.Str) := by cases b <;> decide +kernel
theorem bName_db (b : Bi) : (bName b == ("__debug__" : PySem.Str)) = false := by cases b <;> decide +kernel
/-- a call of a built-in with a rule -/
theorem pe_blt {b : Bi} {r : List V → Hp → VK → Prop} {t : TA} {p : Pos} (hr : CallR X (bltOf b) r) (hg : Gl X (bName b)) (hm : X.mg (bName b) = none) (ha : PA X (a :: es) t) (hx : noStar (a :: es) = true) : PE X (.Call (.Name (bName b) p) (a :: es) [] pos) (tCB r t) := by
  obtain ⟨h1, h2⟩ := noStar_ne hx
  have e := boot_b b
  cases b <;> first
    | exact pe_callB hr hg hm e ha (bName_ne _) (bName_db _) (he_of h1) (hpl_of h2)
    | exact pe_callTy hr hg hm e ha (bName_ne _) (bName_db _) (he_of h1) (hpl_of h2)
theorem se_bi {b : Bi} {p : Pos} (hc : X.calm = true) (hu : X.A.units + 65 < cLine) (hg : Gl X (bName b)) (hm : X.mg (bName b) = none) (ha : SA CA X W (a :: es) fs) (hx : noStar (a :: es) = true) : SE CA X W (.Call (.Name (bName b) p) (a :: es) [] pos) (fun ρ S => (fs ρ S).bind fun l S1 => biD b l S1) := by
  obtain ⟨t, pt, ht⟩ := ha
  obtain ⟨r, hr, hq, _⟩ := bi_ok (X := X) (CA := CA) hc hu b
  refine ⟨_, pe_blt hr hg hm pt hx, fun ρ S σ H α Q he hs p => ?_⟩
  refine ht _ _ _ _ _ _ he hs (p.bind.imp fun xs H1 ⟨α1, S1, ds, e1, s1, r1, p1⟩ => ?_)
  exact hq α1 H1 S1 ds xs Q _ s1 r1 p1
end
end Eg

namespace Eg
open PySem PySem.Spec PyProof.Rows L2
section
variable {X : Cx} {CA : Nat → Addr} {W : WX} {pos : Pos} {a b : Expr} {fa fb : Env → Sto → R D} {es : List Expr} {fs : Env → Sto → R (List D)}
/-! ### isinstance -/
def tName : Ty → PySem.Str
  | .int => "int" | .bool => "bool" | .str => "str" | .list => "list" | .tuple => "tuple" | .dict => "dict" | .cls _ => ""
theorem boot_t {t : Ty} (h : t.own = false) : bootBuiltins (tName t) = some (.type (tyS t)) := by
  cases t with
  | cls c => cases h
  | _ => decide +kernel
theorem tName_ne {t : Ty} : tName t ≠ ("__name__" : PySem.Str) ∧ (tName t == ("__debug__" : PySem.Str)) = false := by
  cases t with
  | cls c => exact ⟨(by decide +kernel : ("" : PySem.Str) ≠ ("__name__" : PySem.Str)), (by decide +kernel : (("" : PySem.Str) == ("__debug__" : PySem.Str)) = false)⟩
  | _ => exact ⟨by decide +kernel, by decide +kernel⟩
theorem pe_ty {t : Ty} (h : t.own = false) (hg : Gl X (tName t)) (hm : X.mg (tName t) = none) : PE X (.Name (tName t) pos) (tC (.ty (tyS t))) :=
  pe_bltn hg hm (boot_t h) rfl tName_ne.1 tName_ne.2
theorem boot_isi : bootBuiltins "isinstance" = some (.builtin "isinstance") := by decide +kernel
theorem se_isi1 {t : Ty} {p p2 : Pos} {sub : Nat → Nat → Bool} (ho : t.own = false) (hg : Gl X "isinstance") (hm : X.mg "isinstance" = none) (hgt : Gl X (tName t)) (hmt : X.mg (tName t) = none) (hx : ∀ v q, a ≠ .Starred v q) (ha : SE CA X W a fa) :
    SE CA X W (.Call (.Name "isinstance" p) [a, .Name (tName t) p2] [] pos) (fun ρ S => (fa ρ S).bind fun x S1 => match kind S1 x with
      | some k => .ok (.bl ([t].any (isK sub k))) S1
      | none => .no) := by
  obtain ⟨ta, pa, ha⟩ := ha
  have pA : PA X [a, .Name (tName t) p2] (tCons ta (tCons (tC (.ty (tyS t))) tNil)) := pa_cons pa (pa_cons (pe_ty ho hgt hmt) pa_nil rfl) (he_of hx)
  refine ⟨_, pe_callB call_isi hg hm boot_isi pA (by decide +kernel) (by decide +kernel) (he_of hx) rfl, fun ρ S σ H α Q he hs p => ?_⟩
  refine ha _ _ _ _ _ _ he hs (p.bind.imp fun x H1 ⟨α1, S1, d, e1, s1, r1, p1⟩ => ?_)
  cases h : kind S1 d with
  | none => rw [h] at p1; exact p1.elim
  | some k =>
    rw [h] at p1
    obtain ⟨hk, ty⟩ := kind_ty s1 r1 h
    refine ⟨x, .ty (tyS t), _, _, isK sub k t, rfl, .ty _, ty, kit_ty (kit_k hk ho), ?_⟩
    have := p1.ok s1 (.bl _)
    simpa using this
def tyNames (ts : List Ty) (ps : List Pos) : List Expr := (ts.zip ps).map fun q => .Name (tName q.1) q.2
theorem pa_tys : ∀ {ts : List Ty} {ps : List Pos}, ts.length = ps.length → (∀ t ∈ ts, t.own = false ∧ Gl X (tName t) ∧ X.mg (tName t) = none) → ∃ tt : TA, PA X (tyNames ts ps) tt ∧ ∀ σ H Q, Q (ts.map fun t => V.ty (tyS t)) H → tt σ H Q
  | [], [], _, _ => ⟨_, pa_nil, fun _ _ _ h => h⟩
  | t :: ts, p :: ps, hl, h => by
    obtain ⟨tt, h1, h2⟩ := pa_tys (ts := ts) (ps := ps) (by simpa using hl) fun t ht => h t (by simp [ht])
    obtain ⟨o, g, m⟩ := h t (by simp)
    exact ⟨_, pa_cons (pe_ty o g m) h1 rfl, fun σ H Q q => h2 σ H _ q⟩
theorem paired_tys : ∀ ts : List Ty, Paired ClsV (ts.map fun t => V.ty (tyS t)) (ts.map fun t => Value.type (tyS t))
  | [] => .nil
  | t :: ts => .cons (.ty _) (paired_tys ts)
theorem tyX_upd {K : PySem.W.Frag} {H : Hp} {p : Addr} {ho : HO} {x : V} {t : Value} (hp : H p = none) (h : TyX K H x t) : TyX K (upd H p ho) x t := by
  cases h with
  | base h =>
    cases h with
    | non => exact .base .non
    | bl b => exact .base (.bl b)
    | int b => exact .base (.int b)
    | str b => exact .base (.str b)
    | flt b => exact .base (.flt b)
    | lst e => exact .base (.lst (upd_keep hp e))
    | frz e => exact .base (.frz (upd_keep hp e))
    | tup e => exact .base (.tup (upd_keep hp e))
    | dK e => exact .base (.dK (upd_keep hp e))
    | dT e => exact .base (.dT (upd_keep hp e))
    | ins e cl ha hn htk hm => exact .base (.ins (upd_keep hp e) cl ha hn htk hm)
  | byt b => exact .byt b
  | set e => exact .set (upd_keep hp e)
  | kList e c => exact .kList e c
  | kTuple e c => exact .kTuple e c
  | kDict e c => exact .kDict e c
  | fTuple e => exact .fTuple (upd_keep hp e)
  | fDict e => exact .fDict (upd_keep hp e)
theorem se_isiT {ts : List Ty} {ps : List Pos} {p p2 : Pos} {k2 : Nat} {sub : Nat → Nat → Bool} (hl : ts.length = ps.length) (hlen : ts.length ≤ 10) (ho : ∀ t ∈ ts, t.own = false ∧ Gl X (tName t) ∧ X.mg (tName t) = none) (hg : Gl X "isinstance") (hm : X.mg "isinstance" = none) (hx : ∀ v q, a ≠ .Starred v q) (ha : SE CA X W a fa) :
    SE CA X W (.Call (.Name "isinstance" p) [a, .Tuple (tyNames ts ps) k2 p2] [] pos) (fun ρ S => (fa ρ S).bind fun x S1 => match kind S1 x with
      | some k => .ok (.bl (ts.any (isK sub k))) S1
      | none => .no) := by
  obtain ⟨ta, pa, ha⟩ := ha
  obtain ⟨tt, pt, ht⟩ := pa_tys (X := X) hl ho
  have pA : PA X [a, .Tuple (tyNames ts ps) k2 p2] (tCons ta (tCons (tTup tt) tNil)) := pa_cons pa (pa_cons (pe_tup pt) pa_nil rfl) (he_of hx)
  refine ⟨_, pe_callB call_isiT hg hm boot_isi pA (by decide +kernel) (by decide +kernel) (he_of hx) rfl, fun ρ S σ H α Q he hs p => ?_⟩
  refine ha _ _ _ _ _ _ he hs (p.bind.imp fun x H1 ⟨α1, S1, d, e1, s1, r1, p1⟩ => ?_)
  cases h : kind S1 d with
  | none => rw [h] at p1; exact p1.elim
  | some k =>
    rw [h] at p1
    obtain ⟨hk, ty⟩ := kind_ty s1 r1 h
    refine ht σ H1 _ ⟨by simp only [List.length_map]; rw [sizeLine_eq]; omega, fun q hq => ?_⟩
    have ea : Ext α1 H1 α1 (upd H1 q (.tup (ts.map fun t => V.ty (tyS t)))) := Ext.aside hq
    refine ⟨x, q, _, _, _, ts.any (isK sub k), rfl, upd_same, paired_tys ts, tyX_upd hq ty, kitAny_k hk ?_, (Post.ext ea p1).ok (s1.fresh hq) (.bl _)⟩
    simp only [List.all_eq_true, Bool.not_eq_true']
    exact fun t ht => (ho t ht).1

/-! ### calls -/
/-- what a def of the engine promises -/
def spF (K : PySem.W.Frag) (CA : Nat → Addr) (c : Cl) (f : Nat) : Sp := fun vs H Q E =>
  ∃ (α : List (Addr × Bool)) (S : Sto) (ds : List D), StR K α H S ∧ RpL K α H ds vs ∧ Post K CA (Rp K) α H (c f ds S) Q E
abbrev Df.pn (d : Df) : List PySem.Str := (d.ns.take d.ps).map cs
/-- keywords: every parameter is given by its name -/
def KwOk (fd : FuncData) (ps : List PySem.Str) (perm : List Nat) (ks : List (List Nat)) : Prop :=
  (∀ (s : Shared) (ws : List Value), ws.length = ks.length → BindsTo s fd ⟨[], (ks.map cs).zip ws⟩ (ps.zip (perm.filterMap fun i => ws[i]?))) ∧ ∀ i ∈ perm, i < ks.length
structure CallOk (X : Cx) (CA : Nat → Addr) (c : Cl) (kws : List (Nat × List Nat × List (List Nat))) (f : Nat) (d : Df) : Prop where
  ex : ∃ (fa : Addr) (fd : FuncData) (k : Nat), X.mg (cs d.name) = some (.ref fa) ∧ PySem.W.keepIn X.K (.ref fa) = true ∧ FnOk X.prog X.w X.K X.mg X.base (CX X.prog X.w) k fa fd d.pn (spF X.K CA c f) ∧ Room k X.A ∧ Binds X.K fd d.pn [] ∧
    ∀ perm ks, (f, perm, ks) ∈ kws → KwOk fd d.pn perm ks
theorem se_call {c : Cl} {kws : List (Nat × List Nat × List (List Nat))} {f : Nat} {d : Df} {p : Pos} (hC : CallOk X CA c kws f d) (tk : Takes X W) (hg : Gl X (cs d.name)) (hdb : (cs d.name == ("__debug__" : PySem.Str)) = false) (hx : noStar (a :: es) = true) (ha : SA CA X W (a :: es) fs) :
    SE CA X W (.Call (.Name (cs d.name) p) (a :: es) [] pos) (fun ρ S => (fs ρ S).bind fun l S1 => c f l S1) := by
  obtain ⟨t, pt, ht⟩ := ha
  obtain ⟨fad, fd, k, hm, hk, F, hr, hb, _⟩ := hC.ex
  obtain ⟨h1, h2⟩ := noStar_ne hx
  refine ⟨_, pe_callS F hr hg hm hk hb (fun σ => passAt tk σ) pt hdb (he_of h1) (hpl_of h2), fun ρ S σ H α Q he hs p => ?_⟩
  refine ht _ _ _ _ _ _ he hs (p.bind.imp fun xs H1 ⟨α1, S1, ds, e1, s1, r1, p1⟩ => ?_)
  exact ⟨α1, S1, ds, s1, r1, p1⟩
/-- keywords' values -/
def SKe (CA : Nat → Addr) (X : Cx) (W : WX) (pks : List Keyword) (f : Env → Sto → R (List D)) : Prop :=
  ∃ t : TA, PK X pks t ∧ ∀ (ρ : Env) (S : Sto) (σ : SL) (H : Hp) (α : List (Addr × Bool)) (Q : List V → Hp → Prop), EnvR X.K α H ρ σ → StR X.K α H S → Post X.K CA (RpL X.K) α H (f ρ S) Q (wAt W σ) → t σ H Q
theorem sk_nil : SKe CA X W [] (fun _ S => .ok [] S) := ⟨_, pk_nil, fun ρ S σ H α Q he hs p => p.ok hs .nil⟩
theorem sk_cons {ks : List Keyword} {nm : Option PySem.Str} {kp : Pos} (ha : SE CA X W a fa) (hr : SKe CA X W ks fs) : SKe CA X W (⟨nm, a, kp⟩ :: ks) (fun ρ S => (fa ρ S).bind fun x S1 => (fs ρ S1).bind fun l S2 => .ok (x :: l) S2) := by
  obtain ⟨ta, pa, ha⟩ := ha
  obtain ⟨tr, pr, hr⟩ := hr
  refine ⟨_, pk_cons pa pr, fun ρ S σ H α Q he hs p => ?_⟩
  refine ha _ _ _ _ _ _ he hs (p.bind.imp fun x H1 ⟨α1, S1, d, e1, s1, r1, p1⟩ => ?_)
  refine hr _ _ _ _ _ _ (he.ext e1) s1 (p1.bind.imp fun xs H2 ⟨α2, S2, ds, e2, s2, r2, p2⟩ => ?_)
  exact p2.ok s2 (.cons (r1.ext e2) r2)
theorem perm_V {K : PySem.W.Frag} {α : List (Addr × Bool)} {H : Hp} {ds : List D} {vs : List V} (r : RpL K α H ds vs) : ∀ (perm : List Nat), (∀ i ∈ perm, i < ds.length) → RpL K α H (perm.filterMap fun i => ds[i]?) (perm.filterMap fun i => vs[i]?)
  | [], _ => .nil
  | i :: perm, h => by
    have hi := h i (by simp)
    obtain ⟨v, h1, h2⟩ := r.get (List.getElem?_eq_getElem hi)
    have ih := perm_V r perm fun j hj => h j (by simp [hj])
    simp only [List.filterMap_cons, List.getElem?_eq_getElem hi, h1]
    exact .cons h2 ih
theorem perm_U {vs : List V} {us : List Value} (r : Vals vs us) : ∀ (perm : List Nat), (∀ i ∈ perm, i < vs.length) → Vals (perm.filterMap fun i => vs[i]?) (perm.filterMap fun i => us[i]?)
  | [], _ => .nil
  | i :: perm, h => by
    have hi := h i (by simp)
    obtain ⟨u, h1, h2⟩ := r.get (List.getElem?_eq_getElem hi)
    have ih := perm_U r perm fun j hj => h j (by simp [hj])
    simp only [List.filterMap_cons, List.getElem?_eq_getElem hi, h1]
    exact .cons h2 ih
/-- the names of keywords -/
def kwNames : List Keyword → List (List Nat) → Bool
  | [], [] => true
  | ⟨some x, _, _⟩ :: r, k :: ks => decide (x = cs k) && kwNames r ks
  | _, _ => false
theorem kw_names {env : PySem.Env} {pos : Pos} : ∀ {kws : List Keyword} {ks : List (List Nat)}, kwNames kws ks = true → (backToKw pos (keywordEach kws env)).filterMap (·.1) = ks.map cs ∧ (backToKw pos (keywordEach kws env)).all (·.1.isSome) = true ∧ (backToKw pos (keywordEach kws env)).any (·.1.isNone) = false
  | [], [], _ => ⟨rfl, rfl, rfl⟩
  | [], _ :: _, h => by cases h
  | ⟨none, _, _⟩ :: _, _, h => by cases h
  | ⟨some x, e, kp⟩ :: r, [], h => by cases h
  | ⟨some x, e, kp⟩ :: r, k :: ks, h => by
    simp only [kwNames, Bool.and_eq_true, decide_eq_true_eq] at h
    obtain ⟨h1, h2, h3⟩ := kw_names (env := env) (pos := pos) h.2
    refine ⟨?_, ?_, ?_⟩
    · show (some x).toList ++ _ = _
      rw [h.1]
      exact congrArg (cs k :: ·) h1
    · show ((some x).isSome && _) = true
      exact h2
    · show ((some x).isNone || _) = false
      exact h3
theorem pe_kw {c : Cl} {kws : List (Nat × List Nat × List (List Nat))} {f : Nat} {d : Df} {p : Pos} {pks : List Keyword} {tk : TA} {perm : List Nat} {ks : List (List Nat)} (hC : CallOk X CA c kws f d) (tW : Takes X W) (hg : Gl X (cs d.name)) (hdb : (cs d.name == ("__debug__" : PySem.Str)) = false)
    (hin : (f, perm, ks) ∈ kws) (hn : kwNames pks ks = true) (hk : PK X pks tk) :
    PE X (.Call (.Name (cs d.name) p) [] pks pos) (fun σ H Q => tk σ H fun zs H1 => zs.length = ks.length ∧ spF X.K CA c f (perm.filterMap fun i => zs[i]?) H1 Q (wAt W σ)) := by
  constructor
  intro pins s σ H Q I h
  obtain ⟨fad, fd, k, hm, hke, F, hr, hb, hkw⟩ := hC.ex
  obtain ⟨hbd, hlt⟩ := hkw perm ks hin
  obtain ⟨n1, n2, n3⟩ := kw_names (env := X.env) (pos := pos) hn
  refine wpAny_Call_Name_kw (ld_glob I hg hm ?_ hdb)
  refine PySem.W.callWith_KW0 (h₀ := X.base) I.ok.mod.kin hke n2 (thn (hk.run pos pins s σ H _ I h) fun ws s2 hz => ?_) (by rw [n3]; rfl)
  obtain ⟨zs, H2, I2, rz, hl, q⟩ := hz
  refine ⟨I2.kIn, ?_⟩
  rw [n1]
  have hzl : zs.length = ws.length := rz.length
  have r2 := perm_U rz perm fun i hi => by rw [hl]; exact hlt i hi
  refine wpAny_call (codeAny_mono (F.run X.A X.stack s2 H2 ⟨[], (ks.map cs).zip ws⟩ (perm.filterMap fun i => ws[i]?) _ Q (wAt W σ) hr I2.env0 (hbd s2 ws (by omega)) r2 q) fun r s' hq => ?_)
  cases r with
  | error e => exact passAt tW σ pins H2 s2 e s' I2 hq
  | ok fl =>
    cases fl with
    | ret u => exact I2.after hq
    | _ => exact hq.elim
theorem se_callk {c : Cl} {kws : List (Nat × List Nat × List (List Nat))} {f : Nat} {d : Df} {p : Pos} {pks : List Keyword} {perm : List Nat} {ks : List (List Nat)} (hC : CallOk X CA c kws f d) (tW : Takes X W) (hg : Gl X (cs d.name)) (hdb : (cs d.name == ("__debug__" : PySem.Str)) = false)
    (hin : (f, perm, ks) ∈ kws) (hn : kwNames pks ks = true) (hfl : ∀ ρ S l S', fs ρ S = .ok l S' → l.length = ks.length) (hk : SKe CA X W pks fs) :
    SE CA X W (.Call (.Name (cs d.name) p) [] pks pos) (fun ρ S => (fs ρ S).bind fun l S1 => c f (perm.filterMap fun i => l[i]?) S1) := by
  obtain ⟨t, pt, ht⟩ := hk
  refine ⟨_, pe_kw hC tW hg hdb hin hn pt, fun ρ S σ H α Q he hs p => ?_⟩
  have hlt : ∀ i ∈ perm, i < ks.length := by
    obtain ⟨_, _, _, _, _, _, _, _, hkw⟩ := hC.ex
    exact (hkw perm ks hin).2
  refine ht ρ S _ _ α _ he hs ?_
  dsimp only at p
  cases h : fs ρ S with
  | no => rw [h] at p; exact p
  | ex x S1 => rw [h] at p; exact p
  | ok ds S1 =>
    rw [h] at p
    intro α1 H1 zs e1 s1 r1
    have hl := hfl ρ S ds S1 h
    refine ⟨by rw [← r1.length]; exact hl, α1, S1, _, s1, perm_V r1 perm fun i hi => by rw [hl]; exact hlt i hi, Post.ext e1 p⟩
end
end Eg

namespace Eg
open PySem PySem.Spec PyProof.Rows L2
section
variable {X : Cx} {CA : Nat → Addr} {W : WX} {pos : Pos} {a b : Expr} {fa fb : Env → Sto → R D} {es : List Expr} {fs : Env → Sto → R (List D)}
/-! ### targets -/
/-- what a target leaves: the slots it names -/
def SG (X : Cx) (pt : Expr) (bd : Sto → D → Env → Option Env) (sl : List Nat) : Prop :=
  ∃ g : TG, PG X pt g ∧ ∀ (ρ ρ' : Env) (S : Sto) (σ : SL) (H : Hp) (α : List (Addr × Bool)) (d : D) (v : V) (Q : SL → Hp → Prop), EnvR X.K α H ρ σ → StR X.K α H S → Rp X.K α H d v → bd S d ρ = some ρ' →
    (∀ σ', EnvR X.K α H ρ' σ' → (∀ j, j ∉ sl → σ'[j]? = σ[j]?) → Q σ' H) → g v σ H Q
def SGs (X : Cx) (pts : List Expr) (bd : Sto → List D → Env → Option Env) (sl : List Nat) : Prop :=
  ∃ g : TGs, PGs X pts g ∧ ∀ (ρ ρ' : Env) (S : Sto) (σ : SL) (H : Hp) (α : List (Addr × Bool)) (ds : List D) (vs : List V) (Q : SL → Hp → Prop), EnvR X.K α H ρ σ → StR X.K α H S → RpL X.K α H ds vs → bd S ds ρ = some ρ' →
    (∀ σ', EnvR X.K α H ρ' σ' → (∀ j, j ∉ sl → σ'[j]? = σ[j]?) → Q σ' H) → g vs σ H Q
theorem sg_name {i : Nat} {x : PySem.Str} (hN : X.N.Nodup) (hi : X.N[i]? = some x) (hx : Loc X.env.scope x) (hf : X.fn x = true ∨ X.env.scope.names.lookup x = some .local) : SG X (.Name x pos) (fun S d ρ => bindT S (.nm i) d ρ) [i] := by
  refine ⟨gName i, pg_name hN hi hx hf, fun ρ ρ' S σ H α d v Q he hs r h hq => ?_⟩
  simp only [bindT, setE, Option.some.injEq] at h
  subst h
  refine hq _ (he.set i r) fun j hj => ?_
  rw [List.getElem?_set_ne (by simpa using Ne.symm (by simpa using hj : j ≠ i))]
theorem sgs_nil : SGs X [] (fun S ds ρ => bindTs S [] ds ρ) [] := by
  refine ⟨gNil, pgs_nil, fun ρ ρ' S σ H α ds vs Q he hs r h hq => ?_⟩
  cases r with
  | nil =>
    simp only [bindTs, Option.some.injEq] at h
    subst h
    exact ⟨rfl, hq σ he fun _ _ => rfl⟩
  | cons _ _ => simp [bindTs] at h
theorem sgs_cons {pt : Expr} {pts : List Expr} {t : Tg} {ts : List Tg} {s1 s2 : List Nat} (hx : ∀ v p, pt ≠ .Starred v p) (h1 : SG X pt (fun S d ρ => bindT S t d ρ) s1) (h2 : SGs X pts (fun S ds ρ => bindTs S ts ds ρ) s2) : SGs X (pt :: pts) (fun S ds ρ => bindTs S (t :: ts) ds ρ) (s1 ++ s2) := by
  obtain ⟨g1, p1, q1⟩ := h1
  obtain ⟨g2, p2, q2⟩ := h2
  have e : (assignEach (pt :: pts) X.env).map (·.2) = assign pt X.env :: (assignEach pts X.env).map (·.2) := by
    cases pt <;> first | rfl | exact absurd rfl (hx _ _)
  refine ⟨gCons g1 g2, pgs_cons p1 p2 e, fun ρ ρ' S σ H α ds vs Q he hs r h hq => ?_⟩
  cases r with
  | nil => simp [bindTs] at h
  | @cons d v ds vs r rs =>
    simp only [bindTs] at h
    cases hb : bindT S t d ρ with
    | none => rw [hb] at h; cases h
    | some ρ1 =>
      rw [hb] at h
      refine ⟨v, vs, rfl, q1 ρ ρ1 S σ H α d v _ he hs r hb fun σ1 he1 k1 => ?_⟩
      refine q2 ρ1 ρ' S σ1 H α ds vs _ he1 hs rs h fun σ2 he2 k2 => hq σ2 he2 fun j hj => ?_
      simp only [List.mem_append, not_or] at hj
      rw [k2 j hj.2, k1 j hj.1]
theorem noStar_assign : ∀ {es : List Expr} {env : PySem.Env}, noStar es = true → (assignEach es env).length = es.length ∧ (assignEach es env).findIdx? (·.1) = none
  | [], _, _ => ⟨rfl, rfl⟩
  | a :: es, env, h => by
    obtain ⟨h1, h2⟩ := noStar_ne h
    obtain ⟨k1, k2⟩ := noStar_assign (env := env) h2
    have e : assignEach (a :: es) env = (false, assign a env) :: assignEach es env := by cases a <;> first | rfl | exact absurd rfl (h1 _ _)
    rw [e]
    refine ⟨congrArg Nat.succ k1, ?_⟩
    rw [List.findIdx?_cons]
    simp [k2]
theorem pg_or {pt : Expr} {g g' : TG} (h : PG X pt g) (h' : PG X pt g') : PG X pt (fun v σ H Q => g v σ H Q ∨ g' v σ H Q) := by
  constructor
  intro pins s σ H v u Q I r q
  rcases q with q | q
  · exact h.run pins s σ H v u Q I r q
  · exact h'.run pins s σ H v u Q I r q
theorem bindTs_len {S : Sto} : ∀ {ts : List Tg} {ds : List D} {ρ ρ' : Env}, bindTs S ts ds ρ = some ρ' → ds.length = ts.length
  | [], [], _, _, _ => rfl
  | [], _ :: _, _, _, h => by simp [bindTs] at h
  | _ :: _, [], _, _, h => by simp [bindTs] at h
  | t :: ts, d :: ds, ρ, ρ', h => by
    simp only [bindTs] at h
    split at h
    · exact congrArg Nat.succ (bindTs_len h)
    · cases h
theorem sg_tup {pts : List Expr} {k : Nat} {ts : List Tg} {sl : List Nat} (hc : X.calm = true) (hn : noStar pts = true) (hl : pts.length = ts.length) (h : SGs X pts (fun S ds ρ => bindTs S ts ds ρ) sl) : SG X (.Tuple pts k pos) (fun S d ρ => bindT S (.tp ts) d ρ) sl := by
  obtain ⟨g, p, q⟩ := h
  obtain ⟨n1, n2⟩ := noStar_assign (env := X.env) hn
  refine ⟨_, pg_or (pg_tup (n := ts.length) hc p (n1.trans hl) n2) (pg_lst (n := ts.length) hc p (n1.trans hl) n2), fun ρ ρ' S σ H α d v Q he hs r h hq => ?_⟩
  cases r with
  | @tup l ad vs ht rl =>
    simp only [bindT] at h
    have hlen := bindTs_len h
    exact .inl ⟨ad, vs, rfl, ht, by rw [← rl.length]; exact hlen, q ρ ρ' S σ H α l vs Q he hs rl h hq⟩
  | @ref n ad m ha =>
    simp only [bindT] at h
    split at h
    · rename_i l e
      have hlen := bindTs_len h
      obtain ⟨vs, h1, rl⟩ := hs.rd e ha
      exact .inr ⟨ad, vs, rfl, h1, by rw [← rl.length]; exact hlen, q ρ ρ' S σ H α l vs Q he hs rl h hq⟩
    · cases h
  | @fl l ad vs hl rl =>
    simp only [bindT, seqD] at h
    have hlen := bindTs_len h
    exact .inr ⟨ad, vs, rfl, hl.sq, by rw [← rl.length]; exact hlen, q ρ ρ' S σ H α l vs Q he hs rl h hq⟩
  | _ => simp [bindT, seqD] at h

/-! ### what is walked -/
/-- a walk yields these items, as long as its list stays -/
def ItR (K : PySem.W.Frag) (src : Src) (J : It) (α : List (Addr × Bool)) (H : Hp) : Prop :=
  ∀ (α' : List (Addr × Bool)) (H' : Hp) (S' : Sto), Ext α H α' H' → StR K α' H' S' → gOk src.2 S' = true → ∀ i : Nat,
    (∀ d, src.1[i]? = some d → J.go i H' ∧ ∀ x H'', J.yld i H' x H'' → Ext α' H' α' H'' ∧ StR K α' H'' S' ∧ Rp K α' H'' d x) ∧ (src.1.length ≤ i → J.stop i H')
def SI (CA : Nat → Addr) (X : Cx) (W : WX) (tg pe : Expr) (f : Env → Sto → R Src) : Prop :=
  (∀ ρ S src S1, f ρ S = .ok src S1 → gOk src.2 S1 = true) ∧ ∃ w : TI, PI X tg pe w ∧ ∀ (ρ : Env) (S : Sto) (σ : SL) (H : Hp) (α : List (Addr × Bool)) (Q : It → Hp → Prop), EnvR X.K α H ρ σ → StR X.K α H S →
    Post X.K CA (fun α' H' (src : Src) J => ItR X.K src J α' H') α H (f ρ S) Q (wAt W σ) → w σ H Q
theorem pi_or {tg pe : Expr} {w w' : TI} (h : PI X tg pe w) (h' : PI X tg pe w') : PI X tg pe (fun σ H R => w σ H R ∨ w' σ H R) := by
  constructor
  intro pins s σ H R I q
  rcases q with q | q
  · exact h.run pins s σ H R I q
  · exact h'.run pins s σ H R I q
theorem itr_list {K : PySem.W.Frag} {α : List (Addr × Bool)} {H : Hp} {S : Sto} {n : Nat} {ad : Addr} {m : Bool} {l : List D} (s : StR K α H S) (ha : α[n]? = some (ad, m)) : ItR K (l, some (n, .lst l)) (Itl K ad) α H := by
  intro α' H' S' e s' g i
  obtain ⟨β, rfl, _⟩ := e.pre
  have hg : S'[n]? = some (.lst l) := of_decide_eq_true g
  obtain ⟨_, vs, h1, rl⟩ := s'.at_ n ad m _ (get_pre ha) hg
  refine ⟨fun d hd => ?_, fun hi => ⟨vs, SqL.of h1, by rw [← rl.length]; exact hi⟩⟩
  obtain ⟨v, hv, r⟩ := rl.get hd
  refine ⟨⟨vs, v, SqL.of h1, hv⟩, fun x H'' hy => ?_⟩
  obtain ⟨rfl, hy⟩ := hy
  have := hy vs (SqL.of h1)
  rw [hv] at this
  cases this
  exact ⟨Ext.refl _ _, s', r⟩
theorem sqL_frz {K : PySem.W.Frag} {α α' : List (Addr × Bool)} {H H' : Hp} {ad : Addr} {vs : List V} (e : Ext α H α' H') (h : (∃ o, H ad = some (.frz o (.lst vs))) ∨ KLst K ad vs) : SqL K H' ad vs := by
  rcases h with ⟨o, h⟩ | h
  · exact .inl (.inr ⟨o, e.frzs _ _ _ h⟩)
  · exact .inr h
theorem itr_seq {K : PySem.W.Frag} {α : List (Addr × Bool)} {H : Hp} {J : It} {l : List D} {vs : List V} (rl : RpL K α H l vs) (hJ : ∀ α' H', Ext α H α' H' → ∀ i, (∀ v, vs[i]? = some v → J.go i H' ∧ ∀ x H'', J.yld i H' x H'' → H'' = H' ∧ x = v) ∧ (vs.length ≤ i → J.stop i H')) : ItR K (l, none) J α H := by
  intro α' H' S' e s' g i
  obtain ⟨h1, h2⟩ := hJ α' H' e i
  refine ⟨fun d hd => ?_, fun hi => h2 (by rw [← rl.length]; exact hi)⟩
  obtain ⟨v, hv, r⟩ := rl.get hd
  obtain ⟨k1, k2⟩ := h1 v hv
  refine ⟨k1, fun x H'' hy => ?_⟩
  obtain ⟨rfl, rfl⟩ := k2 x H'' hy
  exact ⟨Ext.refl _ _, s', r.ext e⟩
theorem itr_ro {K : PySem.W.Frag} {α : List (Addr × Bool)} {H : Hp} {ad : Addr} {l : List D} {vs : List V} (h : (∃ o, H ad = some (.frz o (.lst vs))) ∨ KLst K ad vs) (rl : RpL K α H l vs) : ItR K (l, none) (Itl K ad) α H := by
  refine itr_seq rl fun α' H' e i => ⟨fun v hv => ⟨⟨vs, v, sqL_frz e h, hv⟩, fun x H'' hy => ?_⟩, fun hi => ⟨vs, sqL_frz e h, hi⟩⟩
  obtain ⟨e1, hy⟩ := hy
  have := hy vs (sqL_frz e h)
  rw [hv] at this
  exact ⟨e1, (Option.some.inj this).symm⟩
theorem itr_tup {K : PySem.W.Frag} {α : List (Addr × Bool)} {H : Hp} {ad : Addr} {l : List D} {vs : List V} (h : SqT K H ad vs) (rl : RpL K α H l vs) : ItR K (l, none) (Itt K ad) α H := by
  refine itr_seq rl fun α' H' e i => ⟨fun v hv => ⟨⟨vs, v, SqT.ext e h, hv⟩, fun x H'' hy => ?_⟩, fun hi => ⟨vs, SqT.ext e h, hi⟩⟩
  obtain ⟨e1, hy⟩ := hy
  have := hy vs (SqT.ext e h)
  rw [hv] at this
  exact ⟨e1, (Option.some.inj this).symm⟩
theorem strs_V {K : PySem.W.Frag} {α : List (Addr × Bool)} {H : Hp} : ∀ z : List Nat, RpL K α H (z.map fun c => D.str [c]) (z.map fun c => V.str ⟨#[c]⟩)
  | [] => .nil
  | c :: z => .cons (.str [c]) (strs_V z)
theorem itr_str {K : PySem.W.Frag} {α : List (Addr × Bool)} {H : Hp} (z : List Nat) : ItR K (z.map fun c => D.str [c], none) (Its (cs z)) α H := by
  refine itr_seq (strs_V z) fun α' H' e i => ⟨fun v hv => ?_, fun hi => ?_⟩
  · rw [List.getElem?_map] at hv
    cases hz : z[i]? with
    | none => rw [hz] at hv; cases hv
    | some c =>
      rw [hz] at hv
      cases hv
      have hlt := (List.getElem?_eq_some_iff.mp hz).1
      refine ⟨by show i < (cs z).cps.size; simpa [cs] using hlt, fun x H'' hy => ?_⟩
      obtain ⟨e1, c', hc, rfl⟩ := hy
      have : (cs z).cps[i]? = z[i]? := by simp [cs]
      rw [this, hz] at hc
      cases hc
      exact ⟨e1, rfl⟩
  · show (cs z).cps.size ≤ i
    simpa [cs] using hi
theorem rngL_V {K : PySem.W.Frag} {α : List (Addr × Bool)} {H : Hp} (lo : Int) (n : Nat) : RpL K α H (rngL lo n) ((List.range n).map fun (k : Nat) => V.int (lo + k)) := by
  unfold rngL
  have : ∀ ks : List Nat, RpL K α H (ks.map fun (k : Nat) => D.int (lo + (k : Int))) (ks.map fun (k : Nat) => V.int (lo + k)) := by
    intro ks
    induction ks with
    | nil => exact .nil
    | cons k ks ih => exact .cons (.int _) ih
  exact this _
theorem itr_rng {K : PySem.W.Frag} {α : List (Addr × Bool)} {H : Hp} (lo : Int) (n : Nat) : ItR K (rngL lo n, none) (Itr lo n) α H := by
  refine itr_seq (rngL_V lo n) fun α' H' e i => ⟨fun v hv => ?_, fun hi => by simpa [Itr] using hi⟩
  rw [List.getElem?_map] at hv
  cases hz : (List.range n)[i]? with
  | none => rw [hz] at hv; cases hv
  | some k =>
    rw [hz] at hv
    have hlt : i < n := by simpa using (List.getElem?_eq_some_iff.mp hz).1
    have hk : k = i := by
      obtain ⟨h1, h2⟩ := List.getElem?_eq_some_iff.mp hz
      simpa using h2.symm
    subst hk
    cases hv
    exact ⟨hlt, fun x H'' hy => hy⟩
theorem rngLM_V {K : PySem.W.Frag} {α : List (Addr × Bool)} {H : Hp} (lo : Int) (n : Nat) : RpL K α H (rngLM lo n) ((List.range n).map fun (k : Nat) => V.int (lo + (k : Int) * (-1))) := by
  unfold rngLM
  have : ∀ ks : List Nat, RpL K α H (ks.map fun (k : Nat) => D.int (lo + (k : Int) * -1)) (ks.map fun (k : Nat) => V.int (lo + (k : Int) * (-1))) := by
    intro ks
    induction ks with
    | nil => exact .nil
    | cons k ks ih => exact .cons (.int _) ih
  exact this _
theorem itr_rngM {K : PySem.W.Frag} {α : List (Addr × Bool)} {H : Hp} (lo : Int) (n : Nat) : ItR K (rngLM lo n, none) (Itc lo (-1) n) α H := by
  refine itr_seq (rngLM_V lo n) fun α' H' e i => ⟨fun v hv => ?_, fun hi => by simpa [Itc] using hi⟩
  rw [List.getElem?_map] at hv
  cases hz : (List.range n)[i]? with
  | none => rw [hz] at hv; cases hv
  | some k =>
    rw [hz] at hv
    have hlt : i < n := by simpa using (List.getElem?_eq_some_iff.mp hz).1
    have hk : k = i := by
      obtain ⟨h1, h2⟩ := List.getElem?_eq_some_iff.mp hz
      simpa using h2.symm
    subst hk
    cases hv
    exact ⟨hlt, fun x H'' hy => hy⟩
theorem srcD_ok {S : Sto} {d : D} {src : Src} (h : srcD S d = some src) : gOk src.2 S = true := by
  unfold srcD at h
  split at h
  · cases h; rfl
  · cases h; rfl
  · split at h
    · cases h; rfl
    · cases h
  · split at h
    · rename_i e
      cases h; exact decide_eq_true e
    · cases h; rfl
    · cases h
  · cases h
theorem R.of_ok {α : Type} {S S1 : Sto} {o : Option α} {x : α} (h : R.of S o = .ok x S1) : o = some x ∧ S1 = S := by
  cases o with
  | none => cases h
  | some y => cases h; exact ⟨rfl, rfl⟩
theorem R.bind_eq_ok {α β : Type} {r : R α} {f : α → Sto → R β} {y : β} {S2 : Sto} (h : r.bind f = .ok y S2) : ∃ x S1, r = .ok x S1 ∧ f x S1 = .ok y S2 := by
  cases r with
  | ok x S1 => exact ⟨x, S1, rfl, h⟩
  | ex x S1 => cases h
  | no => cases h
/-- an expression whose value is known to be of a kind -/
theorem se_when {ta : TE} {f : Env → Sto → R D} {k : D → Sto → R Src} {ρ : Env} {S : Sto} {σ : SL} {H : Hp} {α : List (Addr × Bool)} {Q : It → Hp → Prop} {P : VK}
    (ha : ∀ (ρ : Env) (S : Sto) (σ : SL) (H : Hp) (α : List (Addr × Bool)) (Q : VK), EnvR X.K α H ρ σ → StR X.K α H S → Post X.K CA (Rp X.K) α H (f ρ S) Q (wAt W σ) → ta σ H Q)
    (he : EnvR X.K α H ρ σ) (hs : StR X.K α H S) (p : Post X.K CA (fun α' H' (src : Src) J => ItR X.K src J α' H') α H ((f ρ S).bind k) Q (wAt W σ))
    (hk : ∀ d S1 α1 H1 x, f ρ S = .ok d S1 → Ext α H α1 H1 → StR X.K α1 H1 S1 → Rp X.K α1 H1 d x → Post X.K CA (fun α' H' (src : Src) J => ItR X.K src J α' H') α1 H1 (k d S1) Q (wAt W σ) → P x H1) : ta σ H P := by
  refine ha ρ S _ _ α _ he hs ?_
  cases h : f ρ S with
  | no => rw [h] at p; exact p
  | ex x S1 => rw [h] at p; exact p
  | ok d S1 =>
    rw [h] at p
    exact fun α1 H1 x e s r => hk d S1 α1 H1 x h e s r (Post.ext e p)
theorem si_val {tg : Expr} (ha : SE CA X W a fa) : SI CA X W tg a (fun ρ S => (fa ρ S).bind fun x S1 => .of S1 (srcD S1 x)) := by
  obtain ⟨ta, pa, ha⟩ := ha
  refine ⟨fun ρ S src S1 h => ?_, _, pi_or (pi_list pa) (pi_or (pi_tup pa) (pi_str pa)), fun ρ S σ H α Q he hs p => ?_⟩
  · obtain ⟨x, S2, _, h2⟩ := R.bind_eq_ok h
    obtain ⟨h3, rfl⟩ := R.of_ok h2
    exact srcD_ok h3
  · have way : ∀ d S1, fa ρ S = .ok d S1 → ∃ src, srcD S1 d = some src := fun d S1 h => by
      rw [show (fun ρ S => (fa ρ S).bind fun x S1 => R.of S1 (srcD S1 x)) ρ S = (fa ρ S).bind fun x S1 => R.of S1 (srcD S1 x) from rfl, h] at p
      simp only [R.bind_ok] at p
      cases e : srcD S1 d with
      | none => rw [e] at p; exact p.elim
      | some src => exact ⟨src, rfl⟩
    cases hf : fa ρ S with
    | no =>
      refine .inl (se_when ha he hs p fun d S1 α1 H1 x h => ?_)
      rw [hf] at h; cases h
    | ex x S1 =>
      refine .inl (se_when ha he hs p fun d S1 α1 H1 x h => ?_)
      rw [hf] at h; cases h
    | ok d0 S0 =>
      obtain ⟨src, hsrc⟩ := way d0 S0 hf
      cases d0 with
      | tup l =>
        refine .inr (.inl (se_when ha he hs p fun d S1 α1 H1 x h e s r q => ?_))
        rw [hf] at h; cases h
        cases r with
        | @tup _ ad vs ht rl => exact ⟨ad, rfl, ⟨vs, ht⟩, q.ok s (itr_tup ht rl)⟩
      | str z =>
        refine .inr (.inr (se_when ha he hs p fun d S1 α1 H1 x h e s r q => ?_))
        rw [hf] at h; cases h
        cases r
        simp only [srcD] at q
        split at q
        · exact ⟨_, rfl, q.ok s (itr_str z)⟩
        · exact q.elim
      | ref n =>
        simp only [srcD] at hsrc
        split at hsrc
        · rename_i l e0
          refine .inl (se_when ha he hs p fun d S1 α1 H1 x h e s r q => ?_)
          rw [hf] at h; cases h
          cases r with
          | @ref _ ad m had =>
            simp only [srcD, e0] at q
            obtain ⟨_, vs, h1, _⟩ := s.at_ n ad m _ had e0
            exact ⟨ad, rfl, ⟨vs, SqL.of h1⟩, q.ok s (itr_list s had)⟩
        · rename_i l e0
          refine .inl (se_when ha he hs p fun d S1 α1 H1 x h e s r q => ?_)
          rw [hf] at h; cases h
          cases r with
          | @ref _ ad m had =>
            simp only [srcD, e0] at q
            obtain ⟨_, vs, h1, rl⟩ := s.at_ n ad m _ had e0
            exact ⟨ad, rfl, ⟨vs, sqL_frz (Ext.refl α1 H1) h1⟩, q.ok s (itr_ro h1 rl)⟩
        · cases hsrc
      | fl l =>
        refine .inl (se_when ha he hs p fun d S1 α1 H1 x h e s r q => ?_)
        rw [hf] at h; cases h
        cases r with
        | @fl _ ad vs hl rl =>
          exact ⟨ad, rfl, ⟨vs, hl.sq⟩, q.ok s (itr_ro (.inl hl) rl)⟩
      | fd _ _ => cases hsrc
      | non => cases hsrc
      | bl _ => cases hsrc
      | int _ => cases hsrc
end
end Eg

namespace Eg
open PySem PySem.Spec PyProof.Rows L2
/-- the weakest readings, the same in every context -/
def tE (K : PySem.W.Frag) (CA : Nat → Addr) (W : WX) (f : Env → Sto → R D) : TE := fun σ H Q => ∃ (ρ : Env) (S : Sto) (α : List (Addr × Bool)), EnvR K α H ρ σ ∧ StR K α H S ∧ Post K CA (Rp K) α H (f ρ S) Q (wAt W σ)
def tT (K : PySem.W.Frag) (CA : Nat → Addr) (W : WX) (f : Env → Sto → R Bool) : TT := fun σ H Q => ∃ (ρ : Env) (S : Sto) (α : List (Addr × Bool)), EnvR K α H ρ σ ∧ StR K α H S ∧ Post K CA rEqv α H (f ρ S) Q (wAt W σ)
def gE (K : PySem.W.Frag) (bd : Sto → D → Env → Option Env) (sl : List Nat) : TG := fun v σ H Q => ∃ (ρ ρ' : Env) (S : Sto) (α : List (Addr × Bool)) (d : D), EnvR K α H ρ σ ∧ StR K α H S ∧ Rp K α H d v ∧ bd S d ρ = some ρ' ∧
  ∀ σ', EnvR K α H ρ' σ' → (∀ j, j ∉ sl → σ'[j]? = σ[j]?) → Q σ' H
section
variable {X : Cx} {CA : Nat → Addr} {W : WX} {pos : Pos} {a b : Expr} {fa fb : Env → Sto → R D} {es : List Expr} {fs : Env → Sto → R (List D)}
theorem SE.pe (h : SE CA X W a fa) : PE X a (tE X.K CA W fa) := by
  obtain ⟨t, p, q⟩ := h
  exact ⟨fun pins s σ H Q I ⟨ρ, S, α, he, hs, hp⟩ => p.run pins s σ H Q I (q ρ S σ H α Q he hs hp)⟩
theorem STe.pt {f : Env → Sto → R Bool} (h : STe CA X W a f) : PT X a (tT X.K CA W f) := by
  obtain ⟨t, p, q⟩ := h
  exact ⟨fun pins s σ H Q I ⟨ρ, S, α, he, hs, hp⟩ => p.run pins s σ H Q I (q ρ S σ H α Q he hs hp)⟩
theorem SG.pg {bd : Sto → D → Env → Option Env} {sl : List Nat} (h : SG X a bd sl) : PG X a (gE X.K bd sl) := by
  obtain ⟨t, p, q⟩ := h
  exact ⟨fun pins s σ H v u Q I r ⟨ρ, ρ', S, α, d, he, hs, hr, hb, hq⟩ => p.run pins s σ H v u Q I r (q ρ ρ' S σ H α d v Q he hs hr hb hq)⟩
def W0 : WX := fun _ _ _ _ => False
/-- a comprehension's list stands aside -/
def PostC (K : PySem.W.Frag) (CA : Nat → Addr) (α : List (Addr × Bool)) (H : Hp) (r : R (List D)) (Q : VK) (E : XK) : Prop :=
  match r with
  | .ok l S' => ∀ α' H' p vs, Ext α H α' H' → StR K α' H' S' → H p = none → H' p = some (.lst vs) → (p, true) ∉ α' → RpL K α' H' l vs → Q (.ref p) H'
  | .ex x S' => ∀ α' H' cls d, Ext α H α' H' → StR K α' H' S' → ExR K CA α' H' x cls d → E cls d H'
  | .no => False
/-- a fresh list is given to a local on its own line -/
def ASet (X : Cx) (pe : Expr) (t : TE) : Prop := ∀ (i : Nat) (y : PySem.Str) (py spos : Pos), X.N[i]? = some y → X.env.scope.names.lookup y = some .local → swapsWith pe (some (.Name y py)) spos.line X.env = pure true → PS X (.Assign [.Name y py] pe spos) (tAsg t (gName i))
def SCm (CA : Nat → Addr) (X : Cx) (W : WX) (pe : Expr) (f : Env → Sto → R (List D)) : Prop :=
  ∃ t : TE, PE X pe t ∧ ASet X pe t ∧ ∀ (ρ : Env) (S : Sto) (σ : SL) (H : Hp) (α : List (Addr × Bool)) (Q : VK), EnvR X.K α H ρ σ → StR X.K α H S → PostC X.K CA α H (f ρ S) Q (wAt W σ) → t σ H Q
theorem wipe_get {σ : SL} {j : Nat} : ∀ {vs : List Nat}, (j ∈ vs → j < σ.length → (L2.wipe σ vs)[j]? = some none) ∧ (j ∉ vs → (L2.wipe σ vs)[j]? = σ[j]?)
  | [] => ⟨fun h => by simp at h, fun _ => rfl⟩
  | v :: vs => by
    obtain ⟨h1, h2⟩ := wipe_get (σ := σ) (j := j) (vs := vs)
    unfold L2.wipe
    by_cases e : v = j
    · subst e
      refine ⟨fun _ hl => List.getElem?_set_self (by rw [wipe_length]; exact hl), fun hn => absurd (List.mem_cons_self ..) hn⟩
    · rw [List.getElem?_set_ne e]
      refine ⟨fun hm hl => h1 ?_ hl, fun hn => h2 fun hm => hn (List.mem_cons_of_mem _ hm)⟩
      rcases List.mem_cons.mp hm with hm | hm
      · exact absurd hm.symm e
      · exact hm
theorem wipe_eq {σ σ' : SL} {vs sl : List Nat} (hsub : ∀ j ∈ sl, j ∈ vs) (hl : σ'.length = (L2.wipe σ vs).length) (h : ∀ j, j ∉ sl → σ'[j]? = (L2.wipe σ vs)[j]?) : L2.wipe σ' vs = L2.wipe σ vs := by
  rw [wipe_length] at hl
  apply List.ext_getElem?
  intro j
  by_cases hj : j ∈ vs
  · by_cases hlt : j < σ.length
    · rw [wipe_get.1 hj (by rw [hl]; exact hlt), wipe_get.1 hj hlt]
    · rw [List.getElem?_eq_none (by rw [wipe_length]; omega), List.getElem?_eq_none (by rw [wipe_length]; omega)]
  · rw [wipe_get.2 hj, wipe_get.2 hj, h j fun hm => hj (hsub j hm), wipe_get.2 hj]
mutual
theorem Rp.mono0 {K : PySem.W.Frag} {α : List (Addr × Bool)} {H H' : Hp} (h1 : ∀ a xs, H a = some (.tup xs) → H' a = some (.tup xs)) (h2 : ∀ a o u, H a = some (.frz o u) → H' a = some (.frz o u)) : ∀ {d : D} {v : V}, Rp K α H d v → Rp K α H' d v
  | _, _, .non => .non
  | _, _, .bl b => .bl b
  | _, _, .int i => .int i
  | _, _, .str s => .str s
  | _, _, .tup h r => .tup (by
      rcases h with (h | ⟨o, h⟩) | h
      · exact .inl (.inl (h1 _ _ h))
      · exact .inl (.inr ⟨o, h2 _ _ _ h⟩)
      · exact .inr h) (RpL.mono0 h1 h2 r)
  | _, _, .fl h r => .fl (h.mono h2) (RpL.mono0 h1 h2 r)
  | _, _, .fd h r => .fd (h.mono h2) (RpL.mono0 h1 h2 r)
  | _, _, .ref (m := m) h => .ref (m := m) h
theorem RpL.mono0 {K : PySem.W.Frag} {α : List (Addr × Bool)} {H H' : Hp} (h1 : ∀ a xs, H a = some (.tup xs) → H' a = some (.tup xs)) (h2 : ∀ a o u, H a = some (.frz o u) → H' a = some (.frz o u)) : ∀ {l : List D} {vs : List V}, RpL K α H l vs → RpL K α H' l vs
  | _, _, .nil => .nil
  | _, _, .cons r t => .cons (Rp.mono0 h1 h2 r) (RpL.mono0 h1 h2 t)
end
section
variable {K : PySem.W.Frag} {α : List (Addr × Bool)} {H : Hp} {p : Addr} {av bv : List V}
theorem aside_t (h : H p = some (.lst av)) : ∀ a xs, H a = some (.tup xs) → upd H p (.lst bv) a = some (.tup xs) := fun a xs ha => by rw [upd_ne fun e => by rw [e, h] at ha; cases ha]; exact ha
theorem aside_f (h : H p = some (.lst av)) : ∀ a o u, H a = some (.frz o u) → upd H p (.lst bv) a = some (.frz o u) := fun a o u ha => by rw [upd_ne fun e => by rw [e, h] at ha; cases ha]; exact ha
theorem StR.aside {S : Sto} (s : StR K α H S) (h : H p = some (.lst av)) (n : (p, true) ∉ α) : StR K α (upd H p (.lst bv)) S := by
  refine ⟨s.len, s.nd, fun i a m o h1 h2 => ?_⟩
  have ho := s.at_ i a m o h1 h2
  have k1 := aside_t (bv := bv) h
  have k2 := aside_f (bv := bv) h
  have ne : m = true → a ≠ p := fun hm e => n (by rw [← e, ← hm]; exact List.mem_of_getElem? h1)
  cases o with
  | lst l => obtain ⟨hm, vs, q1, q2⟩ := ho; exact ⟨hm, vs, by rw [upd_ne (ne hm)]; exact q1, q2.mono0 k1 k2⟩
  | ro l =>
    obtain ⟨hm, vs, q1, q2⟩ := ho
    refine ⟨hm, vs, ?_, q2.mono0 k1 k2⟩
    rcases q1 with ⟨ob, q1⟩ | q1
    · exact .inl ⟨ob, k2 _ _ _ q1⟩
    · exact .inr q1
  | dct kv => obtain ⟨hm, kvs, q1, q2⟩ := ho; exact ⟨hm, kvs, by rw [upd_ne (ne hm)]; exact q1, Paired.imp2 (fun a b z => z.imp fun d v r => r.mono0 k1 k2) q2⟩
  | dead => obtain ⟨hm, ob, u, q1⟩ := ho; exact ⟨hm, ob, u, k2 _ _ _ q1⟩
  | exc c fs => exact ho
end
theorem Ext.aside2 {α α' : List (Addr × Bool)} {H H' : Hp} {p : Addr} {av bv : List V} (e : Ext α H α' H') (hp : H p = none) (h : H' p = some (.lst av)) : Ext α H α' (upd H' p (.lst bv)) := by
  have ne : ∀ {a o}, H a = some o → a ≠ p := fun q e => by rw [e, hp] at q; cases q
  refine ⟨e.pre, fun a o q n => by rw [upd_ne (ne q)]; exact e.keep a o q n, fun a xs q => by rw [upd_ne (ne q)]; exact e.tups a xs q, fun a o u q => by rw [upd_ne (ne q)]; exact e.frzs a o u q, fun a o q => ?_⟩
  obtain ⟨o', h'⟩ := e.dom a o q
  exact ⟨o', by rw [upd_ne (ne q)]; exact h'⟩
/-- the turns of a comprehension -/
theorem comp_turns {K : PySem.W.Frag} {src : Src} {J : It} {bd : Sto → D → Env → Option Env} {sl own : List Nat} {ft : Env → Sto → R Bool} {fe : Env → Sto → R D} {ρ : Env} {σ : SL} {α1 : List (Addr × Bool)} {H1 : Hp} {S1 : Sto} {p : Addr} {Q : VK} {E : XK}
    (hsub : ∀ j ∈ sl, j ∈ own) (hbl : ∀ S d ρ ρ', bd S d ρ = some ρ' → ρ'.length = ρ.length) (hp : H1 p = none) (s1 : StR K α1 H1 S1) (he : EnvR K α1 H1 ρ σ) (g1 : gOk src.2 S1 = true) (hI : ItR K src J α1 H1) (hlen : src.1.length ≤ line)
    (hp' : PostC K CA α1 H1 (compL (fun x S => bd S x (wipeE ρ own)) ft fe src.2 src.1 [] S1) Q E) :
    ∃ Wv : Nat → Nat → Hp → Prop, (∃ m, Wv 0 m (upd H1 p (.lst []))) ∧ ∀ i m H, Wv i m H → (J.stop i H ∧ Q (.ref p) H) ∨ (J.go i H ∧ ∃ Nx : Hp → Prop, (∀ H', Nx H' → ∃ m', m' < m ∧ Wv (i + 1) m' H') ∧ ∀ x H', J.yld i H x H' → gE K bd sl x (L2.wipe σ own) H' fun σ2 H2 => L2.wipe σ2 own = L2.wipe σ own ∧
      (tT K CA W0 ft) σ2 H2 fun b H3 => if b = true then (tE K CA W0 fe) σ2 H3 fun y H4 => ∃ acc, H4 p = some (.lst acc) ∧ acc.length < sizeLine ∧ Nx (upd H4 p (.lst (acc ++ [y]))) else Nx H3) := by
  let Iv := fun (i : Nat) (H' : Hp) => ∃ (α' : List (Addr × Bool)) (S' : Sto) (acc : List D) (av : List V), i ≤ src.1.length ∧ Ext α1 H1 α' H' ∧ StR K α' H' S' ∧ gOk src.2 S' = true ∧ H' p = some (.lst av) ∧ (p, true) ∉ α' ∧ RpL K α' H' acc av ∧ acc.length ≤ i ∧
    PostC K CA α1 H1 (compL (fun x S => bd S x (wipeE ρ own)) ft fe src.2 (src.1.drop i) acc S') Q E
  refine ⟨fun i m H' => m = src.1.length - i ∧ Iv i H', ⟨src.1.length, rfl, α1, S1, [], [], Nat.zero_le _, Ext.aside hp, s1.fresh hp, g1, upd_same, s1.off hp, .nil, Nat.le_refl _, by simpa using hp'⟩, ?_⟩
  rintro i m H' ⟨rfl, α', S', acc, av, hi, e', s', g', hp1, np, ra, la, hpo⟩
  obtain ⟨hgo, hstop⟩ := hI α' H' S' e' s' g' i
  by_cases hlt : i < src.1.length
  · have hd : src.1[i]? = some src.1[i] := List.getElem?_eq_getElem hlt
    obtain ⟨h1, h2⟩ := hgo _ hd
    refine .inr ⟨h1, Iv (i + 1), fun H2 h => ⟨src.1.length - (i + 1), by omega, rfl, h⟩, fun x H'' hy => ?_⟩
    obtain ⟨ey, sy, ry⟩ := h2 x H'' hy
    rw [List.drop_eq_getElem_cons hlt] at hpo
    simp only [compL] at hpo
    cases hb : bd S' src.1[i] (wipeE ρ own) with
    | none => rw [hb] at hpo; exact hpo.elim
    | some ρ' =>
      rw [hb] at hpo
      dsimp only at hpo
      have heY : EnvR K α' H'' (wipeE ρ own) (L2.wipe σ own) := ((he.ext e').ext ey).wipe own
      refine ⟨_, ρ', S', α', _, heY, sy, ry, hb, fun σ2 he2 k2 => ⟨?_, ?_⟩⟩
      · refine wipe_eq hsub ?_ k2
        rw [he2.len, hbl _ _ _ _ hb, heY.len]
      · have eY : Ext α1 H1 α' H'' := e'.trans ey
        have hpY : H'' p = some (.lst av) := ey.keep p _ hp1 np
        have raY := ra.ext ey
        refine ⟨ρ', S', α', he2, sy, ?_⟩
        cases hft : ft ρ' S' with
        | no => rw [hft] at hpo; exact hpo.elim
        | ex x S2 => rw [hft] at hpo; exact hpo.elim
        | ok bt S2 =>
          rw [hft] at hpo
          intro α2 H2 bt' e2 s2 hbt
          obtain rfl : bt = bt' := hbt
          have np2 : (p, true) ∉ α2 := fun hm => by
            obtain ⟨β, rfl, hβ⟩ := e2.pre
            rcases List.mem_append.mp hm with hm | hm
            · exact np hm
            · have z := hβ _ hm; rw [hpY] at z; cases z
          have hp2 : H2 p = some (.lst av) := e2.keep p _ hpY np
          cases bt with
          | false =>
            rw [if_neg Bool.false_ne_true]
            dsimp only at hpo
            split at hpo
            · rename_i g2
              exact ⟨α2, S2, acc, av, hlt, eY.trans e2, s2, g2, hp2, np2, raY.ext e2, by omega, hpo⟩
            · exact hpo.elim
          | true =>
            rw [if_pos rfl]
            dsimp only at hpo
            refine ⟨ρ', S2, α2, he2.ext e2, s2, ?_⟩
            cases hfe : fe ρ' S2 with
            | no => rw [hfe] at hpo; exact hpo.elim
            | ex x S3 => rw [hfe] at hpo; exact hpo.elim
            | ok dd S3 =>
              rw [hfe] at hpo
              dsimp only at hpo
              split at hpo
              · rename_i g3
                intro α3 H3 y e3 s3 r3
                have np3 : (p, true) ∉ α3 := fun hm => by
                  obtain ⟨β, rfl, hβ⟩ := e3.pre
                  rcases List.mem_append.mp hm with hm | hm
                  · exact np2 hm
                  · have z := hβ _ hm; rw [hp2] at z; cases z
                have hp3 : H3 p = some (.lst av) := e3.keep p _ hp2 np2
                have ra3 := (raY.ext e2).ext e3
                refine ⟨av, hp3, by rw [← line_eq, ← ra.length]; omega, α3, S3, acc ++ [dd], av ++ [y], hlt, ((eY.trans e2).trans e3).aside2 hp hp3, s3.aside hp3 np3, g3, upd_same, np3, ?_, by simp; omega, hpo⟩
                exact ((ra3.append (RpL.one r3)).mono0 (aside_t hp3) (aside_f hp3))
              · exact hpo.elim
  · have e : i = src.1.length := by omega
    subst e
    refine .inl ⟨hstop (Nat.le_refl _), ?_⟩
    rw [List.drop_length] at hpo
    exact hpo α' H' p av e' s' hp hp1 np ra
/-- the tests of a comprehension -/
def STo (CA : Nat → Addr) (X : Cx) (pifs : List Expr) (f : Env → Sto → R Bool) : Prop := PTs X pifs (tT X.K CA W0 f)
theorem sto_nil : STo CA X [] (fun _ S => .ok true S) := ⟨fun pins s σ H Q I ⟨ρ, S, α, he, hs, hp⟩ => pts_nil.run pins s σ H Q I (hp.ok hs rfl)⟩
theorem sto_one {f : Env → Sto → R Bool} (h : STe CA X W0 a f) : STo CA X [a] f := pts_one h.pt
theorem sc_comp {elt tg iter : Expr} {ifs : List Expr} {scope : Scope} {own : List (PySem.Str × Nat)} {bd : Sto → D → Env → Option Env} {sl : List Nat} {ft : Env → Sto → R Bool} {fe : Env → Sto → R D} {fi : Env → Sto → R Src}
    (hc : X.calm = true) (hN : X.N.Nodup) (hi : SI CA X W tg iter fi) (ok : BlkOk X.N X.env.scope scope own) (hsub : ∀ j ∈ sl, j ∈ own.map (·.2)) (hbl : ∀ S d ρ ρ', bd S d ρ = some ρ' → ρ'.length = ρ.length)
    (hg : ∀ (s : Shared) (H : Hp) (C : Addr) (cl : List (PySem.Str × Addr)) (fp : List Addr), SG (X.blk s H scope (compEnvC scope cl C X.env) fp) tg bd sl)
    (ht : ∀ (s : Shared) (H : Hp) (C : Addr) (cl : List (PySem.Str × Addr)) (fp : List Addr), STo CA (X.blk s H scope (compEnvC scope cl C X.env) fp) ifs ft)
    (he : ∀ (s : Shared) (H : Hp) (C : Addr) (cl : List (PySem.Str × Addr)) (fp : List Addr), SE CA (X.blk s H scope (compEnvC scope cl C X.env) fp) W0 elt fe)
    (hs : ∀ x, foldedSetIterable iter X.env x = pure x) :
    SCm CA X W (.ListComp elt [⟨tg, iter, ifs, 0⟩] scope pos) (fun ρ S => (fi ρ S).bind fun p S1 => if p.1.length ≤ line then compL (fun x S => bd S x (wipeE ρ (own.map (·.2)))) ft fe p.2 p.1 [] S1 else .no) := by
  obtain ⟨hgk, w, pw, hw⟩ := hi
  refine ⟨_, pe_lc (g := gE X.K bd sl) (tt := tT X.K CA W0 ft) (te := tE X.K CA W0 fe) hc hN pw ok (fun s H C cl fp => (hg s H C cl fp).pg) (fun s H C cl fp => ht s H C cl fp) (fun s H C cl fp => (he s H C cl fp).pe) hs, fun i y py spos hy hl hsw => ps_setLc hc hN hy hl hsw pw ok (fun s H C cl fp => (hg s H C cl fp).pg) (fun s H C cl fp => ht s H C cl fp) (fun s H C cl fp => (he s H C cl fp).pe) hs, fun ρ S σ H α Q hen hst p => ?_⟩
  refine hw ρ S _ _ α _ hen hst ?_
  dsimp only at p
  cases h : fi ρ S with
  | no => rw [h] at p; exact p
  | ex x S1 => rw [h] at p; exact p
  | ok src S1 =>
    rw [h] at p
    simp only [R.bind_ok] at p
    intro α1 H1 J e1 s1 hI D hD
    split at p
    · rename_i hlen
      have hH : H D = none := by
        cases q : H D with
        | none => rfl
        | some o =>
          obtain ⟨o', h'⟩ := e1.dom D o q
          rw [hD] at h'; cases h'
      refine comp_turns (E := wAt W σ) hsub hbl hD s1 (hen.ext e1) (hgk _ _ _ _ h) hI hlen ?_
      revert p
      generalize compL _ ft fe src.2 src.1 [] S1 = r
      intro p
      cases r with
      | ok l S' => exact fun α' H' q vs e s hq hq' nq rl => p α' H' q vs (e1.trans e) s (by
          cases z : H q with
          | none => rfl
          | some o =>
            obtain ⟨o', h'⟩ := e1.dom q o z
            rw [hq] at h'; cases h') hq' nq rl
      | ex x S' => exact fun α' H' cls d e s r => p α' H' cls d (e1.trans e) s r
      | no => exact p
    · exact p.elim
/-- the comprehension as a value -/
theorem se_comp {f : Env → Sto → R (List D)} (h : SCm CA X W a f) : SE CA X W a (fun ρ S => (f ρ S).bind fun l S1 => .ok (.ref S1.length) (S1 ++ [.lst l])) := by
  obtain ⟨t, pt, _, ht⟩ := h
  refine ⟨t, pt, fun ρ S σ H α Q he hs p => ht ρ S σ H α Q he hs ?_⟩
  dsimp only at p
  cases h : f ρ S with
  | no => rw [h] at p; exact p
  | ex x S1 => rw [h] at p; exact p
  | ok l S1 =>
    rw [h] at p
    intro α' H' q vs e s hq hq' nq rl
    refine p (α' ++ [(q, true)]) H' _ (e.adopt hq) (s.adopt nq ⟨rfl, vs, hq', rl.more⟩) (.ref (m := true) ?_)
    rw [← s.len]; simp
/-- .. locked at once -/
theorem frz_aside {α α' : List (Addr × Bool)} {H H' : Hp} {S1 : Sto} {q : Addr} {vs : List V} {l : List D} (e : Ext α H α' H') (s : StR X.K α' H' S1) (hq : H q = none) (hq' : H' q = some (.lst vs)) (nq : (q, true) ∉ α') (rl : RpL X.K α' H' l vs) (od : Obj) :
    Ext α H α' (upd H' q (.frz od (.lst vs))) ∧ StR X.K α' (upd H' q (.frz od (.lst vs))) S1 ∧ Rp X.K α' (upd H' q (.frz od (.lst vs))) (.fl l) (.ref q) := by
  have keep : ∀ ho, ∀ b, b ≠ q → H' b = some ho → upd H' q (.frz od (.lst vs)) b = some ho := fun ho b hb h => by rw [upd_ne hb]; exact h
  have e2 : Ext α H α' (upd H' q (.frz od (.lst vs))) := by
    have ne : ∀ {b o}, H b = some o → b ≠ q := fun z w => by rw [w, hq] at z; cases z
    refine ⟨e.pre, fun b o z n => keep _ _ (ne z) (e.keep b o z n), fun b xs z => keep _ _ (ne z) (e.tups b xs z), fun b o u z => keep _ _ (ne z) (e.frzs b o u z), fun b o z => ?_⟩
    obtain ⟨o', z'⟩ := e.dom b o z
    exact ⟨o', keep _ _ (ne z) z'⟩
  have k1 : ∀ b xs, H' b = some (.tup xs) → upd H' q (.frz od (.lst vs)) b = some (.tup xs) := fun b xs z => keep _ _ (fun w => by rw [w, hq'] at z; cases z) z
  have k2 : ∀ b o u, H' b = some (.frz o u) → upd H' q (.frz od (.lst vs)) b = some (.frz o u) := fun b o u z => keep _ _ (fun w => by rw [w, hq'] at z; cases z) z
  refine ⟨e2, ?_, .fl ⟨od, upd_same⟩ (rl.mono0 k1 k2)⟩
  refine ⟨s.len, s.nd, fun i b m o h1 h2 => ?_⟩
  have ho := s.at_ i b m o h1 h2
  have ne : m = true → b ≠ q := fun hm z => nq (by rw [← z, ← hm]; exact List.mem_of_getElem? h1)
  cases o with
  | lst l => obtain ⟨hm, vs, q1, q2⟩ := ho; exact ⟨hm, vs, keep _ _ (ne hm) q1, q2.mono0 k1 k2⟩
  | ro l =>
    obtain ⟨hm, vs, q1, q2⟩ := ho
    refine ⟨hm, vs, ?_, q2.mono0 k1 k2⟩
    rcases q1 with ⟨ob, q1⟩ | q1
    · exact .inl ⟨ob, k2 _ _ _ q1⟩
    · exact .inr q1
  | dct kv => obtain ⟨hm, kvs, q1, q2⟩ := ho; exact ⟨hm, kvs, keep _ _ (ne hm) q1, Paired.imp2 (fun a b z => z.imp fun d v r => r.mono0 k1 k2) q2⟩
  | dead => obtain ⟨hm, ob, u, q1⟩ := ho; exact ⟨hm, ob, u, k2 _ _ _ q1⟩
  | exc c fs => exact ho
theorem se_compF {f : Env → Sto → R (List D)} (h : SCm CA X W a f) : SE CA X W a (fun ρ S => (f ρ S).bind fun l S1 => .ok (.fl l) S1) := by
  obtain ⟨t, pt, _, ht⟩ := h
  refine ⟨_, pe_frz pt, fun ρ S σ H α Q he hs p => ht ρ S σ H α _ he hs ?_⟩
  dsimp only at p
  cases h : f ρ S with
  | no => rw [h] at p; exact p
  | ex x S1 => rw [h] at p; exact p
  | ok l S1 =>
    rw [h] at p
    intro α' H' q vs e s hq hq' nq rl
    refine ⟨q, _, rfl, hq', trivial, fun od => ?_⟩
    obtain ⟨e2, s2, r2⟩ := frz_aside e s hq hq' nq rl od
    exact p α' _ _ e2 s2 r2
/-- .. handed to a built-in -/
theorem se_bic {b : Bi} {p : Pos} {f : Env → Sto → R (List D)} (hc : X.calm = true) (hu : X.A.units + 65 < cLine) (hg : Gl X (bName b)) (hm : X.mg (bName b) = none) (hx : noStar [a] = true) (h : SCm CA X W a f) : SE CA X W (.Call (.Name (bName b) p) [a] [] pos) (fun ρ S => (f ρ S).bind fun l S1 => bil b l S1) := by
  obtain ⟨t, pt, _, ht⟩ := h
  obtain ⟨r, hr, _, hq⟩ := bi_ok (X := X) (CA := CA) hc hu b
  obtain ⟨h1, _⟩ := noStar_ne hx
  refine ⟨_, pe_blt hr hg hm (pa_cons pt pa_nil (he_of h1)) hx, fun ρ S σ H α Q he hs p => ?_⟩
  refine ht ρ S σ H α _ he hs ?_
  dsimp only at p
  cases h : f ρ S with
  | no => rw [h] at p; exact p
  | ex x S1 => rw [h] at p; exact p
  | ok l S1 =>
    rw [h] at p
    intro α' H' q vs e s _ hq' _ rl
    exact hq α' H' S1 l q vs Q _ s (SqL.of hq') rl (Post.ext e p)
end
end Eg

namespace Eg
open PySem PySem.Spec PyProof.Rows L2
section
variable {X : Cx} {CA : Nat → Addr} {W : WX} {pos : Pos} {a b : Expr} {fa fb : Env → Sto → R D} {es : List Expr} {fs : Env → Sto → R (List D)}
/-! ### further walks -/
theorem si_lst {tg : Expr} (h : SA CA X W es fs) : SI CA X W tg (.List es pos) (fun ρ S => (fs ρ S).bind fun l S1 => if l.length ≤ line then .ok (l, none) S1 else .no) := by
  obtain ⟨t, pt, ht⟩ := h
  refine ⟨fun ρ S src S1 h => ?_, _, pi_list (pe_lst pt), fun ρ S σ H α Q he hs p => ?_⟩
  · obtain ⟨x, S2, _, h2⟩ := R.bind_eq_ok h
    split at h2
    · cases h2; rfl
    · cases h2
  · refine ht _ _ _ _ _ _ he hs (p.bind.imp fun xs H1 ⟨α1, S1, ds, e1, s1, r1, p1⟩ => ?_)
    split at p1
    · rename_i c
      refine ⟨by rw [← line_eq, ← r1.length]; exact c, fun q hq => ?_⟩
      have ea : Ext α1 H1 α1 (upd H1 q (.lst xs)) := Ext.aside hq
      refine ⟨q, rfl, ⟨xs, SqL.of upd_same⟩, (Post.ext ea p1).ok (s1.fresh hq) ?_⟩
      refine itr_seq (r1.ext ea) fun α' H' e i => ?_
      have hq' : H' q = some (.lst xs) := e.keep q _ upd_same (s1.off hq)
      refine ⟨fun v hv => ⟨⟨xs, v, SqL.of hq', hv⟩, fun x H'' hy => ?_⟩, fun hi => ⟨xs, SqL.of hq', hi⟩⟩
      obtain ⟨e1, hy⟩ := hy
      have := hy xs (SqL.of hq')
      rw [hv] at this
      exact ⟨e1, (Option.some.inj this).symm⟩
    · exact p1.elim
theorem b62_ok {i : Int} (h : b62 i = true) : -(2 ^ 62) ≤ i ∧ i < 2 ^ 62 := by
  simp only [b62, Bool.and_eq_true, decide_eq_true_eq] at h
  exact h
theorem rngD_ok {lo hi : Int} {src : Src} (h : rngD lo hi = some src) : (-(2 ^ 62) ≤ lo ∧ lo < 2 ^ 62) ∧ (-(2 ^ 62) ≤ hi ∧ hi < 2 ^ 62) ∧ src = (rngL lo (hi - lo).toNat, none) := by
  unfold rngD at h
  split at h
  · rename_i c
    simp only [Bool.and_eq_true] at c
    exact ⟨b62_ok c.1, b62_ok c.2, (Option.some.inj h).symm⟩
  · cases h
theorem si_rng1 {tg : Expr} {p' : Pos} (hg : Gl X "range") (hm : X.mg "range" = none) (hx : ∀ v q, a ≠ .Starred v q) (ha : SE CA X W a fa) : SI CA X W tg (.Call (.Name "range" p') [a] [] pos) (fun ρ S => (fa ρ S).bind fun x S1 => match x with
    | .int n => .of S1 (rngD 0 n)
    | _ => .no) := by
  obtain ⟨ta, pa, ha⟩ := ha
  refine ⟨fun ρ S src S1 h => ?_, _, pi_range1 hg hm (pa_cons pa pa_nil (he_of hx)) (by rw [he_of hx]; rfl), fun ρ S σ H α Q he hs p => ?_⟩
  · obtain ⟨x, S2, _, h2⟩ := R.bind_eq_ok h
    split at h2
    · obtain ⟨h3, rfl⟩ := R.of_ok h2
      obtain ⟨_, _, rfl⟩ := rngD_ok h3
      rfl
    · cases h2
  · refine ha _ _ _ _ _ _ he hs (p.bind.imp fun x H1 ⟨α1, S1, d, e1, s1, r1, p1⟩ => ?_)
    cases r1 with
    | int n =>
      dsimp only at p1
      cases h : rngD 0 n with
      | none => rw [h] at p1; exact p1.elim
      | some src =>
        rw [h] at p1
        obtain ⟨h1, h2, rfl⟩ := rngD_ok h
        refine ⟨n, rfl, h2.1, h2.2, ?_⟩
        have := p1.ok s1 (itr_rng 0 (n - 0).toNat)
        rwa [Int.sub_zero] at this
    | _ => exact p1.elim
theorem si_rng2 {tg : Expr} {p' : Pos} (hg : Gl X "range") (hm : X.mg "range" = none) (hx : ∀ v q, a ≠ .Starred v q) (hy : ∀ v q, b ≠ .Starred v q) (ha : SE CA X W a fa) (hb : SE CA X W b fb) : SI CA X W tg (.Call (.Name "range" p') [a, b] [] pos) (fun ρ S => (fa ρ S).bind fun x S1 => (fb ρ S1).bind fun y S2 => match x, y with
    | .int m, .int n => .of S2 (rngD m n)
    | _, _ => .no) := by
  obtain ⟨ta, pa, ha⟩ := ha
  obtain ⟨tb, pb, hb⟩ := hb
  refine ⟨fun ρ S src S1 h => ?_, _, pi_range2 hg hm (pa_cons pa (pa_cons pb pa_nil (he_of hy)) (he_of hx)) (by rw [he_of hx, he_of hy]; rfl) (by rw [he_of hy]; rfl), fun ρ S σ H α Q he hs p => ?_⟩
  · obtain ⟨x, S2, _, h2⟩ := R.bind_eq_ok h
    obtain ⟨y, S3, _, h3⟩ := R.bind_eq_ok h2
    split at h3
    · obtain ⟨h4, rfl⟩ := R.of_ok h3
      obtain ⟨_, _, rfl⟩ := rngD_ok h4
      rfl
    · cases h3
  · refine two_parts ha hb he hs p fun α2 H2 S2 d e x y _ s2 r1 r2 p2 => ?_
    cases r1 with
    | int m =>
      cases r2 with
      | int n =>
        dsimp only at p2
        cases h : rngD m n with
        | none => rw [h] at p2; exact p2.elim
        | some src =>
          rw [h] at p2
          obtain ⟨h1, h2, rfl⟩ := rngD_ok h
          exact ⟨m, n, rfl, ⟨h1.1, h1.2, h2.1, h2.2⟩, p2.ok s2 (itr_rng m (n - m).toNat)⟩
      | _ => exact p2.elim
    | _ => cases r2 <;> exact p2.elim
theorem rngM_ok {lo hi : Int} {src : Src} (h : rngM lo hi = some src) : (-(2 ^ 62) ≤ lo ∧ lo < 2 ^ 62) ∧ (-(2 ^ 62) ≤ hi ∧ hi < 2 ^ 62) ∧ src = (rngLM lo (lo - hi).toNat, none) := by
  unfold rngM at h
  split at h
  · rename_i c
    simp only [Bool.and_eq_true] at c
    exact ⟨b62_ok c.1, b62_ok c.2, (Option.some.inj h).symm⟩
  · cases h
theorem si_rng3 {tg : Expr} {p' : Pos} {d : Expr} {fd : Env → Sto → R D} (hg : Gl X "range") (hm : X.mg "range" = none) (hx : ∀ v q, a ≠ .Starred v q) (hy : ∀ v q, b ≠ .Starred v q) (hz : ∀ v q, d ≠ .Starred v q) (ha : SE CA X W a fa) (hb : SE CA X W b fb) (hd : SE CA X W d fd) : SI CA X W tg (.Call (.Name "range" p') [a, b, d] [] pos) (fun ρ S => (fa ρ S).bind fun x S1 => (fb ρ S1).bind fun y S2 => (fd ρ S2).bind fun z S3 => match x, y, z with
    | .int m, .int n, .int k => if k = -1 then .of S3 (rngM m n) else .no
    | _, _, _ => .no) := by
  obtain ⟨ta, pa, ha⟩ := ha
  obtain ⟨tb, pb, hb⟩ := hb
  obtain ⟨td, pd, hd⟩ := hd
  refine ⟨fun ρ S src S1 h => ?_, _, pi_range3 hg hm (pa_cons pa (pa_cons pb (pa_cons pd pa_nil (he_of hz)) (he_of hy)) (he_of hx)) (by rw [he_of hx]) (by rw [he_of hy, he_of hz]; rfl), fun ρ S σ H α Q he hs p => ?_⟩
  · obtain ⟨x, S2, _, h2⟩ := R.bind_eq_ok h
    obtain ⟨y, S3, _, h3⟩ := R.bind_eq_ok h2
    obtain ⟨z, S4, _, h4⟩ := R.bind_eq_ok h3
    split at h4
    · split at h4
      · obtain ⟨h5, rfl⟩ := R.of_ok h4
        obtain ⟨_, _, rfl⟩ := rngM_ok h5
        rfl
      · cases h4
    · cases h4
  · refine ha _ _ _ _ _ _ he hs (p.bind.imp fun x H1 ⟨α1, S1, d1, e1, s1, r1, p1⟩ => ?_)
    refine hb _ _ _ _ _ _ (he.ext e1) s1 (p1.bind.imp fun y H2 ⟨α2, S2, d2, e2, s2, r2, p2⟩ => ?_)
    refine hd _ _ _ _ _ _ ((he.ext e1).ext e2) s2 (p2.bind.imp fun z H3 ⟨α3, S3, d3, e3, s3, r3, p3⟩ => ?_)
    cases r1 with
    | int m =>
      cases r2 with
      | int n =>
        cases r3 with
        | int k =>
          dsimp only at p3
          split at p3
          · rename_i hk
            subst hk
            cases h : rngM m n with
            | none => rw [h] at p3; exact p3.elim
            | some src =>
              rw [h] at p3
              obtain ⟨h1, h2, rfl⟩ := rngM_ok h
              exact ⟨m, n, -1, _, rfl, RgC.neg h1.1 h1.2 h2.1 h2.2, p3.ok s3 (itr_rngM m (m - n).toNat)⟩
          · exact p3.elim
        | _ => exact p3.elim
      | _ => exact p3.elim
    | _ => exact p3.elim
/-! ### a comprehension against [] -/
theorem dp_any {K : PySem.W.Frag} {α : List (Addr × Bool)} {H : Hp} {S : Sto} (s : StR K α H S) {l : List D} {vs : List V} (rl : RpL K α H l vs) (h : l.all (plain 40 S) = true) : ∃ ds, DpAll K H vs ds ∧ SeqAt.shaped (.list ds) = true ∧ PyData.eqv (.list ds) (.list []) = l.isEmpty := by
  refine ⟨_, dpAll_of s 40 h rl, shapedL_of S h, ?_⟩
  cases l <;> simp [PyData.eqv, PyData.eqvAll]
theorem pure_nil : PE X (.List [] pos) (tLst tNil) := pe_lst pa_nil
def negOp (neg : Bool) : CmpOp := if neg then .NotEq else .Eq
theorem se_nilc {neg : Bool} {p2 : Pos} {f : Env → Sto → R (List D)} (hu : X.A.units + 64 < cLine) (h : SCm CA X W a f) :
    SE CA X W (.Compare a [negOp neg] [.List [] p2] pos) (fun ρ S => (f ρ S).bind fun l S1 => if l.all (plain 40 S1) then .ok (.bl (if neg then !l.isEmpty else l.isEmpty)) S1 else .no) ∧
    STe CA X W (.Compare a [negOp neg] [.List [] p2] pos) (fun ρ S => tru ((f ρ S).bind fun l S1 => if l.all (plain 40 S1) then .ok (.bl (if neg then !l.isEmpty else l.isEmpty)) S1 else .no)) := by
  obtain ⟨t, pt, _, ht⟩ := h
  have core : ∀ {ρ : Env} {S : Sto} {σ : SL} {H : Hp} {α : List (Addr × Bool)} {Q : VK}, EnvR X.K α H ρ σ → StR X.K α H S →
      (match f ρ S with | .ok l S1 => ∃ b, (l.all (plain 40 S1) = true ∧ b = (if neg then !l.isEmpty else l.isEmpty)) ∧ ∀ α' H', Ext α H α' H' → StR X.K α' H' S1 → Q (.bl b) H' | .ex x S' => ∀ α' H' cls d, Ext α H α' H' → StR X.K α' H' S' → ExR X.K CA α' H' x cls d → wAt W σ cls d H' | .no => False) →
      tOp (if neg then rNeD X.K else rEqD X.K) t (tLst tNil) σ H Q := by
    intro ρ S σ H α Q he hs p
    refine ht ρ S σ H α _ he hs ?_
    cases h : f ρ S with
    | no => rw [h] at p; exact p
    | ex x S1 => rw [h] at p; exact p
    | ok l S1 =>
      rw [h] at p
      obtain ⟨b, ⟨hp, rfl⟩, hq⟩ := p
      intro α' H' q vs e s hq0 hqv nq rl
      refine ⟨by show 0 ≤ sizeLine; exact Nat.zero_le _, fun r hr => ?_⟩
      have ea : Ext α' H' α' (upd H' r (.lst [])) := Ext.aside hr
      have rl' := rl.ext ea
      have s' := s.fresh (ho := .lst []) hr
      obtain ⟨ds, d1, d2, d3⟩ := dp_any s' rl' hp
      have hqv' : upd H' r (.lst []) q = some (.lst vs) := upd_keep hr hqv
      have fin := hq α' _ (e.trans ea) s'
      cases neg with
      | true => exact ⟨_, _, .lst (SqL.of hqv') d1, .lst (SqL.of upd_same) .nil, d2, rfl, by rw [d3]; exact fin⟩
      | false => exact ⟨_, _, .lst (SqL.of hqv') d1, .lst (SqL.of upd_same) .nil, d2, rfl, by rw [d3]; exact fin⟩
  have op : OpR X (compareOp (negOp neg)) (if neg then rNeD X.K else rEqD X.K) := by
    cases neg
    · exact op_eqD hu
    · exact op_neD hu
  have hm : behindInMarks (negOp neg) (.List [] p2) = false := by cases neg <;> rfl
  refine ⟨⟨_, pe_cmpR op pt pure_nil hm, fun ρ S σ H α Q he hs p => core he hs ?_⟩, ⟨_, pt_cmpR op pt pure_nil hm, fun ρ S σ H α Q he hs p => core he hs ?_⟩⟩
  · dsimp only at p
    cases h : f ρ S with
    | no => rw [h] at p; exact p
    | ex x S1 => rw [h] at p; exact p
    | ok l S1 =>
      rw [h] at p
      simp only [R.bind_ok] at p
      split at p
      · rename_i c
        exact ⟨_, ⟨c, rfl⟩, fun α' H' e s => p α' H' _ e s (.bl _)⟩
      · exact p.elim
  · unfold tru at p
    dsimp only at p
    cases h : f ρ S with
    | no => rw [h] at p; exact p
    | ex x S1 => rw [h] at p; exact p
    | ok l S1 =>
      rw [h] at p
      simp only [R.bind_ok] at p
      split at p
      · rename_i c
        simp only [R.bind_ok, truD, R.of_some] at p
        exact ⟨_, ⟨c, rfl⟩, fun α' H' e s => ⟨_, rfl, p α' H' _ e s rfl⟩⟩
      · exact p.elim
theorem R.ite_bind {α β : Type} {c : Prop} [Decidable c] {r : R α} {g : α → Sto → R β} : (if c then r else .no).bind g = if c then r.bind g else .no := by split <;> rfl
/-! ### in a list that is written out -/
def inOp (neg : Bool) : CmpOp := if neg then .NotIn else .In
theorem se_inl {neg : Bool} {p2 : Pos} (hu : X.A.units + 65 < cLine) (ha : SE CA X W a fa) (h : SA CA X W es fs) :
    SE CA X W (.Compare a [inOp neg] [.List es p2] pos) (fun ρ S => (fa ρ S).bind fun x S1 => (fs ρ S1).bind fun l S2 => if l.length ≤ line then ofB S2 (if neg then notB (inD S2 x l) else inD S2 x l) else .no) ∧
    STe CA X W (.Compare a [inOp neg] [.List es p2] pos) (fun ρ S => tru ((fa ρ S).bind fun x S1 => (fs ρ S1).bind fun l S2 => if l.length ≤ line then ofB S2 (if neg then notB (inD S2 x l) else inD S2 x l) else .no)) := by
  obtain ⟨ta, pa, ha⟩ := ha
  obtain ⟨t, pt, ht⟩ := h
  have core : ∀ {ρ : Env} {S : Sto} {σ : SL} {H : Hp} {α : List (Addr × Bool)} {Q : VK} {β γ : Type} {rel : List (Addr × Bool) → Hp → β → γ → Prop} {k : D → List D → Sto → R β} {Q2 : γ → Hp → Prop}, EnvR X.K α H ρ σ → StR X.K α H S →
      Post X.K CA rel α H ((fa ρ S).bind fun x S1 => (fs ρ S1).bind fun l S2 => if l.length ≤ line then k x l S2 else .no) Q2 (wAt W σ) →
      (∀ α' H' x l S', StR X.K α' H' S' → Post X.K CA rel α' H' (k x l S') Q2 (wAt W σ) → plain 40 S' x = true ∧ l.all (plain 40 S') = true ∧ Q (.bl (if neg then !(l.any fun b => eqv 40 S' b x) else l.any fun b => eqv 40 S' b x)) H') →
      tOp (if neg then rNotInD X.K else rInD X.K) ta (tLst t) σ H Q := by
    intro ρ S σ H α Q β γ rel k Q2 he hs p hk
    refine ha _ _ _ _ _ _ he hs (p.bind.imp fun x H1 ⟨α1, S1, d, e1, s1, r1, p1⟩ => ?_)
    refine ht _ _ _ _ _ _ (he.ext e1) s1 (p1.bind.imp fun xs H2 ⟨α2, S2, ds, e2, s2, r2, p2⟩ => ?_)
    split at p2
    · rename_i c
      refine ⟨by rw [← line_eq, ← r2.length]; exact c, fun r hr => ?_⟩
      have ea : Ext α2 H2 α2 (upd H2 r (.lst xs)) := Ext.aside hr
      have s' := s2.fresh (ho := .lst xs) hr
      obtain ⟨h1, h2, h3⟩ := hk α2 _ d ds S2 s' (Post.ext ea p2)
      have q1 := dp_of s' 40 h1 ((r1.ext e2).ext ea)
      have q2 : Dp X.K (upd H2 r (.lst xs)) (.ref r) (.list (ds.map (toPy 40 S2))) := .lst (SqL.of upd_same) (dpAll_of s' 40 h2 (r2.ext ea))
      cases neg with
      | true => exact ⟨_, _, q1, q2, shaped_of S2 h1, shapedL_of S2 h2, by rw [any_py h1 h2]; exact h3⟩
      | false => exact ⟨_, _, q1, q2, shaped_of S2 h1, shapedL_of S2 h2, by rw [any_py h1 h2]; exact h3⟩
    · exact p2.elim
  have op : OpR X (compareOp (inOp neg)) (if neg then rNotInD X.K else rInD X.K) := by
    cases neg
    · exact op_inD hu
    · exact op_notInD hu
  have hm : behindInMarks (inOp neg) (.List es p2) = false := by cases neg <;> rfl
  have dec : ∀ {S' : Sto} {x : D} {l : List D} {k : Bool}, (if neg then notB (inD S' x l) else inD S' x l) = some k → plain 40 S' x = true ∧ l.all (plain 40 S') = true ∧ k = (if neg then !(l.any fun b => eqv 40 S' b x) else l.any fun b => eqv 40 S' b x) := by
    intro S' x l k h
    unfold inD at h
    by_cases c : (plain 40 S' x && l.all (plain 40 S')) = true
    · rw [if_pos c] at h
      simp only [Bool.and_eq_true] at c
      cases neg <;> (simp only [notB, if_true, if_false, Bool.false_eq_true] at h ⊢; cases h; exact ⟨c.1, c.2, rfl⟩)
    · rw [if_neg c] at h
      cases neg <;> simp [notB] at h
  refine ⟨⟨_, pe_cmpR op pa (pe_lst pt) hm, fun ρ S σ H α Q he hs p => core (k := fun x l S2 => ofB S2 (if neg then notB (inD S2 x l) else inD S2 x l)) he hs p fun α' H' x l S' s' q => ?_⟩, ⟨_, pt_cmpR op pa (pe_lst pt) hm, fun ρ S σ H α Q he hs p => ?_⟩⟩
  · cases h : (if neg then notB (inD S' x l) else inD S' x l) with
    | none => rw [h] at q; exact q.elim
    | some k =>
      rw [h] at q
      obtain ⟨h1, h2, rfl⟩ := dec h
      exact ⟨h1, h2, q.ok s' (.bl _)⟩
  · unfold tru at p
    simp only [R.bind_assoc, R.ite_bind] at p
    refine core (k := fun x l S2 => (ofB S2 (if neg then notB (inD S2 x l) else inD S2 x l)).bind fun d S => .of S (truD S d)) he hs p fun α' H' x l S' s' q => ?_
    cases h : (if neg then notB (inD S' x l) else inD S' x l) with
    | none => rw [h] at q; exact q.elim
    | some k =>
      rw [h] at q
      obtain ⟨h1, h2, rfl⟩ := dec h
      exact ⟨h1, h2, _, rfl, q.ok s' rfl⟩
end
end Eg

namespace Eg
open PySem PySem.Spec PyProof.Rows L2
theorem itr_zipT {K : PySem.W.Frag} {α : List (Addr × Bool)} {H : Hp} {a b : Addr} {l m : List D} {xs ys : List V} (ha : SqT K H a xs) (hb : SqT K H b ys) (rl : RpL K α H l xs) (rm : RpL K α H m ys) : ItR K ((l.zip m).map fun p => .tup [p.1, p.2], none) (RZ.ItzT K a b) α H := by
  intro α' H' S' e s' g i
  refine ⟨fun d hd => ?_, fun hi => ?_⟩
  · rw [List.getElem?_map] at hd
    cases hz : (l.zip m)[i]? with
    | none => rw [hz] at hd; cases hd
    | some p =>
      rw [hz] at hd
      cases hd
      obtain ⟨p1, p2⟩ := List.getElem?_zip_eq_some.mp hz
      obtain ⟨u, hu, ru⟩ := rl.get p1
      obtain ⟨v, hv, rv⟩ := rm.get p2
      refine ⟨⟨xs, ys, u, v, SqT.ext e ha, SqT.ext e hb, hu, hv⟩, fun x H'' hy => ?_⟩
      obtain ⟨T, x1, y1, rfl, hT, rfl, hx, hy⟩ := hy
      have q := hx xs (SqT.ext e ha)
      rw [hu] at q
      cases q
      have q := hy ys (SqT.ext e hb)
      rw [hv] at q
      cases q
      have ea : Ext α' H' α' (upd H' T (.tup [u, v])) := Ext.aside hT
      exact ⟨ea, s'.fresh hT, .tup (SqT.of upd_same) (.cons (ru.ext (e.trans ea)) (.cons (rv.ext (e.trans ea)) .nil))⟩
  · refine ⟨xs, ys, SqT.ext e ha, SqT.ext e hb, ?_⟩
    have h1 := rl.length
    have h2 := rm.length
    simp only [List.length_map, List.length_zip] at hi
    omega
theorem itr_zipL {K : PySem.W.Frag} {α : List (Addr × Bool)} {H : Hp} {a b : Addr} {l m : List D} {xs ys : List V} (ha : FzL H a xs) (hb : FzL H b ys) (rl : RpL K α H l xs) (rm : RpL K α H m ys) : ItR K ((l.zip m).map fun p => .tup [p.1, p.2], none) (Itz K a b) α H := by
  intro α' H' S' e s' g i
  have fa : SqL K H' a xs := (ha.mono e.frzs).sq
  have fb : SqL K H' b ys := (hb.mono e.frzs).sq
  refine ⟨fun d hd => ?_, fun hi => ?_⟩
  · rw [List.getElem?_map] at hd
    cases hz : (l.zip m)[i]? with
    | none => rw [hz] at hd; cases hd
    | some p =>
      rw [hz] at hd
      cases hd
      obtain ⟨p1, p2⟩ := List.getElem?_zip_eq_some.mp hz
      obtain ⟨u, hu, ru⟩ := rl.get p1
      obtain ⟨v, hv, rv⟩ := rm.get p2
      refine ⟨⟨xs, ys, u, v, fa, fb, hu, hv⟩, fun x H'' hy => ?_⟩
      obtain ⟨T, x1, y1, rfl, hT, rfl, hx, hy⟩ := hy
      have q := hx xs fa
      rw [hu] at q
      cases q
      have q := hy ys fb
      rw [hv] at q
      cases q
      have ea : Ext α' H' α' (upd H' T (.tup [u, v])) := Ext.aside hT
      exact ⟨ea, s'.fresh hT, .tup (SqT.of upd_same) (.cons (ru.ext (e.trans ea)) (.cons (rv.ext (e.trans ea)) .nil))⟩
  · refine ⟨xs, ys, fa, fb, ?_⟩
    have h1 := rl.length
    have h2 := rm.length
    simp only [List.length_map, List.length_zip] at hi
    omega
section
variable {X : Cx} {CA : Nat → Addr} {W : WX} {pos : Pos} {a b : Expr} {fa fb : Env → Sto → R D}
theorem si_zip {elts : List Expr} {kk : Nat} {tpos p' : Pos} (hg : Gl X "zip") (hm : X.mg "zip" = none) (hx : ∀ v q, a ≠ .Starred v q) (hy : ∀ v q, b ≠ .Starred v q) (ha : SE CA X W a fa) (hb : SE CA X W b fb) : SI CA X W (.Tuple elts kk tpos) (.Call (.Name "zip" p') [a, b] [] pos) (fun ρ S => (fa ρ S).bind fun x S1 => (fb ρ S1).bind fun y S2 => match x, y with
    | .tup l, .tup m => .ok ((l.zip m).map fun p => .tup [p.1, p.2], none) S2
    | .fl l, .fl m => .ok ((l.zip m).map fun p => .tup [p.1, p.2], none) S2
    | _, _ => .no) := by
  obtain ⟨ta, pa, ha⟩ := ha
  obtain ⟨tb, pb, hb⟩ := hb
  refine ⟨fun ρ S src S1 h => ?_, _, RZ.pi_zipA hg hm (pa_cons pa (pa_cons pb pa_nil (he_of hy)) (he_of hx)) (by rw [he_of hx]) (by rw [he_of hy]; rfl), fun ρ S σ H α Q he hs p => ?_⟩
  · obtain ⟨x, S2, _, h2⟩ := R.bind_eq_ok h
    obtain ⟨y, S3, _, h3⟩ := R.bind_eq_ok h2
    split at h3
    · cases h3; rfl
    · cases h3; rfl
    · cases h3
  · refine two_parts ha hb he hs p fun α2 H2 S2 d e x y _ s2 r1 r2 p2 => ?_
    cases r1 with
    | tup q1 l1 =>
      cases r2 with
      | tup q2 l2 => exact ⟨_, _, _, _, rfl, .inr ⟨q1, q2, Post.ok p2 s2 (itr_zipT q1 q2 l1 l2)⟩⟩
      | _ => exact p2.elim
    | fl q1 l1 =>
      cases r2 with
      | fl q2 l2 => exact ⟨_, _, _, _, rfl, .inl ⟨q1.sq, q2.sq, Post.ok p2 s2 (itr_zipL q1 q2 l1 l2)⟩⟩
      | _ => exact p2.elim
    | _ => cases r2 <;> exact p2.elim
end
end Eg

namespace Eg
open PySem PySem.Spec PyProof.Rows L2
/-! ### x[::-1] -/
section
variable {prog : Program} {w : World} {A : Around} {E : Value → Shared → Prop} {s : Shared}
theorem bak_applied {sl : Addr} {vs : Value} {n : Nat} {Q : Int × Int × Nat → Shared → Prop} (hs : s.heap.IsSliceOf sl .none .none vs) (ps : IsPart vs (some (-1))) (h : Q ((n : Int) - 1, -1, n) s) :
    wpAny (model prog w) A (Builtin.Slice.sliceApplied (.ref sl) (pure (n : Int))) Q E s := by
  obtain ⟨ob, e1, e2, e3⟩ := id hs
  unfold Builtin.Slice.sliceApplied Builtin.Slice.sliceFields
  refine wpAny_bind (wpAny_bind (wpAny_field e1 e3 (x := .none) rfl (wpAny_bind (wpAny_field e1 e3 (x := .none) rfl (wpAny_bind (wpAny_field e1 e3 (x := vs) rfl (wpAny_pure ?_)))))))
  refine wpAny_bind (HT.slicePart_ ps ?_)
  show wpAny _ _ (if ((-1 : Int) == 0) = true then _ else _) _ _ s
  rw [if_neg (by decide)]
  refine wpAny_bind (slicePart_none (wpAny_bind (slicePart_none (wpAny_bind (wpAny_pure ?_)))))
  have e : Builtin.Slice.slicePlaces ((n : Int) - 1) (-1) (-1) = n := by
    unfold Builtin.Slice.slicePlaces
    have : ¬ (-1 : Int) > 0 := by decide
    rw [if_neg this]
    split
    · first | (simp; done) | (simp; omega)
    · omega
  show wpAny _ _ (pure ((n : Int) - 1, (-1 : Int), Builtin.Slice.slicePlaces ((n : Int) - 1) (-1) (-1))) _ _ s
  rw [e]
  exact wpAny_pure h
theorem bak_pick (xs : List Value) : ((List.range xs.length).filterMap fun (k : Nat) => xs.toArray[(((xs.length : Int) - 1) + (k : Int) * (-1)).toNat]?) = xs.reverse := by
  have e : ∀ k : Nat, k < xs.length → xs.toArray[(((xs.length : Int) - 1) + (k : Int) * (-1)).toNat]? = xs.reverse[k]? := fun k hk => by
    rw [List.getElem?_reverse hk]
    have : (((xs.length : Int) - 1) + (k : Int) * (-1)).toNat = xs.length - 1 - k := by omega
    rw [this]; simp
  have z : ∀ n : Nat, n ≤ xs.length → ((List.range n).filterMap fun (k : Nat) => xs.toArray[(((xs.length : Int) - 1) + (k : Int) * (-1)).toNat]?) = xs.reverse.take n := fun n => by
    induction n with
    | zero => intro _; rfl
    | succ n ih =>
      intro h
      rw [List.range_succ, List.filterMap_append, ih (by omega)]
      have hl : n < xs.reverse.length := by rw [List.length_reverse]; omega
      rw [List.take_succ_eq_append_getElem hl]
      simp only [List.filterMap_cons, e n (by omega), List.getElem?_eq_getElem hl, List.filterMap_nil]
  rw [z _ (Nat.le_refl _), List.take_of_length_le (by simp)]
theorem bak_item {t sl : Addr} {xs : List Value} {vs : Value} {Q : Value → Shared → Prop} (ht : IsTup s.heap t xs.toArray) (hs : s.heap.IsSliceOf sl .none .none vs) (ps : IsPart vs (some (-1)))
    (h : Q (.ref s.heap.objs.size) { s with heap := s.heap.push { cls := .type "tuple", data := .seq xs.reverse.toArray } }) (hz : xs.length ≤ sizeLine) : wpAny (model prog w) A (getItem (.ref t) (.ref sl)) Q E s := by
  have hz' : sizeOk (.seq xs.reverse.toArray) := by
    show xs.reverse.toArray.size ≤ sizeLine
    simpa using hz
  obtain ⟨ob, e1, e2, e3⟩ := id hs
  have hT : s.TypeIs (.ref sl) "slice" := ⟨ob, e1, e2⟩
  unfold getItem
  try with_reducible refine wpAny_holding ?_
  first | refine wpAny_bind (wpAny_pure ?_) | skip
  refine wpAny_bind (wpAny_sequenceKey ht.typeIs (by decide) ?_)
  refine wpAny_bind (wpAny_callSpecial?_slot (name := Str.ofString "__getitem__") ht.typeIs PyProof.Rows.slot_tuple_getitem (wpAny_call_entry PyProof.Rows.slot_tuple_getitem ht.typeIs entry_tuple_getitem ?_ (args_tuple_getitem _ _)))
  show wpAny _ _ (Builtin.Tuple.tupleItemsOf (.ref t) >>= _) _ _ s
  refine wpAny_bind (tupleItemsOf_ ht (wpAny_bind (wpAny_typeOf hT ?_)))
  rw [if_pos (by decide)]
  refine wpAny_bind (bak_applied (n := xs.toArray.size) hs ps ?_)
  have hno : ¬ ((((xs.toArray.size : Int) - 1) == 0 && (-1 : Int) == 1 && xs.toArray.size == xs.toArray.size) = true) := by simp
  show wpAny _ _ (if (((xs.toArray.size : Int) - 1) == 0 && (-1 : Int) == 1 && xs.toArray.size == xs.toArray.size) = true then _ else _) _ _ s
  rw [if_neg hno]
  have pk := congrArg List.toArray (bak_pick xs)
  rw [show xs.toArray.size = xs.length from List.size_toArray .., pk]
  first
    | exact wpAny_bind (m := Builtin.Tuple.tupleExact _) (wpAny_newObj_type (wpAny_pure ⟨_, rfl, wpAny_pure h⟩) hz')
    | exact wpAny_bind (m := Builtin.Tuple.tupleExact _) (wpAny_newObj_type (wpAny_bind (wpAny_pure (wpAny_pure ⟨_, rfl, wpAny_pure h⟩))) hz')
    | exact wpAny_bind (wpAny_bind (m := Builtin.Tuple.tupleExact _) (wpAny_newObj_type (wpAny_pure (wpAny_pure ⟨_, rfl, wpAny_pure h⟩)) hz'))
    | exact wpAny_bind (wpAny_bind (m := Builtin.Tuple.tupleExact _) (wpAny_newObj_type (wpAny_pure ⟨_, rfl, wpAny_pure h⟩) hz'))
end
section
variable {X : Cx} {CA : Nat → Addr} {W : WX} {pos : Pos} {a b : Expr} {fa fb : Env → Sto → R D} {es : List Expr} {fs : Env → Sto → R (List D)}
def tRevT (K : PySem.W.Frag) (te : TE) : TE := fun σ H Q => te σ H fun x H1 => ∃ a xs, x = .ref a ∧ SqT K H1 a xs ∧ ∀ p, H1 p = none → Q (.ref p) (upd H1 p (.tup xs.reverse))
theorem pe_revT {e : Expr} {te : TE} {k : Nat} {p1 p2 p3 pos : Pos} (he : PE X e te) : PE X (.Subscript e (.Slice none none (some (.UnaryOp .USub (.Constant (.int 1) k p1) p2)) p3) pos) (tRevT X.K te) := by
  refine ⟨fun pins s0 σ H Q I h => ?_⟩
  refine Subscript_ (thn (he.run pins s0 σ H _ I h) fun v s1 ⟨x, H1, I1, r1, ad, xs, ex, hx, q⟩ => ?_)
  subst ex
  cases r1
  have part : PO X (some (.UnaryOp .USub (.Constant (.int 1) k p1) p2)) (tPart (tUn (rU fun i => .int (-i)) (tC (.int 1)))) := po_some (pe_un un_neg pe_int)
  refine wpAny_Slice (thn (po_none.run pins s1 σ H1 (fun o Ha => o = none ∧ Ha = H1) I1 ⟨rfl, rfl⟩) fun vl s2 ⟨l, H2, I2, pl, el, e2⟩ => ?_)
  subst el e2
  refine thn (po_none.run pins s2 σ H2 (fun o Ha => o = none ∧ Ha = H2) I2 ⟨rfl, rfl⟩) fun vu s3 ⟨u, H3, I3, pu, eu, e3⟩ => ?_
  subst eu e3
  refine thn (part.run pins s3 σ H3 (fun o Ha => o = some (-1) ∧ Ha = H3) I3 ⟨1, rfl, -1, rfl, rfl, rfl⟩) fun vs s4 ⟨o, H4, I4, ps, eo, e4⟩ => ?_
  subst eo e4
  have J : Inv X pins σ H4 { s4 with heap := s4.heap.push { cls := .type "slice", data := .fields #[vl, vu, vs] } } := I4.kept (t' := s4.toks) fun b ob q => Heap.get?_push_of_some _ q
  cases pl
  cases pu
  obtain ⟨its, r, ht, hz⟩ := J.tuple hx
  have hlen := r.length
  show wpAny (model X.prog X.w) X.A (subscriptTail e (.Slice none none (some (.UnaryOp .USub (.Constant (.int 1) k p1) p2)) p3) (.ref ad) (.ref s4.heap.objs.size)) (EP X pins σ Q) X.xe _
  refine tail_any (ops := [.ref ad, .ref s4.heap.objs.size]) ht.typeIs PyProof.Rows.slot_tuple_getitem.lookup ?_ (by with_unfolding_all rfl)
  refine bak_item ht (Heap.IsSliceOf.new _ .none .none vs) ps ?_ (by omega)
  refine ⟨.ref _, _, J.laid (t' := s4.toks) (o := .tup xs.reverse) (fun b ob q => Heap.get?_push_of_some _ q) (Nat.le_refl _) ?_, rfl, q _ (J.hok.fresh (Nat.le_refl _))⟩
  exact ⟨by rw [List.length_reverse]; exact hz, _, r.reverse, IsTup.new _ _⟩
theorem RpL.rev {K : PySem.W.Frag} {α : List (Addr × Bool)} {H : Hp} : ∀ {l : List D} {vs : List V}, RpL K α H l vs → RpL K α H l.reverse vs.reverse
  | _, _, .nil => .nil
  | _, _, .cons r t => by simp only [List.reverse_cons]; exact (RpL.rev t).append (.one r)
theorem se_bak {k : Nat} {p1 p2 p3 : Pos} (ha : SE CA X W a fa) : SE CA X W (.Subscript a (.Slice none none (some (.UnaryOp .USub (.Constant (.int 1) k p1) p2)) p3) pos) (fun ρ S => (fa ρ S).bind fun x S1 => bakD x S1) := by
  obtain ⟨ta, pa, ha⟩ := ha
  have p1' := pe_revL (k := k) (p1 := p1) (p2 := p2) (p3 := p3) (pos := pos) pa
  have p2' := pe_revT (k := k) (p1 := p1) (p2 := p2) (p3 := p3) (pos := pos) pa
  refine ⟨fun σ H Q => tRevT X.K ta σ H Q ∨ (tRevL X.K ta σ H Q ∨ tRevL X.K ta σ H (frzQ Q)), ⟨fun pins s σ H Q I h => h.elim (p2'.run pins s σ H Q I) fun h => h.elim (p1'.run pins s σ H Q I) ((pe_frz p1').run pins s σ H Q I)⟩, fun ρ S σ H α Q he hs p => ?_⟩
  dsimp only at p
  cases hf : fa ρ S with
  | no => rw [hf] at p; exact p.elim
  | ex x S1 =>
    rw [hf] at p
    exact .inl (ha ρ S σ H α _ he hs (by rw [hf]; exact p))
  | ok d S1 =>
    rw [hf] at p
    simp only [R.bind_ok] at p
    cases d with
    | tup l =>
      refine .inl (ha ρ S σ H α _ he hs ?_)
      rw [hf]
      intro α' H' v e s r
      cases r with
      | @tup _ ad vs ht rl => exact ⟨ad, vs, rfl, ht, Post.newT s rl.rev (Post.ext e p)⟩
    | fl l =>
      refine .inr (.inr (ha ρ S σ H α _ he hs ?_))
      rw [hf]
      intro α' H' v e s r
      cases r with
      | @fl _ ad vs ht rl => exact ⟨ad, vs, rfl, ht.sq, Post.newF s rl.rev (Post.ext e p)⟩
    | ref n =>
      simp only [bakD] at p
      cases e0 : lstOf S1 n with
      | none => rw [e0] at p; exact p.elim
      | some l =>
        rw [e0] at p
        refine .inr (.inl (ha ρ S σ H α _ he hs ?_))
        rw [hf]
        intro α' H' v e s r
        cases r with
        | @ref _ ad m had =>
          obtain ⟨vs, h1, rl⟩ := s.rd e0 had
          exact ⟨ad, vs, rfl, h1, Post.newL s rl.rev (Post.ext e p)⟩
    | _ => exact p.elim
end
end Eg

namespace Eg
open PySem PySem.Spec PyProof.Rows L2
section
variable {X : Cx} {CA : Nat → Addr} {W : WX} {pos : Pos} {a b : Expr} {fa fb : Env → Sto → R D} {es : List Expr} {fs : Env → Sto → R (List D)}
theorem pe_or2 {t t' : TE} (h : PE X a t) (h' : PE X a t') : PE X a (fun σ H Q => t σ H Q ∨ t' σ H Q) := by
  constructor
  intro pins s σ H Q I q
  rcases q with q | q
  · exact h.run pins s σ H Q I q
  · exact h'.run pins s σ H Q I q
def varF (i : Nat) : Env → Sto → R D := fun ρ S => match ρ[i]? with | some (some d) => .ok d S | _ => .no
def valvF (i : Nat) : Env → Sto → R Src := fun ρ S => match ρ[i]? with
  | some (some d) => if isD0 S d then .ok ([], none) S else .of S (srcD S d)
  | _ => .no
/-- over a name: a list, a tuple, a text, or a dict without keys -/
theorem sc_compv {elt tg : Expr} {ifs : List Expr} {scope : Scope} {own : List (PySem.Str × Nat)} {bd : Sto → D → Env → Option Env} {sl : List Nat} {ft : Env → Sto → R Bool} {fe : Env → Sto → R D} {i : Nat} {x : PySem.Str} {ip : Pos}
    (hc : X.calm = true) (hN : X.N.Nodup) (hX : X.N[i]? = some x) (hv : Vis X.env.scope x) (hd : (x == ("__debug__" : PySem.Str)) = false) (hcd : (x == ("__classdict__" : PySem.Str)) = false) (ok : BlkOk X.N X.env.scope scope own) (hsub : ∀ j ∈ sl, j ∈ own.map (·.2)) (hbl : ∀ S d ρ ρ', bd S d ρ = some ρ' → ρ'.length = ρ.length)
    (hg : ∀ (s : Shared) (H : Hp) (C : Addr) (cl : List (PySem.Str × Addr)) (fp : List Addr), SG (X.blk s H scope (compEnvC scope cl C X.env) fp) tg bd sl)
    (ht : ∀ (s : Shared) (H : Hp) (C : Addr) (cl : List (PySem.Str × Addr)) (fp : List Addr), STo CA (X.blk s H scope (compEnvC scope cl C X.env) fp) ifs ft)
    (he : ∀ (s : Shared) (H : Hp) (C : Addr) (cl : List (PySem.Str × Addr)) (fp : List Addr), SE CA (X.blk s H scope (compEnvC scope cl C X.env) fp) W0 elt fe) :
    SCm CA X W (.ListComp elt [⟨tg, .Name x ip, ifs, 0⟩] scope pos) (fun ρ S => (valvF i ρ S).bind fun p S1 => if p.1.length ≤ line then compL (fun x S => bd S x (wipeE ρ (own.map (·.2)))) ft fe p.2 p.1 [] S1 else .no) := by
  have hvar : SE CA X W (.Name x ip) (varF i) := se_var hX hv hd hcd
  obtain ⟨t1, p1, a1, q1⟩ := sc_comp (pos := pos) hc hN (si_val (tg := tg) hvar) ok hsub hbl hg ht he (fun _ => rfl)
  have p3 : PE X (.ListComp elt [⟨tg, .Name x ip, ifs, 0⟩] scope pos) (tLc (iKeys (tVar i)) (gE X.K bd sl) (tT X.K CA W0 ft) (tE X.K CA W0 fe) (own.map (·.2))) :=
    pe_lc (g := gE X.K bd sl) (tt := tT X.K CA W0 ft) (te := tE X.K CA W0 fe) hc hN (pi_keys (pe_var hX hv hd hcd)) ok (fun s H C cl fp => (hg s H C cl fp).pg) (fun s H C cl fp => ht s H C cl fp) (fun s H C cl fp => (he s H C cl fp).pe) (fun _ => rfl)
  refine ⟨_, pe_or2 p1 p3, fun j y py spos hy hl hsw => ?_, fun ρ S σ H α Q hen hst p => ?_⟩
  · have z1 := a1 j y py spos hy hl hsw
    have z3 := ps_setLc (g := gE X.K bd sl) (tt := tT X.K CA W0 ft) (te := tE X.K CA W0 fe) hc hN hy hl hsw (pi_keys (pe_var hX hv hd hcd)) ok (fun s H C cl fp => (hg s H C cl fp).pg) (fun s H C cl fp => ht s H C cl fp) (fun s H C cl fp => (he s H C cl fp).pe) (fun _ => rfl)
    exact ⟨fun pins s σ H D I hw => hw.elim (fun a => z1.run pins s σ H D I a) fun a => z3.run pins s σ H D I a⟩
  dsimp only at p
  unfold valvF at p
  split at p
  · rename_i d e
    by_cases c : isD0 S d = true
    · rw [if_pos c] at p
      simp only [R.bind_ok, List.length_nil, Nat.zero_le, if_true, compL] at p
      obtain ⟨v, hvσ, r⟩ := hen.get i d e
      cases r with
      | @fd ks ds ad vs hf rl =>
        have hks : ks = [] := by simpa [isD0] using c
        subst hks
        obtain ⟨od, kvs, h1, h2, _⟩ := hf
        have hkv : kvs = [] := by
          cases kvs with
          | nil => rfl
          | cons _ _ => cases h2
        subst hkv
        refine .inr (⟨_, hvσ, ad, od, rfl, .inl ⟨[], h1, fun q hq => ?_⟩⟩)
        have hqa : q ≠ ad := fun z => by subst z; rw [h1] at hq; cases hq
        refine ⟨fun i m H' => i = 0 ∧ H' = upd H q (.lst []), ⟨0, rfl, rfl⟩, ?_⟩
        rintro i m H' ⟨rfl, rfl⟩
        refine .inl ⟨⟨by rw [upd_ne (Ne.symm hqa), h1], Nat.le_refl _⟩, ?_⟩
        exact p α _ q [] (Ext.aside hq) (hst.fresh hq) hq upd_same (hst.off hq) .nil
      | _ => cases c
    · rw [if_neg c] at p
      refine .inl (q1 ρ S σ H α Q hen hst ?_)
      dsimp only
      unfold varF
      rw [e]
      exact p
  · exact p.elim
/-! ### over the keys of a dict of the store: it is locked -/
section
variable {K : PySem.W.Frag} {α α' : List (Addr × Bool)} {H H' : Hp} {ad : Addr} {od : Obj} {φ : Heap → Prop}
theorem thaw_ne (h : H' ad = some (.frz od (.ext φ))) {a : Addr} : (∀ xs, H' a = some (.tup xs) → a ≠ ad) ∧ (∀ o xs, H' a = some (.frz o (.tup xs)) → a ≠ ad) ∧ (∀ o xs, H' a = some (.frz o (.lst xs)) → a ≠ ad) ∧ (∀ o xs, H' a = some (.frz o (.dK xs)) → a ≠ ad) :=
  ⟨fun xs q e => (by subst e; rw [h] at q; cases q), fun o xs q e => (by subst e; rw [h] at q; cases q), fun o xs q e => (by subst e; rw [h] at q; cases q), fun o xs q e => (by subst e; rw [h] at q; cases q)⟩
mutual
theorem Rp.thaw (h : H' ad = some (.frz od (.ext φ))) (o : HO) : ∀ {d : D} {v : V}, Rp K α H' d v → Rp K α (upd H' ad o) d v
  | _, _, .non => .non
  | _, _, .bl b => .bl b
  | _, _, .int i => .int i
  | _, _, .str s => .str s
  | _, _, .tup q r => .tup (by
      rcases q with (q | ⟨o', q⟩) | q
      · exact .inl (.inl (by rw [upd_ne ((thaw_ne h).1 _ q)]; exact q))
      · exact .inl (.inr ⟨o', by rw [upd_ne ((thaw_ne h).2.1 _ _ q)]; exact q⟩)
      · exact .inr q) (RpL.thaw h o r)
  | _, _, .fl q r => .fl (by
      obtain ⟨o', q⟩ := q
      exact ⟨o', by rw [upd_ne ((thaw_ne h).2.2.1 _ _ q)]; exact q⟩) (RpL.thaw h o r)
  | _, _, .fd q r => .fd (by
      obtain ⟨o', kvs, q, k⟩ := q
      exact ⟨o', kvs, by rw [upd_ne ((thaw_ne h).2.2.2 _ _ q)]; exact q, k⟩) (RpL.thaw h o r)
  | _, _, .ref (m := m) q => .ref (m := m) q
theorem RpL.thaw (h : H' ad = some (.frz od (.ext φ))) (o : HO) : ∀ {l : List D} {vs : List V}, RpL K α H' l vs → RpL K α (upd H' ad o) l vs
  | _, _, .nil => .nil
  | _, _, .cons r t => .cons (Rp.thaw h o r) (RpL.thaw h o t)
end
theorem Ext.thaw (hm : (ad, true) ∈ α) (h0 : H ad = some (.ext φ)) (e : Ext α (upd H ad (.frz od (.ext φ))) α' H') : Ext α H α' (upd H' ad (.ext φ)) := by
  obtain ⟨β, rfl, hb⟩ := e.pre
  refine ⟨⟨β, rfl, fun a ha => ?_⟩, fun a o q n => ?_, fun a xs q => ?_, fun a o u q => ?_, fun a o q => ?_⟩
  · have := hb a ha
    by_cases z : a.1 = ad
    · rw [z, upd_same] at this; cases this
    · rw [upd_ne z] at this; exact this
  · have z : a ≠ ad := fun z => n (z ▸ hm)
    rw [upd_ne z]; exact e.keep a o (by rw [upd_ne z]; exact q) n
  · have z : a ≠ ad := fun z => by subst z; rw [h0] at q; cases q
    rw [upd_ne z]; exact e.tups a xs (by rw [upd_ne z]; exact q)
  · have z : a ≠ ad := fun z => by subst z; rw [h0] at q; cases q
    rw [upd_ne z]; exact e.frzs a o u (by rw [upd_ne z]; exact q)
  · by_cases z : a = ad
    · exact ⟨_, by rw [z, upd_same]⟩
    · obtain ⟨o', h'⟩ := e.dom a o (by rw [upd_ne z]; exact q)
      exact ⟨o', by rw [upd_ne z]; exact h'⟩
theorem StR.thaw {S : Sto} {n : Nat} {o : O} (s : StR K α H' S) (hn : α[n]? = some (ad, true)) (hS : S[n]? = some .dead) (h : H' ad = some (.frz od (.ext φ))) (new : OR K α (upd H' ad (.ext φ)) ad true o) : StR K α (upd H' ad (.ext φ)) (S.set n o) := by
  have hl := (List.getElem?_eq_some_iff.mp hS).1
  refine ⟨by simp [s.len], s.nd, fun m b k o' h1 h2 => ?_⟩
  by_cases e : m = n
  · subst e
    rw [hn] at h1; cases h1
    rw [List.getElem?_set_self hl] at h2; cases h2
    exact new
  · rw [List.getElem?_set_ne (Ne.symm e)] at h2
    have hb := s.at_ m b k o' h1 h2
    have nb : k = true → b ≠ ad := fun hk z => by
      subst hk z
      exact e (s.nd m n b h1 hn)
    cases o' with
    | lst l => obtain ⟨hm, vs, q1, q2⟩ := hb; exact ⟨hm, vs, by rw [upd_ne (nb hm)]; exact q1, q2.thaw h _⟩
    | ro l =>
      obtain ⟨hm, vs, q1, q2⟩ := hb
      refine ⟨hm, vs, ?_, q2.thaw h _⟩
      rcases q1 with ⟨ob, q1⟩ | q1
      · exact .inl ⟨ob, by rw [upd_ne ((thaw_ne h).2.2.1 _ _ q1)]; exact q1⟩
      · exact .inr q1
    | dct kv => obtain ⟨hm, xs, q1, q2⟩ := hb; exact ⟨hm, xs, by rw [upd_ne (nb hm)]; exact q1, Paired.imp2 (fun a b z => z.imp fun d v r => r.thaw h _) q2⟩
    | dead => obtain ⟨hm, ob, u, q1⟩ := hb; exact ⟨hm, ob, u, by rw [upd_ne (nb hm)]; exact q1⟩
    | exc c fs => exact hb
end
def dkF (i : Nat) (bd : Sto → D → Env → Option Env) (own : List Nat) (ft : Env → Sto → R Bool) (fe : Env → Sto → R D) : Env → Sto → R (List D) := fun ρ S => match ρ[i]? with
  | some (some (.ref n)) => match S[n]? with
    | some (.dct kv) => if kv.length ≤ line then (compL (fun x S => bd S x (wipeE ρ own)) ft fe none (kv.map (·.1)) [] (S.set n .dead)).bind fun l S2 =>
        if S2[n]? = some .dead then .ok l (S2.set n (.dct kv)) else .no
      else .no
    | _ => .no
  | _ => .no
theorem keys_V {α : List (Addr × Bool)} {H : Hp} {K : PySem.W.Frag} {kv : List (D × D)} {xs : List (NestedKey × Addr × Value)} (pr : Paired (DRel K α H) kv xs) : RpL K α H (kv.map (·.1)) (xs.map fun y => V.ref y.2.1) := by
  induction pr with
  | nil => exact .nil
  | cons r t ih => exact .cons r.key ih
theorem sc_compd {elt tg : Expr} {ifs : List Expr} {scope : Scope} {own : List (PySem.Str × Nat)} {bd : Sto → D → Env → Option Env} {sl : List Nat} {ft : Env → Sto → R Bool} {fe : Env → Sto → R D} {i : Nat} {x : PySem.Str} {ip : Pos}
    (hc : X.calm = true) (hN : X.N.Nodup) (hX : X.N[i]? = some x) (hv : Vis X.env.scope x) (hd : (x == ("__debug__" : PySem.Str)) = false) (hcd : (x == ("__classdict__" : PySem.Str)) = false) (ok : BlkOk X.N X.env.scope scope own) (hsub : ∀ j ∈ sl, j ∈ own.map (·.2)) (hbl : ∀ S d ρ ρ', bd S d ρ = some ρ' → ρ'.length = ρ.length)
    (hg : ∀ (s : Shared) (H : Hp) (C : Addr) (cl : List (PySem.Str × Addr)) (fp : List Addr), SG (X.blk s H scope (compEnvC scope cl C X.env) fp) tg bd sl)
    (ht : ∀ (s : Shared) (H : Hp) (C : Addr) (cl : List (PySem.Str × Addr)) (fp : List Addr), STo CA (X.blk s H scope (compEnvC scope cl C X.env) fp) ifs ft)
    (he : ∀ (s : Shared) (H : Hp) (C : Addr) (cl : List (PySem.Str × Addr)) (fp : List Addr), SE CA (X.blk s H scope (compEnvC scope cl C X.env) fp) W0 elt fe) :
    SCm CA X W (.ListComp elt [⟨tg, .Name x ip, ifs, 0⟩] scope pos) (dkF i bd (own.map (·.2)) ft fe) := by
  refine ⟨_, pe_lock (pe_lc (g := gE X.K bd sl) (tt := tT X.K CA W0 ft) (te := tE X.K CA W0 fe) hc hN (pi_keysN (pe_var hX hv hd hcd)) ok (fun s H C cl fp => (hg s H C cl fp).pg) (fun s H C cl fp => ht s H C cl fp) (fun s H C cl fp => (he s H C cl fp).pe) (fun _ => rfl)), fun j y py spos hy hl hsw => ?_, fun ρ S σ H α Q hen hst p => ?_⟩
  · have z2 := ps_lock (ps_setLc (g := gE X.K bd sl) (tt := tT X.K CA W0 ft) (te := tE X.K CA W0 fe) hc hN hy hl hsw (pi_keysN (pe_var hX hv hd hcd)) ok (fun s H C cl fp => (hg s H C cl fp).pg) (fun s H C cl fp => ht s H C cl fp) (fun s H C cl fp => (he s H C cl fp).pe) (fun _ => rfl))
    exact ⟨fun pins s σ H D I hw => z2.run pins s σ H D I hw⟩
  unfold dkF at p
  split at p
  · rename_i n e
    split at p
    · rename_i kv eS
      split at p
      · rename_i hlen
        obtain ⟨v, hvσ, r⟩ := hen.get i _ e
        cases r with
        | @ref _ ad m ha =>
          obtain ⟨rfl, xs, h1, pr⟩ := hst.at_ n ad m _ ha eS
          have mu : Mut (H ad) := by rw [h1]; exact True.intro
          have hm : (ad, true) ∈ α := List.mem_of_getElem? ha
          refine ⟨ad, _, h1, True.intro, fun od => ⟨_, hvσ, ad, od, xs, rfl, upd_same, fun q hq => ?_⟩⟩
          have ew : Ext α H α (upd H ad (.frz od (DN ad xs))) := Ext.write ha mu
          have s1 : StR X.K α (upd H ad (.frz od (DN ad xs))) (S.set n .dead) := hst.write ha mu ⟨rfl, od, _, upd_same⟩
          have rl := (keys_V pr).ext ew
          have hI : ItR X.K (kv.map (·.1), none) (Itn ad od xs) α (upd H ad (.frz od (DN ad xs))) := itr_seq rl fun α' H' e i => by
            have hz := e.frzs ad od _ upd_same
            refine ⟨fun v hv => ?_, fun hi => ⟨hz, by simpa using hi⟩⟩
            rw [List.getElem?_map] at hv
            cases hy : xs[i]? with
            | none => rw [hy] at hv; cases hv
            | some y =>
              rw [hy] at hv
              cases hv
              refine ⟨⟨hz, (List.getElem?_eq_some_iff.mp hy).1⟩, fun x H'' hyl => ?_⟩
              obtain ⟨e1, y', hy', rfl⟩ := hyl
              rw [hy] at hy'
              cases hy'
              exact ⟨e1, rfl⟩
          refine comp_turns (CA := CA) (ft := ft) (fe := fe) (Q := fun v H' => H' ad = some (.frz od (DN ad xs)) ∧ Q v (upd H' ad (DN ad xs))) (src := (kv.map (·.1), none)) (ρ := ρ) (E := fun _ _ _ => True) hsub hbl hq s1 (hen.ext ew) rfl hI (by simpa using hlen) ?_
          revert p
          generalize compL _ ft fe none (kv.map (·.1)) [] (S.set n .dead) = r
          intro p
          cases r with
          | ok l S2 =>
            simp only [R.bind_ok] at p
            split at p
            · rename_i hS2
              intro α' H' q' vs e s hq1 hq2 nq rl
              have hz := e.frzs ad od _ upd_same
              have qa : q' ≠ ad := fun z => by rw [z, upd_same] at hq1; cases hq1
              have et := Ext.thaw (φ := _) hm h1 e
              have hn' : α'[n]? = some (ad, true) := by
                obtain ⟨β, rfl, _⟩ := e.pre
                exact get_pre ha
              refine ⟨hz, p α' _ q' vs et (StR.thaw s hn' hS2 hz ⟨rfl, xs, upd_same, Paired.imp2 (fun a b z => z.imp fun d v r => r.ext et) pr⟩) (by rw [upd_ne qa] at hq1; exact hq1) (by rw [upd_ne qa]; exact hq2) nq (rl.thaw hz _)⟩
            · exact p.elim
          | ex x S' => exact fun _ _ _ _ _ _ _ => True.intro
          | no => exact p
      · exact p.elim
    · exact p.elim
  · exact p.elim
/-! ### methods -/
theorem tyV_of {K : PySem.W.Frag} {α : List (Addr × Bool)} {H : Hp} {S : Sto} {n : Nat} {ad : Addr} {m : Bool} {l : List D} (s : StR K α H S) (ha : α[n]? = some (ad, m)) (h : lstOf S n = some l) : tyV K "list" (.ref ad) H := by
  obtain ⟨vs, h1, _⟩ := s.rd h ha
  exact .inl ⟨rfl, vs, h1⟩
/-- list.append -/
def appF (fa fb : Env → Sto → R D) : Env → Sto → R D := fun ρ S => (fa ρ S).bind fun x S1 => match x with
  | .ref n => match lstOf S1 n with
    | some _ => (fb ρ S1).bind fun v S2 => meD .append (.ref n) [v] S2
    | none => .no
  | _ => .no
def meF (m : Me) (fa : Env → Sto → R D) (fs : Env → Sto → R (List D)) : Env → Sto → R D := fun ρ S => (fa ρ S).bind fun x S1 => match seqD S1 x with
  | some _ => (fs ρ S1).bind fun l S2 => meD m x l S2
  | none => .no
def notCall : Expr → Bool
  | .Call _ _ _ _ => false
  | _ => true
theorem base_of {x : PySem.Str} {env : PySem.Env} {w : Sem Value} (h : notCall a = true) : attributeBase a x env w = w := by
  cases a <;> first | rfl | cases h
theorem few_of {cpos : Pos} {env : PySem.Env} (hn : noStar es = true) (hl : es.length < 20) : ((backTo cpos (starEach es env)).all (fun x => !x.1) && (backToKw cpos (keywordEach [] env)).all (fun x => x.1.isSome)
      && decide (es.length + ([] : List Keyword).length + (if ([] : List Keyword).isEmpty then 0 else 1) < 30)) = true := by
  have e1 : (backTo cpos (starEach es env)).all (fun x => !x.1) = true := by
    have := hpl_of (env := env) (pos := cpos) hn
    rw [List.all_eq_true]
    intro x hx
    rw [List.any_eq_false] at this
    simpa using this x hx
  rw [e1]
  simp [keywordEach, backToKw]
  omega
/-- a method of a list, its rule -/
def mStr : Me → PySem.Str
  | .append => "append" | .extend => "extend" | .pop => "pop" | .insert => "insert" | .reverse => "reverse" | _ => ""
def mId : Me → String
  | .append => "list.append" | .extend => "list.extend" | .pop => "list.pop" | .insert => "list.insert" | .reverse => "list.reverse" | _ => ""
def meKnown : Me → Bool
  | .append => true | .extend => true | .pop => true | .insert => true | .reverse => true | _ => false
def rExtL : V → List V → Hp → VK → Prop := fun x vs H Q => ∃ l b xs zs, x = .ref l ∧ vs = [.ref b] ∧ H l = some (.lst xs) ∧ Rd H b (.lst zs) ∧ xs.length + zs.length ≤ sizeLine ∧ Q .non (upd H l (.lst (xs ++ zs)))
theorem mt_extL : MtR X "list.extend" rExtL := by
  intro pins st σ H x vs v us Q I rx rv h
  obtain ⟨l, b, xs, zs, rfl, rfl, hH, hB, hz, q⟩ := h
  cases rx
  obtain ⟨u, rfl, ru⟩ := rv.one
  cases ru
  obtain ⟨z, its, n, r, hl, e⟩ := I.lstM hH
  obtain ⟨z2, its2, n2, r2, e2⟩ := hB.ok I.hok
  have hl2 := r2.length
  have g1 : its.toArray.size + its2.toArray.size ≤ sizeLine := by simp only [List.size_toArray]; omega
  have g2 : ¬ (!its.toArray.isEmpty && Builtin.List.listTooLong (its.toArray.size + its2.toArray.size)) = true := fun c => by
    rw [notLongL g1, Bool.and_false] at c; cases c
  refine call_meets F.slot_list_extend ⟨_, e, rfl⟩ F.entry_list_extend (F.args_list_extend_2 _ _) (AutoSeq1.list_extend_list_list_0 l its.toArray n b its2.toArray n2 g2 ?_ ?_) ⟨e, e2, ?_⟩
  · simp only [List.size_toArray]; omega
  · simp only [List.size_toArray] at g1 ⊢; omega
  · refine ⟨.non, _, I.lset (its' := its ++ its2) hH e (by simp) (r.append r2) ?_, rfl, q⟩
    simp only [List.length_append]; omega
/-- what a method's rule must serve -/
def MeOk (X : Cx) (CA : Nat → Addr) (m : Me) : Prop := ∃ r, MtR X (mId m) r ∧ ∀ (α : List (Addr × Bool)) (H : Hp) (S : Sto) (n : Nat) (ad : Addr) (l : List D) (vs : List V) (ds : List D) (xs : List V) (Q : VK) (W : XK), StR X.K α H S → α[n]? = some (ad, true) → S[n]? = some (.lst l) → H ad = some (.lst vs) → RpL X.K α H l vs → RpL X.K α H ds xs →
  Post X.K CA (Rp X.K) α H (match meL m l ds S with | some (v, l') => .ok v (S.set n (.lst l')) | none => .no) Q W → r (.ref ad) xs H Q
theorem post_set {α : List (Addr × Bool)} {H : Hp} {S : Sto} {n : Nat} {ad : Addr} {l l' : List D} {vs vs' : List V} {d : D} {v : V} {Q : VK} {W : XK} (s : StR X.K α H S) (ha : α[n]? = some (ad, true)) (hv : H ad = some (.lst vs)) (rd : Rp X.K α H d v) (rl : RpL X.K α H l' vs')
    (h : Post X.K CA (Rp X.K) α H (.ok d (S.set n (.lst l'))) Q W) : Q v (upd H ad (.lst vs')) := by
  have mu : Mut (H ad) := by rw [hv]; trivial
  have ew := Ext.write (ho := .lst vs') ha mu
  exact h _ _ _ ew (s.write ha mu ⟨rfl, _, upd_same, rl.ext ew⟩) (rd.ext ew)
theorem RpL.dropLast {K : PySem.W.Frag} {α : List (Addr × Bool)} {H : Hp} {l : List D} {vs : List V} (r : RpL K α H l vs) : RpL K α H l.dropLast vs.dropLast := by
  rw [List.dropLast_eq_take, List.dropLast_eq_take, r.length]
  exact r.take _
theorem RpL.eraseIdx {K : PySem.W.Frag} {α : List (Addr × Bool)} {H : Hp} {l : List D} {vs : List V} (r : RpL K α H l vs) (k : Nat) : RpL K α H (l.eraseIdx k) (vs.eraseIdx k) := by
  rw [List.eraseIdx_eq_take_drop_succ, List.eraseIdx_eq_take_drop_succ]
  exact (r.take k).append (r.drop (k + 1))
theorem RpL.reverse {K : PySem.W.Frag} {α : List (Addr × Bool)} {H : Hp} : ∀ {l : List D} {vs : List V}, RpL K α H l vs → RpL K α H l.reverse vs.reverse
  | _, _, .nil => .nil
  | _, _, .cons r t => by simp only [List.reverse_cons]; exact (RpL.reverse t).append (.one r)
theorem seqIx_of {n k : Nat} {i : Int} (h : ixN n i = some k) : seqIndex? i n = some k := by
  unfold ixN at h
  unfold seqIndex?
  by_cases c : 0 ≤ i
  · rw [if_pos c] at h
    split at h
    · cases h
      simp <;> omega
    · cases h
  · rw [if_neg c] at h
    split at h
    · cases h
      simp <;> omega
    · cases h
theorem me_ok {m : Me} (hm : meKnown m = true) : MeOk X CA m := by
  cases m with
  | append =>
    refine ⟨_, mt_append, fun α H S n ad l vs ds xs Q W s ha hS hv rl rs h => ?_⟩
    cases rs with
    | nil => exact h.elim
    | cons r t =>
      cases t with
      | cons _ _ => exact h.elim
      | nil =>
        simp only [meL] at h
        by_cases c : l.length < line
        · rw [if_pos c] at h
          exact ⟨ad, vs, _, rfl, rfl, hv, by rw [← line_eq, ← rl.length]; exact c, post_set (l := l) s ha hv .non (rl.append (.one r)) h⟩
        · rw [if_neg c] at h; exact h.elim
  | extend =>
    refine ⟨_, mt_extL, fun α H S n ad l vs ds xs Q W s ha hS hv rl rs h => ?_⟩
    cases rs with
    | nil => exact h.elim
    | @cons d v ds vs' r t =>
      cases t with
      | cons _ _ => exact h.elim
      | nil =>
        simp only [meL] at h
        cases e : mutD S d with
        | none => rw [e] at h; exact h.elim
        | some k =>
          rw [e] at h
          dsimp only at h
          by_cases c : l.length + k.length ≤ line
          · rw [if_pos c] at h
            have rd : ∃ b zs, v = .ref b ∧ Rd H b (.lst zs) ∧ RpL X.K α H k zs := by
              cases r with
              | fl hl rk => cases e; exact ⟨_, _, rfl, .inr hl, rk⟩
              | @ref n2 b m2 hb =>
                simp only [mutD] at e
                split at e
                · rename_i k2 e2
                  cases e
                  obtain ⟨_, zs, h1, h2⟩ := s.lst e2 hb
                  exact ⟨b, zs, rfl, .inl h1, h2⟩
                · cases e
              | _ => cases e
            obtain ⟨b, zs, rfl, h1, rk⟩ := rd
            exact ⟨ad, b, vs, zs, rfl, rfl, hv, h1, by rw [← line_eq, ← rl.length, ← rk.length]; exact c, post_set (l := l) s ha hv .non (rl.append rk) h⟩
          · rw [if_neg c] at h; exact h.elim
  | pop =>
    refine ⟨fun x xs H Q => rPop x xs H Q ∨ rPopAt x xs H Q, fun pins st σ H x vs v us Q I rx rv h => h.elim (mt_pop pins st σ H x vs v us Q I rx rv) (mt_popAt pins st σ H x vs v us Q I rx rv), fun α H S n ad l vs ds xs Q W s ha hS hv rl rs h => ?_⟩
    cases rs with
    | nil =>
      simp only [meL] at h
      cases e : l[l.length - 1]? with
      | none => rw [e] at h; exact h.elim
      | some d =>
        rw [e] at h
        obtain ⟨v, h1, h2⟩ := rl.get e
        exact .inl ⟨ad, vs, v, rfl, rfl, hv, by rw [← rl.length]; exact h1, post_set (l := l) s ha hv h2 rl.dropLast h⟩
    | @cons d0 v0 _ _ r t =>
      cases t with
      | cons _ _ => cases d0 <;> exact h.elim
      | nil =>
        cases r with
        | int i =>
          simp only [meL] at h
          by_cases c : i64 i = true
          · rw [if_pos c] at h
            cases e : ixN l.length i with
            | none => rw [e] at h; exact h.elim
            | some k =>
              rw [e] at h
              dsimp only at h
              cases e2 : l[k]? with
              | none => rw [e2] at h; exact h.elim
              | some d =>
                rw [e2] at h
                obtain ⟨v, h1, h2⟩ := rl.get e2
                simp only [i64, Bool.and_eq_true, decide_eq_true_eq] at c
                exact .inr ⟨ad, vs, i, k, v, rfl, rfl, hv, c.1, c.2, by rw [← rl.length]; exact seqIx_of e, h1, post_set (l := l) s ha hv h2 (rl.eraseIdx k) h⟩
          · rw [if_neg c] at h; exact h.elim
        | _ => exact h.elim
  | insert =>
    refine ⟨_, mt_insert, fun α H S n ad l vs ds xs Q W s ha hS hv rl rs h => ?_⟩
    cases rs with
    | nil => exact h.elim
    | @cons d0 v0 _ _ r t =>
      cases t with
      | nil => cases d0 <;> exact h.elim
      | @cons d1 v1 _ _ r1 t =>
        cases t with
        | cons _ _ => cases d0 <;> exact h.elim
        | nil =>
          cases r with
          | int i =>
            simp only [meL] at h
            by_cases c : (decide (0 ≤ i) && decide (i < 2 ^ 63) && decide (l.length < line)) = true
            · rw [if_pos c] at h
              simp only [Bool.and_eq_true, decide_eq_true_eq] at c
              exact ⟨ad, vs, i, _, rfl, rfl, hv, by rw [← line_eq, ← rl.length]; exact c.2, c.1.1, c.1.2, post_set (l := l) s ha hv .non (((rl.take _).append (.one r1)).append (rl.drop _)) h⟩
            · rw [if_neg c] at h; exact h.elim
          | _ => exact h.elim
  | reverse =>
    refine ⟨_, mt_reverse, fun α H S n ad l vs ds xs Q W s ha hS hv rl rs h => ?_⟩
    cases rs with
    | nil => exact ⟨ad, vs, rfl, rfl, hv, post_set (l := l) s ha hv .non rl.reverse h⟩
    | cons _ _ => exact h.elim
  | _ => cases hm
theorem mt_slot {m : Me} (hm : meKnown m = true) : Slot "list" (mStr m) (mId m) ∧ typeOf (.builtin (mId m)) = pure (.type "method_descriptor") := by
  cases m <;> first
    | exact ⟨PySem.F.slot_list_append, PySem.F.type_list_append⟩
    | exact ⟨PySem.F.slot_list_extend, PySem.F.type_list_extend⟩
    | exact ⟨PySem.F.slot_list_pop, PySem.F.type_list_pop⟩
    | exact ⟨PySem.F.slot_list_insert, PySem.F.type_list_insert⟩
    | exact ⟨PySem.F.slot_list_reverse, PySem.F.type_list_reverse⟩
    | cases hm
theorem me_post {m : Me} {α : List (Addr × Bool)} {H : Hp} {S : Sto} {d : D} {x : V} {ds : List D} {xs : List V} {Q : VK} {W : XK} {r : V → List V → Hp → VK → Prop} (hr : ∀ (α : List (Addr × Bool)) (H : Hp) (S : Sto) (n : Nat) (ad : Addr) (l : List D) (vs : List V) (ds : List D) (xs : List V) (Q : VK) (W : XK), StR X.K α H S → α[n]? = some (ad, true) → S[n]? = some (.lst l) → H ad = some (.lst vs) → RpL X.K α H l vs → RpL X.K α H ds xs →
  Post X.K CA (Rp X.K) α H (match meL m l ds S with | some (v, l') => .ok v (S.set n (.lst l')) | none => .no) Q W → r (.ref ad) xs H Q) (s : StR X.K α H S) (rd : Rp X.K α H d x) (rs : RpL X.K α H ds xs) (h : Post X.K CA (Rp X.K) α H (meD m d ds S) Q W) : r x xs H Q := by
  cases rd with
  | @ref n ad mm ha =>
    simp only [meD] at h
    split at h
    · rename_i l e
      obtain ⟨rfl, vs, h1, rl⟩ := s.at_ n ad mm _ ha e
      exact hr α H S n ad l vs ds xs Q W s ha e h1 rl rs h
    · exact h.elim
  | _ => exact h.elim
theorem tyV_seq {α : List (Addr × Bool)} {H : Hp} {S : Sto} {d : D} {x : V} {l : List D} (s : StR X.K α H S) (rd : Rp X.K α H d x) (h : seqD S d = some l) : tyV X.K "list" x H := by
  obtain ⟨a, vs, rfl, h1, _⟩ := seq_rd s rd h
  exact .inl ⟨rfl, vs, h1⟩
theorem se_me0 {m : Me} {ap : Pos} (hm : meKnown m = true) (hnc : notCall a = true) (hl : (ap.endLine == pos.line) = true) (ha : SE CA X W a fa) : SE CA X W (.Call (.Attribute a (mStr m) ap) [] [] pos) (meF m fa fun _ S => .ok [] S) := by
  obtain ⟨ta, pa, ha⟩ := ha
  obtain ⟨r, mr, hr⟩ := me_ok (X := X) (CA := CA) hm
  obtain ⟨sl, ty⟩ := mt_slot hm
  refine ⟨_, pe_bm0 PySem.F.plainAttrs_list sl ty mr pa (hbase := base_of hnc) (hline := hl), fun ρ S σ H α Q he hs p => ?_⟩
  unfold meF at p
  refine ha _ _ _ _ _ _ he hs (p.bind.imp fun x H1 ⟨α1, S1, d, e1, s1, r1, p1⟩ => ?_)
  cases h : seqD S1 d with
  | none => rw [h] at p1; exact p1.elim
  | some l0 =>
    rw [h] at p1
    exact ⟨tyV_seq s1 r1 h, me_post hr s1 r1 .nil p1⟩
theorem se_me1 {m : Me} {ap : Pos} (hm : meKnown m = true) (hnc : notCall a = true) (hl : (ap.endLine == pos.line) = true) (hn : noStar (b :: es) = true) (hz : (b :: es).length < 20) (ha : SE CA X W a fa) (hs : SA CA X W (b :: es) fs) : SE CA X W (.Call (.Attribute a (mStr m) ap) (b :: es) [] pos) (meF m fa fs) := by
  obtain ⟨ta, pa, ha⟩ := ha
  obtain ⟨t, pt, ht⟩ := hs
  obtain ⟨r, mr, hr⟩ := me_ok (X := X) (CA := CA) hm
  obtain ⟨sl, ty⟩ := mt_slot hm
  refine ⟨_, pe_bm PySem.F.plainAttrs_list sl ty mr pa pt (hbase := base_of hnc) (hfew := few_of hn hz) (hline := hl) (hs := he_of (noStar_ne hn).1) (hplain := hpl_of (noStar_ne hn).2), fun ρ S σ H α Q he hs p => ?_⟩
  unfold meF at p
  refine ha _ _ _ _ _ _ he hs (p.bind.imp fun x H1 ⟨α1, S1, d, e1, s1, r1, p1⟩ => ?_)
  cases h : seqD S1 d with
  | none => rw [h] at p1; exact p1.elim
  | some l0 =>
    rw [h] at p1
    refine ⟨tyV_seq s1 r1 h, ?_⟩
    refine ht _ _ _ _ _ _ (he.ext e1) s1 (p1.bind.imp fun xs H2 ⟨α2, S2, ds, e2, s2, r2, p2⟩ => ?_)
    exact me_post hr s2 (r1.ext e2) r2 p2
theorem se_append {ap : Pos} (hnc : notCall a = true) (hl : (ap.endLine == pos.line) = true) (hx : ∀ v q, b ≠ .Starred v q) (ha : SE CA X W a fa) (hb : SE CA X W b fb) : SE CA X W (.Call (.Attribute a "append" ap) [b] [] pos) (appF fa fb) := by
  have hn : noStar [b] = true := by cases b <;> first | rfl | exact absurd rfl (hx _ _)
  obtain ⟨t, pt, ht⟩ := se_me1 (m := .append) (pos := pos) rfl hnc hl hn (by simp) ha (sa_cons hx hb sa_nil)
  refine ⟨t, pt, fun ρ S σ H α Q he hs p => ht ρ S σ H α Q he hs ?_⟩
  unfold appF at p
  unfold meF
  revert p
  generalize fa ρ S = r
  intro p
  cases r with
  | no => exact p
  | ex x S1 => exact p
  | ok d S1 =>
    simp only [R.bind_ok] at p ⊢
    cases d with
    | ref n =>
      simp only [seqD] at p ⊢
      revert p
      cases lstOf S1 n with
      | none => exact id
      | some l =>
        dsimp only
        intro p
        have e : (((fb ρ S1).bind fun x S1 => R.ok [x] S1).bind fun l S2 => meD Me.append (D.ref n) l S2) = (fb ρ S1).bind fun v S2 => meD .append (.ref n) [v] S2 := by
          cases fb ρ S1 <;> rfl
        rw [e]; exact p
    | _ => exact p.elim
end
end Eg

namespace Eg
open PySem PySem.Spec PyProof.Rows L2
/-! ### the text against the syntax -/
structure Glo where
  T : List Df
  cons : List (List Nat × D)
  kws : List (Nat × List Nat × List (List Nat))
  cls : List (List Nat)
  flds : List (List Nat)
  exs : List (Nat × List (List Nat))
  sub : Nat → Nat → Bool
structure Ck where
  N : List PySem.Str
  sc : Scope
  fn : PySem.Str → Bool
def Ck.blk (k : Ck) (scope : Scope) : Ck := ⟨k.N, relS scope k.sc, fun x => scope.names.lookup x == some .cell⟩
def glB (sc : Scope) (x : PySem.Str) : Bool := decide (sc.names.lookup x = some .globalImplicit)
def visB (sc : Scope) (x : PySem.Str) : Bool := match sc.names.lookup x with
  | some .local => true | some .cell => true | some .free => true | _ => false
def nmB (x : PySem.Str) : Bool := !(x == ("__debug__" : PySem.Str)) && !(x == ("__classdict__" : PySem.Str))
def locB (k : Ck) (x : PySem.Str) : Bool := match k.sc.names.lookup x with
  | some .local => true | some .cell => k.fn x | _ => false
def notSl : Expr → Bool
  | .Slice _ _ _ _ => false
  | _ => true
def notSet : Expr → Bool
  | .Set _ _ _ => false
  | _ => true
def okL : D → Const → Bool
  | .non, .none => true
  | .bl b, .bool c => b == c
  | .int i, .int j => decide (i = j)
  | .str s, .str x => decide (x = cs s)
  | _, _ => false
mutual
def okT (k : Ck) : Tg → Expr → Bool
  | .nm i, pe => match pe with
    | .Name x _ => decide (k.N[i]? = some x) && locB k x
    | _ => false
  | .tp ts, pe => match pe with
    | .Tuple xs _ _ => noStar xs && okTs k ts xs
    | _ => false
def okTs (k : Ck) : List Tg → List Expr → Bool
  | [], xs => match xs with
    | [] => true
    | _ => false
  | t :: ts, xs => match xs with
    | x :: xs => okT k t x && okTs k ts xs
    | _ => false
end
def okTy (k : Ck) : List Ty → List Expr → Bool
  | [], [] => true
  | t :: ts, .Name x _ :: xs => !t.own && decide (x = tName t) && glB k.sc x && okTy k ts xs
  | _, _ => false
/-- a zip goes to a tuple of names -/
def zipT : I → Expr → Bool
  | .zip _ _, .Tuple _ _ _ => true
  | .zip _ _, _ => false
  | _, _ => true
def ownP (k : Ck) (own : List Nat) : List (PySem.Str × Nat) := own.map fun i => ((k.N[i]?).getD ("" : PySem.Str), i)
section
variable (G : Glo)
mutual
def okE (k : Ck) : E → Expr → Bool
  | .lit d, pe => match pe with
    | .Constant c _ _ => okL d c
    | _ => false
  | .var i, pe => match pe with
    | .Name x _ => decide (k.N[i]? = some x) && visB k.sc x && nmB x
    | _ => false
  | .con x d, pe => match pe with
    | .Name y _ => decide (y = cs x) && glB k.sc y && nmB y && decide ((x, d) ∈ G.cons)
    | _ => false
  | .bin o a b, pe => match pe with
    | .BinOp x op y _ => decide (op = opOf o) && okE k a x && okE k b y
    | _ => false
  | .neg a, pe => match pe with
    | .UnaryOp op x _ => decide (op = .USub) && okE k a x
    | _ => false
  | .cmp o a b, pe => match pe with
    | .Compare x [op] [y] _ => decide (op = cOf o) && !behindInMarks op y && okE k a x && okE k b y
    | _ => false
  | .cmp2 o p a b d, pe => match pe with
    | .Compare x [op, op'] [y, z] _ => decide (op = cOf o) && decide (op' = cOf p) && !lastMarks [op, op'] [y, z] && okE k a x && okE k b y && okE k d z
    | _ => false
  | .and a b, pe => match pe with
    | .BoolOp op [x, y] _ => decide (op = .And) && okE k a x && okE k b y
    | .BoolOp op (x :: y :: z :: r) p => decide (op = .And) && okE k a x && okE k b (.BoolOp .And (y :: z :: r) p)
    | _ => false
  | .or a b, pe => match pe with
    | .BoolOp op [x, y] _ => decide (op = .Or) && okE k a x && okE k b y
    | .BoolOp op (x :: y :: z :: r) p => decide (op = .Or) && okE k a x && okE k b (.BoolOp .Or (y :: z :: r) p)
    | _ => false
  | .not a, pe => match pe with
    | .UnaryOp op x _ => decide (op = .Not) && okE k a x
    | _ => false
  | .ite c a b, pe => match pe with
    | .IfExp t x y _ => okE k c t && okE k a x && okE k b y
    | _ => false
  | .tup es, pe => match pe with
    | .Tuple xs _ _ => okEs k es xs
    | _ => false
  | .lst es, pe => match pe with
    | .List xs _ => okEs k es xs
    | _ => false
  | .dct0, pe => match pe with
    | .Dict [] [] _ => true
    | _ => false
  | .lstF es, pe => match pe with
    | .List xs _ => okEs k es xs
    | _ => false
  | .dctF, pe => match pe with
    | .Dict [] [] _ => true
    | _ => false
  | .frz i, pe => match pe with
    | .Name x _ => decide (k.N[i]? = some x) && visB k.sc x && nmB x
    | _ => false
  | .bak a, pe => match pe with
    | .Subscript x (.Slice none none (some (.UnaryOp op (.Constant (.int i) _ _) _)) _) _ => decide (op = .USub) && decide (i = 1) && okE k a x
    | _ => false
  | .me m a es, pe => match pe with
    | .Call (.Attribute x nm ap) ys [] pos => meKnown m && decide (nm = mStr m) && notCall x && (ap.endLine == pos.line) && noStar ys && decide (ys.length < 20) && okE k a x && okEs k es ys
    | _ => false
  | .idx a i, pe => match pe with
    | .Subscript x y _ => notSl y && okE k a x && okE k i y
    | _ => false
  | .idxl es i, pe => match pe with
    | .Subscript (.List xs _) y _ => notSl y && okEs k es xs && okE k i y
    | _ => false
  | .slc a lo hi, pe => match pe with
    | .Subscript x (.Slice l h none _) _ => okE k a x && okO k lo l && okO k hi h
    | _ => false
  | .call f es, pe => match pe with
    | .Call (.Name x _) (y :: xs) [] _ => match G.T[f]? with
      | some d => decide (x = cs d.name) && glB k.sc x && nmB x && noStar (y :: xs) && okEs k es (y :: xs)
      | none => false
    | _ => false
  | .callk f perm ks es, pe => match pe with
    | .Call (.Name x _) [] kws _ => match G.T[f]? with
      | some d => decide (x = cs d.name) && glB k.sc x && nmB x && decide ((f, perm, ks) ∈ G.kws) && kwNames kws ks && okKs k es kws
      | none => false
    | _ => false
  | .bi b es, pe => match pe with
    | .Call (.Name x _) (y :: xs) [] _ => decide (x = bName b) && glB k.sc x && noStar (y :: xs) && okEs k es (y :: xs)
    | _ => false
  | .isi a ts, pe => match pe with
    | .Call (.Name x _) [y, .Name z q] [] _ => decide (x = ("isinstance" : PySem.Str)) && glB k.sc x && noStar [y] && okE k a y && decide (ts.length = 1) && okTy k ts [.Name z q]
    | .Call (.Name x _) [y, .Tuple zs _ _] [] _ => decide (x = ("isinstance" : PySem.Str)) && glB k.sc x && noStar [y] && okE k a y && decide (ts.length ≤ 10) && okTy k ts zs
    | _ => false
  | .comp q, pe => okC k q pe
  | .compF q, pe => okC k q pe
  | .bic b q, pe => match pe with
    | .Call (.Name x _) [y] [] _ => decide (x = bName b) && glB k.sc x && noStar [y] && okC k q y
    | _ => false
  | .nilc neg q, pe => match pe with
    | .Compare x [op] [.List [] _] _ => decide (op = negOp neg) && okC k q x
    | _ => false
  | .inl neg a es, pe => match pe with
    | .Compare x [op] [.List ys _] _ => decide (op = inOp neg) && okE k a x && okEs k es ys
    | _ => false
  | .app a b, pe => match pe with
    | .Call (.Attribute x m ap) [y] [] pos => decide (m = ("append" : PySem.Str)) && notCall x && (ap.endLine == pos.line) && noStar [y] && okE k a x && okE k b y
    | _ => false
  | .no, _ => true
def okO (k : Ck) : Option E → Option Expr → Bool
  | none, pe => match pe with
    | none => true
    | some _ => false
  | some e, pe => match pe with
    | some x => okE k e x
    | none => false
def okEs (k : Ck) : Es → List Expr → Bool
  | .nil, xs => match xs with
    | [] => true
    | _ => false
  | .cons e es, xs => match xs with
    | x :: xs => noStar [x] && okE k e x && okEs k es xs
    | _ => false
  | .star e es, xs => match xs with
    | .Starred x _ :: xs => okE k e x && okEs k es xs
    | _ => false
def okKs (k : Ck) : Es → List Keyword → Bool
  | .nil, xs => match xs with
    | [] => true
    | _ => false
  | .cons e es, xs => match xs with
    | ⟨_, x, _⟩ :: xs => okE k e x && okKs k es xs
    | _ => false
  | .star _ _, _ => false
def okC (k : Ck) : C → Expr → Bool
  | .mk own e tg it c, pe => match pe with
    | .ListComp elt [⟨t, iter, ifs, as⟩] scope _ => decide (as = 0) && notSet iter && blkC k.N k.sc scope (ownP k own) && tg.slots.all (fun j => decide (j ∈ own)) && (zipT it t && okI k it iter) && okT (k.blk scope) tg t && okF (k.blk scope) c ifs && okE (k.blk scope) e elt
    | _ => false
  | .dk own e tg i c, pe => match pe with
    | .ListComp elt [⟨t, .Name x _, ifs, as⟩] scope _ => decide (as = 0) && blkC k.N k.sc scope (ownP k own) && tg.slots.all (fun j => decide (j ∈ own)) && (decide (k.N[i]? = some x) && visB k.sc x && nmB x) && okT (k.blk scope) tg t && okF (k.blk scope) c ifs && okE (k.blk scope) e elt
    | _ => false
def okF (k : Ck) : Option E → List Expr → Bool
  | none, xs => match xs with
    | [] => true
    | _ => false
  | some e, xs => match xs with
    | [x] => okE k e x
    | _ => false
def okI (k : Ck) : I → Expr → Bool
  | .val e, pe => okE k e pe
  | .valv i, pe => match pe with
    | .Name x _ => decide (k.N[i]? = some x) && visB k.sc x && nmB x
    | _ => false
  | .lst es, pe => match pe with
    | .List xs _ => okEs k es xs
    | _ => false
  | .rng1 a, pe => match pe with
    | .Call (.Name x _) [y] [] _ => decide (x = ("range" : PySem.Str)) && glB k.sc x && noStar [y] && okE k a y
    | _ => false
  | .rng2 a b, pe => match pe with
    | .Call (.Name x _) [y, z] [] _ => decide (x = ("range" : PySem.Str)) && glB k.sc x && noStar [y] && noStar [z] && okE k a y && okE k b z
    | _ => false
  | .rng3 a b d, pe => match pe with
    | .Call (.Name x _) [y, z, w] [] _ => decide (x = ("range" : PySem.Str)) && glB k.sc x && noStar [y] && noStar [z] && noStar [w] && okE k a y && okE k b z && okE k d w
    | _ => false
  | .zip a b, pe => match pe with
    | .Call (.Name x _) [y, z] [] _ => decide (x = ("zip" : PySem.Str)) && glB k.sc x && noStar [y] && noStar [z] && okE k a y && okE k b z
    | _ => false
  | .enum _, _ => false
end
end
/-- what a context must bear -/
def bltAll : List PySem.Str := ["len", "abs", "max", "min", "sum", "int", "str", "list", "tuple", "all", "any", "sorted", "bool", "dict", "isinstance", "range", "zip"]
structure XO (G : Glo) (CA : Nat → Addr) (c : Cl) (k : Ck) (X : Cx) : Prop where
  n : X.N = k.N
  nd : X.N.Nodup
  sc : X.env.scope = k.sc
  calm : X.calm = true
  hu : X.A.units + 65 < cLine
  fn : ∀ x, k.fn x = true → X.fn x = true
  blt : ∀ x ∈ bltAll, X.mg x = none
  con : ∀ p ∈ G.cons, ∃ u v, X.mg (cs p.1) = some u ∧ RelV v u ∧ ∀ α H, Rp X.K α H p.2 v
  call : ∀ f d, G.T[f]? = some d → CallOk X CA c G.kws f d
theorem XO.blk {G : Glo} {CA : Nat → Addr} {c : Cl} {k : Ck} {X : Cx} (h : XO G CA c k X) (s : Shared) (H : Hp) (scope : Scope) (C : Addr) (cl : List (PySem.Str × Addr)) (fp : List Addr) : XO G CA c (k.blk scope) (X.blk s H scope (compEnvC scope cl C X.env) fp) :=
  ⟨h.n, h.nd, by show relS scope X.env.scope = relS scope k.sc; rw [h.sc], h.calm, h.hu, fun x hx => hx, h.blt, h.con, fun f d e => ⟨(h.call f d e).ex⟩⟩
section
variable {G : Glo} {CA : Nat → Addr} {c : Cl} {k : Ck} {X : Cx}
theorem XO.gl (h : XO G CA c k X) {x : PySem.Str} (e : glB k.sc x = true) : Gl X x := by
  have := of_decide_eq_true e
  rw [← h.sc] at this
  exact this
theorem XO.vis (h : XO G CA c k X) {x : PySem.Str} (e : visB k.sc x = true) : Vis X.env.scope x := by
  rw [h.sc]
  unfold visB at e
  split at e
  · exact .inl (by assumption)
  · exact .inr (.inl (by assumption))
  · exact .inr (.inr (by assumption))
  · cases e
theorem XO.loc (h : XO G CA c k X) {x : PySem.Str} (e : locB k x = true) : Loc X.env.scope x ∧ (X.fn x = true ∨ X.env.scope.names.lookup x = some .local) := by
  rw [h.sc]
  unfold locB at e
  split at e
  · exact ⟨.inl (by assumption), .inr (by assumption)⟩
  · exact ⟨.inr (by assumption), .inl (h.fn x e)⟩
  · cases e
theorem nm_of {x : PySem.Str} (e : nmB x = true) : (x == ("__debug__" : PySem.Str)) = false ∧ (x == ("__classdict__" : PySem.Str)) = false := by
  simpa [nmB] using e
theorem bName_all (b : Bi) : bName b ∈ bltAll := by cases b <;> decide +kernel
theorem tName_all {t : Ty} (h : t.own = false) : tName t ∈ bltAll := by
  cases t with
  | cls c => cases h
  | _ => decide +kernel
theorem isi_all : ("isinstance" : PySem.Str) ∈ bltAll := by decide +kernel
theorem rng_all : ("range" : PySem.Str) ∈ bltAll := by decide +kernel
theorem zip_all : ("zip" : PySem.Str) ∈ bltAll := by decide +kernel
theorem plainIx_of {b : Expr} (h : notSl b = true) : PlainIx b := by
  intro o i
  cases b <;> first | rfl | cases h
theorem folded_of {it : Expr} {env : PySem.Env} (h : notSet it = true) : ∀ x, foldedSetIterable it env x = pure x := by
  intro x
  cases it <;> first | rfl | cases h
theorem noStar1 {x : Expr} (h : noStar [x] = true) : ∀ v p, x ≠ .Starred v p := (noStar_ne h).1
mutual
theorem bindT_len (S : Sto) : ∀ (t : Tg) (d : D) (ρ ρ' : Env), bindT S t d ρ = some ρ' → ρ'.length = ρ.length
  | .nm i, d, ρ, ρ', h => by
    simp only [bindT, setE, Option.some.injEq] at h
    subst h; simp
  | .tp ts, d, ρ, ρ', h => by
    cases d with
    | tup l => simp only [bindT] at h; exact bindTs_len' S ts l ρ ρ' h
    | ref n =>
      simp only [bindT] at h
      split at h
      · exact bindTs_len' S ts _ ρ ρ' h
      · cases h
    | fl l => simp only [bindT, seqD] at h; exact bindTs_len' S ts l ρ ρ' h
    | _ => simp [bindT, seqD] at h
theorem bindTs_len' (S : Sto) : ∀ (ts : List Tg) (l : List D) (ρ ρ' : Env), bindTs S ts l ρ = some ρ' → ρ'.length = ρ.length
  | [], [], ρ, ρ', h => by simp only [bindTs, Option.some.injEq] at h; subst h; rfl
  | [], _ :: _, _, _, h => by simp [bindTs] at h
  | _ :: _, [], _, _, h => by simp [bindTs] at h
  | t :: ts, d :: l, ρ, ρ', h => by
    simp only [bindTs] at h
    split at h
    · rename_i ρ1 e
      rw [bindTs_len' S ts l ρ1 ρ' h, bindT_len S t d ρ ρ1 e]
    · cases h
end
mutual
theorem sound_t (h : XO G CA c k X) : ∀ (t : Tg) (pe : Expr), okT k t pe = true → SG X pe (fun S d ρ => bindT S t d ρ) t.slots
  | .nm i, pe, e => by
    simp only [okT] at e
    split at e
    · simp only [Bool.and_eq_true, decide_eq_true_eq] at e
      obtain ⟨h1, h2⟩ := h.loc e.2
      exact sg_name h.nd (by rw [h.n]; exact e.1) h1 h2
    · cases e
  | .tp ts, pe, e => by
    simp only [okT] at e
    split at e
    · simp only [Bool.and_eq_true] at e
      obtain ⟨h1, h2⟩ := sound_ts h ts _ e.2
      exact sg_tup h.calm e.1 h1.symm h2
    · cases e
theorem sound_ts (h : XO G CA c k X) : ∀ (ts : List Tg) (pes : List Expr), okTs k ts pes = true → ts.length = pes.length ∧ SGs X pes (fun S ds ρ => bindTs S ts ds ρ) (slotsL ts)
  | [], pes, e => by
    simp only [okTs] at e
    split at e
    · exact ⟨rfl, sgs_nil⟩
    · cases e
  | t :: ts, pes, e => by
    simp only [okTs] at e
    split at e
    · rename_i x xs
      simp only [Bool.and_eq_true] at e
      obtain ⟨h1, h2⟩ := sound_ts h ts _ e.2
      refine ⟨congrArg Nat.succ h1, sgs_cons ?_ (sound_t h t _ e.1) h2⟩
      intro v p z
      subst z
      cases t <;> simp [okT] at e
    · cases e
end
end
end Eg

namespace Eg
open PySem PySem.Spec PyProof.Rows L2
def SB (CA : Nat → Addr) (X : Cx) (W : WX) (pe : Expr) (f : Env → Sto → R D) : Prop := SE CA X W pe f ∧ STe CA X W pe (fun ρ S => tru (f ρ S))
def dflT : Expr → Bool
  | .UnaryOp .Not _ _ => false
  | .BoolOp _ _ _ => false
  | .IfExp _ _ _ _ => false
  | .Compare _ _ _ _ => false
  | _ => true
theorem dflT_ok {a : Expr} {env : PySem.Env} (h : dflT a = true) : ∀ whole, isTrue a env whole = (do let v ← whole; standAt a.pos; holding [v] (truthy v)) := by
  intro whole
  cases a with
  | UnaryOp op x p => cases op <;> first | rfl | cases h
  | BoolOp op x p => cases h
  | IfExp a b d p => cases h
  | Compare a b d p => cases h
  | _ => rfl
section
variable {G : Glo} {CA : Nat → Addr} {c : Cl}
theorem sb_of {X : Cx} {W : WX} {a : Expr} {f : Env → Sto → R D} (h : dflT a = true) (ha : SE CA X W a f) : SB CA X W a f := ⟨ha, ste_of (dflT_ok h) ha⟩
theorem okTy_ok {k : Ck} {X : Cx} (h : XO G CA c k X) : ∀ {ts : List Ty} {zs : List Expr}, okTy k ts zs = true → ∃ ps, ts.length = ps.length ∧ zs = tyNames ts ps ∧ ∀ t ∈ ts, t.own = false ∧ Gl X (tName t) ∧ X.mg (tName t) = none
  | [], [], _ => ⟨[], rfl, rfl, fun t ht => by cases ht⟩
  | [], _ :: _, e => by simp [okTy] at e
  | t :: ts, [], e => by simp [okTy] at e
  | t :: ts, z :: zs, e => by
    unfold okTy at e
    split at e
    · rename_i h1 h2; cases h1
    · rename_i t' ts' x p xs h1 h2
      cases h1; cases h2
      simp only [Bool.and_eq_true, Bool.not_eq_true', decide_eq_true_eq] at e
      obtain ⟨⟨⟨e1, e2⟩, e3⟩, e4⟩ := e
      obtain ⟨ps, h1, h2, h3⟩ := okTy_ok h e4
      subst e2 h2
      refine ⟨p :: ps, congrArg Nat.succ h1, rfl, fun t' ht => ?_⟩
      rcases List.mem_cons.mp ht with rfl | ht
      · exact ⟨e1, h.gl e3, h.blt _ (tName_all e1)⟩
      · exact h3 t' ht
    · cases e
theorem evKs_len {sub : Nat → Nat → Bool} {k : Ck} : ∀ {es : Es} {kws : List Keyword}, okKs G k es kws = true → ∀ ρ S l S', evEs sub c es ρ S = .ok l S' → l.length = kws.length
  | .nil, kws, e, ρ, S, l, S', h => by
    simp only [okKs] at e
    split at e
    · simp only [evEs] at h; cases h; rfl
    · cases e
  | .cons a es, kws, e, ρ, S, l, S', h => by
    simp only [okKs] at e
    split at e
    · simp only [Bool.and_eq_true] at e
      simp only [evEs] at h
      obtain ⟨x, S1, h1, h2⟩ := R.bind_eq_ok h
      obtain ⟨l2, S2, h3, h4⟩ := R.bind_eq_ok h2
      cases h4
      exact congrArg Nat.succ (evKs_len e.2 _ _ _ _ h3)
    · cases e
  | .star _ _, kws, e, _, _, _, _, _ => by simp [okKs] at e
theorem kwNames_len : ∀ {kws : List Keyword} {ks : List (List Nat)}, kwNames kws ks = true → kws.length = ks.length
  | [], [], _ => rfl
  | [], _ :: _, h => by cases h
  | ⟨none, _, _⟩ :: _, _, h => by cases h
  | ⟨some _, _, _⟩ :: _, [], h => by cases h
  | ⟨some x, e, kp⟩ :: r, k :: ks, h => by
    simp only [kwNames, Bool.and_eq_true] at h
    exact congrArg Nat.succ (kwNames_len h.2)
theorem tk0 {X : Cx} : Takes X W0 := takes_none5
theorem ownP_map {k : Ck} (own : List Nat) : (ownP k own).map (·.2) = own := by
  induction own with
  | nil => rfl
  | cons i l ih => exact congrArg (i :: ·) ih
def I.plainI : I → Bool
  | .valv _ => false
  | _ => true
theorem ste_no {X : Cx} {W : WX} {pe : Expr} {f : Env → Sto → R Bool} (h : ∀ ρ S, f ρ S = .no) : STe CA X W pe f := ⟨fun _ _ _ => False, ⟨fun pins s σ H Q I h => h.elim⟩, fun ρ S σ H α Q he hs p => by rw [h] at p; exact p⟩
mutual
theorem sound_e : ∀ (e : E) {k : Ck} {X : Cx} {W : WX} (h : XO G CA c k X) (tk : Takes X W) (pe : Expr), okE G k e pe = true → SB CA X W pe (evE G.sub c e)
  | .lit d, k, X, W, h, tk, pe, e => by
    simp only [okE] at e
    split at e
    · rename_i cc kk pp
      unfold okL at e
      split at e
      · exact sb_of rfl se_non
      · simp only [beq_iff_eq] at e; subst e; exact sb_of rfl se_bl
      · simp only [decide_eq_true_eq] at e; subst e; exact sb_of rfl se_int
      · simp only [decide_eq_true_eq] at e; subst e; exact sb_of rfl se_str
      · cases e
    · cases e
  | .var i, k, X, W, h, tk, pe, e => by
    simp only [okE] at e
    split at e
    · simp only [Bool.and_eq_true, decide_eq_true_eq] at e
      obtain ⟨⟨e1, e2⟩, e3⟩ := e
      obtain ⟨d1, d2⟩ := nm_of e3
      exact sb_of rfl (se_var (by rw [h.n]; exact e1) (h.vis e2) d1 d2)
    · cases e
  | .con x d, k, X, W, h, tk, pe, e => by
    simp only [okE] at e
    split at e
    · simp only [Bool.and_eq_true, decide_eq_true_eq] at e
      obtain ⟨⟨⟨e1, e2⟩, e3⟩, e4⟩ := e
      subst e1
      obtain ⟨u, v, c1, c2, c3⟩ := h.con _ e4
      exact sb_of rfl (se_con (h.gl e2) c1 c2 c3 (nm_of e3).1)
    · cases e
  | .bin o a b, k, X, W, h, tk, pe, e => by
    simp only [okE] at e
    split at e
    · simp only [Bool.and_eq_true, decide_eq_true_eq] at e
      obtain ⟨⟨e1, e2⟩, e3⟩ := e
      subst e1
      exact sb_of rfl (se_bin (sound_e a h tk _ e2).1 (sound_e b h tk _ e3).1)
    · cases e
  | .neg a, k, X, W, h, tk, pe, e => by
    simp only [okE] at e
    split at e
    · simp only [Bool.and_eq_true, decide_eq_true_eq] at e
      obtain ⟨e1, e2⟩ := e
      subst e1
      exact sb_of rfl (se_neg (sound_e a h tk _ e2).1)
    · cases e
  | .cmp o a b, k, X, W, h, tk, pe, e => by
    simp only [okE] at e
    split at e
    · simp only [Bool.and_eq_true, decide_eq_true_eq, Bool.not_eq_true'] at e
      obtain ⟨⟨⟨e1, e2⟩, e3⟩, e4⟩ := e
      subst e1
      exact se_cmp h.hu e2 (sound_e a h tk _ e3).1 (sound_e b h tk _ e4).1
    · cases e
  | .cmp2 o p a b d, k, X, W, h, tk, pe, e => by
    simp only [okE] at e
    split at e
    · simp only [Bool.and_eq_true, decide_eq_true_eq, Bool.not_eq_true'] at e
      obtain ⟨⟨⟨⟨⟨e1, e1'⟩, e2⟩, e3⟩, e4⟩, e5⟩ := e
      subst e1 e1'
      exact se_cmp2 h.hu e2 (sound_e a h tk _ e3).1 (sound_e b h tk _ e4).1 (sound_e d h tk _ e5).1
    · cases e
  | .and a b, k, X, W, h, tk, pe, e => by
    simp only [okE] at e
    split at e
    · simp only [Bool.and_eq_true, decide_eq_true_eq] at e
      obtain ⟨⟨e1, e2⟩, e3⟩ := e
      subst e1
      obtain ⟨a1, a2⟩ := sound_e a h tk _ e2
      obtain ⟨b1, b2⟩ := sound_e b h tk _ e3
      exact ⟨se_and a1 b1.one, (ste_and a2 (SWe.one b2)).st⟩
    · simp only [Bool.and_eq_true, decide_eq_true_eq] at e
      obtain ⟨⟨e1, e2⟩, e3⟩ := e
      subst e1
      obtain ⟨a1, a2⟩ := sound_e a h tk _ e2
      obtain ⟨b1, b2⟩ := sound_e b h tk _ e3
      exact ⟨se_and a1 b1, (ste_and a2 (SWe.of b2)).st⟩
    · cases e
  | .or a b, k, X, W, h, tk, pe, e => by
    simp only [okE] at e
    split at e
    · simp only [Bool.and_eq_true, decide_eq_true_eq] at e
      obtain ⟨⟨e1, e2⟩, e3⟩ := e
      subst e1
      obtain ⟨a1, a2⟩ := sound_e a h tk _ e2
      obtain ⟨b1, b2⟩ := sound_e b h tk _ e3
      exact ⟨se_or a1 b1.one, (ste_or a2 (SWe.one b2)).st⟩
    · simp only [Bool.and_eq_true, decide_eq_true_eq] at e
      obtain ⟨⟨e1, e2⟩, e3⟩ := e
      subst e1
      obtain ⟨a1, a2⟩ := sound_e a h tk _ e2
      obtain ⟨b1, b2⟩ := sound_e b h tk _ e3
      exact ⟨se_or a1 b1, (ste_or a2 (SWe.of b2)).st⟩
    · cases e
  | .not a, k, X, W, h, tk, pe, e => by
    simp only [okE] at e
    split at e
    · simp only [Bool.and_eq_true, decide_eq_true_eq] at e
      obtain ⟨e1, e2⟩ := e
      subst e1
      obtain ⟨a1, a2⟩ := sound_e a h tk _ e2
      exact ⟨se_not a1, ste_not a2⟩
    · cases e
  | .ite t a b, k, X, W, h, tk, pe, e => by
    simp only [okE] at e
    split at e
    · simp only [Bool.and_eq_true] at e
      obtain ⟨⟨e1, e2⟩, e3⟩ := e
      obtain ⟨t1, t2⟩ := sound_e t h tk _ e1
      obtain ⟨a1, a2⟩ := sound_e a h tk _ e2
      obtain ⟨b1, b2⟩ := sound_e b h tk _ e3
      exact ⟨se_ite t2 a1 b1, ste_ite t2 a2 b2⟩
    · cases e
  | .tup es, k, X, W, h, tk, pe, e => by
    simp only [okE] at e
    split at e
    · exact sb_of rfl (se_tup (sound_es es h tk _ e))
    · cases e
  | .lst es, k, X, W, h, tk, pe, e => by
    simp only [okE] at e
    split at e
    · exact sb_of rfl (se_lst (sound_es es h tk _ e))
    · cases e
  | .lstF es, k, X, W, h, tk, pe, e => by
    simp only [okE] at e
    split at e
    · exact sb_of rfl (se_lstF (sound_es es h tk _ e))
    · cases e
  | .dctF, k, X, W, h, tk, pe, e => by
    simp only [okE] at e
    split at e
    · exact sb_of rfl se_dctF
    · cases e
  | .frz i, k, X, W, h, tk, pe, e => by
    simp only [okE] at e
    split at e
    · simp only [Bool.and_eq_true, decide_eq_true_eq] at e
      obtain ⟨⟨e1, e2⟩, e3⟩ := e
      obtain ⟨d1, d2⟩ := nm_of e3
      exact sb_of rfl (se_frz (by rw [h.n]; exact e1) (h.vis e2) d1 d2)
    · cases e
  | .bak a, k, X, W, h, tk, pe, e => by
    simp only [okE] at e
    split at e
    · simp only [Bool.and_eq_true, decide_eq_true_eq] at e
      obtain ⟨⟨e1, e2⟩, e3⟩ := e
      subst e1 e2
      exact sb_of rfl (se_bak (sound_e a h tk _ e3).1)
    · cases e
  | .me m a es, k, X, W, h, tk, pe, e => by
    simp only [okE] at e
    split at e
    · rename_i x nm ap ys pos
      simp only [Bool.and_eq_true, decide_eq_true_eq] at e
      obtain ⟨⟨⟨⟨⟨⟨⟨e1, e2⟩, e3⟩, e4⟩, e5⟩, e6⟩, e7⟩, e8⟩ := e
      subst e2
      cases ys with
      | nil =>
        cases es with
        | nil => exact sb_of rfl (se_me0 e1 e3 e4 (sound_e a h tk _ e7).1)
        | cons _ _ => simp [okEs] at e8
        | star _ _ => simp [okEs] at e8
      | cons y ys => exact sb_of rfl (se_me1 e1 e3 e4 e5 e6 (sound_e a h tk _ e7).1 (sound_es es h tk _ e8))
    · cases e
  | .compF q, k, X, W, h, tk, pe, e => by
    simp only [okE] at e
    have q1 := sound_c q h tk _ e
    refine sb_of ?_ (se_compF q1)
    cases q with
    | mk own el tg it ct =>
      cases pe <;> first | rfl | simp [okC] at e
    | dk own el tg it ct =>
      cases pe <;> first | rfl | simp [okC] at e
  | .dct0, k, X, W, h, tk, pe, e => by
    simp only [okE] at e
    split at e
    · exact sb_of rfl se_dct0
    · cases e
  | .idx a i, k, X, W, h, tk, pe, e => by
    simp only [okE] at e
    split at e
    · simp only [Bool.and_eq_true] at e
      obtain ⟨⟨e1, e2⟩, e3⟩ := e
      exact sb_of rfl (se_idx h.hu (plainIx_of e1) (sound_e a h tk _ e2).1 (sound_e i h tk _ e3).1)
    · cases e
  | .idxl es i, k, X, W, h, tk, pe, e => by
    simp only [okE] at e
    split at e
    · simp only [Bool.and_eq_true] at e
      obtain ⟨⟨e1, e2⟩, e3⟩ := e
      exact sb_of rfl (se_idxl (plainIx_of e1) (sound_es es h tk _ e2) (sound_e i h tk _ e3).1)
    · cases e
  | .slc a lo hi, k, X, W, h, tk, pe, e => by
    simp only [okE] at e
    split at e
    · simp only [Bool.and_eq_true] at e
      obtain ⟨⟨e1, e2⟩, e3⟩ := e
      exact sb_of rfl (se_slc (sound_e a h tk _ e1).1 (sound_o lo h tk _ e2) (sound_o hi h tk _ e3))
    · cases e
  | .call f es, k, X, W, h, tk, pe, e => by
    simp only [okE] at e
    split at e
    · split at e
      · rename_i d hd
        simp only [Bool.and_eq_true, decide_eq_true_eq] at e
        obtain ⟨⟨⟨⟨e1, e2⟩, e3⟩, e4⟩, e5⟩ := e
        subst e1
        exact sb_of rfl (se_call (h.call f d hd) tk (h.gl e2) (nm_of e3).1 e4 (sound_es es h tk _ e5))
      · cases e
    · cases e
  | .callk f perm ks es, k, X, W, h, tk, pe, e => by
    simp only [okE] at e
    split at e
    · split at e
      · rename_i d hd
        simp only [Bool.and_eq_true, decide_eq_true_eq] at e
        obtain ⟨⟨⟨⟨⟨e1, e2⟩, e3⟩, e4⟩, e5⟩, e6⟩ := e
        subst e1
        exact sb_of rfl (se_callk (h.call f d hd) tk (h.gl e2) (nm_of e3).1 e4 e5 (fun ρ S l S' z => by rw [← kwNames_len e5]; exact evKs_len e6 ρ S l S' z) (sound_ks es h tk _ e6))
      · cases e
    · cases e
  | .bi b es, k, X, W, h, tk, pe, e => by
    simp only [okE] at e
    split at e
    · simp only [Bool.and_eq_true, decide_eq_true_eq] at e
      obtain ⟨⟨⟨e1, e2⟩, e3⟩, e4⟩ := e
      subst e1
      exact sb_of rfl (se_bi h.calm h.hu (h.gl e2) (h.blt _ (bName_all b)) (sound_es es h tk _ e4) e3)
    · cases e
  | .isi a ts, k, X, W, h, tk, pe, e => by
    simp only [okE] at e
    split at e
    · simp only [Bool.and_eq_true, decide_eq_true_eq] at e
      obtain ⟨⟨⟨⟨⟨e1, e2⟩, e3⟩, e4⟩, e5⟩, e6⟩ := e
      subst e1
      obtain ⟨ps, p1, p2, p3⟩ := okTy_ok h e6
      match ts, ps, e5, p1, p2, p3 with
      | [t], [q], _, _, p2, p3 =>
        obtain ⟨o1, o2, o3⟩ := p3 t (by simp)
        simp only [tyNames, List.zip_cons_cons, List.zip_nil_right, List.map_cons, List.map_nil, List.cons.injEq, and_true] at p2
        cases p2
        exact sb_of rfl (se_isi1 o1 (h.gl e2) (h.blt _ isi_all) o2 o3 (noStar1 e3) (sound_e a h tk _ e4).1)
    · simp only [Bool.and_eq_true, decide_eq_true_eq] at e
      obtain ⟨⟨⟨⟨⟨e1, e2⟩, e3⟩, e4⟩, e5⟩, e6⟩ := e
      subst e1
      obtain ⟨ps, p1, p2, p3⟩ := okTy_ok h e6
      subst p2
      exact sb_of rfl (se_isiT p1 e5 p3 (h.gl e2) (h.blt _ isi_all) (noStar1 e3) (sound_e a h tk _ e4).1)
    · cases e
  | .comp q, k, X, W, h, tk, pe, e => by
    simp only [okE] at e
    have q1 := sound_c q h tk _ e
    refine sb_of ?_ (se_comp q1)
    cases q with
    | mk own el tg it ct =>
      cases pe <;> first | rfl | simp [okC] at e
    | dk own el tg it ct =>
      cases pe <;> first | rfl | simp [okC] at e
  | .bic b q, k, X, W, h, tk, pe, e => by
    simp only [okE] at e
    split at e
    · simp only [Bool.and_eq_true, decide_eq_true_eq] at e
      obtain ⟨⟨⟨e1, e2⟩, e3⟩, e4⟩ := e
      subst e1
      exact sb_of rfl (se_bic h.calm h.hu (h.gl e2) (h.blt _ (bName_all b)) e3 (sound_c q h tk _ e4))
    · cases e
  | .nilc neg q, k, X, W, h, tk, pe, e => by
    simp only [okE] at e
    split at e
    · simp only [Bool.and_eq_true, decide_eq_true_eq] at e
      obtain ⟨e1, e2⟩ := e
      subst e1
      exact se_nilc (by have := h.hu; omega) (sound_c q h tk _ e2)
    · cases e
  | .inl neg a es, k, X, W, h, tk, pe, e => by
    simp only [okE] at e
    split at e
    · simp only [Bool.and_eq_true, decide_eq_true_eq] at e
      obtain ⟨⟨e1, e2⟩, e3⟩ := e
      subst e1
      exact se_inl h.hu (sound_e a h tk _ e2).1 (sound_es es h tk _ e3)
    · cases e
  | .app a b, k, X, W, h, tk, pe, e => by
    simp only [okE] at e
    split at e
    · simp only [Bool.and_eq_true, decide_eq_true_eq] at e
      obtain ⟨⟨⟨⟨⟨e1, e2⟩, e3⟩, e4⟩, e5⟩, e6⟩ := e
      subst e1
      exact sb_of rfl (se_append e2 e3 (noStar1 e4) (sound_e a h tk _ e5).1 (sound_e b h tk _ e6).1)
    · cases e
  | .no, k, X, W, h, tk, pe, e => ⟨se_no fun _ _ => rfl, ste_no fun _ _ => rfl⟩
theorem sound_o : ∀ (o : Option E) {k : Ck} {X : Cx} {W : WX} (h : XO G CA c k X) (tk : Takes X W) (pe : Option Expr), okO G k o pe = true → OSe CA X W pe (evO G.sub c o)
  | none, k, X, W, h, tk, pe, e => by
    simp only [okO] at e
    split at e
    · exact os_none
    · cases e
  | some a, k, X, W, h, tk, pe, e => by
    simp only [okO] at e
    split at e
    · exact os_some (sound_e a h tk _ e).1
    · cases e
theorem sound_es : ∀ (es : Es) {k : Ck} {X : Cx} {W : WX} (h : XO G CA c k X) (tk : Takes X W) (xs : List Expr), okEs G k es xs = true → SA CA X W xs (evEs G.sub c es)
  | .nil, k, X, W, h, tk, xs, e => by
    simp only [okEs] at e
    split at e
    · exact sa_nil
    · cases e
  | .cons a es, k, X, W, h, tk, xs, e => by
    simp only [okEs] at e
    split at e
    · simp only [Bool.and_eq_true] at e
      obtain ⟨⟨e1, e2⟩, e3⟩ := e
      exact sa_cons (noStar1 e1) (sound_e a h tk _ e2).1 (sound_es es h tk _ e3)
    · cases e
  | .star a es, k, X, W, h, tk, xs, e => by
    simp only [okEs] at e
    split at e
    · simp only [Bool.and_eq_true] at e
      exact sa_star (sound_e a h tk _ e.1).1 (sound_es es h tk _ e.2)
    · cases e
theorem sound_ks : ∀ (es : Es) {k : Ck} {X : Cx} {W : WX} (h : XO G CA c k X) (tk : Takes X W) (xs : List Keyword), okKs G k es xs = true → SKe CA X W xs (evEs G.sub c es)
  | .nil, k, X, W, h, tk, xs, e => by
    simp only [okKs] at e
    split at e
    · exact sk_nil
    · cases e
  | .cons a es, k, X, W, h, tk, xs, e => by
    simp only [okKs] at e
    split at e
    · simp only [Bool.and_eq_true] at e
      exact sk_cons (sound_e a h tk _ e.1).1 (sound_ks es h tk _ e.2)
    · cases e
  | .star _ _, k, X, W, h, tk, xs, e => by simp [okKs] at e
theorem sound_c : ∀ (q : C) {k : Ck} {X : Cx} {W : WX} (h : XO G CA c k X) (tk : Takes X W) (pe : Expr), okC G k q pe = true → SCm CA X W pe (evC G.sub c q)
  | .mk own a tg (.valv i) ct, k, X, W, h, tk, pe, e => by
    simp only [okC] at e
    split at e
    · rename_i p0
      simp only [Bool.and_eq_true, decide_eq_true_eq, List.all_eq_true, okI] at e
      obtain ⟨⟨⟨⟨⟨⟨⟨e1, e2⟩, e3⟩, e4⟩, eZ, e5⟩, e6⟩, e7⟩, e8⟩ := e
      subst e1
      split at e5
      · rename_i x0 ip
        simp only [Bool.and_eq_true, decide_eq_true_eq] at e5
        obtain ⟨⟨f1, f2⟩, f3⟩ := e5
        obtain ⟨d1, d2⟩ := nm_of f3
        have z := sc_compv (CA := CA) (W := W) (pos := p0) (ip := ip) (own := ownP k own) (bd := fun S d ρ => bindT S tg d ρ) (sl := tg.slots) (ft := evT G.sub c ct) (fe := evE G.sub c a) (i := i) h.calm h.nd (by rw [h.n]; exact f1) (h.vis f2) d1 d2 (blkOk_by (by rw [h.n, h.sc]; exact e3)) (by rw [ownP_map]; exact e4) (fun S d ρ ρ' hb => bindT_len S tg d ρ ρ' hb)
          (fun s H C cl fp => sound_t (h.blk s H _ C cl fp) tg _ e6) (fun s H C cl fp => sound_f ct (h.blk s H _ C cl fp) tk0 _ e7) (fun s H C cl fp => (sound_e a (h.blk s H _ C cl fp) tk0 _ e8).1)
        rw [ownP_map] at z
        exact z
      · cases e5
    · cases e
  | .dk own a tg i ct, k, X, W, h, tk, pe, e => by
    simp only [okC] at e
    split at e
    · skip
      simp only [Bool.and_eq_true, decide_eq_true_eq, List.all_eq_true] at e
      obtain ⟨⟨⟨⟨⟨⟨e1, e3⟩, e4⟩, ⟨f1, f2⟩, f3⟩, e6⟩, e7⟩, e8⟩ := e
      subst e1
      obtain ⟨d1, d2⟩ := nm_of f3
      have z := fun (ip p0 : Pos) => sc_compd (CA := CA) (W := W) (pos := p0) (ip := ip) (own := ownP k own) (bd := fun S d ρ => bindT S tg d ρ) (sl := tg.slots) (ft := evT G.sub c ct) (fe := evE G.sub c a) (i := i) h.calm h.nd (by rw [h.n]; exact f1) (h.vis f2) d1 d2 (blkOk_by (by rw [h.n, h.sc]; exact e3)) (by rw [ownP_map]; exact e4) (fun S d ρ ρ' hb => bindT_len S tg d ρ ρ' hb)
        (fun s H C cl fp => sound_t (h.blk s H _ C cl fp) tg _ e6) (fun s H C cl fp => sound_f ct (h.blk s H _ C cl fp) tk0 _ e7) (fun s H C cl fp => (sound_e a (h.blk s H _ C cl fp) tk0 _ e8).1)
      simp only [ownP_map] at z
      exact z _ _
    · cases e
  | .mk own a tg (.val x) ct, k, X, W, h, tk, pe, e => by
    simp only [okC] at e
    split at e
    · simp only [Bool.and_eq_true, decide_eq_true_eq, List.all_eq_true] at e
      obtain ⟨⟨⟨⟨⟨⟨⟨e1, e2⟩, e3⟩, e4⟩, eZ, e5⟩, e6⟩, e7⟩, e8⟩ := e
      subst e1
      have z := sc_comp (CA := CA) (W := W) (pos := by assumption) (own := ownP k own) (bd := fun S d ρ => bindT S tg d ρ) (sl := tg.slots) (ft := evT G.sub c ct) (fe := evE G.sub c a) h.calm h.nd (sound_i (.val x) h tk _ _ rfl eZ e5) (blkOk_by (by rw [h.n, h.sc]; exact e3)) (by rw [ownP_map]; exact e4) (fun S d ρ ρ' hb => bindT_len S tg d ρ ρ' hb)
          (fun s H C cl fp => sound_t (h.blk s H _ C cl fp) tg _ e6) (fun s H C cl fp => sound_f ct (h.blk s H _ C cl fp) tk0 _ e7) (fun s H C cl fp => (sound_e a (h.blk s H _ C cl fp) tk0 _ e8).1) (folded_of e2)
      rw [ownP_map] at z
      exact z
    · cases e
  | .mk own a tg (.lst x) ct, k, X, W, h, tk, pe, e => by
    simp only [okC] at e
    split at e
    · simp only [Bool.and_eq_true, decide_eq_true_eq, List.all_eq_true] at e
      obtain ⟨⟨⟨⟨⟨⟨⟨e1, e2⟩, e3⟩, e4⟩, eZ, e5⟩, e6⟩, e7⟩, e8⟩ := e
      subst e1
      have z := sc_comp (CA := CA) (W := W) (pos := by assumption) (own := ownP k own) (bd := fun S d ρ => bindT S tg d ρ) (sl := tg.slots) (ft := evT G.sub c ct) (fe := evE G.sub c a) h.calm h.nd (sound_i (.lst x) h tk _ _ rfl eZ e5) (blkOk_by (by rw [h.n, h.sc]; exact e3)) (by rw [ownP_map]; exact e4) (fun S d ρ ρ' hb => bindT_len S tg d ρ ρ' hb)
          (fun s H C cl fp => sound_t (h.blk s H _ C cl fp) tg _ e6) (fun s H C cl fp => sound_f ct (h.blk s H _ C cl fp) tk0 _ e7) (fun s H C cl fp => (sound_e a (h.blk s H _ C cl fp) tk0 _ e8).1) (folded_of e2)
      rw [ownP_map] at z
      exact z
    · cases e
  | .mk own a tg (.rng1 x) ct, k, X, W, h, tk, pe, e => by
    simp only [okC] at e
    split at e
    · simp only [Bool.and_eq_true, decide_eq_true_eq, List.all_eq_true] at e
      obtain ⟨⟨⟨⟨⟨⟨⟨e1, e2⟩, e3⟩, e4⟩, eZ, e5⟩, e6⟩, e7⟩, e8⟩ := e
      subst e1
      have z := sc_comp (CA := CA) (W := W) (pos := by assumption) (own := ownP k own) (bd := fun S d ρ => bindT S tg d ρ) (sl := tg.slots) (ft := evT G.sub c ct) (fe := evE G.sub c a) h.calm h.nd (sound_i (.rng1 x) h tk _ _ rfl eZ e5) (blkOk_by (by rw [h.n, h.sc]; exact e3)) (by rw [ownP_map]; exact e4) (fun S d ρ ρ' hb => bindT_len S tg d ρ ρ' hb)
          (fun s H C cl fp => sound_t (h.blk s H _ C cl fp) tg _ e6) (fun s H C cl fp => sound_f ct (h.blk s H _ C cl fp) tk0 _ e7) (fun s H C cl fp => (sound_e a (h.blk s H _ C cl fp) tk0 _ e8).1) (folded_of e2)
      rw [ownP_map] at z
      exact z
    · cases e
  | .mk own a tg (.rng2 x y) ct, k, X, W, h, tk, pe, e => by
    simp only [okC] at e
    split at e
    · simp only [Bool.and_eq_true, decide_eq_true_eq, List.all_eq_true] at e
      obtain ⟨⟨⟨⟨⟨⟨⟨e1, e2⟩, e3⟩, e4⟩, eZ, e5⟩, e6⟩, e7⟩, e8⟩ := e
      subst e1
      have z := sc_comp (CA := CA) (W := W) (pos := by assumption) (own := ownP k own) (bd := fun S d ρ => bindT S tg d ρ) (sl := tg.slots) (ft := evT G.sub c ct) (fe := evE G.sub c a) h.calm h.nd (sound_i (.rng2 x y) h tk _ _ rfl eZ e5) (blkOk_by (by rw [h.n, h.sc]; exact e3)) (by rw [ownP_map]; exact e4) (fun S d ρ ρ' hb => bindT_len S tg d ρ ρ' hb)
          (fun s H C cl fp => sound_t (h.blk s H _ C cl fp) tg _ e6) (fun s H C cl fp => sound_f ct (h.blk s H _ C cl fp) tk0 _ e7) (fun s H C cl fp => (sound_e a (h.blk s H _ C cl fp) tk0 _ e8).1) (folded_of e2)
      rw [ownP_map] at z
      exact z
    · cases e
  | .mk own a tg (.rng3 x y z') ct, k, X, W, h, tk, pe, e => by
    simp only [okC] at e
    split at e
    · simp only [Bool.and_eq_true, decide_eq_true_eq, List.all_eq_true] at e
      obtain ⟨⟨⟨⟨⟨⟨⟨e1, e2⟩, e3⟩, e4⟩, eZ, e5⟩, e6⟩, e7⟩, e8⟩ := e
      subst e1
      have z := sc_comp (CA := CA) (W := W) (pos := by assumption) (own := ownP k own) (bd := fun S d ρ => bindT S tg d ρ) (sl := tg.slots) (ft := evT G.sub c ct) (fe := evE G.sub c a) h.calm h.nd (sound_i (.rng3 x y z') h tk _ _ rfl eZ e5) (blkOk_by (by rw [h.n, h.sc]; exact e3)) (by rw [ownP_map]; exact e4) (fun S d ρ ρ' hb => bindT_len S tg d ρ ρ' hb)
          (fun s H C cl fp => sound_t (h.blk s H _ C cl fp) tg _ e6) (fun s H C cl fp => sound_f ct (h.blk s H _ C cl fp) tk0 _ e7) (fun s H C cl fp => (sound_e a (h.blk s H _ C cl fp) tk0 _ e8).1) (folded_of e2)
      rw [ownP_map] at z
      exact z
    · cases e
  | .mk own a tg (.zip x y) ct, k, X, W, h, tk, pe, e => by
    simp only [okC] at e
    split at e
    · simp only [Bool.and_eq_true, decide_eq_true_eq, List.all_eq_true] at e
      obtain ⟨⟨⟨⟨⟨⟨⟨e1, e2⟩, e3⟩, e4⟩, eZ, e5⟩, e6⟩, e7⟩, e8⟩ := e
      subst e1
      have z := sc_comp (CA := CA) (W := W) (pos := by assumption) (own := ownP k own) (bd := fun S d ρ => bindT S tg d ρ) (sl := tg.slots) (ft := evT G.sub c ct) (fe := evE G.sub c a) h.calm h.nd (sound_i (.zip x y) h tk _ _ rfl eZ e5) (blkOk_by (by rw [h.n, h.sc]; exact e3)) (by rw [ownP_map]; exact e4) (fun S d ρ ρ' hb => bindT_len S tg d ρ ρ' hb)
          (fun s H C cl fp => sound_t (h.blk s H _ C cl fp) tg _ e6) (fun s H C cl fp => sound_f ct (h.blk s H _ C cl fp) tk0 _ e7) (fun s H C cl fp => (sound_e a (h.blk s H _ C cl fp) tk0 _ e8).1) (folded_of e2)
      rw [ownP_map] at z
      exact z
    · cases e
  | .mk own a tg (.enum _) ct, k, X, W, h, tk, pe, e => by
    simp only [okC] at e
    split at e
    · simp [okI] at e
    · cases e
theorem sound_f : ∀ (o : Option E) {k : Ck} {X : Cx} (h : XO G CA c k X) (tk : Takes X W0) (xs : List Expr), okF G k o xs = true → STo CA X xs (evT G.sub c o)
  | none, k, X, h, tk, xs, e => by
    simp only [okF] at e
    split at e
    · exact sto_nil
    · cases e
  | some a, k, X, h, tk, xs, e => by
    simp only [okF] at e
    split at e
    · exact sto_one (sound_e a h tk _ e).2
    · cases e
theorem sound_i : ∀ (i : I) {k : Ck} {X : Cx} {W : WX} (h : XO G CA c k X) (tk : Takes X W) (tg pe : Expr), i.plainI = true → zipT i tg = true → okI G k i pe = true → SI CA X W tg pe (evI G.sub c i)
  | .val a, k, X, W, h, tk, tg, pe, hi, eZ, e => by
    simp only [okI] at e
    exact si_val (sound_e a h tk _ e).1
  | .valv i, k, X, W, h, tk, tg, pe, hi, eZ, e => by cases hi
  | .lst es, k, X, W, h, tk, tg, pe, hi, eZ, e => by
    simp only [okI] at e
    split at e
    · exact si_lst (sound_es es h tk _ e)
    · cases e
  | .rng1 a, k, X, W, h, tk, tg, pe, hi, eZ, e => by
    simp only [okI] at e
    split at e
    · simp only [Bool.and_eq_true, decide_eq_true_eq] at e
      obtain ⟨⟨⟨e1, e2⟩, e3⟩, e4⟩ := e
      subst e1
      exact si_rng1 (h.gl e2) (h.blt _ rng_all) (noStar1 e3) (sound_e a h tk _ e4).1
    · cases e
  | .rng2 a b, k, X, W, h, tk, tg, pe, hi, eZ, e => by
    simp only [okI] at e
    split at e
    · simp only [Bool.and_eq_true, decide_eq_true_eq] at e
      obtain ⟨⟨⟨⟨⟨e1, e2⟩, e3⟩, e4⟩, e5⟩, e6⟩ := e
      subst e1
      exact si_rng2 (h.gl e2) (h.blt _ rng_all) (noStar1 e3) (noStar1 e4) (sound_e a h tk _ e5).1 (sound_e b h tk _ e6).1
    · cases e
  | .rng3 a b d, k, X, W, h, tk, tg, pe, hi, eZ, e => by
    simp only [okI] at e
    split at e
    · simp only [Bool.and_eq_true, decide_eq_true_eq] at e
      obtain ⟨⟨⟨⟨⟨⟨⟨e1, e2⟩, e3⟩, e4⟩, e5⟩, e6⟩, e7⟩, e8⟩ := e
      subst e1
      exact si_rng3 (h.gl e2) (h.blt _ rng_all) (noStar1 e3) (noStar1 e4) (noStar1 e5) (sound_e a h tk _ e6).1 (sound_e b h tk _ e7).1 (sound_e d h tk _ e8).1
    · cases e
  | .zip a b, k, X, W, h, tk, tg, pe, hi, eZ, e => by
    simp only [okI] at e
    split at e
    · simp only [Bool.and_eq_true, decide_eq_true_eq] at e
      obtain ⟨⟨⟨⟨⟨e1, e2⟩, e3⟩, e4⟩, e5⟩, e6⟩ := e
      subst e1
      cases tg with
      | Tuple elts kk tpos => exact si_zip (h.gl e2) (h.blt _ zip_all) (noStar1 e3) (noStar1 e4) (sound_e a h tk _ e5).1 (sound_e b h tk _ e6).1
      | _ => cases eZ
    · cases e
  | .enum _, k, X, W, h, tk, tg, pe, hi, eZ, e => by simp [okI] at e
end
end
end Eg

namespace Eg
open PySem PySem.Spec PyProof.Rows L2
/-- what is wanted behind a statement's result -/
def PostS (K : PySem.W.Frag) (CA : Nat → Addr) (α : List (Addr × Bool)) (H : Hp) (r : RS) (J : Ends) (W : WX) : Prop :=
  match r with
  | .nx ρ S => ∀ α' H' σ, Ext α H α' H' → StR K α' H' S → EnvR K α' H' ρ σ → J.nx σ H'
  | .bk ρ S => ∀ α' H' σ, Ext α H α' H' → StR K α' H' S → EnvR K α' H' ρ σ → J.bk σ H'
  | .ct ρ S => ∀ α' H' σ, Ext α H α' H' → StR K α' H' S → EnvR K α' H' ρ σ → J.ct σ H'
  | .rt d S => ∀ α' H' v, Ext α H α' H' → StR K α' H' S → Rp K α' H' d v → J.rt v H'
  | .ex x ρ S => ∀ α' H' σ cls d, Ext α H α' H' → StR K α' H' S → EnvR K α' H' ρ σ → ExR K CA α' H' x cls d → W cls d σ H'
  | .no => False
def wS (K : PySem.W.Frag) (CA : Nat → Addr) (W : WX) (f : Env → Sto → RS) : TS := fun J σ H => ∃ (ρ : Env) (S : Sto) (α : List (Addr × Bool)), EnvR K α H ρ σ ∧ StR K α H S ∧ PostS K CA α H (f ρ S) J W
def SS (CA : Nat → Addr) (X : Cx) (W : WX) (st : Stmt) (f : Env → Sto → RS) : Prop := PS X st (wS X.K CA W f)
def SSs (CA : Nat → Addr) (X : Cx) (W : WX) (st : List Stmt) (f : Env → Sto → RS) : Prop := PSs X st (wS X.K CA W f)
section
variable {K : PySem.W.Frag} {CA : Nat → Addr} {α : List (Addr × Bool)} {H : Hp} {J : Ends} {W : WX}
theorem PostS.ext {r : RS} {α1 : List (Addr × Bool)} {H1 : Hp} (e : Ext α H α1 H1) (h : PostS K CA α H r J W) : PostS K CA α1 H1 r J W := by
  cases r with
  | nx ρ S => exact fun α' H' σ e' s r => h α' H' σ (e.trans e') s r
  | bk ρ S => exact fun α' H' σ e' s r => h α' H' σ (e.trans e') s r
  | ct ρ S => exact fun α' H' σ e' s r => h α' H' σ (e.trans e') s r
  | rt ρ S => exact fun α' H' σ e' s r => h α' H' σ (e.trans e') s r
  | ex x ρ S => exact fun α' H' σ c d e' s r => h α' H' σ c d (e.trans e') s r
  | no => exact h
theorem PostS.st {β γ : Type} {rel : List (Addr × Bool) → Hp → β → γ → Prop} {r : R β} {ρ : Env} {f : β → Sto → RS} {σ : SL} (he : EnvR K α H ρ σ) (h : PostS K CA α H (r.st ρ f) J W) :
    Post K CA rel α H r (fun v H1 => ∃ α1 S1 d, Ext α H α1 H1 ∧ StR K α1 H1 S1 ∧ rel α1 H1 d v ∧ PostS K CA α1 H1 (f d S1) J W) (wAt W σ) := by
  cases r with
  | ok d S => exact fun α' H' v e s r => ⟨α', S, d, e, s, r, PostS.ext e h⟩
  | ex x S => exact fun α' H' cls d e s r => h α' H' σ cls d e s (he.ext e) r
  | no => exact h
theorem PostS.nx {ρ : Env} {S : Sto} {σ : SL} (h : PostS K CA α H (.nx ρ S) J W) (s : StR K α H S) (r : EnvR K α H ρ σ) : J.nx σ H := h α H σ (Ext.refl _ _) s r
theorem PostS.rt {d : D} {S : Sto} {v : V} (h : PostS K CA α H (.rt d S) J W) (s : StR K α H S) (r : Rp K α H d v) : J.rt v H := h α H v (Ext.refl _ _) s r
end
section
variable {X : Cx} {CA : Nat → Addr} {W : WX} {pos : Pos} {a b : Expr} {fa fb : Env → Sto → R D} {es : List Expr} {fs : Env → Sto → R (List D)} {st : Stmt} {sts : List Stmt} {f g : Env → Sto → RS}
theorem ss_w {t : TS} (h : PS X st t) (q : ∀ (ρ : Env) (S : Sto) (σ : SL) (H : Hp) (α : List (Addr × Bool)) (J : Ends), EnvR X.K α H ρ σ → StR X.K α H S → PostS X.K CA α H (f ρ S) J W → t J σ H) : SS CA X W st f :=
  ⟨fun pins s σ H J I ⟨ρ, S, α, he, hs, hp⟩ => h.run pins s σ H J I (q ρ S σ H α J he hs hp)⟩
theorem sss_w {t : TS} (h : PSs X sts t) (q : ∀ (ρ : Env) (S : Sto) (σ : SL) (H : Hp) (α : List (Addr × Bool)) (J : Ends), EnvR X.K α H ρ σ → StR X.K α H S → PostS X.K CA α H (f ρ S) J W → t J σ H) : SSs CA X W sts f :=
  ⟨fun pins s σ H J I ⟨ρ, S, α, he, hs, hp⟩ => h.run pins s σ H J I (q ρ S σ H α J he hs hp)⟩
theorem sss_nil : SSs CA X W [] (fun ρ S => .nx ρ S) := sss_w pss_nil fun ρ S σ H α J he hs p => p.nx hs he
theorem sss_cons (h1 : SS CA X W st f) (h2 : SSs CA X W sts g) : SSs CA X W (st :: sts) (fun ρ S => (f ρ S).then g) := by
  refine sss_w (pss_cons h1 h2) fun ρ S σ H α J he hs p => ?_
  refine ⟨ρ, S, α, he, hs, ?_⟩
  try dsimp only at p
  revert p
  generalize f ρ S = r
  intro p
  cases r with
  | nx ρ' S' => exact fun α' H' σ' e s en => ⟨ρ', S', α', en, s, PostS.ext e p⟩
  | _ => exact p
theorem ss_never (h : ∀ ρ S, f ρ S = .no) : SS CA X W st f := ss_w ps_never fun ρ S σ H α J he hs p => by rw [h] at p; exact p
theorem sss_doc {x : PySem.Str} {j : Nat} {p p' : Pos} (h : SSs CA X W sts f) : SSs CA X W (.Expr (.Constant (.str x) j p) p' :: sts) f := sss_w (pss_cons ps_doc h) fun ρ S σ H α J he hs p => ⟨ρ, S, α, he, hs, p⟩
theorem ss_pass : SS CA X W (.Pass pos) (fun ρ S => .nx ρ S) := ss_w ps_pass fun ρ S σ H α J he hs p => p.nx hs he
theorem ss_brk : SS CA X W (.Break pos) (fun ρ S => .bk ρ S) := ss_w ps_break fun ρ S σ H α J he hs p => p α H σ (Ext.refl _ _) hs he
theorem ss_cont : SS CA X W (.Continue pos) (fun ρ S => .ct ρ S) := ss_w ps_continue fun ρ S σ H α J he hs p => p α H σ (Ext.refl _ _) hs he
theorem ss_retN : SS CA X W (.Return none pos) (fun _ S => .rt .non S) := ss_w ps_retN fun ρ S σ H α J he hs p => p.rt hs .non
theorem ss_ret (ha : SE CA X W a fa) : SS CA X W (.Return (some a) pos) (fun ρ S => (fa ρ S).st ρ fun d S1 => .rt d S1) := by
  obtain ⟨t, pt, ht⟩ := ha
  exact ss_w (ps_ret pt) fun ρ S σ H α J he hs p => ht ρ S σ H α _ he hs ((PostS.st he p).imp fun v H1 ⟨α1, S1, d, e, s, r, p1⟩ => p1.rt s r)
theorem ss_expr (hw : swapsWith a none pos.line X.env = pure false) (ha : SE CA X W a fa) : SS CA X W (.Expr a pos) (fun ρ S => (fa ρ S).st ρ fun d S1 => .nx ρ S1) := by
  obtain ⟨t, pt, ht⟩ := ha
  exact ss_w (ps_expr pt hw) fun ρ S σ H α J he hs p => ht ρ S σ H α _ he hs ((PostS.st he p).imp fun v H1 ⟨α1, S1, d, e, s, r, p1⟩ => p1.nx s (he.ext e))
theorem ss_set {i : Nat} {x : PySem.Str} {p' : Pos} (hN : X.N.Nodup) (hi : X.N[i]? = some x) (hx : Loc X.env.scope x) (hf : X.fn x = true ∨ X.env.scope.names.lookup x = some .local) (hw : swapsWith a (some (.Name x p')) pos.line X.env = pure false) (ha : SE CA X W a fa) :
    SS CA X W (.Assign [.Name x p'] a pos) (fun ρ S => (fa ρ S).st ρ fun d S1 => .nx (setE ρ i d) S1) := by
  obtain ⟨t, pt, ht⟩ := ha
  exact ss_w (ps_set hN hi hx pt hw hf) fun ρ S σ H α J he hs p => ht ρ S σ H α _ he hs ((PostS.st he p).imp fun v H1 ⟨α1, S1, d, e, s, r, p1⟩ => p1.nx s ((he.ext e).set i r))
/-- a fresh list, given to a local on its own line -/
theorem ss_setC {i : Nat} {x : PySem.Str} {p' : Pos} {fc : Env → Sto → R (List D)} (hi : X.N[i]? = some x) (hl : X.env.scope.names.lookup x = some .local) (hw : swapsWith a (some (.Name x p')) pos.line X.env = pure true) (ha : SCm CA X W a fc) :
    SS CA X W (.Assign [.Name x p'] a pos) (fun ρ S => ((fc ρ S).bind fun l S1 => .ok (D.ref S1.length) (S1 ++ [.lst l])).st ρ fun d S1 => .nx (setE ρ i d) S1) := by
  obtain ⟨t, _, pt, ht⟩ := ha
  refine ss_w (pt i x p' pos hi hl hw) fun ρ S σ H α J he hs p => ht ρ S σ H α _ he hs ?_
  try dsimp only at p
  revert p
  generalize fc ρ S = r
  intro p
  cases r with
  | ok l S' =>
    intro α' H' q vs e s hq hq' nq rl
    refine p (α' ++ [(q, true)]) H' _ (e.adopt hq) (s.adopt nq ⟨rfl, vs, hq', rl.more⟩) ((he.ext (e.adopt hq)).set i (.ref (m := true) ?_))
    rw [← s.len]; simp
  | ex x S' => exact fun α' H' cls d e s r => p α' H' σ cls d e s (he.ext e) r
  | no => exact p
theorem ps_frzN {t : TS} (h : PS X st t) : PS X st (fun J σ H => t ⟨fun σ' H' => ∃ d u, H' d = some u ∧ Mut (some u) ∧ ∀ od, J.nx σ' (upd H' d (.frz od u)), J.rt, J.bk, J.ct⟩ σ H) := by
  refine ⟨fun pins s σ H J I q => thn (h.run pins s σ H _ I q) fun f s1 z => ?_⟩
  cases f with
  | next =>
    obtain ⟨σ', H', I2, d, u, hd, mu, q⟩ := z
    obtain ⟨od, I3⟩ := I2.lock hd mu
    exact ⟨σ', _, I3, q od⟩
  | brk => exact z
  | cont => exact z
  | ret v => exact z
/-- .. locked at once -/
theorem ss_setCF {i : Nat} {x : PySem.Str} {p' : Pos} {fc : Env → Sto → R (List D)} (hi : X.N[i]? = some x) (hl : X.env.scope.names.lookup x = some .local) (hw : swapsWith a (some (.Name x p')) pos.line X.env = pure true) (ha : SCm CA X W a fc) :
    SS CA X W (.Assign [.Name x p'] a pos) (fun ρ S => ((fc ρ S).bind fun l S1 => .ok (D.fl l) S1).st ρ fun d S1 => .nx (setE ρ i d) S1) := by
  obtain ⟨t, _, pt, ht⟩ := ha
  refine ss_w (ps_frzN (pt i x p' pos hi hl hw)) fun ρ S σ H α J he hs p => ht ρ S σ H α _ he hs ?_
  try dsimp only at p
  revert p
  generalize fc ρ S = r
  intro p
  cases r with
  | ok l S' =>
    intro α' H' q vs e s hq hq' nq rl
    refine ⟨q, _, hq', trivial, fun od => ?_⟩
    obtain ⟨e2, s2, r2⟩ := frz_aside e s hq hq' nq rl od
    exact p α' _ _ e2 s2 ((he.ext e2).set i r2)
  | ex x S' => exact fun α' H' cls d e s r => p α' H' σ cls d e s (he.ext e) r
  | no => exact p
theorem ss_asg {tg : Expr} {bd : Sto → D → Env → Option Env} {sl : List Nat} (hw : swapsWithSole [tg] a pos.line X.env = pure false) (hw2 : swappedStores [tg] a X.env = pure none) (h1 : (assignEach [tg] X.env).map (·.2) = [assign tg X.env]) (ha : SE CA X W a fa) (hg : SG X tg bd sl) :
    SS CA X W (.Assign [tg] a pos) (fun ρ S => (fa ρ S).st ρ fun d S1 => match bd S1 d ρ with | some ρ' => .nx ρ' S1 | none => .no) := by
  obtain ⟨t, pt, ht⟩ := ha
  refine ss_w (ps_asg pt hg.pg hw hw2 h1) fun ρ S σ H α J he hs p => ht ρ S σ H α _ he hs ((PostS.st he p).imp fun v H1 ⟨α1, S1, d, e, s, r, p1⟩ => ?_)
  cases h : bd S1 d ρ with
  | none => rw [h] at p1; exact p1.elim
  | some ρ' =>
    rw [h] at p1
    exact ⟨ρ, ρ', S1, α1, d, he.ext e, s, r, h, fun σ' he' _ => p1.nx s he'⟩
theorem pset_or {t t' : TSet} (h : PSet X t) (h' : PSet X t') : PSet X (fun o i v H Q => t o i v H Q ∨ t' o i v H Q) := by
  intro pins s σ H o i v ov iv u Q I ro ri rv q
  rcases q with q | q
  · exact h pins s σ H o i v ov iv u Q I ro ri rv q
  · exact h' pins s σ H o i v ov iv u Q I ro ri rv q
def setF (v x k : D) (ρ : Env) (S3 : Sto) : RS := match x, k with
    | .ref n, .int k => match S3[n]? with
      | some (.lst l) => match ixN l.length k with
        | some j => .nx ρ (S3.set n (.lst (l.set j v)))
        | none => .no
      | _ => .no
    | .ref n, k => match S3[n]? with
      | some (.dct kv) => if keyOk k && decide (kv.length < line) then .nx ρ (S3.set n (.dct (dctPut kv k v))) else .no
      | _ => .no
    | _, _ => .no
theorem ss_setI {i : Expr} {fi : Env → Sto → R D} {p' : Pos} (hu : X.A.units + 65 < cLine) (hi' : notSl i = true) (hw : swapsWithSole [.Subscript b i p'] a pos.line X.env = pure false) (ha : SE CA X W a fa) (hb : SE CA X W b fb) (hi : SE CA X W i fi) :
    SS CA X W (.Assign [.Subscript b i p'] a pos) (fun ρ S => (fa ρ S).st ρ fun v S1 => (fb ρ S1).st ρ fun x S2 => (fi ρ S2).st ρ fun k S3 => setF v x k ρ S3) := by
  obtain ⟨ta, pa, ha⟩ := ha
  obtain ⟨tb, pb, hb⟩ := hb
  obtain ⟨ti, pi, hi⟩ := hi
  refine ss_w (ps_asg pa (pg_sub pb pi (pset_or set_list (set_dn hu)) (by intro v; cases i <;> first | rfl | cases hi')) hw (by rfl) (by rfl)) fun ρ S σ H α J he hs p => ?_
  refine ha ρ S σ H α _ he hs ((PostS.st he p).imp fun v H1 ⟨α1, S1, d, e1, s1, r1, p1⟩ => ?_)
  refine hb ρ S1 σ H1 α1 _ (he.ext e1) s1 ((PostS.st (he.ext e1) p1).imp fun x H2 ⟨α2, S2, dx, e2, s2, r2, p2⟩ => ?_)
  have he2 := he.ext (e1.trans e2)
  refine hi ρ S2 σ H2 α2 _ he2 s2 ((PostS.st he2 p2).imp fun k H3 ⟨α3, S3, dk, e3, s3, r3, p3⟩ => ?_)
  have r2' := r2.ext e3
  have rv : Rp X.K α3 H3 d v := r1.ext (e2.trans e3)
  unfold setF at p3
  split at p3
  · cases r2' with
    | @ref _ ad m had =>
      cases r3
      split at p3
      · rename_i l hl
        split at p3
        · rename_i j hj
          obtain ⟨rfl, vs, h1, rl⟩ := s3.at_ _ ad m _ had hl
          refine .inl ⟨ad, vs, _, j, rfl, rfl, h1, by rw [← rl.length]; exact hj, ?_⟩
          have mu : Mut (H3 ad) := by rw [h1]; trivial
          have ew := Ext.write (ho := .lst (vs.set j v)) had mu
          exact p3 _ _ _ ew (s3.write had mu ⟨rfl, _, upd_same, (RpL.set rv j rl).ext ew⟩) (he2.ext (e3.trans ew))
        · exact p3.elim
      · exact p3.elim
  · cases r2' with
    | @ref _ ad m had =>
      split at p3
      · rename_i kv hS
        split at p3
        · rename_i hk
          simp only [Bool.and_eq_true, decide_eq_true_eq] at hk
          obtain ⟨rfl, xs, h1, pr⟩ := s3.at_ _ ad m _ had hS
          obtain ⟨q, rfl⟩ := keyOk_ref hk.1 r3
          have mu : Mut (H3 ad) := by rw [h1]; exact True.intro
          refine .inr ⟨ad, q, α3, kv, xs, _, d, rfl, rfl, h1, pr, hk.1, r3, rv, by rw [← Paired.length pr, ← line_eq]; exact hk.2, fun ys py => ?_⟩
          have ew := Ext.write (ho := DN ad ys) had mu
          exact p3 _ _ _ ew (s3.write had mu ⟨rfl, ys, upd_same, Paired.imp2 (fun a b z => z.imp fun d v r => r.ext ew) py⟩) (he2.ext (e3.trans ew))
        · exact p3.elim
      · exact p3.elim
  · exact p3.elim
theorem ss_aug {i : Nat} {x : PySem.Str} {p' : Pos} {o : BOp} (ho : o = .add ∨ o = .sub) (hN : X.N.Nodup) (hi : X.N[i]? = some x) (hx : Loc X.env.scope x) (hf : X.fn x = true ∨ X.env.scope.names.lookup x = some .local) (ha : SE CA X W a fa) :
    SS CA X W (.AugAssign (.Name x p') (opOf o) a pos) (fun ρ S => match ρ[i]? with
    | some (some x) => (fa ρ S).st ρ fun y S1 => match (generalizing := false) o, x, y with
      | .add, .int a, .int b => .nx (setE ρ i (.int (a + b))) S1
      | .sub, .int a, .int b => .nx (setE ρ i (.int (a - b))) S1
      | _, _, _ => .no
    | _ => .no) := by
  obtain ⟨ta, pa, ha⟩ := ha
  have go : ∀ (fo : Int → Int → Int), PIp X (opOf o) (ipI fo) → (∀ (x y : D) (ρ : Env) (S1 : Sto) (α : List (Addr × Bool)) (H : Hp) (J : Ends), PostS X.K CA α H (match (generalizing := false) o, x, y with
      | .add, .int a, .int b => .nx (setE ρ i (.int (a + b))) S1
      | .sub, .int a, .int b => .nx (setE ρ i (.int (a - b))) S1
      | _, _, _ => .no) J W → ∃ a b, x = .int a ∧ y = .int b ∧ PostS X.K CA α H (.nx (setE ρ i (.int (fo a b))) S1) J W) → SS CA X W (.AugAssign (.Name x p') (opOf o) a pos) (fun ρ S => match ρ[i]? with
    | some (some x) => (fa ρ S).st ρ fun y S1 => match (generalizing := false) o, x, y with
      | .add, .int a, .int b => .nx (setE ρ i (.int (a + b))) S1
      | .sub, .int a, .int b => .nx (setE ρ i (.int (a - b))) S1
      | _, _, _ => .no
    | _ => .no) := by
    intro fo hop hint
    refine ss_w (ps_aug hN hi hx pa hop hf) fun ρ S σ H α J he hs p => ?_
    try dsimp only at p
    split at p
    · rename_i d hd
      obtain ⟨v, hv, rv⟩ := he.get i d hd
      refine ⟨v, hv, ha ρ S σ H α _ he hs ((PostS.st he p).imp fun y H1 ⟨α1, S1, dy, e1, s1, r1, p1⟩ => ?_)⟩
      obtain ⟨a, b, rfl, rfl, p2⟩ := hint _ _ _ _ _ _ _ p1
      cases rv
      cases r1
      exact ⟨_, _, rfl, rfl, p2.nx s1 ((he.ext e1).set i (.int _))⟩
    · exact p.elim
  rcases ho with rfl | rfl
  · refine go _ ip_add fun x y ρ S1 α H J p => ?_
    split at p
    · exact ⟨_, _, rfl, rfl, p⟩
    · contradiction
    · exact p.elim
  · refine go _ ip_sub fun x y ρ S1 α H J p => ?_
    split at p
    · contradiction
    · exact ⟨_, _, rfl, rfl, p⟩
    · exact p.elim
theorem ss_if {ft : Env → Sto → R D} (hc : STe CA X W a (fun ρ S => tru (ft ρ S))) {p q : List Stmt} (h1 : SSs CA X W p f) (h2 : SSs CA X W q g) : SS CA X W (.If a p q pos) (fun ρ S => (tru (ft ρ S)).st ρ fun k S1 => if k then f ρ S1 else g ρ S1) := by
  obtain ⟨t, pt, ht⟩ := hc
  refine ss_w (ps_if pt h1 h2) fun ρ S σ H α J he hs p => ht ρ S σ H α _ he hs ((PostS.st he p).imp fun v H1 ⟨α1, S1, k, e, s, r, p1⟩ => ?_)
  subst r
  cases k with
  | true => exact ⟨ρ, S1, α1, he.ext e, s, p1⟩
  | false => exact ⟨ρ, S1, α1, he.ext e, s, p1⟩
theorem ss_while {ft : Env → Sto → R D} (hp : PassesOwn (model X.prog X.w) X.A X.env X.xe) (hc : STe CA X W a (fun ρ S => tru (ft ρ S))) {p : List Stmt} (h1 : SSs CA X W p f) : SS CA X W (.While a p [] pos) (fun ρ S => whileN (fun ρ S => tru (ft ρ S)) f wfuel ρ S) := by
  obtain ⟨t, pt, ht⟩ := hc
  refine ss_w (ps_while hp pt h1) fun ρ S σ H α J he hs p => ?_
  refine ⟨fun m σ H => ∃ (ρ : Env) (S : Sto) (α : List (Addr × Bool)), EnvR X.K α H ρ σ ∧ StR X.K α H S ∧ PostS X.K CA α H (whileN (fun ρ S => tru (ft ρ S)) f m ρ S) J W, ⟨wfuel, ρ, S, α, he, hs, p⟩, ?_⟩
  rintro m σ H ⟨ρ, S, α, he, hs, p⟩
  cases m with
  | zero => exact p.elim
  | succ m =>
    refine ht ρ S σ H α _ he hs ((PostS.st he (show PostS X.K CA α H ((tru (ft ρ S)).st ρ _) J W from p)).imp fun v H1 ⟨α1, S1, k, e, s, r, p1⟩ => ?_)
    subst r
    cases k with
    | false => exact p1.nx s (he.ext e)
    | true =>
      refine ⟨_, fun σ' H' z => ⟨m, Nat.lt_succ_self _, z⟩, ρ, S1, α1, he.ext e, s, ?_⟩
      rw [if_pos rfl] at p1
      revert p1
      generalize f ρ S1 = r
      intro p1
      cases r with
      | nx ρ2 S2 => exact fun α' H' σ' e s en => ⟨ρ2, S2, α', en, s, PostS.ext e p1⟩
      | ct ρ2 S2 => exact fun α' H' σ' e s en => ⟨ρ2, S2, α', en, s, PostS.ext e p1⟩
      | bk ρ2 S2 => exact p1
      | rt d S2 => exact p1
      | ex x ρ2 S2 => exact p1
      | no => exact p1
theorem ss_for {tg iter : Expr} {bd : Sto → D → Env → Option Env} {sl : List Nat} {fi : Env → Sto → R Src} {p : List Stmt} (hp : PassesOwn (model X.prog X.w) X.A X.env X.xe) (hc : X.calm = true) (hi : SI CA X W tg iter fi) (hg : SG X tg bd sl) (h1 : SSs CA X W p f) (hs : ∀ x, foldedSetIterable iter X.env x = pure x) :
    SS CA X W (.For tg iter p [] pos) (fun ρ S => (fi ρ S).st ρ fun p S1 => forL (fun x ρ S => bd S x ρ) f p.2 p.1 ρ S1) := by
  obtain ⟨hgk, w, pw, hw⟩ := hi
  refine ss_w (ps_for hp hc pw hg.pg h1 hs) fun ρ S σ H α J he hst q => ?_
  refine hw ρ S σ H α _ he hst ?_
  try dsimp only at q
  cases h : fi ρ S with
  | no => rw [h] at q; exact q
  | ex x S1 => rw [h] at q; exact fun α' H' cls d e s r => q α' H' σ cls d e s (he.ext e) r
  | ok src S1 =>
    rw [h] at q
    simp only [R.st_ok] at q
    intro α1 H1 Z e1 s1 hI
    have g1 := hgk _ _ _ _ h
    refine ⟨fun i m σ H => m = src.1.length - i ∧ i ≤ src.1.length ∧ ∃ (ρ : Env) (S : Sto) (α : List (Addr × Bool)), Ext α1 H1 α H ∧ EnvR X.K α H ρ σ ∧ StR X.K α H S ∧ gOk src.2 S = true ∧ PostS X.K CA α H (forL (fun x ρ S => bd S x ρ) f src.2 (src.1.drop i) ρ S) J W,
      ⟨src.1.length, by simp, Nat.zero_le _, ρ, S1, α1, Ext.refl _ _, he.ext e1, s1, g1, PostS.ext e1 q⟩, ?_⟩
    rintro i m σ2 H2 ⟨rfl, hi, ρ2, S2, α2, e2, en2, s2, g2, p2⟩
    obtain ⟨hgo, hstop⟩ := hI α2 H2 S2 e2 s2 g2 i
    by_cases hlt : i < src.1.length
    · obtain ⟨go, yl⟩ := hgo _ (List.getElem?_eq_getElem hlt)
      refine .inr ⟨go, fun σ' H' => i + 1 ≤ src.1.length ∧ ∃ (ρ : Env) (S : Sto) (α : List (Addr × Bool)), Ext α1 H1 α H' ∧ EnvR X.K α H' ρ σ' ∧ StR X.K α H' S ∧ gOk src.2 S = true ∧ PostS X.K CA α H' (forL (fun x ρ S => bd S x ρ) f src.2 (src.1.drop (i + 1)) ρ S) J W,
        fun σ' H' z => ⟨src.1.length - (i + 1), by omega, rfl, z⟩, fun x H3 y => ?_⟩
      obtain ⟨e3, s3, r3⟩ := yl x H3 y
      rw [List.drop_eq_getElem_cons hlt] at p2
      simp only [forL] at p2
      cases hb : bd S2 src.1[i] ρ2 with
      | none => rw [hb] at p2; exact p2.elim
      | some ρ3 =>
        rw [hb] at p2
        try dsimp only at p2
        refine ⟨ρ2, ρ3, S2, α2, _, en2.ext e3, s3, r3, hb, fun σ4 en4 _ => ⟨ρ3, S2, α2, en4, s3, ?_⟩⟩
        have p3 := PostS.ext e3 p2
        clear p2
        revert p3
        generalize f ρ3 S2 = r
        intro p3
        cases r with
        | nx ρ5 S5 =>
          try dsimp only at p3
          split at p3
          · rename_i g5
            exact fun α' H' σ' e s en => ⟨hlt, ρ5, S5, α', (e2.trans e3).trans e, en, s, g5, PostS.ext e p3⟩
          · exact p3.elim
        | ct ρ5 S5 =>
          try dsimp only at p3
          split at p3
          · rename_i g5
            exact fun α' H' σ' e s en => ⟨hlt, ρ5, S5, α', (e2.trans e3).trans e, en, s, g5, PostS.ext e p3⟩
          · exact p3.elim
        | bk ρ5 S5 => exact p3
        | rt d S5 => exact p3
        | ex x ρ5 S5 => exact p3
        | no => exact p3
    · have e : i = src.1.length := by omega
      subst e
      rw [List.drop_length] at p2
      exact .inl ⟨hstop (Nat.le_refl _), p2.nx s2 en2⟩
end
end Eg

namespace Eg
open PySem PySem.Spec PyProof.Rows L2
def starB : Expr → Bool
  | .Starred _ _ => true
  | _ => false
theorem noStar_any : ∀ {es : List Expr}, noStar es = true → (es.any fun | .Starred .. => true | _ => false) = false
  | [], _ => rfl
  | a :: es, h => by
    obtain ⟨h1, h2⟩ := noStar_ne h
    have ih := noStar_any h2
    rw [List.any_cons, ih]
    cases a <;> first | rfl | exact absurd rfl (h1 _ _)
section
variable {env : PySem.Env} {x y z : PySem.Str} {px py pz pt pt2 : Pos} {a b c : Expr} {kt k2 : Nat}
theorem kindOf_local (h : env.scope.names.lookup x = some .local) : (env.kindOf x == some .local) = true := by
  have : env.kindOf x = some .local := h
  rw [this]; rfl
theorem swapped2 (hk : env.blockKind = .function) (hx : env.scope.names.lookup x = some .local) (hy : env.scope.names.lookup y = some .local) (hl : (py.line == px.line) = true) (hs : noStar [a, b] = true) (hd : ([x, y].eraseDups.length != 2) = false) (h1 : [a, b].all (foldedForSure 8) = false) (h2 : [a, b].all (constantsAlone 8) = false) :
    swappedStores [.Tuple [.Name x px, .Name y py] kt pt] (.Tuple [a, b] k2 pt2) env = pure (some [x, y]) := by
  unfold swappedStores
  have e1 := noStar_any hs
  simp only [hk, e1, h1, h2, kindOf_local hx, kindOf_local hy, hl, List.filterMap_cons, List.filterMap_nil, List.head?_cons, Option.map_some, Option.getD_some, Expr.pos, beq_self_eq_true, Bool.and_true, if_true, List.length_cons, List.length_nil, hd]
  simp [hd]
  simp only [List.any_cons, List.any_nil, Bool.or_false, Bool.or_eq_false_iff] at e1
  intro q
  rcases q with q | q
  · exact absurd (e1.1.symm.trans q) (by decide)
  · exact absurd (e1.2.symm.trans q) (by decide)
theorem swapped3 (hk : env.blockKind = .function) (hx : env.scope.names.lookup x = some .local) (hy : env.scope.names.lookup y = some .local) (hz : env.scope.names.lookup z = some .local) (hl : (py.line == px.line) = true) (hl2 : (pz.line == px.line) = true) (hs : noStar [a, b, c] = true) (hd : ([x, y, z].eraseDups.length != 3) = false) (h1 : [a, b, c].all (foldedForSure 8) = false) (h2 : [a, b, c].all (constantsAlone 8) = false) :
    swappedStores [.Tuple [.Name x px, .Name y py, .Name z pz] kt pt] (.Tuple [a, b, c] k2 pt2) env = pure (some [x, y, z]) := by
  unfold swappedStores
  have e1 := noStar_any hs
  simp only [hk, e1, h1, h2, kindOf_local hx, kindOf_local hy, kindOf_local hz, hl, hl2, List.filterMap_cons, List.filterMap_nil, List.head?_cons, Option.map_some, Option.getD_some, Expr.pos, beq_self_eq_true, Bool.and_true, if_true, List.length_cons, List.length_nil, hd]
  simp [hd]
  simp only [List.any_cons, List.any_nil, Bool.or_false, Bool.or_eq_false_iff] at e1
  intro q
  rcases q with q | q | q
  · exact absurd (e1.1.symm.trans q) (by decide)
  · exact absurd (e1.2.1.symm.trans q) (by decide)
  · exact absurd (e1.2.2.symm.trans q) (by decide)
def locName (sc : Scope) : Expr → Bool
  | .Name x _ => decide (sc.names.lookup x = some .local)
  | _ => false
/-- stores in their own order -/
def noSwap (sc : Scope) (ts : List Expr) : Expr → Bool
  | .Tuple vs _ _ => !(ts.length == 2 || ts.length == 3) || vs.length != ts.length || vs.all (foldedForSure 8) || !(ts.all (locName sc))
  | _ => true
theorem names_len {l : Nat} : ∀ {ts : List Expr}, (ts.all (locName env.scope)) = false → (ts.filterMap fun
    | .Name id pos => if env.kindOf id == some .local && pos.line == l then some id else none
    | _ => none).length < ts.length
  | [], h => by cases h
  | t :: ts, h => by
    rw [List.all_cons] at h
    have le : ∀ us : List Expr, (us.filterMap fun
      | .Name id pos => if env.kindOf id == some .local && pos.line == l then some id else none
      | _ => none).length ≤ us.length := fun us => List.length_filterMap_le _ _
    cases hb : locName env.scope t with
    | true =>
      rw [hb, Bool.true_and] at h
      have ih := names_len (l := l) h
      rw [List.filterMap_cons]
      split
      · exact Nat.lt_succ_of_lt ih
      · exact Nat.succ_lt_succ ih
    | false =>
      rw [List.filterMap_cons]
      split
      · exact Nat.lt_succ_of_le (le ts)
      · rename_i q hq
        exfalso
        split at hq
        · split at hq
          · rename_i hc
            simp only [Bool.and_eq_true, beq_iff_eq] at hc
            simp only [locName, decide_eq_false_iff_not] at hb
            exact hb hc.1
          · cases hq
        · cases hq
theorem noSwap_ok {ts : List Expr} {v : Expr} (h : noSwap env.scope ts v = true) : swappedStores [.Tuple ts kt pt] v env = pure none := by
  unfold swappedStores
  cases v with
  | Tuple vs k p =>
    simp only [noSwap, Bool.or_eq_true] at h
    dsimp only
    split
    · rfl
    · rename_i h1
      split
      · rfl
      · rename_i h2
        split
        · rfl
        · rename_i h3
          split
          · rfl
          · rename_i h4
            exfalso
            simp only [Bool.or_eq_true, not_or] at h1 h3
            rcases h with ((h | h) | h) | h
            · exact h1.1.1 h
            · exact h1.1.2 h
            · exact h4 h
            · have := names_len (l := (Option.map (fun x => x.pos.line) ts.head?).getD 0) (by simpa using h)
              refine h3.1 ?_
              simp only [bne_iff_ne, ne_eq]
              exact Nat.ne_of_lt this
  | _ => rfl
end
section
variable {X : Cx} {CA : Nat → Addr} {W : WX} {pos : Pos} {a b c : Expr} {fs : Env → Sto → R (List D)}
theorem sole_tup {ts : List Expr} {kt k2 : Nat} {pt pt2 : Pos} {vs : List Expr} {l : Nat} {env : PySem.Env} : swapsWithSole [.Tuple ts kt pt] (.Tuple vs k2 pt2) l env = pure false := rfl
theorem ss_par2 {i j : Nat} {x y : PySem.Str} {px py pt pt2 : Pos} {kt k2 : Nat} (hc : X.calm = true) (hN : X.N.Nodup) (hi : X.N[i]? = some x) (hj : X.N[j]? = some y) (hij : i ≠ j) (hx : X.env.scope.names.lookup x = some .local) (hy : X.env.scope.names.lookup y = some .local)
    (hw : swappedStores [.Tuple [.Name x px, .Name y py] kt pt] (.Tuple [a, b] k2 pt2) X.env = pure (some [x, y])) (ha : SA CA X W [a, b] fs) :
    SS CA X W (.Assign [.Tuple [.Name x px, .Name y py] kt pt] (.Tuple [a, b] k2 pt2) pos) (fun ρ S => (fs ρ S).st ρ fun l S1 => if l.length = [i, j].length then .nx (setAll ρ [i, j] l) S1 else .no) := by
  obtain ⟨t, pa, ht⟩ := ha
  refine ss_w (ps_par hc hN hi hj hij hx hy pa hw sole_tup) fun ρ S σ H α J he hs p => ht ρ S σ H α _ he hs ((PostS.st he p).imp fun vs H1 ⟨α1, S1, l, e, s, r, p1⟩ => ?_)
  split at p1
  · rename_i hl
    match l, vs, hl, r, p1 with
    | [d1, d2], _, _, .cons r1 (.cons r2 .nil), p1 => exact ⟨_, _, rfl, p1.nx s (((he.ext e).set i r1).set j r2)⟩
  · exact p1.elim
theorem ss_par3 {i j m : Nat} {x y z : PySem.Str} {px py pz pt pt2 : Pos} {kt k2 : Nat} (hc : X.calm = true) (hN : X.N.Nodup) (hi : X.N[i]? = some x) (hj : X.N[j]? = some y) (hm : X.N[m]? = some z) (hij : i ≠ j) (him : i ≠ m) (hjm : j ≠ m) (hx : X.env.scope.names.lookup x = some .local) (hy : X.env.scope.names.lookup y = some .local) (hz : X.env.scope.names.lookup z = some .local)
    (hw : swappedStores [.Tuple [.Name x px, .Name y py, .Name z pz] kt pt] (.Tuple [a, b, c] k2 pt2) X.env = pure (some [x, y, z])) (ha : SA CA X W [a, b, c] fs) :
    SS CA X W (.Assign [.Tuple [.Name x px, .Name y py, .Name z pz] kt pt] (.Tuple [a, b, c] k2 pt2) pos) (fun ρ S => (fs ρ S).st ρ fun l S1 => if l.length = [i, j, m].length then .nx (setAll ρ [i, j, m] l) S1 else .no) := by
  obtain ⟨t, pa, ht⟩ := ha
  refine ss_w (ps_par3 hc hN hi hj hm hij him hjm hx hy hz pa hw sole_tup) fun ρ S σ H α J he hs p => ht ρ S σ H α _ he hs ((PostS.st he p).imp fun vs H1 ⟨α1, S1, l, e, s, r, p1⟩ => ?_)
  split at p1
  · rename_i hl
    match l, vs, hl, r, p1 with
    | [d1, d2, d3], _, _, .cons r1 (.cons r2 (.cons r3 .nil)), p1 => exact ⟨_, _, _, rfl, p1.nx s ((((he.ext e).set i r1).set j r2).set m r3)⟩
  · exact p1.elim
/-- what keeps a list of a comprehension from its use -/
def notLc : Expr → Bool
  | .ListComp _ _ _ _ => false
  | .SetComp _ _ _ _ => false
  | .DictComp _ _ _ _ _ => false
  | _ => true
theorem notLc_ok {a : Expr} {t : Option Expr} {l : Nat} {env : PySem.Env} (h : notLc a = true) : swapsWith a t l env = pure false := by
  cases a <;> first | rfl | cases h
theorem sole_ok {a t : Expr} {l : Nat} {env : PySem.Env} (h : notLc a = true) : swapsWithSole [t] a l env = pure false := notLc_ok h
theorem cell_ok {a : Expr} {x : PySem.Str} {p : Pos} {l : Nat} {env : PySem.Env} (h : env.scope.names.lookup x = some .cell) : swapsWith a (some (.Name x p)) l env = pure false := by
  have k : env.kindOf x = some .cell := h
  unfold swapsWith
  have hb : (NameKind.cell == NameKind.local) = false := rfl
  cases a <;> simp [k, hb]
end
end Eg

namespace Eg
open PySem PySem.Spec PyProof.Rows L2
/-! ### an exception is made -/
def exStart (H : Hp) (a C : Addr) : Hp := upd H a (exo a C none)
/-- the heap behind an own __init__ of at most one field -/
def spInit (K : PySem.W.Frag) (fs : List (List Nat)) : Sp := fun vs H Q E =>
  ∃ (a C : Addr) (ys : List V), vs = .ref a :: ys ∧ ys.length = fs.length ∧ OexC K C ∧ (∀ f ∈ fs, PySem.W.findIn K (.ref C) (cs f) = some none) ∧ H a = some (exo a C none) ∧
    match fs, ys with
    | [], [] => Q .non H
    | [f], [y] => ∀ dx, H dx = none → dx ≠ a → Q .non (upd (upd H dx (exd dx [(cs f, y)])) a (exo a C (some dx)))
    | _, _ => False
section
variable {X : Cx} {pins : List (Addr × Obj)} {σ : SL}
theorem del_start {H : Hp} {a C : Addr} (hn : H a = none) : del (exStart H a C) a = H := by
  funext b
  by_cases e : b = a
  · subst e; rw [del_same, hn]
  · rw [del_ne e]; exact upd_ne e
/-- no field: the exception goes out of the abstract heap -/
theorem end_bare {H1 H2 : Hp} {k1 k2 k3 : Heap} {ga gb : Array GenState} {da db : Drawn} {ta tb : Nat} {oa ob : OsState} {a C : Addr} (I1 : Inv X pins σ H1 ⟨k1, ga, da, ta, oa⟩) (ha : k1.objs.size ≤ a)
    (k : ∀ b o, k1.get? b = some o → k2.get? b = some o) (un : Un (frs X.stack) [] (exStart H1 a C) H2 k2 k3) (hok : HOk X.prog X.w H2 k3) (ho : ob = oa) (hb : AllBare gb) (ea : H2 a = some (exo a C none)) :
    ∃ (t0 : Addr) (G : Heap), Inv X pins σ (del H2 a) ⟨G, gb, db, tb, ob⟩ ∧ (∀ b o, G.get? b = some o → k3.get? b = some o) ∧ G.get? a = none ∧ k3.get? a = some ({ cls := .ref C, dict := none, data := .fields #[.ref t0, .none, .none, .none, .bool false, .none] } : Obj) := by
  obtain ⟨t0, hoe⟩ := exo_at hok ea
  have hn : H1 a = none := I1.hok.fresh ha
  obtain ⟨G, gin, gout⟩ := L2.restrict k3 fun b => !decide (b = a)
  have gk : ∀ b, b ≠ a → G.get? b = k3.get? b := fun b q => gin b (by simp [q])
  have ge : G.get? a = none := gout a (by simp)
  have old : ∀ {b : Addr} {o : Obj}, k1.get? b = some o → b ≠ a := fun {b o} z => Nat.ne_of_lt (Nat.lt_of_lt_of_le (Heap.lt_size z) ha)
  have hs : ∀ {b : Addr}, b ≠ a → exStart H1 a C b = H1 b := fun {b} q => upd_ne q
  have nn : ∀ {b : Addr} {o : HO}, H1 b = some o → b ≠ a := fun {b o} z q => by subst q; rw [hn] at z; cases z
  have U : Un (frs X.stack) [] H1 (del H2 a) k1 G :=
    ⟨fun b o z n hf hx => (gk b (old z)).trans (un.keep b o (k b o z) ((hs (old z)).trans n) hf hx),
     fun b o z n hf hx => by rw [gk b (old z)]; exact un.slot b o (k b o z) ((hs (old z)).trans n) hf hx,
     fun b o z n hx => (del_ne (old z)).trans (un.free b o (k b o z) ((hs (old z)).trans n) hx),
     fun b o z hx => by rw [gk b (old z)]; exact un.there b o (k b o z) hx,
     fun b xs z => (del_ne (nn z)).trans (un.tups b xs ((hs (nn z)).trans z)),
     fun b o v z => (del_ne (nn z)).trans (un.frzs b o v ((hs (nn z)).trans z)),
     fun b ps z => by rw [del_ne (nn z)]; exact un.tbls b ps ((hs (nn z)).trans z)⟩
  have hok3 : HOk X.prog X.w (del H2 a) G := fun b o z => by
    have hba : b ≠ a := fun e => by rw [e, del_same] at z; cases z
    rw [del_ne hba] at z
    have away : ∀ {c : Addr}, H2 c = some (.own b) → c ≠ a := fun {c} hc => at_ne ea hc exo_own
    refine (hok b o z).stay (fun c v hc y => (gk c ?_).trans y) (fun c hc => (del_ne (away hc)).trans hc) fun c xs hc => (del_ne (at_ne ea hc exo_tup)).trans hc
    rcases hc with hc | hc
    · rw [hc]; exact hba
    · exact away hc
  refine ⟨t0, G, I1.call' (ch := []) ho U hok3 hb (fun b z => absurd z (by simp)), fun b o z => ?_, ge, hoe⟩
  by_cases q : b = a
  · rw [q, ge] at z; cases z
  · exact (gk b q).symm.trans z
/-- how an own exception class lies -/
structure ExC (X : Cx) (C : Addr) (fs : List (List Nat)) : Prop where
  oex : OexC X.K C
  one : fs.length ≤ 1
  fld : ∀ f ∈ fs, PySem.W.findIn X.K (.ref C) (cs f) = some none
  ini : ∃ (fI : Addr) (k : Nat) (fd : FuncData) (ps : List PySem.Str), PySem.W.findIn X.K (.ref C) "__init__" = some (some (.ref fI)) ∧ PySem.W.typeIn X.K (.ref fI) = some (.type "function") ∧
    FnOk X.prog X.w X.K X.mg X.base (CX X.prog X.w) k fI fd ps (spInit X.K fs) ∧ Room (k + 1) X.A ∧ Binds X.K fd ps []
/-- what is wished of the new exception -/
def exW (C : Addr) (fs : List (List Nat)) (vs : List V) (H : Hp) (Q : XK) : Prop :=
  match fs, vs with
  | [], [] => Q (.ref C) none H
  | [f], [y] => ∀ d, H d = none → Q (.ref C) (some d) (upd H d (.xd [(cs f, y)]))
  | _, _ => False
theorem two_len {fs : List (List Nat)} {vs : List V} {C : Addr} {H : Hp} {Q : XK} (h : exW C fs vs H Q) : vs.length = fs.length ∧ fs.length ≤ 1 := by
  match fs, vs, h with
  | [], [], _ => exact ⟨rfl, Nat.zero_le _⟩
  | [_], [_], _ => exact ⟨rfl, Nat.le_refl _⟩
theorem made_ok {H : Hp} {s : Shared} {C : Addr} {fs : List (List Nat)} {us : List Value} {vs : List V} {Q : XK} (E : ExC X C fs) (hx : Passes (CX X.prog X.w) X (fun _ _ _ => False)) (I1 : Inv X pins σ H s) (r1 : Vals vs us) (q : exW C fs vs H Q) :
    wpAny (model X.prog X.w) X.A (call (.ref C) us) (MkP X pins σ Q) X.xe s := by
  obtain ⟨fI, k, fd, ps, iC, tI, F1, hr, hb⟩ := E.ini
  obtain ⟨nm, qn, N, bs, bm, sn, sub, ab, col, dd, k0, k1, k2, k3, k5, hC, hbm⟩ := E.oex.cls
  obtain ⟨hp, g, dr, tk, os⟩ := s
  obtain ⟨hvl, hone⟩ := two_len q
  have hsz : hp.objs.size ≤ hp.objs.size + 1 := Nat.le_succ _
  have hn : H (hp.objs.size + 1) = none := I1.hok.fresh hsz
  have grown : ∀ b o, hp.get? b = some o → ((hp.push (PySem.W.kdv_tup us)).push (PySem.HandSPX.excO C hp.objs.size)).get? b = some o := fun b o e => Heap.get?_push_of_some _ (Heap.get?_push_of_some _ e)
  have there : ((hp.push (PySem.W.kdv_tup us)).push (PySem.HandSPX.excO C hp.objs.size)).get? (hp.objs.size + 1) = some (PySem.HandSPX.excO C hp.objs.size) := by heap_get
  have I2 : Inv X pins σ (exStart H (hp.objs.size + 1) C) ⟨(hp.push (PySem.W.kdv_tup us)).push (PySem.HandSPX.excO C hp.objs.size), g, dr, tk, os⟩ :=
    Inv.laid (a := hp.objs.size + 1) (o := exo (hp.objs.size + 1) C none) (t' := tk) (h' := (hp.push (PySem.W.kdv_tup us)).push (PySem.HandSPX.excO C hp.objs.size)) I1 grown hsz (exo_ok there)
  have r2 : Vals (V.ref (hp.objs.size + 1) :: vs) (Value.ref (hp.objs.size + 1) :: us) := .cons rfl r1
  -- the wish behind __init__
  have start : exStart H (hp.objs.size + 1) C (hp.objs.size + 1) = some (exo (hp.objs.size + 1) C none) := upd_same
  have hq : spInit X.K fs (V.ref (hp.objs.size + 1) :: vs) (exStart H (hp.objs.size + 1) C) (fun v H2 => v = .non ∧
      ((H2 (hp.objs.size + 1) = some (exo (hp.objs.size + 1) C none) ∧ Q (.ref C) none (del H2 (hp.objs.size + 1))) ∨
        ∃ (d : Addr) (l : List (PySem.Str × V)), H2 (hp.objs.size + 1) = some (exo (hp.objs.size + 1) C (some d)) ∧ H2 d = some (exd d l) ∧ H d = none ∧ Q (.ref C) (some d) (upd (del H2 (hp.objs.size + 1)) d (.xd l)))) (fun _ _ _ => False) := by
    refine ⟨_, C, vs, rfl, hvl, E.oex, E.fld, start, ?_⟩
    match fs, vs, q with
    | [], [], q => exact ⟨rfl, .inl ⟨start, by rw [del_start hn]; exact q⟩⟩
    | [f], [y], q =>
      intro dx hdx hne
      have hd : H dx = none := (upd_ne hne).symm.trans hdx
      refine ⟨rfl, .inr ⟨dx, _, upd_same, (upd_ne hne).trans upd_same, hd, ?_⟩⟩
      have e : upd (del (upd (upd (exStart H (hp.objs.size + 1) C) dx (exd dx [(cs f, y)])) (hp.objs.size + 1) (exo (hp.objs.size + 1) C (some dx))) (hp.objs.size + 1)) dx (.xd [(cs f, y)]) = upd H dx (.xd [(cs f, y)]) := by
        funext b
        by_cases h1 : b = dx
        · subst h1; rw [upd_same, upd_same]
        · rw [upd_ne h1, upd_ne h1]
          by_cases h2 : b = hp.objs.size + 1
          · rw [h2, del_same, hn]
          · rw [del_ne h2, upd_ne h2, upd_ne h1]; exact upd_ne h2
      rw [e]
      exact q dx hd
  have hl : (Value.ref (hp.objs.size + 1) :: us).length = ps.length := by rw [← r2.length]; exact F1.len _ _ _ _ hq
  have hus : us.length ≤ sizeLine := by
    have := r1.length
    rw [sizeLine_eq]
    omega
  have bd := hb _ (Value.ref (hp.objs.size + 1) :: us) I2.kIn (by rw [List.append_nil]; exact hl)
  rw [List.append_nil] at bd
  have body := F1.run _ X.stack _ _ ⟨Value.ref (hp.objs.size + 1) :: us, []⟩ (Value.ref (hp.objs.size + 1) :: us) _ _ (fun _ _ _ => False) (hr.make C us []) (I2.env0.make C us []) bd r2 hq
  refine wpAny_call (PySem.HandSPX.call_own F.excBase_ValueError (fun Y => PySem.HandSPX.refsVE_contains Y bm hbm) (I1.kIn _ _ hC) (PySem.W.looks_findIn I1.kIn iC) (fun self => PySem.W.bind_fn I1.kIn self tI) hus (codeAny_mono body fun r s' hq' => ?_))
  cases r with
  | error er => exact hx pins σ _ _ er s' I2 hq'
  | ok fl =>
    cases fl with
    | ret u =>
      obtain ⟨v, H2, os2, bare2, un2, hok2, rv, ev, fin⟩ := hq'
      subst ev
      obtain ⟨h2, g2, d2, t2, os'⟩ := s'
      rcases fin with ⟨ea, q2⟩ | ⟨d, l, ea, ed, hd1, q2⟩
      · obtain ⟨t0, G, J, kG, ge, hoe⟩ := end_bare (db := d2) (tb := t2) I1 hsz grown un2 hok2 os2 bare2 ea
        exact ⟨rv, hp.objs.size + 1, _, _, ⟨G, g2, d2, t2, os'⟩, _, .ref C, none, rfl, J, kG, ge, hoe, ⟨rfl, rfl⟩, rfl, rfl, del_same, rfl, bare2, raises_own E.oex.exC E.oex.tyC, q2⟩
      · exact ⟨rv, mk_end (raises_own E.oex.exC E.oex.tyC) I1 hsz grown un2 hok2 os2 bare2 ea ed hd1 q2⟩
    | _ => exact hq'.elim
variable {CA : Nat → Addr} {W : WX} {es : List Expr} {f : Env → Sto → R (List D)} {pos : Pos}
def tMade (C : Addr) (fs : List (List Nat)) (ta : TA) : SL → Hp → XK → Prop := fun σ H Q => ta σ H fun vs H1 => exW C fs vs H1 Q
theorem pmk_made {x : PySem.Str} {C : Addr} {fs : List (List Nat)} {p : Pos} {ta : TA} {e : Expr} (E : ExC X C fs) (tk : Takes X W) (hg : Gl X x) (hm : X.mg x = some (.ref C)) (hdb : (x == ("__debug__" : PySem.Str)) = false) (hx : noStar (e :: es) = true) (ha : PA X (e :: es) ta) : PMk X (.Call (.Name x p) (e :: es) [] pos) (tMade C fs ta) := by
  have hp : Passes (CX X.prog X.w) X (fun _ _ _ => False) := passes_call tk fun _ _ _ _ z => z.elim
  intro pins s σ H Q I h
  refine wpAny_Call_Name_kw (ld_glob I hg hm ?_ hdb)
  obtain ⟨h1, h2⟩ := noStar_ne hx
  refine PySem.W.callWith_K (h₀ := X.base) I.ok.mod.kin E.oex.kC (thn (ha.run pos pins s σ H _ I h) fun us s1 ⟨vs, H1, I1, r1, q1⟩ => ⟨I1.kIn, made_ok E hp I1 r1 q1⟩) (he_of h1) (hpl_of h2)
theorem pmk_made0 {x : PySem.Str} {C : Addr} {fs : List (List Nat)} {p : Pos} (E : ExC X C fs) (tk : Takes X W) (hg : Gl X x) (hm : X.mg x = some (.ref C)) (hdb : (x == ("__debug__" : PySem.Str)) = false) : PMk X (.Call (.Name x p) [] [] pos) (fun _ H Q => exW C fs [] H Q) := by
  have hp : Passes (CX X.prog X.w) X (fun _ _ _ => False) := passes_call tk fun _ _ _ _ z => z.elim
  intro pins s σ H Q I h
  exact wpAny_Call_Name_kw (ld_glob I hg hm (PySem.W.callWith_K0 I.kIn E.oex.kC (made_ok (us := []) (vs := []) E hp I .nil h)) hdb)
/-- the wish of a raised exception, told by the engine's result -/
theorem exW_of {fs : List (List Nat)} {c : Nat} {l : List D} {vs : List V} {ρ : Env} {S : Sto} {α : List (Addr × Bool)} {H : Hp} {J : Ends} (he : EnvR X.K α H ρ σ) (hs : StR X.K α H S) (hl : RpL X.K α H l vs) (h1 : fs.length ≤ 1) (h0 : CA c ≠ 0) (p : PostS X.K CA α H (if l.length = fs.length then .ex ⟨c, fs.zip l⟩ ρ S else .no) J W) :
    exW (CA c) fs vs H (fun cls d H' => W cls d σ H') := by
  split at p
  · rename_i hlen
    match fs, l, vs, h1, hlen, hl, p with
    | [], [], _, _, _, .nil, p => exact p α H σ _ _ (Ext.refl _ _) hs he ⟨rfl, h0, .inl ⟨rfl, rfl⟩⟩
    | [f], [d], _, _, _, .cons (v := v) r .nil, p =>
      intro dx hdx
      have e : Ext α H α (upd H dx (.xd [(cs f, v)])) := Ext.aside hdx
      exact p α _ σ _ _ e (hs.fresh hdx) (he.ext e) ⟨rfl, h0, .inr ⟨dx, _, rfl, upd_same, .cons ⟨rfl, r.ext e⟩ .nil⟩⟩
  · exact p.elim
theorem ss_raise {x : PySem.Str} {c : Nat} {fs : List (List Nat)} {p p2 : Pos} {e : Expr} (hc : X.calm = true) (h0 : CA c ≠ 0) (E : ExC X (CA c) fs) (tk : Takes X W) (hg : Gl X x) (hm : X.mg x = some (.ref (CA c))) (hdb : (x == ("__debug__" : PySem.Str)) = false) (hx : noStar (e :: es) = true) (ha : SA CA X W (e :: es) f) :
    SS CA X W (.Raise (some (.Call (.Name x p) (e :: es) [] pos)) none p2) (fun ρ S => (f ρ S).st ρ fun l S1 => if l.length = fs.length then .ex ⟨c, fs.zip l⟩ ρ S1 else .no) := by
  obtain ⟨t, pt, ht⟩ := ha
  exact ss_w (ps_raise hc tk (pmk_made E tk hg hm hdb hx pt)) fun ρ S σ H α J he hs p => ht ρ S σ H α _ he hs ((PostS.st he p).imp fun vs H1 ⟨α1, S1, l, e1, s1, r1, p1⟩ => exW_of (he.ext e1) s1 r1 E.one h0 p1)
theorem ss_raise0 {x : PySem.Str} {c : Nat} {fs : List (List Nat)} {p p2 : Pos} (hc : X.calm = true) (h0 : CA c ≠ 0) (E : ExC X (CA c) fs) (tk : Takes X W) (hg : Gl X x) (hm : X.mg x = some (.ref (CA c))) (hdb : (x == ("__debug__" : PySem.Str)) = false) :
    SS CA X W (.Raise (some (.Call (.Name x p) [] [] pos)) none p2) (fun ρ S => (R.ok ([] : List D) S).st ρ fun l S1 => if l.length = fs.length then .ex ⟨c, fs.zip l⟩ ρ S1 else .no) :=
  ss_w (ps_raise hc tk (pmk_made0 E tk hg hm hdb)) fun ρ S σ H α J he hs p => exW_of he hs .nil E.one h0 p
end
end Eg

namespace Eg
open PySem PySem.Spec PyProof.Rows L2
/-! ### try with clauses of both kinds -/
abbrev Cla := Value × Option Nat × (Addr → Value → Option Addr → TS)
/-- behind a named clause its slot is empty -/
def offE (i : Nat) (J : Ends) : Ends := ⟨fun τ G => J.nx (τ.set i none) G, J.rt, fun τ G => J.bk (τ.set i none) G, fun τ G => J.ct (τ.set i none) G⟩
def wMix (K : PySem.W.Frag) (n : Nat) (Wo : WX) (J : Ends) : List Cla → WX
  | [] => Wo
  | (c, nm, ts) :: l => fun cls d σ H => ∃ b, PySem.W.exmOne K cls c = some b ∧
      (b = true → ∀ a, H a = none → σ.length = n → match nm with
        | none => ts a cls d J σ H
        | some i => ts a cls d (offE i J) (σ.set i (some (.ref a))) H) ∧ (b = false → wMix K n Wo J l cls d σ H)
abbrev SuiteOk (X : Cx) (b : List Stmt) (ts : Addr → Value → Option Addr → TS) : Prop :=
  ∀ (a : Addr) (oe : Obj) (cls : Value) (d : Option Addr) (pn : List (Addr × Obj)), Zc cls d oe → (∃ vs, oe.data = .fields vs) → PSs (X.suite a ((a, oe) :: pn)) b (ts a cls d)
inductive MixOk (X : Cx) : List ExceptHandler → List Cla → Prop
  | nil : MixOk X [] []
  | bare {x : PySem.Str} {c : Value} {ts : Addr → Value → Option Addr → TS} {b0 : Stmt} {b : List Stmt} {p p' : Pos} {hs : List ExceptHandler} {l : List Cla} (hc : Names X x c) (hb : SuiteOk X (b0 :: b) ts) (r : MixOk X hs l) :
      MixOk X (.ExceptHandler (some (.Name x p)) none (b0 :: b) p' :: hs) ((c, none, ts) :: l)
  | named {x n : PySem.Str} {i : Nat} {c : Value} {ts : Addr → Value → Option Addr → TS} {b0 : Stmt} {b : List Stmt} {p p' : Pos} {hs : List ExceptHandler} {l : List Cla} (hc : Names X x c) (hi : X.N[i]? = some n) (hl : X.env.kindOf n = some .local) (hb : SuiteOk X (b0 :: b) ts) (r : MixOk X hs l) :
      MixOk X (.ExceptHandler (some (.Name x p)) (some n) (b0 :: b) p' :: hs) ((c, some i, ts) :: l)
section
variable {X : Cx}
theorem back_try {pins pn' : List (Addr × Obj)} {xe : Value → Shared → Prop} {J : Ends} {f : Flow} {s : Shared} (ok : X.Ok) (h : SP (X.tr (X.pn ++ pins) xe) pn' J f s) : SP X pins J f s := by
  cases f with
  | next => obtain ⟨τ, G, I, q⟩ := h; exact ⟨τ, G, Inv.ofTry I ok, q⟩
  | brk => obtain ⟨τ, G, I, q⟩ := h; exact ⟨τ, G, Inv.ofTry I ok, q⟩
  | cont => obtain ⟨τ, G, I, q⟩ := h; exact ⟨τ, G, Inv.ofTry I ok, q⟩
  | ret u => obtain ⟨v, τ, G, I, r, q⟩ := h; exact ⟨v, τ, G, Inv.ofTry I ok, r, q⟩
theorem back_suite {pins pn' : List (Addr × Obj)} {a : Addr} {q0 : Addr × Obj} {J : Ends} {f : Flow} {s : Shared} (ok : X.Ok) (h : SP (X.suite a (q0 :: (X.pn ++ pins))) pn' J f s) : SP X pins J f s := by
  cases f with
  | next => obtain ⟨τ, G, I, q⟩ := h; exact ⟨τ, G, Inv.unsuite I ok, q⟩
  | brk => obtain ⟨τ, G, I, q⟩ := h; exact ⟨τ, G, Inv.unsuite I ok, q⟩
  | cont => obtain ⟨τ, G, I, q⟩ := h; exact ⟨τ, G, Inv.unsuite I ok, q⟩
  | ret u => obtain ⟨v, τ, G, I, r, q⟩ := h; exact ⟨v, τ, G, Inv.unsuite I ok, r, q⟩
variable {body : List Stmt} {h0 : ExceptHandler} {hs : List ExceptHandler} {l : List Cla} {pos : Pos} {tb : WX → TS} {Wo : WX}
theorem ps_try_mix (hst : X.stack = X.env :: X.outer) (hfr0 : X.env.frame = some X.env.locals) (hN : X.N.Nodup) (tk : Takes X Wo)
    (hb : ∀ (W : WX) (pn : List (Addr × Obj)) (xe : Value → Shared → Prop), Takes (X.tr pn xe) W → PassesOwn (model X.prog X.w) X.A X.env xe → PSs (X.tr pn xe) body (tb W))
    (hh : MixOk X (h0 :: hs) l) : PS X (.Try body (h0 :: hs) [] [] pos) (fun J σ H => tb (wMix X.K X.N.length Wo J l) J σ H) := by
  refine ⟨fun pins s σ H J I h => ?_⟩
  have ok := I.ok
  have hfr : X.A.frames = some (X.env :: X.outer) := ok.frames.trans (congrArg some hst)
  refine wpAny_Try_except ?_
  have run := hb (wMix X.K X.N.length Wo J l) (X.pn ++ pins) (fun e s1 => wpAny (model X.prog X.w) X.A (noteFrame e X.env) (fun _ s2 => wpAny (model X.prog X.w) X.A (setFlight e none) (fun _ s3 => wpAny (model X.prog X.w) X.A (handleBy e X.env (h0 :: hs)) (SP X pins J) X.xe s3) X.xe s2) X.xe s1) ?_ PassesOwn.looking
  · refine wpAny_mono (run.run [] s σ H J (I.toTry _) h) (fun f s1 hsp => ?_) (fun e s1 he => he)
    have z := back_try ok hsp
    cases f with
    | next =>
      obtain ⟨τ, G, I', q⟩ := z
      exact wpAny_execs_nil ⟨τ, G, I', q⟩
    | _ => exact z
  · intro u s' xx
    obtain ⟨a, B, sI, pins', τ, G, cls, d, rfl, J', nb, up, sky, na, os, ag, w⟩ := xx
    have JI : Inv X pins τ G sI := Inv.ofTry J' ok
    have sky' : Sky B (X.env :: X.outer) a (Zc cls d) X.env.locals s'.heap := hst ▸ sky
    show wpAny (model X.prog X.w) X.A (noteFrame (.ref a) X.env) _ _ _
    refine Sky.land Zc.steady hfr hfr0 sky' fun k3 fl3 up3 => ?_
    have J3 : Inv X pins τ G { s' with heap := k3 } := JI.landed nb fl3.1 (up.trans up3) os ag
    obtain ⟨o3, f3, e3, z3, d3⟩ := fl3.there
    have apart : a ∉ frs (X.env :: X.outer) := fun hm => by
      obtain ⟨_, o', e', hnf⟩ := Heap.FunFrames.mem fl3.2.2.1 hm
      rw [e3] at e'; cases e'
      exact hnf _ d3
    have nL : a ≠ X.env.locals := fun z => apart (List.mem_filterMap.mpr ⟨X.env, List.mem_cons_self, hfr0.trans (congrArg some z.symm)⟩)
    have nF : a ∉ X.fs := fun hm => by
      obtain ⟨e, he, q⟩ := List.mem_filterMap.mp hm
      exact apart (List.mem_filterMap.mpr ⟨e, List.mem_cons_of_mem _ he, q⟩)
    have S3 := J3.suite e3 d3 na nL nF
    have look : ∀ {x : PySem.Str} {c : Value} {np : Pos} {Q : Value → Shared → Prop} {E : Value → Shared → Prop}, Names X x c → Q c { s' with heap := k3 } → wpAny (model X.prog X.w) (X.A.mark (some (.ref a))) (eval (.Name x np) X.env) Q E { s' with heap := k3 } := fun {x c np Q E} hc q => by
      obtain ⟨g1, g2, g3 | ⟨g3, g4, g5⟩⟩ := hc
      · exact ld_glob (X := X.suite a ((a, o3) :: (X.pn ++ pins))) S3 g1 g3 q g2
      · exact ld_blt (X := X.suite a ((a, o3) :: (X.pn ++ pins))) S3 g1 g3 g4 q g5 g2
    have LT : PySem.W.Looks (model X.prog X.w) k3 (typeOf (.ref a)) cls := fun A Q E s k q => wpAny_typeOf_ref (k _ _ e3) (z3.1 ▸ q)
    suffices go : ∀ {hs' : List ExceptHandler} {l' : List Cla}, MixOk X hs' l' → wMix X.K X.N.length Wo J l' cls d τ G → wpAny (model X.prog X.w) X.A (handleBy (.ref a) X.env hs') (SP X pins J) X.xe { s' with heap := k3 } from go hh w
    intro hs' l' hk
    induction hk with
    | nil =>
      intro w
      refine wpAny_handleBy_nil ?_
      obtain ⟨_, _, _, oe, vs, T, oT, ts', he, hz, hd, h1, _⟩ := id fl3
      unfold PySem.passOn
      refine wpAny_bind (wpAny_field he hd h1 ?_)
      rw [if_neg (by simp)]
      have out : wpAny (model X.prog X.w) X.A (setFlight (.ref a) X.env.frame) (fun _ s4 => wpAny (model X.prog X.w) X.A (throw (.ref a) : Sem Flow) (SP X pins J) X.xe s4) X.xe { s' with heap := k3 } := by
        rw [hfr0]
        exact HandSPX.setFlight_upZ fl3 fun k4 hh4 up4 => wpAny_throw (tk _ _ ⟨a, B, sI, pins, τ, G, cls, d, rfl, JI, nb, (up.trans up3).trans up4, .inr (.inr (hst.symm ▸ hh4)), na, os, ag, w⟩)
      first | exact wpAny_bind (wpAny_pure (wpAny_bind out)) | exact wpAny_bind out
    | @bare x c ts b0 b p p' hs2 l2 hc hbs r ih =>
      rintro ⟨bb, w1, yes, no⟩
      refine wpAny_handleBy_cons (codeAny_handlers_test ?_) (by intro q; cases q)
      refine look hc ((PySem.W.exm_one (M := model X.prog X.w) J3.kIn LT w1).here ?_)
      cases bb with
      | false => exact ih (no rfl)
      | true =>
        refine codeAny_handlers_suite (HandSPX.lands_againZ fl3 fun k4 fl4 up4 => ?_)
        obtain ⟨o4, f4, e4, z4, d4⟩ := fl4.there
        have J4 : Inv X pins τ G { s' with heap := k4 } := JI.landed nb fl4.1 ((up.trans up3).trans up4) os ag
        refine wpAny_mono ((hbs a o4 cls d (X.pn ++ pins) z4 ⟨_, d4⟩).run [] _ _ G _ (J4.suite e4 d4 na nL nF) (yes rfl a na JI.len)) (fun f s6 hsp => ?_) (fun _ _ z => z.elim)
        have z := back_suite ok hsp
        cases f <;> exact z
    | @named x n i c ts b0 b p p' hs2 l2 hc hi hl hbs r ih =>
      rintro ⟨bb, w1, yes, no⟩
      refine wpAny_handleBy_cons (codeAny_handlers_test ?_) (by intro q; cases q)
      refine look hc ((PySem.W.exm_one (M := model X.prog X.w) J3.kIn LT w1).here ?_)
      cases bb with
      | false => exact ih (no rfl)
      | true =>
        refine codeAny_handlers_suite_as (HandSPX.lands_againZ fl3 fun k4 fl4 up4 => ?_)
        obtain ⟨o4, f4, e4, z4, d4⟩ := fl4.there
        have J4 : Inv X pins τ G { s' with heap := k4 } := JI.landed nb fl4.1 ((up.trans up3).trans up4) os ag
        refine store_ok (X := X.suite a ((a, o4) :: (X.pn ++ pins))) (v := .ref a) (J4.suite e4 d4 na nL nF) hN hi (.inl hl) rfl (fun s5 S5 => ?_) (.inr hl)
        refine wpAny_mono ((hbs a o4 cls d (X.pn ++ pins) z4 ⟨_, d4⟩).run [] s5 _ G _ S5 (yes rfl a na JI.len)) (fun f s6 hsp => ?_) (fun _ _ z => z.elim)
        have z := back_suite ok hsp
        cases f with
        | next =>
          obtain ⟨τ6, G6, I6, q6⟩ := z
          exact gone_ok I6 hN hi hl fun s7 I7 => ⟨_, _, I7, q6⟩
        | brk =>
          obtain ⟨τ6, G6, I6, q6⟩ := z
          exact gone_ok I6 hN hi hl fun s7 I7 => ⟨_, _, I7, q6⟩
        | cont =>
          obtain ⟨τ6, G6, I6, q6⟩ := z
          exact gone_ok I6 hN hi hl fun s7 I7 => ⟨_, _, I7, q6⟩
        | ret u =>
          obtain ⟨v6, τ6, G6, I6, r6, q6⟩ := z
          exact gone_ok I6 hN hi hl fun s7 I7 => ⟨_, _, _, I7, r6, q6⟩
end
end Eg

namespace Eg
open PySem PySem.Spec PyProof.Rows L2
/-! ### what a suite hands back -/
/-- what is known of the classes of exceptions -/
structure ClsF (K : PySem.W.Frag) (CA : Nat → Addr) (sub : Nat → Nat → Bool) (flds : List (List Nat)) : Prop where
  mt : ∀ i j, CA i ≠ 0 → CA j ≠ 0 → PySem.W.exmOne K (.ref (CA i)) (.ref (CA j)) = some (sub i j)
  kit : ∀ i j, CA i ≠ 0 → CA j ≠ 0 → PySem.W.kitOne K (.ref (CA i)) (.ref (CA j)) = some (sub i j)
  xf : ∀ i, CA i ≠ 0 → XfC K (CA i)
  is_ : ∀ i, CA i ≠ 0 → ExcC K (CA i)
  fld : ∀ i f, CA i ≠ 0 → f ∈ flds → PySem.W.findIn K (.ref (CA i)) (cs f) = some none
section
variable {X : Cx} {CA : Nat → Addr} {sub : Nat → Nat → Bool} {flds : List (List Nat)}
/-- isinstance of the exception in hand, with or without a dict -/
def rHeld (K : PySem.W.Frag) (a C : Addr) (d : Option Addr) : List V → Hp → VK → Prop := fun xs H Q => ∃ (c : V) (cv : Value) (b : Bool), xs = [.ref a, c] ∧ (∀ u, RelV c u → u = cv) ∧ PySem.W.kitOne K (.ref C) cv = some b ∧ (∀ dd, d = some dd → ∃ fs, H dd = some (.xd fs)) ∧ Q (.bl b) H
theorem call_held {a C : Addr} {d : Option Addr} {oe : Obj} {pn : List (Addr × Obj)} (T : ExcC X.K C) (hz : Zc (.ref C) d oe) (hf : ∃ vs, oe.data = .fields vs) : CallR (X.suite a ((a, oe) :: pn)) (.builtin "isinstance") (rHeld X.K a C d) := by
  intro pins s σ H xs us Q I r ⟨c, cv, b, ex, hcv, e, hdd, q⟩
  subst ex
  match us, r with
  | [_, u2], .cons rx (.cons rt .nil) =>
    cases rx
    have ec := hcv _ rt
    subst ec
    obtain ⟨hget, _⟩ := I.pin (a, oe) (List.mem_append.mpr (.inl List.mem_cons_self))
    obtain ⟨vs, hv⟩ := hf
    have J : ∃ od, PySem.W.InstAt s.heap a oe C od := by
      obtain ⟨oc, oda, odt, osl⟩ := oe
      obtain ⟨h1, h2⟩ := hz
      dsimp only at h1 h2 hv
      subst h1 h2 hv
      cases oda with
      | none => exact ⟨none, hget, rfl, rfl, trivial⟩
      | some dd =>
        obtain ⟨fs, hfs⟩ := hdd dd rfl
        obtain ⟨mA, hns, _⟩ := (show ObjOk X.prog X.w H s.heap dd (.xd fs) from I.hok dd _ hfs)
        obtain ⟨od, ho, _⟩ := lookIn_ns hns
        exact ⟨some od, hget, rfl, rfl, ho⟩
    obtain ⟨od, J⟩ := J
    obtain ⟨cd, hcd, _⟩ := PySem.W.any_some T.hd
    exact PySem.W.kia_one (PySem.W.kitx_exc (od := od) (by rw [hcd]; rfl) T.hg T.hk T.hs T.ha T.hn T.ht T.hm) I.kIn J e (fun z => nomatch z) fun tk => ⟨.bl b, H, I.kept (t' := tk) fun _ _ z => z, rfl, q⟩
/-- the exception in hand -/
structure Held (K : PySem.W.Frag) (CA : Nat → Addr) (x : Ex) (a : Addr) (d : Option Addr) (nm : Option Nat) (α : List (Addr × Bool)) (H : Hp) (σ : SL) : Prop where
  sl : ∀ i, nm = some i → σ[i]? = some (some (.ref a))
  ex : ExR K CA α H x (.ref (CA x.cls)) d
def ItemT (X : Cx) (CA : Nat → Addr) (x : Ex) (a : Addr) (d : Option Addr) (nm : Option Nat) (pe : Expr) (r : Option D) : Prop :=
  ∃ t : TE, PE X pe t ∧ ∀ (σ : SL) (H : Hp) (α : List (Addr × Bool)) (Q : VK) (v : D), r = some v → Held X.K CA x a d nm α H σ → (∀ w, Rp X.K α H v w → Q w H) → t σ H Q
variable {a : Addr} {oe : Obj} {d : Option Addr} {pn : List (Addr × Obj)} {x : Ex} {i : Nat} {nm : Option Nat} {n : PySem.Str} {pos p1 p2 p3 p4 : Pos}
theorem item_lit {dd : D} {c : Const} {j : Nat} (h : okL dd c = true) : ItemT X CA x a d nm (.Constant c j pos) (some dd) := by
  unfold okL at h
  split at h
  · exact ⟨_, pe_non, fun σ H α Q v e hh q => by cases e; exact q _ .non⟩
  · simp only [beq_iff_eq] at h; subst h; exact ⟨_, pe_bl, fun σ H α Q v e hh q => by cases e; exact q _ (.bl _)⟩
  · simp only [decide_eq_true_eq] at h; subst h; exact ⟨_, pe_int, fun σ H α Q v e hh q => by cases e; exact q _ (.int _)⟩
  · simp only [decide_eq_true_eq] at h; subst h; exact ⟨_, pe_str, fun σ H α Q v e hh q => by cases e; exact q _ (.str _)⟩
  · cases h
theorem look_fs {K : PySem.W.Frag} {α : List (Addr × Bool)} {H : Hp} {f : List Nat} {v : D} : ∀ {l : List (List Nat × D)} {m : List (PySem.Str × V)}, Paired (fun (p : List Nat × D) (q : PySem.Str × V) => cs p.1 = q.1 ∧ Rp K α H p.2 q.2) l m → l.lookup f = some v → ∃ w, m.lookup (cs f) = some w ∧ Rp K α H v w
  | _, _, .nil, e => by simp at e
  | (g, y) :: l, _, .cons (b := (g', y')) ⟨r1, r2⟩ t, e => by
    rw [lookup_put]
    dsimp only at r1
    by_cases hb : f = g
    · subst hb
      have e2 : y = v := by simpa using e
      subst e2
      exact ⟨y', if_pos r1, r2⟩
    · have e2 : l.lookup f = some v := by
        have hb2 : (f == g) = false := by simpa using hb
        rw [List.lookup_cons, hb2] at e
        exact e
      obtain ⟨w, w1, w2⟩ := look_fs t e2
      exact ⟨w, by rw [if_neg fun z => hb (cs_inj.mp (z.trans r1.symm))]; exact w1, w2⟩
theorem item_attr {f : List Nat} (F : ClsF X.K CA sub flds) (h0 : CA x.cls ≠ 0) (hf : f ∈ flds) (hz : Zc (.ref (CA x.cls)) d oe) (hd : ∃ vs, oe.data = .fields vs) (hN : X.N[i]? = some n) (hv : Vis X.env.scope n) (hdb : (n == ("__debug__" : PySem.Str)) = false) (hcd : (n == ("__classdict__" : PySem.Str)) = false) :
    ItemT (X.suite a ((a, oe) :: pn)) CA x a d (some i) (.Attribute (.Name n p1) (cs f) pos) (x.fs.lookup f) := by
  refine ⟨_, pe_xf (F.xf _ h0) (F.fld _ f h0 hf) hz hd (pe_var (i := i) hN hv hdb hcd) (by rfl), fun σ H α Q v e hh q => ?_⟩
  obtain ⟨hs, ec, _, hx⟩ := hh
  rcases hx with ⟨e0, _⟩ | ⟨dd, fs, e1, e2, e3⟩
  · rw [e0] at e; cases e
  · obtain ⟨w, w1, w2⟩ := look_fs e3 e
    exact ⟨_, hs i rfl, rfl, rfl, dd, fs, w, e1, e2, w1, q w w2⟩
theorem held_d {K : PySem.W.Frag} {α : List (Addr × Bool)} {H : Hp} {σ : SL} (h : Held K CA x a d nm α H σ) : ∀ dd, d = some dd → ∃ fs, H dd = some (.xd fs) := by
  intro dd e
  rcases h.ex.2.2 with ⟨_, e0⟩ | ⟨d2, fs, e1, e2, _⟩
  · rw [e0] at e; cases e
  · rw [e1] at e; cases e; exact ⟨fs, e2⟩
theorem isi_pe {c : Nat} {cn : PySem.Str} (F : ClsF X.K CA sub flds) (h0 : CA x.cls ≠ 0) (hc : CA c ≠ 0) (hz : Zc (.ref (CA x.cls)) d oe) (hd : ∃ vs, oe.data = .fields vs) (hN : X.N[i]? = some n) (hv : Vis X.env.scope n) (hdb : (n == ("__debug__" : PySem.Str)) = false) (hcd : (n == ("__classdict__" : PySem.Str)) = false)
    (gi : Gl X "isinstance") (mi : X.mg "isinstance" = none) (gc : Gl X cn) (mc : X.mg cn = some (.ref (CA c))) (dc : (cn == ("__debug__" : PySem.Str)) = false) :
    ∃ t : TE, PE (X.suite a ((a, oe) :: pn)) (.Call (.Name "isinstance" p1) [.Name n p2, .Name cn p3] [] pos) t ∧ ∀ (σ : SL) (H : Hp) (α : List (Addr × Bool)) (Q : VK), Held X.K CA x a d (some i) α H σ → Q (.bl (sub x.cls c)) H → t σ H Q := by
  have pA : PA (X.suite a ((a, oe) :: pn)) [.Name n p2, .Name cn p3] (tCons (tVar i) (tCons (tC (.ref (CA c))) tNil)) := pa_cons (pe_var hN hv hdb hcd) (pa_cons (pe_glob gc mc rfl dc) pa_nil rfl) rfl
  refine ⟨_, pe_callB (call_held (F.is_ _ h0) hz hd) gi mi boot_isi pA (by decide +kernel) (by decide +kernel) rfl rfl, fun σ H α Q hh q => ?_⟩
  exact ⟨_, hh.sl i rfl, .ref (CA c), .ref (CA c), _, rfl, fun u r => r, F.kit _ _ h0 hc, held_d hh, q⟩
end
end Eg

namespace Eg
open PySem PySem.Spec PyProof.Rows L2
section
variable {X : Cx} {CA : Nat → Addr} {sub : Nat → Nat → Bool} {flds : List (List Nat)} {a : Addr} {oe : Obj} {d : Option Addr} {pn : List (Addr × Obj)} {x : Ex} {i : Nat} {nm : Option Nat} {n : PySem.Str} {pos p1 p2 p3 p4 : Pos}
theorem const_rp {K : PySem.W.Frag} {dd : D} {c : Const} (h : okL dd c = true) {α : List (Addr × Bool)} {H : Hp} {S : Sto} {w : V} (r : Rp K α H dd w) : Rp K α H dd w := r
/-- one of two constants, by the class -/
theorem item_isn {p5 p6 : Pos} {c : Nat} {cn : PySem.Str} {A B : D} {ca cb : Const} {ja jb : Nat} (F : ClsF X.K CA sub flds) (h0 : CA x.cls ≠ 0) (hc : CA c ≠ 0) (hz : Zc (.ref (CA x.cls)) d oe) (hd : ∃ vs, oe.data = .fields vs) (hN : X.N[i]? = some n) (hv : Vis X.env.scope n) (hdb : (n == ("__debug__" : PySem.Str)) = false) (hcd : (n == ("__classdict__" : PySem.Str)) = false)
    (gi : Gl X "isinstance") (mi : X.mg "isinstance" = none) (gc : Gl X cn) (mc : X.mg cn = some (.ref (CA c))) (dc : (cn == ("__debug__" : PySem.Str)) = false) (ha : okL A ca = true) (hb : okL B cb = true) :
    ItemT (X.suite a ((a, oe) :: pn)) CA x a d (some i) (.IfExp (.Call (.Name "isinstance" p1) [.Name n p2, .Name cn p3] [] p4) (.Constant ca ja p5) (.Constant cb jb p6) pos) (some (if sub x.cls c then A else B)) := by
  obtain ⟨t, pt, ht⟩ := isi_pe (p1 := p1) (p2 := p2) (p3 := p3) (pos := p4) (pn := pn) F h0 hc hz hd hN hv hdb hcd gi mi gc mc dc
  obtain ⟨ta, pa, qa⟩ := item_lit (X := X.suite a ((a, oe) :: pn)) (CA := CA) (x := x) (a := a) (d := d) (nm := some i) (j := ja) (pos := p5) ha
  obtain ⟨tb, pb, qb⟩ := item_lit (X := X.suite a ((a, oe) :: pn)) (CA := CA) (x := x) (a := a) (d := d) (nm := some i) (j := jb) (pos := p6) hb
  refine ⟨_, pe_ifExp (pt_truth pt (by intro w; rfl)) pa pb, fun σ H α Q v e hh q => ?_⟩
  refine ht σ H α _ hh ⟨sub x.cls c, rfl, ?_⟩
  cases hs : sub x.cls c with
  | true =>
    rw [hs] at e
    exact qa σ H α Q v e hh q
  | false =>
    rw [hs] at e
    exact qb σ H α Q v e hh q
theorem item_isb {c : Nat} {cn : PySem.Str} (F : ClsF X.K CA sub flds) (h0 : CA x.cls ≠ 0) (hc : CA c ≠ 0) (hz : Zc (.ref (CA x.cls)) d oe) (hd : ∃ vs, oe.data = .fields vs) (hN : X.N[i]? = some n) (hv : Vis X.env.scope n) (hdb : (n == ("__debug__" : PySem.Str)) = false) (hcd : (n == ("__classdict__" : PySem.Str)) = false)
    (gi : Gl X "isinstance") (mi : X.mg "isinstance" = none) (gc : Gl X cn) (mc : X.mg cn = some (.ref (CA c))) (dc : (cn == ("__debug__" : PySem.Str)) = false) :
    ItemT (X.suite a ((a, oe) :: pn)) CA x a d (some i) (.Call (.Name "isinstance" p1) [.Name n p2, .Name cn p3] [] p4) (some (if sub x.cls c then .bl true else .bl false)) := by
  obtain ⟨t, pt, ht⟩ := isi_pe (p1 := p1) (p2 := p2) (p3 := p3) (pos := p4) (pn := pn) F h0 hc hz hd hN hv hdb hcd gi mi gc mc dc
  refine ⟨_, pt, fun σ H α Q v e hh q => ht σ H α _ hh (q _ ?_)⟩
  cases hs : sub x.cls c with
  | true => rw [hs] at e; cases e; exact .bl _
  | false => rw [hs] at e; cases e; exact .bl _
/-- items -/
inductive ItemsT (X : Cx) (CA : Nat → Addr) (sub : Nat → Nat → Bool) (x : Ex) (a : Addr) (d : Option Addr) (nm : Option Nat) : List Expr → List Hi → Prop
  | nil : ItemsT X CA sub x a d nm [] []
  | cons {pe : Expr} {pes : List Expr} {h : Hi} {l : List Hi} (s : noStar [pe] = true) (r : ItemT X CA x a d nm pe (hiD sub x h)) (t : ItemsT X CA sub x a d nm pes l) : ItemsT X CA sub x a d nm (pe :: pes) (h :: l)
theorem items_pa {X : Cx} : ∀ {pes : List Expr} {l : List Hi}, ItemsT X CA sub x a d nm pes l → ∃ t : TA, PA X pes t ∧ ∀ (σ : SL) (H : Hp) (α : List (Addr × Bool)) (Q : List V → Hp → Prop) (ds : List D), hisD sub x l = some ds → Held X.K CA x a d nm α H σ → (∀ ws, RpL X.K α H ds ws → Q ws H) → t σ H Q
  | _, _, .nil => ⟨_, pa_nil, fun σ H α Q ds e hh q => by cases e; exact q [] .nil⟩
  | _, _, .cons s r t => by
    obtain ⟨ta, pa, qa⟩ := r
    obtain ⟨tt, pt, qt⟩ := items_pa t
    refine ⟨_, pa_cons pa pt (he_of (noStar1 s)), fun σ H α Q ds e hh q => ?_⟩
    simp only [hisD] at e
    split at e
    · rename_i v vs e1 e2
      cases e
      exact qa σ H α _ v e1 hh fun w rw' => qt σ H α _ vs e2 hh fun ws rws => q _ (.cons rw' rws)
    · cases e
/-- what a clause hands back -/
def hdR (sub : Nat → Nat → Bool) (x : Ex) (S : Sto) : Hd → Option (D × Sto)
  | .lst _ _ l => match hisD sub x l with
    | some ds => if ds.length ≤ line then some (.fl ds, S) else none
    | none => none
  | .one _ _ v => some (v, S)
def Hd.cl : Hd → Nat
  | .lst c _ _ => c
  | .one c _ _ => c
def Hd.nam : Hd → Option Nat
  | .lst _ n _ => n
  | .one _ n _ => n
def tsH (K : PySem.W.Frag) (CA : Nat → Addr) (sub : Nat → Nat → Bool) (hd : Hd) : Addr → Value → Option Addr → TS := fun a cls d J σ H => ∃ (x : Ex) (α : List (Addr × Bool)) (S : Sto) (v : D) (S' : Sto), cls = .ref (CA x.cls) ∧ CA x.cls ≠ 0 ∧ Held K CA x a d hd.nam α H σ ∧ StR K α H S ∧ hdR sub x S hd = some (v, S') ∧
  ∀ α' H' w, Ext α H α' H' → StR K α' H' S' → Rp K α' H' v w → J.rt w H'
theorem suite_lst {c : Nat} {l : List Hi} {pes : List Expr} (h : ∀ (a : Addr) (oe : Obj) (d : Option Addr) (pn : List (Addr × Obj)) (x : Ex), CA x.cls ≠ 0 → Zc (.ref (CA x.cls)) d oe → (∃ vs, oe.data = .fields vs) → ItemsT (X.suite a ((a, oe) :: pn)) CA sub x a d nm pes l) :
    SuiteOk X [.Return (some (.List pes p1)) p2] (tsH X.K CA sub (.lst c nm l)) := by
  intro a oe cls d pn hz hd
  refine ⟨fun pins s σ H J I ⟨x, α, S, v, S', ec, h0, hh, st, er, q⟩ => ?_⟩
  subst ec
  obtain ⟨t, pt, ht⟩ := items_pa (h a oe d pn x h0 hz hd)
  refine (pss_one (ps_ret (pe_frz (pe_lst pt)))).run pins s σ H J I ?_
  simp only [hdR] at er
  split at er
  · rename_i ds e
    split at er
    · rename_i hlen
      cases er
      refine ht σ H α _ ds e hh fun ws rws => ⟨by rw [← line_eq, ← rws.length]; exact hlen, fun p hp => ?_⟩
      refine ⟨p, _, rfl, upd_same, trivial, fun od => ?_⟩
      rw [upd_upd]
      exact q α _ _ (Ext.aside hp) (st.fresh hp) (.fl ⟨od, upd_same⟩ (rws.ext (Ext.aside hp)))
    · cases er
  · cases er
theorem suite_one {c : Nat} {v : D} {cc : Const} {j : Nat} (h : okL v cc = true) : SuiteOk X [.Return (some (.Constant cc j p1)) p2] (tsH X.K CA sub (.one c nm v)) := by
  intro a oe cls d pn hz hd
  refine ⟨fun pins s σ H J I ⟨x, α, S, v', S', ec, h0, hh, st, er, q⟩ => ?_⟩
  simp only [hdR, Option.some.injEq, Prod.mk.injEq] at er
  obtain ⟨rfl, rfl⟩ := er
  obtain ⟨t, pt, ht⟩ := item_lit (X := X.suite a ((a, oe) :: pn)) (CA := CA) (x := x) (a := a) (d := d) (nm := nm) (j := j) (pos := p1) h
  exact (pss_one (ps_ret pt)).run pins s σ H J I (ht σ H α _ v rfl hh fun w r => q α H w (Ext.refl _ _) st r)
def clOf (K : PySem.W.Frag) (CA : Nat → Addr) (sub : Nat → Nat → Bool) (hd : Hd) : Cla := (.ref (CA hd.cl), hd.nam, tsH K CA sub hd)
theorem hdl_cons {sub : Nat → Nat → Bool} {x : Ex} {ρ : Env} {S : Sto} {h : Hd} {l : List Hd} : hdl sub x ρ S (h :: l) = if sub x.cls h.cl = true then (match hdR sub x S h with | some (v, S') => .rt v S' | none => .no) else hdl sub x ρ S l := by
  cases h with
  | lst c n l2 =>
    rw [show (Hd.lst c n l2).cl = c from rfl]
    simp only [hdl, hdR]
    by_cases hb : sub x.cls c = true
    · rw [if_pos hb, if_pos hb]
      cases hisD sub x l2 with
      | none => rfl
      | some ds => by_cases hl : ds.length ≤ line <;> simp [hl]
    · rw [if_neg hb, if_neg hb]
  | one c n v =>
    rw [show (Hd.one c n v).cl = c from rfl]
    simp only [hdl, hdR]
/-- the wish of the clauses, by the engine's -/
theorem mix_of {K : PySem.W.Frag} {W : WX} {J : Ends} (F : ClsF K CA sub flds) {x : Ex} {ρ : Env} {S : Sto} {α : List (Addr × Bool)} {H : Hp} {σ : SL} {d : Option Addr} (he : EnvR K α H ρ σ) (hs : StR K α H S) (hx : ExR K CA α H x (.ref (CA x.cls)) d) : ∀ {n : Nat} {l : List Hd}, (∀ h ∈ l, CA h.cl ≠ 0 ∧ ∀ i, h.nam = some i → i < n) →
    PostS K CA α H (hdl sub x ρ S l) J W → wMix K n W J (l.map (clOf K CA sub)) (.ref (CA x.cls)) d σ H
  | _, [], _, p => p α H σ _ d (Ext.refl _ _) hs he hx
  | n, h :: l, hc, p => by
    obtain ⟨hc1, hc2⟩ := hc h (by simp)
    refine ⟨sub x.cls h.cl, F.mt _ _ hx.2.1 hc1, fun hb a ha hlen => ?_, fun hb => ?_⟩
    · rw [hdl_cons, if_pos hb] at p
      cases hr : hdR sub x S h with
      | none => rw [hr] at p; exact p.elim
      | some vs =>
        obtain ⟨v, S'⟩ := vs
        rw [hr] at p
        cases hn : h.nam with
        | none => exact ⟨x, α, S, v, S', rfl, hx.2.1, ⟨fun i e => (by rw [hn] at e; cases e), hx⟩, hs, hr, p⟩
        | some i =>
          refine ⟨x, α, S, v, S', rfl, hx.2.1, ⟨fun j e => ?_, hx⟩, hs, hr, p⟩
          rw [hn] at e; cases e
          exact List.getElem?_set_self (by rw [hlen]; exact hc2 _ hn)
    · rw [hdl_cons, if_neg (by rw [hb]; exact Bool.false_ne_true)] at p
      exact mix_of F he hs hx (fun h' hm => hc h' (List.mem_cons_of_mem _ hm)) p
theorem ss_try {W : WX} {b : List Stmt} {h0 : ExceptHandler} {hs : List ExceptHandler} {l : List Hd} {f : Env → Sto → RS} (hst : X.stack = X.env :: X.outer) (hfr : X.env.frame = some X.env.locals) (hN : X.N.Nodup) (tk : Takes X W) (F : ClsF X.K CA sub flds)
    (hb : ∀ (W : WX) (pn : List (Addr × Obj)) (xe : Value → Shared → Prop), Takes (X.tr pn xe) W → PassesOwn (model X.prog X.w) X.A X.env xe → SSs CA (X.tr pn xe) W b f)
    (hh : MixOk X (h0 :: hs) (l.map (clOf X.K CA sub))) (hl : ∀ h ∈ l, CA h.cl ≠ 0 ∧ ∀ i, h.nam = some i → i < X.N.length) :
    SS CA X W (.Try b (h0 :: hs) [] [] pos) (fun ρ S => match f ρ S with
    | .ex x ρ1 S1 => hdl sub x ρ1 S1 l
    | r => r) := by
  refine ss_w (ps_try_mix (tb := fun W => wS X.K CA W f) hst hfr hN tk (fun W pn xe tk' hp => hb W pn xe tk' hp) hh) fun ρ S σ H α J he hs2 p => ⟨ρ, S, α, he, hs2, ?_⟩
  revert p
  generalize f ρ S = r
  intro p
  cases r with
  | ex x ρ1 S1 =>
    intro α' H' σ' cls d e s en hx
    have ec := hx.1
    subst ec
    exact mix_of F en s hx hl (PostS.ext e p)
  | _ => exact p
end
end Eg

namespace Eg
open PySem PySem.Spec PyProof.Rows L2
def locL (k : Ck) (x : PySem.Str) : Bool := decide (k.sc.names.lookup x = some .local)
def cellB (k : Ck) (x : PySem.Str) : Bool := decide (k.sc.names.lookup x = some .cell) && k.fn x
/-- a comprehension given to a local on its own line -/
def lcLine (x : PySem.Str) (py : Pos) : Expr → Bool
  | .ListComp _ _ scope pos => (py.line == pos.line) && !(scope.names.any fun (n, k) => n == x && (k == .local || k == .cell))
  | _ => false
section
variable (G : Glo)
def clsB (k : Ck) (c : Nat) (x : PySem.Str) : Bool := match G.cls[c]? with
  | some nm => decide (x = cs nm) && glB k.sc x && nmB x
  | none => false
def varB (k : Ck) (nm : Option Nat) (n : PySem.Str) : Bool := match nm with
  | some i => decide (k.N[i]? = some n) && visB k.sc n && nmB n
  | none => false
def isiB (k : Ck) (nm : Option Nat) (c : Nat) : Expr → Bool
  | .Call (.Name z _) [.Name n _, .Name cn _] [] _ => decide (z = ("isinstance" : PySem.Str)) && glB k.sc z && varB k nm n && clsB G k c cn
  | _ => false
def okHi (k : Ck) (nm : Option Nat) : Hi → Expr → Bool
  | .lit d, .Constant c _ _ => okL d c
  | .attr f, .Attribute (.Name n _) y _ => varB k nm n && decide (y = cs f) && decide (f ∈ G.flds)
  | .isn c a b, .IfExp t (.Constant ca _ _) (.Constant cb _ _) _ => isiB G k nm c t && okL a ca && okL b cb
  | .isn c a b, .Call x y z p => isiB G k nm c (.Call x y z p) && decide (a = .bl true) && decide (b = .bl false)
  | _, _ => false
def okHis (k : Ck) (nm : Option Nat) : List Hi → List Expr → Bool
  | [], [] => true
  | h :: l, e :: es => noStar [e] && okHi G k nm h e && okHis k nm l es
  | _, _ => false
def nmOk (k : Ck) : Option Nat → Option PySem.Str → Bool
  | none, none => true
  | some i, some y => decide (k.N[i]? = some y) && locL k y
  | _, _ => false
def okHd (k : Ck) : Hd → ExceptHandler → Bool
  | .lst c nm l, .ExceptHandler (some (.Name x _)) n [.Return (some (.List es _)) _] _ => nmOk k nm n && clsB G k c x && okHis G k nm l es
  | .one c nm d, .ExceptHandler (some (.Name x _)) n [.Return (some (.Constant cc _ _)) _] _ => nmOk k nm n && clsB G k c x && okL d cc
  | _, _ => false
def okHds (k : Ck) : List Hd → List ExceptHandler → Bool
  | [], [] => true
  | h :: l, e :: es => okHd G k h e && okHds k l es
  | _, _ => false
mutual
def okS (k : Ck) : Sm → Stmt → Bool
  | .asg i e, st => match st with
    | .Assign [.Name x p'] v _ => decide (k.N[i]? = some x) && okE G k e v && (match e with
      | .comp _ => (locL k x && lcLine x p' v) || cellB k x
      | .compF _ => (locL k x && lcLine x p' v) || cellB k x
      | _ => notLc v && locB k x)
    | _ => false
  | .asgT ts e, st => match st with
    | .Assign [.Tuple xs kt pt] v _ => okT k (.tp ts) (.Tuple xs kt pt) && okE G k e v && notLc v && noSwap k.sc xs v && noStar [.Tuple xs kt pt]
    | _ => false
  | .par is es, st => match is, st with
    | [i, j], .Assign [.Tuple [.Name x px, .Name y py] _ _] (.Tuple [a, b] _ _) _ => decide (k.N[i]? = some x) && decide (k.N[j]? = some y) && decide (i ≠ j) && locL k x && locL k y && (py.line == px.line) && noStar [a, b] && !([x, y].eraseDups.length != 2) && !([a, b].all (foldedForSure 8)) && !([a, b].all (constantsAlone 8)) && okEs G k es [a, b]
    | [i, j, m], .Assign [.Tuple [.Name x px, .Name y py, .Name z pz] _ _] (.Tuple [a, b, c] _ _) _ => decide (k.N[i]? = some x) && decide (k.N[j]? = some y) && decide (k.N[m]? = some z) && decide (i ≠ j) && decide (i ≠ m) && decide (j ≠ m) && locL k x && locL k y && locL k z && (py.line == px.line) && (pz.line == px.line) && noStar [a, b, c] && !([x, y, z].eraseDups.length != 3) && !([a, b, c].all (foldedForSure 8)) && !([a, b, c].all (constantsAlone 8)) && okEs G k es [a, b, c]
    | _, _ => false
  | .aug i o e, st => match st with
    | .AugAssign (.Name x _) op v _ => decide (k.N[i]? = some x) && locB k x && decide (op = opOf o) && (decide (o = .add) || decide (o = .sub)) && okE G k e v
    | _ => false
  | .setI a i e, st => match st with
    | .Assign [.Subscript b ix _] v _ => notSl ix && notLc v && okE G k e v && okE G k a b && okE G k i ix
    | _ => false
  | .expr e, st => match st with
    | .Expr v _ => notLc v && okE G k e v
    | _ => false
  | .ret e, st => match st with
    | .Return (some v) _ => okE G k e v
    | _ => false
  | .retN, st => match st with
    | .Return none _ => true
    | _ => false
  | .ife t a b, st => match st with
    | .If c p q _ => okE G k t c && okSs k a p && okSs k b q
    | _ => false
  | .whl t b, st => match st with
    | .While c p [] _ => okE G k t c && okSs k b p
    | _ => false
  | .fr tg it b, st => match st with
    | .For t iter p [] _ => it.plainI && zipT it t && notSet iter && okT k tg t && okI G k it iter && okSs k b p
    | _ => false
  | .rais c fs es, st => match st with
    | .Raise (some (.Call (.Name x _) [] [] _)) none _ => clsB G k c x && decide ((c, fs) ∈ G.exs) && (match es with | .nil => true | _ => false)
    | .Raise (some (.Call (.Name x _) (y :: ys) [] _)) none _ => clsB G k c x && decide ((c, fs) ∈ G.exs) && noStar (y :: ys) && okEs G k es (y :: ys)
    | _ => false
  | .try_ b hs, st => match st with
    | .Try body (h0 :: hds) [] [] _ => okSs k b body && okHds G k hs (h0 :: hds)
    | _ => false
  | .pass, st => match st with
    | .Pass _ => true
    | _ => false
  | .brk, st => match st with
    | .Break _ => true
    | _ => false
  | .cont, st => match st with
    | .Continue _ => true
    | _ => false
  | .nev, _ => true
def okSs (k : Ck) : Ss → List Stmt → Bool
  | .nil, sts => match sts with
    | [] => true
    | _ => false
  | .cons s ss, sts => match sts with
    | st :: sts => okS k s st && okSs k ss sts
    | _ => false
end
end
structure XS (G : Glo) (CA : Nat → Addr) (c : Cl) (k : Ck) (X : Cx) : Prop where
  xo : XO G CA c k X
  stk : X.stack = X.env :: X.outer
  frm : X.env.frame = some X.env.locals
  knd : X.env.scope.kind = .function
  clsm : ∀ i nm, G.cls[i]? = some nm → X.mg (cs nm) = some (.ref (CA i)) ∧ CA i ≠ 0
  cf : ClsF X.K CA G.sub G.flds
  exc : ∀ i fs, (i, fs) ∈ G.exs → ExC X (CA i) fs
section
variable {G : Glo} {CA : Nat → Addr} {c : Cl} {k : Ck} {X : Cx}
theorem XO.tr (h : XO G CA c k X) (pn : List (Addr × Obj)) (xe : Value → Shared → Prop) : XO G CA c k (X.tr pn xe) :=
  ⟨h.n, h.nd, h.sc, h.calm, h.hu, h.fn, h.blt, h.con, fun f d e => ⟨(h.call f d e).ex⟩⟩
theorem XS.tr (h : XS G CA c k X) (pn : List (Addr × Obj)) (xe : Value → Shared → Prop) : XS G CA c k (X.tr pn xe) :=
  ⟨h.xo.tr pn xe, h.stk, h.frm, h.knd, h.clsm, h.cf, fun i fs q => ⟨(h.exc i fs q).oex, (h.exc i fs q).one, (h.exc i fs q).fld, (h.exc i fs q).ini⟩⟩
theorem XS.cl (h : XS G CA c k X) {i : Nat} {x : PySem.Str} (e : clsB G k i x = true) : Gl X x ∧ X.mg x = some (.ref (CA i)) ∧ CA i ≠ 0 ∧ (x == ("__debug__" : PySem.Str)) = false := by
  unfold clsB at e
  split at e
  · rename_i nm hn
    simp only [Bool.and_eq_true, decide_eq_true_eq] at e
    obtain ⟨⟨e1, e2⟩, e3⟩ := e
    subst e1
    obtain ⟨m1, m2⟩ := h.clsm _ _ hn
    exact ⟨h.xo.gl e2, m1, m2, (nm_of e3).1⟩
  · cases e
theorem locL_ok (h : XO G CA c k X) {x : PySem.Str} (e : locL k x = true) : X.env.scope.names.lookup x = some .local := by
  rw [h.sc]; exact of_decide_eq_true e
theorem varB_ok (h : XO G CA c k X) {nm : Option Nat} {n : PySem.Str} (e : varB k nm n = true) : ∃ i, nm = some i ∧ X.N[i]? = some n ∧ Vis X.env.scope n ∧ (n == ("__debug__" : PySem.Str)) = false ∧ (n == ("__classdict__" : PySem.Str)) = false := by
  unfold varB at e
  split at e
  · rename_i i
    simp only [Bool.and_eq_true, decide_eq_true_eq] at e
    obtain ⟨⟨e1, e2⟩, e3⟩ := e
    obtain ⟨d1, d2⟩ := nm_of e3
    exact ⟨i, rfl, by rw [h.n]; exact e1, h.vis e2, d1, d2⟩
  · cases e
theorem isiB_ok {nm : Option Nat} {q : Nat} {t : Expr} (e : isiB G k nm q t = true) : ∃ p1 p2 p3 p4 n cn, t = .Call (.Name ("isinstance" : PySem.Str) p1) [.Name n p2, .Name cn p3] [] p4 ∧ glB k.sc ("isinstance" : PySem.Str) = true ∧ varB k nm n = true ∧ clsB G k q cn = true := by
  unfold isiB at e
  split at e
  · simp only [Bool.and_eq_true, decide_eq_true_eq] at e
    obtain ⟨⟨⟨e1, e2⟩, e3⟩, e4⟩ := e
    subst e1
    exact ⟨_, _, _, _, _, _, rfl, e2, e3, e4⟩
  · cases e
theorem sound_hi (h : XS G CA c k X) {nm : Option Nat} {a : Addr} {oe : Obj} {d : Option Addr} {pn : List (Addr × Obj)} {x : Ex} (h0 : CA x.cls ≠ 0) (hz : Zc (.ref (CA x.cls)) d oe) (hd : ∃ vs, oe.data = .fields vs) : ∀ (hi : Hi) (e : Expr), okHi G k nm hi e = true → ItemT (X.suite a ((a, oe) :: pn)) CA x a d nm e (hiD G.sub x hi) := by
  intro hi e q
  unfold okHi at q
  split at q
  · exact item_lit q
  · simp only [Bool.and_eq_true, decide_eq_true_eq] at q
    obtain ⟨⟨q1, q2⟩, q3⟩ := q
    obtain ⟨i, rfl, v1, v2, v3, v4⟩ := varB_ok h.xo q1
    subst q2
    exact item_attr h.cf h0 q3 hz hd v1 v2 v3 v4
  · simp only [Bool.and_eq_true] at q
    obtain ⟨⟨q1, q2⟩, q3⟩ := q
    obtain ⟨p1, p2, p3, p4, n, cn, rfl, g1, g2, g3⟩ := isiB_ok q1
    obtain ⟨i, rfl, v1, v2, v3, v4⟩ := varB_ok h.xo g2
    obtain ⟨c1, c2, c3, c4⟩ := h.cl g3
    exact item_isn h.cf h0 c3 hz hd v1 v2 v3 v4 (h.xo.gl g1) (h.xo.blt _ isi_all) c1 c2 c4 q2 q3
  · simp only [Bool.and_eq_true, decide_eq_true_eq] at q
    obtain ⟨⟨q1, q2⟩, q3⟩ := q
    subst q2 q3
    obtain ⟨p1, p2, p3, p4, n, cn, e0, g1, g2, g3⟩ := isiB_ok q1
    rw [e0]
    obtain ⟨i, rfl, v1, v2, v3, v4⟩ := varB_ok h.xo g2
    obtain ⟨c1, c2, c3, c4⟩ := h.cl g3
    exact item_isb h.cf h0 c3 hz hd v1 v2 v3 v4 (h.xo.gl g1) (h.xo.blt _ isi_all) c1 c2 c4
  · cases q
theorem sound_his (h : XS G CA c k X) {nm : Option Nat} {a : Addr} {oe : Obj} {d : Option Addr} {pn : List (Addr × Obj)} {x : Ex} (h0 : CA x.cls ≠ 0) (hz : Zc (.ref (CA x.cls)) d oe) (hd : ∃ vs, oe.data = .fields vs) : ∀ (l : List Hi) (es : List Expr), okHis G k nm l es = true → ItemsT (X.suite a ((a, oe) :: pn)) CA G.sub x a d nm es l
  | [], [], _ => .nil
  | [], _ :: _, q => by simp [okHis] at q
  | _ :: _, [], q => by simp [okHis] at q
  | hi :: l, e :: es, q => by
    simp only [okHis, Bool.and_eq_true] at q
    exact .cons q.1.1 (sound_hi h h0 hz hd hi e q.1.2) (sound_his h h0 hz hd l es q.2)
theorem sound_hds (h : XS G CA c k X) : ∀ (l : List Hd) (es : List ExceptHandler), okHds G k l es = true → MixOk X es (l.map (clOf X.K CA G.sub)) ∧ ∀ hd ∈ l, CA hd.cl ≠ 0 ∧ ∀ i, hd.nam = some i → i < X.N.length
  | [], [], _ => ⟨.nil, fun _ z => by cases z⟩
  | [], _ :: _, q => by simp [okHds] at q
  | _ :: _, [], q => by simp [okHds] at q
  | hd :: l, e :: es, q => by
    simp only [okHds, Bool.and_eq_true] at q
    obtain ⟨q1, q2⟩ := q
    obtain ⟨r1, r2⟩ := sound_hds h l es q2
    have key : ∀ {x : PySem.Str} {np p' : Pos} {n : Option PySem.Str} {b0 : Stmt} {b : List Stmt} {ts : Addr → Value → Option Addr → TS} {nm : Option Nat} {q : Nat}, nmOk k nm n = true → clsB G k q x = true → SuiteOk X (b0 :: b) ts → MixOk X (.ExceptHandler (some (.Name x np)) n (b0 :: b) p' :: es) ((.ref (CA q), nm, ts) :: l.map (clOf X.K CA G.sub)) ∧ CA q ≠ 0 ∧ ∀ i, nm = some i → i < X.N.length := by
      intro x np p' n b0 b ts nm q e1 e2 e3
      obtain ⟨c1, c2, c3, c4⟩ := h.cl e2
      unfold nmOk at e1
      split at e1
      · exact ⟨.bare ⟨c1, c4, .inl c2⟩ e3 r1, c3, fun i z => by cases z⟩
      · simp only [Bool.and_eq_true, decide_eq_true_eq] at e1
        have e4 := e1.1
        rw [← h.xo.n] at e4
        exact ⟨.named ⟨c1, c4, .inl c2⟩ e4 (locL_ok h.xo e1.2) e3 r1, c3, fun i z => by cases z; exact (List.getElem?_eq_some_iff.mp e4).1⟩
      · cases e1
    have fin : MixOk X (e :: es) (clOf X.K CA G.sub hd :: l.map (clOf X.K CA G.sub)) ∧ CA hd.cl ≠ 0 ∧ ∀ i, hd.nam = some i → i < X.N.length := by
      unfold okHd at q1
      split at q1
      · simp only [Bool.and_eq_true] at q1
        obtain ⟨⟨a1, a2⟩, a3⟩ := q1
        exact key a1 a2 (suite_lst fun a oe d pn x h0 hz hd => sound_his h h0 hz hd _ _ a3)
      · simp only [Bool.and_eq_true] at q1
        obtain ⟨⟨a1, a2⟩, a3⟩ := q1
        exact key a1 a2 (suite_one a3)
      · cases q1
    refine ⟨fin.1, fun hd' hm => ?_⟩
    rcases List.mem_cons.mp hm with rfl | hm
    · exact fin.2
    · exact r2 _ hm
theorem blk_of (h : XS G CA c k X) : X.env.blockKind = .function := by
  unfold PySem.Env.blockKind
  rw [h.knd]; rfl
mutual
theorem sound_s : ∀ (s : Sm) {X : Cx} {W : WX} (h : XS G CA c k X) (tk : Takes X W) (hp : PassesOwn (model X.prog X.w) X.A X.env X.xe) (st : Stmt), okS G k s st = true → SS CA X W st (evS G.sub c s)
  | .asg i e, X, W, h, tk, hp, st, q => by
    simp only [okS] at q
    split at q
    · rename_i x p' v p
      simp only [Bool.and_eq_true, decide_eq_true_eq] at q
      obtain ⟨⟨q1, q2⟩, q3⟩ := q
      rw [← h.xo.n] at q1
      split at q3
      · rename_i qc
        simp only [Bool.or_eq_true, Bool.and_eq_true] at q3
        rcases q3 with ⟨a1, a2⟩ | a1
        · have hl := locL_ok h.xo a1
          unfold lcLine at a2
          split at a2
          · simp only [Bool.and_eq_true, Bool.not_eq_true'] at a2
            simp only [okE] at q2
            exact ss_setC q1 hl (sw_true h.knd hl a2.1 a2.2) (sound_c qc h.xo tk _ q2)
          · cases a2
        · simp only [cellB, Bool.and_eq_true, decide_eq_true_eq] at a1
          have hl : X.env.scope.names.lookup x = some .cell := by rw [h.xo.sc]; exact a1.1
          exact ss_set h.xo.nd q1 (.inr hl) (.inl (h.xo.fn _ a1.2)) (cell_ok hl) (sound_e (.comp qc) h.xo tk _ q2).1
      · rename_i qc
        simp only [Bool.or_eq_true, Bool.and_eq_true] at q3
        rcases q3 with ⟨a1, a2⟩ | a1
        · have hl := locL_ok h.xo a1
          unfold lcLine at a2
          split at a2
          · simp only [Bool.and_eq_true, Bool.not_eq_true'] at a2
            simp only [okE] at q2
            exact ss_setCF q1 hl (sw_true h.knd hl a2.1 a2.2) (sound_c qc h.xo tk _ q2)
          · cases a2
        · simp only [cellB, Bool.and_eq_true, decide_eq_true_eq] at a1
          have hl : X.env.scope.names.lookup x = some .cell := by rw [h.xo.sc]; exact a1.1
          exact ss_set h.xo.nd q1 (.inr hl) (.inl (h.xo.fn _ a1.2)) (cell_ok hl) (sound_e (.compF qc) h.xo tk _ q2).1
      · simp only [Bool.and_eq_true] at q3
        obtain ⟨l1, l2⟩ := h.xo.loc q3.2
        exact ss_set h.xo.nd q1 l1 l2 (notLc_ok q3.1) (sound_e e h.xo tk _ q2).1
    · cases q
  | .asgT ts e, X, W, h, tk, hp, st, q => by
    simp only [okS] at q
    split at q
    · simp only [Bool.and_eq_true] at q
      obtain ⟨⟨⟨⟨q1, q2⟩, q3⟩, q4⟩, q5⟩ := q
      exact ss_asg (bd := fun S d ρ => bindT S (.tp ts) d ρ) (sole_ok q3) (noSwap_ok (by rw [h.xo.sc]; exact q4)) (by rfl) (sound_e e h.xo tk _ q2).1 (sound_t h.xo (.tp ts) _ q1)
    · cases q
  | .par is es, X, W, h, tk, hp, st, q => by
    simp only [okS] at q
    split at q
    · simp only [Bool.and_eq_true, decide_eq_true_eq, Bool.not_eq_true'] at q
      obtain ⟨⟨⟨⟨⟨⟨⟨⟨⟨⟨q1, q2⟩, q3⟩, q4⟩, q5⟩, q6⟩, q7⟩, q8⟩, q9⟩, q10⟩, q11⟩ := q
      have l1 := locL_ok h.xo q4
      have l2 := locL_ok h.xo q5
      rw [← h.xo.n] at q1 q2
      exact ss_par2 h.xo.calm h.xo.nd q1 q2 q3 l1 l2 (swapped2 (blk_of h) l1 l2 q6 q7 q8 q9 q10) (sound_es es h.xo tk _ q11)
    · simp only [Bool.and_eq_true, decide_eq_true_eq, Bool.not_eq_true'] at q
      obtain ⟨⟨⟨⟨⟨⟨⟨⟨⟨⟨⟨⟨⟨⟨⟨q1, q2⟩, q2'⟩, q3⟩, q3'⟩, q3''⟩, q4⟩, q5⟩, q5'⟩, q6⟩, q6'⟩, q7⟩, q8⟩, q9⟩, q10⟩, q11⟩ := q
      have l1 := locL_ok h.xo q4
      have l2 := locL_ok h.xo q5
      have l3 := locL_ok h.xo q5'
      rw [← h.xo.n] at q1 q2 q2'
      exact ss_par3 h.xo.calm h.xo.nd q1 q2 q2' q3 q3' q3'' l1 l2 l3 (swapped3 (blk_of h) l1 l2 l3 q6 q6' q7 q8 q9 q10) (sound_es es h.xo tk _ q11)
    · cases q
  | .aug i o e, X, W, h, tk, hp, st, q => by
    simp only [okS] at q
    split at q
    · simp only [Bool.and_eq_true, decide_eq_true_eq, Bool.or_eq_true] at q
      obtain ⟨⟨⟨⟨q1, q2⟩, q3⟩, q4⟩, q5⟩ := q
      subst q3
      rw [← h.xo.n] at q1
      obtain ⟨l1, l2⟩ := h.xo.loc q2
      exact ss_aug q4 h.xo.nd q1 l1 l2 (sound_e e h.xo tk _ q5).1
    · cases q
  | .setI a i e, X, W, h, tk, hp, st, q => by
    simp only [okS] at q
    split at q
    · simp only [Bool.and_eq_true] at q
      obtain ⟨⟨⟨⟨q1, q2⟩, q3⟩, q4⟩, q5⟩ := q
      exact ss_setI h.xo.hu q1 (sole_ok q2) (sound_e e h.xo tk _ q3).1 (sound_e a h.xo tk _ q4).1 (sound_e i h.xo tk _ q5).1
    · cases q
  | .expr e, X, W, h, tk, hp, st, q => by
    simp only [okS] at q
    split at q
    · simp only [Bool.and_eq_true] at q
      exact ss_expr (notLc_ok q.1) (sound_e e h.xo tk _ q.2).1
    · cases q
  | .ret e, X, W, h, tk, hp, st, q => by
    simp only [okS] at q
    split at q
    · exact ss_ret (sound_e e h.xo tk _ q).1
    · cases q
  | .retN, X, W, h, tk, hp, st, q => by
    simp only [okS] at q
    split at q
    · exact ss_retN
    · cases q
  | .ife t a b, X, W, h, tk, hp, st, q => by
    simp only [okS] at q
    split at q
    · simp only [Bool.and_eq_true] at q
      exact ss_if (sound_e t h.xo tk _ q.1.1).2 (sound_ss a h tk hp _ q.1.2) (sound_ss b h tk hp _ q.2)
    · cases q
  | .whl t b, X, W, h, tk, hp, st, q => by
    simp only [okS] at q
    split at q
    · simp only [Bool.and_eq_true] at q
      exact ss_while hp (sound_e t h.xo tk _ q.1).2 (sound_ss b h tk hp _ q.2)
    · cases q
  | .fr tg it b, X, W, h, tk, hp, st, q => by
    simp only [okS] at q
    split at q
    · simp only [Bool.and_eq_true] at q
      obtain ⟨⟨⟨⟨⟨q1, qZ⟩, q2⟩, q3⟩, q4⟩, q5⟩ := q
      exact ss_for (bd := fun S d ρ => bindT S tg d ρ) hp h.xo.calm (sound_i it h.xo tk _ _ q1 qZ q4) (sound_t h.xo tg _ q3) (sound_ss b h tk hp _ q5) (folded_of q2)
    · cases q
  | .rais cl fs es, X, W, h, tk, hp, st, q => by
    simp only [okS] at q
    split at q
    · simp only [Bool.and_eq_true, decide_eq_true_eq] at q
      obtain ⟨⟨q1, q2⟩, q3⟩ := q
      obtain ⟨c1, c2, c3, c4⟩ := h.cl q1
      cases es with
      | nil => exact ss_raise0 h.xo.calm c3 (h.exc _ _ q2) tk c1 c2 c4
      | _ => cases q3
    · simp only [Bool.and_eq_true, decide_eq_true_eq] at q
      obtain ⟨⟨⟨q1, q2⟩, q3⟩, q4⟩ := q
      obtain ⟨c1, c2, c3, c4⟩ := h.cl q1
      exact ss_raise h.xo.calm c3 (h.exc _ _ q2) tk c1 c2 c4 q3 (sound_es es h.xo tk _ q4)
    · cases q
  | .try_ b hs, X, W, h, tk, hp, st, q => by
    simp only [okS] at q
    split at q
    · simp only [Bool.and_eq_true] at q
      obtain ⟨m1, m2⟩ := sound_hds h hs _ q.2
      exact ss_try h.stk h.frm h.xo.nd tk h.cf (fun W pn xe tk' hp' => sound_ss b (h.tr pn xe) tk' hp' _ q.1) m1 m2
    · cases q
  | .pass, X, W, h, tk, hp, st, q => by
    simp only [okS] at q
    split at q
    · exact ss_pass
    · cases q
  | .brk, X, W, h, tk, hp, st, q => by
    simp only [okS] at q
    split at q
    · exact ss_brk
    · cases q
  | .cont, X, W, h, tk, hp, st, q => by
    simp only [okS] at q
    split at q
    · exact ss_cont
    · cases q
  | .nev, X, W, h, tk, hp, st, q => ss_never fun _ _ => rfl
theorem sound_ss : ∀ (ss : Ss) {X : Cx} {W : WX} (h : XS G CA c k X) (tk : Takes X W) (hp : PassesOwn (model X.prog X.w) X.A X.env X.xe) (sts : List Stmt), okSs G k ss sts = true → SSs CA X W sts (evSs G.sub c ss)
  | .nil, X, W, h, tk, hp, sts, q => by
    simp only [okSs] at q
    split at q
    · exact sss_nil
    · cases q
  | .cons s ss, X, W, h, tk, hp, sts, q => by
    simp only [okSs] at q
    split at q
    · simp only [Bool.and_eq_true] at q
      exact sss_cons (sound_s s h tk hp _ q.1) (sound_ss ss h tk hp _ q.2)
    · cases q
end
end
end Eg

namespace Eg
open PySem PySem.Spec PyProof.Rows L2
/-! ### a call whose arguments hold no reference starts anew -/
section
variable {K : PySem.W.Frag} {α β : List (Addr × Bool)} {H : Hp}
mutual
theorem Rp.anew : ∀ {d : D} {v : V}, D.free d = true → Rp K α H d v → Rp K β H d v
  | _, _, _, .non => .non
  | _, _, _, .bl b => .bl b
  | _, _, _, .int i => .int i
  | _, _, _, .str s => .str s
  | _, _, f, .tup h r => .tup h (RpL.anew (by simpa [D.free] using f) r)
  | _, _, f, .ref (m := m) h => by simp [D.free] at f
  | _, _, f, .fl h r => .fl h (RpL.anew (by simpa [D.free] using f) r)
  | _, _, f, .fd h r => .fd h (RpL.anew (by simp [D.free] at f; exact f.2) r)
theorem RpL.anew : ∀ {l : List D} {vs : List V}, D.freeL l = true → RpL K α H l vs → RpL K β H l vs
  | _, _, _, .nil => .nil
  | _, _, f, .cons r t => .cons (Rp.anew (by simp [D.freeL] at f; exact f.1) r) (RpL.anew (by simp [D.freeL] at f; exact f.2) t)
end
theorem keyR_shift {d : D} {k : Nat} {y : Key} (h : keyR d y) : keyR (d.shift k) y := by
  cases d with
  | int i => exact h
  | str s => exact h
  | _ => exact h.elim
theorem keys_shift {k : Nat} : ∀ {ks : List D} {ys : List Key}, Paired keyR ks ys → Paired keyR (D.shiftL k ks) ys
  | _, _, .nil => .nil
  | _, _, .cons r t => .cons (keyR_shift r) (keys_shift t)
mutual
theorem Rp.shift : ∀ {d : D} {v : V}, Rp K β H d v → Rp K (α ++ β) H (d.shift α.length) v
  | _, _, .non => .non
  | _, _, .bl b => .bl b
  | _, _, .int i => .int i
  | _, _, .str s => .str s
  | _, _, .tup h r => .tup h (RpL.shift r)
  | _, _, .fl h r => .fl h (RpL.shift r)
  | _, _, .fd (ks := ks) h r => .fd (by
      obtain ⟨o, kvs, h1, h2, h3⟩ := h
      exact ⟨o, kvs, h1, keys_shift h2, h3⟩) (RpL.shift r)
  | _, _, .ref (m := m) (n := n) h => .ref (m := m) (by
      have : n + α.length = α.length + n := Nat.add_comm _ _
      first
        | rw [List.getElem?_append_right (by omega)]; simpa using h
        | rw [this, List.getElem?_append_right (by omega)]; simpa using h)
theorem RpL.shift : ∀ {l : List D} {vs : List V}, RpL K β H l vs → RpL K (α ++ β) H (D.shiftL α.length l) vs
  | _, _, .nil => .nil
  | _, _, .cons r t => .cons (Rp.shift r) (RpL.shift t)
end
mutual
theorem shift_nf (k : Nat) : ∀ d : D, d.free = true → d.shift k = d
  | .non, _ => rfl
  | .bl _, _ => rfl
  | .int _, _ => rfl
  | .str _, _ => rfl
  | .tup l, h => by simp only [D.shift]; rw [shift_nfL k l (by simpa [D.free] using h)]
  | .fl l, h => by simp only [D.shift]; rw [shift_nfL k l (by simpa [D.free] using h)]
  | .fd l m, h => by
    simp only [D.free, Bool.and_eq_true] at h
    simp only [D.shift]; rw [shift_nfL k l h.1, shift_nfL k m h.2]
  | .ref n, h => by simp [D.free] at h
theorem shift_nfL (k : Nat) : ∀ l : List D, D.freeL l = true → D.shiftL k l = l
  | [], _ => rfl
  | a :: l, h => by
    simp only [D.freeL, Bool.and_eq_true] at h
    simp only [D.shiftL]; rw [shift_nf k a h.1, shift_nfL k l h.2]
end
theorem shift_key {k : Nat} {d : D} (h : keyOk d = true) : d.shift k = d := shift_nf k d (nkD_free 8 d (keyOk_nk h))
theorem Paired.mapL {A B C : Type} {F : A → B → Prop} {G : C → B → Prop} {f : A → C} (g : ∀ a b, F a b → G (f a) b) : ∀ {l : List A} {k : List B}, Paired F l k → Paired G (l.map f) k
  | _, _, .nil => .nil
  | _, _, .cons r t => .cons (g _ _ r) (Paired.mapL g t)
theorem OR.shift {a : Addr} {m : Bool} {o : O} (h : OR K β H a m o) : OR K (α ++ β) H a m (O.shift α.length o) := by
  cases o with
  | lst l => obtain ⟨hm, vs, h1, h2⟩ := h; exact ⟨hm, vs, h1, h2.shift⟩
  | ro l => obtain ⟨hm, vs, h1, h2⟩ := h; exact ⟨hm, vs, h1, h2.shift⟩
  | dct kv => obtain ⟨hm, kvs, h1, h2⟩ := h; exact ⟨hm, kvs, h1, Paired.mapL (fun p q z => ⟨by rw [shift_key z.ok]; exact z.ok, by rw [shift_key z.ok]; exact z.nk, z.key.shift, let ⟨v, r, k⟩ := z.val; ⟨v, r, k.shift⟩⟩) h2⟩
  | dead => exact h
  | exc c fs => exact h.elim
variable {H' : Hp} {S S1 : Sto}
theorem ext_old (e : Ext [] H β H') : Ext α H α H' := ⟨⟨[], by simp, fun b hb => by cases hb⟩, fun a o h _ => e.keep a o h (by simp), e.tups, e.frzs, e.dom⟩
theorem str_old (hs : StR K α H S) (e : Ext [] H β H') : StR K α H' S := ⟨hs.len, hs.nd, fun n a m o h1 h2 => (hs.at_ n a m o h1 h2).ext (ext_old e) fun ho h => e.keep a ho h (by simp)⟩
theorem news_none (e : Ext [] H β H') : ∀ b ∈ β, H b.1 = none := by
  obtain ⟨γ, h1, h2⟩ := e.pre
  rw [List.nil_append] at h1
  rw [h1]; exact h2
theorem ext_both (e : Ext [] H β H') : Ext α H (α ++ β) H' := ⟨⟨β, rfl, news_none e⟩, fun a o h _ => e.keep a o h (by simp), e.tups, e.frzs, e.dom⟩
theorem str_both (hs : StR K α H S) (e : Ext [] H β H') (s1 : StR K β H' S1) : StR K (α ++ β) H' (S ++ S1.map (O.shift α.length)) := by
  have off : ∀ {n a}, α[n]? = some (a, true) → (a, true) ∉ β := fun {n a} h hm => by
    obtain ⟨o, _, ho⟩ := hs.obj h
    exact ho.tracked (news_none e _ hm)
  have old := str_old hs e
  refine ⟨by simp [hs.len, s1.len], fun i j a hi hj => ?_, fun n a m o h1 h2 => ?_⟩
  · by_cases ci : i < α.length
    · rw [List.getElem?_append_left ci] at hi
      by_cases cj : j < α.length
      · rw [List.getElem?_append_left cj] at hj
        exact hs.nd i j a hi hj
      · rw [List.getElem?_append_right (by omega)] at hj
        exact (off hi (List.mem_of_getElem? hj)).elim
    · rw [List.getElem?_append_right (by omega)] at hi
      by_cases cj : j < α.length
      · rw [List.getElem?_append_left cj] at hj
        exact (off hj (List.mem_of_getElem? hi)).elim
      · rw [List.getElem?_append_right (by omega)] at hj
        have := s1.nd _ _ a hi hj
        omega
  · by_cases c : n < α.length
    · rw [List.getElem?_append_left c] at h1
      rw [List.getElem?_append_left (by rw [← hs.len]; exact c)] at h2
      exact (old.at_ n a m o h1 h2).more
    · rw [List.getElem?_append_right (by omega)] at h1
      rw [List.getElem?_append_right (by rw [← hs.len]; omega), List.getElem?_map, ← hs.len] at h2
      cases q : S1[n - α.length]? with
      | none => rw [q] at h2; cases h2
      | some o1 =>
        rw [q] at h2
        cases h2
        exact (s1.at_ _ a m o1 h1 q).shift
theorem reloc_post {CA : Nat → Addr} {r : R D} {Q : VK} {E : XK} (hs : StR K α H S) (p : Post K CA (Rp K) α H (reloc S r) Q E) : Post K CA (Rp K) [] H r Q E := by
  cases r with
  | no => exact p
  | ok v S1 =>
    intro β H' w e s1 rv
    unfold reloc at p
    dsimp only at p
    split at p
    · rename_i f
      exact p α H' w (ext_old e) (str_old hs e) (rv.anew f)
    · rw [← hs.len] at p
      exact p (α ++ β) H' w (ext_both e) (str_both hs e s1) rv.shift
  | ex x S1 =>
    intro β H' cls d e s1 rx
    obtain ⟨x1, x2, x3⟩ := rx
    unfold reloc at p
    dsimp only at p
    split at p
    · rename_i f
      refine p α H' cls d (ext_old e) (str_old hs e) ⟨x1, x2, ?_⟩
      rcases x3 with x3 | ⟨dd, fs, h1, h2, h3⟩
      · exact .inl x3
      · refine .inr ⟨dd, fs, h1, h2, ?_⟩
        clear p h2 x1 x2
        unfold fsFree at f
        revert f h3
        generalize x.fs = l
        intro f h3
        induction h3 with
        | nil => exact .nil
        | cons r t ih =>
          simp only [List.all_cons, Bool.and_eq_true] at f
          exact .cons ⟨r.1, r.2.anew f.1⟩ (ih f.2)
    · rw [← hs.len] at p
      refine p (α ++ β) H' cls d (ext_both e) (str_both hs e s1) ⟨x1, x2, ?_⟩
      rcases x3 with ⟨x3, x4⟩ | ⟨dd, fs, h1, h2, h3⟩
      · exact .inl ⟨by rw [x3]; rfl, x4⟩
      · exact .inr ⟨dd, fs, h1, h2, Paired.mapL (fun p q z => ⟨z.1, z.2.shift⟩) h3⟩
theorem env_start {d : Df} {ds : List D} {vs : List V} {N : List PySem.Str} (hN : N.length = d.ns.length) (r : RpL K α H ds vs) : EnvR K α H (startE d ds) (L2.start N vs) := by
  have hl := r.length
  refine ⟨by unfold L2.start startE; simp [hN, hl], fun i x hx => ?_⟩
  unfold startE at hx
  by_cases c : i < ds.length
  · rw [List.getElem?_append_left (by simpa using c), List.getElem?_map] at hx
    rw [List.getElem?_eq_getElem c] at hx
    cases hx
    obtain ⟨v, h1, h2⟩ := r.get (List.getElem?_eq_getElem c)
    refine ⟨v, ?_, h2⟩
    unfold L2.start
    rw [List.getElem?_append_left (by rw [List.length_map, ← hl]; exact c), List.getElem?_map, h1]; rfl
  · rw [List.getElem?_append_right (by simpa using c), List.getElem?_replicate] at hx
    split at hx <;> cases hx
end
end Eg

namespace Eg
open PySem PySem.Spec PyProof.Rows L2
/-! ### the defs of a text -/
def noDoc : List Stmt → List Stmt
  | .Expr (.Constant (.str _) _ _) _ :: r => r
  | r => r
theorem noDoc_ok {X : Cx} {CA : Nat → Addr} {W : WX} {f : Env → Sto → RS} : ∀ {sts : List Stmt}, SSs CA X W (noDoc sts) f → SSs CA X W sts f := by
  intro sts h
  unfold noDoc at h
  split at h
  · exact sss_doc h
  · exact h
abbrev Df.N (d : Df) : List PySem.Str := d.ns.map cs
def scB (N P : List PySem.Str) (sc : Scope) : Bool :=
  (match sc.kind with | .function => true | _ => false) && !sc.isCoroutine && !sc.isGenerator && decide N.Nodup && decide (N.take P.length = P) &&
    P.all (fun x => match sc.names.lookup x with | some .local => true | some .cell => true | _ => false) && sc.names.all (fun y => match y.2 with | .free => false | _ => true)
theorem scB_ok {N P : List PySem.Str} {sc : Scope} (h : scB N P sc = true) : FnScope N P sc := by
  unfold scB at h
  simp only [Bool.and_eq_true, Bool.not_eq_true', decide_eq_true_eq, List.all_eq_true] at h
  obtain ⟨⟨⟨⟨⟨⟨h1, h2⟩, h3⟩, h4⟩, h5⟩, h6⟩, h7⟩ := h
  refine ⟨?_, h2, h3, h4, h5, fun x hx => ?_, fun y hy e => ?_⟩
  · split at h1
    · assumption
    · cases h1
  · have q := h6 x hx
    split at q
    · exact .inl (by assumption)
    · exact .inr (by assumption)
    · cases q
  · have q := h7 y hy
    rw [e] at q
    cases q
section
variable (G : Glo)
def okDf (d : Df) (st : Stmt) : Bool := scB d.N d.pn (defScope st) && decide (d.ps ≤ d.ns.length) && okSs G ⟨d.N, defScope st, fun _ => true⟩ d.body (noDoc (defBody st))
end
structure DefOk (G : Glo) (K : PySem.W.Frag) (mg : PySem.Str → Option Value) (i : Nat) (d : Df) (fa : Addr) (fd : FuncData) (st : Stmt) : Prop where
  fn : Fun K (cs d.name) (cs d.name) st fa fd
  mg : mg (cs d.name) = some (.ref fa)
  ok : okDf G d st = true
  bd : Binds K fd d.pn []
  b0 : ∀ (s : Shared) (us : List Value), us.length = d.pn.length → BindsTo s fd ⟨us, []⟩ (d.pn.zip us)
  kw : ∀ perm ks, (i, perm, ks) ∈ G.kws → KwOk fd d.pn perm ks
/-- an own exception class -/
structure ExK (P : Program) (w : World) (K : PySem.W.Frag) (mg : PySem.Str → Option Value) (base : Heap) (C : Addr) (fs : List (List Nat)) : Prop where
  oex : OexC K C
  one : fs.length ≤ 1
  fld : ∀ f ∈ fs, PySem.W.findIn K (.ref C) (cs f) = some none
  ini : ∃ (fI : Addr) (fd : FuncData) (ps : List PySem.Str), PySem.W.findIn K (.ref C) "__init__" = some (some (.ref fI)) ∧ PySem.W.typeIn K (.ref fI) = some (.type "function") ∧
    FnOk P w K mg base (CX P w) 1 fI fd ps (spInit K fs) ∧ Binds K fd ps []
/-- what the top has written -/
structure Top (P : Program) (w : World) (K : PySem.W.Frag) (mg : PySem.Str → Option Value) (base : Heap) (G : Glo) (CA : Nat → Addr) : Prop where
  defs : ∀ i d, G.T[i]? = some d → ∃ fa fd st, DefOk G K mg i d fa fd st
  blt : ∀ x ∈ bltAll, mg x = none
  con : ∀ p ∈ G.cons, ∃ u v, mg (cs p.1) = some u ∧ RelV v u ∧ ∀ α H, Rp K α H p.2 v
  clsm : ∀ i nm, G.cls[i]? = some nm → mg (cs nm) = some (.ref (CA i)) ∧ CA i ≠ 0
  cf : ClsF K CA G.sub G.flds
  exc : ∀ i fs, (i, fs) ∈ G.exs → ExK P w K mg base (CA i) fs
section
variable {P : Program} {w : World} {K : PySem.W.Frag} {mg : PySem.Str → Option Value} {base : Heap} {G : Glo} {CA : Nat → Addr}
theorem pn_len {d : Df} (h : d.ps ≤ d.ns.length) : d.pn.length = d.ps := by
  unfold Df.pn
  rw [List.length_map, List.length_take]
  omega
/-- the context of a body -/
theorem xs_of (t : Top P w K mg base G CA) {n : Nat} (ih : ∀ i d fa fd st, G.T[i]? = some d → DefOk G K mg i d fa fd st → FnOk P w K mg base (CX P w) (n + 3) fa fd d.pn (spF K CA (run G.sub G.T n) i)) {d : Df} {st : Stmt} (hok : okDf G d st = true)
    {f : Addr} {cdv : Value} {qual : PySem.Str} {A : Around} {outer : List PySem.Env} {s : Shared} {H : Hp} {E : XK} (hr : Room (n + 3) (A.deeper (envOfC qual (defScope st) s.heap.objs.size f cdv))) :
    XS G CA (run G.sub G.T n) ⟨d.N, defScope st, fun _ => true⟩ (cxOf (CX P w) P w K mg base d.N qual (defScope st) f cdv A outer s H E) := by
  unfold okDf at hok
  simp only [Bool.and_eq_true, decide_eq_true_eq] at hok
  have S := scB_ok hok.1.1
  refine ⟨⟨rfl, S.nd, rfl, rfl, ?_, fun _ _ => rfl, t.blt, t.con, fun i e he => ?_⟩, rfl, rfl, S.kind, t.clsm, t.cf, fun i fs hm => ?_⟩
  · have := hr.un
    show (A.deeper (envOfC qual (defScope st) s.heap.objs.size f cdv)).units + 65 < cLine
    omega
  · obtain ⟨fa, fd, st', D⟩ := t.defs i e he
    exact ⟨⟨fa, fd, n + 3, D.mg, D.fn.kp, ih i e fa fd st' he D, hr, D.bd, D.kw⟩⟩
  · have E1 := t.exc i fs hm
    obtain ⟨fI, fd, ps, i1, i2, i3, i4⟩ := E1.ini
    exact ⟨E1.oex, E1.one, E1.fld, fI, 1, fd, ps, i1, i2, i3, hr.mono (by omega), i4⟩
theorem runB_post {c : Cl} {d : Df} {ds : List D} {S : Sto} {α : List (Addr × Bool)} {H : Hp} {Q : VK} {E : XK} (p : Post K CA (Rp K) α H (runB G.sub c d ds S) Q E) :
    PostS K CA α H (evSs G.sub c d.body (startE d ds) S) { nx := fun _ H' => Q .non H', rt := Q } (fun cls dd _ H' => E cls dd H') := by
  unfold runB at p
  revert p
  generalize evSs G.sub c d.body (startE d ds) S = r
  intro p
  cases r with
  | nx ρ S1 => exact fun α' H' σ e s _ => p α' H' .non e s .non
  | rt v S1 => exact p
  | ex x ρ S1 => exact fun α' H' σ cls dd e s _ rx => p α' H' cls dd e s rx
  | bk ρ S1 => exact p.elim
  | ct ρ S1 => exact p.elim
  | no => exact p
theorem run_len {n i : Nat} {ds : List D} {S : Sto} {d : Df} {α : List (Addr × Bool)} {H : Hp} {Q : VK} {E : XK} (hd : G.T[i]? = some d) (p : Post K CA (Rp K) α H (run G.sub G.T n i ds S) Q E) : ds.length = d.ps := by
  cases n with
  | zero => exact p.elim
  | succ n =>
    simp only [run, hd] at p
    split at p
    · assumption
    · exact p.elim
/-- each def keeps what the engine tells of it, calls n deep -/
theorem fn_level (t : Top P w K mg base G CA) : ∀ (n i : Nat) (d : Df) (fa : Addr) (fd : FuncData) (st : Stmt), G.T[i]? = some d → DefOk G K mg i d fa fd st → FnOk P w K mg base (CX P w) (n + 3) fa fd d.pn (spF K CA (run G.sub G.T n) i)
  | 0, i, d, fa, fd, st, hd, D => ⟨fun vs H Q E ⟨α, S, ds, _, _, p⟩ => p.elim, fun A outer s H args us vs Q E _ _ _ _ ⟨α, S, ds, _, _, p⟩ => p.elim⟩
  | n + 1, i, d, fa, fd, st, hd, D => by
    have ih := fn_level t n
    have hok := id D.ok
    unfold okDf at hok
    simp only [Bool.and_eq_true, decide_eq_true_eq] at hok
    have S0 := scB_ok hok.1.1
    have hN : d.N.length = d.ns.length := by unfold Df.N; rw [List.length_map]
    refine D.fn.okX S0 (fun vs H Q E ⟨α, S, ds, hs, hl, p⟩ => ?_) fun cdv A outer s H vs Q E hr ⟨α, S, ds, hs, hl, p⟩ => ?_
    · rw [pn_len hok.1.2, ← hl.length]
      exact run_len hd p
    · have xs := xs_of t ih D.ok (f := fa) (cdv := cdv) (qual := cs d.name) (A := A) (outer := outer) (s := s) (H := H) (E := E) hr
      have tk : Takes (cxOf (CX P w) P w K mg base d.N (cs d.name) (defScope st) fa cdv A outer s H E) (fun cls dd _ H' => E cls dd H') := takes_of rfl rfl rfl rfl
      have body := noDoc_ok (sound_ss (c := run G.sub G.T n) d.body xs tk (passes_of rfl) _ hok.2)
      refine ⟨_, body, ?_⟩
      have hlen := run_len hd p
      simp only [run, hd, hlen, if_true] at p
      split at p
      · rename_i hf
        exact ⟨startE d ds, [], [], env_start hN (RpL.anew hf hl), ⟨rfl, fun i j a h => by simp at h, fun n a m o h => by simp at h⟩, runB_post (reloc_post hs p)⟩
      · exact ⟨startE d ds, S, α, env_start hN hl, hs, runB_post p⟩
end
end Eg

namespace Eg
open PySem PySem.Spec PyProof.Rows L2
/-! ### __init__ of an own exception class -/
/-- B.__init__ is ValueError's: B an own class over ValueError without its own -/
structure BaseF (K : PySem.W.Frag) (B : Addr) : Prop where
  rd : PySem.W.readsIn K B (.type "type") = true
  ga : PySem.W.specialIn K (.ref B) "__getattribute__" = some (some (.builtin "type.__getattribute__"))
  fc : PySem.W.findCls K (.ref B) (.type "type") "__init__" = some (.val (.builtin "ValueError.__init__"))
section
variable {X : Cx} {ta : TA} {p1 p2 p3 p4 pos : Pos} {B : Addr} {x m : PySem.Str} {j : Nat}
theorem gl_of {sc : Scope} (h : X.env.scope = sc) (e : glB sc x = true) : Gl X x := by
  subst h
  unfold glB at e
  have z : X.env.scope.names.lookup x = some .globalImplicit := of_decide_eq_true e
  exact z
theorem eval_mc {env : PySem.Env} {o : Expr} {nm : PySem.Str} {ap cp : Pos} {args : List Expr} (hl : (ap.endLine == cp.line) = true) (hb : attributeBase o nm env (eval o env) = eval o env) (hf : methodCallForm (args.length + ([] : List Keyword).length) (backTo cp (starEach args env)) (backToKw cp (keywordEach [] env)) = true) :
    eval (.Call (.Attribute o nm ap) args [] cp) env = (do
      let ov ← eval o env
      standAt ap.atName
      let (f, first) ← holding [ov] (getMethod ov nm (do return (← importBound o env).getD true))
      callWith cp f first (backTo cp (starEach args env)) (backToKw cp (keywordEach [] env))) := by
  have hp : methodCallPos true o env ap cp = pure cp := by unfold methodCallPos; simp [hl]
  rw [arm_eval_Call, hb]
  unfold methodCall calleeOf
  rw [hf, hp]
  rfl
theorem pe_binit (hline : (p2.endLine == pos.line) = true) (hg : Gl X "LookError") (hm : X.mg "LookError" = some (.ref B)) (F : BaseF X.K B) (ha : PA X [.Name x p3, .Constant (.str m) j p4] ta) :
    PE X (.Call (.Attribute (.Name "LookError" p1) "__init__" p2) [.Name x p3, .Constant (.str m) j p4] [] pos) (tVeI X.K ta) := by
  refine ⟨fun pins s σ H Q I h => ?_⟩
  refine PySem.W.methodCall_KW (ld_glob I hg hm (PySem.W.method_cls I.kIn F.ga (PySem.W.cls_value I.kIn F.rd F.fc (by decide +kernel) ?_)) (by decide +kernel)) (eval_mc hline rfl rfl)
  show wpAny _ _ (callWith pos (Value.builtin "ValueError.__init__") [] (backTo pos (starEach [.Name x p3, .Constant (.str m) j p4] X.env)) []) _ _ _
  refine PyProof.Rows.callWith_method1 (thn (ha.run pos pins _ σ H _ (I.tok _) h) fun us s1 ⟨vs, H1, I1, r1, a, C, ws, ev, hl, T, ea, q⟩ => ?_) rfl rfl
  subst ev
  match us, r1 with
  | _ :: ur, .cons ra rr =>
    cases ra
    refine oinit_ok T I1 ea (by have := rr.length; rw [sizeLine_eq]; omega) fun s' J => ⟨.non, H1, J, rfl, q⟩
end
def varI (sc : Scope) (x : PySem.Str) : Bool := visB sc x && nmB x
/-- the text of such an __init__ -/
def okIni (ps : List PySem.Str) (fs : List (List Nat)) (sc : Scope) : List Stmt → Bool
  | [.Expr (.Call (.Attribute (.Name l _) i ap) [.Name s _, .Constant (.str _) _ _] [] cp) _] => (ap.endLine == cp.line) && decide (ps = [s]) && decide (fs = []) && decide (l = ("LookError" : PySem.Str)) && decide (i = ("__init__" : PySem.Str)) && glB sc l && varI sc s
  | [.Expr (.Call (.Attribute (.Name l _) i ap) [.Name s _, .Constant (.str _) _ _] [] cp) _, .Assign [.Attribute (.Name s2 _) f _] (.Name g _) _] =>
    (ap.endLine == cp.line) && decide (ps = [s, g]) && decide (fs.map cs = [f]) && decide (l = ("LookError" : PySem.Str)) && decide (i = ("__init__" : PySem.Str)) && glB sc l && varI sc s && decide (s2 = s) && varI sc g
  | _ => false
theorem vis_of {sc : Scope} {x : PySem.Str} (e : visB sc x = true) : Vis sc x := by
  unfold visB at e
  split at e
  · exact .inl (by assumption)
  · exact .inr (.inl (by assumption))
  · exact .inr (.inr (by assumption))
  · cases e
theorem init_ok {P : Program} {w : World} {K : PySem.W.Frag} {mg : PySem.Str → Option Value} {base : Heap} {B : Addr} {fs : List (List Nat)} {ps : List PySem.Str} {qual : PySem.Str} {st : Stmt} {f : Addr} {fd : FuncData} (F : BaseF K B) (hm : mg "LookError" = some (.ref B)) (U : Fun K "__init__" qual st f fd)
    (hs : scB ps ps (defScope st) = true) (hok : okIni ps fs (defScope st) (defBody st) = true) : FnOk P w K mg base (CX P w) 1 f fd ps (spInit K fs) := by
  have S0 := scB_ok hs
  have plen : ps.length = fs.length + 1 := by
    unfold okIni at hok
    split at hok
    · simp only [Bool.and_eq_true, decide_eq_true_eq] at hok
      obtain ⟨⟨⟨⟨⟨⟨_, h1⟩, h2⟩, _⟩, _⟩, _⟩, _⟩ := hok
      rw [h1, h2]; rfl
    · simp only [Bool.and_eq_true, decide_eq_true_eq] at hok
      obtain ⟨⟨⟨⟨⟨⟨⟨⟨_, h1⟩, h2⟩, _⟩, _⟩, _⟩, _⟩, _⟩, _⟩ := hok
      have := congrArg List.length h2
      rw [List.length_map] at this
      rw [h1, this]; rfl
    · cases hok
  refine U.okX S0 (fun vs H Q E ⟨a, C, ys, ev, hl, _⟩ => by rw [ev, plen]; exact congrArg Nat.succ hl) fun cdv A outer s H vs Q E hr ⟨a, C, ys, ev, hl, T, hfl, ha, q⟩ => ?_
  subst ev
  have hm' : (cxOf (CX P w) P w K mg base ps qual (defScope st) f cdv A outer s H E).mg "LookError" = some (.ref B) := hm
  revert hok
  generalize defBody st = bd
  intro hok
  unfold okIni at hok
  split at hok
  · rename_i l lp i ip sn sp m j mp cp ep hb
    simp only [Bool.and_eq_true, decide_eq_true_eq, varI] at hok
    obtain ⟨⟨⟨⟨⟨⟨h0, h1⟩, h2⟩, h3⟩, h4⟩, h5⟩, h6, h7⟩ := hok
    subst h1 h2 h3 h4
    obtain ⟨d1, d2⟩ := nm_of h7
    match ys, hl, q with
    | [], _, q =>
      refine ⟨_, pss_one (ps_expr (pe_binit h0 (gl_of rfl h5) hm' F (pa_cons (pe_var (i := 0) rfl (vis_of h6) d1 d2) (pa_cons pe_str pa_nil)))), ?_⟩
      exact ⟨_, rfl, a, C, _, rfl, Nat.succ_le_succ (Nat.zero_le _), T, ha, q⟩
  · rename_i l lp i ip sn sp m j mp cp ep s2 s2p f2 f2p g gp ap hb
    simp only [Bool.and_eq_true, decide_eq_true_eq, varI] at hok
    obtain ⟨⟨⟨⟨⟨⟨⟨⟨h0, h1⟩, h2⟩, h3⟩, h4⟩, h5⟩, h6, h7⟩, h8⟩, h9, h10⟩ := hok
    subst h1 h3 h4 h8
    obtain ⟨d1, d2⟩ := nm_of h7
    obtain ⟨d3, d4⟩ := nm_of h10
    match fs, ys, hl, h2, q, hfl with
    | [f0], [y], _, h2, q, hfl =>
      simp only [List.map_cons, List.map_nil, List.cons.injEq, and_true] at h2
      subst h2
      refine ⟨_, pss_cons (ps_expr (pe_binit h0 (gl_of rfl h5) hm' F (pa_cons (pe_var (i := 0) rfl (vis_of h6) d1 d2) (pa_cons pe_str pa_nil)))) (pss_one (ps_ost (pe_var (i := 0) rfl (vis_of h6) d1 d2) (pe_var (i := 1) rfl (vis_of h9) d3 d4))), ?_⟩
      refine ⟨_, rfl, a, C, _, rfl, Nat.succ_le_succ (Nat.zero_le _), T, ha, ?_⟩
      exact ⟨_, rfl, _, rfl, a, C, rfl, T, hfl f0 (by simp), .inl ⟨ha, q⟩⟩
  · cases hok
/-! ### the law -/
theorem law_end {l : PySem.W.OpenLaw} {q : Program} {loose : List PySem.Str} {XP : (PySem.Str → Option Value) → Heap → Prop} {YP : World → Heap → Prop} {dr : DefRec} {Kf : Params → PySem.W.Frag} {G : Glo} {i n : Nat} {d : Df} (CA : Params → Nat → Addr)
    (hn : l.most = some 63) (hdf : dr.params.defaults = []) (hr : Room (n + 3) callerA) (hY : ∀ (w : World) (h : Heap), YP w h → (Kf w.params).In h) (hd : G.T[i]? = some d) (hnm : cs d.name = dr.name) (hpn : d.pn = [("script" : PySem.Str)])
    (F : ∀ (w : World) (mg : PySem.Str → Option Value) (h : Heap), (Kf w.params).In h → h.Ns mainGlobals mg → (∃ fa fd st, DefOk G (Kf w.params) mg i d fa fd st ∧ ∀ (s : Shared) (u : Value), BindsTo s fd ⟨[u], []⟩ [(("script" : PySem.Str), u)]) ∧ ∀ base : Heap, (Kf w.params).In base → base.Ns mainGlobals mg → Top l.prog w (Kf w.params) mg base G (CA w.params))
    (law : ∀ ns : List Int, ns.length ≤ 63 → ∃ S, run G.sub G.T n i [.ref 0] [.ro (ns.map .int)] = .ok (.bl true) S) :
    PySem.W.WalkO q loose XP YP l.row.toRowW dr [] (fun f vs => PySem.call f vs) := by
  refine L2.walk_of (n := 63) (k := n + 3) (x := "script") (CX := fun w => CX l.prog w) (sp := fun w => spF (Kf w.params) (CA w.params) (run G.sub G.T n) i) hn (by decide) hdf hr hY (fun w mg fa h KX NX hmg => ?_) (fun w H a ns hl hO hS => ?_) fun w H s e s' z => ?_
  · obtain ⟨⟨fa', fd, st, D, hb⟩, tops⟩ := F w mg h KX NX
    have e : fa' = fa := by
      have h1 := D.mg
      rw [hnm, hmg] at h1
      cases h1; rfl
    subst e
    refine ⟨fd, hb, fun base KB NB => ?_⟩
    rw [← hpn]
    exact fn_level (tops base KB NB) n i d _ fd st hd D
  · obtain ⟨S', law⟩ := law ns hl
    have lst : ∀ ns : List Int, RpL (Kf w.params) [(a, false)] H (ns.map D.int) (ns.map V.int) := fun ns => by
      induction ns with
      | nil => exact .nil
      | cons z zs ih => exact .cons (.int z) ih
    refine ⟨[(a, false)], [.ro (ns.map .int)], [.ref 0], ⟨rfl, fun i j b h => ?_, fun m b k o h1 h2 => ?_⟩, .cons (.ref (m := false) rfl) .nil, ?_⟩
    · match i, h with
      | 0, h => simp at h
      | j + 1, h => simp at h
    · match m, h1, h2 with
      | 0, h1, h2 =>
        cases h1
        cases h2
        refine ⟨rfl, ns.map V.int, ?_, lst ns⟩
        rcases hS with (hS | ⟨o, hS⟩) | hS
        · rcases hO a with h | ⟨o, xs, h⟩
          · rw [h] at hS; cases hS
          · rw [h] at hS; cases hS
        · exact .inl ⟨o, hS⟩
        · exact .inr hS
      | m + 1, h1, h2 => simp at h1
    · rw [law]
      intro α' H' v e s r
      cases r; rfl
  · obtain ⟨_, _, _, _, _, _, _, _, _, _, _, _, z⟩ := z
    exact z
end Eg

namespace Eg
open PySem PySem.Spec PyProof.Rows L2
/-! ### what the top has written, read off its text by computing -/
def adr (K : PySem.W.Frag) (x : PySem.Str) : Addr := match PySem.W.nsIn K mainGlobals x with
  | some (some (.ref a)) => a
  | _ => 0
def adrB (K : PySem.W.Frag) (x : PySem.Str) : Bool := match PySem.W.nsIn K mainGlobals x with
  | some (some (.ref a)) => decide (a ≠ 0)
  | _ => false
theorem adr_ok {K : PySem.W.Frag} {x : PySem.Str} (h : adrB K x = true) : PySem.W.nsIn K mainGlobals x = some (some (.ref (adr K x))) ∧ adr K x ≠ 0 := by
  unfold adrB at h
  unfold adr
  split at h
  · rename_i a e
    rw [e]
    exact ⟨rfl, of_decide_eq_true h⟩
  · cases h
def fdAt (K : PySem.W.Frag) (a : Addr) : FuncData := match K.lookup a with
  | some ⟨_, _, .func fd, _⟩ => fd
  | _ => default
/-- the record of a def as its text wants it -/
def fnShape (x q : PySem.Str) (st : Stmt) : Option Obj → Option Obj
  | some ⟨oc, od, .func fd, osl⟩ => some ⟨oc, od, .func (PySem.W.fnOf x q (defArgs st) (defBody st) (defScope st) .none fd.kwdefaults fd.doc fd.pyModule fd.annotations fd.code fd.closureTuple), osl⟩
  | _ => none
def fnB (K : PySem.W.Frag) (a : Addr) (q : PySem.Str) : Bool := (K.lookup a).isSome && PySem.W.codeIn K (fdAt K a).code q && PySem.W.keepIn K (.ref a)
theorem fn_at {K : PySem.W.Frag} {a : Addr} {x q : PySem.Str} {st : Stmt} (h : fnB K a q = true) (e : K.lookup a = fnShape x q st (K.lookup a)) : ∃ (kV doc pm : Value) (an : Option Addr) (cdv ct : Value), Fun K x q st a (PySem.W.fnOf x q (defArgs st) (defBody st) (defScope st) .none kV doc pm an cdv ct) := by
  simp only [fnB, Bool.and_eq_true] at h
  obtain ⟨⟨h1, h2⟩, h3⟩ := h
  unfold fdAt at h2
  obtain ⟨o, ho⟩ := Option.isSome_iff_exists.mp h1
  rw [ho] at e h2
  obtain ⟨oc, od, dt, osl⟩ := o
  cases dt <;> first
    | (rename_i fd
       simp only [fnShape, Option.some.injEq] at e
       rw [e] at ho
       exact ⟨_, _, _, _, _, _, fun_mk ho h2 h3⟩)
    | (simp [fnShape] at e)
def defB (K : PySem.W.Frag) (d : Df) : Bool := adrB K (cs d.name) && fnB K (adr K (cs d.name)) (cs d.name)
inductive Defs (G : Glo) (K : PySem.W.Frag) (mg : PySem.Str → Option Value) : Nat → List Df → Prop
  | nil {i : Nat} : Defs G K mg i []
  | cons {i : Nat} {d : Df} {l : List Df} (h : ∃ fa fd st, DefOk G K mg i d fa fd st) (t : Defs G K mg (i + 1) l) : Defs G K mg i (d :: l)
theorem Defs.get {G : Glo} {K : PySem.W.Frag} {mg : PySem.Str → Option Value} : ∀ {i : Nat} {l : List Df}, Defs G K mg i l → ∀ j d, l[j]? = some d → ∃ fa fd st, DefOk G K mg (i + j) d fa fd st
  | _, _, .nil, _, _, h => by simp at h
  | _, _, .cons h _, 0, d, e => by
    simp only [List.getElem?_cons_zero, Option.some.injEq] at e
    subst e
    exact h
  | i, _, .cons _ t, j + 1, d, e => by
    have := t.get j d (by simpa using e)
    rwa [show i + 1 + j = i + (j + 1) from by omega] at this
def BindOk (d : Df) (st : Stmt) : Prop := ∀ (kV doc pm : Value) (an : Option Addr) (cdv ct : Value) (us : List Value), us.length = d.pn.length → bindArgs (PySem.W.fnOf (cs d.name) (cs d.name) (defArgs st) (defBody st) (defScope st) .none kV doc pm an cdv ct) ⟨us, []⟩ = pure (d.pn.zip us)
def KwsOk (G : Glo) (i : Nat) (d : Df) (st : Stmt) : Prop := ∀ q ∈ G.kws, q.1 = i → (∀ j ∈ q.2.1, j < q.2.2.length) ∧ ∀ (kV doc pm : Value) (an : Option Addr) (cdv ct : Value) (ws : List Value), ws.length = q.2.2.length →
  bindArgs (PySem.W.fnOf (cs d.name) (cs d.name) (defArgs st) (defBody st) (defScope st) .none kV doc pm an cdv ct) ⟨[], (q.2.2.map cs).zip ws⟩ = pure (d.pn.zip (q.2.1.filterMap fun i => ws[i]?))
theorem def_of {G : Glo} {K : PySem.W.Frag} {mg : PySem.Str → Option Value} {h : Heap} {i : Nat} {d : Df} {st : Stmt} (KX : K.In h) (NX : h.Ns mainGlobals mg) (hok : okDf G d st = true) (hb : BindOk d st) (hk : KwsOk G i d st) (hB : defB K d = true) (hL : K.lookup (adr K (cs d.name)) = fnShape (cs d.name) (cs d.name) st (K.lookup (adr K (cs d.name)))) :
    ∃ fa fd st, DefOk G K mg i d fa fd st := by
  simp only [defB, Bool.and_eq_true] at hB
  obtain ⟨a1, a2⟩ := adr_ok hB.1
  obtain ⟨kV, doc, pm, an, cdv, ct, F⟩ := fn_at hB.2 hL
  refine ⟨_, _, st, F, PySem.W.mg_of KX NX a1, hok, F.binds hb, fun s us hl => .of_eq (hb kV doc pm an cdv ct us hl), fun perm ks hm => ?_⟩
  obtain ⟨k1, k2⟩ := hk (i, perm, ks) hm rfl
  exact ⟨fun s ws hl => .of_eq (k2 kV doc pm an cdv ct ws hl), k1⟩
/-! constants -/
mutual
def conV (K : PySem.W.Frag) : D → Value → Bool
  | .non, .none => true
  | .bl b, .bool c => b == c
  | .int i, .int j _ => decide (i = j)
  | .str s, .str x _ => decide (x = cs s)
  | .tup l, .ref a => match K.lookup a with
    | some ⟨.type "tuple", _, .seq its _, _⟩ => decide (its.size ≤ 1000) && conL K l its.toList
    | _ => false
  | _, _ => false
def conL (K : PySem.W.Frag) : List D → List Value → Bool
  | [], [] => true
  | d :: l, v :: r => conV K d v && conL K l r
  | _, _ => false
end
mutual
theorem conV_ok {K : PySem.W.Frag} : ∀ {d : D} {u : Value}, conV K d u = true → ∃ v, RelV v u ∧ ∀ α H, Rp K α H d v
  | .non, u, h => by
    cases u <;> simp [conV] at h
    exact ⟨.non, rfl, fun _ _ => .non⟩
  | .bl b, u, h => by
    cases u <;> simp [conV] at h
    subst h
    exact ⟨.bl b, rfl, fun _ _ => .bl b⟩
  | .int i, u, h => by
    cases u <;> simp [conV] at h
    subst h
    exact ⟨.int i, ⟨_, rfl⟩, fun _ _ => .int i⟩
  | .str s, u, h => by
    cases u <;> simp [conV] at h
    subst h
    exact ⟨.str (cs s), ⟨_, rfl⟩, fun _ _ => .str s⟩
  | .tup l, u, h => by
    cases u with
    | ref a =>
      simp only [conV] at h
      split at h
      · rename_i od its n sl e
        simp only [Bool.and_eq_true, decide_eq_true_eq] at h
        obtain ⟨vs, h1, h2⟩ := conL_ok h.2
        exact ⟨.ref a, rfl, fun α H => .tup (.inr ⟨_, its, n, e, rfl, rfl, by rw [sizeLine_eq]; omega, h1⟩) (h2 α H)⟩
      · cases h
    | _ => simp [conV] at h
  | .ref n, u, h => by cases u <;> simp [conV] at h
theorem conL_ok {K : PySem.W.Frag} : ∀ {l : List D} {us : List Value}, conL K l us = true → ∃ vs, Vals vs us ∧ ∀ α H, RpL K α H l vs
  | [], [], _ => ⟨[], .nil, fun _ _ => .nil⟩
  | [], _ :: _, h => by simp [conL] at h
  | _ :: _, [], h => by simp [conL] at h
  | d :: l, u :: us, h => by
    simp only [conL, Bool.and_eq_true] at h
    obtain ⟨v, h1, h2⟩ := conV_ok h.1
    obtain ⟨vs, h3, h4⟩ := conL_ok h.2
    exact ⟨v :: vs, .cons h1 h3, fun α H => .cons (h2 α H) (h4 α H)⟩
end
def conB (K : PySem.W.Frag) (p : List Nat × D) : Bool := match PySem.W.nsIn K mainGlobals (cs p.1) with
  | some (some u) => conV K p.2 u
  | _ => false
def bltB (K : PySem.W.Frag) (x : PySem.Str) : Bool := match PySem.W.nsIn K mainGlobals x with
  | some none => true
  | _ => false
/-! classes -/
def exShape (C : Addr) : Option Obj → Option Obj
  | some ⟨_, dd, .cls cd, sl⟩ => some (excClassObj cd.name cd.qualname C cd.ns cd.bases (cd.mro.drop 1) true cd.slotNames cd.subclasses cd.abstract cd.collection dd (sl.getD 0 none) (sl.getD 1 none) (sl.getD 2 none) (sl.getD 3 none) (sl.getD 5 none) "ValueError.__new__")
  | _ => none
def mroAt (K : PySem.W.Frag) (C : Addr) : List Value := match K.lookup C with
  | some ⟨_, _, .cls cd, _⟩ => cd.mro.drop 1
  | _ => []
def isV (x : Option (Option Value)) (v : Value) : Bool := decide (x = some (some v))
/-- class C, its fields to read -/
def clsFB (K : PySem.W.Frag) (C : Addr) (flds : List (List Nat)) : Bool :=
  isV (PySem.W.findIn K (.ref C) "__getattribute__") (.builtin "BaseException.__getattribute__") && decide (PySem.W.findIn K (.ref C) "__getattr__" = some none) && decide (PySem.W.subIn K (.ref C) (.type "BaseException") = some true) && PySem.W.hasDictIn K C &&
    isV (PySem.W.findIn K (.ref C) "__class__") (.builtin "object.__class__") && decide (PySem.W.mroIn K C (.type "object") = some true) && decide (PySem.W.typeIn K (.ref C) = some (.type "type")) &&
    flds.all fun f => decide (PySem.W.findIn K (.ref C) (cs f) = some none)
def clsGB (K : PySem.W.Frag) : Bool := isV (PySem.W.specialIn K (.builtin "object.__class__") "__get__") (.builtin "getset_descriptor.__get__") && decide (PySem.W.takesIn K (.builtin "object.__class__") = some true)
def subB (K : PySem.W.Frag) (sub : Nat → Nat → Bool) (l : List Addr) : Bool := (List.range l.length).all fun i => (List.range l.length).all fun j => decide (PySem.W.subIn K (.ref (l.getD i 0)) (.ref (l.getD j 0)) = some (sub i j)) && (!decide (l.getD i 0 = l.getD j 0) || sub i j)
theorem clsF_of {K : PySem.W.Frag} {sub : Nat → Nat → Bool} {flds : List (List Nat)} {l : List Addr} (h1 : (l.all fun C => clsFB K C flds) = true) (h2 : clsGB K = true) (h3 : subB K sub l = true) : ClsF K (fun i => l.getD i 0) sub flds := by
  have known : ∀ i, l.getD i 0 ≠ 0 → i < l.length ∧ l.getD i 0 ∈ l := fun i h => by
    by_cases c : i < l.length
    · refine ⟨c, ?_⟩
      rw [List.getD_eq_getElem?_getD, List.getElem?_eq_getElem c]
      exact List.getElem_mem c
    · rw [List.getD_eq_getElem?_getD, List.getElem?_eq_none (by omega)] at h
      exact absurd rfl h
  have one : ∀ C ∈ l, clsFB K C flds = true := List.all_eq_true.mp h1
  have two : ∀ i j, l.getD i 0 ≠ 0 → l.getD j 0 ≠ 0 → PySem.W.subIn K (.ref (l.getD i 0)) (.ref (l.getD j 0)) = some (sub i j) ∧ (l.getD i 0 = l.getD j 0 → sub i j = true) := fun i j hi hj => by
    have a := List.all_eq_true.mp (List.all_eq_true.mp h3 i (List.mem_range.mpr (known i hi).1)) j (List.mem_range.mpr (known j hj).1)
    simp only [Bool.and_eq_true, decide_eq_true_eq, Bool.or_eq_true, Bool.not_eq_true', decide_eq_false_iff_not] at a
    exact ⟨a.1, fun e => a.2.resolve_left fun z => z e⟩
  simp only [clsFB, isV, Bool.and_eq_true, decide_eq_true_eq, List.all_eq_true] at one
  simp only [clsGB, isV, Bool.and_eq_true, decide_eq_true_eq] at h2
  have cls1 : ∀ i, l.getD i 0 ≠ 0 → (PySem.W.clsIn K (l.getD i 0)).isSome = true := fun i hi => by
    obtain ⟨⟨⟨⟨⟨⟨⟨_, _⟩, _⟩, b4⟩, _⟩, _⟩, _⟩, _⟩ := one _ (known i hi).2
    obtain ⟨cd, hcd, _⟩ := PySem.W.any_some b4
    rw [hcd]; rfl
  refine ⟨fun i j hi hj => ?_, fun i j hi hj => ?_, fun i hi => ?_, fun i hi => ?_, fun i f hi hf => ?_⟩
  · obtain ⟨⟨⟨⟨⟨⟨⟨b1, b2⟩, b3⟩, b4⟩, b5⟩, b6⟩, b7⟩, b8⟩ := one _ (known j hj).2
    exact PySem.W.exm_ref b3 b4 b7 (two i j hi hj).1
  · obtain ⟨⟨⟨⟨⟨⟨⟨b1, b2⟩, b3⟩, b4⟩, b5⟩, b6⟩, b7⟩, b8⟩ := one _ (known j hj).2
    unfold PySem.W.kitOne
    split
    · rename_i e
      rw [(two i j hi hj).2 (Value.ref.inj (beq_iff_eq.mp e))]
    · unfold PySem.W.kitCls
      dsimp only
      rw [if_pos (by rw [cls1 j hj, b7]; rfl)]
      exact (two i j hi hj).1
  · obtain ⟨⟨⟨⟨⟨⟨⟨b1, b2⟩, b3⟩, b4⟩, b5⟩, b6⟩, b7⟩, b8⟩ := one _ (known i hi).2
    exact ⟨b1, b2, b3, b4⟩
  · obtain ⟨⟨⟨⟨⟨⟨⟨b1, b2⟩, b3⟩, b4⟩, b5⟩, b6⟩, b7⟩, b8⟩ := one _ (known i hi).2
    exact ⟨b1, b2, b3, b4, b5, h2.1, h2.2, b6⟩
  · obtain ⟨⟨⟨⟨⟨⟨⟨b1, b2⟩, b3⟩, b4⟩, b5⟩, b6⟩, b7⟩, b8⟩ := one _ (known i hi).2
    exact b8 f hf
def iniAt (K : PySem.W.Frag) (C : Addr) : Addr := match PySem.W.findIn K (.ref C) "__init__" with
  | some (some (.ref a)) => a
  | _ => 0
/-- a class that is raised: its fields fs, the whole name of its __init__ -/
def exB (K : PySem.W.Frag) (C : Addr) (fs : List (List Nat)) (q : PySem.Str) : Bool :=
  (K.lookup C).isSome && PySem.HandSPX.refsVE (mroAt K C) && isV (PySem.W.findIn K (.ref C) "__setattr__") (.builtin "object.__setattr__") && decide (PySem.W.subIn K (.ref C) (.type "BaseException") = some true) && decide (PySem.W.typeIn K (.ref C) = some (.type "type")) && PySem.W.keepIn K (.ref C) &&
    isV (PySem.W.findIn K (.ref C) "__init__") (.ref (iniAt K C)) && decide (PySem.W.typeIn K (.ref (iniAt K C)) = some (.type "function")) && fnB K (iniAt K C) q && decide (fs.length ≤ 1) && fs.all fun f => decide (PySem.W.findIn K (.ref C) (cs f) = some none)
def baseB (K : PySem.W.Frag) (B : Addr) : Bool := PySem.W.readsIn K B (.type "type") && isV (PySem.W.specialIn K (.ref B) "__getattribute__") (.builtin "type.__getattribute__") && (match PySem.W.findCls K (.ref B) (.type "type") "__init__" with
  | some (.val v) => decide (v = .builtin "ValueError.__init__")
  | _ => false)
theorem baseF_of {K : PySem.W.Frag} {B : Addr} (h : baseB K B = true) : BaseF K B := by
  simp only [baseB, isV, Bool.and_eq_true, decide_eq_true_eq] at h
  obtain ⟨⟨h1, h2⟩, h3⟩ := h
  refine ⟨h1, h2, ?_⟩
  split at h3
  · rename_i v e
    rw [e, of_decide_eq_true h3]
  · cases h3
theorem exK_of {P : Program} {w : World} {K : PySem.W.Frag} {mg : PySem.Str → Option Value} {base : Heap} {B C : Addr} {fs : List (List Nat)} {q : PySem.Str} {ps : List PySem.Str} {st : Stmt} (F : BaseF K B) (hm : mg "LookError" = some (.ref B)) (hB : exB K C fs q = true) (hC : K.lookup C = exShape C (K.lookup C))
    (hI : K.lookup (iniAt K C) = fnShape "__init__" q st (K.lookup (iniAt K C))) (hs : scB ps ps (defScope st) = true) (hok : okIni ps fs (defScope st) (defBody st) = true)
    (hb : ∀ (kV doc pm : Value) (an : Option Addr) (cdv ct : Value) (us : List Value), us.length = ps.length → bindArgs (PySem.W.fnOf "__init__" q (defArgs st) (defBody st) (defScope st) .none kV doc pm an cdv ct) ⟨us, []⟩ = pure (ps.zip us)) : ExK P w K mg base C fs := by
  simp only [exB, isV, Bool.and_eq_true, decide_eq_true_eq, List.all_eq_true] at hB
  obtain ⟨⟨⟨⟨⟨⟨⟨⟨⟨⟨b1, b2⟩, b3⟩, b4⟩, b5⟩, b6⟩, b7⟩, b8⟩, b9⟩, b10⟩, b11⟩ := hB
  obtain ⟨kV, doc, pm, an, cdv, ct, U⟩ := fn_at b9 hI
  refine ⟨⟨?_, b3, b4, b5, b6⟩, b10, b11, _, _, ps, b7, b8, init_ok F hm U hs hok, U.binds hb⟩
  obtain ⟨o, ho⟩ := Option.isSome_iff_exists.mp b1
  unfold mroAt at b2
  rw [ho] at hC b2
  obtain ⟨oc, od, dt, osl⟩ := o
  cases dt <;> first
    | exact ⟨_, _, _, _, _, _, _, _, _, _, _, _, _, _, _, ho.trans hC, b2⟩
    | (simp [exShape] at hC)
/-! ### all of it -/
structure Read (G : Glo) (K : PySem.W.Frag) (l : List Addr) : Prop where
  blt : (bltAll.all fun x => bltB K x) = true
  con : (G.cons.all fun p => conB K p) = true
  cl0 : l = G.cls.map fun c => adr K (cs c)
  cl1 : (G.cls.all fun c => adrB K (cs c)) = true
  cl2 : (l.all fun C => clsFB K C G.flds) = true
  cl3 : clsGB K = true
  cl4 : subB K G.sub l = true
theorem bltB_ok {K : PySem.W.Frag} {mg : PySem.Str → Option Value} {h : Heap} {x : PySem.Str} (KX : K.In h) (NX : h.Ns mainGlobals mg) (e : bltB K x = true) : mg x = none := by
  unfold bltB at e
  split at e
  · rename_i q
    exact PySem.W.mg_none_of KX NX q
  · cases e
theorem top_of {P : Program} {w : World} {K : PySem.W.Frag} {mg : PySem.Str → Option Value} {base h : Heap} {G : Glo} {l : List Addr} (KX : K.In h) (NX : h.Ns mainGlobals mg) (R : Read G K l) (D : Defs G K mg 0 G.T) (E : ∀ i fs, (i, fs) ∈ G.exs → ExK P w K mg base (l.getD i 0) fs) : Top P w K mg base G (fun i => l.getD i 0) := by
  refine ⟨fun i d hd => ?_, fun x hx => bltB_ok KX NX (List.all_eq_true.mp R.blt x hx), fun p hp => ?_, fun i nm hn => ?_, clsF_of R.cl2 R.cl3 R.cl4, E⟩
  · have := D.get i d hd
    rwa [Nat.zero_add] at this
  · have e := List.all_eq_true.mp R.con p hp
    unfold conB at e
    split at e
    · rename_i u hu
      obtain ⟨v, h1, h2⟩ := conV_ok e
      exact ⟨u, v, PySem.W.mg_of KX NX hu, h1, h2⟩
    · cases e
  · have e : l.getD i 0 = adr K (cs nm) := by
      rw [R.cl0, List.getD_eq_getElem?_getD, List.getElem?_map, hn]; rfl
    have a := adr_ok (List.all_eq_true.mp R.cl1 nm (List.mem_of_getElem? hn))
    show mg (cs nm) = some (.ref (l.getD i 0)) ∧ l.getD i 0 ≠ 0
    rw [e]
    exact ⟨PySem.W.mg_of KX NX a.1, a.2⟩
def spLaw (K : PySem.W.Frag) : Sp := fun vs H Q _ => ∃ (a : Addr) (ns : List Int), vs = [.ref a] ∧ ns.length ≤ 63 ∧ Only H ∧ SqL K H a (ns.map V.int) ∧ ∀ H', Q (.bl true) H'
theorem law_ok {P : Program} {w : World} {K : PySem.W.Frag} {mg : PySem.Str → Option Value} {fa : Addr} {h : Heap} {G : Glo} {l : List Addr} {i n : Nat} {d : Df} (KX : K.In h) (NX : h.Ns mainGlobals mg) (hmg : mg "law" = some (.ref fa)) (R : Read G K l) (Ds : Defs G K mg 0 G.T)
    (E : ∀ base : Heap, ∀ p ∈ G.exs, ExK P w K mg base (l.getD p.1 0) p.2) (hd : G.T[i]? = some d) (hnm : cs d.name = ("law" : PySem.Str)) (hpn : d.pn = [("script" : PySem.Str)]) (law : ∀ ns : List Int, ns.length ≤ 63 → ∃ S, run G.sub G.T n i [.ref 0] [.ro (ns.map .int)] = .ok (.bl true) S) :
    ∃ fd : FuncData, (∀ (s : Shared) (u : Value), BindsTo s fd ⟨[u], []⟩ [(("script" : PySem.Str), u)]) ∧ ∀ base : Heap, K.In base → base.Ns mainGlobals mg → FnOk P w K mg base (CX P w) (n + 3) fa fd [("script" : PySem.Str)] (spLaw K) := by
  obtain ⟨fa', fd, st, O⟩ := Ds.get i d hd
  rw [Nat.zero_add] at O
  have e : fa' = fa := by
    have h1 := O.mg
    rw [hnm, hmg] at h1
    cases h1; rfl
  subst e
  refine ⟨fd, fun s u => ?_, fun base KB NB => ?_⟩
  · have := O.b0 s [u] (by rw [hpn]; rfl)
    rw [hpn] at this
    exact this
  · have F := fn_level (top_of (P := P) (w := w) (base := base) KX NX R Ds fun i fs hm => E base (i, fs) hm) n i d _ fd st hd O
    rw [hpn] at F
    refine F.imp fun vs H Q E2 ⟨a, ns, ev, hl, hO, hS, q⟩ => ?_
    subst ev
    obtain ⟨S', law⟩ := law ns hl
    have lst : ∀ ns : List Int, RpL K [(a, false)] H (ns.map D.int) (ns.map V.int) := fun ns => by
      induction ns with
      | nil => exact .nil
      | cons z zs ih => exact .cons (.int z) ih
    refine ⟨[(a, false)], [.ro (ns.map .int)], [.ref 0], ⟨rfl, fun i j b h => ?_, fun m b k o h1 h2 => ?_⟩, .cons (.ref (m := false) rfl) .nil, ?_⟩
    · match i, h with
      | 0, h => simp at h
      | j + 1, h => simp at h
    · match m, h1, h2 with
      | 0, h1, h2 =>
        cases h1
        cases h2
        refine ⟨rfl, ns.map V.int, ?_, lst ns⟩
        rcases hS with (hS | ⟨o, hS⟩) | hS
        · rcases hO a with h | ⟨o, xs, h⟩
          · rw [h] at hS; cases hS
          · rw [h] at hS; cases hS
        · exact .inl ⟨o, hS⟩
        · exact .inr hS
      | m + 1, h1, h2 => simp at h1
    · rw [law]
      intro α' H' v e s r
      cases r; exact q H'
theorem law_walk {l : PySem.W.OpenLaw} {n : Nat} {q : Program} {loose : List PySem.Str} {XP : (PySem.Str → Option Value) → Heap → Prop} {YP : World → Heap → Prop} {dr : DefRec} {Kf : Params → PySem.W.Frag} (hn : l.most = some 63) (hdf : dr.params.defaults = []) (hr : Room (n + 3) callerA)
    (hY : ∀ (w : World) (h : Heap), YP w h → (Kf w.params).In h)
    (F : ∀ (w : World) (mg : PySem.Str → Option Value) (fa : Addr) (h : Heap), (Kf w.params).In h → h.Ns mainGlobals mg → mg dr.name = some (.ref fa) → ∃ fd : FuncData, (∀ (s : Shared) (u : Value), BindsTo s fd ⟨[u], []⟩ [(("script" : PySem.Str), u)]) ∧
      ∀ base : Heap, (Kf w.params).In base → base.Ns mainGlobals mg → FnOk l.prog w (Kf w.params) mg base (CX l.prog w) (n + 3) fa fd [("script" : PySem.Str)] (spLaw (Kf w.params))) : PySem.W.WalkO q loose XP YP l.row.toRowW dr [] (fun f vs => PySem.call f vs) :=
  L2.walk_of (n := 63) (k := n + 3) (x := "script") (CX := fun w => CX l.prog w) (sp := fun w => spLaw (Kf w.params)) hn (by decide) hdf hr hY F (fun w H a ns hl hO hS => ⟨a, ns, rfl, hl, hO, hS, fun _ => rfl⟩) fun w H s e s' z => by
    obtain ⟨_, _, _, _, _, _, _, _, _, _, _, _, z⟩ := z
    exact z
end Eg

namespace Eg
/-! ### plain rules for the evaluator -/
theorem wfuel_big {m : Nat} (h : m ≤ 1000000000) : m < wfuel := by unfold wfuel; omega
theorem while_run {t : Env → Sto → R Bool} {body : Env → Sto → RS} (Inv : Nat → Env → Sto → Prop) (Post : Env → Sto → Prop)
    (step : ∀ m ρ S, Inv m ρ S → (∃ S1, t ρ S = .ok false S1 ∧ Post ρ S1) ∨ (∃ S1 ρ2 S2 m', t ρ S = .ok true S1 ∧ body ρ S1 = .nx ρ2 S2 ∧ m' < m ∧ Inv m' ρ2 S2)) :
    ∀ (w m : Nat) (ρ : Env) (S : Sto), m < w → Inv m ρ S → ∃ ρ' S', whileN t body w ρ S = .nx ρ' S' ∧ Post ρ' S'
  | 0, m, ρ, S, h, _ => absurd h (Nat.not_lt_zero _)
  | w + 1, m, ρ, S, h, i => by
    rcases step m ρ S i with ⟨S1, e, p⟩ | ⟨S1, ρ2, S2, m', e1, e2, hm, i2⟩
    · exact ⟨ρ, S1, by simp [whileN, e, R.st], p⟩
    · obtain ⟨ρ', S', e3, p⟩ := while_run Inv Post step w m' ρ2 S2 (by omega) i2
      exact ⟨ρ', S', by simp [whileN, e1, e2, R.st, e3], p⟩
/-- turns of Euclid's loop -/
def eucM (a b : Nat) : Nat := if b = 0 then 0 else if b ≤ a then Nat.log2 (a * b) + 1 else Nat.log2 (a * b) + 2
theorem log2_le_of_le {x y : Nat} (h : x ≤ y) : Nat.log2 x ≤ Nat.log2 y := by
  by_cases hx : x = 0
  · subst hx; simp
  · have hy : y ≠ 0 := by omega
    exact (Nat.le_log2 hy).mpr (Nat.le_trans (Nat.log2_self_le hx) h)
theorem eucM_step {a b : Nat} (hb : b ≠ 0) : eucM b (a % b) < eucM a b := by
  have hr : a % b < b := Nat.mod_lt _ (by omega)
  by_cases h0 : a % b = 0
  · unfold eucM
    rw [if_pos h0, if_neg hb]
    split <;> omega
  · have e1 : eucM b (a % b) = Nat.log2 (b * (a % b)) + 1 := by unfold eucM; rw [if_neg h0, if_pos (by omega)]
    rw [e1]
    by_cases c : b ≤ a
    · have e2 : eucM a b = Nat.log2 (a * b) + 1 := by unfold eucM; rw [if_neg hb, if_pos c]
      rw [e2]
      have h1 : a % b + b ≤ a := by
        have := Nat.div_add_mod a b
        have h2 : 1 ≤ a / b := (Nat.one_le_div_iff (by omega)).mpr c
        have h3 : b * 1 ≤ b * (a / b) := Nat.mul_le_mul_left b h2
        omega
      have h2 : 2 * (b * (a % b)) ≤ a * b := by
        have : 2 * (a % b) ≤ a := by omega
        calc 2 * (b * (a % b)) = (2 * (a % b)) * b := by rw [Nat.mul_comm b, ← Nat.mul_assoc]
          _ ≤ a * b := Nat.mul_le_mul_right b this
      have h3 : b * (a % b) ≠ 0 := Nat.mul_ne_zero hb h0
      have h4 : Nat.log2 (2 * (b * (a % b))) = Nat.log2 (b * (a % b)) + 1 := by
        exact Nat.log2_two_mul h3
      have := log2_le_of_le h2
      omega
    · have e2 : eucM a b = Nat.log2 (a * b) + 2 := by unfold eucM; rw [if_neg hb, if_neg c]
      rw [e2, Nat.mod_eq_of_lt (by omega), Nat.mul_comm b a]
      omega
theorem eucM_le {a b : Nat} : eucM a b ≤ Nat.log2 (a * b) + 2 := by
  unfold eucM
  split
  · omega
  · split <;> omega
theorem log2_lt_of {x k : Nat} (h : x < 2 ^ k) (hk : 0 < k) : Nat.log2 x < k := by
  by_cases hx : x = 0
  · subst hx; simpa using hk
  · exact (Nat.log2_lt hx).mpr h
theorem fmod_nat (a b : Nat) : (a : Int).fmod (b : Int) = ((a % b : Nat) : Int) := by
  rw [Int.fmod_eq_emod_of_nonneg _ (Int.natCast_nonneg b)]; norm_cast
theorem gcd_step (a b : Nat) : Nat.gcd b (a % b) = Nat.gcd a b := by
  rw [Nat.gcd_comm a b, Nat.gcd_comm b (a % b), ← Nat.gcd_rec]
section
variable {sub : Nat → Nat → Bool} {c : Cl} {ρ : Env} {S : Sto}
@[simp] theorem tru_ok (d : D) : tru (.ok d S) = .of S (truD S d) := id rfl
@[simp] theorem tru_ex (x : Ex) : tru (.ex x S) = .ex x S := id rfl
@[simp] theorem evE_lit (d : D) : evE sub c (.lit d) ρ S = .ok d S := id rfl
@[simp] theorem evE_con (x : List Nat) (d : D) : evE sub c (.con x d) ρ S = .ok d S := id rfl
@[simp] theorem evE_var (i : Nat) : evE sub c (.var i) ρ S = match ρ[i]? with
    | some (some d) => .ok d S
    | _ => .no := id rfl
@[simp] theorem evE_bin (o : BOp) (a b : E) : evE sub c (.bin o a b) ρ S = (evE sub c a ρ S).bind fun x S1 => (evE sub c b ρ S1).bind fun y S2 => binD o x y S2 := id rfl
@[simp] theorem evE_neg (a : E) : evE sub c (.neg a) ρ S = (evE sub c a ρ S).bind fun x S1 => match x with
    | .int i => .ok (.int (-i)) S1
    | _ => .no := id rfl
@[simp] theorem evE_cmp (o : COp) (a b : E) : evE sub c (.cmp o a b) ρ S = (evE sub c a ρ S).bind fun x S1 => (evE sub c b ρ S1).bind fun y S2 => ofB S2 (cmpO o x y S2) := id rfl
@[simp] theorem evE_cmp2 (o p : COp) (a b d : E) : evE sub c (.cmp2 o p a b d) ρ S = (evE sub c a ρ S).bind fun x S1 => (evE sub c b ρ S1).bind fun y S2 => match cmpO o x y S2 with
    | some true => (evE sub c d ρ S2).bind fun z S3 => ofB S3 (cmpO p y z S3)
    | some false => .ok (.bl false) S2
    | none => .no := id rfl
@[simp] theorem evE_and (a b : E) : evE sub c (.and a b) ρ S = (evE sub c a ρ S).bind fun x S1 => match truD S1 x with
    | some true => evE sub c b ρ S1
    | some false => .ok x S1
    | none => .no := id rfl
@[simp] theorem evE_or (a b : E) : evE sub c (.or a b) ρ S = (evE sub c a ρ S).bind fun x S1 => match truD S1 x with
    | some true => .ok x S1
    | some false => evE sub c b ρ S1
    | none => .no := id rfl
@[simp] theorem evE_not (a : E) : evE sub c (.not a) ρ S = (evE sub c a ρ S).bind fun x S1 => ofB S1 (notB (truD S1 x)) := id rfl
@[simp] theorem evE_ite (t a b : E) : evE sub c (.ite t a b) ρ S = (evE sub c t ρ S).bind fun x S1 => match truD S1 x with
    | some true => evE sub c a ρ S1
    | some false => evE sub c b ρ S1
    | none => .no := id rfl
@[simp] theorem evE_tup (es : Es) : evE sub c (.tup es) ρ S = (evEs sub c es ρ S).bind fun l S1 => if l.length ≤ line then .ok (.tup l) S1 else .no := id rfl
@[simp] theorem evE_lst (es : Es) : evE sub c (.lst es) ρ S = (evEs sub c es ρ S).bind fun l S1 => if l.length ≤ line then .ok (.ref S1.length) (S1 ++ [.lst l]) else .no := id rfl
@[simp] theorem evE_dct0 : evE sub c .dct0 ρ S = .ok (.ref S.length) (S ++ [.dct []]) := id rfl
@[simp] theorem evE_idx (a i : E) : evE sub c (.idx a i) ρ S = (evE sub c a ρ S).bind fun x S1 => (evE sub c i ρ S1).bind fun y S2 => idxD x y S2 := id rfl
@[simp] theorem evE_idxl (es : Es) (i : E) : evE sub c (.idxl es i) ρ S = (evEs sub c es ρ S).bind fun l S1 => if l.length ≤ line then (evE sub c i ρ S1).bind fun y S2 => idxL l y S2 else .no := id rfl
@[simp] theorem evE_slc (a : E) (lo hi : Option E) : evE sub c (.slc a lo hi) ρ S = (evE sub c a ρ S).bind fun x S1 => (evO sub c lo ρ S1).bind fun l S2 => (evO sub c hi ρ S2).bind fun h S3 => slcD x l h S3 := id rfl
@[simp] theorem evE_call (f : Nat) (es : Es) : evE sub c (.call f es) ρ S = (evEs sub c es ρ S).bind fun l S1 => c f l S1 := id rfl
@[simp] theorem evE_callk (f : Nat) (perm : List Nat) (ks : List (List Nat)) (es : Es) : evE sub c (.callk f perm ks es) ρ S = (evEs sub c es ρ S).bind fun l S1 => c f (perm.filterMap fun i => l[i]?) S1 := id rfl
@[simp] theorem evE_bi (b : Bi) (es : Es) : evE sub c (.bi b es) ρ S = (evEs sub c es ρ S).bind fun l S1 => biD b l S1 := id rfl
@[simp] theorem evE_isi (a : E) (ts : List Ty) : evE sub c (.isi a ts) ρ S = (evE sub c a ρ S).bind fun x S1 => match kind S1 x with
    | some k => .ok (.bl (ts.any (isK sub k))) S1
    | none => .no := id rfl
theorem evE_comp (q : C) : evE sub c (.comp q) ρ S = (evC sub c q ρ S).bind fun l S1 => .ok (.ref S1.length) (S1 ++ [.lst l]) := rfl
theorem evE_bic (b : Bi) (q : C) : evE sub c (.bic b q) ρ S = (evC sub c q ρ S).bind fun l S1 => bil b l S1 := rfl
theorem evE_nilc (neg : Bool) (q : C) : evE sub c (.nilc neg q) ρ S = (evC sub c q ρ S).bind fun l S1 => if l.all (plain 40 S1) then .ok (.bl (if neg then !l.isEmpty else l.isEmpty)) S1 else .no := rfl
@[simp] theorem evE_inl (neg : Bool) (a : E) (es : Es) : evE sub c (.inl neg a es) ρ S = (evE sub c a ρ S).bind fun x S1 => (evEs sub c es ρ S1).bind fun l S2 => if l.length ≤ line then ofB S2 (if neg then notB (inD S2 x l) else inD S2 x l) else .no := id rfl
@[simp] theorem evE_app (a b : E) : evE sub c (.app a b) ρ S = (evE sub c a ρ S).bind fun x S1 => match x with
    | .ref n => match lstOf S1 n with
      | some _ => (evE sub c b ρ S1).bind fun v S2 => meD .append (.ref n) [v] S2
      | none => .no
    | _ => .no := id rfl
@[simp] theorem evO_none : evO sub c none ρ S = .ok none S := id rfl
@[simp] theorem evO_some (e : E) : evO sub c (some e) ρ S = (evE sub c e ρ S).bind fun x S1 => match x with
    | .int i => .ok (some i) S1
    | _ => .no := id rfl
@[simp] theorem evEs_nil : evEs sub c .nil ρ S = .ok [] S := id rfl
@[simp] theorem evEs_cons (e : E) (es : Es) : evEs sub c (.cons e es) ρ S = (evE sub c e ρ S).bind fun x S1 => (evEs sub c es ρ S1).bind fun l S2 => .ok (x :: l) S2 := id rfl
@[simp] theorem evEs_star (e : E) (es : Es) : evEs sub c (.star e es) ρ S = (evE sub c e ρ S).bind fun x S1 => match starL S1 x with
    | some k => (evEs sub c es ρ S1).bind fun l S2 => .ok (k ++ l) S2
    | none => .no := id rfl
@[simp] theorem evT_none : evT sub c none ρ S = .ok true S := id rfl
@[simp] theorem evT_some (e : E) : evT sub c (some e) ρ S = tru (evE sub c e ρ S) := id rfl
@[simp] theorem evI_val (e : E) : evI sub c (.val e) ρ S = (evE sub c e ρ S).bind fun x S1 => .of S1 (srcD S1 x) := id rfl
@[simp] theorem evI_valv (i : Nat) : evI sub c (.valv i) ρ S = match ρ[i]? with
    | some (some d) => if isD0 S d then .ok ([], none) S else .of S (srcD S d)
    | _ => .no := id rfl
@[simp] theorem evI_lst (es : Es) : evI sub c (.lst es) ρ S = (evEs sub c es ρ S).bind fun l S1 => if l.length ≤ line then .ok (l, none) S1 else .no := id rfl
@[simp] theorem evI_rng1 (a : E) : evI sub c (.rng1 a) ρ S = (evE sub c a ρ S).bind fun x S1 => match x with
    | .int n => .of S1 (rngD 0 n)
    | _ => .no := id rfl
@[simp] theorem evI_rng2 (a b : E) : evI sub c (.rng2 a b) ρ S = (evE sub c a ρ S).bind fun x S1 => (evE sub c b ρ S1).bind fun y S2 => match x, y with
    | .int m, .int n => .of S2 (rngD m n)
    | _, _ => .no := id rfl
@[simp] theorem evI_rng3 (a b d : E) : evI sub c (.rng3 a b d) ρ S = (evE sub c a ρ S).bind fun x S1 => (evE sub c b ρ S1).bind fun y S2 => (evE sub c d ρ S2).bind fun z S3 => match x, y, z with
    | .int m, .int n, .int k => if k = -1 then .of S3 (rngM m n) else .no
    | _, _, _ => .no := id rfl
/-- the turns of a comprehension, of a for, of a while: folded -/
def compB (sub : Nat → Nat → Bool) (c : Cl) (own : List Nat) (e : E) (tg : Tg) (t : Option E) (ρ : Env) (g : Option (Nat × O)) (l acc : List D) (S : Sto) : R (List D) := compL (fun x S => bindT S tg x (wipeE ρ own)) (fun ρ S => evT sub c t ρ S) (fun ρ S => evE sub c e ρ S) g l acc S
def forB (sub : Nat → Nat → Bool) (c : Cl) (tg : Tg) (b : Ss) (g : Option (Nat × O)) (l : List D) (ρ : Env) (S : Sto) : RS := forL (fun x ρ S => bindT S tg x ρ) (fun ρ S => evSs sub c b ρ S) g l ρ S
theorem evC_mk (own : List Nat) (e : E) (tg : Tg) (it : I) (t : Option E) : evC sub c (.mk own e tg it t) ρ S = (evI sub c it ρ S).bind fun p S1 => if p.1.length ≤ line then compB sub c own e tg t ρ p.2 p.1 [] S1 else .no := rfl
theorem evC_dk (own : List Nat) (e : E) (tg : Tg) (i : Nat) (t : Option E) : evC sub c (.dk own e tg i t) ρ S = match ρ[i]? with
    | some (some (.ref n)) => match S[n]? with
      | some (.dct kv) => if kv.length ≤ line then (compB sub c own e tg t ρ none (kv.map (·.1)) [] (S.set n .dead)).bind fun l S2 =>
          if S2[n]? = some .dead then .ok l (S2.set n (.dct kv)) else .no
        else .no
      | _ => .no
    | _ => .no := rfl
theorem compB_nil {own : List Nat} {e : E} {tg : Tg} {t : Option E} {g : Option (Nat × O)} {acc : List D} : compB sub c own e tg t ρ g [] acc S = .ok acc S := rfl
theorem compB_cons {own : List Nat} {e : E} {tg : Tg} {t : Option E} {g : Option (Nat × O)} {acc l : List D} {x : D} : compB sub c own e tg t ρ g (x :: l) acc S = match bindT S tg x (wipeE ρ own) with
    | none => .no
    | some ρ1 => match evT sub c t ρ1 S with
      | .ok true S1 => match evE sub c e ρ1 S1 with
        | .ok d S2 => if gOk g S2 then compB sub c own e tg t ρ g l (acc ++ [d]) S2 else .no
        | _ => .no
      | .ok false S1 => if gOk g S1 then compB sub c own e tg t ρ g l acc S1 else .no
      | _ => .no := rfl
theorem evS_fr (tg : Tg) (it : I) (b : Ss) : evS sub c (.fr tg it b) ρ S = (evI sub c it ρ S).st ρ fun p S1 => forB sub c tg b p.2 p.1 ρ S1 := rfl
theorem forB_nil {tg : Tg} {b : Ss} {g : Option (Nat × O)} : forB sub c tg b g [] ρ S = .nx ρ S := rfl
theorem forB_cons {tg : Tg} {b : Ss} {g : Option (Nat × O)} {x : D} {l : List D} : forB sub c tg b g (x :: l) ρ S = match bindT S tg x ρ with
    | none => .no
    | some ρ1 => match evSs sub c b ρ1 S with
      | .nx ρ2 S2 => if gOk g S2 then forB sub c tg b g l ρ2 S2 else .no
      | .ct ρ2 S2 => if gOk g S2 then forB sub c tg b g l ρ2 S2 else .no
      | .bk ρ2 S2 => .nx ρ2 S2
      | .rt d S2 => .rt d S2
      | .ex x ρ2 S2 => .ex x ρ2 S2
      | .no => .no := rfl
theorem evS_whl (t : E) (b : Ss) : evS sub c (.whl t b) ρ S = whileN (fun ρ S => tru (evE sub c t ρ S)) (fun ρ S => evSs sub c b ρ S) wfuel ρ S := rfl
@[simp] theorem evS_asg (i : Nat) (e : E) : evS sub c (.asg i e) ρ S = (evE sub c e ρ S).st ρ fun d S1 => .nx (setE ρ i d) S1 := id rfl
@[simp] theorem evS_asgT (ts : List Tg) (e : E) : evS sub c (.asgT ts e) ρ S = (evE sub c e ρ S).st ρ fun d S1 => match bindT S1 (.tp ts) d ρ with
    | some ρ' => .nx ρ' S1
    | none => .no := id rfl
@[simp] theorem evS_par (is : List Nat) (es : Es) : evS sub c (.par is es) ρ S = (evEs sub c es ρ S).st ρ fun l S1 => if l.length = is.length then .nx (setAll ρ is l) S1 else .no := id rfl
@[simp] theorem evS_aug (i : Nat) (o : BOp) (e : E) : evS sub c (.aug i o e) ρ S = match ρ[i]? with
    | some (some x) => (evE sub c e ρ S).st ρ fun y S1 => match o, x, y with
      | .add, .int a, .int b => .nx (setE ρ i (.int (a + b))) S1
      | .sub, .int a, .int b => .nx (setE ρ i (.int (a - b))) S1
      | _, _, _ => .no
    | _ => .no := id rfl
@[simp] theorem evS_setI (a i e : E) : evS sub c (.setI a i e) ρ S = (evE sub c e ρ S).st ρ fun v S1 => (evE sub c a ρ S1).st ρ fun x S2 => (evE sub c i ρ S2).st ρ fun k S3 => match x, k with
    | .ref n, .int k => match S3[n]? with
      | some (.lst l) => match ixN l.length k with
        | some j => .nx ρ (S3.set n (.lst (l.set j v)))
        | none => .no
      | _ => .no
    | .ref n, k => match S3[n]? with
      | some (.dct kv) => if keyOk k && decide (kv.length < line) then .nx ρ (S3.set n (.dct (dctPut kv k v))) else .no
      | _ => .no
    | _, _ => .no := id rfl
@[simp] theorem evS_expr (e : E) : evS sub c (.expr e) ρ S = (evE sub c e ρ S).st ρ fun _ S1 => .nx ρ S1 := id rfl
@[simp] theorem evS_ret (e : E) : evS sub c (.ret e) ρ S = (evE sub c e ρ S).st ρ fun d S1 => .rt d S1 := id rfl
@[simp] theorem evS_retN : evS sub c .retN ρ S = .rt .non S := id rfl
@[simp] theorem evS_ife (t : E) (a b : Ss) : evS sub c (.ife t a b) ρ S = (tru (evE sub c t ρ S)).st ρ fun k S1 => if k then evSs sub c a ρ S1 else evSs sub c b ρ S1 := id rfl
@[simp] theorem evS_rais (k : Nat) (fs : List (List Nat)) (es : Es) : evS sub c (.rais k fs es) ρ S = (evEs sub c es ρ S).st ρ fun l S1 => if l.length = fs.length then .ex ⟨k, fs.zip l⟩ ρ S1 else .no := id rfl
@[simp] theorem evS_try (b : Ss) (hs : List Hd) : evS sub c (.try_ b hs) ρ S = match evSs sub c b ρ S with
    | .ex x ρ1 S1 => hdl sub x ρ1 S1 hs
    | r => r := id rfl
@[simp] theorem evS_pass : evS sub c .pass ρ S = .nx ρ S := id rfl
@[simp] theorem evS_brk : evS sub c .brk ρ S = .bk ρ S := id rfl
@[simp] theorem evS_cont : evS sub c .cont ρ S = .ct ρ S := id rfl
@[simp] theorem evSs_nil : evSs sub c .nil ρ S = .nx ρ S := id rfl
@[simp] theorem evSs_cons (s : Sm) (ss : Ss) : evSs sub c (.cons s ss) ρ S = (evS sub c s ρ S).then fun ρ' S' => evSs sub c ss ρ' S' := id rfl
/-- the end of a def -/
def endB : RS → R D
  | .rt v S' => .ok v S'
  | .nx _ S' => .ok .non S'
  | .ex x _ S' => .ex x S'
  | _ => .no
theorem runB_eq (d : Df) (ds : List D) : runB sub c d ds S = endB (evSs sub c d.body (startE d ds) S) := by unfold runB endB; rfl
@[simp] theorem endB_rt (v : D) : endB (.rt v S) = .ok v S := id rfl
@[simp] theorem endB_nx : endB (.nx ρ S) = .ok .non S := id rfl
@[simp] theorem endB_ex (x : Ex) : endB (.ex x ρ S) = .ex x S := id rfl
@[simp] theorem reloc_int (i : Int) (S1 : Sto) : reloc S (.ok (.int i) S1) = .ok (.int i) S := id rfl
@[simp] theorem reloc_bl (i : Bool) (S1 : Sto) : reloc S (.ok (.bl i) S1) = .ok (.bl i) S := id rfl
@[simp] theorem reloc_non (S1 : Sto) : reloc S (.ok .non S1) = .ok .non S := id rfl
@[simp] theorem reloc_str (s : List Nat) (S1 : Sto) : reloc S (.ok (.str s) S1) = .ok (.str s) S := id rfl
theorem reloc_free (v : D) (S1 : Sto) (h : v.free = true) : reloc S (.ok v S1) = .ok v S := by unfold reloc; simp [h]
theorem reloc_exf (x : Ex) (S1 : Sto) (h : fsFree x.fs = true) : reloc S (.ex x S1) = .ex x S := by unfold reloc; simp [h]
end
/-! numbers -/
theorem bAbs_eq (i : Int) (S : Sto) : biD .abs [.int i] S = .ok (.int (i.natAbs : Int)) S := by
  show R.ok (D.int (if i < 0 then -i else i)) S = _
  congr 2
  split <;> omega
@[simp] theorem bInt_eq (i : Int) (S : Sto) : biD .int [.int i] S = .ok (.int i) S := id rfl
@[simp] theorem kind_int (i : Int) (S : Sto) : kind S (.int i) = some .int := id rfl
@[simp] theorem kind_bl (i : Bool) (S : Sto) : kind S (.bl i) = some .bool := id rfl
@[simp] theorem kind_tup (l : List D) (S : Sto) : kind S (.tup l) = some .tuple := id rfl
@[simp] theorem kind_str (l : List Nat) (S : Sto) : kind S (.str l) = some .str := id rfl
@[simp] theorem kind_non (S : Sto) : kind S .non = some .non := id rfl
@[simp] theorem add_int (a b : Int) (S : Sto) : binD .add (.int a) (.int b) S = .ok (.int (a + b)) S := id rfl
@[simp] theorem sub_int (a b : Int) (S : Sto) : binD .sub (.int a) (.int b) S = .ok (.int (a - b)) S := id rfl
@[simp] theorem cmp_gt (a b : Int) (S : Sto) : cmpO .gt (.int a) (.int b) S = some (decide (b < a)) := id rfl
@[simp] theorem cmp_lt (a b : Int) (S : Sto) : cmpO .lt (.int a) (.int b) S = some (decide (a < b)) := id rfl
@[simp] theorem cmp_ge (a b : Int) (S : Sto) : cmpO .ge (.int a) (.int b) S = some (!decide (a < b)) := id rfl
@[simp] theorem cmp_le (a b : Int) (S : Sto) : cmpO .le (.int a) (.int b) S = some (!decide (b < a)) := id rfl
@[simp] theorem cmp_eq (a b : Int) (S : Sto) : cmpO .eq (.int a) (.int b) S = some (decide (a = b)) := id rfl
@[simp] theorem cmp_ne (a b : Int) (S : Sto) : cmpO .ne (.int a) (.int b) S = some (!decide (a = b)) := id rfl
@[simp] theorem cmp_eqs (a b : List Nat) (S : Sto) : cmpO .eq (.str a) (.str b) S = some (decide (a = b)) := id rfl
@[simp] theorem cmp_nes (a b : List Nat) (S : Sto) : cmpO .ne (.str a) (.str b) S = some (!decide (a = b)) := id rfl
@[simp] theorem cmp_eqb (a b : Bool) (S : Sto) : cmpO .eq (.bl a) (.bl b) S = some (decide (a = b)) := id rfl
@[simp] theorem cmp_neb (a b : Bool) (S : Sto) : cmpO .ne (.bl a) (.bl b) S = some (!decide (a = b)) := id rfl
@[simp] theorem tru_bl (b : Bool) (S : Sto) : truD S (.bl b) = some b := id rfl
@[simp] theorem tru_int (i : Int) (S : Sto) : truD S (.int i) = some (decide (i ≠ 0)) := id rfl
theorem fdiv_ok {a g : Int} (S : Sto) (h : 0 < g) (h2 : g.natAbs < 2 ^ 8999) : binD .fdiv (.int a) (.int g) S = .ok (.int (a / g)) S := by
  show (if decide (g ≠ 0) && decide (g.natAbs < 1073741824) then R.ok (D.int (a.fdiv g)) S else if decide (0 < g) && decide (g.natAbs.log2 < 9000) then .ok (.int (a / g)) S else .no) = _
  have hne : g ≠ 0 := by omega
  have hl : g.natAbs.log2 < 9000 := Nat.lt_trans (log2_lt_of h2 (by omega)) (by omega)
  by_cases c : g.natAbs < 1073741824
  · rw [Int.fdiv_eq_ediv_of_nonneg _ (Int.le_of_lt h)]
    simp [hne, c]
  · simp [hne, c, h, hl]
theorem mod_ok {a g : Int} (S : Sto) (h : 0 < g) : binD .mod (.int a) (.int g) S = .ok (.int (a % g)) S := by
  show (if g ≠ 0 then R.ok (D.int (a.fmod g)) S else .no) = _
  rw [if_pos (by omega), Int.fmod_eq_emod_of_nonneg _ (Int.le_of_lt h)]
theorem mul_ok {a b : Int} (S : Sto) (h1 : a.natAbs < 2 ^ 5000) (h2 : b.natAbs < 2 ^ 5000) : binD .mul (.int a) (.int b) S = .ok (.int (a * b)) S := by
  have e1 := log2_lt_of h1 (by omega)
  have e2 := log2_lt_of h2 (by omega)
  show (if mulOk a b = true then _ else _) = _
  rw [if_pos]
  unfold mulOk
  simp only [Bool.or_eq_true, decide_eq_true_eq]
  exact .inr (by omega)
theorem pow_ok {a : Int} {k : Nat} (S : Sto) (h1 : a.natAbs < 2 ^ 64) (h2 : (k : Int) ≤ 1000000) : binD .pow (.int a) (.int k) S = .ok (.int (a ^ k)) S := by
  show (if decide (0 ≤ (k : Int)) && decide ((k : Int) ≤ 1000000) && decide (a.natAbs < 2 ^ 64) then R.ok (D.int (a ^ (k : Int).toNat)) S else .no) = _
  rw [if_pos (by simp [h1, h2])]
  simp
theorem sm_mul {a b : Int} {k m : Nat} (h1 : a.natAbs < 2 ^ k) (h2 : b.natAbs < 2 ^ m) : (a * b).natAbs < 2 ^ (k + m) := by
  rw [Int.natAbs_mul, Nat.pow_add]
  exact Nat.mul_lt_mul_of_lt_of_le h1 (Nat.le_of_lt h2) (Nat.pow_pos (by omega))
theorem sm_up {a : Int} {k m : Nat} (h : a.natAbs < 2 ^ k) (hk : k ≤ m) : a.natAbs < 2 ^ m := Nat.lt_of_lt_of_le h (Nat.pow_le_pow_right (by omega) hk)
theorem sm_add {a b : Int} {k : Nat} (h1 : a.natAbs < 2 ^ k) (h2 : b.natAbs < 2 ^ k) : (a + b).natAbs < 2 ^ (k + 1) := by
  rw [Nat.pow_succ]
  have := Int.natAbs_add_le a b
  omega
theorem sm_sub {a b : Int} {k : Nat} (h1 : a.natAbs < 2 ^ k) (h2 : b.natAbs < 2 ^ k) : (a - b).natAbs < 2 ^ (k + 1) := by
  rw [Nat.pow_succ]
  have := Int.natAbs_sub_le a b
  omega
theorem RS.then_nx_id (r : RS) : (r.then fun ρ S => .nx ρ S) = r := by cases r <;> rfl
end Eg

namespace Eg
section
variable {sub : Nat → Nat → Bool} {c : Cl} {ρ : Env} {S : Sto}
@[simp] theorem evE_lstF (es : Es) : evE sub c (.lstF es) ρ S = (evEs sub c es ρ S).bind fun l S1 => if l.length ≤ line then .ok (.fl l) S1 else .no := id rfl
@[simp] theorem evE_dctF : evE sub c .dctF ρ S = .ok (.fd [] []) S := id rfl
@[simp] theorem evE_frz (i : Nat) : evE sub c (.frz i) ρ S = match ρ[i]? with
    | some (some (.ref n)) => (match S[n]? with
      | some (.lst l) => .ok (.fl l) (S.set n .dead)
      | _ => .no)
    | some (some (.fl l)) => .ok (.fl l) S
    | _ => .no := id rfl
@[simp] theorem evE_bak (a : E) : evE sub c (.bak a) ρ S = (evE sub c a ρ S).bind fun x S1 => bakD x S1 := id rfl
@[simp] theorem evE_me (m : Me) (a : E) (es : Es) : evE sub c (.me m a es) ρ S = (evE sub c a ρ S).bind fun x S1 => match seqD S1 x with
    | some _ => (evEs sub c es ρ S1).bind fun l S2 => meD m x l S2
    | none => .no := id rfl
theorem evE_compF (q : C) : evE sub c (.compF q) ρ S = (evC sub c q ρ S).bind fun l S1 => .ok (.fl l) S1 := rfl
@[simp] theorem evI_zip (a b : E) : evI sub c (.zip a b) ρ S = (evE sub c a ρ S).bind fun x S1 => (evE sub c b ρ S1).bind fun y S2 => match x, y with
    | .tup l, .tup m => .ok ((l.zip m).map fun p => .tup [p.1, p.2], none) S2
    | .fl l, .fl m => .ok ((l.zip m).map fun p => .tup [p.1, p.2], none) S2
    | _, _ => .no := id rfl
end
@[simp] theorem seqD_fl (S : Sto) (l : List D) : seqD S (.fl l) = some l := id rfl
@[simp] theorem seqD_ref (S : Sto) (n : Nat) : seqD S (.ref n) = lstOf S n := id rfl
@[simp] theorem seqD_tup (S : Sto) (l : List D) : seqD S (.tup l) = none := id rfl
@[simp] theorem seqD_int (S : Sto) (i : Int) : seqD S (.int i) = none := id rfl
@[simp] theorem seqD_bl (S : Sto) (i : Bool) : seqD S (.bl i) = none := id rfl
@[simp] theorem seqD_str (S : Sto) (i : List Nat) : seqD S (.str i) = none := id rfl
@[simp] theorem seqD_non (S : Sto) : seqD S .non = none := id rfl
@[simp] theorem seqD_fd (S : Sto) (k l : List D) : seqD S (.fd k l) = none := id rfl
theorem lstOf_of {S : Sto} {n : Nat} {l : List D} (h : S[n]? = some (.lst l)) : lstOf S n = some l := by unfold lstOf; rw [h]
@[simp] theorem kind_fl (l : List D) (S : Sto) : kind S (.fl l) = some .list := id rfl
@[simp] theorem kind_fd (k l : List D) (S : Sto) : kind S (.fd k l) = some .dict := id rfl
@[simp] theorem free_non : D.free .non = true := id rfl
@[simp] theorem free_bl (b : Bool) : D.free (.bl b) = true := id rfl
@[simp] theorem free_int (b : Int) : D.free (.int b) = true := id rfl
@[simp] theorem free_str (b : List Nat) : D.free (.str b) = true := id rfl
@[simp] theorem free_tup (l : List D) : D.free (.tup l) = D.freeL l := by simp [D.free]
@[simp] theorem free_fl (l : List D) : D.free (.fl l) = D.freeL l := by simp [D.free]
@[simp] theorem free_fd (k l : List D) : D.free (.fd k l) = (D.freeL k && D.freeL l) := by simp [D.free]
@[simp] theorem free_ref (n : Nat) : D.free (.ref n) = false := id rfl
@[simp] theorem freeL_nil : D.freeL [] = true := id rfl
@[simp] theorem freeL_cons (a : D) (l : List D) : D.freeL (a :: l) = (D.free a && D.freeL l) := by simp [D.freeL]
theorem freeL_iff (l : List D) : D.freeL l = true ↔ ∀ x ∈ l, D.free x = true := by
  induction l with
  | nil => simp
  | cons a l ih => simp [ih]
@[simp] theorem freeL_app (l m : List D) : D.freeL (l ++ m) = (D.freeL l && D.freeL m) := by
  induction l with
  | nil => simp
  | cons a l ih => simp [ih, Bool.and_assoc]
theorem freeL_map {β : Type} {g : β → D} (h : ∀ x, D.free (g x) = true) (l : List β) : D.freeL (l.map g) = true := by
  rw [freeL_iff]; intro x hx; obtain ⟨y, _, rfl⟩ := List.mem_map.mp hx; exact h y
/-! ### calls -/
section
variable {sub : Nat → Nat → Bool} {T : List Df} {n f : Nat} {d : Df} {ds : List D} {S : Sto}
theorem run_at (h : T[f]? = some d) : run sub T (n + 1) f ds S = if ds.length = d.ps then (if D.freeL ds then reloc S (runB sub (run sub T n) d ds []) else runB sub (run sub T n) d ds S) else .no := by
  simp only [run, h]
/-- a call whose arguments hold a reference -/
theorem run_ref (h : T[f]? = some d) (hl : ds.length = d.ps) (hf : D.freeL ds = false) : run sub T (n + 1) f ds S = endB (evSs sub (run sub T n) d.body (startE d ds) S) := by
  rw [run_at h, if_pos hl, hf, runB_eq]; rfl
/-- a call whose arguments hold none: the store stays -/
theorem run_ok {v : D} {S1 : Sto} (h : T[f]? = some d) (hl : ds.length = d.ps) (hf : D.freeL ds = true) (hv : D.free v = true) (e : endB (evSs sub (run sub T n) d.body (startE d ds) []) = .ok v S1) : run sub T (n + 1) f ds S = .ok v S := by
  rw [run_at h, if_pos hl, hf, runB_eq, e]; exact reloc_free v S1 hv
theorem run_okS {v : D} (h : T[f]? = some d) (hl : ds.length = d.ps) (hf : D.freeL ds = true) (hv : D.free v = true) (e : ∃ S1, endB (evSs sub (run sub T n) d.body (startE d ds) []) = .ok v S1) : run sub T (n + 1) f ds S = .ok v S := by
  obtain ⟨S1, e⟩ := e
  exact run_ok h hl hf hv e
theorem run_exf {x : Ex} {S1 : Sto} (h : T[f]? = some d) (hl : ds.length = d.ps) (hf : D.freeL ds = true) (hv : fsFree x.fs = true) (e : endB (evSs sub (run sub T n) d.body (startE d ds) []) = .ex x S1) : run sub T (n + 1) f ds S = .ex x S := by
  rw [run_at h, if_pos hl, hf, runB_eq, e]; exact reloc_exf x S1 hv
/-- the same answer in every store, whether the arguments hold references or not -/
theorem run_any {v : D} (h : T[f]? = some d) (hl : ds.length = d.ps) (hv : D.free v = true) (e : ∀ S, endB (evSs sub (run sub T n) d.body (startE d ds) S) = .ok v S) : run sub T (n + 1) f ds S = .ok v S := by
  by_cases hf : D.freeL ds = true
  · exact run_ok h hl hf hv (e [])
  · rw [run_ref h hl (by simpa using hf)]; exact e S
/-- .. in this store and the empty one -/
theorem run_two {v : D} (h : T[f]? = some d) (hl : ds.length = d.ps) (hv : D.free v = true) (e : D.freeL ds = false → endB (evSs sub (run sub T n) d.body (startE d ds) S) = .ok v S) (e0 : D.freeL ds = true → endB (evSs sub (run sub T n) d.body (startE d ds) []) = .ok v []) : run sub T (n + 1) f ds S = .ok v S := by
  by_cases hf : D.freeL ds = true
  · exact run_ok h hl hf hv (e0 hf)
  · rw [run_ref h hl (by simpa using hf)]; exact e (by simpa using hf)
end
/-! ### loops -/
section
variable {sub : Nat → Nat → Bool} {c : Cl} {ρ : Env} {S : Sto} {tg : Tg} {b : Ss} {own : List Nat} {e : E} {t : Option E}
/-- a comprehension that leaves the store as it is -/
theorem comp_fm {β : Type} (g : β → D) (p : β → Bool) (f : β → D) : ∀ (l : List β) (acc : List D), (∀ x ∈ l, ∃ ρ1, bindT S tg (g x) (wipeE ρ own) = some ρ1 ∧ evT sub c t ρ1 S = .ok (p x) S ∧ (p x = true → evE sub c e ρ1 S = .ok (f x) S)) →
    compB sub c own e tg t ρ none (l.map g) acc S = .ok (acc ++ (l.filter p).map f) S
  | [], acc, _ => by simp [compB_nil]
  | x :: l, acc, h => by
    obtain ⟨ρ1, h1, h2, h3⟩ := h x (by simp)
    have ih := fun acc => comp_fm g p f l acc fun y hy => h y (by simp [hy])
    rw [List.map_cons, compB_cons, h1]
    cases hp : p x with
    | true => simp [h2, hp, h3 hp, gOk, ih]
    | false => simp [h2, hp, gOk, ih]
theorem comp_map {β : Type} (g : β → D) (f : β → D) (l : List β) (h : ∀ x ∈ l, ∃ ρ1, bindT S tg (g x) (wipeE ρ own) = some ρ1 ∧ evE sub c e ρ1 S = .ok (f x) S) :
    compB sub c own e tg none ρ none (l.map g) [] S = .ok (l.map f) S := by
  have := comp_fm (sub := sub) (c := c) (e := e) (own := own) (tg := tg) (t := none) g (fun _ => true) f l [] fun x hx => by
    obtain ⟨ρ1, h1, h2⟩ := h x hx
    exact ⟨ρ1, h1, rfl, fun _ => h2⟩
  rw [List.filter_eq_self.mpr fun _ _ => rfl] at this
  simpa using this
/-- .. over a list as it is -/
theorem comp_id (f : D → D) (l : List D) (h : ∀ x ∈ l, ∃ ρ1, bindT S tg x (wipeE ρ own) = some ρ1 ∧ evE sub c e ρ1 S = .ok (f x) S) :
    compB sub c own e tg none ρ none l [] S = .ok (l.map f) S := by
  have := comp_map (sub := sub) (c := c) (e := e) (own := own) (tg := tg) (ρ := ρ) (S := S) id f l h
  simpa using this
/-- a comprehension that changes the store -/
theorem comp_inv {β : Type} (g : β → D) (P : List D → List β → Sto → Prop) : ∀ (l : List β) (acc : List D) (S : Sto), P acc l S → (∀ acc x l S, P acc (x :: l) S → ∃ ρ1, bindT S tg (g x) (wipeE ρ own) = some ρ1 ∧ ∃ v S', evE sub c e ρ1 S = .ok v S' ∧ P (acc ++ [v]) l S') →
    ∃ acc' S', compB sub c own e tg none ρ none (l.map g) acc S = .ok acc' S' ∧ P acc' [] S'
  | [], acc, S, h, _ => ⟨acc, S, rfl, h⟩
  | x :: l, acc, S, h, step => by
    obtain ⟨ρ1, h1, v, S', h2, h3⟩ := step acc x l S h
    obtain ⟨acc', S2, h4, h5⟩ := comp_inv g P l (acc ++ [v]) S' h3 step
    refine ⟨acc', S2, ?_, h5⟩
    rw [List.map_cons, compB_cons, h1]
    simp [h2, gOk, h4]
/-- a for whose turns go through -/
theorem for_inv {β : Type} (g : β → D) (P : List β → Env → Sto → Prop) : ∀ (l : List β) (ρ : Env) (S : Sto), P l ρ S → (∀ x l ρ S, P (x :: l) ρ S → ∃ ρ1, bindT S tg (g x) ρ = some ρ1 ∧ ∃ ρ2 S2, evSs sub c b ρ1 S = .nx ρ2 S2 ∧ P l ρ2 S2) →
    ∃ ρ' S', forB sub c tg b none (l.map g) ρ S = .nx ρ' S' ∧ P [] ρ' S'
  | [], ρ, S, h, _ => ⟨ρ, S, rfl, h⟩
  | x :: l, ρ, S, h, step => by
    obtain ⟨ρ1, h1, ρ2, S2, h2, h3⟩ := step x l ρ S h
    obtain ⟨ρ', S', h4, h5⟩ := for_inv g P l ρ2 S2 h3 step
    refine ⟨ρ', S', ?_, h5⟩
    rw [List.map_cons, forB_cons, h1]
    simp [h2, gOk, h4]
/-- a for that folds: the names that are carried, the loop's own name, the rest -/
theorem for_fold {β γ : Type} (g : β → D) (E : γ → Option D → Env) (step : γ → β → γ) : ∀ (l : List β) (a : γ) (y : Option D), (∀ a y x, x ∈ l → ∃ z, (bindT S tg (g x) (E a y) = some (E a z)) ∧ ∃ z', evSs sub c b (E a z) S = .nx (E (step a x) z') S) →
    ∃ z, forB sub c tg b none (l.map g) (E a y) S = .nx (E (l.foldl step a) z) S
  | [], a, y, _ => ⟨y, rfl⟩
  | x :: l, a, y, h => by
    obtain ⟨z, h1, z', h2⟩ := h a y x (by simp)
    obtain ⟨w, h3⟩ := for_fold g E step l (step a x) z' fun a y x hx => h a y x (by simp [hx])
    refine ⟨w, ?_⟩
    rw [List.map_cons, forB_cons, h1]
    simp [h2, gOk, h3]
end
/-! ### lists of results -/
@[simp] theorem blsOf_map {β : Type} (p : β → Bool) (l : List β) : blsOf (l.map fun x => .bl (p x)) = some (l.map p) := by
  induction l with
  | nil => rfl
  | cons a l ih => simp [blsOf, ih]
@[simp] theorem intsOf_map {β : Type} (p : β → Int) (l : List β) : intsOf (l.map fun x => .int (p x)) = some (l.map p) := by
  induction l with
  | nil => rfl
  | cons a l ih => simp [intsOf, ih]
theorem bil_all {β : Type} (p : β → Bool) (l : List β) (S : Sto) : bil .all (l.map fun x => .bl (p x)) S = .ok (.bl (l.all p)) S := by
  simp only [bil, blsOf_map]
  congr 2
  induction l with
  | nil => rfl
  | cons a l ih => simp [ih]
theorem bil_sum {β : Type} (p : β → Int) (l : List β) (S : Sto) : bil .sum (l.map fun x => .int (p x)) S = .ok (.int (l.map p).sum) S := by
  simp only [bil, intsOf_map]
@[simp] theorem bil_tuple (l : List D) (S : Sto) : bil .tuple l S = .ok (.tup l) S := id rfl
@[simp] theorem bil_len (l : List D) (S : Sto) : bil .len l S = .ok (.int l.length) S := id rfl
theorem line_1000 {n : Nat} (h : n ≤ 16777216) : n ≤ line := h
theorem rngL_nat (n : Nat) : rngL 0 n = (List.range n).map fun (k : Nat) => D.int (k : Int) := by
  unfold rngL
  apply List.map_congr_left
  intro k _
  simp
theorem rng_nat {n : Nat} (h : n < 2 ^ 62) : rngD 0 (n : Int) = some ((List.range n).map fun (k : Nat) => D.int (k : Int), none) := by
  have e1 : b62 0 = true := by decide
  have e2 : b62 (n : Int) = true := by simp only [b62, Bool.and_eq_true, decide_eq_true_eq]; omega
  unfold rngD
  rw [e1, e2]
  simp [rngL_nat]
theorem atL_map {β : Type} (g : β → D) (l : List β) {k : Nat} {x : β} (h : l[k]? = some x) : atL (l.map g) (k : Int) = some (g x) := by
  have hk := (List.getElem?_eq_some_iff.mp h).1
  have e : ixN (l.map g).length (k : Int) = some k := by
    unfold ixN
    rw [if_pos (by omega), if_pos (by simp; omega)]
    simp
  simp only [atL, e, Option.bind_some, List.getElem?_map, h, Option.map_some]
theorem atL_nat (l : List D) {k : Nat} {x : D} (h : l[k]? = some x) : atL l (k : Int) = some x := by
  simpa using atL_map id l h
end Eg

namespace Eg
/-! ### the head first: simp does not go into what comes behind -/
namespace Hd
class Kt (α β : Type) where
  go : α → Sto → R β
class Ks (α : Type) where
  env : Env
  go : α → Sto → RS
class Kn where
  go : Env → Sto → RS
/-- what comes behind stands where simp does not look -/
def bindK {α β : Type} (r : R α) [k : Kt α β] : R β := r.bind k.go
def stK {α : Type} (r : R α) [k : Ks α] : RS := r.st k.env k.go
def thenK (r : RS) [k : Kn] : RS := r.then k.go
section
variable {α β : Type}
@[scoped simp ↓] theorem bind_K (r : R α) (f : α → Sto → R β) : r.bind f = @bindK α β r ⟨f⟩ := id rfl
@[scoped simp ↓] theorem st_K (r : R α) (ρ : Env) (f : α → Sto → RS) : r.st ρ f = @stK α r ⟨ρ, f⟩ := id rfl
@[scoped simp ↓] theorem then_K (r : RS) (f : Env → Sto → RS) : r.then f = @thenK r ⟨f⟩ := id rfl
@[scoped simp] theorem bindK_ok (a : α) (S : Sto) (f : α → Sto → R β) : @bindK α β (R.ok a S) ⟨f⟩ = f a S := id rfl
@[scoped simp] theorem bindK_ex (x : Ex) (S : Sto) (f : α → Sto → R β) : @bindK α β (R.ex x S) ⟨f⟩ = .ex x S := id rfl
@[scoped simp] theorem bindK_no (f : α → Sto → R β) : @bindK α β R.no ⟨f⟩ = .no := id rfl
@[scoped simp] theorem stK_ok (a : α) (S : Sto) (ρ : Env) (f : α → Sto → RS) : @stK α (R.ok a S) ⟨ρ, f⟩ = f a S := id rfl
@[scoped simp] theorem stK_ex (x : Ex) (S : Sto) (ρ : Env) (f : α → Sto → RS) : @stK α (R.ex x S) ⟨ρ, f⟩ = .ex x ρ S := id rfl
@[scoped simp] theorem thenK_nx (ρ : Env) (S : Sto) (f : Env → Sto → RS) : @thenK (.nx ρ S) ⟨f⟩ = f ρ S := id rfl
@[scoped simp] theorem thenK_rt (d : D) (S : Sto) (f : Env → Sto → RS) : @thenK (.rt d S) ⟨f⟩ = .rt d S := id rfl
@[scoped simp] theorem thenK_ex (x : Ex) (ρ : Env) (S : Sto) (f : Env → Sto → RS) : @thenK (.ex x ρ S) ⟨f⟩ = .ex x ρ S := id rfl
end
end Hd
/-! ### use of a loop that stands in a goal -/
section
variable {sub : Nat → Nat → Bool} {c : Cl} {ρ : Env} {S : Sto} {tg : Tg} {b : Ss} {own : List Nat} {e : E} {t : Option E}
theorem for_use {β : Type} {g : β → D} {l : List β} {r : RS} (hF : forB sub c tg b none (l.map g) ρ S = r) (P : List β → Env → Sto → Prop) (h0 : P l ρ S)
    (step : ∀ x l ρ S, P (x :: l) ρ S → ∃ ρ1, bindT S tg (g x) ρ = some ρ1 ∧ ∃ ρ2 S2, evSs sub c b ρ1 S = .nx ρ2 S2 ∧ P l ρ2 S2) : ∃ ρ' S', r = .nx ρ' S' ∧ P [] ρ' S' := by
  obtain ⟨ρ', S', h1, h2⟩ := for_inv g P l ρ S h0 step
  exact ⟨ρ', S', hF ▸ h1, h2⟩
theorem for_use0 {l : List D} {r : RS} (hF : forB sub c tg b none l ρ S = r) (P : List D → Env → Sto → Prop) (h0 : P l ρ S)
    (step : ∀ x l ρ S, P (x :: l) ρ S → ∃ ρ1, bindT S tg x ρ = some ρ1 ∧ ∃ ρ2 S2, evSs sub c b ρ1 S = .nx ρ2 S2 ∧ P l ρ2 S2) : ∃ ρ' S', r = .nx ρ' S' ∧ P [] ρ' S' := by
  have : l = l.map id := by simp
  rw [this] at hF
  exact for_use (g := id) hF P h0 step
theorem comp_use {β : Type} {g : β → D} {l : List β} {acc : List D} {r : R (List D)} (hF : compB sub c own e tg none ρ none (l.map g) acc S = r) (P : List D → List β → Sto → Prop) (h0 : P acc l S)
    (step : ∀ acc x l S, P acc (x :: l) S → ∃ ρ1, bindT S tg (g x) (wipeE ρ own) = some ρ1 ∧ ∃ v S', evE sub c e ρ1 S = .ok v S' ∧ P (acc ++ [v]) l S') : ∃ acc' S', r = .ok acc' S' ∧ P acc' [] S' := by
  obtain ⟨a', S', h1, h2⟩ := comp_inv g P l acc S h0 step
  exact ⟨a', S', hF ▸ h1, h2⟩
theorem comp_pure {β : Type} {g : β → D} {l : List β} {r : R (List D)} (hF : compB sub c own e tg none ρ none (l.map g) [] S = r) (f : β → D) (h : ∀ x ∈ l, ∃ ρ1, bindT S tg (g x) (wipeE ρ own) = some ρ1 ∧ evE sub c e ρ1 S = .ok (f x) S) : r = .ok (l.map f) S :=
  hF ▸ comp_map g f l h
theorem comp_filt {β : Type} {g : β → D} {l : List β} {r : R (List D)} (hF : compB sub c own e tg t ρ none (l.map g) [] S = r) (p : β → Bool) (f : β → D) (h : ∀ x ∈ l, ∃ ρ1, bindT S tg (g x) (wipeE ρ own) = some ρ1 ∧ evT sub c t ρ1 S = .ok (p x) S ∧ (p x = true → evE sub c e ρ1 S = .ok (f x) S)) : r = .ok ((l.filter p).map f) S :=
  hF ▸ by simpa using comp_fm g p f l [] h
/-- by the place in the list -/
theorem for_idx {β : Type} {g : β → D} {l : List β} {r : RS} (hF : forB sub c tg b none (l.map g) ρ S = r) (P : Nat → Env → Sto → Prop) (h0 : P 0 ρ S)
    (step : ∀ i x ρ S, l[i]? = some x → P i ρ S → ∃ ρ1, bindT S tg (g x) ρ = some ρ1 ∧ ∃ ρ2 S2, evSs sub c b ρ1 S = .nx ρ2 S2 ∧ P (i + 1) ρ2 S2) : ∃ ρ' S', r = .nx ρ' S' ∧ P l.length ρ' S' := by
  obtain ⟨ρ', S', e, i, h1, h2, h3⟩ := for_use hF (fun l' ρ S => ∃ i, i + l'.length = l.length ∧ l' = l.drop i ∧ P i ρ S) ⟨0, by simp, rfl, h0⟩ (by
    rintro x l' ρ S ⟨i, h1, h2, h3⟩
    have hx : l[i]? = some x := by
      have := congrArg List.head? h2
      rw [List.head?_drop] at this
      simpa using this.symm
    obtain ⟨ρ1, k1, ρ2, S2, k2, k3⟩ := step i x ρ S hx h3
    refine ⟨ρ1, k1, ρ2, S2, k2, i + 1, by simp at h1; omega, ?_, k3⟩
    have := congrArg List.tail h2
    rw [List.tail_drop] at this
    simpa using this)
  have : i = l.length := by simpa using h1
  exact ⟨ρ', S', e, this ▸ h3⟩
theorem for_rng {m : Nat} {r : RS} (hF : forB sub c tg b none ((List.range m).map fun (k : Nat) => D.int (k : Int)) ρ S = r) (P : Nat → Env → Sto → Prop) (h0 : P 0 ρ S)
    (step : ∀ i ρ S, i < m → P i ρ S → ∃ ρ1, bindT S tg (.int (i : Int)) ρ = some ρ1 ∧ ∃ ρ2 S2, evSs sub c b ρ1 S = .nx ρ2 S2 ∧ P (i + 1) ρ2 S2) : ∃ ρ' S', r = .nx ρ' S' ∧ P m ρ' S' := by
  obtain ⟨ρ', S', e, h⟩ := for_idx hF P h0 (by
    intro i x ρ S hx hP
    obtain ⟨h1, h2⟩ := List.getElem?_eq_some_iff.mp hx
    have : x = i := by simpa using h2.symm
    subst this
    exact step x ρ S (by simpa using h1) hP)
  exact ⟨ρ', S', e, by simpa using h⟩
theorem comp_idx {β : Type} {g : β → D} {l : List β} {r : R (List D)} (hF : compB sub c own e tg none ρ none (l.map g) [] S = r) (P : Nat → List D → Sto → Prop) (h0 : P 0 [] S)
    (step : ∀ i x acc S, l[i]? = some x → P i acc S → ∃ ρ1, bindT S tg (g x) (wipeE ρ own) = some ρ1 ∧ ∃ v S', evE sub c e ρ1 S = .ok v S' ∧ P (i + 1) (acc ++ [v]) S') : ∃ acc S', r = .ok acc S' ∧ P l.length acc S' := by
  obtain ⟨acc, S', e, i, h1, h2, h3⟩ := comp_use hF (fun acc l' S => ∃ i, i + l'.length = l.length ∧ l' = l.drop i ∧ P i acc S) ⟨0, by simp, rfl, h0⟩ (by
    rintro acc x l' S ⟨i, h1, h2, h3⟩
    have hx : l[i]? = some x := by
      have := congrArg List.head? h2
      rw [List.head?_drop] at this
      simpa using this.symm
    obtain ⟨ρ1, k1, v, S2, k2, k3⟩ := step i x acc S hx h3
    refine ⟨ρ1, k1, v, S2, k2, i + 1, by simp at h1; omega, ?_, k3⟩
    have := congrArg List.tail h2
    rw [List.tail_drop] at this
    simpa using this)
  have : i = l.length := by simpa using h1
  exact ⟨acc, S', e, this ▸ h3⟩
theorem comp_rng {m : Nat} {r : R (List D)} (hF : compB sub c own e tg none ρ none ((List.range m).map fun (k : Nat) => D.int (k : Int)) [] S = r) (P : Nat → List D → Sto → Prop) (h0 : P 0 [] S)
    (step : ∀ i acc S, i < m → P i acc S → ∃ ρ1, bindT S tg (.int (i : Int)) (wipeE ρ own) = some ρ1 ∧ ∃ v S', evE sub c e ρ1 S = .ok v S' ∧ P (i + 1) (acc ++ [v]) S') : ∃ acc S', r = .ok acc S' ∧ P m acc S' := by
  obtain ⟨acc, S', e, h⟩ := comp_idx hF P h0 (by
    intro i x acc S hx hP
    obtain ⟨h1, h2⟩ := List.getElem?_eq_some_iff.mp hx
    have : x = i := by simpa using h2.symm
    subst this
    exact step x acc S (by simpa using h1) hP)
  exact ⟨acc, S', e, by simpa using h⟩
end
section
variable {sub : Nat → Nat → Bool} {T : List Df} {n f : Nat} {d : Df} {ds : List D} {S : Sto}
/-- .. whatever the arguments hold -/
theorem run_gen {v : D} (h : T[f]? = some d) (hl : ds.length = d.ps) (hv : D.freeL ds = true → D.free v = true) (e : D.freeL ds = false → endB (evSs sub (run sub T n) d.body (startE d ds) S) = .ok v S) (e0 : D.freeL ds = true → endB (evSs sub (run sub T n) d.body (startE d ds) []) = .ok v []) : run sub T (n + 1) f ds S = .ok v S := by
  by_cases hf : D.freeL ds = true
  · exact run_ok h hl hf (hv hf) (e0 hf)
  · rw [run_ref h hl (by simpa using hf)]; exact e (by simpa using hf)
theorem run_genx {x : Ex} (h : T[f]? = some d) (hl : ds.length = d.ps) (hv : D.freeL ds = true → fsFree x.fs = true) (e : D.freeL ds = false → endB (evSs sub (run sub T n) d.body (startE d ds) S) = .ex x S) (e0 : D.freeL ds = true → endB (evSs sub (run sub T n) d.body (startE d ds) []) = .ex x []) : run sub T (n + 1) f ds S = .ex x S := by
  by_cases hf : D.freeL ds = true
  · exact run_exf h hl hf (hv hf) (e0 hf)
  · rw [run_ref h hl (by simpa using hf)]; exact e (by simpa using hf)
end
theorem zip_items {β γ : Type} (f : β → D) (g : γ → D) (l : List β) (m : List γ) : ((l.map f).zip (m.map g)).map (fun p => D.tup [p.1, p.2]) = (l.zip m).map fun p => D.tup [f p.1, g p.2] := by
  rw [List.zip_map, List.map_map]; rfl
end Eg

namespace K12
open PySem Eg
abbrev c_LookError : Nat := 0
abbrev c_InvalidForm : Nat := 1
abbrev c_InvalidOther : Nat := 2
abbrev c_InvalidWalk : Nat := 3
abbrev f_is_integer : Nat := 0
abbrev f_is_count : Nat := 1
abbrev f_is_between : Nat := 2
abbrev f_is_tuple : Nat := 3
abbrev f_divisor : Nat := 4
abbrev f_lowest : Nat := 5
abbrev f_is_number : Nat := 6
abbrev f_is_row : Nat := 7
abbrev f_is_row_of : Nat := 8
abbrev f_sum_of : Nat := 9
abbrev f_product_of : Nat := 10
abbrev f_power_of : Nat := 11
abbrev f_is_channels : Nat := 12
abbrev f_is_walk : Nat := 13
abbrev f_check_walk : Nat := 14
abbrev f_check_walk_of : Nat := 15
abbrev f_check_walks : Nat := 16
abbrev f_step_power : Nat := 17
abbrev f_joined_in : Nat := 18
abbrev f_joined : Nat := 19
abbrev f_is_letter : Nat := 20
abbrev f_is_word_in : Nat := 21
abbrev f_word_key : Nat := 22
abbrev f_sums_along : Nat := 23
abbrev f_sum_on : Nat := 24
abbrev f_is_term : Nat := 25
abbrev f_is_form : Nat := 26
abbrev f_check_form : Nat := 27
abbrev f_told_of : Nat := 28
abbrev f_told : Nat := 29
abbrev f_cuts_of : Nat := 30
abbrev f_cut : Nat := 31
abbrev f__law_cell : Nat := 32
abbrev f__law_box : Nat := 33
abbrev f__law_take : Nat := 34
abbrev f__law_low : Nat := 35
abbrev f__law_plus : Nat := 36
abbrev f__law_times : Nat := 37
abbrev f__law_minus : Nat := 38
abbrev f__law_number : Nat := 39
abbrev f__law_step : Nat := 40
abbrev f__law_turned : Nat := 41
abbrev f__law_scaled : Nat := 42
abbrev f__law_steps : Nat := 43
abbrev f__law_at : Nat := 44
abbrev f__law_nested : Nat := 45
abbrev f__law_told : Nat := 46
abbrev f__law_letter : Nat := 47
abbrev f__law_word : Nat := 48
abbrev f__law_key : Nat := 49
abbrev f__law_add : Nat := 50
abbrev f__law_form_of : Nat := 51
abbrev f__law_form : Nat := 52
abbrev f__law_same : Nat := 53
abbrev f__law_blamed : Nat := 54
abbrev f__law_no_form : Nat := 55
abbrev f__law_wide : Nat := 56
abbrev f__law_asked : Nat := 57
abbrev f__law_due : Nat := 58
abbrev f__law_across : Nat := 59
abbrev f__law_form_right : Nat := 60
abbrev f__law_refused_right : Nat := 61
abbrev f_law : Nat := 62
def d_is_integer : Df := ⟨[105, 115, 95, 105, 110, 116, 101, 103, 101, 114], 1, [[118, 97, 108, 117, 101]],
 (.cons (.ret (.and (.isi (.var 0) [.int]) (.not (.isi (.var 0) [.bool]))))
 .nil)⟩
def d_is_count : Df := ⟨[105, 115, 95, 99, 111, 117, 110, 116], 1, [[118, 97, 108, 117, 101]],
 (.cons (.ret (.and (.call f_is_integer (.cons (.var 0) .nil)) (.cmp .ge (.var 0) (.lit (.int 0)))))
 .nil)⟩
def d_is_between : Df := ⟨[105, 115, 95, 98, 101, 116, 119, 101, 101, 110], 3, [[118, 97, 108, 117, 101], [108, 101, 97, 115, 116], [103, 114, 101, 97, 116, 101, 115, 116]],
 (.cons (.ret (.and (.call f_is_integer (.cons (.var 0) .nil)) (.cmp2 .le .le (.var 1) (.var 0) (.var 2))))
 .nil)⟩
def d_is_tuple : Df := ⟨[105, 115, 95, 116, 117, 112, 108, 101], 2, [[118, 97, 108, 117, 101], [115, 105, 122, 101]],
 (.cons (.ret (.and (.isi (.var 0) [.tuple]) (.cmp .eq (.bi .len (.cons (.var 0) .nil)) (.var 1))))
 .nil)⟩
def d_divisor : Df := ⟨[100, 105, 118, 105, 115, 111, 114], 2, [[111, 110, 101], [111, 116, 104, 101, 114]],
 (.cons (.whl (.cmp .ne (.var 1) (.lit (.int 0)))
 (.cons (.par [0, 1] (.cons (.var 1) (.cons (.bin .mod (.var 0) (.var 1)) .nil)))
 .nil))
 (.cons (.ret (.var 0))
 .nil))⟩
def d_lowest : Df := ⟨[108, 111, 119, 101, 115, 116], 2, [[116, 111, 112], [98, 97, 115, 101], [99, 111, 109, 109, 111, 110], [115, 105, 103, 110]],
 (.cons (.asg 2 (.call f_divisor (.cons (.bi .abs (.cons (.var 0) .nil)) (.cons (.bi .abs (.cons (.var 1) .nil)) .nil))))
 (.cons (.asg 3 (.ite (.cmp .gt (.var 1) (.lit (.int 0))) (.lit (.int 1)) (.neg (.lit (.int 1)))))
 (.cons (.ret (.tup (.cons (.bin .fdiv (.bin .mul (.var 3) (.var 0)) (.var 2)) (.cons (.bin .fdiv (.bin .mul (.var 3) (.var 1)) (.var 2)) .nil))))
 .nil)))⟩
def d_is_number : Df := ⟨[105, 115, 95, 110, 117, 109, 98, 101, 114], 1, [[118, 97, 108, 117, 101]],
 (.cons (.ife (.or (.not (.call f_is_tuple (.cons (.var 0) (.cons (.lit (.int 2)) .nil)))) (.or (.not (.call f_is_integer (.cons (.idx (.var 0) (.lit (.int 0))) .nil))) (.not (.call f_is_integer (.cons (.idx (.var 0) (.lit (.int 1))) .nil)))))
 (.cons (.ret (.lit (.bl false)))
 .nil)
 .nil)
 (.cons (.ret (.and (.cmp .gt (.idx (.var 0) (.lit (.int 1))) (.lit (.int 0))) (.cmp .eq (.call f_divisor (.cons (.bi .abs (.cons (.idx (.var 0) (.lit (.int 0))) .nil)) (.cons (.idx (.var 0) (.lit (.int 1))) .nil))) (.lit (.int 1)))))
 .nil))⟩
def d_is_row : Df := ⟨[105, 115, 95, 114, 111, 119], 1, [[118, 97, 108, 117, 101], [105, 116, 101, 109]],
 (.cons (.ret (.and (.isi (.var 0) [.tuple]) (.bic .all (.mk [1] (.call f_is_number (.cons (.var 1) .nil)) (.nm 1) (.valv 0) none))))
 .nil)⟩
def d_is_row_of : Df := ⟨[105, 115, 95, 114, 111, 119, 95, 111, 102], 2, [[118, 97, 108, 117, 101], [99, 111, 117, 110, 116]],
 (.cons (.ret (.and (.call f_is_row (.cons (.var 0) .nil)) (.cmp .eq (.bi .len (.cons (.var 0) .nil)) (.var 1))))
 .nil)⟩
def d_sum_of : Df := ⟨[115, 117, 109, 95, 111, 102], 2, [[111, 110, 101], [111, 116, 104, 101, 114]],
 (.cons (.ret (.call f_lowest (.cons (.bin .add (.bin .mul (.idx (.var 0) (.lit (.int 0))) (.idx (.var 1) (.lit (.int 1)))) (.bin .mul (.idx (.var 1) (.lit (.int 0))) (.idx (.var 0) (.lit (.int 1))))) (.cons (.bin .mul (.idx (.var 0) (.lit (.int 1))) (.idx (.var 1) (.lit (.int 1)))) .nil))))
 .nil)⟩
def d_product_of : Df := ⟨[112, 114, 111, 100, 117, 99, 116, 95, 111, 102], 2, [[111, 110, 101], [111, 116, 104, 101, 114]],
 (.cons (.ret (.call f_lowest (.cons (.bin .mul (.idx (.var 0) (.lit (.int 0))) (.idx (.var 1) (.lit (.int 0)))) (.cons (.bin .mul (.idx (.var 0) (.lit (.int 1))) (.idx (.var 1) (.lit (.int 1)))) .nil))))
 .nil)⟩
def d_power_of : Df := ⟨[112, 111, 119, 101, 114, 95, 111, 102], 2, [[110, 117, 109, 98, 101, 114], [99, 111, 117, 110, 116], [116, 111, 112], [98, 97, 115, 101], [116, 117, 114, 110]],
 (.cons (.asgT [(.nm 2), (.nm 3)] (.tup (.cons (.lit (.int 1)) (.cons (.lit (.int 1)) .nil))))
 (.cons (.fr (.nm 4) (.rng1 (.var 1))
 (.cons (.par [2, 3] (.cons (.bin .mul (.var 2) (.idx (.var 0) (.lit (.int 0)))) (.cons (.bin .mul (.var 3) (.idx (.var 0) (.lit (.int 1)))) .nil)))
 .nil))
 (.cons (.ret (.tup (.cons (.var 2) (.cons (.var 3) .nil))))
 .nil)))⟩
def d_is_channels : Df := ⟨[105, 115, 95, 99, 104, 97, 110, 110, 101, 108, 115], 1, [[118, 97, 108, 117, 101]],
 (.cons (.ret (.call f_is_between (.cons (.var 0) (.cons (.lit (.int 1)) (.cons (.con [77, 79, 83, 84, 95, 67, 72, 65, 78, 78, 69, 76, 83] (.int 3)) .nil)))))
 .nil)⟩
def d_is_walk : Df := ⟨[105, 115, 95, 119, 97, 108, 107], 1, [[118, 97, 108, 117, 101], [115, 116, 101, 112]],
 (.cons (.ife (.or (.not (.call f_is_tuple (.cons (.var 0) (.cons (.lit (.int 2)) .nil)))) (.or (.not (.call f_is_channels (.cons (.idx (.var 0) (.lit (.int 0))) .nil))) (.not (.isi (.idx (.var 0) (.lit (.int 1))) [.tuple]))))
 (.cons (.ret (.lit (.bl false)))
 .nil)
 .nil)
 (.cons (.ret (.bic .all (.mk [1] (.call f_is_row_of (.cons (.var 1) (.cons (.idx (.var 0) (.lit (.int 0))) .nil))) (.nm 1) (.val (.idx (.var 0) (.lit (.int 1)))) none)))
 .nil))⟩
def d_check_walk : Df := ⟨[99, 104, 101, 99, 107, 95, 119, 97, 108, 107], 1, [[119, 97, 108, 107]],
 (.cons (.ife (.not (.call f_is_walk (.cons (.var 0) .nil)))
 (.cons (.rais c_InvalidWalk [[103, 105, 118, 101, 110]] (.cons (.var 0) .nil))
 .nil)
 .nil)
 .nil)⟩
def d_check_walk_of : Df := ⟨[99, 104, 101, 99, 107, 95, 119, 97, 108, 107, 95, 111, 102], 2, [[119, 97, 108, 107], [99, 104, 97, 110, 110, 101, 108, 115]],
 (.cons (.ife (.or (.not (.call f_is_walk (.cons (.var 0) .nil))) (.cmp .ne (.idx (.var 0) (.lit (.int 0))) (.var 1)))
 (.cons (.rais c_InvalidWalk [[103, 105, 118, 101, 110]] (.cons (.var 0) .nil))
 .nil)
 .nil)
 .nil)⟩
def d_check_walks : Df := ⟨[99, 104, 101, 99, 107, 95, 119, 97, 108, 107, 115], 2, [[111, 110, 101], [111, 116, 104, 101, 114]],
 (.cons (.expr (.call f_check_walk (.cons (.var 0) .nil)))
 (.cons (.ife (.or (.not (.call f_is_walk (.cons (.var 1) .nil))) (.cmp .ne (.idx (.var 1) (.lit (.int 0))) (.idx (.var 0) (.lit (.int 0)))))
 (.cons (.rais c_InvalidOther [[103, 105, 118, 101, 110]] (.cons (.var 1) .nil))
 .nil)
 .nil)
 .nil))⟩
def d_step_power : Df := ⟨[115, 116, 101, 112, 95, 112, 111, 119, 101, 114], 2, [[115, 116, 101, 112], [108, 101, 116, 116, 101, 114], [102, 111, 117, 110, 100], [110, 117, 109, 98, 101, 114], [99, 111, 117, 110, 116]],
 (.cons (.asg 2 (.con [79, 78, 69] (.tup [(.int 1), (.int 1)])))
 (.cons (.fr (.tp [(.nm 3), (.nm 4)]) (.zip (.var 0) (.var 1))
 (.cons (.asg 2 (.call f_product_of (.cons (.var 2) (.cons (.call f_power_of (.cons (.var 3) (.cons (.var 4) .nil))) .nil))))
 .nil))
 (.cons (.ret (.var 2))
 .nil)))⟩
def d_joined_in : Df := ⟨[106, 111, 105, 110, 101, 100, 95, 105, 110], 2, [[111, 110, 101], [111, 116, 104, 101, 114]],
 (.cons (.ret (.tup (.cons (.idx (.var 0) (.lit (.int 0))) (.cons (.bin .add (.idx (.var 0) (.lit (.int 1))) (.idx (.var 1) (.lit (.int 1)))) .nil))))
 .nil)⟩
def d_joined : Df := ⟨[106, 111, 105, 110, 101, 100], 2, [[111, 110, 101], [111, 116, 104, 101, 114]],
 (.cons (.expr (.call f_check_walks (.cons (.var 0) (.cons (.var 1) .nil))))
 (.cons (.ret (.call f_joined_in (.cons (.var 0) (.cons (.var 1) .nil))))
 .nil))⟩
def d_is_letter : Df := ⟨[105, 115, 95, 108, 101, 116, 116, 101, 114], 2, [[99, 104, 97, 110, 110, 101, 108, 115], [118, 97, 108, 117, 101], [99, 111, 117, 110, 116]],
 (.cons (.ret (.and (.call f_is_tuple (.cons (.var 1) (.cons (.var 0) .nil))) (.bic .all (.mk [2] (.call f_is_count (.cons (.var 2) .nil)) (.nm 2) (.valv 1) none))))
 .nil)⟩
def d_is_word_in : Df := ⟨[105, 115, 95, 119, 111, 114, 100, 95, 105, 110], 2, [[99, 104, 97, 110, 110, 101, 108, 115], [118, 97, 108, 117, 101], [108, 101, 116, 116, 101, 114]],
 (.cons (.ret (.and (.isi (.var 1) [.tuple]) (.bic .all (.mk [2] (.call f_is_letter (.cons (.var 0) (.cons (.var 2) .nil))) (.nm 2) (.valv 1) none))))
 .nil)⟩
def d_word_key : Df := ⟨[119, 111, 114, 100, 95, 107, 101, 121], 1, [[119, 111, 114, 100]],
 (.cons (.ret (.tup (.cons (.bi .len (.cons (.var 0) .nil)) (.cons (.var 0) .nil))))
 .nil)⟩
def d_sums_along : Df := ⟨[115, 117, 109, 115, 95, 97, 108, 111, 110, 103], 2, [[115, 116, 101, 112, 115], [119, 111, 114, 100], [114, 111, 119], [102, 111, 117, 110, 100], [115, 116, 101, 112], [109, 111, 114, 101], [97, 116]],
 (.cons (.asg 2 (.bin .add (.lstF (.cons (.con [79, 78, 69] (.tup [(.int 1), (.int 1)])) .nil)) (.bin .mul (.lstF (.cons (.con [90, 69, 82, 79] (.tup [(.int 0), (.int 1)])) .nil)) (.bi .len (.cons (.var 1) .nil)))))
 (.cons (.asg 3 (.lst (.cons (.idx (.var 2) (.neg (.lit (.int 1)))) .nil)))
 (.cons (.fr (.nm 4) (.val (.var 0))
 (.cons (.asg 5 (.compF (.mk [6] (.call f_product_of (.cons (.idx (.var 2) (.var 6)) (.cons (.call f_step_power (.cons (.var 4) (.cons (.idx (.var 1) (.var 6)) .nil))) .nil))) (.nm 6) (.rng1 (.bi .len (.cons (.var 1) .nil))) none)))
 (.cons (.asg 2 (.bin .add (.lstF (.cons (.con [79, 78, 69] (.tup [(.int 1), (.int 1)])) .nil)) (.compF (.mk [6] (.call f_sum_of (.cons (.idx (.var 2) (.bin .add (.var 6) (.lit (.int 1)))) (.cons (.idx (.var 5) (.var 6)) .nil))) (.nm 6) (.rng1 (.bi .len (.cons (.var 1) .nil))) none))))
 (.cons (.expr (.app (.var 3) (.idx (.var 2) (.neg (.lit (.int 1))))))
 .nil))))
 (.cons (.ret (.var 3))
 .nil))))⟩
def d_sum_on : Df := ⟨[115, 117, 109, 95, 111, 110], 2, [[115, 116, 101, 112, 115], [119, 111, 114, 100]],
 (.cons (.ret (.idx (.call f_sums_along (.cons (.var 0) (.cons (.var 1) .nil))) (.neg (.lit (.int 1)))))
 .nil)⟩
def d_is_term : Df := ⟨[105, 115, 95, 116, 101, 114, 109], 2, [[99, 104, 97, 110, 110, 101, 108, 115], [118, 97, 108, 117, 101]],
 (.cons (.ife (.or (.not (.call f_is_tuple (.cons (.var 1) (.cons (.lit (.int 2)) .nil)))) (.not (.call f_is_word_in (.cons (.var 0) (.cons (.idx (.var 1) (.lit (.int 0))) .nil)))))
 (.cons (.ret (.lit (.bl false)))
 .nil)
 .nil)
 (.cons (.ret (.and (.call f_is_number (.cons (.idx (.var 1) (.lit (.int 1))) .nil)) (.cmp .ne (.idx (.idx (.var 1) (.lit (.int 1))) (.lit (.int 0))) (.lit (.int 0)))))
 .nil))⟩
def d_is_form : Df := ⟨[105, 115, 95, 102, 111, 114, 109], 1, [[118, 97, 108, 117, 101], [107, 101, 121, 115], [116, 101, 114, 109], [97, 116]],
 (.cons (.ife (.or (.not (.call f_is_tuple (.cons (.var 0) (.cons (.lit (.int 2)) .nil)))) (.or (.not (.call f_is_channels (.cons (.idx (.var 0) (.lit (.int 0))) .nil))) (.not (.isi (.idx (.var 0) (.lit (.int 1))) [.tuple]))))
 (.cons (.ret (.lit (.bl false)))
 .nil)
 .nil)
 (.cons (.ife (.not (.bic .all (.mk [2] (.call f_is_term (.cons (.idx (.var 0) (.lit (.int 0))) (.cons (.var 2) .nil))) (.nm 2) (.val (.idx (.var 0) (.lit (.int 1)))) none)))
 (.cons (.ret (.lit (.bl false)))
 .nil)
 .nil)
 (.cons (.asg 1 (.compF (.mk [2] (.call f_word_key (.cons (.idx (.var 2) (.lit (.int 0))) .nil)) (.nm 2) (.val (.idx (.var 0) (.lit (.int 1)))) none)))
 (.cons (.ret (.bic .all (.mk [3] (.cmp .lt (.idx (.var 1) (.bin .sub (.var 3) (.lit (.int 1)))) (.idx (.var 1) (.var 3))) (.nm 3) (.rng2 (.lit (.int 1)) (.bi .len (.cons (.var 1) .nil))) none)))
 .nil))))⟩
def d_check_form : Df := ⟨[99, 104, 101, 99, 107, 95, 102, 111, 114, 109], 1, [[102, 111, 114, 109]],
 (.cons (.ife (.not (.call f_is_form (.cons (.var 0) .nil)))
 (.cons (.rais c_InvalidForm [[103, 105, 118, 101, 110]] (.cons (.var 0) .nil))
 .nil)
 .nil)
 .nil)⟩
def d_told_of : Df := ⟨[116, 111, 108, 100, 95, 111, 102], 2, [[102, 111, 114, 109], [115, 116, 101, 112, 115], [102, 111, 117, 110, 100], [119, 111, 114, 100], [110, 117, 109, 98, 101, 114]],
 (.cons (.asg 2 (.con [90, 69, 82, 79] (.tup [(.int 0), (.int 1)])))
 (.cons (.fr (.tp [(.nm 3), (.nm 4)]) (.val (.idx (.var 0) (.lit (.int 1))))
 (.cons (.asg 2 (.call f_sum_of (.cons (.var 2) (.cons (.call f_product_of (.cons (.var 4) (.cons (.call f_sum_on (.cons (.var 1) (.cons (.var 3) .nil))) .nil))) .nil))))
 .nil))
 (.cons (.ret (.var 2))
 .nil)))⟩
def d_told : Df := ⟨[116, 111, 108, 100], 2, [[102, 111, 114, 109], [119, 97, 108, 107]],
 (.cons (.expr (.call f_check_form (.cons (.var 0) .nil)))
 (.cons (.expr (.call f_check_walk_of (.cons (.var 1) (.cons (.idx (.var 0) (.lit (.int 0))) .nil))))
 (.cons (.ret (.call f_told_of (.cons (.var 0) (.cons (.idx (.var 1) (.lit (.int 1))) .nil))))
 .nil)))⟩
def d_cuts_of : Df := ⟨[99, 117, 116, 115, 95, 111, 102], 1, [[102, 111, 114, 109], [102, 111, 117, 110, 100], [119, 111, 114, 100], [110, 117, 109, 98, 101, 114], [97, 116]],
 (.cons (.asg 1 (.lst .nil))
 (.cons (.fr (.tp [(.nm 2), (.nm 3)]) (.val (.idx (.var 0) (.lit (.int 1))))
 (.cons (.expr (.me .extend (.var 1) (.cons (.compF (.mk [4] (.tup (.cons (.slc (.var 2) none (some (.var 4))) (.cons (.slc (.var 2) (some (.var 4)) none) (.cons (.var 3) .nil)))) (.nm 4) (.rng1 (.bin .add (.bi .len (.cons (.var 2) .nil)) (.lit (.int 1)))) none)) .nil)))
 .nil))
 (.cons (.ret (.bi .sorted (.cons (.var 1) .nil)))
 .nil)))⟩
def d_cut : Df := ⟨[99, 117, 116], 1, [[102, 111, 114, 109]],
 (.cons (.expr (.call f_check_form (.cons (.var 0) .nil)))
 (.cons (.ret (.call f_cuts_of (.cons (.var 0) .nil)))
 .nil))⟩
def d__law_cell : Df := ⟨[95, 108, 97, 119, 95, 99, 101, 108, 108], 2, [[115, 99, 114, 105, 112, 116], [107]],
 (.cons (.ret (.ite (.cmp .lt (.var 1) (.bi .len (.cons (.var 0) .nil))) (.idx (.var 0) (.var 1)) (.bin .add (.bin .mul (.lit (.int 6475)) (.var 1)) (.bin .mod (.bi .int (.cons (.bi .sum (.cons (.slc (.var 0) none (some (.lit (.int 1)))) .nil)) .nil)) (.lit (.int 1000003))))))
 .nil)⟩
def d__law_box : Df := ⟨[95, 108, 97, 119, 95, 98, 111, 120], 1, [[103, 114, 101, 97, 116]],
 (.cons (.ret (.lst (.cons (.bi .abs (.cons (.var 0) .nil)) (.cons (.cmp .ge (.bi .abs (.cons (.var 0) .nil)) (.bin .pow (.lit (.int 10)) (.lit (.int 18)))) (.cons (.bin .mod (.bi .int (.cons (.bi .abs (.cons (.var 0) .nil)) .nil)) (.lit (.int 2147483629))) (.cons (.lit (.int 0)) .nil))))))
 .nil)⟩
def d__law_take : Df := ⟨[95, 108, 97, 119, 95, 116, 97, 107, 101], 2, [[98, 111, 120], [109, 97, 110, 121], [100, 105, 103, 105, 116], [109, 105, 120, 101, 100]],
 (.cons (.ife (.and (.idx (.var 0) (.lit (.int 1))) (.cmp .gt (.idx (.var 0) (.lit (.int 0))) (.lit (.int 0))))
 (.cons (.asg 2 (.bin .mod (.bi .int (.cons (.idx (.var 0) (.lit (.int 0))) .nil)) (.var 1)))
 (.cons (.setI (.var 0) (.lit (.int 0)) (.bin .fdiv (.idx (.var 0) (.lit (.int 0))) (.var 1)))
 (.cons (.ret (.var 2))
 .nil)))
 .nil)
 (.cons (.setI (.var 0) (.lit (.int 3)) (.bin .add (.idx (.var 0) (.lit (.int 3))) (.lit (.int 1))))
 (.cons (.asg 3 (.bin .mod (.bi .int (.cons (.bin .pow (.bin .add (.bin .add (.idx (.var 0) (.lit (.int 2))) (.bin .mul (.lit (.int 15487495)) (.idx (.var 0) (.lit (.int 3))))) (.lit (.int 179426107))) (.lit (.int 5))) .nil)) (.lit (.int 2147483647))))
 (.cons (.ret (.bin .mod (.bi .int (.cons (.bin .fdiv (.bin .mod (.bi .int (.cons (.bin .pow (.bin .add (.bin .mul (.var 3) (.lit (.int 48271))) (.bin .mul (.lit (.int 104743)) (.idx (.var 0) (.lit (.int 3))))) (.lit (.int 3))) .nil)) (.lit (.int 2147483587))) (.lit (.int 64))) .nil)) (.var 1)))
 .nil))))⟩
def d__law_low : Df := ⟨[95, 108, 97, 119, 95, 108, 111, 119], 2, [[116, 111, 112], [98, 97, 115, 101], [111, 110, 101], [111, 116, 104, 101, 114], [115, 105, 103, 110]],
 (.cons (.par [2, 3] (.cons (.bi .abs (.cons (.var 0) .nil)) (.cons (.bi .abs (.cons (.var 1) .nil)) .nil)))
 (.cons (.whl (.cmp .ne (.var 3) (.lit (.int 0)))
 (.cons (.par [2, 3] (.cons (.var 3) (.cons (.bin .mod (.bi .int (.cons (.var 2) .nil)) (.var 3)) .nil)))
 .nil))
 (.cons (.asg 4 (.ite (.cmp .gt (.var 1) (.lit (.int 0))) (.lit (.int 1)) (.neg (.lit (.int 1)))))
 (.cons (.ret (.tup (.cons (.bin .fdiv (.bin .mul (.var 4) (.var 0)) (.var 2)) (.cons (.bin .fdiv (.bin .mul (.var 4) (.var 1)) (.var 2)) .nil))))
 .nil))))⟩
def d__law_plus : Df := ⟨[95, 108, 97, 119, 95, 112, 108, 117, 115], 2, [[111, 110, 101], [111, 116, 104, 101, 114]],
 (.cons (.ret (.call f__law_low (.cons (.bin .add (.bin .mul (.idx (.var 0) (.lit (.int 0))) (.idx (.var 1) (.lit (.int 1)))) (.bin .mul (.idx (.var 1) (.lit (.int 0))) (.idx (.var 0) (.lit (.int 1))))) (.cons (.bin .mul (.idx (.var 0) (.lit (.int 1))) (.idx (.var 1) (.lit (.int 1)))) .nil))))
 .nil)⟩
def d__law_times : Df := ⟨[95, 108, 97, 119, 95, 116, 105, 109, 101, 115], 2, [[111, 110, 101], [111, 116, 104, 101, 114]],
 (.cons (.ret (.call f__law_low (.cons (.bin .mul (.idx (.var 0) (.lit (.int 0))) (.idx (.var 1) (.lit (.int 0)))) (.cons (.bin .mul (.idx (.var 0) (.lit (.int 1))) (.idx (.var 1) (.lit (.int 1)))) .nil))))
 .nil)⟩
def d__law_minus : Df := ⟨[95, 108, 97, 119, 95, 109, 105, 110, 117, 115], 1, [[110, 117, 109, 98, 101, 114]],
 (.cons (.ret (.tup (.cons (.bin .sub (.lit (.int 0)) (.idx (.var 0) (.lit (.int 0)))) (.cons (.idx (.var 0) (.lit (.int 1))) .nil))))
 .nil)⟩
def d__law_number : Df := ⟨[95, 108, 97, 119, 95, 110, 117, 109, 98, 101, 114], 1, [[98, 111, 120]],
 (.cons (.ret (.call f__law_low (.cons (.idxl (.cons (.lit (.int 1)) (.cons (.neg (.lit (.int 1))) (.cons (.lit (.int 2)) (.cons (.lit (.int 0)) (.cons (.lit (.int 3)) (.cons (.neg (.lit (.int 2))) (.cons (.lit (.int 1)) (.cons (.lit (.int 5)) (.cons (.neg (.lit (.int 3))) (.cons (.lit (.int 1)) .nil)))))))))) (.call f__law_take (.cons (.var 0) (.cons (.lit (.int 10)) .nil)))) (.cons (.idxl (.cons (.lit (.int 1)) (.cons (.lit (.int 1)) (.cons (.lit (.int 1)) (.cons (.lit (.int 2)) (.cons (.lit (.int 1)) (.cons (.lit (.int 3)) .nil)))))) (.call f__law_take (.cons (.var 0) (.cons (.lit (.int 6)) .nil)))) .nil))))
 .nil)⟩
def d__law_step : Df := ⟨[95, 108, 97, 119, 95, 115, 116, 101, 112], 2, [[98, 111, 120], [99, 104, 97, 110, 110, 101, 108, 115], [119, 97, 121], [115, 116, 101, 112], [97, 116], [107]],
 (.cons (.asgT [(.nm 2), (.nm 3)] (.tup (.cons (.call f__law_take (.cons (.var 0) (.cons (.lit (.int 6)) .nil))) (.cons (.bic .tuple (.mk [5] (.call f__law_number (.cons (.var 0) .nil)) (.nm 5) (.rng1 (.var 1)) none)) .nil))))
 (.cons (.ife (.cmp .eq (.var 2) (.lit (.int 0)))
 (.cons (.ret (.bin .mul (.tup (.cons (.tup (.cons (.lit (.int 0)) (.cons (.lit (.int 1)) .nil))) .nil)) (.var 1)))
 .nil)
 .nil)
 (.cons (.ife (.and (.cmp .lt (.var 2) (.lit (.int 4))) (.cmp .gt (.var 1) (.lit (.int 1))))
 (.cons (.asg 4 (.call f__law_take (.cons (.var 0) (.cons (.var 1) .nil))))
 (.cons (.ret (.bic .tuple (.mk [5] (.ite (.cmp .eq (.var 5) (.var 4)) (.idx (.var 3) (.var 5)) (.tup (.cons (.lit (.int 0)) (.cons (.lit (.int 1)) .nil)))) (.nm 5) (.rng1 (.var 1)) none)))
 .nil))
 .nil)
 (.cons (.ret (.var 3))
 .nil))))⟩
def d__law_turned : Df := ⟨[95, 108, 97, 119, 95, 116, 117, 114, 110, 101, 100], 1, [[115, 116, 101, 112], [110, 117, 109, 98, 101, 114]],
 (.cons (.ret (.bic .tuple (.mk [1] (.call f__law_minus (.cons (.var 1) .nil)) (.nm 1) (.valv 0) none)))
 .nil)⟩
def d__law_scaled : Df := ⟨[95, 108, 97, 119, 95, 115, 99, 97, 108, 101, 100], 2, [[115, 116, 101, 112], [110, 117, 109, 98, 101, 114], [111, 110, 101]],
 (.cons (.ret (.bic .tuple (.mk [2] (.call f__law_times (.cons (.var 2) (.cons (.var 1) .nil))) (.nm 2) (.valv 0) none)))
 .nil)⟩
def d__law_steps : Df := ⟨[95, 108, 97, 119, 95, 115, 116, 101, 112, 115], 3, [[98, 111, 120], [99, 104, 97, 110, 110, 101, 108, 115], [109, 111, 115, 116], [102, 111, 117, 110, 100], [116, 117, 114, 110], [119, 97, 121], [115, 116, 101, 112], [108, 97, 115, 116]],
 (.cons (.asg 3 (.lst .nil))
 (.cons (.fr (.nm 4) (.rng1 (.call f__law_take (.cons (.var 0) (.cons (.bin .add (.var 2) (.lit (.int 1))) .nil))))
 (.cons (.asg 5 (.call f__law_take (.cons (.var 0) (.cons (.lit (.int 8)) .nil))))
 (.cons (.asg 6 (.call f__law_step (.cons (.var 0) (.cons (.var 1) .nil))))
 (.cons (.ife (.and (.cmp .ne (.var 3) (.lstF .nil)) (.cmp .lt (.var 5) (.lit (.int 5))))
 (.cons (.asg 7 (.ite (.cmp .lt (.var 5) (.lit (.int 4))) (.idx (.var 3) (.neg (.lit (.int 1)))) (.idx (.var 3) (.call f__law_take (.cons (.var 0) (.cons (.bi .len (.cons (.var 3) .nil)) .nil))))))
 (.cons (.asg 6 (.idxl (.cons (.var 7) (.cons (.call f__law_turned (.cons (.var 7) .nil)) (.cons (.call f__law_scaled (.cons (.var 7) (.cons (.call f__law_number (.cons (.var 0) .nil)) .nil))) (.cons (.bin .mul (.tup (.cons (.tup (.cons (.lit (.int 0)) (.cons (.lit (.int 1)) .nil))) .nil)) (.var 1)) (.cons (.call f__law_turned (.cons (.var 7) .nil)) .nil))))) (.var 5)))
 .nil))
 .nil)
 (.cons (.expr (.app (.var 3) (.var 6)))
 .nil)))))
 (.cons (.ret (.bi .tuple (.cons (.var 3) .nil)))
 .nil)))⟩
def d__law_at : Df := ⟨[95, 108, 97, 119, 95, 97, 116], 2, [[115, 116, 101, 112], [108, 101, 116, 116, 101, 114], [116, 111, 112], [98, 97, 115, 101], [107], [116, 117, 114, 110]],
 (.cons (.asgT [(.nm 2), (.nm 3)] (.tup (.cons (.lit (.int 1)) (.cons (.lit (.int 1)) .nil))))
 (.cons (.fr (.nm 4) (.rng1 (.bi .len (.cons (.var 1) .nil)))
 (.cons (.fr (.nm 5) (.rng1 (.idx (.var 1) (.var 4)))
 (.cons (.par [2, 3] (.cons (.bin .mul (.var 2) (.idx (.idx (.var 0) (.var 4)) (.lit (.int 0)))) (.cons (.bin .mul (.var 3) (.idx (.idx (.var 0) (.var 4)) (.lit (.int 1)))) .nil)))
 .nil))
 .nil))
 (.cons (.ret (.call f__law_low (.cons (.var 2) (.cons (.var 3) .nil))))
 .nil)))⟩
def d__law_nested : Df := ⟨[95, 108, 97, 119, 95, 110, 101, 115, 116, 101, 100], 2, [[115, 116, 101, 112, 115], [119, 111, 114, 100], [114, 111, 119, 115], [108, 101, 116, 116, 101, 114], [108, 111, 110, 103, 101, 114], [97, 116], [109, 117, 99, 104], [107], [116, 111, 116, 97, 108]],
 (.cons (.asg 2 (.lstF (.cons (.lstF (.cons (.lit (.int 0)) (.cons (.tup (.cons (.lit (.int 1)) (.cons (.lit (.int 1)) .nil))) .nil))) .nil)))
 (.cons (.fr (.nm 3) (.val (.var 1))
 (.cons (.asg 4 (.lst .nil))
 (.cons (.fr (.tp [(.nm 5), (.nm 6)]) (.val (.var 2))
 (.cons (.fr (.nm 7) (.rng2 (.var 5) (.bi .len (.cons (.var 0) .nil)))
 (.cons (.expr (.app (.var 4) (.lstF (.cons (.bin .add (.var 7) (.lit (.int 1))) (.cons (.call f__law_times (.cons (.var 6) (.cons (.call f__law_at (.cons (.idx (.var 0) (.var 7)) (.cons (.var 3) .nil))) .nil))) .nil)))))
 .nil))
 .nil))
 (.cons (.asg 2 (.frz 4))
 .nil))))
 (.cons (.asg 8 (.tup (.cons (.lit (.int 0)) (.cons (.lit (.int 1)) .nil))))
 (.cons (.fr (.tp [(.nm 5), (.nm 6)]) (.val (.var 2))
 (.cons (.asg 8 (.call f__law_plus (.cons (.var 8) (.cons (.var 6) .nil))))
 .nil))
 (.cons (.ret (.var 8))
 .nil)))))⟩
def d__law_told : Df := ⟨[95, 108, 97, 119, 95, 116, 111, 108, 100], 2, [[102, 111, 114, 109], [115, 116, 101, 112, 115], [116, 111, 116, 97, 108], [119, 111, 114, 100], [110, 117, 109, 98, 101, 114]],
 (.cons (.asg 2 (.tup (.cons (.lit (.int 0)) (.cons (.lit (.int 1)) .nil))))
 (.cons (.fr (.tp [(.nm 3), (.nm 4)]) (.val (.idx (.var 0) (.lit (.int 1))))
 (.cons (.asg 2 (.call f__law_plus (.cons (.var 2) (.cons (.call f__law_times (.cons (.var 4) (.cons (.call f__law_nested (.cons (.var 1) (.cons (.var 3) .nil))) .nil))) .nil))))
 .nil))
 (.cons (.ret (.var 2))
 .nil)))⟩
def d__law_letter : Df := ⟨[95, 108, 97, 119, 95, 108, 101, 116, 116, 101, 114], 4, [[98, 111, 120], [99, 104, 97, 110, 110, 101, 108, 115], [114, 111, 111, 109], [107, 105, 110, 100], [109, 111, 115, 116], [119, 101, 105, 103, 104, 116], [102, 111, 117, 110, 100], [116, 117, 114, 110], [97, 116]],
 (.cons (.asg 4 (.bi .min (.cons (.var 2) (.cons (.idxl (.cons (.lit (.int 3)) (.cons (.lit (.int 3)) (.cons (.lit (.int 3)) (.cons (.lit (.int 1)) .nil)))) (.var 3)) .nil))))
 (.cons (.asg 5 (.ite (.cmp .eq (.var 3) (.lit (.int 0))) (.call f__law_take (.cons (.var 0) (.cons (.bin .add (.var 4) (.lit (.int 1))) .nil))) (.bin .add (.lit (.int 1)) (.call f__law_take (.cons (.var 0) (.cons (.var 4) .nil))))))
 (.cons (.asg 5 (.ite (.and (.cmp .eq (.var 3) (.lit (.int 2))) (.cmp .eq (.var 5) (.lit (.int 2)))) (.bin .sub (.var 5) (.lit (.int 1))) (.var 5)))
 (.cons (.asg 6 (.bin .mul (.lst (.cons (.lit (.int 0)) .nil)) (.var 1)))
 (.cons (.fr (.nm 7) (.rng1 (.var 5))
 (.cons (.asg 8 (.call f__law_take (.cons (.var 0) (.cons (.var 1) .nil))))
 (.cons (.setI (.var 6) (.var 8) (.bin .add (.idx (.var 6) (.var 8)) (.lit (.int 1))))
 .nil)))
 (.cons (.ret (.bi .tuple (.cons (.var 6) .nil)))
 .nil))))))⟩
def d__law_word : Df := ⟨[95, 108, 97, 119, 95, 119, 111, 114, 100], 4, [[98, 111, 120], [99, 104, 97, 110, 110, 101, 108, 115], [115, 105, 122, 101], [107, 105, 110, 100], [102, 111, 117, 110, 100], [114, 111, 111, 109], [116, 117, 114, 110], [108, 101, 116, 116, 101, 114]],
 (.cons (.par [4, 5] (.cons (.tup .nil) (.cons (.call f__law_take (.cons (.var 0) (.cons (.bin .add (.var 2) (.lit (.int 1))) .nil))) .nil)))
 (.cons (.fr (.nm 6) (.rng1 (.var 2))
 (.cons (.ife (.cmp .gt (.var 5) (.lit (.int 0)))
 (.cons (.asg 7 (.call f__law_letter (.cons (.var 0) (.cons (.var 1) (.cons (.var 5) (.cons (.var 3) .nil))))))
 (.cons (.par [4, 5] (.cons (.bin .add (.var 4) (.tup (.cons (.var 7) .nil))) (.cons (.bin .sub (.var 5) (.bi .max (.cons (.lit (.int 1)) (.cons (.bi .sum (.cons (.var 7) .nil)) .nil)))) .nil)))
 (.cons (.ife (.cmp .eq (.call f__law_take (.cons (.var 0) (.cons (.lit (.int 5)) .nil))) (.lit (.int 0)))
 (.cons (.asg 5 (.lit (.int 0)))
 .nil)
 .nil)
 .nil)))
 .nil)
 .nil))
 (.cons (.ret (.var 4))
 .nil)))⟩
def d__law_key : Df := ⟨[95, 108, 97, 119, 95, 107, 101, 121], 1, [[119, 111, 114, 100]],
 (.cons (.ret (.tup (.cons (.bi .len (.cons (.var 0) .nil)) (.cons (.var 0) .nil))))
 .nil)⟩
def d__law_add : Df := ⟨[95, 108, 97, 119, 95, 97, 100, 100], 3, [[110, 117, 109, 98, 101, 114, 115], [119, 111, 114, 100], [110, 117, 109, 98, 101, 114]],
 (.cons (.setI (.var 0) (.var 1) (.ite (.cmp .in_ (.var 1) (.var 0)) (.call f__law_plus (.cons (.idx (.var 0) (.var 1)) (.cons (.var 2) .nil))) (.var 2)))
 .nil)⟩
def d__law_form_of : Df := ⟨[95, 108, 97, 119, 95, 102, 111, 114, 109, 95, 111, 102], 2, [[99, 104, 97, 110, 110, 101, 108, 115], [110, 117, 109, 98, 101, 114, 115], [119, 111, 114, 100, 115], [119, 111, 114, 100], [115, 105, 122, 101]],
 (.cons (.asg 2 (.bic .sortedF (.dk [3] (.call f__law_key (.cons (.var 3) .nil)) (.nm 3) 1 none)))
 (.cons (.ret (.tup (.cons (.var 0) (.cons (.bic .tuple (.mk [4, 3] (.tup (.cons (.var 3) (.cons (.idx (.var 1) (.var 3)) .nil))) (.tp [(.nm 4), (.nm 3)]) (.valv 2) (some (.cmp .ne (.idx (.idx (.var 1) (.var 3)) (.lit (.int 0))) (.lit (.int 0)))))) .nil))))
 .nil))⟩
def d__law_form : Df := ⟨[95, 108, 97, 119, 95, 102, 111, 114, 109], 5, [[98, 111, 120], [99, 104, 97, 110, 110, 101, 108, 115], [115, 105, 122, 101], [109, 97, 110, 121], [107, 105, 110, 100], [110, 117, 109, 98, 101, 114, 115], [116, 117, 114, 110]],
 (.cons (.asg 5 .dct0)
 (.cons (.fr (.nm 6) (.rng1 (.call f__law_take (.cons (.var 0) (.cons (.bin .add (.var 3) (.lit (.int 1))) .nil))))
 (.cons (.expr (.call f__law_add (.cons (.var 5) (.cons (.call f__law_word (.cons (.var 0) (.cons (.var 1) (.cons (.var 2) (.cons (.var 4) .nil))))) (.cons (.call f__law_number (.cons (.var 0) .nil)) .nil)))))
 .nil))
 (.cons (.ret (.call f__law_form_of (.cons (.var 1) (.cons (.var 5) .nil))))
 .nil)))⟩
def d__law_same : Df := ⟨[95, 108, 97, 119, 95, 115, 97, 109, 101], 2, [[103, 105, 118, 101, 110], [100, 117, 101], [107, 101, 121], [107]],
 (.cons (.ife (.or (.cmp .is_ (.var 1) (.lit .non)) (.isi (.var 1) [.bool]))
 (.cons (.ret (.ite (.cmp .is_ (.var 1) (.lit .non)) (.cmp .is_ (.var 0) (.lit .non)) (.and (.isi (.var 0) [.bool]) (.cmp .eq (.cmp .is_ (.var 0) (.lit (.bl true))) (.cmp .is_ (.var 1) (.lit (.bl true)))))))
 .nil)
 .nil)
 (.cons (.ife (.isi (.var 1) [.int])
 (.cons (.ret (.and (.isi (.var 0) [.int]) (.and (.not (.isi (.var 0) [.bool])) (.cmp .eq (.var 0) (.var 1)))))
 .nil)
 .nil)
 (.cons (.ife (.isi (.var 1) [.str])
 (.cons (.ret (.and (.isi (.var 0) [.str]) (.cmp .eq (.var 0) (.var 1))))
 .nil)
 .nil)
 (.cons (.ife (.isi (.var 1) [.dict])
 (.cons (.ife (.or (.not (.isi (.var 0) [.dict])) (.cmp .ne (.bi .len (.cons (.var 0) .nil)) (.bi .len (.cons (.var 1) .nil))))
 (.cons (.ret (.lit (.bl false)))
 .nil)
 .nil)
 (.cons (.ret (.nilc false (.mk [2] (.var 2) (.nm 2) (.valv 1) (some (.or (.cmp .notin (.var 2) (.var 0)) (.not (.call f__law_same (.cons (.idx (.var 0) (.var 2)) (.cons (.idx (.var 1) (.var 2)) .nil)))))))))
 .nil))
 .nil)
 (.cons (.ife (.isi (.var 1) [.list, .tuple])
 (.cons (.ife (.or (.not (.isi (.var 0) [.list, .tuple])) (.or (.cmp .ne (.isi (.var 0) [.list]) (.isi (.var 1) [.list])) (.cmp .ne (.bi .len (.cons (.var 0) .nil)) (.bi .len (.cons (.var 1) .nil)))))
 (.cons (.ret (.lit (.bl false)))
 .nil)
 .nil)
 (.cons (.ret (.nilc false (.mk [3] (.var 3) (.nm 3) (.rng1 (.bi .len (.cons (.var 1) .nil))) (some (.not (.call f__law_same (.cons (.idx (.var 0) (.var 3)) (.cons (.idx (.var 1) (.var 3)) .nil))))))))
 .nil))
 .nil)
 (.cons (.ret (.and (.cmp .isnot (.var 0) (.lit .non)) (.not (.isi (.var 0) [.int, .str, .list, .tuple, .dict]))))
 .nil))))))⟩
def d__law_blamed : Df := ⟨[95, 108, 97, 119, 95, 98, 108, 97, 109, 101, 100], 2, [[103, 105, 118, 101, 110], [118, 97, 108, 117, 101]],
 (.cons (.ife (.not (.call f__law_same (.cons (.var 0) (.cons (.var 1) .nil))))
 (.cons (.ret (.lit (.bl false)))
 .nil)
 .nil)
 (.cons (.ife (.isi (.var 1) [.list])
 (.cons (.expr (.app (.var 1) (.lit (.int 7))))
 .nil)
 .nil)
 (.cons (.ret (.call f__law_same (.cons (.var 0) (.cons (.var 1) .nil))))
 .nil)))⟩
def d__law_no_form : Df := ⟨[95, 108, 97, 119, 95, 110, 111, 95, 102, 111, 114, 109], 2, [[98, 111, 120], [102, 111, 114, 109], [99, 104, 97, 110, 110, 101, 108, 115], [116, 101, 114, 109, 115], [122, 101, 114, 111], [109, 101, 110, 117]],
 (.cons (.asgT [(.nm 2), (.nm 3)] (.var 1))
 (.cons (.asg 4 (.bin .mul (.tup (.cons (.lit (.int 0)) .nil)) (.var 2)))
 (.cons (.asg 5 (.lstF (.cons (.lit .non) (.cons (.lit (.int 0)) (.cons (.lit (.str [49, 58, 32, 48])) (.cons (.lst .nil) (.cons .dctF (.cons (.bi .list (.cons (.var 1) .nil)) (.cons (.tup (.cons (.var 2) .nil)) (.cons (.tup (.cons (.var 2) (.cons (.bi .listF (.cons (.var 3) .nil)) .nil))) (.cons (.tup (.cons (.var 2) (.cons (.var 3) (.cons (.tup .nil) .nil)))) (.cons (.tup (.cons (.lit (.int 0)) (.cons (.tup .nil) .nil))) (.cons (.tup (.cons (.lit (.int 4)) (.cons (.tup .nil) .nil))) (.cons (.tup (.cons (.lit (.bl true)) (.cons (.tup .nil) .nil))) (.cons (.tup (.cons (.lit .non) (.cons (.var 3) .nil))) .nil)))))))))))))))
 (.cons (.asg 5 (.bin .add (.var 5) (.lstF (.cons (.tup (.cons (.var 2) (.cons (.tup (.cons (.tup (.cons (.tup (.cons (.var 4) .nil)) (.cons (.tup (.cons (.lit (.int 0)) (.cons (.lit (.int 1)) .nil))) .nil))) .nil)) .nil))) (.cons (.tup (.cons (.var 2) (.cons (.tup (.cons (.tup (.cons (.tup (.cons (.var 4) .nil)) (.cons (.tup (.cons (.lit (.int 2)) (.cons (.lit (.int 4)) .nil))) .nil))) .nil)) .nil))) (.cons (.tup (.cons (.var 2) (.cons (.tup (.cons (.tup (.cons (.tup (.cons (.var 4) .nil)) (.cons (.lit (.int 1)) .nil))) .nil)) .nil))) (.cons (.tup (.cons (.var 2) (.cons (.tup (.cons (.tup (.cons (.tup (.cons (.var 4) .nil)) (.cons (.tup (.cons (.lit (.int 1)) (.cons (.lit (.int 1)) .nil))) .nil))) (.cons (.tup (.cons (.tup .nil) (.cons (.tup (.cons (.lit (.int 1)) (.cons (.lit (.int 1)) .nil))) .nil))) .nil))) .nil))) .nil)))))))
 (.cons (.asg 5 (.bin .add (.var 5) (.lstF (.cons (.tup (.cons (.var 2) (.cons (.tup (.cons (.tup (.cons (.tup (.cons (.var 4) .nil)) (.cons (.tup (.cons (.lit (.int 1)) (.cons (.lit (.int 1)) .nil))) .nil))) (.cons (.tup (.cons (.tup (.cons (.var 4) .nil)) (.cons (.tup (.cons (.lit (.int 1)) (.cons (.lit (.int 1)) .nil))) .nil))) .nil))) .nil))) (.cons (.tup (.cons (.var 2) (.cons (.tup (.cons (.tup (.cons (.tup (.cons (.bin .mul (.tup (.cons (.lit (.int 0)) .nil)) (.bin .add (.var 2) (.lit (.int 1)))) .nil)) (.cons (.tup (.cons (.lit (.int 1)) (.cons (.lit (.int 1)) .nil))) .nil))) .nil)) .nil))) (.cons (.tup (.cons (.var 2) (.cons (.tup (.cons (.lstF (.cons (.tup (.cons (.var 4) .nil)) (.cons (.tup (.cons (.lit (.int 1)) (.cons (.lit (.int 1)) .nil))) .nil))) .nil)) .nil))) .nil))))))
 (.cons (.asg 5 (.bin .add (.var 5) (.lstF (.cons (.tup (.cons (.var 2) (.cons (.tup (.cons (.tup (.cons (.var 4) (.cons (.tup (.cons (.lit (.int 1)) (.cons (.lit (.int 1)) .nil))) .nil))) .nil)) .nil))) (.cons (.tup (.cons (.var 2) (.cons (.tup (.cons (.tup (.cons (.tup (.cons (.bin .mul (.tup (.cons (.neg (.lit (.int 1))) .nil)) (.var 2)) .nil)) (.cons (.tup (.cons (.lit (.int 1)) (.cons (.lit (.int 1)) .nil))) .nil))) .nil)) .nil))) (.cons (.tup (.cons (.var 2) (.cons (.tup (.cons (.tup (.cons (.tup (.cons (.var 4) .nil)) (.cons (.tup (.cons (.lit (.int 1)) (.cons (.neg (.lit (.int 1))) .nil))) .nil))) .nil)) .nil))) (.cons (.tup (.cons (.var 2) (.cons (.tup (.cons (.tup (.cons (.tup (.cons (.var 4) .nil)) .nil)) .nil)) .nil))) .nil)))))))
 (.cons (.ret (.idx (.var 5) (.call f__law_take (.cons (.var 0) (.cons (.lit (.int 24)) .nil)))))
 .nil)))))))⟩
def d__law_wide : Df := ⟨[95, 108, 97, 119, 95, 119, 105, 100, 101], 2, [[98, 111, 120], [99, 104, 97, 110, 110, 101, 108, 115]],
 (.cons (.ret (.ite (.cmp .eq (.call f__law_take (.cons (.var 0) (.cons (.lit (.int 8)) .nil))) (.lit (.int 0))) (.idxl (.cons (.lit (.int 6)) (.cons (.lit (.int 4)) (.cons (.lit (.int 3)) .nil))) (.bin .sub (.var 1) (.lit (.int 1)))) (.idxl (.cons (.lit (.int 4)) (.cons (.lit (.int 3)) (.cons (.lit (.int 2)) .nil))) (.bin .sub (.var 1) (.lit (.int 1))))))
 .nil)⟩
def d__law_asked : Df := ⟨[95, 108, 97, 119, 95, 97, 115, 107, 101, 100], 2, [[102, 111, 114, 109], [110, 97, 109, 101, 100], [101]],
 (.cons (.try_ (.cons (.ret (.lstF (.cons (.lit (.str [116, 111, 108, 100])) (.cons (.ite (.var 1) (.callk f_cut [0] [[102, 111, 114, 109]] (.cons (.var 0) .nil)) (.call f_cut (.cons (.var 0) .nil))) .nil))))
 .nil) [(.lst c_InvalidForm (some 2) [(.isn c_LookError (.str [102, 111, 114, 109]) (.str [])), (.attr [103, 105, 118, 101, 110])])])
 .nil)⟩
def d__law_due : Df := ⟨[95, 108, 97, 119, 95, 100, 117, 101], 1, [[102, 111, 114, 109], [102, 111, 117, 110, 100], [119, 111, 114, 100], [110, 117, 109, 98, 101, 114], [107]],
 (.cons (.asg 1 (.lst .nil))
 (.cons (.fr (.tp [(.nm 2), (.nm 3)]) (.val (.idx (.var 0) (.lit (.int 1))))
 (.cons (.expr (.me .extend (.var 1) (.cons (.compF (.mk [4] (.tup (.cons (.slc (.var 2) none (some (.var 4))) (.cons (.slc (.var 2) (some (.var 4)) none) (.cons (.var 3) .nil)))) (.nm 4) (.rng1 (.bin .add (.bi .len (.cons (.var 2) .nil)) (.lit (.int 1)))) none)) .nil)))
 .nil))
 (.cons (.ret (.bi .sortedF (.cons (.var 1) .nil)))
 .nil)))⟩
def d__law_across : Df := ⟨[95, 108, 97, 119, 95, 97, 99, 114, 111, 115, 115], 3, [[114, 111, 119, 115], [102, 105, 114, 115, 116], [115, 101, 99, 111, 110, 100], [116, 111, 116, 97, 108], [98, 101, 103, 105, 110, 110, 105, 110, 103], [101, 110, 100], [110, 117, 109, 98, 101, 114], [112, 97, 114, 116]],
 (.cons (.asg 3 (.tup (.cons (.lit (.int 0)) (.cons (.lit (.int 1)) .nil))))
 (.cons (.fr (.tp [(.nm 4), (.nm 5), (.nm 6)]) (.val (.var 0))
 (.cons (.asg 7 (.call f__law_times (.cons (.call f__law_nested (.cons (.var 1) (.cons (.var 4) .nil))) (.cons (.call f__law_nested (.cons (.var 2) (.cons (.var 5) .nil))) .nil))))
 (.cons (.asg 3 (.call f__law_plus (.cons (.var 3) (.cons (.call f__law_times (.cons (.var 6) (.cons (.var 7) .nil))) .nil))))
 .nil)))
 (.cons (.ret (.var 3))
 .nil)))⟩
def d__law_form_right : Df := ⟨[95, 108, 97, 119, 95, 102, 111, 114, 109, 95, 114, 105, 103, 104, 116], 5, [[98, 111, 120], [99, 104, 97, 110, 110, 101, 108, 115], [115, 105, 122, 101], [109, 97, 110, 121], [110, 97, 109, 101, 100], [102, 111, 114, 109], [100, 117, 101], [116, 111, 108, 100, 95, 111, 110, 101], [116, 117, 114, 110], [102, 105, 114, 115, 116], [115, 101, 99, 111, 110, 100], [98, 111, 116, 104], [110, 117, 109, 98, 101, 114]],
 (.cons (.asg 5 (.call f__law_form (.cons (.var 0) (.cons (.var 1) (.cons (.var 2) (.cons (.var 3) (.cons (.lit (.int 0)) .nil)))))))
 (.cons (.asg 6 (.lstF (.cons (.lit (.str [116, 111, 108, 100])) (.cons (.call f__law_due (.cons (.var 5) .nil)) .nil))))
 (.cons (.asg 7 (.call f__law_asked (.cons (.var 5) (.cons (.var 4) .nil))))
 (.cons (.ife (.not (.call f__law_same (.cons (.var 7) (.cons (.var 6) .nil))))
 (.cons (.ret (.lit (.bl false)))
 .nil)
 .nil)
 (.cons (.expr (.app (.idx (.var 7) (.lit (.int 1))) (.tup (.cons (.tup .nil) (.cons (.tup .nil) (.cons (.tup (.cons (.lit (.int 1)) (.cons (.lit (.int 1)) .nil))) .nil))))))
 (.cons (.expr (.me .reverse (.idx (.var 7) (.lit (.int 1))) .nil))
 (.cons (.ife (.not (.call f__law_same (.cons (.call f__law_asked (.cons (.var 5) (.cons (.not (.var 4)) .nil))) (.cons (.var 6) .nil))))
 (.cons (.ret (.lit (.bl false)))
 .nil)
 .nil)
 (.cons (.fr (.nm 8) (.rng1 (.lit (.int 2)))
 (.cons (.par [9, 10] (.cons (.call f__law_steps (.cons (.var 0) (.cons (.var 1) (.cons (.lit (.int 4)) .nil)))) (.cons (.call f__law_steps (.cons (.var 0) (.cons (.var 1) (.cons (.lit (.int 4)) .nil)))) .nil)))
 (.cons (.asg 11 (.ite (.var 4) (.callk f_joined [1, 0] [[111, 116, 104, 101, 114], [111, 110, 101]] (.cons (.tup (.cons (.var 1) (.cons (.var 10) .nil))) (.cons (.tup (.cons (.var 1) (.cons (.var 9) .nil))) .nil))) (.call f_joined (.cons (.tup (.cons (.var 1) (.cons (.var 9) .nil))) (.cons (.tup (.cons (.var 1) (.cons (.var 10) .nil))) .nil)))))
 (.cons (.asg 12 (.call f__law_across (.cons (.idx (.var 6) (.lit (.int 1))) (.cons (.var 9) (.cons (.var 10) .nil)))))
 (.cons (.ife (.or (.not (.call f__law_same (.cons (.var 11) (.cons (.tup (.cons (.var 1) (.cons (.bin .add (.var 9) (.var 10)) .nil))) .nil)))) (.not (.call f__law_same (.cons (.call f_told (.cons (.var 5) (.cons (.var 11) .nil))) (.cons (.var 12) .nil)))))
 (.cons (.ret (.lit (.bl false)))
 .nil)
 .nil)
 (.cons (.ife (.not (.call f__law_same (.cons (.call f__law_told (.cons (.var 5) (.cons (.bin .add (.var 9) (.var 10)) .nil))) (.cons (.var 12) .nil))))
 (.cons (.ret (.lit (.bl false)))
 .nil)
 .nil)
 .nil))))))
 (.cons (.ret (.lit (.bl true)))
 .nil)))))))))⟩
def d__law_refused_right : Df := ⟨[95, 108, 97, 119, 95, 114, 101, 102, 117, 115, 101, 100, 95, 114, 105, 103, 104, 116], 3, [[98, 111, 120], [99, 104, 97, 110, 110, 101, 108, 115], [110, 97, 109, 101, 100], [102, 111, 114, 109], [116, 117, 114, 110], [98, 97, 100], [116, 111, 108, 100, 95, 111, 110, 101]],
 (.cons (.asg 3 (.call f__law_form (.cons (.var 0) (.cons (.var 1) (.cons (.lit (.int 3)) (.cons (.lit (.int 3)) (.cons (.lit (.int 0)) .nil)))))))
 (.cons (.fr (.nm 4) (.rng1 (.lit (.int 4)))
 (.cons (.asg 5 (.call f__law_no_form (.cons (.var 0) (.cons (.var 3) .nil))))
 (.cons (.asg 6 (.call f__law_asked (.cons (.var 5) (.cons (.var 2) .nil))))
 (.cons (.ife (.or (.cmp .ne (.idx (.var 6) (.lit (.int 0))) (.lit (.str [102, 111, 114, 109]))) (.not (.call f__law_blamed (.cons (.idx (.var 6) (.lit (.int 1))) (.cons (.var 5) .nil)))))
 (.cons (.ret (.lit (.bl false)))
 .nil)
 .nil)
 (.cons (.asg 2 (.not (.var 2)))
 .nil)))))
 (.cons (.ret (.lit (.bl true)))
 .nil)))⟩
def d_law : Df := ⟨[108, 97, 119], 1, [[115, 99, 114, 105, 112, 116], [107], [98, 111, 120], [103, 114, 101, 97, 116], [110, 97, 109, 101, 100], [99, 104, 97, 110, 110, 101, 108, 115], [115, 105, 122, 101]],
 (.cons (.fr (.nm 1) (.rng1 (.bi .max (.cons (.lit (.int 2)) (.cons (.bi .min (.cons (.lit (.int 4)) (.cons (.bi .len (.cons (.var 0) .nil)) .nil))) .nil))))
 (.cons (.asg 2 (.call f__law_box (.cons (.call f__law_cell (.cons (.var 0) (.cons (.var 1) .nil))) .nil)))
 (.cons (.par [3, 4, 5] (.cons (.and (.cmp .eq (.call f__law_take (.cons (.var 2) (.cons (.lit (.int 8)) .nil))) (.lit (.int 0))) (.cmp .eq (.var 1) (.lit (.int 0)))) (.cons (.cmp .eq (.call f__law_take (.cons (.var 2) (.cons (.lit (.int 2)) .nil))) (.lit (.int 0))) (.cons (.bin .add (.lit (.int 1)) (.call f__law_take (.cons (.var 2) (.cons (.lit (.int 3)) .nil)))) .nil))))
 (.cons (.asg 6 (.ite (.var 3) (.idxl (.cons (.lit (.int 6)) (.cons (.lit (.int 4)) (.cons (.lit (.int 3)) .nil))) (.bin .sub (.var 5) (.lit (.int 1)))) (.call f__law_wide (.cons (.var 2) (.cons (.var 5) .nil)))))
 (.cons (.ife (.not (.call f__law_form_right (.cons (.var 2) (.cons (.var 5) (.cons (.var 6) (.cons (.ite (.var 3) (.lit (.int 20)) (.lit (.int 6))) (.cons (.var 4) .nil)))))))
 (.cons (.ret (.lit (.bl false)))
 .nil)
 .nil)
 (.cons (.ife (.or (.not (.call f__law_form_right (.cons (.var 2) (.cons (.idxl (.cons (.lit (.int 2)) (.cons (.lit (.int 3)) (.cons (.lit (.int 1)) .nil))) (.bin .sub (.var 5) (.lit (.int 1)))) (.cons (.lit (.int 3)) (.cons (.lit (.int 4)) (.cons (.not (.var 4)) .nil))))))) (.not (.call f__law_refused_right (.cons (.var 2) (.cons (.var 5) (.cons (.var 4) .nil))))))
 (.cons (.ret (.lit (.bl false)))
 .nil)
 .nil)
 .nil))))))
 (.cons (.ret (.lit (.bl true)))
 .nil))⟩
def T : List Df := [d_is_integer, d_is_count, d_is_between, d_is_tuple, d_divisor, d_lowest, d_is_number, d_is_row, d_is_row_of, d_sum_of, d_product_of, d_power_of, d_is_channels, d_is_walk, d_check_walk, d_check_walk_of, d_check_walks, d_step_power, d_joined_in, d_joined, d_is_letter, d_is_word_in, d_word_key, d_sums_along, d_sum_on, d_is_term, d_is_form, d_check_form, d_told_of, d_told, d_cuts_of, d_cut, d__law_cell, d__law_box, d__law_take, d__law_low, d__law_plus, d__law_times, d__law_minus, d__law_number, d__law_step, d__law_turned, d__law_scaled, d__law_steps, d__law_at, d__law_nested, d__law_told, d__law_letter, d__law_word, d__law_key, d__law_add, d__law_form_of, d__law_form, d__law_same, d__law_blamed, d__law_no_form, d__law_wide, d__law_asked, d__law_due, d__law_across, d__law_form_right, d__law_refused_right, d_law]
def G : Glo where
  T := T
  cons := [([90, 69, 82, 79], (.tup [(.int 0), (.int 1)])), ([79, 78, 69], (.tup [(.int 1), (.int 1)])), ([77, 79, 83, 84, 95, 67, 72, 65, 78, 78, 69, 76, 83], (.int 3))]
  kws := [(f_cut, [0], [[102, 111, 114, 109]]), (f_joined, [1, 0], [[111, 116, 104, 101, 114], [111, 110, 101]])]
  cls := [[76, 111, 111, 107, 69, 114, 114, 111, 114], [73, 110, 118, 97, 108, 105, 100, 70, 111, 114, 109], [73, 110, 118, 97, 108, 105, 100, 79, 116, 104, 101, 114], [73, 110, 118, 97, 108, 105, 100, 87, 97, 108, 107]]
  flds := [[103, 105, 118, 101, 110]]
  exs := [(c_InvalidForm, [[103, 105, 118, 101, 110]]), (c_InvalidOther, [[103, 105, 118, 101, 110]]), (c_InvalidWalk, [[103, 105, 118, 101, 110]])]
  sub := fun c d => c == d || d == 0
def top (i : Nat) : Stmt := PySem.Challenge.pw_eightlooks_k12_whole_cuts_of_words_at_jo.main.body.getD i (.Pass ⟨0, 0, 0, 0⟩)
theorem ok_is_integer : okDf G d_is_integer (top 6) = true := by decide +kernel
theorem bi_is_integer : BindOk d_is_integer (top 6) := fun _ _ _ _ _ _ us hl => match us, hl with | [_], _ => rfl
theorem kw_is_integer : KwsOk G f_is_integer d_is_integer (top 6) := List.forall_mem_cons.mpr ⟨fun h => absurd h (by decide), List.forall_mem_cons.mpr ⟨fun h => absurd h (by decide), fun _ h => absurd h (by simp)⟩⟩
theorem ok_is_count : okDf G d_is_count (top 7) = true := by decide +kernel
theorem bi_is_count : BindOk d_is_count (top 7) := fun _ _ _ _ _ _ us hl => match us, hl with | [_], _ => rfl
theorem kw_is_count : KwsOk G f_is_count d_is_count (top 7) := List.forall_mem_cons.mpr ⟨fun h => absurd h (by decide), List.forall_mem_cons.mpr ⟨fun h => absurd h (by decide), fun _ h => absurd h (by simp)⟩⟩
theorem ok_is_between : okDf G d_is_between (top 8) = true := by decide +kernel
theorem bi_is_between : BindOk d_is_between (top 8) := fun _ _ _ _ _ _ us hl => match us, hl with | [_, _, _], _ => rfl
theorem kw_is_between : KwsOk G f_is_between d_is_between (top 8) := List.forall_mem_cons.mpr ⟨fun h => absurd h (by decide), List.forall_mem_cons.mpr ⟨fun h => absurd h (by decide), fun _ h => absurd h (by simp)⟩⟩
theorem ok_is_tuple : okDf G d_is_tuple (top 9) = true := by decide +kernel
theorem bi_is_tuple : BindOk d_is_tuple (top 9) := fun _ _ _ _ _ _ us hl => match us, hl with | [_, _], _ => rfl
theorem kw_is_tuple : KwsOk G f_is_tuple d_is_tuple (top 9) := List.forall_mem_cons.mpr ⟨fun h => absurd h (by decide), List.forall_mem_cons.mpr ⟨fun h => absurd h (by decide), fun _ h => absurd h (by simp)⟩⟩
theorem ok_divisor : okDf G d_divisor (top 10) = true := by decide +kernel
theorem bi_divisor : BindOk d_divisor (top 10) := fun _ _ _ _ _ _ us hl => match us, hl with | [_, _], _ => rfl
theorem kw_divisor : KwsOk G f_divisor d_divisor (top 10) := List.forall_mem_cons.mpr ⟨fun h => absurd h (by decide), List.forall_mem_cons.mpr ⟨fun h => absurd h (by decide), fun _ h => absurd h (by simp)⟩⟩
theorem ok_lowest : okDf G d_lowest (top 14) = true := by decide +kernel
theorem bi_lowest : BindOk d_lowest (top 14) := fun _ _ _ _ _ _ us hl => match us, hl with | [_, _], _ => rfl
theorem kw_lowest : KwsOk G f_lowest d_lowest (top 14) := List.forall_mem_cons.mpr ⟨fun h => absurd h (by decide), List.forall_mem_cons.mpr ⟨fun h => absurd h (by decide), fun _ h => absurd h (by simp)⟩⟩
theorem ok_is_number : okDf G d_is_number (top 15) = true := by decide +kernel
theorem bi_is_number : BindOk d_is_number (top 15) := fun _ _ _ _ _ _ us hl => match us, hl with | [_], _ => rfl
theorem kw_is_number : KwsOk G f_is_number d_is_number (top 15) := List.forall_mem_cons.mpr ⟨fun h => absurd h (by decide), List.forall_mem_cons.mpr ⟨fun h => absurd h (by decide), fun _ h => absurd h (by simp)⟩⟩
theorem ok_is_row : okDf G d_is_row (top 16) = true := by decide +kernel
theorem bi_is_row : BindOk d_is_row (top 16) := fun _ _ _ _ _ _ us hl => match us, hl with | [_], _ => rfl
theorem kw_is_row : KwsOk G f_is_row d_is_row (top 16) := List.forall_mem_cons.mpr ⟨fun h => absurd h (by decide), List.forall_mem_cons.mpr ⟨fun h => absurd h (by decide), fun _ h => absurd h (by simp)⟩⟩
theorem ok_is_row_of : okDf G d_is_row_of (top 17) = true := by decide +kernel
theorem bi_is_row_of : BindOk d_is_row_of (top 17) := fun _ _ _ _ _ _ us hl => match us, hl with | [_, _], _ => rfl
theorem kw_is_row_of : KwsOk G f_is_row_of d_is_row_of (top 17) := List.forall_mem_cons.mpr ⟨fun h => absurd h (by decide), List.forall_mem_cons.mpr ⟨fun h => absurd h (by decide), fun _ h => absurd h (by simp)⟩⟩
theorem ok_sum_of : okDf G d_sum_of (top 18) = true := by decide +kernel
theorem bi_sum_of : BindOk d_sum_of (top 18) := fun _ _ _ _ _ _ us hl => match us, hl with | [_, _], _ => rfl
theorem kw_sum_of : KwsOk G f_sum_of d_sum_of (top 18) := List.forall_mem_cons.mpr ⟨fun h => absurd h (by decide), List.forall_mem_cons.mpr ⟨fun h => absurd h (by decide), fun _ h => absurd h (by simp)⟩⟩
theorem ok_product_of : okDf G d_product_of (top 19) = true := by decide +kernel
theorem bi_product_of : BindOk d_product_of (top 19) := fun _ _ _ _ _ _ us hl => match us, hl with | [_, _], _ => rfl
theorem kw_product_of : KwsOk G f_product_of d_product_of (top 19) := List.forall_mem_cons.mpr ⟨fun h => absurd h (by decide), List.forall_mem_cons.mpr ⟨fun h => absurd h (by decide), fun _ h => absurd h (by simp)⟩⟩
theorem ok_power_of : okDf G d_power_of (top 20) = true := by decide +kernel
theorem bi_power_of : BindOk d_power_of (top 20) := fun _ _ _ _ _ _ us hl => match us, hl with | [_, _], _ => rfl
theorem kw_power_of : KwsOk G f_power_of d_power_of (top 20) := List.forall_mem_cons.mpr ⟨fun h => absurd h (by decide), List.forall_mem_cons.mpr ⟨fun h => absurd h (by decide), fun _ h => absurd h (by simp)⟩⟩
theorem ok_is_channels : okDf G d_is_channels (top 23) = true := by decide +kernel
theorem bi_is_channels : BindOk d_is_channels (top 23) := fun _ _ _ _ _ _ us hl => match us, hl with | [_], _ => rfl
theorem kw_is_channels : KwsOk G f_is_channels d_is_channels (top 23) := List.forall_mem_cons.mpr ⟨fun h => absurd h (by decide), List.forall_mem_cons.mpr ⟨fun h => absurd h (by decide), fun _ h => absurd h (by simp)⟩⟩
theorem ok_is_walk : okDf G d_is_walk (top 24) = true := by decide +kernel
theorem bi_is_walk : BindOk d_is_walk (top 24) := fun _ _ _ _ _ _ us hl => match us, hl with | [_], _ => rfl
theorem kw_is_walk : KwsOk G f_is_walk d_is_walk (top 24) := List.forall_mem_cons.mpr ⟨fun h => absurd h (by decide), List.forall_mem_cons.mpr ⟨fun h => absurd h (by decide), fun _ h => absurd h (by simp)⟩⟩
theorem ok_check_walk : okDf G d_check_walk (top 25) = true := by decide +kernel
theorem bi_check_walk : BindOk d_check_walk (top 25) := fun _ _ _ _ _ _ us hl => match us, hl with | [_], _ => rfl
theorem kw_check_walk : KwsOk G f_check_walk d_check_walk (top 25) := List.forall_mem_cons.mpr ⟨fun h => absurd h (by decide), List.forall_mem_cons.mpr ⟨fun h => absurd h (by decide), fun _ h => absurd h (by simp)⟩⟩
theorem ok_check_walk_of : okDf G d_check_walk_of (top 26) = true := by decide +kernel
theorem bi_check_walk_of : BindOk d_check_walk_of (top 26) := fun _ _ _ _ _ _ us hl => match us, hl with | [_, _], _ => rfl
theorem kw_check_walk_of : KwsOk G f_check_walk_of d_check_walk_of (top 26) := List.forall_mem_cons.mpr ⟨fun h => absurd h (by decide), List.forall_mem_cons.mpr ⟨fun h => absurd h (by decide), fun _ h => absurd h (by simp)⟩⟩
theorem ok_check_walks : okDf G d_check_walks (top 27) = true := by decide +kernel
theorem bi_check_walks : BindOk d_check_walks (top 27) := fun _ _ _ _ _ _ us hl => match us, hl with | [_, _], _ => rfl
theorem kw_check_walks : KwsOk G f_check_walks d_check_walks (top 27) := List.forall_mem_cons.mpr ⟨fun h => absurd h (by decide), List.forall_mem_cons.mpr ⟨fun h => absurd h (by decide), fun _ h => absurd h (by simp)⟩⟩
theorem ok_step_power : okDf G d_step_power (top 28) = true := by decide +kernel
theorem bi_step_power : BindOk d_step_power (top 28) := fun _ _ _ _ _ _ us hl => match us, hl with | [_, _], _ => rfl
theorem kw_step_power : KwsOk G f_step_power d_step_power (top 28) := List.forall_mem_cons.mpr ⟨fun h => absurd h (by decide), List.forall_mem_cons.mpr ⟨fun h => absurd h (by decide), fun _ h => absurd h (by simp)⟩⟩
theorem ok_joined_in : okDf G d_joined_in (top 29) = true := by decide +kernel
theorem bi_joined_in : BindOk d_joined_in (top 29) := fun _ _ _ _ _ _ us hl => match us, hl with | [_, _], _ => rfl
theorem kw_joined_in : KwsOk G f_joined_in d_joined_in (top 29) := List.forall_mem_cons.mpr ⟨fun h => absurd h (by decide), List.forall_mem_cons.mpr ⟨fun h => absurd h (by decide), fun _ h => absurd h (by simp)⟩⟩
theorem ok_joined : okDf G d_joined (top 30) = true := by decide +kernel
theorem bi_joined : BindOk d_joined (top 30) := fun _ _ _ _ _ _ us hl => match us, hl with | [_, _], _ => rfl
theorem kw_joined : KwsOk G f_joined d_joined (top 30) := List.forall_mem_cons.mpr ⟨fun h => absurd h (by decide), List.forall_mem_cons.mpr ⟨fun _ => ⟨by decide, fun _ _ _ _ _ _ ws hl => match ws, hl with | [_, _], _ => rfl⟩, fun _ h => absurd h (by simp)⟩⟩
theorem ok_is_letter : okDf G d_is_letter (top 32) = true := by decide +kernel
theorem bi_is_letter : BindOk d_is_letter (top 32) := fun _ _ _ _ _ _ us hl => match us, hl with | [_, _], _ => rfl
theorem kw_is_letter : KwsOk G f_is_letter d_is_letter (top 32) := List.forall_mem_cons.mpr ⟨fun h => absurd h (by decide), List.forall_mem_cons.mpr ⟨fun h => absurd h (by decide), fun _ h => absurd h (by simp)⟩⟩
theorem ok_is_word_in : okDf G d_is_word_in (top 33) = true := by decide +kernel
theorem bi_is_word_in : BindOk d_is_word_in (top 33) := fun _ _ _ _ _ _ us hl => match us, hl with | [_, _], _ => rfl
theorem kw_is_word_in : KwsOk G f_is_word_in d_is_word_in (top 33) := List.forall_mem_cons.mpr ⟨fun h => absurd h (by decide), List.forall_mem_cons.mpr ⟨fun h => absurd h (by decide), fun _ h => absurd h (by simp)⟩⟩
theorem ok_word_key : okDf G d_word_key (top 34) = true := by decide +kernel
theorem bi_word_key : BindOk d_word_key (top 34) := fun _ _ _ _ _ _ us hl => match us, hl with | [_], _ => rfl
theorem kw_word_key : KwsOk G f_word_key d_word_key (top 34) := List.forall_mem_cons.mpr ⟨fun h => absurd h (by decide), List.forall_mem_cons.mpr ⟨fun h => absurd h (by decide), fun _ h => absurd h (by simp)⟩⟩
theorem ok_sums_along : okDf G d_sums_along (top 36) = true := by decide +kernel
theorem bi_sums_along : BindOk d_sums_along (top 36) := fun _ _ _ _ _ _ us hl => match us, hl with | [_, _], _ => rfl
theorem kw_sums_along : KwsOk G f_sums_along d_sums_along (top 36) := List.forall_mem_cons.mpr ⟨fun h => absurd h (by decide), List.forall_mem_cons.mpr ⟨fun h => absurd h (by decide), fun _ h => absurd h (by simp)⟩⟩
theorem ok_sum_on : okDf G d_sum_on (top 37) = true := by decide +kernel
theorem bi_sum_on : BindOk d_sum_on (top 37) := fun _ _ _ _ _ _ us hl => match us, hl with | [_, _], _ => rfl
theorem kw_sum_on : KwsOk G f_sum_on d_sum_on (top 37) := List.forall_mem_cons.mpr ⟨fun h => absurd h (by decide), List.forall_mem_cons.mpr ⟨fun h => absurd h (by decide), fun _ h => absurd h (by simp)⟩⟩
theorem ok_is_term : okDf G d_is_term (top 39) = true := by decide +kernel
theorem bi_is_term : BindOk d_is_term (top 39) := fun _ _ _ _ _ _ us hl => match us, hl with | [_, _], _ => rfl
theorem kw_is_term : KwsOk G f_is_term d_is_term (top 39) := List.forall_mem_cons.mpr ⟨fun h => absurd h (by decide), List.forall_mem_cons.mpr ⟨fun h => absurd h (by decide), fun _ h => absurd h (by simp)⟩⟩
theorem ok_is_form : okDf G d_is_form (top 40) = true := by decide +kernel
theorem bi_is_form : BindOk d_is_form (top 40) := fun _ _ _ _ _ _ us hl => match us, hl with | [_], _ => rfl
theorem kw_is_form : KwsOk G f_is_form d_is_form (top 40) := List.forall_mem_cons.mpr ⟨fun h => absurd h (by decide), List.forall_mem_cons.mpr ⟨fun h => absurd h (by decide), fun _ h => absurd h (by simp)⟩⟩
theorem ok_check_form : okDf G d_check_form (top 41) = true := by decide +kernel
theorem bi_check_form : BindOk d_check_form (top 41) := fun _ _ _ _ _ _ us hl => match us, hl with | [_], _ => rfl
theorem kw_check_form : KwsOk G f_check_form d_check_form (top 41) := List.forall_mem_cons.mpr ⟨fun h => absurd h (by decide), List.forall_mem_cons.mpr ⟨fun h => absurd h (by decide), fun _ h => absurd h (by simp)⟩⟩
theorem ok_told_of : okDf G d_told_of (top 42) = true := by decide +kernel
theorem bi_told_of : BindOk d_told_of (top 42) := fun _ _ _ _ _ _ us hl => match us, hl with | [_, _], _ => rfl
theorem kw_told_of : KwsOk G f_told_of d_told_of (top 42) := List.forall_mem_cons.mpr ⟨fun h => absurd h (by decide), List.forall_mem_cons.mpr ⟨fun h => absurd h (by decide), fun _ h => absurd h (by simp)⟩⟩
theorem ok_told : okDf G d_told (top 43) = true := by decide +kernel
theorem bi_told : BindOk d_told (top 43) := fun _ _ _ _ _ _ us hl => match us, hl with | [_, _], _ => rfl
theorem kw_told : KwsOk G f_told d_told (top 43) := List.forall_mem_cons.mpr ⟨fun h => absurd h (by decide), List.forall_mem_cons.mpr ⟨fun h => absurd h (by decide), fun _ h => absurd h (by simp)⟩⟩
theorem ok_cuts_of : okDf G d_cuts_of (top 45) = true := by decide +kernel
theorem bi_cuts_of : BindOk d_cuts_of (top 45) := fun _ _ _ _ _ _ us hl => match us, hl with | [_], _ => rfl
theorem kw_cuts_of : KwsOk G f_cuts_of d_cuts_of (top 45) := List.forall_mem_cons.mpr ⟨fun h => absurd h (by decide), List.forall_mem_cons.mpr ⟨fun h => absurd h (by decide), fun _ h => absurd h (by simp)⟩⟩
theorem ok_cut : okDf G d_cut (top 46) = true := by decide +kernel
theorem bi_cut : BindOk d_cut (top 46) := fun _ _ _ _ _ _ us hl => match us, hl with | [_], _ => rfl
theorem kw_cut : KwsOk G f_cut d_cut (top 46) := List.forall_mem_cons.mpr ⟨fun _ => ⟨by decide, fun _ _ _ _ _ _ ws hl => match ws, hl with | [_], _ => rfl⟩, List.forall_mem_cons.mpr ⟨fun h => absurd h (by decide), fun _ h => absurd h (by simp)⟩⟩
theorem ok__law_cell : okDf G d__law_cell (top 48) = true := by decide +kernel
theorem bi__law_cell : BindOk d__law_cell (top 48) := fun _ _ _ _ _ _ us hl => match us, hl with | [_, _], _ => rfl
theorem kw__law_cell : KwsOk G f__law_cell d__law_cell (top 48) := List.forall_mem_cons.mpr ⟨fun h => absurd h (by decide), List.forall_mem_cons.mpr ⟨fun h => absurd h (by decide), fun _ h => absurd h (by simp)⟩⟩
theorem ok__law_box : okDf G d__law_box (top 49) = true := by decide +kernel
theorem bi__law_box : BindOk d__law_box (top 49) := fun _ _ _ _ _ _ us hl => match us, hl with | [_], _ => rfl
theorem kw__law_box : KwsOk G f__law_box d__law_box (top 49) := List.forall_mem_cons.mpr ⟨fun h => absurd h (by decide), List.forall_mem_cons.mpr ⟨fun h => absurd h (by decide), fun _ h => absurd h (by simp)⟩⟩
theorem ok__law_take : okDf G d__law_take (top 50) = true := by decide +kernel
theorem bi__law_take : BindOk d__law_take (top 50) := fun _ _ _ _ _ _ us hl => match us, hl with | [_, _], _ => rfl
theorem kw__law_take : KwsOk G f__law_take d__law_take (top 50) := List.forall_mem_cons.mpr ⟨fun h => absurd h (by decide), List.forall_mem_cons.mpr ⟨fun h => absurd h (by decide), fun _ h => absurd h (by simp)⟩⟩
theorem ok__law_low : okDf G d__law_low (top 51) = true := by decide +kernel
theorem bi__law_low : BindOk d__law_low (top 51) := fun _ _ _ _ _ _ us hl => match us, hl with | [_, _], _ => rfl
theorem kw__law_low : KwsOk G f__law_low d__law_low (top 51) := List.forall_mem_cons.mpr ⟨fun h => absurd h (by decide), List.forall_mem_cons.mpr ⟨fun h => absurd h (by decide), fun _ h => absurd h (by simp)⟩⟩
theorem ok__law_plus : okDf G d__law_plus (top 52) = true := by decide +kernel
theorem bi__law_plus : BindOk d__law_plus (top 52) := fun _ _ _ _ _ _ us hl => match us, hl with | [_, _], _ => rfl
theorem kw__law_plus : KwsOk G f__law_plus d__law_plus (top 52) := List.forall_mem_cons.mpr ⟨fun h => absurd h (by decide), List.forall_mem_cons.mpr ⟨fun h => absurd h (by decide), fun _ h => absurd h (by simp)⟩⟩
theorem ok__law_times : okDf G d__law_times (top 53) = true := by decide +kernel
theorem bi__law_times : BindOk d__law_times (top 53) := fun _ _ _ _ _ _ us hl => match us, hl with | [_, _], _ => rfl
theorem kw__law_times : KwsOk G f__law_times d__law_times (top 53) := List.forall_mem_cons.mpr ⟨fun h => absurd h (by decide), List.forall_mem_cons.mpr ⟨fun h => absurd h (by decide), fun _ h => absurd h (by simp)⟩⟩
theorem ok__law_minus : okDf G d__law_minus (top 54) = true := by decide +kernel
theorem bi__law_minus : BindOk d__law_minus (top 54) := fun _ _ _ _ _ _ us hl => match us, hl with | [_], _ => rfl
theorem kw__law_minus : KwsOk G f__law_minus d__law_minus (top 54) := List.forall_mem_cons.mpr ⟨fun h => absurd h (by decide), List.forall_mem_cons.mpr ⟨fun h => absurd h (by decide), fun _ h => absurd h (by simp)⟩⟩
theorem ok__law_number : okDf G d__law_number (top 55) = true := by decide +kernel
theorem bi__law_number : BindOk d__law_number (top 55) := fun _ _ _ _ _ _ us hl => match us, hl with | [_], _ => rfl
theorem kw__law_number : KwsOk G f__law_number d__law_number (top 55) := List.forall_mem_cons.mpr ⟨fun h => absurd h (by decide), List.forall_mem_cons.mpr ⟨fun h => absurd h (by decide), fun _ h => absurd h (by simp)⟩⟩
theorem ok__law_step : okDf G d__law_step (top 56) = true := by decide +kernel
theorem bi__law_step : BindOk d__law_step (top 56) := fun _ _ _ _ _ _ us hl => match us, hl with | [_, _], _ => rfl
theorem kw__law_step : KwsOk G f__law_step d__law_step (top 56) := List.forall_mem_cons.mpr ⟨fun h => absurd h (by decide), List.forall_mem_cons.mpr ⟨fun h => absurd h (by decide), fun _ h => absurd h (by simp)⟩⟩
theorem ok__law_turned : okDf G d__law_turned (top 57) = true := by decide +kernel
theorem bi__law_turned : BindOk d__law_turned (top 57) := fun _ _ _ _ _ _ us hl => match us, hl with | [_], _ => rfl
theorem kw__law_turned : KwsOk G f__law_turned d__law_turned (top 57) := List.forall_mem_cons.mpr ⟨fun h => absurd h (by decide), List.forall_mem_cons.mpr ⟨fun h => absurd h (by decide), fun _ h => absurd h (by simp)⟩⟩
theorem ok__law_scaled : okDf G d__law_scaled (top 58) = true := by decide +kernel
theorem bi__law_scaled : BindOk d__law_scaled (top 58) := fun _ _ _ _ _ _ us hl => match us, hl with | [_, _], _ => rfl
theorem kw__law_scaled : KwsOk G f__law_scaled d__law_scaled (top 58) := List.forall_mem_cons.mpr ⟨fun h => absurd h (by decide), List.forall_mem_cons.mpr ⟨fun h => absurd h (by decide), fun _ h => absurd h (by simp)⟩⟩
theorem ok__law_steps : okDf G d__law_steps (top 59) = true := by decide +kernel
theorem bi__law_steps : BindOk d__law_steps (top 59) := fun _ _ _ _ _ _ us hl => match us, hl with | [_, _, _], _ => rfl
theorem kw__law_steps : KwsOk G f__law_steps d__law_steps (top 59) := List.forall_mem_cons.mpr ⟨fun h => absurd h (by decide), List.forall_mem_cons.mpr ⟨fun h => absurd h (by decide), fun _ h => absurd h (by simp)⟩⟩
theorem ok__law_at : okDf G d__law_at (top 60) = true := by decide +kernel
theorem bi__law_at : BindOk d__law_at (top 60) := fun _ _ _ _ _ _ us hl => match us, hl with | [_, _], _ => rfl
theorem kw__law_at : KwsOk G f__law_at d__law_at (top 60) := List.forall_mem_cons.mpr ⟨fun h => absurd h (by decide), List.forall_mem_cons.mpr ⟨fun h => absurd h (by decide), fun _ h => absurd h (by simp)⟩⟩
theorem ok__law_nested : okDf G d__law_nested (top 61) = true := by decide +kernel
theorem bi__law_nested : BindOk d__law_nested (top 61) := fun _ _ _ _ _ _ us hl => match us, hl with | [_, _], _ => rfl
theorem kw__law_nested : KwsOk G f__law_nested d__law_nested (top 61) := List.forall_mem_cons.mpr ⟨fun h => absurd h (by decide), List.forall_mem_cons.mpr ⟨fun h => absurd h (by decide), fun _ h => absurd h (by simp)⟩⟩
theorem ok__law_told : okDf G d__law_told (top 62) = true := by decide +kernel
theorem bi__law_told : BindOk d__law_told (top 62) := fun _ _ _ _ _ _ us hl => match us, hl with | [_, _], _ => rfl
theorem kw__law_told : KwsOk G f__law_told d__law_told (top 62) := List.forall_mem_cons.mpr ⟨fun h => absurd h (by decide), List.forall_mem_cons.mpr ⟨fun h => absurd h (by decide), fun _ h => absurd h (by simp)⟩⟩
theorem ok__law_letter : okDf G d__law_letter (top 63) = true := by decide +kernel
theorem bi__law_letter : BindOk d__law_letter (top 63) := fun _ _ _ _ _ _ us hl => match us, hl with | [_, _, _, _], _ => rfl
theorem kw__law_letter : KwsOk G f__law_letter d__law_letter (top 63) := List.forall_mem_cons.mpr ⟨fun h => absurd h (by decide), List.forall_mem_cons.mpr ⟨fun h => absurd h (by decide), fun _ h => absurd h (by simp)⟩⟩
theorem ok__law_word : okDf G d__law_word (top 64) = true := by decide +kernel
theorem bi__law_word : BindOk d__law_word (top 64) := fun _ _ _ _ _ _ us hl => match us, hl with | [_, _, _, _], _ => rfl
theorem kw__law_word : KwsOk G f__law_word d__law_word (top 64) := List.forall_mem_cons.mpr ⟨fun h => absurd h (by decide), List.forall_mem_cons.mpr ⟨fun h => absurd h (by decide), fun _ h => absurd h (by simp)⟩⟩
theorem ok__law_key : okDf G d__law_key (top 65) = true := by decide +kernel
theorem bi__law_key : BindOk d__law_key (top 65) := fun _ _ _ _ _ _ us hl => match us, hl with | [_], _ => rfl
theorem kw__law_key : KwsOk G f__law_key d__law_key (top 65) := List.forall_mem_cons.mpr ⟨fun h => absurd h (by decide), List.forall_mem_cons.mpr ⟨fun h => absurd h (by decide), fun _ h => absurd h (by simp)⟩⟩
theorem ok__law_add : okDf G d__law_add (top 66) = true := by decide +kernel
theorem bi__law_add : BindOk d__law_add (top 66) := fun _ _ _ _ _ _ us hl => match us, hl with | [_, _, _], _ => rfl
theorem kw__law_add : KwsOk G f__law_add d__law_add (top 66) := List.forall_mem_cons.mpr ⟨fun h => absurd h (by decide), List.forall_mem_cons.mpr ⟨fun h => absurd h (by decide), fun _ h => absurd h (by simp)⟩⟩
theorem ok__law_form_of : okDf G d__law_form_of (top 67) = true := by decide +kernel
theorem bi__law_form_of : BindOk d__law_form_of (top 67) := fun _ _ _ _ _ _ us hl => match us, hl with | [_, _], _ => rfl
theorem kw__law_form_of : KwsOk G f__law_form_of d__law_form_of (top 67) := List.forall_mem_cons.mpr ⟨fun h => absurd h (by decide), List.forall_mem_cons.mpr ⟨fun h => absurd h (by decide), fun _ h => absurd h (by simp)⟩⟩
theorem ok__law_form : okDf G d__law_form (top 68) = true := by decide +kernel
theorem bi__law_form : BindOk d__law_form (top 68) := fun _ _ _ _ _ _ us hl => match us, hl with | [_, _, _, _, _], _ => rfl
theorem kw__law_form : KwsOk G f__law_form d__law_form (top 68) := List.forall_mem_cons.mpr ⟨fun h => absurd h (by decide), List.forall_mem_cons.mpr ⟨fun h => absurd h (by decide), fun _ h => absurd h (by simp)⟩⟩
theorem ok__law_same : okDf G d__law_same (top 69) = true := by decide +kernel
theorem bi__law_same : BindOk d__law_same (top 69) := fun _ _ _ _ _ _ us hl => match us, hl with | [_, _], _ => rfl
theorem kw__law_same : KwsOk G f__law_same d__law_same (top 69) := List.forall_mem_cons.mpr ⟨fun h => absurd h (by decide), List.forall_mem_cons.mpr ⟨fun h => absurd h (by decide), fun _ h => absurd h (by simp)⟩⟩
theorem ok__law_blamed : okDf G d__law_blamed (top 70) = true := by decide +kernel
theorem bi__law_blamed : BindOk d__law_blamed (top 70) := fun _ _ _ _ _ _ us hl => match us, hl with | [_, _], _ => rfl
theorem kw__law_blamed : KwsOk G f__law_blamed d__law_blamed (top 70) := List.forall_mem_cons.mpr ⟨fun h => absurd h (by decide), List.forall_mem_cons.mpr ⟨fun h => absurd h (by decide), fun _ h => absurd h (by simp)⟩⟩
theorem ok__law_no_form : okDf G d__law_no_form (top 71) = true := by decide +kernel
theorem bi__law_no_form : BindOk d__law_no_form (top 71) := fun _ _ _ _ _ _ us hl => match us, hl with | [_, _], _ => rfl
theorem kw__law_no_form : KwsOk G f__law_no_form d__law_no_form (top 71) := List.forall_mem_cons.mpr ⟨fun h => absurd h (by decide), List.forall_mem_cons.mpr ⟨fun h => absurd h (by decide), fun _ h => absurd h (by simp)⟩⟩
theorem ok__law_wide : okDf G d__law_wide (top 72) = true := by decide +kernel
theorem bi__law_wide : BindOk d__law_wide (top 72) := fun _ _ _ _ _ _ us hl => match us, hl with | [_, _], _ => rfl
theorem kw__law_wide : KwsOk G f__law_wide d__law_wide (top 72) := List.forall_mem_cons.mpr ⟨fun h => absurd h (by decide), List.forall_mem_cons.mpr ⟨fun h => absurd h (by decide), fun _ h => absurd h (by simp)⟩⟩
theorem ok__law_asked : okDf G d__law_asked (top 73) = true := by decide +kernel
theorem bi__law_asked : BindOk d__law_asked (top 73) := fun _ _ _ _ _ _ us hl => match us, hl with | [_, _], _ => rfl
theorem kw__law_asked : KwsOk G f__law_asked d__law_asked (top 73) := List.forall_mem_cons.mpr ⟨fun h => absurd h (by decide), List.forall_mem_cons.mpr ⟨fun h => absurd h (by decide), fun _ h => absurd h (by simp)⟩⟩
theorem ok__law_due : okDf G d__law_due (top 74) = true := by decide +kernel
theorem bi__law_due : BindOk d__law_due (top 74) := fun _ _ _ _ _ _ us hl => match us, hl with | [_], _ => rfl
theorem kw__law_due : KwsOk G f__law_due d__law_due (top 74) := List.forall_mem_cons.mpr ⟨fun h => absurd h (by decide), List.forall_mem_cons.mpr ⟨fun h => absurd h (by decide), fun _ h => absurd h (by simp)⟩⟩
theorem ok__law_across : okDf G d__law_across (top 75) = true := by decide +kernel
theorem bi__law_across : BindOk d__law_across (top 75) := fun _ _ _ _ _ _ us hl => match us, hl with | [_, _, _], _ => rfl
theorem kw__law_across : KwsOk G f__law_across d__law_across (top 75) := List.forall_mem_cons.mpr ⟨fun h => absurd h (by decide), List.forall_mem_cons.mpr ⟨fun h => absurd h (by decide), fun _ h => absurd h (by simp)⟩⟩
theorem ok__law_form_right : okDf G d__law_form_right (top 76) = true := by decide +kernel
theorem bi__law_form_right : BindOk d__law_form_right (top 76) := fun _ _ _ _ _ _ us hl => match us, hl with | [_, _, _, _, _], _ => rfl
theorem kw__law_form_right : KwsOk G f__law_form_right d__law_form_right (top 76) := List.forall_mem_cons.mpr ⟨fun h => absurd h (by decide), List.forall_mem_cons.mpr ⟨fun h => absurd h (by decide), fun _ h => absurd h (by simp)⟩⟩
theorem ok__law_refused_right : okDf G d__law_refused_right (top 77) = true := by decide +kernel
theorem bi__law_refused_right : BindOk d__law_refused_right (top 77) := fun _ _ _ _ _ _ us hl => match us, hl with | [_, _, _], _ => rfl
theorem kw__law_refused_right : KwsOk G f__law_refused_right d__law_refused_right (top 77) := List.forall_mem_cons.mpr ⟨fun h => absurd h (by decide), List.forall_mem_cons.mpr ⟨fun h => absurd h (by decide), fun _ h => absurd h (by simp)⟩⟩
theorem ok_law : okDf G d_law (top 78) = true := by decide +kernel
theorem bi_law : BindOk d_law (top 78) := fun _ _ _ _ _ _ us hl => match us, hl with | [_], _ => rfl
theorem kw_law : KwsOk G f_law d_law (top 78) := List.forall_mem_cons.mpr ⟨fun h => absurd h (by decide), List.forall_mem_cons.mpr ⟨fun h => absurd h (by decide), fun _ h => absurd h (by simp)⟩⟩
theorem is_InvalidForm : scB ["self", "given"] ["self", "given"] (L2.defScope (L2.inClass (top 2) 0)) = true ∧ okIni ["self", "given"] [[103, 105, 118, 101, 110]] (L2.defScope (L2.inClass (top 2) 0)) (L2.defBody (L2.inClass (top 2) 0)) = true := ⟨by decide +kernel, by decide +kernel⟩
theorem ib_InvalidForm : ∀ (kV doc pm : Value) (an : Option Addr) (cdv ct : Value) (us : List Value), us.length = (["self", "given"] : List PySem.Str).length → bindArgs (PySem.W.fnOf "__init__" "InvalidForm.__init__" (L2.defArgs (L2.inClass (top 2) 0)) (L2.defBody (L2.inClass (top 2) 0)) (L2.defScope (L2.inClass (top 2) 0)) .none kV doc pm an cdv ct) ⟨us, []⟩ = pure ((["self", "given"] : List PySem.Str).zip us) := fun _ _ _ _ _ _ us hl => match us, hl with | [_, _], _ => rfl
theorem is_InvalidOther : scB ["self", "given"] ["self", "given"] (L2.defScope (L2.inClass (top 3) 0)) = true ∧ okIni ["self", "given"] [[103, 105, 118, 101, 110]] (L2.defScope (L2.inClass (top 3) 0)) (L2.defBody (L2.inClass (top 3) 0)) = true := ⟨by decide +kernel, by decide +kernel⟩
theorem ib_InvalidOther : ∀ (kV doc pm : Value) (an : Option Addr) (cdv ct : Value) (us : List Value), us.length = (["self", "given"] : List PySem.Str).length → bindArgs (PySem.W.fnOf "__init__" "InvalidOther.__init__" (L2.defArgs (L2.inClass (top 3) 0)) (L2.defBody (L2.inClass (top 3) 0)) (L2.defScope (L2.inClass (top 3) 0)) .none kV doc pm an cdv ct) ⟨us, []⟩ = pure ((["self", "given"] : List PySem.Str).zip us) := fun _ _ _ _ _ _ us hl => match us, hl with | [_, _], _ => rfl
theorem is_InvalidWalk : scB ["self", "given"] ["self", "given"] (L2.defScope (L2.inClass (top 4) 0)) = true ∧ okIni ["self", "given"] [[103, 105, 118, 101, 110]] (L2.defScope (L2.inClass (top 4) 0)) (L2.defBody (L2.inClass (top 4) 0)) = true := ⟨by decide +kernel, by decide +kernel⟩
theorem ib_InvalidWalk : ∀ (kV doc pm : Value) (an : Option Addr) (cdv ct : Value) (us : List Value), us.length = (["self", "given"] : List PySem.Str).length → bindArgs (PySem.W.fnOf "__init__" "InvalidWalk.__init__" (L2.defArgs (L2.inClass (top 4) 0)) (L2.defBody (L2.inClass (top 4) 0)) (L2.defScope (L2.inClass (top 4) 0)) .none kV doc pm an cdv ct) ⟨us, []⟩ = pure ((["self", "given"] : List PySem.Str).zip us) := fun _ _ _ _ _ _ us hl => match us, hl with | [_, _], _ => rfl
end K12


namespace K12
open Eg
abbrev rn (n : Nat) : Cl := run G.sub G.T n
/-- turns of Euclid's loop are few -/
def Few (a b : Nat) : Prop := Nat.log2 (a * b) ≤ 900000000
theorem few_of {a b k m : Nat} (h1 : a < 2 ^ k) (h2 : b < 2 ^ m) (h : k + m ≤ 900000000) : Few a b := by
  unfold Few
  by_cases z : a * b = 0
  · rw [z]; simp
  · have : a * b < 2 ^ (k + m) := by rw [Nat.pow_add]; exact Nat.mul_lt_mul_of_lt_of_le h1 (Nat.le_of_lt h2) (Nat.pow_pos (by omega))
    have := (Nat.log2_lt z).mpr this
    omega
theorem divisor_nat (n a b : Nat) (S : Sto) (h : Few a b) : rn (n + 1) f_divisor [.int a, .int b] S = .ok (.int (Nat.gcd a b : Nat)) S := by
  have lp : ∃ y : Option D, evS G.sub (rn n) (.whl (.cmp .ne (.var 1) (.lit (.int 0))) (.cons (.par [0, 1] (.cons (.var 1) (.cons (.bin .mod (.var 0) (.var 1)) .nil))) .nil)) [some (.int a), some (.int b)] [] = .nx [some (.int (Nat.gcd a b : Nat)), y] [] := by
    rw [evS_whl]
    obtain ⟨ρ', S', e, ⟨y, rfl⟩, rfl⟩ := while_run (t := fun ρ S => tru (evE G.sub (rn n) (.cmp .ne (.var 1) (.lit (.int 0))) ρ S)) (body := fun ρ S => evSs G.sub (rn n) (.cons (.par [0, 1] (.cons (.var 1) (.cons (.bin .mod (.var 0) (.var 1)) .nil))) .nil) ρ S)
      (fun m ρ S => ∃ x y : Nat, ρ = [some (.int x), some (.int y)] ∧ S = [] ∧ Nat.gcd x y = Nat.gcd a b ∧ eucM x y ≤ m) (fun ρ S => (∃ y, ρ = [some (.int (Nat.gcd a b : Nat)), y]) ∧ S = []) (by
        rintro m ρ S ⟨x, y, rfl, rfl, hg, hm⟩
        by_cases hy : y = 0
        · subst hy
          refine .inl ⟨[], ?_, ⟨some (.int (0 : Nat)), ?_⟩, rfl⟩
          · simp
          · rw [← hg]; simp
        · refine .inr ⟨[], [some (.int y), some (.int (x % y : Nat))], [], eucM y (x % y), ?_, ?_, Nat.lt_of_lt_of_le (eucM_step hy) hm, y, x % y, rfl, rfl, by rw [gcd_step]; exact hg, Nat.le_refl _⟩
          · simp [hy]
          · simp [binD, setAll, setE, hy, fmod_nat]) wfuel (eucM a b) [some (.int a), some (.int b)] [] (wfuel_big (by have := eucM_le (a := a) (b := b); unfold Few at h; omega)) ⟨a, b, rfl, rfl, rfl, Nat.le_refl _⟩
    exact ⟨y, e⟩
  obtain ⟨y, e⟩ := lp
  refine run_ok (d := d_divisor) rfl rfl rfl rfl (S1 := []) ?_
  simp [d_divisor, startE, e]
/-! ### a number -/
/-- a number as data -/
def nR (r : Rat) : D := .tup [.int r.num, .int (r.den : Int)]
@[simp] theorem free_nR (r : Rat) : D.free (nR r) = true := by simp [nR]
/-- its bits: top, base -/
def Sz (a d : Nat) (r : Rat) : Prop := r.num.natAbs < 2 ^ a ∧ r.den < 2 ^ d
theorem Sz.up {a d a' d' : Nat} {r : Rat} (h : Sz a d r) (h1 : a ≤ a') (h2 : d ≤ d') : Sz a' d' r :=
  ⟨Nat.lt_of_lt_of_le h.1 (Nat.pow_le_pow_right (by omega) h1), Nat.lt_of_lt_of_le h.2 (Nat.pow_le_pow_right (by omega) h2)⟩
theorem lt_mul2 {x y k m : Nat} (h1 : x < 2 ^ k) (h2 : y < 2 ^ m) : x * y < 2 ^ (k + m) := by
  rw [Nat.pow_add]; exact Nat.mul_lt_mul_of_lt_of_le h1 (Nat.le_of_lt h2) (Nat.pow_pos (by omega))
theorem sgn_eq {b : Int} (h : b ≠ 0) : (if 0 < b then (1 : Int) else -1) = b.sign := by
  by_cases c : 0 < b
  · rw [if_pos c, Int.sign_eq_one_of_pos c]
  · rw [if_neg c, Int.sign_eq_neg_one_of_neg (by omega)]
theorem divInt_sz {t b : Int} {a d : Nat} (hb : b ≠ 0) (h1 : t.natAbs < 2 ^ a) (h2 : b.natAbs < 2 ^ d) : Sz a d (Rat.divInt t b) := by
  refine ⟨?_, ?_⟩
  · rw [Rat.num_divInt]
    refine Nat.lt_of_le_of_lt ?_ h1
    have hd : ((b.gcd t : Nat) : Int) ∣ b.sign * t := Int.dvd_trans (Int.gcd_dvd_right ..) (Int.dvd_mul_left ..)
    rw [Int.natAbs_ediv_of_dvd hd, Int.natAbs_mul, Int.natAbs_sign_of_ne_zero hb, Nat.one_mul]
    exact Nat.div_le_self ..
  · rw [Rat.den_divInt, if_neg hb]
    exact Nat.lt_of_le_of_lt (Nat.div_le_self ..) h2
theorem low_eq {t b : Int} (hb : b ≠ 0) : D.tup [.int (b.sign * t / ((b.gcd t : Nat) : Int)), .int (b.sign * b / ((b.gcd t : Nat) : Int))] = nR (Rat.divInt t b) := by
  unfold nR
  have e : b.sign * b = (b.natAbs : Int) := by
    by_cases c : 0 < b
    · rw [Int.sign_eq_one_of_pos c]; omega
    · rw [Int.sign_eq_neg_one_of_neg (by omega)]; omega
  rw [Rat.num_divInt, Rat.den_divInt, if_neg hb, e]
  norm_cast
theorem mul_big {a b : Int} (S : Sto) {k m : Nat} (h1 : a.natAbs < 2 ^ k) (h2 : b.natAbs < 2 ^ m) (h : k + m ≤ 900000) : binD .mul (.int a) (.int b) S = .ok (.int (a * b)) S := by
  show (if mulOk a b = true then _ else _) = _
  rw [if_pos]
  unfold mulOk
  simp only [Bool.or_eq_true, decide_eq_true_eq]
  have e : ∀ {x : Int} {k : Nat}, x.natAbs < 2 ^ k → x.natAbs.log2 ≤ k := fun {x k} h => by
    by_cases z : x.natAbs = 0
    · rw [z]; simp
    · have := (Nat.log2_lt z).mpr h; omega
  have := e h1
  have := e h2
  exact .inr (by omega)
theorem fdiv_big {a g : Int} (S : Sto) (h : 0 < g) (h2 : g.natAbs < 2 ^ 8999) : binD .fdiv (.int a) (.int g) S = .ok (.int (a / g)) S := fdiv_ok S h h2
/-- the program's and the law's own way to lowest terms -/
theorem gcd_pos' {t b : Int} (hb : b ≠ 0) : 0 < ((b.gcd t : Nat) : Int) := by
  have : 0 < b.gcd t := Nat.gcd_pos_of_pos_left _ (by omega)
  omega
theorem gcd_lt' {t b : Int} {d : Nat} (hb : b ≠ 0) (h : b.natAbs < 2 ^ d) (hd : d ≤ 8999) : (((b.gcd t : Nat) : Int)).natAbs < 2 ^ 8999 := by
  rw [Int.natAbs_natCast]
  exact Nat.lt_of_le_of_lt (Nat.le_of_dvd (by omega) (Nat.gcd_dvd_left ..)) (Nat.lt_of_lt_of_le h (Nat.pow_le_pow_right (by omega) hd))
theorem sign_sm (b : Int) : b.sign.natAbs < 2 ^ 1 := by
  rcases Int.lt_trichotomy b 0 with h | h | h
  · rw [Int.sign_eq_neg_one_of_neg h]; decide
  · subst h; decide
  · rw [Int.sign_eq_one_of_pos h]; decide
theorem lowest_ok (n : Nat) {t b : Int} {k d : Nat} (S : Sto) (hb : b ≠ 0) (h1 : t.natAbs < 2 ^ k) (h2 : b.natAbs < 2 ^ d) (hk : k ≤ 400000) (hd : d ≤ 8999) : rn (n + 2) f_lowest [.int t, .int b] S = .ok (nR (Rat.divInt t b)) S := by
  have q1 : binD .mul (.int b.sign) (.int t) [] = .ok (.int (b.sign * t)) [] := mul_big [] (sign_sm b) h1 (by omega)
  have q2 : binD .mul (.int b.sign) (.int b) [] = .ok (.int (b.sign * b)) [] := mul_big [] (sign_sm b) h2 (by omega)
  have q3 : ∀ a : Int, binD .fdiv (.int a) (.int (b.gcd t : Nat)) [] = .ok (.int (a / (b.gcd t : Nat))) [] := fun a => fdiv_big [] (gcd_pos' hb) (gcd_lt' hb h2 hd)
  have q4 : rn (n + 1) f_divisor [.int t.natAbs, .int b.natAbs] [] = .ok (.int (b.gcd t : Nat)) [] := by
    rw [Int.gcd_comm]; exact divisor_nat n _ _ [] (few_of h1 h2 (by omega))
  refine run_ok (d := d_lowest) rfl rfl rfl (free_nR _) (S1 := []) ?_
  rw [← low_eq hb]
  by_cases c : 0 < b
  · have e : b.sign = 1 := Int.sign_eq_one_of_pos c
    rw [e] at q1 q2 ⊢
    simp [d_lowest, startE, bAbs_eq, q4, setE, c, q1, q2, q3, line]
  · have e : b.sign = -1 := Int.sign_eq_neg_one_of_neg (by omega)
    rw [e] at q1 q2 ⊢
    simp [d_lowest, startE, bAbs_eq, q4, setE, c, q1, q2, q3, line]
theorem law_low_ok (n : Nat) {t b : Int} {k d : Nat} (S : Sto) (hb : b ≠ 0) (h1 : t.natAbs < 2 ^ k) (h2 : b.natAbs < 2 ^ d) (hk : k ≤ 400000) (hd : d ≤ 8999) : rn (n + 1) f__law_low [.int t, .int b] S = .ok (nR (Rat.divInt t b)) S := by
  have lp : ∃ y : Option D, evS G.sub (rn n) (.whl (.cmp .ne (.var 3) (.lit (.int 0))) (.cons (.par [2, 3] (.cons (.var 3) (.cons (.bin .mod (.bi .int (.cons (.var 2) .nil)) (.var 3)) .nil))) .nil)) [some (.int t), some (.int b), some (.int t.natAbs), some (.int b.natAbs), none] [] = .nx [some (.int t), some (.int b), some (.int (b.gcd t : Nat)), y, none] [] := by
    rw [evS_whl]
    obtain ⟨ρ', S', e, ⟨y, rfl⟩, rfl⟩ := while_run (t := fun ρ S => tru (evE G.sub (rn n) (.cmp .ne (.var 3) (.lit (.int 0))) ρ S)) (body := fun ρ S => evSs G.sub (rn n) (.cons (.par [2, 3] (.cons (.var 3) (.cons (.bin .mod (.bi .int (.cons (.var 2) .nil)) (.var 3)) .nil))) .nil) ρ S)
      (fun m ρ S => ∃ x y : Nat, ρ = [some (.int t), some (.int b), some (.int x), some (.int y), none] ∧ S = [] ∧ Nat.gcd x y = b.gcd t ∧ eucM x y ≤ m) (fun ρ S => (∃ y, ρ = [some (.int t), some (.int b), some (.int (b.gcd t : Nat)), y, none]) ∧ S = []) (by
        rintro m ρ S ⟨x, y, rfl, rfl, hg, hm⟩
        by_cases hy : y = 0
        · subst hy
          refine .inl ⟨[], ?_, ⟨some (.int (0 : Nat)), ?_⟩, rfl⟩
          · simp
          · rw [← hg]; simp
        · refine .inr ⟨[], [some (.int t), some (.int b), some (.int y), some (.int (x % y : Nat)), none], [], eucM y (x % y), ?_, ?_, Nat.lt_of_lt_of_le (eucM_step hy) hm, y, x % y, rfl, rfl, by rw [gcd_step]; exact hg, Nat.le_refl _⟩
          · simp [hy]
          · simp [binD, setAll, setE, hy, fmod_nat]) wfuel (eucM t.natAbs b.natAbs) [some (.int t), some (.int b), some (.int t.natAbs), some (.int b.natAbs), none] [] (wfuel_big (by have := eucM_le (a := t.natAbs) (b := b.natAbs); have : Few t.natAbs b.natAbs := few_of h1 h2 (by omega); unfold Few at this; omega)) ⟨_, _, rfl, rfl, by rw [Int.gcd_comm]; rfl, Nat.le_refl _⟩
    exact ⟨y, e⟩
  obtain ⟨y, lp⟩ := lp
  have q1 : binD .mul (.int b.sign) (.int t) [] = .ok (.int (b.sign * t)) [] := mul_big [] (sign_sm b) h1 (by omega)
  have q2 : binD .mul (.int b.sign) (.int b) [] = .ok (.int (b.sign * b)) [] := mul_big [] (sign_sm b) h2 (by omega)
  have q3 : ∀ a : Int, binD .fdiv (.int a) (.int (b.gcd t : Nat)) [] = .ok (.int (a / (b.gcd t : Nat))) [] := fun a => fdiv_big [] (gcd_pos' hb) (gcd_lt' hb h2 hd)
  refine run_ok (d := d__law_low) rfl rfl rfl (free_nR _) (S1 := []) ?_
  rw [← low_eq hb]
  by_cases c : 0 < b
  · have e : b.sign = 1 := Int.sign_eq_one_of_pos c
    rw [e] at q1 q2 ⊢
    simp [d__law_low, startE, bAbs_eq, lp, setAll, setE, c, q1, q2, q3, line]
  · have e : b.sign = -1 := Int.sign_eq_neg_one_of_neg (by omega)
    rw [e] at q1 q2 ⊢
    simp [d__law_low, startE, bAbs_eq, lp, setAll, setE, c, q1, q2, q3, line]
/-! ### what is done with numbers -/
theorem idxT0 (a b : D) (l : List D) (S : Sto) : idxD (.tup (a :: b :: l)) (.int 0) S = .ok a S := by
  have h : (0 : Int) < (l.length : Int) + 1 + 1 := by omega
  simp [idxD, atL, ixN, R.of, h]
theorem idxT1 (a b : D) (l : List D) (S : Sto) : idxD (.tup (a :: b :: l)) (.int 1) S = .ok b S := by
  have h : (1 : Int) < (l.length : Int) + 1 + 1 := by omega
  simp [idxD, atL, ixN, R.of, h]
@[simp] theorem nR_0 (r : Rat) (S : Sto) : idxD (nR r) (.int 0) S = .ok (.int r.num) S := idxT0 ..
@[simp] theorem nR_1 (r : Rat) (S : Sto) : idxD (nR r) (.int 1) S = .ok (.int (r.den : Int)) S := idxT1 ..
theorem den_ne (r : Rat) : ((r.den : Nat) : Int) ≠ 0 := by have := r.den_nz; omega
theorem den_ne2 (r s : Rat) : ((r.den : Nat) : Int) * ((s.den : Nat) : Int) ≠ 0 := Int.mul_ne_zero (den_ne r) (den_ne s)
theorem rat_eq (r : Rat) : r = Rat.divInt r.num (r.den : Int) := (Rat.num_divInt_den r).symm
theorem add_eq (r s : Rat) : Rat.divInt (r.num * (s.den : Int) + s.num * (r.den : Int)) ((r.den : Int) * (s.den : Int)) = r + s := by
  rw [← Rat.divInt_add_divInt _ _ (den_ne r) (den_ne s), ← rat_eq, ← rat_eq]
theorem mul_eq (r s : Rat) : Rat.divInt (r.num * s.num) ((r.den : Int) * (s.den : Int)) = r * s := by
  rw [← Rat.divInt_mul_divInt, ← rat_eq, ← rat_eq]
theorem mul_b {x y : Int} {k m : Nat} (h1 : x.natAbs < 2 ^ k) (h2 : y.natAbs < 2 ^ m) : (x * y).natAbs < 2 ^ (k + m) := sm_mul h1 h2
theorem Sz.den {a d : Nat} {r : Rat} (h : Sz a d r) : ((r.den : Nat) : Int).natAbs < 2 ^ d := by rw [Int.natAbs_natCast]; exact h.2
theorem add_b {x y : Int} {k m : Nat} (h1 : x.natAbs < 2 ^ k) (h2 : y.natAbs < 2 ^ m) : (x + y).natAbs < 2 ^ (max k m + 1) :=
  sm_add (sm_up h1 (Nat.le_max_left ..)) (sm_up h2 (Nat.le_max_right ..))
section
variable {a d a' d' : Nat} {r s : Rat} (h1 : Sz a d r) (h2 : Sz a' d' s)
include h1 h2
theorem Sz.add : Sz (max (a + d') (a' + d) + 1) (d + d') (r + s) := by
  rw [← add_eq]
  exact divInt_sz (den_ne2 r s) (add_b (mul_b h1.1 h2.den) (mul_b h2.1 h1.den)) (mul_b h1.den h2.den)
theorem Sz.mul : Sz (a + a') (d + d') (r * s) := by
  rw [← mul_eq]
  exact divInt_sz (den_ne2 r s) (mul_b h1.1 h2.1) (mul_b h1.den h2.den)
variable (n : Nat) (S : Sto) (ha : a + d' + a' + d ≤ 390000) (hd : d + d' ≤ 8999)
include ha hd
theorem sum_of_ok : rn (n + 3) f_sum_of [nR r, nR s] S = .ok (nR (r + s)) S := by
  refine run_ok (d := d_sum_of) rfl rfl (by simp) (free_nR _) (S1 := []) ?_
  have g := lowest_ok n [] (den_ne2 r s) (add_b (mul_b h1.1 h2.den) (mul_b h2.1 h1.den)) (mul_b h1.den h2.den) (by omega) hd
  rw [add_eq] at g
  simp [d_sum_of, startE, mul_big _ h1.1 h2.den (by omega), mul_big _ h2.1 h1.den (by omega), mul_big _ h1.den h2.den (by omega), g]
theorem product_of_ok (ha2 : a + a' ≤ 390000) : rn (n + 3) f_product_of [nR r, nR s] S = .ok (nR (r * s)) S := by
  refine run_ok (d := d_product_of) rfl rfl (by simp) (free_nR _) (S1 := []) ?_
  have g := lowest_ok n [] (den_ne2 r s) (mul_b h1.1 h2.1) (mul_b h1.den h2.den) (by omega) hd
  rw [mul_eq] at g
  simp [d_product_of, startE, mul_big _ h1.1 h2.1 (by omega), mul_big _ h1.den h2.den (by omega), g]
theorem law_plus_ok : rn (n + 2) f__law_plus [nR r, nR s] S = .ok (nR (r + s)) S := by
  refine run_ok (d := d__law_plus) rfl rfl (by simp) (free_nR _) (S1 := []) ?_
  have g := law_low_ok n [] (den_ne2 r s) (add_b (mul_b h1.1 h2.den) (mul_b h2.1 h1.den)) (mul_b h1.den h2.den) (by omega) hd
  rw [add_eq] at g
  simp [d__law_plus, startE, mul_big _ h1.1 h2.den (by omega), mul_big _ h2.1 h1.den (by omega), mul_big _ h1.den h2.den (by omega), g]
theorem law_times_ok (ha2 : a + a' ≤ 390000) : rn (n + 2) f__law_times [nR r, nR s] S = .ok (nR (r * s)) S := by
  refine run_ok (d := d__law_times) rfl rfl (by simp) (free_nR _) (S1 := []) ?_
  have g := law_low_ok n [] (den_ne2 r s) (mul_b h1.1 h2.1) (mul_b h1.den h2.den) (by omega) hd
  rw [mul_eq] at g
  simp [d__law_times, startE, mul_big _ h1.1 h2.1 (by omega), mul_big _ h1.den h2.den (by omega), g]
end
end K12


namespace K12
open Eg
/-! ### what any value is -/
/-- data without references, or a list of the store -/
def Wf (S : Sto) (d : D) : Prop := D.free d = true ∨ ∃ r, d = .ref r ∧ kind S d = some .list
mutual
/-- ints of few bits -/
def D.smB : D → Bool
  | .int i => decide (i.natAbs.log2 < 400000000)
  | .tup l => D.smL l
  | .fl l => D.smL l
  | _ => true
def D.smL : List D → Bool
  | [] => true
  | a :: l => D.smB a && D.smL l
end
theorem smL_iff (l : List D) : D.smL l = true ↔ ∀ x ∈ l, D.smB x = true := by
  induction l with
  | nil => simp [D.smL]
  | cons a l ih => simp [D.smL, ih]
theorem Wf.of {S : Sto} {d : D} (h : D.free d = true) : Wf S d := .inl h
theorem Wf.tup {S : Sto} {l : List D} (h : Wf S (.tup l)) : ∀ x ∈ l, D.free x = true := by
  rcases h with h | ⟨r, e, _⟩
  · rw [free_tup] at h; exact (freeL_iff l).mp h
  · cases e
theorem wf_kind {S : Sto} {d : D} (h : Wf S d) : ∃ k, kind S d = some k ∧ ((∃ l, d = .tup l ∧ k = .tuple) ∨ (∃ i, d = .int i ∧ k = .int) ∨ (∃ b, d = .bl b ∧ k = .bool) ∨ (∃ s, d = .str s ∧ k = .str) ∨ (k = .non ∧ d = .non) ∨ (k = .list ∧ (∀ l, d ≠ .tup l) ∧ (∀ i, d ≠ .int i)) ∨ (∃ l m, k = .dict ∧ d = .fd l m)) := by
  rcases h with h | ⟨r, rfl, h⟩
  · cases d with
    | ref n => simp at h
    | tup l => exact ⟨_, rfl, .inl ⟨l, rfl, rfl⟩⟩
    | int i => exact ⟨_, rfl, .inr (.inl ⟨i, rfl, rfl⟩)⟩
    | bl b => exact ⟨_, rfl, .inr (.inr (.inl ⟨b, rfl, rfl⟩))⟩
    | str s => exact ⟨_, rfl, .inr (.inr (.inr (.inl ⟨s, rfl, rfl⟩)))⟩
    | non => exact ⟨_, rfl, .inr (.inr (.inr (.inr (.inl ⟨rfl, rfl⟩))))⟩
    | fl l => exact ⟨_, rfl, .inr (.inr (.inr (.inr (.inr (.inl ⟨rfl, fun _ e => (nomatch e), fun _ e => (nomatch e)⟩)))))⟩
    | fd l m => exact ⟨_, rfl, .inr (.inr (.inr (.inr (.inr (.inr ⟨l, m, rfl, rfl⟩)))))⟩
  · exact ⟨_, h, .inr (.inr (.inr (.inr (.inr (.inl ⟨rfl, fun _ e => (nomatch e), fun _ e => (nomatch e)⟩)))))⟩
def isTup : D → Bool
  | .tup _ => true
  | _ => false
/-- isinstance(d, tuple), isinstance(d, int), .. -/
theorem isi_tuple {S : Sto} {d : D} (h : Wf S d) : ∃ k, kind S d = some k ∧ isK G.sub k .tuple = isTup d := by
  obtain ⟨k, e, h⟩ := wf_kind h
  refine ⟨k, e, ?_⟩
  rcases h with ⟨_, rfl, rfl⟩ | ⟨_, rfl, rfl⟩ | ⟨_, rfl, rfl⟩ | ⟨_, rfl, rfl⟩ | ⟨rfl, rfl⟩ | ⟨rfl, h, _⟩ | ⟨_, _, rfl, rfl⟩ <;> try rfl
  cases d <;> first | rfl | exact absurd rfl (h _)
def isIntD : D → Bool
  | .int _ => true
  | _ => false
theorem is_integer_any (n : Nat) {d : D} {S : Sto} (h : Wf S d) : rn (n + 1) f_is_integer [d] S = .ok (.bl (isIntD d)) S := by
  have key : ∀ S, Wf S d → endB (evSs G.sub (rn n) d_is_integer.body (startE d_is_integer [d]) S) = .ok (.bl (isIntD d)) S := fun S h => by
    obtain ⟨k, e, h⟩ := wf_kind h
    rcases h with ⟨_, rfl, rfl⟩ | ⟨_, rfl, rfl⟩ | ⟨_, rfl, rfl⟩ | ⟨_, rfl, rfl⟩ | ⟨rfl, rfl⟩ | ⟨rfl, _, h⟩ | ⟨_, _, rfl, rfl⟩
    all_goals try (simp [d_is_integer, startE, isK, isIntD]; done)
    have : isIntD d = false := by cases d <;> first | rfl | exact absurd rfl (h _)
    simp [d_is_integer, startE, isK, e, this]
  exact run_two (d := d_is_integer) rfl rfl rfl (fun _ => key S h) (fun hf => key [] (.inl (by simpa using hf)))
def isCountD : D → Bool
  | .int i => decide (0 ≤ i)
  | _ => false
def isTupN (d : D) (k : Int) : Bool := match d with
  | .tup l => decide ((l.length : Int) = k)
  | _ => false
theorem is_tuple_any (n : Nat) {d : D} (k : Int) {S : Sto} (h : Wf S d) : rn (n + 1) f_is_tuple [d, .int k] S = .ok (.bl (isTupN d k)) S := by
  have key : ∀ S, Wf S d → endB (evSs G.sub (rn n) d_is_tuple.body (startE d_is_tuple [d, .int k]) S) = .ok (.bl (isTupN d k)) S := fun S h => by
    obtain ⟨kd, e, h⟩ := wf_kind h
    rcases h with ⟨_, rfl, rfl⟩ | ⟨_, rfl, rfl⟩ | ⟨_, rfl, rfl⟩ | ⟨_, rfl, rfl⟩ | ⟨rfl, rfl⟩ | ⟨rfl, h, _⟩ | ⟨_, _, rfl, rfl⟩
    all_goals try (simp [d_is_tuple, startE, isK, isTupN, biD, bLen]; done)
    have : isTupN d k = false := by cases d <;> first | rfl | exact absurd rfl (h _)
    simp [d_is_tuple, startE, isK, e, this]
  exact run_two (d := d_is_tuple) rfl rfl rfl (fun _ => key S h) (fun hf => key [] (.inl (by simpa using hf)))
/-! ### numbers -/
def isNum (p q : Int) : Bool := decide (0 < q) && decide (Nat.gcd p.natAbs q.natAbs = 1)
def isNumD : D → Bool
  | .tup [.int p, .int q] => isNum p q
  | _ => false
theorem isNumD_nR (r : Rat) : isNumD (nR r) = true := by
  have h1 := r.den_pos
  have h2 : Nat.gcd r.num.natAbs r.den = 1 := r.reduced
  simp [isNumD, nR, isNum, h2]; omega
theorem isNumD_rat {d : D} (h : isNumD d = true) : ∃ r : Rat, d = nR r := by
  unfold isNumD at h
  split at h
  · rename_i p q
    simp only [isNum, Bool.and_eq_true, decide_eq_true_eq] at h
    refine ⟨⟨p, q.toNat, by omega, ?_⟩, ?_⟩
    · have : q.toNat = q.natAbs := by omega
      rw [this]; exact h.2
    · unfold nR
      have : ((q.toNat : Nat) : Int) = q := by omega
      simp [this]
  · cases h
theorem is_number_tup2 (n : Nat) {a b : D} (S : Sto) (ha : D.free a = true) (hb : D.free b = true) (sm : D.smB (.tup [a, b]) = true) : rn (n + 2) f_is_number [.tup [a, b]] S = .ok (.bl (isNumD (.tup [a, b]))) S := by
  refine run_ok (d := d_is_number) rfl rfl (by simp [ha, hb]) rfl (S1 := []) ?_
  have i1 := is_integer_any n (S := []) (Wf.of ha)
  have i2 := is_integer_any n (S := []) (Wf.of hb)
  have t2 := is_tuple_any n (d := .tup [a, b]) 2 (S := []) (Wf.of (by simp [ha, hb]))
  cases a with
  | int p =>
    cases b with
    | int q =>
      by_cases c : 0 < q
      · have eq : (q.natAbs : Int) = q := by omega
        have g := divisor_nat n p.natAbs q.natAbs [] (by
          simp only [D.smB, D.smL, Bool.and_eq_true, decide_eq_true_eq] at sm
          unfold Few
          by_cases z : p.natAbs * q.natAbs = 0
          · rw [z]; simp
          · have l1 := Nat.lt_log2_self (n := p.natAbs)
            have l2 := Nat.lt_log2_self (n := q.natAbs)
            have := lt_mul2 l1 l2
            have := (Nat.log2_lt z).mpr this
            omega)
        rw [eq] at g
        have e3 : (decide (((p.natAbs.gcd q.natAbs : Nat) : Int) = 1)) = decide (p.natAbs.gcd q.natAbs = 1) := by
          by_cases z : p.natAbs.gcd q.natAbs = 1
          · simp [z]
          · have : ¬ (((p.natAbs.gcd q.natAbs : Nat) : Int) = 1) := by omega
            simp [z, this]
        simp [d_is_number, startE, t2, isTupN, idxT0, idxT1, i1, i2, isIntD, bAbs_eq, c, g, isNumD, isNum, e3]
      · simp [d_is_number, startE, t2, isTupN, idxT0, idxT1, i1, i2, isIntD, c, isNumD, isNum]
    | _ => simp [d_is_number, startE, t2, isTupN, idxT0, idxT1, i1, i2, isIntD, isNumD]
  | _ => cases b <;> simp [d_is_number, startE, t2, isTupN, idxT0, idxT1, i1, isIntD, isNumD]
theorem is_number_any (n : Nat) {d : D} {S : Sto} (h : Wf S d) (sm : D.smB d = true) : rn (n + 2) f_is_number [d] S = .ok (.bl (isNumD d)) S := by
  by_cases two : ∃ a b, d = .tup [a, b]
  · obtain ⟨a, b, rfl⟩ := two
    have := h.tup
    exact is_number_tup2 n S (this a (by simp)) (this b (by simp)) sm
  · have e : isNumD d = false := by
      unfold isNumD
      split
      · exact absurd ⟨_, _, rfl⟩ two
      · rfl
    have z : isTupN d 2 = false := by
      cases d with
      | tup l =>
        simp only [isTupN, decide_eq_false_iff_not]
        intro hl
        have hl : l.length = 2 := by omega
        match l, hl with
        | [a, b], _ => exact two ⟨a, b, rfl⟩
      | _ => rfl
    have key : ∀ S, Wf S d → endB (evSs G.sub (rn (n + 1)) d_is_number.body (startE d_is_number [d]) S) = .ok (.bl (isNumD d)) S := fun S h => by
      simp [d_is_number, startE, is_tuple_any n 2 h, z, e]
    exact run_two (d := d_is_number) rfl rfl rfl (fun _ => key S h) (fun hf => key [] (.inl (by simpa using hf)))
/-! ### rows -/
def isRowD : D → Bool
  | .tup l => l.all isNumD
  | _ => false
theorem isRowD_rats : ∀ {l : List D}, isRowD (.tup l) = true → ∃ rs : List Rat, l = rs.map nR
  | [], _ => ⟨[], rfl⟩
  | d :: l, h => by
    simp only [isRowD, List.all_cons, Bool.and_eq_true] at h
    obtain ⟨r, rfl⟩ := isNumD_rat h.1
    obtain ⟨rs, rfl⟩ := isRowD_rats (l := l) h.2
    exact ⟨r :: rs, rfl⟩
theorem isRowD_map (rs : List Rat) : isRowD (.tup (rs.map nR)) = true := by
  simp [isRowD, isNumD_nR]
/-- a list comprehension over a tuple's own name, its truth all through -/
theorem smB_of {l : List D} (h : D.smB (.tup l) = true) : ∀ x ∈ l, D.smB x = true := (smL_iff l).mp (by simpa [D.smB] using h)
theorem is_row_any (n : Nat) {d : D} {S : Sto} (h : Wf S d) (sm : D.smB d = true) (hl : ∀ l, d = .tup l → l.length ≤ 1000) : rn (n + 3) f_is_row [d] S = .ok (.bl (isRowD d)) S := by
  have key : ∀ S, Wf S d → endB (evSs G.sub (rn (n + 2)) d_is_row.body (startE d_is_row [d]) S) = .ok (.bl (isRowD d)) S := fun S h => by
    obtain ⟨k, e, hk⟩ := isi_tuple h
    cases d with
    | tup l =>
      have fr := h.tup
      have cm := comp_id (sub := G.sub) (c := rn (n + 2)) (own := [1]) (tg := .nm 1) (e := .call f_is_number (.cons (.var 1) .nil)) (ρ := [some (.tup l), none]) (S := S) (fun x => .bl (isNumD x)) l fun x hx => ⟨[some (.tup l), some x], rfl, by
        have := is_number_any n (S := S) (Wf.of (fr x hx)) (smB_of sm x hx)
        simp [this]⟩
      have hz : l.length ≤ line := by have := hl l rfl; unfold line; omega
      simp [d_is_row, startE, isK, evE_bic, evC_mk, isD0, srcD, hz, cm, bil_all, isRowD]
    | _ =>
      have : isK G.sub k .tuple = false := hk
      simp [d_is_row, startE, e, this, isRowD]
  exact run_two (d := d_is_row) rfl rfl rfl (fun _ => key S h) (fun hf => key [] (.inl (by simpa using hf)))
def isRowN (d : D) (k : Int) : Bool := isRowD d && isTupN d k
theorem is_row_of_any (n : Nat) {d : D} (k : Int) {S : Sto} (h : Wf S d) (sm : D.smB d = true) (hl : ∀ l, d = .tup l → l.length ≤ 1000) : rn (n + 4) f_is_row_of [d, .int k] S = .ok (.bl (isRowN d k)) S := by
  have key : ∀ S, Wf S d → endB (evSs G.sub (rn (n + 3)) d_is_row_of.body (startE d_is_row_of [d, .int k]) S) = .ok (.bl (isRowN d k)) S := fun S h => by
    have r := is_row_any n h sm hl
    cases d with
    | tup l =>
      cases hb : isRowD (.tup l) with
      | true => simp [d_is_row_of, startE, r, hb, isRowN, biD, bLen, isTupN]
      | false => simp [d_is_row_of, startE, r, hb, isRowN]
    | _ => simp [d_is_row_of, startE, r, isRowD, isRowN]
  exact run_two (d := d_is_row_of) rfl rfl rfl (fun _ => key S h) (fun hf => key [] (.inl (by simpa using hf)))
/-! ### channels, counts, letters -/
def isBetD (d : D) (lo hi : Int) : Bool := match d with
  | .int i => decide (lo ≤ i) && decide (i ≤ hi)
  | _ => false
theorem is_between_any (n : Nat) {d : D} (lo hi : Int) {S : Sto} (h : Wf S d) : rn (n + 2) f_is_between [d, .int lo, .int hi] S = .ok (.bl (isBetD d lo hi)) S := by
  have key : ∀ S, Wf S d → endB (evSs G.sub (rn (n + 1)) d_is_between.body (startE d_is_between [d, .int lo, .int hi]) S) = .ok (.bl (isBetD d lo hi)) S := fun S h => by
    have r := is_integer_any n h
    cases d with
    | int i =>
      by_cases c : i < lo
      · have : ¬ lo ≤ i := by omega
        simp [d_is_between, startE, r, isIntD, isBetD, c, this]
      · have c' : lo ≤ i := by omega
        have e : (!decide (hi < i)) = decide (i ≤ hi) := by by_cases z : hi < i <;> simp [z] <;> omega
        simp [d_is_between, startE, r, isIntD, isBetD, c', c, e]
    | _ => simp [d_is_between, startE, r, isIntD, isBetD]
  exact run_two (d := d_is_between) rfl rfl rfl (fun _ => key S h) (fun hf => key [] (.inl (by simpa using hf)))
def isChD (d : D) : Bool := isBetD d 1 3
theorem is_channels_any (n : Nat) {d : D} {S : Sto} (h : Wf S d) : rn (n + 3) f_is_channels [d] S = .ok (.bl (isChD d)) S := by
  have key : ∀ S, Wf S d → endB (evSs G.sub (rn (n + 2)) d_is_channels.body (startE d_is_channels [d]) S) = .ok (.bl (isChD d)) S := fun S h => by
    simp [d_is_channels, startE, is_between_any n 1 3 h, isChD]
  exact run_two (d := d_is_channels) rfl rfl rfl (fun _ => key S h) (fun hf => key [] (.inl (by simpa using hf)))
theorem is_count_any (n : Nat) {d : D} {S : Sto} (h : Wf S d) : rn (n + 2) f_is_count [d] S = .ok (.bl (isCountD d)) S := by
  have key : ∀ S, Wf S d → endB (evSs G.sub (rn (n + 1)) d_is_count.body (startE d_is_count [d]) S) = .ok (.bl (isCountD d)) S := fun S h => by
    have r := is_integer_any n h
    cases d with
    | int i =>
      have e : (!decide (i < 0)) = decide (0 ≤ i) := by by_cases z : i < 0 <;> simp [z] <;> omega
      simp [d_is_count, startE, r, isIntD, isCountD, e]
    | _ => simp [d_is_count, startE, r, isIntD, isCountD]
  exact run_two (d := d_is_count) rfl rfl rfl (fun _ => key S h) (fun hf => key [] (.inl (by simpa using hf)))
def isLetD (c : Int) (d : D) : Bool := match d with
  | .tup l => decide ((l.length : Int) = c) && l.all isCountD
  | _ => false
theorem is_letter_any (n : Nat) (c : Int) {d : D} {S : Sto} (h : Wf S d) (hl : ∀ l, d = .tup l → l.length ≤ 1000) : rn (n + 3) f_is_letter [.int c, d] S = .ok (.bl (isLetD c d)) S := by
  have key : ∀ S, Wf S d → endB (evSs G.sub (rn (n + 2)) d_is_letter.body (startE d_is_letter [.int c, d]) S) = .ok (.bl (isLetD c d)) S := fun S h => by
    have r := is_tuple_any (n + 1) c h
    cases d with
    | tup l =>
      have fr := h.tup
      have cm := comp_id (sub := G.sub) (c := rn (n + 2)) (own := [2]) (tg := .nm 2) (e := .call f_is_count (.cons (.var 2) .nil)) (ρ := [some (.int c), some (.tup l), none]) (S := S) (fun x => .bl (isCountD x)) l fun x hx => ⟨[some (.int c), some (.tup l), some x], rfl, by
        have := is_count_any n (S := S) (Wf.of (fr x hx))
        simp [this]⟩
      have hz : l.length ≤ line := by have := hl l rfl; unfold line; omega
      by_cases hc : (l.length : Int) = c
      · simp [d_is_letter, startE, r, isTupN, hc, evE_bic, evC_mk, isD0, srcD, hz, cm, bil_all, isLetD]
      · simp [d_is_letter, startE, r, isTupN, hc, isLetD]
    | _ => simp [d_is_letter, startE, r, isTupN, isLetD]
  exact run_two (d := d_is_letter) rfl rfl rfl (fun _ => key S h) (fun hf => key [] (.inl (by simpa using hf)))
end K12


namespace K12
open Eg
/-! ### the box -/
def bxO (a : Int) (g : Bool) (m c : Int) : O := .lst [.int a, .bl g, .int m, .int c]
def Bx (S : Sto) (b k : Nat) : Prop := ∃ (a : Int) (g : Bool) (m c : Int), S[b]? = some (bxO a g m c) ∧ 0 ≤ a ∧ 0 ≤ m ∧ m < 2147483629 ∧ 0 ≤ c ∧ c + k ≤ 1000000
structure Grow (b : Nat) (S S' : Sto) : Prop where
  len : S.length ≤ S'.length
  old : ∀ i, i < S.length → i ≠ b → S'[i]? = S[i]?
theorem Grow.refl (b : Nat) (S : Sto) : Grow b S S := ⟨Nat.le_refl _, fun _ _ _ => rfl⟩
theorem Grow.trans {b : Nat} {S S1 S2 : Sto} (h : Grow b S S1) (h' : Grow b S1 S2) : Grow b S S2 := ⟨Nat.le_trans h.len h'.len, fun i hi hn => (h'.old i (Nat.lt_of_lt_of_le hi h.len) hn).trans (h.old i hi hn)⟩
theorem Grow.app {b : Nat} (S T : Sto) : Grow b S (S ++ T) := ⟨by simp, fun i hi _ => List.getElem?_append_left hi⟩
theorem Grow.at_ {b : Nat} {S S' : Sto} (h : Grow b S S') {i : Nat} {o : O} (hi : S[i]? = some o) (hn : i ≠ b) : S'[i]? = some o := (h.old i (List.getElem?_eq_some_iff.mp hi).1 hn).trans hi
theorem Grow.set {b : Nat} (S : Sto) (o : O) : Grow b S (S.set b o) := ⟨by simp, fun i _ hn => List.getElem?_set_ne (Ne.symm hn)⟩
theorem Bx.less {S : Sto} {b k k' : Nat} (h : Bx S b k) (hk : k' ≤ k) : Bx S b k' := by
  obtain ⟨a, g, m, c, h1, h2, h3, h4, h5, h6⟩ := h
  exact ⟨a, g, m, c, h1, h2, h3, h4, h5, by omega⟩
theorem Bx.app {S T : Sto} {b k : Nat} (h : Bx S b k) : Bx (S ++ T) b k := by
  obtain ⟨a, g, m, c, h1, h2⟩ := h
  exact ⟨a, g, m, c, (List.getElem?_append_left (List.getElem?_eq_some_iff.mp h1).1).trans h1, h2⟩
theorem Bx.lt {S : Sto} {b k : Nat} (h : Bx S b k) : b < S.length := by
  obtain ⟨a, g, m, c, h1, _⟩ := h
  exact (List.getElem?_eq_some_iff.mp h1).1
theorem idx_ref {S : Sto} {r : Nat} {l : List D} {i : Int} {d : D} (h : S[r]? = some (.lst l)) (hd : atL l i = some d) : idxD (.ref r) (.int i) S = .ok d S := by
  have : lstOf S r = some l := by unfold lstOf; rw [h]
  simp [idxD, this, hd]
theorem take_ok (n b k : Nat) (many : Int) (S : Sto) (h : Bx S b (k + 1)) (m1 : 0 < many) (m2 : many < 2 ^ 30) : ∃ (d : Int) (S' : Sto), rn (n + 1) f__law_take [.ref b, .int many] S = .ok (.int d) S' ∧ 0 ≤ d ∧ d < many ∧ Grow b S S' ∧ Bx S' b k := by
  obtain ⟨a, g, m, c, hb, ha, hm, hm2, hc, hk⟩ := h
  have hlt := (List.getElem?_eq_some_iff.mp hb).1
  have i0 : idxD (.ref b) (.int 0) S = .ok (.int a) S := idx_ref hb rfl
  have i1 : idxD (.ref b) (.int 1) S = .ok (.bl g) S := idx_ref hb rfl
  have i3 : idxD (.ref b) (.int 3) S = .ok (.int c) S := idx_ref hb rfl
  rw [show rn (n + 1) f__law_take [.ref b, .int many] S = endB (evSs G.sub (rn n) d__law_take.body (startE d__law_take [.ref b, .int many]) S) from run_ref rfl rfl rfl]
  by_cases c1 : g = true ∧ 0 < a
  · obtain ⟨rfl, c2⟩ := c1
    have e1 : binD .mod (.int a) (.int many) S = .ok (.int (a % many)) S := mod_ok S m1
    have e2 : binD .fdiv (.int a) (.int many) S = .ok (.int (a / many)) S := fdiv_ok S m1 (Nat.lt_of_lt_of_le (show many.natAbs < 2 ^ 30 by omega) (Nat.pow_le_pow_right (by omega) (by omega)))
    refine ⟨a % many, S.set b (bxO (a / many) true m c), ?_, Int.emod_nonneg _ (by omega), Int.emod_lt_of_pos _ m1, Grow.set _ _, _, _, _, _, List.getElem?_set_self hlt, Int.ediv_nonneg ha (by omega), hm, hm2, hc, by omega⟩
    simp [d__law_take, startE, i0, i1, c2, e1, e2, setE, hb, bxO, ixN]
  · have e0 : evSs G.sub (rn n) (.cons (.ife (.and (.idx (.var 0) (.lit (.int 1))) (.cmp .gt (.idx (.var 0) (.lit (.int 0))) (.lit (.int 0)))) (.cons (.asg 2 (.bin .mod (.bi .int (.cons (.idx (.var 0) (.lit (.int 0))) .nil)) (.var 1))) (.cons (.setI (.var 0) (.lit (.int 0)) (.bin .fdiv (.idx (.var 0) (.lit (.int 0))) (.var 1))) (.cons (.ret (.var 2)) .nil))) .nil) .nil) [some (.ref b), some (.int many), none, none] S = .nx [some (.ref b), some (.int many), none, none] S := by
      cases g with
      | false => simp [i0, i1]
      | true =>
        have : ¬ 0 < a := fun z => c1 ⟨rfl, z⟩
        simp [i0, i1, this]
    obtain ⟨S1, hS1⟩ : ∃ S1, S.set b (.lst [.int a, .bl g, .int m, .int (c + 1)]) = S1 := ⟨_, rfl⟩
    have hb1 : S1[b]? = some (bxO a g m (c + 1)) := by rw [← hS1]; exact List.getElem?_set_self hlt
    have j2 : idxD (.ref b) (.int 2) S1 = .ok (.int m) S1 := idx_ref hb1 rfl
    have j3 : idxD (.ref b) (.int 3) S1 = .ok (.int (c + 1)) S1 := idx_ref hb1 rfl
    have x1 : binD .mul (.int 15487495) (.int (c + 1)) S1 = .ok (.int (15487495 * (c + 1))) S1 := mul_ok S1 (sm_up (show (15487495 : Int).natAbs < 2 ^ 40 by decide) (by omega)) (sm_up (show (c + 1).natAbs < 2 ^ 30 by omega) (by omega))
    have x2 : binD .pow (.int (m + 15487495 * (c + 1) + 179426107)) (.int 5) S1 = .ok (.int ((m + 15487495 * (c + 1) + 179426107) ^ 5)) S1 := pow_ok (k := 5) S1 (by omega) (by decide)
    have x3 : ∀ z : Int, binD .mod (.int z) (.int 2147483647) S1 = .ok (.int (z % 2147483647)) S1 := fun z => mod_ok S1 (by omega)
    obtain ⟨y, hy⟩ : ∃ y, y = (m + 15487495 * (c + 1) + 179426107) ^ 5 % 2147483647 := ⟨_, rfl⟩
    have y1 : 0 ≤ y := by rw [hy]; exact Int.emod_nonneg _ (by omega)
    have y2 : y < 2147483647 := by rw [hy]; exact Int.emod_lt_of_pos _ (by omega)
    have x4 : binD .mul (.int y) (.int 48271) S1 = .ok (.int (y * 48271)) S1 := mul_ok S1 (sm_up (show y.natAbs < 2 ^ 31 by omega) (by omega)) (sm_up (show (48271 : Int).natAbs < 2 ^ 40 by decide) (by omega))
    have x5 : binD .mul (.int 104743) (.int (c + 1)) S1 = .ok (.int (104743 * (c + 1))) S1 := mul_ok S1 (sm_up (show (104743 : Int).natAbs < 2 ^ 40 by decide) (by omega)) (sm_up (show (c + 1).natAbs < 2 ^ 30 by omega) (by omega))
    have x6 : binD .pow (.int (y * 48271 + 104743 * (c + 1))) (.int 3) S1 = .ok (.int ((y * 48271 + 104743 * (c + 1)) ^ 3)) S1 := pow_ok (k := 3) S1 (by omega) (by decide)
    have x7 : ∀ z : Int, binD .mod (.int z) (.int 2147483587) S1 = .ok (.int (z % 2147483587)) S1 := fun z => mod_ok S1 (by omega)
    have x8 : ∀ z : Int, binD .fdiv (.int z) (.int 64) S1 = .ok (.int (z / 64)) S1 := fun z => fdiv_ok S1 (by omega) (Nat.lt_of_lt_of_le (show (64 : Int).natAbs < 2 ^ 30 by decide) (Nat.pow_le_pow_right (by omega) (by omega)))
    have x9 : ∀ z : Int, binD .mod (.int z) (.int many) S1 = .ok (.int (z % many)) S1 := fun z => mod_ok S1 m1
    obtain ⟨z, hz⟩ : ∃ z, z = (y * 48271 + 104743 * (c + 1)) ^ 3 % 2147483587 / 64 := ⟨_, rfl⟩
    refine ⟨z % many, S1, ?_, Int.emod_nonneg _ (by omega), Int.emod_lt_of_pos _ m1, hS1 ▸ Grow.set _ _, _, _, _, _, hb1, ha, hm, hm2, by omega, by omega⟩
    simp only [d__law_take, startE, evSs_cons, evSs_nil] at e0 ⊢
    simp only [List.map_cons, List.map_nil, List.length_cons, List.length_nil, List.replicate, List.cons_append, List.nil_append, Nat.reduceAdd, Nat.reduceSub]
    rw [RS.then_nx_id] at e0
    rw [e0]
    simp [i3, setE, hb, ixN, hS1, bxO, j2, j3, x1, x2, x3, ← hy, x4, x5, x6, x7, x8, ← hz, x9]
end K12


namespace K12
open Eg
/-! ### the same value -/
/-- data without references, so deep -/
def plD : Nat → D → Bool
  | 0, d => match d with
    | .tup _ => false
    | .fl _ => false
    | .ref _ => false
    | .fd l m => l.isEmpty && m.isEmpty
    | _ => true
  | k + 1, d => match d with
    | .tup l => decide (l.length ≤ 1000) && l.all (plD k)
    | .fl l => decide (l.length ≤ 1000) && l.all (plD k)
    | .ref _ => false
    | .fd l m => l.isEmpty && m.isEmpty
    | _ => true
theorem plD_free : ∀ (k : Nat) (d : D), plD k d = true → D.free d = true
  | 0, d, h => by
    cases d with
    | fd l m => simp only [plD, Bool.and_eq_true, List.isEmpty_iff] at h; rw [h.1, h.2]; rfl
    | _ => simp_all [plD]
  | k + 1, d, h => by
    cases d with
    | tup l =>
      simp only [plD, Bool.and_eq_true, List.all_eq_true] at h
      rw [free_tup, freeL_iff]
      exact fun x hx => plD_free k x (h.2 x hx)
    | fl l =>
      simp only [plD, Bool.and_eq_true, List.all_eq_true] at h
      rw [free_fl, freeL_iff]
      exact fun x hx => plD_free k x (h.2 x hx)
    | fd l m => simp only [plD, Bool.and_eq_true, List.isEmpty_iff] at h; rw [h.1, h.2]; rfl
    | _ => simp_all [plD]
theorem plD_up : ∀ {k : Nat} {d : D}, plD k d = true → plD (k + 1) d = true
  | 0, d, h => by cases d <;> simp_all [plD]
  | k + 1, d, h => by
    cases d with
    | tup l =>
      simp only [plD, Bool.and_eq_true, decide_eq_true_eq, List.all_eq_true] at h
      rw [plD]
      simp only [Bool.and_eq_true, decide_eq_true_eq, List.all_eq_true]
      exact ⟨h.1, fun x hx => plD_up (h.2 x hx)⟩
    | fl l =>
      simp only [plD, Bool.and_eq_true, decide_eq_true_eq, List.all_eq_true] at h
      rw [plD]
      simp only [Bool.and_eq_true, decide_eq_true_eq, List.all_eq_true]
      exact ⟨h.1, fun x hx => plD_up (h.2 x hx)⟩
    | fd l m => simpa [plD] using h
    | _ => simp_all [plD]
theorem plD_le {k m : Nat} {d : D} (h : plD k d = true) (hm : k ≤ m) : plD m d = true := by
  induction hm with
  | refl => exact h
  | step _ ih => exact plD_up ih
theorem rng_mem {n : Nat} {x : D} (h : x ∈ (List.range n).map fun (k : Nat) => D.int (k : Int)) : ∃ j : Nat, j < n ∧ x = .int j := by
  simp only [List.mem_map, List.mem_range] at h
  obtain ⟨j, hj, rfl⟩ := h
  exact ⟨j, hj, rfl⟩
theorem comp_none {sub : Nat → Nat → Bool} {c : Cl} {own : List Nat} {e : E} {tg : Tg} {t : Option E} {ρ : Env} {g : Option (Nat × O)} {acc : List D} {S : Sto} (hg : gOk g S = true) : ∀ {l : List D}, (∀ x ∈ l, ∃ ρ1, bindT S tg x (wipeE ρ own) = some ρ1 ∧ evT sub c t ρ1 S = .ok false S) → compB sub c own e tg t ρ g l acc S = .ok acc S
  | [], _ => rfl
  | x :: l, h => by
    obtain ⟨ρ1, h1, h2⟩ := h x (by simp)
    rw [compB_cons, h1]
    simp only [h2, hg, if_true]
    exact comp_none hg fun y hy => h y (by simp [hy])
theorem idx_nat {l : List D} {j : Nat} {x : D} {d : D} (S : Sto) (hs : d = .tup l ∨ seqD S d = some l) (h : l[j]? = some x) : idxD d (.int j) S = .ok x S := by
  rcases hs with rfl | hs
  · simp [idxD, atL_nat l h]
  · cases d with
    | tup _ => cases hs
    | str _ => cases hs
    | _ => simp [idxD, hs, atL_nat l h]
abbrev sameC : C := .mk [3] (.var 3) (.nm 3) (.rng1 (.bi .len (.cons (.var 1) .nil))) (some (.not (.call f__law_same (.cons (.idx (.var 0) (.var 3)) (.cons (.idx (.var 1) (.var 3)) .nil)))))
theorem same_C (n : Nat) (d : D) (l : List D) (S : Sto) (hs : d = .tup l ∨ seqD S d = some l) (hL : biD .len [d] S = .ok (.int l.length) S) (hl : l.length ≤ 1000) (h : ∀ x ∈ l, ∀ S, rn n f__law_same [x, x] S = .ok (.bl true) S) : evC G.sub (rn n) sameC [some d, some d, none, none] S = .ok [] S := by
  rw [evC_mk]
  have e1 : evI G.sub (rn n) (.rng1 (.bi .len (.cons (.var 1) .nil))) [some d, some d, none, none] S = .ok ((List.range l.length).map fun (k : Nat) => D.int (k : Int), none) S := by
    simp [hL, rng_nat (show l.length < 2 ^ 62 by omega)]
  rw [e1]
  simp only [R.bind_ok]
  rw [if_pos (by simp [line]; omega)]
  refine comp_none rfl fun x hx => ?_
  obtain ⟨j, hj, rfl⟩ := rng_mem hx
  obtain ⟨y, hy⟩ : ∃ y, l[j]? = some y := ⟨_, List.getElem?_eq_getElem hj⟩
  refine ⟨[some d, some d, none, some (.int j)], rfl, ?_⟩
  have := idx_nat S hs hy
  simp [this, h y (List.mem_of_getElem? hy)]
theorem same_pl : ∀ (k : Nat) {d : D}, plD k d = true → ∀ (n : Nat) (S : Sto), rn (n + k + 1) f__law_same [d, d] S = .ok (.bl true) S := by
  have go : ∀ (k : Nat) (d : D), plD k d = true → ∀ n, (∀ l, d = .tup l ∨ d = .fl l → l.length ≤ 1000 ∧ ∀ x ∈ l, ∀ S, rn (n + k) f__law_same [x, x] S = .ok (.bl true) S) → ∀ S, rn (n + k + 1) f__law_same [d, d] S = .ok (.bl true) S := by
    intro k d h n ih S
    have fr := plD_free k d h
    refine run_ok (d := d__law_same) rfl rfl (by simp [fr]) rfl (S1 := []) ?_
    cases d with
    | ref r => cases fr
    | tup l =>
      obtain ⟨hl, ha⟩ := ih l (.inl rfl)
      have hc := same_C (n + k) (.tup l) l [] (.inl rfl) rfl hl ha
      unfold sameC at hc
      simp [d__law_same, startE, cmpO, cIs, isK, eqD, biD, bLen, evE_nilc, hc]
    | fl l =>
      obtain ⟨hl, ha⟩ := ih l (.inr rfl)
      have hc := same_C (n + k) (.fl l) l [] (.inr rfl) rfl hl ha
      unfold sameC at hc
      simp [d__law_same, startE, cmpO, cIs, isK, eqD, biD, bLen, evE_nilc, hc]
    | fd l m =>
      have : l = [] ∧ m = [] := by cases k <;> simpa [plD] using h
      obtain ⟨rfl, rfl⟩ := this
      simp [d__law_same, startE, cmpO, cIs, isK, eqD, biD, bLen, evE_nilc, evC_mk, isD0, compB_nil]
    | non => simp [d__law_same, startE, cmpO, cIs]
    | bl b => simp [d__law_same, startE, cmpO, cIs, isK, eqD]
    | int i => simp [d__law_same, startE, cmpO, cIs, isK, eqD]
    | str s => simp [d__law_same, startE, cmpO, cIs, isK, eqD]
  intro k
  induction k with
  | zero =>
    intro d h n S
    refine go 0 d h n (fun l hl => ?_) S
    rcases hl with rfl | rfl <;> cases h
  | succ k ih =>
    intro d h n S
    refine go (k + 1) d h n (fun l hl => ?_) S
    have : l.length ≤ 1000 ∧ ∀ x ∈ l, plD k x = true := by
      rcases hl with rfl | rfl <;> (simp only [plD, Bool.and_eq_true, decide_eq_true_eq, List.all_eq_true] at h; exact h)
    exact ⟨this.1, fun x hx S => ih (this.2 x hx) n S⟩
theorem kind_lst {S : Sto} {r : Nat} {l : List D} (h : S[r]? = some (.lst l)) : kind S (.ref r) = some .list := by simp [kind, h]
theorem same_lst (k n r : Nat) (l : List D) (S : Sto) (hr : S[r]? = some (.lst l)) (hl : l.length ≤ 1000) (h : ∀ x ∈ l, plD k x = true) : rn (n + k + 2) f__law_same [.ref r, .ref r] S = .ok (.bl true) S := by
  rw [show rn (n + k + 2) f__law_same [.ref r, .ref r] S = endB (evSs G.sub (rn (n + k + 1)) d__law_same.body (startE d__law_same [.ref r, .ref r]) S) from run_ref rfl rfl rfl]
  have hc := same_C (n + k + 1) (.ref r) l S (.inr (lstOf_of hr)) (by simp [biD, bLen, hr]) hl fun x hx S => same_pl k (h x hx) n S
  unfold sameC at hc
  simp [d__law_same, startE, cmpO, cIs, isK, eqD, biD, bLen, evE_nilc, hc, kind_lst hr, hr]
/-! ### what an error keeps -/
/-- lists of the store that grow: each short, of plain things -/
def Ty (W : Nat → Prop) (m : Nat) (S : Sto) : Prop := ∀ r, W r → ∃ l, S[r]? = some (.lst l) ∧ l.length ≤ m ∧ ∀ x ∈ l, plD 5 x = true
theorem Ty.up {W : Nat → Prop} {m m' : Nat} {S : Sto} (h : Ty W m S) (hm : m ≤ m') : Ty W m' S := fun r hr => by
  obtain ⟨l, h1, h2, h3⟩ := h r hr
  exact ⟨l, h1, by omega, h3⟩
/-- a value that an error may keep -/
def Kp (W : Nat → Prop) (v : D) : Prop := plD 5 v = true ∨ ∃ r, v = .ref r ∧ W r
theorem Kp.wf {W : Nat → Prop} {m : Nat} {S : Sto} {v : D} (h : Kp W v) (ty : Ty W m S) : Wf S v := by
  rcases h with h | ⟨r, rfl, hr⟩
  · exact .inl (plD_free 5 v h)
  · obtain ⟨l, h1, _⟩ := ty r hr
    exact .inr ⟨r, rfl, kind_lst h1⟩
theorem pl_nolist {k : Nat} {d : D} (h : plD k d = true) (hn : ∀ l, d ≠ .fl l) (S : Sto) : ∃ kd, kind S d = some kd ∧ isK G.sub kd .list = false := by
  cases d with
  | fl l => exact absurd rfl (hn l)
  | ref r => cases k <;> cases h
  | _ => exact ⟨_, rfl, rfl⟩
/-- the keeping error is not blamed: a list has one item more behind it -/
theorem blamed_ok {W : Nat → Prop} {m b : Nat} (n : Nat) {v : D} {S : Sto} (h : Kp W v) (hn : ∀ l, v ≠ .fl l) (ty : Ty W m S) (hm : m < 1000) (hb : ¬ W b) : ∃ S', rn (n + 8) f__law_blamed [v, v] S = .ok (.bl true) S' ∧ Ty W (m + 1) S' ∧ S'.length = S.length ∧ ∀ i, ¬ W i → S'[i]? = S[i]? := by
  rcases h with h | ⟨r, rfl, hr⟩
  · refine ⟨S, ?_, ty.up (by omega), rfl, fun _ _ => rfl⟩
    refine run_ok (d := d__law_blamed) rfl rfl (by simp [plD_free 5 v h]) rfl (S1 := []) ?_
    have e := same_pl 5 h (n + 1) []
    obtain ⟨kd, k1, k2⟩ := pl_nolist h hn []
    simp [d__law_blamed, startE, e, k1, k2]
  · obtain ⟨l, h1, h2, h3⟩ := ty r hr
    have hlt := (List.getElem?_eq_some_iff.mp h1).1
    have e := same_lst 5 n r l S h1 (by omega) h3
    have hr2 : (S.set r (.lst (l ++ [.int 7])))[r]? = some (.lst (l ++ [.int 7])) := List.getElem?_set_self hlt
    have h3' : ∀ x ∈ l ++ [.int 7], plD 5 x = true := fun x hx => by
      rcases List.mem_append.mp hx with hx | hx
      · exact h3 x hx
      · rw [List.mem_singleton.mp hx]; rfl
    have e2 := same_lst 5 n r (l ++ [.int 7]) (S.set r (.lst (l ++ [.int 7]))) hr2 (by simp; omega) h3'
    refine ⟨S.set r (.lst (l ++ [.int 7])), ?_, fun q hq => ?_, by simp, fun i hi => List.getElem?_set_ne fun (z : r = i) => hi (z ▸ hr)⟩
    · rw [show rn (n + 8) f__law_blamed [.ref r, .ref r] S = endB (evSs G.sub (rn (n + 7)) d__law_blamed.body (startE d__law_blamed [.ref r, .ref r]) S) from run_ref rfl rfl rfl]
      have lt : l.length < line := by unfold line; omega
      simp [d__law_blamed, startE, e, e2, kind_lst h1, isK, lstOf_of h1, meD, meL, h1, lt]
    · by_cases z : q = r
      · subst z; exact ⟨_, hr2, by simp; omega, h3'⟩
      · obtain ⟨l2, k1, k2, k3⟩ := ty q hq
        exact ⟨l2, by rw [List.getElem?_set_ne (Ne.symm z)]; exact k1, by omega, k3⟩
end K12


namespace K12
open Eg
open Eg.Hd
/-! ### fractions over a power of one base: sums do not let it grow -/
def Dv (Q w A : Nat) (r : Rat) : Prop := ∃ a : Int, r = Rat.divInt a ((Q : Int) ^ w) ∧ a.natAbs ≤ 2 ^ A * Q ^ w
section
variable {Q w w' A A' : Nat} {r s : Rat} (hQ : 0 < Q)
include hQ
theorem qne (w : Nat) : (Q : Int) ^ w ≠ 0 := by
  have : (Q : Int) ≠ 0 := by omega
  exact Int.pow_ne_zero this
theorem Dv.up (h : Dv Q w A r) (hw : w ≤ w') (hA : A ≤ A') : Dv Q w' A' r := by
  obtain ⟨a, rfl, ha⟩ := h
  obtain ⟨k, rfl⟩ : ∃ k, w' = w + k := ⟨w' - w, by omega⟩
  refine ⟨a * (Q : Int) ^ k, ?_, ?_⟩
  · rw [Int.pow_add, Rat.divInt_mul_right (qne hQ k)]
  · rw [Int.natAbs_mul, Int.natAbs_pow, Int.natAbs_natCast, Nat.pow_add, ← Nat.mul_assoc]
    exact Nat.mul_le_mul_right _ (Nat.le_trans ha (Nat.mul_le_mul_right _ (Nat.pow_le_pow_right (by omega) hA)))
theorem Dv.add (h : Dv Q w A r) (h' : Dv Q w A s) : Dv Q w (A + 1) (r + s) := by
  obtain ⟨a, rfl, ha⟩ := h
  obtain ⟨b, rfl, hb⟩ := h'
  refine ⟨a + b, ?_, ?_⟩
  · rw [Rat.divInt_add_divInt _ _ (qne hQ w) (qne hQ w), ← Int.add_mul, Rat.divInt_mul_right (qne hQ w)]
  · have := Int.natAbs_add_le a b
    rw [Nat.pow_succ, Nat.mul_right_comm]
    omega
theorem Dv.mul (h : Dv Q w A r) (h' : Dv Q w' A' s) : Dv Q (w + w') (A + A') (r * s) := by
  obtain ⟨a, rfl, ha⟩ := h
  obtain ⟨b, rfl, hb⟩ := h'
  refine ⟨a * b, ?_, ?_⟩
  · rw [Rat.divInt_mul_divInt, ← Int.pow_add]
  · rw [Int.natAbs_mul, Nat.pow_add, Nat.pow_add, Nat.mul_mul_mul_comm]
    exact Nat.mul_le_mul ha hb
theorem Dv.sz {qb : Nat} (hq : Q < 2 ^ qb) (h : Dv Q w A r) : Sz (A + qb * w + 1) (qb * w + 1) r := by
  obtain ⟨a, rfl, ha⟩ := h
  have q1 : Q ^ w ≤ 2 ^ (qb * w) := by rw [Nat.pow_mul]; exact Nat.pow_le_pow_left (by omega) w
  refine divInt_sz (qne hQ w) ?_ ?_
  · refine Nat.lt_of_le_of_lt ha ?_
    rw [Nat.pow_succ, Nat.pow_add]
    have := Nat.mul_le_mul_left (2 ^ A) q1
    have : 0 < 2 ^ A * 2 ^ (qb * w) := Nat.mul_pos (Nat.pow_pos (by omega)) (Nat.pow_pos (by omega))
    omega
  · rw [Int.natAbs_pow, Int.natAbs_natCast, Nat.pow_succ]
    have : 0 < 2 ^ (qb * w) := Nat.pow_pos (by omega)
    omega
theorem Dv.int (z : Int) (hz : z.natAbs ≤ 2 ^ A) : Dv Q 0 A (Rat.divInt z 1) := ⟨z, by simp, by simpa using hz⟩
theorem Dv.pow (h : Dv Q w A r) : ∀ k : Nat, Dv Q (w * k) (A * k) (r ^ k)
  | 0 => ⟨1, by simp; rfl, by simp⟩
  | k + 1 => by
    rw [Rat.pow_succ, Nat.mul_succ, Nat.mul_succ]
    exact Dv.mul hQ (Dv.pow h k) h
end
theorem Dv.neg {Q w A : Nat} {r : Rat} (h : Dv Q w A r) : Dv Q w A (-r) := by
  obtain ⟨a, rfl, ha⟩ := h
  exact ⟨-a, by rw [Rat.neg_divInt], by simpa using ha⟩
theorem Dv.zero {Q w A : Nat} : Dv Q w A 0 := ⟨0, by simp, by simp⟩
theorem Dv.one {Q A : Nat} : Dv Q 0 A 1 := ⟨1, by simp; rfl, by simp; exact Nat.one_le_two_pow⟩
/-- a number of few drawn ones multiplied -/
def Sn (w : Nat) (r : Rat) : Prop := Sz (3 * w) (2 * w) r ∧ Dv 6 w (3 * w) r
theorem Sn.up {w w' : Nat} {r : Rat} (h : Sn w r) (hw : w ≤ w') : Sn w' r := ⟨h.1.up (by omega) (by omega), h.2.up (by decide) hw (by omega)⟩
theorem Sn.mul {w w' : Nat} {r s : Rat} (h : Sn w r) (h' : Sn w' s) : Sn (w + w') (r * s) :=
  ⟨(h.1.mul h'.1).up (by omega) (by omega), (h.2.mul (by decide) h'.2).up (by decide) (Nat.le_refl _) (by omega)⟩
theorem Sn.neg {w : Nat} {r : Rat} (h : Sn w r) : Sn w (-r) := ⟨by
  have h := h.1
  unfold Sz at *; rw [Rat.neg_num, Rat.neg_den, Int.natAbs_neg]; exact h, h.2.neg⟩
theorem sn_zero : Sn 1 0 := ⟨⟨by decide, by decide⟩, Dv.zero⟩
theorem dv_of {t u : Int} {A : Nat} (hu : u = 1 ∨ u = 2 ∨ u = 3) (ht : t.natAbs ≤ 2 ^ A) : Dv 6 1 A (Rat.divInt t u) := by
  have key : ∀ k : Int, u * k = 6 → 0 < k → Dv 6 1 A (Rat.divInt t u) := fun k hk k0 => by
    have e : Rat.divInt t u = Rat.divInt (t * k) (u * k) := (Rat.divInt_mul_right (by omega)).symm
    refine ⟨t * k, by rw [e, hk]; rfl, ?_⟩
    rw [Int.natAbs_mul]
    refine Nat.mul_le_mul ht ?_
    rcases hu with rfl | rfl | rfl <;> omega
  rcases hu with rfl | rfl | rfl
  · exact key 6 rfl (by omega)
  · exact key 3 rfl (by omega)
  · exact key 2 rfl (by omega)
theorem sn_of {t u : Int} (hu : u = 1 ∨ u = 2 ∨ u = 3) (ht : t.natAbs < 2 ^ 3) : Sn 1 (Rat.divInt t u) :=
  ⟨divInt_sz (by rcases hu with rfl | rfl | rfl <;> decide) ht (by rcases hu with rfl | rfl | rfl <;> decide), dv_of hu (by omega)⟩
end K12


namespace K12
open Eg
open Eg.Hd
/-! ### drawn things -/
theorem pick (l : List D) {d : Int} (h0 : 0 ≤ d) (h1 : d < l.length) : ∃ x, atL l d = some x ∧ x ∈ l := by
  have hn : d.toNat < l.length := by omega
  refine ⟨l[d.toNat], ?_, List.getElem_mem hn⟩
  have := atL_nat l (List.getElem?_eq_getElem hn)
  rwa [show ((d.toNat : Nat) : Int) = d by omega] at this
theorem number_ok (n b k : Nat) (S : Sto) (h : Bx S b (k + 2)) : ∃ (r : Rat) (S' : Sto), rn (n + 2) f__law_number [.ref b] S = .ok (nR r) S' ∧ Sn 1 r ∧ Grow b S S' ∧ Bx S' b k := by
  obtain ⟨d, S1, e1, d0, d1, g1, h1⟩ := take_ok n b (k + 1) 10 S h (by decide) (by decide)
  obtain ⟨c, S2, e2, c0, c1, g2, h2⟩ := take_ok n b k 6 S1 h1 (by decide) (by decide)
  obtain ⟨x, x1, x2⟩ := pick [.int 1, .int (-1), .int 2, .int 0, .int 3, .int (-2), .int 1, .int 5, .int (-3), .int 1] d0 d1
  obtain ⟨y, y1, y2⟩ := pick [.int 1, .int 1, .int 1, .int 2, .int 1, .int 3] c0 c1
  obtain ⟨t, rfl, ht⟩ : ∃ t : Int, x = .int t ∧ t.natAbs < 2 ^ 3 := by
    simp only [List.mem_cons, List.not_mem_nil, or_false] at x2
    rcases x2 with rfl | rfl | rfl | rfl | rfl | rfl | rfl | rfl | rfl | rfl <;> exact ⟨_, rfl, by decide⟩
  obtain ⟨u, rfl, hu, hu0, hu3⟩ : ∃ t : Int, y = .int t ∧ t.natAbs < 2 ^ 2 ∧ t ≠ 0 ∧ (t = 1 ∨ t = 2 ∨ t = 3) := by
    simp only [List.mem_cons, List.not_mem_nil, or_false] at y2
    rcases y2 with rfl | rfl | rfl | rfl | rfl | rfl <;> exact ⟨_, rfl, by decide, by decide, by decide⟩
  refine ⟨Rat.divInt t u, S2, ?_, sn_of hu3 ht, g1.trans g2, h2⟩
  rw [show rn (n + 2) f__law_number [.ref b] S = endB (evSs G.sub (rn (n + 1)) d__law_number.body (startE d__law_number [.ref b]) S) from run_ref rfl rfl rfl]
  have e3 := law_low_ok n S2 hu0 ht hu (by omega) (by omega)
  simp [d__law_number, startE, line, e1, idxL, x1, e2, y1, e3]
/-- a step as data -/
def stD (rs : List Rat) : D := .tup (rs.map nR)
@[simp] theorem free_stD (rs : List Rat) : D.free (stD rs) = true := by simp [stD, freeL_map]
def zeros (c : Nat) : List Rat := List.replicate c 0
theorem nR_zero : nR 0 = .tup [.int 0, .int 1] := rfl
theorem nR_one : nR 1 = .tup [.int 1, .int 1] := rfl
theorem mul_tup (l : List D) (c : Nat) (S : Sto) (hl : l.length ≤ 1000) (hc : c ≤ 1000) : binD .mul (.tup l) (.int (c : Int)) S = .ok (.tup (List.replicate c l).flatten) S := by
  show (if decide (-1000 ≤ (c : Int)) && decide ((c : Int) ≤ 1000) && decide (l.length ≤ 1000) then R.ok (D.tup (List.replicate (c : Int).toNat l).flatten) S else .no) = _
  rw [if_pos (by simp only [Bool.and_eq_true, decide_eq_true_eq]; omega)]
  simp
theorem rep_one (c : Nat) (x : D) : (List.replicate c [x]).flatten = List.replicate c x := by
  induction c with
  | zero => rfl
  | succ c ih => simp [List.replicate_succ, ih]
theorem zeros_mul (c : Nat) (S : Sto) (hc : c ≤ 1000) : binD .mul (.tup [.tup [.int 0, .int 1]]) (.int (c : Int)) S = .ok (stD (zeros c)) S := by
  rw [mul_tup _ c S (by simp) hc, rep_one]
  unfold stD zeros
  rw [List.map_replicate, nR_zero]

theorem zeros_sz (c : Nat) : ∀ r ∈ zeros c, Sn 1 r := fun r h => by
  rw [List.eq_of_mem_replicate h]; exact sn_zero
theorem numbers_comp (n b : Nat) {own : List Nat} {j : Nat} {ρ : Env} {c k : Nat} {S : Sto} {r : R (List D)} (h : Bx S b (k + 2 * c)) (hρ : (wipeE ρ own)[0]? = some (some (.ref b))) (hj : j ≠ 0)
    (hF : compB G.sub (rn (n + 2)) own (.call f__law_number (.cons (.var 0) .nil)) (.nm j) none ρ none ((List.range c).map fun (k : Nat) => D.int (k : Int)) [] S = r) :
    ∃ (rs : List Rat) (S' : Sto), r = .ok (rs.map nR) S' ∧ rs.length = c ∧ (∀ r ∈ rs, Sn 1 r) ∧ Grow b S S' ∧ Bx S' b k := by
  obtain ⟨acc, S', e, rs, h1, h2, h3, h4, h5⟩ := comp_use hF (fun acc l S' => ∃ rs : List Rat, acc = rs.map nR ∧ rs.length + l.length = c ∧ (∀ r ∈ rs, Sn 1 r) ∧ Grow b S S' ∧ Bx S' b (k + 2 * l.length)) ⟨[], rfl, by simp, by simp, Grow.refl .., by simpa using h⟩ (by
    rintro acc x l S1 ⟨rs, rfl, h2, h3, h4, h5⟩
    refine ⟨_, rfl, ?_⟩
    obtain ⟨r, S2, e1, s1, g1, b1⟩ := number_ok n b (k + 2 * l.length) S1 (h5.less (by simp; omega))
    refine ⟨nR r, S2, ?_, rs ++ [r], by simp, by simp at h2 ⊢; omega, fun q hq => ?_, h4.trans g1, b1⟩
    · have : (setE (wipeE ρ own) j (.int (x : Int)))[0]? = some (some (.ref b)) := by
        unfold setE
        rw [List.getElem?_set_ne hj]; exact hρ
      simp [this, e1]
    · rcases List.mem_append.mp hq with hq | hq
      · exact h3 q hq
      · rw [List.mem_singleton.mp hq]; exact s1)
  exact ⟨rs, S', h1 ▸ e, by simpa using h2, h3, h4, by simpa using h5⟩
theorem step_ok (n b k c : Nat) (S : Sto) (h : Bx S b (k + 2 * c + 2)) (hc : 1 ≤ c ∧ c ≤ 3) : ∃ (rs : List Rat) (S' : Sto), rn (n + 3) f__law_step [.ref b, .int (c : Int)] S = .ok (stD rs) S' ∧ rs.length = c ∧ (∀ r ∈ rs, Sn 1 r) ∧ Grow b S S' ∧ Bx S' b k := by
  obtain ⟨w, S1, e1, w0, w1, g1, h1⟩ := take_ok (n + 1) b (k + 1 + 2 * c) 6 S (h.less (by omega)) (by decide) (by decide)
  rw [show rn (n + 3) f__law_step [.ref b, .int (c : Int)] S = endB (evSs G.sub (rn (n + 2)) d__law_step.body (startE d__law_step [.ref b, .int (c : Int)]) S) from run_ref rfl rfl rfl]
  have rg := rng_nat (n := c) (by omega)
  simp only [d__law_step, startE]
  simp [e1, evE_bic, evC_mk, rg, line]
  rw [if_pos (by omega)]
  generalize hF : compB _ _ _ _ _ _ _ _ _ _ _ = r
  obtain ⟨rs, S2, rfl, r1, r2, g2, h2⟩ := numbers_comp n b h1 rfl (by decide) hF
  simp [bindT, bindTs, setE, line]
  by_cases c0 : w = 0
  · subst c0
    simp [zeros_mul c S2 (by omega)]
    exact ⟨zeros c, S2, ⟨rfl, rfl⟩, by simp [zeros], zeros_sz c, g1.trans g2, h2.less (by omega)⟩
  · by_cases c4 : w < 4 ∧ 1 < c
    · obtain ⟨at_, S3, e3, a0, a1, g3, h3⟩ := take_ok (n + 1) b k (c : Int) S2 h2 (by omega) (by omega)
      have c4' : (1 : Int) < (c : Int) := by omega
      simp [c0, c4.1, c4', e3, setE, evE_bic, evC_mk, rg, line]
      rw [if_pos (by omega)]
      generalize hF2 : compB _ _ _ _ _ _ _ _ _ _ _ = r
      have := comp_pure hF2 (fun (x : Nat) => nR (if (x : Int) = at_ then rs.getD x 0 else 0)) (fun x hx => by
        refine ⟨_, rfl, ?_⟩
        have hx : x < c := by simpa using hx
        by_cases ca : (x : Int) = at_
        · subst ca
          have hx2 : rs[x]? = some (rs[x]'(by omega)) := List.getElem?_eq_getElem (by omega)
          have i1 : idxD (.tup (rs.map nR)) (.int (x : Int)) S3 = .ok (nR (rs[x]'(by omega))) S3 := by
            simp [idxD, atL_map nR rs hx2]
          simp [wipeE, setE, i1, hx2]
        · simp [wipeE, setE, ca, line, nR_zero])
      subst this
      simp
      refine ⟨(List.range c).map fun (x : Nat) => if (x : Int) = at_ then rs.getD x 0 else 0, S3, ⟨by simp [stD, Function.comp_def], rfl⟩, by simp, fun r hr => ?_, (g1.trans g2).trans g3, h3⟩
      obtain ⟨x, hx, rfl⟩ := List.mem_map.mp hr
      split
      · have hx : x < rs.length := by rw [r1]; simpa using hx
        have : rs.getD x 0 = rs[x] := by simp [List.getD, List.getElem?_eq_getElem hx]
        rw [this]; exact r2 _ (List.getElem_mem hx)
      · exact sn_zero
    · refine ⟨rs, S2, ?_, r1, r2, g1.trans g2, h2.less (by omega)⟩
      by_cases c4a : w < 4
      · have : ¬ (1 : Int) < (c : Int) := by omega
        simp [c0, c4a, this, stD]
      · simp [c0, c4a, stD]
end K12


namespace K12
open Eg
open Eg.Hd
/-! ### powers of a step at a letter -/
theorem pow_b {x : Int} {a : Nat} (h : x.natAbs < 2 ^ a) (c : Nat) : (x ^ c).natAbs < 2 ^ (a * c + 1) := by
  induction c with
  | zero => simp
  | succ c ih =>
    rw [Int.pow_succ]
    refine Nat.lt_of_lt_of_le (mul_b ih h) (Nat.pow_le_pow_right (by omega) ?_)
    rw [Nat.mul_succ]; omega
theorem Sz.pow {a d : Nat} {r : Rat} (h : Sz a d r) (c : Nat) : Sz (a * c + 1) (d * c + 1) (r ^ c) := by
  refine ⟨by rw [Rat.num_pow]; exact pow_b h.1 c, ?_⟩
  rw [Rat.den_pow]
  have := pow_b h.den c
  rw [Int.natAbs_pow, Int.natAbs_natCast] at this
  exact this
theorem nR_pow (r : Rat) (c : Nat) : nR (r ^ c) = .tup [.int (r.num ^ c), .int (((r.den : Nat) : Int) ^ c)] := by
  unfold nR; rw [Rat.num_pow, Rat.den_pow]; simp
theorem power_of_ok (n c : Nat) {a d : Nat} {r : Rat} (S : Sto) (h : Sz a d r) (hc : c ≤ 1000) (ha : a * c + a ≤ 800000) (hd : d * c + d ≤ 800000) : rn (n + 1) f_power_of [nR r, .int (c : Int)] S = .ok (nR (r ^ c)) S := by
  refine run_okS (d := d_power_of) rfl rfl (by simp) (free_nR _) ?_
  have rg := rng_nat (n := c) (by omega)
  simp only [d_power_of, startE]
  simp [line, bindT, bindTs, setE, evS_fr, rg]
  generalize hF : forB _ _ _ _ _ _ _ _ = q
  obtain ⟨ρ', S', rfl, y, rfl, rfl⟩ := for_rng hF (fun i ρ S => ∃ y, ρ = [some (nR r), some (.int (c : Int)), some (.int (r.num ^ i)), some (.int (((r.den : Nat) : Int) ^ i)), y] ∧ S = []) ⟨none, by simp, rfl⟩ (by
    rintro i ρ S hi ⟨y, rfl, rfl⟩
    refine ⟨_, rfl, _, _, ?_, some (.int (i : Int)), rfl, rfl⟩
    have m1 : binD .mul (.int (r.num ^ i)) (.int r.num) [] = .ok (.int (r.num ^ (i + 1))) [] := by
      rw [Int.pow_succ]
      have : a * i ≤ a * c := Nat.mul_le_mul_left _ (by omega)
      exact mul_big [] (pow_b h.1 i) h.1 (by omega)
    have m2 : binD .mul (.int (((r.den : Nat) : Int) ^ i)) (.int (r.den : Int)) [] = .ok (.int (((r.den : Nat) : Int) ^ (i + 1))) [] := by
      rw [Int.pow_succ]
      have : d * i ≤ d * c := Nat.mul_le_mul_left _ (by omega)
      exact mul_big [] (pow_b h.den i) h.den (by omega)
    simp [bindT, setE, setAll, m1, m2])
  simp [nR_pow, line]
/-- the power of a step at a letter -/
def powP (l : List (Rat × Nat)) : Rat := l.foldl (fun f p => f * p.1 ^ p.2) 1
theorem powP_snoc (l : List (Rat × Nat)) (p : Rat × Nat) : powP (l ++ [p]) = powP l * p.1 ^ p.2 := by simp [powP]
theorem powP_take {l : List (Rat × Nat)} {i : Nat} {p : Rat × Nat} (h : l[i]? = some p) : powP (l.take (i + 1)) = powP (l.take i) * p.1 ^ p.2 := by
  rw [List.take_succ, h]; exact powP_snoc _ _
/-- a letter as data -/
def leD (l : List Nat) : D := .tup (l.map fun (k : Nat) => .int (k : Int))
@[simp] theorem free_leD (l : List Nat) : D.free (leD l) = true := by simp [leD, freeL_map]
/-- bits of the powers -/
def pA (a e i : Nat) : Nat := 1 + (a * e + 1) * i
theorem powP_sz {a d e : Nat} : ∀ (l : List (Rat × Nat)), (∀ p ∈ l, Sz a d p.1 ∧ p.2 ≤ e) → ∀ i, i ≤ l.length → Sz (pA a e i) (pA d e i) (powP (l.take i)) := by
  intro l h i
  induction i with
  | zero => intro _; simp [powP, pA]; exact ⟨by decide, by decide⟩
  | succ i ih =>
    intro hi
    have hx := List.getElem?_eq_getElem (show i < l.length by omega)
    rw [powP_take hx]
    obtain ⟨h1, h2⟩ := h _ (List.getElem_mem (show i < l.length by omega))
    have z1 : a * (l[i]).2 ≤ a * e := Nat.mul_le_mul_left _ h2
    have z2 : d * (l[i]).2 ≤ d * e := Nat.mul_le_mul_left _ h2
    refine ((ih (by omega)).mul (h1.pow _)).up ?_ ?_
    · unfold pA; rw [Nat.mul_succ]; omega
    · unfold pA; rw [Nat.mul_succ]; omega
theorem step_power_ok (n : Nat) {a d e : Nat} {st : List Rat} {le : List Nat} (S : Sto) (h : ∀ r ∈ st, Sz a d r) (h2 : ∀ c ∈ le, c ≤ e) (he : e ≤ 1000) (hl : st.length ≤ 3) (ha : 4 * (a * e + a + 1) ≤ 80000) (hd : 4 * (d * e + d + 1) ≤ 8000) :
    rn (n + 4) f_step_power [stD st, leD le] S = .ok (nR (powP (st.zip le))) S := by
  refine run_okS (d := d_step_power) rfl rfl (by simp) (free_nR _) ?_
  simp only [d_step_power, startE]
  have hz : ∀ p ∈ st.zip le, Sz a d p.1 ∧ p.2 ≤ e := fun p hp => ⟨h _ (List.of_mem_zip hp).1, h2 _ (List.of_mem_zip hp).2⟩
  have hlen : (st.zip le).length ≤ 3 := by simp; omega
  simp [setE, evS_fr, stD, leD]
  have zi := zip_items nR (fun (k : Nat) => D.int (k : Int)) st le
  have zi' : List.map (fun p => D.tup [p.1, p.2]) ((List.map nR st).zip (List.map (fun (k : Nat) => D.int (k : Int)) le)) = (st.zip le).map fun p => D.tup [nR p.1, D.int ((p.2 : Nat) : Int)] := zi
  first | rw [zi'] | simp only [zi'] | skip
  generalize hF : forB _ _ _ _ _ _ _ _ = q
  obtain ⟨ρ', S', rfl, y, z, rfl, rfl⟩ := for_idx (g := fun p : Rat × Nat => D.tup [nR p.1, D.int ((p.2 : Nat) : Int)]) hF (fun i ρ S => ∃ y z, ρ = [some (stD st), some (leD le), some (nR (powP ((st.zip le).take i))), y, z] ∧ S = []) ⟨none, none, rfl, rfl⟩ (by
    rintro i x ρ S hx ⟨y, z, rfl, rfl⟩
    refine ⟨_, rfl, _, _, ?_, some (nR x.1), some (.int ((x.2 : Nat) : Int)), rfl, rfl⟩
    obtain ⟨s1, s2⟩ := hz x (List.mem_of_getElem? hx)
    have hi := (List.getElem?_eq_some_iff.mp hx).1
    have z1 : a * x.2 ≤ a * e := Nat.mul_le_mul_left _ s2
    have z2 : d * x.2 ≤ d * e := Nat.mul_le_mul_left _ s2
    have p1 := power_of_ok (n + 2) x.2 [] s1 (by omega) (by omega) (by omega)
    have hb := powP_sz (st.zip le) hz i (by omega)
    have b1 : pA a e i ≤ 1 + 3 * (a * e + 1) := by unfold pA; have := Nat.mul_le_mul_left (a * e + 1) (show i ≤ 3 by omega); omega
    have b2 : pA d e i ≤ 1 + 3 * (d * e + 1) := by unfold pA; have := Nat.mul_le_mul_left (d * e + 1) (show i ≤ 3 by omega); omega
    have p2 := product_of_ok hb (s1.pow x.2) n [] (by omega) (by omega) (by omega)
    rw [← powP_take hx] at p2
    simp [bindT, bindTs, setE, p1, p2])
  rw [List.take_length]
  simp
end K12


namespace K12
open Eg
open Eg.Hd
/-! ### == of numbers and rows of them -/
/-- ints, tuples and lists of such, so deep -/
def numD : Nat → D → Bool
  | 0, d => match d with
    | .int _ => true
    | _ => false
  | k + 1, d => match d with
    | .int _ => true
    | .tup l => l.all (numD k)
    | .fl l => l.all (numD k)
    | _ => false
theorem numD_plain (S : Sto) : ∀ (k m : Nat) (d : D), numD k d = true → k < m → plain m S d = true
  | _, 0, _, _, h => by omega
  | 0, m + 1, d, h, _ => by cases d <;> simp_all [numD, plain]
  | k + 1, m + 1, d, h, hm => by
    cases d with
    | tup l =>
      simp only [numD, List.all_eq_true] at h
      simp only [plain, List.all_eq_true]
      exact fun x hx => numD_plain S k m x (h x hx) (by omega)
    | fl l =>
      simp only [numD, List.all_eq_true] at h
      simp only [plain, List.all_eq_true]
      exact fun x hx => numD_plain S k m x (h x hx) (by omega)
    | int i => rfl
    | _ => simp [numD] at h
theorem all2_dec {f : D → D → Bool} : ∀ {l k : List D}, (∀ a ∈ l, ∀ b ∈ k, f a b = decide (a = b)) → all2 f l k = decide (l = k)
  | [], [], _ => rfl
  | [], _ :: _, _ => rfl
  | _ :: _, [], _ => rfl
  | a :: l, b :: k, h => by
    rw [all2, h a (by simp) b (by simp), all2_dec fun x hx y hy => h x (by simp [hx]) y (by simp [hy])]
    by_cases e1 : a = b <;> by_cases e2 : l = k <;> simp [e1, e2]
theorem eqv_num (S : Sto) : ∀ (k m : Nat) (a b : D), numD k a = true → numD k b = true → k < m → eqv m S a b = decide (a = b)
  | _, 0, _, _, _, _, h => by omega
  | 0, m + 1, a, b, ha, hb, _ => by
    cases a <;> cases b <;> simp_all [numD, eqv]
    rename_i i j
    by_cases e : i = j <;> simp [e]
  | k + 1, m + 1, a, b, ha, hb, hm => by
    have ih : ∀ {l l2 : List D}, l.all (numD k) = true → l2.all (numD k) = true → all2 (eqv m S) l l2 = decide (l = l2) := fun h1 h2 =>
      all2_dec fun x hx y hy => eqv_num S k m x y (List.all_eq_true.mp h1 x hx) (List.all_eq_true.mp h2 y hy) (by omega)
    cases a with
    | int i =>
      cases b with
      | int j => simp only [eqv]; by_cases e : i = j <;> simp [e]
      | tup l => simp [eqv, seqD]
      | fl l => simp [eqv, seqD]
      | _ => simp [numD] at hb
    | tup l =>
      cases b with
      | int j => simp [eqv, seqD]
      | tup l2 => simp only [eqv]; rw [ih ha hb]; by_cases e : l = l2 <;> simp [e]
      | fl l2 => simp [eqv, seqD]
      | _ => simp [numD] at hb
    | fl l =>
      cases b with
      | int j => simp [eqv, seqD]
      | tup l2 => simp [eqv, seqD]
      | fl l2 => simp only [eqv, seqD]; rw [ih ha hb]; by_cases e : l = l2 <;> simp [e]
      | _ => simp [numD] at hb
    | _ => simp [numD] at ha
theorem eqD_num {k : Nat} {a b : D} (S : Sto) (hk : k < 40) (ha : numD k a = true) (hb : numD k b = true) : eqD S a b = some (decide (a = b)) := by
  unfold eqD
  split
  · rename_i i j; by_cases e : i = j <;> simp [e]
  · rename_i i j; by_cases e : i = j <;> simp [e]
  · rename_i i j; by_cases e : i = j <;> simp [e]
  · rw [numD_plain S k 40 a ha hk, numD_plain S k 40 b hb hk, eqv_num S k 40 a b ha hb hk]; rfl
theorem cmp_eq_num {k : Nat} {a b : D} (S : Sto) (hk : k < 40) (ha : numD k a = true) (hb : numD k b = true) : cmpO .eq a b S = some (decide (a = b)) := eqD_num S hk ha hb
theorem cmp_ne_num {k : Nat} {a b : D} (S : Sto) (hk : k < 40) (ha : numD k a = true) (hb : numD k b = true) : cmpO .ne a b S = some (!decide (a = b)) := by
  show notB (eqD S a b) = _
  rw [eqD_num S hk ha hb]; rfl
theorem inD_num {k : Nat} {a : D} {l : List D} (S : Sto) (hk : k < 40) (ha : numD k a = true) (hl : ∀ x ∈ l, numD k x = true) : inD S a l = some (decide (a ∈ l)) := by
  unfold inD
  have h2 : l.all (plain 40 S) = true := List.all_eq_true.mpr fun x hx => numD_plain S k 40 x (hl x hx) hk
  rw [numD_plain S k 40 a ha hk, h2]
  simp only [Bool.and_self, if_true, Option.some.injEq]
  have : (l.any fun b => eqv 40 S b a) = l.any fun b => decide (b = a) := by
    clear h2
    induction l with
    | nil => rfl
    | cons x l ih =>
      simp only [List.any_cons]
      rw [eqv_num S k 40 x a (hl x (by simp)) ha hk, ih fun y hy => hl y (by simp [hy])]
  rw [this, Bool.eq_iff_iff, List.any_eq_true, decide_eq_true_iff]
  exact ⟨fun ⟨x, h1, h2⟩ => (of_decide_eq_true h2) ▸ h1, fun h => ⟨a, h, decide_eq_true rfl⟩⟩
theorem cIn_fl {k : Nat} {a : D} {l : List D} (S : Sto) (hk : k < 40) (ha : numD k a = true) (hl : ∀ x ∈ l, numD k x = true) : cmpO .in_ a (.fl l) S = some (decide (a ∈ l)) := by
  show cIn S a (.fl l) = _
  have : cIn S a (.fl l) = inD S a l := by unfold cIn; split <;> simp_all
  rw [this, inD_num S hk ha hl]
theorem cNin_fl {k : Nat} {a : D} {l : List D} (S : Sto) (hk : k < 40) (ha : numD k a = true) (hl : ∀ x ∈ l, numD k x = true) : cmpO .notin a (.fl l) S = some (!decide (a ∈ l)) := by
  show notB (cIn S a (.fl l)) = _
  have : cIn S a (.fl l) = inD S a l := by unfold cIn; split <;> simp_all
  rw [this, inD_num S hk ha hl]; rfl
theorem numD_nR (k : Nat) (r : Rat) : numD (k + 1) (nR r) = true := by
  cases k <;> simp [numD, nR]
theorem numD_stD (k : Nat) (rs : List Rat) : numD (k + 2) (stD rs) = true := by
  simp only [numD, stD, List.all_map, List.all_eq_true]
  exact fun r _ => numD_nR k r
theorem nR_inj {r s : Rat} (h : nR r = nR s) : r = s := by
  unfold nR at h
  simp only [D.tup.injEq, List.cons.injEq, D.int.injEq, and_true] at h
  apply Rat.ext h.1
  omega
theorem nR_iff {r s : Rat} : nR r = nR s ↔ r = s := ⟨nR_inj, fun h => h ▸ rfl⟩
theorem map_inj {β : Type} {g : β → D} (hg : ∀ x y, g x = g y → x = y) : ∀ {l m : List β}, l.map g = m.map g → l = m
  | [], [], _ => rfl
  | [], _ :: _, h => by cases h
  | _ :: _, [], h => by cases h
  | a :: l, b :: m, h => by
    simp only [List.map_cons, List.cons.injEq] at h
    rw [hg _ _ h.1, map_inj hg h.2]
theorem stD_inj {a b : List Rat} (h : stD a = stD b) : a = b := map_inj (fun _ _ => nR_inj) (D.tup.inj h)
theorem stD_iff {a b : List Rat} : stD a = stD b ↔ a = b := ⟨stD_inj, fun h => h ▸ rfl⟩
theorem dec_iff {p q : Prop} [Decidable p] [Decidable q] (h : p ↔ q) : decide p = decide q := decide_eq_decide.mpr h
theorem mem_stD {a : List Rat} {l : List (List Rat)} : stD a ∈ l.map stD ↔ a ∈ l := by
  rw [List.mem_map]
  exact ⟨fun ⟨b, h1, h2⟩ => (stD_inj h2) ▸ h1, fun h => ⟨a, h, rfl⟩⟩
end K12


namespace K12
open Eg
/-! ### the script and the box of a turn -/
theorem cell_ok (n : Nat) (ns : List Int) (k : Nat) (S : Sto) (h0 : S[0]? = some (.ro (ns.map .int))) (hk : k < 100) (hl : ns.length ≤ 63) : ∃ (x : Int) (T : Sto), rn (n + 1) f__law_cell [.ref 0, .int k] S = .ok (.int x) (S ++ T) := by
  rw [show rn (n + 1) f__law_cell [.ref 0, .int k] S = endB (evSs G.sub (rn n) d__law_cell.body (startE d__law_cell [.ref 0, .int k]) S) from run_ref rfl rfl rfl]
  have lo : lstOf S 0 = some (ns.map .int) := by unfold lstOf; rw [h0]
  by_cases c : (k : Int) < (ns.length : Int)
  · have hk2 : k < ns.length := by omega
    have ix : idxD (.ref 0) (.int k) S = .ok (.int ns[k]) S := by
      have hat : atL (ns.map D.int) (k : Int) = some (.int ns[k]) := by simp [atL, ixN, c, hk2]
      simp [idxD, lo, hat]
    exact ⟨ns[k], [], by simp [d__law_cell, startE, biD, bLen, h0, c, ix]⟩
  · have m1 : ∀ S : Sto, binD .mul (.int 6475) (.int k) S = .ok (.int (6475 * k)) S := fun S => mul_ok S (sm_up (show (6475 : Int).natAbs < 2 ^ 40 by decide) (by omega)) (sm_up (show (k : Int).natAbs < 2 ^ 40 by omega) (by omega))
    have cm : cut (ns.map D.int) none (some 1) = (cut ns none (some 1)).map D.int := by simp [cut]
    have m2 : ∀ (z : Int) (S : Sto), binD .mod (.int z) (.int 1000003) S = .ok (.int (z % 1000003)) S := fun z S => mod_ok S (by decide)
    have lo2 : lstOf (S ++ [O.lst ((cut ns none (some 1)).map D.int)]) S.length = some ((cut ns none (some 1)).map D.int) := by unfold lstOf; simp
    have io : intsOf ((cut ns none (some 1)).map D.int) = some (cut ns none (some 1)) := by simpa using intsOf_map (fun x : Int => x) (cut ns none (some 1))
    exact ⟨6475 * k + (cut ns none (some 1)).sum % 1000003, [.lst ((cut ns none (some 1)).map D.int)], by simp [d__law_cell, startE, biD, bLen, h0, c, m1, slcD, lo, cm, bOf, bOfT, lo2, bil, io, m2, bInt]⟩
theorem box_ok (n : Nat) (x : Int) (S : Sto) : ∃ o, rn (n + 1) f__law_box [.int x] S = .ok (.ref S.length) (S ++ [o]) ∧ Bx (S ++ [o]) S.length 1000000 := by
  rw [show rn (n + 1) f__law_box [.int x] S = _ from run_at (d := d__law_box) rfl, if_pos (show [D.int x].length = d__law_box.ps from rfl), if_pos (show D.freeL [D.int x] = true from rfl), runB_eq]
  have p18 : binD .pow (.int 10) (.int 18) [] = .ok (.int 1000000000000000000) [] := pow_ok (k := 18) [] (by decide) (by decide)
  have m2 : binD .mod (.int x.natAbs) (.int 2147483629) [] = .ok (.int (x.natAbs % 2147483629)) [] := mod_ok [] (by decide)
  refine ⟨bxO x.natAbs (!decide ((x.natAbs : Int) < 1000000000000000000)) (x.natAbs % 2147483629) 0, ?_, ⟨_, _, _, _, by simp; rfl, by omega, Int.emod_nonneg _ (by decide), Int.emod_lt_of_pos _ (by decide), by decide, by decide⟩⟩
  simp [d__law_box, startE, bAbs_eq, p18, m2, line, reloc, D.free, D.shift, O.shift, D.shiftL, bxO]
theorem ln_ok {ns : List Int} : biD .len [.ref 0] [O.ro (ns.map .int)] = .ok (.int ns.length) [O.ro (ns.map .int)] := by simp [biD, bLen]
theorem many_ok (n a b : Nat) (ns : List Int) (ρ : Env) (hab : a ≤ b) (hρ : ρ[0]? = some (some (.ref 0))) : ∃ M : Nat, evE G.sub (rn n) (.bi .max (.cons (.lit (.int a)) (.cons (.bi .min (.cons (.lit (.int b)) (.cons (.bi .len (.cons (.var 0) .nil)) .nil))) .nil))) ρ [.ro (ns.map .int)] = .ok (.int M) [.ro (ns.map .int)] ∧ M ≤ b := by
  by_cases c : ns.length < b
  · have c' : ((ns.length : Nat) : Int) < (b : Int) := by omega
    by_cases c2 : a < ns.length
    · have c2' : (a : Int) < (ns.length : Int) := by omega
      exact ⟨ns.length, by simp [hρ, ln_ok]; simp [biD, bMin, bMax, c', c2'], by omega⟩
    · have c2' : ¬ ((a : Int) < (ns.length : Int)) := by omega
      exact ⟨a, by simp [hρ, ln_ok]; simp [biD, bMin, bMax, c', c2'], by omega⟩
  · have c' : ¬ ((ns.length : Nat) : Int) < (b : Int) := by omega
    by_cases c2 : a < b
    · have c2' : (a : Int) < (b : Int) := by omega
      exact ⟨b, by simp [hρ, ln_ok]; simp [biD, bMin, bMax, c', c2'], by omega⟩
    · have c2' : ¬ ((a : Int) < (b : Int)) := by omega
      exact ⟨a, by simp [hρ, ln_ok]; simp [biD, bMin, bMax, c', c2'], by omega⟩
end K12


namespace K12
open Eg
open Eg.Hd
/-! ### values of a law: plain, or a list of the store -/
def Gd (S : Sto) (d : D) : Prop := (plD 5 d = true ∧ D.smB d = true) ∨ ∃ r, d = .ref r ∧ kind S d = some .list
theorem Gd.wf {S : Sto} {d : D} (h : Gd S d) : Wf S d := h.imp (fun h => plD_free 5 d h.1) id
theorem Gd.nil {S : Sto} {d : D} (h : Gd S d) (hf : D.free d = true) (S' : Sto) : Gd S' d := by
  rcases h with h | ⟨r, rfl, _⟩
  · exact .inl h
  · cases hf
theorem plD_len {k : Nat} {l : List D} (h : plD k (.tup l) = true) : l.length ≤ 1000 := by
  cases k with
  | zero => cases h
  | succ k => simp only [plD, Bool.and_eq_true, decide_eq_true_eq] at h; exact h.1
theorem plD_in {k : Nat} {l : List D} (h : plD (k + 1) (.tup l) = true) : ∀ x ∈ l, plD k x = true := by
  simp only [plD, Bool.and_eq_true, List.all_eq_true] at h; exact h.2
theorem smB_nR {a d : Nat} {r : Rat} (h : Sz a d r) (ha : a ≤ 1000000) (hd : d ≤ 1000000) : D.smB (nR r) = true := by
  have h1 : r.num.natAbs.log2 < 400000000 := Nat.lt_of_lt_of_le (log2_lt_of (h.up ha (Nat.le_refl _)).1 (by omega)) (by omega)
  have h2 : ((r.den : Nat) : Int).natAbs.log2 < 400000000 := Nat.lt_of_lt_of_le (log2_lt_of (k := 1000000) (by rw [Int.natAbs_natCast]; exact (h.up (Nat.le_refl _) hd).2) (by omega)) (by omega)
  rw [Int.natAbs_natCast] at h2
  simp [nR, D.smB, D.smL, h1, h2]
/-- a for over a list of the store that stays as it is -/
theorem for_guard {sub : Nat → Nat → Bool} {c : Cl} {tg : Tg} {b : Ss} {n : Nat} {o : O} (P : List D → Env → Sto → Prop) : ∀ (l : List D) (ρ : Env) (S : Sto), P l ρ S →
    (∀ x l ρ S, P (x :: l) ρ S → ∃ ρ1, bindT S tg x ρ = some ρ1 ∧ ∃ ρ2 S2, evSs sub c b ρ1 S = .nx ρ2 S2 ∧ S2[n]? = some o ∧ P l ρ2 S2) →
    ∃ ρ' S', forB sub c tg b (some (n, o)) l ρ S = .nx ρ' S' ∧ P [] ρ' S'
  | [], ρ, S, h, _ => ⟨ρ, S, rfl, h⟩
  | x :: l, ρ, S, h, step => by
    obtain ⟨ρ1, h1, ρ2, S2, h2, h2', h3⟩ := step x l ρ S h
    obtain ⟨ρ', S', h4, h5⟩ := for_guard P l ρ2 S2 h3 step
    refine ⟨ρ', S', ?_, h5⟩
    rw [forB_cons, h1]
    simp [h2, gOk, h2', h4]
mutual
theorem shift_free (k : Nat) : ∀ d : D, D.free d = true → D.shift k d = d
  | .non, _ => rfl
  | .bl _, _ => rfl
  | .int _, _ => rfl
  | .str _, _ => rfl
  | .tup l, h => by simp only [D.shift]; rw [shiftL_free k l (by simpa using h)]
  | .fl l, h => by simp only [D.shift]; rw [shiftL_free k l (by simpa using h)]
  | .fd l m, h => by
    simp only [free_fd, Bool.and_eq_true] at h
    simp only [D.shift]; rw [shiftL_free k l h.1, shiftL_free k m h.2]
  | .ref n, h => by cases h
theorem shiftL_free (k : Nat) : ∀ l : List D, D.freeL l = true → D.shiftL k l = l
  | [], _ => rfl
  | a :: l, h => by
    simp only [freeL_cons, Bool.and_eq_true] at h
    simp only [D.shiftL]; rw [shift_free k a h.1, shiftL_free k l h.2]
end
theorem shiftL_map (k : Nat) (l : List D) : D.shiftL k l = l.map (D.shift k) := by
  induction l with
  | nil => rfl
  | cons a l ih => simp [D.shiftL, ih]
/-- the same lists at two places -/
theorem same_refs (k n r r' : Nat) (l : List D) (S : Sto) (hr : S[r]? = some (.lst l)) (hr' : S[r']? = some (.lst l)) (hl : l.length ≤ 1000) (h : ∀ x ∈ l, plD k x = true) : rn (n + k + 2) f__law_same [.ref r, .ref r'] S = .ok (.bl true) S := by
  rw [show rn (n + k + 2) f__law_same [.ref r, .ref r'] S = endB (evSs G.sub (rn (n + k + 1)) d__law_same.body (startE d__law_same [.ref r, .ref r']) S) from run_ref rfl rfl rfl]
  have hL : biD .len [.ref r'] S = .ok (.int l.length) S := by simp [biD, bLen, hr']
  have hc : evC G.sub (rn (n + k + 1)) sameC [some (.ref r), some (.ref r'), none, none] S = .ok [] S := by
    rw [evC_mk]
    have e1 : evI G.sub (rn (n + k + 1)) (.rng1 (.bi .len (.cons (.var 1) .nil))) [some (.ref r), some (.ref r'), none, none] S = .ok ((List.range l.length).map fun (k : Nat) => D.int (k : Int), none) S := by
      simp [hL, rng_nat (show l.length < 2 ^ 62 by omega)]
    rw [e1]
    simp only [R.bind_ok]
    rw [if_pos (by simp [line]; omega)]
    refine comp_none rfl fun x hx => ?_
    obtain ⟨j, hj, rfl⟩ := rng_mem hx
    obtain ⟨y, hy⟩ : ∃ y, l[j]? = some y := ⟨_, List.getElem?_eq_getElem hj⟩
    refine ⟨[some (.ref r), some (.ref r'), none, some (.int j)], rfl, ?_⟩
    have t1 := idx_nat (d := .ref r) S (.inr (lstOf_of hr)) hy
    have t2 := idx_nat (d := .ref r') S (.inr (lstOf_of hr')) hy
    have sp := same_pl k (h y (List.mem_of_getElem? hy)) n S
    simp [t1, t2, sp]
  unfold sameC at hc
  simp [d__law_same, startE, cmpO, cIs, isK, eqD, biD, bLen, evE_nilc, hc, kind_lst hr, kind_lst hr', hr, hr']
end K12


namespace K12
open Eg
open Eg.Hd
/-! ### walks -/
def wkD (c : Nat) (ss : List (List Rat)) : D := .tup [.int (c : Int), .tup (ss.map stD)]
@[simp] theorem free_wkD (c : Nat) (ss : List (List Rat)) : D.free (wkD c ss) = true := by simp [wkD, freeL_map]
def isWkD (d : D) : Bool := match d with
  | .tup [.int c, .tup l] => isChD (.int c) && l.all fun x => isRowN x c
  | _ => false
theorem row_comp (n : Nat) (c : Int) (l : List D) {S : Sto} (hz : ∀ x ∈ l, D.free x = true ∧ D.smB x = true ∧ ∀ m, x = .tup m → m.length ≤ 1000) :
    compB G.sub (rn (n + 4)) [1] (.call f_is_row_of (.cons (.var 1) (.cons (.idx (.var 0) (.lit (.int 0))) .nil))) (.nm 1) none [some (.tup [.int c, .tup l]), none] none l [] S = .ok (l.map fun x => .bl (isRowN x c)) S :=
  comp_id (fun x => .bl (isRowN x c)) l fun x hx => ⟨[some (.tup [.int c, .tup l]), some x], rfl, by
    obtain ⟨h1, h2, h3⟩ := hz x hx
    have := is_row_of_any n c (S := S) (Wf.of h1) h2 h3
    simp [idxT0, this]⟩
theorem is_walk_any (n : Nat) {d : D} {S : Sto} (h : Gd S d) : rn (n + 5) f_is_walk [d] S = .ok (.bl (isWkD d)) S := by
  have key : ∀ S, Gd S d → endB (evSs G.sub (rn (n + 4)) d_is_walk.body (startE d_is_walk [d]) S) = .ok (.bl (isWkD d)) S := fun S h => by
    have t := is_tuple_any (n + 3) 2 h.wf
    by_cases two : ∃ a b, d = .tup [a, b]
    · obtain ⟨a, b, rfl⟩ := two
      obtain ⟨hp, hs⟩ : plD 5 (.tup [a, b]) = true ∧ D.smB (.tup [a, b]) = true := by
        rcases h with h | ⟨r, e, _⟩
        · exact h
        · cases e
      have pa := plD_in hp a (by simp)
      have pb := plD_in hp b (by simp)
      have sb := smB_of hs b (by simp)
      have c1 := is_channels_any (n + 1) (S := S) (Wf.of (plD_free _ a pa))
      obtain ⟨kb, k1, k2⟩ := isi_tuple (Wf.of (S := S) (plD_free _ b pb))
      cases hc : isChD a with
      | false =>
        have : isWkD (.tup [a, b]) = false := by
          unfold isWkD; split
          · rename_i x p e
            simp only [D.tup.injEq, List.cons.injEq, and_true] at e
            rw [← e.1, hc]; rfl
          · rfl
        simp [d_is_walk, startE, t, isTupN, idxT0, c1, hc, this]
      | true =>
        cases hb : isTup b with
        | false =>
          have : isWkD (.tup [a, b]) = false := by
            cases b with
            | tup l => cases hb
            | _ => unfold isWkD; split <;> first | rfl | (rename_i e; simp at e)
          simp [d_is_walk, startE, t, isTupN, idxT0, idxT1, c1, hc, k1, k2, hb, this]
        | true =>
          cases b with
          | tup l =>
            cases a with
            | int c =>
              have hlen := plD_len pb
              have rc := row_comp n c l (S := S) fun x hx => ⟨plD_free _ x (plD_in pb x hx), smB_of sb x hx, fun m e => plD_len (e ▸ plD_in pb x hx)⟩
              have hq : l.length ≤ 16777216 := by omega
              simp [d_is_walk, startE, t, isTupN, idxT0, idxT1, c1, hc, isK, evE_bic, evC_mk, isD0, srcD, line, hq, rc, bil_all, isWkD]
            | _ => simp [isChD, isBetD] at hc
          | _ => cases hb
    · have z : isTupN d 2 = false := by
        cases d with
        | tup l =>
          simp only [isTupN, decide_eq_false_iff_not]
          intro hl
          have hl : l.length = 2 := by omega
          match l, hl with
          | [a, b], _ => exact two ⟨a, b, rfl⟩
        | _ => rfl
      have : isWkD d = false := by
        unfold isWkD; split
        · exact absurd ⟨_, _, rfl⟩ two
        · rfl
      simp [d_is_walk, startE, t, z, this]
  exact run_two (d := d_is_walk) rfl rfl rfl (fun _ => key S h) (fun hf => key [] (h.nil (by simpa using hf) []))
/-- good steps -/
structure WOk (c : Nat) (ss : List (List Rat)) : Prop where
  c1 : 1 ≤ c ∧ c ≤ 3
  len : ss.length ≤ 60
  it : ∀ s ∈ ss, s.length = c
  sz : ∀ s ∈ ss, ∀ r ∈ s, Sz 80 20 r
  dv : ∀ s ∈ ss, ∀ r ∈ s, Dv 6 10 67 r
theorem WOk.is {c : Nat} {ss : List (List Rat)} (h : WOk c ss) : isWkD (wkD c ss) = true := by
  have hc : isChD (.int (c : Int)) = true := by
    have := h.c1
    simp [isChD, isBetD]; omega
  simp only [wkD, isWkD, hc, Bool.true_and, List.all_map, List.all_eq_true]
  intro s hs
  simp [isRowN, stD, isRowD_map, isTupN, h.it s hs]
theorem WOk.gd {c : Nat} {ss : List (List Rat)} (h : WOk c ss) (S : Sto) : Gd S (wkD c ss) := by
  have hc := h.c1
  have hl := h.len
  refine .inl ⟨?_, ?_⟩
  · simp only [wkD, plD, List.all_cons, List.all_nil, List.all_map, List.length_cons, List.length_nil, List.length_map, Bool.and_eq_true, decide_eq_true_eq, List.all_eq_true]
    refine ⟨by omega, trivial, ⟨by omega, fun s hs => ?_⟩, trivial⟩
    have := h.it s hs
    simp [stD, nR, plD]; omega
  · have : D.smL (ss.map stD) = true := (smL_iff _).mpr fun x hx => by
      obtain ⟨s, hs, rfl⟩ := List.mem_map.mp hx
      have : D.smL (s.map nR) = true := (smL_iff _).mpr fun y hy => by
        obtain ⟨r, hr, rfl⟩ := List.mem_map.mp hy
        exact smB_nR (h.sz s hs r hr) (by omega) (by omega)
      simpa [stD, D.smB] using this
    have hl2 : (c : Int).natAbs.log2 < 400000000 := Nat.lt_of_le_of_lt (Nat.log2_le_self _) (by omega)
    simp [wkD, D.smB, D.smL, this]
    exact hl2
theorem WOk.run {c : Nat} {ss : List (List Rat)} (h : WOk c ss) (n : Nat) (S : Sto) : rn (n + 5) f_is_walk [wkD c ss] S = .ok (.bl true) S := by
  rw [is_walk_any n (h.gd S), h.is]
theorem check_walk_ok {c : Nat} {ss : List (List Rat)} (h : WOk c ss) (n : Nat) (S : Sto) : rn (n + 6) f_check_walk [wkD c ss] S = .ok .non S :=
  run_ok (d := d_check_walk) rfl rfl (by simp) rfl (S1 := []) (by have := h.run n []; simp [d_check_walk, startE, this])
end K12


namespace K12
open Eg
open Eg.Hd
theorem add_tp (a b : List D) (S : Sto) (h : a.length + b.length ≤ 16777216) : binD .add (.tup a) (.tup b) S = .ok (.tup (a ++ b)) S := by
  show (if a.length + b.length ≤ line then R.ok (D.tup (a ++ b)) S else .no) = _
  exact if_pos (show a.length + b.length ≤ line from h)
theorem mul_fl (l : List D) (c : Nat) (S : Sto) (hl : l.length ≤ 1000) (hc : c ≤ 1000) : binD .mul (.fl l) (.int (c : Int)) S = .ok (.fl (List.replicate c l).flatten) S := by
  show (if i64 (c : Int) && decide (l.length * (c : Int).toNat ≤ line) then R.ok (D.fl (List.replicate (c : Int).toNat l).flatten) S else .no) = _
  have := Nat.mul_le_mul hl hc
  have e1 : i64 (c : Int) = true := by simp only [i64, Bool.and_eq_true, decide_eq_true_eq]; omega
  have e2 : l.length * (c : Int).toNat ≤ line := by rw [Int.toNat_natCast]; unfold line; omega
  rw [e1, decide_eq_true e2]
  simp
/-! ### what the functions do with good walks -/
theorem nR_neg (r : Rat) : nR (-r) = .tup [.int (-r.num), .int (r.den : Int)] := by simp [nR]
theorem law_minus_ok (n : Nat) (r : Rat) (S : Sto) : rn (n + 1) f__law_minus [nR r] S = .ok (nR (-r)) S :=
  run_ok (d := d__law_minus) rfl rfl (by simp) (free_nR _) (S1 := []) (by simp [d__law_minus, startE, line, nR_neg])
theorem law_turned_ok (n : Nat) {s : List Rat} (S : Sto) (hl : s.length ≤ 3) : rn (n + 2) f__law_turned [stD s] S = .ok (stD (s.map fun r => -r)) S := by
  refine run_ok (d := d__law_turned) rfl rfl (by simp) (by simp) (S1 := []) ?_
  have hs : s.length ≤ 16777216 := by omega
  simp [d__law_turned, startE, evE_bic, evC_mk, isD0, srcD, stD, line, hs]
  generalize hG : compB _ _ _ _ _ _ _ _ _ _ _ = q
  have := comp_pure (g := nR) hG (fun r => nR (-r)) fun r hr => ⟨_, rfl, by have := law_minus_ok n r []; simp [wipeE, setE, this]⟩
  subst this
  simp [Function.comp_def]
theorem law_scaled_ok (n : Nat) {a d a' d' : Nat} {s : List Rat} {q : Rat} (S : Sto) (hz : ∀ r ∈ s, Sz a d r) (hq : Sz a' d' q) (ha : a + d' + a' + d ≤ 390000) (hd : d + d' ≤ 8999) (hl : s.length ≤ 3) : rn (n + 3) f__law_scaled [stD s, nR q] S = .ok (stD (s.map fun r => r * q)) S := by
  refine run_ok (d := d__law_scaled) rfl rfl (by simp) (by simp) (S1 := []) ?_
  have hs : s.length ≤ 16777216 := by omega
  simp [d__law_scaled, startE, evE_bic, evC_mk, isD0, srcD, stD, line, hs]
  generalize hG : compB _ _ _ _ _ _ _ _ _ _ _ = x
  have := comp_pure (g := nR) hG (fun r => nR (r * q)) fun r hr => ⟨_, rfl, by have := law_times_ok (hz r hr) hq n [] ha hd (by omega); simp [wipeE, setE, this]⟩
  subst this
  simp [Function.comp_def]
/-- a part of 1 -/
def inv (p : Nat) : Rat := if h : p = 0 then 0 else ⟨1, p, h, by simp⟩
theorem nR_inv {p : Nat} (h : 1 ≤ p) : nR (inv p) = .tup [.int 1, .int (p : Int)] := by
  unfold inv; rw [dif_neg (by omega)]; rfl
theorem sz_inv {p : Nat} (h : 1 ≤ p) (h2 : p < 2 ^ 10) : Sz 1 10 (inv p) := by
  unfold inv; rw [dif_neg (by omega)]; exact ⟨show (1 : Int).natAbs < 2 ^ 1 by decide, h2⟩
/-! ### sums of steps -/
def addS (s t : List Rat) : List Rat := (s.zip t).map fun p => p.1 + p.2
/-! ### places -/
def posn (c : Nat) (l : List (List Rat)) : List Rat := l.foldl addS (zeros c)
theorem posn_take (c : Nat) {l : List (List Rat)} {i : Nat} {s : List Rat} (h : l[i]? = some s) : posn c (l.take (i + 1)) = addS (posn c (l.take i)) s := by
  rw [List.take_succ, h]; simp [posn]
theorem posn_sz {c : Nat} {l : List (List Rat)} (h : ∀ s ∈ l, s.length = c ∧ ∀ r ∈ s, Sz 80 20 r) : ∀ i, i ≤ l.length → (posn c (l.take i)).length = c ∧ ∀ r ∈ posn c (l.take i), Sz (101 + 21 * i) (2 + 20 * i) r
  | 0, _ => ⟨by simp [posn, zeros], fun r hr => (zeros_sz c r (by simpa [posn] using hr)).1.up (by omega) (by omega)⟩
  | i + 1, hi => by
    obtain ⟨l1, z1⟩ := posn_sz h i (by omega)
    have hx := List.getElem?_eq_getElem (show i < l.length by omega)
    obtain ⟨l2, z2⟩ := h _ (List.getElem_mem (show i < l.length by omega))
    rw [posn_take c hx]
    refine ⟨by simp [addS]; omega, fun r hr => ?_⟩
    obtain ⟨p, hp, rfl⟩ := List.mem_map.mp hr
    exact ((z1 _ (List.of_mem_zip hp).1).add (z2 _ (List.of_mem_zip hp).2)).up (by omega) (by omega)
def plL (c : Nat) (ss : List (List Rat)) (i : Nat) : List D := (List.range (i + 1)).map fun j => stD (posn c (ss.take j))
theorem plL_succ (c : Nat) (ss : List (List Rat)) (i : Nat) : plL c ss (i + 1) = plL c ss i ++ [stD (posn c (ss.take (i + 1)))] := by
  simp [plL, List.range_succ]
theorem plL_last (c : Nat) (ss : List (List Rat)) (i : Nat) : atL (plL c ss i) (-1) = some (stD (posn c (ss.take i))) := by
  simp [plL, atL, ixN]
  rw [if_pos (by omega)]
  simp [show (-1 + ((i : Int) + 1)).toNat = i by omega]
theorem plL_len (c : Nat) (ss : List (List Rat)) (i : Nat) : (plL c ss i).length = i + 1 := by simp [plL]
theorem plL_zero (c : Nat) (ss : List (List Rat)) : plL c ss 0 = [stD (zeros c)] := by simp [plL, posn]
theorem WOk.st {c : Nat} {ss : List (List Rat)} (h : WOk c ss) : ∀ s ∈ ss, s.length = c ∧ ∀ r ∈ s, Sz 80 20 r := fun s hs => ⟨h.it s hs, h.sz s hs⟩
theorem wk_1 {c : Nat} {ss : List (List Rat)} {S : Sto} : idxD (wkD c ss) (.int 1) S = .ok (.tup (ss.map stD)) S := idxT1 ..
theorem wk_0 {c : Nat} {ss : List (List Rat)} {S : Sto} : idxD (wkD c ss) (.int 0) S = .ok (.int (c : Int)) S := idxT0 ..
end K12


namespace K12
open Eg
open Eg.Hd
/-! ### values that rows hold -/
theorem subE (a b : Nat) : G.sub a b = (a == b || b == 0) := rfl
abbrev TOLD : List Nat := [116, 111, 108, 100]
abbrev GIV : List Nat := [103, 105, 118, 101, 110]
def Lists (W : Nat → Prop) (S : Sto) : Prop := ∀ r, W r → kind S (.ref r) = some .list
theorem Ty.lists {W : Nat → Prop} {m : Nat} {S : Sto} (h : Ty W m S) : Lists W S := fun r hr => by
  obtain ⟨l, h1, _⟩ := h r hr
  exact kind_lst h1
/-- a value that a row may hold: plain, no list; or one of the lists -/
def Kv (W : Nat → Prop) (v : D) : Prop := (plD 5 v = true ∧ D.smB v = true ∧ ∀ l, v ≠ .fl l) ∨ ∃ r, v = .ref r ∧ W r
def At (W : Nat → Prop) (S : Sto) (v : D) : Prop := Lists W S ∨ D.free v = true
theorem Kv.gd {W : Nat → Prop} {S : Sto} {v : D} (h : Kv W v) (a : At W S v) : Gd S v := by
  rcases h with ⟨h1, h2, _⟩ | ⟨r, rfl, hr⟩
  · exact .inl ⟨h1, h2⟩
  · rcases a with a | a
    · exact .inr ⟨r, rfl, a r hr⟩
    · cases a
theorem Kv.kp {W : Nat → Prop} {v : D} (h : Kv W v) : Kp W v ∧ ∀ l, v ≠ .fl l := by
  rcases h with ⟨h1, _, h2⟩ | ⟨r, rfl, hr⟩
  · exact ⟨.inl h1, h2⟩
  · exact ⟨.inr ⟨r, rfl, hr⟩, fun _ e => nomatch e⟩
theorem idxF0 {x : D} {t : List D} {S : Sto} : idxD (.fl (x :: t)) (.int 0) S = .ok x S := by simp [idxD, atL, ixN]
theorem idxF1 {x y : D} {t : List D} {S : Sto} : idxD (.fl (x :: y :: t)) (.int 1) S = .ok y S := by simp [idxD, atL, ixN]; rw [if_pos (by omega)]; rfl
section
variable {v x : D} {by_ : Bool}
theorem fst_free (hf : D.freeL [v, x] = true) : D.free v = true := by simp only [freeL_cons, Bool.and_eq_true] at hf; exact hf.1
theorem snd_free (hf : D.freeL [v, x] = true) : D.free x = true := by simp only [freeL_cons, Bool.and_eq_true] at hf; exact hf.2.1
theorem free_args {w : List Nat} (hf : D.freeL [.str w, .fl [v, x], .bl by_] = true) : D.freeL [v, x] = true := by simpa using hf
end
end K12


namespace K12
open Eg
open Eg.Hd
/-- plain and small -/
def Ps (k : Nat) (v : D) : Prop := plD k v = true ∧ D.smB v = true
theorem Ps.up {k m : Nat} {v : D} (h : Ps k v) (hm : k ≤ m) : Ps m v := ⟨plD_le h.1 hm, h.2⟩
theorem Ps.tup {k : Nat} {l : List D} (hl : l.length ≤ 1000) (h : ∀ x ∈ l, Ps k x) : Ps (k + 1) (.tup l) := by
  refine ⟨?_, ?_⟩
  · simp only [plD, Bool.and_eq_true, decide_eq_true_eq, List.all_eq_true]; exact ⟨hl, fun x hx => (h x hx).1⟩
  · simp only [D.smB]; exact (smL_iff l).mpr fun x hx => (h x hx).2
theorem Ps.fl {k : Nat} {l : List D} (hl : l.length ≤ 1000) (h : ∀ x ∈ l, Ps k x) : Ps (k + 1) (.fl l) := by
  refine ⟨?_, ?_⟩
  · simp only [plD, Bool.and_eq_true, decide_eq_true_eq, List.all_eq_true]; exact ⟨hl, fun x hx => (h x hx).1⟩
  · simp only [D.smB]; exact (smL_iff l).mpr fun x hx => (h x hx).2
theorem Ps.int {k c : Nat} (hc : c ≤ 3) : Ps k (.int (c : Int)) := by
  refine ⟨by cases k <;> rfl, ?_⟩
  have : (c : Int).natAbs.log2 < 400000000 := Nat.lt_of_le_of_lt (Nat.log2_le_self _) (by omega)
  simpa [D.smB] using this
theorem ps_nR {k a d : Nat} {r : Rat} (h : Sz a d r) (ha : a ≤ 1000) (hd : d ≤ 1000) : Ps (k + 1) (nR r) := by
  refine ⟨?_, smB_nR h (by omega) (by omega)⟩
  cases k <;> simp [nR, plD]
theorem ps_nat {k x : Nat} (hx : x ≤ 9) : Ps k (.int (x : Int)) := by
  refine ⟨by cases k <;> rfl, ?_⟩
  have : (x : Int).natAbs.log2 < 400000000 := Nat.lt_of_le_of_lt (Nat.log2_le_self _) (by omega)
  simpa [D.smB] using this
theorem cut_mem {α : Type} {l : List α} {lo hi : Option Int} {x : α} (h : x ∈ cut l lo hi) : x ∈ l := List.mem_of_mem_drop (List.mem_of_mem_take h)
theorem cut_len {α : Type} (l : List α) (lo hi : Option Int) : (cut l lo hi).length ≤ l.length := by simp [cut]; omega
section
variable {c : Nat} {ss : List (List Rat)} (h : WOk c ss)
include h
theorem WOk.ps : ∀ x ∈ ss.map stD, Ps 2 x := fun x hx => by
  obtain ⟨s, hs, rfl⟩ := List.mem_map.mp hx
  refine Ps.tup (by have := h.it s hs; have := h.c1; simp; omega) fun y hy => ?_
  obtain ⟨r, hr, rfl⟩ := List.mem_map.mp hy
  exact ps_nR (h.sz s hs r hr) (by omega) (by omega)
end
end K12


namespace K12
open Eg
open Eg.Hd
/-! ### drawn steps -/
theorem ne_nil {S : Sto} {r : Nat} {l : List D} {k : Nat} (hr : S[r]? = some (.lst l)) (hl : ∀ x ∈ l, numD k x = true) (hk : k < 39) : cmpO .ne (.ref r) (.fl []) S = some (!decide (l = [])) := by
  have p1 : plain 40 S (.ref r) = true := by
    simp only [plain, lstOf_of hr, List.all_eq_true]
    exact fun x hx => numD_plain S k 39 x (hl x hx) (by omega)
  have p2 : plain 40 S (.fl []) = true := rfl
  show notB (eqD S (.ref r) (.fl [])) = _
  have e : eqD S (.ref r) (.fl []) = some (decide (l = [])) := by
    show (if plain 40 S (.ref r) && plain 40 S (.fl []) then some (eqv 40 S (.ref r) (.fl [])) else none) = _
    rw [p1, p2]
    have : eqv 40 S (.ref r) (.fl []) = decide (l = []) := by
      have : seqD S (.ref r) = some l := lstOf_of hr
      simp only [eqv, this]
      cases l <;> rfl
    rw [this]; rfl
  rw [e]; rfl
theorem stD_num (l : List (List Rat)) : ∀ x ∈ l.map stD, numD 2 x = true := fun x hx => by
  obtain ⟨s, _, rfl⟩ := List.mem_map.mp hx
  exact numD_stD 0 s
theorem atL_lastmap {l : List (List Rat)} (h : l ≠ []) : ∃ s, atL (l.map stD) (-1) = some (stD s) ∧ s ∈ l := by
  obtain ⟨x, h1, h2⟩ : ∃ x, atL (l.map stD) (-1) = some x ∧ x ∈ l.map stD := by
    have hl : 0 < l.length := List.length_pos_iff.mpr h
    have e : ixN (l.map stD).length (-1) = some (l.length - 1) := by
      simp [ixN]; omega
    refine ⟨stD (l[l.length - 1]), ?_, List.mem_map_of_mem (List.getElem_mem _)⟩
    unfold atL
    rw [e]
    simp [List.getElem?_eq_getElem (show l.length - 1 < l.length by omega)]
  obtain ⟨s, hs, rfl⟩ := List.mem_map.mp h2
  exact ⟨s, h1, hs⟩
theorem steps_ok (n b k c m : Nat) (S : Sto) (h : Bx S b (k + 200)) (hc : 1 ≤ c ∧ c ≤ 3) (hm : m ≤ 12) : ∃ (ss : List (List Rat)) (S' : Sto), rn (n + 5) f__law_steps [.ref b, .int (c : Int), .int (m : Int)] S = .ok (.tup (ss.map stD)) S' ∧
    ss.length ≤ m ∧ (∀ s ∈ ss, s.length = c ∧ ∀ r ∈ s, Sn m r) ∧ Grow b S S' ∧ Bx S' b k := by
  rw [show rn (n + 5) f__law_steps [.ref b, .int (c : Int), .int (m : Int)] S = endB (evSs G.sub (rn (n + 4)) d__law_steps.body (startE d__law_steps [.ref b, .int (c : Int), .int (m : Int)]) S) from run_ref rfl rfl rfl]
  have bl := h.lt
  obtain ⟨j, S1, (e1 : rn (n + 4) _ _ _ = _), j0, j1, g1, h1⟩ := take_ok (n + 3) b (k + 199) ((m : Int) + 1) (S ++ [.lst []]) h.app (by omega) (by omega)
  obtain ⟨q, rfl⟩ : ∃ q : Nat, j = (q : Int) := ⟨j.toNat, by omega⟩
  have rg := rng_nat (n := q) (by omega)
  obtain ⟨R, hR⟩ : ∃ R, R = S.length := ⟨_, rfl⟩
  have hRb : R ≠ b := by omega
  have r1 : S1[R]? = some (.lst []) := g1.at_ (by rw [hR]; simp) hRb
  simp only [d__law_steps, startE]
  simp [setE, evS_fr, line, e1, rg, ← hR]
  generalize hF : forB _ _ _ _ _ _ _ _ = qq
  obtain ⟨ρ', S', rfl, ss, y4, y5, y6, y7, rfl, q1, q2, q3, q4, q5⟩ := for_rng hF (fun i ρ S' => ∃ (ss : List (List Rat)) (y4 y5 y6 y7 : Option D), ρ = [some (.ref b), some (.int (c : Int)), some (.int (m : Int)), some (.ref R), y4, y5, y6, y7] ∧ S'[R]? = some (.lst (ss.map stD)) ∧ ss.length = i ∧ (∀ s ∈ ss, s.length = c ∧ ∀ r ∈ s, Sn i r) ∧ Grow b S S' ∧ Bx S' b (k + 199 - 13 * i))
    ⟨[], none, none, none, none, rfl, r1, rfl, by simp, (Grow.app S _).trans g1, by simpa using h1⟩ (by
    rintro i ρ S0 hi ⟨ss, y4, y5, y6, y7, rfl, q1, q2, q3, q4, q5⟩
    refine ⟨_, rfl, ?_⟩
    obtain ⟨w, S2, (e2 : rn (n + 4) _ _ _ = _), w0, w1, g2, h2⟩ := take_ok (n + 3) b (k + 199 - 13 * i - 1) 8 S0 (q5.less (by omega)) (by decide) (by decide)
    obtain ⟨s, S3, (e3 : rn (n + 4) _ _ _ = _), l3, z3, g3, h3⟩ := step_ok (n + 1) b (k + 199 - 13 * i - 9) c S2 (h2.less (by omega)) hc
    have p3 : S3[R]? = some (.lst (ss.map stD)) := (g2.trans g3).at_ q1 hRb
    have nn := ne_nil p3 (stD_num ss) (by omega)
    have lo : ∀ (S : Sto), S[R]? = some (.lst (ss.map stD)) → lstOf S R = some (ss.map stD) := fun S h => lstOf_of h
    have ml : ss.length < 16777216 := by omega
    have done : ∀ (S4 : Sto) (t : List Rat) (i0 : Int) (x5 x7 : Option D), S4[R]? = some (.lst (ss.map stD)) → t.length = c → (∀ r ∈ t, Sn (i + 1) r) → Grow b S0 S4 → Bx S4 b (k + 199 - 13 * i - 12) →
        ∃ ρ2 S5, evSs G.sub (rn (n + 4)) (.cons (.expr (.app (.var 3) (.var 6))) .nil) [some (.ref b), some (.int (c : Int)), some (.int (m : Int)), some (.ref R), some (.int i0), x5, some (stD t), x7] S4 = .nx ρ2 S5 ∧ ∃ (ss : List (List Rat)) (y4 y5 y6 y7 : Option D), ρ2 = [some (.ref b), some (.int (c : Int)), some (.int (m : Int)), some (.ref R), y4, y5, y6, y7] ∧ S5[R]? = some (.lst (ss.map stD)) ∧ ss.length = i + 1 ∧ (∀ s ∈ ss, s.length = c ∧ ∀ r ∈ s, Sn (i + 1) r) ∧ Grow b S S5 ∧ Bx S5 b (k + 199 - 13 * (i + 1)) := fun S4 t i0 x5 x7 p4 lt zt g4 b4 => by
      have hlt := (List.getElem?_eq_some_iff.mp p4).1
      refine ⟨[some (.ref b), some (.int (c : Int)), some (.int (m : Int)), some (.ref R), some (.int i0), x5, some (stD t), x7], S4.set R (.lst ((ss ++ [t]).map stD)), by simp [lo S4 p4, meD, meL, p4, line, ml], ss ++ [t], some (.int i0), x5, some (stD t), x7, rfl, List.getElem?_set_self hlt, by simp [q2], fun u hu => ?_, ?_, ?_⟩
      · rcases List.mem_append.mp hu with hu | hu
        · exact ⟨(q3 u hu).1, fun r hr => ((q3 u hu).2 r hr).up (by omega)⟩
        · rw [List.mem_singleton.mp hu]; exact ⟨lt, zt⟩
      · refine ⟨by have := q4.len; have := g4.len; simp; omega, fun x hx hn => ?_⟩
        rw [List.getElem?_set_ne (by omega)]
        exact (g4.old x (Nat.lt_of_lt_of_le hx q4.len) hn).trans (q4.old x hx hn)
      · obtain ⟨a, g, mm, cc, h1, h2⟩ := b4
        exact ⟨a, g, mm, cc, by rw [List.getElem?_set_ne hRb]; exact h1, by obtain ⟨u1, u2, u3, u4, u5⟩ := h2; exact ⟨u1, u2, u3, u4, by omega⟩⟩
    by_cases c1 : ss ≠ [] ∧ w < 5
    · obtain ⟨hne, hw5⟩ := c1
      have dn : decide (ss.map stD = []) = false := by simpa using hne
      rw [dn] at nn
      have pos : 0 < ss.length := List.length_pos_iff.mpr hne
      have last : ∃ (u : List Rat) (S4 : Sto), u ∈ ss ∧ evE G.sub (rn (n + 4)) (.ite (.cmp .lt (.var 5) (.lit (.int 4))) (.idx (.var 3) (.neg (.lit (.int 1)))) (.idx (.var 3) (.call f__law_take (.cons (.var 0) (.cons (.bi .len (.cons (.var 3) .nil)) .nil))))) [some (.ref b), some (.int (c : Int)), some (.int (m : Int)), some (.ref R), some (.int (i : Int)), some (.int w), some (stD s), y7] S3 = .ok (stD u) S4 ∧ Grow b S3 S4 ∧ Bx S4 b (k + 199 - 13 * i - 10) := by
        by_cases w4 : w < 4
        · obtain ⟨u, a1, a2⟩ := atL_lastmap hne
          have ix : idxD (.ref R) (.int (-1)) S3 = .ok (stD u) S3 := idx_ref p3 a1
          exact ⟨u, S3, a2, by simp [w4, ix], Grow.refl .., h3.less (by omega)⟩
        · obtain ⟨d, S4, (e4 : rn (n + 4) _ _ _ = _), d0, d1, g4, h4⟩ := take_ok (n + 3) b (k + 199 - 13 * i - 10) (ss.length : Int) S3 (h3.less (by omega)) (by omega) (by omega)
          obtain ⟨x, x1, x2⟩ := pick (ss.map stD) d0 (by simpa using d1)
          obtain ⟨u, hu, rfl⟩ := List.mem_map.mp x2
          have ix : idxD (.ref R) (.int d) S4 = .ok (stD u) S4 := idx_ref (g4.at_ p3 hRb) x1
          have bl : biD .len [.ref R] S3 = .ok (.int ss.length) S3 := by simp [biD, bLen, p3]
          exact ⟨u, S4, hu, by simp [w4, bl, e4, ix], g4, h4⟩
      obtain ⟨u, S4, hu, el, g4, h4⟩ := last
      obtain ⟨lu, zu⟩ := q3 u hu
      obtain ⟨r, S5, (e5 : rn (n + 4) _ _ _ = _), z5, g5, h5⟩ := number_ok (n + 2) b (k + 199 - 13 * i - 12) S4 (h4.less (by omega))
      have t1 : ∀ S, rn (n + 4) f__law_turned [stD u] S = .ok (stD (u.map fun r => -r)) S := fun S => law_turned_ok (n + 2) S (by omega)
      have t2 : ∀ S, rn (n + 4) f__law_scaled [stD u, nR r] S = .ok (stD (u.map fun x => x * r)) S := fun S => law_scaled_ok (n + 1) S (fun r hr => (zu r hr).1) z5.1 (by omega) (by omega) (by omega)
      have wv : w = 0 ∨ w = 1 ∨ w = 2 ∨ w = 3 ∨ w = 4 := by omega
      have fin : ∃ t : List Rat, idxL [stD u, stD (u.map fun r => -r), stD (u.map fun x => x * r), stD (zeros c), stD (u.map fun r => -r)] (.int w) S5 = .ok (stD t) S5 ∧ t.length = c ∧ ∀ r ∈ t, Sn (i + 1) r := by
        have neg : ∀ x ∈ u.map (fun r => -r), Sn (i + 1) x := fun x hx => by
          obtain ⟨y, hy, rfl⟩ := List.mem_map.mp hx
          exact (zu y hy).neg.up (by omega)
        rcases wv with rfl | rfl | rfl | rfl | rfl
        · exact ⟨u, rfl, lu, fun r hr => (zu r hr).up (by omega)⟩
        · exact ⟨_, rfl, by simpa using lu, neg⟩
        · refine ⟨_, rfl, by simpa using lu, fun x hx => ?_⟩
          obtain ⟨y, hy, rfl⟩ := List.mem_map.mp hx
          exact ((zu y hy).mul z5).up (by omega)
        · exact ⟨_, rfl, by simp [zeros], fun r hr => (zeros_sz c r hr).up (by omega)⟩
        · exact ⟨_, rfl, by simpa using lu, neg⟩
      obtain ⟨t, ft, lt, zt⟩ := fin
      obtain ⟨ρ2, S6, e6, rest⟩ := done S5 t i (some (.int w)) (some (stD u)) ((g4.trans g5).at_ p3 hRb) lt zt (((g2.trans g3).trans g4).trans g5) h5
      refine ⟨ρ2, S6, ?_, rest⟩
      simp [bindT, setE, e2, e3, nn, hw5]
      simp at el
      simp only [el, Eg.R.st_ok, Eg.Hd.stK_ok]
      have zz := zeros_mul c S5 (by omega)
      simp [setE, t1, e5, t2, zz, ft, line]
      simpa using e6
    · obtain ⟨ρ2, S6, e6, rest⟩ := done S3 s i (some (.int w)) y7 p3 l3 (fun r hr => (z3 r hr).up (by omega)) (g2.trans g3) (h3.less (by omega))
      refine ⟨ρ2, S6, ?_, rest⟩
      have cond : ss = [] ∨ ¬ w < 5 := by
        by_cases z : ss = []
        · exact .inl z
        · exact .inr fun hw => c1 ⟨z, hw⟩
      rcases cond with rfl | hw5
      · simp [bindT, setE, e2, e3, nn]
        simpa using e6
      · cases hd : decide (ss.map stD = []) with
        | true => rw [hd] at nn; simp [bindT, setE, e2, e3, nn]; simpa using e6
        | false => rw [hd] at nn; simp [bindT, setE, e2, e3, nn, hw5]; simpa using e6)
  have bt : biD .tuple [.ref R] S' = .ok (.tup (ss.map stD)) S' := by simp [biD, bOf, bOfT, mutD, lstOf, seqD, bil, q1]
  refine ⟨ss, S', by simp [bt], by omega, fun s hs => ⟨(q3 s hs).1, fun r hr => ((q3 s hs).2 r hr).up (by omega)⟩, q4, q5.less (by omega)⟩
end K12


namespace K12
open Eg
open Eg.Hd
/-! ### words -/
def wordD (w : List (List Nat)) : D := .tup (w.map leD)
@[simp] theorem free_wordD (w : List (List Nat)) : D.free (wordD w) = true := by simp [wordD, freeL_map]
def isWdD (c : Int) (d : D) : Bool := match d with
  | .tup l => l.all (isLetD c)
  | _ => false
theorem is_word_any (n : Nat) (c : Int) {d : D} {S : Sto} (h : Gd S d) : rn (n + 4) f_is_word_in [.int c, d] S = .ok (.bl (isWdD c d)) S := by
  have key : ∀ S, Gd S d → endB (evSs G.sub (rn (n + 3)) d_is_word_in.body (startE d_is_word_in [.int c, d]) S) = .ok (.bl (isWdD c d)) S := fun S h => by
    obtain ⟨k, e, hk⟩ := isi_tuple h.wf
    cases d with
    | tup l =>
      obtain ⟨hp, hs⟩ : plD 5 (.tup l) = true ∧ D.smB (.tup l) = true := by
        rcases h with h | ⟨r, e, _⟩
        · exact h
        · cases e
      have hz := plD_len hp
      have cm := comp_id (sub := G.sub) (c := rn (n + 3)) (own := [2]) (tg := .nm 2) (e := .call f_is_letter (.cons (.var 0) (.cons (.var 2) .nil))) (ρ := [some (.int c), some (.tup l), none]) (S := S) (fun x => .bl (isLetD c x)) l fun x hx => ⟨[some (.int c), some (.tup l), some x], rfl, by
        have px := plD_in hp x hx
        have := is_letter_any n c (S := S) (Wf.of (plD_free _ x px)) (fun m e => plD_len (e ▸ px))
        simp [this]⟩
      have hq : l.length ≤ 16777216 := by omega
      simp [d_is_word_in, startE, isK, evE_bic, evC_mk, isD0, srcD, line, hq, cm, bil_all, isWdD]
    | _ =>
      have : isK G.sub k .tuple = false := hk
      simp [d_is_word_in, startE, e, this, isWdD]
  exact run_two (d := d_is_word_in) rfl rfl rfl (fun _ => key S h) (fun hf => key [] (h.nil (by simpa using hf) []))
/-- good words -/
structure DOk (c : Nat) (w : List (List Nat)) : Prop where
  len : w.length ≤ 8
  it : ∀ l ∈ w, l.length = c
  sm : ∀ l ∈ w, ∀ x ∈ l, x ≤ 3
theorem DOk.is {c : Nat} {w : List (List Nat)} (h : DOk c w) : isWdD c (wordD w) = true := by
  simp only [isWdD, wordD, List.all_map, List.all_eq_true]
  intro l hl
  have := h.it l hl
  simp [isLetD, leD, isCountD, this]
theorem DOk.ps {c : Nat} {w : List (List Nat)} (hc : c ≤ 3) (h : DOk c w) : Ps 2 (wordD w) := by
  refine Ps.tup (by have := h.len; simp; omega) fun x hx => ?_
  obtain ⟨l, hl, rfl⟩ := List.mem_map.mp hx
  refine Ps.tup (by have := h.it l hl; simp; omega) fun y hy => ?_
  obtain ⟨z, hz, rfl⟩ := List.mem_map.mp hy
  exact ps_nat (Nat.le_trans (h.sm l hl z hz) (by decide))
end K12


namespace K12
open Eg
open Eg.Hd
/-! ### drawn letters -/
theorem set_sum {l : List Nat} {i : Nat} (h : i < l.length) : (l.set i (l[i] + 1)).sum = l.sum + 1 := by
  induction l generalizing i with
  | nil => simp at h
  | cons a l ih =>
    cases i with
    | zero => simp; omega
    | succ i => simp at h; simp [ih h]; omega
theorem letter_ok (n b k c : Nat) {room kind : Int} (S : Sto) (h : Bx S b (k + 5)) (hc : 1 ≤ c ∧ c ≤ 3) (hr : 1 ≤ room) (hk : 0 ≤ kind ∧ kind ≤ 3) : ∃ (le : List Nat) (S' : Sto), rn (n + 2) f__law_letter [.ref b, .int (c : Int), .int room, .int kind] S = .ok (leD le) S' ∧
    le.length = c ∧ le.sum ≤ 3 ∧ (le.sum : Int) ≤ room ∧ Grow b S S' ∧ Bx S' b k := by
  rw [show rn (n + 2) f__law_letter [.ref b, .int (c : Int), .int room, .int kind] S = endB (evSs G.sub (rn (n + 1)) d__law_letter.body (startE d__law_letter [.ref b, .int (c : Int), .int room, .int kind]) S) from run_ref rfl rfl rfl]
  have bl := h.lt
  obtain ⟨m0, i0, j1, j2⟩ : ∃ m : Int, idxL [.int 3, .int 3, .int 3, .int 1] (.int kind) S = .ok (.int m) S ∧ 1 ≤ m ∧ m ≤ 3 := by
    have : kind = 0 ∨ kind = 1 ∨ kind = 2 ∨ kind = 3 := by omega
    rcases this with rfl | rfl | rfl | rfl
    · exact ⟨3, rfl, by omega, by omega⟩
    · exact ⟨3, rfl, by omega, by omega⟩
    · exact ⟨3, rfl, by omega, by omega⟩
    · exact ⟨1, rfl, by omega, by omega⟩
  obtain ⟨m, mi, ma, mb⟩ : ∃ m, (∀ S, biD .min [.int room, .int m0] S = .ok (.int m) S) ∧ (1 ≤ m ∧ m ≤ 3) ∧ m ≤ room := by
    by_cases z : m0 < room
    · exact ⟨m0, fun S => by simp [biD, bMin, z], by omega, by omega⟩
    · exact ⟨room, fun S => by simp [biD, bMin, z], by omega, by omega⟩
  obtain ⟨w, S1, e1, w0, w1, g1, h1⟩ : ∃ (w : Int) (S1 : Sto), evE G.sub (rn (n + 1)) (.ite (.cmp .eq (.var 3) (.lit (.int 0))) (.call f__law_take (.cons (.var 0) (.cons (.bin .add (.var 4) (.lit (.int 1))) .nil))) (.bin .add (.lit (.int 1)) (.call f__law_take (.cons (.var 0) (.cons (.var 4) .nil))))) [some (.ref b), some (.int (c : Int)), some (.int room), some (.int kind), some (.int m), none, none, none, none] S = .ok (.int w) S1 ∧ 0 ≤ w ∧ w ≤ m ∧ Grow b S S1 ∧ Bx S1 b (k + 4) := by
    by_cases z : kind = 0
    · obtain ⟨d, S1, e, d0, d1, g, h⟩ := take_ok n b (k + 4) (m + 1) S h (by omega) (by omega)
      exact ⟨d, S1, by simp [z, e], d0, by omega, g, h⟩
    · obtain ⟨d, S1, e, d0, d1, g, h⟩ := take_ok n b (k + 4) m S h (by omega) (by omega)
      exact ⟨1 + d, S1, by simp [z, e], by omega, by omega, g, h⟩
  obtain ⟨v, e2, v0, v1⟩ : ∃ v : Int, evE G.sub (rn (n + 1)) (.ite (.and (.cmp .eq (.var 3) (.lit (.int 2))) (.cmp .eq (.var 5) (.lit (.int 2)))) (.bin .sub (.var 5) (.lit (.int 1))) (.var 5)) [some (.ref b), some (.int (c : Int)), some (.int room), some (.int kind), some (.int m), some (.int w), none, none, none] S1 = .ok (.int v) S1 ∧ 0 ≤ v ∧ v ≤ w := by
    by_cases z : kind = 2
    · by_cases y : w = 2
      · exact ⟨1, by simp [z, y], by omega, by omega⟩
      · exact ⟨w, by simp [z, y], w0, by omega⟩
    · exact ⟨w, by simp [z], w0, by omega⟩
  obtain ⟨q, rfl⟩ : ∃ q : Nat, v = (q : Int) := ⟨v.toNat, by omega⟩
  have rg := rng_nat (n := q) (by omega)
  obtain ⟨R, hR⟩ : ∃ R, R = S1.length + 1 := ⟨_, rfl⟩
  have hRb : R ≠ b := by have := g1.len; omega
  have em : ∀ S : Sto, S.length = S1.length + 1 → S[S1.length]? = some (.lst [.int 0]) → binD .mul (.ref S1.length) (.int (c : Int)) S = .ok (.ref R) (S ++ [.lst (List.replicate c (.int 0))]) := fun S hl h => by
    have i6 : i64 (c : Int) = true := by simp only [i64, Bool.and_eq_true, decide_eq_true_eq]; omega
    have l6 : [D.int 0].length * (c : Int).toNat ≤ line := by simp [line]; omega
    simp only [binD, h, i6]
    rw [decide_eq_true l6]
    simp [hR, hl]
  have r1 : (S1 ++ [O.lst [.int 0]] ++ [O.lst (List.replicate c (.int 0))])[R]? = some (.lst (List.replicate c (.int 0))) := by rw [hR]; simp [List.getElem?_append]
  obtain ⟨S2, hS2⟩ : ∃ S2, S2 = S1 ++ [O.lst [.int 0]] ++ [O.lst (List.replicate c (.int 0))] := ⟨_, rfl⟩
  have em' : binD .mul (.ref S1.length) (.int (c : Int)) (S1 ++ [O.lst [.int 0]]) = .ok (.ref R) S2 := by
    rw [hS2]; exact em _ (by simp) (by simp)
  rw [← hS2] at r1
  have h2 : Bx S2 b (k + 4) := hS2 ▸ h1.app.app
  have g2 : Grow b S S2 := hS2 ▸ (g1.trans (Grow.app _ _)).trans (Grow.app _ _)
  simp at e1 e2
  simp only [d__law_letter, startE]
  simp [i0, mi, setE, line]
  simp [e1, setE]
  simp [e2, setE, line, em', evS_fr, rg]
  generalize hF : forB _ _ _ _ _ _ _ _ = qq
  obtain ⟨ρ', S', rfl, le, y7, y8, rfl, q1, q2, q3, q4, q5⟩ := for_rng hF (fun i ρ S' => ∃ (le : List Nat) (y7 y8 : Option D), ρ = [some (.ref b), some (.int (c : Int)), some (.int room), some (.int kind), some (.int m), some (.int (q : Int)), some (.ref R), y7, y8] ∧ S'[R]? = some (.lst (le.map fun (k : Nat) => .int (k : Int))) ∧ le.length = c ∧ le.sum = i ∧ Grow b S S' ∧ Bx S' b (k + 4 - i))
    ⟨List.replicate c 0, none, none, rfl, by rw [r1]; simp, by simp, by simp, g2, by simpa using h2⟩ (by
    rintro i ρ S3 hi ⟨le, y7, y8, rfl, q1, q2, q3, q4, q5⟩
    obtain ⟨d, S4, e4, d0, d1, g4, h4⟩ := take_ok n b (k + 4 - (i + 1)) (c : Int) S3 (q5.less (by omega)) (by omega) (by omega)
    obtain ⟨j, rfl⟩ : ∃ j : Nat, d = (j : Int) := ⟨d.toNat, by omega⟩
    have hj : j < le.length := by omega
    have p4 := g4.at_ q1 hRb
    have hlt := (List.getElem?_eq_some_iff.mp p4).1
    have ix : idxD (.ref R) (.int (j : Int)) S4 = .ok (.int (le[j] : Int)) S4 := idx_ref p4 (atL_map (fun (k : Nat) => D.int (k : Int)) le (List.getElem?_eq_getElem hj))
    have xn : ixN le.length (j : Int) = some j := by
      unfold ixN
      rw [if_pos (by omega), if_pos (by omega)]
      simp
    have st : (le.map fun (k : Nat) => D.int (k : Int)).set j (.int ((le[j] : Int) + 1)) = (le.set j (le[j] + 1)).map fun (k : Nat) => D.int (k : Int) := by simp [List.map_set]
    refine ⟨_, rfl, [some (.ref b), some (.int (c : Int)), some (.int room), some (.int kind), some (.int m), some (.int (q : Int)), some (.ref R), some (.int (i : Int)), some (.int (j : Int))], S4.set R (.lst ((le.set j (le[j] + 1)).map fun (k : Nat) => .int (k : Int))), ?_, le.set j (le[j] + 1), _, _, rfl, List.getElem?_set_self hlt, by simpa using q2, by rw [set_sum hj, q3], ?_, ?_⟩
    · rw [← st]; simp [bindT, setE, e4, ix, p4, xn]
    · refine ⟨by have := q4.len; have := g4.len; simp; omega, fun x hx hn => ?_⟩
      have := g1.len
      rw [List.getElem?_set_ne (by omega)]
      exact (g4.old x (Nat.lt_of_lt_of_le hx q4.len) hn).trans (q4.old x hx hn)
    · obtain ⟨a, g, mm, cc, u1, u2⟩ := h4
      exact ⟨a, g, mm, cc, by rw [List.getElem?_set_ne hRb]; exact u1, u2⟩)
  have bt : biD .tuple [.ref R] S' = .ok (leD le) S' := by simp [biD, bOf, bOfT, mutD, lstOf, seqD, bil, q1, leD]
  exact ⟨le, S', by simp [bt], q2, by omega, by omega, q4, q5.less (by omega)⟩
end K12


namespace K12
open Eg
open Eg.Hd
theorem word_ok (n b k c size : Nat) {kind : Int} (S : Sto) (h : Bx S b (k + 1 + 6 * size)) (hc : 1 ≤ c ∧ c ≤ 3) (hz : size ≤ 10) (hk : 0 ≤ kind ∧ kind ≤ 3) : ∃ (ws : List (List Nat)) (S' : Sto), rn (n + 3) f__law_word [.ref b, .int (c : Int), .int (size : Int), .int kind] S = .ok (wordD ws) S' ∧
    ws.length ≤ size ∧ (∀ l ∈ ws, l.length = c ∧ l.sum ≤ 3) ∧ Grow b S S' ∧ Bx S' b k := by
  rw [show rn (n + 3) f__law_word [.ref b, .int (c : Int), .int (size : Int), .int kind] S = endB (evSs G.sub (rn (n + 2)) d__law_word.body (startE d__law_word [.ref b, .int (c : Int), .int (size : Int), .int kind]) S) from run_ref rfl rfl rfl]
  obtain ⟨r0, S1, (e1 : rn (n + 2) _ _ _ = _), r00, r01, g1, h1⟩ := take_ok (n + 1) b (k + 6 * size) ((size : Int) + 1) S (h.less (by omega)) (by omega) (by omega)
  have rg := rng_nat (n := size) (by omega)
  simp only [d__law_word, startE]
  simp [e1, setAll, setE, line, evS_fr, rg]
  generalize hF : forB _ _ _ _ _ _ _ _ = qq
  obtain ⟨ρ', S', rfl, ws, room, y6, y7, rfl, q1, q2, q3, q4⟩ := for_rng hF (fun i ρ S' => ∃ (ws : List (List Nat)) (room : Int) (y6 y7 : Option D), ρ = [some (.ref b), some (.int (c : Int)), some (.int (size : Int)), some (.int kind), some (wordD ws), some (.int room), y6, y7] ∧ ws.length ≤ i ∧ (∀ l ∈ ws, l.length = c ∧ l.sum ≤ 3) ∧ Grow b S S' ∧ Bx S' b (k + 6 * (size - i)))
    ⟨[], r0, none, none, rfl, by simp, by simp, g1, by simpa using h1⟩ (by
    rintro i ρ S2 hi ⟨ws, room, y6, y7, rfl, q1, q2, q3, q4⟩
    refine ⟨_, rfl, ?_⟩
    by_cases z : 0 < room
    · obtain ⟨le, S3, (e3 : rn (n + 2) _ _ _ = _), l1, l2, l3, g3, h3⟩ := letter_ok n b (k + 6 * (size - (i + 1)) + 1) c (room := room) (kind := kind) S2 (q4.less (by omega)) hc (by omega) hk
      obtain ⟨d, S4, (e4 : rn (n + 2) _ _ _ = _), d0, d1, g4, h4⟩ := take_ok (n + 1) b (k + 6 * (size - (i + 1))) 5 S3 h3 (by omega) (by omega)
      obtain ⟨sm, es⟩ : ∃ s : Int, biD .sum [leD le] S3 = .ok (.int s) S3 := by
        have io : intsOf (le.map fun (k : Nat) => D.int (k : Int)) = some (le.map fun (k : Nat) => (k : Int)) := intsOf_map (fun k : Nat => (k : Int)) le
        exact ⟨_, by simp [biD, bOfT, leD, bil, io]; rfl⟩
      obtain ⟨mx, ex⟩ : ∃ m : Int, biD .max [.int 1, .int sm] S3 = .ok (.int m) S3 := by
        by_cases y : 1 < sm
        · exact ⟨sm, by simp [biD, bMax, y]⟩
        · exact ⟨1, by simp [biD, bMax, y]⟩
      have ad : binD .add (wordD ws) (.tup [leD le]) S3 = .ok (wordD (ws ++ [le])) S3 := by
        have := add_tp (ws.map leD) [leD le] S3 (by simp; omega)
        simpa [wordD] using this
      have mem : ∀ l ∈ ws ++ [le], l.length = c ∧ l.sum ≤ 3 := fun l hl => by
        rcases List.mem_append.mp hl with hl | hl
        · exact q2 l hl
        · rw [List.mem_singleton.mp hl]; exact ⟨l1, l2⟩
      by_cases y : d = 0
      · refine ⟨[some (.ref b), some (.int (c : Int)), some (.int (size : Int)), some (.int kind), some (wordD (ws ++ [le])), some (.int 0), some (.int (i : Int)), some (leD le)], S4, ?_, ws ++ [le], 0, _, _, rfl, by simp; omega, mem, (q3.trans g3).trans g4, h4⟩
        simp [bindT, setE, z, e3, line, ad, es, ex, setAll, e4, y]
      · refine ⟨[some (.ref b), some (.int (c : Int)), some (.int (size : Int)), some (.int kind), some (wordD (ws ++ [le])), some (.int (room - mx)), some (.int (i : Int)), some (leD le)], S4, ?_, ws ++ [le], room - mx, _, _, rfl, by simp; omega, mem, (q3.trans g3).trans g4, h4⟩
        simp [bindT, setE, z, e3, line, ad, es, ex, setAll, e4, y]
    · exact ⟨_, S2, by simp [bindT, setE, z], ws, room, some (.int (i : Int)), y7, rfl, by omega, q2, q3, q4.less (by omega)⟩)
  exact ⟨ws, S', by simp, q1, q2, q3, q4.less (by omega)⟩
end K12


namespace K12
open Eg
open Eg.Hd
/-! ### nested sums -/
def pw (ss : List (List Rat)) (w : List (List Nat)) (i j : Nat) : Rat := powP ((ss.getD i []).zip (w.getD j []))
def nv (ss : List (List Rat)) (w : List (List Nat)) : Nat → Nat → Rat
  | 0, 0 => 1
  | 0, _ + 1 => 0
  | _ + 1, 0 => 1
  | i + 1, j + 1 => nv ss w i (j + 1) + nv ss w i j * pw ss w i j
theorem nv_0 (ss : List (List Rat)) (w : List (List Nat)) (i : Nat) : nv ss w i 0 = 1 := by cases i <;> rfl
/-- paths: the place behind the last step taken, the product -/
def nxt (ss : List (List Rat)) (w : List (List Nat)) (j : Nat) (l : List (Nat × Rat)) : List (Nat × Rat) :=
  l.flatMap fun q => (List.range (ss.length - q.1)).map fun k => (q.1 + k + 1, q.2 * pw ss w (q.1 + k) j)
def pths (ss : List (List Rat)) (w : List (List Nat)) : Nat → List (Nat × Rat)
  | 0 => [(0, 1)]
  | j + 1 => nxt ss w j (pths ss w j)
def upTo (i : Nat) (l : List (Nat × Rat)) : Rat := ((l.filter fun q => decide (q.1 ≤ i)).map (·.2)).sum
theorem upTo_nil (i : Nat) : upTo i [] = 0 := rfl
theorem upTo_cons (i : Nat) (q : Nat × Rat) (l : List (Nat × Rat)) : upTo i (q :: l) = (if q.1 ≤ i then q.2 else 0) + upTo i l := by
  unfold upTo
  by_cases c : q.1 ≤ i
  · simp [c]
  · simp [c, Rat.zero_add]
theorem upTo_app (i : Nat) (l m : List (Nat × Rat)) : upTo i (l ++ m) = upTo i l + upTo i m := by
  induction l with
  | nil => simp [upTo_nil, Rat.zero_add]
  | cons q l ih => rw [List.cons_append, upTo_cons, upTo_cons, ih, Rat.add_assoc]
def runs (ss : List (List Rat)) (w : List (List Nat)) (j : Nat) (q : Nat × Rat) (m : Nat) : List (Nat × Rat) := (List.range m).map fun k => (q.1 + k + 1, q.2 * pw ss w (q.1 + k) j)
theorem runs_succ (ss : List (List Rat)) (w : List (List Nat)) (j : Nat) (q : Nat × Rat) (m : Nat) : runs ss w j q (m + 1) = runs ss w j q m ++ [(q.1 + m + 1, q.2 * pw ss w (q.1 + m) j)] := by
  simp [runs, List.range_succ]
theorem upTo_one (i : Nat) (q : Nat × Rat) : upTo i [q] = if q.1 ≤ i then q.2 else 0 := by
  rw [upTo_cons, upTo_nil, Rat.add_zero]
theorem runs_up (ss : List (List Rat)) (w : List (List Nat)) (i j : Nat) (q : Nat × Rat) : ∀ m, upTo (i + 1) (runs ss w j q m) = upTo i (runs ss w j q m) + (if q.1 ≤ i ∧ i < q.1 + m then q.2 * pw ss w i j else 0)
  | 0 => by
    have : ¬ (q.1 ≤ i ∧ i < q.1 + 0) := by omega
    rw [if_neg this, Rat.add_zero]; rfl
  | m + 1 => by
    rw [runs_succ, upTo_app, upTo_app, runs_up ss w i j q m, upTo_one, upTo_one]
    by_cases c1 : q.1 + m < i
    · have a1 : q.1 + m + 1 ≤ i + 1 := by omega
      have a2 : q.1 + m + 1 ≤ i := by omega
      have a3 : ¬ (q.1 ≤ i ∧ i < q.1 + m) := by omega
      have a4 : ¬ (q.1 ≤ i ∧ i < q.1 + (m + 1)) := by omega
      rw [if_pos a1, if_pos a2, if_neg a3, if_neg a4, Rat.add_zero, Rat.add_zero]
    · by_cases c2 : q.1 + m = i
      · have a1 : q.1 + m + 1 ≤ i + 1 := by omega
        have a2 : ¬ q.1 + m + 1 ≤ i := by omega
        have a3 : ¬ (q.1 ≤ i ∧ i < q.1 + m) := by omega
        have a4 : q.1 ≤ i ∧ i < q.1 + (m + 1) := by omega
        rw [if_pos a1, if_neg a2, if_neg a3, if_pos a4, Rat.add_zero]; show _ + q.2 * pw ss w (q.1 + m) j = _; rw [c2]
      · have a1 : ¬ q.1 + m + 1 ≤ i + 1 := by omega
        have a2 : ¬ q.1 + m + 1 ≤ i := by omega
        rw [if_neg a1, if_neg a2, Rat.add_zero, Rat.add_zero]
        congr 1
        by_cases c3 : q.1 ≤ i
        · rw [if_pos ⟨c3, by omega⟩, if_pos ⟨c3, by omega⟩]
        · rw [if_neg (by omega), if_neg (by omega)]
theorem nxt_cons (ss : List (List Rat)) (w : List (List Nat)) (j : Nat) (q : Nat × Rat) (l : List (Nat × Rat)) : nxt ss w j (q :: l) = runs ss w j q (ss.length - q.1) ++ nxt ss w j l := by simp [nxt, runs]
theorem nxt_up (ss : List (List Rat)) (w : List (List Nat)) {i j : Nat} (hi : i < ss.length) : ∀ l : List (Nat × Rat), (∀ q ∈ l, q.1 ≤ ss.length) → upTo (i + 1) (nxt ss w j l) = upTo i (nxt ss w j l) + upTo i l * pw ss w i j
  | [], _ => by simp [nxt, upTo_nil, Rat.zero_mul, Rat.add_zero]
  | q :: l, h => by
    have hq := h q (by simp)
    rw [nxt_cons, upTo_app, upTo_app, runs_up, nxt_up ss w hi l (fun x hx => h x (by simp [hx])), upTo_cons, Rat.add_mul]
    have : (if q.1 ≤ i ∧ i < q.1 + (ss.length - q.1) then q.2 * pw ss w i j else 0) = (if q.1 ≤ i then q.2 else 0) * pw ss w i j := by
      by_cases c : q.1 ≤ i
      · rw [if_pos ⟨c, by omega⟩, if_pos c]
      · rw [if_neg (fun z => c z.1), if_neg c, Rat.zero_mul]
    rw [this]
    generalize upTo i (runs ss w j q (ss.length - q.1)) = A
    generalize (if q.1 ≤ i then q.2 else 0) * pw ss w i j = B
    generalize upTo i (nxt ss w j l) = C
    rw [Rat.add_assoc, Rat.add_assoc]
    congr 1
    rw [← Rat.add_assoc, Rat.add_comm B C, Rat.add_assoc]
theorem nxt_zero (ss : List (List Rat)) (w : List (List Nat)) (j : Nat) : ∀ l : List (Nat × Rat), upTo 0 (nxt ss w j l) = 0
  | [] => rfl
  | q :: l => by
    have e : ∀ m, upTo 0 (runs ss w j q m) = 0 := fun m => by
      induction m with
      | zero => rfl
      | succ m ih => rw [runs_succ, upTo_app, ih, upTo_one, if_neg (by omega), Rat.add_zero]
    rw [nxt_cons, upTo_app, e, nxt_zero ss w j l, Rat.add_zero]
theorem nxt_le (ss : List (List Rat)) (w : List (List Nat)) (j : Nat) (l : List (Nat × Rat)) (h : ∀ q ∈ l, q.1 ≤ ss.length) : ∀ q ∈ nxt ss w j l, q.1 ≤ ss.length := fun q hq => by
  obtain ⟨r, hr, hq⟩ := List.mem_flatMap.mp hq
  obtain ⟨k, hk, rfl⟩ := List.mem_map.mp hq
  have := h r hr
  have hk : k < ss.length - r.1 := by simpa using hk
  show r.1 + k + 1 ≤ _
  omega
theorem pths_le (ss : List (List Rat)) (w : List (List Nat)) : ∀ j, ∀ q ∈ pths ss w j, q.1 ≤ ss.length
  | 0 => by simp [pths]
  | j + 1 => nxt_le ss w j _ (pths_le ss w j)
theorem pths_nv (ss : List (List Rat)) (w : List (List Nat)) : ∀ j i, i ≤ ss.length → upTo i (pths ss w j) = nv ss w i j
  | 0, i, _ => by rw [nv_0, pths, upTo_one, if_pos (by omega)]
  | j + 1, 0, _ => by rw [pths, nxt_zero]; rfl
  | j + 1, i + 1, h => by
    rw [pths, nxt_up ss w (by omega) _ (pths_le ss w j), pths_nv ss w j i (by omega), nv]
    have := pths_nv ss w (j + 1) i (by omega)
    rw [pths] at this
    rw [this]
end K12


namespace K12
open Eg
open Eg.Hd
/-! ### the bits of nested sums -/
theorem powP_dv {l : List (Rat × Nat)} (h : ∀ p ∈ l, Dv 6 10 67 p.1 ∧ p.2 ≤ 3) : ∀ i, i ≤ l.length → Dv 6 (54 * i) (603 * i) (powP (l.take i)) := by
  intro i
  induction i with
  | zero => intro _; simp [powP]; exact Dv.one
  | succ i ih =>
    intro hi
    have hx := List.getElem?_eq_getElem (show i < l.length by omega)
    rw [powP_take hx]
    obtain ⟨h1, h2⟩ := h _ (List.getElem_mem (show i < l.length by omega))
    have p := (h1.pow (by decide) (l[i]).2).up (by decide) (w' := 54) (A' := 603) (by omega) (by omega)
    exact ((ih (by omega)).mul (by decide) p).up (by decide) (by omega) (by omega)
section
variable {c : Nat} {ss : List (List Rat)} {w : List (List Nat)} (h : WOk c ss) (hw : DOk c w)
include h hw
theorem pw_dv {i j : Nat} (hi : i < ss.length) (hj : j < w.length) : Dv 6 162 1809 (pw ss w i j) := by
  unfold pw
  have e1 : ss.getD i [] = ss[i] := by simp [List.getD, hi]
  have e2 : w.getD j [] = w[j] := by simp [List.getD, hj]
  rw [e1, e2]
  have hs := List.getElem_mem hi
  have hl := List.getElem_mem hj
  have ls := h.it _ hs
  have hc := h.c1
  have z := powP_dv (l := ss[i].zip w[j]) (fun p hp => ⟨h.dv _ hs _ (List.of_mem_zip hp).1, hw.sm _ hl _ (List.of_mem_zip hp).2⟩) _ (Nat.le_refl _)
  rw [List.take_length] at z
  have : (ss[i].zip w[j]).length ≤ 3 := by simp; omega
  exact z.up (by decide) (by omega) (by omega)
theorem nv_dv : ∀ i j, i ≤ ss.length → j ≤ w.length → Dv 6 (162 * j) (1809 * j + i) (nv ss w i j)
  | 0, 0, _, _ => Dv.one
  | 0, _ + 1, _, _ => Dv.zero
  | _ + 1, 0, _, _ => by rw [nv_0]; exact Dv.one
  | i + 1, j + 1, hi, hj => by
    rw [nv]
    have a := nv_dv i (j + 1) (by omega) hj
    have b := (nv_dv i j (by omega) (by omega)).mul (by decide) (pw_dv h hw (i := i) (j := j) (by omega) (by omega))
    exact (a.add (by decide) (b.up (by decide) (by omega) (by omega))).up (by decide) (by omega) (by omega)
end
theorem big_sz {w A : Nat} {r : Rat} (h : Dv 6 w A r) (hw : w ≤ 1300) (hA : A ≤ 16000) : Sz 20000 3910 r := (h.sz (by decide) (qb := 3) (by decide)).up (by omega) (by omega)
section
variable {c : Nat} {ss : List (List Rat)} {w : List (List Nat)} (h : WOk c ss) (hw : DOk c w)
include h hw
theorem nv_sz {i j : Nat} (hi : i ≤ ss.length) (hj : j ≤ w.length) : Sz 20000 3910 (nv ss w i j) := by
  have := h.len; have := hw.len
  exact big_sz (nv_dv h hw i j hi hj) (by omega) (by omega)
theorem pw_sz {i j : Nat} (hi : i < ss.length) (hj : j < w.length) : Sz 20000 3910 (pw ss w i j) := big_sz (pw_dv h hw hi hj) (by omega) (by omega)
theorem nvpw_sz {i j : Nat} (hi : i < ss.length) (hj : j < w.length) : Sz 20000 3910 (nv ss w i j * pw ss w i j) := by
  have := h.len; have := hw.len
  exact big_sz ((nv_dv h hw i j (by omega) (by omega)).mul (by decide) (pw_dv h hw hi hj)) (by omega) (by omega)
end
/-! ### lists of them -/
theorem atL_last {l : List D} {k : Nat} {x : D} (hl : l.length = k + 1) (hx : l[k]? = some x) : atL l (-1) = some x := by
  have e : ixN l.length (-1) = some k := by
    simp [ixN, hl]
    omega
  unfold atL
  rw [e]
  simpa using hx
def rowN (ss : List (List Rat)) (w : List (List Nat)) (i : Nat) : List D := nR 1 :: (List.range w.length).map fun j => nR (nv ss w i (j + 1))
def alN (ss : List (List Rat)) (w : List (List Nat)) (i : Nat) : List D := (List.range (i + 1)).map fun k => nR (nv ss w k w.length)
theorem rowN_len (ss : List (List Rat)) (w : List (List Nat)) (i : Nat) : (rowN ss w i).length = w.length + 1 := by simp [rowN]
theorem rowN_get (ss : List (List Rat)) (w : List (List Nat)) {i j : Nat} (hj : j ≤ w.length) : (rowN ss w i)[j]? = some (nR (nv ss w i j)) := by
  cases j with
  | zero => rw [nv_0]; rfl
  | succ j => simp [rowN, show j < w.length by omega]
theorem rowN_last (ss : List (List Rat)) (w : List (List Nat)) (i : Nat) : atL (rowN ss w i) (-1) = some (nR (nv ss w i w.length)) := atL_last (rowN_len ..) (rowN_get ss w (Nat.le_refl _))
theorem rowN_zero (ss : List (List Rat)) (w : List (List Nat)) : rowN ss w 0 = nR 1 :: List.replicate w.length (nR 0) := by
  unfold rowN
  congr 1
  exact List.eq_replicate_iff.mpr ⟨by simp, fun x hx => by
    obtain ⟨j, _, rfl⟩ := List.mem_map.mp hx
    rfl⟩
theorem alN_succ (ss : List (List Rat)) (w : List (List Nat)) (i : Nat) : alN ss w (i + 1) = alN ss w i ++ [nR (nv ss w (i + 1) w.length)] := by simp [alN, List.range_succ]
theorem alN_len (ss : List (List Rat)) (w : List (List Nat)) (i : Nat) : (alN ss w i).length = i + 1 := by simp [alN]
theorem alN_last (ss : List (List Rat)) (w : List (List Nat)) (i : Nat) : atL (alN ss w i) (-1) = some (nR (nv ss w i w.length)) := atL_last (alN_len ..) (by simp [alN])
theorem wl (w : List (List Nat)) (S : Sto) : biD .len [wordD w] S = .ok (.int w.length) S := by simp [biD, bLen, wordD]
theorem word_at {w : List (List Nat)} {j : Nat} (hj : j < w.length) (S : Sto) : idxD (wordD w) (.int (j : Int)) S = .ok (leD w[j]) S := by
  simp [wordD, idxD, atL_map leD w (List.getElem?_eq_getElem hj)]
theorem idx_fl {l : List D} {j : Nat} {x : D} (h : l[j]? = some x) (S : Sto) : idxD (.fl l) (.int (j : Int)) S = .ok x S := by
  simp [idxD, atL_nat l h]
theorem add_fl (a b : List D) (S : Sto) (h : a.length + b.length ≤ 16777216) : binD .add (.fl a) (.fl b) S = .ok (.fl (a ++ b)) S := by
  show (if a.length + b.length ≤ line then R.ok (D.fl (a ++ b)) S else .no) = _
  exact if_pos (show a.length + b.length ≤ line from h)
/-- the pass of the program -/
theorem sums_run (n : Nat) {c : Nat} {ss : List (List Rat)} {w : List (List Nat)} (h : WOk c ss) (hw : DOk c w) : endB (evSs G.sub (rn (n + 4)) d_sums_along.body (startE d_sums_along [.tup (ss.map stD), wordD w]) []) = .ok (.ref 0) [.lst (alN ss w ss.length)] := by
  have hc := h.c1
  have hl := h.len
  have wl8 := hw.len
  have mf := mul_fl [nR 0] w.length [] (by simp) (by omega)
  rw [rep_one] at mf
  have af := add_fl [nR 1] (List.replicate w.length (nR 0)) [] (by simp; omega)
  have r0 : nR 1 :: List.replicate w.length (nR 0) = rowN ss w 0 := (rowN_zero ss w).symm
  have fl := fun S => show idxD (.fl (rowN ss w 0)) (.int (-1)) S = .ok (nR (nv ss w 0 w.length)) S by simp [idxD, rowN_last]
  have rg := rng_nat (n := w.length) (by omega)
  have hq : w.length ≤ 16777216 := by omega
  simp only [d_sums_along, startE]
  simp [← nR_one, ← nR_zero, wl, mf, af, r0, fl, setE, evS_fr, srcD, line]
  generalize hF : forB _ _ _ _ _ _ _ _ = q
  obtain ⟨ρ', S', rfl, y, z, u, rfl, rfl⟩ := for_idx hF (fun i ρ S => ∃ y z u, ρ = [some (.tup (ss.map stD)), some (wordD w), some (.fl (rowN ss w i)), some (.ref 0), y, z, u] ∧ S = [.lst (alN ss w i)]) ⟨none, none, none, rfl, by simp [alN]⟩ (by
    rintro i s ρ S hx ⟨y, z, u, rfl, rfl⟩
    have hi := (List.getElem?_eq_some_iff.mp hx).1
    have hs := List.mem_of_getElem? hx
    have gs : ss.getD i [] = s := by simp [List.getD, hx]
    have last := fun S => show idxD (.fl (rowN ss w (i + 1))) (.int (-1)) S = .ok (nR (nv ss w (i + 1) w.length)) S by simp [idxD, rowN_last]
    refine ⟨_, rfl, [some (.tup (ss.map stD)), some (wordD w), some (.fl (rowN ss w (i + 1))), some (.ref 0), some (stD s), some (.fl ((List.range w.length).map fun j => nR (nv ss w i j * pw ss w i j))), u], [.lst (alN ss w (i + 1))], ?_, _, _, _, rfl, rfl⟩
    simp [bindT, setE, evE_compF, evC_mk, wl, rg, line, hq]
    generalize hG : compB _ _ _ _ _ _ _ _ _ _ _ = x
    have := comp_pure hG (fun (j : Nat) => nR (nv ss w i j * pw ss w i j)) fun j hj => by
      have hj : j < w.length := by simpa using hj
      have i1 := idx_fl (rowN_get ss w (i := i) (j := j) (by omega)) [.lst (alN ss w i)]
      have i2 := word_at hj [.lst (alN ss w i)]
      have sp := step_power_ok n (S := [.lst (alN ss w i)]) (h.sz s hs) (hw.sm _ (List.getElem_mem hj)) (by omega) (by have := h.it s hs; omega) (by omega) (by omega)
      have e : powP (s.zip w[j]) = pw ss w i j := by unfold pw; rw [gs]; simp [List.getD, hj]
      rw [e] at sp
      have pr := product_of_ok (nv_sz h hw (i := i) (j := j) (by omega) (by omega)) (pw_sz h hw hi hj) (n + 1) [.lst (alN ss w i)] (by omega) (by omega) (by omega)
      exact ⟨_, rfl, by simp [wipeE, setE, i1, i2, sp, pr]⟩
    subst this
    simp [bindT, setE, evE_compF, evC_mk, wl, rg, line, hq]
    generalize hG : compB _ _ _ _ _ _ _ _ _ _ _ = x
    have := comp_pure hG (fun (j : Nat) => nR (nv ss w (i + 1) (j + 1))) fun j hj => by
      have hj : j < w.length := by simpa using hj
      have i1 := idx_fl (rowN_get ss w (i := i) (j := j + 1) (by omega)) [.lst (alN ss w i)]
      have i2 := idx_fl (l := (List.range w.length).map fun j => nR (nv ss w i j * pw ss w i j)) (j := j) (x := nR (nv ss w i j * pw ss w i j)) (by simp [hj]) [.lst (alN ss w i)]
      have sm := sum_of_ok (nv_sz h hw (i := i) (j := j + 1) (by omega) (by omega)) (nvpw_sz h hw hi hj) (n + 1) [.lst (alN ss w i)] (by omega) (by omega)
      simp only [Int.natCast_add, Int.natCast_one] at i1
      exact ⟨_, rfl, by simp [wipeE, setE, i2, i1, sm, nv]⟩
    subst this
    have af := add_fl [nR 1] ((List.range w.length).map fun j => nR (nv ss w (i + 1) (j + 1))) [.lst (alN ss w i)] (by simp; omega)
    have r1 : nR 1 :: (List.range w.length).map (fun j => nR (nv ss w (i + 1) (j + 1))) = rowN ss w (i + 1) := rfl
    have ll : (alN ss w i).length < 16777216 := by rw [alN_len]; omega
    rw [alN_succ]
    simp [← nR_one, af, r1, setE, lstOf, last, meD, meL, line, ll])
  simp
end K12


namespace K12
open Eg
open Eg.Hd
/-! ### the power of a step at a letter, the law's way -/
def tP (l : List (Rat × Nat)) : Int := l.foldl (fun f p => f * p.1.num ^ p.2) 1
def bP (l : List (Rat × Nat)) : Int := l.foldl (fun f p => f * ((p.1.den : Nat) : Int) ^ p.2) 1
theorem tP_take {l : List (Rat × Nat)} {i : Nat} {p : Rat × Nat} (h : l[i]? = some p) : tP (l.take (i + 1)) = tP (l.take i) * p.1.num ^ p.2 := by
  rw [List.take_succ, h]; simp [tP]
theorem bP_take {l : List (Rat × Nat)} {i : Nat} {p : Rat × Nat} (h : l[i]? = some p) : bP (l.take (i + 1)) = bP (l.take i) * ((p.1.den : Nat) : Int) ^ p.2 := by
  rw [List.take_succ, h]; simp [bP]
theorem bP_ne (l : List (Rat × Nat)) : ∀ i, i ≤ l.length → bP (l.take i) ≠ 0
  | 0, _ => by simp [bP]
  | i + 1, hi => by
    rw [bP_take (List.getElem?_eq_getElem (show i < l.length by omega))]
    exact Int.mul_ne_zero (bP_ne l i (by omega)) (Int.pow_ne_zero (den_ne _))
theorem tb_pow (l : List (Rat × Nat)) : ∀ i, i ≤ l.length → Rat.divInt (tP (l.take i)) (bP (l.take i)) = powP (l.take i)
  | 0, _ => by simp [tP, bP, powP]; rfl
  | i + 1, hi => by
    have hx := List.getElem?_eq_getElem (show i < l.length by omega)
    rw [bP_take hx, tP_take hx, powP_take hx, ← Rat.divInt_mul_divInt, tb_pow l i (by omega)]
    congr 1
    rw [rat_eq (l[i].1 ^ l[i].2), Rat.num_pow, Rat.den_pow]
    simp
theorem tb_sz {l : List (Rat × Nat)} (h : ∀ p ∈ l, Sz 80 20 p.1 ∧ p.2 ≤ 9) : ∀ i, i ≤ l.length → (tP (l.take i)).natAbs < 2 ^ (1 + 721 * i) ∧ (bP (l.take i)).natAbs < 2 ^ (1 + 181 * i)
  | 0, _ => by simp [tP, bP]
  | i + 1, hi => by
    have hx := List.getElem?_eq_getElem (show i < l.length by omega)
    obtain ⟨h1, h2⟩ := h _ (List.getElem_mem (show i < l.length by omega))
    obtain ⟨i1, i2⟩ := tb_sz h i (by omega)
    rw [bP_take hx, tP_take hx]
    exact ⟨Nat.lt_of_lt_of_le (mul_b i1 (pow_b h1.1 (l[i]).2)) (Nat.pow_le_pow_right (by omega) (by omega)), Nat.lt_of_lt_of_le (mul_b i2 (pow_b h1.den (l[i]).2)) (Nat.pow_le_pow_right (by omega) (by omega))⟩
theorem ll_ (l : List Nat) (S : Sto) : biD .len [leD l] S = .ok (.int l.length) S := by simp [biD, bLen, leD]
theorem law_at_ok (n : Nat) {s : List Rat} {le : List Nat} (S : Sto) (h : ∀ r ∈ s, Sz 80 20 r) (h2 : ∀ x ∈ le, x ≤ 9) (hl : s.length ≤ 3) (he : le.length = s.length) :
    rn (n + 2) f__law_at [stD s, leD le] S = .ok (nR (powP (s.zip le))) S := by
  refine run_okS (d := d__law_at) rfl rfl (by simp) (free_nR _) ?_
  have hz : ∀ p ∈ s.zip le, Sz 80 20 p.1 ∧ p.2 ≤ 9 := fun p hp => ⟨h _ (List.of_mem_zip hp).1, h2 _ (List.of_mem_zip hp).2⟩
  have zl : (s.zip le).length = le.length := by simp; omega
  have rg := rng_nat (n := le.length) (by omega)
  simp only [d__law_at, startE]
  simp [line, bindT, bindTs, setE, evS_fr, ll_, rg]
  generalize hF : forB _ _ _ _ _ _ _ _ = q
  obtain ⟨ρ', S', rfl, y, z, rfl, rfl⟩ := for_rng hF (fun i ρ S => ∃ y z, ρ = [some (stD s), some (leD le), some (.int (tP ((s.zip le).take i))), some (.int (bP ((s.zip le).take i))), y, z] ∧ S = []) ⟨none, none, by simp [tP, bP], rfl⟩ (by
    rintro i ρ S hi ⟨y, z, rfl, rfl⟩
    have his : i < s.length := by omega
    have hx : (s.zip le)[i]? = some (s[i], le[i]) := List.getElem?_zip_eq_some.mpr ⟨List.getElem?_eq_getElem his, List.getElem?_eq_getElem hi⟩
    obtain ⟨s1, s2⟩ := hz _ (List.mem_of_getElem? hx)
    obtain ⟨b1, b2⟩ := tb_sz hz i (by omega)
    have i1 : ∀ S, idxD (leD le) (.int (i : Int)) S = .ok (.int ((le[i] : Nat) : Int)) S := fun S => by
      simp [leD, idxD, atL_map (fun (k : Nat) => D.int (k : Int)) le (List.getElem?_eq_getElem hi)]
    have i2 : ∀ S, idxD (stD s) (.int (i : Int)) S = .ok (nR s[i]) S := fun S => by
      simp [stD, idxD, atL_map nR s (List.getElem?_eq_getElem his)]
    simp only at s1 s2
    have rg2 := rng_nat (n := le[i]) (by omega)
    refine ⟨_, rfl, ?_⟩
    generalize hE : evSs _ _ _ _ _ = r
    simp [bindT, setE, evS_fr, i1, rg2] at hE
    generalize hG : forB _ _ _ _ _ _ _ _ = q at hE
    obtain ⟨ρ', S', rfl, z, rfl, rfl⟩ := for_rng hG (fun t ρ S => ∃ z, ρ = [some (stD s), some (leD le), some (.int (tP ((s.zip le).take i) * s[i].num ^ t)), some (.int (bP ((s.zip le).take i) * ((s[i].den : Nat) : Int) ^ t)), some (.int (i : Int)), z] ∧ S = []) ⟨z, by simp, rfl⟩ (by
      rintro t ρ S ht ⟨z, rfl, rfl⟩
      have m1 : binD .mul (.int (tP ((s.zip le).take i) * s[i].num ^ t)) (.int s[i].num) [] = .ok (.int (tP ((s.zip le).take i) * s[i].num ^ (t + 1))) [] := by
        rw [Int.pow_succ, ← Int.mul_assoc]
        exact mul_big [] (mul_b b1 (pow_b s1.1 t)) s1.1 (by omega)
      have m2 : binD .mul (.int (bP ((s.zip le).take i) * ((s[i].den : Nat) : Int) ^ t)) (.int (s[i].den : Int)) [] = .ok (.int (bP ((s.zip le).take i) * ((s[i].den : Nat) : Int) ^ (t + 1))) [] := by
        rw [Int.pow_succ, ← Int.mul_assoc]
        exact mul_big [] (mul_b b2 (pow_b s1.den t)) s1.den (by omega)
      exact ⟨_, rfl, [some (stD s), some (leD le), some (.int (tP ((s.zip le).take i) * s[i].num ^ (t + 1))), some (.int (bP ((s.zip le).take i) * ((s[i].den : Nat) : Int) ^ (t + 1))), some (.int (i : Int)), some (.int (t : Int))], [], by simp [bindT, setE, setAll, i2, m1, m2], _, rfl, rfl⟩)
    simp at hE
    subst hE
    exact ⟨_, _, rfl, some (.int (i : Int)), z, by rw [tP_take hx, bP_take hx], rfl⟩)
  have e := tb_pow (s.zip le) (s.zip le).length (Nat.le_refl _)
  have ne := bP_ne (s.zip le) (s.zip le).length (Nat.le_refl _)
  obtain ⟨b1, b2⟩ := tb_sz hz (s.zip le).length (Nat.le_refl _)
  rw [← zl]
  rw [List.take_length] at e ne b1 b2 ⊢
  have lw := law_low_ok n [] ne b1 b2 (by omega) (by omega)
  rw [e] at lw
  simp [lw]
end K12


namespace K12
open Eg
open Eg.Hd
/-- a call that hands back a new list -/
theorem run_list {n f : Nat} {d : Df} {ds l : List D} {S : Sto} (h : G.T[f]? = some d) (hl : ds.length = d.ps) (hf : D.freeL ds = true) (hv : D.freeL l = true) (e : endB (evSs G.sub (rn n) d.body (startE d ds) []) = .ok (.ref 0) [.lst l]) : rn (n + 1) f ds S = .ok (.ref S.length) (S ++ [.lst l]) := by
  rw [show rn (n + 1) f ds S = _ from run_at (d := d) h, if_pos hl, if_pos hf, runB_eq, show run G.sub G.T n = rn n from rfl, e]
  have : O.shift S.length (.lst l) = .lst l := by simp [O.shift, shiftL_free _ _ hv]
  simp [reloc, D.free, D.shift, this]
/-- .. a told list -/
theorem run_listT {n f : Nat} {d : Df} {ds l : List D} {w : List Nat} {S : Sto} (h : G.T[f]? = some d) (hl : ds.length = d.ps) (hf : D.freeL ds = true) (hv : D.freeL l = true) (e : endB (evSs G.sub (rn n) d.body (startE d ds) []) = .ok (.fl [.str w, .ref 0]) [.lst l]) : rn (n + 1) f ds S = .ok (.fl [.str w, .ref S.length]) (S ++ [.lst l]) := by
  rw [show rn (n + 1) f ds S = _ from run_at (d := d) h, if_pos hl, if_pos hf, runB_eq, show run G.sub G.T n = rn n from rfl, e]
  have : O.shift S.length (.lst l) = .lst l := by simp [O.shift, shiftL_free _ _ hv]
  simp [reloc, D.free, D.freeL, D.shift, D.shiftL, this]
abbrev SU : List Nat := [115, 117, 109]
abbrev AL : List Nat := [97, 108, 111, 110, 103]
abbrev WK : List Nat := [119, 97, 108, 107]
abbrev WD : List Nat := [119, 111, 114, 100]
abbrev xW (v : D) : Ex := ⟨c_InvalidWalk, [(GIV, v)]⟩
theorem alN_free (ss : List (List Rat)) (w : List (List Nat)) (i : Nat) : D.freeL (alN ss w i) = true := by
  rw [freeL_iff]; intro x hx; obtain ⟨j, _, rfl⟩ := List.mem_map.mp hx; simp
section
variable {c : Nat} {ss : List (List Rat)} {w : List (List Nat)} (h : WOk c ss) (hw : DOk c w)
include h hw
theorem sums_along_ok (n : Nat) (S : Sto) : rn (n + 5) f_sums_along [.tup (ss.map stD), wordD w] S = .ok (.ref S.length) (S ++ [.lst (alN ss w ss.length)]) :=
  run_list (d := d_sums_along) rfl rfl (by simp [freeL_map]) (alN_free ..) (sums_run n h hw)
theorem sum_on_ok (n : Nat) (S : Sto) : rn (n + 6) f_sum_on [.tup (ss.map stD), wordD w] S = .ok (nR (nv ss w ss.length w.length)) S := by
  refine run_okS (d := d_sum_on) rfl rfl (by simp [freeL_map]) (by simp) ?_
  have a := sums_along_ok h hw n []
  simp at a
  simp [d_sum_on, startE, a, lstOf, idxD, alN_last]
end
end K12


namespace K12
open Eg
open Eg.Hd
/-! ### the nested sum by all choices of steps -/
def pathD (q : Nat × Rat) : D := .fl [.int (q.1 : Int), nR q.2]
theorem pths_dv {c : Nat} {ss : List (List Rat)} {w : List (List Nat)} (h : WOk c ss) (hw : DOk c w) : ∀ j, j ≤ w.length → ∀ q ∈ pths ss w j, Dv 6 (162 * j) (1809 * j) q.2
  | 0, _, q, hq => by
    simp [pths] at hq
    rw [hq]; exact Dv.one
  | j + 1, hj, q, hq => by
    obtain ⟨r, hr, hq⟩ := List.mem_flatMap.mp (show q ∈ nxt ss w j (pths ss w j) from hq)
    obtain ⟨k, hk, rfl⟩ := List.mem_map.mp hq
    have hk : k < ss.length - r.1 := by simpa using hk
    exact ((pths_dv h hw j (by omega) r hr).mul (by decide) (pw_dv h hw (i := r.1 + k) (j := j) (by omega) (by omega))).up (by decide) (by omega) (by omega)
theorem nxt_take (ss : List (List Rat)) (w : List (List Nat)) (j : Nat) {l : List (Nat × Rat)} {a : Nat} {q : Nat × Rat} (hq : l[a]? = some q) : nxt ss w j (l.take (a + 1)) = nxt ss w j (l.take a) ++ runs ss w j q (ss.length - q.1) := by
  rw [List.take_succ, hq]; simp [nxt, runs]
theorem runs_len (ss : List (List Rat)) (w : List (List Nat)) (j : Nat) (q : Nat × Rat) (m : Nat) : (runs ss w j q m).length = m := by simp [runs]
theorem nxt_len (ss : List (List Rat)) (w : List (List Nat)) (j : Nat) : ∀ l : List (Nat × Rat), (nxt ss w j l).length ≤ l.length * ss.length
  | [] => by simp [nxt]
  | q :: l => by
    rw [nxt_cons, List.length_append, runs_len, List.length_cons, Nat.add_mul]
    have := nxt_len ss w j l
    omega
theorem pths_len (ss : List (List Rat)) (w : List (List Nat)) : ∀ j, (pths ss w j).length ≤ ss.length ^ j
  | 0 => by simp [pths]
  | j + 1 => by
    rw [Nat.pow_succ]
    exact Nat.le_trans (nxt_len ss w j _) (Nat.mul_le_mul_right _ (pths_len ss w j))
def tot (l : List (Nat × Rat)) : Rat := l.foldl (fun t q => t + q.2) 0
theorem tot_take {l : List (Nat × Rat)} {a : Nat} {q : Nat × Rat} (hq : l[a]? = some q) : tot (l.take (a + 1)) = tot (l.take a) + q.2 := by
  rw [List.take_succ, hq]; simp [tot]
theorem tot_up (i : Nat) (l : List (Nat × Rat)) (h : ∀ q ∈ l, q.1 ≤ i) : tot l = upTo i l := by
  suffices ∀ t : Rat, l.foldl (fun t q => t + q.2) t = t + upTo i l by
    have := this 0
    rw [Rat.zero_add] at this
    exact this
  induction l with
  | nil => intro t; rw [upTo_nil, Rat.add_zero]; rfl
  | cons q l ih =>
    intro t
    rw [List.foldl_cons, ih (fun x hx => h x (by simp [hx])), upTo_cons, if_pos (h q (by simp)), Rat.add_assoc]
theorem tot_dv {Q w A B : Nat} (hQ : 0 < Q) {l : List (Nat × Rat)} (h : ∀ q ∈ l, Dv Q w A q.2) (hB : l.length ≤ 2 ^ B) : ∀ a, a ≤ l.length → Dv Q w (A + B) (tot (l.take a)) := by
  have key : ∀ a, a ≤ l.length → ∃ z : Int, tot (l.take a) = Rat.divInt z ((Q : Int) ^ w) ∧ z.natAbs ≤ a * (2 ^ A * Q ^ w) := by
    intro a
    induction a with
    | zero => intro _; exact ⟨0, by simp [tot], by simp⟩
    | succ a ih =>
      intro ha
      obtain ⟨z, hz, bz⟩ := ih (by omega)
      have hx := List.getElem?_eq_getElem (show a < l.length by omega)
      obtain ⟨y, hy, yb⟩ := h _ (List.getElem_mem (show a < l.length by omega))
      refine ⟨z + y, ?_, ?_⟩
      · rw [tot_take hx, hz, hy, Rat.divInt_add_divInt _ _ (qne hQ w) (qne hQ w), ← Int.add_mul, Rat.divInt_mul_right (qne hQ w)]
      · have := Int.natAbs_add_le z y
        rw [Nat.add_mul, Nat.one_mul]
        omega
  intro a ha
  obtain ⟨z, hz, bz⟩ := key a ha
  refine ⟨z, hz, Nat.le_trans bz ?_⟩
  rw [Nat.pow_add, Nat.mul_comm (2 ^ A) (2 ^ B), Nat.mul_assoc]
  exact Nat.mul_le_mul_right _ (by omega)
theorem rng2_nat {a b : Nat} (h : b < 2 ^ 62) (hab : a ≤ b) : rngD (a : Int) (b : Int) = some ((List.range (b - a)).map fun (k : Nat) => D.int (((a + k : Nat) : Int)), none) := by
  have e1 : b62 (a : Int) = true := by simp only [b62, Bool.and_eq_true, decide_eq_true_eq]; omega
  have e2 : b62 (b : Int) = true := by simp only [b62, Bool.and_eq_true, decide_eq_true_eq]; omega
  unfold rngD
  rw [e1, e2]
  have : ((b : Int) - (a : Int)).toNat = b - a := by omega
  simp [rngL, this]
theorem app_ok {S : Sto} {R : Nat} {l : List D} {v : D} (h : S[R]? = some (.lst l)) (hl : l.length < 16777216) : meD .append (.ref R) [v] S = .ok .non (S.set R (.lst (l ++ [v]))) := by
  have hl : l.length < line := hl
  simp [meD, meL, h, hl]
theorem src_word (w : List (List Nat)) (S : Sto) : srcD S (wordD w) = some (w.map leD, none) := rfl
/-- few enough choices -/
def Few2 (n m : Nat) : Prop := n ≤ 7 ∨ m ≤ 2 ∨ (n ≤ 8 ∧ m ≤ 6)
theorem few (ss : List (List Rat)) (w : List (List Nat)) {j : Nat} (hj : j < w.length) (hl : ss.length ≤ 60) (hs : Few2 ss.length w.length) (h8 : w.length ≤ 8) : (pths ss w j).length ≤ 823543 ∧ (pths ss w j).length * ss.length ≤ 823543 * 7 := by
  have p7 : (7 : Nat) ^ 7 = 823543 := by decide
  have p8 : (8 : Nat) ^ 6 = 262144 := by decide
  have pl := pths_len ss w j
  rcases hs with hs | hw | ⟨hs, hw⟩
  · have : (pths ss w j).length ≤ 7 ^ 7 := Nat.le_trans pl (Nat.le_trans (Nat.pow_le_pow_left hs j) (Nat.pow_le_pow_right (by omega) (by omega)))
    exact ⟨by omega, Nat.mul_le_mul (by omega) hs⟩
  · have : (pths ss w j).length ≤ 60 := Nat.le_trans pl (Nat.le_trans (Nat.pow_le_pow_left hl j) (Nat.le_trans (Nat.pow_le_pow_right (by omega) (show j ≤ 1 by omega)) (by decide)))
    have m := Nat.mul_le_mul this hl
    exact ⟨by omega, by omega⟩
  · have : (pths ss w j).length ≤ 8 ^ 6 := Nat.le_trans pl (Nat.le_trans (Nat.pow_le_pow_left hs j) (Nat.pow_le_pow_right (by omega) (by omega)))
    have m := Nat.mul_le_mul this hs
    exact ⟨by omega, by omega⟩
theorem few_all (ss : List (List Rat)) (w : List (List Nat)) (hl : ss.length ≤ 60) (hs : Few2 ss.length w.length) (h8 : w.length ≤ 8) : (pths ss w w.length).length ≤ 2 ^ 23 := by
  refine Nat.le_trans (pths_len ss w _) ?_
  rcases hs with hs | hw | ⟨hs, hw⟩
  · exact Nat.le_trans (Nat.pow_le_pow_left hs _) (Nat.le_trans (Nat.pow_le_pow_right (by omega) h8) (by decide))
  · exact Nat.le_trans (Nat.pow_le_pow_left hl _) (Nat.le_trans (Nat.pow_le_pow_right (by omega) hw) (by decide))
  · exact Nat.le_trans (Nat.pow_le_pow_left hs _) (Nat.le_trans (Nat.pow_le_pow_right (by omega) hw) (by decide))
theorem law_nested_gen (n : Nat) {c : Nat} {ss : List (List Rat)} {w : List (List Nat)} (h : WOk c ss) (hw : DOk c w) (hs : Few2 ss.length w.length) (S : Sto) : rn (n + 3) f__law_nested [.tup (ss.map stD), wordD w] S = .ok (nR (nv ss w ss.length w.length)) S := by
  have hc := h.c1
  have wl8 := hw.len
  have hl60 := h.len
  refine run_okS (d := d__law_nested) rfl rfl (by simp [freeL_map]) (by simp) ?_
  have lb : ∀ S, biD .len [.tup (ss.map stD)] S = .ok (.int ss.length) S := fun S => by simp [biD, bLen]
  simp only [d__law_nested, startE]
  simp [line, setE, evS_fr, src_word]
  generalize hF : forB _ _ _ _ _ _ _ _ = qq
  obtain ⟨ρ', S', rfl, y3, y4, y5, y6, y7, rfl⟩ := for_idx hF (fun j ρ S => ∃ y3 y4 y5 y6 y7, ρ = [some (.tup (ss.map stD)), some (wordD w), some (.fl ((pths ss w j).map pathD)), y3, y4, y5, y6, y7, none]) ⟨none, none, none, none, none, by simp [pths, pathD, nR_one]⟩ (by
    rintro j le ρ S hx ⟨y3, y4, y5, y6, y7, rfl⟩
    have hj := (List.getElem?_eq_some_iff.mp hx).1
    have gw : w.getD j [] = le := by simp [List.getD, hx]
    have hle := List.mem_of_getElem? hx
    obtain ⟨R, hR⟩ : ∃ R, R = S.length := ⟨_, rfl⟩
    obtain ⟨pl, pl7⟩ := few ss w hj h.len hs hw.len
    refine ⟨_, rfl, ?_⟩
    generalize hE : evSs _ _ _ _ _ = r
    simp [bindT, setE, line, evS_fr, srcD, ← hR] at hE
    generalize hG : forB _ _ _ _ _ _ _ _ = qq at hE
    obtain ⟨ρ', S', rfl, y5, y6, y7, rfl, r1⟩ := for_idx hG (fun a ρ S => ∃ y5 y6 y7, ρ = [some (.tup (ss.map stD)), some (wordD w), some (.fl ((pths ss w j).map pathD)), some (leD le), some (.ref R), y5, y6, y7, none] ∧ S[R]? = some (.lst ((nxt ss w j ((pths ss w j).take a)).map pathD))) ⟨y5, y6, y7, rfl, by rw [hR]; simp [nxt]⟩ (by
      rintro a q ρ S hq ⟨y5, y6, y7, rfl, r1⟩
      have ha := (List.getElem?_eq_some_iff.mp hq).1
      have q1 := pths_le ss w j q (List.mem_of_getElem? hq)
      have qd := pths_dv h hw j (by omega) q (List.mem_of_getElem? hq)
      have rg := rng2_nat (a := q.1) (b := ss.length) (by omega) q1
      have nl := nxt_len ss w j ((pths ss w j).take (a + 1))
      rw [nxt_take ss w j hq, List.length_append, runs_len, List.length_take] at nl
      have nl2 : min (a + 1) (pths ss w j).length * ss.length ≤ 823543 * 7 := Nat.le_trans (Nat.mul_le_mul_right _ (Nat.min_le_right ..)) pl7
      refine ⟨[some (.tup (ss.map stD)), some (wordD w), some (.fl ((pths ss w j).map pathD)), some (leD le), some (.ref R), some (.int (q.1 : Int)), some (nR q.2), y7, none], by simp [pathD, bindT, bindTs, setE], ?_⟩
      generalize hE2 : evSs _ _ _ _ _ = r
      simp [bindT, setE, evS_fr, lb, rg] at hE2
      generalize hH : forB _ _ _ _ _ _ _ _ = qq at hE2
      obtain ⟨ρ', S', rfl, y7, rfl, r2⟩ := for_idx (g := fun (k : Nat) => D.int (((q.1 + k : Nat) : Int))) (by simpa using hH) (fun t ρ S => ∃ y7, ρ = [some (.tup (ss.map stD)), some (wordD w), some (.fl ((pths ss w j).map pathD)), some (leD le), some (.ref R), some (.int (q.1 : Int)), some (nR q.2), y7, none] ∧ S[R]? = some (.lst ((nxt ss w j ((pths ss w j).take a) ++ runs ss w j q t).map pathD))) ⟨y7, rfl, by simpa [runs] using r1⟩ (by
        rintro t k ρ S ht ⟨y7, rfl, r2⟩
        have hk : k = t := by
          obtain ⟨h1, h2⟩ := List.getElem?_eq_some_iff.mp ht
          simpa using h2.symm
        subst hk
        have htl : k < ss.length - q.1 := by simpa using (List.getElem?_eq_some_iff.mp ht).1
        have hi : q.1 + k < ss.length := by omega
        have ix : idxD (.tup (ss.map stD)) (.int ((q.1 + k : Nat) : Int)) S = .ok (stD ss[q.1 + k]) S := by
          simp only [idxD, atL_map stD ss (List.getElem?_eq_getElem hi)]; rfl
        have ms := List.getElem_mem hi
        have at1 := law_at_ok n S (h.sz _ ms) (fun x hx => Nat.le_trans (hw.sm le hle x hx) (by decide)) (by have := h.it _ ms; omega) (by have := h.it _ ms; have := hw.it le hle; omega)
        have ep : powP (ss[q.1 + k].zip le) = pw ss w (q.1 + k) j := by unfold pw; rw [gw]; simp [List.getD, hi]
        rw [ep] at at1
        have tm := law_times_ok (big_sz qd (by omega) (by omega)) (pw_sz h hw (i := q.1 + k) (j := j) hi (by omega)) n S (by omega) (by omega) (by omega)
        have lo := lstOf_of r2
        have ll : ((nxt ss w j ((pths ss w j).take a) ++ runs ss w j q k).map pathD).length < 16777216 := by
          rw [List.length_map, List.length_append, runs_len]; omega
        have ap := fun v => app_ok (v := v) r2 ll
        have hlt := (List.getElem?_eq_some_iff.mp r2).1
        refine ⟨_, rfl, [some (.tup (ss.map stD)), some (wordD w), some (.fl ((pths ss w j).map pathD)), some (leD le), some (.ref R), some (.int (q.1 : Int)), some (nR q.2), some (.int ((q.1 + k : Nat) : Int)), none], S.set R (.lst ((nxt ss w j ((pths ss w j).take a) ++ runs ss w j q (k + 1)).map pathD)), ?_, _, rfl, List.getElem?_set_self hlt⟩
        rw [runs_succ, ← List.append_assoc, List.map_append (l₂ := [_])]
        simp only [Int.natCast_add] at ix
        simp [bindT, setE, lo, ix, at1, tm, line, ap, pathD])
      simp at hE2
      subst hE2
      exact ⟨_, _, rfl, _, _, y7, rfl, by rw [nxt_take ss w j hq]; simpa using r2⟩)
    rw [List.take_length] at r1
    simp [r1, setE] at hE
    subst hE
    exact ⟨[some (.tup (ss.map stD)), some (wordD w), some (.fl ((pths ss w (j + 1)).map pathD)), some (leD le), some (.ref R), y5, y6, y7, none], S'.set R .dead, by simp [pths], _, _, _, _, _, rfl⟩)
  have pd := pths_dv h hw w.length (Nat.le_refl _)
  have pl := few_all ss w h.len hs hw.len
  simp [line, setE, evS_fr, srcD]
  generalize hF : forB _ _ _ _ _ _ _ _ = qq
  obtain ⟨ρ', S', rfl, y5, y6, rfl⟩ := for_idx hF (fun a ρ S => ∃ y5 y6, ρ = [some (.tup (ss.map stD)), some (wordD w), some (.fl ((pths ss w w.length).map pathD)), y3, y4, y5, y6, y7, some (nR (tot ((pths ss w w.length).take a)))]) ⟨y5, y6, by simp [tot, nR_zero]⟩ (by
    rintro a q ρ S hq ⟨y5, y6, rfl⟩
    have ha := (List.getElem?_eq_some_iff.mp hq).1
    have td := tot_dv (by decide) pd pl a (by omega)
    have ps := law_plus_ok (big_sz td (by omega) (by omega)) (big_sz (pd q (List.mem_of_getElem? hq)) (by omega) (by omega)) n S (by omega) (by omega)
    rw [← tot_take hq] at ps
    exact ⟨[some (.tup (ss.map stD)), some (wordD w), some (.fl ((pths ss w w.length).map pathD)), y3, y4, some (.int (q.1 : Int)), some (nR q.2), y7, some (nR (tot ((pths ss w w.length).take a)))], by simp [pathD, bindT, bindTs, setE], [some (.tup (ss.map stD)), some (wordD w), some (.fl ((pths ss w w.length).map pathD)), y3, y4, some (.int (q.1 : Int)), some (nR q.2), y7, some (nR (tot ((pths ss w w.length).take (a + 1))))], S, by simp [ps, setE], _, _, rfl⟩)
  rw [List.take_length, tot_up ss.length _ (pths_le ss w _), pths_nv ss w _ _ (Nat.le_refl _)]
  simp
theorem law_nested_ok (n : Nat) {c : Nat} {ss : List (List Rat)} {w : List (List Nat)} (h : WOk c ss) (hw : DOk c w) (hs : ss.length ≤ 7) (S : Sto) : rn (n + 3) f__law_nested [.tup (ss.map stD), wordD w] S = .ok (nR (nv ss w ss.length w.length)) S := law_nested_gen n h hw (.inl hs) S
end K12


namespace K12
open Eg
open Eg.Hd
theorem same_rf (k n r : Nat) (l : List D) (S : Sto) (hr : S[r]? = some (.lst l)) (hl : l.length ≤ 1000) (h : ∀ x ∈ l, plD k x = true) : rn (n + k + 2) f__law_same [.ref r, .fl l] S = .ok (.bl true) S := by
  rw [show rn (n + k + 2) f__law_same [.ref r, .fl l] S = endB (evSs G.sub (rn (n + k + 1)) d__law_same.body (startE d__law_same [.ref r, .fl l]) S) from run_ref rfl rfl rfl]
  have hL : biD .len [.fl l] S = .ok (.int l.length) S := by simp [biD, bLen]
  have hc : evC G.sub (rn (n + k + 1)) sameC [some (.ref r), some (.fl l), none, none] S = .ok [] S := by
    rw [evC_mk]
    have e1 : evI G.sub (rn (n + k + 1)) (.rng1 (.bi .len (.cons (.var 1) .nil))) [some (.ref r), some (.fl l), none, none] S = .ok ((List.range l.length).map fun (k : Nat) => D.int (k : Int), none) S := by
      simp [hL, rng_nat (show l.length < 2 ^ 62 by omega)]
    rw [e1]
    simp only [R.bind_ok]
    rw [if_pos (by simp [line]; omega)]
    refine comp_none rfl fun x hx => ?_
    obtain ⟨j, hj, rfl⟩ := rng_mem hx
    obtain ⟨y, hy⟩ : ∃ y, l[j]? = some y := ⟨_, List.getElem?_eq_getElem hj⟩
    refine ⟨[some (.ref r), some (.fl l), none, some (.int j)], rfl, ?_⟩
    have t1 := idx_nat (d := .ref r) S (.inr (lstOf_of hr)) hy
    have t2 := idx_nat (d := .fl l) S (.inr rfl) hy
    have sp := same_pl k (h y (List.mem_of_getElem? hy)) n S
    simp [t1, t2, sp]
  unfold sameC at hc
  simp [d__law_same, startE, cmpO, cIs, isK, eqD, biD, bLen, evE_nilc, hc, kind_lst hr, hr]
/-! ### good words -/
theorem le_sum : ∀ {l : List Nat} {x : Nat}, x ∈ l → x ≤ l.sum
  | a :: l, x, h => by
    rcases List.mem_cons.mp h with rfl | h
    · simp
    · have := le_sum h
      simp; omega
theorem dok_of {c : Nat} {ws : List (List Nat)} (hl : ws.length ≤ 8) (h : ∀ l ∈ ws, l.length = c ∧ l.sum ≤ 3) : DOk c ws :=
  ⟨hl, fun l hl => (h l hl).1, fun l hl x hx => by have := le_sum hx; have := (h l hl).2; omega⟩
theorem DOk.app {c : Nat} {a b : List (List Nat)} (ha : DOk c a) (hb : DOk c b) (hl : a.length + b.length ≤ 8) : DOk c (a ++ b) :=
  ⟨by simpa using hl, fun l h => (List.mem_append.mp h).elim (ha.it l) (hb.it l), fun l h => (List.mem_append.mp h).elim (ha.sm l) (hb.sm l)⟩
theorem dok_nil (c : Nat) : DOk c [] := ⟨by simp, by simp, by simp⟩
def zerosW (c m : Nat) : List (List Nat) := List.replicate m (List.replicate c 0)
theorem dok_zeros (c : Nat) {m : Nat} (hm : m ≤ 8) : DOk c (zerosW c m) :=
  ⟨by simpa [zerosW] using hm, fun l h => by rw [List.eq_of_mem_replicate h]; simp, fun l h x hx => by
    rw [List.eq_of_mem_replicate h] at hx
    rw [List.eq_of_mem_replicate hx]; omega⟩
theorem le_zeros (c : Nat) : D.tup (List.replicate c (.int 0)) = leD (List.replicate c 0) := by simp [leD]
theorem wd_zeros (c m : Nat) : D.tup (List.replicate m (leD (List.replicate c 0))) = wordD (zerosW c m) := by simp [wordD, zerosW]
/-! ### beginnings -/
theorem WOk.take {c : Nat} {ss : List (List Rat)} (h : WOk c ss) (k : Nat) : WOk c (ss.take k) :=
  ⟨h.c1, by have := h.len; simp; omega, fun s hs => h.it s (List.mem_of_mem_take hs), fun s hs => h.sz s (List.mem_of_mem_take hs), fun s hs => h.dv s (List.mem_of_mem_take hs)⟩
theorem nv_take (ss : List (List Rat)) (w : List (List Nat)) (k : Nat) : ∀ i j, i ≤ k → nv (ss.take k) w i j = nv ss w i j
  | 0, 0, _ => rfl
  | 0, _ + 1, _ => rfl
  | i + 1, 0, _ => rfl
  | i + 1, j + 1, hi => by
    rw [nv, nv, nv_take ss w k i (j + 1) (by omega), nv_take ss w k i j (by omega)]
    have : (ss.take k).getD i [] = ss.getD i [] := by
      simp only [List.getD, List.getElem?_take]
      rw [if_pos (by omega)]
    unfold pw
    rw [this]
theorem cut_take {α : Type} (l : List α) (k : Nat) : cut l none (some (k : Int)) = l.take k := by
  have : ¬ ((k : Int) < 0) := by omega
  simp [cut, sIx, this]
theorem cut_drop {α : Type} (l : List α) (k : Nat) (hk : k ≤ l.length) : cut l (some (k : Int)) none = l.drop k := by
  have : ¬ ((k : Int) < 0) := by omega
  simp [cut, sIx, this]
  have e : min k l.length = k := by omega
  rw [e]
  exact List.take_of_length_le (by simp)
end K12


namespace K12
open Eg
open Eg.Hd
/-! ### the order of words: by length, then as Python orders tuples -/
def kW (w : List (List Nat)) : List Nat := w.length :: w.flatten
def keyD (w : List (List Nat)) : D := .tup [.int (w.length : Int), wordD w]
theorem leD_inj {a b : List Nat} (h : leD a = leD b) : a = b := map_inj (g := fun (k : Nat) => D.int (k : Int)) (fun x y e => by have := D.int.inj e; omega) (D.tup.inj h)
theorem wordD_inj {a b : List (List Nat)} (h : wordD a = wordD b) : a = b := map_inj (fun _ _ => leD_inj) (D.tup.inj h)
theorem keyD_inj {a b : List (List Nat)} (h : keyD a = keyD b) : a = b := by
  unfold keyD at h
  simp only [D.tup.injEq, List.cons.injEq, and_true] at h
  exact wordD_inj h.2
theorem app_lt : ∀ {x y a b : List Nat}, x.length = y.length → (x ++ a < y ++ b ↔ x < y ∨ (x = y ∧ a < b))
  | [], [], a, b, _ => by simp
  | [], _ :: _, _, _, h => by simp at h
  | _ :: _, [], _, _, h => by simp at h
  | p :: x, q :: y, a, b, hlen => by
    have ih := app_lt (x := x) (y := y) (a := a) (b := b) (by simpa using hlen)
    simp only [List.cons_append, List.cons_lt_cons_iff, ih, List.cons.injEq]
    constructor
    · rintro (h | ⟨rfl, h | ⟨rfl, h⟩⟩)
      · exact .inl (.inl h)
      · exact .inl (.inr ⟨rfl, h⟩)
      · exact .inr ⟨⟨rfl, rfl⟩, h⟩
    · rintro ((h | ⟨rfl, h⟩) | ⟨⟨rfl, rfl⟩, h⟩)
      · exact .inl h
      · exact .inr ⟨rfl, .inl h⟩
      · exact .inr ⟨rfl, .inr ⟨rfl, h⟩⟩
theorem lt_le : ∀ {x y : List Nat}, x.length = y.length → ltT (leD x) (leD y) = decide (x < y)
  | x, y, h => by
    unfold leD
    simp only [ltT]
    induction x generalizing y with
    | nil =>
      cases y with
      | nil => simp [ltTL]
      | cons _ _ => simp at h
    | cons a x ih =>
      cases y with
      | nil => simp at h
      | cons b y =>
        simp only [List.map_cons, ltTL, ltT, D.int.injEq, ih (y := y) (by simpa using h)]
        by_cases e : a = b
        · subst e; simp [List.cons_lt_cons_iff]
        · have : ¬ ((a : Int) = (b : Int)) := by omega
          rw [if_neg this]
          refine dec_iff ?_
          rw [List.cons_lt_cons_iff]
          constructor
          · intro h; exact .inl (by omega)
          · rintro (h | ⟨h, _⟩)
            · omega
            · exact absurd h e
theorem fl_len {c : Nat} : ∀ {w : List (List Nat)}, (∀ l ∈ w, l.length = c) → w.flatten.length = w.length * c
  | [], _ => by simp
  | a :: w, h => by
    rw [List.flatten_cons, List.length_append, fl_len fun l hl => h l (by simp [hl]), h a (by simp), List.length_cons, Nat.add_mul]; omega
theorem lt_word {c : Nat} : ∀ {a b : List (List Nat)}, (∀ l ∈ a, l.length = c) → (∀ l ∈ b, l.length = c) → a.length = b.length → ltT (wordD a) (wordD b) = decide (a.flatten < b.flatten) := by
  intro a b ha hb h
  unfold wordD
  simp only [ltT]
  induction a generalizing b with
  | nil =>
    cases b with
    | nil => simp [ltTL]
    | cons _ _ => simp at h
  | cons x a ih =>
    cases b with
    | nil => simp at h
    | cons y b =>
      have hx := ha x (by simp)
      have hy := hb y (by simp)
      have i := ih (b := b) (fun l hl => ha l (by simp [hl])) (fun l hl => hb l (by simp [hl])) (by simpa using h)
      simp only [List.map_cons, ltTL, i, List.flatten_cons, lt_le (show x.length = y.length by omega)]
      by_cases e : x = y
      · subst e
        rw [if_pos rfl]
        refine dec_iff ?_
        rw [app_lt rfl]; simp [List.lt_irrefl]
      · rw [if_neg fun z => e (leD_inj z)]
        refine dec_iff ?_
        rw [app_lt (by omega)]
        simp [e]
theorem lt_key {c : Nat} {a b : List (List Nat)} (ha : ∀ l ∈ a, l.length = c) (hb : ∀ l ∈ b, l.length = c) : ltT (keyD a) (keyD b) = decide (kW a < kW b) := by
  unfold keyD kW
  simp only [ltT, ltTL, D.int.injEq]
  by_cases e : a.length = b.length
  · have e' : (a.length : Int) = (b.length : Int) := by omega
    rw [if_pos e', e]
    by_cases z : a = b
    · subst z; simp
    · rw [if_neg fun y => z (wordD_inj y), lt_word ha hb e]
      refine dec_iff ?_
      rw [List.cons_lt_cons_iff]; simp
  · have e' : ¬ (a.length : Int) = (b.length : Int) := by omega
    rw [if_neg e']
    refine dec_iff ?_
    rw [List.cons_lt_cons_iff]
    constructor
    · intro h; exact .inl (by omega)
    · rintro (h | ⟨h, _⟩)
      · omega
      · exact absurd h e
theorem flat_inj {c : Nat} (hc : 1 ≤ c) : ∀ {a b : List (List Nat)}, (∀ l ∈ a, l.length = c) → (∀ l ∈ b, l.length = c) → a.flatten = b.flatten → a = b
  | [], [], _, _, _ => rfl
  | [], y :: b, _, hb, h => by
    have e := hb y (by simp)
    simp at h
    rw [h.1] at e; simp at e; omega
  | x :: a, [], ha, _, h => by
    have e := ha x (by simp)
    simp at h
    rw [h.1] at e; simp at e; omega
  | x :: a, y :: b, ha, hb, h => by
    rw [List.flatten_cons, List.flatten_cons] at h
    obtain ⟨h1, h2⟩ := List.append_inj h (by rw [ha x (by simp), hb y (by simp)])
    rw [h1, flat_inj hc (fun l hl => ha l (by simp [hl])) (fun l hl => hb l (by simp [hl])) h2]
theorem kW_inj {c : Nat} (hc : 1 ≤ c) {a b : List (List Nat)} (ha : ∀ l ∈ a, l.length = c) (hb : ∀ l ∈ b, l.length = c) (h : kW a = kW b) : a = b := flat_inj hc ha hb (List.cons.inj h).2
def leW (a b : List (List Nat)) : Bool := !decide (kW b < kW a)
theorem leW_trans (a b c : List (List Nat)) (h1 : leW a b = true) (h2 : leW b c = true) : leW a c = true := by
  simp only [leW, Bool.not_eq_true', decide_eq_false_iff_not] at *
  exact List.not_lt.mpr (List.le_trans (List.not_lt.mp h1) (List.not_lt.mp h2))
theorem leW_total (a b : List (List Nat)) : (leW a b || leW b a) = true := by
  simp only [leW, Bool.or_eq_true, Bool.not_eq_true', decide_eq_false_iff_not]
  by_cases h : kW b < kW a
  · exact .inr (List.lt_asymm h)
  · exact .inl h
theorem sorted_words {c : Nat} (hc : 1 ≤ c) {ws : List (List (List Nat))} (h : ∀ w ∈ ws, ∀ l ∈ w, l.length = c) (nd : ws.Nodup) : (ws.mergeSort leW).Pairwise fun a b => kW a < kW b := by
  have p := List.mergeSort_perm ws leW
  have nd' : (ws.mergeSort leW).Nodup := p.nodup_iff.mpr nd
  have s := List.pairwise_mergeSort leW_trans leW_total ws
  have hm : ∀ w ∈ ws.mergeSort leW, ∀ l ∈ w, l.length = c := fun w hw => h w (p.mem_iff.mp hw)
  revert s nd' hm
  generalize ws.mergeSort leW = m
  intro nd' s hm
  induction m with
  | nil => exact .nil
  | cons a m ih =>
    rw [List.pairwise_cons] at s ⊢
    rw [List.nodup_cons] at nd'
    refine ⟨fun b hb => ?_, ih nd'.2 s.2 fun w hw => hm w (by simp [hw])⟩
    have := s.1 b hb
    simp only [leW, Bool.not_eq_true', decide_eq_false_iff_not] at this
    rcases List.le_iff_lt_or_eq.mp (List.not_lt.mp this) with h | h
    · exact h
    · have := kW_inj hc (hm a (by simp)) (hm b (by simp [hb])) h
      subst this
      exact absurd hb nd'.1
theorem al_letters {c : Nat} : ∀ {a b : List (List Nat)}, (∀ l ∈ a, l.length = c) → (∀ l ∈ b, l.length = c) → alL (a.map leD) (b.map leD) = true
  | [], _, _, _ => by simp [alL]
  | _ :: _, [], _, _ => by simp [alL]
  | x :: a, y :: b, ha, hb => by
    have one : ∀ x y : List Nat, alL (x.map fun (k : Nat) => D.int (k : Int)) (y.map fun (k : Nat) => D.int (k : Int)) = true := by
      intro x
      induction x with
      | nil => intro y; cases y <;> rfl
      | cons p x ih =>
        intro y
        cases y with
        | nil => rfl
        | cons q y => simp only [List.map_cons, alL, alD, ih y, Bool.and_self]
    simp only [List.map_cons, alL]
    have : alD (leD x) (leD y) = true := by simp only [leD, alD]; exact one x y
    rw [this, al_letters (fun l hl => ha l (by simp [hl])) (fun l hl => hb l (by simp [hl]))]; rfl
theorem al_key {c : Nat} {a b : List (List Nat)} (ha : ∀ l ∈ a, l.length = c) (hb : ∀ l ∈ b, l.length = c) : alD (keyD a) (keyD b) = true := by
  simp only [keyD, alD, alL, wordD, al_letters ha hb, Bool.and_self]
theorem num_key (w : List (List Nat)) : numD 3 (keyD w) = true := by
  have h1 : ∀ l : List Nat, numD 1 (leD l) = true := fun l => by
    simp only [numD, leD, List.all_map, List.all_eq_true]
    exact fun _ _ => rfl
  have h2 : numD 2 (wordD w) = true := by
    simp only [numD, wordD, List.all_map, List.all_eq_true]
    exact fun l _ => by
      have := h1 l
      simpa [numD, leD] using this
  have h3 : numD 2 (.int (w.length : Int)) = true := rfl
  show ([D.int (w.length : Int), wordD w].all (numD 2)) = true
  simp only [List.all_cons, List.all_nil, h2, h3, Bool.and_self]
theorem plain_key (S : Sto) (w : List (List Nat)) : plain 40 S (keyD w) = true := numD_plain S 3 40 _ (num_key w) (by omega)
theorem nk_word (w : List (List Nat)) : keyOk (wordD w) = true := by
  simp only [keyOk, wordD, List.all_map, List.all_eq_true]
  intro l _
  simp [leD, nkD]
theorem srt_keys {c : Nat} {ws : List (List (List Nat))} (h : ∀ w ∈ ws, ∀ l ∈ w, l.length = c) (hl : ws.length ≤ 1000) : srtOk (ws.map keyD) = true ∧ srt (ws.map keyD) = (ws.mergeSort leW).map keyD := by
  refine ⟨?_, ?_⟩
  · unfold srtOk
    have h1 : (ws.map keyD).all (plain 40 []) = true := by simp [plain_key]
    have h2 : ((ws.map keyD).all fun a => (ws.map keyD).all (alD a)) = true := by
      simp only [List.all_map, List.all_eq_true, Function.comp]
      exact fun a ha b hb => al_key (h a ha) (h b hb)
    have h3 : (ws.map keyD).all neTup = true := by simp [keyD, neTup]
    rw [h1, h2, h3]
    simp [line]; omega
  · unfold srt
    refine (List.map_mergeSort fun a ha b hb => ?_).symm
    unfold leW leT
    rw [lt_key (h b hb) (h a ha)]
end K12


namespace K12
open Eg
open Eg.Hd
/-! ### forms -/
abbrev Tm := List (List Nat) × Rat
def teD (p : Tm) : D := .tup [wordD p.1, nR p.2]
def fD (c : Nat) (ts : List Tm) : D := .tup [.int (c : Int), .tup (ts.map teD)]
@[simp] theorem free_teD (p : Tm) : D.free (teD p) = true := by simp [teD]
@[simp] theorem free_fD (c : Nat) (ts : List Tm) : D.free (fD c ts) = true := by simp [fD, freeL_map]
structure FOk (c : Nat) (ts : List Tm) : Prop where
  c1 : 1 ≤ c ∧ c ≤ 3
  len : ts.length ≤ 60
  w : ∀ p ∈ ts, DOk c p.1
  nz : ∀ p ∈ ts, p.2 ≠ 0
  dv : ∀ p ∈ ts, Dv 6 3 100 p.2
  srt : ts.Pairwise fun p q => kW p.1 < kW q.1
/-! ### the dict of words and numbers -/
def kvD (al : List Tm) : List (D × D) := al.map fun p => (wordD p.1, nR p.2)
def getW : List Tm → List (List Nat) → Option Rat
  | [], _ => none
  | p :: r, w => if p.1 = w then some p.2 else getW r w
def putW (al : List Tm) (w : List (List Nat)) (r : Rat) : List Tm := if (getW al w).isSome then al.map (fun p => if p.1 = w then (p.1, r) else p) else al ++ [(w, r)]
theorem get_kv (al : List Tm) (w : List (List Nat)) : dctGet (kvD al) (wordD w) = (getW al w).map nR := by
  induction al with
  | nil => rfl
  | cons p al ih =>
    show (if wordD p.1 = wordD w then some (nR p.2) else dctGet (kvD al) (wordD w)) = _
    unfold getW
    by_cases e : p.1 = w
    · rw [if_pos (by rw [e]), if_pos e]; rfl
    · rw [if_neg fun z => e (wordD_inj z), if_neg e, ih]
theorem put_kv (al : List Tm) (w : List (List Nat)) (r : Rat) : dctPut (kvD al) (wordD w) (nR r) = kvD (putW al w r) := by
  unfold dctPut putW
  rw [get_kv, Option.isSome_map]
  by_cases h : (getW al w).isSome = true
  · rw [if_pos h, if_pos h]
    unfold kvD
    rw [List.map_map, List.map_map]
    refine List.map_congr_left fun p _ => ?_
    simp only [Function.comp]
    by_cases e : p.1 = w
    · rw [if_pos (by rw [e]), if_pos e]
    · rw [if_neg fun z => e (wordD_inj z), if_neg e]
  · rw [if_neg h, if_neg h]; simp [kvD]
theorem get_none {al : List Tm} {w : List (List Nat)} (h : getW al w = none) : w ∉ al.map (·.1) := by
  induction al with
  | nil => simp
  | cons p al ih =>
    unfold getW at h
    split at h
    · cases h
    · rename_i e
      simp only [List.map_cons, List.mem_cons, not_or]
      exact ⟨fun z => e z.symm, ih h⟩
theorem get_mem {al : List Tm} {w : List (List Nat)} {r : Rat} (h : getW al w = some r) : (w, r) ∈ al := by
  induction al with
  | nil => cases h
  | cons p al ih =>
    unfold getW at h
    split at h
    · rename_i e
      cases h
      subst e
      exact List.mem_cons_self ..
    · exact List.mem_cons_of_mem _ (ih h)
theorem put_mem {al : List Tm} {w : List (List Nat)} {r : Rat} {p : Tm} (h : p ∈ putW al w r) : p ∈ al ∨ p = (w, r) := by
  unfold putW at h
  split at h
  · obtain ⟨q, hq, rfl⟩ := List.mem_map.mp h
    split
    · rename_i e; exact .inr (by rw [e])
    · exact .inl hq
  · rcases List.mem_append.mp h with h | h
    · exact .inl h
    · exact .inr (List.mem_singleton.mp h)
theorem put_nodup {al : List Tm} {w : List (List Nat)} {r : Rat} (h : (al.map (·.1)).Nodup) : ((putW al w r).map (·.1)).Nodup := by
  unfold putW
  split
  · have : (al.map fun p => if p.1 = w then (p.1, r) else p).map (·.1) = al.map (·.1) := by
      rw [List.map_map]
      refine List.map_congr_left fun p _ => ?_
      simp only [Function.comp]
      split <;> rfl
    rw [this]; exact h
  · rename_i e
    have hn : getW al w = none := by
      cases z : getW al w with
      | none => rfl
      | some _ => rw [z] at e; simp at e
    rw [List.map_append, List.nodup_append]
    refine ⟨h, by simp, fun a ha b hb => ?_⟩
    simp only [List.map_cons, List.map_nil, List.mem_singleton] at hb
    rw [hb]
    exact fun z => get_none hn (z ▸ ha)
theorem put_len (al : List Tm) (w : List (List Nat)) (r : Rat) : (putW al w r).length ≤ al.length + 1 := by
  unfold putW
  split <;> simp
def addV : Option Rat → Rat → Rat
  | none, r => r
  | some q, r => q + r
theorem law_add_ok (n d : Nat) {al : List Tm} {w : List (List Nat)} {r : Rat} {a : Nat} (S : Sto) (hS : S[d]? = some (.dct (kvD al))) (hl : al.length ≤ 60) (hr : Dv 6 1 a r) (hq : ∀ q, getW al w = some q → Dv 6 1 a q) (ha : a ≤ 1000) : rn (n + 3) f__law_add [.ref d, wordD w, nR r] S = .ok .non (S.set d (.dct (kvD (putW al w (addV (getW al w) r))))) := by
  rw [show rn (n + 3) f__law_add [.ref d, wordD w, nR r] S = endB (evSs G.sub (rn (n + 2)) d__law_add.body (startE d__law_add [.ref d, wordD w, nR r]) S) from run_ref rfl rfl rfl]
  have kw := nk_word w
  have g := get_kv al w
  have pk := fun r => put_kv al w r
  obtain ⟨l, hw⟩ : ∃ l, wordD w = .tup l := ⟨_, rfl⟩
  rw [hw] at kw g ⊢
  simp only [hw] at pk
  have ci : cmpO .in_ (.tup l) (.ref d) S = some (getW al w).isSome := by
    show cIn S (.tup l) (.ref d) = _
    unfold cIn
    simp only [hS]
    rw [if_pos kw, g, Option.isSome_map]
  have kl : (kvD al).length < 16777216 := by simp [kvD]; omega
  cases hg : getW al w with
  | none =>
    rw [hg] at ci
    simp [d__law_add, startE, ci, addV, hS, kw, line, kl, pk]
  | some q =>
    rw [hg] at ci g
    have ix : idxD (.ref d) (.tup l) S = .ok (nR q) S := by
      show (match S[d]? with
        | some (.dct kv) => if keyOk (.tup l) then R.of S (dctGet kv (.tup l)) else .no
        | _ => .no) = _
      rw [hS]
      simp only [kw, if_true, g, Option.map_some]; rfl
    have s1 : Sz 2000 10 q := (Dv.sz (by decide) (qb := 3) (by decide) (hq q hg)).up (by omega) (by omega)
    have s2 : Sz 2000 10 r := (hr.sz (by decide) (qb := 3) (by decide)).up (by omega) (by omega)
    have pl := law_plus_ok s1 s2 n S (by omega) (by omega)
    simp [d__law_add, startE, ci, addV, ix, pl, hS, kw, line, kl, pk]
/-! ### the form of a dict -/
def numW (al : List Tm) (w : List (List Nat)) : Rat := (getW al w).getD 0
def tsOf (al : List Tm) : List Tm := (((al.map (·.1)).mergeSort leW).filter fun w => decide ((numW al w).num ≠ 0)).map fun w => (w, numW al w)
theorem get_some_of {al : List Tm} {w : List (List Nat)} (h : w ∈ al.map (·.1)) : ∃ r, getW al w = some r := by
  cases e : getW al w with
  | none => exact absurd h (get_none e)
  | some r => exact ⟨r, rfl⟩
theorem idx_kv {al : List Tm} {w : List (List Nat)} {d : Nat} {S : Sto} (hS : S[d]? = some (.dct (kvD al))) (h : w ∈ al.map (·.1)) : idxD (.ref d) (wordD w) S = .ok (nR (numW al w)) S := by
  obtain ⟨r, hr⟩ := get_some_of h
  have g := get_kv al w
  have kw := nk_word w
  rw [hr] at g
  unfold numW
  rw [hr]
  obtain ⟨l, hw⟩ : ∃ l, wordD w = .tup l := ⟨_, rfl⟩
  rw [hw] at g kw ⊢
  show (match S[d]? with
    | some (.dct kv) => if keyOk (.tup l) then R.of S (dctGet kv (.tup l)) else .no
    | _ => .no) = _
  rw [hS]
  simp only [kw, if_true, g, Option.map_some]; rfl
theorem law_key_ok (n : Nat) (w : List (List Nat)) (S : Sto) : rn (n + 1) f__law_key [wordD w] S = .ok (keyD w) S :=
  run_ok (d := d__law_key) rfl rfl (by simp) (by simp [keyD]) (S1 := []) (by simp [d__law_key, startE, wl, line, keyD])
theorem law_form_of_ok (n d c : Nat) {al : List Tm} (S : Sto) (hS : S[d]? = some (.dct (kvD al))) (hl : al.length ≤ 60) (hc : ∀ w ∈ al.map (·.1), ∀ l ∈ w, l.length = c) : rn (n + 2) f__law_form_of [.int (c : Int), .ref d] S = .ok (fD c (tsOf al)) S := by
  rw [show rn (n + 2) f__law_form_of [.int (c : Int), .ref d] S = endB (evSs G.sub (rn (n + 1)) d__law_form_of.body (startE d__law_form_of [.int (c : Int), .ref d]) S) from run_ref rfl rfl rfl]
  have kl : (kvD al).length ≤ 16777216 := by simp [kvD]; omega
  have dl := (List.getElem?_eq_some_iff.mp hS).1
  have ks : (kvD al).map (·.1) = (al.map (·.1)).map wordD := by simp [kvD, Function.comp_def]
  obtain ⟨o1, o2⟩ := srt_keys hc (by simp; omega)
  have sd : (S.set d O.dead)[d]? = some .dead := List.getElem?_set_self dl
  have s2 : (S.set d O.dead).set d (.dct (kvD al)) = S := by
    rw [List.set_set]
    refine List.ext_getElem? fun i => ?_
    by_cases e : d = i
    · subst e; rw [List.getElem?_set_self dl, hS]
    · rw [List.getElem?_set_ne e]
  obtain ⟨ws, hws⟩ : ∃ ws, ws = (al.map (·.1)).mergeSort leW := ⟨_, rfl⟩
  have wl1 : ws.length ≤ 16777216 := by rw [hws]; simp; omega
  have wm : ∀ w ∈ ws, w ∈ al.map (·.1) := fun w hw => (List.mergeSort_perm _ _).mem_iff.mp (hws ▸ hw)
  simp only [d__law_form_of, startE]
  simp only [evSs_cons, evS_asg, evE_bic]
  have first : (evC G.sub (rn (n + 1)) (.dk [3] (.call f__law_key (.cons (.var 3) .nil)) (.nm 3) 1 none) [some (.int (c : Int)), some (.ref d), none, none, none] S) = .ok ((al.map (·.1)).map keyD) S := by
    rw [evC_dk]
    simp only [List.getElem?_cons_succ, List.getElem?_cons_zero, hS]
    rw [if_pos (show (kvD al).length ≤ line from kl), ks]
    have cm := comp_map (sub := G.sub) (c := rn (n + 1)) (own := [3]) (tg := .nm 3) (e := .call f__law_key (.cons (.var 3) .nil)) (ρ := [some (.int (c : Int)), some (.ref d), none, none, none]) (S := S.set d O.dead) wordD keyD (al.map (·.1)) fun w hw => ⟨[some (.int (c : Int)), some (.ref d), none, some (wordD w), none], rfl, by
      have := law_key_ok n w (S.set d O.dead)
      simp [this]⟩
    rw [cm]
    simp only [Eg.R.bind_ok, sd, if_true, s2]
  have bs : bil .sortedF ((al.map (·.1)).map keyD) S = .ok (.fl (ws.map keyD)) S := by
    show (if srtOk _ = true then R.ok (D.fl (srt _)) S else .no) = _
    rw [if_pos o1, o2, hws]
  simp [-List.map_map, first, bs, setE, evE_bic, evC_mk, isD0, srcD, line, wl1]
  generalize hG : compB _ _ _ _ _ _ _ _ _ _ _ = x
  have := comp_filt (g := keyD) (l := ws) hG (fun w => decide ((numW al w).num ≠ 0)) (fun w => teD (w, numW al w)) fun w hw => by
    have ix := idx_kv hS (wm w hw)
    refine ⟨[some (.int (c : Int)), some (.ref d), some (.fl (ws.map keyD)), some (wordD w), some (.int (w.length : Int))], rfl, ?_, fun _ => ?_⟩
    · by_cases z : (numW al w).num = 0
      · simp [evT, tru, ix, z]
      · simp [evT, tru, ix, z]
    · simp [ix, line, teD]
  subst this
  simp [line, fD, tsOf, hws, Function.comp_def, teD]
theorem tsOf_ok {c : Nat} (hc : 1 ≤ c ∧ c ≤ 3) {al : List Tm} (hl : al.length ≤ 60) (nd : (al.map (·.1)).Nodup) (hw : ∀ p ∈ al, DOk c p.1 ∧ Dv 6 3 100 p.2) : FOk c (tsOf al) ∧ (∀ p ∈ tsOf al, p ∈ al) ∧ (tsOf al).length ≤ al.length := by
  have perm := List.mergeSort_perm (al.map (·.1)) leW
  have mem : ∀ p ∈ tsOf al, p ∈ al := fun p hp => by
    obtain ⟨w, hw, rfl⟩ := List.mem_map.mp hp
    have hw := perm.mem_iff.mp (List.mem_filter.mp hw).1
    obtain ⟨r, hr⟩ := get_some_of hw
    have : numW al w = r := by unfold numW; rw [hr]; rfl
    rw [this]
    exact get_mem hr
  have len : (tsOf al).length ≤ al.length := by
    unfold tsOf
    rw [List.length_map]
    refine Nat.le_trans (List.length_filter_le ..) ?_
    simp
  refine ⟨⟨hc, by omega, fun p hp => (hw p (mem p hp)).1, fun p hp => ?_, fun p hp => (hw p (mem p hp)).2, ?_⟩, mem, len⟩
  · obtain ⟨w, hw, rfl⟩ := List.mem_map.mp hp
    have := (List.mem_filter.mp hw).2
    intro z
    simp only at z
    rw [z] at this
    simp at this
  · have s := sorted_words hc.1 (ws := al.map (·.1)) (fun w hw' => by
      obtain ⟨p, hp, rfl⟩ := List.mem_map.mp hw'
      exact (hw p hp).1.it) nd
    unfold tsOf
    rw [List.pairwise_map]
    exact s.filter _
end K12


namespace K12
open Eg
open Eg.Hd
/-! ### a drawn form -/
theorem Grow.setO {b d : Nat} {S0 S : Sto} (g : Grow b S0 S) (hd : S0.length ≤ d) (o : O) : Grow b S0 (S.set d o) :=
  ⟨by have := g.len; simp; omega, fun i hi hn => by rw [List.getElem?_set_ne (by omega)]; exact g.old i hi hn⟩
theorem Bx.setO {b d k : Nat} {S : Sto} (h : Bx S b k) (hd : d ≠ b) (o : O) : Bx (S.set d o) b k := by
  obtain ⟨a, g, m, c, h1, h2⟩ := h
  exact ⟨a, g, m, c, by rw [List.getElem?_set_ne hd]; exact h1, h2⟩
theorem addV_dv {al : List Tm} {w : List (List Nat)} {r : Rat} {a : Nat} (hr : Dv 6 1 a r) (hq : ∀ q, getW al w = some q → Dv 6 1 a q) : Dv 6 1 (a + 1) (addV (getW al w) r) := by
  cases e : getW al w with
  | none => exact hr.up (by decide) (by omega) (by omega)
  | some q => exact (hq q e).add (by decide) hr
theorem law_form_ok (n b k c size many : Nat) {kind : Int} (S : Sto) (h : Bx S b (k + 1200)) (hc : 1 ≤ c ∧ c ≤ 3) (hz : size ≤ 8) (hm : many ≤ 20) (hk : 0 ≤ kind ∧ kind ≤ 3) : ∃ (ts : List Tm) (S' : Sto), rn (n + 4) f__law_form [.ref b, .int (c : Int), .int (size : Int), .int (many : Int), .int kind] S = .ok (fD c ts) S' ∧
    FOk c ts ∧ ts.length ≤ many ∧ (∀ p ∈ ts, p.1.length ≤ size) ∧ Grow b S S' ∧ Bx S' b k := by
  rw [show rn (n + 4) f__law_form [.ref b, .int (c : Int), .int (size : Int), .int (many : Int), .int kind] S = endB (evSs G.sub (rn (n + 3)) d__law_form.body (startE d__law_form [.ref b, .int (c : Int), .int (size : Int), .int (many : Int), .int kind]) S) from run_ref rfl rfl rfl]
  have bl := h.lt
  obtain ⟨j, S1, (e1 : rn (n + 3) _ _ _ = _), j0, j1, g1, h1⟩ := take_ok (n + 2) b (k + 1199) ((many : Int) + 1) (S ++ [.dct []]) h.app (by omega) (by omega)
  obtain ⟨q, rfl⟩ : ∃ q : Nat, j = (q : Int) := ⟨j.toNat, by omega⟩
  have rg := rng_nat (n := q) (by omega)
  obtain ⟨R, hR⟩ : ∃ R, R = S.length := ⟨_, rfl⟩
  have hRb : R ≠ b := by omega
  have r1 : S1[R]? = some (.dct []) := g1.at_ (by rw [hR]; simp) hRb
  simp only [d__law_form, startE]
  simp [setE, evS_fr, line, e1, rg, ← hR]
  generalize hF : forB _ _ _ _ _ _ _ _ = qq
  obtain ⟨ρ', S', rfl, al, y6, rfl, q1, q2, q3, q4, q5, q6⟩ := for_rng hF (fun i ρ S' => ∃ (al : List Tm) (y6 : Option D), ρ = [some (.ref b), some (.int (c : Int)), some (.int (size : Int)), some (.int (many : Int)), some (.int kind), some (.ref R), y6] ∧ S'[R]? = some (.dct (kvD al)) ∧ al.length ≤ i ∧ (al.map (·.1)).Nodup ∧ (∀ p ∈ al, DOk c p.1 ∧ p.1.length ≤ size ∧ Dv 6 1 (3 + i) p.2) ∧ Grow b S S' ∧ Bx S' b (k + 1199 - 56 * i))
    ⟨[], none, rfl, r1, by simp, by simp, by simp, (Grow.app S _).trans g1, by simpa using h1⟩ (by
    rintro i ρ S0 hi ⟨al, y6, rfl, q1, q2, q3, q4, q5, q6⟩
    refine ⟨_, rfl, ?_⟩
    obtain ⟨w, S2, (e2 : rn (n + 3) _ _ _ = _), w1, w2, g2, h2⟩ := word_ok n b (k + 1199 - 56 * (i + 1) + 5) c size S0 (q6.less (by omega)) hc (by omega) hk
    obtain ⟨r, S3, (e3 : rn (n + 3) _ _ _ = _), z3, g3, h3⟩ := number_ok (n + 1) b (k + 1199 - 56 * (i + 1)) S2 (h2.less (by omega))
    have p3 : S3[R]? = some (.dct (kvD al)) := (g2.trans g3).at_ q1 hRb
    have gq : ∀ q, getW al w = some q → Dv 6 1 (3 + i) q := fun q hq => (q4 _ (get_mem hq)).2.2
    have zr : Dv 6 1 (3 + i) r := z3.2.up (by decide) (by omega) (by omega)
    have la := law_add_ok n R S3 p3 (by omega) zr gq (by omega)
    have gS : S.length ≤ R := by omega
    refine ⟨[some (.ref b), some (.int (c : Int)), some (.int (size : Int)), some (.int (many : Int)), some (.int kind), some (.ref R), some (.int (i : Int))], _, by simp [bindT, setE, e2, e3, la], putW al w (addV (getW al w) r), _, rfl, List.getElem?_set_self (List.getElem?_eq_some_iff.mp p3).1, Nat.le_trans (put_len ..) (by omega), put_nodup q3, fun p hp => ?_, ((q5.trans g2).trans g3).setO gS _, h3.setO hRb _⟩
    rcases put_mem hp with hp | rfl
    · obtain ⟨a1, a2, a3⟩ := q4 p hp
      exact ⟨a1, a2, a3.up (by decide) (by omega) (by omega)⟩
    · exact ⟨⟨by simp only; omega, fun l hl => (w2 l hl).1, fun l hl x hx => by
        have := le_sum hx; have := (w2 l hl).2; omega⟩, w1, addV_dv zr gq⟩)
  have fo := law_form_of_ok (n + 1) R c S' q1 (by omega) (fun w hw => by
    obtain ⟨p, hp, rfl⟩ := List.mem_map.mp hw
    exact (q4 p hp).1.it)
  obtain ⟨t1, t2, t3⟩ := tsOf_ok hc (by omega) q3 fun p hp => ⟨(q4 p hp).1, (q4 p hp).2.2.up (by decide) (by omega) (by omega)⟩
  exact ⟨tsOf al, S', by simp [fo], t1, by omega, (fun a r hp => (q4 (a, r) (t2 (a, r) hp)).2.1), q5, q6.less (by omega)⟩
end K12


namespace K12
open Eg
open Eg.Hd
/-! ### is_form of any value -/
theorem lift_all {α β : Type} {g : β → α} {P : β → Prop} : ∀ {l : List α}, (∀ x ∈ l, ∃ y, x = g y ∧ P y) → ∃ ys : List β, l = ys.map g ∧ ∀ y ∈ ys, P y
  | [], _ => ⟨[], rfl, by simp⟩
  | a :: l, h => by
    obtain ⟨y, rfl, hy⟩ := h a (by simp)
    obtain ⟨ys, rfl, hs⟩ := lift_all (l := l) fun x hx => h x (by simp [hx])
    exact ⟨y :: ys, rfl, by
      intro z hz
      rcases List.mem_cons.mp hz with rfl | hz
      · exact hy
      · exact hs z hz⟩
theorem word_of {c : Int} {d : D} (h : isWdD c d = true) : ∃ ws : List (List Nat), d = wordD ws ∧ ∀ l ∈ ws, (l.length : Int) = c := by
  cases d with
  | tup l =>
    simp only [isWdD, List.all_eq_true] at h
    obtain ⟨ws, rfl, hw⟩ := lift_all (g := leD) (P := fun le => (le.length : Int) = c) (l := l) fun x hx => by
      have h := h x hx
      cases x with
      | tup m =>
        simp only [isLetD, Bool.and_eq_true, decide_eq_true_eq, List.all_eq_true] at h
        obtain ⟨hl, h⟩ := h
        obtain ⟨le, rfl, _⟩ := lift_all (g := fun (k : Nat) => D.int (k : Int)) (P := fun _ => True) (l := m) fun y hy => by
          have h := h y hy
          cases y with
          | int i =>
            simp only [isCountD, decide_eq_true_eq] at h
            exact ⟨i.toNat, by congr 1; omega, trivial⟩
          | _ => simp [isCountD] at h
        exact ⟨le, rfl, by simpa using hl⟩
      | _ => simp [isLetD] at h
    exact ⟨ws, rfl, hw⟩
  | _ => simp [isWdD] at h
def isTmD (c : Int) (d : D) : Bool := match d with
  | .tup [w, x] => isWdD c w && (isNumD x && !decide (x = nR 0))
  | _ => false
theorem tm_of {c : Int} {d : D} (h : isTmD c d = true) : ∃ p : Tm, d = teD p ∧ ∀ l ∈ p.1, (l.length : Int) = c := by
  unfold isTmD at h
  split at h
  · simp only [Bool.and_eq_true] at h
    obtain ⟨h1, h2, _⟩ := h
    obtain ⟨ws, rfl, hw⟩ := word_of h1
    obtain ⟨r, rfl⟩ := isNumD_rat h2
    exact ⟨(ws, r), rfl, hw⟩
  · cases h
theorem num_ne (r : Rat) : (!decide (r.num = 0)) = !decide (nR r = nR 0) := by
  congr 1
  refine dec_iff ⟨fun h => ?_, fun h => ?_⟩
  · rw [show r = 0 from Rat.num_eq_zero.mp h]
  · rw [nR_inj h]; rfl
theorem two_not {d : D} (h : ¬ ∃ a b, d = .tup [a, b]) : isTupN d 2 = false := by
  cases d with
  | tup l =>
    simp only [isTupN, decide_eq_false_iff_not]
    intro hl
    have hl : l.length = 2 := by omega
    match l, hl with
    | [a, b], _ => exact h ⟨a, b, rfl⟩
  | _ => rfl
theorem Gd.two {S : Sto} {a b : D} (h : Gd S (.tup [a, b])) : plD 4 a = true ∧ plD 4 b = true ∧ D.smB a = true ∧ D.smB b = true := by
  rcases h with ⟨hp, hs⟩ | ⟨r, e, _⟩
  · exact ⟨plD_in hp a (by simp), plD_in hp b (by simp), smB_of hs a (by simp), smB_of hs b (by simp)⟩
  · cases e
theorem is_term_any (n : Nat) (c : Int) {d : D} {S : Sto} (h : Gd S d) : rn (n + 5) f_is_term [.int c, d] S = .ok (.bl (isTmD c d)) S := by
  have key : ∀ S, Gd S d → endB (evSs G.sub (rn (n + 4)) d_is_term.body (startE d_is_term [.int c, d]) S) = .ok (.bl (isTmD c d)) S := fun S h => by
    have t := is_tuple_any (n + 3) 2 h.wf
    by_cases two : ∃ a b, d = .tup [a, b]
    · obtain ⟨a, b, rfl⟩ := two
      obtain ⟨pa, pb, sa, sb⟩ := h.two
      have w := is_word_any n c (d := a) (S := S) (.inl ⟨plD_le pa (by omega), sa⟩)
      have m := is_number_any (n + 2) (S := S) (Wf.of (plD_free 4 b pb)) sb
      cases hw : isWdD c a with
      | false => simp [d_is_term, startE, t, isTupN, idxT0, idxT1, w, hw, isTmD]
      | true =>
        cases hm : isNumD b with
        | false => simp [d_is_term, startE, t, isTupN, idxT0, idxT1, w, hw, m, hm, isTmD]
        | true =>
          obtain ⟨r, rfl⟩ := isNumD_rat hm
          have q : cmpO .ne (.int r.num) (.int 0) S = some (!decide (r.num = 0)) := by simp
          have e := num_ne r
          simp [d_is_term, startE, t, isTupN, idxT0, idxT1, w, hw, m, hm, isTmD]
          simpa using e
    · have z := two_not two
      have : isTmD c d = false := by
        unfold isTmD; split
        · exact absurd ⟨_, _, rfl⟩ two
        · rfl
      simp [d_is_term, startE, t, z, this]
  exact run_two (d := d_is_term) rfl rfl rfl (fun _ => key S h) (fun hf => key [] (h.nil (by simpa using hf) []))
def keyT : D → D
  | .tup (.tup l :: _) => .tup [.int (l.length : Int), .tup l]
  | d => d
def ascD (l : List D) : Bool := (List.range (l.length - 1)).all fun k => ltT (keyT (l.getD k .non)) (keyT (l.getD (k + 1) .non))
def isFmD (d : D) : Bool := match d with
  | .tup [.int c, .tup l] => isChD (.int c) && (l.all (isTmD c) && ascD l)
  | _ => false
theorem keyT_te (p : Tm) : keyT (teD p) = keyD p.1 := by simp [keyT, teD, wordD, keyD]
theorem word_key_ok (n : Nat) (w : List (List Nat)) (S : Sto) : rn (n + 1) f_word_key [wordD w] S = .ok (keyD w) S :=
  run_ok (d := d_word_key) rfl rfl (by simp) (by simp [keyD]) (S1 := []) (by simp [d_word_key, startE, wl, line, keyD])
theorem lt_keys {c : Nat} {a b : List (List Nat)} (ha : ∀ l ∈ a, l.length = c) (hb : ∀ l ∈ b, l.length = c) (S : Sto) : cmpO .lt (keyD a) (keyD b) S = some (ltT (keyD a) (keyD b)) := by
  have p1 := plain_key [] a
  have p2 := plain_key [] b
  have q := al_key ha hb
  show ltD (keyD a) (keyD b) = _
  unfold keyD at *
  simp only [alD] at q
  simp only [ltD, ltT, q, p1, p2, Bool.and_self, if_true]
theorem asc_run (n : Nat) {c : Nat} {ts : List Tm} (hl : ts.length ≤ 1000) (hw : ∀ p ∈ ts, ∀ l ∈ p.1, l.length = c) {x y z : Option D} (S : Sto) :
    evE G.sub (rn n) (.bic .all (.mk [3] (.cmp .lt (.idx (.var 1) (.bin .sub (.var 3) (.lit (.int 1)))) (.idx (.var 1) (.var 3))) (.nm 3) (.rng2 (.lit (.int 1)) (.bi .len (.cons (.var 1) .nil))) none)) [x, some (.fl (ts.map fun p => keyD p.1)), y, z] S = .ok (.bl (ascD (ts.map teD))) S := by
  have ln : biD .len [.fl (ts.map fun p => keyD p.1)] S = .ok (.int ts.length) S := by simp [biD, bLen]
  have fin : evC G.sub (rn n) (.mk [3] (.cmp .lt (.idx (.var 1) (.bin .sub (.var 3) (.lit (.int 1)))) (.idx (.var 1) (.var 3))) (.nm 3) (.rng2 (.lit (.int 1)) (.bi .len (.cons (.var 1) .nil))) none) [x, some (.fl (ts.map fun p => keyD p.1)), y, z] S =
      .ok ((List.range (ts.length - 1)).map fun k => .bl (ltT (keyT ((ts.map teD).getD k .non)) (keyT ((ts.map teD).getD (k + 1) .non)))) S := by
    rw [evC_mk]
    have e1 : evI G.sub (rn n) (.rng2 (.lit (.int 1)) (.bi .len (.cons (.var 1) .nil))) [x, some (.fl (ts.map fun p => keyD p.1)), y, z] S = .ok ((List.range (ts.length - 1)).map fun (k : Nat) => D.int (((1 + k : Nat) : Int)), none) S := by
      by_cases h0 : ts.length = 0
      · simp [ln, h0]; rfl
      · have := rng2_nat (a := 1) (b := ts.length) (by omega) (by omega)
        rw [show ((1 : Nat) : Int) = 1 from rfl] at this
        simp [ln, this]
    rw [e1]
    simp only [R.bind_ok]
    rw [if_pos (by simp [line]; omega)]
    refine comp_map (fun (k : Nat) => D.int (((1 + k : Nat) : Int))) (fun k => .bl (ltT (keyT ((ts.map teD).getD k .non)) (keyT ((ts.map teD).getD (k + 1) .non)))) _ fun k hk => ?_
    have hk : k + 1 < ts.length := by have := List.mem_range.mp hk; omega
    have a1 : (ts.map teD).getD k .non = teD ts[k] := by simp [List.getD, show k < ts.length by omega]
    have a2 : (ts.map teD).getD (k + 1) .non = teD ts[k + 1] := by simp [List.getD, hk]
    have i1 := idx_fl (l := ts.map fun p => keyD p.1) (j := k) (x := keyD ts[k].1) (by simp [show k < ts.length by omega]) S
    have i2 := idx_fl (l := ts.map fun p => keyD p.1) (j := k + 1) (x := keyD ts[k + 1].1) (by simp [hk]) S
    have lk := lt_keys (hw _ (List.getElem_mem (show k < ts.length by omega))) (hw _ (List.getElem_mem hk)) S
    refine ⟨[x, some (.fl (ts.map fun p => keyD p.1)), y, some (.int ((1 + k : Nat) : Int))], rfl, ?_⟩
    rw [a1, a2, keyT_te, keyT_te]
    have e1 : ((1 + k : Nat) : Int) - 1 = (k : Int) := by omega
    have e2 : ((1 + k : Nat) : Int) = ((k + 1 : Nat) : Int) := by omega
    rw [← e2] at i2
    have sb : binD .sub (.int ((1 + k : Nat) : Int)) (.int 1) S = .ok (.int (k : Int)) S := by
      rw [← e1]; simp
    generalize ((1 + k : Nat) : Int) = q at *
    simp [sb, i1, i2, lk]
  rw [evE_bic, fin]
  simp only [R.bind_ok]
  have := bil_all (fun k => ltT (keyT ((ts.map teD).getD k .non)) (keyT ((ts.map teD).getD (k + 1) .non))) (List.range (ts.length - 1)) S
  unfold ascD
  rw [List.length_map]
  exact this
theorem is_form_any (n : Nat) {d : D} {S : Sto} (h : Gd S d) : rn (n + 6) f_is_form [d] S = .ok (.bl (isFmD d)) S := by
  have key : ∀ S, Gd S d → endB (evSs G.sub (rn (n + 5)) d_is_form.body (startE d_is_form [d]) S) = .ok (.bl (isFmD d)) S := fun S h => by
    have t := is_tuple_any (n + 4) 2 h.wf
    by_cases two : ∃ a b, d = .tup [a, b]
    · obtain ⟨a, b, rfl⟩ := two
      obtain ⟨pa, pb, sa, sb⟩ := h.two
      have c1 := is_channels_any (n + 2) (S := S) (Wf.of (plD_free _ a pa))
      obtain ⟨kb, k1, k2⟩ := isi_tuple (Wf.of (S := S) (plD_free _ b pb))
      cases hc : isChD a with
      | false =>
        have : isFmD (.tup [a, b]) = false := by
          unfold isFmD; split
          · rename_i x p e
            simp only [D.tup.injEq, List.cons.injEq, and_true] at e
            rw [← e.1, hc]; rfl
          · rfl
        simp [d_is_form, startE, t, isTupN, idxT0, c1, hc, this]
      | true =>
        cases hb : isTup b with
        | false =>
          have : isFmD (.tup [a, b]) = false := by
            cases b with
            | tup l => cases hb
            | _ => unfold isFmD; split <;> first | rfl | (rename_i e; simp at e)
          simp [d_is_form, startE, t, isTupN, idxT0, idxT1, c1, hc, k1, k2, hb, this]
        | true =>
          cases b with
          | tup l =>
            cases a with
            | int c =>
              have hlen := plD_len pb
              have cm := comp_id (sub := G.sub) (c := rn (n + 5)) (own := [2]) (tg := .nm 2) (e := .call f_is_term (.cons (.idx (.var 0) (.lit (.int 0))) (.cons (.var 2) .nil))) (ρ := [some (.tup [.int c, .tup l]), none, none, none]) (S := S) (fun x => .bl (isTmD c x)) l fun x hx => ⟨[some (.tup [.int c, .tup l]), none, some x, none], rfl, by
                have := is_term_any n c (d := x) (S := S) (.inl ⟨plD_le (plD_in pb x hx) (by omega), smB_of sb x hx⟩)
                simp [idxT0, this]⟩
              have hq : l.length ≤ 16777216 := by omega
              cases ht : l.all (isTmD c) with
              | false => simp [d_is_form, startE, t, isTupN, idxT0, idxT1, c1, hc, isK, evE_bic, evC_mk, isD0, srcD, line, hq, cm, bil_all, isFmD, ht]
              | true =>
                obtain ⟨c', rfl⟩ : ∃ c' : Nat, c = (c' : Int) := ⟨c.toNat, by simp [isChD, isBetD] at hc; omega⟩
                obtain ⟨ts, rfl, hw⟩ := lift_all (g := teD) (P := fun p => ∀ l ∈ p.1, l.length = c') (l := l) fun x hx => by
                  obtain ⟨p, e, h⟩ := tm_of (List.all_eq_true.mp ht x hx)
                  exact ⟨p, e, fun l hl => by have := h l hl; omega⟩
                have ck := comp_map (sub := G.sub) (c := rn (n + 5)) (own := [2]) (tg := .nm 2) (e := .call f_word_key (.cons (.idx (.var 2) (.lit (.int 0))) .nil)) (ρ := [some (.tup [.int (c' : Int), .tup (ts.map teD)]), none, none, none]) (S := S) teD (fun p => keyD p.1) ts fun p hp => ⟨[some (.tup [.int (c' : Int), .tup (ts.map teD)]), none, some (teD p), none], rfl, by
                  have := word_key_ok (n + 4) p.1 S
                  simp [teD, idxT0, this]⟩
                have hq2 : ts.length ≤ 16777216 := by simpa using hq
                have ar := asc_run (n + 5) (c := c') (ts := ts) (by simpa using hlen) hw (x := some (.tup [.int (c' : Int), .tup (ts.map teD)])) (y := none) (z := none) S
                have ba := bil_all (isTmD (c' : Int)) (ts.map teD) S
                rw [ht] at ba
                have h1 : evE G.sub (rn (n + 5)) (.bic .all (.mk [2] (.call f_is_term (.cons (.idx (.var 0) (.lit (.int 0))) (.cons (.var 2) .nil))) (.nm 2) (.val (.idx (.var 0) (.lit (.int 1)))) none)) [some (.tup [.int (c' : Int), .tup (ts.map teD)]), none, none, none] S = .ok (.bl true) S := by
                  rw [evE_bic, evC_mk]
                  simp [-List.map_map, idxT1, srcD, line, hq2, cm]
                  simpa using ba
                have h2 : evE G.sub (rn (n + 5)) (.compF (.mk [2] (.call f_word_key (.cons (.idx (.var 2) (.lit (.int 0))) .nil)) (.nm 2) (.val (.idx (.var 0) (.lit (.int 1)))) none)) [some (.tup [.int (c' : Int), .tup (ts.map teD)]), none, none, none] S = .ok (.fl (ts.map fun p => keyD p.1)) S := by
                  rw [evE_compF, evC_mk]
                  simp [-List.map_map, idxT1, srcD, line, hq2, ck]
                simp only [d_is_form, startE]
                simp [-List.map_map, t, isTupN, idxT0, idxT1, c1, hc, isK, h1, h2, setE, ar, isFmD, ht]
            | _ => simp [isChD, isBetD] at hc
          | _ => cases hb
    · have z := two_not two
      have : isFmD d = false := by
        unfold isFmD; split
        · exact absurd ⟨_, _, rfl⟩ two
        · rfl
      simp [d_is_form, startE, t, z, this]
  exact run_two (d := d_is_form) rfl rfl rfl (fun _ => key S h) (fun hf => key [] (h.nil (by simpa using hf) []))
end K12


namespace K12
open Eg
open Eg.Hd
/-! ### good forms -/
section
variable {c : Nat} {ts : List Tm} (h : FOk c ts)
include h
theorem FOk.ps : Ps 5 (fD c ts) := by
  refine Ps.tup (by simp) fun x hx => ?_
  simp only [List.mem_cons, List.not_mem_nil, or_false] at hx
  rcases hx with rfl | rfl
  · exact Ps.int h.c1.2
  · refine Ps.tup (by have := h.len; simp; omega) fun y hy => ?_
    obtain ⟨p, hp, rfl⟩ := List.mem_map.mp hy
    refine Ps.tup (by simp) fun z hz => ?_
    simp only [List.mem_cons, List.not_mem_nil, or_false] at hz
    rcases hz with rfl | rfl
    · exact (h.w p hp).ps h.c1.2
    · exact ps_nR ((h.dv p hp).sz (by decide) (qb := 3) (by decide)) (by omega) (by omega)
theorem FOk.is : isFmD (fD c ts) = true := by
  have hc : isChD (.int (c : Int)) = true := by
    have := h.c1
    simp [isChD, isBetD]; omega
  simp only [isFmD, fD, hc, Bool.true_and, Bool.and_eq_true, List.all_eq_true]
  refine ⟨fun x hx => ?_, ?_⟩
  · obtain ⟨p, hp, rfl⟩ := List.mem_map.mp hx
    have e : nR p.2 ≠ nR 0 := fun z => h.nz p hp (nR_inj z)
    simp [isTmD, teD, (h.w p hp).is, isNumD_nR, e]
  · simp only [ascD, List.all_eq_true, List.mem_range, List.length_map]
    intro k hk
    have a1 : (ts.map teD).getD k .non = teD ts[k] := by simp [List.getD, show k < ts.length by omega]
    have a2 : (ts.map teD).getD (k + 1) .non = teD ts[k + 1] := by simp [List.getD, show k + 1 < ts.length by omega]
    rw [a1, a2, keyT_te, keyT_te, lt_key (h.w _ (List.getElem_mem (by omega))).it (h.w _ (List.getElem_mem (by omega))).it]
    exact decide_eq_true (List.pairwise_iff_getElem.mp h.srt k (k + 1) (by omega) (by omega) (by omega))
theorem check_form_ok (n : Nat) (S : Sto) : rn (n + 7) f_check_form [fD c ts] S = .ok .non S :=
  run_ok (d := d_check_form) rfl rfl (by simp) rfl (S1 := []) (by
    have := is_form_any n (d := fD c ts) (S := []) (.inl h.ps)
    rw [h.is] at this
    simp [d_check_form, startE, this])
end
abbrev xF (v : D) : Ex := ⟨c_InvalidForm, [(GIV, v)]⟩
theorem check_form_x {W : Nat → Prop} {S : Sto} {v : D} (n : Nat) (h : Kv W v) (hw : isFmD v = false) (a : At W S v) : rn (n + 7) f_check_form [v] S = .ex (xF v) S :=
  run_genx (d := d_check_form) rfl rfl (fun hf => by simpa [fsFree] using hf)
    (fun _ => by have := is_form_any n (h.gd a); simp [d_check_form, startE, this, hw])
    (fun hf => by have := is_form_any n (h.gd (S := []) (.inr (by simpa using hf))); simp [d_check_form, startE, this, hw])
/-! ### what a form tells -/
def tv (ss : List (List Rat)) (ts : List Tm) : Rat := ts.foldl (fun t p => t + p.2 * nv ss p.1 ss.length p.1.length) 0
theorem tv_take (ss : List (List Rat)) {ts : List Tm} {i : Nat} {p : Tm} (h : ts[i]? = some p) : tv ss (ts.take (i + 1)) = tv ss (ts.take i) + p.2 * nv ss p.1 ss.length p.1.length := by
  rw [List.take_succ, h]; simp [tv]
section
variable {c : Nat} {ts : List Tm} {ss : List (List Rat)} (h : FOk c ts) (hs : WOk c ss)
include h hs
theorem tm_dv {p : Tm} (hp : p ∈ ts) : Dv 6 1299 14632 (p.2 * nv ss p.1 ss.length p.1.length) := by
  have w := h.w p hp
  have := w.len; have := hs.len
  exact ((h.dv p hp).mul (by decide) (nv_dv hs w ss.length p.1.length (by omega) (by omega))).up (by decide) (by omega) (by omega)
theorem tv_dv : ∀ i, i ≤ ts.length → Dv 6 1299 (14632 + i) (tv ss (ts.take i))
  | 0, _ => by simp [tv]; exact Dv.zero
  | i + 1, hi => by
    have hx := List.getElem?_eq_getElem (show i < ts.length by omega)
    rw [tv_take ss hx]
    exact ((tv_dv i (by omega)).add (by decide) ((tm_dv h hs (List.getElem_mem (by omega))).up (by decide) (by omega) (by omega))).up (by decide) (by omega) (by omega)
theorem tv_sz {i : Nat} (hi : i ≤ ts.length) : Sz 20000 3910 (tv ss (ts.take i)) := by
  have := h.len
  exact big_sz (tv_dv h hs i hi) (by omega) (by omega)
theorem law_told_ok (n : Nat) (few : ∀ p ∈ ts, Few2 ss.length p.1.length) (S : Sto) : rn (n + 4) f__law_told [fD c ts, .tup (ss.map stD)] S = .ok (nR (tv ss ts)) S := by
  refine run_okS (d := d__law_told) rfl rfl (by simp [freeL_map]) (by simp) ?_
  have hl := h.len
  have hq : ts.length ≤ 16777216 := by omega
  have ix : idxD (fD c ts) (.int 1) [] = .ok (.tup (ts.map teD)) [] := idxT1 ..
  simp only [d__law_told, startE]
  simp [line, setE, evS_fr, srcD, ix]
  generalize hF : forB _ _ _ _ _ _ _ _ = qq
  obtain ⟨ρ', S', rfl, y, z, rfl, rfl⟩ := for_idx hF (fun i ρ S => ∃ y z, ρ = [some (fD c ts), some (.tup (ss.map stD)), some (nR (tv ss (ts.take i))), y, z] ∧ S = []) ⟨none, none, by simp [tv, nR_zero], rfl⟩ (by
    rintro i p ρ S hp ⟨y, z, rfl, rfl⟩
    have hm := List.mem_of_getElem? hp
    have hi := (List.getElem?_eq_some_iff.mp hp).1
    have w := h.w p hm
    have ne := law_nested_gen n hs w (few p hm) []
    have tm := law_times_ok ((h.dv p hm).sz (by decide) (qb := 3) (by decide)) (nv_sz hs w (Nat.le_refl _) (Nat.le_refl _)) (n + 1) [] (by omega) (by omega) (by omega)
    have ps := law_plus_ok (tv_sz h hs (i := i) (by omega)) (big_sz (tm_dv h hs hm) (by omega) (by omega)) (n + 1) [] (by omega) (by omega)
    rw [← tv_take ss hp] at ps
    exact ⟨[some (fD c ts), some (.tup (ss.map stD)), some (nR (tv ss (ts.take i))), some (wordD p.1), some (nR p.2)], by simp [teD, bindT, bindTs, setE], [some (fD c ts), some (.tup (ss.map stD)), some (nR (tv ss (ts.take (i + 1)))), some (wordD p.1), some (nR p.2)], [], by simp [ne, tm, ps, setE], _, _, rfl, rfl⟩)
  rw [List.take_length]
  simp
theorem told_of_ok (n : Nat) (S : Sto) : rn (n + 7) f_told_of [fD c ts, .tup (ss.map stD)] S = .ok (nR (tv ss ts)) S := by
  refine run_okS (d := d_told_of) rfl rfl (by simp [freeL_map]) (by simp) ?_
  have hl := h.len
  have hq : ts.length ≤ 16777216 := by omega
  have ix : idxD (fD c ts) (.int 1) [] = .ok (.tup (ts.map teD)) [] := idxT1 ..
  simp only [d_told_of, startE]
  simp [line, setE, evS_fr, srcD, ix]
  generalize hF : forB _ _ _ _ _ _ _ _ = qq
  obtain ⟨ρ', S', rfl, y, z, rfl, rfl⟩ := for_idx hF (fun i ρ S => ∃ y z, ρ = [some (fD c ts), some (.tup (ss.map stD)), some (nR (tv ss (ts.take i))), y, z] ∧ S = []) ⟨none, none, by simp [tv, nR_zero], rfl⟩ (by
    rintro i p ρ S hp ⟨y, z, rfl, rfl⟩
    have hm := List.mem_of_getElem? hp
    have hi := (List.getElem?_eq_some_iff.mp hp).1
    have w := h.w p hm
    have ne := sum_on_ok hs w n []
    have tm := product_of_ok ((h.dv p hm).sz (by decide) (qb := 3) (by decide)) (nv_sz hs w (Nat.le_refl _) (Nat.le_refl _)) (n + 3) [] (by omega) (by omega) (by omega)
    have ps := sum_of_ok (tv_sz h hs (i := i) (by omega)) (big_sz (tm_dv h hs hm) (by omega) (by omega)) (n + 3) [] (by omega) (by omega)
    rw [← tv_take ss hp] at ps
    exact ⟨[some (fD c ts), some (.tup (ss.map stD)), some (nR (tv ss (ts.take i))), some (wordD p.1), some (nR p.2)], by simp [teD, bindT, bindTs, setE], [some (fD c ts), some (.tup (ss.map stD)), some (nR (tv ss (ts.take (i + 1)))), some (wordD p.1), some (nR p.2)], [], by simp [ne, tm, ps, setE], _, _, rfl, rfl⟩)
  rw [List.take_length]
  simp
end
end K12


namespace K12
open Eg
open Eg.Hd
/-! ### wrong values: plain, or lists of the store -/
def zc (c : Nat) : D := .tup (List.replicate c (.int 0))
def n11 : D := .tup [.int 1, .int 1]
def cwt (c : Nat) (l : List D) : D := .tup [.int (c : Int), .tup l]
def nofl : D → Bool
  | .fl _ => false
  | _ => true
def isRef : D → Bool
  | .ref 0 => true
  | .ref 1 => true
  | _ => false
structure Bad (m : Nat) (S : Sto) (P : D → Bool) (v : D) : Prop where
  no : P v = false
  sh : (Ps 5 v ∧ ∀ l, v ≠ .fl l) ∨ ∃ r l, v = .ref r ∧ m ≤ r ∧ S[r]? = some (.lst l) ∧ l.length ≤ 10 ∧ ∀ x ∈ l, plD 5 x = true
section
variable {m b : Nat} {S S' : Sto} {P : D → Bool} {v : D}
theorem Bad.grow (h : Bad m S P v) (g : Grow b S S') (hb : b < m) : Bad m S' P v :=
  ⟨h.no, h.sh.imp id fun ⟨r, l, h1, h2, h3, h4⟩ => ⟨r, l, h1, h2, g.at_ h3 (by omega), h4⟩⟩
theorem Bad.kv (h : Bad m S P v) : Kv (fun r => v = .ref r) v := by
  rcases h.sh with ⟨h1, h2⟩ | ⟨r, l, rfl, _⟩
  · exact .inl ⟨h1.1, h1.2, h2⟩
  · exact .inr ⟨r, rfl, rfl⟩
theorem Bad.at (h : Bad m S P v) : At (fun r => v = .ref r) S v := .inl fun r hr => by
  rcases h.sh with ⟨h1, _⟩ | ⟨r', l, rfl, _, h3, _⟩
  · rw [hr] at h1; cases h1.1
  · cases hr; exact kind_lst h3
theorem blamed_bad (h : Bad m S P v) (hb : b < m) : ∃ S', rn 21 f__law_blamed [v, v] S = .ok (.bl true) S' ∧ (∀ S0 : Sto, S0.length = m → Grow b S0 S → Grow b S0 S') ∧ ∀ k, Bx S b k → Bx S' b k := by
  rcases h.sh with ⟨h1, h2⟩ | ⟨r, l, rfl, h2, hl, l1, l2⟩
  · obtain ⟨kd, k1, k2⟩ := pl_nolist h1.1 h2 []
    have fv := plD_free 5 v h1.1
    have s : rn 20 f__law_same [v, v] [] = .ok (.bl true) [] := same_pl 5 h1.1 14 []
    exact ⟨S, run_ok (d := d__law_blamed) rfl rfl (by simp [fv]) rfl (S1 := []) (by simp [d__law_blamed, startE, s, k1, k2]), fun _ _ h => h, fun _ h => h⟩
  · have lo := lstOf_of hl
    have s : ∀ S l, S[r]? = some (O.lst l) → l.length ≤ 1000 → (∀ x ∈ l, plD 5 x = true) → rn 20 f__law_same [.ref r, .ref r] S = .ok (.bl true) S := fun S l h1 h2 h3 => same_refs 5 13 r r l S h1 h1 h2 h3
    have s1 := s S l hl (by omega) l2
    have hlt := (List.getElem?_eq_some_iff.mp hl).1
    have s2 := s (S.set r (.lst (l ++ [.int 7]))) (l ++ [.int 7]) (List.getElem?_set_self hlt) (by simp; omega) (fun x hx => by
      rcases List.mem_append.mp hx with hx | hx
      · exact l2 x hx
      · rw [List.mem_singleton.mp hx]; rfl)
    have ap := fun v => app_ok (v := v) hl (by omega)
    refine ⟨S.set r (.lst (l ++ [.int 7])), ?_, fun S0 e g => g.setO (by omega) _, fun k hx => hx.setO (by omega) _⟩
    rw [show rn 21 f__law_blamed [.ref r, .ref r] S = endB (evSs G.sub (rn 20) d__law_blamed.body (startE d__law_blamed [.ref r, .ref r]) S) from run_ref rfl rfl rfl]
    simp [d__law_blamed, startE, s1, kind_lst hl, isK, lo, ap, s2]
end
theorem shift_mem {c m : Nat} {S : Sto} {P : D → Bool} {L : List D} (hP : ∀ r, P (.ref r) = false) (h : (L.all fun v => !P v && (isRef v || (plD 5 v && D.smB v && nofl v))) = true) (hm : m ≤ S.length) : ∀ x ∈ L.map (D.shift S.length), Bad m (S ++ [.lst [], .lst [.int (c : Int), .tup []]]) P x := fun x hx => by
  obtain ⟨v, hv, rfl⟩ := List.mem_map.mp hx
  have h := List.all_eq_true.mp h v hv
  simp only [Bool.and_eq_true, Bool.or_eq_true, Bool.not_eq_true'] at h
  obtain ⟨h1, h2⟩ := h
  rcases h2 with h2 | ⟨⟨h2, h3⟩, h4⟩
  · unfold isRef at h2
    split at h2
    · exact ⟨hP _, .inr ⟨S.length + 0, [], by simp [D.shift], by omega, by simp, by simp, by simp⟩⟩
    · refine ⟨hP _, .inr ⟨S.length + 1, [.int (c : Int), .tup []], by simp [D.shift], by omega, by simp, by simp, fun x hx => ?_⟩⟩
      simp only [List.mem_cons, List.not_mem_nil, or_false] at hx
      rcases hx with rfl | rfl <;> rfl
    · cases h2
  · have e := shift_free S.length v (plD_free 5 v h2)
    rw [e]
    exact ⟨h1, .inl ⟨⟨h2, h3⟩, fun l e => by rw [e] at h4; cases h4⟩⟩
theorem same_told (m : Nat) (S : Sto) {r : Nat} {l : List D} (hr : S[r]? = some (.lst l)) (hl : l.length ≤ 1000) (h : ∀ x ∈ l, plD 3 x = true) : rn (m + 6) f__law_same [.fl [.str TOLD, .ref r], .fl [.str TOLD, .fl l]] S = .ok (.bl true) S := by
  rw [show rn (m + 6) f__law_same [.fl [.str TOLD, .ref r], .fl [.str TOLD, .fl l]] S = endB (evSs G.sub (rn (m + 5)) d__law_same.body (startE d__law_same [.fl [.str TOLD, .ref r], .fl [.str TOLD, .fl l]]) S) from run_ref rfl rfl rfl]
  have hc : evC G.sub (rn (m + 5)) sameC [some (.fl [.str TOLD, .ref r]), some (.fl [.str TOLD, .fl l]), none, none] S = .ok [] S := by
    rw [evC_mk]
    have e1 : evI G.sub (rn (m + 5)) (.rng1 (.bi .len (.cons (.var 1) .nil))) [some (.fl [.str TOLD, .ref r]), some (.fl [.str TOLD, .fl l]), none, none] S = .ok ((List.range 2).map fun (k : Nat) => D.int (k : Int), none) S := by
      have rg : rngD 0 2 = some ((List.range 2).map fun (k : Nat) => D.int (k : Int), none) := rng_nat (n := 2) (by omega)
      simp [biD, bLen, rg]
    rw [e1]
    simp only [R.bind_ok]
    rw [if_pos (by simp [line])]
    refine comp_none rfl fun x hx => ?_
    obtain ⟨j, hj, rfl⟩ := rng_mem hx
    refine ⟨[some (.fl [.str TOLD, .ref r]), some (.fl [.str TOLD, .fl l]), none, some (.int j)], rfl, ?_⟩
    rcases (show j = 0 ∨ j = 1 by omega) with rfl | rfl
    · have s : rn (m + 5) f__law_same [.str TOLD, .str TOLD] S = .ok (.bl true) S := same_pl 0 rfl (m + 4) S
      simp [idxF0, s]
    · have s : rn (m + 5) f__law_same [.ref r, .fl l] S = .ok (.bl true) S := same_rf 3 m r l S hr hl h
      simp [idxF1, s]
  unfold sameC at hc
  simp [d__law_same, startE, cmpO, cIs, isK, eqD, biD, bLen, evE_nilc, hc]
end K12


namespace K12
open Eg
open Eg.Hd
/-! ### the cuts of a form -/
abbrev Cu := List (List Nat) × List (List Nat) × Rat
def cuD (q : Cu) : D := .tup [wordD q.1, wordD q.2.1, nR q.2.2]
def cutW (p : Tm) : List Cu := (List.range (p.1.length + 1)).map fun k => (p.1.take k, p.1.drop k, p.2)
def cutF (ts : List Tm) : List Cu := ts.flatMap cutW
def cutS (ts : List Tm) : List Cu := (cutF ts).mergeSort fun a b => leT (cuD a) (cuD b)
@[simp] theorem free_cuD (q : Cu) : D.free (cuD q) = true := by simp [cuD]
theorem num_word (w : List (List Nat)) : numD 2 (wordD w) = true := by
  simp only [numD, wordD, List.all_map, List.all_eq_true]
  intro l _
  simp only [Function.comp, numD, leD, List.all_map, List.all_eq_true]
  intro x _; trivial
theorem num_cu (q : Cu) : numD 3 (cuD q) = true := by
  have h1 := num_word q.1
  have h2 := num_word q.2.1
  have h3 := numD_nR 1 q.2.2
  show ([wordD q.1, wordD q.2.1, nR q.2.2].all (numD 2)) = true
  simp only [List.all_cons, List.all_nil, h1, h2, h3, Bool.and_self]
theorem al_cu {c : Nat} {a b : Cu} (a1 : ∀ l ∈ a.1, l.length = c) (a2 : ∀ l ∈ a.2.1, l.length = c) (b1 : ∀ l ∈ b.1, l.length = c) (b2 : ∀ l ∈ b.2.1, l.length = c) : alD (cuD a) (cuD b) = true := by
  simp only [cuD, alD, alL, wordD, nR, al_letters a1 b1, al_letters a2 b2, Bool.and_self]
section
variable {c : Nat} {ts : List Tm} (h : FOk c ts)
include h
theorem cut_mem_ok {q : Cu} (hq : q ∈ cutF ts) : ∃ p ∈ ts, ∃ k, k ≤ p.1.length ∧ q = (p.1.take k, p.1.drop k, p.2) := by
  obtain ⟨p, hp, hq⟩ := List.mem_flatMap.mp hq
  obtain ⟨k, hk, rfl⟩ := List.mem_map.mp hq
  exact ⟨p, hp, k, by have := List.mem_range.mp hk; omega, rfl⟩
theorem cutF_len : (cutF ts).length ≤ 540 := by
  have key : ∀ l : List Tm, (∀ p ∈ l, p.1.length ≤ 8) → (cutF l).length ≤ 9 * l.length := fun l => by
    induction l with
    | nil => intro _; simp [cutF]
    | cons p l ih =>
      intro hl
      have := ih fun q hq => hl q (by simp [hq])
      have := hl p (by simp)
      simp only [cutF, List.flatMap_cons, List.length_append, List.length_cons, cutW, List.length_map, List.length_range] at *
      omega
  have := key ts fun p hp => (h.w p hp).len
  have := h.len
  omega
theorem cut_srt : srtOk ((cutF ts).map cuD) = true ∧ srt ((cutF ts).map cuD) = (cutS ts).map cuD := by
  have hl := cutF_len h
  refine ⟨?_, ?_⟩
  · unfold srtOk
    have h1 : ((cutF ts).map cuD).all (plain 40 []) = true := by
      simp only [List.all_map, List.all_eq_true]
      exact fun q _ => numD_plain [] 3 40 _ (num_cu q) (by omega)
    have h2 : (((cutF ts).map cuD).all fun a => ((cutF ts).map cuD).all (alD a)) = true := by
      simp only [List.all_map, List.all_eq_true, Function.comp]
      intro a ha b hb
      obtain ⟨p, hp, k, _, rfl⟩ := cut_mem_ok h ha
      obtain ⟨q, hq, j, _, rfl⟩ := cut_mem_ok h hb
      have wp := (h.w p hp).it
      have wq := (h.w q hq).it
      exact al_cu (fun l hl => wp l (List.mem_of_mem_take hl)) (fun l hl => wp l (List.mem_of_mem_drop hl)) (fun l hl => wq l (List.mem_of_mem_take hl)) (fun l hl => wq l (List.mem_of_mem_drop hl))
    have h3 : ((cutF ts).map cuD).all neTup = true := by
      simp only [List.all_map, List.all_eq_true]
      exact fun q _ => rfl
    rw [h1, h2, h3]
    simp [line]; omega
  · unfold srt cutS
    refine (List.map_mergeSort fun a ha b hb => ?_).symm
    rfl
end
theorem cutF_take {ts : List Tm} {i : Nat} {p : Tm} (h : ts[i]? = some p) : cutF (ts.take (i + 1)) = cutF (ts.take i) ++ cutW p := by
  rw [List.take_succ, h]; simp [cutF]
theorem cut_take0 {α : Type} (l : List α) (k : Nat) : cut l none (some (k : Int)) = l.take k := cut_take l k
/-- the pieces of one word -/
theorem pieces_ok (n : Nat) {p : Tm} (h8 : p.1.length ≤ 8) {x y : Option D} (S : Sto) {z : Option D} : evE G.sub (rn n) (.compF (.mk [4] (.tup (.cons (.slc (.var 2) none (some (.var 4))) (.cons (.slc (.var 2) (some (.var 4)) none) (.cons (.var 3) .nil)))) (.nm 4) (.rng1 (.bin .add (.bi .len (.cons (.var 2) .nil)) (.lit (.int 1)))) none)) [x, y, some (wordD p.1), some (nR p.2), z] S = .ok (.fl ((cutW p).map cuD)) S := by
  have rg := rng_nat (n := p.1.length + 1) (by omega)
  have hq : p.1.length + 1 ≤ 16777216 := by omega
  rw [Int.natCast_add, Int.natCast_one] at rg
  rw [evE_compF, evC_mk]
  simp [wl, rg, line, hq]
  have cm := comp_map (sub := G.sub) (c := rn n) (own := [4]) (tg := .nm 4) (e := .tup (.cons (.slc (.var 2) none (some (.var 4))) (.cons (.slc (.var 2) (some (.var 4)) none) (.cons (.var 3) .nil)))) (ρ := [x, y, some (wordD p.1), some (nR p.2), z]) (S := S) (fun (k : Nat) => D.int (k : Int)) (fun k => cuD (p.1.take k, p.1.drop k, p.2)) (List.range (p.1.length + 1)) fun k hk => ⟨[x, y, some (wordD p.1), some (nR p.2), some (.int (k : Int))], rfl, by
    have hk : k ≤ p.1.length := by have := List.mem_range.mp hk; omega
    have s1 : slcD (wordD p.1) none (some (k : Int)) S = .ok (wordD (p.1.take k)) S := by
      show R.ok (D.tup (cut (p.1.map leD) _ _)) S = _
      rw [cut_take, ← List.map_take]; rfl
    have s2 : slcD (wordD p.1) (some (k : Int)) none S = .ok (wordD (p.1.drop k)) S := by
      show R.ok (D.tup (cut (p.1.map leD) _ _)) S = _
      rw [cut_drop _ _ (by simpa using hk), ← List.map_drop]; rfl
    simp [s1, s2, line, cuD]⟩
  simp [cm, cutW, Function.comp_def]
section
variable {c : Nat} {ts : List Tm} (h : FOk c ts)
include h
def cL : Sm := (.fr (.tp [(.nm 2), (.nm 3)]) (.val (.idx (.var 0) (.lit (.int 1)))) (.cons (.expr (.me .extend (.var 1) (.cons (.compF (.mk [4] (.tup (.cons (.slc (.var 2) none (some (.var 4))) (.cons (.slc (.var 2) (some (.var 4)) none) (.cons (.var 3) .nil)))) (.nm 4) (.rng1 (.bin .add (.bi .len (.cons (.var 2) .nil)) (.lit (.int 1)))) none)) .nil))) .nil))
theorem cuts_loop (n : Nat) : ∃ y z u, evS G.sub (rn n) cL [some (fD c ts), some (.ref 0), none, none, none] [.lst []] = .nx [some (fD c ts), some (.ref 0), y, z, u] [.lst ((cutF ts).map cuD)] := by
  have hl := h.len
  have hq : ts.length ≤ 16777216 := by omega
  have ix : ∀ S, idxD (fD c ts) (.int 1) S = .ok (.tup (ts.map teD)) S := fun S => idxT1 ..
  generalize hE : evS _ _ _ _ _ = r
  simp [cL, evS_fr, ix, srcD, line, hq] at hE
  subst hE
  generalize hF : forB _ _ _ _ _ _ _ _ = q
  obtain ⟨ρ', S', rfl, y, z, u, rfl, rfl⟩ := for_idx hF (fun i ρ S => ∃ y z u, ρ = [some (fD c ts), some (.ref 0), y, z, u] ∧ S = [.lst ((cutF (ts.take i)).map cuD)]) ⟨none, none, none, rfl, by simp [cutF]⟩ (by
    rintro i p ρ S hp ⟨y, z, u, rfl, rfl⟩
    have hm := List.mem_of_getElem? hp
    have h8 := (h.w p hm).len
    have pc := pieces_ok n h8 (x := some (fD c ts)) (y := some (.ref 0)) (z := u) [.lst ((cutF (ts.take i)).map cuD)]
    have l1 : (cutF (ts.take i)).length + (cutW p).length ≤ 16777216 := by
      have := cutF_len h
      have e := cutF_take hp
      have t : (cutF (ts.take (i + 1))).length ≤ (cutF ts).length := by
        have : cutF ts = cutF (ts.take (i + 1)) ++ cutF (ts.drop (i + 1)) := by
          unfold cutF
          rw [← List.flatMap_append, List.take_append_drop]
        rw [this, List.length_append]; omega
      rw [e, List.length_append] at t
      omega
    refine ⟨[some (fD c ts), some (.ref 0), some (wordD p.1), some (nR p.2), u], by simp [teD, bindT, bindTs, setE], [some (fD c ts), some (.ref 0), some (wordD p.1), some (nR p.2), u], [.lst ((cutF (ts.take (i + 1))).map cuD)], ?_, _, _, _, rfl, rfl⟩
    rw [cutF_take hp]
    simp [pc, meD, meL, mutD, lstOf, seqD, l1, line])
  rw [List.take_length]
  exact ⟨y, z, u, rfl⟩
theorem cutS_free : D.freeL ((cutS ts).map cuD) = true := by simp [freeL_map]
theorem cuts_run (n : Nat) : endB (evSs G.sub (rn n) d_cuts_of.body (startE d_cuts_of [fD c ts]) []) = .ok (.ref 1) [.lst ((cutF ts).map cuD), .lst ((cutS ts).map cuD)] := by
  obtain ⟨y, z, u, lp⟩ := cuts_loop h n
  obtain ⟨o1, o2⟩ := cut_srt h
  rw [show endB (evSs G.sub (rn n) d_cuts_of.body (startE d_cuts_of [fD c ts]) []) = endB (evSs G.sub (rn n) (.cons (.asg 1 (.lst .nil)) (.cons cL (.cons (.ret (.bi .sorted (.cons (.var 1) .nil))) .nil))) [some (fD c ts), none, none, none, none] []) from rfl]
  have bs : biD .sorted [.ref 0] [.lst ((cutF ts).map cuD)] = .ok (.ref 1) [.lst ((cutF ts).map cuD), .lst ((cutS ts).map cuD)] := by
    simp [-List.map_map, biD, bOf, bOfT, mutD, lstOf, seqD, bil, o1, o2]
  simp [setE, line]
  rw [lp]
  simp [bs]
theorem law_due_ok (n : Nat) (S : Sto) : rn (n + 1) f__law_due [fD c ts] S = .ok (.fl ((cutS ts).map cuD)) S := by
  obtain ⟨y, z, u, lp⟩ := cuts_loop h n
  obtain ⟨o1, o2⟩ := cut_srt h
  refine run_ok (d := d__law_due) rfl rfl (by simp) (by simpa using cutS_free h) (S1 := [.lst ((cutF ts).map cuD)]) ?_
  rw [show endB (evSs G.sub (rn n) d__law_due.body (startE d__law_due [fD c ts]) []) = endB (evSs G.sub (rn n) (.cons (.asg 1 (.lst .nil)) (.cons cL (.cons (.ret (.bi .sortedF (.cons (.var 1) .nil))) .nil))) [some (fD c ts), none, none, none, none] []) from rfl]
  have bs : biD .sortedF [.ref 0] [.lst ((cutF ts).map cuD)] = .ok (.fl ((cutS ts).map cuD)) [.lst ((cutF ts).map cuD)] := by
    simp [-List.map_map, biD, bOf, bOfT, mutD, lstOf, seqD, bil, o1, o2]
  simp [setE, line]
  rw [lp]
  simp [bs]
end
end K12


namespace K12
open Eg
open Eg.Hd
/-! ### a nested sum of walks joined: by the cuts of the word -/
def sm (f : Nat → Rat) : Nat → Rat
  | 0 => 0
  | n + 1 => sm f n + f n
theorem sm_congr {f g : Nat → Rat} : ∀ n, (∀ k, k < n → f k = g k) → sm f n = sm g n
  | 0, _ => rfl
  | n + 1, h => by rw [sm, sm, sm_congr n fun k hk => h k (by omega), h n (by omega)]
theorem sm_add (f g : Nat → Rat) : ∀ n, sm (fun k => f k + g k) n = sm f n + sm g n
  | 0 => by simp [sm, Rat.add_zero]
  | n + 1 => by
    rw [sm, sm, sm, sm_add f g n]
    generalize sm f n = a; generalize sm g n = b; generalize f n = x; generalize g n = y
    rw [Rat.add_assoc, Rat.add_assoc]
    congr 1
    rw [← Rat.add_assoc, Rat.add_comm b x, Rat.add_assoc]
theorem sm_mul (f : Nat → Rat) (r : Rat) : ∀ n, sm (fun k => f k * r) n = sm f n * r
  | 0 => by simp [sm, Rat.zero_mul]
  | n + 1 => by rw [sm, sm, sm_mul f r n, Rat.add_mul]
theorem mul_sm (f : Nat → Rat) (r : Rat) : ∀ n, sm (fun k => r * f k) n = r * sm f n
  | 0 => by simp [sm, Rat.mul_zero]
  | n + 1 => by rw [sm, sm, mul_sm f r n, Rat.mul_add]
theorem nv_pre (fs os : List (List Rat)) (w : List (List Nat)) : ∀ i j, i ≤ fs.length → nv (fs ++ os) w i j = nv fs w i j
  | 0, 0, _ => rfl
  | 0, _ + 1, _ => rfl
  | i + 1, 0, _ => rfl
  | i + 1, j + 1, hi => by
    rw [nv, nv, nv_pre fs os w i (j + 1) (by omega), nv_pre fs os w i j (by omega)]
    have : (fs ++ os).getD i [] = fs.getD i [] := by
      simp only [List.getD, List.getElem?_append_left (show i < fs.length by omega)]
    unfold pw
    rw [this]
theorem nv_word (ss : List (List Rat)) (w : List (List Nat)) (m : Nat) : ∀ i j, j ≤ m → nv ss (w.take m) i j = nv ss w i j
  | 0, 0, _ => rfl
  | 0, _ + 1, _ => rfl
  | i + 1, 0, _ => rfl
  | i + 1, j + 1, hj => by
    rw [nv, nv, nv_word ss w m i (j + 1) hj, nv_word ss w m i j (by omega)]
    have : (w.take m).getD j [] = w.getD j [] := by
      simp only [List.getD, List.getElem?_take]
      rw [if_pos (by omega)]
    unfold pw
    rw [this]
theorem nv_zero (ss : List (List Rat)) (w : List (List Nat)) {j : Nat} (hj : 0 < j) : nv ss w 0 j = 0 := by
  obtain ⟨k, rfl⟩ : ∃ k, j = k + 1 := ⟨j - 1, by omega⟩
  rfl
theorem nv_join (fs os : List (List Rat)) (w : List (List Nat)) : ∀ i, i ≤ os.length → ∀ j, nv (fs ++ os) w (fs.length + i) j = sm (fun k => nv fs w fs.length k * nv os (w.drop k) i (j - k)) (j + 1)
  | 0, _, j => by
    rw [Nat.add_zero, nv_pre fs os w _ _ (Nat.le_refl _), sm, Nat.sub_self, nv_0, Rat.mul_one]
    have z : sm (fun k => nv fs w fs.length k * nv os (w.drop k) 0 (j - k)) j = 0 := by
      have e : ∀ n, n ≤ j → sm (fun k => nv fs w fs.length k * nv os (w.drop k) 0 (j - k)) n = 0 := fun n => by
        induction n with
        | zero => intro _; rfl
        | succ n ih =>
          intro hn
          rw [sm, ih (by omega), nv_zero os _ (show 0 < j - n by omega), Rat.mul_zero, Rat.add_zero]
      exact e j (Nat.le_refl _)
    rw [z, Rat.zero_add]
  | i + 1, hi, 0 => by
    rw [nv_0, sm, sm, nv_0, Nat.sub_self, nv_0, Rat.mul_one, Rat.zero_add]
  | i + 1, hi, j + 1 => by
    have ih1 := nv_join fs os w i (by omega) (j + 1)
    have ih2 := nv_join fs os w i (by omega) j
    have ep : ∀ k, k ≤ j → pw os (w.drop k) i (j - k) = pw (fs ++ os) w (fs.length + i) j := fun k hk => by
      unfold pw
      have e1 : (fs ++ os).getD (fs.length + i) [] = os.getD i [] := by
        simp only [List.getD]
        rw [List.getElem?_append_right (by omega)]
        congr 2; omega
      have e2 : (w.drop k).getD (j - k) [] = w.getD j [] := by
        simp only [List.getD, List.getElem?_drop]
        congr 2; omega
      rw [e1, e2]
    rw [show fs.length + (i + 1) = fs.length + i + 1 from rfl, nv, ih1, ih2, ← sm_mul]
    have l : sm (fun k => nv fs w fs.length k * nv os (w.drop k) (i + 1) (j + 1 - k)) (j + 1 + 1) =
        sm (fun k => nv fs w fs.length k * nv os (w.drop k) (i + 1) (j + 1 - k)) (j + 1) + nv fs w fs.length (j + 1) * nv os (w.drop (j + 1)) (i + 1) (j + 1 - (j + 1)) := rfl
    have r : sm (fun k => nv fs w fs.length k * nv os (w.drop k) i (j + 1 - k)) (j + 1 + 1) =
        sm (fun k => nv fs w fs.length k * nv os (w.drop k) i (j + 1 - k)) (j + 1) + nv fs w fs.length (j + 1) * nv os (w.drop (j + 1)) i (j + 1 - (j + 1)) := rfl
    rw [l, r, Nat.sub_self, nv_0, nv_0]
    have c : sm (fun k => nv fs w fs.length k * nv os (w.drop k) (i + 1) (j + 1 - k)) (j + 1) = sm (fun k => nv fs w fs.length k * nv os (w.drop k) i (j + 1 - k) + nv fs w fs.length k * nv os (w.drop k) i (j - k) * pw (fs ++ os) w (fs.length + i) j) (j + 1) := by
      refine sm_congr _ fun k hk => ?_
      have hk : k ≤ j := by omega
      rw [show j + 1 - k = (j - k) + 1 by omega, nv, Rat.mul_add, ep k hk, Rat.mul_assoc]
    rw [c, sm_add]
    generalize sm (fun k => nv fs w fs.length k * nv os (w.drop k) i (j + 1 - k)) (j + 1) = A
    generalize nv fs w fs.length (j + 1) * 1 = B
    generalize sm (fun k => nv fs w fs.length k * nv os (w.drop k) i (j - k) * pw (fs ++ os) w (fs.length + i) j) (j + 1) = C
    rw [Rat.add_assoc, Rat.add_assoc, Rat.add_comm B C]
/-! ### sums over lists -/
def cv (fs os : List (List Rat)) (q : Cu) : Rat := q.2.2 * (nv fs q.1 fs.length q.1.length * nv os q.2.1 os.length q.2.1.length)
def acr (fs os : List (List Rat)) (l : List Cu) : Rat := l.foldl (fun t q => t + cv fs os q) 0
def lsum (l : List Rat) : Rat := l.foldr (· + ·) 0
theorem foldl_lsum {α : Type} (f : α → Rat) : ∀ (l : List α) (t : Rat), l.foldl (fun t q => t + f q) t = t + lsum (l.map f)
  | [], t => by simp [lsum, Rat.add_zero]
  | a :: l, t => by rw [List.foldl_cons, foldl_lsum f l, List.map_cons, Rat.add_assoc]; rfl
theorem lsum_perm {l m : List Rat} (h : l.Perm m) : lsum l = lsum m := by
  induction h with
  | nil => rfl
  | cons x _ ih => show x + lsum _ = x + lsum _; rw [ih]
  | swap x y l => show y + (x + lsum l) = x + (y + lsum l); rw [← Rat.add_assoc, ← Rat.add_assoc, Rat.add_comm y x]
  | trans _ _ a b => exact a.trans b
theorem lsum_app (a b : List Rat) : lsum (a ++ b) = lsum a + lsum b := by
  induction a with
  | nil => show lsum b = 0 + lsum b; rw [Rat.zero_add]
  | cons x a ih => show x + lsum (a ++ b) = x + lsum a + lsum b; rw [ih, Rat.add_assoc]
theorem lsum_range (f : Nat → Rat) : ∀ n, lsum ((List.range n).map f) = sm f n
  | 0 => rfl
  | n + 1 => by rw [List.range_succ, List.map_append, lsum_app, lsum_range f n, sm]; show _ + (f n + 0) = _; rw [Rat.add_zero]
theorem word_cut (fs os : List (List Rat)) (p : Tm) : lsum ((cutW p).map (cv fs os)) = p.2 * nv (fs ++ os) p.1 (fs ++ os).length p.1.length := by
  unfold cutW
  rw [List.map_map, lsum_range, List.length_append, nv_join fs os p.1 os.length (Nat.le_refl _), ← mul_sm]
  refine sm_congr _ fun k hk => ?_
  have hk : k ≤ p.1.length := by omega
  show p.2 * (nv fs (p.1.take k) fs.length (p.1.take k).length * nv os (p.1.drop k) os.length (p.1.drop k).length) = _
  rw [List.length_take, List.length_drop, Nat.min_eq_left hk, nv_word fs p.1 k _ _ (Nat.le_refl _)]
theorem acr_tv (fs os : List (List Rat)) (ts : List Tm) : acr fs os (cutS ts) = tv (fs ++ os) ts := by
  unfold acr tv
  rw [foldl_lsum (cv fs os), foldl_lsum (fun p : Tm => p.2 * nv (fs ++ os) p.1 (fs ++ os).length p.1.length), Rat.zero_add, Rat.zero_add, show lsum ((cutS ts).map (cv fs os)) = lsum ((cutF ts).map (cv fs os)) from lsum_perm ((List.mergeSort_perm (cutF ts) _).map (cv fs os))]
  induction ts with
  | nil => rfl
  | cons p ts ih =>
    rw [show cutF (p :: ts) = cutW p ++ cutF ts from rfl, List.map_append, lsum_app, word_cut, ih]; rfl
end K12


namespace K12
open Eg
open Eg.Hd
theorem DOk.take {c : Nat} {w : List (List Nat)} (h : DOk c w) (k : Nat) : DOk c (w.take k) := ⟨by have := h.len; simp; omega, fun l hl => h.it l (List.mem_of_mem_take hl), fun l hl => h.sm l (List.mem_of_mem_take hl)⟩
theorem DOk.drop {c : Nat} {w : List (List Nat)} (h : DOk c w) (k : Nat) : DOk c (w.drop k) := ⟨by have := h.len; simp; omega, fun l hl => h.it l (List.mem_of_mem_drop hl), fun l hl => h.sm l (List.mem_of_mem_drop hl)⟩
theorem WOk.app {c : Nat} {fs os : List (List Rat)} (h : WOk c fs) (h2 : WOk c os) (hl : fs.length + os.length ≤ 60) : WOk c (fs ++ os) :=
  ⟨h.c1, by simpa using hl, fun s hs => (List.mem_append.mp hs).elim (h.it s) (h2.it s), fun s hs => (List.mem_append.mp hs).elim (h.sz s) (h2.sz s), fun s hs => (List.mem_append.mp hs).elim (h.dv s) (h2.dv s)⟩
theorem acr_take (fs os : List (List Rat)) {l : List Cu} {i : Nat} {q : Cu} (h : l[i]? = some q) : acr fs os (l.take (i + 1)) = acr fs os (l.take i) + cv fs os q := by
  rw [List.take_succ, h]; simp [acr]
section
variable {c : Nat} {ts : List Tm} {fs os : List (List Rat)} (h : FOk c ts) (hf : WOk c fs) (ho : WOk c os)
include h hf ho
theorem part_dv {q : Cu} (hq : q ∈ cutF ts) : Dv 6 1296 14592 (nv fs q.1 fs.length q.1.length * nv os q.2.1 os.length q.2.1.length) ∧ Dv 6 1299 14692 (cv fs os q) := by
  obtain ⟨p, hp, k, hk, rfl⟩ := cut_mem_ok h hq
  have w := h.w p hp
  have := w.len; have := hf.len; have := ho.len
  have l1 : (p.1.take k).length = k := by rw [List.length_take]; omega
  have l2 : (p.1.drop k).length = p.1.length - k := List.length_drop
  have d1 := nv_dv hf (w.take k) fs.length (p.1.take k).length (Nat.le_refl _) (Nat.le_refl _)
  have d2 := nv_dv ho (w.drop k) os.length (p.1.drop k).length (Nat.le_refl _) (Nat.le_refl _)
  have d := (d1.mul (by decide) d2).up (by decide) (w' := 1296) (A' := 14592) (by rw [l1, l2]; omega) (by rw [l1, l2]; omega)
  exact ⟨d, ((h.dv p hp).mul (by decide) d).up (by decide) (by omega) (by omega)⟩
theorem mem_cutS {q : Cu} (hq : q ∈ cutS ts) : q ∈ cutF ts := (List.mergeSort_perm _ _).mem_iff.mp hq
theorem acr_dv : ∀ i, i ≤ (cutS ts).length → Dv 6 1299 (14692 + i) (acr fs os ((cutS ts).take i))
  | 0, _ => by simp [acr]; exact Dv.zero
  | i + 1, hi => by
    have hx := List.getElem?_eq_getElem (show i < (cutS ts).length by omega)
    rw [acr_take fs os hx]
    exact ((acr_dv i (by omega)).add (by decide) ((part_dv h hf ho (mem_cutS h hf ho (List.getElem_mem (by omega)))).2.up (by decide) (by omega) (by omega))).up (by decide) (by omega) (by omega)
theorem across_ok (n : Nat) (f7 : fs.length ≤ 7) (o7 : os.length ≤ 7) (S : Sto) : rn (n + 4) f__law_across [.fl ((cutS ts).map cuD), .tup (fs.map stD), .tup (os.map stD)] S = .ok (nR (acr fs os (cutS ts))) S := by
  refine run_okS (d := d__law_across) rfl rfl (by simp [freeL_map]) (by simp) ?_
  have hl : (cutS ts).length ≤ 540 := by rw [cutS, List.length_mergeSort]; exact cutF_len h
  have hq : (cutS ts).length ≤ 16777216 := by omega
  simp only [d__law_across, startE]
  simp [line, setE, evS_fr, srcD, -List.map_map]
  generalize hF : forB _ _ _ _ _ _ _ _ = qq
  obtain ⟨ρ', S', rfl, y, z, u, v, rfl, rfl⟩ := for_idx hF (fun i ρ S => ∃ y z u v, ρ = [some (.fl ((cutS ts).map cuD)), some (.tup (fs.map stD)), some (.tup (os.map stD)), some (nR (acr fs os ((cutS ts).take i))), y, z, u, v] ∧ S = []) ⟨none, none, none, none, by simp [acr, nR_zero], rfl⟩ (by
    rintro i q ρ S hx ⟨y, z, u, v, rfl, rfl⟩
    have hm := mem_cutS h hf ho (List.mem_of_getElem? hx)
    have hi := (List.getElem?_eq_some_iff.mp hx).1
    obtain ⟨p1, p2⟩ := part_dv h hf ho hm
    obtain ⟨wa, wb, rd⟩ : DOk c q.1 ∧ DOk c q.2.1 ∧ Dv 6 3 100 q.2.2 := by
      obtain ⟨p, hp, k, _, rfl⟩ := cut_mem_ok h hm
      exact ⟨(h.w p hp).take k, (h.w p hp).drop k, h.dv p hp⟩
    have n1 := law_nested_gen n hf wa (.inl f7) []
    have n2 := law_nested_gen n ho wb (.inl o7) []
    have t1 := law_times_ok (nv_sz hf wa (Nat.le_refl _) (Nat.le_refl _)) (nv_sz ho wb (Nat.le_refl _) (Nat.le_refl _)) (n + 1) [] (by omega) (by omega) (by omega)
    have t2 := law_times_ok (rd.sz (by decide) (qb := 3) (by decide)) (big_sz p1 (by omega) (by omega)) (n + 1) [] (by omega) (by omega) (by omega)
    have ps := law_plus_ok (big_sz (acr_dv h hf ho i (by omega)) (by omega) (by omega)) (big_sz p2 (by omega) (by omega)) (n + 1) [] (by omega) (by omega)
    rw [← acr_take fs os hx] at ps
    refine ⟨[some (.fl ((cutS ts).map cuD)), some (.tup (fs.map stD)), some (.tup (os.map stD)), some (nR (acr fs os ((cutS ts).take i))), some (wordD q.1), some (wordD q.2.1), some (nR q.2.2), v], by simp [cuD, bindT, bindTs, setE], [some (.fl ((cutS ts).map cuD)), some (.tup (fs.map stD)), some (.tup (os.map stD)), some (nR (acr fs os ((cutS ts).take (i + 1)))), some (wordD q.1), some (wordD q.2.1), some (nR q.2.2), some (nR (nv fs q.1 fs.length q.1.length * nv os q.2.1 os.length q.2.1.length))], [], ?_, _, _, _, _, rfl, rfl⟩
    simp only [cv] at ps
    simp [-List.map_map, n1, n2, t1, setE, t2, ps])
  rw [List.take_length]
  simp
end
/-! ### joined, told -/
section
variable {c : Nat} {ss os : List (List Rat)} (h : WOk c ss) (h2 : WOk c os)
include h
theorem check_walk_of_ok (n : Nat) (S : Sto) : rn (n + 6) f_check_walk_of [wkD c ss, .int (c : Int)] S = .ok .non S :=
  run_ok (d := d_check_walk_of) rfl rfl (by simp) rfl (S1 := []) (by have := h.run n []; simp [d_check_walk_of, startE, this, wk_0])
theorem told_ok {ts : List Tm} (hf : FOk c ts) (n : Nat) (S : Sto) : rn (n + 8) f_told [fD c ts, wkD c ss] S = .ok (nR (tv ss ts)) S :=
  run_ok (d := d_told) rfl rfl (by simp) (by simp) (S1 := []) (by
    have e0 := check_form_ok hf n []
    have e1 := check_walk_of_ok h (n + 1) []
    have e3 := told_of_ok hf h n []
    have i0 : idxD (fD c ts) (.int 0) [] = .ok (.int (c : Int)) [] := idxT0 ..
    simp [d_told, startE, e0, i0, e1, wk_1, e3])
include h2
theorem joined_ok (n : Nat) (S : Sto) : rn (n + 8) f_joined [wkD c ss, wkD c os] S = .ok (wkD c (ss ++ os)) S := by
  have cw : ∀ S, rn (n + 7) f_check_walks [wkD c ss, wkD c os] S = .ok .non S := fun S =>
    run_ok (d := d_check_walks) rfl rfl (by simp) rfl (S1 := []) (by
      have a := check_walk_ok h n []
      have b := h2.run (n + 1) []
      simp [d_check_walks, startE, a, b, wk_0, cmpO, eqD])
  have ji : ∀ S, rn (n + 7) f_joined_in [wkD c ss, wkD c os] S = .ok (wkD c (ss ++ os)) S := fun S =>
    run_ok (d := d_joined_in) rfl rfl (by simp) (by simp) (S1 := []) (by
      have ad := add_tp (ss.map stD) (os.map stD) [] (by have := h.len; have := h2.len; simp; omega)
      simp [d_joined_in, startE, wk_0, wk_1, ad, line]
      simp [wkD])
  exact run_ok (d := d_joined) rfl rfl (by simp) (by simp) (S1 := []) (by simp [d_joined, startE, cw, ji])
end
/-! ### cut, asked -/
/-- a call that hands back the second of two new lists -/
theorem run_list2 {n f : Nat} {d : Df} {ds l m : List D} {S : Sto} (h : G.T[f]? = some d) (hl : ds.length = d.ps) (hf : D.freeL ds = true) (hv : D.freeL l = true) (hm : D.freeL m = true) (e : endB (evSs G.sub (rn n) d.body (startE d ds) []) = .ok (.ref 1) [.lst m, .lst l]) : rn (n + 1) f ds S = .ok (.ref (S.length + 1)) (S ++ [.lst m, .lst l]) := by
  rw [show rn (n + 1) f ds S = _ from run_at (d := d) h, if_pos hl, if_pos hf, runB_eq, show run G.sub G.T n = rn n from rfl, e]
  have e1 : O.shift S.length (.lst l) = .lst l := by simp [O.shift, shiftL_free _ _ hv]
  have e2 : O.shift S.length (.lst m) = .lst m := by simp [O.shift, shiftL_free _ _ hm]
  simp [reloc, D.free, D.shift, e1, e2]
theorem run_list2T {n f : Nat} {d : Df} {ds l m : List D} {w : List Nat} {S : Sto} (h : G.T[f]? = some d) (hl : ds.length = d.ps) (hf : D.freeL ds = true) (hv : D.freeL l = true) (hm : D.freeL m = true) (e : endB (evSs G.sub (rn n) d.body (startE d ds) []) = .ok (.fl [.str w, .ref 1]) [.lst m, .lst l]) : rn (n + 1) f ds S = .ok (.fl [.str w, .ref (S.length + 1)]) (S ++ [.lst m, .lst l]) := by
  rw [show rn (n + 1) f ds S = _ from run_at (d := d) h, if_pos hl, if_pos hf, runB_eq, show run G.sub G.T n = rn n from rfl, e]
  have e1 : O.shift S.length (.lst l) = .lst l := by simp [O.shift, shiftL_free _ _ hv]
  have e2 : O.shift S.length (.lst m) = .lst m := by simp [O.shift, shiftL_free _ _ hm]
  simp [reloc, D.free, D.freeL, D.shift, D.shiftL, e1, e2]
abbrev FM : List Nat := [102, 111, 114, 109]
section
variable {c : Nat} {ts : List Tm} {nm : Bool} (h : FOk c ts)
include h
theorem cutF_free : D.freeL ((cutF ts).map cuD) = true := by simp [freeL_map]
theorem cuts_of_ok (n : Nat) (S : Sto) : rn (n + 1) f_cuts_of [fD c ts] S = .ok (.ref (S.length + 1)) (S ++ [.lst ((cutF ts).map cuD), .lst ((cutS ts).map cuD)]) :=
  run_list2 (d := d_cuts_of) rfl rfl (by simp) (cutS_free h) (cutF_free h) (cuts_run h n)
theorem cut_ok (n : Nat) (S : Sto) : rn (n + 8) f_cut [fD c ts] S = .ok (.ref (S.length + 1)) (S ++ [.lst ((cutF ts).map cuD), .lst ((cutS ts).map cuD)]) :=
  run_list2 (d := d_cut) rfl rfl (by simp) (cutS_free h) (cutF_free h) (by
    have e0 := check_form_ok h n []
    have e1 := cuts_of_ok h (n + 6) []
    simp [-List.map_map] at e1
    simp [-List.map_map, d_cut, startE, e0, e1])
theorem asked_ok (n : Nat) (S : Sto) : rn (n + 9) f__law_asked [fD c ts, .bl nm] S = .ok (.fl [.str TOLD, .ref (S.length + 1)]) (S ++ [.lst ((cutF ts).map cuD), .lst ((cutS ts).map cuD)]) :=
  run_list2T (d := d__law_asked) rfl rfl (by simp) (cutS_free h) (cutF_free h) (by
    have e1 := cut_ok h n []
    simp [-List.map_map] at e1
    cases nm <;> simp [-List.map_map, d__law_asked, startE, e1, line])
end
section
variable {W : Nat → Prop} {S : Sto} {v : D} {nm : Bool}
theorem cut_x (n : Nat) (h : Kv W v) (hv : isFmD v = false) (a : At W S v) : rn (n + 8) f_cut [v] S = .ex (xF v) S :=
  run_genx (d := d_cut) rfl rfl (fun hf => by simp at hf; simp [fsFree, hf])
    (fun _ => by have := check_form_x n h hv a; simp [d_cut, startE, this])
    (fun hf => by have := check_form_x n (S := []) h hv (.inr (by simp at hf; exact hf)); simp [d_cut, startE, this])
theorem asked_f (n : Nat) (h : Kv W v) (hv : isFmD v = false) (a : At W S v) : rn (n + 9) f__law_asked [v, .bl nm] S = .ok (.fl [.str FM, v]) S := by
  have key : ∀ S, At W S v → endB (evSs G.sub (rn (n + 8)) d__law_asked.body (startE d__law_asked [v, .bl nm]) S) = .ok (.fl [.str FM, v]) S := fun S a => by
    have := cut_x n h hv a; cases nm <;> simp [d__law_asked, startE, this, line, hdl, hisD, hiD, subE, List.lookup, c_InvalidForm, c_LookError]
  exact run_gen (d := d__law_asked) rfl rfl (fun hf => by simp at hf; simp [hf]) (fun _ => key S a) (fun hf => key [] (.inr (by simp at hf; exact hf)))
end
end K12


namespace K12
open Eg
open Eg.Hd
/-! ### the wrong forms -/
def mc (c : Nat) : D := .tup (List.replicate c (.int (-1)))
def one1 (c : Nat) (w x : D) : D := cwt c [.tup [w, x]]
def NC (c : Nat) : List D :=
  let w : D := .tup [zc c]
  [.non, .int 0, .str [49, 58, 32, 48], .fd [] [], .tup [.int (c : Int)], .tup [.int 0, .tup []], .tup [.int 4, .tup []], .tup [.bl true, .tup []],
   one1 c w (.tup [.int 0, .int 1]), one1 c w (.tup [.int 2, .int 4]), one1 c w (.int 1), cwt c [.tup [w, n11], .tup [.tup [], n11]],
   cwt c [.tup [w, n11], .tup [w, n11]], one1 c (.tup [zc (c + 1)]) n11, cwt c [.fl [w, n11]],
   one1 c (zc c) n11, one1 c (.tup [mc c]) n11, one1 c w (.tup [.int 1, .int (-1)]), cwt c [.tup [w]]]
theorem nc_bad (c : Nat) (hc : 1 ≤ c ∧ c ≤ 3) : ((NC c).all fun v => !isFmD v && (plD 5 v && D.smB v && nofl v)) = true := by
  rcases (show c = 1 ∨ c = 2 ∨ c = 3 by omega) with rfl | rfl | rfl
  · decide +kernel
  · decide +kernel
  · decide +kernel
def menu (c : Nat) (T : List D) (r : Nat) : List D :=
  let w : D := .tup [zc c]
  [.non, .int 0, .str [49, 58, 32, 48], .ref r, .fd [] [], .ref (r + 1), .tup [.int (c : Int)], .tup [.int (c : Int), .fl T], .tup [.int (c : Int), .tup T, .tup []], .tup [.int 0, .tup []], .tup [.int 4, .tup []], .tup [.bl true, .tup []], .tup [.non, .tup T],
   one1 c w (.tup [.int 0, .int 1]), one1 c w (.tup [.int 2, .int 4]), one1 c w (.int 1), cwt c [.tup [w, n11], .tup [.tup [], n11]],
   cwt c [.tup [w, n11], .tup [w, n11]], one1 c (.tup [zc (c + 1)]) n11, cwt c [.fl [w, n11]],
   one1 c (zc c) n11, one1 c (.tup [mc c]) n11, one1 c w (.tup [.int 1, .int (-1)]), cwt c [.tup [w]]]
section
variable {c : Nat} {ts : List Tm} (h : FOk c ts)
include h
theorem tms_ps : Ps 4 (.tup (ts.map teD)) ∧ Ps 4 (.fl (ts.map teD)) := by
  have key : ∀ x ∈ ts.map teD, Ps 3 x := fun y hy => by
    obtain ⟨p, hp, rfl⟩ := List.mem_map.mp hy
    refine Ps.tup (by simp) fun z hz => ?_
    simp only [List.mem_cons, List.not_mem_nil, or_false] at hz
    rcases hz with rfl | rfl
    · exact (h.w p hp).ps h.c1.2
    · exact ps_nR ((h.dv p hp).sz (by decide) (qb := 3) (by decide)) (by omega) (by omega)
  have hl : (ts.map teD).length ≤ 1000 := by have := h.len; simp; omega
  exact ⟨Ps.tup hl key, Ps.fl hl key⟩
theorem menu_bad {m r : Nat} {S : Sto} (hm : m ≤ r) (h1 : S[r]? = some (.lst [])) (h2 : S[r + 1]? = some (.lst [.int (c : Int), .tup (ts.map teD)])) : ∀ x ∈ menu c (ts.map teD) r, Bad m S isFmD x := by
  obtain ⟨p1, p2⟩ := tms_ps h
  have pc : ∀ k, Ps k (.int (c : Int)) := fun k => Ps.int h.c1.2
  have nc := List.all_eq_true.mp (nc_bad c h.c1)
  have use : ∀ x, x ∈ NC c → Bad m S isFmD x := fun x hx => by
    have := nc x hx
    simp only [Bool.and_eq_true, Bool.not_eq_true'] at this
    obtain ⟨a, ⟨b, d⟩, e⟩ := this
    exact ⟨a, .inl ⟨⟨b, d⟩, fun l z => by rw [z] at e; cases e⟩⟩
  have a1 : Bad m S isFmD (.ref r) := ⟨rfl, .inr ⟨r, [], rfl, hm, h1, by simp, by simp⟩⟩
  have a2 : Bad m S isFmD (.ref (r + 1)) := ⟨rfl, .inr ⟨r + 1, _, rfl, by omega, h2, by simp, fun x hx => by
    simp only [List.mem_cons, List.not_mem_nil, or_false] at hx
    rcases hx with rfl | rfl
    · rfl
    · exact plD_le p1.1 (by omega)⟩⟩
  have a3 : Bad m S isFmD (.tup [.int (c : Int), .fl (ts.map teD)]) := ⟨rfl, .inl ⟨Ps.tup (by simp) fun x hx => by
    simp only [List.mem_cons, List.not_mem_nil, or_false] at hx
    rcases hx with rfl | rfl
    · exact pc 4
    · exact p2, fun _ e => nomatch e⟩⟩
  have a4 : Bad m S isFmD (.tup [.int (c : Int), .tup (ts.map teD), .tup []]) := ⟨rfl, .inl ⟨Ps.tup (by simp) fun x hx => by
    simp only [List.mem_cons, List.not_mem_nil, or_false] at hx
    rcases hx with rfl | rfl | rfl
    · exact pc 4
    · exact p1
    · exact ⟨rfl, rfl⟩, fun _ e => nomatch e⟩⟩
  have a5 : Bad m S isFmD (.tup [.non, .tup (ts.map teD)]) := ⟨rfl, .inl ⟨Ps.tup (by simp) fun x hx => by
    simp only [List.mem_cons, List.not_mem_nil, or_false] at hx
    rcases hx with rfl | rfl
    · exact ⟨rfl, rfl⟩
    · exact p1, fun _ e => nomatch e⟩⟩
  intro x hx
  simp only [menu, List.mem_cons, List.not_mem_nil, or_false] at hx
  rcases hx with rfl | rfl | rfl | rfl | rfl | rfl | rfl | rfl | rfl | rfl | rfl | rfl | rfl | rfl | rfl | rfl | rfl | rfl | rfl | rfl | rfl | rfl | rfl | rfl <;> first | exact a1 | exact a2 | exact a3 | exact a4 | exact a5 | exact use _ (by simp only [NC, List.mem_cons, true_or, or_true])
theorem no_form_ok (n b k : Nat) (S : Sto) (hb : Bx S b (k + 1)) : ∃ (v : D) (S' : Sto), rn (n + 2) f__law_no_form [.ref b, fD c ts] S = .ok v S' ∧ Bad S.length S' isFmD v ∧ Grow b S S' ∧ Bx S' b k := by
  have hc := h.c1
  have hl := h.len
  rw [show rn (n + 2) f__law_no_form [.ref b, fD c ts] S = endB (evSs G.sub (rn (n + 1)) d__law_no_form.body (startE d__law_no_form [.ref b, fD c ts]) S) from run_ref rfl rfl rfl]
  obtain ⟨S2, hS2⟩ : ∃ S2, S2 = S ++ [O.lst [], .lst [.int (c : Int), .tup (ts.map teD)]] := ⟨_, rfl⟩
  have b2 : Bx S2 b (k + 1) := hS2 ▸ hb.app
  have bd := menu_bad h (m := S.length) (r := S.length) (S := S2) (Nat.le_refl _) (by rw [hS2]; simp) (by rw [hS2]; simp)
  obtain ⟨d, S3, (e3 : rn (n + 1) _ _ _ = _), d0, d1, g3, b3⟩ := take_ok n b k 24 S2 b2 (by decide) (by decide)
  obtain ⟨x, x1, x2⟩ := pick (menu c (ts.map teD) S.length) d0 (show d < ((menu c (ts.map teD) S.length).length : Int) from d1)
  have ix : idxD (.fl (menu c (ts.map teD) S.length)) (.int d) S3 = .ok x S3 := by simp [idxD, x1]
  have g2 : Grow b S S2 := hS2 ▸ Grow.app _ _
  refine ⟨x, S3, ?_, (bd x x2).grow g3 hb.lt, g2.trans g3, b3⟩
  have mz : ∀ S, binD .mul (.tup [.int 0]) (.int (c : Int)) S = .ok (zc c) S := fun S => by rcases (show c = 1 ∨ c = 2 ∨ c = 3 by omega) with rfl | rfl | rfl <;> rfl
  have mz1 : ∀ S, binD .mul (.tup [.int 0]) (.int ((c : Int) + 1)) S = .ok (zc (c + 1)) S := fun S => by rcases (show c = 1 ∨ c = 2 ∨ c = 3 by omega) with rfl | rfl | rfl <;> rfl
  have mm : ∀ S, binD .mul (.tup [.int (-1)]) (.int (c : Int)) S = .ok (mc c) S := fun S => by rcases (show c = 1 ∨ c = 2 ∨ c = 3 by omega) with rfl | rfl | rfl <;> rfl
  have lf : ∀ S, biD .list [fD c ts] S = .ok (.ref S.length) (S ++ [.lst [.int (c : Int), .tup (ts.map teD)]]) := fun S => rfl
  have lg : ∀ S, biD .listF [.tup (ts.map teD)] S = .ok (.fl (ts.map teD)) S := fun S => rfl
  have bt : ∀ S ρ, bindT S (.tp [.nm 2, .nm 3]) (fD c ts) ρ = some (setE (setE ρ 2 (.int (c : Int))) 3 (.tup (ts.map teD))) := fun S ρ => rfl
  have ad : ∀ (a b : List D) (S : Sto), a.length + b.length ≤ 30 → binD .add (.fl a) (.fl b) S = .ok (.fl (a ++ b)) S := fun a b S hh => add_fl a b S (by omega)
  simp only [d__law_no_form, startE]
  simp [bt, setE, mz, mz1, mm, line, lf, lg, ad]
  rw [← hS2, e3]
  simp only [menu, one1, cwt, n11] at ix
  simp [ix]
end
end K12


namespace K12
open Eg
open Eg.Hd
theorem cuts_pl {c : Nat} {ts : List Tm} (h : FOk c ts) : ∀ x ∈ (cutS ts).map cuD, plD 3 x = true := fun x hx => by
  obtain ⟨q, hq, rfl⟩ := List.mem_map.mp hx
  obtain ⟨p, hp, k, _, rfl⟩ := cut_mem_ok h ((List.mergeSort_perm _ _).mem_iff.mp hq)
  have w := h.w p hp
  refine (Ps.tup (k := 2) (by simp) fun z hz => ?_).1
  simp only [List.mem_cons, List.not_mem_nil, or_false] at hz
  rcases hz with rfl | rfl | rfl
  · exact (w.take k).ps h.c1.2
  · exact (w.drop k).ps h.c1.2
  · exact ps_nR ((h.dv p hp).sz (by decide) (qb := 3) (by decide)) (by omega) (by omega)
theorem cutS_len {c : Nat} {ts : List Tm} (h : FOk c ts) : (cutS ts).length ≤ 540 := by rw [cutS, List.length_mergeSort]; exact cutF_len h
theorem wok_sn {c m : Nat} {ss : List (List Rat)} (hc : 1 ≤ c ∧ c ≤ 3) (hm : m ≤ 10) (hl : ss.length ≤ 60) (h : ∀ s ∈ ss, s.length = c ∧ ∀ r ∈ s, Sn m r) : WOk c ss :=
  ⟨hc, hl, fun s hs => (h s hs).1, fun s hs r hr => ((h s hs).2 r hr).1.up (by omega) (by omega), fun s hs r hr => ((h s hs).2 r hr).2.up (by decide) (by omega) (by omega)⟩
def fB : Ss := (.cons (.par [9, 10] (.cons (.call f__law_steps (.cons (.var 0) (.cons (.var 1) (.cons (.lit (.int 4)) .nil)))) (.cons (.call f__law_steps (.cons (.var 0) (.cons (.var 1) (.cons (.lit (.int 4)) .nil)))) .nil))) (.cons (.asg 11 (.ite (.var 4) (.callk f_joined [1, 0] [[111, 116, 104, 101, 114], [111, 110, 101]] (.cons (.tup (.cons (.var 1) (.cons (.var 10) .nil))) (.cons (.tup (.cons (.var 1) (.cons (.var 9) .nil))) .nil))) (.call f_joined (.cons (.tup (.cons (.var 1) (.cons (.var 9) .nil))) (.cons (.tup (.cons (.var 1) (.cons (.var 10) .nil))) .nil))))) (.cons (.asg 12 (.call f__law_across (.cons (.idx (.var 6) (.lit (.int 1))) (.cons (.var 9) (.cons (.var 10) .nil))))) (.cons (.ife (.or (.not (.call f__law_same (.cons (.var 11) (.cons (.tup (.cons (.var 1) (.cons (.bin .add (.var 9) (.var 10)) .nil))) .nil)))) (.not (.call f__law_same (.cons (.call f_told (.cons (.var 5) (.cons (.var 11) .nil))) (.cons (.var 12) .nil))))) (.cons (.ret (.lit (.bl false))) .nil) .nil) (.cons (.ife (.not (.call f__law_same (.cons (.call f__law_told (.cons (.var 5) (.cons (.bin .add (.var 9) (.var 10)) .nil))) (.cons (.var 12) .nil)))) (.cons (.ret (.lit (.bl false))) .nil) .nil) .nil)))))
def fS0 : Sm := (.asg 5 (.call f__law_form (.cons (.var 0) (.cons (.var 1) (.cons (.var 2) (.cons (.var 3) (.cons (.lit (.int 0)) .nil)))))))
def fS1 : Sm := (.asg 6 (.lstF (.cons (.lit (.str [116, 111, 108, 100])) (.cons (.call f__law_due (.cons (.var 5) .nil)) .nil))))
def fS2 : Sm := (.asg 7 (.call f__law_asked (.cons (.var 5) (.cons (.var 4) .nil))))
def fS3 : Sm := (.ife (.not (.call f__law_same (.cons (.var 7) (.cons (.var 6) .nil)))) (.cons (.ret (.lit (.bl false))) .nil) .nil)
def fS4 : Sm := (.expr (.app (.idx (.var 7) (.lit (.int 1))) (.tup (.cons (.tup .nil) (.cons (.tup .nil) (.cons (.tup (.cons (.lit (.int 1)) (.cons (.lit (.int 1)) .nil))) .nil))))))
def fS5 : Sm := (.expr (.me .reverse (.idx (.var 7) (.lit (.int 1))) .nil))
def fS6 : Sm := (.ife (.not (.call f__law_same (.cons (.call f__law_asked (.cons (.var 5) (.cons (.not (.var 4)) .nil))) (.cons (.var 6) .nil)))) (.cons (.ret (.lit (.bl false))) .nil) .nil)
def fS7 : Sm := (.fr (.nm 8) (.rng1 (.lit (.int 2))) (.cons (.par [9, 10] (.cons (.call f__law_steps (.cons (.var 0) (.cons (.var 1) (.cons (.lit (.int 4)) .nil)))) (.cons (.call f__law_steps (.cons (.var 0) (.cons (.var 1) (.cons (.lit (.int 4)) .nil)))) .nil))) (.cons (.asg 11 (.ite (.var 4) (.callk f_joined [1, 0] [[111, 116, 104, 101, 114], [111, 110, 101]] (.cons (.tup (.cons (.var 1) (.cons (.var 10) .nil))) (.cons (.tup (.cons (.var 1) (.cons (.var 9) .nil))) .nil))) (.call f_joined (.cons (.tup (.cons (.var 1) (.cons (.var 9) .nil))) (.cons (.tup (.cons (.var 1) (.cons (.var 10) .nil))) .nil))))) (.cons (.asg 12 (.call f__law_across (.cons (.idx (.var 6) (.lit (.int 1))) (.cons (.var 9) (.cons (.var 10) .nil))))) (.cons (.ife (.or (.not (.call f__law_same (.cons (.var 11) (.cons (.tup (.cons (.var 1) (.cons (.bin .add (.var 9) (.var 10)) .nil))) .nil)))) (.not (.call f__law_same (.cons (.call f_told (.cons (.var 5) (.cons (.var 11) .nil))) (.cons (.var 12) .nil))))) (.cons (.ret (.lit (.bl false))) .nil) .nil) (.cons (.ife (.not (.call f__law_same (.cons (.call f__law_told (.cons (.var 5) (.cons (.bin .add (.var 9) (.var 10)) .nil))) (.cons (.var 12) .nil)))) (.cons (.ret (.lit (.bl false))) .nil) .nil) .nil))))))
section
variable {b c : Nat} {ts : List Tm} {nm : Bool}
abbrev fE (b c sz mn : Nat) (nm : Bool) (ts : List Tm) (l : List (Option D)) : Env := some (.ref b) :: some (.int (c : Int)) :: some (.int (sz : Int)) :: some (.int (mn : Int)) :: some (.bl nm) :: some (fD c ts) :: some (.fl [.str TOLD, .fl ((cutS ts).map cuD)]) :: l
theorem walk_turn (h : FOk c ts) (h6 : ∀ p ∈ ts, p.1.length ≤ 6) {sz mn : Nat} {y7 y8 y9 y10 y11 y12 : Option D} (k : Nat) (S : Sto) (hb : Bx S b (k + 400)) :
    ∃ (x9 x10 x11 x12 : Option D) (S' : Sto), evSs G.sub (rn 21) fB (fE b c sz mn nm ts [y7, y8, y9, y10, y11, y12]) S = .nx (fE b c sz mn nm ts [y7, y8, x9, x10, x11, x12]) S' ∧ Grow b S S' ∧ Bx S' b k := by
  have hc := h.c1
  obtain ⟨fs, S1, (e1 : rn 21 _ _ _ = _), l1, k1, g1, b1⟩ := steps_ok 16 b (k + 200) c 4 S hb hc (by omega)
  obtain ⟨os, S2, (e2 : rn 21 _ _ _ = _), l2, k2, g2, b2⟩ := steps_ok 16 b k c 4 S1 b1 hc (by omega)
  have hf : WOk c fs := wok_sn hc (by omega) (by omega) k1
  have ho : WOk c os := wok_sn hc (by omega) (by omega) k2
  have hj : WOk c (fs ++ os) := hf.app ho (by omega)
  have jo : rn 21 f_joined [.tup [.int (c : Int), .tup (fs.map stD)], .tup [.int (c : Int), .tup (os.map stD)]] S2 = .ok (wkD c (fs ++ os)) S2 := joined_ok hf ho 13 S2
  have ac : rn 21 f__law_across [.fl ((cutS ts).map cuD), .tup (fs.map stD), .tup (os.map stD)] S2 = .ok (nR (acr fs os (cutS ts))) S2 := across_ok h hf ho 17 (by omega) (by omega) S2
  have to : rn 21 f_told [fD c ts, wkD c (fs ++ os)] S2 = .ok (nR (acr fs os (cutS ts))) S2 := by rw [acr_tv]; exact told_ok hj h 13 S2
  have lt : rn 21 f__law_told [fD c ts, .tup ((fs ++ os).map stD)] S2 = .ok (nR (acr fs os (cutS ts))) S2 := by
    rw [acr_tv]
    exact law_told_ok h hj 17 (fun p hp => .inr (.inr ⟨by simp; omega, h6 p hp⟩)) S2
  have ad := add_tp (fs.map stD) (os.map stD) S2 (by simp; omega)
  rw [← List.map_append] at ad
  have s1 : rn 21 f__law_same [wkD c (fs ++ os), .tup [.int (c : Int), .tup ((fs ++ os).map stD)]] S2 = .ok (.bl true) S2 := by
    rcases hj.gd S2 with ⟨p, _⟩ | ⟨r, e, _⟩
    · exact same_pl 5 p 15 S2
    · cases e
  have s2 : rn 21 f__law_same [nR (acr fs os (cutS ts)), nR (acr fs os (cutS ts))] S2 = .ok (.bl true) S2 := same_pl 3 (by simp [plD, nR]) 17 S2
  refine ⟨some (.tup (fs.map stD)), some (.tup (os.map stD)), some (wkD c (fs ++ os)), some (nR (acr fs os (cutS ts))), S2, ?_, g1.trans g2, b2⟩
  simp at e1 e2
  simp only [fB, fE]
  cases nm <;> simp [-List.map_map, -List.map_append, e1, e2, setAll, setE, line, jo, idxF1, ac, ad, s1, to, s2, lt]
theorem form_right_ok (sz mn : Nat) (hc : 1 ≤ c ∧ c ≤ 3) (hz : sz ≤ 6) (hm : mn ≤ 20) (k : Nat) (S : Sto) (hb : Bx S b (k + 3000)) :
    ∃ S', rn 22 f__law_form_right [.ref b, .int (c : Int), .int (sz : Int), .int (mn : Int), .bl nm] S = .ok (.bl true) S' ∧ Grow b S S' ∧ Bx S' b k := by
  have bl := hb.lt
  rw [show rn 22 f__law_form_right [.ref b, .int (c : Int), .int (sz : Int), .int (mn : Int), .bl nm] S = endB (evSs G.sub (rn 21) (.cons fS0 (.cons fS1 (.cons fS2 (.cons fS3 (.cons fS4 (.cons fS5 (.cons fS6 (.cons fS7 (.cons (.ret (.lit (.bl true))) .nil))))))))) [some (.ref b), some (.int (c : Int)), some (.int (sz : Int)), some (.int (mn : Int)), some (.bl nm), none, none, none, none, none, none, none, none] S) from run_ref (n := 21) (d := d__law_form_right) rfl rfl rfl]
  obtain ⟨ts, S1, (e1 : rn 21 _ _ _ = _), h, hl, h6, g1, b1⟩ := law_form_ok 17 b (k + 1800) c sz mn (kind := 0) S (hb.less (by omega)) hc (by omega) hm (by omega)
  have hcl := cutS_len h
  have e2 := law_due_ok h 20 S1
  have a1 := fun nm => asked_ok (nm := nm) h 12 S1
  obtain ⟨S2, hS2⟩ : ∃ S2, S2 = S1 ++ [O.lst ((cutF ts).map cuD), .lst ((cutS ts).map cuD)] := ⟨_, rfl⟩
  rw [← hS2] at a1
  obtain ⟨r, hr⟩ : ∃ r, r = S1.length + 1 := ⟨_, rfl⟩
  rw [← hr] at a1
  have r2 : S2[r]? = some (.lst ((cutS ts).map cuD)) := by rw [hS2, hr]; simp
  have rl := (List.getElem?_eq_some_iff.mp r2).1
  have sm1 := same_told 15 S2 r2 (by simp; omega) (cuts_pl h)
  have ap := fun v => app_ok (v := v) r2 (by simp; omega)
  obtain ⟨L, hL⟩ : ∃ L, L = (cutS ts).map cuD ++ [.tup [.tup [], .tup [], .tup [.int 1, .int 1]]] := ⟨_, rfl⟩
  obtain ⟨S3, hS3⟩ : ∃ S3, S3 = S2.set r (.lst L) := ⟨_, rfl⟩
  have r3 : S3[r]? = some (.lst L) := by rw [hS3]; exact List.getElem?_set_self rl
  have l3 := lstOf_of r3
  obtain ⟨S4, hS4⟩ : ∃ S4, S4 = S3.set r (.lst L.reverse) := ⟨_, rfl⟩
  have rv : meD .reverse (.ref r) [] S3 = .ok .non S4 := by simp [meD, meL, r3, hS4]
  have a4 := fun nm => asked_ok (nm := nm) h 12 S4
  obtain ⟨S5, hS5⟩ : ∃ S5, S5 = S4 ++ [O.lst ((cutF ts).map cuD), .lst ((cutS ts).map cuD)] := ⟨_, rfl⟩
  rw [← hS5] at a4
  have r5 : S5[S4.length + 1]? = some (.lst ((cutS ts).map cuD)) := by rw [hS5]; simp
  have sm2 := same_told 15 S5 r5 (by simp; omega) (cuts_pl h)
  have g1l := g1.len
  have g2 : Grow b S S2 := g1.trans (hS2 ▸ Grow.app _ _)
  have g3 : Grow b S S3 := hS3 ▸ g2.setO (by omega) _
  have g4 : Grow b S S4 := hS4 ▸ g3.setO (by omega) _
  have g5 : Grow b S S5 := g4.trans (hS5 ▸ Grow.app _ _)
  have b5 : Bx S5 b (k + 1800) := by
    have z2 : Bx S2 b (k + 1800) := hS2 ▸ b1.app
    have z3 : Bx S3 b (k + 1800) := hS3 ▸ z2.setO (by omega) _
    have z4 : Bx S4 b (k + 1800) := hS4 ▸ z3.setO (by omega) _
    exact hS5 ▸ z4.app
  have lp : ∃ (l : List (Option D)) (S' : Sto), evS G.sub (rn 21) fS7 (fE b c sz mn nm ts [some (.fl [.str TOLD, .ref r]), none, none, none, none, none]) S5 = .nx (fE b c sz mn nm ts l) S' ∧ Grow b S5 S' ∧ Bx S' b k := by
    have rg : rngD 0 2 = some ((List.range 2).map fun (k : Nat) => D.int (k : Int), none) := rng_nat (n := 2) (by omega)
    generalize hE : evS _ _ _ _ _ = r
    rw [show fS7 = .fr (.nm 8) (.rng1 (.lit (.int 2))) fB from rfl] at hE
    simp [evS_fr, rg] at hE
    subst hE
    generalize hF : forB _ _ _ _ _ _ _ _ = qq
    obtain ⟨ρ', S', rfl, y7, y8, y9, y10, y11, y12, rfl, q1, q2⟩ := for_rng hF (fun i ρ S' => ∃ (y7 y8 y9 y10 y11 y12 : Option D), ρ = fE b c sz mn nm ts [y7, y8, y9, y10, y11, y12] ∧ Grow b S5 S' ∧ Bx S' b (k + 1800 - 400 * i))
      ⟨_, _, _, _, _, _, rfl, Grow.refl .., by simpa using b5⟩ (by
      rintro i ρ S0 hi ⟨y7, y8, y9, y10, y11, y12, rfl, q1, q2⟩
      obtain ⟨x9, x10, x11, x12, S6, e6, g6, b6⟩ := walk_turn (nm := nm) (sz := sz) (mn := mn) (y7 := y7) (y8 := some (.int (i : Int))) (y9 := y9) (y10 := y10) (y11 := y11) (y12 := y12) h (fun p hp => Nat.le_trans (h6 p hp) hz) (k + 1800 - 400 * (i + 1)) S0 (q2.less (by omega))
      exact ⟨_, rfl, _, S6, e6, _, _, _, _, _, _, rfl, q1.trans g6, b6⟩)
    exact ⟨_, S', rfl, q1, q2.less (by omega)⟩
  obtain ⟨l, S6, e6, g6, b6⟩ := lp
  refine ⟨S6, ?_, g5.trans g6, b6⟩
  simp only [fE] at e6
  simp [-List.map_map, fS0, fS1, fS2, fS3, fS4, fS5, fS6, e1, setE, e2, line, a1, sm1, idxF1, lstOf_of r2, ap, ← hL, ← hS3, l3, rv, a4, sm2]
  rw [e6]
  simp
end
end K12


namespace K12
open Eg
open Eg.Hd
def gS0 : Sm := (.asg 3 (.call f__law_form (.cons (.var 0) (.cons (.var 1) (.cons (.lit (.int 3)) (.cons (.lit (.int 3)) (.cons (.lit (.int 0)) .nil)))))))
def gB : Ss := (.cons (.asg 5 (.call f__law_no_form (.cons (.var 0) (.cons (.var 3) .nil)))) (.cons (.asg 6 (.call f__law_asked (.cons (.var 5) (.cons (.var 2) .nil)))) (.cons (.ife (.or (.cmp .ne (.idx (.var 6) (.lit (.int 0))) (.lit (.str [102, 111, 114, 109]))) (.not (.call f__law_blamed (.cons (.idx (.var 6) (.lit (.int 1))) (.cons (.var 5) .nil))))) (.cons (.ret (.lit (.bl false))) .nil) .nil) (.cons (.asg 2 (.not (.var 2))) .nil))))
abbrev gE (b c : Nat) (nm : Bool) (ts : List Tm) (l : List (Option D)) : Env := some (.ref b) :: some (.int (c : Int)) :: some (.bl nm) :: some (fD c ts) :: l
theorem refused_right_ok {b c : Nat} {nm : Bool} (hc : 1 ≤ c ∧ c ≤ 3) (k : Nat) (S : Sto) (hb : Bx S b (k + 2000)) : ∃ S', rn 22 f__law_refused_right [.ref b, .int (c : Int), .bl nm] S = .ok (.bl true) S' ∧ Grow b S S' ∧ Bx S' b k := by
  rw [show rn 22 f__law_refused_right [.ref b, .int (c : Int), .bl nm] S = endB (evSs G.sub (rn 21) (.cons gS0 (.cons (.fr (.nm 4) (.rng1 (.lit (.int 4))) gB) (.cons (.ret (.lit (.bl true))) .nil))) [some (.ref b), some (.int (c : Int)), some (.bl nm), none, none, none, none] S) from run_ref (n := 21) (d := d__law_refused_right) rfl rfl rfl]
  obtain ⟨ts, S1, (e1 : rn 21 _ _ _ = _), h, hl, h6, g1, b1⟩ := law_form_ok 17 b (k + 100) c 3 3 (kind := 0) S (hb.less (by omega)) hc (by omega) (by omega) (by omega)
  have rg : rngD 0 4 = some ((List.range 4).map fun (k : Nat) => D.int (k : Int), none) := rng_nat (n := 4) (by omega)
  simp at e1
  simp [gS0, e1, setE, evS_fr, rg]
  generalize hF : forB _ _ _ _ _ _ _ _ = qq
  obtain ⟨ρ', S', rfl, nm', y4, y5, y6, rfl, q1, q2⟩ := for_rng hF (fun i ρ S' => ∃ (nm' : Bool) (y4 y5 y6 : Option D), ρ = gE b c nm' ts [y4, y5, y6] ∧ Grow b S S' ∧ Bx S' b (k + 100 - 2 * i))
    ⟨nm, none, none, none, rfl, g1, by simpa using b1⟩ (by
    rintro i ρ S0 hi ⟨nm', y4, y5, y6, rfl, q1, q2⟩
    obtain ⟨v, S2, (e2 : rn 21 _ _ _ = _), bd, g2, b2⟩ := no_form_ok h 19 b (k + 100 - 2 * (i + 1)) S0 (q2.less (by omega))
    have a2 := asked_f (nm := nm') 12 bd.kv bd.no bd.at
    obtain ⟨S3, e3, g3, b3⟩ := blamed_bad bd q2.lt
    have kk : ∀ S, cmpO .ne (.str FM) (.str FM) S = some false := fun S => by simp [cmpO, eqD, notB]
    refine ⟨_, rfl, gE b c (!nm') ts [some (.int (i : Int)), some v, some (.fl [.str FM, v])], S3, ?_, _, _, _, _, rfl, q1.trans (g3 S0 rfl g2), b3 _ b2⟩
    simp [gB, setE, e2, a2, idxF0, idxF1, kk, e3])
  exact ⟨S', by simp, q1, q2.less (by omega)⟩
/-! ### the law -/
def lB0 : Sm := (.asg 2 (.call f__law_box (.cons (.call f__law_cell (.cons (.var 0) (.cons (.var 1) .nil))) .nil)))
def lB1 : Sm := (.par [3, 4, 5] (.cons (.and (.cmp .eq (.call f__law_take (.cons (.var 2) (.cons (.lit (.int 8)) .nil))) (.lit (.int 0))) (.cmp .eq (.var 1) (.lit (.int 0)))) (.cons (.cmp .eq (.call f__law_take (.cons (.var 2) (.cons (.lit (.int 2)) .nil))) (.lit (.int 0))) (.cons (.bin .add (.lit (.int 1)) (.call f__law_take (.cons (.var 2) (.cons (.lit (.int 3)) .nil)))) .nil))))
def lB2 : Sm := (.asg 6 (.ite (.var 3) (.idxl (.cons (.lit (.int 6)) (.cons (.lit (.int 4)) (.cons (.lit (.int 3)) .nil))) (.bin .sub (.var 5) (.lit (.int 1)))) (.call f__law_wide (.cons (.var 2) (.cons (.var 5) .nil)))))
def lB3 : Sm := (.ife (.not (.call f__law_form_right (.cons (.var 2) (.cons (.var 5) (.cons (.var 6) (.cons (.ite (.var 3) (.lit (.int 20)) (.lit (.int 6))) (.cons (.var 4) .nil))))))) (.cons (.ret (.lit (.bl false))) .nil) .nil)
def lB4 : Sm := (.ife (.or (.not (.call f__law_form_right (.cons (.var 2) (.cons (.idxl (.cons (.lit (.int 2)) (.cons (.lit (.int 3)) (.cons (.lit (.int 1)) .nil))) (.bin .sub (.var 5) (.lit (.int 1)))) (.cons (.lit (.int 3)) (.cons (.lit (.int 4)) (.cons (.not (.var 4)) .nil))))))) (.not (.call f__law_refused_right (.cons (.var 2) (.cons (.var 5) (.cons (.var 4) .nil)))))) (.cons (.ret (.lit (.bl false))) .nil) .nil)
abbrev lA (b k : Nat) (gr nm : Bool) (c : Nat) (l : List (Option D)) : Env := some (.ref 0) :: some (.int (k : Int)) :: some (.ref b) :: some (.bl gr) :: some (.bl nm) :: some (.int (c : Int)) :: l
theorem draw1 {b k : Nat} {y3 y4 y5 : Option D} {l : List (Option D)} (q : Nat) (S : Sto) (hb : Bx S b (q + 3)) : ∃ (c : Nat) (gr nm : Bool) (S' : Sto), (1 ≤ c ∧ c ≤ 3) ∧ evS G.sub (rn 22) lB1 (some (.ref 0) :: some (.int (k : Int)) :: some (.ref b) :: y3 :: y4 :: y5 :: l) S = .nx (lA b k gr nm c l) S' ∧ Grow b S S' ∧ Bx S' b q := by
  obtain ⟨d, S1, (e1 : rn 22 _ _ _ = _), d0, d1, g1, b1⟩ := take_ok 21 b (q + 2) 8 S hb (by decide) (by decide)
  obtain ⟨e, S2, (e2 : rn 22 _ _ _ = _), f0, f1, g2, b2⟩ := take_ok 21 b (q + 1) 2 S1 b1 (by decide) (by decide)
  obtain ⟨j, S3, (e3 : rn 22 _ _ _ = _), j0, j1, g3, b3⟩ := take_ok 21 b q 3 S2 b2 (by decide) (by decide)
  obtain ⟨c, hc⟩ : ∃ c : Nat, 1 + j = (c : Int) := ⟨(1 + j).toNat, by omega⟩
  by_cases z : d = 0
  · by_cases z2 : k = 0
    · subst z2
      exact ⟨c, true, decide (e = 0), S3, by omega, by simp [lB1, e1, z, e2, e3, hc, setAll, setE], (g1.trans g2).trans g3, b3⟩
    · exact ⟨c, false, decide (e = 0), S3, by omega, by simp [lB1, e1, z, z2, e2, e3, hc, setAll, setE], (g1.trans g2).trans g3, b3⟩
  · exact ⟨c, false, decide (e = 0), S3, by omega, by simp [lB1, e1, z, e2, e3, hc, setAll, setE], (g1.trans g2).trans g3, b3⟩
theorem wide_ok {b c : Nat} (hc : 1 ≤ c ∧ c ≤ 3) (q : Nat) (S : Sto) (hb : Bx S b (q + 1)) : ∃ (sz : Nat) (S' : Sto), rn 22 f__law_wide [.ref b, .int (c : Int)] S = .ok (.int (sz : Int)) S' ∧ sz ≤ 6 ∧ Grow b S S' ∧ Bx S' b q := by
  rw [show rn 22 f__law_wide [.ref b, .int (c : Int)] S = endB (evSs G.sub (rn 21) d__law_wide.body (startE d__law_wide [.ref b, .int (c : Int)]) S) from run_ref rfl rfl rfl]
  obtain ⟨d, S1, (e1 : rn 21 _ _ _ = _), d0, d1, g1, b1⟩ := take_ok 20 b q 8 S hb (by decide) (by decide)
  obtain ⟨s, hs, s6⟩ : ∃ s : Nat, (∀ S, idxL [.int 6, .int 4, .int 3] (.int ((c : Int) - 1)) S = .ok (.int (s : Int)) S) ∧ s ≤ 6 := by
    rcases (show c = 1 ∨ c = 2 ∨ c = 3 by omega) with rfl | rfl | rfl
    · exact ⟨6, fun _ => rfl, by omega⟩
    · exact ⟨4, fun _ => rfl, by omega⟩
    · exact ⟨3, fun _ => rfl, by omega⟩
  obtain ⟨t, ht, t6⟩ : ∃ s : Nat, (∀ S, idxL [.int 4, .int 3, .int 2] (.int ((c : Int) - 1)) S = .ok (.int (s : Int)) S) ∧ s ≤ 6 := by
    rcases (show c = 1 ∨ c = 2 ∨ c = 3 by omega) with rfl | rfl | rfl
    · exact ⟨4, fun _ => rfl, by omega⟩
    · exact ⟨3, fun _ => rfl, by omega⟩
    · exact ⟨2, fun _ => rfl, by omega⟩
  by_cases z : d = 0
  · exact ⟨s, S1, by simp [d__law_wide, startE, e1, z, line, hs], s6, g1, b1⟩
  · exact ⟨t, S1, by simp [d__law_wide, startE, e1, z, line, ht], t6, g1, b1⟩
theorem law_turn {k : Nat} (ns : List Int) (S : Sto) (ρ : Env) (h0 : S[0]? = some (.ro (ns.map .int))) (hk : k < 100) (hl : ns.length ≤ 63) (hr : ρ.length = 7) (hr0 : ρ[0]? = some (some (.ref 0))) (hr1 : ρ[1]? = some (some (.int (k : Int)))) :
    ∃ (ρ' : Env) (S' : Sto), evSs G.sub (rn 22) (.cons lB0 (.cons lB1 (.cons lB2 (.cons lB3 (.cons lB4 .nil))))) ρ S = .nx ρ' S' ∧ ρ'.length = 7 ∧ ρ'[0]? = some (some (.ref 0)) ∧ S'[0]? = some (.ro (ns.map .int)) := by
  obtain ⟨x2, x3, x4, x5, x6, rfl⟩ : ∃ x2 x3 x4 x5 x6, ρ = [some (.ref 0), some (.int (k : Int)), x2, x3, x4, x5, x6] := by
    match ρ, hr with
    | [y0, y1, y2, y3, y4, y5, y6], _ =>
      cases hr0; cases hr1
      exact ⟨_, _, _, _, _, rfl⟩
  have sl := (List.getElem?_eq_some_iff.mp h0).1
  obtain ⟨x, T, (e1 : rn 22 _ _ _ = _)⟩ := cell_ok 21 ns k S h0 hk hl
  obtain ⟨o, (e2 : rn 22 _ _ _ = _), b2⟩ := box_ok 21 x (S ++ T)
  obtain ⟨b, hb⟩ : ∃ b, b = (S ++ T).length := ⟨_, rfl⟩
  rw [← hb] at e2 b2
  have b0 : 0 ≠ b := by have : (S ++ T).length = S.length + T.length := List.length_append; omega
  have z2 : (S ++ T ++ [o])[0]? = some (.ro (ns.map .int)) := by
    rw [List.append_assoc]; exact (List.getElem?_append_left sl).trans h0
  obtain ⟨c, gr, nm, S3, hc, e3, g3, b3⟩ := draw1 (k := k) (y3 := x3) (y4 := x4) (y5 := x5) (l := [x6]) 900000 _ (b2.less (by omega))
  obtain ⟨sz, S4, e4, s6, g4, b4⟩ : ∃ (sz : Nat) (S4 : Sto), evS G.sub (rn 22) lB2 (lA b k gr nm c [x6]) S3 = .nx (lA b k gr nm c [some (.int (sz : Int))]) S4 ∧ sz ≤ 6 ∧ Grow b S3 S4 ∧ Bx S4 b 800000 := by
    cases gr with
    | true =>
      obtain ⟨s, hs, s6⟩ : ∃ s : Nat, (∀ S, idxL [.int 6, .int 4, .int 3] (.int ((c : Int) - 1)) S = .ok (.int (s : Int)) S) ∧ s ≤ 6 := by
        rcases (show c = 1 ∨ c = 2 ∨ c = 3 by omega) with rfl | rfl | rfl
        · exact ⟨6, fun _ => rfl, by omega⟩
        · exact ⟨4, fun _ => rfl, by omega⟩
        · exact ⟨3, fun _ => rfl, by omega⟩
      exact ⟨s, S3, by simp [lB2, line, hs, setE], s6, Grow.refl .., b3.less (by omega)⟩
    | false =>
      obtain ⟨s, S4, e, s6, g, bx⟩ := wide_ok hc 800000 S3 (b3.less (by omega))
      exact ⟨s, S4, by simp [lB2, e, setE], s6, g, bx⟩
  obtain ⟨mn, hmn, m20⟩ : ∃ mn : Nat, (∀ S l, evE G.sub (rn 22) (.ite (.var 3) (.lit (.int 20)) (.lit (.int 6))) (lA b k gr nm c l) S = .ok (.int (mn : Int)) S) ∧ mn ≤ 20 := by
    cases gr with
    | true => exact ⟨20, fun S l => by simp, by omega⟩
    | false => exact ⟨6, fun S l => by simp, by omega⟩
  obtain ⟨S5, e5, g5, b5⟩ := form_right_ok (nm := nm) sz mn hc s6 m20 700000 S4 (b4.less (by omega))
  obtain ⟨c', hc', c13⟩ : ∃ c' : Nat, (∀ S, idxL [.int 2, .int 3, .int 1] (.int ((c : Int) - 1)) S = .ok (.int (c' : Int)) S) ∧ 1 ≤ c' ∧ c' ≤ 3 := by
    rcases (show c = 1 ∨ c = 2 ∨ c = 3 by omega) with rfl | rfl | rfl
    · exact ⟨2, fun _ => rfl, by omega⟩
    · exact ⟨3, fun _ => rfl, by omega⟩
    · exact ⟨1, fun _ => rfl, by omega⟩
  obtain ⟨S6, e6, g6, b6⟩ := form_right_ok (nm := !nm) 3 4 c13 (by omega) (by omega) 600000 S5 (b5.less (by omega))
  obtain ⟨S7, e7, g7, b7⟩ := refused_right_ok (nm := nm) hc 500000 S6 (b6.less (by omega))
  refine ⟨lA b k gr nm c [some (.int (sz : Int))], S7, ?_, rfl, rfl, ((((g3.trans g4).trans g5).trans g6).trans g7).at_ z2 b0⟩
  have s0 : evS G.sub (rn 22) lB0 [some (.ref 0), some (.int (k : Int)), x2, x3, x4, x5, x6] S = .nx [some (.ref 0), some (.int (k : Int)), some (.ref b), x3, x4, x5, x6] (S ++ T ++ [o]) := by
    simp [lB0, e1, setE]
    rw [List.append_assoc] at e2
    simp [← List.append_assoc, e2, setE]
  have s3 : evS G.sub (rn 22) lB3 (lA b k gr nm c [some (.int (sz : Int))]) S4 = .nx (lA b k gr nm c [some (.int (sz : Int))]) S5 := by
    have hm := hmn S4 [some (.int (sz : Int))]
    generalize hee : (E.ite (.var 3) (.lit (.int 20)) (.lit (.int 6))) = ee at hm
    simp only [lB3, hee]
    simp [hm, e5]
  have s4 : evS G.sub (rn 22) lB4 (lA b k gr nm c [some (.int (sz : Int))]) S5 = .nx (lA b k gr nm c [some (.int (sz : Int))]) S7 := by
    simp at e6
    simp [lB4, line, hc', e6, e7]
  rw [evSs_cons, s0, RS.then_nx, evSs_cons, e3, RS.then_nx, evSs_cons, e4, RS.then_nx, evSs_cons, s3, RS.then_nx, evSs_cons, s4, RS.then_nx, evSs_nil]
theorem law : ∀ ns : List Int, ns.length ≤ 63 → ∃ S, Eg.run G.sub G.T 23 f_law [.ref 0] [.ro (ns.map .int)] = .ok (.bl true) S := by
  intro ns hl
  obtain ⟨B, hB⟩ : ∃ B, B = (Ss.cons lB0 (.cons lB1 (.cons lB2 (.cons lB3 (.cons lB4 .nil))))) := ⟨_, rfl⟩
  rw [show Eg.run G.sub G.T 23 f_law [.ref 0] [.ro (ns.map .int)] = endB (evSs G.sub (rn 22) (.cons (.fr (.nm 1) (.rng1 (.bi .max (.cons (.lit (.int 2)) (.cons (.bi .min (.cons (.lit (.int 4)) (.cons (.bi .len (.cons (.var 0) .nil)) .nil))) .nil)))) (Ss.cons lB0 (.cons lB1 (.cons lB2 (.cons lB3 (.cons lB4 .nil)))))) (.cons (.ret (.lit (.bl true))) .nil)) (startE d_law [.ref 0]) [.ro (ns.map .int)]) from run_ref (n := 22) (d := d_law) rfl rfl rfl, ← hB]
  obtain ⟨M, hM, M1⟩ := many_ok 22 2 4 ns (startE d_law [.ref 0]) (by decide) rfl
  have rg := rng_nat (n := M) (by omega)
  obtain ⟨ρ', S', e, r1, r2, r3⟩ := for_rng (m := M) (tg := .nm 1) (b := B) (sub := G.sub) (c := rn 22) (ρ := startE d_law [.ref 0]) (S := [.ro (ns.map .int)]) rfl (fun i ρ S => ρ.length = 7 ∧ ρ[0]? = some (some (.ref 0)) ∧ S[0]? = some (.ro (ns.map .int))) ⟨rfl, rfl, rfl⟩ (by
    rintro i ρ S hi ⟨r1, r2, r3⟩
    refine ⟨_, rfl, ?_⟩
    obtain ⟨ρ', S', h1, h2, h3, h4⟩ := law_turn (k := i) ns S (setE ρ 1 (.int (i : Int))) r3 (by omega) hl (by simp [setE, r1]) (by rw [setE, List.getElem?_set_ne (by omega), r2]) (by rw [setE, List.getElem?_set_self (by omega)])
    rw [← hB] at h1
    exact ⟨ρ', S', h1, h2, h3, h4⟩)
  refine ⟨S', ?_⟩
  rw [evSs_cons, evS_fr, evI_rng1]
  have hM' : evE G.sub (rn 22) (.bi .max (.cons (.lit (.int 2)) (.cons (.bi .min (.cons (.lit (.int 4)) (.cons (.bi .len (.cons (.var 0) .nil)) .nil))) .nil))) (startE d_law [.ref 0]) [.ro (ns.map .int)] = .ok (.int M) [.ro (ns.map .int)] := hM
  rw [hM']
  simp only [Eg.R.bind_ok, rg, Eg.R.of_some, Eg.R.st_ok, e, RS.then_nx]
  simp
end K12

theorem K12.fin {P : PySem.Program} {w : PySem.World} {K : PySem.W.Frag} {mg : PySem.Str → Option PySem.Value} {fa : PySem.Addr} {h : PySem.Heap} (law : ∀ ns : List Int, ns.length ≤ 63 → ∃ S, Eg.run K12.G.sub K12.G.T 23 K12.f_law [.ref 0] [.ro (ns.map .int)] = .ok (.bl true) S)
    (KX : K.In h) (NX : h.Ns PySem.mainGlobals mg) (hmg : mg "law" = some (.ref fa)) (R : Eg.Read K12.G K (K12.G.cls.map fun c => Eg.adr K (Eg.cs c)))
    (b0 : Eg.defB K K12.d_is_integer = true) (l0 : K.lookup (Eg.adr K (Eg.cs K12.d_is_integer.name)) = Eg.fnShape (Eg.cs K12.d_is_integer.name) (Eg.cs K12.d_is_integer.name) (K12.top 6) (K.lookup (Eg.adr K (Eg.cs K12.d_is_integer.name))))
    (b1 : Eg.defB K K12.d_is_count = true) (l1 : K.lookup (Eg.adr K (Eg.cs K12.d_is_count.name)) = Eg.fnShape (Eg.cs K12.d_is_count.name) (Eg.cs K12.d_is_count.name) (K12.top 7) (K.lookup (Eg.adr K (Eg.cs K12.d_is_count.name))))
    (b2 : Eg.defB K K12.d_is_between = true) (l2 : K.lookup (Eg.adr K (Eg.cs K12.d_is_between.name)) = Eg.fnShape (Eg.cs K12.d_is_between.name) (Eg.cs K12.d_is_between.name) (K12.top 8) (K.lookup (Eg.adr K (Eg.cs K12.d_is_between.name))))
    (b3 : Eg.defB K K12.d_is_tuple = true) (l3 : K.lookup (Eg.adr K (Eg.cs K12.d_is_tuple.name)) = Eg.fnShape (Eg.cs K12.d_is_tuple.name) (Eg.cs K12.d_is_tuple.name) (K12.top 9) (K.lookup (Eg.adr K (Eg.cs K12.d_is_tuple.name))))
    (b4 : Eg.defB K K12.d_divisor = true) (l4 : K.lookup (Eg.adr K (Eg.cs K12.d_divisor.name)) = Eg.fnShape (Eg.cs K12.d_divisor.name) (Eg.cs K12.d_divisor.name) (K12.top 10) (K.lookup (Eg.adr K (Eg.cs K12.d_divisor.name))))
    (b5 : Eg.defB K K12.d_lowest = true) (l5 : K.lookup (Eg.adr K (Eg.cs K12.d_lowest.name)) = Eg.fnShape (Eg.cs K12.d_lowest.name) (Eg.cs K12.d_lowest.name) (K12.top 14) (K.lookup (Eg.adr K (Eg.cs K12.d_lowest.name))))
    (b6 : Eg.defB K K12.d_is_number = true) (l6 : K.lookup (Eg.adr K (Eg.cs K12.d_is_number.name)) = Eg.fnShape (Eg.cs K12.d_is_number.name) (Eg.cs K12.d_is_number.name) (K12.top 15) (K.lookup (Eg.adr K (Eg.cs K12.d_is_number.name))))
    (b7 : Eg.defB K K12.d_is_row = true) (l7 : K.lookup (Eg.adr K (Eg.cs K12.d_is_row.name)) = Eg.fnShape (Eg.cs K12.d_is_row.name) (Eg.cs K12.d_is_row.name) (K12.top 16) (K.lookup (Eg.adr K (Eg.cs K12.d_is_row.name))))
    (b8 : Eg.defB K K12.d_is_row_of = true) (l8 : K.lookup (Eg.adr K (Eg.cs K12.d_is_row_of.name)) = Eg.fnShape (Eg.cs K12.d_is_row_of.name) (Eg.cs K12.d_is_row_of.name) (K12.top 17) (K.lookup (Eg.adr K (Eg.cs K12.d_is_row_of.name))))
    (b9 : Eg.defB K K12.d_sum_of = true) (l9 : K.lookup (Eg.adr K (Eg.cs K12.d_sum_of.name)) = Eg.fnShape (Eg.cs K12.d_sum_of.name) (Eg.cs K12.d_sum_of.name) (K12.top 18) (K.lookup (Eg.adr K (Eg.cs K12.d_sum_of.name))))
    (b10 : Eg.defB K K12.d_product_of = true) (l10 : K.lookup (Eg.adr K (Eg.cs K12.d_product_of.name)) = Eg.fnShape (Eg.cs K12.d_product_of.name) (Eg.cs K12.d_product_of.name) (K12.top 19) (K.lookup (Eg.adr K (Eg.cs K12.d_product_of.name))))
    (b11 : Eg.defB K K12.d_power_of = true) (l11 : K.lookup (Eg.adr K (Eg.cs K12.d_power_of.name)) = Eg.fnShape (Eg.cs K12.d_power_of.name) (Eg.cs K12.d_power_of.name) (K12.top 20) (K.lookup (Eg.adr K (Eg.cs K12.d_power_of.name))))
    (b12 : Eg.defB K K12.d_is_channels = true) (l12 : K.lookup (Eg.adr K (Eg.cs K12.d_is_channels.name)) = Eg.fnShape (Eg.cs K12.d_is_channels.name) (Eg.cs K12.d_is_channels.name) (K12.top 23) (K.lookup (Eg.adr K (Eg.cs K12.d_is_channels.name))))
    (b13 : Eg.defB K K12.d_is_walk = true) (l13 : K.lookup (Eg.adr K (Eg.cs K12.d_is_walk.name)) = Eg.fnShape (Eg.cs K12.d_is_walk.name) (Eg.cs K12.d_is_walk.name) (K12.top 24) (K.lookup (Eg.adr K (Eg.cs K12.d_is_walk.name))))
    (b14 : Eg.defB K K12.d_check_walk = true) (l14 : K.lookup (Eg.adr K (Eg.cs K12.d_check_walk.name)) = Eg.fnShape (Eg.cs K12.d_check_walk.name) (Eg.cs K12.d_check_walk.name) (K12.top 25) (K.lookup (Eg.adr K (Eg.cs K12.d_check_walk.name))))
    (b15 : Eg.defB K K12.d_check_walk_of = true) (l15 : K.lookup (Eg.adr K (Eg.cs K12.d_check_walk_of.name)) = Eg.fnShape (Eg.cs K12.d_check_walk_of.name) (Eg.cs K12.d_check_walk_of.name) (K12.top 26) (K.lookup (Eg.adr K (Eg.cs K12.d_check_walk_of.name))))
    (b16 : Eg.defB K K12.d_check_walks = true) (l16 : K.lookup (Eg.adr K (Eg.cs K12.d_check_walks.name)) = Eg.fnShape (Eg.cs K12.d_check_walks.name) (Eg.cs K12.d_check_walks.name) (K12.top 27) (K.lookup (Eg.adr K (Eg.cs K12.d_check_walks.name))))
    (b17 : Eg.defB K K12.d_step_power = true) (l17 : K.lookup (Eg.adr K (Eg.cs K12.d_step_power.name)) = Eg.fnShape (Eg.cs K12.d_step_power.name) (Eg.cs K12.d_step_power.name) (K12.top 28) (K.lookup (Eg.adr K (Eg.cs K12.d_step_power.name))))
    (b18 : Eg.defB K K12.d_joined_in = true) (l18 : K.lookup (Eg.adr K (Eg.cs K12.d_joined_in.name)) = Eg.fnShape (Eg.cs K12.d_joined_in.name) (Eg.cs K12.d_joined_in.name) (K12.top 29) (K.lookup (Eg.adr K (Eg.cs K12.d_joined_in.name))))
    (b19 : Eg.defB K K12.d_joined = true) (l19 : K.lookup (Eg.adr K (Eg.cs K12.d_joined.name)) = Eg.fnShape (Eg.cs K12.d_joined.name) (Eg.cs K12.d_joined.name) (K12.top 30) (K.lookup (Eg.adr K (Eg.cs K12.d_joined.name))))
    (b20 : Eg.defB K K12.d_is_letter = true) (l20 : K.lookup (Eg.adr K (Eg.cs K12.d_is_letter.name)) = Eg.fnShape (Eg.cs K12.d_is_letter.name) (Eg.cs K12.d_is_letter.name) (K12.top 32) (K.lookup (Eg.adr K (Eg.cs K12.d_is_letter.name))))
    (b21 : Eg.defB K K12.d_is_word_in = true) (l21 : K.lookup (Eg.adr K (Eg.cs K12.d_is_word_in.name)) = Eg.fnShape (Eg.cs K12.d_is_word_in.name) (Eg.cs K12.d_is_word_in.name) (K12.top 33) (K.lookup (Eg.adr K (Eg.cs K12.d_is_word_in.name))))
    (b22 : Eg.defB K K12.d_word_key = true) (l22 : K.lookup (Eg.adr K (Eg.cs K12.d_word_key.name)) = Eg.fnShape (Eg.cs K12.d_word_key.name) (Eg.cs K12.d_word_key.name) (K12.top 34) (K.lookup (Eg.adr K (Eg.cs K12.d_word_key.name))))
    (b23 : Eg.defB K K12.d_sums_along = true) (l23 : K.lookup (Eg.adr K (Eg.cs K12.d_sums_along.name)) = Eg.fnShape (Eg.cs K12.d_sums_along.name) (Eg.cs K12.d_sums_along.name) (K12.top 36) (K.lookup (Eg.adr K (Eg.cs K12.d_sums_along.name))))
    (b24 : Eg.defB K K12.d_sum_on = true) (l24 : K.lookup (Eg.adr K (Eg.cs K12.d_sum_on.name)) = Eg.fnShape (Eg.cs K12.d_sum_on.name) (Eg.cs K12.d_sum_on.name) (K12.top 37) (K.lookup (Eg.adr K (Eg.cs K12.d_sum_on.name))))
    (b25 : Eg.defB K K12.d_is_term = true) (l25 : K.lookup (Eg.adr K (Eg.cs K12.d_is_term.name)) = Eg.fnShape (Eg.cs K12.d_is_term.name) (Eg.cs K12.d_is_term.name) (K12.top 39) (K.lookup (Eg.adr K (Eg.cs K12.d_is_term.name))))
    (b26 : Eg.defB K K12.d_is_form = true) (l26 : K.lookup (Eg.adr K (Eg.cs K12.d_is_form.name)) = Eg.fnShape (Eg.cs K12.d_is_form.name) (Eg.cs K12.d_is_form.name) (K12.top 40) (K.lookup (Eg.adr K (Eg.cs K12.d_is_form.name))))
    (b27 : Eg.defB K K12.d_check_form = true) (l27 : K.lookup (Eg.adr K (Eg.cs K12.d_check_form.name)) = Eg.fnShape (Eg.cs K12.d_check_form.name) (Eg.cs K12.d_check_form.name) (K12.top 41) (K.lookup (Eg.adr K (Eg.cs K12.d_check_form.name))))
    (b28 : Eg.defB K K12.d_told_of = true) (l28 : K.lookup (Eg.adr K (Eg.cs K12.d_told_of.name)) = Eg.fnShape (Eg.cs K12.d_told_of.name) (Eg.cs K12.d_told_of.name) (K12.top 42) (K.lookup (Eg.adr K (Eg.cs K12.d_told_of.name))))
    (b29 : Eg.defB K K12.d_told = true) (l29 : K.lookup (Eg.adr K (Eg.cs K12.d_told.name)) = Eg.fnShape (Eg.cs K12.d_told.name) (Eg.cs K12.d_told.name) (K12.top 43) (K.lookup (Eg.adr K (Eg.cs K12.d_told.name))))
    (b30 : Eg.defB K K12.d_cuts_of = true) (l30 : K.lookup (Eg.adr K (Eg.cs K12.d_cuts_of.name)) = Eg.fnShape (Eg.cs K12.d_cuts_of.name) (Eg.cs K12.d_cuts_of.name) (K12.top 45) (K.lookup (Eg.adr K (Eg.cs K12.d_cuts_of.name))))
    (b31 : Eg.defB K K12.d_cut = true) (l31 : K.lookup (Eg.adr K (Eg.cs K12.d_cut.name)) = Eg.fnShape (Eg.cs K12.d_cut.name) (Eg.cs K12.d_cut.name) (K12.top 46) (K.lookup (Eg.adr K (Eg.cs K12.d_cut.name))))
    (b32 : Eg.defB K K12.d__law_cell = true) (l32 : K.lookup (Eg.adr K (Eg.cs K12.d__law_cell.name)) = Eg.fnShape (Eg.cs K12.d__law_cell.name) (Eg.cs K12.d__law_cell.name) (K12.top 48) (K.lookup (Eg.adr K (Eg.cs K12.d__law_cell.name))))
    (b33 : Eg.defB K K12.d__law_box = true) (l33 : K.lookup (Eg.adr K (Eg.cs K12.d__law_box.name)) = Eg.fnShape (Eg.cs K12.d__law_box.name) (Eg.cs K12.d__law_box.name) (K12.top 49) (K.lookup (Eg.adr K (Eg.cs K12.d__law_box.name))))
    (b34 : Eg.defB K K12.d__law_take = true) (l34 : K.lookup (Eg.adr K (Eg.cs K12.d__law_take.name)) = Eg.fnShape (Eg.cs K12.d__law_take.name) (Eg.cs K12.d__law_take.name) (K12.top 50) (K.lookup (Eg.adr K (Eg.cs K12.d__law_take.name))))
    (b35 : Eg.defB K K12.d__law_low = true) (l35 : K.lookup (Eg.adr K (Eg.cs K12.d__law_low.name)) = Eg.fnShape (Eg.cs K12.d__law_low.name) (Eg.cs K12.d__law_low.name) (K12.top 51) (K.lookup (Eg.adr K (Eg.cs K12.d__law_low.name))))
    (b36 : Eg.defB K K12.d__law_plus = true) (l36 : K.lookup (Eg.adr K (Eg.cs K12.d__law_plus.name)) = Eg.fnShape (Eg.cs K12.d__law_plus.name) (Eg.cs K12.d__law_plus.name) (K12.top 52) (K.lookup (Eg.adr K (Eg.cs K12.d__law_plus.name))))
    (b37 : Eg.defB K K12.d__law_times = true) (l37 : K.lookup (Eg.adr K (Eg.cs K12.d__law_times.name)) = Eg.fnShape (Eg.cs K12.d__law_times.name) (Eg.cs K12.d__law_times.name) (K12.top 53) (K.lookup (Eg.adr K (Eg.cs K12.d__law_times.name))))
    (b38 : Eg.defB K K12.d__law_minus = true) (l38 : K.lookup (Eg.adr K (Eg.cs K12.d__law_minus.name)) = Eg.fnShape (Eg.cs K12.d__law_minus.name) (Eg.cs K12.d__law_minus.name) (K12.top 54) (K.lookup (Eg.adr K (Eg.cs K12.d__law_minus.name))))
    (b39 : Eg.defB K K12.d__law_number = true) (l39 : K.lookup (Eg.adr K (Eg.cs K12.d__law_number.name)) = Eg.fnShape (Eg.cs K12.d__law_number.name) (Eg.cs K12.d__law_number.name) (K12.top 55) (K.lookup (Eg.adr K (Eg.cs K12.d__law_number.name))))
    (b40 : Eg.defB K K12.d__law_step = true) (l40 : K.lookup (Eg.adr K (Eg.cs K12.d__law_step.name)) = Eg.fnShape (Eg.cs K12.d__law_step.name) (Eg.cs K12.d__law_step.name) (K12.top 56) (K.lookup (Eg.adr K (Eg.cs K12.d__law_step.name))))
    (b41 : Eg.defB K K12.d__law_turned = true) (l41 : K.lookup (Eg.adr K (Eg.cs K12.d__law_turned.name)) = Eg.fnShape (Eg.cs K12.d__law_turned.name) (Eg.cs K12.d__law_turned.name) (K12.top 57) (K.lookup (Eg.adr K (Eg.cs K12.d__law_turned.name))))
    (b42 : Eg.defB K K12.d__law_scaled = true) (l42 : K.lookup (Eg.adr K (Eg.cs K12.d__law_scaled.name)) = Eg.fnShape (Eg.cs K12.d__law_scaled.name) (Eg.cs K12.d__law_scaled.name) (K12.top 58) (K.lookup (Eg.adr K (Eg.cs K12.d__law_scaled.name))))
    (b43 : Eg.defB K K12.d__law_steps = true) (l43 : K.lookup (Eg.adr K (Eg.cs K12.d__law_steps.name)) = Eg.fnShape (Eg.cs K12.d__law_steps.name) (Eg.cs K12.d__law_steps.name) (K12.top 59) (K.lookup (Eg.adr K (Eg.cs K12.d__law_steps.name))))
    (b44 : Eg.defB K K12.d__law_at = true) (l44 : K.lookup (Eg.adr K (Eg.cs K12.d__law_at.name)) = Eg.fnShape (Eg.cs K12.d__law_at.name) (Eg.cs K12.d__law_at.name) (K12.top 60) (K.lookup (Eg.adr K (Eg.cs K12.d__law_at.name))))
    (b45 : Eg.defB K K12.d__law_nested = true) (l45 : K.lookup (Eg.adr K (Eg.cs K12.d__law_nested.name)) = Eg.fnShape (Eg.cs K12.d__law_nested.name) (Eg.cs K12.d__law_nested.name) (K12.top 61) (K.lookup (Eg.adr K (Eg.cs K12.d__law_nested.name))))
    (b46 : Eg.defB K K12.d__law_told = true) (l46 : K.lookup (Eg.adr K (Eg.cs K12.d__law_told.name)) = Eg.fnShape (Eg.cs K12.d__law_told.name) (Eg.cs K12.d__law_told.name) (K12.top 62) (K.lookup (Eg.adr K (Eg.cs K12.d__law_told.name))))
    (b47 : Eg.defB K K12.d__law_letter = true) (l47 : K.lookup (Eg.adr K (Eg.cs K12.d__law_letter.name)) = Eg.fnShape (Eg.cs K12.d__law_letter.name) (Eg.cs K12.d__law_letter.name) (K12.top 63) (K.lookup (Eg.adr K (Eg.cs K12.d__law_letter.name))))
    (b48 : Eg.defB K K12.d__law_word = true) (l48 : K.lookup (Eg.adr K (Eg.cs K12.d__law_word.name)) = Eg.fnShape (Eg.cs K12.d__law_word.name) (Eg.cs K12.d__law_word.name) (K12.top 64) (K.lookup (Eg.adr K (Eg.cs K12.d__law_word.name))))
    (b49 : Eg.defB K K12.d__law_key = true) (l49 : K.lookup (Eg.adr K (Eg.cs K12.d__law_key.name)) = Eg.fnShape (Eg.cs K12.d__law_key.name) (Eg.cs K12.d__law_key.name) (K12.top 65) (K.lookup (Eg.adr K (Eg.cs K12.d__law_key.name))))
    (b50 : Eg.defB K K12.d__law_add = true) (l50 : K.lookup (Eg.adr K (Eg.cs K12.d__law_add.name)) = Eg.fnShape (Eg.cs K12.d__law_add.name) (Eg.cs K12.d__law_add.name) (K12.top 66) (K.lookup (Eg.adr K (Eg.cs K12.d__law_add.name))))
    (b51 : Eg.defB K K12.d__law_form_of = true) (l51 : K.lookup (Eg.adr K (Eg.cs K12.d__law_form_of.name)) = Eg.fnShape (Eg.cs K12.d__law_form_of.name) (Eg.cs K12.d__law_form_of.name) (K12.top 67) (K.lookup (Eg.adr K (Eg.cs K12.d__law_form_of.name))))
    (b52 : Eg.defB K K12.d__law_form = true) (l52 : K.lookup (Eg.adr K (Eg.cs K12.d__law_form.name)) = Eg.fnShape (Eg.cs K12.d__law_form.name) (Eg.cs K12.d__law_form.name) (K12.top 68) (K.lookup (Eg.adr K (Eg.cs K12.d__law_form.name))))
    (b53 : Eg.defB K K12.d__law_same = true) (l53 : K.lookup (Eg.adr K (Eg.cs K12.d__law_same.name)) = Eg.fnShape (Eg.cs K12.d__law_same.name) (Eg.cs K12.d__law_same.name) (K12.top 69) (K.lookup (Eg.adr K (Eg.cs K12.d__law_same.name))))
    (b54 : Eg.defB K K12.d__law_blamed = true) (l54 : K.lookup (Eg.adr K (Eg.cs K12.d__law_blamed.name)) = Eg.fnShape (Eg.cs K12.d__law_blamed.name) (Eg.cs K12.d__law_blamed.name) (K12.top 70) (K.lookup (Eg.adr K (Eg.cs K12.d__law_blamed.name))))
    (b55 : Eg.defB K K12.d__law_no_form = true) (l55 : K.lookup (Eg.adr K (Eg.cs K12.d__law_no_form.name)) = Eg.fnShape (Eg.cs K12.d__law_no_form.name) (Eg.cs K12.d__law_no_form.name) (K12.top 71) (K.lookup (Eg.adr K (Eg.cs K12.d__law_no_form.name))))
    (b56 : Eg.defB K K12.d__law_wide = true) (l56 : K.lookup (Eg.adr K (Eg.cs K12.d__law_wide.name)) = Eg.fnShape (Eg.cs K12.d__law_wide.name) (Eg.cs K12.d__law_wide.name) (K12.top 72) (K.lookup (Eg.adr K (Eg.cs K12.d__law_wide.name))))
    (b57 : Eg.defB K K12.d__law_asked = true) (l57 : K.lookup (Eg.adr K (Eg.cs K12.d__law_asked.name)) = Eg.fnShape (Eg.cs K12.d__law_asked.name) (Eg.cs K12.d__law_asked.name) (K12.top 73) (K.lookup (Eg.adr K (Eg.cs K12.d__law_asked.name))))
    (b58 : Eg.defB K K12.d__law_due = true) (l58 : K.lookup (Eg.adr K (Eg.cs K12.d__law_due.name)) = Eg.fnShape (Eg.cs K12.d__law_due.name) (Eg.cs K12.d__law_due.name) (K12.top 74) (K.lookup (Eg.adr K (Eg.cs K12.d__law_due.name))))
    (b59 : Eg.defB K K12.d__law_across = true) (l59 : K.lookup (Eg.adr K (Eg.cs K12.d__law_across.name)) = Eg.fnShape (Eg.cs K12.d__law_across.name) (Eg.cs K12.d__law_across.name) (K12.top 75) (K.lookup (Eg.adr K (Eg.cs K12.d__law_across.name))))
    (b60 : Eg.defB K K12.d__law_form_right = true) (l60 : K.lookup (Eg.adr K (Eg.cs K12.d__law_form_right.name)) = Eg.fnShape (Eg.cs K12.d__law_form_right.name) (Eg.cs K12.d__law_form_right.name) (K12.top 76) (K.lookup (Eg.adr K (Eg.cs K12.d__law_form_right.name))))
    (b61 : Eg.defB K K12.d__law_refused_right = true) (l61 : K.lookup (Eg.adr K (Eg.cs K12.d__law_refused_right.name)) = Eg.fnShape (Eg.cs K12.d__law_refused_right.name) (Eg.cs K12.d__law_refused_right.name) (K12.top 77) (K.lookup (Eg.adr K (Eg.cs K12.d__law_refused_right.name))))
    (b62 : Eg.defB K K12.d_law = true) (l62 : K.lookup (Eg.adr K (Eg.cs K12.d_law.name)) = Eg.fnShape (Eg.cs K12.d_law.name) (Eg.cs K12.d_law.name) (K12.top 78) (K.lookup (Eg.adr K (Eg.cs K12.d_law.name))))
    (bB : Eg.baseB K (Eg.adr K "LookError") = true) (bA : Eg.adrB K "LookError" = true)
    (x0 : Eg.exB K ((K12.G.cls.map fun c => Eg.adr K (Eg.cs c)).getD K12.c_InvalidForm 0) [[103, 105, 118, 101, 110]] "InvalidForm.__init__" = true) (y0 : K.lookup ((K12.G.cls.map fun c => Eg.adr K (Eg.cs c)).getD K12.c_InvalidForm 0) = Eg.exShape ((K12.G.cls.map fun c => Eg.adr K (Eg.cs c)).getD K12.c_InvalidForm 0) (K.lookup ((K12.G.cls.map fun c => Eg.adr K (Eg.cs c)).getD K12.c_InvalidForm 0))) (z0 : K.lookup (Eg.iniAt K ((K12.G.cls.map fun c => Eg.adr K (Eg.cs c)).getD K12.c_InvalidForm 0)) = Eg.fnShape "__init__" "InvalidForm.__init__" (L2.inClass (K12.top 2) 0) (K.lookup (Eg.iniAt K ((K12.G.cls.map fun c => Eg.adr K (Eg.cs c)).getD K12.c_InvalidForm 0))))
    (x1 : Eg.exB K ((K12.G.cls.map fun c => Eg.adr K (Eg.cs c)).getD K12.c_InvalidOther 0) [[103, 105, 118, 101, 110]] "InvalidOther.__init__" = true) (y1 : K.lookup ((K12.G.cls.map fun c => Eg.adr K (Eg.cs c)).getD K12.c_InvalidOther 0) = Eg.exShape ((K12.G.cls.map fun c => Eg.adr K (Eg.cs c)).getD K12.c_InvalidOther 0) (K.lookup ((K12.G.cls.map fun c => Eg.adr K (Eg.cs c)).getD K12.c_InvalidOther 0))) (z1 : K.lookup (Eg.iniAt K ((K12.G.cls.map fun c => Eg.adr K (Eg.cs c)).getD K12.c_InvalidOther 0)) = Eg.fnShape "__init__" "InvalidOther.__init__" (L2.inClass (K12.top 3) 0) (K.lookup (Eg.iniAt K ((K12.G.cls.map fun c => Eg.adr K (Eg.cs c)).getD K12.c_InvalidOther 0))))
    (x2 : Eg.exB K ((K12.G.cls.map fun c => Eg.adr K (Eg.cs c)).getD K12.c_InvalidWalk 0) [[103, 105, 118, 101, 110]] "InvalidWalk.__init__" = true) (y2 : K.lookup ((K12.G.cls.map fun c => Eg.adr K (Eg.cs c)).getD K12.c_InvalidWalk 0) = Eg.exShape ((K12.G.cls.map fun c => Eg.adr K (Eg.cs c)).getD K12.c_InvalidWalk 0) (K.lookup ((K12.G.cls.map fun c => Eg.adr K (Eg.cs c)).getD K12.c_InvalidWalk 0))) (z2 : K.lookup (Eg.iniAt K ((K12.G.cls.map fun c => Eg.adr K (Eg.cs c)).getD K12.c_InvalidWalk 0)) = Eg.fnShape "__init__" "InvalidWalk.__init__" (L2.inClass (K12.top 4) 0) (K.lookup (Eg.iniAt K ((K12.G.cls.map fun c => Eg.adr K (Eg.cs c)).getD K12.c_InvalidWalk 0))))
    : ∃ fd : PySem.FuncData, (∀ (s : PySem.Shared) (u : PySem.Value), PySem.BindsTo s fd ⟨[u], []⟩ [(("script" : PySem.Str), u)]) ∧ ∀ base : PySem.Heap, K.In base → base.Ns PySem.mainGlobals mg → L2.FnOk P w K mg base (L2.CX P w) (23 + 3) fa fd [("script" : PySem.Str)] (Eg.spLaw K) := by
  have F := Eg.baseF_of bB
  have hm : mg "LookError" = some (.ref (Eg.adr K "LookError")) := PySem.W.mg_of KX NX (Eg.adr_ok bA).1
  exact Eg.law_ok (d := K12.d_law) (i := K12.f_law) KX NX hmg R (.cons (Eg.def_of KX NX K12.ok_is_integer K12.bi_is_integer K12.kw_is_integer b0 l0) (.cons (Eg.def_of KX NX K12.ok_is_count K12.bi_is_count K12.kw_is_count b1 l1) (.cons (Eg.def_of KX NX K12.ok_is_between K12.bi_is_between K12.kw_is_between b2 l2) (.cons (Eg.def_of KX NX K12.ok_is_tuple K12.bi_is_tuple K12.kw_is_tuple b3 l3) (.cons (Eg.def_of KX NX K12.ok_divisor K12.bi_divisor K12.kw_divisor b4 l4) (.cons (Eg.def_of KX NX K12.ok_lowest K12.bi_lowest K12.kw_lowest b5 l5) (.cons (Eg.def_of KX NX K12.ok_is_number K12.bi_is_number K12.kw_is_number b6 l6) (.cons (Eg.def_of KX NX K12.ok_is_row K12.bi_is_row K12.kw_is_row b7 l7) (.cons (Eg.def_of KX NX K12.ok_is_row_of K12.bi_is_row_of K12.kw_is_row_of b8 l8) (.cons (Eg.def_of KX NX K12.ok_sum_of K12.bi_sum_of K12.kw_sum_of b9 l9) (.cons (Eg.def_of KX NX K12.ok_product_of K12.bi_product_of K12.kw_product_of b10 l10) (.cons (Eg.def_of KX NX K12.ok_power_of K12.bi_power_of K12.kw_power_of b11 l11) (.cons (Eg.def_of KX NX K12.ok_is_channels K12.bi_is_channels K12.kw_is_channels b12 l12) (.cons (Eg.def_of KX NX K12.ok_is_walk K12.bi_is_walk K12.kw_is_walk b13 l13) (.cons (Eg.def_of KX NX K12.ok_check_walk K12.bi_check_walk K12.kw_check_walk b14 l14) (.cons (Eg.def_of KX NX K12.ok_check_walk_of K12.bi_check_walk_of K12.kw_check_walk_of b15 l15) (.cons (Eg.def_of KX NX K12.ok_check_walks K12.bi_check_walks K12.kw_check_walks b16 l16) (.cons (Eg.def_of KX NX K12.ok_step_power K12.bi_step_power K12.kw_step_power b17 l17) (.cons (Eg.def_of KX NX K12.ok_joined_in K12.bi_joined_in K12.kw_joined_in b18 l18) (.cons (Eg.def_of KX NX K12.ok_joined K12.bi_joined K12.kw_joined b19 l19) (.cons (Eg.def_of KX NX K12.ok_is_letter K12.bi_is_letter K12.kw_is_letter b20 l20) (.cons (Eg.def_of KX NX K12.ok_is_word_in K12.bi_is_word_in K12.kw_is_word_in b21 l21) (.cons (Eg.def_of KX NX K12.ok_word_key K12.bi_word_key K12.kw_word_key b22 l22) (.cons (Eg.def_of KX NX K12.ok_sums_along K12.bi_sums_along K12.kw_sums_along b23 l23) (.cons (Eg.def_of KX NX K12.ok_sum_on K12.bi_sum_on K12.kw_sum_on b24 l24) (.cons (Eg.def_of KX NX K12.ok_is_term K12.bi_is_term K12.kw_is_term b25 l25) (.cons (Eg.def_of KX NX K12.ok_is_form K12.bi_is_form K12.kw_is_form b26 l26) (.cons (Eg.def_of KX NX K12.ok_check_form K12.bi_check_form K12.kw_check_form b27 l27) (.cons (Eg.def_of KX NX K12.ok_told_of K12.bi_told_of K12.kw_told_of b28 l28) (.cons (Eg.def_of KX NX K12.ok_told K12.bi_told K12.kw_told b29 l29) (.cons (Eg.def_of KX NX K12.ok_cuts_of K12.bi_cuts_of K12.kw_cuts_of b30 l30) (.cons (Eg.def_of KX NX K12.ok_cut K12.bi_cut K12.kw_cut b31 l31) (.cons (Eg.def_of KX NX K12.ok__law_cell K12.bi__law_cell K12.kw__law_cell b32 l32) (.cons (Eg.def_of KX NX K12.ok__law_box K12.bi__law_box K12.kw__law_box b33 l33) (.cons (Eg.def_of KX NX K12.ok__law_take K12.bi__law_take K12.kw__law_take b34 l34) (.cons (Eg.def_of KX NX K12.ok__law_low K12.bi__law_low K12.kw__law_low b35 l35) (.cons (Eg.def_of KX NX K12.ok__law_plus K12.bi__law_plus K12.kw__law_plus b36 l36) (.cons (Eg.def_of KX NX K12.ok__law_times K12.bi__law_times K12.kw__law_times b37 l37) (.cons (Eg.def_of KX NX K12.ok__law_minus K12.bi__law_minus K12.kw__law_minus b38 l38) (.cons (Eg.def_of KX NX K12.ok__law_number K12.bi__law_number K12.kw__law_number b39 l39) (.cons (Eg.def_of KX NX K12.ok__law_step K12.bi__law_step K12.kw__law_step b40 l40) (.cons (Eg.def_of KX NX K12.ok__law_turned K12.bi__law_turned K12.kw__law_turned b41 l41) (.cons (Eg.def_of KX NX K12.ok__law_scaled K12.bi__law_scaled K12.kw__law_scaled b42 l42) (.cons (Eg.def_of KX NX K12.ok__law_steps K12.bi__law_steps K12.kw__law_steps b43 l43) (.cons (Eg.def_of KX NX K12.ok__law_at K12.bi__law_at K12.kw__law_at b44 l44) (.cons (Eg.def_of KX NX K12.ok__law_nested K12.bi__law_nested K12.kw__law_nested b45 l45) (.cons (Eg.def_of KX NX K12.ok__law_told K12.bi__law_told K12.kw__law_told b46 l46) (.cons (Eg.def_of KX NX K12.ok__law_letter K12.bi__law_letter K12.kw__law_letter b47 l47) (.cons (Eg.def_of KX NX K12.ok__law_word K12.bi__law_word K12.kw__law_word b48 l48) (.cons (Eg.def_of KX NX K12.ok__law_key K12.bi__law_key K12.kw__law_key b49 l49) (.cons (Eg.def_of KX NX K12.ok__law_add K12.bi__law_add K12.kw__law_add b50 l50) (.cons (Eg.def_of KX NX K12.ok__law_form_of K12.bi__law_form_of K12.kw__law_form_of b51 l51) (.cons (Eg.def_of KX NX K12.ok__law_form K12.bi__law_form K12.kw__law_form b52 l52) (.cons (Eg.def_of KX NX K12.ok__law_same K12.bi__law_same K12.kw__law_same b53 l53) (.cons (Eg.def_of KX NX K12.ok__law_blamed K12.bi__law_blamed K12.kw__law_blamed b54 l54) (.cons (Eg.def_of KX NX K12.ok__law_no_form K12.bi__law_no_form K12.kw__law_no_form b55 l55) (.cons (Eg.def_of KX NX K12.ok__law_wide K12.bi__law_wide K12.kw__law_wide b56 l56) (.cons (Eg.def_of KX NX K12.ok__law_asked K12.bi__law_asked K12.kw__law_asked b57 l57) (.cons (Eg.def_of KX NX K12.ok__law_due K12.bi__law_due K12.kw__law_due b58 l58) (.cons (Eg.def_of KX NX K12.ok__law_across K12.bi__law_across K12.kw__law_across b59 l59) (.cons (Eg.def_of KX NX K12.ok__law_form_right K12.bi__law_form_right K12.kw__law_form_right b60 l60) (.cons (Eg.def_of KX NX K12.ok__law_refused_right K12.bi__law_refused_right K12.kw__law_refused_right b61 l61) (.cons (Eg.def_of KX NX K12.ok_law K12.bi_law K12.kw_law b62 l62) .nil))))))))))))))))))))))))))))))))))))))))))))))))))))))))))))))) (fun base => List.forall_mem_cons.mpr ⟨Eg.exK_of F hm x0 y0 z0 K12.is_InvalidForm.1 K12.is_InvalidForm.2 K12.ib_InvalidForm, List.forall_mem_cons.mpr ⟨Eg.exK_of F hm x1 y1 z1 K12.is_InvalidOther.1 K12.is_InvalidOther.2 K12.ib_InvalidOther, List.forall_mem_cons.mpr ⟨Eg.exK_of F hm x2 y2 z2 K12.is_InvalidWalk.1 K12.is_InvalidWalk.2 K12.ib_InvalidWalk, fun _ h => absurd h (by simp)⟩⟩⟩) rfl (by decide +kernel) (by decide +kernel) law

open PySem PySem.W PyProof.Rows in
set_option maxRecDepth 100000 in
set_option maxHeartbeats 0 in
theorem PySem.Challenge.cw_eightlooks_k12_whole_cuts_of_words_at_jo_holds : PySem.Challenge.rw_eightlooks_k12_whole_cuts_of_words_at_jo.Holds := by
  w_on; o_law; k_head; (case hw => w_witness2)
  k_fill
  refine Eg.law_walk (n := 23) (l := PySem.Challenge.rw_eightlooks_k12_whole_cuts_of_words_at_jo) rfl rfl ⟨rfl, by decide, by decide⟩ (fun w h Y => PySem.W.kIn_of Y) ?F
  case F =>
    intro w mg fa h KX NX hmg
    refine' K12.fin K12.law KX NX hmg ⟨?_, ?_, rfl, ?_, ?_, ?_, ?_⟩ ?_ ?_ ?_ ?_ ?_ ?_ ?_ ?_ ?_ ?_ ?_ ?_ ?_ ?_ ?_ ?_ ?_ ?_ ?_ ?_ ?_ ?_ ?_ ?_ ?_ ?_ ?_ ?_ ?_ ?_ ?_ ?_ ?_ ?_ ?_ ?_ ?_ ?_ ?_ ?_ ?_ ?_ ?_ ?_ ?_ ?_ ?_ ?_ ?_ ?_ ?_ ?_ ?_ ?_ ?_ ?_ ?_ ?_ ?_ ?_ ?_ ?_ ?_ ?_ ?_ ?_ ?_ ?_ ?_ ?_ ?_ ?_ ?_ ?_ ?_ ?_ ?_ ?_ ?_ ?_ ?_ ?_ ?_ ?_ ?_ ?_ ?_ ?_ ?_ ?_ ?_ ?_ ?_ ?_ ?_ ?_ ?_ ?_ ?_ ?_ ?_ ?_ ?_ ?_ ?_ ?_ ?_ ?_ ?_ ?_ ?_ ?_ ?_ ?_ ?_ ?_ ?_ ?_ ?_ ?_ ?_ ?_ ?_ ?_ ?_ ?_ ?_ ?_ ?_ ?_ ?_ ?_ ?_ ?_ ?_ ?_ ?_ <;> kernel_rfl

